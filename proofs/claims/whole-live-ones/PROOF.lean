import PyProof.Rows.All
import Wide.All
import OpenK.AllK
import Wide.FinOn
import HandS.ForMost
import HandS.Zip
import HandS.Walk
import KE.GoesMore
import KE.GoesEnum
import HandS.ForExc
import HandS.Wide
import HandS.IsInst
import HandS.TupAny
import HandS.Star
import HandS.Style
import HandS.Small
import HandS.SortInts
import HandS.Defaults
import HandS.Flow
import HandS.Steps
import PySem.Challenge.RW_costpapers_k06_whole_live_ones
import HandS.HeadEnd
import HandS.Head0
import HandS.Head1
import HandS.Head2
import HandS.HeadHook1
import HandS.HeadHook2
import KE.KStateDown
set_option Elab.async false
set_option linter.all false
-- KDet
/-! Sums over initial segments; a determinant by Laplace along coordinate 0: multilinear, alternating, one at the unit, bounded. -/
set_option maxHeartbeats 1000000
namespace K6
def sI : Nat → (Nat → Int) → Int
  | 0, _ => 0
  | n + 1, f => sI n f + f n
theorem sI_congr {f g : Nat → Int} : ∀ {n : Nat}, (∀ i, i < n → f i = g i) → sI n f = sI n g
  | 0, _ => rfl
  | n + 1, h => by
    show sI n f + f n = sI n g + g n
    rw [sI_congr fun i hi => h i (Nat.lt_succ_of_lt hi), h n (Nat.lt_succ_self n)]
theorem sI_add (f g : Nat → Int) : ∀ n, sI n (fun i => f i + g i) = sI n f + sI n g
  | 0 => rfl
  | n + 1 => by
    show sI n (fun i => f i + g i) + (f n + g n) = (sI n f + f n) + (sI n g + g n)
    rw [sI_add f g n]; omega
theorem sI_sub (f g : Nat → Int) : ∀ n, sI n (fun i => f i - g i) = sI n f - sI n g
  | 0 => rfl
  | n + 1 => by
    show sI n (fun i => f i - g i) + (f n - g n) = (sI n f + f n) - (sI n g + g n)
    rw [sI_sub f g n]; omega
theorem sI_mul (c : Int) (f : Nat → Int) : ∀ n, sI n (fun i => c * f i) = c * sI n f
  | 0 => (Int.mul_zero c).symm
  | n + 1 => by
    show sI n (fun i => c * f i) + c * f n = c * (sI n f + f n)
    rw [sI_mul c f n, Int.mul_add]
theorem sI_mul_right (c : Int) (f : Nat → Int) (n : Nat) : sI n (fun i => f i * c) = sI n f * c := by
  rw [Int.mul_comm, ← sI_mul]
  exact sI_congr fun i _ => Int.mul_comm _ _
theorem sI_zero {f : Nat → Int} : ∀ {n : Nat}, (∀ i, i < n → f i = 0) → sI n f = 0
  | 0, _ => rfl
  | n + 1, h => by
    show sI n f + f n = 0
    rw [sI_zero fun i hi => h i (Nat.lt_succ_of_lt hi), h n (Nat.lt_succ_self n)]; rfl
theorem sI_one {f : Nat → Int} {k : Nat} : ∀ {n : Nat}, k < n → (∀ i, i < n → i ≠ k → f i = 0) → sI n f = f k
  | 0, hk, _ => absurd hk (Nat.not_lt_zero k)
  | n + 1, hk, h => by
    show sI n f + f n = f k
    by_cases e : k = n
    · subst e
      rw [sI_zero fun i hi => h i (Nat.lt_succ_of_lt hi) (Nat.ne_of_lt hi), Int.zero_add]
    · rw [sI_one (k := k) (n := n) (by omega) fun i hi => h i (Nat.lt_succ_of_lt hi), h n (Nat.lt_succ_self n) (fun q => e q.symm), Int.add_zero]
theorem sI_two {f : Nat → Int} {a b : Nat} : ∀ {n : Nat}, a < b → b < n → (∀ i, i < n → i ≠ a → i ≠ b → f i = 0) → sI n f = f a + f b
  | 0, _, hk, _ => absurd hk (Nat.not_lt_zero b)
  | n + 1, hab, hk, h => by
    show sI n f + f n = f a + f b
    by_cases e : b = n
    · subst e
      rw [sI_one (k := a) hab fun i hi hia => h i (Nat.lt_succ_of_lt hi) hia (Nat.ne_of_lt hi)]
    · rw [sI_two (n := n) hab (by omega) fun i hi => h i (Nat.lt_succ_of_lt hi), h n (Nat.lt_succ_self n) (by omega) (fun q => e q.symm), Int.add_zero]
theorem sI_comm (f : Nat → Nat → Int) (m : Nat) : ∀ n, sI n (fun i => sI m (f i)) = sI m (fun j => sI n (fun i => f i j))
  | 0 => (sI_zero fun _ _ => rfl).symm
  | n + 1 => by
    show sI n (fun i => sI m (f i)) + sI m (f n) = _
    rw [sI_comm f m n, ← sI_add]
    exact sI_congr fun _ _ => rfl
theorem sI_nonneg {f : Nat → Int} : ∀ {n : Nat}, (∀ i, i < n → 0 ≤ f i) → 0 ≤ sI n f
  | 0, _ => Int.le_refl 0
  | n + 1, h => Int.add_nonneg (sI_nonneg fun i hi => h i (Nat.lt_succ_of_lt hi)) (h n (Nat.lt_succ_self n))
theorem sI_le_abs {f : Nat → Int} {M : Nat} : ∀ {n : Nat}, (∀ i, i < n → (f i).natAbs ≤ M) → (sI n f).natAbs ≤ n * M
  | 0, _ => by simp [sI]
  | n + 1, h => by
    have h1 := sI_le_abs (n := n) (fun i hi => h i (Nat.lt_succ_of_lt hi))
    have h2 := h n (Nat.lt_succ_self n)
    show (sI n f + f n).natAbs ≤ (n + 1) * M
    have h3 := Int.natAbs_add_le (sI n f) (f n)
    rw [Nat.succ_mul]; omega
def skip (k i : Nat) : Nat := if i < k then i else i + 1
def unskip (k i : Nat) : Nat := if i < k then i else i - 1
def sgn (k : Nat) : Int := if k % 2 = 0 then 1 else -1
def minor (v : Nat → Nat → Int) (k : Nat) : Nat → Nat → Int := fun i r => v (skip k i) (r + 1)
def D : Nat → (Nat → Nat → Int) → Int
  | 0, _ => 1
  | m + 1, v => sI (m + 1) (fun k => sgn k * v k 0 * D m (minor v k))
def put {α : Type} (v : Nat → α) (i : Nat) (x : α) : Nat → α := fun k => if k = i then x else v k
theorem put_same {α : Type} (v : Nat → α) (i : Nat) (x : α) : put v i x i = x := if_pos rfl
theorem put_ne {α : Type} (v : Nat → α) {i k : Nat} (x : α) (h : k ≠ i) : put v i x k = v k := if_neg h
theorem put_self {α : Type} (v : Nat → α) (i : Nat) : put v i (v i) = v := by
  funext k; unfold put; split
  · next h => rw [h]
  · rfl
theorem put_put {α : Type} (v : Nat → α) (i : Nat) (x y : α) : put (put v i x) i y = put v i y := by
  funext k; unfold put; split <;> rfl
theorem put_comm {α : Type} (v : Nat → α) {i j : Nat} (x y : α) (h : i ≠ j) : put (put v i x) j y = put (put v j y) i x := by
  funext k; unfold put
  by_cases e1 : k = j
  · subst e1; rw [if_pos rfl, if_neg (fun q => h q.symm), if_pos rfl]
  · rw [if_neg e1]
    by_cases e2 : k = i
    · rw [if_pos e2, if_pos e2]
    · rw [if_neg e2, if_neg e2, if_neg e1]
theorem skip_lt {k i m : Nat} (h : i < m) : skip k i < m + 1 := by unfold skip; split <;> omega
theorem D_congr : ∀ {m : Nat} {v w : Nat → Nat → Int}, (∀ i, i < m → ∀ r, r < m → v i r = w i r) → D m v = D m w
  | 0, _, _, _ => rfl
  | m + 1, v, w, h => sI_congr fun k hk => by
    rw [h k hk 0 (by omega), D_congr (m := m) (v := minor v k) (w := minor w k) fun i hi r hr => h _ (skip_lt hi) _ (by omega)]
theorem skip_eq {k i j : Nat} (h : k ≠ i) : (skip k j = i ↔ j = unskip k i) := by
  unfold skip unskip
  split <;> split <;> omega
theorem skip_ne {k j : Nat} : skip k j ≠ k := by unfold skip; split <;> omega
theorem minor_put_ne {v : Nat → Nat → Int} {k i : Nat} (x : Nat → Int) (h : k ≠ i) : minor (put v i x) k = put (minor v k) (unskip k i) (fun r => x (r + 1)) := by
  funext j r
  unfold minor put
  by_cases e : skip k j = i
  · rw [if_pos e, if_pos ((skip_eq h).mp e)]
  · rw [if_neg e, if_neg (fun q => e ((skip_eq h).mpr q))]
theorem minor_put_eq {v : Nat → Nat → Int} {k : Nat} (x : Nat → Int) : minor (put v k x) k = minor v k := by
  funext j r
  unfold minor put
  rw [if_neg skip_ne]
theorem unskip_lt {k i m : Nat} (hk : k < m + 1) (h : i < m + 1) (e : k ≠ i) : unskip k i < m := by unfold unskip; split <;> omega
theorem D_lin : ∀ {m : Nat} (v : Nat → Nat → Int) {i : Nat} (a b : Int) (x y : Nat → Int), i < m →
    D m (put v i (fun r => a * x r + b * y r)) = a * D m (put v i x) + b * D m (put v i y)
  | 0, _, _, _, _, _, _, hi => absurd hi (Nat.not_lt_zero _)
  | m + 1, v, i, a, b, x, y, hi => by
    show sI (m + 1) _ = a * sI (m + 1) _ + b * sI (m + 1) _
    rw [← sI_mul, ← sI_mul, ← sI_add]
    refine sI_congr fun k hk => ?_
    by_cases e : k = i
    · subst e
      rw [minor_put_eq, minor_put_eq, minor_put_eq, put_same, put_same, put_same]
      grind
    · rw [minor_put_ne _ e, minor_put_ne _ e, minor_put_ne _ e, put_ne _ _ e, put_ne _ _ e, put_ne _ _ e]
      rw [D_lin (m := m) (minor v k) a b (fun r => x (r + 1)) (fun r => y (r + 1)) (unskip_lt hk hi e)]
      grind
theorem D_add {m : Nat} (v : Nat → Nat → Int) {i : Nat} (x y : Nat → Int) (h : i < m) : D m (put v i (fun r => x r + y r)) = D m (put v i x) + D m (put v i y) := by
  have q := D_lin v 1 1 x y h
  simpa using q
theorem D_smul {m : Nat} (v : Nat → Nat → Int) {i : Nat} (a : Int) (x : Nat → Int) (h : i < m) : D m (put v i (fun r => a * x r)) = a * D m (put v i x) := by
  have q := D_lin v a 0 x x h
  simpa using q
theorem sgn_succ (k : Nat) : sgn (k + 1) = - sgn k := by unfold sgn; split <;> split <;> omega
/-- two neighbours that are alike -/
theorem D_adj : ∀ {m : Nat} (v : Nat → Nat → Int) {i : Nat}, i + 1 < m → (∀ r, r < m → v i r = v (i + 1) r) → D m v = 0
  | 0, _, _, h, _ => absurd h (Nat.not_lt_zero _)
  | m + 1, v, i, hi, h => by
    show sI (m + 1) _ = 0
    rw [sI_two (a := i) (b := i + 1) (Nat.lt_succ_self i) hi]
    · have e : D m (minor v i) = D m (minor v (i + 1)) := by
        refine D_congr fun j hj r hr => ?_
        unfold minor skip
        by_cases c1 : j < i
        · rw [if_pos c1, if_pos (Nat.lt_succ_of_lt c1)]
        · by_cases c2 : j = i
          · subst c2; rw [if_neg c1, if_pos (Nat.lt_succ_self _)]; exact (h _ (by omega)).symm
          · rw [if_neg c1, if_neg (by omega)]
      rw [e, sgn_succ, h 0 (by omega)]
      grind
    · intro k hk k1 k2
      have : D m (minor v k) = 0 := by
        by_cases c : k < i
        · refine D_adj (m := m) (minor v k) (i := i - 1) (by omega) fun r hr => ?_
          unfold minor skip
          rw [if_neg (by omega), if_neg (by omega)]
          have e : i - 1 + 1 = i := by omega
          rw [e]; exact h _ (by omega)
        · refine D_adj (m := m) (minor v k) (i := i) (by omega) fun r hr => ?_
          unfold minor skip
          rw [if_pos (by omega), if_pos (by omega)]
          exact h _ (by omega)
      rw [this, Int.mul_zero]
theorem D_swap {m : Nat} (v : Nat → Nat → Int) {i : Nat} (x y : Nat → Int) (h : i + 1 < m) : D m (put (put v i x) (i + 1) y) = - D m (put (put v i y) (i + 1) x) := by
  have hi : i < m := by omega
  have ne : i ≠ i + 1 := by omega
  have z : ∀ u : Nat → Int, D m (put (put v i u) (i + 1) u) = 0 := fun u => D_adj _ h fun r _ => by
    rw [put_ne _ _ ne, put_same, put_same]
  have q := z (fun r => x r + y r)
  rw [D_add _ _ _ h, put_comm _ _ _ ne, put_comm _ _ _ ne, D_add _ _ _ hi, D_add _ _ _ hi, put_comm _ _ _ (Ne.symm ne), put_comm _ _ _ (Ne.symm ne), put_comm _ _ _ (Ne.symm ne), put_comm _ _ _ (Ne.symm ne), z, z] at q
  omega
/-- two that are alike -/
theorem D_alt {m : Nat} : ∀ (d : Nat) (v : Nat → Nat → Int) {i j : Nat}, j = i + 1 + d → j < m → (∀ r, r < m → v i r = v j r) → D m v = 0
  | 0, v, i, j, e, hj, h => by subst e; exact D_adj v hj h
  | d + 1, v, i, j, e, hj, h => by
    obtain ⟨p, rfl⟩ : ∃ p, j = p + 1 := ⟨j - 1, by omega⟩
    have e0 : D m v = D m (put (put v p (v p)) (p + 1) (v (p + 1))) := by rw [put_self, put_self]
    rw [e0, D_swap _ _ _ hj, D_alt d (i := i) (j := p) _ (by omega) (by omega) fun r hr => ?_]
    · rfl
    · rw [put_ne _ _ (by omega), put_ne _ _ (by omega), put_ne _ _ (by omega), put_same]
      exact h r hr
theorem D_eq {m : Nat} (v : Nat → Nat → Int) {i j : Nat} (hi : i < m) (hj : j < m) (e : i ≠ j) (h : ∀ r, r < m → v i r = v j r) : D m v = 0 := by
  by_cases c : i < j
  · exact D_alt (j - i - 1) v (i := i) (j := j) (by omega) hj h
  · exact D_alt (i - j - 1) v (i := j) (j := i) (by omega) hi fun r hr => (h r hr).symm
def unitV (k : Nat) : Nat → Int := fun r => if r = k then 1 else 0
theorem D_unit : ∀ m, D m unitV = 1
  | 0 => rfl
  | m + 1 => by
    show sI (m + 1) _ = 1
    rw [sI_one (k := 0) (Nat.succ_pos m)]
    · have e : D m (minor unitV 0) = D m unitV := D_congr fun i hi r hr => by
        unfold minor skip unitV
        rw [if_neg (Nat.not_lt_zero i)]
        by_cases c : r = i
        · rw [if_pos c, if_pos (by omega)]
        · rw [if_neg c, if_neg (by omega)]
      rw [e, D_unit m]; rfl
    · intro k _ hk
      have e : unitV k 0 = 0 := if_neg (fun q => hk q.symm)
      rw [e]; simp
/-- sums in one slot -/
theorem D_sum {m : Nat} (v : Nat → Nat → Int) {i : Nat} (hi : i < m) (c : Nat → Int) (x : Nat → Nat → Int) : ∀ n, D m (put v i (fun r => sI n (fun k => c k * x k r))) = sI n (fun k => c k * D m (put v i (x k)))
  | 0 => by
    have q := D_smul v 0 (fun _ => 0) hi
    simp only [Int.zero_mul] at q
    exact q
  | n + 1 => by
    show D m (put v i (fun r => sI n (fun k => c k * x k r) + c n * x n r)) = sI n (fun k => c k * D m (put v i (x k))) + c n * D m (put v i (x n))
    rw [D_add _ _ _ hi, D_sum v hi c x n, D_smul _ _ _ hi]
def fct : Nat → Nat
  | 0 => 1
  | n + 1 => (n + 1) * fct n
theorem sgn_abs (k : Nat) : (sgn k).natAbs = 1 := by unfold sgn; split <;> rfl
theorem D_bound {M : Nat} : ∀ {m : Nat} {v : Nat → Nat → Int}, (∀ i, i < m → ∀ r, r < m → (v i r).natAbs ≤ M) → (D m v).natAbs ≤ fct m * M ^ m
  | 0, _, _ => by simp [D, fct]
  | m + 1, v, h => by
    have q : (D (m + 1) v).natAbs ≤ (m + 1) * (M * (fct m * M ^ m)) := by
      refine sI_le_abs fun k hk => ?_
      rw [Int.natAbs_mul, Int.natAbs_mul, sgn_abs, Nat.one_mul]
      exact Nat.mul_le_mul (h k hk 0 (by omega)) (D_bound (m := m) fun i hi r hr => h _ (skip_lt hi) _ (by omega))
    have e : (m + 1) * (M * (fct m * M ^ m)) = fct (m + 1) * M ^ (m + 1) := by
      show _ = (m + 1) * fct m * M ^ (m + 1)
      rw [Nat.pow_succ]
      grind
    rw [← e]; exact q
end K6
-- KGrid
set_option maxHeartbeats 1000000
/-! The grid as a function of the base: rows by determinants, the change of base, the left costs, feasibility. -/
namespace K6
/-- columns a j (vectors), base B -/
def det (m : Nat) (a : Nat → Nat → Int) (B : Nat → Nat) : Int := D m (fun i => a (B i))
def tt (m : Nat) (a : Nat → Nat → Int) (B : Nat → Nat) (i j : Nat) : Int := D m (put (fun i => a (B i)) i (a j))
def sg (m : Nat) (a : Nat → Nat → Int) (B : Nat → Nat) : Int := if det m a B < 0 then -1 else 1
def low (m : Nat) (a : Nat → Nat → Int) (B : Nat → Nat) : Int := sg m a B * det m a B
def T (m : Nat) (a : Nat → Nat → Int) (B : Nat → Nat) (i j : Nat) : Int := sg m a B * tt m a B i j
/-- the costs that are left -/
def zz (m : Nat) (a : Nat → Nat → Int) (c : Nat → Int) (B : Nat → Nat) (j : Nat) : Int := low m a B * c j - sI m (fun i => c (B i) * T m a B i j)
structure Good (m N : Nat) (a : Nat → Nat → Int) (B : Nat → Nat) : Prop where
  inN : ∀ i, i < m → B i < N
  dn : det m a B ≠ 0
  eq : ∀ j r, r < m → det m a B * a j r = sI m (fun i => tt m a B i j * a (B i) r)
section
variable {m N : Nat} {a : Nat → Nat → Int} {B : Nat → Nat} {c : Nat → Int}
theorem sg_cases : sg m a B = 1 ∨ sg m a B = -1 := by unfold sg; split <;> simp
theorem sg_sq : sg m a B * sg m a B = 1 := by rcases sg_cases (m := m) (a := a) (B := B) with h | h <;> rw [h] <;> rfl
theorem low_pos (G : Good m N a B) : 0 < low m a B := by
  have h := G.dn
  unfold low sg; split <;> omega
theorem low_abs : low m a B = ((det m a B).natAbs : Int) := by
  unfold low sg; split <;> omega
theorem tt_base {i i' : Nat} (hi : i < m) (hi' : i' < m) : tt m a B i (B i') = if i = i' then det m a B else 0 := by
  unfold tt det
  split
  · next h => subst h; rw [put_self (fun i => a (B i)) i]
  · next h => exact D_eq _ hi hi' h fun r _ => by rw [put_same, put_ne _ _ (fun q => h q.symm)]
theorem T_base {i i' : Nat} (hi : i < m) (hi' : i' < m) : T m a B i (B i') = if i = i' then low m a B else 0 := by
  unfold T low
  rw [tt_base hi hi']
  split <;> simp
theorem inj (G : Good m N a B) {i i' : Nat} (hi : i < m) (hi' : i' < m) (e : B i = B i') : i = i' := by
  have h1 := T_base (a := a) (B := B) hi hi'
  have h2 := T_base (a := a) (B := B) hi hi
  rw [← e, h2, if_pos rfl] at h1
  have := low_pos G
  by_cases q : i = i'
  · exact q
  · rw [if_neg q] at h1; omega
theorem congr_det {B' : Nat → Nat} (h : ∀ i, i < m → B i = B' i) : det m a B = det m a B' := D_congr fun i hi r _ => by rw [h i hi]
theorem congr_tt {B' : Nat → Nat} (h : ∀ i, i < m → B i = B' i) {i : Nat} (j : Nat) : tt m a B i j = tt m a B' i j := D_congr fun k hk r _ => by
  unfold put; split
  · rfl
  · show a (B k) r = a (B' k) r
    rw [h k hk]
theorem congr_sg {B' : Nat → Nat} (h : ∀ i, i < m → B i = B' i) : sg m a B = sg m a B' := by unfold sg; rw [congr_det h]
theorem congr_low {B' : Nat → Nat} (h : ∀ i, i < m → B i = B' i) : low m a B = low m a B' := by unfold low; rw [congr_det h, congr_sg h]
theorem congr_T {B' : Nat → Nat} (h : ∀ i, i < m → B i = B' i) {i : Nat} (j : Nat) : T m a B i j = T m a B' i j := by unfold T; rw [congr_tt h, congr_sg h]
theorem congr_zz {B' : Nat → Nat} (h : ∀ i, i < m → B i = B' i) (j : Nat) : zz m a c B j = zz m a c B' j := by
  unfold zz; rw [congr_low h, sI_congr fun i hi => by rw [h i hi, congr_T h]]
theorem Good.congr {B' : Nat → Nat} (h : ∀ i, i < m → B i = B' i) (G : Good m N a B) : Good m N a B' where
  inN i hi := by rw [← h i hi]; exact G.inN i hi
  dn := by rw [← congr_det h]; exact G.dn
  eq j r hr := by
    rw [← congr_det h, G.eq j r hr]
    exact sI_congr fun i hi => by rw [congr_tt h, h i hi]
/-- the base of helping columns -/
theorem vec_unit {x : Nat → Int} {m r : Nat} (hr : r < m) : sI m (fun k => x k * unitV k r) = x r := by
  rw [sI_one hr]
  · unfold unitV; rw [if_pos rfl, Int.mul_one]
  · intro i _ hi; unfold unitV; rw [if_neg (fun q => hi q.symm), Int.mul_zero]
theorem D_put_unit {x : Nat → Int} {i : Nat} (hi : i < m) : D m (put unitV i x) = x i := by
  have e : D m (put unitV i x) = D m (put unitV i (fun r => sI m (fun k => x k * unitV k r))) := D_congr fun k hk r hr => by
    unfold put; split
    · exact (vec_unit hr).symm
    · rfl
  rw [e, D_sum _ hi x unitV m, sI_one hi]
  · rw [put_self, D_unit, Int.mul_one]
  · intro k hk hki
    rw [D_eq (put unitV i (unitV k)) hi hk (fun q => hki q.symm) fun r _ => by rw [put_same, put_ne _ _ hki], Int.mul_zero]
theorem start_det {n : Nat} (h : ∀ i, i < m → a (n + i) = unitV i) : det m a (fun i => n + i) = 1 := by
  have e : det m a (fun i => n + i) = D m unitV := D_congr fun i hi r _ => by rw [h i hi]
  rw [e, D_unit]
theorem start_tt {n : Nat} (h : ∀ i, i < m → a (n + i) = unitV i) {i : Nat} (hi : i < m) (j : Nat) : tt m a (fun i => n + i) i j = a j i := by
  have e : tt m a (fun i => n + i) i j = D m (put unitV i (a j)) := D_congr fun k hk r _ => by
    unfold put; split
    · rfl
    · show a (n + k) r = unitV k r
      rw [h k hk]
  rw [e, D_put_unit hi]
theorem start_good {n : Nat} (h : ∀ i, i < m → a (n + i) = unitV i) : Good m (n + m) a (fun i => n + i) where
  inN i hi := by show n + i < n + m; omega
  dn := by rw [start_det h]; decide
  eq j r hr := by
    rw [start_det h, Int.one_mul, ← vec_unit (x := a j) hr]
    exact sI_congr fun i hi => by rw [start_tt h hi, h i hi]
theorem start_sg {n : Nat} (h : ∀ i, i < m → a (n + i) = unitV i) : sg m a (fun i => n + i) = 1 := by unfold sg; rw [start_det h]; rfl
theorem start_low {n : Nat} (h : ∀ i, i < m → a (n + i) = unitV i) : low m a (fun i => n + i) = 1 := by unfold low; rw [start_det h, start_sg h]; rfl
theorem start_T {n : Nat} (h : ∀ i, i < m → a (n + i) = unitV i) {i : Nat} (hi : i < m) (j : Nat) : T m a (fun i => n + i) i j = a j i := by
  unfold T; rw [start_tt h hi, start_sg h, Int.one_mul]
/-! ### the change of base -/
theorem put_base {r s : Nat} : (fun i => a (put B r s i)) = put (fun i => a (B i)) r (a s) := by
  funext k; unfold put; split <;> rfl
theorem det_put {r s : Nat} : det m a (put B r s) = tt m a B r s := by
  unfold det tt; rw [put_base]
theorem tt_put_same {r s : Nat} (j : Nat) : tt m a (put B r s) r j = tt m a B r j := by
  unfold tt; rw [put_base, put_put]
theorem tt_put (G : Good m N a B) {r s i : Nat} (hr : r < m) (hp : tt m a B r s ≠ 0) (hi : i < m) (ne : i ≠ r) (j : Nat) :
    det m a B * tt m a (put B r s) i j = tt m a B i j * tt m a B r s - tt m a B i s * tt m a B r j := by
  have nr : r ≠ i := fun q => ne q.symm
  let w : Nat → Nat → Int := fun i => a (put B r s i)
  have wr : w r = a s := by show a (put B r s r) = a s; rw [put_same]
  have wk : ∀ k, k ≠ r → w k = a (B k) := fun k hk => by show a (put B r s k) = a (B k); rw [put_ne _ _ hk]
  have dw : D m w = tt m a B r s := det_put
  -- one vector, two ways
  have e : D m (put w i (fun q => (det m a B * tt m a B r s) * a j q + (- (det m a B * tt m a B r j)) * a s q)) =
      D m (put w i (fun q => sI m (fun k => (tt m a B r s * tt m a B k j - tt m a B r j * tt m a B k s) * a (B k) q))) := by
    refine D_congr fun k hk q hq => ?_
    unfold put; split
    · have e1 := G.eq j q hq
      have e2 := G.eq s q hq
      have e3 : sI m (fun k => (tt m a B r s * tt m a B k j - tt m a B r j * tt m a B k s) * a (B k) q) =
          tt m a B r s * sI m (fun k => tt m a B k j * a (B k) q) - tt m a B r j * sI m (fun k => tt m a B k s * a (B k) q) := by
        rw [← sI_mul, ← sI_mul, ← sI_sub]
        exact sI_congr fun k _ => by grind
      show det m a B * tt m a B r s * a j q + -(det m a B * tt m a B r j) * a s q = sI m fun k => (tt m a B r s * tt m a B k j - tt m a B r j * tt m a B k s) * a (B k) q
      rw [e3, ← e1, ← e2]
      grind
    · rfl
  rw [D_lin _ _ _ _ _ hi, D_sum _ hi] at e
  have z1 : D m (put w i (a s)) = 0 := D_eq _ hi hr ne fun q _ => by rw [put_same, put_ne _ _ nr, wr]
  have z2 : sI m (fun k => (tt m a B r s * tt m a B k j - tt m a B r j * tt m a B k s) * D m (put w i (a (B k)))) =
      (tt m a B r s * tt m a B i j - tt m a B r j * tt m a B i s) * tt m a B r s := by
    rw [sI_one hi]
    · rw [← wk i ne, put_self, dw]
    · intro k hk hki
      by_cases hkr : k = r
      · subst hkr
        have : tt m a B k s * tt m a B k j - tt m a B k j * tt m a B k s = 0 := by grind
        rw [this, Int.zero_mul]
      · rw [D_eq (put w i (a (B k))) hi hk (fun q => hki q.symm) fun q _ => by rw [put_same, put_ne _ _ hki, wk k hkr], Int.mul_zero]
  rw [z1, z2] at e
  have e' : D m (put w i (a j)) = tt m a (put B r s) i j := rfl
  rw [e'] at e
  have h : tt m a B r s * (det m a B * tt m a (put B r s) i j) = tt m a B r s * (tt m a B i j * tt m a B r s - tt m a B i s * tt m a B r j) := by grind
  exact Int.eq_of_mul_eq_mul_left hp h
theorem Good.put (G : Good m N a B) {r s : Nat} (hr : r < m) (hs : s < N) (hp : tt m a B r s ≠ 0) : Good m N a (put B r s) where
  inN i hi := by
    unfold K6.put; split
    · exact hs
    · exact G.inN i hi
  dn := by rw [det_put]; exact hp
  eq j q hq := by
    refine Int.eq_of_mul_eq_mul_left G.dn ?_
    rw [det_put, ← sI_mul]
    have e : ∀ i, i < m → det m a B * (tt m a (K6.put B r s) i j * a (K6.put B r s i) q) =
        (tt m a B r s * (tt m a B i j * a (B i) q) - tt m a B r j * (tt m a B i s * a (B i) q)) + (if i = r then det m a B * tt m a B r j * a s q else 0) := by
      intro i hi
      by_cases e : i = r
      · subst e
        rw [if_pos rfl, tt_put_same, put_same]; grind
      · have h := tt_put G hr hp hi e j
        rw [if_neg e, put_ne _ _ e, ← Int.mul_assoc, h]; grind
    rw [sI_congr e, sI_add, sI_sub, sI_mul, sI_mul, sI_one (k := r) hr (fun i _ hi => if_neg hi), if_pos rfl, ← G.eq j q hq, ← G.eq s q hq]
    grind
theorem low_put {r s : Nat} : low m a (put B r s) = ((tt m a B r s).natAbs : Int) := by rw [low_abs, det_put]
theorem low_put_T {r s : Nat} : low m a (put B r s) = ((T m a B r s).natAbs : Int) := by
  rw [low_put]; unfold T
  rcases sg_cases (m := m) (a := a) (B := B) with h | h <;> rw [h] <;> omega
theorem tt_ne {r s : Nat} (h : T m a B r s ≠ 0) : tt m a B r s ≠ 0 := fun q => h (by unfold T; rw [q, Int.mul_zero])
/-- the row that comes in -/
theorem T_put_same {r s : Nat} (h : T m a B r s ≠ 0) (j : Nat) : T m a (put B r s) r j = if T m a B r s < 0 then - T m a B r j else T m a B r j := by
  have hp := tt_ne h
  have e : T m a B r s = sg m a B * tt m a B r s := rfl
  have e2 : T m a B r j = sg m a B * tt m a B r j := rfl
  have e3 : T m a (put B r s) r j = sg m a (put B r s) * tt m a B r j := by unfold T; rw [tt_put_same]
  rw [e3, e2, e]
  unfold sg
  rw [det_put]
  generalize tt m a B r s = x at *
  generalize tt m a B r j = y at *
  generalize det m a B = d at *
  by_cases c1 : x < 0 <;> by_cases c2 : d < 0 <;> simp only [c1, c2, if_true, if_false] <;> split <;> omega
theorem T_put_piv {r s : Nat} (h : T m a B r s ≠ 0) (j : Nat) : T m a B r j * low m a (put B r s) = T m a B r s * T m a (put B r s) r j := by
  rw [T_put_same h, low_put_T]
  split
  · next c =>
    have e : ((T m a B r s).natAbs : Int) = - T m a B r s := by omega
    rw [e]; grind
  · next c =>
    have e : ((T m a B r s).natAbs : Int) = T m a B r s := by omega
    rw [e]; grind
/-- the rows that are swept -/
theorem T_put (G : Good m N a B) {r s i : Nat} (hr : r < m) (hs : s < N) (h : T m a B r s ≠ 0) (hi : i < m) (ne : i ≠ r) (j : Nat) :
    T m a B i j * low m a (put B r s) - T m a B i s * T m a (put B r s) r j = low m a B * T m a (put B r s) i j := by
  have q := tt_put G hr (tt_ne h) hi ne j
  have e3 : T m a (put B r s) r j = sg m a (put B r s) * tt m a B r j := by unfold T; rw [tt_put_same]
  rw [e3]
  unfold T low
  rw [det_put]
  generalize tt m a B i j = x1 at *
  generalize tt m a (put B r s) i j = x2 at *
  generalize tt m a B i s = x3 at *
  generalize tt m a B r s = x4 at *
  generalize tt m a B r j = x5 at *
  generalize det m a B = x6 at *
  generalize sg m a B = x7
  generalize sg m a (put B r s) = x8
  have : x7 * x1 * (x8 * x4) - x7 * x3 * (x8 * x5) = x7 * x8 * (x1 * x4 - x3 * x5) := by grind
  rw [this, ← q]; grind
/-- the left costs -/
theorem zz_put (G : Good m N a B) {r s : Nat} (hr : r < m) (hs : s < N) (h : T m a B r s ≠ 0) (j : Nat) :
    zz m a c B j * low m a (put B r s) - zz m a c B s * T m a (put B r s) r j = low m a B * zz m a c (put B r s) j := by
  unfold zz
  rw [Int.mul_sub, ← sI_mul]
  have e : ∀ i, i < m → low m a B * (c (put B r s i) * T m a (put B r s) i j) =
      (low m a (put B r s) * (c (B i) * T m a B i j) - T m a (put B r s) r j * (c (B i) * T m a B i s)) + (if i = r then low m a B * (c s * T m a (put B r s) r j) else 0) := by
    intro i hi
    by_cases e : i = r
    · subst e
      rw [if_pos rfl, put_same]
      have := T_put_piv h j
      have : low m a (put B i s) * (c (B i) * T m a B i j) - T m a (put B i s) i j * (c (B i) * T m a B i s) = c (B i) * (T m a B i j * low m a (put B i s) - T m a B i s * T m a (put B i s) i j) := by grind
      rw [this, T_put_piv h j]; grind
    · rw [if_neg e, put_ne _ _ e]
      have := T_put G hr hs h hi e j
      have : low m a B * (c (B i) * T m a (put B r s) i j) = c (B i) * (low m a B * T m a (put B r s) i j) := by grind
      rw [this, ← T_put G hr hs h hi e j]; grind
  rw [sI_congr e, sI_add, sI_sub, sI_mul, sI_mul, sI_one (k := r) hr (fun i _ hi => if_neg hi), if_pos rfl]
  grind
theorem zz_base {i : Nat} (hi : i < m) : zz m a c B (B i) = 0 := by
  unfold zz
  rw [sI_one hi]
  · rw [T_base hi hi, if_pos rfl]; grind
  · intro k hk hki; rw [T_base hk hi, if_neg hki, Int.mul_zero]
/-- rows are linear in the column -/
theorem T_lin (B' : Nat → Nat) {k : Nat} (hk : k < m) (x : Int) (f : Nat → Int) (g : Nat → Nat) (s n : Nat) (h : ∀ r, r < m → x * a s r = sI n (fun i => f i * a (g i) r)) :
    x * T m a B' k s = sI n (fun i => f i * T m a B' k (g i)) := by
  unfold T tt
  have e : x * D m (put (fun i => a (B' i)) k (a s)) = sI n (fun i => f i * D m (put (fun i => a (B' i)) k (a (g i)))) := by
    rw [← D_smul _ _ _ hk, ← D_sum _ hk f (fun i => a (g i)) n]
    exact D_congr fun i hi r hr => by
      unfold put; split
      · exact h r hr
      · rfl
  have e2 : sI n (fun i => f i * (sg m a B' * D m (put (fun i => a (B' i)) k (a (g i))))) = sg m a B' * sI n (fun i => f i * D m (put (fun i => a (B' i)) k (a (g i)))) := by
    rw [← sI_mul]; exact sI_congr fun i _ => by grind
  rw [e2, ← e]; grind
theorem col_eq (G : Good m N a B) (j : Nat) {r : Nat} (hr : r < m) : low m a B * a j r = sI m (fun i => T m a B i j * a (B i) r) := by
  unfold low T
  rw [Int.mul_assoc, G.eq j r hr, ← sI_mul]
  exact sI_congr fun i _ => by grind
/-- the left costs of one base against the changes of another -/
theorem zz_star (G : Good m N a B) (B' : Nat → Nat) (s : Nat) :
    low m a B * zz m a c B' s - sI m (fun i => T m a B i s * zz m a c B' (B i)) = low m a B' * zz m a c B s := by
  unfold zz
  have e1 : ∀ k, k < m → low m a B * T m a B' k s = sI m (fun i => T m a B i s * T m a B' k (B i)) := fun k hk =>
    T_lin B' hk _ _ _ _ _ fun r hr => col_eq G s hr
  have e2 : low m a B * sI m (fun k => c (B' k) * T m a B' k s) = sI m (fun i => T m a B i s * sI m (fun k => c (B' k) * T m a B' k (B i))) := by
    rw [← sI_mul, sI_congr (g := fun k => sI m (fun i => T m a B i s * (c (B' k) * T m a B' k (B i)))), sI_comm]
    · exact sI_congr fun i _ => by rw [← sI_mul]
    · intro k hk
      have : low m a B * (c (B' k) * T m a B' k s) = c (B' k) * (low m a B * T m a B' k s) := by grind
      rw [this, e1 k hk, ← sI_mul]
      exact sI_congr fun i _ => by grind
  have e3 : sI m (fun i => T m a B i s * (low m a B' * c (B i) - sI m (fun k => c (B' k) * T m a B' k (B i)))) =
      low m a B' * sI m (fun i => c (B i) * T m a B i s) - sI m (fun i => T m a B i s * sI m (fun k => c (B' k) * T m a B' k (B i))) := by
    rw [← sI_mul, ← sI_sub]
    exact sI_congr fun i _ => by grind
  rw [e3, ← e2]; grind
/-! ### sizes -/
theorem det_bound {M : Nat} (hM : ∀ j r, r < m → (a j r).natAbs ≤ M) : (det m a B).natAbs ≤ fct m * M ^ m := D_bound fun i _ r hr => hM _ r hr
theorem T_bound {M : Nat} (hM : ∀ j r, r < m → (a j r).natAbs ≤ M) (i j : Nat) : (T m a B i j).natAbs ≤ fct m * M ^ m := by
  have : (tt m a B i j).natAbs ≤ fct m * M ^ m := D_bound fun k _ r hr => by unfold put; split <;> exact hM _ r hr
  unfold T
  rw [Int.natAbs_mul]
  rcases sg_cases (m := m) (a := a) (B := B) with h | h <;> rw [h] <;> simpa using this
theorem low_bound {M : Nat} (hM : ∀ j r, r < m → (a j r).natAbs ≤ M) : (low m a B).natAbs ≤ fct m * M ^ m := by
  rw [low_abs]; exact det_bound hM
theorem zz_bound {M C : Nat} (hM : ∀ j r, r < m → (a j r).natAbs ≤ M) (hC : ∀ j, (c j).natAbs ≤ C) (j : Nat) : (zz m a c B j).natAbs ≤ (m + 1) * (C * (fct m * M ^ m)) := by
  unfold zz
  have h1 : (low m a B * c j).natAbs ≤ C * (fct m * M ^ m) := by
    rw [Int.natAbs_mul, Nat.mul_comm]
    exact Nat.mul_le_mul (hC j) (low_bound hM)
  have h2 : (sI m (fun i => c (B i) * T m a B i j)).natAbs ≤ m * (C * (fct m * M ^ m)) := sI_le_abs fun i _ => by
    rw [Int.natAbs_mul]
    exact Nat.mul_le_mul (hC _) (T_bound hM i j)
  have h3 := Int.natAbs_sub_le (low m a B * c j) (sI m (fun i => c (B i) * T m a B i j))
  rw [Nat.succ_mul]; omega
end
end K6
-- KBland
set_option maxHeartbeats 1000000
/-! The least-index rule: a step, what it keeps, no cycle, an end. R: the right column's place. -/
namespace K6
/-- s comes in at row r -/
structure Step (m n N : Nat) (a : Nat → Nat → Int) (c : Nat → Int) (R : Nat) (B : Nat → Nat) (s r : Nat) : Prop where
  sn : s < n
  nN : n ≤ N
  neg : zz m a c B s < 0
  fst : ∀ j, j < s → 0 ≤ zz m a c B j
  rm : r < m
  pos : 0 < T m a B r s
  least : ∀ i, i < m → 0 < T m a B i s → T m a B r R * T m a B i s ≤ T m a B i R * T m a B r s
  tie : ∀ i, i < m → 0 < T m a B i s → T m a B r R * T m a B i s = T m a B i R * T m a B r s → B r ≤ B i
def Feas (m : Nat) (a : Nat → Nat → Int) (R : Nat) (B : Nat → Nat) : Prop := ∀ i, i < m → 0 ≤ T m a B i R
def InB (m : Nat) (B : Nat → Nat) (u : Nat) : Prop := ∃ i, i < m ∧ B i = u
section
variable {m n N R : Nat} {a : Nat → Nat → Int} {B : Nat → Nat} {c : Nat → Int} {s r : Nat}
theorem Step.good (S : Step m n N a c R B s r) (G : Good m N a B) : Good m N a (put B r s) :=
  G.put S.rm (Nat.lt_of_lt_of_le S.sn S.nN) (tt_ne (by have := S.pos; omega))
theorem Step.ne (S : Step m n N a c R B s r) : T m a B r s ≠ 0 := by have := S.pos; omega
theorem Step.low (S : Step m n N a c R B s r) : low m a (put B r s) = T m a B r s := by
  rw [low_put_T]; have := S.pos; omega
theorem Step.same (S : Step m n N a c R B s r) (j : Nat) : T m a (put B r s) r j = T m a B r j := by
  rw [T_put_same S.ne, if_neg (by have := S.pos; omega)]
theorem Step.row (S : Step m n N a c R B s r) (G : Good m N a B) {i : Nat} (hi : i < m) (ne : i ≠ r) (j : Nat) :
    T m a B i j * T m a B r s - T m a B i s * T m a B r j = K6.low m a B * T m a (put B r s) i j := by
  have h := T_put G S.rm (Nat.lt_of_lt_of_le S.sn S.nN) S.ne hi ne j
  rw [S.low, S.same] at h; exact h
theorem Step.cost (S : Step m n N a c R B s r) (G : Good m N a B) (j : Nat) :
    zz m a c B j * T m a B r s - zz m a c B s * T m a B r j = K6.low m a B * zz m a c (put B r s) j := by
  have h := zz_put (c := c) G S.rm (Nat.lt_of_lt_of_le S.sn S.nN) S.ne j
  rw [S.low, S.same] at h; exact h
theorem Step.feas (S : Step m n N a c R B s r) (G : Good m N a B) (F : Feas m a R B) : Feas m a R (put B r s) := by
  intro i hi
  by_cases e : i = r
  · subst e; rw [S.same]; exact F i hi
  · have h := S.row G hi e R
    have hl := low_pos G
    have h0 : 0 ≤ T m a B i R * T m a B r s - T m a B i s * T m a B r R := by
      by_cases p : 0 < T m a B i s
      · have := S.least i hi p
        rw [Int.mul_comm (T m a B i s)]; omega
      · have h1 := Int.mul_nonneg (F i hi) (Int.le_of_lt S.pos)
        have h2 := Int.mul_nonneg (show 0 ≤ - T m a B i s by omega) (F r S.rm)
        rw [Int.neg_mul] at h2; omega
    rw [h] at h0
    exact Int.nonneg_of_mul_nonneg_right h0 hl
theorem Step.notIn (S : Step m n N a c R B s r) : ¬ InB m B s := by
  rintro ⟨i, hi, e⟩
  have h := zz_base (a := a) (B := B) (c := c) hi
  rw [e] at h
  have := S.neg; omega
theorem inB_put {u : Nat} (hr : r < m) : InB m (put B r s) u ↔ (u = s ∨ ∃ i, i < m ∧ i ≠ r ∧ B i = u) := by
  constructor
  · rintro ⟨i, hi, e⟩
    by_cases q : i = r
    · subst q; rw [put_same] at e; exact .inl e.symm
    · rw [put_ne _ _ q] at e; exact .inr ⟨i, hi, q, e⟩
  · rintro (e | ⟨i, hi, q, e⟩)
    · exact ⟨r, hr, by rw [put_same]; exact e.symm⟩
    · exact ⟨i, hi, by rw [put_ne _ _ q]; exact e⟩
/-- the worth of a base -/
def worth (m : Nat) (a : Nat → Nat → Int) (c : Nat → Int) (R : Nat) (B : Nat → Nat) : Rat := (zz m a c B R : Rat) / (low m a B : Rat)
theorem Step.worth_le (S : Step m n N a c R B s r) (G : Good m N a B) (F : Feas m a R B) : worth m a c R B ≤ worth m a c R (put B r s) ∧ (worth m a c R B = worth m a c R (put B r s) → T m a B r R = 0) := by
  have h := S.cost G R
  have hl := low_pos G
  have hp := S.pos
  have hz := S.neg
  have hf := F r S.rm
  unfold worth
  rw [S.low]
  generalize zz m a c B R = x at *
  generalize zz m a c (put B r s) R = y at *
  generalize T m a B r s = p at *
  generalize T m a B r R = b at *
  generalize zz m a c B s = z at *
  generalize K6.low m a B = l at *
  have hlR : (0 : Rat) < (l : Rat) := Rat.intCast_pos.mpr hl
  have hpR : (0 : Rat) < (p : Rat) := Rat.intCast_pos.mpr hp
  have hzR : (z : Rat) < 0 := Rat.intCast_neg_iff.mpr hz
  have hbR : (0 : Rat) ≤ (b : Rat) := Rat.intCast_nonneg.mpr hf
  have hR : (x : Rat) * p - z * b = l * y := by
    rw [← Rat.intCast_mul, ← Rat.intCast_mul, ← Rat.intCast_mul, ← Rat.intCast_sub, h]
  have e : (y : Rat) / p - (x : Rat) / l = (-z) * b / (l * p) := by grind
  have k : (0 : Rat) < (l * p : Rat)⁻¹ := Rat.inv_pos.mpr (Rat.mul_pos hlR hpR)
  have e2 : (-z : Rat) * b / (l * p) = ((-z) * b) * (l * p : Rat)⁻¹ := Rat.div_def _ _
  rw [e2] at e
  have h1 : (0 : Rat) ≤ (-z : Rat) * b := Rat.mul_nonneg (by grind) hbR
  have h2 : (0 : Rat) ≤ ((-z) * b) * (l * p : Rat)⁻¹ := Rat.mul_nonneg h1 (Rat.le_of_lt k)
  refine ⟨by grind, fun q => ?_⟩
  have h3 : ((-z : Rat) * b) * (l * p : Rat)⁻¹ = 0 := by grind
  rcases Rat.mul_eq_zero.mp h3 with h4 | h4
  · rcases Rat.mul_eq_zero.mp h4 with h5 | h5
    · exfalso; grind
    · exact Rat.intCast_eq_zero_iff.mp h5
  · exfalso; grind
theorem worth_congr {B' : Nat → Nat} (h : ∀ i, i < m → B i = B' i) : worth m a c R B = worth m a c R B' := by
  unfold worth; rw [congr_zz h, congr_low h]
end
theorem mono_chain {f : Nat → Rat} {p : Nat} : ∀ (d : Nat), (∀ k, p ≤ k → k < p + d → f k ≤ f (k + 1)) → f p ≤ f (p + d)
  | 0, _ => Rat.le_refl
  | d + 1, h => Rat.le_trans (mono_chain d fun k h1 h2 => h k h1 (by omega)) (h (p + d) (by omega) (by omega))
theorem mono_const {f : Nat → Rat} {p q : Nat} (h : ∀ k, p ≤ k → k < q → f k ≤ f (k + 1)) (e : f p = f q) {k : Nat} (h1 : p ≤ k) (h2 : k < q) : f k = f (k + 1) := by
  obtain ⟨d, rfl⟩ : ∃ d, k = p + d := ⟨k - p, by omega⟩
  obtain ⟨d', rfl⟩ : ∃ d', q = (p + d + 1) + d' := ⟨q - (p + d + 1), by omega⟩
  have a1 := mono_chain (f := f) (p := p) d fun k h1 h2 => h k h1 (by omega)
  have a2 := h (p + d) h1 (by omega)
  have a3 := mono_chain (f := f) (p := p + d + 1) d' fun k h1 h2 => h k (by omega) h2
  refine Rat.le_antisymm a2 ?_
  rw [← e] at a3
  exact Rat.le_trans a3 a1
theorem exists_max {P : Nat → Prop} : ∀ (n : Nat), (∀ u, P u → u < n) → (∃ u, P u) → ∃ t, P t ∧ ∀ u, P u → u ≤ t
  | 0, h, ⟨u, hu⟩ => absurd (h u hu) (Nat.not_lt_zero u)
  | n + 1, h, ⟨u, hu⟩ => by
    by_cases c : P n
    · exact ⟨n, c, fun v hv => Nat.le_of_lt_succ (h v hv)⟩
    · refine exists_max n (fun v hv => ?_) ⟨u, hu⟩
      have := h v hv
      have : v ≠ n := fun q => c (q ▸ hv)
      omega
section
variable {m n N R : Nat} {a : Nat → Nat → Int} {c : Nat → Int} {Bs : Nat → Nat → Nat} {s r : Nat → Nat} {p q : Nat}
/-- no base comes again -/
theorem no_cycle (hG : ∀ k, p ≤ k → k ≤ q → Good m N a (Bs k)) (hF : ∀ k, p ≤ k → k ≤ q → Feas m a R (Bs k))
    (hS : ∀ k, p ≤ k → k < q → Step m n N a c R (Bs k) (s k) (r k)) (hN : ∀ k, p ≤ k → k < q → Bs (k + 1) = put (Bs k) (r k) (s k))
    (pq : p < q) (same : ∀ i, i < m → Bs p i = Bs q i) : False := by
  -- all steps leave the worth as it is
  have hdeg : ∀ k, p ≤ k → k < q → T m a (Bs k) (r k) R = 0 := by
    intro k h1 h2
    have hm : ∀ k, p ≤ k → k < q → worth m a c R (Bs k) ≤ worth m a c R (Bs (k + 1)) := fun k h1 h2 => by
      rw [hN k h1 h2]; exact ((hS k h1 h2).worth_le (hG k h1 (by omega)) (hF k h1 (by omega))).1
    have e := mono_const (f := fun k => worth m a c R (Bs k)) hm (worth_congr same) h1 h2
    have e' : worth m a c R (Bs k) = worth m a c R (put (Bs k) (r k) (s k)) := by rw [← hN k h1 h2]; exact e
    exact ((hS k h1 h2).worth_le (hG k h1 (by omega)) (hF k h1 (by omega))).2 e'
  -- what is 0 stays 0
  let Zero : Nat → Nat → Prop := fun k u => ∀ i, i < m → Bs k i = u → T m a (Bs k) i R = 0
  have hzero : ∀ k u, p ≤ k → k < q → (Zero k u ↔ Zero (k + 1) u) := by
    intro k u h1 h2
    have S := hS k h1 h2
    have G := hG k h1 (by omega)
    have hl := low_pos G
    have hp := S.pos
    have hd := hdeg k h1 h2
    have row : ∀ i, i < m → i ≠ r k → (T m a (Bs k) i R = 0 ↔ T m a (Bs (k + 1)) i R = 0) := by
      intro i hi ne
      have h := S.row G hi ne R
      rw [hd, Int.mul_zero, Int.sub_zero] at h
      rw [hN k h1 h2]
      constructor
      · intro z
        rw [z, Int.zero_mul] at h
        rcases Int.mul_eq_zero.mp h.symm with w | w
        · omega
        · exact w
      · intro z
        rw [z, Int.mul_zero] at h
        rcases Int.mul_eq_zero.mp h with w | w
        · exact w
        · omega
    constructor
    · intro Z i hi e
      by_cases ne : i = r k
      · subst ne; rw [hN k h1 h2, S.same]; exact hd
      · rw [hN k h1 h2, put_ne _ _ ne] at e
        exact (row i hi ne).mp (Z i hi e)
    · intro Z i hi e
      by_cases ne : i = r k
      · subst ne; exact hd
      · refine (row i hi ne).mpr (Z i hi ?_)
        rw [hN k h1 h2, put_ne _ _ ne]; exact e
  have hzeroP : ∀ d u, p + d ≤ q → (Zero p u ↔ Zero (p + d) u) := by
    intro d
    induction d with
    | zero => intro u _; exact Iff.rfl
    | succ d ih => intro u h; exact (ih u (by omega)).trans (hzero (p + d) u (by omega) (by omega))
  have hzeroA : ∀ k k' u, p ≤ k → k ≤ q → p ≤ k' → k' ≤ q → Zero k u → Zero k' u := by
    intro k k' u h1 h2 h3 h4 Z
    obtain ⟨d, rfl⟩ : ∃ d, k = p + d := ⟨k - p, by omega⟩
    obtain ⟨d', rfl⟩ : ∃ d', k' = p + d' := ⟨k' - p, by omega⟩
    exact (hzeroP d' u h4).mp ((hzeroP d u h2).mpr Z)
  have hzeroN : ∀ k k' u, p ≤ k → k ≤ q → p ≤ k' → k' ≤ q → ¬ InB m (Bs k) u → Zero k' u := fun k k' u h1 h2 h3 h4 hn =>
    hzeroA k k' u h1 h2 h3 h4 fun i hi e => absurd ⟨i, hi, e⟩ hn
  -- the last column that comes in
  obtain ⟨t, ⟨k1, hk1, hk1q, et⟩, tmax⟩ := exists_max (P := fun u => ∃ k, p ≤ k ∧ k < q ∧ s k = u) n
    (fun u ⟨k, h1, h2, e⟩ => e ▸ (hS k h1 h2).sn) ⟨s p, p, Nat.le_refl _, pq, rfl⟩
  have inBpq : ∀ u, InB m (Bs q) u → InB m (Bs p) u := fun u ⟨i, hi, e⟩ => ⟨i, hi, by rw [same i hi]; exact e⟩
  have inBqp : ∀ u, InB m (Bs p) u → InB m (Bs q) u := fun u ⟨i, hi, e⟩ => ⟨i, hi, by rw [← same i hi]; exact e⟩
  -- it goes out
  have hout : ∃ k2, p ≤ k2 ∧ k2 < q ∧ Bs k2 (r k2) = t := by
    refine Classical.byContradiction fun hno => ?_
    have keep : ∀ k, p ≤ k → k < q → InB m (Bs k) t → InB m (Bs (k + 1)) t := by
      intro k h1 h2 ⟨i, hi, e⟩
      have ne : i ≠ r k := fun w => hno ⟨k, h1, h2, w ▸ e⟩
      exact ⟨i, hi, by rw [hN k h1 h2, put_ne _ _ ne]; exact e⟩
    have keepD : ∀ d k, p ≤ k → k + d ≤ q → InB m (Bs k) t → InB m (Bs (k + d)) t := by
      intro d
      induction d with
      | zero => intro k _ _ h; exact h
      | succ d ih => intro k h1 h2 h; exact keep (k + d) (by omega) (by omega) (ih k h1 (by omega) h)
    have i1 : InB m (Bs (k1 + 1)) t := ⟨r k1, (hS k1 hk1 hk1q).rm, by rw [hN k1 hk1 hk1q, put_same]; exact et⟩
    have i2 : InB m (Bs q) t := by
      have h := keepD (q - (k1 + 1)) (k1 + 1) (by omega) (by omega) i1
      rwa [show k1 + 1 + (q - (k1 + 1)) = q by omega] at h
    have i3 := keepD (k1 - p) p (Nat.le_refl _) (by omega) (inBpq t i2)
    rw [show p + (k1 - p) = k1 by omega, ← et] at i3
    exact (hS k1 hk1 hk1q).notIn i3
  obtain ⟨k2, hk2, hk2q, et2⟩ := hout
  -- a column beyond t never changes
  have hstay : ∀ u, t < u → InB m (Bs k2) u → InB m (Bs k1) u := by
    intro u hu h
    have back : ∀ k, p ≤ k → k < q → InB m (Bs (k + 1)) u → InB m (Bs k) u := by
      intro k h1 h2 h
      rw [hN k h1 h2, inB_put (hS k h1 h2).rm] at h
      rcases h with h | ⟨i, hi, _, e⟩
      · exact absurd (tmax u ⟨k, h1, h2, h.symm⟩) (by omega)
      · exact ⟨i, hi, e⟩
    have backD : ∀ d k, p ≤ k → k + d ≤ q → InB m (Bs (k + d)) u → InB m (Bs k) u := by
      intro d
      induction d with
      | zero => intro k _ _ h; exact h
      | succ d ih => intro k h1 h2 h; exact ih k h1 (by omega) (back (k + d) (by omega) (by omega) h)
    have h0 := backD (k2 - p) p (Nat.le_refl _) (by omega) (by rwa [show p + (k2 - p) = k2 by omega])
    exact backD (q - k1) k1 hk1 (by omega) (by rw [show k1 + (q - k1) = q by omega]; exact inBqp u h0)
  -- the two bases against each other
  have S1 := hS k1 hk1 hk1q
  have S2 := hS k2 hk2 hk2q
  have G1 := hG k1 hk1 (by omega)
  have G2 := hG k2 hk2 (by omega)
  have star := zz_star (c := c) G2 (Bs k1) (s k2)
  have l1 := low_pos G1
  have l2 := low_pos G2
  have rhs : low m a (Bs k1) * zz m a c (Bs k2) (s k2) < 0 := Int.mul_neg_of_pos_of_neg l1 S2.neg
  have hs2 : s k2 < t := by
    have h1 := tmax (s k2) ⟨k2, hk2, hk2q, rfl⟩
    have h2 : s k2 ≠ t := fun w => S2.notIn (w ▸ ⟨r k2, S2.rm, et2⟩)
    omega
  have hz2 : 0 ≤ zz m a c (Bs k1) (s k2) := S1.fst _ (by omega)
  have hterm : ∀ i, i < m → 0 ≤ - (T m a (Bs k2) i (s k2) * zz m a c (Bs k1) (Bs k2 i)) := by
    intro i hi
    by_cases c1 : Bs k2 i = t
    · have e : i = r k2 := inj G2 hi S2.rm (c1.trans et2.symm)
      subst e
      rw [c1, ← et]
      have := Int.mul_neg_of_pos_of_neg S2.pos S1.neg
      omega
    · by_cases c2 : Bs k2 i < t
      · have hz : 0 ≤ zz m a c (Bs k1) (Bs k2 i) := S1.fst _ (by omega)
        by_cases c3 : 0 < T m a (Bs k2) i (s k2)
        · by_cases c4 : InB m (Bs k1) (Bs k2 i)
          · obtain ⟨i', hi', e⟩ := c4
            rw [← e, zz_base hi', Int.mul_zero]; decide
          · exfalso
            have h0 := hzeroN k1 k2 _ hk1 (by omega) hk2 (by omega) c4 i hi rfl
            have hd := hdeg k2 hk2 hk2q
            have h := S2.tie i hi c3 (by rw [h0, hd, Int.zero_mul, Int.zero_mul])
            omega
        · have := Int.mul_nonneg (show 0 ≤ - T m a (Bs k2) i (s k2) by omega) hz
          rw [Int.neg_mul] at this; exact this
      · obtain ⟨i', hi', e⟩ := hstay (Bs k2 i) (by omega) ⟨i, hi, rfl⟩
        rw [← e, zz_base hi', Int.mul_zero]; decide
  have hsum : 0 ≤ - sI m (fun i => T m a (Bs k2) i (s k2) * zz m a c (Bs k1) (Bs k2 i)) := by
    have h := sI_nonneg hterm
    have e : sI m (fun i => - (T m a (Bs k2) i (s k2) * zz m a c (Bs k1) (Bs k2 i))) = - sI m (fun i => T m a (Bs k2) i (s k2) * zz m a c (Bs k1) (Bs k2 i)) := by
      have := sI_mul (-1) (fun i => T m a (Bs k2) i (s k2) * zz m a c (Bs k1) (Bs k2 i)) m
      rw [Int.neg_one_mul] at this
      rw [← this]
      exact sI_congr fun i _ => (Int.neg_one_mul _).symm
    rw [e] at h; exact h
  have := Int.mul_nonneg (Int.le_of_lt l2) hz2
  omega
end
/-! ### so few bases -/
def code (N : Nat) : Nat → (Nat → Nat) → Nat
  | 0, _ => 0
  | m + 1, B => code N m B + B m * N ^ m
theorem code_lt {N : Nat} : ∀ {m : Nat} {B : Nat → Nat}, (∀ i, i < m → B i < N) → code N m B < N ^ m
  | 0, _, _ => by simp [code]
  | m + 1, B, h => by
    have h1 := code_lt (m := m) fun i hi => h i (Nat.lt_succ_of_lt hi)
    have h2 := h m (Nat.lt_succ_self m)
    show code N m B + B m * N ^ m < N ^ (m + 1)
    have h3 : (B m + 1) * N ^ m ≤ N * N ^ m := Nat.mul_le_mul_right _ h2
    rw [Nat.pow_succ, Nat.mul_comm (N ^ m)]
    rw [Nat.succ_mul] at h3; omega
theorem code_inj {N : Nat} : ∀ {m : Nat} {B B' : Nat → Nat}, (∀ i, i < m → B i < N) → (∀ i, i < m → B' i < N) → code N m B = code N m B' → ∀ i, i < m → B i = B' i
  | 0, _, _, _, _, _, i, hi => absurd hi (Nat.not_lt_zero i)
  | m + 1, B, B', h, h', e, i, hi => by
    have h1 := code_lt (m := m) fun i hi => h i (Nat.lt_succ_of_lt hi)
    have h1' := code_lt (m := m) fun i hi => h' i (Nat.lt_succ_of_lt hi)
    have e' : code N m B + B m * N ^ m = code N m B' + B' m * N ^ m := e
    have pos : 0 < N ^ m := by omega
    have em : B m = B' m := by
      have q1 : (code N m B + B m * N ^ m) / N ^ m = B m := by rw [Nat.add_mul_div_right _ _ pos, Nat.div_eq_of_lt h1, Nat.zero_add]
      have q2 : (code N m B' + B' m * N ^ m) / N ^ m = B' m := by rw [Nat.add_mul_div_right _ _ pos, Nat.div_eq_of_lt h1', Nat.zero_add]
      rw [← q1, ← q2, e']
    by_cases c : i = m
    · subst c; exact em
    · rw [em] at e'
      exact code_inj (m := m) (fun i hi => h i (Nat.lt_succ_of_lt hi)) (fun i hi => h' i (Nat.lt_succ_of_lt hi)) (by omega) i (by omega)
theorem pigeon : ∀ (M : Nat) (f : Nat → Nat), (∀ k, k ≤ M → f k < M) → ∃ i j, i < j ∧ j ≤ M ∧ f i = f j
  | 0, f, h => absurd (h 0 (Nat.le_refl 0)) (Nat.not_lt_zero _)
  | M + 1, f, h => by
    by_cases c : ∃ k, k ≤ M ∧ f k = f (M + 1)
    · obtain ⟨k, hk, e⟩ := c
      exact ⟨k, M + 1, by omega, Nat.le_refl _, e⟩
    · -- put what is M in the place of the last one's value
      have hne : ∀ k, k ≤ M → f k ≠ f (M + 1) := fun k hk e => c ⟨k, hk, e⟩
      have hl := h (M + 1) (Nat.le_refl _)
      obtain ⟨i, j, hij, hj, e⟩ := pigeon M (fun k => if f k = M then f (M + 1) else f k) fun k hk => by
        have h1 := h k (by omega)
        have h2 := hne k hk
        show (if f k = M then f (M + 1) else f k) < M
        split <;> omega
      refine ⟨i, j, hij, by omega, ?_⟩
      have h2 := hne i (by omega)
      have h3 := hne j (by omega)
      have e' : (if f i = M then f (M + 1) else f i) = (if f j = M then f (M + 1) else f j) := e
      split at e' <;> split at e' <;> omega
/-- a run of steps ends -/
theorem run_ends {m n N R : Nat} {a : Nat → Nat → Int} {c : Nat → Int} {Bs : Nat → Nat → Nat} {s r : Nat → Nat}
    (hG : Good m N a (Bs 0)) (hF : Feas m a R (Bs 0))
    (hS : ∀ k, k < N ^ m → Step m n N a c R (Bs k) (s k) (r k)) (hN : ∀ k, k < N ^ m → Bs (k + 1) = put (Bs k) (r k) (s k)) : False := by
  have all : ∀ k, k ≤ N ^ m → Good m N a (Bs k) ∧ Feas m a R (Bs k) := by
    intro k
    induction k with
    | zero => intro _; exact ⟨hG, hF⟩
    | succ k ih =>
      intro h
      obtain ⟨g, f⟩ := ih (by omega)
      rw [hN k (by omega)]
      exact ⟨(hS k (by omega)).good g, (hS k (by omega)).feas g f⟩
  obtain ⟨i, j, hij, hj, e⟩ := pigeon (N ^ m) (fun k => code N m (Bs k)) fun k hk => code_lt (all k hk).1.inN
  exact no_cycle (p := i) (q := j) (fun k _ h2 => (all k (by omega)).1) (fun k _ h2 => (all k (by omega)).2) (fun k _ h2 => hS k (by omega)) (fun k _ h2 => hN k (by omega)) hij
    (code_inj (all i (by omega)).1.inN (all j hj).1.inN e)
end K6
-- KSum
set_option maxHeartbeats 1000000
/-! Sums of ratios. -/
namespace K6
def sR : Nat → (Nat → Rat) → Rat
  | 0, _ => 0
  | n + 1, f => sR n f + f n
theorem sR_congr {f g : Nat → Rat} : ∀ {n : Nat}, (∀ i, i < n → f i = g i) → sR n f = sR n g
  | 0, _ => rfl
  | n + 1, h => by
    show sR n f + f n = sR n g + g n
    rw [sR_congr fun i hi => h i (Nat.lt_succ_of_lt hi), h n (Nat.lt_succ_self n)]
theorem sR_add (f g : Nat → Rat) : ∀ n, sR n (fun i => f i + g i) = sR n f + sR n g
  | 0 => (Rat.add_zero 0).symm
  | n + 1 => by
    show sR n (fun i => f i + g i) + (f n + g n) = (sR n f + f n) + (sR n g + g n)
    rw [sR_add f g n]; grind
theorem sR_sub (f g : Nat → Rat) : ∀ n, sR n (fun i => f i - g i) = sR n f - sR n g
  | 0 => by show (0 : Rat) = 0 - 0; grind
  | n + 1 => by
    show sR n (fun i => f i - g i) + (f n - g n) = (sR n f + f n) - (sR n g + g n)
    rw [sR_sub f g n]; grind
theorem sR_mul (c : Rat) (f : Nat → Rat) : ∀ n, sR n (fun i => c * f i) = c * sR n f
  | 0 => (Rat.mul_zero c).symm
  | n + 1 => by
    show sR n (fun i => c * f i) + c * f n = c * (sR n f + f n)
    rw [sR_mul c f n, Rat.mul_add]
theorem sR_mul_right (c : Rat) (f : Nat → Rat) (n : Nat) : sR n (fun i => f i * c) = sR n f * c := by
  rw [Rat.mul_comm, ← sR_mul]
  exact sR_congr fun i _ => Rat.mul_comm _ _
theorem sR_neg (f : Nat → Rat) (n : Nat) : sR n (fun i => - f i) = - sR n f := by
  have := sR_mul (-1) f n
  have e : sR n (fun i => - f i) = sR n (fun i => (-1) * f i) := sR_congr fun i _ => by grind
  rw [e, this]; grind
theorem sR_zero {f : Nat → Rat} : ∀ {n : Nat}, (∀ i, i < n → f i = 0) → sR n f = 0
  | 0, _ => rfl
  | n + 1, h => by
    show sR n f + f n = 0
    rw [sR_zero fun i hi => h i (Nat.lt_succ_of_lt hi), h n (Nat.lt_succ_self n), Rat.add_zero]
theorem sR_one {f : Nat → Rat} {k : Nat} : ∀ {n : Nat}, k < n → (∀ i, i < n → i ≠ k → f i = 0) → sR n f = f k
  | 0, hk, _ => absurd hk (Nat.not_lt_zero k)
  | n + 1, hk, h => by
    show sR n f + f n = f k
    by_cases e : k = n
    · subst e
      rw [sR_zero fun i hi => h i (Nat.lt_succ_of_lt hi) (Nat.ne_of_lt hi), Rat.zero_add]
    · rw [sR_one (k := k) (n := n) (by omega) fun i hi => h i (Nat.lt_succ_of_lt hi), h n (Nat.lt_succ_self n) (fun q => e q.symm), Rat.add_zero]
theorem sR_comm (f : Nat → Nat → Rat) (m : Nat) : ∀ n, sR n (fun i => sR m (f i)) = sR m (fun j => sR n (fun i => f i j))
  | 0 => (sR_zero fun _ _ => rfl).symm
  | n + 1 => by
    show sR n (fun i => sR m (f i)) + sR m (f n) = _
    rw [sR_comm f m n, ← sR_add]
    exact sR_congr fun _ _ => rfl
theorem sR_nonneg {f : Nat → Rat} : ∀ {n : Nat}, (∀ i, i < n → 0 ≤ f i) → 0 ≤ sR n f
  | 0, _ => Rat.le_refl
  | n + 1, h => Rat.add_nonneg (sR_nonneg fun i hi => h i (Nat.lt_succ_of_lt hi)) (h n (Nat.lt_succ_self n))
theorem sR_le {f g : Nat → Rat} {n : Nat} (h : ∀ i, i < n → f i ≤ g i) : sR n f ≤ sR n g := by
  have := sR_nonneg (f := fun i => g i - f i) (n := n) fun i hi => by have := h i hi; grind
  rw [sR_sub] at this; grind
/-- a sum of what is not below 0 is 0: all are -/
theorem sR_nil {f : Nat → Rat} : ∀ {n : Nat}, (∀ i, i < n → 0 ≤ f i) → sR n f ≤ 0 → ∀ i, i < n → f i = 0
  | 0, _, _, i, hi => absurd hi (Nat.not_lt_zero i)
  | n + 1, h, z, i, hi => by
    have z' : sR n f + f n ≤ 0 := z
    have h1 := sR_nonneg fun i hi => h i (Nat.lt_succ_of_lt hi)
    have h2 := h n (Nat.lt_succ_self n)
    by_cases e : i = n
    · subst e; grind
    · exact sR_nil (n := n) (fun i hi => h i (Nat.lt_succ_of_lt hi)) (by grind) i (by omega)
theorem sR_cast (f : Nat → Int) : ∀ n, ((sI n f : Int) : Rat) = sR n (fun i => (f i : Rat))
  | 0 => rfl
  | n + 1 => by
    show ((sI n f + f n : Int) : Rat) = sR n (fun i => (f i : Rat)) + (f n : Rat)
    rw [Rat.intCast_add, sR_cast f n]
theorem sR_pick {f : Nat → Rat} {k n : Nat} (h : k < n) : sR n (fun j => if k = j then f j else 0) = f k := by
  rw [sR_one h]
  · rw [if_pos rfl]
  · intro i _ hi; rw [if_neg (fun q => hi q.symm)]
theorem sR_pick_none {f : Nat → Rat} {k n : Nat} (h : n ≤ k) : sR n (fun j => if k = j then f j else 0) = 0 := sR_zero fun i hi => if_neg (by omega)
theorem sI_nil {f : Nat → Int} : ∀ {n : Nat}, (∀ i, i < n → 0 ≤ f i) → sI n f ≤ 0 → ∀ i, i < n → f i = 0
  | 0, _, _, i, hi => absurd hi (Nat.not_lt_zero i)
  | n + 1, h, z, i, hi => by
    have z' : sI n f + f n ≤ 0 := z
    have h1 := sI_nonneg fun i hi => h i (Nat.lt_succ_of_lt hi)
    have h2 := h n (Nat.lt_succ_self n)
    by_cases e : i = n
    · subst e; omega
    · exact sI_nil (n := n) (fun i hi => h i (Nat.lt_succ_of_lt hi)) (by omega) i (by omega)
end K6
-- KStd
set_option maxHeartbeats 1000000
/-! Equations with columns not below 0: the two phases and what they show. -/
namespace K6
structure SPlan (m n : Nat) (a : Nat → Nat → Int) (R : Nat) (x : Nat → Rat) : Prop where
  nn : ∀ j, j < n → 0 ≤ x j
  eq : ∀ r, r < m → sR n (fun j => x j * (a j r : Rat)) = (a R r : Rat)
/-- the amounts at a base -/
def xB (m : Nat) (a : Nat → Nat → Int) (R : Nat) (B : Nat → Nat) (j : Nat) : Rat := sR m (fun i => if B i = j then (T m a B i R : Rat) / (low m a B : Rat) else 0)
/-- the weights at a base -/
def yB (m n : Nat) (a : Nat → Nat → Int) (c : Nat → Int) (B : Nat → Nat) (i : Nat) : Rat := ((c (n + i) * low m a B - zz m a c B (n + i) : Int) : Rat) / (low m a B : Rat)
inductive Chain (m n N : Nat) (a : Nat → Nat → Int) (c : Nat → Int) (R : Nat) (B0 : Nat → Nat) : Nat → (Nat → Nat) → Prop
  | nil : Chain m n N a c R B0 0 B0
  | snoc {k : Nat} {B : Nat → Nat} {s r : Nat} : Chain m n N a c R B0 k B → Step m n N a c R B s r → Chain m n N a c R B0 (k + 1) (put B r s)
section
variable {m n N R : Nat} {a : Nat → Nat → Int} {B B0 : Nat → Nat} {c : Nat → Int}
theorem Chain.both (hG : Good m N a B0) (hF : Feas m a R B0) {k : Nat} (h : Chain m n N a c R B0 k B) : Good m N a B ∧ Feas m a R B := by
  induction h with
  | nil => exact ⟨hG, hF⟩
  | snoc h S ih => exact ⟨S.good ih.1, S.feas ih.1 ih.2⟩
theorem Chain.seq {k : Nat} (h : Chain m n N a c R B0 k B) : ∃ (Bs : Nat → Nat → Nat) (s r : Nat → Nat), Bs 0 = B0 ∧ Bs k = B ∧ ∀ i, i < k → Step m n N a c R (Bs i) (s i) (r i) ∧ Bs (i + 1) = put (Bs i) (r i) (s i) := by
  induction h with
  | nil => exact ⟨fun _ => B0, fun _ => 0, fun _ => 0, rfl, rfl, fun i hi => absurd hi (Nat.not_lt_zero i)⟩
  | @snoc k B s r h S ih =>
    obtain ⟨Bs, ss, rs, h0, hk, h⟩ := ih
    refine ⟨fun i => if i ≤ k then Bs i else put B r s, fun i => if i < k then ss i else s, fun i => if i < k then rs i else r, ?_, ?_, fun i hi => ?_⟩
    · show (if 0 ≤ k then Bs 0 else _) = B0
      rw [if_pos (Nat.zero_le k)]; exact h0
    · show (if k + 1 ≤ k then _ else put B r s) = put B r s
      rw [if_neg (by omega)]
    · by_cases e : i = k
      · subst e
        have e1 : (if i < i then ss i else s) = s := if_neg (by omega)
        have e2 : (if i < i then rs i else r) = r := if_neg (by omega)
        have e3 : (if i ≤ i then Bs i else put B r s) = B := by rw [if_pos (Nat.le_refl i)]; exact hk
        have e4 : (if i + 1 ≤ i then Bs (i + 1) else put B r s) = put B r s := if_neg (by omega)
        show Step m n N a c R (if i ≤ i then Bs i else put B r s) (if i < i then ss i else s) (if i < i then rs i else r) ∧ (if i + 1 ≤ i then Bs (i + 1) else put B r s) = put (if i ≤ i then Bs i else put B r s) (if i < i then rs i else r) (if i < i then ss i else s)
        rw [e1, e2, e3, e4]
        exact ⟨S, rfl⟩
      · have hik : i < k := by omega
        have e1 : (if i < k then ss i else s) = ss i := if_pos hik
        have e2 : (if i < k then rs i else r) = rs i := if_pos hik
        have e3 : (if i ≤ k then Bs i else put B r s) = Bs i := if_pos (by omega)
        have e4 : (if i + 1 ≤ k then Bs (i + 1) else put B r s) = Bs (i + 1) := if_pos (by omega)
        show Step m n N a c R (if i ≤ k then Bs i else put B r s) (if i < k then ss i else s) (if i < k then rs i else r) ∧ (if i + 1 ≤ k then Bs (i + 1) else put B r s) = put (if i ≤ k then Bs i else put B r s) (if i < k then rs i else r) (if i < k then ss i else s)
        rw [e1, e2, e3, e4]
        exact h i hik
/-- so many steps at most -/
theorem Chain.short (hG : Good m N a B0) (hF : Feas m a R B0) {k : Nat} (h : Chain m n N a c R B0 k B) : k < N ^ m := by
  obtain ⟨Bs, s, r, h0, _, h⟩ := h.seq
  refine Classical.byContradiction fun hk => ?_
  exact run_ends (n := n) (R := R) (c := c) (Bs := Bs) (s := s) (r := r) (h0 ▸ hG) (h0 ▸ hF) (fun i hi => (h i (by omega)).1) (fun i hi => (h i (by omega)).2)
/-- what the steps keep -/
theorem Chain.keep {P : (Nat → Nat) → Prop} (hG : Good m N a B0) (hF : Feas m a R B0) (h0 : P B0) (hs : ∀ B s r, Good m N a B → Feas m a R B → P B → Step m n N a c R B s r → P (put B r s)) {k : Nat} (h : Chain m n N a c R B0 k B) : P B := by
  induction h with
  | nil => exact h0
  | snoc h S ih =>
    have q := h.both hG hF
    exact hs _ _ _ q.1 q.2 ih S
theorem rat_cancel {l x y : Rat} (hl : 0 < l) (h : l * x = l * y) : x = y := by
  have hl' : l ≠ 0 := Rat.ne_of_gt hl
  grind
theorem lowR_pos (G : Good m N a B) : (0 : Rat) < (low m a B : Rat) := Rat.intCast_pos.mpr (low_pos G)
theorem zz_dual (hu : ∀ i, i < m → a (n + i) = unitV i) (j : Nat) : zz m a c B j = low m a B * c j - sI m (fun i => a j i * (c (n + i) * low m a B - zz m a c B (n + i))) := by
  have e : ∀ i, c (n + i) * low m a B - zz m a c B (n + i) = sI m (fun k => c (B k) * T m a B k (n + i)) := fun i => by unfold zz; grind
  have e2 : sI m (fun k => c (B k) * T m a B k j) = sI m (fun i => a j i * (c (n + i) * low m a B - zz m a c B (n + i))) := by
    have e3 : sI m (fun i => a j i * (c (n + i) * low m a B - zz m a c B (n + i))) = sI m (fun i => sI m (fun k => a j i * (c (B k) * T m a B k (n + i)))) := sI_congr fun i hi => by rw [e, ← sI_mul]
    rw [e3, sI_comm]
    refine sI_congr fun k hk => ?_
    have h := T_lin (a := a) B hk 1 (fun i => a j i) (fun i => n + i) j m fun r hr => by
      rw [Int.one_mul, ← vec_unit (x := a j) hr]
      exact sI_congr fun i hi => by rw [hu i hi]
    rw [Int.one_mul] at h
    rw [h, ← sI_mul]
    exact sI_congr fun i _ => by grind
  show low m a B * c j - sI m (fun k => c (B k) * T m a B k j) = _
  rw [e2]
/-- the left costs by the weights -/
theorem zz_y (G : Good m N a B) (hu : ∀ i, i < m → a (n + i) = unitV i) (j : Nat) : (zz m a c B j : Rat) / (low m a B : Rat) = (c j : Rat) - sR m (fun i => yB m n a c B i * (a j i : Rat)) := by
  have hl := lowR_pos G
  rw [zz_dual hu j, Rat.intCast_sub, Rat.intCast_mul, sR_cast]
  have e : sR m (fun i => ((a j i * (c (n + i) * low m a B - zz m a c B (n + i)) : Int) : Rat)) = (low m a B : Rat) * sR m (fun i => yB m n a c B i * (a j i : Rat)) := by
    rw [← sR_mul]
    refine sR_congr fun i _ => ?_
    unfold yB
    rw [Rat.intCast_mul]
    grind
  rw [e]; grind
/-- the amounts, by rows -/
theorem xB_at (G : Good m N a B) {i : Nat} (hi : i < m) : xB m a R B (B i) = (T m a B i R : Rat) / (low m a B : Rat) := by
  unfold xB
  rw [sR_one hi]
  · rw [if_pos rfl]
  · intro k hk hki; rw [if_neg fun e => hki (inj G hk hi e)]
theorem xB_no {j : Nat} (h : ¬ InB m B j) : xB m a R B j = 0 := sR_zero fun i hi => if_neg fun e => h ⟨i, hi, e⟩
theorem xB_sum (f : Nat → Rat) (n : Nat) : sR n (fun j => xB m a R B j * f j) = sR m (fun i => if B i < n then (T m a B i R : Rat) / (low m a B : Rat) * f (B i) else 0) := by
  have e : sR n (fun j => xB m a R B j * f j) = sR n (fun j => sR m (fun i => if B i = j then (T m a B i R : Rat) / (low m a B : Rat) * f j else 0)) := sR_congr fun j _ => by
    unfold xB
    rw [← sR_mul_right]
    exact sR_congr fun i _ => by split <;> grind
  rw [e, sR_comm]
  refine sR_congr fun i _ => ?_
  split
  · next h => exact sR_pick (f := fun j => (T m a B i R : Rat) / (low m a B : Rat) * f j) h
  · next h => exact sR_pick_none (f := fun j => (T m a B i R : Rat) / (low m a B : Rat) * f j) (by omega)
theorem xB_plan (G : Good m N a B) (F : Feas m a R B) (hz : ∀ i, i < m → n ≤ B i → T m a B i R = 0) : SPlan m n a R (xB m a R B) where
  nn j _ := sR_nonneg fun i hi => by
    split
    · have h1 : (0 : Rat) ≤ (T m a B i R : Rat) := Rat.intCast_nonneg.mpr (F i hi)
      have h2 := Rat.inv_pos.mpr (lowR_pos G)
      rw [Rat.div_def]
      exact Rat.mul_nonneg h1 (Rat.le_of_lt h2)
    · exact Rat.le_refl
  eq r hr := by
    rw [xB_sum]
    have hl := lowR_pos G
    have h := col_eq G R hr
    have h' : (low m a B : Rat) * (a R r : Rat) = sR m (fun i => (T m a B i R : Rat) * (a (B i) r : Rat)) := by
      rw [← Rat.intCast_mul, h, sR_cast]
      exact sR_congr fun i _ => Rat.intCast_mul _ _
    have e : (low m a B : Rat) * sR m (fun i => if B i < n then (T m a B i R : Rat) / (low m a B : Rat) * (a (B i) r : Rat) else 0) = sR m (fun i => (T m a B i R : Rat) * (a (B i) r : Rat)) := by
      rw [← sR_mul]
      refine sR_congr fun i hi => ?_
      split
      · grind
      · next q => rw [hz i hi (by omega)]; simp
    rw [← h'] at e
    exact rat_cancel hl e
theorem xB_worth (G : Good m N a B) (hz : ∀ i, i < m → n ≤ B i → T m a B i R = 0) (hc : c R = 0) : sR n (fun j => xB m a R B j * (c j : Rat)) = - ((zz m a c B R : Rat) / (low m a B : Rat)) := by
  rw [xB_sum]
  have hl := lowR_pos G
  unfold zz
  rw [hc, Int.mul_zero, Int.zero_sub, Rat.intCast_neg, sR_cast]
  have e : sR m (fun i => if B i < n then (T m a B i R : Rat) / (low m a B : Rat) * (c (B i) : Rat) else 0) = (low m a B : Rat)⁻¹ * sR m (fun i => ((c (B i) * T m a B i R : Int) : Rat)) := by
    rw [← sR_mul]
    refine sR_congr fun i hi => ?_
    rw [Rat.intCast_mul]
    split
    · grind
    · next q => rw [hz i hi (by omega)]; simp
  rw [e]; grind
/-! ### the end of a phase -/
def Fin (m n : Nat) (a : Nat → Nat → Int) (c : Nat → Int) (B : Nat → Nat) : Prop := ∀ j, j < n → 0 ≤ zz m a c B j
structure Unb (m n : Nat) (a : Nat → Nat → Int) (c : Nat → Int) (B : Nat → Nat) (s : Nat) : Prop where
  sn : s < n
  neg : zz m a c B s < 0
  col : ∀ i, i < m → T m a B i s ≤ 0
/-- the helping columns cost 1 -/
def cost1 (n m : Nat) (j : Nat) : Int := if n ≤ j ∧ j < n + m then 1 else 0
theorem cost1_nn (j : Nat) : 0 ≤ cost1 n m j := by unfold cost1; split <;> omega
theorem no_unb1 {s : Nat} (h : Unb m n a (cost1 n m) B s) : False := by
  have h1 := h.neg
  unfold zz at h1
  have e : cost1 n m s = 0 := if_neg (by have := h.sn; omega)
  rw [e, Int.mul_zero, Int.zero_sub] at h1
  have h2 : 0 ≤ sI m (fun i => - (cost1 n m (B i) * T m a B i s)) := sI_nonneg fun i hi => by
    have := Int.mul_nonneg (cost1_nn (n := n) (m := m) (B i)) (show 0 ≤ - T m a B i s by have := h.col i hi; omega)
    rw [Int.mul_neg] at this; exact this
  have h3 : sI m (fun i => - (cost1 n m (B i) * T m a B i s)) = - sI m (fun i => cost1 n m (B i) * T m a B i s) := by
    have := sI_mul (-1) (fun i => cost1 n m (B i) * T m a B i s) m
    rw [Int.neg_one_mul] at this
    rw [← this]; exact sI_congr fun i _ => (Int.neg_one_mul _).symm
  omega
/-- weights that are not above the costs, and more than a plan costs -/
theorem dual_le {y : Nat → Rat} {x : Nat → Rat} {d : Nat → Rat} (hx : SPlan m n a R x) (hy : ∀ j, j < n → sR m (fun i => y i * (a j i : Rat)) ≤ d j) : sR m (fun i => y i * (a R i : Rat)) ≤ sR n (fun j => x j * d j) := by
  have e : sR m (fun i => y i * (a R i : Rat)) = sR n (fun j => x j * sR m (fun i => y i * (a j i : Rat))) := by
    rw [sR_congr (g := fun i => sR n (fun j => x j * (y i * (a j i : Rat)))), sR_comm]
    · exact sR_congr fun j _ => by rw [← sR_mul]
    · intro i hi
      rw [← hx.eq i hi, ← sR_mul]
      exact sR_congr fun j _ => by grind
  rw [e]
  exact sR_le fun j hj => Rat.mul_le_mul_of_nonneg_left (hy j hj) (hx.nn j hj)
theorem phase1_none (G : Good m (n + m) a B) (F : Feas m a (n + m) B) (hu : ∀ i, i < m → a (n + i) = unitV i) (E : Fin m n a (cost1 n m) B) (hz : zz m a (cost1 n m) B (n + m) ≠ 0) {x : Nat → Rat} (hx : SPlan m n a (n + m) x) : False := by
  have hl := lowR_pos G
  have cR : cost1 n m (n + m) = 0 := if_neg (by omega)
  have neg : zz m a (cost1 n m) B (n + m) < 0 := by
    have h : 0 ≤ sI m (fun i => cost1 n m (B i) * T m a B i (n + m)) := sI_nonneg fun i hi => Int.mul_nonneg (cost1_nn _) (F i hi)
    have e : zz m a (cost1 n m) B (n + m) = - sI m (fun i => cost1 n m (B i) * T m a B i (n + m)) := by unfold zz; rw [cR, Int.mul_zero, Int.zero_sub]
    omega
  have h1 := dual_le (y := yB m n a (cost1 n m) B) (d := fun _ => 0) hx fun j hj => by
    have h := zz_y (c := cost1 n m) G hu j
    have cj : cost1 n m j = 0 := if_neg (by omega)
    rw [cj] at h
    have h2 : (0 : Rat) ≤ (zz m a (cost1 n m) B j : Rat) := Rat.intCast_nonneg.mpr (E j hj)
    have h3 := Rat.mul_nonneg h2 (Rat.le_of_lt (Rat.inv_pos.mpr hl))
    rw [← Rat.div_def, h] at h3
    have : ((0 : Int) : Rat) = 0 := rfl
    grind
  have h := zz_y (c := cost1 n m) G hu (n + m)
  rw [cR] at h
  have h0 : sR n (fun j => x j * (0 : Rat)) = 0 := sR_zero fun _ _ => Rat.mul_zero _
  rw [h0] at h1
  have h2 : (zz m a (cost1 n m) B (n + m) : Rat) < 0 := Rat.intCast_neg_iff.mpr neg
  have h3 : (zz m a (cost1 n m) B (n + m) : Rat) / (low m a B : Rat) < 0 := by
    rw [Rat.div_lt_iff hl]; grind
  have : ((0 : Int) : Rat) = 0 := rfl
  grind
theorem phase1_zero (F : Feas m a (n + m) B) (inN : ∀ i, i < m → B i < n + m) (hz : zz m a (cost1 n m) B (n + m) = 0) : ∀ i, i < m → n ≤ B i → T m a B i (n + m) = 0 := by
  have cR : cost1 n m (n + m) = 0 := if_neg (by omega)
  have e : zz m a (cost1 n m) B (n + m) = - sI m (fun i => cost1 n m (B i) * T m a B i (n + m)) := by unfold zz; rw [cR, Int.mul_zero, Int.zero_sub]
  have h := sI_nil (f := fun i => cost1 n m (B i) * T m a B i (n + m)) (n := m) (fun i hi => Int.mul_nonneg (cost1_nn _) (F i hi)) (by omega)
  intro i hi hB
  have q := h i hi
  have c1 : cost1 n m (B i) = 1 := if_pos ⟨hB, inN i hi⟩
  have q' : cost1 n m (B i) * T m a B i (n + m) = 0 := q
  rw [c1, Int.one_mul] at q'
  exact q'
/-! ### helping columns out of the base -/
/-- behind k rows -/
structure Driven (m n : Nat) (a : Nat → Nat → Int) (k : Nat) (B : Nat → Nat) : Prop where
  G : Good m (n + m) a B
  F : Feas m a (n + m) B
  zr : ∀ i, i < m → n ≤ B i → T m a B i (n + m) = 0
  zc : ∀ i, i < m → i < k → n ≤ B i → ∀ j, j < n → T m a B i j = 0
theorem Driven.more {k : Nat} (h : Driven m n a k B) (hk : B k < n ∨ ∀ j, j < n → T m a B k j = 0) : Driven m n a (k + 1) B := ⟨h.G, h.F, h.zr, fun i hi hik hB j hj => by
  by_cases e : i = k
  · subst e
    rcases hk with q | q
    · omega
    · exact q j hj
  · exact h.zc i hi (by omega) hB j hj⟩
theorem Driven.turn {k s : Nat} (h : Driven m n a k B) (hk : k < m) (hB : n ≤ B k) (hs : s < n) (hp : T m a B k s ≠ 0) : Driven m n a (k + 1) (put B k s) := by
  have sN : s < n + m := by omega
  have l0 := low_pos h.G
  have G' := h.G.put hk sN (tt_ne hp)
  have l1 := low_pos G'
  have zk : T m a (put B k s) k (n + m) = 0 := by
    rw [T_put_same hp, h.zr k hk hB]; split <;> rfl
  have row : ∀ i, i < m → i ≠ k → T m a B i (n + m) * low m a (put B k s) = low m a B * T m a (put B k s) i (n + m) := fun i hi ne => by
    have q := T_put h.G hk sN hp hi ne (n + m)
    rw [zk, Int.mul_zero, Int.sub_zero] at q; exact q
  refine ⟨G', fun i hi => ?_, fun i hi hBi => ?_, fun i hi hik hBi j hj => ?_⟩
  · by_cases e : i = k
    · subst e; omega
    · have q := row i hi e
      have q0 := Int.mul_nonneg (h.F i hi) (Int.le_of_lt l1)
      rw [q] at q0
      exact Int.nonneg_of_mul_nonneg_right q0 l0
  · by_cases e : i = k
    · subst e; exact zk
    · rw [put_ne _ _ e] at hBi
      have q := row i hi e
      rw [h.zr i hi hBi, Int.zero_mul] at q
      rcases Int.mul_eq_zero.mp q.symm with w | w
      · omega
      · exact w
  · by_cases e : i = k
    · subst e; rw [put_same] at hBi; omega
    · rw [put_ne _ _ e] at hBi
      have q := T_put h.G hk sN hp hi e j
      rw [h.zc i hi (by omega) hBi j hj, h.zc i hi (by omega) hBi s hs, Int.zero_mul, Int.zero_mul, Int.sub_zero] at q
      rcases Int.mul_eq_zero.mp q.symm with w | w
      · omega
      · exact w
/-- a step keeps the rows of helping columns empty -/
theorem Driven.step {s r : Nat} (h : Driven m n a m B) (S : Step m n (n + m) a c (n + m) B s r) : Driven m n a m (put B r s) := by
  have l0 := low_pos h.G
  have hB : ∀ i, i < m → n ≤ B i → i ≠ r := fun i hi hBi e => by
    subst e
    have := h.zc i hi hi hBi s S.sn
    have := S.pos; omega
  refine ⟨S.good h.G, S.feas h.G h.F, fun i hi hBi => ?_, fun i hi _ hBi j hj => ?_⟩
  · by_cases e : i = r
    · subst e; rw [put_same] at hBi; have := S.sn; omega
    · rw [put_ne _ _ e] at hBi
      have q := S.row h.G hi e (n + m)
      rw [h.zr i hi hBi, h.zc i hi hi hBi s S.sn, Int.zero_mul, Int.zero_mul, Int.sub_zero] at q
      rcases Int.mul_eq_zero.mp q.symm with w | w
      · omega
      · exact w
  · by_cases e : i = r
    · subst e; rw [put_same] at hBi; have := S.sn; omega
    · rw [put_ne _ _ e] at hBi
      have q := S.row h.G hi e j
      rw [h.zc i hi hi hBi j hj, h.zc i hi hi hBi s S.sn, Int.zero_mul, Int.zero_mul, Int.sub_zero] at q
      rcases Int.mul_eq_zero.mp q.symm with w | w
      · omega
      · exact w
theorem Driven.chain {k : Nat} (h : Driven m n a m B0) (C : Chain m n (n + m) a c (n + m) B0 k B) : Driven m n a m B :=
  C.keep h.G h.F h fun _ _ _ _ _ q S => q.step S
/-! ### what phase 2 shows -/
theorem phase2_best (h : Driven m n a m B) (hu : ∀ i, i < m → a (n + i) = unitV i) (E : Fin m n a c B) (cR : c (n + m) = 0) :
    SPlan m n a (n + m) (xB m a (n + m) B) ∧ (∀ j, j < n → sR m (fun i => yB m n a c B i * (a j i : Rat)) ≤ (c j : Rat)) ∧
      sR n (fun j => xB m a (n + m) B j * (c j : Rat)) = sR m (fun i => yB m n a c B i * (a (n + m) i : Rat)) := by
  have hl := lowR_pos h.G
  refine ⟨xB_plan h.G h.F h.zr, fun j hj => ?_, ?_⟩
  · have q := zz_y (c := c) h.G hu j
    have h2 : (0 : Rat) ≤ (zz m a c B j : Rat) := Rat.intCast_nonneg.mpr (E j hj)
    have h3 := Rat.mul_nonneg h2 (Rat.le_of_lt (Rat.inv_pos.mpr hl))
    rw [← Rat.div_def, q] at h3
    grind
  · rw [xB_worth h.G h.zr cR, zz_y (c := c) h.G hu, cR]
    have : ((0 : Int) : Rat) = 0 := rfl
    grind
/-- the way on which the costs fall for ever -/
def wB (m : Nat) (a : Nat → Nat → Int) (B : Nat → Nat) (s j : Nat) : Rat := (if s = j then 1 else 0) - sR m (fun i => if B i = j then (T m a B i s : Rat) / (low m a B : Rat) else 0)
theorem wB_sum (f : Nat → Rat) {s n : Nat} (hs : s < n) : sR n (fun j => wB m a B s j * f j) = f s - sR m (fun i => if B i < n then (T m a B i s : Rat) / (low m a B : Rat) * f (B i) else 0) := by
  have e : ∀ j, wB m a B s j * f j = (if s = j then f j else 0) - sR m (fun i => if B i = j then (T m a B i s : Rat) / (low m a B : Rat) * f j else 0) := fun j => by
    unfold wB
    rw [Rat.sub_eq_add_neg, Rat.add_mul, Rat.neg_mul, ← sR_mul_right, ← Rat.sub_eq_add_neg]
    congr 1
    · split <;> grind
    · exact sR_congr fun i _ => by split <;> grind
  rw [sR_congr fun j _ => e j, sR_sub, sR_pick (f := f) hs, sR_comm]
  congr 1
  refine sR_congr fun i _ => ?_
  split
  · next h => exact sR_pick (f := fun j => (T m a B i s : Rat) / (low m a B : Rat) * f j) h
  · next h => exact sR_pick_none (f := fun j => (T m a B i s : Rat) / (low m a B : Rat) * f j) (by omega)
theorem phase2_way {s : Nat} (h : Driven m n a m B) (U : Unb m n a c B s) :
    (∀ j, j < n → 0 ≤ wB m a B s j) ∧ (∀ r, r < m → sR n (fun j => wB m a B s j * (a j r : Rat)) = 0) ∧ sR n (fun j => wB m a B s j * (c j : Rat)) < 0 := by
  have hl := lowR_pos h.G
  refine ⟨fun j _ => ?_, fun r hr => ?_, ?_⟩
  · unfold wB
    have h1 : (0 : Rat) ≤ sR m (fun i => - (if B i = j then (T m a B i s : Rat) / (low m a B : Rat) else 0)) := sR_nonneg fun i hi => by
      split
      · have h1 : (0 : Rat) ≤ ((- T m a B i s : Int) : Rat) := Rat.intCast_nonneg.mpr (by have := U.col i hi; omega)
        have h2 := Rat.mul_nonneg h1 (Rat.le_of_lt (Rat.inv_pos.mpr hl))
        rw [Rat.intCast_neg] at h2
        rw [Rat.div_def]; grind
      · grind
    rw [sR_neg] at h1
    split <;> grind
  · rw [wB_sum _ U.sn]
    have h1 := col_eq h.G s hr
    have h' : (low m a B : Rat) * (a s r : Rat) = sR m (fun i => (T m a B i s : Rat) * (a (B i) r : Rat)) := by
      rw [← Rat.intCast_mul, h1, sR_cast]
      exact sR_congr fun i _ => Rat.intCast_mul _ _
    have e : (low m a B : Rat) * sR m (fun i => if B i < n then (T m a B i s : Rat) / (low m a B : Rat) * (a (B i) r : Rat) else 0) = sR m (fun i => (T m a B i s : Rat) * (a (B i) r : Rat)) := by
      rw [← sR_mul]
      refine sR_congr fun i hi => ?_
      split
      · grind
      · next q => rw [h.zc i hi hi (by omega) s U.sn]; simp
    rw [← h'] at e
    rw [rat_cancel hl e]; grind
  · rw [wB_sum _ U.sn]
    have neg : (zz m a c B s : Rat) < 0 := Rat.intCast_neg_iff.mpr U.neg
    have e : (zz m a c B s : Rat) = (low m a B : Rat) * ((c s : Rat) - sR m (fun i => if B i < n then (T m a B i s : Rat) / (low m a B : Rat) * (c (B i) : Rat) else 0)) := by
      unfold zz
      rw [Rat.intCast_sub, Rat.intCast_mul, sR_cast, Rat.sub_eq_add_neg, Rat.sub_eq_add_neg, Rat.mul_add, Rat.mul_neg, ← sR_mul]
      congr 2
      refine sR_congr fun i hi => ?_
      rw [Rat.intCast_mul]
      split
      · grind
      · next q => rw [h.zc i hi hi (by omega) s U.sn]; simp
    rw [e] at neg
    exact (Rat.mul_neg_iff_of_pos_left hl).mp neg
end
end K6
-- KTask
set_option maxHeartbeats 1000000
/-! Tasks: plans, papers, the spread columns, the three endings. -/
namespace K6
inductive Sg where
  | ge | le | eq
  deriving DecidableEq
structure Task where
  k : Nat
  m : Nat
  plus : Nat → Bool
  c : Nat → Int
  A : Nat → Nat → Int
  sg : Nat → Sg
  b : Nat → Int
def rowS (t : Task) (x : Nat → Rat) (i : Nat) : Rat := sR t.k (fun j => (t.A i j : Rat) * x j)
def colS (t : Task) (y : Nat → Rat) (j : Nat) : Rat := sR t.m (fun i => (t.A i j : Rat) * y i)
def costT (t : Task) (x : Nat → Rat) : Rat := sR t.k (fun j => (t.c j : Rat) * x j)
def prom (t : Task) (y : Nat → Rat) : Rat := sR t.m (fun i => (t.b i : Rat) * y i)
structure Plan (t : Task) (x : Nat → Rat) : Prop where
  nn : ∀ j, j < t.k → t.plus j = true → 0 ≤ x j
  ge : ∀ i, i < t.m → t.sg i = .ge → (t.b i : Rat) ≤ rowS t x i
  le : ∀ i, i < t.m → t.sg i = .le → rowS t x i ≤ (t.b i : Rat)
  eq : ∀ i, i < t.m → t.sg i = .eq → rowS t x i = (t.b i : Rat)
structure Paper (t : Task) (y : Nat → Rat) : Prop where
  ge : ∀ i, i < t.m → t.sg i = .ge → 0 ≤ y i
  le : ∀ i, i < t.m → t.sg i = .le → y i ≤ 0
  col : ∀ j, j < t.k → colS t y j ≤ (t.c j : Rat)
  colE : ∀ j, j < t.k → t.plus j = false → colS t y j = (t.c j : Rat)
def plain (t : Task) : Task where
  k := t.k
  m := t.m
  plus := t.plus
  c := t.c
  A i j := if t.sg i = .le then - t.A i j else t.A i j
  sg i := if t.sg i = .le then .ge else t.sg i
  b i := if t.sg i = .le then - t.b i else t.b i
def IsPlain (t : Task) : Prop := ∀ i, i < t.m → t.sg i ≠ .le
theorem plain_plain (t : Task) : IsPlain (plain t) := fun i _ => by
  show (if t.sg i = .le then Sg.ge else t.sg i) ≠ .le
  split
  · exact fun h => by cases h
  · next h => exact h
theorem rowS_plain (t : Task) (x : Nat → Rat) (i : Nat) : rowS (plain t) x i = if t.sg i = .le then - rowS t x i else rowS t x i := by
  show sR t.k (fun j => (((if t.sg i = .le then - t.A i j else t.A i j : Int)) : Rat) * x j) = _
  split
  · next h =>
    unfold rowS
    rw [← sR_neg]
    exact sR_congr fun j _ => by rw [Rat.intCast_neg, Rat.neg_mul]
  · rfl
theorem plan_plain {t : Task} {x : Nat → Rat} : Plan (plain t) x ↔ Plan t x := by
  have e : ∀ i, (plain t).sg i = if t.sg i = .le then Sg.ge else t.sg i := fun _ => rfl
  have eb : ∀ i, (plain t).b i = if t.sg i = .le then - t.b i else t.b i := fun _ => rfl
  constructor
  · intro h
    refine ⟨h.nn, fun i hi g => ?_, fun i hi g => ?_, fun i hi g => ?_⟩
    · have q := h.ge i hi (by rw [e, g]; rfl)
      rw [rowS_plain, eb, g] at q; simpa using q
    · have q := h.ge i hi (by rw [e, g]; rfl)
      rw [rowS_plain, eb, g, if_pos rfl, if_pos rfl, Rat.intCast_neg] at q
      grind
    · have q := h.eq i hi (by rw [e, g]; rfl)
      rw [rowS_plain, eb, g] at q; simpa using q
  · intro h
    refine ⟨h.nn, fun i hi g => ?_, fun i hi g => absurd g (plain_plain t i hi), fun i hi g => ?_⟩
    · rw [rowS_plain, eb]
      rw [e] at g
      split
      · next q => rw [Rat.intCast_neg]; have := h.le i hi q; grind
      · next q => rw [if_neg q] at g; exact h.ge i hi g
    · rw [rowS_plain, eb]
      rw [e] at g
      split
      · next q => rw [if_pos q] at g; cases g
      · next q => rw [if_neg q] at g; exact h.eq i hi g
/-- weights of the rows as they are written -/
def signedY (t : Task) (y : Nat → Rat) (i : Nat) : Rat := if t.sg i = .le then - y i else y i
theorem colS_signed (t : Task) (y : Nat → Rat) (j : Nat) : colS t (signedY t y) j = colS (plain t) y j := by
  show sR t.m (fun i => (t.A i j : Rat) * (if t.sg i = .le then - y i else y i)) = sR t.m (fun i => (((if t.sg i = .le then - t.A i j else t.A i j : Int)) : Rat) * y i)
  refine sR_congr fun i _ => ?_
  split <;> grind
theorem prom_signed (t : Task) (y : Nat → Rat) : prom t (signedY t y) = prom (plain t) y := by
  show sR t.m (fun i => (t.b i : Rat) * (if t.sg i = .le then - y i else y i)) = sR t.m (fun i => (((if t.sg i = .le then - t.b i else t.b i : Int)) : Rat) * y i)
  refine sR_congr fun i _ => ?_
  split <;> grind
theorem paper_plain {t : Task} {y : Nat → Rat} : Paper (plain t) y ↔ Paper t (signedY t y) := by
  have e : ∀ i, (plain t).sg i = if t.sg i = .le then Sg.ge else t.sg i := fun _ => rfl
  constructor
  · intro h
    refine ⟨fun i hi g => ?_, fun i hi g => ?_, fun j hj => ?_, fun j hj g => ?_⟩
    · have q := h.ge i hi (by rw [e, g]; rfl)
      unfold signedY; rw [g]; exact q
    · have q := h.ge i hi (by rw [e, g]; rfl)
      unfold signedY; rw [g, if_pos rfl]; grind
    · rw [colS_signed]; exact h.col j hj
    · rw [colS_signed]; exact h.colE j hj g
  · intro h
    refine ⟨fun i hi g => ?_, fun i hi g => absurd g (plain_plain t i hi), fun j hj => ?_, fun j hj g => ?_⟩
    · rw [e] at g
      by_cases q : t.sg i = .le
      · have w := h.le i hi q
        unfold signedY at w; rw [if_pos q] at w; grind
      · rw [if_neg q] at g
        have w := h.ge i hi g
        unfold signedY at w; rwa [if_neg q] at w
    · rw [← colS_signed]; exact h.col j hj
    · rw [← colS_signed]; exact h.colE j hj g
/-- no plan costs less than a paper promises -/
theorem weak {t : Task} {x y : Nat → Rat} (hx : Plan t x) (hy : Paper t y) : prom t y ≤ costT t x := by
  have e1 : sR t.m (fun i => rowS t x i * y i) = sR t.k (fun j => colS t y j * x j) := by
    have a1 : sR t.m (fun i => rowS t x i * y i) = sR t.m (fun i => sR t.k (fun j => (t.A i j : Rat) * x j * y i)) := sR_congr fun i _ => by unfold rowS; rw [← sR_mul_right]
    have a2 : sR t.k (fun j => colS t y j * x j) = sR t.k (fun j => sR t.m (fun i => (t.A i j : Rat) * x j * y i)) := sR_congr fun j _ => by
      unfold colS; rw [← sR_mul_right]; exact sR_congr fun i _ => by grind
    rw [a1, a2, sR_comm]
  have h1 : prom t y ≤ sR t.m (fun i => rowS t x i * y i) := sR_le fun i hi => by
    cases g : t.sg i with
    | ge => exact Rat.mul_le_mul_of_nonneg_right (hx.ge i hi g) (hy.ge i hi g)
    | le =>
      have h1 := hx.le i hi g
      have h2 := hy.le i hi g
      have h3 := Rat.mul_nonneg (show (0 : Rat) ≤ (t.b i : Rat) - rowS t x i by grind) (show (0 : Rat) ≤ - y i by grind)
      grind
    | eq => rw [hx.eq i hi g]; exact Rat.le_refl
  have h2 : sR t.k (fun j => colS t y j * x j) ≤ costT t x := sR_le fun j hj => by
    cases g : t.plus j with
    | true => exact Rat.mul_le_mul_of_nonneg_right (hy.col j hj) (hx.nn j hj g)
    | false => rw [hy.colE j hj g]; exact Rat.le_refl
  rw [e1] at h1
  exact Rat.le_trans h1 h2
/-! ### the spread columns -/
def pos (plus : Nat → Bool) : Nat → Nat
  | 0 => 0
  | j + 1 => pos plus j + (if plus j = true then 1 else 2)
def colAt (plus : Nat → Bool) : Nat → Nat → Nat × Int
  | 0, _ => (0, 0)
  | k + 1, q => if q < pos plus k then colAt plus k q else if q = pos plus k then (k, 1) else (k, -1)
def spos (ge : Nat → Bool) : Nat → Nat
  | 0 => 0
  | i + 1 => spos ge i + (if ge i = true then 1 else 0)
def slkAt (ge : Nat → Bool) : Nat → Nat → Nat
  | 0, _ => 0
  | m + 1, q => if q < spos ge m then slkAt ge m q else m
def geAt (t : Task) (i : Nat) : Bool := decide (t.sg i = .ge)
def nL (t : Task) : Nat := pos t.plus t.k
def nS (t : Task) : Nat := spos (geAt t) t.m
def nn (t : Task) : Nat := nL t + nS t
def lineT (t : Task) (i q : Nat) : Int := if q < nL t then (colAt t.plus t.k q).2 * t.A i (colAt t.plus t.k q).1 else if slkAt (geAt t) t.m (q - nL t) = i then -1 else 0
def priceT (t : Task) (q : Nat) : Int := if q < nL t then (colAt t.plus t.k q).2 * t.c (colAt t.plus t.k q).1 else 0
def sr (t : Task) (i : Nat) : Int := if t.b i < 0 then -1 else 1
def stdA (t : Task) (j r : Nat) : Int := if j < nn t then sr t r * lineT t r j else if j < nn t + t.m then unitV (j - nn t) r else sr t r * t.b r
theorem pos_mono {plus : Nat → Bool} : ∀ {j k : Nat}, j ≤ k → pos plus j ≤ pos plus k
  | j, 0, h => by have : j = 0 := by omega
                  subst this; exact Nat.le_refl _
  | j, k + 1, h => by
    by_cases e : j = k + 1
    · subst e; exact Nat.le_refl _
    · have h1 := pos_mono (plus := plus) (j := j) (k := k) (by omega)
      show pos plus j ≤ pos plus k + (if plus k = true then 1 else 2)
      omega
theorem spos_mono {ge : Nat → Bool} : ∀ {j k : Nat}, j ≤ k → spos ge j ≤ spos ge k
  | j, 0, h => by have : j = 0 := by omega
                  subst this; exact Nat.le_refl _
  | j, k + 1, h => by
    by_cases e : j = k + 1
    · subst e; exact Nat.le_refl _
    · have h1 := spos_mono (ge := ge) (j := j) (k := k) (by omega)
      show spos ge j ≤ spos ge k + (if ge k = true then 1 else 0)
      omega
theorem colAt_old {plus : Nat → Bool} {k q : Nat} (h : q < pos plus k) : colAt plus (k + 1) q = colAt plus k q := if_pos h
theorem colAt_up {plus : Nat → Bool} {j k q : Nat} (hjk : j ≤ k) (h : q < pos plus j) : colAt plus k q = colAt plus j q := by
  induction k with
  | zero => have : j = 0 := by omega
            subst this; rfl
  | succ k ih =>
    by_cases e : j = k + 1
    · subst e; rfl
    · have := pos_mono (plus := plus) (j := j) (k := k) (by omega)
      rw [colAt_old (by omega)]; exact ih (by omega)
theorem slkAt_up {ge : Nat → Bool} {j k q : Nat} (hjk : j ≤ k) (h : q < spos ge j) : slkAt ge k q = slkAt ge j q := by
  induction k with
  | zero => have : j = 0 := by omega
            subst this; rfl
  | succ k ih =>
    by_cases e : j = k + 1
    · subst e; rfl
    · have := spos_mono (ge := ge) (j := j) (k := k) (by omega)
      have h2 : slkAt ge (k + 1) q = slkAt ge k q := if_pos (by omega)
      rw [h2]; exact ih (by omega)
theorem colAt_pos {plus : Nat → Bool} {j k : Nat} (h : j < k) : colAt plus k (pos plus j) = (j, 1) := by
  have h1 : pos plus j < pos plus (j + 1) := by show pos plus j < pos plus j + (if plus j = true then 1 else 2); split <;> omega
  rw [colAt_up (j := j + 1) (by omega) h1]
  show (if pos plus j < pos plus j then _ else if pos plus j = pos plus j then (j, (1 : Int)) else (j, -1)) = (j, 1)
  rw [if_neg (Nat.lt_irrefl _), if_pos rfl]
theorem colAt_pos1 {plus : Nat → Bool} {j k : Nat} (h : j < k) (hp : plus j = false) : colAt plus k (pos plus j + 1) = (j, -1) := by
  have h1 : pos plus j + 1 < pos plus (j + 1) := by show pos plus j + 1 < pos plus j + (if plus j = true then 1 else 2); rw [hp]; simp
  rw [colAt_up (j := j + 1) (by omega) h1]
  show (if pos plus j + 1 < pos plus j then _ else if pos plus j + 1 = pos plus j then (j, (1 : Int)) else (j, -1)) = (j, -1)
  rw [if_neg (by omega), if_neg (by omega)]
theorem slkAt_pos {ge : Nat → Bool} {j k : Nat} (h : j < k) (hg : ge j = true) : slkAt ge k (spos ge j) = j := by
  have h1 : spos ge j < spos ge (j + 1) := by show spos ge j < spos ge j + (if ge j = true then 1 else 0); rw [if_pos hg]; omega
  rw [slkAt_up (j := j + 1) (by omega) h1]
  show (if spos ge j < spos ge j then _ else j) = j
  rw [if_neg (Nat.lt_irrefl _)]
theorem colAt_in {plus : Nat → Bool} : ∀ {k q : Nat}, q < pos plus k → (colAt plus k q).1 < k ∧ ((colAt plus k q).2 = 1 ∨ (colAt plus k q).2 = -1)
  | 0, q, h => absurd h (Nat.not_lt_zero q)
  | k + 1, q, h => by
    by_cases c : q < pos plus k
    · rw [colAt_old c]
      have := colAt_in c
      exact ⟨by omega, this.2⟩
    · show (if q < pos plus k then colAt plus k q else if q = pos plus k then (k, (1 : Int)) else (k, -1)).1 < k + 1 ∧ ((if q < pos plus k then colAt plus k q else if q = pos plus k then (k, (1 : Int)) else (k, -1)).2 = 1 ∨ (if q < pos plus k then colAt plus k q else if q = pos plus k then (k, (1 : Int)) else (k, -1)).2 = -1)
      rw [if_neg c]
      split <;> simp
/-- the ratios of a task's columns from those of its spread columns -/
def gath (plus : Nat → Bool) (x : Nat → Rat) (j : Nat) : Rat := if plus j = true then x (pos plus j) else x (pos plus j) - x (pos plus j + 1)
theorem gath_sum {plus : Nat → Bool} (x : Nat → Rat) (g : Nat → Rat) : ∀ k K, k ≤ K → sR (pos plus k) (fun q => x q * (((colAt plus K q).2 : Rat) * g (colAt plus K q).1)) = sR k (fun j => g j * gath plus x j)
  | 0, K, _ => rfl
  | k + 1, K, h => by
    have ih := gath_sum (plus := plus) x g k K (by omega)
    show sR (pos plus k + (if plus k = true then 1 else 2)) _ = sR k _ + g k * gath plus x k
    rw [← ih]
    unfold gath
    have e1 := colAt_pos (plus := plus) (j := k) (k := K) (by omega)
    cases hp : plus k with
    | true =>
      rw [if_pos rfl, if_pos rfl]
      show sR (pos plus k) _ + x (pos plus k) * (((colAt plus K (pos plus k)).2 : Rat) * g (colAt plus K (pos plus k)).1) = _
      rw [e1]
      show _ + x (pos plus k) * (((1 : Int) : Rat) * g k) = _
      have : ((1 : Int) : Rat) = 1 := rfl
      grind
    | false =>
      have e2 := colAt_pos1 (plus := plus) (j := k) (k := K) (by omega) hp
      rw [if_neg Bool.false_ne_true, if_neg Bool.false_ne_true]
      show sR (pos plus k) _ + x (pos plus k) * (((colAt plus K (pos plus k)).2 : Rat) * g (colAt plus K (pos plus k)).1) + x (pos plus k + 1) * (((colAt plus K (pos plus k + 1)).2 : Rat) * g (colAt plus K (pos plus k + 1)).1) = _
      rw [e1, e2]
      show _ + x (pos plus k) * (((1 : Int) : Rat) * g k) + x (pos plus k + 1) * (((-1 : Int) : Rat) * g k) = _
      have : ((1 : Int) : Rat) = 1 := rfl
      have : ((-1 : Int) : Rat) = -1 := rfl
      grind
theorem slk_sum {ge : Nat → Bool} (x : Nat → Rat) (g : Nat → Rat) : ∀ k K, k ≤ K → sR (spos ge k) (fun q => x q * g (slkAt ge K q)) = sR k (fun i => if ge i = true then x (spos ge i) * g i else 0)
  | 0, K, _ => rfl
  | k + 1, K, h => by
    have ih := slk_sum (ge := ge) x g k K (by omega)
    show sR (spos ge k + (if ge k = true then 1 else 0)) _ = sR k _ + (if ge k = true then x (spos ge k) * g k else 0)
    rw [← ih]
    cases hp : ge k with
    | true =>
      rw [if_pos rfl, if_pos rfl]
      show sR (spos ge k) _ + x (spos ge k) * g (slkAt ge K (spos ge k)) = _
      rw [slkAt_pos (by omega) hp]
    | false =>
      rw [if_neg Bool.false_ne_true, if_neg Bool.false_ne_true, Rat.add_zero]; rfl
theorem sR_split (f : Nat → Rat) (a : Nat) : ∀ b, sR (a + b) f = sR a f + sR b (fun q => f (a + q))
  | 0 => (Rat.add_zero _).symm
  | b + 1 => by
    show sR (a + b) f + f (a + b) = sR a f + (sR b (fun q => f (a + q)) + f (a + b))
    rw [sR_split f a b, Rat.add_assoc]
theorem sr_cases (t : Task) (i : Nat) : sr t i = 1 ∨ sr t i = -1 := by unfold sr; split <;> simp
theorem std_unit (t : Task) : ∀ i, i < t.m → stdA t (nn t + i) = unitV i := fun i hi => by
  funext r
  unfold stdA
  rw [if_neg (by omega), if_pos (by omega), Nat.add_sub_cancel_left]
theorem std_right (t : Task) (r : Nat) : stdA t (nn t + t.m) r = sr t r * t.b r := by
  unfold stdA
  rw [if_neg (by omega), if_neg (by omega)]
theorem std_right_nn (t : Task) (r : Nat) : 0 ≤ stdA t (nn t + t.m) r := by
  rw [std_right]; unfold sr; split <;> omega
/-- a row's sum over the spread columns -/
theorem line_sum (t : Task) (x : Nat → Rat) (i : Nat) (hi : i < t.m) : sR (nn t) (fun q => x q * (lineT t i q : Rat)) = rowS t (gath t.plus x) i - (if t.sg i = .ge then x (nL t + spos (geAt t) i) else 0) := by
  show sR (nL t + nS t) _ = _
  rw [sR_split]
  have e1 : sR (nL t) (fun q => x q * (lineT t i q : Rat)) = rowS t (gath t.plus x) i := by
    have h := gath_sum (plus := t.plus) x (fun j => (t.A i j : Rat)) t.k t.k (Nat.le_refl _)
    rw [show rowS t (gath t.plus x) i = sR t.k (fun j => (t.A i j : Rat) * gath t.plus x j) from rfl, ← h]
    refine sR_congr fun q hq => ?_
    unfold lineT
    rw [if_pos hq, Rat.intCast_mul]
  have e2 : sR (nS t) (fun q => x (nL t + q) * (lineT t i (nL t + q) : Rat)) = - (if t.sg i = .ge then x (nL t + spos (geAt t) i) else 0) := by
    have h := slk_sum (ge := geAt t) (fun q => x (nL t + q)) (fun r => if r = i then (-1 : Rat) else 0) t.m t.m (Nat.le_refl _)
    have e : sR (nS t) (fun q => x (nL t + q) * (lineT t i (nL t + q) : Rat)) = sR (spos (geAt t) t.m) (fun q => x (nL t + q) * (if slkAt (geAt t) t.m q = i then (-1 : Rat) else 0)) := sR_congr fun q hq => by
      unfold lineT
      rw [if_neg (by omega), Nat.add_sub_cancel_left]
      split <;> rfl
    rw [e, h, sR_one hi]
    · show (if decide (t.sg i = .ge) = true then x (nL t + spos (geAt t) i) * (if i = i then (-1 : Rat) else 0) else 0) = _
      rw [if_pos rfl]
      by_cases g : t.sg i = .ge
      · rw [if_pos (decide_eq_true g), if_pos g]; grind
      · rw [if_neg (by simpa using g), if_neg g]; grind
    · intro r _ hr
      show (if geAt t r = true then x (nL t + spos (geAt t) r) * (if r = i then (-1 : Rat) else 0) else 0) = 0
      rw [if_neg hr]; split <;> grind
  rw [e1, e2]; grind
theorem price_sum (t : Task) (x : Nat → Rat) : sR (nn t) (fun q => x q * (priceT t q : Rat)) = costT t (gath t.plus x) := by
  show sR (nL t + nS t) _ = _
  rw [sR_split]
  have e1 : sR (nL t) (fun q => x q * (priceT t q : Rat)) = costT t (gath t.plus x) := by
    have h := gath_sum (plus := t.plus) x (fun j => (t.c j : Rat)) t.k t.k (Nat.le_refl _)
    rw [show costT t (gath t.plus x) = sR t.k (fun j => (t.c j : Rat) * gath t.plus x j) from rfl, ← h]
    refine sR_congr fun q hq => ?_
    unfold priceT
    rw [if_pos hq, Rat.intCast_mul]
  rw [e1, sR_zero (f := fun q => x (nL t + q) * (priceT t (nL t + q) : Rat)), Rat.add_zero]
  intro q hq
  unfold priceT
  rw [if_neg (by omega)]; exact Rat.mul_zero _
theorem std_sum (t : Task) (x : Nat → Rat) (i : Nat) (hi : i < t.m) : sR (nn t) (fun q => x q * (stdA t q i : Rat)) = (sr t i : Rat) * (rowS t (gath t.plus x) i - (if t.sg i = .ge then x (nL t + spos (geAt t) i) else 0)) := by
  rw [← line_sum t x i hi, ← sR_mul]
  refine sR_congr fun q hq => ?_
  unfold stdA
  rw [if_pos hq, Rat.intCast_mul]; grind
theorem sr_ne (t : Task) (i : Nat) : (sr t i : Rat) ≠ 0 := fun h => by
  have := Rat.intCast_eq_zero_iff.mp h
  rcases sr_cases t i with q | q <;> omega
/-- a plan from amounts -/
theorem plan_of {t : Task} (ht : IsPlain t) {x : Nat → Rat} (h : SPlan t.m (nn t) (stdA t) (nn t + t.m) x) : Plan t (gath t.plus x) := by
  have row : ∀ i, i < t.m → rowS t (gath t.plus x) i - (if t.sg i = .ge then x (nL t + spos (geAt t) i) else 0) = (t.b i : Rat) := by
    intro i hi
    have q := h.eq i hi
    rw [std_sum t x i hi, std_right, Rat.intCast_mul] at q
    have := sr_ne t i
    grind
  have slot : ∀ i, i < t.m → t.sg i = .ge → nL t + spos (geAt t) i < nn t := fun i hi g => by
    have h1 : spos (geAt t) (i + 1) ≤ spos (geAt t) t.m := spos_mono hi
    have h2 : spos (geAt t) (i + 1) = spos (geAt t) i + 1 := by
      show spos (geAt t) i + (if decide (t.sg i = .ge) = true then 1 else 0) = _
      rw [if_pos (decide_eq_true g)]
    show nL t + spos (geAt t) i < nL t + spos (geAt t) t.m
    omega
  refine ⟨fun j hj hp => ?_, fun i hi g => ?_, fun i hi g => absurd g (ht i hi), fun i hi g => ?_⟩
  · unfold gath; rw [if_pos hp]
    have h1 : pos t.plus (j + 1) ≤ pos t.plus t.k := pos_mono hj
    have h2 : pos t.plus j < pos t.plus (j + 1) := by show pos t.plus j < pos t.plus j + (if t.plus j = true then 1 else 2); split <;> omega
    exact h.nn _ (by show pos t.plus j < pos t.plus t.k + nS t; omega)
  · have q := row i hi
    rw [if_pos g] at q
    have := h.nn _ (slot i hi g)
    grind
  · have q := row i hi
    rw [if_neg (by rw [g]; exact fun h => by cases h)] at q
    grind
/-- amounts from a plan -/
def spreadX (t : Task) (X : Nat → Rat) (q : Nat) : Rat :=
  if q < nL t then
    if t.plus (colAt t.plus t.k q).1 = true then X (colAt t.plus t.k q).1
    else if (colAt t.plus t.k q).2 = 1 then (if X (colAt t.plus t.k q).1 < 0 then 0 else X (colAt t.plus t.k q).1) else (if X (colAt t.plus t.k q).1 < 0 then - X (colAt t.plus t.k q).1 else 0)
  else rowS t X (slkAt (geAt t) t.m (q - nL t)) - (t.b (slkAt (geAt t) t.m (q - nL t)) : Rat)
theorem gath_spread (t : Task) (X : Nat → Rat) {j : Nat} (hj : j < t.k) : gath t.plus (spreadX t X) j = X j := by
  have h1 : pos t.plus (j + 1) ≤ pos t.plus t.k := pos_mono hj
  have h2 : pos t.plus (j + 1) = pos t.plus j + (if t.plus j = true then 1 else 2) := rfl
  have e1 := colAt_pos (plus := t.plus) hj
  unfold gath
  cases hp : t.plus j with
  | true =>
    rw [hp, if_pos rfl] at h2
    rw [if_pos rfl]
    unfold spreadX nL
    rw [if_pos (by omega), e1, if_pos hp]
  | false =>
    rw [hp, if_neg Bool.false_ne_true] at h2
    have e2 := colAt_pos1 (plus := t.plus) hj hp
    rw [if_neg Bool.false_ne_true]
    have s1 : spreadX t X (pos t.plus j) = if X j < 0 then 0 else X j := by
      unfold spreadX nL
      rw [if_pos (show pos t.plus j < pos t.plus t.k by omega), e1]
      show (if t.plus j = true then X j else if (1 : Int) = 1 then (if X j < 0 then 0 else X j) else _) = _
      rw [hp, if_neg Bool.false_ne_true, if_pos rfl]
    have s2 : spreadX t X (pos t.plus j + 1) = if X j < 0 then - X j else 0 := by
      unfold spreadX nL
      rw [if_pos (show pos t.plus j + 1 < pos t.plus t.k by omega), e2]
      show (if t.plus j = true then X j else if (-1 : Int) = 1 then _ else (if X j < 0 then - X j else 0)) = _
      rw [hp, if_neg Bool.false_ne_true, if_neg (by decide)]
    rw [s1, s2]
    split <;> grind
theorem rowS_congr {t : Task} {x x' : Nat → Rat} (h : ∀ j, j < t.k → x j = x' j) (i : Nat) : rowS t x i = rowS t x' i := sR_congr fun j hj => by rw [h j hj]
theorem costT_congr {t : Task} {x x' : Nat → Rat} (h : ∀ j, j < t.k → x j = x' j) : costT t x = costT t x' := sR_congr fun j hj => by rw [h j hj]
theorem slk_in {ge : Nat → Bool} : ∀ {m q : Nat}, q < spos ge m → slkAt ge m q < m ∧ ge (slkAt ge m q) = true ∧ spos ge (slkAt ge m q) = q
  | 0, q, h => absurd h (Nat.not_lt_zero q)
  | m + 1, q, h => by
    have e : slkAt ge (m + 1) q = if q < spos ge m then slkAt ge m q else m := rfl
    rw [e]
    by_cases c : q < spos ge m
    · rw [if_pos c]
      have := slk_in c
      exact ⟨by omega, this.2⟩
    · rw [if_neg c]
      have h' : q < spos ge m + (if ge m = true then 1 else 0) := h
      by_cases g : ge m = true
      · rw [if_pos g] at h'
        exact ⟨Nat.lt_succ_self m, g, by omega⟩
      · rw [if_neg g] at h'; omega
theorem splan_of {t : Task} (ht : IsPlain t) {X : Nat → Rat} (h : Plan t X) : SPlan t.m (nn t) (stdA t) (nn t + t.m) (spreadX t X) where
  nn q hq := by
    by_cases c : q < nL t
    · unfold spreadX
      rw [if_pos c]
      have hc := colAt_in (plus := t.plus) (k := t.k) (q := q) c
      split
      · next hp => exact h.nn _ hc.1 hp
      · split
        · split
          · exact Rat.le_refl
          · grind
        · split
          · grind
          · exact Rat.le_refl
    · have hq' : q < nL t + nS t := hq
      have hs := slk_in (ge := geAt t) (m := t.m) (q := q - nL t) (by show _ < nS t; omega)
      unfold spreadX
      rw [if_neg c]
      have := h.ge _ hs.1 (of_decide_eq_true hs.2.1)
      grind
  eq i hi := by
    rw [std_sum t _ i hi, std_right, Rat.intCast_mul, rowS_congr (fun j hj => gath_spread t X hj) i]
    congr 1
    split
    · next g =>
      have g' : geAt t i = true := decide_eq_true g
      unfold spreadX
      rw [if_neg (by omega), Nat.add_sub_cancel_left, slkAt_pos hi g']
      grind
    · next g =>
      cases g' : t.sg i with
      | ge => exact absurd g' g
      | le => exact absurd g' (ht i hi)
      | eq => rw [h.eq i hi g']; grind
/-- a paper from the weights -/
theorem paper_of {t : Task} (ht : IsPlain t) {y : Nat → Rat} (h : ∀ q, q < nn t → sR t.m (fun i => y i * (stdA t q i : Rat)) ≤ (priceT t q : Rat)) : Paper t (fun i => (sr t i : Rat) * y i) := by
  have hc : ∀ q, q < nL t → ((colAt t.plus t.k q).2 : Rat) * colS t (fun i => (sr t i : Rat) * y i) (colAt t.plus t.k q).1 ≤ ((colAt t.plus t.k q).2 : Rat) * (t.c (colAt t.plus t.k q).1 : Rat) := by
    intro q hq
    have hq' : q < nn t := by show q < nL t + nS t; omega
    have h1 := h q hq'
    unfold priceT at h1
    rw [if_pos hq, Rat.intCast_mul] at h1
    have e : sR t.m (fun i => y i * (stdA t q i : Rat)) = ((colAt t.plus t.k q).2 : Rat) * colS t (fun i => (sr t i : Rat) * y i) (colAt t.plus t.k q).1 := by
      unfold colS
      rw [← sR_mul]
      refine sR_congr fun i _ => ?_
      unfold stdA lineT
      rw [if_pos hq', if_pos hq, Rat.intCast_mul, Rat.intCast_mul]
      grind
    rw [e] at h1; exact h1
  have one : ((1 : Int) : Rat) = 1 := rfl
  have mone : ((-1 : Int) : Rat) = -1 := rfl
  have up : ∀ j, j < t.k → colS t (fun i => (sr t i : Rat) * y i) j ≤ (t.c j : Rat) := by
    intro j hj
    have h1 : pos t.plus (j + 1) ≤ pos t.plus t.k := pos_mono hj
    have h2 : pos t.plus j < pos t.plus (j + 1) := by show pos t.plus j < pos t.plus j + (if t.plus j = true then 1 else 2); split <;> omega
    have q := hc (pos t.plus j) (by show pos t.plus j < pos t.plus t.k; omega)
    rw [colAt_pos hj] at q
    have q' : ((1 : Int) : Rat) * colS t (fun i => (sr t i : Rat) * y i) j ≤ ((1 : Int) : Rat) * (t.c j : Rat) := q
    grind
  refine ⟨fun i hi g => ?_, fun i hi g => absurd g (ht i hi), up, fun j hj hp => ?_⟩
  · have g' : geAt t i = true := decide_eq_true g
    have h1 : spos (geAt t) (i + 1) ≤ spos (geAt t) t.m := spos_mono hi
    have h2 : spos (geAt t) (i + 1) = spos (geAt t) i + 1 := by
      show spos (geAt t) i + (if geAt t i = true then 1 else 0) = _
      rw [if_pos g']
    have hq : nL t + spos (geAt t) i < nn t := by show nL t + spos (geAt t) i < nL t + spos (geAt t) t.m; omega
    have q := h _ hq
    unfold priceT at q
    rw [if_neg (by omega)] at q
    have e : sR t.m (fun r => y r * (stdA t (nL t + spos (geAt t) i) r : Rat)) = - ((sr t i : Rat) * y i) := by
      rw [sR_one hi]
      · unfold stdA lineT
        rw [if_pos hq, if_neg (by omega), Nat.add_sub_cancel_left, slkAt_pos hi g', if_pos rfl, Rat.intCast_mul]
        grind
      · intro r _ hr
        unfold stdA lineT
        rw [if_pos hq, if_neg (by omega), Nat.add_sub_cancel_left, slkAt_pos hi g', if_neg (fun w => hr w.symm), Int.mul_zero]
        exact Rat.mul_zero _
    rw [e] at q
    have : ((0 : Int) : Rat) = 0 := rfl
    show 0 ≤ (sr t i : Rat) * y i
    grind
  · have h1 : pos t.plus (j + 1) ≤ pos t.plus t.k := pos_mono hj
    have h2 : pos t.plus (j + 1) = pos t.plus j + 2 := by
      show pos t.plus j + (if t.plus j = true then 1 else 2) = _
      rw [hp, if_neg Bool.false_ne_true]
    have q := hc (pos t.plus j + 1) (by show _ < pos t.plus t.k; omega)
    rw [colAt_pos1 hj hp] at q
    have q' : ((-1 : Int) : Rat) * colS t (fun i => (sr t i : Rat) * y i) j ≤ ((-1 : Int) : Rat) * (t.c j : Rat) := q
    have := up j hj
    grind
theorem prom_of (t : Task) (y : Nat → Rat) : sR t.m (fun i => y i * (stdA t (nn t + t.m) i : Rat)) = prom t (fun i => (sr t i : Rat) * y i) := by
  unfold prom
  refine sR_congr fun i _ => ?_
  rw [std_right, Rat.intCast_mul]; grind
end K6
-- KSolve
set_option maxHeartbeats 1000000
/-! The row that goes out; the endings of a task; duality. -/
namespace K6
def lessRow (m : Nat) (a : Nat → Nat → Int) (R : Nat) (B : Nat → Nat) (s i b : Nat) : Prop :=
  T m a B i R * T m a B b s - T m a B b R * T m a B i s < 0 ∨ (T m a B i R * T m a B b s - T m a B b R * T m a B i s = 0 ∧ B i < B b)
instance (m : Nat) (a : Nat → Nat → Int) (R : Nat) (B : Nat → Nat) (s i b : Nat) : Decidable (lessRow m a R B s i b) := by unfold lessRow; infer_instance
def outF (m : Nat) (a : Nat → Nat → Int) (R : Nat) (B : Nat → Nat) (s : Nat) : Nat → Option Nat
  | 0 => none
  | i + 1 => if 0 < T m a B i s then (match outF m a R B s i with
      | none => some i
      | some b => if lessRow m a R B s i b then some i else some b) else outF m a R B s i
section
variable {m n N R : Nat} {a : Nat → Nat → Int} {B : Nat → Nat} {c : Nat → Int} {s : Nat}
/-- quotients by order -/
theorem quo_trans {p q r x y z : Int} (hy : 0 < y) (hx : 0 < x) (hz : 0 < z) (h1 : p * y ≤ q * x) (h2 : q * z ≤ r * y) : p * z ≤ r * x := by
  have a1 := Int.mul_le_mul_of_nonneg_right h1 (Int.le_of_lt hz)
  have a2 := Int.mul_le_mul_of_nonneg_right h2 (Int.le_of_lt hx)
  have e1 : p * y * z = y * (p * z) := by grind
  have e2 : q * x * z = q * z * x := by grind
  have e3 : r * y * x = y * (r * x) := by grind
  rw [e1, e2] at a1
  rw [e3] at a2
  exact Int.le_of_mul_le_mul_left (Int.le_trans a1 a2) hy
structure OutOk (m : Nat) (a : Nat → Nat → Int) (R : Nat) (B : Nat → Nat) (s i b : Nat) : Prop where
  lt : b < i
  pos : 0 < T m a B b s
  least : ∀ i', i' < i → 0 < T m a B i' s → T m a B b R * T m a B i' s ≤ T m a B i' R * T m a B b s
  tie : ∀ i', i' < i → 0 < T m a B i' s → T m a B b R * T m a B i' s = T m a B i' R * T m a B b s → B b ≤ B i'
theorem outF_ok : ∀ i, (outF m a R B s i = none → ∀ i', i' < i → T m a B i' s ≤ 0) ∧ (∀ b, outF m a R B s i = some b → OutOk m a R B s i b)
  | 0 => ⟨fun _ i' h => absurd h (Nat.not_lt_zero i'), fun b h => by cases h⟩
  | i + 1 => by
    obtain ⟨h1, h2⟩ := outF_ok i
    have e : outF m a R B s (i + 1) = if 0 < T m a B i s then (match outF m a R B s i with
      | none => some i
      | some b => if lessRow m a R B s i b then some i else some b) else outF m a R B s i := rfl
    by_cases c : 0 < T m a B i s
    · rw [if_pos c] at e
      cases q : outF m a R B s i with
      | none =>
        rw [q] at e
        have e' : outF m a R B s (i + 1) = some i := e
        refine ⟨fun w => (by rw [e'] at w; cases w), fun b w => ?_⟩
        rw [e'] at w
        cases w
        refine ⟨Nat.lt_succ_self i, c, fun i' hi' hp => ?_, fun i' hi' hp _ => ?_⟩
        · by_cases z : i' = i
          · subst z; exact Int.le_refl _
          · have := h1 q i' (by omega); omega
        · by_cases z : i' = i
          · subst z; exact Nat.le_refl _
          · have := h1 q i' (by omega); omega
      | some b =>
        rw [q] at e
        have O := h2 b q
        have e' : outF m a R B s (i + 1) = if lessRow m a R B s i b then some i else some b := e
        by_cases l : lessRow m a R B s i b
        · rw [if_pos l] at e'
          refine ⟨fun w => (by rw [e'] at w; cases w), fun b' w => ?_⟩
          rw [e'] at w
          cases w
          have le : T m a B i R * T m a B b s ≤ T m a B b R * T m a B i s := by rcases l with l | l <;> omega
          refine ⟨Nat.lt_succ_self i, c, fun i' hi' hp => ?_, fun i' hi' hp he => ?_⟩
          · by_cases z : i' = i
            · subst z; exact Int.le_refl _
            · exact quo_trans O.pos c hp le (O.least i' (by omega) hp)
          · by_cases z : i' = i
            · subst z; exact Nat.le_refl _
            · have l2 := O.least i' (by omega) hp
              -- both are equalities
              have k1 : T m a B b R * T m a B i s ≤ T m a B i R * T m a B b s := quo_trans hp O.pos c l2 (Int.le_of_eq he.symm)
              have k2 : T m a B i' R * T m a B b s ≤ T m a B b R * T m a B i' s := quo_trans c hp O.pos (Int.le_of_eq he.symm) le
              rcases l with l | l
              · omega
              · have := O.tie i' (by omega) hp (by omega)
                omega
        · rw [if_neg l] at e'
          refine ⟨fun w => (by rw [e'] at w; cases w), fun b' w => ?_⟩
          rw [e'] at w
          cases w
          refine ⟨Nat.lt_succ_of_lt O.lt, O.pos, fun i' hi' hp => ?_, fun i' hi' hp he => ?_⟩
          · by_cases z : i' = i
            · subst z
              have : ¬ (T m a B i' R * T m a B b s - T m a B b R * T m a B i' s < 0) := fun w => l (.inl w)
              omega
            · exact O.least i' (by omega) hp
          · by_cases z : i' = i
            · subst z
              have : ¬ (B i' < B b) := fun w => l (.inr ⟨by omega, w⟩)
              omega
            · exact O.tie i' (by omega) hp he
    · rw [if_neg c] at e
      rw [e]
      refine ⟨fun w i' hi' => ?_, fun b w => ?_⟩
      · by_cases z : i' = i
        · subst z; omega
        · exact h1 w i' (by omega)
      · have O := h2 b w
        refine ⟨Nat.lt_succ_of_lt O.lt, O.pos, fun i' hi' hp => ?_, fun i' hi' hp he => ?_⟩
        · by_cases z : i' = i
          · subst z; omega
          · exact O.least i' (by omega) hp
        · by_cases z : i' = i
          · subst z; omega
          · exact O.tie i' (by omega) hp he
theorem step_of {r : Nat} (sn : s < n) (nN : n ≤ N) (neg : zz m a c B s < 0) (fst : ∀ j, j < s → 0 ≤ zz m a c B j) (h : outF m a R B s m = some r) : Step m n N a c R B s r :=
  let O := (outF_ok m).2 r h
  ⟨sn, nN, neg, fst, O.lt, O.pos, O.least, O.tie⟩
theorem unb_of (sn : s < n) (neg : zz m a c B s < 0) (h : outF m a R B s m = none) : Unb m n a c B s := ⟨sn, neg, (outF_ok m).1 h⟩
theorem exists_min {P : Nat → Prop} (h : ∃ u, P u) : ∃ t, P t ∧ ∀ u, u < t → ¬ P u := by
  obtain ⟨u, hu⟩ := h
  induction u using Nat.strongRecOn with
  | _ u ih =>
    by_cases c : ∃ v, v < u ∧ P v
    · obtain ⟨v, hv, hp⟩ := c
      exact ih v hv hp
    · exact ⟨u, hu, fun v hv hp => c ⟨v, hv, hp⟩⟩
/-- a phase comes to an end -/
theorem phase_ends {B0 : Nat → Nat} (hG : Good m N a B0) (hF : Feas m a R B0) (nN : n ≤ N) : ∃ k B, Chain m n N a c R B0 k B ∧ (Fin m n a c B ∨ ∃ s, Unb m n a c B s) := by
  refine Classical.byContradiction fun hno => ?_
  have all : ∀ k, ∃ B, Chain m n N a c R B0 k B := by
    intro k
    induction k with
    | zero => exact ⟨B0, .nil⟩
    | succ k ih =>
      obtain ⟨B, C⟩ := ih
      by_cases hf : Fin m n a c B
      · exact absurd ⟨k, B, C, .inl hf⟩ hno
      · have : ∃ j, j < n ∧ zz m a c B j < 0 := Classical.byContradiction fun q => hf fun j hj => Int.not_lt.mp fun w => q ⟨j, hj, w⟩
        obtain ⟨s, ⟨hs, hz⟩, hmin⟩ := exists_min this
        have fst : ∀ j, j < s → 0 ≤ zz m a c B j := fun j hj => Int.not_lt.mp fun w => hmin j hj ⟨by omega, w⟩
        cases q : outF m a R B s m with
        | none => exact absurd ⟨k, B, C, .inr ⟨s, unb_of hs hz q⟩⟩ hno
        | some r => exact ⟨_, C.snoc (step_of hs nN hz fst q)⟩
  obtain ⟨B, C⟩ := all (N ^ m)
  exact absurd (C.short hG hF) (Nat.lt_irrefl _)
end
/-! ### the endings -/
def NoPl (t : Task) : Prop := ∀ x, ¬ Plan t x
def Endless (t : Task) : Prop := (∃ x, Plan t x) ∧ ∀ M : Rat, ∃ x, Plan t x ∧ costT t x < M
def Best (t : Task) (v : Rat) : Prop := ∃ x, Plan t x ∧ costT t x = v ∧ ∀ x', Plan t x' → v ≤ costT t x'
theorem best_of {t : Task} {x y : Nat → Rat} (hx : Plan t x) (hy : Paper t y) (e : costT t x = prom t y) : Best t (costT t x) := ⟨x, hx, rfl, fun _ hx' => by rw [e]; exact weak hx' hy⟩
theorem Best.uniq {t : Task} {v w : Rat} (h : Best t v) (h' : Best t w) : v = w := by
  obtain ⟨x, hx, e, l⟩ := h
  obtain ⟨x', hx', e', l'⟩ := h'
  have h1 := l x' hx'
  have h2 := l' x hx
  rw [e'] at h1; rw [e] at h2
  exact Rat.le_antisymm h1 h2
theorem Best.notNo {t : Task} {v : Rat} (h : Best t v) : ¬ NoPl t := fun q => let ⟨x, hx, _⟩ := h; q x hx
theorem Best.notEndless {t : Task} {v : Rat} (h : Best t v) : ¬ Endless t := fun q => by
  obtain ⟨x, hx, e, l⟩ := h
  obtain ⟨x', hx', w⟩ := q.2 v
  have := l x' hx'
  grind
section
variable {t : Task}
/-- where the run begins -/
theorem std_good (t : Task) : Good t.m (nn t + t.m) (stdA t) (fun i => nn t + i) := start_good (std_unit t)
theorem std_feas (t : Task) : Feas t.m (stdA t) (nn t + t.m) (fun i => nn t + i) := fun i hi => by
  rw [start_T (std_unit t) hi]; exact std_right_nn t i
theorem priceT_R (t : Task) : priceT t (nn t + t.m) = 0 := by unfold priceT; rw [if_neg (by unfold nn; omega)]
theorem none_of {B : Nat → Nat} (ht : IsPlain t) (G : Good t.m (nn t + t.m) (stdA t) B) (F : Feas t.m (stdA t) (nn t + t.m) B) (E : Fin t.m (nn t) (stdA t) (cost1 (nn t) t.m) B) (hz : zz t.m (stdA t) (cost1 (nn t) t.m) B (nn t + t.m) ≠ 0) : NoPl t :=
  fun _ hx => phase1_none G F (std_unit t) E hz (splan_of ht hx)
def planB (t : Task) (B : Nat → Nat) : Nat → Rat := gath t.plus (xB t.m (stdA t) (nn t + t.m) B)
def paperB (t : Task) (B : Nat → Nat) (i : Nat) : Rat := (sr t i : Rat) * yB t.m (nn t) (stdA t) (priceT t) B i
theorem best_end {B : Nat → Nat} (ht : IsPlain t) (h : Driven t.m (nn t) (stdA t) t.m B) (E : Fin t.m (nn t) (stdA t) (priceT t) B) : Plan t (planB t B) ∧ Paper t (paperB t B) ∧ costT t (planB t B) = prom t (paperB t B) := by
  obtain ⟨h1, h2, h3⟩ := phase2_best h (std_unit t) E (priceT_R t)
  refine ⟨plan_of ht h1, paper_of ht h2, ?_⟩
  unfold planB
  rw [← price_sum, h3, prom_of]; rfl
theorem plan_end {B : Nat → Nat} (ht : IsPlain t) (h : Driven t.m (nn t) (stdA t) t.m B) : Plan t (planB t B) := plan_of ht (xB_plan h.G h.F h.zr)
theorem endless_end {B : Nat → Nat} {s : Nat} (ht : IsPlain t) (h : Driven t.m (nn t) (stdA t) t.m B) (U : Unb t.m (nn t) (stdA t) (priceT t) B s) : Endless t := by
  have hx := xB_plan h.G h.F h.zr
  obtain ⟨w1, w2, w3⟩ := phase2_way h U
  refine ⟨⟨_, plan_of ht hx⟩, fun M => ?_⟩
  have go : ∀ l : Rat, 0 ≤ l → SPlan t.m (nn t) (stdA t) (nn t + t.m) (fun j => xB t.m (stdA t) (nn t + t.m) B j + l * wB t.m (stdA t) B s j) := fun l hl =>
    ⟨fun j hj => Rat.add_nonneg (hx.nn j hj) (Rat.mul_nonneg hl (w1 j hj)), fun r hr => by
      have e : sR (nn t) (fun j => (xB t.m (stdA t) (nn t + t.m) B j + l * wB t.m (stdA t) B s j) * (stdA t j r : Rat)) =
          sR (nn t) (fun j => xB t.m (stdA t) (nn t + t.m) B j * (stdA t j r : Rat)) + l * sR (nn t) (fun j => wB t.m (stdA t) B s j * (stdA t j r : Rat)) := by
        rw [← sR_mul, ← sR_add]; exact sR_congr fun j _ => by grind
      rw [e, hx.eq r hr, w2 r hr]; grind⟩
  have co : ∀ l : Rat, costT t (gath t.plus (fun j => xB t.m (stdA t) (nn t + t.m) B j + l * wB t.m (stdA t) B s j)) =
      costT t (gath t.plus (xB t.m (stdA t) (nn t + t.m) B)) + l * sR (nn t) (fun j => wB t.m (stdA t) B s j * (priceT t j : Rat)) := fun l => by
    rw [← price_sum, ← price_sum, ← sR_mul, ← sR_add]; exact sR_congr fun j _ => by grind
  generalize sR (nn t) (fun j => wB t.m (stdA t) B s j * (priceT t j : Rat)) = e at *
  by_cases c : costT t (gath t.plus (xB t.m (stdA t) (nn t + t.m) B)) < M
  · exact ⟨_, plan_of ht hx, c⟩
  · have he : (0 : Rat) < -e := by grind
    have h0 : (0 : Rat) ≤ (costT t (gath t.plus (xB t.m (stdA t) (nn t + t.m) B)) - M) * (-e)⁻¹ + 1 := by
      have := Rat.mul_nonneg (show (0 : Rat) ≤ costT t (gath t.plus (xB t.m (stdA t) (nn t + t.m) B)) - M by grind) (Rat.le_of_lt (Rat.inv_pos.mpr he))
      grind
    refine ⟨_, plan_of ht (go _ h0), ?_⟩
    rw [co]
    have ne : -e ≠ 0 := Rat.ne_of_gt he
    have : ((costT t (gath t.plus (xB t.m (stdA t) (nn t + t.m) B)) - M) * (-e)⁻¹ + 1) * e = - (costT t (gath t.plus (xB t.m (stdA t) (nn t + t.m) B)) - M) + e := by grind
    rw [this]; grind
/-- rows from k on, helping columns brought out -/
theorem drive_ends {B : Nat → Nat} (h : Driven t.m (nn t) (stdA t) 0 B) : ∀ k, k ≤ t.m → ∃ B', Driven t.m (nn t) (stdA t) k B'
  | 0, _ => ⟨B, h⟩
  | k + 1, hk => by
    obtain ⟨B', D⟩ := drive_ends h k (by omega)
    by_cases c : B' k < nn t
    · exact ⟨B', D.more (.inl c)⟩
    · by_cases z : ∀ j, j < nn t → T t.m (stdA t) B' k j = 0
      · exact ⟨B', D.more (.inr z)⟩
      · have : ∃ j, j < nn t ∧ T t.m (stdA t) B' k j ≠ 0 := Classical.byContradiction fun q => z fun j hj => Classical.byContradiction fun w => q ⟨j, hj, w⟩
        obtain ⟨j, hj, hz⟩ := this
        exact ⟨_, D.turn (by omega) (by omega) hj hz⟩
/-- how a plain task ends -/
theorem plain_ends (ht : IsPlain t) : NoPl t ∨ Endless t ∨ ∃ x y, Plan t x ∧ Paper t y ∧ costT t x = prom t y := by
  obtain ⟨k, B, C, h⟩ := phase_ends (n := nn t) (c := cost1 (nn t) t.m) (std_good t) (std_feas t) (by omega)
  obtain ⟨G, F⟩ := C.both (std_good t) (std_feas t)
  rcases h with E | ⟨s, U⟩
  · by_cases hz : zz t.m (stdA t) (cost1 (nn t) t.m) B (nn t + t.m) = 0
    · have D0 : Driven t.m (nn t) (stdA t) 0 B := ⟨G, F, phase1_zero F G.inN hz, fun i _ h => absurd h (Nat.not_lt_zero i)⟩
      obtain ⟨B1, D1⟩ := drive_ends D0 t.m (Nat.le_refl _)
      obtain ⟨k2, B2, C2, h2⟩ := phase_ends (n := nn t) (c := priceT t) D1.G D1.F (by omega)
      have D2 := D1.chain C2
      rcases h2 with E2 | ⟨s, U⟩
      · exact .inr (.inr ⟨_, _, best_end ht D2 E2⟩)
      · exact .inr (.inl (endless_end ht D2 U))
    · exact .inl (none_of ht G F E hz)
  · exact (no_unb1 U).elim
theorem costT_plain (x : Nat → Rat) : costT (plain t) x = costT t x := rfl
theorem noPl_plain : NoPl (plain t) ↔ NoPl t := ⟨fun h x hx => h x (plan_plain.mpr hx), fun h x hx => h x (plan_plain.mp hx)⟩
theorem endless_plain : Endless (plain t) ↔ Endless t := by
  constructor
  · rintro ⟨⟨x, hx⟩, h⟩
    exact ⟨⟨x, plan_plain.mp hx⟩, fun M => let ⟨x, hx, w⟩ := h M; ⟨x, plan_plain.mp hx, w⟩⟩
  · rintro ⟨⟨x, hx⟩, h⟩
    exact ⟨⟨x, plan_plain.mpr hx⟩, fun M => let ⟨x, hx, w⟩ := h M; ⟨x, plan_plain.mpr hx, w⟩⟩
theorem best_plain {v : Rat} : Best (plain t) v ↔ Best t v := by
  constructor
  · rintro ⟨x, hx, e, l⟩
    exact ⟨x, plan_plain.mp hx, e, fun x' hx' => l x' (plan_plain.mpr hx')⟩
  · rintro ⟨x, hx, e, l⟩
    exact ⟨x, plan_plain.mpr hx, e, fun x' hx' => l x' (plan_plain.mp hx')⟩
/-- how a task ends -/
theorem ends (t : Task) : NoPl t ∨ Endless t ∨ ∃ x y, Plan t x ∧ Paper t y ∧ costT t x = prom t y := by
  rcases plain_ends (plain_plain t) with h | h | ⟨x, y, hx, hy, e⟩
  · exact .inl (noPl_plain.mp h)
  · exact .inr (.inl (endless_plain.mp h))
  · exact .inr (.inr ⟨x, signedY t y, plan_plain.mp hx, paper_plain.mp hy, by rw [prom_signed, ← e]; rfl⟩)
theorem three (t : Task) : NoPl t ∨ Endless t ∨ ∃ v, Best t v := by
  rcases ends t with h | h | ⟨x, y, hx, hy, e⟩
  · exact .inl h
  · exact .inr (.inl h)
  · exact .inr (.inr ⟨_, best_of hx hy e⟩)
/-- the least cost is promised by a paper -/
theorem strong {v : Rat} (h : Best t v) : ∃ y, Paper t y ∧ prom t y = v := by
  rcases ends t with q | q | ⟨x, y, hx, hy, e⟩
  · exact absurd q h.notNo
  · exact absurd q h.notEndless
  · have := h.uniq (best_of hx hy e)
    exact ⟨y, hy, by rw [this, e]⟩
end
end K6
-- KDual
set_option maxHeartbeats 1000000
/-! Best plans and best papers: live or dear, loose or paid. -/
namespace K6
def kept (t : Task) (v : Rat) : Task where
  k := t.k
  m := t.m + 1
  plus := t.plus
  c := t.c
  A i j := if i < t.m then t.A i j else t.c j * (v.den : Int)
  sg i := if i < t.m then t.sg i else .eq
  b i := if i < t.m then t.b i else v.num
def priced (t : Task) (d : Nat → Int) : Task := { t with c := d }
def other (t : Task) : Task where
  k := t.m
  m := t.k
  plus i := geAt (plain t) i
  c i := - (plain t).b i
  A j i := - (plain t).A i j
  sg j := if t.plus j = true then .ge else .eq
  b j := - t.c j
def unitC (i : Nat) (j : Nat) : Int := if j = i then 1 else 0
theorem rat_div (v : Rat) : (v.num : Rat) = v * ((v.den : Int) : Rat) := by
  have h := Rat.num_divInt_den v
  rw [Rat.divInt_eq_div] at h
  have hd : (((v.den : Int)) : Rat) ≠ 0 := fun q => by
    have := Rat.intCast_eq_zero_iff.mp q
    have := v.den_nz
    omega
  have e : (v.num : Rat) / (((v.den : Int)) : Rat) * (((v.den : Int)) : Rat) = (v.num : Rat) := Rat.div_mul_cancel hd
  rw [h] at e
  exact e.symm
theorem den_posR (v : Rat) : (0 : Rat) < (((v.den : Int)) : Rat) := Rat.intCast_pos.mpr (by have := v.den_nz; omega)
theorem rowS_kept {t : Task} {v : Rat} {x : Nat → Rat} {i : Nat} (hi : i < t.m) : rowS (kept t v) x i = rowS t x i := sR_congr fun j _ => by
  show (((if i < t.m then t.A i j else _ : Int)) : Rat) * x j = _
  rw [if_pos hi]
theorem rowS_kept_last {t : Task} {v : Rat} {x : Nat → Rat} : rowS (kept t v) x t.m = ((v.den : Int) : Rat) * costT t x := by
  unfold rowS costT
  rw [← sR_mul]
  refine sR_congr fun j _ => ?_
  show (((if t.m < t.m then t.A t.m j else t.c j * (v.den : Int) : Int)) : Rat) * x j = _
  rw [if_neg (Nat.lt_irrefl _), Rat.intCast_mul]; grind
theorem plan_kept {t : Task} {v : Rat} {x : Nat → Rat} : Plan (kept t v) x ↔ Plan t x ∧ costT t x = v := by
  have es : ∀ i, i < t.m → (kept t v).sg i = t.sg i := fun i hi => if_pos hi
  have eb : ∀ i, i < t.m → (kept t v).b i = t.b i := fun i hi => if_pos hi
  have ls : (kept t v).sg t.m = .eq := if_neg (Nat.lt_irrefl _)
  have lb : (kept t v).b t.m = v.num := if_neg (Nat.lt_irrefl _)
  have hd := den_posR v
  constructor
  · intro h
    refine ⟨⟨h.nn, fun i hi g => ?_, fun i hi g => ?_, fun i hi g => ?_⟩, ?_⟩
    · have q := h.ge i (Nat.lt_succ_of_lt hi) (by rw [es i hi]; exact g)
      rwa [rowS_kept hi, eb i hi] at q
    · have q := h.le i (Nat.lt_succ_of_lt hi) (by rw [es i hi]; exact g)
      rwa [rowS_kept hi, eb i hi] at q
    · have q := h.eq i (Nat.lt_succ_of_lt hi) (by rw [es i hi]; exact g)
      rwa [rowS_kept hi, eb i hi] at q
    · have q := h.eq t.m (Nat.lt_succ_self _) ls
      rw [rowS_kept_last, lb, rat_div v, Rat.mul_comm v] at q
      exact rat_cancel hd q
  · rintro ⟨h, hc⟩
    refine ⟨h.nn, fun i hi g => ?_, fun i hi g => ?_, fun i hi g => ?_⟩
    · by_cases e : i = t.m
      · subst e; rw [ls] at g; cases g
      · have hi' : i < t.m := by have : i < t.m + 1 := hi
                                 omega
        rw [es i hi'] at g; rw [rowS_kept hi', eb i hi']; exact h.ge i hi' g
    · by_cases e : i = t.m
      · subst e; rw [ls] at g; cases g
      · have hi' : i < t.m := by have : i < t.m + 1 := hi
                                 omega
        rw [es i hi'] at g; rw [rowS_kept hi', eb i hi']; exact h.le i hi' g
    · by_cases e : i = t.m
      · subst e; rw [rowS_kept_last, lb, hc, rat_div v, Rat.mul_comm v]
      · have hi' : i < t.m := by have : i < t.m + 1 := hi
                                 omega
        rw [es i hi'] at g; rw [rowS_kept hi', eb i hi']; exact h.eq i hi' g
theorem plan_priced {t : Task} {d : Nat → Int} {x : Nat → Rat} : Plan (priced t d) x ↔ Plan t x := ⟨fun h => ⟨h.nn, h.ge, h.le, h.eq⟩, fun h => ⟨h.nn, h.ge, h.le, h.eq⟩⟩
theorem plan_other {t : Task} {y : Nat → Rat} : Plan (other t) y ↔ Paper (plain t) y := by
  have er : ∀ j, rowS (other t) y j = - colS (plain t) y j := fun j => by
    unfold rowS colS
    rw [← sR_neg]
    exact sR_congr fun i _ => by
      show ((- (plain t).A i j : Int) : Rat) * y i = _
      rw [Rat.intCast_neg, Rat.neg_mul]
  constructor
  · intro h
    refine ⟨fun i hi g => h.nn i hi (decide_eq_true g), fun i hi g => absurd g (plain_plain t i hi), fun j hj => ?_, fun j hj g => ?_⟩
    · cases p : t.plus j with
      | true =>
        have q := h.ge j hj (by show (if t.plus j = true then Sg.ge else .eq) = .ge; rw [if_pos p])
        rw [er] at q
        have q' : ((- t.c j : Int) : Rat) ≤ - colS (plain t) y j := q
        rw [Rat.intCast_neg] at q'
        show colS (plain t) y j ≤ (t.c j : Rat)
        grind
      | false =>
        have q := h.eq j hj (by show (if t.plus j = true then Sg.ge else .eq) = .eq; rw [p]; rfl)
        rw [er] at q
        have q' : - colS (plain t) y j = ((- t.c j : Int) : Rat) := q
        rw [Rat.intCast_neg] at q'
        show colS (plain t) y j ≤ (t.c j : Rat)
        grind
    · have q := h.eq j hj (by show (if t.plus j = true then Sg.ge else .eq) = .eq; rw [show t.plus j = false from g]; rfl)
      rw [er] at q
      have q' : - colS (plain t) y j = ((- t.c j : Int) : Rat) := q
      rw [Rat.intCast_neg] at q'
      show colS (plain t) y j = (t.c j : Rat)
      grind
  · intro h
    refine ⟨fun i hi g => h.ge i hi (of_decide_eq_true g), fun j hj g => ?_, fun j hj g => ?_, fun j hj g => ?_⟩
    · rw [er]
      have q : colS (plain t) y j ≤ (t.c j : Rat) := h.col j hj
      show ((- t.c j : Int) : Rat) ≤ _
      rw [Rat.intCast_neg]; grind
    · have g' : (if t.plus j = true then Sg.ge else .eq) = .le := g
      split at g' <;> cases g'
    · have g' : (if t.plus j = true then Sg.ge else .eq) = .eq := g
      cases p : t.plus j with
      | true => rw [p] at g'; cases g'
      | false =>
        rw [er]
        have q : colS (plain t) y j = (t.c j : Rat) := h.colE j hj p
        show _ = ((- t.c j : Int) : Rat)
        rw [Rat.intCast_neg]; grind
theorem cost_other (t : Task) (y : Nat → Rat) : costT (other t) y = - prom (plain t) y := by
  unfold costT prom
  rw [← sR_neg]
  exact sR_congr fun i _ => by
    show ((- (plain t).b i : Int) : Rat) * y i = _
    rw [Rat.intCast_neg, Rat.neg_mul]
theorem best_other {t : Task} {v : Rat} (h : Best t v) : Best (other t) (-v) := by
  obtain ⟨y, hy, e⟩ := strong (best_plain.mpr h)
  obtain ⟨x, hx, ex, _⟩ := h
  refine ⟨y, plan_other.mpr hy, by rw [cost_other, e], fun y' hy' => ?_⟩
  have w := weak (plan_plain.mpr hx) (plan_other.mp hy')
  have ex' : costT (plain t) x = v := ex
  rw [ex'] at w
  rw [cost_other]; grind
/-- best plans; best papers of the plain task -/
def BPlan (t : Task) (v : Rat) (x : Nat → Rat) : Prop := Plan t x ∧ costT t x = v
def BPaper (t : Task) (v : Rat) (y : Nat → Rat) : Prop := Paper (plain t) y ∧ prom (plain t) y = v
theorem face_iff {t : Task} {v : Rat} {x : Nat → Rat} : Plan (kept t v) x ↔ BPlan t v x := plan_kept
theorem pface_iff {t : Task} {v : Rat} {y : Nat → Rat} : Plan (kept (other t) (-v)) y ↔ BPaper t v y := by
  rw [plan_kept, plan_other, cost_other]
  unfold BPaper
  constructor
  · rintro ⟨h, e⟩; exact ⟨h, by grind⟩
  · rintro ⟨h, e⟩; exact ⟨h, by grind⟩
/-! ### the least cost as a function -/
open Classical in
noncomputable def bc (t : Task) : Option Rat := if h : ∃ v, Best t v then some h.choose else none
theorem bc_some {t : Task} {v : Rat} : bc t = some v ↔ Best t v := by
  unfold bc
  constructor
  · intro h
    split at h
    · next q => cases h; exact q.choose_spec
    · cases h
  · intro h
    have q : ∃ v, Best t v := ⟨v, h⟩
    rw [dif_pos q, q.choose_spec.uniq h]
theorem bc_none {t : Task} : bc t = none ↔ ¬ ∃ v, Best t v := by
  unfold bc
  split
  · next q => exact ⟨fun h => (by cases h), fun h => absurd q h⟩
  · next q => exact ⟨fun _ => q, fun _ => rfl⟩
theorem bc_no {t : Task} (h : NoPl t) : bc t = none := bc_none.mpr fun ⟨_, q⟩ => q.notNo h
theorem bc_endless {t : Task} (h : Endless t) : bc t = none := bc_none.mpr fun ⟨_, q⟩ => q.notEndless h
/-- least and greatest sums over plans -/
noncomputable def lo (f : Task) (d : Nat → Int) : Option Rat := bc (priced f d)
noncomputable def hi (f : Task) (d : Nat → Int) : Option Rat := (bc (priced f fun j => - d j)).map fun q => - q
def sumD (f : Task) (d : Nat → Int) (x : Nat → Rat) : Rat := sR f.k (fun j => (d j : Rat) * x j)
theorem lo_none {f : Task} {d : Nat → Int} {x : Nat → Rat} (hx : Plan f x) (h : lo f d = none) (M : Rat) : ∃ x', Plan f x' ∧ sumD f d x' < M := by
  rcases three (priced f d) with q | q | ⟨v, q⟩
  · exact absurd (plan_priced.mpr hx) (q x)
  · obtain ⟨x', h1, h2⟩ := q.2 M
    exact ⟨x', plan_priced.mp h1, h2⟩
  · exact absurd ⟨v, q⟩ (bc_none.mp h)
theorem lo_some {f : Task} {d : Nat → Int} {v : Rat} (h : lo f d = some v) : (∃ x, Plan f x ∧ sumD f d x = v) ∧ ∀ x, Plan f x → v ≤ sumD f d x := by
  obtain ⟨x, h1, h2, h3⟩ := bc_some.mp h
  exact ⟨⟨x, plan_priced.mp h1, h2⟩, fun x' hx' => h3 x' (plan_priced.mpr hx')⟩
theorem sumD_neg (f : Task) (d : Nat → Int) (x : Nat → Rat) : sumD f (fun j => - d j) x = - sumD f d x := by
  unfold sumD
  rw [← sR_neg]
  exact sR_congr fun j _ => by rw [Rat.intCast_neg, Rat.neg_mul]
theorem hi_none {f : Task} {d : Nat → Int} {x : Nat → Rat} (hx : Plan f x) (h : hi f d = none) (M : Rat) : ∃ x', Plan f x' ∧ M < sumD f d x' := by
  obtain ⟨x', h1, h2⟩ := lo_none (d := fun j => - d j) hx (Option.map_eq_none_iff.mp h) (-M)
  rw [sumD_neg] at h2
  exact ⟨x', h1, by grind⟩
theorem hi_some {f : Task} {d : Nat → Int} {v : Rat} (h : hi f d = some v) : (∃ x, Plan f x ∧ sumD f d x = v) ∧ ∀ x, Plan f x → sumD f d x ≤ v := by
  obtain ⟨w, h1, h2⟩ := Option.map_eq_some_iff.mp h
  obtain ⟨⟨x, hx, e⟩, l⟩ := lo_some (d := fun j => - d j) h1
  rw [sumD_neg] at e
  refine ⟨⟨x, hx, by grind⟩, fun x' hx' => ?_⟩
  have := l x' hx'
  rw [sumD_neg] at this; grind
theorem sumD_unit {f : Task} {i : Nat} (hi : i < f.k) (x : Nat → Rat) : sumD f (unitC i) x = x i := by
  unfold sumD
  rw [sR_one hi]
  · unfold unitC; rw [if_pos rfl]; have : ((1 : Int) : Rat) = 1 := rfl
    grind
  · intro j _ hj; unfold unitC; rw [if_neg hj]; exact Rat.zero_mul _
/-! ### complementary -/
theorem weak_zero {t : Task} {x y : Nat → Rat} (hx : Plan t x) (hy : Paper t y) (e : costT t x = prom t y) :
    (∀ i, i < t.m → (rowS t x i - (t.b i : Rat)) * y i = 0) ∧ (∀ j, j < t.k → ((t.c j : Rat) - colS t y j) * x j = 0) := by
  have e1 : sR t.m (fun i => rowS t x i * y i) = sR t.k (fun j => colS t y j * x j) := by
    have a1 : sR t.m (fun i => rowS t x i * y i) = sR t.m (fun i => sR t.k (fun j => (t.A i j : Rat) * x j * y i)) := sR_congr fun i _ => by unfold rowS; rw [← sR_mul_right]
    have a2 : sR t.k (fun j => colS t y j * x j) = sR t.k (fun j => sR t.m (fun i => (t.A i j : Rat) * x j * y i)) := sR_congr fun j _ => by
      unfold colS; rw [← sR_mul_right]; exact sR_congr fun i _ => by grind
    rw [a1, a2, sR_comm]
  have n1 : ∀ i, i < t.m → 0 ≤ (rowS t x i - (t.b i : Rat)) * y i := fun i hi => by
    cases g : t.sg i with
    | ge => exact Rat.mul_nonneg (by have := hx.ge i hi g; grind) (hy.ge i hi g)
    | le =>
      have h3 := Rat.mul_nonneg (show (0 : Rat) ≤ (t.b i : Rat) - rowS t x i by have := hx.le i hi g; grind) (show (0 : Rat) ≤ - y i by have := hy.le i hi g; grind)
      grind
    | eq => rw [hx.eq i hi g]; grind
  have n2 : ∀ j, j < t.k → 0 ≤ ((t.c j : Rat) - colS t y j) * x j := fun j hj => by
    cases g : t.plus j with
    | true => exact Rat.mul_nonneg (by have := hy.col j hj; grind) (hx.nn j hj g)
    | false => rw [hy.colE j hj g]; grind
  have s1 : sR t.m (fun i => (rowS t x i - (t.b i : Rat)) * y i) = sR t.m (fun i => rowS t x i * y i) - prom t y := by
    unfold prom; rw [← sR_sub]; exact sR_congr fun i _ => by grind
  have s2 : sR t.k (fun j => ((t.c j : Rat) - colS t y j) * x j) = costT t x - sR t.k (fun j => colS t y j * x j) := by
    unfold costT; rw [← sR_sub]; exact sR_congr fun j _ => by grind
  have p1 := sR_nonneg n1
  have p2 := sR_nonneg n2
  exact ⟨sR_nil n1 (by grind), sR_nil n2 (by grind)⟩
section
variable {t : Task} {v : Rat} {x y : Nat → Rat}
theorem comp_row (hx : BPlan t v x) (hy : BPaper t v y) {i : Nat} (hi : i < t.m) : (rowS (plain t) x i - ((plain t).b i : Rat)) * y i = 0 :=
  (weak_zero (t := plain t) (plan_plain.mpr hx.1) hy.1 (by rw [hy.2]; exact hx.2)).1 i hi
theorem comp_col (hx : BPlan t v x) (hy : BPaper t v y) {j : Nat} (hj : j < t.k) : ((t.c j : Rat) - colS (plain t) y j) * x j = 0 :=
  (weak_zero (t := plain t) (plan_plain.mpr hx.1) hy.1 (by rw [hy.2]; exact hx.2)).2 j hj
/-- weights of the face's task made a best paper: d is what is left at the columns, e what is more at the rows -/
theorem mix (hy : BPaper t v y) {y' : Nat → Rat} {W : Rat} {d : Nat → Rat} (hs : ∀ i, i < t.m → (plain t).sg i = .ge → 0 ≤ y' i) (hd : ∀ j, j < t.k → 0 ≤ d j)
    (hc : ∀ j, j < t.k → colS (plain t) y' j + W * (t.c j : Rat) ≤ - d j) (hcE : ∀ j, j < t.k → t.plus j = false → colS (plain t) y' j + W * (t.c j : Rat) = 0)
    (hp : prom (plain t) y' + W * v = 0) : ∃ Y, BPaper t v Y ∧ (∀ j, j < t.k → 0 < d j → colS (plain t) Y j < (t.c j : Rat)) ∧ ∀ i, i < t.m → (plain t).sg i = .ge → 0 < y' i → 0 < Y i := by
  obtain ⟨K, hK, hKW⟩ : ∃ K : Rat, 0 < K ∧ 0 < K - W := by
    by_cases c : W < 0
    · exact ⟨1, by grind, by grind⟩
    · exact ⟨W + 1, by grind, by grind⟩
  obtain ⟨q, hq, eq⟩ : ∃ q : Rat, 0 < q ∧ q * (K - W) = 1 := ⟨(K - W)⁻¹, Rat.inv_pos.mpr hKW, Rat.inv_mul_cancel _ (Rat.ne_of_gt hKW)⟩
  have ec : ∀ j, colS (plain t) (fun i => q * (K * y i + y' i)) j = q * (K * colS (plain t) y j + colS (plain t) y' j) := fun j => by
    unfold colS
    rw [← sR_mul K, ← sR_add, ← sR_mul]
    exact sR_congr fun i _ => by grind
  have ep : prom (plain t) (fun i => q * (K * y i + y' i)) = q * (K * prom (plain t) y + prom (plain t) y') := by
    unfold prom
    rw [← sR_mul K, ← sR_add, ← sR_mul]
    exact sR_congr fun i _ => by grind
  have up : ∀ j, j < t.k → colS (plain t) (fun i => q * (K * y i + y' i)) j ≤ (t.c j : Rat) - q * d j := fun j hj => by
    rw [ec]
    have h1 : colS (plain t) y j ≤ (t.c j : Rat) := hy.1.col j hj
    have h2 := hc j hj
    have h3 := Rat.mul_le_mul_of_nonneg_left h1 (Rat.le_of_lt hK)
    have h4 : K * colS (plain t) y j + colS (plain t) y' j ≤ (K - W) * (t.c j : Rat) - d j := by grind
    have h5 := Rat.mul_le_mul_of_nonneg_left h4 (Rat.le_of_lt hq)
    have h6 : q * ((K - W) * (t.c j : Rat) - d j) = (q * (K - W)) * (t.c j : Rat) - q * d j := by grind
    rw [h6, eq, Rat.one_mul] at h5
    exact h5
  refine ⟨fun i => q * (K * y i + y' i), ⟨⟨fun i hi g => ?_, fun i hi g => absurd g (plain_plain t i hi), fun j hj => ?_, fun j hj g => ?_⟩, ?_⟩, fun j hj hd' => ?_, fun i hi g hp' => ?_⟩
  · exact Rat.mul_nonneg (Rat.le_of_lt hq) (Rat.add_nonneg (Rat.mul_nonneg (Rat.le_of_lt hK) (hy.1.ge i hi g)) (hs i hi g))
  · have h1 := up j hj
    have h2 := Rat.mul_nonneg (Rat.le_of_lt hq) (hd j hj)
    show _ ≤ (t.c j : Rat)
    grind
  · rw [ec]
    have h1 : colS (plain t) y j = (t.c j : Rat) := hy.1.colE j hj g
    have h2 := hcE j hj g
    show _ = (t.c j : Rat)
    have h4 : K * colS (plain t) y j + colS (plain t) y' j = (K - W) * (t.c j : Rat) := by rw [h1]; grind
    rw [h4, ← Rat.mul_assoc, eq, Rat.one_mul]
  · rw [ep, hy.2]
    have h4 : K * v + prom (plain t) y' = (K - W) * v := by grind
    rw [h4, ← Rat.mul_assoc, eq, Rat.one_mul]
  · have h1 := up j hj
    have h2 := Rat.mul_pos hq hd'
    grind
  · have h1 := Rat.mul_nonneg (Rat.le_of_lt hK) (hy.1.ge i hi g)
    exact Rat.mul_pos hq (by grind)
/-- a paper of the face's task with other costs: weights of the rows, and that of the cost -/
theorem face_paper {d : Nat → Int} {y' : Nat → Rat} (h : Paper (priced (kept (plain t) v) d) y') :
    (∀ i, i < t.m → (plain t).sg i = .ge → 0 ≤ y' i) ∧ (∀ j, j < t.k → colS (plain t) y' j + (((v.den : Int) : Rat) * y' t.m) * (t.c j : Rat) ≤ (d j : Rat)) ∧
    (∀ j, j < t.k → t.plus j = false → colS (plain t) y' j + (((v.den : Int) : Rat) * y' t.m) * (t.c j : Rat) = (d j : Rat)) ∧
    prom (priced (kept (plain t) v) d) y' = prom (plain t) y' + (((v.den : Int) : Rat) * y' t.m) * v := by
  have es : ∀ i, i < t.m → (priced (kept (plain t) v) d).sg i = (plain t).sg i := fun i hi => if_pos hi
  have ec : ∀ j, colS (priced (kept (plain t) v) d) y' j = colS (plain t) y' j + (((v.den : Int) : Rat) * y' t.m) * (t.c j : Rat) := fun j => by
    show sR (t.m + 1) (fun i => (((if i < t.m then (plain t).A i j else t.c j * (v.den : Int) : Int)) : Rat) * y' i) = _
    show sR t.m _ + (((if t.m < t.m then (plain t).A t.m j else t.c j * (v.den : Int) : Int)) : Rat) * y' t.m = _
    rw [if_neg (Nat.lt_irrefl _), Rat.intCast_mul]
    have : sR t.m (fun i => (((if i < t.m then (plain t).A i j else t.c j * (v.den : Int) : Int)) : Rat) * y' i) = colS (plain t) y' j := sR_congr fun i hi => by rw [if_pos hi]
    rw [this]; grind
  refine ⟨fun i hi g => h.ge i (Nat.lt_succ_of_lt hi) (by rw [es i hi]; exact g), fun j hj => ?_, fun j hj g => ?_, ?_⟩
  · rw [← ec]; exact h.col j hj
  · rw [← ec]; exact h.colE j hj g
  · show sR (t.m + 1) (fun i => (((if i < t.m then (plain t).b i else v.num : Int)) : Rat) * y' i) = _
    show sR t.m _ + (((if t.m < t.m then (plain t).b t.m else v.num : Int)) : Rat) * y' t.m = _
    rw [if_neg (Nat.lt_irrefl _), rat_div v]
    have : sR t.m (fun i => (((if i < t.m then (plain t).b i else v.num : Int)) : Rat) * y' i) = prom (plain t) y' := sR_congr fun i hi => by rw [if_pos hi]
    rw [this]; grind
/-- a column that no best plan uses is dear in some best paper -/
theorem dear_of (hb : Best t v) {j : Nat} (hj : j < t.k) (hp : t.plus j = true) (h : ∀ x, BPlan t v x → x j ≤ 0) : ∃ y, BPaper t v y ∧ colS (plain t) y j < (t.c j : Rat) := by
  obtain ⟨y, hy, ey⟩ := strong (best_plain.mpr hb)
  obtain ⟨x, hx, ex, _⟩ := hb
  have bf : Best (priced (kept (plain t) v) fun q => - unitC j q) 0 := by
    have sum : ∀ x, costT (priced (kept (plain t) v) fun q => - unitC j q) x = - x j := fun x => by
      have := sumD_neg (kept (plain t) v) (unitC j) x
      rw [sumD_unit (f := kept (plain t) v) hj] at this
      exact this
    have hx0 : x j = 0 := by
      have h1 := h x ⟨hx, ex⟩
      have h2 := hx.nn j hj hp
      grind
    refine ⟨x, plan_priced.mpr (plan_kept.mpr ⟨plan_plain.mpr hx, ex⟩), by rw [sum, hx0]; grind, fun x' hx' => ?_⟩
    obtain ⟨h1, h2⟩ := plan_kept.mp (plan_priced.mp hx')
    have := h x' ⟨plan_plain.mp h1, h2⟩
    rw [sum]; grind
  obtain ⟨y', hy', ep⟩ := strong bf
  obtain ⟨f1, f2, f3, f4⟩ := face_paper hy'
  rw [f4] at ep
  obtain ⟨Y, h1, h2, _⟩ := mix (t := t) (v := v) (y := y) ⟨hy, ey⟩ (y' := y') (W := ((v.den : Int) : Rat) * y' t.m) (d := fun q => if q = j then 1 else 0) f1
    (fun q _ => by show (0 : Rat) ≤ if q = j then 1 else 0; split <;> grind)
    (fun q hq => by
      have w := f2 q hq
      rw [Rat.intCast_neg] at w
      show _ ≤ - (if q = j then (1 : Rat) else 0)
      unfold unitC at w
      split <;> split at w <;> first | exact w | contradiction)
    (fun q hq g => by
      have w := f3 q hq g
      have ne : q ≠ j := fun z => by rw [z, hp] at g; cases g
      rw [w]; unfold unitC; rw [if_neg ne]; rfl) ep
  exact ⟨Y, h1, h2 j hj (by show (0 : Rat) < if j = j then 1 else 0; rw [if_pos rfl]; grind)⟩
/-- a row that is tight in all best plans is paid in some best paper -/
theorem paid_of (hb : Best t v) {i : Nat} (hi : i < t.m) (hg : (plain t).sg i = .ge) (h : ∀ x, BPlan t v x → rowS (plain t) x i ≤ ((plain t).b i : Rat)) : ∃ y, BPaper t v y ∧ 0 < y i := by
  obtain ⟨y, hy, ey⟩ := strong (best_plain.mpr hb)
  obtain ⟨x, hx, ex, _⟩ := hb
  have bf : Best (priced (kept (plain t) v) fun q => - (plain t).A i q) (- ((plain t).b i : Rat)) := by
    have sum : ∀ x, costT (priced (kept (plain t) v) fun q => - (plain t).A i q) x = - rowS (plain t) x i := fun x => sumD_neg (kept (plain t) v) ((plain t).A i) x
    have hx0 : rowS (plain t) x i = ((plain t).b i : Rat) := Rat.le_antisymm (h x ⟨hx, ex⟩) ((plan_plain.mpr hx).ge i hi hg)
    refine ⟨x, plan_priced.mpr (plan_kept.mpr ⟨plan_plain.mpr hx, ex⟩), by rw [sum, hx0], fun x' hx' => ?_⟩
    obtain ⟨h1, h2⟩ := plan_kept.mp (plan_priced.mp hx')
    have := h x' ⟨plan_plain.mp h1, h2⟩
    rw [sum]; grind
  obtain ⟨y', hy', ep⟩ := strong bf
  obtain ⟨f1, f2, f3, f4⟩ := face_paper hy'
  rw [f4] at ep
  have ec : ∀ j, colS (plain t) (fun r => y' r + if r = i then 1 else 0) j = colS (plain t) y' j + ((plain t).A i j : Rat) := fun j => by
    have e : colS (plain t) (fun r => y' r + if r = i then 1 else 0) j = sR t.m (fun r => ((plain t).A r j : Rat) * y' r + if i = r then ((plain t).A r j : Rat) else 0) := sR_congr fun r _ => by
      show ((plain t).A r j : Rat) * (y' r + if r = i then 1 else 0) = _
      by_cases z : r = i
      · rw [if_pos z, if_pos z.symm]; grind
      · rw [if_neg z, if_neg (fun q => z q.symm)]; grind
    rw [e, sR_add, sR_pick (f := fun r => ((plain t).A r j : Rat)) hi]; rfl
  have eb : prom (plain t) (fun r => y' r + if r = i then 1 else 0) = prom (plain t) y' + ((plain t).b i : Rat) := by
    have e : prom (plain t) (fun r => y' r + if r = i then 1 else 0) = sR t.m (fun r => ((plain t).b r : Rat) * y' r + if i = r then ((plain t).b r : Rat) else 0) := sR_congr fun r _ => by
      show ((plain t).b r : Rat) * (y' r + if r = i then 1 else 0) = _
      by_cases z : r = i
      · rw [if_pos z, if_pos z.symm]; grind
      · rw [if_neg z, if_neg (fun q => z q.symm)]; grind
    rw [e, sR_add, sR_pick (f := fun r => ((plain t).b r : Rat)) hi]; rfl
  obtain ⟨Y, h1, _, h3⟩ := mix (t := t) (v := v) (y := y) ⟨hy, ey⟩ (y' := fun r => y' r + if r = i then 1 else 0) (W := ((v.den : Int) : Rat) * y' t.m) (d := fun _ => 0)
    (fun r hr g => by
      have := f1 r hr g
      show 0 ≤ y' r + if r = i then 1 else 0
      split <;> grind)
    (fun q _ => Rat.le_refl)
    (fun q hq => by
      have w := f2 q hq
      rw [Rat.intCast_neg] at w
      rw [ec]; grind)
    (fun q hq g => by
      have w := f3 q hq g
      rw [Rat.intCast_neg] at w
      rw [ec]; grind) (by rw [eb]; grind)
  refine ⟨Y, h1, h3 i hi hg ?_⟩
  have := f1 i hi hg
  show 0 < y' i + if i = i then 1 else 0
  rw [if_pos rfl]; grind
end
/-! ### the four lists -/
noncomputable def liveP (t : Task) (v : Rat) (j : Nat) : Bool := t.plus j && (match hi (kept t v) (unitC j) with | none => true | some q => decide (0 < q.num))
noncomputable def dearP (t : Task) (v : Rat) (j : Nat) : Bool := t.plus j && (match lo (kept (other t) (-v)) (fun i => (plain t).A i j) with | none => true | some q => decide (q.num < t.c j * (q.den : Int)))
noncomputable def looseP (t : Task) (v : Rat) (i : Nat) : Bool := decide ((plain t).sg i = .ge) && (match hi (kept t v) ((plain t).A i) with | none => true | some q => decide ((plain t).b i * (q.den : Int) < q.num))
noncomputable def paidP (t : Task) (v : Rat) (i : Nat) : Bool := decide (t.sg i ≠ .eq) && (match hi (kept (other t) (-v)) (unitC i) with | none => true | some q => decide (0 < q.num))
theorem num_pos {q : Rat} : 0 < q.num ↔ 0 < q := by
  have h := Rat.lt_iff 0 q
  rw [h]
  show _ ↔ (0 : Int) * (q.den : Int) < q.num * ((1 : Nat) : Int)
  omega
theorem num_lt {q : Rat} {c : Int} : q.num < c * (q.den : Int) ↔ q < (c : Rat) := by
  rw [Rat.lt_iff]
  show _ ↔ q.num * ((1 : Nat) : Int) < c * (q.den : Int)
  omega
theorem num_gt {q : Rat} {c : Int} : c * (q.den : Int) < q.num ↔ (c : Rat) < q := by
  rw [Rat.lt_iff]
  show _ ↔ c * (q.den : Int) < q.num * ((1 : Nat) : Int)
  omega
section
variable {t : Task} {v : Rat}
theorem some_bplan (hb : Best t v) : ∃ x, BPlan t v x := let ⟨x, h1, h2, _⟩ := hb; ⟨x, h1, h2⟩
theorem some_bpaper (hb : Best t v) : ∃ y, BPaper t v y := let ⟨y, h1, h2⟩ := strong (best_plain.mpr hb); ⟨y, h1, h2⟩
theorem plain_ge {i : Nat} : (plain t).sg i = .ge ↔ t.sg i ≠ .eq := by
  show (if t.sg i = .le then Sg.ge else t.sg i) = .ge ↔ _
  cases t.sg i <;> simp
theorem live_iff (hb : Best t v) {j : Nat} (hj : j < t.k) (hp : t.plus j = true) : liveP t v j = true ↔ ∃ x, BPlan t v x ∧ 0 < x j := by
  obtain ⟨x0, hx0⟩ := some_bplan hb
  unfold liveP
  rw [hp, Bool.true_and]
  cases e : hi (kept t v) (unitC j) with
  | none =>
    obtain ⟨x, h1, h2⟩ := hi_none (face_iff.mpr hx0) e 0
    rw [sumD_unit (f := kept t v) hj] at h2
    exact ⟨fun _ => ⟨x, face_iff.mp h1, h2⟩, fun _ => rfl⟩
  | some q =>
    obtain ⟨⟨x, h1, h2⟩, h3⟩ := hi_some e
    rw [sumD_unit (f := kept t v) hj] at h2
    show decide (0 < q.num) = true ↔ _
    rw [decide_eq_true_iff, num_pos]
    constructor
    · intro hq; exact ⟨x, face_iff.mp h1, by rw [h2]; exact hq⟩
    · rintro ⟨x', hx', p⟩
      have := h3 x' (face_iff.mpr hx')
      rw [sumD_unit (f := kept t v) hj] at this
      grind
theorem dear_iff (hb : Best t v) {j : Nat} (hp : t.plus j = true) : dearP t v j = true ↔ ∃ y, BPaper t v y ∧ colS (plain t) y j < (t.c j : Rat) := by
  obtain ⟨y0, hy0⟩ := some_bpaper hb
  have sum : ∀ y, sumD (kept (other t) (-v)) (fun i => (plain t).A i j) y = colS (plain t) y j := fun y => rfl
  unfold dearP
  rw [hp, Bool.true_and]
  cases e : lo (kept (other t) (-v)) (fun i => (plain t).A i j) with
  | none =>
    obtain ⟨y, h1, h2⟩ := lo_none (pface_iff.mpr hy0) e (t.c j : Rat)
    rw [sum] at h2
    exact ⟨fun _ => ⟨y, pface_iff.mp h1, h2⟩, fun _ => rfl⟩
  | some q =>
    obtain ⟨⟨y, h1, h2⟩, h3⟩ := lo_some e
    rw [sum] at h2
    show decide (q.num < t.c j * (q.den : Int)) = true ↔ _
    rw [decide_eq_true_iff, num_lt]
    constructor
    · intro hq; exact ⟨y, pface_iff.mp h1, by rw [h2]; exact hq⟩
    · rintro ⟨y', hy', p⟩
      have := h3 y' (pface_iff.mpr hy')
      rw [sum] at this
      grind
theorem loose_iff (hb : Best t v) {i : Nat} (hg : (plain t).sg i = .ge) : looseP t v i = true ↔ ∃ x, BPlan t v x ∧ ((plain t).b i : Rat) < rowS (plain t) x i := by
  obtain ⟨x0, hx0⟩ := some_bplan hb
  have sum : ∀ x, sumD (kept t v) ((plain t).A i) x = rowS (plain t) x i := fun x => rfl
  unfold looseP
  rw [decide_eq_true hg, Bool.true_and]
  cases e : hi (kept t v) ((plain t).A i) with
  | none =>
    obtain ⟨x, h1, h2⟩ := hi_none (face_iff.mpr hx0) e ((plain t).b i : Rat)
    rw [sum] at h2
    exact ⟨fun _ => ⟨x, face_iff.mp h1, h2⟩, fun _ => rfl⟩
  | some q =>
    obtain ⟨⟨x, h1, h2⟩, h3⟩ := hi_some e
    rw [sum] at h2
    show decide ((plain t).b i * (q.den : Int) < q.num) = true ↔ _
    rw [decide_eq_true_iff, num_gt]
    constructor
    · intro hq; exact ⟨x, face_iff.mp h1, by rw [h2]; exact hq⟩
    · rintro ⟨x', hx', p⟩
      have := h3 x' (face_iff.mpr hx')
      rw [sum] at this
      grind
theorem paid_iff (hb : Best t v) {i : Nat} (hi' : i < t.m) (hg : t.sg i ≠ .eq) : paidP t v i = true ↔ ∃ y, BPaper t v y ∧ 0 < y i := by
  obtain ⟨y0, hy0⟩ := some_bpaper hb
  unfold paidP
  rw [decide_eq_true hg, Bool.true_and]
  cases e : hi (kept (other t) (-v)) (unitC i) with
  | none =>
    obtain ⟨y, h1, h2⟩ := hi_none (pface_iff.mpr hy0) e 0
    rw [sumD_unit (f := kept (other t) (-v)) hi'] at h2
    exact ⟨fun _ => ⟨y, pface_iff.mp h1, h2⟩, fun _ => rfl⟩
  | some q =>
    obtain ⟨⟨y, h1, h2⟩, h3⟩ := hi_some e
    rw [sumD_unit (f := kept (other t) (-v)) hi'] at h2
    show decide (0 < q.num) = true ↔ _
    rw [decide_eq_true_iff, num_pos]
    constructor
    · intro hq; exact ⟨y, pface_iff.mp h1, by rw [h2]; exact hq⟩
    · rintro ⟨y', hy', p⟩
      have := h3 y' (pface_iff.mpr hy')
      rw [sumD_unit (f := kept (other t) (-v)) hi'] at this
      grind
/-- each column + is either live or dear -/
theorem dear_not_live (hb : Best t v) {j : Nat} (hj : j < t.k) : dearP t v j = (t.plus j && !liveP t v j) := by
  cases hp : t.plus j with
  | false => unfold dearP; rw [hp]; rfl
  | true =>
    rw [Bool.true_and]
    have h1 := live_iff hb hj hp
    have h2 := dear_iff hb (j := j) hp
    cases c : liveP t v j with
    | true =>
      obtain ⟨x, hx, px⟩ := h1.mp c
      cases d : dearP t v j with
      | false => rfl
      | true =>
        obtain ⟨y, hy, py⟩ := h2.mp d
        have w := comp_col hx hy hj
        rcases Rat.mul_eq_zero.mp w with q | q <;> grind
    | false =>
      have : dearP t v j = true := h2.mpr (dear_of hb hj hp fun x hx => by
        have : ¬ (0 < x j) := fun q => by rw [h1.mpr ⟨x, hx, q⟩] at c; cases c
        grind)
      rw [this]; rfl
theorem paid_not_loose (hb : Best t v) {i : Nat} (hi : i < t.m) : paidP t v i = (decide (t.sg i ≠ .eq) && !looseP t v i) := by
  by_cases hg : t.sg i = .eq
  · unfold paidP; rw [hg]; rfl
  · rw [decide_eq_true hg, Bool.true_and]
    have hg' : (plain t).sg i = .ge := plain_ge.mpr hg
    have h1 := loose_iff hb (i := i) hg'
    have h2 := paid_iff hb hi hg
    cases c : looseP t v i with
    | true =>
      obtain ⟨x, hx, px⟩ := h1.mp c
      cases d : paidP t v i with
      | false => rfl
      | true =>
        obtain ⟨y, hy, py⟩ := h2.mp d
        have w := comp_row hx hy hi
        rcases Rat.mul_eq_zero.mp w with q | q <;> grind
    | false =>
      have : paidP t v i = true := h2.mpr (paid_of hb hi hg' fun x hx => by
        have : ¬ (((plain t).b i : Rat) < rowS (plain t) x i) := fun q => by rw [h1.mpr ⟨x, hx, q⟩] at c; cases c
        grind)
      rw [this]; rfl
theorem live_plus {j : Nat} (h : liveP t v j = true) : t.plus j = true := by
  unfold liveP at h
  exact (Bool.and_eq_true_iff.mp h).1
theorem loose_ne {i : Nat} (h : looseP t v i = true) : t.sg i ≠ .eq := by
  unfold looseP at h
  exact plain_ge.mp (of_decide_eq_true (Bool.and_eq_true_iff.mp h).1)
/-- the range of a weight -/
theorem range_iff (hb : Best t v) {i : Nat} (hi' : i < t.m) (hg : t.sg i ≠ .eq) :
    (lo (kept (other t) (-v)) (unitC i) = some 0 ∧ hi (kept (other t) (-v)) (unitC i) = some 0) ↔ paidP t v i = false := by
  obtain ⟨y0, hy0⟩ := some_bpaper hb
  have hp := paid_iff hb hi' hg
  have nn : ∀ y, Plan (kept (other t) (-v)) y → 0 ≤ y i := fun y hy => (pface_iff.mp hy).1.ge i hi' (plain_ge.mpr hg)
  constructor
  · rintro ⟨_, h2⟩
    have h := (hi_some h2).2
    cases c : paidP t v i with
    | false => rfl
    | true =>
      obtain ⟨y, hy, p⟩ := hp.mp c
      have := h y (pface_iff.mpr hy)
      rw [sumD_unit (f := kept (other t) (-v)) hi'] at this
      grind
  · intro c
    have zero : ∀ y, Plan (kept (other t) (-v)) y → y i = 0 := fun y hy => by
      have h1 := nn y hy
      have : ¬ (0 < y i) := fun q => by rw [hp.mpr ⟨y, pface_iff.mp hy, q⟩] at c; cases c
      grind
    constructor
    · cases e : lo (kept (other t) (-v)) (unitC i) with
      | none =>
        obtain ⟨y, h1, h2⟩ := lo_none (pface_iff.mpr hy0) e 0
        rw [sumD_unit (f := kept (other t) (-v)) hi', zero y h1] at h2
        exact absurd h2 Rat.lt_irrefl
      | some q =>
        obtain ⟨⟨y, h1, h2⟩, _⟩ := lo_some e
        rw [sumD_unit (f := kept (other t) (-v)) hi', zero y h1] at h2
        rw [← h2]
    · cases e : hi (kept (other t) (-v)) (unitC i) with
      | none =>
        obtain ⟨y, h1, h2⟩ := hi_none (pface_iff.mpr hy0) e 0
        rw [sumD_unit (f := kept (other t) (-v)) hi', zero y h1] at h2
        exact absurd h2 Rat.lt_irrefl
      | some q =>
        obtain ⟨⟨y, h1, h2⟩, _⟩ := hi_some e
        rw [sumD_unit (f := kept (other t) (-v)) hi', zero y h1] at h2
        rw [← h2]
end
end K6
-- WZip
set_option Elab.async false
set_option linter.all false
set_option maxRecDepth 100000
set_option maxHeartbeats 4000000
/-! zip(v, w) and enumerate(v) over lists, tuples, texts in any mix. -/
namespace G3
open PySem PySem.Spec PyProof.Rows L2
/-- what is walked: a list, a tuple, a text -/
inductive Sr where
  | L (a : Addr) | T (a : Addr) | S (x : Str)
def signs (x : Str) : List V := x.cps.toList.map fun cc => V.str ⟨#[cc]⟩
def Sr.has (K : PySem.W.Frag) (H : Hp) : Sr → List V → Prop
  | .L a, ls => SqL K H a ls
  | .T a, ls => SqT K H a ls
  | .S x, ls => ls = signs x
def Sr.val : Sr → V
  | .L a => .ref a
  | .T a => .ref a
  | .S x => .str x
def Sr.adr : Sr → List Addr
  | .L a => [a]
  | .T a => [a]
  | .S _ => []
/-- its iterator at it, i items gone -/
def Sr.ati (h : Heap) (it : Addr) (i : Nat) : Sr → Prop
  | .L a => h.IsListIter it a i
  | .T a => h.IsTupleIter it a i
  | .S x => ∃ t, h.IsStrIter it (strIterType x) x t i
theorem Sr.ati_frame {h h' : Heap} {it : Addr} {i : Nat} : ∀ {sr : Sr}, sr.ati h it i → (∀ o, h.get? it = some o → h'.get? it = some o) → sr.ati h' it i
  | .L _, ⟨o, e, r⟩, k => ⟨o, k o e, r⟩
  | .T _, ⟨o, e, r⟩, k => ⟨o, k o e, r⟩
  | .S _, ⟨t, o, e, r⟩, k => ⟨t, o, k o e, r⟩
theorem Sr.ati_obj {h : Heap} {it : Addr} {i : Nat} : ∀ {sr : Sr}, sr.ati h it i → ∃ o, h.get? it = some o ∧ ∀ v, o.data ≠ .cell v
  | .L _, ⟨o, e, _, dd⟩ => ⟨o, e, fun v q => by rw [dd] at q; cases q⟩
  | .T _, ⟨o, e, _, dd⟩ => ⟨o, e, fun v q => by rw [dd] at q; cases q⟩
  | .S _, ⟨t, o, e, _, dd⟩ => ⟨o, e, fun v q => by rw [dd] at q; cases q⟩
section
variable {X : Cx} {pin : List (Addr × Obj)} {σ : L2.St} {H : Hp} {s0 : Shared}
theorem Sr.inj (inv : Inv X pin σ H s0) : ∀ {sr : Sr} {ls ms : List V}, sr.has X.K H ls → sr.has X.K H ms → ls = ms
  | .L _, _, _, h, h' => inv.list_inj h h'
  | .T _, _, _, h, h' => inv.tuple_inj h h'
  | .S _, _, _, h, h' => h.trans h'.symm
/-- what its iterator draws -/
theorem Sr.draw (inv : Inv X pin σ H s0) {A : Around} (hh : A.handled = none) {it : Addr} {i : Nat} : ∀ {sr : Sr} {ls : List V}, sr.has X.K H ls → sr.ati s0.heap it i →
    ∃ (P : Nat → Value → Prop) (St : Nat → Heap → Prop), Draws X.prog X.w A it (it :: sr.adr) ls.length P St ∧ St i s0.heap ∧ (∀ j v, P j v → ∃ x, ls[j]? = some x ∧ RelV x v) ∧ ∀ j h, St j h → sr.ati h it j
  | .L a, ls, hxa, hit => by
    obtain ⟨its, r, p, _⟩ := inv.list hxa
    have pl := p.isList
    have hne : a ≠ it := by
      obtain ⟨o, e, cc, _⟩ := pl
      obtain ⟨o', ea, c', _⟩ := id hit
      intro q
      subst q
      rw [e] at ea; cases ea
      rw [cc] at c'; simp at c'
    have D := Draws.list (prog := X.prog) (w := X.w) hh it a hne its.toArray
    have hl := r.length
    have hzz : its.toArray.size = ls.length := by simp [hl]
    rw [hzz] at D
    refine ⟨_, _, D, ⟨hit, pl⟩, fun j v hj => ?_, fun j h sta => sta.1⟩
    have hj' : its[j]? = some v := by simpa using hj
    have lt : j < ls.length := by
      rw [hl]; exact (List.getElem?_eq_some_iff.mp hj').1
    have hx' : ls[j]? = some ls[j] := List.getElem?_eq_getElem lt
    obtain ⟨u, hu, ra⟩ := r.get hx'
    rw [hj'] at hu; cases hu
    exact ⟨_, hx', ra⟩
  | .T a, ls, hxa, hit => by
    obtain ⟨its, r, p, _⟩ := inv.tuple hxa
    have pl : s0.heap.IsTuple a its.toArray := p
    have hne : a ≠ it := by
      obtain ⟨o, e, cc, _⟩ := pl
      obtain ⟨o', ea, c', _⟩ := id hit
      intro q
      subst q
      rw [e] at ea; cases ea
      rw [cc] at c'; simp at c'
    have D := Draws.tuple (prog := X.prog) (w := X.w) hh it a hne its.toArray
    have hl := r.length
    have hzz : its.toArray.size = ls.length := by simp [hl]
    rw [hzz] at D
    refine ⟨_, _, D, ⟨hit, pl⟩, fun j v hj => ?_, fun j h sta => sta.1⟩
    have hj' : its[j]? = some v := by simpa using hj
    have lt : j < ls.length := by
      rw [hl]; exact (List.getElem?_eq_some_iff.mp hj').1
    have hx' : ls[j]? = some ls[j] := List.getElem?_eq_getElem lt
    obtain ⟨u, hu, ra⟩ := r.get hx'
    rw [hj'] at hu; cases hu
    exact ⟨_, hx', ra⟩
  | .S x, ls, hxa, ⟨t, hit⟩ => by
    have D := Draws.text (prog := X.prog) (w := X.w) hh it x t
    have hx' : ls = signs x := hxa
    subst hx'
    have hzz : (signs x).length = x.cps.size := by simp [signs]
    rw [← hzz] at D
    refine ⟨_, _, D, hit, fun j v hj => ?_, fun j h sta => ⟨t, sta⟩⟩
    obtain ⟨cc, u, hc, rfl⟩ := hj
    refine ⟨V.str ⟨#[cc]⟩, ?_, ⟨u, rfl⟩⟩
    have : x.cps.toList[j]? = some cc := by simpa using hc
    unfold signs
    rw [List.getElem?_map, this]; rfl
theorem Sr.begin (inv : Inv X pin σ H s0) {u : Value} : ∀ {sr : Sr} {ls : List V}, sr.has X.K H ls → RelV sr.val u →
    ∃ (o : Obj) (Hq : Heap → Prop), Begins u o Hq ∧ Hq s0.heap ∧ (∀ h it, h.get? it = some o → sr.ati h it 0) ∧ ∀ b ∈ sr.adr, b < s0.heap.objs.size
  | .L a, ls, hxa, r => by
    cases r
    obtain ⟨its, _, p, _⟩ := inv.list hxa
    refine ⟨_, _, begins_list a its.toArray, p.isList, fun h it e => ⟨_, e, rfl, rfl⟩, fun b hbb => ?_⟩
    rw [List.mem_singleton.mp hbb]; exact p.lt
  | .T a, ls, hxa, r => by
    cases r
    obtain ⟨its, _, p, _⟩ := inv.tuple hxa
    refine ⟨_, _, begins_tuple a its.toArray, p, fun h it e => ⟨_, e, rfl, rfl⟩, fun b hbb => ?_⟩
    obtain ⟨o, e, _⟩ := p
    rw [List.mem_singleton.mp hbb]; exact Heap.lt_size e
  | .S x, ls, hxa, r => by
    obtain ⟨t, rfl⟩ := r
    exact ⟨_, _, begins_text x t, trivial, fun h it e => ⟨t, _, e, rfl, rfl⟩, fun b hbb => nomatch hbb⟩
end
/-- pairs of the items -/
def ItG (K : PySem.W.Frag) (p q : Sr) : It :=
  ⟨fun i H => ∃ (ls ms : List V) (x y : V), p.has K H ls ∧ q.has K H ms ∧ ls[i]? = some x ∧ ms[i]? = some y,
    fun i H v H' => ∃ T x y, v = .ref T ∧ H T = none ∧ H' = upd H T (.tup [x, y]) ∧ (∀ ls, p.has K H ls → ls[i]? = some x) ∧ ∀ ms, q.has K H ms → ms[i]? = some y,
    fun i H => ∃ ls ms : List V, p.has K H ls ∧ q.has K H ms ∧ (i = ls.length ∨ i = ms.length) ∧ i ≤ ls.length ∧ i ≤ ms.length⟩
theorem turn_zipG {P : Program} {w : World} {K : PySem.W.Frag} {elts : List Expr} {kk : Nat} {tpos : Pos} {p q : Sr} {z TI TO i1 i2 : Addr} (D : ZipSep2 z TI TO i1 i2 (i1 :: p.adr) (i2 :: q.adr)) :
    Turn P w K (.Tuple elts kk tpos) (ItG K p q) [z, TI, TO, i1, i2] z (fun i h => IsZip h z TI TO .none ∧ IsTupOf2 h TI (.ref i1) (.ref i2) ∧ (∃ x y, IsTupOf2 h TO x y) ∧ p.ati h i1 i ∧ q.ati h i2 i) where
  mem := by simp
  obj := fun i h sta cc hc => by
    obtain ⟨hzz, hIn, ⟨x, y, hOut⟩, ha1, hb1⟩ := sta
    have ea : cc = z ∨ cc = TI ∨ cc = TO ∨ cc = i1 ∨ cc = i2 := by simpa using hc
    rcases ea with q | q | q | q | q
    · rw [q]; exact ⟨_, hzz, fun v q => nomatch q⟩
    · rw [q]; exact ⟨_, hIn, fun v q => nomatch q⟩
    · rw [q]; exact ⟨_, hOut, fun v q => nomatch q⟩
    · rw [q]; exact Sr.ati_obj ha1
    · rw [q]; exact Sr.ati_obj hb1
  keep := fun i h h' sta k => by
    obtain ⟨hzz, hIn, ⟨x, y, hOut⟩, ha1, hb1⟩ := sta
    exact ⟨k z (by simp) _ hzz, k TI (by simp) _ hIn, ⟨x, y, k TO (by simp) _ hOut⟩, Sr.ati_frame ha1 fun o q => k i1 (by simp) o q, Sr.ati_frame hb1 fun o q => k i2 (by simp) o q⟩
  item := by
    intro X hPP hww hKK hc i pin s0 σ H ex inv hfr sta hgo
    subst hPP hww hKK
    obtain ⟨hzz, hIn, ⟨x0, y0, hOut⟩, ha1, hb1⟩ := sta
    obtain ⟨ls, ms, x, y, hqa, hqb, hxa, hyb⟩ := hgo
    have hh : X.A.in1.handled = none := inv.ok.hd hc
    obtain ⟨P1, St1, D1, sa, r1, a1⟩ := Sr.draw inv hh hqa ha1
    obtain ⟨P2, St2, D2, s2, r2, a2⟩ := Sr.draw inv hh hqb hb1
    have l1 := (List.getElem?_eq_some_iff.mp hxa).1
    have l2 := (List.getElem?_eq_some_iff.mp hyb).1
    have hzlt : z < s0.heap.objs.size := Heap.lt_size hzz
    refine wpAny_pyNext_zipD2_item D D1 D2 hzz hIn hOut sa s2 l1 l2 fun u u2 h' tks y1 y2 z' TO' h1' h2' hT hsz hkp => ?_
    obtain ⟨x', ex, ra⟩ := r1 _ _ y1
    rw [hxa] at ex; cases ex
    obtain ⟨y', ey, rb⟩ := r2 _ _ y2
    rw [hyb] at ey; cases ey
    refine ⟨_, rfl, wpAny_letOwnedTupleGo_zip (s := { s0 with heap := h', toks := tks }) z' fun h'' z'' sbut => ?_⟩
    have hT2 : h''.get? s0.heap.objs.size = some { cls := .type "tuple", data := .seq #[u, u2] } := (sbut.2 _ (Nat.ne_of_gt hzlt)).trans hT
    have fresh : ObjOk X.prog X.w (upd H s0.heap.objs.size (.tup [x, y])) h'' s0.heap.objs.size (.tup [x, y]) :=
      ⟨by show 2 ≤ sizeLine; decide, [u, u2], .cons ra (.cons rb .nil), ⟨_, hT2, rfl, _, rfl⟩⟩
    have inv1 : Inv X pin σ (upd H s0.heap.objs.size (.tup [x, y])) { s0 with heap := h'', toks := tks } :=
      inv.turnedNew (t' := tks) (ch := [z, TI, TO, i1, i2]) (fun cc o hbb q => (sbut.2 cc (fun q' => hbb (by simp [q']))).trans (hkp cc o (fun q' => hbb (by simp [q'])) (fun q' => hbb (by simp [q'])) (fun q' => hbb (by simp [q'])) (fun q' => hbb (by simp [q'])) q)) hfr (Nat.le_refl _) fresh
    refine ⟨.ref s0.heap.objs.size, _, inv1, rfl, ⟨_, x, y, rfl, inv.hok.fresh (Nat.le_refl _), rfl, fun l hl => by rw [Sr.inj inv hl hqa]; exact hxa, fun l hl => by rw [Sr.inj inv hl hqb]; exact hyb⟩, ⟨z'', ?_, ⟨u, u2, ?_⟩, ?_, ?_⟩, fun cc hcm => ?_⟩
    · exact (sbut.2 _ D.TIz).trans (hkp _ _ D.TIz D.TITO D.TIi1 D.TIi2 hIn)
    · exact (sbut.2 _ D.TOz).trans TO'
    · exact Sr.ati_frame (a1 _ _ h1') fun o q => (sbut.2 _ D.zi1.symm).trans q
    · exact Sr.ati_frame (a2 _ _ h2') fun o q => (sbut.2 _ D.zi2.symm).trans q
    · have hl2 : cc < s0.heap.objs.size := by
        have ea : cc = z ∨ cc = TI ∨ cc = TO ∨ cc = i1 ∨ cc = i2 := by simpa using hcm
        rcases ea with q | q | q | q | q
        · rw [q]; exact hzlt
        · rw [q]; exact Heap.lt_size hIn
        · rw [q]; exact Heap.lt_size hOut
        · rw [q]; obtain ⟨_, e1, _⟩ := Sr.ati_obj ha1; exact Heap.lt_size e1
        · rw [q]; obtain ⟨_, e2, _⟩ := Sr.ati_obj hb1; exact Heap.lt_size e2
      rw [upd_ne (Nat.ne_of_lt hl2)]
      exact (hfr cc hcm).1
  done := by
    intro X hPP hww hKK hc i pin s0 σ H ex inv hfr sta hgo
    subst hPP hww hKK
    obtain ⟨hzz, hIn, ⟨x0, y0, hOut⟩, ha1, hb1⟩ := sta
    obtain ⟨ls, ms, hqa, hqb, hend, le1, le2⟩ := hgo
    have hh : X.A.in1.handled = none := inv.ok.hd hc
    obtain ⟨P1, St1, D1, sa, r1, a1⟩ := Sr.draw inv hh hqa ha1
    obtain ⟨P2, St2, D2, s2, r2, a2⟩ := Sr.draw inv hh hqb hb1
    exact wpAny_pyNext_zipD2_end D D1 D2 hzz hIn hOut sa s2 le1 le2 hend fun h' tks hkp => ⟨rfl, inv.turnedL (t' := tks) (ch := [z, TI, TO, i1, i2]) (fun cc o hbb q =>
      hkp cc o (fun q' => hbb (by simp [q'])) (fun q' => hbb (by simp [q'])) (fun q' => hbb (by simp [q'])) (fun q' => hbb (by simp [q'])) q) hfr⟩
  self := fun A i s0 Q ex sta h => wpAny_pyIter_zip sta.1 h
def iZipG (K : PySem.W.Frag) (ta : TA) : TI := fun σ H R => ta σ H fun wals Ha => ∃ (p q : Sr) (ls ms : List V), wals = [p.val, q.val] ∧ p.has K Ha ls ∧ q.has K Ha ms ∧ R (ItG K p q) Ha
theorem pi_zipG {X : Cx} {e e2 : Expr} {ta : TA} {pz pos tpos : Pos} {elts : List Expr} {kk : Nat} (hgo : Gl X "zip") (hm : X.mg "zip" = none) (ha : PA X [e, e2] ta)
    (hs : starEach [e, e2] X.env = (false, eval e X.env) :: starEach [e2] X.env := by rfl) (hpl : (backTo pos (starEach [e2] X.env)).any (·.1) = false := by rfl) :
    PI X (.Tuple elts kk tpos) (.Call (.Name "zip" pz) [e, e2] [] pos) (iZipG X.K ta) := by
  refine ⟨fun pin s0 σ H R inv h => ?_⟩
  refine Call_ (ld_blt inv hgo hm PyProof.Rows.boot_zip (PyProof.Rows.callWith_type1 (thn (ha.run pos pin s0 σ H _ inv h) fun args sa ⟨wals, Ha, inv1, r1, qa⟩ => ?_) hs hpl))
  obtain ⟨p, q, ls, ms, ex, hqa, hqb, qR⟩ := qa
  subst ex
  cases r1 with
  | cons r rr =>
    cases rr with
    | cons r' rr =>
      cases rr
      obtain ⟨o1, Q1, B1, qa, at1, lt1⟩ := Sr.begin inv1 hqa r
      obtain ⟨o2, Q2, B2, q2, at2, lt2⟩ := Sr.begin inv1 hqb r'
      refine zip_begins2 B1 B2 qa q2 fun h' hzz hIn hOut g1 g2 hsz hkp => wpAny_pyIter_zip hzz ?_
      have inv2 : Inv X pin σ Ha { sa with heap := h' } := inv1.kept (t' := sa.toks) hkp
      have sep := zip_sep2 (N := sa.heap.objs.size) lt1 lt2
      refine ⟨sa.heap.objs.size + 4, [sa.heap.objs.size + 4, sa.heap.objs.size + 2, sa.heap.objs.size + 3, sa.heap.objs.size, sa.heap.objs.size + 1], _, _, Ha, rfl, inv2, turn_zipG sep, ⟨hzz, hIn, ⟨_, _, hOut⟩, at1 _ _ g1, at2 _ _ g2⟩, fun cc hcm => ?_, qR⟩
      have ea : cc = sa.heap.objs.size + 4 ∨ cc = sa.heap.objs.size + 2 ∨ cc = sa.heap.objs.size + 3 ∨ cc = sa.heap.objs.size ∨ cc = sa.heap.objs.size + 1 := by simpa using hcm
      have hge : sa.heap.objs.size ≤ cc := by
        rcases ea with z | z | z | z | z
        · rw [z]; exact Nat.le_add_right _ _
        · rw [z]; exact Nat.le_add_right _ _
        · rw [z]; exact Nat.le_add_right _ _
        · rw [z]; exact Nat.le_refl _
        · rw [z]; exact Nat.le_add_right _ _
      exact inv1.fpOk hge (inv1.hok.fresh hge)
theorem walk_zipG {K : PySem.W.Frag} {p q : Sr} {ls ms : List V} {n : Nat} (ha1 : ls.length = n) (hb1 : ms.length = n) : Walk (ItG K p q) n (fun H => p.has K H ls ∧ q.has K H ms) (YPair (fun i => ls[i]?) (fun i => ms[i]?)) := by
  refine ⟨fun i _ hi q => ?_, fun _ q => ⟨ls, ms, q.1, q.2, .inl ha1.symm, by omega, by omega⟩, fun i H v H' _ q y => ?_⟩
  · have ha1 : i < ls.length := by omega
    have hb1 : i < ms.length := by omega
    exact ⟨ls, ms, ls[i], ms[i], q.1, q.2, by simp [ha1], by simp [hb1]⟩
  · obtain ⟨T, x, z, ha1, hb1, h3, h4, h5⟩ := y
    exact ⟨T, x, z, ha1, hb1, h3, h4 ls q.1, h5 ms q.2⟩
/-! ### enumerate -/
set_option maxHeartbeats 1000000 in
theorem meets_enumerate_newG {v : Value} {o : Obj} {H : Heap → Prop} (B : Begins v o H) :
    Meets (Builtin.«enumerate.__new__» ⟨[.type "enumerate", v], []⟩) (fun _ R s0 => H s0.heap ∧
      R (.ok (.ret (.ref (s0.heap.push o).objs.size))) { s0 with heap := (s0.heap.push o).push { cls := .type "enumerate", data := .fields #[.none, .bool false, .ref s0.heap.objs.size, rawInt 0, .none, .none] } }) :=
  .of_wp fun prog w A R s0 h => by
    obtain ⟨hpp, gg, dd, tks, oss⟩ := s0; obtain ⟨ha1, h⟩ := h
    have hsub := sub_enumerate
    have qa : ∀ {A' : Around} {ex : Value → Shared → Prop} {Q : Value → Shared → Prop}, Q (.ref hpp.objs.size) ⟨hpp.push o, gg, dd, tks, oss⟩ → wpAny (model prog w) A' (pyIter v) Q ex ⟨hpp, gg, dd, tks, oss⟩ :=
      fun q => B.iter prog w _ _ ⟨hpp, gg, dd, tks, oss⟩ _ ha1 q
    wp_walk using qa
    refine wpAny_stack_any fun sta => wpAny_pure ?_
    split
    · rename_i cc _ _ _ _ _
      cases (cc == Value.type "enumerate")
      · wp_walk using qa
        exact ⟨_, rfl, h⟩
      · wp_walk using qa
        exact ⟨_, rfl, h⟩
    · wp_walk using qa
      exact ⟨_, rfl, h⟩
section
variable {prog : Program} {w : World} {A : Around} {ex : Value → Shared → Prop} {s0 : Shared}
theorem enum_beginsG {v : Value} {o : Obj} {H : Heap → Prop} {Q : Value → Shared → Prop} (B : Begins v o H) (ha1 : H s0.heap)
    (h : ∀ h', IsEnum h' (s0.heap.objs.size + 1) s0.heap.objs.size 0 .none → h'.get? s0.heap.objs.size = some o → h'.objs.size = s0.heap.objs.size + 2 →
      (∀ b o, s0.heap.get? b = some o → h'.get? b = some o) → Q (.ref (s0.heap.objs.size + 1)) { s0 with heap := h' }) :
    wpAny (model prog w) A (call (.type "enumerate") [v]) Q ex s0 := by
  refine callType_new F.called_enumerate (by decide) (F.typeCall_enumerate_1 _) (F.newCall_enumerate_1 _) (fun obj => F.args_object_init_2 obj _) F.entry_enumerate_new
    (meets_enumerate_newG B) ⟨ha1, ?_⟩
  have hzz : (s0.heap.push o).objs.size = s0.heap.objs.size + 1 := Heap.size_push ..
  show _ ∧ _
  rw [hzz]
  have hen : IsEnum ((s0.heap.push o).push { cls := .type "enumerate", data := .fields #[.none, .bool false, .ref s0.heap.objs.size, rawInt 0, .none, .none] }) (s0.heap.objs.size + 1) s0.heap.objs.size 0 .none := by
    have := Heap.get?_push_size (s0.heap.push o) (o := { cls := .type "enumerate", data := .fields #[.none, .bool false, .ref s0.heap.objs.size, rawInt 0, .none, .none] }) rfl
    rw [hzz] at this; exact this
  refine ⟨⟨_, hen, rfl⟩, h _ hen (Heap.get?_push_of_some _ (Heap.get?_push_size _ B.free)) (by rw [Heap.size_push, hzz]) fun b o x => Heap.get?_push_of_some _ (Heap.get?_push_of_some _ x)⟩
end
/-- each item with its place -/
def ItE (K : PySem.W.Frag) (p : Sr) : It :=
  ⟨fun i H => ∃ (ls : List V) (x : V), p.has K H ls ∧ ls[i]? = some x, fun i H v H' => ∃ T x, v = .ref T ∧ H T = none ∧ H' = upd H T (.tup [.int (i : Nat), x]) ∧ ∀ ls, p.has K H ls → ls[i]? = some x, fun i H => ∃ ls : List V, p.has K H ls ∧ i = ls.length⟩
theorem turn_enumG {P : Program} {w : World} {K : PySem.W.Frag} {elts : List Expr} {kk : Nat} {tpos : Pos} (p : Sr) (e it : Addr) (hef : e ∉ it :: p.adr) :
    Turn P w K (.Tuple elts kk tpos) (ItE K p) [e, it] e (fun i h => (∃ old, IsEnum h e it ((i : Nat) : Int) old) ∧ p.ati h it i) where
  mem := by simp
  obj := fun i h sta b hbb => by
    obtain ⟨⟨old, hen⟩, hi⟩ := sta
    have ea : b = e ∨ b = it := by simpa using hbb
    rcases ea with z | z
    · rw [z]; exact ⟨_, hen, fun v q => nomatch q⟩
    · rw [z]; exact Sr.ati_obj hi
  keep := fun i h h' sta k => let ⟨⟨old, hen⟩, hi⟩ := sta; ⟨⟨old, k e (by simp) _ hen⟩, Sr.ati_frame hi fun o q => k it (by simp) o q⟩
  item := by
    intro X hPP hww hKK hc i pin s0 σ H ex inv hfr sta hgo
    subst hPP hww hKK
    obtain ⟨⟨old, hen⟩, hit⟩ := sta
    obtain ⟨ls, x, hq, hxa⟩ := hgo
    have hne : e ≠ it := fun q => hef (by rw [q]; exact List.mem_cons_self)
    have hh : X.A.in1.handled = none := inv.ok.hd hc
    obtain ⟨P1, St1, D1, sa, r1, a1⟩ := Sr.draw inv hh hq hit
    have l1 := (List.getElem?_eq_some_iff.mp hxa).1
    have helt : e < s0.heap.objs.size := Heap.lt_size hen
    have hil : it < s0.heap.objs.size := by obtain ⟨_, q, _⟩ := Sr.ati_obj hit; exact Heap.lt_size q
    refine wpAny_pyNext_enum_itemD D1 hen sa l1 hne hef fun u h' tks y1 ho hit' hT hsz hkp => ?_
    obtain ⟨x', ex, ra⟩ := r1 _ _ y1
    rw [hxa] at ex; cases ex
    refine ⟨_, rfl, wpAny_letOwnedTupleGo_enum (s := { s0 with heap := h', toks := tks + 1 }) ho fun h'' he' sbut => ?_⟩
    have hT2 : h''.get? s0.heap.objs.size = some { cls := .type "tuple", data := .seq #[.int i tks, u] } := (sbut.2 _ (Nat.ne_of_gt helt)).trans hT
    have fresh : ObjOk X.prog X.w (upd H s0.heap.objs.size (.tup [.int (i : Nat), x])) h'' s0.heap.objs.size (.tup [.int (i : Nat), x]) :=
      ⟨by show 2 ≤ sizeLine; decide, [.int i tks, u], .cons ⟨_, rfl⟩ (.cons ra .nil), ⟨_, hT2, rfl, _, rfl⟩⟩
    have inv1 : Inv X pin σ (upd H s0.heap.objs.size (.tup [.int (i : Nat), x])) { s0 with heap := h'', toks := tks + 1 } :=
      inv.turnedNew (ch := [e, it]) (fun b ob hbb q => (sbut.2 b (fun z => hbb (by simp [z]))).trans (hkp b ob (fun z => hbb (by simp [z])) (fun z => hbb (by simp [z])) q)) hfr (Nat.le_refl _) fresh
    refine ⟨.ref s0.heap.objs.size, _, inv1, rfl, ⟨_, x, rfl, inv.hok.fresh (Nat.le_refl _), rfl, fun ms hyb => by rw [Sr.inj inv hyb hq]; exact hxa⟩, ⟨⟨u, ?_⟩, Sr.ati_frame (a1 _ _ hit') fun o q => (sbut.2 it (Ne.symm hne)).trans q⟩, fun b hbb => ?_⟩
    · have e1 : ((i + 1 : Nat) : Int) = (i : Int) + 1 := by omega
      rw [e1]; exact he'
    · have hbl : b < s0.heap.objs.size := by
        have ea : b = e ∨ b = it := by simpa using hbb
        rcases ea with z | z
        · rw [z]; exact helt
        · rw [z]; exact hil
      rw [upd_ne (Nat.ne_of_lt hbl)]
      exact (hfr b hbb).1
  done := by
    intro X hPP hww hKK hc i pin s0 σ H ex inv hfr sta hgo
    subst hPP hww hKK
    obtain ⟨⟨old, hen⟩, hit⟩ := sta
    obtain ⟨ls, hq, hxa⟩ := hgo
    have hh : X.A.in1.handled = none := inv.ok.hd hc
    obtain ⟨P1, St1, D1, sa, r1, a1⟩ := Sr.draw inv hh hq hit
    subst hxa
    obtain ⟨g0, f1, f2, f3, f4, f5⟩ := hfr it (by simp)
    exact wpAny_pyNext_enum_endD D1 hen sa fun h' eb => ⟨rfl, inv.turned (t' := s0.toks) (fun b o hbb q => eb b o hbb q) g0 f1 f3 f4 f5⟩
  self := fun A i s0 Q ex sta h => let ⟨⟨_, hen⟩, _⟩ := sta; wpAny_pyIter_enum hen h
def iEnumG (K : PySem.W.Frag) (ta : TA) : TI := fun σ H R => ta σ H fun wals Ha => ∃ (p : Sr) (ls : List V), wals = [p.val] ∧ p.has K Ha ls ∧ R (ItE K p) Ha
theorem pi_enumG {X : Cx} {e : Expr} {ta : TA} {pe pos tpos : Pos} {elts : List Expr} {kk : Nat} (hgo : Gl X "enumerate") (hm : X.mg "enumerate" = none) (ha : PA X [e] ta) (hs : starEach [e] X.env = [(false, eval e X.env)] := by rfl) :
    PI X (.Tuple elts kk tpos) (.Call (.Name "enumerate" pe) [e] [] pos) (iEnumG X.K ta) := by
  refine ⟨fun pin s0 σ H R inv h => ?_⟩
  refine Call_ (ld_blt inv hgo hm boot_enumerate (PyProof.Rows.callWith_type1 (thn (ha.run pos pin s0 σ H _ inv h) fun args sa ⟨wals, Ha, inv1, r1, qa⟩ => ?_) hs rfl))
  obtain ⟨p, ls, ex, hq, q⟩ := qa
  subst ex
  cases r1 with
  | cons r rr =>
    cases rr
    obtain ⟨o1, Q1, B1, qa, at1, lt1⟩ := Sr.begin inv1 hq r
    refine enum_beginsG B1 qa fun h' hen g1 hsz hkp => wpAny_pyIter_enum hen ?_
    have inv2 : Inv X pin σ Ha { sa with heap := h' } := inv1.kept (t' := sa.toks) hkp
    have nf : sa.heap.objs.size + 1 ∉ sa.heap.objs.size :: p.adr := fun hm => by
      rcases List.mem_cons.mp hm with e | hm
      · exact absurd e (Nat.succ_ne_self _)
      · exact absurd (lt1 _ hm) (Nat.not_lt_of_le (Nat.le_succ _))
    refine ⟨sa.heap.objs.size + 1, [sa.heap.objs.size + 1, sa.heap.objs.size], _, _, Ha, rfl, inv2, turn_enumG p (sa.heap.objs.size + 1) sa.heap.objs.size nf, ⟨⟨.none, hen⟩, at1 _ _ g1⟩, fun b hbb => ?_, q⟩
    have ea : b = sa.heap.objs.size + 1 ∨ b = sa.heap.objs.size := by simpa using hbb
    have hge : sa.heap.objs.size ≤ b := by
      rcases ea with z | z
      · rw [z]; exact Nat.le_add_right _ _
      · rw [z]; exact Nat.le_refl _
    exact inv1.fpOk hge (inv1.hok.fresh hge)
theorem walk_enumG {K : PySem.W.Frag} {p : Sr} {ls : List V} {n : Nat} (hn : ls.length = n) : Walk (ItE K p) n (fun H => p.has K H ls) (YPair (fun i => some (.int (i : Nat))) (fun i => ls[i]?)) := by
  refine ⟨fun i _ hi q => ⟨ls, ls[i], q, by simp [show i < ls.length by omega]⟩, fun _ q => ⟨ls, q, hn.symm⟩, fun i H v H' _ q y => ?_⟩
  obtain ⟨T, x, ha1, hb1, h3, h4⟩ := y
  exact ⟨T, .int (i : Nat), x, ha1, hb1, h3, rfl, h4 ls q⟩
end G3
-- WBase
set_option Elab.async false
set_option linter.all false
set_option maxRecDepth 100000
set_option maxHeartbeats 4000000
/-! The text by places, what its top has written, the data in the heap. -/
namespace G3
open PySem PySem.Spec PyProof.Rows L2
/-! ### the text by places -/
def top (i : Nat) : Stmt := PySem.Challenge.pw_costpapers_k06_whole_live_ones.main.body.getD i (.Pass ⟨0, 0, 0, 0⟩)
abbrev FnP (K : PySem.W.Frag) (x qual : Str) (st : Stmt) (f : Addr) (fd : FuncData) : Prop := FunD K x qual (defArgs st) (defBody st) (defScope st) [] [] f fd
/-- a def of the module -/
def DefAt (K : PySem.W.Frag) (mg : Str → Option Value) (x : Str) (st : Stmt) (ps : List Str) : Prop := ∃ f fd, mg x = some (.ref f) ∧ FnP K x x st f fd ∧ Binds K fd ps []
/-- a method of the class at C -/
def MethAt (K : PySem.W.Frag) (C : Addr) (m qual : Str) (st : Stmt) (ps : List Str) : Prop := ∃ f fd, Meth K C m f ∧ FnP K m qual st f fd ∧ Binds K fd ps []
/-- a def that keeps its promise -/
def Has (P : Program) (w : World) (K : PySem.W.Frag) (mg : Str → Option Value) (base : Heap) (CX : CXT) (x : Str) (k : Nat) (ps : List Str) (sp : Sp) : Prop :=
  ∃ f fd, mg x = some (.ref f) ∧ PySem.W.keepIn K (.ref f) = true ∧ Binds K fd ps [] ∧ FnOk P w K mg base CX k f fd ps sp
def HasM (P : Program) (w : World) (K : PySem.W.Frag) (mg : Str → Option Value) (base : Heap) (CX : CXT) (C : Addr) (m : Str) (k : Nat) (ps : List Str) (sp : Sp) : Prop :=
  ∃ f fd, Meth K C m f ∧ Binds K fd ps [] ∧ FnOk P w K mg base CX k f fd ps sp
abbrev s_is_int : Stmt := top 7
abbrev s_divisor : Stmt := top 8
abbrev s_ratio : Stmt := top 9
abbrev s_is_ratio : Stmt := top 10
abbrev s_dot : Stmt := top 11
abbrev s_is_small : Stmt := top 19
abbrev s_is_row : Stmt := top 20
abbrev s_need_task : Stmt := top 21
abbrev s_need_plan : Stmt := top 22
abbrev s_need_paper : Stmt := top 23
abbrev s_turned_row : Stmt := top 24
abbrev s_plain_of : Stmt := top 25
abbrev s_need_index : Stmt := top 26
abbrev s_need_column : Stmt := top 27
abbrev s_spread : Stmt := top 29
abbrev s_gathered : Stmt := top 30
abbrev s_solved : Stmt := top 31
abbrev s_signed : Stmt := top 32
abbrev s_best_cost_of : Stmt := top 33
abbrev s_best_cost : Stmt := top 34
abbrev s_some_plan : Stmt := top 35
abbrev s_some_paper : Stmt := top 36
abbrev s_other_of : Stmt := top 38
abbrev s_kept : Stmt := top 39
abbrev s_priced : Stmt := top 40
abbrev s_unit : Stmt := top 41
abbrev s_best_face : Stmt := top 42
abbrev s_paper_face : Stmt := top 43
abbrev s_span_of : Stmt := top 44
abbrev s_best_range : Stmt := top 45
abbrev s_paper_range : Stmt := top 46
abbrev s_negative : Stmt := top 47
abbrev s_live_columns : Stmt := top 48
abbrev s_dear_columns : Stmt := top 49
abbrev s_loose_rows : Stmt := top 50
abbrev s_paid_rows : Stmt := top 51
abbrev s_spare : Stmt := top 52
abbrev s_fits_together : Stmt := top 53
abbrev s_law_taken : Stmt := top 55
abbrev s_law_is : Stmt := top 56
abbrev s_law_ratio : Stmt := top 57
abbrev s_law_plus : Stmt := top 58
abbrev s_law_sum : Stmt := top 59
abbrev s_law_task : Stmt := top 60
abbrev s_law : Stmt := top 61
abbrev sG_init : Stmt := inClass (top 13) 0
abbrev sG_price : Stmt := inClass (top 13) 1
abbrev sG_turn : Stmt := inClass (top 13) 2
abbrev sG_swept : Stmt := inClass (top 13) 3
abbrev sG_goes_out : Stmt := inClass (top 13) 4
abbrev sG_is_less : Stmt := inClass (top 13) 5
abbrev sG_settle : Stmt := inClass (top 13) 6
abbrev sG_amounts : Stmt := inClass (top 13) 7
abbrev sG_weights : Stmt := inClass (top 13) 8
abbrev sG_drive_out : Stmt := inClass (top 13) 9
abbrev sG_way : Stmt := inClass (top 13) 10
/-- what the top has written: C the grid's class, CN the class of the one error that is raised -/
structure Txt (K : PySem.W.Frag) (mg : Str → Option Value) (C CN : Addr) : Prop where
  b_len : mg "len" = none
  b_abs : mg "abs" = none
  b_max : mg "max" = none
  b_sum : mg "sum" = none
  b_all : mg "all" = none
  b_any : mg "any" = none
  b_sorted : mg "sorted" = none
  b_int : mg "int" = none
  b_tuple : mg "tuple" = none
  b_list : mg "list" = none
  b_isinstance : mg "isinstance" = none
  b_bool : mg "bool" = none
  b_str : mg "str" = none
  b_range : mg "range" = none
  b_zip : mg "zip" = none
  b_enumerate : mg "enumerate" = none
  MOST_COLUMNS : ∃ t, mg "MOST_COLUMNS" = some (.int 6 t)
  MOST_ROWS : ∃ t, mg "MOST_ROWS" = some (.int 8 t)
  MOST_VALUE : ∃ t, mg "MOST_VALUE" = some (.int 1000 t)
  SIGNS : ∃ a, mg "SIGNS" = some (.ref a) ∧ ∀ H : Hp, SqT K H a [.str ">=", .str "<=", .str "="]
  g_Grid : mg "Grid" = some (.ref C)
  c_Grid : Cls K C
  M_init : ∃ f fd, Mk K C f ∧ FnP K "__init__" "Grid.__init__" sG_init f fd ∧ Binds K fd ["self", "rows", "rights", "many"] []
  n_signs : NoAttr K C "signs"
  n_many : NoAttr K C "many"
  n_rows : NoAttr K C "rows"
  n_inside : NoAttr K C "inside"
  n_low : NoAttr K C "low"
  n_top : NoAttr K C "top"
  m_price : MethAt K C "price" "Grid.price" sG_price ["self", "costs"]
  m_turn : MethAt K C "turn" "Grid.turn" sG_turn ["self", "index", "column"]
  m_swept : MethAt K C "swept" "Grid.swept" sG_swept ["self", "told", "row", "pivot", "weight"]
  m_goes_out : MethAt K C "goes_out" "Grid.goes_out" sG_goes_out ["self", "column"]
  m_is_less : MethAt K C "is_less" "Grid.is_less" sG_is_less ["self", "one", "other"]
  m_settle : MethAt K C "settle" "Grid.settle" sG_settle ["self", "allowed"]
  m_amounts : MethAt K C "amounts" "Grid.amounts" sG_amounts ["self"]
  m_weights : MethAt K C "weights" "Grid.weights" sG_weights ["self", "own"]
  m_drive_out : MethAt K C "drive_out" "Grid.drive_out" sG_drive_out ["self"]
  m_way : MethAt K C "way" "Grid.way" sG_way ["self", "column"]
  g_NotBest : mg "NotBest" = some (.ref CN)
  x_NotBest : PySem.W.excIn K CN [.type "ValueError", .type "Exception", .type "BaseException", .type "object"] "ValueError.__new__" = true
  k_NotBest : PySem.W.keepIn K (.ref CN) = true
  s_NotBest : PySem.W.subIn K (.ref CN) (.type "BaseException") = some true
  t_NotBest : PySem.W.typeIn K (.ref CN) = some (.type "type")
  e_NotBest : PySem.W.exmOne K (.ref CN) (.ref CN) = some true
  d_is_int : DefAt K mg "is_int" s_is_int ["value"]
  d_divisor : DefAt K mg "divisor" s_divisor ["one", "other"]
  d_ratio : DefAt K mg "ratio" s_ratio ["top", "low"]
  d_is_ratio : DefAt K mg "is_ratio" s_is_ratio ["value"]
  d_dot : DefAt K mg "dot" s_dot ["numbers", "plan"]
  d_is_small : DefAt K mg "is_small" s_is_small ["value"]
  d_is_row : DefAt K mg "is_row" s_is_row ["value", "many"]
  d_need_task : DefAt K mg "need_task" s_need_task ["value"]
  d_need_plan : DefAt K mg "need_plan" s_need_plan ["task", "value"]
  d_need_paper : DefAt K mg "need_paper" s_need_paper ["task", "value"]
  d_turned_row : DefAt K mg "turned_row" s_turned_row ["row"]
  d_plain_of : DefAt K mg "plain_of" s_plain_of ["task"]
  d_need_index : DefAt K mg "need_index" s_need_index ["task", "value"]
  d_need_column : DefAt K mg "need_column" s_need_column ["task", "value"]
  d_spread : DefAt K mg "spread" s_spread ["task"]
  d_gathered : DefAt K mg "gathered" s_gathered ["kinds", "values"]
  d_solved : DefAt K mg "solved" s_solved ["task"]
  d_signed : DefAt K mg "signed" s_signed ["task", "weights"]
  d_best_cost_of : DefAt K mg "best_cost_of" s_best_cost_of ["task"]
  d_best_cost : DefAt K mg "best_cost" s_best_cost ["task"]
  d_some_plan : DefAt K mg "some_plan" s_some_plan ["task"]
  d_some_paper : DefAt K mg "some_paper" s_some_paper ["task"]
  d_other_of : DefAt K mg "other_of" s_other_of ["task"]
  d_kept : DefAt K mg "kept" s_kept ["task", "value"]
  d_priced : DefAt K mg "priced" s_priced ["task", "costs"]
  d_unit : DefAt K mg "unit" s_unit ["many", "at", "sign"]
  d_best_face : DefAt K mg "best_face" s_best_face ["task"]
  d_paper_face : DefAt K mg "paper_face" s_paper_face ["task"]
  d_span_of : DefAt K mg "span_of" s_span_of ["task", "costs"]
  d_best_range : DefAt K mg "best_range" s_best_range ["task", "column"]
  d_paper_range : DefAt K mg "paper_range" s_paper_range ["task", "index"]
  d_negative : DefAt K mg "negative" s_negative ["one"]
  d_live_columns : DefAt K mg "live_columns" s_live_columns ["task"]
  d_dear_columns : DefAt K mg "dear_columns" s_dear_columns ["task"]
  d_loose_rows : DefAt K mg "loose_rows" s_loose_rows ["task"]
  d_paid_rows : DefAt K mg "paid_rows" s_paid_rows ["task"]
  d_spare : DefAt K mg "spare" s_spare ["task", "plan"]
  d_fits_together : DefAt K mg "fits_together" s_fits_together ["task", "plan", "paper"]
  d_law_taken : DefAt K mg "_law_taken" s_law_taken ["_law_row", "_law_many"]
  d_law_is : DefAt K mg "_law_is" s_law_is ["_law_found", "_law_due"]
  d_law_ratio : DefAt K mg "_law_ratio" s_law_ratio ["_law_top", "_law_low"]
  d_law_plus : DefAt K mg "_law_plus" s_law_plus ["_law_one", "_law_other"]
  d_law_sum : DefAt K mg "_law_sum" s_law_sum ["_law_numbers", "_law_plan"]
  d_law_task : DefAt K mg "_law_task" s_law_task ["_law_row", "_law_columns", "_law_rows", "_law_value"]
/-! ### heaps that keep the tuples -/
structure Tp (H H' : Hp) : Prop where
  tup : ∀ b xs, H b = some (.tup xs) → H' b = some (.tup xs)
  frz : ∀ b o u, H b = some (.frz o u) → H' b = some (.frz o u)
theorem _root_.L2.Same.tp {H H' : Hp} (s : Same H H') : Tp H H' := ⟨fun b xs h => s b _ h, fun b o u h => s b _ h⟩
theorem Tp.refl (H : Hp) : Tp H H := ⟨fun _ _ h => h, fun _ _ _ h => h⟩
theorem Tp.trans {H H1 H2 : Hp} (a : Tp H H1) (b : Tp H1 H2) : Tp H H2 := ⟨fun c xs h => b.tup c xs (a.tup c xs h), fun c o u h => b.frz c o u (a.frz c o u h)⟩
theorem Tp.seq {K : PySem.W.Frag} {H H' : Hp} (t : Tp H H') {a : Addr} {xs : List V} (h : SqT K H a xs) : SqT K H' a xs := by
  rcases h with (h | ⟨o, h⟩) | h
  · exact .inl (.inl (t.tup _ _ h))
  · exact .inl (.inr ⟨o, t.frz _ _ _ h⟩)
  · exact .inr h
theorem Tp.updL {H : Hp} {a : Addr} {xs ys : List V} (h : H a = some (.lst xs)) : Tp H (upd H a (.lst ys)) :=
  ⟨fun b zs e => by rw [upd_ne (ne_of e h (by intro q; cases q))]; exact e, fun b o u e => by rw [upd_ne (ne_of e h (by intro q; cases q))]; exact e⟩
theorem Tp.updI {H : Hp} {a C dx : Addr} {fs gs : List (Str × V)} (h : H a = some (.ins C dx fs)) : Tp H (upd H a (.ins C dx gs)) :=
  ⟨fun b zs e => by rw [upd_ne (ne_of e h (by intro q; cases q))]; exact e, fun b o u e => by rw [upd_ne (ne_of e h (by intro q; cases q))]; exact e⟩
theorem _root_.L2.Same.new {H : Hp} {p : Addr} {o : HO} (h : H p = none) : Same H (upd H p o) := fun a u e => by
  rw [upd_ne (ne_of_none e h)]; exact e
theorem _root_.L2.Same.tup {K : PySem.W.Frag} {H H' : Hp} (s : Same H H') {a : Addr} {xs : List V} (h : SqT K H a xs) : SqT K H' a xs := s.tp.seq h
theorem _root_.L2.Same.mut {H H' : Hp} {p : Addr} {o : HO} (e : Same H H') (h : H p = none) : Same H (upd H' p o) := fun a u ha => by
  rw [upd_ne (ne_of_none ha h)]; exact e a u ha
theorem _root_.L2.Same.back {H H' : Hp} {p : Addr} (e : Same H H') (h : H' p = none) : H p = none := e.free h
/-! ### data -/
/-- n iv -/
def iv (n : Nat) (f : Nat → Int) : List V := (List.range n).map fun i => V.int (f i)
theorem iv_len (n : Nat) (f : Nat → Int) : (iv n f).length = n := by simp [iv]
theorem iv_get {n : Nat} {f : Nat → Int} {i : Nat} (h : i < n) : (iv n f)[i]? = some (.int (f i)) := by simp [iv, h]
theorem iv_of {n : Nat} {f : Nat → Int} {i : Nat} {x : V} (h : (iv n f)[i]? = some x) : i < n ∧ x = .int (f i) := by
  have hi : i < n := by
    have := (List.getElem?_eq_some_iff.mp h).1
    rwa [iv_len] at this
  rw [iv_get hi] at h
  exact ⟨hi, (Option.some.inj h).symm⟩
theorem iv_congr {n : Nat} {f g : Nat → Int} (h : ∀ i, i < n → f i = g i) : iv n f = iv n g := by
  unfold iv
  refine List.map_congr_left fun i hi => ?_
  rw [h i (List.mem_range.mp hi)]
theorem iv_map (n : Nat) (f : Nat → Int) : iv n f = ((List.range n).map f).map V.int := by unfold iv; rw [List.map_map]; rfl
/-- a list of n values known to be iv -/
theorem iv_eq {n : Nat} {f : Nat → Int} {xs : List V} (hl : xs.length = n) (h : ∀ i, i < n → xs[i]? = some (.int (f i))) : xs = iv n f := by
  apply List.ext_getElem?
  intro i
  by_cases hi : i < n
  · rw [h i hi, iv_get hi]
  · rw [List.getElem?_eq_none (by omega), List.getElem?_eq_none (by rw [iv_len]; omega)]
theorem iv_append (n m : Nat) (f g : Nat → Int) : iv n f ++ iv m g = iv (n + m) (fun i => if i < n then f i else g (i - n)) := by
  refine iv_eq (by rw [List.length_append, iv_len, iv_len]) fun i hi => ?_
  by_cases c : i < n
  · rw [List.getElem?_append_left (by rw [iv_len]; exact c), iv_get c, if_pos c]
  · rw [List.getElem?_append_right (by rw [iv_len]; omega), iv_len, iv_get (by omega), if_neg c]
theorem iv_snoc (n : Nat) (f : Nat → Int) : iv (n + 1) f = iv n f ++ [.int (f n)] := by
  unfold iv; rw [List.range_succ, List.map_append]; rfl
theorem iv_one (i : Int) : [V.int i] = iv 1 (fun _ => i) := rfl
/-- a ratio -/
def Rt (K : PySem.W.Frag) (H : Hp) (v : V) (q : Rat) : Prop := ∃ a, v = .ref a ∧ SqT K H a [.int q.num, .int (q.den : Int)]
/-- a ratio or None -/
def Ro (K : PySem.W.Frag) (H : Hp) (v : V) : Option Rat → Prop
  | none => v = .non
  | some q => Rt K H v q
/-- n ratios in a tuple; in a list -/
def RsL (K : PySem.W.Frag) (H : Hp) (vs : List V) (n : Nat) (x : Nat → Rat) : Prop := vs.length = n ∧ ∀ i, i < n → ∃ u, vs[i]? = some u ∧ Rt K H u (x i)
def Rts (K : PySem.W.Frag) (H : Hp) (v : V) (n : Nat) (x : Nat → Rat) : Prop := ∃ a vs, v = .ref a ∧ SqT K H a vs ∧ RsL K H vs n x
def sgS : K6.Sg → Str
  | .ge => ">="
  | .le => "<="
  | .eq => "="
/-- a row of k numbers -/
def Rw (K : PySem.W.Frag) (H : Hp) (v : V) (k : Nat) (A : Nat → Int) (sg : K6.Sg) (b : Int) : Prop := ∃ a c, v = .ref a ∧ SqT K H a [.ref c, .str (sgS sg), .int b] ∧ SqT K H c (iv k A)
def kindsS (k : Nat) (plus : Nat → Bool) : Str := ⟨((List.range k).map fun j => if plus j = true then 43 else 42).toArray⟩
def RowsL (K : PySem.W.Frag) (H : Hp) (vs : List V) (t : K6.Task) : Prop := vs.length = t.m ∧ ∀ i, i < t.m → ∃ u, vs[i]? = some u ∧ Rw K H u t.k (t.A i) (t.sg i) (t.b i)
structure TkA (K : PySem.W.Frag) (H : Hp) (a c r : Addr) (rs : List V) (t : K6.Task) : Prop where
  tk : SqT K H a [.str (kindsS t.k t.plus), .ref c, .ref r]
  cs : SqT K H c (iv t.k t.c)
  rw : SqT K H r rs
  rows : RowsL K H rs t
def Tk (K : PySem.W.Frag) (H : Hp) (v : V) (t : K6.Task) : Prop := ∃ a c r rs, v = .ref a ∧ TkA K H a c r rs t
section
variable {K : PySem.W.Frag} {H H' : Hp} {v : V}
theorem Rt.tp (t : Tp H H') {q : Rat} : Rt K H v q → Rt K H' v q := fun ⟨a, e, h⟩ => ⟨a, e, t.seq h⟩
theorem Ro.tp (t : Tp H H') : ∀ {o : Option Rat}, Ro K H v o → Ro K H' v o
  | none, h => h
  | some _, h => Rt.tp t h
theorem RsL.tp (t : Tp H H') {vs : List V} {n : Nat} {x : Nat → Rat} : RsL K H vs n x → RsL K H' vs n x := fun ⟨l, h⟩ => ⟨l, fun i hi => let ⟨u, e, r⟩ := h i hi; ⟨u, e, r.tp t⟩⟩
theorem Rts.tp (t : Tp H H') {n : Nat} {x : Nat → Rat} : Rts K H v n x → Rts K H' v n x := fun ⟨a, vs, e, h, r⟩ => ⟨a, vs, e, t.seq h, r.tp t⟩
theorem Rw.tp (t : Tp H H') {k : Nat} {A : Nat → Int} {sg : K6.Sg} {b : Int} : Rw K H v k A sg b → Rw K H' v k A sg b := fun ⟨a, c, e, h, h2⟩ => ⟨a, c, e, t.seq h, t.seq h2⟩
theorem RowsL.tp (t : Tp H H') {vs : List V} {T : K6.Task} : RowsL K H vs T → RowsL K H' vs T := fun ⟨l, h⟩ => ⟨l, fun i hi => let ⟨u, e, r⟩ := h i hi; ⟨u, e, r.tp t⟩⟩
theorem TkA.tp (t : Tp H H') {a c r : Addr} {rs : List V} {T : K6.Task} (h : TkA K H a c r rs T) : TkA K H' a c r rs T := ⟨t.seq h.tk, t.seq h.cs, t.seq h.rw, h.rows.tp t⟩
theorem Tk.tp (t : Tp H H') {T : K6.Task} : Tk K H v T → Tk K H' v T := fun ⟨a, c, r, rs, e, h⟩ => ⟨a, c, r, rs, e, h.tp t⟩
end
theorem small {n : Nat} (h : n ≤ 1000) : n ≤ sizeLine := Nat.le_trans h (by decide)
/-! ### rules with the written part told -/
section
variable {X : Cx} {K : PySem.W.Frag}
theorem ixT (hK : X.K = K := by rfl) : IxR X (rIxT K) := hK ▸ ix_tup
theorem ixL (hK : X.K = K := by rfl) : IxR X (rIxL K) := hK ▸ ix_list
theorem inS (hK : X.K = K := by rfl) : OpR X (compareOp .In) (rIn K false) := hK ▸ op_in_seq
theorem fldK {e : Expr} {f : Str} {ta : TE} {pos : Pos} (he : PE X e ta) (hb : attributeBase e f X.env (eval e X.env) = eval e X.env) (hK : X.K = K := by rfl) : PE X (.Attribute e f pos) (tFld K ta f) := hK ▸ pe_fld he hb
def rLenQ (K : PySem.W.Frag) : List V → Hp → VK → Prop := fun xs H Q => ∃ p ys, xs = [.ref p] ∧ (SqL K H p ys ∨ SqT K H p ys) ∧ Q (.int ys.length) H
theorem lenS (hK : X.K = K := by rfl) : CallR X (.builtin "len") (rLenQ K) := hK ▸ call_len_seq
theorem isiK (hK : X.K = K := by rfl) : CallR X (.builtin "isinstance") (rIsi K) := hK ▸ call_isi
end
/-! ### comprehensions -/
section
variable {J : It} {n : Nat} {G : Hp → Prop} {Y : Nat → Hp → V → Hp → Prop} {g : TG} {tt : TT} {te : TE} {vs : List Nat} {σ : L2.St} {H1 : Hp} {D : Addr} {Qd : Hp → Prop}
/-- each turn gives one value, of which Rel tells -/
theorem lc_map (w : Walk J n G Y) (Rel : Nat → V → Hp → Prop) (mono : ∀ j y H H', Tp H H' → Rel j y H → Rel j y H') (hn : n ≤ 1000) (hD : H1 D = none) (hG : ∀ H, Same H1 H → G H)
    (hs : ∀ i x H H' (Qy : V → Hp → Prop) (Qn : Hp → Prop), i < n → Same H1 H → Y i H x H' → (∀ y H4, Same H H4 → Rel i y H4 → Qy y H4) →
      g x (wipe σ vs) H' fun σ2 H2 => wipe σ2 vs = wipe σ vs ∧ tt σ2 H2 fun b H3 => if b = true then te σ2 H3 Qy else Qn H3)
    (hd : ∀ H xs, Same H1 H → H D = some (.lst xs) → xs.length = n → (∀ j, j < n → ∃ y, xs[j]? = some y ∧ Rel j y H) → Qd H) :
    ∃ Wv : Nat → Nat → Hp → Prop, (∃ k0, Wv 0 k0 (upd H1 D (.lst []))) ∧ ∀ i k0 H, Wv i k0 H →
      (J.stop i H ∧ Qd H) ∨ (J.go i H ∧ ∃ Nx : Hp → Prop, (∀ H', Nx H' → ∃ k1, k1 < k0 ∧ Wv (i + 1) k1 H') ∧ ∀ x H', J.yld i H x H' → g x (wipe σ vs) H' fun σ2 H2 => wipe σ2 vs = wipe σ vs ∧ tt σ2 H2 fun b H3 =>
        if b = true then te σ2 H3 fun y H4 => ∃ ac1, H4 D = some (.lst ac1) ∧ ac1.length < sizeLine ∧ Nx (upd H4 D (.lst (ac1 ++ [y]))) else Nx H3) := by
  refine lc_it (Qd := Qd) w (fun i H => Same H1 H ∧ ∃ acc, H D = some (.lst acc) ∧ acc.length = i ∧ ∀ j, j < i → ∃ y, acc[j]? = some y ∧ Rel j y H)
    ⟨fun a o e => by rw [upd_ne (ne_of_none e hD)]; exact e, [], upd_same, rfl, fun j hj => absurd hj (Nat.not_lt_zero j)⟩ (fun i H _ p => hG H p.1) ?_ ?_
  · rintro i x H H' hi ⟨s1, acc, hacc, hl, hrel⟩ hy
    refine hs i x H H' _ _ hi s1 hy ?_
    intro y H4 s4 r4
    have h4 : H4 D = some (.lst acc) := s4 _ _ hacc
    have tp : Tp H4 (upd H4 D (.lst (acc ++ [y]))) := Tp.updL h4
    refine ⟨acc, h4, small1000 (by omega), Same.mut (s1.trans s4) hD, acc ++ [y], upd_same, by simp [hl], fun j hj => ?_⟩
    by_cases c : j < i
    · obtain ⟨z, ez, rz⟩ := hrel j c
      exact ⟨z, by rw [List.getElem?_append_left (by omega)]; exact ez, mono _ _ _ _ tp (mono _ _ _ _ s4.tp rz)⟩
    · have : j = i := by omega
      subst this
      exact ⟨y, by rw [List.getElem?_append_right (by omega), hl]; simp, mono _ _ _ _ tp r4⟩
  · rintro H ⟨s1, acc, hacc, hl, hrel⟩
    exact hd H acc s1 hacc hl hrel
/-- the ints of all turns -/
theorem lc_iv (w : Walk J n G Y) (f : Nat → Int) (hn : n ≤ 1000) (hD : H1 D = none) (hG : ∀ H, Same H1 H → G H)
    (hs : ∀ i x H H' (Qy : V → Hp → Prop) (Qn : Hp → Prop), i < n → Same H1 H → Y i H x H' → (∀ H4, Same H H4 → Qy (.int (f i)) H4) →
      g x (wipe σ vs) H' fun σ2 H2 => wipe σ2 vs = wipe σ vs ∧ tt σ2 H2 fun b H3 => if b = true then te σ2 H3 Qy else Qn H3)
    (hd : ∀ H, Same H1 H → H D = some (.lst (iv n f)) → Qd H) :
    ∃ Wv : Nat → Nat → Hp → Prop, (∃ k0, Wv 0 k0 (upd H1 D (.lst []))) ∧ ∀ i k0 H, Wv i k0 H →
      (J.stop i H ∧ Qd H) ∨ (J.go i H ∧ ∃ Nx : Hp → Prop, (∀ H', Nx H' → ∃ k1, k1 < k0 ∧ Wv (i + 1) k1 H') ∧ ∀ x H', J.yld i H x H' → g x (wipe σ vs) H' fun σ2 H2 => wipe σ2 vs = wipe σ vs ∧ tt σ2 H2 fun b H3 =>
        if b = true then te σ2 H3 fun y H4 => ∃ ac1, H4 D = some (.lst ac1) ∧ ac1.length < sizeLine ∧ Nx (upd H4 D (.lst (ac1 ++ [y]))) else Nx H3) := by
  refine lc_map w (fun j y _ => y = .int (f j)) (fun _ _ _ _ _ h => h) hn hD hG (fun i x H H' Qy Qn hi s1 hy k => hs i x H H' Qy Qn hi s1 hy fun H4 s4 => k _ H4 s4 rfl) fun H xs s1 e hl hr => hd H s1 ?_
  have q : xs = iv n f := iv_eq hl fun i hi => by
    obtain ⟨y, ey, rfl⟩ := hr i hi
    exact ey
  rw [← q]; exact e
/-- the ints of the turns that pass a test -/
theorem lc_filter (w : Walk J n G Y) (f : Nat → Bool) (v : Nat → V) (hn : n ≤ 1000) (hD : H1 D = none) (hG : ∀ H, Same H1 H → G H)
    (hs : ∀ i x H H' (Qy : V → Hp → Prop) (Qn : Hp → Prop), i < n → Same H1 H → Y i H x H' → (f i = true → ∀ H4, Same H H4 → Qy (v i) H4) → (f i = false → ∀ H4, Same H H4 → Qn H4) →
      g x (wipe σ vs) H' fun σ2 H2 => wipe σ2 vs = wipe σ vs ∧ tt σ2 H2 fun b H3 => if b = true then te σ2 H3 Qy else Qn H3)
    (hd : ∀ H, Same H1 H → H D = some (.lst (((List.range n).filter f).map v)) → Qd H) :
    ∃ Wv : Nat → Nat → Hp → Prop, (∃ k0, Wv 0 k0 (upd H1 D (.lst []))) ∧ ∀ i k0 H, Wv i k0 H →
      (J.stop i H ∧ Qd H) ∨ (J.go i H ∧ ∃ Nx : Hp → Prop, (∀ H', Nx H' → ∃ k1, k1 < k0 ∧ Wv (i + 1) k1 H') ∧ ∀ x H', J.yld i H x H' → g x (wipe σ vs) H' fun σ2 H2 => wipe σ2 vs = wipe σ vs ∧ tt σ2 H2 fun b H3 =>
        if b = true then te σ2 H3 fun y H4 => ∃ ac1, H4 D = some (.lst ac1) ∧ ac1.length < sizeLine ∧ Nx (upd H4 D (.lst (ac1 ++ [y]))) else Nx H3) := by
  have gl : ∀ i, (((List.range i).filter f).map v).length ≤ i := fun i => by
    rw [List.length_map]
    have h := List.length_filter_le f (List.range i)
    rwa [List.length_range] at h
  have gy : ∀ i, f i = true → ((List.range (i + 1)).filter f).map v = ((List.range i).filter f).map v ++ [v i] := fun i h => by
    rw [List.range_succ, List.filter_append, List.map_append, List.filter_cons, if_pos h]; rfl
  have gn : ∀ i, f i = false → ((List.range (i + 1)).filter f).map v = ((List.range i).filter f).map v := fun i h => by
    rw [List.range_succ, List.filter_append, List.map_append, List.filter_cons, if_neg (by rw [h]; decide)]
    show _ ++ [] = _
    rw [List.append_nil]
  refine lc_it (Qd := Qd) w (fun i H => Same H1 H ∧ H D = some (.lst (((List.range i).filter f).map v)))
    ⟨fun a o e => by rw [upd_ne (ne_of_none e hD)]; exact e, upd_same⟩ (fun i H _ p => hG H p.1) ?_ ?_
  · rintro i x H H' hi ⟨s1, hacc⟩ hy
    refine hs i x H H' _ _ hi s1 hy ?_ ?_
    · intro hf H4 s4
      refine ⟨_, s4 _ _ hacc, small1000 (by have := gl i; omega), Same.mut (s1.trans s4) hD, ?_⟩
      rw [gy i hf]; exact upd_same
    · intro hf H4 s4
      refine ⟨s1.trans s4, ?_⟩
      rw [gn i hf]; exact s4 _ _ hacc
  · rintro H ⟨s1, hacc⟩
    exact hd H s1 hacc
end
theorem yesI {σ : L2.St} {H : Hp} {A B : Hp → Prop} (h : A H) : tYes σ H (fun b H3 => if b = true then A H3 else B H3) := by
  show (if true = true then A H else B H)
  rw [if_pos rfl]; exact h
/-- a pair unpacked into two names -/
theorem tup2 {K : PySem.W.Frag} {i j : Nat} {p : Addr} {x y : V} {σ : L2.St} {H : Hp} {q : L2.St → Hp → Prop} (h : SqT K H p [x, y]) (k : q ((σ.set i (some x)).set j (some y)) H) : gTup K 2 (gCons (gName i) (gCons (gName j) gNil)) (.ref p) σ H q :=
  ⟨p, [x, y], rfl, h, rfl, x, [y], rfl, y, [], rfl, rfl, k⟩
theorem tup3 {K : PySem.W.Frag} {i j l : Nat} {p : Addr} {x y z : V} {σ : L2.St} {H : Hp} {q : L2.St → Hp → Prop} (h : SqT K H p [x, y, z]) (k : q (((σ.set i (some x)).set j (some y)).set l (some z)) H) : gTup K 3 (gCons (gName i) (gCons (gName j) (gCons (gName l) gNil))) (.ref p) σ H q :=
  ⟨p, [x, y, z], rfl, h, rfl, x, [y, z], rfl, y, [z], rfl, z, [], rfl, rfl, k⟩
theorem tyX_tup {K : PySem.W.Frag} {H : Hp} {a : Addr} {xs : List V} (h : SqT K H a xs) : TyX K H (.ref a) (.type "tuple") := by
  rcases h with (h | ⟨o, h⟩) | ⟨o, its, n, h, c, _⟩
  · exact .base (.tup h)
  · exact .fTuple h
  · exact .kTuple h c
theorem sI_sum (f : Nat → Int) : ∀ n, ((List.range n).map f).sum = K6.sI n f
  | 0 => rfl
  | n + 1 => by
    rw [List.range_succ, List.map_append, List.sum_append, sI_sum f n]
    show K6.sI n f + (f n + 0) = K6.sI n f + f n
    omega
end G3
-- WRat
set_option Elab.async false
set_option linter.all false
set_option maxRecDepth 100000
set_option maxHeartbeats 4000000
namespace G3
open PySem PySem.Spec PyProof.Rows L2
/-! ### ratios -/
theorem rat_num_den {t l : Int} (hl : 0 < l) : (Rat.divInt t l).num = t / (Int.gcd t l : Int) ∧ ((Rat.divInt t l).den : Int) = l / (Int.gcd t l : Int) := by
  have hg : Int.gcd l t = Int.gcd t l := Int.gcd_comm l t
  have hs : l.sign = 1 := Int.sign_eq_one_of_pos hl
  constructor
  · rw [Rat.num_divInt, hs, Int.one_mul, hg]
  · rw [Rat.den_divInt, if_neg (by omega), hg, Int.natCast_ediv]
    congr 1
    omega
section
variable {P : Program} {w : World} {K : PySem.W.Frag} {mg : Str → Option Value} {base : Heap} {C CN : Addr}
def spIsInt : Sp := fun vs H Q _ => ∃ i : Int, vs = [.int i] ∧ Q (.bl true) H
theorem sc_is_int : FnScope ["value"] ["value"] (defScope s_is_int) := ⟨rfl, rfl, rfl, by decide +kernel, rfl, by decide +kernel, by decide +kernel⟩
theorem ok_is_int (T : Txt K mg C CN) : Has P w K mg base CX0 "is_int" 1 ["value"] spIsInt := by
  obtain ⟨f, fd, mf, F, bf⟩ := T.d_is_int
  refine ⟨f, fd, mf, F.kp, bf, F.ok sc_is_int (fun vs H Q E h => ?_) (fun cdv A outer s H vs Q E hr h => ?_)⟩
  · obtain ⟨i, rfl, _⟩ := h
    rfl
  · obtain ⟨i, rfl, k⟩ := h
    refine ⟨_, PSs.nox (pss_one (ps_ret (pe_and (pe_callB (isiK (K := K)) (by rfl) T.b_isinstance (by decide +kernel) (pa_cons (pv 0) (pa_cons (pe_bltn (by rfl) T.b_int (by decide +kernel) (v := .ty "int") rfl) pa_nil))) (pe_one (pe_not (pe_callB (isiK (K := K)) (by rfl) T.b_isinstance (by decide +kernel) (pa_cons (pv 0) (pa_cons (pe_bltn (by rfl) T.b_bool (by decide +kernel) (v := .ty "bool") rfl) pa_nil)))))))), ?_⟩
    refine ⟨_, rfl, _, .ty "int", _, _, true, rfl, .ty "int", .base (.int i), kit_ty (by decide +kernel), ?_⟩
    refine ⟨true, rfl, ?_⟩
    refine iteT ?_
    refine ⟨_, rfl, _, .ty "bool", _, _, false, rfl, .ty "bool", .base (.int i), kit_ty (by decide +kernel), ?_⟩
    exact ⟨false, rfl, k⟩
def spDivisor : Sp := fun vs H Q _ => ∃ a b : Int, vs = [.int a, .int b] ∧ Q (.int (Int.gcd a b : Int)) H
theorem gcd_step {a b : Int} (hb : 0 < b) : Int.gcd b (a.fmod b) = Int.gcd a b := by
  rw [Int.fmod_eq_emod_of_nonneg a (by omega), Int.gcd_comm a b, Int.emod_def, Int.gcd_sub_mul_left_right]
theorem sc_divisor : FnScope ["one", "other", "a", "b"] ["one", "other"] (defScope s_divisor) := ⟨rfl, rfl, rfl, by decide +kernel, rfl, by decide +kernel, by decide +kernel⟩
theorem ok_divisor (T : Txt K mg C CN) : Has P w K mg base CX0 "divisor" 1 ["one", "other"] spDivisor := by
  obtain ⟨f, fd, mf, F, bf⟩ := T.d_divisor
  refine ⟨f, fd, mf, F.kp, bf, F.ok sc_divisor (fun vs H Q E h => ?_) (fun cdv A outer s H vs Q E hr h => ?_)⟩
  · obtain ⟨a, b, rfl, _⟩ := h
    rfl
  · obtain ⟨a, b, rfl, k⟩ := h
    refine ⟨_, PSs.nox (pss_cons (ps_par (i := 2) (j := 3) rfl sc_divisor.nd rfl rfl (by decide) rfl rfl (pa_cons (pe_callB call_abs (by rfl) T.b_abs (by decide +kernel) (pa_cons (pv 0) pa_nil)) (pa_cons (pe_callB call_abs (by rfl) T.b_abs (by decide +kernel) (pa_cons (pv 1) pa_nil)) pa_nil)) (by rfl))
    (pss_cons (ps_while PassesOwn.never (pt_cmpR op_ne (pv 3) pe_int (nomark _))
      (pss_one (ps_par (i := 2) (j := 3) rfl sc_divisor.nd rfl rfl (by decide) rfl rfl (pa_cons (pv 3) (pa_cons (pe_op op_modN (pv 2) (pv 3)) pa_nil)) (by rfl))))
    (pss_one (ps_ret (pv 2))))), ?_⟩
    refine ⟨_, rfl, _, rfl, _, rfl, _, rfl, _, _, rfl, ?_⟩
    refine while_by (fun σ H' => H' = H ∧ ∃ x y : Int, σ = [some (.int a), some (.int b), some (.int x), some (.int y)] ∧ 0 ≤ x ∧ 0 ≤ y ∧ Int.gcd x y = Int.gcd a b) (fun σ _ => match σ with | [_, _, _, some (.int y)] => y.toNat | _ => 0)
      ⟨rfl, _, _, rfl, ?_, ?_, ?_⟩ ?_ ?_
    · split <;> omega
    · split <;> omega
    · have e1 : ∀ z : Int, (if z < 0 then -z else z) = (z.natAbs : Int) := fun z => by split <;> omega
      show Int.gcd (if a < 0 then -a else a) (if b < 0 then -b else b) = _
      rw [e1, e1]; rfl
    · rintro σ H' ⟨rfl, x, y, rfl, hx, hy, hg⟩
      refine ⟨_, rfl, rfl, _, rfl, ?_⟩
      by_cases c : y = 0
      · subst c
        refine iteF ?_
        refine ⟨_, rfl, ?_⟩
        have e : x = (Int.gcd a b : Int) := by rw [← hg, Int.gcd_zero_right]; omega
        rw [e]; exact k
      · have e : (!decide (V.int y = V.int 0)) = true := by simp [c]
        rw [e]
        refine iteT ?_
        refine ⟨_, rfl, _, rfl, _, rfl, _, _, rfl, rfl, c, _, _, rfl, ?_⟩
        have hm := Int.fmod_nonneg hx (b := y) hy
        have hlt : x.fmod y < y := Int.fmod_lt_of_pos x (by omega)
        refine ⟨⟨rfl, _, _, rfl, hy, hm, ?_⟩, ?_⟩
        · rw [gcd_step (by omega)]; exact hg
        · show (x.fmod y).toNat < y.toNat
          omega
    · rintro σ H' q q' hq ⟨v, hv, hs, r, e, z⟩
      exact ⟨v, hv, hs, r, e, hq _ _ z⟩
def spRatio (K : PySem.W.Frag) : Sp := fun vs H Q _ => ∃ t l : Int, vs = [.int t, .int l] ∧ 0 < l ∧ l.natAbs < 2 ^ 9000 ∧ ∀ v H', Same H H' → Rt K H' v (Rat.divInt t l) → Q v H'
theorem sc_ratio : FnScope ["top", "low", "both"] ["top", "low"] (defScope s_ratio) := ⟨rfl, rfl, rfl, by decide +kernel, rfl, by decide +kernel, by decide +kernel⟩
theorem ok_ratio (T : Txt K mg C CN) : Has P w K mg base CX0 "ratio" 2 ["top", "low"] (spRatio K) := by
  obtain ⟨f, fd, mf, F, bf⟩ := T.d_ratio
  obtain ⟨f_divisor, fd_divisor, m_divisor, k_divisor, b_divisor, G_divisor⟩ := ok_divisor (P := P) (w := w) (base := base) T
  refine ⟨f, fd, mf, F.kp, bf, F.ok sc_ratio (fun vs H Q E h => ?_) (fun cdv A outer s H vs Q E hr h => ?_)⟩
  · obtain ⟨a, b, rfl, _⟩ := h
    rfl
  · obtain ⟨t, l, rfl, hl, hb, k⟩ := h
    have hr_divisor := hr.mono (j := 1) (by decide)
    refine ⟨_, PSs.nox (pss_cons (ps_set (i := 2) sc_ratio.nd rfl (Or.inl rfl) (pe_call G_divisor hr_divisor (by rfl) m_divisor k_divisor b_divisor .nil pass0 (pa_cons (pv 0) (pa_cons (pv 1) pa_nil))))
    (pss_cons (ps_if (pt_cmpR op_lt (pv 1) pe_int (nomark _))
      (pss_one (ps_set (i := 2) sc_ratio.nd rfl (Or.inl rfl) (pe_un un_neg (pv 2))))
      pss_nil)
    (pss_one (ps_ret (pe_tup (pa_cons (pe_op op_fdivW (pv 0) (pv 2)) (pa_cons (pe_op op_fdivW (pv 1) (pv 2)) pa_nil))))))), ?_⟩
    have hg : (0 : Int) < (Int.gcd t l : Int) := by
      have := Int.gcd_pos_of_ne_zero_right t (b := l) (by omega)
      omega
    have hgl : (Int.gcd t l : Int) ≤ l := Int.le_of_dvd hl (Int.gcd_dvd_right t l)
    refine ⟨_, rfl, _, rfl, t, l, rfl, ?_⟩
    refine ⟨_, rfl, _, _, rfl, rfl, _, rfl, ?_⟩
    rw [decide_eq_false (by omega : ¬ l < 0)]
    refine iteF ?_
    refine ⟨_, rfl, _, rfl, _, _, rfl, rfl, wide_div hg (Nat.lt_of_le_of_lt (by omega) hb) (by decide) (by decide), ?_⟩
    refine ⟨_, rfl, _, rfl, _, _, rfl, rfl, wide_div hg (Nat.lt_of_le_of_lt (by omega) hb) (by decide) (by decide), ?_⟩
    refine ⟨small (by show 2 ≤ 1000; decide), fun p hp => ?_⟩
    obtain ⟨e1, e2⟩ := rat_num_den (t := t) hl
    refine k _ _ (Same.new hp) ⟨p, rfl, SqT.of ?_⟩
    rw [e1, e2]; exact upd_same
end
end G3
-- WDot
set_option Elab.async false
set_option linter.all false
set_option maxRecDepth 100000
set_option maxHeartbeats 4000000
namespace G3
open PySem PySem.Spec PyProof.Rows L2
theorem den_pos (q : Rat) : (0 : Int) < (q.den : Int) := by have := q.den_nz; omega
theorem gcd_one (q : Rat) : Int.gcd q.num (q.den : Int) = 1 := by
  have := q.reduced
  unfold Nat.Coprime at this
  exact this
theorem lcm_cast (l d : Nat) : ((l : Int) * (d : Int)) / ((Int.gcd (l : Int) (d : Int) : Nat) : Int) = ((Nat.lcm l d : Nat) : Int) := by
  show ((l : Int) * (d : Int)) / ((Nat.gcd l d : Nat) : Int) = (((l * d) / Nat.gcd l d : Nat) : Int)
  rw [Int.natCast_ediv, Int.natCast_mul]
theorem dot_rat {n lo : Nat} {f : Nat → Int} {x : Nat → Rat} (hlo : 0 < lo) (hd : ∀ i, i < n → (x i).den ∣ lo) :
    Rat.divInt (K6.sI n fun i => f i * (x i).num * ((lo : Int) / ((x i).den : Int))) (lo : Int) = K6.sR n (fun i => (f i : Rat) * x i) := by
  rw [Rat.divInt_eq_div, K6.sR_cast, Rat.div_def, ← K6.sR_mul_right]
  refine K6.sR_congr fun i hi => ?_
  obtain ⟨k, hk⟩ := hd i hi
  have hdn := (x i).den_nz
  have e1 : (lo : Int) / ((x i).den : Int) = (k : Int) := by
    rw [hk, Int.natCast_mul]; exact Int.mul_ediv_cancel_left _ (by omega)
  have hk0 : k ≠ 0 := fun q => by rw [q, Nat.mul_zero] at hk; omega
  rw [e1, Rat.intCast_mul, Rat.intCast_mul, K6.rat_div (x i)]
  have e2 : ((lo : Int) : Rat) = (((x i).den : Int) : Rat) * ((k : Int) : Rat) := by rw [← Rat.intCast_mul, ← Int.natCast_mul, ← hk]
  rw [e2]
  have h1 : (((x i).den : Int) : Rat) ≠ 0 := fun q => by have := Rat.intCast_eq_zero_iff.mp q; omega
  have h2 : ((k : Int) : Rat) ≠ 0 := fun q => by have := Rat.intCast_eq_zero_iff.mp q; omega
  generalize (((x i).den : Int) : Rat) = a at *
  generalize ((k : Int) : Rat) = b at *
  generalize x i = c at *
  have h3 : a * b ≠ 0 := fun q => by rcases Rat.mul_eq_zero.mp q with q | q <;> contradiction
  have h4 := Rat.mul_inv_cancel _ h3
  calc (f i : Rat) * (c * a) * b * (a * b)⁻¹ = ((f i : Rat) * c) * ((a * b) * (a * b)⁻¹) := by grind
    _ = (f i : Rat) * c := by rw [h4, Rat.mul_one]
section
variable {P : Program} {w : World} {K : PySem.W.Frag} {mg : Str → Option Value} {base : Heap} {C CN : Addr}
def spIsRatio (K : PySem.W.Frag) : Sp := fun vs H Q _ => ∃ (v : V) (q : Rat), vs = [v] ∧ Rt K H v q ∧ Q (.bl true) H
theorem sc_is_ratio : FnScope ["value"] ["value"] (defScope s_is_ratio) := ⟨rfl, rfl, rfl, by decide +kernel, rfl, by decide +kernel, by decide +kernel⟩
theorem ok_is_ratio (T : Txt K mg C CN) : Has P w K mg base CX0 "is_ratio" 2 ["value"] (spIsRatio K) := by
  obtain ⟨f, fd, mf, F, bf⟩ := T.d_is_ratio
  obtain ⟨f_divisor, fd_divisor, m_divisor, k_divisor, b_divisor, G_divisor⟩ := ok_divisor (P := P) (w := w) (base := base) T
  obtain ⟨f_is_int, fd_is_int, m_is_int, k_is_int, b_is_int, G_is_int⟩ := ok_is_int (P := P) (w := w) (base := base) T
  refine ⟨f, fd, mf, F.kp, bf, F.ok sc_is_ratio (fun vs H Q E h => ?_) (fun cdv A outer s H vs Q E hr h => ?_)⟩
  · obtain ⟨v, q, rfl, _⟩ := h
    rfl
  · obtain ⟨v, q, rfl, ⟨a, rfl, hq⟩, k⟩ := h
    have hr_divisor := hr.mono (j := 1) (by decide)
    have hr_is_int := hr.mono (j := 1) (by decide)
    refine ⟨_, PSs.nox (pss_cons (ps_if (PW.pt (pw_or (pt_not (pt_val (pe_callB (isiK (K := K)) (by rfl) T.b_isinstance (by decide +kernel) (pa_cons (pv 0) (pa_cons (pe_bltn (by rfl) T.b_tuple (by decide +kernel) (v := .ty "tuple") rfl) pa_nil))))) (pw_or (pt_cmpR op_ne (pe_callB (lenS (K := K)) (by rfl) T.b_len PySem.boot_len (pa_cons (pv 0) pa_nil)) pe_int (nomark _)) (pw_or (pt_not (pt_val (pe_call G_is_int hr_is_int (by rfl) m_is_int k_is_int b_is_int .nil pass0 (pa_cons (pe_ix (ixT (K := K)) (pv 0) pe_int (fun _ _ => rfl)) pa_nil)))) (pw_or1 (pt_not (pt_val (pe_call G_is_int hr_is_int (by rfl) m_is_int k_is_int b_is_int .nil pass0 (pa_cons (pe_ix (ixT (K := K)) (pv 0) pe_int (fun _ _ => rfl)) pa_nil)))))))))
      (pss_one (ps_ret pe_bl))
      pss_nil)
    (pss_one (ps_ret (pe_and (pe_cmpR op_gt (pe_ix (ixT (K := K)) (pv 0) pe_int (fun _ _ => rfl)) pe_int (nomark _)) (pe_one (pe_cmpR op_eq (pe_call G_divisor hr_divisor (by rfl) m_divisor k_divisor b_divisor .nil pass0 (pa_cons (pe_ix (ixT (K := K)) (pv 0) pe_int (fun _ _ => rfl)) (pa_cons (pe_ix (ixT (K := K)) (pv 0) pe_int (fun _ _ => rfl)) pa_nil))) pe_int (nomark _))))))), ?_⟩
    refine ⟨_, rfl, _, .ty "tuple", _, _, true, rfl, .ty "tuple", tyX_tup hq, kit_ty (by decide +kernel), _, rfl, iteF ?_⟩
    refine ⟨_, rfl, a, _, rfl, .inr hq, rfl, _, rfl, iteF ?_⟩
    refine ⟨_, rfl, a, _, _, _, rfl, rfl, hq, rfl, _, rfl, _, rfl, iteF ?_⟩
    refine ⟨_, rfl, a, _, _, _, rfl, rfl, hq, rfl, _, rfl, _, rfl, iteF ?_⟩
    refine ⟨_, rfl, a, _, _, _, rfl, rfl, hq, rfl, _, _, rfl, rfl, _, rfl, ?_⟩
    rw [decide_eq_true (den_pos q)]
    refine iteT ?_
    refine ⟨_, rfl, a, _, _, _, rfl, rfl, hq, rfl, _, rfl, a, _, _, _, rfl, rfl, hq, rfl, _, _, rfl, rfl, ?_⟩
    have e : decide (V.int ((Int.gcd q.num (q.den : Int) : Nat) : Int) = V.int 1) = true := by rw [gcd_one]; rfl
    rw [e]; exact k
def Big : Nat := 2 ^ 4000
structure DotOk (n : Nat) (f : Nat → Int) (x : Nat → Rat) (L : Nat) : Prop where
  n100 : n ≤ 100
  L0 : 0 < L
  L1 : L < 2 ^ 4000
  dv : ∀ i, i < n → (x i).den ∣ L
  fb : ∀ i, i < n → (f i).natAbs < 2 ^ 4000
  xb : ∀ i, i < n → (x i).num.natAbs < 2 ^ 4000
def spDot (K : PySem.W.Frag) : Sp := fun vs H Q _ => ∃ (p : Sr) (v : V) (n : Nat) (f : Nat → Int) (x : Nat → Rat) (L : Nat), vs = [p.val, v] ∧ p.has K H (iv n f) ∧ Rts K H v n x ∧ DotOk n f x L ∧
  ∀ u H', Same H H' → Rt K H' u (K6.sR n (fun i => (f i : Rat) * x i)) → Q u H'
theorem Sr.mono {K : PySem.W.Frag} {H H' : Hp} (s : Same H H') : ∀ {p : Sr} {xs : List V}, p.has K H xs → p.has K H' xs
  | .L _, _, h => s.seq h
  | .T _, _, h => s.tup h
  | .S _, _, h => h
theorem sc_dot : FnScope ["numbers", "plan", "low", "one", "number"] ["numbers", "plan"] (defScope s_dot) := ⟨rfl, rfl, rfl, by decide +kernel, rfl, by decide +kernel, by decide +kernel⟩
theorem ok_dot (T : Txt K mg C CN) : Has P w K mg base CX0 "dot" 3 ["numbers", "plan"] (spDot K) := by
  obtain ⟨f, fd, mf, F, bf⟩ := T.d_dot
  obtain ⟨f_divisor, fd_divisor, m_divisor, k_divisor, b_divisor, G_divisor⟩ := ok_divisor (P := P) (w := w) (base := base) T
  obtain ⟨f_ratio, fd_ratio, m_ratio, k_ratio, b_ratio, G_ratio⟩ := ok_ratio (P := P) (w := w) (base := base) T
  refine ⟨f, fd, mf, F.kp, bf, F.ok sc_dot (fun vs H Q E h => ?_) (fun cdv A outer s H vs Q E hr h => ?_)⟩
  · obtain ⟨p, v, n, f, x, L, rfl, _⟩ := h
    rfl
  · obtain ⟨p, v, n, f, x, L, rfl, hp, ⟨b, qs, rfl, hb, hlen, hqs⟩, O, k⟩ := h
    have hr_divisor := hr.mono (j := 1) (by decide)
    have hr_ratio := hr.mono (j := 2) (by decide)
    refine ⟨_, PSs.nox (pss_cons (ps_set (i := 2) sc_dot.nd rfl (Or.inr rfl) pe_int)
    (pss_cons (ps_for PassesOwn.never rfl (pi_tup (pv 1)) (pg_name (i := 3) sc_dot.nd rfl (Or.inl rfl))
      (pss_one (ps_set (i := 2) sc_dot.nd rfl (Or.inr rfl) (pe_op op_fdivW (pe_op op_mulW (pv 2) (pe_ix (ixT (K := K)) (pv 3) pe_int (fun _ _ => rfl))) (pe_call G_divisor hr_divisor (by rfl) m_divisor k_divisor b_divisor .nil pass0 (pa_cons (pv 2) (pa_cons (pe_ix (ixT (K := K)) (pv 3) pe_int (fun _ _ => rfl)) pa_nil)))))))
    (pss_one (ps_ret (pe_call G_ratio hr_ratio (by rfl) m_ratio k_ratio b_ratio .nil pass0 (pa_cons (pe_callB (cr_sum rfl) (by rfl) T.b_sum (by decide +kernel) (pa_cons (pe_lc (own := [("number", 4), ("one", 3)]) (g := gTup K 2 (gCons (gName 4) (gCons (gName 3) gNil))) rfl sc_dot.nd (pi_zipG rfl T.b_zip (pa_cons (pv 0) (pa_cons (pv 1) pa_nil))) (blkOk_by (own := [("number", 4), ("one", 3)]) (N := ["numbers", "plan", "low", "one", "number"]) (sc := defScope s_dot) (by decide +kernel)) (fun _ _ _ _ _ => by exact (pg_tup (by rfl) (pgs_cons (pg_name (i := 4) sc_dot.nd rfl (Or.inl rfl)) (pgs_cons (pg_name (i := 3) sc_dot.nd rfl (Or.inl rfl)) pgs_nil)))) (fun _ _ _ _ _ => by exact pts_nil) (fun _ _ _ _ _ => by exact (pe_op op_mulW (pe_op op_mulW (pv 4) (pe_ix (ixT (K := K)) (pv 3) pe_int (fun _ _ => rfl))) (pe_op op_fdivW (pv 2) (pe_ix (ixT (K := K)) (pv 3) pe_int (fun _ _ => rfl)))))) pa_nil)) (pa_cons (pv 2) pa_nil))))))), ?_⟩
    refine ⟨_, rfl, b, rfl, ⟨_, hb⟩, for_tup (K := K) (a := b) (xs := qs) (fun i σ H' => H' = H ∧ ∃ (lo : Nat) (u : Option V), σ = [some p.val, some (.ref b), some (.int (lo : Int)), u, none] ∧ 0 < lo ∧ lo ∣ L ∧ ∀ j, j < i → (x j).den ∣ lo)
      ⟨rfl, 1, none, rfl, by decide, Nat.one_dvd L, fun j hj => absurd hj (Nat.not_lt_zero j)⟩ (fun i σ H' _ ⟨e, _⟩ => by rw [e]; exact hb) ?_ ?_⟩
    · rintro i y σ H' hi ⟨rfl, lo, u, rfl, h0, hL, hd⟩
      have hin : i < n := by
        have := (List.getElem?_eq_some_iff.mp hi).1
        omega
      obtain ⟨y', ey, a, rfl, ha⟩ := hqs i hin
      rw [hi] at ey; cases ey
      have hdl : (x i).den ≤ L := Nat.le_of_dvd O.L0 (O.dv i hin)
      have hll : lo ≤ L := Nat.le_of_dvd O.L0 hL
      have hL1 := O.L1
      have dp := (x i).den_nz
      have gp : 0 < Nat.gcd lo (x i).den := Nat.gcd_pos_of_pos_left _ h0
      have gl : Nat.gcd lo (x i).den ≤ lo := Nat.gcd_le_left _ h0
      refine ⟨_, rfl, _, rfl, a, _, _, _, rfl, rfl, ha, rfl, _, _, rfl, rfl, wide_mul (a := 4000) (b := 4000) (show (lo : Int).natAbs < _ by omega) (show ((x i).den : Int).natAbs < _ by omega) (by decide) (by decide) (by decide), ?_⟩
      refine ⟨_, rfl, _, rfl, a, _, _, _, rfl, rfl, ha, rfl, _, _, rfl, _, _, rfl, rfl, wide_div (b := 4000) (show (0 : Int) < ((Nat.gcd lo (x i).den : Nat) : Int) by omega) (show ((Nat.gcd lo (x i).den : Nat) : Int).natAbs < _ by omega) (by decide) (by decide), ?_⟩
      refine ⟨rfl, Nat.lcm lo (x i).den, some (.ref a), ?_, ?_, Nat.lcm_dvd hL (O.dv i hin), fun j hj => ?_⟩
      · rw [← lcm_cast]; rfl
      · exact Nat.pos_of_ne_zero fun q => by
          have := Nat.lcm_eq_zero_iff.mp q
          omega
      · by_cases c : j = i
        · subst c; exact Nat.dvd_lcm_right _ _
        · exact Nat.dvd_trans (hd j (by omega)) (Nat.dvd_lcm_left _ _)
    · rintro σ H' ⟨rfl, lo, u, rfl, h0, hL, hd⟩
      rw [hlen] at hd
      have hll : lo ≤ L := Nat.le_of_dvd O.L0 hL
      have hL1 := O.L1
      refine ⟨_, rfl, _, rfl, p, .T b, _, _, rfl, hp, hb, fun D hD => lc_iv (walk_zipG (n := n) (iv_len n f) hlen) (fun i => f i * (x i).num * ((lo : Int) / ((x i).den : Int))) (by have := O.n100; omega) hD (fun H' s => ⟨Sr.mono s hp, s.tup hb⟩) ?_ ?_⟩
      · rintro i y H1 H2 Qy Qn hi s1 ⟨T, x1, x2, rfl, hT, rfl, e1, e2⟩ kq
        obtain ⟨_, rfl⟩ := iv_of e1
        obtain ⟨y', ey, a, rfl, ha⟩ := hqs i hi
        cases e2.symm.trans ey
        have ha' : SqT K (upd H1 T (.tup [V.int (f i), V.ref a])) a [.int (x i).num, .int ((x i).den : Int)] := (s1.trans (Same.new hT)).tup ha
        have hdl : (x i).den ≤ L := Nat.le_of_dvd O.L0 (O.dv i hi)
        have dp := (x i).den_nz
        have hq : (lo : Int) / ((x i).den : Int) = ((lo / (x i).den : Nat) : Int) := by rw [Int.natCast_ediv]
        have hq2 : lo / (x i).den ≤ lo := Nat.div_le_self _ _
        refine tup2 (SqT.of upd_same) ⟨rfl, yesI ?_⟩
        refine ⟨_, rfl, _, rfl, a, _, _, _, rfl, rfl, ha', rfl, _, _, rfl, rfl, wide_mul (a := 4000) (b := 4000) (O.fb i hi) (O.xb i hi) (by decide) (by decide) (by decide), ?_⟩
        refine ⟨_, rfl, _, rfl, a, _, _, _, rfl, rfl, ha', rfl, _, _, rfl, rfl, wide_div (b := 4000) (den_pos (x i)) (show ((x i).den : Int).natAbs < _ by omega) (by decide) (by decide), ?_⟩
        refine ⟨_, _, rfl, rfl, wide_mul (a := 8000) (b := 4000) (wide_lt (a := 4000) (b := 4000) (O.fb i hi) (O.xb i hi)) ?_ (by decide) (by decide) (by decide), ?_⟩
        · rw [hq]
          show lo / (x i).den < _
          omega
        · exact kq _ (Same.new hT)
      · rintro H1 s1 hD1
        refine ⟨D, _, rfl, SqL.of (by rw [hD1, iv_map]), ?_⟩
        refine ⟨_, rfl, _, _, rfl, (by omega), ?_, fun v H2 s2 hv => ?_⟩
        · show lo < _
          exact Nat.lt_of_le_of_lt hll (Nat.lt_trans hL1 (by decide +kernel))
        · refine k v H2 (s1.trans s2) ?_
          rw [sI_sum, dot_rat h0 hd] at hv
          exact hv
end
end G3
-- WTask
set_option Elab.async false
set_option linter.all false
set_option maxRecDepth 100000
set_option maxHeartbeats 4000000
namespace G3
open PySem PySem.Spec PyProof.Rows L2
theorem bls_eq {n : Nat} {b : Bool} {xs : List V} (hl : xs.length = n) (h : ∀ i, i < n → xs[i]? = some (.bl b)) : xs = (List.replicate n b).map V.bl := by
  apply List.ext_getElem?
  intro i
  by_cases hi : i < n
  · rw [h i hi]; simp [hi]
  · rw [List.getElem?_eq_none (by omega), List.getElem?_eq_none (by simp; omega)]
theorem all_rep (n : Nat) : (List.replicate n true).all id = true := by simp
theorem any_rep (n : Nat) : (List.replicate n false).any id = false := by simp
def Small (i : Int) : Prop := -1000 ≤ i ∧ i ≤ 1000
structure Valid (t : K6.Task) : Prop where
  k1 : 1 ≤ t.k
  k6 : t.k ≤ 6
  m8 : t.m ≤ 8
  c : ∀ j, j < t.k → Small (t.c j)
  A : ∀ i j, i < t.m → j < t.k → Small (t.A i j)
  b : ∀ i, i < t.m → Small (t.b i)
theorem kinds_len (k : Nat) (plus : Nat → Bool) : (kindsS k plus).length = k := by
  show (kindsS k plus).cps.size = k
  simp [kindsS]
theorem kinds_get {k : Nat} {plus : Nat → Bool} {i : Nat} (h : i < k) : (kindsS k plus).cps[i]? = some (if plus i = true then 43 else 42) := by
  unfold kindsS
  simp [h]
theorem signs_get {k : Nat} {plus : Nat → Bool} {i : Nat} (h : i < k) : (signs (kindsS k plus))[i]? = some (.str ⟨#[if plus i = true then 43 else 42]⟩) := by
  unfold signs kindsS
  simp [h]
theorem signs_len (k : Nat) (plus : Nat → Bool) : (signs (kindsS k plus)).length = k := by simp [signs, kindsS]
section
variable {P : Program} {w : World} {K : PySem.W.Frag} {mg : Str → Option Value} {base : Heap} {C CN : Addr}
def spIsSmall : Sp := fun vs H Q _ => ∃ i : Int, vs = [.int i] ∧ Small i ∧ Q (.bl true) H
theorem sc_is_small : FnScope ["value"] ["value"] (defScope s_is_small) := ⟨rfl, rfl, rfl, by decide +kernel, rfl, by decide +kernel, by decide +kernel⟩
theorem ok_is_small (T : Txt K mg C CN) : Has P w K mg base CX0 "is_small" 2 ["value"] spIsSmall := by
  obtain ⟨f, fd, mf, F, bf⟩ := T.d_is_small
  obtain ⟨t_MOST_VALUE, g_MOST_VALUE⟩ := T.MOST_VALUE
  obtain ⟨f_is_int, fd_is_int, m_is_int, k_is_int, b_is_int, G_is_int⟩ := ok_is_int (P := P) (w := w) (base := base) T
  refine ⟨f, fd, mf, F.kp, bf, F.ok sc_is_small (fun vs H Q E h => ?_) (fun cdv A outer s H vs Q E hr h => ?_)⟩
  · obtain ⟨i, rfl, _⟩ := h
    rfl
  · obtain ⟨i, rfl, hs, k⟩ := h
    have hr_is_int := hr.mono (j := 1) (by decide)
    refine ⟨_, PSs.nox (pss_one (ps_ret (pe_and (pe_call G_is_int hr_is_int (by rfl) m_is_int k_is_int b_is_int .nil pass0 (pa_cons (pv 0) pa_nil)) (pe_one (pe_chain op_le op_le (pe_un un_neg (pe_glob (v := V.int 1000) rfl g_MOST_VALUE ⟨_, rfl⟩)) (pv 0) (pe_glob (v := V.int 1000) rfl g_MOST_VALUE ⟨_, rfl⟩)))))), ?_⟩
    refine ⟨_, rfl, i, rfl, true, rfl, iteT ?_⟩
    refine ⟨_, rfl, _, rfl, _, _, rfl, rfl, _, rfl, ?_⟩
    rw [decide_eq_true (show (-1000 : Int) ≤ i from hs.1)]
    refine iteT ?_
    refine ⟨_, _, rfl, rfl, ?_⟩
    have e : decide (i ≤ 1000) = true := decide_eq_true hs.2
    show Q (.bl (decide (i ≤ 1000))) H
    rw [e]; exact k
structure RowOk (k : Nat) (A : Nat → Int) (b : Int) : Prop where
  k6 : k ≤ 6
  A : ∀ j, j < k → Small (A j)
  b : Small b
def spIsRow (K : PySem.W.Frag) : Sp := fun vs H Q _ => ∃ (v : V) (k : Nat) (A : Nat → Int) (sg : K6.Sg) (b : Int), vs = [v, .int (k : Int)] ∧ Rw K H v k A sg b ∧ RowOk k A b ∧ ∀ H', Same H H' → Q (.bl true) H'
theorem sc_is_row : FnScope ["value", "many", "one"] ["value", "many"] (defScope s_is_row) := ⟨rfl, rfl, rfl, by decide +kernel, rfl, by decide +kernel, by decide +kernel⟩
theorem ok_is_row (T : Txt K mg C CN) : Has P w K mg base CX0 "is_row" 3 ["value", "many"] (spIsRow K) := by
  obtain ⟨f, fd, mf, F, bf⟩ := T.d_is_row
  obtain ⟨a_SIGNS, g_SIGNS, q_SIGNS⟩ := T.SIGNS
  obtain ⟨f_is_small, fd_is_small, m_is_small, k_is_small, b_is_small, G_is_small⟩ := ok_is_small (P := P) (w := w) (base := base) T
  refine ⟨f, fd, mf, F.kp, bf, F.ok sc_is_row (fun vs H Q E h => ?_) (fun cdv A outer s H vs Q E hr h => ?_)⟩
  · obtain ⟨v, k, A, sg, b, rfl, _⟩ := h
    rfl
  · obtain ⟨v, kk, A', sg, b, rfl, ⟨a, c, rfl, ha, hc⟩, O, k⟩ := h
    have hr_is_small := hr.mono (j := 2) (by decide)
    refine ⟨_, PSs.nox (pss_cons (ps_if (PW.pt (pw_or (pt_not (pt_val (pe_callB (isiK (K := K)) (by rfl) T.b_isinstance (by decide +kernel) (pa_cons (pv 0) (pa_cons (pe_bltn (by rfl) T.b_tuple (by decide +kernel) (v := .ty "tuple") rfl) pa_nil))))) (pw_or (pt_cmpR op_ne (pe_callB (lenS (K := K)) (by rfl) T.b_len PySem.boot_len (pa_cons (pv 0) pa_nil)) pe_int (nomark _)) (pw_or (pt_not (pt_val (pe_callB (isiK (K := K)) (by rfl) T.b_isinstance (by decide +kernel) (pa_cons (pe_ix (ixT (K := K)) (pv 0) pe_int (fun _ _ => rfl)) (pa_cons (pe_bltn (by rfl) T.b_tuple (by decide +kernel) (v := .ty "tuple") rfl) pa_nil))))) (pw_or1 (pt_cmpR op_ne (pe_callB (lenS (K := K)) (by rfl) T.b_len PySem.boot_len (pa_cons (pe_ix (ixT (K := K)) (pv 0) pe_int (fun _ _ => rfl)) pa_nil)) (pv 1) (nomark _)))))))
      (pss_one (ps_ret pe_bl))
      pss_nil)
    (pss_one (ps_ret (pe_and (pe_callB (cr_all rfl) (by rfl) T.b_all (by decide +kernel) (pa_cons (pe_lc (own := [("one", 2)]) (g := gName 2) rfl sc_is_row.nd (pi_tup (pe_ix (ixT (K := K)) (pv 0) pe_int (fun _ _ => rfl))) (blkOk_by (own := [("one", 2)]) (N := ["value", "many", "one"]) (sc := defScope s_is_row) (by decide +kernel)) (fun _ _ _ _ _ => by exact (pg_name (i := 2) sc_is_row.nd rfl (Or.inl rfl))) (fun _ _ _ _ _ => by exact pts_nil) (fun _ _ _ _ _ => by exact (pe_call G_is_small hr_is_small (by rfl) m_is_small k_is_small b_is_small .nil pass0 (pa_cons (pv 2) pa_nil)))) pa_nil)) (pe_and (pe_cmpR (inS (K := K)) (pe_ix (ixT (K := K)) (pv 0) pe_int (fun _ _ => rfl)) (pe_glob (v := V.ref a_SIGNS) rfl g_SIGNS rfl) (by rfl)) (pe_one (pe_call G_is_small hr_is_small (by rfl) m_is_small k_is_small b_is_small .nil pass0 (pa_cons (pe_ix (ixT (K := K)) (pv 0) pe_int (fun _ _ => rfl)) pa_nil)))))))), ?_⟩
    refine ⟨_, rfl, _, .ty "tuple", _, _, true, rfl, .ty "tuple", tyX_tup ha, kit_ty (by decide +kernel), _, rfl, iteF ?_⟩
    refine ⟨_, rfl, a, _, rfl, .inr ha, rfl, _, rfl, iteF ?_⟩
    refine ⟨_, rfl, a, _, _, _, rfl, rfl, ha, rfl, _, .ty "tuple", _, _, true, rfl, .ty "tuple", tyX_tup hc, kit_ty (by decide +kernel), _, rfl, iteF ?_⟩
    refine ⟨_, rfl, a, _, _, _, rfl, rfl, ha, rfl, c, _, rfl, .inr hc, _, rfl, rfl, _, rfl, ?_⟩
    have e0 : (!decide (V.int ((iv kk A').length : Int) = V.int (kk : Int))) = false := by rw [iv_len]; simp
    rw [e0]
    refine iteF ?_
    refine ⟨_, rfl, a, _, _, _, rfl, rfl, ha, rfl, c, rfl, ⟨_, hc⟩, fun D hD => lc_map (walk_tup (xs := iv kk A')) (fun _ y _ => y = .bl true) (fun _ _ _ _ _ h => h) (by rw [iv_len]; have := O.k6; omega) hD (fun H' s => s.tup hc) ?_ ?_⟩
    · rintro i y H1 H2 Qy Qn hi s1 ⟨rfl, e⟩ kq
      obtain ⟨hi, rfl⟩ := iv_of e
      refine ⟨rfl, yesI ⟨_, rfl, _, rfl, O.A i hi, kq _ _ (Same.refl _) rfl⟩⟩
    · intro H1 xs s1 e hl hr
      have q := bls_eq (b := true) hl fun i hi => by
        obtain ⟨y, ey, rfl⟩ := hr i hi
        exact ey
      refine ⟨D, _, rfl, SqL.of (by rw [e, q]), true, by rw [all_rep], iteT ?_⟩
      refine ⟨_, rfl, a, _, _, _, rfl, rfl, s1.tup ha, rfl, a_SIGNS, _, rfl, .inr (q_SIGNS _), rfl, rfl, ?_⟩
      have e1 : inV (V.str (sgS sg)) [V.str ">=", V.str "<=", V.str "="] = true := by cases sg <;> decide +kernel
      refine ⟨true, ?_, iteT ?_⟩
      · show V.bl (if false = true then _ else inV (V.str (sgS sg)) [V.str ">=", V.str "<=", V.str "="]) = _
        rw [if_neg Bool.false_ne_true, e1]
      · exact ⟨_, rfl, a, _, _, _, rfl, rfl, s1.tup ha, rfl, _, rfl, O.b, k _ s1⟩
def spNeedTask (K : PySem.W.Frag) : Sp := fun vs H Q _ => ∃ (v : V) (t : K6.Task), vs = [v] ∧ Tk K H v t ∧ Valid t ∧ ∀ H', Same H H' → Q .non H'
theorem sc_need_task : FnScope ["value", "kinds", "costs", "rows", "index", "row", "one"] ["value"] (defScope s_need_task) := ⟨rfl, rfl, rfl, by decide +kernel, rfl, by decide +kernel, by decide +kernel⟩
theorem ok_need_task (T : Txt K mg C CN) : Has P w K mg base CX0 "need_task" 4 ["value"] (spNeedTask K) := by
  obtain ⟨f, fd, mf, F, bf⟩ := T.d_need_task
  obtain ⟨t_MOST_COLUMNS, g_MOST_COLUMNS⟩ := T.MOST_COLUMNS
  obtain ⟨t_MOST_ROWS, g_MOST_ROWS⟩ := T.MOST_ROWS
  obtain ⟨f_is_row, fd_is_row, m_is_row, k_is_row, b_is_row, G_is_row⟩ := ok_is_row (P := P) (w := w) (base := base) T
  obtain ⟨f_is_small, fd_is_small, m_is_small, k_is_small, b_is_small, G_is_small⟩ := ok_is_small (P := P) (w := w) (base := base) T
  refine ⟨f, fd, mf, F.kp, bf, F.ok sc_need_task (fun vs H Q E h => ?_) (fun cdv A outer s H vs Q E hr h => ?_)⟩
  · obtain ⟨v, t, rfl, _⟩ := h
    rfl
  · obtain ⟨v, t, rfl, ⟨a, c, r, rs, rfl, ht⟩, O, k⟩ := h
    have hr_is_row := hr.mono (j := 3) (by decide)
    have hr_is_small := hr.mono (j := 2) (by decide)
    refine ⟨_, PSs.nox (pss_cons (ps_if (PW.pt (pw_or (pt_not (pt_val (pe_callB (isiK (K := K)) (by rfl) T.b_isinstance (by decide +kernel) (pa_cons (pv 0) (pa_cons (pe_bltn (by rfl) T.b_tuple (by decide +kernel) (v := .ty "tuple") rfl) pa_nil))))) (pw_or1 (pt_cmpR op_ne (pe_callB (lenS (K := K)) (by rfl) T.b_len PySem.boot_len (pa_cons (pv 0) pa_nil)) pe_int (nomark _)))))
      (pss_one ps_never)
      pss_nil)
    (pss_cons (ps_asg (pv 0) (pg_tup (by rfl) (pgs_cons (pg_name (i := 1) sc_need_task.nd rfl (Or.inl rfl)) (pgs_cons (pg_name (i := 2) sc_need_task.nd rfl (Or.inl rfl)) (pgs_cons (pg_name (i := 3) sc_need_task.nd rfl (Or.inl rfl)) pgs_nil)))))
    (pss_cons (ps_if (PW.pt (pw_or (pt_not (pt_val (pe_callB (isiK (K := K)) (by rfl) T.b_isinstance (by decide +kernel) (pa_cons (pv 1) (pa_cons (pe_bltn (by rfl) T.b_str (by decide +kernel) (v := .ty "str") rfl) pa_nil))))) (pw_or (pt_not (pt_chain op_le op_le pe_int (pe_callB call_len_str (by rfl) T.b_len PySem.boot_len (pa_cons (pv 1) pa_nil)) (pe_glob (v := V.int 6) rfl g_MOST_COLUMNS ⟨_, rfl⟩))) (pw_or1 (pt_val (pe_callB (cr_any rfl) (by rfl) T.b_any (by decide +kernel) (pa_cons (pe_lc (own := [("one", 6)]) (g := gName 6) rfl sc_need_task.nd (pi_str (pv 1)) (blkOk_by (own := [("one", 6)]) (N := ["value", "kinds", "costs", "rows", "index", "row", "one"]) (sc := defScope s_need_task) (by decide +kernel)) (fun _ _ _ _ _ => by exact (pg_name (i := 6) sc_need_task.nd rfl (Or.inl rfl))) (fun _ _ _ _ _ => by exact pts_nil) (fun _ _ _ _ _ => by exact (pe_cmpR op_notIn_sign (pv 6) pe_str rfl))) pa_nil)))))))
      (pss_one ps_never)
      pss_nil)
    (pss_cons (ps_if (PW.pt (pw_or (pt_not (pt_val (pe_callB (isiK (K := K)) (by rfl) T.b_isinstance (by decide +kernel) (pa_cons (pv 2) (pa_cons (pe_bltn (by rfl) T.b_tuple (by decide +kernel) (v := .ty "tuple") rfl) pa_nil))))) (pw_or (pt_cmpR op_ne (pe_callB (lenS (K := K)) (by rfl) T.b_len PySem.boot_len (pa_cons (pv 2) pa_nil)) (pe_callB call_len_str (by rfl) T.b_len PySem.boot_len (pa_cons (pv 1) pa_nil)) (nomark _)) (pw_or1 (pt_not (pt_val (pe_callB (cr_all rfl) (by rfl) T.b_all (by decide +kernel) (pa_cons (pe_lc (own := [("one", 6)]) (g := gName 6) rfl sc_need_task.nd (pi_tup (pv 2)) (blkOk_by (own := [("one", 6)]) (N := ["value", "kinds", "costs", "rows", "index", "row", "one"]) (sc := defScope s_need_task) (by decide +kernel)) (fun _ _ _ _ _ => by exact (pg_name (i := 6) sc_need_task.nd rfl (Or.inl rfl))) (fun _ _ _ _ _ => by exact pts_nil) (fun _ _ _ _ _ => by exact (pe_call G_is_small hr_is_small (by rfl) m_is_small k_is_small b_is_small .nil pass0 (pa_cons (pv 6) pa_nil)))) pa_nil))))))))
      (pss_one ps_never)
      pss_nil)
    (pss_cons (ps_if (PW.pt (pw_or (pt_not (pt_val (pe_callB (isiK (K := K)) (by rfl) T.b_isinstance (by decide +kernel) (pa_cons (pv 3) (pa_cons (pe_bltn (by rfl) T.b_tuple (by decide +kernel) (v := .ty "tuple") rfl) pa_nil))))) (pw_or1 (pt_cmpR op_gt (pe_callB (lenS (K := K)) (by rfl) T.b_len PySem.boot_len (pa_cons (pv 3) pa_nil)) (pe_glob (v := V.int 8) rfl g_MOST_ROWS ⟨_, rfl⟩) (nomark _)))))
      (pss_one ps_never)
      pss_nil)
    (pss_one (ps_for PassesOwn.never rfl (pi_enumG rfl T.b_enumerate (pa_cons (pv 3) pa_nil)) (pg_tup (by rfl) (pgs_cons (pg_name (i := 4) sc_need_task.nd rfl (Or.inl rfl)) (pgs_cons (pg_name (i := 5) sc_need_task.nd rfl (Or.inl rfl)) pgs_nil)))
      (pss_one (ps_if (pt_not (pt_val (pe_call G_is_row hr_is_row (by rfl) m_is_row k_is_row b_is_row .nil pass0 (pa_cons (pv 5) (pa_cons (pe_callB call_len_str (by rfl) T.b_len PySem.boot_len (pa_cons (pv 1) pa_nil)) pa_nil)))))
        (pss_one ps_never)
        pss_nil))))))))), ?_⟩
    have hk6 := O.k6
    have hk1 := O.k1
    have hm8 := O.m8
    refine ⟨_, rfl, _, .ty "tuple", _, _, true, rfl, .ty "tuple", tyX_tup ht.tk, kit_ty (by decide +kernel), _, rfl, iteF ?_⟩
    refine ⟨_, rfl, a, _, rfl, .inr ht.tk, rfl, _, rfl, iteF ?_⟩
    refine ⟨_, rfl, tup3 ht.tk ?_⟩
    refine ⟨_, rfl, _, .ty "str", _, _, true, rfl, .ty "str", .base (.str _), kit_ty (by decide +kernel), _, rfl, iteF ?_⟩
    refine ⟨_, rfl, _, rfl, by rw [kinds_len]; exact small (by omega), _, _, rfl, rfl, _, rfl, ?_⟩
    rw [kinds_len, decide_eq_true (show (1 : Int) ≤ (t.k : Int) by omega)]
    refine iteT ?_
    refine ⟨_, _, rfl, rfl, _, rfl, ?_⟩
    rw [decide_eq_true (show (t.k : Int) ≤ 6 by omega)]
    refine iteF ?_
    refine ⟨_, rfl, _, rfl, fun D hD => lc_map (walk_str (z := kindsS t.k t.plus)) (fun _ y _ => y = .bl false) (fun _ _ _ _ _ h => h) (by simp [kindsS]; omega) hD (fun _ _ => True.intro) ?_ ?_⟩
    · rintro i y H1 H2 Qy Qn hi s1 ⟨rfl, cc, ec, rfl⟩ kq
      have hi' : i < t.k := by simpa [kindsS] using hi
      rw [kinds_get hi'] at ec
      have ec' := Option.some.inj ec
      refine ⟨rfl, yesI ⟨_, rfl, cc, _, rfl, rfl, ?_⟩⟩
      have e1 : (!decide (cc ∈ (("+*" : Str)).cps.toList)) = false := by
        rw [← ec']
        split <;> decide +kernel
      rw [e1]
      exact kq _ _ (Same.refl _) rfl
    intro H1 xs s1 e hl hr
    have q := bls_eq (b := false) hl fun i hi => by
      obtain ⟨y, ey, rfl⟩ := hr i hi
      exact ey
    refine ⟨D, _, rfl, SqL.of (by rw [e, q]), false, by rw [any_rep], iteF ?_⟩
    have hc1 := s1.tup ht.cs
    refine ⟨_, rfl, _, .ty "tuple", _, _, true, rfl, .ty "tuple", tyX_tup hc1, kit_ty (by decide +kernel), _, rfl, iteF ?_⟩
    refine ⟨_, rfl, c, _, rfl, .inr hc1, _, rfl, _, rfl, by rw [kinds_len]; exact small (by omega), rfl, _, rfl, ?_⟩
    have e0 : (!decide (V.int ((iv t.k t.c).length : Int) = V.int ((kindsS t.k t.plus).length : Int))) = false := by rw [iv_len, kinds_len]; simp
    rw [e0]
    refine iteF ?_
    refine ⟨_, rfl, c, rfl, ⟨_, hc1⟩, fun D2 hD2 => lc_map (walk_tup (xs := iv t.k t.c)) (fun _ y _ => y = .bl true) (fun _ _ _ _ _ h => h) (by rw [iv_len]; omega) hD2 (fun H' s => s.tup hc1) ?_ ?_⟩
    · rintro i y H1 H2 Qy Qn hi s1 ⟨rfl, e⟩ kq
      obtain ⟨hi, rfl⟩ := iv_of e
      refine ⟨rfl, yesI ⟨_, rfl, _, rfl, O.c i hi, kq _ _ (Same.refl _) rfl⟩⟩
    intro H2 xs2 s2 e2 hl2 hr2
    have q2 := bls_eq (b := true) hl2 fun i hi => by
      obtain ⟨y, ey, rfl⟩ := hr2 i hi
      exact ey
    refine ⟨D2, _, rfl, SqL.of (by rw [e2, q2]), true, by rw [all_rep], iteF ?_⟩
    have s12 := s1.trans s2
    have hr1 := s12.tup ht.rw
    have hrl := ht.rows.1
    refine ⟨_, rfl, _, .ty "tuple", _, _, true, rfl, .ty "tuple", tyX_tup hr1, kit_ty (by decide +kernel), _, rfl, iteF ?_⟩
    refine ⟨_, rfl, r, _, rfl, .inr hr1, _, _, rfl, rfl, _, rfl, ?_⟩
    rw [decide_eq_false (show ¬ ((8 : Int) < (rs.length : Int)) by omega)]
    refine iteF ?_
    refine ⟨_, rfl, .T r, rs, rfl, hr1, for_it (walk_enumG (n := rs.length) rfl) (fun i σ H' => Same H2 H' ∧ ∃ u1 u2 u3 : Option V, σ = [some (.ref a), some (.str (kindsS t.k t.plus)), some (.ref c), some (.ref r), u1, u2, u3])
      ⟨Same.refl _, _, _, _, rfl⟩ (fun i σ H' _ p => p.1.tup hr1) ?_ ?_⟩
    · rintro i y σ H3 H4 hi ⟨s3, u1, u2, u3, rfl⟩ ⟨Tp, x1, x2, rfl, hT, rfl, e1, e2⟩
      cases e1
      obtain ⟨u, eu, hu⟩ := ht.rows.2 i (by omega)
      have eu2 : rs[i]? = some x2 := e2
      rw [eu2] at eu; cases eu
      refine tup2 (SqT.of upd_same) ?_
      have s4 : Same H2 (upd H3 Tp (.tup [V.int (i : Nat), x2])) := s3.trans (Same.new hT)
      refine ⟨_, rfl, _, rfl, _, rfl, by rw [kinds_len]; exact small (by omega), ?_⟩
      rw [kinds_len]
      refine ⟨_, _, _, _, _, rfl, hu.tp (s12.trans s4).tp, ⟨hk6, fun j hj => O.A i j (by omega) hj, O.b i (by omega)⟩, fun H5 s5 => ⟨_, rfl, iteF ⟨s4.trans s5, _, _, _, rfl⟩⟩⟩
    · rintro σ H3 ⟨s3, u1, u2, u3, rfl⟩
      exact k _ (s12.trans s3)
structure RtOk (n : Nat) (x : Nat → Rat) : Prop where
  n100 : n ≤ 100
def spNeedPlan (K : PySem.W.Frag) : Sp := fun vs H Q _ => ∃ (v u : V) (t : K6.Task) (x : Nat → Rat), vs = [v, u] ∧ Tk K H v t ∧ Rts K H u t.k x ∧ t.k ≤ 6 ∧ ∀ H', Same H H' → Q .non H'
theorem sc_need_plan : FnScope ["task", "value", "one"] ["task", "value"] (defScope s_need_plan) := ⟨rfl, rfl, rfl, by decide +kernel, rfl, by decide +kernel, by decide +kernel⟩
theorem ok_need_plan (T : Txt K mg C CN) : Has P w K mg base CX0 "need_plan" 3 ["task", "value"] (spNeedPlan K) := by
  obtain ⟨f, fd, mf, F, bf⟩ := T.d_need_plan
  obtain ⟨f_is_ratio, fd_is_ratio, m_is_ratio, k_is_ratio, b_is_ratio, G_is_ratio⟩ := ok_is_ratio (P := P) (w := w) (base := base) T
  refine ⟨f, fd, mf, F.kp, bf, F.ok sc_need_plan (fun vs H Q E h => ?_) (fun cdv A outer s H vs Q E hr h => ?_)⟩
  · obtain ⟨v, u, t, x, rfl, _⟩ := h
    rfl
  · obtain ⟨v, u, t, x, rfl, ⟨a, c, r, rs, rfl, ht⟩, ⟨b, qs, rfl, hb, hlen, hqs⟩, hk6, k⟩ := h
    have hr_is_ratio := hr.mono (j := 2) (by decide)
    refine ⟨_, PSs.nox (pss_one (ps_if (PW.pt (pw_or (pt_not (pt_val (pe_callB (isiK (K := K)) (by rfl) T.b_isinstance (by decide +kernel) (pa_cons (pv 1) (pa_cons (pe_bltn (by rfl) T.b_tuple (by decide +kernel) (v := .ty "tuple") rfl) pa_nil))))) (pw_or (pt_cmpR op_ne (pe_callB (lenS (K := K)) (by rfl) T.b_len PySem.boot_len (pa_cons (pv 1) pa_nil)) (pe_callB call_len_str (by rfl) T.b_len PySem.boot_len (pa_cons (pe_ix (ixT (K := K)) (pv 0) pe_int (fun _ _ => rfl)) pa_nil)) (nomark _)) (pw_or1 (pt_not (pt_val (pe_callB (cr_all rfl) (by rfl) T.b_all (by decide +kernel) (pa_cons (pe_lc (own := [("one", 2)]) (g := gName 2) rfl sc_need_plan.nd (pi_tup (pv 1)) (blkOk_by (own := [("one", 2)]) (N := ["task", "value", "one"]) (sc := defScope s_need_plan) (by decide +kernel)) (fun _ _ _ _ _ => by exact (pg_name (i := 2) sc_need_plan.nd rfl (Or.inl rfl))) (fun _ _ _ _ _ => by exact pts_nil) (fun _ _ _ _ _ => by exact (pe_call G_is_ratio hr_is_ratio (by rfl) m_is_ratio k_is_ratio b_is_ratio .nil pass0 (pa_cons (pv 2) pa_nil)))) pa_nil))))))))
      (pss_one ps_never)
      pss_nil)), ?_⟩
    refine ⟨_, rfl, _, .ty "tuple", _, _, true, rfl, .ty "tuple", tyX_tup hb, kit_ty (by decide +kernel), _, rfl, iteF ?_⟩
    refine ⟨_, rfl, b, _, rfl, .inr hb, _, rfl, a, _, _, _, rfl, rfl, ht.tk, rfl, _, rfl, by rw [kinds_len]; exact small (by omega), rfl, _, rfl, ?_⟩
    have e0 : (!decide (V.int (qs.length : Int) = V.int ((kindsS t.k t.plus).length : Int))) = false := by rw [hlen, kinds_len]; simp
    rw [e0]
    refine iteF ?_
    refine ⟨_, rfl, b, rfl, ⟨_, hb⟩, fun D hD => lc_map (walk_tup (xs := qs)) (fun _ y _ => y = .bl true) (fun _ _ _ _ _ h => h) (by omega) hD (fun H' s => s.tup hb) ?_ ?_⟩
    · rintro i y H1 H2 Qy Qn hi s1 ⟨rfl, e⟩ kq
      obtain ⟨y', ey, hy⟩ := hqs i (by omega)
      rw [e] at ey; cases ey
      refine ⟨rfl, yesI ⟨_, rfl, _, _, rfl, hy.tp s1.tp, kq _ _ (Same.refl _) rfl⟩⟩
    · intro H1 xs s1 e hl hr
      have q := bls_eq (b := true) hl fun i hi => by
        obtain ⟨y, ey, rfl⟩ := hr i hi
        exact ey
      exact ⟨D, _, rfl, SqL.of (by rw [e, q]), true, by rw [all_rep], iteF (k _ s1)⟩
def spNeedPaper (K : PySem.W.Frag) : Sp := fun vs H Q _ => ∃ (v u : V) (t : K6.Task) (x : Nat → Rat), vs = [v, u] ∧ Tk K H v t ∧ Rts K H u t.m x ∧ t.m ≤ 8 ∧ ∀ H', Same H H' → Q .non H'
theorem sc_need_paper : FnScope ["task", "value", "one"] ["task", "value"] (defScope s_need_paper) := ⟨rfl, rfl, rfl, by decide +kernel, rfl, by decide +kernel, by decide +kernel⟩
theorem ok_need_paper (T : Txt K mg C CN) : Has P w K mg base CX0 "need_paper" 3 ["task", "value"] (spNeedPaper K) := by
  obtain ⟨f, fd, mf, F, bf⟩ := T.d_need_paper
  obtain ⟨f_is_ratio, fd_is_ratio, m_is_ratio, k_is_ratio, b_is_ratio, G_is_ratio⟩ := ok_is_ratio (P := P) (w := w) (base := base) T
  refine ⟨f, fd, mf, F.kp, bf, F.ok sc_need_paper (fun vs H Q E h => ?_) (fun cdv A outer s H vs Q E hr h => ?_)⟩
  · obtain ⟨v, u, t, x, rfl, _⟩ := h
    rfl
  · obtain ⟨v, u, t, x, rfl, ⟨a, c, r, rs, rfl, ht⟩, ⟨b, qs, rfl, hb, hlen, hqs⟩, hm8, k⟩ := h
    have hr_is_ratio := hr.mono (j := 2) (by decide)
    refine ⟨_, PSs.nox (pss_one (ps_if (PW.pt (pw_or (pt_not (pt_val (pe_callB (isiK (K := K)) (by rfl) T.b_isinstance (by decide +kernel) (pa_cons (pv 1) (pa_cons (pe_bltn (by rfl) T.b_tuple (by decide +kernel) (v := .ty "tuple") rfl) pa_nil))))) (pw_or (pt_cmpR op_ne (pe_callB (lenS (K := K)) (by rfl) T.b_len PySem.boot_len (pa_cons (pv 1) pa_nil)) (pe_callB (lenS (K := K)) (by rfl) T.b_len PySem.boot_len (pa_cons (pe_ix (ixT (K := K)) (pv 0) pe_int (fun _ _ => rfl)) pa_nil)) (nomark _)) (pw_or1 (pt_not (pt_val (pe_callB (cr_all rfl) (by rfl) T.b_all (by decide +kernel) (pa_cons (pe_lc (own := [("one", 2)]) (g := gName 2) rfl sc_need_paper.nd (pi_tup (pv 1)) (blkOk_by (own := [("one", 2)]) (N := ["task", "value", "one"]) (sc := defScope s_need_paper) (by decide +kernel)) (fun _ _ _ _ _ => by exact (pg_name (i := 2) sc_need_paper.nd rfl (Or.inl rfl))) (fun _ _ _ _ _ => by exact pts_nil) (fun _ _ _ _ _ => by exact (pe_call G_is_ratio hr_is_ratio (by rfl) m_is_ratio k_is_ratio b_is_ratio .nil pass0 (pa_cons (pv 2) pa_nil)))) pa_nil))))))))
      (pss_one ps_never)
      pss_nil)), ?_⟩
    have hrl := ht.rows.1
    refine ⟨_, rfl, _, .ty "tuple", _, _, true, rfl, .ty "tuple", tyX_tup hb, kit_ty (by decide +kernel), _, rfl, iteF ?_⟩
    refine ⟨_, rfl, b, _, rfl, .inr hb, _, rfl, a, _, _, _, rfl, rfl, ht.tk, rfl, r, _, rfl, .inr ht.rw, rfl, _, rfl, ?_⟩
    have e0 : (!decide (V.int (qs.length : Int) = V.int (rs.length : Int))) = false := by rw [hlen, hrl]; simp
    rw [e0]
    refine iteF ?_
    refine ⟨_, rfl, b, rfl, ⟨_, hb⟩, fun D hD => lc_map (walk_tup (xs := qs)) (fun _ y _ => y = .bl true) (fun _ _ _ _ _ h => h) (by omega) hD (fun H' s => s.tup hb) ?_ ?_⟩
    · rintro i y H1 H2 Qy Qn hi s1 ⟨rfl, e⟩ kq
      obtain ⟨y', ey, hy⟩ := hqs i (by omega)
      rw [e] at ey; cases ey
      refine ⟨rfl, yesI ⟨_, rfl, _, _, rfl, hy.tp s1.tp, kq _ _ (Same.refl _) rfl⟩⟩
    · intro H1 xs s1 e hl hr
      have q := bls_eq (b := true) hl fun i hi => by
        obtain ⟨y, ey, rfl⟩ := hr i hi
        exact ey
      exact ⟨D, _, rfl, SqL.of (by rw [e, q]), true, by rw [all_rep], iteF (k _ s1)⟩
end
end G3
-- WTask2
set_option Elab.async false
set_option linter.all false
set_option maxRecDepth 100000
set_option maxHeartbeats 4000000
namespace G3
open PySem PySem.Spec PyProof.Rows L2
theorem sg_le (sg : K6.Sg) : decide (V.str (sgS sg) = V.str "<=") = decide (sg = .le) := by cases sg <;> decide +kernel
theorem sg_ge (sg : K6.Sg) : decide (V.str (sgS sg) = V.str ">=") = decide (sg = .ge) := by cases sg <;> decide +kernel
theorem sg_eq (sg : K6.Sg) : decide (V.str (sgS sg) = V.str "=") = decide (sg = .eq) := by cases sg <;> decide +kernel
theorem ki_plus (b : Bool) : decide (V.str ⟨#[if b = true then 43 else 42]⟩ = V.str "+") = b := by cases b <;> decide +kernel
theorem Rw.eqv {K : PySem.W.Frag} {H : Hp} {v : V} {k : Nat} {A A' : Nat → Int} {sg sg' : K6.Sg} {b b' : Int} (h : Rw K H v k A sg b) (e1 : ∀ j, j < k → A j = A' j) (e2 : sg = sg') (e3 : b = b') : Rw K H v k A' sg' b' := by
  subst e2 e3
  obtain ⟨a, c, e, ha, hc⟩ := h
  exact ⟨a, c, e, ha, by rw [← iv_congr e1]; exact hc⟩
section
variable {P : Program} {w : World} {K : PySem.W.Frag} {mg : Str → Option Value} {base : Heap} {C CN : Addr}
def spTurned (K : PySem.W.Frag) : Sp := fun vs H Q _ => ∃ (v : V) (k : Nat) (A : Nat → Int) (sg : K6.Sg) (b : Int), vs = [v] ∧ Rw K H v k A sg b ∧ k ≤ 100 ∧
  ∀ u H', Same H H' → Rw K H' u k (fun j => if sg = .le then - A j else A j) (if sg = .le then .ge else sg) (if sg = .le then - b else b) → Q u H'
theorem sc_turned_row : FnScope ["row", "one"] ["row"] (defScope s_turned_row) := ⟨rfl, rfl, rfl, by decide +kernel, rfl, by decide +kernel, by decide +kernel⟩
theorem ok_turned_row (T : Txt K mg C CN) : Has P w K mg base CX0 "turned_row" 1 ["row"] (spTurned K) := by
  obtain ⟨f, fd, mf, F, bf⟩ := T.d_turned_row
  refine ⟨f, fd, mf, F.kp, bf, F.ok sc_turned_row (fun vs H Q E h => ?_) (fun cdv A outer s H vs Q E hr h => ?_)⟩
  · obtain ⟨v, k, A, sg, b, rfl, _⟩ := h
    rfl
  · obtain ⟨v, kk, A', sg, b, rfl, ⟨a, c, rfl, ha, hc⟩, hk, k⟩ := h
    refine ⟨_, PSs.nox (pss_cons (ps_if (pt_cmpR op_eq (pe_ix (ixT (K := K)) (pv 0) pe_int (fun _ _ => rfl)) pe_str (nomark _))
      (pss_one (ps_ret (pe_tup (pa_cons (pe_callTy call_tuple_of (by rfl) T.b_tuple (by decide +kernel) (pa_cons (pe_lc (own := [("one", 1)]) (g := gName 1) rfl sc_turned_row.nd (pi_tup (pe_ix (ixT (K := K)) (pv 0) pe_int (fun _ _ => rfl))) (blkOk_by (own := [("one", 1)]) (N := ["row", "one"]) (sc := defScope s_turned_row) (by decide +kernel)) (fun _ _ _ _ _ => by exact (pg_name (i := 1) sc_turned_row.nd rfl (Or.inl rfl))) (fun _ _ _ _ _ => by exact pts_nil) (fun _ _ _ _ _ => by exact (pe_un un_neg (pv 1)))) pa_nil)) (pa_cons pe_str (pa_cons (pe_un un_neg (pe_ix (ixT (K := K)) (pv 0) pe_int (fun _ _ => rfl))) pa_nil))))))
      pss_nil)
    (pss_one (ps_ret (pv 0)))), ?_⟩
    refine ⟨_, rfl, a, _, _, _, rfl, rfl, ha, rfl, rfl, _, rfl, ?_⟩
    rw [sg_le]
    by_cases e : sg = .le
    · rw [decide_eq_true e]
      refine iteT ?_
      refine ⟨_, rfl, a, _, _, _, rfl, rfl, ha, rfl, c, rfl, ⟨_, hc⟩, fun D hD => lc_iv (walk_tup (xs := iv kk A')) (fun j => - A' j) (by rw [iv_len]; omega) hD (fun H' s => s.tup hc) ?_ ?_⟩
      · rintro i y H1 H2 Qy Qn hi s1 ⟨rfl, e⟩ kq
        obtain ⟨hi, rfl⟩ := iv_of e
        exact ⟨rfl, yesI ⟨_, rfl, _, rfl, kq _ (Same.refl _)⟩⟩
      · intro H1 s1 e1
        rw [iv_len] at e1
        refine ⟨D, _, rfl, .inl ⟨SqL.of e1, fun p hp => ?_⟩⟩
        have s2 := s1.trans (Same.new (o := .tup (iv kk fun j => - A' j)) hp)
        refine ⟨_, rfl, a, _, _, _, rfl, rfl, s2.tup ha, rfl, _, rfl, small (by show 3 ≤ 1000; decide), fun q hq => ?_⟩
        refine k _ _ (s2.trans (Same.new hq)) ?_
        rw [if_pos e, if_pos e]
        refine ⟨q, p, rfl, SqT.of upd_same, ?_⟩
        have hp2 : SqT K (upd (upd H1 p (.tup (iv kk fun j => - A' j))) q (.tup [.ref p, .str ">=", .int (-b)])) p (iv kk fun j => - A' j) := (Same.new hq).tup (SqT.of upd_same)
        rw [show (fun j => if sg = K6.Sg.le then - A' j else A' j) = fun j => - A' j from funext fun j => if_pos e]
        exact hp2
    · rw [decide_eq_false e]
      refine iteF ⟨_, rfl, ?_⟩
      refine k _ _ (Same.refl _) ?_
      rw [if_neg e, if_neg e, show (fun j => if sg = K6.Sg.le then - A' j else A' j) = A' from funext fun j => if_neg e]
      exact ⟨a, c, rfl, ha, hc⟩
def spPlain (K : PySem.W.Frag) : Sp := fun vs H Q _ => ∃ (v : V) (t : K6.Task), vs = [v] ∧ Tk K H v t ∧ t.k ≤ 100 ∧ t.m ≤ 100 ∧ ∀ u H', Same H H' → Tk K H' u (K6.plain t) → Q u H'
theorem sc_plain_of : FnScope ["task", "row"] ["task"] (defScope s_plain_of) := ⟨rfl, rfl, rfl, by decide +kernel, rfl, by decide +kernel, by decide +kernel⟩
theorem ok_plain_of (T : Txt K mg C CN) : Has P w K mg base CX0 "plain_of" 2 ["task"] (spPlain K) := by
  obtain ⟨f, fd, mf, F, bf⟩ := T.d_plain_of
  obtain ⟨f_turned_row, fd_turned_row, m_turned_row, k_turned_row, b_turned_row, G_turned_row⟩ := ok_turned_row (P := P) (w := w) (base := base) T
  refine ⟨f, fd, mf, F.kp, bf, F.ok sc_plain_of (fun vs H Q E h => ?_) (fun cdv A outer s H vs Q E hr h => ?_)⟩
  · obtain ⟨v, t, rfl, _⟩ := h
    rfl
  · obtain ⟨v, t, rfl, ⟨a, c, r, rs, rfl, ht⟩, hk, hm, k⟩ := h
    have hr_turned_row := hr.mono (j := 1) (by decide)
    have hl := ht.rows.1
    refine ⟨_, PSs.nox (pss_one (ps_ret (pe_tup (pa_cons (pe_ix (ixT (K := K)) (pv 0) pe_int (fun _ _ => rfl)) (pa_cons (pe_ix (ixT (K := K)) (pv 0) pe_int (fun _ _ => rfl)) (pa_cons (pe_callTy call_tuple_of (by rfl) T.b_tuple (by decide +kernel) (pa_cons (pe_lc (own := [("row", 1)]) (g := gName 1) rfl sc_plain_of.nd (pi_tup (pe_ix (ixT (K := K)) (pv 0) pe_int (fun _ _ => rfl))) (blkOk_by (own := [("row", 1)]) (N := ["task", "row"]) (sc := defScope s_plain_of) (by decide +kernel)) (fun _ _ _ _ _ => by exact (pg_name (i := 1) sc_plain_of.nd rfl (Or.inl rfl))) (fun _ _ _ _ _ => by exact pts_nil) (fun _ _ _ _ _ => by exact (pe_call G_turned_row hr_turned_row (by rfl) m_turned_row k_turned_row b_turned_row .nil pass0 (pa_cons (pv 1) pa_nil)))) pa_nil)) pa_nil)))))), ?_⟩
    refine ⟨_, rfl, a, _, _, _, rfl, rfl, ht.tk, rfl, _, rfl, a, _, _, _, rfl, rfl, ht.tk, rfl, _, rfl, a, _, _, _, rfl, rfl, ht.tk, rfl, r, rfl, ⟨_, ht.rw⟩, fun D hD =>
      lc_map (walk_tup (xs := rs)) (fun i y H => Rw K H y t.k ((K6.plain t).A i) ((K6.plain t).sg i) ((K6.plain t).b i)) (fun _ _ _ _ s h => h.tp s) (by omega) hD (fun H' s => s.tup ht.rw) ?_ ?_⟩
    · rintro i y H1 H2 Qy Qn hi s1 ⟨rfl, e⟩ kq
      obtain ⟨y', ey, hy⟩ := ht.rows.2 i (by omega)
      rw [e] at ey; cases ey
      exact ⟨rfl, yesI ⟨_, rfl, _, _, _, _, _, rfl, hy.tp s1.tp, hk, fun u H' s h => kq _ _ s h⟩⟩
    · intro H1 xs s1 e1 hxl hx
      refine ⟨D, _, rfl, .inl ⟨SqL.of e1, fun p hp => ⟨small (by show 3 ≤ 1000; decide), fun q hq => ?_⟩⟩⟩
      have s2 := Same.new (o := .tup xs) hp
      have s3 := Same.new (o := .tup [.str (kindsS t.k t.plus), .ref c, .ref p]) hq
      have s13 := s1.trans (s2.trans s3)
      refine k _ _ s13 ⟨q, c, p, xs, rfl, SqT.of upd_same, s13.tup ht.cs, s3.tup (SqT.of upd_same), by rw [hxl]; exact hl, fun i hi => ?_⟩
      obtain ⟨y, ey, hy⟩ := hx i (by have hi' : i < t.m := hi
                                     omega)
      exact ⟨y, ey, hy.tp (s2.trans s3).tp⟩
def spNeedIndex (K : PySem.W.Frag) : Sp := fun vs H Q _ => ∃ (v : V) (t : K6.Task) (i : Nat), vs = [v, .int (i : Int)] ∧ Tk K H v t ∧ i < t.m ∧ Q .non H
theorem sc_need_index : FnScope ["task", "value"] ["task", "value"] (defScope s_need_index) := ⟨rfl, rfl, rfl, by decide +kernel, rfl, by decide +kernel, by decide +kernel⟩
theorem ok_need_index (T : Txt K mg C CN) : Has P w K mg base CX0 "need_index" 2 ["task", "value"] (spNeedIndex K) := by
  obtain ⟨f, fd, mf, F, bf⟩ := T.d_need_index
  obtain ⟨f_is_int, fd_is_int, m_is_int, k_is_int, b_is_int, G_is_int⟩ := ok_is_int (P := P) (w := w) (base := base) T
  refine ⟨f, fd, mf, F.kp, bf, F.ok sc_need_index (fun vs H Q E h => ?_) (fun cdv A outer s H vs Q E hr h => ?_)⟩
  · obtain ⟨v, t, i, rfl, _⟩ := h
    rfl
  · obtain ⟨v, t, i, rfl, ⟨a, c, r, rs, rfl, ht⟩, hi, k⟩ := h
    have hr_is_int := hr.mono (j := 1) (by decide)
    have hl := ht.rows.1
    refine ⟨_, PSs.nox (pss_one (ps_if (PW.pt (pw_or (pt_not (pt_val (pe_call G_is_int hr_is_int (by rfl) m_is_int k_is_int b_is_int .nil pass0 (pa_cons (pv 1) pa_nil)))) (pw_or1 (pt_not (pt_chain op_le op_lt pe_int (pv 1) (pe_callB (lenS (K := K)) (by rfl) T.b_len PySem.boot_len (pa_cons (pe_ix (ixT (K := K)) (pv 0) pe_int (fun _ _ => rfl)) pa_nil)))))))
      (pss_one ps_never)
      pss_nil)), ?_⟩
    refine ⟨_, rfl, _, rfl, _, rfl, iteF ?_⟩
    refine ⟨_, rfl, _, _, rfl, rfl, _, rfl, ?_⟩
    rw [decide_eq_true (show (0 : Int) ≤ (i : Int) by omega)]
    refine iteT ⟨_, rfl, a, _, _, _, rfl, rfl, ht.tk, rfl, r, _, rfl, .inr ht.rw, _, _, rfl, rfl, _, rfl, ?_⟩
    rw [decide_eq_true (show (i : Int) < (rs.length : Int) by omega)]
    exact iteF k
def spNeedColumn (K : PySem.W.Frag) : Sp := fun vs H Q _ => ∃ (v : V) (t : K6.Task) (i : Nat), vs = [v, .int (i : Int)] ∧ Tk K H v t ∧ t.k ≤ 100 ∧ i < t.k ∧ Q .non H
theorem sc_need_column : FnScope ["task", "value"] ["task", "value"] (defScope s_need_column) := ⟨rfl, rfl, rfl, by decide +kernel, rfl, by decide +kernel, by decide +kernel⟩
theorem ok_need_column (T : Txt K mg C CN) : Has P w K mg base CX0 "need_column" 2 ["task", "value"] (spNeedColumn K) := by
  obtain ⟨f, fd, mf, F, bf⟩ := T.d_need_column
  obtain ⟨f_is_int, fd_is_int, m_is_int, k_is_int, b_is_int, G_is_int⟩ := ok_is_int (P := P) (w := w) (base := base) T
  refine ⟨f, fd, mf, F.kp, bf, F.ok sc_need_column (fun vs H Q E h => ?_) (fun cdv A outer s H vs Q E hr h => ?_)⟩
  · obtain ⟨v, t, i, rfl, _⟩ := h
    rfl
  · obtain ⟨v, t, i, rfl, ⟨a, c, r, rs, rfl, ht⟩, hk, hi, k⟩ := h
    have hr_is_int := hr.mono (j := 1) (by decide)
    refine ⟨_, PSs.nox (pss_one (ps_if (PW.pt (pw_or (pt_not (pt_val (pe_call G_is_int hr_is_int (by rfl) m_is_int k_is_int b_is_int .nil pass0 (pa_cons (pv 1) pa_nil)))) (pw_or1 (pt_not (pt_chain op_le op_lt pe_int (pv 1) (pe_callB call_len_str (by rfl) T.b_len PySem.boot_len (pa_cons (pe_ix (ixT (K := K)) (pv 0) pe_int (fun _ _ => rfl)) pa_nil)))))))
      (pss_one ps_never)
      pss_nil)), ?_⟩
    refine ⟨_, rfl, _, rfl, _, rfl, iteF ?_⟩
    refine ⟨_, rfl, _, _, rfl, rfl, _, rfl, ?_⟩
    rw [decide_eq_true (show (0 : Int) ≤ (i : Int) by omega)]
    refine iteT ⟨_, rfl, a, _, _, _, rfl, rfl, ht.tk, rfl, _, rfl, by rw [kinds_len]; exact small (by omega), _, _, rfl, rfl, _, rfl, ?_⟩
    rw [kinds_len, decide_eq_true (show (i : Int) < (t.k : Int) by omega)]
    exact iteF k
def spKept (K : PySem.W.Frag) : Sp := fun vs H Q _ => ∃ (v u : V) (t : K6.Task) (q : Rat), vs = [v, u] ∧ Tk K H v t ∧ Rt K H u q ∧ t.k ≤ 100 ∧ t.m ≤ 100 ∧ (∀ j, j < t.k → (t.c j).natAbs < 2 ^ 4000) ∧ q.den < 2 ^ 4000 ∧
  ∀ z H', Same H H' → Tk K H' z (K6.kept t q) → Q z H'
theorem sc_kept : FnScope ["task", "value", "row", "one"] ["task", "value"] (defScope s_kept) := ⟨rfl, rfl, rfl, by decide +kernel, rfl, by decide +kernel, by decide +kernel⟩
theorem ok_kept (T : Txt K mg C CN) : Has P w K mg base CX0 "kept" 1 ["task", "value"] (spKept K) := by
  obtain ⟨f, fd, mf, F, bf⟩ := T.d_kept
  refine ⟨f, fd, mf, F.kp, bf, F.ok sc_kept (fun vs H Q E h => ?_) (fun cdv A outer s H vs Q E hr h => ?_)⟩
  · obtain ⟨v, u, t, q, rfl, _⟩ := h
    rfl
  · obtain ⟨v, u, t, q, rfl, ⟨a, c, r, rs, rfl, ht⟩, ⟨b, rfl, hb⟩, hk, hm, hc, hd, k⟩ := h
    have hl := ht.rows.1
    refine ⟨_, PSs.nox (pss_cons (ps_set (i := 2) sc_kept.nd rfl (Or.inl rfl) (pe_tup (pa_cons (pe_callTy call_tuple_of (by rfl) T.b_tuple (by decide +kernel) (pa_cons (pe_lc (own := [("one", 3)]) (g := gName 3) rfl sc_kept.nd (pi_tup (pe_ix (ixT (K := K)) (pv 0) pe_int (fun _ _ => rfl))) (blkOk_by (own := [("one", 3)]) (N := ["task", "value", "row", "one"]) (sc := defScope s_kept) (by decide +kernel)) (fun _ _ _ _ _ => by exact (pg_name (i := 3) sc_kept.nd rfl (Or.inl rfl))) (fun _ _ _ _ _ => by exact pts_nil) (fun _ _ _ _ _ => by exact (pe_op op_mulW (pv 3) (pe_ix (ixT (K := K)) (pv 1) pe_int (fun _ _ => rfl))))) pa_nil)) (pa_cons pe_str (pa_cons (pe_ix (ixT (K := K)) (pv 1) pe_int (fun _ _ => rfl)) pa_nil)))))
    (pss_one (ps_ret (pe_tup (pa_cons (pe_ix (ixT (K := K)) (pv 0) pe_int (fun _ _ => rfl)) (pa_cons (pe_ix (ixT (K := K)) (pv 0) pe_int (fun _ _ => rfl)) (pa_cons (pe_tup (StX.pa_star (pe_ix (ixT (K := K)) (pv 0) pe_int (fun _ _ => rfl)) (pa_cons (pv 2) pa_nil))) pa_nil))))))), ?_⟩
    refine ⟨_, rfl, a, _, _, _, rfl, rfl, ht.tk, rfl, c, rfl, ⟨_, ht.cs⟩, fun D hD => lc_iv (walk_tup (xs := iv t.k t.c)) (fun j => t.c j * (q.den : Int)) (by rw [iv_len]; omega) hD (fun H' s => s.tup ht.cs) ?_ ?_⟩
    · rintro i y H1 H2 Qy Qn hi s1 ⟨rfl, e⟩ kq
      obtain ⟨hi, rfl⟩ := iv_of e
      exact ⟨rfl, yesI ⟨_, rfl, _, rfl, b, _, _, _, rfl, rfl, s1.tup hb, rfl, _, _, rfl, rfl, wide_mul (a := 4000) (b := 4000) (hc i hi) (show q.den < _ from hd) (by decide) (by decide) (by decide), kq _ (Same.refl _)⟩⟩
    · intro H1 s1 e1
      rw [iv_len] at e1
      refine ⟨D, _, rfl, .inl ⟨SqL.of e1, fun p hp => ?_⟩⟩
      have s2 := Same.new (o := .tup (iv t.k fun j => t.c j * (q.den : Int))) hp
      refine ⟨_, rfl, b, _, _, _, rfl, rfl, (s1.trans s2).tup hb, rfl, small (by show 3 ≤ 1000; decide), fun w hw => ?_⟩
      have s3 := Same.new (o := .tup [.ref p, .str "=", .int q.num]) hw
      have s13 := s1.trans (s2.trans s3)
      refine ⟨_, rfl, a, _, _, _, rfl, rfl, s13.tup ht.tk, rfl, _, rfl, a, _, _, _, rfl, rfl, s13.tup ht.tk, rfl, _, rfl, a, _, _, _, rfl, rfl, s13.tup ht.tk, rfl, r, rs, rfl, .inl (s13.tup ht.rw), _, rfl, ?_, fun x hx => ?_⟩
      · refine small ?_
        rw [List.length_append, hl]
        show t.m + 1 ≤ 1000
        omega
      · have s4 := Same.new (o := .tup (rs ++ [.ref w])) hx
        refine ⟨small (by show 3 ≤ 1000; decide), fun y hy => ?_⟩
        have s5 := Same.new (o := .tup [.str (kindsS t.k t.plus), .ref c, .ref x]) hy
        have s45 := s4.trans s5
        have s15 := s13.trans s45
        refine k _ _ s15 ⟨y, c, x, rs ++ [.ref w], rfl, SqT.of upd_same, s15.tup ht.cs, s5.tup (SqT.of upd_same), by rw [List.length_append, hl]; rfl, fun i hi => ?_⟩
        have hi' : i < t.m + 1 := hi
        by_cases ci : i < t.m
        · obtain ⟨z, ez, hz⟩ := ht.rows.2 i ci
          refine ⟨z, by rw [List.getElem?_append_left (by omega)]; exact ez, (hz.tp s15.tp).eqv (fun j _ => ?_) ?_ ?_⟩
          · show _ = if i < t.m then t.A i j else _
            rw [if_pos ci]
          · show _ = if i < t.m then t.sg i else _
            rw [if_pos ci]
          · show _ = if i < t.m then t.b i else _
            rw [if_pos ci]
        · have : i = t.m := by omega
          subst this
          refine ⟨.ref w, by rw [List.getElem?_append_right (by omega), hl]; simp, Rw.eqv (A := fun j => t.c j * (q.den : Int)) (sg := .eq) (b := q.num) ⟨w, p, rfl, s45.tup (SqT.of upd_same), (s3.trans s45).tup (SqT.of upd_same)⟩ (fun j _ => ?_) ?_ ?_⟩
          · show _ = if t.m < t.m then t.A t.m j else _
            rw [if_neg (Nat.lt_irrefl _)]
          · show _ = if t.m < t.m then t.sg t.m else _
            rw [if_neg (Nat.lt_irrefl _)]
          · show _ = if t.m < t.m then t.b t.m else _
            rw [if_neg (Nat.lt_irrefl _)]
/-- a tuple or a list of n ints -/
def Nums (K : PySem.W.Frag) (H : Hp) (v : V) (n : Nat) (f : Nat → Int) : Prop := ∃ a, v = .ref a ∧ (SqL K H a (iv n f) ∨ SqT K H a (iv n f))
theorem _root_.L2.Same.nums {K : PySem.W.Frag} {H H' : Hp} (s : Same H H') {v : V} {n : Nat} {f : Nat → Int} : Nums K H v n f → Nums K H' v n f := fun ⟨a, e, h⟩ => ⟨a, e, h.imp (fun q => s.seq q) fun q => s.tup q⟩
def spPriced (K : PySem.W.Frag) : Sp := fun vs H Q _ => ∃ (v u : V) (t : K6.Task) (d : Nat → Int), vs = [v, u] ∧ Tk K H v t ∧ Nums K H u t.k d ∧ ∀ z H', Same H H' → Tk K H' z (K6.priced t d) → Q z H'
theorem sc_priced : FnScope ["task", "costs"] ["task", "costs"] (defScope s_priced) := ⟨rfl, rfl, rfl, by decide +kernel, rfl, by decide +kernel, by decide +kernel⟩
theorem ok_priced (T : Txt K mg C CN) : Has P w K mg base CX0 "priced" 1 ["task", "costs"] (spPriced K) := by
  obtain ⟨f, fd, mf, F, bf⟩ := T.d_priced
  refine ⟨f, fd, mf, F.kp, bf, F.ok sc_priced (fun vs H Q E h => ?_) (fun cdv A outer s H vs Q E hr h => ?_)⟩
  · obtain ⟨v, u, t, q, rfl, _⟩ := h
    rfl
  · obtain ⟨v, u, t, d, rfl, ⟨a, c, r, rs, rfl, ht⟩, ⟨b, rfl, hb⟩, k⟩ := h
    refine ⟨_, PSs.nox (pss_one (ps_ret (pe_tup (pa_cons (pe_ix (ixT (K := K)) (pv 0) pe_int (fun _ _ => rfl)) (pa_cons (pe_callTy call_tuple_of (by rfl) T.b_tuple (by decide +kernel) (pa_cons (pv 1) pa_nil)) (pa_cons (pe_ix (ixT (K := K)) (pv 0) pe_int (fun _ _ => rfl)) pa_nil)))))), ?_⟩
    refine ⟨_, rfl, a, _, _, _, rfl, rfl, ht.tk, rfl, _, rfl, b, iv t.k d, rfl, ?_⟩
    rcases hb with hb | hb
    · refine .inl ⟨hb, fun p hp => ?_⟩
      have s1 := Same.new (o := .tup (iv t.k d)) hp
      refine ⟨_, rfl, a, _, _, _, rfl, rfl, s1.tup ht.tk, rfl, small (by show 3 ≤ 1000; decide), fun y hy => ?_⟩
      have s2 := Same.new (o := .tup [.str (kindsS t.k t.plus), .ref p, .ref r]) hy
      have s12 := s1.trans s2
      exact k _ _ s12 ⟨y, p, r, rs, rfl, SqT.of upd_same, s2.tup (SqT.of upd_same), s12.tup ht.rw, ht.rows.tp s12.tp⟩
    · refine .inr ⟨hb, ?_⟩
      refine ⟨_, rfl, a, _, _, _, rfl, rfl, ht.tk, rfl, small (by show 3 ≤ 1000; decide), fun y hy => ?_⟩
      have s2 := Same.new (o := .tup [.str (kindsS t.k t.plus), .ref b, .ref r]) hy
      exact k _ _ s2 ⟨y, b, r, rs, rfl, SqT.of upd_same, s2.tup hb, s2.tup ht.rw, ht.rows.tp s2.tp⟩
def spUnit (K : PySem.W.Frag) : Sp := fun vs H Q _ => ∃ (n i : Nat), vs = [.int (n : Int), .int (i : Int), .int 1] ∧ n ≤ 100 ∧ ∀ z H', Same H H' → Nums K H' z n (K6.unitC i) → Q z H'
theorem sc_unit : FnScope ["many", "at", "sign", "one"] ["many", "at", "sign"] (defScope s_unit) := ⟨rfl, rfl, rfl, by decide +kernel, rfl, by decide +kernel, by decide +kernel⟩
theorem ok_unit (T : Txt K mg C CN) : Has P w K mg base CX0 "unit" 1 ["many", "at", "sign"] (spUnit K) := by
  obtain ⟨f, fd, mf, F, bf⟩ := T.d_unit
  refine ⟨f, fd, mf, F.kp, bf, F.ok sc_unit (fun vs H Q E h => ?_) (fun cdv A outer s H vs Q E hr h => ?_)⟩
  · obtain ⟨n, i, rfl, _⟩ := h
    rfl
  · obtain ⟨n, i, rfl, hn, k⟩ := h
    refine ⟨_, PSs.nox (pss_one (ps_ret (pe_callTy call_tuple_of (by rfl) T.b_tuple (by decide +kernel) (pa_cons (pe_lc (own := [("one", 3)]) (g := gName 3) rfl sc_unit.nd (pi_range1 rfl T.b_range (pa_cons (pv 0) pa_nil)) (blkOk_by (own := [("one", 3)]) (N := ["many", "at", "sign", "one"]) (sc := defScope s_unit) (by decide +kernel)) (fun _ _ _ _ _ => by exact (pg_name (i := 3) sc_unit.nd rfl (Or.inl rfl))) (fun _ _ _ _ _ => by exact pts_nil) (fun _ _ _ _ _ => by exact (pe_ifExp (pt_cmpR op_eq (pv 3) (pv 1) (nomark _)) (pv 2) pe_int))) pa_nil)))), ?_⟩
    refine ⟨_, rfl, _, rfl, by omega, by omega, fun D hD => lc_iv (walk_range (lo := 0) (n := (n : Int).toNat)) (K6.unitC i) (by omega) hD (fun _ _ => True.intro) ?_ ?_⟩
    · rintro j y H1 H2 Qy Qn hi s1 ⟨rfl, rfl⟩ kq
      refine ⟨rfl, yesI ⟨_, rfl, _, rfl, rfl, _, rfl, ?_⟩⟩
      by_cases e : j = i
      · have e2 : decide (V.int (0 + (j : Int)) = V.int (i : Int)) = true := by subst e; simp
        rw [e2]
        refine iteT ⟨_, rfl, ?_⟩
        have q := kq _ (Same.refl _)
        unfold K6.unitC at q; rw [if_pos e] at q; exact q
      · have e2 : decide (V.int (0 + (j : Int)) = V.int (i : Int)) = false := by simp; omega
        rw [e2]
        refine iteF ?_
        have q := kq _ (Same.refl _)
        unfold K6.unitC at q; rw [if_neg e] at q; exact q
    · intro H1 s1 e1
      have e2 : (n : Int).toNat = n := by omega
      rw [e2] at e1
      refine ⟨D, _, rfl, .inl ⟨SqL.of e1, fun p hp => ?_⟩⟩
      exact k _ _ (s1.trans (Same.new hp)) ⟨p, rfl, .inr (SqT.of upd_same)⟩
def spSigned (K : PySem.W.Frag) : Sp := fun vs H Q _ => ∃ (v : V) (l : Addr) (ws : List V) (t : K6.Task) (x : Nat → Rat), vs = [v, .ref l] ∧ Tk K H v t ∧ SqL K H l ws ∧ RsL K H ws t.m x ∧ t.m ≤ 100 ∧
  ∀ z H', Same H H' → Rts K H' z t.m (K6.signedY t x) → Q z H'
theorem sc_signed : FnScope ["task", "weights", "row", "one"] ["task", "weights"] (defScope s_signed) := ⟨rfl, rfl, rfl, by decide +kernel, rfl, by decide +kernel, by decide +kernel⟩
theorem ok_signed (T : Txt K mg C CN) : Has P w K mg base CX0 "signed" 1 ["task", "weights"] (spSigned K) := by
  obtain ⟨f, fd, mf, F, bf⟩ := T.d_signed
  refine ⟨f, fd, mf, F.kp, bf, F.ok sc_signed (fun vs H Q E h => ?_) (fun cdv A outer s H vs Q E hr h => ?_)⟩
  · obtain ⟨v, l, ws, t, x, rfl, _⟩ := h
    rfl
  · obtain ⟨v, l, ws, t, x, rfl, ⟨a, c, r, rs, rfl, ht⟩, hl, hws, hm, k⟩ := h
    refine ⟨_, PSs.nox (pss_one (ps_ret (pe_callTy call_tuple_of (by rfl) T.b_tuple (by decide +kernel) (pa_cons (pe_lc (own := [("row", 2), ("one", 3)]) (g := gTup K 2 (gCons (gName 2) (gCons (gName 3) gNil))) rfl sc_signed.nd (pi_zipG rfl T.b_zip (pa_cons (pe_ix (ixT (K := K)) (pv 0) pe_int (fun _ _ => rfl)) (pa_cons (pv 1) pa_nil))) (blkOk_by (own := [("row", 2), ("one", 3)]) (N := ["task", "weights", "row", "one"]) (sc := defScope s_signed) (by decide +kernel)) (fun _ _ _ _ _ => by exact (pg_tup (by rfl) (pgs_cons (pg_name (i := 2) sc_signed.nd rfl (Or.inl rfl)) (pgs_cons (pg_name (i := 3) sc_signed.nd rfl (Or.inl rfl)) pgs_nil)))) (fun _ _ _ _ _ => by exact pts_nil) (fun _ _ _ _ _ => by exact (pe_ifExp (pt_cmpR op_eq (pe_ix (ixT (K := K)) (pv 2) pe_int (fun _ _ => rfl)) pe_str (nomark _)) (pe_tup (pa_cons (pe_un un_neg (pe_ix (ixT (K := K)) (pv 3) pe_int (fun _ _ => rfl))) (pa_cons (pe_ix (ixT (K := K)) (pv 3) pe_int (fun _ _ => rfl)) pa_nil))) (pv 3)))) pa_nil)))), ?_⟩
    refine ⟨_, rfl, a, _, _, _, rfl, rfl, ht.tk, rfl, _, rfl, .T r, .L l, rs, ws, rfl, ht.rw, hl, fun D hD =>
      lc_map (walk_zipG (n := t.m) ht.rows.1 hws.1) (fun i y H => Rt K H y (K6.signedY t x i)) (fun _ _ _ _ s h => h.tp s) (by omega) hD (fun H' s => ⟨s.tup ht.rw, s.seq hl⟩) ?_ ?_⟩
    · rintro i y H1 H2 Qy Qn hi s1 ⟨Tp, x1, x2, rfl, hT, rfl, e1, e2⟩ kq
      obtain ⟨u1, eu1, b, d, rfl, hb, hd⟩ := ht.rows.2 i hi
      cases e1.symm.trans eu1
      obtain ⟨u2, eu2, b2, rfl, hb2⟩ := hws.2 i hi
      cases e2.symm.trans eu2
      have s2 := s1.trans (Same.new (o := .tup [.ref b, .ref b2]) hT)
      refine tup2 (SqT.of upd_same) ⟨rfl, yesI ?_⟩
      refine ⟨_, rfl, b, _, _, _, rfl, rfl, s2.tup hb, rfl, rfl, _, rfl, ?_⟩
      rw [sg_le]
      by_cases e : t.sg i = .le
      · rw [decide_eq_true e]
        refine iteT ⟨_, rfl, b2, _, _, _, rfl, rfl, s2.tup hb2, rfl, _, rfl, _, rfl, b2, _, _, _, rfl, rfl, s2.tup hb2, rfl, small (by show 2 ≤ 1000; decide), fun p hp => ?_⟩
        refine kq _ _ ((Same.new hT).trans (Same.new hp)) ⟨p, rfl, SqT.of ?_⟩
        show _ = some (HO.tup [V.int (K6.signedY t x i).num, V.int ((K6.signedY t x i).den : Int)])
        unfold K6.signedY
        rw [if_pos e]; exact upd_same
      · rw [decide_eq_false e]
        refine iteF ⟨_, rfl, ?_⟩
        refine kq _ _ (Same.new hT) ⟨b2, rfl, ?_⟩
        unfold K6.signedY
        rw [if_neg e]; exact s2.tup hb2
    · intro H1 xs s1 e1 hxl hx
      refine ⟨D, _, rfl, .inl ⟨SqL.of e1, fun p hp => ?_⟩⟩
      have s2 := Same.new (o := .tup xs) hp
      refine k _ _ (s1.trans s2) ⟨p, xs, rfl, SqT.of upd_same, hxl, fun i hi => ?_⟩
      obtain ⟨y, ey, hy⟩ := hx i hi
      exact ⟨y, ey, hy.tp s2.tp⟩
end
end G3
-- WSpread
set_option Elab.async false
set_option linter.all false
set_option maxRecDepth 100000
set_option maxHeartbeats 4000000
namespace G3
open PySem PySem.Spec PyProof.Rows L2
/-- all but one as it was -/
def But (a : Addr) (H H' : Hp) : Prop := ∀ b o, b ≠ a → H b = some o → H' b = some o
theorem But.refl (a : Addr) (H : Hp) : But a H H := fun _ _ _ h => h
theorem But.same {a : Addr} {H H1 H' : Hp} (s : Same H H1) (h : H a = none) (b : But a H1 H') : Same H H' := fun c o e => b c o (ne_of_none e h) (s c o e)
theorem But.then {a : Addr} {H H1 H2 : Hp} (b : But a H H1) (s : Same H1 H2) : But a H H2 := fun c o n e => s c o (b c o n e)
theorem But.write {a : Addr} {H H1 : Hp} {o : HO} (b : But a H H1) : But a H (upd H1 a o) := fun c u n e => by rw [upd_ne n]; exact b c u n e
theorem But.tp {a : Addr} {H H' : Hp} {xs : List V} (b : But a H H') (h : H a = some (.lst xs)) : Tp H H' :=
  ⟨fun c ys e => b c _ (ne_of e h (by intro q; cases q)) e, fun c o u e => b c _ (ne_of e h (by intro q; cases q)) e⟩
theorem iv_ext {n : Nat} {f g : Nat → Int} (h : ∀ i, i < n → f i = g i) : iv n f = iv n g := iv_congr h
/-- the filtered places -/
theorem slk_list (ge : Nat → Bool) : ∀ m, (((List.range m).filter ge).map fun (i : Nat) => V.int (i : Int)) = iv (K6.spos ge m) (fun q => (K6.slkAt ge m q : Int))
  | 0 => rfl
  | m + 1 => by
    have ih := slk_list ge m
    rw [List.range_succ, List.filter_append, List.map_append, ih]
    have e0 : iv (K6.spos ge m) (fun q => (K6.slkAt ge m q : Int)) = iv (K6.spos ge m) (fun q => (K6.slkAt ge (m + 1) q : Int)) := iv_congr fun q hq => by
      show _ = (((if q < K6.spos ge m then K6.slkAt ge m q else m : Nat)) : Int)
      rw [if_pos hq]
    cases hg : ge m with
    | true =>
      have e1 : K6.spos ge (m + 1) = K6.spos ge m + 1 := by
        show K6.spos ge m + (if ge m = true then 1 else 0) = _
        rw [if_pos hg]
      have e2 : K6.slkAt ge (m + 1) (K6.spos ge m) = m := if_neg (Nat.lt_irrefl _)
      rw [e1, iv_snoc, e0, e2, List.filter_cons, if_pos hg]; rfl
    | false =>
      have e1 : K6.spos ge (m + 1) = K6.spos ge m := by
        show K6.spos ge m + (if ge m = true then 1 else 0) = _
        rw [if_neg (by rw [hg]; decide)]; rfl
      rw [e1, ← e0, List.filter_cons, if_neg (by rw [hg]; decide)]
      show _ ++ [] = _
      rw [List.append_nil]
theorem spos_le (ge : Nat → Bool) : ∀ m, K6.spos ge m ≤ m
  | 0 => Nat.le_refl 0
  | m + 1 => by
    have := spos_le ge m
    show K6.spos ge m + (if ge m = true then 1 else 0) ≤ m + 1
    split <;> omega
theorem pos_le (plus : Nat → Bool) : ∀ k, K6.pos plus k ≤ 2 * k
  | 0 => Nat.le_refl 0
  | k + 1 => by
    have := pos_le plus k
    show K6.pos plus k + (if plus k = true then 1 else 2) ≤ 2 * (k + 1)
    split <;> omega
/-- one column more -/
theorem cols_more {plus : Nat → Bool} {k j : Nat} (hj : j < k) (c : Nat → Int) : iv (K6.pos plus j) (fun q => (K6.colAt plus k q).2 * c (K6.colAt plus k q).1) ++ (if plus j = true then [V.int (c j)] else [V.int (c j), V.int (- c j)]) =
    iv (K6.pos plus (j + 1)) (fun q => (K6.colAt plus k q).2 * c (K6.colAt plus k q).1) := by
  have e1 := K6.colAt_pos (plus := plus) hj
  have ep : K6.pos plus (j + 1) = K6.pos plus j + (if plus j = true then 1 else 2) := rfl
  cases hp : plus j with
  | true =>
    rw [if_pos rfl]
    rw [hp, if_pos rfl] at ep
    rw [ep, iv_snoc, e1]
    show _ = _ ++ [V.int (1 * c j)]
    rw [Int.one_mul]
  | false =>
    have e2 := K6.colAt_pos1 (plus := plus) hj hp
    rw [if_neg Bool.false_ne_true]
    rw [hp, if_neg Bool.false_ne_true] at ep
    rw [ep, iv_snoc, iv_snoc, e1, e2]
    show _ = (_ ++ [V.int (1 * c j)]) ++ [V.int (-1 * c j)]
    rw [Int.one_mul, Int.neg_one_mul, List.append_assoc]; rfl
theorem sum_ones : ∀ n : Nat, ((List.range n).map fun _ => 1).sum = n
  | 0 => rfl
  | n + 1 => by
    rw [List.range_succ, List.map_append, List.sum_append, sum_ones n]; rfl
theorem join_one : ∀ (l : List Nat), TL.joinL [] (l.map fun c => [c]) = l
  | [] => rfl
  | [_] => rfl
  | a :: b :: l => by
    show [a] ++ ([] ++ TL.joinL [] ((b :: l).map fun c => [c])) = a :: b :: l
    rw [join_one (b :: l)]; rfl
theorem join_kinds (k : Nat) (plus : Nat → Bool) : Txt.join ("" : Str) ((List.range k).map fun j => (⟨#[if plus j = true then 43 else 42]⟩ : Str)) = kindsS k plus := by
  rw [TL.join_eq]
  have h := TL.tl_join ("" : Str) ((List.range k).map fun j => (⟨#[if plus j = true then 43 else 42]⟩ : Str))
  have e1 : TL.tl ("" : Str) = [] := by decide +kernel
  rw [e1, List.map_map] at h
  have e2 : (TL.tl ∘ fun j => (⟨#[if plus j = true then 43 else 42]⟩ : Str)) = (fun c => [c]) ∘ fun j => if plus j = true then 43 else 42 := rfl
  rw [e2, ← List.map_map, join_one] at h
  rw [← TL.mk_tl (Str.join _ _), h]; rfl
section
variable {P : Program} {w : World} {K : PySem.W.Frag} {mg : Str → Option Value} {base : Heap} {C CN : Addr}
def spOther (K : PySem.W.Frag) : Sp := fun vs H Q _ => ∃ (v : V) (t : K6.Task), vs = [v] ∧ Tk K H v t ∧ t.k ≤ 100 ∧ t.m ≤ 100 ∧ ∀ u H', Same H H' → Tk K H' u (K6.other t) → Q u H'
theorem sc_other_of : FnScope ["task", "found", "signs", "kinds", "costs", "rows", "at", "kind", "coefs", "row"] ["task"] (defScope s_other_of) := ⟨rfl, rfl, rfl, by decide +kernel, rfl, by decide +kernel, by decide +kernel⟩
theorem ok_other_of (T : Txt K mg C CN) : Has P w K mg base CX0 "other_of" 3 ["task"] (spOther K) := by
  obtain ⟨f, fd, mf, F, bf⟩ := T.d_other_of
  obtain ⟨f_plain_of, fd_plain_of, m_plain_of, k_plain_of, b_plain_of, G_plain_of⟩ := ok_plain_of (P := P) (w := w) (base := base) T
  refine ⟨f, fd, mf, F.kp, bf, F.ok sc_other_of (fun vs H Q E h => ?_) (fun cdv A outer s H vs Q E hr h => ?_)⟩
  · obtain ⟨v, t, rfl, _⟩ := h
    rfl
  · obtain ⟨v, t, rfl, ht0, hk, hm, k⟩ := h
    have hr_plain_of := hr.mono (j := 2) (by decide)
    refine ⟨_, PSs.nox (pss_cons (ps_asg (pe_call G_plain_of hr_plain_of (by rfl) m_plain_of k_plain_of b_plain_of .nil pass0 (pa_cons (pv 0) pa_nil)) (pg_tup (by rfl) (pgs_cons (pg_name (i := 3) sc_other_of.nd rfl (Or.inl rfl)) (pgs_cons (pg_name (i := 4) sc_other_of.nd rfl (Or.inl rfl)) (pgs_cons (pg_name (i := 5) sc_other_of.nd rfl (Or.inl rfl)) pgs_nil)))))
    (pss_cons (ps_set (i := 1) sc_other_of.nd rfl (Or.inl rfl) (pe_lst pa_nil))
    (pss_cons (ps_for PassesOwn.never rfl (pi_enumG rfl T.b_enumerate (pa_cons (pv 3) pa_nil)) (pg_tup (by rfl) (pgs_cons (pg_name (i := 6) sc_other_of.nd rfl (Or.inr rfl)) (pgs_cons (pg_name (i := 7) sc_other_of.nd rfl (Or.inl rfl)) pgs_nil)))
      (pss_cons (ps_set (i := 8) sc_other_of.nd rfl (Or.inl rfl) (pe_callTy call_tuple_of (by rfl) T.b_tuple (by decide +kernel) (pa_cons (pe_lc (own := [("row", 9)]) (g := gName 9) rfl sc_other_of.nd (pi_tup (pv 5)) (blkOk_by (own := [("row", 9)]) (N := ["task", "found", "signs", "kinds", "costs", "rows", "at", "kind", "coefs", "row"]) (sc := defScope s_other_of) (by decide +kernel)) (fun _ _ _ _ _ => by exact (pg_name (i := 9) sc_other_of.nd rfl (Or.inl rfl))) (fun _ _ _ _ _ => by exact pts_nil) (fun _ _ _ _ _ => by exact (pe_un un_neg (pe_ix (ixT (K := K)) (pe_ix (ixT (K := K)) (pv 9) pe_int (fun _ _ => rfl)) (pv 6) (fun _ _ => rfl))))) pa_nil)))
      (pss_one (ps_expr (pe_bm PySem.F.plainAttrs_list PySem.F.slot_list_append PySem.F.type_list_append mt_append (pv 1) (pa_cons (pe_tup (pa_cons (pv 8) (pa_cons (pe_ifExp (pt_cmpR op_eq (pv 7) pe_str (nomark _)) pe_str pe_str) (pa_cons (pe_un un_neg (pe_ix (ixT (K := K)) (pv 4) (pv 6) (fun _ _ => rfl))) pa_nil)))) pa_nil))))))
    (pss_cons (ps_set (i := 2) sc_other_of.nd rfl (Or.inl rfl) (pe_join pe_str (pe_lc (own := [("row", 9)]) (g := gName 9) rfl sc_other_of.nd (pi_tup (pv 5)) (blkOk_by (own := [("row", 9)]) (N := ["task", "found", "signs", "kinds", "costs", "rows", "at", "kind", "coefs", "row"]) (sc := defScope s_other_of) (by decide +kernel)) (fun _ _ _ _ _ => by exact (pg_name (i := 9) sc_other_of.nd rfl (Or.inl rfl))) (fun _ _ _ _ _ => by exact pts_nil) (fun _ _ _ _ _ => by exact (pe_ifExp (pt_cmpR op_eq (pe_ix (ixT (K := K)) (pv 9) pe_int (fun _ _ => rfl)) pe_str (nomark _)) pe_str pe_str)))))
    (pss_one (ps_ret (pe_tup (pa_cons (pv 2) (pa_cons (pe_callTy call_tuple_of (by rfl) T.b_tuple (by decide +kernel) (pa_cons (pe_lc (own := [("row", 9)]) (g := gName 9) rfl sc_other_of.nd (pi_tup (pv 5)) (blkOk_by (own := [("row", 9)]) (N := ["task", "found", "signs", "kinds", "costs", "rows", "at", "kind", "coefs", "row"]) (sc := defScope s_other_of) (by decide +kernel)) (fun _ _ _ _ _ => by exact (pg_name (i := 9) sc_other_of.nd rfl (Or.inl rfl))) (fun _ _ _ _ _ => by exact pts_nil) (fun _ _ _ _ _ => by exact (pe_un un_neg (pe_ix (ixT (K := K)) (pv 9) pe_int (fun _ _ => rfl))))) pa_nil)) (pa_cons (pe_callTy call_tuple_of (by rfl) T.b_tuple (by decide +kernel) (pa_cons (pv 1) pa_nil)) pa_nil)))))))))), ?_⟩
    refine ⟨_, rfl, _, _, rfl, ht0, hk, hm, fun u0 H1 s1 ⟨a, c, r, rs, ea, ht⟩ => ?_⟩
    subst ea
    have hrl : rs.length = t.m := ht.rows.1
    refine tup3 ht.tk ?_
    refine ⟨Nat.zero_le _, fun l hl => ?_⟩
    -- the loop over the columns
    refine ⟨_, rfl, .S (kindsS t.k t.plus), signs (kindsS t.k t.plus), rfl, rfl, for_it (walk_enumG (p := .S (kindsS t.k t.plus)) (n := t.k) (signs_len _ _))
      (fun i σ H' => Same H1 H' ∧ (∃ u1 u2 u3 : Option V, σ = [some v, some (.ref l), none, some (.str (kindsS t.k t.plus)), some (.ref c), some (.ref r), u1, u2, u3, none]) ∧
        ∃ acc, H' l = some (.lst acc) ∧ acc.length = i ∧ ∀ j, j < i → ∃ y, acc[j]? = some y ∧ Rw K H' y t.m ((K6.other t).A j) ((K6.other t).sg j) ((K6.other t).b j))
      ⟨Same.new hl, ⟨_, _, _, rfl⟩, [], upd_same, rfl, fun j hj => absurd hj (Nat.not_lt_zero j)⟩ (fun _ _ _ _ _ => rfl) ?_ ?_⟩
    · rintro i y σ H2 H3 hi ⟨s2, ⟨u1, u2, u3, rfl⟩, acc, hacc, hal, har⟩ ⟨Tq, x1, x2, rfl, hT, rfl, e1, e2⟩
      cases e1
      have e2' : (signs (kindsS t.k t.plus))[i]? = some x2 := e2
      rw [signs_get hi] at e2'; cases e2'
      refine tup2 (SqT.of upd_same) ?_
      have s3 := Same.new (o := .tup [V.int (i : Nat), V.str ⟨#[if t.plus i = true then 43 else 42]⟩]) hT
      have s23 := s2.trans s3
      refine ⟨_, rfl, r, rfl, ⟨_, s23.tup ht.rw⟩, fun D hD => lc_iv (walk_tup (xs := rs)) (fun i' => - (K6.plain t).A i' i) (by omega) hD (fun H' s => s.tup (s23.tup ht.rw)) ?_ ?_⟩
      · rintro j y H4 H5 Qy Qn hj s4 ⟨rfl, e⟩ kq
        obtain ⟨y', ey, b, d, rfl, hb, hd⟩ := ht.rows.2 j (by show j < t.m; omega)
        rw [e] at ey; cases ey
        have s24 := s23.trans s4
        refine ⟨rfl, yesI ⟨_, rfl, b, _, _, _, rfl, rfl, s24.tup hb, rfl, _, rfl, d, _, _, _, rfl, rfl, s24.tup hd, atI_nat (iv_get hi), _, rfl, kq _ (Same.refl _)⟩⟩
      · intro H4 s4 e4
        rw [hrl] at e4
        refine ⟨D, _, rfl, .inl ⟨SqL.of e4, fun p hp => ?_⟩⟩
        have s5 := Same.new (o := .tup (iv t.m fun i' => - (K6.plain t).A i' i)) hp
        have s25 := s3.trans (s4.trans s5)
        have hacc5 : (upd H4 p (.tup (iv t.m fun i' => - (K6.plain t).A i' i))) l = some (.lst acc) := s25 _ _ hacc
        have hsg : sgS ((K6.other t).sg i) = if t.plus i = true then ">=" else "=" := by
          show sgS (if t.plus i = true then .ge else .eq) = _
          cases t.plus i <;> rfl
        refine ⟨_, rfl, .inl ⟨rfl, _, SqL.of hacc5⟩, _, rfl, _, rfl, rfl, _, rfl, ?_⟩
        rw [ki_plus]
        cases hp : t.plus i
        all_goals
          rw [hp] at hsg
          first
            | refine iteT ?_
            | refine iteF ?_
          refine ⟨_, rfl, _, rfl, c, _, _, _, rfl, rfl, (s2.trans s25).tup ht.cs, atI_nat (iv_get hi), _, rfl, small (by show 3 ≤ 1000; decide), fun q hq => ?_⟩
          have s6 := Same.new (o := .tup [.ref p, .str (sgS ((K6.other t).sg i)), .int (- (K6.plain t).c i)]) hq
          rw [hsg] at s6
          have s26 := s25.trans s6
          refine ⟨l, acc, _, rfl, rfl, s6 _ _ hacc5, small1000 (by omega), ⟨Same.mut ((s2.trans s25).trans s6) hl, ⟨_, _, _, rfl⟩, _, upd_same, by rw [List.length_append, hal]; rfl, fun j hj => ?_⟩⟩
          have tpL : Tp _ _ := Tp.updL (ys := acc ++ [.ref q]) (s6 _ _ hacc5)
          by_cases cj : j < i
          · obtain ⟨y, ey, hy⟩ := har j cj
            exact ⟨y, by rw [List.getElem?_append_left (by omega)]; exact ey, (hy.tp s26.tp).tp tpL⟩
          · have : j = i := by omega
            subst this
            refine ⟨.ref q, by rw [List.getElem?_append_right (by omega), hal]; simp, Rw.tp tpL ⟨q, p, rfl, ?_, s6.tup (SqT.of upd_same)⟩⟩
            rw [hsg]
            exact SqT.of upd_same
    · rintro σ H2 ⟨s2, ⟨u1, u2, u3, rfl⟩, acc, hacc, hal, har⟩
      -- the signs
      refine ⟨⟨_, rfl⟩, _, rfl, r, rfl, ⟨_, s2.tup ht.rw⟩, fun D hD => lc_map (walk_tup (xs := rs)) (fun j y _ => y = .str ⟨#[if K6.geAt (K6.plain t) j = true then 43 else 42]⟩) (fun _ _ _ _ _ h => h) (by omega) hD (fun H' s => s.tup (s2.tup ht.rw)) ?_ ?_⟩
      · rintro j y H4 H5 Qy Qn hj s4 ⟨rfl, e⟩ kq
        obtain ⟨y', ey, b, d, rfl, hb, hd⟩ := ht.rows.2 j (by show j < t.m; omega)
        rw [e] at ey; cases ey
        have s24 := s2.trans s4
        refine ⟨rfl, yesI ⟨_, rfl, b, _, _, _, rfl, rfl, s24.tup hb, rfl, rfl, _, rfl, ?_⟩⟩
        rw [sg_ge]
        have k2 := kq _ _ (Same.refl _) rfl
        unfold K6.geAt at k2
        cases hp : decide ((K6.plain t).sg j = K6.Sg.ge)
        all_goals
          rw [hp] at k2
          first
            | refine iteT ?_
            | refine iteF ?_
          exact k2
      · intro H4 xs s4 e4 hxl hxr
        have exs : xs = ((List.range t.m).map fun j => (⟨#[if K6.geAt (K6.plain t) j = true then 43 else 42]⟩ : Str)).map V.str := by
          apply List.ext_getElem?
          intro i
          by_cases hi : i < t.m
          · obtain ⟨y, ey, rfl⟩ := hxr i (by omega)
            rw [ey]; simp [hi]
          · rw [List.getElem?_eq_none (by omega), List.getElem?_eq_none (by simp; omega)]
        have hlen : ((((List.range t.m).map fun j => (⟨#[if K6.geAt (K6.plain t) j = true then 43 else 42]⟩ : Str)).map (·.length)).sum) = t.m := by
          rw [List.map_map]
          have : (fun x : Str => x.length) ∘ (fun j => (⟨#[if K6.geAt (K6.plain t) j = true then 43 else 42]⟩ : Str)) = fun _ => 1 := rfl
          rw [this]; exact sum_ones t.m
        refine ⟨_, D, _, rfl, rfl, .inl (SqL.of (by rw [e4, exs])), ?_, ?_⟩
        · rw [hlen]
          have e0 : (("" : Str)).length = 0 := by decide +kernel
          rw [e0]; omega
        · rw [join_kinds]
          have s24 := s2.trans s4
          refine ⟨_, rfl, _, rfl, r, rfl, ⟨_, s24.tup ht.rw⟩, fun D2 hD2 => lc_iv (walk_tup (xs := rs)) (fun j => - (K6.plain t).b j) (by omega) hD2 (fun H' s => s.tup (s24.tup ht.rw)) ?_ ?_⟩
          · rintro j y H5 H6 Qy Qn hj s5 ⟨rfl, e⟩ kq
            obtain ⟨y', ey, b, d, rfl, hb, hd⟩ := ht.rows.2 j (by show j < t.m; omega)
            rw [e] at ey; cases ey
            exact ⟨rfl, yesI ⟨_, rfl, b, _, _, _, rfl, rfl, (s24.trans s5).tup hb, rfl, _, rfl, kq _ (Same.refl _)⟩⟩
          · intro H5 s5 e5
            rw [hrl] at e5
            refine ⟨D2, _, rfl, .inl ⟨SqL.of e5, fun p hp => ?_⟩⟩
            have s6 := Same.new (o := .tup (iv t.m fun j => - (K6.plain t).b j)) hp
            have s46 := s4.trans (s5.trans s6)
            refine ⟨_, rfl, l, _, rfl, .inl ⟨SqL.of (s46 _ _ hacc), fun q hq => ?_⟩⟩
            have s7 := Same.new (o := .tup acc) hq
            refine ⟨small (by show 3 ≤ 1000; decide), fun z hz => ?_⟩
            have s8 := Same.new (o := .tup [.str (kindsS t.m (K6.geAt (K6.plain t))), .ref p, .ref q]) hz
            have s28 := s2.trans (s46.trans (s7.trans s8))
            refine k _ _ (s1.trans s28) ⟨z, p, q, acc, rfl, SqT.of upd_same, (s7.trans s8).tup (SqT.of upd_same), s8.tup (SqT.of upd_same), hal, fun j hj => ?_⟩
            obtain ⟨y, ey, hy⟩ := har j hj
            exact ⟨y, ey, hy.tp (s46.trans (s7.trans s8)).tp⟩
end
end G3
-- WSpread2
set_option Elab.async false
set_option linter.all false
set_option maxRecDepth 100000
set_option maxHeartbeats 4000000
namespace G3
open PySem PySem.Spec PyProof.Rows L2
theorem line_lo {t : K6.Task} (i : Nat) : iv (K6.nL t) (fun q => (K6.colAt t.plus t.k q).2 * t.A i (K6.colAt t.plus t.k q).1) ++ iv (K6.nS t) (fun q => if K6.slkAt (K6.geAt t) t.m q = i then -1 else 0) = iv (K6.nn t) (K6.lineT t i) := by
  rw [iv_append]
  refine iv_congr fun q hq => ?_
  unfold K6.lineT
  rfl
theorem price_lo {t : K6.Task} : iv (K6.nL t) (fun q => (K6.colAt t.plus t.k q).2 * t.c (K6.colAt t.plus t.k q).1) ++ iv (K6.nS t) (fun _ => 0) = iv (K6.nn t) (K6.priceT t) := by
  rw [iv_append]
  refine iv_congr fun q hq => ?_
  unfold K6.priceT
  rfl
theorem rep_zero (n : Nat) (z : Int) : (List.replicate n [V.int z]).flatten = iv n (fun _ => z) := by
  induction n with
  | zero => rfl
  | succ n ih =>
    rw [List.replicate_succ, List.flatten_cons, ih]
    refine iv_eq (by simp [iv_len]) fun i hi => ?_
    cases i with
    | zero => rfl
    | succ i => exact iv_get (f := fun _ => z) (show i < n by omega)
section
variable {P : Program} {w : World} {K : PySem.W.Frag} {mg : Str → Option Value} {base : Heap} {C CN : Addr}
/-- the rows of a plain task in columns not below 0, and their costs -/
structure SprA (K : PySem.W.Frag) (H : Hp) (lf lp : Addr) (ls : List V) (t : K6.Task) : Prop where
  lf : H lf = some (.lst ls)
  ll : ls.length = t.m
  row : ∀ i, i < t.m → ∃ a, ls[i]? = some (.ref a) ∧ H a = some (.lst (iv (K6.nn t) (K6.lineT t i)))
  lp : H lp = some (.lst (iv (K6.nn t) (K6.priceT t)))
def spSpread (K : PySem.W.Frag) : Sp := fun vs H Q _ => ∃ (v : V) (t : K6.Task), vs = [v] ∧ Tk K H v t ∧ t.k ≤ 20 ∧ t.m ≤ 20 ∧
  ∀ p lf lp ls H', Same H H' → SqT K H' p [.ref lf, .ref lp] → SprA K H' lf lp ls t → Q (.ref p) H'
theorem sc_spread : FnScope ["task", "slack", "kinds", "costs", "rows", "found", "prices", "kind", "one", "index", "row", "line", "at"] ["task"] (defScope s_spread) := ⟨rfl, rfl, rfl, by decide +kernel, rfl, by decide +kernel, by decide +kernel⟩
theorem ok_spread (T : Txt K mg C CN) : Has P w K mg base CX0 "spread" 1 ["task"] (spSpread K) := by
  obtain ⟨f, fd, mf, F, bf⟩ := T.d_spread
  refine ⟨f, fd, mf, F.kp, bf, F.ok sc_spread (fun vs H Q E h => ?_) (fun cdv A outer s H vs Q E hr h => ?_)⟩
  · obtain ⟨v, t, rfl, _⟩ := h
    rfl
  · obtain ⟨v, t, rfl, ⟨a, c, r, rs, rfl, ht⟩, hk, hm, k⟩ := h
    have hrl : rs.length = t.m := ht.rows.1
    have hpk : K6.pos t.plus t.k ≤ 2 * t.k := pos_le _ _
    have hsm : K6.spos (K6.geAt t) t.m ≤ t.m := spos_le _ _
    refine ⟨_, PSs.nox (pss_cons (ps_asg (pv 0) (pg_tup (by rfl) (pgs_cons (pg_name (i := 2) sc_spread.nd rfl (Or.inl rfl)) (pgs_cons (pg_name (i := 3) sc_spread.nd rfl (Or.inl rfl)) (pgs_cons (pg_name (i := 4) sc_spread.nd rfl (Or.inl rfl)) pgs_nil)))))
    (pss_cons (ps_setLc (i := 1) (own := [("at", 12), ("row", 10)]) (g := gTup K 2 (gCons (gName 12) (gCons (gName 10) gNil))) rfl sc_spread.nd rfl rfl (sw_true rfl rfl rfl (by decide +kernel)) (pi_enumG rfl T.b_enumerate (pa_cons (pv 4) pa_nil)) (blkOk_by (own := [("at", 12), ("row", 10)]) (N := ["task", "slack", "kinds", "costs", "rows", "found", "prices", "kind", "one", "index", "row", "line", "at"]) (sc := defScope s_spread) (by decide +kernel)) (fun _ _ _ _ _ => by exact (pg_tup (by rfl) (pgs_cons (pg_name (i := 12) sc_spread.nd rfl (Or.inl rfl)) (pgs_cons (pg_name (i := 10) sc_spread.nd rfl (Or.inl rfl)) pgs_nil)))) (fun _ _ _ _ _ => by exact (pts_one (pt_cmpR op_eq (pe_ix (ixT (K := K)) (pv 10) pe_int (fun _ _ => rfl)) pe_str (nomark _)))) (fun _ _ _ _ _ => by exact (pv 12)))
    (pss_cons (ps_par (i := 5) (j := 6) rfl sc_spread.nd rfl rfl (by decide) rfl rfl (pa_cons (pe_lst pa_nil) (pa_cons (pe_lst pa_nil) pa_nil)) (by rfl))
    (pss_cons (ps_for PassesOwn.never rfl (pi_zipG rfl T.b_zip (pa_cons (pv 2) (pa_cons (pv 3) pa_nil))) (pg_tup (by rfl) (pgs_cons (pg_name (i := 7) sc_spread.nd rfl (Or.inl rfl)) (pgs_cons (pg_name (i := 8) sc_spread.nd rfl (Or.inl rfl)) pgs_nil)))
      (pss_one (ps_expr (pe_bm PySem.F.plainAttrs_list PySem.F.slot_list_extend PySem.F.type_list_extend mt_extend (pv 6) (pa_cons (pe_ifExp (pt_cmpR op_eq (pv 7) pe_str (nomark _)) (pe_lst (pa_cons (pv 8) pa_nil)) (pe_lst (pa_cons (pv 8) (pa_cons (pe_un un_neg (pv 8)) pa_nil)))) pa_nil)))))
    (pss_cons (ps_expr (pe_bm PySem.F.plainAttrs_list PySem.F.slot_list_extend PySem.F.type_list_extend mt_extend (pv 6) (pa_cons (pe_op op_rep (pe_lst (pa_cons pe_int pa_nil)) (pe_callB (lenS (K := K)) (by rfl) T.b_len PySem.boot_len (pa_cons (pv 1) pa_nil))) pa_nil)))
    (pss_cons (ps_for PassesOwn.never rfl (pi_enumG rfl T.b_enumerate (pa_cons (pv 4) pa_nil)) (pg_tup (by rfl) (pgs_cons (pg_name (i := 9) sc_spread.nd rfl (Or.inr rfl)) (pgs_cons (pg_name (i := 10) sc_spread.nd rfl (Or.inl rfl)) pgs_nil)))
      (pss_cons (ps_set (i := 11) sc_spread.nd rfl (Or.inl rfl) (pe_lst pa_nil))
      (pss_cons (ps_for PassesOwn.never rfl (pi_zipG rfl T.b_zip (pa_cons (pv 2) (pa_cons (pe_ix (ixT (K := K)) (pv 10) pe_int (fun _ _ => rfl)) pa_nil))) (pg_tup (by rfl) (pgs_cons (pg_name (i := 7) sc_spread.nd rfl (Or.inl rfl)) (pgs_cons (pg_name (i := 8) sc_spread.nd rfl (Or.inl rfl)) pgs_nil)))
        (pss_one (ps_expr (pe_bm PySem.F.plainAttrs_list PySem.F.slot_list_extend PySem.F.type_list_extend mt_extend (pv 11) (pa_cons (pe_ifExp (pt_cmpR op_eq (pv 7) pe_str (nomark _)) (pe_lst (pa_cons (pv 8) pa_nil)) (pe_lst (pa_cons (pv 8) (pa_cons (pe_un un_neg (pv 8)) pa_nil)))) pa_nil)))))
      (pss_cons (ps_expr (pe_bm PySem.F.plainAttrs_list PySem.F.slot_list_extend PySem.F.type_list_extend mt_extend (pv 11) (pa_cons (pe_lc (own := [("at", 12)]) (g := gName 12) rfl sc_spread.nd (pi_list (pv 1)) (blkOk_by (own := [("at", 12)]) (N := ["task", "slack", "kinds", "costs", "rows", "found", "prices", "kind", "one", "index", "row", "line", "at"]) (sc := defScope s_spread) (by decide +kernel)) (fun _ _ _ _ _ => by exact (pg_name (i := 12) sc_spread.nd rfl (Or.inl rfl))) (fun _ _ _ _ _ => by exact pts_nil) (fun _ _ _ _ _ => by exact (pe_ifExp (pt_cmpR op_eq (pv 12) (pv 9) (nomark _)) (pe_un un_neg pe_int) pe_int))) pa_nil)))
      (pss_one (ps_expr (pe_bm PySem.F.plainAttrs_list PySem.F.slot_list_append PySem.F.type_list_append mt_append (pv 5) (pa_cons (pv 11) pa_nil))))))))
    (pss_one (ps_ret (pe_tup (pa_cons (pv 5) (pa_cons (pv 6) pa_nil))))))))))), ?_⟩
    refine ⟨_, rfl, tup3 ht.tk ?_⟩
    -- the slack columns
    refine ⟨_, rfl, .T r, rs, rfl, ht.rw, fun D hD => lc_filter (walk_enumG (p := .T r) (n := t.m) hrl) (K6.geAt t) (fun (i : Nat) => V.int (i : Int)) (by omega) hD (fun H' s => s.tup ht.rw) ?_ ?_⟩
    · rintro j y H1 H2 Qy Qn hj s1 ⟨Tq, x1, x2, rfl, hT, rfl, e1, e2⟩ ky kn
      cases e1
      obtain ⟨y', ey, b, d, rfl, hb, hd⟩ := ht.rows.2 j hj
      have e2' : rs[j]? = some x2 := e2
      rw [e2'] at ey; cases ey
      have s2 := s1.trans (Same.new (o := .tup [V.int (j : Nat), .ref b]) hT)
      refine tup2 (SqT.of upd_same) ⟨rfl, _, rfl, b, _, _, _, rfl, rfl, s2.tup hb, rfl, rfl, _, rfl, ?_⟩
      rw [sg_ge]
      cases hp : decide (t.sg j = K6.Sg.ge)
      · exact iteF (kn hp _ (Same.new hT))
      · exact iteT ⟨_, rfl, ky hp _ (Same.new hT)⟩
    intro H1 s1 e1
    rw [slk_list] at e1
    -- found, prices = [], []
    refine ⟨Nat.zero_le _, fun lf hlf => ⟨Nat.zero_le _, fun lp hlp => ⟨_, _, rfl, ?_⟩⟩⟩
    have sf := Same.new (o := .lst []) hlf
    have h2f : (upd H1 lf (.lst [])) lf = some (.lst []) := upd_same
    have nfp : lf ≠ lp := ne_of_none h2f hlp
    have hlp1 : H1 lp = none := sf.free hlp
    -- the costs of the columns
    refine ⟨_, rfl, _, rfl, .S (kindsS t.k t.plus), .T c, signs (kindsS t.k t.plus), iv t.k t.c, rfl, rfl, (s1.trans (sf.trans (Same.new hlp))).tup ht.cs, for_it (walk_zipG (p := .S (kindsS t.k t.plus)) (q := .T c) (n := t.k) (signs_len _ _) (iv_len _ _))
      (fun i σ H' => Same (upd H1 lf (.lst [])) H' ∧ (∃ u1 u2 : Option V, σ = [some (.ref a), some (.ref D), some (.str (kindsS t.k t.plus)), some (.ref c), some (.ref r), some (.ref lf), some (.ref lp), u1, u2, none, none, none, none]) ∧
        H' lp = some (.lst (iv (K6.pos t.plus i) (fun q => (K6.colAt t.plus t.k q).2 * t.c (K6.colAt t.plus t.k q).1))))
      ⟨Same.new hlp, ⟨_, _, rfl⟩, upd_same⟩ (fun i σ H' _ p => ⟨rfl, (s1.trans (sf.trans p.1)).tup ht.cs⟩) ?_ ?_⟩
    · rintro i y σ H2 H3 hi ⟨s2, ⟨u1, u2, rfl⟩, hpr⟩ ⟨Tq, x1, x2, rfl, hT, rfl, e1, e2⟩
      have e1' : (signs (kindsS t.k t.plus))[i]? = some x1 := e1
      rw [signs_get hi] at e1'; cases e1'
      have e2' : (iv t.k t.c)[i]? = some x2 := e2
      rw [iv_get hi] at e2'; cases e2'
      have s3 := Same.new (o := .tup [V.str ⟨#[if t.plus i = true then 43 else 42]⟩, V.int (t.c i)]) hT
      have hpr3 := s3 _ _ hpr
      have hcm := cols_more (plus := t.plus) hi t.c
      refine tup2 (SqT.of upd_same) ⟨_, rfl, .inl ⟨rfl, _, SqL.of hpr3⟩, _, rfl, rfl, _, rfl, ?_⟩
      rw [ki_plus]
      cases hp : t.plus i
      · rw [hp] at s3 hpr3
        rw [hp, if_neg Bool.false_ne_true] at hcm
        refine iteF ⟨_, rfl, _, rfl, _, rfl, small (by show 2 ≤ 1000; decide), fun q hq => ?_⟩
        have s4 := Same.new (o := .lst [V.int (t.c i), V.int (- t.c i)]) hq
        refine ⟨lp, q, _, _, rfl, rfl, s4 _ _ hpr3, upd_same, small ?_, ⟨(s2.trans (s3.trans s4)).mut hlp, ⟨_, _, rfl⟩, by rw [← hcm]; exact upd_same⟩⟩
        rw [iv_len]
        have := K6.pos_mono (plus := t.plus) (j := i) (k := t.k) (by omega)
        show _ + 2 ≤ 1000
        omega
      · rw [hp] at s3 hpr3
        rw [hp, if_pos rfl] at hcm
        refine iteT ⟨_, rfl, small (by show 1 ≤ 1000; decide), fun q hq => ?_⟩
        have s4 := Same.new (o := .lst [V.int (t.c i)]) hq
        refine ⟨lp, q, _, _, rfl, rfl, s4 _ _ hpr3, upd_same, small ?_, ⟨(s2.trans (s3.trans s4)).mut hlp, ⟨_, _, rfl⟩, by rw [← hcm]; exact upd_same⟩⟩
        rw [iv_len]
        have := K6.pos_mono (plus := t.plus) (j := i) (k := t.k) (by omega)
        show _ + 1 ≤ 1000
        omega
    rintro σ H2 ⟨s2, ⟨u1, u2, rfl⟩, hpr⟩
    have sD := (sf.trans s2) _ _ e1
    -- prices.extend([0] * len(slack))
    refine ⟨_, rfl, .inl ⟨rfl, _, SqL.of hpr⟩, small (by show 1 ≤ 1000; decide), fun q1 hq1 => ?_⟩
    have s3 := Same.new (o := .lst [V.int 0]) hq1
    refine ⟨_, rfl, D, _, rfl, .inl (SqL.of (s3 _ _ sD)), _, _, _, rfl, rfl, upd_same, ?_, ?_, ?_, fun q2 hq2 => ?_⟩
    · rw [iv_len]; omega
    · rw [iv_len]; omega
    · rw [iv_len]; refine small ?_; show 1 * _ ≤ 1000; omega
    have s4 := Same.new (o := .lst (List.replicate ((iv (K6.spos (K6.geAt t) t.m) fun q => (K6.slkAt (K6.geAt t) t.m q : Int)).length : Int).toNat [V.int 0]).flatten) hq2
    have s34 := s3.trans s4
    refine ⟨lp, q2, _, _, rfl, rfl, s34 _ _ hpr, upd_same, ?_, ?_⟩
    · refine small ?_
      rw [rep_zero, iv_len, iv_len, iv_len]; omega
    have hpr4 : (upd (upd (upd H2 q1 (.lst [V.int 0])) q2 (.lst (List.replicate ((iv (K6.spos (K6.geAt t) t.m) fun q => (K6.slkAt (K6.geAt t) t.m q : Int)).length : Int).toNat [V.int 0]).flatten)) lp (.lst (iv (K6.pos t.plus t.k) (fun q => (K6.colAt t.plus t.k q).2 * t.c (K6.colAt t.plus t.k q).1) ++ (List.replicate ((iv (K6.spos (K6.geAt t) t.m) fun q => (K6.slkAt (K6.geAt t) t.m q : Int)).length : Int).toNat [V.int 0]).flatten))) lp = some (.lst (iv (K6.nn t) (K6.priceT t))) := by
      rw [upd_same, rep_zero, iv_len]
      exact congrArg (fun z => some (HO.lst z)) price_lo
    generalize hH5 : (upd (upd (upd H2 q1 (.lst [V.int 0])) q2 (.lst (List.replicate ((iv (K6.spos (K6.geAt t) t.m) fun q => (K6.slkAt (K6.geAt t) t.m q : Int)).length : Int).toNat [V.int 0]).flatten)) lp (.lst (iv (K6.pos t.plus t.k) (fun q => (K6.colAt t.plus t.k q).2 * t.c (K6.colAt t.plus t.k q).1) ++ (List.replicate ((iv (K6.spos (K6.geAt t) t.m) fun q => (K6.slkAt (K6.geAt t) t.m q : Int)).length : Int).toNat [V.int 0]).flatten))) = H5 at *
    have s5 : Same (upd H1 lf (.lst [])) H5 := by rw [← hH5]; exact (s2.trans s34).mut hlp
    clear hH5 s4 s34 hq2 q2 s3 hq1 q1 hpr s2
    have s15 : Same H1 H5 := sf.trans s5
    have s05 : Same H H5 := s1.trans s15
    have hf5 : H5 lf = some (.lst []) := s5 _ _ h2f
    -- the rows
    refine ⟨_, rfl, .T r, rs, rfl, s05.tup ht.rw, for_it (walk_enumG (p := .T r) (n := t.m) hrl)
      (fun i σ H' => But lf H5 H' ∧ (∃ u1 u2 u3 u4 u5 : Option V, σ = [some (.ref a), some (.ref D), some (.str (kindsS t.k t.plus)), some (.ref c), some (.ref r), some (.ref lf), some (.ref lp), u1, u2, u3, u4, u5, none]) ∧
        ∃ acc, H' lf = some (.lst acc) ∧ acc.length = i ∧ ∀ j, j < i → ∃ b, acc[j]? = some (.ref b) ∧ b ≠ lf ∧ H' b = some (.lst (iv (K6.nn t) (K6.lineT t j))))
      ⟨But.refl _ _, ⟨_, _, _, _, _, rfl⟩, [], hf5, rfl, fun j hj => absurd hj (Nat.not_lt_zero j)⟩ (fun i σ H' _ p => (But.same s15 hlf p.1 |> s1.trans).tup ht.rw) ?_ ?_⟩
    · rintro i y σ H6 H7 hi ⟨b6, ⟨u1, u2, u3, u4, u5, rfl⟩, acc, hacc, hal, har⟩ ⟨Tq, x1, x2, rfl, hT, rfl, e1', e2⟩
      cases e1'
      obtain ⟨y', ey, b, d, rfl, hb, hd⟩ := ht.rows.2 i hi
      have e2' : rs[i]? = some x2 := e2
      rw [e2'] at ey; cases ey
      have s06 : Same H H6 := s1.trans (But.same s15 hlf b6)
      have s67 := Same.new (o := .tup [V.int (i : Nat), .ref b]) hT
      have s07 := s06.trans s67
      refine tup2 (SqT.of upd_same) ⟨Nat.zero_le _, fun ll hll => ?_⟩
      have s78 := Same.new (o := .lst []) hll
      -- the columns of the row
      refine ⟨_, rfl, _, rfl, b, _, _, _, rfl, rfl, (s07.trans s78).tup hb, rfl, .S (kindsS t.k t.plus), .T d, signs (kindsS t.k t.plus), iv t.k (t.A i), rfl, rfl, (s07.trans s78).tup hd, for_it (walk_zipG (p := .S (kindsS t.k t.plus)) (q := .T d) (n := t.k) (signs_len _ _) (iv_len _ _))
        (fun i' σ H' => Same (upd H6 Tq (.tup [V.int (i : Nat), .ref b])) H' ∧ (∃ u1 u2 : Option V, σ = [some (.ref a), some (.ref D), some (.str (kindsS t.k t.plus)), some (.ref c), some (.ref r), some (.ref lf), some (.ref lp), u1, u2, some (.int (i : Nat)), some (.ref b), some (.ref ll), none]) ∧
          H' ll = some (.lst (iv (K6.pos t.plus i') (fun q => (K6.colAt t.plus t.k q).2 * t.A i (K6.colAt t.plus t.k q).1))))
        ⟨s78, ⟨_, _, rfl⟩, upd_same⟩ (fun i σ H' _ p => ⟨rfl, (s07.trans p.1).tup hd⟩) ?_ ?_⟩
      · rintro i' y σ H2 H3 hi' ⟨s2, ⟨u1, u2, rfl⟩, hpr⟩ ⟨Tr, x1, x2, rfl, hT2, rfl, e1, e2⟩
        have e1' : (signs (kindsS t.k t.plus))[i']? = some x1 := e1
        rw [signs_get hi'] at e1'; cases e1'
        have e2' : (iv t.k (t.A i))[i']? = some x2 := e2
        rw [iv_get hi'] at e2'; cases e2'
        have s3 := Same.new (o := .tup [V.str ⟨#[if t.plus i' = true then 43 else 42]⟩, V.int (t.A i i')]) hT2
        have hpr3 := s3 _ _ hpr
        have hcm := cols_more (plus := t.plus) hi' (t.A i)
        refine tup2 (SqT.of upd_same) ⟨_, rfl, .inl ⟨rfl, _, SqL.of hpr3⟩, _, rfl, rfl, _, rfl, ?_⟩
        rw [ki_plus]
        cases hp : t.plus i'
        · rw [hp] at s3 hpr3
          rw [hp, if_neg Bool.false_ne_true] at hcm
          refine iteF ⟨_, rfl, _, rfl, _, rfl, small (by show 2 ≤ 1000; decide), fun q hq => ?_⟩
          have s4 := Same.new (o := .lst [V.int (t.A i i'), V.int (- t.A i i')]) hq
          refine ⟨ll, q, _, _, rfl, rfl, s4 _ _ hpr3, upd_same, small ?_, ⟨(s2.trans (s3.trans s4)).mut hll, ⟨_, _, rfl⟩, by rw [← hcm]; exact upd_same⟩⟩
          rw [iv_len]
          have := K6.pos_mono (plus := t.plus) (j := i') (k := t.k) (by omega)
          show _ + 2 ≤ 1000
          omega
        · rw [hp] at s3 hpr3
          rw [hp, if_pos rfl] at hcm
          refine iteT ⟨_, rfl, small (by show 1 ≤ 1000; decide), fun q hq => ?_⟩
          have s4 := Same.new (o := .lst [V.int (t.A i i')]) hq
          refine ⟨ll, q, _, _, rfl, rfl, s4 _ _ hpr3, upd_same, small ?_, ⟨(s2.trans (s3.trans s4)).mut hll, ⟨_, _, rfl⟩, by rw [← hcm]; exact upd_same⟩⟩
          rw [iv_len]
          have := K6.pos_mono (plus := t.plus) (j := i') (k := t.k) (by omega)
          show _ + 1 ≤ 1000
          omega
      rintro σ H8 ⟨s8, ⟨u1, u2, rfl⟩, hln⟩
      have b8 : But lf H5 H8 := b6.then (s67.trans s8)
      have sD8 : H8 D = some (.lst (iv (K6.spos (K6.geAt t) t.m) (fun q => (K6.slkAt (K6.geAt t) t.m q : Int)))) := (But.same s15 hlf b8) _ _ e1
      have nll : H6 ll = none := s67.free hll
      refine ⟨_, rfl, .inl ⟨rfl, _, SqL.of hln⟩, _, rfl, D, rfl, ⟨_, SqL.of sD8⟩, fun D2 hD2 => lc_iv (walk_list (xs := iv (K6.spos (K6.geAt t) t.m) (fun q => (K6.slkAt (K6.geAt t) t.m q : Int)))) (fun q => if K6.slkAt (K6.geAt t) t.m q = i then -1 else 0) (by rw [iv_len]; omega) hD2 (fun H' s => s.seq (SqL.of sD8)) ?_ ?_⟩
      · rintro j y H2 H3 Qy Qn hj s2 ⟨rfl, e⟩ kq
        obtain ⟨hj', rfl⟩ := iv_of e
        refine ⟨rfl, yesI ⟨_, rfl, _, rfl, rfl, _, rfl, ?_⟩⟩
        have k2 := kq _ (Same.refl _)
        by_cases ce : K6.slkAt (K6.geAt t) t.m j = i
        · have e2 : decide (V.int (K6.slkAt (K6.geAt t) t.m j : Int) = V.int (i : Nat)) = true := by rw [ce]; simp
          rw [if_pos ce] at k2
          rw [e2]
          exact iteT ⟨_, rfl, k2⟩
        · have e2 : decide (V.int (K6.slkAt (K6.geAt t) t.m j : Int) = V.int (i : Nat)) = false := by simp; omega
          rw [if_neg ce] at k2
          rw [e2]
          exact iteF k2
      intro H9 s9 e9
      rw [iv_len] at e9
      have hln9 := s9 _ _ hln
      refine ⟨ll, D2, _, _, rfl, rfl, hln9, e9, small ?_, ?_⟩
      · rw [iv_len, iv_len]; omega
      -- found.append(line)
      have hacc9 : H9 lf = some (.lst acc) := (s67.trans (s8.trans s9)) _ _ hacc
      have nfl : lf ≠ ll := ne_of_none hacc nll
      have hline : (iv (K6.pos t.plus t.k) (fun q => (K6.colAt t.plus t.k q).2 * t.A i (K6.colAt t.plus t.k q).1) ++ iv (K6.spos (K6.geAt t) t.m) (fun q => if K6.slkAt (K6.geAt t) t.m q = i then -1 else 0)) = iv (K6.nn t) (K6.lineT t i) := line_lo i
      rw [hline]
      have hf10 : (upd H9 ll (.lst (iv (K6.nn t) (K6.lineT t i)))) lf = some (.lst acc) := by rw [upd_ne nfl]; exact hacc9
      refine ⟨_, rfl, .inl ⟨rfl, _, SqL.of hf10⟩, _, rfl, lf, acc, _, rfl, rfl, hf10, small1000 (by omega), ?_⟩
      have s69 : Same H6 H9 := s67.trans (s8.trans s9)
      refine ⟨fun x o hx e => ?_, ⟨_, _, _, _, _, rfl⟩, _, upd_same, by rw [List.length_append, hal]; rfl, fun j hj => ?_⟩
      · have e6 := b6 x o hx e
        rw [upd_ne hx, upd_ne (ne_of_none e6 nll)]
        exact s69 _ _ e6
      · by_cases cj : j < i
        · obtain ⟨b', eb, nb, hb'⟩ := har j cj
          refine ⟨b', by rw [List.getElem?_append_left (by omega)]; exact eb, nb, ?_⟩
          rw [upd_ne nb, upd_ne (ne_of_none hb' nll)]
          exact s69 _ _ hb'
        · have : j = i := by omega
          subst this
          refine ⟨ll, by rw [List.getElem?_append_right (by omega), hal]; simp, nfl.symm, ?_⟩
          rw [upd_ne nfl.symm, upd_same]
    · rintro σ H6 ⟨b6, ⟨u1, u2, u3, u4, u5, rfl⟩, acc, hacc, hal, har⟩
      refine ⟨_, rfl, _, rfl, small (by show 2 ≤ 1000; decide), fun p hp => ?_⟩
      have s7 := Same.new (o := .tup [.ref lf, .ref lp]) hp
      refine k p lf lp acc _ ((s1.trans (But.same s15 hlf b6)).trans s7) (SqT.of upd_same) ⟨s7 _ _ hacc, hal, fun i hi => ?_, s7 _ _ (b6 lp _ nfp.symm hpr4)⟩
      obtain ⟨b, eb, _, hb⟩ := har i hi
      exact ⟨b, eb, s7 _ _ hb⟩
end
end G3
-- WGrid
set_option Elab.async false
set_option linter.all false
set_option maxRecDepth 100000
set_option maxHeartbeats 4000000
namespace G3
open PySem PySem.Spec PyProof.Rows L2
theorem iv_last (n : Nat) (f : Nat → Int) : atI (iv (n + 1) f) (-1) = some (.int (f n)) := by
  rw [iv_snoc]; exact atI_last _ _
theorem eqvAll_ints : ∀ ns ms : List Int, PyData.eqvAll (ns.map PyData.int) (ms.map PyData.int) = decide (ns = ms)
  | [], [] => by simp [PyData.eqvAll]
  | [], _ :: _ => by simp [PyData.eqvAll]
  | _ :: _, [] => by simp [PyData.eqvAll]
  | a :: r, b :: t => by
    simp only [List.map_cons, PyData.eqvAll, PyData.eqv, eqvAll_ints r t]
    by_cases h : a = b <;> by_cases h' : r = t <;> simp [h, h']
theorem shaped_tints (ns : List Int) : SeqAt.shaped (.tuple (ns.map PyData.int)) = true := by
  simp [SeqAt.shaped, PyData.canLay0, PyData.depth, PySem.W.ke_canLayAll0, PySem.W.ke_depthAll]
theorem dpAll_ints {K : PySem.W.Frag} {H : Hp} : ∀ ns : List Int, DpAll K H (ns.map V.int) (ns.map PyData.int)
  | [] => .nil
  | n :: r => .cons (.int n) (dpAll_ints r)
/-- lists of ints by == -/
theorem eqL {K : PySem.W.Frag} {H : Hp} {a b : Addr} {ns ms : List Int} {Q : VK} (ha : SqL K H a (ns.map V.int)) (hb : SqL K H b (ms.map V.int)) (q : Q (.bl (decide (ns = ms))) H) : rEqD K (.ref a) (.ref b) H Q :=
  ⟨_, _, .lst ha (dpAll_ints ns), .lst hb (dpAll_ints ms), PySem.W.ke_shaped_ints ns, PySem.W.ke_shaped_ints ms, by
    show Q (.bl (PyData.eqvAll _ _)) H
    rw [eqvAll_ints]; exact q⟩
theorem neL {K : PySem.W.Frag} {H : Hp} {a b : Addr} {ns ms : List Int} {Q : VK} (ha : SqL K H a (ns.map V.int)) (hb : SqL K H b (ms.map V.int)) (q : Q (.bl (!decide (ns = ms))) H) : rNeD K (.ref a) (.ref b) H Q :=
  ⟨_, _, .lst ha (dpAll_ints ns), .lst hb (dpAll_ints ms), PySem.W.ke_shaped_ints ns, PySem.W.ke_shaped_ints ms, by
    show Q (.bl (!PyData.eqvAll _ _)) H
    rw [eqvAll_ints]; exact q⟩
theorem eqT {K : PySem.W.Frag} {H : Hp} {a b : Addr} {ns ms : List Int} {Q : VK} (ha : SqT K H a (ns.map V.int)) (hb : SqT K H b (ms.map V.int)) (q : Q (.bl (decide (ns = ms))) H) : rEqD K (.ref a) (.ref b) H Q :=
  ⟨_, _, .tup ha (dpAll_ints ns), .tup hb (dpAll_ints ms), shaped_tints ns, shaped_tints ms, by
    show Q (.bl (PyData.eqvAll _ _)) H
    rw [eqvAll_ints]; exact q⟩
theorem neT {K : PySem.W.Frag} {H : Hp} {a b : Addr} {ns ms : List Int} {Q : VK} (ha : SqT K H a (ns.map V.int)) (hb : SqT K H b (ms.map V.int)) (q : Q (.bl (!decide (ns = ms))) H) : rNeD K (.ref a) (.ref b) H Q :=
  ⟨_, _, .tup ha (dpAll_ints ns), .tup hb (dpAll_ints ms), shaped_tints ns, shaped_tints ms, by
    show Q (.bl (!PyData.eqvAll _ _)) H
    rw [eqvAll_ints]; exact q⟩
/-- the grid's attributes -/
def gf (ls : Addr) (n : Nat) (lr li : Addr) (lo : Int) (lt : Addr) : List (Str × V) :=
  [("signs", .ref ls), ("many", .int n), ("rows", .ref lr), ("inside", .ref li), ("low", .int lo), ("top", .ref lt)]
section
variable {ls lr li lt : Addr} {n : Nat} {lo : Int}
theorem gf_signs : (gf ls n lr li lo lt).lookup ("signs" : Str) = some (V.ref ls) := rfl
theorem gf_many : (gf ls n lr li lo lt).lookup ("many" : Str) = some (V.int n) := rfl
theorem gf_rows : (gf ls n lr li lo lt).lookup ("rows" : Str) = some (V.ref lr) := rfl
theorem gf_inside : (gf ls n lr li lo lt).lookup ("inside" : Str) = some (V.ref li) := rfl
theorem gf_low : (gf ls n lr li lo lt).lookup ("low" : Str) = some (V.int lo) := rfl
theorem gf_top : (gf ls n lr li lo lt).lookup ("top" : Str) = some (V.ref lt) := rfl
theorem gf_putlow (x : Int) : putF "low" (.int x) (gf ls n lr li lo lt) = gf ls n lr li x lt := rfl
theorem gf_puttop (a : Addr) : putF "top" (.ref a) (gf ls n lr li lo lt) = gf ls n lr li lo a := rfl
theorem gf_len : (gf ls n lr li lo lt).length < 1000 := by show 6 < 1000; decide
end
/-- the grid in the heap -/
structure GR (C : Addr) (H : Hp) (p dx ls lr li lt : Addr) (rs : List V) (n m : Nat) (sgn : Nat → Int) (rw : Nat → Nat → Int) (B : Nat → Nat) (lo : Int) (tp : List V) : Prop where
  ins : H p = some (.ins C dx (gf ls n lr li lo lt))
  sgs : H ls = some (.lst (iv m sgn))
  rws : H lr = some (.lst rs)
  rl : rs.length = m
  row : ∀ i, i < m → ∃ b, rs[i]? = some (.ref b) ∧ b ≠ lr ∧ b ≠ li ∧ H b = some (.lst (iv (n + m + 1) (rw i)))
  inside : H li = some (.lst (iv m (fun i => (B i : Int))))
  top : H lt = some (.lst tp)
  n1 : ls ≠ lr
  n2 : ls ≠ li
  n3 : lt ≠ lr
  n4 : lt ≠ li
  n5 : lr ≠ li
/-- sizes -/
structure Gc (m n : Nat) (a : Nat → Nat → Int) : Prop where
  m20 : m ≤ 20
  n100 : n ≤ 100
  unit : ∀ i, i < m → a (n + i) = K6.unitV i
  ab : ∀ B i j, (K6.T m a B i j).natAbs < 2 ^ 1500
  lb : ∀ B, (K6.low m a B).natAbs < 2 ^ 1500
structure Cc (m n : Nat) (a : Nat → Nat → Int) (c : Nat → Int) : Prop where
  cb : ∀ j, (c j).natAbs < 2 ^ 1500
  zb : ∀ B j, (K6.zz m a c B j).natAbs < 2 ^ 1600
section
variable {C : Addr} {H H' : Hp} {p dx ls lr li lt : Addr} {rs : List V} {n m : Nat} {sgn : Nat → Int} {rw : Nat → Nat → Int} {B : Nat → Nat} {lo : Int} {tp : List V}
theorem GR.same (g : GR C H p dx ls lr li lt rs n m sgn rw B lo tp) (s : Same H H') : GR C H' p dx ls lr li lt rs n m sgn rw B lo tp :=
  ⟨s _ _ g.ins, s _ _ g.sgs, s _ _ g.rws, g.rl, fun i hi => let ⟨b, e, x, y, h⟩ := g.row i hi; ⟨b, e, x, y, s _ _ h⟩, s _ _ g.inside, s _ _ g.top, g.n1, g.n2, g.n3, g.n4, g.n5⟩
theorem ins_lst {H : Hp} {a b : Addr} {C dx : Addr} {fs : List (Str × V)} {xs : List V} (h1 : H a = some (.ins C dx fs)) (h2 : H b = some (.lst xs)) : b ≠ a := fun e => by
  rw [e, h1] at h2; cases h2
/-- another top, another low -/
theorem GR.retop (g : GR C H p dx ls lr li lt rs n m sgn rw B lo tp) {lt' : Addr} {lo' : Int} {tp' : List V} (h : H lt' = some (.lst tp')) (n3 : lt' ≠ lr) (n4 : lt' ≠ li) :
    GR C (upd H p (.ins C dx (gf ls n lr li lo' lt'))) p dx ls lr li lt' rs n m sgn rw B lo' tp' where
  ins := upd_same
  sgs := by rw [upd_ne (ins_lst g.ins g.sgs)]; exact g.sgs
  rws := by rw [upd_ne (ins_lst g.ins g.rws)]; exact g.rws
  rl := g.rl
  row := fun i hi => let ⟨b, e, x, y, h⟩ := g.row i hi; ⟨b, e, x, y, by rw [upd_ne (ins_lst g.ins h)]; exact h⟩
  inside := by rw [upd_ne (ins_lst g.ins g.inside)]; exact g.inside
  top := by rw [upd_ne (ins_lst g.ins h)]; exact h
  n1 := g.n1
  n2 := g.n2
  n3 := n3
  n4 := n4
  n5 := g.n5
end
section
variable {P : Program} {w : World} {K : PySem.W.Frag} {mg : Str → Option Value} {base : Heap} {C CN : Addr}
def spSwept (K : PySem.W.Frag) (C : Addr) : Sp := fun vs H Q _ => ∃ (p dx t1 t2 : Addr) (fs : List (Str × V)) (wd : Nat) (f g h : Nat → Int) (pz wt lo : Int), vs = [.ref p, .ref t1, .ref t2, .int pz, .int wt] ∧ H p = some (.ins C dx fs) ∧ fs.lookup ("low" : Str) = some (.int lo) ∧
  SqL K H t1 (iv wd f) ∧ SqL K H t2 (iv wd g) ∧ wd ≤ 200 ∧ 0 < lo ∧ lo.natAbs < 2 ^ 1500 ∧ (∀ j, j < wd → (f j).natAbs < 2 ^ 1600 ∧ (g j).natAbs < 2 ^ 1600) ∧ pz.natAbs < 2 ^ 1600 ∧ wt.natAbs < 2 ^ 1600 ∧ (∀ j, j < wd → f j * pz - wt * g j = lo * h j) ∧
  ∀ D H', H D = none → Same H H' → H' D = some (.lst (iv wd h)) → Q (.ref D) H'
theorem sc_G_swept : FnScope ["self", "told", "row", "pivot", "weight", "one", "other"] ["self", "told", "row", "pivot", "weight"] (defScope sG_swept) := ⟨rfl, rfl, rfl, by decide +kernel, rfl, by decide +kernel, by decide +kernel⟩
theorem ok_G_swept (T : Txt K mg C CN) : HasM P w K mg base CX0 C "swept" 1 ["self", "told", "row", "pivot", "weight"] (spSwept K C) := by
  obtain ⟨f, fd, mf, F, bf⟩ := T.m_swept
  refine ⟨f, fd, mf, bf, F.ok sc_G_swept (fun vs H Q E h => ?_) (fun cdv A outer s H vs Q E hr h => ?_)⟩
  · obtain ⟨p, dx, t1, t2, fs, wd, f, g, hh, pz, wt, lo, rfl, _⟩ := h
    rfl
  · obtain ⟨p, dx, t1, t2, fs, wd, f, g, hh, pz, wt, lo, rfl, hp, hlo, h1, h2, hwd, lo0, lob, hfg, hpz, hwt, hq, k⟩ := h
    refine ⟨_, PSs.nox (pss_one (ps_ret (pe_lc (own := [("one", 5), ("other", 6)]) (g := gTup K 2 (gCons (gName 5) (gCons (gName 6) gNil))) rfl sc_G_swept.nd (pi_zipG rfl T.b_zip (pa_cons (pv 1) (pa_cons (pv 2) pa_nil))) (blkOk_by (own := [("one", 5), ("other", 6)]) (N := ["self", "told", "row", "pivot", "weight", "one", "other"]) (sc := defScope sG_swept) (by decide +kernel)) (fun _ _ _ _ _ => by exact (pg_tup (by rfl) (pgs_cons (pg_name (i := 5) sc_G_swept.nd rfl (Or.inl rfl)) (pgs_cons (pg_name (i := 6) sc_G_swept.nd rfl (Or.inl rfl)) pgs_nil)))) (fun _ _ _ _ _ => by exact pts_nil) (fun _ _ _ _ _ => by exact (pe_op op_fdivW (pe_op op_sub (pe_op op_mulW (pv 5) (pv 3)) (pe_op op_mulW (pv 4) (pv 6))) (fldK (K := K) (pv 0) rfl)))))), ?_⟩
    refine ⟨_, rfl, _, rfl, .L t1, .L t2, _, _, rfl, h1, h2, fun D hD => lc_iv (walk_zipG (p := .L t1) (q := .L t2) (n := wd) (iv_len _ _) (iv_len _ _)) hh (by omega) hD (fun H' s => ⟨s.seq h1, s.seq h2⟩) ?_ ?_⟩
    · rintro i y H1 H2 Qy Qn hi s1 ⟨Tq, x1, x2, rfl, hT, rfl, e1, e2⟩ kq
      obtain ⟨_, rfl⟩ := iv_of e1
      obtain ⟨_, rfl⟩ := iv_of e2
      have hp2 := (s1.trans (Same.new (o := .tup [V.int (f i), V.int (g i)]) hT)) _ _ hp
      refine tup2 (SqT.of upd_same) ⟨rfl, yesI ?_⟩
      refine ⟨_, rfl, _, rfl, _, _, rfl, rfl, wide_mul (a := 1600) (b := 1600) (hfg i hi).1 hpz (by decide) (by decide) (by decide), ?_⟩
      refine ⟨_, rfl, _, rfl, _, _, rfl, rfl, wide_mul (a := 1600) (b := 1600) hwt (hfg i hi).2 (by decide) (by decide) (by decide), ?_⟩
      refine ⟨_, _, rfl, rfl, ?_⟩
      refine ⟨_, rfl, p, C, dx, fs, _, rfl, hp2, T.c_Grid, T.n_low, hlo, ?_⟩
      refine ⟨_, _, rfl, rfl, wide_div (b := 1500) lo0 lob (by decide) (by decide), ?_⟩
      have lo1 : lo ≠ 0 := by clear k kq; omega
      have e3 : (f i * pz - wt * g i) / lo = hh i := by rw [hq i hi]; exact Int.mul_ediv_cancel_left _ lo1
      show Qy (V.int ((f i * pz - wt * g i) / lo)) _
      rw [e3]
      exact kq _ (Same.new hT)
    · intro H1 s1 e1
      exact k D H1 hD s1 e1
def spLess (K : PySem.W.Frag) : Sp := fun vs H Q _ => ∃ (v : V) (q1 q2 : Addr) (x1 y1 z1 w1 x2 y2 z2 w2 : Int), vs = [v, .ref q1, .ref q2] ∧ SqT K H q1 [.int x1, .int y1, .int z1, .int w1] ∧ SqT K H q2 [.int x2, .int y2, .int z2, .int w2] ∧
  x1.natAbs < 2 ^ 1500 ∧ y1.natAbs < 2 ^ 1500 ∧ x2.natAbs < 2 ^ 1500 ∧ y2.natAbs < 2 ^ 1500 ∧ Q (.bl (decide (x1 * y2 - x2 * y1 < 0 ∨ (x1 * y2 - x2 * y1 = 0 ∧ z1 < z2)))) H
theorem sc_G_is_less : FnScope ["self", "one", "other", "gap"] ["self", "one", "other"] (defScope sG_is_less) := ⟨rfl, rfl, rfl, by decide +kernel, rfl, by decide +kernel, by decide +kernel⟩
theorem ok_G_is_less (T : Txt K mg C CN) : HasM P w K mg base CX0 C "is_less" 1 ["self", "one", "other"] (spLess K) := by
  obtain ⟨f, fd, mf, F, bf⟩ := T.m_is_less
  refine ⟨f, fd, mf, bf, F.ok sc_G_is_less (fun vs H Q E h => ?_) (fun cdv A outer s H vs Q E hr h => ?_)⟩
  · obtain ⟨v, q1, q2, x1, y1, z1, w1, x2, y2, z2, w2, rfl, _⟩ := h
    rfl
  · obtain ⟨v, q1, q2, x1, y1, z1, w1, x2, y2, z2, w2, rfl, h1, h2, b1, b2, b3, b4, k⟩ := h
    refine ⟨_, PSs.nox (pss_cons (ps_set (i := 3) sc_G_is_less.nd rfl (Or.inl rfl) (pe_op op_sub (pe_op op_mulW (pe_ix (ixT (K := K)) (pv 1) pe_int (fun _ _ => rfl)) (pe_ix (ixT (K := K)) (pv 2) pe_int (fun _ _ => rfl))) (pe_op op_mulW (pe_ix (ixT (K := K)) (pv 2) pe_int (fun _ _ => rfl)) (pe_ix (ixT (K := K)) (pv 1) pe_int (fun _ _ => rfl)))))
    (pss_one (ps_ret (pe_or (pe_cmpR op_lt (pv 3) pe_int (nomark _)) (pe_one (pe_and (pe_cmpR op_eq (pv 3) pe_int (nomark _)) (pe_one (pe_cmpR op_lt (pe_ix (ixT (K := K)) (pv 1) pe_int (fun _ _ => rfl)) (pe_ix (ixT (K := K)) (pv 2) pe_int (fun _ _ => rfl)) (nomark _))))))))), ?_⟩
    refine ⟨_, rfl, q1, _, _, _, rfl, rfl, h1, rfl, _, rfl, q2, _, _, _, rfl, rfl, h2, rfl, _, _, rfl, rfl, wide_mul (a := 1500) (b := 1500) b1 b4 (by decide) (by decide) (by decide), ?_⟩
    refine ⟨_, rfl, q2, _, _, _, rfl, rfl, h2, rfl, _, rfl, q1, _, _, _, rfl, rfl, h1, rfl, _, _, rfl, rfl, wide_mul (a := 1500) (b := 1500) b3 b2 (by decide) (by decide) (by decide), ?_⟩
    refine ⟨_, _, rfl, rfl, _, rfl, _, _, rfl, rfl, _, rfl, ?_⟩
    by_cases c : x1 * y2 - x2 * y1 < 0
    · rw [decide_eq_true c]
      refine iteT ?_
      rw [decide_eq_true (Or.inl c)] at k
      exact k
    · rw [decide_eq_false c]
      refine iteF ⟨_, rfl, rfl, _, rfl, ?_⟩
      by_cases c2 : x1 * y2 - x2 * y1 = 0
      · have e : decide (V.int (x1 * y2 - x2 * y1) = V.int 0) = true := by rw [c2]; rfl
        rw [e]
        refine iteT ⟨_, rfl, q1, _, _, _, rfl, rfl, h1, rfl, _, rfl, q2, _, _, _, rfl, rfl, h2, rfl, _, _, rfl, rfl, ?_⟩
        have e2 : decide (x1 * y2 - x2 * y1 < 0 ∨ (x1 * y2 - x2 * y1 = 0 ∧ z1 < z2)) = decide (z1 < z2) := by simp [c, c2]
        rw [e2] at k
        exact k
      · have e : decide (V.int (x1 * y2 - x2 * y1) = V.int 0) = false := by simp [c2]
        rw [e]
        refine iteF ?_
        have e2 : decide (x1 * y2 - x2 * y1 < 0 ∨ (x1 * y2 - x2 * y1 = 0 ∧ z1 < z2)) = false := by simp [c, c2]
        rw [e2] at k
        exact k
def spOut (K : PySem.W.Frag) (C : Addr) : Sp := fun vs H Q _ => ∃ (p dx ls lr li lt : Addr) (rs : List V) (n m : Nat) (sgn : Nat → Int) (a : Nat → Nat → Int) (B : Nat → Nat) (lo : Int) (tp : List V) (s : Nat),
  vs = [.ref p, .int (s : Nat)] ∧ GR C H p dx ls lr li lt rs n m sgn (K6.T m a B) B lo tp ∧ Gc m n a ∧ s < n ∧ ∀ H', Same H H' → Q (match K6.outF m a (n + m) B s m with | none => .non | some b => .int (b : Nat)) H'
theorem sc_G_goes_out : FnScope ["self", "column", "best", "index", "row", "key"] ["self", "column"] (defScope sG_goes_out) := ⟨rfl, rfl, rfl, by decide +kernel, rfl, by decide +kernel, by decide +kernel⟩
theorem ok_G_goes_out (T : Txt K mg C CN) : HasM P w K mg base CX0 C "goes_out" 2 ["self", "column"] (spOut K C) := by
  obtain ⟨f, fd, mf, F, bf⟩ := T.m_goes_out
  obtain ⟨f_Grid_is_less, fd_Grid_is_less, M_is_less, b_Grid_is_less, G_Grid_is_less⟩ := ok_G_is_less (P := P) (w := w) (base := base) T
  refine ⟨f, fd, mf, bf, F.ok sc_G_goes_out (fun vs H Q E h => ?_) (fun cdv A outer s H vs Q E hr h => ?_)⟩
  · obtain ⟨p, dx, ls, lr, li, lt, rs, n, m, sgn, a, B, lo, tp, s, rfl, _⟩ := h
    rfl
  · obtain ⟨p, dx, ls, lr, li, lt, rs, n, m, sgn, a, B, lo, tp, sc, rfl, g, gc, hs, k⟩ := h
    have hr_Grid_is_less := hr.mono (j := 1) (by decide)
    have hm20 := gc.m20
    refine ⟨_, PSs.nox (pss_cons (ps_set (i := 2) sc_G_goes_out.nd rfl (Or.inl rfl) pe_non)
    (pss_cons (ps_for PassesOwn.never rfl (pi_enumG rfl T.b_enumerate (pa_cons (fldK (K := K) (pv 0) rfl) pa_nil)) (pg_tup (by rfl) (pgs_cons (pg_name (i := 3) sc_G_goes_out.nd rfl (Or.inl rfl)) (pgs_cons (pg_name (i := 4) sc_G_goes_out.nd rfl (Or.inl rfl)) pgs_nil)))
      (pss_one (ps_if (pt_cmpR op_gt (pe_ix (ixL (K := K)) (pv 4) (pv 1) (fun _ _ => rfl)) pe_int (nomark _))
        (pss_cons (ps_set (i := 5) sc_G_goes_out.nd rfl (Or.inl rfl) (pe_tup (pa_cons (pe_ix (ixL (K := K)) (pv 4) (pe_un un_neg pe_int) (fun _ _ => rfl)) (pa_cons (pe_ix (ixL (K := K)) (pv 4) (pv 1) (fun _ _ => rfl)) (pa_cons (pe_ix (ixL (K := K)) (fldK (K := K) (pv 0) rfl) (pv 3) (fun _ _ => rfl)) (pa_cons (pv 3) pa_nil))))))
        (pss_one (ps_if (PW.pt (pw_or (pt_cmpR op_isN (pv 2) pe_non (nomark _)) (pw_or1 (pt_val (pe_meth (pv 0) T.c_Grid M_is_less G_Grid_is_less hr_Grid_is_less b_Grid_is_less .nil pass0 (pa_cons (pv 5) (pa_cons (pv 2) pa_nil)))))))
          (pss_one (ps_set (i := 2) sc_G_goes_out.nd rfl (Or.inl rfl) (pv 5)))
          pss_nil)))
        pss_nil)))
    (pss_one (ps_ret (pe_ifExp (pt_cmpR op_notN (pv 2) pe_non (nomark _)) (pe_ix (ixT (K := K)) (pv 2) pe_int (fun _ _ => rfl)) pe_non))))), ?_⟩
    refine ⟨_, rfl, p, C, dx, _, _, rfl, g.ins, T.c_Grid, T.n_rows, gf_rows, .L lr, rs, rfl, SqL.of g.rws, for_it (walk_enumG (p := .L lr) (n := m) g.rl)
      (fun i σ H' => Same H H' ∧ ∃ (u1 u2 u3 v : _), σ = [some (.ref p), some (.int (sc : Nat)), some v, u1, u2, u3] ∧ (match K6.outF m a (n + m) B sc i with | none => v = .non | some b => ∃ q, v = .ref q ∧ SqT K H' q [.int (K6.T m a B b (n + m)), .int (K6.T m a B b sc), .int (B b : Nat), .int (b : Nat)]))
      ⟨Same.refl _, _, _, _, _, rfl, rfl⟩ (fun i σ H' _ q => q.1.seq (SqL.of g.rws)) ?_ ?_⟩
    · rintro i y σ H1 H2 hi ⟨s1, u1, u2, u3, v, rfl, hv⟩ ⟨Tq, x1, x2, rfl, hT, rfl, e1, e2⟩
      cases e1
      obtain ⟨b, eb, _, _, hb⟩ := g.row i hi
      cases e2.symm.trans eb
      have s2 := Same.new (o := .tup [V.int (i : Nat), .ref b]) hT
      have s12 := s1.trans s2
      have hb2 := SqL.of (K := K) (s12 _ _ hb)
      refine tup2 (SqT.of upd_same) ⟨_, rfl, _, rfl, b, _, _, _, rfl, rfl, hb2, atI_nat (iv_get (show sc < n + m + 1 by omega)), _, _, rfl, rfl, _, rfl, ?_⟩
      by_cases cp : 0 < K6.T m a B i sc
      · have cp2 : K6.T m a B i sc > 0 := cp
        rw [decide_eq_true cp2]
        refine iteT ?_
        refine ⟨_, rfl, _, rfl, b, _, _, _, rfl, rfl, hb2, iv_last _ _, _, rfl, _, rfl, b, _, _, _, rfl, rfl, hb2, atI_nat (iv_get (show sc < n + m + 1 by omega)), _, rfl, p, C, dx, _, _, rfl, s12 _ _ g.ins, T.c_Grid, T.n_inside, gf_inside, _, rfl, li, _, _, _, rfl, rfl, SqL.of (s12 _ _ g.inside), atI_nat (iv_get hi), _, rfl, small (by show 4 ≤ 1000; decide), fun q hq => ?_⟩
        have s3 := Same.new (o := .tup [V.int (K6.T m a B i (n + m)), V.int (K6.T m a B i sc), V.int (B i : Nat), V.int (i : Nat)]) hq
        have hq3 : SqT K (upd (upd H1 Tq (.tup [V.int (i : Nat), .ref b])) q (.tup [V.int (K6.T m a B i (n + m)), V.int (K6.T m a B i sc), V.int (B i : Nat), V.int (i : Nat)])) q [.int (K6.T m a B i (n + m)), .int (K6.T m a B i sc), .int (B i : Nat), .int (i : Nat)] := SqT.of upd_same
        cases ho : K6.outF m a (n + m) B sc i with
        | none =>
          rw [ho] at hv
          subst hv
          refine ⟨_, rfl, rfl, _, rfl, iteT ?_⟩
          refine ⟨_, rfl, s12.trans s3, _, _, _, _, rfl, ?_⟩
          have e : K6.outF m a (n + m) B sc (i + 1) = some i := by
            show (if _ then _ else _) = _
            rw [if_pos cp, ho]
          rw [e]
          exact ⟨q, rfl, hq3⟩
        | some b' =>
          rw [ho] at hv
          obtain ⟨q', rfl, hq'⟩ := hv
          have hq4 := (s2.trans s3).tup hq'
          refine ⟨_, rfl, rfl, _, rfl, iteF ?_⟩
          refine ⟨_, rfl, _, dx, _, rfl, (s12.trans s3) _ _ g.ins, rfl, _, rfl, _, rfl, _, q, q', _, _, _, _, _, _, _, _, rfl, hq3, hq4, gc.ab _ _ _, gc.ab _ _ _, gc.ab _ _ _, gc.ab _ _ _, ?_⟩
          have el : decide (K6.T m a B i (n + m) * K6.T m a B b' sc - K6.T m a B b' (n + m) * K6.T m a B i sc < 0 ∨ (K6.T m a B i (n + m) * K6.T m a B b' sc - K6.T m a B b' (n + m) * K6.T m a B i sc = 0 ∧ ((B i : Nat) : Int) < ((B b' : Nat) : Int))) = decide (K6.lessRow m a (n + m) B sc i b') := by
            unfold K6.lessRow
            exact decide_eq_decide.mpr (by rw [Int.ofNat_lt])
          refine ⟨_, rfl, ?_⟩
          rw [el]
          by_cases cl : K6.lessRow m a (n + m) B sc i b'
          · rw [decide_eq_true cl]
            refine iteT ⟨_, rfl, s12.trans s3, _, _, _, _, rfl, ?_⟩
            have e : K6.outF m a (n + m) B sc (i + 1) = some i := by
              show (if _ then _ else _) = _
              rw [if_pos cp, ho]
              exact if_pos cl
            rw [e]
            exact ⟨q, rfl, hq3⟩
          · rw [decide_eq_false cl]
            refine iteF ⟨s12.trans s3, _, _, _, _, rfl, ?_⟩
            have e : K6.outF m a (n + m) B sc (i + 1) = some b' := by
              show (if _ then _ else _) = _
              rw [if_pos cp, ho]
              exact if_neg cl
            rw [e]
            exact ⟨q', rfl, hq4⟩
      · have cp2 : ¬ (K6.T m a B i sc > 0) := cp
        rw [decide_eq_false cp2]
        refine iteF ⟨s12, _, _, _, _, rfl, ?_⟩
        have e : K6.outF m a (n + m) B sc (i + 1) = K6.outF m a (n + m) B sc i := by
          show (if _ then _ else _) = _
          rw [if_neg cp]
        rw [e]
        cases ho : K6.outF m a (n + m) B sc i with
        | none => rw [ho] at hv; exact hv
        | some b' =>
          rw [ho] at hv
          obtain ⟨q', rfl, hq'⟩ := hv
          exact ⟨q', rfl, s2.tup hq'⟩
    · rintro σ H1 ⟨s1, u1, u2, u3, v, rfl, hv⟩
      have k1 := k H1 s1
      cases ho : K6.outF m a (n + m) B sc m with
      | none =>
        rw [ho] at hv k1
        subst hv
        exact ⟨_, rfl, rfl, _, rfl, iteF k1⟩
      | some b =>
        rw [ho] at hv k1
        obtain ⟨q, rfl, hq⟩ := hv
        exact ⟨_, rfl, rfl, _, rfl, iteT ⟨_, rfl, q, _, _, _, rfl, rfl, hq, rfl, k1⟩⟩
end
end G3
-- WTurn
set_option Elab.async false
set_option linter.all false
set_option maxRecDepth 100000
set_option maxHeartbeats 4000000
namespace G3
open PySem PySem.Spec PyProof.Rows L2
theorem joinIf {b : Bool} {t : TS} {D : Ends} {σ : L2.St} {H : Hp} (J : L2.St → Hp → Prop) (hb : ∀ N : L2.St → Hp → Prop, (∀ σ' H', J σ' H' → N σ' H') → if b = true then t { D with nx := N } σ H else N σ H) (hn : ∀ σ' H', J σ' H' → D.nx σ' H') : (if b = true then t D σ H else tNext D σ H) := hb D.nx hn
theorem ixN_nat {n r : Nat} (h : r < n) : ixN n (r : Int) = some r := by
  unfold ixN
  rw [if_pos (by omega), if_pos (by omega)]
  simp
theorem iv_set {n r : Nat} (f : Nat → Int) (x : Int) (h : r < n) : (iv n f).set r (.int x) = iv n (fun i => if i = r then x else f i) := by
  refine iv_eq (by rw [List.length_set, iv_len]) fun i hi => ?_
  rw [List.getElem?_set]
  by_cases e : r = i
  · subst e
    rw [if_pos rfl, if_pos (by rw [iv_len]; exact h), if_pos rfl]
  · rw [if_neg e, iv_get hi, if_neg (fun q => e q.symm)]
/-- all but three as it was -/
def But3 (p lr li : Addr) (H H' : Hp) : Prop := ∀ b o, b ≠ p → b ≠ lr → b ≠ li → H b = some o → H' b = some o
section
variable {p lr li : Addr} {H H1 H2 : Hp}
theorem But3.refl (p lr li : Addr) (H : Hp) : But3 p lr li H H := fun _ _ _ _ _ h => h
theorem But3.then (b : But3 p lr li H H1) (s : Same H1 H2) : But3 p lr li H H2 := fun c o x y z e => s c o (b c o x y z e)
theorem But3.trans (b : But3 p lr li H H1) (s : But3 p lr li H1 H2) : But3 p lr li H H2 := fun c o x y z e => s c o x y z (b c o x y z e)
theorem But3.up {o : HO} (b : But3 p lr li H H1) : But3 p lr li H (upd H1 p o) := fun c u x y z e => by rw [upd_ne x]; exact b c u x y z e
theorem But3.ur {o : HO} (b : But3 p lr li H H1) : But3 p lr li H (upd H1 lr o) := fun c u x y z e => by rw [upd_ne y]; exact b c u x y z e
theorem But3.ui {o : HO} (b : But3 p lr li H H1) : But3 p lr li H (upd H1 li o) := fun c u x y z e => by rw [upd_ne z]; exact b c u x y z e
theorem But3.same {H0 : Hp} (s : Same H0 H) (b : But3 p lr li H H1) (h1 : H0 p = none) (h2 : H0 lr = none) (h3 : H0 li = none) : Same H0 H1 := fun c o e => b c o (ne_of_none e h1) (ne_of_none e h2) (ne_of_none e h3) (s c o e)
end
section
variable {C : Addr} {H H' : Hp} {p dx ls lr li lt : Addr} {rs : List V} {n m : Nat} {sgn : Nat → Int} {rw : Nat → Nat → Int} {B : Nat → Nat} {lo : Int} {tp : List V}
theorem GR.setrow (g : GR C H p dx ls lr li lt rs n m sgn rw B lo tp) {D : Addr} {f : Nat → Int} {r : Nat} (hD : H D = some (.lst (iv (n + m + 1) f))) (d1 : D ≠ lr) (d2 : D ≠ li) (hr : r < m) :
    GR C (upd H lr (.lst (rs.set r (.ref D)))) p dx ls lr li lt (rs.set r (.ref D)) n m sgn (fun i => if i = r then f else rw i) B lo tp where
  ins := by rw [upd_ne (ins_lst g.ins g.rws).symm]; exact g.ins
  sgs := by rw [upd_ne g.n1]; exact g.sgs
  rws := upd_same
  rl := by rw [List.length_set]; exact g.rl
  row := fun i hi => by
    by_cases e : i = r
    · subst e
      refine ⟨D, ?_, d1, d2, ?_⟩
      · rw [List.getElem?_set, if_pos rfl, if_pos (by rw [g.rl]; exact hr)]
      · rw [upd_ne d1, if_pos rfl]; exact hD
    · obtain ⟨b, eb, x, y, h⟩ := g.row i hi
      refine ⟨b, ?_, x, y, ?_⟩
      · rw [List.getElem?_set, if_neg (fun q => e q.symm)]; exact eb
      · rw [upd_ne x, if_neg e]; exact h
  inside := by rw [upd_ne g.n5.symm]; exact g.inside
  top := by rw [upd_ne g.n3]; exact g.top
  n1 := g.n1
  n2 := g.n2
  n3 := g.n3
  n4 := g.n4
  n5 := g.n5
theorem GR.setin (g : GR C H p dx ls lr li lt rs n m sgn rw B lo tp) {r s : Nat} (hr : r < m) :
    GR C (upd H li (.lst ((iv m (fun i => (B i : Int))).set r (.int (s : Int))))) p dx ls lr li lt rs n m sgn rw (K6.put B r s) lo tp where
  ins := by rw [upd_ne (ins_lst g.ins g.inside).symm]; exact g.ins
  sgs := by rw [upd_ne g.n2]; exact g.sgs
  rws := by rw [upd_ne g.n5]; exact g.rws
  rl := g.rl
  row := fun i hi => by
    obtain ⟨b, eb, x, y, h⟩ := g.row i hi
    exact ⟨b, eb, x, y, by rw [upd_ne y]; exact h⟩
  inside := by
    rw [upd_same, iv_set _ _ hr]
    refine congrArg (fun z => some (HO.lst z)) (iv_congr fun i _ => ?_)
    unfold K6.put
    split <;> rfl
  top := by rw [upd_ne g.n4]; exact g.top
  n1 := g.n1
  n2 := g.n2
  n3 := g.n3
  n4 := g.n4
  n5 := g.n5
theorem GR.rows_eq (g : GR C H p dx ls lr li lt rs n m sgn rw B lo tp) {rw' : Nat → Nat → Int} (h : ∀ i, i < m → ∀ j, j < n + m + 1 → rw i j = rw' i j) : GR C H p dx ls lr li lt rs n m sgn rw' B lo tp :=
  { g with row := fun i hi => let ⟨b, eb, x, y, hb⟩ := g.row i hi; ⟨b, eb, x, y, by rw [← iv_congr (h i hi)]; exact hb⟩ }
end
theorem piv_eq {m r s : Nat} {a : Nat → Nat → Int} {B : Nat → Nat} (hr : r < m) : K6.T m a (K6.put B r s) r s = K6.low m a (K6.put B r s) := by
  have h := K6.T_base (a := a) (B := K6.put B r s) hr hr
  rw [if_pos rfl, K6.put_same] at h
  exact h
section
variable {P : Program} {w : World} {K : PySem.W.Frag} {mg : Str → Option Value} {base : Heap} {C CN : Addr}
def spTurn (C : Addr) : Sp := fun vs H Q _ => ∃ (p dx ls lr li lt : Addr) (rs : List V) (n m : Nat) (sgn : Nat → Int) (a : Nat → Nat → Int) (c : Nat → Int) (B : Nat → Nat) (r s : Nat),
  vs = [.ref p, .int (r : Nat), .int (s : Nat)] ∧ GR C H p dx ls lr li lt rs n m sgn (K6.T m a B) B (K6.low m a B) (iv (n + m + 1) (K6.zz m a c B)) ∧ Gc m n a ∧ Cc m n a c ∧ K6.Good m (n + m) a B ∧ r < m ∧ s < n ∧ K6.T m a B r s ≠ 0 ∧
  ∀ lt' rs' H', But3 p lr li H H' → GR C H' p dx ls lr li lt' rs' n m sgn (K6.T m a (K6.put B r s)) (K6.put B r s) (K6.low m a (K6.put B r s)) (iv (n + m + 1) (K6.zz m a c (K6.put B r s))) → Q .non H'
theorem sc_G_turn : FnScope ["self", "index", "column", "row", "pivot", "at", "told", "one"] ["self", "index", "column"] (defScope sG_turn) := ⟨rfl, rfl, rfl, by decide +kernel, rfl, by decide +kernel, by decide +kernel⟩
theorem ok_G_turn (T : Txt K mg C CN) : HasM P w K mg base CX0 C "turn" 2 ["self", "index", "column"] (spTurn C) := by
  obtain ⟨f, fd, mf, F, bf⟩ := T.m_turn
  obtain ⟨f_Grid_swept, fd_Grid_swept, M_swept, b_Grid_swept, G_Grid_swept⟩ := ok_G_swept (P := P) (w := w) (base := base) T
  refine ⟨f, fd, mf, bf, F.ok sc_G_turn (fun vs H Q E h => ?_) (fun cdv A outer s H vs Q E hr h => ?_)⟩
  · obtain ⟨p, dx, ls, lr, li, lt, rs, n, m, sgn, a, c, B, r, s, rfl, _⟩ := h
    rfl
  · obtain ⟨p, dx, ls, lr, li, lt, rs, n, m, sgn, a, c, B, r, sc, rfl, g, gc, cc, G, hr', hs, hp, k⟩ := h
    have hr_Grid_swept := hr.mono (j := 1) (by decide)
    have hm20 := gc.m20
    have hn100 := gc.n100
    have hsw : sc < n + m + 1 := by omega
    have hpi := piv_eq (m := m) (r := r) (s := sc) (a := a) (B := B) hr'
    have G' := G.put hr' (show sc < n + m by omega) (K6.tt_ne hp)
    have lp := K6.low_pos G
    have lp' := K6.low_pos G'
    refine ⟨_, PSs.nox (pss_cons (ps_if (pt_cmpR op_lt (pe_ix (ixL (K := K)) (pe_ix (ixL (K := K)) (fldK (K := K) (pv 0) rfl) (pv 1) (fun _ _ => rfl)) (pv 2) (fun _ _ => rfl)) pe_int (nomark _))
      (pss_one (ps_asg (pe_lc (own := [("one", 7)]) (g := gName 7) rfl sc_G_turn.nd (pi_list (pe_ix (ixL (K := K)) (fldK (K := K) (pv 0) rfl) (pv 1) (fun _ _ => rfl))) (blkOk_by (own := [("one", 7)]) (N := ["self", "index", "column", "row", "pivot", "at", "told", "one"]) (sc := defScope sG_turn) (by decide +kernel)) (fun _ _ _ _ _ => by exact (pg_name (i := 7) sc_G_turn.nd rfl (Or.inl rfl))) (fun _ _ _ _ _ => by exact pts_nil) (fun _ _ _ _ _ => by exact (pe_un un_neg (pv 7)))) (pg_sub (fldK (K := K) (pv 0) rfl) (pv 1) set_list)))
      pss_nil)
    (pss_cons (ps_set (i := 3) sc_G_turn.nd rfl (Or.inl rfl) (pe_ix (ixL (K := K)) (fldK (K := K) (pv 0) rfl) (pv 1) (fun _ _ => rfl)))
    (pss_cons (ps_set (i := 4) sc_G_turn.nd rfl (Or.inl rfl) (pe_ix (ixL (K := K)) (pv 3) (pv 2) (fun _ _ => rfl)))
    (pss_cons (ps_for PassesOwn.never rfl (pi_enumG rfl T.b_enumerate (pa_cons (pe_callTy call_list_of (by rfl) T.b_list (by decide +kernel) (pa_cons (fldK (K := K) (pv 0) rfl) pa_nil)) pa_nil)) (pg_tup (by rfl) (pgs_cons (pg_name (i := 5) sc_G_turn.nd rfl (Or.inl rfl)) (pgs_cons (pg_name (i := 6) sc_G_turn.nd rfl (Or.inl rfl)) pgs_nil)))
      (pss_one (ps_if (pt_cmpR op_ne (pv 5) (pv 1) (nomark _))
        (pss_one (ps_asg (pe_meth (pv 0) T.c_Grid M_swept G_Grid_swept hr_Grid_swept b_Grid_swept .nil pass0 (pa_cons (pv 6) (pa_cons (pv 3) (pa_cons (pv 4) (pa_cons (pe_ix (ixL (K := K)) (pv 6) (pv 2) (fun _ _ => rfl)) pa_nil))))) (pg_sub (fldK (K := K) (pv 0) rfl) (pv 5) set_list)))
        pss_nil)))
    (pss_cons (ps_fld (pv 0) (pe_meth (pv 0) T.c_Grid M_swept G_Grid_swept hr_Grid_swept b_Grid_swept .nil pass0 (pa_cons (fldK (K := K) (pv 0) rfl) (pa_cons (pv 3) (pa_cons (pv 4) (pa_cons (pe_ix (ixL (K := K)) (fldK (K := K) (pv 0) rfl) (pv 2) (fun _ _ => rfl)) pa_nil))))) rfl)
    (pss_cons (ps_fld (pv 0) (pv 4) rfl)
    (pss_one (ps_asg (pv 2) (pg_sub (fldK (K := K) (pv 0) rfl) (pv 1) set_list))))))))), ?_⟩
    obtain ⟨b0, eb0, _, _, hb0⟩ := g.row r hr'
    refine ⟨_, rfl, p, C, dx, _, _, rfl, g.ins, T.c_Grid, T.n_rows, gf_rows, _, rfl, lr, _, _, _, rfl, rfl, SqL.of g.rws, atI_nat eb0, _, rfl, b0, _, _, _, rfl, rfl, SqL.of hb0, atI_nat (iv_get hsw), _, _, rfl, rfl, _, rfl, ?_⟩
    refine joinIf (fun σ' H' => (∃ u1 u2 u3 u4 : Option V, σ' = [some (.ref p), some (.int (r : Nat)), some (.int (sc : Nat)), u1, u2, u3, u4, none]) ∧ But3 p lr li H H' ∧ ∃ rs1, GR C H' p dx ls lr li lt rs1 n m sgn (fun i => if i = r then K6.T m a (K6.put B r sc) r else K6.T m a B i) B (K6.low m a B) (iv (n + m + 1) (K6.zz m a c B))) (fun N hN => ?_) ?_
    · by_cases cn : K6.T m a B r sc < 0
      · rw [decide_eq_true cn]
        refine iteT ?_
        refine ⟨_, rfl, p, C, dx, _, _, rfl, g.ins, T.c_Grid, T.n_rows, gf_rows, _, rfl, lr, _, _, _, rfl, rfl, SqL.of g.rws, atI_nat eb0, b0, rfl, ⟨_, SqL.of hb0⟩, fun D hD => lc_iv (walk_list (xs := iv (n + m + 1) (K6.T m a B r))) (fun j => - K6.T m a B r j) (by rw [iv_len]; omega) hD (fun H' s => s.seq (SqL.of hb0)) ?_ ?_⟩
        · rintro j y H1 H2 Qy Qn hj s1 ⟨rfl, e⟩ kq
          obtain ⟨_, rfl⟩ := iv_of e
          exact ⟨rfl, yesI ⟨_, rfl, _, rfl, kq _ (Same.refl _)⟩⟩
        · intro H1 s1 e1
          rw [iv_len] at e1
          have g1 := g.same s1
          refine ⟨_, rfl, p, C, dx, _, _, rfl, g1.ins, T.c_Grid, T.n_rows, gf_rows, _, rfl, lr, rs, _, r, rfl, rfl, g1.rws, ixN_nat (by rw [g.rl]; exact hr'), ?_⟩
          refine hN _ _ ⟨⟨_, _, _, _, rfl⟩, ((But3.refl _ _ _ H).then s1).ur, _, GR.rows_eq (g1.setrow e1 (ne_of_none g.rws hD).symm (ne_of_none g.inside hD).symm hr') fun i hi j hj => ?_⟩
          by_cases e : i = r
          · rw [if_pos e, if_pos e, K6.T_put_same hp, if_pos cn]
          · rw [if_neg e, if_neg e]
      · rw [decide_eq_false cn]
        refine iteF (hN _ _ ⟨⟨_, _, _, _, rfl⟩, But3.refl _ _ _ _, rs, g.rows_eq fun i hi j hj => ?_⟩)
        by_cases e : i = r
        · rw [if_pos e, K6.T_put_same hp, if_neg cn, e]
        · rw [if_neg e]
    rintro σ H1 ⟨⟨u1, u2, u3, u4, rfl⟩, b1, rs1, g1⟩
    obtain ⟨b2, eb2, n2r, n2i, hb2⟩ := g1.row r hr'
    rw [if_pos rfl] at hb2
    refine ⟨_, rfl, p, C, dx, _, _, rfl, g1.ins, T.c_Grid, T.n_rows, gf_rows, _, rfl, lr, _, _, _, rfl, rfl, SqL.of g1.rws, atI_nat eb2, ?_⟩
    refine ⟨_, rfl, _, rfl, b2, _, _, _, rfl, rfl, SqL.of hb2, atI_nat (iv_get hsw), ?_⟩
    refine ⟨_, rfl, p, C, dx, _, _, rfl, g1.ins, T.c_Grid, T.n_rows, gf_rows, lr, _, rfl, .inl (SqL.of g1.rws), fun D2 hD2 => ?_⟩
    have n2p : b2 ≠ p := ins_lst g1.ins hb2
    have s2 := Same.new (o := .lst rs1) hD2
    have dp : D2 ≠ p := (ne_of_none g1.ins hD2).symm
    have dr : D2 ≠ lr := (ne_of_none g1.rws hD2).symm
    have di : D2 ≠ li := (ne_of_none g1.inside hD2).symm
    refine ⟨.L D2, rs1, rfl, SqL.of upd_same, for_it (walk_enumG (p := .L D2) (n := m) g1.rl)
      (fun i σ H' => (∃ u1 u2 : Option V, σ = [some (.ref p), some (.int (r : Nat)), some (.int (sc : Nat)), some (.ref b2), some (.int (K6.T m a (K6.put B r sc) r sc)), u1, u2, none]) ∧ But3 p lr li (upd H1 D2 (.lst rs1)) H' ∧
        ∃ rs2, (∀ i', i ≤ i' → rs2[i']? = rs1[i']?) ∧ GR C H' p dx ls lr li lt rs2 n m sgn (fun i' => if i' < i ∨ i' = r then K6.T m a (K6.put B r sc) i' else K6.T m a B i') B (K6.low m a B) (iv (n + m + 1) (K6.zz m a c B)))
      ⟨⟨_, _, rfl⟩, But3.refl _ _ _ _, rs1, fun _ _ => rfl, (g1.same s2).rows_eq fun i hi j hj => ?_⟩ (fun i σ H' _ q => SqL.of (q.2.1 _ _ dp dr di upd_same)) ?_ ?_⟩
    · by_cases e : i = r
      · rw [if_pos e, if_pos (Or.inr e), e]
      · rw [if_neg e, if_neg (by omega)]
    · rintro i y σ H3 H4 hi ⟨⟨u1, u2, rfl⟩, b3, rs2, hrs2, g3⟩ ⟨Tq, x1, x2, rfl, hT, rfl, e1, e2⟩
      cases e1
      obtain ⟨b4, eb4, n4r, n4i, hb4⟩ := g3.row i hi
      rw [hrs2 i (Nat.le_refl i)] at eb4
      cases e2.symm.trans eb4
      have s4 := Same.new (o := .tup [V.int (i : Nat), .ref b4]) hT
      have g4 := g3.same s4
      refine tup2 (SqT.of upd_same) ⟨_, rfl, _, rfl, rfl, _, rfl, ?_⟩
      by_cases e : i = r
      · have e3 : (!decide (V.int (i : Nat) = V.int (r : Nat))) = false := by simp [e]
        rw [e3]
        refine iteF ⟨⟨_, _, rfl⟩, b3.then s4, rs2, fun i' hi' => hrs2 i' (by omega), g4.rows_eq fun i' hi' j hj => ?_⟩
        by_cases q : i' < i ∨ i' = r
        · rw [if_pos q, if_pos (by omega)]
        · rw [if_neg q, if_neg (by omega)]
      · have e3 : (!decide (V.int (i : Nat) = V.int (r : Nat))) = true := by simp; omega
        rw [e3]
        rw [if_neg (by omega)] at hb4
        have hb4' := s4 _ _ hb4
        have hb24 : (upd H3 Tq (.tup [V.int (i : Nat), .ref b4])) b2 = some (.lst (iv (n + m + 1) (K6.T m a (K6.put B r sc) r))) := s4 _ _ (b3 _ _ n2p n2r n2i (s2 _ _ hb2))
        refine iteT ⟨_, rfl, p, dx, _, rfl, g4.ins, rfl, _, rfl, _, rfl, _, rfl, _, rfl, _, rfl, b4, _, _, _, rfl, rfl, SqL.of hb4', atI_nat (iv_get hsw), ?_⟩
        refine ⟨p, dx, b4, b2, _, n + m + 1, _, _, K6.T m a (K6.put B r sc) i, _, _, _, rfl, g4.ins, gf_low, SqL.of hb4', SqL.of hb24, by omega, lp, gc.lb _, fun j hj => ⟨Nat.lt_trans (gc.ab _ _ _) (by decide +kernel), Nat.lt_trans (gc.ab _ _ _) (by decide +kernel)⟩, Nat.lt_trans (gc.ab _ _ _) (by decide +kernel), Nat.lt_trans (gc.ab _ _ _) (by decide +kernel), fun j hj => ?_, fun D H5 hD s5 e5 => ?_⟩
        · rw [hpi]; exact K6.T_put G hr' (show sc < n + m by omega) hp hi e j
        · have g5 := g4.same s5
          refine ⟨_, rfl, p, C, dx, _, _, rfl, g5.ins, T.c_Grid, T.n_rows, gf_rows, _, rfl, lr, rs2, _, i, rfl, rfl, g5.rws, ixN_nat (by rw [g3.rl]; exact hi), ?_⟩
          refine ⟨⟨_, _, rfl⟩, ((b3.then s4).then s5).ur, _, fun i' hi' => ?_, (g5.setrow e5 (ne_of_none g4.rws hD).symm (ne_of_none g4.inside hD).symm hi).rows_eq fun i' hi' j hj => ?_⟩
          · rw [List.getElem?_set, if_neg (by omega)]
            exact hrs2 i' (by omega)
          · by_cases q : i' = i
            · rw [if_pos q, if_pos (by omega), q]
            · rw [if_neg q]
              by_cases q2 : i' < i ∨ i' = r
              · rw [if_pos q2, if_pos (by omega)]
              · rw [if_neg q2, if_neg (by omega)]
    rintro σ H3 ⟨⟨u1, u2, rfl⟩, b3, rs2, _, g3⟩
    have hb23 : H3 b2 = some (.lst (iv (n + m + 1) (K6.T m a (K6.put B r sc) r))) := b3 _ _ n2p n2r n2i (s2 _ _ hb2)
    refine ⟨_, rfl, p, dx, _, rfl, g3.ins, rfl, _, rfl, p, C, dx, _, _, rfl, g3.ins, T.c_Grid, T.n_top, gf_top, _, rfl, _, rfl, _, rfl, p, C, dx, _, _, rfl, g3.ins, T.c_Grid, T.n_top, gf_top, _, rfl, lt, _, _, _, rfl, rfl, SqL.of g3.top, atI_nat (iv_get hsw), ?_⟩
    refine ⟨p, dx, lt, b2, _, n + m + 1, _, _, K6.zz m a c (K6.put B r sc), _, _, _, rfl, g3.ins, gf_low, SqL.of g3.top, SqL.of hb23, by omega, lp, gc.lb _, fun j hj => ⟨cc.zb _ _, Nat.lt_trans (gc.ab _ _ _) (by decide +kernel)⟩, Nat.lt_trans (gc.ab _ _ _) (by decide +kernel), cc.zb _ _, fun j hj => ?_, fun D H5 hD s5 e5 => ?_⟩
    · rw [hpi]; exact K6.zz_put G hr' (show sc < n + m by omega) hp j
    have g5 := g3.same s5
    refine ⟨_, rfl, p, C, dx, _, rfl, g5.ins, T.c_Grid, T.n_top, gf_len, ?_⟩
    rw [gf_puttop]
    have g6 := g5.retop (lt' := D) (lo' := K6.low m a B) e5 (ne_of_none g3.rws hD).symm (ne_of_none g3.inside hD).symm
    refine ⟨_, rfl, _, rfl, p, C, dx, _, rfl, g6.ins, T.c_Grid, T.n_low, gf_len, ?_⟩
    rw [gf_putlow]
    have g7 := g6.retop (lt' := D) (lo' := K6.T m a (K6.put B r sc) r sc) g6.top g6.n3 g6.n4
    refine ⟨_, rfl, _, rfl, p, C, dx, _, _, rfl, g7.ins, T.c_Grid, T.n_inside, gf_inside, _, rfl, li, _, _, r, rfl, rfl, g7.inside, ixN_nat (by rw [iv_len]; exact hr'), ?_⟩
    have g8 := g7.setin (s := sc) hr'
    refine k D rs2 _ ?_ ?_
    · exact (((b1.then s2).trans (b3.then s5)).up.up).ui
    · rw [← hpi]
      refine g8.rows_eq fun i hi j hj => ?_
      rw [if_pos (Or.inl hi)]
end
end G3
-- WMake
set_option Elab.async false
set_option linter.all false
set_option maxRecDepth 100000
set_option maxHeartbeats 4000000
namespace G3
open PySem PySem.Spec PyProof.Rows L2
section
variable {P : Program} {w : World} {K : PySem.W.Frag} {mg : Str → Option Value} {base : Heap} {C CN : Addr}
def spPrice (C : Addr) : Sp := fun vs H Q _ => ∃ (p dx ls lr li lt t1 : Addr) (rs : List V) (n m : Nat) (sgn : Nat → Int) (a : Nat → Nat → Int) (c : Nat → Int) (B : Nat → Nat) (tp : List V),
  vs = [.ref p, .ref t1] ∧ GR C H p dx ls lr li lt rs n m sgn (K6.T m a B) B (K6.low m a B) tp ∧ H t1 = some (.lst (iv (n + m) c)) ∧ Gc m n a ∧ Cc m n a c ∧ K6.Good m (n + m) a B ∧ c (n + m) = 0 ∧
  ∀ lt' H', But p H H' → GR C H' p dx ls lr li lt' rs n m sgn (K6.T m a B) B (K6.low m a B) (iv (n + m + 1) (K6.zz m a c B)) → Q .non H'
theorem sc_G_price : FnScope ["self", "costs", "index", "row", "weight", "one", "other"] ["self", "costs"] (defScope sG_price) := ⟨rfl, rfl, rfl, by decide +kernel, rfl, by decide +kernel, by decide +kernel⟩
theorem ok_G_price (T : Txt K mg C CN) : HasM P w K mg base CX0 C "price" 1 ["self", "costs"] (spPrice C) := by
  obtain ⟨f, fd, mf, F, bf⟩ := T.m_price
  refine ⟨f, fd, mf, bf, F.ok sc_G_price (fun vs H Q E h => ?_) (fun cdv A outer s H vs Q E hr h => ?_)⟩
  · obtain ⟨p, dx, ls, lr, li, lt, t1, rs, n, m, sgn, a, c, B, tp, rfl, _⟩ := h
    rfl
  · obtain ⟨p, dx, ls, lr, li, lt, t1, rs, n, m, sgn, a, c, B, tp, rfl, g, ht1, gc, cc, G, c0, k⟩ := h
    have hm20 := gc.m20
    have hn100 := gc.n100
    refine ⟨_, PSs.nox (pss_cons (ps_fld (pv 0) (pe_op op_cat (pe_lc (own := [("one", 5)]) (g := gName 5) rfl sc_G_price.nd (pi_list (pv 1)) (blkOk_by (own := [("one", 5)]) (N := ["self", "costs", "index", "row", "weight", "one", "other"]) (sc := defScope sG_price) (by decide +kernel)) (fun _ _ _ _ _ => by exact (pg_name (i := 5) sc_G_price.nd rfl (Or.inl rfl))) (fun _ _ _ _ _ => by exact pts_nil) (fun _ _ _ _ _ => by exact (pe_op op_mulW (fldK (K := K) (pv 0) rfl) (pv 5)))) (pe_lst (pa_cons pe_int pa_nil))) rfl)
    (pss_one (ps_for PassesOwn.never rfl (pi_enumG rfl T.b_enumerate (pa_cons (fldK (K := K) (pv 0) rfl) pa_nil)) (pg_tup (by rfl) (pgs_cons (pg_name (i := 2) sc_G_price.nd rfl (Or.inl rfl)) (pgs_cons (pg_name (i := 3) sc_G_price.nd rfl (Or.inl rfl)) pgs_nil)))
      (pss_cons (ps_set (i := 4) sc_G_price.nd rfl (Or.inr rfl) (pe_ix (ixL (K := K)) (pv 1) (pe_ix (ixL (K := K)) (fldK (K := K) (pv 0) rfl) (pv 2) (fun _ _ => rfl)) (fun _ _ => rfl)))
      (pss_one (ps_if (pt_cmpR op_ne (pv 4) pe_int (nomark _))
        (pss_one (ps_fld (pv 0) (pe_lc (own := [("one", 5), ("other", 6)]) (g := gTup K 2 (gCons (gName 5) (gCons (gName 6) gNil))) rfl sc_G_price.nd (pi_zipG rfl T.b_zip (pa_cons (fldK (K := K) (pv 0) rfl) (pa_cons (pv 3) pa_nil))) (blkOk_by (own := [("one", 5), ("other", 6)]) (N := ["self", "costs", "index", "row", "weight", "one", "other"]) (sc := defScope sG_price) (by decide +kernel)) (fun _ _ _ _ _ => by exact (pg_tup (by rfl) (pgs_cons (pg_name (i := 5) sc_G_price.nd rfl (Or.inl rfl)) (pgs_cons (pg_name (i := 6) sc_G_price.nd rfl (Or.inl rfl)) pgs_nil)))) (fun _ _ _ _ _ => by exact pts_nil) (fun _ _ _ _ _ => by exact (pe_op op_sub (pv 5) (pe_op op_mulW (pv 4) (pv 6))))) rfl))
        pss_nil)))))), ?_⟩
    refine ⟨_, rfl, t1, rfl, ⟨_, SqL.of ht1⟩, fun D hD => lc_iv (walk_list (xs := iv (n + m) c)) (fun j => K6.low m a B * c j) (by rw [iv_len]; omega) hD (fun H' s => s.seq (SqL.of ht1)) ?_ ?_⟩
    · rintro j y H1 H2 Qy Qn hj s1 ⟨rfl, e⟩ kq
      obtain ⟨_, rfl⟩ := iv_of e
      have g1 := g.same s1
      exact ⟨rfl, yesI ⟨_, rfl, p, C, dx, _, _, rfl, g1.ins, T.c_Grid, T.n_low, gf_low, _, rfl, _, _, rfl, rfl, wide_mul (a := 1500) (b := 1500) (gc.lb _) (cc.cb _) (by decide) (by decide) (by decide), kq _ (Same.refl _)⟩⟩
    intro H1 s1 e1
    rw [iv_len] at e1
    refine ⟨small (by show 1 ≤ 1000; decide), fun D2 hD2 => ?_⟩
    have s2 := Same.new (o := .lst [V.int 0]) hD2
    refine ⟨D, D2, _, _, rfl, rfl, s2 _ _ e1, upd_same, small (by rw [iv_len]; show _ + 1 ≤ _; omega), fun D3 hD3 => ?_⟩
    have s3 := Same.new (o := .lst (iv (n + m) (fun j => K6.low m a B * c j) ++ [V.int 0])) hD3
    have s13 := s1.trans (s2.trans s3)
    have g3 := g.same s13
    have e3 : (iv (n + m) (fun j => K6.low m a B * c j) ++ [V.int 0]) = iv (n + m + 1) (fun j => K6.low m a B * c j - K6.sI 0 (fun i => c (B i) * K6.T m a B i j)) := by
      rw [iv_snoc]
      congr 1
      · exact iv_congr fun j _ => by show _ = _ - 0; omega
      · rw [c0]
        show [V.int 0] = [V.int (K6.low m a B * 0 - 0)]
        rw [Int.mul_zero]; rfl
    have top3 : (upd (upd H1 D2 (.lst [V.int 0])) D3 (.lst (iv (n + m) (fun j => K6.low m a B * c j) ++ [V.int 0]))) D3 = some (.lst (iv (n + m + 1) (fun j => K6.low m a B * c j - K6.sI 0 (fun i => c (B i) * K6.T m a B i j)))) := by rw [upd_same, e3]
    have s12 := s1.trans s2
    have g4 := g3.retop (lt' := D3) (lo' := K6.low m a B) top3 (ne_of_none (s12 _ _ g.rws) hD3).symm (ne_of_none (s12 _ _ g.inside) hD3).symm
    refine ⟨_, rfl, p, C, dx, _, rfl, g3.ins, T.c_Grid, T.n_top, gf_len, ?_⟩
    rw [gf_puttop]
    refine ⟨_, rfl, p, C, dx, _, _, rfl, g4.ins, T.c_Grid, T.n_rows, gf_rows, .L lr, rs, rfl, SqL.of g4.rws, for_it (walk_enumG (p := .L lr) (n := m) g.rl)
      (fun i σ H' => (∃ u1 u2 u3 : Option V, σ = [some (.ref p), some (.ref t1), u1, u2, u3, none, none]) ∧ But p H H' ∧ ∃ lt', GR C H' p dx ls lr li lt' rs n m sgn (K6.T m a B) B (K6.low m a B) (iv (n + m + 1) (fun j => K6.low m a B * c j - K6.sI i (fun i => c (B i) * K6.T m a B i j))))
      ⟨⟨_, _, _, rfl⟩, ((But.refl p H).then s13).write, D3, g4⟩ (fun i σ H' _ q => let ⟨_, g⟩ := q.2.2; SqL.of g.rws) ?_ ?_⟩
    · rintro i y σ H3 H4 hi ⟨⟨u1, u2, u3, rfl⟩, b3, lt', g3⟩ ⟨Tq, x1, x2, rfl, hT, rfl, e1, e2⟩
      cases e1
      obtain ⟨b, eb, n4r, n4i, hb⟩ := g3.row i hi
      cases e2.symm.trans eb
      have s4 := Same.new (o := .tup [V.int (i : Nat), .ref b]) hT
      have g4 := g3.same s4
      have ht4 : (upd H3 Tq (.tup [V.int (i : Nat), .ref b])) t1 = some (.lst (iv (n + m) c)) := s4 _ _ (b3 _ _ (ins_lst g.ins ht1) ht1)
      refine tup2 (SqT.of upd_same) ⟨_, rfl, _, rfl, p, C, dx, _, _, rfl, g4.ins, T.c_Grid, T.n_inside, gf_inside, _, rfl, li, _, _, _, rfl, rfl, SqL.of g4.inside, atI_nat (iv_get hi), t1, _, _, _, rfl, rfl, SqL.of ht4, atI_nat (iv_get (G.inN i hi)), ?_⟩
      refine ⟨_, rfl, rfl, _, rfl, ?_⟩
      by_cases e : c (B i) = 0
      · have e3 : (!decide (V.int (c (B i)) = V.int 0)) = false := by simp [e]
        rw [e3]
        refine iteF ⟨⟨_, _, _, rfl⟩, b3.then s4, lt', ?_⟩
        have e5 : (fun j => K6.low m a B * c j - K6.sI (i + 1) (fun i => c (B i) * K6.T m a B i j)) = fun j => K6.low m a B * c j - K6.sI i (fun i => c (B i) * K6.T m a B i j) := funext fun j => by
          show _ - (K6.sI i _ + c (B i) * K6.T m a B i j) = _
          rw [e, Int.zero_mul, Int.add_zero]
        rw [e5]; exact g4
      · have e3 : (!decide (V.int (c (B i)) = V.int 0)) = true := by simp [e]
        rw [e3]
        have hb4 := s4 _ _ hb
        refine iteT ⟨_, rfl, p, C, dx, _, _, rfl, g4.ins, T.c_Grid, T.n_top, gf_top, _, rfl, .L lt', .L b, _, _, rfl, SqL.of g4.top, SqL.of hb4, fun D hD => lc_iv (walk_zipG (p := .L lt') (q := .L b) (n := n + m + 1) (iv_len _ _) (iv_len _ _)) (fun j => K6.low m a B * c j - K6.sI (i + 1) (fun i => c (B i) * K6.T m a B i j)) (by omega) hD (fun H' s => ⟨s.seq (SqL.of g4.top), s.seq (SqL.of hb4)⟩) ?_ ?_⟩
        · rintro j y H5 H6 Qy Qn hj s5 ⟨Tr, x1, x2, rfl, hT2, rfl, e1, e2⟩ kq
          obtain ⟨_, rfl⟩ := iv_of e1
          obtain ⟨_, rfl⟩ := iv_of e2
          refine tup2 (SqT.of upd_same) ⟨rfl, yesI ⟨_, rfl, _, rfl, _, rfl, _, _, rfl, rfl, wide_mul (a := 1500) (b := 1500) (cc.cb _) (gc.ab _ _ _) (by decide) (by decide) (by decide), ?_⟩⟩
          refine ⟨_, _, rfl, rfl, ?_⟩
          have e5 : K6.low m a B * c j - K6.sI i (fun i => c (B i) * K6.T m a B i j) - c (B i) * K6.T m a B i j = K6.low m a B * c j - K6.sI (i + 1) (fun i => c (B i) * K6.T m a B i j) := by
            show _ = _ - (K6.sI i _ + c (B i) * K6.T m a B i j)
            omega
          show Qy (V.int (_ - _)) _
          rw [e5]
          exact kq _ (Same.new hT2)
        · intro H5 s5 e5
          have g5 := g4.same s5
          refine ⟨_, rfl, p, C, dx, _, rfl, g5.ins, T.c_Grid, T.n_top, gf_len, ?_⟩
          rw [gf_puttop]
          exact ⟨⟨_, _, _, rfl⟩, ((b3.then s4).then s5).write, D, g5.retop e5 (ne_of_none g4.rws hD).symm (ne_of_none g4.inside hD).symm⟩
    · rintro σ H3 ⟨⟨u1, u2, u3, rfl⟩, b3, lt', g3⟩
      exact k lt' H3 b3 g3
def spInit (C : Addr) : Sp := fun vs H Q _ => ∃ (p dx t1 t2 : Addr) (rs : List V) (n m : Nat) (a : Nat → Nat → Int) (line : Nat → Nat → Int) (b : Nat → Int),
  vs = [.ref p, .ref t1, .ref t2, .int n] ∧ H p = some (.ins C dx []) ∧ H t1 = some (.lst rs) ∧ rs.length = m ∧ (∀ i, i < m → ∃ q, rs[i]? = some (.ref q) ∧ H q = some (.lst (iv n (line i)))) ∧ H t2 = some (.lst (iv m b)) ∧ m ≤ 20 ∧ n ≤ 100 ∧
  (∀ i j, i < m → j < n → (line i j).natAbs < 2 ^ 1500 ∧ a j i = (if b i < 0 then -1 else 1) * line i j) ∧ (∀ i, i < m → a (n + i) = K6.unitV i) ∧ (∀ i, i < m → (b i).natAbs < 2 ^ 1500 ∧ a (n + m) i = (if b i < 0 then -1 else 1) * b i) ∧
  ∀ ls lr li lt rs' H', But p H H' → H lr = none → H li = none → GR C H' p dx ls lr li lt rs' n m (fun i => if b i < 0 then -1 else 1) (fun i j => a j i) (fun i => n + i) 1 [] → Q .non H'
theorem line_all {n m i : Nat} {a : Nat → Nat → Int} {line : Nat → Int} {s r : Int} (hi : i < m) (h1 : ∀ j, j < n → a j i = s * line j) (h2 : ∀ i, i < m → a (n + i) = K6.unitV i) (h3 : a (n + m) i = r) :
    (iv n (fun j => s * line j) ++ iv m (fun j => if j = i then 1 else 0)) ++ [V.int r] = iv (n + m + 1) (fun j => a j i) := by
  rw [iv_snoc, iv_append, h3]
  congr 1
  refine iv_congr fun j hj => ?_
  by_cases c : j < n
  · rw [if_pos c, h1 j c]
  · rw [if_neg c]
    have e := congrFun (h2 (j - n) (by omega)) i
    rw [show n + (j - n) = j by omega] at e
    rw [e]
    unfold K6.unitV
    by_cases q : j - n = i
    · rw [if_pos q, if_pos q.symm]
    · rw [if_neg q, if_neg (fun z => q z.symm)]
end
end G3
-- WInit
set_option Elab.async false
set_option linter.all false
set_option maxRecDepth 100000
set_option maxHeartbeats 4000000
namespace G3
open PySem PySem.Spec PyProof.Rows L2
/-- all but two as it was -/
def But2 (p q : Addr) (H H' : Hp) : Prop := ∀ b o, b ≠ p → b ≠ q → H b = some o → H' b = some o
theorem But2.refl (p q : Addr) (H : Hp) : But2 p q H H := fun _ _ _ _ h => h
theorem But2.then {p q : Addr} {H H1 H2 : Hp} (b : But2 p q H H1) (s : Same H1 H2) : But2 p q H H2 := fun c o x y e => s c o (b c o x y e)
theorem But2.ur {p q : Addr} {H H1 : Hp} {o : HO} (b : But2 p q H H1) : But2 p q H (upd H1 q o) := fun c u x y e => by rw [upd_ne y]; exact b c u x y e
theorem But2.but {p q : Addr} {H0 H H1 : Hp} (b0 : But p H0 H) (b : But2 p q H H1) (h : H0 q = none) : But p H0 H1 := fun c o x e => b c o x (ne_of_none e h) (b0 c o x e)
theorem sgn_b (x : Int) : (if x < 0 then (-1 : Int) else 1).natAbs < 2 ^ 1500 := by
  have h : (1 : Nat) < 2 ^ 1500 := by decide +kernel
  split
  · exact h
  · exact h
def HasMk (P : Program) (w : World) (K : PySem.W.Frag) (mg : Str → Option Value) (base : Heap) (CX : CXT) (C : Addr) (k : Nat) (ps : List Str) (sp : Sp) : Prop :=
  ∃ f fd, Mk K C f ∧ Binds K fd ps [] ∧ FnOk P w K mg base CX k f fd ps sp
section
variable {P : Program} {w : World} {K : PySem.W.Frag} {mg : Str → Option Value} {base : Heap} {C CN : Addr}
theorem sc_G_init : FnScope ["self", "rows", "rights", "many", "index", "row", "sign", "help_part", "right", "at", "one"] ["self", "rows", "rights", "many"] (defScope sG_init) := ⟨rfl, rfl, rfl, by decide +kernel, rfl, by decide +kernel, by decide +kernel⟩
theorem ok_G_init (T : Txt K mg C CN) : HasMk P w K mg base CX0 C 1 ["self", "rows", "rights", "many"] (spInit C) := by
  obtain ⟨f, fd, mf, F, bf⟩ := T.M_init
  refine ⟨f, fd, mf, bf, F.ok sc_G_init (fun vs H Q E h => ?_) (fun cdv A outer s H vs Q E hr h => ?_)⟩
  · obtain ⟨p, dx, t1, t2, rs, n, m, a, line, b, rfl, _⟩ := h
    rfl
  · obtain ⟨p, dx, t1, t2, rs, n, m, a, line, b, rfl, hp, ht1, hrl, hrow, ht2, hm20, hn100, hline, hunit, hb, k⟩ := h
    have p1 : t1 ≠ p := ins_lst hp ht1
    have p2 : t2 ≠ p := ins_lst hp ht2
    refine ⟨_, PSs.nox (pss_cons (ps_fld (pv 0) (pe_lc (own := [("right", 8)]) (g := gName 8) rfl sc_G_init.nd (pi_list (pv 2)) (blkOk_by (own := [("right", 8)]) (N := ["self", "rows", "rights", "many", "index", "row", "sign", "help_part", "right", "at", "one"]) (sc := defScope sG_init) (by decide +kernel)) (fun _ _ _ _ _ => by exact (pg_name (i := 8) sc_G_init.nd rfl (Or.inl rfl))) (fun _ _ _ _ _ => by exact pts_nil) (fun _ _ _ _ _ => by exact (pe_ifExp (pt_cmpR op_lt (pv 8) pe_int (nomark _)) (pe_un un_neg pe_int) pe_int))) rfl)
    (pss_cons (ps_fld (pv 0) (pv 3) rfl)
    (pss_cons (ps_fld (pv 0) (pe_lst pa_nil) rfl)
    (pss_cons (ps_for PassesOwn.never rfl (pi_enumG rfl T.b_enumerate (pa_cons (pv 1) pa_nil)) (pg_tup (by rfl) (pgs_cons (pg_name (i := 4) sc_G_init.nd rfl (Or.inr rfl)) (pgs_cons (pg_name (i := 5) sc_G_init.nd rfl (Or.inl rfl)) pgs_nil)))
      (pss_cons (ps_set (i := 6) sc_G_init.nd rfl (Or.inr rfl) (pe_ix (ixL (K := K)) (fldK (K := K) (pv 0) rfl) (pv 4) (fun _ _ => rfl)))
      (pss_cons (ps_setLc (i := 7) (own := [("at", 9)]) (g := gName 9) rfl sc_G_init.nd rfl rfl (sw_true rfl rfl rfl (by decide +kernel)) (pi_range1 rfl T.b_range (pa_cons (pe_callB (lenS (K := K)) (by rfl) T.b_len PySem.boot_len (pa_cons (pv 1) pa_nil)) pa_nil)) (blkOk_by (own := [("at", 9)]) (N := ["self", "rows", "rights", "many", "index", "row", "sign", "help_part", "right", "at", "one"]) (sc := defScope sG_init) (by decide +kernel)) (fun _ _ _ _ _ => by exact (pg_name (i := 9) sc_G_init.nd rfl (Or.inl rfl))) (fun _ _ _ _ _ => by exact pts_nil) (fun _ _ _ _ _ => by exact (pe_ifExp (pt_cmpR op_eq (pv 9) (pv 4) (nomark _)) pe_int pe_int)))
      (pss_one (ps_expr (pe_bm PySem.F.plainAttrs_list PySem.F.slot_list_append PySem.F.type_list_append mt_append (fldK (K := K) (pv 0) rfl) (pa_cons (pe_op op_cat (pe_op op_cat (pe_lc (own := [("one", 10)]) (g := gName 10) rfl sc_G_init.nd (pi_list (pv 5)) (blkOk_by (own := [("one", 10)]) (N := ["self", "rows", "rights", "many", "index", "row", "sign", "help_part", "right", "at", "one"]) (sc := defScope sG_init) (by decide +kernel)) (fun _ _ _ _ _ => by exact (pg_name (i := 10) sc_G_init.nd rfl (Or.inl rfl))) (fun _ _ _ _ _ => by exact pts_nil) (fun _ _ _ _ _ => by exact (pe_op op_mulW (pv 6) (pv 10)))) (pv 7)) (pe_lst (pa_cons (pe_op op_mulW (pv 6) (pe_ix (ixL (K := K)) (pv 2) (pv 4) (fun _ _ => rfl))) pa_nil))) pa_nil)))))))
    (pss_cons (ps_fld (pv 0) (pe_lc (own := [("index", 4)]) (g := gName 4) rfl sc_G_init.nd (pi_range1 rfl T.b_range (pa_cons (pe_callB (lenS (K := K)) (by rfl) T.b_len PySem.boot_len (pa_cons (pv 1) pa_nil)) pa_nil)) (blkOk_by (own := [("index", 4)]) (N := ["self", "rows", "rights", "many", "index", "row", "sign", "help_part", "right", "at", "one"]) (sc := defScope sG_init) (by decide +kernel)) (fun _ _ _ _ _ => by exact (pg_name (i := 4) sc_G_init.nd rfl (Or.inl rfl))) (fun _ _ _ _ _ => by exact pts_nil) (fun _ _ _ _ _ => by exact (pe_op op_add (pv 3) (pv 4)))) rfl)
    (pss_cons (ps_fld (pv 0) pe_int rfl)
    (pss_one (ps_fld (pv 0) (pe_lst pa_nil) rfl)))))))), ?_⟩
    refine ⟨_, rfl, t2, rfl, ⟨_, SqL.of ht2⟩, fun ls hls => lc_iv (walk_list (xs := iv m b)) (fun i => if b i < 0 then -1 else 1) (by rw [iv_len]; omega) hls (fun H' s => s.seq (SqL.of ht2)) ?_ ?_⟩
    · rintro j y H1 H2 Qy Qn hj s1 ⟨rfl, e⟩ kq
      obtain ⟨_, rfl⟩ := iv_of e
      refine ⟨rfl, yesI ⟨_, rfl, _, _, rfl, rfl, _, rfl, ?_⟩⟩
      have k2 := kq _ (Same.refl _)
      by_cases c : b j < 0
      · rw [decide_eq_true c]
        rw [if_pos c] at k2
        exact iteT ⟨_, rfl, k2⟩
      · rw [decide_eq_false c]
        rw [if_neg c] at k2
        exact iteF k2
    intro H1 s1 e1
    rw [iv_len] at e1
    refine ⟨_, rfl, p, C, dx, _, rfl, s1 _ _ hp, T.c_Grid, T.n_signs, by decide, ?_⟩
    refine ⟨_, rfl, _, rfl, p, C, dx, _, rfl, upd_same, T.c_Grid, T.n_many, by show 1 < 1000; decide, ?_⟩
    have nsp : ls ≠ p := (ne_of_none hp hls).symm
    refine ⟨Nat.zero_le _, fun lr hlr => ?_⟩
    have b2 : But p H (upd (upd H1 p (.ins C dx [("signs", .ref ls)])) p (.ins C dx [("signs", .ref ls), ("many", .int n)])) := ((But.refl p H).then s1).write.write
    have i2 : (upd (upd H1 p (.ins C dx [("signs", .ref ls)])) p (.ins C dx [("signs", .ref ls), ("many", .int n)])) p = some (.ins C dx [("signs", .ref ls), ("many", .int n)]) := upd_same
    have g2 : (upd (upd H1 p (.ins C dx [("signs", .ref ls)])) p (.ins C dx [("signs", .ref ls), ("many", .int n)])) ls = some (.lst (iv m (fun i => if b i < 0 then -1 else 1))) := by rw [upd_ne nsp, upd_ne nsp]; exact e1
    have hlr' : (upd (upd H1 p (.ins C dx [("signs", .ref ls)])) p (.ins C dx [("signs", .ref ls), ("many", .int n)])) lr = none := hlr
    have s3 : Same (upd (upd H1 p (.ins C dx [("signs", .ref ls)])) p (.ins C dx [("signs", .ref ls), ("many", .int n)])) _ := Same.new (o := .lst []) hlr'
    refine ⟨_, rfl, p, C, dx, _, rfl, s3 _ _ i2, T.c_Grid, T.n_rows, by show 2 < 1000; decide, ?_⟩
    have nlp : lr ≠ p := (ne_of_none i2 hlr').symm
    have nls : ls ≠ lr := ne_of_none g2 hlr'
    have h0lr : H lr = none := by
      cases e : H lr with
      | none => rfl
      | some o => exact absurd (b2 _ _ nlp e) (by rw [hlr']; intro q; cases q)
    have b3 : But p H (upd (upd (upd (upd H1 p (.ins C dx [("signs", .ref ls)])) p (.ins C dx [("signs", .ref ls), ("many", .int n)])) lr (.lst [])) p (.ins C dx [("signs", .ref ls), ("many", .int n), ("rows", .ref lr)])) := (b2.then s3).write
    have i3 : (upd (upd (upd (upd H1 p (.ins C dx [("signs", .ref ls)])) p (.ins C dx [("signs", .ref ls), ("many", .int n)])) lr (.lst [])) p (.ins C dx [("signs", .ref ls), ("many", .int n), ("rows", .ref lr)])) p = some (.ins C dx [("signs", .ref ls), ("many", .int n), ("rows", .ref lr)]) := upd_same
    have g3 : (upd (upd (upd (upd H1 p (.ins C dx [("signs", .ref ls)])) p (.ins C dx [("signs", .ref ls), ("many", .int n)])) lr (.lst [])) p (.ins C dx [("signs", .ref ls), ("many", .int n), ("rows", .ref lr)])) ls = some (.lst (iv m (fun i => if b i < 0 then -1 else 1))) := by rw [upd_ne nsp, upd_ne nls]; exact g2
    have r3 : (upd (upd (upd (upd H1 p (.ins C dx [("signs", .ref ls)])) p (.ins C dx [("signs", .ref ls), ("many", .int n)])) lr (.lst [])) p (.ins C dx [("signs", .ref ls), ("many", .int n), ("rows", .ref lr)])) lr = some (.lst []) := by rw [upd_ne nlp, upd_same]
    show (_ : TS) _ _ (upd (upd (upd (upd H1 p (.ins C dx [("signs", .ref ls)])) p (.ins C dx [("signs", .ref ls), ("many", .int n)])) lr (.lst [])) p (.ins C dx [("signs", .ref ls), ("many", .int n), ("rows", .ref lr)]))
    generalize (upd (upd (upd (upd H1 p (.ins C dx [("signs", .ref ls)])) p (.ins C dx [("signs", .ref ls), ("many", .int n)])) lr (.lst [])) p (.ins C dx [("signs", .ref ls), ("many", .int n), ("rows", .ref lr)])) = H3 at b3 i3 g3 r3 ⊢
    have ht13 : H3 t1 = some (.lst rs) := b3 _ _ p1 ht1
    refine ⟨_, rfl, .L t1, rs, rfl, SqL.of ht13, for_it (walk_enumG (p := .L t1) (n := m) hrl)
      (fun i σ H' => (∃ u1 u2 u3 u4 : Option V, σ = [some (.ref p), some (.ref t1), some (.ref t2), some (.int n), u1, u2, u3, u4, none, none, none]) ∧ But2 p lr H3 H' ∧ H' p = some (.ins C dx [("signs", .ref ls), ("many", .int n), ("rows", .ref lr)]) ∧
        ∃ acc, H' lr = some (.lst acc) ∧ acc.length = i ∧ ∀ j, j < i → ∃ q, acc[j]? = some (.ref q) ∧ q ≠ lr ∧ H' q = some (.lst (iv (n + m + 1) (fun q => a q j))))
      ⟨⟨_, _, _, _, rfl⟩, But2.refl _ _ _, i3, [], r3, rfl, fun j hj => absurd hj (Nat.not_lt_zero j)⟩ (fun i σ H' _ q => SqL.of (q.2.1 _ _ p1 (fun e => by subst e; exact absurd (h0lr.symm.trans ht1) (by intro z; cases z)) ht13)) ?_ ?_⟩
    · rintro i y σ H4 H5 hi ⟨⟨u1, u2, u3, u4, rfl⟩, b4, i4, acc, hacc, hal, har⟩ ⟨Tq, x1, x2, rfl, hT, rfl, e1', e2⟩
      cases e1'
      obtain ⟨q, eq, hq⟩ := hrow i hi
      cases e2.symm.trans eq
      have s5 := Same.new (o := .tup [V.int (i : Nat), .ref q]) hT
      have nq : q ≠ lr := fun e => by subst e; exact absurd (h0lr.symm.trans hq) (by intro z; cases z)
      have nt2 : t2 ≠ lr := fun e => by subst e; exact absurd (h0lr.symm.trans ht2) (by intro z; cases z)
      have nt1 : t1 ≠ lr := fun e => by subst e; exact absurd (h0lr.symm.trans ht1) (by intro z; cases z)
      have i5 := s5 _ _ i4
      have g5 := s5 _ _ (b4 _ _ nsp nls g3)
      have q5 := s5 _ _ (b4 _ _ (ins_lst hp hq) nq (b3 _ _ (ins_lst hp hq) hq))
      have t25 := s5 _ _ (b4 _ _ p2 nt2 (b3 _ _ p2 ht2))
      have t15 := s5 _ _ (b4 _ _ p1 nt1 ht13)
      have r5 := s5 _ _ hacc
      refine tup2 (SqT.of upd_same) ⟨_, rfl, p, C, dx, _, _, rfl, i5, T.c_Grid, T.n_signs, rfl, _, rfl, ls, _, _, _, rfl, rfl, SqL.of g5, atI_nat (iv_get hi), ?_⟩
      refine ⟨_, rfl, t1, _, rfl, .inl (SqL.of t15), _, rfl, by omega, by omega, fun D hD => lc_iv (walk_range (lo := 0) (n := ((rs.length : Nat) : Int).toNat)) (fun j => if j = i then 1 else 0) (by omega) hD (fun _ _ => trivial) ?_ ?_⟩
      · rintro j y H6 H7 Qy Qn hj s6 ⟨rfl, rfl⟩ kq
        refine ⟨rfl, yesI ⟨_, rfl, _, rfl, rfl, _, rfl, ?_⟩⟩
        have k2 := kq _ (Same.refl _)
        by_cases c : j = i
        · have e : decide (V.int (0 + (j : Nat)) = V.int (i : Nat)) = true := by simp [c]
          rw [if_pos c] at k2
          rw [e]
          exact iteT k2
        · have e : decide (V.int (0 + (j : Nat)) = V.int (i : Nat)) = false := by simp; omega
          rw [if_neg c] at k2
          rw [e]
          exact iteF k2
      intro H6 s6 e6
      rw [Int.toNat_natCast, hrl] at e6
      have s56 := s5.trans s6
      refine ⟨_, rfl, p, C, dx, _, _, rfl, s6 _ _ i5, T.c_Grid, T.n_rows, rfl, .inl ⟨rfl, _, SqL.of (s6 _ _ r5)⟩, ?_⟩
      refine ⟨_, rfl, q, rfl, ⟨_, SqL.of (s6 _ _ q5)⟩, fun D2 hD2 => lc_iv (walk_list (xs := iv n (line i))) (fun j => (if b i < 0 then -1 else 1) * line i j) (by rw [iv_len]; omega) hD2 (fun H' s => s.seq (SqL.of (s6 _ _ q5))) ?_ ?_⟩
      · rintro j y H7 H8 Qy Qn hj s7 ⟨rfl, e⟩ kq
        obtain ⟨hj', rfl⟩ := iv_of e
        exact ⟨rfl, yesI ⟨_, rfl, _, rfl, _, _, rfl, rfl, wide_mul (a := 1500) (b := 1500) (sgn_b (b i)) (hline i j hi hj').1 (by decide) (by decide) (by decide), kq _ (Same.refl _)⟩⟩
      intro H7 s7 e7
      rw [iv_len] at e7
      refine ⟨_, rfl, D2, D, _, _, rfl, rfl, e7, s7 _ _ e6, small (by rw [iv_len, iv_len]; omega), fun D3 hD3 => ?_⟩
      have s8 := Same.new (o := .lst (iv n (fun j => (if b i < 0 then -1 else 1) * line i j) ++ iv m (fun j => if j = i then 1 else 0))) hD3
      have s58 := s6.trans (s7.trans s8)
      refine ⟨_, rfl, _, rfl, _, rfl, t2, _, _, _, rfl, rfl, SqL.of (s58 _ _ t25), atI_nat (iv_get hi), _, _, rfl, rfl, wide_mul (a := 1500) (b := 1500) (sgn_b (b i)) (hb i hi).1 (by decide) (by decide) (by decide), small (by show 1 ≤ 1000; decide), fun D4 hD4 => ?_⟩
      have s9 := Same.new (o := .lst [V.int ((if b i < 0 then -1 else 1) * b i)]) hD4
      refine ⟨D3, D4, _, _, rfl, rfl, s9 _ _ upd_same, upd_same, small (by rw [List.length_append, iv_len, iv_len]; show _ + 1 ≤ _; omega), fun D5 hD5 => ?_⟩
      have e10 := line_all (n := n) (m := m) (i := i) (a := a) (line := line i) (s := if b i < 0 then -1 else 1) (r := (if b i < 0 then -1 else 1) * b i) hi (fun j hj => (hline i j hi hj).2) hunit (hb i hi).2
      have s10 := Same.new (o := .lst ((iv n (fun j => (if b i < 0 then -1 else 1) * line i j) ++ iv m (fun j => if j = i then 1 else 0)) ++ [V.int ((if b i < 0 then -1 else 1) * b i)])) hD5
      have s4a := s56.trans (s7.trans (s8.trans (s9.trans s10)))
      refine ⟨lr, acc, _, rfl, rfl, s4a _ _ hacc, small1000 (by omega), ?_⟩
      have nD5 : D5 ≠ lr := (ne_of_none ((s56.trans (s7.trans (s8.trans s9))) _ _ hacc) hD5).symm
      refine ⟨⟨_, _, _, _, rfl⟩, (b4.then s4a).ur, by rw [upd_ne nlp.symm]; exact s4a _ _ i4, _, upd_same, by rw [List.length_append, hal]; rfl, fun j hj => ?_⟩
      by_cases cj : j < i
      · obtain ⟨q', eq', nq', hq'⟩ := har j cj
        exact ⟨q', by rw [List.getElem?_append_left (by omega)]; exact eq', nq', by rw [upd_ne nq']; exact s4a _ _ hq'⟩
      · have : j = i := by omega
        subst this
        refine ⟨D5, by rw [List.getElem?_append_right (by omega), hal]; simp, nD5, ?_⟩
        rw [upd_ne nD5, upd_same, e10]
    rintro σ H4 ⟨⟨u1, u2, u3, u4, rfl⟩, b4, i4, acc, hacc, hal, har⟩
    have nt1 : t1 ≠ lr := fun e => by subst e; exact absurd (h0lr.symm.trans ht1) (by intro z; cases z)
    have t14 := b4 _ _ p1 nt1 ht13
    have g4 := b4 _ _ nsp nls g3
    refine ⟨_, rfl, t1, _, rfl, .inl (SqL.of t14), _, rfl, by omega, by omega, fun li hli => lc_iv (walk_range (lo := 0) (n := ((rs.length : Nat) : Int).toNat)) (fun j => ((n + j : Nat) : Int)) (by omega) hli (fun _ _ => trivial) ?_ ?_⟩
    · rintro j y H6 H7 Qy Qn hj s6 ⟨rfl, rfl⟩ kq
      refine ⟨rfl, yesI ⟨_, rfl, _, rfl, _, _, rfl, rfl, ?_⟩⟩
      have k2 := kq _ (Same.refl _)
      have e : (n : Int) + (0 + (j : Nat)) = ((n + j : Nat) : Int) := by omega
      rw [← e] at k2
      exact k2
    intro H5 s5 e5
    rw [Int.toNat_natCast, hrl] at e5
    refine ⟨_, rfl, p, C, dx, _, rfl, s5 _ _ i4, T.c_Grid, T.n_inside, by show 3 < 1000; decide, ?_⟩
    refine ⟨_, rfl, p, C, dx, _, rfl, upd_same, T.c_Grid, T.n_low, by show 4 < 1000; decide, ?_⟩
    refine ⟨Nat.zero_le _, fun lt hlt => ?_⟩
    have nip : li ≠ p := (ne_of_none i4 hli).symm
    have nir : li ≠ lr := (ne_of_none hacc hli).symm
    have nis : ls ≠ li := ne_of_none g4 hli
    have bAll : But p H H5 := (But2.but b3 b4 h0lr).then s5
    have h0li : H li = none := by
      cases e : H li with
      | none => rfl
      | some o => exact absurd ((But2.but b3 b4 h0lr) _ _ nip e) (by rw [hli]; intro q; cases q)
    have hlt5 := hlt
    have up : ∀ {x : Addr} {o : HO}, x ≠ p → H5 x = some o → (upd (upd H5 p (.ins C dx [("signs", .ref ls), ("many", .int n), ("rows", .ref lr), ("inside", .ref li)])) p (.ins C dx [("signs", .ref ls), ("many", .int n), ("rows", .ref lr), ("inside", .ref li), ("low", .int 1)])) x = some o := fun hx e => by rw [upd_ne hx, upd_ne hx]; exact e
    have hlt6 : (upd (upd H5 p (.ins C dx [("signs", .ref ls), ("many", .int n), ("rows", .ref lr), ("inside", .ref li)])) p (.ins C dx [("signs", .ref ls), ("many", .int n), ("rows", .ref lr), ("inside", .ref li), ("low", .int 1)])) lt = none := hlt
    have s7 := Same.new (o := .lst []) hlt6
    refine ⟨_, rfl, p, C, dx, _, rfl, s7 _ _ upd_same, T.c_Grid, T.n_top, by show 5 < 1000; decide, ?_⟩
    have ntp : lt ≠ p := (ne_of_none (upd_same (H := upd H5 p (.ins C dx [("signs", .ref ls), ("many", .int n), ("rows", .ref lr), ("inside", .ref li)]))) hlt6).symm
    have at8 : ∀ {x : Addr} {o : HO}, x ≠ p → H5 x = some o → (upd (upd (upd (upd H5 p (.ins C dx [("signs", .ref ls), ("many", .int n), ("rows", .ref lr), ("inside", .ref li)])) p (.ins C dx [("signs", .ref ls), ("many", .int n), ("rows", .ref lr), ("inside", .ref li), ("low", .int 1)])) lt (.lst [])) p (.ins C dx (gf ls n lr li 1 lt))) x = some o := fun hx e => by rw [upd_ne hx]; exact s7 _ _ (up hx e)
    have rest : (upd (upd (upd (upd H5 p (.ins C dx [("signs", .ref ls), ("many", .int n), ("rows", .ref lr), ("inside", .ref li)])) p (.ins C dx [("signs", .ref ls), ("many", .int n), ("rows", .ref lr), ("inside", .ref li), ("low", .int 1)])) lt (.lst [])) p (.ins C dx (gf ls n lr li 1 lt))) lt = some (.lst []) := by rw [upd_ne ntp, upd_same]
    refine k ls lr li lt acc (upd (upd (upd (upd H5 p (.ins C dx [("signs", .ref ls), ("many", .int n), ("rows", .ref lr), ("inside", .ref li)])) p (.ins C dx [("signs", .ref ls), ("many", .int n), ("rows", .ref lr), ("inside", .ref li), ("low", .int 1)])) lt (.lst [])) p (.ins C dx (gf ls n lr li 1 lt))) ((bAll.write.write.then s7).write) h0lr h0li
      ⟨upd_same, at8 nsp (s5 _ _ g4), at8 nlp (s5 _ _ hacc), hal, fun i hi => ?_, at8 nip e5, rest, nls, nis, (ne_of_none (up nlp (s5 _ _ hacc)) hlt6).symm, (ne_of_none (up nip e5) hlt6).symm, nir.symm⟩
    obtain ⟨q, eq, nq, hq⟩ := har i hi
    exact ⟨q, eq, nq, ne_of_none hq hli, at8 (ins_lst i4 hq) (s5 _ _ hq)⟩
end
end G3
-- WSettle
set_option Elab.async false
set_option linter.all false
set_option maxRecDepth 100000
set_option maxHeartbeats 4000000
namespace G3
open PySem PySem.Spec PyProof.Rows L2
theorem filter_cases (n : Nat) (f : Nat → Bool) : (((List.range n).filter f) = [] ∧ ∀ j, j < n → f j = false) ∨ ∃ s rest, (List.range n).filter f = s :: rest ∧ s < n ∧ f s = true ∧ ∀ j, j < s → f j = false := by
  cases h : (List.range n).filter f with
  | nil =>
    refine .inl ⟨rfl, fun j hj => ?_⟩
    cases e : f j with
    | false => rfl
    | true => exact absurd (List.mem_filter.mpr ⟨List.mem_range.mpr hj, e⟩) (by rw [h]; simp)
  | cons s rest =>
    have h1 : ((List.range n).filter f).head? = some s := by rw [h]; rfl
    rw [List.head?_filter] at h1
    obtain ⟨a, b, c⟩ := List.find?_range_eq_some.mp h1
    refine .inr ⟨s, rest, rfl, List.mem_range.mp b, a, fun j hj => ?_⟩
    have := c j hj
    simpa using this
theorem walk_rg {n : Nat} : Walk (Itr 0 ((n : Int)).toNat) n (fun _ => True) (YFn fun i => .int (i : Nat)) := by
  have h := walk_range (lo := 0) (n := n)
  have e : (fun i : Nat => V.int ((0 : Int) + (i : Nat))) = fun i : Nat => V.int (i : Nat) := funext fun i => by rw [Int.zero_add]
  rw [e] at h
  rw [Int.toNat_natCast]; exact h
theorem atI_0 {α : Type} {x : α} {xs : List α} : atI (x :: xs) (0 : Int) = some x := atI_nat (j := 0) rfl
theorem filt_ints (l : List Nat) : l.map (fun (i : Nat) => V.int (i : Int)) = (l.map fun (i : Nat) => (i : Int)).map V.int := by rw [List.map_map]; rfl
section
variable {P : Program} {w : World} {K : PySem.W.Frag} {mg : Str → Option Value} {base : Heap} {C CN : Addr}
def spSettle (C : Addr) : Sp := fun vs H Q _ => ∃ (p dx ls lr li lt : Addr) (rs : List V) (n m : Nat) (sgn : Nat → Int) (a : Nat → Nat → Int) (c : Nat → Int) (B : Nat → Nat),
  vs = [.ref p, .int (n : Nat)] ∧ GR C H p dx ls lr li lt rs n m sgn (K6.T m a B) B (K6.low m a B) (iv (n + m + 1) (K6.zz m a c B)) ∧ Gc m n a ∧ Cc m n a c ∧ K6.Good m (n + m) a B ∧ K6.Feas m a (n + m) B ∧
  ∀ k B' lt' rs' v H', But3 p lr li H H' → K6.Chain m n (n + m) a c (n + m) B k B' → GR C H' p dx ls lr li lt' rs' n m sgn (K6.T m a B') B' (K6.low m a B') (iv (n + m + 1) (K6.zz m a c B')) →
    ((v = .non ∧ K6.Fin m n a c B') ∨ ∃ s : Nat, v = .int (s : Int) ∧ K6.Unb m n a c B' s) → Q v H'
def SetW (C : Addr) (H : Hp) (p dx ls lr li : Addr) (n m : Nat) (sgn : Nat → Int) (a : Nat → Nat → Int) (c : Nat → Int) (B : Nat → Nat) (μ : Nat) (σ : L2.St) (H' : Hp) : Prop :=
  (∃ u1 u2 : Option V, σ = [some (.ref p), some (.int (n : Nat)), u1, u2, none]) ∧ ∃ k B' lt rs, μ + k = (n + m) ^ m ∧ But3 p lr li H H' ∧ K6.Chain m n (n + m) a c (n + m) B k B' ∧
    GR C H' p dx ls lr li lt rs n m sgn (K6.T m a B') B' (K6.low m a B') (iv (n + m + 1) (K6.zz m a c B'))
theorem sc_G_settle : FnScope ["self", "allowed", "some", "index", "at"] ["self", "allowed"] (defScope sG_settle) := ⟨rfl, rfl, rfl, by decide +kernel, rfl, by decide +kernel, by decide +kernel⟩
theorem ok_G_settle (T : Txt K mg C CN) : HasM P w K mg base CX0 C "settle" 3 ["self", "allowed"] (spSettle C) := by
  obtain ⟨f, fd, mf, F, bf⟩ := T.m_settle
  obtain ⟨f_Grid_goes_out, fd_Grid_goes_out, M_goes_out, b_Grid_goes_out, G_Grid_goes_out⟩ := ok_G_goes_out (P := P) (w := w) (base := base) T
  obtain ⟨f_Grid_turn, fd_Grid_turn, M_turn, b_Grid_turn, G_Grid_turn⟩ := ok_G_turn (P := P) (w := w) (base := base) T
  refine ⟨f, fd, mf, bf, F.ok sc_G_settle (fun vs H Q E h => ?_) (fun cdv A outer s H vs Q E hr h => ?_)⟩
  · obtain ⟨p, dx, ls, lr, li, lt, rs, n, m, sgn, a, c, B, rfl, _⟩ := h
    rfl
  · obtain ⟨p, dx, ls, lr, li, lt, rs, n, m, sgn, a, c, B0, rfl, g0, gc, cc, G0, F0, kk⟩ := h
    have hr_Grid_goes_out := hr.mono (j := 2) (by decide)
    have hr_Grid_turn := hr.mono (j := 2) (by decide)
    have hm20 := gc.m20
    have hn100 := gc.n100
    refine ⟨_, PSs.nox (pss_one (ps_while PassesOwn.never (pt_val pe_bl)
      (pss_cons (ps_setLc (i := 2) (own := [("at", 4)]) (g := gName 4) rfl sc_G_settle.nd rfl rfl (sw_true rfl rfl rfl (by decide +kernel)) (pi_range1 rfl T.b_range (pa_cons (pv 1) pa_nil)) (blkOk_by (own := [("at", 4)]) (N := ["self", "allowed", "some", "index", "at"]) (sc := defScope sG_settle) (by decide +kernel)) (fun _ _ _ _ _ => by exact (pg_name (i := 4) sc_G_settle.nd rfl (Or.inl rfl))) (fun _ _ _ _ _ => by exact (pts_one (pt_cmpR op_lt (pe_ix (ixL (K := K)) (fldK (K := K) (pv 0) rfl) (pv 4) (fun _ _ => rfl)) pe_int (nomark _)))) (fun _ _ _ _ _ => by exact (pv 4)))
      (pss_cons (ps_if (pt_cmpR (op_eqD hr.units) (pv 2) (pe_lst pa_nil) (nomark _))
        (pss_one (ps_ret pe_non))
        pss_nil)
      (pss_cons (ps_set (i := 3) sc_G_settle.nd rfl (Or.inl rfl) (pe_meth (pv 0) T.c_Grid M_goes_out G_Grid_goes_out hr_Grid_goes_out b_Grid_goes_out .nil pass0 (pa_cons (pe_ix (ixL (K := K)) (pv 2) pe_int (fun _ _ => rfl)) pa_nil)))
      (pss_cons (ps_if (pt_cmpR op_isN (pv 3) pe_non (nomark _))
        (pss_one (ps_ret (pe_ix (ixL (K := K)) (pv 2) pe_int (fun _ _ => rfl))))
        pss_nil)
      (pss_one (ps_expr (pe_meth (pv 0) T.c_Grid M_turn G_Grid_turn hr_Grid_turn b_Grid_turn .nil pass0 (pa_cons (pv 3) (pa_cons (pe_ix (ixL (K := K)) (pv 2) pe_int (fun _ _ => rfl)) pa_nil))))))))))), ?_⟩
    refine ⟨SetW C H p dx ls lr li n m sgn a c B0, ⟨(n + m) ^ m, ⟨_, _, rfl⟩, 0, B0, lt, rs, rfl, But3.refl _ _ _ _, .nil, g0⟩, ?_⟩
    rintro μ σ H1 ⟨⟨u1, u2, rfl⟩, k, B, lt, rs, hμ, b1, ch, g1⟩
    have hk := ch.short G0 F0
    obtain ⟨G, F⟩ := ch.both G0 F0
    refine ⟨true, rfl, iteT ⟨fun σ' H' => ∃ μ', μ' < μ ∧ SetW C H p dx ls lr li n m sgn a c B0 μ' σ' H', fun σ' H' h => h, ?_⟩⟩
    refine ⟨_, rfl, _, rfl, by clear hk hμ; omega, by clear hk hμ; omega, fun D hD => lc_filter (walk_rg (n := n)) (fun i => decide (K6.zz m a c B i < 0)) (fun (i : Nat) => V.int (i : Int)) (by omega) hD (fun _ _ => trivial) ?_ ?_⟩
    · rintro j y H2 H3 Qy Qn hj s2 ⟨rfl, rfl⟩ ky kn
      have g2 := g1.same s2
      refine ⟨rfl, _, rfl, p, C, dx, _, _, rfl, g2.ins, T.c_Grid, T.n_top, gf_top, _, rfl, lt, _, _, _, rfl, rfl, SqL.of g2.top, atI_nat (iv_get (show j < n + m + 1 by omega)), _, _, rfl, rfl, _, rfl, ?_⟩
      cases hc : decide (K6.zz m a c B j < 0)
      · exact iteF (kn hc _ (Same.refl _))
      · exact iteT ⟨_, rfl, ky hc _ (Same.refl _)⟩
    intro H2 s2 e2
    rw [filt_ints] at e2
    have g2 := g1.same s2
    refine ⟨_, rfl, Nat.zero_le _, fun D2 hD2 => ?_⟩
    have s3 := Same.new (o := .lst []) hD2
    have s23 := s2.trans s3
    have g3 := g1.same s23
    have e3 : SqL K _ D _ := SqL.of (s3 _ _ e2)
    refine eqL e3 (ms := []) (SqL.of upd_same) ?_
    refine ⟨_, rfl, ?_⟩
    rcases filter_cases n (fun i => decide (K6.zz m a c B i < 0)) with ⟨ef, hall⟩ | ⟨sc, rest, ef, hs, hz, hfst⟩
    · rw [ef]
      refine iteT ?_
      refine kk k B lt rs _ _ (b1.then s23) ch g3 (.inl ⟨rfl, fun j hj => ?_⟩)
      have := of_decide_eq_false (hall j hj)
      omega
    rw [ef] at e3 ⊢
    have hz' : K6.zz m a c B sc < 0 := of_decide_eq_true hz
    have hf' : ∀ j, j < sc → 0 ≤ K6.zz m a c B j := fun j hj => by
      have := of_decide_eq_false (hfst j hj)
      omega
    refine iteF ?_
    refine ⟨_, rfl, p, dx, _, rfl, g3.ins, rfl, _, rfl, D, _, _, _, rfl, rfl, e3, atI_0, ?_⟩
    refine ⟨p, dx, ls, lr, li, lt, rs, n, m, sgn, a, B, _, _, sc, rfl, g3, gc, hs, fun H4 s4 => ?_⟩
    have g4 := g3.same s4
    have e4 := s4.seq e3
    cases ho : K6.outF m a (n + m) B sc m with
    | none =>
      refine ⟨_, rfl, rfl, _, rfl, iteT ⟨_, rfl, D, _, _, _, rfl, rfl, e4, atI_0, ?_⟩⟩
      exact kk k B lt rs _ _ (b1.then (s23.trans s4)) ch g4 (.inr ⟨sc, rfl, K6.unb_of hs hz' ho⟩)
    | some r =>
      have S := K6.step_of (N := n + m) (c := c) hs (by omega) hz' hf' ho
      refine ⟨_, rfl, rfl, _, rfl, iteF ?_⟩
      refine ⟨_, rfl, p, dx, _, rfl, g4.ins, rfl, _, rfl, _, rfl, D, _, _, _, rfl, rfl, e4, atI_0, ?_⟩
      refine ⟨p, dx, ls, lr, li, lt, rs, n, m, sgn, a, c, B, r, sc, rfl, g4, gc, cc, G, S.rm, hs, S.ne, fun lt' rs' H5 b5 g5 => ?_⟩
      refine ⟨μ - 1, by omega, ⟨_, _, rfl⟩, k + 1, _, lt', rs', by omega, (b1.then (s23.trans s4)).trans b5, ch.snoc S, g5⟩
def spDrive (C : Addr) : Sp := fun vs H Q _ => ∃ (p dx ls lr li lt : Addr) (rs : List V) (n m : Nat) (sgn : Nat → Int) (a : Nat → Nat → Int) (c : Nat → Int) (B : Nat → Nat),
  vs = [.ref p] ∧ GR C H p dx ls lr li lt rs n m sgn (K6.T m a B) B (K6.low m a B) (iv (n + m + 1) (K6.zz m a c B)) ∧ Gc m n a ∧ Cc m n a c ∧ K6.Driven m n a 0 B ∧
  ∀ B' lt' rs' H', But3 p lr li H H' → K6.Driven m n a m B' → GR C H' p dx ls lr li lt' rs' n m sgn (K6.T m a B') B' (K6.low m a B') (iv (n + m + 1) (K6.zz m a c B')) → Q .non H'
theorem sc_G_drive_out : FnScope ["self", "index", "some", "at"] ["self"] (defScope sG_drive_out) := ⟨rfl, rfl, rfl, by decide +kernel, rfl, by decide +kernel, by decide +kernel⟩
theorem ok_G_drive_out (T : Txt K mg C CN) : HasM P w K mg base CX0 C "drive_out" 3 ["self"] (spDrive C) := by
  obtain ⟨f, fd, mf, F, bf⟩ := T.m_drive_out
  obtain ⟨f_Grid_turn, fd_Grid_turn, M_turn, b_Grid_turn, G_Grid_turn⟩ := ok_G_turn (P := P) (w := w) (base := base) T
  refine ⟨f, fd, mf, bf, F.ok sc_G_drive_out (fun vs H Q E h => ?_) (fun cdv A outer s H vs Q E hr h => ?_)⟩
  · obtain ⟨p, dx, ls, lr, li, lt, rs, n, m, sgn, a, c, B, rfl, _⟩ := h
    rfl
  · obtain ⟨p, dx, ls, lr, li, lt, rs, n, m, sgn, a, c, B0, rfl, g0, gc, cc, D0, kk⟩ := h
    have hr_Grid_turn := hr.mono (j := 2) (by decide)
    have hm20 := gc.m20
    have hn100 := gc.n100
    refine ⟨_, PSs.nox (pss_one (ps_for PassesOwn.never rfl (pi_range1 rfl T.b_range (pa_cons (pe_callB (lenS (K := K)) (by rfl) T.b_len PySem.boot_len (pa_cons (fldK (K := K) (pv 0) rfl) pa_nil)) pa_nil)) (pg_name (i := 1) sc_G_drive_out.nd rfl (Or.inr rfl))
      (pss_one (ps_if (pt_cmpR op_ge (pe_ix (ixL (K := K)) (fldK (K := K) (pv 0) rfl) (pv 1) (fun _ _ => rfl)) (fldK (K := K) (pv 0) rfl) (nomark _))
        (pss_cons (ps_setLc (i := 2) (own := [("at", 3)]) (g := gName 3) rfl sc_G_drive_out.nd rfl rfl (sw_true rfl rfl rfl (by decide +kernel)) (pi_range1 rfl T.b_range (pa_cons (fldK (K := K) (pv 0) rfl) pa_nil)) (blkOk_by (own := [("at", 3)]) (N := ["self", "index", "some", "at"]) (sc := defScope sG_drive_out) (by decide +kernel)) (fun _ _ _ _ _ => by exact (pg_name (i := 3) sc_G_drive_out.nd rfl (Or.inl rfl))) (fun _ _ _ _ _ => by exact (pts_one (pt_cmpR op_ne (pe_ix (ixL (K := K)) (pe_ix (ixL (K := K)) (fldK (K := K) (pv 0) rfl) (pv 1) (fun _ _ => rfl)) (pv 3) (fun _ _ => rfl)) pe_int (nomark _)))) (fun _ _ _ _ _ => by exact (pv 3)))
        (pss_one (ps_if (pt_cmpR (op_neD hr.units) (pv 2) (pe_lst pa_nil) (nomark _))
          (pss_one (ps_expr (pe_meth (pv 0) T.c_Grid M_turn G_Grid_turn hr_Grid_turn b_Grid_turn .nil pass0 (pa_cons (pv 1) (pa_cons (pe_ix (ixL (K := K)) (pv 2) pe_int (fun _ _ => rfl)) pa_nil)))))
          pss_nil)))
        pss_nil)))), ?_⟩
    have hrl := g0.rl
    refine ⟨_, rfl, p, C, dx, _, _, rfl, g0.ins, T.c_Grid, T.n_rows, gf_rows, lr, _, rfl, .inl (SqL.of g0.rws), _, rfl, by omega, by omega, for_it (walk_rg (n := rs.length))
      (fun i σ H' => (∃ u1 u2 : Option V, σ = [some (.ref p), u1, u2, none]) ∧ But3 p lr li H H' ∧ ∃ B lt rs, K6.Driven m n a i B ∧ GR C H' p dx ls lr li lt rs n m sgn (K6.T m a B) B (K6.low m a B) (iv (n + m + 1) (K6.zz m a c B)))
      ⟨⟨_, _, rfl⟩, But3.refl _ _ _ _, B0, lt, rs, D0, g0⟩ (fun _ _ _ _ _ => trivial) ?_ ?_⟩
    · rintro i y σ H1 H1' hi ⟨⟨u1, u2, rfl⟩, b1, B, lt, rs, Dr, g1⟩ ⟨rfl, rfl⟩
      have him : i < m := by omega
      obtain ⟨b, eb, _, _, hb⟩ := g1.row i him
      refine ⟨_, rfl, p, C, dx, _, _, rfl, g1.ins, T.c_Grid, T.n_inside, gf_inside, _, rfl, li, _, _, _, rfl, rfl, SqL.of g1.inside, atI_nat (iv_get him), _, rfl, p, C, dx, _, _, rfl, g1.ins, T.c_Grid, T.n_many, gf_many, _, _, rfl, rfl, _, rfl, ?_⟩
      by_cases cB : n ≤ B i
      · have e : decide (((B i : Nat) : Int) ≥ (n : Int)) = true := by simp; omega
        rw [e]
        refine iteT ?_
        refine ⟨_, rfl, p, C, dx, _, _, rfl, g1.ins, T.c_Grid, T.n_many, gf_many, _, rfl, by omega, by omega, fun D hD => lc_filter (walk_rg (n := n)) (fun j => !decide (K6.T m a B i j = 0)) (fun (i : Nat) => V.int (i : Int)) (by omega) hD (fun _ _ => trivial) ?_ ?_⟩
        · rintro j y H2 H3 Qy Qn hj s2 ⟨rfl, rfl⟩ ky kn
          have g2 := g1.same s2
          refine ⟨rfl, _, rfl, p, C, dx, _, _, rfl, g2.ins, T.c_Grid, T.n_rows, gf_rows, _, rfl, lr, _, _, _, rfl, rfl, SqL.of g2.rws, atI_nat eb, _, rfl, b, _, _, _, rfl, rfl, SqL.of (s2 _ _ hb), atI_nat (iv_get (show j < n + m + 1 by omega)), rfl, _, rfl, ?_⟩
          have e9 : decide (V.int (K6.T m a B i j) = V.int 0) = decide (K6.T m a B i j = 0) := decide_eq_decide.mpr ⟨fun h => V.int.inj h, fun h => by rw [h]⟩
          rw [e9]
          cases hc : !decide (K6.T m a B i j = 0)
          · exact iteF (kn hc _ (Same.refl _))
          · exact iteT ⟨_, rfl, ky hc _ (Same.refl _)⟩
        intro H2 s2 e2
        rw [filt_ints] at e2
        refine ⟨_, rfl, Nat.zero_le _, fun D2 hD2 => ?_⟩
        have s3 := Same.new (o := .lst []) hD2
        have s23 := s2.trans s3
        have g3 := g1.same s23
        have e3 : SqL K _ D _ := SqL.of (s3 _ _ e2)
        refine neL e3 (ms := []) (SqL.of upd_same) ?_
        refine ⟨_, rfl, ?_⟩
        rcases filter_cases n (fun j => !decide (K6.T m a B i j = 0)) with ⟨ef, hall⟩ | ⟨sc, rest, ef, hs, hz, hfst⟩
        · rw [ef]
          refine iteF ⟨⟨_, _, rfl⟩, b1.then s23, B, lt, rs, Dr.more (.inr fun j hj => ?_), g3⟩
          have := hall j hj
          simpa using this
        · rw [ef] at e3 ⊢
          have hz' : K6.T m a B i sc ≠ 0 := by simpa using hz
          refine iteT ?_
          refine ⟨_, rfl, p, dx, _, rfl, g3.ins, rfl, _, rfl, _, rfl, D, _, _, _, rfl, rfl, e3, atI_0, ?_⟩
          refine ⟨p, dx, ls, lr, li, lt, rs, n, m, sgn, a, c, B, i, sc, rfl, g3, gc, cc, Dr.G, him, hs, hz', fun lt' rs' H5 b5 g5 => ?_⟩
          exact ⟨⟨_, _, rfl⟩, (b1.then s23).trans b5, _, lt', rs', Dr.turn him cB hs hz', g5⟩
      · have e : decide (((B i : Nat) : Int) ≥ (n : Int)) = false := by simp; omega
        rw [e]
        exact iteF ⟨⟨_, _, rfl⟩, b1, B, lt, rs, Dr.more (.inl (by omega)), g1⟩
    · rintro σ H1 ⟨⟨u1, u2, rfl⟩, b1, B, lt, rs, Dr, g1⟩
      rw [hrl] at Dr
      exact kk B lt rs _ b1 Dr g1
end
end G3
-- WFound
set_option Elab.async false
set_option linter.all false
set_option maxRecDepth 100000
set_option maxHeartbeats 4000000
namespace G3
open PySem PySem.Spec PyProof.Rows L2
/-- a ratio over L, its top below 2 ^ b -/
def FrZ (L : Int) (b : Nat) (q : Rat) : Prop := ∃ z : Int, q = Rat.divInt z L ∧ z.natAbs < 2 ^ b
theorem divInt_zero' (L : Int) : Rat.divInt 0 L = 0 := by rw [Rat.divInt_eq_div]; show (0 : Rat) / _ = 0; rw [Rat.div_def, Rat.zero_mul]
section
variable {K : PySem.W.Frag} {H : Hp} {vs : List V} {n : Nat} {x y : Nat → Rat}
theorem RsL.congr (h : RsL K H vs n x) (e : ∀ i, i < n → x i = y i) : RsL K H vs n y := ⟨h.1, fun i hi => by rw [← e i hi]; exact h.2 i hi⟩
theorem RsL.set (h : RsL K H vs n x) {D : Addr} (hD : H D = some (.lst vs)) {j : Nat} (hj : j < n) {v : V} {q : Rat} (hv : Rt K H v q) : RsL K (upd H D (.lst (vs.set j v))) (vs.set j v) n (fun i => if i = j then q else x i) := by
  have tp : Tp H (upd H D (.lst (vs.set j v))) := Tp.updL hD
  refine ⟨by rw [List.length_set]; exact h.1, fun i hi => ?_⟩
  by_cases e : i = j
  · subst e
    exact ⟨v, by rw [List.getElem?_set, if_pos rfl, if_pos (by rw [h.1]; exact hj)], by show Rt K _ v (if i = i then q else x i); rw [if_pos rfl]; exact hv.tp tp⟩
  · obtain ⟨u, eu, hu⟩ := h.2 i hi
    exact ⟨u, by rw [List.getElem?_set, if_neg (fun q => e q.symm)]; exact eu, by show Rt K _ u (if i = j then q else x i); rw [if_neg e]; exact hu.tp tp⟩
theorem RsL.app (h : RsL K H vs n x) {D : Addr} (hD : H D = some (.lst vs)) {v : V} (hv : Rt K H v (x n)) : RsL K (upd H D (.lst (vs ++ [v]))) (vs ++ [v]) (n + 1) x := by
  have tp : Tp H (upd H D (.lst (vs ++ [v]))) := Tp.updL hD
  refine ⟨by rw [List.length_append, h.1]; rfl, fun i hi => ?_⟩
  by_cases e : i < n
  · obtain ⟨u, eu, hu⟩ := h.2 i e
    exact ⟨u, by rw [List.getElem?_append_left (by rw [h.1]; exact e)]; exact eu, hu.tp tp⟩
  · have : i = n := by omega
    subst this
    exact ⟨v, by rw [List.getElem?_append_right (by rw [h.1]; omega), h.1]; simp, hv.tp tp⟩
theorem RsL.rep {a : Addr} {q : Rat} (h : Rt K H (.ref a) q) : RsL K H (List.replicate n (.ref a)) n (fun _ => q) :=
  ⟨List.length_replicate, fun i hi => ⟨.ref a, by rw [List.getElem?_replicate, if_pos hi], h⟩⟩
theorem rep_flat (n : Nat) (v : V) : (List.replicate ((n : Int)).toNat [v]).flatten = List.replicate n v := by rw [Int.toNat_natCast, List.flatten_replicate_singleton]
end
section
variable {P : Program} {w : World} {K : PySem.W.Frag} {mg : Str → Option Value} {base : Heap} {C CN : Addr}
theorem xB_frz {m n : Nat} {a : Nat → Nat → Int} {B : Nat → Nat} (G : K6.Good m (n + m) a B) (gc : Gc m n a) (j : Nat) : FrZ (K6.low m a B) 1500 (K6.xB m a (n + m) B j) := by
  by_cases c : K6.InB m B j
  · obtain ⟨i, hi, rfl⟩ := c
    exact ⟨K6.T m a B i (n + m), by rw [K6.xB_at G hi, Rat.divInt_eq_div], gc.ab _ _ _⟩
  · exact ⟨0, by rw [K6.xB_no c, divInt_zero'], by decide +kernel⟩
def spAmounts (K : PySem.W.Frag) (C : Addr) : Sp := fun vs H Q _ => ∃ (p dx ls lr li lt : Addr) (rs : List V) (n m : Nat) (sgn : Nat → Int) (a : Nat → Nat → Int) (B : Nat → Nat) (tp : List V),
  vs = [.ref p] ∧ GR C H p dx ls lr li lt rs n m sgn (K6.T m a B) B (K6.low m a B) tp ∧ Gc m n a ∧ K6.Good m (n + m) a B ∧
  ∀ D xs H', Same H H' → H' D = some (.lst xs) → RsL K H' xs n (K6.xB m a (n + m) B) → Q (.ref D) H'
theorem sc_G_amounts : FnScope ["self", "found", "index", "column"] ["self"] (defScope sG_amounts) := ⟨rfl, rfl, rfl, by decide +kernel, rfl, by decide +kernel, by decide +kernel⟩
theorem ok_G_amounts (T : Txt K mg C CN) : HasM P w K mg base CX0 C "amounts" 3 ["self"] (spAmounts K C) := by
  obtain ⟨f, fd, mf, F, bf⟩ := T.m_amounts
  obtain ⟨f_ratio, fd_ratio, m_ratio, k_ratio, b_ratio, G_ratio⟩ := ok_ratio (P := P) (w := w) (base := base) T
  refine ⟨f, fd, mf, bf, F.ok sc_G_amounts (fun vs H Q E h => ?_) (fun cdv A outer s H vs Q E hr h => ?_)⟩
  · obtain ⟨p, dx, ls, lr, li, lt, rs, n, m, sgn, a, B, tp, rfl, _⟩ := h
    rfl
  · obtain ⟨p, dx, ls, lr, li, lt, rs, n, m, sgn, a, B, tp, rfl, g0, gc, G, kk⟩ := h
    have hr_ratio := hr.mono (j := 2) (by decide)
    have hm20 := gc.m20
    have hn100 := gc.n100
    have lp := K6.low_pos G
    have lb := gc.lb B
    refine ⟨_, PSs.nox (pss_cons (ps_set (i := 1) sc_G_amounts.nd rfl (Or.inl rfl) (pe_op op_rep (pe_lst (pa_cons (pe_tup (pa_cons pe_int (pa_cons pe_int pa_nil))) pa_nil)) (fldK (K := K) (pv 0) rfl)))
    (pss_cons (ps_for PassesOwn.never rfl (pi_enumG rfl T.b_enumerate (pa_cons (fldK (K := K) (pv 0) rfl) pa_nil)) (pg_tup (by rfl) (pgs_cons (pg_name (i := 2) sc_G_amounts.nd rfl (Or.inl rfl)) (pgs_cons (pg_name (i := 3) sc_G_amounts.nd rfl (Or.inl rfl)) pgs_nil)))
      (pss_one (ps_if (pt_cmpR op_lt (pv 3) (fldK (K := K) (pv 0) rfl) (nomark _))
        (pss_one (ps_asg (pe_call G_ratio hr_ratio (by rfl) m_ratio k_ratio b_ratio .nil pass0 (pa_cons (pe_ix (ixL (K := K)) (pe_ix (ixL (K := K)) (fldK (K := K) (pv 0) rfl) (pv 2) (fun _ _ => rfl)) (pe_un un_neg pe_int) (fun _ _ => rfl)) (pa_cons (fldK (K := K) (pv 0) rfl) pa_nil))) (pg_sub (pv 1) (pv 3) set_list)))
        pss_nil)))
    (pss_one (ps_ret (pv 1))))), ?_⟩
    refine ⟨small (by show 2 ≤ 1000; decide), fun q0 hq0 => ⟨small (by show 1 ≤ 1000; decide), fun D0 hD0 => ?_⟩⟩
    have s1 := Same.new (o := .tup [V.int 0, V.int 1]) hq0
    have s2 := s1.trans (Same.new (o := .lst [V.ref q0]) hD0)
    refine ⟨_, rfl, p, C, dx, _, _, rfl, s2 _ _ g0.ins, T.c_Grid, T.n_many, gf_many, D0, _, _, rfl, rfl, upd_same, by omega, by omega, small (by show 1 * _ ≤ _; omega), fun D hD => ?_⟩
    rw [rep_flat]
    have s3 := s2.trans (Same.new (o := .lst (List.replicate n (V.ref q0))) hD)
    have hq0 : Rt K (upd (upd (upd H q0 (.tup [V.int 0, V.int 1])) D0 (.lst [V.ref q0])) D (.lst (List.replicate n (V.ref q0)))) (.ref q0) 0 := ⟨q0, rfl, (((Same.new (o := .lst [V.ref q0]) hD0)).trans (Same.new hD)).tup (SqT.of upd_same)⟩
    have hDD : H D = none := s2.free hD
    refine ⟨_, rfl, p, C, dx, _, _, rfl, s3 _ _ g0.ins, T.c_Grid, T.n_inside, gf_inside, .L li, _, rfl, SqL.of (s3 _ _ g0.inside), for_it (walk_enumG (p := .L li) (n := m) (iv_len _ _))
      (fun i σ H' => (∃ u1 u2 : Option V, σ = [some (.ref p), some (.ref D), u1, u2]) ∧ Same H H' ∧ ∃ xs, H' D = some (.lst xs) ∧ RsL K H' xs n (fun j => K6.sR i (fun i => if B i = j then (K6.T m a B i (n + m) : Rat) / (K6.low m a B : Rat) else 0)))
      ⟨⟨_, _, rfl⟩, s3, _, upd_same, RsL.rep hq0⟩ (fun i σ H' _ q => SqL.of (q.2.1 _ _ g0.inside)) ?_ ?_⟩
    · rintro i y σ H1 H2 hi ⟨⟨u1, u2, rfl⟩, b1, xs, hxs, hR⟩ ⟨Tq, x1, x2, rfl, hT, rfl, e1, e2⟩
      cases e1
      obtain ⟨_, rfl⟩ := iv_of e2
      have s4 := Same.new (o := .tup [V.int (i : Nat), V.int (B i : Nat)]) hT
      have g4 := g0.same (b1.trans s4)
      obtain ⟨b, eb, _, _, hb⟩ := g4.row i hi
      refine tup2 (SqT.of upd_same) ⟨_, rfl, _, rfl, p, C, dx, _, _, rfl, g4.ins, T.c_Grid, T.n_many, gf_many, _, _, rfl, rfl, _, rfl, ?_⟩
      by_cases cB : B i < n
      · have e : decide (((B i : Nat) : Int) < (n : Int)) = true := by simp; omega
        rw [e]
        refine iteT ⟨_, rfl, p, C, dx, _, _, rfl, g4.ins, T.c_Grid, T.n_rows, gf_rows, _, rfl, lr, _, _, _, rfl, rfl, SqL.of g4.rws, atI_nat eb, _, rfl, b, _, _, _, rfl, rfl, SqL.of hb, iv_last _ _, _, rfl, p, C, dx, _, _, rfl, g4.ins, T.c_Grid, T.n_low, gf_low, _, _, rfl, lp, Nat.lt_trans lb (by decide +kernel), fun v H5 s5 hv => ?_⟩
        have hxs5 := (s4.trans s5) _ _ hxs
        refine ⟨_, rfl, _, rfl, D, _, _, B i, rfl, rfl, hxs5, ixN_nat (by rw [hR.1]; exact cB), ⟨_, _, rfl⟩, (b1.trans (s4.trans s5)).mut hDD, _, upd_same, ?_⟩
        refine ((hR.tp (s4.trans s5).tp).set hxs5 cB hv).congr fun j hj => ?_
        show _ = K6.sR i _ + (if B i = j then _ else 0)
        by_cases ej : j = B i
        · rw [if_pos ej, if_pos ej.symm, Rat.divInt_eq_div, K6.sR_zero, Rat.zero_add]
          intro i' hi'
          refine if_neg fun q => ?_
          have := K6.inj G (i := i') (i' := i) (by omega) hi (q.trans ej)
          omega
        · rw [if_neg ej, if_neg (fun q => ej q.symm), Rat.add_zero]
      · have e : decide (((B i : Nat) : Int) < (n : Int)) = false := by simp; omega
        rw [e]
        refine iteF ⟨⟨_, _, rfl⟩, b1.trans s4, xs, s4 _ _ hxs, (hR.tp s4.tp).congr fun j hj => ?_⟩
        show _ = K6.sR i _ + (if B i = j then _ else 0)
        rw [if_neg (by omega), Rat.add_zero]
    · rintro σ H1 ⟨⟨u1, u2, rfl⟩, b1, xs, hxs, hR⟩
      exact ⟨_, rfl, kk D xs H1 b1 hxs hR⟩
def spWeights (K : PySem.W.Frag) (C : Addr) : Sp := fun vs H Q _ => ∃ (p dx ls lr li lt : Addr) (rs : List V) (n m : Nat) (sgn : Nat → Int) (a : Nat → Nat → Int) (c : Nat → Int) (B : Nat → Nat) (own : Int),
  vs = [.ref p, .int own] ∧ GR C H p dx ls lr li lt rs n m sgn (K6.T m a B) B (K6.low m a B) (iv (n + m + 1) (K6.zz m a c B)) ∧ Gc m n a ∧ Cc m n a c ∧ K6.Good m (n + m) a B ∧ (∀ i, i < m → c (n + i) = own) ∧ own.natAbs ≤ 1 ∧ (∀ i, (sgn i).natAbs ≤ 1) ∧
  ∀ D xs H', Same H H' → H' D = some (.lst xs) → RsL K H' xs m (fun i => (sgn i : Rat) * K6.yB m n a c B i) → Q (.ref D) H'
theorem yB_frz {m n : Nat} {a : Nat → Nat → Int} {c : Nat → Int} {B : Nat → Nat} {own : Int} {s : Int} (gc : Gc m n a) (cc : Cc m n a c) {i : Nat} (h : c (n + i) = own) (ho : own.natAbs ≤ 1) (hs : s.natAbs ≤ 1) :
    (s : Rat) * K6.yB m n a c B i = Rat.divInt (s * (own * K6.low m a B - K6.zz m a c B (n + i))) (K6.low m a B) ∧ (s * (own * K6.low m a B - K6.zz m a c B (n + i))).natAbs < 2 ^ 1601 ∧ (own * K6.low m a B - K6.zz m a c B (n + i)).natAbs < 2 ^ 1601 := by
  have l := gc.lb B
  have z := cc.zb B (n + i)
  have e1 : (own * K6.low m a B).natAbs ≤ 1 * (K6.low m a B).natAbs := by rw [Int.natAbs_mul]; exact Nat.mul_le_mul_right _ ho
  have e2 : (own * K6.low m a B - K6.zz m a c B (n + i)).natAbs < 2 ^ 1601 := by omega
  refine ⟨?_, ?_, e2⟩
  · unfold K6.yB
    rw [h, Rat.divInt_eq_div, Rat.intCast_mul s, Rat.div_def, Rat.div_def, Rat.mul_assoc]
  · rw [Int.natAbs_mul]
    have := Nat.mul_le_mul_right (own * K6.low m a B - K6.zz m a c B (n + i)).natAbs hs
    omega
theorem sc_G_weights : FnScope ["self", "own", "found", "index", "sign", "left"] ["self", "own"] (defScope sG_weights) := ⟨rfl, rfl, rfl, by decide +kernel, rfl, by decide +kernel, by decide +kernel⟩
theorem ok_G_weights (T : Txt K mg C CN) : HasM P w K mg base CX0 C "weights" 3 ["self", "own"] (spWeights K C) := by
  obtain ⟨f, fd, mf, F, bf⟩ := T.m_weights
  obtain ⟨f_ratio, fd_ratio, m_ratio, k_ratio, b_ratio, G_ratio⟩ := ok_ratio (P := P) (w := w) (base := base) T
  refine ⟨f, fd, mf, bf, F.ok sc_G_weights (fun vs H Q E h => ?_) (fun cdv A outer s H vs Q E hr h => ?_)⟩
  · obtain ⟨p, dx, ls, lr, li, lt, rs, n, m, sgn, a, c, B, own, rfl, _⟩ := h
    rfl
  · obtain ⟨p, dx, ls, lr, li, lt, rs, n, m, sgn, a, c, B, own, rfl, g0, gc, cc, G, hown, ho1, hs1, kk⟩ := h
    have hr_ratio := hr.mono (j := 2) (by decide)
    have hm20 := gc.m20
    have hn100 := gc.n100
    have lp := K6.low_pos G
    have lb := gc.lb B
    refine ⟨_, PSs.nox (pss_cons (ps_set (i := 2) sc_G_weights.nd rfl (Or.inl rfl) (pe_lst pa_nil))
    (pss_cons (ps_for PassesOwn.never rfl (pi_enumG rfl T.b_enumerate (pa_cons (fldK (K := K) (pv 0) rfl) pa_nil)) (pg_tup (by rfl) (pgs_cons (pg_name (i := 3) sc_G_weights.nd rfl (Or.inl rfl)) (pgs_cons (pg_name (i := 4) sc_G_weights.nd rfl (Or.inl rfl)) pgs_nil)))
      (pss_cons (ps_set (i := 5) sc_G_weights.nd rfl (Or.inl rfl) (pe_ix (ixL (K := K)) (fldK (K := K) (pv 0) rfl) (pe_op op_add (fldK (K := K) (pv 0) rfl) (pv 3)) (fun _ _ => rfl)))
      (pss_one (ps_expr (pe_bm PySem.F.plainAttrs_list PySem.F.slot_list_append PySem.F.type_list_append mt_append (pv 2) (pa_cons (pe_call G_ratio hr_ratio (by rfl) m_ratio k_ratio b_ratio .nil pass0 (pa_cons (pe_op op_mulW (pv 4) (pe_op op_sub (pe_op op_mulW (pv 1) (fldK (K := K) (pv 0) rfl)) (pv 5))) (pa_cons (fldK (K := K) (pv 0) rfl) pa_nil))) pa_nil))))))
    (pss_one (ps_ret (pv 2))))), ?_⟩
    refine ⟨Nat.zero_le _, fun D hD => ?_⟩
    have s3 := Same.new (o := .lst []) hD
    refine ⟨_, rfl, p, C, dx, _, _, rfl, s3 _ _ g0.ins, T.c_Grid, T.n_signs, gf_signs, .L ls, _, rfl, SqL.of (s3 _ _ g0.sgs), for_it (walk_enumG (p := .L ls) (n := m) (iv_len _ _))
      (fun i σ H' => (∃ u1 u2 u3 : Option V, σ = [some (.ref p), some (.int own), some (.ref D), u1, u2, u3]) ∧ Same H H' ∧ ∃ xs, H' D = some (.lst xs) ∧ RsL K H' xs i (fun i => (sgn i : Rat) * K6.yB m n a c B i))
      ⟨⟨_, _, _, rfl⟩, s3, _, upd_same, rfl, fun i hi => absurd hi (Nat.not_lt_zero i)⟩ (fun i σ H' _ q => SqL.of (q.2.1 _ _ g0.sgs)) ?_ ?_⟩
    · rintro i y σ H1 H2 hi ⟨⟨u1, u2, u3, rfl⟩, b1, xs, hxs, hR⟩ ⟨Tq, x1, x2, rfl, hT, rfl, e1, e2⟩
      cases e1
      obtain ⟨_, rfl⟩ := iv_of e2
      have s4 := Same.new (o := .tup [V.int (i : Nat), V.int (sgn i)]) hT
      have g4 := g0.same (b1.trans s4)
      obtain ⟨y1, y2, y3⟩ := yB_frz (B := B) gc cc (hown i hi) ho1 (hs1 i)
      refine tup2 (SqT.of upd_same) ⟨_, rfl, p, C, dx, _, _, rfl, g4.ins, T.c_Grid, T.n_top, gf_top, _, rfl, p, C, dx, _, _, rfl, g4.ins, T.c_Grid, T.n_many, gf_many, _, rfl, _, _, rfl, rfl, lt, _, _, _, rfl, rfl, SqL.of g4.top, atI_nat (j := n + i) (iv_get (by omega)), ?_⟩
      have h1 : (1 : Nat) < 2 ^ 1 := by decide
      refine ⟨_, rfl, .inl ⟨rfl, _, SqL.of (s4 _ _ hxs)⟩, _, rfl, _, rfl, _, rfl, p, C, dx, _, _, rfl, g4.ins, T.c_Grid, T.n_low, gf_low, _, _, rfl, rfl, wide_mul (a := 1) (b := 1500) (Nat.lt_of_le_of_lt ho1 h1) lb (by decide) (by decide) (by decide), ?_⟩
      refine ⟨_, rfl, _, _, rfl, rfl, _, _, rfl, rfl, wide_mul (a := 1) (b := 1601) (Nat.lt_of_le_of_lt (hs1 i) h1) y3 (by decide) (by decide) (by decide), ?_⟩
      refine ⟨_, rfl, p, C, dx, _, _, rfl, g4.ins, T.c_Grid, T.n_low, gf_low, _, _, rfl, lp, Nat.lt_trans lb (by decide +kernel), fun v H5 s5 hv => ?_⟩
      have hxs5 := (s4.trans s5) _ _ hxs
      refine ⟨D, xs, _, rfl, rfl, hxs5, small1000 (by rw [hR.1]; omega), ⟨_, _, _, rfl⟩, (b1.trans (s4.trans s5)).mut hD, _, upd_same, (hR.tp (s4.trans s5).tp).app hxs5 ?_⟩
      show Rt K H5 v ((sgn i : Rat) * K6.yB m n a c B i)
      rw [y1]; exact hv
    · rintro σ H1 ⟨⟨u1, u2, u3, rfl⟩, b1, xs, hxs, hR⟩
      exact ⟨_, rfl, kk D xs H1 b1 hxs hR⟩
def spWay (K : PySem.W.Frag) (C : Addr) : Sp := fun vs H Q _ => ∃ (p dx ls lr li lt : Addr) (rs : List V) (n m : Nat) (sgn : Nat → Int) (a : Nat → Nat → Int) (B : Nat → Nat) (tp : List V) (s : Nat),
  vs = [.ref p, .int (s : Nat)] ∧ GR C H p dx ls lr li lt rs n m sgn (K6.T m a B) B (K6.low m a B) tp ∧ Gc m n a ∧ K6.Good m (n + m) a B ∧ s < n ∧
  ∀ D xs x H', Same H H' → H' D = some (.lst xs) → RsL K H' xs n x → (∀ j, j < n → FrZ (K6.low m a B) 1500 (x j)) → Q (.ref D) H'
theorem sc_G_way : FnScope ["self", "column", "found", "index", "at"] ["self", "column"] (defScope sG_way) := ⟨rfl, rfl, rfl, by decide +kernel, rfl, by decide +kernel, by decide +kernel⟩
theorem ok_G_way (T : Txt K mg C CN) : HasM P w K mg base CX0 C "way" 3 ["self", "column"] (spWay K C) := by
  obtain ⟨f, fd, mf, F, bf⟩ := T.m_way
  obtain ⟨f_ratio, fd_ratio, m_ratio, k_ratio, b_ratio, G_ratio⟩ := ok_ratio (P := P) (w := w) (base := base) T
  refine ⟨f, fd, mf, bf, F.ok sc_G_way (fun vs H Q E h => ?_) (fun cdv A outer s H vs Q E hr h => ?_)⟩
  · obtain ⟨p, dx, ls, lr, li, lt, rs, n, m, sgn, a, B, tp, s, rfl, _⟩ := h
    rfl
  · obtain ⟨p, dx, ls, lr, li, lt, rs, n, m, sgn, a, B, tp, sc, rfl, g0, gc, G, hs, kk⟩ := h
    have hr_ratio := hr.mono (j := 2) (by decide)
    have hm20 := gc.m20
    have hn100 := gc.n100
    have lp := K6.low_pos G
    have lb := gc.lb B
    refine ⟨_, PSs.nox (pss_cons (ps_set (i := 2) sc_G_way.nd rfl (Or.inl rfl) (pe_op op_rep (pe_lst (pa_cons (pe_tup (pa_cons pe_int (pa_cons pe_int pa_nil))) pa_nil)) (fldK (K := K) (pv 0) rfl)))
    (pss_cons (ps_asg (pe_tup (pa_cons pe_int (pa_cons pe_int pa_nil))) (pg_sub (pv 2) (pv 1) set_list))
    (pss_cons (ps_for PassesOwn.never rfl (pi_enumG rfl T.b_enumerate (pa_cons (fldK (K := K) (pv 0) rfl) pa_nil)) (pg_tup (by rfl) (pgs_cons (pg_name (i := 3) sc_G_way.nd rfl (Or.inl rfl)) (pgs_cons (pg_name (i := 4) sc_G_way.nd rfl (Or.inl rfl)) pgs_nil)))
      (pss_one (ps_if (pt_cmpR op_lt (pv 4) (fldK (K := K) (pv 0) rfl) (nomark _))
        (pss_one (ps_asg (pe_call G_ratio hr_ratio (by rfl) m_ratio k_ratio b_ratio .nil pass0 (pa_cons (pe_un un_neg (pe_ix (ixL (K := K)) (pe_ix (ixL (K := K)) (fldK (K := K) (pv 0) rfl) (pv 3) (fun _ _ => rfl)) (pv 1) (fun _ _ => rfl))) (pa_cons (fldK (K := K) (pv 0) rfl) pa_nil))) (pg_sub (pv 2) (pv 4) set_list)))
        pss_nil)))
    (pss_one (ps_ret (pv 2)))))), ?_⟩
    refine ⟨small (by show 2 ≤ 1000; decide), fun q0 hq0 => ⟨small (by show 1 ≤ 1000; decide), fun D0 hD0 => ?_⟩⟩
    have s1 := Same.new (o := .tup [V.int 0, V.int 1]) hq0
    have s2 := s1.trans (Same.new (o := .lst [V.ref q0]) hD0)
    refine ⟨_, rfl, p, C, dx, _, _, rfl, s2 _ _ g0.ins, T.c_Grid, T.n_many, gf_many, D0, _, _, rfl, rfl, upd_same, by omega, by omega, small (by show 1 * _ ≤ _; omega), fun D hD => ?_⟩
    rw [rep_flat]
    have s3 := s2.trans (Same.new (o := .lst (List.replicate n (V.ref q0))) hD)
    have hR0 : Rt K (upd (upd (upd H q0 (.tup [V.int 0, V.int 1])) D0 (.lst [V.ref q0])) D (.lst (List.replicate n (V.ref q0)))) (.ref q0) 0 := ⟨q0, rfl, (((Same.new (o := .lst [V.ref q0]) hD0)).trans (Same.new hD)).tup (SqT.of upd_same)⟩
    have hDD : H D = none := s2.free hD
    refine ⟨small (by show 2 ≤ 1000; decide), fun q1 hq1 => ?_⟩
    have sq := Same.new (o := .tup [V.int 1, V.int 1]) hq1
    have hR1 : Rt K (upd (upd (upd (upd H q0 (.tup [V.int 0, V.int 1])) D0 (.lst [V.ref q0])) D (.lst (List.replicate n (V.ref q0)))) q1 (.tup [V.int 1, V.int 1])) (.ref q1) 1 := ⟨q1, rfl, SqT.of upd_same⟩
    have hD1 := sq _ _ (upd_same (H := (upd (upd H q0 (.tup [V.int 0, V.int 1])) D0 (.lst [V.ref q0]))) (a := D) (o := .lst (List.replicate n (V.ref q0))))
    have s4 : Same H (upd (upd (upd (upd (upd H q0 (.tup [V.int 0, V.int 1])) D0 (.lst [V.ref q0])) D (.lst (List.replicate n (V.ref q0)))) q1 (.tup [V.int 1, V.int 1])) D (.lst ((List.replicate n (V.ref q0)).set sc (.ref q1)))) := (s3.trans sq).mut hDD
    refine ⟨_, rfl, _, rfl, D, _, _, sc, rfl, rfl, hD1, ixN_nat (by rw [List.length_replicate]; exact hs), ?_⟩
    refine ⟨_, rfl, p, C, dx, _, _, rfl, s4 _ _ g0.ins, T.c_Grid, T.n_inside, gf_inside, .L li, _, rfl, SqL.of (s4 _ _ g0.inside), for_it (walk_enumG (p := .L li) (n := m) (iv_len _ _))
      (fun i σ H' => (∃ u1 u2 : Option V, σ = [some (.ref p), some (.int (sc : Nat)), some (.ref D), u1, u2]) ∧ Same H H' ∧ ∃ xs x, H' D = some (.lst xs) ∧ RsL K H' xs n x ∧ ∀ j, j < n → FrZ (K6.low m a B) 1500 (x j))
      ⟨⟨_, _, rfl⟩, s4, _, _, upd_same, ((RsL.rep hR0).tp sq.tp).set hD1 hs hR1, fun j hj => ?_⟩ (fun i σ H' _ q => SqL.of (q.2.1 _ _ g0.inside)) ?_ ?_⟩
    · by_cases e : j = sc
      · rw [if_pos e]
        refine ⟨K6.low m a B, ?_, lb⟩
        have : ((K6.low m a B : Int) : Rat) ≠ 0 := fun q => by
          have := Rat.intCast_eq_zero_iff.mp q
          omega
        rw [Rat.divInt_eq_div, Rat.div_def, Rat.mul_inv_cancel _ this]
      · rw [if_neg e]
        exact ⟨0, (divInt_zero' _).symm, by decide +kernel⟩
    · rintro i y σ H1 H2 hi ⟨⟨u1, u2, rfl⟩, b1, xs, x, hxs, hR, hF⟩ ⟨Tq, x1, x2, rfl, hT, rfl, e1, e2⟩
      cases e1
      obtain ⟨_, rfl⟩ := iv_of e2
      have s5 := Same.new (o := .tup [V.int (i : Nat), V.int (B i : Nat)]) hT
      have g4 := g0.same (b1.trans s5)
      obtain ⟨b, eb, _, _, hb⟩ := g4.row i hi
      refine tup2 (SqT.of upd_same) ⟨_, rfl, _, rfl, p, C, dx, _, _, rfl, g4.ins, T.c_Grid, T.n_many, gf_many, _, _, rfl, rfl, _, rfl, ?_⟩
      by_cases cB : B i < n
      · have e : decide (((B i : Nat) : Int) < (n : Int)) = true := by simp; omega
        rw [e]
        refine iteT ⟨_, rfl, p, C, dx, _, _, rfl, g4.ins, T.c_Grid, T.n_rows, gf_rows, _, rfl, lr, _, _, _, rfl, rfl, SqL.of g4.rws, atI_nat eb, _, rfl, b, _, _, _, rfl, rfl, SqL.of hb, atI_nat (iv_get (by omega)), _, rfl, _, rfl, p, C, dx, _, _, rfl, g4.ins, T.c_Grid, T.n_low, gf_low, _, _, rfl, lp, Nat.lt_trans lb (by decide +kernel), fun v H5 s6 hv => ?_⟩
        have hxs5 := (s5.trans s6) _ _ hxs
        refine ⟨_, rfl, _, rfl, D, _, _, B i, rfl, rfl, hxs5, ixN_nat (by rw [hR.1]; exact cB), ⟨_, _, rfl⟩, (b1.trans (s5.trans s6)).mut hDD, _, _, upd_same, (hR.tp (s5.trans s6).tp).set hxs5 cB hv, fun j hj => ?_⟩
        by_cases ej : j = B i
        · rw [if_pos ej]
          exact ⟨_, rfl, by rw [Int.natAbs_neg]; exact gc.ab _ _ _⟩
        · rw [if_neg ej]; exact hF j hj
      · have e : decide (((B i : Nat) : Int) < (n : Int)) = false := by simp; omega
        rw [e]
        exact iteF ⟨⟨_, _, rfl⟩, b1.trans s5, xs, x, s5 _ _ hxs, hR.tp s5.tp, hF⟩
    · rintro σ H1 ⟨⟨u1, u2, rfl⟩, b1, xs, x, hxs, hR, hF⟩
      exact ⟨_, rfl, kk D xs x H1 b1 hxs hR hF⟩
end
end G3
-- WGath
set_option Elab.async false
set_option linter.all false
set_option maxRecDepth 100000
set_option maxHeartbeats 4000000
namespace G3
open PySem PySem.Spec PyProof.Rows L2
theorem FrZ.den {L : Int} {b : Nat} {q : Rat} (h : FrZ L b q) (hL : 0 < L) : q.den ∣ L.natAbs := by
  obtain ⟨z, rfl, _⟩ := h
  rw [Rat.den_divInt, if_neg (by omega)]
  exact Nat.div_dvd_of_dvd (Int.gcd_dvd_natAbs_left L z)
theorem FrZ.num {L : Int} {b : Nat} {q : Rat} (h : FrZ L b q) (hL : 0 < L) : q.num.natAbs < 2 ^ b := by
  obtain ⟨z, rfl, hz⟩ := h
  rw [(rat_num_den hL).1]
  exact Nat.lt_of_le_of_lt (Int.natAbs_ediv_le_natAbs _ _) hz
theorem FrZ.sub {L : Int} {b : Nat} {q r : Rat} (h : FrZ L b q) (h' : FrZ L b r) : FrZ L (b + 1) (q - r) := by
  obtain ⟨z, rfl, hz⟩ := h
  obtain ⟨y, rfl, hy⟩ := h'
  refine ⟨z - y, ?_, ?_⟩
  · rw [Rat.divInt_eq_div, Rat.divInt_eq_div, Rat.divInt_eq_div, Rat.intCast_sub, Rat.div_def, Rat.div_def, Rat.div_def, Rat.sub_eq_add_neg, Rat.sub_eq_add_neg, Rat.add_mul, Rat.neg_mul]
  · rw [Nat.pow_succ]; omega
theorem FrZ.mono {L : Int} {b b' : Nat} {q : Rat} (h : FrZ L b q) (hb : b ≤ b') : FrZ L b' q := by
  obtain ⟨z, e, hz⟩ := h
  exact ⟨z, e, Nat.lt_of_lt_of_le hz (Nat.pow_le_pow_right (by decide) hb)⟩
theorem FrZ.neg {L : Int} {b : Nat} {q : Rat} (h : FrZ L b q) : FrZ L b (-q) := by
  obtain ⟨z, rfl, hz⟩ := h
  exact ⟨-z, by rw [Rat.neg_divInt], by rw [Int.natAbs_neg]; exact hz⟩
theorem gath_frz {plus : Nat → Bool} {x : Nat → Rat} {L : Int} {b n k : Nat} (h : ∀ j, j < n → FrZ L b (x j)) (hn : n = K6.pos plus k) {j : Nat} (hj : j < k) : FrZ L (b + 1) (K6.gath plus x j) := by
  have hp := K6.pos_mono (plus := plus) (j := j + 1) (k := k) (by omega)
  have ep : K6.pos plus (j + 1) = K6.pos plus j + (if plus j = true then 1 else 2) := rfl
  unfold K6.gath
  cases e : plus j with
  | true =>
    rw [e, if_pos rfl] at ep
    rw [if_pos rfl]; exact (h _ (by omega)).mono (by omega)
  | false =>
    rw [e, if_neg Bool.false_ne_true] at ep
    rw [if_neg Bool.false_ne_true]; exact (h _ (by omega)).sub (h _ (by omega))
theorem dotOk_frz {n : Nat} {f : Nat → Int} {x : Nat → Rat} {L : Int} (hL : 0 < L) (hL1 : L.natAbs < 2 ^ 4000) (hn : n ≤ 100) (hf : ∀ i, i < n → (f i).natAbs < 2 ^ 4000) (hx : ∀ i, i < n → FrZ L 4000 (x i)) : DotOk n f x L.natAbs :=
  ⟨hn, by omega, hL1, fun i hi => (hx i hi).den hL, hf, fun i hi => (hx i hi).num hL⟩
section
variable {P : Program} {w : World} {K : PySem.W.Frag} {mg : Str → Option Value} {base : Heap} {C CN : Addr}
def spGathered (K : PySem.W.Frag) : Sp := fun vs H Q _ => ∃ (k : Nat) (plus : Nat → Bool) (l : Addr) (ws : List V) (x : Nat → Rat) (L : Int) (N : Nat), vs = [.str (kindsS k plus), .ref l] ∧ SqL K H l ws ∧ RsL K H ws N x ∧ K6.pos plus k ≤ N ∧ k ≤ 20 ∧ 0 < L ∧ L.natAbs < 2 ^ 1500 ∧ (∀ j, j < K6.pos plus k → FrZ L 1700 (x j)) ∧
  ∀ v H', Same H H' → Rts K H' v k (K6.gath plus x) → Q v H'
theorem sc_gathered : FnScope ["kinds", "values", "kind", "found", "at", "one", "other"] ["kinds", "values"] (defScope s_gathered) := ⟨rfl, rfl, rfl, by decide +kernel, rfl, by decide +kernel, by decide +kernel⟩
theorem ok_gathered (T : Txt K mg C CN) : Has P w K mg base CX0 "gathered" 4 ["kinds", "values"] (spGathered K) := by
  obtain ⟨f, fd, mf, F, bf⟩ := T.d_gathered
  obtain ⟨f_dot, fd_dot, m_dot, k_dot, b_dot, G_dot⟩ := ok_dot (P := P) (w := w) (base := base) T
  refine ⟨f, fd, mf, F.kp, bf, F.ok sc_gathered (fun vs H Q E h => ?_) (fun cdv A outer s H vs Q E hr h => ?_)⟩
  · obtain ⟨k, plus, l, ws, x, L, N, rfl, _⟩ := h
    rfl
  · obtain ⟨n, plus, l, ws, x, L, N, rfl, hl, hws, hN, hn, L0, L1, hF, kk⟩ := h
    have hr_dot := hr.mono (j := 3) (by decide)
    refine ⟨_, PSs.nox (pss_cons (ps_par (i := 3) (j := 4) rfl sc_gathered.nd rfl rfl (by decide) rfl rfl (pa_cons (pe_lst pa_nil) (pa_cons pe_int pa_nil)) (by rfl))
    (pss_cons (ps_for PassesOwn.never rfl (pi_str (pv 0)) (pg_name (i := 2) sc_gathered.nd rfl (Or.inl rfl))
      (pss_one (ps_if (pt_cmpR op_eq (pv 2) pe_str (nomark _))
        (pss_cons (ps_expr (pe_bm PySem.F.plainAttrs_list PySem.F.slot_list_append PySem.F.type_list_append mt_append (pv 3) (pa_cons (pe_ix (ixL (K := K)) (pv 1) (pv 4) (fun _ _ => rfl)) pa_nil)))
        (pss_one (ps_aug (i := 4) sc_gathered.nd rfl (Or.inl rfl) pe_int ip_add)))
        (pss_cons (ps_par (i := 5) (j := 6) rfl sc_gathered.nd rfl rfl (by decide) rfl rfl (pa_cons (pe_ix (ixL (K := K)) (pv 1) (pv 4) (fun _ _ => rfl)) (pa_cons (pe_ix (ixL (K := K)) (pv 1) (pe_op op_add (pv 4) pe_int) (fun _ _ => rfl)) pa_nil)) (by rfl))
        (pss_cons (ps_expr (pe_bm PySem.F.plainAttrs_list PySem.F.slot_list_append PySem.F.type_list_append mt_append (pv 3) (pa_cons (pe_ifExp (pt_cmpR op_eq (pe_ix (ixT (K := K)) (pv 6) pe_int (fun _ _ => rfl)) pe_int (nomark _)) (pv 5) (pe_call G_dot hr_dot (by rfl) m_dot k_dot b_dot .nil pass0 (pa_cons (pe_tup (pa_cons pe_int (pa_cons (pe_un un_neg pe_int) pa_nil))) (pa_cons (pe_tup (pa_cons (pv 5) (pa_cons (pv 6) pa_nil))) pa_nil)))) pa_nil)))
        (pss_one (ps_aug (i := 4) sc_gathered.nd rfl (Or.inl rfl) pe_int ip_add)))))))
    (pss_one (ps_ret (pe_callTy call_tuple_of (by rfl) T.b_tuple (by decide +kernel) (pa_cons (pv 3) pa_nil)))))), ?_⟩
    have hsz : (kindsS n plus).cps.size = n := by simp [kindsS]
    refine ⟨Nat.zero_le _, fun D hD => ⟨_, _, rfl, ?_⟩⟩
    have s0 := Same.new (o := .lst []) hD
    refine ⟨_, rfl, _, rfl, for_it (walk_str (z := kindsS n plus))
      (fun i σ H' => (∃ u1 u2 u3 : Option V, σ = [some (.str (kindsS n plus)), some (.ref l), u1, some (.ref D), some (.int (K6.pos plus i : Nat)), u2, u3]) ∧ Same H H' ∧ ∃ xs, H' D = some (.lst xs) ∧ RsL K H' xs i (K6.gath plus x))
      ⟨⟨_, _, _, rfl⟩, s0, [], upd_same, rfl, fun i hi => absurd hi (Nat.not_lt_zero i)⟩ (fun _ _ _ _ _ => True.intro) ?_ ?_⟩
    · rintro i y σ H1 H2 hi ⟨⟨u1, u2, u3, rfl⟩, b1, xs, hxs, hR⟩ ⟨rfl, cc, ec, rfl⟩
      have hi' : i < n := by rw [hsz] at hi; exact hi
      rw [kinds_get hi'] at ec
      have ec' := (Option.some.inj ec).symm
      subst ec'
      have hp := K6.pos_mono (plus := plus) (j := i + 1) (k := n) (by omega)
      have ep : K6.pos plus (i + 1) = K6.pos plus i + (if plus i = true then 1 else 2) := rfl
      have hl2 : SqL K H2 l ws := b1.seq hl
      have hw2 := hws.tp b1.tp
      refine ⟨_, rfl, rfl, _, rfl, ?_⟩
      rw [ki_plus]
      cases e : plus i with
      | true =>
        rw [e, if_pos rfl] at ep
        obtain ⟨u, eu, hu⟩ := hw2.2 (K6.pos plus i) (by omega)
        refine iteT ⟨_, rfl, .inl ⟨rfl, _, SqL.of hxs⟩, _, rfl, _, rfl, l, _, _, _, rfl, rfl, hl2, atI_nat eu, D, xs, _, rfl, rfl, hxs, small1000 (by rw [hR.1]; omega), ?_⟩
        have g : K6.gath plus x i = x (K6.pos plus i) := by unfold K6.gath; rw [e, if_pos rfl]
        refine ⟨_, rfl, _, _, rfl, rfl, ⟨_, _, _, by rw [ep]; rfl⟩, b1.mut hD, _, upd_same, hR.app hxs (by rw [g]; exact hu)⟩
      | false =>
        rw [e, if_neg Bool.false_ne_true] at ep
        have g : K6.gath plus x i = x (K6.pos plus i) - x (K6.pos plus i + 1) := by unfold K6.gath; rw [e, if_neg Bool.false_ne_true]
        have gF : FrZ L 1701 (K6.gath plus x i) := gath_frz hF rfl hi'
        obtain ⟨u, eu, q1, rfl, hu⟩ := hw2.2 (K6.pos plus i) (by omega)
        obtain ⟨u', eu', q2, rfl, hu'⟩ := hw2.2 (K6.pos plus i + 1) (by omega)
        refine iteF ⟨_, rfl, _, rfl, l, _, _, _, rfl, rfl, hl2, atI_nat eu, _, rfl, _, rfl, _, _, rfl, rfl, l, _, _, _, rfl, rfl, hl2, atI_nat (j := K6.pos plus i + 1) eu', _, _, rfl, ?_⟩
        refine ⟨_, rfl, .inl ⟨rfl, _, SqL.of hxs⟩, _, rfl, q2, _, _, _, rfl, rfl, hu', rfl, rfl, _, rfl, ?_⟩
        by_cases cz : (x (K6.pos plus i + 1)).num = 0
        · have ed : decide (V.int (x (K6.pos plus i + 1)).num = V.int 0) = true := by rw [cz]; rfl
          rw [ed]
          refine iteT ⟨_, rfl, D, xs, _, rfl, rfl, hxs, small1000 (by rw [hR.1]; omega), ?_⟩
          refine ⟨_, rfl, _, _, rfl, rfl, ⟨_, _, _, by rw [ep]; rfl⟩, b1.mut hD, _, upd_same, hR.app hxs ?_⟩
          · rw [g, Rat.num_eq_zero.mp cz, Rat.sub_eq_add_neg, Rat.neg_zero, Rat.add_zero]
            exact ⟨q1, rfl, hu⟩
        · have ed : decide (V.int (x (K6.pos plus i + 1)).num = V.int 0) = false := by simp [cz]
          rw [ed]
          refine iteF ⟨_, rfl, small (by show 2 ≤ 1000; decide), fun r1 hr1 => ?_⟩
          have s2 := Same.new (o := .tup [V.int 1, V.int (-1)]) hr1
          refine ⟨_, rfl, _, rfl, small (by show 2 ≤ 1000; decide), fun r2 hr2 => ?_⟩
          have s3 := Same.new (o := .tup [V.ref q1, V.ref q2]) hr2
          have s23 := s2.trans s3
          have L4 : L.natAbs < 2 ^ 4000 := Nat.lt_trans L1 (by decide +kernel)
          refine ⟨.T r1, _, 2, (fun i => if i = 0 then 1 else -1), (fun j => if j = 0 then x (K6.pos plus i) else x (K6.pos plus i + 1)), _, rfl, s3.tup (SqT.of upd_same), ⟨r2, _, rfl, SqT.of upd_same, rfl, fun j hj => ?_⟩, dotOk_frz L0 L4 (by decide) (fun j hj => ?_) (fun j hj => ?_), fun v H5 s5 hv => ?_⟩
          · match j, hj with
            | 0, _ => exact ⟨_, rfl, q1, rfl, s23.tup hu⟩
            | 1, _ => exact ⟨_, rfl, q2, rfl, s23.tup hu'⟩
          · have h1 : (1 : Nat) < 2 ^ 4000 := by decide +kernel
            show (if j = 0 then (1 : Int) else -1).natAbs < _
            split
            · exact h1
            · exact h1
          · show FrZ L 4000 (if j = 0 then _ else _)
            split
            · exact (hF _ (by omega)).mono (by decide)
            · exact (hF _ (by omega)).mono (by decide)
          · have s25 := s23.trans s5
            have hxs5 := s25 _ _ hxs
            have ev : K6.sR 2 (fun j => (((fun i => if i = 0 then 1 else -1 : Nat → Int) j : Int) : Rat) * (if j = 0 then x (K6.pos plus i) else x (K6.pos plus i + 1))) = K6.gath plus x i := by
              rw [g]
              show (0 + ((1 : Int) : Rat) * x (K6.pos plus i)) + ((-1 : Int) : Rat) * x (K6.pos plus i + 1) = _
              have e1 : ((1 : Int) : Rat) = 1 := rfl
              have e2 : ((-1 : Int) : Rat) = -1 := rfl
              rw [e1, e2]
              grind
            rw [ev] at hv
            refine ⟨D, xs, _, rfl, rfl, hxs5, small1000 (by rw [hR.1]; omega), ?_⟩
            refine ⟨_, rfl, _, _, rfl, rfl, ⟨_, _, _, by rw [ep]; rfl⟩, (b1.trans s25).mut hD, _, upd_same, (hR.tp s25.tp).app hxs5 hv⟩
    · rintro σ H1 ⟨⟨u1, u2, u3, rfl⟩, b1, xs, hxs, hR⟩
      rw [hsz] at hR
      refine ⟨_, rfl, D, xs, rfl, .inl ⟨SqL.of hxs, fun p hp => ?_⟩⟩
      have s2 := Same.new (o := .tup xs) hp
      exact kk _ _ (b1.trans s2) ⟨p, xs, rfl, SqT.of upd_same, hR.tp s2.tp⟩
end
end G3
-- WSize
set_option Elab.async false
set_option linter.all false
set_option maxHeartbeats 1000000
namespace K6
structure Sz (e : Nat) (t : Task) : Prop where
  k6 : t.k ≤ 6
  m6 : t.m ≤ 6
  A : ∀ i j, i < t.m → j < t.k → (t.A i j).natAbs ≤ 2 ^ e
  c : ∀ j, j < t.k → (t.c j).natAbs ≤ 2 ^ e
  b : ∀ i, i < t.m → (t.b i).natAbs ≤ 2 ^ e
section
variable {e : Nat} {t : Task}
theorem one_le (e : Nat) : 1 ≤ 2 ^ e := Nat.one_le_two_pow
theorem unit_mul {s x : Int} {M : Nat} (hs : s = 1 ∨ s = -1) (h : x.natAbs ≤ M) : (s * x).natAbs ≤ M := by
  rcases hs with rfl | rfl
  · rw [Int.one_mul]; exact h
  · rw [Int.neg_one_mul, Int.natAbs_neg]; exact h
theorem line_le (h : Sz e t) {i : Nat} (hi : i < t.m) (q : Nat) : (lineT t i q).natAbs ≤ 2 ^ e := by
  unfold lineT
  have := one_le e
  split
  · next hq =>
    obtain ⟨h1, h2⟩ := colAt_in hq
    exact unit_mul h2 (h.A _ _ hi h1)
  · split
    · exact this
    · exact Nat.zero_le _
theorem price_le (h : Sz e t) (q : Nat) : (priceT t q).natAbs ≤ 2 ^ e := by
  unfold priceT
  split
  · next hq =>
    obtain ⟨h1, h2⟩ := colAt_in hq
    exact unit_mul h2 (h.c _ h1)
  · exact Nat.zero_le _
theorem stdA_le (h : Sz e t) (j r : Nat) (hr : r < t.m) : (stdA t j r).natAbs ≤ 2 ^ e := by
  have := one_le e
  unfold stdA
  split
  · exact unit_mul (sr_cases t r) (line_le h hr j)
  · split
    · unfold unitV
      split
      · exact this
      · exact Nat.zero_le _
    · exact unit_mul (sr_cases t r) (h.b _ hr)
theorem fct6 : ∀ {m : Nat}, m ≤ 6 → fct m ≤ 720
  | 0, _ => by decide
  | 1, _ => by decide
  | 2, _ => by decide
  | 3, _ => by decide
  | 4, _ => by decide
  | 5, _ => by decide
  | 6, _ => by decide
  | _ + 7, h => by omega
theorem pow6 (h : t.m ≤ 6) : fct t.m * (2 ^ e) ^ t.m ≤ 720 * 2 ^ (e * 6) := by
  rw [← Nat.pow_mul]
  exact Nat.mul_le_mul (fct6 h) (Nat.pow_le_pow_right (by decide) (Nat.mul_le_mul_left _ h))
theorem T_le (h : Sz e t) (B : Nat → Nat) (i j : Nat) : (T t.m (stdA t) B i j).natAbs ≤ 720 * 2 ^ (e * 6) := Nat.le_trans (T_bound (fun j r hr => stdA_le h j r hr) i j) (pow6 h.m6)
theorem low_le (h : Sz e t) (B : Nat → Nat) : (low t.m (stdA t) B).natAbs ≤ 720 * 2 ^ (e * 6) := Nat.le_trans (low_bound (fun j r hr => stdA_le h j r hr)) (pow6 h.m6)
theorem zz_le (h : Sz e t) {c : Nat → Int} (hc : ∀ j, (c j).natAbs ≤ 2 ^ e) (B : Nat → Nat) (j : Nat) : (zz t.m (stdA t) c B j).natAbs ≤ 7 * (2 ^ e * (720 * 2 ^ (e * 6))) := by
  refine Nat.le_trans (zz_bound (fun j r hr => stdA_le h j r hr) hc j) ?_
  exact Nat.mul_le_mul (by have := h.m6; omega) (Nat.mul_le_mul_left _ (pow6 h.m6))
theorem Sz.plain (h : Sz e t) : Sz e (plain t) := by
  refine ⟨h.k6, h.m6, fun i j hi hj => ?_, h.c, fun i hi => ?_⟩
  · show (if t.sg i = .le then - t.A i j else t.A i j).natAbs ≤ _
    split
    · rw [Int.natAbs_neg]; exact h.A i j hi hj
    · exact h.A i j hi hj
  · show (if t.sg i = .le then - t.b i else t.b i).natAbs ≤ _
    split
    · rw [Int.natAbs_neg]; exact h.b i hi
    · exact h.b i hi
theorem plain_base (ht : IsPlain t) : NoPl t ∨ Endless t ∨ ∃ B, Driven t.m (nn t) (stdA t) t.m B ∧ Fin t.m (nn t) (stdA t) (priceT t) B := by
  obtain ⟨k, B, C, h⟩ := phase_ends (n := nn t) (c := cost1 (nn t) t.m) (std_good t) (std_feas t) (by omega)
  obtain ⟨G, F⟩ := C.both (std_good t) (std_feas t)
  rcases h with E | ⟨s, U⟩
  · by_cases hz : zz t.m (stdA t) (cost1 (nn t) t.m) B (nn t + t.m) = 0
    · have D0 : Driven t.m (nn t) (stdA t) 0 B := ⟨G, F, phase1_zero F G.inN hz, fun i _ h => absurd h (Nat.not_lt_zero i)⟩
      obtain ⟨B1, D1⟩ := drive_ends D0 t.m (Nat.le_refl _)
      obtain ⟨k2, B2, C2, h2⟩ := phase_ends (n := nn t) (c := priceT t) D1.G D1.F (by omega)
      have D2 := D1.chain C2
      rcases h2 with E2 | ⟨s, U⟩
      · exact .inr (.inr ⟨_, D2, E2⟩)
      · exact .inr (.inl (endless_end ht D2 U))
    · exact .inl (none_of ht G F E hz)
  · exact (no_unb1 U).elim
theorem best_val (ht : IsPlain t) {v : Rat} (hb : Best t v) : ∃ B, Good t.m (nn t + t.m) (stdA t) B ∧ v = Rat.divInt (- zz t.m (stdA t) (priceT t) B (nn t + t.m)) (low t.m (stdA t) B) := by
  rcases plain_base ht with q | q | ⟨B, D, E⟩
  · exact absurd q hb.notNo
  · exact absurd q hb.notEndless
  · obtain ⟨h1, h2, h3⟩ := best_end ht D E
    refine ⟨B, D.G, ?_⟩
    rw [hb.uniq (best_of h1 h2 h3)]
    unfold planB
    rw [← price_sum, xB_worth D.G D.zr (priceT_R t), Rat.divInt_eq_div, Rat.intCast_neg, Rat.div_def, Rat.div_def, Rat.neg_mul]
end
end K6
namespace G3
open K6
theorem best_size {t : Task} (h : Sz 7 t) {v : Rat} (hb : Best t v) : v.den ≤ 2 ^ 52 ∧ v.num.natAbs ≤ 2 ^ 62 := by
  obtain ⟨B, G, e⟩ := best_val (plain_plain t) (best_plain.mpr hb)
  have L0 := low_pos G
  have hl := low_le h.plain B
  have hz := zz_le h.plain (price_le h.plain) B (nn (plain t) + (plain t).m)
  have F : FrZ (low (plain t).m (stdA (plain t)) B) 62 v := ⟨_, e, by
    rw [Int.natAbs_neg]
    exact Nat.lt_of_le_of_lt hz (by decide)⟩
  refine ⟨Nat.le_trans (Nat.le_of_dvd (by omega) (F.den L0)) (Nat.le_trans hl (by decide)), Nat.le_of_lt (F.num L0)⟩
/-- a given task: at most 5 columns, 5 rows, small numbers -/
structure S0 (t : Task) : Prop where
  k5 : t.k ≤ 5
  m5 : t.m ≤ 5
  sz : Sz 7 t
theorem S0.plain {t : Task} (h : S0 t) : S0 (plain t) := ⟨h.k5, h.m5, h.sz.plain⟩
theorem S0.other {t : Task} (h : S0 t) : S0 (other t) := by
  have hp := h.sz.plain
  refine ⟨h.m5, h.k5, ⟨h.sz.m6, h.sz.k6, fun i j hi hj => ?_, fun j hj => ?_, fun i hi => ?_⟩⟩
  · show (- (K6.plain t).A j i).natAbs ≤ _
    rw [Int.natAbs_neg]; exact hp.A j i hj hi
  · show (- (K6.plain t).b j).natAbs ≤ _
    rw [Int.natAbs_neg]; exact hp.b j hj
  · show (- t.c i).natAbs ≤ _
    rw [Int.natAbs_neg]; exact hp.c i hi
theorem Sz.up {e e' : Nat} {t : Task} (h : Sz e t) (he : e ≤ e') : Sz e' t := by
  have : 2 ^ e ≤ 2 ^ e' := Nat.pow_le_pow_right (by decide) he
  exact ⟨h.k6, h.m6, fun i j hi hj => Nat.le_trans (h.A i j hi hj) this, fun j hj => Nat.le_trans (h.c j hj) this, fun i hi => Nat.le_trans (h.b i hi) this⟩
theorem kept_size {t : Task} (h : S0 t) {v : Rat} (hb : Best t v) : Sz 64 (kept t v) := by
  obtain ⟨h1, h2⟩ := best_size h.sz hb
  have hu := Sz.up h.sz (show 7 ≤ 64 by decide)
  refine ⟨hu.k6, by show t.m + 1 ≤ 6; have := h.m5; omega, fun i j hi hj => ?_, hu.c, fun i hi => ?_⟩
  · show (if i < t.m then t.A i j else t.c j * (v.den : Int)).natAbs ≤ _
    split
    · next q => exact hu.A i j q hj
    · rw [Int.natAbs_mul]
      have := Nat.mul_le_mul (h.sz.c j hj) (show ((v.den : Int)).natAbs ≤ 2 ^ 52 from h1)
      exact Nat.le_trans this (by decide)
  · show (if i < t.m then t.b i else v.num).natAbs ≤ _
    split
    · next q => exact hu.b i q
    · exact Nat.le_trans h2 (by decide)
theorem priced_size {e : Nat} {t : Task} (h : Sz e t) {d : Nat → Int} (hd : ∀ j, j < t.k → (d j).natAbs ≤ 2 ^ e) : Sz e (priced t d) := ⟨h.k6, h.m6, h.A, hd, h.b⟩
theorem pos_le6 (plus : Nat → Bool) : ∀ k, pos plus k ≤ 2 * k := pos_le plus
theorem nn_le {e : Nat} {t : Task} (h : Sz e t) : nn t ≤ 18 := by
  have h1 := pos_le t.plus t.k
  have h2 := spos_le (geAt t) t.m
  have h3 := h.k6
  have h4 := h.m6
  show pos t.plus t.k + spos (geAt t) t.m ≤ 18
  omega
theorem gc_std {t : Task} (h : Sz 64 t) : Gc t.m (nn t) (stdA t) where
  m20 := by have := h.m6; omega
  n100 := by have := nn_le h; omega
  unit := std_unit t
  ab := fun B i j => Nat.lt_of_le_of_lt (T_le h B i j) (by decide +kernel)
  lb := fun B => Nat.lt_of_le_of_lt (low_le h B) (by decide +kernel)
theorem cc_price {t : Task} (h : Sz 64 t) : Cc t.m (nn t) (stdA t) (priceT t) where
  cb := fun j => Nat.lt_of_le_of_lt (price_le h j) (by decide +kernel)
  zb := fun B j => Nat.lt_of_le_of_lt (zz_le h (price_le h) B j) (by decide +kernel)
theorem cc_one {t : Task} (h : Sz 64 t) : Cc t.m (nn t) (stdA t) (cost1 (nn t) t.m) := by
  have hc : ∀ j, (cost1 (nn t) t.m j).natAbs ≤ 2 ^ 64 := fun j => by
    unfold cost1
    split <;> decide
  exact ⟨fun j => Nat.lt_of_le_of_lt (hc j) (by decide +kernel), fun B j => Nat.lt_of_le_of_lt (zz_le h hc B j) (by decide +kernel)⟩
end G3
-- WSolve
set_option Elab.async false
set_option linter.all false
set_option maxRecDepth 100000
set_option maxHeartbeats 4000000
namespace G3
open PySem PySem.Spec PyProof.Rows L2
theorem cost1_list (n m : Nat) : iv n (fun _ => 0) ++ iv m (fun _ => 1) = iv (n + m) (K6.cost1 n m) := by
  rw [iv_append]
  refine iv_congr fun i hi => ?_
  unfold K6.cost1
  by_cases c : i < n
  · rw [if_pos c, if_neg (by omega)]
  · rw [if_neg c, if_pos (by omega)]
theorem price_list (t : K6.Task) : iv (K6.nn t) (K6.priceT t) ++ iv t.m (fun _ => 0) = iv (K6.nn t + t.m) (K6.priceT t) := by
  rw [iv_append]
  refine iv_congr fun i hi => ?_
  by_cases c : i < K6.nn t
  · rw [if_pos c]
  · rw [if_neg c]
    unfold K6.priceT
    rw [if_neg (by unfold K6.nn at c; omega)]
/-- what solved tells -/
inductive Told (K : PySem.W.Frag) (H : Hp) (t : K6.Task) (word : Str) (z1 z2 : V) : Prop
  | none : word = "none" → z1 = .non → K6.NoPl t → Told K H t word z1 z2
  | endless (x : Nat → Rat) : word = "endless" → Rts K H z1 t.k x → K6.Endless t → Told K H t word z1 z2
  | best (x y : Nat → Rat) (L : Int) : word = "best" → Rts K H z1 t.k x → Rts K H z2 t.m y → K6.Plan t x → K6.Paper t y → K6.costT t x = K6.prom t y → 0 < L → L.natAbs < 2 ^ 1500 →
      (∀ j, j < t.k → FrZ L 1701 (x j)) → (∀ i, i < t.m → FrZ L 1701 (y i)) → Told K H t word z1 z2
section
variable {P : Program} {w : World} {K : PySem.W.Frag} {mg : Str → Option Value} {base : Heap} {C CN : Addr}
def spSolved (K : PySem.W.Frag) : Sp := fun vs H Q _ => ∃ (v : V) (t : K6.Task), vs = [v] ∧ Tk K H v t ∧ K6.Sz 64 t ∧
  ∀ p word z1 z2 H', Same H H' → SqT K H' p [.str word, z1, z2] → Told K H' t word z1 z2 → Q (.ref p) H'
theorem sc_solved : FnScope ["task", "told", "grid", "column", "plan", "lines", "prices", "many", "high", "row"] ["task"] (defScope s_solved) := ⟨rfl, rfl, rfl, by decide +kernel, rfl, by decide +kernel, by decide +kernel⟩
theorem ok_solved (T : Txt K mg C CN) : Has P w K mg base CX0 "solved" 5 ["task"] (spSolved K) := by
  obtain ⟨f, fd, mf, F, bf⟩ := T.d_solved
  obtain ⟨f_Grid_init, fd_Grid_init, K_Grid, b_Grid_init, G_Grid_init⟩ := ok_G_init (P := P) (w := w) (base := base) T
  obtain ⟨f_Grid_amounts, fd_Grid_amounts, M_amounts, b_Grid_amounts, G_Grid_amounts⟩ := ok_G_amounts (P := P) (w := w) (base := base) T
  obtain ⟨f_Grid_drive_out, fd_Grid_drive_out, M_drive_out, b_Grid_drive_out, G_Grid_drive_out⟩ := ok_G_drive_out (P := P) (w := w) (base := base) T
  obtain ⟨f_Grid_price, fd_Grid_price, M_price, b_Grid_price, G_Grid_price⟩ := ok_G_price (P := P) (w := w) (base := base) T
  obtain ⟨f_Grid_settle, fd_Grid_settle, M_settle, b_Grid_settle, G_Grid_settle⟩ := ok_G_settle (P := P) (w := w) (base := base) T
  obtain ⟨f_Grid_way, fd_Grid_way, M_way, b_Grid_way, G_Grid_way⟩ := ok_G_way (P := P) (w := w) (base := base) T
  obtain ⟨f_Grid_weights, fd_Grid_weights, M_weights, b_Grid_weights, G_Grid_weights⟩ := ok_G_weights (P := P) (w := w) (base := base) T
  obtain ⟨f_gathered, fd_gathered, m_gathered, k_gathered, b_gathered, G_gathered⟩ := ok_gathered (P := P) (w := w) (base := base) T
  obtain ⟨f_plain_of, fd_plain_of, m_plain_of, k_plain_of, b_plain_of, G_plain_of⟩ := ok_plain_of (P := P) (w := w) (base := base) T
  obtain ⟨f_signed, fd_signed, m_signed, k_signed, b_signed, G_signed⟩ := ok_signed (P := P) (w := w) (base := base) T
  obtain ⟨f_spread, fd_spread, m_spread, k_spread, b_spread, G_spread⟩ := ok_spread (P := P) (w := w) (base := base) T
  refine ⟨f, fd, mf, F.kp, bf, F.ok sc_solved (fun vs H Q E h => ?_) (fun cdv A outer s H vs Q E hr h => ?_)⟩
  · obtain ⟨v, t, rfl, _⟩ := h
    rfl
  · obtain ⟨v, t, rfl, ht0, sz, kk⟩ := h
    have hr_Grid_init := hr.mono (j := 2) (by decide)
    have hr_Grid_amounts := hr.mono (j := 3) (by decide)
    have hr_Grid_drive_out := hr.mono (j := 3) (by decide)
    have hr_Grid_price := hr.mono (j := 1) (by decide)
    have hr_Grid_settle := hr.mono (j := 3) (by decide)
    have hr_Grid_way := hr.mono (j := 3) (by decide)
    have hr_Grid_weights := hr.mono (j := 3) (by decide)
    have hr_gathered := hr.mono (j := 4) (by decide)
    have hr_plain_of := hr.mono (j := 2) (by decide)
    have hr_signed := hr.mono (j := 1) (by decide)
    have hr_spread := hr.mono (j := 1) (by decide)
    have k6 := sz.k6
    have m6 := sz.m6
    refine ⟨_, PSs.nox (pss_cons (ps_set (i := 1) sc_solved.nd rfl (Or.inl rfl) (pe_call G_plain_of hr_plain_of (by rfl) m_plain_of k_plain_of b_plain_of .nil pass0 (pa_cons (pv 0) pa_nil)))
    (pss_cons (ps_asg (pe_call G_spread hr_spread (by rfl) m_spread k_spread b_spread .nil pass0 (pa_cons (pv 1) pa_nil)) (pg_tup (by rfl) (pgs_cons (pg_name (i := 5) sc_solved.nd rfl (Or.inl rfl)) (pgs_cons (pg_name (i := 6) sc_solved.nd rfl (Or.inl rfl)) pgs_nil))))
    (pss_cons (ps_par (i := 7) (j := 8) rfl sc_solved.nd rfl rfl (by decide) rfl rfl (pa_cons (pe_callB (lenS (K := K)) (by rfl) T.b_len PySem.boot_len (pa_cons (pv 6) pa_nil)) (pa_cons (pe_callB (lenS (K := K)) (by rfl) T.b_len PySem.boot_len (pa_cons (pv 5) pa_nil)) pa_nil)) (by rfl))
    (pss_cons (ps_set (i := 2) sc_solved.nd rfl (Or.inl rfl) (pe_make K_Grid G_Grid_init (by exact hr_Grid_init) (by rfl) T.g_Grid b_Grid_init .nil pass0 (pa_cons (pv 5) (pa_cons (pe_lc (own := [("row", 9)]) (g := gName 9) rfl sc_solved.nd (pi_tup (pe_ix (ixT (K := K)) (pv 1) pe_int (fun _ _ => rfl))) (blkOk_by (own := [("row", 9)]) (N := ["task", "told", "grid", "column", "plan", "lines", "prices", "many", "high", "row"]) (sc := defScope s_solved) (by decide +kernel)) (fun _ _ _ _ _ => by exact (pg_name (i := 9) sc_solved.nd rfl (Or.inl rfl))) (fun _ _ _ _ _ => by exact pts_nil) (fun _ _ _ _ _ => by exact (pe_ix (ixT (K := K)) (pv 9) pe_int (fun _ _ => rfl)))) (pa_cons (pv 7) pa_nil)))))
    (pss_cons (ps_expr (pe_meth (pv 2) T.c_Grid M_price G_Grid_price hr_Grid_price b_Grid_price .nil pass0 (pa_cons (pe_op op_cat (pe_op op_rep (pe_lst (pa_cons pe_int pa_nil)) (pv 7)) (pe_op op_rep (pe_lst (pa_cons pe_int pa_nil)) (pv 8))) pa_nil)))
    (pss_cons (ps_expr (pe_meth (pv 2) T.c_Grid M_settle G_Grid_settle hr_Grid_settle b_Grid_settle .nil pass0 (pa_cons (pv 7) pa_nil)))
    (pss_cons (ps_if (pt_cmpR op_ne (pe_ix (ixL (K := K)) (fldK (K := K) (pv 2) rfl) (pe_un un_neg pe_int) (fun _ _ => rfl)) pe_int (nomark _))
      (pss_one (ps_ret (pe_tup (pa_cons pe_str (pa_cons pe_non (pa_cons (pe_call G_signed hr_signed (by rfl) m_signed k_signed b_signed .nil pass0 (pa_cons (pv 0) (pa_cons (pe_meth (pv 2) T.c_Grid M_weights G_Grid_weights hr_Grid_weights b_Grid_weights .nil pass0 (pa_cons pe_int pa_nil)) pa_nil))) pa_nil))))))
      pss_nil)
    (pss_cons (ps_expr (pe_meth0 (pv 2) T.c_Grid M_drive_out G_Grid_drive_out hr_Grid_drive_out b_Grid_drive_out .nil pass0))
    (pss_cons (ps_expr (pe_meth (pv 2) T.c_Grid M_price G_Grid_price hr_Grid_price b_Grid_price .nil pass0 (pa_cons (pe_op op_cat (pv 6) (pe_op op_rep (pe_lst (pa_cons pe_int pa_nil)) (pv 8))) pa_nil)))
    (pss_cons (ps_set (i := 3) sc_solved.nd rfl (Or.inl rfl) (pe_meth (pv 2) T.c_Grid M_settle G_Grid_settle hr_Grid_settle b_Grid_settle .nil pass0 (pa_cons (pv 7) pa_nil)))
    (pss_cons (ps_set (i := 4) sc_solved.nd rfl (Or.inl rfl) (pe_call G_gathered hr_gathered (by rfl) m_gathered k_gathered b_gathered .nil pass0 (pa_cons (pe_ix (ixT (K := K)) (pv 1) pe_int (fun _ _ => rfl)) (pa_cons (pe_meth0 (pv 2) T.c_Grid M_amounts G_Grid_amounts hr_Grid_amounts b_Grid_amounts .nil pass0) pa_nil))))
    (pss_cons (ps_if (pt_cmpR op_notN (pv 3) pe_non (nomark _))
      (pss_one (ps_ret (pe_tup (pa_cons pe_str (pa_cons (pv 4) (pa_cons (pe_call G_gathered hr_gathered (by rfl) m_gathered k_gathered b_gathered .nil pass0 (pa_cons (pe_ix (ixT (K := K)) (pv 1) pe_int (fun _ _ => rfl)) (pa_cons (pe_meth (pv 2) T.c_Grid M_way G_Grid_way hr_Grid_way b_Grid_way .nil pass0 (pa_cons (pv 3) pa_nil)) pa_nil))) pa_nil))))))
      pss_nil)
    (pss_one (ps_ret (pe_tup (pa_cons pe_str (pa_cons (pv 4) (pa_cons (pe_call G_signed hr_signed (by rfl) m_signed k_signed b_signed .nil pass0 (pa_cons (pv 0) (pa_cons (pe_meth (pv 2) T.c_Grid M_weights G_Grid_weights hr_Grid_weights b_Grid_weights .nil pass0 (pa_cons pe_int pa_nil)) pa_nil))) pa_nil)))))))))))))))))), ?_⟩
    refine ⟨_, rfl, v, t, rfl, ht0, by omega, by omega, fun v1 H1 s1 ht1 => ?_⟩
    have su := sz.plain
    have hup := K6.plain_plain t
    have eno := K6.noPl_plain (t := t)
    have een := K6.endless_plain (t := t)
    have epl := fun x => K6.plan_plain (t := t) (x := x)
    have epa := fun y => K6.paper_plain (t := t) (y := y)
    have epr := fun y => K6.prom_signed t y
    have eco := fun x => K6.costT_plain (t := t) x
    have eu : (K6.plain t).m = t.m := rfl
    have euk : (K6.plain t).k = t.k := rfl
    generalize hu : K6.plain t = u at *
    have nn18 := nn_le su
    refine ⟨_, rfl, v1, u, rfl, ht1, by omega, by omega, fun pq lf lp lls H2 s2 hpq spr => ?_⟩
    refine tup2 hpq ?_
    refine ⟨_, rfl, lp, _, rfl, .inl (SqL.of spr.lp), _, rfl, lf, _, rfl, .inl (SqL.of spr.lf), _, _, rfl, ?_⟩
    rw [iv_len, spr.ll]
    obtain ⟨a, c, r, rs, rfl, ht⟩ := ht1.tp s2.tp
    have hrl : rs.length = u.m := ht.rows.1
    -- the grid
    refine ⟨_, rfl, _, rfl, a, _, _, _, rfl, rfl, ht.tk, rfl, r, rfl, ⟨_, ht.rw⟩, fun D hD => lc_iv (walk_tup (xs := rs)) u.b (by omega) hD (fun H' s => s.tup ht.rw) ?_ ?_⟩
    · rintro j y H3 H4 Qy Qn hj s3 ⟨rfl, e⟩ kq
      obtain ⟨y', ey, b, d, rfl, hb, hd⟩ := ht.rows.2 j (by omega)
      cases e.symm.trans ey
      exact ⟨rfl, yesI ⟨_, rfl, b, _, _, _, rfl, rfl, s3.tup hb, rfl, kq _ (Same.refl _)⟩⟩
    intro H3 s3 e3
    rw [hrl] at e3
    refine ⟨_, rfl, fun x dx hx hdx hne => ?_⟩
    have gc := gc_std su
    have hx4 : (upd H3 dx (.own x)) x = none := by rw [upd_ne hne.symm]; exact hx
    have s34 : Same H3 (upd (upd H3 dx (.own x)) x (.ins C dx [])) := (Same.new hdx).trans (Same.new hx4)
    have sp4 : ∀ i, i < u.m → ∃ q, lls[i]? = some (.ref q) ∧ (upd (upd H3 dx (.own x)) x (.ins C dx [])) q = some (.lst (iv (K6.nn u) (K6.lineT u i))) := fun i hi => by
      obtain ⟨q, eq, hq⟩ := spr.row i hi
      exact ⟨q, eq, s34 _ _ (s3 _ _ hq)⟩
    refine ⟨x, dx, lf, D, lls, K6.nn u, u.m, K6.stdA u, K6.lineT u, u.b, rfl, upd_same, s34 _ _ (s3 _ _ spr.lf), spr.ll, sp4, s34 _ _ e3, by omega, by omega, fun i j hi hj => ⟨Nat.lt_of_le_of_lt (K6.line_le su hi j) (by decide +kernel), ?_⟩, gc.unit, fun i hi => ⟨Nat.lt_of_le_of_lt (su.b i hi) (by decide +kernel), ?_⟩, fun ls lr li lt rs' H5 b5 hlr hli g5 => ⟨rfl, ?_⟩⟩
    · unfold K6.stdA
      rw [if_pos hj]; rfl
    · rw [K6.std_right]; rfl
    have hx3 := hx
    have hlr3 : H3 lr = none := s34.free hlr
    have hli3 : H3 li = none := s34.free hli
    have s5 : Same H3 H5 := But.same s34 hx b5
    have G0 := K6.std_good u
    have F0 := K6.std_feas u
    have g6 : GR C H5 x dx ls lr li lt rs' (K6.nn u) u.m (fun i => if u.b i < 0 then -1 else 1) (K6.T u.m (K6.stdA u) (fun i => K6.nn u + i)) (fun i => K6.nn u + i) (K6.low u.m (K6.stdA u) (fun i => K6.nn u + i)) [] := by
      rw [K6.start_low (K6.std_unit u)]
      exact g5.rows_eq fun i hi j hj => (K6.start_T (K6.std_unit u) hi j).symm
    -- the costs of the helping columns
    refine ⟨_, rfl, x, dx, _, rfl, g6.ins, rfl, small (by show 1 ≤ 1000; decide), fun q1 hq1 => ?_⟩
    have c1 := Same.new (o := .lst [V.int 0]) hq1
    refine ⟨_, rfl, q1, _, _, rfl, rfl, upd_same, by omega, by omega, small (by show 1 * _ ≤ 1000; omega), fun q2 hq2 => ?_⟩
    rw [Int.toNat_natCast, rep_zero]
    have c2 := Same.new (o := .lst (iv (K6.nn u) fun _ => 0)) hq2
    refine ⟨small (by show 1 ≤ 1000; decide), fun q3 hq3 => ?_⟩
    have c3 := Same.new (o := .lst [V.int 1]) hq3
    refine ⟨_, rfl, q3, _, _, rfl, rfl, upd_same, by omega, by omega, small (by show 1 * _ ≤ 1000; omega), fun q4 hq4 => ?_⟩
    rw [Int.toNat_natCast, rep_zero]
    have c4 := Same.new (o := .lst (iv u.m fun _ => 1)) hq4
    refine ⟨q2, q4, _, _, rfl, rfl, (c3.trans c4) _ _ upd_same, upd_same, small (by rw [iv_len, iv_len]; omega), fun q5 hq5 => ?_⟩
    rw [cost1_list]
    have c5 := Same.new (o := .lst (iv (K6.nn u + u.m) (K6.cost1 (K6.nn u) u.m))) hq5
    have c15 := c1.trans (c2.trans (c3.trans (c4.trans c5)))
    have g7 := g6.same c15
    have co := cc_one su
    have c0 : K6.cost1 (K6.nn u) u.m (K6.nn u + u.m) = 0 := by unfold K6.cost1; rw [if_neg (by omega)]
    refine ⟨x, dx, ls, lr, li, lt, q5, rs', K6.nn u, u.m, _, K6.stdA u, _, _, [], rfl, g7, upd_same, gc, co, G0, c0, fun lt8 H8 b8 g8 => ?_⟩
    have s8 : Same H3 H8 := But.same (s5.trans c15) hx3 b8
    -- the first phase
    refine ⟨_, rfl, x, dx, _, rfl, g8.ins, rfl, _, rfl, ?_⟩
    refine ⟨x, dx, ls, lr, li, lt8, rs', K6.nn u, u.m, _, K6.stdA u, _, _, rfl, g8, gc, co, G0, F0, fun k B lt9 rs9 v9 H9 b9 ch g9 hv9 => ?_⟩
    have s9 : Same H3 H9 := But3.same s8 b9 hx3 hlr3 hli3
    have E : K6.Fin u.m (K6.nn u) (K6.stdA u) (K6.cost1 (K6.nn u) u.m) B := by
      rcases hv9 with ⟨_, h⟩ | ⟨s, _, h⟩
      · exact h
      · exact (K6.no_unb1 h).elim
    obtain ⟨G, F⟩ := ch.both G0 F0
    refine ⟨_, rfl, x, C, dx, _, _, rfl, g9.ins, T.c_Grid, T.n_top, gf_top, _, rfl, lt9, _, _, _, rfl, rfl, SqL.of g9.top, iv_last _ _, rfl, _, rfl, ?_⟩
    have srb : ∀ i, (if u.b i < 0 then (-1 : Int) else 1).natAbs ≤ 1 := fun i => by split <;> decide
    by_cases cz : K6.zz u.m (K6.stdA u) (K6.cost1 (K6.nn u) u.m) B (K6.nn u + u.m) = 0
    · have e : (!decide (V.int (K6.zz u.m (K6.stdA u) (K6.cost1 (K6.nn u) u.m) B (K6.nn u + u.m)) = V.int 0)) = false := by simp [cz]
      rw [e]
      refine iteF ?_
      have D0 : K6.Driven u.m (K6.nn u) (K6.stdA u) 0 B := ⟨G, F, K6.phase1_zero F G.inN cz, fun i _ h => absurd h (Nat.not_lt_zero i)⟩
      refine ⟨_, rfl, x, dx, _, rfl, g9.ins, rfl, ?_⟩
      refine ⟨x, dx, ls, lr, li, lt9, rs9, K6.nn u, u.m, _, K6.stdA u, _, _, rfl, g9, gc, co, D0, fun B1 lt10 rs10 H10 b10 D1 g10 => ?_⟩
      have s10 : Same H3 H10 := But3.same s9 b10 hx3 hlr3 hli3
      -- the prices
      have hlp := s10 _ _ (s3 _ _ spr.lp)
      refine ⟨_, rfl, x, dx, _, rfl, g10.ins, rfl, _, rfl, small (by show 1 ≤ 1000; decide), fun q6 hq6 => ?_⟩
      have c6 := Same.new (o := .lst [V.int 0]) hq6
      refine ⟨_, rfl, q6, _, _, rfl, rfl, upd_same, by omega, by omega, small (by show 1 * _ ≤ 1000; omega), fun q7 hq7 => ?_⟩
      rw [Int.toNat_natCast, rep_zero]
      have c7 := Same.new (o := .lst (iv u.m fun _ => 0)) hq7
      refine ⟨lp, q7, _, _, rfl, rfl, (c6.trans c7) _ _ hlp, upd_same, small (by rw [iv_len, iv_len]; omega), fun q8 hq8 => ?_⟩
      rw [price_list]
      have c8 := Same.new (o := .lst (iv (K6.nn u + u.m) (K6.priceT u))) hq8
      have c68 := c6.trans (c7.trans c8)
      have g11 := g10.same c68
      have cp := cc_price su
      refine ⟨x, dx, ls, lr, li, lt10, q8, rs10, K6.nn u, u.m, _, K6.stdA u, _, _, _, rfl, g11, upd_same, gc, cp, D1.G, K6.priceT_R u, fun lt12 H12 b12 g12 => ?_⟩
      have s12 : Same H3 H12 := But.same (s10.trans c68) hx3 b12
      refine ⟨_, rfl, x, dx, _, rfl, g12.ins, rfl, _, rfl, ?_⟩
      refine ⟨x, dx, ls, lr, li, lt12, rs10, K6.nn u, u.m, _, K6.stdA u, _, _, rfl, g12, gc, cp, D1.G, D1.F, fun k2 B2 lt13 rs13 v13 H13 b13 ch2 g13 hv13 => ?_⟩
      have s13 : Same H3 H13 := But3.same s12 b13 hx3 hlr3 hli3
      have D2 := D1.chain ch2
      have L0 := K6.low_pos D2.G
      have L1 := gc.lb B2
      -- the plan
      have tk13 := (s3.trans s13).tup ht.tk
      refine ⟨_, rfl, a, _, _, _, rfl, rfl, tk13, rfl, _, rfl, x, dx, _, rfl, g13.ins, rfl, ?_⟩
      refine ⟨x, dx, ls, lr, li, lt13, rs13, K6.nn u, u.m, _, K6.stdA u, _, _, rfl, g13, gc, D2.G, fun Df xs H14 s14 hxs hR => ?_⟩
      have hF : ∀ j, FrZ (K6.low u.m (K6.stdA u) B2) 1500 (K6.xB u.m (K6.stdA u) (K6.nn u + u.m) B2 j) := fun j => xB_frz D2.G gc j
      refine ⟨u.k, u.plus, Df, xs, _, K6.low u.m (K6.stdA u) B2, K6.nn u, rfl, SqL.of hxs, hR, Nat.le_add_right _ _, by omega, L0, L1, fun j _ => (hF j).mono (by decide), fun vp H15 s15 hvp => ?_⟩
      have hPF : ∀ j, j < u.k → FrZ (K6.low u.m (K6.stdA u) B2) 1701 (K6.gath u.plus (K6.xB u.m (K6.stdA u) (K6.nn u + u.m) B2) j) := fun j hj => gath_frz (fun j _ => (hF j).mono (show 1500 ≤ 1700 by decide)) rfl hj
      have g15 := g13.same (s14.trans s15)
      have s03 := s1.trans (s2.trans s3)
      have s0 : Same H H15 := s03.trans (s13.trans (s14.trans s15))
      rcases hv13 with ⟨rfl, E2⟩ | ⟨sc, rfl, U⟩
      · refine ⟨_, rfl, rfl, _, rfl, iteF ?_⟩
        obtain ⟨h1, h2, h3⟩ := K6.best_end hup D2 E2
        have own0 : ∀ i, i < u.m → K6.priceT u (K6.nn u + i) = 0 := fun i hi => by unfold K6.priceT; rw [if_neg (by unfold K6.nn; omega)]
        refine ⟨_, rfl, _, rfl, _, rfl, x, dx, _, rfl, g15.ins, rfl, ?_⟩
        refine ⟨x, dx, ls, lr, li, lt13, rs13, K6.nn u, u.m, _, K6.stdA u, _, _, 0, rfl, g15, gc, cp, D2.G, own0, by decide, srb, fun Dw ws H16 s16 hws hW => ?_⟩
        have ht16 := ht0.tp (s0.trans s16).tp
        refine ⟨v, Dw, ws, t, _, rfl, ht16, SqL.of hws, by rw [← eu]; exact hW, by omega, fun z H17 s17 hz => ?_⟩
        refine ⟨small (by show 3 ≤ 1000; decide), fun pf hpf => ?_⟩
        have s18 := s17.trans (Same.new (o := .tup [V.str "best", vp, z]) hpf)
        refine kk pf "best" vp z _ (s0.trans (s16.trans s18)) (SqT.of upd_same) (.best (K6.planB u B2) (K6.signedY t (K6.paperB u B2)) (K6.low u.m (K6.stdA u) B2) rfl ?_ ?_ ((epl _).mp h1) ((epa _).mp h2) ?_ L0 L1 (fun j hj => hPF j (by rw [euk]; exact hj)) fun i hi => ?_)
        · rw [← euk]; exact hvp.tp (s16.trans s18).tp
        · exact hz.tp (Same.new (o := .tup [V.str "best", vp, z]) hpf).tp
        · rw [epr, ← eco]; exact h3
        · have hy : FrZ (K6.low u.m (K6.stdA u) B2) 1601 (K6.paperB u B2 i) := by
            obtain ⟨y1, y2, _⟩ := yB_frz (B := B2) (s := K6.sr u i) gc cp (own0 i (by omega)) (show (0 : Int).natAbs ≤ 1 by decide) (srb i)
            exact ⟨_, y1, y2⟩
          unfold K6.signedY
          split
          · exact hy.neg.mono (by decide)
          · exact hy.mono (by decide)
      · refine ⟨_, rfl, rfl, _, rfl, iteT ?_⟩
        have tk15 := (s14.trans s15).tup tk13
        refine ⟨_, rfl, _, rfl, a, _, _, _, rfl, rfl, tk15, rfl, _, rfl, x, dx, _, rfl, g15.ins, rfl, _, rfl, ?_⟩
        refine ⟨x, dx, ls, lr, li, lt13, rs13, K6.nn u, u.m, _, K6.stdA u, _, _, sc, rfl, g15, gc, D2.G, U.sn, fun Dw ws xw H16 s16 hws hW hWF => ?_⟩
        refine ⟨u.k, u.plus, Dw, ws, xw, K6.low u.m (K6.stdA u) B2, K6.nn u, rfl, SqL.of hws, hW, Nat.le_add_right _ _, by omega, L0, L1, fun j hj => (hWF j (Nat.lt_of_lt_of_le hj (Nat.le_add_right _ _))).mono (by decide), fun z H17 s17 hz => ?_⟩
        refine ⟨small (by show 3 ≤ 1000; decide), fun pf hpf => ?_⟩
        have s18 := s17.trans (Same.new (o := .tup [V.str "endless", vp, z]) hpf)
        refine kk pf "endless" vp z _ (s0.trans (s16.trans s18)) (SqT.of upd_same) (.endless (K6.planB u B2) rfl (by rw [← euk]; exact hvp.tp (s16.trans s18).tp) (een.mp (K6.endless_end hup D2 U)))
    · have e : (!decide (V.int (K6.zz u.m (K6.stdA u) (K6.cost1 (K6.nn u) u.m) B (K6.nn u + u.m)) = V.int 0)) = true := by simp [cz]
      rw [e]
      refine iteT ?_
      have own1 : ∀ i, i < u.m → K6.cost1 (K6.nn u) u.m (K6.nn u + i) = 1 := fun i hi => by unfold K6.cost1; rw [if_pos (by omega)]
      have s0 : Same H H9 := s1.trans (s2.trans (s3.trans s9))
      refine ⟨_, rfl, _, rfl, x, dx, _, rfl, g9.ins, rfl, ?_⟩
      refine ⟨x, dx, ls, lr, li, lt9, rs9, K6.nn u, u.m, _, K6.stdA u, _, _, 1, rfl, g9, gc, co, G, own1, by decide, srb, fun Dw ws H16 s16 hws hW => ?_⟩
      have ht16 := ht0.tp (s0.trans s16).tp
      refine ⟨v, Dw, ws, t, _, rfl, ht16, SqL.of hws, by rw [← eu]; exact hW, by omega, fun z H17 s17 hz => ?_⟩
      refine ⟨small (by show 3 ≤ 1000; decide), fun pf hpf => ?_⟩
      have s18 := s17.trans (Same.new (o := .tup [V.str "none", V.non, z]) hpf)
      exact kk pf "none" .non z _ (s0.trans (s16.trans s18)) (SqT.of upd_same) (.none rfl rfl (eno.mp (K6.none_of hup G F E cz)))
end
end G3
-- WFace
set_option Elab.async false
set_option linter.all false
set_option maxRecDepth 100000
set_option maxHeartbeats 4000000
namespace G3
open PySem PySem.Spec PyProof.Rows L2
theorem pi_orG {X : Cx} {tg e : Expr} {t1 t2 : TI} (h1 : PI X tg e t1) (h2 : PI X tg e t2) : PI X tg e (fun σ H R => t1 σ H R ∨ t2 σ H R) :=
  ⟨fun pins s σ H R I h => h.elim (h1.run pins s σ H R I) (h2.run pins s σ H R I)⟩
theorem either {K : PySem.W.Frag} {σ : L2.St} {i : Nat} {b : Addr} {xs : List V} {H : Hp} {R : It → Hp → Prop} (hσ : σ[i]? = some (some (.ref b))) (hb : SqL K H b xs ∨ SqT K H b xs)
    (hR : ∀ J G, Walk J xs.length G (YAt xs) → (∀ H', Same H H' → G H') → R J H) : iList K (tVar i) σ H R ∨ iTup K (tVar i) σ H R := by
  rcases hb with hb | hb
  · exact .inl ⟨_, hσ, b, rfl, ⟨_, hb⟩, hR _ _ walk_list fun H' s => s.seq hb⟩
  · exact .inr ⟨_, hσ, b, rfl, ⟨_, hb⟩, hR _ _ walk_tup fun H' s => s.tup hb⟩
theorem neg_rt {K : PySem.W.Frag} {H : Hp} {p : Addr} {q : Rat} (h : SqT K H p [.int (-q.num), .int (q.den : Int)]) : Rt K H (.ref p) (-q) := ⟨p, rfl, by rw [Rat.neg_num, Rat.neg_den]; exact h⟩
theorem word_best : decide (V.str ("best" : Str) = V.str ("best" : Str)) = true := by decide +kernel
theorem word_none : decide (V.str ("none" : Str) = V.str ("best" : Str)) = false := by decide +kernel
theorem word_endless : decide (V.str ("endless" : Str) = V.str ("best" : Str)) = false := by decide +kernel
section
variable {P : Program} {w : World} {K : PySem.W.Frag} {mg : Str → Option Value} {base : Heap} {C CN : Addr}
def spBestCost (K : PySem.W.Frag) : Sp := fun vs H Q _ => ∃ (v : V) (t : K6.Task), vs = [v] ∧ Tk K H v t ∧ K6.Sz 64 t ∧ ∀ u H', Same H H' → Ro K H' u (K6.bc t) → Q u H'
theorem p64 {x : Int} (h : x.natAbs ≤ 2 ^ 64) : x.natAbs < 2 ^ 4000 := Nat.lt_of_le_of_lt h (by decide +kernel)
theorem sc_best_cost_of : FnScope ["task", "told"] ["task"] (defScope s_best_cost_of) := ⟨rfl, rfl, rfl, by decide +kernel, rfl, by decide +kernel, by decide +kernel⟩
theorem ok_best_cost_of (T : Txt K mg C CN) : Has P w K mg base CX0 "best_cost_of" 6 ["task"] (spBestCost K) := by
  obtain ⟨f, fd, mf, F, bf⟩ := T.d_best_cost_of
  obtain ⟨f_dot, fd_dot, m_dot, k_dot, b_dot, G_dot⟩ := ok_dot (P := P) (w := w) (base := base) T
  obtain ⟨f_solved, fd_solved, m_solved, k_solved, b_solved, G_solved⟩ := ok_solved (P := P) (w := w) (base := base) T
  refine ⟨f, fd, mf, F.kp, bf, F.ok sc_best_cost_of (fun vs H Q E h => ?_) (fun cdv A outer s H vs Q E hr h => ?_)⟩
  · obtain ⟨v, t, rfl, _⟩ := h
    rfl
  · obtain ⟨v, t, rfl, ht0, sz, kk⟩ := h
    have hr_dot := hr.mono (j := 3) (by decide)
    have hr_solved := hr.mono (j := 5) (by decide)
    have k6 := sz.k6
    refine ⟨_, PSs.nox (pss_cons (ps_set (i := 1) sc_best_cost_of.nd rfl (Or.inl rfl) (pe_call G_solved hr_solved (by rfl) m_solved k_solved b_solved .nil pass0 (pa_cons (pv 0) pa_nil)))
    (pss_one (ps_ret (pe_ifExp (pt_cmpR op_eq (pe_ix (ixT (K := K)) (pv 1) pe_int (fun _ _ => rfl)) pe_str (nomark _)) (pe_call G_dot hr_dot (by rfl) m_dot k_dot b_dot .nil pass0 (pa_cons (pe_ix (ixT (K := K)) (pv 0) pe_int (fun _ _ => rfl)) (pa_cons (pe_ix (ixT (K := K)) (pv 1) pe_int (fun _ _ => rfl)) pa_nil))) pe_non)))), ?_⟩
    refine ⟨_, rfl, v, t, rfl, ht0, sz, fun p word z1 z2 H1 s1 hp told => ?_⟩
    obtain ⟨a, c, r, rs, rfl, ht⟩ := ht0.tp s1.tp
    refine ⟨_, rfl, p, _, _, _, rfl, rfl, hp, rfl, rfl, _, rfl, ?_⟩
    cases told with
    | none ew ez hn =>
      subst ew
      rw [word_none]
      refine iteF (kk _ _ s1 ?_)
      rw [K6.bc_no hn]; rfl
    | endless x ew ex he =>
      subst ew
      rw [word_endless]
      refine iteF (kk _ _ s1 ?_)
      rw [K6.bc_endless he]; rfl
    | best x y L ew ex ey px py e L0 L1 fx fy =>
      subst ew
      rw [word_best]
      have L4 : L.natAbs < 2 ^ 4000 := Nat.lt_trans L1 (by decide +kernel)
      refine iteT ⟨_, rfl, a, _, _, _, rfl, rfl, ht.tk, rfl, _, rfl, p, _, _, _, rfl, rfl, hp, rfl, ?_⟩
      refine ⟨.T c, z1, t.k, t.c, x, L.natAbs, rfl, ht.cs, ex, dotOk_frz L0 L4 (by omega) (fun i hi => p64 (sz.c i hi)) (fun i hi => (fx i hi).mono (by decide)), fun u H2 s2 hu => ?_⟩
      refine kk _ _ (s1.trans s2) ?_
      rw [K6.bc_some.mpr (K6.best_of px py e)]
      exact hu
def spBestCostV (K : PySem.W.Frag) : Sp := fun vs H Q _ => ∃ (v : V) (t : K6.Task), vs = [v] ∧ Tk K H v t ∧ Valid t ∧ K6.Sz 64 t ∧ ∀ u H', Same H H' → Ro K H' u (K6.bc t) → Q u H'
theorem sc_best_cost : FnScope ["task"] ["task"] (defScope s_best_cost) := ⟨rfl, rfl, rfl, by decide +kernel, rfl, by decide +kernel, by decide +kernel⟩
theorem ok_best_cost (T : Txt K mg C CN) : Has P w K mg base CX0 "best_cost" 7 ["task"] (spBestCostV K) := by
  obtain ⟨f, fd, mf, F, bf⟩ := T.d_best_cost
  obtain ⟨f_best_cost_of, fd_best_cost_of, m_best_cost_of, k_best_cost_of, b_best_cost_of, G_best_cost_of⟩ := ok_best_cost_of (P := P) (w := w) (base := base) T
  obtain ⟨f_need_task, fd_need_task, m_need_task, k_need_task, b_need_task, G_need_task⟩ := ok_need_task (P := P) (w := w) (base := base) T
  refine ⟨f, fd, mf, F.kp, bf, F.ok sc_best_cost (fun vs H Q E h => ?_) (fun cdv A outer s H vs Q E hr h => ?_)⟩
  · obtain ⟨v, t, rfl, _⟩ := h
    rfl
  · obtain ⟨v, t, rfl, ht0, va, sz, kk⟩ := h
    have hr_best_cost_of := hr.mono (j := 6) (by decide)
    have hr_need_task := hr.mono (j := 4) (by decide)
    refine ⟨_, PSs.nox (pss_cons (ps_expr (pe_call G_need_task hr_need_task (by rfl) m_need_task k_need_task b_need_task .nil pass0 (pa_cons (pv 0) pa_nil)))
    (pss_one (ps_ret (pe_call G_best_cost_of hr_best_cost_of (by rfl) m_best_cost_of k_best_cost_of b_best_cost_of .nil pass0 (pa_cons (pv 0) pa_nil))))), ?_⟩
    refine ⟨_, rfl, v, t, rfl, ht0, va, fun H1 s1 => ?_⟩
    exact ⟨_, rfl, v, t, rfl, ht0.tp s1.tp, sz, fun u H2 s2 hu => kk u H2 (s1.trans s2) hu⟩
/-- ratios of a common low number -/
def Frs (n : Nat) (x : Nat → Rat) : Prop := ∃ L : Int, 0 < L ∧ L.natAbs < 2 ^ 1500 ∧ ∀ j, j < n → FrZ L 1701 (x j)
def spSomePlan (K : PySem.W.Frag) : Sp := fun vs H Q _ => ∃ (v : V) (t : K6.Task) (val : Rat), vs = [v] ∧ Tk K H v t ∧ Valid t ∧ K6.Sz 64 t ∧ K6.Best t val ∧ ∀ u x H', Same H H' → Rts K H' u t.k x → K6.Plan t x → K6.costT t x = val → Frs t.k x → Q u H'
theorem sc_some_plan : FnScope ["task"] ["task"] (defScope s_some_plan) := ⟨rfl, rfl, rfl, by decide +kernel, rfl, by decide +kernel, by decide +kernel⟩
theorem ok_some_plan (T : Txt K mg C CN) : Has P w K mg base CX0 "some_plan" 6 ["task"] (spSomePlan K) := by
  obtain ⟨f, fd, mf, F, bf⟩ := T.d_some_plan
  obtain ⟨f_need_task, fd_need_task, m_need_task, k_need_task, b_need_task, G_need_task⟩ := ok_need_task (P := P) (w := w) (base := base) T
  obtain ⟨f_solved, fd_solved, m_solved, k_solved, b_solved, G_solved⟩ := ok_solved (P := P) (w := w) (base := base) T
  refine ⟨f, fd, mf, F.kp, bf, F.ok sc_some_plan (fun vs H Q E h => ?_) (fun cdv A outer s H vs Q E hr h => ?_)⟩
  · obtain ⟨v, t, val, rfl, _⟩ := h
    rfl
  · obtain ⟨v, t, val, rfl, ht0, va, sz, hb, kk⟩ := h
    have hr_need_task := hr.mono (j := 4) (by decide)
    have hr_solved := hr.mono (j := 5) (by decide)
    refine ⟨_, PSs.nox (pss_cons (ps_expr (pe_call G_need_task hr_need_task (by rfl) m_need_task k_need_task b_need_task .nil pass0 (pa_cons (pv 0) pa_nil)))
    (pss_one (ps_ret (pe_ix (ixT (K := K)) (pe_call G_solved hr_solved (by rfl) m_solved k_solved b_solved .nil pass0 (pa_cons (pv 0) pa_nil)) pe_int (fun _ _ => rfl))))), ?_⟩
    refine ⟨_, rfl, v, t, rfl, ht0, va, fun H1 s1 => ?_⟩
    refine ⟨_, rfl, v, t, rfl, ht0.tp s1.tp, sz, fun p word z1 z2 H2 s2 hp told => ?_⟩
    refine ⟨p, _, _, _, rfl, rfl, hp, rfl, ?_⟩
    cases told with
    | none ew ez hn => exact (hb.notNo hn).elim
    | endless x ew ex he => exact (hb.notEndless he).elim
    | best x y L ew ex ey px py e L0 L1 fx fy => exact kk _ x _ (s1.trans s2) ex px ((K6.best_of px py e).uniq hb) ⟨L, L0, L1, fx⟩
def spSomePaper (K : PySem.W.Frag) : Sp := fun vs H Q _ => ∃ (v : V) (t : K6.Task) (val : Rat), vs = [v] ∧ Tk K H v t ∧ Valid t ∧ K6.Sz 64 t ∧ K6.Best t val ∧ ∀ u y H', Same H H' → Rts K H' u t.m y → K6.Paper t y → K6.prom t y = val → Frs t.m y → Q u H'
theorem sc_some_paper : FnScope ["task", "told"] ["task"] (defScope s_some_paper) := ⟨rfl, rfl, rfl, by decide +kernel, rfl, by decide +kernel, by decide +kernel⟩
theorem ok_some_paper (T : Txt K mg C CN) : Has P w K mg base CX0 "some_paper" 6 ["task"] (spSomePaper K) := by
  obtain ⟨f, fd, mf, F, bf⟩ := T.d_some_paper
  obtain ⟨f_need_task, fd_need_task, m_need_task, k_need_task, b_need_task, G_need_task⟩ := ok_need_task (P := P) (w := w) (base := base) T
  obtain ⟨f_solved, fd_solved, m_solved, k_solved, b_solved, G_solved⟩ := ok_solved (P := P) (w := w) (base := base) T
  refine ⟨f, fd, mf, F.kp, bf, F.ok sc_some_paper (fun vs H Q E h => ?_) (fun cdv A outer s H vs Q E hr h => ?_)⟩
  · obtain ⟨v, t, val, rfl, _⟩ := h
    rfl
  · obtain ⟨v, t, val, rfl, ht0, va, sz, hb, kk⟩ := h
    have hr_need_task := hr.mono (j := 4) (by decide)
    have hr_solved := hr.mono (j := 5) (by decide)
    refine ⟨_, PSs.nox (pss_cons (ps_expr (pe_call G_need_task hr_need_task (by rfl) m_need_task k_need_task b_need_task .nil pass0 (pa_cons (pv 0) pa_nil)))
    (pss_cons (ps_set (i := 1) sc_some_paper.nd rfl (Or.inl rfl) (pe_call G_solved hr_solved (by rfl) m_solved k_solved b_solved .nil pass0 (pa_cons (pv 0) pa_nil)))
    (pss_cons (ps_if (pt_cmpR op_ne (pe_ix (ixT (K := K)) (pv 1) pe_int (fun _ _ => rfl)) pe_str (nomark _))
      (pss_one ps_never)
      pss_nil)
    (pss_one (ps_ret (pe_ix (ixT (K := K)) (pv 1) pe_int (fun _ _ => rfl))))))), ?_⟩
    refine ⟨_, rfl, v, t, rfl, ht0, va, fun H1 s1 => ?_⟩
    refine ⟨_, rfl, v, t, rfl, ht0.tp s1.tp, sz, fun p word z1 z2 H2 s2 hp told => ?_⟩
    refine ⟨_, rfl, p, _, _, _, rfl, rfl, hp, rfl, rfl, _, rfl, ?_⟩
    cases told with
    | none ew ez hn => exact (hb.notNo hn).elim
    | endless x ew ex he => exact (hb.notEndless he).elim
    | best x y L ew ex ey px py e L0 L1 fx fy =>
      subst ew
      rw [word_best]
      refine iteF ⟨_, rfl, p, _, _, _, rfl, rfl, hp, rfl, ?_⟩
      exact kk _ y _ (s1.trans s2) ey py (by rw [← e]; exact (K6.best_of px py e).uniq hb) ⟨L, L0, L1, fy⟩
def spSpan (K : PySem.W.Frag) : Sp := fun vs H Q _ => ∃ (v u : V) (t : K6.Task) (d : Nat → Int), vs = [v, u] ∧ Tk K H v t ∧ Nums K H u t.k d ∧ K6.Sz 64 t ∧ (∀ j, j < t.k → (d j).natAbs ≤ 2 ^ 64) ∧
  ∀ p z1 z2 H', Same H H' → SqT K H' p [z1, z2] → Ro K H' z1 (K6.lo t d) → Ro K H' z2 (K6.hi t d) → Q (.ref p) H'
theorem sc_span_of : FnScope ["task", "costs", "low", "high", "one"] ["task", "costs"] (defScope s_span_of) := ⟨rfl, rfl, rfl, by decide +kernel, rfl, by decide +kernel, by decide +kernel⟩
theorem ok_span_of (T : Txt K mg C CN) : Has P w K mg base CX0 "span_of" 7 ["task", "costs"] (spSpan K) := by
  obtain ⟨f, fd, mf, F, bf⟩ := T.d_span_of
  obtain ⟨f_best_cost_of, fd_best_cost_of, m_best_cost_of, k_best_cost_of, b_best_cost_of, G_best_cost_of⟩ := ok_best_cost_of (P := P) (w := w) (base := base) T
  obtain ⟨f_priced, fd_priced, m_priced, k_priced, b_priced, G_priced⟩ := ok_priced (P := P) (w := w) (base := base) T
  refine ⟨f, fd, mf, F.kp, bf, F.ok sc_span_of (fun vs H Q E h => ?_) (fun cdv A outer s H vs Q E hr h => ?_)⟩
  · obtain ⟨v, u, t, d, rfl, _⟩ := h
    rfl
  · obtain ⟨v, u, t, d, rfl, ht0, hu, sz, hd, kk⟩ := h
    have hr_best_cost_of := hr.mono (j := 6) (by decide)
    have hr_priced := hr.mono (j := 1) (by decide)
    have k6 := sz.k6
    refine ⟨_, PSs.nox (pss_cons (ps_set (i := 2) sc_span_of.nd rfl (Or.inl rfl) (pe_call G_best_cost_of hr_best_cost_of (by rfl) m_best_cost_of k_best_cost_of b_best_cost_of .nil pass0 (pa_cons (pe_call G_priced hr_priced (by rfl) m_priced k_priced b_priced .nil pass0 (pa_cons (pv 0) (pa_cons (pv 1) pa_nil))) pa_nil)))
    (pss_cons (ps_set (i := 3) sc_span_of.nd rfl (Or.inl rfl) (pe_call G_best_cost_of hr_best_cost_of (by rfl) m_best_cost_of k_best_cost_of b_best_cost_of .nil pass0 (pa_cons (pe_call G_priced hr_priced (by rfl) m_priced k_priced b_priced .nil pass0 (pa_cons (pv 0) (pa_cons (pe_lc (own := [("one", 4)]) (g := gName 4) rfl sc_span_of.nd (pi_orG (pi_list (pv 1)) (pi_tup (pv 1))) (blkOk_by (own := [("one", 4)]) (N := ["task", "costs", "low", "high", "one"]) (sc := defScope s_span_of) (by decide +kernel)) (fun _ _ _ _ _ => by exact (pg_name (i := 4) sc_span_of.nd rfl (Or.inl rfl))) (fun _ _ _ _ _ => by exact pts_nil) (fun _ _ _ _ _ => by exact (pe_un un_neg (pv 4)))) pa_nil))) pa_nil)))
    (pss_one (ps_ret (pe_tup (pa_cons (pv 2) (pa_cons (pe_ifExp (pt_cmpR op_notN (pv 3) pe_non (nomark _)) (pe_tup (pa_cons (pe_un un_neg (pe_ix (ixT (K := K)) (pv 3) pe_int (fun _ _ => rfl))) (pa_cons (pe_ix (ixT (K := K)) (pv 3) pe_int (fun _ _ => rfl)) pa_nil))) pe_non) pa_nil))))))), ?_⟩
    refine ⟨_, rfl, _, rfl, v, u, t, d, rfl, ht0, hu, fun z H1 s1 hz => ?_⟩
    refine ⟨z, _, rfl, hz, priced_size sz hd, fun lo H2 s2 hlo => ?_⟩
    have s12 := s1.trans s2
    obtain ⟨b, rfl, hb⟩ := s12.nums hu
    refine ⟨_, rfl, either rfl hb fun J G wk hG => fun D hD => lc_iv (n := t.k) (by rw [iv_len] at wk; exact wk) (fun j => - d j) (by omega) hD (fun H' s => hG H' s) ?_ ?_⟩
    · rintro j y H4 H5 Qy Qn hj s4 ⟨rfl, e⟩ kq
      obtain ⟨_, rfl⟩ := iv_of e
      exact ⟨rfl, yesI ⟨_, rfl, _, rfl, kq _ (Same.refl _)⟩⟩
    intro H3 s3 e3
    have s13 := s12.trans s3
    refine ⟨v, .ref D, t, _, rfl, ht0.tp s13.tp, ⟨D, rfl, .inl (SqL.of e3)⟩, fun z' H4 s4 hz' => ?_⟩
    refine ⟨z', _, rfl, hz', priced_size sz (fun j hj => by rw [Int.natAbs_neg]; exact hd j hj), fun hi H5 s5 hhi => ?_⟩
    have s25 := s3.trans (s4.trans s5)
    have s15 := s12.trans s25
    have hlo5 : Ro K H5 lo (K6.lo t d) := hlo.tp s25.tp
    have ehi : K6.hi t d = (K6.bc (K6.priced t fun j => - d j)).map fun q => - q := rfl
    refine ⟨_, rfl, _, rfl, rfl, _, rfl, ?_⟩
    cases hbc : K6.bc (K6.priced t fun j => - d j) with
    | none =>
      rw [hbc] at hhi ehi
      cases (show hi = .non from hhi)
      refine iteF ⟨small (by show 2 ≤ 1000; decide), fun p hp => ?_⟩
      have s6 := Same.new (o := .tup [lo, V.non]) hp
      exact kk p lo .non _ (s15.trans s6) (SqT.of upd_same) (hlo5.tp s6.tp) (by rw [ehi]; rfl)
    | some q =>
      rw [hbc] at hhi ehi
      obtain ⟨b2, rfl, hb2⟩ := hhi
      refine iteT ⟨_, rfl, b2, _, _, _, rfl, rfl, hb2, rfl, _, rfl, _, rfl, b2, _, _, _, rfl, rfl, hb2, rfl, small (by show 2 ≤ 1000; decide), fun p2 hp2 => ⟨small (by show 2 ≤ 1000; decide), fun p hp => ?_⟩⟩
      have s6 := Same.new (o := .tup [V.int (-q.num), V.int (q.den : Int)]) hp2
      have s7 := Same.new (o := .tup [lo, V.ref p2]) hp
      exact kk p lo (.ref p2) _ (s15.trans (s6.trans s7)) (SqT.of upd_same) (hlo5.tp (s6.trans s7).tp) (by rw [ehi]; exact neg_rt (s7.tup (SqT.of upd_same)))
def spFace (K : PySem.W.Frag) : Sp := fun vs H Q _ => ∃ (v : V) (t : K6.Task) (val : Rat), vs = [v] ∧ Tk K H v t ∧ S0 t ∧ K6.Best t val ∧ ∀ u H', Same H H' → Tk K H' u (K6.kept t val) → Q u H'
theorem sc_best_face : FnScope ["task", "value"] ["task"] (defScope s_best_face) := ⟨rfl, rfl, rfl, by decide +kernel, rfl, by decide +kernel, by decide +kernel⟩
theorem ok_best_face (T : Txt K mg C CN) : Has P w K mg base CX0 "best_face" 7 ["task"] (spFace K) := by
  obtain ⟨f, fd, mf, F, bf⟩ := T.d_best_face
  obtain ⟨f_best_cost_of, fd_best_cost_of, m_best_cost_of, k_best_cost_of, b_best_cost_of, G_best_cost_of⟩ := ok_best_cost_of (P := P) (w := w) (base := base) T
  obtain ⟨f_kept, fd_kept, m_kept, k_kept, b_kept, G_kept⟩ := ok_kept (P := P) (w := w) (base := base) T
  refine ⟨f, fd, mf, F.kp, bf, F.ok sc_best_face (fun vs H Q E h => ?_) (fun cdv A outer s H vs Q E hr h => ?_)⟩
  · obtain ⟨v, t, val, rfl, _⟩ := h
    rfl
  · obtain ⟨v, t, val, rfl, ht0, sz, hb, kk⟩ := h
    have hr_best_cost_of := hr.mono (j := 6) (by decide)
    have hr_kept := hr.mono (j := 1) (by decide)
    have k5 := sz.k5
    have m5 := sz.m5
    refine ⟨_, PSs.nox (pss_cons (ps_set (i := 1) sc_best_face.nd rfl (Or.inl rfl) (pe_call G_best_cost_of hr_best_cost_of (by rfl) m_best_cost_of k_best_cost_of b_best_cost_of .nil pass0 (pa_cons (pv 0) pa_nil)))
    (pss_cons (ps_if (pt_cmpR op_isN (pv 1) pe_non (nomark _))
      (pss_one ps_never)
      pss_nil)
    (pss_one (ps_ret (pe_call G_kept hr_kept (by rfl) m_kept k_kept b_kept .nil pass0 (pa_cons (pv 0) (pa_cons (pv 1) pa_nil))))))), ?_⟩
    refine ⟨_, rfl, v, t, rfl, ht0, Sz.up sz.sz (by decide), fun u H1 s1 hu => ?_⟩
    rw [K6.bc_some.mpr hb] at hu
    obtain ⟨b, rfl, hb2⟩ := hu
    refine ⟨_, rfl, rfl, _, rfl, iteF ?_⟩
    refine ⟨_, rfl, _, rfl, v, _, t, val, rfl, ht0.tp s1.tp, ⟨b, rfl, hb2⟩, by omega, by omega, fun j hj => Nat.lt_of_le_of_lt (sz.sz.c j hj) (by decide +kernel), Nat.lt_of_le_of_lt (best_size sz.sz hb).1 (by decide +kernel), fun z H2 s2 hz => ?_⟩
    exact kk z H2 (s1.trans s2) hz
def spPaperFace (K : PySem.W.Frag) : Sp := fun vs H Q _ => ∃ (v : V) (t : K6.Task) (val : Rat), vs = [v] ∧ Tk K H v t ∧ S0 t ∧ K6.Best t val ∧ ∀ u H', Same H H' → Tk K H' u (K6.kept (K6.other t) (-val)) → Q u H'
theorem sc_paper_face : FnScope ["task"] ["task"] (defScope s_paper_face) := ⟨rfl, rfl, rfl, by decide +kernel, rfl, by decide +kernel, by decide +kernel⟩
theorem ok_paper_face (T : Txt K mg C CN) : Has P w K mg base CX0 "paper_face" 8 ["task"] (spPaperFace K) := by
  obtain ⟨f, fd, mf, F, bf⟩ := T.d_paper_face
  obtain ⟨f_best_cost_of, fd_best_cost_of, m_best_cost_of, k_best_cost_of, b_best_cost_of, G_best_cost_of⟩ := ok_best_cost_of (P := P) (w := w) (base := base) T
  obtain ⟨f_best_face, fd_best_face, m_best_face, k_best_face, b_best_face, G_best_face⟩ := ok_best_face (P := P) (w := w) (base := base) T
  obtain ⟨f_other_of, fd_other_of, m_other_of, k_other_of, b_other_of, G_other_of⟩ := ok_other_of (P := P) (w := w) (base := base) T
  refine ⟨f, fd, mf, F.kp, bf, F.ok sc_paper_face (fun vs H Q E h => ?_) (fun cdv A outer s H vs Q E hr h => ?_)⟩
  · obtain ⟨v, t, val, rfl, _⟩ := h
    rfl
  · obtain ⟨v, t, val, rfl, ht0, sz, hb, kk⟩ := h
    have hr_best_cost_of := hr.mono (j := 6) (by decide)
    have hr_best_face := hr.mono (j := 7) (by decide)
    have hr_other_of := hr.mono (j := 3) (by decide)
    have k5 := sz.k5
    have m5 := sz.m5
    refine ⟨_, PSs.nox (pss_cons (ps_if (pt_cmpR op_isN (pe_call G_best_cost_of hr_best_cost_of (by rfl) m_best_cost_of k_best_cost_of b_best_cost_of .nil pass0 (pa_cons (pv 0) pa_nil)) pe_non (nomark _))
      (pss_one ps_never)
      pss_nil)
    (pss_one (ps_ret (pe_call G_best_face hr_best_face (by rfl) m_best_face k_best_face b_best_face .nil pass0 (pa_cons (pe_call G_other_of hr_other_of (by rfl) m_other_of k_other_of b_other_of .nil pass0 (pa_cons (pv 0) pa_nil)) pa_nil))))), ?_⟩
    refine ⟨_, rfl, v, t, rfl, ht0, Sz.up sz.sz (by decide), fun u H1 s1 hu => ?_⟩
    rw [K6.bc_some.mpr hb] at hu
    obtain ⟨b, rfl, hb2⟩ := hu
    refine ⟨rfl, _, rfl, iteF ?_⟩
    refine ⟨_, rfl, v, t, rfl, ht0.tp s1.tp, by omega, by omega, fun z H2 s2 hz => ?_⟩
    refine ⟨z, _, -val, rfl, hz, sz.other, K6.best_other hb, fun z' H3 s3 hz' => ?_⟩
    exact kk z' H3 (s1.trans (s2.trans s3)) hz'
def spNegative (K : PySem.W.Frag) : Sp := fun vs H Q _ => ∃ (v : V) (o : Option Rat), vs = [v] ∧ Ro K H v o ∧ ∀ u H', Same H H' → Ro K H' u (o.map fun q => - q) → Q u H'
theorem sc_negative : FnScope ["one"] ["one"] (defScope s_negative) := ⟨rfl, rfl, rfl, by decide +kernel, rfl, by decide +kernel, by decide +kernel⟩
theorem ok_negative (T : Txt K mg C CN) : Has P w K mg base CX0 "negative" 1 ["one"] (spNegative K) := by
  obtain ⟨f, fd, mf, F, bf⟩ := T.d_negative
  refine ⟨f, fd, mf, F.kp, bf, F.ok sc_negative (fun vs H Q E h => ?_) (fun cdv A outer s H vs Q E hr h => ?_)⟩
  · obtain ⟨v, o, rfl, _⟩ := h
    rfl
  · obtain ⟨v, o, rfl, ho, kk⟩ := h
    refine ⟨_, PSs.nox (pss_one (ps_ret (pe_ifExp (pt_cmpR op_notN (pv 0) pe_non (nomark _)) (pe_tup (pa_cons (pe_un un_neg (pe_ix (ixT (K := K)) (pv 0) pe_int (fun _ _ => rfl))) (pa_cons (pe_ix (ixT (K := K)) (pv 0) pe_int (fun _ _ => rfl)) pa_nil))) pe_non))), ?_⟩
    refine ⟨_, rfl, rfl, _, rfl, ?_⟩
    cases o with
    | none =>
      cases (show v = .non from ho)
      exact iteF (kk _ _ (Same.refl _) rfl)
    | some q =>
      obtain ⟨b2, rfl, hb2⟩ := ho
      refine iteT ⟨_, rfl, b2, _, _, _, rfl, rfl, hb2, rfl, _, rfl, _, rfl, b2, _, _, _, rfl, rfl, hb2, rfl, small (by show 2 ≤ 1000; decide), fun p2 hp2 => ?_⟩
      exact kk _ _ (Same.new hp2) (neg_rt (SqT.of upd_same))
def spBestRange (K : PySem.W.Frag) : Sp := fun vs H Q _ => ∃ (v : V) (t : K6.Task) (val : Rat) (j : Nat), vs = [v, .int (j : Nat)] ∧ Tk K H v t ∧ Valid t ∧ S0 t ∧ K6.Best t val ∧ j < t.k ∧
  ∀ p z1 z2 H', Same H H' → SqT K H' p [z1, z2] → Ro K H' z1 (K6.lo (K6.kept t val) (K6.unitC j)) → Ro K H' z2 (K6.hi (K6.kept t val) (K6.unitC j)) → Q (.ref p) H'
theorem unit_le (j i : Nat) : (K6.unitC j i).natAbs ≤ 2 ^ 64 := by
  unfold K6.unitC
  split <;> decide
theorem sc_best_range : FnScope ["task", "column"] ["task", "column"] (defScope s_best_range) := ⟨rfl, rfl, rfl, by decide +kernel, rfl, by decide +kernel, by decide +kernel⟩
theorem ok_best_range (T : Txt K mg C CN) : Has P w K mg base CX0 "best_range" 8 ["task", "column"] (spBestRange K) := by
  obtain ⟨f, fd, mf, F, bf⟩ := T.d_best_range
  obtain ⟨f_best_face, fd_best_face, m_best_face, k_best_face, b_best_face, G_best_face⟩ := ok_best_face (P := P) (w := w) (base := base) T
  obtain ⟨f_need_column, fd_need_column, m_need_column, k_need_column, b_need_column, G_need_column⟩ := ok_need_column (P := P) (w := w) (base := base) T
  obtain ⟨f_need_task, fd_need_task, m_need_task, k_need_task, b_need_task, G_need_task⟩ := ok_need_task (P := P) (w := w) (base := base) T
  obtain ⟨f_span_of, fd_span_of, m_span_of, k_span_of, b_span_of, G_span_of⟩ := ok_span_of (P := P) (w := w) (base := base) T
  obtain ⟨f_unit, fd_unit, m_unit, k_unit, b_unit, G_unit⟩ := ok_unit (P := P) (w := w) (base := base) T
  refine ⟨f, fd, mf, F.kp, bf, F.ok sc_best_range (fun vs H Q E h => ?_) (fun cdv A outer s H vs Q E hr h => ?_)⟩
  · obtain ⟨v, t, val, j, rfl, _⟩ := h
    rfl
  · obtain ⟨v, t, val, j, rfl, ht0, va, sz, hb, hj, kk⟩ := h
    have hr_best_face := hr.mono (j := 7) (by decide)
    have hr_need_column := hr.mono (j := 2) (by decide)
    have hr_need_task := hr.mono (j := 4) (by decide)
    have hr_span_of := hr.mono (j := 7) (by decide)
    have hr_unit := hr.mono (j := 1) (by decide)
    have k5 := sz.k5
    refine ⟨_, PSs.nox (pss_cons (ps_expr (pe_call G_need_task hr_need_task (by rfl) m_need_task k_need_task b_need_task .nil pass0 (pa_cons (pv 0) pa_nil)))
    (pss_cons (ps_expr (pe_call G_need_column hr_need_column (by rfl) m_need_column k_need_column b_need_column .nil pass0 (pa_cons (pv 0) (pa_cons (pv 1) pa_nil))))
    (pss_one (ps_ret (pe_call G_span_of hr_span_of (by rfl) m_span_of k_span_of b_span_of .nil pass0 (pa_cons (pe_call G_best_face hr_best_face (by rfl) m_best_face k_best_face b_best_face .nil pass0 (pa_cons (pv 0) pa_nil)) (pa_cons (pe_call G_unit hr_unit (by rfl) m_unit k_unit b_unit .nil pass0 (pa_cons (pe_callB call_len_str (by rfl) T.b_len PySem.boot_len (pa_cons (pe_ix (ixT (K := K)) (pv 0) pe_int (fun _ _ => rfl)) pa_nil)) (pa_cons (pv 1) (pa_cons pe_int pa_nil)))) pa_nil))))))), ?_⟩
    refine ⟨_, rfl, v, t, rfl, ht0, va, fun H1 s1 => ?_⟩
    refine ⟨_, rfl, _, rfl, v, t, j, rfl, ht0.tp s1.tp, by omega, hj, ?_⟩
    refine ⟨_, rfl, v, t, val, rfl, ht0.tp s1.tp, sz, hb, fun u H2 s2 hu => ?_⟩
    have s12 := s1.trans s2
    obtain ⟨a, c, r, rs, rfl, ht⟩ := ht0.tp s12.tp
    refine ⟨_, rfl, a, _, _, _, rfl, rfl, ht.tk, rfl, _, rfl, by rw [kinds_len]; exact small (by omega), _, rfl, t.k, j, by rw [kinds_len]; rfl, by omega, fun z H3 s3 hz => ?_⟩
    refine ⟨u, z, _, _, rfl, hu.tp s3.tp, hz, kept_size sz hb, fun i _ => unit_le j i, fun p z1 z2 H4 s4 hp h1 h2 => ?_⟩
    exact kk p z1 z2 H4 (s12.trans (s3.trans s4)) hp h1 h2
def spPaperRange (K : PySem.W.Frag) : Sp := fun vs H Q _ => ∃ (v : V) (t : K6.Task) (val : Rat) (i : Nat), vs = [v, .int (i : Nat)] ∧ Tk K H v t ∧ Valid t ∧ S0 t ∧ K6.Best t val ∧ i < t.m ∧
  ∀ p z1 z2 H', Same H H' → SqT K H' p [z1, z2] →
    Ro K H' z1 (if t.sg i = .le then (K6.hi (K6.kept (K6.other t) (-val)) (K6.unitC i)).map fun q => - q else K6.lo (K6.kept (K6.other t) (-val)) (K6.unitC i)) →
    Ro K H' z2 (if t.sg i = .le then (K6.lo (K6.kept (K6.other t) (-val)) (K6.unitC i)).map fun q => - q else K6.hi (K6.kept (K6.other t) (-val)) (K6.unitC i)) → Q (.ref p) H'
theorem sc_paper_range : FnScope ["task", "index", "low", "high"] ["task", "index"] (defScope s_paper_range) := ⟨rfl, rfl, rfl, by decide +kernel, rfl, by decide +kernel, by decide +kernel⟩
theorem ok_paper_range (T : Txt K mg C CN) : Has P w K mg base CX0 "paper_range" 9 ["task", "index"] (spPaperRange K) := by
  obtain ⟨f, fd, mf, F, bf⟩ := T.d_paper_range
  obtain ⟨f_need_index, fd_need_index, m_need_index, k_need_index, b_need_index, G_need_index⟩ := ok_need_index (P := P) (w := w) (base := base) T
  obtain ⟨f_need_task, fd_need_task, m_need_task, k_need_task, b_need_task, G_need_task⟩ := ok_need_task (P := P) (w := w) (base := base) T
  obtain ⟨f_negative, fd_negative, m_negative, k_negative, b_negative, G_negative⟩ := ok_negative (P := P) (w := w) (base := base) T
  obtain ⟨f_paper_face, fd_paper_face, m_paper_face, k_paper_face, b_paper_face, G_paper_face⟩ := ok_paper_face (P := P) (w := w) (base := base) T
  obtain ⟨f_span_of, fd_span_of, m_span_of, k_span_of, b_span_of, G_span_of⟩ := ok_span_of (P := P) (w := w) (base := base) T
  obtain ⟨f_unit, fd_unit, m_unit, k_unit, b_unit, G_unit⟩ := ok_unit (P := P) (w := w) (base := base) T
  refine ⟨f, fd, mf, F.kp, bf, F.ok sc_paper_range (fun vs H Q E h => ?_) (fun cdv A outer s H vs Q E hr h => ?_)⟩
  · obtain ⟨v, t, val, i, rfl, _⟩ := h
    rfl
  · obtain ⟨v, t, val, i, rfl, ht0, va, sz, hb, hi, kk⟩ := h
    have hr_need_index := hr.mono (j := 2) (by decide)
    have hr_need_task := hr.mono (j := 4) (by decide)
    have hr_negative := hr.mono (j := 1) (by decide)
    have hr_paper_face := hr.mono (j := 8) (by decide)
    have hr_span_of := hr.mono (j := 7) (by decide)
    have hr_unit := hr.mono (j := 1) (by decide)
    have m5 := sz.m5
    refine ⟨_, PSs.nox (pss_cons (ps_expr (pe_call G_need_task hr_need_task (by rfl) m_need_task k_need_task b_need_task .nil pass0 (pa_cons (pv 0) pa_nil)))
    (pss_cons (ps_expr (pe_call G_need_index hr_need_index (by rfl) m_need_index k_need_index b_need_index .nil pass0 (pa_cons (pv 0) (pa_cons (pv 1) pa_nil))))
    (pss_cons (ps_asg (pe_call G_span_of hr_span_of (by rfl) m_span_of k_span_of b_span_of .nil pass0 (pa_cons (pe_call G_paper_face hr_paper_face (by rfl) m_paper_face k_paper_face b_paper_face .nil pass0 (pa_cons (pv 0) pa_nil)) (pa_cons (pe_call G_unit hr_unit (by rfl) m_unit k_unit b_unit .nil pass0 (pa_cons (pe_callB (lenS (K := K)) (by rfl) T.b_len PySem.boot_len (pa_cons (pe_ix (ixT (K := K)) (pv 0) pe_int (fun _ _ => rfl)) pa_nil)) (pa_cons (pv 1) (pa_cons pe_int pa_nil)))) pa_nil))) (pg_tup (by rfl) (pgs_cons (pg_name (i := 2) sc_paper_range.nd rfl (Or.inl rfl)) (pgs_cons (pg_name (i := 3) sc_paper_range.nd rfl (Or.inl rfl)) pgs_nil))))
    (pss_cons (ps_if (pt_cmpR op_eq (pe_ix (ixT (K := K)) (pe_ix (ixT (K := K)) (pe_ix (ixT (K := K)) (pv 0) pe_int (fun _ _ => rfl)) (pv 1) (fun _ _ => rfl)) pe_int (fun _ _ => rfl)) pe_str (nomark _))
      (pss_one (ps_ret (pe_tup (pa_cons (pe_call G_negative hr_negative (by rfl) m_negative k_negative b_negative .nil pass0 (pa_cons (pv 3) pa_nil)) (pa_cons (pe_call G_negative hr_negative (by rfl) m_negative k_negative b_negative .nil pass0 (pa_cons (pv 2) pa_nil)) pa_nil)))))
      pss_nil)
    (pss_one (ps_ret (pe_tup (pa_cons (pv 2) (pa_cons (pv 3) pa_nil))))))))), ?_⟩
    refine ⟨_, rfl, v, t, rfl, ht0, va, fun H1 s1 => ?_⟩
    refine ⟨_, rfl, _, rfl, v, t, i, rfl, ht0.tp s1.tp, hi, ?_⟩
    refine ⟨_, rfl, v, t, val, rfl, ht0.tp s1.tp, sz, hb, fun u H2 s2 hu => ?_⟩
    have s12 := s1.trans s2
    obtain ⟨a, c, r, rs, rfl, ht⟩ := ht0.tp s12.tp
    have hrl : rs.length = t.m := ht.rows.1
    refine ⟨_, rfl, a, _, _, _, rfl, rfl, ht.tk, rfl, r, _, rfl, .inr ht.rw, _, rfl, t.m, i, by rw [hrl]; rfl, by omega, fun z H3 s3 hz => ?_⟩
    refine ⟨u, z, _, _, rfl, hu.tp s3.tp, hz, kept_size sz.other (K6.best_other hb), fun j _ => unit_le i j, fun p z1 z2 H4 s4 hp h1 h2 => ?_⟩
    have s34 := s3.trans s4
    refine tup2 hp ?_
    obtain ⟨y, ey, b, d, rfl, hbb, hdd⟩ := (ht.rows.tp s34.tp).2 i hi
    refine ⟨_, rfl, a, _, _, _, rfl, rfl, s34.tup ht.tk, rfl, _, rfl, r, _, _, _, rfl, rfl, s34.tup ht.rw, atI_nat ey, b, _, _, _, rfl, rfl, hbb, rfl, rfl, _, rfl, ?_⟩
    rw [sg_le]
    by_cases e : t.sg i = .le
    · rw [decide_eq_true e]
      rw [if_pos e, if_pos e] at kk
      refine iteT ⟨_, rfl, z2, _, rfl, h2, fun w2 H5 s5 hw2 => ?_⟩
      refine ⟨_, rfl, z1, _, rfl, h1.tp s5.tp, fun w1 H6 s6 hw1 => ?_⟩
      refine ⟨small (by show 2 ≤ 1000; decide), fun pf hpf => ?_⟩
      have s7 := Same.new (o := .tup [w2, w1]) hpf
      exact kk pf w2 w1 _ (s12.trans (s34.trans (s5.trans (s6.trans s7)))) (SqT.of upd_same) (hw2.tp (s6.trans s7).tp) (hw1.tp s7.tp)
    · rw [decide_eq_false e]
      rw [if_neg e, if_neg e] at kk
      refine iteF ⟨_, rfl, _, rfl, small (by show 2 ≤ 1000; decide), fun pf hpf => ?_⟩
      have s7 := Same.new (o := .tup [z1, z2]) hpf
      exact kk pf z1 z2 _ (s12.trans (s34.trans s7)) (SqT.of upd_same) (h1.tp s7.tp) (h2.tp s7.tp)
end
end G3
-- WPart
set_option Elab.async false
set_option linter.all false
set_option maxRecDepth 100000
set_option maxHeartbeats 4000000
namespace G3
open PySem PySem.Spec PyProof.Rows L2
/-- the places that pass a test -/
def fl (n : Nat) (f : Nat → Bool) : List V := ((List.range n).filter f).map fun (i : Nat) => V.int (i : Int)
theorem fl_yes {i : Nat} {f : Nat → Bool} (h : f i = true) : fl (i + 1) f = fl i f ++ [.int (i : Int)] := by
  unfold fl
  rw [List.range_succ, List.filter_append, List.map_append, List.filter_cons, if_pos h]; rfl
theorem fl_no {i : Nat} {f : Nat → Bool} (h : f i = false) : fl (i + 1) f = fl i f := by
  unfold fl
  rw [List.range_succ, List.filter_append, List.map_append, List.filter_cons, if_neg (by rw [h]; decide)]
  show _ ++ [] = _
  rw [List.append_nil]
theorem fl_len (i : Nat) (f : Nat → Bool) : (fl i f).length ≤ i := by
  unfold fl
  rw [List.length_map]
  have h := List.length_filter_le f (List.range i)
  rwa [List.length_range] at h
section
variable {P : Program} {w : World} {K : PySem.W.Frag} {mg : Str → Option Value} {base : Heap} {C CN : Addr}
def spPart (K : PySem.W.Frag) (n : K6.Task → Nat) (f : K6.Task → Rat → Nat → Bool) : Sp := fun vs H Q _ => ∃ (v : V) (t : K6.Task) (val : Rat), vs = [v] ∧ Tk K H v t ∧ Valid t ∧ S0 t ∧ K6.Best t val ∧
  ∀ p H', Same H H' → SqT K H' p (fl (n t) (f t val)) → Q (.ref p) H'
theorem sc_paid_rows : FnScope ["task", "face", "found", "at", "row", "high"] ["task"] (defScope s_paid_rows) := ⟨rfl, rfl, rfl, by decide +kernel, rfl, by decide +kernel, by decide +kernel⟩
theorem ok_paid_rows (T : Txt K mg C CN) : Has P w K mg base CX0 "paid_rows" 9 ["task"] (spPart K (fun t => t.m) K6.paidP) := by
  obtain ⟨f, fd, mf, F, bf⟩ := T.d_paid_rows
  obtain ⟨f_need_task, fd_need_task, m_need_task, k_need_task, b_need_task, G_need_task⟩ := ok_need_task (P := P) (w := w) (base := base) T
  obtain ⟨f_paper_face, fd_paper_face, m_paper_face, k_paper_face, b_paper_face, G_paper_face⟩ := ok_paper_face (P := P) (w := w) (base := base) T
  obtain ⟨f_span_of, fd_span_of, m_span_of, k_span_of, b_span_of, G_span_of⟩ := ok_span_of (P := P) (w := w) (base := base) T
  obtain ⟨f_unit, fd_unit, m_unit, k_unit, b_unit, G_unit⟩ := ok_unit (P := P) (w := w) (base := base) T
  refine ⟨f, fd, mf, F.kp, bf, F.ok sc_paid_rows (fun vs H Q E h => ?_) (fun cdv A outer s H vs Q E hr h => ?_)⟩
  · obtain ⟨v, t, val, rfl, _⟩ := h
    rfl
  · obtain ⟨v, t, val, rfl, ht0, va, sz, hb, kk⟩ := h
    have hr_need_task := hr.mono (j := 4) (by decide)
    have hr_paper_face := hr.mono (j := 8) (by decide)
    have hr_span_of := hr.mono (j := 7) (by decide)
    have hr_unit := hr.mono (j := 1) (by decide)
    have m5 := sz.m5
    refine ⟨_, PSs.nox (pss_cons (ps_expr (pe_call G_need_task hr_need_task (by rfl) m_need_task k_need_task b_need_task .nil pass0 (pa_cons (pv 0) pa_nil)))
    (pss_cons (ps_set (i := 1) sc_paid_rows.nd rfl (Or.inl rfl) (pe_call G_paper_face hr_paper_face (by rfl) m_paper_face k_paper_face b_paper_face .nil pass0 (pa_cons (pv 0) pa_nil)))
    (pss_cons (ps_set (i := 2) sc_paid_rows.nd rfl (Or.inl rfl) (pe_lst pa_nil))
    (pss_cons (ps_for PassesOwn.never rfl (pi_enumG rfl T.b_enumerate (pa_cons (pe_ix (ixT (K := K)) (pv 0) pe_int (fun _ _ => rfl)) pa_nil)) (pg_tup (by rfl) (pgs_cons (pg_name (i := 3) sc_paid_rows.nd rfl (Or.inl rfl)) (pgs_cons (pg_name (i := 4) sc_paid_rows.nd rfl (Or.inl rfl)) pgs_nil)))
      (pss_cons (ps_set (i := 5) sc_paid_rows.nd rfl (Or.inl rfl) (pe_ix (ixT (K := K)) (pe_call G_span_of hr_span_of (by rfl) m_span_of k_span_of b_span_of .nil pass0 (pa_cons (pv 1) (pa_cons (pe_call G_unit hr_unit (by rfl) m_unit k_unit b_unit .nil pass0 (pa_cons (pe_callB (lenS (K := K)) (by rfl) T.b_len PySem.boot_len (pa_cons (pe_ix (ixT (K := K)) (pv 0) pe_int (fun _ _ => rfl)) pa_nil)) (pa_cons (pv 3) (pa_cons pe_int pa_nil)))) pa_nil))) pe_int (fun _ _ => rfl)))
      (pss_one (ps_if (PW.pt (pw_and (pt_cmpR op_ne (pe_ix (ixT (K := K)) (pv 4) pe_int (fun _ _ => rfl)) pe_str (nomark _)) (pw_and1 (PW.pt (pw_or (pt_cmpR op_isN (pv 5) pe_non (nomark _)) (pw_or1 (pt_cmpR op_gt (pe_ix (ixT (K := K)) (pv 5) pe_int (fun _ _ => rfl)) pe_int (nomark _))))))))
        (pss_one (ps_expr (pe_bm PySem.F.plainAttrs_list PySem.F.slot_list_append PySem.F.type_list_append mt_append (pv 2) (pa_cons (pv 3) pa_nil))))
        pss_nil))))
    (pss_one (ps_ret (pe_callTy call_tuple_of (by rfl) T.b_tuple (by decide +kernel) (pa_cons (pv 2) pa_nil)))))))), ?_⟩
    refine ⟨_, rfl, v, t, rfl, ht0, va, fun H1 s1 => ?_⟩
    refine ⟨_, rfl, v, t, val, rfl, ht0.tp s1.tp, sz, hb, fun u H2 s2 hu => ?_⟩
    have s12 := s1.trans s2
    obtain ⟨a, c, r, rs, rfl, ht⟩ := ht0.tp s12.tp
    have hrl : rs.length = t.m := ht.rows.1
    refine ⟨Nat.zero_le _, fun D hD => ?_⟩
    have s3 := Same.new (o := .lst []) hD
    refine ⟨_, rfl, a, _, _, _, rfl, rfl, s3.tup ht.tk, rfl, .T r, rs, rfl, s3.tup ht.rw, for_it (walk_enumG (p := .T r) (n := t.m) hrl)
      (fun i σ H' => (∃ u1 u2 u3 : Option V, σ = [some (.ref a), some u, some (.ref D), u1, u2, u3]) ∧ Same H2 H' ∧ H' D = some (.lst (fl i (K6.paidP t val))))
      ⟨⟨_, _, _, rfl⟩, s3, upd_same⟩ (fun i σ H' _ q => q.2.1.tup ht.rw) ?_ ?_⟩
    · rintro i y σ H4 H5 hi ⟨⟨u1, u2, u3, rfl⟩, b4, hacc⟩ ⟨Tq, x1, x2, rfl, hT, rfl, e1, e2⟩
      cases e1
      obtain ⟨y', ey, b, d, rfl, hbb, hdd⟩ := ht.rows.2 i hi
      cases e2.symm.trans ey
      have s5 := Same.new (o := .tup [V.int (i : Nat), .ref b]) hT
      have b5 := b4.trans s5
      refine tup2 (SqT.of upd_same) ⟨_, rfl, _, rfl, a, _, _, _, rfl, rfl, b5.tup ht.tk, rfl, r, _, rfl, .inr (b5.tup ht.rw), _, rfl, t.m, i, by rw [hrl]; rfl, by omega, fun z H6 s6 hz => ?_⟩
      have b6 := b5.trans s6
      refine ⟨u, z, _, _, rfl, hu.tp b6.tp, hz, kept_size sz.other (K6.best_other hb), fun j _ => unit_le i j, fun p z1 z2 H7 s7 hp h1 h2 => ?_⟩
      have s57 := s5.trans (s6.trans s7)
      have b7 := b4.trans s57
      have hacc7 := s57 _ _ hacc
      refine ⟨p, _, _, _, rfl, rfl, hp, rfl, ?_⟩
      have ef : K6.paidP t val i = (decide (t.sg i ≠ .eq) && (match K6.hi (K6.kept (K6.other t) (-val)) (K6.unitC i) with | none => true | some q => decide (0 < q.num))) := rfl
      have yes : K6.paidP t val i = true → _ := fun h => show _ from fl_yes h
      have no : K6.paidP t val i = false → _ := fun h => show _ from fl_no h
      refine ⟨_, rfl, b, _, _, _, rfl, rfl, b7.tup hbb, rfl, rfl, _, rfl, ?_⟩
      rw [sg_eq]
      by_cases ce : t.sg i = .eq
      · have : K6.paidP t val i = false := by rw [ef, ce]; rfl
        rw [decide_eq_true ce]
        refine iteF ⟨⟨_, _, _, rfl⟩, b7, ?_⟩
        rw [no this]; exact hacc7
      · rw [decide_eq_false ce]
        have e0 : decide (t.sg i ≠ .eq) = true := decide_eq_true ce
        rw [e0, Bool.true_and] at ef
        refine iteT ⟨_, rfl, rfl, _, rfl, ?_⟩
        cases ho : K6.hi (K6.kept (K6.other t) (-val)) (K6.unitC i) with
        | none =>
          rw [ho] at h2 ef
          cases (show z2 = .non from h2)
          refine iteT ?_
          refine ⟨_, rfl, .inl ⟨rfl, _, SqL.of hacc7⟩, _, rfl, D, _, _, rfl, rfl, hacc7, small1000 (by have := fl_len i (K6.paidP t val); omega), ⟨_, _, _, rfl⟩, b7.mut hD, ?_⟩
          rw [yes ef]; exact upd_same
        | some q =>
          rw [ho] at h2 ef
          obtain ⟨b2, rfl, hb2⟩ := h2
          refine iteF ⟨_, rfl, b2, _, _, _, rfl, rfl, hb2, rfl, _, _, rfl, rfl, _, rfl, ?_⟩
          by_cases cq : 0 < q.num
          · rw [show decide (q.num > 0) = true from decide_eq_true cq]
            have ef2 : K6.paidP t val i = true := by rw [ef]; exact decide_eq_true cq
            refine iteT ?_
            refine ⟨_, rfl, .inl ⟨rfl, _, SqL.of hacc7⟩, _, rfl, D, _, _, rfl, rfl, hacc7, small1000 (by have := fl_len i (K6.paidP t val); omega), ⟨_, _, _, rfl⟩, b7.mut hD, ?_⟩
            rw [yes ef2]; exact upd_same
          · rw [show decide (q.num > 0) = false from decide_eq_false cq]
            have ef2 : K6.paidP t val i = false := by rw [ef]; exact decide_eq_false cq
            refine iteF ⟨⟨_, _, _, rfl⟩, b7, ?_⟩
            rw [no ef2]; exact hacc7
    · rintro σ H4 ⟨⟨u1, u2, u3, rfl⟩, b4, hacc⟩
      refine ⟨_, rfl, D, _, rfl, .inl ⟨SqL.of hacc, fun p hp => ?_⟩⟩
      exact kk p _ (s12.trans (b4.trans (Same.new hp))) (SqT.of upd_same)
end
end G3
-- WPart2
set_option Elab.async false
set_option linter.all false
set_option maxRecDepth 100000
set_option maxHeartbeats 4000000
namespace G3
open PySem PySem.Spec PyProof.Rows L2
theorem ro_num {K : PySem.W.Frag} {H : Hp} {o : Option Rat} {z : V} (h : Ro K H z o) : (o = none ∧ z = .non) ∨ ∃ q b, o = some q ∧ z = .ref b ∧ SqT K H b [.int q.num, .int (q.den : Int)] := by
  cases o with
  | none => exact .inl ⟨rfl, h⟩
  | some q => obtain ⟨b, rfl, hb⟩ := h; exact .inr ⟨q, b, rfl, rfl, hb⟩
section
variable {P : Program} {w : World} {K : PySem.W.Frag} {mg : Str → Option Value} {base : Heap} {C CN : Addr}
/-- the least and greatest over a face are small -/
theorem bc_den {e : Nat} {t : K6.Task} (h : K6.Sz 64 t) {q : Rat} (hq : K6.bc t = some q) : (q.den : Int).natAbs < 2 ^ 1500 := by
  obtain ⟨B, G, e⟩ := K6.best_val (K6.plain_plain t) (K6.best_plain.mpr (K6.bc_some.mp hq))
  have L0 := K6.low_pos G
  have hl := K6.low_le h.plain B
  have hz := K6.zz_le h.plain (K6.price_le h.plain) B (K6.nn (K6.plain t) + (K6.plain t).m)
  have F : FrZ (K6.low (K6.plain t).m (K6.stdA (K6.plain t)) B) 1600 q := ⟨_, e, by
    rw [Int.natAbs_neg]
    exact Nat.lt_of_le_of_lt hz (by decide +kernel)⟩
  exact Nat.lt_of_le_of_lt (Nat.le_trans (Nat.le_of_dvd (by omega) (F.den L0)) hl) (by decide +kernel)
theorem hi_den {t : K6.Task} {d : Nat → Int} (h : K6.Sz 64 t) (hd : ∀ j, j < t.k → (d j).natAbs ≤ 2 ^ 64) {q : Rat} (hq : K6.hi t d = some q) : (q.den : Int).natAbs < 2 ^ 1500 := by
  unfold K6.hi at hq
  cases e : K6.bc (K6.priced t fun j => - d j) with
  | none => rw [e] at hq; cases hq
  | some q' =>
    rw [e] at hq
    cases hq
    rw [Rat.neg_den]
    exact bc_den (e := 0) (priced_size h fun j hj => by rw [Int.natAbs_neg]; exact hd j hj) e
theorem sc_loose_rows : FnScope ["task", "found", "face", "told", "at", "row", "high"] ["task"] (defScope s_loose_rows) := ⟨rfl, rfl, rfl, by decide +kernel, rfl, by decide +kernel, by decide +kernel⟩
theorem ok_loose_rows (T : Txt K mg C CN) : Has P w K mg base CX0 "loose_rows" 8 ["task"] (spPart K (fun t => t.m) K6.looseP) := by
  obtain ⟨f, fd, mf, F, bf⟩ := T.d_loose_rows
  obtain ⟨f_best_face, fd_best_face, m_best_face, k_best_face, b_best_face, G_best_face⟩ := ok_best_face (P := P) (w := w) (base := base) T
  obtain ⟨f_need_task, fd_need_task, m_need_task, k_need_task, b_need_task, G_need_task⟩ := ok_need_task (P := P) (w := w) (base := base) T
  obtain ⟨f_plain_of, fd_plain_of, m_plain_of, k_plain_of, b_plain_of, G_plain_of⟩ := ok_plain_of (P := P) (w := w) (base := base) T
  obtain ⟨f_span_of, fd_span_of, m_span_of, k_span_of, b_span_of, G_span_of⟩ := ok_span_of (P := P) (w := w) (base := base) T
  refine ⟨f, fd, mf, F.kp, bf, F.ok sc_loose_rows (fun vs H Q E h => ?_) (fun cdv A outer s H vs Q E hr h => ?_)⟩
  · obtain ⟨v, t, val, rfl, _⟩ := h
    rfl
  · obtain ⟨v, t, val, rfl, ht0, va, sz, hb, kk⟩ := h
    have hr_best_face := hr.mono (j := 7) (by decide)
    have hr_need_task := hr.mono (j := 4) (by decide)
    have hr_plain_of := hr.mono (j := 2) (by decide)
    have hr_span_of := hr.mono (j := 7) (by decide)
    have m5 := sz.m5
    have k5 := sz.k5
    refine ⟨_, PSs.nox (pss_cons (ps_expr (pe_call G_need_task hr_need_task (by rfl) m_need_task k_need_task b_need_task .nil pass0 (pa_cons (pv 0) pa_nil)))
    (pss_cons (ps_par (i := 2) (j := 3) rfl sc_loose_rows.nd rfl rfl (by decide) rfl rfl (pa_cons (pe_call G_best_face hr_best_face (by rfl) m_best_face k_best_face b_best_face .nil pass0 (pa_cons (pv 0) pa_nil)) (pa_cons (pe_call G_plain_of hr_plain_of (by rfl) m_plain_of k_plain_of b_plain_of .nil pass0 (pa_cons (pv 0) pa_nil)) pa_nil)) (by rfl))
    (pss_cons (ps_set (i := 1) sc_loose_rows.nd rfl (Or.inl rfl) (pe_lst pa_nil))
    (pss_cons (ps_for PassesOwn.never rfl (pi_enumG rfl T.b_enumerate (pa_cons (pe_ix (ixT (K := K)) (pv 3) pe_int (fun _ _ => rfl)) pa_nil)) (pg_tup (by rfl) (pgs_cons (pg_name (i := 4) sc_loose_rows.nd rfl (Or.inl rfl)) (pgs_cons (pg_name (i := 5) sc_loose_rows.nd rfl (Or.inl rfl)) pgs_nil)))
      (pss_cons (ps_set (i := 6) sc_loose_rows.nd rfl (Or.inl rfl) (pe_ix (ixT (K := K)) (pe_call G_span_of hr_span_of (by rfl) m_span_of k_span_of b_span_of .nil pass0 (pa_cons (pv 2) (pa_cons (pe_ix (ixT (K := K)) (pv 5) pe_int (fun _ _ => rfl)) pa_nil))) pe_int (fun _ _ => rfl)))
      (pss_one (ps_if (PW.pt (pw_and (pt_cmpR op_eq (pe_ix (ixT (K := K)) (pv 5) pe_int (fun _ _ => rfl)) pe_str (nomark _)) (pw_and1 (PW.pt (pw_or (pt_cmpR op_isN (pv 6) pe_non (nomark _)) (pw_or1 (pt_cmpR op_gt (pe_ix (ixT (K := K)) (pv 6) pe_int (fun _ _ => rfl)) (pe_op op_mulW (pe_ix (ixT (K := K)) (pv 5) pe_int (fun _ _ => rfl)) (pe_ix (ixT (K := K)) (pv 6) pe_int (fun _ _ => rfl))) (nomark _))))))))
        (pss_one (ps_expr (pe_bm PySem.F.plainAttrs_list PySem.F.slot_list_append PySem.F.type_list_append mt_append (pv 1) (pa_cons (pv 4) pa_nil))))
        pss_nil))))
    (pss_one (ps_ret (pe_callTy call_tuple_of (by rfl) T.b_tuple (by decide +kernel) (pa_cons (pv 1) pa_nil)))))))), ?_⟩
    refine ⟨_, rfl, v, t, rfl, ht0, va, fun H1 s1 => ?_⟩
    refine ⟨_, rfl, v, t, val, rfl, ht0.tp s1.tp, sz, hb, fun u H2 s2 hu => ?_⟩
    refine ⟨_, rfl, v, t, rfl, ht0.tp (s1.trans s2).tp, by omega, by omega, fun v2 H3 s3 hv2 => ⟨_, _, rfl, ?_⟩⟩
    have s13 := s1.trans (s2.trans s3)
    have su := sz.sz.plain
    have um : (K6.plain t).m = t.m := rfl
    have uk : (K6.plain t).k = t.k := rfl
    obtain ⟨a, c, r, rs, rfl, ht⟩ := hv2
    have hrl : rs.length = t.m := ht.rows.1
    refine ⟨Nat.zero_le _, fun D hD => ?_⟩
    have s4 := Same.new (o := .lst []) hD
    refine ⟨_, rfl, a, _, _, _, rfl, rfl, s4.tup ht.tk, rfl, .T r, rs, rfl, s4.tup ht.rw, for_it (walk_enumG (p := .T r) (n := t.m) hrl)
      (fun i σ H' => (∃ u1 u2 u3 : Option V, σ = [some v, some (.ref D), some u, some (.ref a), u1, u2, u3]) ∧ Same H3 H' ∧ H' D = some (.lst (fl i (K6.looseP t val))))
      ⟨⟨_, _, _, rfl⟩, s4, upd_same⟩ (fun i σ H' _ q => q.2.1.tup ht.rw) ?_ ?_⟩
    · rintro i y σ H4 H5 hi ⟨⟨u1, u2, u3, rfl⟩, b4, hacc⟩ ⟨Tq, x1, x2, rfl, hT, rfl, e1, e2⟩
      cases e1
      obtain ⟨y', ey, b, d, rfl, hbb, hdd⟩ := ht.rows.2 i hi
      cases e2.symm.trans ey
      have s5 := Same.new (o := .tup [V.int (i : Nat), .ref b]) hT
      have b5 := b4.trans s5
      refine tup2 (SqT.of upd_same) ⟨_, rfl, _, rfl, b, _, _, _, rfl, rfl, b5.tup hbb, rfl, ?_⟩
      have szf := kept_size sz hb
      have hdl : ∀ j, j < (K6.kept t val).k → ((K6.plain t).A i j).natAbs ≤ 2 ^ 64 := fun j hj => Nat.le_trans (su.A i j hi hj) (by decide)
      refine ⟨u, .ref d, _, (K6.plain t).A i, rfl, hu.tp (s3.trans b5).tp, ⟨d, rfl, .inr (b5.tup hdd)⟩, szf, hdl, fun p z1 z2 H7 s7 hp h1 h2 => ?_⟩
      have s57 := s5.trans s7
      have b7 := b4.trans s57
      have hacc7 := s57 _ _ hacc
      refine ⟨p, _, _, _, rfl, rfl, hp, rfl, ?_⟩
      have ef : K6.looseP t val i = (decide ((K6.plain t).sg i = .ge) && (match K6.hi (K6.kept t val) ((K6.plain t).A i) with | none => true | some q => decide ((K6.plain t).b i * (q.den : Int) < q.num))) := rfl
      have bb := b7.tup hbb
      refine ⟨_, rfl, b, _, _, _, rfl, rfl, bb, rfl, rfl, _, rfl, ?_⟩
      rw [sg_ge]
      by_cases ce : (K6.plain t).sg i = .ge
      · rw [decide_eq_true ce]
        rw [decide_eq_true ce, Bool.true_and] at ef
        refine iteT ⟨_, rfl, rfl, _, rfl, ?_⟩
        rcases ro_num h2 with ⟨ho, rfl⟩ | ⟨q, b2, ho, rfl, hb2⟩
        · rw [ho] at ef
          refine iteT ?_
          refine ⟨_, rfl, .inl ⟨rfl, _, SqL.of hacc7⟩, _, rfl, D, _, _, rfl, rfl, hacc7, small1000 (by have := fl_len i (K6.looseP t val); omega), ⟨_, _, _, rfl⟩, b7.mut hD, ?_⟩
          rw [fl_yes ef]; exact upd_same
        · rw [ho] at ef
          refine iteF ⟨_, rfl, b2, _, _, _, rfl, rfl, hb2, rfl, _, rfl, b, _, _, _, rfl, rfl, bb, rfl, _, rfl, b2, _, _, _, rfl, rfl, hb2, rfl, _, _, rfl, rfl, wide_mul (a := 1500) (b := 1500) (Nat.lt_of_le_of_lt (su.b i hi) (by decide +kernel)) (hi_den szf hdl ho) (by decide) (by decide) (by decide), _, _, rfl, rfl, _, rfl, ?_⟩
          by_cases cq : (K6.plain t).b i * (q.den : Int) < q.num
          · rw [show decide (q.num > (K6.plain t).b i * (q.den : Int)) = true from decide_eq_true cq]
            have ef2 : K6.looseP t val i = true := by rw [ef]; exact decide_eq_true cq
            refine iteT ?_
            refine ⟨_, rfl, .inl ⟨rfl, _, SqL.of hacc7⟩, _, rfl, D, _, _, rfl, rfl, hacc7, small1000 (by have := fl_len i (K6.looseP t val); omega), ⟨_, _, _, rfl⟩, b7.mut hD, ?_⟩
            rw [fl_yes ef2]; exact upd_same
          · rw [show decide (q.num > (K6.plain t).b i * (q.den : Int)) = false from decide_eq_false cq]
            have ef2 : K6.looseP t val i = false := by rw [ef]; exact decide_eq_false cq
            refine iteF ⟨⟨_, _, _, rfl⟩, b7, ?_⟩
            rw [fl_no ef2]; exact hacc7
      · have ef2 : K6.looseP t val i = false := by rw [ef, decide_eq_false ce]; rfl
        rw [decide_eq_false ce]
        refine iteF ⟨⟨_, _, _, rfl⟩, b7, ?_⟩
        rw [fl_no ef2]; exact hacc7
    · rintro σ H4 ⟨⟨u1, u2, u3, rfl⟩, b4, hacc⟩
      refine ⟨_, rfl, D, _, rfl, .inl ⟨SqL.of hacc, fun p hp => ?_⟩⟩
      exact kk p _ (s13.trans (b4.trans (Same.new hp))) (SqT.of upd_same)
theorem sc_dear_columns : FnScope ["task", "found", "face", "told", "at", "kind", "low", "row"] ["task"] (defScope s_dear_columns) := ⟨rfl, rfl, rfl, by decide +kernel, rfl, by decide +kernel, by decide +kernel⟩
theorem ok_dear_columns (T : Txt K mg C CN) : Has P w K mg base CX0 "dear_columns" 9 ["task"] (spPart K (fun t => t.k) K6.dearP) := by
  obtain ⟨f, fd, mf, F, bf⟩ := T.d_dear_columns
  obtain ⟨f_need_task, fd_need_task, m_need_task, k_need_task, b_need_task, G_need_task⟩ := ok_need_task (P := P) (w := w) (base := base) T
  obtain ⟨f_paper_face, fd_paper_face, m_paper_face, k_paper_face, b_paper_face, G_paper_face⟩ := ok_paper_face (P := P) (w := w) (base := base) T
  obtain ⟨f_plain_of, fd_plain_of, m_plain_of, k_plain_of, b_plain_of, G_plain_of⟩ := ok_plain_of (P := P) (w := w) (base := base) T
  obtain ⟨f_span_of, fd_span_of, m_span_of, k_span_of, b_span_of, G_span_of⟩ := ok_span_of (P := P) (w := w) (base := base) T
  refine ⟨f, fd, mf, F.kp, bf, F.ok sc_dear_columns (fun vs H Q E h => ?_) (fun cdv A outer s H vs Q E hr h => ?_)⟩
  · obtain ⟨v, t, val, rfl, _⟩ := h
    rfl
  · obtain ⟨v, t, val, rfl, ht0, va, sz, hb, kk⟩ := h
    have hr_need_task := hr.mono (j := 4) (by decide)
    have hr_paper_face := hr.mono (j := 8) (by decide)
    have hr_plain_of := hr.mono (j := 2) (by decide)
    have hr_span_of := hr.mono (j := 7) (by decide)
    have m5 := sz.m5
    have k5 := sz.k5
    refine ⟨_, PSs.nox (pss_cons (ps_expr (pe_call G_need_task hr_need_task (by rfl) m_need_task k_need_task b_need_task .nil pass0 (pa_cons (pv 0) pa_nil)))
    (pss_cons (ps_par (i := 2) (j := 3) rfl sc_dear_columns.nd rfl rfl (by decide) rfl rfl (pa_cons (pe_call G_paper_face hr_paper_face (by rfl) m_paper_face k_paper_face b_paper_face .nil pass0 (pa_cons (pv 0) pa_nil)) (pa_cons (pe_call G_plain_of hr_plain_of (by rfl) m_plain_of k_plain_of b_plain_of .nil pass0 (pa_cons (pv 0) pa_nil)) pa_nil)) (by rfl))
    (pss_cons (ps_set (i := 1) sc_dear_columns.nd rfl (Or.inl rfl) (pe_lst pa_nil))
    (pss_cons (ps_for PassesOwn.never rfl (pi_enumG rfl T.b_enumerate (pa_cons (pe_ix (ixT (K := K)) (pv 0) pe_int (fun _ _ => rfl)) pa_nil)) (pg_tup (by rfl) (pgs_cons (pg_name (i := 4) sc_dear_columns.nd rfl (Or.inr rfl)) (pgs_cons (pg_name (i := 5) sc_dear_columns.nd rfl (Or.inl rfl)) pgs_nil)))
      (pss_cons (ps_set (i := 6) sc_dear_columns.nd rfl (Or.inl rfl) (pe_ix (ixT (K := K)) (pe_call G_span_of hr_span_of (by rfl) m_span_of k_span_of b_span_of .nil pass0 (pa_cons (pv 2) (pa_cons (pe_lc (own := [("row", 7)]) (g := gName 7) rfl sc_dear_columns.nd (pi_tup (pe_ix (ixT (K := K)) (pv 3) pe_int (fun _ _ => rfl))) (blkOk_by (own := [("row", 7)]) (N := ["task", "found", "face", "told", "at", "kind", "low", "row"]) (sc := defScope s_dear_columns) (by decide +kernel)) (fun _ _ _ _ _ => by exact (pg_name (i := 7) sc_dear_columns.nd rfl (Or.inl rfl))) (fun _ _ _ _ _ => by exact pts_nil) (fun _ _ _ _ _ => by exact (pe_ix (ixT (K := K)) (pe_ix (ixT (K := K)) (pv 7) pe_int (fun _ _ => rfl)) (pv 4) (fun _ _ => rfl)))) pa_nil))) pe_int (fun _ _ => rfl)))
      (pss_one (ps_if (PW.pt (pw_and (pt_cmpR op_eq (pv 5) pe_str (nomark _)) (pw_and1 (PW.pt (pw_or (pt_cmpR op_isN (pv 6) pe_non (nomark _)) (pw_or1 (pt_cmpR op_lt (pe_ix (ixT (K := K)) (pv 6) pe_int (fun _ _ => rfl)) (pe_op op_mulW (pe_ix (ixT (K := K)) (pe_ix (ixT (K := K)) (pv 0) pe_int (fun _ _ => rfl)) (pv 4) (fun _ _ => rfl)) (pe_ix (ixT (K := K)) (pv 6) pe_int (fun _ _ => rfl))) (nomark _))))))))
        (pss_one (ps_expr (pe_bm PySem.F.plainAttrs_list PySem.F.slot_list_append PySem.F.type_list_append mt_append (pv 1) (pa_cons (pv 4) pa_nil))))
        pss_nil))))
    (pss_one (ps_ret (pe_callTy call_tuple_of (by rfl) T.b_tuple (by decide +kernel) (pa_cons (pv 1) pa_nil)))))))), ?_⟩
    refine ⟨_, rfl, v, t, rfl, ht0, va, fun H1 s1 => ?_⟩
    refine ⟨_, rfl, v, t, val, rfl, ht0.tp s1.tp, sz, hb, fun u H2 s2 hu => ?_⟩
    refine ⟨_, rfl, v, t, rfl, ht0.tp (s1.trans s2).tp, by omega, by omega, fun v2 H3 s3 hv2 => ⟨_, _, rfl, ?_⟩⟩
    have s13 := s1.trans (s2.trans s3)
    have su := sz.sz.plain
    obtain ⟨a, c, r, rs, rfl, ht⟩ := hv2
    obtain ⟨a0, c0, r0, rs0, rfl, ht1⟩ := ht0.tp s13.tp
    have hrl : rs.length = t.m := ht.rows.1
    refine ⟨Nat.zero_le _, fun D hD => ?_⟩
    have s4 := Same.new (o := .lst []) hD
    refine ⟨_, rfl, a0, _, _, _, rfl, rfl, s4.tup ht1.tk, rfl, .S (kindsS t.k t.plus), signs (kindsS t.k t.plus), rfl, rfl, for_it (walk_enumG (p := .S (kindsS t.k t.plus)) (n := t.k) (signs_len _ _))
      (fun i σ H' => (∃ u1 u2 u3 : Option V, σ = [some (.ref a0), some (.ref D), some u, some (.ref a), u1, u2, u3, none]) ∧ Same H3 H' ∧ H' D = some (.lst (fl i (K6.dearP t val))))
      ⟨⟨_, _, _, rfl⟩, s4, upd_same⟩ (fun i σ H' _ q => rfl) ?_ ?_⟩
    · rintro i y σ H4 H5 hi ⟨⟨u1, u2, u3, rfl⟩, b4, hacc⟩ ⟨Tq, x1, x2, rfl, hT, rfl, e1, e2⟩
      cases e1
      have e2' : (signs (kindsS t.k t.plus))[i]? = some x2 := e2
      rw [signs_get hi] at e2'; cases e2'
      have s5 := Same.new (o := .tup [V.int (i : Nat), V.str ⟨#[if t.plus i = true then 43 else 42]⟩]) hT
      have b5 := b4.trans s5
      have hrw := b5.tup ht.rw
      refine tup2 (SqT.of upd_same) ⟨_, rfl, _, rfl, a, _, _, _, rfl, rfl, b5.tup ht.tk, rfl, r, rfl, ⟨_, hrw⟩, fun D2 hD2 => lc_iv (walk_tup (xs := rs)) (fun i' => (K6.plain t).A i' i) (by omega) hD2 (fun H' s => s.tup hrw) ?_ ?_⟩
      · rintro j y H8 H9 Qy Qn hj s8 ⟨rfl, e⟩ kq
        obtain ⟨y', ey, b, d, rfl, hbb, hdd⟩ := ht.rows.2 j (by show j < t.m; omega)
        cases e.symm.trans ey
        have b8 := b5.trans s8
        exact ⟨rfl, yesI ⟨_, rfl, b, _, _, _, rfl, rfl, b8.tup hbb, rfl, _, rfl, d, _, _, _, rfl, rfl, b8.tup hdd, atI_nat (iv_get hi), kq _ (Same.refl _)⟩⟩
      intro H6 s6 e6
      rw [hrl] at e6
      have szf := kept_size sz.other (K6.best_other hb)
      have hdl : ∀ j, j < (K6.kept (K6.other t) (-val)).k → ((K6.plain t).A j i).natAbs ≤ 2 ^ 64 := fun j hj => Nat.le_trans (su.A j i hj hi) (by decide)
      refine ⟨u, .ref D2, _, (fun i' => (K6.plain t).A i' i), rfl, hu.tp (s3.trans (b5.trans s6)).tp, ⟨D2, rfl, .inl (SqL.of e6)⟩, szf, hdl, fun p z1 z2 H7 s7 hp h1 h2 => ?_⟩
      have s57 := s5.trans (s6.trans s7)
      have b7 := b4.trans s57
      have hacc7 := s57 _ _ hacc
      refine ⟨p, _, _, _, rfl, rfl, hp, rfl, ?_⟩
      have ef : K6.dearP t val i = (t.plus i && (match K6.lo (K6.kept (K6.other t) (-val)) (fun i' => (K6.plain t).A i' i) with | none => true | some q => decide (q.num < t.c i * (q.den : Int)))) := rfl
      have bt := b7.tup ht1.tk
      have bc := b7.tup ht1.cs
      refine ⟨_, rfl, rfl, _, rfl, ?_⟩
      rw [ki_plus]
      cases ce : t.plus i
      · have ef2 : K6.dearP t val i = false := by rw [ef, ce]; rfl
        refine iteF ⟨⟨_, _, _, rfl⟩, b7, ?_⟩
        rw [fl_no ef2]; exact hacc7
      · rw [ce, Bool.true_and] at ef
        refine iteT ⟨_, rfl, rfl, _, rfl, ?_⟩
        rcases ro_num h1 with ⟨ho, rfl⟩ | ⟨q, b2, ho, rfl, hb2⟩
        · rw [ho] at ef
          refine iteT ?_
          refine ⟨_, rfl, .inl ⟨rfl, _, SqL.of hacc7⟩, _, rfl, D, _, _, rfl, rfl, hacc7, small1000 (by have := fl_len i (K6.dearP t val); omega), ⟨_, _, _, rfl⟩, b7.mut hD, ?_⟩
          rw [fl_yes ef]; exact upd_same
        · rw [ho] at ef
          refine iteF ⟨_, rfl, b2, _, _, _, rfl, rfl, hb2, rfl, _, rfl, a0, _, _, _, rfl, rfl, bt, rfl, _, rfl, c0, _, _, _, rfl, rfl, bc, atI_nat (iv_get hi), _, rfl, b2, _, _, _, rfl, rfl, hb2, rfl, _, _, rfl, rfl, wide_mul (a := 1500) (b := 1500) (Nat.lt_of_le_of_lt (sz.sz.c i hi) (by decide +kernel)) (bc_den (e := 0) (priced_size szf hdl) ho) (by decide) (by decide) (by decide), _, _, rfl, rfl, _, rfl, ?_⟩
          by_cases cq : q.num < t.c i * (q.den : Int)
          · rw [decide_eq_true cq]
            have ef2 : K6.dearP t val i = true := by rw [ef]; exact decide_eq_true cq
            refine iteT ?_
            refine ⟨_, rfl, .inl ⟨rfl, _, SqL.of hacc7⟩, _, rfl, D, _, _, rfl, rfl, hacc7, small1000 (by have := fl_len i (K6.dearP t val); omega), ⟨_, _, _, rfl⟩, b7.mut hD, ?_⟩
            rw [fl_yes ef2]; exact upd_same
          · rw [decide_eq_false cq]
            have ef2 : K6.dearP t val i = false := by rw [ef]; exact decide_eq_false cq
            refine iteF ⟨⟨_, _, _, rfl⟩, b7, ?_⟩
            rw [fl_no ef2]; exact hacc7
    · rintro σ H4 ⟨⟨u1, u2, u3, rfl⟩, b4, hacc⟩
      refine ⟨_, rfl, D, _, rfl, .inl ⟨SqL.of hacc, fun p hp => ?_⟩⟩
      exact kk p _ (s13.trans (b4.trans (Same.new hp))) (SqT.of upd_same)
end
end G3
-- WRaise
set_option Elab.async false
set_option linter.all false
set_option maxRecDepth 100000
set_option maxHeartbeats 4000000
namespace G3X
open PySem PySem.Spec PyProof.Rows L2 G3
/-- X(), an own exception class without own __init__ -/
theorem pmk_own0 {X : Cx} {C : Addr} {bmB : List Value} {B newId initId : String} {x : Str} {p pos : Pos} (F : ExcBaseFacts B newId initId bmB) (q : PySem.W.excIn X.K C bmB newId = true) (gC : X.mg x = some (.ref C))
    (kC : PySem.W.keepIn X.K (.ref C) = true) (r : Raises X (.ref C)) (hg : Gl X x) (hdb : (x == ("__debug__" : Str)) = false := by decide) :
    PMk X (.Call (.Name x p) [] [] pos) (fun σ H Q => Q (.ref C) none H) := by
  intro pins s σ H Q I h
  refine wpAny_Call_Name_kw (ld_glob I hg gC ?_ hdb)
  refine PySem.W.callWith_K0 (first := []) I.kIn kC ?_
  show wpAny _ _ (call (.ref C) []) _ _ _
  obtain ⟨bm, N, nm, qn, bs, hdct, sn, sub, ab, col, dd, k0, k1, k2, k3, k5, mN, hC, hN, hni, T⟩ := exc_obj I.kIn q
  refine wpAny_call_exc_subT F T hC hN hni (fun h' e hm => ?_) (by show 0 ≤ sizeLine; omega)
  exact mk_of I hm r h (I.hok.gone hm.new)
section
variable {P : Program} {w : World} {K : PySem.W.Frag} {mg : Str → Option Value} {base : Heap} {C CN : Addr}
def spFaceX (K : PySem.W.Frag) (CN : Addr) : Sp := fun vs H Q E => ∃ (v : V) (t : K6.Task), vs = [v] ∧ Tk K H v t ∧ S0 t ∧ (∀ val, K6.Best t val → ∀ u H', Same H H' → Tk K H' u (K6.kept t val) → Q u H') ∧ (K6.bc t = none → ∀ H', Same H H' → E (.ref CN) none H')
theorem sc_best_face : FnScope ["task", "value"] ["task"] (defScope s_best_face) := ⟨rfl, rfl, rfl, by decide +kernel, rfl, by decide +kernel, by decide +kernel⟩
theorem ok_best_face (T : Txt K mg C CN) : Has P w K mg base (L2.CX P w) "best_face" 7 ["task"] (spFaceX K CN) := by
  obtain ⟨f, fd, mf, F, bf⟩ := T.d_best_face
  obtain ⟨f_best_cost_of, fd_best_cost_of, m_best_cost_of, k_best_cost_of, b_best_cost_of, G_best_cost_of⟩ := ok_best_cost_of (P := P) (w := w) (base := base) T
  obtain ⟨f_kept, fd_kept, m_kept, k_kept, b_kept, G_kept⟩ := ok_kept (P := P) (w := w) (base := base) T
  refine ⟨f, fd, mf, F.kp, bf, F.ok sc_best_face (fun vs H Q E h => ?_) (fun cdv A outer s H vs Q E hr h => ?_)⟩
  · obtain ⟨v, t, rfl, _⟩ := h
    rfl
  · obtain ⟨v, t, rfl, ht0, sz, kk, ke⟩ := h
    have hr_best_cost_of := hr.mono (j := 6) (by decide)
    have hr_kept := hr.mono (j := 1) (by decide)
    have k5 := sz.k5
    have m5 := sz.m5
    refine ⟨_, (pss_cons (ps_set (i := 1) sc_best_face.nd rfl (Or.inl rfl) (pe_call G_best_cost_of hr_best_cost_of (by rfl) m_best_cost_of k_best_cost_of b_best_cost_of .nil pass0 (pa_cons (pv 0) pa_nil)))
    (pss_cons (ps_if (pt_cmpR op_isN (pv 1) pe_non (nomark _))
      (pss_one (ps_raise rfl (takes_of rfl rfl rfl rfl) (pmk_own0 PySem.F.excBase_ValueError T.x_NotBest T.g_NotBest T.k_NotBest (raises_own T.s_NotBest T.t_NotBest) rfl)))
      pss_nil)
    (pss_one (ps_ret (pe_call G_kept hr_kept (by rfl) m_kept k_kept b_kept .nil pass0 (pa_cons (pv 0) (pa_cons (pv 1) pa_nil))))))), ?_⟩
    refine ⟨_, rfl, v, t, rfl, ht0, Sz.up sz.sz (by decide), fun u H1 s1 hu => ?_⟩
    cases hbc : K6.bc t with
    | none =>
      rw [hbc] at hu
      cases (show u = .non from hu)
      exact ⟨_, rfl, rfl, _, rfl, iteT (ke hbc H1 s1)⟩
    | some val =>
      have hb := K6.bc_some.mp hbc
      rw [hbc] at hu
      obtain ⟨b, rfl, hb2⟩ := hu
      refine ⟨_, rfl, rfl, _, rfl, iteF ?_⟩
      refine ⟨_, rfl, _, rfl, v, _, t, val, rfl, ht0.tp s1.tp, ⟨b, rfl, hb2⟩, by omega, by omega, fun j hj => Nat.lt_of_le_of_lt (sz.sz.c j hj) (by decide +kernel), Nat.lt_of_le_of_lt (best_size sz.sz hb).1 (by decide +kernel), fun z H2 s2 hz => ?_⟩
      exact kk val hb z H2 (s1.trans s2) hz
def spLive (K : PySem.W.Frag) (CN : Addr) : Sp := fun vs H Q E => ∃ (v : V) (t : K6.Task), vs = [v] ∧ Tk K H v t ∧ Valid t ∧ S0 t ∧
  (∀ val, K6.Best t val → ∀ p H', Same H H' → SqT K H' p (fl t.k (K6.liveP t val)) → Q (.ref p) H') ∧ (K6.bc t = none → ∀ H', Same H H' → E (.ref CN) none H')
theorem sc_live_columns : FnScope ["task", "face", "found", "at", "kind", "high"] ["task"] (defScope s_live_columns) := ⟨rfl, rfl, rfl, by decide +kernel, rfl, by decide +kernel, by decide +kernel⟩
theorem ok_live_columns (T : Txt K mg C CN) : Has P w K mg base (L2.CX P w) "live_columns" 8 ["task"] (spLive K CN) := by
  obtain ⟨f, fd, mf, F, bf⟩ := T.d_live_columns
  obtain ⟨f_best_face, fd_best_face, m_best_face, k_best_face, b_best_face, G_best_face⟩ := ok_best_face (P := P) (w := w) (base := base) T
  obtain ⟨f_need_task, fd_need_task, m_need_task, k_need_task, b_need_task, G_need_task⟩ := ok_need_task (P := P) (w := w) (base := base) T
  obtain ⟨f_span_of, fd_span_of, m_span_of, k_span_of, b_span_of, G_span_of⟩ := ok_span_of (P := P) (w := w) (base := base) T
  obtain ⟨f_unit, fd_unit, m_unit, k_unit, b_unit, G_unit⟩ := ok_unit (P := P) (w := w) (base := base) T
  refine ⟨f, fd, mf, F.kp, bf, F.ok sc_live_columns (fun vs H Q E h => ?_) (fun cdv A outer s H vs Q E hr h => ?_)⟩
  · obtain ⟨v, t, rfl, _⟩ := h
    rfl
  · obtain ⟨v, t, rfl, ht0, va, sz, kk, ke⟩ := h
    have hr_best_face := hr.mono (j := 7) (by decide)
    have hr_need_task := hr.mono (j := 4) (by decide)
    have hr_span_of := hr.mono (j := 7) (by decide)
    have hr_unit := hr.mono (j := 1) (by decide)
    have m5 := sz.m5
    have k5 := sz.k5
    refine ⟨_, (pss_cons (ps_expr (pe_call G_need_task hr_need_task (by rfl) m_need_task k_need_task b_need_task .nil pass0 (pa_cons (pv 0) pa_nil)))
    (pss_cons (ps_set (i := 1) sc_live_columns.nd rfl (Or.inl rfl) (pe_call G_best_face hr_best_face (by rfl) m_best_face k_best_face b_best_face .nil (passes_call (takes_of rfl rfl rfl rfl) fun _ _ _ _ h => h) (pa_cons (pv 0) pa_nil)))
    (PSs.nox (pss_cons (ps_set (i := 2) sc_live_columns.nd rfl (Or.inl rfl) (pe_lst pa_nil))
    (pss_cons (ps_for PassesOwn.never rfl (pi_enumG rfl T.b_enumerate (pa_cons (pe_ix (ixT (K := K)) (pv 0) pe_int (fun _ _ => rfl)) pa_nil)) (pg_tup (by rfl) (pgs_cons (pg_name (i := 3) sc_live_columns.nd rfl (Or.inl rfl)) (pgs_cons (pg_name (i := 4) sc_live_columns.nd rfl (Or.inl rfl)) pgs_nil)))
      (pss_cons (ps_set (i := 5) sc_live_columns.nd rfl (Or.inl rfl) (pe_ix (ixT (K := K)) (pe_call G_span_of hr_span_of (by rfl) m_span_of k_span_of b_span_of .nil pass0 (pa_cons (pv 1) (pa_cons (pe_call G_unit hr_unit (by rfl) m_unit k_unit b_unit .nil pass0 (pa_cons (pe_callB call_len_str (by rfl) T.b_len PySem.boot_len (pa_cons (pe_ix (ixT (K := K)) (pv 0) pe_int (fun _ _ => rfl)) pa_nil)) (pa_cons (pv 3) (pa_cons pe_int pa_nil)))) pa_nil))) pe_int (fun _ _ => rfl)))
      (pss_one (ps_if (PW.pt (pw_and (pt_cmpR op_eq (pv 4) pe_str (nomark _)) (pw_and1 (PW.pt (pw_or (pt_cmpR op_isN (pv 5) pe_non (nomark _)) (pw_or1 (pt_cmpR op_gt (pe_ix (ixT (K := K)) (pv 5) pe_int (fun _ _ => rfl)) pe_int (nomark _))))))))
        (pss_one (ps_expr (pe_bm PySem.F.plainAttrs_list PySem.F.slot_list_append PySem.F.type_list_append mt_append (pv 2) (pa_cons (pv 3) pa_nil))))
        pss_nil))))
    (pss_one (ps_ret (pe_callTy call_tuple_of (by rfl) T.b_tuple (by decide +kernel) (pa_cons (pv 2) pa_nil))))))))), ?_⟩
    refine ⟨_, rfl, v, t, rfl, ht0, va, fun H1 s1 => ?_⟩
    refine ⟨_, rfl, v, t, rfl, ht0.tp s1.tp, sz, fun val hb u H2 s2 hu => ?_, fun hbc H2 s2 => ke hbc H2 (s1.trans s2)⟩
    have s12 := s1.trans s2
    obtain ⟨a, c, r, rs, rfl, ht⟩ := ht0.tp s12.tp
    refine ⟨Nat.zero_le _, fun D hD => ?_⟩
    have s3 := Same.new (o := .lst []) hD
    refine ⟨_, rfl, a, _, _, _, rfl, rfl, s3.tup ht.tk, rfl, .S (kindsS t.k t.plus), G3.signs (kindsS t.k t.plus), rfl, rfl, for_it (walk_enumG (p := .S (kindsS t.k t.plus)) (n := t.k) (signs_len _ _))
      (fun i σ H' => (∃ u1 u2 u3 : Option V, σ = [some (.ref a), some u, some (.ref D), u1, u2, u3]) ∧ Same H2 H' ∧ H' D = some (.lst (fl i (K6.liveP t val))))
      ⟨⟨_, _, _, rfl⟩, s3, upd_same⟩ (fun i σ H' _ q => rfl) ?_ ?_⟩
    · rintro i y σ H4 H5 hi ⟨⟨u1, u2, u3, rfl⟩, b4, hacc⟩ ⟨Tq, x1, x2, rfl, hT, rfl, e1, e2⟩
      cases e1
      have e2' : (G3.signs (kindsS t.k t.plus))[i]? = some x2 := e2
      rw [signs_get hi] at e2'; cases e2'
      have s5 := Same.new (o := .tup [V.int (i : Nat), V.str ⟨#[if t.plus i = true then 43 else 42]⟩]) hT
      have b5 := b4.trans s5
      refine tup2 (SqT.of upd_same) ⟨_, rfl, _, rfl, a, _, _, _, rfl, rfl, b5.tup ht.tk, rfl, _, rfl, by rw [kinds_len]; exact small (by omega), _, rfl, t.k, i, by rw [kinds_len]; rfl, by omega, fun z H6 s6 hz => ?_⟩
      have b6 := b5.trans s6
      refine ⟨u, z, _, _, rfl, hu.tp b6.tp, hz, kept_size sz hb, fun j _ => unit_le i j, fun p z1 z2 H7 s7 hp h1 h2 => ?_⟩
      have s57 := s5.trans (s6.trans s7)
      have b7 := b4.trans s57
      have hacc7 := s57 _ _ hacc
      refine ⟨p, _, _, _, rfl, rfl, hp, rfl, ?_⟩
      have ef : K6.liveP t val i = (t.plus i && (match K6.hi (K6.kept t val) (K6.unitC i) with | none => true | some q => decide (0 < q.num))) := rfl
      refine ⟨_, rfl, rfl, _, rfl, ?_⟩
      rw [ki_plus]
      cases ce : t.plus i
      · have ef2 : K6.liveP t val i = false := by rw [ef, ce]; rfl
        refine iteF ⟨⟨_, _, _, rfl⟩, b7, ?_⟩
        rw [fl_no ef2]; exact hacc7
      · rw [ce, Bool.true_and] at ef
        refine iteT ⟨_, rfl, rfl, _, rfl, ?_⟩
        rcases ro_num h2 with ⟨ho, rfl⟩ | ⟨q, b2, ho, rfl, hb2⟩
        · rw [ho] at ef
          refine iteT ?_
          refine ⟨_, rfl, .inl ⟨rfl, _, SqL.of hacc7⟩, _, rfl, D, _, _, rfl, rfl, hacc7, small1000 (by have := fl_len i (K6.liveP t val); omega), ⟨_, _, _, rfl⟩, b7.mut hD, ?_⟩
          rw [fl_yes ef]; exact upd_same
        · rw [ho] at ef
          refine iteF ⟨_, rfl, b2, _, _, _, rfl, rfl, hb2, rfl, _, _, rfl, rfl, _, rfl, ?_⟩
          by_cases cq : 0 < q.num
          · rw [show decide (q.num > 0) = true from decide_eq_true cq]
            have ef2 : K6.liveP t val i = true := by rw [ef]; exact decide_eq_true cq
            refine iteT ?_
            refine ⟨_, rfl, .inl ⟨rfl, _, SqL.of hacc7⟩, _, rfl, D, _, _, rfl, rfl, hacc7, small1000 (by have := fl_len i (K6.liveP t val); omega), ⟨_, _, _, rfl⟩, b7.mut hD, ?_⟩
            rw [fl_yes ef2]; exact upd_same
          · rw [show decide (q.num > 0) = false from decide_eq_false cq]
            have ef2 : K6.liveP t val i = false := by rw [ef]; exact decide_eq_false cq
            refine iteF ⟨⟨_, _, _, rfl⟩, b7, ?_⟩
            rw [fl_no ef2]; exact hacc7
    · rintro σ H4 ⟨⟨u1, u2, u3, rfl⟩, b4, hacc⟩
      refine ⟨_, rfl, D, _, rfl, .inl ⟨SqL.of hacc, fun p hp => ?_⟩⟩
      exact kk val hb p _ (s12.trans (b4.trans (Same.new hp))) (SqT.of upd_same)
end
end G3X
-- WFits
set_option Elab.async false
set_option linter.all false
set_option maxRecDepth 100000
set_option maxHeartbeats 4000000
namespace G3
open PySem PySem.Spec PyProof.Rows L2
theorem FrZ.sum {L : Int} {b e : Nat} {f : Nat → Int} {x : Nat → Rat} : ∀ {n : Nat}, (∀ i, i < n → FrZ L b (x i)) → (∀ i, i < n → (f i).natAbs ≤ 2 ^ e) → FrZ L (b + e + n) (K6.sR n (fun i => (f i : Rat) * x i))
  | 0, _, _ => ⟨0, (divInt_zero' L).symm, Nat.two_pow_pos _⟩
  | n + 1, h1, h2 => by
    obtain ⟨z, e1, hz⟩ := FrZ.sum (n := n) (fun i hi => h1 i (Nat.lt_succ_of_lt hi)) (fun i hi => h2 i (Nat.lt_succ_of_lt hi))
    obtain ⟨y, e2, hy⟩ := h1 n (Nat.lt_succ_self n)
    refine ⟨z + f n * y, ?_, ?_⟩
    · show K6.sR n _ + (f n : Rat) * x n = _
      rw [e1, e2, Rat.divInt_eq_div, Rat.divInt_eq_div, Rat.divInt_eq_div, Rat.intCast_add, Rat.intCast_mul, Rat.div_def, Rat.div_def, Rat.div_def, Rat.add_mul, Rat.mul_assoc]
    · have h3 : (f n * y).natAbs < 2 ^ (b + e) := by
        rw [Int.natAbs_mul, Nat.pow_add, Nat.mul_comm]
        exact Nat.lt_of_le_of_lt (Nat.mul_le_mul_left _ (h2 n (Nat.lt_succ_self n))) (Nat.mul_lt_mul_of_pos_right hy (Nat.two_pow_pos _))
      have h4 : 2 ^ (b + e) ≤ 2 ^ (b + e + n) := Nat.pow_le_pow_right (by decide) (Nat.le_add_right _ _)
      have h5 : 2 ^ (b + e + (n + 1)) = 2 * 2 ^ (b + e + n) := by rw [← Nat.add_assoc, Nat.pow_succ, Nat.mul_comm]
      rw [h5]; omega
theorem frz_int {L c : Int} {b e : Nat} (hL : 0 < L) (h1 : L.natAbs < 2 ^ b) (h2 : c.natAbs ≤ 2 ^ e) : FrZ L (b + e) (c : Rat) := by
  refine ⟨c * L, ?_, ?_⟩
  · have : ((L : Int) : Rat) ≠ 0 := fun q => by
      have := Rat.intCast_eq_zero_iff.mp q
      omega
    rw [Rat.divInt_eq_div, Rat.intCast_mul, Rat.div_def, Rat.mul_assoc, Rat.mul_inv_cancel _ this, Rat.mul_one]
  · rw [Int.natAbs_mul, Nat.pow_add, Nat.mul_comm]
    exact Nat.lt_of_le_of_lt (Nat.mul_le_mul_left _ h2) (Nat.mul_lt_mul_of_pos_right h1 (Nat.two_pow_pos _))
theorem rt_int {K : PySem.W.Frag} {H : Hp} {p : Addr} {c : Int} (h : SqT K H p [.int c, .int 1]) : Rt K H (.ref p) (c : Rat) := ⟨p, rfl, h⟩
section
variable {P : Program} {w : World} {K : PySem.W.Frag} {mg : Str → Option Value} {base : Heap} {C CN : Addr}
def spSpare (K : PySem.W.Frag) : Sp := fun vs H Q _ => ∃ (v u : V) (t : K6.Task) (x : Nat → Rat), vs = [v, u] ∧ Tk K H v t ∧ Rts K H u t.k x ∧ S0 t ∧ Frs t.k x ∧
  ∀ D ws H', Same H H' → SqL K H' D ws → RsL K H' ws t.m (fun i => K6.rowS (K6.plain t) x i - ((K6.plain t).b i : Rat)) → Q (.ref D) H'
theorem sc_spare : FnScope ["task", "plan", "row"] ["task", "plan"] (defScope s_spare) := ⟨rfl, rfl, rfl, by decide +kernel, rfl, by decide +kernel, by decide +kernel⟩
theorem ok_spare (T : Txt K mg C CN) : Has P w K mg base CX0 "spare" 4 ["task", "plan"] (spSpare K) := by
  obtain ⟨f, fd, mf, F, bf⟩ := T.d_spare
  obtain ⟨f_dot, fd_dot, m_dot, k_dot, b_dot, G_dot⟩ := ok_dot (P := P) (w := w) (base := base) T
  obtain ⟨f_plain_of, fd_plain_of, m_plain_of, k_plain_of, b_plain_of, G_plain_of⟩ := ok_plain_of (P := P) (w := w) (base := base) T
  refine ⟨f, fd, mf, F.kp, bf, F.ok sc_spare (fun vs H Q E h => ?_) (fun cdv A outer s H vs Q E hr h => ?_)⟩
  · obtain ⟨v, u, t, x, rfl, _⟩ := h
    rfl
  · obtain ⟨v, u, t, x, rfl, ht0, hu, sz, ⟨L, L0, L1, hF⟩, kk⟩ := h
    have hr_dot := hr.mono (j := 3) (by decide)
    have hr_plain_of := hr.mono (j := 2) (by decide)
    have m5 := sz.m5
    have k5 := sz.k5
    refine ⟨_, PSs.nox (pss_one (ps_ret (pe_lc (own := [("row", 2)]) (g := gName 2) rfl sc_spare.nd (pi_tup (pe_ix (ixT (K := K)) (pe_call G_plain_of hr_plain_of (by rfl) m_plain_of k_plain_of b_plain_of .nil pass0 (pa_cons (pv 0) pa_nil)) pe_int (fun _ _ => rfl))) (blkOk_by (own := [("row", 2)]) (N := ["task", "plan", "row"]) (sc := defScope s_spare) (by decide +kernel)) (fun _ _ _ _ _ => by exact (pg_name (i := 2) sc_spare.nd rfl (Or.inl rfl))) (fun _ _ _ _ _ => by exact pts_nil) (fun _ _ _ _ _ => by exact (pe_call G_dot hr_dot (by rfl) m_dot k_dot b_dot .nil pass0 (pa_cons (pe_tup (pa_cons pe_int (pa_cons (pe_un un_neg pe_int) pa_nil))) (pa_cons (pe_tup (pa_cons (pe_call G_dot hr_dot (by rfl) m_dot k_dot b_dot .nil pass0 (pa_cons (pe_ix (ixT (K := K)) (pv 2) pe_int (fun _ _ => rfl)) (pa_cons (pv 1) pa_nil))) (pa_cons (pe_tup (pa_cons (pe_ix (ixT (K := K)) (pv 2) pe_int (fun _ _ => rfl)) (pa_cons pe_int pa_nil))) pa_nil))) pa_nil))))))), ?_⟩
    refine ⟨_, rfl, v, t, rfl, ht0, by omega, by omega, fun v2 H1 s1 hv2 => ?_⟩
    have su := sz.sz.plain
    obtain ⟨a, c, r, rs, rfl, ht⟩ := hv2
    have hrl : rs.length = t.m := ht.rows.1
    have L4 : L.natAbs < 2 ^ 4000 := Nat.lt_trans L1 (by decide +kernel)
    refine ⟨a, _, _, _, rfl, rfl, ht.tk, rfl, r, rfl, ⟨_, ht.rw⟩, fun D hD => lc_map (walk_tup (xs := rs)) (fun i y H => Rt K H y (K6.rowS (K6.plain t) x i - ((K6.plain t).b i : Rat))) (fun _ _ _ _ s h => h.tp s) (by omega) hD (fun H' s => s.tup ht.rw) ?_ ?_⟩
    · rintro i y H2 H3 Qy Qn hi s2 ⟨rfl, e⟩ kq
      rw [hrl] at hi
      obtain ⟨y', ey, b, d, rfl, hbb, hdd⟩ := ht.rows.2 i hi
      cases e.symm.trans ey
      refine ⟨rfl, yesI ⟨_, rfl, small (by show 2 ≤ 1000; decide), fun r1 hr1 => ?_⟩⟩
      have s3 := Same.new (o := .tup [V.int 1, V.int (-1)]) hr1
      have s23 := s2.trans s3
      have s13 := s1.trans s23
      have szA : ∀ j, j < t.k → ((K6.plain t).A i j).natAbs ≤ 2 ^ 7 := fun j hj => su.A i j hi hj
      have eA : (2 : Nat) ^ 7 < 2 ^ 4000 := by decide +kernel
      refine ⟨_, rfl, b, _, _, _, rfl, rfl, s23.tup hbb, rfl, _, rfl, ?_⟩
      refine ⟨.T d, u, t.k, (K6.plain t).A i, x, L.natAbs, rfl, s23.tup hdd, hu.tp s13.tp, dotOk_frz L0 L4 (by omega) (fun j hj => Nat.lt_of_le_of_lt (szA j hj) eA) (fun j hj => (hF j hj).mono (by decide)), fun v4 H4 s4 hv4 => ?_⟩
      obtain ⟨q1, rfl, hq1⟩ := hv4
      have s24 := s23.trans s4
      refine ⟨_, rfl, b, _, _, _, rfl, rfl, s24.tup hbb, rfl, small (by show 2 ≤ 1000; decide), fun r2 hr2 => ⟨small (by show 2 ≤ 1000; decide), fun r3 hr3 => ?_⟩⟩
      have s5 := Same.new (o := .tup [V.int ((K6.plain t).b i), V.int 1]) hr2
      have s6 := Same.new (o := .tup [V.ref q1, V.ref r2]) hr3
      have s46 := s4.trans (s5.trans s6)
      have F1 : FrZ L 4000 (K6.sR t.k (fun j => ((K6.plain t).A i j : Rat) * x j)) := (FrZ.sum hF szA).mono (by omega)
      have F2 : FrZ L 4000 ((K6.plain t).b i : Rat) := (frz_int L0 L1 (su.b i hi)).mono (by decide)
      refine ⟨.T r1, _, 2, (fun i => if i = 0 then 1 else -1), (fun j => if j = 0 then K6.sR t.k (fun j => ((K6.plain t).A i j : Rat) * x j) else ((K6.plain t).b i : Rat)), _, rfl, s46.tup (SqT.of upd_same), ⟨r3, _, rfl, SqT.of upd_same, rfl, fun j hj => ?_⟩, dotOk_frz L0 L4 (by decide) (fun j hj => ?_) (fun j hj => ?_), fun v7 H7 s7 hv7 => ?_⟩
      · match j, hj with
        | 0, _ => exact ⟨_, rfl, q1, rfl, (s5.trans s6).tup hq1⟩
        | 1, _ => exact ⟨_, rfl, rt_int (s6.tup (SqT.of upd_same))⟩
      · have h1 : (1 : Nat) < 2 ^ 4000 := by decide +kernel
        show (if j = 0 then (1 : Int) else -1).natAbs < _
        split
        · exact h1
        · exact h1
      · show FrZ L 4000 (if j = 0 then _ else _)
        split
        · exact F1
        · exact F2
      · have ev : K6.sR 2 (fun j => (((fun i => if i = 0 then 1 else -1 : Nat → Int) j : Int) : Rat) * (if j = 0 then K6.sR t.k (fun j => ((K6.plain t).A i j : Rat) * x j) else ((K6.plain t).b i : Rat))) = K6.rowS (K6.plain t) x i - ((K6.plain t).b i : Rat) := by
          show (0 + ((1 : Int) : Rat) * K6.rowS (K6.plain t) x i) + ((-1 : Int) : Rat) * ((K6.plain t).b i : Rat) = _
          have e1 : ((1 : Int) : Rat) = 1 := rfl
          have e2 : ((-1 : Int) : Rat) = -1 := rfl
          rw [e1, e2]
          grind
        rw [ev] at hv7
        exact kq _ _ (s3.trans (s46.trans s7)) hv7
    · intro H3 xs s3 e3 hxl hx
      refine kk D xs H3 (s1.trans s3) (SqL.of e3) ⟨by rw [hxl, hrl], fun i hi => hx i (by omega)⟩
def FitsP (t : K6.Task) (x y : Nat → Rat) : Prop := (∀ i, i < t.m → y i ≠ 0 → K6.rowS (K6.plain t) x i - ((K6.plain t).b i : Rat) = 0) ∧ ∀ j, j < t.k → x j ≠ 0 → K6.colS t y j = (t.c j : Rat)
theorem pair_int {q : Rat} {c : Int} : [q.num, (q.den : Int)] = [c, 1] ↔ q = (c : Rat) := by
  constructor
  · intro h
    have h1 : q.num = c := (List.cons.inj h).1
    have h2 : (q.den : Int) = 1 := (List.cons.inj (List.cons.inj h).2).1
    refine Rat.ext h1 ?_
    show q.den = 1
    omega
  · rintro rfl; rfl
theorem num_ne {q : Rat} : (!decide (V.int q.num = V.int 0)) = !decide (q = 0) := by
  congr 1
  exact decide_eq_decide.mpr ⟨fun h => Rat.num_eq_zero.mp (V.int.inj h), fun h => by rw [h]; rfl⟩
def spFits (K : PySem.W.Frag) : Sp := fun vs H Q _ => ∃ (v u1 u2 : V) (t : K6.Task) (x y : Nat → Rat), vs = [v, u1, u2] ∧ Tk K H v t ∧ Valid t ∧ S0 t ∧ Rts K H u1 t.k x ∧ Rts K H u2 t.m y ∧ Frs t.k x ∧ Frs t.m y ∧
  ∀ H', Same H H' → (FitsP t x y → Q (.bl true) H') ∧ (¬ FitsP t x y → Q (.bl false) H')
theorem sc_fits_together : FnScope ["task", "plan", "paper", "one", "told", "at", "row"] ["task", "plan", "paper"] (defScope s_fits_together) := ⟨rfl, rfl, rfl, by decide +kernel, rfl, by decide +kernel, by decide +kernel⟩
theorem ok_fits_together (T : Txt K mg C CN) : Has P w K mg base CX0 "fits_together" 5 ["task", "plan", "paper"] (spFits K) := by
  obtain ⟨f, fd, mf, F, bf⟩ := T.d_fits_together
  obtain ⟨f_dot, fd_dot, m_dot, k_dot, b_dot, G_dot⟩ := ok_dot (P := P) (w := w) (base := base) T
  obtain ⟨f_need_paper, fd_need_paper, m_need_paper, k_need_paper, b_need_paper, G_need_paper⟩ := ok_need_paper (P := P) (w := w) (base := base) T
  obtain ⟨f_need_plan, fd_need_plan, m_need_plan, k_need_plan, b_need_plan, G_need_plan⟩ := ok_need_plan (P := P) (w := w) (base := base) T
  obtain ⟨f_need_task, fd_need_task, m_need_task, k_need_task, b_need_task, G_need_task⟩ := ok_need_task (P := P) (w := w) (base := base) T
  obtain ⟨f_spare, fd_spare, m_spare, k_spare, b_spare, G_spare⟩ := ok_spare (P := P) (w := w) (base := base) T
  refine ⟨f, fd, mf, F.kp, bf, F.ok sc_fits_together (fun vs H Q E h => ?_) (fun cdv A outer s H vs Q E hr h => ?_)⟩
  · obtain ⟨v, u1, u2, t, x, y, rfl, _⟩ := h
    rfl
  · obtain ⟨v, u1, u2, t, x, y, rfl, ht0, va, sz, hx0, hy0, fx, fy, kk⟩ := h
    have hr_dot := hr.mono (j := 3) (by decide)
    have hr_need_paper := hr.mono (j := 3) (by decide)
    have hr_need_plan := hr.mono (j := 3) (by decide)
    have hr_need_task := hr.mono (j := 4) (by decide)
    have hr_spare := hr.mono (j := 4) (by decide)
    have m5 := sz.m5
    have k5 := sz.k5
    refine ⟨_, PSs.nox (pss_cons (ps_expr (pe_call G_need_task hr_need_task (by rfl) m_need_task k_need_task b_need_task .nil pass0 (pa_cons (pv 0) pa_nil)))
    (pss_cons (ps_expr (pe_call G_need_plan hr_need_plan (by rfl) m_need_plan k_need_plan b_need_plan .nil pass0 (pa_cons (pv 0) (pa_cons (pv 1) pa_nil))))
    (pss_cons (ps_expr (pe_call G_need_paper hr_need_paper (by rfl) m_need_paper k_need_paper b_need_paper .nil pass0 (pa_cons (pv 0) (pa_cons (pv 2) pa_nil))))
    (pss_cons (ps_for PassesOwn.never rfl (pi_zipG rfl T.b_zip (pa_cons (pv 2) (pa_cons (pe_call G_spare hr_spare (by rfl) m_spare k_spare b_spare .nil pass0 (pa_cons (pv 0) (pa_cons (pv 1) pa_nil))) pa_nil))) (pg_tup (by rfl) (pgs_cons (pg_name (i := 3) sc_fits_together.nd rfl (Or.inl rfl)) (pgs_cons (pg_name (i := 4) sc_fits_together.nd rfl (Or.inl rfl)) pgs_nil)))
      (pss_one (ps_if (PW.pt (pw_and (pt_cmpR op_ne (pe_ix (ixT (K := K)) (pv 3) pe_int (fun _ _ => rfl)) pe_int (nomark _)) (pw_and1 (pt_cmpR op_ne (pe_ix (ixT (K := K)) (pv 4) pe_int (fun _ _ => rfl)) pe_int (nomark _)))))
        (pss_one (ps_ret pe_bl))
        pss_nil)))
    (pss_cons (ps_for PassesOwn.never rfl (pi_enumG rfl T.b_enumerate (pa_cons (pv 1) pa_nil)) (pg_tup (by rfl) (pgs_cons (pg_name (i := 5) sc_fits_together.nd rfl (Or.inr rfl)) (pgs_cons (pg_name (i := 3) sc_fits_together.nd rfl (Or.inl rfl)) pgs_nil)))
      (pss_cons (ps_set (i := 4) sc_fits_together.nd rfl (Or.inl rfl) (pe_call G_dot hr_dot (by rfl) m_dot k_dot b_dot .nil pass0 (pa_cons (pe_lc (own := [("row", 6)]) (g := gName 6) rfl sc_fits_together.nd (pi_tup (pe_ix (ixT (K := K)) (pv 0) pe_int (fun _ _ => rfl))) (blkOk_by (own := [("row", 6)]) (N := ["task", "plan", "paper", "one", "told", "at", "row"]) (sc := defScope s_fits_together) (by decide +kernel)) (fun _ _ _ _ _ => by exact (pg_name (i := 6) sc_fits_together.nd rfl (Or.inl rfl))) (fun _ _ _ _ _ => by exact pts_nil) (fun _ _ _ _ _ => by exact (pe_ix (ixT (K := K)) (pe_ix (ixT (K := K)) (pv 6) pe_int (fun _ _ => rfl)) (pv 5) (fun _ _ => rfl)))) (pa_cons (pv 2) pa_nil))))
      (pss_one (ps_if (PW.pt (pw_and (pt_cmpR op_ne (pe_ix (ixT (K := K)) (pv 3) pe_int (fun _ _ => rfl)) pe_int (nomark _)) (pw_and1 (pt_cmpR (op_neD hr.units) (pv 4) (pe_tup (pa_cons (pe_ix (ixT (K := K)) (pe_ix (ixT (K := K)) (pv 0) pe_int (fun _ _ => rfl)) (pv 5) (fun _ _ => rfl)) (pa_cons pe_int pa_nil))) (nomark _)))))
        (pss_one (ps_ret pe_bl))
        pss_nil))))
    (pss_one (ps_ret pe_bl))))))), ?_⟩
    refine ⟨_, rfl, v, t, rfl, ht0, va, fun H1 s1 => ?_⟩
    refine ⟨_, rfl, _, rfl, v, u1, t, x, rfl, ht0.tp s1.tp, hx0.tp s1.tp, by omega, fun H2 s2 => ?_⟩
    have s12 := s1.trans s2
    refine ⟨_, rfl, _, rfl, v, u2, t, y, rfl, ht0.tp s12.tp, hy0.tp s12.tp, by omega, fun H3 s3 => ?_⟩
    have s13 := s12.trans s3
    refine ⟨_, rfl, _, rfl, _, rfl, v, u1, t, x, rfl, ht0.tp s13.tp, hx0.tp s13.tp, sz, fx, fun D ws H4 s4 hD hws => ?_⟩
    have s14 := s13.trans s4
    obtain ⟨ay, ys, rfl, hay, hys⟩ := hy0.tp s14.tp
    obtain ⟨ax, xs, rfl, hax, hxs⟩ := hx0.tp s14.tp
    obtain ⟨a, c, r, rs, rfl, ht⟩ := ht0.tp s14.tp
    have hrl : rs.length = t.m := ht.rows.1
    refine ⟨.T ay, .L D, ys, ws, rfl, hay, hD, for_it (walk_zipG (p := .T ay) (q := .L D) (n := t.m) hys.1 hws.1)
      (fun i σ H' => (∃ u3 u4 : Option V, σ = [some (.ref a), some (.ref ax), some (.ref ay), u3, u4, none, none]) ∧ Same H4 H' ∧ ∀ i', i' < i → y i' ≠ 0 → K6.rowS (K6.plain t) x i' - ((K6.plain t).b i' : Rat) = 0)
      ⟨⟨_, _, rfl⟩, Same.refl _, fun i' hi' => absurd hi' (Nat.not_lt_zero i')⟩ (fun i σ H' _ q => ⟨q.2.1.tup hay, q.2.1.seq hD⟩) ?_ ?_⟩
    · rintro i z σ H5 H6 hi ⟨⟨u3, u4, rfl⟩, b5, hall⟩ ⟨Tq, x1, x2, rfl, hT, rfl, e1, e2⟩
      obtain ⟨w1, ew1, q1, rfl, hq1⟩ := hys.2 i hi
      cases e1.symm.trans ew1
      obtain ⟨w2, ew2, q2, rfl, hq2⟩ := hws.2 i hi
      cases e2.symm.trans ew2
      have s6 := Same.new (o := .tup [V.ref q1, V.ref q2]) hT
      have b6 := b5.trans s6
      refine tup2 (SqT.of upd_same) ⟨_, rfl, q1, _, _, _, rfl, rfl, b6.tup hq1, rfl, rfl, _, rfl, ?_⟩
      rw [num_ne]
      by_cases cy : y i = 0
      · rw [decide_eq_true cy]
        refine iteF ⟨⟨_, _, rfl⟩, b6, fun i' hi' hn => ?_⟩
        by_cases ei : i' = i
        · exact absurd (ei ▸ cy) hn
        · exact hall i' (by omega) hn
      · rw [decide_eq_false cy]
        refine iteT ⟨_, rfl, q2, _, _, _, rfl, rfl, b6.tup hq2, rfl, rfl, _, rfl, ?_⟩
        rw [num_ne]
        by_cases cs : K6.rowS (K6.plain t) x i - ((K6.plain t).b i : Rat) = 0
        · rw [decide_eq_true cs]
          refine iteF ⟨⟨_, _, rfl⟩, b6, fun i' hi' hn => ?_⟩
          by_cases ei : i' = i
          · rw [ei]; exact cs
          · exact hall i' (by omega) hn
        · rw [decide_eq_false cs]
          refine iteT ?_
          exact (kk _ (s14.trans b6)).2 fun h => cs (h.1 i hi cy)
    · rintro σ H5 ⟨⟨u3, u4, rfl⟩, b5, hall⟩
      refine ⟨_, rfl, .T ax, xs, rfl, b5.tup hax, for_it (walk_enumG (p := .T ax) (n := t.k) hxs.1)
        (fun i σ H' => (∃ u3 u4 u5 : Option V, σ = [some (.ref a), some (.ref ax), some (.ref ay), u3, u4, u5, none]) ∧ Same H4 H' ∧ ∀ j, j < i → x j ≠ 0 → K6.colS t y j = (t.c j : Rat))
        ⟨⟨_, _, _, rfl⟩, b5, fun i' hi' => absurd hi' (Nat.not_lt_zero i')⟩ (fun i σ H' _ q => q.2.1.tup hax) ?_ ?_⟩
      · rintro i z σ H6 H7 hi ⟨⟨u5, u6, u7, rfl⟩, b6, hall2⟩ ⟨Tq, x1, x2, rfl, hT, rfl, e1, e2⟩
        cases e1
        obtain ⟨w2, ew2, q2, rfl, hq2⟩ := hxs.2 i hi
        cases e2.symm.trans ew2
        have s7 := Same.new (o := .tup [V.int (i : Nat), V.ref q2]) hT
        have b7 := b6.trans s7
        have hrw := b7.tup ht.rw
        refine tup2 (SqT.of upd_same) ⟨_, rfl, a, _, _, _, rfl, rfl, b7.tup ht.tk, rfl, r, rfl, ⟨_, hrw⟩, fun D2 hD2 => lc_iv (walk_tup (xs := rs)) (fun i' => t.A i' i) (by omega) hD2 (fun H' s => s.tup hrw) ?_ ?_⟩
        · rintro j y' H8 H9 Qy Qn hj s8 ⟨rfl, e⟩ kq
          obtain ⟨y', ey, b, d, rfl, hbb, hdd⟩ := ht.rows.2 j (by omega)
          cases e.symm.trans ey
          have b8 := b7.trans s8
          exact ⟨rfl, yesI ⟨_, rfl, b, _, _, _, rfl, rfl, b8.tup hbb, rfl, _, rfl, d, _, _, _, rfl, rfl, b8.tup hdd, atI_nat (iv_get hi), kq _ (Same.refl _)⟩⟩
        intro H8 s8 e8
        rw [hrl] at e8
        have b8 := b7.trans s8
        obtain ⟨L, L0, L1, hF⟩ := fy
        have L4 : L.natAbs < 2 ^ 4000 := Nat.lt_trans L1 (by decide +kernel)
        refine ⟨_, rfl, .L D2, .ref ay, t.m, (fun i' => t.A i' i), y, L.natAbs, rfl, SqL.of e8, Rts.tp b8.tp ⟨ay, ys, rfl, hay, hys⟩, dotOk_frz L0 L4 (by omega) (fun j hj => Nat.lt_of_le_of_lt (sz.sz.A j i hj hi) (by decide +kernel)) (fun j hj => (hF j hj).mono (by decide)), fun v9 H9 s9 hv9 => ?_⟩
        have b9 := b8.trans s9
        obtain ⟨q9, rfl, hq9⟩ := hv9
        refine ⟨_, rfl, q2, _, _, _, rfl, rfl, b9.tup hq2, rfl, rfl, _, rfl, ?_⟩
        rw [num_ne]
        by_cases cx : x i = 0
        · rw [decide_eq_true cx]
          refine iteF ⟨⟨_, _, _, rfl⟩, b9, fun j hj hn => ?_⟩
          by_cases ei : j = i
          · exact absurd (ei ▸ cx) hn
          · exact hall2 j (by omega) hn
        · rw [decide_eq_false cx]
          refine iteT ⟨_, rfl, _, rfl, a, _, _, _, rfl, rfl, b9.tup ht.tk, rfl, _, rfl, c, _, _, _, rfl, rfl, b9.tup ht.cs, atI_nat (iv_get hi), small (by show 2 ≤ 1000; decide), fun q10 hq10 => ?_⟩
          have s10 := Same.new (o := .tup [V.int (t.c i), V.int 1]) hq10
          have b10 := b9.trans s10
          refine neT (ns := [(K6.colS t y i).num, ((K6.colS t y i).den : Int)]) (ms := [t.c i, 1]) (s10.tup hq9) (SqT.of upd_same) ⟨_, rfl, ?_⟩
          by_cases cc : K6.colS t y i = (t.c i : Rat)
          · rw [decide_eq_true (pair_int.mpr cc)]
            refine iteF ⟨⟨_, _, _, rfl⟩, b10, fun j hj hn => ?_⟩
            by_cases ei : j = i
            · rw [ei]; exact cc
            · exact hall2 j (by omega) hn
          · rw [decide_eq_false (fun h => cc (pair_int.mp h))]
            refine iteT ?_
            exact (kk _ (s14.trans b10)).2 fun h => cc (h.2 i hi cx)
      · rintro σ H6 ⟨⟨u5, u6, u7, rfl⟩, b6, hall2⟩
        exact (kk _ (s14.trans b6)).1 ⟨hall, hall2⟩
end
end G3
-- WSorted
set_option Elab.async false
set_option linter.all false
set_option maxRecDepth 100000
set_option maxHeartbeats 4000000
/-! sorted(a tuple of ints). -/
namespace PyProof.Rows
open PySem
section
variable {pg : Program} {wd : World} {ar : Around} {ex : Value → Shared → Prop} {st : Shared}
theorem g3_collect_tup {tl : Addr} {items : List Value} {post : List Value → Shared → Prop} (htup : PyProof.Rows.IsTup st.heap tl items.toArray)
    (done : post items { st with heap := (st.heap.push (seqObj "list" #[] 0)).update st.heap.objs.size (Obj.mapSeq (· ++ items.toArray)) }) (hsz1 : items.length ≤ sizeLine) :
    wpAny (model pg wd) ar (collect (.ref tl)) post ex st := by
  obtain ⟨ob, hob, hcl, cnt, hda⟩ := id htup
  unfold collect
  refine wpAny_bind (wpAny_runValue (codeAny_builtin entry_proto_collect' ?_))
  show wpAny _ _ (do again (.builtin "list.__iadd__" ⟨[← newList [], .ref tl], []⟩)) _ _ st
  refine wpAny_bind (wpAny_newList (wpAny_pure ⟨Code.quiet_builtin _ (by decide +kernel), codeAny_builtin entry_list_iadd' ?_⟩))
  show wpAny _ _ (Builtin.List.listExtendWith (.ref st.heap.objs.size) (.ref tl) (.ref st.heap.objs.size)) _ _ { st with heap := st.heap.push (seqObj "list" #[] 0) }
  unfold Builtin.List.listExtendWith
  have hob1 : (st.heap.push (seqObj "list" #[] 0)).get? tl = some ob := Heap.get?_push_of_some _ hob
  refine wpAny_bind (wpAny_typeOf (T := "tuple") ⟨ob, hob1, hcl⟩ ?_)
  have hty : (Value.type "tuple" == Value.type "tuple") = true := by rfl
  rw [if_pos (by rw [hty]; simp)]
  refine wpAny_bind (listItems_at hob1 hda ?_)
  refine wpAny_bind (listItems_at (xs := #[]) (n := 0) (Heap.get?_push_size _ rfl) rfl ?_)
  rw [if_neg (by simp)]
  refine wpAny_bind (listUpdate_at (xs := #[]) (n := 0) (Heap.get?_push_size _ rfl) rfl ?_ (Nat.zero_le _) (by show (#[] ++ items.toArray).size ≤ sizeLine + 1; simp only [Array.size_append, List.size_toArray, List.length_nil]; omega))
  refine wpAny_pure ?_
  show wpAny (model pg wd) ar (do
      let ob ← load st.heap.objs.size
      match ob.data with
      | .seq xs _ => pure xs.toList
      | _ => unsupported "internal:collect") post ex { st with heap := (st.heap.push (seqObj "list" #[] 0)).update st.heap.objs.size (Obj.mapSeq (· ++ items.toArray)) }
  refine wpAny_bind (wpAny_load (get?_update_seq (Heap.get?_push_size _ rfl) _) ?_)
  show wpAny _ _ (pure ((#[] : Array Value) ++ items.toArray).toList) post ex _
  rw [show ((#[] : Array Value) ++ items.toArray).toList = items by simp]
  exact wpAny_pure done
end
end PyProof.Rows
namespace SrtO
open PySem PyProof.Rows Srt
section
variable {pg : Program} {wd : World} {ar : Around} {ex : Value → Shared → Prop} {st : Shared}
theorem g3_sorted_tup {tl : Addr} {items : List Value} {lt : Value → Value → Bool} {post : Value → Shared → Prop} (swo : Swo lt) (htup : PyProof.Rows.IsTup st.heap tl items.toArray) (hz : items.length ≤ sizeLine)
    (hsb : 2 ≤ items.length → ∀ (h0 : Heap) (aa : Addr), h0.get? aa = some (seqObj "list" items.toArray 0) → (∀ ad ob, st.heap.get? ad = some ob → ad ≠ aa ∧ h0.get? ad = some ob) → SortableO pg wd ar.in1.in1 { st with heap := h0 } aa items lt)
    (done : ∀ res : List Value, Srtd lt res → Stb lt res items → post (.ref (st.heap.objs.size + 1)) { st with heap := sortedAll st.heap items res.toArray }) :
    wpAny (model pg wd) ar (call (.builtin "sorted") [.ref tl]) post ex st := by
  refine Calls.call_function_entry kind_sorted plain_sorted entry_sorted (args_sorted1 _) ?_
  unfold Builtin.«sorted»
  refine wpAny_bind (m := checkCount "sorted" 1 1 _) (wpAny_pure ?_)
  refine wpAny_bind (g3_collect_tup htup ?_ hz)
  refine wpAny_bind (wpAny_newList ?_ hz)
  have hsz1 : ((st.heap.push (seqObj "list" #[] 0)).update st.heap.objs.size (Obj.mapSeq (· ++ items.toArray))).objs.size = st.heap.objs.size + 1 := by
    rw [Heap.size_update, size_push']
  have hnew : (((st.heap.push (seqObj "list" #[] 0)).update st.heap.objs.size (Obj.mapSeq (· ++ items.toArray))).push (seqObj "list" items.toArray 0)).get? (st.heap.objs.size + 1) = some (seqObj "list" items.toArray 0) := by
    rw [← hsz1]; exact Heap.get?_push_size _ rfl
  have kept1 : ∀ ad ob, st.heap.get? ad = some ob → ad ≠ st.heap.objs.size + 1 ∧ (((st.heap.push (seqObj "list" #[] 0)).update st.heap.objs.size (Obj.mapSeq (· ++ items.toArray))).push (seqObj "list" items.toArray 0)).get? ad = some ob := fun ad ob hq => by
    have hle : ad < st.heap.objs.size := Heap.lt_size hq
    refine ⟨Nat.ne_of_lt (Nat.lt_succ_of_lt hle), Heap.get?_push_of_some _ ?_⟩
    rw [Heap.get?_update_ne _ _ _ _ (Nat.ne_of_lt hle)]
    exact Heap.get?_push_of_some _ hq
  show wpAny _ _ _ _ _ { st with heap := ((st.heap.push (seqObj "list" #[] 0)).update st.heap.objs.size (Obj.mapSeq (· ++ items.toArray))).push (seqObj "list" items.toArray 0) }
  rw [hsz1]
  refine wpAny_bind (wpAny_holding (wpAny_call_entry slot_list_sort ⟨_, hnew, rfl⟩ entry_list_sort (list_sort_ord swo hnew hz (fun h2 => hsb h2 _ _ hnew kept1) fun res hso hst => ⟨_, rfl, ?_⟩) (args_list_sort _)))
  exact wpAny_pure ⟨_, rfl, done res hso hst⟩
end
end SrtO
namespace G3
open PySem PySem.Spec PyProof.Rows L2
/-- sorted(a tuple of ints) -/
def rSortT (K : PySem.W.Frag) : List V → Hp → VK → Prop := fun xs H Q => ∃ (ad : Addr) (is : List Int), xs = [V.ref ad] ∧ SqT K H ad (is.map V.int) ∧
  ∀ (js : List Int) (p : Addr), js.Perm is → js.Pairwise (· ≤ ·) → H p = none → Q (.ref p) (upd H p (.lst (js.map V.int)))
theorem cr_sortT {X : Cx} : CallR X (.builtin "sorted") (rSortT X.K) := by
  intro pins st σ H xs ys post I rel hh
  obtain ⟨ad, is, rfl, hs, hq⟩ := hh
  obtain ⟨vals, hv, ht, hz1⟩ := I.tuple hs
  rw [Vals.ref1 rel]
  have hint := hv.ints
  refine SrtO.g3_sorted_tup SrtO.swo_int ht (by rw [← hv.length]; exact hz1) (fun o2 h₁ a' _ _ => SrtO.ints_sortable hint o2) fun res o1 o2 => ?_
  obtain ⟨m1, m2, m3⟩ := SrtO.ints_out hint o1 o2
  obtain ⟨en, hen⟩ := PyProof.Rows.sortedAll_at st.heap vals res.toArray
  have hle : ((res.map SrtO.iv).map V.int).length ≤ sizeLine := by
    rw [List.length_map, m2.length_eq]
    rw [List.length_map] at hz1
    exact hz1
  exact ⟨.ref _, upd H (st.heap.objs.size + 1) (.lst ((res.map SrtO.iv).map V.int)), I.laid (t' := st.toks) (fun _ _ => PyProof.Rows.sortedAll_old) (Nat.le_succ _) ⟨hle, res, en, vals_of_ints m1, hen⟩, rfl, hq _ _ m2 m3 (I.hok.fresh (Nat.le_succ _))⟩
end G3
-- WLaw1
set_option Elab.async false
set_option linter.all false
set_option maxRecDepth 100000
set_option maxHeartbeats 4000000
namespace G3
open PySem PySem.Spec PyProof.Rows L2
/-- the script, apart from the row at l -/
def Src (K : PySem.W.Frag) (H : Hp) (l sc : Addr) (xs : List V) : Prop := (Rd H sc (.lst xs) ∧ sc ≠ l) ∨ ∀ H' : Hp, SqL K H' sc xs
theorem Src.sq {K : PySem.W.Frag} {H : Hp} {l sc : Addr} {xs : List V} : Src K H l sc xs → SqL K H sc xs
  | .inl h => .inl h.1
  | .inr h => h H
theorem Src.same {K : PySem.W.Frag} {H H' : Hp} {l sc : Addr} {xs : List V} (s : Same H H') : Src K H l sc xs → Src K H' l sc xs
  | .inl ⟨.inl h, n⟩ => .inl ⟨.inl (s _ _ h), n⟩
  | .inl ⟨.inr ⟨o, h⟩, n⟩ => .inl ⟨.inr ⟨o, s _ _ h⟩, n⟩
  | .inr h => .inr h
theorem But.seqL {K : PySem.W.Frag} {l sc : Addr} {H H' : Hp} {xs : List V} (b : But l H H') (_ : True) : Src K H l sc xs → Src K H' l sc xs
  | .inl ⟨.inl h, n⟩ => .inl ⟨.inl (b _ _ n h), n⟩
  | .inl ⟨.inr ⟨o, h⟩, n⟩ => .inl ⟨.inr ⟨o, b _ _ n h⟩, n⟩
  | .inr h => .inr h
theorem Src.new {K : PySem.W.Frag} {H : Hp} {l sc : Addr} {xs : List V} (h : SqL K H sc xs) (hl : H l = none) : Src K H l sc xs := by
  rcases h with (h | ⟨o, h⟩) | h
  · exact .inl ⟨.inl h, ne_of_none h hl⟩
  · exact .inl ⟨.inr ⟨o, h⟩, ne_of_none h hl⟩
  · exact .inr fun _ => .inr h
/-- the drawn row: the script, how many are read, the seed, the rest -/
def Drow (K : PySem.W.Frag) (H : Hp) (l sc : Addr) (ns : List Int) : Prop := ∃ (i : Nat) (seed rest : Int), H l = some (.lst [.ref sc, .int (i : Int), .int seed, .int rest]) ∧ Src K H l sc (ns.map V.int) ∧ True ∧ 0 ≤ seed ∧ seed < 2147483647
theorem fm {x : Int} {m : Nat} (h : 0 < m) : ∃ r : Nat, r < m ∧ x.fmod (m : Int) = (r : Int) := by
  have h0 : (0 : Int) < (m : Int) := by omega
  have h1 := Int.emod_nonneg x (Int.ne_of_gt h0)
  have h2 := Int.emod_lt_of_pos x h0
  refine ⟨(x % (m : Int)).toNat, by omega, ?_⟩
  rw [Int.fmod_eq_emod_of_nonneg x (Int.le_of_lt h0)]
  omega
theorem But.trans {l : Addr} {H H1 H2 : Hp} (a : But l H H1) (b : But l H1 H2) : But l H H2 := fun c o n e => b c o n (a c o n e)
theorem Drow.move {K : PySem.W.Frag} {H1 H4 H5 : Hp} {l sc : Addr} {ns : List Int} (d : Drow K H4 l sc ns) (d1 : Drow K H1 l sc ns) (b : But l H1 H5) (e : H5 l = H4 l) : Drow K H5 l sc ns := by
  obtain ⟨i, seed, rest, hl, _, nl, s0, s1⟩ := d
  obtain ⟨_, _, _, _, hsc, _⟩ := d1
  exact ⟨i, seed, rest, e.trans hl, b.seqL nl hsc, nl, s0, s1⟩
theorem Drow.lst {K : PySem.W.Frag} {H : Hp} {l sc : Addr} {ns : List Int} (d : Drow K H l sc ns) : ∃ xs, H l = some (.lst xs) := let ⟨_, _, _, h, _⟩ := d; ⟨_, h⟩
theorem Drow.same {K : PySem.W.Frag} {H H' : Hp} {l sc : Addr} {ns : List Int} (d : Drow K H l sc ns) (s : Same H H') : Drow K H' l sc ns := let ⟨i, a, b, h, q, r⟩ := d; ⟨i, a, b, s _ _ h, q.same s, r⟩
theorem But.tpD {K : PySem.W.Frag} {H H' : Hp} {l sc : Addr} {ns : List Int} (b : But l H H') (d : Drow K H l sc ns) : Tp H H' := let ⟨_, h⟩ := d.lst; b.tp h
section
variable {P : Program} {w : World} {K : PySem.W.Frag} {mg : Str → Option Value} {base : Heap} {C CN : Addr}
def spTaken (K : PySem.W.Frag) : Sp := fun vs H Q _ => ∃ (l sc : Addr) (ns : List Int) (m : Nat), vs = [.ref l, .int (m : Nat)] ∧ Drow K H l sc ns ∧ 0 < m ∧ m < 1000000 ∧ ∀ (r : Nat) H', r < m → But l H H' → Drow K H' l sc ns → Q (.int (r : Nat)) H'
theorem sc_law_taken : FnScope ["_law_row", "_law_many", "_law_cell", "_law_found"] ["_law_row", "_law_many"] (defScope s_law_taken) := ⟨rfl, rfl, rfl, by decide +kernel, rfl, by decide +kernel, by decide +kernel⟩
theorem ok_law_taken (T : Txt K mg C CN) : Has P w K mg base CX0 "_law_taken" 1 ["_law_row", "_law_many"] (spTaken K) := by
  obtain ⟨f, fd, mf, F, bf⟩ := T.d_law_taken
  refine ⟨f, fd, mf, F.kp, bf, F.ok sc_law_taken (fun vs H Q E h => ?_) (fun cdv A outer s H vs Q E hr h => ?_)⟩
  · obtain ⟨l, sc, ns, m, rfl, _⟩ := h
    rfl
  · obtain ⟨l, sc, ns, m, rfl, ⟨i, seed, rest, hl, hsc, nl, s0, s1⟩, m0, m1, kk⟩ := h
    refine ⟨_, PSs.nox (pss_cons (ps_if (pt_cmpR op_gt (pe_ix (ixL (K := K)) (pv 0) pe_int (fun _ _ => rfl)) pe_int (nomark _))
      (pss_cons (ps_set (i := 3) sc_law_taken.nd rfl (Or.inl rfl) (pe_op op_modN (pe_callTy call_int1 (by rfl) T.b_int (by decide +kernel) (pa_cons (pe_ix (ixL (K := K)) (pv 0) pe_int (fun _ _ => rfl)) pa_nil)) (pv 1)))
      (pss_cons (ps_asg (pe_op op_fdivW (pe_ix (ixL (K := K)) (pv 0) pe_int (fun _ _ => rfl)) (pv 1)) (pg_sub (pv 0) pe_int set_list))
      (pss_one (ps_ret (pv 3)))))
      pss_nil)
    (pss_cons (ps_asg (pe_op op_add (pe_ix (ixL (K := K)) (pv 0) pe_int (fun _ _ => rfl)) pe_int) (pg_sub (pv 0) pe_int set_list))
    (pss_cons (ps_if (pt_cmpR op_gt (pe_ix (ixL (K := K)) (pv 0) pe_int (fun _ _ => rfl)) (pe_callB (lenS (K := K)) (by rfl) T.b_len PySem.boot_len (pa_cons (pe_ix (ixL (K := K)) (pv 0) pe_int (fun _ _ => rfl)) pa_nil)) (nomark _))
      (pss_cons (ps_asg (pe_op op_modN (pe_callTy call_int1 (by rfl) T.b_int (by decide +kernel) (pa_cons (pe_op op_add (pe_op op_mulW (pe_ix (ixL (K := K)) (pv 0) pe_int (fun _ _ => rfl)) pe_int) pe_int) pa_nil)) pe_int) (pg_sub (pv 0) pe_int set_list))
      (pss_one (ps_ret (pe_op op_modN (pe_callTy call_int1 (by rfl) T.b_int (by decide +kernel) (pa_cons (pe_op op_fdivW (pe_ix (ixL (K := K)) (pv 0) pe_int (fun _ _ => rfl)) pe_int) pa_nil)) (pv 1)))))
      pss_nil)
    (pss_cons (ps_set (i := 2) sc_law_taken.nd rfl (Or.inl rfl) (pe_ix (ixL (K := K)) (pe_ix (ixL (K := K)) (pv 0) pe_int (fun _ _ => rfl)) (pe_op op_sub (pe_ix (ixL (K := K)) (pv 0) pe_int (fun _ _ => rfl)) pe_int) (fun _ _ => rfl)))
    (pss_cons (ps_asg (pe_op op_modN (pe_callTy call_int1 (by rfl) T.b_int (by decide +kernel) (pa_cons (pe_op op_add (pe_op op_add (pe_op op_mulW (pe_ix (ixL (K := K)) (pv 0) pe_int (fun _ _ => rfl)) pe_int) (pv 2)) pe_int) pa_nil)) pe_int) (pg_sub (pv 0) pe_int set_list))
    (pss_cons (ps_if (pt_cmpR op_ge (pv 2) (pe_op op_pow pe_int pe_int) (nomark _))
      (pss_one (ps_asg (pe_op op_fdivW (pv 2) (pv 1)) (pg_sub (pv 0) pe_int set_list)))
      pss_nil)
    (pss_one (ps_ret (pe_op op_modN (pe_callTy call_int1 (by rfl) T.b_int (by decide +kernel) (pa_cons (pv 2) pa_nil)) (pv 1)))))))))), ?_⟩
    have mz : ((m : Nat) : Int) ≠ 0 := by omega
    have mb : (m : Int).natAbs < 2 ^ 30 := by show m < _; omega
    refine ⟨_, rfl, l, _, _, _, rfl, rfl, SqL.of hl, rfl, _, _, rfl, rfl, _, rfl, ?_⟩
    by_cases c : rest > 0
    · rw [decide_eq_true c]
      refine iteT ?_
      refine ⟨_, rfl, l, _, _, _, rfl, rfl, SqL.of hl, rfl, .inl ⟨_, rfl, _, rfl, _, _, rfl, rfl, mz, ?_⟩⟩
      refine ⟨_, rfl, l, _, _, _, rfl, rfl, SqL.of hl, rfl, _, rfl, _, _, rfl, rfl, wide_div (b := 30) (by omega) mb (by decide) (by decide), ?_⟩
      refine ⟨_, rfl, l, _, _, 3, rfl, rfl, hl, rfl, ?_⟩
      obtain ⟨r, hr, er⟩ := fm (x := rest) m0
      refine ⟨_, rfl, ?_⟩
      show Q (V.int (rest.fmod (m : Int))) _
      rw [er]
      exact kk r _ hr (But.refl l H).write ⟨i, seed, _, upd_same, ((But.refl l H).write).seqL nl hsc, nl, s0, s1⟩
    · rw [decide_eq_false c]
      refine iteF ?_
      refine ⟨_, rfl, l, _, _, _, rfl, rfl, SqL.of hl, rfl, _, _, rfl, rfl, ?_⟩
      refine ⟨_, rfl, l, _, _, 1, rfl, rfl, hl, rfl, ?_⟩
      have b1 : But l H (upd H l (.lst ([V.ref sc, .int (i : Int), .int seed, .int rest].set 1 (.int ((i : Int) + 1))))) := (But.refl l H).write
      have h1 : (upd H l (.lst ([V.ref sc, .int (i : Int), .int seed, .int rest].set 1 (.int ((i : Int) + 1))))) l = some (.lst [.ref sc, .int ((i : Int) + 1), .int seed, .int rest]) := upd_same
      have c1 := b1.seqL nl hsc
      refine ⟨_, rfl, l, _, _, _, rfl, rfl, SqL.of h1, rfl, _, rfl, l, _, _, _, rfl, rfl, SqL.of h1, rfl, sc, _, rfl, .inl c1.sq, _, _, rfl, rfl, _, rfl, ?_⟩
      rw [List.length_map]
      have sb : seed.natAbs < 2 ^ 31 := by omega
      have M0 : 0 < (2147483647 : Nat) := by decide
      by_cases c2 : ((i : Int) + 1) > (ns.length : Int)
      · rw [decide_eq_true c2]
        refine iteT ?_
        refine ⟨_, rfl, l, _, _, _, rfl, rfl, SqL.of h1, rfl, _, _, rfl, rfl, wide_mul (a := 31) (b := 31) sb (by decide) (by decide) (by decide) (by decide), _, _, rfl, rfl, .inl ⟨_, rfl, _, _, rfl, rfl, (show (2147483647 : Int) ≠ 0 by decide), ?_⟩⟩
        obtain ⟨r, hr, er⟩ := fm (x := seed * 48271 + 11) M0
        have er' : (seed * 48271 + 11).fmod 2147483647 = (r : Int) := er
        refine ⟨_, rfl, l, _, _, 2, rfl, rfl, h1, rfl, ?_⟩
        have h2 : ∀ H2, H2 = upd (upd H l (.lst ([V.ref sc, .int (i : Int), .int seed, .int rest].set 1 (.int ((i : Int) + 1))))) l (.lst [.ref sc, .int ((i : Int) + 1), .int ((seed * 48271 + 11).fmod 2147483647), .int rest]) → H2 l = some (.lst [.ref sc, .int ((i : Int) + 1), .int ((seed * 48271 + 11).fmod 2147483647), .int rest]) := fun H2 e => by rw [e]; exact upd_same
        refine ⟨_, rfl, l, _, _, _, rfl, rfl, SqL.of (h2 _ rfl), rfl, _, _, rfl, rfl, wide_div (b := 30) (by decide) (by decide) (by decide) (by decide), .inl ⟨_, rfl, _, rfl, _, _, rfl, rfl, mz, ?_⟩⟩
        obtain ⟨r2, hr2, er2⟩ := fm (x := (seed * 48271 + 11).fmod 2147483647 / 7) m0
        show Q (V.int (((seed * 48271 + 11).fmod 2147483647 / 7).fmod (m : Int))) _
        rw [er2]
        exact kk r2 _ hr2 b1.write ⟨i + 1, _, rest, h2 _ rfl, (b1.write).seqL nl hsc, nl, by rw [er']; omega, by rw [er']; omega⟩
      · rw [decide_eq_false c2]
        refine iteF ?_
        have hi : i < ns.length := by omega
        have ecell : (ns.map V.int)[i]? = some (.int ns[i]) := by simp [hi]
        generalize hcell : ns[i] = cell at ecell
        have ea : atI (ns.map V.int) ((i : Int) + 1 - 1) = some (.int cell) := by
          rw [show ((i : Int) + 1 - 1) = (i : Int) by omega]
          exact atI_nat ecell
        refine ⟨_, rfl, l, _, _, _, rfl, rfl, SqL.of h1, rfl, _, rfl, l, _, _, _, rfl, rfl, SqL.of h1, rfl, _, _, rfl, rfl, sc, _, _, _, rfl, rfl, c1.sq, ea, ?_⟩
        refine ⟨_, rfl, l, _, _, _, rfl, rfl, SqL.of h1, rfl, _, _, rfl, rfl, wide_mul (a := 31) (b := 31) sb (by decide) (by decide) (by decide) (by decide), _, rfl, _, _, rfl, rfl, _, _, rfl, rfl, .inl ⟨_, rfl, _, _, rfl, rfl, (show (2147483647 : Int) ≠ 0 by decide), ?_⟩⟩
        obtain ⟨r, hr, er⟩ := fm (x := seed * 48271 + cell + 11) M0
        have er' : (seed * 48271 + cell + 11).fmod 2147483647 = (r : Int) := er
        refine ⟨_, rfl, l, _, _, 2, rfl, rfl, h1, rfl, ?_⟩
        have h2 : ∀ H2, H2 = upd (upd H l (.lst ([V.ref sc, .int (i : Int), .int seed, .int rest].set 1 (.int ((i : Int) + 1))))) l (.lst [.ref sc, .int ((i : Int) + 1), .int ((seed * 48271 + cell + 11).fmod 2147483647), .int rest]) → H2 l = some (.lst [.ref sc, .int ((i : Int) + 1), .int ((seed * 48271 + cell + 11).fmod 2147483647), .int rest]) := fun H2 e => by rw [e]; exact upd_same
        have b2 := b1.write (o := .lst [.ref sc, .int ((i : Int) + 1), .int ((seed * 48271 + cell + 11).fmod 2147483647), .int rest])
        refine ⟨_, rfl, _, _, rfl, rfl, ⟨by decide, by decide, by decide⟩, _, _, rfl, rfl, _, rfl, ?_⟩
        obtain ⟨r3, hr3, er3⟩ := fm (x := cell) m0
        refine joinIf (fun σ' H' => (∃ u2 : Option V, σ' = [some (.ref l), some (.int (m : Nat)), some (.int cell), u2]) ∧ But l H H' ∧ Drow K H' l sc ns) (fun N hN => ?_) ?_
        · split
          · refine ⟨_, rfl, _, rfl, _, _, rfl, rfl, wide_div (b := 30) (by omega) mb (by decide) (by decide), ?_⟩
            refine ⟨_, rfl, l, _, _, 3, rfl, rfl, h2 _ rfl, rfl, ?_⟩
            exact hN _ _ ⟨⟨_, rfl⟩, b2.write, i + 1, _, _, upd_same, (b2.write).seqL nl hsc, nl, by rw [er']; omega, by rw [er']; omega⟩
          · exact hN _ _ ⟨⟨_, rfl⟩, b2, i + 1, _, rest, h2 _ rfl, b2.seqL nl hsc, nl, by rw [er']; omega, by rw [er']; omega⟩
        · rintro σ' H3 ⟨⟨u2, rfl⟩, b3, d3⟩
          refine ⟨_, rfl, .inl ⟨_, rfl, _, rfl, _, _, rfl, rfl, mz, ?_⟩⟩
          show Q (V.int (cell.fmod (m : Int))) _
          rw [er3]
          exact kk r3 _ hr3 b3 d3
end
end G3
-- WLaw2
set_option Elab.async false
set_option linter.all false
set_option maxRecDepth 100000
set_option maxHeartbeats 4000000
namespace G3
open PySem PySem.Spec PyProof.Rows L2
def rIxW (K : PySem.W.Frag) : R2 := fun x y H Q => ∃ p xs i v, x = .ref p ∧ y = .int i ∧ (SqL K H p xs ∨ SqT K H p xs) ∧ atI xs i = some v ∧ Q v H
theorem ixW {X : Cx} {K : PySem.W.Frag} (hK : X.K = K := by rfl) : IxR X (rIxW K) := fun value slice pins s σ H x y v u Q I rx ry h e => by
  obtain ⟨p, xs, i, z, e1, e2, hq | hq, ha, q⟩ := h
  · exact (ixL hK) value slice pins s σ H x y v u Q I rx ry ⟨p, xs, i, z, e1, e2, hq, ha, q⟩ e
  · exact (ixT hK) value slice pins s σ H x y v u Q I rx ry ⟨p, xs, i, z, e1, e2, hq, ha, q⟩ e
section
variable {P : Program} {w : World} {K : PySem.W.Frag} {mg : Str → Option Value} {base : Heap} {C CN : Addr}
def spIs : Sp := fun vs H Q _ => ∃ a b : Bool, vs = [.bl a, .bl b] ∧ Q (.bl (decide (a = b))) H
theorem sc_law_is : FnScope ["_law_found", "_law_due"] ["_law_found", "_law_due"] (defScope s_law_is) := ⟨rfl, rfl, rfl, by decide +kernel, rfl, by decide +kernel, by decide +kernel⟩
theorem ok_law_is (T : Txt K mg C CN) : Has P w K mg base CX0 "_law_is" 1 ["_law_found", "_law_due"] spIs := by
  obtain ⟨f, fd, mf, F, bf⟩ := T.d_law_is
  refine ⟨f, fd, mf, F.kp, bf, F.ok sc_law_is (fun vs H Q E h => ?_) (fun cdv A outer s H vs Q E hr h => ?_)⟩
  · obtain ⟨a, b, rfl, _⟩ := h
    rfl
  · obtain ⟨a, b, rfl, k⟩ := h
    refine ⟨_, PSs.nox (pss_one (ps_ret (pe_and (pe_callB (isiK (K := K)) (by rfl) T.b_isinstance (by decide +kernel) (pa_cons (pv 0) (pa_cons (pe_bltn (by rfl) T.b_bool (by decide +kernel) (v := .ty "bool") rfl) pa_nil))) (pe_one (pe_cmpR op_eq (pv 0) (pv 1) (nomark _)))))), ?_⟩
    refine ⟨_, rfl, _, .ty "bool", _, _, true, rfl, .ty "bool", .base (.bl a), kit_ty (by decide +kernel), _, rfl, iteT ?_⟩
    refine ⟨_, rfl, _, rfl, ?_⟩
    have e : decide (V.bl a = V.bl b) = decide (a = b) := decide_eq_decide.mpr ⟨fun h => V.bl.inj h, fun h => by rw [h]⟩
    first
      | exact ⟨rfl, by rw [e]; exact k⟩
      | (rw [e]; exact k)
def spLRatio (K : PySem.W.Frag) : Sp := fun vs H Q _ => ∃ t l : Int, vs = [.int t, .int l] ∧ 0 < l ∧ l.natAbs < 2 ^ 100 ∧ ∀ v H', Same H H' → Rt K H' v (Rat.divInt t l) → Q v H'
theorem sc_law_ratio : FnScope ["_law_top", "_law_low", "_law_one", "_law_other"] ["_law_top", "_law_low"] (defScope s_law_ratio) := ⟨rfl, rfl, rfl, by decide +kernel, rfl, by decide +kernel, by decide +kernel⟩
theorem ok_law_ratio (T : Txt K mg C CN) : Has P w K mg base CX0 "_law_ratio" 1 ["_law_top", "_law_low"] (spLRatio K) := by
  obtain ⟨f, fd, mf, F, bf⟩ := T.d_law_ratio
  refine ⟨f, fd, mf, F.kp, bf, F.ok sc_law_ratio (fun vs H Q E h => ?_) (fun cdv A outer s H vs Q E hr h => ?_)⟩
  · obtain ⟨t, l, rfl, _⟩ := h
    rfl
  · obtain ⟨t, l, rfl, hl, hb, k⟩ := h
    have hg : (0 : Int) < (Int.gcd t l : Int) := by
      have := Int.gcd_pos_of_ne_zero_right t (b := l) (by omega)
      omega
    have hgl : (Int.gcd t l : Int) ≤ l := Int.le_of_dvd hl (Int.gcd_dvd_right t l)
    refine ⟨_, PSs.nox (pss_cons (ps_par (i := 2) (j := 3) rfl sc_law_ratio.nd rfl rfl (by decide) rfl rfl (pa_cons (pe_callB (call_max2 rfl) (by rfl) T.b_max (by decide +kernel) (pa_cons (pv 1) (pa_cons (pe_op op_sub pe_int (pv 1)) pa_nil))) (pa_cons (pe_callB (call_max2 rfl) (by rfl) T.b_max (by decide +kernel) (pa_cons (pv 0) (pa_cons (pe_op op_sub pe_int (pv 0)) pa_nil))) pa_nil)) (by rfl))
    (pss_cons (ps_while PassesOwn.never (pt_cmpR op_ne (pv 3) pe_int (nomark _))
      (pss_one (ps_par (i := 2) (j := 3) rfl sc_law_ratio.nd rfl rfl (by decide) rfl rfl (pa_cons (pv 3) (pa_cons (pe_op op_modN (pv 2) (pv 3)) pa_nil)) (by rfl))))
    (pss_cons (ps_set (i := 2) sc_law_ratio.nd rfl (Or.inl rfl) (pe_ifExp (pt_cmpR op_gt (pv 1) pe_int (nomark _)) (pv 2) (pe_op op_sub pe_int (pv 2))))
    (pss_one (ps_ret (pe_tup (pa_cons (pe_op op_fdivW (pe_callTy call_int1 (by rfl) T.b_int (by decide +kernel) (pa_cons (pv 0) pa_nil)) (pv 2)) (pa_cons (pe_op op_fdivW (pe_callTy call_int1 (by rfl) T.b_int (by decide +kernel) (pa_cons (pv 1) pa_nil)) (pv 2)) pa_nil)))))))), ?_⟩
    refine ⟨_, rfl, _, rfl, _, _, rfl, rfl, _, _, rfl, _, rfl, _, rfl, _, _, rfl, rfl, _, _, rfl, _, _, rfl, ?_⟩
    refine while_by (fun σ H' => H' = H ∧ ∃ x y : Int, σ = [some (.int t), some (.int l), some (.int x), some (.int y)] ∧ 0 ≤ x ∧ 0 ≤ y ∧ Int.gcd x y = Int.gcd t l) (fun σ _ => match σ with | [_, _, _, some (.int y)] => y.toNat | _ => 0)
      ⟨rfl, _, _, rfl, ?_, ?_, ?_⟩ ?_ ?_
    · split <;> omega
    · split <;> omega
    · have e1 : ∀ z : Int, (if 0 - z > z then 0 - z else z) = (z.natAbs : Int) := fun z => by split <;> omega
      show Int.gcd (if 0 - l > l then 0 - l else l) (if 0 - t > t then 0 - t else t) = _
      rw [e1, e1, Int.gcd_comm t l]; rfl
    · rintro σ H' ⟨rfl, x, y, rfl, hx, hy, hgc⟩
      refine ⟨_, rfl, rfl, _, rfl, ?_⟩
      by_cases c : y = 0
      · subst c
        refine iteF ?_
        have ex : x = (Int.gcd t l : Int) := by rw [← hgc, Int.gcd_zero_right]; omega
        subst ex
        refine ⟨_, rfl, _, _, rfl, rfl, _, rfl, ?_⟩
        rw [show decide (l > 0) = true from decide_eq_true hl]
        refine iteT ⟨_, rfl, ?_⟩
        have gb : ((Int.gcd t l : Nat) : Int).natAbs < 2 ^ 100 := Nat.lt_of_le_of_lt (by omega) hb
        refine ⟨_, rfl, .inl ⟨_, rfl, _, rfl, _, _, rfl, rfl, wide_div (b := 100) hg gb (by decide) (by decide), ?_⟩⟩
        refine ⟨_, rfl, .inl ⟨_, rfl, _, rfl, _, _, rfl, rfl, wide_div (b := 100) hg gb (by decide) (by decide), ?_⟩⟩
        refine ⟨small (by show 2 ≤ 1000; decide), fun p hp => ?_⟩
        obtain ⟨e1, e2⟩ := rat_num_den (t := t) hl
        refine k _ _ (Same.new hp) ⟨p, rfl, SqT.of ?_⟩
        rw [e1, e2]; exact upd_same
      · have e : (!decide (V.int y = V.int 0)) = true := by simp [c]
        rw [e]
        refine iteT ?_
        refine ⟨_, rfl, _, rfl, _, rfl, _, _, rfl, rfl, c, _, _, rfl, ?_⟩
        have h1 : (x.fmod y) = x % y := Int.fmod_eq_emod_of_nonneg x (by omega)
        have h2 := Int.emod_nonneg x c
        have h3 := Int.emod_lt_of_pos x (show 0 < y by omega)
        refine ⟨⟨rfl, _, _, rfl, hy, by show 0 ≤ x.fmod y; omega, ?_⟩, ?_⟩
        · show Int.gcd y (x.fmod y) = _
          rw [gcd_step (by omega)]; exact hgc
        · show (x.fmod y).toNat < y.toNat
          omega
    · rintro σ H' Q' Q'' hm ⟨u, e, f, b, e2, q⟩
      exact ⟨u, e, f, b, e2, hm _ _ q⟩
def spLPlus (K : PySem.W.Frag) : Sp := fun vs H Q _ => ∃ (p1 p2 : Addr) (a c : Int), vs = [.ref p1, .ref p2] ∧ SqT K H p1 [.int a, .int 1] ∧ SqT K H p2 [.int c, .int 1] ∧ a.natAbs < 2 ^ 60 ∧ c.natAbs < 2 ^ 60 ∧ ∀ p H', Same H H' → SqT K H' p [.int (a + c), .int 1] → Q (.ref p) H'
theorem sc_law_plus : FnScope ["_law_one", "_law_other"] ["_law_one", "_law_other"] (defScope s_law_plus) := ⟨rfl, rfl, rfl, by decide +kernel, rfl, by decide +kernel, by decide +kernel⟩
theorem ok_law_plus (T : Txt K mg C CN) : Has P w K mg base CX0 "_law_plus" 2 ["_law_one", "_law_other"] (spLPlus K) := by
  obtain ⟨f, fd, mf, F, bf⟩ := T.d_law_plus
  obtain ⟨f_law_ratio, fd_law_ratio, m_law_ratio, k_law_ratio, b_law_ratio, G_law_ratio⟩ := ok_law_ratio (P := P) (w := w) (base := base) T
  refine ⟨f, fd, mf, F.kp, bf, F.ok sc_law_plus (fun vs H Q E h => ?_) (fun cdv A outer s H vs Q E hr h => ?_)⟩
  · obtain ⟨p1, p2, a, c, rfl, _⟩ := h
    rfl
  · obtain ⟨p1, p2, a, c, rfl, h1, h2, ha, hc, k⟩ := h
    have hr_law_ratio := hr.mono (j := 1) (by decide)
    have b1 : (1 : Int).natAbs < 2 ^ 60 := by decide
    refine ⟨_, PSs.nox (pss_one (ps_ret (pe_call G_law_ratio hr_law_ratio (by rfl) m_law_ratio k_law_ratio b_law_ratio .nil pass0 (pa_cons (pe_op op_add (pe_op op_mulW (pe_ix (ixT (K := K)) (pv 0) pe_int (fun _ _ => rfl)) (pe_ix (ixT (K := K)) (pv 1) pe_int (fun _ _ => rfl))) (pe_op op_mulW (pe_ix (ixT (K := K)) (pv 1) pe_int (fun _ _ => rfl)) (pe_ix (ixT (K := K)) (pv 0) pe_int (fun _ _ => rfl)))) (pa_cons (pe_op op_mulW (pe_ix (ixT (K := K)) (pv 0) pe_int (fun _ _ => rfl)) (pe_ix (ixT (K := K)) (pv 1) pe_int (fun _ _ => rfl))) pa_nil))))), ?_⟩
    refine ⟨_, rfl, p1, _, _, _, rfl, rfl, h1, rfl, _, rfl, p2, _, _, _, rfl, rfl, h2, rfl, _, _, rfl, rfl, wide_mul (a := 60) (b := 60) ha b1 (by decide) (by decide) (by decide), ?_⟩
    refine ⟨_, rfl, p2, _, _, _, rfl, rfl, h2, rfl, _, rfl, p1, _, _, _, rfl, rfl, h1, rfl, _, _, rfl, rfl, wide_mul (a := 60) (b := 60) hc b1 (by decide) (by decide) (by decide), _, _, rfl, rfl, ?_⟩
    refine ⟨_, rfl, p1, _, _, _, rfl, rfl, h1, rfl, _, rfl, p2, _, _, _, rfl, rfl, h2, rfl, _, _, rfl, rfl, wide_mul (a := 60) (b := 60) b1 b1 (by decide) (by decide) (by decide), ?_⟩
    refine ⟨_, _, rfl, by decide, by decide, fun v H' s hv => ?_⟩
    have e : Rat.divInt (a * 1 + c * 1) (1 * 1) = ((a + c : Int) : Rat) := by
      rw [Int.mul_one, Int.mul_one, Int.mul_one, Rat.divInt_eq_div]
      show ((a + c : Int) : Rat) / (1 : Rat) = _
      grind
    have hv' : Rt K H' v ((a + c : Int) : Rat) := e ▸ hv
    obtain ⟨p, rfl, hp⟩ := hv'
    exact k p H' s hp
def spLSum (K : PySem.W.Frag) : Sp := fun vs H Q _ => ∃ (v u : V) (n : Nat) (f z : Nat → Int), vs = [v, u] ∧ Nums K H v n f ∧ Rts K H u n (fun j => (z j : Rat)) ∧ n ≤ 20 ∧ (∀ j, j < n → (f j).natAbs ≤ 128 ∧ (z j).natAbs ≤ 8) ∧
  ∀ p H', Same H H' → SqT K H' p [.int (K6.sI n fun j => f j * z j), .int 1] → Q (.ref p) H'
theorem mul_small {f z : Int} (h1 : f.natAbs ≤ 128) (h2 : z.natAbs ≤ 8) : (f * z).natAbs ≤ 1024 := by
  rw [Int.natAbs_mul]
  exact Nat.mul_le_mul h1 h2
theorem sum_small {f z : Nat → Int} : ∀ {n : Nat}, (∀ j, j < n → (f j).natAbs ≤ 128 ∧ (z j).natAbs ≤ 8) → (K6.sI n fun j => f j * z j).natAbs ≤ 1024 * n
  | 0, _ => Nat.le_refl 0
  | n + 1, h => by
    have ih := sum_small (n := n) fun j hj => h j (Nat.lt_succ_of_lt hj)
    obtain ⟨h1, h2⟩ := h n (Nat.lt_succ_self n)
    have h3 := mul_small h1 h2
    show ((K6.sI n fun j => f j * z j) + f n * z n).natAbs ≤ _
    omega
theorem sc_law_sum : FnScope ["_law_numbers", "_law_plan", "_law_found", "_law_at"] ["_law_numbers", "_law_plan"] (defScope s_law_sum) := ⟨rfl, rfl, rfl, by decide +kernel, rfl, by decide +kernel, by decide +kernel⟩
theorem ok_law_sum (T : Txt K mg C CN) : Has P w K mg base CX0 "_law_sum" 3 ["_law_numbers", "_law_plan"] (spLSum K) := by
  obtain ⟨f, fd, mf, F, bf⟩ := T.d_law_sum
  obtain ⟨f_law_plus, fd_law_plus, m_law_plus, k_law_plus, b_law_plus, G_law_plus⟩ := ok_law_plus (P := P) (w := w) (base := base) T
  refine ⟨f, fd, mf, F.kp, bf, F.ok sc_law_sum (fun vs H Q E h => ?_) (fun cdv A outer s H vs Q E hr h => ?_)⟩
  · obtain ⟨v, u, n, f, z, rfl, _⟩ := h
    rfl
  · obtain ⟨v, u, n, f, z, rfl, ⟨a, rfl, ha⟩, ⟨b, vs, rfl, hb, hlen, hvs⟩, hn, hfz, k⟩ := h
    have hr_law_plus := hr.mono (j := 2) (by decide)
    refine ⟨_, PSs.nox (pss_cons (ps_set (i := 2) sc_law_sum.nd rfl (Or.inl rfl) (pe_tup (pa_cons pe_int (pa_cons pe_int pa_nil))))
    (pss_cons (ps_for PassesOwn.never rfl (pi_range1 rfl T.b_range (pa_cons (pe_callB (lenS (K := K)) (by rfl) T.b_len PySem.boot_len (pa_cons (pv 1) pa_nil)) pa_nil)) (pg_name (i := 3) sc_law_sum.nd rfl (Or.inl rfl))
      (pss_one (ps_set (i := 2) sc_law_sum.nd rfl (Or.inl rfl) (pe_call G_law_plus hr_law_plus (by rfl) m_law_plus k_law_plus b_law_plus .nil pass0 (pa_cons (pv 2) (pa_cons (pe_tup (pa_cons (pe_op op_mulW (pe_ix (ixW (K := K)) (pv 0) (pv 3) (fun _ _ => rfl)) (pe_ix (ixT (K := K)) (pe_ix (ixT (K := K)) (pv 1) (pv 3) (fun _ _ => rfl)) pe_int (fun _ _ => rfl))) (pa_cons (pe_ix (ixT (K := K)) (pe_ix (ixT (K := K)) (pv 1) (pv 3) (fun _ _ => rfl)) pe_int (fun _ _ => rfl)) pa_nil))) pa_nil))))))
    (pss_one (ps_ret (pv 2))))), ?_⟩
    refine ⟨small (by show 2 ≤ 1000; decide), fun q0 hq0 => ?_⟩
    have s0 := Same.new (o := .tup [V.int 0, V.int 1]) hq0
    refine ⟨_, rfl, b, _, rfl, .inr (s0.tup hb), _, rfl, by omega, by omega, for_it (walk_rg (n := vs.length))
      (fun i σ H' => (∃ (q : Addr) (u1 : Option V), σ = [some (.ref a), some (.ref b), some (.ref q), u1] ∧ SqT K H' q [.int (K6.sI i fun j => f j * z j), .int 1]) ∧ Same H H')
      ⟨⟨q0, _, rfl, SqT.of upd_same⟩, s0⟩ (fun _ _ _ _ _ => trivial) ?_ ?_⟩
    · rintro i y σ H1 H1' hi ⟨⟨q, u1, rfl, hq⟩, s1⟩ ⟨rfl, rfl⟩
      have hin : i < n := by omega
      have ha1 : SqL K H1' a (iv n f) ∨ SqT K H1' a (iv n f) := ha.imp (fun x => s1.seq x) fun x => s1.tup x
      obtain ⟨w1, ew1, qz, rfl, hqz⟩ := hvs i hin
      obtain ⟨hf1, hz1⟩ := hfz i hin
      have tf : (f i).natAbs < 2 ^ 60 := Nat.lt_of_le_of_lt hf1 (by decide)
      have tz : (z i).natAbs < 2 ^ 60 := Nat.lt_of_le_of_lt hz1 (by decide)
      refine ⟨_, rfl, _, rfl, _, rfl, a, _, _, _, rfl, rfl, ha1, atI_nat (iv_get hin), _, rfl, _, rfl, b, _, _, _, rfl, rfl, s1.tup hb, atI_nat ew1, qz, _, _, _, rfl, rfl, s1.tup hqz, rfl, _, _, rfl, rfl, wide_mul (a := 60) (b := 60) tf tz (by decide) (by decide) (by decide), ?_⟩
      refine ⟨_, rfl, _, rfl, b, _, _, _, rfl, rfl, s1.tup hb, atI_nat ew1, qz, _, _, _, rfl, rfl, s1.tup hqz, rfl, small (by show 2 ≤ 1000; decide), fun q2 hq2 => ?_⟩
      have s2 := Same.new (o := .tup [V.int (f i * z i), V.int 1]) hq2
      have b1 := sum_small (n := i) fun j hj => hfz j (by omega)
      have b2 := mul_small hf1 hz1
      refine ⟨q, q2, (K6.sI i fun j => f j * z j), f i * z i, rfl, s2.tup hq, SqT.of upd_same, Nat.lt_of_le_of_lt b1 (by omega), Nat.lt_of_le_of_lt b2 (by decide), fun p H3 s3 hp => ?_⟩
      exact ⟨⟨p, _, rfl, hp⟩, s1.trans (s2.trans s3)⟩
    · rintro σ H1 ⟨⟨q, u1, rfl, hq⟩, s1⟩
      rw [hlen] at hq
      exact ⟨_, rfl, k q H1 s1 hq⟩
end
/-- a comprehension whose turns draw from the row at l -/
theorem lc_but {J : It} {n : Nat} {G : Hp → Prop} {Y : Nat → Hp → V → Hp → Prop} {g : TG} {tt : TT} {te : TE} {vs : List Nat} {σ : L2.St} {H1 : Hp} {D : Addr} {Qd : Hp → Prop} {K : PySem.W.Frag} {l sc : Addr} {ns : List Int}
    (w : Walk J n G Y) (Rel : Nat → V → Prop) (hn : n ≤ 1000) (hD : H1 D = none) (d1 : Drow K H1 l sc ns) (hG : ∀ H, G H)
    (hs : ∀ i x H H' (Qy : V → Hp → Prop) (Qn : Hp → Prop), i < n → But l H1 H → Drow K H l sc ns → Y i H x H' → (∀ y H4, But l H H4 → Drow K H4 l sc ns → Rel i y → Qy y H4) →
      g x (wipe σ vs) H' fun σ2 H2 => wipe σ2 vs = wipe σ vs ∧ tt σ2 H2 fun b H3 => if b = true then te σ2 H3 Qy else Qn H3)
    (hd : ∀ H xs, But l H1 H → Drow K H l sc ns → H D = some (.lst xs) → xs.length = n → (∀ j, j < n → ∃ y, xs[j]? = some y ∧ Rel j y) → Qd H) :
    ∃ Wv : Nat → Nat → Hp → Prop, (∃ k0, Wv 0 k0 (upd H1 D (.lst []))) ∧ ∀ i k0 H, Wv i k0 H →
      (J.stop i H ∧ Qd H) ∨ (J.go i H ∧ ∃ Nx : Hp → Prop, (∀ H', Nx H' → ∃ k1, k1 < k0 ∧ Wv (i + 1) k1 H') ∧ ∀ x H', J.yld i H x H' → g x (wipe σ vs) H' fun σ2 H2 => wipe σ2 vs = wipe σ vs ∧ tt σ2 H2 fun b H3 =>
        if b = true then te σ2 H3 fun y H4 => ∃ ac1, H4 D = some (.lst ac1) ∧ ac1.length < sizeLine ∧ Nx (upd H4 D (.lst (ac1 ++ [y]))) else Nx H3) := by
  obtain ⟨xs0, hx0⟩ := d1.lst
  have nD : l ≠ D := ne_of_none hx0 hD
  refine lc_it (Qd := Qd) w (fun i H => But l H1 H ∧ Drow K H l sc ns ∧ ∃ acc, H D = some (.lst acc) ∧ acc.length = i ∧ ∀ j, j < i → ∃ y, acc[j]? = some y ∧ Rel j y)
    ⟨(But.refl l H1).then (Same.new hD), d1.same (Same.new hD), [], upd_same, rfl, fun j hj => absurd hj (Nat.not_lt_zero j)⟩ (fun i H _ p => hG H) ?_ ?_
  · rintro i x H H' hi ⟨b1, dH, acc, hacc, hl, hrel⟩ hy
    refine hs i x H H' _ _ hi b1 dH hy ?_
    intro y H4 b4 d4 r4
    have h4 : H4 D = some (.lst acc) := b4 _ _ nD.symm hacc
    have bb : But l H1 (upd H4 D (.lst (acc ++ [y]))) := fun c o hc e => by
      rw [upd_ne (ne_of_none e hD)]; exact b4 _ _ hc (b1 _ _ hc e)
    refine ⟨acc, h4, small1000 (by omega), bb, d4.move d1 bb (upd_ne nD), acc ++ [y], upd_same, by simp [hl], fun j hj => ?_⟩
    by_cases c : j < i
    · obtain ⟨z, ez, rz⟩ := hrel j c
      exact ⟨z, by rw [List.getElem?_append_left (by omega)]; exact ez, rz⟩
    · have : j = i := by omega
      subst this
      exact ⟨y, by rw [List.getElem?_append_right (by omega), hl]; simp, r4⟩
  · rintro H ⟨b1, dH, acc, hacc, hl, hrel⟩
    exact hd H acc b1 dH hacc hl hrel
/-- its ints -/
theorem ints_of {n : Nat} {xs : List V} {P : Nat → Int → Prop} (hl : xs.length = n) (h : ∀ j, j < n → ∃ y, xs[j]? = some y ∧ ∃ z : Int, y = .int z ∧ P j z) : ∃ f : Nat → Int, xs = iv n f ∧ ∀ j, j < n → P j (f j) := by
  have h' : ∀ j, ∃ z : Int, j < n → xs[j]? = some (.int z) ∧ P j z := fun j => by
    by_cases c : j < n
    · obtain ⟨y, ey, z, rfl, hz⟩ := h j c
      exact ⟨z, fun _ => ⟨ey, hz⟩⟩
    · exact ⟨0, fun q => absurd q c⟩
  obtain ⟨f, hf⟩ := Classical.skolem.mp h'
  exact ⟨f, iv_eq hl fun i hi => (hf i hi).1, fun j hj => (hf j hj).2⟩
end G3
-- WLaw3
set_option Elab.async false
set_option linter.all false
set_option maxRecDepth 100000
set_option maxHeartbeats 4000000
namespace G3
open PySem PySem.Spec PyProof.Rows L2
theorem joinV {b : Bool} {t1 t2 : TE} {σ : L2.St} {H : Hp} {Q : VK} (J : V → Hp → Prop) (hb : ∀ N : VK, (∀ v H', J v H' → N v H') → if b = true then t1 σ H N else t2 σ H N) (hn : ∀ v H', J v H' → Q v H') : (if b = true then t1 σ H Q else t2 σ H Q) := hb Q hn
theorem walk_rgI {hi : Int} {n : Nat} (h : hi = (n : Int)) : Walk (Itr 0 hi.toNat) n (fun _ => True) (YFn fun i => .int (i : Nat)) := by
  subst h; exact walk_rg
theorem But.b2 {l f : Addr} {H H1 H2 : Hp} (a : But2 l f H H1) (b : But l H1 H2) : But2 l f H H2 := fun c o x y e => b c o x (a c o x y e)
theorem But.ufresh {l D : Addr} {H H1 : Hp} {o : HO} (b : But l H H1) (h : H D = none) : But l H (upd H1 D o) := fun c u n e => by
  rw [upd_ne (ne_of_none e h)]; exact b c u n e
section
variable {P : Program} {w : World} {K : PySem.W.Frag} {mg : Str → Option Value} {base : Heap} {C CN : Addr}
def RowG (K : PySem.W.Frag) (H : Hp) (y : V) (k : Nat) : Prop := ∃ (A : Nat → Int) (sg : K6.Sg) (b : Int), Rw K H y k A sg b ∧ (∀ q, q < k → (A q).natAbs ≤ 4) ∧ b.natAbs ≤ 100
theorem RowG.tp {H H' : Hp} {y : V} {k : Nat} (t : Tp H H') : RowG K H y k → RowG K H' y k := fun ⟨A, sg, b, h, r⟩ => ⟨A, sg, b, h.tp t, r⟩
theorem near_le {A st : Nat → Int} : ∀ {k : Nat}, (∀ q, q < k → (A q).natAbs ≤ 4) → (∀ q, q < k → 0 ≤ st q ∧ st q ≤ 4) → (K6.sI k fun q => A q * st q).natAbs ≤ 16 * k
  | 0, _, _ => Nat.le_refl 0
  | k + 1, h1, h2 => by
    have ih := near_le (k := k) (fun q hq => h1 q (Nat.lt_succ_of_lt hq)) (fun q hq => h2 q (Nat.lt_succ_of_lt hq))
    have a := h1 k (Nat.lt_succ_self k)
    have b := h2 k (Nat.lt_succ_self k)
    have c : (A k * st k).natAbs ≤ 4 * 4 := by rw [Int.natAbs_mul]; exact Nat.mul_le_mul a (by omega)
    show ((K6.sI k fun q => A q * st q) + A k * st k).natAbs ≤ _
    omega
def spLTask (K : PySem.W.Frag) : Sp := fun vs H Q _ => ∃ (l sc : Addr) (ns : List Int), vs = [.ref l, .int 4, .int 5, .int 4] ∧ Drow K H l sc ns ∧
  ∀ u t H', But l H H' → Drow K H' l sc ns → Tk K H' u t → Valid t → S0 t → t.k ≤ 4 → Q u H'
theorem sc_law_task : FnScope ["_law_row", "_law_columns", "_law_rows", "_law_value", "_law_many", "_law_kinds", "_law_costs", "_law_turn", "_law_start", "_law_found", "_law_numbers", "_law_right", "_law_near", "_law_way", "_law_at"] ["_law_row", "_law_columns", "_law_rows", "_law_value"] (defScope s_law_task) := ⟨rfl, rfl, rfl, by decide +kernel, rfl, by decide +kernel, by decide +kernel⟩
theorem ok_law_task (T : Txt K mg C CN) : Has P w K mg base CX0 "_law_task" 2 ["_law_row", "_law_columns", "_law_rows", "_law_value"] (spLTask K) := by
  obtain ⟨f, fd, mf, F, bf⟩ := T.d_law_task
  obtain ⟨f_law_taken, fd_law_taken, m_law_taken, k_law_taken, b_law_taken, G_law_taken⟩ := ok_law_taken (P := P) (w := w) (base := base) T
  refine ⟨f, fd, mf, F.kp, bf, F.ok sc_law_task (fun vs H Q E h => ?_) (fun cdv A outer s H vs Q E hr h => ?_)⟩
  · obtain ⟨l, sc, ns, rfl, _⟩ := h
    rfl
  · obtain ⟨l, sc, ns, rfl, d0, kk⟩ := h
    have hr_law_taken := hr.mono (j := 1) (by decide)
    refine ⟨_, PSs.nox (pss_cons (ps_set (i := 4) sc_law_task.nd rfl (Or.inl rfl) (pe_op op_add pe_int (pe_call G_law_taken hr_law_taken (by rfl) m_law_taken k_law_taken b_law_taken .nil pass0 (pa_cons (pv 0) (pa_cons (pv 1) pa_nil)))))
    (pss_cons (ps_set (i := 5) sc_law_task.nd rfl (Or.inl rfl) (pe_join pe_str (pe_lc (own := [("_law_turn", 7)]) (g := gName 7) rfl sc_law_task.nd (pi_range1 rfl T.b_range (pa_cons (pv 4) pa_nil)) (blkOk_by (own := [("_law_turn", 7)]) (N := ["_law_row", "_law_columns", "_law_rows", "_law_value", "_law_many", "_law_kinds", "_law_costs", "_law_turn", "_law_start", "_law_found", "_law_numbers", "_law_right", "_law_near", "_law_way", "_law_at"]) (sc := defScope s_law_task) (by decide +kernel)) (fun _ _ _ _ _ => by exact (pg_name (i := 7) sc_law_task.nd rfl (Or.inl rfl))) (fun _ _ _ _ _ => by exact pts_nil) (fun _ _ _ _ _ => by exact (pe_ifExp (pt_cmpR op_eq (pe_call G_law_taken hr_law_taken (by rfl) m_law_taken k_law_taken b_law_taken .nil pass0 (pa_cons (pv 0) (pa_cons pe_int pa_nil))) pe_int (nomark _)) pe_str pe_str)))))
    (pss_cons (ps_set (i := 6) sc_law_task.nd rfl (Or.inl rfl) (pe_callTy call_tuple_of (by rfl) T.b_tuple (by decide +kernel) (pa_cons (pe_lc (own := [("_law_turn", 7)]) (g := gName 7) rfl sc_law_task.nd (pi_range1 rfl T.b_range (pa_cons (pv 4) pa_nil)) (blkOk_by (own := [("_law_turn", 7)]) (N := ["_law_row", "_law_columns", "_law_rows", "_law_value", "_law_many", "_law_kinds", "_law_costs", "_law_turn", "_law_start", "_law_found", "_law_numbers", "_law_right", "_law_near", "_law_way", "_law_at"]) (sc := defScope s_law_task) (by decide +kernel)) (fun _ _ _ _ _ => by exact (pg_name (i := 7) sc_law_task.nd rfl (Or.inl rfl))) (fun _ _ _ _ _ => by exact pts_nil) (fun _ _ _ _ _ => by exact (pe_op op_add (pe_op op_sub (pe_call G_law_taken hr_law_taken (by rfl) m_law_taken k_law_taken b_law_taken .nil pass0 (pa_cons (pv 0) (pa_cons (pe_op op_add (pe_op op_mulW pe_int (pv 3)) pe_int) pa_nil))) (pv 3)) (pe_op op_mulW pe_int (pe_call G_law_taken hr_law_taken (by rfl) m_law_taken k_law_taken b_law_taken .nil pass0 (pa_cons (pv 0) (pa_cons pe_int pa_nil))))))) pa_nil)))
    (pss_cons (ps_asg (pe_tup (pa_cons (pe_lc (own := [("_law_turn", 7)]) (g := gName 7) rfl sc_law_task.nd (pi_range1 rfl T.b_range (pa_cons (pv 4) pa_nil)) (blkOk_by (own := [("_law_turn", 7)]) (N := ["_law_row", "_law_columns", "_law_rows", "_law_value", "_law_many", "_law_kinds", "_law_costs", "_law_turn", "_law_start", "_law_found", "_law_numbers", "_law_right", "_law_near", "_law_way", "_law_at"]) (sc := defScope s_law_task) (by decide +kernel)) (fun _ _ _ _ _ => by exact (pg_name (i := 7) sc_law_task.nd rfl (Or.inl rfl))) (fun _ _ _ _ _ => by exact pts_nil) (fun _ _ _ _ _ => by exact (pe_call G_law_taken hr_law_taken (by rfl) m_law_taken k_law_taken b_law_taken .nil pass0 (pa_cons (pv 0) (pa_cons pe_int pa_nil))))) (pa_cons (pe_lst pa_nil) pa_nil))) (pg_tup (by rfl) (pgs_cons (pg_name (i := 8) sc_law_task.nd rfl (Or.inr rfl)) (pgs_cons (pg_name (i := 9) sc_law_task.nd rfl (Or.inl rfl)) pgs_nil))))
    (pss_cons (ps_for PassesOwn.never rfl (pi_range1 rfl T.b_range (pa_cons (pe_call G_law_taken hr_law_taken (by rfl) m_law_taken k_law_taken b_law_taken .nil pass0 (pa_cons (pv 0) (pa_cons (pe_op op_add (pv 2) pe_int) pa_nil))) pa_nil)) (pg_name (i := 7) sc_law_task.nd rfl (Or.inl rfl))
      (pss_cons (ps_set (i := 10) sc_law_task.nd rfl (Or.inr rfl) (pe_lc (own := [("_law_at", 14)]) (g := gName 14) rfl sc_law_task.nd (pi_range1 rfl T.b_range (pa_cons (pv 4) pa_nil)) (blkOk_by (own := [("_law_at", 14)]) (N := ["_law_row", "_law_columns", "_law_rows", "_law_value", "_law_many", "_law_kinds", "_law_costs", "_law_turn", "_law_start", "_law_found", "_law_numbers", "_law_right", "_law_near", "_law_way", "_law_at"]) (sc := defScope s_law_task) (by decide +kernel)) (fun _ _ _ _ _ => by exact (pg_name (i := 14) sc_law_task.nd rfl (Or.inl rfl))) (fun _ _ _ _ _ => by exact pts_nil) (fun _ _ _ _ _ => by exact (pe_op op_sub (pe_call G_law_taken hr_law_taken (by rfl) m_law_taken k_law_taken b_law_taken .nil pass0 (pa_cons (pv 0) (pa_cons (pe_op op_add (pe_op op_mulW pe_int (pv 3)) pe_int) pa_nil))) (pv 3)))))
      (pss_cons (ps_par (i := 12) (j := 13) rfl sc_law_task.nd rfl rfl (by decide) rfl rfl (pa_cons (pe_callB (cr_sum rfl) (by rfl) T.b_sum (by decide +kernel) (pa_cons (pe_lc (own := [("_law_at", 14)]) (g := gName 14) rfl sc_law_task.nd (pi_range1 rfl T.b_range (pa_cons (pv 4) pa_nil)) (blkOk_by (own := [("_law_at", 14)]) (N := ["_law_row", "_law_columns", "_law_rows", "_law_value", "_law_many", "_law_kinds", "_law_costs", "_law_turn", "_law_start", "_law_found", "_law_numbers", "_law_right", "_law_near", "_law_way", "_law_at"]) (sc := defScope s_law_task) (by decide +kernel)) (fun _ _ _ _ _ => by exact (pg_name (i := 14) sc_law_task.nd rfl (Or.inl rfl))) (fun _ _ _ _ _ => by exact pts_nil) (fun _ _ _ _ _ => by exact (pe_op op_mulW (pe_ix (ixL (K := K)) (pv 10) (pv 14) (fun _ _ => rfl)) (pe_ix (ixL (K := K)) (pv 8) (pv 14) (fun _ _ => rfl))))) pa_nil)) (pa_cons (pe_call G_law_taken hr_law_taken (by rfl) m_law_taken k_law_taken b_law_taken .nil pass0 (pa_cons (pv 0) (pa_cons pe_int pa_nil))) pa_nil)) (by rfl))
      (pss_cons (ps_set (i := 11) sc_law_task.nd rfl (Or.inl rfl) (pe_ifExp (pt_cmpR op_eq (pv 13) pe_int (nomark _)) (pv 12) (pe_ifExp (pt_cmpR op_lt (pv 13) pe_int (nomark _)) (pe_op op_sub (pv 12) (pe_call G_law_taken hr_law_taken (by rfl) m_law_taken k_law_taken b_law_taken .nil pass0 (pa_cons (pv 0) (pa_cons pe_int pa_nil)))) (pe_op op_add (pv 12) (pe_call G_law_taken hr_law_taken (by rfl) m_law_taken k_law_taken b_law_taken .nil pass0 (pa_cons (pv 0) (pa_cons pe_int pa_nil)))))))
      (pss_cons (ps_set (i := 11) sc_law_task.nd rfl (Or.inl rfl) (pe_op op_add (pv 11) (pe_ifExp (pt_cmpR op_eq (pe_call G_law_taken hr_law_taken (by rfl) m_law_taken k_law_taken b_law_taken .nil pass0 (pa_cons (pv 0) (pa_cons pe_int pa_nil))) pe_int (nomark _)) pe_int pe_int)))
      (pss_one (ps_expr (pe_bm PySem.F.plainAttrs_list PySem.F.slot_list_append PySem.F.type_list_append mt_append (pv 9) (pa_cons (pe_tup (pa_cons (pe_callTy call_tuple_of (by rfl) T.b_tuple (by decide +kernel) (pa_cons (pv 10) pa_nil)) (pa_cons (pe_ifExp (pt_cmpR op_eq (pv 13) pe_int (nomark _)) pe_str (pe_ifExp (pt_cmpR op_lt (pv 13) pe_int (nomark _)) pe_str pe_str)) (pa_cons (pv 11) pa_nil)))) pa_nil)))))))))
    (pss_one (ps_ret (pe_tup (pa_cons (pv 5) (pa_cons (pv 6) (pa_cons (pe_callTy call_tuple_of (by rfl) T.b_tuple (by decide +kernel) (pa_cons (pv 9) pa_nil)) pa_nil))))))))))), ?_⟩
    refine ⟨_, rfl, _, rfl, l, sc, ns, 4, rfl, d0, by decide, by decide, fun r0 H1 hr0 b1 d1 => ⟨_, _, rfl, rfl, ?_⟩⟩
    obtain ⟨k, hk⟩ : ∃ k : Nat, k = 1 + r0 := ⟨_, rfl⟩
    have ek : (1 : Int) + (r0 : Nat) = (k : Nat) := by omega
    have k1 : 1 ≤ k := by omega
    have k4 : k ≤ 4 := by omega
    -- the kinds
    refine ⟨⟨_, rfl⟩, _, rfl, _, rfl, by omega, by omega, fun D1 hD1 => lc_but (walk_rgI ek) (fun _ y => ∃ b : Bool, y = .str ⟨#[if b = true then 43 else 42]⟩) (by omega) hD1 d1 (fun _ => trivial) ?_ ?_⟩
    · rintro j y H2 H3 Qy Qn hj b2 d2 ⟨rfl, rfl⟩ kq
      refine ⟨rfl, yesI ⟨_, rfl, l, sc, ns, 4, rfl, d2, by decide, by decide, fun r H4 hr b4 d4 => ⟨rfl, _, rfl, ?_⟩⟩⟩
      by_cases c : r = 0
      · have e : decide (V.int (r : Nat) = V.int 0) = true := by simp [c]
        rw [e]
        exact iteT (kq _ _ b4 d4 ⟨false, rfl⟩)
      · have e : decide (V.int (r : Nat) = V.int 0) = false := by simp [c]
        rw [e]
        exact iteF (kq _ _ b4 d4 ⟨true, rfl⟩)
    intro H2 xs b2 d2 e2 hxl hxr
    have bb2 := b1.trans b2
    obtain ⟨plus, hplus⟩ : ∃ plus : Nat → Bool, ∀ j, j < k → xs[j]? = some (.str ⟨#[if plus j = true then 43 else 42]⟩) := by
      have h' : ∀ j, ∃ b : Bool, j < k → xs[j]? = some (.str ⟨#[if b = true then 43 else 42]⟩) := fun j => by
        by_cases c : j < k
        · obtain ⟨y, ey, b, rfl⟩ := hxr j c
          exact ⟨b, fun _ => ey⟩
        · exact ⟨true, fun q => absurd q c⟩
      exact Classical.skolem.mp h'
    have exs : xs = ((List.range k).map fun j => (⟨#[if plus j = true then 43 else 42]⟩ : Str)).map V.str := by
      apply List.ext_getElem?
      intro i
      by_cases hi : i < k
      · rw [hplus i hi]; simp [hi]
      · rw [List.getElem?_eq_none (by omega), List.getElem?_eq_none (by simp; omega)]
    have hlen : ((((List.range k).map fun j => (⟨#[if plus j = true then 43 else 42]⟩ : Str)).map (·.length)).sum) = k := by
      rw [List.map_map]
      have : (fun x : Str => x.length) ∘ (fun j => (⟨#[if plus j = true then 43 else 42]⟩ : Str)) = fun _ => 1 := rfl
      rw [this]; exact sum_ones k
    refine ⟨_, D1, _, rfl, rfl, .inl (SqL.of (by rw [e2, exs])), ?_, ?_⟩
    · rw [hlen]
      have e0 : (("" : Str)).length = 0 := by decide +kernel
      rw [e0]; omega
    rw [join_kinds]
    -- the costs
    refine ⟨_, rfl, _, rfl, by omega, by omega, fun D2 hD2 => lc_but (walk_rgI ek) (fun _ y => ∃ z : Int, y = .int z ∧ (-4 ≤ z ∧ z ≤ 6)) (by omega) hD2 d2 (fun _ => trivial) ?_ ?_⟩
    · rintro j y H3 H4 Qy Qn hj b3 d3 ⟨rfl, rfl⟩ kq
      refine ⟨rfl, yesI ⟨_, rfl, _, rfl, _, _, rfl, rfl, wide_mul (a := 10) (b := 10) (by decide) (by decide) (by decide) (by decide) (by decide), _, _, rfl, rfl, l, sc, ns, 9, rfl, d3, by decide, by decide, fun r1 H5 hr1 b5 d5 => ?_⟩⟩
      refine ⟨_, rfl, _, _, rfl, rfl, _, rfl, l, sc, ns, 2, rfl, d5, by decide, by decide, fun r2 H6 hr2 b6 d6 => ?_⟩
      refine ⟨_, _, rfl, rfl, wide_mul (a := 10) (b := 10) (by decide) (by show r2 < _; omega) (by decide) (by decide) (by decide), _, _, rfl, rfl, ?_⟩
      exact kq _ _ (b5.trans b6) d6 ⟨_, rfl, by omega, by omega⟩
    intro H3 ys b3 d3 e3 hyl hyr
    have bb3 := bb2.trans b3
    obtain ⟨cf, rfl, hcf⟩ := ints_of hyl hyr
    refine ⟨D2, _, rfl, .inl ⟨SqL.of e3, fun cs hcs => ?_⟩⟩
    have s4 := Same.new (o := .tup (iv k cf)) hcs
    have d4 := d3.same s4
    have bb4 := bb3.then s4
    -- the start, no rows yet
    refine ⟨_, rfl, _, rfl, by omega, by omega, fun S hS => lc_but (walk_rgI ek) (fun _ y => ∃ z : Int, y = .int z ∧ (0 ≤ z ∧ z ≤ 4)) (by omega) hS d4 (fun _ => trivial) ?_ ?_⟩
    · rintro j y H5 H6 Qy Qn hj b5 d5 ⟨rfl, rfl⟩ kq
      refine ⟨rfl, yesI ⟨_, rfl, l, sc, ns, 5, rfl, d5, by decide, by decide, fun r1 H7 hr1 b7 d7 => ?_⟩⟩
      exact kq _ _ b7 d7 ⟨_, rfl, by omega, by omega⟩
    intro H5 ys5 b5 d5 e5 hyl5 hyr5
    have bb5 := bb4.trans b5
    obtain ⟨st, rfl, hst⟩ := ints_of hyl5 hyr5
    refine ⟨Nat.zero_le _, fun fD hfD => ⟨small (by show 2 ≤ 1000; decide), fun pt hpt => ?_⟩⟩
    have s6 := Same.new (o := .lst []) hfD
    have s7 := s6.trans (Same.new (o := .tup [V.ref S, V.ref fD]) hpt)
    refine tup2 (SqT.of upd_same) ?_
    have hfD7 : (upd (upd H5 fD (.lst [])) pt (.tup [V.ref S, V.ref fD])) fD = some (.lst []) := (Same.new (o := .tup [V.ref S, V.ref fD]) hpt) _ _ upd_same
    have hcs7 := s7 _ _ (b5 _ _ (ne_of_none (d3.lst.choose_spec) hcs).symm upd_same)
    have hS7 := s7 _ _ e5
    have d7 := d5.same s7
    have bb7 := bb5.then s7
    have nlf : l ≠ fD := ne_of_none (d5.lst.choose_spec) hfD
    have h0f : H fD = none := by
      cases e : H fD with
      | none => rfl
      | some o => exact absurd (bb5 _ _ nlf.symm e) (by rw [hfD]; intro q; cases q)
    have nSf : S ≠ fD := ne_of_none e5 hfD
    have nSl : S ≠ l := (ne_of_none (d4.lst.choose_spec) hS).symm
    have nsc : cs ≠ fD := ne_of_none (b5 _ _ (ne_of_none (d3.lst.choose_spec) hcs).symm upd_same) hfD
    have ncl : cs ≠ l := (ne_of_none (d3.lst.choose_spec) hcs).symm
    generalize (upd (upd H5 fD (.lst [])) pt (.tup [V.ref S, V.ref fD])) = H7 at *
    refine ⟨_, rfl, _, rfl, _, _, rfl, rfl, l, sc, ns, 6, rfl, d7, by decide, by decide, fun r8 H8 hr8 b8 d8 => ?_⟩
    have bb8 := bb7.trans b8
    have hf8 := b8 _ _ nlf.symm hfD7
    have hS8 := b8 _ _ nSl hS7
    have hcs8 := b8 _ _ ncl hcs7
    refine ⟨_, rfl, by omega, by omega, for_it (walk_rgI (n := r8) rfl)
      (fun i σ H' => (∃ u7 u10 u11 u12 u13 : Option V, σ = [some (.ref l), some (.int 4), some (.int 5), some (.int 4), some (.int ((1 : Int) + (r0 : Nat))), some (.str (kindsS k plus)), some (.ref cs), u7, some (.ref S), some (.ref fD), u10, u11, u12, u13, none]) ∧
        But l H H' ∧ Drow K H' l sc ns ∧ But2 l fD H8 H' ∧ ∃ acc, H' fD = some (.lst acc) ∧ acc.length = i ∧ ∀ j, j < i → ∃ y, acc[j]? = some y ∧ RowG K H' y k)
      ⟨⟨_, _, _, _, _, rfl⟩, bb8, d8, But2.refl _ _ _, [], hf8, rfl, fun j hj => absurd hj (Nat.not_lt_zero j)⟩ (fun _ _ _ _ _ => trivial) ?_ ?_⟩
    · rintro i y σ H9 H9' hi ⟨⟨u7, u10, u11, u12, u13, rfl⟩, bb9, d9, q9, acc, hacc, hal, har⟩ ⟨rfl, rfl⟩
      have hS9 := q9 _ _ nSl nSf hS8
      -- the numbers
      refine ⟨_, rfl, _, rfl, by omega, by omega, fun D1 hD1 => lc_but (walk_rgI ek) (fun _ y => ∃ z : Int, y = .int z ∧ z.natAbs ≤ 4) (by omega) hD1 d9 (fun _ => trivial) ?_ ?_⟩
      · rintro j y H3 H4 Qy Qn hj b3 d3 ⟨rfl, rfl⟩ kq
        refine ⟨rfl, yesI ⟨_, rfl, _, rfl, _, _, rfl, rfl, wide_mul (a := 10) (b := 10) (by decide) (by decide) (by decide) (by decide) (by decide), _, _, rfl, rfl, l, sc, ns, 9, rfl, d3, by decide, by decide, fun r1 H5 hr1 b5 d5 => ?_⟩⟩
        refine ⟨_, rfl, _, _, rfl, rfl, ?_⟩
        exact kq _ _ b5 d5 ⟨_, rfl, by omega⟩
      intro H10 ys b10 d10 e10 hyl hyr
      obtain ⟨A, rfl, hA⟩ := ints_of hyl hyr
      have hS10 := b10 _ _ nSl hS9
      have nDl : D1 ≠ l := (ne_of_none (d9.lst.choose_spec) hD1).symm
      -- the sum
      refine ⟨_, rfl, _, rfl, by omega, by omega, fun D2 hD2 => lc_iv (walk_rgI ek) (fun q => A q * st q) (by omega) hD2 (fun _ _ => trivial) ?_ ?_⟩
      · rintro j y H3 H4 Qy Qn hj s3 ⟨rfl, rfl⟩ kq
        exact ⟨rfl, yesI ⟨_, rfl, _, rfl, D1, _, _, _, rfl, rfl, SqL.of (s3 _ _ e10), atI_nat (iv_get hj), _, rfl, _, rfl, S, _, _, _, rfl, rfl, SqL.of (s3 _ _ hS10), atI_nat (iv_get hj), _, _, rfl, rfl, wide_mul (a := 10) (b := 10) (Nat.lt_of_le_of_lt (hA j hj) (by decide)) (by have := hst j hj; omega) (by decide) (by decide) (by decide), kq _ (Same.refl _)⟩⟩
      intro H11 s11 e11
      have hne := near_le hA hst
      refine ⟨D2, _, rfl, SqL.of (by rw [e11, iv_map]), ?_⟩
      rw [sI_sum]
      generalize hnear : (K6.sI k fun q => A q * st q) = near at hne
      have d11 := d10.same s11
      refine ⟨_, rfl, l, sc, ns, 7, rfl, d11, by decide, by decide, fun way H12 hway b12 d12 => ⟨_, _, rfl, ?_⟩⟩
      -- the right
      refine ⟨_, rfl, rfl, _, rfl, ?_⟩
      refine joinV (fun v H' => But l H12 H' ∧ Drow K H' l sc ns ∧ ∃ z : Int, v = .int z ∧ z.natAbs ≤ 70) (fun N hN => ?_) ?_
      · split
        · exact ⟨_, rfl, hN _ _ ⟨But.refl _ _, d12, _, rfl, by omega⟩⟩
        · refine ⟨_, rfl, _, _, rfl, rfl, _, rfl, ?_⟩
          cases decide ((way : Int) < 3)
          · refine iteF ⟨_, rfl, _, rfl, l, sc, ns, 5, rfl, d12, by decide, by decide, fun r1 H5 hr1 b5 d5 => ⟨_, _, rfl, rfl, hN _ _ ⟨b5, d5, _, rfl, by omega⟩⟩⟩
          · refine iteT ⟨_, rfl, _, rfl, l, sc, ns, 5, rfl, d12, by decide, by decide, fun r1 H5 hr1 b5 d5 => ⟨_, _, rfl, rfl, hN _ _ ⟨b5, d5, _, rfl, by omega⟩⟩⟩
      rintro v13 H13 ⟨b13, d13, z13, rfl, hz13⟩
      refine ⟨_, rfl, _, rfl, l, sc, ns, 9, rfl, d13, by decide, by decide, fun r14 H14 hr14 b14 d14 => ⟨rfl, _, rfl, ?_⟩⟩
      refine joinV (fun v H' => H' = H14 ∧ ∃ z : Int, v = .int z ∧ z.natAbs ≤ 4) (fun N hN => ?_) ?_
      · split
        · exact hN _ _ ⟨rfl, _, rfl, by decide⟩
        · exact hN _ _ ⟨rfl, _, rfl, by decide⟩
      rintro v15 H15 ⟨rfl, z15, rfl, hz15⟩
      refine ⟨_, _, rfl, rfl, ?_⟩
      -- the row is put down
      have bl : But l H9' H15 := (b10.then s11).trans (b12.trans (b13.trans b14))
      have hacc15 := bl _ _ nlf.symm hacc
      have hD15 : H15 D1 = some (.lst (iv k A)) := (b12.trans (b13.trans b14)) _ _ nDl (s11 _ _ e10)
      refine ⟨_, rfl, .inl ⟨rfl, _, SqL.of hacc15⟩, _, rfl, D1, _, rfl, .inl ⟨SqL.of hD15, fun p hp => ?_⟩⟩
      have s16 := Same.new (o := .tup (iv k A)) hp
      refine ⟨_, rfl, rfl, _, rfl, ?_⟩
      refine joinV (fun v H' => H' = upd H15 p (.tup (iv k A)) ∧ ∃ sg : K6.Sg, v = .str (sgS sg)) (fun N hN => ?_) ?_
      · split
        · exact hN _ _ ⟨rfl, .eq, rfl⟩
        · refine ⟨_, rfl, _, _, rfl, rfl, _, rfl, ?_⟩
          cases decide ((way : Int) < 3)
          · exact iteF (hN _ _ ⟨rfl, .le, rfl⟩)
          · exact iteT (hN _ _ ⟨rfl, .ge, rfl⟩)
      rintro v17 H17 ⟨rfl, sg, rfl⟩
      refine ⟨_, rfl, small (by show 3 ≤ 1000; decide), fun q hq => ?_⟩
      have s18 := Same.new (o := .tup [V.ref p, V.str (sgS sg), V.int (z13 + z15)]) hq
      have s1618 := s16.trans s18
      have hacc18 := s1618 _ _ hacc15
      have tpA : Tp _ _ := Tp.updL (ys := acc ++ [V.ref q]) hacc18
      have b18 : But l H _ := (bb9.trans bl).then s1618
      refine ⟨fD, acc, _, rfl, rfl, hacc18, small1000 (by omega), ⟨⟨_, _, _, _, _, rfl⟩, b18.ufresh h0f, (d14.same s1618).move d0 (b18.ufresh h0f) (upd_ne nlf), ?_, _, upd_same, by rw [List.length_append, hal]; rfl, fun j hj => ?_⟩⟩
      · exact (But2.then (But.b2 q9 bl) s1618).ur
      · have tp9 : Tp H9' _ := ((bl.tpD d9).trans s1618.tp).trans tpA
        by_cases cj : j < i
        · obtain ⟨y', ey, hy⟩ := har j cj
          exact ⟨y', by rw [List.getElem?_append_left (by omega)]; exact ey, hy.tp tp9⟩
        · have : j = i := by omega
          subst this
          refine ⟨.ref q, by rw [List.getElem?_append_right (by omega), hal]; simp, A, sg, z13 + z15, ⟨q, p, rfl, tpA.seq (SqT.of upd_same), tpA.seq (s18.tup (SqT.of upd_same))⟩, hA, by omega⟩
    · rintro σ H9 ⟨⟨u7, u10, u11, u12, u13, rfl⟩, bb9, d9, q9, acc, hacc, hal, har⟩
      have hcs9 := q9 _ _ ncl nsc hcs8
      refine ⟨_, rfl, _, rfl, _, rfl, fD, _, rfl, .inl ⟨SqL.of hacc, fun p hp => ?_⟩⟩
      have s10 := Same.new (o := .tup acc) hp
      refine ⟨small (by show 3 ≤ 1000; decide), fun q hq => ?_⟩
      have s11 := Same.new (o := .tup [V.str (kindsS k plus), V.ref cs, V.ref p]) hq
      have s1011 := s10.trans s11
      have h' : ∀ j, ∃ x : (Nat → Int) × K6.Sg × Int, j < r8 → ∃ y, acc[j]? = some y ∧ Rw K H9 y k x.1 x.2.1 x.2.2 ∧ (∀ q, q < k → (x.1 q).natAbs ≤ 4) ∧ x.2.2.natAbs ≤ 100 := fun j => by
        by_cases c : j < r8
        · obtain ⟨y, ey, A, sg, b, h1, h2, h3⟩ := har j c
          exact ⟨(A, sg, b), fun _ => ⟨y, ey, h1, h2, h3⟩⟩
        · exact ⟨(fun _ => 0, .eq, 0), fun q => absurd q c⟩
      obtain ⟨f, hf⟩ := Classical.skolem.mp h'
      have hv : Valid ⟨k, r8, plus, cf, fun i j => (f i).1 j, fun i => (f i).2.1, fun i => (f i).2.2⟩ := by
        refine ⟨k1, by show k ≤ 6; omega, by show r8 ≤ 8; omega, fun j hj => ?_, fun i j hi hj => ?_, fun i hi => ?_⟩
        · have := hcf j hj
          exact ⟨by show -1000 ≤ cf j; omega, by show cf j ≤ 1000; omega⟩
        · obtain ⟨y, _, _, h2, _⟩ := hf i hi
          have := h2 j hj
          exact ⟨by show -1000 ≤ (f i).1 j; omega, by show (f i).1 j ≤ 1000; omega⟩
        · obtain ⟨y, _, _, _, h3⟩ := hf i hi
          exact ⟨by show -1000 ≤ (f i).2.2; omega, by show (f i).2.2 ≤ 1000; omega⟩
      have hs0 : S0 ⟨k, r8, plus, cf, fun i j => (f i).1 j, fun i => (f i).2.1, fun i => (f i).2.2⟩ := by
        refine ⟨by show k ≤ 5; omega, by show r8 ≤ 5; omega, ⟨by show k ≤ 6; omega, by show r8 ≤ 6; omega, fun i j hi hj => ?_, fun j hj => ?_, fun i hi => ?_⟩⟩
        · obtain ⟨y, _, _, h2, _⟩ := hf i hi
          exact Nat.le_trans (h2 j hj) (by decide)
        · have := hcf j hj
          show (cf j).natAbs ≤ 128
          omega
        · obtain ⟨y, _, _, _, h3⟩ := hf i hi
          exact Nat.le_trans h3 (by decide)
      refine kk (.ref q) ⟨k, r8, plus, cf, fun i j => (f i).1 j, fun i => (f i).2.1, fun i => (f i).2.2⟩ _ (bb9.then s1011) (d9.same s1011) ⟨q, cs, p, acc, rfl, SqT.of upd_same, SqT.of (s1011 _ _ hcs9), s11.tup (SqT.of upd_same), hal, fun i hi => ?_⟩ hv hs0 k4
      obtain ⟨y, ey, h1, _⟩ := hf i hi
      exact ⟨y, ey, h1.tp s1011.tp⟩
end
end G3
-- WPure
set_option Elab.async false
set_option linter.all false
set_option maxHeartbeats 1000000
namespace G3
open K6
theorem perm_sorted : ∀ {l m : List Int}, l.Perm m → l.Pairwise (· ≤ ·) → m.Pairwise (· ≤ ·) → l = m
  | [], m, h, _, _ => (List.nil_perm.mp h).symm
  | a :: l, [], h, _, _ => absurd h.length_eq (by simp)
  | a :: l, b :: m, h, h1, h2 => by
    have a1 := List.pairwise_cons.mp h1
    have a2 := List.pairwise_cons.mp h2
    have ab : a ≤ b := by
      rcases List.mem_cons.mp (h.symm.subset List.mem_cons_self) with e | e
      · omega
      · exact a1.1 b e
    have ba : b ≤ a := by
      rcases List.mem_cons.mp (h.subset List.mem_cons_self) with e | e
      · omega
      · exact a2.1 a e
    have e : a = b := by omega
    subst e
    rw [perm_sorted (List.Perm.cons_inv h) a1.2 a2.2]
/-- the places that pass a test -/
def fi (n : Nat) (f : Nat → Bool) : List Int := ((List.range n).filter f).map fun (i : Nat) => (i : Int)
theorem fl_fi (n : Nat) (f : Nat → Bool) : fl n f = (fi n f).map L2.V.int := by
  unfold fl fi; rw [List.map_map]; rfl
theorem fi_sorted (n : Nat) (f : Nat → Bool) : (fi n f).Pairwise (· ≤ ·) := by
  unfold fi
  rw [List.pairwise_map]
  refine List.Pairwise.filter f ?_
  exact (List.pairwise_lt_range).imp fun {a b} h => by omega
theorem split_perm {n : Nat} {f g p : Nat → Bool} (hf : ∀ i, i < n → f i = true → p i = true) (hg : ∀ i, i < n → g i = (p i && !f i)) : (fi n f ++ fi n g).Perm (fi n p) := by
  unfold fi
  rw [← List.map_append]
  refine List.Perm.map _ ?_
  have h := List.filter_append_perm f ((List.range n).filter p)
  rw [List.filter_filter, List.filter_filter] at h
  have e1 : (List.range n).filter (fun a => f a && p a) = (List.range n).filter f := List.filter_congr fun i hi => by
    cases e : f i with
    | false => rfl
    | true => rw [hf i (List.mem_range.mp hi) e]; rfl
  have e2 : (List.range n).filter (fun a => (!f a) && p a) = (List.range n).filter g := List.filter_congr fun i hi => by
    rw [hg i (List.mem_range.mp hi), Bool.and_comm]
  rw [e1, e2] at h
  exact h
theorem split_sorted {n : Nat} {f g p : Nat → Bool} {l : List Int} (hf : ∀ i, i < n → f i = true → p i = true) (hg : ∀ i, i < n → g i = (p i && !f i)) (h : l.Perm (fi n f ++ fi n g)) (hs : l.Pairwise (· ≤ ·)) : l = fi n p :=
  perm_sorted (h.trans (split_perm hf hg)) hs (fi_sorted n p)
theorem split_sorted' {n : Nat} {f g p : Nat → Bool} {l : List Int} (hf : ∀ i, i < n → f i = true → p i = true) (hg : ∀ i, i < n → g i = (p i && !f i)) (h : l.Perm (fi n g ++ fi n f)) (hs : l.Pairwise (· ≤ ·)) : l = fi n p :=
  split_sorted hf hg (h.trans List.perm_append_comm) hs
theorem signed_twice (t : Task) (y : Nat → Rat) : signedY t (signedY t y) = y := funext fun i => by
  unfold signedY
  split
  · exact Rat.neg_neg (y i)
  · rfl
theorem bpaper_of {t : Task} {v : Rat} {y : Nat → Rat} (hy : Paper t y) (e : prom t y = v) : BPaper t v (signedY t y) := by
  refine ⟨paper_plain.mpr ?_, ?_⟩
  · rw [signed_twice]; exact hy
  · rw [← prom_signed, signed_twice]; exact e
theorem signed_ne {t : Task} {y : Nat → Rat} {i : Nat} : signedY t y i ≠ 0 ↔ y i ≠ 0 := by
  unfold signedY
  split
  · exact ⟨fun h q => h (by rw [q]; rfl), fun h q => h (by have := congrArg (fun z => -z) q; simpa [Rat.neg_neg] using this)⟩
  · exact Iff.rfl
theorem fits_best {t : Task} {v : Rat} {x y : Nat → Rat} (hx : Plan t x) (ex : costT t x = v) (hy : Paper t y) (ey : prom t y = v) : FitsP t x y := by
  have bx : BPlan t v x := ⟨hx, ex⟩
  have by' := bpaper_of hy ey
  refine ⟨fun i hi hn => ?_, fun j hj hn => ?_⟩
  · rcases Rat.mul_eq_zero.mp (comp_row bx by' hi) with q | q
    · exact q
    · exact absurd q (signed_ne.mpr hn)
  · rcases Rat.mul_eq_zero.mp (comp_col bx by' hj) with q | q
    · rw [← colS_signed, signed_twice] at q
      grind
    · exact absurd q hn
theorem dear_zero {t : Task} {v : Rat} (hb : Best t v) {x : Nat → Rat} (hx : Plan t x) (ex : costT t x = v) {j : Nat} (hj : j < t.k) (hd : dearP t v j = true) : x j = 0 := by
  have hp : t.plus j = true := by
    unfold dearP at hd
    exact (Bool.and_eq_true_iff.mp hd).1
  obtain ⟨y, hy, lt⟩ := (dear_iff hb hp).mp hd
  rcases Rat.mul_eq_zero.mp (comp_col (⟨hx, ex⟩ : BPlan t v x) hy hj) with q | q
  · exact absurd q (by grind)
  · exact q
theorem loose_zero {t : Task} {v : Rat} (hb : Best t v) {y : Nat → Rat} (hy : Paper t y) (ey : prom t y = v) {i : Nat} (hi : i < t.m) (hd : looseP t v i = true) : y i = 0 := by
  have hg := plain_ge.mpr (loose_ne hd)
  obtain ⟨x, hx, lt⟩ := (loose_iff hb hg).mp hd
  rcases Rat.mul_eq_zero.mp (comp_row hx (bpaper_of hy ey) hi) with q | q
  · exact absurd q (by grind)
  · exact Classical.byContradiction fun hn => signed_ne.mpr hn q
theorem live_val {t : Task} {v : Rat} {j : Nat} (hp : t.plus j = true) : liveP t v j = (match hi (kept t v) (unitC j) with | none => true | some q => decide (0 < q.num)) := by
  unfold liveP
  rw [hp]
  all_goals first
    | rfl
    | (rw [Bool.true_and]; all_goals rfl)
/-- both ends 0 -/
def zeroO (o : Option Rat) : Bool := decide (o = some 0)
theorem range_val {t : Task} {v : Rat} (hb : Best t v) {i : Nat} (hi' : i < t.m) (hg : t.sg i ≠ .eq) :
    (!zeroO (if t.sg i = .le then (hi (kept (other t) (-v)) (unitC i)).map (fun q => - q) else lo (kept (other t) (-v)) (unitC i)) ||
      !zeroO (if t.sg i = .le then (lo (kept (other t) (-v)) (unitC i)).map (fun q => - q) else hi (kept (other t) (-v)) (unitC i))) = paidP t v i := by
  have h := range_iff hb hi' hg
  have mz : ∀ o : Option Rat, zeroO (o.map fun q => - q) = zeroO o := fun o => by
    unfold zeroO
    refine decide_eq_decide.mpr ?_
    cases o with
    | none => simp
    | some q =>
      constructor
      · intro e
        have e1 : -q = 0 := Option.some.inj e
        have e2 : q = 0 := by grind
        rw [e2]
      · intro e
        have e1 : q = 0 := Option.some.inj e
        rw [e1]; rfl
  have key : (!zeroO (lo (kept (other t) (-v)) (unitC i)) || !zeroO (hi (kept (other t) (-v)) (unitC i))) = paidP t v i := by
    cases c : paidP t v i with
    | false =>
      obtain ⟨h1, h2⟩ := h.mpr c
      rw [h1, h2]; rfl
    | true =>
      cases c1 : zeroO (lo (kept (other t) (-v)) (unitC i)) with
      | false => rfl
      | true =>
        cases c2 : zeroO (hi (kept (other t) (-v)) (unitC i)) with
        | false => rfl
        | true =>
          have := h.mp ⟨of_decide_eq_true c1, of_decide_eq_true c2⟩
          rw [this] at c; cases c
  by_cases e : t.sg i = .le
  · rw [if_pos e, if_pos e, mz, mz, Bool.or_comm]; exact key
  · rw [if_neg e, if_neg e]; exact key
theorem fits_plain {t : Task} {x y : Nat → Rat} : FitsP t x y ↔ (∀ i, i < t.m → y i ≠ 0 → rowS t x i = (t.b i : Rat)) ∧ ∀ j, j < t.k → x j ≠ 0 → colS t y j = (t.c j : Rat) := by
  have e : ∀ i, (rowS (plain t) x i - ((plain t).b i : Rat) = 0) ↔ rowS t x i = (t.b i : Rat) := fun i => by
    have e1 : rowS (plain t) x i = if t.sg i = .le then - rowS t x i else rowS t x i := by
      show sR t.k (fun j => (((if t.sg i = .le then - t.A i j else t.A i j : Int)) : Rat) * x j) = _
      by_cases c : t.sg i = .le
      · rw [if_pos c]
        show _ = - sR t.k (fun j => (t.A i j : Rat) * x j)
        rw [← sR_neg]
        exact sR_congr fun j _ => by rw [if_pos c, Rat.intCast_neg]; grind
      · rw [if_neg c]
        exact sR_congr fun j _ => by rw [if_neg c]
    have e2 : (plain t).b i = if t.sg i = .le then - t.b i else t.b i := rfl
    rw [e1, e2]
    by_cases c : t.sg i = .le
    · rw [if_pos c, if_pos c, Rat.intCast_neg]
      constructor <;> intro q <;> grind
    · rw [if_neg c, if_neg c]
      constructor <;> intro q <;> grind
  unfold FitsP
  constructor
  · rintro ⟨h1, h2⟩
    exact ⟨fun i hi hn => (e i).mp (h1 i hi hn), h2⟩
  · rintro ⟨h1, h2⟩
    exact ⟨fun i hi hn => (e i).mpr (h1 i hi hn), h2⟩
theorem in_fl {n : Nat} {f : Nat → Bool} {j : Nat} (hj : j < n) : L2.inV (.int (j : Int)) (fl n f) = f j := by
  unfold L2.inV fl
  cases e : f j with
  | true =>
    refine List.any_eq_true.mpr ⟨.int (j : Int), List.mem_map.mpr ⟨j, List.mem_filter.mpr ⟨List.mem_range.mpr hj, e⟩, rfl⟩, ?_⟩
    simp [L2.eqV]
  | false =>
    refine List.any_eq_false.mpr fun y hy => ?_
    obtain ⟨i, hi, rfl⟩ := List.mem_map.mp hy
    have h2 := (List.mem_filter.mp hi).2
    have ne : i ≠ j := fun q => by rw [q, e] at h2; cases h2
    simp [L2.eqV]
    omega
theorem fl_flat (n : Nat) (f : Nat → Bool) : (fl n f).all L2.flatV = true := by
  refine List.all_eq_true.mpr fun y hy => ?_
  unfold fl at hy
  obtain ⟨i, hi, rfl⟩ := List.mem_map.mp hy
  rfl
end G3
-- WLaw4
set_option Elab.async false
set_option linter.all false
set_option maxRecDepth 100000
set_option maxHeartbeats 4000000
namespace G3
open PySem PySem.Spec PyProof.Rows L2
theorem seq_of {t u : TS} {D : Ends} {σ : L2.St} {H : Hp} (J : L2.St → Hp → Prop) (h1 : ∀ N : L2.St → Hp → Prop, (∀ σ' H', J σ' H' → N σ' H') → t { D with nx := N } σ H) (h2 : ∀ σ' H', J σ' H' → u D σ' H') : tSeq t u D σ H := h1 _ h2
abbrev lst (sc l a c r : Addr) (k : Nat) (plus : Nat → Bool) (w : Str) (x2 x3 x4 x5 x6 x7 x13 x14 x15 x16 x17 : Option V) : L2.St :=
  [some (.ref sc), some (.ref l), x2, x3, x4, x5, x6, x7, some (.ref a), some (.str w), some (.str (kindsS k plus)), some (.ref c), some (.ref r), x13, x14, x15, x16, x17, none]
/-- a task has been drawn -/
structure B3 (K : PySem.W.Frag) (H : Hp) (l sc : Addr) (ns : List Int) (a c r : Addr) (rs : List V) (t : K6.Task) : Prop where
  d : Drow K H l sc ns
  tk : TkA K H a c r rs t
  va : Valid t
  sz : S0 t
  k4 : t.k ≤ 4
theorem B3.same {K : PySem.W.Frag} {H H' : Hp} {l sc : Addr} {ns : List Int} {a c r : Addr} {rs : List V} {t : K6.Task} (b : B3 K H l sc ns a c r rs t) (s : Same H H') : B3 K H' l sc ns a c r rs t := ⟨b.d.same s, b.tk.tp s.tp, b.va, b.sz, b.k4⟩
theorem B3.task {K : PySem.W.Frag} {H : Hp} {l sc : Addr} {ns : List Int} {a c r : Addr} {rs : List V} {t : K6.Task} (b : B3 K H l sc ns a c r rs t) : Tk K H (.ref a) t := ⟨a, c, r, rs, rfl, b.tk⟩
/-- the parts are told -/
structure B6 (K : PySem.W.Frag) (H : Hp) (l sc : Addr) (ns : List Int) (a c r : Addr) (rs : List V) (t : K6.Task) (val : Rat) (p1 p2 p3 p4 : Addr) : Prop where
  b : B3 K H l sc ns a c r rs t
  best : K6.Best t val
  hL : SqT K H p1 (fl t.k (K6.liveP t val))
  hD : SqT K H p2 (fl t.k (K6.dearP t val))
  hO : SqT K H p3 (fl t.m (K6.looseP t val))
  hP : SqT K H p4 (fl t.m (K6.paidP t val))
theorem B6.same {K : PySem.W.Frag} {H H' : Hp} {l sc : Addr} {ns : List Int} {a c r : Addr} {rs : List V} {t : K6.Task} {val : Rat} {p1 p2 p3 p4 : Addr} (b : B6 K H l sc ns a c r rs t val p1 p2 p3 p4) (s : Same H H') : B6 K H' l sc ns a c r rs t val p1 p2 p3 p4 :=
  ⟨b.b.same s, b.best, s.tup b.hL, s.tup b.hD, s.tup b.hO, s.tup b.hP⟩
def JTry (K : PySem.W.Frag) (sc : Addr) (ns : List Int) (σ : L2.St) (H : Hp) : Prop := ∃ (l a c r : Addr) (rs : List V) (t : K6.Task), (K6.bc t = none ∧ B3 K H l sc ns a c r rs t ∧ ∃ x2 x3 x6 x13 x14 x15 x16 x17, σ = lst sc l a c r t.k t.plus "not" x2 x3 none none x6 none x13 x14 x15 x16 x17) ∨
  ∃ (val : Rat) (p1 p2 p3 p4 : Addr), B6 K H l sc ns a c r rs t val p1 p2 p3 p4 ∧ ∃ x2 x3 x13 x17, σ = lst sc l a c r t.k t.plus "" x2 x3 none none (some (.ref p4)) none x13 (some (.ref p1)) (some (.ref p2)) (some (.ref p3)) x17
def JBest (K : PySem.W.Frag) (sc : Addr) (ns : List Int) (σ : L2.St) (H : Hp) : Prop := ∃ (l a c r : Addr) (rs : List V) (t : K6.Task) (val : Rat) (p1 p2 p3 p4 : Addr), B6 K H l sc ns a c r rs t val p1 p2 p3 p4 ∧
  ∃ x2 x3 x13 x17, σ = lst sc l a c r t.k t.plus "" x2 x3 none none (some (.ref p4)) none x13 (some (.ref p1)) (some (.ref p2)) (some (.ref p3)) x17
theorem ifF {b : Bool} {A B : Prop} (h : b = false) (k : B) : if b = true then A else B := by rw [h]; exact k
theorem ifT {b : Bool} {A B : Prop} (h : b = true) (k : A) : if b = true then A else B := by rw [h]; exact k
theorem bl_ne {a b : Bool} (h : a = b) : (!decide (V.bl a = V.bl b)) = false := by rw [h]; simp
theorem ro_zero {K : PySem.W.Frag} {H : Hp} {z : V} {o : Option Rat} {p : Addr} {Q : VK} (h : Ro K H z o) (hp : SqT K H p [.int 0, .int 1]) (q : Q (.bl (!zeroO o)) H) : rNeD K z (.ref p) H Q := by
  have d2 : Dp K H (.ref p) (.tuple ([0, 1].map PyData.int)) := .tup (xs := [0, 1].map V.int) hp (dpAll_ints [0, 1])
  cases o with
  | none =>
    cases (show z = .non from h)
    exact ⟨_, _, .non, d2, by decide, shaped_tints [0, 1], q⟩
  | some r =>
    obtain ⟨b, rfl, hb⟩ := h
    refine neT (ns := [r.num, (r.den : Int)]) (ms := [0, 1]) hb hp ?_
    have e : decide ([r.num, (r.den : Int)] = [0, 1]) = zeroO (some r) := by
      unfold zeroO
      refine decide_eq_decide.mpr ?_
      have h := pair_int (q := r) (c := 0)
      rw [h]
      exact ⟨fun e => by rw [e]; rfl, fun e => Option.some.inj e⟩
    rw [e]; exact q
theorem fl_get {n : Nat} {f : Nat → Bool} {i : Nat} {y : V} (h : (fl n f)[i]? = some y) : ∃ j : Nat, y = .int (j : Int) ∧ j < n ∧ f j = true := by
  have hm := List.mem_of_getElem? h
  unfold fl at hm
  obtain ⟨j, hj, rfl⟩ := List.mem_map.mp hm
  obtain ⟨h1, h2⟩ := List.mem_filter.mp hj
  exact ⟨j, rfl, List.mem_range.mp h1, h2⟩
/-- as lc_but, the values told of in the heap -/
theorem lc_butR {J : It} {n : Nat} {G : Hp → Prop} {Y : Nat → Hp → V → Hp → Prop} {g : TG} {tt : TT} {te : TE} {vs : List Nat} {σ : L2.St} {H1 : Hp} {D : Addr} {Qd : Hp → Prop} {K : PySem.W.Frag} {l sc : Addr} {ns : List Int}
    (w : Walk J n G Y) (Rel : Nat → V → Hp → Prop) (mono : ∀ j y H H', Tp H H' → Rel j y H → Rel j y H') (hn : n ≤ 1000) (hD : H1 D = none) (d1 : Drow K H1 l sc ns) (hG : ∀ H, But l H1 H → G H)
    (hs : ∀ i x H H' (Qy : V → Hp → Prop) (Qn : Hp → Prop), i < n → But l H1 H → Drow K H l sc ns → Y i H x H' → (∀ y H4, But l H H4 → Drow K H4 l sc ns → Rel i y H4 → Qy y H4) →
      g x (wipe σ vs) H' fun σ2 H2 => wipe σ2 vs = wipe σ vs ∧ tt σ2 H2 fun b H3 => if b = true then te σ2 H3 Qy else Qn H3)
    (hd : ∀ H xs, But l H1 H → Drow K H l sc ns → H D = some (.lst xs) → xs.length = n → (∀ j, j < n → ∃ y, xs[j]? = some y ∧ Rel j y H) → Qd H) :
    ∃ Wv : Nat → Nat → Hp → Prop, (∃ k0, Wv 0 k0 (upd H1 D (.lst []))) ∧ ∀ i k0 H, Wv i k0 H →
      (J.stop i H ∧ Qd H) ∨ (J.go i H ∧ ∃ Nx : Hp → Prop, (∀ H', Nx H' → ∃ k1, k1 < k0 ∧ Wv (i + 1) k1 H') ∧ ∀ x H', J.yld i H x H' → g x (wipe σ vs) H' fun σ2 H2 => wipe σ2 vs = wipe σ vs ∧ tt σ2 H2 fun b H3 =>
        if b = true then te σ2 H3 fun y H4 => ∃ ac1, H4 D = some (.lst ac1) ∧ ac1.length < sizeLine ∧ Nx (upd H4 D (.lst (ac1 ++ [y]))) else Nx H3) := by
  obtain ⟨xs0, hx0⟩ := d1.lst
  have nD : l ≠ D := ne_of_none hx0 hD
  refine lc_it (Qd := Qd) w (fun i H => But l H1 H ∧ Drow K H l sc ns ∧ ∃ acc, H D = some (.lst acc) ∧ acc.length = i ∧ ∀ j, j < i → ∃ y, acc[j]? = some y ∧ Rel j y H)
    ⟨(But.refl l H1).then (Same.new hD), d1.same (Same.new hD), [], upd_same, rfl, fun j hj => absurd hj (Nat.not_lt_zero j)⟩ (fun i H _ p => hG H p.1) ?_ ?_
  · rintro i x H H' hi ⟨b1, dH, acc, hacc, hl, hrel⟩ hy
    refine hs i x H H' _ _ hi b1 dH hy ?_
    intro y H4 b4 d4 r4
    have h4 : H4 D = some (.lst acc) := b4 _ _ nD.symm hacc
    have bb : But l H1 (upd H4 D (.lst (acc ++ [y]))) := fun c o hc e => by
      rw [upd_ne (ne_of_none e hD)]; exact b4 _ _ hc (b1 _ _ hc e)
    have tp : Tp H4 (upd H4 D (.lst (acc ++ [y]))) := Tp.updL h4
    refine ⟨acc, h4, small1000 (by omega), bb, d4.move d1 bb (upd_ne nD), acc ++ [y], upd_same, by simp [hl], fun j hj => ?_⟩
    by_cases c : j < i
    · obtain ⟨z, ez, rz⟩ := hrel j c
      exact ⟨z, by rw [List.getElem?_append_left (by omega)]; exact ez, mono _ _ _ _ tp (mono _ _ _ _ (b4.tpD dH) rz)⟩
    · have : j = i := by omega
      subst this
      exact ⟨y, by rw [List.getElem?_append_right (by omega), hl]; simp, mono _ _ _ _ tp r4⟩
  · rintro H ⟨b1, dH, acc, hacc, hl, hrel⟩
    exact hd H acc b1 dH hacc hl hrel
theorem rts_of {K : PySem.W.Frag} {H : Hp} {n : Nat} {xs : List V} {P : Nat → Int → Prop} (hl : xs.length = n) (h : ∀ j, j < n → ∃ y, xs[j]? = some y ∧ ∃ z : Int, P j z ∧ Rt K H y (z : Rat)) : ∃ f : Nat → Int, ∀ j, j < n → P j (f j) ∧ ∃ u, xs[j]? = some u ∧ Rt K H u ((f j : Int) : Rat) := by
  have h' : ∀ j, ∃ z : Int, j < n → P j z ∧ ∃ u, xs[j]? = some u ∧ Rt K H u (z : Rat) := fun j => by
    by_cases c : j < n
    · obtain ⟨y, ey, z, h1, h2⟩ := h j c
      exact ⟨z, fun _ => ⟨h1, y, ey, h2⟩⟩
    · exact ⟨0, fun q => absurd q c⟩
  exact Classical.skolem.mp h'
theorem B3.but {K : PySem.W.Frag} {H H' : Hp} {l sc : Addr} {ns : List Int} {a c r : Addr} {rs : List V} {t : K6.Task} (b : B3 K H l sc ns a c r rs t) (x : But l H H') (d : Drow K H' l sc ns) : B3 K H' l sc ns a c r rs t := ⟨d, b.tk.tp (x.tpD b.d), b.va, b.sz, b.k4⟩
theorem divInt_1 (z : Int) : Rat.divInt z 1 = (z : Rat) := by
  rw [Rat.divInt_eq_div]
  show (z : Rat) / (1 : Rat) = _
  grind
def itm (xs : List V) (q : Nat) : Int := match xs[q]? with
  | some (.int z) => z
  | _ => 0
theorem pair_dec {s b : Int} : (!decide ([s, (1 : Int)] = [b, 1])) = !decide (s = b) := by
  congr 1
  exact decide_eq_decide.mpr ⟨fun h => (List.cons.inj h).1, fun h => by rw [h]⟩
theorem pair_dec' {s b : Int} : decide ([s, (1 : Int)] = [b, 1]) = decide (s = b) := decide_eq_decide.mpr ⟨fun h => (List.cons.inj h).1, fun h => by rw [h]⟩
theorem row_int {t : K6.Task} {z : Nat → Int} {i : Nat} : K6.rowS t (fun j => ((z j : Int) : Rat)) i = ((t.b i : Int) : Rat) ↔ (K6.sI t.k fun j => t.A i j * z j) = t.b i := by
  have e : K6.rowS t (fun j => ((z j : Int) : Rat)) i = ((K6.sI t.k fun j => t.A i j * z j : Int) : Rat) := by
    rw [K6.sR_cast]
    exact K6.sR_congr fun j _ => by rw [Rat.intCast_mul]
  rw [e]
  exact Rat.intCast_inj
theorem col_int {t : K6.Task} {z : Nat → Int} {j : Nat} : K6.colS t (fun i => ((z i : Int) : Rat)) j = ((t.c j : Int) : Rat) ↔ (K6.sI t.m fun i => t.A i j * z i) = t.c j := by
  have e : K6.colS t (fun i => ((z i : Int) : Rat)) j = ((K6.sI t.m fun i => t.A i j * z i : Int) : Rat) := by
    rw [K6.sR_cast]
    exact K6.sR_congr fun j _ => by rw [Rat.intCast_mul]
  rw [e]
  exact Rat.intCast_inj
theorem frs_int {n : Nat} {z : Nat → Int} (h : ∀ j, j < n → (z j).natAbs ≤ 8) : Frs n (fun j => ((z j : Int) : Rat)) :=
  ⟨1, by decide, by decide +kernel, fun j hj => ⟨z j, (divInt_1 _).symm, Nat.lt_of_le_of_lt (h j hj) (by decide +kernel)⟩⟩
theorem tup4 {K : PySem.W.Frag} {i j l m : Nat} {p : Addr} {x y z u : V} {σ : L2.St} {H : Hp} {q : L2.St → Hp → Prop} (h : SqT K H p [x, y, z, u]) (k : q ((((σ.set i (some x)).set j (some y)).set l (some z)).set m (some u)) H) : gTup K 4 (gCons (gName i) (gCons (gName j) (gCons (gName l) (gCons (gName m) gNil)))) (.ref p) σ H q :=
  ⟨p, [x, y, z, u], rfl, h, rfl, x, [y, z, u], rfl, y, [z, u], rfl, z, [u], rfl, u, [], rfl, rfl, k⟩
theorem catA {K : PySem.W.Frag} {H : Hp} {a b : Addr} {xs ys : List V} {Q : VK} (ha : SqT K H a xs) (hb : SqT K H b ys) (hz : xs.length + ys.length ≤ sizeLine) (k : ∀ p H', Same H H' → SqT K H' p (xs ++ ys) → Q (.ref p) H') : rCatA K (.ref a) (.ref b) H Q :=
  ⟨a, b, xs, ys, rfl, rfl, ha, hb, hz, fun e => k b H (Same.refl H) (by rw [e]; exact hb), fun _ e => k a H (Same.refl H) (by rw [e, List.append_nil]; exact ha), fun _ _ p hp => k p _ (Same.new hp) (SqT.of upd_same)⟩
theorem kinds_at {k : Nat} {plus : Nat → Bool} {i : Nat} (h : i < k) : atI (kindsS k plus).cps.toList (i : Int) = some (if plus i = true then 43 else 42) := by
  refine atI_nat ?_
  have e := kinds_get (plus := plus) h
  rw [← Array.getElem?_toList] at e
  exact e
section
variable {P : Program} {w : World} {K : PySem.W.Frag} {mg : Str → Option Value} {base : Heap} {C CN : Addr}
theorem neDK {X : Cx} (hu : X.A.units + 64 < cLine) (hK : X.K = K := by rfl) : OpR X (compareOp .NotEq) (rNeD K) := hK ▸ op_neD hu
theorem eqDK {X : Cx} (hu : X.A.units + 64 < cLine) (hK : X.K = K := by rfl) : OpR X (compareOp .Eq) (rEqD K) := hK ▸ op_eqD hu
def spLaw (K : PySem.W.Frag) : Sp := fun vs H Q _ => ∃ (a : Addr) (is : List Int), vs = [.ref a] ∧ SqL K H a (is.map V.int) ∧ ∀ H', Q (.bl true) H'
theorem sc_law : FnScope ["_law_script", "_law_row", "e", "_law_at", "_law_plan", "_law_paper", "_law_paid", "_law_good", "_law_task_here", "_law_word", "_law_kinds", "_law_costs", "_law_rows", "_law_high", "_law_live", "_law_dear", "_law_loose", "_law_low", "_law_one"] ["_law_script"] (defScope s_law) := ⟨rfl, rfl, rfl, by decide +kernel, rfl, by decide +kernel, by decide +kernel⟩
theorem ok_law (T : Txt K mg C CN) {f : Addr} {fd : FuncData} (F : FnP K "law" "law" s_law f fd) : FnOk P w K mg base CX0 10 f fd ["_law_script"] (spLaw K) := by
  obtain ⟨f_law_is, fd_law_is, m_law_is, k_law_is, b_law_is, G_law_is⟩ := ok_law_is (P := P) (w := w) (base := base) T
  obtain ⟨f_law_ratio, fd_law_ratio, m_law_ratio, k_law_ratio, b_law_ratio, G_law_ratio⟩ := ok_law_ratio (P := P) (w := w) (base := base) T
  obtain ⟨f_law_sum, fd_law_sum, m_law_sum, k_law_sum, b_law_sum, G_law_sum⟩ := ok_law_sum (P := P) (w := w) (base := base) T
  obtain ⟨f_law_taken, fd_law_taken, m_law_taken, k_law_taken, b_law_taken, G_law_taken⟩ := ok_law_taken (P := P) (w := w) (base := base) T
  obtain ⟨f_law_task, fd_law_task, m_law_task, k_law_task, b_law_task, G_law_task⟩ := ok_law_task (P := P) (w := w) (base := base) T
  obtain ⟨f_best_cost, fd_best_cost, m_best_cost, k_best_cost, b_best_cost, G_best_cost⟩ := ok_best_cost (P := P) (w := w) (base := base) T
  obtain ⟨f_best_range, fd_best_range, m_best_range, k_best_range, b_best_range, G_best_range⟩ := ok_best_range (P := P) (w := w) (base := base) T
  obtain ⟨f_dear_columns, fd_dear_columns, m_dear_columns, k_dear_columns, b_dear_columns, G_dear_columns⟩ := ok_dear_columns (P := P) (w := w) (base := base) T
  obtain ⟨f_fits_together, fd_fits_together, m_fits_together, k_fits_together, b_fits_together, G_fits_together⟩ := ok_fits_together (P := P) (w := w) (base := base) T
  obtain ⟨f_live_columns, fd_live_columns, m_live_columns, k_live_columns, b_live_columns, G_live_columns⟩ := G3X.ok_live_columns (P := P) (w := w) (base := base) T
  obtain ⟨f_loose_rows, fd_loose_rows, m_loose_rows, k_loose_rows, b_loose_rows, G_loose_rows⟩ := ok_loose_rows (P := P) (w := w) (base := base) T
  obtain ⟨f_paid_rows, fd_paid_rows, m_paid_rows, k_paid_rows, b_paid_rows, G_paid_rows⟩ := ok_paid_rows (P := P) (w := w) (base := base) T
  obtain ⟨f_paper_range, fd_paper_range, m_paper_range, k_paper_range, b_paper_range, G_paper_range⟩ := ok_paper_range (P := P) (w := w) (base := base) T
  obtain ⟨f_some_paper, fd_some_paper, m_some_paper, k_some_paper, b_some_paper, G_some_paper⟩ := ok_some_paper (P := P) (w := w) (base := base) T
  obtain ⟨f_some_plan, fd_some_plan, m_some_plan, k_some_plan, b_some_plan, G_some_plan⟩ := ok_some_plan (P := P) (w := w) (base := base) T
  refine F.ok sc_law (fun vs H Q E h => ?_) (fun cdv A outer s H vs Q E hr h => ?_)
  · obtain ⟨a, ns, rfl, _⟩ := h
    rfl
  · obtain ⟨sc, ns, rfl, hsc, kk⟩ := h
    have hr_law_is := hr.mono (j := 1) (by decide)
    have hr_law_ratio := hr.mono (j := 1) (by decide)
    have hr_law_sum := hr.mono (j := 3) (by decide)
    have hr_law_taken := hr.mono (j := 1) (by decide)
    have hr_law_task := hr.mono (j := 2) (by decide)
    have hr_best_cost := hr.mono (j := 7) (by decide)
    have hr_best_range := hr.mono (j := 8) (by decide)
    have hr_dear_columns := hr.mono (j := 9) (by decide)
    have hr_fits_together := hr.mono (j := 5) (by decide)
    have hr_live_columns := hr.mono (j := 8) (by decide)
    have hr_loose_rows := hr.mono (j := 8) (by decide)
    have hr_paid_rows := hr.mono (j := 9) (by decide)
    have hr_paper_range := hr.mono (j := 9) (by decide)
    have hr_some_paper := hr.mono (j := 6) (by decide)
    have hr_some_plan := hr.mono (j := 6) (by decide)
    refine ⟨_, PSs.nox (pss_cons (ps_set (i := 1) sc_law.nd rfl (Or.inr rfl) (pe_lst (pa_cons (pv 0) (pa_cons pe_int (pa_cons pe_int (pa_cons pe_int pa_nil))))))
    (pss_cons (ps_par (i := 8) (j := 9) rfl sc_law.nd rfl rfl (by decide) rfl rfl (pa_cons (pe_call G_law_task hr_law_task (by rfl) m_law_task k_law_task b_law_task .nil pass0 (pa_cons (pv 1) (pa_cons pe_int (pa_cons pe_int (pa_cons pe_int pa_nil))))) (pa_cons pe_str pa_nil)) (by rfl))
    (pss_cons (ps_asg (pv 8) (pg_tup (by rfl) (pgs_cons (pg_name (i := 10) sc_law.nd rfl (Or.inr rfl)) (pgs_cons (pg_name (i := 11) sc_law.nd rfl (Or.inl rfl)) (pgs_cons (pg_name (i := 12) sc_law.nd rfl (Or.inr rfl)) pgs_nil)))))
    (pss_cons (ps_try_as (i := 2) (tb := fun W => tAsg (tTup (tCons (tCallS (G3X.spLive K CN) (WE W) (tCons (tVar 8) tNil)) (tCons (tCall (spPart K (fun t => t.k) K6.dearP) [] E0 (tCons (tVar 8) tNil)) (tCons (tCall (spPart K (fun t => t.m) K6.looseP) [] E0 (tCons (tVar 8) tNil)) (tCons (tCall (spPart K (fun t => t.m) K6.paidP) [] E0 (tCons (tVar 8) tNil)) tNil))))) (gTup K 4 (gCons (gName 14) (gCons (gName 15) (gCons (gName 16) (gCons (gName 6) gNil)))))) (ts := fun _ _ _ => tAsg (tC (V.str "not")) (gName 9)) (Wout := fun _ _ _ _ => False) rfl rfl sc_law.nd rfl rfl ⟨rfl, by decide, Or.inl T.g_NotBest⟩ takes0 (fun W pn xe tk _ => pss_one (ps_asg (by exact (pe_tup (pa_cons (pe_callS G_live_columns hr_live_columns (by rfl) m_live_columns k_live_columns b_live_columns (fun σ => passAt tk σ) (pa_cons (pv 8) pa_nil)) (pa_cons (pe_call G_dear_columns hr_dear_columns (by rfl) m_dear_columns k_dear_columns b_dear_columns .nil pass0 (pa_cons (pv 8) pa_nil)) (pa_cons (pe_call G_loose_rows hr_loose_rows (by rfl) m_loose_rows k_loose_rows b_loose_rows .nil pass0 (pa_cons (pv 8) pa_nil)) (pa_cons (pe_call G_paid_rows hr_paid_rows (by rfl) m_paid_rows k_paid_rows b_paid_rows .nil pass0 (pa_cons (pv 8) pa_nil)) pa_nil)))))) (by exact (pg_tup (by rfl) (pgs_cons (pg_name (i := 14) sc_law.nd rfl (Or.inl rfl)) (pgs_cons (pg_name (i := 15) sc_law.nd rfl (Or.inl rfl)) (pgs_cons (pg_name (i := 16) sc_law.nd rfl (Or.inl rfl)) (pgs_cons (pg_name (i := 6) sc_law.nd rfl (Or.inl rfl)) pgs_nil)))))))) (fun a oe cls d pn hz hf => pss_one (ps_set (i := 9) sc_law.nd rfl (Or.inl rfl) (by exact pe_str))))
    (pss_cons (ps_if (pt_cmpR op_ne (pe_cmpR op_eq (pv 9) pe_str (nomark _)) (pe_cmpR op_isN (pe_call G_best_cost hr_best_cost (by rfl) m_best_cost k_best_cost b_best_cost .nil pass0 (pa_cons (pv 8) pa_nil)) pe_non (nomark _)) (nomark _))
      (pss_one (ps_ret pe_bl))
      pss_nil)
    (pss_cons (ps_if (pt_cmpR op_eq (pv 9) pe_str (nomark _))
      (pss_one (ps_ret pe_bl))
      pss_nil)
    (pss_cons (ps_if (pt_cmpR (neDK (K := K) hr.units) (pe_callB cr_sortT (by rfl) T.b_sorted (by decide +kernel) (pa_cons (pe_op op_catA (pv 14) (pv 15)) pa_nil)) (pe_lc (own := [("_law_at", 3)]) (g := gName 3) rfl sc_law.nd (pi_range1 rfl T.b_range (pa_cons (pe_callB call_len_str (by rfl) T.b_len PySem.boot_len (pa_cons (pv 10) pa_nil)) pa_nil)) (blkOk_by (own := [("_law_at", 3)]) (N := ["_law_script", "_law_row", "e", "_law_at", "_law_plan", "_law_paper", "_law_paid", "_law_good", "_law_task_here", "_law_word", "_law_kinds", "_law_costs", "_law_rows", "_law_high", "_law_live", "_law_dear", "_law_loose", "_law_low", "_law_one"]) (sc := defScope s_law) (by decide +kernel)) (fun _ _ _ _ _ => by exact (pg_name (i := 3) sc_law.nd rfl (Or.inl rfl))) (fun _ _ _ _ _ => by exact (pts_one (pt_cmpR op_eq (pe_ix ix_str (pv 10) (pv 3) (fun _ _ => rfl)) pe_str (nomark _)))) (fun _ _ _ _ _ => by exact (pv 3))) (nomark _))
      (pss_one (ps_ret pe_bl))
      pss_nil)
    (pss_cons (ps_if (pt_cmpR (neDK (K := K) hr.units) (pe_callB cr_sortT (by rfl) T.b_sorted (by decide +kernel) (pa_cons (pe_op op_catA (pv 16) (pv 6)) pa_nil)) (pe_lc (own := [("_law_at", 3)]) (g := gName 3) rfl sc_law.nd (pi_range1 rfl T.b_range (pa_cons (pe_callB (lenS (K := K)) (by rfl) T.b_len PySem.boot_len (pa_cons (pv 12) pa_nil)) pa_nil)) (blkOk_by (own := [("_law_at", 3)]) (N := ["_law_script", "_law_row", "e", "_law_at", "_law_plan", "_law_paper", "_law_paid", "_law_good", "_law_task_here", "_law_word", "_law_kinds", "_law_costs", "_law_rows", "_law_high", "_law_live", "_law_dear", "_law_loose", "_law_low", "_law_one"]) (sc := defScope s_law) (by decide +kernel)) (fun _ _ _ _ _ => by exact (pg_name (i := 3) sc_law.nd rfl (Or.inl rfl))) (fun _ _ _ _ _ => by exact (pts_one (pt_cmpR op_ne (pe_ix (ixT (K := K)) (pe_ix (ixT (K := K)) (pv 12) (pv 3) (fun _ _ => rfl)) pe_int (fun _ _ => rfl)) pe_str (nomark _)))) (fun _ _ _ _ _ => by exact (pv 3))) (nomark _))
      (pss_one (ps_ret pe_bl))
      pss_nil)
    (pss_cons (ps_for PassesOwn.never rfl (pi_range1 rfl T.b_range (pa_cons (pe_callB call_len_str (by rfl) T.b_len PySem.boot_len (pa_cons (pv 10) pa_nil)) pa_nil)) (pg_name (i := 3) sc_law.nd rfl (Or.inr rfl))
      (pss_cons (ps_set (i := 13) sc_law.nd rfl (Or.inl rfl) (pe_ix (ixT (K := K)) (pe_call G_best_range hr_best_range (by rfl) m_best_range k_best_range b_best_range .nil pass0 (pa_cons (pv 8) (pa_cons (pv 3) pa_nil))) pe_int (fun _ _ => rfl)))
      (pss_one (ps_if (PW.pt (pw_and (pt_cmpR op_eq (pe_ix ix_str (pv 10) (pv 3) (fun _ _ => rfl)) pe_str (nomark _)) (pw_and1 (pt_cmpR op_ne (pe_or (pe_cmpR op_isN (pv 13) pe_non (nomark _)) (pe_one (pe_cmpR op_gt (pe_ix (ixT (K := K)) (pv 13) pe_int (fun _ _ => rfl)) pe_int (nomark _)))) (pe_cmpR (inS (K := K)) (pv 3) (pv 14) (by rfl)) (nomark _)))))
        (pss_one (ps_ret pe_bl))
        pss_nil))))
    (pss_cons (ps_for PassesOwn.never rfl (pi_range1 rfl T.b_range (pa_cons (pe_callB (lenS (K := K)) (by rfl) T.b_len PySem.boot_len (pa_cons (pv 12) pa_nil)) pa_nil)) (pg_name (i := 3) sc_law.nd rfl (Or.inr rfl))
      (pss_cons (ps_asg (pe_call G_paper_range hr_paper_range (by rfl) m_paper_range k_paper_range b_paper_range .nil pass0 (pa_cons (pv 8) (pa_cons (pv 3) pa_nil))) (pg_tup (by rfl) (pgs_cons (pg_name (i := 17) sc_law.nd rfl (Or.inl rfl)) (pgs_cons (pg_name (i := 13) sc_law.nd rfl (Or.inl rfl)) pgs_nil))))
      (pss_one (ps_if (PW.pt (pw_and (pt_cmpR op_ne (pe_ix (ixT (K := K)) (pe_ix (ixT (K := K)) (pv 12) (pv 3) (fun _ _ => rfl)) pe_int (fun _ _ => rfl)) pe_str (nomark _)) (pw_and1 (pt_cmpR op_ne (pe_or (pe_cmpR (neDK (K := K) hr.units) (pv 17) (pe_tup (pa_cons pe_int (pa_cons pe_int pa_nil))) (nomark _)) (pe_one (pe_cmpR (neDK (K := K) hr.units) (pv 13) (pe_tup (pa_cons pe_int (pa_cons pe_int pa_nil))) (nomark _)))) (pe_cmpR (inS (K := K)) (pv 3) (pv 6) (by rfl)) (nomark _)))))
        (pss_one (ps_ret pe_bl))
        pss_nil))))
    (pss_cons (ps_asg (pe_tup (pa_cons (pe_call G_some_plan hr_some_plan (by rfl) m_some_plan k_some_plan b_some_plan .nil pass0 (pa_cons (pv 8) pa_nil)) (pa_cons (pe_call G_some_paper hr_some_paper (by rfl) m_some_paper k_some_paper b_some_paper .nil pass0 (pa_cons (pv 8) pa_nil)) pa_nil))) (pg_tup (by rfl) (pgs_cons (pg_name (i := 4) sc_law.nd rfl (Or.inr rfl)) (pgs_cons (pg_name (i := 5) sc_law.nd rfl (Or.inr rfl)) pgs_nil))))
    (pss_cons (ps_if (PW.pt (pw_or (pt_cmpR op_notBl (pe_call G_fits_together hr_fits_together (by rfl) m_fits_together k_fits_together b_fits_together .nil pass0 (pa_cons (pv 8) (pa_cons (pv 4) (pa_cons (pv 5) pa_nil)))) pe_bl (nomark _)) (pw_or1 (pt_cmpR (neDK (K := K) hr.units) (pe_lc (own := [("_law_at", 3)]) (g := gName 3) rfl sc_law.nd (pi_tup (pv 15)) (blkOk_by (own := [("_law_at", 3)]) (N := ["_law_script", "_law_row", "e", "_law_at", "_law_plan", "_law_paper", "_law_paid", "_law_good", "_law_task_here", "_law_word", "_law_kinds", "_law_costs", "_law_rows", "_law_high", "_law_live", "_law_dear", "_law_loose", "_law_low", "_law_one"]) (sc := defScope s_law) (by decide +kernel)) (fun _ _ _ _ _ => by exact (pg_name (i := 3) sc_law.nd rfl (Or.inl rfl))) (fun _ _ _ _ _ => by exact (pts_one (pt_cmpR op_ne (pe_ix (ixT (K := K)) (pe_ix (ixT (K := K)) (pv 4) (pv 3) (fun _ _ => rfl)) pe_int (fun _ _ => rfl)) pe_int (nomark _)))) (fun _ _ _ _ _ => by exact (pv 3))) (pe_lst pa_nil) (nomark _)))))
      (pss_one (ps_ret pe_bl))
      pss_nil)
    (pss_cons (ps_if (pt_cmpR (neDK (K := K) hr.units) (pe_lc (own := [("_law_at", 3)]) (g := gName 3) rfl sc_law.nd (pi_tup (pv 16)) (blkOk_by (own := [("_law_at", 3)]) (N := ["_law_script", "_law_row", "e", "_law_at", "_law_plan", "_law_paper", "_law_paid", "_law_good", "_law_task_here", "_law_word", "_law_kinds", "_law_costs", "_law_rows", "_law_high", "_law_live", "_law_dear", "_law_loose", "_law_low", "_law_one"]) (sc := defScope s_law) (by decide +kernel)) (fun _ _ _ _ _ => by exact (pg_name (i := 3) sc_law.nd rfl (Or.inl rfl))) (fun _ _ _ _ _ => by exact (pts_one (pt_cmpR op_ne (pe_ix (ixT (K := K)) (pe_ix (ixT (K := K)) (pv 5) (pv 3) (fun _ _ => rfl)) pe_int (fun _ _ => rfl)) pe_int (nomark _)))) (fun _ _ _ _ _ => by exact (pv 3))) (pe_lst pa_nil) (nomark _))
      (pss_one (ps_ret pe_bl))
      pss_nil)
    (pss_cons (ps_set (i := 4) sc_law.nd rfl (Or.inr rfl) (pe_callTy call_tuple_of (by rfl) T.b_tuple (by decide +kernel) (pa_cons (pe_lc (own := [("_law_one", 18)]) (g := gName 18) rfl sc_law.nd (pi_str (pv 10)) (blkOk_by (own := [("_law_one", 18)]) (N := ["_law_script", "_law_row", "e", "_law_at", "_law_plan", "_law_paper", "_law_paid", "_law_good", "_law_task_here", "_law_word", "_law_kinds", "_law_costs", "_law_rows", "_law_high", "_law_live", "_law_dear", "_law_loose", "_law_low", "_law_one"]) (sc := defScope s_law) (by decide +kernel)) (fun _ _ _ _ _ => by exact (pg_name (i := 18) sc_law.nd rfl (Or.inl rfl))) (fun _ _ _ _ _ => by exact pts_nil) (fun _ _ _ _ _ => by exact (pe_call G_law_ratio hr_law_ratio (by rfl) m_law_ratio k_law_ratio b_law_ratio .nil pass0 (pa_cons (pe_op op_sub (pe_call G_law_taken hr_law_taken (by rfl) m_law_taken k_law_taken b_law_taken .nil pass0 (pa_cons (pv 1) (pa_cons pe_int pa_nil))) pe_int) (pa_cons pe_int pa_nil))))) pa_nil)))
    (pss_cons (ps_set (i := 5) sc_law.nd rfl (Or.inr rfl) (pe_callTy call_tuple_of (by rfl) T.b_tuple (by decide +kernel) (pa_cons (pe_lc (own := [("_law_one", 18)]) (g := gName 18) rfl sc_law.nd (pi_tup (pv 12)) (blkOk_by (own := [("_law_one", 18)]) (N := ["_law_script", "_law_row", "e", "_law_at", "_law_plan", "_law_paper", "_law_paid", "_law_good", "_law_task_here", "_law_word", "_law_kinds", "_law_costs", "_law_rows", "_law_high", "_law_live", "_law_dear", "_law_loose", "_law_low", "_law_one"]) (sc := defScope s_law) (by decide +kernel)) (fun _ _ _ _ _ => by exact (pg_name (i := 18) sc_law.nd rfl (Or.inl rfl))) (fun _ _ _ _ _ => by exact pts_nil) (fun _ _ _ _ _ => by exact (pe_call G_law_ratio hr_law_ratio (by rfl) m_law_ratio k_law_ratio b_law_ratio .nil pass0 (pa_cons (pe_op op_sub (pe_call G_law_taken hr_law_taken (by rfl) m_law_taken k_law_taken b_law_taken .nil pass0 (pa_cons (pv 1) (pa_cons pe_int pa_nil))) pe_int) (pa_cons pe_int pa_nil))))) pa_nil)))
    (pss_cons (ps_setLc (i := 6) (own := [("_law_at", 3)]) (g := gName 3) rfl sc_law.nd rfl rfl (sw_true rfl rfl rfl (by decide +kernel)) (pi_range1 rfl T.b_range (pa_cons (pe_callB (lenS (K := K)) (by rfl) T.b_len PySem.boot_len (pa_cons (pv 12) pa_nil)) pa_nil)) (blkOk_by (own := [("_law_at", 3)]) (N := ["_law_script", "_law_row", "e", "_law_at", "_law_plan", "_law_paper", "_law_paid", "_law_good", "_law_task_here", "_law_word", "_law_kinds", "_law_costs", "_law_rows", "_law_high", "_law_live", "_law_dear", "_law_loose", "_law_low", "_law_one"]) (sc := defScope s_law) (by decide +kernel)) (fun _ _ _ _ _ => by exact (pg_name (i := 3) sc_law.nd rfl (Or.inl rfl))) (fun _ _ _ _ _ => by exact (pts_one (pt_cmpR op_ne (pe_ix (ixT (K := K)) (pe_ix (ixT (K := K)) (pv 5) (pv 3) (fun _ _ => rfl)) pe_int (fun _ _ => rfl)) pe_int (nomark _)))) (fun _ _ _ _ _ => by exact (pv 3)))
    (pss_cons (ps_set (i := 7) sc_law.nd rfl (Or.inl rfl) (pe_cmpR (eqDK (K := K) hr.units) (pe_lc (own := [("_law_at", 3)]) (g := gName 3) rfl sc_law.nd (pi_list (pv 6)) (blkOk_by (own := [("_law_at", 3)]) (N := ["_law_script", "_law_row", "e", "_law_at", "_law_plan", "_law_paper", "_law_paid", "_law_good", "_law_task_here", "_law_word", "_law_kinds", "_law_costs", "_law_rows", "_law_high", "_law_live", "_law_dear", "_law_loose", "_law_low", "_law_one"]) (sc := defScope s_law) (by decide +kernel)) (fun _ _ _ _ _ => by exact (pg_name (i := 3) sc_law.nd rfl (Or.inl rfl))) (fun _ _ _ _ _ => by exact (pts_one (pt_cmpR (neDK (K := K) hr.units) (pe_call G_law_sum hr_law_sum (by rfl) m_law_sum k_law_sum b_law_sum .nil pass0 (pa_cons (pe_ix (ixT (K := K)) (pe_ix (ixT (K := K)) (pv 12) (pv 3) (fun _ _ => rfl)) pe_int (fun _ _ => rfl)) (pa_cons (pv 4) pa_nil))) (pe_tup (pa_cons (pe_ix (ixT (K := K)) (pe_ix (ixT (K := K)) (pv 12) (pv 3) (fun _ _ => rfl)) pe_int (fun _ _ => rfl)) (pa_cons pe_int pa_nil))) (nomark _)))) (fun _ _ _ _ _ => by exact (pv 3))) (pe_lst pa_nil) (nomark _)))
    (pss_cons (ps_for PassesOwn.never rfl (pi_range1 rfl T.b_range (pa_cons (pe_callB call_len_str (by rfl) T.b_len PySem.boot_len (pa_cons (pv 10) pa_nil)) pa_nil)) (pg_name (i := 3) sc_law.nd rfl (Or.inr rfl))
      (pss_one (ps_set (i := 7) sc_law.nd rfl (Or.inl rfl) (pe_and (pv 7) (pe_one (pe_or (pe_cmpR op_eq (pe_ix (ixT (K := K)) (pe_ix (ixT (K := K)) (pv 4) (pv 3) (fun _ _ => rfl)) pe_int (fun _ _ => rfl)) pe_int (nomark _)) (pe_one (pe_cmpR (eqDK (K := K) hr.units) (pe_call G_law_sum hr_law_sum (by rfl) m_law_sum k_law_sum b_law_sum .nil pass0 (pa_cons (pe_lc (own := [("_law_one", 18)]) (g := gName 18) rfl sc_law.nd (pi_tup (pv 12)) (blkOk_by (own := [("_law_one", 18)]) (N := ["_law_script", "_law_row", "e", "_law_at", "_law_plan", "_law_paper", "_law_paid", "_law_good", "_law_task_here", "_law_word", "_law_kinds", "_law_costs", "_law_rows", "_law_high", "_law_live", "_law_dear", "_law_loose", "_law_low", "_law_one"]) (sc := defScope s_law) (by decide +kernel)) (fun _ _ _ _ _ => by exact (pg_name (i := 18) sc_law.nd rfl (Or.inl rfl))) (fun _ _ _ _ _ => by exact pts_nil) (fun _ _ _ _ _ => by exact (pe_ix (ixT (K := K)) (pe_ix (ixT (K := K)) (pv 18) pe_int (fun _ _ => rfl)) (pv 3) (fun _ _ => rfl)))) (pa_cons (pv 5) pa_nil))) (pe_tup (pa_cons (pe_ix (ixT (K := K)) (pv 11) (pv 3) (fun _ _ => rfl)) (pa_cons pe_int pa_nil))) (nomark _)))))))))
    (pss_one (ps_ret (pe_call G_law_is hr_law_is (by rfl) m_law_is k_law_is b_law_is .nil pass0 (pa_cons (pe_call G_fits_together hr_fits_together (by rfl) m_fits_together k_fits_together b_fits_together .nil pass0 (pa_cons (pv 8) (pa_cons (pv 4) (pa_cons (pv 5) pa_nil)))) (pa_cons (pv 7) pa_nil))))))))))))))))))))))), ?_⟩
    -- the row, the task
    refine seq_of (fun σ' H' => ∃ l, Drow K H' l sc ns ∧ σ' = [some (.ref sc), some (.ref l), none, none, none, none, none, none, none, none, none, none, none, none, none, none, none, none, none]) (fun N hN => ?_) ?_
    · refine ⟨_, rfl, small (by show 4 ≤ 1000; decide), fun l hl => ?_⟩
      exact hN _ _ ⟨l, ⟨0, 5306, 0, upd_same, (Src.new hsc hl).same (Same.new hl), trivial, by decide, by decide⟩, rfl⟩
    rintro σ H1 ⟨l, d1, rfl⟩
    refine seq_of (fun σ' H' => ∃ a c r rs t, B3 K H' l sc ns a c r rs t ∧ σ' = [some (.ref sc), some (.ref l), none, none, none, none, none, none, some (.ref a), some (.str ""), none, none, none, none, none, none, none, none, none]) (fun N hN => ?_) ?_
    · refine ⟨_, rfl, l, sc, ns, rfl, d1, fun u t H2 b2 d2 htk va sz hk4 => ⟨_, _, rfl, ?_⟩⟩
      obtain ⟨a, c, r, rs, rfl, ht⟩ := htk
      exact hN _ _ ⟨a, c, r, rs, t, ⟨d2, ht, va, sz, hk4⟩, rfl⟩
    rintro σ H2 ⟨a, c, r, rs, t, b3, rfl⟩
    refine seq_of (fun σ' H' => H' = H2 ∧ σ' = lst sc l a c r t.k t.plus "" none none none none none none none none none none none) (fun N hN => ?_) ?_
    · exact ⟨_, rfl, tup3 b3.tk.tk (hN _ _ ⟨rfl, rfl⟩)⟩
    rintro σ H2 ⟨rfl, rfl⟩
    -- try
    refine seq_of (JTry K sc ns) (fun N hN => ?_) ?_
    · refine ⟨_, rfl, .ref a, t, rfl, b3.task, b3.va, b3.sz, fun val hb p1 H3 s3 hp1 => ?_, fun hbc H3 s3 => ?_⟩
      rotate_left
      · refine ⟨true, T.e_NotBest, fun _ ea hea => ?_, fun h => by cases h⟩
        exact hN _ _ ⟨l, a, c, r, rs, t, .inl ⟨hbc, b3.same s3, _, _, _, _, _, _, _, _, rfl⟩⟩
      refine ⟨_, rfl, .ref a, t, val, rfl, b3.task.tp s3.tp, b3.va, b3.sz, hb, fun p2 H4 s4 hp2 => ?_⟩
      have s34 := s3.trans s4
      refine ⟨_, rfl, .ref a, t, val, rfl, b3.task.tp s34.tp, b3.va, b3.sz, hb, fun p3 H5 s5 hp3 => ?_⟩
      have s35 := s34.trans s5
      refine ⟨_, rfl, .ref a, t, val, rfl, b3.task.tp s35.tp, b3.va, b3.sz, hb, fun p4 H6 s6 hp4 => ?_⟩
      have s36 := s35.trans s6
      refine ⟨small (by show 4 ≤ 1000; decide), fun pq hpq => ?_⟩
      have s7 := Same.new (o := .tup [V.ref p1, V.ref p2, V.ref p3, V.ref p4]) hpq
      refine tup4 (SqT.of upd_same) (hN _ _ ⟨l, a, c, r, rs, t, .inr ⟨val, p1, p2, p3, p4, ⟨b3.same (s36.trans s7), hb, ((s4.trans s5).trans (s6.trans s7)).tup hp1, (s5.trans (s6.trans s7)).tup hp2, (s6.trans s7).tup hp3, s7.tup hp4⟩, _, _, _, _, rfl⟩⟩)
    clear b3 t rs r c a d1 l H1
    rintro σ H3 j3
    -- the word tells
    refine seq_of (JTry K sc ns) (fun N hN => ?_) ?_
    · obtain ⟨l, a, c, r, rs, t, ⟨hbc, b3, x2, x3, x6, x13, x14, x15, x16, x17, rfl⟩ | ⟨val, p1, p2, p3, p4, b6, x2, x3, x13, x17, rfl⟩⟩ := j3
      · refine ⟨_, rfl, rfl, _, rfl, .ref a, t, rfl, b3.task, b3.va, Sz.up b3.sz.sz (by decide), fun u H4 s4 hu => ?_⟩
        rw [hbc] at hu
        cases (show u = .non from hu)
        exact ⟨rfl, rfl, _, rfl, iteF (hN _ _ ⟨l, a, c, r, rs, t, .inl ⟨hbc, b3.same s4, _, _, _, _, _, _, _, _, rfl⟩⟩)⟩
      · refine ⟨_, rfl, rfl, _, rfl, .ref a, t, rfl, b6.b.task, b6.b.va, Sz.up b6.b.sz.sz (by decide), fun u H4 s4 hu => ?_⟩
        rw [K6.bc_some.mpr b6.best] at hu
        obtain ⟨bu, rfl, _⟩ := hu
        exact ⟨rfl, rfl, _, rfl, iteF (hN _ _ ⟨l, a, c, r, rs, t, .inr ⟨val, p1, p2, p3, p4, b6.same s4, _, _, _, _, rfl⟩⟩)⟩
    clear j3
    rintro σ H3 ⟨l, a, c, r, rs, t, ⟨hbc, b3, x2, x3, x6, x13, x14, x15, x16, x17, rfl⟩ | ⟨val, p1, p2, p3, p4, b6, x2, x3, x13, x17, rfl⟩⟩
    · exact ⟨_, rfl, rfl, _, rfl, iteT (kk _)⟩
    have hrl : rs.length = t.m := b6.b.tk.rows.1
    have k5 := b6.b.sz.k5
    have m5 := b6.b.sz.m5
    have hb := b6.best
    refine seq_of (fun σ' H' => H' = H3 ∧ σ' = lst sc l a c r t.k t.plus "" x2 x3 none none (some (.ref p4)) none x13 (some (.ref p1)) (some (.ref p2)) (some (.ref p3)) x17) (fun N hN => ?_) ?_
    · exact ⟨_, rfl, rfl, _, rfl, iteF (hN _ _ ⟨rfl, rfl⟩)⟩
    rintro σ H3 ⟨rfl, rfl⟩
    -- the columns in order
    refine seq_of (fun σ' H' => Same H3 H' ∧ σ' = lst sc l a c r t.k t.plus "" x2 x3 none none (some (.ref p4)) none x13 (some (.ref p1)) (some (.ref p2)) (some (.ref p3)) x17) (fun N hN => ?_) ?_
    · refine ⟨_, rfl, _, rfl, catA b6.hL b6.hD ?_ fun q1 H9 s9 hq1 => ?_⟩
      · have h1 := fl_len t.k (K6.liveP t val)
        have h2 := fl_len t.k (K6.dearP t val)
        exact small (by omega)
      refine ⟨q1, fi t.k (K6.liveP t val) ++ fi t.k (K6.dearP t val), rfl, by rw [List.map_append, ← fl_fi, ← fl_fi]; exact hq1, fun ns1 q2 hperm hsort hq2 => ?_⟩
      have en1 := split_sorted (p := t.plus) (fun i hi h => K6.live_plus h) (fun i hi => K6.dear_not_live hb hi) hperm hsort
      have s10 := s9.trans (Same.new (o := .lst (ns1.map V.int)) hq2)
      refine ⟨_, rfl, _, rfl, by rw [kinds_len]; exact small (by omega), _, rfl, by rw [kinds_len]; omega, by rw [kinds_len]; omega, fun D1 hD1 => lc_filter (walk_rgI (n := t.k) (by rw [kinds_len])) t.plus (fun (i : Nat) => V.int (i : Int)) (by omega) hD1 (fun _ _ => trivial) ?_ ?_⟩
      · rintro j y H11 H12 Qy Qn hj s11 ⟨rfl, rfl⟩ ky kn
        refine ⟨rfl, _, rfl, _, rfl, _, _, _, rfl, rfl, by rw [kinds_len]; exact small (by omega), kinds_at hj, rfl, _, rfl, ?_⟩
        rw [ki_plus]
        cases hp : t.plus j
        · exact iteF (kn hp _ (Same.refl _))
        · exact iteT ⟨_, rfl, ky hp _ (Same.refl _)⟩
      intro H11 s11 e11
      have e11' : H11 D1 = some (.lst ((fi t.k t.plus).map V.int)) := by rw [e11, filt_ints]; rfl
      refine neL (ns := ns1) (ms := fi t.k t.plus) (SqL.of (s11 _ _ upd_same)) (SqL.of e11') ⟨_, rfl, ?_⟩
      rw [decide_eq_true en1]
      exact iteF (hN _ _ ⟨s10.trans s11, rfl⟩)
    rintro σ H4 ⟨s4, rfl⟩
    replace b6 := b6.same s4
    clear s4 H3
    -- the rows in order
    refine seq_of (fun σ' H' => Same H4 H' ∧ σ' = lst sc l a c r t.k t.plus "" x2 x3 none none (some (.ref p4)) none x13 (some (.ref p1)) (some (.ref p2)) (some (.ref p3)) x17) (fun N hN => ?_) ?_
    · refine ⟨_, rfl, _, rfl, catA b6.hO b6.hP ?_ fun q1 H9 s9 hq1 => ?_⟩
      · have h1 := fl_len t.m (K6.looseP t val)
        have h2 := fl_len t.m (K6.paidP t val)
        exact small (by omega)
      refine ⟨q1, fi t.m (K6.looseP t val) ++ fi t.m (K6.paidP t val), rfl, by rw [List.map_append, ← fl_fi, ← fl_fi]; exact hq1, fun ns1 q2 hperm hsort hq2 => ?_⟩
      have en1 := split_sorted (p := fun i => decide (t.sg i ≠ .eq)) (fun i hi h => decide_eq_true (K6.loose_ne h)) (fun i hi => K6.paid_not_loose hb hi) hperm hsort
      have s10 := s9.trans (Same.new (o := .lst (ns1.map V.int)) hq2)
      have hrw := s10.tup b6.b.tk.rw
      refine ⟨_, rfl, r, _, rfl, .inr hrw, _, rfl, by omega, by omega, fun D1 hD1 => lc_filter (walk_rgI (n := t.m) (by rw [hrl])) (fun i => decide (t.sg i ≠ .eq)) (fun (i : Nat) => V.int (i : Int)) (by omega) hD1 (fun _ _ => trivial) ?_ ?_⟩
      · rintro j y H11 H12 Qy Qn hj s11 ⟨rfl, rfl⟩ ky kn
        obtain ⟨y, ey, b, d, rfl, hbb, hdd⟩ := (b6.b.tk.rows.tp (s10.trans s11).tp).2 j hj
        refine ⟨rfl, _, rfl, _, rfl, r, _, _, _, rfl, rfl, s11.tup hrw, atI_nat ey, b, _, _, _, rfl, rfl, hbb, rfl, rfl, _, rfl, ?_⟩
        rw [sg_eq]
        cases hp : decide (t.sg j ≠ .eq)
        · have e9 : decide (t.sg j = .eq) = true := by simpa using hp
          rw [e9]
          exact iteF (kn hp _ (Same.refl _))
        · have e9 : decide (t.sg j = .eq) = false := by simpa using hp
          rw [e9]
          exact iteT ⟨_, rfl, ky hp _ (Same.refl _)⟩
      intro H11 s11 e11
      have e11' : H11 D1 = some (.lst ((fi t.m (fun i => decide (t.sg i ≠ .eq))).map V.int)) := by rw [e11, filt_ints]; rfl
      refine neL (ns := ns1) (ms := fi t.m (fun i => decide (t.sg i ≠ .eq))) (SqL.of (s11 _ _ upd_same)) (SqL.of e11') ⟨_, rfl, ?_⟩
      rw [decide_eq_true en1]
      exact iteF (hN _ _ ⟨s10.trans s11, rfl⟩)
    rintro σ H5 ⟨s5, rfl⟩
    replace b6 := b6.same s5
    clear s5 H4
    -- each column's range
    refine seq_of (fun σ' H' => Same H5 H' ∧ ∃ x3 x13, σ' = lst sc l a c r t.k t.plus "" x2 x3 none none (some (.ref p4)) none x13 (some (.ref p1)) (some (.ref p2)) (some (.ref p3)) x17) (fun N hN => ?_) ?_
    · refine ⟨_, rfl, _, rfl, by rw [kinds_len]; exact small (by omega), _, rfl, by rw [kinds_len]; omega, by rw [kinds_len]; omega, for_it (walk_rgI (n := t.k) (by rw [kinds_len]))
        (fun i σ' H' => Same H5 H' ∧ ∃ x3 x13, σ' = lst sc l a c r t.k t.plus "" x2 x3 none none (some (.ref p4)) none x13 (some (.ref p1)) (some (.ref p2)) (some (.ref p3)) x17)
        ⟨Same.refl _, _, _, rfl⟩ (fun _ _ _ _ _ => trivial) ?_ (fun σ' H' h => hN _ _ h)⟩
      rintro j y σ' H6 H6' hj ⟨s6, y3, y13, rfl⟩ ⟨rfl, rfl⟩
      have c6 := b6.same s6
      refine ⟨_, rfl, _, rfl, .ref a, t, val, j, rfl, c6.b.task, c6.b.va, c6.b.sz, hb, hj, fun p z1 z2 H7 s7 hp h1 h2 => ⟨p, _, _, _, rfl, rfl, hp, rfl, ?_⟩⟩
      have s67 := s6.trans s7
      have hL7 := s7.tup c6.hL
      refine ⟨_, rfl, _, rfl, _, _, _, rfl, rfl, by rw [kinds_len]; exact small (by omega), kinds_at hj, rfl, _, rfl, ?_⟩
      rw [ki_plus]
      cases hp : t.plus j
      · exact iteF ⟨s67, _, _, rfl⟩
      refine iteT ?_
      have ev := live_val (v := val) hp
      have ein := in_fl (f := K6.liveP t val) hj
      rcases ro_num h2 with ⟨ho, rfl⟩ | ⟨q, b2, ho, rfl, hb2⟩
      · rw [ho] at ev
        refine ⟨_, rfl, rfl, _, rfl, iteT ?_⟩
        refine ⟨_, rfl, _, rfl, p1, _, rfl, .inr hL7, rfl, fl_flat _ _, rfl, _, rfl, ?_⟩
        refine ifF (bl_ne ?_) ⟨s67, _, _, rfl⟩
        rw [if_neg Bool.false_ne_true, ein, ev]
      · rw [ho] at ev
        refine ⟨_, rfl, rfl, _, rfl, iteF ?_⟩
        refine ⟨_, rfl, b2, _, _, _, rfl, rfl, hb2, rfl, _, _, rfl, rfl, ?_⟩
        refine ⟨_, rfl, _, rfl, p1, _, rfl, .inr hL7, rfl, fl_flat _ _, rfl, _, rfl, ?_⟩
        refine ifF (bl_ne ?_) ⟨s67, _, _, rfl⟩
        rw [if_neg Bool.false_ne_true, ein, ev]
    rintro σ H6 ⟨s6, y3, y13, rfl⟩
    replace b6 := b6.same s6
    clear s6 H5 x3 x13
    -- each row's range
    refine seq_of (fun σ' H' => Same H6 H' ∧ ∃ x3 x13 x17, σ' = lst sc l a c r t.k t.plus "" x2 x3 none none (some (.ref p4)) none x13 (some (.ref p1)) (some (.ref p2)) (some (.ref p3)) x17) (fun N hN => ?_) ?_
    · refine ⟨_, rfl, r, _, rfl, .inr b6.b.tk.rw, _, rfl, by omega, by omega, for_it (walk_rgI (n := t.m) (by rw [hrl]))
        (fun i σ' H' => Same H6 H' ∧ ∃ x3 x13 x17, σ' = lst sc l a c r t.k t.plus "" x2 x3 none none (some (.ref p4)) none x13 (some (.ref p1)) (some (.ref p2)) (some (.ref p3)) x17)
        ⟨Same.refl _, _, _, _, rfl⟩ (fun _ _ _ _ _ => trivial) ?_ (fun σ' H' h => hN _ _ h)⟩
      rintro i y σ' H7 H7' hi ⟨s7, z3, z13, z17, rfl⟩ ⟨rfl, rfl⟩
      have c7 := b6.same s7
      refine ⟨_, rfl, _, rfl, .ref a, t, val, i, rfl, c7.b.task, c7.b.va, c7.b.sz, hb, hi, fun p z1 z2 H8 s8 hp h1 h2 => ?_⟩
      refine tup2 hp ?_
      have s78 := s7.trans s8
      have c8 := b6.same s78
      obtain ⟨yy, ey, b, d, rfl, hbb, hdd⟩ := c8.b.tk.rows.2 i hi
      refine ⟨_, rfl, _, rfl, r, _, _, _, rfl, rfl, c8.b.tk.rw, atI_nat ey, b, _, _, _, rfl, rfl, hbb, rfl, rfl, _, rfl, ?_⟩
      rw [sg_eq]
      by_cases ce : t.sg i = .eq
      · rw [decide_eq_true ce]
        exact iteF ⟨s78, _, _, _, rfl⟩
      · rw [decide_eq_false ce]
        refine iteT ?_
        have ev := range_val hb hi ce
        have ein := in_fl (f := K6.paidP t val) hi
        revert h1 h2 ev
        generalize (if t.sg i = K6.Sg.le then (K6.hi (K6.kept (K6.other t) (-val)) (K6.unitC i)).map (fun q => - q) else K6.lo (K6.kept (K6.other t) (-val)) (K6.unitC i)) = o1
        generalize (if t.sg i = K6.Sg.le then (K6.lo (K6.kept (K6.other t) (-val)) (K6.unitC i)).map (fun q => - q) else K6.hi (K6.kept (K6.other t) (-val)) (K6.unitC i)) = o2
        intro h1 h2 ev
        refine ⟨_, rfl, small (by show 2 ≤ 1000; decide), fun q1 hq1 => ?_⟩
        have s9 := Same.new (o := .tup [V.int 0, V.int 1]) hq1
        refine ro_zero (h1.tp s9.tp) (SqT.of upd_same) ⟨_, rfl, ?_⟩
        cases cz : zeroO o1 with
        | false =>
          rw [cz] at ev
          refine iteT ?_
          refine ⟨_, rfl, _, rfl, p4, _, rfl, .inr (s9.tup c8.hP), rfl, fl_flat _ _, rfl, _, rfl, ?_⟩
          refine ifF (bl_ne ?_) ⟨s78.trans s9, _, _, _, rfl⟩
          rw [if_neg Bool.false_ne_true, ein, ← ev]; rfl
        | true =>
          rw [cz] at ev
          refine iteF ?_
          refine ⟨_, rfl, small (by show 2 ≤ 1000; decide), fun q2 hq2 => ?_⟩
          have s10 := s9.trans (Same.new (o := .tup [V.int 0, V.int 1]) hq2)
          refine ro_zero (h2.tp s10.tp) (SqT.of upd_same) ?_
          refine ⟨_, rfl, _, rfl, p4, _, rfl, .inr (s10.tup c8.hP), rfl, fl_flat _ _, rfl, _, rfl, ?_⟩
          refine ifF (bl_ne ?_) ⟨s78.trans s10, _, _, _, rfl⟩
          rw [if_neg Bool.false_ne_true, ein, ← ev]; rfl
    rintro σ H7 ⟨s7, z3, z13, z17, rfl⟩
    replace b6 := b6.same s7
    clear s7 H6
    -- a plan and a paper
    refine seq_of (fun σ' H' => Same H7 H' ∧ ∃ px py x y, σ' = lst sc l a c r t.k t.plus "" x2 z3 (some px) (some py) (some (.ref p4)) none z13 (some (.ref p1)) (some (.ref p2)) (some (.ref p3)) z17 ∧ Rts K H' px t.k x ∧ Rts K H' py t.m y ∧
      K6.Plan t x ∧ K6.costT t x = val ∧ K6.Paper t y ∧ K6.prom t y = val ∧ Frs t.k x ∧ Frs t.m y) (fun N hN => ?_) ?_
    · refine ⟨_, rfl, .ref a, t, val, rfl, b6.b.task, b6.b.va, Sz.up b6.b.sz.sz (by decide), hb, fun px x H8 s8 hx1 hx2 hx3 hx4 => ?_⟩
      refine ⟨_, rfl, .ref a, t, val, rfl, b6.b.task.tp s8.tp, b6.b.va, Sz.up b6.b.sz.sz (by decide), hb, fun py y H9 s9 hy1 hy2 hy3 hy4 => ?_⟩
      refine ⟨small (by show 2 ≤ 1000; decide), fun pq hpq => ?_⟩
      have s10 := Same.new (o := .tup [px, py]) hpq
      refine tup2 (SqT.of upd_same) (hN _ _ ⟨s8.trans (s9.trans s10), px, py, x, y, rfl, hx1.tp (s9.trans s10).tp, hy1.tp s10.tp, hx2, hx3, hy2, hy3, hx4, hy4⟩)
    rintro σ H8 ⟨s8, px, py, x, y, rfl, hx1, hy1, hx2, hx3, hy2, hy3, hx4, hy4⟩
    replace b6 := b6.same s8
    clear s8 H7
    have hfit := fits_best hx2 hx3 hy2 hy3
    -- they fit together; what is dear is not taken
    refine seq_of (fun σ' H' => Same H8 H' ∧ σ' = lst sc l a c r t.k t.plus "" x2 z3 (some px) (some py) (some (.ref p4)) none z13 (some (.ref p1)) (some (.ref p2)) (some (.ref p3)) z17) (fun N hN => ?_) ?_
    · refine ⟨_, rfl, _, rfl, _, rfl, .ref a, px, py, t, x, y, rfl, b6.b.task, b6.b.va, b6.b.sz, hx1, hy1, hx4, hy4, fun H9 s9 => ⟨fun _ => ?_, fun hn => absurd hfit hn⟩⟩
      refine ⟨true, true, rfl, rfl, _, rfl, iteF ?_⟩
      have c9 := b6.same s9
      obtain ⟨ax, xs, rfl, hax, hxs⟩ := hx1.tp s9.tp
      refine ⟨_, rfl, p2, rfl, ⟨_, c9.hD⟩, fun D hD => lc_filter (walk_tup (xs := fl t.k (K6.dearP t val))) (fun _ => false) (fun _ => V.non) (by have := fl_len t.k (K6.dearP t val); omega) hD (fun H' s => s.tup c9.hD) ?_ ?_⟩
      · rintro j yv H10 H11 Qy Qn hj s10 ⟨rfl, e⟩ ky kn
        obtain ⟨j', rfl, hj', hd⟩ := fl_get e
        obtain ⟨w1, ew1, q1, rfl, hq1⟩ := hxs.2 j' hj'
        refine ⟨rfl, _, rfl, _, rfl, ax, _, _, _, rfl, rfl, s10.tup hax, atI_nat ew1, q1, _, _, _, rfl, rfl, s10.tup hq1, rfl, rfl, _, rfl, ?_⟩
        rw [num_ne, decide_eq_true (dear_zero hb hx2 hx3 hj' hd)]
        exact iteF (kn rfl _ (Same.refl _))
      intro H10 s10 e10
      refine ⟨Nat.zero_le _, fun D2 hD2 => ?_⟩
      have s11 := Same.new (o := .lst []) hD2
      have e10' : H10 D = some (.lst []) := by
        rw [e10]
        have : (List.range (fl t.k (K6.dearP t val)).length).filter (fun _ => false) = [] := List.filter_eq_nil_iff.mpr (by simp)
        rw [this]; rfl
      refine neL (ns := []) (ms := []) (SqL.of (s11 _ _ e10')) (SqL.of upd_same) ⟨_, rfl, ?_⟩
      exact ifF (by decide) (hN _ _ ⟨s9.trans (s10.trans s11), rfl⟩)
    rintro σ H9 ⟨s9, rfl⟩
    replace b6 := b6.same s9
    replace hx1 := hx1.tp s9.tp
    replace hy1 := hy1.tp s9.tp
    clear s9 H8
    refine seq_of (fun σ' H' => Same H9 H' ∧ σ' = lst sc l a c r t.k t.plus "" x2 z3 (some px) (some py) (some (.ref p4)) none z13 (some (.ref p1)) (some (.ref p2)) (some (.ref p3)) z17) (fun N hN => ?_) ?_
    · obtain ⟨ay, ys, rfl, hay, hys⟩ := hy1
      refine ⟨_, rfl, p3, rfl, ⟨_, b6.hO⟩, fun D hD => lc_filter (walk_tup (xs := fl t.m (K6.looseP t val))) (fun _ => false) (fun _ => V.non) (by have := fl_len t.m (K6.looseP t val); omega) hD (fun H' s => s.tup b6.hO) ?_ ?_⟩
      · rintro j yv H10 H11 Qy Qn hj s10 ⟨rfl, e⟩ ky kn
        obtain ⟨j', rfl, hj', hd⟩ := fl_get e
        obtain ⟨w1, ew1, q1, rfl, hq1⟩ := hys.2 j' hj'
        refine ⟨rfl, _, rfl, _, rfl, ay, _, _, _, rfl, rfl, s10.tup hay, atI_nat ew1, q1, _, _, _, rfl, rfl, s10.tup hq1, rfl, rfl, _, rfl, ?_⟩
        rw [num_ne, decide_eq_true (loose_zero hb hy2 hy3 hj' hd)]
        exact iteF (kn rfl _ (Same.refl _))
      intro H10 s10 e10
      refine ⟨Nat.zero_le _, fun D2 hD2 => ?_⟩
      have s11 := Same.new (o := .lst []) hD2
      have e10' : H10 D = some (.lst []) := by
        rw [e10]
        have : (List.range (fl t.m (K6.looseP t val)).length).filter (fun _ => false) = [] := List.filter_eq_nil_iff.mpr (by simp)
        rw [this]; rfl
      refine neL (ns := []) (ms := []) (SqL.of (s11 _ _ e10')) (SqL.of upd_same) ⟨_, rfl, ?_⟩
      exact ifF (by decide) (hN _ _ ⟨s10.trans s11, rfl⟩)
    rintro σ H10 ⟨s10, rfl⟩
    have b3 := (b6.same s10).b
    clear s10 b6 hx1 hy1 hx2 hx3 hy2 hy3 hx4 hy4 hfit hb H9
    have hsz : (kindsS t.k t.plus).cps.size = t.k := kinds_len t.k t.plus
    -- a small plan
    refine seq_of (fun σ' H' => ∃ (pz : V) (zx : Nat → Int), σ' = lst sc l a c r t.k t.plus "" x2 z3 (some pz) (some py) (some (.ref p4)) none z13 (some (.ref p1)) (some (.ref p2)) (some (.ref p3)) z17 ∧ B3 K H' l sc ns a c r rs t ∧ Rts K H' pz t.k (fun j => ((zx j : Int) : Rat)) ∧ ∀ j, j < t.k → (zx j).natAbs ≤ 8) (fun N hN => ?_) ?_
    · refine ⟨_, rfl, _, rfl, fun D hD => lc_butR (walk_str (z := kindsS t.k t.plus)) (fun _ y H => ∃ z : Int, z.natAbs ≤ 8 ∧ Rt K H y (z : Rat)) (fun _ _ _ _ tp ⟨z, h1, h2⟩ => ⟨z, h1, h2.tp tp⟩) (by omega) hD b3.d (fun _ _ => True.intro) ?_ ?_⟩
      · rintro j y H11 H12 Qy Qn hj b11 d11 ⟨rfl, _⟩ kq
        refine ⟨rfl, yesI ⟨_, rfl, l, sc, ns, 5, rfl, d11, by decide, by decide, fun r1 H13 hr1 b13 d13 => ⟨_, _, rfl, rfl, _, _, rfl, by decide, by decide, fun v H14 s14 hv => ?_⟩⟩⟩
        refine kq v H14 (b13.then s14) (d13.same s14) ⟨(r1 : Int) - 1, by omega, ?_⟩
        exact divInt_1 _ ▸ hv
      intro H11 xs b11 d11 e11 hxl hxr
      obtain ⟨zx, hzx⟩ := rts_of (P := fun _ z => z.natAbs ≤ 8) hxl hxr
      refine ⟨D, _, rfl, .inl ⟨SqL.of e11, fun p hp => ?_⟩⟩
      have s12 := Same.new (o := .tup xs) hp
      refine hN _ _ ⟨.ref p, zx, rfl, (b3.but b11 d11).same s12, ⟨p, xs, rfl, SqT.of upd_same, by rw [hxl, hsz], fun i hi => ?_⟩, fun j hj => (hzx j (by omega)).1⟩
      obtain ⟨_, u, eu, hu⟩ := hzx i (by omega)
      exact ⟨u, eu, hu.tp s12.tp⟩
    clear b3 H10
    rintro σ H11 ⟨pz, zx, rfl, b3, hzx, bzx⟩
    -- a small paper
    refine seq_of (fun σ' H' => ∃ (pw : V) (zy : Nat → Int), σ' = lst sc l a c r t.k t.plus "" x2 z3 (some pz) (some pw) (some (.ref p4)) none z13 (some (.ref p1)) (some (.ref p2)) (some (.ref p3)) z17 ∧ B3 K H' l sc ns a c r rs t ∧ Rts K H' pz t.k (fun j => ((zx j : Int) : Rat)) ∧ Rts K H' pw t.m (fun j => ((zy j : Int) : Rat)) ∧ ∀ j, j < t.m → (zy j).natAbs ≤ 8) (fun N hN => ?_) ?_
    · refine ⟨_, rfl, r, rfl, ⟨_, b3.tk.rw⟩, fun D hD => lc_butR (walk_tup (xs := rs)) (fun _ y H => ∃ z : Int, z.natAbs ≤ 8 ∧ Rt K H y (z : Rat)) (fun _ _ _ _ tp ⟨z, h1, h2⟩ => ⟨z, h1, h2.tp tp⟩) (by omega) hD b3.d (fun _ b => (b.tpD b3.d).seq b3.tk.rw) ?_ ?_⟩
      · rintro j y H12 H13 Qy Qn hj b12 d12 ⟨rfl, _⟩ kq
        refine ⟨rfl, yesI ⟨_, rfl, l, sc, ns, 5, rfl, d12, by decide, by decide, fun r1 H13 hr1 b13 d13 => ⟨_, _, rfl, rfl, _, _, rfl, by decide, by decide, fun v H14 s14 hv => ?_⟩⟩⟩
        refine kq v H14 (b13.then s14) (d13.same s14) ⟨(r1 : Int) - 2, by omega, ?_⟩
        exact divInt_1 _ ▸ hv
      intro H12 xs b12 d12 e12 hxl hxr
      obtain ⟨zy, hzy⟩ := rts_of (P := fun _ z => z.natAbs ≤ 8) hxl hxr
      refine ⟨D, _, rfl, .inl ⟨SqL.of e12, fun p hp => ?_⟩⟩
      have s13 := Same.new (o := .tup xs) hp
      refine hN _ _ ⟨.ref p, zy, rfl, (b3.but b12 d12).same s13, (hzx.tp (b12.tpD b3.d)).tp s13.tp, ⟨p, xs, rfl, SqT.of upd_same, by rw [hxl, hrl], fun i hi => ?_⟩, fun j hj => (hzy j (by omega)).1⟩
      obtain ⟨_, u, eu, hu⟩ := hzy i (by omega)
      exact ⟨u, eu, hu.tp s13.tp⟩
    clear b3 hzx H11
    rintro σ H12 ⟨pw, zy, rfl, b3, hzx, hzy, bzy⟩
    obtain ⟨ax, xs, rfl, hax, hxs⟩ := hzx
    obtain ⟨ay, ys, rfl, hay, hys⟩ := hzy
    -- where the paper is not 0
    refine seq_of (fun σ' H' => Same H12 H' ∧ ∃ D, σ' = lst sc l a c r t.k t.plus "" x2 z3 (some (.ref ax)) (some (.ref ay)) (some (.ref D)) none z13 (some (.ref p1)) (some (.ref p2)) (some (.ref p3)) z17 ∧ H' D = some (.lst (fl t.m fun i => !decide (((zy i : Int) : Rat) = 0)))) (fun N hN => ?_) ?_
    · refine ⟨_, rfl, r, _, rfl, .inr b3.tk.rw, _, rfl, by omega, by omega, fun D hD => lc_filter (walk_rgI (n := t.m) (by rw [hrl])) (fun i => !decide (((zy i : Int) : Rat) = 0)) (fun (i : Nat) => V.int (i : Int)) (by omega) hD (fun _ _ => trivial) ?_ ?_⟩
      · rintro j y H13 H14 Qy Qn hj s13 ⟨rfl, rfl⟩ ky kn
        obtain ⟨w1, ew1, q1, rfl, hq1⟩ := hys.2 j hj
        refine ⟨rfl, _, rfl, _, rfl, ay, _, _, _, rfl, rfl, s13.tup hay, atI_nat ew1, q1, _, _, _, rfl, rfl, s13.tup hq1, rfl, rfl, _, rfl, ?_⟩
        rw [num_ne]
        cases hp : !decide (((zy j : Int) : Rat) = 0)
        · exact iteF (kn hp _ (Same.refl _))
        · exact iteT ⟨_, rfl, ky hp _ (Same.refl _)⟩
      intro H13 s13 e13
      exact hN _ _ ⟨s13, D, rfl, e13⟩
    rintro σ H13 ⟨s13, Dp, rfl, hDp⟩
    replace b3 := b3.same s13
    replace hax := s13.tup hax
    replace hay := s13.tup hay
    replace hxs := hxs.tp s13.tp
    replace hys := hys.tp s13.tp
    clear s13 H12
    have nx : ∀ _ : Nat, Rts K H13 (.ref ax) t.k (fun j => ((zx j : Int) : Rat)) := fun _ => ⟨ax, xs, rfl, hax, hxs⟩
    have ny : ∀ _ : Nat, Rts K H13 (.ref ay) t.m (fun j => ((zy j : Int) : Rat)) := fun _ => ⟨ay, ys, rfl, hay, hys⟩
    have szA : ∀ i j, i < t.m → j < t.k → (t.A i j).natAbs ≤ 128 := fun i j hi hj => b3.sz.sz.A i j hi hj
    -- the rows by the law's own sums
    refine seq_of (fun σ' H' => Same H13 H' ∧ ∃ g : Bool, σ' = lst sc l a c r t.k t.plus "" x2 z3 (some (.ref ax)) (some (.ref ay)) (some (.ref Dp)) (some (.bl g)) z13 (some (.ref p1)) (some (.ref p2)) (some (.ref p3)) z17 ∧ (g = true ↔ ∀ i, i < t.m → zy i ≠ 0 → (K6.sI t.k fun j => t.A i j * zx j) = t.b i)) (fun N hN => ?_) ?_
    · refine ⟨_, rfl, Dp, rfl, ⟨_, SqL.of hDp⟩, fun D hD => lc_filter (walk_list (xs := fl t.m fun i => !decide (((zy i : Int) : Rat) = 0))) (fun q => !decide ((K6.sI t.k fun j => t.A (itm (fl t.m fun i => !decide (((zy i : Int) : Rat) = 0)) q).toNat j * zx j) = t.b (itm (fl t.m fun i => !decide (((zy i : Int) : Rat) = 0)) q).toNat)) (fun q => V.int (itm (fl t.m fun i => !decide (((zy i : Int) : Rat) = 0)) q)) (by have := fl_len t.m fun i => !decide (((zy i : Int) : Rat) = 0); omega) hD (fun H' s => s.seq (SqL.of hDp)) ?_ ?_⟩
      · rintro q yv H14 H15 Qy Qn hq s14 ⟨rfl, e⟩ ky kn
        obtain ⟨i, rfl, hi, hf⟩ := fl_get e
        have ei : itm (fl t.m fun i => !decide (((zy i : Int) : Rat) = 0)) q = (i : Int) := by unfold itm; rw [e]
        rw [ei, Int.toNat_natCast] at ky kn
        obtain ⟨yy, ey, b, d, rfl, hbb, hdd⟩ := (b3.tk.rows.tp s14.tp).2 i hi
        have hrw := s14.tup b3.tk.rw
        refine ⟨rfl, _, rfl, _, rfl, r, _, _, _, rfl, rfl, hrw, atI_nat ey, b, _, _, _, rfl, rfl, hbb, rfl, _, rfl, ?_⟩
        refine ⟨.ref d, .ref ax, t.k, t.A i, zx, rfl, ⟨d, rfl, .inr hdd⟩, (nx 0).tp s14.tp, by omega, fun j hj => ⟨szA i j hi hj, bzx j hj⟩, fun p H16 s16 hp => ?_⟩
        refine ⟨_, rfl, _, rfl, r, _, _, _, rfl, rfl, s16.tup hrw, atI_nat ey, b, _, _, _, rfl, rfl, s16.tup hbb, rfl, small (by show 2 ≤ 1000; decide), fun q2 hq2 => ?_⟩
        have s17 := Same.new (o := .tup [V.int (t.b i), V.int 1]) hq2
        refine neT (ns := [K6.sI t.k fun j => t.A i j * zx j, 1]) (ms := [t.b i, 1]) (s17.tup hp) (SqT.of upd_same) ⟨_, rfl, ?_⟩
        rw [pair_dec]
        cases hc : !decide ((K6.sI t.k fun j => t.A i j * zx j) = t.b i)
        · exact iteF (kn hc _ (s16.trans s17))
        · exact iteT ⟨_, rfl, ky hc _ (s16.trans s17)⟩
      intro H14 s14 e14
      refine ⟨Nat.zero_le _, fun D2 hD2 => ?_⟩
      have s15 := Same.new (o := .lst []) hD2
      refine eqL (ns := ((List.range (fl t.m fun i => !decide (((zy i : Int) : Rat) = 0)).length).filter (fun q => !decide ((K6.sI t.k fun j => t.A (itm (fl t.m fun i => !decide (((zy i : Int) : Rat) = 0)) q).toNat j * zx j) = t.b (itm (fl t.m fun i => !decide (((zy i : Int) : Rat) = 0)) q).toNat))).map (itm (fl t.m fun i => !decide (((zy i : Int) : Rat) = 0)))) (ms := []) (SqL.of (by rw [s15 _ _ e14, List.map_map]; rfl)) (SqL.of upd_same) ?_
      refine hN _ _ ⟨s14.trans s15, _, rfl, ?_⟩
      rw [decide_eq_true_iff, List.map_eq_nil_iff, List.filter_eq_nil_iff]
      constructor
      · intro h i hi hz
        have hm : V.int (i : Int) ∈ fl t.m fun i => !decide (((zy i : Int) : Rat) = 0) := by
          unfold fl
          refine List.mem_map.mpr ⟨i, List.mem_filter.mpr ⟨List.mem_range.mpr hi, ?_⟩, rfl⟩
          have : ((zy i : Int) : Rat) ≠ 0 := fun e => hz (Rat.intCast_eq_zero_iff.mp e)
          rw [decide_eq_false this]; rfl
        obtain ⟨q, hq⟩ := List.getElem?_of_mem hm
        have ei : itm (fl t.m fun i => !decide (((zy i : Int) : Rat) = 0)) q = (i : Int) := by unfold itm; rw [hq]
        have h2 := h q (List.mem_range.mpr (List.getElem?_eq_some_iff.mp hq).1)
        rw [ei, Int.toNat_natCast] at h2
        simpa using h2
      · intro h q hq
        have hlt := List.mem_range.mp hq
        obtain ⟨yv, ey⟩ : ∃ yv, (fl t.m fun i => !decide (((zy i : Int) : Rat) = 0))[q]? = some yv := ⟨_, List.getElem?_eq_getElem hlt⟩
        obtain ⟨i, rfl, hi, hf⟩ := fl_get ey
        have ei : itm (fl t.m fun i => !decide (((zy i : Int) : Rat) = 0)) q = (i : Int) := by unfold itm; rw [ey]
        rw [ei, Int.toNat_natCast]
        have hz : zy i ≠ 0 := fun e => by
          rw [e] at hf
          revert hf; decide
        have := h i hi hz
        simpa using this
    rintro σ H14 ⟨s14, g0, rfl, hg0⟩
    -- the columns
    refine seq_of (fun σ' H' => Same H13 H' ∧ ∃ (x3 : Option V) (g : Bool), σ' = lst sc l a c r t.k t.plus "" x2 x3 (some (.ref ax)) (some (.ref ay)) (some (.ref Dp)) (some (.bl g)) z13 (some (.ref p1)) (some (.ref p2)) (some (.ref p3)) z17 ∧ (g = true ↔ g0 = true ∧ ∀ j, j < t.k → zx j ≠ 0 → (K6.sI t.m fun i => t.A i j * zy i) = t.c j)) (fun N hN => ?_) ?_
    · refine ⟨_, rfl, _, rfl, by rw [kinds_len]; exact small (by omega), _, rfl, by rw [kinds_len]; omega, by rw [kinds_len]; omega, for_it (walk_rgI (n := t.k) (by rw [kinds_len]))
        (fun i σ' H' => Same H13 H' ∧ ∃ (x3 : Option V) (g : Bool), σ' = lst sc l a c r t.k t.plus "" x2 x3 (some (.ref ax)) (some (.ref ay)) (some (.ref Dp)) (some (.bl g)) z13 (some (.ref p1)) (some (.ref p2)) (some (.ref p3)) z17 ∧ (g = true ↔ g0 = true ∧ ∀ j, j < i → zx j ≠ 0 → (K6.sI t.m fun i => t.A i j * zy i) = t.c j))
        ⟨s14, _, g0, rfl, ⟨fun h => ⟨h, fun j hj => absurd hj (Nat.not_lt_zero j)⟩, fun h => h.1⟩⟩ (fun _ _ _ _ _ => trivial) ?_ (fun σ' H' h => hN _ _ h)⟩
      rintro j y σ' H15 H15' hj ⟨s15, x3, g, rfl, hg⟩ ⟨rfl, rfl⟩
      have step : ∀ (ok : Bool), (ok = true ↔ (zx j ≠ 0 → (K6.sI t.m fun i => t.A i j * zy i) = t.c j)) → ((g && ok) = true ↔ g0 = true ∧ ∀ j', j' < j + 1 → zx j' ≠ 0 → (K6.sI t.m fun i => t.A i j' * zy i) = t.c j') := fun ok hok => by
        rw [Bool.and_eq_true_iff, hg, hok]
        constructor
        · rintro ⟨⟨h1, h2⟩, h3⟩
          refine ⟨h1, fun j' hj' hz => ?_⟩
          by_cases e : j' = j
          · subst e; exact h3 hz
          · exact h2 j' (by omega) hz
        · rintro ⟨h1, h2⟩
          exact ⟨⟨h1, fun j' hj' => h2 j' (by omega)⟩, h2 j (by omega)⟩
      refine ⟨_, rfl, _, rfl, ?_⟩
      cases g with
      | false =>
        refine iteF ⟨s15, _, false, rfl, ?_⟩
        constructor
        · intro h; cases h
        · rintro ⟨h1, h2⟩
          exact hg.mpr ⟨h1, fun j' hj' => h2 j' (by omega)⟩
      | true =>
        refine iteT ?_
        obtain ⟨w1, ew1, q1, rfl, hq1⟩ := hxs.2 j hj
        refine ⟨_, rfl, _, rfl, ax, _, _, _, rfl, rfl, s15.tup hax, atI_nat ew1, q1, _, _, _, rfl, rfl, s15.tup hq1, rfl, rfl, _, rfl, ?_⟩
        by_cases cz : zx j = 0
        · have e1 : decide (V.int (((zx j : Int) : Rat)).num = V.int 0) = true := by rw [cz]; rfl
          rw [e1]
          refine iteT ⟨s15, _, true, rfl, ?_⟩
          have := step true ⟨fun _ h => absurd cz h, fun _ => rfl⟩
          exact this
        · have e1 : decide (V.int (((zx j : Int) : Rat)).num = V.int 0) = false := by
            refine decide_eq_false fun h => cz ?_
            have := V.int.inj h
            exact this
          rw [e1]
          refine iteF ?_
          have hrw := s15.tup b3.tk.rw
          refine ⟨_, rfl, r, rfl, ⟨_, hrw⟩, fun D hD => lc_iv (walk_tup (xs := rs)) (fun i => t.A i j) (by omega) hD (fun H' s => s.tup hrw) ?_ ?_⟩
          · rintro i yv H16 H17 Qy Qn hi s16 ⟨rfl, e⟩ kq
            obtain ⟨yy, ey, b, d, rfl, hbb, hdd⟩ := (b3.tk.rows.tp (s15.trans s16).tp).2 i (by omega)
            cases e.symm.trans ey
            exact ⟨rfl, yesI ⟨_, rfl, b, _, _, _, rfl, rfl, hbb, rfl, _, rfl, d, _, _, _, rfl, rfl, hdd, atI_nat (iv_get hj), kq _ (Same.refl _)⟩⟩
          intro H16 s16 e16
          rw [hrl] at e16
          refine ⟨_, rfl, .ref D, .ref ay, t.m, (fun i => t.A i j), zy, rfl, ⟨D, rfl, .inl (SqL.of e16)⟩, (ny 0).tp (s15.trans s16).tp, by omega, fun i hi => ⟨szA i j hi hj, bzy i hi⟩, fun p H17 s17 hp => ?_⟩
          have s1517 := s15.trans (s16.trans s17)
          refine ⟨_, rfl, _, rfl, c, _, _, _, rfl, rfl, s1517.tup b3.tk.cs, atI_nat (iv_get hj), small (by show 2 ≤ 1000; decide), fun q2 hq2 => ?_⟩
          have s18 := Same.new (o := .tup [V.int (t.c j), V.int 1]) hq2
          refine eqT (ns := [K6.sI t.m fun i => t.A i j * zy i, 1]) (ms := [t.c j, 1]) (s18.tup hp) (SqT.of upd_same) ?_
          refine ⟨s1517.trans s18, _, _, rfl, ?_⟩
          have := step (decide ((K6.sI t.m fun i => t.A i j * zy i) = t.c j)) ⟨fun h _ => of_decide_eq_true h, fun h => decide_eq_true (h cz)⟩
          rw [Bool.true_and] at this
          rw [pair_dec']
          exact this
    rintro σ H15 ⟨s15, x3, g, rfl, hg⟩
    -- the answer
    have hfits : FitsP t (fun j => ((zx j : Int) : Rat)) (fun i => ((zy i : Int) : Rat)) ↔ g = true := by
      rw [fits_plain, hg, hg0]
      constructor
      · rintro ⟨h1, h2⟩
        exact ⟨fun i hi hz => row_int.mp (h1 i hi fun e => hz (Rat.intCast_eq_zero_iff.mp e)), fun j hj hz => col_int.mp (h2 j hj fun e => hz (Rat.intCast_eq_zero_iff.mp e))⟩
      · rintro ⟨h1, h2⟩
        exact ⟨fun i hi hz => row_int.mpr (h1 i hi fun e => hz (by rw [e]; rfl)), fun j hj hz => col_int.mpr (h2 j hj fun e => hz (by rw [e]; rfl))⟩
    refine ⟨_, rfl, _, rfl, _, rfl, .ref a, .ref ax, .ref ay, t, _, _, rfl, b3.task.tp s15.tp, b3.va, b3.sz, (nx 0).tp s15.tp, (ny 0).tp s15.tp, frs_int bzx, frs_int bzy, fun H16 s16 => ⟨fun hf => ?_, fun hn => ?_⟩⟩
    · have := hfits.mp hf
      subst this
      exact ⟨_, rfl, true, true, rfl, kk _⟩
    · have e : g = false := by
        cases g with
        | false => rfl
        | true => exact absurd (hfits.mpr rfl) hn
      subst e
      exact ⟨_, rfl, false, false, rfl, kk _⟩
end
end G3
-- WHead
set_option Elab.async false
set_option linter.all false
set_option maxRecDepth 100000
set_option maxHeartbeats 0
namespace G3
open PySem PySem.Spec PyProof.Rows L2
/-! ### the head: facts by names, the run -/
def fa0 : List He.Fa := [.free "len", .free "abs", .free "max", .free "sum", .free "all", .free "any", .free "sorted", .free "int", .free "tuple", .free "list", .free "isinstance", .free "bool", .free "str", .free "range", .free "zip", .free "enumerate", .int "MOST_COLUMNS" 6, .int "MOST_ROWS" 8, .int "MOST_VALUE" 1000, .glo "Grid", .glo "NotBest", .glo "SIGNS", .glo "law", .glo "is_int", .glo "divisor", .glo "ratio", .glo "is_ratio", .glo "dot", .glo "is_small", .glo "is_row"]
def fa1 : List He.Fa := [.glo "need_task", .glo "need_plan", .glo "need_paper", .glo "turned_row", .glo "plain_of", .glo "need_index", .glo "need_column", .glo "spread", .glo "gathered", .glo "solved", .glo "signed", .glo "best_cost_of", .glo "best_cost", .glo "some_plan", .glo "some_paper", .glo "other_of", .glo "kept", .glo "priced", .glo "unit", .glo "best_face", .glo "paper_face", .glo "span_of", .glo "best_range", .glo "paper_range", .glo "negative", .glo "live_columns", .glo "dear_columns", .glo "loose_rows", .glo "paid_rows", .glo "spare"]
def fa2 : List He.Fa := [.glo "fits_together", .glo "_law_taken", .glo "_law_is", .glo "_law_ratio", .glo "_law_plus", .glo "_law_sum", .glo "_law_task", .cls "Grid", .mkr "Grid", .noat "Grid" "signs", .noat "Grid" "many", .noat "Grid" "rows", .noat "Grid" "inside", .noat "Grid" "low", .noat "Grid" "top", .meth "Grid" "price", .meth "Grid" "turn", .meth "Grid" "swept", .meth "Grid" "goes_out", .meth "Grid" "is_less", .meth "Grid" "settle", .meth "Grid" "amounts", .meth "Grid" "weights", .meth "Grid" "drive_out", .meth "Grid" "way", .exc "NotBest", .exm "NotBest" "NotBest" true]
def faS : List He.Fa := fa0 ++ fa1 ++ fa2
def fn0 : List He.DefD := [⟨("is_int", none), "is_int", "is_int", defArgs s_is_int, defBody s_is_int, defScope s_is_int, [], []⟩, ⟨("divisor", none), "divisor", "divisor", defArgs s_divisor, defBody s_divisor, defScope s_divisor, [], []⟩, ⟨("ratio", none), "ratio", "ratio", defArgs s_ratio, defBody s_ratio, defScope s_ratio, [], []⟩, ⟨("is_ratio", none), "is_ratio", "is_ratio", defArgs s_is_ratio, defBody s_is_ratio, defScope s_is_ratio, [], []⟩, ⟨("dot", none), "dot", "dot", defArgs s_dot, defBody s_dot, defScope s_dot, [], []⟩, ⟨("is_small", none), "is_small", "is_small", defArgs s_is_small, defBody s_is_small, defScope s_is_small, [], []⟩, ⟨("is_row", none), "is_row", "is_row", defArgs s_is_row, defBody s_is_row, defScope s_is_row, [], []⟩, ⟨("need_task", none), "need_task", "need_task", defArgs s_need_task, defBody s_need_task, defScope s_need_task, [], []⟩, ⟨("need_plan", none), "need_plan", "need_plan", defArgs s_need_plan, defBody s_need_plan, defScope s_need_plan, [], []⟩, ⟨("need_paper", none), "need_paper", "need_paper", defArgs s_need_paper, defBody s_need_paper, defScope s_need_paper, [], []⟩]
def fn1 : List He.DefD := [⟨("turned_row", none), "turned_row", "turned_row", defArgs s_turned_row, defBody s_turned_row, defScope s_turned_row, [], []⟩, ⟨("plain_of", none), "plain_of", "plain_of", defArgs s_plain_of, defBody s_plain_of, defScope s_plain_of, [], []⟩, ⟨("need_index", none), "need_index", "need_index", defArgs s_need_index, defBody s_need_index, defScope s_need_index, [], []⟩, ⟨("need_column", none), "need_column", "need_column", defArgs s_need_column, defBody s_need_column, defScope s_need_column, [], []⟩, ⟨("spread", none), "spread", "spread", defArgs s_spread, defBody s_spread, defScope s_spread, [], []⟩, ⟨("gathered", none), "gathered", "gathered", defArgs s_gathered, defBody s_gathered, defScope s_gathered, [], []⟩, ⟨("solved", none), "solved", "solved", defArgs s_solved, defBody s_solved, defScope s_solved, [], []⟩, ⟨("signed", none), "signed", "signed", defArgs s_signed, defBody s_signed, defScope s_signed, [], []⟩, ⟨("best_cost_of", none), "best_cost_of", "best_cost_of", defArgs s_best_cost_of, defBody s_best_cost_of, defScope s_best_cost_of, [], []⟩, ⟨("best_cost", none), "best_cost", "best_cost", defArgs s_best_cost, defBody s_best_cost, defScope s_best_cost, [], []⟩]
def fn2 : List He.DefD := [⟨("some_plan", none), "some_plan", "some_plan", defArgs s_some_plan, defBody s_some_plan, defScope s_some_plan, [], []⟩, ⟨("some_paper", none), "some_paper", "some_paper", defArgs s_some_paper, defBody s_some_paper, defScope s_some_paper, [], []⟩, ⟨("other_of", none), "other_of", "other_of", defArgs s_other_of, defBody s_other_of, defScope s_other_of, [], []⟩, ⟨("kept", none), "kept", "kept", defArgs s_kept, defBody s_kept, defScope s_kept, [], []⟩, ⟨("priced", none), "priced", "priced", defArgs s_priced, defBody s_priced, defScope s_priced, [], []⟩, ⟨("unit", none), "unit", "unit", defArgs s_unit, defBody s_unit, defScope s_unit, [], []⟩, ⟨("best_face", none), "best_face", "best_face", defArgs s_best_face, defBody s_best_face, defScope s_best_face, [], []⟩, ⟨("paper_face", none), "paper_face", "paper_face", defArgs s_paper_face, defBody s_paper_face, defScope s_paper_face, [], []⟩, ⟨("span_of", none), "span_of", "span_of", defArgs s_span_of, defBody s_span_of, defScope s_span_of, [], []⟩, ⟨("best_range", none), "best_range", "best_range", defArgs s_best_range, defBody s_best_range, defScope s_best_range, [], []⟩]
def fn3 : List He.DefD := [⟨("paper_range", none), "paper_range", "paper_range", defArgs s_paper_range, defBody s_paper_range, defScope s_paper_range, [], []⟩, ⟨("negative", none), "negative", "negative", defArgs s_negative, defBody s_negative, defScope s_negative, [], []⟩, ⟨("live_columns", none), "live_columns", "live_columns", defArgs s_live_columns, defBody s_live_columns, defScope s_live_columns, [], []⟩, ⟨("dear_columns", none), "dear_columns", "dear_columns", defArgs s_dear_columns, defBody s_dear_columns, defScope s_dear_columns, [], []⟩, ⟨("loose_rows", none), "loose_rows", "loose_rows", defArgs s_loose_rows, defBody s_loose_rows, defScope s_loose_rows, [], []⟩, ⟨("paid_rows", none), "paid_rows", "paid_rows", defArgs s_paid_rows, defBody s_paid_rows, defScope s_paid_rows, [], []⟩, ⟨("spare", none), "spare", "spare", defArgs s_spare, defBody s_spare, defScope s_spare, [], []⟩, ⟨("fits_together", none), "fits_together", "fits_together", defArgs s_fits_together, defBody s_fits_together, defScope s_fits_together, [], []⟩, ⟨("_law_taken", none), "_law_taken", "_law_taken", defArgs s_law_taken, defBody s_law_taken, defScope s_law_taken, [], []⟩, ⟨("_law_is", none), "_law_is", "_law_is", defArgs s_law_is, defBody s_law_is, defScope s_law_is, [], []⟩]
def fn4 : List He.DefD := [⟨("_law_ratio", none), "_law_ratio", "_law_ratio", defArgs s_law_ratio, defBody s_law_ratio, defScope s_law_ratio, [], []⟩, ⟨("_law_plus", none), "_law_plus", "_law_plus", defArgs s_law_plus, defBody s_law_plus, defScope s_law_plus, [], []⟩, ⟨("_law_sum", none), "_law_sum", "_law_sum", defArgs s_law_sum, defBody s_law_sum, defScope s_law_sum, [], []⟩, ⟨("_law_task", none), "_law_task", "_law_task", defArgs s_law_task, defBody s_law_task, defScope s_law_task, [], []⟩, ⟨("law", none), "law", "law", defArgs s_law, defBody s_law, defScope s_law, [], []⟩, ⟨("Grid", some "__init__"), "__init__", "Grid.__init__", defArgs sG_init, defBody sG_init, defScope sG_init, [], []⟩, ⟨("Grid", some "price"), "price", "Grid.price", defArgs sG_price, defBody sG_price, defScope sG_price, [], []⟩, ⟨("Grid", some "turn"), "turn", "Grid.turn", defArgs sG_turn, defBody sG_turn, defScope sG_turn, [], []⟩, ⟨("Grid", some "swept"), "swept", "Grid.swept", defArgs sG_swept, defBody sG_swept, defScope sG_swept, [], []⟩, ⟨("Grid", some "goes_out"), "goes_out", "Grid.goes_out", defArgs sG_goes_out, defBody sG_goes_out, defScope sG_goes_out, [], []⟩]
def fn5 : List He.DefD := [⟨("Grid", some "is_less"), "is_less", "Grid.is_less", defArgs sG_is_less, defBody sG_is_less, defScope sG_is_less, [], []⟩, ⟨("Grid", some "settle"), "settle", "Grid.settle", defArgs sG_settle, defBody sG_settle, defScope sG_settle, [], []⟩, ⟨("Grid", some "amounts"), "amounts", "Grid.amounts", defArgs sG_amounts, defBody sG_amounts, defScope sG_amounts, [], []⟩, ⟨("Grid", some "weights"), "weights", "Grid.weights", defArgs sG_weights, defBody sG_weights, defScope sG_weights, [], []⟩, ⟨("Grid", some "drive_out"), "drive_out", "Grid.drive_out", defArgs sG_drive_out, defBody sG_drive_out, defScope sG_drive_out, [], []⟩, ⟨("Grid", some "way"), "way", "Grid.way", defArgs sG_way, defBody sG_way, defScope sG_way, [], []⟩]
def fnS : List He.DefD := fn0 ++ fn1 ++ fn2 ++ fn3 ++ fn4 ++ fn5
def sgD : List He.Dv := [.str ">=", .str "<=", .str "="]
def obsS (K : PySem.W.Frag) : He.AlD := (((faS.all fun f => f.ok K) && He.tupB K "SIGNS" sgD) && fnS.all fun d => d.ok K, fnS.map fun d => He.fnW K d.at_)
def SaysS (K : PySem.W.Frag) : Prop := obsS K = He.valD fnS
def obsSG (n : Nat) (g : Addr → Option Obj) : He.AlD := obsS (He.frG g (He.asD g n))
def hookS (n : Nat) : PySem.W.Hook where
  α := He.AlD
  obs := fun s => obsSG n s.heap.get?
  val := fun _ => He.valD fnS
  says := fun _ h => ∃ K : PySem.W.Frag, K.In h ∧ SaysS K
  of := fun _ _ e => ⟨_, He.frG_in, e⟩
  keeps := fun _ _ _ ⟨K, hK, c⟩ k => ⟨K, PySem.W.Frag.In.keeps hK k, c⟩
theorem obsSG_eq {n : Nat} {g : Addr → Option Obj} {s : Shared} (h : ∀ a, g a = s.heap.get? a) : obsSG n g = (hookS n).obs s := by
  have e : g = s.heap.get? := funext h
  rw [e] <;> rfl
theorem SaysS.says {K : PySem.W.Frag} (c : SaysS K) : He.SaysD faS fnS K := by
  have e1 : (((faS.all fun f => f.ok K) && He.tupB K "SIGNS" sgD) && fnS.all fun d => d.ok K) = true := congrArg (fun z : He.AlD => z.1) c
  have e2 : (fnS.map fun d => He.fnW K d.at_) = fnS.map He.DefD.val := congrArg (fun z : He.AlD => z.2) c
  obtain ⟨a, b⟩ := He.ba e1
  obtain ⟨a1, a2⟩ := He.ba a
  show ((faS.all fun f => f.ok K) && fnS.all fun d => d.ok K, fnS.map fun d => He.fnW K d.at_) = (true, fnS.map He.DefD.val)
  rw [a1, b, e2]; rfl
theorem SaysS.tup {K : PySem.W.Frag} (c : SaysS K) : He.tupB K "SIGNS" sgD = true := by
  have e1 : (((faS.all fun f => f.ok K) && He.tupB K "SIGNS" sgD) && fnS.all fun d => d.ok K) = true := congrArg (fun z : He.AlD => z.1) c
  exact (He.ba (He.ba e1).1).2
def nmS : List Str := (["PlanError", "BadTask", "BadPlan", "BadNumber", "NotBest", "is_int", "divisor", "ratio", "is_ratio", "dot", "Grid", "MOST_COLUMNS", "MOST_ROWS", "MOST_VALUE", "SIGNS", "is_small", "is_row", "need_task", "need_plan", "need_paper", "turned_row", "plain_of", "need_index", "need_column", "spread", "gathered", "solved", "signed", "best_cost_of", "best_cost"] : List Str) ++ (["some_plan", "some_paper", "other_of", "kept", "priced", "unit", "best_face", "paper_face", "span_of", "best_range", "paper_range", "negative", "live_columns", "dear_columns", "loose_rows", "paid_rows", "spare", "fits_together", "_law_taken", "_law_is", "_law_ratio", "_law_plus", "_law_sum", "_law_task"] : List Str)
theorem txt {K : PySem.W.Frag} {h : Heap} {mg : Str → Option Value} (X : K.In h) (G : h.Ns mainGlobals mg) (c0 : SaysS K) : Txt K mg (He.ga K "Grid") (He.ga K "NotBest") := by
  have c := c0.says
  have q0 : (He.Fa.free "len").ok K = true := c.fact 0 (f := .free "len") rfl
  have q1 : (He.Fa.free "abs").ok K = true := c.fact 1 (f := .free "abs") rfl
  have q2 : (He.Fa.free "max").ok K = true := c.fact 2 (f := .free "max") rfl
  have q3 : (He.Fa.free "sum").ok K = true := c.fact 3 (f := .free "sum") rfl
  have q4 : (He.Fa.free "all").ok K = true := c.fact 4 (f := .free "all") rfl
  have q5 : (He.Fa.free "any").ok K = true := c.fact 5 (f := .free "any") rfl
  have q6 : (He.Fa.free "sorted").ok K = true := c.fact 6 (f := .free "sorted") rfl
  have q7 : (He.Fa.free "int").ok K = true := c.fact 7 (f := .free "int") rfl
  have q8 : (He.Fa.free "tuple").ok K = true := c.fact 8 (f := .free "tuple") rfl
  have q9 : (He.Fa.free "list").ok K = true := c.fact 9 (f := .free "list") rfl
  have q10 : (He.Fa.free "isinstance").ok K = true := c.fact 10 (f := .free "isinstance") rfl
  have q11 : (He.Fa.free "bool").ok K = true := c.fact 11 (f := .free "bool") rfl
  have q12 : (He.Fa.free "str").ok K = true := c.fact 12 (f := .free "str") rfl
  have q13 : (He.Fa.free "range").ok K = true := c.fact 13 (f := .free "range") rfl
  have q14 : (He.Fa.free "zip").ok K = true := c.fact 14 (f := .free "zip") rfl
  have q15 : (He.Fa.free "enumerate").ok K = true := c.fact 15 (f := .free "enumerate") rfl
  have q16 : (He.Fa.int "MOST_COLUMNS" 6).ok K = true := c.fact 16 (f := .int "MOST_COLUMNS" 6) rfl
  have q17 : (He.Fa.int "MOST_ROWS" 8).ok K = true := c.fact 17 (f := .int "MOST_ROWS" 8) rfl
  have q18 : (He.Fa.int "MOST_VALUE" 1000).ok K = true := c.fact 18 (f := .int "MOST_VALUE" 1000) rfl
  have q19 : (He.Fa.glo "Grid").ok K = true := c.fact 19 (f := .glo "Grid") rfl
  have q20 : (He.Fa.glo "NotBest").ok K = true := c.fact 20 (f := .glo "NotBest") rfl
  have q21 : (He.Fa.glo "SIGNS").ok K = true := c.fact 21 (f := .glo "SIGNS") rfl
  have q22 : (He.Fa.glo "law").ok K = true := c.fact 22 (f := .glo "law") rfl
  have q23 : (He.Fa.glo "is_int").ok K = true := c.fact 23 (f := .glo "is_int") rfl
  have q24 : (He.Fa.glo "divisor").ok K = true := c.fact 24 (f := .glo "divisor") rfl
  have q25 : (He.Fa.glo "ratio").ok K = true := c.fact 25 (f := .glo "ratio") rfl
  have q26 : (He.Fa.glo "is_ratio").ok K = true := c.fact 26 (f := .glo "is_ratio") rfl
  have q27 : (He.Fa.glo "dot").ok K = true := c.fact 27 (f := .glo "dot") rfl
  have q28 : (He.Fa.glo "is_small").ok K = true := c.fact 28 (f := .glo "is_small") rfl
  have q29 : (He.Fa.glo "is_row").ok K = true := c.fact 29 (f := .glo "is_row") rfl
  have q30 : (He.Fa.glo "need_task").ok K = true := c.fact 30 (f := .glo "need_task") rfl
  have q31 : (He.Fa.glo "need_plan").ok K = true := c.fact 31 (f := .glo "need_plan") rfl
  have q32 : (He.Fa.glo "need_paper").ok K = true := c.fact 32 (f := .glo "need_paper") rfl
  have q33 : (He.Fa.glo "turned_row").ok K = true := c.fact 33 (f := .glo "turned_row") rfl
  have q34 : (He.Fa.glo "plain_of").ok K = true := c.fact 34 (f := .glo "plain_of") rfl
  have q35 : (He.Fa.glo "need_index").ok K = true := c.fact 35 (f := .glo "need_index") rfl
  have q36 : (He.Fa.glo "need_column").ok K = true := c.fact 36 (f := .glo "need_column") rfl
  have q37 : (He.Fa.glo "spread").ok K = true := c.fact 37 (f := .glo "spread") rfl
  have q38 : (He.Fa.glo "gathered").ok K = true := c.fact 38 (f := .glo "gathered") rfl
  have q39 : (He.Fa.glo "solved").ok K = true := c.fact 39 (f := .glo "solved") rfl
  have q40 : (He.Fa.glo "signed").ok K = true := c.fact 40 (f := .glo "signed") rfl
  have q41 : (He.Fa.glo "best_cost_of").ok K = true := c.fact 41 (f := .glo "best_cost_of") rfl
  have q42 : (He.Fa.glo "best_cost").ok K = true := c.fact 42 (f := .glo "best_cost") rfl
  have q43 : (He.Fa.glo "some_plan").ok K = true := c.fact 43 (f := .glo "some_plan") rfl
  have q44 : (He.Fa.glo "some_paper").ok K = true := c.fact 44 (f := .glo "some_paper") rfl
  have q45 : (He.Fa.glo "other_of").ok K = true := c.fact 45 (f := .glo "other_of") rfl
  have q46 : (He.Fa.glo "kept").ok K = true := c.fact 46 (f := .glo "kept") rfl
  have q47 : (He.Fa.glo "priced").ok K = true := c.fact 47 (f := .glo "priced") rfl
  have q48 : (He.Fa.glo "unit").ok K = true := c.fact 48 (f := .glo "unit") rfl
  have q49 : (He.Fa.glo "best_face").ok K = true := c.fact 49 (f := .glo "best_face") rfl
  have q50 : (He.Fa.glo "paper_face").ok K = true := c.fact 50 (f := .glo "paper_face") rfl
  have q51 : (He.Fa.glo "span_of").ok K = true := c.fact 51 (f := .glo "span_of") rfl
  have q52 : (He.Fa.glo "best_range").ok K = true := c.fact 52 (f := .glo "best_range") rfl
  have q53 : (He.Fa.glo "paper_range").ok K = true := c.fact 53 (f := .glo "paper_range") rfl
  have q54 : (He.Fa.glo "negative").ok K = true := c.fact 54 (f := .glo "negative") rfl
  have q55 : (He.Fa.glo "live_columns").ok K = true := c.fact 55 (f := .glo "live_columns") rfl
  have q56 : (He.Fa.glo "dear_columns").ok K = true := c.fact 56 (f := .glo "dear_columns") rfl
  have q57 : (He.Fa.glo "loose_rows").ok K = true := c.fact 57 (f := .glo "loose_rows") rfl
  have q58 : (He.Fa.glo "paid_rows").ok K = true := c.fact 58 (f := .glo "paid_rows") rfl
  have q59 : (He.Fa.glo "spare").ok K = true := c.fact 59 (f := .glo "spare") rfl
  have q60 : (He.Fa.glo "fits_together").ok K = true := c.fact 60 (f := .glo "fits_together") rfl
  have q61 : (He.Fa.glo "_law_taken").ok K = true := c.fact 61 (f := .glo "_law_taken") rfl
  have q62 : (He.Fa.glo "_law_is").ok K = true := c.fact 62 (f := .glo "_law_is") rfl
  have q63 : (He.Fa.glo "_law_ratio").ok K = true := c.fact 63 (f := .glo "_law_ratio") rfl
  have q64 : (He.Fa.glo "_law_plus").ok K = true := c.fact 64 (f := .glo "_law_plus") rfl
  have q65 : (He.Fa.glo "_law_sum").ok K = true := c.fact 65 (f := .glo "_law_sum") rfl
  have q66 : (He.Fa.glo "_law_task").ok K = true := c.fact 66 (f := .glo "_law_task") rfl
  have q67 : (He.Fa.cls "Grid").ok K = true := c.fact 67 (f := .cls "Grid") rfl
  have q68 : (He.Fa.mkr "Grid").ok K = true := c.fact 68 (f := .mkr "Grid") rfl
  have q69 : (He.Fa.noat "Grid" "signs").ok K = true := c.fact 69 (f := .noat "Grid" "signs") rfl
  have q70 : (He.Fa.noat "Grid" "many").ok K = true := c.fact 70 (f := .noat "Grid" "many") rfl
  have q71 : (He.Fa.noat "Grid" "rows").ok K = true := c.fact 71 (f := .noat "Grid" "rows") rfl
  have q72 : (He.Fa.noat "Grid" "inside").ok K = true := c.fact 72 (f := .noat "Grid" "inside") rfl
  have q73 : (He.Fa.noat "Grid" "low").ok K = true := c.fact 73 (f := .noat "Grid" "low") rfl
  have q74 : (He.Fa.noat "Grid" "top").ok K = true := c.fact 74 (f := .noat "Grid" "top") rfl
  have q75 : (He.Fa.meth "Grid" "price").ok K = true := c.fact 75 (f := .meth "Grid" "price") rfl
  have q76 : (He.Fa.meth "Grid" "turn").ok K = true := c.fact 76 (f := .meth "Grid" "turn") rfl
  have q77 : (He.Fa.meth "Grid" "swept").ok K = true := c.fact 77 (f := .meth "Grid" "swept") rfl
  have q78 : (He.Fa.meth "Grid" "goes_out").ok K = true := c.fact 78 (f := .meth "Grid" "goes_out") rfl
  have q79 : (He.Fa.meth "Grid" "is_less").ok K = true := c.fact 79 (f := .meth "Grid" "is_less") rfl
  have q80 : (He.Fa.meth "Grid" "settle").ok K = true := c.fact 80 (f := .meth "Grid" "settle") rfl
  have q81 : (He.Fa.meth "Grid" "amounts").ok K = true := c.fact 81 (f := .meth "Grid" "amounts") rfl
  have q82 : (He.Fa.meth "Grid" "weights").ok K = true := c.fact 82 (f := .meth "Grid" "weights") rfl
  have q83 : (He.Fa.meth "Grid" "drive_out").ok K = true := c.fact 83 (f := .meth "Grid" "drive_out") rfl
  have q84 : (He.Fa.meth "Grid" "way").ok K = true := c.fact 84 (f := .meth "Grid" "way") rfl
  have q85 : (He.Fa.exc "NotBest").ok K = true := c.fact 85 (f := .exc "NotBest") rfl
  have q86 : (He.Fa.exm "NotBest" "NotBest" true).ok K = true := c.fact 86 (f := .exm "NotBest" "NotBest" true) rfl
  obtain ⟨fd0, F0⟩ := c.def_ 0 rfl
  obtain ⟨fd1, F1⟩ := c.def_ 1 rfl
  obtain ⟨fd2, F2⟩ := c.def_ 2 rfl
  obtain ⟨fd3, F3⟩ := c.def_ 3 rfl
  obtain ⟨fd4, F4⟩ := c.def_ 4 rfl
  obtain ⟨fd5, F5⟩ := c.def_ 5 rfl
  obtain ⟨fd6, F6⟩ := c.def_ 6 rfl
  obtain ⟨fd7, F7⟩ := c.def_ 7 rfl
  obtain ⟨fd8, F8⟩ := c.def_ 8 rfl
  obtain ⟨fd9, F9⟩ := c.def_ 9 rfl
  obtain ⟨fd10, F10⟩ := c.def_ 10 rfl
  obtain ⟨fd11, F11⟩ := c.def_ 11 rfl
  obtain ⟨fd12, F12⟩ := c.def_ 12 rfl
  obtain ⟨fd13, F13⟩ := c.def_ 13 rfl
  obtain ⟨fd14, F14⟩ := c.def_ 14 rfl
  obtain ⟨fd15, F15⟩ := c.def_ 15 rfl
  obtain ⟨fd16, F16⟩ := c.def_ 16 rfl
  obtain ⟨fd17, F17⟩ := c.def_ 17 rfl
  obtain ⟨fd18, F18⟩ := c.def_ 18 rfl
  obtain ⟨fd19, F19⟩ := c.def_ 19 rfl
  obtain ⟨fd20, F20⟩ := c.def_ 20 rfl
  obtain ⟨fd21, F21⟩ := c.def_ 21 rfl
  obtain ⟨fd22, F22⟩ := c.def_ 22 rfl
  obtain ⟨fd23, F23⟩ := c.def_ 23 rfl
  obtain ⟨fd24, F24⟩ := c.def_ 24 rfl
  obtain ⟨fd25, F25⟩ := c.def_ 25 rfl
  obtain ⟨fd26, F26⟩ := c.def_ 26 rfl
  obtain ⟨fd27, F27⟩ := c.def_ 27 rfl
  obtain ⟨fd28, F28⟩ := c.def_ 28 rfl
  obtain ⟨fd29, F29⟩ := c.def_ 29 rfl
  obtain ⟨fd30, F30⟩ := c.def_ 30 rfl
  obtain ⟨fd31, F31⟩ := c.def_ 31 rfl
  obtain ⟨fd32, F32⟩ := c.def_ 32 rfl
  obtain ⟨fd33, F33⟩ := c.def_ 33 rfl
  obtain ⟨fd34, F34⟩ := c.def_ 34 rfl
  obtain ⟨fd35, F35⟩ := c.def_ 35 rfl
  obtain ⟨fd36, F36⟩ := c.def_ 36 rfl
  obtain ⟨fd37, F37⟩ := c.def_ 37 rfl
  obtain ⟨fd38, F38⟩ := c.def_ 38 rfl
  obtain ⟨fd39, F39⟩ := c.def_ 39 rfl
  obtain ⟨fd40, F40⟩ := c.def_ 40 rfl
  obtain ⟨fd41, F41⟩ := c.def_ 41 rfl
  obtain ⟨fd42, F42⟩ := c.def_ 42 rfl
  obtain ⟨fd43, F43⟩ := c.def_ 43 rfl
  obtain ⟨fd45, F45⟩ := c.def_ 45 rfl
  obtain ⟨fd46, F46⟩ := c.def_ 46 rfl
  obtain ⟨fd47, F47⟩ := c.def_ 47 rfl
  obtain ⟨fd48, F48⟩ := c.def_ 48 rfl
  obtain ⟨fd49, F49⟩ := c.def_ 49 rfl
  obtain ⟨fd50, F50⟩ := c.def_ 50 rfl
  obtain ⟨fd51, F51⟩ := c.def_ 51 rfl
  obtain ⟨fd52, F52⟩ := c.def_ 52 rfl
  obtain ⟨fd53, F53⟩ := c.def_ 53 rfl
  obtain ⟨fd54, F54⟩ := c.def_ 54 rfl
  obtain ⟨fd55, F55⟩ := c.def_ 55 rfl
  exact {
    b_len := He.free_ok X G q0
    b_abs := He.free_ok X G q1
    b_max := He.free_ok X G q2
    b_sum := He.free_ok X G q3
    b_all := He.free_ok X G q4
    b_any := He.free_ok X G q5
    b_sorted := He.free_ok X G q6
    b_int := He.free_ok X G q7
    b_tuple := He.free_ok X G q8
    b_list := He.free_ok X G q9
    b_isinstance := He.free_ok X G q10
    b_bool := He.free_ok X G q11
    b_str := He.free_ok X G q12
    b_range := He.free_ok X G q13
    b_zip := He.free_ok X G q14
    b_enumerate := He.free_ok X G q15
    MOST_COLUMNS := He.int_ok X G q16
    MOST_ROWS := He.int_ok X G q17
    MOST_VALUE := He.int_ok X G q18
    SIGNS := ⟨_, He.glo_ok X G q21, fun H => He.tupB_ok c0.tup H⟩
    g_Grid := He.glo_ok X G q19
    c_Grid := He.cls_ok q67
    M_init := ⟨_, fd45, He.mkr_ok q68, F45, (FunD.bindsN (ps := ["self", "rows", "rights", "many"]) F45 fun _ _ _ _ _ _ us hl => match us, hl with | [_, _, _, _], _ => rfl)⟩
    n_signs := He.noat_ok q69
    n_many := He.noat_ok q70
    n_rows := He.noat_ok q71
    n_inside := He.noat_ok q72
    n_low := He.noat_ok q73
    n_top := He.noat_ok q74
    m_price := ⟨_, fd46, He.meth_ok q75, F46, (FunD.bindsN (ps := ["self", "costs"]) F46 fun _ _ _ _ _ _ us hl => match us, hl with | [_, _], _ => rfl)⟩
    m_turn := ⟨_, fd47, He.meth_ok q76, F47, (FunD.bindsN (ps := ["self", "index", "column"]) F47 fun _ _ _ _ _ _ us hl => match us, hl with | [_, _, _], _ => rfl)⟩
    m_swept := ⟨_, fd48, He.meth_ok q77, F48, (FunD.bindsN (ps := ["self", "told", "row", "pivot", "weight"]) F48 fun _ _ _ _ _ _ us hl => match us, hl with | [_, _, _, _, _], _ => rfl)⟩
    m_goes_out := ⟨_, fd49, He.meth_ok q78, F49, (FunD.bindsN (ps := ["self", "column"]) F49 fun _ _ _ _ _ _ us hl => match us, hl with | [_, _], _ => rfl)⟩
    m_is_less := ⟨_, fd50, He.meth_ok q79, F50, (FunD.bindsN (ps := ["self", "one", "other"]) F50 fun _ _ _ _ _ _ us hl => match us, hl with | [_, _, _], _ => rfl)⟩
    m_settle := ⟨_, fd51, He.meth_ok q80, F51, (FunD.bindsN (ps := ["self", "allowed"]) F51 fun _ _ _ _ _ _ us hl => match us, hl with | [_, _], _ => rfl)⟩
    m_amounts := ⟨_, fd52, He.meth_ok q81, F52, (FunD.bindsN (ps := ["self"]) F52 fun _ _ _ _ _ _ us hl => match us, hl with | [_], _ => rfl)⟩
    m_weights := ⟨_, fd53, He.meth_ok q82, F53, (FunD.bindsN (ps := ["self", "own"]) F53 fun _ _ _ _ _ _ us hl => match us, hl with | [_, _], _ => rfl)⟩
    m_drive_out := ⟨_, fd54, He.meth_ok q83, F54, (FunD.bindsN (ps := ["self"]) F54 fun _ _ _ _ _ _ us hl => match us, hl with | [_], _ => rfl)⟩
    m_way := ⟨_, fd55, He.meth_ok q84, F55, (FunD.bindsN (ps := ["self", "column"]) F55 fun _ _ _ _ _ _ us hl => match us, hl with | [_, _], _ => rfl)⟩
    g_NotBest := He.glo_ok X G q20
    x_NotBest := (He.exc_ok q85).1
    k_NotBest := (He.exc_ok q85).2.1
    s_NotBest := (He.exc_ok q85).2.2.1
    t_NotBest := (He.exc_ok q85).2.2.2
    e_NotBest := He.exm_ok q86
    d_is_int := ⟨_, fd0, He.glo_ok X G q23, F0, (FunD.bindsN (ps := ["value"]) F0 fun _ _ _ _ _ _ us hl => match us, hl with | [_], _ => rfl)⟩
    d_divisor := ⟨_, fd1, He.glo_ok X G q24, F1, (FunD.bindsN (ps := ["one", "other"]) F1 fun _ _ _ _ _ _ us hl => match us, hl with | [_, _], _ => rfl)⟩
    d_ratio := ⟨_, fd2, He.glo_ok X G q25, F2, (FunD.bindsN (ps := ["top", "low"]) F2 fun _ _ _ _ _ _ us hl => match us, hl with | [_, _], _ => rfl)⟩
    d_is_ratio := ⟨_, fd3, He.glo_ok X G q26, F3, (FunD.bindsN (ps := ["value"]) F3 fun _ _ _ _ _ _ us hl => match us, hl with | [_], _ => rfl)⟩
    d_dot := ⟨_, fd4, He.glo_ok X G q27, F4, (FunD.bindsN (ps := ["numbers", "plan"]) F4 fun _ _ _ _ _ _ us hl => match us, hl with | [_, _], _ => rfl)⟩
    d_is_small := ⟨_, fd5, He.glo_ok X G q28, F5, (FunD.bindsN (ps := ["value"]) F5 fun _ _ _ _ _ _ us hl => match us, hl with | [_], _ => rfl)⟩
    d_is_row := ⟨_, fd6, He.glo_ok X G q29, F6, (FunD.bindsN (ps := ["value", "many"]) F6 fun _ _ _ _ _ _ us hl => match us, hl with | [_, _], _ => rfl)⟩
    d_need_task := ⟨_, fd7, He.glo_ok X G q30, F7, (FunD.bindsN (ps := ["value"]) F7 fun _ _ _ _ _ _ us hl => match us, hl with | [_], _ => rfl)⟩
    d_need_plan := ⟨_, fd8, He.glo_ok X G q31, F8, (FunD.bindsN (ps := ["task", "value"]) F8 fun _ _ _ _ _ _ us hl => match us, hl with | [_, _], _ => rfl)⟩
    d_need_paper := ⟨_, fd9, He.glo_ok X G q32, F9, (FunD.bindsN (ps := ["task", "value"]) F9 fun _ _ _ _ _ _ us hl => match us, hl with | [_, _], _ => rfl)⟩
    d_turned_row := ⟨_, fd10, He.glo_ok X G q33, F10, (FunD.bindsN (ps := ["row"]) F10 fun _ _ _ _ _ _ us hl => match us, hl with | [_], _ => rfl)⟩
    d_plain_of := ⟨_, fd11, He.glo_ok X G q34, F11, (FunD.bindsN (ps := ["task"]) F11 fun _ _ _ _ _ _ us hl => match us, hl with | [_], _ => rfl)⟩
    d_need_index := ⟨_, fd12, He.glo_ok X G q35, F12, (FunD.bindsN (ps := ["task", "value"]) F12 fun _ _ _ _ _ _ us hl => match us, hl with | [_, _], _ => rfl)⟩
    d_need_column := ⟨_, fd13, He.glo_ok X G q36, F13, (FunD.bindsN (ps := ["task", "value"]) F13 fun _ _ _ _ _ _ us hl => match us, hl with | [_, _], _ => rfl)⟩
    d_spread := ⟨_, fd14, He.glo_ok X G q37, F14, (FunD.bindsN (ps := ["task"]) F14 fun _ _ _ _ _ _ us hl => match us, hl with | [_], _ => rfl)⟩
    d_gathered := ⟨_, fd15, He.glo_ok X G q38, F15, (FunD.bindsN (ps := ["kinds", "values"]) F15 fun _ _ _ _ _ _ us hl => match us, hl with | [_, _], _ => rfl)⟩
    d_solved := ⟨_, fd16, He.glo_ok X G q39, F16, (FunD.bindsN (ps := ["task"]) F16 fun _ _ _ _ _ _ us hl => match us, hl with | [_], _ => rfl)⟩
    d_signed := ⟨_, fd17, He.glo_ok X G q40, F17, (FunD.bindsN (ps := ["task", "weights"]) F17 fun _ _ _ _ _ _ us hl => match us, hl with | [_, _], _ => rfl)⟩
    d_best_cost_of := ⟨_, fd18, He.glo_ok X G q41, F18, (FunD.bindsN (ps := ["task"]) F18 fun _ _ _ _ _ _ us hl => match us, hl with | [_], _ => rfl)⟩
    d_best_cost := ⟨_, fd19, He.glo_ok X G q42, F19, (FunD.bindsN (ps := ["task"]) F19 fun _ _ _ _ _ _ us hl => match us, hl with | [_], _ => rfl)⟩
    d_some_plan := ⟨_, fd20, He.glo_ok X G q43, F20, (FunD.bindsN (ps := ["task"]) F20 fun _ _ _ _ _ _ us hl => match us, hl with | [_], _ => rfl)⟩
    d_some_paper := ⟨_, fd21, He.glo_ok X G q44, F21, (FunD.bindsN (ps := ["task"]) F21 fun _ _ _ _ _ _ us hl => match us, hl with | [_], _ => rfl)⟩
    d_other_of := ⟨_, fd22, He.glo_ok X G q45, F22, (FunD.bindsN (ps := ["task"]) F22 fun _ _ _ _ _ _ us hl => match us, hl with | [_], _ => rfl)⟩
    d_kept := ⟨_, fd23, He.glo_ok X G q46, F23, (FunD.bindsN (ps := ["task", "value"]) F23 fun _ _ _ _ _ _ us hl => match us, hl with | [_, _], _ => rfl)⟩
    d_priced := ⟨_, fd24, He.glo_ok X G q47, F24, (FunD.bindsN (ps := ["task", "costs"]) F24 fun _ _ _ _ _ _ us hl => match us, hl with | [_, _], _ => rfl)⟩
    d_unit := ⟨_, fd25, He.glo_ok X G q48, F25, (FunD.bindsN (ps := ["many", "at", "sign"]) F25 fun _ _ _ _ _ _ us hl => match us, hl with | [_, _, _], _ => rfl)⟩
    d_best_face := ⟨_, fd26, He.glo_ok X G q49, F26, (FunD.bindsN (ps := ["task"]) F26 fun _ _ _ _ _ _ us hl => match us, hl with | [_], _ => rfl)⟩
    d_paper_face := ⟨_, fd27, He.glo_ok X G q50, F27, (FunD.bindsN (ps := ["task"]) F27 fun _ _ _ _ _ _ us hl => match us, hl with | [_], _ => rfl)⟩
    d_span_of := ⟨_, fd28, He.glo_ok X G q51, F28, (FunD.bindsN (ps := ["task", "costs"]) F28 fun _ _ _ _ _ _ us hl => match us, hl with | [_, _], _ => rfl)⟩
    d_best_range := ⟨_, fd29, He.glo_ok X G q52, F29, (FunD.bindsN (ps := ["task", "column"]) F29 fun _ _ _ _ _ _ us hl => match us, hl with | [_, _], _ => rfl)⟩
    d_paper_range := ⟨_, fd30, He.glo_ok X G q53, F30, (FunD.bindsN (ps := ["task", "index"]) F30 fun _ _ _ _ _ _ us hl => match us, hl with | [_, _], _ => rfl)⟩
    d_negative := ⟨_, fd31, He.glo_ok X G q54, F31, (FunD.bindsN (ps := ["one"]) F31 fun _ _ _ _ _ _ us hl => match us, hl with | [_], _ => rfl)⟩
    d_live_columns := ⟨_, fd32, He.glo_ok X G q55, F32, (FunD.bindsN (ps := ["task"]) F32 fun _ _ _ _ _ _ us hl => match us, hl with | [_], _ => rfl)⟩
    d_dear_columns := ⟨_, fd33, He.glo_ok X G q56, F33, (FunD.bindsN (ps := ["task"]) F33 fun _ _ _ _ _ _ us hl => match us, hl with | [_], _ => rfl)⟩
    d_loose_rows := ⟨_, fd34, He.glo_ok X G q57, F34, (FunD.bindsN (ps := ["task"]) F34 fun _ _ _ _ _ _ us hl => match us, hl with | [_], _ => rfl)⟩
    d_paid_rows := ⟨_, fd35, He.glo_ok X G q58, F35, (FunD.bindsN (ps := ["task"]) F35 fun _ _ _ _ _ _ us hl => match us, hl with | [_], _ => rfl)⟩
    d_spare := ⟨_, fd36, He.glo_ok X G q59, F36, (FunD.bindsN (ps := ["task", "plan"]) F36 fun _ _ _ _ _ _ us hl => match us, hl with | [_, _], _ => rfl)⟩
    d_fits_together := ⟨_, fd37, He.glo_ok X G q60, F37, (FunD.bindsN (ps := ["task", "plan", "paper"]) F37 fun _ _ _ _ _ _ us hl => match us, hl with | [_, _, _], _ => rfl)⟩
    d_law_taken := ⟨_, fd38, He.glo_ok X G q61, F38, (FunD.bindsN (ps := ["_law_row", "_law_many"]) F38 fun _ _ _ _ _ _ us hl => match us, hl with | [_, _], _ => rfl)⟩
    d_law_is := ⟨_, fd39, He.glo_ok X G q62, F39, (FunD.bindsN (ps := ["_law_found", "_law_due"]) F39 fun _ _ _ _ _ _ us hl => match us, hl with | [_, _], _ => rfl)⟩
    d_law_ratio := ⟨_, fd40, He.glo_ok X G q63, F40, (FunD.bindsN (ps := ["_law_top", "_law_low"]) F40 fun _ _ _ _ _ _ us hl => match us, hl with | [_, _], _ => rfl)⟩
    d_law_plus := ⟨_, fd41, He.glo_ok X G q64, F41, (FunD.bindsN (ps := ["_law_one", "_law_other"]) F41 fun _ _ _ _ _ _ us hl => match us, hl with | [_, _], _ => rfl)⟩
    d_law_sum := ⟨_, fd42, He.glo_ok X G q65, F42, (FunD.bindsN (ps := ["_law_numbers", "_law_plan"]) F42 fun _ _ _ _ _ _ us hl => match us, hl with | [_, _], _ => rfl)⟩
    d_law_task := ⟨_, fd43, He.glo_ok X G q66, F43, (FunD.bindsN (ps := ["_law_row", "_law_columns", "_law_rows", "_law_value"]) F43 fun _ _ _ _ _ _ us hl => match us, hl with | [_, _, _, _], _ => rfl)⟩ }
abbrev R : PySem.W.OpenRow := PySem.W.OpenLaw.row PySem.Challenge.rw_costpapers_k06_whole_live_ones
abbrev hk : PySem.W.Hook := hookS 5
def ob (s : PySem.W.SharedT) : He.AlD := obsSG 5 (HandSHeadRun.getT s)
theorem ob_eq (s : PySem.W.SharedT) : ob s = hk.obs s.abs := obsSG_eq (HandSHeadRun.getT_eq s)
theorem run (w : World) : HandSHeadRun.RunEq R (PySem.W.view R.prog [61]) hk ob 6000 nmS w := by
  intro os
  kernel_rfl
theorem facts {P : Program} {w : World} {K : PySem.W.Frag} {h : Heap} {mg : Str → Option Value} {f : Addr} (X : K.In h) (G : h.Ns mainGlobals mg) (hfa : mg ("law" : Str) = some (.ref f)) (c0 : SaysS K) :
    ∃ fd : FuncData, (∀ (s : Shared) (v : Value), BindsTo s fd ⟨[v], []⟩ [("_law_script", v)]) ∧ ∀ base : Heap, K.In base → base.Ns mainGlobals mg → FnOk P w K mg base CX0 10 f fd ["_law_script"] (spLaw K) := by
  have c := c0.says
  obtain ⟨fd, F⟩ := c.def_ 44 rfl
  have e := hfa.symm.trans (He.glo_ok X G (c.fact 22 (f := .glo "law") rfl))
  cases e
  have b := FunD.bindsA (ps := ["_law_script"]) F fun _ _ _ _ _ _ us hl => match us, hl with | [_], _ => rfl
  exact ⟨fd, fun s v => b s [v] rfl, fun base _ _ => ok_law (txt X G c0) F⟩
end G3
open PySem PySem.W PySem.Calls PyProof.Rows
theorem PySem.Challenge.cw_costpapers_k06_whole_live_ones_holds : PySem.Challenge.rw_costpapers_k06_whole_live_ones.Holds := by
  w_on; o_law
  refine HandSHeadRun.head_any (r := OpenLaw.row PySem.Challenge.rw_costpapers_k06_whole_live_ones) (q := view (OpenLaw.row PySem.Challenge.rw_costpapers_k06_whole_live_ones).prog [61]) (H := G3.hk) (ob := G3.ob) (M := 6000) (loose := G3.nmS) (d := HandSHeadRun.topDef (OpenLaw.row PySem.Challenge.rw_costpapers_k06_whole_live_ones).prog 61) (kwd := []) G3.ob_eq
    (by kernel_rfl) (fun s => by kernel_rfl) G3.run (by kernel_rfl) (by kernel_rfl) (by kernel_rfl) (by rfl) (by first | assumption | decide +kernel) (by decide +kernel) ⟨rfl, rfl, rfl, rfl, rfl, by decide +kernel⟩ ?hw ?hc
  case hw => w_witness2
  case hc =>
    refine L2.walk_ofE (l := PySem.Challenge.rw_costpapers_k06_whole_live_ones) (n := 63) (k := 10) (x := "_law_script") (CX := L2.CX0) rfl (by decide) (by kernel_rfl) ⟨rfl, by decide, by decide⟩ ?F (fun _ _ _ _ z => z)
    intro w mg fa h Y G hmg0
    obtain ⟨K, KX, c⟩ := Y
    have hmg : mg ("law" : PySem.Str) = some (.ref fa) := by
      have e : (HandSHeadRun.topDef (OpenLaw.row PySem.Challenge.rw_costpapers_k06_whole_live_ones).prog 61).name = ("law" : PySem.Str) := by kernel_rfl
      rw [← e]
      exact hmg0
    obtain ⟨fd, hb, hF⟩ := G3.facts (P := (PySem.Challenge.rw_costpapers_k06_whole_live_ones).prog) (w := w) KX G hmg c
    exact ⟨K, fd, G3.spLaw K, KX, hb, fun H a ns hl _ hS => ⟨a, ns, rfl, hS, fun _ => rfl⟩, hF⟩
