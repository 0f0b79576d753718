import PyProof.Rows.All
import Wide.All
import OpenK.AllK
import Wide.FinOn
import HandS.ForMost
import HandS.ForExc
import HandS.Flow
import HandS.Wide
import HandS.Zip
import HandS.Star
import HandS.Conv
import HandS.IsInst
import HandS.ExcIs
import HandS.Walk
import HandS.TupAny
import PySem.Challenge.RW_bendworks_k01_whole_corners_of_programs
import KE.GoesZip
import KE.GoesMore
set_option Elab.async false
set_option linter.all false
set_option maxRecDepth 100000
namespace BW

/-! ## finite sums -/
def sm : Nat → (Nat → Rat) → Rat
  | 0, _ => 0
  | n + 1, f => sm n f + f n

theorem sm_zero {f : Nat → Rat} : sm 0 f = 0 := rfl
theorem sm_succ {n : Nat} {f : Nat → Rat} : sm (n + 1) f = sm n f + f n := rfl
theorem sm_congr {n : Nat} {f g : Nat → Rat} (h : ∀ i, i < n → f i = g i) : sm n f = sm n g := by
  induction n with
  | zero => rfl
  | succ n ih => rw [sm_succ, sm_succ, ih (fun i hi => h i (by omega)), h n (by omega)]
theorem sm_add {n : Nat} {f g : Nat → Rat} : sm n (fun i => f i + g i) = sm n f + sm n g := by
  induction n with
  | zero => simp only [sm_zero]; grind
  | succ n ih => simp only [sm_succ, ih]; grind
theorem sm_sub {n : Nat} {f g : Nat → Rat} : sm n (fun i => f i - g i) = sm n f - sm n g := by
  induction n with
  | zero => simp [sm_zero]; grind
  | succ n ih => simp only [sm_succ, ih]; grind
theorem sm_mul {n : Nat} {c : Rat} {f : Nat → Rat} : sm n (fun i => c * f i) = c * sm n f := by
  induction n with
  | zero => simp [sm_zero]
  | succ n ih => simp only [sm_succ, ih]; grind
theorem sm_mulr {n : Nat} {c : Rat} {f : Nat → Rat} : sm n (fun i => f i * c) = sm n f * c := by
  induction n with
  | zero => simp [sm_zero]
  | succ n ih => simp only [sm_succ, ih]; grind
theorem sm_nil {n : Nat} {f : Nat → Rat} (h : ∀ i, i < n → f i = 0) : sm n f = 0 := by
  induction n with
  | zero => rfl
  | succ n ih => rw [sm_succ, ih (fun i hi => h i (by omega)), h n (by omega)]; grind
theorem sm_comm {n m : Nat} {f : Nat → Nat → Rat} : sm n (fun i => sm m (fun j => f i j)) = sm m (fun j => sm n (fun i => f i j)) := by
  induction n with
  | zero => simp only [sm_zero]; exact (sm_nil (fun _ _ => rfl)).symm
  | succ n ih => simp only [sm_succ, ih, sm_add]
theorem sm_nonneg {n : Nat} {f : Nat → Rat} (h : ∀ i, i < n → 0 ≤ f i) : 0 ≤ sm n f := by
  induction n with
  | zero => exact Rat.le_refl
  | succ n ih => rw [sm_succ]; have := ih (fun i hi => h i (by omega)); have := h n (by omega); grind
theorem sm_nonpos {n : Nat} {f : Nat → Rat} (h : ∀ i, i < n → f i ≤ 0) : sm n f ≤ 0 := by
  induction n with
  | zero => exact Rat.le_refl
  | succ n ih => rw [sm_succ]; have := ih (fun i hi => h i (by omega)); have := h n (by omega); grind
theorem sm_le {n : Nat} {f g : Nat → Rat} (h : ∀ i, i < n → f i ≤ g i) : sm n f ≤ sm n g := by
  induction n with
  | zero => exact Rat.le_refl
  | succ n ih => rw [sm_succ, sm_succ]; have := ih (fun i hi => h i (by omega)); have := h n (by omega); grind
/-- one place alone -/
theorem sm_one {n k : Nat} {f : Nat → Rat} (hk : k < n) (h : ∀ i, i < n → i ≠ k → f i = 0) : sm n f = f k := by
  induction n with
  | zero => omega
  | succ n ih =>
    rw [sm_succ]
    by_cases e : k = n
    · subst e; rw [sm_nil (fun i hi => h i (by omega) (by omega))]; grind
    · rw [ih (by omega) (fun i hi hne => h i (by omega) hne), h n (by omega) (by omega)]; grind
theorem sm_at {n k : Nat} {f : Nat → Rat} (hk : k < n) : sm n (fun i => if i = k then f i else 0) = f k := by
  rw [sm_one hk (fun i _ hne => if_neg hne)]; simp
theorem sm_at' {n k : Nat} {f : Nat → Rat} (hk : k < n) : sm n (fun i => if k = i then f i else 0) = f k := by
  rw [sm_one hk (fun i _ hne => if_neg (Ne.symm hne))]; simp
/-- a sum of places below 0 that is some place above -/
theorem sm_pos_of {n k : Nat} {f : Nat → Rat} (hk : k < n) (h : ∀ i, i < n → 0 ≤ f i) (hp : 0 < f k) : 0 < sm n f := by
  induction n with
  | zero => omega
  | succ n ih =>
    rw [sm_succ]
    by_cases e : k = n
    · subst e; have := sm_nonneg (n := k) (f := f) (fun i hi => h i (by omega)); grind
    · have := ih (by omega) (fun i hi => h i (by omega)); have := h n (by omega); grind

/-! ## tables -/
abbrev Mat := Nat → Nat → Rat
/-- z is killed by the rows of T; column n stands for the right side -/
def Null (m n : Nat) (T : Mat) (z : Nat → Rat) : Prop := ∀ i, i < m → sm (n + 1) (fun j => T i j * z j) = 0
/-- T is 1 at (i, B i), 0 at (k, B i) for others -/
structure Tab (m n : Nat) (T : Mat) (B : Nat → Nat) : Prop where
  lt : ∀ i, i < m → B i < n
  id : ∀ k i, k < m → i < m → T k (B i) = if k = i then 1 else 0

theorem Tab.inj {m n T B} (t : Tab m n T B) {i k : Nat} (hi : i < m) (hk : k < m) (e : B i = B k) : i = k := by
  have a := t.id i i hi hi
  have b := t.id i k hi hk
  rw [← e, a] at b
  by_cases h : i = k
  · exact h
  · simp [h] at b

/-- e_j less what the basis has for it -/
def dirv (m : Nat) (T : Mat) (B : Nat → Nat) (j : Nat) : Nat → Rat := fun l => (if l = j then 1 else 0) - sm m (fun k => if l = B k then T k j else 0)

/-- a linear form on a direction -/
theorem form_dir {m n : Nat} {T : Mat} {B : Nat → Nat} (t : Tab m n T B) {j : Nat} (hj : j ≤ n) (s : Nat → Rat) :
    sm (n + 1) (fun l => s l * dirv m T B j l) = s j - sm m (fun k => s (B k) * T k j) := by
  have e1 : sm (n + 1) (fun l => s l * dirv m T B j l) = sm (n + 1) (fun l => (if l = j then s l else 0) - sm m (fun k => s l * (if l = B k then T k j else 0))) := by
    refine sm_congr fun l _ => ?_
    unfold dirv
    rw [sm_mul]
    by_cases h : l = j <;> simp [h] <;> grind
  rw [e1, sm_sub, sm_at (by omega), sm_comm]
  congr 1
  refine sm_congr fun k hk => ?_
  rw [sm_one (k := B k) (by have := t.lt k hk; omega)]
  · simp
  · intro l _ hne; simp [hne]

theorem dir_null {m n : Nat} {T : Mat} {B : Nat → Nat} (t : Tab m n T B) {j : Nat} (hj : j ≤ n) : Null m n T (dirv m T B j) := by
  intro i hi
  rw [form_dir t hj]
  rw [sm_one (k := i) hi]
  · rw [t.id i i hi hi]; simp; grind
  · intro k hk hne; rw [t.id i k hi hk]; simp [Ne.symm hne]

/-- any S with the null vectors of T: its columns by those of T -/
theorem expand {m n m' : Nat} {T S : Mat} {B : Nat → Nat} (t : Tab m n T B) (h : ∀ z, Null m n T z → Null m' n S z) {i j : Nat} (hi : i < m') (hj : j ≤ n) :
    S i j = sm m (fun k => S i (B k) * T k j) := by
  have := h _ (dir_null t hj) i hi
  rw [form_dir t hj] at this
  grind

/-! ## the gains -/
/-- the costs, 0 at the right side -/
def gn (m : Nat) (c : Nat → Rat) (T : Mat) (B : Nat → Nat) (j : Nat) : Rat := c j - sm m (fun i => c (B i) * T i j)

theorem gn_basic {m n c T B} (t : Tab m n T B) {i : Nat} (hi : i < m) : gn m c T B (B i) = 0 := by
  unfold gn
  rw [sm_one (k := i) hi]
  · rw [t.id i i hi hi]; simp; grind
  · intro k hk hne; rw [t.id k i hk hi]; simp [hne]

/-- costs of a null vector by the gains of any table with it -/
theorem gn_null {m n : Nat} {c : Nat → Rat} {T : Mat} {B : Nat → Nat} {z : Nat → Rat} (h : Null m n T z) :
    sm (n + 1) (fun j => gn m c T B j * z j) = sm (n + 1) (fun j => c j * z j) := by
  unfold gn
  have e : sm (n + 1) (fun j => (c j - sm m (fun i => c (B i) * T i j)) * z j) = sm (n + 1) (fun j => c j * z j) - sm (n + 1) (fun j => sm m (fun i => c (B i) * (T i j * z j))) := by
    rw [← sm_sub]
    refine sm_congr fun j _ => ?_
    have : sm m (fun i => c (B i) * (T i j * z j)) = sm m (fun i => c (B i) * T i j) * z j := by
      rw [← sm_mulr]; exact sm_congr fun i _ => by grind
    rw [this]; grind
  rw [e, sm_comm]
  rw [sm_nil (n := m)]
  · grind
  · intro i hi
    rw [sm_mul, h i hi]; grind

/-- the gains of one table by those of another -/
theorem gn_trans {m n : Nat} {c : Nat → Rat} {T S : Mat} {B C : Nat → Nat} (t : Tab m n T B) (h : ∀ z, Null m n T z → Null m n S z) {j : Nat} (hj : j ≤ n) :
    gn m c T B j = gn m c S C j - sm m (fun k => gn m c S C (B k) * T k j) := by
  have h1 := gn_null (c := c) (B := C) (h _ (dir_null t hj))
  rw [form_dir t hj, form_dir t hj] at h1
  rw [h1]
  rfl

/-! ## a pivot -/
def piv (T : Mat) (r c : Nat) : Mat := fun i j => if i = r then T r j / T r c else T i j - T i c * (T r j / T r c)
def pib (B : Nat → Nat) (r c : Nat) : Nat → Nat := fun i => if i = r then c else B i

theorem pv_row {m n : Nat} {T : Mat} {r c : Nat} {z : Nat → Rat} (i : Nat) : sm (n + 1) (fun j => piv T r c i j * z j) =
    if i = r then sm (n + 1) (fun j => T r j * z j) / T r c else sm (n + 1) (fun j => T i j * z j) - T i c * (sm (n + 1) (fun j => T r j * z j) / T r c) := by
  have d : ∀ x : Rat, x / T r c = x * (T r c)⁻¹ := fun x => Rat.div_def x _
  by_cases h : i = r
  · subst h
    simp only [piv, if_true, d]
    rw [← sm_mulr]; exact sm_congr fun j _ => by grind
  · simp only [piv, if_neg h, d]
    rw [← sm_mulr, ← sm_mul, ← sm_sub]
    exact sm_congr fun j _ => by grind

theorem pv_null {m n : Nat} {T : Mat} {r c : Nat} (hr : r < m) (hp : T r c ≠ 0) (z : Nat → Rat) : Null m n (piv T r c) z ↔ Null m n T z := by
  constructor
  · intro h
    have h0 : sm (n + 1) (fun j => T r j * z j) = 0 := by
      have := h r hr
      rw [pv_row (m := m)] at this
      simp at this
      have e : sm (n + 1) (fun j => T r j * z j) = (sm (n + 1) (fun j => T r j * z j) / T r c) * T r c := by grind
      rw [e, this]; grind
    intro i hi
    by_cases e : i = r
    · subst e; exact h0
    · have := h i hi
      rw [pv_row (m := m), if_neg e, h0] at this
      grind
  · intro h i hi
    rw [pv_row (m := m)]
    rw [h r hr, h i hi]
    split <;> grind

theorem pv_tab {m n : Nat} {T : Mat} {B : Nat → Nat} {r c : Nat} (t : Tab m n T B) (hr : r < m) (hc : c < n) (hp : T r c ≠ 0) : Tab m n (piv T r c) (pib B r c) := by
  refine ⟨fun i hi => ?_, fun k i hk hi => ?_⟩
  · unfold pib; split
    · exact hc
    · exact t.lt i hi
  · unfold pib piv
    by_cases e : i = r
    · subst e
      by_cases e2 : k = i
      · subst e2; simp; grind
      · simp [e2]; grind
    · by_cases e2 : k = r
      · subst e2
        rw [if_pos rfl, if_neg e, t.id k i hk hi, if_neg (Ne.symm e)]; grind
      · rw [if_neg e2, if_neg e, t.id k i hk hi, t.id r i hr hi, if_neg (Ne.symm e)]; grind

/-- and back -/
theorem pv_back {m n : Nat} {T : Mat} {B : Nat → Nat} {r c : Nat} (t : Tab m n T B) (hr : r < m) (hp : T r c ≠ 0) {i j : Nat} (hi : i < m) : piv (piv T r c) r (B r) i j = T i j := by
  have e1 := t.id r r hr hr
  have e2 := t.id i r hi hr
  simp only [if_true] at e1
  unfold piv
  by_cases e : i = r
  · subst e; simp; rw [e1]; grind
  · simp [e] at e2
    simp [e]
    rw [e1, e2]; grind
end BW

namespace BW

/-! ## counting -/
open Classical in
noncomputable def cnt (m : Nat) (p : Nat → Prop) : Nat := match m with
  | 0 => 0
  | m + 1 => cnt m p + if p m then 1 else 0
theorem cnt_le {m : Nat} {p q : Nat → Prop} (h : ∀ k, k < m → p k → q k) : cnt m p ≤ cnt m q := by
  induction m with
  | zero => simp [cnt]
  | succ m ih =>
    have := ih (fun k hk => h k (by omega))
    have h2 := h m (by omega)
    unfold cnt
    by_cases a : p m
    · simp [a, h2 a]; exact this
    · simp [a]; omega
theorem cnt_lt {m : Nat} {p q : Nat → Prop} (h : ∀ k, k < m → p k → q k) {k : Nat} (hk : k < m) (h1 : ¬ p k) (h2 : q k) : cnt m p < cnt m q := by
  induction m with
  | zero => omega
  | succ m ih =>
    unfold cnt
    by_cases e : k = m
    · subst e
      have := cnt_le (fun k hk => h k (by omega)) (m := k)
      simp [h1, h2]; omega
    · have := ih (fun k hk => h k (by omega)) (by omega)
      have h2 := h m (by omega)
      by_cases a : p m
      · simp [a, h2 a]; exact this
      · simp [a]; omega
theorem cnt_pos {m : Nat} {p : Nat → Prop} (h : 0 < cnt m p) : ∃ k, k < m ∧ p k := by
  induction m with
  | zero => simp [cnt] at h
  | succ m ih =>
    unfold cnt at h
    by_cases a : p m
    · exact ⟨m, by omega, a⟩
    · simp [a] at h
      obtain ⟨k, hk, q⟩ := ih h
      exact ⟨k, by omega, q⟩
theorem cnt_top {m : Nat} {p : Nat → Prop} : cnt m p ≤ m := by
  induction m with
  | zero => simp [cnt]
  | succ m ih => unfold cnt; split <;> omega

/-! ## how great the entries are -/
def Bd (M m n : Nat) (T : Mat) : Prop := ∃ D : Int, D ≠ 0 ∧ D.natAbs ≤ M ∧ ∀ i, i < m → ∀ j, j ≤ n → ∃ a : Int, a.natAbs ≤ M ∧ T i j = (a : Rat) / (D : Rat)
theorem Bd.mono {M M' m n T} (h : Bd M m n T) (l : M ≤ M') : Bd M' m n T := by
  obtain ⟨D, h0, h1, h2⟩ := h
  refine ⟨D, h0, by omega, fun i hi j hj => ?_⟩
  obtain ⟨a, ha, e⟩ := h2 i hi j hj
  exact ⟨a, by omega, e⟩
theorem Bd.congr {M m n T S} (h : Bd M m n T) (e : ∀ i, i < m → ∀ j, j ≤ n → T i j = S i j) : Bd M m n S := by
  obtain ⟨D, h0, h1, h2⟩ := h
  refine ⟨D, h0, by omega, fun i hi j hj => ?_⟩
  rw [← e i hi j hj]
  exact h2 i hi j hj
theorem icast_ne {a : Int} (h : a ≠ 0) : (a : Rat) ≠ 0 := fun e => h (Rat.intCast_inj.mp (by simpa using e))
theorem natAbs_mul_le {a b : Int} {M : Nat} (h : a.natAbs ≤ M) (h' : b.natAbs ≤ M) : (a * b).natAbs ≤ M * M := by
  rw [Int.natAbs_mul]; exact Nat.mul_le_mul h h'
theorem Bd.piv {M m n : Nat} {T : Mat} {r c : Nat} (h : Bd M m n T) (hr : r < m) (hc : c ≤ n) (hp : T r c ≠ 0) : Bd (2 * (M * M)) m n (piv T r c) := by
  obtain ⟨D, h0, h1, h2⟩ := h
  obtain ⟨p, hpM, ep⟩ := h2 r hr c hc
  have p0 : p ≠ 0 := by
    intro e; subst e; rw [ep] at hp; apply hp; simp [Rat.div_def]
  have D' := icast_ne h0
  have p' := icast_ne p0
  refine ⟨D * p, Int.mul_ne_zero h0 p0, ?_, fun i hi j hj => ?_⟩
  · have := natAbs_mul_le h1 hpM; omega
  · obtain ⟨x, hx, ex⟩ := h2 i hi j hj
    obtain ⟨y, hy, ey⟩ := h2 r hr j hj
    obtain ⟨z, hz, ez⟩ := h2 i hi c hc
    by_cases e : i = r
    · subst e
      refine ⟨y * D, ?_, ?_⟩
      · have := natAbs_mul_le hy h1; omega
      · unfold BW.piv; rw [if_pos rfl, ep, ey, Rat.intCast_mul, Rat.intCast_mul]; grind
    · refine ⟨x * p - z * y, ?_, ?_⟩
      · have := natAbs_mul_le hx hpM
        have := natAbs_mul_le hz hy
        omega
      · unfold BW.piv; rw [if_neg e, ex, ep, ey, ez, Rat.intCast_mul, Rat.intCast_sub, Rat.intCast_mul, Rat.intCast_mul]; grind

def bd (M : Nat) : Nat → Nat
  | 0 => M
  | d + 1 => 2 * (bd M d * bd M d)

/-- what is reached from a table of whole numbers -/
theorem reach_bd {m n M : Nat} {T0 : Mat} {B0 : Nat → Nat} (t0 : Tab m n T0 B0) (h0 : ∀ j, j ≤ n → ∀ k, k < m → ∃ a : Int, a.natAbs ≤ M ∧ T0 k j = a) (hM : 1 ≤ m * M) :
    ∀ d (T : Mat) (B : Nat → Nat), Tab m n T B → (∀ z, Null m n T z ↔ Null m n T0 z) → cnt m (fun k => ∀ i, i < m → B i ≠ B0 k) ≤ d → Bd (bd (m * M) d) m n T := by
  intro d
  induction d with
  | zero =>
    intro T B t hn hc
    have all : ∀ k, k < m → ∃ i, i < m ∧ B i = B0 k := by
      intro k hk
      refine Classical.byContradiction fun hh => ?_
      have z : (fun k => ∀ i, i < m → B i ≠ B0 k) k := fun i hi e => hh ⟨i, hi, e⟩
      have := cnt_lt (m := m) (p := fun _ => False) (q := fun k => ∀ i, i < m → B i ≠ B0 k) (fun _ _ h => h.elim) hk (fun h => h) z
      omega
    refine ⟨1, by decide, by show 1 ≤ m * M; exact hM, fun i hi j hj => ?_⟩
    have e := expand (S := T) t0 (fun z h => (hn z).mpr h) hi hj
    have sz : ∀ m', m' ≤ m → ∃ a : Int, a.natAbs ≤ m' * M ∧ sm m' (fun k => T i (B0 k) * T0 k j) = a := by
      intro m'
      induction m' with
      | zero => intro _; exact ⟨0, by simp, rfl⟩
      | succ m' ih =>
        intro hm'
        obtain ⟨a, ha, ea⟩ := ih (by omega)
        obtain ⟨b, hb, eb⟩ := h0 j hj m' (by omega)
        obtain ⟨i', hi', ei'⟩ := all m' (by omega)
        rw [sm_succ, ea, eb, ← ei', t.id i i' hi hi']
        by_cases q : i = i'
        · refine ⟨a + b, ?_, ?_⟩
          · rw [Nat.succ_mul]; omega
          · rw [if_pos q, Rat.intCast_add]; grind
        · refine ⟨a, ?_, ?_⟩
          · rw [Nat.succ_mul]; omega
          · rw [if_neg q]; grind
    obtain ⟨a, ha, ea⟩ := sz m (Nat.le_refl _)
    refine ⟨a, ha, ?_⟩
    rw [e, ea]; 
    show (a : Rat) = (a : Rat) / ((1 : Int) : Rat)
    grind
  | succ d ih =>
    intro T B t hn hc
    by_cases hz : cnt m (fun k => ∀ i, i < m → B i ≠ B0 k) ≤ d
    · refine (ih T B t hn hz).mono ?_
      have : 1 ≤ bd (m * M) d := by
        clear ih hc hz
        induction d with
        | zero => exact hM
        | succ d ih2 => show 1 ≤ 2 * (bd (m * M) d * bd (m * M) d); have := Nat.mul_le_mul ih2 ih2; omega
      show bd (m * M) d ≤ 2 * (bd (m * M) d * bd (m * M) d)
      have := Nat.mul_le_mul (Nat.le_refl (bd (m * M) d)) this
      omega
    · obtain ⟨k0, hk0, hb⟩ := cnt_pos (m := m) (p := fun k => ∀ i, i < m → B i ≠ B0 k) (by omega)
      have hex : ∃ r, r < m ∧ T r (B0 k0) ≠ 0 ∧ ∀ k, k < m → B r ≠ B0 k := by
        refine Classical.byContradiction fun hh => ?_
        have e := expand (S := T0) t (fun z h => (hn z).mp h) hk0 (j := B0 k0) (by have := t0.lt k0 hk0; omega)
        rw [sm_nil] at e
        · rw [t0.id k0 k0 hk0 hk0] at e; simp at e
        · intro r hr
          by_cases q : T r (B0 k0) = 0
          · rw [q]; grind
          · have : ∃ k, k < m ∧ B r = B0 k := Classical.byContradiction fun h2 => hh ⟨r, hr, q, fun k hk e => h2 ⟨k, hk, e⟩⟩
            obtain ⟨k, hk, ek⟩ := this
            rw [ek, t0.id k0 k hk0 hk]
            have : k0 ≠ k := fun e => by subst e; exact hb r hr ek
            rw [if_neg this]; grind
      obtain ⟨r, hr, hp, hnb⟩ := hex
      have hc0 := t0.lt k0 hk0
      have t' := pv_tab t hr hc0 hp
      have hn' : ∀ z, Null m n (piv T r (B0 k0)) z ↔ Null m n T0 z := fun z => (pv_null hr hp z).trans (hn z)
      have lt : cnt m (fun k => ∀ i, i < m → pib B r (B0 k0) i ≠ B0 k) < cnt m (fun k => ∀ i, i < m → B i ≠ B0 k) := by
        refine cnt_lt (fun k hk h i hi e => ?_) hk0 (fun h => ?_) hb
        · by_cases q : i = r
          · subst q; exact hnb k hk e
          · refine h i hi ?_
            unfold pib; rw [if_neg q]; exact e
        · exact h r hr (by unfold pib; rw [if_pos rfl])
      have b' := ih _ _ t' hn' (by omega)
      have q1 : piv T r (B0 k0) r (B r) ≠ 0 := by
        unfold piv; rw [if_pos rfl, t.id r r hr hr, if_pos rfl]; grind
      exact (b'.piv hr (by have := t.lt r hr; omega) q1).congr fun i hi j _ => pv_back t hr hp hi
end BW

namespace BW

theorem Null.congr {m n : Nat} {T S : Mat} (e : ∀ i, i < m → ∀ j, j ≤ n → T i j = S i j) (z : Nat → Rat) : Null m n T z ↔ Null m n S z := by
  constructor <;> intro h i hi
  · rw [← h i hi]; exact sm_congr fun j hj => by rw [e i hi j (by omega)]
  · rw [← h i hi]; exact sm_congr fun j hj => by rw [e i hi j (by omega)]
theorem Tab.congr {m n : Nat} {T S : Mat} {B C : Nat → Nat} (t : Tab m n T B) (e : ∀ i, i < m → ∀ j, j ≤ n → S i j = T i j) (eb : ∀ i, i < m → C i = B i) : Tab m n S C :=
  ⟨fun i hi => by rw [eb i hi]; exact t.lt i hi, fun k i hk hi => by rw [eb i hi, e k hk _ (by have := t.lt i hi; omega)]; exact t.id k i hk hi⟩
theorem gn_congr {m n : Nat} {c : Nat → Rat} {T S : Mat} {B C : Nat → Nat} (e : ∀ i, i < m → ∀ j, j ≤ n → S i j = T i j) (eb : ∀ i, i < m → C i = B i) {j : Nat} (hj : j ≤ n) : gn m c S C j = gn m c T B j := by
  unfold gn
  congr 1
  exact sm_congr fun i hi => by rw [e i hi j hj, eb i hi]

def Feas (m n : Nat) (T : Mat) : Prop := ∀ i, i < m → 0 ≤ T i n

/-- one turn by R. Bland's rule -/
structure Stp (m n : Nat) (c : Nat → Rat) (T : Mat) (B : Nat → Nat) (T' : Mat) (B' : Nat → Nat) (r q : Nat) : Prop where
  hq : q < n
  gq : 0 < gn m c T B q
  gl : ∀ j, j < q → gn m c T B j ≤ 0
  hr : r < m
  pr : 0 < T r q
  rt : ∀ i, i < m → 0 < T i q → T r n / T r q < T i n / T i q ∨ (T r n / T r q = T i n / T i q ∧ B r ≤ B i)
  eT : ∀ i, i < m → ∀ j, j ≤ n → T' i j = piv T r q i j
  eB : ∀ i, i < m → B' i = pib B r q i

theorem div_le_mul {a x y : Rat} (hy : 0 < y) (h : a ≤ x / y) : y * a ≤ x := by
  have := Rat.mul_nonneg (a := y) (b := x / y - a) (by grind) (by grind)
  have e : y * (x / y - a) = x - y * a := by grind
  grind
theorem div_nonneg {x y : Rat} (hx : 0 ≤ x) (hy : 0 < y) : 0 ≤ x / y := by
  rw [Rat.div_def]
  exact Rat.mul_nonneg hx (Rat.le_of_lt (Rat.inv_pos.mpr hy))

theorem Stp.tab {m n c T B T' B' r q} (s : Stp m n c T B T' B' r q) (t : Tab m n T B) : Tab m n T' B' :=
  (pv_tab t s.hr s.hq (by have := s.pr; grind)).congr s.eT s.eB
theorem Stp.null {m n c T B T' B' r q} (s : Stp m n c T B T' B' r q) (z : Nat → Rat) : Null m n T' z ↔ Null m n T z :=
  (Null.congr s.eT z).trans (pv_null s.hr (by have := s.pr; grind) z)
theorem Stp.feas {m n c T B T' B' r q} (s : Stp m n c T B T' B' r q) (f : Feas m n T) : Feas m n T' := by
  intro i hi
  rw [s.eT i hi n (Nat.le_refl _)]
  have h0 := div_nonneg (f r s.hr) s.pr
  unfold piv
  by_cases e : i = r
  · rw [if_pos e]; exact h0
  · rw [if_neg e]
    by_cases p : 0 < T i q
    · have := s.rt i hi p
      have := div_le_mul (a := T r n / T r q) (x := T i n) p (by rcases this with h | ⟨h, _⟩ <;> grind)
      grind
    · have := Rat.mul_nonneg (a := - T i q) (b := T r n / T r q) (by grind) h0
      have := f i hi
      grind
/-- the sum of costs grows -/
theorem Stp.grow {m n c T B T' B' r q} (s : Stp m n c T B T' B' r q) (t : Tab m n T B) : gn m c T' B' n = gn m c T B n - gn m c T B q * (T r n / T r q) := by
  have e := gn_trans (c := c) (C := B) (s.tab t) (fun z h => (s.null z).mp h) (Nat.le_refl n)
  rw [e]
  congr 1
  rw [sm_one (k := r) s.hr]
  · rw [s.eB r s.hr, s.eT r s.hr n (Nat.le_refl _)]; unfold piv pib; simp
  · intro i hi hne
    rw [s.eB i hi]; unfold pib; rw [if_neg hne, gn_basic t hi]; grind

/-! ## a run of turns ends -/
structure Run (m n : Nat) (c : Nat → Rat) (N : Nat) (Ts : Nat → Mat) (Bs : Nat → Nat → Nat) (rs qs : Nat → Nat) : Prop where
  t0 : Tab m n (Ts 0) (Bs 0)
  f0 : Feas m n (Ts 0)
  st : ∀ k, k < N → Stp m n c (Ts k) (Bs k) (Ts (k + 1)) (Bs (k + 1)) (rs k) (qs k)
section
variable {m n N : Nat} {c : Nat → Rat} {Ts : Nat → Mat} {Bs : Nat → Nat → Nat} {rs qs : Nat → Nat}
theorem Run.tab (R : Run m n c N Ts Bs rs qs) : ∀ k, k ≤ N → Tab m n (Ts k) (Bs k)
  | 0, _ => R.t0
  | k + 1, h => (R.st k (by omega)).tab (R.tab k (by omega))
theorem Run.feas (R : Run m n c N Ts Bs rs qs) : ∀ k, k ≤ N → Feas m n (Ts k)
  | 0, _ => R.f0
  | k + 1, h => (R.st k (by omega)).feas (R.feas k (by omega))
theorem Run.null (R : Run m n c N Ts Bs rs qs) (z : Nat → Rat) : ∀ k, k ≤ N → (Null m n (Ts k) z ↔ Null m n (Ts 0) z)
  | 0, _ => Iff.rfl
  | k + 1, h => ((R.st k (by omega)).null z).trans (R.null z k (by omega))
theorem Run.th (R : Run m n c N Ts Bs rs qs) {k : Nat} (h : k < N) : 0 ≤ gn m c (Ts k) (Bs k) (qs k) * (Ts k (rs k) n / Ts k (rs k) (qs k)) := by
  have s := R.st k h
  exact Rat.mul_nonneg (Rat.le_of_lt s.gq) (div_nonneg (R.feas k (by omega) _ s.hr) s.pr)
theorem Run.mono (R : Run m n c N Ts Bs rs qs) {a : Nat} : ∀ b, a ≤ b → b ≤ N → gn m c (Ts b) (Bs b) n ≤ gn m c (Ts a) (Bs a) n := by
  intro b
  induction b with
  | zero => intro h _; have : a = 0 := by omega
            subst this; exact Rat.le_refl
  | succ b ih =>
    intro h hN
    by_cases e : a = b + 1
    · subst e; exact Rat.le_refl
    · have := ih (by omega) (by omega)
      have g := (R.st b (by omega)).grow (R.tab b (by omega))
      have := R.th (k := b) (by omega)
      grind

theorem up_at {p : Nat → Prop} {u : Nat} (hu : ¬ p u) : ∀ v, u ≤ v → p v → ∃ l, u ≤ l ∧ l < v ∧ ¬ p l ∧ p (l + 1) := by
  intro v
  induction v with
  | zero => intro h hv; have : u = 0 := by omega
            subst this; exact absurd hv hu
  | succ v ih =>
    intro h hv
    by_cases e : u = v + 1
    · subst e; exact absurd hv hu
    · by_cases q : p v
      · obtain ⟨l, h1, h2, h3⟩ := ih (by omega) q
        exact ⟨l, h1, by omega, h3⟩
      · exact ⟨v, by omega, by omega, q, hv⟩
theorem both_at {p : Nat → Prop} {a b u v : Nat} (hab : p a ↔ p b) (h1 : a ≤ u) (h2 : u ≤ b) (h3 : a ≤ v) (h4 : v ≤ b) (hu : p u) (hv : ¬ p v) :
    (∃ l, a ≤ l ∧ l < b ∧ ¬ p l ∧ p (l + 1)) ∧ (∃ l, a ≤ l ∧ l < b ∧ p l ∧ ¬ p (l + 1)) := by
  have dn : ∀ {u v}, p u → ¬ p v → u ≤ v → ∃ l, u ≤ l ∧ l < v ∧ p l ∧ ¬ p (l + 1) := by
    intro u v hu hv h
    obtain ⟨l, a1, a2, a3, a4⟩ := up_at (p := fun k => ¬ p k) (fun h => h hu) v h hv
    exact ⟨l, a1, a2, Classical.not_not.mp a3, a4⟩
  by_cases pa : p a
  · have pib := hab.mp pa
    obtain ⟨l, a1, a2, a3⟩ := up_at hv b h4 pib
    obtain ⟨k, b1, b2, b3⟩ := dn pa hv h3
    exact ⟨⟨l, by omega, a2, a3⟩, ⟨k, b1, by omega, b3⟩⟩
  · have pib : ¬ p b := fun h => pa (hab.mpr h)
    obtain ⟨l, a1, a2, a3⟩ := up_at pa u h1 hu
    obtain ⟨k, b1, b2, b3⟩ := dn hu pib h2
    exact ⟨⟨l, a1, by omega, a3⟩, ⟨k, by omega, b2, b3⟩⟩
theorem max_at {p : Nat → Prop} {n : Nat} (hb : ∀ j, p j → j < n) {j0 : Nat} (h0 : p j0) : ∃ j, p j ∧ ∀ i, p i → i ≤ j := by
  induction n with
  | zero => exact absurd (hb j0 h0) (by omega)
  | succ n ih =>
    by_cases e : p n
    · exact ⟨n, e, fun i hi => by have := hb i hi; omega⟩
    · refine ih fun j hj => ?_
      have := hb j hj
      by_cases q : j = n
      · subst q; exact absurd hj e
      · omega

/-- no basis comes again (R. Bland) -/
theorem Run.nocycle (R : Run m n c N Ts Bs rs qs) {a b : Nat} (hab : a < b) (hb : b ≤ N) (eB : ∀ i, i < m → Bs a i = Bs b i) : False := by
  -- the tables are the same
  have eT : ∀ i, i < m → ∀ j, j ≤ n → Ts a i j = Ts b i j := by
    intro i hi j hj
    have e := expand (S := Ts a) (R.tab b hb) (fun z h => (R.null z a (by omega)).mpr ((R.null z b hb).mp h)) hi hj
    rw [e, sm_one (k := i) hi]
    · rw [← eB i hi, (R.tab a (by omega)).id i i hi hi]; simp
    · intro k hk hne
      rw [← eB k hk, (R.tab a (by omega)).id i k hi hk, if_neg (Ne.symm hne)]; grind
  have eG : gn m c (Ts a) (Bs a) n = gn m c (Ts b) (Bs b) n := gn_congr eT eB (Nat.le_refl _)
  -- no turn moves
  have th0 : ∀ k, a ≤ k → k < b → Ts k (rs k) n = 0 := by
    intro k h1 h2
    have s := R.st k (by omega)
    have g := s.grow (R.tab k (by omega))
    have m1 := R.mono k h1 (by omega)
    have m2 := R.mono (a := k + 1) b (by omega) hb
    have z : gn m c (Ts k) (Bs k) (qs k) * (Ts k (rs k) n / Ts k (rs k) (qs k)) = 0 := by
      have := R.th (k := k) (by omega); grind
    have g0 := s.gq
    have p0 := s.pr
    grind
  have col : ∀ k, a ≤ k → k ≤ b → ∀ i, i < m → Ts k i n = Ts a i n := by
    intro k
    induction k with
    | zero => intro h1 h2 i hi; have : a = 0 := by omega
              subst this; rfl
    | succ k ih =>
      intro h1 h2 i hi
      by_cases e : a = k + 1
      · subst e; rfl
      · have i1 := ih (by omega) (by omega) i hi
        have s := R.st k (by omega)
        have t0 := th0 k (by omega) (by omega)
        rw [s.eT i hi n (Nat.le_refl _)]
        unfold piv
        rw [t0]
        by_cases q : i = rs k
        · subst q; rw [if_pos rfl, ← i1, t0]; grind
        · rw [if_neg q, i1]; grind
  -- what stands in the basis by turns
  let In : Nat → Nat → Prop := fun j k => ∃ i, i < m ∧ Bs k i = j
  have up : ∀ j k, k < b → ¬ In j k → In j (k + 1) → qs k = j := by
    intro j k hk h1 h2
    obtain ⟨i, hi, e⟩ := h2
    rw [(R.st k (by omega)).eB i hi] at e
    unfold pib at e
    by_cases q : i = rs k
    · rw [if_pos q] at e; exact e
    · rw [if_neg q] at e; exact absurd ⟨i, hi, e⟩ h1
  have dn : ∀ j k, k < b → In j k → ¬ In j (k + 1) → Bs k (rs k) = j := by
    intro j k hk h1 h2
    obtain ⟨i, hi, e⟩ := h1
    by_cases q : i = rs k
    · subst q; exact e
    · refine absurd ⟨i, hi, ?_⟩ h2
      rw [(R.st k (by omega)).eB i hi]; unfold pib; rw [if_neg q]; exact e
  have ent : ∀ k, k < b → In (qs k) (k + 1) ∧ ¬ In (qs k) k := by
    intro k hk
    have s := R.st k (by omega)
    refine ⟨⟨rs k, s.hr, ?_⟩, fun ⟨i, hi, e⟩ => ?_⟩
    · rw [s.eB _ s.hr]; unfold pib; rw [if_pos rfl]
    · have := gn_basic (c := c) (R.tab k (by omega)) hi
      rw [e] at this
      have := s.gq
      grind
  have InB : ∀ j k, k ≤ b → In j k → j < n := by
    intro j k hk ⟨i, hi, e⟩
    have := (R.tab k (by omega)).lt i hi
    omega
  have sameAB : ∀ j, In j a ↔ In j b := fun j =>
    ⟨fun ⟨i, hi, e⟩ => ⟨i, hi, by rw [← eB i hi]; exact e⟩, fun ⟨i, hi, e⟩ => ⟨i, hi, by rw [eB i hi]; exact e⟩⟩
  let Fk : Nat → Prop := fun j => (∃ u, a ≤ u ∧ u ≤ b ∧ In j u) ∧ ∃ v, a ≤ v ∧ v ≤ b ∧ ¬ In j v
  have z0 : ∀ j, Fk j → ∀ k, a ≤ k → k ≤ b → ∀ i, i < m → Bs k i = j → Ts k i n = 0 := by
    intro j hf k h1 h2 i hi e
    rw [col k h1 h2 i hi]
    refine Classical.byContradiction fun hne => ?_
    have stay : ∀ l, a ≤ l → l ≤ b → Bs l i = Bs a i := by
      intro l
      induction l with
      | zero => intro h1 h2; have : a = 0 := by omega
                subst this; rfl
      | succ l ih =>
        intro h1 h2
        by_cases e : a = l + 1
        · subst e; rfl
        · have i1 := ih (by omega) (by omega)
          have s := R.st l (by omega)
          rw [s.eB i hi]; unfold pib
          by_cases q : i = rs l
          · subst q
            have := th0 l (by omega) (by omega)
            rw [col l (by omega) (by omega) _ hi] at this
            exact absurd this hne
          · rw [if_neg q]; exact i1
    obtain ⟨v, v1, v2, v3⟩ := hf.2
    exact v3 ⟨i, hi, by rw [stay v v1 v2, ← stay k h1 h2]; exact e⟩
  -- the greatest that comes and goes
  have f0 : Fk (qs a) := ⟨⟨a + 1, by omega, by omega, (ent a hab).1⟩, ⟨a, by omega, by omega, (ent a hab).2⟩⟩
  obtain ⟨q, hq, hmax⟩ := max_at (p := Fk) (n := n) (fun j hj => by obtain ⟨⟨u, _, h2, h3⟩, _⟩ := hj; exact InB j u h2 h3) f0
  obtain ⟨⟨u, u1, u2, u3⟩, ⟨v, v1, v2, v3⟩⟩ := id hq
  obtain ⟨⟨l, l1, l2, l3, l4⟩, ⟨k, k1, k2, k3, k4⟩⟩ := both_at (p := In q) (sameAB q) u1 u2 v1 v2 u3 v3
  have eq := up q l l2 l3 l4
  have ek := dn q k k2 k3 k4
  have sl := R.st l (by omega)
  have sk := R.st k (by omega)
  -- the column that enters where q leaves
  have g1 := gn_trans (c := c) (S := Ts l) (C := Bs l) (R.tab k (by omega)) (fun z h => (R.null z l (by omega)).mpr ((R.null z k (by omega)).mp h)) (j := qs k) (by have := sk.hq; omega)
  have fs : Fk (qs k) := ⟨⟨k + 1, by omega, by omega, (ent k k2).1⟩, ⟨k, by omega, by omega, (ent k k2).2⟩⟩
  have sq : qs k ≠ q := fun e => (ent k k2).2 (by rw [e]; exact k3)
  have slt : qs k < q := by have := hmax _ fs; omega
  have h1 : gn m c (Ts l) (Bs l) (qs k) ≤ 0 := sl.gl _ (by rw [eq]; exact slt)
  have h2 : 0 ≤ sm m (fun i => gn m c (Ts l) (Bs l) (Bs k i) * Ts k i (qs k)) := by
    refine sm_nonneg fun i hi => ?_
    by_cases hf : Fk (Bs k i)
    · have le := hmax _ hf
      by_cases e : Bs k i = q
      · have : i = rs k := (R.tab k (by omega)).inj hi sk.hr (by rw [e, ek])
        subst this
        rw [e, ← eq]
        exact Rat.mul_nonneg (Rat.le_of_lt sl.gq) (Rat.le_of_lt sk.pr)
      · have lt : Bs k i < q := by omega
        have gle : gn m c (Ts l) (Bs l) (Bs k i) ≤ 0 := sl.gl _ (by rw [eq]; exact lt)
        have tle : Ts k i (qs k) ≤ 0 := by
          refine Classical.byContradiction fun hp => ?_
          have hp : 0 < Ts k i (qs k) := by grind
          have rt := sk.rt i hi hp
          rw [th0 k k1 k2, z0 _ hf k k1 (by omega) i hi rfl, ek] at rt
          have e1 : (0 : Rat) / Ts k (rs k) (qs k) = 0 := by grind
          have e2 : (0 : Rat) / Ts k i (qs k) = 0 := by grind
          rw [e1, e2] at rt
          rcases rt with rt | ⟨_, rt⟩
          · grind
          · omega
        have := Rat.mul_nonneg (a := - gn m c (Ts l) (Bs l) (Bs k i)) (b := - Ts k i (qs k)) (by grind) (by grind)
        grind
    · have : In (Bs k i) l := by
        exact Classical.byContradiction fun out => hf ⟨⟨k, k1, by omega, i, hi, rfl⟩, ⟨l, l1, by omega, out⟩⟩
      obtain ⟨i', hi', e'⟩ := this
      rw [← e', gn_basic (R.tab l (by omega)) hi']
      grind
  have := sk.gq
  grind
end

/-! ## so many turns at most -/
theorem pigeon : ∀ (N : Nat) (f : Nat → Nat), (∀ i, i ≤ N → f i < N) → ∃ i j, i < j ∧ j ≤ N ∧ f i = f j := by
  intro N
  induction N with
  | zero => intro f h; exact absurd (h 0 (by omega)) (by omega)
  | succ N ih =>
    intro f h
    by_cases hc : ∃ i, i ≤ N ∧ f i = f (N + 1)
    · obtain ⟨i, hi, e⟩ := hc
      exact ⟨i, N + 1, by omega, by omega, e⟩
    · -- the value of the last one is taken by none: swap it with N
      let g : Nat → Nat := fun i => if f i = N then f (N + 1) else f i
      have hg : ∀ i, i ≤ N → g i < N := by
        intro i hi
        have h1 := h i (by omega)
        have h2 := h (N + 1) (by omega)
        have h3 : f i ≠ f (N + 1) := fun e => hc ⟨i, hi, e⟩
        show (if f i = N then f (N + 1) else f i) < N
        split
        · next e => omega
        · omega
      obtain ⟨i, j, hij, hj, e⟩ := ih g hg
      refine ⟨i, j, hij, by omega, ?_⟩
      have e' : (if f i = N then f (N + 1) else f i) = if f j = N then f (N + 1) else f j := e
      have h3 : f i ≠ f (N + 1) := fun e => hc ⟨i, by omega, e⟩
      have h4 : f j ≠ f (N + 1) := fun e => hc ⟨j, by omega, e⟩
      split at e' <;> split at e' <;> omega
def enc (n : Nat) (B : Nat → Nat) : Nat → Nat
  | 0 => 0
  | m + 1 => enc n B m * n + B m
theorem enc_lt {n : Nat} {B : Nat → Nat} : ∀ m, (∀ i, i < m → B i < n) → enc n B m < n ^ m
  | 0, _ => by simp [enc]
  | m + 1, h => by
    have ih := enc_lt m (fun i hi => h i (by omega))
    have := h m (by omega)
    unfold enc
    have h2 : (enc n B m + 1) * n ≤ n ^ m * n := Nat.mul_le_mul_right n ih
    rw [Nat.pow_succ]
    rw [Nat.succ_mul] at h2
    omega
theorem enc_inj {n : Nat} {B C : Nat → Nat} : ∀ m, (∀ i, i < m → B i < n) → (∀ i, i < m → C i < n) → enc n B m = enc n C m → ∀ i, i < m → B i = C i
  | 0, _, _, _, i, hi => by omega
  | m + 1, h1, h2, e, i, hi => by
    have b := h1 m (by omega)
    have c := h2 m (by omega)
    unfold enc at e
    have e1 : B m = C m := by
      have := congrArg (· % n) e
      simp only [Nat.mul_comm _ n, Nat.mul_add_mod] at this
      rwa [Nat.mod_eq_of_lt b, Nat.mod_eq_of_lt c] at this
    have e2 : enc n B m = enc n C m := by
      have hn : 0 < n := by omega
      have : enc n B m * n = enc n C m * n := by omega
      exact Nat.eq_of_mul_eq_mul_right hn this
    by_cases q : i = m
    · subst q; exact e1
    · exact enc_inj m (fun i hi => h1 i (by omega)) (fun i hi => h2 i (by omega)) e2 i (by omega)
theorem Run.short {m n N : Nat} {c : Nat → Rat} {Ts : Nat → Mat} {Bs : Nat → Nat → Nat} {rs qs : Nat → Nat} (R : Run m n c N Ts Bs rs qs) : N < n ^ m := by
  refine Classical.byContradiction fun h => ?_
  obtain ⟨i, j, hij, hj, e⟩ := pigeon (n ^ m) (fun k => enc n (Bs k) m) (fun k hk => enc_lt m fun i hi => (R.tab k (by omega)).lt i hi)
  exact R.nocycle hij (by omega) (enc_inj m (fun a ha => (R.tab i (by omega)).lt a ha) (fun a ha => (R.tab j (by omega)).lt a ha) e)
/-- a run, one turn more -/
theorem Run.snoc {m n N : Nat} {c : Nat → Rat} {Ts : Nat → Mat} {Bs : Nat → Nat → Nat} {rs qs : Nat → Nat} (R : Run m n c N Ts Bs rs qs) {T' : Mat} {B' : Nat → Nat} {r q : Nat} (s : Stp m n c (Ts N) (Bs N) T' B' r q) :
    ∃ Ts' Bs' rs' qs', Run m n c (N + 1) Ts' Bs' rs' qs' ∧ Ts' 0 = Ts 0 ∧ Ts' (N + 1) = T' ∧ Bs' (N + 1) = B' := by
  refine ⟨fun k => if k ≤ N then Ts k else T', fun k => if k ≤ N then Bs k else B', fun k => if k < N then rs k else r, fun k => if k < N then qs k else q, ⟨?_, ?_, fun k hk => ?_⟩, ?_, ?_, ?_⟩
  · simpa using R.t0
  · simpa using R.f0
  · by_cases e : k < N
    · have h1 : k ≤ N := by omega
      have h2 : k + 1 ≤ N := by omega
      simp only [if_pos e, if_pos h1, if_pos h2]
      exact R.st k e
    · have : k = N := by omega
      subst this
      have h2 : ¬ k + 1 ≤ k := by omega
      simp only [if_neg e, if_neg h2, if_pos (Nat.le_refl k)]
      exact s
  · simp
  · have h2 : ¬ N + 1 ≤ N := by omega
    simp only [if_neg h2]
  · have h2 : ¬ N + 1 ≤ N := by omega
    simp only [if_neg h2]
end BW

namespace BW

theorem sm_split {a b : Nat} {f : Nat → Rat} : sm (a + b) f = sm a f + sm b (fun i => f (a + i)) := by
  induction b with
  | zero => simp only [Nat.add_zero, sm_zero]; grind
  | succ b ih => rw [← Nat.add_assoc, sm_succ, ih, sm_succ]; grind
/-- one of the basis -/
theorem gn_pos_nb {m n : Nat} {c : Nat → Rat} {T : Mat} {B : Nat → Nat} {q : Nat} (t : Tab m n T B) (g : 0 < gn m c T B q) : ∀ k, k < m → q ≠ B k := by
  intro k hk e
  have := gn_basic (c := c) t hk
  rw [← e] at this; grind
/-- the direction in which column q grows -/
theorem dirv_nonneg {m n : Nat} {T : Mat} {B : Nat → Nat} {q : Nat} (nb : ∀ k, k < m → q ≠ B k) (h : ∀ i, i < m → T i q ≤ 0) (l : Nat) : 0 ≤ dirv m T B q l := by
  unfold dirv
  by_cases e : l = q
  · subst e
    rw [if_pos rfl, sm_nil (fun k hk => if_neg (nb k hk))]; grind
  · rw [if_neg e]
    have := sm_nonpos (n := m) (f := fun k => if l = B k then T k q else 0) fun k hk => by
      show (if l = B k then T k q else 0) ≤ 0
      split
      · exact h k hk
      · exact Rat.le_refl
    grind
/-- costs that are none above 0 have a bound -/
theorem bounded_of_neg {m n : Nat} {c : Nat → Rat} {T : Mat} {B : Nat → Nat} {q : Nat} (t : Tab m n T B) (hq : q < n) (g : 0 < gn m c T B q) (h : ∀ i, i < m → T i q ≤ 0) (hc : ∀ j, j ≤ n → c j ≤ 0) : False := by
  have e := form_dir (j := q) t (by omega) c
  have nn := dirv_nonneg (n := n) (gn_pos_nb t g) h
  have le := sm_nonpos (n := n + 1) (f := fun l => c l * dirv m T B q l) fun l hl => by
    have := Rat.mul_nonneg (a := - c l) (b := dirv m T B q l) (by have := hc l (by omega); grind) (nn l)
    grind
  rw [e] at le
  unfold gn at g
  grind

/-! ## how small -/
theorem bd_mono {M M' : Nat} (h : M ≤ M') : ∀ d, bd M d ≤ bd M' d
  | 0 => h
  | d + 1 => by
    show 2 * (bd M d * bd M d) ≤ 2 * (bd M' d * bd M' d)
    exact Nat.mul_le_mul_left 2 (Nat.mul_le_mul (bd_mono h d) (bd_mono h d))
theorem bd_up {M : Nat} (h : 1 ≤ M) : ∀ d, 1 ≤ bd M d ∧ bd M d ≤ bd M (d + 1)
  | 0 => ⟨h, by show M ≤ 2 * (M * M); have := Nat.mul_le_mul h (Nat.le_refl M); omega⟩
  | d + 1 => by
    have ih := bd_up h d
    have h1 : 1 ≤ bd M (d + 1) := Nat.le_trans ih.1 ih.2
    refine ⟨h1, ?_⟩
    show bd M (d + 1) ≤ 2 * (bd M (d + 1) * bd M (d + 1))
    have := Nat.mul_le_mul h1 (Nat.le_refl (bd M (d + 1))); omega
theorem bd_le {M d d' : Nat} (h : 1 ≤ M) (l : d ≤ d') : bd M d ≤ bd M d' := by
  induction d' with
  | zero => have : d = 0 := by omega
            subst this; exact Nat.le_refl _
  | succ d' ih =>
    by_cases e : d = d' + 1
    · subst e; exact Nat.le_refl _
    · exact Nat.le_trans (ih (by omega)) (bd_up h d').2
theorem bd_num : bd 60 5 < 2 ^ 230 := by decide +kernel
/-- all tables with the null vectors of T0 have parts below 2 ^ 230 -/
theorem small_of {m n : Nat} {T0 : Mat} {B0 : Nat → Nat} (t0 : Tab m n T0 B0) (h0 : ∀ j, j ≤ n → ∀ k, k < m → ∃ a : Int, a.natAbs ≤ 12 ∧ T0 k j = a) (h1 : 1 ≤ m) (h5 : m ≤ 5) (T : Mat) (B : Nat → Nat) (t : Tab m n T B) (hn : ∀ z, Null m n T z ↔ Null m n T0 z) :
    ∃ D : Int, D ≠ 0 ∧ D.natAbs < 2 ^ 230 ∧ ∀ i, i < m → ∀ j, j ≤ n → ∃ a : Int, a.natAbs < 2 ^ 230 ∧ T i j = (a : Rat) / (D : Rat) := by
  obtain ⟨D, d0, d1, d2⟩ := reach_bd t0 h0 (by omega) m T B t hn cnt_top
  have lt : bd (m * 12) m < 2 ^ 230 := Nat.lt_of_le_of_lt (Nat.le_trans (bd_mono (by omega : m * 12 ≤ 60) m) (bd_le (by decide) h5)) bd_num
  refine ⟨D, d0, by omega, fun i hi j hj => ?_⟩
  obtain ⟨a, ha, e⟩ := d2 i hi j hj
  exact ⟨a, by omega, e⟩

/-! ## the two phases -/
section
variable (h : Nat) (R : Nat → Nat → Int) (g : Nat → Int)
/-- the rows with what is left, the goal behind -/
def wideM (R : Nat → Nat → Int) : Mat := fun i j => if j < 2 then ((R i j : Int) : Rat) else if j = 2 + i then 1 else 0
def ref2 : Mat := fun i j => if j < 2 + h then wideM R i j else (g i : Rat)
def sg (g : Nat → Int) (i : Nat) : Rat := if g i < 0 then -1 else 1
/-- the first table of the first phase -/
def ref1 : Mat := fun i j => if j < 2 + h then sg g i * wideM R i j else if j < 2 + h + h then (if j = 2 + h + i then 1 else 0) else sg g i * (g i : Rat)
def bas1 : Nat → Nat := fun i => 2 + h + i
def bas2 : Nat → Nat := fun i => 2 + i
def cost1 : Nat → Rat := fun j => if j < 2 + h then 0 else -1
end
section
variable {h : Nat} {R : Nat → Nat → Int} {g : Nat → Int}
theorem sg_sq (i : Nat) : sg g i * sg g i = 1 := by unfold sg; split <;> grind
theorem sg_ne (i : Nat) : sg g i ≠ 0 := by unfold sg; split <;> grind
theorem sg_abs (i : Nat) : 0 ≤ sg g i * (g i : Rat) := by
  unfold sg
  split
  · rename_i q
    have : (g i : Rat) ≤ ((0 : Int) : Rat) := Rat.intCast_le_intCast.mpr (by omega)
    have e : ((0 : Int) : Rat) = 0 := rfl
    grind
  · rename_i q
    have : ((0 : Int) : Rat) ≤ (g i : Rat) := Rat.intCast_le_intCast.mpr (by omega)
    have e : ((0 : Int) : Rat) = 0 := rfl
    grind
theorem tab_ref2 : Tab h (2 + h) (ref2 h R g) bas2 := by
  refine ⟨fun i hi => by unfold bas2; omega, fun k i hk hi => ?_⟩
  unfold ref2 bas2 wideM
  rw [if_pos (by omega), if_neg (by omega)]
  by_cases e : k = i
  · rw [if_pos e, if_pos (by omega)]
  · rw [if_neg e, if_neg (by omega)]
theorem tab_ref1 : Tab h (2 + h + h) (ref1 h R g) (bas1 h) := by
  refine ⟨fun i hi => by unfold bas1; omega, fun k i hk hi => ?_⟩
  unfold ref1 bas1
  rw [if_neg (by omega), if_pos (by omega)]
  by_cases e : k = i
  · rw [if_pos e, if_pos (by omega)]
  · rw [if_neg e, if_neg (by omega)]
theorem feas_ref1 : Feas h (2 + h + h) (ref1 h R g) := by
  intro i hi
  unfold ref1; rw [if_neg (by omega), if_neg (by omega)]
  exact sg_abs i
/-- a number put in is what is left, with the row's sign -/
theorem art_col {T : Mat} (hn : ∀ z, Null h (2 + h + h) (ref1 h R g) z → Null h (2 + h + h) T z) {i k : Nat} (hi : i < h) (hk : k < h) : T i (2 + h + k) = sg g k * T i (2 + k) := by
  have e := expand (S := T) tab_ref1 hn hi (j := 2 + k) (by omega)
  rw [sm_one (k := k) hk] at e
  · have e2 : ref1 h R g k (2 + k) = sg g k := by
      unfold ref1 wideM
      rw [if_pos (by omega), if_neg (by omega), if_pos rfl]; grind
    rw [e2] at e
    have := sg_sq (g := g) k
    unfold bas1 at e
    rw [e]; grind
  · intro l hl hne
    have e2 : ref1 h R g l (2 + k) = 0 := by
      unfold ref1 wideM
      rw [if_pos (by omega), if_neg (by omega), if_neg (by omega)]; grind
    rw [e2]; grind
theorem row_some {T : Mat} {B : Nat → Nat} (t : Tab h (2 + h + h) T B) (hn : ∀ z, Null h (2 + h + h) (ref1 h R g) z → Null h (2 + h + h) T z) {r : Nat} (hr : r < h) : ∃ c, c < 2 + h ∧ T r c ≠ 0 := by
  refine Classical.byContradiction fun hh => ?_
  have z : ∀ c, c < 2 + h → T r c = 0 := fun c hc => Classical.byContradiction fun q => hh ⟨c, hc, q⟩
  have e1 := t.id r r hr hr
  rw [if_pos rfl] at e1
  have bl := t.lt r hr
  by_cases q : B r < 2 + h
  · rw [z _ q] at e1; grind
  · have e2 := art_col hn hr (k := B r - (2 + h)) (by omega)
    rw [show 2 + h + (B r - (2 + h)) = B r by omega, e1, z _ (by omega)] at e2
    grind
/-- a vector, the numbers put in 0 -/
def ext0 (h : Nat) (z : Nat → Rat) : Nat → Rat := fun j => if j < 2 + h then z j else if j < 2 + h + h then 0 else z (2 + h)
/-- the columns of the numbers put in dropped -/
def cut0 (h : Nat) (T : Mat) : Mat := fun i j => if j < 2 + h then T i j else T i (2 + h + h)
theorem cut_sum {T : Mat} {z : Nat → Rat} (i : Nat) : sm (2 + h + h + 1) (fun j => T i j * ext0 h z j) = sm (2 + h + 1) (fun j => cut0 h T i j * z j) := by
  rw [sm_succ, sm_split, sm_succ]
  have e1 : sm (2 + h) (fun j => T i j * ext0 h z j) = sm (2 + h) (fun j => cut0 h T i j * z j) := sm_congr fun j hj => by
    unfold ext0 cut0; rw [if_pos hj, if_pos hj]
  have e2 : sm h (fun k => T i (2 + h + k) * ext0 h z (2 + h + k)) = 0 := sm_nil fun k hk => by
    unfold ext0; rw [if_neg (by omega), if_pos (by omega)]; grind
  have e3 : ext0 h z (2 + h + h) = z (2 + h) := by unfold ext0; rw [if_neg (by omega), if_neg (by omega)]
  have e4 : cut0 h T i (2 + h) = T i (2 + h + h) := by unfold cut0; rw [if_neg (by omega)]
  rw [e1, e2, e3, e4]; grind
theorem cut_null {T : Mat} {z : Nat → Rat} : Null h (2 + h + h) T (ext0 h z) ↔ Null h (2 + h) (cut0 h T) z := by
  constructor
  · intro q i hi; rw [← cut_sum]; exact q i hi
  · intro q i hi; rw [cut_sum]; exact q i hi
theorem ref_null {z : Nat → Rat} : Null h (2 + h + h) (ref1 h R g) (ext0 h z) ↔ Null h (2 + h) (ref2 h R g) z := by
  have e : ∀ i, sm (2 + h + 1) (fun j => cut0 h (ref1 h R g) i j * z j) = sg g i * sm (2 + h + 1) (fun j => ref2 h R g i j * z j) := by
    intro i
    rw [← sm_mul]
    refine sm_congr fun j hj => ?_
    unfold cut0 ref1 ref2
    by_cases q : j < 2 + h
    · rw [if_pos q, if_pos q, if_pos q]; grind
    · rw [if_neg q, if_neg (by omega), if_neg (by omega), if_neg q]; grind
  rw [cut_null]
  constructor
  · intro q i hi
    have := q i hi
    rw [e i] at this
    have := sg_ne (g := g) i
    grind
  · intro q i hi
    rw [e i, q i hi]; grind
/-- what the first phase hands on -/
theorem cut_ok {T : Mat} {B : Nat → Nat} (t : Tab h (2 + h + h) T B) (hn : ∀ z, Null h (2 + h + h) T z ↔ Null h (2 + h + h) (ref1 h R g) z) (hB : ∀ i, i < h → B i < 2 + h) : Tab h (2 + h) (cut0 h T) B ∧ ∀ z, Null h (2 + h) (cut0 h T) z ↔ Null h (2 + h) (ref2 h R g) z := by
  refine ⟨⟨hB, fun k i hk hi => ?_⟩, fun z => ?_⟩
  · unfold cut0; rw [if_pos (hB i hi)]; exact t.id k i hk hi
  · rw [← cut_null, hn, ref_null]
/-- a program without numbers -/
def NoSol (h : Nat) (R : Nat → Nat → Int) (g : Nat → Int) : Prop := ∀ z : Nat → Rat, Null h (2 + h) (ref2 h R g) z → z (2 + h) = -1 → (∀ j, j < 2 + h → 0 ≤ z j) → False
theorem none_ok {T : Mat} {B : Nat → Nat} (t : Tab h (2 + h + h) T B) (f : Feas h (2 + h + h) T) (hn : ∀ z, Null h (2 + h + h) T z ↔ Null h (2 + h + h) (ref1 h R g) z) (hg : ∀ j, j < 2 + h + h → gn h (cost1 h) T B j ≤ 0)
    {i : Nat} (hi : i < h) (hB : 2 + h ≤ B i) (hT : T i (2 + h + h) ≠ 0) : NoSol h R g := by
  intro z hz hw hp
  have hz' := (hn _).mpr (ref_null.mpr hz)
  have e := gn_null (c := cost1 h) (B := B) hz'
  -- the costs are 0 there
  have e1 : sm (2 + h + h) (fun j => cost1 h j * ext0 h z j) = 0 := by
    refine sm_nil fun j hj => ?_
    unfold cost1 ext0
    by_cases q : j < 2 + h
    · rw [if_pos q]; grind
    · rw [if_neg q, if_neg q, if_pos hj]; grind
  have e2 : sm (2 + h + h) (fun j => gn h (cost1 h) T B j * ext0 h z j) ≤ 0 := by
    refine sm_nonpos fun j hj => ?_
    have a := hg j hj
    have b : 0 ≤ ext0 h z j := by
      unfold ext0
      by_cases q : j < 2 + h
      · rw [if_pos q]; exact hp j q
      · rw [if_neg q, if_pos hj]; exact Rat.le_refl
    have := Rat.mul_nonneg (a := - gn h (cost1 h) T B j) (b := ext0 h z j) (by grind) b
    grind
  have e3 : ext0 h z (2 + h + h) = -1 := by unfold ext0; rw [if_neg (by omega), if_neg (by omega), hw]
  rw [sm_succ, sm_succ, e1, e3] at e
  have e4 : gn h (cost1 h) T B (2 + h + h) = -1 - sm h (fun k => cost1 h (B k) * T k (2 + h + h)) := by
    unfold gn; congr 1; unfold cost1; rw [if_neg (by omega)]
  have e5 : cost1 h (2 + h + h) = -1 := by unfold cost1; rw [if_neg (by omega)]
  have e6 : 0 < sm h (fun k => - (cost1 h (B k) * T k (2 + h + h))) := by
    refine sm_pos_of hi (fun k hk => ?_) ?_
    · unfold cost1
      have := f k hk
      split <;> grind
    · show 0 < - (cost1 h (B i) * T i (2 + h + h))
      unfold cost1; rw [if_neg (by omega)]
      have := f i hi; grind
  have e7 : sm h (fun k => - (cost1 h (B k) * T k (2 + h + h))) = - sm h (fun k => cost1 h (B k) * T k (2 + h + h)) := by
    have : (fun k => - (cost1 h (B k) * T k (2 + h + h))) = fun k => (-1 : Rat) * (cost1 h (B k) * T k (2 + h + h)) := by funext k; grind
    rw [this, sm_mul]; grind
  rw [e4, e5] at e
  grind
end
end BW

namespace BW

/-! ## rays in the plane -/
theorem ray {n : Nat} {s v : Nat → Rat} (hs : ∀ i, i < n → 0 ≤ s i) (hv : ∃ i, i < n ∧ 0 < v i) :
    ∃ t : Rat, 0 ≤ t ∧ (∀ i, i < n → t * v i ≤ s i) ∧ ∃ i, i < n ∧ 0 < v i ∧ t * v i = s i := by
  induction n with
  | zero => obtain ⟨i, hi, _⟩ := hv; omega
  | succ n ih =>
    by_cases ex : ∃ i, i < n ∧ 0 < v i
    · obtain ⟨t, t0, ht, i, hi, vi, e⟩ := ih (fun i hi => hs i (by omega)) ex
      by_cases q : t * v n ≤ s n
      · refine ⟨t, t0, fun k hk => ?_, i, by omega, vi, e⟩
        by_cases kn : k = n
        · subst kn; exact q
        · exact ht k (by omega)
      · have sn := hs n (by omega)
        have vn : 0 < v n := by
          refine Rat.not_le.mp fun hle => q ?_
          have := Rat.mul_nonneg (a := t) (b := - v n) t0 (by grind)
          grind
        have u0 : 0 ≤ s n / v n := div_nonneg sn vn
        have ue : s n / v n * v n = s n := Rat.div_mul_cancel (by grind)
        have ut : s n / v n ≤ t := by
          refine Rat.not_lt.mp fun hlt => q ?_
          have := Rat.mul_nonneg (a := s n / v n - t) (b := v n) (by grind) (by grind)
          grind
        refine ⟨s n / v n, u0, fun k hk => ?_, n, by omega, vn, ue⟩
        by_cases kn : k = n
        · subst kn; rw [ue]; exact Rat.le_refl
        · have hk2 := ht k (by omega)
          have sk := hs k (by omega)
          by_cases vk : 0 ≤ v k
          · have := Rat.mul_nonneg (a := t - s n / v n) (b := v k) (by grind) vk
            grind
          · have := Rat.mul_nonneg (a := s n / v n) (b := - v k) u0 (by grind)
            grind
    · have vn : 0 < v n := by
        obtain ⟨i, hi, vi⟩ := hv
        by_cases e : i = n
        · subst e; exact vi
        · exact absurd ⟨i, by omega, vi⟩ ex
      have sn := hs n (by omega)
      have u0 : 0 ≤ s n / v n := div_nonneg sn vn
      have ue : s n / v n * v n = s n := Rat.div_mul_cancel (by grind)
      refine ⟨s n / v n, u0, fun k hk => ?_, n, by omega, vn, ue⟩
      by_cases kn : k = n
      · subst kn; rw [ue]; exact Rat.le_refl
      · have vk : ¬ 0 < v k := fun q => ex ⟨k, by omega, q⟩
        have sk := hs k (by omega)
        have := Rat.mul_nonneg (a := s n / v n) (b := - v k) u0 (by grind)
        grind

section
variable {n : Nat} {a b c : Nat → Int}
/-- within all sides -/
def In (n : Nat) (a b c : Nat → Int) (x y : Rat) : Prop := ∀ i, i < n → (a i : Rat) * x + (b i : Rat) * y ≤ (c i : Rat)
theorem shoot {x y : Rat} (h : In n a b c x y) (d e : Rat) (hv : ∃ i, i < n ∧ 0 < (a i : Rat) * d + (b i : Rat) * e) :
    ∃ t : Rat, 0 ≤ t ∧ In n a b c (x + t * d) (y + t * e) ∧ ∃ i, i < n ∧ 0 < (a i : Rat) * d + (b i : Rat) * e ∧ (a i : Rat) * (x + t * d) + (b i : Rat) * (y + t * e) = (c i : Rat) := by
  obtain ⟨t, t0, ht, i, hi, vi, e1⟩ := ray (n := n) (s := fun i => (c i : Rat) - ((a i : Rat) * x + (b i : Rat) * y)) (v := fun i => (a i : Rat) * d + (b i : Rat) * e) (fun i hi => by have := h i hi; grind) hv
  exact ⟨t, t0, fun k hk => by have := ht k hk; grind, i, hi, vi, by grind⟩
/-- no direction leads out of all sides -/
def Shut (n : Nat) (a b : Nat → Int) : Prop := ∀ d e : Rat, (d ≠ 0 ∨ e ≠ 0) → ∃ i, i < n ∧ 0 < (a i : Rat) * d + (b i : Rat) * e
theorem sq_nn (x : Rat) : 0 ≤ x * x := by
  by_cases h : 0 ≤ x
  · exact Rat.mul_nonneg h h
  · have := Rat.mul_nonneg (a := -x) (b := -x) (by grind) (by grind); grind
/-- a corner that is as good as any point -/
theorem corner_up (sh : Shut n a b) {x y : Rat} (h : In n a b c x y) (u w : Rat) :
    ∃ x' y' : Rat, In n a b c x' y' ∧ u * x + w * y ≤ u * x' + w * y' ∧ ∃ i j, i < n ∧ j < n ∧ (a i * b j - b i * a j ≠ 0) ∧ (a i : Rat) * x' + (b i : Rat) * y' = (c i : Rat) ∧ (a j : Rat) * x' + (b j : Rat) * y' = (c j : Rat) := by
  -- the first ray
  have r1 : ∃ d e : Rat, (d ≠ 0 ∨ e ≠ 0) ∧ 0 ≤ u * d + w * e := by
    by_cases q : u ≠ 0 ∨ w ≠ 0
    · exact ⟨u, w, q, by have := sq_nn u; have := sq_nn w; grind⟩
    · refine ⟨1, 0, .inl (by decide), ?_⟩
      have : u = 0 := Classical.byContradiction fun z => q (.inl z)
      rw [this]; grind
  obtain ⟨d, e, de, p1⟩ := r1
  obtain ⟨t, t0, h1, i, hi, vi, ti⟩ := shoot h d e (sh d e de)
  have ab : (a i : Rat) ≠ 0 ∨ (b i : Rat) ≠ 0 := by
    by_cases q : (a i : Rat) = 0
    · refine .inr fun z => ?_
      rw [q, z] at vi; grind
    · exact .inl q
  have g1 := Rat.mul_nonneg t0 p1
  -- the second ray
  have r2 : ∃ s : Rat, (s = 1 ∨ s = -1) ∧ 0 ≤ u * (s * - (b i : Rat)) + w * (s * (a i : Rat)) := by
    by_cases q : 0 ≤ u * - (b i : Rat) + w * (a i : Rat)
    · exact ⟨1, .inl rfl, by grind⟩
    · exact ⟨-1, .inr rfl, by grind⟩
  obtain ⟨s, hs, p2⟩ := r2
  obtain ⟨t2, t20, h2, j, hj, vj, tj⟩ := shoot h1 (s * - (b i : Rat)) (s * (a i : Rat)) (sh _ _ (by
    rcases ab with q | q
    · exact .inr (by rcases hs with e | e <;> subst e <;> grind)
    · exact .inl (by rcases hs with e | e <;> subst e <;> grind)))
  have g2 := Rat.mul_nonneg t20 p2
  refine ⟨_, _, h2, by grind, i, j, hi, hj, ?_, by grind, tj⟩
  intro z
  have z2 : (a i : Rat) * (b j : Rat) - (b i : Rat) * (a j : Rat) = 0 := by
    have : ((a i * b j - b i * a j : Int) : Rat) = ((0 : Int) : Rat) := by rw [z]
    rw [Rat.intCast_sub, Rat.intCast_mul, Rat.intCast_mul] at this
    exact this
  have : (a j : Rat) * (s * - (b i : Rat)) + (b j : Rat) * (s * (a i : Rat)) = s * ((a i : Rat) * (b j : Rat) - (b i : Rat) * (a j : Rat)) := by grind
  rw [this, z2] at vj
  grind

/-- where two sides cross -/
def crn (a b c : Nat → Int) (i j : Nat) : Int × Int × Int :=
  if 0 < a i * b j - b i * a j then (c i * b j - c j * b i, a i * c j - a j * c i, a i * b j - b i * a j)
  else (0 - (c i * b j - c j * b i), 0 - (a i * c j - a j * c i), 0 - (a i * b j - b i * a j))
theorem crn_comm (i j : Nat) (h : a i * b j - b i * a j ≠ 0) : crn a b c i j = crn a b c j i := by
  unfold crn
  have e : a j * b i - b j * a i = - (a i * b j - b i * a j) := by grind
  by_cases q : 0 < a i * b j - b i * a j
  · rw [if_pos q, if_neg (by omega)]
    simp only [Prod.mk.injEq]
    refine ⟨by grind, by grind, by grind⟩
  · rw [if_neg q, if_pos (by omega)]
    simp only [Prod.mk.injEq]
    refine ⟨by grind, by grind, by grind⟩
theorem crn_pos {i j : Nat} (h : a i * b j - b i * a j ≠ 0) : 0 < (crn a b c i j).2.2 := by
  unfold crn
  split
  · assumption
  · show 0 < 0 - (a i * b j - b i * a j); omega
theorem castQ (p q r s : Int) : ((p * q - r * s : Int) : Rat) = (p : Rat) * (q : Rat) - (r : Rat) * (s : Rat) := by
  rw [Rat.intCast_sub, Rat.intCast_mul, Rat.intCast_mul]
theorem castN (p : Int) : ((0 - p : Int) : Rat) = - (p : Rat) := by
  rw [Rat.intCast_sub]; show (0 : Rat) - _ = _; grind
/-- the point of two tight sides -/
theorem crn_at {i j : Nat} {x y : Rat} (ti : (a i : Rat) * x + (b i : Rat) * y = (c i : Rat)) (tj : (a j : Rat) * x + (b j : Rat) * y = (c j : Rat)) :
    ((crn a b c i j).1 : Rat) = x * ((crn a b c i j).2.2 : Rat) ∧ ((crn a b c i j).2.1 : Rat) = y * ((crn a b c i j).2.2 : Rat) := by
  unfold crn
  split
  · constructor
    · show ((c i * b j - c j * b i : Int) : Rat) = x * ((a i * b j - b i * a j : Int) : Rat)
      rw [castQ, castQ, ← ti, ← tj]; grind
    · show ((a i * c j - a j * c i : Int) : Rat) = y * ((a i * b j - b i * a j : Int) : Rat)
      rw [castQ, castQ, ← ti, ← tj]; grind
  · constructor
    · show ((0 - (c i * b j - c j * b i) : Int) : Rat) = x * ((0 - (a i * b j - b i * a j) : Int) : Rat)
      rw [castN, castN, castQ, castQ, ← ti, ← tj]; grind
    · show ((0 - (a i * c j - a j * c i) : Int) : Rat) = y * ((0 - (a i * b j - b i * a j) : Int) : Rat)
      rw [castN, castN, castQ, castQ, ← ti, ← tj]; grind

/-- a triple within all sides -/
def InT (n : Nat) (a b c : Nat → Int) (v : Int × Int × Int) : Prop := ∀ i, i < n → a i * v.1 + b i * v.2.1 ≤ c i * v.2.2
def px (v : Int × Int × Int) : Rat := (v.1 : Rat) / (v.2.2 : Rat)
def py (v : Int × Int × Int) : Rat := (v.2.1 : Rat) / (v.2.2 : Rat)
theorem castP {p : Int} (h : 0 < p) : (0 : Rat) < (p : Rat) := by
  have : ((0 : Int) : Rat) < (p : Rat) := Rat.intCast_lt_intCast.mpr h
  exact this
theorem px_mul {v : Int × Int × Int} (h : 0 < v.2.2) : px v * (v.2.2 : Rat) = (v.1 : Rat) := Rat.div_mul_cancel (by have := castP h; grind)
theorem py_mul {v : Int × Int × Int} (h : 0 < v.2.2) : py v * (v.2.2 : Rat) = (v.2.1 : Rat) := Rat.div_mul_cancel (by have := castP h; grind)
theorem mul_le_iff {p q d : Rat} (h : 0 < d) : p * d ≤ q * d ↔ p ≤ q := by
  constructor
  · intro l
    refine Rat.not_lt.mp fun z => ?_
    have := Rat.mul_pos (a := p - q) (b := d) (by grind) h
    grind
  · intro l
    have := Rat.mul_nonneg (a := q - p) (b := d) (by grind) (by grind)
    grind
theorem mul_lt_iff {p q d : Rat} (h : 0 < d) : p * d < q * d ↔ p < q := by
  rw [← Rat.not_le, mul_le_iff h, Rat.not_le]
theorem inT_iff {v : Int × Int × Int} (h : 0 < v.2.2) : InT n a b c v ↔ In n a b c (px v) (py v) := by
  have hp := castP h
  have key : ∀ i, (a i * v.1 + b i * v.2.1 ≤ c i * v.2.2) ↔ (a i : Rat) * px v + (b i : Rat) * py v ≤ (c i : Rat) := by
    intro i
    have this : ((a i : Rat) * px v + (b i : Rat) * py v) * (v.2.2 : Rat) = (a i : Rat) * (px v * (v.2.2 : Rat)) + (b i : Rat) * (py v * (v.2.2 : Rat)) := by grind
    rw [← Rat.intCast_le_intCast, ← mul_le_iff (p := (a i : Rat) * px v + (b i : Rat) * py v) hp, Rat.intCast_add, Rat.intCast_mul, Rat.intCast_mul, Rat.intCast_mul, this, px_mul h, py_mul h]
  exact ⟨fun q i hi => (key i).mp (q i hi), fun q i hi => (key i).mpr (q i hi)⟩

/-- all the corners -/
structure Crns (n : Nat) (a b c : Nat → Int) (C : List (Int × Int × Int)) : Prop where
  pos : ∀ v ∈ C, 0 < v.2.2
  inn : ∀ v ∈ C, InT n a b c v
  full : ∀ j, j < n → ∀ i, i < j → a i * b j - b i * a j ≠ 0 → InT n a b c (crn a b c i j) → crn a b c i j ∈ C
theorem Crns.up {C : List (Int × Int × Int)} (cr : Crns n a b c C) (sh : Shut n a b) {x y : Rat} (h : In n a b c x y) (u w : Rat) :
    ∃ v ∈ C, u * x + w * y ≤ u * px v + w * py v := by
  obtain ⟨x', y', hin, le, i, j, hi, hj, d, ti, tj⟩ := corner_up sh h u w
  have ne : i ≠ j := by
    intro e; subst e
    exact d (by grind)
  have dp := crn_pos (c := c) d
  have e := crn_at ti tj
  have hp := castP dp
  have ex : px (crn a b c i j) = x' := by
    have := px_mul dp
    rw [e.1] at this
    have h2 : (px (crn a b c i j) - x') * ((crn a b c i j).2.2 : Rat) = 0 := by grind
    rcases Rat.mul_eq_zero.mp h2 with q | q <;> grind
  have ey : py (crn a b c i j) = y' := by
    have := py_mul dp
    rw [e.2] at this
    have h2 : (py (crn a b c i j) - y') * ((crn a b c i j).2.2 : Rat) = 0 := by grind
    rcases Rat.mul_eq_zero.mp h2 with q | q <;> grind
  have it : InT n a b c (crn a b c i j) := (inT_iff dp).mpr (by rw [ex, ey]; exact hin)
  refine ⟨crn a b c i j, ?_, by rw [ex, ey]; exact le⟩
  by_cases q : i < j
  · exact cr.full j hj i q d it
  · rw [crn_comm i j d] at it ⊢
    exact cr.full i hi j (by omega) (by intro z; exact d (by grind)) it
end
end BW

namespace BW

section
variable (h : Nat) (R : Nat → Nat → Int) (g : Nat → Int)
/-- the sides of the law: the rows, the axes, the box -/
def sA : Nat → Int := fun i => if i < h then R i 0 else if i = h then -1 else if i = h + 2 then 1 else 0
def sB : Nat → Int := fun i => if i < h then R i 1 else if i = h + 1 then -1 else if i = h + 3 then 1 else 0
def sC : Nat → Int := fun i => if i < h then g i else if h + 2 ≤ i then 200 else 0
/-- the numbers of the program -/
def InP (x y : Rat) : Prop := In (h + 2) (sA h R) (sB h R) (sC h g) x y
def InQ (x y : Rat) : Prop := In (h + 4) (sA h R) (sB h R) (sC h g) x y
/-- the greatest sum -/
def Opt (u w : Int) (M : Rat) : Prop := (∃ x y, InP h R g x y ∧ (u : Rat) * x + (w : Rat) * y = M) ∧ ∀ x y, InP h R g x y → (u : Rat) * x + (w : Rat) * y ≤ M
/-- sums without end -/
def Unb (u w : Int) : Prop := ∃ x y d e : Rat, 0 < (u : Rat) * d + (w : Rat) * e ∧ ∀ t : Rat, 0 ≤ t → InP h R g (x + t * d) (y + t * e)
/-- the sizes drawn -/
def Szs : Prop := ∀ i, i < h → (-9 ≤ R i 0 ∧ R i 0 ≤ 9) ∧ (-9 ≤ R i 1 ∧ R i 1 ≤ 9) ∧ -6 ≤ g i ∧ g i ≤ 12
end
section
variable {h : Nat} {R : Nat → Nat → Int} {g : Nat → Int}
theorem cast0 : ((0 : Int) : Rat) = 0 := rfl
theorem cast1 : ((1 : Int) : Rat) = 1 := rfl
theorem castm : ((-1 : Int) : Rat) = -1 := rfl
theorem cast200 : ((200 : Int) : Rat) = 200 := rfl
theorem ax1 : sA h R h = -1 ∧ sB h R h = 0 := by
  unfold sA sB; refine ⟨?_, ?_⟩
  · rw [if_neg (by omega), if_pos rfl]
  · rw [if_neg (by omega), if_neg (by omega), if_neg (by omega)]
theorem ax1c : sC h g h = 0 := by
  unfold sC; rw [if_neg (by omega), if_neg (by omega)]
theorem ax2 : sA h R (h + 1) = 0 ∧ sB h R (h + 1) = -1 := by
  unfold sA sB; refine ⟨?_, ?_⟩
  · rw [if_neg (by omega), if_neg (by omega), if_neg (by omega)]
  · rw [if_neg (by omega), if_pos rfl]
theorem ax2c : sC h g (h + 1) = 0 := by
  unfold sC; rw [if_neg (by omega), if_neg (by omega)]
theorem ax3 : sA h R (h + 2) = 1 ∧ sB h R (h + 2) = 0 := by
  unfold sA sB; refine ⟨?_, ?_⟩
  · rw [if_neg (by omega), if_neg (by omega), if_pos rfl]
  · rw [if_neg (by omega), if_neg (by omega), if_neg (by omega)]
theorem ax3c : sC h g (h + 2) = 200 := by
  unfold sC; rw [if_neg (by omega), if_pos (by omega)]
theorem ax4 : sA h R (h + 3) = 0 ∧ sB h R (h + 3) = 1 := by
  unfold sA sB; refine ⟨?_, ?_⟩
  · rw [if_neg (by omega), if_neg (by omega), if_neg (by omega)]
  · rw [if_neg (by omega), if_neg (by omega), if_pos rfl]
theorem ax4c : sC h g (h + 3) = 200 := by
  unfold sC; rw [if_neg (by omega), if_pos (by omega)]
theorem szs_all (z : Szs h R g) : ∀ i, i < h + 2 → (-9 ≤ sA h R i ∧ sA h R i ≤ 9) ∧ (-9 ≤ sB h R i ∧ sB h R i ≤ 9) ∧ -6 ≤ sC h g i ∧ sC h g i ≤ 12 := by
  intro i hi
  by_cases q : i < h
  · have := z i q
    unfold sA sB sC; rw [if_pos q, if_pos q, if_pos q]; exact this
  · by_cases q2 : i = h
    · subst q2; rw [ax1.1, ax1.2, ax1c]; omega
    · have e : i = h + 1 := by omega
      subst e; rw [ax2.1, ax2.2, ax2c]; omega
theorem inP_nn {x y : Rat} (p : InP h R g x y) : 0 ≤ x ∧ 0 ≤ y := by
  have p1 := p h (by omega)
  have p2 := p (h + 1) (by omega)
  rw [ax1.1, ax1.2, ax1c, castm, cast0] at p1
  rw [ax2.1, ax2.2, ax2c, castm, cast0] at p2
  constructor <;> grind
theorem inQ_iff {x y : Rat} : InQ h R g x y ↔ InP h R g x y ∧ x ≤ 200 ∧ y ≤ 200 := by
  constructor
  · intro q
    refine ⟨fun i hi => q i (by omega), ?_, ?_⟩
    · have p := q (h + 2) (by omega)
      rw [ax3.1, ax3.2, ax3c, cast1, cast0, cast200] at p; grind
    · have p := q (h + 3) (by omega)
      rw [ax4.1, ax4.2, ax4c, cast1, cast0, cast200] at p; grind
  · rintro ⟨p, qx, qy⟩ i hi
    by_cases q : i < h + 2
    · exact p i q
    · by_cases q2 : i = h + 2
      · subst q2; rw [ax3.1, ax3.2, ax3c, cast1, cast0, cast200]; grind
      · have e : i = h + 3 := by omega
        subst e; rw [ax4.1, ax4.2, ax4c, cast1, cast0, cast200]; grind
theorem shutQ : Shut (h + 4) (sA h R) (sB h R) := by
  intro d e hn
  by_cases d0 : d < 0
  · exact ⟨h, by omega, by rw [ax1.1, ax1.2, castm, cast0]; grind⟩
  · by_cases d1 : 0 < d
    · exact ⟨h + 2, by omega, by rw [ax3.1, ax3.2, cast1, cast0]; grind⟩
    · by_cases e0 : e < 0
      · exact ⟨h + 1, by omega, by rw [ax2.1, ax2.2, castm, cast0]; grind⟩
      · refine ⟨h + 3, by omega, ?_⟩
        rw [ax4.1, ax4.2, cast1, cast0]
        rcases hn with q | q <;> grind

/-! ## where the rows meet there is room -/
theorem mulB {p q P Q : Int} (h1 : p.natAbs ≤ P.natAbs) (h2 : q.natAbs ≤ Q.natAbs) : (p * q).natAbs ≤ (P * Q).natAbs := by
  rw [Int.natAbs_mul, Int.natAbs_mul]; exact Nat.mul_le_mul h1 h2
theorem cross_small {a1 b1 g1 a2 b2 g2 : Int} (A1 : -9 ≤ a1 ∧ a1 ≤ 9) (B1 : -9 ≤ b1 ∧ b1 ≤ 9) (G1 : -6 ≤ g1 ∧ g1 ≤ 12) (A2 : -9 ≤ a2 ∧ a2 ≤ 9) (B2 : -9 ≤ b2 ∧ b2 ≤ 9) (G2 : -6 ≤ g2 ∧ g2 ≤ 12)
    (lo : a1 + b1 < 0) (or : a1 ≤ b1) (d : 0 < a1 * b2 - a2 * b1) (X : 0 ≤ g1 * b2 - g2 * b1) (Y : 0 ≤ a1 * g2 - a2 * g1) : g1 * b2 - g2 * b1 ≤ 200 ∧ a1 * g2 - a2 * g1 ≤ 200 := by
  have m1 : (g1 * b2).natAbs ≤ 108 := mulB (P := 12) (Q := 9) (by omega) (by omega)
  have m2 : (g2 * b1).natAbs ≤ 108 := mulB (P := 12) (Q := 9) (by omega) (by omega)
  have m4 : (a2 * g1).natAbs ≤ 108 := mulB (P := 9) (Q := 12) (by omega) (by omega)
  have a1n : a1 < 0 := by omega
  constructor
  · refine Classical.byContradiction fun z => ?_
    have l1 : 93 ≤ g1 * b2 := by omega
    have l2 : g2 * b1 ≤ -93 := by omega
    have g1p : 11 ≤ g1 := by
      refine Classical.byContradiction fun q => ?_
      have : (g1 * b2).natAbs ≤ 90 := mulB (P := 10) (Q := 9) (by omega) (by omega)
      omega
    have b2p : 8 ≤ b2 := by
      refine Classical.byContradiction fun q => ?_
      by_cases q2 : 0 ≤ b2
      · have : (g1 * b2).natAbs ≤ 84 := mulB (P := 12) (Q := 7) (by omega) (by omega)
        omega
      · have := Int.mul_nonneg (a := g1) (b := - b2) (by omega) (by omega)
        rw [Int.mul_neg] at this; omega
    have g2p : 11 ≤ g2 := by
      refine Classical.byContradiction fun q => ?_
      have : (g2 * b1).natAbs ≤ 90 := mulB (P := 10) (Q := 9) (by omega) (by omega)
      omega
    have b1n : b1 ≤ -8 := by
      refine Classical.byContradiction fun q => ?_
      by_cases q2 : b1 ≤ 0
      · have : (g2 * b1).natAbs ≤ 84 := mulB (P := 12) (Q := 7) (by omega) (by omega)
        omega
      · have := Int.mul_nonneg (a := g2) (b := b1) (by omega) (by omega)
        omega
    have k1 : 88 ≤ - a1 * g2 := Int.le_trans (by decide : (88 : Int) ≤ 8 * 11) (Int.mul_le_mul (by omega) g2p (by decide) (by omega))
    rw [Int.neg_mul] at k1
    have l3 : a2 * g1 ≤ -88 := by omega
    have a2n : a2 ≤ -8 := by
      refine Classical.byContradiction fun q => ?_
      by_cases q2 : a2 ≤ 0
      · have : (a2 * g1).natAbs ≤ 84 := mulB (P := 7) (Q := 12) (by omega) (by omega)
        omega
      · have := Int.mul_nonneg (a := a2) (b := g1) (by omega) (by omega)
        omega
    have d1 := Int.mul_nonneg (a := - a1) (b := b2) (by omega) (by omega)
    have d2 := Int.mul_nonneg (a := - a2) (b := - b1) (by omega) (by omega)
    rw [Int.neg_mul] at d1
    rw [Int.neg_mul_neg] at d2
    omega
  · have m3 : a1 * g2 ≤ 54 := by
      by_cases q : 0 ≤ g2
      · have := Int.mul_nonneg (a := - a1) (b := g2) (by omega) q
        rw [Int.neg_mul] at this; omega
      · have : (a1 * g2).natAbs ≤ 54 := mulB (P := 9) (Q := 6) (by omega) (by omega)
        omega
    omega
/-- from a cross of whole numbers to a point -/
theorem room_of {a1 b1 g1 a2 b2 g2 : Int} {x y : Rat} (t1 : (a1 : Rat) * x + (b1 : Rat) * y = (g1 : Rat)) (t2 : (a2 : Rat) * x + (b2 : Rat) * y = (g2 : Rat)) (nx : 0 ≤ x) (ny : 0 ≤ y)
    (A1 : -9 ≤ a1 ∧ a1 ≤ 9) (B1 : -9 ≤ b1 ∧ b1 ≤ 9) (G1 : -6 ≤ g1 ∧ g1 ≤ 12) (A2 : -9 ≤ a2 ∧ a2 ≤ 9) (B2 : -9 ≤ b2 ∧ b2 ≤ 9) (G2 : -6 ≤ g2 ∧ g2 ≤ 12)
    (lo : a1 + b1 < 0) (or : a1 ≤ b1) (d : 0 < (a1 : Rat) * (b2 : Rat) - (a2 : Rat) * (b1 : Rat)) : x ≤ 200 ∧ y ≤ 200 := by
  have dz : 0 < a1 * b2 - a2 * b1 := by
    rw [← castQ] at d
    exact Rat.intCast_lt_intCast.mp (by rw [cast0]; exact d)
  have ex : ((g1 * b2 - g2 * b1 : Int) : Rat) = x * ((a1 * b2 - a2 * b1 : Int) : Rat) := by
    rw [castQ, castQ, ← t1, ← t2]; grind
  have ey : ((a1 * g2 - a2 * g1 : Int) : Rat) = y * ((a1 * b2 - a2 * b1 : Int) : Rat) := by
    rw [castQ, castQ, ← t1, ← t2]; grind
  have X : 0 ≤ g1 * b2 - g2 * b1 := by
    refine Rat.intCast_le_intCast.mp ?_
    rw [cast0, ex]; exact Rat.mul_nonneg nx (by have := castP dz; grind)
  have Y : 0 ≤ a1 * g2 - a2 * g1 := by
    refine Rat.intCast_le_intCast.mp ?_
    rw [cast0, ey]; exact Rat.mul_nonneg ny (by have := castP dz; grind)
  obtain ⟨lx, ly⟩ := cross_small A1 B1 G1 A2 B2 G2 lo or dz X Y
  have one : ((1 : Int) : Rat) ≤ ((a1 * b2 - a2 * b1 : Int) : Rat) := Rat.intCast_le_intCast.mpr (by omega)
  rw [cast1] at one
  have lx2 : ((g1 * b2 - g2 * b1 : Int) : Rat) ≤ ((200 : Int) : Rat) := Rat.intCast_le_intCast.mpr lx
  have ly2 : ((a1 * g2 - a2 * g1 : Int) : Rat) ≤ ((200 : Int) : Rat) := Rat.intCast_le_intCast.mpr ly
  rw [ex, cast200] at lx2
  rw [ey, cast200] at ly2
  have kx := Rat.mul_nonneg nx (b := ((a1 * b2 - a2 * b1 : Int) : Rat) - 1) (by grind)
  have ky := Rat.mul_nonneg ny (b := ((a1 * b2 - a2 * b1 : Int) : Rat) - 1) (by grind)
  constructor <;> grind
theorem room (z : Szs h R g) {x y : Rat} (p : InP h R g x y) : ∃ x' y', InQ h R g x' y' := by
  obtain ⟨t, t0, p1, i, hi, vi, ti⟩ := shoot p (-1) (-1) ⟨h, by omega, by rw [ax1.1, ax1.2, castm, cast0]; grind⟩
  obtain ⟨A1, B1, G1⟩ := szs_all z i hi
  have lo : sA h R i + sB h R i < 0 := by
    refine Rat.intCast_lt_intCast.mp ?_
    rw [cast0, Rat.intCast_add]; grind
  by_cases or : sA h R i ≤ sB h R i
  · have an : (sA h R i : Rat) < 0 := Rat.intCast_lt_intCast.mpr (by omega)
    obtain ⟨s, s0, p2, j, hj, vj, tj⟩ := shoot p1 (- (sB h R i : Rat)) (sA h R i : Rat) ⟨h + 1, by omega, by rw [ax2.1, ax2.2, castm, cast0]; grind⟩
    obtain ⟨A2, B2, G2⟩ := szs_all z j hj
    obtain ⟨nx, ny⟩ := inP_nn p2
    obtain ⟨lx, ly⟩ := room_of (a1 := sA h R i) (b1 := sB h R i) (g1 := sC h g i) (by grind) tj nx ny A1 B1 G1 A2 B2 G2 lo or (by grind)
    exact ⟨_, _, inQ_iff.mpr ⟨p2, lx, ly⟩⟩
  · have bn : (sB h R i : Rat) < 0 := Rat.intCast_lt_intCast.mpr (by omega)
    obtain ⟨s, s0, p2, j, hj, vj, tj⟩ := shoot p1 (sB h R i : Rat) (- (sA h R i : Rat)) ⟨h, by omega, by rw [ax1.1, ax1.2, castm, cast0]; grind⟩
    obtain ⟨A2, B2, G2⟩ := szs_all z j hj
    obtain ⟨nx, ny⟩ := inP_nn p2
    obtain ⟨ly, lx⟩ := room_of (a1 := sB h R i) (b1 := sA h R i) (g1 := sC h g i) (a2 := sB h R j) (b2 := sA h R j) (g2 := sC h g j) (x := y + t * -1 + s * - (sA h R i : Rat)) (y := x + t * -1 + s * (sB h R i : Rat)) (by grind) (by grind) ny nx B1 A1 G1 B2 A2 G2 (by omega) (by omega) (by grind)
    exact ⟨_, _, inQ_iff.mpr ⟨p2, lx, ly⟩⟩
/-- a best point that lies off the far sides is best of all -/
theorem near_best {x0 y0 : Rat} (q0 : InQ h R g x0 y0) (lx : x0 < 200) (ly : y0 < 200) {u w : Rat} (best : ∀ x y, InQ h R g x y → u * x + w * y ≤ u * x0 + w * y0) {x y : Rat} (p : InP h R g x y) : u * x + w * y ≤ u * x0 + w * y0 := by
  obtain ⟨nx, ny⟩ := inP_nn p
  obtain ⟨p0, _, _⟩ := inQ_iff.mp q0
  obtain ⟨nx0, ny0⟩ := inP_nn p0
  obtain ⟨ε, e0, e1, e2⟩ : ∃ ε : Rat, 0 < ε ∧ ε ≤ 200 - x0 ∧ ε ≤ 200 - y0 := by
    by_cases q : 200 - x0 ≤ 200 - y0
    · exact ⟨200 - x0, by grind, by grind, q⟩
    · exact ⟨200 - y0, by grind, by grind, by grind⟩
  have sp : 0 < ε + x + y := by grind
  have t0 : 0 < ε / (ε + x + y) := by
    rw [Rat.div_def]; exact Rat.mul_pos e0 (Rat.inv_pos.mpr sp)
  have te : ε / (ε + x + y) * (ε + x + y) = ε := Rat.div_mul_cancel (by grind)
  generalize ε / (ε + x + y) = t at t0 te
  have tx := Rat.mul_nonneg (a := t) (b := x) (by grind) nx
  have ty := Rat.mul_nonneg (a := t) (b := y) (by grind) ny
  have tx0 := Rat.mul_nonneg (a := t) (b := x0) (by grind) nx0
  have ty0 := Rat.mul_nonneg (a := t) (b := y0) (by grind) ny0
  have t1 : t ≤ 1 := by
    refine Rat.not_lt.mp fun z => ?_
    have := Rat.mul_pos (a := t - 1) (b := ε) (by grind) e0
    grind
  have te2 := Rat.mul_pos t0 e0
  have inq : InQ h R g (x0 + t * (x - x0)) (y0 + t * (y - y0)) := by
    refine inQ_iff.mpr ⟨fun i hi => ?_, by grind, by grind⟩
    have a1 := p i hi
    have a2 := p0 i hi
    have k1 := Rat.mul_nonneg (a := t) (b := (sC h g i : Rat) - ((sA h R i : Rat) * x + (sB h R i : Rat) * y)) (by grind) (by grind)
    have k2 := Rat.mul_nonneg (a := 1 - t) (b := (sC h g i : Rat) - ((sA h R i : Rat) * x0 + (sB h R i : Rat) * y0)) (by grind) (by grind)
    grind
  have b := best _ _ inq
  refine Rat.not_lt.mp fun z => ?_
  have := Rat.mul_pos (a := t) (b := u * x + w * y - (u * x0 + w * y0)) t0 (by grind)
  grind

/-! ## what the law asks -/
variable {u w : Int}
def CrnQ (h : Nat) (R : Nat → Nat → Int) (g : Nat → Int) (C : List (Int × Int × Int)) : Prop := Crns (h + 4) (sA h R) (sB h R) (sC h g) C
theorem law_nil (z : Szs h R g) (cr : CrnQ h R g []) {x y : Rat} : ¬ InP h R g x y := by
  intro p
  obtain ⟨x', y', q⟩ := room z p
  obtain ⟨v, hv, _⟩ := Crns.up cr shutQ q 0 0
  cases hv
def val (u w : Int) (v : Int × Int × Int) : Rat := (u : Rat) * px v + (w : Rat) * py v
def nearQ (v : Int × Int × Int) : Prop := v.1 < 200 * v.2.2 ∧ v.2.1 < 200 * v.2.2
theorem crn_inQ {C : List (Int × Int × Int)} (cr : CrnQ h R g C) {v : Int × Int × Int} (hv : v ∈ C) : InQ h R g (px v) (py v) := (inT_iff (cr.pos v hv)).mp (cr.inn v hv)
theorem crn_inP {C : List (Int × Int × Int)} (cr : CrnQ h R g C) {v : Int × Int × Int} (hv : v ∈ C) : InP h R g (px v) (py v) := (inQ_iff.mp (crn_inQ cr hv)).1
theorem near_all {C : List (Int × Int × Int)} (cr : CrnQ h R g C) {v : Int × Int × Int} (hv : v ∈ C) (nv : nearQ v) (top : ∀ v' ∈ C, val u w v' ≤ val u w v) {x y : Rat} (p : InP h R g x y) : (u : Rat) * x + (w : Rat) * y ≤ val u w v := by
  have hp := castP (cr.pos v hv)
  have ex := px_mul (cr.pos v hv)
  have ey := py_mul (cr.pos v hv)
  have n1 : (v.1 : Rat) < 200 * (v.2.2 : Rat) := by
    have : ((v.1 : Int) : Rat) < ((200 * v.2.2 : Int) : Rat) := Rat.intCast_lt_intCast.mpr nv.1
    rw [Rat.intCast_mul, cast200] at this; exact this
  have n2 : (v.2.1 : Rat) < 200 * (v.2.2 : Rat) := by
    have : ((v.2.1 : Int) : Rat) < ((200 * v.2.2 : Int) : Rat) := Rat.intCast_lt_intCast.mpr nv.2
    rw [Rat.intCast_mul, cast200] at this; exact this
  rw [← ex] at n1
  rw [← ey] at n2
  refine near_best (crn_inQ cr hv) ((mul_lt_iff hp).mp n1) ((mul_lt_iff hp).mp n2) (fun x y q => ?_) p
  obtain ⟨v', hv', le⟩ := Crns.up cr shutQ q (u : Rat) (w : Rat)
  exact Rat.le_trans le (top v' hv')
theorem law_far {C : List (Int × Int × Int)} (cr : CrnQ h R g C) (un : Unb h R g u w) {v : Int × Int × Int} (hv : v ∈ C) (nv : nearQ v) (top : ∀ v' ∈ C, val u w v' ≤ val u w v) : False := by
  obtain ⟨x, y, d, e, pos, hp⟩ := un
  have k := fun t ht => near_all cr hv nv top (hp t ht)
  have k0 := k 0 Rat.le_refl
  -- a step that is too great
  have t0 : 0 ≤ (val u w v - ((u : Rat) * x + (w : Rat) * y) + 1) / ((u : Rat) * d + (w : Rat) * e) := div_nonneg (by grind) pos
  have te : (val u w v - ((u : Rat) * x + (w : Rat) * y) + 1) / ((u : Rat) * d + (w : Rat) * e) * ((u : Rat) * d + (w : Rat) * e) = _ := Rat.div_mul_cancel (by grind)
  have := k _ t0
  grind
theorem law_le {C : List (Int × Int × Int)} (cr : CrnQ h R g C) {M : Rat} (op : Opt h R g u w M) {v : Int × Int × Int} (hv : v ∈ C) : val u w v ≤ M := op.2 _ _ (crn_inP cr hv)
theorem law_eq {C : List (Int × Int × Int)} (cr : CrnQ h R g C) {M : Rat} (op : Opt h R g u w M) {v : Int × Int × Int} (hv : v ∈ C) (nv : nearQ v) (top : ∀ v' ∈ C, val u w v' ≤ val u w v) : M = val u w v := by
  obtain ⟨x, y, p, e⟩ := op.1
  have a := near_all cr hv nv top p
  have b := law_le cr op hv
  grind

/-! ## the program's table -/
theorem sm2 (f : Nat → Rat) : sm 2 f = f 0 + f 1 := by rw [sm_succ, sm_succ, sm_zero]; grind
/-- what a row of the first table says -/
theorem row_ref2 {z : Nat → Rat} {i : Nat} (hi : i < h) : sm (2 + h + 1) (fun j => ref2 h R g i j * z j) = (R i 0 : Rat) * z 0 + (R i 1 : Rat) * z 1 + z (2 + i) + (g i : Rat) * z (2 + h) := by
  rw [sm_succ, sm_split, sm2]
  have e0 : ref2 h R g i 0 = (R i 0 : Rat) := by unfold ref2 wideM; rw [if_pos (by omega), if_pos (by omega)]
  have e1 : ref2 h R g i 1 = (R i 1 : Rat) := by unfold ref2 wideM; rw [if_pos (by omega), if_pos (by omega)]
  have e2 : ref2 h R g i (2 + h) = (g i : Rat) := by unfold ref2; rw [if_neg (by omega)]
  have e3 : sm h (fun k => ref2 h R g i (2 + k) * z (2 + k)) = z (2 + i) := by
    rw [sm_one (k := i) hi]
    · show ref2 h R g i (2 + i) * z (2 + i) = z (2 + i)
      unfold ref2 wideM; rw [if_pos (by omega), if_neg (by omega), if_pos rfl]; grind
    · intro l hl hne
      show ref2 h R g i (2 + l) * z (2 + l) = 0
      unfold ref2 wideM; rw [if_pos (by omega), if_neg (by omega), if_neg (by omega)]; grind
  rw [e0, e1, e2, e3]
theorem null_ref2 {z : Nat → Rat} : Null h (2 + h) (ref2 h R g) z ↔ ∀ i, i < h → (R i 0 : Rat) * z 0 + (R i 1 : Rat) * z 1 + z (2 + i) + (g i : Rat) * z (2 + h) = 0 :=
  ⟨fun q i hi => by rw [← row_ref2 hi]; exact q i hi, fun q i hi => by rw [row_ref2 hi]; exact q i hi⟩
theorem inP_of {x y : Rat} (nx : 0 ≤ x) (ny : 0 ≤ y) (hr : ∀ i, i < h → (R i 0 : Rat) * x + (R i 1 : Rat) * y ≤ (g i : Rat)) : InP h R g x y := by
  intro i hi
  by_cases q : i < h
  · unfold sA sB sC; rw [if_pos q, if_pos q, if_pos q]; exact hr i q
  · by_cases q2 : i = h
    · subst q2; rw [ax1.1, ax1.2, ax1c, castm, cast0]; grind
    · have e : i = h + 1 := by omega
      subst e; rw [ax2.1, ax2.2, ax2c, castm, cast0]; grind
theorem inP_row {x y : Rat} (p : InP h R g x y) {i : Nat} (q : i < h) : (R i 0 : Rat) * x + (R i 1 : Rat) * y ≤ (g i : Rat) := by
  have := p i (by omega)
  unfold sA sB sC at this; rw [if_pos q, if_pos q, if_pos q] at this; exact this
/-- a vector of the table is a point -/
theorem point_of {z : Nat → Rat} (hn : Null h (2 + h) (ref2 h R g) z) (hw : z (2 + h) = -1) (hp : ∀ j, j < 2 + h → 0 ≤ z j) : InP h R g (z 0) (z 1) := by
  refine inP_of (hp 0 (by omega)) (hp 1 (by omega)) fun i hi => ?_
  have := null_ref2.mp hn i hi
  have := hp (2 + i) (by omega)
  rw [hw] at *
  grind
/-- a point is a vector of the table -/
def vec (h : Nat) (R : Nat → Nat → Int) (g : Nat → Int) (x y : Rat) : Nat → Rat := fun j => if j = 0 then x else if j = 1 then y else if j < 2 + h then (g (j - 2) : Rat) - ((R (j - 2) 0 : Rat) * x + (R (j - 2) 1 : Rat) * y) else -1
theorem vec_ok {x y : Rat} (p : InP h R g x y) : Null h (2 + h) (ref2 h R g) (vec h R g x y) ∧ vec h R g x y (2 + h) = -1 ∧ (∀ j, j < 2 + h → 0 ≤ vec h R g x y j) ∧ vec h R g x y 0 = x ∧ vec h R g x y 1 = y := by
  have e0 : vec h R g x y 0 = x := by unfold vec; rw [if_pos rfl]
  have e1 : vec h R g x y 1 = y := by unfold vec; rw [if_neg (by omega), if_pos rfl]
  have e2 : ∀ i, i < h → vec h R g x y (2 + i) = (g i : Rat) - ((R i 0 : Rat) * x + (R i 1 : Rat) * y) := by
    intro i hi; unfold vec; rw [if_neg (by omega), if_neg (by omega), if_pos (by omega), show 2 + i - 2 = i by omega]
  have e3 : vec h R g x y (2 + h) = -1 := by unfold vec; rw [if_neg (by omega), if_neg (by omega), if_neg (by omega)]
  refine ⟨null_ref2.mpr fun i hi => ?_, e3, fun j hj => ?_, e0, e1⟩
  · rw [e0, e1, e2 i hi, e3]; grind
  · have nn := inP_nn p
    by_cases q0 : j = 0
    · subst q0; rw [e0]; exact nn.1
    · by_cases q1 : j = 1
      · subst q1; rw [e1]; exact nn.2
      · have := e2 (j - 2) (by omega)
        rw [show 2 + (j - 2) = j by omega] at this
        rw [this]
        have := inP_row p (i := j - 2) (by omega)
        grind
theorem noSol_iff : NoSol h R g ↔ ∀ x y, ¬ InP h R g x y := by
  constructor
  · intro ns x y p
    obtain ⟨a, b, c, _, _⟩ := vec_ok p
    exact ns _ a b c
  · intro q z hn hw hp
    exact q _ _ (point_of hn hw hp)
/-- costs with 0 behind -/
def cost2 (u w : Int) : Nat → Rat := fun j => if j = 0 then (u : Rat) else if j = 1 then (w : Rat) else 0
theorem cost2_sum (z : Nat → Rat) (n : Nat) : sm (2 + n) (fun j => cost2 u w j * z j) = (u : Rat) * z 0 + (w : Rat) * z 1 := by
  rw [sm_split, sm2, sm_nil (n := n)]
  · show cost2 u w 0 * z 0 + cost2 u w 1 * z 1 + 0 = _
    unfold cost2; rw [if_pos rfl, if_neg (by omega), if_pos rfl]; grind
  · intro k hk
    show cost2 u w (2 + k) * z (2 + k) = 0
    unfold cost2; rw [if_neg (by omega), if_neg (by omega)]; grind
/-- the point of a table -/
def bpt (m n : Nat) (T : Mat) (B : Nat → Nat) : Nat → Rat := fun l => - dirv m T B n l
theorem Null.neg {m n : Nat} {T : Mat} {z : Nat → Rat} (q : Null m n T z) : Null m n T (fun l => - z l) := by
  intro i hi
  have e : (fun j => T i j * (fun l => - z l) j) = fun j => (-1 : Rat) * (T i j * z j) := by funext j; grind
  rw [e, sm_mul, q i hi]; grind
theorem bpt_null {m n : Nat} {T : Mat} {B : Nat → Nat} (t : Tab m n T B) : Null m n T (bpt m n T B) := Null.neg (dir_null t (Nat.le_refl n))
theorem bpt_end {m n : Nat} {T : Mat} {B : Nat → Nat} (t : Tab m n T B) : bpt m n T B n = -1 := by
  unfold bpt dirv
  rw [if_pos rfl, sm_nil]
  · grind
  · intro k hk
    have := t.lt k hk
    rw [if_neg (by omega)]
theorem bpt_low {m n : Nat} {T : Mat} {B : Nat → Nat} {l : Nat} (hl : l < n) : bpt m n T B l = sm m (fun k => if l = B k then T k n else 0) := by
  unfold bpt dirv
  rw [if_neg (by omega)]; grind
theorem bpt_nn {m n : Nat} {T : Mat} {B : Nat → Nat} (f : Feas m n T) {l : Nat} (hl : l < n) : 0 ≤ bpt m n T B l := by
  rw [bpt_low hl]
  refine sm_nonneg fun k hk => ?_
  show 0 ≤ (if l = B k then T k n else 0)
  split
  · exact f k hk
  · exact Rat.le_refl
/-- what it costs -/
def topv (m n : Nat) (c : Nat → Rat) (T : Mat) (B : Nat → Nat) : Rat := sm m (fun k => c (B k) * T k n)
theorem bpt_val {m n : Nat} {T : Mat} {B : Nat → Nat} (t : Tab m n T B) (c : Nat → Rat) : sm n (fun l => c l * bpt m n T B l) = topv m n c T B := by
  have e := form_dir (j := n) t (Nat.le_refl n) c
  rw [sm_succ] at e
  have e2 : dirv m T B n n = 1 := by
    have := bpt_end t; unfold bpt at this; grind
  have e3 : (fun l => c l * bpt m n T B l) = fun l => (-1 : Rat) * (c l * dirv m T B n l) := by funext l; unfold bpt; grind
  rw [e3, sm_mul]
  unfold topv
  rw [e2] at e
  grind
theorem opt_ok {T : Mat} {B : Nat → Nat} (t : Tab h (2 + h) T B) (f : Feas h (2 + h) T) (hn : ∀ z, Null h (2 + h) T z ↔ Null h (2 + h) (ref2 h R g) z) (hg : ∀ j, j < 2 + h → gn h (cost2 u w) T B j ≤ 0) : Opt h R g u w (topv h (2 + h) (cost2 u w) T B) := by
  have pt := point_of ((hn _).mp (bpt_null t)) (bpt_end t) (fun j hj => bpt_nn f hj)
  refine ⟨⟨_, _, pt, ?_⟩, fun x y p => ?_⟩
  · rw [← bpt_val t, cost2_sum]
  · obtain ⟨n, e, nn, e0, e1⟩ := vec_ok p
    have q := gn_null (c := cost2 u w) (B := B) ((hn _).mpr n)
    rw [sm_succ, sm_succ, e] at q
    have a := cost2_sum (u := u) (w := w) (vec h R g x y) h
    rw [e0, e1] at a
    rw [a] at q
    have le : sm (2 + h) (fun j => gn h (cost2 u w) T B j * vec h R g x y j) ≤ 0 := sm_nonpos fun j hj => by
      have := Rat.mul_nonneg (a := - gn h (cost2 u w) T B j) (b := vec h R g x y j) (by have := hg j hj; grind) (nn j hj)
      grind
    have ge : gn h (cost2 u w) T B (2 + h) = cost2 u w (2 + h) - topv h (2 + h) (cost2 u w) T B := rfl
    rw [ge] at q
    grind
theorem Null.add {m n : Nat} {T : Mat} {z z' : Nat → Rat} (t : Rat) (q : Null m n T z) (q' : Null m n T z') : Null m n T (fun l => z l + t * z' l) := by
  intro i hi
  have e : (fun j => T i j * (fun l => z l + t * z' l) j) = fun j => T i j * z j + t * (T i j * z' j) := by funext j; grind
  rw [e, sm_add, sm_mul, q i hi, q' i hi]; grind
theorem unb_ok {T : Mat} {B : Nat → Nat} (t : Tab h (2 + h) T B) (f : Feas h (2 + h) T) (hn : ∀ z, Null h (2 + h) T z ↔ Null h (2 + h) (ref2 h R g) z) {q : Nat} (hq : q < 2 + h) (hg : 0 < gn h (cost2 u w) T B q) (hT : ∀ i, i < h → T i q ≤ 0) : Unb h R g u w := by
  have nb := gn_pos_nb t hg
  have dn := dirv_nonneg (n := 2 + h) nb hT
  have nd := dir_null t (j := q) (by omega)
  have dend : dirv h T B q (2 + h) = 0 := by
    unfold dirv
    rw [if_neg (by omega), sm_nil]
    · grind
    · intro k hk
      have := t.lt k hk
      rw [if_neg (by omega)]
  refine ⟨bpt h (2 + h) T B 0, bpt h (2 + h) T B 1, dirv h T B q 0, dirv h T B q 1, ?_, fun s hs => ?_⟩
  · have e := form_dir (j := q) t (by omega) (cost2 u w)
    rw [sm_succ, dend, cost2_sum] at e
    unfold gn at hg
    grind
  · have nz := Null.add s (bpt_null t) nd
    refine point_of (z := fun l => bpt h (2 + h) T B l + s * dirv h T B q l) ((hn _).mp nz) ?_ fun j hj => ?_
    · show bpt h (2 + h) T B (2 + h) + s * dirv h T B q (2 + h) = -1
      rw [bpt_end t, dend]; grind
    · have := Rat.mul_nonneg hs (dn j)
      have := bpt_nn (B := B) f hj
      show 0 ≤ bpt h (2 + h) T B j + s * dirv h T B q j
      grind
end
end BW

namespace BW
open PySem PySem.Spec PyProof.Rows L2

/-! ### the text by places -/
def top (i : Nat) : Stmt := PySem.Challenge.pw_bendworks_k01_whole_corners_of_programs.main.body.getD i (.Pass ⟨0, 0, 0, 0⟩)

/-! ### the part of the heap that never changes again (A), and the rest -/
structure Fz (H0 A0 H A : Hp) : Prop where
  sub : Same A H
  ext : Same A0 A
  kee : Same H0 H
  new : ∀ b o, A b = some o → A0 b = some o ∨ H0 b = none
theorem Fz.refl {H A : Hp} (h : Same A H) : Fz H A H A := ⟨h, Same.refl _, Same.refl _, fun _ _ e => .inl e⟩
theorem none_of_same {H H' : Hp} (h : Same H H') {b : Addr} (e : H' b = none) : H b = none := h.free e
theorem Fz.trans {H0 A0 H1 A1 H2 A2 : Hp} (a : Fz H0 A0 H1 A1) (b : Fz H1 A1 H2 A2) : Fz H0 A0 H2 A2 :=
  ⟨b.sub, a.ext.trans b.ext, a.kee.trans b.kee, fun c o e => by
    rcases b.new c o e with z | z
    · exact a.new c o z
    · exact .inr (a.kee.free z)⟩
theorem same_new {H : Hp} {p : Addr} {o : HO} (h : H p = none) : Same H (upd H p o) := fun b x e => by
  rw [upd_ne (ne_of_none e h)]; exact e
/-- a new object that stays as it is -/
theorem Fz.laid {H0 A0 H A : Hp} {p : Addr} {o : HO} (f : Fz H0 A0 H A) (h : H p = none) : Fz H0 A0 (upd H p o) (upd A p o) :=
  ⟨fun b x e => by
    by_cases q : b = p
    · subst q; rw [upd_same] at e ⊢; exact e
    · rw [upd_ne q] at e ⊢; exact f.sub b x e,
   f.ext.trans (same_new (f.sub.free h)), f.kee.trans (same_new h), fun b x e => by
    by_cases q : b = p
    · subst q; exact .inr (f.kee.free h)
    · rw [upd_ne q] at e; exact f.new b x e⟩
/-- a new object that may change -/
theorem Fz.laidM {H0 A0 H A : Hp} {p : Addr} {o : HO} (f : Fz H0 A0 H A) (h : H p = none) : Fz H0 A0 (upd H p o) A :=
  ⟨f.sub.trans (same_new h), f.ext, f.kee.trans (same_new h), f.new⟩
/-- it changes -/
theorem Fz.put {H0 A0 H A : Hp} {p : Addr} {o : HO} (f : Fz H0 A0 H A) (h : A p = none) (h0 : H0 p = none) : Fz H0 A0 (upd H p o) A :=
  ⟨fun b x e => by rw [upd_ne (ne_of_none e h)]; exact f.sub b x e, f.ext, fun b x e => by rw [upd_ne (ne_of_none e h0)]; exact f.kee b x e, f.new⟩
/-- from now on it stays -/
theorem Fz.fix {H0 A0 H A : Hp} {p : Addr} {o : HO} (f : Fz H0 A0 H A) (e : H p = some o) (h : A p = none) (h0 : H0 p = none) : Fz H0 A0 H (upd A p o) :=
  ⟨fun b x q => by
    by_cases z : b = p
    · subst z; rw [upd_same] at q; cases q; exact e
    · rw [upd_ne z] at q; exact f.sub b x q,
   f.ext.trans (same_new h), f.kee, fun b x q => by
    by_cases z : b = p
    · subst z; exact .inr h0
    · rw [upd_ne z] at q; exact f.new b x q⟩
/-- a thing that changes is no part of it behind a call -/
theorem Fz.off {H A H' A' : Hp} {p : Addr} {o : HO} (f : Fz H A H' A') (e : H p = some o) (h : A p = none) : A' p = none := by
  cases q : A' p with
  | none => rfl
  | some x =>
    rcases f.new p x q with z | z
    · rw [h] at z; cases z
    · rw [e] at z; cases z

/-- what a def hands back -/
def Ret (H A : Hp) (Q : VK) (P : Hp → V → Prop) : Prop := ∀ H' A' v, Fz H A H' A' → P A' v → Q v H'
theorem Ret.mono {H A : Hp} {Q : VK} {P P' : Hp → V → Prop} (r : Ret H A Q P) (h : ∀ A' v, P' A' v → P A' v) : Ret H A Q P' := fun H' A' v f p => r H' A' v f (h A' v p)
theorem Ret.go {H A H1 A1 : Hp} {Q : VK} {P : Hp → V → Prop} (r : Ret H A Q P) (f : Fz H A H1 A1) : Ret H1 A1 Q P := fun H' A' v g p => r H' A' v (f.trans g) p

/-! ### what stands in it -/
theorem sameT {K : PySem.W.Frag} {H H' : Hp} {a : Addr} {xs : List V} (e : Same H H') (h : SqT K H a xs) : SqT K H' a xs := by
  rcases h with (plain | ⟨o, frz⟩) | wr
  · exact .inl (.inl (e _ _ plain))
  · exact .inl (.inr ⟨o, e _ _ frz⟩)
  · exact .inr wr
section
variable {K : PySem.W.Frag} {H H' A A' : Hp} {v : V}
/-- a ratio, as a pair in lowest terms -/
def IsR (K : PySem.W.Frag) (A : Hp) (v : V) (r : Rat) : Prop := ∃ p, v = .ref p ∧ SqT K A p [.int r.num, .int (r.den : Int)]
theorem IsR.up {r : Rat} (h : IsR K A v r) (e : Same A A') : IsR K A' v r := let ⟨p, a, b⟩ := h; ⟨p, a, sameT e b⟩
/-- n items, each with what P says -/
def Sq (n : Nat) (P : Nat → V → Prop) (xs : List V) : Prop := xs.length = n ∧ ∀ i, i < n → ∃ x, xs[i]? = some x ∧ P i x
theorem Sq.nil {P : Nat → V → Prop} : Sq 0 P [] := ⟨rfl, fun i h => by omega⟩
theorem Sq.snoc {n : Nat} {P : Nat → V → Prop} {xs : List V} {y : V} (h : Sq n P xs) (p : P n y) : Sq (n + 1) P (xs ++ [y]) := by
  refine ⟨by simp [h.1], fun i hi => ?_⟩
  by_cases e : i < n
  · obtain ⟨x, a, b⟩ := h.2 i e
    exact ⟨x, by rw [List.getElem?_append_left (by rw [h.1]; exact e)]; exact a, b⟩
  · have : i = n := by omega
    subst this
    exact ⟨y, by rw [List.getElem?_append_right (by rw [h.1]; exact Nat.le_refl _), h.1]; simp, p⟩
theorem Sq.mono {n : Nat} {P P' : Nat → V → Prop} {xs : List V} (h : Sq n P xs) (g : ∀ i x, i < n → P i x → P' i x) : Sq n P' xs :=
  ⟨h.1, fun i hi => let ⟨x, a, b⟩ := h.2 i hi; ⟨x, a, g i x hi b⟩⟩
/-- a list of n items -/
def Ls (K : PySem.W.Frag) (A : Hp) (v : V) (n : Nat) (P : Nat → V → Prop) : Prop := ∃ a xs, v = .ref a ∧ SqL K A a xs ∧ Sq n P xs
theorem Ls.up {n : Nat} {P P' : Nat → V → Prop} (h : Ls K A v n P) (e : Same A A') (g : ∀ i x, i < n → P i x → P' i x) : Ls K A' v n P' := let ⟨a, xs, h1, h2, h3⟩ := h; ⟨a, xs, h1, e.seq h2, h3.mono g⟩
/-- a tuple of n items -/
def Tp (K : PySem.W.Frag) (A : Hp) (v : V) (n : Nat) (P : Nat → V → Prop) : Prop := ∃ a xs, v = .ref a ∧ SqT K A a xs ∧ Sq n P xs
theorem Tp.up {n : Nat} {P P' : Nat → V → Prop} (h : Tp K A v n P) (e : Same A A') (g : ∀ i x, i < n → P i x → P' i x) : Tp K A' v n P' := let ⟨a, xs, h1, h2, h3⟩ := h; ⟨a, xs, h1, sameT e h2, h3.mono g⟩
abbrev Row (K : PySem.W.Frag) (A : Hp) (v : V) (n : Nat) (f : Nat → Rat) : Prop := Ls K A v n fun i x => IsR K A x (f i)
theorem rowUp {n : Nat} {f : Nat → Rat} (h : Row K A v n f) (e : Same A A') : Row K A' v n f := Ls.up h e fun _ _ _ p => p.up e
abbrev Tbl (K : PySem.W.Frag) (A : Hp) (v : V) (m n : Nat) (T : Mat) : Prop := Ls K A v m fun i x => Row K A x n (T i)
theorem tblUp {m n : Nat} {T : Mat} (h : Tbl K A v m n T) (e : Same A A') : Tbl K A' v m n T := Ls.up h e fun _ _ _ p => rowUp p e
abbrev Ints (K : PySem.W.Frag) (A : Hp) (v : V) (n : Nat) (f : Nat → Int) : Prop := Ls K A v n fun i x => x = .int (f i)
theorem intsUp {n : Nat} {f : Nat → Int} (h : Ints K A v n f) (e : Same A A') : Ints K A' v n f := Ls.up h e fun _ _ _ p => p
end

/-! ### how great a ratio is -/
def Sz (n : Nat) (r : Rat) : Prop := r.num.natAbs < 2 ^ n ∧ r.den < 2 ^ n
theorem pow_mono {a b : Nat} (h : a ≤ b) : (2 : Nat) ^ a ≤ 2 ^ b := Nat.pow_le_pow_right (by decide) h
theorem Sz.mono {a b : Nat} {r : Rat} (h : Sz a r) (l : a ≤ b) : Sz b r := ⟨Nat.lt_of_lt_of_le h.1 (pow_mono l), Nat.lt_of_lt_of_le h.2 (pow_mono l)⟩
theorem two_pow_ge (n : Nat) : 1 ≤ 2 ^ n := Nat.one_le_two_pow
theorem Sz.int {n : Nat} {a : Int} (h : a.natAbs < 2 ^ n) (h1 : 1 ≤ n) : Sz n (a : Rat) := ⟨by simpa using h, by
  show (1 : Nat) < 2 ^ n
  exact Nat.lt_of_lt_of_le (by decide : 1 < 2 ^ 1) (pow_mono h1)⟩
theorem Sz.zero {n : Nat} (h1 : 1 ≤ n) : Sz n 0 := Sz.int (a := 0) (by simpa using Nat.two_pow_pos n) h1
/-- a quotient of two whole numbers -/
theorem sz_div {n : Nat} {a b : Int} (hb : b ≠ 0) (h1 : a.natAbs < 2 ^ n) (h2 : b.natAbs < 2 ^ n) : Sz n (Rat.divInt a b) := by
  have g0 : 0 < b.gcd a := by
    have := Int.gcd_ne_zero_left (b := a) hb
    omega
  refine ⟨?_, ?_⟩
  · rw [Rat.num_divInt]
    have e1 : (b.sign * a).natAbs = a.natAbs := by
      rw [Int.natAbs_mul, Int.natAbs_sign, if_neg hb, Nat.one_mul]
    have := Int.natAbs_ediv_le_natAbs (b.sign * a) (b.gcd a)
    omega
  · rw [Rat.den_divInt, if_neg hb]
    exact Nat.lt_of_le_of_lt (Nat.div_le_self _ _) h2
theorem Sz.mul {a b : Nat} {x y : Rat} (hx : Sz a x) (hy : Sz b y) : Sz (a + b) (x * y) := by
  have e : x * y = Rat.divInt (x.num * y.num) ((x.den : Int) * y.den) := by
    conv => lhs; rw [← Rat.num_divInt_den x, ← Rat.num_divInt_den y]
    rw [Rat.divInt_mul_divInt]
  rw [e]
  refine sz_div (Int.mul_ne_zero (by simp [x.den_nz]) (by simp [y.den_nz])) ?_ ?_
  · rw [Int.natAbs_mul, Nat.pow_add]; exact Nat.mul_lt_mul'' hx.1 hy.1
  · rw [Int.natAbs_mul, Nat.pow_add]; exact Nat.mul_lt_mul'' (by simpa using hx.2) (by simpa using hy.2)
theorem add_eq {x y : Rat} : x + y = Rat.divInt (x.num * y.den + y.num * x.den) ((x.den : Int) * y.den) := by
  conv => lhs; rw [← Rat.num_divInt_den x, ← Rat.num_divInt_den y]
  rw [Rat.divInt_add_divInt _ _ (by simp [x.den_nz]) (by simp [y.den_nz])]
theorem mul_eq {x y : Rat} : x * y = Rat.divInt (x.num * y.num) ((x.den : Int) * y.den) := by
  conv => lhs; rw [← Rat.num_divInt_den x, ← Rat.num_divInt_den y]
  rw [Rat.divInt_mul_divInt]
theorem div_eq {x y : Rat} : x / y = Rat.divInt (x.num * y.den) ((x.den : Int) * y.num) := by
  conv => lhs; rw [← Rat.num_divInt_den x, ← Rat.num_divInt_den y]
  rw [Rat.div_def, Rat.inv_divInt, Rat.divInt_mul_divInt]
theorem top_lt {a b : Nat} {x y : Rat} (hx : Sz a x) (hy : Sz b y) : (x.num * y.den + y.num * x.den).natAbs < 2 ^ (a + b + 1) := by
  have h1 : (x.num * y.den).natAbs < 2 ^ (a + b) := by rw [Int.natAbs_mul, Nat.pow_add]; exact Nat.mul_lt_mul'' hx.1 (by simpa using hy.2)
  have h2 : (y.num * x.den).natAbs < 2 ^ (a + b) := by rw [Int.natAbs_mul, Nat.add_comm, Nat.pow_add]; exact Nat.mul_lt_mul'' hy.1 (by simpa using hx.2)
  have := Int.natAbs_add_le (x.num * y.den) (y.num * x.den)
  rw [Nat.pow_succ]
  omega
theorem bot_lt {a b : Nat} {x y : Rat} (hx : Sz a x) (hy : Sz b y) : ((x.den : Int) * y.den).natAbs < 2 ^ (a + b) := by
  rw [Int.natAbs_mul, Nat.pow_add]; exact Nat.mul_lt_mul'' (by simpa using hx.2) (by simpa using hy.2)
theorem Sz.add {a b : Nat} {x y : Rat} (hx : Sz a x) (hy : Sz b y) : Sz (a + b + 1) (x + y) := by
  rw [add_eq]
  refine sz_div (Int.mul_ne_zero (by simp [x.den_nz]) (by simp [y.den_nz])) (top_lt hx hy) ?_
  exact Nat.lt_of_lt_of_le (bot_lt hx hy) (pow_mono (by omega))
theorem Sz.neg {a : Nat} {x : Rat} (hx : Sz a x) : Sz a (-x) := ⟨by rw [Rat.neg_num, Int.natAbs_neg]; exact hx.1, by rw [Rat.neg_den]; exact hx.2⟩
theorem Sz.sub {a b : Nat} {x y : Rat} (hx : Sz a x) (hy : Sz b y) : Sz (a + b + 1) (x - y) := by
  rw [Rat.sub_eq_add_neg]; exact hx.add hy.neg
theorem Sz.div {a b : Nat} {x y : Rat} (hx : Sz a x) (hy : Sz b y) (h0 : y ≠ 0) : Sz (a + b) (x / y) := by
  rw [div_eq]
  have yn : y.num ≠ 0 := fun e => h0 (Rat.num_eq_zero.mp e)
  refine sz_div (Int.mul_ne_zero (by simp [x.den_nz]) yn) ?_ ?_
  · rw [Int.natAbs_mul, Nat.pow_add]; exact Nat.mul_lt_mul'' hx.1 (by simpa using hy.2)
  · rw [Int.natAbs_mul, Nat.pow_add]; exact Nat.mul_lt_mul'' (by simpa using hx.2) hy.1

/-! ### numbers: two rules for great ones -/
def CDivA (_ j : Int) : Prop := j ≠ 0 ∧ j.natAbs < 2 ^ 9000
theorem op_fdivA {X : Cx} : OpR X (binaryOp .FloorDiv) (rI CDivA fun i j => .int (i.fdiv j)) := opI fun i j _ _ _ _ _ hc q =>
  floordiv_int hc.1 q (.inl (PyProof.noPylong_of_log2 (PySem.Flt.log2_lt_of (by decide) hc.2)))

/-! ### readings of items -/
section
variable {K : PySem.W.Frag} {H A : Hp} {v : V} {Q : VK} {σ : L2.St}
theorem ixTop {r : Rat} (s : Same A H) (h : IsR K A v r) (q : Q (.int r.num) H) : tC (.int 0) σ H (fun y H2 => rIxT K v y H2 Q) := by
  obtain ⟨p, rfl, hp⟩ := h
  exact ⟨p, _, 0, _, rfl, rfl, sameT s hp, atI_nat (j := 0) rfl, q⟩
theorem ixBot {r : Rat} (s : Same A H) (h : IsR K A v r) (q : Q (.int (r.den : Int)) H) : tC (.int 1) σ H (fun y H2 => rIxT K v y H2 Q) := by
  obtain ⟨p, rfl, hp⟩ := h
  exact ⟨p, _, 1, _, rfl, rfl, sameT s hp, atI_nat (j := 1) rfl, q⟩
theorem ixL {n i : Nat} {P : Nat → V → Prop} (s : Same A H) (h : Ls K A v n P) (hi : i < n) (q : ∀ x, P i x → Q x H) : rIxL K v (.int (i : Int)) H Q := by
  obtain ⟨a, xs, rfl, hL, hS⟩ := h
  obtain ⟨x, e, p⟩ := hS.2 i hi
  exact ⟨a, xs, (i : Int), x, rfl, rfl, s.seq hL, atI_nat e, q x p⟩
theorem ixT {n i : Nat} {P : Nat → V → Prop} (s : Same A H) (h : Tp K A v n P) (hi : i < n) (q : ∀ x, P i x → Q x H) : rIxT K v (.int (i : Int)) H Q := by
  obtain ⟨a, xs, rfl, hL, hS⟩ := h
  obtain ⟨x, e, p⟩ := hS.2 i hi
  exact ⟨a, xs, (i : Int), x, rfl, rfl, sameT s hL, atI_nat e, q x p⟩
theorem atI_end {xs : List V} {x : V} {n : Nat} (hl : xs.length = n + 1) (e : xs[n]? = some x) : atI xs (-1) = some x := by
  have e1 : ixN xs.length (-1) = some n := by
    unfold ixN; rw [hl, if_neg (by decide), if_pos (by omega)]
    congr 1
    omega
  unfold atI
  rw [e1]
  exact e
theorem ixEnd {n : Nat} {P : Nat → V → Prop} (s : Same A H) (h : Ls K A v (n + 1) P) (q : ∀ x, P n x → Q x H) : rIxL K v (.int (-1)) H Q := by
  obtain ⟨a, xs, rfl, hL, hS⟩ := h
  obtain ⟨x, e, p⟩ := hS.2 n (by omega)
  exact ⟨a, xs, -1, x, rfl, rfl, s.seq hL, atI_end hS.1 e, q x p⟩
end

end BW

namespace BW
open PySem PySem.Spec PyProof.Rows L2

/-- the names that the text leans on -/
structure Txt (K : PySem.W.Frag) (mg : Str → Option Value) : Prop where
  abs : mg "abs" = none
  len : mg "len" = none
  isinstance : mg "isinstance" = none
  int : mg "int" = none
  bool : mg "bool" = none
  tuple : mg "tuple" = none
  range : mg "range" = none
  zip : mg "zip" = none
  enumerate : mg "enumerate" = none
  any : mg "any" = none
  all : mg "all" = none
  list : mg "list" = none
  zero : ∃ z, mg "ZERO" = some (.ref z) ∧ ∀ H, SqT K H z [.int 0, .int 1]
  one : ∃ z, mg "ONE" = some (.ref z) ∧ ∀ H, SqT K H z [.int 1, .int 1]
  rows : ∃ t, mg "MOST_ROWS" = some (.int 8 t)
  wide : ∃ t, mg "MOST_WIDE" = some (.int 8 t)
  size : ∃ t, mg "MOST_SIZE" = some (.int 1000 t)

theorem ifT {c : Bool} {A B : Prop} (hc : c = true) (h : A) : if c = true then A else B := by rw [if_pos hc]; exact h
theorem ifF {c : Bool} {A B : Prop} (hc : c = false) (h : B) : if c = true then A else B := by rw [hc]; exact iteF h
/-- a def of the module that keeps a promise -/
def Has (P : Program) (w : World) (K : PySem.W.Frag) (mg : Str → Option Value) (base : Heap) (C : CXT) (k : Nat) (x : Str) (ps : List Str) (sp : Sp) : Prop :=
  ∃ (f : Addr) (fd : FuncData), FnOk P w K mg base C k f fd ps sp ∧ mg x = some (.ref f) ∧ PySem.W.keepIn K (.ref f) = true ∧ Binds K fd ps []

abbrev sShared : Stmt := top 10
abbrev sRatio : Stmt := top 11
abbrev sPlus : Stmt := top 12
abbrev sMinus : Stmt := top 13
abbrev sTimes : Stmt := top 14
abbrev sOver : Stmt := top 15
abbrev sNegative : Stmt := top 16
abbrev sLess : Stmt := top 17
theorem scShared : FnScope ["one", "other"] ["one", "other"] (defScope sShared) := ⟨rfl, rfl, rfl, by decide +kernel, rfl, by decide +kernel, by decide +kernel⟩
theorem scRatio : FnScope ["top", "bottom", "divisor"] ["top", "bottom"] (defScope sRatio) := ⟨rfl, rfl, rfl, by decide +kernel, rfl, by decide +kernel, by decide +kernel⟩
theorem scPlus : FnScope ["one", "other"] ["one", "other"] (defScope sPlus) := ⟨rfl, rfl, rfl, by decide +kernel, rfl, by decide +kernel, by decide +kernel⟩
theorem scMinus : FnScope ["one", "other"] ["one", "other"] (defScope sMinus) := ⟨rfl, rfl, rfl, by decide +kernel, rfl, by decide +kernel, by decide +kernel⟩
theorem scTimes : FnScope ["one", "other"] ["one", "other"] (defScope sTimes) := ⟨rfl, rfl, rfl, by decide +kernel, rfl, by decide +kernel, by decide +kernel⟩
theorem scOver : FnScope ["one", "other"] ["one", "other"] (defScope sOver) := ⟨rfl, rfl, rfl, by decide +kernel, rfl, by decide +kernel, by decide +kernel⟩
theorem scNegative : FnScope ["one"] ["one"] (defScope sNegative) := ⟨rfl, rfl, rfl, by decide +kernel, rfl, by decide +kernel, by decide +kernel⟩
theorem scLess : FnScope ["one", "other"] ["one", "other"] (defScope sLess) := ⟨rfl, rfl, rfl, by decide +kernel, rfl, by decide +kernel, by decide +kernel⟩

section
variable {P : Program} {w : World} {K : PySem.W.Frag} {mg : Str → Option Value} {base : Heap}

/-! ### shared -/
def spShared : Sp := fun vs H Q _ => ∃ a b : Int, vs = [.int a, .int b] ∧ Q (.int (Int.gcd a b)) H
theorem ok_shared {f : Addr} {fd : FuncData} (F : Fun K "shared" "shared" sShared f fd) (T : Txt K mg) : FnOk P w K mg base CX0 1 f fd ["one", "other"] spShared := by
  refine F.ok scShared (fun vs H Q E h => ?_) (fun cdv A outer s H vs Q E hr h => ?_)
  · obtain ⟨a, b, rfl, _⟩ := h; rfl
  · obtain ⟨a, b, rfl, q⟩ := h
    refine ⟨_, pss_cons (ps_par (i := 0) (j := 1) rfl scShared.nd rfl rfl (by decide) rfl rfl
        (pa_cons (pe_callB call_abs (by rfl) T.abs boot_abs (pa_cons (pv 0) pa_nil)) (pa_cons (pe_callB call_abs (by rfl) T.abs boot_abs (pa_cons (pv 1) pa_nil)) pa_nil)) rfl)
      (pss_cons (ps_while PassesOwn.never (pt_cmpR op_ne (pv 1) pe_int (nomark _))
        (pss_one (ps_par (i := 0) (j := 1) rfl scShared.nd rfl rfl (by decide) rfl rfl (pa_cons (pv 1) (pa_cons (pe_op op_mod (pv 0) (pv 1)) pa_nil)) rfl)))
      (pss_one (ps_ret (pv 0)))), ?_⟩
    refine ⟨.int a, rfl, a, rfl, .int b, rfl, b, rfl, _, _, rfl, ?_⟩
    have ea : ∀ z : Int, (if z < 0 then -z else z) = ((z.natAbs : Nat) : Int) := fun z => by split <;> omega
    refine ⟨fun m σ H' => ∃ x y : Nat, σ = [some (.int (x : Int)), some (.int (y : Int))] ∧ m = y ∧ Nat.gcd x y = Int.gcd a b ∧ H' = H,
      ⟨b.natAbs, a.natAbs, b.natAbs, by rw [ea a, ea b]; rfl, rfl, rfl, rfl⟩, ?_⟩
    rintro m σ H' ⟨x, y, rfl, rfl, eg, rfl⟩
    refine ⟨.int (m : Int), rfl, rfl, _, rfl, ?_⟩
    by_cases hy : m = 0
    · subst hy
      refine iteF ?_
      refine ⟨.int (x : Int), rfl, ?_⟩
      rw [Nat.gcd_zero_right] at eg
      rw [eg]; exact q
    · have hd : (!decide (V.int (m : Int) = V.int 0)) = true := by
        rw [decide_eq_false (fun e => hy (by have := V.int.inj e; omega))]; rfl
      refine ifT hd ?_
      refine ⟨fun σ' H'' => ∃ x y : Nat, σ' = [some (.int (x : Int)), some (.int (y : Int))] ∧ y < m ∧ Nat.gcd x y = Int.gcd a b ∧ H'' = H',
        fun σ' H'' ⟨x, y, e1, e2, e3, e4⟩ => ⟨y, e2, x, y, e1, rfl, e3, e4⟩, ?_⟩
      refine ⟨.int (m : Int), rfl, .int (x : Int), rfl, .int (m : Int), rfl, _, _, rfl, rfl, (by show (0 : Int) < m; omega), _, _, rfl, ?_⟩
      refine ⟨m, x % m, ?_, Nat.mod_lt _ (by omega), ?_, rfl⟩
      · rw [show ((x % m : Nat) : Int) = (x : Int) % (m : Int) from Int.natCast_emod x m]; rfl
      · rw [← eg, Nat.gcd_comm x m]; exact (Nat.gcd_rec m x ▸ (Nat.gcd_comm _ _))

/-! ### ratio -/
theorem divInt_num {t b : Int} (hb : 0 < b) : (Rat.divInt t b).num = t / (Int.gcd t b : Int) := by
  rw [Rat.num_divInt, Int.sign_eq_one_of_pos hb, Int.one_mul, Int.gcd_comm]
theorem divInt_den {t b : Int} (hb : 0 < b) : ((Rat.divInt t b).den : Int) = b / (Int.gcd t b : Int) := by
  rw [Rat.den_divInt, if_neg (by omega), Int.gcd_comm]
  have : ((b.natAbs : Nat) : Int) = b := by omega
  rw [Int.natCast_ediv, this]
def spRatio (K : PySem.W.Frag) : Sp := fun vs H Q _ => ∃ (A : Hp) (t b : Int), vs = [.int t, .int b] ∧ Same A H ∧ b ≠ 0 ∧ b.natAbs < 2 ^ 8900 ∧ Ret H A Q fun A' v => IsR K A' v (Rat.divInt t b)
theorem ok_ratio {f : Addr} {fd : FuncData} (F : Fun K "ratio" "ratio" sRatio f fd) (T : Txt K mg) (hS : Has P w K mg base CX0 1 "shared" ["one", "other"] spShared) : FnOk P w K mg base CX0 2 f fd ["top", "bottom"] (spRatio K) := by
  obtain ⟨fS, fdS, GS, gS, kS, bS⟩ := hS
  obtain ⟨z, gz, tz⟩ := T.zero
  refine F.ok scRatio (fun vs H Q E h => ?_) (fun cdv A₀ outer s H vs Q E hr h => ?_)
  · obtain ⟨A, a, b, rfl, _⟩ := h; rfl
  · obtain ⟨A, t, b, rfl, sAH, hb, hbz, q⟩ := h
    refine ⟨_, pss_cons (ps_if (pt_cmpR op_eq (pv 0) pe_int (nomark _)) (pss_one (ps_ret (pe_glob (v := .ref z) rfl gz rfl))) pss_nil)
      (pss_cons (ps_set (i := 2) scRatio.nd rfl (.inl rfl) (pe_call GS hr rfl gS kS bS .nil pass0 (pa_cons (pv 0) (pa_cons (pv 1) pa_nil))))
      (pss_cons (ps_if (pt_cmpR op_lt (pv 1) pe_int (nomark _)) (pss_one (ps_set (i := 2) scRatio.nd rfl (.inl rfl) (pe_un un_neg (pv 2)))) pss_nil)
      (pss_one (ps_ret (pe_tup (pa_cons (pe_op op_fdivA (pv 0) (pv 2)) (pa_cons (pe_op op_fdivA (pv 1) (pv 2)) pa_nil))))))), ?_⟩
    refine ⟨.int t, rfl, rfl, _, rfl, ite2 (fun e => ?_) (fun e => ?_)⟩
    · have e0 : t = 0 := V.int.inj (of_decide_eq_true e)
      subst e0
      refine q H A _ (Fz.refl sAH) ⟨z, rfl, ?_⟩
      rw [Rat.zero_divInt]
      exact tz A
    · have gp : 0 < Int.gcd t b := by
        have := Int.gcd_ne_zero_right (a := t) hb
        omega
      have gl : Int.gcd t b ≤ b.natAbs := Nat.le_of_dvd (by omega) (Int.gcd_dvd_natAbs_right t b)
      have dt : (Int.gcd t b : Int) ∣ t := Int.gcd_dvd_left t b
      have db : (Int.gcd t b : Int) ∣ b := Int.gcd_dvd_right t b
      refine ⟨.int t, rfl, .int b, rfl, t, b, rfl, ?_⟩
      refine ⟨.int b, rfl, _, _, rfl, rfl, _, rfl, ite2 (fun e2 => ?_) (fun e2 => ?_)⟩
      · have hneg : b < 0 := of_decide_eq_true e2
        refine ⟨_, rfl, _, rfl, ?_⟩
        refine ⟨.int t, rfl, _, rfl, t, -(Int.gcd t b : Int), rfl, rfl, ⟨by omega, by omega⟩, .int b, rfl, _, rfl, b, -(Int.gcd t b : Int), rfl, rfl, ⟨by omega, by omega⟩, (by show 2 ≤ sizeLine; decide), fun p hp => ?_⟩
        refine q _ _ _ ((Fz.refl sAH).laid hp) ⟨p, rfl, ?_⟩
        have e3 : Rat.divInt t b = Rat.divInt (-t) (-b) := (Rat.neg_divInt_neg t b).symm
        have e4 : (Rat.divInt t b).num = t.fdiv (-(Int.gcd t b : Int)) := by
          rw [e3, divInt_num (by omega), Int.gcd_neg, Int.neg_gcd, Int.fdiv_eq_ediv_of_dvd (Int.neg_dvd.mpr dt), Int.ediv_neg, Int.neg_ediv_of_dvd dt]
        have e5 : ((Rat.divInt t b).den : Int) = b.fdiv (-(Int.gcd t b : Int)) := by
          rw [e3, divInt_den (by omega), Int.gcd_neg, Int.neg_gcd, Int.fdiv_eq_ediv_of_dvd (Int.neg_dvd.mpr db), Int.ediv_neg, Int.neg_ediv_of_dvd db]
        rw [e4, e5]
        exact SqT.of upd_same
      · have hpos : 0 < b := by
          have : ¬ b < 0 := fun h => e2 (decide_eq_true h)
          omega
        refine ⟨.int t, rfl, _, rfl, t, (Int.gcd t b : Int), rfl, rfl, ⟨by omega, by omega⟩, .int b, rfl, _, rfl, b, (Int.gcd t b : Int), rfl, rfl, ⟨by omega, by omega⟩, (by show 2 ≤ sizeLine; decide), fun p hp => ?_⟩
        refine q _ _ _ ((Fz.refl sAH).laid hp) ⟨p, rfl, ?_⟩
        have e4 : (Rat.divInt t b).num = t.fdiv (Int.gcd t b : Int) := by
          rw [divInt_num hpos, Int.fdiv_eq_ediv_of_dvd dt]
        have e5 : ((Rat.divInt t b).den : Int) = b.fdiv (Int.gcd t b : Int) := by
          rw [divInt_den hpos, Int.fdiv_eq_ediv_of_dvd db]
        rw [e4, e5]
        exact SqT.of upd_same
/-! ### plus, minus, times, over, negative, is_less -/
theorem den_pos (x : Rat) : (0 : Int) < x.den := by have := x.den_nz; omega
def spR2 (K : PySem.W.Frag) (pre : Rat → Rat → Prop) (g : Rat → Rat → Rat) : Sp := fun vs H Q _ => ∃ (A : Hp) (a b : V) (x y : Rat), vs = [a, b] ∧ Same A H ∧ IsR K A a x ∧ IsR K A b y ∧ pre x y ∧ Ret H A Q fun A' v => IsR K A' v (g x y)
def bySz (x y : Rat) : Prop := Sz 4000 x ∧ Sz 4000 y
abbrev spPlus (K : PySem.W.Frag) : Sp := spR2 K bySz fun x y => x + y
abbrev spMinus (K : PySem.W.Frag) : Sp := spR2 K bySz fun x y => x - y
abbrev spTimes (K : PySem.W.Frag) : Sp := spR2 K bySz fun x y => x * y
abbrev spOver (K : PySem.W.Frag) : Sp := spR2 K (fun x y => bySz x y ∧ y ≠ 0) fun x y => x / y
theorem mulW {a b : Int} {n m : Nat} (ha : a.natAbs < 2 ^ n) (hb : b.natAbs < 2 ^ m) (hn : 0 < n := by decide) (hm : 0 < m := by decide) (h : n + m ≤ 1000000 := by decide) : CMulW a b := wide_mul ha hb hn hm h
theorem Sz.dn {n : Nat} {x : Rat} (h : Sz n x) : (x.den : Int).natAbs < 2 ^ n := by simpa using h.2
theorem int_rat {a : Int} : ((a : Rat)).num = a ∧ (a : Rat).den = 1 := ⟨rfl, rfl⟩
theorem isr_int {A : Hp} {p : Addr} {a : Int} (h : A p = some (.tup [.int a, .int 1])) : IsR K A (.ref p) (a : Rat) := ⟨p, rfl, SqT.of h⟩
theorem ok_plus {f : Addr} {fd : FuncData} (F : Fun K "plus" "plus" sPlus f fd) (T : Txt K mg) (hS : Has P w K mg base CX0 2 "ratio" ["top", "bottom"] (spRatio K)) : FnOk P w K mg base CX0 3 f fd ["one", "other"] (spPlus K) := by
  obtain ⟨fS, fdS, GS, gS, kS, bS⟩ := hS
  refine F.ok scPlus (fun vs H Q E h => ?_) (fun cdv A₀ outer s H vs Q E hr h => ?_)
  · obtain ⟨A, a, b, x, y, rfl, _⟩ := h; rfl
  · obtain ⟨A, a, b, x, y, rfl, s0, hx, hy, ⟨zx, zy⟩, q⟩ := h
    refine ⟨_, pss_cons (ps_if (pt_chain op_eq op_eq (pe_ix ix_tup (pv 0) pe_int (fun _ _ => rfl)) (pe_ix ix_tup (pv 1) pe_int (fun _ _ => rfl)) pe_int)
        (pss_one (ps_ret (pe_tup (pa_cons (pe_op op_add (pe_ix ix_tup (pv 0) pe_int (fun _ _ => rfl)) (pe_ix ix_tup (pv 1) pe_int (fun _ _ => rfl))) (pa_cons pe_int pa_nil))))) pss_nil)
      (pss_one (ps_ret (pe_call GS hr rfl gS kS bS .nil pass0 (pa_cons (pe_op op_add
        (pe_op op_mulW (pe_ix ix_tup (pv 0) pe_int (fun _ _ => rfl)) (pe_ix ix_tup (pv 1) pe_int (fun _ _ => rfl)))
        (pe_op op_mulW (pe_ix ix_tup (pv 1) pe_int (fun _ _ => rfl)) (pe_ix ix_tup (pv 0) pe_int (fun _ _ => rfl))))
        (pa_cons (pe_op op_mulW (pe_ix ix_tup (pv 0) pe_int (fun _ _ => rfl)) (pe_ix ix_tup (pv 1) pe_int (fun _ _ => rfl))) pa_nil))))), ?_⟩
    have rest : ∀ D : Ends, D.rt = Q → tCall (spRatio K) [] E0 (tCons (tOp (rI0 fun i j => .int (i + j)) (tOp (rI CMulW fun i j => .int (i * j)) (tOp (rIxT K) (tVar 0) (tC (.int 0))) (tOp (rIxT K) (tVar 1) (tC (.int 1)))) (tOp (rI CMulW fun i j => .int (i * j)) (tOp (rIxT K) (tVar 1) (tC (.int 0))) (tOp (rIxT K) (tVar 0) (tC (.int 1))))) (tCons (tOp (rI CMulW fun i j => .int (i * j)) (tOp (rIxT K) (tVar 0) (tC (.int 1))) (tOp (rIxT K) (tVar 1) (tC (.int 1)))) tNil)) (start ["one", "other"] [a, b]) H D.rt := by
      intro D eD
      refine ⟨a, rfl, ixTop s0 hx ⟨b, rfl, ixBot s0 hy ⟨_, _, rfl, rfl, mulW zx.1 zy.dn, ?_⟩⟩⟩
      refine ⟨b, rfl, ixTop s0 hy ⟨a, rfl, ixBot s0 hx ⟨_, _, rfl, rfl, mulW zy.1 zx.dn, ?_⟩⟩⟩
      refine ⟨_, _, rfl, rfl, a, rfl, ixBot s0 hx ⟨b, rfl, ixBot s0 hy ⟨_, _, rfl, rfl, mulW zx.dn zy.dn, ?_⟩⟩⟩
      refine ⟨A, _, _, rfl, s0, ?_, Nat.lt_of_lt_of_le (bot_lt zx zy) (pow_mono (by decide)), ?_⟩
      · exact Int.mul_ne_zero (by have := den_pos x; omega) (by have := den_pos y; omega)
      · rw [eD]
        exact q.mono fun A' v h => by show IsR K A' v (x + y); rw [add_eq]; exact h
    refine ⟨a, rfl, ixBot s0 hx ⟨b, rfl, ixBot s0 hy ⟨rfl, _, rfl, ite2 (fun e => ?_) (fun e => ?_)⟩⟩⟩
    · have e1 : (x.den : Int) = y.den := V.int.inj (of_decide_eq_true e)
      refine ⟨rfl, _, rfl, ite2 (fun e2 => ?_) (fun e2 => ?_)⟩
      · have e3 : (y.den : Int) = 1 := V.int.inj (of_decide_eq_true e2)
        refine ⟨a, rfl, ixTop s0 hx ⟨b, rfl, ixTop s0 hy ⟨_, _, rfl, rfl, (by show 2 ≤ sizeLine; decide), fun p hp => ?_⟩⟩⟩
        refine q _ _ _ ((Fz.refl s0).laid hp) ?_
        have e4 : x + y = ((x.num + y.num : Int) : Rat) := by
          have hx1 : x.den = 1 := by omega
          have hy1 : y.den = 1 := by omega
          have ex : x = (x.num : Rat) := Rat.ext rfl hx1
          have ey : y = (y.num : Rat) := Rat.ext rfl hy1
          rw [Rat.intCast_add, ← ex, ← ey]
        show IsR K _ _ (x + y)
        rw [e4]
        exact isr_int upd_same
      · exact rest _ rfl
    · exact ⟨_, rfl, iteF (rest _ rfl)⟩
theorem ok_times {f : Addr} {fd : FuncData} (F : Fun K "times" "times" sTimes f fd) (T : Txt K mg) (hS : Has P w K mg base CX0 2 "ratio" ["top", "bottom"] (spRatio K)) : FnOk P w K mg base CX0 3 f fd ["one", "other"] (spTimes K) := by
  obtain ⟨fS, fdS, GS, gS, kS, bS⟩ := hS
  obtain ⟨z, gz, tz⟩ := T.zero
  refine F.ok scTimes (fun vs H Q E h => ?_) (fun cdv A₀ outer s H vs Q E hr h => ?_)
  · obtain ⟨A, a, b, x, y, rfl, _⟩ := h; rfl
  · obtain ⟨A, a, b, x, y, rfl, s0, hx, hy, ⟨zx, zy⟩, q⟩ := h
    refine ⟨_, pss_cons (ps_if (PW.pt (pw_or (pt_cmpR op_eq (pe_ix ix_tup (pv 0) pe_int (fun _ _ => rfl)) pe_int (nomark _)) (pw_or1 (pt_cmpR op_eq (pe_ix ix_tup (pv 1) pe_int (fun _ _ => rfl)) pe_int (nomark _)))))
        (pss_one (ps_ret (pe_glob (v := .ref z) rfl gz rfl))) pss_nil)
      (pss_one (ps_ret (pe_call GS hr rfl gS kS bS .nil pass0 (pa_cons (pe_op op_mulW (pe_ix ix_tup (pv 0) pe_int (fun _ _ => rfl)) (pe_ix ix_tup (pv 1) pe_int (fun _ _ => rfl)))
        (pa_cons (pe_op op_mulW (pe_ix ix_tup (pv 0) pe_int (fun _ _ => rfl)) (pe_ix ix_tup (pv 1) pe_int (fun _ _ => rfl))) pa_nil))))), ?_⟩
    have nul : x.num = 0 ∨ y.num = 0 → Q (.ref z) H := fun h => by
      refine q H A _ (Fz.refl s0) ?_
      have : x * y = 0 := by
        rcases h with h | h
        · rw [Rat.num_eq_zero.mp h, Rat.zero_mul]
        · rw [Rat.num_eq_zero.mp h, Rat.mul_zero]
      show IsR K _ _ (x * y)
      exact ⟨z, rfl, by rw [this]; exact tz A⟩
    refine ⟨a, rfl, ixTop s0 hx ⟨rfl, _, rfl, ite2 (fun e => ?_) (fun e => ?_)⟩⟩
    · exact iteT (nul (.inl (V.int.inj (of_decide_eq_true e))))
    · refine ⟨b, rfl, ixTop s0 hy ⟨rfl, _, rfl, ite2 (fun e => ?_) (fun e => ?_)⟩⟩
      · exact nul (.inr (V.int.inj (of_decide_eq_true e)))
      · refine ⟨a, rfl, ixTop s0 hx ⟨b, rfl, ixTop s0 hy ⟨_, _, rfl, rfl, mulW zx.1 zy.1, ?_⟩⟩⟩
        refine ⟨a, rfl, ixBot s0 hx ⟨b, rfl, ixBot s0 hy ⟨_, _, rfl, rfl, mulW zx.dn zy.dn, ?_⟩⟩⟩
        refine ⟨A, _, _, rfl, s0, ?_, Nat.lt_of_lt_of_le (bot_lt zx zy) (pow_mono (by decide)), ?_⟩
        · exact Int.mul_ne_zero (by have := den_pos x; omega) (by have := den_pos y; omega)
        · exact q.mono fun A' v h => by show IsR K A' v (x * y); rw [mul_eq]; exact h
theorem ok_over {f : Addr} {fd : FuncData} (F : Fun K "over" "over" sOver f fd) (T : Txt K mg) (hS : Has P w K mg base CX0 2 "ratio" ["top", "bottom"] (spRatio K)) : FnOk P w K mg base CX0 3 f fd ["one", "other"] (spOver K) := by
  obtain ⟨fS, fdS, GS, gS, kS, bS⟩ := hS
  refine F.ok scOver (fun vs H Q E h => ?_) (fun cdv A₀ outer s H vs Q E hr h => ?_)
  · obtain ⟨A, a, b, x, y, rfl, _⟩ := h; rfl
  · obtain ⟨A, a, b, x, y, rfl, s0, hx, hy, ⟨⟨zx, zy⟩, y0⟩, q⟩ := h
    refine ⟨_, (pss_one (ps_ret (pe_call GS hr rfl gS kS bS .nil pass0 (pa_cons (pe_op op_mulW (pe_ix ix_tup (pv 0) pe_int (fun _ _ => rfl)) (pe_ix ix_tup (pv 1) pe_int (fun _ _ => rfl)))
        (pa_cons (pe_op op_mulW (pe_ix ix_tup (pv 0) pe_int (fun _ _ => rfl)) (pe_ix ix_tup (pv 1) pe_int (fun _ _ => rfl))) pa_nil))))), ?_⟩
    refine ⟨a, rfl, ixTop s0 hx ⟨b, rfl, ixBot s0 hy ⟨_, _, rfl, rfl, mulW zx.1 zy.dn, ?_⟩⟩⟩
    refine ⟨a, rfl, ixBot s0 hx ⟨b, rfl, ixTop s0 hy ⟨_, _, rfl, rfl, mulW zx.dn zy.1, ?_⟩⟩⟩
    refine ⟨A, _, _, rfl, s0, ?_, ?_, ?_⟩
    · exact Int.mul_ne_zero (by have := den_pos x; omega) (fun e => y0 (Rat.num_eq_zero.mp e))
    · exact Nat.lt_of_lt_of_le (wide_lt zx.dn zy.1) (pow_mono (by decide))
    · exact q.mono fun A' v h => by show IsR K A' v (x / y); rw [div_eq]; exact h
theorem ok_minus {f : Addr} {fd : FuncData} (F : Fun K "minus" "minus" sMinus f fd) (T : Txt K mg) (hS : Has P w K mg base CX0 3 "plus" ["one", "other"] (spPlus K)) : FnOk P w K mg base CX0 4 f fd ["one", "other"] (spMinus K) := by
  obtain ⟨fS, fdS, GS, gS, kS, bS⟩ := hS
  refine F.ok scMinus (fun vs H Q E h => ?_) (fun cdv A₀ outer s H vs Q E hr h => ?_)
  · obtain ⟨A, a, b, x, y, rfl, _⟩ := h; rfl
  · obtain ⟨A, a, b, x, y, rfl, s0, hx, hy, ⟨zx, zy⟩, q⟩ := h
    refine ⟨_, (pss_one (ps_ret (pe_call GS hr rfl gS kS bS .nil pass0 (pa_cons (pv 0) (pa_cons (pe_tup (pa_cons (pe_un un_neg (pe_ix ix_tup (pv 1) pe_int (fun _ _ => rfl))) (pa_cons (pe_ix ix_tup (pv 1) pe_int (fun _ _ => rfl)) pa_nil))) pa_nil))))), ?_⟩
    refine ⟨a, rfl, b, rfl, ixTop s0 hy ⟨_, rfl, b, rfl, ixBot s0 hy ⟨(by show 2 ≤ sizeLine; decide), fun p hp => ?_⟩⟩⟩
    have f1 := (Fz.refl s0).laid (o := .tup [.int (-y.num), .int (y.den : Int)]) hp
    refine ⟨_, _, _, x, -y, rfl, f1.sub, hx.up f1.ext, ⟨p, rfl, SqT.of upd_same⟩, ⟨zx, zy.neg⟩, ?_⟩
    exact (q.go f1).mono fun A' v h => by show IsR K A' v (x - y); rw [Rat.sub_eq_add_neg]; exact h
def spNeg (K : PySem.W.Frag) : Sp := fun vs H Q _ => ∃ (A : Hp) (a : V) (x : Rat), vs = [a] ∧ Same A H ∧ IsR K A a x ∧ Ret H A Q fun A' v => IsR K A' v (-x)
theorem ok_negative {f : Addr} {fd : FuncData} (F : Fun K "negative" "negative" sNegative f fd) : FnOk P w K mg base CX0 1 f fd ["one"] (spNeg K) := by
  refine F.ok scNegative (fun vs H Q E h => ?_) (fun cdv A₀ outer s H vs Q E hr h => ?_)
  · obtain ⟨A, a, x, rfl, _⟩ := h; rfl
  · obtain ⟨A, a, x, rfl, s0, hx, q⟩ := h
    refine ⟨_, (pss_one (ps_ret (pe_tup (pa_cons (pe_un un_neg (pe_ix ix_tup (pv 0) pe_int (fun _ _ => rfl))) (pa_cons (pe_ix ix_tup (pv 0) pe_int (fun _ _ => rfl)) pa_nil))))), ?_⟩
    refine ⟨a, rfl, ixTop s0 hx ⟨_, rfl, a, rfl, ixBot s0 hx ⟨(by show 2 ≤ sizeLine; decide), fun p hp => ?_⟩⟩⟩
    exact q _ _ _ ((Fz.refl s0).laid hp) ⟨p, rfl, SqT.of upd_same⟩
theorem lt_cross {x y : Rat} : x < y ↔ x.num * y.den < y.num * x.den := Rat.lt_iff x y
def spLess (K : PySem.W.Frag) : Sp := fun vs H Q _ => ∃ (A : Hp) (a b : V) (x y : Rat), vs = [a, b] ∧ Same A H ∧ IsR K A a x ∧ IsR K A b y ∧ bySz x y ∧ Q (.bl (decide (x < y))) H
theorem ok_less {f : Addr} {fd : FuncData} (F : Fun K "is_less" "is_less" sLess f fd) : FnOk P w K mg base CX0 1 f fd ["one", "other"] (spLess K) := by
  refine F.ok scLess (fun vs H Q E h => ?_) (fun cdv A₀ outer s H vs Q E hr h => ?_)
  · obtain ⟨A, a, b, x, y, rfl, _⟩ := h; rfl
  · obtain ⟨A, a, b, x, y, rfl, s0, hx, hy, ⟨zx, zy⟩, q⟩ := h
    refine ⟨_, (pss_one (ps_ret (pe_cmpR op_lt (pe_op op_mulW (pe_ix ix_tup (pv 0) pe_int (fun _ _ => rfl)) (pe_ix ix_tup (pv 1) pe_int (fun _ _ => rfl))) (pe_op op_mulW (pe_ix ix_tup (pv 1) pe_int (fun _ _ => rfl)) (pe_ix ix_tup (pv 0) pe_int (fun _ _ => rfl))) (nomark _)))), ?_⟩
    refine ⟨a, rfl, ixTop s0 hx ⟨b, rfl, ixBot s0 hy ⟨_, _, rfl, rfl, mulW zx.1 zy.dn, ?_⟩⟩⟩
    refine ⟨b, rfl, ixTop s0 hy ⟨a, rfl, ixBot s0 hx ⟨_, _, rfl, rfl, mulW zy.1 zx.dn, ?_⟩⟩⟩
    refine ⟨_, _, rfl, rfl, ?_⟩
    have e : decide (x < y) = decide (x.num * y.den < y.num * x.den) := decide_eq_decide.mpr lt_cross
    rw [e] at q
    exact q
end
end BW

namespace BW
open PySem PySem.Spec PyProof.Rows L2
abbrev sTotal : Stmt := top 18
abbrev sInner : Stmt := top 19
abbrev sLowered : Stmt := top 21
theorem scTotal : FnScope ["some", "found", "one"] ["some"] (defScope sTotal) := ⟨rfl, rfl, rfl, by decide +kernel, rfl, by decide +kernel, by decide +kernel⟩
theorem scInner : FnScope ["one", "other", "a", "b"] ["one", "other"] (defScope sInner) := ⟨rfl, rfl, rfl, by decide +kernel, rfl, by decide +kernel, by decide +kernel⟩
theorem scLowered : FnScope ["row", "other", "factor", "part", "more"] ["row", "other", "factor"] (defScope sLowered) := ⟨rfl, rfl, rfl, by decide +kernel, rfl, by decide +kernel, by decide +kernel⟩

/-- partial sums stay small -/
theorem sz_sm {z n : Nat} {f : Nat → Rat} (h : ∀ i, i < n → Sz z (f i)) : Sz (1 + n * (z + 1)) (sm n f) := by
  induction n with
  | zero => exact Sz.zero (by omega)
  | succ n ih =>
    rw [sm_succ]
    refine ((ih fun i hi => h i (by omega)).add (h n (by omega))).mono ?_
    rw [Nat.succ_mul]; omega
theorem small_lst {n : Nat} {P : Nat → V → Prop} {xs : List V} (h : Sq n P xs) (hn : n ≤ 1000) : xs.length < sizeLine := small1000 (by rw [h.1]; exact hn)

section
variable {P : Program} {w : World} {K : PySem.W.Frag} {mg : Str → Option Value} {base : Heap}
def spTotal (K : PySem.W.Frag) : Sp := fun vs H Q _ => ∃ (A : Hp) (a : V) (n z : Nat) (f : Nat → Rat), vs = [a] ∧ Same A H ∧ Row K A a n f ∧ (∀ i, i < n → Sz z (f i)) ∧ 1 + n * (z + 1) ≤ 4000 ∧ Ret H A Q fun A' v => IsR K A' v (sm n f)
theorem ok_total {f : Addr} {fd : FuncData} (F : Fun K "total" "total" sTotal f fd) (T : Txt K mg) (hS : Has P w K mg base CX0 3 "plus" ["one", "other"] (spPlus K)) : FnOk P w K mg base CX0 4 f fd ["some"] (spTotal K) := by
  obtain ⟨fS, fdS, GS, gS, kS, bS⟩ := hS
  obtain ⟨zz, gz, tz⟩ := T.zero
  refine F.ok scTotal (fun vs H Q E h => ?_) (fun cdv A₀ outer s H vs Q E hr h => ?_)
  · obtain ⟨A, a, n, z, f, rfl, _⟩ := h; rfl
  · obtain ⟨A, v, n, z, f, rfl, s0, hrow, hz, hsz, q⟩ := h
    refine ⟨_, pss_cons (ps_set (i := 1) scTotal.nd rfl (.inl rfl) (pe_glob (v := .ref zz) rfl gz rfl))
      (pss_cons (ps_for PassesOwn.never rfl (pi_list (pv 0)) (pg_name (i := 2) scTotal.nd rfl (.inl rfl))
        (pss_one (ps_set (i := 1) scTotal.nd rfl (.inl rfl) (pe_call GS hr rfl gS kS bS .nil pass0 (pa_cons (pv 1) (pa_cons (pv 2) pa_nil))))))
      (pss_one (ps_ret (pv 1)))), ?_⟩
    obtain ⟨a, xs, rfl, hL, hS⟩ := id hrow
    refine ⟨_, rfl, a, rfl, ⟨xs, s0.seq hL⟩, for_list (K := K) (a := a) (xs := xs) (fun i σ H' => ∃ A' u o, σ = [some (.ref a), some u, o] ∧ Fz H A H' A' ∧ IsR K A' u (sm i f))
      ⟨A, .ref zz, none, rfl, Fz.refl s0, zz, rfl, tz A⟩ (fun i σ H' _ ⟨A', u, o, _, fz, _⟩ => (s0.trans fz.kee).seq hL) ?_ ?_⟩
    · rintro i x σ H' hi ⟨A', u, o, rfl, fz, hu⟩
      have hin : i < n := by rw [← hS.1]; exact (List.getElem?_eq_some_iff.mp hi).1
      obtain ⟨x', e', px⟩ := hS.2 i hin
      have ex : x' = x := Option.some.inj (e'.symm.trans hi)
      subst ex
      refine ⟨u, rfl, x', rfl, A', u, x', _, _, rfl, fz.sub, hu, px.up fz.ext, ⟨?_, ?_⟩, fun H2 A2 v2 fz2 h2 => ?_⟩
      · refine (sz_sm (z := z) fun j hj => hz j (by omega)).mono ?_
        have := Nat.mul_le_mul_right (z + 1) (Nat.le_of_lt hin)
        omega
      · refine (hz i hin).mono ?_
        have := Nat.mul_le_mul_right (z + 1) (show 1 ≤ n by omega)
        omega
      · exact ⟨A2, v2, some x', rfl, fz.trans fz2, h2⟩
    · rintro σ H' ⟨A', u, o, rfl, fz, hu⟩
      rw [hS.1] at hu
      exact ⟨u, rfl, q H' A' u fz hu⟩

theorem sz_num0 {x : Rat} : (!decide (V.int x.num = V.int 0)) = true ↔ x ≠ 0 := by
  constructor
  · intro h e
    subst e
    simp at h
  · intro h
    have : ¬ V.int x.num = V.int 0 := fun e => h (Rat.num_eq_zero.mp (V.int.inj e))
    rw [decide_eq_false this]; rfl
/-- a turn of zip: the pair stands, its parts go to their slots -/
theorem zip_go {H A : Hp} {n m : Nat} {P1 P2 : Nat → V → Prop} {xs ys : List V} (h1 : Sq n P1 xs) (h2 : Sq m P2 ys) {i : Nat} (hi : i < n) (hj : i < m) {H0 A0 : Hp} {x : V} {H' : Hp} (fz : Fz H0 A0 H A)
    (hY : YPair (fun i => xs[i]?) (fun i => ys[i]?) i H x H') : ∃ T x1 x2, x = .ref T ∧ H T = none ∧ H' = upd H T (.tup [x1, x2]) ∧ P1 i x1 ∧ P2 i x2 ∧ Fz H0 A0 H' A := by
  obtain ⟨T, x1, x2, e1, hT, e2, g1, g2⟩ := hY
  obtain ⟨y1, f1, p1⟩ := h1.2 i hi
  obtain ⟨y2, f2, p2⟩ := h2.2 i hj
  have z1 : y1 = x1 := Option.some.inj (f1.symm.trans g1)
  have z2 : y2 = x2 := Option.some.inj (f2.symm.trans g2)
  subst z1 z2 e2
  exact ⟨T, y1, y2, e1, hT, rfl, p1, p2, fz.laidM hT⟩

def spInner (K : PySem.W.Frag) : Sp := fun vs H Q _ => ∃ (A : Hp) (a b : V) (n z1 z2 : Nat) (f g : Nat → Rat), vs = [a, b] ∧ Same A H ∧ Row K A a n f ∧ Row K A b n g ∧ (∀ i, i < n → Sz z1 (f i)) ∧ (∀ i, i < n → Sz z2 (g i)) ∧ n ≤ 8 ∧ z1 + z2 ≤ 400 ∧
  Ret H A Q fun A' v => IsR K A' v (sm n fun i => f i * g i)
theorem ok_inner {f : Addr} {fd : FuncData} (F : Fun K "inner" "inner" sInner f fd) (T : Txt K mg) (hT : Has P w K mg base CX0 3 "times" ["one", "other"] (spTimes K)) (hS : Has P w K mg base CX0 4 "total" ["some"] (spTotal K)) : FnOk P w K mg base CX0 5 f fd ["one", "other"] (spInner K) := by
  obtain ⟨fT, fdT, GT, gT, kT, bT⟩ := hT
  obtain ⟨fS, fdS, GS, gS, kS, bS⟩ := hS
  refine F.ok scInner (fun vs H Q E h => ?_) (fun cdv A₀ outer s H vs Q E hr h => ?_)
  · obtain ⟨A, a, b, n, z1, z2, f, g, rfl, _⟩ := h; rfl
  · obtain ⟨A, v1, v2, n, z1, z2, f, g, rfl, s0, hr1, hr2, hz1, hz2, hn, hz, q⟩ := h
    refine ⟨_, pss_one (ps_ret (pe_call GS hr rfl gS kS bS .nil pass0 (pa_cons
      (pe_lc (own := [("a", 2), ("b", 3)]) rfl scInner.nd (pi_zip (by rfl) T.zip (pa_cons (pv 0) (pa_cons (pv 1) pa_nil)))
        (blkOk_by (own := [("a", 2), ("b", 3)]) (N := ["one", "other", "a", "b"]) (sc := defScope sInner) (by decide +kernel))
        (g := gTup K 2 (gCons (gName 2) (gCons (gName 3) gNil)))
        (fun _ _ _ _ _ => by exact pg_tup rfl (pgs_cons (pg_name (i := 2) scInner.nd rfl (.inl rfl)) (pgs_cons (pg_name (i := 3) scInner.nd rfl (.inl rfl)) pgs_nil)))
        (fun _ _ _ _ _ => pts_one (PW.pt (pw_and (pt_cmpR op_ne (pe_ix (r := rIxT K) ix_tup (pv 2) pe_int (fun _ _ => rfl)) pe_int (nomark _)) (pw_and1 (pt_cmpR op_ne (pe_ix (r := rIxT K) ix_tup (pv 3) pe_int (fun _ _ => rfl)) pe_int (nomark _))))))
        (fun _ _ _ _ _ => pe_call GT (hr.mono (by decide)) rfl gT kT bT .nil pass0 (pa_cons (pv 2) (pa_cons (pv 3) pa_nil)))) pa_nil))), ?_⟩
    obtain ⟨a, xs, rfl, hL1, hS1⟩ := id hr1
    obtain ⟨b, ys, rfl, hL2, hS2⟩ := id hr2
    refine ⟨_, rfl, _, rfl, a, b, xs, ys, rfl, s0.seq hL1, s0.seq hL2, fun D hD => ?_⟩
    have hA0 : A D = none := s0.free hD
    refine lc_it (walk_zip (n := n) (by rw [hS1.1, hS2.1]; omega)) (fun i H' => ∃ A' zs k t, Fz H A H' A' ∧ A' D = none ∧ H' D = some (.lst zs) ∧ Sq k (fun j x => IsR K A' x (t j)) zs ∧ sm k t = sm i (fun i => f i * g i) ∧ k ≤ i ∧ ∀ j, j < k → Sz (z1 + z2) (t j))
      ⟨A, [], 0, fun _ => 0, (Fz.refl s0).laidM hD, hA0, upd_same, Sq.nil, rfl, Nat.le_refl _, fun j hj => by omega⟩ (fun i H' _ ⟨A', zs, k, t, fz, _⟩ => ⟨(s0.trans fz.kee).seq hL1, (s0.trans fz.kee).seq hL2⟩) ?_ ?_
    · rintro i x H' H'' hi ⟨A', zs, k, t, fz, hAD, hHD, hSq, es, hk, hzt⟩ hY
      obtain ⟨Tt, x1, x2, rfl, hT', rfl, p1, p2, fz'⟩ := zip_go hS1 hS2 hi hi fz hY
      refine ⟨Tt, [x1, x2], rfl, SqT.of upd_same, rfl, x1, [x2], rfl, x2, [], rfl, rfl, rfl, ?_⟩
      have DT : D ≠ Tt := ne_of_none hHD hT'
      have hHD' : (upd H' Tt (.tup [x1, x2])) D = some (.lst zs) := by rw [upd_ne DT]; exact hHD
      have q1 := p1.up fz'.ext
      have q2 := p2.up fz'.ext
      have skip : f i * g i = 0 → ∃ A' zs k t, Fz H A (upd H' Tt (.tup [x1, x2])) A' ∧ A' D = none ∧ (upd H' Tt (.tup [x1, x2])) D = some (.lst zs) ∧ Sq k (fun j x => IsR K A' x (t j)) zs ∧ sm k t = sm (i + 1) (fun i => f i * g i) ∧ k ≤ i + 1 ∧ ∀ j, j < k → Sz (z1 + z2) (t j) := fun e =>
        ⟨A', zs, k, t, fz', hAD, hHD', hSq, by rw [sm_succ, e, es, Rat.add_zero], by omega, hzt⟩
      refine ⟨x1, rfl, ixTop fz'.sub q1 ⟨rfl, _, rfl, ?_⟩⟩
      by_cases e1 : f i = 0
      · refine ifF (by rw [e1]; rfl) (iteF (skip (by rw [e1, Rat.zero_mul])))
      · refine ifT (sz_num0.mpr e1) ⟨x2, rfl, ixTop fz'.sub q2 ⟨rfl, _, rfl, ?_⟩⟩
        by_cases e2 : g i = 0
        · refine ifF (by rw [e2]; rfl) (skip (by rw [e2, Rat.mul_zero]))
        · refine ifT (sz_num0.mpr e2) ⟨x1, rfl, x2, rfl, A', x1, x2, _, _, rfl, fz'.sub, q1, q2, ⟨(hz1 i hi).mono (by omega), (hz2 i hi).mono (by omega)⟩, fun H2 A2 v2 fz2 h2 => ?_⟩
          have hHD2 : H2 D = some (.lst zs) := fz2.kee D _ hHD'
          have hAD2 : A2 D = none := fz2.off hHD' hAD
          refine ⟨zs, hHD2, small_lst hSq (by omega), A2, zs ++ [v2], k + 1, fun j => if j = k then f i * g i else t j, (fz'.trans fz2).put hAD2 hD, hAD2, upd_same, ?_, ?_, by omega, ?_⟩
          · refine Sq.snoc (hSq.mono fun j y hj p => ?_) ?_
            · have : j ≠ k := by omega
              simp only [if_neg this]
              exact p.up fz2.ext
            · simp only [if_true]; exact h2
          · rw [sm_succ, sm_succ, if_pos rfl, ← es]
            congr 1
            exact sm_congr fun j hj => if_neg (by omega)
          · intro j hj
            show Sz _ (if j = k then _ else _)
            by_cases e : j = k
            · rw [if_pos e]; exact (hz1 i hi).mul (hz2 i hi)
            · rw [if_neg e]; exact hzt j (by omega)
    · rintro H' ⟨A', zs, k, t, fz, hAD, hHD, hSq, es, hk, hzt⟩
      have fx := fz.fix hHD hAD hD
      refine ⟨_, _, k, z1 + z2, t, rfl, fx.sub, ⟨D, zs, rfl, SqL.of upd_same, hSq.mono fun j y hj p => p.up (same_new hAD)⟩, hzt, ?_, ?_⟩
      · have : k * (z1 + z2 + 1) ≤ 8 * 401 := Nat.mul_le_mul (by omega) (by omega)
        omega
      · exact (q.go fx).mono fun A2 v2 h => by rw [← es]; exact h
/-! ### a list that a comprehension (or appends) builds -/
def Bld (H A : Hp) (D : Addr) (P : Hp → Nat → V → Prop) (i : Nat) (H' : Hp) : Prop := ∃ A' zs, Fz H A H' A' ∧ A' D = none ∧ H' D = some (.lst zs) ∧ Sq i (P A') zs
def Stb (P : Hp → Nat → V → Prop) : Prop := ∀ A A' j x, Same A A' → P A j x → P A' j x
theorem Bld.start {H A H1 A1 : Hp} {D : Addr} {P : Hp → Nat → V → Prop} (f : Fz H A H1 A1) (hD : H1 D = none) : Bld H A D P 0 (upd H1 D (.lst [])) :=
  ⟨A1, [], f.laidM hD, f.sub.free hD, upd_same, Sq.nil⟩
theorem Bld.more {H A H1 A1 H2 A2 : Hp} {D : Addr} {P : Hp → Nat → V → Prop} {i : Nat} {zs : List V} {y : V} (st : Stb P) (fz : Fz H A H1 A1) (hA : A1 D = none) (hH : H1 D = some (.lst zs)) (hS : Sq i (P A1) zs) (f2 : Fz H1 A1 H2 A2) (hD : H D = none) (hi : i ≤ 1000) (py : P A2 i y) :
    ∃ acc, H2 D = some (.lst acc) ∧ acc.length < sizeLine ∧ Bld H A D P (i + 1) (upd H2 D (.lst (acc ++ [y]))) := by
  have h2 := f2.kee D _ hH
  have a2 := f2.off hH hA
  exact ⟨zs, h2, small_lst hS hi, A2, zs ++ [y], (fz.trans f2).put a2 hD, a2, upd_same, (hS.mono fun j x _ p => st _ _ j x f2.ext p).snoc py⟩
theorem Bld.done {H A H' : Hp} {D : Addr} {P : Hp → Nat → V → Prop} {n : Nat} (st : Stb P) (hD : H D = none) (b : Bld H A D P n H') : ∃ A', Fz H A H' A' ∧ Ls K A' (.ref D) n (P A') := by
  obtain ⟨A', zs, fz, hA, hH, hS⟩ := b
  exact ⟨_, fz.fix hH hA hD, D, zs, rfl, SqL.of upd_same, hS.mono fun j x _ p => st _ _ j x (same_new hA) p⟩
theorem stb_row {f : Nat → Rat} : Stb fun A j x => IsR K A x (f j) := fun _ _ _ _ s p => p.up s
theorem stb_tbl {n : Nat} {T : Mat} : Stb fun A i x => Row K A x n (T i) := fun _ _ _ _ s p => rowUp p s
theorem stb_ints {f : Nat → Int} : Stb fun _ j x => x = .int (f j) := fun _ _ _ _ _ p => p

def spLowered (K : PySem.W.Frag) : Sp := fun vs H Q _ => ∃ (A : Hp) (a b c : V) (n : Nat) (f g : Nat → Rat) (r : Rat), vs = [a, b, c] ∧ Same A H ∧ Row K A a n f ∧ Row K A b n g ∧ IsR K A c r ∧ (∀ i, i < n → Sz 1000 (f i)) ∧ (∀ i, i < n → Sz 1000 (g i)) ∧ Sz 1000 r ∧ n ≤ 100 ∧
  Ret H A Q fun A' v => Row K A' v n fun i => f i - r * g i
theorem ok_lowered {f : Addr} {fd : FuncData} (F : Fun K "lowered" "lowered" sLowered f fd) (T : Txt K mg) (hT : Has P w K mg base CX0 3 "times" ["one", "other"] (spTimes K)) (hM : Has P w K mg base CX0 4 "minus" ["one", "other"] (spMinus K)) : FnOk P w K mg base CX0 5 f fd ["row", "other", "factor"] (spLowered K) := by
  obtain ⟨fT, fdT, GT, gT, kT, bT⟩ := hT
  obtain ⟨fM, fdM, GM, gM, kM, bM⟩ := hM
  refine F.ok scLowered (fun vs H Q E h => ?_) (fun cdv A₀ outer s H vs Q E hr h => ?_)
  · obtain ⟨A, a, b, c, n, f, g, r, rfl, _⟩ := h; rfl
  · obtain ⟨A, v1, v2, c, n, f, g, r, rfl, s0, hr1, hr2, hc, hz1, hz2, hz3, hn, q⟩ := h
    refine ⟨_, pss_one (ps_ret
      (pe_lc (own := [("part", 3), ("more", 4)]) rfl scLowered.nd (pi_zip (by rfl) T.zip (pa_cons (pv 0) (pa_cons (pv 1) pa_nil)))
        (blkOk_by (own := [("part", 3), ("more", 4)]) (N := ["row", "other", "factor", "part", "more"]) (sc := defScope sLowered) (by decide +kernel))
        (g := gTup K 2 (gCons (gName 3) (gCons (gName 4) gNil)))
        (fun _ _ _ _ _ => by exact pg_tup rfl (pgs_cons (pg_name (i := 3) scLowered.nd rfl (.inl rfl)) (pgs_cons (pg_name (i := 4) scLowered.nd rfl (.inl rfl)) pgs_nil)))
        (fun _ _ _ _ _ => pts_nil)
        (fun _ _ _ _ _ => pe_ifExp (pt_cmpR op_ne (pe_ix (r := rIxT K) ix_tup (pv 4) pe_int (fun _ _ => rfl)) pe_int (nomark _))
          (pe_call GM hr rfl gM kM bM .nil pass0 (pa_cons (pv 3) (pa_cons (pe_call GT (hr.mono (by decide)) rfl gT kT bT .nil pass0 (pa_cons (pv 2) (pa_cons (pv 4) pa_nil))) pa_nil)))
          (pv 3)))), ?_⟩
    obtain ⟨a, xs, rfl, hL1, hS1⟩ := id hr1
    obtain ⟨b, ys, rfl, hL2, hS2⟩ := id hr2
    refine ⟨_, rfl, _, rfl, a, b, xs, ys, rfl, s0.seq hL1, s0.seq hL2, fun D hD => ?_⟩
    refine lc_it (walk_zip (n := n) (by rw [hS1.1, hS2.1]; omega)) (Bld H A D fun A' j x => IsR K A' x (f j - r * g j)) (Bld.start (Fz.refl s0) hD) (fun i H' _ ⟨A', zs, fz, _⟩ => ⟨(s0.trans fz.kee).seq hL1, (s0.trans fz.kee).seq hL2⟩) ?_ ?_
    · rintro i x H' H'' hi ⟨A', zs, fz, hAD, hHD, hSq⟩ hY
      obtain ⟨Tt, x1, x2, rfl, hT', rfl, p1, p2, fz'⟩ := zip_go hS1 hS2 hi hi fz hY
      refine ⟨Tt, [x1, x2], rfl, SqT.of upd_same, rfl, x1, [x2], rfl, x2, [], rfl, rfl, rfl, ?_⟩
      have q1 := p1.up fz'.ext
      have q2 := p2.up fz'.ext
      have q3 := hc.up fz'.ext
      have f0 : Fz H' A' (upd H' Tt (.tup [x1, x2])) A' := (Fz.refl fz.sub).laidM hT'
      refine ⟨x2, rfl, ixTop fz'.sub q2 ⟨rfl, _, rfl, ?_⟩⟩
      by_cases e : g i = 0
      · refine ifF (by rw [e]; rfl) ⟨x1, rfl, ?_⟩
        refine Bld.more stb_row fz hAD hHD hSq f0 hD (by omega) ?_
        show IsR K A' x1 (f i - r * g i)
        rw [e, Rat.mul_zero, show f i - 0 = f i by grind]
        exact q1
      · refine ifT (sz_num0.mpr e) ⟨x1, rfl, c, rfl, x2, rfl, A', _, x2, r, g i, rfl, fz'.sub, q3, q2, ⟨hz3.mono (by decide), (hz2 i hi).mono (by decide)⟩, fun H2 A2 v2 fz2 h2 => ?_⟩
        refine ⟨A2, x1, v2, f i, r * g i, rfl, fz2.sub, q1.up fz2.ext, h2, ⟨(hz1 i hi).mono (by decide), (hz3.mul (hz2 i hi)).mono (by decide)⟩, fun H3 A3 v3 fz3 h3 => ?_⟩
        exact Bld.more stb_row fz hAD hHD hSq ((f0.trans fz2).trans fz3) hD (by omega) h3
    · intro H' hb
      obtain ⟨A', fz, hl⟩ := Bld.done (K := K) stb_row hD hb
      exact q H' A' _ fz hl
end
end BW

namespace BW
open PySem PySem.Spec PyProof.Rows L2
abbrev sPivoted : Stmt := top 28
abbrev sGain : Stmt := top 29
abbrev sLeaving : Stmt := top 30
theorem scPivoted : FnScope ["table", "at", "column", "lead", "row", "found", "place", "other", "factor", "part"] ["table", "at", "column"] (defScope sPivoted) := ⟨rfl, rfl, rfl, by decide +kernel, rfl, by decide +kernel, by decide +kernel⟩
theorem scGain : FnScope ["table", "basis", "costs", "column", "taken", "row", "place"] ["table", "basis", "costs", "column"] (defScope sGain) := ⟨rfl, rfl, rfl, by decide +kernel, rfl, by decide +kernel, by decide +kernel⟩
theorem scLeaving : FnScope ["table", "basis", "column", "best", "at", "row", "told"] ["table", "basis", "column"] (defScope sLeaving) := ⟨rfl, rfl, rfl, by decide +kernel, rfl, by decide +kernel, by decide +kernel⟩

theorem eqR {x y : Rat} : PyData.eqv (.tuple [.int x.num, .int (x.den : Int)]) (.tuple [.int y.num, .int (y.den : Int)]) = decide (x = y) := by
  have h : PyData.eqv (.tuple [.int x.num, .int (x.den : Int)]) (.tuple [.int y.num, .int (y.den : Int)]) = decide (x.num = y.num ∧ (x.den : Int) = y.den) := by
    simp only [PyData.eqv, PyData.eqvAll, Bool.and_true, Bool.decide_and, Bool.beq_eq_decide_eq]
  refine h.trans (decide_eq_decide.mpr ⟨fun e => ?_, fun e => by rw [e]; exact ⟨rfl, rfl⟩⟩)
  exact Rat.ext e.1 (by have := e.2; omega)
theorem num_pos {x : Rat} : 0 < x.num ↔ 0 < x := by
  have := @lt_cross 0 x
  rw [this]; simp
theorem dpR {K : PySem.W.Frag} {H A : Hp} {v : V} {r : Rat} (s : Same A H) (h : IsR K A v r) : Dp K H v (.tuple [.int r.num, .int (r.den : Int)]) := by
  obtain ⟨p, rfl, hp⟩ := h
  exact .tup (sameT s hp) (.cons (.int _) (.cons (.int _) .nil))
/-- one turn of enumerate -/
theorem enum_go {H A : Hp} {n : Nat} {P1 : Nat → V → Prop} {xs : List V} (h1 : Sq n P1 xs) {i : Nat} (hi : i < n) {H0 A0 : Hp} {x : V} {H' : Hp} (fz : Fz H0 A0 H A)
    (hY : YPair (fun i => some (.int (i : Nat))) (fun i => xs[i]?) i H x H') : ∃ T x2, x = .ref T ∧ H T = none ∧ H' = upd H T (.tup [.int (i : Nat), x2]) ∧ P1 i x2 ∧ Fz H0 A0 H' A := by
  obtain ⟨T, x1, x2, e1, hT, e2, g1, g2⟩ := hY
  obtain ⟨y2, f2, p2⟩ := h1.2 i hi
  have z1 : V.int (i : Nat) = x1 := Option.some.inj g1
  have z2 : y2 = x2 := Option.some.inj (f2.symm.trans g2)
  subst z1 z2 e2
  exact ⟨T, y2, e1, hT, rfl, p2, fz.laidM hT⟩

section
variable {P : Program} {w : World} {K : PySem.W.Frag} {mg : Str → Option Value} {base : Heap}
/-! ### gain -/
def spGain (K : PySem.W.Frag) : Sp := fun vs H Q _ => ∃ (A : Hp) (a b c : V) (m n j : Nat) (T : Mat) (B : Nat → Nat) (cs : Nat → Rat), vs = [a, b, c, .int (j : Int)] ∧ Same A H ∧ Tbl K A a m (n + 1) T ∧ Ints K A b m (fun i => (B i : Int)) ∧ Row K A c n cs ∧ j < n ∧
  (∀ i, i < m → B i < n) ∧ (∀ i, i < m → ∀ j, j ≤ n → Sz 300 (T i j)) ∧ (∀ j, j < n → Sz 10 (cs j)) ∧ m ≤ 8 ∧ Ret H A Q fun A' v => ∃ X : Int, IsR K A' v (X : Rat) ∧ (0 < X ↔ 0 < gn m cs T B j)
theorem ok_gain {f : Addr} {fd : FuncData} (F : Fun K "gain" "gain" sGain f fd) (T : Txt K mg) (hI : Has P w K mg base CX0 5 "inner" ["one", "other"] (spInner K)) : FnOk P w K mg base CX0 6 f fd ["table", "basis", "costs", "column"] (spGain K) := by
  obtain ⟨fI, fdI, GI, gI, kI, bI⟩ := hI
  refine F.ok scGain (fun vs H Q E h => ?_) (fun cdv A₀ outer s H vs Q E hr h => ?_)
  · obtain ⟨A, a, b, c, m, n, j, T, B, cs, rfl, _⟩ := h; rfl
  · obtain ⟨A, a, b, c, m, n, j, Tm, B, cs, rfl, s0, hT, hB, hC, hj, hBn, hz1, hz2, hm, q⟩ := h
    refine ⟨_, pss_cons (ps_set (i := 4) scGain.nd rfl (.inl rfl) (pe_call GI hr rfl gI kI bI .nil pass0 (pa_cons
        (pe_lc (own := [("row", 5)]) (g := gName 5) rfl scGain.nd (pi_list (pv 0))
          (blkOk_by (own := [("row", 5)]) (N := ["table", "basis", "costs", "column", "taken", "row", "place"]) (sc := defScope sGain) (by decide +kernel))
          (fun _ _ _ _ _ => by exact pg_name (i := 5) scGain.nd rfl (.inl rfl)) (fun _ _ _ _ _ => pts_nil)
          (fun _ _ _ _ _ => pe_ix (r := rIxL K) ix_list (pv 5) (pv 3) (fun _ _ => rfl)))
        (pa_cons
        (pe_lc (own := [("place", 6)]) (g := gName 6) rfl scGain.nd (pi_list (pv 1))
          (blkOk_by (own := [("place", 6)]) (N := ["table", "basis", "costs", "column", "taken", "row", "place"]) (sc := defScope sGain) (by decide +kernel))
          (fun _ _ _ _ _ => by exact pg_name (i := 6) scGain.nd rfl (.inl rfl)) (fun _ _ _ _ _ => pts_nil)
          (fun _ _ _ _ _ => pe_ix (r := rIxL K) ix_list (pv 2) (pv 6) (fun _ _ => rfl))) pa_nil))))
      (pss_one (ps_ret (pe_tup (pa_cons (pe_op op_sub
        (pe_op op_mulW (pe_ix ix_tup (pe_ix ix_list (pv 2) (pv 3) (fun _ _ => rfl)) pe_int (fun _ _ => rfl)) (pe_ix ix_tup (pv 4) pe_int (fun _ _ => rfl)))
        (pe_op op_mulW (pe_ix ix_tup (pv 4) pe_int (fun _ _ => rfl)) (pe_ix ix_tup (pe_ix ix_list (pv 2) (pv 3) (fun _ _ => rfl)) pe_int (fun _ _ => rfl)))) (pa_cons pe_int pa_nil))))), ?_⟩
    obtain ⟨aT, xsT, rfl, hLT, hST⟩ := id hT
    obtain ⟨aB, xsB, rfl, hLB, hSB⟩ := id hB
    refine ⟨_, rfl, aT, rfl, ⟨xsT, s0.seq hLT⟩, fun D hD => ?_⟩
    refine lc_it (walk_list (xs := xsT)) (Bld H A D fun A' i x => IsR K A' x (Tm i j)) (Bld.start (Fz.refl s0) hD) (fun i H' _ ⟨A', zs, fz, _⟩ => (s0.trans fz.kee).seq hLT) ?_ ?_
    · rintro i x H' H'' hi ⟨A', zs, fz, hAD, hHD, hSq⟩ ⟨rfl, hx⟩
      have him : i < m := by rw [← hST.1]; exact hi
      obtain ⟨x', e', px⟩ := hST.2 i him
      obtain rfl : x' = x := Option.some.inj (e'.symm.trans hx)
      refine ⟨rfl, x', rfl, .int (j : Int), rfl, ixL (s0.trans fz.kee) px (show j < n + 1 by omega) fun y py => ?_⟩
      exact Bld.more (P := fun A' i x => IsR K A' x (Tm i j)) (fun _ _ _ _ s p => p.up s) fz hAD hHD hSq (Fz.refl fz.sub) hD (by omega) (py.up fz.ext)
    · intro H1 hb
      rw [hST.1] at hb
      obtain ⟨A1, fz1, hl1⟩ := Bld.done (K := K) (P := fun A' i x => IsR K A' x (Tm i j)) (fun _ _ _ _ s p => p.up s) hD hb
      refine ⟨_, rfl, aB, rfl, ⟨xsB, (s0.trans fz1.kee).seq hLB⟩, fun D2 hD2 => ?_⟩
      refine lc_it (walk_list (xs := xsB)) (Bld H1 A1 D2 fun A' i x => IsR K A' x (cs (B i))) (Bld.start (Fz.refl fz1.sub) hD2) (fun i H' _ ⟨A', zs, fz, _⟩ => ((s0.trans fz1.kee).trans fz.kee).seq hLB) ?_ ?_
      · rintro i x H' H'' hi ⟨A', zs, fz, hAD, hHD, hSq⟩ ⟨rfl, hx⟩
        have him : i < m := by rw [← hSB.1]; exact hi
        obtain ⟨x', e', px⟩ := hSB.2 i him
        obtain rfl : x' = x := Option.some.inj (e'.symm.trans hx)
        subst px
        refine ⟨rfl, c, rfl, .int (B i : Int), rfl, ixL ((s0.trans fz1.kee).trans fz.kee) hC (hBn i him) fun y py => ?_⟩
        exact Bld.more (P := fun A' i x => IsR K A' x (cs (B i))) (fun _ _ _ _ s p => p.up s) fz hAD hHD hSq (Fz.refl fz.sub) hD2 (by omega) (py.up (fz1.ext.trans fz.ext))
      · intro H2 hb2
        rw [hSB.1] at hb2
        obtain ⟨A2, fz2, hl2⟩ := Bld.done (K := K) (P := fun A' i x => IsR K A' x (cs (B i))) (fun _ _ _ _ s p => p.up s) hD2 hb2
        refine ⟨A2, _, _, m, 300, 10, fun i => Tm i j, fun i => cs (B i), rfl, fz2.sub, rowUp hl1 fz2.ext, hl2, fun i hi => hz1 i hi j (by omega), fun i hi => hz2 _ (hBn i hi), hm, by decide, fun H3 A3 t fz3 ht => ?_⟩
        have fa := (fz1.trans fz2).trans fz3
        have s3 := fa.sub
        have hC3 : Row K A3 c n cs := rowUp hC fa.ext
        have zt : Sz 3000 (sm m fun i => Tm i j * cs (B i)) := by
          refine (sz_sm (z := 310) fun i hi => (hz1 i hi j (by omega)).mul (hz2 _ (hBn i hi))).mono ?_
          have := Nat.mul_le_mul_right (310 + 1) hm
          omega
        have zc := hz2 j hj
        refine ⟨c, rfl, .int (j : Int), rfl, ixL s3 hC3 hj fun y py => ixTop s3 py ⟨t, rfl, ixBot s3 ht ⟨_, _, rfl, rfl, mulW zc.1 zt.dn, ?_⟩⟩⟩
        refine ⟨t, rfl, ixTop s3 ht ⟨c, rfl, .int (j : Int), rfl, ixL s3 hC3 hj fun y2 py2 => ixBot s3 py2 ⟨_, _, rfl, rfl, mulW zt.1 zc.dn, ?_⟩⟩⟩
        refine ⟨_, _, rfl, rfl, (by show 2 ≤ sizeLine; decide), fun p hp => ?_⟩
        refine q _ _ _ (fa.laid hp) ⟨_, isr_int upd_same, ?_⟩
        have e1 : gn m cs Tm B j = cs j - sm m fun i => Tm i j * cs (B i) := by
          unfold gn; congr 1; exact sm_congr fun i _ => Rat.mul_comm _ _
        rw [e1]
        dsimp only
        have := @lt_cross (sm m fun i => Tm i j * cs (B i)) (cs j)
        constructor
        · intro h
          have : (sm m fun i => Tm i j * cs (B i)) < cs j := this.mpr (by omega)
          grind
        · intro h
          have h2 : (sm m fun i => Tm i j * cs (B i)) < cs j := by grind
          have := this.mp h2
          omega

/-! ### leaving -/
/-- what stands after i rows -/
def LvOk (m n : Nat) (T : Mat) (B : Nat → Nat) (j k : Nat) (o : Option Nat) : Prop :=
  match o with
  | none => ∀ i, i < k → T i j ≤ 0
  | some r => r < k ∧ 0 < T r j ∧ ∀ i, i < k → 0 < T i j → T r n / T r j < T i n / T i j ∨ (T r n / T r j = T i n / T i j ∧ B r ≤ B i)
def spLeaving (K : PySem.W.Frag) : Sp := fun vs H Q _ => ∃ (A : Hp) (a b : V) (m n j : Nat) (T : Mat) (B : Nat → Nat), vs = [a, b, .int (j : Int)] ∧ Same A H ∧ Tbl K A a m (n + 1) T ∧ Ints K A b m (fun i => (B i : Int)) ∧ j ≤ n ∧
  (∀ i, i < m → ∀ j, j ≤ n → Sz 300 (T i j)) ∧ m ≤ 100 ∧ ((LvOk m n T B j m none → Ret H A Q fun _ v => v = .non) ∧ ∀ r, LvOk m n T B j m (some r) → Ret H A Q fun _ v => v = .int (r : Int))
theorem ok_leaving {f : Addr} {fd : FuncData} (F : Fun K "leaving" "leaving" sLeaving f fd) (T : Txt K mg) (hO : Has P w K mg base CX0 3 "over" ["one", "other"] (spOver K)) (hL : Has P w K mg base CX0 1 "is_less" ["one", "other"] (spLess K)) : FnOk P w K mg base CX0 4 f fd ["table", "basis", "column"] (spLeaving K) := by
  obtain ⟨fO, fdO, GO, gO, kO, bO⟩ := hO
  obtain ⟨fL, fdL, GL, gL, kL, bL⟩ := hL
  refine F.ok scLeaving (fun vs H Q E h => ?_) (fun cdv A₀ outer s H vs Q E hr h => ?_)
  · obtain ⟨A, a, b, m, n, j, T, B, rfl, _⟩ := h; rfl
  · obtain ⟨A, a, b, m, n, j, Tm, B, rfl, s0, hT, hB, hj, hz, hm, q0, q1⟩ := h
    have hu := hr.units
    refine ⟨_, pss_cons (ps_set (i := 3) scLeaving.nd rfl (.inl rfl) pe_non)
      (pss_cons (ps_for PassesOwn.never rfl (pi_enum (by rfl) T.enumerate (pa_cons (pv 0) pa_nil)) (pg_tup rfl (pgs_cons (pg_name (i := 4) scLeaving.nd rfl (.inl rfl)) (pgs_cons (pg_name (i := 5) scLeaving.nd rfl (.inl rfl)) pgs_nil)))
        (pss_one (ps_if (pt_cmpR op_gt (pe_ix ix_tup (pe_ix ix_list (pv 5) (pv 2) (fun _ _ => rfl)) pe_int (fun _ _ => rfl)) pe_int (nomark _))
          (pss_cons (ps_set (i := 6) scLeaving.nd rfl (.inl rfl) (pe_call GO hr rfl gO kO bO .nil pass0 (pa_cons (pe_ix ix_list (pv 5) (pe_un un_neg pe_int) (fun _ _ => rfl)) (pa_cons (pe_ix ix_list (pv 5) (pv 2) (fun _ _ => rfl)) pa_nil))))
            (pss_one (ps_if (PW.pt (pw_or (pt_cmpR op_isN (pv 3) pe_non (nomark _)) (pw_or (pt_val (pe_call GL (hr.mono (by decide)) rfl gL kL bL .nil pass0 (pa_cons (pv 6) (pa_cons (pe_ix ix_tup (pv 3) pe_int (fun _ _ => rfl)) pa_nil))))
                (pw_or1 (PW.pt (pw_and (pt_cmpR (op_eqD hu) (pv 6) (pe_ix ix_tup (pv 3) pe_int (fun _ _ => rfl)) (nomark _)) (pw_and1 (pt_cmpR op_lt (pe_ix ix_list (pv 1) (pv 4) (fun _ _ => rfl)) (pe_ix ix_list (pv 1) (pe_ix ix_tup (pv 3) pe_int (fun _ _ => rfl)) (fun _ _ => rfl)) (nomark _)))))))))
              (pss_one (ps_set (i := 3) scLeaving.nd rfl (.inl rfl) (pe_tup (pa_cons (pv 6) (pa_cons (pv 4) pa_nil))))) pss_nil)))
          pss_nil)))
      (pss_one (ps_ret (pe_ifExp (pt_cmpR op_notN (pv 3) pe_non (nomark _)) (pe_ix ix_tup (pv 3) pe_int (fun _ _ => rfl)) pe_non)))), ?_⟩
    obtain ⟨aT, xsT, rfl, hLT, hST⟩ := id hT
    -- what the best slot holds
    let Bs : Hp → V → Option Nat → Prop := fun A' v o => match o with
      | none => v = .non
      | some r => ∃ p u, v = .ref p ∧ SqT K A' p [u, .int (r : Int)] ∧ IsR K A' u (Tm r n / Tm r j)
    have bsUp : ∀ {A1 A2 v o}, Same A1 A2 → Bs A1 v o → Bs A2 v o := by
      intro A1 A2 v o e h
      cases o with
      | none => exact h
      | some r => obtain ⟨p, u, h1, h2, h3⟩ := h; exact ⟨p, u, h1, sameT e h2, h3.up e⟩
    refine ⟨_, rfl, aT, xsT, rfl, s0.seq hLT, ?_⟩
    refine for_it (walk_enum (xs := xsT)) (fun i σ H' => ∃ A' v o y4 y5 y6, σ = [some (.ref aT), some b, some (.int (j : Int)), some v, y4, y5, y6] ∧ Fz H A H' A' ∧ Bs A' v o ∧ LvOk m n Tm B j i o)
      ⟨A, .non, none, none, none, none, rfl, Fz.refl s0, rfl, fun i hi => by omega⟩ (fun i σ H' _ ⟨A', v, o, _, _, _, _, fz, _⟩ => (s0.trans fz.kee).seq hLT) ?_ ?_
    · rintro i x σ H' H'' hi ⟨A', v, o, y4, y5, y6, rfl, fz, hv, ho⟩ hY
      have him : i < m := by rw [← hST.1]; exact hi
      obtain ⟨Tt, row, rfl, hTt, rfl, prow, fz'⟩ := enum_go hST him fz hY
      refine ⟨Tt, [.int (i : Nat), row], rfl, SqT.of upd_same, rfl, .int (i : Nat), [row], rfl, row, [], rfl, rfl, ?_⟩
      have sA := s0.trans fz'.kee
      refine ⟨row, rfl, .int (j : Int), rfl, ixL sA prow (show j < n + 1 by omega) fun y py => ixTop sA py ⟨_, _, rfl, rfl, _, rfl, ?_⟩⟩
      have np : 0 < (Tm i j).num ↔ 0 < Tm i j := num_pos
      refine ite2 (fun e => ?_) (fun e => ?_)
      · have hp : 0 < Tm i j := np.mp (of_decide_eq_true e)
        refine ⟨row, rfl, _, rfl, ixEnd sA prow fun y1 py1 => ?_⟩
        refine ⟨row, rfl, .int (j : Int), rfl, ixL sA prow (show j < n + 1 by omega) fun y2 py2 => ?_⟩
        have zn := hz i him n (Nat.le_refl _)
        have zj := hz i him j hj
        refine ⟨A', y1, y2, _, _, rfl, fz'.sub, py1.up fz'.ext, py2.up fz'.ext, ⟨⟨zn.mono (by decide), zj.mono (by decide)⟩, by grind⟩, fun H2 A2 t fz2 ht => ?_⟩
        have fa := fz'.trans fz2
        have hv2 := bsUp fz2.ext hv
        have zt : Sz 600 (Tm i n / Tm i j) := zn.div zj (by grind)
        -- taken
        have take : LvOk m n Tm B j (i + 1) (some i) → tAsg (tTup (tCons (tVar 6) (tCons (tVar 4) tNil))) (gName 3) { nx := fun σ H' => ∃ A' v o y4 y5 y6, σ = [some (.ref aT), some b, some (.int (j : Int)), some v, y4, y5, y6] ∧ Fz H A H' A' ∧ Bs A' v o ∧ LvOk m n Tm B j (i + 1) o, rt := Q, bk := fun _ _ => False, ct := fun _ _ => False }
            [some (.ref aT), some b, some (.int (j : Int)), some v, some (.int (i : Nat)), some row, some t] H2 := by
          intro h
          refine ⟨t, rfl, .int (i : Nat), rfl, (by show 2 ≤ sizeLine; decide), fun p hp => ?_⟩
          exact ⟨_, .ref p, some i, _, _, _, rfl, fa.laid hp, ⟨p, t, rfl, SqT.of upd_same, ht.up (same_new (fa.sub.free hp))⟩, h⟩
        have keep : LvOk m n Tm B j (i + 1) o → ∃ A' v' o y4 y5 y6, [some (.ref aT), some b, some (V.int (j : Int)), some v, some (.int (i : Nat)), some row, some t] = [some (.ref aT), some b, some (.int (j : Int)), some v', y4, y5, y6] ∧ Fz H A H2 A' ∧ Bs A' v' o ∧ LvOk m n Tm B j (i + 1) o :=
          fun h => ⟨A2, v, o, _, _, _, rfl, fa, hv2, h⟩
        cases o with
        | none =>
          obtain rfl : v = .non := hv2
          refine ⟨.non, rfl, rfl, _, rfl, iteT (take ?_)⟩
          refine ⟨by omega, hp, fun i' hi' hp' => ?_⟩
          by_cases q : i' = i
          · subst q; exact .inr ⟨rfl, Nat.le_refl _⟩
          · have := ho i' (by omega); grind
        | some r =>
          obtain ⟨p, u, rfl, hpT, hu'⟩ := hv2
          obtain ⟨hr1, hr2, hr3⟩ := ho
          have hrm : r < m := by omega
          have zu : Sz 600 (Tm r n / Tm r j) := (hz r hrm n (Nat.le_refl _)).div (hz r hrm j hj) (by grind)
          have s2 := fa.sub
          refine ⟨.ref p, rfl, rfl, _, rfl, iteF ?_⟩
          refine ⟨t, rfl, .ref p, rfl, p, _, 0, _, rfl, rfl, sameT s2 hpT, atI_nat (j := 0) rfl, A2, t, u, _, _, rfl, s2, ht, hu', ⟨zt.mono (by decide), zu.mono (by decide)⟩, _, rfl, ?_⟩
          refine ite2 (fun e1 => ?_) (fun e1 => ?_)
          · have lt := of_decide_eq_true e1
            refine take ⟨by omega, hp, fun i' hi' hp' => ?_⟩
            by_cases q : i' = i
            · subst q; exact .inr ⟨rfl, Nat.le_refl _⟩
            · rcases hr3 i' (by omega) hp' with h | ⟨h, _⟩
              · exact .inl (by grind)
              · exact .inl (by grind)
          · have nlt : ¬ Tm i n / Tm i j < Tm r n / Tm r j := fun h => e1 (decide_eq_true h)
            refine ⟨t, rfl, .ref p, rfl, p, _, 0, _, rfl, rfl, sameT s2 hpT, atI_nat (j := 0) rfl, _, _, dpR s2 ht, dpR s2 hu', rfl, rfl, _, rfl, ?_⟩
            rw [eqR]
            refine ite2 (fun e2 => ?_) (fun e2 => ?_)
            · have eq := of_decide_eq_true e2
              have hB2 := intsUp hB fa.ext
              refine ⟨b, rfl, .int (i : Nat), rfl, ixL s2 hB2 him fun x1 e1 => ?_⟩
              refine ⟨b, rfl, .ref p, rfl, p, _, 1, _, rfl, rfl, sameT s2 hpT, atI_nat (j := 1) rfl, ixL s2 hB2 hrm fun x2 e2 => ?_⟩
              refine ⟨_, _, e1, e2, _, rfl, ite2 (fun e3 => ?_) (fun e3 => ?_)⟩
              · have hlt : (B i : Int) < B r := of_decide_eq_true e3
                refine take ⟨by omega, hp, fun i' hi' hp' => ?_⟩
                by_cases q : i' = i
                · subst q; exact .inr ⟨rfl, Nat.le_refl _⟩
                · rcases hr3 i' (by omega) hp' with h | ⟨h, h'⟩
                  · exact .inl (by grind)
                  · exact .inr ⟨by grind, by omega⟩
              · have hge : ¬ (B i : Int) < B r := fun h => e3 (decide_eq_true h)
                refine keep ⟨by omega, hr2, fun i' hi' hp' => ?_⟩
                by_cases q : i' = i
                · subst q; exact .inr ⟨eq.symm, by omega⟩
                · exact hr3 i' (by omega) hp'
            · have ne : ¬ Tm i n / Tm i j = Tm r n / Tm r j := fun h => e2 (decide_eq_true h)
              refine keep ⟨by omega, hr2, fun i' hi' hp' => ?_⟩
              by_cases q : i' = i
              · subst q; exact .inl (by grind)
              · exact hr3 i' (by omega) hp'
      · have hnp : ¬ 0 < Tm i j := fun h => e (decide_eq_true (np.mpr h))
        refine ⟨A', v, o, _, _, _, rfl, fz', hv, ?_⟩
        cases o with
        | none =>
          intro i' hi'
          by_cases q : i' = i
          · subst q; grind
          · exact ho i' (by omega)
        | some r =>
          obtain ⟨hr1, hr2, hr3⟩ := ho
          refine ⟨by omega, hr2, fun i' hi' hp' => ?_⟩
          by_cases q : i' = i
          · subst q; exact absurd hp' hnp
          · exact hr3 i' (by omega) hp'
    · rintro σ H' ⟨A', v, o, y4, y5, y6, rfl, fz, hv, ho⟩
      rw [hST.1] at ho
      cases o with
      | none =>
        obtain rfl : v = .non := hv
        exact ⟨.non, rfl, rfl, _, rfl, iteF (q0 ho H' A' _ fz rfl)⟩
      | some r =>
        obtain ⟨p, u, rfl, hpT, _⟩ := hv
        refine ⟨.ref p, rfl, rfl, _, rfl, iteT ⟨.ref p, rfl, p, _, 1, _, rfl, rfl, sameT fz.sub hpT, atI_nat (j := 1) rfl, q1 r ho H' A' _ fz rfl⟩⟩
end
end BW

namespace BW
open PySem PySem.Spec PyProof.Rows L2
section
variable {P : Program} {w : World} {K : PySem.W.Frag} {mg : Str → Option Value} {base : Heap}
/-! ### pivoted -/
def spPivoted (K : PySem.W.Frag) : Sp := fun vs H Q _ => ∃ (A : Hp) (a : V) (m n r c : Nat) (T : Mat), vs = [a, .int (r : Int), .int (c : Int)] ∧ Same A H ∧ Tbl K A a m n T ∧ r < m ∧ c < n ∧ T r c ≠ 0 ∧
  (∀ i, i < m → ∀ j, j < n → Sz 300 (T i j)) ∧ m ≤ 100 ∧ n ≤ 100 ∧ Ret H A Q fun A' v => Tbl K A' v m n (piv T r c)
theorem ok_pivoted {f : Addr} {fd : FuncData} (F : Fun K "pivoted" "pivoted" sPivoted f fd) (T : Txt K mg) (hO : Has P w K mg base CX0 3 "over" ["one", "other"] (spOver K)) (hL : Has P w K mg base CX0 5 "lowered" ["row", "other", "factor"] (spLowered K)) : FnOk P w K mg base CX0 6 f fd ["table", "at", "column"] (spPivoted K) := by
  obtain ⟨fO, fdO, GO, gO, kO, bO⟩ := hO
  obtain ⟨fL, fdL, GL, gL, kL, bL⟩ := hL
  refine F.ok scPivoted (fun vs H Q E h => ?_) (fun cdv A₀ outer s H vs Q E hr h => ?_)
  · obtain ⟨A, a, m, n, r, c, T, rfl, _⟩ := h; rfl
  · obtain ⟨A, a, m, n, r, c, Tm, rfl, s0, hT, hrm, hcn, hp, hz, hm, hn, q⟩ := h
    refine ⟨_, pss_cons (ps_set (i := 3) scPivoted.nd rfl (.inr rfl) (pe_ix ix_list (pe_ix ix_list (pv 0) (pv 1) (fun _ _ => rfl)) (pv 2) (fun _ _ => rfl)))
      (pss_cons (ps_setLc (i := 4) (own := [("part", 9)]) (g := gName 9) rfl scPivoted.nd rfl rfl (sw_true rfl rfl rfl (by decide +kernel)) (pi_list (pe_ix ix_list (pv 0) (pv 1) (fun _ _ => rfl)))
          (blkOk_by (own := [("part", 9)]) (N := ["table", "at", "column", "lead", "row", "found", "place", "other", "factor", "part"]) (sc := defScope sPivoted) (by decide +kernel))
          (fun _ _ _ _ _ => by exact pg_name (i := 9) scPivoted.nd rfl (.inl rfl)) (fun _ _ _ _ _ => pts_nil)
          (fun _ _ _ _ _ => pe_ifExp (pt_cmpR op_ne (pe_ix (r := rIxT K) ix_tup (pv 9) pe_int (fun _ _ => rfl)) pe_int (nomark _))
            (pe_call GO (hr.mono (by decide)) rfl gO kO bO .nil pass0 (pa_cons (pv 9) (pa_cons (pv 3) pa_nil))) (pv 9)))
      (pss_cons (ps_set (i := 5) scPivoted.nd rfl (.inl rfl) (pe_lst pa_nil))
      (pss_cons (ps_for PassesOwn.never rfl (pi_enum (by rfl) T.enumerate (pa_cons (pv 0) pa_nil)) (pg_tup rfl (pgs_cons (pg_name (i := 6) scPivoted.nd rfl (.inl rfl)) (pgs_cons (pg_name (i := 7) scPivoted.nd rfl (.inl rfl)) pgs_nil)))
        (pss_cons (ps_set (i := 8) scPivoted.nd rfl (.inl rfl) (pe_ix ix_list (pv 7) (pv 2) (fun _ _ => rfl)))
        (pss_one (ps_if (pt_cmpR op_eq (pv 6) (pv 1) (nomark _))
          (pss_one (ps_expr (pe_bm PySem.F.plainAttrs_list PySem.F.slot_list_append PySem.F.type_list_append mt_append (pv 5) (pa_cons (pv 4) pa_nil))))
          (pss_one (ps_expr (pe_bm PySem.F.plainAttrs_list PySem.F.slot_list_append PySem.F.type_list_append mt_append (pv 5) (pa_cons
            (pe_ifExp (pt_cmpR op_ne (pe_ix ix_tup (pv 8) pe_int (fun _ _ => rfl)) pe_int (nomark _))
              (pe_call GL hr rfl gL kL bL .nil pass0 (pa_cons (pv 7) (pa_cons (pv 4) (pa_cons (pv 8) pa_nil)))) (pv 7)) pa_nil))))))))
      (pss_one (ps_ret (pv 5)))))), ?_⟩
    obtain ⟨aT, xsT, rfl, hLT, hST⟩ := id hT
    -- lead, the row
    refine ⟨_, rfl, .int (r : Int), rfl, ixL s0 hT hrm fun rw hrw => ⟨.int (c : Int), rfl, ixL s0 hrw hcn fun ld hld => ?_⟩⟩
    refine ⟨_, rfl, .int (r : Int), rfl, ixL s0 hT hrm fun rw2 hrw2 => ?_⟩
    obtain ⟨aR, xsR, rfl, hLR, hSR⟩ := id hrw2
    refine ⟨aR, rfl, ⟨xsR, s0.seq hLR⟩, fun D hD => ?_⟩
    refine lc_it (walk_list (xs := xsR)) (Bld H A D fun A' j x => IsR K A' x (Tm r j / Tm r c)) (Bld.start (Fz.refl s0) hD) (fun i H' _ ⟨A', zs, fz, _⟩ => (s0.trans fz.kee).seq hLR) ?_ ?_
    · rintro j x H' H'' hi ⟨A', zs, fz, hAD, hHD, hSq⟩ ⟨rfl, hx⟩
      have hjn : j < n := by rw [← hSR.1]; exact hi
      obtain ⟨x', e', px⟩ := hSR.2 j hjn
      obtain rfl : x' = x := Option.some.inj (e'.symm.trans hx)
      have p1 := px.up fz.ext
      have p2 := hld.up fz.ext
      refine ⟨rfl, x', rfl, ixTop fz.sub p1 ⟨rfl, _, rfl, ?_⟩⟩
      by_cases e : Tm r j = 0
      · refine ifF (by rw [e]; rfl) ⟨x', rfl, ?_⟩
        refine Bld.more (P := fun A' j x => IsR K A' x (Tm r j / Tm r c)) (fun _ _ _ _ s p => p.up s) fz hAD hHD hSq (Fz.refl fz.sub) hD (by omega) ?_
        have : Tm r j / Tm r c = Tm r j := by rw [e]; grind
        rw [this]; exact p1
      · refine ifT (sz_num0.mpr e) ⟨x', rfl, ld, rfl, A', x', ld, _, _, rfl, fz.sub, p1, p2, ⟨⟨(hz r hrm j hjn).mono (by decide), (hz r hrm c hcn).mono (by decide)⟩, hp⟩, fun H2 A2 v2 fz2 h2 => ?_⟩
        exact Bld.more (P := fun A' j x => IsR K A' x (Tm r j / Tm r c)) (fun _ _ _ _ s p => p.up s) fz hAD hHD hSq fz2 hD (by omega) h2
    · intro H1 hb
      rw [hSR.1] at hb
      obtain ⟨A1, fz1, hrow⟩ := Bld.done (K := K) (P := fun A' j x => IsR K A' x (Tm r j / Tm r c)) (fun _ _ _ _ s p => p.up s) hD hb
      -- found = []
      refine ⟨(by show 0 ≤ sizeLine; decide), fun D2 hD2 => ?_⟩
      have sT1 : Same A (upd H1 D2 (.lst [])) := (s0.trans fz1.kee).trans (same_new hD2)
      refine ⟨_, rfl, aT, xsT, rfl, sT1.seq hLT, ?_⟩
      refine for_it (walk_enum (xs := xsT)) (fun i σ H' => ∃ y6 y7 y8, σ = [some (.ref aT), some (.int (r : Int)), some (.int (c : Int)), some ld, some (.ref D), some (.ref D2), y6, y7, y8, none] ∧ Bld H1 A1 D2 (fun A' i x => Row K A' x n (piv Tm r c i)) i H')
        ⟨none, none, none, rfl, Bld.start (Fz.refl fz1.sub) hD2⟩ (fun i σ H' _ ⟨_, _, _, _, A', zs, fz, _⟩ => ((s0.trans fz1.kee).trans fz.kee).seq hLT) ?_ ?_
      · rintro i x σ H' H'' hi ⟨y6, y7, y8, rfl, A', zs, fz, hAD, hHD, hSq⟩ hY
        have him : i < m := by rw [← hST.1]; exact hi
        obtain ⟨Tt, ot, rfl, hTt, rfl, prow, fz'⟩ := enum_go hST him fz hY
        refine ⟨Tt, [.int (i : Nat), ot], rfl, SqT.of upd_same, rfl, .int (i : Nat), [ot], rfl, ot, [], rfl, rfl, ?_⟩
        have f0 : Fz H' A' (upd H' Tt (.tup [.int (i : Nat), ot])) A' := (Fz.refl fz.sub).laidM hTt
        have sA : Same A (upd H' Tt (.tup [.int (i : Nat), ot])) := (s0.trans fz1.kee).trans fz'.kee
        have hHD' := f0.kee D2 _ hHD
        refine ⟨ot, rfl, .int (c : Int), rfl, ixL sA prow hcn fun fc hfc => ?_⟩
        have sAA : Same A A' := fz1.ext.trans fz'.ext
        have hot : Row K A' ot n (Tm i) := rowUp prow sAA
        have hfc' := hfc.up sAA
        refine ⟨.int (i : Nat), rfl, .int (r : Int), rfl, rfl, _, rfl, ite2 (fun e => ?_) (fun e => ?_)⟩
        · have eir : i = r := by have := V.int.inj (of_decide_eq_true e); omega
          obtain ⟨acc, h1, h2, h3⟩ := Bld.more (P := fun A' i x => Row K A' x n (piv Tm r c i)) (fun _ _ _ _ s p => rowUp p s) fz hAD hHD hSq f0 hD2 (by omega) (y := .ref D) (by
            refine (rowUp hrow fz.ext).up (Same.refl _) fun j x _ p => ?_
            unfold piv; rw [if_pos eir]; exact p)
          exact ⟨.ref D2, rfl, .inl ⟨rfl, _, .inl (.inl hHD')⟩, .ref D, rfl, D2, _, _, rfl, rfl, h1, h2, _, _, _, rfl, h3⟩
        · have eir : i ≠ r := fun h => e (decide_eq_true (by rw [h]))
          refine ⟨.ref D2, rfl, .inl ⟨rfl, _, .inl (.inl hHD')⟩, fc, rfl, ixTop fz'.sub hfc' ⟨rfl, _, rfl, ?_⟩⟩
          by_cases e0 : Tm i c = 0
          · refine ifF (by rw [e0]; rfl) ⟨ot, rfl, ?_⟩
            obtain ⟨acc, h1, h2, h3⟩ := Bld.more (P := fun A' i x => Row K A' x n (piv Tm r c i)) (fun _ _ _ _ s p => rowUp p s) fz hAD hHD hSq f0 hD2 (by omega) (y := ot) (by
              refine hot.up (Same.refl _) fun j x _ p => ?_
              have : piv Tm r c i j = Tm i j := by unfold piv; rw [if_neg eir, e0]; grind
              rw [this]; exact p)
            exact ⟨D2, _, _, rfl, rfl, h1, h2, _, _, _, rfl, h3⟩
          · refine ifT (sz_num0.mpr e0) ⟨ot, rfl, .ref D, rfl, fc, rfl, A', ot, .ref D, fc, n, _, _, _, rfl, fz'.sub, hot, rowUp hrow fz.ext, hfc', fun j hj => (hz i him j hj).mono (by decide), fun j hj => ((hz r hrm j hj).div (hz r hrm c hcn) hp).mono (by decide), (hz i him c hcn).mono (by decide), hn, fun H2 A2 v2 fz2 h2 => ?_⟩
            obtain ⟨acc, h1, h2', h3⟩ := Bld.more (P := fun A' i x => Row K A' x n (piv Tm r c i)) (fun _ _ _ _ s p => rowUp p s) fz hAD hHD hSq (f0.trans fz2) hD2 (by omega) (y := v2) (by
              refine h2.up (Same.refl _) fun j x _ p => ?_
              unfold piv; rw [if_neg eir]; exact p)
            exact ⟨D2, _, _, rfl, rfl, h1, h2', _, _, _, rfl, h3⟩
      · rintro σ H' ⟨y6, y7, y8, rfl, hb2⟩
        rw [hST.1] at hb2
        obtain ⟨A2, fz2, hl⟩ := Bld.done (K := K) (P := fun A' i x => Row K A' x n (piv Tm r c i)) (fun _ _ _ _ s p => rowUp p s) hD2 hb2
        exact ⟨.ref D2, rfl, q H' A2 _ (fz1.trans fz2) hl⟩
end
end BW

namespace BW
open PySem PySem.Spec PyProof.Rows L2 StX
abbrev sBB : Stmt := top 31
theorem scBB : FnScope ["table", "basis", "costs", "some", "at", "column"] ["table", "basis", "costs"] (defScope sBB) := ⟨rfl, rfl, rfl, by decide +kernel, rfl, by decide +kernel, by decide +kernel⟩

/-! ### an own error without a field, made without arguments -/
theorem pmk_bare {X : Cx} {C : Addr} {bmB : List Value} {B newId initId : String} {x : Str} {p pos : Pos} (F : ExcBaseFacts B newId initId bmB) (q : PySem.W.excIn X.K C bmB newId = true) (gC : X.mg x = some (.ref C)) (kC : PySem.W.keepIn X.K (.ref C) = true) (r : Raises X (.ref C)) (hg : Gl X x)
    (hdb : (x == ("__debug__" : Str)) = false := by decide) : PMk X (.Call (.Name x p) [] [] pos) (fun _ H Q => Q (.ref C) none H) := by
  intro pins s σ H Q I h
  refine wpAny_Call_Name_kw (ld_glob I hg gC (PySem.W.callWith_K0 I.kIn kC ?_) hdb)
  obtain ⟨hp, g, dr, tk, os⟩ := s
  obtain ⟨bm, N, nm, qn, bs, hdct, sn, sub, ab, col, dd, k0, k1, k2, k3, k5, mN, hC, hN, hni, Tl⟩ := exc_obj I.kIn q
  refine wpAny_call_exc_subT F Tl hC hN hni (fun h' e hm => ?_) (by show 0 ≤ sizeLine; decide)
  exact mk_of I hm r h (I.hok.gone hm.new)
/-- what the top says of NotBound (at C) -/
structure ErrTxt (K : PySem.W.Frag) (mg : Str → Option Value) (C : Addr) : Prop where
  x : PySem.W.excIn K C [.type "ValueError", .type "Exception", .type "BaseException", .type "object"] "ValueError.__new__" = true
  g : mg "NotBound" = some (.ref C)
  k : PySem.W.keepIn K (.ref C) = true
  b : PySem.W.subIn K (.ref C) (.type "BaseException") = some true
  t : PySem.W.typeIn K (.ref C) = some (.type "type")

/-! ### a list with one place changed -/
theorem cut_pre {xs : List V} {r : Nat} (h : r ≤ xs.length) : cutV xs none (some (r : Int)) = xs.take r := by
  unfold cutV
  rw [HT.sIx_none, HT.sIx_nat, Nat.min_eq_left h]; rfl
theorem cut_post {xs : List V} {r : Nat} (h : r + 1 ≤ xs.length) : cutV xs (some ((r : Int) + 1)) none = xs.drop (r + 1) := by
  have e : (r : Int) + 1 = ((r + 1 : Nat) : Int) := by omega
  unfold cutV
  rw [e, HT.sIx_none, HT.sIx_nat, Nat.min_eq_left h]
  rw [List.take_of_length_le]
  rw [List.length_drop]; exact Nat.le_refl _
theorem put_sq {xs : List V} {m r q : Nat} {B : Nat → Nat} (h : Sq m (fun i x => x = .int (B i : Int)) xs) (hr : r < m) : Sq m (fun i x => x = .int (pib B r q i : Int)) (xs.take r ++ (.int (q : Int) :: (xs.drop (r + 1) ++ []))) := by
  rw [List.append_nil]
  show Sq m (fun i x => x = .int (pib B r q i : Int)) (xs.take r ++ ([.int (q : Int)] ++ xs.drop (r + 1)))
  refine ⟨?_, fun i hi => ?_⟩
  · have := h.1
    simp only [List.length_append, List.length_take, List.length_drop, List.length_singleton]
    omega
  · have hl := h.1
    by_cases e : i < r
    · obtain ⟨x, e1, e2⟩ := h.2 i hi
      refine ⟨x, ?_, ?_⟩
      · rw [List.getElem?_append_left (by rw [List.length_take]; omega), List.getElem?_take, if_pos e]; exact e1
      · show x = .int (pib B r q i : Int)
        unfold pib; rw [if_neg (by omega)]; exact e2
    · by_cases e3 : i = r
      · subst e3
        refine ⟨.int (q : Int), ?_, ?_⟩
        · rw [List.getElem?_append_right (by rw [List.length_take]; omega), List.length_take, Nat.min_eq_left (by omega), Nat.sub_self]; rfl
        · show V.int (q : Int) = .int (pib B i q i : Int)
          unfold pib; rw [if_pos rfl]
      · obtain ⟨x, e1, e2⟩ := h.2 i hi
        refine ⟨x, ?_, ?_⟩
        · rw [List.getElem?_append_right (by rw [List.length_take]; omega), List.length_take, Nat.min_eq_left (by omega)]
          rw [List.getElem?_append_right (by simp; omega), List.length_singleton, List.getElem?_drop]
          rw [← e1]; congr 1; omega
        · show x = .int (pib B r q i : Int)
          unfold pib; rw [if_neg e3]; exact e2

/-! ### lists of small data -/
def Flat (d : PyData) : Prop := d.canLay0 = true ∧ d.depth ≤ 1
theorem flat_all : ∀ {ds : List PyData}, (∀ d ∈ ds, Flat d) → PyData.canLayAll0 ds = true ∧ PyData.depthAll ds ≤ 1
  | [], _ => ⟨rfl, Nat.zero_le _⟩
  | d :: r, h => by
    obtain ⟨h1, h2⟩ := flat_all (ds := r) fun d hd => h d (List.mem_cons_of_mem _ hd)
    obtain ⟨h3, h4⟩ := h d List.mem_cons_self
    rw [PyData.canLayAll0, PyData.depthAll, h1, h3]
    exact ⟨rfl, Nat.max_le.mpr ⟨h4, h2⟩⟩
theorem shaped_list {ds : List PyData} (h : ∀ d ∈ ds, Flat d) : SeqAt.shaped (.list ds) = true := by
  obtain ⟨h1, h2⟩ := flat_all h
  unfold SeqAt.shaped
  rw [PyData.canLay0, PyData.depth, h1, Bool.true_and, decide_eq_true]
  omega
theorem flat_int (i : Int) : Flat (.int i) := ⟨rfl, Nat.zero_le _⟩
theorem dpAll_map {α : Type} {K : PySem.W.Frag} {H : Hp} {f : α → V} {g : α → PyData} : ∀ {l : List α}, (∀ a ∈ l, Dp K H (f a) (g a)) → DpAll K H (l.map f) (l.map g)
  | [], _ => .nil
  | a :: r, h => .cons (h a List.mem_cons_self) (dpAll_map fun b hb => h b (List.mem_cons_of_mem _ hb))
theorem eqv_nil {ds : List PyData} : PyData.eqv (.list ds) (.list []) = ds.isEmpty := by
  cases ds with
  | nil => simp [PyData.eqv, PyData.eqvAll]
  | cons k r => simp [PyData.eqv, PyData.eqvAll]
abbrev iV (k : Nat) : V := .int (k : Int)
abbrev iD (k : Nat) : PyData := .int (k : Int)

section
variable {P : Program} {w : World} {K : PySem.W.Frag} {mg : Str → Option Value} {base : Heap}
/-- the columns that grow the sum, among the first k -/
def Cand (g : Nat → Rat) (k : Nat) (ks : List Nat) : Prop := (ks = [] → ∀ j, j < k → g j ≤ 0) ∧ ∀ q r, ks = q :: r → q < k ∧ 0 < g q ∧ ∀ j, j < q → g j ≤ 0
theorem Cand.no {g : Nat → Rat} {k : Nat} {ks : List Nat} (h : Cand g k ks) (n : ¬ 0 < g k) : Cand g (k + 1) ks := by
  refine ⟨fun e j hj => ?_, fun q r e => ?_⟩
  · by_cases z : j = k
    · subst z; grind
    · exact h.1 e j (by omega)
  · obtain ⟨a, b, c⟩ := h.2 q r e
    exact ⟨by omega, b, c⟩
theorem Cand.yes {g : Nat → Rat} {k : Nat} {ks : List Nat} (h : Cand g k ks) (n : 0 < g k) : Cand g (k + 1) (ks ++ [k]) := by
  refine ⟨fun e => by simp at e, fun q r e => ?_⟩
  cases ks with
  | nil =>
    have : k = q := by simpa using (List.cons.inj e).1
    subst this
    exact ⟨by omega, n, h.1 rfl⟩
  | cons q' r' =>
    have : q' = q := (List.cons.inj e).1
    subst this
    obtain ⟨a, b, c⟩ := h.2 q' r' rfl
    exact ⟨by omega, b, c⟩

/-! ### best_basis -/
/-- all tables that can come have small entries -/
def Small (m n : Nat) (T : Mat) : Prop := ∀ T' B', Tab m n T' B' → (∀ z, Null m n T' z ↔ Null m n T z) → ∀ i, i < m → ∀ j, j ≤ n → Sz 300 (T' i j)
def BBEnd (m n : Nat) (T : Mat) (T' : Mat) (B' : Nat → Nat) : Prop := Tab m n T' B' ∧ Feas m n T' ∧ ∀ z, Null m n T' z ↔ Null m n T z
def spBB (K : PySem.W.Frag) (C : Addr) : Sp := fun vs H Q E => ∃ (A : Hp) (a b c : V) (m n : Nat) (T : Mat) (B : Nat → Nat) (cs : Nat → Rat), vs = [a, b, c] ∧ Same A H ∧ Tbl K A a m (n + 1) T ∧ Ints K A b m (fun i => (B i : Int)) ∧ Row K A c n cs ∧
  Tab m n T B ∧ Feas m n T ∧ Small m n T ∧ (∀ j, j < n → Sz 10 (cs j)) ∧ m ≤ 8 ∧ n ≤ 50 ∧
  (∀ T' B', BBEnd m n T T' B' → (∀ j, j < n → gn m cs T' B' j ≤ 0) → Ret H A Q fun A' v => ∃ p ta tb, v = .ref p ∧ SqT K A' p [ta, tb] ∧ Tbl K A' ta m (n + 1) T' ∧ Ints K A' tb m (fun i => (B' i : Int))) ∧
  ∀ T' B' q, BBEnd m n T T' B' → q < n → 0 < gn m cs T' B' q → (∀ i, i < m → T' i q ≤ 0) → ∀ H', Same H H' → E (.ref C) none H'
theorem ok_bb {f C : Addr} {fd : FuncData} (F : Fun K "best_basis" "best_basis" sBB f fd) (T : Txt K mg) (X : ErrTxt K mg C) (hG : Has P w K mg base CX0 6 "gain" ["table", "basis", "costs", "column"] (spGain K)) (hL : Has P w K mg base CX0 4 "leaving" ["table", "basis", "column"] (spLeaving K))
    (hP : Has P w K mg base CX0 6 "pivoted" ["table", "at", "column"] (spPivoted K)) : FnOk P w K mg base (L2.CX P w) 7 f fd ["table", "basis", "costs"] (spBB K C) := by
  obtain ⟨fG, fdG, GG, gG, kG, bG⟩ := hG
  obtain ⟨fL, fdL, GL, gL, kL, bL⟩ := hL
  obtain ⟨fP, fdP, GP, gP, kP, bP⟩ := hP
  refine F.okX scBB (fun vs H Q E h => ?_) (fun cdv A₀ outer s H vs Q E hr h => ?_)
  · obtain ⟨A, a, b, c, m, n, T, B, cs, rfl, _⟩ := h; rfl
  · obtain ⟨A, a, b, c, m, n, Tm, B, cs, rfl, s0, hT, hB, hC, tab, feas, small, hz, hm, hn, qn, qe⟩ := h
    have hu := hr.units
    refine ⟨_, pss_one (ps_while (passes_of rfl) (pt_val pe_bl)
      (pss_cons (ps_setLc (i := 3) (own := [("column", 5)]) (g := gName 5) rfl scBB.nd rfl rfl (sw_true rfl rfl rfl (by decide +kernel)) (pi_range1 rfl T.range (pa_cons (pe_callB call_len_seq (by rfl) T.len PySem.boot_len (pa_cons (pv 2) pa_nil)) pa_nil))
          (blkOk_by (own := [("column", 5)]) (N := ["table", "basis", "costs", "some", "at", "column"]) (sc := defScope sBB) (by decide +kernel))
          (fun _ _ _ _ _ => by exact pg_name (i := 5) scBB.nd rfl (.inl rfl))
          (fun _ _ _ _ _ => pts_one (pt_cmpR op_gt (pe_ix (r := rIxT K) ix_tup (pe_call GG hr rfl gG kG bG .nil pass0 (pa_cons (pv 0) (pa_cons (pv 1) (pa_cons (pv 2) (pa_cons (pv 5) pa_nil))))) pe_int (fun _ _ => rfl)) pe_int (nomark _)))
          (fun _ _ _ _ _ => pv 5))
      (pss_cons (ps_if (pt_cmpR (op_eqD hu) (pv 3) (pe_lst pa_nil) (nomark _)) (pss_one (ps_ret (pe_tup (pa_cons (pv 0) (pa_cons (pv 1) pa_nil))))) pss_nil)
      (pss_cons (ps_set (i := 4) scBB.nd rfl (.inl rfl) (pe_call GL (hr.mono (by decide)) rfl gL kL bL .nil pass0 (pa_cons (pv 0) (pa_cons (pv 1) (pa_cons (pe_ix ix_list (pv 3) pe_int (fun _ _ => rfl)) pa_nil)))))
      (pss_cons (ps_if (pt_cmpR op_isN (pv 4) pe_non (nomark _)) (pss_one (ps_raise rfl (takes_of rfl rfl rfl rfl) (pmk_bare PySem.F.excBase_ValueError X.x X.g X.k (raises_own X.b X.t) (by exact rfl)))) pss_nil)
      (pss_cons (ps_set (i := 0) scBB.nd rfl (.inr rfl) (pe_call GP hr rfl gP kP bP .nil pass0 (pa_cons (pv 0) (pa_cons (pv 4) (pa_cons (pe_ix ix_list (pv 3) pe_int (fun _ _ => rfl)) pa_nil)))))
      (pss_one (ps_set (i := 1) scBB.nd rfl (.inr rfl) (pe_lst (pa_star (pe_slice sl_list (pv 1) po_none (po_some (pv 4))) (pa_cons (pe_ix ix_list (pv 3) pe_int (fun _ _ => rfl)) (pa_star (pe_slice sl_list (pv 1) (po_some (pe_op op_add (pv 4) pe_int)) po_none) pa_nil)))))))))))), ?_⟩
    refine ⟨fun M σ H' => ∃ A' ta tb y3 y4 N Ts Bs rs qs, σ = [some ta, some tb, some c, y3, y4, none] ∧ Fz H A H' A' ∧ Run m n cs N Ts Bs rs qs ∧ Ts 0 = Tm ∧ Tbl K A' ta m (n + 1) (Ts N) ∧ Ints K A' tb m (fun i => (Bs N i : Int)) ∧ M = n ^ m - N,
      ⟨_, A, a, b, none, none, 0, fun _ => Tm, fun _ => B, fun _ => 0, fun _ => 0, rfl, Fz.refl s0, ⟨tab, feas, fun k hk => by omega⟩, rfl, hT, hB, rfl⟩, ?_⟩
    rintro M σ H' ⟨A', ta, tb, y3, y4, N, Ts, Bs, rs, qs, rfl, fz, R, e0, hTa, hTb, rfl⟩
    have tabN := R.tab N (Nat.le_refl _)
    have feasN := R.feas N (Nat.le_refl _)
    have nullN : ∀ z, Null m n (Ts N) z ↔ Null m n Tm z := fun z => by rw [← e0]; exact R.null z N (Nat.le_refl _)
    have szN := small _ _ tabN nullN
    have hC' := rowUp hC fz.ext
    obtain ⟨aC, xsC, rfl, hLC, hSC⟩ := id hC
    refine ⟨_, rfl, iteT ?_⟩
    refine ⟨fun σ' H'' => ∃ A' ta tb y3 y4 Ts Bs rs qs, σ' = [some ta, some tb, some (.ref aC), y3, y4, none] ∧ Fz H A H'' A' ∧ Run m n cs (N + 1) Ts Bs rs qs ∧ Ts 0 = Tm ∧ Tbl K A' ta m (n + 1) (Ts (N + 1)) ∧ Ints K A' tb m (fun i => (Bs (N + 1) i : Int)), ?_, ?_⟩
    · rintro σ' H'' ⟨A2, ta2, tb2, z3, z4, Ts2, Bs2, rs2, qs2, e1, e2, e3, e4, e6, e7⟩
      have := e3.short
      exact ⟨n ^ m - (N + 1), by omega, A2, ta2, tb2, z3, z4, N + 1, Ts2, Bs2, rs2, qs2, e1, e2, e3, e4, e6, e7, rfl⟩
    · -- some = [..]
      refine ⟨_, rfl, aC, xsC, rfl, .inl ((s0.trans fz.kee).seq hLC), _, rfl, by rw [hSC.1]; omega, by rw [hSC.1]; omega, fun D hD => ?_⟩
      refine lc_range (lo := 0) (n := ((xsC.length : Int)).toNat) (fun i H2 => ∃ A2 ks, Fz H' A' H2 A2 ∧ A2 D = none ∧ H2 D = some (.lst (ks.map iV)) ∧ ks.length ≤ i ∧ Cand (gn m cs (Ts N) (Bs N)) i ks) ⟨A', [], (Fz.refl fz.sub).laidM hD, fz.sub.free hD, upd_same, Nat.le_refl _, fun _ j hj => by omega, fun q r e => by cases e⟩ ?_ ?_
      · rintro i H2 hi ⟨A2, ks, f2, hAD, hHD, hlen, hc⟩
        have hin : i < n := by rw [hSC.1] at hi; omega
        refine ⟨rfl, ta, rfl, tb, rfl, .ref aC, rfl, .int (0 + (i : Int)), rfl, A2, ta, tb, .ref aC, m, n, i, Ts N, Bs N, cs, by rw [Int.zero_add]; rfl, f2.sub, tblUp hTa f2.ext, intsUp hTb f2.ext, rowUp hC' f2.ext, hin, tabN.lt, szN, hz, hm, fun H3 A3 v3 f3 h3 => ?_⟩
        obtain ⟨X, hX, hiff⟩ := h3
        have hHD3 := f3.kee D _ hHD
        have hAD3 := f3.off hHD hAD
        refine ixTop f3.sub hX ⟨_, _, rfl, rfl, _, rfl, ite2 (fun e => ?_) (fun e => ?_)⟩
        · have hg : 0 < gn m cs (Ts N) (Bs N) i := hiff.mp (of_decide_eq_true e)
          refine ⟨.int (0 + (i : Int)), rfl, ks.map iV, hHD3, small1000 (by rw [List.length_map]; omega), A3, ks ++ [i], (f2.trans f3).put hAD3 hD, hAD3, ?_, by simp; omega, hc.yes hg⟩
          rw [upd_same, List.map_append, Int.zero_add]; rfl
        · have hg : ¬ 0 < gn m cs (Ts N) (Bs N) i := fun h => e (decide_eq_true (hiff.mpr h))
          exact ⟨A3, ks, f2.trans f3, hAD3, hHD3, by omega, hc.no hg⟩
      · rintro H2 ⟨A2, ks, f2, hAD, hHD, hlen, hc⟩
        rw [hSC.1, Int.toNat_natCast] at hc hlen
        have fx := f2.fix hHD hAD hD
        -- some == []
        have hTa2 := tblUp hTa fx.ext
        have hTb2 := intsUp hTb fx.ext
        have fa := fz.trans fx
        have hsome : SqL K (upd A2 D (.lst (ks.map iV))) D (ks.map iV) := SqL.of upd_same
        refine ⟨.ref D, rfl, (by show 0 ≤ sizeLine; decide), fun D2 hD2 => ?_⟩
        have fb := fa.laidM (o := .lst []) hD2
        have hD2' : SqL K (upd H2 D2 (.lst [])) D2 [] := SqL.of upd_same
        refine ⟨.list (ks.map iD), .list [], .lst (fb.sub.seq hsome) (dpAll_map fun k _ => .int _), .lst hD2' .nil, shaped_list (by intro d hd; obtain ⟨k, _, rfl⟩ := List.mem_map.mp hd; exact flat_int _), shaped_list (fun d hd => by cases hd), _, rfl, ?_⟩
        rw [eqv_nil]
        refine ite2 (fun e => ?_) (fun e => ?_)
        · have ek : ks = [] := by
            cases ks with
            | nil => rfl
            | cons k r => cases e
          refine ⟨ta, rfl, tb, rfl, (by show 2 ≤ sizeLine; decide), fun p hp => ?_⟩
          exact qn (Ts N) (Bs N) ⟨tabN, feasN, nullN⟩ (hc.1 ek) _ _ _ (fb.laid hp) ⟨p, ta, tb, rfl, SqT.of upd_same, tblUp hTa2 (same_new (fb.sub.free hp)), intsUp hTb2 (same_new (fb.sub.free hp))⟩
        · cases ks with
          | nil => exact absurd rfl e
          | cons q r =>
            obtain ⟨hq1, hq2, hq3⟩ := hc.2 q r rfl
            refine ⟨ta, rfl, tb, rfl, .ref D, rfl, D, _, 0, iV q, rfl, rfl, fb.sub.seq hsome, atI_nat (j := 0) rfl, ?_⟩
            refine ⟨_, ta, tb, m, n, q, Ts N, Bs N, rfl, fb.sub, hTa2, hTb2, by omega, szN, by omega, fun hl H3 A3 v3 f3 h3 => ?_, fun r' hl H3 A3 v3 f3 h3 => ?_⟩
            · subst h3
              refine ⟨.non, rfl, rfl, _, rfl, iteT ?_⟩
              exact qe (Ts N) (Bs N) q ⟨tabN, feasN, nullN⟩ hq1 hq2 hl H3 (fb.trans f3).kee
            · subst h3
              obtain ⟨hl1, hl2, hl3⟩ := hl
              refine ⟨.int (r' : Int), rfl, rfl, _, rfl, iteF ?_⟩
              have fc := fb.trans f3
              refine ⟨ta, rfl, .int (r' : Int), rfl, .ref D, rfl, D, _, 0, iV q, rfl, rfl, (f3.sub.seq (f3.ext.seq hsome)), atI_nat (j := 0) rfl, ?_⟩
              refine ⟨A3, ta, m, n + 1, r', q, Ts N, rfl, f3.sub, tblUp hTa2 f3.ext, hl1, by omega, by grind, fun i hi j hj => szN i hi j (by omega), by omega, by omega, fun H4 A4 v4 f4 h4 => ?_⟩
              obtain ⟨aP, xsP, rfl, hLP, hSP⟩ := id h4
              have fd' := fc.trans f4
              obtain ⟨aB, xsB, rfl, hLB, hSB⟩ := id (intsUp hTb2 (f3.ext.trans f4.ext))
              have hsome4 : SqL K A4 D (iV q :: r.map iV) := (f3.ext.trans f4.ext).seq hsome
              -- [*basis[:at], some[0], *basis[at + 1:]]
              refine ⟨.ref aB, rfl, .int (r' : Int), rfl, _, rfl, aB, xsB, rfl, f4.sub.seq hLB, fun p1 hp1 => ?_⟩
              have g1 := fd'.laidM (o := .lst (cutV xsB none (some (r' : Int)))) hp1
              refine ⟨p1, _, rfl, .inr (SqL.of upd_same), .ref D, rfl, D, _, 0, iV q, rfl, rfl, g1.sub.seq hsome4, atI_nat (j := 0) rfl, ?_⟩
              refine ⟨.ref aB, rfl, .int (r' : Int), rfl, _, _, rfl, rfl, _, rfl, aB, xsB, rfl, g1.sub.seq hLB, fun p2 hp2 => ?_⟩
              have g2 := g1.laidM (o := .lst (cutV xsB (some ((r' : Int) + 1)) none)) hp2
              refine ⟨p2, _, rfl, .inr (SqL.of upd_same), ?_⟩
              have hrl : r' + 1 ≤ xsB.length := by rw [hSB.1]; omega
              rw [cut_pre (by omega), cut_post hrl] at *
              have hsq := put_sq (q := q) hSB hl1
              refine ⟨?_, fun p3 hp3 => ?_⟩
              · exact Nat.le_of_lt (small_lst hsq (by omega))
              · have g3 := g2.laid (o := .lst (xsB.take r' ++ (iV q :: (xsB.drop (r' + 1) ++ [])))) hp3
                have st : Stp m n cs (Ts N) (Bs N) (piv (Ts N) r' q) (pib (Bs N) r' q) r' q :=
                  ⟨hq1, hq2, hq3, hl1, hl2, hl3, fun _ _ _ _ => rfl, fun _ _ => rfl⟩
                obtain ⟨Ts', Bs', rs', qs', R', z0, z1, z2⟩ := R.snoc st
                refine ⟨_, .ref aP, .ref p3, _, _, Ts', Bs', rs', qs', rfl, g3, R', z0.trans e0, ?_, ?_⟩
                · rw [z1]; exact tblUp h4 (same_new (g2.sub.free hp3))
                · rw [z2]; exact ⟨p3, _, rfl, SqL.of upd_same, hsq⟩
end
end BW

namespace BW
open PySem PySem.Spec PyProof.Rows L2

/-! ### enumerate(zip(a, b)): the zip's own pair is still out while the next one is drawn -/
/-- the zip at z: v tells which pair is out, f that it was met out -/
abbrev ZAt (h : Heap) (z TI TO : Addr) (v : Value) (f : Bool) : Prop :=
  h.get? z = some { cls := .type "zip", dict := none, data := .fields #[v, .bool f, .bool false, .ref TI, .ref TO], slots := #[] }
def Ow (v : Value) : Prop := v = .none ∨ ∃ T : Addr, v = rawInt T
section
variable {prog : Program} {w : World} {A : Around} {E : Value → Shared → Prop} {s : Shared} {z TI TO i1 i2 : Addr} {fp1 fp2 : List Addr} {n1 n2 i : Nat} {P1 P2 : Nat → Value → Prop} {St1 St2 : Nat → Heap → Prop} {a1 a2 v : Value} {f : Bool}
theorem zalive {a : Addr} {Q : Option Obj → Shared → Prop} (h : Q (s.heap.get? a) s) : wpAny (model prog w) A (loadIfAlive a) Q E s := fun _ _ _ => h
theorem zfree {Q : Bool → Shared → Prop} (zAt : ZAt s.heap z TI TO v f) (ow : Ow v) (tyE : Q true s) (hF : ∀ h', ZAt h' z TI TO v true → Heap.SameBut z s.heap h' → Q false { s with heap := h' }) :
    wpAny (model prog w) A (Builtin.SmallTypes.ownedTupleIsFree (.ref z)) Q E s := by
  unfold Builtin.SmallTypes.ownedTupleIsFree; rcases ow with rfl | ⟨T, rfl⟩
  · exact wpAny_bind (wpAny_field zAt rfl (x := .none) rfl (wpAny_pure tyE))
  · refine wpAny_bind (wpAny_field zAt rfl (x := rawInt T) rfl ?_)
    show wpAny _ _ (loadIfAlive ((T : Int).toNat) >>= _) _ _ _; rw [Int.toNat_natCast]
    refine wpAny_bind (zalive ?_)
    cases hg : s.heap.get? T with
    | none => simp only [Option.isNone_none, if_true]; exact wpAny_pure tyE
    | some o =>
      simp only [Option.isNone_some, Bool.false_eq_true, if_false]; refine wpAny_bind (wpAny_field zAt rfl (x := .bool f) rfl ?_)
      cases f with
      | true => exact wpAny_pure (hF s.heap zAt (Heap.SameBut.refl _ _))
      | false => exact wpAny_bind (wpAny_setField_rec zAt (by simp) fun g hg' hs' => wpAny_pure (hF g hg' hs'))
/-- a pair drawn -/
theorem znext {Q : Value → Shared → Prop} (S : ZipSep2 z TI TO i1 i2 fp1 fp2) (D1 : Draws prog w A i1 fp1 n1 P1 St1) (D2 : Draws prog w A i2 fp2 n2 P2 St2) (zAt : ZAt s.heap z TI TO v f) (ow : Ow v)
    (hTI : IsTupOf2 s.heap TI (.ref i1) (.ref i2)) (hTO : IsTupOf2 s.heap TO a1 a2) (st1 : St1 i s.heap) (st2 : St2 i s.heap) (l1 : i < n1) (l2 : i < n2)
    (onQ : ∀ x1 x2 h' tk v' f' b1 b2, P1 i x1 → P2 i x2 → ZAt h' z TI TO v' f' → Ow v' → IsTupOf2 h' TO b1 b2 → St1 (i + 1) h' → St2 (i + 1) h' → IsTupOf2 h' s.heap.objs.size x1 x2 → h'.objs.size = s.heap.objs.size + 1 →
      (∀ c o, c ≠ z → c ≠ TO → c ≠ i1 → c ≠ i2 → s.heap.get? c = some o → h'.get? c = some o)
        → Q (.ref s.heap.objs.size) { s with heap := h', toks := tk }) :
    wpAny (model prog w) A (Builtin.«zip.__next__» ⟨[.ref z], []⟩) (fun fin s' => ∃ u, fin = .done (.ret u) ∧ Q u s') E s := by
  obtain ⟨hp, gn, dw, tok, ou⟩ := s
  show wpAny _ _ (field (.ref z) 2 >>= _) _ _ _; refine wpAny_bind (wpAny_field zAt rfl (x := .bool false) rfl ?_)
  show wpAny _ _ (field (.ref z) 3 >>= _) _ _ _; refine wpAny_bind (wpAny_field zAt rfl (x := .ref TI) rfl (wpAny_bind (wpAny_seqItems hTI rfl ?_)))
  show wpAny _ _ (Builtin.SmallTypes.ownedTupleIsFree (.ref z) >>= _) _ _ _; refine wpAny_bind (zfree zAt ow ?_ fun g0 za ka => ?_)
  · -- free: the zip's own pair is filled anew
    simp only [if_true]
    refine wpAny_bind (wpAny_rule (wpAny_bind (wpAny_field zAt rfl (x := .ref TO) rfl (wpAny_bind (wpAny_setField_rec zAt (by simp) fun g0 za ka => ?_)))))
    replace za : ZAt g0 z TI TO .ellipsis f := za; replace ka : Heap.SameBut z hp g0 := ka
    refine wpAny_bind ?_
    simp only [List.zipIdx_cons, List.zipIdx_nil, List.forIn_cons, List.forIn_nil]; refine wpAny_bind (wpAny_bind (wpAny_onRaise ?_)); show wpAny _ _ (Builtin.SmallTypes.nextOf (.ref i1) >>= _) _ _ ⟨g0, gn, dw, tok, ou⟩
    refine wpAny_bind (D1.item i _ _ _ l1 (D1.over st1 ka S.zf1) fun x1 p1 tk1 hx1 sn1 kb => wpAny_pure ?_)
    replace kb : Heap.SameBut i1 g0 p1 := kb
    have ub : IsTupOf2 p1 TO a1 a2 := kb.extBut _ _ S.Ti1 (ka.extBut _ _ S.TOz hTO)
    refine wpAny_bind (wpAny_seqItems (s := ⟨p1, gn, dw, tk1, ou⟩) ub rfl (wpAny_bind (updateSeq_IsTupOf2 (s := ⟨p1, gn, dw, tk1, ou⟩) ub fun g1 tb kc => ?_)))
    replace tb : IsTupOf2 g1 TO x1 a2 := tb; replace kc : Heap.SameBut TO p1 g1 := kc
    refine wpAny_bind (wpAny_letGo (wpAny_pure (wpAny_bind (wpAny_bind (wpAny_onRaise ?_))))); show wpAny _ _ (Builtin.SmallTypes.nextOf (.ref i2) >>= _) _ _ ⟨g1, gn, dw, tk1, ou⟩
    refine wpAny_bind (D2.item i _ _ _ l2 (D2.over (D2.over (D2.over st2 ka S.zf2) kb S.sep1_2) kc S.Tf2) fun x2 p2 tk2 hx2 sn2 kd => wpAny_pure ?_)
    replace kd : Heap.SameBut i2 g1 p2 := kd
    have ud : IsTupOf2 p2 TO x1 a2 := kd.extBut _ _ S.Ti2 tb
    refine wpAny_bind (wpAny_seqItems (s := ⟨p2, gn, dw, tk2, ou⟩) ud rfl (wpAny_bind (updateSeq_IsTupOf2 (s := ⟨p2, gn, dw, tk2, ou⟩) ud fun g2 td ke => ?_)))
    replace td : IsTupOf2 g2 TO x1 x2 := td; replace ke : Heap.SameBut TO p2 g2 := ke
    refine wpAny_bind (wpAny_letGo (wpAny_pure (wpAny_pure (wpAny_bind (wpAny_seqItems (s := ⟨g2, gn, dw, tk2, ou⟩) td rfl (wpAny_bind (wpAny_newTuple ?_)))))))
    have szE : g2.objs.size = hp.objs.size := by rw [ke.1, kd.1, kc.1, kb.1, ka.1]
    have zE : ZAt g2 z TI TO .ellipsis f := ke.extBut _ _ S.TOz.symm (kd.extBut _ _ S.zi2 (kc.extBut _ _ S.TOz.symm (kb.extBut _ _ S.zi1 za)))
    have kE : ∀ c o, c ≠ z → c ≠ TO → c ≠ i1 → c ≠ i2 → hp.get? c = some o → g2.get? c = some o := fun c o cz cT c1 c2 e => ke.extBut _ _ cT (kd.extBut _ _ c2 (kc.extBut _ _ cT (kb.extBut _ _ c1 (ka.extBut _ _ cz e))))
    have d1E : St1 (i + 1) g2 := D1.over (D1.over (D1.over sn1 kc S.Tf1) kd S.sep2_1) ke S.Tf1
    have d2E : St2 (i + 1) g2 := D2.over sn2 ke S.Tf2
    have zLt : z < g2.objs.size := Heap.lt_size zE
    let g3 := g2.push { cls := .type "tuple", data := .seq #[x1, x2] }
    show wpAny _ _ (Builtin.SmallTypes.ownedTupleHandOut (.ref z) (.ref g2.objs.size) >>= _) _ _ ⟨g3, gn, dw, tk2, ou⟩
    refine wpAny_bind ?_
    unfold Builtin.SmallTypes.ownedTupleHandOut; have z6 : ZAt g3 z TI TO .ellipsis f := Heap.get?_push_of_some _ zE
    refine wpAny_bind (wpAny_setField_rec (s := ⟨g3, gn, dw, tk2, ou⟩) z6 (by simp) fun h7 z7 k7 => ?_)
    replace z7 : ZAt h7 z TI TO (rawInt g2.objs.size) f := z7
    refine wpAny_setField_rec (s := ⟨h7, gn, dw, tk2, ou⟩) z7 (by simp) fun h8 z8 k8 => ?_
    replace z8 : ZAt h8 z TI TO (rawInt g2.objs.size) false := z8
    replace k7 : Heap.SameBut z g3 h7 := k7; replace k8 : Heap.SameBut z h7 h8 := k8
    have up : ∀ c o, c ≠ z → g2.get? c = some o → h8.get? c = some o := fun c o c1 e => k8.extBut _ _ c1 (k7.extBut _ _ c1 (Heap.get?_push_of_some _ e))
    have t8 : IsTupOf2 h8 g2.objs.size x1 x2 := k8.extBut _ _ (Nat.ne_of_gt zLt) (k7.extBut _ _ (Nat.ne_of_gt zLt) (Heap.get?_push_size _ rfl))
    have n8 : h8.objs.size = g2.objs.size + 1 := by rw [k8.1, k7.1]; exact Heap.size_push ..
    refine wpAny_pure ⟨_, rfl, ?_⟩; show Q (.ref g2.objs.size) ⟨h8, gn, dw, tk2, ou⟩
    rw [szE] at t8 n8 z8 ⊢
    exact onQ x1 x2 h8 tk2 _ _ x1 x2 hx1 hx2 z8 (.inr ⟨_, rfl⟩) (up _ _ S.TOz td) (D1.frame _ _ _ d1E fun b hb o e => up b o (fun q => S.zf1 (q ▸ hb)) e) (D2.frame _ _ _ d2E fun b hb o e => up b o (fun q => S.zf2 (q ▸ hb)) e) t8 n8
      fun c o cz cT c1 c2 e => up c o cz (kE c o cz cT c1 c2 e)
  · -- out: a pair of its own
    simp only [Bool.false_eq_true, if_false]; replace ka : Heap.SameBut z hp g0 := ka
    refine wpAny_bind ?_
    rw [← Array.forIn_toList]; simp only [List.forIn_cons, List.forIn_nil]
    refine wpAny_bind (wpAny_bind (wpAny_holding ?_)); show wpAny _ _ (Builtin.SmallTypes.nextOf (.ref i1) >>= _) _ _ ⟨g0, gn, dw, tok, ou⟩
    refine wpAny_bind (D1.item i _ _ _ l1 (D1.over st1 ka S.zf1) fun x1 p1 tk1 hx1 sn1 kb => wpAny_pure (wpAny_pure ?_))
    replace kb : Heap.SameBut i1 g0 p1 := kb
    refine wpAny_bind (wpAny_bind (wpAny_holding ?_)); show wpAny _ _ (Builtin.SmallTypes.nextOf (.ref i2) >>= _) _ _ ⟨p1, gn, dw, tk1, ou⟩
    refine wpAny_bind (D2.item i _ _ _ l2 (D2.over (D2.over st2 ka S.zf2) kb S.sep1_2) fun x2 p2 tk2 hx2 sn2 kd => wpAny_pure (wpAny_pure (wpAny_pure ?_)))
    replace kd : Heap.SameBut i2 p1 p2 := kd
    show wpAny _ _ (newTuple [x1, x2] >>= _) _ _ ⟨p2, gn, dw, tk2, ou⟩; refine wpAny_bind (wpAny_newTuple ?_)
    have szE : p2.objs.size = hp.objs.size := by rw [kd.1, kb.1, ka.1]
    have zE : ZAt p2 z TI TO v true := kd.extBut _ _ S.zi2 (kb.extBut _ _ S.zi1 za)
    have tzE : IsTupOf2 p2 TO a1 a2 := kd.extBut _ _ S.Ti2 (kb.extBut _ _ S.Ti1 (ka.extBut _ _ S.TOz hTO))
    have d1E : St1 (i + 1) p2 := D1.over sn1 kd S.sep2_1
    have tE : IsTupOf2 (p2.push { cls := .type "tuple", data := .seq #[x1, x2] }) p2.objs.size x1 x2 := Heap.get?_push_size _ rfl
    have nE : (p2.push { cls := .type "tuple", data := .seq #[x1, x2] }).objs.size = p2.objs.size + 1 := Heap.size_push ..
    refine wpAny_pure ⟨_, rfl, ?_⟩; show Q (.ref p2.objs.size) ⟨p2.push { cls := .type "tuple", data := .seq #[x1, x2] }, gn, dw, tk2, ou⟩
    rw [szE] at tE nE ⊢
    exact onQ x1 x2 _ tk2 _ _ a1 a2 hx1 hx2 (Heap.get?_push_of_some _ zE) ow (Heap.get?_push_of_some _ tzE) (D1.frame _ _ _ d1E fun b _ o e => Heap.get?_push_of_some _ e) (D2.frame _ _ _ sn2 fun b _ o e => Heap.get?_push_of_some _ e) tE nE
      fun c o cz cT c1 c2 e => Heap.get?_push_of_some _ (kd.extBut _ _ c2 (kb.extBut _ _ c1 (ka.extBut _ _ cz e)))
/-- the end: the first one has no more -/
theorem zend {Q : Fin → Shared → Prop} (S : ZipSep2 z TI TO i1 i2 fp1 fp2) (D1 : Draws prog w A i1 fp1 n1 P1 St1) (zAt : ZAt s.heap z TI TO v f) (ow : Ow v) (hTI : IsTupOf2 s.heap TI (.ref i1) (.ref i2)) (st1 : St1 n1 s.heap)
    (onE : ∀ h' e, (∀ c o, c ≠ z → c ≠ TO → c ≠ i1 → c ≠ i2 → s.heap.get? c = some o → h'.get? c = some o) → (∃ o, h'.get? e = some o ∧ o.cls = .type "StopIteration") → E (.ref e) { s with heap := h' }) : wpAny (model prog w) A (Builtin.«zip.__next__» ⟨[.ref z], []⟩) Q E s := by
  obtain ⟨hp, gn, dw, tok, ou⟩ := s
  show wpAny _ _ (field (.ref z) 2 >>= _) _ _ _; refine wpAny_bind (wpAny_field zAt rfl (x := .bool false) rfl ?_)
  show wpAny _ _ (field (.ref z) 3 >>= _) _ _ _; refine wpAny_bind (wpAny_field zAt rfl (x := .ref TI) rfl (wpAny_bind (wpAny_seqItems hTI rfl ?_)))
  show wpAny _ _ (Builtin.SmallTypes.ownedTupleIsFree (.ref z) >>= _) _ _ _; refine wpAny_bind (zfree zAt ow ?_ fun g0 za ka => ?_)
  · simp only [if_true]
    refine wpAny_bind (wpAny_rule (wpAny_bind (wpAny_field zAt rfl (x := .ref TO) rfl (wpAny_bind (wpAny_setField_rec zAt (by simp) fun g0 za ka => ?_)))))
    replace za : ZAt g0 z TI TO .ellipsis f := za; replace ka : Heap.SameBut z hp g0 := ka
    refine wpAny_bind ?_
    simp only [List.zipIdx_cons, List.zipIdx_nil, List.forIn_cons, List.forIn_nil]; refine wpAny_bind (wpAny_bind (wpAny_onRaise ?_)); show wpAny _ _ (Builtin.SmallTypes.nextOf (.ref i1) >>= _) _ _ ⟨g0, gn, dw, tok, ou⟩
    refine wpAny_bind (D1.done ⟨g0, gn, dw, tok, ou⟩ _ _ (D1.over st1 ka S.zf1) fun q e kq he => ?_)
    replace kq : Heap.ExtBut i1 g0 q := kq
    obtain ⟨oe, oeq, ceq⟩ := he
    replace oeq : q.get? e = some oe := oeq
    have zq : ZAt q z TI TO .ellipsis f := kq _ _ S.zi1 za
    have ezq : e ≠ z := fun x => by subst x; rw [zq] at oeq; cases oeq; simp at ceq
    refine wpAny_setField_rec (s := ⟨q, gn, dw, tok, ou⟩) zq (by simp) fun q' _ hq' => ?_
    replace hq' : Heap.SameBut z q q' := hq'; exact onE q' e (fun c o cz _ c1 _ x => hq'.extBut _ _ cz (kq _ _ c1 (ka.extBut _ _ cz x))) ⟨oe, hq'.extBut _ _ ezq oeq, ceq⟩
  · simp only [Bool.false_eq_true, if_false]; replace ka : Heap.SameBut z hp g0 := ka
    refine wpAny_bind ?_
    rw [← Array.forIn_toList]; simp only [List.forIn_cons, List.forIn_nil]
    refine wpAny_bind (wpAny_bind (wpAny_holding ?_)); show wpAny _ _ (Builtin.SmallTypes.nextOf (.ref i1) >>= _) _ _ ⟨g0, gn, dw, tok, ou⟩
    refine wpAny_bind (D1.done ⟨g0, gn, dw, tok, ou⟩ _ _ (D1.over st1 ka S.zf1) fun q e kq he => ?_)
    replace kq : Heap.ExtBut i1 g0 q := kq
    exact onE q e (fun c o cz _ c1 _ x => kq _ _ c1 (ka.extBut _ _ cz x)) he
/-! ### the enumerate over it -/
/-- the cells lie apart -/
structure EApart (e z TI TO i1 i2 : Addr) (fp1 fp2 : List Addr) : Prop where
  S : ZipSep2 z TI TO i1 i2 fp1 fp2
  ez : e ≠ z
  eI : e ≠ TI
  eT : e ≠ TO
  e1 : e ∉ fp1
  e2 : e ∉ fp2
theorem EApart.ei1 {e : Addr} (a : EApart e z TI TO i1 i2 fp1 fp2) : e ≠ i1 := fun q => a.e1 (by rw [q]; exact a.S.mem1)
theorem EApart.ei2 {e : Addr} (a : EApart e z TI TO i1 i2 fp1 fp2) : e ≠ i2 := fun q => a.e2 (by rw [q]; exact a.S.mem2)
theorem znextOf {Q : Value → Shared → Prop} (S : ZipSep2 z TI TO i1 i2 fp1 fp2) (D1 : Draws prog w A.in1 i1 fp1 n1 P1 St1) (D2 : Draws prog w A.in1 i2 fp2 n2 P2 St2) (zAt : ZAt s.heap z TI TO v f) (ow : Ow v)
    (hTI : IsTupOf2 s.heap TI (.ref i1) (.ref i2)) (hTO : IsTupOf2 s.heap TO a1 a2) (st1 : St1 i s.heap) (st2 : St2 i s.heap) (l1 : i < n1) (l2 : i < n2)
    (onQ : ∀ x1 x2 h' tk v' f' b1 b2, P1 i x1 → P2 i x2 → ZAt h' z TI TO v' f' → Ow v' → IsTupOf2 h' TO b1 b2 → St1 (i + 1) h' → St2 (i + 1) h' → IsTupOf2 h' s.heap.objs.size x1 x2 → h'.objs.size = s.heap.objs.size + 1 →
      (∀ c o, c ≠ z → c ≠ TO → c ≠ i1 → c ≠ i2 → s.heap.get? c = some o → h'.get? c = some o)
        → Q (.ref s.heap.objs.size) { s with heap := h', toks := tk }) :
    wpAny (model prog w) A (Builtin.SmallTypes.nextOf (.ref z)) Q E s := by
  have tyE : s.TypeIs (.ref z) "zip" := ⟨_, zAt, rfl⟩
  unfold Builtin.SmallTypes.nextOf; refine wpAny_bind (wpAny_callSpecial?_slot (name := Str.ofString "__next__") tyE F.slot_zip_next (wpAny_call_entry F.slot_zip_next tyE F.entry_zip_next ?_ (F.args_zip_next_1 _)))
  exact znext S D1 D2 zAt ow hTI hTO st1 st2 l1 l2 fun x1 x2 h' tk v' f' b1 b2 y1 y2 y3 y4 y5 y6 y7 y8 y9 y10 => wpAny_pure (onQ x1 x2 h' tk v' f' b1 b2 y1 y2 y3 y4 y5 y6 y7 y8 y9 y10)
theorem eznext {e : Addr} {old : Value} {Q : Option Value → Shared → Prop} (a : EApart e z TI TO i1 i2 fp1 fp2) (D1 : Draws prog w A.in1.in1 i1 fp1 n1 P1 St1) (D2 : Draws prog w A.in1.in1 i2 fp2 n2 P2 St2) (he : IsEnum s.heap e z ((i : Nat) : Int) old) (zAt : ZAt s.heap z TI TO v f) (ow : Ow v)
    (hTI : IsTupOf2 s.heap TI (.ref i1) (.ref i2)) (hTO : IsTupOf2 s.heap TO a1 a2) (st1 : St1 i s.heap) (st2 : St2 i s.heap) (l1 : i < n1) (l2 : i < n2)
    (onQ : ∀ x1 x2 h' tk v' f' b1 b2, P1 i x1 → P2 i x2 → IsEnumOut h' e z (((i + 1 : Nat)) : Int) (.ref s.heap.objs.size) (s.heap.objs.size + 1) → ZAt h' z TI TO v' f' → Ow v' → IsTupOf2 h' TO b1 b2 → St1 (i + 1) h' → St2 (i + 1) h' → IsTupOf2 h' s.heap.objs.size x1 x2 →
      h'.get? (s.heap.objs.size + 1) = some { cls := .type "tuple", data := .seq #[.int ((i : Nat) : Int) tk, .ref s.heap.objs.size] } → h'.objs.size = s.heap.objs.size + 2 →
      (∀ c o, c ≠ e → c ≠ z → c ≠ TO → c ≠ i1 → c ≠ i2 → s.heap.get? c = some o → h'.get? c = some o) → Q (some (.ref (s.heap.objs.size + 1))) { s with heap := h', toks := tk + 1 }) : wpAny (model prog w) A (pyNext (.ref e)) Q E s := by
  have tyE : s.TypeIs (.ref e) "enumerate" := ⟨_, he, rfl⟩
  unfold pyNext
  refine wpAny_bind (wpAny_attempt (wpAny_callSpecial?_slot (name := Str.ofString "__next__") tyE F.slot_enumerate_next (wpAny_call_entry F.slot_enumerate_next tyE F.entry_enumerate_next ?_ (F.args_enumerate_next_1 _))))
  obtain ⟨hp, gn, dw, tok, ou⟩ := s
  show wpAny _ _ (field (.ref e) 2 >>= _) _ _ _; refine wpAny_bind (wpAny_field he rfl (x := .ref z) rfl ?_)
  refine wpAny_bind (znextOf a.S D1 D2 zAt ow hTI hTO st1 st2 l1 l2 fun x1 x2 h1 tk v' f' b1 b2 y1 y2 hz1 ow1 hTO1 sn1 sn2 hP hn1 hk => ?_)
  have eLt : e < hp.objs.size := Heap.lt_size he
  have e1E : IsEnum h1 e z ((i : Nat) : Int) old := hk _ _ a.ez a.eT a.ei1 a.ei2 he
  show wpAny _ _ (field (.ref e) 3 >>= _) _ _ ⟨h1, gn, dw, tk, ou⟩; refine wpAny_bind (wpAny_field e1E rfl (x := rawInt ((i : Nat) : Int)) rfl ?_)
  show wpAny _ _ (field (.ref e) 4 >>= _) _ _ ⟨h1, gn, dw, tk, ou⟩; refine wpAny_bind (wpAny_field e1E rfl (x := .none) rfl ?_)
  show wpAny _ _ (mkInt ((i : Nat) : Int) >>= _) _ _ ⟨h1, gn, dw, tk, ou⟩; refine wpAny_bind (wpAny_mkInt ?_)
  show wpAny _ _ (setField (.ref e) 3 (rawInt (((i : Nat) : Int) + 1)) >>= _) _ _ ⟨h1, gn, dw, tk + 1, ou⟩
  refine wpAny_bind (wpAny_setField_rec (s := ⟨h1, gn, dw, tk + 1, ou⟩) e1E (by simp) fun h2 e2E ke => ?_)
  replace ke : Heap.SameBut e h1 h2 := ke; replace e2E : IsEnum h2 e z (((i : Nat) : Int) + 1) old := e2E
  show wpAny _ _ (setField (.ref e) 4 .none >>= _) _ _ ⟨h2, gn, dw, tk + 1, ou⟩
  refine wpAny_bind (wpAny_setField_rec (s := ⟨h2, gn, dw, tk + 1, ou⟩) e2E (by simp) fun h3 e3E k3 => ?_)
  replace k3 : Heap.SameBut e h2 h3 := k3; replace e3E : IsEnum h3 e z (((i : Nat) : Int) + 1) old := e3E
  show wpAny _ _ (newTuple [.int ((i : Nat) : Int) tk, .ref hp.objs.size] >>= _) _ _ ⟨h3, gn, dw, tk + 1, ou⟩; refine wpAny_bind (wpAny_newTuple ?_)
  let h4 := h3.push { cls := .type "tuple", data := .seq #[.int ((i : Nat) : Int) tk, .ref hp.objs.size] }
  have nE : h3.objs.size = hp.objs.size + 1 := by rw [k3.1, ke.1]; exact hn1
  have e4E : IsEnum h4 e z (((i : Nat) : Int) + 1) old := Heap.get?_push_of_some _ e3E
  have t4E : h4.get? (hp.objs.size + 1) = some { cls := .type "tuple", data := .seq #[.int ((i : Nat) : Int) tk, .ref hp.objs.size] } := by rw [← nE]; exact Heap.get?_push_size _ rfl
  have n4E : h4.objs.size = hp.objs.size + 2 := by show (h3.push _).objs.size = _; rw [Heap.size_push, nE]
  show wpAny _ _ (Builtin.SmallTypes.ownedTupleIsFree (.ref e) >>= _) _ _ ⟨h4, gn, dw, tk + 1, ou⟩; rw [nE]
  refine wpAny_bind ?_
  unfold Builtin.SmallTypes.ownedTupleIsFree; refine wpAny_bind (wpAny_field (s := ⟨h4, gn, dw, tk + 1, ou⟩) e4E rfl (x := .none) rfl (wpAny_pure ?_))
  simp only [if_true]
  refine wpAny_bind (wpAny_rule (wpAny_bind (wpAny_field (s := ⟨h4, gn, dw, tk + 1, ou⟩) e4E rfl (x := old) rfl (wpAny_bind (wpAny_setField_rec (s := ⟨h4, gn, dw, tk + 1, ou⟩) e4E (by simp) fun h5 e5E k5 => ?_)))))
  replace k5 : Heap.SameBut e h4 h5 := k5; replace e5E : IsEnum h5 e z (((i : Nat) : Int) + 1) (.ref hp.objs.size) := e5E
  show wpAny _ _ (Builtin.SmallTypes.ownedTupleHandOut (.ref e) (.ref (hp.objs.size + 1)) >>= _) _ _ ⟨h5, gn, dw, tk + 1, ou⟩
  refine wpAny_bind ?_
  unfold Builtin.SmallTypes.ownedTupleHandOut; refine wpAny_bind (wpAny_setField_rec (s := ⟨h5, gn, dw, tk + 1, ou⟩) e5E (by simp) fun h6 e6E k6 => ?_)
  replace k6 : Heap.SameBut e h5 h6 := k6; replace e6E : IsEnumOut h6 e z (((i : Nat) : Int) + 1) (.ref hp.objs.size) (hp.objs.size + 1) := e6E
  refine wpAny_setField_rec (s := ⟨h6, gn, dw, tk + 1, ou⟩) e6E (by simp) fun h7 e7E k7 => ?_
  replace k7 : Heap.SameBut e h6 h7 := k7; replace e7E : IsEnumOut h7 e z (((i : Nat) : Int) + 1) (.ref hp.objs.size) (hp.objs.size + 1) := e7E
  have up : ∀ c o, c ≠ e → h1.get? c = some o → h7.get? c = some o := fun c o ce q => k7.extBut _ _ ce (k6.extBut _ _ ce (k5.extBut _ _ ce (Heap.get?_push_of_some _ (k3.extBut _ _ ce (ke.extBut _ _ ce q)))))
  have e1 : ((i + 1 : Nat) : Int) = ((i : Nat) : Int) + 1 := by omega
  refine wpAny_bind (wpAny_letGo (wpAny_pure ⟨_, rfl, wpAny_pure (onQ x1 x2 h7 tk v' f' b1 b2 y1 y2 (by rw [e1]; exact e7E) (up _ _ a.ez.symm hz1) ow1 (up _ _ a.eT.symm hTO1) (D1.frame _ _ _ sn1 fun b hb o q => up b o (fun y => a.e1 (y ▸ hb)) q) (D2.frame _ _ _ sn2 fun b hb o q => up b o (fun y => a.e2 (y ▸ hb)) q) (up _ _ (Nat.ne_of_gt eLt) hP) ?_ ?_ fun c o ce cz cT c1 c2 q => up c o ce (hk c o cz cT c1 c2 q))⟩))
  · exact k7.extBut _ _ (Nat.ne_of_gt (Nat.lt_succ_of_lt eLt)) (k6.extBut _ _ (Nat.ne_of_gt (Nat.lt_succ_of_lt eLt)) (k5.extBut _ _ (Nat.ne_of_gt (Nat.lt_succ_of_lt eLt)) t4E))
  · rw [k7.1, k6.1, k5.1]; exact n4E
theorem ezend {e : Addr} {old : Value} {Q : Option Value → Shared → Prop} (a : EApart e z TI TO i1 i2 fp1 fp2) (D1 : Draws prog w A.in1.in1 i1 fp1 n1 P1 St1) (he : IsEnum s.heap e z ((n1 : Nat) : Int) old) (zAt : ZAt s.heap z TI TO v f) (ow : Ow v) (hTI : IsTupOf2 s.heap TI (.ref i1) (.ref i2)) (st1 : St1 n1 s.heap)
    (onQ : ∀ h', (∀ c o, c ≠ z → c ≠ TO → c ≠ i1 → c ≠ i2 → s.heap.get? c = some o → h'.get? c = some o) → Q none { s with heap := h' }) : wpAny (model prog w) A (pyNext (.ref e)) Q E s := by
  have tyE : s.TypeIs (.ref e) "enumerate" := ⟨_, he, rfl⟩
  have tyZ : s.TypeIs (.ref z) "zip" := ⟨_, zAt, rfl⟩
  unfold pyNext
  refine wpAny_bind (wpAny_attempt (wpAny_callSpecial?_slot (name := Str.ofString "__next__") tyE F.slot_enumerate_next (wpAny_call_entry F.slot_enumerate_next tyE F.entry_enumerate_next ?_ (F.args_enumerate_next_1 _))))
  show wpAny _ _ (field (.ref e) 2 >>= _) _ _ _; refine wpAny_bind (wpAny_field he rfl (x := .ref z) rfl (wpAny_bind ?_))
  unfold Builtin.SmallTypes.nextOf; refine wpAny_bind (wpAny_callSpecial?_slot (name := Str.ofString "__next__") tyZ F.slot_zip_next (wpAny_call_entry F.slot_zip_next tyZ F.entry_zip_next (zend a.S D1 zAt ow hTI st1 fun h' x hk hx => ?_) (F.args_zip_next_1 _)))
  obtain ⟨o, ho, hc⟩ := hx
  exact wpAny_bind (wpAny_isInstance (T := "StopIteration") (b := true) ⟨o, ho, hc⟩ isSubtype_stop (wpAny_pure (onQ _ hk)))
end
/-! ### enumerate(z), z a zip just made -/
theorem meets_enum_self (z TI TO : Addr) : Meets (Builtin.«enumerate.__new__» ⟨[.type "enumerate", .ref z], []⟩) (fun _ R s => IsZip s.heap z TI TO .none ∧
    R (.ok (.ret (.ref s.heap.objs.size))) { s with heap := s.heap.push { cls := .type "enumerate", data := .fields #[.none, .bool false, .ref z, rawInt 0, .none, .none] } }) :=
  .of_wp fun prog w A R s given => by
    obtain ⟨hp, gn, dw, tk, ou⟩ := s; obtain ⟨zAt, h⟩ := given
    have subE := sub_enumerate
    have q1 : ∀ {A' : Around} {E : Value → Shared → Prop} {Q : Value → Shared → Prop}, Q (.ref z) ⟨hp, gn, dw, tk, ou⟩ → wpAny (model prog w) A' (pyIter (.ref z)) Q E ⟨hp, gn, dw, tk, ou⟩ := fun q => wpAny_pyIter_zip (s := ⟨hp, gn, dw, tk, ou⟩) zAt q
    wp_walk using AutoSeq1.wpAny_loadPart' zAt
    refine wpAny_stack_any fun st => wpAny_pure ?_; split
    · rename_i c _ _ _ _ _
      cases (c == Value.type ("enumerate" : String))
      · wp_walk using AutoSeq1.wpAny_loadPart' zAt, q1
        exact ⟨_, rfl, h⟩
      · wp_walk using AutoSeq1.wpAny_loadPart' zAt, q1
        exact ⟨_, rfl, h⟩
    · wp_walk using AutoSeq1.wpAny_loadPart' zAt, q1
      exact ⟨_, rfl, h⟩
theorem call_enum_self {prog : Program} {w : World} {A : Around} {E : Value → Shared → Prop} {s : Shared} {z TI TO : Addr} {Q : Value → Shared → Prop} (zAt : IsZip s.heap z TI TO .none)
    (h : ∀ h', IsEnum h' s.heap.objs.size z 0 .none → (∀ b o, s.heap.get? b = some o → h'.get? b = some o) → Q (.ref s.heap.objs.size) { s with heap := h' }) : wpAny (model prog w) A (call (.type "enumerate") [.ref z]) Q E s := by
  refine callType_new F.called_enumerate (by decide) (F.typeCall_enumerate_1 _) (F.newCall_enumerate_1 _) (fun obj => F.args_object_init_2 obj _) F.entry_enumerate_new (meets_enum_self z TI TO) ⟨zAt, ?_⟩
  have he : IsEnum (s.heap.push { cls := .type "enumerate", data := .fields #[.none, .bool false, .ref z, rawInt 0, .none, .none] }) s.heap.objs.size z 0 .none := Heap.get?_push_size _ rfl
  exact ⟨⟨_, he, rfl⟩, h _ he fun b o x => Heap.get?_push_of_some _ x⟩
end BW

namespace BW
open PySem PySem.Spec PyProof.Rows L2

/-- what the two kinds of sequences (lists, tuples) have -/
structure Knd (K : PySem.W.Frag) (SQ : Hp → Addr → List V → Prop) (ITR : Heap → Addr → Addr → Nat → Prop) (CON : Heap → Addr → Array Value → Prop) : Prop where
  inv : ∀ {X : Cx} {pins : List (Addr × Obj)} {σ : L2.St} {H : Hp} {s : Shared} {a : Addr} {xs : List V}, X.K = K → Inv X pins σ H s → SQ H a xs → ∃ its : List Value, Vals xs its ∧ CON s.heap a its.toArray
  inj : ∀ {X : Cx} {pins : List (Addr × Obj)} {σ : L2.St} {H : Hp} {s : Shared} {a : Addr} {xs ys : List V}, X.K = K → Inv X pins σ H s → SQ H a xs → SQ H a ys → xs = ys
  drw : ∀ (prog : Program) (w : World) (A : Around) (it l : Addr) (items : Array Value), A.handled = none → l ≠ it → Draws prog w A it [it, l] items.size (fun i v => items[i]? = some v) (fun i h => ITR h it l i ∧ CON h l items)
  mv : ∀ {h h' : Heap} {it l : Addr} {i : Nat}, ITR h it l i → (∀ o, h.get? it = some o → h'.get? it = some o) → ITR h' it l i
  ob : ∀ {h : Heap} {it l : Addr} {i : Nat}, ITR h it l i → ∃ o, h.get? it = some o ∧ ∀ v, o.data ≠ .cell v
  lt : ∀ {h : Heap} {l : Addr} {its : Array Value}, CON h l its → l < h.objs.size
  mkz : ∀ {prog : Program} {w : World} {A : Around} {E : Value → Shared → Prop} {s : Shared} {l1 l2 : Addr} {xs ys : Array Value} {Q : Value → Shared → Prop}, CON s.heap l1 xs → CON s.heap l2 ys →
    (∀ h', IsZip h' (s.heap.objs.size + 4) (s.heap.objs.size + 2) (s.heap.objs.size + 3) .none → IsTupOf2 h' (s.heap.objs.size + 2) (.ref s.heap.objs.size) (.ref (s.heap.objs.size + 1)) → IsTupOf2 h' (s.heap.objs.size + 3) .none .none →
      ITR h' s.heap.objs.size l1 0 → ITR h' (s.heap.objs.size + 1) l2 0 → h'.objs.size = s.heap.objs.size + 5 → (∀ c o, s.heap.get? c = some o → h'.get? c = some o) → Q (.ref (s.heap.objs.size + 4)) { s with heap := h' }) →
    wpAny (model prog w) A (call (.type "zip") [.ref l1, .ref l2]) Q E s
theorem knd_list {K : PySem.W.Frag} : Knd K (SqL K) (fun h it l i => h.IsListIter it l i) (fun h l its => h.IsList l its) where
  inv := fun eK I h => by subst eK; obtain ⟨its, r, p, _⟩ := I.list h; exact ⟨its, r, p.isList⟩
  inj := fun eK I h h' => by subst eK; exact I.list_inj h h'
  drw := fun prog w A it l items hh hne => Draws.list hh it l hne items
  mv := fun h k => h.at k
  ob := fun h => by obtain ⟨o, e, _, d⟩ := h; exact ⟨o, e, fun v q => by rw [d] at q; cases q⟩
  lt := fun h => by obtain ⟨o, e, _⟩ := h; exact Heap.lt_size e
  mkz := fun h1 h2 h => call_zip_2 h1 h2 h
theorem knd_tup {K : PySem.W.Frag} : Knd K (SqT K) (fun h it l i => h.IsTupleIter it l i) (fun h l its => h.IsTuple l its) where
  inv := fun eK I h => by subst eK; obtain ⟨its, r, p, _⟩ := I.tuple h; exact ⟨its, r, p⟩
  inj := fun eK I h h' => by subst eK; exact I.tuple_inj h h'
  drw := fun prog w A it l items hh hne => Draws.tuple hh it l hne items
  mv := fun h k => h.at k
  ob := fun h => by obtain ⟨o, e, _, d⟩ := h; exact ⟨o, e, fun v q => by rw [d] at q; cases q⟩
  lt := fun h => by obtain ⟨o, e, _⟩ := h; exact Heap.lt_size e
  mkz := fun h1 h2 h => RZ.call_zipT h1 h2 h

/-- an object that stands and is not tracked yet -/
theorem inv_track {X : Cx} {pins : List (Addr × Obj)} {σ : L2.St} {H : Hp} {s : Shared} {T : Addr} {o : HO} (I : Inv X pins σ H s) (free : H T = none) (hs : X.s_0.heap.objs.size ≤ T) (hL : T ≠ X.env.locals)
    (hC : ∀ x c, X.env.cells.lookup x = some c → c ≠ T) (eP : ∀ p ∈ X.pn ++ pins, p.1 ≠ T) (new : ObjOk X.prog X.w (upd H T o) s.heap T o) : Inv X pins σ (upd H T o) s := by
  refine I.step (g' := s.gens) (d' := s.drawn) (t' := s.toks) (h' := s.heap) (ch := [T]) (fun b hb => ?_) (fun b ob _ _ _ e _ => e) (fun b ob _ _ _ e _ => ⟨ob.slots, e⟩) (fun b ob cal _ n => ?_) (fun b ob _ e => ⟨ob, e⟩) (fun b xs e => ?_) (fun b ob u e => ?_) (fun b ps e => ⟨#[], ?_⟩) (fun m hm => hm) (fun b u e => ?_) I.bare
  · have e : b = T := by simpa using hb
    subst e; exact ⟨.inr hs, hL, hC, eP⟩
  · rw [upd_ne (fun z => cal (by simp [z]))]; exact n
  · rw [upd_ne (ne_of_none e free)]; exact e
  · rw [upd_ne (ne_of_none e free)]; exact e
  · rw [upd_ne (ne_of_none e free), e]; simp
  · by_cases hb : b = T
    · rw [hb, upd_same] at e; cases e; rw [hb]; exact new
    · rw [upd_ne hb] at e
      exact (I.hok b u e).stay (fun c v _ q => q) (fun c q => by rw [upd_ne (ne_of_none q free)]; exact q) fun c xs q => by rw [upd_ne (ne_of_none q free)]; exact q

/-- i, (x, y): both pairs new -/
def Itez (SQ : Hp → Addr → List V → Prop) (a b : Addr) : It :=
  ⟨fun i H => ∃ (xs ys : List V), SQ H a xs ∧ SQ H b ys ∧ i < xs.length ∧ i < ys.length,
    fun i H v H' => ∃ T U x y, v = .ref T ∧ H U = none ∧ H T = none ∧ T ≠ U ∧ H' = upd (upd H U (.tup [x, y])) T (.tup [.int (i : Nat), .ref U]) ∧ (∀ xs, SQ H a xs → xs[i]? = some x) ∧ ∀ ys, SQ H b ys → ys[i]? = some y,
    fun i H => ∃ xs : List V, SQ H a xs ∧ xs.length = i ∧ ∃ ys : List V, SQ H b ys⟩
theorem turn_ez {P : Program} {w : World} {K : PySem.W.Frag} {elts : List Expr} {kk : Nat} {tpos : Pos} {SQ : Hp → Addr → List V → Prop} {ITR : Heap → Addr → Addr → Nat → Prop} {CON : Heap → Addr → Array Value → Prop} (N : Knd K SQ ITR CON)
    {a b e z TI TO i1 i2 : Addr} (ap : EApart e z TI TO i1 i2 [i1, a] [i2, b]) (ha : a ≠ i1) (hb : b ≠ i2) :
    Turn P w K (.Tuple elts kk tpos) (Itez SQ a b) [e, z, TI, TO, i1, i2] e (fun i h => ∃ old v f b1 b2, IsEnum h e z ((i : Nat) : Int) old ∧ ZAt h z TI TO v f ∧ Ow v ∧ IsTupOf2 h TI (.ref i1) (.ref i2) ∧ IsTupOf2 h TO b1 b2 ∧ ITR h i1 a i ∧ ITR h i2 b i) where
  mem := by simp
  obj := fun i h stands c cal => by
    obtain ⟨old, v, f, b1, b2, he, hz, _, hTI, hTO, h1, h2⟩ := stands
    have e' : c = e ∨ c = z ∨ c = TI ∨ c = TO ∨ c = i1 ∨ c = i2 := by simpa using cal
    rcases e' with q | q | q | q | q | q
    · rw [q]; exact ⟨_, he, fun _ n => nomatch n⟩
    · rw [q]; exact ⟨_, hz, fun _ n => nomatch n⟩
    · rw [q]; exact ⟨_, hTI, fun _ n => nomatch n⟩
    · rw [q]; exact ⟨_, hTO, fun _ n => nomatch n⟩
    · rw [q]; exact N.ob h1
    · rw [q]; exact N.ob h2
  keep := fun i h h' stands k => by
    obtain ⟨old, v, f, b1, b2, he, hz, ow, hTI, hTO, h1, h2⟩ := stands
    exact ⟨old, v, f, b1, b2, k e (by simp) _ he, k z (by simp) _ hz, ow, k TI (by simp) _ hTI, k TO (by simp) _ hTO, N.mv h1 fun o q => k i1 (by simp) o q, N.mv h2 fun o q => k i2 (by simp) o q⟩
  item := by
    intro X eP eW eK cal i pins s σ H E I foot stands goes
    subst eP eW
    obtain ⟨old, v, f, b1, b2, he, hz, ow, hTI, hTO, h1, h2⟩ := stands
    obtain ⟨xs, ys, hqx, hqy, hx, hy⟩ := goes
    obtain ⟨its, rv, p⟩ := N.inv eK I hqx
    obtain ⟨its2, rv2, p2⟩ := N.inv eK I hqy
    have hh : X.A.in1.in1.handled = none := I.ok.hd cal
    have D1 := N.drw X.prog X.w X.A.in1.in1 i1 a its.toArray hh ha
    have D2 := N.drw X.prog X.w X.A.in1.in1 i2 b its2.toArray hh hb
    have el : e < s.heap.objs.size := Heap.lt_size he
    refine eznext ap D1 D2 he hz ow hTI hTO ⟨h1, p⟩ ⟨h2, p2⟩ (by rw [List.size_toArray, ← rv.length]; exact hx) (by rw [List.size_toArray, ← rv2.length]; exact hy) fun x1 x2 h' tk v' f' c1 c2 hx1 hx2 ho hz' ow' hTO' st1 st2 hU hT hsz hk => ?_
    refine ⟨_, rfl, wpAny_letOwnedTupleGo_enum (s := { s with heap := h', toks := tk + 1 }) ho fun h2' he' sb => ?_⟩
    replace sb : Heap.SameBut e h' h2' := sb
    have kk : ∀ c o, c ≠ e → h'.get? c = some o → h2'.get? c = some o := fun c o hce q => (sb.2 c hce).trans q
    have nU : s.heap.objs.size ≠ e := Nat.ne_of_gt el
    have nT : s.heap.objs.size + 1 ≠ e := Nat.ne_of_gt (Nat.lt_succ_of_lt el)
    have hU2 := kk _ _ nU hU
    have hT2 := kk _ _ nT hT
    obtain ⟨x, eVs⟩ : ∃ x, xs[i]? = some x := ⟨xs[i], List.getElem?_eq_getElem hx⟩
    obtain ⟨y, ey⟩ : ∃ y, ys[i]? = some y := ⟨ys[i], List.getElem?_eq_getElem hy⟩
    have rx : RelV x x1 := by
      obtain ⟨u, hu, ru⟩ := rv.get eVs
      have : u = x1 := Option.some.inj (by rw [← hu, ← hx1]; simp)
      rw [← this]; exact ru
    have ry : RelV y x2 := by
      obtain ⟨u, hu, ru⟩ := rv2.get ey
      have : u = x2 := Option.some.inj (by rw [← hu, ← hx2]; simp)
      rw [← this]; exact ru
    have newU : ObjOk X.prog X.w (upd H s.heap.objs.size (.tup [x, y])) h2' s.heap.objs.size (.tup [x, y]) := ⟨by show 2 ≤ sizeLine; decide, [x1, x2], .cons rx (.cons ry .nil), ⟨_, hU2, rfl, _, rfl⟩⟩
    have I1 : Inv X pins σ (upd H s.heap.objs.size (.tup [x, y])) { s with heap := h2', toks := tk + 1 } :=
      I.turnedNew (ch := [e, z, TI, TO, i1, i2]) (fun c o hcn q => kk c o (fun q' => hcn (by simp [q'])) (hk c o (fun q' => hcn (by simp [q'])) (fun q' => hcn (by simp [q'])) (fun q' => hcn (by simp [q'])) (fun q' => hcn (by simp [q'])) (fun q' => hcn (by simp [q'])) q)) foot (Nat.le_refl _) newU
    have hHU : H s.heap.objs.size = none := I.hok.fresh (Nat.le_refl _)
    have hHT : H (s.heap.objs.size + 1) = none := I.hok.fresh (Nat.le_succ _)
    have TU : s.heap.objs.size + 1 ≠ s.heap.objs.size := Nat.succ_ne_self _
    have fT := I.fpOk (b := s.heap.objs.size + 1) (H' := upd H s.heap.objs.size (.tup [x, y])) (Nat.le_succ _) (by rw [upd_ne TU]; exact hHT)
    have I2 : Inv X pins σ (upd (upd H s.heap.objs.size (.tup [x, y])) (s.heap.objs.size + 1) (.tup [.int (i : Nat), .ref s.heap.objs.size])) { s with heap := h2', toks := tk + 1 } :=
      inv_track I1 fT.1 (Nat.le_trans I.sz (Nat.le_succ _)) fT.2.1 fT.2.2.2.2.1 fT.2.2.2.2.2 ⟨by show 2 ≤ sizeLine; decide, [.int ((i : Nat) : Int) tk, .ref s.heap.objs.size], .cons ⟨_, rfl⟩ (.cons rfl .nil), ⟨_, hT2, rfl, _, rfl⟩⟩
    refine ⟨.ref (s.heap.objs.size + 1), _, I2, rfl, ⟨_, _, x, y, rfl, hHU, hHT, TU, rfl, fun l hl => by rw [N.inj eK I hl hqx]; exact eVs, fun l hl => by rw [N.inj eK I hl hqy]; exact ey⟩, ⟨_, v', f', c1, c2, he', kk _ _ ap.ez.symm hz', ow', kk _ _ ap.eI.symm (hk _ _ ap.eI.symm ap.S.TIz ap.S.TITO ap.S.TIi1 ap.S.TIi2 hTI), kk _ _ ap.eT.symm hTO', N.mv st1.1 fun o q => kk _ _ ap.ei1.symm q, N.mv st2.1 fun o q => kk _ _ ap.ei2.symm q⟩, fun c hcm => ?_⟩
    have hlt : c < s.heap.objs.size := by
      have e' : c = e ∨ c = z ∨ c = TI ∨ c = TO ∨ c = i1 ∨ c = i2 := by simpa using hcm
      rcases e' with q | q | q | q | q | q
      · rw [q]; exact el
      · rw [q]; exact Heap.lt_size hz
      · rw [q]; refine Heap.lt_size hTI
      · rw [q]; refine Heap.lt_size hTO
      · rw [q]; obtain ⟨_, e1, _⟩ := N.ob h1; exact Heap.lt_size e1
      · rw [q]; obtain ⟨_, e2, _⟩ := N.ob h2; exact Heap.lt_size e2
    rw [upd_ne (Nat.ne_of_lt (Nat.lt_succ_of_lt hlt)), upd_ne (Nat.ne_of_lt hlt)]
    exact (foot c hcm).1
  done := by
    intro X eP eW eK cal i pins s σ H E I foot stands goes
    subst eP eW
    obtain ⟨old, v, f, b1, b2, he, hz, ow, hTI, hTO, h1, h2⟩ := stands
    obtain ⟨xs, hqx, hx, ys, hqy⟩ := goes
    obtain ⟨its, rv, p⟩ := N.inv eK I hqx
    have hh : X.A.in1.in1.handled = none := I.ok.hd cal
    have D1 := N.drw X.prog X.w X.A.in1.in1 i1 a its.toArray hh ha
    have en : i = its.toArray.size := by rw [List.size_toArray, ← rv.length, hx]
    subst en
    exact ezend ap D1 he hz ow hTI ⟨h1, p⟩ fun h' hk => ⟨rfl, I.turnedL (t' := s.toks) (ch := [e, z, TI, TO, i1, i2]) (fun c o hcn q => hk c o (fun q' => hcn (by simp [q'])) (fun q' => hcn (by simp [q'])) (fun q' => hcn (by simp [q'])) (fun q' => hcn (by simp [q'])) q) foot⟩
  self := fun A i s Q E stands h => by obtain ⟨old, _, _, _, _, he, _⟩ := stands; exact wpAny_pyIter_enum he h
def iEZ (SQ : Hp → Addr → List V → Prop) (ta : TA) : TI := fun σ H R => ta σ H fun vs H1 => ∃ a b xs ys, vs = [.ref a, .ref b] ∧ SQ H1 a xs ∧ SQ H1 b ys ∧ R (Itez SQ a b) H1
theorem neA {x y : Nat} (h : x ≠ y) : (x : Addr) ≠ (y : Addr) := h
theorem notIn2 {x y z : Addr} (h1 : x ≠ y) (h2 : x ≠ z) : x ∉ [y, z] := fun h => by
  rcases List.mem_cons.mp h with eq1 | in2
  · exact h1 eq1
  · exact h2 (List.mem_singleton.mp in2)
theorem ez_apart (n a b : Nat) (ha : a < n) (hb : b < n) : EApart (n + 5) (n + 4) (n + 2) (n + 3) n (n + 1) [n, a] [n + 1, b] :=
  ⟨⟨neA (by omega), neA (by omega), neA (by omega), neA (by omega), List.mem_cons_self, notIn2 (neA (by omega)) (neA (by omega)), notIn2 (neA (by omega)) (neA (by omega)), neA (by omega), List.mem_cons_self,
    notIn2 (neA (by omega)) (neA (by omega)), notIn2 (neA (by omega)) (neA (by omega)), notIn2 (neA (by omega)) (neA (by omega)), notIn2 (neA (by omega)) (neA (by omega))⟩,
    neA (by omega), neA (by omega), neA (by omega), notIn2 (neA (by omega)) (neA (by omega)), notIn2 (neA (by omega)) (neA (by omega))⟩
theorem pi_ez {X : Cx} {SQ : Hp → Addr → List V → Prop} {ITR : Heap → Addr → Addr → Nat → Prop} {CON : Heap → Addr → Array Value → Prop} (N : Knd X.K SQ ITR CON) {e1 e2 : Expr} {ta : TA} {p pos p2 pos2 tpos : Pos} {elts : List Expr} {kk : Nat}
    (goes : Gl X "enumerate") (hm : X.mg "enumerate" = none) (gZip : Gl X "zip") (mZip : X.mg "zip" = none) (ha : PA X [e1, e2] ta)
    (hs0 : starEach [.Call (.Name "zip" p2) [e1, e2] [] pos2] X.env = (false, eval (.Call (.Name "zip" p2) [e1, e2] [] pos2) X.env) :: starEach [] X.env := by rfl)
    (hs : starEach [e1, e2] X.env = (false, eval e1 X.env) :: starEach [e2] X.env := by rfl) (hpl : (backTo pos2 (starEach [e2] X.env)).any (·.1) = false := by rfl) :
    PI X (.Tuple elts kk tpos) (.Call (.Name "enumerate" p) [.Call (.Name "zip" p2) [e1, e2] [] pos2] [] pos) (iEZ SQ ta) := by
  refine ⟨fun pins s σ H R I h => ?_⟩; refine Call_ (ld_blt I goes hm boot_enumerate (PyProof.Rows.callWith_type1 ?_ hs0 rfl))
  rw [hs0]
  show wpAny _ _ (spliced ((false, eval (.Call (.Name "zip" p2) [e1, e2] [] pos2) X.env) :: backTo pos (starEach [] X.env))) _ _ s
  refine Calls.spliced_cons (Call_ (ld_blt I gZip mZip PyProof.Rows.boot_zip (PyProof.Rows.callWith_type1 (thn (ha.run pos2 pins s σ H _ I h) fun us s1 ⟨vs, H1, I1, r1, q1⟩ => ?_) hs hpl)))
  obtain ⟨a, b, xs, ys, eVs, hqx, hqy, q⟩ := q1
  subst eVs
  cases r1 with
  | cons r more =>
    cases more with
    | cons r' more =>
      cases more
      cases r
      cases r'
      obtain ⟨its, rv, q1⟩ := N.inv rfl I1 hqx
      obtain ⟨its2, rv2, q2⟩ := N.inv rfl I1 hqy
      have la := N.lt q1
      have lb := N.lt q2
      refine N.mkz q1 q2 fun h' hz hTI hTO h1 h2 hsz hk => Calls.spliced_nil ?_
      refine call_enum_self (s := { s1 with heap := h' }) hz fun h2' he' hk' => ?_
      replace hk' : ∀ b o, h'.get? b = some o → h2'.get? b = some o := hk'
      rw [show ({ s1 with heap := h' } : Shared).heap.objs.size = s1.heap.objs.size + 5 from hsz] at he' ⊢
      refine wpAny_pyIter_enum (s := { s1 with heap := h2' }) he' ?_
      have I2 : Inv X pins σ H1 { s1 with heap := h2' } := I1.kept (t' := s1.toks) fun c o y => hk' c o (hk c o y)
      have ap := ez_apart s1.heap.objs.size a b la lb
      refine ⟨s1.heap.objs.size + 5, [s1.heap.objs.size + 5, s1.heap.objs.size + 4, s1.heap.objs.size + 2, s1.heap.objs.size + 3, s1.heap.objs.size, s1.heap.objs.size + 1], _, _, H1, rfl, I2, turn_ez N ap (Nat.ne_of_lt la) (Nat.ne_of_lt (Nat.lt_succ_of_lt lb)),
        ⟨.none, .none, false, .none, .none, he', hk' _ _ hz, .inl rfl, hk' _ _ hTI, hk' _ _ hTO, N.mv h1 fun o y => hk' _ o y, N.mv h2 fun o y => hk' _ o y⟩, fun c hcm => ?_, q⟩
      have e' : c = s1.heap.objs.size + 5 ∨ c = s1.heap.objs.size + 4 ∨ c = s1.heap.objs.size + 2 ∨ c = s1.heap.objs.size + 3 ∨ c = s1.heap.objs.size ∨ c = s1.heap.objs.size + 1 := by simpa using hcm
      have atl : s1.heap.objs.size ≤ c := by
        rcases e' with z | z | z | z | z | z
        · rw [z]; exact Nat.le_add_right s1.heap.objs.size _
        · rw [z]; exact Nat.le_add_right s1.heap.objs.size _
        · rw [z]; exact Nat.le_add_right s1.heap.objs.size _
        · rw [z]; exact Nat.le_add_right s1.heap.objs.size _
        · rw [z]; exact Nat.le_refl _
        · rw [z]; exact Nat.le_add_right s1.heap.objs.size _
      exact I1.fpOk atl (I1.hok.fresh atl)
end BW

namespace BW
open PySem PySem.Spec PyProof.Rows L2

/-! ### enumerate(t), t a tuple -/
theorem meets_enum_B {v : Value} {ob : Obj} {HH : Heap → Prop} (B : Begins v ob HH) : Meets (Builtin.«enumerate.__new__» ⟨[.type "enumerate", v], []⟩) (fun _ R s => HH s.heap ∧
    R (.ok (.ret (.ref (s.heap.push ob).objs.size))) { s with heap := (s.heap.push ob).push { cls := .type "enumerate", data := .fields #[.none, .bool false, .ref s.heap.objs.size, rawInt 0, .none, .none] } }) :=
  .of_wp fun prog w A R s given => by
    obtain ⟨hp, gn, dw, tk, ou⟩ := s; obtain ⟨h1, h⟩ := given
    have subE := sub_enumerate
    have q1 : ∀ {A' : Around} {E : Value → Shared → Prop} {Q : Value → Shared → Prop}, Q (.ref hp.objs.size) ⟨hp.push ob, gn, dw, tk, ou⟩ → wpAny (model prog w) A' (pyIter v) Q E ⟨hp, gn, dw, tk, ou⟩ := fun q => B.iter prog w _ _ ⟨hp, gn, dw, tk, ou⟩ _ h1 q
    wp_walk using q1
    refine wpAny_stack_any fun stands => wpAny_pure ?_
    split
    · rename_i c _ _ _ _ _
      cases (c == Value.type ("enumerate" : String))
      · wp_walk using q1
        exact ⟨_, rfl, h⟩
      · wp_walk using q1
        exact ⟨_, rfl, h⟩
    · wp_walk using q1
      exact ⟨_, rfl, h⟩
theorem call_enum_tup {prog : Program} {w : World} {A : Around} {E : Value → Shared → Prop} {s : Shared} {t : Addr} {its : Array Value} {Q : Value → Shared → Prop} (ht : s.heap.IsTuple t its)
    (h : ∀ h', IsEnum h' (s.heap.objs.size + 1) s.heap.objs.size 0 .none → h'.IsTupleIter s.heap.objs.size t 0 → (∀ b o, s.heap.get? b = some o → h'.get? b = some o) → Q (.ref (s.heap.objs.size + 1)) { s with heap := h' }) :
    wpAny (model prog w) A (call (.type "enumerate") [.ref t]) Q E s := by
  refine callType_new F.called_enumerate (by decide) (F.typeCall_enumerate_1 _) (F.newCall_enumerate_1 _) (fun obj => F.args_object_init_2 obj _) F.entry_enumerate_new (meets_enum_B (begins_tuple t its)) ⟨ht, ?_⟩
  have hz : (s.heap.push { cls := .type "tuple_iterator", data := .fields #[.ref t, .int 0 0] }).objs.size = s.heap.objs.size + 1 := Heap.size_push ..
  show _ ∧ _
  rw [hz]
  have he : IsEnum ((s.heap.push { cls := .type "tuple_iterator", data := .fields #[.ref t, .int 0 0] }).push { cls := .type "enumerate", data := .fields #[.none, .bool false, .ref s.heap.objs.size, rawInt 0, .none, .none] }) (s.heap.objs.size + 1) s.heap.objs.size 0 .none := by
    rw [← hz]; exact Heap.get?_push_size _ rfl
  exact ⟨⟨_, he, rfl⟩, h _ he ⟨_, Heap.get?_push_of_some _ (Heap.get?_push_size _ rfl), rfl, rfl⟩ fun b o x => Heap.get?_push_of_some _ (Heap.get?_push_of_some _ x)⟩
/-- i, x: each in a new pair -/
def Itet (K : PySem.W.Frag) (a : Addr) : It :=
  ⟨fun i H => ∃ (xs : List V), SqT K H a xs ∧ i < xs.length, fun i H v H' => ∃ T x, v = .ref T ∧ H T = none ∧ H' = upd H T (.tup [.int (i : Nat), x]) ∧ ∀ xs, SqT K H a xs → xs[i]? = some x, fun i H => ∃ xs : List V, SqT K H a xs ∧ xs.length = i⟩
theorem turn_et {P : Program} {w : World} {K : PySem.W.Frag} {elts : List Expr} {kk : Nat} {tpos : Pos} {a e it : Addr} (hei : e ≠ it) (hea : e ≠ a) (hai : a ≠ it) :
    Turn P w K (.Tuple elts kk tpos) (Itet K a) [e, it] e (fun i h => (∃ old, IsEnum h e it ((i : Nat) : Int) old) ∧ h.IsTupleIter it a i) where
  mem := by simp
  obj := fun i h stands b hb => by
    obtain ⟨⟨old, he⟩, ⟨o, ho, cal, hd⟩⟩ := stands
    have two : b = e ∨ b = it := by simpa using hb
    rcases two with z | z
    · rw [z]; exact ⟨_, he, fun _ n => nomatch n⟩
    · rw [z]; exact ⟨o, ho, fun v n => by rw [hd] at n; cases n⟩
  keep := fun i h h' stands k => ⟨let ⟨old, he⟩ := stands.1; ⟨old, k e (by simp) _ he⟩, stands.2.at fun o q => k it (by simp) o q⟩
  item := by
    intro X eP eW eK cal i pins s σ H E I foot stands goes
    subst eP eW eK
    obtain ⟨⟨old, he⟩, hit⟩ := stands
    obtain ⟨xs, sq, hx⟩ := goes
    obtain ⟨its, rv, p, _⟩ := I.tuple sq
    have D := Draws.tuple (prog := X.prog) (w := X.w) (A := X.A.in1) (I.ok.hd cal) it a hai its.toArray
    have eLt : e < s.heap.objs.size := Heap.lt_size he
    have iLt : it < s.heap.objs.size := by obtain ⟨_, q, _⟩ := hit; exact Heap.lt_size q
    obtain ⟨x, ex⟩ : ∃ x, xs[i]? = some x := ⟨xs[i], List.getElem?_eq_getElem hx⟩
    refine wpAny_pyNext_enum_itemD D he ⟨hit, p⟩ (by rw [List.size_toArray, ← rv.length]; exact hx) hei (notIn2 hei hea) fun x1 h' tk hx1 ho st' hT hsz hk => ?_
    refine ⟨_, rfl, wpAny_letOwnedTupleGo_enum (s := { s with heap := h', toks := tk + 1 }) ho fun h2' he' sb => ?_⟩
    replace sb : Heap.SameBut e h' h2' := sb
    have hT2 := (sb.2 _ (Nat.ne_of_gt eLt)).trans hT
    have rx : RelV x x1 := by
      obtain ⟨u, hu, ru⟩ := rv.get ex
      have : u = x1 := Option.some.inj (by rw [← hu, ← hx1]; simp)
      rw [← this]; exact ru
    have new : ObjOk X.prog X.w (upd H s.heap.objs.size (.tup [.int (i : Nat), x])) h2' s.heap.objs.size (.tup [.int (i : Nat), x]) := ⟨by show 2 ≤ sizeLine; decide, [.int ((i : Nat) : Int) tk, x1], .cons ⟨_, rfl⟩ (.cons rx .nil), ⟨_, hT2, rfl, _, rfl⟩⟩
    have I1 : Inv X pins σ (upd H s.heap.objs.size (.tup [.int (i : Nat), x])) { s with heap := h2', toks := tk + 1 } :=
      I.turnedNew (ch := [e, it]) (fun b ob hb q => (sb.2 b (fun z => hb (by simp [z]))).trans (hk b ob (fun z => hb (by simp [z])) (fun z => hb (by simp [z])) q)) foot (Nat.le_refl _) new
    refine ⟨.ref s.heap.objs.size, _, I1, rfl, ⟨_, x, rfl, I.hok.fresh (Nat.le_refl _), rfl, fun ys hy => by rw [I.tuple_inj hy sq]; exact ex⟩, ⟨⟨x1, ?_⟩, st'.1.at fun o q => (sb.2 it hei.symm).trans q⟩, fun b hb => ?_⟩
    · rw [show ((i + 1 : Nat) : Int) = (i : Int) + 1 by omega]; exact he'
    · have below : b < s.heap.objs.size := by
        have two : b = e ∨ b = it := by simpa using hb
        rcases two with z | z
        · rw [z]; exact eLt
        · rw [z]; exact iLt
      rw [upd_ne (Nat.ne_of_lt below)]; exact (foot b hb).1
  done := by
    intro X eP eW eK cal i pins s σ H E I foot stands goes
    subst eP eW eK
    obtain ⟨⟨old, he⟩, hit⟩ := stands
    obtain ⟨xs, sq, hx⟩ := goes
    obtain ⟨its, rv, p, _⟩ := I.tuple sq
    obtain ⟨f0, f1, f2, f3, f4, f5⟩ := foot it (by simp)
    have D := Draws.tuple (prog := X.prog) (w := X.w) (A := X.A.in1) (I.ok.hd cal) it a hai its.toArray
    have en : i = its.toArray.size := by rw [List.size_toArray, ← rv.length, hx]
    subst en
    exact wpAny_pyNext_enum_endD D he ⟨hit, p⟩ fun h' eb => ⟨rfl, I.turned (t' := s.toks) (fun b o hb q => eb b o hb q) f0 f1 f3 f4 f5⟩
  self := fun A i s Q E stands h => by obtain ⟨⟨old, he⟩, _⟩ := stands; exact wpAny_pyIter_enum he h
def iET (K : PySem.W.Frag) (ta : TA) : TI := fun σ H R => ta σ H fun vs H1 => ∃ a xs, vs = [.ref a] ∧ SqT K H1 a xs ∧ R (Itet K a) H1
theorem pi_et {X : Cx} {e : Expr} {ta : TA} {p pos tpos : Pos} {elts : List Expr} {kk : Nat} (goes : Gl X "enumerate") (hm : X.mg "enumerate" = none) (ha : PA X [e] ta) (hs : starEach [e] X.env = [(false, eval e X.env)] := by rfl) :
    PI X (.Tuple elts kk tpos) (.Call (.Name "enumerate" p) [e] [] pos) (iET X.K ta) := by
  refine ⟨fun pins s σ H R I h => ?_⟩; refine Call_ (ld_blt I goes hm boot_enumerate (PyProof.Rows.callWith_type1 (thn (ha.run pos pins s σ H _ I h) fun us s1 ⟨vs, H1, I1, r1, q1⟩ => ?_) hs rfl))
  obtain ⟨a, xs, ex, sq, q⟩ := q1
  subst ex
  cases r1 with
  | cons r more =>
    cases more; cases r
    obtain ⟨its, rv, p', _⟩ := I1.tuple sq
    have la : a < s1.heap.objs.size := p'.lt
    refine call_enum_tup p' fun h' he hit hk => wpAny_pyIter_enum he ?_
    have Inow : Inv X pins σ H1 { s1 with heap := h' } := I1.kept (t' := s1.toks) hk
    refine ⟨s1.heap.objs.size + 1, [s1.heap.objs.size + 1, s1.heap.objs.size], _, _, H1, rfl, Inow, turn_et (Nat.succ_ne_self _) (Nat.ne_of_gt (Nat.lt_succ_of_lt la)) (Nat.ne_of_lt la), ⟨⟨.none, he⟩, hit⟩, fun b hb => ?_, q⟩
    have atl : s1.heap.objs.size ≤ b := by
      have two : b = s1.heap.objs.size + 1 ∨ b = s1.heap.objs.size := by simpa using hb
      rcases two with z | z
      · rw [z]; exact Nat.le_add_right s1.heap.objs.size _
      · rw [z]; exact Nat.le_refl _
    exact I1.fpOk atl (I1.hok.fresh atl)
theorem walk_et {K : PySem.W.Frag} {a : Addr} {xs : List V} : Walk (Itet K a) xs.length (fun H => SqT K H a xs) (YPair (fun i => some (.int (i : Nat))) (fun i => xs[i]?)) := by
  refine ⟨fun i _ hi q => ⟨xs, q, hi⟩, fun _ q => ⟨xs, q, rfl⟩, fun i H v H' _ q y => ?_⟩
  obtain ⟨T, x, h1, h2, h3, h4⟩ := y; exact ⟨T, .int (i : Nat), x, h1, h2, h3, rfl, h4 xs q⟩
/-- i, (x, y) of two sequences of one length -/
def YEz (xs ys : List V) : Nat → Hp → V → Hp → Prop := fun i H v H' => ∃ T U x y, v = .ref T ∧ H U = none ∧ H T = none ∧ T ≠ U ∧ H' = upd (upd H U (.tup [x, y])) T (.tup [.int (i : Nat), .ref U]) ∧ xs[i]? = some x ∧ ys[i]? = some y
theorem walk_ez {SQ : Hp → Addr → List V → Prop} {a b : Addr} {xs ys : List V} {n : Nat} (hx : xs.length = n) (hy : ys.length = n) : Walk (Itez SQ a b) n (fun H => SQ H a xs ∧ SQ H b ys) (YEz xs ys) := by
  refine ⟨fun i _ hi q => ⟨xs, ys, q.1, q.2, by omega, by omega⟩, fun _ q => ⟨xs, q.1, hx, ys, q.2⟩, fun i H v H' _ q y => ?_⟩
  obtain ⟨T, U, x, y', h1, h2, h3, h4, h5, h6, h7⟩ := y
  exact ⟨T, U, x, y', h1, h2, h3, h4, h5, h6 xs q.1, h7 ys q.2⟩
end BW

namespace BW
open PySem PySem.Spec PyProof.Rows L2 StX
abbrev sIsInt : Stmt := top 1
abbrev sIsList : Stmt := top 2
abbrev sNeed : Stmt := top 33
abbrev sIsSmall : Stmt := top 34
abbrev sWide : Stmt := top 35
theorem scIsInt : FnScope ["value"] ["value"] (defScope sIsInt) := ⟨rfl, rfl, rfl, by decide +kernel, rfl, by decide +kernel, by decide +kernel⟩
theorem scIsList : FnScope ["value", "least", "most"] ["value", "least", "most"] (defScope sIsList) := ⟨rfl, rfl, rfl, by decide +kernel, rfl, by decide +kernel, by decide +kernel⟩
theorem scNeed : FnScope ["rows", "goal", "costs", "part", "index", "row", "one"] ["rows", "goal", "costs"] (defScope sNeed) := ⟨rfl, rfl, rfl, by decide +kernel, rfl, by decide +kernel, by decide +kernel⟩
theorem scIsSmall : FnScope ["value"] ["value"] (defScope sIsSmall) := ⟨rfl, rfl, rfl, by decide +kernel, rfl, by decide +kernel, by decide +kernel⟩
theorem scWide : FnScope ["rows", "found", "at", "row", "slack", "place", "part"] ["rows"] (defScope sWide) := ⟨rfl, rfl, rfl, by decide +kernel, rfl, by decide +kernel, by decide +kernel⟩

theorem Sq.app {n m : Nat} {P Q R : Nat → V → Prop} {xs ys : List V} (h1 : Sq n P xs) (h2 : Sq m Q ys) (f : ∀ i x, i < n → P i x → R i x) (g : ∀ i x, i < m → Q i x → R (n + i) x) : Sq (n + m) R (xs ++ ys) := by
  refine ⟨by rw [List.length_append, h1.1, h2.1], fun i hi => ?_⟩
  by_cases e : i < n
  · obtain ⟨x, a, b⟩ := h1.2 i e
    exact ⟨x, by rw [List.getElem?_append_left (by rw [h1.1]; exact e)]; exact a, f i x e b⟩
  · obtain ⟨x, a, b⟩ := h2.2 (i - n) (by omega)
    refine ⟨x, by rw [List.getElem?_append_right (by rw [h1.1]; omega), h1.1]; exact a, ?_⟩
    have := g (i - n) x (by omega) b
    rw [show n + (i - n) = i by omega] at this
    exact this
theorem Bld.done2 {H A H' : Hp} {D : Addr} {P : Hp → Nat → V → Prop} {n : Nat} (st : Stb P) (hD : H D = none) (b : Bld H A D P n H') : ∃ A' xs, Fz H A H' A' ∧ A' D = some (.lst xs) ∧ Sq n (P A') xs := by
  obtain ⟨A', zs, fz, hA, hH, hS⟩ := b
  exact ⟨_, zs, fz.fix hH hA hD, upd_same, hS.mono fun j x _ p => st _ _ j x (same_new hA) p⟩
theorem all_true {n : Nat} {xs : List V} (h : Sq n (fun _ x => x = V.bl true) xs) : xs = (List.replicate n true).map V.bl := by
  refine List.ext_getElem? fun i => ?_
  by_cases e : i < n
  · obtain ⟨x, a, b⟩ := h.2 i e
    subst b
    rw [a, List.map_replicate, List.getElem?_replicate, if_pos e]
  · rw [List.getElem?_eq_none (by rw [h.1]; omega), List.getElem?_eq_none (by simp; omega)]
theorem rep_all {n : Nat} : (List.replicate n true).all id = true := by
  induction n with
  | zero => rfl
  | succ n ih => simp
theorem tyT {K : PySem.W.Frag} {H : Hp} {a : Addr} {xs : List V} (h : SqT K H a xs) : TyX K H (.ref a) (.type "tuple") := by
  rcases h with (h | ⟨o, h⟩) | ⟨o, its, n, h, c, _⟩
  · exact .base (.tup h)
  · exact .fTuple h
  · exact .kTuple h c
abbrev IntsT (K : PySem.W.Frag) (A : Hp) (v : V) (n : Nat) (f : Nat → Int) : Prop := Tp K A v n fun i x => x = .int (f i)
theorem intsTUp {K : PySem.W.Frag} {A A' : Hp} {v : V} {n : Nat} {f : Nat → Int} (h : IntsT K A v n f) (e : Same A A') : IntsT K A' v n f := Tp.up h e fun _ _ _ p => p
abbrev RowsT (K : PySem.W.Frag) (A : Hp) (v : V) (h : Nat) (R : Nat → Nat → Int) : Prop := Tp K A v h fun i x => IntsT K A x 2 (R i)
theorem rowsTUp {K : PySem.W.Frag} {A A' : Hp} {v : V} {h : Nat} {R : Nat → Nat → Int} (x : RowsT K A v h R) (e : Same A A') : RowsT K A' v h R := Tp.up x e fun _ _ _ p => intsTUp p e

section
variable {P : Program} {w : World} {K : PySem.W.Frag} {mg : Str → Option Value} {base : Heap}
def spIsInt : Sp := fun vs H Q _ => ∃ i : Int, vs = [.int i] ∧ Q (.bl true) H
theorem ok_isint {f : Addr} {fd : FuncData} (F : Fun K "is_integer" "is_integer" sIsInt f fd) (T : Txt K mg) : FnOk P w K mg base CX0 1 f fd ["value"] spIsInt := by
  refine F.ok scIsInt (fun vs H Q E h => ?_) (fun cdv A₀ outer s H vs Q E hr h => ?_)
  · obtain ⟨i, rfl, _⟩ := h; rfl
  · obtain ⟨i, rfl, q⟩ := h
    refine ⟨_, pss_one (ps_ret (pe_and (pe_callB call_isi (by rfl) T.isinstance boot_isinstance (pa_cons (pv 0) (pa_cons (pe_bltn (v := .ty "int") (by rfl) T.int boot_int rfl) pa_nil)))
      (pe_one (pe_not (pe_callB call_isi (by rfl) T.isinstance boot_isinstance (pa_cons (pv 0) (pa_cons (pe_bltn (v := .ty "bool") (by rfl) T.bool boot_bool rfl) pa_nil))))))), ?_⟩
    refine ⟨.int i, rfl, .int i, .ty "int", _, _, true, rfl, .ty _, .base (.int i), kit_ty (by decide +kernel), true, rfl, iteT ?_⟩
    exact ⟨.int i, rfl, .int i, .ty "bool", _, _, false, rfl, .ty _, .base (.int i), kit_ty (by decide +kernel), false, rfl, q⟩
def spIsList (K : PySem.W.Frag) : Sp := fun vs H Q _ => ∃ (p : Addr) (xs : List V) (lo hi : Int), vs = [.ref p, .int lo, .int hi] ∧ SqT K H p xs ∧ lo ≤ xs.length ∧ (xs.length : Int) ≤ hi ∧ Q (.bl true) H
theorem ok_islist {f : Addr} {fd : FuncData} (F : Fun K "is_list" "is_list" sIsList f fd) (T : Txt K mg) : FnOk P w K mg base CX0 1 f fd ["value", "least", "most"] (spIsList K) := by
  refine F.ok scIsList (fun vs H Q E h => ?_) (fun cdv A₀ outer s H vs Q E hr h => ?_)
  · obtain ⟨p, xs, lo, hi, rfl, _⟩ := h; rfl
  · obtain ⟨p, xs, lo, hi, rfl, hT, h1, h2, q⟩ := h
    refine ⟨_, pss_one (ps_ret (pe_and (pe_callB call_isi (by rfl) T.isinstance boot_isinstance (pa_cons (pv 0) (pa_cons (pe_bltn (v := .ty "tuple") (by rfl) T.tuple boot_tuple rfl) pa_nil)))
      (pe_one (pe_chain op_le op_le (pv 1) (pe_callB call_len_seq (by rfl) T.len PySem.boot_len (pa_cons (pv 0) pa_nil)) (pv 2))))), ?_⟩
    refine ⟨.ref p, rfl, .ref p, .ty "tuple", _, _, true, rfl, .ty _, tyT hT, kit_ty (by decide +kernel), true, rfl, iteT ?_⟩
    refine ⟨.int lo, rfl, .ref p, rfl, p, xs, rfl, .inr hT, _, _, rfl, rfl, _, rfl, ifT (decide_eq_true h1) ⟨.int hi, rfl, _, _, rfl, rfl, ?_⟩⟩
    show Q (.bl (decide ((xs.length : Int) ≤ hi))) H
    rw [decide_eq_true h2]; exact q
def spIsSmall : Sp := fun vs H Q _ => ∃ i : Int, vs = [.int i] ∧ i.natAbs ≤ 1000 ∧ Q (.bl true) H
theorem ok_issmall {f : Addr} {fd : FuncData} (F : Fun K "is_small" "is_small" sIsSmall f fd) (T : Txt K mg) (hI : Has P w K mg base CX0 1 "is_integer" ["value"] spIsInt) : FnOk P w K mg base CX0 2 f fd ["value"] spIsSmall := by
  obtain ⟨fI, fdI, GI, gI, kI, bI⟩ := hI
  obtain ⟨t, gs⟩ := T.size
  refine F.ok scIsSmall (fun vs H Q E h => ?_) (fun cdv A₀ outer s H vs Q E hr h => ?_)
  · obtain ⟨i, rfl, _⟩ := h; rfl
  · obtain ⟨i, rfl, hi, q⟩ := h
    refine ⟨_, pss_one (ps_ret (pe_and (pe_call GI hr rfl gI kI bI .nil pass0 (pa_cons (pv 0) pa_nil))
      (pe_one (pe_cmpR op_le (pe_callB call_abs (by rfl) T.abs boot_abs (pa_cons (pv 0) pa_nil)) (pe_glob (v := .int 1000) rfl gs ⟨_, rfl⟩) (nomark _))))), ?_⟩
    refine ⟨.int i, rfl, i, rfl, true, rfl, iteT ?_⟩
    refine ⟨.int i, rfl, i, rfl, _, _, rfl, rfl, ?_⟩
    show Q (.bl (decide ((if i < 0 then -i else i) ≤ 1000))) H
    rw [decide_eq_true (by split <;> omega)]; exact q

/-! ### need_program -/
def spNeed (K : PySem.W.Frag) : Sp := fun vs H Q _ => ∃ (A : Hp) (a b c : V) (h : Nat) (R : Nat → Nat → Int) (g cs : Nat → Int), vs = [a, b, c] ∧ Same A H ∧ RowsT K A a h R ∧ IntsT K A b h g ∧ IntsT K A c 2 cs ∧ 1 ≤ h ∧ h ≤ 8 ∧
  (∀ i, i < h → ∀ j, j < 2 → (R i j).natAbs ≤ 1000) ∧ (∀ i, i < h → (g i).natAbs ≤ 1000) ∧ (∀ j, j < 2 → (cs j).natAbs ≤ 1000) ∧ Ret H A Q fun _ v => v = .non
theorem ok_need {f : Addr} {fd : FuncData} (F : Fun K "need_program" "need_program" sNeed f fd) (T : Txt K mg) (hL : Has P w K mg base CX0 1 "is_list" ["value", "least", "most"] (spIsList K)) (hS : Has P w K mg base CX0 2 "is_small" ["value"] spIsSmall) : FnOk P w K mg base CX0 3 f fd ["rows", "goal", "costs"] (spNeed K) := by
  obtain ⟨fL, fdL, GL, gL, kL, bL⟩ := hL
  obtain ⟨fS, fdS, GS, gS, kS, bS⟩ := hS
  obtain ⟨t1, g1⟩ := T.rows
  obtain ⟨t2, g2⟩ := T.wide
  refine F.ok scNeed (fun vs H Q E h => ?_) (fun cdv A₀ outer s H vs Q E hr h => ?_)
  · obtain ⟨A, a, b, c, h, R, g, cs, rfl, _⟩ := h; rfl
  · obtain ⟨A, a, b, c, n, R, g, cs, rfl, s0, hR, hG, hC, hn1, hn8, zR, zG, zC, q⟩ := h
    have hr1 := hr.mono (show 1 ≤ 2 by decide)
    refine ⟨_, pss_cons (ps_if (PW.pt (pw_or (pt_not (pt_val (pe_call GL hr1 rfl gL kL bL .nil pass0 (pa_cons (pv 2) (pa_cons pe_int (pa_cons (pe_glob (v := .int 8) rfl g2 ⟨_, rfl⟩) pa_nil))))))
        (pw_or1 (pt_not (pt_val (pe_callB (cr_all rfl) (by rfl) T.all boot_all (pa_cons (pe_lc (own := [("part", 3)]) (g := gName 3) rfl scNeed.nd (pi_tup (pv 2))
          (blkOk_by (own := [("part", 3)]) (N := ["rows", "goal", "costs", "part", "index", "row", "one"]) (sc := defScope sNeed) (by decide +kernel))
          (fun _ _ _ _ _ => by exact pg_name (i := 3) scNeed.nd rfl (.inl rfl)) (fun _ _ _ _ _ => pts_nil) (fun _ _ _ _ _ => pe_call GS hr rfl gS kS bS .nil pass0 (pa_cons (pv 3) pa_nil))) pa_nil)))))))
        (pss_one ps_never) pss_nil)
      (pss_cons (ps_if (PW.pt (pw_or (pt_not (pt_val (pe_call GL hr1 rfl gL kL bL .nil pass0 (pa_cons (pv 0) (pa_cons pe_int (pa_cons (pe_glob (v := .int 8) rfl g1 ⟨_, rfl⟩) pa_nil))))))
        (pw_or1 (pt_not (pt_val (pe_call GL hr1 rfl gL kL bL .nil pass0 (pa_cons (pv 1) (pa_cons (pe_callB call_len_seq (by rfl) T.len PySem.boot_len (pa_cons (pv 0) pa_nil)) (pa_cons (pe_callB call_len_seq (by rfl) T.len PySem.boot_len (pa_cons (pv 0) pa_nil)) pa_nil)))))))))
        (pss_one ps_never) pss_nil)
      (pss_one (ps_for PassesOwn.never rfl (pi_ez knd_tup (by rfl) T.enumerate (by rfl) T.zip (pa_cons (pv 0) (pa_cons (pv 1) pa_nil)))
        (pg_tup rfl (pgs_cons (pg_name (i := 4) scNeed.nd rfl (.inl rfl)) (pgs_cons (pg_tup rfl (pgs_cons (pg_name (i := 5) scNeed.nd rfl (.inl rfl)) (pgs_cons (pg_name (i := 3) scNeed.nd rfl (.inl rfl)) pgs_nil))) pgs_nil)))
        (pss_one (ps_if (PW.pt (pw_or (pt_not (pt_val (pe_call GL hr1 rfl gL kL bL .nil pass0 (pa_cons (pv 5) (pa_cons (pe_callB call_len_seq (by rfl) T.len PySem.boot_len (pa_cons (pv 2) pa_nil)) (pa_cons (pe_callB call_len_seq (by rfl) T.len PySem.boot_len (pa_cons (pv 2) pa_nil)) pa_nil))))))
          (pw_or1 (pt_not (pt_val (pe_callB (cr_all rfl) (by rfl) T.all boot_all (pa_cons (pe_lc (own := [("one", 6)]) (g := gName 6) rfl scNeed.nd (pi_tup (pe_tup (pa_star (pv 5) (pa_cons (pv 3) pa_nil))))
            (blkOk_by (own := [("one", 6)]) (N := ["rows", "goal", "costs", "part", "index", "row", "one"]) (sc := defScope sNeed) (by decide +kernel))
            (fun _ _ _ _ _ => by exact pg_name (i := 6) scNeed.nd rfl (.inl rfl)) (fun _ _ _ _ _ => pts_nil) (fun _ _ _ _ _ => pe_call GS hr rfl gS kS bS .nil pass0 (pa_cons (pv 6) pa_nil))) pa_nil)))))))
          (pss_one ps_never) pss_nil))))), ?_⟩
    obtain ⟨aR, xR, rfl, hLR, hSR⟩ := id hR
    obtain ⟨aG, xG, rfl, hLG, hSG⟩ := id hG
    obtain ⟨aC, xC, rfl, hLC, hSC⟩ := id hC
    have lC : xC.length = 2 := hSC.1
    -- the costs
    refine ⟨.ref aC, rfl, aC, xC, 1, 8, rfl, sameT s0 hLC, by omega, by omega, true, rfl, iteF ?_⟩
    refine ⟨.ref aC, rfl, aC, rfl, ⟨xC, sameT s0 hLC⟩, fun D hD => ?_⟩
    refine lc_it (walk_tup (xs := xC)) (Bld H A D fun _ i x => x = .bl true) (Bld.start (Fz.refl s0) hD) (fun i H' _ ⟨A', zs, fz, _⟩ => sameT (s0.trans fz.kee) hLC) ?_ ?_
    · rintro i x H' H'' hi ⟨A', zs, fz, hAD, hHD, hSq⟩ ⟨rfl, hx⟩
      obtain ⟨x', e', px⟩ := hSC.2 i (by rw [← lC]; exact hi)
      obtain rfl : x' = x := Option.some.inj (e'.symm.trans hx)
      subst px
      refine ⟨rfl, _, rfl, cs i, rfl, zC i (by omega), ?_⟩
      exact Bld.more (P := fun _ i x => x = .bl true) (fun _ _ _ _ _ p => p) fz hAD hHD hSq (Fz.refl fz.sub) hD (by omega) rfl
    · intro H1 hb
      obtain ⟨A1, xs1, fz1, hA1, hs1⟩ := Bld.done2 (P := fun _ i x => x = .bl true) (fun _ _ _ _ _ p => p) hD hb
      refine ⟨D, _, rfl, SqL.of (by rw [← all_true hs1]; exact fz1.sub _ _ hA1), true, by rw [rep_all], ?_⟩
      refine iteF ?_
      -- the rows, the goal
      have s1 := s0.trans fz1.kee
      have lR : xR.length = n := hSR.1
      have lG : xG.length = n := hSG.1
      refine ⟨.ref aR, rfl, aR, xR, 1, 8, rfl, sameT s1 hLR, by omega, by omega, true, rfl, iteF ?_⟩
      refine ⟨.ref aG, rfl, .ref aR, rfl, aR, xR, rfl, .inr (sameT s1 hLR), .ref aR, rfl, aR, xR, rfl, .inr (sameT s1 hLR), aG, xG, _, _, rfl, sameT s1 hLG, by omega, by omega, true, rfl, iteF ?_⟩
      -- row by row
      refine ⟨_, rfl, _, rfl, aR, aG, xR, xG, rfl, sameT s1 hLR, sameT s1 hLG, ?_⟩
      refine for_it (walk_ez (n := n) lR lG) (fun i σ H' => ∃ A' y3 y4 y5 y6, σ = [some (.ref aR), some (.ref aG), some (.ref aC), y3, y4, y5, y6] ∧ Fz H A H' A') ⟨A1, _, _, _, _, rfl, fz1⟩
        (fun i σ H' _ ⟨A', _, _, _, _, _, fz⟩ => ⟨sameT (s0.trans fz.kee) hLR, sameT (s0.trans fz.kee) hLG⟩) ?_ ?_
      · rintro i x σ H' H'' hi ⟨A', y3, y4, y5, y6, rfl, fz⟩ ⟨Tt, U, x1, x2, rfl, hU, hT, hTU, rfl, ex1, ex2⟩
        obtain ⟨x1', e1, p1⟩ := hSR.2 i hi
        obtain ⟨x2', e2, p2⟩ := hSG.2 i hi
        obtain rfl : x1' = x1 := Option.some.inj (e1.symm.trans ex1)
        obtain rfl : x2' = x2 := Option.some.inj (e2.symm.trans ex2)
        subst p2
        have hT' : (upd H' U (.tup [x1', .int (g i)])) Tt = none := by rw [upd_ne hTU]; exact hT
        have fz2 := (fz.laidM (o := .tup [x1', .int (g i)]) hU).laidM (o := .tup [.int (i : Nat), .ref U]) hT'
        have s2 := s0.trans fz2.kee
        refine ⟨Tt, _, rfl, SqT.of upd_same, rfl, _, _, rfl, _, _, rfl, ⟨U, _, rfl, SqT.of (by rw [upd_ne hTU.symm]; exact upd_same), rfl, _, _, rfl, _, _, rfl, rfl, rfl, ?_⟩⟩
        obtain ⟨ar, xr, rfl, hlr, hsr⟩ := id p1
        have lr : xr.length = 2 := hsr.1
        refine ⟨.ref ar, rfl, .ref aC, rfl, aC, xC, rfl, .inr (sameT s2 hLC), .ref aC, rfl, aC, xC, rfl, .inr (sameT s2 hLC), ar, xr, _, _, rfl, sameT s2 hlr, by omega, by omega, true, rfl, iteF ?_⟩
        refine ⟨.ref ar, rfl, ar, xr, rfl, .inl (sameT s2 hlr), .int (g i), rfl, ?_, fun p hp => ?_⟩
        · rw [List.length_append, lr]; show 2 + 1 ≤ sizeLine; decide
        have fz3 := fz2.laid (o := .tup (xr ++ [.int (g i)])) hp
        have hq : Sq 3 (fun j x => ∃ z : Int, x = .int z ∧ z.natAbs ≤ 1000) (xr ++ [.int (g i)]) :=
          Sq.snoc (hsr.mono fun j x hj p => ⟨_, p, zR i hi j hj⟩) ⟨_, rfl, zG i hi⟩
        refine ⟨p, rfl, ⟨_, SqT.of upd_same⟩, fun D2 hD2 => ?_⟩
        have hD2p : ∀ {H2 : Hp}, Same (upd (upd (upd H' U (.tup [V.ref ar, .int (g i)])) Tt (.tup [.int (i : Nat), .ref U])) p (.tup (xr ++ [.int (g i)]))) H2 → SqT K H2 p (xr ++ [.int (g i)]) := fun e => SqT.of (e _ _ upd_same)
        refine lc_it (walk_tup (xs := xr ++ [V.int (g i)])) (Bld _ _ D2 fun _ i x => x = .bl true) (Bld.start (Fz.refl fz3.sub) hD2) (fun i H' _ ⟨A', zs, fz, _⟩ => hD2p fz.kee) ?_ ?_
        · rintro j x H3 H4 hj ⟨A3, zs, f3, hAD, hHD, hSq⟩ ⟨rfl, hx⟩
          obtain ⟨x', e', z, px, hz⟩ := hq.2 j (by rw [← hq.1]; exact hj)
          obtain rfl : x' = x := Option.some.inj (e'.symm.trans hx)
          subst px
          refine ⟨rfl, _, rfl, z, rfl, hz, ?_⟩
          have := hq.1
          exact Bld.more (P := fun _ i x => x = .bl true) (fun _ _ _ _ _ p => p) f3 hAD hHD hSq (Fz.refl f3.sub) hD2 (by omega) rfl
        · intro H3 hb3
          obtain ⟨A3, xs3, f3, hA3, hs3⟩ := Bld.done2 (P := fun _ i x => x = .bl true) (fun _ _ _ _ _ p => p) hD2 hb3
          refine ⟨D2, _, rfl, SqL.of (by rw [← all_true hs3]; exact f3.sub _ _ hA3), true, by rw [rep_all], ?_⟩
          exact iteF ⟨A3, _, _, _, _, rfl, fz3.trans f3⟩
      · rintro σ H' ⟨A', _, _, _, _, _, fz⟩
        exact q H' A' _ fz rfl
/-! ### wide_rows -/
def spWide (K : PySem.W.Frag) : Sp := fun vs H Q _ => ∃ (A : Hp) (a : V) (h : Nat) (R : Nat → Nat → Int), vs = [a] ∧ Same A H ∧ RowsT K A a h R ∧ h ≤ 100 ∧ Ret H A Q fun A' v => Tbl K A' v h (2 + h) (wideM R)
theorem ok_wide {f : Addr} {fd : FuncData} (F : Fun K "wide_rows" "wide_rows" sWide f fd) (T : Txt K mg) : FnOk P w K mg base CX0 1 f fd ["rows"] (spWide K) := by
  obtain ⟨zz, gz, tz⟩ := T.zero
  obtain ⟨zo, go, to⟩ := T.one
  refine F.ok scWide (fun vs H Q E h => ?_) (fun cdv A₀ outer s H vs Q E hr h => ?_)
  · obtain ⟨A, a, h, R, rfl, _⟩ := h; rfl
  · obtain ⟨A, a, n, R, rfl, s0, hR, hn, q⟩ := h
    refine ⟨_, pss_cons (ps_set (i := 1) scWide.nd rfl (.inl rfl) (pe_lst pa_nil))
      (pss_cons (ps_for PassesOwn.never rfl (pi_et (by rfl) T.enumerate (pa_cons (pv 0) pa_nil)) (pg_tup rfl (pgs_cons (pg_name (i := 2) scWide.nd rfl (.inr rfl)) (pgs_cons (pg_name (i := 3) scWide.nd rfl (.inl rfl)) pgs_nil)))
        (pss_cons (ps_setLc (i := 4) (own := [("place", 5)]) (g := gName 5) rfl scWide.nd rfl rfl (sw_true rfl rfl rfl (by decide +kernel)) (pi_range1 rfl T.range (pa_cons (pe_callB call_len_seq (by rfl) T.len PySem.boot_len (pa_cons (pv 0) pa_nil)) pa_nil))
          (blkOk_by (own := [("place", 5)]) (N := ["rows", "found", "at", "row", "slack", "place", "part"]) (sc := defScope sWide) (by decide +kernel))
          (fun _ _ _ _ _ => by exact pg_name (i := 5) scWide.nd rfl (.inl rfl)) (fun _ _ _ _ _ => pts_nil)
          (fun _ _ _ _ _ => pe_ifExp (pt_cmpR op_eq (pv 2) (pv 5) (nomark _)) (pe_glob (v := .ref zo) rfl go rfl) (pe_glob (v := .ref zz) rfl gz rfl)))
        (pss_one (ps_expr (pe_bm PySem.F.plainAttrs_list PySem.F.slot_list_append PySem.F.type_list_append mt_append (pv 1) (pa_cons (pe_op op_cat
          (pe_lc (own := [("part", 6)]) (g := gName 6) rfl scWide.nd (pi_tup (pv 3))
            (blkOk_by (own := [("part", 6)]) (N := ["rows", "found", "at", "row", "slack", "place", "part"]) (sc := defScope sWide) (by decide +kernel))
            (fun _ _ _ _ _ => by exact pg_name (i := 6) scWide.nd rfl (.inl rfl)) (fun _ _ _ _ _ => pts_nil) (fun _ _ _ _ _ => pe_tup (pa_cons (pv 6) (pa_cons pe_int pa_nil))))
          (pv 4)) pa_nil))))))
      (pss_one (ps_ret (pv 1)))), ?_⟩
    obtain ⟨aR, xR, rfl, hLR, hSR⟩ := id hR
    have lR : xR.length = n := hSR.1
    refine ⟨(by show 0 ≤ sizeLine; decide), fun D hD => ?_⟩
    have sD : Same A (upd H D (.lst [])) := s0.trans (same_new hD)
    refine ⟨_, rfl, aR, xR, rfl, sameT sD hLR, ?_⟩
    refine for_it (walk_et (xs := xR)) (fun i σ H' => ∃ y2 y3 y4, σ = [some (.ref aR), some (.ref D), y2, y3, y4, none, none] ∧ Bld H A D (fun A' i x => Row K A' x (2 + n) (wideM R i)) i H')
      ⟨none, none, none, rfl, Bld.start (Fz.refl s0) hD⟩ (fun i σ H' _ ⟨_, _, _, _, A', zs, fz, _⟩ => sameT (s0.trans fz.kee) hLR) ?_ ?_
    · rintro i x σ H' H'' hi ⟨y2, y3, y4, rfl, A', zs, fz, hAD, hHD, hSq⟩ hY
      have hin : i < n := by omega
      obtain ⟨Tt, row, rfl, hTt, rfl, prow, fz'⟩ := enum_go hSR hin fz hY
      refine ⟨Tt, [.int (i : Nat), row], rfl, SqT.of upd_same, rfl, .int (i : Nat), [row], rfl, row, [], rfl, rfl, ?_⟩
      have f0 : Fz H' A' (upd H' Tt (.tup [.int (i : Nat), row])) A' := (Fz.refl fz.sub).laidM hTt
      have hHD0 := f0.kee _ _ hHD
      refine ⟨.ref aR, rfl, aR, xR, rfl, .inr (sameT (s0.trans fz'.kee) hLR), _, rfl, by omega, by omega, fun D2 hD2 => ?_⟩
      refine lc_range (lo := 0) (n := ((xR.length : Int)).toNat) (Bld (upd H' Tt (.tup [.int (i : Nat), row])) A' D2 fun A' j x => IsR K A' x (if j = i then 1 else 0)) (Bld.start (Fz.refl f0.sub) hD2) ?_ ?_
      · rintro j H2 hj ⟨A2, zs2, f2, hAD2, hHD2, hSq2⟩
        refine ⟨rfl, .int (i : Nat), rfl, .int (0 + (j : Int)), rfl, rfl, _, rfl, ite2 (fun e => ?_) (fun e => ?_)⟩
        · have eij : j = i := by have := V.int.inj (of_decide_eq_true e); omega
          exact Bld.more (P := fun A' j x => IsR K A' x (if j = i then 1 else 0)) (fun _ _ _ _ s p => p.up s) f2 hAD2 hHD2 hSq2 (Fz.refl f2.sub) hD2 (by omega) ⟨zo, rfl, by rw [if_pos eij]; exact to _⟩
        · have eij : j ≠ i := fun h => e (decide_eq_true (by rw [h, Int.zero_add]))
          exact Bld.more (P := fun A' j x => IsR K A' x (if j = i then 1 else 0)) (fun _ _ _ _ s p => p.up s) f2 hAD2 hHD2 hSq2 (Fz.refl f2.sub) hD2 (by omega) ⟨zz, rfl, by rw [if_neg eij]; exact tz _⟩
      · intro H2 hb2
        rw [Int.toNat_natCast, lR] at hb2
        obtain ⟨A2, xs2, f2, hA2, hs2⟩ := Bld.done2 (P := fun A' j x => IsR K A' x (if j = i then 1 else 0)) (fun _ _ _ _ s p => p.up s) hD2 hb2
        have f02 := f0.trans f2
        have hHD1 := f02.kee _ _ hHD
        -- [(part, 1) for part in row] + slack
        refine ⟨.ref D, rfl, .inl ⟨rfl, _, .inl (.inl hHD1)⟩, ?_⟩
        have fa := fz.trans f02
        have prow2 := intsTUp prow fa.ext
        obtain ⟨ar, xr, rfl, hlr, hsr⟩ := id prow2
        have lr : xr.length = 2 := hsr.1
        refine ⟨.ref ar, rfl, ar, rfl, ⟨xr, sameT fa.sub hlr⟩, fun D3 hD3 => ?_⟩
        refine lc_it (walk_tup (xs := xr)) (Bld H2 A2 D3 fun A' j x => IsR K A' x ((R i j : Int) : Rat)) (Bld.start (Fz.refl f2.sub) hD3) (fun j H' _ ⟨A', zs, fz, _⟩ => sameT (fa.sub.trans fz.kee) hlr) ?_ ?_
        · rintro j x H3 H4 hj ⟨A3, zs3, f3, hAD3, hHD3, hSq3⟩ ⟨rfl, hx⟩
          obtain ⟨x', e', px⟩ := hsr.2 j (by omega)
          obtain rfl : x' = x := Option.some.inj (e'.symm.trans hx)
          subst px
          refine ⟨rfl, _, rfl, (by show 2 ≤ sizeLine; decide), fun p hp => ?_⟩
          exact Bld.more (P := fun A' j x => IsR K A' x ((R i j : Int) : Rat)) (fun _ _ _ _ s p => p.up s) f3 hAD3 hHD3 hSq3 ((Fz.refl f3.sub).laid hp) hD3 (by omega) (isr_int upd_same)
        · intro H3 hb3
          rw [lr] at hb3
          obtain ⟨A3, xs3, f3, hA3, hs3⟩ := Bld.done2 (P := fun A' j x => IsR K A' x ((R i j : Int) : Rat)) (fun _ _ _ _ s p => p.up s) hD3 hb3
          have hA23 := f3.ext _ _ hA2
          refine ⟨_, rfl, D3, D2, xs3, xs2, rfl, rfl, f3.sub _ _ hA3, f3.sub _ _ hA23, ?_, fun p hp => ?_⟩
          · rw [hs3.1, hs2.1]; exact Nat.le_of_lt (small1000 (by omega))
          have f4 := (f02.trans f3).laid (o := .lst (xs3 ++ xs2)) hp
          have sq : Sq (2 + n) (fun j x => IsR K (upd A3 p (.lst (xs3 ++ xs2))) x (wideM R i j)) (xs3 ++ xs2) := by
            have sn := same_new (o := .lst (xs3 ++ xs2)) (f3.sub.free hp)
            refine Sq.app hs3 hs2 (fun j x hj p => ?_) (fun j x hj p => ?_)
            · have e : wideM R i j = ((R i j : Int) : Rat) := by unfold wideM; rw [if_pos hj]
              rw [e]; exact p.up sn
            · have e : wideM R i (2 + j) = if j = i then 1 else 0 := by
                unfold wideM
                rw [if_neg (by omega)]
                by_cases eji : j = i
                · rw [if_pos eji, if_pos (by omega)]
                · rw [if_neg eji, if_neg (by omega)]
              rw [e]; exact p.up (f3.ext.trans sn)
          obtain ⟨acc, h1, h2, h3⟩ := Bld.more (P := fun A' i x => Row K A' x (2 + n) (wideM R i)) (fun _ _ _ _ s p => rowUp p s) fz hAD hHD hSq f4 hD (by omega) (y := .ref p) ⟨p, _, rfl, SqL.of upd_same, sq⟩
          exact ⟨D, _, _, rfl, rfl, h1, h2, _, _, _, rfl, h3⟩
    · rintro σ H' ⟨y2, y3, y4, rfl, hb⟩
      rw [lR] at hb
      obtain ⟨A', fz, hl⟩ := Bld.done (K := K) (P := fun A' i x => Row K A' x (2 + n) (wideM R i)) (fun _ _ _ _ s p => rowUp p s) hD hb
      exact ⟨.ref D, rfl, q H' A' _ fz hl⟩
end
end BW

namespace BW
open PySem PySem.Spec PyProof.Rows L2 StX
abbrev sFirst : Stmt := top 26
abbrev sWithout : Stmt := top 27
theorem scFirst : FnScope ["rows", "goal", "high", "wide", "table", "at", "row", "part", "basis", "costs", "one", "place"] ["rows", "goal"] (defScope sFirst) := ⟨rfl, rfl, rfl, by decide +kernel, rfl, by decide +kernel, by decide +kernel⟩
theorem scWithout : FnScope ["table", "basis", "wide", "at", "some", "kept", "column"] ["table", "basis", "wide"] (defScope sWithout) := ⟨rfl, rfl, rfl, by decide +kernel, rfl, by decide +kernel, by decide +kernel⟩

/-- a stop between two statements -/
theorem seq_mid {t u : TS} {D : Ends} {σ : L2.St} {H : Hp} (J : L2.St → Hp → Prop) (h2 : ∀ σ H, J σ H → u D σ H) (h1 : ∀ N : L2.St → Hp → Prop, (∀ σ H, J σ H → N σ H) → t { D with nx := N } σ H) : tSeq t u D σ H := h1 _ h2

/-! ### the columns of a row that are not 0 -/
def NzOk (f : Nat → Rat) (k : Nat) (ks : List Nat) : Prop := ks.length ≤ k ∧ (∀ c, c < k → f c ≠ 0 → ks ≠ []) ∧ ∀ q r, ks = q :: r → q < k ∧ f q ≠ 0
theorem NzOk.no {f : Nat → Rat} {k : Nat} {ks : List Nat} (h : NzOk f k ks) (n : f k = 0) : NzOk f (k + 1) ks := by
  refine ⟨by have := h.1; omega, fun c hc z => ?_, fun q r e => ?_⟩
  · by_cases e : c = k
    · subst e; exact absurd n z
    · exact h.2.1 c (by omega) z
  · obtain ⟨a, b⟩ := h.2.2 q r e
    exact ⟨by omega, b⟩
theorem NzOk.yes {f : Nat → Rat} {k : Nat} {ks : List Nat} (h : NzOk f k ks) (n : f k ≠ 0) : NzOk f (k + 1) (ks ++ [k]) := by
  refine ⟨by simp; exact h.1, fun c hc z e => by simp at e, fun q r e => ?_⟩
  cases ks with
  | nil =>
    have : k = q := by simpa using (List.cons.inj e).1
    subst this
    exact ⟨by omega, n⟩
  | cons q' r' =>
    have : q' = q := (List.cons.inj e).1
    subst this
    obtain ⟨a, b⟩ := h.2.2 q' r' rfl
    exact ⟨by omega, b⟩

/-! ### what the first phase knows -/
/-- a table of the first program -/
def Of1 (h : Nat) (R : Nat → Nat → Int) (g : Nat → Int) (T : Mat) (B : Nat → Nat) : Prop := Tab h (2 + h + h) T B ∧ ∀ z, Null h (2 + h + h) T z ↔ Null h (2 + h + h) (ref1 h R g) z
theorem sz_sgw {h : Nat} {R : Nat → Nat → Int} {g : Nat → Int} (z : Szs h R g) : ∀ j, j ≤ 2 + h + h → ∀ k, k < h → ∃ a : Int, a.natAbs ≤ 12 ∧ ref1 h R g k j = a := by
  intro j hj k hk
  obtain ⟨A, B, C⟩ := z k hk
  have one : ∃ s : Int, (s = 1 ∨ s = -1) ∧ sg g k = (s : Rat) := by
    unfold sg
    split
    · exact ⟨-1, .inr rfl, rfl⟩
    · exact ⟨1, .inl rfl, rfl⟩
  obtain ⟨s, hs, es⟩ := one
  have mulS : ∀ a : Int, a.natAbs ≤ 12 → ∃ b : Int, b.natAbs ≤ 12 ∧ sg g k * (a : Rat) = b := fun a ha =>
    ⟨s * a, by rcases hs with e | e <;> subst e <;> omega, by rw [es, Rat.intCast_mul]⟩
  unfold ref1 wideM
  by_cases q1 : j < 2 + h
  · rw [if_pos q1]
    by_cases q2 : j < 2
    · rw [if_pos q2]
      refine mulS _ ?_
      have : j = 0 ∨ j = 1 := by omega
      rcases this with e | e <;> subst e <;> omega
    · rw [if_neg q2]
      by_cases q3 : j = 2 + k
      · rw [if_pos q3]; exact mulS 1 (by decide)
      · rw [if_neg q3]; exact mulS 0 (by decide)
  · rw [if_neg q1]
    by_cases q2 : j < 2 + h + h
    · rw [if_pos q2]
      by_cases q3 : j = 2 + h + k
      · rw [if_pos q3]; exact ⟨1, by decide, rfl⟩
      · rw [if_neg q3]; exact ⟨0, by decide, rfl⟩
    · rw [if_neg q2]; exact mulS _ (by omega)
theorem sz_sgw2 {h : Nat} {R : Nat → Nat → Int} {g : Nat → Int} (z : Szs h R g) : ∀ j, j ≤ 2 + h → ∀ k, k < h → ∃ a : Int, a.natAbs ≤ 12 ∧ ref2 h R g k j = a := by
  intro j hj k hk
  obtain ⟨A, B, C⟩ := z k hk
  unfold ref2 wideM
  by_cases q1 : j < 2 + h
  · rw [if_pos q1]
    by_cases q2 : j < 2
    · rw [if_pos q2]
      refine ⟨_, ?_, rfl⟩
      have : j = 0 ∨ j = 1 := by omega
      rcases this with e | e <;> subst e <;> omega
    · rw [if_neg q2]
      by_cases q3 : j = 2 + k
      · rw [if_pos q3]; exact ⟨1, by decide, rfl⟩
      · rw [if_neg q3]; exact ⟨0, by decide, rfl⟩
  · rw [if_neg q1]; exact ⟨_, by omega, rfl⟩
theorem divInt_of {a D : Int} : (a : Rat) / (D : Rat) = Rat.divInt a D := (Rat.divInt_eq_div a D).symm
theorem sz_of {m n : Nat} {T0 : Mat} {B0 : Nat → Nat} (t0 : Tab m n T0 B0) (h0 : ∀ j, j ≤ n → ∀ k, k < m → ∃ a : Int, a.natAbs ≤ 12 ∧ T0 k j = a) (h1 : 1 ≤ m) (h5 : m ≤ 5) {T : Mat} {B : Nat → Nat} (t : Tab m n T B) (hn : ∀ z, Null m n T z ↔ Null m n T0 z) : ∀ i, i < m → ∀ j, j ≤ n → Sz 300 (T i j) := by
  obtain ⟨D, d0, d1, d2⟩ := small_of t0 h0 h1 h5 T B t hn
  intro i hi j hj
  obtain ⟨a, ha, e⟩ := d2 i hi j hj
  rw [e, divInt_of]
  exact (sz_div d0 ha d1).mono (by decide)
theorem of1_sz {h : Nat} {R : Nat → Nat → Int} {g : Nat → Int} (z : Szs h R g) (h1 : 1 ≤ h) (h5 : h ≤ 5) {T : Mat} {B : Nat → Nat} (o : Of1 h R g T B) : ∀ i, i < h → ∀ j, j ≤ 2 + h + h → Sz 300 (T i j) := sz_of tab_ref1 (sz_sgw z) h1 h5 o.1 o.2
theorem of2_sz {h : Nat} {R : Nat → Nat → Int} {g : Nat → Int} (z : Szs h R g) (h1 : 1 ≤ h) (h5 : h ≤ 5) {T : Mat} {B : Nat → Nat} (t : Tab h (2 + h) T B) (hn : ∀ z, Null h (2 + h) T z ↔ Null h (2 + h) (ref2 h R g) z) : ∀ i, i < h → ∀ j, j ≤ 2 + h → Sz 300 (T i j) := sz_of tab_ref2 (sz_sgw2 z) h1 h5 t hn
end BW

namespace BW
open PySem PySem.Spec PyProof.Rows L2 StX
theorem piv_end {T : Mat} {r c n : Nat} (h : T r n = 0) (k : Nat) : piv T r c k n = T k n := by
  unfold piv
  by_cases e : k = r
  · subst e; rw [if_pos rfl, h]; grind
  · rw [if_neg e, h]; grind
theorem Sq.take {n k : Nat} {P : Nat → V → Prop} {xs : List V} (h : Sq n P xs) (hk : k ≤ n) : Sq k P (xs.take k) := by
  refine ⟨by rw [List.length_take, h.1]; omega, fun i hi => ?_⟩
  obtain ⟨x, a, b⟩ := h.2 i (by omega)
  exact ⟨x, by rw [List.getElem?_take, if_pos hi]; exact a, b⟩
theorem Sq.one {P : Nat → V → Prop} {x : V} (h : P 0 x) : Sq 1 P [x] := by
  refine ⟨rfl, fun i hi => ⟨x, ?_, ?_⟩⟩
  · have : i = 0 := by omega
    subst this; rfl
  · have : i = 0 := by omega
    subst this; exact h
section
variable {P : Program} {w : World} {K : PySem.W.Frag} {mg : Str → Option Value} {base : Heap}
def TwoOk (K : PySem.W.Frag) (h : Nat) (T : Mat) (B : Nat → Nat) (A' : Hp) (v : V) : Prop := ∃ p ta tb, v = .ref p ∧ SqT K A' p [ta, tb] ∧ Tbl K A' ta h (2 + h + 1) T ∧ Ints K A' tb h (fun i => (B i : Int))
def spWithout (K : PySem.W.Frag) : Sp := fun vs H Q _ => ∃ (A : Hp) (a b : V) (h : Nat) (R : Nat → Nat → Int) (g : Nat → Int) (T : Mat) (B : Nat → Nat), vs = [a, b, .int ((2 + h : Nat) : Int)] ∧ Same A H ∧ Tbl K A a h (2 + h + h + 1) T ∧ Ints K A b h (fun i => (B i : Int)) ∧
  Of1 h R g T B ∧ Feas h (2 + h + h) T ∧ Szs h R g ∧ 1 ≤ h ∧ h ≤ 5 ∧ (∀ i, i < h → 2 + h ≤ B i → T i (2 + h + h) = 0) ∧
  ∀ T' B', Of1 h R g T' B' → Feas h (2 + h + h) T' → (∀ i, i < h → B' i < 2 + h) → Ret H A Q (TwoOk K h (cut0 h T') B')
theorem ok_without {f : Addr} {fd : FuncData} (F : Fun K "without_new" "without_new" sWithout f fd) (T : Txt K mg) (hP : Has P w K mg base CX0 6 "pivoted" ["table", "at", "column"] (spPivoted K)) : FnOk P w K mg base CX0 7 f fd ["table", "basis", "wide"] (spWithout K) := by
  obtain ⟨fP, fdP, GP, gP, kP, bP⟩ := hP
  refine F.ok scWithout (fun vs H Q E h => ?_) (fun cdv A₀ outer s H vs Q E hr h => ?_)
  · obtain ⟨A, a, b, n, R, g, T, B, rfl, _⟩ := h; rfl
  · obtain ⟨A, a, b, n, R, g, Tm, B, rfl, s0, hT, hB, o1, fs, zs, h1, h5, h0, q⟩ := h
    have hu := hr.units
    refine ⟨_, pss_cons (ps_for PassesOwn.never rfl (pi_range1 (by rfl) T.range (pa_cons (pe_callB call_len_seq (by rfl) T.len PySem.boot_len (pa_cons (pv 1) pa_nil)) pa_nil)) (pg_name (i := 3) scWithout.nd rfl (.inr rfl))
        (pss_one (ps_if (pt_cmpR op_ge (pe_ix ix_list (pv 1) (pv 3) (fun _ _ => rfl)) (pv 2) (nomark _))
          (pss_cons (ps_setLc (i := 4) (own := [("column", 6)]) (g := gName 6) rfl scWithout.nd rfl rfl (sw_true rfl rfl rfl (by decide +kernel)) (pi_range1 rfl T.range (pa_cons (pv 2) pa_nil))
              (blkOk_by (own := [("column", 6)]) (N := ["table", "basis", "wide", "at", "some", "kept", "column"]) (sc := defScope sWithout) (by decide +kernel))
              (fun _ _ _ _ _ => by exact pg_name (i := 6) scWithout.nd rfl (.inl rfl))
              (fun _ _ _ _ _ => pts_one (pt_cmpR op_ne (pe_ix (r := rIxT K) ix_tup (pe_ix (r := rIxL K) ix_list (pe_ix (r := rIxL K) ix_list (pv 0) (pv 3) (fun _ _ => rfl)) (pv 6) (fun _ _ => rfl)) pe_int (fun _ _ => rfl)) pe_int (nomark _)))
              (fun _ _ _ _ _ => pv 6))
          (pss_one (ps_if (pt_cmpR (op_neD hu) (pv 4) (pe_lst pa_nil) (nomark _))
            (pss_cons (ps_set (i := 0) scWithout.nd rfl (.inr rfl) (pe_call GP hr rfl gP kP bP .nil pass0 (pa_cons (pv 0) (pa_cons (pv 3) (pa_cons (pe_ix ix_list (pv 4) pe_int (fun _ _ => rfl)) pa_nil)))))
            (pss_one (ps_set (i := 1) scWithout.nd rfl (.inr rfl) (pe_lst (pa_star (pe_slice sl_list (pv 1) po_none (po_some (pv 3))) (pa_cons (pe_ix ix_list (pv 4) pe_int (fun _ _ => rfl)) (pa_star (pe_slice sl_list (pv 1) (po_some (pe_op op_add (pv 3) pe_int)) po_none) pa_nil)))))))
            pss_nil)))
          pss_nil)))
      (pss_cons (ps_setLc (i := 5) (own := [("at", 3)]) (g := gName 3) rfl scWithout.nd rfl rfl (sw_true rfl rfl rfl (by decide +kernel)) (pi_range1 rfl T.range (pa_cons (pe_callB call_len_seq (by rfl) T.len PySem.boot_len (pa_cons (pv 1) pa_nil)) pa_nil))
          (blkOk_by (own := [("at", 3)]) (N := ["table", "basis", "wide", "at", "some", "kept", "column"]) (sc := defScope sWithout) (by decide +kernel))
          (fun _ _ _ _ _ => by exact pg_name (i := 3) scWithout.nd rfl (.inl rfl))
          (fun _ _ _ _ _ => pts_one (pt_cmpR op_lt (pe_ix (r := rIxL K) ix_list (pv 1) (pv 3) (fun _ _ => rfl)) (pv 2) (nomark _)))
          (fun _ _ _ _ _ => pv 3))
      (pss_one (ps_ret (pe_tup (pa_cons
        (pe_lc (own := [("at", 3)]) (g := gName 3) rfl scWithout.nd (pi_list (pv 5))
          (blkOk_by (own := [("at", 3)]) (N := ["table", "basis", "wide", "at", "some", "kept", "column"]) (sc := defScope sWithout) (by decide +kernel))
          (fun _ _ _ _ _ => by exact pg_name (i := 3) scWithout.nd rfl (.inl rfl)) (fun _ _ _ _ _ => pts_nil)
          (fun _ _ _ _ _ => pe_op op_cat (pe_slice (r := rSlL K) sl_list (pe_ix (r := rIxL K) ix_list (pv 0) (pv 3) (fun _ _ => rfl)) po_none (po_some (pv 2)))
            (pe_lst (pa_cons (pe_ix (r := rIxL K) ix_list (pe_ix (r := rIxL K) ix_list (pv 0) (pv 3) (fun _ _ => rfl)) (pe_un un_neg pe_int) (fun _ _ => rfl)) pa_nil))))
        (pa_cons
        (pe_lc (own := [("at", 3)]) (g := gName 3) rfl scWithout.nd (pi_list (pv 5))
          (blkOk_by (own := [("at", 3)]) (N := ["table", "basis", "wide", "at", "some", "kept", "column"]) (sc := defScope sWithout) (by decide +kernel))
          (fun _ _ _ _ _ => by exact pg_name (i := 3) scWithout.nd rfl (.inl rfl)) (fun _ _ _ _ _ => pts_nil)
          (fun _ _ _ _ _ => pe_ix (r := rIxL K) ix_list (pv 1) (pv 3) (fun _ _ => rfl))) pa_nil)))))), ?_⟩
    obtain ⟨aB, xsB, rfl, hLB, hSB⟩ := id hB
    refine ⟨_, rfl, aB, xsB, rfl, .inl (s0.seq hLB), _, rfl, by rw [hSB.1]; omega, by rw [hSB.1]; omega, ?_⟩
    refine for_range (lo := 0) (n := ((xsB.length : Int)).toNat) (fun i σ H' => ∃ A' ta tb y3 y4 Tn Bn, σ = [some ta, some tb, some (.int ((2 + n : Nat) : Int)), y3, y4, none, none] ∧ Fz H A H' A' ∧ Tbl K A' ta n (2 + n + n + 1) Tn ∧ Ints K A' tb n (fun i => (Bn i : Int)) ∧ Of1 n R g Tn Bn ∧ Feas n (2 + n + n) Tn ∧ (∀ k, k < n → 2 + n ≤ Bn k → Tn k (2 + n + n) = 0) ∧ ∀ k, k < i → k < n → Bn k < 2 + n)
      ⟨A, a, .ref aB, none, none, Tm, B, rfl, Fz.refl s0, hT, hB, o1, fs, h0, fun k hk => by omega⟩ ?_ ?_
    · rintro i σ H' hi ⟨A', ta, tb, y3, y4, Tn, Bn, rfl, fz, hTn, hBn, on, fn, zn, dn⟩
      have hin : i < n := by rw [hSB.1] at hi; omega
      rw [Int.zero_add]
      refine ⟨tb, rfl, .int (i : Int), rfl, ixL fz.sub hBn hin fun x ex => ?_⟩
      subst ex
      refine ⟨_, rfl, _, _, rfl, rfl, _, rfl, ite2 (fun e => ?_) (fun e => ?_)⟩
      · have hge : 2 + n ≤ Bn i := by
          have h : ((2 + n : Nat) : Int) ≤ (Bn i : Int) := of_decide_eq_true e
          omega
        -- some = [..]
        refine ⟨_, rfl, _, rfl, by omega, by omega, fun D hD => ?_⟩
        refine lc_range (lo := 0) (n := (((2 + n : Nat) : Int)).toNat) (fun c H2 => ∃ A2 ks, Fz H' A' H2 A2 ∧ A2 D = none ∧ H2 D = some (.lst (ks.map iV)) ∧ NzOk (Tn i) c ks) ⟨A', [], (Fz.refl fz.sub).laidM hD, fz.sub.free hD, upd_same, Nat.le_refl _, fun c hc => by omega, fun q r e => by cases e⟩ ?_ ?_
        · rintro c H2 hc ⟨A2, ks, f2, hAD, hHD, hnz⟩
          have hcn : c < 2 + n := by rw [Int.toNat_natCast] at hc; exact hc
          rw [Int.zero_add]
          refine ⟨rfl, ta, rfl, .int (i : Int), rfl, ixL f2.sub (tblUp hTn f2.ext) hin fun row hrow => ⟨.int (c : Int), rfl, ixL f2.sub hrow (show c < 2 + n + n + 1 by omega) fun y hy => ixTop f2.sub hy ⟨rfl, _, rfl, ?_⟩⟩⟩
          by_cases e0 : Tn i c = 0
          · refine ifF (by rw [e0]; rfl) ?_
            exact ⟨A2, ks, f2, hAD, hHD, hnz.no e0⟩
          · refine ifT (sz_num0.mpr e0) ?_
            refine ⟨_, rfl, ks.map iV, hHD, small1000 (by rw [List.length_map]; have := hnz.1; omega), A2, ks ++ [c], f2.put hAD hD, hAD, ?_, hnz.yes e0⟩
            rw [upd_same, List.map_append]; rfl
        · rintro H2 ⟨A2, ks, f2, hAD, hHD, hnz⟩
          rw [Int.toNat_natCast] at hnz
          have fx := f2.fix hHD hAD hD
          have hTa2 := tblUp hTn fx.ext
          have hTb2 := intsUp hBn fx.ext
          have fa := fz.trans fx
          have hsome : SqL K (upd A2 D (.lst (ks.map iV))) D (ks.map iV) := SqL.of upd_same
          refine ⟨.ref D, rfl, (by show 0 ≤ sizeLine; decide), fun D2 hD2 => ?_⟩
          have fb := fa.laidM (o := .lst []) hD2
          have hD2' : SqL K (upd H2 D2 (.lst [])) D2 [] := SqL.of upd_same
          refine ⟨.list (ks.map iD), .list [], .lst (fb.sub.seq hsome) (dpAll_map fun k _ => .int _), .lst hD2' .nil, shaped_list (by intro d hd; obtain ⟨k, _, rfl⟩ := List.mem_map.mp hd; exact flat_int _), shaped_list (fun d hd => by cases hd), _, rfl, ?_⟩
          rw [eqv_nil]
          obtain ⟨c0, hc0, hc1⟩ := row_some on.1 (fun z => (on.2 z).mpr) hin
          cases ks with
          | nil => exact absurd rfl (hnz.2.1 c0 hc0 hc1)
          | cons q r =>
            obtain ⟨hq1, hq2⟩ := hnz.2.2 q r rfl
            refine iteT ?_
            refine ⟨ta, rfl, .int (i : Int), rfl, .ref D, rfl, D, _, 0, iV q, rfl, rfl, fb.sub.seq hsome, atI_nat (j := 0) rfl, ?_⟩
            refine ⟨_, ta, n, 2 + n + n + 1, i, q, Tn, rfl, fb.sub, hTa2, hin, by omega, hq2, fun k hk j hj => of1_sz zs h1 h5 on k hk j (by omega), by omega, by omega, fun H4 A4 v4 f4 h4 => ?_⟩
            have fd' := fb.trans f4
            obtain ⟨aB', xsB', rfl, hLB', hSB'⟩ := id (intsUp hTb2 f4.ext)
            have hsome4 : SqL K A4 D (iV q :: r.map iV) := f4.ext.seq hsome
            refine ⟨.ref aB', rfl, .int (i : Int), rfl, _, rfl, aB', xsB', rfl, f4.sub.seq hLB', fun p1 hp1 => ?_⟩
            have g1 := fd'.laidM (o := .lst (cutV xsB' none (some (i : Int)))) hp1
            refine ⟨p1, _, rfl, .inr (SqL.of upd_same), .ref D, rfl, D, _, 0, iV q, rfl, rfl, g1.sub.seq hsome4, atI_nat (j := 0) rfl, ?_⟩
            refine ⟨.ref aB', rfl, .int (i : Int), rfl, _, _, rfl, rfl, _, rfl, aB', xsB', rfl, g1.sub.seq hLB', fun p2 hp2 => ?_⟩
            have g2 := g1.laidM (o := .lst (cutV xsB' (some ((i : Int) + 1)) none)) hp2
            refine ⟨p2, _, rfl, .inr (SqL.of upd_same), ?_⟩
            have hrl : i + 1 ≤ xsB'.length := by rw [hSB'.1]; omega
            rw [cut_pre (by omega), cut_post hrl] at *
            have hsq := put_sq (q := q) hSB' hin
            refine ⟨?_, fun p3 hp3 => ?_⟩
            · exact Nat.le_of_lt (small_lst hsq (by omega))
            · have g3 := g2.laid (o := .lst (xsB'.take i ++ (iV q :: (xsB'.drop (i + 1) ++ [])))) hp3
              have z0 := zn i hin hge
              refine ⟨_, v4, .ref p3, _, _, piv Tn i q, pib Bn i q, rfl, g3, tblUp h4 (same_new (g2.sub.free hp3)), ⟨p3, _, rfl, SqL.of upd_same, hsq⟩, ⟨pv_tab on.1 hin (by omega) hq2, fun z => (pv_null hin hq2 z).trans (on.2 z)⟩, fun k hk => by rw [piv_end z0]; exact fn k hk, fun k hk hb => ?_, fun k hk hkn => ?_⟩
              · rw [piv_end z0]
                unfold pib at hb
                by_cases ek : k = i
                · rw [if_pos ek] at hb; omega
                · rw [if_neg ek] at hb; exact zn k hk hb
              · unfold pib
                by_cases ek : k = i
                · rw [if_pos ek]; exact hq1
                · rw [if_neg ek]; exact dn k (by omega) hkn
      · have hlt : Bn i < 2 + n := by
          have : ¬ ((2 + n : Nat) : Int) ≤ (Bn i : Int) := fun h => e (decide_eq_true h)
          omega
        refine ⟨A', ta, tb, _, _, Tn, Bn, rfl, fz, hTn, hBn, on, fn, zn, fun k hk hkn => ?_⟩
        by_cases ek : k = i
        · subst ek; exact hlt
        · exact dn k (by omega) hkn
    · rintro σ H' ⟨A', ta, tb, y3, y4, Tn, Bn, rfl, fz, hTn, hBn, on, fn, zn, dn⟩
      rw [hSB.1, Int.toNat_natCast] at dn
      have hBl : ∀ k, k < n → Bn k < 2 + n := fun k hk => dn k hk hk
      obtain ⟨aB', xsB', rfl, hLB', hSB'⟩ := id hBn
      -- kept
      refine ⟨_, rfl, aB', xsB', rfl, .inl (fz.sub.seq hLB'), _, rfl, by rw [hSB'.1]; omega, by rw [hSB'.1]; omega, fun D hD => ?_⟩
      refine lc_range (lo := 0) (n := ((xsB'.length : Int)).toNat) (Bld H' A' D fun _ j x => x = .int (j : Int)) (Bld.start (Fz.refl fz.sub) hD) ?_ ?_
      · rintro j H2 hj ⟨A2, zs2, f2, hAD, hHD, hSq⟩
        have hjn : j < n := by rw [hSB'.1] at hj; omega
        rw [Int.zero_add]
        refine ⟨rfl, _, rfl, .int (j : Int), rfl, ixL f2.sub (intsUp hBn f2.ext) hjn fun x ex => ?_⟩
        subst ex
        refine ⟨_, rfl, _, _, rfl, rfl, _, rfl, ifT (decide_eq_true (by have := hBl j hjn; omega)) ⟨_, rfl, ?_⟩⟩
        exact Bld.more (P := fun _ j x => x = .int (j : Int)) (fun _ _ _ _ _ p => p) f2 hAD hHD hSq (Fz.refl f2.sub) hD (by omega) rfl
      · intro H2 hb2
        rw [hSB'.1, Int.toNat_natCast] at hb2
        obtain ⟨A2, f2, hK⟩ := Bld.done (K := K) (P := fun _ j x => x = .int (j : Int)) (fun _ _ _ _ _ p => p) hD hb2
        have fa := fz.trans f2
        have hT2 := tblUp hTn f2.ext
        have hB2 := intsUp hBn f2.ext
        obtain ⟨aK, xsK, eK, hLK, hSK⟩ := id hK
        cases eK
        -- the rows
        refine ⟨_, rfl, D, rfl, ⟨xsK, fa.sub.seq hLK⟩, fun D2 hD2 => ?_⟩
        refine lc_it (walk_list (xs := xsK)) (Bld H2 A2 D2 fun A' i x => Row K A' x (2 + n + 1) (cut0 n Tn i)) (Bld.start (Fz.refl fa.sub) hD2) (fun i H' _ ⟨A', zs, fz, _⟩ => (fa.sub.trans fz.kee).seq hLK) ?_ ?_
        · rintro i x H3 H4 hi ⟨A3, zs3, f3, hAD, hHD, hSq⟩ ⟨rfl, hx⟩
          have hin : i < n := by rw [← hSK.1]; exact hi
          obtain ⟨x', e', px⟩ := hSK.2 i hin
          obtain rfl : x' = x := Option.some.inj (e'.symm.trans hx)
          subst px
          have hT3 := tblUp hT2 f3.ext
          refine ⟨rfl, ta, rfl, .int (i : Int), rfl, ixL f3.sub hT3 hin fun row hrow => ?_⟩
          obtain ⟨aR, xsR, rfl, hLR, hSR⟩ := id hrow
          refine ⟨_, rfl, _, rfl, aR, xsR, rfl, f3.sub.seq hLR, fun p hp => ?_⟩
          have g1 := (Fz.refl f3.sub).laidM (o := .lst (cutV xsR none (some ((2 + n : Nat) : Int)))) hp
          refine ⟨ta, rfl, .int (i : Int), rfl, ixL g1.sub hT3 hin fun row2 hrow2 => ⟨_, rfl, ixEnd g1.sub hrow2 fun e he => ?_⟩⟩
          refine ⟨(by show 1 ≤ sizeLine; decide), fun p2 hp2 => ?_⟩
          have g2 := g1.laidM (o := .lst [e]) hp2
          have pp : p ≠ p2 := ne_of_none upd_same hp2
          refine ⟨p, p2, _, _, rfl, rfl, by rw [upd_ne pp]; exact upd_same, upd_same, ?_, fun p3 hp3 => ?_⟩
          · rw [cut_pre (by rw [hSR.1]; omega), List.length_take]; show _ + 1 ≤ sizeLine
            exact Nat.le_of_lt (small1000 (by omega))
          have g3 := g2.laid (o := .lst (cutV xsR none (some ((2 + n : Nat) : Int)) ++ [e])) hp3
          rw [cut_pre (by rw [hSR.1]; omega)] at g3 ⊢
          refine Bld.more (P := fun A' i x => Row K A' x (2 + n + 1) (cut0 n Tn i)) (fun _ _ _ _ s p => rowUp p s) f3 hAD hHD hSq g3 hD2 (by omega) (y := .ref p3) ⟨p3, _, rfl, SqL.of upd_same, ?_⟩
          have sn := same_new (o := .lst (xsR.take (2 + n) ++ [e])) (g2.sub.free hp3)
          refine Sq.app (hSR.take (show 2 + n ≤ 2 + n + n + 1 by omega)) (Sq.one (P := fun _ x => x = e) rfl) (fun j x hj p => ?_) (fun j x hj p => ?_)
          · unfold cut0; rw [if_pos hj]; exact p.up sn
          · unfold cut0; rw [if_neg (by omega)]; subst p; exact he.up sn
        · intro H3 hb3
          rw [hSK.1] at hb3
          obtain ⟨A3, f3, hT3⟩ := Bld.done (K := K) (P := fun A' i x => Row K A' x (2 + n + 1) (cut0 n Tn i)) (fun _ _ _ _ s p => rowUp p s) hD2 hb3
          have fb := fa.trans f3
          have hLK3 := f3.ext.seq hLK
          -- the basis
          refine ⟨_, rfl, D, rfl, ⟨xsK, fb.sub.seq hLK3⟩, fun D3 hD3 => ?_⟩
          refine lc_it (walk_list (xs := xsK)) (Bld H3 A3 D3 fun _ i x => x = .int (Bn i : Int)) (Bld.start (Fz.refl fb.sub) hD3) (fun i H' _ ⟨A', zs, fz, _⟩ => (fb.sub.trans fz.kee).seq hLK3) ?_ ?_
          · rintro i x H4 H5 hi ⟨A4, zs4, f4, hAD, hHD, hSq⟩ ⟨rfl, hx⟩
            have hin : i < n := by rw [← hSK.1]; exact hi
            obtain ⟨x', e', px⟩ := hSK.2 i hin
            obtain rfl : x' = x := Option.some.inj (e'.symm.trans hx)
            subst px
            refine ⟨rfl, _, rfl, .int (i : Int), rfl, ixL f4.sub (intsUp hB2 (f3.ext.trans f4.ext)) hin fun y py => ?_⟩
            exact Bld.more (P := fun _ i x => x = .int (Bn i : Int)) (fun _ _ _ _ _ p => p) f4 hAD hHD hSq (Fz.refl f4.sub) hD3 (by omega) py
          · intro H4 hb4
            rw [hSK.1] at hb4
            obtain ⟨A4, f4, hB4⟩ := Bld.done (K := K) (P := fun _ i x => x = .int (Bn i : Int)) (fun _ _ _ _ _ p => p) hD3 hb4
            have fc := fb.trans f4
            refine ⟨(by show 2 ≤ sizeLine; decide), fun p hp => ?_⟩
            have sn := same_new (o := .tup [.ref D2, .ref D3]) (fc.sub.free hp)
            exact q Tn Bn on fn hBl _ _ _ (fc.laid hp) ⟨p, _, _, rfl, SqT.of upd_same, tblUp hT3 (f4.ext.trans sn), intsUp hB4 sn⟩
end
end BW

namespace BW
open PySem PySem.Spec PyProof.Rows L2 StX
theorem Sq.bls {n : Nat} {f : Nat → Bool} {xs : List V} (h : Sq n (fun i x => x = .bl (f i)) xs) : xs = ((List.range n).map f).map V.bl := by
  refine List.ext_getElem? fun i => ?_
  by_cases e : i < n
  · obtain ⟨x, a, b⟩ := h.2 i e
    subst b
    rw [a, List.getElem?_map, List.getElem?_map, List.getElem?_range e]; rfl
  · rw [List.getElem?_eq_none (by rw [h.1]; omega), List.getElem?_eq_none (by simp; omega)]
theorem any_range {n : Nat} {f : Nat → Bool} : ((List.range n).map f).any id = true ↔ ∃ i, i < n ∧ f i = true := by
  simp [List.any_eq_true]
theorem sq_rg {a n : Nat} {f : Nat → Int} (h : ∀ i, i < n → f i = ((a + i : Nat) : Int)) : Sq n (fun i x => x = .int (f i)) (rgV (a : Int) ((a : Int) + (n : Int))) := by
  have e : ((a : Int) + (n : Int) - (a : Int)).toNat = n := by omega
  refine ⟨by rw [rgV_length, e], fun i hi => ⟨.int ((a : Int) + (i : Nat)), ?_, ?_⟩⟩
  · unfold rgV
    rw [e, List.getElem?_map, List.getElem?_range hi]; rfl
  · show V.int _ = V.int (f i)
    rw [h i hi, Int.natCast_add]
theorem sq_rep {P : Nat → V → Prop} {x : V} : ∀ {n : Nat}, (∀ i, i < n → P i x) → Sq n P (List.replicate n [x]).flatten := by
  intro n h
  have e : (List.replicate n [x]).flatten = List.replicate n x := by
    induction n with
    | zero => rfl
    | succ n ih => rw [List.replicate_succ, List.flatten_cons, ih fun i hi => h i (by omega), List.replicate_succ]; rfl
  rw [e]
  exact ⟨List.length_replicate, fun i hi => ⟨x, by rw [List.getElem?_replicate, if_pos hi], h i hi⟩⟩
section
variable {P : Program} {w : World} {K : PySem.W.Frag} {mg : Str → Option Value} {base : Heap}
def spFirst (K : PySem.W.Frag) : Sp := fun vs H Q _ => ∃ (A : Hp) (a b : V) (h : Nat) (R : Nat → Nat → Int) (g : Nat → Int), vs = [a, b] ∧ Same A H ∧ Tbl K A a h (2 + h) (wideM R) ∧ Row K A b h (fun i => ((g i : Int) : Rat)) ∧ Szs h R g ∧ 1 ≤ h ∧ h ≤ 5 ∧
  (NoSol h R g → Ret H A Q fun _ v => v = .non) ∧
  ∀ T' B', Tab h (2 + h) T' B' → Feas h (2 + h) T' → (∀ z, Null h (2 + h) T' z ↔ Null h (2 + h) (ref2 h R g) z) → Ret H A Q (TwoOk K h T' B')
theorem ok_first {f C : Addr} {fd : FuncData} (F : Fun K "first_phase" "first_phase" sFirst f fd) (T : Txt K mg) (hN : Has P w K mg base CX0 1 "negative" ["one"] (spNeg K)) (hB : Has P w K mg base (L2.CX P w) 7 "best_basis" ["table", "basis", "costs"] (spBB K C))
    (hW : Has P w K mg base CX0 7 "without_new" ["table", "basis", "wide"] (spWithout K)) : FnOk P w K mg base CX0 8 f fd ["rows", "goal"] (spFirst K) := by
  obtain ⟨fN, fdN, GN, gN, kN, bN⟩ := hN
  obtain ⟨fB, fdB, GB, gB, kB, bB⟩ := hB
  obtain ⟨fW, fdW, GW, gW, kW, bW⟩ := hW
  obtain ⟨zz, gz, tz⟩ := T.zero
  obtain ⟨zo, go, to⟩ := T.one
  refine F.ok scFirst (fun vs H Q E h => ?_) (fun cdv A₀ outer s H vs Q E hr h => ?_)
  · obtain ⟨A, a, b, n, R, g, rfl, _⟩ := h; rfl
  · obtain ⟨A, a, b, n, R, g, rfl, s0, hT, hG, zs, h1, h5, q0, q1⟩ := h
    have hr1 := hr.mono (show 1 ≤ 7 by decide)
    refine ⟨_, pss_cons (ps_asg (pe_tup (pa_cons (pe_callB call_len_seq (by rfl) T.len PySem.boot_len (pa_cons (pv 0) pa_nil)) (pa_cons (pe_callB call_len_seq (by rfl) T.len PySem.boot_len (pa_cons (pe_ix ix_list (pv 0) pe_int (fun _ _ => rfl)) pa_nil)) pa_nil)))
        (pg_tup rfl (pgs_cons (pg_name (i := 2) scFirst.nd rfl (.inl rfl)) (pgs_cons (pg_name (i := 3) scFirst.nd rfl (.inr rfl)) pgs_nil))))
      (pss_cons (ps_set (i := 4) scFirst.nd rfl (.inr rfl) (pe_lst pa_nil))
      (pss_cons (ps_for PassesOwn.never rfl (pi_ez knd_list (by rfl) T.enumerate (by rfl) T.zip (pa_cons (pv 0) (pa_cons (pv 1) pa_nil)))
        (pg_tup rfl (pgs_cons (pg_name (i := 5) scFirst.nd rfl (.inr rfl)) (pgs_cons (pg_tup rfl (pgs_cons (pg_name (i := 6) scFirst.nd rfl (.inl rfl)) (pgs_cons (pg_name (i := 7) scFirst.nd rfl (.inl rfl)) pgs_nil))) pgs_nil)))
        (pss_cons (ps_if (pt_cmpR op_lt (pe_ix ix_tup (pv 7) pe_int (fun _ _ => rfl)) pe_int (nomark _))
          (pss_one (ps_par (i := 6) (j := 7) rfl scFirst.nd rfl rfl (by decide) rfl rfl (pa_cons
            (pe_lc (own := [("one", 10)]) (g := gName 10) rfl scFirst.nd (pi_list (pv 6))
              (blkOk_by (own := [("one", 10)]) (N := ["rows", "goal", "high", "wide", "table", "at", "row", "part", "basis", "costs", "one", "place"]) (sc := defScope sFirst) (by decide +kernel))
              (fun _ _ _ _ _ => by exact pg_name (i := 10) scFirst.nd rfl (.inl rfl)) (fun _ _ _ _ _ => pts_nil)
              (fun _ _ _ _ _ => pe_call GN hr1 rfl gN kN bN .nil pass0 (pa_cons (pv 10) pa_nil)))
            (pa_cons (pe_call GN hr1 rfl gN kN bN .nil pass0 (pa_cons (pv 7) pa_nil)) pa_nil)) rfl))
          pss_nil)
        (pss_one (ps_expr (pe_bm PySem.F.plainAttrs_list PySem.F.slot_list_append PySem.F.type_list_append mt_append (pv 4) (pa_cons
          (pe_lst (pa_star (pv 6) (pa_star
            (pe_lc (own := [("place", 11)]) (g := gName 11) rfl scFirst.nd (pi_range1 rfl T.range (pa_cons (pv 2) pa_nil))
              (blkOk_by (own := [("place", 11)]) (N := ["rows", "goal", "high", "wide", "table", "at", "row", "part", "basis", "costs", "one", "place"]) (sc := defScope sFirst) (by decide +kernel))
              (fun _ _ _ _ _ => by exact pg_name (i := 11) scFirst.nd rfl (.inl rfl)) (fun _ _ _ _ _ => pts_nil)
              (fun _ _ _ _ _ => pe_ifExp (pt_cmpR op_eq (pv 5) (pv 11) (nomark _)) (pe_glob (v := .ref zo) rfl go rfl) (pe_glob (v := .ref zz) rfl gz rfl)))
            (pa_cons (pv 7) pa_nil)))) pa_nil))))))
      (pss_cons (ps_set (i := 8) scFirst.nd rfl (.inr rfl) (pe_listRg rfl rfl T.list (prg_2 rfl T.range (pv 3) (pe_op op_add (pv 3) (pv 2)))))
      (pss_cons (ps_set (i := 9) scFirst.nd rfl (.inl rfl) (pe_op op_cat (pe_op op_rep (pe_lst (pa_cons (pe_glob (v := .ref zz) rfl gz rfl) pa_nil)) (pv 3))
        (pe_op op_rep (pe_lst (pa_cons (pe_call GN hr1 rfl gN kN bN .nil pass0 (pa_cons (pe_glob (v := .ref zo) rfl go rfl) pa_nil)) pa_nil)) (pv 2))))
      (pss_cons (ps_asg (pe_call GB hr rfl gB kB bB .nil passL (pa_cons (pv 4) (pa_cons (pv 8) (pa_cons (pv 9) pa_nil))))
        (pg_tup rfl (pgs_cons (pg_name (i := 4) scFirst.nd rfl (.inr rfl)) (pgs_cons (pg_name (i := 8) scFirst.nd rfl (.inr rfl)) pgs_nil))))
      (pss_cons (ps_if (pt_val (pe_callB (cr_any rfl) (by rfl) T.any boot_any (pa_cons
          (pe_lc (own := [("at", 5)]) (g := gName 5) rfl scFirst.nd (pi_range1 rfl T.range (pa_cons (pe_callB call_len_seq (by rfl) T.len PySem.boot_len (pa_cons (pv 8) pa_nil)) pa_nil))
            (blkOk_by (own := [("at", 5)]) (N := ["rows", "goal", "high", "wide", "table", "at", "row", "part", "basis", "costs", "one", "place"]) (sc := defScope sFirst) (by decide +kernel))
            (fun _ _ _ _ _ => by exact pg_name (i := 5) scFirst.nd rfl (.inl rfl)) (fun _ _ _ _ _ => pts_nil)
            (fun _ _ _ _ _ => pe_and (pe_cmpR op_ge (pe_ix (r := rIxL K) ix_list (pv 8) (pv 5) (fun _ _ => rfl)) (pv 3) (nomark _))
              (pe_one (pe_cmpR op_ne (pe_ix (r := rIxT K) ix_tup (pe_ix (r := rIxL K) ix_list (pe_ix (r := rIxL K) ix_list (pv 4) (pv 5) (fun _ _ => rfl)) (pe_un un_neg pe_int) (fun _ _ => rfl)) pe_int (fun _ _ => rfl)) pe_int (nomark _))))) pa_nil)))
        (pss_one (ps_ret pe_non)) pss_nil)
      (pss_one (ps_ret (pe_call GW hr rfl gW kW bW .nil pass0 (pa_cons (pv 4) (pa_cons (pv 8) (pa_cons (pv 3) pa_nil)))))))))))), ?_⟩
    obtain ⟨aT, xsT, rfl, hLT, hST⟩ := id hT
    obtain ⟨aG, xsG, rfl, hLG, hSG⟩ := id hG
    have lT : xsT.length = n := hST.1
    have lG : xsG.length = n := hSG.1
    -- high, wide
    refine ⟨_, rfl, aT, xsT, rfl, .inl (s0.seq hLT), _, rfl, ixL (i := 0) s0 hT (by omega) fun row0 hrow0 => ?_⟩
    obtain ⟨aR0, xsR0, rfl, hLR0, hSR0⟩ := id hrow0
    refine ⟨aR0, xsR0, rfl, .inl (s0.seq hLR0), (by show 2 ≤ sizeLine; decide), fun p hp => ⟨p, _, rfl, SqT.of upd_same, rfl, _, _, rfl, _, _, rfl, rfl, ?_⟩⟩
    rw [lT, hSR0.1]
    have f1 := (Fz.refl s0).laidM (o := .tup [.int (n : Int), .int ((2 + n : Nat) : Int)]) hp
    generalize upd H p (.tup [.int (n : Int), .int ((2 + n : Nat) : Int)]) = H1 at f1 ⊢
    -- table = []
    refine ⟨(by show 0 ≤ sizeLine; decide), fun D hD => ?_⟩
    have s1 : Same A (upd H1 D (.lst [])) := f1.sub.trans (same_new hD)
    refine ⟨_, rfl, _, rfl, aT, aG, xsT, xsG, rfl, s1.seq hLT, s1.seq hLG, ?_⟩
    refine for_it (walk_ez (n := n) lT lG) (fun i σ H' => ∃ y5 y6 y7, σ = [some (.ref aT), some (.ref aG), some (.int (n : Int)), some (.int ((2 + n : Nat) : Int)), some (.ref D), y5, y6, y7, none, none, none, none] ∧ Bld H1 A D (fun A' i x => Row K A' x (2 + n + n + 1) (ref1 n R g i)) i H')
      ⟨none, none, none, rfl, Bld.start (Fz.refl f1.sub) hD⟩ (fun i σ H' _ ⟨_, _, _, _, A', zs, fz, _⟩ => ⟨(f1.sub.trans fz.kee).seq hLT, (f1.sub.trans fz.kee).seq hLG⟩) ?_ ?_
    · rintro i x σ H' H'' hi ⟨y5, y6, y7, rfl, A', zs, fz, hAD, hHD, hSq⟩ ⟨Tt, U, x1, x2, rfl, hU, hTn, hTU, rfl, ex1, ex2⟩
      obtain ⟨x1', e1, p1⟩ := hST.2 i hi
      obtain ⟨x2', e2, p2⟩ := hSG.2 i hi
      obtain rfl : x1' = x1 := Option.some.inj (e1.symm.trans ex1)
      obtain rfl : x2' = x2 := Option.some.inj (e2.symm.trans ex2)
      have hT' : (upd H' U (.tup [x1', x2'])) Tt = none := by rw [upd_ne hTU]; exact hTn
      have fU := ((Fz.refl fz.sub).laidM (o := .tup [x1', x2']) hU).laidM (o := .tup [.int (i : Nat), .ref U]) hT'
      refine ⟨Tt, _, rfl, SqT.of upd_same, rfl, _, _, rfl, _, _, rfl, ⟨U, _, rfl, SqT.of (by rw [upd_ne hTU.symm]; exact upd_same), rfl, _, _, rfl, _, _, rfl, rfl, rfl, ?_⟩⟩
      generalize upd (upd H' U (.tup [x1', x2'])) Tt (.tup [.int (i : Nat), .ref U]) = H2 at fU ⊢
      have q1' := rowUp p1 (fz.ext.trans fU.ext)
      have q2' := p2.up (fz.ext.trans fU.ext)
      refine seq_mid (fun σ H3 => ∃ rowv partv A3, σ = [some (.ref aT), some (.ref aG), some (.int (n : Int)), some (.int ((2 + n : Nat) : Int)), some (.ref D), some (.int (i : Nat)), some rowv, some partv, none, none, none, none] ∧ Fz H2 A' H3 A3 ∧ Row K A3 rowv (2 + n) (fun j => sg g i * wideM R i j) ∧ IsR K A3 partv (sg g i * ((g i : Int) : Rat))) ?_ ?_
      · rintro σ H3 ⟨rowv, partv, A3, rfl, f3, hrow, hpart⟩
        have fa := fU.trans f3
        have hHD1 := fa.kee _ _ hHD
        obtain ⟨aR, xsR, rfl, hLR, hSR⟩ := id hrow
        refine ⟨.ref D, rfl, .inl ⟨rfl, _, .inl (.inl hHD1)⟩, .ref aR, rfl, aR, xsR, rfl, .inr (f3.sub.seq hLR), _, rfl, _, rfl, by omega, by omega, fun D4 hD4 => ?_⟩
        refine lc_range (lo := 0) (n := ((n : Int)).toNat) (Bld H3 A3 D4 fun A' j x => IsR K A' x (if j = i then 1 else 0)) (Bld.start (Fz.refl f3.sub) hD4) ?_ ?_
        · rintro j H4 hj ⟨A4, zs4, f4, hAD4, hHD4, hSq4⟩
          refine ⟨rfl, .int (i : Nat), rfl, .int (0 + (j : Int)), rfl, rfl, _, rfl, ite2 (fun e => ?_) (fun e => ?_)⟩
          · have eij : j = i := by have := V.int.inj (of_decide_eq_true e); omega
            exact Bld.more (P := fun A' j x => IsR K A' x (if j = i then 1 else 0)) (fun _ _ _ _ s p => p.up s) f4 hAD4 hHD4 hSq4 (Fz.refl f4.sub) hD4 (by omega) ⟨zo, rfl, by rw [if_pos eij]; exact to _⟩
          · have eij : j ≠ i := fun h => e (decide_eq_true (by rw [h, Int.zero_add]))
            exact Bld.more (P := fun A' j x => IsR K A' x (if j = i then 1 else 0)) (fun _ _ _ _ s p => p.up s) f4 hAD4 hHD4 hSq4 (Fz.refl f4.sub) hD4 (by omega) ⟨zz, rfl, by rw [if_neg eij]; exact tz _⟩
        · intro H4 hb4
          rw [Int.toNat_natCast] at hb4
          obtain ⟨A4, xs4, f4, hA4, hs4⟩ := Bld.done2 (P := fun A' j x => IsR K A' x (if j = i then 1 else 0)) (fun _ _ _ _ s p => p.up s) hD4 hb4
          have hD4' : SqL K H4 D4 xs4 := SqL.of (f4.sub _ _ hA4)
          refine ⟨D4, xs4, rfl, .inr hD4', partv, rfl, ?_, fun p3 hp3 => ?_⟩
          · have l1 : xsR.length = 2 + n := hSR.1
            have l2 := hs4.1
            rw [List.length_append, List.length_append]
            exact Nat.le_of_lt (small1000 (by show xsR.length + (xs4.length + 1) ≤ 1000; omega))
          have f5 := (fa.trans f4).laid (o := .lst (xsR ++ (xs4 ++ [partv]))) hp3
          have sn := same_new (o := .lst (xsR ++ (xs4 ++ [partv]))) (f4.sub.free hp3)
          have sq : Sq (2 + n + (n + 1)) (fun j x => IsR K (upd A4 p3 (.lst (xsR ++ (xs4 ++ [partv])))) x (ref1 n R g i j)) (xsR ++ (xs4 ++ [partv])) := by
            refine Sq.app hSR (Sq.app (R := fun j x => IsR K (upd A4 p3 (.lst (xsR ++ (xs4 ++ [partv])))) x (ref1 n R g i (2 + n + j))) hs4 (Sq.one (P := fun _ x => x = partv) rfl) (fun j x hj p => ?_) (fun j x hj p => ?_)) (fun j x hj p => ?_) (fun j x hj p => p)
            · have e : ref1 n R g i (2 + n + j) = if j = i then 1 else 0 := by
                unfold ref1
                rw [if_neg (by omega), if_pos (by omega)]
                by_cases eji : j = i
                · rw [if_pos eji, if_pos (by omega)]
                · rw [if_neg eji, if_neg (by omega)]
              show IsR K _ x (ref1 n R g i (2 + n + j))
              rw [e]; exact p.up sn
            · have e : ref1 n R g i (2 + n + (n + j)) = sg g i * ((g i : Int) : Rat) := by
                unfold ref1; rw [if_neg (by omega), if_neg (by omega)]
              show IsR K _ x (ref1 n R g i (2 + n + (n + j)))
              rw [e]; subst p; exact hpart.up (f4.ext.trans sn)
            · have e : ref1 n R g i j = sg g i * wideM R i j := by
                unfold ref1
                rw [if_pos hj]
              rw [e]; exact p.up (f4.ext.trans sn)
          obtain ⟨acc, h1', h2', h3'⟩ := Bld.more (P := fun A' i x => Row K A' x (2 + n + n + 1) (ref1 n R g i)) (fun _ _ _ _ s p => rowUp p s) fz hAD hHD hSq f5 hD (by omega) (y := .ref p3) ⟨p3, _, rfl, SqL.of upd_same, sq⟩
          exact ⟨D, _, _, rfl, rfl, h1', h2', _, _, _, rfl, h3'⟩
      · intro N hN
        refine ⟨x2', rfl, ixTop fU.sub q2' ⟨_, _, rfl, rfl, _, rfl, ite2 (fun e => ?_) (fun e => ?_)⟩⟩
        · have hneg : g i < 0 := of_decide_eq_true e
          have es : sg g i = -1 := by unfold sg; rw [if_pos hneg]
          obtain ⟨aR, xsR, rfl, hLR, hSR⟩ := id q1'
          refine ⟨.ref aR, rfl, aR, rfl, ⟨xsR, fU.sub.seq hLR⟩, fun D2 hD2 => ?_⟩
          refine lc_it (walk_list (xs := xsR)) (Bld H2 A' D2 fun A' j x => IsR K A' x (sg g i * wideM R i j)) (Bld.start (Fz.refl fU.sub) hD2) (fun j H3 _ ⟨A', zs, fz, _⟩ => (fU.sub.trans fz.kee).seq hLR) ?_ ?_
          · rintro j x H3 H4 hj ⟨A3, zs3, f3, hAD3, hHD3, hSq3⟩ ⟨rfl, hx⟩
            have hjn : j < 2 + n := by rw [← hSR.1]; exact hj
            obtain ⟨x', e', px⟩ := hSR.2 j hjn
            obtain rfl : x' = x := Option.some.inj (e'.symm.trans hx)
            refine ⟨rfl, x', rfl, A3, x', _, rfl, f3.sub, px.up f3.ext, fun H5 A5 v5 f5 h5' => ?_⟩
            refine Bld.more (P := fun A' j x => IsR K A' x (sg g i * wideM R i j)) (fun _ _ _ _ s p => p.up s) f3 hAD3 hHD3 hSq3 f5 hD2 (by omega) ?_
            show IsR K A5 v5 (sg g i * wideM R i j)
            rw [es, show (-1 : Rat) * wideM R i j = - wideM R i j by grind]; exact h5'
          · intro H3 hb3
            rw [hSR.1] at hb3
            obtain ⟨A3, f3, hrow3⟩ := Bld.done (K := K) (P := fun A' j x => IsR K A' x (sg g i * wideM R i j)) (fun _ _ _ _ s p => p.up s) hD2 hb3
            refine ⟨x2', rfl, A3, x2', _, rfl, f3.sub, q2'.up f3.ext, fun H4 A4 v4 f4 h4 => ⟨_, _, rfl, hN _ _ ⟨_, v4, A4, rfl, f3.trans f4, rowUp hrow3 f4.ext, ?_⟩⟩⟩
            rw [es, show (-1 : Rat) * ((g i : Int) : Rat) = - ((g i : Int) : Rat) by grind]; exact h4
        · have hpos : ¬ g i < 0 := fun h => e (decide_eq_true h)
          have es : sg g i = 1 := by unfold sg; rw [if_neg hpos]
          refine hN _ _ ⟨_, _, A', rfl, Fz.refl fU.sub, q1'.up (Same.refl _) fun j x _ p => ?_, ?_⟩
          · show IsR K A' x (sg g i * wideM R i j)
            rw [es, Rat.one_mul]; exact p
          · rw [es, Rat.one_mul]; exact q2'
    · rintro σ H2 ⟨y5, y6, y7, rfl, hb⟩
      obtain ⟨A2, fz, hTab⟩ := Bld.done (K := K) (P := fun A' i x => Row K A' x (2 + n + n + 1) (ref1 n R g i)) (fun _ _ _ _ s p => rowUp p s) hD hb
      have fa := f1.trans fz
      -- basis
      refine ⟨_, rfl, _, rfl, _, rfl, _, _, rfl, rfl, _, _, rfl, rfl, RgOk.of_le (by omega) (by omega) (by omega) (by omega), fun p8 hp8 => ?_⟩
      have f8 := fa.laid (o := .lst (rgV ((2 + n : Nat) : Int) (((2 + n : Nat) : Int) + (n : Int)))) hp8
      have s8 := same_new (o := .lst (rgV ((2 + n : Nat) : Int) (((2 + n : Nat) : Int) + (n : Int)))) (fa.sub.free hp8)
      have hBas : Ints K (upd A2 p8 (.lst (rgV ((2 + n : Nat) : Int) (((2 + n : Nat) : Int) + (n : Int))))) (.ref p8) n (fun i => ((bas1 n i : Nat) : Int)) := ⟨p8, _, rfl, SqL.of upd_same, sq_rg fun i hi => rfl⟩
      have hTab8 := tblUp hTab s8
      generalize upd A2 p8 (.lst (rgV ((2 + n : Nat) : Int) (((2 + n : Nat) : Int) + (n : Int)))) = A8 at f8 s8 hBas hTab8
      generalize upd H2 p8 (.lst (rgV ((2 + n : Nat) : Int) (((2 + n : Nat) : Int) + (n : Int)))) = H8 at f8 ⊢
      -- costs
      refine ⟨(by show 1 ≤ sizeLine; decide), fun p1 hp1 => ?_⟩
      have g1 := f8.laidM (o := .lst [.ref zz]) hp1
      refine ⟨_, rfl, p1, _, _, rfl, rfl, upd_same, by omega, by omega, ?_, fun p2 hp2 => ?_⟩
      · rw [Int.toNat_natCast]; exact Nat.le_of_lt (small1000 (by show 1 * (2 + n) ≤ 1000; omega))
      rw [Int.toNat_natCast]
      have g2 := g1.laidM (o := .lst (List.replicate (2 + n) [V.ref zz]).flatten) hp2
      refine ⟨A8, .ref zo, 1, rfl, g2.sub, ⟨zo, rfl, to _⟩, fun H3 A3 v3 f3 h3 => ?_⟩
      have hp23 := f3.kee _ _ (show (upd _ p2 _) p2 = _ from upd_same)
      have g3 := g2.trans f3
      refine ⟨(by show 1 ≤ sizeLine; decide), fun p3 hp3 => ?_⟩
      have g4 := g3.laidM (o := .lst [v3]) hp3
      refine ⟨_, rfl, p3, _, _, rfl, rfl, upd_same, by omega, by omega, ?_, fun p4 hp4 => ?_⟩
      · rw [Int.toNat_natCast]; exact Nat.le_of_lt (small1000 (by show 1 * n ≤ 1000; omega))
      rw [Int.toNat_natCast]
      have g5 := g4.laidM (o := .lst (List.replicate n [v3]).flatten) hp4
      have q3 : p2 ≠ p3 := ne_of_none hp23 hp3
      have hp24 : (upd H3 p3 (.lst [v3])) p2 = some (.lst (List.replicate (2 + n) [V.ref zz]).flatten) := by rw [upd_ne q3]; exact hp23
      have q4 : p2 ≠ p4 := ne_of_none hp24 hp4
      have sq1 : Sq (2 + n) (fun j x => IsR K A3 x 0) (List.replicate (2 + n) [V.ref zz]).flatten := sq_rep fun _ _ => ⟨zz, rfl, tz _⟩
      have sq2 : Sq n (fun j x => IsR K A3 x (-1)) (List.replicate n [v3]).flatten := sq_rep fun _ _ => h3
      refine ⟨p2, p4, _, _, rfl, rfl, by rw [upd_ne q4]; exact hp24, upd_same, ?_, fun p5 hp5 => ?_⟩
      · rw [sq1.1, sq2.1]; exact Nat.le_of_lt (small1000 (by omega))
      have g6 := g5.laid (o := .lst ((List.replicate (2 + n) [V.ref zz]).flatten ++ (List.replicate n [v3]).flatten)) hp5
      have s6 := same_new (o := .lst ((List.replicate (2 + n) [V.ref zz]).flatten ++ (List.replicate n [v3]).flatten)) (g5.sub.free hp5)
      have hCst : Row K (upd A3 p5 (.lst ((List.replicate (2 + n) [V.ref zz]).flatten ++ (List.replicate n [v3]).flatten))) (.ref p5) (2 + n + n) (cost1 n) := ⟨p5, _, rfl, SqL.of upd_same, Sq.app sq1 sq2 (fun j x hj p => by
          unfold cost1; rw [if_pos hj]; exact p.up s6) (fun j x hj p => by
          unfold cost1; rw [if_neg (by omega)]; exact p.up s6)⟩
      have hTab6 := tblUp hTab8 (f3.ext.trans s6)
      have hBas6 := intsUp hBas (f3.ext.trans s6)
      generalize upd A3 p5 (.lst ((List.replicate (2 + n) [V.ref zz]).flatten ++ (List.replicate n [v3]).flatten)) = A6 at g6 hCst hTab6 hBas6 s6
      generalize upd _ p5 (.lst ((List.replicate (2 + n) [V.ref zz]).flatten ++ (List.replicate n [v3]).flatten)) = H6 at g6 ⊢
      have tab1 := tab_ref1 (h := n) (R := R) (g := g)
      -- best_basis
      refine ⟨.ref D, rfl, .ref p8, rfl, .ref p5, rfl, A6, _, _, _, n, 2 + n + n, ref1 n R g, bas1 n, cost1 n, rfl, g6.sub, hTab6, hBas6, hCst, tab1, feas_ref1, fun T' B' t' n' => sz_of tab1 (sz_sgw zs) h1 h5 t' n', fun j hj => ?_, by omega, by omega, fun T' B' be hg => ?_, fun T' B' q be hq hgq hle => ?_⟩
      · unfold cost1; split
        · exact Sz.zero (by decide)
        · exact (Sz.int (n := 10) (a := -1) (by decide) (by decide))
      · rintro H7 A7 v7 f7 ⟨p7, ta, tb, rfl, hTu, hTa, hTb⟩
        have f67 := g6.trans f7
        refine ⟨p7, _, rfl, sameT f7.sub hTu, rfl, _, _, rfl, _, _, rfl, rfl, ?_⟩
        obtain ⟨aB, xsB, rfl, hLB, hSB⟩ := id hTb
        refine ⟨_, rfl, aB, xsB, rfl, .inl (f7.sub.seq hLB), _, rfl, by rw [hSB.1]; omega, by rw [hSB.1]; omega, fun D9 hD9 => ?_⟩
        refine lc_range (lo := 0) (n := ((xsB.length : Int)).toNat) (Bld H7 A7 D9 fun _ j x => x = .bl (decide (2 + n ≤ B' j) && decide (T' j (2 + n + n) ≠ 0))) (Bld.start (Fz.refl f7.sub) hD9) ?_ ?_
        · rintro j H9 hj ⟨A9, zs9, f9, hAD9, hHD9, hSq9⟩
          have hjn : j < n := by rw [hSB.1] at hj; omega
          rw [Int.zero_add]
          refine ⟨rfl, _, rfl, .int (j : Int), rfl, ixL f9.sub (intsUp hTb f9.ext) hjn fun x ex => ?_⟩
          subst ex
          refine ⟨_, rfl, _, _, rfl, rfl, _, rfl, ite2 (fun e => ?_) (fun e => ?_)⟩
          · have hge : 2 + n ≤ B' j := by
              have h : ((2 + n : Nat) : Int) ≤ (B' j : Int) := of_decide_eq_true e
              omega
            refine ⟨ta, rfl, .int (j : Int), rfl, ixL f9.sub (tblUp hTa f9.ext) hjn fun row hrow => ⟨_, rfl, ixEnd f9.sub hrow fun y hy => ixTop f9.sub hy ⟨rfl, ?_⟩⟩⟩
            refine Bld.more (P := fun _ j x => x = .bl (decide (2 + n ≤ B' j) && decide (T' j (2 + n + n) ≠ 0))) (fun _ _ _ _ _ p => p) f9 hAD9 hHD9 hSq9 (Fz.refl f9.sub) hD9 (by omega) ?_
            show V.bl _ = V.bl _
            congr 1
            rw [decide_eq_true hge, Bool.true_and]
            by_cases z : T' j (2 + n + n) = 0
            · rw [z]; rfl
            · rw [decide_eq_true z]; exact sz_num0.mpr z
          · have hlt : ¬ 2 + n ≤ B' j := fun h => e (decide_eq_true (by show ((2 + n : Nat) : Int) ≤ (B' j : Int); omega))
            refine Bld.more (P := fun _ j x => x = .bl (decide (2 + n ≤ B' j) && decide (T' j (2 + n + n) ≠ 0))) (fun _ _ _ _ _ p => p) f9 hAD9 hHD9 hSq9 (Fz.refl f9.sub) hD9 (by omega) ?_
            show V.bl _ = V.bl _
            rw [decide_eq_false hlt, Bool.false_and]
        · intro H9 hb9
          rw [hSB.1, Int.toNat_natCast] at hb9
          obtain ⟨A9, xs9, f9, hA9, hs9⟩ := Bld.done2 (P := fun _ j x => x = .bl (decide (2 + n ≤ B' j) && decide (T' j (2 + n + n) ≠ 0))) (fun _ _ _ _ _ p => p) hD9 hb9
          have fb := f67.trans f9
          refine ⟨D9, _, rfl, SqL.of (by rw [← Sq.bls hs9]; exact f9.sub _ _ hA9), _, rfl, ite2 (fun e => ?_) (fun e => ?_)⟩
          · obtain ⟨i, hi, ei⟩ := any_range.mp e
            rw [Bool.and_eq_true] at ei
            exact q0 (none_ok be.1 be.2.1 be.2.2 hg hi (of_decide_eq_true ei.1) (of_decide_eq_true ei.2)) H9 A9 _ fb rfl
          · refine ⟨ta, rfl, _, rfl, _, rfl, A9, _, _, n, R, g, T', B', rfl, f9.sub, tblUp hTa f9.ext, intsUp hTb f9.ext, ⟨be.1, be.2.2⟩, be.2.1, zs, h1, h5, fun i hi hb => ?_, fun T2 B2 o2 fs2 hB2 => ?_⟩
            · refine Classical.byContradiction fun z => e (any_range.mpr ⟨i, hi, ?_⟩)
              rw [decide_eq_true hb, decide_eq_true z]; rfl
            · obtain ⟨c1, c2⟩ := cut_ok o2.1 o2.2 hB2
              refine (q1 (cut0 n T2) B2 c1 (fun i hi => ?_) c2).go fb
              unfold cut0; rw [if_neg (by omega)]; exact fs2 i hi
      · exact (bounded_of_neg be.1 hq hgq hle fun j hj => by unfold cost1; split <;> decide).elim
end
end BW

namespace BW
open PySem PySem.Spec PyProof.Rows L2 StX
abbrev sBestOf : Stmt := top 32
abbrev sBest : Stmt := top 36
theorem scBestOf : FnScope ["rows", "goal", "costs", "start", "table", "basis", "numbers", "at", "place"] ["rows", "goal", "costs"] (defScope sBestOf) := ⟨rfl, rfl, rfl, by decide +kernel, rfl, by decide +kernel, by decide +kernel⟩
theorem scBest : FnScope ["rows", "goal", "costs", "found", "part"] ["rows", "goal", "costs"] (defScope sBest) := ⟨rfl, rfl, rfl, by decide +kernel, rfl, by decide +kernel, by decide +kernel⟩

/-- the number at a place, of the first i rows -/
def nums (n : Nat) (T : Mat) (B : Nat → Nat) (i j : Nat) : Rat := sm i (fun k => if j = B k then T k n else 0)
theorem nums_set {m n : Nat} {T : Mat} {B : Nat → Nat} (t : Tab m n T B) {i j : Nat} (hi : i < m) : nums n T B (i + 1) j = if j = B i then T i n else nums n T B i j := by
  unfold nums
  rw [sm_succ]
  by_cases e : j = B i
  · rw [if_pos e, if_pos e, sm_nil]
    · grind
    · intro k hk
      show (if j = B k then T k n else 0) = 0
      rw [if_neg]
      intro h
      have := t.inj (by omega) hi (h.symm.trans e)
      omega
  · rw [if_neg e, if_neg e]; grind
theorem nums_sz {m n z : Nat} {T : Mat} {B : Nat → Nat} (t : Tab m n T B) (h : ∀ i, i < m → ∀ j, j ≤ n → Sz z (T i j)) (h1 : 1 ≤ z) : ∀ i, i ≤ m → ∀ j, Sz z (nums n T B i j) := by
  intro i
  induction i with
  | zero => exact fun _ j => Sz.zero h1
  | succ i ih =>
    intro hi j
    rw [nums_set t (by omega)]
    split
    · exact h i (by omega) n (Nat.le_refl _)
    · exact ih (by omega) j
theorem Sq.put {n j : Nat} {P P' : Nat → V → Prop} {xs : List V} {y : V} (h : Sq n P xs) (hj : j < n) (hy : P' j y) (ho : ∀ i x, i < n → i ≠ j → P i x → P' i x) : Sq n P' (xs.set j y) := by
  refine ⟨by rw [List.length_set]; exact h.1, fun i hi => ?_⟩
  by_cases e : i = j
  · subst e
    exact ⟨y, by rw [List.getElem?_set_self (by rw [h.1]; exact hi)], hy⟩
  · obtain ⟨x, a, b⟩ := h.2 i hi
    exact ⟨x, by rw [List.getElem?_set_ne (fun q => e q.symm)]; exact a, ho i x hi e b⟩
section
variable {P : Program} {w : World} {K : PySem.W.Frag} {mg : Str → Option Value} {base : Heap}
def spBestOf (K : PySem.W.Frag) (C : Addr) : Sp := fun vs H Q E => ∃ (A : Hp) (a b c : V) (h : Nat) (R : Nat → Nat → Int) (g : Nat → Int) (u w : Int), vs = [a, b, c] ∧ Same A H ∧ Tbl K A a h (2 + h) (wideM R) ∧ Row K A b h (fun i => ((g i : Int) : Rat)) ∧ Row K A c (2 + h) (cost2 u w) ∧
  Szs h R g ∧ u.natAbs ≤ 9 ∧ w.natAbs ≤ 9 ∧ 1 ≤ h ∧ h ≤ 5 ∧
  (NoSol h R g → Ret H A Q fun _ v => v = .non) ∧
  (∀ M, Opt h R g u w M → Sz 3000 M → Ret H A Q fun A' v => ∃ p x y, v = .ref p ∧ SqT K A' p [x, y] ∧ IsR K A' x M ∧ ∃ f, Row K A' y (2 + h) f) ∧
  (Unb h R g u w → ∀ H', Same H H' → E (.ref C) none H')
theorem ok_bestof {f C : Addr} {fd : FuncData} (F : Fun K "best_of" "best_of" sBestOf f fd) (T : Txt K mg) (hF : Has P w K mg base CX0 8 "first_phase" ["rows", "goal"] (spFirst K)) (hB : Has P w K mg base (L2.CX P w) 7 "best_basis" ["table", "basis", "costs"] (spBB K C))
    (hI : Has P w K mg base CX0 5 "inner" ["one", "other"] (spInner K)) : FnOk P w K mg base (L2.CX P w) 9 f fd ["rows", "goal", "costs"] (spBestOf K C) := by
  obtain ⟨fF, fdF, GF, gF, kF, bF⟩ := hF
  obtain ⟨fB, fdB, GB, gB, kB, bB⟩ := hB
  obtain ⟨fI, fdI, GI, gI, kI, bI⟩ := hI
  obtain ⟨zz, gz, tz⟩ := T.zero
  refine F.okX scBestOf (fun vs H Q E h => ?_) (fun cdv A₀ outer s H vs Q E hr h => ?_)
  · obtain ⟨A, a, b, c, n, R, g, u, w, rfl, _⟩ := h; rfl
  · obtain ⟨A, a, b, c, n, R, g, u, w, rfl, s0, hT, hG, hC, zs, hu, hw, h1, h5, q0, q1, qe⟩ := h
    refine ⟨_, pss_cons (ps_set (i := 3) scBestOf.nd rfl (.inl rfl) (pe_call GF hr rfl gF kF bF .nil pass0 (pa_cons (pv 0) (pa_cons (pv 1) pa_nil))))
      (pss_cons (ps_if (pt_cmpR op_isN (pv 3) pe_non (nomark _)) (pss_one (ps_ret pe_non)) pss_nil)
      (pss_cons (ps_asg (pe_call GB (hr.mono (by decide)) rfl gB kB bB .nil (passes_call (takes_of rfl rfl rfl rfl) fun _ _ _ _ h => h) (pa_cons (pe_ix ix_tup (pv 3) pe_int (fun _ _ => rfl)) (pa_cons (pe_ix ix_tup (pv 3) pe_int (fun _ _ => rfl)) (pa_cons (pv 2) pa_nil))))
        (pg_tup rfl (pgs_cons (pg_name (i := 4) scBestOf.nd rfl (.inl rfl)) (pgs_cons (pg_name (i := 5) scBestOf.nd rfl (.inl rfl)) pgs_nil))))
      (pss_cons (ps_set (i := 6) scBestOf.nd rfl (.inl rfl) (pe_op op_rep (pe_lst (pa_cons (pe_glob (v := .ref zz) rfl gz rfl) pa_nil)) (pe_callB call_len_seq (by rfl) T.len PySem.boot_len (pa_cons (pv 2) pa_nil))))
      (pss_cons (ps_for (passes_of rfl) rfl (pi_enum (by rfl) T.enumerate (pa_cons (pv 5) pa_nil)) (pg_tup rfl (pgs_cons (pg_name (i := 7) scBestOf.nd rfl (.inl rfl)) (pgs_cons (pg_name (i := 8) scBestOf.nd rfl (.inl rfl)) pgs_nil)))
        (pss_one (ps_asg (pe_ix ix_list (pe_ix ix_list (pv 4) (pv 7) (fun _ _ => rfl)) (pe_un un_neg pe_int) (fun _ _ => rfl)) (pg_sub (pv 6) (pv 8) set_list))))
      (pss_one (ps_ret (pe_tup (pa_cons (pe_call GI (hr.mono (by decide)) rfl gI kI bI .nil pass0 (pa_cons (pv 2) (pa_cons (pv 6) pa_nil))) (pa_cons (pv 6) pa_nil)))))))))  , ?_⟩
    refine ⟨_, rfl, _, rfl, A, _, _, n, R, g, rfl, s0, hT, hG, zs, h1, h5, fun ns H1 A1 v1 f1 e1 => ?_, fun T1 B1 tab1 fs1 nl1 H1 A1 v1 f1 h1' => ?_⟩
    · subst e1
      exact ⟨.non, rfl, rfl, _, rfl, iteT (q0 ns H1 A1 _ f1 rfl)⟩
    · obtain ⟨p1, ta, tb, rfl, hTu, hTa, hTb⟩ := h1'
      refine ⟨.ref p1, rfl, rfl, _, rfl, iteF ?_⟩
      have zT : ∀ T' B', Tab n (2 + n) T' B' → (∀ z, Null n (2 + n) T' z ↔ Null n (2 + n) T1 z) → ∀ i, i < n → ∀ j, j ≤ 2 + n → Sz 300 (T' i j) := fun T' B' t' n' => of2_sz zs h1 h5 t' fun z => (n' z).trans (nl1 z)
      have zC : ∀ j, Sz 10 (cost2 u w j) := fun j => by
        unfold cost2; split
        · exact Sz.int (by omega) (by decide)
        · split
          · exact Sz.int (by omega) (by decide)
          · exact Sz.zero (by decide)
      refine ⟨.ref p1, rfl, p1, _, 0, ta, rfl, rfl, sameT f1.sub hTu, atI_nat (j := 0) rfl, .ref p1, rfl, p1, _, 1, tb, rfl, rfl, sameT f1.sub hTu, atI_nat (j := 1) rfl, c, rfl, ?_⟩
      refine ⟨A1, ta, tb, c, n, 2 + n, T1, B1, cost2 u w, rfl, f1.sub, hTa, hTb, rowUp hC f1.ext, tab1, fs1, zT, fun j _ => zC j, by omega, by omega, fun T2 B2 be hg => ?_, fun T2 B2 q be hq hgq hle H2 s2 => ?_⟩
      · rintro H2 A2 v2 f2 ⟨p2, tc, td, rfl, hTu2, hTc, hTd⟩
        have fa := f1.trans f2
        have nl2 : ∀ z, Null n (2 + n) T2 z ↔ Null n (2 + n) (ref2 n R g) z := fun z => (be.2.2 z).trans (nl1 z)
        have op := opt_ok (u := u) (w := w) be.1 be.2.1 nl2 hg
        have zT2 := zT T2 B2 be.1 be.2.2
        refine ⟨p2, _, rfl, sameT f2.sub hTu2, rfl, _, _, rfl, _, _, rfl, rfl, ?_⟩
        -- numbers
        have hC2 := rowUp hC fa.ext
        obtain ⟨aC, xsC, rfl, hLC, hSC⟩ := id hC2
        refine ⟨(by show 1 ≤ sizeLine; decide), fun p3 hp3 => ?_⟩
        have g1 := fa.laidM (o := .lst [.ref zz]) hp3
        refine ⟨_, rfl, aC, xsC, rfl, .inl (g1.sub.seq hLC), p3, _, _, rfl, rfl, upd_same, by omega, by rw [hSC.1]; omega, ?_, fun p4 hp4 => ?_⟩
        · rw [Int.toNat_natCast, hSC.1]; exact Nat.le_of_lt (small1000 (by show 1 * (2 + n) ≤ 1000; omega))
        rw [Int.toNat_natCast, hSC.1]
        have fz4 := g1.laidM (o := .lst (List.replicate (2 + n) [V.ref zz]).flatten) hp4
        have sq0 : Sq (2 + n) (fun j x => IsR K A2 x (nums (2 + n) T2 B2 0 j)) (List.replicate (2 + n) [V.ref zz]).flatten := sq_rep fun _ _ => ⟨zz, rfl, tz _⟩
        have hA4 : A2 p4 = none := g1.sub.free hp4
        have hH4 : H p4 = none := g1.kee.free hp4
        have hH4' : (upd (upd H2 p3 (.lst [V.ref zz])) p4 (.lst (List.replicate (2 + n) [V.ref zz]).flatten)) p4 = some (.lst (List.replicate (2 + n) [V.ref zz]).flatten) := upd_same
        generalize upd (upd H2 p3 (.lst [V.ref zz])) p4 (.lst (List.replicate (2 + n) [V.ref zz]).flatten) = H4 at fz4 hH4' ⊢
        obtain ⟨aB, xsB, rfl, hLB, hSB⟩ := id hTd
        refine ⟨_, rfl, aB, xsB, rfl, fz4.sub.seq hLB, ?_⟩
        refine for_it (walk_enum (xs := xsB)) (fun i σ H' => ∃ xs y7 y8, σ = [some a, some b, some (.ref aC), some (.ref p1), some tc, some (.ref aB), some (.ref p4), y7, y8] ∧ Fz H A H' A2 ∧ H' p4 = some (.lst xs) ∧ Sq (2 + n) (fun j x => IsR K A2 x (nums (2 + n) T2 B2 i j)) xs)
          ⟨_, none, none, rfl, fz4, hH4', sq0⟩ (fun i σ H' _ ⟨_, _, _, _, fz, _⟩ => fz.sub.seq hLB) ?_ ?_
        · rintro i x σ H' H'' hi ⟨xs, y7, y8, rfl, fz, hHp, hSq⟩ hY
          have hin : i < n := by rw [← hSB.1]; exact hi
          obtain ⟨Tt, x2, rfl, hTt, rfl, px, fz'⟩ := enum_go hSB hin fz hY
          subst px
          refine ⟨Tt, [.int (i : Nat), .int (B2 i : Int)], rfl, SqT.of upd_same, rfl, .int (i : Nat), [.int (B2 i : Int)], rfl, .int (B2 i : Int), [], rfl, rfl, ?_⟩
          refine ⟨tc, rfl, .int (i : Int), rfl, ixL fz'.sub hTc hin fun row hrow => ⟨_, rfl, ixEnd fz'.sub hrow fun e he => ?_⟩⟩
          have hb : B2 i < 2 + n := be.1.lt i hin
          have pT : p4 ≠ Tt := ne_of_none hHp hTt
          refine ⟨_, rfl, _, rfl, p4, xs, (B2 i : Int), B2 i, rfl, rfl, by rw [upd_ne pT]; exact hHp, ?_, ?_⟩
          · unfold ixN; rw [hSq.1, if_pos (by omega), if_pos (by omega), Int.toNat_natCast]
          · refine ⟨_, _, _, rfl, fz'.put hA4 hH4, upd_same, hSq.put hb ?_ fun j x hj hne p => ?_⟩
            · rw [nums_set be.1 hin, if_pos rfl]; exact he
            · rw [nums_set be.1 hin, if_neg hne]; exact p
        · rintro σ H' ⟨xs, y7, y8, rfl, fz, hHp, hSq⟩
          rw [hSB.1] at hSq
          have fx := fz.fix hHp hA4 hH4
          have sx := same_new (o := .lst xs) hA4
          have hN : Row K (upd A2 p4 (.lst xs)) (.ref p4) (2 + n) (nums (2 + n) T2 B2 n) := ⟨p4, xs, rfl, SqL.of upd_same, hSq.mono fun j x _ p => p.up sx⟩
          refine ⟨_, rfl, _, rfl, upd A2 p4 (.lst xs), _, _, 2 + n, 10, 300, cost2 u w, nums (2 + n) T2 B2 n, rfl, fx.sub, rowUp hC2 sx, hN, fun j _ => zC j, fun j _ => nums_sz be.1 zT2 (by decide) n (Nat.le_refl _) j, by omega, by decide, fun H5 A5 v5 f5 h5' => ?_⟩
          refine ⟨_, rfl, (by show 2 ≤ sizeLine; decide), fun p6 hp6 => ?_⟩
          have fb := fx.trans f5
          have s6 := same_new (o := .tup [v5, .ref p4]) (fb.sub.free hp6)
          have e : sm (2 + n) (fun j => cost2 u w j * nums (2 + n) T2 B2 n j) = topv n (2 + n) (cost2 u w) T2 B2 := by
            rw [← bpt_val be.1]
            exact sm_congr fun j hj => by rw [bpt_low hj]; rfl
          have zM : Sz 3000 (topv n (2 + n) (cost2 u w) T2 B2) := by
            rw [← e]
            refine (sz_sm (z := 310) fun j _ => (zC j).mul (nums_sz be.1 zT2 (by decide) n (Nat.le_refl _) j)).mono ?_
            have := Nat.mul_le_mul_right (310 + 1) (show 2 + n ≤ 7 by omega)
            omega
          refine q1 _ op zM _ _ _ (fb.laid hp6) ⟨p6, _, _, rfl, SqT.of upd_same, ?_, _, rowUp hN (f5.ext.trans s6)⟩
          rw [← e]; exact h5'.up s6
      · exact qe (unb_ok (u := u) (w := w) be.1 be.2.1 (fun z => (be.2.2 z).trans (nl1 z)) hq hgq hle) H2 (f1.kee.trans s2)
end
end BW

namespace BW
open PySem PySem.Spec PyProof.Rows L2 StX
section
variable {P : Program} {w : World} {K : PySem.W.Frag} {mg : Str → Option Value} {base : Heap}
def spBest (K : PySem.W.Frag) (C : Addr) : Sp := fun vs H Q E => ∃ (A : Hp) (a b c : V) (h : Nat) (R : Nat → Nat → Int) (g : Nat → Int) (cs : Nat → Int), vs = [a, b, c] ∧ Same A H ∧ RowsT K A a h R ∧ IntsT K A b h g ∧ IntsT K A c 2 cs ∧
  Szs h R g ∧ (∀ j, j < 2 → (cs j).natAbs ≤ 9) ∧ 1 ≤ h ∧ h ≤ 5 ∧
  (NoSol h R g → Ret H A Q fun _ v => v = .non) ∧
  (∀ M, Opt h R g (cs 0) (cs 1) M → Sz 3000 M → Ret H A Q fun A' v => ∃ p x y, v = .ref p ∧ SqT K A' p [x, y] ∧ IsR K A' x M) ∧
  (Unb h R g (cs 0) (cs 1) → ∀ H', Same H H' → E (.ref C) none H')
theorem ok_best {f C : Addr} {fd : FuncData} (F : Fun K "best" "best" sBest f fd) (T : Txt K mg) (hN : Has P w K mg base CX0 3 "need_program" ["rows", "goal", "costs"] (spNeed K)) (hW : Has P w K mg base CX0 1 "wide_rows" ["rows"] (spWide K))
    (hB : Has P w K mg base (L2.CX P w) 9 "best_of" ["rows", "goal", "costs"] (spBestOf K C)) : FnOk P w K mg base (L2.CX P w) 10 f fd ["rows", "goal", "costs"] (spBest K C) := by
  obtain ⟨fN, fdN, GN, gN, kN, bN⟩ := hN
  obtain ⟨fW, fdW, GW, gW, kW, bW⟩ := hW
  obtain ⟨fB, fdB, GB, gB, kB, bB⟩ := hB
  obtain ⟨zz, gz, tz⟩ := T.zero
  refine F.okX scBest (fun vs H Q E h => ?_) (fun cdv A₀ outer s H vs Q E hr h => ?_)
  · obtain ⟨A, a, b, c, n, R, g, cs, rfl, _⟩ := h; rfl
  · obtain ⟨A, a, b, c, n, R, g, cs, rfl, s0, hR, hG, hC, zs, zC, h1, h5, q0, q1, qe⟩ := h
    refine ⟨_, pss_cons (ps_expr (pe_call GN (hr.mono (by decide)) rfl gN kN bN .nil pass0 (pa_cons (pv 0) (pa_cons (pv 1) (pa_cons (pv 2) pa_nil)))))
      (pss_cons (ps_set (i := 3) scBest.nd rfl (.inl rfl) (pe_call GB hr rfl gB kB bB .nil (passes_call (takes_of rfl rfl rfl rfl) fun _ _ _ _ h => h)
        (pa_cons (pe_call GW (hr.mono (by decide)) rfl gW kW bW .nil pass0 (pa_cons (pv 0) pa_nil))
        (pa_cons (pe_lc (own := [("part", 4)]) (g := gName 4) rfl scBest.nd (pi_tup (pv 1))
            (blkOk_by (own := [("part", 4)]) (N := ["rows", "goal", "costs", "found", "part"]) (sc := defScope sBest) (by decide +kernel))
            (fun _ _ _ _ _ => by exact pg_name (i := 4) scBest.nd rfl (.inl rfl)) (fun _ _ _ _ _ => pts_nil) (fun _ _ _ _ _ => pe_tup (pa_cons (pv 4) (pa_cons pe_int pa_nil))))
        (pa_cons (pe_op op_cat (pe_lc (own := [("part", 4)]) (g := gName 4) rfl scBest.nd (pi_tup (pv 2))
            (blkOk_by (own := [("part", 4)]) (N := ["rows", "goal", "costs", "found", "part"]) (sc := defScope sBest) (by decide +kernel))
            (fun _ _ _ _ _ => by exact pg_name (i := 4) scBest.nd rfl (.inl rfl)) (fun _ _ _ _ _ => pts_nil) (fun _ _ _ _ _ => pe_tup (pa_cons (pv 4) (pa_cons pe_int pa_nil))))
          (pe_op op_rep (pe_lst (pa_cons (pe_glob (v := .ref zz) rfl gz rfl) pa_nil)) (pe_callB call_len_seq (by rfl) T.len PySem.boot_len (pa_cons (pv 0) pa_nil)))) pa_nil)))))
      (pss_one (ps_ret (pe_ifExp (pt_cmpR op_notN (pv 3) pe_non (nomark _))
        (pe_tup (pa_cons (pe_ix ix_tup (pv 3) pe_int (fun _ _ => rfl)) (pa_cons (pe_tupleOf (by rfl) T.tuple (pe_slice sl_list (pe_ix ix_tup (pv 3) pe_int (fun _ _ => rfl)) po_none (po_some (pe_callB call_len_seq (by rfl) T.len PySem.boot_len (pa_cons (pv 2) pa_nil))))) pa_nil)))
        pe_non)))), ?_⟩
    have zR : ∀ i, i < n → ∀ j, j < 2 → (R i j).natAbs ≤ 1000 := fun i hi j hj => by
      obtain ⟨⟨x1, x2⟩, ⟨x3, x4⟩, x5, x6⟩ := zs i hi
      have : j = 0 ∨ j = 1 := by omega
      rcases this with e | e <;> subst e <;> omega
    refine ⟨_, rfl, _, rfl, _, rfl, A, a, b, c, n, R, g, cs, rfl, s0, hR, hG, hC, h1, by omega, zR, fun i hi => by have := zs i hi; omega, fun j hj => by have := zC j hj; omega, fun H1 A1 v1 f1 e1 => ?_⟩
    -- the rows
    refine ⟨_, rfl, A1, a, n, R, rfl, f1.sub, rowsTUp hR f1.ext, by omega, fun H2 A2 v2 f2 hT2 => ?_⟩
    have fa := f1.trans f2
    -- the goal
    obtain ⟨aG, xG, rfl, hLG, hSG⟩ := id (intsTUp hG fa.ext)
    refine ⟨_, rfl, aG, rfl, ⟨xG, sameT fa.sub hLG⟩, fun D3 hD3 => ?_⟩
    refine lc_it (walk_tup (xs := xG)) (Bld H2 A2 D3 fun A' j x => IsR K A' x ((g j : Int) : Rat)) (Bld.start (Fz.refl fa.sub) hD3) (fun j H' _ ⟨A', zs, fz, _⟩ => sameT (fa.sub.trans fz.kee) hLG) ?_ ?_
    · rintro j x H3 H4 hj ⟨A3, zs3, f3, hAD3, hHD3, hSq3⟩ ⟨rfl, hx⟩
      obtain ⟨x', e', px⟩ := hSG.2 j (by rw [← hSG.1]; exact hj)
      obtain rfl : x' = x := Option.some.inj (e'.symm.trans hx)
      subst px
      refine ⟨rfl, _, rfl, (by show 2 ≤ sizeLine; decide), fun p hp => ?_⟩
      have := hSG.1
      exact Bld.more (P := fun A' j x => IsR K A' x ((g j : Int) : Rat)) (fun _ _ _ _ s p => p.up s) f3 hAD3 hHD3 hSq3 ((Fz.refl f3.sub).laid hp) hD3 (by omega) (isr_int upd_same)
    · intro H3 hb3
      rw [hSG.1] at hb3
      obtain ⟨A3, f3, hG3⟩ := Bld.done (K := K) (P := fun A' j x => IsR K A' x ((g j : Int) : Rat)) (fun _ _ _ _ s p => p.up s) hD3 hb3
      have fb := fa.trans f3
      -- the costs
      obtain ⟨aC, xC, rfl, hLC, hSC⟩ := id (intsTUp hC fb.ext)
      refine ⟨_, rfl, aC, rfl, ⟨xC, sameT fb.sub hLC⟩, fun D4 hD4 => ?_⟩
      refine lc_it (walk_tup (xs := xC)) (Bld H3 A3 D4 fun A' j x => IsR K A' x ((cs j : Int) : Rat)) (Bld.start (Fz.refl fb.sub) hD4) (fun j H' _ ⟨A', zs, fz, _⟩ => sameT (fb.sub.trans fz.kee) hLC) ?_ ?_
      · rintro j x H4 H5 hj ⟨A4, zs4, f4, hAD4, hHD4, hSq4⟩ ⟨rfl, hx⟩
        obtain ⟨x', e', px⟩ := hSC.2 j (by rw [← hSC.1]; exact hj)
        obtain rfl : x' = x := Option.some.inj (e'.symm.trans hx)
        subst px
        refine ⟨rfl, _, rfl, (by show 2 ≤ sizeLine; decide), fun p hp => ?_⟩
        have := hSC.1
        exact Bld.more (P := fun A' j x => IsR K A' x ((cs j : Int) : Rat)) (fun _ _ _ _ s p => p.up s) f4 hAD4 hHD4 hSq4 ((Fz.refl f4.sub).laid hp) hD4 (by omega) (isr_int upd_same)
      · intro H4 hb4
        rw [hSC.1] at hb4
        obtain ⟨A4, xs4, f4, hA4, hs4⟩ := Bld.done2 (P := fun A' j x => IsR K A' x ((cs j : Int) : Rat)) (fun _ _ _ _ s p => p.up s) hD4 hb4
        have fc := fb.trans f4
        have hH4 := f4.sub _ _ hA4
        obtain ⟨aR, xR, rfl, hLR, hSR⟩ := id (rowsTUp hR fc.ext)
        refine ⟨(by show 1 ≤ sizeLine; decide), fun p5 hp5 => ?_⟩
        have g5 := fc.laidM (o := .lst [.ref zz]) hp5
        refine ⟨_, rfl, aR, xR, rfl, .inr (sameT g5.sub hLR), p5, _, _, rfl, rfl, upd_same, by omega, by rw [hSR.1]; omega, ?_, fun p6 hp6 => ?_⟩
        · rw [Int.toNat_natCast, hSR.1]; exact Nat.le_of_lt (small1000 (by show 1 * n ≤ 1000; omega))
        rw [Int.toNat_natCast, hSR.1]
        have g6 := g5.laidM (o := .lst (List.replicate n [V.ref zz]).flatten) hp6
        have q5 : D4 ≠ p5 := ne_of_none hH4 hp5
        have hH5 : (upd H4 p5 (.lst [.ref zz])) D4 = some (.lst xs4) := by rw [upd_ne q5]; exact hH4
        have q6 : D4 ≠ p6 := ne_of_none hH5 hp6
        have sq2 : Sq n (fun j x => IsR K A4 x 0) (List.replicate n [V.ref zz]).flatten := sq_rep fun _ _ => ⟨zz, rfl, tz _⟩
        refine ⟨D4, p6, xs4, _, rfl, rfl, by rw [upd_ne q6]; exact hH5, upd_same, ?_, fun p7 hp7 => ?_⟩
        · rw [hs4.1, sq2.1]; exact Nat.le_of_lt (small1000 (by omega))
        have g7 := g6.laid (o := .lst (xs4 ++ (List.replicate n [V.ref zz]).flatten)) hp7
        have s7 := same_new (o := .lst (xs4 ++ (List.replicate n [V.ref zz]).flatten)) (g6.sub.free hp7)
        have hCst : Row K (upd A4 p7 (.lst (xs4 ++ (List.replicate n [V.ref zz]).flatten))) (.ref p7) (2 + n) (cost2 (cs 0) (cs 1)) := ⟨p7, _, rfl, SqL.of upd_same, Sq.app hs4 sq2 (fun j x hj p => by
            have e : cost2 (cs 0) (cs 1) j = ((cs j : Int) : Rat) := by
              have : j = 0 ∨ j = 1 := by omega
              unfold cost2
              rcases this with e | e <;> subst e
              · rw [if_pos rfl]
              · rw [if_neg (by omega), if_pos rfl]
            rw [e]; exact p.up s7) (fun j x hj p => by
            have e : cost2 (cs 0) (cs 1) (2 + j) = 0 := by
              unfold cost2; rw [if_neg (by omega), if_neg (by omega)]
            rw [e]; exact p.up s7)⟩
        refine ⟨_, _, _, _, n, R, g, cs 0, cs 1, rfl, g7.sub, tblUp hT2 (f3.ext.trans (f4.ext.trans s7)), rowUp hG3 (f4.ext.trans s7), hCst, zs, zC 0 (by decide), zC 1 (by decide), h1, h5, fun ns H8 A8 v8 f8 e8 => ?_, fun M op zM H8 A8 v8 f8 h8 => ?_, fun un H8 s8 => ?_⟩
        · subst e8
          exact ⟨.non, rfl, rfl, _, rfl, iteF (q0 ns H8 A8 _ (g7.trans f8) rfl)⟩
        · obtain ⟨p8, x, y, rfl, hTu, hx, ff, hy⟩ := h8
          have f78 := g7.trans f8
          obtain ⟨aY, xY, rfl, hLY, hSY⟩ := id hy
          refine ⟨.ref p8, rfl, rfl, _, rfl, iteT ?_⟩
          refine ⟨.ref p8, rfl, p8, _, 0, x, rfl, rfl, sameT f8.sub hTu, atI_nat (j := 0) rfl, ?_⟩
          refine ⟨.ref p8, rfl, p8, _, 1, _, rfl, rfl, sameT f8.sub hTu, atI_nat (j := 1) rfl, _, rfl, aC, xC, rfl, .inr (sameT f8.sub (sameT (f4.ext.trans (s7.trans f8.ext)) hLC)), _, rfl, aY, xY, rfl, f8.sub.seq hLY, fun p9 hp9 => ?_⟩
          have g9 := f78.laidM (o := .lst (cutV xY none (some (xC.length : Int)))) hp9
          refine .inl ⟨p9, _, rfl, SqL.of upd_same, fun p10 hp10 => ?_⟩
          have g10 := g9.laidM (o := .tup (cutV xY none (some (xC.length : Int)))) hp10
          refine ⟨(by show 2 ≤ sizeLine; decide), fun p11 hp11 => ?_⟩
          have s11 := same_new (o := .tup [x, .ref p10]) (g10.sub.free hp11)
          exact q1 M op zM _ _ _ (g10.laid hp11) ⟨p11, _, _, rfl, SqT.of upd_same, hx.up s11⟩
        · exact qe un H8 (g7.kee.trans s8)
end
end BW

namespace BW
open PySem PySem.Spec PyProof.Rows L2 StX
abbrev sTaken : Stmt := top 38
abbrev sPick : Stmt := top 39
abbrev sSigned : Stmt := top 40
abbrev sGcd : Stmt := top 41
abbrev sLowest : Stmt := top 42
abbrev sLawLess : Stmt := top 43
theorem scTaken : FnScope ["_law_row", "_law_many", "_law_found", "_law_cell"] ["_law_row", "_law_many"] (defScope sTaken) := ⟨rfl, rfl, rfl, by decide +kernel, rfl, by decide +kernel, by decide +kernel⟩
theorem scPick : FnScope ["_law_row", "_law_things"] ["_law_row", "_law_things"] (defScope sPick) := ⟨rfl, rfl, rfl, by decide +kernel, rfl, by decide +kernel, by decide +kernel⟩
theorem scSigned : FnScope ["_law_row", "_law_most"] ["_law_row", "_law_most"] (defScope sSigned) := ⟨rfl, rfl, rfl, by decide +kernel, rfl, by decide +kernel, by decide +kernel⟩
theorem scGcd : FnScope ["_law_one", "_law_other"] ["_law_one", "_law_other"] (defScope sGcd) := ⟨rfl, rfl, rfl, by decide +kernel, rfl, by decide +kernel, by decide +kernel⟩
theorem scLowest : FnScope ["_law_numerator", "_law_denominator", "_law_common"] ["_law_numerator", "_law_denominator"] (defScope sLowest) := ⟨rfl, rfl, rfl, by decide +kernel, rfl, by decide +kernel, by decide +kernel⟩
theorem scLawLess : FnScope ["_law_one", "_law_other"] ["_law_one", "_law_other"] (defScope sLawLess) := ⟨rfl, rfl, rfl, by decide +kernel, rfl, by decide +kernel, by decide +kernel⟩

/-! ### the row of draws: a list that changes -/
/-- the heap is the same off r -/
def Off (r : Addr) (H H' : Hp) : Prop := ∀ b, b ≠ r → H' b = H b
theorem Off.refl (r : Addr) (H : Hp) : Off r H H := fun _ _ => rfl
theorem Off.trans {r : Addr} {H H1 H2 : Hp} (a : Off r H H1) (b : Off r H1 H2) : Off r H H2 := fun x h => (b x h).trans (a x h)
theorem Off.put {r : Addr} {H H' : Hp} {o : HO} (a : Off r H H') : Off r H (upd H' r o) := fun x h => (upd_ne h).trans (a x h)
theorem Off.same {r : Addr} {A H H' : Hp} (a : Off r H H') (s : Same A H) (n : A r = none) : Same A H' := fun b x e => by
  rw [a b (ne_of_none e n)]; exact s b x e
theorem Fz.off' {H0 A0 H A H' : Hp} {r : Addr} (f : Fz H0 A0 H A) (o : Off r H H') (n : A r = none) (n0 : H0 r = none) : Fz H0 A0 H' A :=
  ⟨o.same f.sub n, f.ext, o.same f.kee n0, f.new⟩
structure RowAt (K : PySem.W.Frag) (A H : Hp) (r sc : Addr) (ns : List Int) : Prop where
  no : A r = none
  sq : SqL K A sc (ns.map V.int)
  at_ : ∃ i s c : Int, 0 ≤ i ∧ 0 ≤ s ∧ s < 2147483647 ∧ H r = some (.lst [.ref sc, .int i, .int s, .int c])
theorem RowAt.up {K : PySem.W.Frag} {A A' H H' : Hp} {r sc : Addr} {ns : List Int} (x : RowAt K A H r sc ns) (f : Fz H A H' A') : RowAt K A' H' r sc ns := by
  obtain ⟨i, s, c, h1, h2, h3, h4⟩ := x.at_
  exact ⟨f.off h4 x.no, f.ext.seq x.sq, i, s, c, h1, h2, h3, f.kee _ _ h4⟩

section
variable {P : Program} {w : World} {K : PySem.W.Frag} {mg : Str → Option Value} {base : Heap}
def spTaken (K : PySem.W.Frag) : Sp := fun vs H Q _ => ∃ (A : Hp) (r sc : Addr) (ns : List Int) (m : Int), vs = [.ref r, .int m] ∧ Same A H ∧ RowAt K A H r sc ns ∧ 0 < m ∧ m ≤ 1000 ∧ ∀ (x : Int) (H' : Hp), 0 ≤ x → x < m → Off r H H' → RowAt K A H' r sc ns → Q (.int x) H'
theorem ok_taken {f : Addr} {fd : FuncData} (F : Fun K "_law_taken" "_law_taken" sTaken f fd) (T : Txt K mg) : FnOk P w K mg base CX0 1 f fd ["_law_row", "_law_many"] (spTaken K) := by
  refine F.ok scTaken (fun vs H Q E h => ?_) (fun cdv A₀ outer s H vs Q E hr h => ?_)
  · obtain ⟨A, r, sc, ns, m, rfl, _⟩ := h; rfl
  · obtain ⟨A, r, sc, ns, m, rfl, s0, ro, m0, m1, q⟩ := h
    refine ⟨_, pss_cons (ps_if (pt_cmpR op_gt (pe_ix ix_list (pv 0) pe_int (fun _ _ => rfl)) pe_int (nomark _))
        (pss_cons (ps_set (i := 2) scTaken.nd rfl (.inl rfl) (pe_op op_mod (pe_callTy call_int1 (by rfl) T.int (by decide +kernel) (pa_cons (pe_ix ix_list (pv 0) pe_int (fun _ _ => rfl)) pa_nil)) (pv 1)))
        (pss_cons (ps_asg (pe_op op_fdivA (pe_ix ix_list (pv 0) pe_int (fun _ _ => rfl)) (pv 1)) (pg_sub (pv 0) pe_int set_list))
        (pss_one (ps_ret (pv 2))))) pss_nil)
      (pss_cons (ps_asg (pe_op op_add (pe_ix ix_list (pv 0) pe_int (fun _ _ => rfl)) pe_int) (pg_sub (pv 0) pe_int set_list))
      (pss_cons (ps_if (pt_cmpR op_gt (pe_ix ix_list (pv 0) pe_int (fun _ _ => rfl)) (pe_callB call_len_seq (by rfl) T.len PySem.boot_len (pa_cons (pe_ix ix_list (pv 0) pe_int (fun _ _ => rfl)) pa_nil)) (nomark _))
        (pss_cons (ps_asg (pe_op op_mod (pe_callTy call_int1 (by rfl) T.int (by decide +kernel) (pa_cons (pe_op op_add (pe_op op_mulW (pe_ix ix_list (pv 0) pe_int (fun _ _ => rfl)) pe_int) pe_int) pa_nil)) pe_int) (pg_sub (pv 0) pe_int set_list))
        (pss_one (ps_ret (pe_op op_mod (pe_callTy call_int1 (by rfl) T.int (by decide +kernel) (pa_cons (pe_op op_fdivA (pe_ix ix_list (pv 0) pe_int (fun _ _ => rfl)) pe_int) pa_nil)) (pv 1))))) pss_nil)
      (pss_cons (ps_set (i := 3) scTaken.nd rfl (.inl rfl) (pe_ix ix_list (pe_ix ix_list (pv 0) pe_int (fun _ _ => rfl)) (pe_op op_sub (pe_ix ix_list (pv 0) pe_int (fun _ _ => rfl)) pe_int) (fun _ _ => rfl)))
      (pss_cons (ps_asg (pe_op op_mod (pe_callTy call_int1 (by rfl) T.int (by decide +kernel) (pa_cons (pe_op op_add (pe_op op_add (pe_op op_mulW (pe_ix ix_list (pv 0) pe_int (fun _ _ => rfl)) pe_int) (pv 3)) pe_int) pa_nil)) pe_int) (pg_sub (pv 0) pe_int set_list))
      (pss_cons (ps_if (pt_cmpR op_ge (pv 3) (pe_op op_pow pe_int pe_int) (nomark _)) (pss_one (ps_asg (pe_op op_fdivA (pv 3) (pv 1)) (pg_sub (pv 0) pe_int set_list))) pss_nil)
      (pss_one (ps_ret (pe_op op_mod (pe_callTy call_int1 (by rfl) T.int (by decide +kernel) (pa_cons (pv 3) pa_nil)) (pv 1))))))))), ?_⟩
    obtain ⟨i, se, c, i0, se0, se1, hr'⟩ := ro.at_
    have md : ∀ z : Int, 0 ≤ z % m ∧ z % m < m := fun z => ⟨Int.emod_nonneg z (by omega), Int.emod_lt_of_pos z m0⟩
    have md2 : ∀ z : Int, 0 ≤ z % 2147483647 ∧ z % 2147483647 < 2147483647 := fun z => ⟨Int.emod_nonneg z (by decide), Int.emod_lt_of_pos z (by decide)⟩
    have mA : m ≠ 0 ∧ m.natAbs < 2 ^ 9000 := ⟨by omega, Nat.lt_of_lt_of_le (show m.natAbs < 2 ^ 10 by omega) (pow_mono (by decide))⟩
    refine ⟨.ref r, rfl, r, _, 3, _, rfl, rfl, SqL.of hr', atI_nat (j := 3) rfl, _, _, rfl, rfl, _, rfl, ite2 (fun e => ?_) (fun e => ?_)⟩
    · refine ⟨.ref r, rfl, r, _, 3, _, rfl, rfl, SqL.of hr', atI_nat (j := 3) rfl, .inl ⟨_, rfl, .int m, rfl, _, _, rfl, rfl, m0, ?_⟩⟩
      refine ⟨.ref r, rfl, r, _, 3, _, rfl, rfl, SqL.of hr', atI_nat (j := 3) rfl, .int m, rfl, _, _, rfl, rfl, mA, .ref r, rfl, r, _, _, 3, rfl, rfl, hr', rfl, ?_⟩
      exact ⟨_, rfl, q _ _ (md c).1 (md c).2 (Off.refl r H).put ⟨ro.no, ro.sq, i, se, _, i0, se0, se1, upd_same⟩⟩
    · refine ⟨.ref r, rfl, r, _, 1, _, rfl, rfl, SqL.of hr', atI_nat (j := 1) rfl, _, _, rfl, rfl, .ref r, rfl, r, _, _, 1, rfl, rfl, hr', rfl, ?_⟩
      have o1 : Off r H (upd H r (.lst [.ref sc, .int (i + 1), .int se, .int c])) := (Off.refl r H).put
      have hr1 : (upd H r (.lst [.ref sc, .int (i + 1), .int se, .int c])) r = some (.lst [.ref sc, .int (i + 1), .int se, .int c]) := upd_same
      show tSeq _ _ _ _ (upd H r (.lst [.ref sc, .int (i + 1), .int se, .int c]))
      generalize upd H r (.lst [.ref sc, .int (i + 1), .int se, .int c]) = H1 at o1 hr1 ⊢
      have s1 := o1.same s0 ro.no
      refine ⟨.ref r, rfl, r, _, 1, _, rfl, rfl, SqL.of hr1, atI_nat (j := 1) rfl, .ref r, rfl, r, _, 0, _, rfl, rfl, SqL.of hr1, atI_nat (j := 0) rfl, sc, _, rfl, .inl (s1.seq ro.sq), _, _, rfl, rfl, _, rfl, ite2 (fun e2 => ?_) (fun e2 => ?_)⟩
      · refine ⟨.ref r, rfl, r, _, 2, _, rfl, rfl, SqL.of hr1, atI_nat (j := 2) rfl, _, _, rfl, rfl, mulW (n := 31) (m := 16) (by omega) (by decide), _, _, rfl, rfl, .inl ⟨_, rfl, _, _, rfl, rfl, (by show (0 : Int) < 2147483647; decide), .ref r, rfl, r, _, _, 2, rfl, rfl, hr1, rfl, ?_⟩⟩
        have z := md2 (se * 48271 + 11)
        refine ⟨.ref r, rfl, r, _, 2, _, rfl, rfl, SqL.of upd_same, atI_nat (j := 2) rfl, _, _, rfl, rfl, ⟨by decide, by show (7 : Int).natAbs < 2 ^ 9000; exact Nat.lt_of_lt_of_le (show 7 < 2 ^ 3 by decide) (pow_mono (by decide))⟩, .inl ⟨_, rfl, .int m, rfl, _, _, rfl, rfl, m0, ?_⟩⟩
        exact q _ _ (md _).1 (md _).2 o1.put ⟨ro.no, ro.sq, i + 1, _, c, by omega, z.1, z.2, upd_same⟩
      · have hlt : i + 1 ≤ ((ns.map V.int).length : Int) := by
          have : ¬ ((ns.map V.int).length : Int) < i + 1 := fun h => e2 (decide_eq_true h)
          omega
        rw [List.length_map] at hlt
        obtain ⟨k, rfl⟩ : ∃ k : Nat, i = (k : Int) := ⟨i.toNat, by omega⟩
        have hk : k < ns.length := by omega
        have hat : (ns.map V.int)[k]? = some (.int ns[k]) := by rw [List.getElem?_map, List.getElem?_eq_getElem hk]; rfl
        generalize ns[k] = cell at hat
        refine ⟨.ref r, rfl, r, _, 0, _, rfl, rfl, SqL.of hr1, atI_nat (j := 0) rfl, .ref r, rfl, r, _, 1, _, rfl, rfl, SqL.of hr1, atI_nat (j := 1) rfl, _, _, rfl, rfl, sc, _, _, .int cell, rfl, rfl, s1.seq ro.sq, ?_, ?_⟩
        · rw [show (k : Int) + 1 - 1 = (k : Int) by omega]; exact atI_nat hat
        refine ⟨.ref r, rfl, r, _, 2, _, rfl, rfl, SqL.of hr1, atI_nat (j := 2) rfl, _, _, rfl, rfl, mulW (n := 31) (m := 16) (by omega) (by decide), .int cell, rfl, _, _, rfl, rfl, _, _, rfl, rfl, .inl ⟨_, rfl, _, _, rfl, rfl, (by show (0 : Int) < 2147483647; decide), .ref r, rfl, r, _, _, 2, rfl, rfl, hr1, rfl, ?_⟩⟩
        have z := md2 (se * 48271 + cell + 11)
        refine ⟨.int cell, rfl, _, _, rfl, rfl, ⟨by decide, by decide, by decide⟩, _, _, rfl, rfl, _, rfl, ite2 (fun e3 => ?_) (fun e3 => ?_)⟩
        · refine ⟨.int cell, rfl, .int m, rfl, _, _, rfl, rfl, mA, .ref r, rfl, r, _, _, 3, rfl, rfl, upd_same, rfl, ?_⟩
          refine ⟨.int cell, rfl, .inl ⟨_, rfl, .int m, rfl, _, _, rfl, rfl, m0, ?_⟩⟩
          exact q _ _ (md _).1 (md _).2 o1.put.put ⟨ro.no, ro.sq, _, _, _, by omega, z.1, z.2, upd_same⟩
        · refine ⟨.int cell, rfl, .inl ⟨_, rfl, .int m, rfl, _, _, rfl, rfl, m0, ?_⟩⟩
          exact q _ _ (md _).1 (md _).2 o1.put ⟨ro.no, ro.sq, _, _, _, by omega, z.1, z.2, upd_same⟩
/-! ### pick, signed -/
def spPick (K : PySem.W.Frag) : Sp := fun vs H Q _ => ∃ (A : Hp) (r sc : Addr) (ns : List Int) (v : V) (n : Nat) (X : Nat → V → Prop), vs = [.ref r, v] ∧ Same A H ∧ RowAt K A H r sc ns ∧ Ls K A v n X ∧ 1 ≤ n ∧ n ≤ 1000 ∧ ∀ (x : V) (i : Nat) (H' : Hp), i < n → X i x → Off r H H' → RowAt K A H' r sc ns → Q x H'
theorem ok_pick {f : Addr} {fd : FuncData} (F : Fun K "_law_pick" "_law_pick" sPick f fd) (T : Txt K mg) (hT : Has P w K mg base CX0 1 "_law_taken" ["_law_row", "_law_many"] (spTaken K)) : FnOk P w K mg base CX0 2 f fd ["_law_row", "_law_things"] (spPick K) := by
  obtain ⟨fT, fdT, GT, gT, kT, bT⟩ := hT
  refine F.ok scPick (fun vs H Q E h => ?_) (fun cdv A₀ outer s H vs Q E hr h => ?_)
  · obtain ⟨A, r, sc, ns, v, n, X, rfl, _⟩ := h; rfl
  · obtain ⟨A, r, sc, ns, v, n, X, rfl, s0, ro, hL, h1, h2, q⟩ := h
    refine ⟨_, pss_one (ps_ret (pe_ix ix_list (pv 1) (pe_call GT hr rfl gT kT bT .nil pass0 (pa_cons (pv 0) (pa_cons (pe_callB call_len_seq (by rfl) T.len PySem.boot_len (pa_cons (pv 1) pa_nil)) pa_nil))) (fun _ _ => rfl))), ?_⟩
    obtain ⟨a, xs, rfl, hA, hS⟩ := id hL
    refine ⟨.ref a, rfl, .ref r, rfl, .ref a, rfl, a, xs, rfl, .inl (s0.seq hA), A, r, sc, ns, _, rfl, s0, ro, by rw [hS.1]; omega, by rw [hS.1]; omega, fun x H' x0 x1 off ro' => ?_⟩
    obtain ⟨k, rfl⟩ : ∃ k : Nat, x = (k : Int) := ⟨x.toNat, by omega⟩
    rw [hS.1] at x1
    exact ixL (off.same s0 ro.no) hL (by omega) fun y py => q y k H' (by omega) py off ro'
def spSigned (K : PySem.W.Frag) : Sp := fun vs H Q _ => ∃ (A : Hp) (r sc : Addr) (ns : List Int) (m : Int), vs = [.ref r, .int m] ∧ Same A H ∧ RowAt K A H r sc ns ∧ 0 ≤ m ∧ m ≤ 100 ∧ ∀ (x : Int) (H' : Hp), -m ≤ x → x ≤ m → Off r H H' → RowAt K A H' r sc ns → Q (.int x) H'
theorem ok_signed {f : Addr} {fd : FuncData} (F : Fun K "_law_signed" "_law_signed" sSigned f fd) (T : Txt K mg) (hT : Has P w K mg base CX0 1 "_law_taken" ["_law_row", "_law_many"] (spTaken K)) : FnOk P w K mg base CX0 2 f fd ["_law_row", "_law_most"] (spSigned K) := by
  obtain ⟨fT, fdT, GT, gT, kT, bT⟩ := hT
  refine F.ok scSigned (fun vs H Q E h => ?_) (fun cdv A₀ outer s H vs Q E hr h => ?_)
  · obtain ⟨A, r, sc, ns, m, rfl, _⟩ := h; rfl
  · obtain ⟨A, r, sc, ns, m, rfl, s0, ro, m0, m1, q⟩ := h
    refine ⟨_, pss_one (ps_ret (pe_op op_sub (pe_call GT hr rfl gT kT bT .nil pass0 (pa_cons (pv 0) (pa_cons (pe_op op_add (pe_op op_mulW pe_int (pv 1)) pe_int) pa_nil))) (pv 1))), ?_⟩
    refine ⟨.ref r, rfl, .int m, rfl, _, _, rfl, rfl, mulW (n := 8) (m := 8) (by decide) (by omega), _, _, rfl, rfl, A, r, sc, ns, _, rfl, s0, ro, by omega, by omega, fun x H' x0 x1 off ro' => ?_⟩
    exact ⟨.int m, rfl, _, _, rfl, rfl, q _ H' (by omega) (by omega) off ro'⟩
/-! ### gcd, lowest, less -/
def spGcd : Sp := fun vs H Q _ => ∃ x y : Nat, vs = [.int (x : Int), .int (y : Int)] ∧ Q (.int (Nat.gcd x y : Nat)) H
theorem ok_gcd {f : Addr} {fd : FuncData} (F : Fun K "_law_gcd" "_law_gcd" sGcd f fd) (T : Txt K mg) : FnOk P w K mg base CX0 1 f fd ["_law_one", "_law_other"] spGcd := by
  refine F.ok scGcd (fun vs H Q E h => ?_) (fun cdv A outer s H vs Q E hr h => ?_)
  · obtain ⟨a, b, rfl, _⟩ := h; rfl
  · obtain ⟨a, b, rfl, q⟩ := h
    refine ⟨_, pss_cons (ps_while PassesOwn.never (pt_cmpR op_ne (pv 1) pe_int (nomark _))
        (pss_one (ps_par (i := 0) (j := 1) rfl scGcd.nd rfl rfl (by decide) rfl rfl (pa_cons (pv 1) (pa_cons (pe_op op_mod (pe_callTy call_int1 (by rfl) T.int (by decide +kernel) (pa_cons (pv 0) pa_nil)) (pv 1)) pa_nil)) rfl)))
      (pss_one (ps_ret (pv 0))), ?_⟩
    refine ⟨fun m σ H' => ∃ x y : Nat, σ = [some (.int (x : Int)), some (.int (y : Int))] ∧ m = y ∧ Nat.gcd x y = Nat.gcd a b ∧ H' = H,
      ⟨b, a, b, rfl, rfl, rfl, rfl⟩, ?_⟩
    rintro m σ H' ⟨x, y, rfl, rfl, eg, rfl⟩
    refine ⟨.int (m : Int), rfl, rfl, _, rfl, ?_⟩
    by_cases hy : m = 0
    · subst hy
      refine iteF ?_
      refine ⟨.int (x : Int), rfl, ?_⟩
      rw [Nat.gcd_zero_right] at eg
      rw [eg]; exact q
    · have hd : (!decide (V.int (m : Int) = V.int 0)) = true := by
        rw [decide_eq_false (fun e => hy (by have := V.int.inj e; omega))]; rfl
      refine ifT hd ?_
      refine ⟨fun σ' H'' => ∃ x y : Nat, σ' = [some (.int (x : Int)), some (.int (y : Int))] ∧ y < m ∧ Nat.gcd x y = Nat.gcd a b ∧ H'' = H',
        fun σ' H'' ⟨x, y, e1, e2, e3, e4⟩ => ⟨y, e2, x, y, e1, rfl, e3, e4⟩, ?_⟩
      refine ⟨.int (m : Int), rfl, .int (x : Int), rfl, .inl ⟨_, rfl, .int (m : Int), rfl, _, _, rfl, rfl, (by show (0 : Int) < m; omega), _, _, rfl, ?_⟩⟩
      refine ⟨m, x % m, ?_, Nat.mod_lt _ (by omega), ?_, rfl⟩
      · rw [show ((x % m : Nat) : Int) = (x : Int) % (m : Int) from Int.natCast_emod x m]; rfl
      · rw [← eg, Nat.gcd_comm x m]; exact (Nat.gcd_rec m x ▸ (Nat.gcd_comm _ _))
def spLowest (K : PySem.W.Frag) : Sp := fun vs H Q _ => ∃ (A : Hp) (t b : Int), vs = [.int t, .int b] ∧ Same A H ∧ 0 < b ∧ b.natAbs < 2 ^ 8900 ∧ Ret H A Q fun A' v => IsR K A' v (Rat.divInt t b)
theorem ok_lowest {f : Addr} {fd : FuncData} (F : Fun K "_law_lowest" "_law_lowest" sLowest f fd) (T : Txt K mg) (hS : Has P w K mg base CX0 1 "_law_gcd" ["_law_one", "_law_other"] spGcd) : FnOk P w K mg base CX0 2 f fd ["_law_numerator", "_law_denominator"] (spLowest K) := by
  obtain ⟨fS, fdS, GS, gS, kS, bS⟩ := hS
  refine F.ok scLowest (fun vs H Q E h => ?_) (fun cdv A₀ outer s H vs Q E hr h => ?_)
  · obtain ⟨A, a, b, rfl, _⟩ := h; rfl
  · obtain ⟨A, t, b, rfl, s0, hb, hbz, q⟩ := h
    refine ⟨_, pss_cons (ps_set (i := 2) scLowest.nd rfl (.inl rfl) (pe_call GS hr rfl gS kS bS .nil pass0 (pa_cons (pe_callB call_abs (by rfl) T.abs boot_abs (pa_cons (pv 0) pa_nil)) (pa_cons (pv 1) pa_nil))))
      (pss_one (ps_ret (pe_tup (pa_cons (pe_op op_fdivA (pv 0) (pv 2)) (pa_cons (pe_op op_fdivA (pv 1) (pv 2)) pa_nil))))), ?_⟩
    have ea : ∀ z : Int, (if z < 0 then -z else z) = ((z.natAbs : Nat) : Int) := fun z => by split <;> omega
    refine ⟨.int t, rfl, t, rfl, .int b, rfl, t.natAbs, b.natAbs, ?_, ?_⟩
    · rw [ea]
      show [V.int _, V.int b] = [V.int _, V.int _]
      rw [show ((b.natAbs : Nat) : Int) = b by omega]
    have eg : Nat.gcd t.natAbs b.natAbs = Int.gcd t b := rfl
    rw [eg]
    have gp : 0 < Int.gcd t b := by
      have := Int.gcd_ne_zero_right (a := t) (b := b) (by omega)
      omega
    have gl : Int.gcd t b ≤ b.natAbs := Nat.le_of_dvd (by omega) (Int.gcd_dvd_natAbs_right t b)
    have dt : (Int.gcd t b : Int) ∣ t := Int.gcd_dvd_left t b
    have db : (Int.gcd t b : Int) ∣ b := Int.gcd_dvd_right t b
    have gs : (Int.gcd t b : Int) ≠ 0 ∧ (Int.gcd t b : Int).natAbs < 2 ^ 9000 := ⟨by omega, by
      have h2 : (2 : Nat) ^ 8900 ≤ 2 ^ 9000 := pow_mono (by decide)
      rw [Int.natAbs_natCast]
      exact Nat.lt_of_le_of_lt gl (Nat.lt_of_lt_of_le hbz h2)⟩
    refine ⟨.int t, rfl, _, rfl, t, (Int.gcd t b : Int), rfl, rfl, gs, .int b, rfl, _, rfl, b, (Int.gcd t b : Int), rfl, rfl, gs, (by show 2 ≤ sizeLine; decide), fun p hp => ?_⟩
    refine q _ _ _ ((Fz.refl s0).laid hp) ⟨p, rfl, ?_⟩
    have e4 : (Rat.divInt t b).num = t.fdiv (Int.gcd t b : Int) := by rw [divInt_num hb, Int.fdiv_eq_ediv_of_dvd dt]
    have e5 : ((Rat.divInt t b).den : Int) = b.fdiv (Int.gcd t b : Int) := by rw [divInt_den hb, Int.fdiv_eq_ediv_of_dvd db]
    rw [e4, e5]
    exact SqT.of upd_same
theorem ok_lawless {f : Addr} {fd : FuncData} (F : Fun K "_law_less" "_law_less" sLawLess f fd) : FnOk P w K mg base CX0 1 f fd ["_law_one", "_law_other"] (spLess K) := by
  refine F.ok scLawLess (fun vs H Q E h => ?_) (fun cdv A₀ outer s H vs Q E hr h => ?_)
  · obtain ⟨A, a, b, x, y, rfl, _⟩ := h; rfl
  · obtain ⟨A, a, b, x, y, rfl, s0, hx, hy, ⟨zx, zy⟩, q⟩ := h
    refine ⟨_, (pss_one (ps_ret (pe_cmpR op_lt (pe_op op_mulW (pe_ix ix_tup (pv 0) pe_int (fun _ _ => rfl)) (pe_ix ix_tup (pv 1) pe_int (fun _ _ => rfl))) (pe_op op_mulW (pe_ix ix_tup (pv 1) pe_int (fun _ _ => rfl)) (pe_ix ix_tup (pv 0) pe_int (fun _ _ => rfl))) (nomark _)))), ?_⟩
    refine ⟨a, rfl, ixTop s0 hx ⟨b, rfl, ixBot s0 hy ⟨_, _, rfl, rfl, mulW zx.1 zy.dn, ?_⟩⟩⟩
    refine ⟨b, rfl, ixTop s0 hy ⟨a, rfl, ixBot s0 hx ⟨_, _, rfl, rfl, mulW zy.1 zx.dn, ?_⟩⟩⟩
    refine ⟨_, _, rfl, rfl, ?_⟩
    have e : decide (x < y) = decide (x.num * y.den < y.num * x.den) := decide_eq_decide.mpr lt_cross
    rw [e] at q
    exact q
end
end BW

namespace BW
open PySem PySem.Spec PyProof.Rows L2 StX

/-! ### plain: how the corners are found -/
section
variable {n : Nat} {a b c : Nat → Int}
def Bd3 (v : Int × Int × Int) : Prop := v.1.natAbs ≤ 80000 ∧ v.2.1.natAbs ≤ 80000 ∧ v.2.2.natAbs ≤ 80000
theorem mul_bd {p q : Int} (hp : p.natAbs ≤ 200) (hq : q.natAbs ≤ 200) : (p * q).natAbs ≤ 40000 := by
  rw [Int.natAbs_mul]; exact Nat.mul_le_mul hp hq
theorem crn_bd {i j : Nat} (hi : (a i).natAbs ≤ 200 ∧ (b i).natAbs ≤ 200 ∧ (c i).natAbs ≤ 200) (hj : (a j).natAbs ≤ 200 ∧ (b j).natAbs ≤ 200 ∧ (c j).natAbs ≤ 200) : Bd3 (crn a b c i j) := by
  have m1 := mul_bd hi.2.2 hj.2.1
  have m2 := mul_bd hj.2.2 hi.2.1
  have m3 := mul_bd hi.1 hj.2.2
  have m4 := mul_bd hj.1 hi.2.2
  have m5 := mul_bd hi.1 hj.2.1
  have m6 := mul_bd hi.2.1 hj.1
  unfold crn Bd3
  split
  · refine ⟨?_, ?_, ?_⟩
    · show (c i * b j - c j * b i).natAbs ≤ 80000; omega
    · show (a i * c j - a j * c i).natAbs ≤ 80000; omega
    · show (a i * b j - b i * a j).natAbs ≤ 80000; omega
  · refine ⟨?_, ?_, ?_⟩
    · show (0 - (c i * b j - c j * b i)).natAbs ≤ 80000; omega
    · show (0 - (a i * c j - a j * c i)).natAbs ≤ 80000; omega
    · show (0 - (a i * b j - b i * a j)).natAbs ≤ 80000; omega
structure Crn2 (n : Nat) (a b c : Nat → Int) (j i : Nat) (C : List (Int × Int × Int)) : Prop where
  pos : ∀ v ∈ C, 0 < v.2.2
  inn : ∀ v ∈ C, InT n a b c v
  bd : ∀ v ∈ C, Bd3 v
  len : C.length ≤ 10 * j + i
  full : ∀ j' i', i' < j' → (j' < j ∨ j' = j ∧ i' < i) → a i' * b j' - b i' * a j' ≠ 0 → InT n a b c (crn a b c i' j') → crn a b c i' j' ∈ C
theorem Crn2.start : Crn2 n a b c 0 0 [] := ⟨fun v h => (by cases h), fun v h => (by cases h), fun v h => (by cases h), Nat.zero_le _, fun j' i' h1 h2 => by omega⟩
theorem Crn2.turn {j : Nat} {C} (x : Crn2 n a b c j j C) (hj : j ≤ 10) : Crn2 n a b c (j + 1) 0 C := ⟨x.pos, x.inn, x.bd, by have := x.len; omega, fun j' i' h1 h2 => x.full j' i' h1 (by omega)⟩
theorem Crn2.skip {j i : Nat} {C} (x : Crn2 n a b c j i C) (h : a i * b j - b i * a j ≠ 0 → ¬ InT n a b c (crn a b c i j)) : Crn2 n a b c j (i + 1) C := by
  refine ⟨x.pos, x.inn, x.bd, by have := x.len; omega, fun j' i' h1 h2 d t => ?_⟩
  by_cases e : j' = j ∧ i' = i
  · obtain ⟨rfl, rfl⟩ := e
    exact absurd t (h d)
  · exact x.full j' i' h1 (by omega) d t
theorem Crn2.add {j i : Nat} {C} (x : Crn2 n a b c j i C) (d : a i * b j - b i * a j ≠ 0) (t : InT n a b c (crn a b c i j)) (z : Bd3 (crn a b c i j)) : Crn2 n a b c j (i + 1) (C ++ [crn a b c i j]) := by
  have m : ∀ v, v ∈ C ++ [crn a b c i j] → v ∈ C ∨ v = crn a b c i j := fun v h => by simpa using h
  refine ⟨fun v h => ?_, fun v h => ?_, fun v h => ?_, by have := x.len; simp; omega, fun j' i' h1 h2 d' t' => ?_⟩
  · rcases m v h with h | rfl
    · exact x.pos v h
    · exact crn_pos d
  · rcases m v h with h | rfl
    · exact x.inn v h
    · exact t
  · rcases m v h with h | rfl
    · exact x.bd v h
    · exact z
  · by_cases e : j' = j ∧ i' = i
    · obtain ⟨rfl, rfl⟩ := e
      simp
    · exact List.mem_append_left _ (x.full j' i' h1 (by omega) d' t')
theorem Crn2.done {C} (x : Crn2 n a b c n 0 C) : Crns n a b c C := ⟨x.pos, x.inn, fun j hj i hi d t => x.full j i hi (.inl hj) d t⟩
/-- the sides that a point breaks, among the first k -/
def Viol (a b c : Nat → Int) (v : Int × Int × Int) (k : Nat) (L : List (Int × Int × Int)) : Prop := L.length ≤ k ∧ (L = [] ↔ InT k a b c v)
theorem Viol.start {v} : Viol a b c v 0 [] := ⟨Nat.le_refl _, fun _ i hi => by omega, fun _ => rfl⟩
theorem Viol.no {v} {k : Nat} {L} (x : Viol a b c v k L) (h : a k * v.1 + b k * v.2.1 ≤ c k * v.2.2) : Viol a b c v (k + 1) L := by
  refine ⟨by have := x.1; omega, fun e i hi => ?_, fun t => x.2.mpr fun i hi => t i (by omega)⟩
  by_cases q : i = k
  · subst q; exact h
  · exact x.2.mp e i (by omega)
theorem Viol.yes {v y} {k : Nat} {L} (x : Viol a b c v k L) (h : c k * v.2.2 < a k * v.1 + b k * v.2.1) : Viol a b c v (k + 1) (L ++ [y]) := by
  refine ⟨by have := x.1; simp; omega, fun e => by simp at e, fun t => ?_⟩
  have := t k (by omega)
  omega
end
/-- below the far sides -/
def nearB (v : Int × Int × Int) : Bool := decide (v.1 < 200 * v.2.2) && decide (v.2.1 < 200 * v.2.2)
theorem nearB_iff {v : Int × Int × Int} : nearB v = true ↔ nearQ v := by
  unfold nearB nearQ; rw [Bool.and_eq_true, decide_eq_true_eq, decide_eq_true_eq]
theorem filter_all {α : Type} {p : α → Bool} : ∀ {l : List α}, (l.filter p).length = l.length → ∀ x ∈ l, p x = true
  | [], _, x, h => by cases h
  | a :: l, e, x, h => by
    by_cases q : p a = true
    · rw [List.filter_cons_of_pos q, List.length_cons, List.length_cons] at e
      rcases List.mem_cons.mp h with rfl | rest
      · exact q
      · exact filter_all (by omega) x rest
    · rw [List.filter_cons_of_neg q, List.length_cons] at e
      have few := List.length_filter_le p l
      omega
theorem val_eq {u w : Int} {v : Int × Int × Int} : val u w v = Rat.divInt (u * v.1 + w * v.2.1) v.2.2 := by
  rw [Rat.divInt_eq_div, Rat.intCast_add, Rat.intCast_mul, Rat.intCast_mul]
  unfold val px py
  rw [Rat.div_def, Rat.div_def, Rat.div_def]; grind
theorem val_sz {u w : Int} {v : Int × Int × Int} (hu : u.natAbs ≤ 9) (hw : w.natAbs ≤ 9) (hp : 0 < v.2.2) (hb : Bd3 v) : Sz 40 (val u w v) := by
  rw [val_eq]
  have m1 : (u * v.1).natAbs ≤ 9 * 80000 := by rw [Int.natAbs_mul]; exact Nat.mul_le_mul hu hb.1
  have m2 : (w * v.2.1).natAbs ≤ 9 * 80000 := by rw [Int.natAbs_mul]; exact Nat.mul_le_mul hw hb.2.1
  refine sz_div (by omega) ?_ ?_
  · omega
  · have := hb.2.2; omega

/-! ### triples in the heap -/
section
variable {K : PySem.W.Frag} {A A' H : Hp} {x : V}
def Tri (K : PySem.W.Frag) (A : Hp) (x : V) (v : Int × Int × Int) : Prop := ∃ p, x = .ref p ∧ SqT K A p [.int v.1, .int v.2.1, .int v.2.2]
theorem Tri.up {v : Int × Int × Int} (h : Tri K A x v) (e : Same A A') : Tri K A' x v := let ⟨p, a, b⟩ := h; ⟨p, a, sameT e b⟩
def triD (v : Int × Int × Int) : PyData := .tuple [.int v.1, .int v.2.1, .int v.2.2]
theorem dpTri {v : Int × Int × Int} (s : Same A H) (h : Tri K A x v) : Dp K H x (triD v) := by
  obtain ⟨p, rfl, hp⟩ := h
  exact .tup (sameT s hp) (.cons (.int _) (.cons (.int _) (.cons (.int _) .nil)))
theorem flatTri (v : Int × Int × Int) : Flat (triD v) := by
  unfold Flat triD
  refine ⟨?_, ?_⟩
  · simp [PyData.canLay0, PyData.canLayAll0]
  · simp [PyData.depth, PyData.depthAll]
inductive Trs (K : PySem.W.Frag) (A : Hp) : List V → List (Int × Int × Int) → Prop
  | nil : Trs K A [] []
  | cons {x v xs C} : Tri K A x v → Trs K A xs C → Trs K A (x :: xs) (v :: C)
theorem Trs.up {zs : List V} {C : List (Int × Int × Int)} (h : Trs K A zs C) (e : Same A A') : Trs K A' zs C := by
  induction h with
  | nil => exact .nil
  | cons t _ ih => exact .cons (t.up e) ih
theorem Trs.snoc {zs : List V} {C : List (Int × Int × Int)} {v : Int × Int × Int} (h : Trs K A zs C) (t : Tri K A x v) : Trs K A (zs ++ [x]) (C ++ [v]) := by
  induction h with
  | nil => exact .cons t .nil
  | cons t' _ ih => exact .cons t' ih
theorem Trs.len {zs : List V} {C : List (Int × Int × Int)} (h : Trs K A zs C) : zs.length = C.length := by
  induction h with
  | nil => rfl
  | cons _ _ same => rw [List.length_cons, List.length_cons, same]
theorem Trs.get {zs : List V} {C : List (Int × Int × Int)} (h : Trs K A zs C) : ∀ {i : Nat}, zs[i]? = some x → ∃ v, C[i]? = some v ∧ Tri K A x v := by
  induction h with
  | nil => intro i e; simp at e
  | cons t _ ih =>
    intro i e
    cases i with
    | zero =>
      have : _ = x := Option.some.inj e
      subst this
      exact ⟨_, rfl, t⟩
    | succ i => exact ih (by simpa using e)
theorem Trs.dp {zs : List V} {C : List (Int × Int × Int)} (s : Same A H) (h : Trs K A zs C) : DpAll K H zs (C.map triD) := by
  induction h with
  | nil => exact .nil
  | cons t _ ih => exact .cons (dpTri s t) ih
theorem shapedTrs (C : List (Int × Int × Int)) : SeqAt.shaped (.list (C.map triD)) = true := shaped_list fun d hd => by
  obtain ⟨v, _, rfl⟩ := List.mem_map.mp hd
  exact flatTri v
theorem eqvAll_len : ∀ {xs ys : List PyData}, PyData.eqvAll xs ys = true → xs.length = ys.length
  | [], [], _ => rfl
  | [], _ :: _, h => by simp [PyData.eqvAll] at h
  | _ :: _, [], h => by simp [PyData.eqvAll] at h
  | _ :: xs, _ :: ys, h => by
    rw [PyData.eqvAll, Bool.and_eq_true] at h
    rw [List.length_cons, List.length_cons, eqvAll_len h.2]
theorem eqvTrs {C D : List (Int × Int × Int)} (h : PyData.eqv (.list (C.map triD)) (.list (D.map triD)) = true) : C.length = D.length := by
  have : PyData.eqvAll (C.map triD) (D.map triD) = true := by simpa [PyData.eqv] using h
  have := eqvAll_len this
  simpa using this
variable {v : V} {Q : VK} {σ : L2.St}
theorem ixT0 {t : Int × Int × Int} (s : Same A H) (h : Tri K A v t) (q : Q (.int t.1) H) : tC (.int 0) σ H (fun y H2 => rIxT K v y H2 Q) := by
  obtain ⟨p, rfl, hp⟩ := h
  exact ⟨p, _, 0, _, rfl, rfl, sameT s hp, atI_nat (j := 0) rfl, q⟩
theorem ixT1 {t : Int × Int × Int} (s : Same A H) (h : Tri K A v t) (q : Q (.int t.2.1) H) : tC (.int 1) σ H (fun y H2 => rIxT K v y H2 Q) := by
  obtain ⟨p, rfl, hp⟩ := h
  exact ⟨p, _, 1, _, rfl, rfl, sameT s hp, atI_nat (j := 1) rfl, q⟩
theorem ixT2 {t : Int × Int × Int} (s : Same A H) (h : Tri K A v t) (q : Q (.int t.2.2) H) : tC (.int 2) σ H (fun y H2 => rIxT K v y H2 Q) := by
  obtain ⟨p, rfl, hp⟩ := h
  exact ⟨p, _, 2, _, rfl, rfl, sameT s hp, atI_nat (j := 2) rfl, q⟩
theorem ixP0 {f : Nat → Int} (s : Same A H) (h : IntsT K A v 2 f) (q : Q (.int (f 0)) H) : tC (.int 0) σ H (fun y H2 => rIxT K v y H2 Q) := by
  obtain ⟨p, xs, rfl, hp, hS⟩ := h
  obtain ⟨x, e, rfl⟩ := hS.2 0 (by decide)
  exact ⟨p, _, 0, _, rfl, rfl, sameT s hp, atI_nat e, q⟩
theorem ixP1 {f : Nat → Int} (s : Same A H) (h : IntsT K A v 2 f) (q : Q (.int (f 1)) H) : tC (.int 1) σ H (fun y H2 => rIxT K v y H2 Q) := by
  obtain ⟨p, xs, rfl, hp, hS⟩ := h
  obtain ⟨x, e, rfl⟩ := hS.2 1 (by decide)
  exact ⟨p, _, 1, _, rfl, rfl, sameT s hp, atI_nat e, q⟩
end
theorem sq2 {f : Nat → Int} {p q : Int} (h0 : f 0 = p) (h1 : f 1 = q) : Sq 2 (fun j y => y = .int (f j)) [.int p, .int q] := by
  refine ⟨rfl, fun i hi => ?_⟩
  have : i = 0 ∨ i = 1 := by omega
  rcases this with e | e <;> subst e
  · exact ⟨_, rfl, by show V.int p = V.int (f 0); rw [h0]⟩
  · exact ⟨_, rfl, by show V.int q = V.int (f 1); rw [h1]⟩
theorem Sq.choose {α : Type} [Inhabited α] {n : Nat} {P : Nat → V → α → Prop} {xs : List V} (h : Sq n (fun i x => ∃ y, P i x y) xs) : ∃ f : Nat → α, Sq n (fun i x => P i x (f i)) xs := by
  have g : ∀ i : Nat, ∃ y : α, i < n → ∃ x, xs[i]? = some x ∧ P i x y := fun i => by
    by_cases e : i < n
    · obtain ⟨x, a, y, b⟩ := h.2 i e
      exact ⟨y, fun _ => ⟨x, a, b⟩⟩
    · exact ⟨default, fun q => absurd q e⟩
  exact ⟨fun i => Classical.choose (g i), h.1, fun i hi => Classical.choose_spec (g i) hi⟩
theorem RowAt.to {K : PySem.W.Frag} {A A' H H' : Hp} {r sc : Addr} {ns : List Int} (x : RowAt K A H r sc ns) (e : Same A A') (n : A' r = none) (h : H' r = H r) : RowAt K A' H' r sc ns :=
  ⟨n, e.seq x.sq, by rw [h]; exact x.at_⟩
end BW

namespace BW
open PySem PySem.Spec PyProof.Rows L2 StX
abbrev sLaw : Stmt := top 44
abbrev NLaw : List Str := ["_law_script", "_law_row", "_law_high", "_law_top", "_law_rows", "_law_goal", "_law_costs", "_law_sides", "_law_corners", "_law_at", "_law_one", "_law_two", "_law_size", "_law_x", "_law_y", "_law_point", "_law_far", "_law_found", "e", "_law_values", "_law_most", "_law_value", "_law_near", "_law_best_near", "_law_line", "_law_part", "_law_side"]
theorem scLaw : FnScope NLaw ["_law_script"] (defScope sLaw) := ⟨rfl, rfl, rfl, by decide +kernel, rfl, by decide +kernel, by decide +kernel⟩
theorem call_isE2 {X : Cx} {a D : Addr} {oe : Obj} {pn : List (Addr × Obj)} {cls : Value} {d : Option Addr} (C : ExcC X.K D) (hz : Zc cls d oe) (hf : ∃ vs, oe.data = .fields vs) : CallR (X.suite a ((a, oe) :: pn)) (.builtin "isinstance") (fun xs H Q => cls = .ref D ∧ d = none ∧ rIsE X.K D a xs H Q) := by
  rintro pins s σ H xs us Q I r ⟨rfl, rfl, h⟩
  exact call_isE C hz hf pins s σ H xs us Q I r h
structure LawTxt (K : PySem.W.Frag) (mg : Str → Option Value) (C B : Addr) : Prop where
  gB : mg "BendError" = some (.ref B)
  ex : PySem.W.exmOne K (.ref C) (.ref B) = some true
  ec : ExcC K C
  ki : PySem.W.kitOne K (.ref C) (.ref C) = some true
theorem asg_step {i : Nat} {v : V} {u : TS} {D : Ends} {σ : L2.St} {H : Hp} (h : u D (σ.set i (some v)) H) : tSeq (tAsg (tC v) (gName i)) u D σ H := h
theorem walk_zipT {K : PySem.W.Frag} {a b : Addr} {xs ys : List V} {n : Nat} (hn : n = min xs.length ys.length) : Walk (RZ.ItzT K a b) n (fun H => SqT K H a xs ∧ SqT K H b ys) (YPair (fun i => xs[i]?) (fun i => ys[i]?)) := by
  subst hn
  refine ⟨fun i H hi both => ?_, fun H both => ⟨xs, ys, both.1, both.2, by omega⟩, fun i H v H' hi both ⟨T, x, z, eT, free, eH, ofX, ofY⟩ => ⟨T, x, z, eT, free, eH, ofX xs both.1, ofY ys both.2⟩⟩
  exact ⟨xs, ys, xs[i]'(by omega), ys[i]'(by omega), both.1, both.2, List.getElem?_eq_getElem _, List.getElem?_eq_getElem _⟩
def two (y : Int × Int) : Nat → Int := fun j => if j = 0 then y.1 else y.2
theorem sq2_eq {f : Nat → Int} {xs : List V} (h : Sq 2 (fun j y => y = .int (f j)) xs) : xs = [.int (f 0), .int (f 1)] := by
  obtain ⟨hl, hs⟩ := h
  obtain ⟨x, e0, rfl⟩ := hs 0 (by decide)
  obtain ⟨y, e1, rfl⟩ := hs 1 (by decide)
  match xs, hl, e0, e1 with
  | [p, q], _, e0, e1 =>
    have a : p = _ := Option.some.inj e0
    have b : q = _ := Option.some.inj e1
    rw [a, b]
theorem sq4 {P : Nat → V → Prop} {a b c d : V} (h0 : P 0 a) (h1 : P 1 b) (h2 : P 2 c) (h3 : P 3 d) : Sq 4 P [a, b, c, d] := by
  refine ⟨rfl, fun i hi => ?_⟩
  have : i = 0 ∨ i = 1 ∨ i = 2 ∨ i = 3 := by omega
  rcases this with e | e | e | e <;> subst e
  · exact ⟨_, rfl, h0⟩
  · exact ⟨_, rfl, h1⟩
  · exact ⟨_, rfl, h2⟩
  · exact ⟨_, rfl, h3⟩
/-! ### lists of draws -/
section
variable {K : PySem.W.Frag} {H H1 A1 : Hp} {r sc : Addr} {ns : List Int} {D : Addr} {X : Hp → V → Prop} {i : Nat}
def Drw (K : PySem.W.Frag) (H A1 : Hp) (r sc : Addr) (ns : List Int) (D : Addr) (X : Hp → V → Prop) (i : Nat) (H' : Hp) : Prop :=
  ∃ A' zs, Fz H H H' A' ∧ Same A1 A' ∧ A' D = none ∧ H' D = some (.lst zs) ∧ Sq i (fun _ x => X A' x) zs ∧ RowAt K A' H' r sc ns
theorem RowAt.ne {A : Hp} (x : RowAt K A H r sc ns) (hD : H D = none) : r ≠ D := by
  obtain ⟨i, s, c, _, _, _, h⟩ := x.at_
  exact ne_of_none h hD
theorem Drw.start (f : Fz H H H1 A1) (ro : RowAt K A1 H1 r sc ns) (hD : H1 D = none) : Drw K H A1 r sc ns D X 0 (upd H1 D (.lst [])) :=
  ⟨A1, [], f.laidM hD, Same.refl _, f.sub.free hD, upd_same, Sq.nil, ro.to (Same.refl _) ro.no (upd_ne (ro.ne hD))⟩
theorem Drw.more {A' H' H2 A2 : Hp} {zs : List V} {y : V} (st : ∀ A A' x, Same A A' → X A x → X A' x) (s1 : Same A1 A') (hAD : A2 D = none) (hHD : H' D = some (.lst zs)) (hSq : Sq i (fun _ x => X A' x) zs) (f : Fz H H H2 A2) (s : Same A' A2) (h2 : H2 D = H' D) (ro : RowAt K A2 H2 r sc ns) (hD : H D = none) (ne : r ≠ D) (hi : i ≤ 1000) (py : X A2 y) :
    ∃ acc, H2 D = some (.lst acc) ∧ acc.length < sizeLine ∧ Drw K H A1 r sc ns D X (i + 1) (upd H2 D (.lst (acc ++ [y]))) :=
  ⟨zs, h2.trans hHD, small_lst hSq hi, A2, zs ++ [y], f.put hAD hD, s1.trans s, hAD, upd_same, (hSq.mono fun j x _ p => st _ _ x s p).snoc py, ro.to (Same.refl _) ro.no (upd_ne ne)⟩
theorem Drw.done {H' : Hp} {n : Nat} (st : ∀ A A' x, Same A A' → X A x → X A' x) (ne : r ≠ D) (hD : H D = none) (d : Drw K H A1 r sc ns D X n H') : ∃ A2 zs, Fz H H H' A2 ∧ Same A1 A2 ∧ SqL K A2 D zs ∧ Sq n (fun _ x => X A2 x) zs ∧ RowAt K A2 H' r sc ns := by
  obtain ⟨A', zs, f, s1, hA, hH, hS, ro⟩ := d
  refine ⟨_, zs, f.fix hH hA hD, s1.trans (same_new hA), SqL.of upd_same, hS.mono fun j x _ p => st _ _ x (same_new hA) p, ro.to (same_new hA) ?_ rfl⟩
  rw [upd_ne ne]; exact ro.no
end
section
variable {P : Program} {w : World} {K : PySem.W.Frag} {mg : Str → Option Value} {base : Heap}
/-- what stands when the corners are found -/
structure EndAt (K : PySem.W.Frag) (A : Hp) (vR vG vC : V) (aC : Addr) (n : Nat) (R : Nat → Nat → Int) (g cs : Nat → Int) (zs : List V) (CC : List (Int × Int × Int)) : Prop where
  rows : RowsT K A vR n R
  goal : IntsT K A vG n g
  cost : IntsT K A vC 2 cs
  szs : Szs n R g
  csz : ∀ j, j < 2 → (cs j).natAbs ≤ 9
  n1 : 1 ≤ n
  n5 : n ≤ 5
  sq : SqL K A aC zs
  trs : Trs K A zs CC
  crn : CrnQ n R g CC
  bd : ∀ v ∈ CC, Bd3 v
  len : CC.length ≤ 1000
theorem law_end {f C B : Addr} {cdv : Value} {A₀ : Around} {outer : List Env} {s : Shared} {H0 : Hp} {Q : VK} {E : XK} (hr : Room 10 (A₀.deeper (envOfC "law" (defScope sLaw) s.heap.objs.size f cdv))) (T : Txt K mg) (X : ErrTxt K mg C) (L : LawTxt K mg C B)
    (hLo : Has P w K mg base CX0 2 "_law_lowest" ["_law_numerator", "_law_denominator"] (spLowest K)) (hLe : Has P w K mg base CX0 1 "_law_less" ["_law_one", "_law_other"] (spLess K)) (hBe : Has P w K mg base (L2.CX P w) 10 "best" ["rows", "goal", "costs"] (spBest K C))
    (q : ∀ H', Q (.bl true) H') :
    ∃ t, PSs (cxOf CX0 P w K mg base NLaw "law" (defScope sLaw) f cdv A₀ outer s H0 E).nox ((defBody sLaw).drop 7) t ∧
      ∀ (y0 y1 y2 y3 y7 y9 y10 y11 y12 y13 y14 y15 : Option V) (H A : Hp) (vR vG vC : V) (aC : Addr) (n : Nat) (R : Nat → Nat → Int) (g cs : Nat → Int) (zs : List V) (CC : List (Int × Int × Int)), Same A H → EndAt K A vR vG vC aC n R g cs zs CC →
        t { nx := fun _ H' => Q .non H', rt := Q } [y0, y1, y2, y3, some vR, some vG, some vC, y7, some (.ref aC), y9, y10, y11, y12, y13, y14, y15, none, none, none, none, none, none, none, none, none, none, none] H := by
  obtain ⟨fLo, fdLo, GLo, gLo, kLo, bLo⟩ := hLo
  obtain ⟨fLe, fdLe, GLe, gLe, kLe, bLe⟩ := hLe
  obtain ⟨fBe, fdBe, GBe, gBe, kBe, bBe⟩ := hBe
  have hu := hr.units
  refine ⟨_, (pss_cons (ps_set (i := 16) scLaw.nd rfl (.inl rfl) pe_bl)
      (pss_cons (ps_set (i := 17) scLaw.nd rfl (.inl rfl) pe_non)
      (pss_cons (ps_try_as (i := 18) rfl rfl scLaw.nd rfl rfl ⟨rfl, by decide, .inl L.gB⟩ takes0
        (fun W pn xe tk _ => pss_one (ps_set (i := 17) scLaw.nd rfl (.inl rfl) (pe_callS GBe (hr.mono (by decide)) rfl gBe kBe bBe (fun σ => passAt tk σ) (pa_cons (pv 4) (pa_cons (pv 5) (pa_cons (pv 6) pa_nil))))))
        (fun a oe cls d pn hz hf => pss_one (ps_set (i := 16) scLaw.nd rfl (.inl rfl) (pe_callB (call_isE2 L.ec hz hf) (by rfl) T.isinstance boot_isinstance (pa_cons (pv 18) (pa_cons (pe_glob (v := .ref C) rfl X.g rfl) pa_nil))))))
      (pss_cons (ps_if (pt_cmpR (op_eqD hu) (pv 8) (pe_lst pa_nil) (nomark _)) (pss_one (ps_ret (pe_and (pe_cmpR op_isN (pv 17) pe_non (nomark _)) (pe_one (pe_not (pv 16)))))) pss_nil)
      (pss_cons (ps_setLc (i := 19) (own := [("_law_x", 13), ("_law_y", 14), ("_law_size", 12)]) (g := gTup K 3 (gCons (gName 13) (gCons (gName 14) (gCons (gName 12) gNil)))) rfl scLaw.nd rfl rfl (sw_true rfl rfl rfl (by decide +kernel)) (pi_list (pv 8)) (blkOk_by (own := [("_law_x", 13), ("_law_y", 14), ("_law_size", 12)]) (N := NLaw) (sc := defScope sLaw) (by decide +kernel)) (fun _ _ _ _ _ => by exact pg_tup rfl (pgs_cons (pg_name (i := 13) scLaw.nd rfl (.inl rfl)) (pgs_cons (pg_name (i := 14) scLaw.nd rfl (.inl rfl)) (pgs_cons (pg_name (i := 12) scLaw.nd rfl (.inl rfl)) pgs_nil)))) (fun _ _ _ _ _ => pts_nil) (fun _ _ _ _ _ => (pe_call GLo (hr.mono (by decide)) rfl gLo kLo bLo .nil pass0 (pa_cons (pe_op op_add (pe_op op_mulW (pe_ix (r := rIxT K) ix_tup (pv 6) pe_int (fun _ _ => rfl)) (pv 13)) (pe_op op_mulW (pe_ix (r := rIxT K) ix_tup (pv 6) pe_int (fun _ _ => rfl)) (pv 14))) (pa_cons (pv 12) pa_nil)))))
      (pss_cons (ps_set (i := 20) scLaw.nd rfl (.inr rfl) (pe_ix ix_list (pv 19) pe_int (fun _ _ => rfl)))
      (pss_cons (ps_for PassesOwn.never rfl (pi_list (pv 19)) (pg_name (i := 21) scLaw.nd rfl (.inl rfl)) (pss_one (ps_set (i := 20) scLaw.nd rfl (.inr rfl) (pe_ifExp (pt_val (pe_call GLe (hr.mono (by decide)) rfl gLe kLe bLe .nil pass0 (pa_cons (pv 20) (pa_cons (pv 21) pa_nil)))) (pv 21) (pv 20)))))
      (pss_cons (ps_setLc (i := 22) (own := [("_law_point", 15)]) (g := gName 15) rfl scLaw.nd rfl rfl (sw_true rfl rfl rfl (by decide +kernel)) (pi_list (pv 8)) (blkOk_by (own := [("_law_point", 15)]) (N := NLaw) (sc := defScope sLaw) (by decide +kernel)) (fun _ _ _ _ _ => by exact pg_name (i := 15) scLaw.nd rfl (.inl rfl)) (fun _ _ _ _ _ => pts_one (PW.pt (pw_and (pt_cmpR op_lt (pe_ix (r := rIxT K) ix_tup (pv 15) pe_int (fun _ _ => rfl)) (pe_op op_mulW pe_int (pe_ix (r := rIxT K) ix_tup (pv 15) pe_int (fun _ _ => rfl))) (nomark _)) (pw_and1 (pt_cmpR op_lt (pe_ix (r := rIxT K) ix_tup (pv 15) pe_int (fun _ _ => rfl)) (pe_op op_mulW pe_int (pe_ix (r := rIxT K) ix_tup (pv 15) pe_int (fun _ _ => rfl))) (nomark _)))))) (fun _ _ _ _ _ => pv 15))
      (pss_cons (ps_if (pt_val (pv 16)) (pss_cons (ps_setLc (i := 23) (own := [("_law_point", 15)]) (g := gName 15) rfl scLaw.nd rfl rfl (sw_true rfl rfl rfl (by decide +kernel)) (pi_list (pv 22)) (blkOk_by (own := [("_law_point", 15)]) (N := NLaw) (sc := defScope sLaw) (by decide +kernel)) (fun _ _ _ _ _ => by exact pg_name (i := 15) scLaw.nd rfl (.inl rfl)) (fun _ _ _ _ _ => pts_one (pt_cmpR (r := rEqD K) (op_eqD hu) (pe_call GLo (hr.mono (by decide)) rfl gLo kLo bLo .nil pass0 (pa_cons (pe_op op_add (pe_op op_mulW (pe_ix (r := rIxT K) ix_tup (pv 6) pe_int (fun _ _ => rfl)) (pe_ix (r := rIxT K) ix_tup (pv 15) pe_int (fun _ _ => rfl))) (pe_op op_mulW (pe_ix (r := rIxT K) ix_tup (pv 6) pe_int (fun _ _ => rfl)) (pe_ix (r := rIxT K) ix_tup (pv 15) pe_int (fun _ _ => rfl)))) (pa_cons (pe_ix (r := rIxT K) ix_tup (pv 15) pe_int (fun _ _ => rfl)) pa_nil))) (pv 20) (nomark _))) (fun _ _ _ _ _ => pv 15))
      (pss_one (ps_ret (pe_cmpR (op_eqD hu) (pv 23) (pe_lst pa_nil) (nomark _))))) pss_nil)
      (pss_one (ps_ret (pe_and (pe_cmpR op_notN (pv 17) pe_non (nomark _)) (pe_one (pe_or (pe_cmpR (op_eqD hu) (pe_ix ix_tup (pv 17) pe_int (fun _ _ => rfl)) (pv 20) (nomark _)) (pe_one (pe_and (pe_not (pe_call GLe (hr.mono (by decide)) rfl gLe kLe bLe .nil pass0 (pa_cons (pe_ix ix_tup (pv 17) pe_int (fun _ _ => rfl)) (pa_cons (pv 20) pa_nil)))) (pe_one (pe_cmpR (op_neD hu) (pv 22) (pv 8) (nomark _))))))))))))))))))), ?_⟩
  clear hr
  rintro y0 y1 y2 y3 y7 y9 y10 y11 y12 y13 y14 y15 H A vR vG vC aC n R g cs zs CC s0 ⟨hR, hG, hC, hz, zC, n1, n5, hSq, hTrs, hcr, hbd, hlen⟩
  refine asg_step (asg_step ?_)
  refine seq_mid (fun σ H' => ∃ (fb : Bool) (fv : V) (A' : Hp), σ = [y0, y1, y2, y3, some vR, some vG, some vC, y7, some (.ref aC), y9, y10, y11, y12, y13, y14, y15, some (.bl fb), some fv, none, none, none, none, none, none, none, none, none] ∧ Fz H A H' A' ∧
    ((fb = true ∧ fv = .non ∧ Unb n R g (cs 0) (cs 1)) ∨ (fb = false ∧ fv = .non ∧ NoSol n R g) ∨ (fb = false ∧ ∃ M p x y, fv = .ref p ∧ SqT K A' p [x, y] ∧ IsR K A' x M ∧ Opt n R g (cs 0) (cs 1) M ∧ Sz 3000 M))) ?_ ?_
  · rintro σ H1 ⟨fb, fv, A1, rfl, f1, alt⟩
    have hC1 := intsTUp hC f1.ext
    have hSq1 := f1.ext.seq hSq
    have hTrs1 := hTrs.up f1.ext
    -- corners == []
    refine ⟨.ref aC, rfl, (by show 0 ≤ sizeLine; decide), fun D hD => ?_⟩
    have f2 := f1.laidM (o := .lst []) hD
    have hD2 : SqL K (upd H1 D (.lst [])) D [] := SqL.of upd_same
    refine ⟨.list (CC.map triD), .list [], .lst (f2.sub.seq hSq1) (hTrs1.dp f2.sub), .lst hD2 .nil, shapedTrs CC, shaped_list (fun d hd => by cases hd), _, rfl, ?_⟩
    rw [eqv_nil]
    refine ite2 (fun e => ?_) (fun e => ?_)
    · have eC : CC = [] := by
        cases CC with
        | nil => rfl
        | cons a l => cases e
      subst eC
      have no : ∀ x y, ¬ InP n R g x y := fun x y => law_nil hz hcr
      rcases alt with ⟨_, _, x, y, d, e', _, h⟩ | ⟨rfl, rfl, _⟩ | ⟨_, M, _, _, _, _, _, _, ⟨⟨x, y, h, _⟩, _⟩, _⟩
      · have := h 0 Rat.le_refl
        exact absurd this (no _ _)
      · exact ⟨.non, rfl, rfl, _, rfl, iteT ⟨.bl false, rfl, false, rfl, q _⟩⟩
      · exact absurd h (no _ _)
    · have neC : CC ≠ [] := fun h => e (by rw [h]; rfl)
      generalize upd H1 D (.lst []) = H2 at f2
      clear hD2
      -- values
      refine ⟨.ref aC, rfl, aC, rfl, ⟨zs, f2.sub.seq hSq1⟩, fun D2 hD2 => ?_⟩
      have hu0 := zC 0 (by decide)
      have hw0 := zC 1 (by decide)
      have mulC : ∀ j, j < 2 → ∀ z : Int, z.natAbs ≤ 80000 → CMulW (cs j) z := fun j hj z h => mulW (n := 4) (m := 20) (by have := zC j hj; omega) (by omega)
      refine lc_it (walk_list (xs := zs)) (Bld H2 A1 D2 fun A' i x => IsR K A' x (val (cs 0) (cs 1) (CC.getD i (0, 0, 0)))) (Bld.start (Fz.refl f2.sub) hD2) (fun i H' _ ⟨A', zs, fz, _⟩ => (f2.sub.trans fz.kee).seq hSq1) ?_ ?_
      · rintro i x H3 H4 hi ⟨A3, zs3, f3, hAD, hHD, hSq3⟩ ⟨rfl, hx⟩
        obtain ⟨v, hv, tri⟩ := hTrs1.get hx
        have mv : v ∈ CC := List.mem_of_getElem? hv
        have eg : CC.getD i (0, 0, 0) = v := by rw [List.getD_eq_getElem?_getD, hv]; rfl
        obtain ⟨b1, b2, b3⟩ := hbd v mv
        obtain ⟨pp, rfl, hp⟩ := id (tri.up f3.ext)
        have hC3 := intsTUp hC1 f3.ext
        refine ⟨pp, _, rfl, sameT f3.sub hp, rfl, _, _, rfl, _, _, rfl, _, _, rfl, rfl, rfl, ?_⟩
        refine ⟨vC, rfl, ixP0 f3.sub hC3 ⟨.int v.1, rfl, _, _, rfl, rfl, mulC 0 (by decide) _ b1, ?_⟩⟩
        refine ⟨vC, rfl, ixP1 f3.sub hC3 ⟨.int v.2.1, rfl, _, _, rfl, rfl, mulC 1 (by decide) _ b2, _, _, rfl, rfl, ?_⟩⟩
        refine ⟨.int v.2.2, rfl, A3, _, _, rfl, f3.sub, hcr.pos v mv, Nat.lt_of_lt_of_le (show v.2.2.natAbs < 2 ^ 20 by omega) (pow_mono (by decide)), fun H5 A5 v5 f5 h5 => ?_⟩
        have lz := hTrs.len
        refine Bld.more (P := fun A' i x => IsR K A' x (val (cs 0) (cs 1) (CC.getD i (0, 0, 0)))) (fun _ _ _ _ s p => p.up s) f3 hAD hHD hSq3 f5 hD2 (by omega) ?_
        show IsR K A5 v5 (val (cs 0) (cs 1) (CC.getD i (0, 0, 0)))
        rw [eg, val_eq]; exact h5
      · intro H3 hb3
        rw [hTrs1.len] at hb3
        obtain ⟨A3, f3, hV⟩ := Bld.done (K := K) (P := fun A' i x => IsR K A' x (val (cs 0) (cs 1) (CC.getD i (0, 0, 0)))) (fun _ _ _ _ s p => p.up s) hD2 hb3
        obtain ⟨aV, xV, eV, hLV, hSV⟩ := id hV
        cases eV
        have f23 := f2.trans f3
        have lpos : 0 < CC.length := List.length_pos_iff.mpr neC
        have szv : ∀ i, i < CC.length → Sz 40 (val (cs 0) (cs 1) (CC.getD i (0, 0, 0))) ∧ CC.getD i (0, 0, 0) ∈ CC := fun i hi => by
          have eg : CC.getD i (0, 0, 0) = CC[i] := by rw [List.getD_eq_getElem?_getD, List.getElem?_eq_getElem hi]; rfl
          rw [eg]
          have mv : CC[i] ∈ CC := List.getElem_mem hi
          exact ⟨val_sz hu0 hw0 (hcr.pos _ mv) (hbd _ mv), mv⟩
        -- most
        refine ⟨.ref D2, rfl, ixL (i := 0) f3.sub hV lpos fun mv0 hmv0 => ?_⟩
        refine ⟨.ref D2, rfl, D2, rfl, ⟨xV, f3.sub.seq hLV⟩, for_list (K := K) (a := D2) (xs := xV) (fun i σ H' => ∃ mv m y21, σ = [y0, y1, y2, y3, some vR, some vG, some vC, y7, some (.ref aC), y9, y10, y11, y12, y13, y14, y15, some (.bl fb), some fv, none, some (.ref D2), some mv, y21, none, none, none, none, none] ∧ H' = H3 ∧ IsR K A3 mv m ∧ (∃ v ∈ CC, m = val (cs 0) (cs 1) v) ∧ Sz 40 m ∧ ∀ k, k < i → val (cs 0) (cs 1) (CC.getD k (0, 0, 0)) ≤ m)
          ⟨mv0, _, none, rfl, rfl, hmv0, ⟨_, (szv 0 lpos).2, rfl⟩, (szv 0 lpos).1, fun k hk => by omega⟩ (fun i σ H' _ ⟨_, _, _, _, e, _⟩ => by rw [e]; exact f3.sub.seq hLV) ?_ ?_⟩
        · rintro i x σ H' hi ⟨mv, m, y21, rfl, rfl, hm, hmem, szm, hmax⟩
          have hin : i < CC.length := by rw [← hSV.1]; exact (List.getElem?_eq_some_iff.mp hi).1
          obtain ⟨x', e', px⟩ := hSV.2 i hin
          obtain rfl : x' = x := Option.some.inj (e'.symm.trans hi)
          have sz2 := szv i hin
          refine ⟨mv, rfl, x', rfl, A3, mv, x', _, _, rfl, f3.sub, hm, px, ⟨szm.mono (by decide), sz2.1.mono (by decide)⟩, _, rfl, ite2 (fun e => ?_) (fun e => ?_)⟩
          · have lt := of_decide_eq_true e
            refine ⟨x', rfl, x', _, _, rfl, rfl, px, ⟨_, sz2.2, rfl⟩, sz2.1, fun k hk => ?_⟩
            by_cases ek : k = i
            · subst ek; exact Rat.le_refl
            · have := hmax k (by omega); grind
          · have nlt : ¬ m < val (cs 0) (cs 1) (CC.getD i (0, 0, 0)) := fun h => e (decide_eq_true h)
            refine ⟨mv, rfl, mv, m, _, rfl, rfl, hm, hmem, szm, fun k hk => ?_⟩
            by_cases ek : k = i
            · subst ek; grind
            · exact hmax k (by omega)
        · rintro σ Hm ⟨mv, m, y21, rfl, rfl, hm, ⟨vb, hvb, evb⟩, szm, hmax⟩
          rw [hSV.1] at hmax
          have top : ∀ v' ∈ CC, val (cs 0) (cs 1) v' ≤ m := fun v' hv' => by
            obtain ⟨k, hk, ek⟩ := List.mem_iff_getElem.mp hv'
            have := hmax k hk
            rw [List.getD_eq_getElem?_getD, List.getElem?_eq_getElem hk] at this
            rw [← ek]; exact this
          -- near
          have hTrs3 := hTrs1.up f3.ext
          have hSq3 := f3.ext.seq hSq1
          refine ⟨.ref aC, rfl, aC, rfl, ⟨zs, f3.sub.seq hSq3⟩, fun D4 hD4 => ?_⟩
          refine lc_it (walk_list (xs := zs)) (fun i H' => ∃ A' ys, Fz Hm A3 H' A' ∧ A' D4 = none ∧ H' D4 = some (.lst ys) ∧ Trs K A' ys ((CC.take i).filter nearB)) ⟨A3, [], (Fz.refl f3.sub).laidM hD4, f3.sub.free hD4, upd_same, by rw [List.take_zero]; exact .nil⟩ (fun i H' _ ⟨A', ys, fz, _⟩ => (f3.sub.trans fz.kee).seq hSq3) ?_ ?_
          · rintro i x H5 H6 hi ⟨A5, ys, f5, hAD, hHD, hTy⟩ ⟨rfl, hx⟩
            obtain ⟨v, hv, tri⟩ := hTrs3.get hx
            have mv' : v ∈ CC := List.mem_of_getElem? hv
            obtain ⟨b1, b2, b3⟩ := hbd v mv'
            have tri5 := tri.up f5.ext
            have m200 : CMulW 200 v.2.2 := mulW (n := 8) (m := 20) (by decide) (by omega)
            have tk : (CC.take (i + 1)).filter nearB = (CC.take i).filter nearB ++ (if nearB v = true then [v] else []) := by
              rw [List.take_succ, hv, List.filter_append]
              congr 1
              by_cases z : nearB v = true
              · simp [z]
              · simp [z]
            have ly : ys.length < sizeLine := small1000 (by
              have h1 := hTy.len
              have h2 := List.length_filter_le nearB (CC.take i)
              have h3 : (CC.take i).length ≤ CC.length := by rw [List.length_take]; omega
              omega)
            refine ⟨rfl, x, rfl, ixT0 f5.sub tri5 ⟨x, rfl, ixT2 f5.sub tri5 ⟨_, _, rfl, rfl, m200, _, _, rfl, rfl, _, rfl, ite2 (fun e1 => ?_) (fun e1 => ?_)⟩⟩⟩
            · have l1 : v.1 < 200 * v.2.2 := of_decide_eq_true e1
              refine ⟨x, rfl, ixT1 f5.sub tri5 ⟨x, rfl, ixT2 f5.sub tri5 ⟨_, _, rfl, rfl, m200, _, _, rfl, rfl, _, rfl, ite2 (fun e2 => ?_) (fun e2 => ?_)⟩⟩⟩
              · have l2 : v.2.1 < 200 * v.2.2 := of_decide_eq_true e2
                refine ⟨x, rfl, ys, hHD, ly, A5, ys ++ [x], f5.put hAD hD4, hAD, upd_same, ?_⟩
                rw [tk, if_pos (nearB_iff.mpr ⟨l1, l2⟩)]
                exact hTy.snoc tri5
              · refine ⟨A5, ys, f5, hAD, hHD, ?_⟩
                rw [tk, if_neg (fun h => e2 (decide_eq_true (nearB_iff.mp h).2)), List.append_nil]
                exact hTy
            · refine iteF ⟨A5, ys, f5, hAD, hHD, ?_⟩
              rw [tk, if_neg (fun h => e1 (decide_eq_true (nearB_iff.mp h).1)), List.append_nil]
              exact hTy
          · rintro H5 ⟨A5, ys, f5, hAD, hHD, hTy⟩
            rw [hTrs3.len, List.take_length] at hTy
            have f6 := f5.fix hHD hAD hD4
            have hTy6 := hTy.up (same_new (o := .lst ys) hAD)
            have hLy : SqL K (upd A5 D4 (.lst ys)) D4 ys := SqL.of upd_same
            generalize upd A5 D4 (.lst ys) = A6 at f6 hTy6 hLy
            have hm6 := hm.up f6.ext
            have hC6 := intsTUp hC1 (f3.ext.trans f6.ext)
            have nearIn : ∀ v, v ∈ CC.filter nearB → v ∈ CC ∧ nearQ v := fun v h => ⟨(List.mem_filter.mp h).1, nearB_iff.mp (List.mem_filter.mp h).2⟩
            rcases alt with ⟨rfl, rfl, un⟩ | ⟨rfl, rfl, no⟩ | ⟨rfl, M, pp, xx, yy, rfl, hTu, hxx, op, zM⟩
            · -- far
              refine ⟨.bl true, rfl, true, rfl, iteT ?_⟩
              refine ⟨.ref D4, rfl, D4, rfl, ⟨ys, f6.sub.seq hLy⟩, fun D7 hD7 => ?_⟩
              refine lc_it (walk_list (xs := ys)) (fun i H' => ∃ A', Fz H5 A6 H' A' ∧ A' D7 = none ∧ H' D7 = some (.lst [])) ⟨A6, (Fz.refl f6.sub).laidM hD7, f6.sub.free hD7, upd_same⟩ (fun i H' _ ⟨A', fz, _⟩ => (f6.sub.trans fz.kee).seq hLy) ?_ ?_
              · rintro i x H8 H9 hi ⟨A8, f8, hAD8, hHD8⟩ ⟨rfl, hx⟩
                obtain ⟨v, hv, tri⟩ := hTy6.get hx
                obtain ⟨mv', nv⟩ := nearIn v (List.mem_of_getElem? hv)
                obtain ⟨b1, b2, b3⟩ := hbd v mv'
                have tri8 := tri.up f8.ext
                have hC8 := intsTUp hC6 f8.ext
                refine ⟨rfl, vC, rfl, ixP0 f8.sub hC8 ⟨x, rfl, ixT0 f8.sub tri8 ⟨_, _, rfl, rfl, mulC 0 (by decide) _ b1, ?_⟩⟩⟩
                refine ⟨vC, rfl, ixP1 f8.sub hC8 ⟨x, rfl, ixT1 f8.sub tri8 ⟨_, _, rfl, rfl, mulC 1 (by decide) _ b2, _, _, rfl, rfl, ?_⟩⟩⟩
                refine ⟨x, rfl, ixT2 f8.sub tri8 ⟨A8, _, _, rfl, f8.sub, hcr.pos v mv', Nat.lt_of_lt_of_le (show v.2.2.natAbs < 2 ^ 20 by omega) (pow_mono (by decide)), fun H10 A10 v10 f10 h10 => ?_⟩⟩
                rw [← val_eq] at h10
                refine ⟨mv, rfl, _, _, dpR f10.sub h10, dpR f10.sub (hm6.up (f8.ext.trans f10.ext)), rfl, rfl, _, rfl, ?_⟩
                rw [eqR]
                have ne : ¬ val (cs 0) (cs 1) v = m := fun h => law_far hcr un mv' nv fun v' hv' => by rw [h]; exact top v' hv'
                rw [decide_eq_false ne]
                refine iteF ⟨A10, f8.trans f10, f10.off hHD8 hAD8, f10.kee _ _ hHD8⟩
              · rintro H8 ⟨A8, f8, hAD8, hHD8⟩
                refine ⟨.ref D7, rfl, (by show 0 ≤ sizeLine; decide), fun D9 hD9 => ?_⟩
                have n79 : D7 ≠ D9 := ne_of_none hHD8 hD9
                refine ⟨.list [], .list [], .lst (SqL.of (by rw [upd_ne n79]; exact hHD8)) .nil, .lst (SqL.of upd_same) .nil, shaped_list (fun d hd => by cases hd), shaped_list (fun d hd => by cases hd), ?_⟩
                show Q (.bl (PyData.eqv (.list []) (.list []))) _
                rw [eqv_nil]
                exact q _
            · exact absurd (crn_inP hcr hvb) (noSol_iff.mp no _ _)
            · refine ⟨.bl false, rfl, false, rfl, iteF ?_⟩
              have f16 := f3.trans f6
              have hTu6 := sameT f16.ext hTu
              have hx6 := hxx.up f16.ext
              refine ⟨.ref pp, rfl, rfl, _, rfl, iteT ?_⟩
              refine ⟨.ref pp, rfl, pp, _, 0, xx, rfl, rfl, sameT f6.sub hTu6, atI_nat (j := 0) rfl, mv, rfl, _, _, dpR f6.sub hx6, dpR f6.sub hm6, rfl, rfl, _, rfl, ?_⟩
              rw [eqR]
              refine ite2 (fun e1 => q _) (fun e1 => ?_)
              have neM : ¬ M = m := fun h => e1 (decide_eq_true h)
              have leM : m ≤ M := by rw [evb]; exact law_le hcr op hvb
              refine ⟨.ref pp, rfl, pp, _, 0, xx, rfl, rfl, sameT f6.sub hTu6, atI_nat (j := 0) rfl, mv, rfl, A6, xx, mv, M, m, rfl, f6.sub, hx6, hm6, ⟨zM.mono (by decide), szm.mono (by decide)⟩, _, rfl, _, rfl, ?_⟩
              have nlt : ¬ M < m := by grind
              rw [decide_eq_false nlt]
              refine iteT ?_
              refine ⟨.ref D4, rfl, .ref aC, rfl, .list ((CC.filter nearB).map triD), .list (CC.map triD), .lst (f6.sub.seq hLy) (hTy6.dp f6.sub), .lst (f6.sub.seq (f6.ext.seq hSq3)) ((hTrs3.up f6.ext).dp f6.sub), shapedTrs _, shapedTrs _, ?_⟩
              have nev : PyData.eqv (.list ((CC.filter nearB).map triD)) (.list (CC.map triD)) = false := by
                refine Bool.eq_false_iff.mpr fun h => ?_
                have all := filter_all (eqvTrs h)
                have nb := nearB_iff.mp (all vb hvb)
                exact neM ((law_eq hcr op hvb nb fun v' hv' => by rw [← evb]; exact top v' hv').trans evb.symm)
              show Q (.bl (!PyData.eqv _ _)) _
              rw [nev]
              exact q _
  · intro N hN
    refine ⟨vR, rfl, vG, rfl, vC, rfl, A, vR, vG, vC, n, R, g, cs, rfl, s0, hR, hG, hC, hz, zC, n1, n5, fun ns H1 A1 v1 f1 e1 => ?_, fun M op zM H1 A1 v1 f1 h1 => ?_, fun un H1 s1 => ?_⟩
    · subst e1
      exact hN _ _ ⟨false, .non, A1, rfl, f1, .inr (.inl ⟨rfl, rfl, ns⟩)⟩
    · obtain ⟨p, x, y, rfl, hTu, hx⟩ := h1
      exact hN _ _ ⟨false, .ref p, A1, rfl, f1, .inr (.inr ⟨rfl, M, p, x, y, rfl, hTu, hx, op, zM⟩)⟩
    · refine ⟨true, L.ex, fun _ a ha => ?_, fun q => nomatch q⟩
      refine ⟨.ref a, rfl, rfl, rfl, .ref C, .ref C, true, rfl, fun u h => h, L.ki, ?_⟩
      exact hN _ _ ⟨true, .non, A, rfl, ⟨s0.trans s1, Same.refl _, s1, fun b o e => .inl e⟩, .inl ⟨rfl, rfl, un⟩⟩
end
end BW

namespace BW
open PySem PySem.Spec PyProof.Rows L2 StX
section
variable {P : Program} {w : World} {K : PySem.W.Frag} {mg : Str → Option Value} {base : Heap}
/-- what stands when the sides are found -/
structure MidAt (K : PySem.W.Frag) (A : Hp) (vR vG vC : V) (aS : Addr) (n : Nat) (R : Nat → Nat → Int) (g cs : Nat → Int) (xs : List V) : Prop where
  rows : RowsT K A vR n R
  goal : IntsT K A vG n g
  cost : IntsT K A vC 2 cs
  szs : Szs n R g
  csz : ∀ j, j < 2 → (cs j).natAbs ≤ 9
  n1 : 1 ≤ n
  n5 : n ≤ 5
  sq : SqL K A aS xs
  sides : Sq (n + 4) (fun i x => Tri K A x (sA n R i, sB n R i, sC n g i)) xs
theorem side_bd {n : Nat} {R : Nat → Nat → Int} {g : Nat → Int} (z : Szs n R g) : ∀ i, i < n + 4 → (sA n R i).natAbs ≤ 200 ∧ (sB n R i).natAbs ≤ 200 ∧ (sC n g i).natAbs ≤ 200 := by
  intro i hi
  by_cases h : i < n + 2
  · have := szs_all z i h
    omega
  · by_cases e : i = n + 2
    · subst e; rw [ax3.1, ax3.2, ax3c]; decide
    · have e2 : i = n + 3 := by omega
      subst e2; rw [ax4.1, ax4.2, ax4c]; decide
theorem law_mid {f C B : Addr} {cdv : Value} {A₀ : Around} {outer : List Env} {s : Shared} {H0 : Hp} {Q : VK} {E : XK} (hr : Room 10 (A₀.deeper (envOfC "law" (defScope sLaw) s.heap.objs.size f cdv))) (T : Txt K mg) (X : ErrTxt K mg C) (L : LawTxt K mg C B)
    (hLo : Has P w K mg base CX0 2 "_law_lowest" ["_law_numerator", "_law_denominator"] (spLowest K)) (hLe : Has P w K mg base CX0 1 "_law_less" ["_law_one", "_law_other"] (spLess K)) (hBe : Has P w K mg base (L2.CX P w) 10 "best" ["rows", "goal", "costs"] (spBest K C))
    (q : ∀ H', Q (.bl true) H') :
    ∃ t, PSs (cxOf CX0 P w K mg base NLaw "law" (defScope sLaw) f cdv A₀ outer s H0 E).nox ((defBody sLaw).drop 5) t ∧
      ∀ (y0 y1 y2 y3 : Option V) (H A : Hp) (vR vG vC : V) (aS : Addr) (n : Nat) (R : Nat → Nat → Int) (g cs : Nat → Int) (xs : List V), Same A H → MidAt K A vR vG vC aS n R g cs xs →
        t { nx := fun _ H' => Q .non H', rt := Q } [y0, y1, y2, y3, some vR, some vG, some vC, some (.ref aS), none, none, none, none, none, none, none, none, none, none, none, none, none, none, none, none, none, none, none] H := by
  have hu := hr.units
  obtain ⟨tend, hend, rend⟩ := law_end (P := P) (w := w) (base := base) (f := f) (cdv := cdv) (A₀ := A₀) (outer := outer) (s := s) (H0 := H0) (E := E) hr T X L hLo hLe hBe q
  refine ⟨_, (pss_cons (ps_set (i := 8) scLaw.nd rfl (.inl rfl) (pe_lst pa_nil))
      (pss_cons (ps_for PassesOwn.never rfl (pi_range1 (by rfl) T.range (pa_cons (pe_callB call_len_seq (by rfl) T.len PySem.boot_len (pa_cons (pv 7) pa_nil)) pa_nil)) (pg_name (i := 9) scLaw.nd rfl (.inl rfl)) (pss_one (ps_for PassesOwn.never rfl (pi_list (pe_slice (r := rSlL K) sl_list (pv 7) po_none (po_some (pv 9)))) (pg_name (i := 10) scLaw.nd rfl (.inl rfl)) (pss_cons (ps_set (i := 11) scLaw.nd rfl (.inl rfl) (pe_ix ix_list (pv 7) (pv 9) (fun _ _ => rfl)))
      (pss_cons (ps_set (i := 12) scLaw.nd rfl (.inl rfl) (pe_op op_sub (pe_op op_mulW (pe_ix (r := rIxT K) ix_tup (pv 10) pe_int (fun _ _ => rfl)) (pe_ix (r := rIxT K) ix_tup (pv 11) pe_int (fun _ _ => rfl))) (pe_op op_mulW (pe_ix (r := rIxT K) ix_tup (pv 10) pe_int (fun _ _ => rfl)) (pe_ix (r := rIxT K) ix_tup (pv 11) pe_int (fun _ _ => rfl)))))
      (pss_one (ps_if (pt_cmpR op_ne (pv 12) pe_int (nomark _)) (pss_cons (ps_par (i := 13) (j := 14) rfl scLaw.nd rfl rfl (by decide) rfl rfl (pa_cons (pe_op op_sub (pe_op op_mulW (pe_ix (r := rIxT K) ix_tup (pv 10) pe_int (fun _ _ => rfl)) (pe_ix (r := rIxT K) ix_tup (pv 11) pe_int (fun _ _ => rfl))) (pe_op op_mulW (pe_ix (r := rIxT K) ix_tup (pv 11) pe_int (fun _ _ => rfl)) (pe_ix (r := rIxT K) ix_tup (pv 10) pe_int (fun _ _ => rfl)))) (pa_cons (pe_op op_sub (pe_op op_mulW (pe_ix (r := rIxT K) ix_tup (pv 10) pe_int (fun _ _ => rfl)) (pe_ix (r := rIxT K) ix_tup (pv 11) pe_int (fun _ _ => rfl))) (pe_op op_mulW (pe_ix (r := rIxT K) ix_tup (pv 11) pe_int (fun _ _ => rfl)) (pe_ix (r := rIxT K) ix_tup (pv 10) pe_int (fun _ _ => rfl)))) pa_nil)) rfl)
      (pss_cons (ps_set (i := 15) scLaw.nd rfl (.inr rfl) (pe_ifExp (pt_cmpR op_gt (pv 12) pe_int (nomark _)) (pe_tup (pa_cons (pv 13) (pa_cons (pv 14) (pa_cons (pv 12) pa_nil)))) (pe_tup (pa_cons (pe_op op_sub pe_int (pv 13)) (pa_cons (pe_op op_sub pe_int (pv 14)) (pa_cons (pe_op op_sub pe_int (pv 12)) pa_nil))))))
      (pss_one (ps_if (pt_cmpR (op_eqD hu) (pe_lc (own := [("_law_side", 26)]) (g := gName 26) rfl scLaw.nd (pi_list (pv 7)) (blkOk_by (own := [("_law_side", 26)]) (N := NLaw) (sc := defScope sLaw) (by decide +kernel)) (fun _ _ _ _ _ => by exact pg_name (i := 26) scLaw.nd rfl (.inl rfl)) (fun _ _ _ _ _ => pts_one (pt_cmpR op_gt (pe_op op_add (pe_op op_mulW (pe_ix (r := rIxT K) ix_tup (pv 26) pe_int (fun _ _ => rfl)) (pe_ix (r := rIxT K) ix_tup (pv 15) pe_int (fun _ _ => rfl))) (pe_op op_mulW (pe_ix (r := rIxT K) ix_tup (pv 26) pe_int (fun _ _ => rfl)) (pe_ix (r := rIxT K) ix_tup (pv 15) pe_int (fun _ _ => rfl)))) (pe_op op_mulW (pe_ix (r := rIxT K) ix_tup (pv 26) pe_int (fun _ _ => rfl)) (pe_ix (r := rIxT K) ix_tup (pv 15) pe_int (fun _ _ => rfl))) (nomark _))) (fun _ _ _ _ _ => pv 26)) (pe_lst pa_nil) (nomark _)) (pss_one (ps_expr (pe_bm PySem.F.plainAttrs_list PySem.F.slot_list_append PySem.F.type_list_append mt_append (pv 8) (pa_cons (pv 15) pa_nil)))) pss_nil)))) pss_nil)))))))
      hend)), ?_⟩
  clear hr hend hLo hLe hBe
  rintro y0 y1 y2 y3 H A vR vG vC aS n R g cs xs s0 ⟨hR, hG, hC, hz, zC, n1, n5, hSq, hSd⟩
  have lS : xs.length = n + 4 := hSd.1
  have bdS := side_bd hz
  have smul : ∀ i j : Int, i.natAbs ≤ 200 → j.natAbs ≤ 80000 → CMulW i j := fun i j h1 h2 => mulW (n := 8) (m := 20) (by omega) (by omega)
  -- corners = []
  refine ⟨(by show 0 ≤ sizeLine; decide), fun D hD => ?_⟩
  have hD0 := s0.free hD
  refine ⟨_, rfl, aS, xs, rfl, .inl ((s0.trans (same_new hD)).seq hSq), _, rfl, by omega, by omega, ?_⟩
  refine for_range (lo := 0) (n := ((xs.length : Int)).toNat) (fun j σ H' => ∃ (y9 y10 y11 y12 y13 y14 y15 : Option V) (A' : Hp) (CC : List (Int × Int × Int)) (zs : List V), σ = [y0, y1, y2, y3, some vR, some vG, some vC, some (.ref aS), some (.ref D), y9, y10, y11, y12, y13, y14, y15, none, none, none, none, none, none, none, none, none, none, none] ∧ Fz H A H' A' ∧ A' D = none ∧ H' D = some (.lst zs) ∧ Trs K A' zs CC ∧ Crn2 (n + 4) (sA n R) (sB n R) (sC n g) j 0 CC)
    ⟨none, none, none, none, none, none, none, A, [], [], rfl, (Fz.refl s0).laidM hD, hD0, upd_same, .nil, Crn2.start⟩ ?_ ?_
  · rintro j σ H1 hj ⟨y9, y10, y11, y12, y13, y14, y15, A1, CC, zs, rfl, f1, hAD, hHD, hT, hcr⟩
    have hjn : j < n + 4 := by omega
    rw [Int.zero_add]
    -- for one in sides[:at]
    refine ⟨_, rfl, _, rfl, _, rfl, aS, xs, rfl, (s0.trans f1.kee).seq hSq, fun p hp => ?_⟩
    rw [cut_pre (by omega)]
    have f2 := f1.laid (o := .lst (xs.take j)) hp
    have Dp : D ≠ p := ne_of_none hHD hp
    have hL2 : SqL K (upd A1 p (.lst (xs.take j))) p (xs.take j) := SqL.of upd_same
    have hT2 := hT.up (same_new (o := .lst (xs.take j)) (f1.sub.free hp))
    have hAD2 : (upd A1 p (.lst (xs.take j))) D = none := by rw [upd_ne Dp]; exact hAD
    have hHD2 : (upd H1 p (.lst (xs.take j))) D = some (.lst zs) := by rw [upd_ne Dp]; exact hHD
    generalize upd A1 p (.lst (xs.take j)) = A2 at f2 hL2 hT2 hAD2
    generalize upd H1 p (.lst (xs.take j)) = H2 at f2 hHD2 ⊢
    have lj : (xs.take j).length = j := by rw [List.length_take]; omega
    refine ⟨p, rfl, ⟨_, f2.sub.seq hL2⟩, for_list (K := K) (a := p) (xs := xs.take j) (fun i σ H' => ∃ (y10 y11 y12 y13 y14 y15 : Option V) (A' : Hp) (CC : List (Int × Int × Int)) (zs : List V), σ = [y0, y1, y2, y3, some vR, some vG, some vC, some (.ref aS), some (.ref D), some (.int (j : Int)), y10, y11, y12, y13, y14, y15, none, none, none, none, none, none, none, none, none, none, none] ∧ Fz H A H' A' ∧ Same A2 A' ∧ A' D = none ∧ H' D = some (.lst zs) ∧ Trs K A' zs CC ∧ Crn2 (n + 4) (sA n R) (sB n R) (sC n g) j i CC)
      ⟨y10, y11, y12, y13, y14, y15, A2, CC, zs, rfl, f2, Same.refl _, hAD2, hHD2, hT2, hcr⟩ (fun i σ H' _ ⟨_, _, _, _, _, _, A', _, _, _, fz, sz, _⟩ => fz.sub.seq (sz.seq hL2)) ?_ ?_⟩
    · rintro i one σ H3 hi ⟨z10, z11, z12, z13, z14, z15, A3, C3, zs3, rfl, f3, s23, hAD3, hHD3, hT3, hcr3⟩
      have hij : i < j := by rw [← lj]; exact (List.getElem?_eq_some_iff.mp hi).1
      rw [List.getElem?_take, if_pos hij] at hi
      obtain ⟨x', e', t1⟩ := hSd.2 i (by omega)
      obtain rfl : x' = one := Option.some.inj (e'.symm.trans hi)
      have t1' := t1.up f3.ext
      -- two
      have hSd3 : Ls K A3 (.ref aS) (n + 4) (fun i x => Tri K A3 x (sA n R i, sB n R i, sC n g i)) := ⟨aS, xs, rfl, f3.ext.seq hSq, hSd.mono fun i x _ p => p.up f3.ext⟩
      refine ⟨.ref aS, rfl, .int (j : Int), rfl, ixL f3.sub hSd3 hjn fun two t2 => ?_⟩
      obtain ⟨a1, a2, a3⟩ := bdS i (by omega)
      obtain ⟨b1, b2, b3⟩ := bdS j hjn
      have sm2 : ∀ i j : Int, i.natAbs ≤ 200 → j.natAbs ≤ 200 → CMulW i j := fun i j h1 h2 => smul i j h1 (by omega)
      refine ⟨x', rfl, ixT0 f3.sub t1' ⟨two, rfl, ixT1 f3.sub t2 ⟨_, _, rfl, rfl, sm2 _ _ a1 b2, ?_⟩⟩⟩
      refine ⟨x', rfl, ixT1 f3.sub t1' ⟨two, rfl, ixT0 f3.sub t2 ⟨_, _, rfl, rfl, sm2 _ _ a2 b1, _, _, rfl, rfl, ?_⟩⟩⟩
      refine ⟨_, rfl, rfl, _, rfl, ?_⟩
      by_cases det : sA n R i * sB n R j - sB n R i * sA n R j = 0
      · refine ifF (by show (!decide (V.int (sA n R i * sB n R j - sB n R i * sA n R j) = V.int 0)) = false; rw [det]; rfl) ?_
        exact ⟨_, _, _, _, _, _, A3, C3, zs3, rfl, f3, s23, hAD3, hHD3, hT3, hcr3.skip fun h => absurd det h⟩
      · refine ifT (by show (!decide (V.int (sA n R i * sB n R j - sB n R i * sA n R j) = V.int 0)) = true; rw [decide_eq_false (fun e => det (V.int.inj e))]; rfl) ?_
        -- x, y
        refine ⟨x', rfl, ixT2 f3.sub t1' ⟨two, rfl, ixT1 f3.sub t2 ⟨_, _, rfl, rfl, sm2 _ _ a3 b2, ?_⟩⟩⟩
        refine ⟨two, rfl, ixT2 f3.sub t2 ⟨x', rfl, ixT1 f3.sub t1' ⟨_, _, rfl, rfl, sm2 _ _ b3 a2, _, _, rfl, rfl, ?_⟩⟩⟩
        refine ⟨x', rfl, ixT0 f3.sub t1' ⟨two, rfl, ixT2 f3.sub t2 ⟨_, _, rfl, rfl, sm2 _ _ a1 b3, ?_⟩⟩⟩
        refine ⟨two, rfl, ixT0 f3.sub t2 ⟨x', rfl, ixT2 f3.sub t1' ⟨_, _, rfl, rfl, sm2 _ _ b1 a3, _, _, rfl, rfl, _, _, rfl, ?_⟩⟩⟩
        dsimp only
        refine seq_mid (fun σ H' => ∃ (y13 y14 : Option V) (pt : V) (A' : Hp), σ = [y0, y1, y2, y3, some vR, some vG, some vC, some (.ref aS), some (.ref D), some (.int (j : Int)), some x', some two, some (.int (sA n R i * sB n R j - sB n R i * sA n R j)), y13, y14, some pt, none, none, none, none, none, none, none, none, none, none, none] ∧ Fz H3 A3 H' A' ∧ Tri K A' pt (crn (sA n R) (sB n R) (sC n g) i j)) ?_ ?_
        · rintro σ H4 ⟨y13, y14, pt, A4, rfl, f4, tp⟩
          have cb : Bd3 (crn (sA n R) (sB n R) (sC n g) i j) := crn_bd ⟨a1, a2, a3⟩ ⟨b1, b2, b3⟩
          obtain ⟨v, ev⟩ : ∃ v, v = crn (sA n R) (sB n R) (sC n g) i j := ⟨_, rfl⟩
          rw [← ev] at tp cb
          obtain ⟨v1, v2, v3⟩ := id cb
          have f34 := f3.trans f4
          have hHD4 := f4.kee _ _ hHD3
          have hAD4 := f4.off hHD3 hAD3
          have hT4 := hT3.up f4.ext
          have s24 := s23.trans f4.ext
          have hSq4 := f34.ext.seq hSq
          have hSd4 := hSd.mono fun i x _ p => p.up f34.ext
          refine ⟨.ref aS, rfl, aS, rfl, ⟨xs, f4.sub.seq hSq4⟩, fun E1 hE1 => ?_⟩
          refine lc_it (walk_list (xs := xs)) (fun k H' => ∃ A' ys Lk, Fz H4 A4 H' A' ∧ A' E1 = none ∧ H' E1 = some (.lst ys) ∧ Trs K A' ys Lk ∧ Viol (sA n R) (sB n R) (sC n g) v k Lk)
            ⟨A4, [], [], (Fz.refl f4.sub).laidM hE1, f4.sub.free hE1, upd_same, .nil, Viol.start⟩ (fun k H' _ ⟨A', ys, Lk, fz, _⟩ => (f4.sub.trans fz.kee).seq hSq4) ?_ ?_
          · rintro k x H5 H6 hk ⟨A5, ys, Lk, f5, hAE, hHE, hTL, hV⟩ ⟨rfl, hx⟩
            obtain ⟨x2, e2, tk⟩ := hSd4.2 k (by omega)
            obtain rfl : x2 = x := Option.some.inj (e2.symm.trans hx)
            have tk5 := tk.up f5.ext
            have tp5 := tp.up f5.ext
            obtain ⟨d1, d2, d3⟩ := bdS k (by omega)
            refine ⟨rfl, x2, rfl, ixT0 f5.sub tk5 ⟨pt, rfl, ixT0 f5.sub tp5 ⟨_, _, rfl, rfl, smul _ _ d1 v1, ?_⟩⟩⟩
            refine ⟨x2, rfl, ixT1 f5.sub tk5 ⟨pt, rfl, ixT1 f5.sub tp5 ⟨_, _, rfl, rfl, smul _ _ d2 v2, _, _, rfl, rfl, ?_⟩⟩⟩
            refine ⟨x2, rfl, ixT2 f5.sub tk5 ⟨pt, rfl, ixT2 f5.sub tp5 ⟨_, _, rfl, rfl, smul _ _ d3 v3, _, _, rfl, rfl, _, rfl, ite2 (fun e => ?_) (fun e => ?_)⟩⟩⟩
            · have lt : sC n g k * v.2.2 < sA n R k * v.1 + sB n R k * v.2.1 := of_decide_eq_true e
              refine ⟨x2, rfl, ys, hHE, small1000 (by have := hTL.len; have := hV.1; omega), A5, ys ++ [x2], Lk ++ [_], f5.put hAE hE1, hAE, upd_same, hTL.snoc tk5, hV.yes lt⟩
            · have nlt : ¬ sC n g k * v.2.2 < sA n R k * v.1 + sB n R k * v.2.1 := fun h => e (decide_eq_true h)
              exact ⟨A5, ys, Lk, f5, hAE, hHE, hTL, hV.no (by omega)⟩
          · rintro H5 ⟨A5, ys, Lk, f5, hAE, hHE, hTL, hV⟩
            rw [lS] at hV
            have f6 := f5.fix hHE hAE hE1
            have hTL6 := hTL.up (same_new (o := .lst ys) hAE)
            have hLE : SqL K (upd A5 E1 (.lst ys)) E1 ys := SqL.of upd_same
            generalize upd A5 E1 (.lst ys) = A6 at f6 hTL6 hLE
            refine ⟨(by show 0 ≤ sizeLine; decide), fun E2 hE2 => ?_⟩
            have f7 := f6.laidM (o := .lst []) hE2
            refine ⟨.list (Lk.map triD), .list [], .lst (f7.sub.seq hLE) (hTL6.dp f7.sub), .lst (SqL.of upd_same) .nil, shapedTrs _, shaped_list (fun d hd => by cases hd), _, rfl, ?_⟩
            rw [eqv_nil]
            generalize upd H5 E2 (.lst []) = H7 at f7 ⊢
            have fa := f34.trans f7
            have hHD7 := f7.kee _ _ hHD4
            have hAD7 := f7.off hHD4 hAD4
            have hT7 := hT4.up f7.ext
            refine ite2 (fun e => ?_) (fun e => ?_)
            · have eL : Lk = [] := by
                cases Lk with
                | nil => rfl
                | cons a l => cases e
              have hin := hV.2.mp eL
              have tp7 := tp.up f7.ext
              refine ⟨.ref D, rfl, .inl ⟨rfl, _, .inl (.inl hHD7)⟩, pt, rfl, D, _, _, rfl, rfl, hHD7, small1000 (by have := hT7.len; have := hcr3.len; omega), ?_⟩
              rw [ev] at hin tp7 cb
              exact ⟨_, _, _, _, _, _, A6, _, _, rfl, fa.put hAD7 hD, s24.trans f7.ext, hAD7, upd_same, hT7.snoc tp7, hcr3.add det hin cb⟩
            · have nL : ¬ InT (n + 4) (sA n R) (sB n R) (sC n g) v := fun h => e (by rw [hV.2.mpr h]; rfl)
              rw [ev] at nL
              exact ⟨_, _, _, _, _, _, A6, C3, zs3, rfl, fa, s24.trans f7.ext, hAD7, hHD7, hT7, hcr3.skip fun _ => nL⟩
        · intro N hN
          refine ⟨_, rfl, _, _, rfl, rfl, _, rfl, ite2 (fun e => ?_) (fun e => ?_)⟩
          · have dp : 0 < sA n R i * sB n R j - sB n R i * sA n R j := of_decide_eq_true e
            have ec : crn (sA n R) (sB n R) (sC n g) i j = (sC n g i * sB n R j - sC n g j * sB n R i, sA n R i * sC n g j - sA n R j * sC n g i, sA n R i * sB n R j - sB n R i * sA n R j) := by unfold crn; rw [if_pos dp]
            refine ⟨_, rfl, _, rfl, _, rfl, (by show 3 ≤ sizeLine; decide), fun p4 hp4 => hN _ _ ⟨_, _, .ref p4, _, rfl, (Fz.refl f3.sub).laid hp4, p4, rfl, ?_⟩⟩
            rw [ec]; exact SqT.of upd_same
          · have dp : ¬ 0 < sA n R i * sB n R j - sB n R i * sA n R j := fun h => e (decide_eq_true h)
            have ec : crn (sA n R) (sB n R) (sC n g) i j = (0 - (sC n g i * sB n R j - sC n g j * sB n R i), 0 - (sA n R i * sC n g j - sA n R j * sC n g i), 0 - (sA n R i * sB n R j - sB n R i * sA n R j)) := by unfold crn; rw [if_neg dp]
            refine ⟨_, rfl, _, _, rfl, rfl, _, rfl, _, _, rfl, rfl, _, rfl, _, _, rfl, rfl, (by show 3 ≤ sizeLine; decide), fun p4 hp4 => hN _ _ ⟨_, _, .ref p4, _, rfl, (Fz.refl f3.sub).laid hp4, p4, rfl, ?_⟩⟩
            rw [ec]; exact SqT.of upd_same
    · rintro σ H3 ⟨z10, z11, z12, z13, z14, z15, A3, C3, zs3, rfl, f3, s23, hAD3, hHD3, hT3, hcr3⟩
      rw [lj] at hcr3
      exact ⟨_, _, _, _, _, _, _, A3, C3, zs3, rfl, f3, hAD3, hHD3, hT3, hcr3.turn (by omega)⟩
  · rintro σ H1 ⟨y9, y10, y11, y12, y13, y14, y15, A1, CC, zs, rfl, f1, hAD, hHD, hT, hcr⟩
    rw [Int.toNat_natCast, lS] at hcr
    have f2 := f1.fix hHD hAD hD
    have sn := same_new (o := .lst zs) hAD
    exact rend _ _ _ _ _ _ _ _ _ _ _ _ _ _ vR vG vC D n R g cs zs CC f2.sub ⟨rowsTUp hR f2.ext, intsTUp hG f2.ext, intsTUp hC f2.ext, hz, zC, n1, n5, SqL.of upd_same, hT.up sn, hcr.done, hcr.bd, by have := hcr.len; omega⟩
end
end BW

namespace BW
open PySem PySem.Spec PyProof.Rows L2 StX

section
variable {P : Program} {w : World} {K : PySem.W.Frag} {mg : Str → Option Value} {base : Heap}
def spLaw (K : PySem.W.Frag) : Sp := fun vs H Q _ => ∃ (a : Addr) (ns : List Int), vs = [.ref a] ∧ SqL K H a (ns.map V.int) ∧ ns.length ≤ 63 ∧ ∀ H', Q (.bl true) H'
theorem ok_law {f C B : Addr} {fd : FuncData} (F : Fun K "law" "law" sLaw f fd) (T : Txt K mg) (X : ErrTxt K mg C) (L : LawTxt K mg C B)
    (hTa : Has P w K mg base CX0 1 "_law_taken" ["_law_row", "_law_many"] (spTaken K)) (hPi : Has P w K mg base CX0 2 "_law_pick" ["_law_row", "_law_things"] (spPick K)) (hSg : Has P w K mg base CX0 2 "_law_signed" ["_law_row", "_law_most"] (spSigned K))
    (hLo : Has P w K mg base CX0 2 "_law_lowest" ["_law_numerator", "_law_denominator"] (spLowest K)) (hLe : Has P w K mg base CX0 1 "_law_less" ["_law_one", "_law_other"] (spLess K)) (hBe : Has P w K mg base (L2.CX P w) 10 "best" ["rows", "goal", "costs"] (spBest K C)) :
    FnOk P w K mg base CX0 11 f fd ["_law_script"] (spLaw K) := by
  obtain ⟨fTa, fdTa, GTa, gTa, kTa, bTa⟩ := hTa
  obtain ⟨fPi, fdPi, GPi, gPi, kPi, bPi⟩ := hPi
  obtain ⟨fSg, fdSg, GSg, gSg, kSg, bSg⟩ := hSg
  refine F.ok scLaw (fun vs H Q E h => ?_) (fun cdv A₀ outer s H vs Q E hr h => ?_)
  · obtain ⟨a, ns, rfl, _⟩ := h; rfl
  · obtain ⟨sc, ns, rfl, hNs, _, q⟩ := h
    obtain ⟨tmid, hmid, rmid⟩ := law_mid (P := P) (w := w) (base := base) (f := f) (cdv := cdv) (A₀ := A₀) (outer := outer) (s := s) (H0 := H) (E := E) hr T X L hLo hLe hBe q
    refine ⟨_, (pss_cons (ps_set (i := 1) scLaw.nd rfl (.inr rfl) (pe_lst (pa_cons (pv 0) (pa_cons pe_int (pa_cons pe_int (pa_cons pe_int pa_nil))))))
      (pss_cons (ps_asg (pe_tup (pa_cons (pe_op op_add pe_int (pe_call GTa (hr.mono (by decide)) rfl gTa kTa bTa .nil pass0 (pa_cons (pv 1) (pa_cons pe_int pa_nil)))) (pa_cons (pe_call GPi (hr.mono (by decide)) rfl gPi kPi bPi .nil pass0 (pa_cons (pv 1) (pa_cons (pe_lst (pa_cons pe_int (pa_cons pe_int pa_nil))) pa_nil))) pa_nil))) (pg_tup rfl (pgs_cons (pg_name (i := 2) scLaw.nd rfl (.inl rfl)) (pgs_cons (pg_name (i := 3) scLaw.nd rfl (.inr rfl)) pgs_nil))))
      (pss_cons (ps_set (i := 4) scLaw.nd rfl (.inl rfl) (pe_tupleOf (by rfl) T.tuple (pe_lc (own := [("_law_line", 24)]) (g := gName 24) rfl scLaw.nd (pi_range1 rfl T.range (pa_cons (pv 2) pa_nil)) (blkOk_by (own := [("_law_line", 24)]) (N := NLaw) (sc := defScope sLaw) (by decide +kernel)) (fun _ _ _ _ _ => by exact pg_name (i := 24) scLaw.nd rfl (.inl rfl)) (fun _ _ _ _ _ => pts_nil) (fun _ _ _ _ _ => (pe_tup (pa_cons (pe_call GSg (hr.mono (by decide)) rfl gSg kSg bSg .nil pass0 (pa_cons (pv 1) (pa_cons (pv 3) pa_nil))) (pa_cons (pe_call GSg (hr.mono (by decide)) rfl gSg kSg bSg .nil pass0 (pa_cons (pv 1) (pa_cons (pv 3) pa_nil))) pa_nil)))))))
      (pss_cons (ps_asg (pe_tup (pa_cons (pe_tupleOf (by rfl) T.tuple (pe_lc (own := [("_law_line", 24)]) (g := gName 24) rfl scLaw.nd (pi_range1 rfl T.range (pa_cons (pv 2) pa_nil)) (blkOk_by (own := [("_law_line", 24)]) (N := NLaw) (sc := defScope sLaw) (by decide +kernel)) (fun _ _ _ _ _ => by exact pg_name (i := 24) scLaw.nd rfl (.inl rfl)) (fun _ _ _ _ _ => pts_nil) (fun _ _ _ _ _ => (pe_op op_add (pe_call GSg (hr.mono (by decide)) rfl gSg kSg bSg .nil pass0 (pa_cons (pv 1) (pa_cons pe_int pa_nil))) pe_int)))) (pa_cons (pe_tup (pa_cons (pe_call GSg (hr.mono (by decide)) rfl gSg kSg bSg .nil pass0 (pa_cons (pv 1) (pa_cons pe_int pa_nil))) (pa_cons (pe_call GSg (hr.mono (by decide)) rfl gSg kSg bSg .nil pass0 (pa_cons (pv 1) (pa_cons pe_int pa_nil))) pa_nil))) pa_nil))) (pg_tup rfl (pgs_cons (pg_name (i := 5) scLaw.nd rfl (.inl rfl)) (pgs_cons (pg_name (i := 6) scLaw.nd rfl (.inr rfl)) pgs_nil))))
      (pss_cons (ps_set (i := 7) scLaw.nd rfl (.inl rfl) (pe_op op_cat (pe_lc (own := [("_law_line", 24), ("_law_part", 25)]) (g := gTup K 2 (gCons (gName 24) (gCons (gName 25) gNil))) rfl scLaw.nd (RZ.pi_zipA (by rfl) T.zip (pa_cons (pv 4) (pa_cons (pv 5) pa_nil))) (blkOk_by (own := [("_law_line", 24), ("_law_part", 25)]) (N := NLaw) (sc := defScope sLaw) (by decide +kernel)) (fun _ _ _ _ _ => by exact pg_tup rfl (pgs_cons (pg_name (i := 24) scLaw.nd rfl (.inl rfl)) (pgs_cons (pg_name (i := 25) scLaw.nd rfl (.inl rfl)) pgs_nil))) (fun _ _ _ _ _ => pts_nil) (fun _ _ _ _ _ => (pe_op (r := rCatT K) op_catT (pv 24) (pe_tup (pa_cons (pv 25) pa_nil))))) (pe_lst (pa_cons (pe_tup (pa_cons (pe_op op_sub pe_int pe_int) (pa_cons pe_int (pa_cons pe_int pa_nil)))) (pa_cons (pe_tup (pa_cons pe_int (pa_cons (pe_op op_sub pe_int pe_int) (pa_cons pe_int pa_nil)))) (pa_cons (pe_tup (pa_cons pe_int (pa_cons pe_int (pa_cons pe_int pa_nil)))) (pa_cons (pe_tup (pa_cons pe_int (pa_cons pe_int (pa_cons pe_int pa_nil)))) pa_nil)))))))
      hmid))))), ?_⟩
    clear hr hmid hLo hLe hBe
    have f0 : Fz H H H H := Fz.refl (Same.refl H)
    -- the row of draws
    refine ⟨_, rfl, (by show 4 ≤ sizeLine; decide), fun r hr0 => ?_⟩
    have f1 := f0.laidM (o := .lst [.ref sc, .int 0, .int 5001, .int 0]) hr0
    have ro1 : RowAt K H (upd H r (.lst [.ref sc, .int 0, .int 5001, .int 0])) r sc ns := ⟨hr0, hNs, 0, 5001, 0, by decide, by decide, by decide, upd_same⟩
    generalize upd H r (.lst [.ref sc, .int 0, .int 5001, .int 0]) = H1 at f1 ro1 ⊢
    -- high, top
    refine ⟨.ref r, rfl, H, r, sc, ns, 5, rfl, f1.sub, ro1, by decide, by decide, fun x1 H2 x1a x1b o2 ro2 => ⟨_, _, rfl, rfl, ?_⟩⟩
    obtain ⟨n, en, n1, n5⟩ : ∃ n : Nat, 1 + x1 = (n : Int) ∧ 1 ≤ n ∧ n ≤ 5 := ⟨(1 + x1).toNat, by omega, by omega, by omega⟩
    have en' : V.int (1 + x1) = V.int (n : Int) := by rw [en]
    clear en
    have f2 := f1.off' o2 ro1.no hr0
    refine ⟨.ref r, rfl, (by show 2 ≤ sizeLine; decide), fun l hl => ?_⟩
    have f3 := f2.laid (o := .lst [.int 3, .int 9]) hl
    have ro3 := ro2.to (A' := upd H l (.lst [.int 3, .int 9])) (H' := upd H2 l (.lst [.int 3, .int 9])) (same_new (f2.sub.free hl)) (by rw [upd_ne (ro2.ne hl)]; exact ro2.no) (upd_ne (ro2.ne hl))
    refine ⟨upd H l (.lst [.int 3, .int 9]), r, sc, ns, _, 2, fun _ x => ∃ t : Int, x = .int t ∧ 0 ≤ t ∧ t ≤ 9, rfl, f3.sub, ro3, ⟨l, _, rfl, SqL.of upd_same, rfl, fun i hi => ?_⟩, by decide, by decide, fun tv i H3 _ ⟨tp, et, t0, t9⟩ o3 ro4 => ?_⟩
    · have : i = 0 ∨ i = 1 := by omega
      rcases this with e | e <;> subst e
      · exact ⟨_, rfl, 3, rfl, by decide, by decide⟩
      · exact ⟨_, rfl, 9, rfl, by decide, by decide⟩
    subst et
    have f4 := f3.off' o3 ro3.no hr0
    generalize upd H l (.lst [.int 3, .int 9]) = A3 at f3 f4 ro3 ro4
    refine ⟨(by show 2 ≤ sizeLine; decide), fun p hp => ⟨p, _, rfl, SqT.of upd_same, rfl, _, _, rfl, _, _, rfl, rfl, ?_⟩⟩
    have f5 := f4.laidM (o := .tup [.int (1 + x1), .int tp]) hp
    have ro5 := ro4.to (H' := upd H3 p (.tup [.int (1 + x1), .int tp])) (Same.refl _) ro4.no (upd_ne (ro4.ne hp))
    generalize upd H3 p (.tup [.int (1 + x1), .int tp]) = H5 at f5 ro5 ⊢
    -- rows
    refine ⟨_, rfl, (n : Int), congrArg (fun z => [z]) en', by omega, by omega, fun D hD => ?_⟩
    have neD := ro5.ne hD
    have hD0 := f5.kee.free hD
    let XR : Hp → V → Prop := fun A x => ∃ y : Int × Int, ((-9 ≤ y.1 ∧ y.1 ≤ 9) ∧ (-9 ≤ y.2 ∧ y.2 ≤ 9)) ∧ IntsT K A x 2 (two y)
    have stR : ∀ A A' x, Same A A' → XR A x → XR A' x := fun A A' x e ⟨y, h1, h2⟩ => ⟨y, h1, intsTUp h2 e⟩
    refine lc_range (lo := 0) (n := ((n : Int)).toNat) (Drw K H A3 r sc ns D XR) (Drw.start f5 ro5 hD) ?_ ?_
    · rintro i H6 hi ⟨A6, zs, f6, s6, hAD, hHD, hSq, ro6⟩
      refine ⟨rfl, .ref r, rfl, .int tp, rfl, A6, r, sc, ns, tp, rfl, f6.sub, ro6, t0, by omega, fun y1 H7 a1 a2 o7 ro7 => ?_⟩
      refine ⟨.ref r, rfl, .int tp, rfl, A6, r, sc, ns, tp, rfl, o7.same f6.sub ro6.no, ro7, t0, by omega, fun y2 H8 b1 b2 o8 ro8 => ?_⟩
      refine ⟨(by show 2 ≤ sizeLine; decide), fun p2 hp2 => ?_⟩
      have o68 := o7.trans o8
      have f8 := f6.off' o68 ro6.no hr0
      have f9 := f8.laid (o := .tup [.int y1, .int y2]) hp2
      have s9 := same_new (o := .tup [.int y1, .int y2]) (f8.sub.free hp2)
      have Dp2 : D ≠ p2 := ne_of_none (show H8 D = some (.lst zs) by rw [o68 D neD.symm]; exact hHD) hp2
      have rp2 := ro8.ne hp2
      refine Drw.more stR s6 (by rw [upd_ne Dp2]; exact hAD) hHD hSq f9 s9 (by rw [upd_ne Dp2, o68 D neD.symm]) (ro8.to s9 (by rw [upd_ne rp2]; exact ro8.no) (upd_ne rp2)) hD0 neD (by omega) ⟨(y1, y2), ⟨⟨by omega, by omega⟩, by omega, by omega⟩, p2, _, rfl, SqT.of upd_same, sq2 rfl rfl⟩
    · intro H6 d6
      rw [Int.toNat_natCast] at d6
      obtain ⟨A6, zsR, f6, _, hLR, hSR, ro6⟩ := Drw.done stR neD hD0 d6
      obtain ⟨fR, hSR⟩ := Sq.choose hSR
      refine .inl ⟨D, zsR, rfl, f6.sub.seq hLR, fun pR hpR => ?_⟩
      have f7 := f6.laid (o := .tup zsR) hpR
      have s7 := same_new (o := .tup zsR) (f6.sub.free hpR)
      have hRows : RowsT K (upd A6 pR (.tup zsR)) (.ref pR) n (fun i => two (fR i)) := ⟨pR, zsR, rfl, SqT.of upd_same, hSR.mono fun i x _ p => intsTUp p.2 s7⟩
      have bR : ∀ i, i < n → (-9 ≤ (fR i).1 ∧ (fR i).1 ≤ 9) ∧ (-9 ≤ (fR i).2 ∧ (fR i).2 ≤ 9) := fun i hi => let ⟨x, _, h, _⟩ := hSR.2 i hi; h
      have ro7 := ro6.to (A' := upd A6 pR (.tup zsR)) (H' := upd H6 pR (.tup zsR)) s7 (by rw [upd_ne (ro6.ne hpR)]; exact ro6.no) (upd_ne (ro6.ne hpR))
      generalize upd A6 pR (.tup zsR) = A7 at f7 s7 hRows ro7
      generalize upd H6 pR (.tup zsR) = H7 at f7 ro7 ⊢
      -- goal
      refine ⟨_, rfl, (n : Int), congrArg (fun z => [z]) en', by omega, by omega, fun D2 hD2 => ?_⟩
      have neD2 := ro7.ne hD2
      have hD20 := f7.kee.free hD2
      have stG : ∀ (A A' : Hp) (x : V), Same A A' → (∃ y : Int, (-6 ≤ y ∧ y ≤ 12) ∧ x = .int y) → ∃ y : Int, (-6 ≤ y ∧ y ≤ 12) ∧ x = .int y := fun _ _ _ _ h => h
      refine lc_range (lo := 0) (n := ((n : Int)).toNat) (Drw K H A7 r sc ns D2 fun _ x => ∃ y : Int, (-6 ≤ y ∧ y ≤ 12) ∧ x = .int y) (Drw.start f7 ro7 hD2) ?_ ?_
      · rintro i H8 hi ⟨A8, zs, f8, s8, hAD, hHD, hSq, ro8⟩
        refine ⟨rfl, .ref r, rfl, A8, r, sc, ns, 9, rfl, f8.sub, ro8, by decide, by decide, fun y1 H9 a1 a2 o9 ro9 => ⟨_, _, rfl, rfl, ?_⟩⟩
        exact Drw.more stG s8 hAD hHD hSq (f8.off' o9 ro8.no hr0) (Same.refl _) (o9 D2 neD2.symm) ro9 hD20 neD2 (by omega) ⟨_, ⟨by omega, by omega⟩, rfl⟩
      · intro H8 d8
        rw [Int.toNat_natCast] at d8
        obtain ⟨A8, zsG, f8, s78, hLG, hSG, ro8⟩ := Drw.done stG neD2 hD20 d8
        obtain ⟨g, hSG⟩ := Sq.choose hSG
        refine .inl ⟨D2, zsG, rfl, f8.sub.seq hLG, fun pG hpG => ?_⟩
        have f9 := f8.laid (o := .tup zsG) hpG
        have s9 := same_new (o := .tup zsG) (f8.sub.free hpG)
        have hGoal : IntsT K (upd A8 pG (.tup zsG)) (.ref pG) n g := ⟨pG, zsG, rfl, SqT.of upd_same, hSG.mono fun i x _ p => p.2⟩
        have bG : ∀ i, i < n → -6 ≤ g i ∧ g i ≤ 12 := fun i hi => let ⟨x, _, h, _⟩ := hSG.2 i hi; h
        have hRows9 := rowsTUp hRows (s78.trans s9)
        have ro9 := ro8.to (A' := upd A8 pG (.tup zsG)) (H' := upd H8 pG (.tup zsG)) s9 (by rw [upd_ne (ro8.ne hpG)]; exact ro8.no) (upd_ne (ro8.ne hpG))
        generalize upd A8 pG (.tup zsG) = A9 at f9 s9 hGoal hRows9 ro9
        generalize upd H8 pG (.tup zsG) = H9 at f9 ro9 ⊢
        -- costs
        refine ⟨.ref r, rfl, A9, r, sc, ns, 9, rfl, f9.sub, ro9, by decide, by decide, fun c0 H10 c0a c0b o10 ro10 => ?_⟩
        refine ⟨.ref r, rfl, A9, r, sc, ns, 9, rfl, o10.same f9.sub ro9.no, ro10, by decide, by decide, fun c1 H11 c1a c1b o11 ro11 => ?_⟩
        refine ⟨(by show 2 ≤ sizeLine; decide), fun pC hpC => ?_⟩
        have fb := f9.off' (o10.trans o11) ro9.no hr0
        have f11 := fb.laid (o := .tup [.int c0, .int c1]) hpC
        have s11 := same_new (o := .tup [.int c0, .int c1]) (fb.sub.free hpC)
        have hCost : IntsT K (upd A9 pC (.tup [.int c0, .int c1])) (.ref pC) 2 (two (c0, c1)) := ⟨pC, _, rfl, SqT.of upd_same, sq2 rfl rfl⟩
        have hRows11 := rowsTUp hRows9 s11
        have hGoal11 := intsTUp hGoal s11
        generalize upd A9 pC (.tup [.int c0, .int c1]) = A11 at f11 hCost hRows11 hGoal11
        generalize upd H11 pC (.tup [.int c0, .int c1]) = H11' at f11 ⊢
        refine ⟨(by show 2 ≤ sizeLine; decide), fun pT hpT => ⟨pT, _, rfl, SqT.of upd_same, rfl, _, _, rfl, _, _, rfl, rfl, ?_⟩⟩
        have f12 := f11.laidM (o := .tup [.ref pG, .ref pC]) hpT
        generalize upd H11' pT (.tup [.ref pG, .ref pC]) = H12 at f12 ⊢
        clear ro1 ro2 ro3 ro4 ro5 ro6 ro7 ro8 ro9 ro10 ro11 d6 d8 o2 o3 o10 o11 hLR hLG hSR hSG
        -- the sides
        obtain ⟨aR, xR, eR, hLR, hSR⟩ := id hRows11
        cases eR
        obtain ⟨aG, xG, eG, hLG, hSG⟩ := id hGoal11
        cases eG
        refine ⟨_, rfl, _, rfl, pR, pG, xR, xG, rfl, .inr ⟨sameT f12.sub hLR, sameT f12.sub hLG, fun D3 hD3 => ?_⟩⟩
        refine lc_it (walk_zipT (n := n) (by rw [hSR.1, hSG.1]; omega)) (Bld H12 A11 D3 fun A' i x => Tri K A' x (two (fR i) 0, two (fR i) 1, g i)) (Bld.start (Fz.refl f12.sub) hD3) (fun i H' _ ⟨A', zs, fz, _⟩ => ⟨sameT (f12.sub.trans fz.kee) hLR, sameT (f12.sub.trans fz.kee) hLG⟩) ?_ ?_
        · rintro i x H13 H14 hi ⟨A13, zs, f13, hAD, hHD, hSq⟩ hY
          obtain ⟨Tt, x1, x2, rfl, hT', rfl, p1, p2, fz'⟩ := zip_go hSR hSG hi hi f13 hY
          obtain ⟨aL, xL, rfl, hLL, hSL⟩ := id p1
          obtain rfl := sq2_eq hSL
          subst p2
          refine ⟨Tt, [.ref aL, .int (g i)], rfl, SqT.of upd_same, rfl, _, _, rfl, _, _, rfl, rfl, rfl, ?_⟩
          refine ⟨.ref aL, rfl, .int (g i), rfl, (by show 1 ≤ sizeLine; decide), fun p1 hp1 => ?_⟩
          have g1 := ((Fz.refl f13.sub).laidM (o := .tup [.ref aL, .int (g i)]) hT').laidM (o := .tup [.int (g i)]) hp1
          refine ⟨aL, p1, _, _, rfl, rfl, sameT (g1.sub.trans (Same.refl _)) (sameT f13.ext hLL), SqT.of upd_same, (fun e => by cases e), (by show 3 ≤ sizeLine; decide), (fun e => by cases e), fun _ p2 hp2 => ?_⟩
          have g2 := g1.laid (o := .tup [.int (two (fR i) 0), .int (two (fR i) 1), .int (g i)]) hp2
          exact Bld.more (P := fun A' i x => Tri K A' x (two (fR i) 0, two (fR i) 1, g i)) (fun _ _ _ _ s p => p.up s) f13 hAD hHD hSq g2 hD3 (by omega) ⟨p2, rfl, SqT.of upd_same⟩
        · intro H13 hb13
          obtain ⟨A13, xs13, f13, hA13, hs13⟩ := Bld.done2 (P := fun A' i x => Tri K A' x (two (fR i) 0, two (fR i) 1, g i)) (fun _ _ _ _ s p => p.up s) hD3 hb13
          have hH13 := f13.sub _ _ hA13
          -- the axes and the box
          refine ⟨_, _, rfl, rfl, (by show 3 ≤ sizeLine; decide), fun q1 hq1 => ?_⟩
          have g1 := f13.laid (o := .tup [.int (0 - 1), .int 0, .int 0]) hq1
          have t1 := same_new (o := .tup [.int (0 - 1), .int 0, .int 0]) (f13.sub.free hq1)
          refine ⟨_, _, rfl, rfl, (by show 3 ≤ sizeLine; decide), fun q2 hq2 => ?_⟩
          have g2 := g1.laid (o := .tup [.int 0, .int (0 - 1), .int 0]) hq2
          have t2 := same_new (o := .tup [.int 0, .int (0 - 1), .int 0]) (g1.sub.free hq2)
          refine ⟨(by show 3 ≤ sizeLine; decide), fun q3 hq3 => ?_⟩
          have g3 := g2.laid (o := .tup [.int 1, .int 0, .int 200]) hq3
          have t3 := same_new (o := .tup [.int 1, .int 0, .int 200]) (g2.sub.free hq3)
          refine ⟨(by show 3 ≤ sizeLine; decide), fun q4 hq4 => ?_⟩
          have g4 := g3.laid (o := .tup [.int 0, .int 1, .int 200]) hq4
          have t4 := same_new (o := .tup [.int 0, .int 1, .int 200]) (g3.sub.free hq4)
          have tt := ((t1.trans t2).trans t3).trans t4
          have r1 : Tri K (upd (upd (upd (upd A13 q1 (.tup [.int (0 - 1), .int 0, .int 0])) q2 (.tup [.int 0, .int (0 - 1), .int 0])) q3 (.tup [.int 1, .int 0, .int 200])) q4 (.tup [.int 0, .int 1, .int 200])) (.ref q1) (-1, 0, 0) := ⟨q1, rfl, sameT ((t2.trans t3).trans t4) (SqT.of upd_same)⟩
          have r2 : Tri K (upd (upd (upd (upd A13 q1 (.tup [.int (0 - 1), .int 0, .int 0])) q2 (.tup [.int 0, .int (0 - 1), .int 0])) q3 (.tup [.int 1, .int 0, .int 200])) q4 (.tup [.int 0, .int 1, .int 200])) (.ref q2) (0, -1, 0) := ⟨q2, rfl, sameT (t3.trans t4) (SqT.of upd_same)⟩
          have r3 : Tri K (upd (upd (upd (upd A13 q1 (.tup [.int (0 - 1), .int 0, .int 0])) q2 (.tup [.int 0, .int (0 - 1), .int 0])) q3 (.tup [.int 1, .int 0, .int 200])) q4 (.tup [.int 0, .int 1, .int 200])) (.ref q3) (1, 0, 200) := ⟨q3, rfl, sameT t4 (SqT.of upd_same)⟩
          have r4 : Tri K (upd (upd (upd (upd A13 q1 (.tup [.int (0 - 1), .int 0, .int 0])) q2 (.tup [.int 0, .int (0 - 1), .int 0])) q3 (.tup [.int 1, .int 0, .int 200])) q4 (.tup [.int 0, .int 1, .int 200])) (.ref q4) (0, 1, 200) := ⟨q4, rfl, SqT.of upd_same⟩
          have hs14 := hs13.mono fun i x _ p => p.up tt
          have hH14 := (((Fz.refl g4.sub).kee)) 
          have hD14 : (upd (upd (upd (upd H13 q1 (.tup [.int (0 - 1), .int 0, .int 0])) q2 (.tup [.int 0, .int (0 - 1), .int 0])) q3 (.tup [.int 1, .int 0, .int 200])) q4 (.tup [.int 0, .int 1, .int 200])) D3 = some (.lst xs13) :=
            (((same_new hq1).trans (same_new hq2)).trans (same_new hq3)).trans (same_new hq4) _ _ hH13
          generalize (upd (upd (upd (upd A13 q1 (.tup [.int (0 - 1), .int 0, .int 0])) q2 (.tup [.int 0, .int (0 - 1), .int 0])) q3 (.tup [.int 1, .int 0, .int 200])) q4 (.tup [.int 0, .int 1, .int 200])) = A14 at g4 r1 r2 r3 r4 hs14 tt
          generalize (upd (upd (upd (upd H13 q1 (.tup [.int (0 - 1), .int 0, .int 0])) q2 (.tup [.int 0, .int (0 - 1), .int 0])) q3 (.tup [.int 1, .int 0, .int 200])) q4 (.tup [.int 0, .int 1, .int 200])) = H14 at g4 hD14 ⊢
          refine ⟨(by show 4 ≤ sizeLine; decide), fun q5 hq5 => ?_⟩
          have D35 : D3 ≠ q5 := ne_of_none hD14 hq5
          refine ⟨D3, q5, xs13, _, rfl, rfl, by rw [upd_ne D35]; exact hD14, upd_same, ?_, fun q6 hq6 => ?_⟩
          · rw [hs13.1]; exact Nat.le_of_lt (small1000 (by show n + 4 ≤ 1000; omega))
          have f15 := (f12.trans (g4.laidM (o := .lst [.ref q1, .ref q2, .ref q3, .ref q4]) hq5)).laid (o := .lst (xs13 ++ [.ref q1, .ref q2, .ref q3, .ref q4])) hq6
          have hq6 := same_new (o := .lst (xs13 ++ [.ref q1, .ref q2, .ref q3, .ref q4])) ((f12.trans (g4.laidM (o := .lst [.ref q1, .ref q2, .ref q3, .ref q4]) hq5)).sub.free hq6)
          have aA := f13.ext.trans (tt.trans hq6)
          have zs : Szs n (fun i => two (fR i)) g := fun i hi => ⟨(bR i hi).1, (bR i hi).2, bG i hi⟩
          refine rmid _ _ _ _ _ _ (.ref pR) (.ref pG) (.ref pC) q6 n (fun i => two (fR i)) g (two (c0, c1)) (xs13 ++ [.ref q1, .ref q2, .ref q3, .ref q4]) f15.sub ⟨rowsTUp hRows11 aA, intsTUp hGoal11 aA, intsTUp hCost aA, zs, fun j hj => ?_, n1, n5, SqL.of upd_same, ?_⟩
          · have : j = 0 ∨ j = 1 := by omega
            rcases this with e | e <;> subst e
            · show c0.natAbs ≤ 9; omega
            · show c1.natAbs ≤ 9; omega
          · refine Sq.app hs14 (sq4 (P := fun j x => Tri K A14 x (sA n (fun i => two (fR i)) (n + j), sB n (fun i => two (fR i)) (n + j), sC n g (n + j))) ?_ ?_ ?_ ?_) (fun i x hi p => ?_) (fun i x hi p => p.up hq6)
            · rw [Nat.add_zero, ax1.1, ax1.2, ax1c]; exact r1
            · rw [ax2.1, ax2.2, ax2c]; exact r2
            · rw [ax3.1, ax3.2, ax3c]; exact r3
            · rw [ax4.1, ax4.2, ax4c]; exact r4
            · have e : (sA n (fun i => two (fR i)) i, sB n (fun i => two (fR i)) i, sC n g i) = (two (fR i) 0, two (fR i) 1, g i) := by
                unfold sA sB sC; rw [if_pos hi, if_pos hi, if_pos hi]
              rw [e]; exact p.up hq6
end
end BW

namespace BW
open PySem PySem.Spec PyProof.Rows L2 StX
/-- a def that the top has written -/
def DefAt (K : PySem.W.Frag) (x : Str) (st : Stmt) (ps : List Str) : Prop := ∃ (f : Addr) (fd : FuncData), PySem.W.nsIn K mainGlobals x = some (some (.ref f)) ∧ PySem.W.keepIn K (.ref f) = true ∧ Fun K x x st f fd ∧ Binds K fd ps []
theorem DefAt.has {P : Program} {w : World} {K : PySem.W.Frag} {mg : Str → Option Value} {base h : Heap} {CX : CXT} {k : Nat} {sp : Sp} {x : Str} {st : Stmt} {ps : List Str} (d : DefAt K x st ps) (X : K.In h) (G : h.Ns mainGlobals mg)
    (ok : ∀ {f : Addr} {fd : FuncData}, Fun K x x st f fd → FnOk P w K mg base CX k f fd ps sp) : Has P w K mg base CX k x ps sp := by
  obtain ⟨f, fd, a, kp, F, b⟩ := d
  exact ⟨f, fd, ok F, PySem.W.mg_of X G a, kp, b⟩
theorem def_at {K : PySem.W.Frag} {x : Str} {st : Stmt} {ps : List Str} {f : Addr} {oc : Value} {od an : Option Addr} {osl : Array (Option Value)} {kV doc pm cdv ct : Value} (a : PySem.W.nsIn K mainGlobals x = some (some (.ref f)))
    (l : K.lookup f = some ⟨oc, od, .func (PySem.W.fnOf x x (defArgs st) (defBody st) (defScope st) .none kV doc pm an cdv ct), osl⟩) (c : PySem.W.codeIn K cdv x = true) (k : PySem.W.keepIn K (.ref f) = true)
    (hb : ∀ (kV doc pm : Value) (an : Option Addr) (cdv ct : Value) (us : List Value), us.length = ps.length → bindArgs (PySem.W.fnOf x x (defArgs st) (defBody st) (defScope st) .none kV doc pm an cdv ct) ⟨us, []⟩ = pure (ps.zip us)) : DefAt K x st ps :=
  ⟨f, _, a, k, fun_mk l c k, (fun_mk l c k).binds hb⟩
theorem at_is_integer {K : PySem.W.Frag} {f : Addr} {oc : Value} {od an : Option Addr} {osl : Array (Option Value)} {kV doc pm cdv ct : Value} (a : PySem.W.nsIn K mainGlobals "is_integer" = some (some (.ref f)))
    (l : K.lookup f = some ⟨oc, od, .func (PySem.W.fnOf "is_integer" "is_integer" (defArgs sIsInt) (defBody sIsInt) (defScope sIsInt) .none kV doc pm an cdv ct), osl⟩) (c : PySem.W.codeIn K cdv "is_integer" = true) (k : PySem.W.keepIn K (.ref f) = true) : DefAt K "is_integer" sIsInt ["value"] :=
  def_at a l c k fun _ _ _ _ _ _ us hl => match us, hl with | [_], _ => rfl
theorem at_is_list {K : PySem.W.Frag} {f : Addr} {oc : Value} {od an : Option Addr} {osl : Array (Option Value)} {kV doc pm cdv ct : Value} (a : PySem.W.nsIn K mainGlobals "is_list" = some (some (.ref f)))
    (l : K.lookup f = some ⟨oc, od, .func (PySem.W.fnOf "is_list" "is_list" (defArgs sIsList) (defBody sIsList) (defScope sIsList) .none kV doc pm an cdv ct), osl⟩) (c : PySem.W.codeIn K cdv "is_list" = true) (k : PySem.W.keepIn K (.ref f) = true) : DefAt K "is_list" sIsList ["value", "least", "most"] :=
  def_at a l c k fun _ _ _ _ _ _ us hl => match us, hl with | [_, _, _], _ => rfl
theorem at_shared {K : PySem.W.Frag} {f : Addr} {oc : Value} {od an : Option Addr} {osl : Array (Option Value)} {kV doc pm cdv ct : Value} (a : PySem.W.nsIn K mainGlobals "shared" = some (some (.ref f)))
    (l : K.lookup f = some ⟨oc, od, .func (PySem.W.fnOf "shared" "shared" (defArgs sShared) (defBody sShared) (defScope sShared) .none kV doc pm an cdv ct), osl⟩) (c : PySem.W.codeIn K cdv "shared" = true) (k : PySem.W.keepIn K (.ref f) = true) : DefAt K "shared" sShared ["one", "other"] :=
  def_at a l c k fun _ _ _ _ _ _ us hl => match us, hl with | [_, _], _ => rfl
theorem at_ratio {K : PySem.W.Frag} {f : Addr} {oc : Value} {od an : Option Addr} {osl : Array (Option Value)} {kV doc pm cdv ct : Value} (a : PySem.W.nsIn K mainGlobals "ratio" = some (some (.ref f)))
    (l : K.lookup f = some ⟨oc, od, .func (PySem.W.fnOf "ratio" "ratio" (defArgs sRatio) (defBody sRatio) (defScope sRatio) .none kV doc pm an cdv ct), osl⟩) (c : PySem.W.codeIn K cdv "ratio" = true) (k : PySem.W.keepIn K (.ref f) = true) : DefAt K "ratio" sRatio ["top", "bottom"] :=
  def_at a l c k fun _ _ _ _ _ _ us hl => match us, hl with | [_, _], _ => rfl
theorem at_plus {K : PySem.W.Frag} {f : Addr} {oc : Value} {od an : Option Addr} {osl : Array (Option Value)} {kV doc pm cdv ct : Value} (a : PySem.W.nsIn K mainGlobals "plus" = some (some (.ref f)))
    (l : K.lookup f = some ⟨oc, od, .func (PySem.W.fnOf "plus" "plus" (defArgs sPlus) (defBody sPlus) (defScope sPlus) .none kV doc pm an cdv ct), osl⟩) (c : PySem.W.codeIn K cdv "plus" = true) (k : PySem.W.keepIn K (.ref f) = true) : DefAt K "plus" sPlus ["one", "other"] :=
  def_at a l c k fun _ _ _ _ _ _ us hl => match us, hl with | [_, _], _ => rfl
theorem at_minus {K : PySem.W.Frag} {f : Addr} {oc : Value} {od an : Option Addr} {osl : Array (Option Value)} {kV doc pm cdv ct : Value} (a : PySem.W.nsIn K mainGlobals "minus" = some (some (.ref f)))
    (l : K.lookup f = some ⟨oc, od, .func (PySem.W.fnOf "minus" "minus" (defArgs sMinus) (defBody sMinus) (defScope sMinus) .none kV doc pm an cdv ct), osl⟩) (c : PySem.W.codeIn K cdv "minus" = true) (k : PySem.W.keepIn K (.ref f) = true) : DefAt K "minus" sMinus ["one", "other"] :=
  def_at a l c k fun _ _ _ _ _ _ us hl => match us, hl with | [_, _], _ => rfl
theorem at_times {K : PySem.W.Frag} {f : Addr} {oc : Value} {od an : Option Addr} {osl : Array (Option Value)} {kV doc pm cdv ct : Value} (a : PySem.W.nsIn K mainGlobals "times" = some (some (.ref f)))
    (l : K.lookup f = some ⟨oc, od, .func (PySem.W.fnOf "times" "times" (defArgs sTimes) (defBody sTimes) (defScope sTimes) .none kV doc pm an cdv ct), osl⟩) (c : PySem.W.codeIn K cdv "times" = true) (k : PySem.W.keepIn K (.ref f) = true) : DefAt K "times" sTimes ["one", "other"] :=
  def_at a l c k fun _ _ _ _ _ _ us hl => match us, hl with | [_, _], _ => rfl
theorem at_over {K : PySem.W.Frag} {f : Addr} {oc : Value} {od an : Option Addr} {osl : Array (Option Value)} {kV doc pm cdv ct : Value} (a : PySem.W.nsIn K mainGlobals "over" = some (some (.ref f)))
    (l : K.lookup f = some ⟨oc, od, .func (PySem.W.fnOf "over" "over" (defArgs sOver) (defBody sOver) (defScope sOver) .none kV doc pm an cdv ct), osl⟩) (c : PySem.W.codeIn K cdv "over" = true) (k : PySem.W.keepIn K (.ref f) = true) : DefAt K "over" sOver ["one", "other"] :=
  def_at a l c k fun _ _ _ _ _ _ us hl => match us, hl with | [_, _], _ => rfl
theorem at_negative {K : PySem.W.Frag} {f : Addr} {oc : Value} {od an : Option Addr} {osl : Array (Option Value)} {kV doc pm cdv ct : Value} (a : PySem.W.nsIn K mainGlobals "negative" = some (some (.ref f)))
    (l : K.lookup f = some ⟨oc, od, .func (PySem.W.fnOf "negative" "negative" (defArgs sNegative) (defBody sNegative) (defScope sNegative) .none kV doc pm an cdv ct), osl⟩) (c : PySem.W.codeIn K cdv "negative" = true) (k : PySem.W.keepIn K (.ref f) = true) : DefAt K "negative" sNegative ["one"] :=
  def_at a l c k fun _ _ _ _ _ _ us hl => match us, hl with | [_], _ => rfl
theorem at_is_less {K : PySem.W.Frag} {f : Addr} {oc : Value} {od an : Option Addr} {osl : Array (Option Value)} {kV doc pm cdv ct : Value} (a : PySem.W.nsIn K mainGlobals "is_less" = some (some (.ref f)))
    (l : K.lookup f = some ⟨oc, od, .func (PySem.W.fnOf "is_less" "is_less" (defArgs sLess) (defBody sLess) (defScope sLess) .none kV doc pm an cdv ct), osl⟩) (c : PySem.W.codeIn K cdv "is_less" = true) (k : PySem.W.keepIn K (.ref f) = true) : DefAt K "is_less" sLess ["one", "other"] :=
  def_at a l c k fun _ _ _ _ _ _ us hl => match us, hl with | [_, _], _ => rfl
theorem at_total {K : PySem.W.Frag} {f : Addr} {oc : Value} {od an : Option Addr} {osl : Array (Option Value)} {kV doc pm cdv ct : Value} (a : PySem.W.nsIn K mainGlobals "total" = some (some (.ref f)))
    (l : K.lookup f = some ⟨oc, od, .func (PySem.W.fnOf "total" "total" (defArgs sTotal) (defBody sTotal) (defScope sTotal) .none kV doc pm an cdv ct), osl⟩) (c : PySem.W.codeIn K cdv "total" = true) (k : PySem.W.keepIn K (.ref f) = true) : DefAt K "total" sTotal ["some"] :=
  def_at a l c k fun _ _ _ _ _ _ us hl => match us, hl with | [_], _ => rfl
theorem at_inner {K : PySem.W.Frag} {f : Addr} {oc : Value} {od an : Option Addr} {osl : Array (Option Value)} {kV doc pm cdv ct : Value} (a : PySem.W.nsIn K mainGlobals "inner" = some (some (.ref f)))
    (l : K.lookup f = some ⟨oc, od, .func (PySem.W.fnOf "inner" "inner" (defArgs sInner) (defBody sInner) (defScope sInner) .none kV doc pm an cdv ct), osl⟩) (c : PySem.W.codeIn K cdv "inner" = true) (k : PySem.W.keepIn K (.ref f) = true) : DefAt K "inner" sInner ["one", "other"] :=
  def_at a l c k fun _ _ _ _ _ _ us hl => match us, hl with | [_, _], _ => rfl
theorem at_lowered {K : PySem.W.Frag} {f : Addr} {oc : Value} {od an : Option Addr} {osl : Array (Option Value)} {kV doc pm cdv ct : Value} (a : PySem.W.nsIn K mainGlobals "lowered" = some (some (.ref f)))
    (l : K.lookup f = some ⟨oc, od, .func (PySem.W.fnOf "lowered" "lowered" (defArgs sLowered) (defBody sLowered) (defScope sLowered) .none kV doc pm an cdv ct), osl⟩) (c : PySem.W.codeIn K cdv "lowered" = true) (k : PySem.W.keepIn K (.ref f) = true) : DefAt K "lowered" sLowered ["row", "other", "factor"] :=
  def_at a l c k fun _ _ _ _ _ _ us hl => match us, hl with | [_, _, _], _ => rfl
theorem at_gain {K : PySem.W.Frag} {f : Addr} {oc : Value} {od an : Option Addr} {osl : Array (Option Value)} {kV doc pm cdv ct : Value} (a : PySem.W.nsIn K mainGlobals "gain" = some (some (.ref f)))
    (l : K.lookup f = some ⟨oc, od, .func (PySem.W.fnOf "gain" "gain" (defArgs sGain) (defBody sGain) (defScope sGain) .none kV doc pm an cdv ct), osl⟩) (c : PySem.W.codeIn K cdv "gain" = true) (k : PySem.W.keepIn K (.ref f) = true) : DefAt K "gain" sGain ["table", "basis", "costs", "column"] :=
  def_at a l c k fun _ _ _ _ _ _ us hl => match us, hl with | [_, _, _, _], _ => rfl
theorem at_leaving {K : PySem.W.Frag} {f : Addr} {oc : Value} {od an : Option Addr} {osl : Array (Option Value)} {kV doc pm cdv ct : Value} (a : PySem.W.nsIn K mainGlobals "leaving" = some (some (.ref f)))
    (l : K.lookup f = some ⟨oc, od, .func (PySem.W.fnOf "leaving" "leaving" (defArgs sLeaving) (defBody sLeaving) (defScope sLeaving) .none kV doc pm an cdv ct), osl⟩) (c : PySem.W.codeIn K cdv "leaving" = true) (k : PySem.W.keepIn K (.ref f) = true) : DefAt K "leaving" sLeaving ["table", "basis", "column"] :=
  def_at a l c k fun _ _ _ _ _ _ us hl => match us, hl with | [_, _, _], _ => rfl
theorem at_pivoted {K : PySem.W.Frag} {f : Addr} {oc : Value} {od an : Option Addr} {osl : Array (Option Value)} {kV doc pm cdv ct : Value} (a : PySem.W.nsIn K mainGlobals "pivoted" = some (some (.ref f)))
    (l : K.lookup f = some ⟨oc, od, .func (PySem.W.fnOf "pivoted" "pivoted" (defArgs sPivoted) (defBody sPivoted) (defScope sPivoted) .none kV doc pm an cdv ct), osl⟩) (c : PySem.W.codeIn K cdv "pivoted" = true) (k : PySem.W.keepIn K (.ref f) = true) : DefAt K "pivoted" sPivoted ["table", "at", "column"] :=
  def_at a l c k fun _ _ _ _ _ _ us hl => match us, hl with | [_, _, _], _ => rfl
theorem at_best_basis {K : PySem.W.Frag} {f : Addr} {oc : Value} {od an : Option Addr} {osl : Array (Option Value)} {kV doc pm cdv ct : Value} (a : PySem.W.nsIn K mainGlobals "best_basis" = some (some (.ref f)))
    (l : K.lookup f = some ⟨oc, od, .func (PySem.W.fnOf "best_basis" "best_basis" (defArgs sBB) (defBody sBB) (defScope sBB) .none kV doc pm an cdv ct), osl⟩) (c : PySem.W.codeIn K cdv "best_basis" = true) (k : PySem.W.keepIn K (.ref f) = true) : DefAt K "best_basis" sBB ["table", "basis", "costs"] :=
  def_at a l c k fun _ _ _ _ _ _ us hl => match us, hl with | [_, _, _], _ => rfl
theorem at_without_new {K : PySem.W.Frag} {f : Addr} {oc : Value} {od an : Option Addr} {osl : Array (Option Value)} {kV doc pm cdv ct : Value} (a : PySem.W.nsIn K mainGlobals "without_new" = some (some (.ref f)))
    (l : K.lookup f = some ⟨oc, od, .func (PySem.W.fnOf "without_new" "without_new" (defArgs sWithout) (defBody sWithout) (defScope sWithout) .none kV doc pm an cdv ct), osl⟩) (c : PySem.W.codeIn K cdv "without_new" = true) (k : PySem.W.keepIn K (.ref f) = true) : DefAt K "without_new" sWithout ["table", "basis", "wide"] :=
  def_at a l c k fun _ _ _ _ _ _ us hl => match us, hl with | [_, _, _], _ => rfl
theorem at_first_phase {K : PySem.W.Frag} {f : Addr} {oc : Value} {od an : Option Addr} {osl : Array (Option Value)} {kV doc pm cdv ct : Value} (a : PySem.W.nsIn K mainGlobals "first_phase" = some (some (.ref f)))
    (l : K.lookup f = some ⟨oc, od, .func (PySem.W.fnOf "first_phase" "first_phase" (defArgs sFirst) (defBody sFirst) (defScope sFirst) .none kV doc pm an cdv ct), osl⟩) (c : PySem.W.codeIn K cdv "first_phase" = true) (k : PySem.W.keepIn K (.ref f) = true) : DefAt K "first_phase" sFirst ["rows", "goal"] :=
  def_at a l c k fun _ _ _ _ _ _ us hl => match us, hl with | [_, _], _ => rfl
theorem at_best_of {K : PySem.W.Frag} {f : Addr} {oc : Value} {od an : Option Addr} {osl : Array (Option Value)} {kV doc pm cdv ct : Value} (a : PySem.W.nsIn K mainGlobals "best_of" = some (some (.ref f)))
    (l : K.lookup f = some ⟨oc, od, .func (PySem.W.fnOf "best_of" "best_of" (defArgs sBestOf) (defBody sBestOf) (defScope sBestOf) .none kV doc pm an cdv ct), osl⟩) (c : PySem.W.codeIn K cdv "best_of" = true) (k : PySem.W.keepIn K (.ref f) = true) : DefAt K "best_of" sBestOf ["rows", "goal", "costs"] :=
  def_at a l c k fun _ _ _ _ _ _ us hl => match us, hl with | [_, _, _], _ => rfl
theorem at_is_small {K : PySem.W.Frag} {f : Addr} {oc : Value} {od an : Option Addr} {osl : Array (Option Value)} {kV doc pm cdv ct : Value} (a : PySem.W.nsIn K mainGlobals "is_small" = some (some (.ref f)))
    (l : K.lookup f = some ⟨oc, od, .func (PySem.W.fnOf "is_small" "is_small" (defArgs sIsSmall) (defBody sIsSmall) (defScope sIsSmall) .none kV doc pm an cdv ct), osl⟩) (c : PySem.W.codeIn K cdv "is_small" = true) (k : PySem.W.keepIn K (.ref f) = true) : DefAt K "is_small" sIsSmall ["value"] :=
  def_at a l c k fun _ _ _ _ _ _ us hl => match us, hl with | [_], _ => rfl
theorem at_need_program {K : PySem.W.Frag} {f : Addr} {oc : Value} {od an : Option Addr} {osl : Array (Option Value)} {kV doc pm cdv ct : Value} (a : PySem.W.nsIn K mainGlobals "need_program" = some (some (.ref f)))
    (l : K.lookup f = some ⟨oc, od, .func (PySem.W.fnOf "need_program" "need_program" (defArgs sNeed) (defBody sNeed) (defScope sNeed) .none kV doc pm an cdv ct), osl⟩) (c : PySem.W.codeIn K cdv "need_program" = true) (k : PySem.W.keepIn K (.ref f) = true) : DefAt K "need_program" sNeed ["rows", "goal", "costs"] :=
  def_at a l c k fun _ _ _ _ _ _ us hl => match us, hl with | [_, _, _], _ => rfl
theorem at_wide_rows {K : PySem.W.Frag} {f : Addr} {oc : Value} {od an : Option Addr} {osl : Array (Option Value)} {kV doc pm cdv ct : Value} (a : PySem.W.nsIn K mainGlobals "wide_rows" = some (some (.ref f)))
    (l : K.lookup f = some ⟨oc, od, .func (PySem.W.fnOf "wide_rows" "wide_rows" (defArgs sWide) (defBody sWide) (defScope sWide) .none kV doc pm an cdv ct), osl⟩) (c : PySem.W.codeIn K cdv "wide_rows" = true) (k : PySem.W.keepIn K (.ref f) = true) : DefAt K "wide_rows" sWide ["rows"] :=
  def_at a l c k fun _ _ _ _ _ _ us hl => match us, hl with | [_], _ => rfl
theorem at_best {K : PySem.W.Frag} {f : Addr} {oc : Value} {od an : Option Addr} {osl : Array (Option Value)} {kV doc pm cdv ct : Value} (a : PySem.W.nsIn K mainGlobals "best" = some (some (.ref f)))
    (l : K.lookup f = some ⟨oc, od, .func (PySem.W.fnOf "best" "best" (defArgs sBest) (defBody sBest) (defScope sBest) .none kV doc pm an cdv ct), osl⟩) (c : PySem.W.codeIn K cdv "best" = true) (k : PySem.W.keepIn K (.ref f) = true) : DefAt K "best" sBest ["rows", "goal", "costs"] :=
  def_at a l c k fun _ _ _ _ _ _ us hl => match us, hl with | [_, _, _], _ => rfl
theorem at__law_taken {K : PySem.W.Frag} {f : Addr} {oc : Value} {od an : Option Addr} {osl : Array (Option Value)} {kV doc pm cdv ct : Value} (a : PySem.W.nsIn K mainGlobals "_law_taken" = some (some (.ref f)))
    (l : K.lookup f = some ⟨oc, od, .func (PySem.W.fnOf "_law_taken" "_law_taken" (defArgs sTaken) (defBody sTaken) (defScope sTaken) .none kV doc pm an cdv ct), osl⟩) (c : PySem.W.codeIn K cdv "_law_taken" = true) (k : PySem.W.keepIn K (.ref f) = true) : DefAt K "_law_taken" sTaken ["_law_row", "_law_many"] :=
  def_at a l c k fun _ _ _ _ _ _ us hl => match us, hl with | [_, _], _ => rfl
theorem at__law_pick {K : PySem.W.Frag} {f : Addr} {oc : Value} {od an : Option Addr} {osl : Array (Option Value)} {kV doc pm cdv ct : Value} (a : PySem.W.nsIn K mainGlobals "_law_pick" = some (some (.ref f)))
    (l : K.lookup f = some ⟨oc, od, .func (PySem.W.fnOf "_law_pick" "_law_pick" (defArgs sPick) (defBody sPick) (defScope sPick) .none kV doc pm an cdv ct), osl⟩) (c : PySem.W.codeIn K cdv "_law_pick" = true) (k : PySem.W.keepIn K (.ref f) = true) : DefAt K "_law_pick" sPick ["_law_row", "_law_things"] :=
  def_at a l c k fun _ _ _ _ _ _ us hl => match us, hl with | [_, _], _ => rfl
theorem at__law_signed {K : PySem.W.Frag} {f : Addr} {oc : Value} {od an : Option Addr} {osl : Array (Option Value)} {kV doc pm cdv ct : Value} (a : PySem.W.nsIn K mainGlobals "_law_signed" = some (some (.ref f)))
    (l : K.lookup f = some ⟨oc, od, .func (PySem.W.fnOf "_law_signed" "_law_signed" (defArgs sSigned) (defBody sSigned) (defScope sSigned) .none kV doc pm an cdv ct), osl⟩) (c : PySem.W.codeIn K cdv "_law_signed" = true) (k : PySem.W.keepIn K (.ref f) = true) : DefAt K "_law_signed" sSigned ["_law_row", "_law_most"] :=
  def_at a l c k fun _ _ _ _ _ _ us hl => match us, hl with | [_, _], _ => rfl
theorem at__law_gcd {K : PySem.W.Frag} {f : Addr} {oc : Value} {od an : Option Addr} {osl : Array (Option Value)} {kV doc pm cdv ct : Value} (a : PySem.W.nsIn K mainGlobals "_law_gcd" = some (some (.ref f)))
    (l : K.lookup f = some ⟨oc, od, .func (PySem.W.fnOf "_law_gcd" "_law_gcd" (defArgs sGcd) (defBody sGcd) (defScope sGcd) .none kV doc pm an cdv ct), osl⟩) (c : PySem.W.codeIn K cdv "_law_gcd" = true) (k : PySem.W.keepIn K (.ref f) = true) : DefAt K "_law_gcd" sGcd ["_law_one", "_law_other"] :=
  def_at a l c k fun _ _ _ _ _ _ us hl => match us, hl with | [_, _], _ => rfl
theorem at__law_lowest {K : PySem.W.Frag} {f : Addr} {oc : Value} {od an : Option Addr} {osl : Array (Option Value)} {kV doc pm cdv ct : Value} (a : PySem.W.nsIn K mainGlobals "_law_lowest" = some (some (.ref f)))
    (l : K.lookup f = some ⟨oc, od, .func (PySem.W.fnOf "_law_lowest" "_law_lowest" (defArgs sLowest) (defBody sLowest) (defScope sLowest) .none kV doc pm an cdv ct), osl⟩) (c : PySem.W.codeIn K cdv "_law_lowest" = true) (k : PySem.W.keepIn K (.ref f) = true) : DefAt K "_law_lowest" sLowest ["_law_numerator", "_law_denominator"] :=
  def_at a l c k fun _ _ _ _ _ _ us hl => match us, hl with | [_, _], _ => rfl
theorem at__law_less {K : PySem.W.Frag} {f : Addr} {oc : Value} {od an : Option Addr} {osl : Array (Option Value)} {kV doc pm cdv ct : Value} (a : PySem.W.nsIn K mainGlobals "_law_less" = some (some (.ref f)))
    (l : K.lookup f = some ⟨oc, od, .func (PySem.W.fnOf "_law_less" "_law_less" (defArgs sLawLess) (defBody sLawLess) (defScope sLawLess) .none kV doc pm an cdv ct), osl⟩) (c : PySem.W.codeIn K cdv "_law_less" = true) (k : PySem.W.keepIn K (.ref f) = true) : DefAt K "_law_less" sLawLess ["_law_one", "_law_other"] :=
  def_at a l c k fun _ _ _ _ _ _ us hl => match us, hl with | [_, _], _ => rfl
/-- a constant pair -/
theorem pair_at {K : PySem.W.Frag} {z : Addr} {oc : Option Addr} {osl : Array (Option Value)} {n : Nat} {i j : Int} {t u : Tok} (l : K.lookup z = some ⟨.type "tuple", oc, .seq #[.int i t, .int j u] n, osl⟩) (H : Hp) : SqT K H z [.int i, .int j] :=
  .inr ⟨_, _, n, l, rfl, rfl, (by show 2 ≤ sizeLine; decide), .cons ⟨t, rfl⟩ (.cons ⟨u, rfl⟩ .nil)⟩
theorem kit_self {K : PySem.W.Frag} {C : Addr} : PySem.W.kitOne K (.ref C) (.ref C) = some true := by
  unfold PySem.W.kitOne; rw [if_pos (beq_self_eq_true _)]
theorem all_mk {P : Program} {w : World} {K : PySem.W.Frag} {h : Heap} {mg : Str → Option Value} {fa : Addr} (X : K.In h) (G : h.Ns mainGlobals mg) (hfa : mg "law" = some (.ref fa))
    (d_is_integer : DefAt K "is_integer" sIsInt ["value"])
    (d_is_list : DefAt K "is_list" sIsList ["value", "least", "most"])
    (d_shared : DefAt K "shared" sShared ["one", "other"])
    (d_ratio : DefAt K "ratio" sRatio ["top", "bottom"])
    (d_plus : DefAt K "plus" sPlus ["one", "other"])
    (d_minus : DefAt K "minus" sMinus ["one", "other"])
    (d_times : DefAt K "times" sTimes ["one", "other"])
    (d_over : DefAt K "over" sOver ["one", "other"])
    (d_negative : DefAt K "negative" sNegative ["one"])
    (d_is_less : DefAt K "is_less" sLess ["one", "other"])
    (d_total : DefAt K "total" sTotal ["some"])
    (d_inner : DefAt K "inner" sInner ["one", "other"])
    (d_lowered : DefAt K "lowered" sLowered ["row", "other", "factor"])
    (d_gain : DefAt K "gain" sGain ["table", "basis", "costs", "column"])
    (d_leaving : DefAt K "leaving" sLeaving ["table", "basis", "column"])
    (d_pivoted : DefAt K "pivoted" sPivoted ["table", "at", "column"])
    (d_best_basis : DefAt K "best_basis" sBB ["table", "basis", "costs"])
    (d_without_new : DefAt K "without_new" sWithout ["table", "basis", "wide"])
    (d_first_phase : DefAt K "first_phase" sFirst ["rows", "goal"])
    (d_best_of : DefAt K "best_of" sBestOf ["rows", "goal", "costs"])
    (d_is_small : DefAt K "is_small" sIsSmall ["value"])
    (d_need_program : DefAt K "need_program" sNeed ["rows", "goal", "costs"])
    (d_wide_rows : DefAt K "wide_rows" sWide ["rows"])
    (d_best : DefAt K "best" sBest ["rows", "goal", "costs"])
    (d__law_taken : DefAt K "_law_taken" sTaken ["_law_row", "_law_many"])
    (d__law_pick : DefAt K "_law_pick" sPick ["_law_row", "_law_things"])
    (d__law_signed : DefAt K "_law_signed" sSigned ["_law_row", "_law_most"])
    (d__law_gcd : DefAt K "_law_gcd" sGcd ["_law_one", "_law_other"])
    (d__law_lowest : DefAt K "_law_lowest" sLowest ["_law_numerator", "_law_denominator"])
    (d__law_less : DefAt K "_law_less" sLawLess ["_law_one", "_law_other"])
    {f : Addr} {oc : Value} {od an : Option Addr} {osl : Array (Option Value)} {kV doc pm cdv ct : Value} (a : PySem.W.nsIn K mainGlobals "law" = some (some (.ref f)))
    (l : K.lookup f = some ⟨oc, od, .func (PySem.W.fnOf "law" "law" (defArgs sLaw) (defBody sLaw) (defScope sLaw) .none kV doc pm an cdv ct), osl⟩) (c : PySem.W.codeIn K cdv "law" = true) (k : PySem.W.keepIn K (.ref f) = true)
    {C B : Addr} (aC : PySem.W.nsIn K mainGlobals "NotBound" = some (some (.ref C))) (aB : PySem.W.nsIn K mainGlobals "BendError" = some (some (.ref B)))
    (xC : PySem.W.excIn K C [.type "ValueError", .type "Exception", .type "BaseException", .type "object"] "ValueError.__new__" = true) (kC : PySem.W.keepIn K (.ref C) = true) (bC : PySem.W.subIn K (.ref C) (.type "BaseException") = some true) (tC' : PySem.W.typeIn K (.ref C) = some (.type "type"))
    (bB : PySem.W.subIn K (.ref B) (.type "BaseException") = some true) (hB : PySem.W.hasDictIn K B = true) (tB : PySem.W.typeIn K (.ref B) = some (.type "type")) (sCB : PySem.W.subIn K (.ref C) (.ref B) = some true)
    (eg : PySem.W.findIn K (.ref C) "__getattribute__" = some (some (.builtin "BaseException.__getattribute__"))) (ek : PySem.W.findIn K (.ref C) "__getattr__" = some none) (ed : PySem.W.hasDictIn K C = true)
    (ea : PySem.W.findIn K (.ref C) "__class__" = some (some (.builtin "object.__class__"))) (en : PySem.W.specialIn K (.builtin "object.__class__") "__get__" = some (some (.builtin "getset_descriptor.__get__"))) (et : PySem.W.takesIn K (.builtin "object.__class__") = some true) (em : PySem.W.mroIn K C (.type "object") = some true)
    {z0 z1 : Addr} {oc0 oc1 : Option Addr} {osl0 osl1 : Array (Option Value)} {n0 n1 : Nat} {t0 u0 t1 u1 t8 t9 tS : Tok}
    (aZ : PySem.W.nsIn K mainGlobals "ZERO" = some (some (.ref z0))) (lZ : K.lookup z0 = some ⟨.type "tuple", oc0, .seq #[.int 0 t0, .int 1 u0] n0, osl0⟩)
    (aO : PySem.W.nsIn K mainGlobals "ONE" = some (some (.ref z1))) (lO : K.lookup z1 = some ⟨.type "tuple", oc1, .seq #[.int 1 t1, .int 1 u1] n1, osl1⟩)
    (aR : PySem.W.nsIn K mainGlobals "MOST_ROWS" = some (some (.int 8 t8))) (aW : PySem.W.nsIn K mainGlobals "MOST_WIDE" = some (some (.int 8 t9))) (aS : PySem.W.nsIn K mainGlobals "MOST_SIZE" = some (some (.int 1000 tS)))
    (z_abs : PySem.W.nsIn K mainGlobals "abs" = some none)
    (z_len : PySem.W.nsIn K mainGlobals "len" = some none)
    (z_isinstance : PySem.W.nsIn K mainGlobals "isinstance" = some none)
    (z_int : PySem.W.nsIn K mainGlobals "int" = some none)
    (z_bool : PySem.W.nsIn K mainGlobals "bool" = some none)
    (z_tuple : PySem.W.nsIn K mainGlobals "tuple" = some none)
    (z_range : PySem.W.nsIn K mainGlobals "range" = some none)
    (z_zip : PySem.W.nsIn K mainGlobals "zip" = some none)
    (z_enumerate : PySem.W.nsIn K mainGlobals "enumerate" = some none)
    (z_any : PySem.W.nsIn K mainGlobals "any" = some none)
    (z_all : PySem.W.nsIn K mainGlobals "all" = some none)
    (z_list : PySem.W.nsIn K mainGlobals "list" = some none)
    : ∃ fd : FuncData, (∀ (s : Shared) (v : Value), BindsTo s fd ⟨[v], []⟩ [("_law_script", v)]) ∧ ∀ base : Heap, K.In base → base.Ns mainGlobals mg → FnOk P w K mg base CX0 11 fa fd ["_law_script"] (spLaw K) := by
  have e := hfa.symm.trans (PySem.W.mg_of X G a)
  cases e
  have T : Txt K mg := ⟨PySem.W.mg_none_of X G z_abs, PySem.W.mg_none_of X G z_len, PySem.W.mg_none_of X G z_isinstance, PySem.W.mg_none_of X G z_int, PySem.W.mg_none_of X G z_bool, PySem.W.mg_none_of X G z_tuple, PySem.W.mg_none_of X G z_range, PySem.W.mg_none_of X G z_zip, PySem.W.mg_none_of X G z_enumerate, PySem.W.mg_none_of X G z_any, PySem.W.mg_none_of X G z_all, PySem.W.mg_none_of X G z_list,
    ⟨z0, PySem.W.mg_of X G aZ, pair_at lZ⟩, ⟨z1, PySem.W.mg_of X G aO, pair_at lO⟩, ⟨_, PySem.W.mg_of X G aR⟩, ⟨_, PySem.W.mg_of X G aW⟩, ⟨_, PySem.W.mg_of X G aS⟩⟩
  have XE : ErrTxt K mg C := ⟨xC, PySem.W.mg_of X G aC, kC, bC, tC'⟩
  have LT : LawTxt K mg C B := ⟨PySem.W.mg_of X G aB, PySem.W.exm_ref bB hB tB sCB, ⟨eg, ek, bC, ed, ea, en, et, em⟩, kit_self⟩
  refine ⟨PySem.W.fnOf "law" "law" (defArgs sLaw) (defBody sLaw) (defScope sLaw) .none kV doc pm an cdv ct, fun s v => .of_eq rfl, fun base _ _ => ?_⟩
  have h_is_integer : Has P w K mg base CX0 1 "is_integer" ["value"] spIsInt := d_is_integer.has X G fun F => ok_isint F T
  have h_is_list : Has P w K mg base CX0 1 "is_list" ["value", "least", "most"] (spIsList K) := d_is_list.has X G fun F => ok_islist F T
  have h_shared : Has P w K mg base CX0 1 "shared" ["one", "other"] spShared := d_shared.has X G fun F => ok_shared F T
  have h_ratio : Has P w K mg base CX0 2 "ratio" ["top", "bottom"] (spRatio K) := d_ratio.has X G fun F => ok_ratio F T h_shared
  have h_plus : Has P w K mg base CX0 3 "plus" ["one", "other"] (spPlus K) := d_plus.has X G fun F => ok_plus F T h_ratio
  have h_minus : Has P w K mg base CX0 4 "minus" ["one", "other"] (spMinus K) := d_minus.has X G fun F => ok_minus F T h_plus
  have h_times : Has P w K mg base CX0 3 "times" ["one", "other"] (spTimes K) := d_times.has X G fun F => ok_times F T h_ratio
  have h_over : Has P w K mg base CX0 3 "over" ["one", "other"] (spOver K) := d_over.has X G fun F => ok_over F T h_ratio
  have h_negative : Has P w K mg base CX0 1 "negative" ["one"] (spNeg K) := d_negative.has X G fun F => ok_negative F
  have h_is_less : Has P w K mg base CX0 1 "is_less" ["one", "other"] (spLess K) := d_is_less.has X G fun F => ok_less F
  have h_total : Has P w K mg base CX0 4 "total" ["some"] (spTotal K) := d_total.has X G fun F => ok_total F T h_plus
  have h_inner : Has P w K mg base CX0 5 "inner" ["one", "other"] (spInner K) := d_inner.has X G fun F => ok_inner F T h_times h_total
  have h_lowered : Has P w K mg base CX0 5 "lowered" ["row", "other", "factor"] (spLowered K) := d_lowered.has X G fun F => ok_lowered F T h_times h_minus
  have h_gain : Has P w K mg base CX0 6 "gain" ["table", "basis", "costs", "column"] (spGain K) := d_gain.has X G fun F => ok_gain F T h_inner
  have h_leaving : Has P w K mg base CX0 4 "leaving" ["table", "basis", "column"] (spLeaving K) := d_leaving.has X G fun F => ok_leaving F T h_over h_is_less
  have h_pivoted : Has P w K mg base CX0 6 "pivoted" ["table", "at", "column"] (spPivoted K) := d_pivoted.has X G fun F => ok_pivoted F T h_over h_lowered
  have h_best_basis : Has P w K mg base (L2.CX P w) 7 "best_basis" ["table", "basis", "costs"] (spBB K C) := d_best_basis.has X G fun F => ok_bb F T XE h_gain h_leaving h_pivoted
  have h_without_new : Has P w K mg base CX0 7 "without_new" ["table", "basis", "wide"] (spWithout K) := d_without_new.has X G fun F => ok_without F T h_pivoted
  have h_first_phase : Has P w K mg base CX0 8 "first_phase" ["rows", "goal"] (spFirst K) := d_first_phase.has X G fun F => ok_first F T h_negative h_best_basis h_without_new
  have h_best_of : Has P w K mg base (L2.CX P w) 9 "best_of" ["rows", "goal", "costs"] (spBestOf K C) := d_best_of.has X G fun F => ok_bestof F T h_first_phase h_best_basis h_inner
  have h_is_small : Has P w K mg base CX0 2 "is_small" ["value"] spIsSmall := d_is_small.has X G fun F => ok_issmall F T h_is_integer
  have h_need_program : Has P w K mg base CX0 3 "need_program" ["rows", "goal", "costs"] (spNeed K) := d_need_program.has X G fun F => ok_need F T h_is_list h_is_small
  have h_wide_rows : Has P w K mg base CX0 1 "wide_rows" ["rows"] (spWide K) := d_wide_rows.has X G fun F => ok_wide F T
  have h_best : Has P w K mg base (L2.CX P w) 10 "best" ["rows", "goal", "costs"] (spBest K C) := d_best.has X G fun F => ok_best F T h_need_program h_wide_rows h_best_of
  have h__law_taken : Has P w K mg base CX0 1 "_law_taken" ["_law_row", "_law_many"] (spTaken K) := d__law_taken.has X G fun F => ok_taken F T
  have h__law_pick : Has P w K mg base CX0 2 "_law_pick" ["_law_row", "_law_things"] (spPick K) := d__law_pick.has X G fun F => ok_pick F T h__law_taken
  have h__law_signed : Has P w K mg base CX0 2 "_law_signed" ["_law_row", "_law_most"] (spSigned K) := d__law_signed.has X G fun F => ok_signed F T h__law_taken
  have h__law_gcd : Has P w K mg base CX0 1 "_law_gcd" ["_law_one", "_law_other"] spGcd := d__law_gcd.has X G fun F => ok_gcd F T
  have h__law_lowest : Has P w K mg base CX0 2 "_law_lowest" ["_law_numerator", "_law_denominator"] (spLowest K) := d__law_lowest.has X G fun F => ok_lowest F T h__law_gcd
  have h__law_less : Has P w K mg base CX0 1 "_law_less" ["_law_one", "_law_other"] (spLess K) := d__law_less.has X G fun F => ok_lawless F
  exact ok_law (fun_mk l c k) T XE LT h__law_taken h__law_pick h__law_signed h__law_lowest h__law_less h_best
end BW

open PySem PySem.W PyProof.Rows in
set_option maxRecDepth 100000 in
set_option maxHeartbeats 0 in
theorem PySem.Challenge.cw_bendworks_k01_whole_corners_of_programs_holds : PySem.Challenge.rw_bendworks_k01_whole_corners_of_programs.Holds := by
  w_on; o_law; k_head; (case hw => w_witness2)
  k_fill
  refine L2.walk_ofK (n := 63) (k := 11) (x := "_law_script") (CX := L2.CX0) (sp := BW.spLaw) rfl (by decide) rfl ⟨rfl, by decide, by decide⟩ (fun w h Y => PySem.W.kIn_of Y) ?F ?A ?B
  case F =>
    intro w mg fa h KX G hmg
    refine' BW.all_mk KX G hmg ?d_is_integer ?d_is_list ?d_shared ?d_ratio ?d_plus ?d_minus ?d_times ?d_over ?d_negative ?d_is_less ?d_total ?d_inner ?d_lowered ?d_gain ?d_leaving ?d_pivoted ?d_best_basis ?d_without_new ?d_first_phase ?d_best_of ?d_is_small ?d_need_program ?d_wide_rows ?d_best ?d__law_taken ?d__law_pick ?d__law_signed ?d__law_gcd ?d__law_lowest ?d__law_less ?la ?ll ?lc ?lk ?aC ?aB ?xC ?kC ?bC ?tC ?bB ?hB ?tB ?sCB ?eg ?ek ?ed ?ea ?en ?et ?em ?aZ ?lZ ?aO ?lO ?aR ?aW ?aS ?z_abs ?z_len ?z_isinstance ?z_int ?z_bool ?z_tuple ?z_range ?z_zip ?z_enumerate ?z_any ?z_all ?z_list
    (case d_is_integer => refine' BW.at_is_integer ?ais_integer ?lis_integer ?cis_integer ?kis_integer; (case ais_integer => k_is); (case lis_integer => k_is); (case cis_integer => k_is); (case kis_integer => k_is))
    (case d_is_list => refine' BW.at_is_list ?ais_list ?lis_list ?cis_list ?kis_list; (case ais_list => k_is); (case lis_list => k_is); (case cis_list => k_is); (case kis_list => k_is))
    (case d_shared => refine' BW.at_shared ?ashared ?lshared ?cshared ?kshared; (case ashared => k_is); (case lshared => k_is); (case cshared => k_is); (case kshared => k_is))
    (case d_ratio => refine' BW.at_ratio ?aratio ?lratio ?cratio ?kratio; (case aratio => k_is); (case lratio => k_is); (case cratio => k_is); (case kratio => k_is))
    (case d_plus => refine' BW.at_plus ?aplus ?lplus ?cplus ?kplus; (case aplus => k_is); (case lplus => k_is); (case cplus => k_is); (case kplus => k_is))
    (case d_minus => refine' BW.at_minus ?aminus ?lminus ?cminus ?kminus; (case aminus => k_is); (case lminus => k_is); (case cminus => k_is); (case kminus => k_is))
    (case d_times => refine' BW.at_times ?atimes ?ltimes ?ctimes ?ktimes; (case atimes => k_is); (case ltimes => k_is); (case ctimes => k_is); (case ktimes => k_is))
    (case d_over => refine' BW.at_over ?aover ?lover ?cover ?kover; (case aover => k_is); (case lover => k_is); (case cover => k_is); (case kover => k_is))
    (case d_negative => refine' BW.at_negative ?anegative ?lnegative ?cnegative ?knegative; (case anegative => k_is); (case lnegative => k_is); (case cnegative => k_is); (case knegative => k_is))
    (case d_is_less => refine' BW.at_is_less ?ais_less ?lis_less ?cis_less ?kis_less; (case ais_less => k_is); (case lis_less => k_is); (case cis_less => k_is); (case kis_less => k_is))
    (case d_total => refine' BW.at_total ?atotal ?ltotal ?ctotal ?ktotal; (case atotal => k_is); (case ltotal => k_is); (case ctotal => k_is); (case ktotal => k_is))
    (case d_inner => refine' BW.at_inner ?ainner ?linner ?cinner ?kinner; (case ainner => k_is); (case linner => k_is); (case cinner => k_is); (case kinner => k_is))
    (case d_lowered => refine' BW.at_lowered ?alowered ?llowered ?clowered ?klowered; (case alowered => k_is); (case llowered => k_is); (case clowered => k_is); (case klowered => k_is))
    (case d_gain => refine' BW.at_gain ?again ?lgain ?cgain ?kgain; (case again => k_is); (case lgain => k_is); (case cgain => k_is); (case kgain => k_is))
    (case d_leaving => refine' BW.at_leaving ?aleaving ?lleaving ?cleaving ?kleaving; (case aleaving => k_is); (case lleaving => k_is); (case cleaving => k_is); (case kleaving => k_is))
    (case d_pivoted => refine' BW.at_pivoted ?apivoted ?lpivoted ?cpivoted ?kpivoted; (case apivoted => k_is); (case lpivoted => k_is); (case cpivoted => k_is); (case kpivoted => k_is))
    (case d_best_basis => refine' BW.at_best_basis ?abest_basis ?lbest_basis ?cbest_basis ?kbest_basis; (case abest_basis => k_is); (case lbest_basis => k_is); (case cbest_basis => k_is); (case kbest_basis => k_is))
    (case d_without_new => refine' BW.at_without_new ?awithout_new ?lwithout_new ?cwithout_new ?kwithout_new; (case awithout_new => k_is); (case lwithout_new => k_is); (case cwithout_new => k_is); (case kwithout_new => k_is))
    (case d_first_phase => refine' BW.at_first_phase ?afirst_phase ?lfirst_phase ?cfirst_phase ?kfirst_phase; (case afirst_phase => k_is); (case lfirst_phase => k_is); (case cfirst_phase => k_is); (case kfirst_phase => k_is))
    (case d_best_of => refine' BW.at_best_of ?abest_of ?lbest_of ?cbest_of ?kbest_of; (case abest_of => k_is); (case lbest_of => k_is); (case cbest_of => k_is); (case kbest_of => k_is))
    (case d_is_small => refine' BW.at_is_small ?ais_small ?lis_small ?cis_small ?kis_small; (case ais_small => k_is); (case lis_small => k_is); (case cis_small => k_is); (case kis_small => k_is))
    (case d_need_program => refine' BW.at_need_program ?aneed_program ?lneed_program ?cneed_program ?kneed_program; (case aneed_program => k_is); (case lneed_program => k_is); (case cneed_program => k_is); (case kneed_program => k_is))
    (case d_wide_rows => refine' BW.at_wide_rows ?awide_rows ?lwide_rows ?cwide_rows ?kwide_rows; (case awide_rows => k_is); (case lwide_rows => k_is); (case cwide_rows => k_is); (case kwide_rows => k_is))
    (case d_best => refine' BW.at_best ?abest ?lbest ?cbest ?kbest; (case abest => k_is); (case lbest => k_is); (case cbest => k_is); (case kbest => k_is))
    (case d__law_taken => refine' BW.at__law_taken ?a_law_taken ?l_law_taken ?c_law_taken ?k_law_taken; (case a_law_taken => k_is); (case l_law_taken => k_is); (case c_law_taken => k_is); (case k_law_taken => k_is))
    (case d__law_pick => refine' BW.at__law_pick ?a_law_pick ?l_law_pick ?c_law_pick ?k_law_pick; (case a_law_pick => k_is); (case l_law_pick => k_is); (case c_law_pick => k_is); (case k_law_pick => k_is))
    (case d__law_signed => refine' BW.at__law_signed ?a_law_signed ?l_law_signed ?c_law_signed ?k_law_signed; (case a_law_signed => k_is); (case l_law_signed => k_is); (case c_law_signed => k_is); (case k_law_signed => k_is))
    (case d__law_gcd => refine' BW.at__law_gcd ?a_law_gcd ?l_law_gcd ?c_law_gcd ?k_law_gcd; (case a_law_gcd => k_is); (case l_law_gcd => k_is); (case c_law_gcd => k_is); (case k_law_gcd => k_is))
    (case d__law_lowest => refine' BW.at__law_lowest ?a_law_lowest ?l_law_lowest ?c_law_lowest ?k_law_lowest; (case a_law_lowest => k_is); (case l_law_lowest => k_is); (case c_law_lowest => k_is); (case k_law_lowest => k_is))
    (case d__law_less => refine' BW.at__law_less ?a_law_less ?l_law_less ?c_law_less ?k_law_less; (case a_law_less => k_is); (case l_law_less => k_is); (case c_law_less => k_is); (case k_law_less => k_is))
    (case la => k_is)
    (case ll => k_is)
    (case lc => k_is)
    (case lk => k_is)
    (case aC => k_is)
    (case aB => k_is)
    (case xC => k_exc)
    (case kC => k_is)
    (case bC => k_is)
    (case tC => k_is)
    (case bB => k_is)
    (case hB => k_is)
    (case tB => k_is)
    (case sCB => k_is)
    (case eg => k_is)
    (case ek => k_is)
    (case ed => k_is)
    (case ea => k_is)
    (case en => k_is)
    (case et => k_is)
    (case em => k_is)
    (case aZ => k_is)
    (case lZ => k_is)
    (case aO => k_is)
    (case lO => k_is)
    (case aR => k_is)
    (case aW => k_is)
    (case aS => k_is)
    (case z_abs => k_is)
    (case z_len => k_is)
    (case z_isinstance => k_is)
    (case z_int => k_is)
    (case z_bool => k_is)
    (case z_tuple => k_is)
    (case z_range => k_is)
    (case z_zip => k_is)
    (case z_enumerate => k_is)
    (case z_any => k_is)
    (case z_all => k_is)
    (case z_list => k_is)
  case A => exact fun _ _ a ns hl _ hS => ⟨a, ns, rfl, hS, hl, fun _ => rfl⟩
  case B => exact fun _ _ _ _ z => z
#print axioms PySem.Challenge.cw_bendworks_k01_whole_corners_of_programs_holds
