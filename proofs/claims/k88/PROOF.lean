import PyProof.Rows.All
import Wide.All
import OpenK.AllK
import Wide.FinOn
import HandS.ForMost
import HandS.Wide
import HandS.Walk
import HandS.IsInst
import HandS.TupMul
import HandS.TupAny
import HandS.Style
import HandS.Zip
import HandS.Defaults
import PySem.Challenge.RW_alikechances_k88_whole_best_news_of_some
import KE.GoesEnum
import KE.KDictZip
import KE.KItemsList
import HandS.ListItems
import PyProof.ReprRoads
set_option Elab.async false
set_option linter.all false
/-! BnDet: finite sums of integers, the determinant by the first row, its laws. Plain Lean. -/
namespace Bn
/-- f 0 + .. + f (n - 1) -/
def sm : Nat → (Nat → Int) → Int
  | 0, _ => 0
  | k + 1, f => sm k f + f k
theorem sm_congr {f g : Nat → Int} : ∀ {n : Nat}, (∀ i, i < n → f i = g i) → sm n f = sm n g
  | 0, _ => rfl
  | n + 1, h => by
    show sm n f + f n = sm n g + g n
    rw [sm_congr fun i hi => h i (by omega), h n (by omega)]
theorem sm_zero {f : Nat → Int} : ∀ {n : Nat}, (∀ i, i < n → f i = 0) → sm n f = 0
  | 0, _ => rfl
  | n + 1, h => by
    show sm n f + f n = 0
    rw [sm_zero fun i hi => h i (by omega), h n (by omega)]
    rfl
theorem sm_add (f g : Nat → Int) : ∀ n : Nat, sm n (fun i => f i + g i) = sm n f + sm n g
  | 0 => rfl
  | n + 1 => by
    show sm n (fun i => f i + g i) + (f n + g n) = (sm n f + f n) + (sm n g + g n)
    rw [sm_add f g n]
    omega
theorem sm_mul (a : Int) (f : Nat → Int) : ∀ n : Nat, sm n (fun i => a * f i) = a * sm n f
  | 0 => (Int.mul_zero a).symm
  | n + 1 => by
    show sm n (fun i => a * f i) + a * f n = a * (sm n f + f n)
    rw [sm_mul a f n, Int.mul_add]
theorem sm_mulr (a : Int) (f : Nat → Int) (n : Nat) : sm n (fun i => f i * a) = sm n f * a := by
  rw [Int.mul_comm, ← sm_mul]
  exact sm_congr fun i _ => Int.mul_comm _ _
theorem sm_sub (f g : Nat → Int) : ∀ n : Nat, sm n (fun i => f i - g i) = sm n f - sm n g
  | 0 => rfl
  | n + 1 => by
    show sm n (fun i => f i - g i) + (f n - g n) = (sm n f + f n) - (sm n g + g n)
    rw [sm_sub f g n]
    omega
theorem sm_swap (f : Nat → Nat → Int) (m : Nat) : ∀ n : Nat, sm n (fun i => sm m (fun j => f i j)) = sm m (fun j => sm n (fun i => f i j))
  | 0 => (sm_zero fun _ _ => rfl).symm
  | n + 1 => by
    show sm n (fun i => sm m (fun j => f i j)) + sm m (fun j => f n j) = sm m (fun j => sm n (fun i => f i j) + f n j)
    rw [sm_swap f m n, sm_add]
theorem sm_one {f : Nat → Int} {k : Nat} : ∀ {n : Nat}, k < n → (∀ i, i < n → i ≠ k → f i = 0) → sm n f = f k
  | n + 1, hk, h => by
    show sm n f + f n = f k
    by_cases e : k = n
    · subst e
      rw [sm_zero fun i hi => h i (by omega) (by omega)]
      omega
    · rw [sm_one (by omega) fun i hi hne => h i (by omega) hne, h n (by omega) (by omega)]
      omega
theorem sm_two {f : Nat → Int} {k l : Nat} : ∀ {n : Nat}, k < l → l < n → (∀ i, i < n → i ≠ k → i ≠ l → f i = 0) → sm n f = f k + f l
  | n + 1, hk, hl, h => by
    show sm n f + f n = f k + f l
    by_cases e : l = n
    · subst e
      rw [sm_one (k := k) hk fun i hi hne => h i (by omega) hne (by omega)]
    · rw [sm_two hk (by omega) fun i hi h1 h2 => h i (by omega) h1 h2, h n (by omega) (by omega) (by omega)]
      omega
/-- the term at k apart -/
theorem sm_split {f : Nat → Int} {k n : Nat} (hk : k < n) : sm n f = f k + sm n (fun i => if i = k then 0 else f i) := by
  have e : ∀ i, f i = (if i = k then f i else 0) + (if i = k then 0 else f i) := fun i => by
    by_cases h : i = k
    · rw [if_pos h, if_pos h, Int.add_zero]
    · rw [if_neg h, if_neg h, Int.zero_add]
  rw [show sm n f = sm n (fun i => (if i = k then f i else 0) + (if i = k then 0 else f i)) from sm_congr fun i _ => e i, sm_add]
  rw [sm_one (f := fun i => if i = k then f i else 0) hk (fun i _ hne => if_neg hne)]
  rw [if_pos rfl]
theorem sm_nonneg {f : Nat → Int} : ∀ {n : Nat}, (∀ i, i < n → 0 ≤ f i) → 0 ≤ sm n f
  | 0, _ => Int.le_refl 0
  | n + 1, h => by
    have h1 := sm_nonneg (n := n) fun i hi => h i (by omega)
    have h2 := h n (by omega)
    show 0 ≤ sm n f + f n
    omega
theorem sm_le {f g : Nat → Int} : ∀ {n : Nat}, (∀ i, i < n → f i ≤ g i) → sm n f ≤ sm n g
  | 0, _ => Int.le_refl 0
  | n + 1, h => by
    have h1 := sm_le (n := n) fun i hi => h i (by omega)
    have h2 := h n (by omega)
    show sm n f + f n ≤ sm n g + g n
    omega
theorem sm_pos_ex {f : Nat → Int} : ∀ {n : Nat}, 0 < sm n f → ∃ i, i < n ∧ 0 < f i
  | 0, h => absurd h (Int.lt_irrefl 0)
  | n + 1, h => by
    by_cases e : 0 < f n
    · exact ⟨n, by omega, e⟩
    · have h' : 0 < sm n f + f n := h
      obtain ⟨i, hi, q⟩ := sm_pos_ex (n := n) (f := f) (by omega)
      exact ⟨i, by omega, q⟩
theorem sm_abs {f : Nat → Int} {M : Nat} : ∀ {n : Nat}, (∀ i, i < n → (f i).natAbs ≤ M) → (sm n f).natAbs ≤ n * M
  | 0, _ => by show (0 : Int).natAbs ≤ _; simp
  | n + 1, h => by
    have h1 := sm_abs (n := n) fun i hi => h i (by omega)
    have h2 := h n (by omega)
    have h3 : (sm n f + f n).natAbs ≤ (sm n f).natAbs + (f n).natAbs := Int.natAbs_add_le _ _
    show (sm n f + f n).natAbs ≤ (n + 1) * M
    rw [Nat.add_mul]
    omega
/-- from nonnegatives of sum at most 0: all 0 -/
theorem sm_nonneg_le {f : Nat → Int} : ∀ {n : Nat}, (∀ i, i < n → 0 ≤ f i) → ∀ i, i < n → f i ≤ sm n f
  | n + 1, h, i, hi => by
    show f i ≤ sm n f + f n
    by_cases e : i = n
    · subst e
      have := sm_nonneg (n := i) (f := f) fun j hj => h j (by omega)
      omega
    · have h1 := sm_nonneg_le (n := n) (fun j hj => h j (by omega)) i (by omega)
      have h2 := h n (by omega)
      omega
/-! ### the determinant; c k r: column k, row r -/
def sk (k j : Nat) : Nat := if j < k then j else j + 1
def sgn : Nat → Int
  | 0 => 1
  | k + 1 => - sgn k
def dt : Nat → (Nat → Nat → Int) → Int
  | 0, _ => 1
  | n + 1, c => sm (n + 1) (fun k => sgn k * c k 0 * dt n (fun j r => c (sk k j) (r + 1)))
def put (c : Nat → Nat → Int) (i : Nat) (u : Nat → Int) : Nat → Nat → Int := fun k => if k = i then u else c k
theorem sk_lt {k j n : Nat} (hj : j < n) : sk k j < n + 1 := by
  unfold sk
  split <;> omega
theorem sk_ne {k j : Nat} : sk k j ≠ k := by
  unfold sk
  split <;> omega
theorem put_same {c : Nat → Nat → Int} {i : Nat} {u : Nat → Int} : put c i u i = u := if_pos rfl
theorem put_ne {c : Nat → Nat → Int} {i k : Nat} {u : Nat → Int} (h : k ≠ i) : put c i u k = c k := if_neg h
theorem put_put {c : Nat → Nat → Int} {i : Nat} {u v : Nat → Int} : put (put c i u) i v = put c i v := by
  funext k
  unfold put
  split <;> rfl
theorem put_comm {c : Nat → Nat → Int} {i j : Nat} {u v : Nat → Int} (h : i ≠ j) : put (put c i u) j v = put (put c j v) i u := by
  funext k
  unfold put
  by_cases h1 : k = i
  · by_cases h2 : k = j
    · exact absurd (h1.symm.trans h2) h
    · rw [if_neg h2, if_pos h1, if_pos h1]
  · by_cases h2 : k = j
    · rw [if_pos h2, if_neg h1, if_pos h2]
    · rw [if_neg h2, if_neg h1, if_neg h1, if_neg h2]
theorem put_self {c : Nat → Nat → Int} {i : Nat} : put c i (c i) = c := by
  funext k
  unfold put
  split
  · rename_i h
    rw [h]
  · rfl
theorem dt_congr : ∀ {n : Nat} {c d : Nat → Nat → Int}, (∀ k r, k < n → r < n → c k r = d k r) → dt n c = dt n d
  | 0, _, _, _ => rfl
  | n + 1, c, d, h => by
    unfold dt
    refine sm_congr fun k hk => ?_
    rw [h k 0 hk (by omega), dt_congr (c := fun j r => c (sk k j) (r + 1)) (d := fun j r => d (sk k j) (r + 1)) fun j r hj hr => h _ _ (sk_lt hj) (by omega)]
/-- the place of column i in the minor without column k -/
def pl (k i : Nat) : Nat := if i < k then i else i - 1
theorem pl_lt {k i n : Nat} (hi : i < n + 1) (hk : k < n + 1) (h : k ≠ i) : pl k i < n := by
  unfold pl
  split <;> omega
theorem put_minor {c : Nat → Nat → Int} {i k : Nat} {u : Nat → Int} (h : k ≠ i) :
    (fun j r => put c i u (sk k j) (r + 1)) = put (fun j r => c (sk k j) (r + 1)) (pl k i) (fun r => u (r + 1)) := by
  funext j r
  unfold put
  by_cases e : sk k j = i
  · have e2 : j = pl k i := by
      unfold sk at e
      unfold pl
      split at e <;> split <;> omega
    rw [if_pos e, if_pos e2]
  · have e2 : ¬ j = pl k i := fun q => e (by
      unfold pl at q
      unfold sk
      split at q <;> split <;> omega)
    rw [if_neg e, if_neg e2]
theorem put_minor_same {c : Nat → Nat → Int} {i : Nat} {u : Nat → Int} : (fun j r => put c i u (sk i j) (r + 1)) = (fun j r => c (sk i j) (r + 1)) := by
  funext j r
  rw [put_ne sk_ne]
theorem dt_lin : ∀ {n : Nat} {c : Nat → Nat → Int} {i : Nat} {u v : Nat → Int} {a b : Int}, i < n → dt n (put c i (fun r => a * u r + b * v r)) = a * dt n (put c i u) + b * dt n (put c i v)
  | n + 1, c, i, u, v, a, b, hi => by
    unfold dt
    rw [← sm_mul, ← sm_mul, ← sm_add]
    refine sm_congr fun k hk => ?_
    by_cases e : k = i
    · subst e
      rw [put_minor_same, put_minor_same, put_minor_same, put_same, put_same, put_same]
      grind
    · rw [put_minor e, put_minor e, put_minor e, put_ne e, put_ne e, put_ne e, dt_lin (pl_lt hi hk e)]
      grind
theorem dt_zero_col {n : Nat} {c : Nat → Nat → Int} {i : Nat} (hi : i < n) : dt n (put c i (fun _ => 0)) = 0 := by
  have h := dt_lin (n := n) (c := c) (i := i) (u := fun _ => 0) (v := fun _ => 0) (a := 0) (b := 0) hi
  simpa using h
theorem dt_add {n : Nat} {c : Nat → Nat → Int} {i : Nat} {u v : Nat → Int} (hi : i < n) : dt n (put c i (fun r => u r + v r)) = dt n (put c i u) + dt n (put c i v) := by
  have h := dt_lin (n := n) (c := c) (i := i) (u := u) (v := v) (a := 1) (b := 1) hi
  simpa using h
theorem dt_smul {n : Nat} {c : Nat → Nat → Int} {i : Nat} {u : Nat → Int} {a : Int} (hi : i < n) : dt n (put c i (fun r => a * u r)) = a * dt n (put c i u) := by
  have h := dt_lin (n := n) (c := c) (i := i) (u := u) (v := u) (a := a) (b := 0) hi
  simpa using h
theorem dt_sum {n : Nat} {c : Nat → Nat → Int} {i : Nat} (hi : i < n) (a : Nat → Int) (u : Nat → Nat → Int) : ∀ K : Nat, dt n (put c i (fun r => sm K (fun k => a k * u k r))) = sm K (fun k => a k * dt n (put c i (u k)))
  | 0 => dt_zero_col hi
  | K + 1 => by
    show dt n (put c i (fun r => sm K (fun k => a k * u k r) + a K * u K r)) = sm K (fun k => a k * dt n (put c i (u k))) + a K * dt n (put c i (u K))
    rw [dt_add hi, dt_sum hi a u K, dt_smul hi]
theorem dt_adj : ∀ {n : Nat} {c : Nat → Nat → Int} {i : Nat}, i + 1 < n → (∀ r, r < n → c i r = c (i + 1) r) → dt n c = 0
  | n + 1, c, i, hi, h => by
    unfold dt
    rw [sm_two (k := i) (l := i + 1) (by omega) hi]
    · have e1 : dt n (fun j r => c (sk i j) (r + 1)) = dt n (fun j r => c (sk (i + 1) j) (r + 1)) := dt_congr fun j r hj hr => by
        by_cases q : j = i
        · subst q
          have s1 : sk j j = j + 1 := by
            unfold sk
            rw [if_neg (by omega)]
          have s2 : sk (j + 1) j = j := by
            unfold sk
            rw [if_pos (by omega)]
          rw [s1, s2, h _ (by omega)]
        · have s : sk i j = sk (i + 1) j := by
            unfold sk
            split <;> split <;> omega
          rw [s]
      rw [e1, h 0 (by omega), show sgn (i + 1) = - sgn i from rfl]
      grind
    · intro k hk h1 h2
      have z : dt n (fun j r => c (sk k j) (r + 1)) = 0 := by
        by_cases q : k < i
        · refine dt_adj (i := i - 1) (by omega) fun r hr => ?_
          have s1 : sk k (i - 1) = i := by
            unfold sk
            rw [if_neg (by omega)]
            omega
          have s2 : sk k (i - 1 + 1) = i + 1 := by
            unfold sk
            rw [if_neg (by omega)]
            omega
          show c (sk k (i - 1)) (r + 1) = c (sk k (i - 1 + 1)) (r + 1)
          rw [s1, s2, h _ (by omega)]
        · refine dt_adj (i := i) (by omega) fun r hr => ?_
          have s1 : sk k i = i := by
            unfold sk
            rw [if_pos (by omega)]
          have s2 : sk k (i + 1) = i + 1 := by
            unfold sk
            rw [if_pos (by omega)]
          show c (sk k i) (r + 1) = c (sk k (i + 1)) (r + 1)
          rw [s1, s2, h _ (by omega)]
      rw [z, Int.mul_zero]
theorem dt_swap_of {n : Nat} {c : Nat → Nat → Int} {i j : Nat} {u v : Nat → Int} (hi : i < n) (hj : j < n) (hne : i ≠ j) (z : ∀ w : Nat → Int, dt n (put (put c i w) j w) = 0) :
    dt n (put (put c i u) j v) = - dt n (put (put c i v) j u) := by
  have h1 := z (fun r => u r + v r)
  rw [dt_add hj, put_comm hne, dt_add hi, put_comm (i := i) (j := j) hne, dt_add hi, ← put_comm hne, ← put_comm hne, ← put_comm hne, ← put_comm hne, z u, z v] at h1
  omega
theorem dt_swap_adj {n : Nat} {c : Nat → Nat → Int} {i : Nat} {u v : Nat → Int} (hi : i + 1 < n) : dt n (put (put c i u) (i + 1) v) = - dt n (put (put c i v) (i + 1) u) :=
  dt_swap_of (by omega) hi (by omega) fun w => dt_adj hi fun r _ => by rw [put_ne (by omega), put_same, put_same]
theorem dt_alt {n : Nat} : ∀ (d : Nat) {c : Nat → Nat → Int} {i : Nat}, i + d + 1 < n → (∀ r, r < n → c i r = c (i + d + 1) r) → dt n c = 0
  | 0, c, i, hi, h => dt_adj hi h
  | d + 1, c, i, hi, h => by
    have e : c = put (put c (i + d + 1) (c (i + d + 1))) (i + d + 1 + 1) (c (i + d + 1 + 1)) := by rw [put_self, put_self]
    have q := dt_swap_adj (c := c) (i := i + d + 1) (u := c (i + d + 1)) (v := c (i + d + 1 + 1)) (by omega)
    rw [← e] at q
    rw [q, dt_alt d (c := put (put c (i + d + 1) (c (i + d + 1 + 1))) (i + d + 1 + 1) (c (i + d + 1))) (i := i) (by omega) fun r hr => ?_]
    · rfl
    · rw [put_ne (by omega), put_ne (by omega), put_ne (by omega), put_same]
      exact h r hr
theorem dt_eq_cols {n : Nat} {c : Nat → Nat → Int} {i j : Nat} (hi : i < n) (hj : j < n) (hne : i ≠ j) (h : ∀ r, r < n → c i r = c j r) : dt n c = 0 := by
  by_cases q : i < j
  · obtain ⟨d, rfl⟩ : ∃ d, j = i + d + 1 := ⟨j - i - 1, by omega⟩
    exact dt_alt d hj h
  · obtain ⟨d, rfl⟩ : ∃ d, i = j + d + 1 := ⟨i - j - 1, by omega⟩
    exact dt_alt d hi fun r hr => (h r hr).symm
theorem dt_swap {n : Nat} {c : Nat → Nat → Int} {i j : Nat} {u v : Nat → Int} (hi : i < n) (hj : j < n) (hne : i ≠ j) : dt n (put (put c i u) j v) = - dt n (put (put c i v) j u) :=
  dt_swap_of hi hj hne fun w => dt_eq_cols hi hj hne fun r _ => by rw [put_ne hne, put_same, put_same]
theorem dt_id : ∀ {n : Nat} {c : Nat → Nat → Int}, (∀ k r, k < n → r < n → c k r = if r = k then 1 else 0) → dt n c = 1
  | 0, _, _ => rfl
  | n + 1, c, h => by
    unfold dt
    rw [sm_one (k := 0) (by omega)]
    · rw [h 0 0 (by omega) (by omega), dt_id (c := fun j r => c (sk 0 j) (r + 1)) fun k r hk hr => ?_]
      · rfl
      · show c (sk 0 k) (r + 1) = _
        rw [show sk 0 k = k + 1 from rfl, h _ _ (by omega) (by omega)]
        by_cases e : r = k
        · rw [if_pos e, if_pos (by omega)]
        · rw [if_neg e, if_neg (by omega)]
    · intro k hk hne
      rw [h k 0 hk (by omega), if_neg (by omega)]
      simp
def fac : Nat → Nat
  | 0 => 1
  | n + 1 => (n + 1) * fac n
theorem sgn_abs : ∀ k : Nat, (sgn k).natAbs = 1
  | 0 => rfl
  | k + 1 => by
    show (- sgn k).natAbs = 1
    rw [Int.natAbs_neg, sgn_abs k]
theorem dt_abs {M : Nat} : ∀ {n : Nat} {c : Nat → Nat → Int}, (∀ k r, k < n → r < n → (c k r).natAbs ≤ M) → (dt n c).natAbs ≤ fac n * M ^ n
  | 0, _, _ => by
    show (1 : Int).natAbs ≤ 1 * M ^ 0
    simp
  | n + 1, c, h => by
    unfold dt
    have q : ∀ k, k < n + 1 → (sgn k * c k 0 * dt n (fun j r => c (sk k j) (r + 1))).natAbs ≤ M * (fac n * M ^ n) := fun k hk => by
      rw [Int.natAbs_mul, Int.natAbs_mul, sgn_abs, Nat.one_mul]
      exact Nat.mul_le_mul (h k 0 hk (by omega)) (dt_abs fun j r hj hr => h _ _ (sk_lt hj) (by omega))
    have z := sm_abs q
    have e : fac (n + 1) * M ^ (n + 1) = (n + 1) * (M * (fac n * M ^ n)) := by
      show (n + 1) * fac n * M ^ (n + 1) = _
      rw [Nat.pow_succ, Nat.mul_assoc, Nat.mul_comm (M ^ n) M, ← Nat.mul_assoc (fac n), Nat.mul_comm (fac n) M, Nat.mul_assoc M]
    rw [e]
    exact z
end Bn
set_option Elab.async false
set_option linter.all false
/-! BnSimplex: the tableau in integers, exact pivots, Bland's rule ends. Plain Lean. -/
namespace Bn
/-- a tableau: lines, goal, basis, the common number below -/
structure Tb where
  L : Nat → Nat → Int
  g : Nat → Int
  B : Nat → Nat
  be : Int
/-- the equations: A k j is row k, place j; m unknowns, n helping ones, the right side at m + n -/
structure Sys (n m : Nat) (A : Nat → Nat → Int) : Prop where
  help : ∀ k i, k < n → i < n → A k (m + i) = if k = i then 1 else 0
  rhs : ∀ k, k < n → 0 ≤ A k (m + n)
def cst (n m j : Nat) : Int := if m ≤ j ∧ j < m + n then 1 else 0
def cols (A : Nat → Nat → Int) (B : Nat → Nat) : Nat → Nat → Int := fun k r => A r (B k)
def colA (A : Nat → Nat → Int) (j : Nat) : Nat → Int := fun r => A r j
structure TInv (n m : Nat) (A : Nat → Nat → Int) (T : Tb) : Prop where
  pos : 0 < T.be
  bs : ∀ i, i < n → T.B i < m + n
  rep : ∀ k j, k < n → j ≤ m + n → T.be * A k j = sm n (fun i => T.L i j * A k (T.B i))
  feas : ∀ i, i < n → 0 ≤ T.L i (m + n)
  goal : ∀ j, j ≤ m + n → T.g j = T.be * cst n m j - sm n (fun i => cst n m (T.B i) * T.L i j)
  detL : ∀ i j, i < n → j ≤ m + n → T.L i j = dt n (put (cols A T.B) i (colA A j))
  detb : T.be = dt n (cols A T.B)
/-- one turn by Bland's rule, at line p and place q -/
structure Turn (n m : Nat) (T T' : Tb) (p q : Nat) : Prop where
  hp : p < n
  hq : q < m
  neg : T.g q < 0
  first : ∀ j, j < q → 0 ≤ T.g j
  piv : 0 < T.L p q
  ratio : ∀ i, i < n → 0 < T.L i q → T.L p (m + n) * T.L i q < T.L i (m + n) * T.L p q ∨ (T.L p (m + n) * T.L i q = T.L i (m + n) * T.L p q ∧ T.B p ≤ T.B i)
  be' : T'.be = T.L p q
  B' : ∀ i, i < n → T'.B i = if i = p then q else T.B i
  L' : ∀ i j, i < n → j ≤ m + n → T'.L i j = if i = p then T.L p j else (T.L i j * T.L p q - T.L i q * T.L p j) / T.be
  g' : ∀ j, j ≤ m + n → T'.g j = (T.g j * T.L p q - T.g q * T.L p j) / T.be
section
variable {n m : Nat} {A : Nat → Nat → Int} {T T' : Tb} {p q : Nat}
theorem TInv.unit (I : TInv n m A T) {i k : Nat} (hi : i < n) (hk : k < n) : T.L i (T.B k) = if i = k then T.be else 0 := by
  rw [I.detL i _ hi (Nat.le_of_lt (I.bs k hk))]
  by_cases e : i = k
  · subst e
    rw [if_pos rfl, I.detb]
    exact congrArg (dt n) put_self
  · rw [if_neg e]
    refine dt_eq_cols hi hk e fun r _ => ?_
    rw [put_same, put_ne (Ne.symm e)]
    rfl
theorem TInv.inj (I : TInv n m A T) {i k : Nat} (hi : i < n) (hk : k < n) (e : T.B i = T.B k) : i = k := by
  have h1 := I.unit hi hk
  have h2 := I.unit hi hi
  rw [if_pos rfl, e, h1] at h2
  by_cases q : i = k
  · exact q
  · rw [if_neg q] at h2
    have := I.pos
    omega
theorem TInv.goalB (I : TInv n m A T) {k : Nat} (hk : k < n) : T.g (T.B k) = 0 := by
  rw [I.goal _ (Nat.le_of_lt (I.bs k hk)), sm_one hk]
  · rw [I.unit hk hk, if_pos rfl, Int.mul_comm, Int.sub_self]
  · intro i hi hne
    rw [I.unit hi hk, if_neg hne, Int.mul_zero]
/-- the lines are combinations of the equations -/
theorem TInv.row (S : Sys n m A) (I : TInv n m A T) {i j : Nat} (hi : i < n) (hj : j ≤ m + n) : T.L i j = sm n (fun k => A k j * T.L i (m + k)) := by
  rw [I.detL i j hi hj]
  have e : dt n (put (cols A T.B) i (colA A j)) = dt n (put (cols A T.B) i (fun r => sm n (fun k => A k j * colA A (m + k) r))) := by
    refine dt_congr fun k r hk hr => ?_
    by_cases q : k = i
    · subst q
      rw [put_same, put_same, sm_one hr]
      · show A r j = A r j * A r (m + r)
        rw [S.help r r hr hr, if_pos rfl, Int.mul_one]
      · intro l hl hne
        show A l j * A r (m + l) = 0
        rw [S.help r l hr hl, if_neg (Ne.symm hne), Int.mul_zero]
    · rw [put_ne q, put_ne q]
  rw [e, dt_sum hi]
  refine sm_congr fun k hk => ?_
  rw [I.detL i (m + k) hi (by omega)]
/-- the goal by the weights of the equations -/
theorem TInv.dual (S : Sys n m A) (I : TInv n m A T) {j : Nat} (hj : j ≤ m + n) : T.g j = T.be * cst n m j - sm n (fun k => (T.be - T.g (m + k)) * A k j) := by
  rw [I.goal j hj]
  have e : ∀ k, k < n → T.be - T.g (m + k) = sm n (fun i => cst n m (T.B i) * T.L i (m + k)) := fun k hk => by
    rw [I.goal (m + k) (by omega), show cst n m (m + k) = 1 from if_pos ⟨by omega, by omega⟩]
    omega
  have h : sm n (fun k => (T.be - T.g (m + k)) * A k j) = sm n (fun i => cst n m (T.B i) * T.L i j) := by
    rw [sm_congr (g := fun k => sm n (fun i => cst n m (T.B i) * (A k j * T.L i (m + k)))) fun k hk => ?_]
    · rw [sm_swap]
      refine sm_congr fun i hi => ?_
      rw [sm_mul, ← I.row S hi hj]
    · rw [e k hk, ← sm_mulr]
      refine sm_congr fun i _ => ?_
      grind
  rw [h]
/-! ### a pivot is exact -/
theorem Turn.detP (I : TInv n m A T) (t : Turn n m T T' p q) : dt n (put (cols A T.B) p (colA A q)) = T.L p q :=
  (I.detL p q t.hp (by have := t.hq; omega)).symm
theorem Turn.exact (I : TInv n m A T) (t : Turn n m T T' p q) {i j : Nat} (hi : i < n) (hj : j ≤ m + n) (hne : i ≠ p) :
    T.be * dt n (put (put (cols A T.B) p (colA A q)) i (colA A j)) = T.L i j * T.L p q - T.L i q * T.L p j := by
  have hq : q ≤ m + n := by have := t.hq; omega
  have e1 : T.be * dt n (put (put (cols A T.B) p (colA A q)) i (colA A j)) = dt n (put (put (cols A T.B) p (colA A q)) i (fun r => sm n (fun k => T.L k j * colA A (T.B k) r))) := by
    rw [← dt_smul hi]
    refine dt_congr fun k r hk hr => ?_
    by_cases z : k = i
    · subst z
      rw [put_same, put_same]
      exact I.rep r j hr hj
    · rw [put_ne z, put_ne z]
  rw [e1, dt_sum hi]
  have key : ∀ k, k < n → k ≠ i → k ≠ p → T.L k j * dt n (put (put (cols A T.B) p (colA A q)) i (colA A (T.B k))) = 0 := fun k hk h1 h2 => by
    rw [dt_eq_cols hi hk (Ne.symm h1) fun r _ => ?_, Int.mul_zero]
    rw [put_same, put_ne h1, put_ne h2]
    rfl
  have ti : dt n (put (put (cols A T.B) p (colA A q)) i (colA A (T.B i))) = T.L p q := by
    rw [← t.detP I]
    refine congrArg (dt n) ?_
    rw [put_comm (Ne.symm hne)]
    refine congrArg (fun z => put z p (colA A q)) ?_
    exact put_self
  have tp : dt n (put (put (cols A T.B) p (colA A q)) i (colA A (T.B p))) = - T.L i q := by
    rw [dt_swap t.hp hi (Ne.symm hne), I.detL i q hi hq]
    refine congrArg (fun z => - dt n z) ?_
    refine congrArg (fun z => put z i (colA A q)) ?_
    exact put_self
  by_cases o : i < p
  · rw [sm_two o t.hp fun k hk h1 h2 => key k hk h1 h2, ti, tp]
    grind
  · rw [sm_two (k := p) (l := i) (by omega) hi fun k hk h1 h2 => key k hk h2 h1, ti, tp]
    grind
theorem Turn.lineD (I : TInv n m A T) (t : Turn n m T T' p q) {i j : Nat} (hi : i < n) (hj : j ≤ m + n) (hne : i ≠ p) :
    T'.L i j = dt n (put (put (cols A T.B) p (colA A q)) i (colA A j)) := by
  rw [t.L' i j hi hj, if_neg hne, ← t.exact I hi hj hne]
  exact Int.mul_ediv_cancel_left _ (by have := I.pos; omega)
theorem Turn.line (I : TInv n m A T) (t : Turn n m T T' p q) {i j : Nat} (hi : i < n) (hj : j ≤ m + n) (hne : i ≠ p) :
    T.be * T'.L i j = T.L i j * T.L p q - T.L i q * T.L p j := by
  rw [t.lineD I hi hj hne, t.exact I hi hj hne]
theorem Turn.lineP (t : Turn n m T T' p q) {j : Nat} (hj : j ≤ m + n) : T'.L p j = T.L p j := by
  rw [t.L' p j t.hp hj, if_pos rfl]
theorem Turn.goalX (I : TInv n m A T) (t : Turn n m T T' p q) {j : Nat} (hj : j ≤ m + n) :
    T.be * (T.L p q * cst n m j - sm n (fun i => cst n m (T'.B i) * T'.L i j)) = T.g j * T.L p q - T.g q * T.L p j := by
  have hq : q ≤ m + n := by have := t.hq; omega
  have e : T.be * sm n (fun i => cst n m (T'.B i) * T'.L i j) = T.be * (cst n m q * T.L p j) + sm n (fun i => cst n m (T.B i) * (T.L i j * T.L p q - T.L i q * T.L p j)) := by
    rw [← sm_mul, sm_split (k := p) t.hp, t.lineP hj, t.B' p t.hp, if_pos rfl, sm_split (f := fun i => cst n m (T.B i) * (T.L i j * T.L p q - T.L i q * T.L p j)) (k := p) t.hp]
    rw [show T.L p j * T.L p q - T.L p q * T.L p j = 0 by grind, Int.mul_zero, Int.zero_add]
    refine congrArg (fun z => T.be * (cst n m q * T.L p j) + z) ?_
    refine sm_congr fun i hi => ?_
    by_cases z : i = p
    · rw [if_pos z, if_pos z]
    · rw [if_neg z, if_neg z, t.B' i hi, if_neg z, ← t.line I hi hj z]
      grind
  have e2 : sm n (fun i => cst n m (T.B i) * (T.L i j * T.L p q - T.L i q * T.L p j)) = sm n (fun i => cst n m (T.B i) * T.L i j) * T.L p q - sm n (fun i => cst n m (T.B i) * T.L i q) * T.L p j := by
    rw [← sm_mulr, ← sm_mulr, ← sm_sub]
    refine sm_congr fun i _ => ?_
    grind
  have g1 := I.goal j hj
  have g2 := I.goal q hq
  rw [Int.mul_sub, e, e2, g1, g2]
  grind
theorem Turn.goalE (I : TInv n m A T) (t : Turn n m T T' p q) {j : Nat} (hj : j ≤ m + n) : T.be * T'.g j = T.g j * T.L p q - T.g q * T.L p j := by
  rw [t.g' j hj, ← t.goalX I hj, Int.mul_ediv_cancel_left _ (by have := I.pos; omega)]
theorem Turn.inv (I : TInv n m A T) (t : Turn n m T T' p q) : TInv n m A T' := by
  have hq : q ≤ m + n := by have := t.hq; omega
  have cB : ∀ k, k < n → ∀ r, cols A T'.B k r = put (cols A T.B) p (colA A q) k r := fun k hk r => by
    unfold put cols colA
    rw [t.B' k hk]
    split <;> rfl
  have bpos := I.pos
  refine ⟨by rw [t.be']; exact t.piv, fun i hi => ?_, fun k j hk hj => ?_, fun i hi => ?_, fun j hj => ?_, fun i j hi hj => ?_, ?_⟩
  · rw [t.B' i hi]
    split
    · have := t.hq; omega
    · exact I.bs i hi
  · rw [t.be']
    have e : T.be * (T.L p q * A k j) = T.be * sm n (fun i => T'.L i j * A k (T'.B i)) := by
      rw [← sm_mul, sm_split (k := p) t.hp, t.lineP hj, t.B' p t.hp, if_pos rfl]
      have e1 : sm n (fun i => if i = p then 0 else T.be * (T'.L i j * A k (T'.B i))) = sm n (fun i => (T.L i j * T.L p q - T.L i q * T.L p j) * A k (T.B i)) := by
        refine sm_congr fun i hi => ?_
        by_cases z : i = p
        · subst z
          rw [if_pos rfl]
          grind
        · rw [if_neg z, t.B' i hi, if_neg z, ← t.line I hi hj z]
          grind
      have e2 : sm n (fun i => (T.L i j * T.L p q - T.L i q * T.L p j) * A k (T.B i)) = sm n (fun i => T.L i j * A k (T.B i)) * T.L p q - sm n (fun i => T.L i q * A k (T.B i)) * T.L p j := by
        rw [← sm_mulr, ← sm_mulr, ← sm_sub]
        refine sm_congr fun i _ => ?_
        grind
      rw [e1, e2, ← I.rep k j hk hj, ← I.rep k q hk hq]
      grind
    exact Int.eq_of_mul_eq_mul_left (by omega) e
  · by_cases z : i = p
    · subst z
      rw [t.lineP (Nat.le_refl _)]
      exact I.feas i hi
    · have e := t.line I hi (Nat.le_refl (m + n)) z
      have f1 := I.feas i hi
      have f2 := I.feas p t.hp
      have h : 0 ≤ T.L i (m + n) * T.L p q - T.L i q * T.L p (m + n) := by
        by_cases s : 0 < T.L i q
        · rcases t.ratio i hi s with r | ⟨r, _⟩
          · rw [Int.mul_comm (T.L i q)]; omega
          · rw [Int.mul_comm (T.L i q)]; omega
        · have a1 : 0 ≤ T.L i (m + n) * T.L p q := Int.mul_nonneg f1 (by have := t.piv; omega)
          have a2 : 0 ≤ (- T.L i q) * T.L p (m + n) := Int.mul_nonneg (by omega) f2
          rw [Int.neg_mul] at a2
          omega
      rw [← e] at h
      by_cases w : 0 ≤ T'.L i (m + n)
      · exact w
      · exfalso
        have : T.be * T'.L i (m + n) < 0 := Int.mul_neg_of_pos_of_neg bpos (by omega)
        omega
  · have e := t.goalE I hj
    have e2 := t.goalX I hj
    rw [t.be']
    exact Int.eq_of_mul_eq_mul_left (by omega) (e.trans e2.symm)
  · by_cases z : i = p
    · subst z
      rw [t.lineP hj, I.detL i j hi hj]
      refine dt_congr fun k r hk hr => ?_
      by_cases y : k = i
      · subst y
        rw [put_same, put_same]
      · rw [put_ne y, put_ne y, cB k hk r, put_ne y]
    · rw [t.lineD I hi hj z]
      refine dt_congr fun k r hk hr => ?_
      by_cases y : k = i
      · subst y
        rw [put_same, put_same]
      · rw [put_ne y, put_ne y, cB k hk r]
  · rw [t.be', ← t.detP I]
    exact dt_congr fun k r hk hr => (cB k hk r).symm
/-! ### the size of all numbers -/
def top (n M : Nat) : Nat := fac n * M ^ n
theorem TInv.absL {M : Nat} (I : TInv n m A T) (hM : ∀ k j, k < n → j ≤ m + n → (A k j).natAbs ≤ M) {i j : Nat} (hi : i < n) (hj : j ≤ m + n) : (T.L i j).natAbs ≤ top n M := by
  rw [I.detL i j hi hj]
  refine dt_abs fun k r hk hr => ?_
  unfold put cols colA
  split
  · exact hM r j hr hj
  · exact hM r _ hr (Nat.le_of_lt (I.bs k hk))
theorem TInv.absb {M : Nat} (I : TInv n m A T) (hM : ∀ k j, k < n → j ≤ m + n → (A k j).natAbs ≤ M) : (T.be).natAbs ≤ top n M := by
  rw [I.detb]
  exact dt_abs fun k r hk hr => hM r _ hr (Nat.le_of_lt (I.bs k hk))
theorem cst_abs {n m j : Nat} : (cst n m j).natAbs ≤ 1 := by
  unfold cst
  split <;> decide
theorem cst_nn {n m j : Nat} : 0 ≤ cst n m j := by
  unfold cst
  split <;> decide
theorem TInv.absg {M : Nat} (I : TInv n m A T) (hM : ∀ k j, k < n → j ≤ m + n → (A k j).natAbs ≤ M) {j : Nat} (hj : j ≤ m + n) : (T.g j).natAbs ≤ (n + 1) * top n M := by
  rw [I.goal j hj]
  have h1 : (T.be * cst n m j).natAbs ≤ top n M := by
    rw [Int.natAbs_mul]
    have := Nat.mul_le_mul (I.absb hM) (cst_abs (n := n) (m := m) (j := j))
    rw [Nat.mul_one] at this
    exact this
  have h2 : (sm n (fun i => cst n m (T.B i) * T.L i j)).natAbs ≤ n * top n M := sm_abs fun i hi => by
    rw [Int.natAbs_mul]
    have := Nat.mul_le_mul (cst_abs (n := n) (m := m) (j := T.B i)) (I.absL hM hi hj)
    rw [Nat.one_mul] at this
    exact this
  rw [Nat.add_mul, Nat.one_mul]
  omega
/-! ### Bland's rule: no two turns in a run that stands still -/
theorem two_goals (S : Sys n m A) {T1 T2 : Tb} (I1 : TInv n m A T1) (I2 : TInv n m A T2) {s : Nat} (hs : s ≤ m + n) :
    sm n (fun i => T1.L i s * T2.g (T1.B i)) = T1.be * T2.g s - T2.be * T1.g s := by
  have e1 : sm n (fun i => T1.L i s * T2.g (T1.B i)) = sm n (fun i => T2.be * (cst n m (T1.B i) * T1.L i s)) - sm n (fun i => sm n (fun k => (T2.be - T2.g (m + k)) * (T1.L i s * A k (T1.B i)))) := by
    rw [← sm_sub]
    refine sm_congr fun i hi => ?_
    have d := I2.dual S (Nat.le_of_lt (I1.bs i hi))
    rw [d]
    have e : sm n (fun k => (T2.be - T2.g (m + k)) * (T1.L i s * A k (T1.B i))) = T1.L i s * sm n (fun k => (T2.be - T2.g (m + k)) * A k (T1.B i)) := by
      rw [← sm_mul]
      refine sm_congr fun k _ => ?_
      grind
    rw [e]
    grind
  have e2 : sm n (fun i => sm n (fun k => (T2.be - T2.g (m + k)) * (T1.L i s * A k (T1.B i)))) = T1.be * sm n (fun k => (T2.be - T2.g (m + k)) * A k s) := by
    rw [sm_swap, ← sm_mul]
    refine sm_congr fun k hk => ?_
    rw [sm_mul, ← I1.rep k s hk hs]
    grind
  have g1 := I1.goal s hs
  have g2 := I2.dual S hs
  rw [e1, e2, sm_mul]
  have h1 : sm n (fun i => cst n m (T1.B i) * T1.L i s) = T1.be * cst n m s - T1.g s := by omega
  have h2 : sm n (fun k => (T2.be - T2.g (m + k)) * A k s) = T2.be * cst n m s - T2.g s := by omega
  rw [h1, h2]
  grind
/-- a stretch of turns, none of which moves anything -/
structure Still (n m : Nat) (A : Nat → Nat → Int) (f : Nat → Tb) (p q : Nat → Nat) (a l : Nat) : Prop where
  inv : ∀ i, a ≤ i → i < a + l → TInv n m A (f i)
  turn : ∀ i, a ≤ i → i < a + l → Turn n m (f i) (f (i + 1)) (p i) (q i)
  still : ∀ i, a ≤ i → i < a + l → (f i).L (p i) (m + n) = 0
def Bas (n : Nat) (T : Tb) (x : Nat) : Prop := ∃ i, i < n ∧ T.B i = x
def Zer (n m : Nat) (T : Tb) (x : Nat) : Prop := ∀ i, i < n → T.B i = x → T.L i (m + n) = 0
theorem Turn.bas (I : TInv n m A T) (t : Turn n m T T' p q) {x : Nat} : Bas n T' x ↔ x = q ∨ (Bas n T x ∧ x ≠ T.B p) := by
  constructor
  · rintro ⟨i, hi, e⟩
    rw [t.B' i hi] at e
    by_cases z : i = p
    · rw [if_pos z] at e
      exact .inl e.symm
    · rw [if_neg z] at e
      refine .inr ⟨⟨i, hi, e⟩, fun y => z (I.inj hi t.hp (e.trans y))⟩
  · rintro (rfl | ⟨⟨i, hi, e⟩, hne⟩)
    · exact ⟨p, t.hp, by rw [t.B' p t.hp, if_pos rfl]⟩
    · refine ⟨i, hi, ?_⟩
      rw [t.B' i hi, if_neg fun z => hne ?_]
      · exact e
      · rw [← e, z]
theorem Turn.zer (I : TInv n m A T) (t : Turn n m T T' p q) (z0 : T.L p (m + n) = 0) {x : Nat} : Zer n m T x ↔ Zer n m T' x := by
  have line : ∀ i, i < n → i ≠ p → (T'.L i (m + n) = 0 ↔ T.L i (m + n) = 0) := fun i hi hne => by
    have e := t.line I hi (Nat.le_refl (m + n)) hne
    rw [z0, Int.mul_zero, Int.sub_zero] at e
    constructor
    · intro h
      rw [h, Int.mul_zero] at e
      rcases Int.mul_eq_zero.mp e.symm with y | y
      · exact y
      · have := t.piv; omega
    · intro h
      rw [h, Int.zero_mul] at e
      rcases Int.mul_eq_zero.mp e with y | y
      · have := I.pos; omega
      · exact y
  constructor
  · intro h i hi e
    by_cases z : i = p
    · subst z
      rw [t.lineP (Nat.le_refl _), z0]
    · rw [t.B' i hi, if_neg z] at e
      exact (line i hi z).mpr (h i hi e)
  · intro h i hi e
    by_cases z : i = p
    · subst z
      exact z0
    · exact (line i hi z).mp (h i hi (by rw [t.B' i hi, if_neg z]; exact e))
section
variable {f : Nat → Tb} {pp qq : Nat → Nat} {a l : Nat}
theorem Still.sub (R : Still n m A f pp qq a l) {a' l' : Nat} (h1 : a ≤ a') (h2 : a' + l' ≤ a + l) : Still n m A f pp qq a' l' :=
  ⟨fun i h h' => R.inv i (by omega) (by omega), fun i h h' => R.turn i (by omega) (by omega), fun i h h' => R.still i (by omega) (by omega)⟩
/-- x goes out between i and j -/
theorem Still.out (R : Still n m A f pp qq a l) {x i : Nat} (hi : a ≤ i) : ∀ d, i + d ≤ a + l → Bas n (f i) x → ¬ Bas n (f (i + d)) x → ∃ k, i ≤ k ∧ k < i + d ∧ (f k).B (pp k) = x
  | 0, _, h1, h2 => absurd h1 h2
  | d + 1, hd, h1, h2 => by
    by_cases z : Bas n (f (i + d)) x
    · refine ⟨i + d, by omega, by omega, ?_⟩
      by_cases y : (f (i + d)).B (pp (i + d)) = x
      · exact y
      · exact absurd (((R.turn (i + d) (by omega) (by omega)).bas (R.inv (i + d) (by omega) (by omega))).mpr (.inr ⟨z, fun w => y w.symm⟩)) h2
    · obtain ⟨k, k1, k2, k3⟩ := Still.out R hi d (by omega) h1 z
      exact ⟨k, k1, by omega, k3⟩
/-- x comes in between i and j -/
theorem Still.come (R : Still n m A f pp qq a l) {x i : Nat} (hi : a ≤ i) : ∀ d, i + d ≤ a + l → ¬ Bas n (f i) x → Bas n (f (i + d)) x → ∃ k, i ≤ k ∧ k < i + d ∧ qq k = x
  | 0, _, h1, h2 => absurd h2 h1
  | d + 1, hd, h1, h2 => by
    by_cases z : Bas n (f (i + d)) x
    · obtain ⟨k, k1, k2, k3⟩ := Still.come R hi d (by omega) h1 z
      exact ⟨k, k1, by omega, k3⟩
    · refine ⟨i + d, by omega, by omega, ?_⟩
      rcases ((R.turn (i + d) (by omega) (by omega)).bas (R.inv (i + d) (by omega) (by omega))).mp h2 with y | ⟨y, _⟩
      · exact y.symm
      · exact absurd y z
theorem Still.zer (R : Still n m A f pp qq a l) {x i : Nat} (hi : a ≤ i) : ∀ d, i + d ≤ a + l → (Zer n m (f i) x ↔ Zer n m (f (i + d)) x)
  | 0, _ => Iff.rfl
  | d + 1, hd => (Still.zer R hi d (by omega)).trans ((R.turn (i + d) (by omega) (by omega)).zer (R.inv (i + d) (by omega) (by omega)) (R.still (i + d) (by omega) (by omega)))
/-- all turns of the stretch are at places below k -/
def Low (f : Nat → Tb) (pp qq : Nat → Nat) (a l k : Nat) : Prop := ∀ i, a ≤ i → i < a + l → qq i < k ∧ (f i).B (pp i) < k
/-- the heart: t goes out at a1, comes in at a2, and no turn is above t -/
theorem Still.core (S : Sys n m A) (R : Still n m A f pp qq a l) {a1 a2 t : Nat} (h1 : a ≤ a1) (h1' : a1 < a + l) (h2 : a ≤ a2) (h2' : a2 < a + l) (low : Low f pp qq a l (t + 1)) (o : (f a1).B (pp a1) = t) (c : qq a2 = t) : False := by
  have I1 := R.inv a1 h1 h1'
  have I2 := R.inv a2 h2 h2'
  have t1 := R.turn a1 h1 h1'
  have t2 := R.turn a2 h2 h2'
  have z1 := R.still a1 h1 h1'
  have hs : qq a1 ≤ m + n := by have := t1.hq; omega
  -- the place that comes in at a1 is below t
  have s_ne : qq a1 ≠ t := fun e => by
    have := I1.goalB t1.hp
    rw [o, ← e] at this
    have := t1.neg
    omega
  have s_lt : qq a1 < t := by have := (low a1 h1 h1').1; omega
  have g2s : 0 ≤ (f a2).g (qq a1) := t2.first _ (by rw [c]; exact s_lt)
  have id := two_goals S I1 I2 hs
  have big : 0 < sm n (fun i => (f a1).L i (qq a1) * (f a2).g ((f a1).B i)) := by
    rw [id]
    have x1 : 0 ≤ (f a1).be * (f a2).g (qq a1) := Int.mul_nonneg (by have := I1.pos; omega) g2s
    have x2 : (f a2).be * (f a1).g (qq a1) < 0 := Int.mul_neg_of_pos_of_neg I2.pos t1.neg
    omega
  obtain ⟨i, hi, pos⟩ := sm_pos_ex big
  -- r = the i-th of the basis at a1
  have rBas : Bas n (f a1) ((f a1).B i) := ⟨i, hi, rfl⟩
  have rNot : ¬ Bas n (f a2) ((f a1).B i) := fun ⟨k, hk, e⟩ => by
    have := I2.goalB hk
    rw [e] at this
    rw [this, Int.mul_zero] at pos
    omega
  have r_le : (f a1).B i ≤ t ∧ (Zer n m (f a1) ((f a1).B i) ↔ Zer n m (f a2) ((f a1).B i)) := by
    by_cases w : a1 ≤ a2
    · obtain ⟨d, rfl⟩ : ∃ d, a2 = a1 + d := ⟨a2 - a1, by omega⟩
      obtain ⟨k, k1, k2, k3⟩ := R.out h1 d (by omega) rBas rNot
      exact ⟨by have := (low k (by omega) (by omega)).2; rw [k3] at this; omega, R.zer h1 d (by omega)⟩
    · obtain ⟨d, rfl⟩ : ∃ d, a1 = a2 + d := ⟨a1 - a2, by omega⟩
      obtain ⟨k, k1, k2, k3⟩ := R.come h2 d (by omega) rNot rBas
      exact ⟨by have := (low k (by omega) (by omega)).1; rw [k3] at this; omega, (R.zer h2 d (by omega)).symm⟩
  obtain ⟨r_le, zz⟩ := r_le
  have g2t : (f a2).g t < 0 := by rw [← c]; exact t2.neg
  by_cases e : (f a1).B i = t
  · have ip : i = pp a1 := I1.inj hi t1.hp (e.trans o.symm)
    subst ip
    rw [e] at pos
    have := Int.mul_neg_of_pos_of_neg t1.piv g2t
    omega
  · have r_lt : (f a1).B i < t := by omega
    have g2r : 0 ≤ (f a2).g ((f a1).B i) := t2.first _ (by rw [c]; exact r_lt)
    have lpos : 0 < (f a1).L i (qq a1) := by
      by_cases y : 0 < (f a1).L i (qq a1)
      · exact y
      · have : 0 ≤ (-(f a1).L i (qq a1)) * (f a2).g ((f a1).B i) := Int.mul_nonneg (by omega) g2r
        rw [Int.neg_mul] at this
        omega
    have zr : (f a1).L i (m + n) = 0 := zz.mpr (fun k hk e => absurd ⟨k, hk, e⟩ rNot) i hi rfl
    rcases t1.ratio i hi lpos with y | ⟨_, y⟩
    · rw [z1, zr, Int.zero_mul, Int.zero_mul] at y
      omega
    · rw [o] at y
      omega
theorem Still.short (S : Sys n m A) : ∀ (k : Nat) {a l : Nat}, Still n m A f pp qq a l → Low f pp qq a l k → l < 2 ^ k
  | 0, a, l, R, low => by
    by_cases h : l = 0
    · rw [h]; decide
    · have := (low a (Nat.le_refl _) (by omega)).1
      omega
  | k + 1, a, l, R, low => by
    by_cases h : l < 2 ^ (k + 1)
    · exact h
    · exfalso
      have e : 2 ^ (k + 1) = 2 ^ k + 2 ^ k := by rw [Nat.pow_succ]; omega
      -- in each half a turn at place k
      have half : ∀ b, a ≤ b → b + 2 ^ k ≤ a + l → ∃ i, b ≤ i ∧ i < b + 2 ^ k ∧ (qq i = k ∨ (f i).B (pp i) = k) := fun b hb hb' => by
        apply Classical.byContradiction
        intro no
        have no' : ∀ i, b ≤ i → i < b + 2 ^ k → ¬ (qq i = k ∨ (f i).B (pp i) = k) := fun i h1 h2 h3 => no ⟨i, h1, h2, h3⟩
        have := Still.short S k (R.sub (a' := b) (l' := 2 ^ k) hb hb') fun i h1 h2 => by
          have := low i (by omega) (by omega)
          have q := no' i h1 h2
          exact ⟨by have := this.1; omega, by have := this.2; omega⟩
        omega
      obtain ⟨i1, b1, c1, d1⟩ := half a (Nat.le_refl _) (by omega)
      obtain ⟨i2, b2, c2, d2⟩ := half (a + 2 ^ k) (by omega) (by omega)
      have core := fun (x y : Nat) (hx : a ≤ x) (hx' : x < a + l) (hy : a ≤ y) (hy' : y < a + l) (o : (f x).B (pp x) = k) (c : qq y = k) => R.core S hx hx' hy hy' low o c
      rcases d1 with d1 | d1
      · rcases d2 with d2 | d2
        · -- in at i1, in at i2: out between
          have t1 := R.turn i1 (by omega) (by omega)
          have in1 : Bas n (f (i1 + 1)) k := (t1.bas (R.inv i1 (by omega) (by omega))).mpr (.inl d1.symm)
          have I2 := R.inv i2 (by omega) (by omega)
          have not2 : ¬ Bas n (f i2) k := fun ⟨x, hx, ex⟩ => by
            have := I2.goalB hx
            have g := (R.turn i2 (by omega) (by omega)).neg
            rw [d2, ← ex] at g
            omega
          obtain ⟨x, x1, x2, x3⟩ := R.out (i := i1 + 1) (by omega) (i2 - (i1 + 1)) (by omega) in1 (by rw [show i1 + 1 + (i2 - (i1 + 1)) = i2 by omega]; exact not2)
          exact core x i2 (by omega) (by omega) (by omega) (by omega) x3 d2
        · exact core i2 i1 (by omega) (by omega) (by omega) (by omega) d2 d1
      · rcases d2 with d2 | d2
        · exact core i1 i2 (by omega) (by omega) (by omega) (by omega) d1 d2
        · -- out at i1, out at i2: in between
          have t1 := R.turn i1 (by omega) (by omega)
          have I1 := R.inv i1 (by omega) (by omega)
          have ne : k ≠ qq i1 := fun e => by
            have := I1.goalB t1.hp
            rw [d1, e] at this
            have := t1.neg
            omega
          have not1 : ¬ Bas n (f (i1 + 1)) k := fun h => by
            rcases (t1.bas I1).mp h with y | ⟨_, y⟩
            · exact ne y
            · exact y d1.symm
          have in2 : Bas n (f i2) k := ⟨pp i2, (R.turn i2 (by omega) (by omega)).hp, d2⟩
          obtain ⟨x, x1, x2, x3⟩ := R.come (i := i1 + 1) (by omega) (i2 - (i1 + 1)) (by omega) not1 (by rw [show i1 + 1 + (i2 - (i1 + 1)) = i2 by omega]; exact in2)
          exact core i1 x (by omega) (by omega) (by omega) (by omega) d1 x3
end
/-! ### the whole run ends -/
theorem dvd_fac : ∀ {n d : Nat}, 0 < d → d ≤ n → d ∣ fac n
  | 0, d, h, h' => by omega
  | n + 1, d, h, h' => by
    by_cases e : d = n + 1
    · subst e
      exact ⟨fac n, rfl⟩
    · obtain ⟨c, hc⟩ := dvd_fac (n := n) h (by omega)
      exact ⟨(n + 1) * c, by show (n + 1) * fac n = d * ((n + 1) * c); rw [hc]; grind⟩
theorem fac_pos : ∀ n : Nat, 0 < fac n
  | 0 => by decide
  | n + 1 => Nat.mul_pos (by omega) (fac_pos n)
/-- the goal's value, in the measure of all numbers below -/
def pot (n m M : Nat) (T : Tb) : Int := (- T.g (m + n)) * ((fac (top n M) : Nat) / T.be)
theorem pot_mul {M : Nat} (I : TInv n m A T) (hM : ∀ k j, k < n → j ≤ m + n → (A k j).natAbs ≤ M) : pot n m M T * T.be = (- T.g (m + n)) * (fac (top n M) : Nat) := by
  unfold pot
  have h := I.absb hM
  have hp := I.pos
  obtain ⟨c, hc⟩ := dvd_fac (n := top n M) (d := T.be.natAbs) (by omega) h
  have e : ((fac (top n M) : Nat) : Int) = T.be * (c : Int) := by
    rw [hc, Int.natCast_mul]
    congr 1
    omega
  rw [e, Int.mul_ediv_cancel_left _ (by omega), Int.mul_assoc, Int.mul_comm (c : Int)]
theorem pot_nn {M : Nat} (I : TInv n m A T) (hM : ∀ k j, k < n → j ≤ m + n → (A k j).natAbs ≤ M) : 0 ≤ pot n m M T := by
  have g := I.goal (m + n) (Nat.le_refl _)
  rw [show cst n m (m + n) = 0 from if_neg (by omega), Int.mul_zero, Int.zero_sub] at g
  have s : 0 ≤ sm n (fun i => cst n m (T.B i) * T.L i (m + n)) := sm_nonneg fun i hi => Int.mul_nonneg cst_nn (I.feas i hi)
  have : 0 ≤ - T.g (m + n) := by omega
  unfold pot
  exact Int.mul_nonneg this (Int.ediv_nonneg (Int.natCast_nonneg _) (by have := I.pos; omega))
theorem Turn.pot {M : Nat} (I : TInv n m A T) (hM : ∀ k j, k < n → j ≤ m + n → (A k j).natAbs ≤ M) (t : Turn n m T T' p q) : Bn.pot n m M T' ≤ Bn.pot n m M T ∧ (T.L p (m + n) ≠ 0 → Bn.pot n m M T' < Bn.pot n m M T) := by
  have e := t.goalE I (Nat.le_refl (m + n))
  have I' := t.inv I
  have p1 := pot_mul I hM
  have p2 := pot_mul I' hM
  have f0 : 0 < ((fac (top n M) : Nat) : Int) := by have := fac_pos (top n M); omega
  have b1 := I.pos
  have b2 := I'.pos
  have bb : 0 < T.be * T'.be := Int.mul_pos b1 b2
  have q0 : T.g q < 0 := t.neg
  have r0 := I.feas p t.hp
  -- pot' * (be be') = F (-g') be ; pot (be be') = F (-g) be'
  have k1 : Bn.pot n m M T' * (T.be * T'.be) = (- (T.be * T'.g (m + n))) * (fac (top n M) : Nat) := by grind
  have k2 : Bn.pot n m M T * (T.be * T'.be) = (- (T.g (m + n) * T'.be)) * (fac (top n M) : Nat) := by grind
  rw [e, ← t.be'] at k1
  have d : Bn.pot n m M T * (T.be * T'.be) - Bn.pot n m M T' * (T.be * T'.be) = ((- T.g q) * T.L p (m + n)) * (fac (top n M) : Nat) := by
    rw [k1, k2]
    grind
  have d2 : (Bn.pot n m M T - Bn.pot n m M T') * (T.be * T'.be) = ((- T.g q) * T.L p (m + n)) * (fac (top n M) : Nat) := by
    rw [Int.sub_mul]
    exact d
  constructor
  · have nn : 0 ≤ ((- T.g q) * T.L p (m + n)) * (fac (top n M) : Nat) := Int.mul_nonneg (Int.mul_nonneg (by omega) r0) (by omega)
    by_cases w : Bn.pot n m M T' ≤ Bn.pot n m M T
    · exact w
    · have : (Bn.pot n m M T - Bn.pot n m M T') * (T.be * T'.be) < 0 := Int.mul_neg_of_neg_of_pos (by omega) bb
      omega
  · intro hne
    have nn : 0 < ((- T.g q) * T.L p (m + n)) * (fac (top n M) : Nat) := Int.mul_pos (Int.mul_pos (by omega) (by omega)) f0
    by_cases w : Bn.pot n m M T' < Bn.pot n m M T
    · exact w
    · have : (Bn.pot n m M T - Bn.pot n m M T') * (T.be * T'.be) ≤ 0 := by
        have := Int.mul_nonneg (a := Bn.pot n m M T' - Bn.pot n m M T) (by omega) (Int.le_of_lt bb)
        grind
      omega
/-- a run of l turns from T -/
def Runs (n m : Nat) (T : Tb) (l : Nat) : Prop := ∃ (f : Nat → Tb) (pp qq : Nat → Nat), f 0 = T ∧ ∀ i, i < l → Turn n m (f i) (f (i + 1)) (pp i) (qq i)
theorem inv_along {f : Nat → Tb} {pp qq : Nat → Nat} {l : Nat} (I : TInv n m A (f 0)) (h : ∀ i, i < l → Turn n m (f i) (f (i + 1)) (pp i) (qq i)) : ∀ i, i ≤ l → TInv n m A (f i)
  | 0, _ => I
  | i + 1, hi => (h i (by omega)).inv (inv_along I h i (by omega))
theorem runs_end {M : Nat} (S : Sys n m A) (hM : ∀ k j, k < n → j ≤ m + n → (A k j).natAbs ≤ M) : ∀ (v : Nat) {T : Tb}, TInv n m A T → pot n m M T ≤ (v : Int) → ∀ l, Runs n m T l → l < (v + 1) * 2 ^ (m + n)
  | v, T, I, hv, l, ⟨f, pp, qq, e0, h⟩ => by
    by_cases w : l < (v + 1) * 2 ^ (m + n)
    · exact w
    · exfalso
      have pw : 0 < 2 ^ (m + n) := Nat.pow_pos (by decide)
      have I0 : TInv n m A (f 0) := by rw [e0]; exact I
      have al := inv_along I0 h
      have big : 2 ^ (m + n) ≤ l := Nat.le_trans (Nat.le_mul_of_pos_left _ (by omega)) (Nat.le_of_not_lt w)
      -- a turn that moves something
      have ex : ∃ i, i < 2 ^ (m + n) ∧ (f i).L (pp i) (m + n) ≠ 0 := by
        apply Classical.byContradiction
        intro no
        have R : Still n m A f pp qq 0 (2 ^ (m + n)) := ⟨fun i _ hi => al i (by omega), fun i _ hi => h i (by omega), fun i _ hi => by
          apply Classical.byContradiction
          intro z
          exact no ⟨i, by omega, z⟩⟩
        have := Still.short S (m + n) R fun i _ hi => ⟨by have := (h i (by omega)).hq; omega, (al i (by omega)).bs _ (h i (by omega)).hp⟩
        omega
      obtain ⟨i, hi, z⟩ := ex
      have mono : ∀ j, j ≤ l → pot n m M (f j) ≤ pot n m M T := fun j => by
        induction j with
        | zero => intro _; rw [e0]; exact Int.le_refl _
        | succ j ih =>
          intro hj
          exact Int.le_trans ((h j (by omega)).pot (al j (by omega)) hM).1 (ih (by omega))
      have lt := ((h i (by omega)).pot (al i (by omega)) hM).2 z
      have m1 := mono i (by omega)
      have nn := pot_nn (al (i + 1) (by omega)) hM
      match v, hv, w with
      | 0, hv, w => omega
      | v + 1, hv, w =>
        have := runs_end S hM v (al (i + 1) (by omega)) (by omega) (l - (i + 1)) ⟨fun k => f (i + 1 + k), fun k => pp (i + 1 + k), fun k => qq (i + 1 + k), rfl, fun k hk => h (i + 1 + k) (by omega)⟩
        have e : (v + 1 + 1) * 2 ^ (m + n) = (v + 1) * 2 ^ (m + n) + 2 ^ (m + n) := by rw [Nat.add_mul (v + 1) 1, Nat.one_mul]
        omega
  termination_by v => v
/-- a number of turns that no run from T reaches -/
theorem turns_most {M : Nat} (S : Sys n m A) (hM : ∀ k j, k < n → j ≤ m + n → (A k j).natAbs ≤ M) (I : TInv n m A T) : ∃ N : Nat, ∀ l, Runs n m T l → l ≤ N :=
  ⟨((pot n m M T).toNat + 1) * 2 ^ (m + n), fun l h => Nat.le_of_lt (runs_end S hM (pot n m M T).toNat I (by have := pot_nn I hM; omega) l h)⟩
theorem runs_cons {l : Nat} (t : Turn n m T T' p q) (h : Runs n m T' l) : Runs n m T (l + 1) := by
  obtain ⟨f, pp, qq, e0, h⟩ := h
  refine ⟨fun i => match i with | 0 => T | i + 1 => f i, fun i => match i with | 0 => p | i + 1 => pp i, fun i => match i with | 0 => q | i + 1 => qq i, rfl, fun i hi => ?_⟩
  match i with
  | 0 =>
    show Turn n m T (f 0) p q
    rw [e0]
    exact t
  | i + 1 => exact h i (by omega)
/-! ### the start and the two ends -/
def tb0 (n m : Nat) (A : Nat → Nat → Int) : Tb := ⟨A, fun j => if m ≤ j ∧ j < m + n then 0 else - sm n (fun i => A i j), fun i => m + i, 1⟩
theorem tinv0 (S : Sys n m A) : TInv n m A (tb0 n m A) := by
  have id : dt n (cols A (fun i => m + i)) = 1 := dt_id fun k r hk hr => S.help r k hr hk
  refine ⟨Int.zero_lt_one, fun i hi => ?_, fun k j hk hj => ?_, fun i hi => S.rhs i hi, fun j hj => ?_, fun i j hi hj => ?_, id.symm⟩
  · show m + i < m + n
    omega
  · show 1 * A k j = sm n (fun i => A i j * A k (m + i))
    rw [sm_one hk]
    · rw [S.help k k hk hk, if_pos rfl]
      omega
    · intro i hi hne
      rw [S.help k i hk hi, if_neg (Ne.symm hne), Int.mul_zero]
  · show (if m ≤ j ∧ j < m + n then 0 else - sm n (fun i => A i j)) = 1 * cst n m j - sm n (fun i => cst n m (m + i) * A i j)
    have e : sm n (fun i => cst n m (m + i) * A i j) = sm n (fun i => A i j) := sm_congr fun i hi => by
      rw [show cst n m (m + i) = 1 from if_pos ⟨by omega, by omega⟩, Int.one_mul]
    rw [e]
    unfold cst
    by_cases w : m ≤ j ∧ j < m + n
    · rw [if_pos w, if_pos w]
      have : sm n (fun i => A i j) = 1 := by
        obtain ⟨d, rfl⟩ : ∃ d, j = m + d := ⟨j - m, by omega⟩
        rw [sm_one (k := d) (by omega)]
        · rw [S.help d d (by omega) (by omega), if_pos rfl]
        · intro i hi hne
          rw [S.help i d hi (by omega), if_neg hne]
      omega
    · rw [if_neg w, if_neg w]
      omega
  · show A i j = dt n (put (cols A (fun i => m + i)) i (colA A j))
    have e : dt n (put (cols A (fun i => m + i)) i (colA A j)) = dt n (put (cols A (fun i => m + i)) i (fun r => sm n (fun k => A k j * colA A (m + k) r))) := by
      refine dt_congr fun k r hk hr => ?_
      by_cases q : k = i
      · subst q
        rw [put_same, put_same, sm_one hr]
        · show A r j = A r j * A r (m + r)
          rw [S.help r r hr hr, if_pos rfl, Int.mul_one]
        · intro l hl hne
          show A l j * A r (m + l) = 0
          rw [S.help r l hr hl, if_neg (Ne.symm hne), Int.mul_zero]
      · rw [put_ne q, put_ne q]
    rw [e, dt_sum hi, sm_one (k := i) hi]
    · have : put (cols A (fun i => m + i)) i (colA A (m + i)) = cols A (fun i => m + i) := put_self
      rw [this, id, Int.mul_one]
    · intro k hk hne
      rw [dt_eq_cols hi hk (Ne.symm hne) fun r _ => ?_, Int.mul_zero]
      rw [put_same, put_ne hne]
      rfl
/-- a line where the place is above 0 -/
theorem TInv.some_line (I : TInv n m A T) {q : Nat} (hq : q < m) (neg : T.g q < 0) : ∃ i, i < n ∧ 0 < T.L i q := by
  have g := I.goal q (by omega)
  rw [show cst n m q = 0 from if_neg (by omega), Int.mul_zero, Int.zero_sub] at g
  obtain ⟨i, hi, h⟩ := sm_pos_ex (f := fun i => cst n m (T.B i) * T.L i q) (n := n) (by omega)
  refine ⟨i, hi, ?_⟩
  by_cases w : 0 < T.L i q
  · exact w
  · have := Int.mul_nonneg (a := cst n m (T.B i)) (b := - T.L i q) cst_nn (by omega)
    rw [Int.mul_neg] at this
    omega
/-- rows * x = be * rights has an x from 0 on -/
def Feas (n m : Nat) (A : Nat → Nat → Int) : Prop := ∃ (be : Int) (x : Nat → Int), 0 < be ∧ (∀ j, j < m → 0 ≤ x j) ∧ ∀ k, k < n → sm m (fun j => A k j * x j) = be * A k (m + n)
/-- weights by which the rows come to at most 0, the rights to more -/
def Cert (n m : Nat) (A : Nat → Nat → Int) (y : Nat → Int) : Prop := (∀ j, j < m → sm n (fun k => y k * A k j) ≤ 0) ∧ 0 < sm n (fun k => y k * A k (m + n))
theorem not_both {y : Nat → Int} (F : Feas n m A) (C : Cert n m A y) : False := by
  obtain ⟨be, x, hb, hx, h⟩ := F
  obtain ⟨c1, c2⟩ := C
  have e : sm n (fun k => y k * (be * A k (m + n))) = sm m (fun j => x j * sm n (fun k => y k * A k j)) := by
    rw [sm_congr (g := fun k => sm m (fun j => x j * (y k * A k j))) fun k hk => ?_, sm_swap]
    · exact sm_congr fun j _ => sm_mul _ _ _
    · rw [← h k hk, ← sm_mul]
      exact sm_congr fun j _ => by grind
  have e2 : sm n (fun k => y k * (be * A k (m + n))) = be * sm n (fun k => y k * A k (m + n)) := by
    rw [← sm_mul]
    exact sm_congr fun k _ => by grind
  have p1 : 0 < be * sm n (fun k => y k * A k (m + n)) := Int.mul_pos hb c2
  have p2 : sm m (fun j => x j * sm n (fun k => y k * A k j)) ≤ sm m (fun _ => 0) := sm_le fun j hj => by
    have := Int.mul_nonneg (hx j hj) (b := - sm n (fun k => y k * A k j)) (by have := c1 j hj; omega)
    rw [Int.mul_neg] at this
    omega
  rw [sm_zero fun _ _ => rfl] at p2
  omega
theorem TInv.cert (S : Sys n m A) (I : TInv n m A T) (neg : T.g (m + n) < 0) (no : ∀ j, j < m → 0 ≤ T.g j) : Cert n m A (fun k => T.be - T.g (m + k)) := by
  refine ⟨fun j hj => ?_, ?_⟩
  · have d := I.dual S (j := j) (by omega)
    rw [show cst n m j = 0 from if_neg (by omega), Int.mul_zero, Int.zero_sub] at d
    have := no j hj
    show sm n (fun k => (T.be - T.g (m + k)) * A k j) ≤ 0
    omega
  · have d := I.dual S (j := m + n) (Nat.le_refl _)
    rw [show cst n m (m + n) = 0 from if_neg (by omega), Int.mul_zero, Int.zero_sub] at d
    show 0 < sm n (fun k => (T.be - T.g (m + k)) * A k (m + n))
    omega
/-- the number at place j: that of its line, if it is one of the basis -/
def valAt (T : Tb) (r : Nat) : Nat → Nat → Int
  | 0, _ => 0
  | k + 1, j => valAt T r k j + if T.B k = j then T.L k r else 0
theorem valAt_nn {r : Nat} : ∀ {k : Nat}, (∀ i, i < k → 0 ≤ T.L i r) → ∀ j, 0 ≤ valAt T r k j
  | 0, _, _ => Int.le_refl 0
  | k + 1, h, j => by
    have h1 := valAt_nn (k := k) (fun i hi => h i (by omega)) j
    have h2 := h k (by omega)
    show 0 ≤ valAt T r k j + if T.B k = j then T.L k r else 0
    split <;> omega
theorem valAt_sum {r m : Nat} (u : Nat → Int) : ∀ {k : Nat}, (∀ i, i < k → T.B i < m ∨ T.L i r = 0) → sm m (fun j => u j * valAt T r k j) = sm k (fun i => T.L i r * u (T.B i))
  | 0, _ => sm_zero fun j _ => Int.mul_zero _
  | k + 1, h => by
    show sm m (fun j => u j * (valAt T r k j + if T.B k = j then T.L k r else 0)) = sm k (fun i => T.L i r * u (T.B i)) + T.L k r * u (T.B k)
    rw [← valAt_sum u (k := k) fun i hi => h i (by omega)]
    have e : sm m (fun j => u j * (valAt T r k j + if T.B k = j then T.L k r else 0)) = sm m (fun j => u j * valAt T r k j) + sm m (fun j => u j * (if T.B k = j then T.L k r else 0)) := by
      rw [← sm_add]
      exact sm_congr fun j _ => Int.mul_add _ _ _
    rw [e]
    congr 1
    rcases h k (by omega) with w | w
    · rw [sm_one w]
      · rw [if_pos rfl, Int.mul_comm]
      · intro i _ hne
        rw [if_neg (Ne.symm hne), Int.mul_zero]
    · rw [w, Int.zero_mul]
      exact sm_zero fun j _ => by split <;> exact Int.mul_zero _
theorem TInv.solved (I : TInv n m A T) (nn : 0 ≤ T.g (m + n)) : Feas n m A := by
  have g := I.goal (m + n) (Nat.le_refl _)
  rw [show cst n m (m + n) = 0 from if_neg (by omega), Int.mul_zero, Int.zero_sub] at g
  have nn2 : ∀ i, i < n → 0 ≤ cst n m (T.B i) * T.L i (m + n) := fun i hi => Int.mul_nonneg cst_nn (I.feas i hi)
  have z : ∀ i, i < n → T.B i < m ∨ T.L i (m + n) = 0 := fun i hi => by
    by_cases w : T.B i < m
    · exact .inl w
    · right
      have h := sm_nonneg_le nn2 i hi
      rw [show cst n m (T.B i) = 1 from if_pos ⟨by omega, I.bs i hi⟩, Int.one_mul] at h
      have := I.feas i hi
      omega
  refine ⟨T.be, valAt T (m + n) n, I.pos, fun j _ => valAt_nn I.feas j, fun k hk => ?_⟩
  rw [valAt_sum (fun j => A k j) z, I.rep k (m + n) hk (Nat.le_refl _)]
end
end Bn
set_option Elab.async false
set_option linter.all false
/-! BnTell: the line that goes out exists; feasible or a certificate; news tables: noise in integers, reflexive, transitive; two rows: thresholds. Plain Lean. -/
namespace Bn
section
variable {n m : Nat} {A : Nat → Nat → Int} {T T' : Tb} {p q : Nat}
/-! ### the line that goes out -/
/-- line i is not ahead of line p, at place q -/
def Lat (T : Tb) (r q p i : Nat) : Prop := T.L p r * T.L i q < T.L i r * T.L p q ∨ (T.L p r * T.L i q = T.L i r * T.L p q ∧ T.B p ≤ T.B i)
structure Best (T : Tb) (r q k p : Nat) : Prop where
  lt : p < k
  pos : 0 < T.L p q
  all : ∀ i, i < k → 0 < T.L i q → Lat T r q p i
theorem Best.keep {r q k p : Nat} (b : Best T r q k p) (h : ¬ 0 < T.L k q) : Best T r q (k + 1) p :=
  ⟨by have := b.lt; omega, b.pos, fun i hi hp => if e : i = k then absurd (e ▸ hp) h else b.all i (by omega) hp⟩
theorem Best.stay {r q k p : Nat} (b : Best T r q k p) (h : Lat T r q p k) : Best T r q (k + 1) p :=
  ⟨by have := b.lt; omega, b.pos, fun i hi hp => if e : i = k then e ▸ h else b.all i (by omega) hp⟩
theorem Best.first {r q k : Nat} (no : ∀ i, i < k → ¬ 0 < T.L i q) (h : 0 < T.L k q) : Best T r q (k + 1) k :=
  ⟨by omega, h, fun i hi hp => if e : i = k then by subst e; exact .inr ⟨rfl, Nat.le_refl _⟩ else absurd hp (no i (by omega))⟩
theorem lat_trans {r q a b c : Nat} (ha : 0 < T.L a q) (hb : 0 < T.L b q) (hc : 0 < T.L c q) (h1 : Lat T r q a b) (h2 : Lat T r q b c) : Lat T r q a c := by
  -- a_r b_q <= b_r a_q, b_r c_q <= c_r b_q
  have key : ∀ x y : Int, 0 < T.L b q → (T.L b q * x < T.L b q * y → x < y) ∧ (T.L b q * x = T.L b q * y → x = y) := fun x y h =>
    ⟨fun z => Int.lt_of_mul_lt_mul_left z (by omega), fun z => Int.eq_of_mul_eq_mul_left (by omega) z⟩
  have k := key (T.L a r * T.L c q) (T.L c r * T.L a q) hb
  unfold Lat at h1 h2 ⊢
  rcases h1 with h1 | ⟨h1, e1⟩ <;> rcases h2 with h2 | ⟨h2, e2⟩
  · left
    refine k.1 ?_
    have a1 := Int.mul_lt_mul_of_pos_right h1 hc
    have a2 := Int.mul_lt_mul_of_pos_right h2 ha
    grind
  · left
    refine k.1 ?_
    have a1 := Int.mul_lt_mul_of_pos_right h1 hc
    have a2 : T.L b r * T.L c q * T.L a q = T.L c r * T.L b q * T.L a q := by rw [h2]
    grind
  · left
    refine k.1 ?_
    have a1 : T.L a r * T.L b q * T.L c q = T.L b r * T.L a q * T.L c q := by rw [h1]
    have a2 := Int.mul_lt_mul_of_pos_right h2 ha
    grind
  · right
    refine ⟨k.2 ?_, by omega⟩
    have a1 : T.L a r * T.L b q * T.L c q = T.L b r * T.L a q * T.L c q := by rw [h1]
    have a2 : T.L b r * T.L c q * T.L a q = T.L c r * T.L b q * T.L a q := by rw [h2]
    grind
theorem lat_total {r q a b : Nat} (h : ¬ Lat T r q a b) : Lat T r q b a := by
  unfold Lat at h ⊢
  by_cases e : T.L a r * T.L b q = T.L b r * T.L a q
  · right
    refine ⟨e.symm, ?_⟩
    by_cases y : T.B b ≤ T.B a
    · exact y
    · exact absurd (.inr ⟨e, by omega⟩) h
  · left
    have : ¬ T.L a r * T.L b q < T.L b r * T.L a q := fun y => h (.inl y)
    omega
theorem Best.next {r q k p : Nat} (b : Best T r q k p) (hk : 0 < T.L k q) (h : Lat T r q k p) : Best T r q (k + 1) k :=
  ⟨by omega, hk, fun i hi hp => if e : i = k then by subst e; exact .inr ⟨rfl, Nat.le_refl _⟩ else lat_trans hk b.pos hp h (b.all i (by omega) hp)⟩
theorem best_ex {r q : Nat} : ∀ k, (∀ i, i < k → ¬ 0 < T.L i q) ∨ ∃ p, Best T r q k p
  | 0 => .inl fun i hi => by omega
  | k + 1 => by
    rcases best_ex (r := r) (q := q) k with no | ⟨p, b⟩
    · by_cases h : 0 < T.L k q
      · exact .inr ⟨k, .first no h⟩
      · exact .inl fun i hi => if e : i = k then e ▸ h else no i (by omega)
    · by_cases h : 0 < T.L k q
      · by_cases y : Lat T r q p k
        · exact .inr ⟨p, b.stay y⟩
        · exact .inr ⟨k, b.next h (lat_total y)⟩
      · exact .inr ⟨p, b.keep h⟩
/-- the turn at a best line -/
theorem Best.turn (b : Best T (m + n) q n p) (hq : q < m) (neg : T.g q < 0) (first : ∀ j, j < q → 0 ≤ T.g j) (be' : T'.be = T.L p q) (B' : ∀ i, i < n → T'.B i = if i = p then q else T.B i)
    (L' : ∀ i j, i < n → j ≤ m + n → T'.L i j = if i = p then T.L p j else (T.L i j * T.L p q - T.L i q * T.L p j) / T.be)
    (g' : ∀ j, j ≤ m + n → T'.g j = (T.g j * T.L p q - T.g q * T.L p j) / T.be) : Turn n m T T' p q :=
  ⟨b.lt, hq, neg, first, b.pos, b.all, be', B', L', g'⟩
/-! ### feasible, or a certificate -/
theorem bound_row (f : Nat → Int) : ∀ w : Nat, ∃ M : Nat, ∀ j, j < w → (f j).natAbs ≤ M
  | 0 => ⟨0, fun j h => by omega⟩
  | w + 1 => by
    obtain ⟨M, h⟩ := bound_row f w
    exact ⟨M + (f w).natAbs, fun j hj => if e : j = w then by subst e; omega else Nat.le_trans (h j (by omega)) (by omega)⟩
theorem bound_all (A : Nat → Nat → Int) (w : Nat) : ∀ n : Nat, ∃ M : Nat, ∀ k j, k < n → j < w → (A k j).natAbs ≤ M
  | 0 => ⟨0, fun k j h => by omega⟩
  | n + 1 => by
    obtain ⟨M, h⟩ := bound_all A w n
    obtain ⟨M2, h2⟩ := bound_row (A n) w
    exact ⟨M + M2, fun k j hk hj => if e : k = n then by subst e; have := h2 j hj; omega else by have := h k j (by omega) hj; omega⟩
theorem first_neg (g : Nat → Int) : ∀ m : Nat, (∀ j, j < m → 0 ≤ g j) ∨ ∃ q, q < m ∧ g q < 0 ∧ ∀ j, j < q → 0 ≤ g j
  | 0 => .inl fun j h => by omega
  | m + 1 => by
    rcases first_neg g m with no | ⟨q, h1, h2, h3⟩
    · by_cases h : g m < 0
      · exact .inr ⟨m, by omega, h, no⟩
      · exact .inl fun j hj => if e : j = m then by subst e; omega else no j (by omega)
    · exact .inr ⟨q, by omega, h2, h3⟩
theorem farkas_run (S : Sys n m A) : ∀ (N : Nat) {T : Tb}, TInv n m A T → (∀ l, Runs n m T l → l ≤ N) → Feas n m A ∨ ∃ y, Cert n m A y
  | N, T, I, h => by
    by_cases nn : 0 ≤ T.g (m + n)
    · exact .inl (I.solved nn)
    · rcases first_neg T.g m with no | ⟨q, hq, neg, first⟩
      · exact .inr ⟨_, I.cert S (by omega) no⟩
      · rcases best_ex (T := T) (r := m + n) (q := q) n with none | ⟨p, b⟩
        · obtain ⟨i, hi, hp⟩ := I.some_line hq neg
          exact absurd hp (none i hi)
        · have t : Turn n m T ⟨fun i j => if i = p then T.L p j else (T.L i j * T.L p q - T.L i q * T.L p j) / T.be, fun j => (T.g j * T.L p q - T.g q * T.L p j) / T.be, fun i => if i = p then q else T.B i, T.L p q⟩ p q :=
            b.turn hq neg first rfl (fun _ _ => rfl) (fun _ _ _ _ => rfl) fun _ _ => rfl
          match N, h with
          | 0, h =>
            have := h 1 (runs_cons t ⟨fun _ => _, fun _ => 0, fun _ => 0, rfl, fun i hi => by omega⟩)
            omega
          | N + 1, h => exact farkas_run S N (t.inv I) fun l r => by have := h (l + 1) (runs_cons t r); omega
theorem farkas (S : Sys n m A) : Feas n m A ∨ ∃ y, Cert n m A y := by
  obtain ⟨M, hM⟩ := bound_all A (m + n + 1) n
  obtain ⟨N, hN⟩ := turns_most S (fun k j hk hj => hM k j hk (by omega)) (tinv0 S)
  exact farkas_run S N (tinv0 S) hN
end
/-! ### news tables: R rows, w r p the weights, S r their sums -/
structure Nws (R m : Nat) (w : Nat → Nat → Int) (S : Nat → Int) : Prop where
  nn : ∀ r p, r < R → p < m → 0 ≤ w r p
  pos : ∀ r, r < R → 0 < S r
  sum : ∀ r, r < R → S r = sm m (w r)
/-- the first is told on by a noise (x, over be), the second comes -/
def Tl (R m k : Nat) (w : Nat → Nat → Int) (S : Nat → Int) (v : Nat → Nat → Int) (U : Nat → Int) : Prop :=
  ∃ (be : Int) (x : Nat → Nat → Int), 0 < be ∧ (∀ p c, p < m → c < k → 0 ≤ x p c) ∧ (∀ p, p < m → sm k (x p) = be) ∧
    ∀ r c, r < R → c < k → U r * sm m (fun p => w r p * x p c) = be * (S r * v r c)
section
variable {R m k l : Nat} {w v z : Nat → Nat → Int} {S U Y : Nat → Int}
theorem Tl.refl (R m : Nat) (w : Nat → Nat → Int) (S : Nat → Int) : Tl R m m w S w S := by
  refine ⟨1, fun p c => if p = c then 1 else 0, Int.zero_lt_one, fun p c _ _ => by dsimp only; split <;> decide, fun p hp => ?_, fun r c hr hc => ?_⟩
  · rw [sm_one hp]
    · exact if_pos rfl
    · intro i _ hne
      exact if_neg (Ne.symm hne)
  · rw [sm_one hc]
    · show S r * (w r c * (if c = c then 1 else 0)) = _
      rw [if_pos rfl, Int.mul_one, Int.one_mul]
    · intro i _ hne
      show w r i * (if i = c then 1 else 0) = 0
      rw [if_neg hne, Int.mul_zero]
theorem Tl.trans (N2 : Nws R k v U) (h1 : Tl R m k w S v U) (h2 : Tl R k l v U z Y) : Tl R m l w S z Y := by
  obtain ⟨b1, x1, p1, n1, s1, e1⟩ := h1
  obtain ⟨b2, x2, p2, n2, s2, e2⟩ := h2
  refine ⟨b1 * b2, fun p c => sm k (fun d => x1 p d * x2 d c), Int.mul_pos p1 p2, fun p c hp hc => sm_nonneg fun d hd => Int.mul_nonneg (n1 p d hp hd) (n2 d c hd hc), fun p hp => ?_, fun r c hr hc => ?_⟩
  · rw [sm_swap, sm_congr (g := fun d => x1 p d * b2) fun d hd => ?_, sm_mulr, s1 p hp]
    rw [sm_mul, s2 d hd]
  · have e3 : sm m (fun p => w r p * sm k (fun d => x1 p d * x2 d c)) = sm k (fun d => sm m (fun p => w r p * x1 p d) * x2 d c) := by
      rw [sm_congr (g := fun p => sm k (fun d => w r p * x1 p d * x2 d c)) fun p _ => ?_, sm_swap]
      · exact sm_congr fun d _ => sm_mulr _ _ _
      · rw [← sm_mul]
        exact sm_congr fun d _ => by grind
    have e4 : U r * sm k (fun d => sm m (fun p => w r p * x1 p d) * x2 d c) = b1 * S r * sm k (fun d => v r d * x2 d c) := by
      rw [← sm_mul, ← sm_mul]
      refine sm_congr fun d hd => ?_
      rw [← Int.mul_assoc, e1 r d hr hd]
      grind
    have e5 := e2 r c hr hc
    have u := N2.pos r hr
    refine Int.eq_of_mul_eq_mul_left (a := U r) (by omega) ?_
    rw [e3, show U r * (Y r * sm k (fun d => sm m (fun p => w r p * x1 p d) * x2 d c)) = Y r * (U r * sm k (fun d => sm m (fun p => w r p * x1 p d) * x2 d c)) by grind, e4,
      show Y r * (b1 * S r * sm k (fun d => v r d * x2 d c)) = b1 * S r * (Y r * sm k (fun d => v r d * x2 d c)) by grind, e5]
    grind
/-- one row: any other comes -/
theorem Tl.one (N1 : Nws 1 m w S) (N2 : Nws 1 k v U) : Tl 1 m k w S v U := by
  refine ⟨U 0, fun _ c => v 0 c, N2.pos 0 (by omega), fun _ c _ hc => N2.nn 0 c (by omega) hc, fun _ _ => (N2.sum 0 (by omega)).symm, fun r c hr hc => ?_⟩
  obtain rfl : r = 0 := by omega
  rw [sm_mulr, ← N1.sum 0 (by omega)]
end
/-! ### two rows: by thresholds -/
structure Pt where
  x : Int
  y : Int
  mu : Int
def cr (P Q : Pt) : Int := P.x * Q.y - P.y * Q.x
def ls (f : Pt → Int) : List Pt → Int
  | [] => 0
  | P :: r => f P + ls f r
theorem ls_perm {f : Pt → Int} {l l' : List Pt} (h : l.Perm l') : ls f l = ls f l' := by
  induction h with
  | nil => rfl
  | cons P _ ih => show f P + _ = f P + _; rw [ih]
  | swap P Q r => show f Q + (f P + ls f r) = f P + (f Q + ls f r); omega
  | trans _ _ h1 h2 => exact h1.trans h2
theorem ls_append {f : Pt → Int} : ∀ {l l' : List Pt}, ls f (l ++ l') = ls f l + ls f l'
  | [], l' => (Int.zero_add _).symm
  | P :: r, l' => by
    show f P + ls f (r ++ l') = f P + ls f r + ls f l'
    rw [ls_append]
    omega
theorem ls_congr {f g : Pt → Int} : ∀ {l : List Pt}, (∀ P ∈ l, f P = g P) → ls f l = ls g l
  | [], _ => rfl
  | P :: r, h => by
    show f P + ls f r = g P + ls g r
    rw [h P (List.mem_cons_self ..), ls_congr fun Q hQ => h Q (List.mem_cons_of_mem _ hQ)]
theorem ls_zero {f : Pt → Int} : ∀ {l : List Pt}, (∀ P ∈ l, f P = 0) → ls f l = 0
  | [], _ => rfl
  | P :: r, h => by
    show f P + ls f r = 0
    rw [h P (List.mem_cons_self ..), ls_zero fun Q hQ => h Q (List.mem_cons_of_mem _ hQ)]
    rfl
theorem ls_add {f g : Pt → Int} : ∀ {l : List Pt}, ls (fun P => f P + g P) l = ls f l + ls g l
  | [] => rfl
  | P :: r => by
    show (f P + g P) + ls (fun P => f P + g P) r = (f P + ls f r) + (g P + ls g r)
    rw [ls_add]
    omega
theorem ls_mul {f : Pt → Int} {a : Int} : ∀ {l : List Pt}, ls (fun P => f P * a) l = ls f l * a
  | [] => (Int.zero_mul a).symm
  | P :: r => by
    show f P * a + ls (fun P => f P * a) r = (f P + ls f r) * a
    rw [ls_mul, Int.add_mul]
theorem ls_filter {f : Pt → Int} {b : Pt → Bool} : ∀ {l : List Pt}, (∀ P ∈ l, b P = false → f P = 0) → ls f (l.filter b) = ls f l
  | [], _ => rfl
  | P :: r, h => by
    have ih := ls_filter (f := f) (b := b) (l := r) fun Q hQ => h Q (List.mem_cons_of_mem _ hQ)
    rw [List.filter_cons]
    cases e : b P with
    | true =>
      rw [if_pos rfl]
      show f P + _ = f P + _
      rw [ih]
    | false =>
      rw [if_neg Bool.false_ne_true, ih]
      show _ = f P + _
      rw [h P (List.mem_cons_self ..) e, Int.zero_add]
theorem insert_ex {al : Type} {le : al → al → Prop} {G : al → Prop} (tot : ∀ a b, G a → G b → le a b ∨ le b a) (tr : ∀ a b c, G a → G b → G c → le a b → le b c → le a c) {a : al} (ha : G a) :
    ∀ {l : List al}, (∀ b ∈ l, G b) → l.Pairwise le → ∃ l' : List al, l'.Perm (a :: l) ∧ l'.Pairwise le
  | [], _, _ => ⟨[a], List.Perm.refl _, List.pairwise_singleton _ _⟩
  | b :: r, hG, hp => by
    have hb := hG b (List.mem_cons_self ..)
    obtain ⟨h1, h2⟩ := List.pairwise_cons.mp hp
    rcases tot a b ha hb with h | h
    · refine ⟨a :: b :: r, List.Perm.refl _, List.pairwise_cons.mpr ⟨fun c hc => ?_, hp⟩⟩
      rcases List.mem_cons.mp hc with e | hc
      · rw [e]; exact h
      · exact tr a b c ha hb (hG c (List.mem_cons_of_mem _ hc)) h (h1 c hc)
    · obtain ⟨l', q1, q2⟩ := insert_ex tot tr ha (l := r) (fun c hc => hG c (List.mem_cons_of_mem _ hc)) h2
      refine ⟨b :: l', (q1.cons b).trans (List.Perm.swap _ _ _), List.pairwise_cons.mpr ⟨fun c hc => ?_, q2⟩⟩
      rcases List.mem_cons.mp (q1.mem_iff.mp hc) with e | hc
      · rw [e]; exact h
      · exact h1 c hc
theorem sort_ex {al : Type} {le : al → al → Prop} {G : al → Prop} (tot : ∀ a b, G a → G b → le a b ∨ le b a) (tr : ∀ a b c, G a → G b → G c → le a b → le b c → le a c) :
    ∀ {l : List al}, (∀ b ∈ l, G b) → ∃ l' : List al, l'.Perm l ∧ l'.Pairwise le
  | [], _ => ⟨[], List.Perm.refl _, List.Pairwise.nil⟩
  | a :: r, hG => by
    obtain ⟨l1, q1, q2⟩ := sort_ex tot tr (l := r) fun c hc => hG c (List.mem_cons_of_mem _ hc)
    obtain ⟨l2, q3, q4⟩ := insert_ex tot tr (hG a (List.mem_cons_self ..)) (l := l1) (fun c hc => hG c (List.mem_cons_of_mem _ (q1.mem_iff.mp hc))) q2
    exact ⟨l2, q3.trans (q1.cons a), q4⟩
/-- in the quadrant, not 0 -/
structure Gd (P : Pt) : Prop where
  x0 : 0 ≤ P.x
  y0 : 0 ≤ P.y
  ne : 0 < P.x ∨ 0 < P.y
theorem cr_anti (P Q : Pt) : cr Q P = - cr P Q := by
  unfold cr
  grind
theorem cr_trans {P Q Z : Pt} (hP : Gd P) (hQ : Gd Q) (hZ : Gd Z) (h1 : 0 ≤ cr P Q) (h2 : 0 ≤ cr Q Z) : 0 ≤ cr P Z := by
  have i1 : Q.x * cr P Z = P.x * cr Q Z + Z.x * cr P Q := by unfold cr; grind
  have i2 : Q.y * cr P Z = P.y * cr Q Z + Z.y * cr P Q := by unfold cr; grind
  have n1 := Int.mul_nonneg hP.x0 h2
  have n2 := Int.mul_nonneg hZ.x0 h1
  have n3 := Int.mul_nonneg hP.y0 h2
  have n4 := Int.mul_nonneg hZ.y0 h1
  by_cases w : 0 ≤ cr P Z
  · exact w
  · rcases hQ.ne with q | q
    · have := Int.mul_neg_of_pos_of_neg q (show cr P Z < 0 by omega)
      omega
    · have := Int.mul_neg_of_pos_of_neg q (show cr P Z < 0 by omega)
      omega
/-- convex and homogeneous, as the sweep takes it -/
structure Cvx (h : Int → Int → Int) : Prop where
  hom : ∀ t x y, 0 ≤ t → h (t * x) (t * y) = t * h x y
  cvx : ∀ P Q Z : Pt, 0 ≤ cr P Q → 0 ≤ cr Q Z → h Q.x Q.y * cr P Z ≤ h P.x P.y * cr Q Z + h Z.x Z.y * cr P Q
abbrev hv (h : Int → Int → Int) (P : Pt) : Int := P.mu * h P.x P.y
/-- behind some points: all in the place of two, A and B -/
def Held (h : Int → Int → Int) (pre : List Pt) : Prop :=
  (pre = []) ∨ ∃ (A B : Pt) (N a b : Int), B ∈ pre ∧ 0 < cr A B ∧ 0 < N ∧ 0 ≤ a ∧ N * ls (fun P => P.mu * P.x) pre = a * A.x + b * B.x ∧ N * ls (fun P => P.mu * P.y) pre = a * A.y + b * B.y ∧
    a * h A.x A.y + b * h B.x B.y ≤ N * ls (hv h) pre
theorem held_step {h : Int → Int → Int} (H : Cvx h) {pre : List Pt} {t : Pt} (ht : Gd t) (hG : ∀ P ∈ pre, Gd P) (hb : ∀ P ∈ pre, 0 ≤ cr P t) (thr : 0 ≤ ls (fun P => P.mu * cr P t) pre) (I : Held h pre) : Held h (pre ++ [t]) := by
  right
  have tl : t ∈ pre ++ [t] := List.mem_append_right _ (List.mem_singleton.mpr rfl)
  rcases I with rfl | ⟨A, B, N, a, b, Bm, cAB, hN, ha, ex, ey, eh⟩
  · refine ⟨⟨t.y, - t.x, 0⟩, t, 1, 0, t.mu, tl, ?_, by decide, by decide, ?_, ?_, ?_⟩
    · show 0 < t.y * t.y - (- t.x) * t.x
      have h1 : 0 ≤ t.y * t.y := Int.mul_nonneg ht.y0 ht.y0
      have h2 : 0 ≤ t.x * t.x := Int.mul_nonneg ht.x0 ht.x0
      rcases ht.ne with q | q
      · have := Int.mul_pos q q
        grind
      · have := Int.mul_pos q q
        grind
    · show 1 * (t.mu * t.x + 0) = 0 * t.y + t.mu * t.x
      grind
    · show 1 * (t.mu * t.y + 0) = 0 * (- t.x) + t.mu * t.y
      grind
    · show 0 * _ + t.mu * h t.x t.y ≤ 1 * (t.mu * h t.x t.y + 0)
      omega
  · have one : ∀ f : Pt → Int, ls f (pre ++ [t]) = ls f pre + f t := fun f => by
      rw [ls_append]
      show _ + (f t + 0) = _
      omega
    have gB := hG B Bm
    have cBt := hb B Bm
    have cross : ls (fun P => P.mu * cr P t) pre = ls (fun P => P.mu * P.x) pre * t.y - ls (fun P => P.mu * P.y) pre * t.x := by
      rw [ls_congr (g := fun P => P.mu * P.x * t.y + P.mu * P.y * (- t.x)) fun P _ => by unfold cr; grind, ls_add, ls_mul, ls_mul]
      grind
    have hx : a * cr A t + b * cr B t = N * ls (fun P => P.mu * cr P t) pre := by
      rw [cross]
      unfold cr
      grind
    by_cases z : cr B t = 0
    · -- t is along B: B stays
      have along : ∀ (u s : Int), 0 < u → 0 ≤ s → u * t.x = s * B.x → u * t.y = s * B.y → ∃ (A B : Pt) (N a b : Int), B ∈ pre ++ [t] ∧ 0 < cr A B ∧ 0 < N ∧ 0 ≤ a ∧ N * ls (fun P => P.mu * P.x) (pre ++ [t]) = a * A.x + b * B.x ∧
          N * ls (fun P => P.mu * P.y) (pre ++ [t]) = a * A.y + b * B.y ∧ a * h A.x A.y + b * h B.x B.y ≤ N * ls (hv h) (pre ++ [t]) := by
        intro u s hu hs e1 e2
        have hh : u * h t.x t.y = s * h B.x B.y := by
          rw [← H.hom u _ _ (by omega), ← H.hom s _ _ hs, e1, e2]
        refine ⟨A, B, N * u, a * u, b * u + N * t.mu * s, List.mem_append_left _ Bm, cAB, Int.mul_pos hN hu, Int.mul_nonneg ha (by omega), ?_, ?_, ?_⟩
        · rw [one]
          show N * u * (ls (fun P => P.mu * P.x) pre + t.mu * t.x) = _
          grind
        · rw [one]
          show N * u * (ls (fun P => P.mu * P.y) pre + t.mu * t.y) = _
          grind
        · rw [one]
          show _ ≤ N * u * (ls (hv h) pre + t.mu * h t.x t.y)
          have := Int.mul_le_mul_of_nonneg_right eh (Int.le_of_lt hu)
          have e3 : N * u * (t.mu * h t.x t.y) = N * t.mu * s * h B.x B.y := by
            rw [show N * u * (t.mu * h t.x t.y) = N * t.mu * (u * h t.x t.y) by grind, hh]
            grind
          rw [Int.mul_add, e3]
          grind
      have z' : B.x * t.y = B.y * t.x := by
        unfold cr at z
        omega
      rcases gB.ne with q | q
      · exact along B.x t.x q ht.x0 (Int.mul_comm _ _) (by rw [z', Int.mul_comm])
      · exact along B.y t.y q ht.y0 (by rw [← z', Int.mul_comm]) (Int.mul_comm _ _)
    · have cBt' : 0 < cr B t := by omega
      refine ⟨B, t, N * cr B t, a * cr A t + b * cr B t, N * cr B t * t.mu - a * cr A B, tl, cBt', Int.mul_pos hN cBt', ?_, ?_, ?_, ?_⟩
      · rw [hx]
        exact Int.mul_nonneg (by omega) thr
      · rw [one]
        show N * cr B t * (ls (fun P => P.mu * P.x) pre + t.mu * t.x) = _
        unfold cr
        grind
      · rw [one]
        show N * cr B t * (ls (fun P => P.mu * P.y) pre + t.mu * t.y) = _
        unfold cr
        grind
      · rw [one]
        show _ ≤ N * cr B t * (ls (hv h) pre + t.mu * h t.x t.y)
        have c := Int.mul_le_mul_of_nonneg_left (H.cvx A B t (Int.le_of_lt cAB) cBt) ha
        have e := Int.mul_le_mul_of_nonneg_right eh (Int.le_of_lt cBt')
        grind
theorem sweep {h : Int → Int → Int} (H : Cvx h) {all : List Pt} (srt : all.Pairwise fun P Q => 0 ≤ cr P Q) (G : ∀ P ∈ all, Gd P) (thr : ∀ t ∈ all, 0 ≤ ls (fun P => P.mu * max (cr P t) 0) all) :
    ∀ {post pre : List Pt}, all = pre ++ post → Held h pre → Held h all
  | [], pre, e, I => by
    rw [List.append_nil] at e
    rw [e]
    exact I
  | t :: post, pre, e, I => by
    have mt : t ∈ all := by rw [e]; exact List.mem_append_right _ (List.mem_cons_self ..)
    have hs := srt
    rw [e, List.pairwise_append] at hs
    obtain ⟨_, h2, h3⟩ := hs
    have pt : ∀ P ∈ pre, 0 ≤ cr P t := fun P hP => h3 P hP t (List.mem_cons_self ..)
    have qt : ∀ P ∈ post, cr P t ≤ 0 := fun P hP => by
      have := (List.pairwise_cons.mp h2).1 P hP
      rw [cr_anti] at this
      omega
    have f : ls (fun P => P.mu * max (cr P t) 0) all = ls (fun P => P.mu * cr P t) pre := by
      rw [e, ls_append, ls_congr (g := fun P => P.mu * cr P t) (l := pre) fun P hP => by rw [Int.max_eq_left (pt P hP)]]
      rw [ls_zero (l := t :: post) fun P hP => ?_, Int.add_zero]
      rcases List.mem_cons.mp hP with q | q
      · rw [q, show cr t t = 0 by unfold cr; grind]
        simp
      · rw [Int.max_eq_right (qt P q), Int.mul_zero]
    refine sweep H srt G thr (post := post) (pre := pre ++ [t]) (by rw [e, List.append_assoc]; rfl) (held_step H (G t mt) (fun P hP => G P (by rw [e]; exact List.mem_append_left _ hP)) pt ?_ I)
    rw [← f]
    exact thr t mt
/-- THE SWEEP: thresholds at all points, then every convex h -/
theorem points {h : Int → Int → Int} (H : Cvx h) {l : List Pt} (G : ∀ P ∈ l, 0 ≤ P.x ∧ 0 ≤ P.y) (sx : ls (fun P => P.mu * P.x) l = 0) (sy : ls (fun P => P.mu * P.y) l = 0)
    (thr : ∀ t ∈ l, 0 ≤ ls (fun P => P.mu * max (t.y * P.x) (t.x * P.y)) l) : 0 ≤ ls (hv h) l := by
  have h00 : h 0 0 = 0 := by
    have := H.hom 0 0 0 (Int.le_refl 0)
    simpa using this
  -- without those at 0
  let b : Pt → Bool := fun P => decide (0 < P.x ∨ 0 < P.y)
  have zero : ∀ P ∈ l, b P = false → P.x = 0 ∧ P.y = 0 := fun P hP e => by
    have := G P hP
    have e' : ¬ (0 < P.x ∨ 0 < P.y) := of_decide_eq_false e
    omega
  obtain ⟨all, perm, srt⟩ := sort_ex (le := fun P Q => 0 ≤ cr P Q) (G := Gd) (fun P Q _ _ => by have := cr_anti P Q; omega) (fun P Q Z => cr_trans) (l := l.filter b) fun P hP => by
    obtain ⟨h1, h2⟩ := List.mem_filter.mp hP
    exact ⟨(G P h1).1, (G P h1).2, of_decide_eq_true h2⟩
  have move : ∀ f : Pt → Int, (∀ P, P.x = 0 → P.y = 0 → f P = 0) → ls f all = ls f l := fun f hf => by
    rw [ls_perm perm, ls_filter fun P hP e => hf P (zero P hP e).1 (zero P hP e).2]
  have mem : ∀ P ∈ all, P ∈ l ∧ Gd P := fun P hP => by
    obtain ⟨h1, h2⟩ := List.mem_filter.mp (perm.mem_iff.mp hP)
    exact ⟨h1, (G P h1).1, (G P h1).2, of_decide_eq_true h2⟩
  have thr' : ∀ t ∈ all, 0 ≤ ls (fun P => P.mu * max (cr P t) 0) all := fun t ht => by
    have q := thr t (mem t ht).1
    have e : ls (fun P => P.mu * max (t.y * P.x) (t.x * P.y)) l = ls (fun P => P.mu * max (cr P t) 0) l + ls (fun P => P.mu * P.y) l * t.x := by
      rw [← ls_mul, ← ls_add]
      refine ls_congr fun P _ => ?_
      have : max (t.y * P.x) (t.x * P.y) = max (cr P t) 0 + P.y * t.x := by
        unfold cr
        rw [show t.y * P.x = P.x * t.y by grind, show t.x * P.y = P.y * t.x by grind]
        omega
      rw [this]
      grind
    rw [e, sy, Int.zero_mul, Int.add_zero] at q
    rw [move _ fun P e1 e2 => by rw [show cr P t = 0 by unfold cr; rw [e1, e2]; grind]; simp]
    exact q
  have fin := sweep H srt (fun P hP => (mem P hP).2) thr' (post := all) (pre := []) rfl (.inl rfl)
  have mx := move (fun P => P.mu * P.x) fun P e1 _ => by rw [e1, Int.mul_zero]
  have my := move (fun P => P.mu * P.y) fun P _ e2 => by rw [e2, Int.mul_zero]
  have mh := move (hv h) fun P e1 e2 => by
    show P.mu * h P.x P.y = 0
    rw [e1, e2, h00, Int.mul_zero]
  rw [← mh]
  rcases fin with e | ⟨A, B, N, a, c, _, cAB, hN, ha, ex, ey, eh⟩
  · rw [e]
    exact Int.le_refl 0
  · rw [mx, sx, Int.mul_zero] at ex
    rw [my, sy, Int.mul_zero] at ey
    have ea : a * cr A B = 0 := by
      unfold cr
      grind
    have eb : c * cr A B = 0 := by
      unfold cr
      grind
    have a0 : a = 0 := by
      rcases Int.mul_eq_zero.mp ea with q | q
      · exact q
      · omega
    have c0 : c = 0 := by
      rcases Int.mul_eq_zero.mp eb with q | q
      · exact q
      · omega
    rw [a0, c0, Int.zero_mul, Int.zero_mul, Int.add_zero] at eh
    by_cases w : 0 ≤ ls (hv h) all
    · exact w
    · have := Int.mul_neg_of_pos_of_neg hN (show ls (hv h) all < 0 by omega)
      omega
/-- the greatest of 0 and K linear forms -/
def hx (al be : Nat → Int) : Nat → Int → Int → Int
  | 0, _, _ => 0
  | K + 1, x, y => max (hx al be K x y) (al K * x + be K * y)
theorem hx_nn {al be : Nat → Int} {x y : Int} : ∀ K, 0 ≤ hx al be K x y
  | 0 => Int.le_refl 0
  | K + 1 => by
    have := hx_nn (al := al) (be := be) (x := x) (y := y) K
    show 0 ≤ max (hx al be K x y) (al K * x + be K * y)
    omega
theorem hx_le {al be : Nat → Int} {x y : Int} : ∀ {K c}, c < K → al c * x + be c * y ≤ hx al be K x y
  | K + 1, c, h => by
    show _ ≤ max (hx al be K x y) (al K * x + be K * y)
    by_cases e : c = K
    · subst e; omega
    · have := hx_le (al := al) (be := be) (x := x) (y := y) (K := K) (c := c) (by omega)
      omega
theorem hx_most {al be : Nat → Int} {x y z : Int} : ∀ {K}, 0 ≤ z → (∀ c, c < K → al c * x + be c * y ≤ z) → hx al be K x y ≤ z
  | 0, h, _ => h
  | K + 1, h, q => by
    have h1 := hx_most (K := K) h fun c hc => q c (by omega)
    have h2 := q K (by omega)
    show max (hx al be K x y) (al K * x + be K * y) ≤ z
    omega
theorem max_mul {t a b : Int} (h : 0 ≤ t) : max (t * a) (t * b) = t * max a b := by
  rcases Int.le_total a b with q | q
  · rw [Int.max_eq_right q, Int.max_eq_right (Int.mul_le_mul_of_nonneg_left q h)]
  · rw [Int.max_eq_left q, Int.max_eq_left (Int.mul_le_mul_of_nonneg_left q h)]
theorem hx_cvx (al be : Nat → Int) : ∀ K, Cvx (hx al be K)
  | 0 => ⟨fun t _ _ _ => (Int.mul_zero t).symm, fun _ _ _ _ _ => by show 0 * _ ≤ 0 * _ + 0 * _; omega⟩
  | K + 1 => by
    have ih := hx_cvx al be K
    refine ⟨fun t x y ht => ?_, fun P Q Z h1 h2 => ?_⟩
    · show max (hx al be K (t * x) (t * y)) (al K * (t * x) + be K * (t * y)) = t * max (hx al be K x y) (al K * x + be K * y)
      rw [ih.hom t x y ht, ← max_mul ht]
      congr 1
      grind
    · show max (hx al be K Q.x Q.y) (al K * Q.x + be K * Q.y) * cr P Z ≤ max (hx al be K P.x P.y) (al K * P.x + be K * P.y) * cr Q Z + max (hx al be K Z.x Z.y) (al K * Z.x + be K * Z.y) * cr P Q
      have c := ih.cvx P Q Z h1 h2
      have lin : (al K * Q.x + be K * Q.y) * cr P Z = (al K * P.x + be K * P.y) * cr Q Z + (al K * Z.x + be K * Z.y) * cr P Q := by
        unfold cr
        grind
      have p1 := Int.mul_le_mul_of_nonneg_right (show hx al be K P.x P.y ≤ max (hx al be K P.x P.y) (al K * P.x + be K * P.y) by omega) h2
      have p2 := Int.mul_le_mul_of_nonneg_right (show al K * P.x + be K * P.y ≤ max (hx al be K P.x P.y) (al K * P.x + be K * P.y) by omega) h2
      have z1 := Int.mul_le_mul_of_nonneg_right (show hx al be K Z.x Z.y ≤ max (hx al be K Z.x Z.y) (al K * Z.x + be K * Z.y) by omega) h1
      have z2 := Int.mul_le_mul_of_nonneg_right (show al K * Z.x + be K * Z.y ≤ max (hx al be K Z.x Z.y) (al K * Z.x + be K * Z.y) by omega) h1
      rcases Int.le_total (hx al be K Q.x Q.y) (al K * Q.x + be K * Q.y) with q | q
      · rw [Int.max_eq_right q]
        omega
      · rw [Int.max_eq_left q]
        omega
end Bn
set_option Elab.async false
set_option linter.all false
/-! BnEq: the equations for a noise; feasible just if the first tells more; two rows by thresholds; the best of a preorder. Plain Lean. -/
namespace Bn
theorem sm_plus (f : Nat → Int) (a : Nat) : ∀ b : Nat, sm (a + b) f = sm a f + sm b (fun i => f (a + i))
  | 0 => (Int.add_zero _).symm
  | b + 1 => by
    show sm (a + b) f + f (a + b) = sm a f + (sm b (fun i => f (a + i)) + f (a + b))
    rw [sm_plus f a b]
    omega
theorem sm_block (f : Nat → Int) (k : Nat) : ∀ m : Nat, sm (k * m) f = sm m (fun p => sm k (fun c => f (k * p + c)))
  | 0 => rfl
  | m + 1 => by
    show sm (k * m + k) f = sm m (fun p => sm k (fun c => f (k * p + c))) + sm k (fun c => f (k * m + c))
    rw [sm_plus, sm_block f k m]
theorem blk_div {k p c : Nat} (h : c < k) : (k * p + c) / k = p := by
  rw [Nat.mul_add_div (by omega), Nat.div_eq_of_lt h, Nat.add_zero]
theorem blk_mod {k p c : Nat} (h : c < k) : (k * p + c) % k = c := by
  rw [Nat.mul_add_mod, Nat.mod_eq_of_lt h]
theorem blk_lt {k m p c : Nat} (hp : p < m) (hc : c < k) : k * p + c < k * m := by
  have : k * p + k ≤ k * m := by
    have := Nat.mul_le_mul_left k (show p + 1 ≤ m from hp)
    rw [Nat.mul_add, Nat.mul_one] at this
    exact this
  omega
/-- the unknowns x (k * p + c): the noise at p, c. Rows: first each row of the noise is together 1, then for each r, c below k - 1 what is told -/
def eqB (m k : Nat) (num : Nat → Nat → Nat → Int) (i j : Nat) : Int :=
  if i < m then (if j / k = i then 1 else 0) else if j % k = (i - m) % (k - 1) then num ((i - m) / (k - 1)) ((i - m) % (k - 1)) (j / k) else 0
def eqR (m k : Nat) (lst : Nat → Nat → Int) (i : Nat) : Int := if i < m then 1 else lst ((i - m) / (k - 1)) ((i - m) % (k - 1))
/-- with the helping numbers and the right side -/
def eqA (R m k : Nat) (num : Nat → Nat → Nat → Int) (lst : Nat → Nat → Int) (i j : Nat) : Int :=
  if j < k * m then eqB m k num i j else if j < k * m + (m + (k - 1) * R) then (if i = j - k * m then 1 else 0) else eqR m k lst i
section
variable {R m k : Nat} {num : Nat → Nat → Nat → Int} {lst : Nat → Nat → Int} {w v : Nat → Nat → Int} {S U : Nat → Int} {C : Nat → Nat → Int}
theorem eqA_rhs (i : Nat) : eqA R m k num lst i (k * m + (m + (k - 1) * R)) = eqR m k lst i := by
  unfold eqA
  rw [if_neg (by omega), if_neg (by omega)]
theorem row_rc {i : Nat} (h1 : ¬ i < m) (h2 : i < m + (k - 1) * R) : (i - m) / (k - 1) < R ∧ (i - m) % (k - 1) < k - 1 ∧ i = m + ((k - 1) * ((i - m) / (k - 1)) + (i - m) % (k - 1)) := by
  have h : i - m < (k - 1) * R := by omega
  have k0 : 0 < k - 1 := by
    rcases Nat.eq_zero_or_pos (k - 1) with e | e
    · rw [e, Nat.zero_mul] at h
      omega
    · exact e
  refine ⟨(Nat.div_lt_iff_lt_mul k0).mpr (by rw [Nat.mul_comm]; exact h), Nat.mod_lt _ k0, ?_⟩
  have := Nat.div_add_mod (i - m) (k - 1)
  omega
theorem eq_sys (hl : ∀ r c, r < R → c < k - 1 → 0 ≤ lst r c) : Sys (m + (k - 1) * R) (k * m) (eqA R m k num lst) := by
  refine ⟨fun i j hi hj => ?_, fun i hi => ?_⟩
  · unfold eqA
    rw [if_neg (by omega), if_pos (by omega), show k * m + j - k * m = j by omega]
  · rw [eqA_rhs]
    unfold eqR
    by_cases h : i < m
    · rw [if_pos h]
      decide
    · rw [if_neg h]
      obtain ⟨h1, h2, _⟩ := row_rc h hi
      exact hl _ _ h1 h2
/-- a row of the equations against an x -/
theorem row_sum1 {i : Nat} (hi : i < m) (x : Nat → Int) : sm (k * m) (fun j => eqA R m k num lst i j * x j) = sm k (fun c => x (k * i + c)) := by
  rw [sm_block, sm_one hi]
  · refine sm_congr fun c hc => ?_
    unfold eqA eqB
    rw [if_pos (blk_lt hi hc), if_pos hi, blk_div hc, if_pos rfl, Int.one_mul]
  · intro p hp hne
    refine sm_zero fun c hc => ?_
    unfold eqA eqB
    rw [if_pos (blk_lt hp hc), if_pos hi, blk_div hc, if_neg hne, Int.zero_mul]
theorem row_sum2 {r c : Nat} (hr : r < R) (hc : c < k - 1) (x : Nat → Int) : sm (k * m) (fun j => eqA R m k num lst (m + ((k - 1) * r + c)) j * x j) = sm m (fun p => num r c p * x (k * p + c)) := by
  rw [sm_block]
  refine sm_congr fun p hp => ?_
  have e : m + ((k - 1) * r + c) - m = (k - 1) * r + c := by omega
  have cell : ∀ d, d < k → eqA R m k num lst (m + ((k - 1) * r + c)) (k * p + d) = if d = c then num r c p else 0 := fun d hd => by
    unfold eqA eqB
    rw [if_pos (blk_lt hp hd), if_neg (by omega), e, blk_mod hd, blk_div hd, blk_mod hc, blk_div hc]
  rw [sm_one (k := c) (by omega)]
  · rw [cell c (by omega), if_pos rfl]
  · intro d hd hne
    rw [cell d hd, if_neg hne, Int.zero_mul]
theorem row_rhs2 {r c : Nat} (hr : r < R) (hc : c < k - 1) : eqR m k lst (m + ((k - 1) * r + c)) = lst r c := by
  unfold eqR
  rw [if_neg (by omega), show m + ((k - 1) * r + c) - m = (k - 1) * r + c by omega, blk_div hc, blk_mod hc]
theorem row_lt {r c : Nat} (hr : r < R) (hc : c < k - 1) : m + ((k - 1) * r + c) < m + (k - 1) * R := by
  have := blk_lt hr hc
  omega
/-- the equations are those of the two tables, each by a scale C -/
structure Scl (R m k : Nat) (w : Nat → Nat → Int) (S : Nat → Int) (v : Nat → Nat → Int) (U : Nat → Int) (num : Nat → Nat → Nat → Int) (lst : Nat → Nat → Int) (C : Nat → Nat → Int) : Prop where
  pos : ∀ r c, r < R → c < k - 1 → 0 < C r c
  num : ∀ r c p, r < R → c < k - 1 → p < m → num r c p * S r = C r c * w r p
  lst : ∀ r c, r < R → c < k - 1 → lst r c * U r = C r c * v r c
theorem Tl.feas (N1 : Nws R m w S) (N2 : Nws R k v U) (Z : Scl R m k w S v U num lst C) (t : Tl R m k w S v U) : Feas (m + (k - 1) * R) (k * m) (eqA R m k num lst) := by
  obtain ⟨be, x, b0, x0, xs, xe⟩ := t
  refine ⟨be, fun j => x (j / k) (j % k), b0, fun j hj => ?_, fun i hi => ?_⟩
  · have k0 : 0 < k := by
      rcases Nat.eq_zero_or_pos k with e | e
      · rw [e, Nat.zero_mul] at hj
        omega
      · exact e
    exact x0 _ _ ((Nat.div_lt_iff_lt_mul k0).mpr (by rw [Nat.mul_comm]; exact hj)) (Nat.mod_lt _ k0)
  · rw [eqA_rhs]
    by_cases h : i < m
    · rw [row_sum1 h]
      unfold eqR
      rw [if_pos h, Int.mul_one, sm_congr (g := x i) fun c hc => by rw [blk_div hc, blk_mod hc]]
      exact xs i h
    · obtain ⟨h1, h2, h3⟩ := row_rc h hi
      generalize hr : (i - m) / (k - 1) = r at h1 h3
      generalize hc : (i - m) % (k - 1) = c at h2 h3
      rw [h3, row_sum2 h1 h2, row_rhs2 h1 h2]
      have a := xe r c h1 (by omega)
      have s := N1.pos r h1
      have u := N2.pos r h1
      have su : 0 < S r * U r := Int.mul_pos s u
      refine Int.eq_of_mul_eq_mul_left (a := S r * U r) (by omega) ?_
      have e1 : S r * U r * sm m (fun p => num r c p * x ((k * p + c) / k) ((k * p + c) % k)) = C r c * (U r * sm m (fun p => w r p * x p c)) := by
        rw [← sm_mul, ← sm_mul, ← sm_mul]
        refine sm_congr fun p hp => ?_
        rw [blk_div (by omega), blk_mod (by omega)]
        have := Z.num r c p h1 h2 hp
        grind
      rw [e1, a]
      have := Z.lst r c h1 h2
      grind
theorem Tl.of_feas (N1 : Nws R m w S) (N2 : Nws R k v U) (k0 : 0 < k) (Z : Scl R m k w S v U num lst C) (F : Feas (m + (k - 1) * R) (k * m) (eqA R m k num lst)) : Tl R m k w S v U := by
  obtain ⟨be, x, b0, x0, h⟩ := F
  have xs : ∀ p, p < m → sm k (fun c => x (k * p + c)) = be := fun p hp => by
    have := h p (by omega)
    rw [eqA_rhs, row_sum1 hp] at this
    unfold eqR at this
    rw [if_pos hp, Int.mul_one] at this
    exact this
  have part : ∀ r c, r < R → c < k - 1 → U r * sm m (fun p => w r p * x (k * p + c)) = be * (S r * v r c) := fun r c hr hc => by
    have a := h _ (row_lt hr hc)
    rw [eqA_rhs, row_sum2 hr hc, row_rhs2 hr hc] at a
    have cp := Z.pos r c hr hc
    refine Int.eq_of_mul_eq_mul_left (a := C r c) (by omega) ?_
    have e1 : C r c * (U r * sm m (fun p => w r p * x (k * p + c))) = S r * U r * sm m (fun p => num r c p * x (k * p + c)) := by
      rw [← sm_mul, ← sm_mul, ← sm_mul]
      refine sm_congr fun p hp => ?_
      have := Z.num r c p hr hc hp
      grind
    rw [e1, a]
    have := Z.lst r c hr hc
    grind
  refine ⟨be, fun p c => x (k * p + c), b0, fun p c hp hc => x0 _ (blk_lt hp hc), xs, fun r c hr hc => ?_⟩
  by_cases e : c < k - 1
  · exact part r c hr e
  · have hk : k = (k - 1) + 1 := by omega
    have ec : c = k - 1 := by omega
    -- all columns together
    have tot : sm k (fun c => U r * sm m (fun p => w r p * x (k * p + c))) = be * (S r * U r) := by
      rw [sm_mul, sm_swap, sm_congr (g := fun p => w r p * be) fun p hp => by rw [sm_mul, xs p hp], sm_mulr, ← N1.sum r hr]
      grind
    have tot2 : sm k (fun c => be * (S r * v r c)) = be * (S r * U r) := by
      rw [sm_mul, sm_mul, ← N2.sum r hr]
    have e1 : sm k (fun c => U r * sm m (fun p => w r p * x (k * p + c))) = sm (k - 1) (fun c => U r * sm m (fun p => w r p * x (k * p + c))) + U r * sm m (fun p => w r p * x (k * p + (k - 1))) := by
      generalize hf : (fun c => U r * sm m (fun p => w r p * x (k * p + c))) = f
      have q : sm (k - 1 + 1) f = sm (k - 1) f + f (k - 1) := rfl
      rw [← hk] at q
      rw [q, ← hf]
    have e2 : sm k (fun c => be * (S r * v r c)) = sm (k - 1) (fun c => be * (S r * v r c)) + be * (S r * v r (k - 1)) := by
      generalize hf : (fun c => be * (S r * v r c)) = f
      have q : sm (k - 1 + 1) f = sm (k - 1) f + f (k - 1) := rfl
      rw [← hk] at q
      rw [q, ← hf]
    rw [sm_congr (n := k - 1) (g := fun c => be * (S r * v r c)) fun d hd => part r d hr hd] at e1
    rw [ec]
    show U r * sm m (fun p => w r p * x (k * p + (k - 1))) = be * (S r * v r (k - 1))
    omega
/-- a certificate has a weight other than 0 behind the first m -/
theorem Cert.some {y : Nat → Int} (k0 : 0 < k) (c : Cert (m + (k - 1) * R) (k * m) (eqA R m k num lst) y) : ∃ r d, r < R ∧ d < k - 1 ∧ y (m + ((k - 1) * r + d)) ≠ 0 := by
  obtain ⟨c1, c2⟩ := c
  apply Classical.byContradiction
  intro no
  have z : ∀ i, ¬ i < m → i < m + (k - 1) * R → y i = 0 := fun i h h' => by
    obtain ⟨h1, h2, h3⟩ := row_rc h h'
    apply Classical.byContradiction
    intro q
    exact no ⟨_, _, h1, h2, by rw [← h3]; exact q⟩
  have y0 : ∀ p, p < m → y p ≤ 0 := fun p hp => by
    have a := c1 (k * p + 0) (blk_lt hp k0)
    rw [sm_one (k := p) (by omega)] at a
    · unfold eqA eqB at a
      rw [if_pos (blk_lt hp k0), if_pos hp, blk_div k0, if_pos rfl, Int.mul_one] at a
      exact a
    · intro i hi hne
      by_cases h : i < m
      · unfold eqA eqB
        rw [if_pos (blk_lt hp k0), if_pos h, blk_div k0, if_neg (Ne.symm hne), Int.mul_zero]
      · rw [z i h hi, Int.zero_mul]
  have := sm_le (n := m + (k - 1) * R) (f := fun i => y i * eqA R m k num lst i (k * m + (m + (k - 1) * R))) (g := fun _ => 0) fun i hi => by
    rw [eqA_rhs]
    by_cases h : i < m
    · unfold eqR
      rw [if_pos h, Int.mul_one]
      exact y0 i h
    · rw [z i h hi, Int.zero_mul]
      exact Int.le_refl 0
  rw [sm_zero (f := fun _ => (0 : Int)) fun _ _ => rfl] at this
  omega
end
/-! ### two rows -/
theorem ls_range (f : Pt → Int) (g : Nat → Pt) : ∀ m : Nat, ls f ((List.range m).map g) = sm m (fun p => f (g p))
  | 0 => rfl
  | m + 1 => by
    rw [List.range_succ, List.map_append, ls_append, ls_range f g m]
    show _ + (f (g m) + 0) = _ + f (g m)
    omega
section
variable {m k : Nat} {w v : Nat → Nat → Int} {S U : Nat → Int}
/-- the threshold a, b is not better for the second table -/
def Thr (m k : Nat) (w : Nat → Nat → Int) (S : Nat → Int) (v : Nat → Nat → Int) (U : Nat → Int) (a b : Int) : Prop :=
  sm k (fun c => max (b * (v 0 c * S 0)) (a * (v 1 c * S 1))) ≤ sm m (fun p => max (b * (w 0 p * U 0)) (a * (w 1 p * U 1)))
def pu (w : Nat → Nat → Int) (U : Nat → Int) (mu : Int) (p : Nat) : Pt := ⟨w 0 p * U 0, w 1 p * U 1, mu⟩
theorem thr_tl (N1 : Nws 2 m w S) (N2 : Nws 2 k v U) (k0 : 0 < k) (h1 : ∀ p, p < m → Thr m k w S v U (w 0 p * U 0) (w 1 p * U 1)) (h2 : ∀ c, c < k → Thr m k w S v U (v 0 c * S 0) (v 1 c * S 1)) : Tl 2 m k w S v U := by
  have Z : Scl 2 m k w S v U (fun r _ p => w r p * U r) (fun r c => v r c * S r) (fun r _ => S r * U r) :=
    ⟨fun r c hr _ => Int.mul_pos (N1.pos r hr) (N2.pos r hr), fun r c p _ _ _ => by grind, fun r c _ _ => by grind⟩
  have Sy : Sys (m + (k - 1) * 2) (k * m) (eqA 2 m k (fun r _ p => w r p * U r) (fun r c => v r c * S r)) := eq_sys fun r c hr hc => Int.mul_nonneg (N2.nn r c hr (by omega)) (Int.le_of_lt (N1.pos r hr))
  rcases farkas Sy with F | ⟨y, c1, c2⟩
  · exact Tl.of_feas N1 N2 k0 Z F
  · exfalso
    -- the forms
    let al : Nat → Int := fun c => y (m + ((k - 1) * 0 + c))
    let be : Nat → Int := fun c => y (m + ((k - 1) * 1 + c))
    let h := hx al be (k - 1)
    let l : List Pt := (List.range m).map (pu w U 1) ++ (List.range k).map (pu v S (-1))
    have sums : ∀ f : Pt → Int, ls f l = sm m (fun p => f (pu w U 1 p)) + sm k (fun c => f (pu v S (-1) c)) := fun f => by
      show ls f (_ ++ _) = _
      rw [ls_append, ls_range, ls_range]
    have G : ∀ P ∈ l, 0 ≤ P.x ∧ 0 ≤ P.y := fun P hP => by
      rcases List.mem_append.mp hP with q | q
      · obtain ⟨p, hp, rfl⟩ := List.mem_map.mp q
        have hp' := List.mem_range.mp hp
        exact ⟨Int.mul_nonneg (N1.nn 0 p (by omega) hp') (Int.le_of_lt (N2.pos 0 (by omega))), Int.mul_nonneg (N1.nn 1 p (by omega) hp') (Int.le_of_lt (N2.pos 1 (by omega)))⟩
      · obtain ⟨p, hp, rfl⟩ := List.mem_map.mp q
        have hp' := List.mem_range.mp hp
        exact ⟨Int.mul_nonneg (N2.nn 0 p (by omega) hp') (Int.le_of_lt (N1.pos 0 (by omega))), Int.mul_nonneg (N2.nn 1 p (by omega) hp') (Int.le_of_lt (N1.pos 1 (by omega)))⟩
    have half : ∀ r, r < 2 → sm m (fun p => 1 * (w r p * U r)) + sm k (fun c => -1 * (v r c * S r)) = 0 := fun r hr => by
      rw [sm_mul, sm_mul, sm_mulr, sm_mulr, ← N1.sum r hr, ← N2.sum r hr]
      grind
    have thr : ∀ t ∈ l, 0 ≤ ls (fun P => P.mu * max (t.y * P.x) (t.x * P.y)) l := fun t ht => by
      have T : Thr m k w S v U t.x t.y := by
        rcases List.mem_append.mp ht with q | q
        · obtain ⟨p, hp, rfl⟩ := List.mem_map.mp q
          exact h1 p (List.mem_range.mp hp)
        · obtain ⟨p, hp, rfl⟩ := List.mem_map.mp q
          exact h2 p (List.mem_range.mp hp)
      rw [sums]
      show 0 ≤ sm m (fun p => 1 * max (t.y * (w 0 p * U 0)) (t.x * (w 1 p * U 1))) + sm k (fun c => -1 * max (t.y * (v 0 c * S 0)) (t.x * (v 1 c * S 1)))
      rw [sm_mul, sm_mul]
      unfold Thr at T
      omega
    have fin := points (hx_cvx al be (k - 1)) G (by rw [sums]; exact half 0 (by omega)) (by rw [sums]; exact half 1 (by omega)) thr
    rw [sums] at fin
    have fin' : 0 ≤ sm m (fun p => 1 * h (w 0 p * U 0) (w 1 p * U 1)) + sm k (fun c => -1 * h (v 0 c * S 0) (v 1 c * S 1)) := fin
    rw [sm_mul, sm_mul] at fin'
    -- the columns of the equations: y p + the form at p is at most 0
    have col : ∀ p c, p < m → c < k → sm (m + (k - 1) * 2) (fun i => y i * eqA 2 m k (fun r _ p => w r p * U r) (fun r c => v r c * S r) i (k * p + c)) = y p + (if c < k - 1 then al c * (w 0 p * U 0) + be c * (w 1 p * U 1) else 0) := fun p c hp hc => by
      rw [sm_plus, sm_one hp]
      · congr 1
        · unfold eqA eqB
          rw [if_pos (blk_lt hp hc), if_pos hp, blk_div hc, if_pos rfl, Int.mul_one]
        · rw [sm_block]
          show (0 + _) + _ = _
          have cell : ∀ r d, r < 2 → d < k - 1 → eqA 2 m k (fun r _ p => w r p * U r) (fun r c => v r c * S r) (m + ((k - 1) * r + d)) (k * p + c) = if c = d then w r p * U r else 0 := fun r d hr hd => by
            unfold eqA eqB
            rw [if_pos (blk_lt hp hc), if_neg (by omega), show m + ((k - 1) * r + d) - m = (k - 1) * r + d by omega, blk_mod hc, blk_div hc, blk_mod hd, blk_div hd]
          have line : ∀ r, r < 2 → sm (k - 1) (fun d => y (m + ((k - 1) * r + d)) * eqA 2 m k (fun r _ p => w r p * U r) (fun r c => v r c * S r) (m + ((k - 1) * r + d)) (k * p + c)) = if c < k - 1 then y (m + ((k - 1) * r + c)) * (w r p * U r) else 0 := fun r hr => by
            by_cases q : c < k - 1
            · rw [if_pos q, sm_one q]
              · rw [cell r c hr q, if_pos rfl]
              · intro d hd hne
                rw [cell r d hr hd, if_neg (Ne.symm hne), Int.mul_zero]
            · rw [if_neg q]
              refine sm_zero fun d hd => ?_
              rw [cell r d hr hd, if_neg (by omega), Int.mul_zero]
          dsimp only
          rw [line 0 (by omega), line 1 (by omega)]
          by_cases q : c < k - 1
          · rw [if_pos q, if_pos q, if_pos q]
            show 0 + y (m + ((k - 1) * 0 + c)) * (w 0 p * U 0) + y (m + ((k - 1) * 1 + c)) * (w 1 p * U 1) = y (m + ((k - 1) * 0 + c)) * (w 0 p * U 0) + y (m + ((k - 1) * 1 + c)) * (w 1 p * U 1)
            rw [Int.zero_add]
          · rw [if_neg q, if_neg q, if_neg q]
            rfl
      · intro i hi hne
        unfold eqA eqB
        rw [if_pos (blk_lt hp hc), if_pos hi, blk_div hc, if_neg (Ne.symm hne), Int.mul_zero]
    have yp : ∀ p, p < m → h (w 0 p * U 0) (w 1 p * U 1) ≤ - y p := fun p hp => by
      refine hx_most ?_ fun c hc => ?_
      · have := c1 (k * p + (k - 1)) (blk_lt hp (by omega))
        rw [col p (k - 1) hp (by omega), if_neg (by omega)] at this
        omega
      · have := c1 (k * p + c) (blk_lt hp (by omega))
        rw [col p c hp (by omega), if_pos hc] at this
        omega
    -- the right side
    have right : sm (m + (k - 1) * 2) (fun i => y i * eqA 2 m k (fun r _ p => w r p * U r) (fun r c => v r c * S r) i (k * m + (m + (k - 1) * 2))) = sm m y + sm (k - 1) (fun c => al c * (v 0 c * S 0) + be c * (v 1 c * S 1)) := by
      rw [sm_congr (g := fun i => y i * eqR m k (fun r c => v r c * S r) i) fun i _ => by rw [eqA_rhs], sm_plus]
      congr 1
      · refine sm_congr fun i hi => ?_
        unfold eqR
        rw [if_pos hi, Int.mul_one]
      · rw [sm_block]
        show (0 + _) + _ = _
        dsimp only
        rw [Int.zero_add, ← sm_add]
        refine sm_congr fun c hc => ?_
        rw [row_rhs2 (R := 2) (by omega) hc, row_rhs2 (R := 2) (by omega) hc]
    rw [right] at c2
    have b1 : sm m (fun p => h (w 0 p * U 0) (w 1 p * U 1)) ≤ sm m (fun p => -1 * y p) := sm_le fun p hp => by have := yp p hp; omega
    rw [sm_mul] at b1
    have b2 : sm (k - 1) (fun c => al c * (v 0 c * S 0) + be c * (v 1 c * S 1)) ≤ sm (k - 1) (fun c => h (v 0 c * S 0) (v 1 c * S 1)) := sm_le fun c hc => hx_le hc
    have b3 : sm k (fun c => h (v 0 c * S 0) (v 1 c * S 1)) = sm (k - 1) (fun c => h (v 0 c * S 0) (v 1 c * S 1)) + h (v 0 (k - 1) * S 0) (v 1 (k - 1) * S 1) := by
      generalize hf : (fun c => h (v 0 c * S 0) (v 1 c * S 1)) = f
      have q : sm (k - 1 + 1) f = sm (k - 1) f + f (k - 1) := rfl
      rw [show k - 1 + 1 = k by omega] at q
      rw [q, ← hf]
    have b4 : 0 ≤ h (v 0 (k - 1) * S 0) (v 1 (k - 1) * S 1) := hx_nn _
    omega
theorem tl_thr (N1 : Nws 2 m w S) (N2 : Nws 2 k v U) (t : Tl 2 m k w S v U) {a b : Int} (ha : 0 ≤ a) (hb : 0 ≤ b) : Thr m k w S v U a b := by
  obtain ⟨be, x, b0, x0, xs, xe⟩ := t
  unfold Thr
  refine Int.le_of_mul_le_mul_left ?_ b0
  rw [← sm_mul, ← sm_mul]
  have e : sm m (fun p => be * max (b * (w 0 p * U 0)) (a * (w 1 p * U 1))) = sm k (fun c => sm m (fun p => x p c * max (b * (w 0 p * U 0)) (a * (w 1 p * U 1)))) := by
    rw [sm_swap]
    refine sm_congr fun p hp => ?_
    rw [← xs p hp, ← sm_mulr]
  rw [e]
  refine sm_le fun c hc => ?_
  rw [← max_mul (Int.le_of_lt b0)]
  have f0 : be * (b * (v 0 c * S 0)) = sm m (fun p => x p c * (b * (w 0 p * U 0))) := by
    have := xe 0 c (by omega) hc
    rw [show be * (b * (v 0 c * S 0)) = b * (be * (S 0 * v 0 c)) by grind, ← this, ← sm_mul, ← sm_mul]
    exact sm_congr fun p _ => by grind
  have f1 : be * (a * (v 1 c * S 1)) = sm m (fun p => x p c * (a * (w 1 p * U 1))) := by
    have := xe 1 c (by omega) hc
    rw [show be * (a * (v 1 c * S 1)) = a * (be * (S 1 * v 1 c)) by grind, ← this, ← sm_mul, ← sm_mul]
    exact sm_congr fun p _ => by grind
  rw [f0, f1]
  have g0 : sm m (fun p => x p c * (b * (w 0 p * U 0))) ≤ sm m (fun p => x p c * max (b * (w 0 p * U 0)) (a * (w 1 p * U 1))) := sm_le fun p hp => Int.mul_le_mul_of_nonneg_left (by omega) (x0 p c hp hc)
  have g1 : sm m (fun p => x p c * (a * (w 1 p * U 1))) ≤ sm m (fun p => x p c * max (b * (w 0 p * U 0)) (a * (w 1 p * U 1))) := sm_le fun p hp => Int.mul_le_mul_of_nonneg_left (by omega) (x0 p c hp hc)
  omega
end
/-! ### the best of a preorder on 0 .. N - 1 -/
def isBest (N : Nat) (T : Nat → Nat → Bool) (i : Nat) : Bool := !(List.range N).any fun j => T j i && !T i j
def bestL (N : Nat) (T : Nat → Nat → Bool) : List Nat := (List.range N).filter (isBest N T)
structure Pre (N : Nat) (T : Nat → Nat → Bool) : Prop where
  refl : ∀ i, i < N → T i i = true
  trans : ∀ i j l, i < N → j < N → l < N → T i j = true → T j l = true → T i l = true
section
variable {N : Nat} {T : Nat → Nat → Bool}
theorem mem_bestL {i : Nat} : i ∈ bestL N T ↔ i < N ∧ isBest N T i = true := by
  unfold bestL
  rw [List.mem_filter, List.mem_range]
theorem not_best {i : Nat} (h : isBest N T i = false) : ∃ j, j < N ∧ T j i = true ∧ T i j = false := by
  unfold isBest at h
  have h' : ((List.range N).any fun j => T j i && !T i j) = true := by
    cases e : ((List.range N).any fun j => T j i && !T i j) with
    | true => rfl
    | false => rw [e] at h; cases h
  obtain ⟨j, hj, q⟩ := List.any_eq_true.mp h'
  obtain ⟨q1, q2⟩ := Bool.and_eq_true_iff.mp q
  exact ⟨j, List.mem_range.mp hj, q1, by cases e : T i j with
    | true => rw [e] at q2; cases q2
    | false => rfl⟩
/-- how many are at least as good -/
def cnt (N : Nat) (T : Nat → Nat → Bool) (i : Nat) : Nat := ((List.range N).filter fun j => T j i).length
theorem filter_lt {al : Type} {p q : al → Bool} : ∀ {l : List al} {a : al}, (∀ x, x ∈ l → p x = true → q x = true) → a ∈ l → p a = false → q a = true → (l.filter p).length < (l.filter q).length
  | b :: r, a, h, ha, hp, hq => by
    have le : (r.filter p).length ≤ (r.filter q).length := by
      have : ∀ {l : List al}, (∀ x, x ∈ l → p x = true → q x = true) → (l.filter p).length ≤ (l.filter q).length := by
        intro l
        induction l with
        | nil => intro _; exact Nat.le_refl _
        | cons c s ih =>
          intro hh
          have := ih fun x hx => hh x (List.mem_cons_of_mem _ hx)
          rw [List.filter_cons, List.filter_cons]
          cases e : p c with
          | true =>
            rw [hh c (List.mem_cons_self ..) e, if_pos rfl, if_pos rfl, List.length_cons, List.length_cons]
            omega
          | false =>
            rw [if_neg Bool.false_ne_true]
            split
            · rw [List.length_cons]
              omega
            · exact this
      exact this fun x hx => h x (List.mem_cons_of_mem _ hx)
    rw [List.filter_cons, List.filter_cons]
    rcases List.mem_cons.mp ha with e | ha
    · subst e
      rw [hp, hq, if_neg Bool.false_ne_true, if_pos rfl, List.length_cons]
      omega
    · have ih := filter_lt (l := r) (a := a) (fun x hx => h x (List.mem_cons_of_mem _ hx)) ha hp hq
      cases e : p b with
      | true =>
        rw [h b (List.mem_cons_self ..) e, if_pos rfl, if_pos rfl, List.length_cons, List.length_cons]
        omega
      | false =>
        rw [if_neg Bool.false_ne_true]
        split
        · rw [List.length_cons]
          omega
        · exact ih
theorem best_above (P : Pre N T) : ∀ (n : Nat) {i : Nat}, i < N → cnt N T i ≤ n → ∃ b, b ∈ bestL N T ∧ T b i = true
  | n, i, hi, hc => by
    cases e : isBest N T i with
    | true => exact ⟨i, mem_bestL.mpr ⟨hi, e⟩, P.refl i hi⟩
    | false =>
      obtain ⟨j, hj, h1, h2⟩ := not_best e
      have lt : cnt N T j < cnt N T i := filter_lt (a := i) (fun x hx q => P.trans x j i (List.mem_range.mp hx) hj hi q h1) (List.mem_range.mpr hi) h2 (P.refl i hi)
      match n, hc with
      | 0, hc => omega
      | n + 1, hc =>
        obtain ⟨b, hb, q⟩ := best_above P n hj (by omega)
        exact ⟨b, hb, P.trans b j i (mem_bestL.mp hb).1 hj hi q h1⟩
theorem best_dom (P : Pre N T) {i : Nat} (hi : i < N) : ∃ b, b ∈ bestL N T ∧ T b i = true := best_above P _ hi (Nat.le_refl _)
theorem best_ne (P : Pre N T) (h : 0 < N) : bestL N T ≠ [] := fun e => by
  obtain ⟨b, hb, _⟩ := best_dom P h
  rw [e] at hb
  cases hb
theorem bestL_congr {T' : Nat → Nat → Bool} (h : ∀ i j, i < N → j < N → T i j = T' i j) : bestL N T = bestL N T' := by
  refine List.filter_congr fun i hi => ?_
  have hi' := List.mem_range.mp hi
  unfold isBest
  congr 1
  rw [Bool.eq_iff_iff, List.any_eq_true, List.any_eq_true]
  constructor
  · rintro ⟨j, hj, q⟩
    exact ⟨j, hj, by rw [← h _ _ hi' (List.mem_range.mp hj), ← h _ _ (List.mem_range.mp hj) hi']; exact q⟩
  · rintro ⟨j, hj, q⟩
    exact ⟨j, hj, by rw [h _ _ hi' (List.mem_range.mp hj), h _ _ (List.mem_range.mp hj) hi']; exact q⟩
/-- the other way round -/
theorem bestL_rev : bestL N (fun i j => T (N - 1 - i) (N - 1 - j)) = ((bestL N T).map fun p => N - 1 - p).reverse := by
  have r : (List.range N).reverse = (List.range N).map fun p => N - 1 - p := by
    refine List.ext_getElem (by simp) fun i h1 h2 => ?_
    rw [List.getElem_reverse, List.getElem_map, List.getElem_range, List.getElem_range, List.length_range]
  have best : ∀ i, i < N → isBest N (fun i j => T (N - 1 - i) (N - 1 - j)) (N - 1 - i) = isBest N T i := fun i hi => by
    unfold isBest
    congr 1
    rw [Bool.eq_iff_iff, List.any_eq_true, List.any_eq_true]
    have e1 : N - 1 - (N - 1 - i) = i := by omega
    constructor
    · rintro ⟨j, hj, q⟩
      have hj' := List.mem_range.mp hj
      refine ⟨N - 1 - j, List.mem_range.mpr (by omega), ?_⟩
      dsimp only at q
      rw [e1] at q
      exact q
    · rintro ⟨j, hj, q⟩
      have hj' := List.mem_range.mp hj
      refine ⟨N - 1 - j, List.mem_range.mpr (by omega), ?_⟩
      dsimp only
      rw [e1, show N - 1 - (N - 1 - j) = j by omega]
      exact q
  have e : (bestL N T).map (fun p => N - 1 - p) = ((List.range N).map fun p => N - 1 - p).filter (isBest N (fun i j => T (N - 1 - i) (N - 1 - j))) := by
    rw [List.filter_map]
    unfold bestL
    congr 1
    refine List.filter_congr fun i hi => ?_
    exact (best i (List.mem_range.mp hi)).symm
  rw [e, ← r, ← List.filter_reverse, List.reverse_reverse]
  rfl
theorem bestL_up : (bestL N T).Pairwise (· < ·) := List.pairwise_lt_range.sublist List.filter_sublist
end
end Bn
set_option Elab.async false
set_option linter.all false
/-! BnFrac: fractions in lowest terms, common numbers below, tables of sheets. Plain Lean. -/
namespace Bn
abbrev Fq := Int × Int
def low (a b : Int) : Fq := (a / (Int.gcd a b : Nat), b / (Int.gcd a b : Nat))
theorem gcd_pos_r {a b : Int} (h : 0 < b) : 0 < ((Int.gcd a b : Nat) : Int) := by
  have := Int.gcd_pos_of_ne_zero_right a (b := b) (by omega)
  omega
theorem low_pos {a b : Int} (h : 0 < b) : 0 < (low a b).2 := by
  have g := gcd_pos_r (a := a) h
  have d := Int.gcd_dvd_right a b
  exact Int.ediv_pos_of_pos_of_dvd h (by omega) d
theorem low_cross {a b : Int} (h : 0 < b) : (low a b).1 * b = a * (low a b).2 := by
  have d1 := Int.ediv_mul_cancel (Int.gcd_dvd_left a b)
  have d2 := Int.ediv_mul_cancel (Int.gcd_dvd_right a b)
  unfold low
  dsimp only
  generalize hx : a / ((Int.gcd a b : Nat) : Int) = x at *
  generalize hy : b / ((Int.gcd a b : Nat) : Int) = y at *
  generalize ((Int.gcd a b : Nat) : Int) = g at *
  rw [← d1, ← d2]
  grind
theorem low_scale {a b s : Int} (h : 0 < b) (hs : 0 < s) : low (a * s) (b * s) = low a b := by
  have e : ((Int.gcd (a * s) (b * s) : Nat) : Int) = (Int.gcd a b : Nat) * s := by
    rw [Int.gcd_mul_right, Int.natCast_mul]
    congr 1
    omega
  unfold low
  rw [e, Int.mul_ediv_mul_of_pos_left _ _ hs, Int.mul_ediv_mul_of_pos_left _ _ hs]
theorem low_eq {a b w s : Int} (hb : 0 < b) (hs : 0 < s) (e : a * s = w * b) : low a b = low w s := by
  rw [← low_scale hb hs, ← low_scale hs hb, e, Int.mul_comm b s]
theorem low_low {a b : Int} (h : 0 < b) : low (low a b).1 (low a b).2 = low a b := low_eq (low_pos h) h (low_cross h)
theorem low_nn {a b : Int} (ha : 0 ≤ a) : 0 ≤ (low a b).1 := Int.ediv_nonneg ha (Int.natCast_nonneg _)
theorem abs_ediv_le (a : Int) (g : Nat) : (a / (g : Int)).natAbs ≤ a.natAbs := by
  have := Int.natAbs_ediv_le_natAbs a (g : Int)
  exact this
theorem low_abs1 {a b : Int} : (low a b).1.natAbs ≤ a.natAbs := abs_ediv_le _ _
theorem low_abs2 {a b : Int} : (low a b).2.natAbs ≤ b.natAbs := abs_ediv_le _ _
/-- the least common multiple, as it is reckoned -/
def lcmI (x y : Int) : Int := x / (Int.gcd x y : Nat) * y
theorem lcmI_one (x : Int) : lcmI x 1 = x := by
  unfold lcmI
  rw [Int.gcd_one, Int.mul_one]
  exact Int.ediv_one x
theorem lcmI_pos {x y : Int} (hx : 0 < x) (hy : 0 < y) : 0 < lcmI x y := by
  have g := gcd_pos_r (a := x) hy
  exact Int.mul_pos (Int.ediv_pos_of_pos_of_dvd hx (by omega) (Int.gcd_dvd_left x y)) hy
theorem lcmI_r (x y : Int) : y ∣ lcmI x y := ⟨_, Int.mul_comm _ _⟩
theorem lcmI_l (x y : Int) : x ∣ lcmI x y := by
  obtain ⟨c, hc⟩ := Int.gcd_dvd_right x y
  have d1 := Int.ediv_mul_cancel (Int.gcd_dvd_left x y)
  refine ⟨c, ?_⟩
  unfold lcmI
  generalize hx : x / ((Int.gcd x y : Nat) : Int) = z at *
  generalize ((Int.gcd x y : Nat) : Int) = g at *
  rw [hc, ← d1]
  grind
theorem lcmI_le {x y : Int} (hx : 0 < x) (hy : 0 < y) : lcmI x y ≤ x * y := by
  unfold lcmI
  refine Int.mul_le_mul_of_nonneg_right ?_ (by omega)
  exact Int.ediv_le_self _ (by omega)
/-- the common number below of some fractions -/
def cb (l : List Fq) : Int := l.foldl (fun c f => lcmI c f.2) 1
theorem cb_snoc (l : List Fq) (f : Fq) : cb (l ++ [f]) = lcmI (cb l) f.2 := by
  unfold cb
  rw [List.foldl_append]
  rfl
theorem cb_take {l : List Fq} {i : Nat} {f : Fq} (h : l[i]? = some f) : cb (l.take (i + 1)) = lcmI (cb (l.take i)) f.2 := by
  rw [List.take_add_one, h]
  exact cb_snoc _ _
theorem cb_facts : ∀ (n : Nat) {l : List Fq}, l.length = n → (∀ f ∈ l, 0 < f.2) → 0 < cb l ∧ ∀ f ∈ l, f.2 ∣ cb l
  | 0, l, h, _ => by
    have e : l = [] := List.length_eq_zero_iff.mp h
    subst e
    exact ⟨by show (0 : Int) < 1; decide, fun f hf => by cases hf⟩
  | n + 1, l, h, hp => by
    have ne : l ≠ [] := fun e => by rw [e] at h; cases h
    have e := List.dropLast_concat_getLast ne
    generalize l.dropLast = r at e
    generalize l.getLast ne = f at e
    subst e
    rw [List.length_append, List.length_singleton] at h
    obtain ⟨h1, h2⟩ := cb_facts n (l := r) (by omega) fun g hg => hp g (List.mem_append_left _ hg)
    have fp := hp f (List.mem_append_right _ (List.mem_singleton.mpr rfl))
    rw [cb_snoc]
    refine ⟨lcmI_pos h1 fp, fun g hg => ?_⟩
    rcases List.mem_append.mp hg with q | q
    · exact Int.dvd_trans (h2 g q) (lcmI_l _ _)
    · rw [List.mem_singleton.mp q]
      exact lcmI_r _ _
theorem cb_pos {l : List Fq} (hp : ∀ f ∈ l, 0 < f.2) : 0 < cb l := (cb_facts _ rfl hp).1
theorem cb_dvd {l : List Fq} (hp : ∀ f ∈ l, 0 < f.2) {f : Fq} (hf : f ∈ l) : f.2 ∣ cb l := (cb_facts _ rfl hp).2 f hf
theorem cb_le {M : Int} (hM : 1 ≤ M) : ∀ (n : Nat) {l : List Fq}, l.length = n → (∀ f ∈ l, 0 < f.2 ∧ f.2 ≤ M) → cb l ≤ M ^ n
  | 0, l, h, _ => by
    have e : l = [] := List.length_eq_zero_iff.mp h
    subst e
    show (1 : Int) ≤ M ^ 0
    rw [Int.pow_zero]
    exact Int.le_refl 1
  | n + 1, l, h, hp => by
    have ne : l ≠ [] := fun e => by rw [e] at h; cases h
    have e := List.dropLast_concat_getLast ne
    generalize l.dropLast = r at e
    generalize l.getLast ne = f at e
    subst e
    rw [List.length_append, List.length_singleton] at h
    have ih := cb_le hM n (l := r) (by omega) fun g hg => hp g (List.mem_append_left _ hg)
    have rp := cb_pos (l := r) fun g hg => (hp g (List.mem_append_left _ hg)).1
    have fp := hp f (List.mem_append_right _ (List.mem_singleton.mpr rfl))
    rw [cb_snoc, Int.pow_succ]
    refine Int.le_trans (lcmI_le rp fp.1) ?_
    exact Int.mul_le_mul ih fp.2 (by omega) (Int.le_of_lt (Int.pow_pos (by omega)))
def nums (l : List Fq) : List Int := l.map fun f => f.1 * (cb l / f.2)
theorem nums_len (l : List Fq) : (nums l).length = l.length := List.length_map _
theorem nums_get {l : List Fq} {i : Nat} {f : Fq} (h : l[i]? = some f) : (nums l)[i]? = some (f.1 * (cb l / f.2)) := by
  unfold nums
  rw [List.getElem?_map, h]
  rfl
/-- a fraction that is w over s, told with the common number below -/
theorem nums_scale {l : List Fq} (hp : ∀ f ∈ l, 0 < f.2) {f : Fq} (hf : f ∈ l) {w s : Int} (e : f.1 * s = w * f.2) : f.1 * (cb l / f.2) * s = cb l * w := by
  obtain ⟨c, hc⟩ := cb_dvd hp hf
  have fp := hp f hf
  rw [hc, Int.mul_ediv_cancel_left _ (by omega)]
  grind
/-- shown: each w over the sum, in some terms -/
structure ShR (r : List Fq) (l : List Int) : Prop where
  len : r.length = l.length
  at_ : ∀ (i : Nat) (f : Fq), r[i]? = some f → ∃ w, l[i]? = some w ∧ 0 < f.2 ∧ f.1 * l.sum = w * f.2
theorem ShR.pos {r : List Fq} {l : List Int} (h : ShR r l) : ∀ f ∈ r, 0 < f.2 := fun f hf => by
  obtain ⟨i, hi⟩ := List.getElem?_of_mem hf
  obtain ⟨w, _, q, _⟩ := h.at_ i f hi
  exact q
theorem sum_scaled {C s : Int} : ∀ {r : List Fq} {l : List Int}, r.length = l.length → (∀ (i : Nat) (f : Fq), r[i]? = some f → ∃ w, l[i]? = some w ∧ f.1 * (C / f.2) * s = C * w) → (r.map fun f => f.1 * (C / f.2)).sum * s = C * l.sum
  | [], [], _, _ => by simp
  | f :: r, w :: l, h, q => by
    have ih := sum_scaled (C := C) (s := s) (r := r) (l := l) (by simpa using h) fun i g hg => by
      obtain ⟨v, h1, h2⟩ := q (i + 1) g (by simpa using hg)
      exact ⟨v, by simpa using h1, h2⟩
    obtain ⟨v, h1, h2⟩ := q 0 f rfl
    have e : w = v := by simpa using h1
    subst e
    rw [List.map_cons, List.sum_cons, List.sum_cons]
    grind
/-- together 1 -/
theorem ShR.one {r : List Fq} {l : List Int} (h : ShR r l) (hs : 0 < l.sum) : low (nums r).sum (cb r) = (1, 1) := by
  have hp := h.pos
  have cp := cb_pos hp
  have e : (nums r).sum * l.sum = cb r * l.sum := by
    unfold nums
    refine sum_scaled h.len fun i f hf => ?_
    obtain ⟨w, h1, h2, h3⟩ := h.at_ i f hf
    exact ⟨w, h1, nums_scale hp (List.mem_of_getElem? hf) h3⟩
  have e2 : (nums r).sum = cb r := Int.eq_of_mul_eq_mul_right (by omega) e
  rw [e2]
  unfold low
  have g : ((Int.gcd (cb r) (cb r) : Nat) : Int) = cb r := by
    rw [Int.gcd_self]
    omega
  rw [g, Int.ediv_self (by omega)]
/-- a sheet: rows of weights, all as long, at most three, none all 0 -/
structure Sht (R : Nat) (M : Int) (s : List (List Int)) : Prop where
  len : s.length = R
  wid : ∃ c, 1 ≤ c ∧ c ≤ 3 ∧ ∀ l ∈ s, l.length = c
  nn : ∀ l ∈ s, ∀ x ∈ l, 0 ≤ x
  pos : ∀ l ∈ s, 0 < l.sum
  le : ∀ l ∈ s, l.sum ≤ M
theorem Sht.mono {R : Nat} {M M' : Int} {s : List (List Int)} (h : Sht R M s) (q : M ≤ M') : Sht R M' s := ⟨h.len, h.wid, h.nn, h.pos, fun l hl => Int.le_trans (h.le l hl) q⟩
theorem le_sum : ∀ {l : List Int}, (∀ x ∈ l, 0 ≤ x) → ∀ x ∈ l, x ≤ l.sum
  | y :: l, h, x, hx => by
    have nn : 0 ≤ l.sum := by
      clear hx
      have h' : ∀ z ∈ l, 0 ≤ z := fun z hz => h z (List.mem_cons_of_mem _ hz)
      clear h
      induction l with
      | nil => exact Int.le_refl 0
      | cons z l ih =>
        rw [List.sum_cons]
        have := ih fun u hu => h' u (List.mem_cons_of_mem _ hu)
        have := h' z (List.mem_cons_self ..)
        omega
    rw [List.sum_cons]
    rcases List.mem_cons.mp hx with e | hx
    · omega
    · have := le_sum (l := l) (fun z hz => h z (List.mem_cons_of_mem _ hz)) x hx
      have := h y (List.mem_cons_self ..)
      omega
def lowR (l : List Int) : List Fq := l.map fun w => low w l.sum
def lowT (s : List (List Int)) : List (List Fq) := s.map lowR
theorem lowR_shown {l : List Int} (hs : 0 < l.sum) : ShR (lowR l) l := by
  refine ⟨List.length_map _, fun i f hf => ?_⟩
  unfold lowR at hf
  rw [List.getElem?_map] at hf
  cases q : l[i]? with
  | none => rw [q] at hf; cases hf
  | some w =>
    rw [q] at hf
    cases hf
    exact ⟨w, rfl, low_pos hs, low_cross hs⟩
theorem ShR.low {r : List Fq} {l : List Int} (h : ShR r l) (hs : 0 < l.sum) : (r.map fun f => Bn.low f.1 f.2) = lowR l := by
  refine List.ext_getElem? fun i => ?_
  unfold lowR
  rw [List.getElem?_map, List.getElem?_map]
  cases q : r[i]? with
  | none =>
    have : l[i]? = none := by
      rw [List.getElem?_eq_none_iff] at q ⊢
      have := h.len
      omega
    rw [this]
    rfl
  | some f =>
    obtain ⟨w, h1, h2, h3⟩ := h.at_ i f q
    rw [h1]
    exact congrArg some (low_eq h2 hs h3)
end Bn
set_option Elab.async false
set_option linter.all false
set_option exponentiation.threshold 10000
/-! BnSht: sheets as weights by places; the equations of two sheets. Plain Lean. -/
namespace Bn
def wid (s : List (List Int)) : Nat := (s.getD 0 []).length
def ent (s : List (List Int)) (r p : Nat) : Int := (s.getD r []).getD p 0
def tot (s : List (List Int)) (r : Nat) : Int := (s.getD r []).sum
theorem list_sm : ∀ (l : List Int), l.sum = sm l.length (fun p => l.getD p 0) := fun l => by
  have : ∀ (n : Nat) (l : List Int), l.length = n → l.sum = sm n (fun p => l.getD p 0) := by
    intro n
    induction n with
    | zero =>
      intro l h
      rw [List.length_eq_zero_iff.mp h]
      rfl
    | succ n ih =>
      intro l h
      have ne : l ≠ [] := fun e => by rw [e] at h; cases h
      have e := List.dropLast_concat_getLast ne
      have hl : l.dropLast.length = n := by rw [List.length_dropLast, h]; rfl
      have i1 := ih l.dropLast hl
      have sa : ∀ (a b : List Int), (a ++ b).sum = a.sum + b.sum := by
        intro a b
        induction a with
        | nil => simp
        | cons x a ih => rw [List.cons_append, List.sum_cons, List.sum_cons, ih]; omega
      show l.sum = sm n (fun p => l.getD p 0) + l.getD n 0
      have s1 : l.sum = l.dropLast.sum + l.getLast ne := by
        conv => lhs; rw [← e]
        rw [sa]
        show _ + (_ + 0) = _
        omega
      rw [s1, i1]
      congr 1
      · refine sm_congr fun p hp => ?_
        rw [List.getD_eq_getElem?_getD, List.getD_eq_getElem?_getD]
        conv => rhs; rw [← e]
        rw [List.getElem?_append_left (by omega)]
      · rw [List.getD_eq_getElem?_getD]
        conv => rhs; rw [← e]
        rw [List.getElem?_append_right (by omega), hl, Nat.sub_self]
        rfl
  exact this l.length l rfl
section
variable {R : Nat} {M : Int} {s t : List (List Int)}
theorem Sht.row (h : Sht R M s) {r : Nat} (hr : r < R) : ∃ l, s[r]? = some l ∧ s.getD r [] = l ∧ l ∈ s := by
  have q : r < s.length := by rw [h.len]; exact hr
  refine ⟨s[r], List.getElem?_eq_getElem q, ?_, List.getElem_mem q⟩
  rw [List.getD_eq_getElem?_getD, List.getElem?_eq_getElem q]
  rfl
theorem Sht.wids (h : Sht R M s) (r0 : 0 < R) : 1 ≤ Bn.wid s ∧ Bn.wid s ≤ 3 ∧ ∀ l ∈ s, l.length = Bn.wid s := by
  obtain ⟨c, c1, c3, cw⟩ := h.wid
  obtain ⟨l, _, e, hl⟩ := h.row r0
  have : Bn.wid s = c := by
    unfold Bn.wid
    rw [e, cw l hl]
  exact ⟨by omega, by omega, fun m hm => by rw [cw m hm, this]⟩
theorem ent_nn (h : Sht R M s) {r p : Nat} (hr : r < R) : 0 ≤ ent s r p := by
  obtain ⟨l, _, e, hl⟩ := h.row hr
  unfold ent
  rw [e, List.getD_eq_getElem?_getD]
  cases q : l[p]? with
  | none => exact Int.le_refl 0
  | some x => exact h.nn l hl x (List.mem_of_getElem? q)
theorem Sht.nws (h : Sht R M s) (r0 : 0 < R) : Nws R (Bn.wid s) (ent s) (tot s) := by
  refine ⟨fun r p hr _ => ent_nn h hr, fun r hr => ?_, fun r hr => ?_⟩
  · obtain ⟨l, _, e, hl⟩ := h.row hr
    unfold tot
    rw [e]
    exact h.pos l hl
  · obtain ⟨l, _, e, hl⟩ := h.row hr
    unfold tot
    rw [list_sm, e, (h.wids r0).2.2 l hl]
    refine sm_congr fun p _ => ?_
    unfold ent
    rw [e]
/-- the fractions from which an equation is made: row r of the one, place c of the other -/
def eqF (s t : List (List Int)) (r c : Nat) : List Fq := lowR (s.getD r []) ++ [low (ent t r c) (tot t r)]
def eqN (s t : List (List Int)) (r c p : Nat) : Int := (nums (eqF s t r c)).getD p 0
def eqL (s t : List (List Int)) (r c : Nat) : Int := (nums (eqF s t r c)).getD (wid s) 0
def eqC (s t : List (List Int)) (r c : Nat) : Int := cb (eqF s t r c)
theorem eqF_len (h : Sht R M s) (r0 : 0 < R) {r c : Nat} (hr : r < R) : (eqF s t r c).length = wid s + 1 := by
  obtain ⟨l, _, e, hl⟩ := h.row hr
  unfold eqF lowR
  rw [List.length_append, List.length_map, e, (h.wids r0).2.2 l hl]
  rfl
theorem eqF_at (h : Sht R M s) (r0 : 0 < R) {r c p : Nat} (hr : r < R) (hp : p < wid s) : (eqF s t r c)[p]? = some (low (ent s r p) (tot s r)) := by
  obtain ⟨l, _, e, hl⟩ := h.row hr
  have ll := (h.wids r0).2.2 l hl
  unfold eqF lowR ent tot
  rw [e, List.getElem?_append_left (by rw [List.length_map]; omega), List.getElem?_map, List.getD_eq_getElem?_getD, List.getElem?_eq_getElem (by omega)]
  rfl
theorem eqF_last (h : Sht R M s) (r0 : 0 < R) {r c : Nat} (hr : r < R) : (eqF s t r c)[wid s]? = some (low (ent t r c) (tot t r)) := by
  obtain ⟨l, _, e, hl⟩ := h.row hr
  have ll := (h.wids r0).2.2 l hl
  unfold eqF lowR
  rw [e, List.getElem?_append_right (by rw [List.length_map]; omega), List.length_map, ll, Nat.sub_self]
  rfl
theorem eqF_mem (h : Sht R M s) (h2 : Sht R M t) (r0 : 0 < R) {r c : Nat} (hr : r < R) {f : Fq} (hf : f ∈ eqF s t r c) : ∃ a b, f = low a b ∧ 0 ≤ a ∧ a ≤ b ∧ 0 < b ∧ b ≤ M := by
  obtain ⟨l, _, e, hl⟩ := h.row hr
  obtain ⟨l2, _, e2, hl2⟩ := h2.row hr
  unfold eqF at hf
  rcases List.mem_append.mp hf with q | q
  · rw [e] at q
    obtain ⟨x, hx, rfl⟩ := List.mem_map.mp q
    exact ⟨x, l.sum, rfl, h.nn l hl x hx, le_sum (h.nn l hl) x hx, h.pos l hl, h.le l hl⟩
  · refine ⟨ent t r c, tot t r, List.mem_singleton.mp q, ent_nn h2 hr, ?_, ?_, ?_⟩
    · unfold ent tot
      rw [e2, List.getD_eq_getElem?_getD]
      cases q2 : l2[c]? with
      | none => exact Int.le_of_lt (h2.pos l2 hl2)
      | some x => exact le_sum (h2.nn l2 hl2) x (List.mem_of_getElem? q2)
    · unfold tot
      rw [e2]
      exact h2.pos l2 hl2
    · unfold tot
      rw [e2]
      exact h2.le l2 hl2
theorem eqF_pos (h : Sht R M s) (h2 : Sht R M t) (r0 : 0 < R) {r c : Nat} (hr : r < R) : ∀ f ∈ eqF s t r c, 0 < f.2 := fun f hf => by
  obtain ⟨a, b, rfl, _, _, hb, _⟩ := eqF_mem h h2 r0 hr hf
  exact low_pos hb
theorem nums_get' {l : List Fq} {i : Nat} {f : Fq} (h : l[i]? = some f) : (nums l).getD i 0 = f.1 * (cb l / f.2) := by
  rw [List.getD_eq_getElem?_getD, nums_get h]
  rfl
theorem eq_scl (h : Sht R M s) (h2 : Sht R M t) (r0 : 0 < R) : Scl R (wid s) (wid t) (ent s) (tot s) (ent t) (tot t) (eqN s t) (eqL s t) (eqC s t) := by
  have N1 := h.nws r0
  have N2 := h2.nws r0
  refine ⟨fun r c hr _ => cb_pos (eqF_pos h h2 r0 hr), fun r c p hr _ hp => ?_, fun r c hr _ => ?_⟩
  · have e := eqF_at (t := t) (c := c) h r0 hr hp
    unfold eqN eqC
    rw [nums_get' e]
    exact nums_scale (eqF_pos h h2 r0 hr) (List.mem_of_getElem? e) (low_cross (N1.pos r hr))
  · have e := eqF_last (t := t) (c := c) h r0 hr
    unfold eqL eqC
    rw [nums_get' e]
    exact nums_scale (eqF_pos h h2 r0 hr) (List.mem_of_getElem? e) (low_cross (N2.pos r hr))
theorem eq_cb_le (h : Sht R M s) (h2 : Sht R M t) (r0 : 0 < R) (hM : 1 ≤ M) {r c : Nat} (hr : r < R) : eqC s t r c ≤ M ^ 4 := by
  have q := cb_le hM (l := eqF s t r c) _ rfl fun f hf => by
    obtain ⟨a, b, rfl, ha, hab, hb, hbM⟩ := eqF_mem h h2 r0 hr hf
    have h1 := low_pos (a := a) hb
    have h3 := low_abs2 (a := a) (b := b)
    exact ⟨h1, by omega⟩
  refine Int.le_trans q ?_
  have le : (eqF s t r c).length ≤ 4 := by
    rw [eqF_len h r0 hr]
    have := (h.wids r0).2.1
    omega
  obtain ⟨d, hd⟩ : ∃ d, 4 = (eqF s t r c).length + d := ⟨4 - (eqF s t r c).length, by omega⟩
  rw [hd, Int.pow_add]
  have p1 : 0 ≤ M ^ (eqF s t r c).length := Int.le_of_lt (Int.pow_pos (by omega))
  have p2 : 1 ≤ M ^ d := Int.pow_pos (by omega)
  have := Int.mul_le_mul_of_nonneg_left p2 p1
  rw [Int.mul_one] at this
  exact this
theorem num_le {l : List Fq} (hp : ∀ f ∈ l, 0 < f.2) {f : Fq} (hf : f ∈ l) (h0 : 0 ≤ f.1) (h1 : f.1 ≤ f.2) : 0 ≤ f.1 * (cb l / f.2) ∧ f.1 * (cb l / f.2) ≤ cb l := by
  have fp := hp f hf
  have cp := cb_pos hp
  obtain ⟨d, hd⟩ := cb_dvd hp hf
  rw [hd, Int.mul_ediv_cancel_left _ (by omega)]
  have dp : 0 ≤ d := by
    by_cases w : 0 ≤ d
    · exact w
    · have := Int.mul_neg_of_pos_of_neg fp (show d < 0 by omega)
      omega
  exact ⟨Int.mul_nonneg h0 dp, Int.mul_le_mul_of_nonneg_right h1 dp⟩
theorem low_le {a b : Int} (h0 : 0 ≤ a) (h1 : a ≤ b) (hb : 0 < b) : 0 ≤ (low a b).1 ∧ (low a b).1 ≤ (low a b).2 := by
  refine ⟨low_nn h0, ?_⟩
  have c := low_cross (a := a) hb
  have p := low_pos (a := a) hb
  by_cases w : (low a b).1 ≤ (low a b).2
  · exact w
  · have q1 : (low a b).2 * b < (low a b).1 * b := Int.mul_lt_mul_of_pos_right (by omega) hb
    have q2 : a * (low a b).2 ≤ b * (low a b).2 := Int.mul_le_mul_of_nonneg_right h1 (by omega)
    rw [Int.mul_comm b] at q2
    omega
theorem eq_num_le (h : Sht R M s) (h2 : Sht R M t) (r0 : 0 < R) {r c : Nat} (hr : r < R) : ∀ x ∈ nums (eqF s t r c), 0 ≤ x ∧ x ≤ eqC s t r c := fun x hx => by
  obtain ⟨f, hf, rfl⟩ := List.mem_map.mp hx
  obtain ⟨a, b, rfl, ha, hab, hb, _⟩ := eqF_mem h h2 r0 hr hf
  obtain ⟨l0, l1⟩ := low_le ha hab hb
  exact num_le (eqF_pos h h2 r0 hr) hf l0 l1
theorem getD_mem_or {l : List Int} {i : Nat} : l.getD i 0 = 0 ∨ l.getD i 0 ∈ l := by
  rw [List.getD_eq_getElem?_getD]
  cases q : l[i]? with
  | none => exact .inl rfl
  | some x => exact .inr (List.mem_of_getElem? q)
theorem eqN_le (h : Sht R M s) (h2 : Sht R M t) (r0 : 0 < R) (hM : 1 ≤ M) {r c p : Nat} (hr : r < R) : 0 ≤ eqN s t r c p ∧ eqN s t r c p ≤ M ^ 4 := by
  have b := eq_cb_le (c := c) h h2 r0 hM hr
  have q : 0 < M ^ 4 := Int.pow_pos (by omega)
  unfold eqN
  rcases getD_mem_or (l := nums (eqF s t r c)) (i := p) with e | e
  · rw [e]
    omega
  · have := eq_num_le h h2 r0 hr _ e
    omega
theorem eqL_le (h : Sht R M s) (h2 : Sht R M t) (r0 : 0 < R) (hM : 1 ≤ M) {r c : Nat} (hr : r < R) : 0 ≤ eqL s t r c ∧ eqL s t r c ≤ M ^ 4 := eqN_le h h2 r0 hM hr
/-- whether the first tells more, of two sheets -/
def Tells (s t : List (List Int)) : Prop := Tl s.length (wid s) (wid t) (ent s) (tot s) (ent t) (tot t)
theorem lowT_at (h : Sht R M s) {r : Nat} (hr : r < R) : (lowT s)[r]? = some (lowR (s.getD r [])) := by
  obtain ⟨l, q, e, _⟩ := h.row hr
  unfold lowT
  rw [List.getElem?_map, q, e]
  rfl
theorem lowR_at (h : Sht R M s) (r0 : 0 < R) {r c : Nat} (hr : r < R) (hc : c < Bn.wid s) : (lowR (s.getD r []))[c]? = some (low (ent s r c) (tot s r)) := by
  obtain ⟨l, _, e, hl⟩ := h.row hr
  have ll := (h.wids r0).2.2 l hl
  unfold lowR ent tot
  rw [e, List.getElem?_map, List.getD_eq_getElem?_getD, List.getElem?_eq_getElem (by omega)]
  rfl
theorem lowR_len (h : Sht R M s) (r0 : 0 < R) {r : Nat} (hr : r < R) : (lowR (s.getD r [])).length = Bn.wid s := by
  obtain ⟨l, _, e, hl⟩ := h.row hr
  unfold lowR
  rw [List.length_map, e, (h.wids r0).2.2 l hl]
theorem Sht.one_le (h : Sht R M s) (r0 : 0 < R) : 1 ≤ M := by
  obtain ⟨l, _, _, hl⟩ := h.row r0
  have := h.pos l hl
  have := h.le l hl
  omega
end
/-- bounds that fit: few rows and wide numbers, or more rows and small ones -/
def Fit (R : Nat) (M : Int) : Prop := (R ≤ 2 ∧ M ≤ 2 ^ 100) ∨ (R ≤ 4 ∧ M ≤ 2 ^ 40)
def fitM (R : Nat) : Nat := if R ≤ 2 then 2 ^ 400 else 2 ^ 160
theorem fit_top {R n : Nat} (h : R ≤ 4) (hn : n ≤ 3 + 2 * R) : (n + 1) * top n (fitM R) < 2 ^ 4000 := by
  have a1 : ∀ n, n < 8 → (n + 1) * top n (2 ^ 400) < 2 ^ 4000 := by decide +kernel
  have a2 : ∀ n, n < 12 → (n + 1) * top n (2 ^ 160) < 2 ^ 4000 := by decide +kernel
  unfold fitM
  by_cases q : R ≤ 2
  · rw [if_pos q]
    exact a1 n (by omega)
  · rw [if_neg q]
    exact a2 n (by omega)
theorem pow4_le {M : Int} {e : Nat} (h0 : 0 ≤ M) (h : M ≤ 2 ^ e) : M ^ 4 ≤ ((2 ^ (e * 4) : Nat) : Int) := by
  rw [Int.natCast_pow]
  show M ^ 4 ≤ (2 : Int) ^ (e * 4)
  rw [Int.pow_mul]
  have m1 : ∀ (a b c d : Int), 0 ≤ a → a ≤ b → 0 ≤ c → c ≤ d → a * c ≤ b * d := fun a b c d ha hab hc hcd => Int.mul_le_mul hab hcd hc (by omega)
  have p2 : M ^ 2 ≤ (2 ^ e) ^ 2 := by
    rw [Int.pow_succ, Int.pow_succ, Int.pow_succ, Int.pow_succ, Int.pow_zero, Int.pow_zero, Int.one_mul, Int.one_mul]
    exact m1 _ _ _ _ h0 h h0 h
  have n2 : 0 ≤ M ^ 2 := by
    rw [Int.pow_succ, Int.pow_succ, Int.pow_zero, Int.one_mul]
    exact Int.mul_nonneg h0 h0
  have e1 : ∀ z : Int, z ^ 4 = z ^ 2 * z ^ 2 := fun z => by rw [← Int.pow_add]
  rw [e1, e1]
  exact m1 _ _ _ _ n2 p2 n2 p2
theorem Fit.r4 {R : Nat} {M : Int} (F : Fit R M) : R ≤ 4 := by
  rcases F with ⟨h, _⟩ | ⟨h, _⟩ <;> omega
theorem Fit.le {R : Nat} {M : Int} (F : Fit R M) (h1 : 1 ≤ M) : M ^ 4 ≤ (fitM R : Int) := by
  unfold fitM
  rcases F with ⟨hR, h⟩ | ⟨hR, h⟩
  · rw [if_pos hR]
    exact pow4_le (e := 100) (by omega) h
  · by_cases q : R ≤ 2
    · rw [if_pos q]
      refine Int.le_trans (pow4_le (e := 40) (by omega) h) ?_
      decide +kernel
    · rw [if_neg q]
      exact pow4_le (e := 40) (by omega) h
theorem Fit.small {R : Nat} {M : Int} (F : Fit R M) : M ≤ 2 ^ 100 := by
  rcases F with ⟨_, h⟩ | ⟨_, h⟩
  · exact h
  · refine Int.le_trans h ?_
    decide +kernel
theorem fitM_pos (R : Nat) : 1 ≤ fitM R := by
  unfold fitM
  split
  · exact Nat.one_le_two_pow
  · exact Nat.one_le_two_pow
end Bn
set_option Elab.async false
set_option linter.all false
set_option maxRecDepth 100000
set_option maxHeartbeats 4000000
/-! BwBase: data in the heap, how heaps grow, comprehensions over data. -/
namespace Bw
open PySem L2
/-! ### data that stands in tracked objects -/
mutual
def Da (H : Hp) : PyData → V → Prop
  | .none, v => v = .non
  | .bool b, v => v = .bl b
  | .int i, v => v = .int i
  | .str x, v => v = .str x
  | .list ds, v => ∃ a xs, v = .ref a ∧ H a = some (.lst xs) ∧ DaAll H ds xs
  | .tuple ds, v => ∃ a xs, v = .ref a ∧ H a = some (.tup xs) ∧ DaAll H ds xs
  | .dict _, _ => False
def DaAll (H : Hp) : List PyData → List V → Prop
  | [], xs => xs = []
  | d :: ds, xs => ∃ x r, xs = x :: r ∧ Da H d x ∧ DaAll H ds r
end
mutual
theorem Da.mono {H H' : Hp} (s : Same H H') : ∀ (d : PyData) (v : V), Da H d v → Da H' d v
  | .none, _, h => h
  | .bool _, _, h => h
  | .int _, _, h => h
  | .str _, _, h => h
  | .list ds, v, h => by
    unfold Da at h ⊢
    obtain ⟨a, xs, e, ha, hd⟩ := h
    exact ⟨a, xs, e, s _ _ ha, DaAll.mono s ds xs hd⟩
  | .tuple ds, v, h => by
    unfold Da at h ⊢
    obtain ⟨a, xs, e, ha, hd⟩ := h
    exact ⟨a, xs, e, s _ _ ha, DaAll.mono s ds xs hd⟩
  | .dict _, _, h => by
    unfold Da at h
    exact h.elim
theorem DaAll.mono {H H' : Hp} (s : Same H H') : ∀ (ds : List PyData) (xs : List V), DaAll H ds xs → DaAll H' ds xs
  | [], _, h => h
  | d :: ds, xs, h => by
    unfold DaAll at h ⊢
    obtain ⟨x, r, e, h1, h2⟩ := h
    exact ⟨x, r, e, Da.mono s d x h1, DaAll.mono s ds r h2⟩
end
section
variable {H : Hp}
theorem da_non {v : V} : Da H .none v ↔ v = .non := by unfold Da; exact Iff.rfl
theorem da_bl {b : Bool} {v : V} : Da H (.bool b) v ↔ v = .bl b := by unfold Da; exact Iff.rfl
theorem da_int {i : Int} {v : V} : Da H (.int i) v ↔ v = .int i := by unfold Da; exact Iff.rfl
theorem da_lst {ds : List PyData} {v : V} : Da H (.list ds) v ↔ ∃ a xs, v = .ref a ∧ H a = some (.lst xs) ∧ DaAll H ds xs := by
  constructor
  · intro h
    unfold Da at h
    exact h
  · intro h
    unfold Da
    exact h
theorem da_tup {ds : List PyData} {v : V} : Da H (.tuple ds) v ↔ ∃ a xs, v = .ref a ∧ H a = some (.tup xs) ∧ DaAll H ds xs := by
  constructor
  · intro h
    unfold Da at h
    exact h
  · intro h
    unfold Da
    exact h
theorem daAll_nil {xs : List V} : DaAll H [] xs ↔ xs = [] := by unfold DaAll; exact Iff.rfl
theorem daAll_cons {d : PyData} {ds : List PyData} {xs : List V} : DaAll H (d :: ds) xs ↔ ∃ x r, xs = x :: r ∧ Da H d x ∧ DaAll H ds r := by
  constructor
  · intro h
    unfold DaAll at h
    exact h
  · intro h
    unfold DaAll
    exact h
theorem DaAll.len : ∀ {ds : List PyData} {xs : List V}, DaAll H ds xs → xs.length = ds.length
  | [], xs, h => by rw [daAll_nil.mp h]; rfl
  | d :: ds, xs, h => by
    obtain ⟨x, r, rfl, _, h2⟩ := daAll_cons.mp h
    rw [List.length_cons, List.length_cons, DaAll.len h2]
theorem DaAll.get : ∀ {ds : List PyData} {xs : List V} {i : Nat} {x : V}, DaAll H ds xs → xs[i]? = some x → ∃ d, ds[i]? = some d ∧ Da H d x
  | [], xs, i, x, h, e => by
    rw [daAll_nil.mp h] at e
    cases e
  | d :: ds, xs, i, x, h, e => by
    obtain ⟨y, r, rfl, h1, h2⟩ := daAll_cons.mp h
    cases i with
    | zero =>
      cases e
      exact ⟨d, rfl, h1⟩
    | succ i => exact DaAll.get (i := i) h2 e
theorem DaAll.at : ∀ {ds : List PyData} {xs : List V} {i : Nat} {d : PyData}, DaAll H ds xs → ds[i]? = some d → ∃ x, xs[i]? = some x ∧ Da H d x
  | [], xs, i, d, h, e => by cases e
  | c :: ds, xs, i, d, h, e => by
    obtain ⟨y, r, rfl, h1, h2⟩ := daAll_cons.mp h
    cases i with
    | zero =>
      cases e
      exact ⟨y, rfl, h1⟩
    | succ i => exact DaAll.at (i := i) h2 e
theorem DaAll.push : ∀ {ds : List PyData} {xs : List V} {d : PyData} {x : V}, DaAll H ds xs → Da H d x → DaAll H (ds ++ [d]) (xs ++ [x])
  | [], xs, d, x, h, hx => by
    rw [daAll_nil.mp h]
    exact daAll_cons.mpr ⟨x, [], rfl, hx, daAll_nil.mpr rfl⟩
  | c :: ds, xs, d, x, h, hx => by
    obtain ⟨y, r, rfl, h1, h2⟩ := daAll_cons.mp h
    exact daAll_cons.mpr ⟨y, r ++ [x], rfl, h1, DaAll.push h2 hx⟩
theorem DaAll.append : ∀ {ds es : List PyData} {xs ys : List V}, DaAll H ds xs → DaAll H es ys → DaAll H (ds ++ es) (xs ++ ys)
  | [], es, xs, ys, h, hy => by
    rw [daAll_nil.mp h]
    exact hy
  | c :: ds, es, xs, ys, h, hy => by
    obtain ⟨y, r, rfl, h1, h2⟩ := daAll_cons.mp h
    exact daAll_cons.mpr ⟨y, r ++ ys, rfl, h1, DaAll.append h2 hy⟩
theorem DaAll.reverse : ∀ {ds : List PyData} {xs : List V}, DaAll H ds xs → DaAll H ds.reverse xs.reverse
  | [], xs, h => by
    rw [daAll_nil.mp h]
    exact daAll_nil.mpr rfl
  | c :: ds, xs, h => by
    obtain ⟨y, r, rfl, h1, h2⟩ := daAll_cons.mp h
    rw [List.reverse_cons, List.reverse_cons]
    exact DaAll.push (DaAll.reverse h2) h1
theorem DaAll.take : ∀ (n : Nat) {ds : List PyData} {xs : List V}, DaAll H ds xs → DaAll H (ds.take n) (xs.take n)
  | 0, ds, xs, h => daAll_nil.mpr rfl
  | n + 1, [], xs, h => by
    rw [daAll_nil.mp h]
    exact daAll_nil.mpr rfl
  | n + 1, c :: ds, xs, h => by
    obtain ⟨y, r, rfl, h1, h2⟩ := daAll_cons.mp h
    exact daAll_cons.mpr ⟨y, r.take n, rfl, h1, DaAll.take n h2⟩
theorem DaAll.drop : ∀ (n : Nat) {ds : List PyData} {xs : List V}, DaAll H ds xs → DaAll H (ds.drop n) (xs.drop n)
  | 0, ds, xs, h => h
  | n + 1, [], xs, h => by
    rw [daAll_nil.mp h]
    exact daAll_nil.mpr rfl
  | n + 1, c :: ds, xs, h => by
    obtain ⟨y, r, rfl, h1, h2⟩ := daAll_cons.mp h
    exact DaAll.drop n h2
theorem daAll_ints : ∀ {l : List Int} {xs : List V}, DaAll H (l.map .int) xs ↔ xs = l.map .int
  | [], xs => daAll_nil
  | i :: l, xs => by
    rw [List.map_cons, daAll_cons, List.map_cons]
    constructor
    · rintro ⟨x, r, rfl, h1, h2⟩
      rw [da_int.mp h1, daAll_ints.mp h2]
    · intro e
      exact ⟨.int i, l.map .int, e, da_int.mpr rfl, daAll_ints.mpr rfl⟩
theorem daAll_bls : ∀ {l : List Bool} {xs : List V}, DaAll H (l.map .bool) xs ↔ xs = l.map .bl
  | [], xs => daAll_nil
  | i :: l, xs => by
    rw [List.map_cons, daAll_cons, List.map_cons]
    constructor
    · rintro ⟨x, r, rfl, h1, h2⟩
      rw [da_bl.mp h1, daAll_bls.mp h2]
    · intro e
      exact ⟨.bl i, l.map .bl, e, da_bl.mpr rfl, daAll_bls.mpr rfl⟩
/-- typed: the i-th -/
theorem DaAll.mapGet {al : Type} {f : al → PyData} {l : List al} {xs : List V} {i : Nat} {x : V} (h : DaAll H (l.map f) xs) (e : xs[i]? = some x) : ∃ a, l[i]? = some a ∧ Da H (f a) x := by
  obtain ⟨d, h1, h2⟩ := h.get e
  rw [List.getElem?_map] at h1
  cases q : l[i]? with
  | none => rw [q] at h1; cases h1
  | some a =>
    rw [q] at h1
    cases h1
    exact ⟨a, rfl, h2⟩
theorem DaAll.mapAt {al : Type} {f : al → PyData} {l : List al} {xs : List V} {i : Nat} {a : al} (h : DaAll H (l.map f) xs) (e : l[i]? = some a) : ∃ x, xs[i]? = some x ∧ Da H (f a) x :=
  h.at (by rw [List.getElem?_map, e]; rfl)
theorem DaAll.mapLen {al : Type} {f : al → PyData} {l : List al} {xs : List V} (h : DaAll H (l.map f) xs) : xs.length = l.length := by
  rw [h.len, List.length_map]
end
mutual
theorem Da.dp {K : PySem.W.Frag} {H : Hp} : ∀ (d : PyData) (v : V), Da H d v → Dp K H v d
  | .none, _, h => by rw [da_non.mp h]; exact .non
  | .bool b, _, h => by rw [da_bl.mp h]; exact .bl b
  | .int i, _, h => by rw [da_int.mp h]; exact .int i
  | .str x, v, h => by
    unfold Da at h
    rw [h]
    exact .str x
  | .list ds, v, h => by
    obtain ⟨a, xs, rfl, ha, hd⟩ := da_lst.mp h
    exact .lst (SqL.of ha) (DaAll.dp ds xs hd)
  | .tuple ds, v, h => by
    obtain ⟨a, xs, rfl, ha, hd⟩ := da_tup.mp h
    exact .tup (SqT.of ha) (DaAll.dp ds xs hd)
  | .dict _, _, h => by
    unfold Da at h
    exact h.elim
theorem DaAll.dp {K : PySem.W.Frag} {H : Hp} : ∀ (ds : List PyData) (xs : List V), DaAll H ds xs → DpAll K H xs ds
  | [], xs, h => by rw [daAll_nil.mp h]; exact .nil
  | d :: ds, xs, h => by
    obtain ⟨x, r, rfl, h1, h2⟩ := daAll_cons.mp h
    exact .cons (Da.dp d x h1) (DaAll.dp ds r h2)
end
/-! ### kinds of data -/
abbrev Fr2 := Int × Int
def dIs (l : List Int) : PyData := .list (l.map .int)
def dIss (l : List (List Int)) : PyData := .list (l.map dIs)
def dBs (l : List Bool) : PyData := .list (l.map .bool)
def dBss (l : List (List Bool)) : PyData := .list (l.map dBs)
def dFr (f : Fr2) : PyData := .tuple [.int f.1, .int f.2]
def dFrL (l : List Fr2) : PyData := .list (l.map dFr)
def dFrT (l : List Fr2) : PyData := .tuple (l.map dFr)
def dTab (t : List (List Fr2)) : PyData := .tuple (t.map dFrT)
def dTabs (t : List (List (List Fr2))) : PyData := .list (t.map dTab)
def dShs (t : List (List (List Int))) : PyData := .list (t.map dIss)
section
variable {H : Hp}
theorem da_is {l : List Int} {v : V} : Da H (dIs l) v ↔ ∃ a, v = .ref a ∧ H a = some (.lst (l.map .int)) := by
  unfold dIs
  rw [da_lst]
  constructor
  · rintro ⟨a, xs, e, h, hd⟩
    rw [daAll_ints] at hd
    rw [hd] at h
    exact ⟨a, e, h⟩
  · rintro ⟨a, e, h⟩
    exact ⟨a, _, e, h, daAll_ints.mpr rfl⟩
theorem da_bs {l : List Bool} {v : V} : Da H (dBs l) v ↔ ∃ a, v = .ref a ∧ H a = some (.lst (l.map .bl)) := by
  unfold dBs
  rw [da_lst]
  constructor
  · rintro ⟨a, xs, e, h, hd⟩
    rw [daAll_bls] at hd
    rw [hd] at h
    exact ⟨a, e, h⟩
  · rintro ⟨a, e, h⟩
    exact ⟨a, _, e, h, daAll_bls.mpr rfl⟩
theorem da_fr {f : Fr2} {v : V} : Da H (dFr f) v ↔ ∃ a, v = .ref a ∧ H a = some (.tup [.int f.1, .int f.2]) := by
  unfold dFr
  rw [da_tup]
  constructor
  · rintro ⟨a, xs, e, h, hd⟩
    obtain ⟨x, r, rfl, h1, h2⟩ := daAll_cons.mp hd
    obtain ⟨y, r', rfl, h3, h4⟩ := daAll_cons.mp h2
    rw [da_int.mp h1, da_int.mp h3, daAll_nil.mp h4] at h
    exact ⟨a, e, h⟩
  · rintro ⟨a, e, h⟩
    exact ⟨a, _, e, h, daAll_cons.mpr ⟨_, _, rfl, da_int.mpr rfl, daAll_cons.mpr ⟨_, _, rfl, da_int.mpr rfl, daAll_nil.mpr rfl⟩⟩⟩
end
/-! ### how heaps grow: H the heap, G the part that holds the data; S may change -/
structure Grow (S : Addr → Prop) (G H G' H' : Hp) : Prop where
  keep : ∀ b o, ¬ S b → H b = some o → H' b = some o
  stay : ∀ b, H b ≠ none → H' b ≠ none
  data : Same G G'
  sub : Same G' H'
  new : ∀ b, G b = none → H b ≠ none → G' b = none
abbrev No : Addr → Prop := fun _ => False
section
variable {S S2 : Addr → Prop} {G H G1 H1 G2 H2 : Hp} {p : Addr} {c : HO}
theorem Grow.refl (s : Same G H) : Grow S G H G H := ⟨fun _ _ _ h => h, fun _ h => h, .refl _, s, fun _ h _ => h⟩
theorem Grow.trans (a : Grow S G H G1 H1) (b : Grow S G1 H1 G2 H2) : Grow S G H G2 H2 :=
  ⟨fun q o hs h => b.keep q o hs (a.keep q o hs h), fun q h => b.stay q (a.stay q h), a.data.trans b.data, b.sub, fun q h1 h2 => b.new q (a.new q h1 h2) (a.stay q h2)⟩
theorem Grow.wk (a : Grow S2 G H G1 H1) (h : ∀ b, S2 b → S b) : Grow S G H G1 H1 := ⟨fun b o hs => a.keep b o fun z => hs (h b z), a.stay, a.data, a.sub, a.new⟩
theorem Grow.no (a : Grow No G H G1 H1) : Grow S G H G1 H1 := a.wk fun _ h => h.elim
theorem Grow.sm (a : Grow No G H G1 H1) : Same H H1 := fun b o h => a.keep b o (fun z => z) h
/-- an object that stands, stands as it was -/
theorem _root_.L2.Same.at {H H' : Hp} (s : Same H H') {p : Addr} (h : H p ≠ none) : H' p = H p := by
  cases e : H p with
  | none => exact absurd e h
  | some o => exact s p o e
/-- was it not there, it is not in the beginning -/
theorem Grow.free (a : Grow S G H G1 H1) (h : H1 p = none) : H p = none := by
  cases e : H p with
  | none => rfl
  | some o => exact absurd h (a.stay p (by rw [e]; simp))
theorem Grow.freeG (a : Grow S G H G1 H1) (h : H1 p = none) : G1 p = none := a.sub.free h
theorem same_of_upd {G H : Hp} {p : Addr} {c : HO} (s : Same G H) (h : G p = none) : Same G (upd H p c) := fun b o e => by
  rw [upd_ne (ne_of_none e h)]
  exact s b o e
theorem same_upd2 {G H : Hp} {p : Addr} {c : HO} (s : Same G H) : Same (upd G p c) (upd H p c) := fun b o e => by
  by_cases q : b = p
  · subst q
    rw [upd_same] at e ⊢
    exact e
  · rw [upd_ne q] at e ⊢
    exact s b o e
theorem same_updG {G : Hp} {p : Addr} {c : HO} (h : G p = none) : Same G (upd G p c) := fun b o e => by
  rw [upd_ne (ne_of_none e h)]
  exact e
/-- a local object is written, or one that may change -/
theorem Grow.put (a : Grow S G H G1 H1) (hg : G1 p = none) (h0 : H p = none ∨ S p) : Grow S G H G1 (upd H1 p c) := by
  refine ⟨fun b o hs h => ?_, fun b h => ?_, a.data, same_of_upd a.sub hg, a.new⟩
  · have q : b ≠ p := fun e => by
      subst e
      rcases h0 with z | z
      · rw [z] at h; cases h
      · exact hs z
    rw [upd_ne q]
    exact a.keep b o hs h
  · by_cases q : b = p
    · subst q
      rw [upd_same]
      simp
    · rw [upd_ne q]
      exact a.stay b h
/-- a new object that is not data (yet) -/
theorem Grow.loc (a : Grow S G H G1 H1) (hn : H1 p = none) : Grow S G H G1 (upd H1 p c) := a.put (a.freeG hn) (.inl (a.free hn))
/-- a new object of the data -/
theorem Grow.lay (a : Grow S G H G1 H1) (hn : H1 p = none) : Grow S G H (upd G1 p c) (upd H1 p c) := by
  have b := a.loc (c := c) hn
  exact ⟨b.keep, b.stay, a.data.trans (same_updG (a.freeG hn)), same_upd2 a.sub, fun q h1 h2 => by
    have e : q ≠ p := fun z => h2 (by rw [z]; exact a.free hn)
    rw [upd_ne e]
    exact a.new q h1 h2⟩
/-- a local object becomes data -/
theorem Grow.pub (a : Grow S G H G1 H1) (hp : H1 p = some c) (h0 : H p = none) : Grow S G H (upd G1 p c) H1 := by
  refine ⟨a.keep, a.stay, fun b o e => ?_, fun b o e => ?_, fun b h1 h2 => ?_⟩
  · have q := a.data b o e
    by_cases z : b = p
    · subst z
      rw [upd_same]
      rw [a.sub b o q] at hp
      exact hp.symm
    · rw [upd_ne z]
      exact q
  · by_cases z : b = p
    · subst z
      rw [upd_same] at e
      rw [hp]
      exact e
    · rw [upd_ne z] at e
      exact a.sub b o e
  · have z : b ≠ p := fun q => h2 (by rw [q]; exact h0)
    rw [upd_ne z]
    exact a.new b h1 h2
end
/-! ### comprehensions that lay data -/
/-- the new list holds l, item by item as P says; Iv is kept. One turn is told with its continuation -/
theorem lc_data {J : It} {n : Nat} {Gw : Hp → Prop} {Y : Nat → Hp → V → Hp → Prop} (w : Walk J n Gw Y) {al : Type} (enc : al → PyData) (P : Nat → al → Prop) {S : Addr → Prop} {G0 H0 G1 H1 : Hp} (Iv : Nat → Hp → Prop)
    {g : TG} {te : TE} {vs : List Nat} {σ : St} {D : Addr} {Qd : Hp → Prop}
    (gr : Grow S G0 H0 G1 H1) (hD : H1 D = none) (hn : n ≤ sizeLine)
    (hw : ∀ G H, Same G1 G → Grow S G0 H0 G H → Gw H)
    (i0 : Iv 0 (upd H1 D (.lst [])))
    (hI : ∀ i H x, i ≤ n → H D ≠ none → Iv i H → Iv i (upd H D x))
    (hs : ∀ i x G H H', i < n → Same G1 G → Grow S G0 H0 G H → G D = none → H D ≠ none → Iv i H → Y i H x H' → ∀ Post : VK, (∀ y H4 G4 a, Grow S G H G4 H4 → H4 D = H D → P i a → Da G4 (enc a) y → Iv (i + 1) H4 → Post y H4) → g x (wipe σ vs) H' fun σ2 H2 => wipe σ2 vs = wipe σ vs ∧ te σ2 H2 Post)
    (hd : ∀ (G H : Hp) (l : List al), Same G1 G → Grow S G0 H0 G H → l.length = n → (∀ i a, l[i]? = some a → P i a) → Da G (.list (l.map enc)) (.ref D) → Iv n H → Qd H) :
    ∃ W : Nat → Nat → Hp → Prop, (∃ m, W 0 m (upd H1 D (.lst []))) ∧ ∀ i m H, W i m H →
      (J.stop i H ∧ Qd H) ∨ (J.go i H ∧ ∃ Nx : Hp → Prop, (∀ H', Nx H' → ∃ m', m' < m ∧ W (i + 1) m' H') ∧ ∀ x H', J.yld i H x H' → g x (wipe σ vs) H' fun σ2 H2 => wipe σ2 vs = wipe σ vs ∧ tYes σ2 H2 fun b H3 =>
        if b = true then te σ2 H3 fun y H4 => ∃ acc, H4 D = some (.lst acc) ∧ acc.length < sizeLine ∧ Nx (upd H4 D (.lst (acc ++ [y]))) else Nx H3) := by
  have GD : G1 D = none := gr.freeG hD
  have HD : H0 D = none := gr.free hD
  refine ⟨fun i m H => m = n - i ∧ i ≤ n ∧ ∃ (G : Hp) (l : List al) (acc : List V), Same G1 G ∧ Grow S G0 H0 G H ∧ G D = none ∧ l.length = i ∧ (∀ j a, l[j]? = some a → P j a) ∧ H D = some (.lst acc) ∧ DaAll G (l.map enc) acc ∧ Iv i H,
    ⟨n, by omega, Nat.zero_le _, G1, [], [], .refl _, gr.loc hD, GD, rfl, fun j a e => (by cases e), upd_same, daAll_nil.mpr rfl, i0⟩, ?_⟩
  rintro i m H ⟨rfl, hi, G, l, acc, s1, gH, gD, ll, hP, hacc, hda, iv⟩
  by_cases hlt : i < n
  · refine .inr ⟨w.goes i H hlt (hw G H s1 gH), fun H' => ∃ (G : Hp) (l : List al) (acc : List V), Same G1 G ∧ Grow S G0 H0 G H' ∧ G D = none ∧ l.length = i + 1 ∧ (∀ j a, l[j]? = some a → P j a) ∧ H' D = some (.lst acc) ∧ DaAll G (l.map enc) acc ∧ Iv (i + 1) H',
      fun H' q => ⟨n - (i + 1), by omega, rfl, hlt, q⟩, fun x H' y => ?_⟩
    have q := hs i x G H H' hlt s1 gH gD (by rw [hacc]; simp) iv (w.yields i H x H' hlt (hw G H s1 gH) y)
      (fun y H4 => ∃ acc, H4 D = some (.lst acc) ∧ acc.length < sizeLine ∧ ∃ (G : Hp) (l : List al) (acc' : List V), Same G1 G ∧ Grow S G0 H0 G (upd H4 D (.lst (acc ++ [y]))) ∧ G D = none ∧ l.length = i + 1 ∧ (∀ j a, l[j]? = some a → P j a) ∧ (upd H4 D (.lst (acc ++ [y]))) D = some (.lst acc') ∧ DaAll G (l.map enc) acc' ∧ Iv (i + 1) (upd H4 D (.lst (acc ++ [y]))))
      fun v H4 G4 a gr4 e4 pa da iv4 => ?_
    · exact q
    · have hD4 : H4 D = some (.lst acc) := e4.trans hacc
      have g4D : G4 D = none := gr4.new D gD (by rw [hacc]; simp)
      have al' := hda.mapLen
      refine ⟨acc, hD4, by omega, G4, l ++ [a], acc ++ [v], s1.trans gr4.data, (gH.trans gr4).put g4D (.inl HD), g4D, by rw [List.length_append, List.length_singleton, ll], fun j b e => ?_, upd_same, ?_, hI _ _ _ hlt (by rw [hD4]; simp) iv4⟩
      · by_cases q : j < l.length
        · rw [List.getElem?_append_left q] at e
          exact hP j b e
        · rw [List.getElem?_append_right (by omega)] at e
          have ej : j - l.length = 0 := by
            cases z : j - l.length with
            | zero => rfl
            | succ k => rw [z] at e; simp at e
          rw [ej] at e
          cases e
          rw [show j = i by omega]
          exact pa
      · rw [List.map_append]
        exact DaAll.push (DaAll.mono gr4.data _ _ hda) da
  · have e : i = n := by omega
    subst e
    refine .inl ⟨w.stops H (hw G H s1 gH), ?_⟩
    refine hd (upd G D (.lst acc)) H l (s1.trans (same_updG gD)) (gH.pub hacc HD) ll hP ?_ iv
    exact da_lst.mpr ⟨D, acc, rfl, upd_same, DaAll.mono (same_updG gD) _ _ hda⟩
/-- the same for items that are told ahead -/
theorem list_of {al : Type} {n : Nat} {f : Nat → al} {l : List al} (hl : l.length = n) (h : ∀ i a, l[i]? = some a → a = f i) : l = (List.range n).map f := by
  refine List.ext_getElem? fun i => ?_
  by_cases q : i < n
  · rw [List.getElem?_map, List.getElem?_range q]
    have e := List.getElem?_eq_getElem (l := l) (show i < l.length by omega)
    rw [e, h i _ e]
    rfl
  · rw [List.getElem?_eq_none (by omega), List.getElem?_eq_none (by rw [List.length_map, List.length_range]; omega)]
/-! ### ints of any size: ** -/
def CPowW (i j : Int) : Prop := 0 ≤ j ∧ (Builtin.Int.intBits i : Int) * j ≤ 2 ^ 27
theorem op_powW {X : Cx} : OpR X (binaryOp .Pow) (rI CPowW fun i j => .int (i ^ j.toNat)) := opI fun _ _ _ _ _ _ _ hc q => PyProof.Rows.pow_int hc.1 hc.2 q
end Bw
set_option Elab.async false
set_option linter.all false
set_option maxRecDepth 100000
set_option maxHeartbeats 4000000
/-! BwDefs: the text by places, a def that stands and keeps its promise, calls of it. -/
namespace Bw
open PySem L2
def topS (i : Nat) : Stmt := PySem.Challenge.pw_alikechances_k88_whole_best_news_of_some.main.body.getD i (.Pass ⟨0, 0, 0, 0⟩)
theorem ite_t {c : Bool} {A B : Prop} (h : c = true) (x : A) : if c = true then A else B := by
  rw [if_pos h]
  exact x
theorem ite_f {c : Bool} {A B : Prop} (h : c = false) (x : B) : if c = true then A else B := by
  rw [h, if_neg Bool.false_ne_true]
  exact x
theorem ite_b {c : Bool} {A B : Prop} (h1 : c = true → A) (h2 : c = false → B) : if c = true then A else B := by
  cases c with
  | true => exact ite_t rfl (h1 rfl)
  | false => exact ite_f rfl (h2 rfl)
/-- the built-ins are still what they are -/
structure Blt (mg : Str → Option Value) : Prop where
  abs_ : mg "abs" = none
  len_ : mg "len" = none
  sum_ : mg "sum" = none
  max_ : mg "max" = none
  isinstance_ : mg "isinstance" = none
  repr_ : mg "repr" = none
  sorted_ : mg "sorted" = none
  int_ : mg "int" = none
  bool_ : mg "bool" = none
  list_ : mg "list" = none
  tuple_ : mg "tuple" = none
  range_ : mg "range" = none
  zip_ : mg "zip" = none
  enumerate_ : mg "enumerate" = none
/-- a tuple of the written part -/
def WrT (K : PySem.W.Frag) (a : Addr) (xs : List V) : Prop := ∃ (o : Obj) (its : Array Value) (n : Nat), K.lookup a = some o ∧ o.cls = .type "tuple" ∧ o.data = .seq its n ∧ its.size ≤ sizeLine ∧ Vals xs its.toList
theorem WrT.sq {K : PySem.W.Frag} {a : Addr} {xs : List V} (h : WrT K a xs) (H : Hp) : SqT K H a xs := .inr h
/-- a def of the top as it stands -/
structure DefAt (K : PySem.W.Frag) (mg : Str → Option Value) (x : Str) (st : Stmt) (ps : List Str) (f : Addr) (fd : FuncData) : Prop where
  F : Fun K x x st f fd
  g : mg x = some (.ref f)
  b : Binds K fd ps []
/-- the def x keeps the promise sp -/
structure Kept (P : Program) (w : World) (K : PySem.W.Frag) (mg : Str → Option Value) (base : Heap) (k : Nat) (x : Str) (ps : List Str) (sp : Sp) : Prop where
  ex : ∃ f fd, mg x = some (.ref f) ∧ PySem.W.keepIn K (.ref f) = true ∧ Binds K fd ps [] ∧ FnOk P w K mg base CX0 k f fd ps sp
/-- the same with values dvs for the last parameters, its defaults -/
structure KeptD (P : Program) (w : World) (K : PySem.W.Frag) (mg : Str → Option Value) (base : Heap) (k : Nat) (x : Str) (ps : List Str) (dvs : List V) (sp : Sp) : Prop where
  ex : ∃ f fd ds, mg x = some (.ref f) ∧ PySem.W.keepIn K (.ref f) = true ∧ Binds K fd ps ds ∧ Vals dvs ds ∧ FnOk P w K mg base CX0 k f fd ps sp
theorem DefAt.kept {P : Program} {w : World} {K : PySem.W.Frag} {mg : Str → Option Value} {base : Heap} {k : Nat} {x : Str} {st : Stmt} {ps : List Str} {f : Addr} {fd : FuncData} {sp : Sp} (D : DefAt K mg x st ps f fd) (h : FnOk P w K mg base CX0 k f fd ps sp) :
    Kept P w K mg base k x ps sp := ⟨f, fd, D.g, D.F.kp, D.b, h⟩
section
variable {X : Cx} {k : Nat} {x : Str} {ps : List Str} {sp : Sp} {e : Expr} {es : List Expr} {t : TA} {p pos : Pos}
theorem pe_kept (G : Kept X.prog X.w X.K X.mg X.base k x ps sp) (hr : Room k X.A) (hg : Gl X x) (ha : PA X (e :: es) t) (hdb : (x == ("__debug__" : Str)) = false := by decide)
    (he : starEach (e :: es) X.env = (false, eval e X.env) :: starEach es X.env := by rfl) (hpl : (backTo pos (starEach es X.env)).any (·.1) = false := by rfl) : PE X (.Call (.Name x p) (e :: es) [] pos) (tCall sp [] E0 t) := by
  obtain ⟨f, fd, hm, hk, hb, F⟩ := G
  exact pe_call F hr hg hm hk hb .nil pass0 ha hdb he hpl
theorem pe_keptD {dvs : List V} (G : KeptD X.prog X.w X.K X.mg X.base k x ps dvs sp) (hr : Room k X.A) (hg : Gl X x) (ha : PA X (e :: es) t) (hdb : (x == ("__debug__" : Str)) = false := by decide)
    (he : starEach (e :: es) X.env = (false, eval e X.env) :: starEach es X.env := by rfl) (hpl : (backTo pos (starEach es X.env)).any (·.1) = false := by rfl) : PE X (.Call (.Name x p) (e :: es) [] pos) (tCall sp dvs E0 t) := by
  obtain ⟨f, fd, ds, hm, hk, hb, hd, F⟩ := G
  exact pe_call F hr hg hm hk hb hd pass0 ha hdb he hpl
end
/-! ### the rules whose readings name the written part, with K apart (a comprehension's block has another context over the same K) -/
section
variable {X : Cx} {K : PySem.W.Frag}
theorem ix_listK (h : X.K = K) : IxR X (rIxL K) := h ▸ ix_list
theorem ix_tupK (h : X.K = K) : IxR X (rIxT K) := h ▸ ix_tup
def rLen (K : PySem.W.Frag) : List V → Hp → VK → Prop := fun xs H Q => ∃ p ys, xs = [.ref p] ∧ (SqL K H p ys ∨ SqT K H p ys) ∧ Q (.int (ys.length : Nat)) H
theorem call_lenK (h : X.K = K) : CallR X (.builtin "len") (rLen K) := h ▸ call_len_seq
theorem cr_sumK (h : X.K = K) (hc : X.calm = true) : CallR X (.builtin "sum") (rSum K) := h ▸ cr_sum hc
def rTupOf (K : PySem.W.Frag) : List V → Hp → VK → Prop := fun xs H Q => ∃ p ys, xs = [.ref p] ∧ ((SqL K H p ys ∧ ∀ l, H l = none → Q (.ref l) (upd H l (.tup ys))) ∨ (SqT K H p ys ∧ Q (.ref p) H))
theorem call_tupleK (h : X.K = K) : CallR X (.type "tuple") (rTupOf K) := h ▸ call_tuple_of
def rLstOf (K : PySem.W.Frag) : List V → Hp → VK → Prop := fun xs H Q => ∃ p ys, xs = [.ref p] ∧ (SqL K H p ys ∨ SqT K H p ys) ∧ ∀ l, H l = none → Q (.ref l) (upd H l (.lst ys))
theorem call_listK (h : X.K = K) : CallR X (.type "list") (rLstOf K) := h ▸ call_list_of
theorem call_isiK0 (h : X.K = K) : CallR X (.builtin "isinstance") (rIsi K) := h ▸ call_isi
theorem sl_listK (h : X.K = K) : SlR X (rSlL K) := h ▸ sl_list
theorem pi_listK {tg l : Expr} {tl : TE} (h : X.K = K) (hl : PE X l tl) : PI X tg l (iList K tl) := h ▸ pi_list hl
theorem pi_tupK {tg l : Expr} {tl : TE} (h : X.K = K) (hl : PE X l tl) : PI X tg l (iTup K tl) := h ▸ pi_tup hl
theorem op_inK (h : X.K = K) : OpR X (compareOp .In) (rIn K false) := h ▸ op_in_seq
theorem op_notInK (h : X.K = K) : OpR X (compareOp .NotIn) (rIn K true) := h ▸ op_notIn_seq
theorem op_eqDK (h : X.K = K) (hu : X.A.units + 64 < cLine) : OpR X (compareOp .Eq) (rEqD K) := h ▸ op_eqD hu
theorem op_neDK (h : X.K = K) (hu : X.A.units + 64 < cLine) : OpR X (compareOp .NotEq) (rNeD K) := h ▸ op_neD hu
theorem pg_tupK {es : List Expr} {k : Nat} {pos : Pos} {t : TGs} {n : Nat} (hK : X.K = K) (hc : X.calm = true) (h : PGs X es t)
    (hn : (assignEach es X.env).length = n := by rfl) (hst : (assignEach es X.env).findIdx? (·.1) = none := by rfl) : PG X (.Tuple es k pos) (gTup K n t) := hK ▸ pg_tup hc h hn hst
end
end Bw
set_option Elab.async false
set_option linter.all false
set_option maxRecDepth 100000
set_option maxHeartbeats 4000000
/-! BwX: rules of our own: enumerate of a tuple; list(zip(..)); repr of a list. -/
namespace PySem
set_option maxHeartbeats 1000000 in
theorem bw_enum_new1 {v : Value} {o : Obj} {H : Heap → Prop} (B : Begins v o H) :
    Meets (Builtin.«enumerate.__new__» ⟨[.type "enumerate", v], []⟩) (fun _ R s => H s.heap ∧
      R (.ok (.ret (.ref (s.heap.push o).objs.size))) { s with heap := (s.heap.push o).push { cls := .type "enumerate", data := .fields #[.none, .bool false, .ref s.heap.objs.size, rawInt 0, .none, .none] } }) :=
  .of_wp fun prog w A R s h => by
    obtain ⟨hp, g, d, tk, os⟩ := s; obtain ⟨h1, h⟩ := h
    have hsub := sub_enumerate
    have q1 : ∀ {A' : Around} {E : Value → Shared → Prop} {Q : Value → Shared → Prop}, Q (.ref hp.objs.size) ⟨hp.push o, g, d, tk, os⟩ → wpAny (model prog w) A' (pyIter v) Q E ⟨hp, g, d, tk, os⟩ :=
      fun q => B.iter prog w _ _ ⟨hp, g, d, tk, os⟩ _ h1 q
    wp_walk using q1
    refine wpAny_stack_any fun st => wpAny_pure ?_
    split
    · rename_i c _ _ _ _ _
      cases (c == Value.type "enumerate")
      · wp_walk using q1
        exact ⟨_, rfl, h⟩
      · wp_walk using q1
        exact ⟨_, rfl, h⟩
    · wp_walk using q1
      exact ⟨_, rfl, h⟩
theorem bw_enum_begins {prog : Program} {w : World} {A : Around} {E : Value → Shared → Prop} {s : Shared} {v : Value} {o : Obj} {H : Heap → Prop} {Q : Value → Shared → Prop} (B : Begins v o H) (h1 : H s.heap)
    (h : ∀ h', IsEnum h' (s.heap.objs.size + 1) s.heap.objs.size 0 .none → h'.get? s.heap.objs.size = some o → h'.objs.size = s.heap.objs.size + 2 →
      (∀ b o, s.heap.get? b = some o → h'.get? b = some o) → Q (.ref (s.heap.objs.size + 1)) { s with heap := h' }) :
    wpAny (model prog w) A (call (.type "enumerate") [v]) Q E s := by
  refine callType_new F.called_enumerate (by decide) (F.typeCall_enumerate_1 _) (F.newCall_enumerate_1 _) (fun obj => F.args_object_init_2 obj _) F.entry_enumerate_new
    (bw_enum_new1 B) ⟨h1, ?_⟩
  have hz : (s.heap.push o).objs.size = s.heap.objs.size + 1 := Heap.size_push ..
  show _ ∧ _
  rw [hz]
  have he : IsEnum ((s.heap.push o).push { cls := .type "enumerate", data := .fields #[.none, .bool false, .ref s.heap.objs.size, rawInt 0, .none, .none] }) (s.heap.objs.size + 1) s.heap.objs.size 0 .none := by
    have := Heap.get?_push_size (s.heap.push o) (o := { cls := .type "enumerate", data := .fields #[.none, .bool false, .ref s.heap.objs.size, rawInt 0, .none, .none] }) rfl
    rw [hz] at this; exact this
  refine ⟨⟨_, he, rfl⟩, h _ he (Heap.get?_push_of_some _ (Heap.get?_push_size _ B.free)) (by rw [Heap.size_push, hz]) fun b o x => Heap.get?_push_of_some _ (Heap.get?_push_of_some _ x)⟩
end PySem
namespace L2
open PySem PySem.Spec PyProof.Rows
/-- the tuple at a, each item in a new pair -/
def IteT (K : PySem.W.Frag) (a : Addr) : It :=
  ⟨fun i H => ∃ (xs : List V) (x : V), SqT K H a xs ∧ xs[i]? = some x, fun i H v H' => ∃ T x, v = .ref T ∧ H T = none ∧ H' = upd H T (.tup [.int (i : Nat), x]) ∧ ∀ xs, SqT K H a xs → xs[i]? = some x, fun i H => ∃ xs : List V, SqT K H a xs ∧ xs.length = i⟩
theorem turn_enumT {P : Program} {w : World} {K : PySem.W.Frag} {elts : List Expr} {kk : Nat} {tpos : Pos} (a e it : Addr) :
    Turn P w K (.Tuple elts kk tpos) (IteT K a) [e, it] e (fun i h => (∃ old, IsEnum h e it ((i : Nat) : Int) old) ∧ h.IsTupleIter it a i ∧ e ≠ it ∧ a ≠ it ∧ e ≠ a) where
  mem := by simp
  obj := fun i h st b hb => by
    obtain ⟨⟨old, he⟩, ⟨o, ho, hc, hd⟩, _⟩ := st
    have e' : b = e ∨ b = it := by simpa using hb
    rcases e' with z | z
    · rw [z]; exact ⟨_, he, fun v q => nomatch q⟩
    · rw [z]; exact ⟨o, ho, fun v q => by rw [hd] at q; cases q⟩
  keep := fun i h h' st k => let ⟨⟨old, he⟩, hi, hne⟩ := st; ⟨⟨old, k e (by simp) _ he⟩, hi.at fun o q => k it (by simp) o q, hne⟩
  item := by
    intro X hP hw hK hc i pins s σ H E I hf st hg
    subst hP hw hK
    obtain ⟨⟨old, he⟩, hit, hne, hai, hea⟩ := st
    obtain ⟨xs, x, hq, hx⟩ := hg
    obtain ⟨its, rv, p, hz⟩ := I.tuple hq
    obtain ⟨u, hu, ru⟩ := rv.get hx
    have hel : e < s.heap.objs.size := Heap.lt_size he
    have hil : it < s.heap.objs.size := by obtain ⟨_, q, _⟩ := hit; exact Heap.lt_size q
    have Dr := Draws.tuple (prog := X.prog) (w := X.w) (A := X.A.in1) (show X.A.in1.handled = none from I.ok.hd hc) it a hai its.toArray
    have hlt : i < its.toArray.size := by
      rw [List.size_toArray]
      exact (List.getElem?_eq_some_iff.mp hu).1
    refine wpAny_pyNext_enum_itemC Dr he (i := i) ⟨hit, p⟩ hlt hne (by simp [hne, hea]) fun y h' tk hy ho st' hT hsz hk => ?_
    obtain rfl : y = u := by
      have hy' : its.toArray[i]? = some y := hy
      rw [List.getElem?_toArray, hu] at hy'
      exact (Option.some.inj hy').symm
    refine ⟨_, rfl, wpAny_letOwnedTupleGo_enum (s := { s with heap := h', toks := tk + 1 }) ho fun h'' he' sb => ?_⟩
    have hT2 : h''.get? s.heap.objs.size = some { cls := .type "tuple", data := .seq #[.int i tk, y] } := (sb.2 _ (Nat.ne_of_gt hel)).trans hT
    have new : ObjOk X.prog X.w (upd H s.heap.objs.size (.tup [.int (i : Nat), x])) h'' s.heap.objs.size (.tup [.int (i : Nat), x]) :=
      ⟨by show 2 ≤ sizeLine; decide, [.int i tk, y], .cons ⟨_, rfl⟩ (.cons ru .nil), ⟨_, hT2, rfl, _, rfl⟩⟩
    have I1 : Inv X pins σ (upd H s.heap.objs.size (.tup [.int (i : Nat), x])) { s with heap := h'', toks := tk + 1 } :=
      I.turnedNew (ch := [e, it]) (fun b ob hb q => (sb.2 b (fun z => hb (by simp [z]))).trans (hk b ob (fun z => hb (by simp [z])) (fun z => hb (by simp [z])) q)) hf (Nat.le_refl _) new
    refine ⟨.ref s.heap.objs.size, _, I1, rfl, ⟨_, x, rfl, I.hok.fresh (Nat.le_refl _), rfl, fun ys hy => by rw [I.tuple_inj hy hq]; exact hx⟩, ⟨⟨y, ?_⟩, st'.1.at fun o q => (sb.2 it (Ne.symm hne)).trans q, hne, hai, hea⟩, fun b hb => ?_⟩
    · have e1 : ((i + 1 : Nat) : Int) = (i : Int) + 1 := by omega
      rw [e1]; exact he'
    · have hb' : b < s.heap.objs.size := by
        have e' : b = e ∨ b = it := by simpa using hb
        rcases e' with z | z
        · rw [z]; exact hel
        · rw [z]; exact hil
      rw [upd_ne (Nat.ne_of_lt hb')]
      exact (hf b hb).1
  done := by
    intro X hP hw hK hc i pins s σ H E I hf st hg
    subst hP hw hK
    obtain ⟨⟨old, he⟩, hit, hne, hai, hea⟩ := st
    obtain ⟨xs, hq, hx⟩ := hg
    obtain ⟨its, rv, p, hz⟩ := I.tuple hq
    obtain ⟨f0, f1, f2, f3, f4, f5⟩ := hf it (by simp)
    have hl := rv.length
    have Dr := Draws.tuple (prog := X.prog) (w := X.w) (A := X.A.in1) (show X.A.in1.handled = none from I.ok.hd hc) it a hai its.toArray
    have hi : i = its.toArray.size := by
      rw [List.size_toArray]
      omega
    subst hi
    exact wpAny_pyNext_enum_endD Dr he ⟨hit, p⟩ fun h' eb => ⟨rfl, I.turned (t' := s.toks) (fun b o hb q => eb b o hb q) f0 f1 f3 f4 f5⟩
  self := fun A i s Q E st h => let ⟨⟨_, he⟩, _⟩ := st; wpAny_pyIter_enum he h
def iEnumT (K : PySem.W.Frag) (ta : TA) : TI := fun σ H R => ta σ H fun vs H1 => ∃ a xs, vs = [.ref a] ∧ SqT K H1 a xs ∧ R (IteT K a) H1
theorem pi_enumT {X : Cx} {e : Expr} {ta : TA} {p pos tpos : Pos} {elts : List Expr} {kk : Nat} (hg : Gl X "enumerate") (hm : X.mg "enumerate" = none) (ha : PA X [e] ta) (hs : starEach [e] X.env = [(false, eval e X.env)] := by rfl) :
    PI X (.Tuple elts kk tpos) (.Call (.Name "enumerate" p) [e] [] pos) (iEnumT X.K ta) := by
  refine ⟨fun pins s σ H R I h => ?_⟩
  refine Call_ (ld_blt I hg hm boot_enumerate (PyProof.Rows.callWith_type1 (thn (ha.run pos pins s σ H _ I h) fun us s1 ⟨vs, H1, I1, r1, q1⟩ => ?_) hs rfl))
  obtain ⟨a, xs, ex, hq, q⟩ := q1
  subst ex
  cases r1 with
  | cons r rr =>
    cases rr
    cases r
    obtain ⟨its, rv, p', hz⟩ := I1.tuple hq
    have la : a < s1.heap.objs.size := by
      obtain ⟨o, ho, _⟩ := id p'
      exact Heap.lt_size ho
    refine bw_enum_begins (begins_tuple a its.toArray) p' fun h' he hit hsz hk => wpAny_pyIter_enum he ?_
    have I2 : Inv X pins σ H1 { s1 with heap := h' } := I1.kept (t' := s1.toks) hk
    refine ⟨s1.heap.objs.size + 1, [s1.heap.objs.size + 1, s1.heap.objs.size], _, _, H1, rfl, I2, turn_enumT a (s1.heap.objs.size + 1) s1.heap.objs.size, ⟨⟨.none, he⟩, ⟨_, hit, rfl, rfl⟩, Nat.succ_ne_self _, Nat.ne_of_lt la, fun z => absurd la (by rw [← z]; exact Nat.not_lt.mpr (Nat.le_succ _))⟩, fun b hb => ?_, q⟩
    have e' : b = s1.heap.objs.size + 1 ∨ b = s1.heap.objs.size := by simpa using hb
    have hle : s1.heap.objs.size ≤ b := by
      rcases e' with z | z
      · rw [z]; exact Nat.le_add_right _ _
      · rw [z]; exact Nat.le_refl _
    exact I1.fpOk hle (I1.hok.fresh hle)
theorem walk_enumT {K : PySem.W.Frag} {a : Addr} {xs : List V} : Walk (IteT K a) xs.length (fun H => SqT K H a xs) (YPair (fun i => some (.int (i : Nat))) (fun i => xs[i]?)) :=
  ⟨fun i _ hi q => ⟨xs, xs[i], q, by simp [hi]⟩, fun _ q => ⟨xs, q, rfl⟩, fun _ _ _ _ _ q y => let ⟨T, x, e, n, u, hx⟩ := y; ⟨T, _, x, e, n, u, rfl, hx xs q⟩⟩
end L2
set_option Elab.async false
set_option linter.all false
set_option maxRecDepth 100000
set_option maxHeartbeats 4000000
/-! BwY: list(zip(a, b)) of two lists. -/
namespace Zl
open PySem PySem.Calls PyProof.Rows PyProof.V PySem.Spec PySem.W
theorem zip_no_len : typeLookup (.type "zip") "__len__" = pure none := am_miss_of_fast (by decide +kernel)
theorem zip_no_hint : typeLookup (.type "zip") "__length_hint__" = pure none := am_miss_of_fast (by decide +kernel)
/-- the zip at turn i, over the lists at l1 and l2; the list that is made lies at S -/
structure St (z TI TO i1 i2 l1 l2 S : Addr) (xs ys : Array Value) (i : Nat) (h : Heap) : Prop where
  ti : IsPair h TI (.ref i1) (.ref i2)
  h1 : h.IsListIter i1 l1 i
  h2 : h.IsListIter i2 l2 i
  g1 : h.IsList l1 xs
  g2 : h.IsList l2 ys
  hz : (IsZip h z TI TO .none ∧ ∃ a b, IsPair h TO a b) ∨ ∃ T f oT, IsZipHeld h z TI TO T f ∧ h.get? T = some oT ∧ T ≠ z ∧ T ≠ i1 ∧ T ≠ i2 ∧ T ≠ S
structure Off (z TI TO i1 i2 l1 l2 S : Addr) : Prop where
  z : z ≠ S
  ti : TI ≠ S
  tO : TO ≠ S
  i1 : i1 ≠ S
  i2 : i2 ≠ S
  l1 : l1 ≠ S
  l2 : l2 ≠ S
section
variable {prog : Program} {w : World} {A : Around} {E : Value → Shared → Prop} {s : Shared} {z TI TO i1 i2 l1 l2 S : Addr} {xs ys : Array Value}
theorem St.keep {i : Nat} {h h' : Heap} (st : St z TI TO i1 i2 l1 l2 S xs ys i h) (O : Off z TI TO i1 i2 l1 l2 S) (hk : ∀ b o, b ≠ S → h.get? b = some o → h'.get? b = some o) : St z TI TO i1 i2 l1 l2 S xs ys i h' := by
  refine ⟨hk _ _ O.ti st.ti, st.h1.at fun o e => hk _ o O.i1 e, st.h2.at fun o e => hk _ o O.i2 e, st.g1.at fun o e => hk _ o O.l1 e, st.g2.at fun o e => hk _ o O.l2 e, ?_⟩
  rcases st.hz with ⟨hz, a, b, hTO⟩ | ⟨T, f, oT, hz, hT, r1, r2, r3, r4⟩
  · exact .inl ⟨hk _ _ O.z hz, a, b, hk _ _ O.tO hTO⟩
  · exact .inr ⟨T, f, oT, hk _ _ O.z hz, hk _ _ r4 hT, r1, r2, r3, r4⟩
theorem item (D : ZipApart z TI TO i1 i2 l1 l2) (hS : S < s.heap.objs.size) {i : Nat} {x y : Value} {Q : Option Value → Shared → Prop} (st : St z TI TO i1 i2 l1 l2 S xs ys i s.heap) (ex : xs[i]? = some x) (ey : ys[i]? = some y)
    (hQ : ∀ h', St z TI TO i1 i2 l1 l2 S xs ys (i + 1) h' → h'.get? s.heap.objs.size = some { cls := .type "tuple", data := .seq #[x, y] } → h'.objs.size = s.heap.objs.size + 1 →
      (∀ c o, c ≠ z → c ≠ TO → c ≠ i1 → c ≠ i2 → s.heap.get? c = some o → h'.get? c = some o) → Q (some (.ref s.heap.objs.size)) { s with heap := h' }) :
    wpAny (model prog w) A (pyNext (.ref z)) Q E s := by
  obtain ⟨hTI, h1, h2, hl1, hl2, hz⟩ := st
  have lt : ∀ {c o}, s.heap.get? c = some o → s.heap.objs.size ≠ c := fun e => Nat.ne_of_gt (Heap.lt_size e)
  have n1 : s.heap.objs.size ≠ i1 := let ⟨_, e, _⟩ := h1; lt e
  have n2 : s.heap.objs.size ≠ i2 := let ⟨_, e, _⟩ := h2; lt e
  rcases hz with ⟨hz, a, b, hTO⟩ | ⟨T, f, oT, hz, hT, r1, r2, r3, r4⟩
  · refine wpAny_pyNext_zip_item D hz hTI hTO h1 h2 hl1 hl2 ex ey fun h' a1 a2 a3 a4 a5 a6 hk => ?_
    exact hQ h' ⟨hk _ _ D.TIz D.TITO D.TIi1 D.TIi2 hTI, a3, a4, hl1.at fun o e => hk _ o D.l1z D.l1TO D.l1i1 D.l1i2 e, hl2.at fun o e => hk _ o D.l2z D.l2TO D.l2i1 D.l2i2 e,
      .inr ⟨s.heap.objs.size, false, _, a1, a5, lt hz, n1, n2, Nat.ne_of_gt hS⟩⟩ a5 a6 fun c o c1 c2 c3 c4 e => hk c o c1 c2 c3 c4 e
  · refine wpAny_pyNext_zip_item_held D hz hT hTI h1 h2 hl1 hl2 ex ey fun h' a1 a3 a4 a5 a6 hk => ?_
    exact hQ h' ⟨hk _ _ D.TIz D.TIi1 D.TIi2 hTI, a3, a4, hl1.at fun o e => hk _ o D.l1z D.l1i1 D.l1i2 e, hl2.at fun o e => hk _ o D.l2z D.l2i1 D.l2i2 e,
      .inr ⟨T, true, oT, a1, hk _ _ r1 r2 r3 hT, r1, r2, r3, r4⟩⟩ a5 a6 fun c o c1 c2 c3 c4 e => hk c o c1 c3 c4 e
theorem done (hh : A.handled = none) (D : ZipApart z TI TO i1 i2 l1 l2) {i : Nat} {Q : Option Value → Shared → Prop} (st : St z TI TO i1 i2 l1 l2 S xs ys i s.heap) (he : xs[i]? = none ∨ ys[i]? = none)
    (hQ : ∀ h', (∀ c o, c ≠ z → c ≠ TO → c ≠ i1 → c ≠ i2 → s.heap.get? c = some o → h'.get? c = some o) → Q none { s with heap := h' }) : wpAny (model prog w) A (pyNext (.ref z)) Q E s := by
  obtain ⟨hTI, h1, h2, hl1, hl2, hz⟩ := st
  rcases hz with ⟨hz, a, b, hTO⟩ | ⟨T, f, oT, hz, hT, r1, r2, r3, r4⟩
  · exact wpAny_pyNext_zip_end hh D hz hTI hTO h1 h2 hl1 hl2 he hQ
  · exact wpAny_pyNext_zip_end_held hh D hz hT hTI h1 h2 hl1 hl2 he fun h' hk => hQ h' fun c o c1 c2 c3 c4 e => hk c o c1 c3 c4 e
/-- the addresses as hold the pairs -/
structure Gp (xs ys : Array Value) (lo : Addr) (h : Heap) (as : List Addr) : Prop where
  rise : as.Pairwise (· < ·)
  above : ∀ a ∈ as, lo < a
  pairs : ∀ (j : Nat) (a : Addr), as[j]? = some a → ∃ x y, xs[j]? = some x ∧ ys[j]? = some y ∧ h.get? a = some { cls := .type "tuple", data := .seq #[x, y] }
theorem Gp.there {lo : Addr} {h : Heap} {as : List Addr} (g : Gp xs ys lo h as) {a : Addr} (ha : a ∈ as) : a < h.objs.size := by
  obtain ⟨j, hj⟩ := List.mem_iff_getElem?.mp ha
  obtain ⟨_, _, _, _, e⟩ := g.pairs j a hj
  exact Heap.lt_size e
/-- the iterators lie below the list -/
structure Low (z TO i1 i2 S : Addr) : Prop where
  z : z < S
  tO : TO < S
  i1 : i1 < S
  i2 : i2 < S
theorem loop {R : Result → Shared → Prop} {n : Nat} (hh : A.handled = none) (D : ZipApart z TI TO i1 i2 l1 l2) (O : Off z TI TO i1 i2 l1 l2 S) (L : Low z TO i1 i2 S) (nx : xs.size = n) (ny : ys.size = n) (hn : n ≤ sizeLine) (res : Value) {h₁ : Heap}
    (hR : ∀ h' tk acc c as, (∀ b o, b ≠ S → b ≠ z → b ≠ TO → b ≠ i1 → b ≠ i2 → h₁.get? b = some o → h'.get? b = some o) → h'.get? S = some { cls := .type "list", dict := none, data := .seq acc c, slots := #[] } → as.length = n → Gp xs ys S h' as →
      acc.toList = as.map Value.ref → R (.ok (.ret res)) { s with heap := h', toks := tk }) :
    ∀ (k i : Nat) (h : Heap) (tk c : Nat) (acc : Array Value) (as : List Addr), n - i = k → i ≤ n → St z TI TO i1 i2 l1 l2 S xs ys i h → (∀ b o, b ≠ S → b ≠ z → b ≠ TO → b ≠ i1 → b ≠ i2 → h₁.get? b = some o → h.get? b = some o) →
      h.get? S = some { cls := .type "list", dict := none, data := .seq acc c, slots := #[] } → acc.toList = as.map Value.ref → as.length = i → Gp xs ys S h as →
      codeAny (model prog w) A (.builtin "list.extend.loop" ⟨[.ref S, .ref z, res], []⟩) R { s with heap := h, toks := tk } := by
  intro k
  induction k with
  | zero =>
    intro i h tk c acc as hk hi hst hkeep hS hacc hal hG
    have hin : i = n := by omega
    refine codeAny_builtin PySem.F.entry_extend_loop ?_
    rw [Around.under_plainId PySem.F.plain_extend_loop _]
    show wpAny _ A.in1 (pyNext (.ref z) >>= _) _ _ _
    refine wpAny_bind (done (s := { s with heap := h, toks := tk }) (A := A.in1) hh D hst (.inl (Array.getElem?_eq_none (by omega))) fun h' he => ?_)
    have up : ∀ a, S < a → ∀ o, h.get? a = some o → h'.get? a = some o := fun a ha o e => he a o (Nat.ne_of_gt (Nat.lt_trans L.z ha)) (Nat.ne_of_gt (Nat.lt_trans L.tO ha)) (Nat.ne_of_gt (Nat.lt_trans L.i1 ha)) (Nat.ne_of_gt (Nat.lt_trans L.i2 ha)) e
    refine wpAny_pure (hR h' tk acc c as (fun b o c0 c1 c2 c3 c4 e => he b o c1 c2 c3 c4 (hkeep b o c0 c1 c2 c3 c4 e)) (he S _ O.z.symm O.tO.symm O.i1.symm O.i2.symm hS) (by omega) ⟨hG.rise, hG.above, fun j a hj => ?_⟩ hacc)
    obtain ⟨x, y, ex, ey, e3⟩ := hG.pairs j a hj
    exact ⟨x, y, ex, ey, up a (hG.above a (List.mem_of_getElem? hj)) _ e3⟩
  | succ k ih =>
    intro i h tk c acc as hk hi hst hkeep hS hacc hal hG
    have hlt : i < n := by omega
    have hsz : acc.size = i := by rw [← Array.length_toList, hacc, List.length_map, hal]
    have ex := Array.getElem?_eq_getElem (xs := xs) (i := i) (by omega)
    have ey := Array.getElem?_eq_getElem (xs := ys) (i := i) (by omega)
    have hSl : S < h.objs.size := Heap.lt_size hS
    refine codeAny_builtin PySem.F.entry_extend_loop ?_
    rw [Around.under_plainId PySem.F.plain_extend_loop _]
    show wpAny _ A.in1 (pyNext (.ref z) >>= _) _ _ _
    refine wpAny_bind (item (s := { s with heap := h, toks := tk }) D hSl hst ex ey fun h' hst' ht hz hkp => ?_)
    dsimp only at ht hz hkp ⊢
    have hS' := hkp S _ O.z.symm O.tO.symm O.i1.symm O.i2.symm hS
    have up : ∀ b o, b ≠ S → h'.get? b = some o → (h'.update S (Obj.mapSeq (·.push (Value.ref h.objs.size)))).get? b = some o := fun b o hb e => (Heap.get?_update_other _ _ (Ne.symm hb)).trans e
    have up2 : ∀ a, S < a → ∀ o, h.get? a = some o → h'.get? a = some o := fun a ha o e => hkp a o (Nat.ne_of_gt (Nat.lt_trans L.z ha)) (Nat.ne_of_gt (Nat.lt_trans L.tO ha)) (Nat.ne_of_gt (Nat.lt_trans L.i1 ha)) (Nat.ne_of_gt (Nat.lt_trans L.i2 ha)) e
    show wpAny _ A.in1 (updateSeq S (·.push (Value.ref h.objs.size)) >>= fun _ => _) _ _ _
    refine wpAny_bind ?_
    refine wpAny_updateSeq hS' rfl (wpAny_pure ⟨plainId_quiet PySem.F.plain_extend_loop _, ih (i + 1) _ tk _ (acc.push (Value.ref h.objs.size)) (as ++ [h.objs.size]) (by omega) hlt (hst'.keep O up)
      (fun b o c0 c1 c2 c3 c4 e => up b o c0 (hkp b o c1 c2 c3 c4 (hkeep b o c0 c1 c2 c3 c4 e))) (Heap.get?_update_self _ hS' rfl) (by rw [Array.toList_push, hacc, List.map_append]; rfl) (by rw [List.length_append, hal]; rfl) ⟨?_, ?_, ?_⟩⟩) (by rw [hsz]; omega) (by show (acc.push (Value.ref h.objs.size)).size ≤ sizeLine + 1; rw [Array.size_push, hsz]; omega)
    · refine List.pairwise_append.mpr ⟨hG.rise, List.pairwise_singleton _ _, fun a ha b hb => ?_⟩
      rw [List.mem_singleton.mp hb]
      exact hG.there ha
    · intro a ha
      rcases List.mem_append.mp ha with ha | ha
      · exact hG.above a ha
      · rw [List.mem_singleton.mp ha]; exact hSl
    · intro j b hj
      rcases Nat.lt_trichotomy j as.length with h1 | h1 | h1
      · rw [List.getElem?_append_left h1] at hj
        obtain ⟨x, y, e1, e2, e3⟩ := hG.pairs j b hj
        have hb := hG.above b (List.mem_of_getElem? hj)
        exact ⟨x, y, e1, e2, up b _ (Nat.ne_of_gt hb) (up2 b hb _ e3)⟩
      · subst h1
        have hb : h.objs.size = b := by simpa using hj
        subst hb
        exact ⟨_, _, by rw [hal]; exact ex, by rw [hal]; exact ey, up _ _ (Nat.ne_of_gt hSl) ht⟩
      · have hnone : (as ++ [h.objs.size])[j]? = none := List.getElem?_eq_none (by rw [List.length_append, List.length_singleton]; omega)
        rw [hnone] at hj; cases hj
theorem St.type {i : Nat} {s : Shared} (st : St z TI TO i1 i2 l1 l2 S xs ys i s.heap) : s.TypeIs (.ref z) "zip" := by
  rcases st.hz with ⟨hz, _⟩ | ⟨_, _, _, hz, _⟩
  · exact ⟨_, hz, rfl⟩
  · exact ⟨_, hz, rfl⟩
theorem extend {R : Result → Shared → Prop} {n : Nat} (hh : A.handled = none) (D : ZipApart z TI TO i1 i2 l1 l2) (O : Off z TI TO i1 i2 l1 l2 S) (L : Low z TO i1 i2 S) (nx : xs.size = n) (ny : ys.size = n) (hn : n ≤ sizeLine)
    (hz : IsZip s.heap z TI TO .none) (st : St z TI TO i1 i2 l1 l2 S xs ys 0 s.heap) (res : Value) (c₀ : Nat) (hS : s.heap.get? S = some { cls := .type "list", data := .seq #[] c₀ })
    (hR : ∀ h' tk acc c as, (∀ b o, b ≠ S → b ≠ z → b ≠ TO → b ≠ i1 → b ≠ i2 → s.heap.get? b = some o → h'.get? b = some o) → h'.get? S = some { cls := .type "list", dict := none, data := .seq acc c, slots := #[] } → as.length = n → Gp xs ys S h' as →
      acc.toList = as.map Value.ref → R (.ok (.ret res)) { s with heap := h', toks := tk }) :
    wpAny (model prog w) A.in1 (Builtin.List.listExtendWith (.ref S) (.ref z) res)
      (fun fin s' => match fin with | .done f => R (.ok f) s' | .again c' => c'.quiet = true ∧ codeAny (model prog w) A c' R s') (fun e s' => R (.error e) s') s := by
  have hT := St.type st
  unfold Builtin.List.listExtendWith
  refine wpAny_bind (wpAny_typeOf hT ?_)
  have h1 : Builtin.List.listSameRef (.ref S) (.ref z) = false := by simp [Builtin.List.listSameRef, O.z.symm]
  have h2 : (Value.type "zip" == Value.type "list") = false := by decide
  have h3 : (Value.type "zip" == Value.type "tuple") = false := by decide
  simp only [h1, h2, h3, Bool.or_false, Bool.false_eq_true, if_false]
  refine wpAny_bind (wpAny_pyIter_zip hz ?_)
  refine wpAny_bind (wpAny_holding ?_)
  unfold Builtin.List.listLengthHint
  refine wpAny_bind (wpAny_specialOf hT zip_no_len ?_)
  show wpAny _ A.in1 (specialOf (Value.ref z) (Str.ofString "__length_hint__") >>= _) _ _ _
  refine wpAny_bind (wpAny_specialOf hT zip_no_hint ?_)
  refine wpAny_pure ?_
  show wpAny _ A.in1 (rule "list.extend.makes-room" >>= fun _ => Builtin.List.listTouch (.ref S) >>= fun _ =>
    again (.builtin "list.extend.loop" ⟨[.ref S, .ref z, res], []⟩)) _ _ _
  refine wpAny_bind (wpAny_rule ?_)
  refine wpAny_bind ?_
  show wpAny _ A.in1 (updateSeq S (·.push .none) >>= fun _ => updateSeq S (·.pop)) _ _ _
  refine wpAny_bind (wpAny_updateSeq hS rfl ?_)
  have hS₂ := Heap.get?_update_self (Obj.mapSeq (·.push Value.none)) hS rfl
  refine wpAny_updateSeq (hz := by seq_fits) hS₂ rfl ?_
  have hS₃ := Heap.get?_update_self (Obj.mapSeq (·.pop)) hS₂ rfl
  have oth : ∀ b o, b ≠ S → s.heap.get? b = some o → ((s.heap.update S (Obj.mapSeq (·.push Value.none))).update S (Obj.mapSeq (·.pop))).get? b = some o :=
    fun b o hb e => (Heap.get?_update_other _ _ (Ne.symm hb)).trans ((Heap.get?_update_other _ _ (Ne.symm hb)).trans e)
  refine wpAny_pure ⟨plainId_quiet PySem.F.plain_extend_loop _, loop hh D O L nx ny hn res hR n 0 _ _ _ _ [] (Nat.sub_zero _) (Nat.zero_le _) (st.keep O oth) (fun b o c0 _ _ _ _ e => oth b o c0 e) hS₃ rfl rfl ⟨List.Pairwise.nil, (fun _ ha => nomatch ha), (fun j a hj => by simp at hj)⟩⟩
theorem init {R : Result → Shared → Prop} {n : Nat} (hh : A.handled = none) (D : ZipApart z TI TO i1 i2 l1 l2) (O : Off z TI TO i1 i2 l1 l2 S) (L : Low z TO i1 i2 S) (nx : xs.size = n) (ny : ys.size = n) (hn : n ≤ sizeLine)
    (hz : IsZip s.heap z TI TO .none) (st : St z TI TO i1 i2 l1 l2 S xs ys 0 s.heap) (hS : s.heap.get? S = some { cls := .type "list", data := .seq #[] })
    (hR : ∀ h' tk acc c as, (∀ b o, b ≠ S → b ≠ z → b ≠ TO → b ≠ i1 → b ≠ i2 → s.heap.get? b = some o → h'.get? b = some o) → h'.get? S = some { cls := .type "list", dict := none, data := .seq acc c, slots := #[] } → as.length = n → Gp xs ys S h' as →
      acc.toList = as.map Value.ref → R (.ok (.ret .none)) { s with heap := h', toks := tk }) :
    wpAny (model prog w) A.in1 (Builtin.«list.__init__» ⟨[.ref S, .ref z], []⟩)
      (fun fin s' => match fin with | .done f => R (.ok f) s' | .again c' => c'.quiet = true ∧ codeAny (model prog w) A c' R s') (fun e s' => R (.error e) s') s := by
  show wpAny _ _ (do let old ← Builtin.List.listItems (.ref S); Builtin.List.listUpdate (.ref S) (fun _ => #[]); letGo old.toList.reverse; Builtin.List.listExtendWith (.ref S) (.ref z) .none) _ _ s
  refine wpAny_bind ?_
  unfold Builtin.List.listItems
  refine wpAny_bind (wpAny_seqItems hS rfl (wpAny_pure ?_))
  show wpAny _ _ (updateSeq S (fun _ => #[]) >>= fun _ => letGo (#[] : Array Value).toList.reverse >>= fun _ => Builtin.List.listExtendWith (.ref S) (.ref z) .none) _ _ s
  refine wpAny_bind (wpAny_updateSeq hS rfl ?_)
  have hS₂ := Heap.get?_update_self (Obj.mapSeq (fun _ => (#[] : Array Value))) hS rfl
  have oth : ∀ b o, b ≠ S → s.heap.get? b = some o → (s.heap.update S (Obj.mapSeq (fun _ => (#[] : Array Value)))).get? b = some o :=
    fun b o hb e => (Heap.get?_update_other _ _ (Ne.symm hb)).trans e
  refine wpAny_bind (wpAny_letGo ?_)
  refine extend hh D O L nx ny hn (oth _ _ O.z hz) (st.keep O oth) .none _ hS₂ (fun h' tk acc c as hk hS' hl hG hacc => ?_)
  exact hR h' tk acc c as (fun b o c0 c1 c2 c3 c4 e => hk b o c0 c1 c2 c3 c4 (oth b o c0 e)) hS' hl hG hacc
theorem call_ {Q : Value → Shared → Prop} {n : Nat} (hh : A.handled = none) (D : ZipApart z TI TO i1 i2 l1 l2) (O : Off z TI TO i1 i2 l1 l2 s.heap.objs.size) (L : Low z TO i1 i2 s.heap.objs.size) (nx : xs.size = n) (ny : ys.size = n) (hn : n ≤ sizeLine)
    (hz : IsZip s.heap z TI TO .none) (st : St z TI TO i1 i2 l1 l2 s.heap.objs.size xs ys 0 s.heap)
    (hQ : ∀ h' tk acc c as, (∀ b o, b ≠ z → b ≠ TO → b ≠ i1 → b ≠ i2 → s.heap.get? b = some o → h'.get? b = some o) → h'.get? s.heap.objs.size = some { cls := .type "list", dict := none, data := .seq acc c, slots := #[] } → as.length = n → Gp xs ys s.heap.objs.size h' as →
      acc.toList = as.map Value.ref → Q (.ref s.heap.objs.size) { s with heap := h', toks := tk }) :
    wpAny (model prog w) A (call (.type "list") [.ref z]) Q E s := by
  refine callType_codes (Q₁ := fun obj s₁ => obj = .ref s.heap.objs.size ∧ s₁ = { s with heap := s.heap.push { cls := .type "list", data := .seq #[] } }) PySem.F.called_list (PySem.F.typeCall_list_1 _) PySem.F.entry_list_init
    (code_list_new _ ⟨rfl, rfl⟩) fun obj s₁ h₁ => ?_
  obtain ⟨rfl, rfl⟩ := h₁
  have hS : (s.heap.push { cls := .type "list", data := .seq #[] }).get? s.heap.objs.size = some { cls := .type "list", data := .seq #[] } := Heap.get?_push_size _ rfl
  refine ⟨⟨_, hS, rfl⟩, PySem.F.args_list_init_2 _ _, init (A := A.in1) hh D O L nx ny hn (Heap.get?_push_of_some _ hz) (st.keep O fun b o _ e => Heap.get?_push_of_some _ e) hS (fun h' tk acc c as hk hS' hl hG hacc => ?_)⟩
  exact ⟨rfl, hQ h' tk acc c as (fun b o c1 c2 c3 c4 e => hk b o (Nat.ne_of_lt (Heap.lt_size e)) c1 c2 c3 c4 (Heap.get?_push_of_some _ e)) hS' hl hG hacc⟩
end
open L2
/-- the new pairs, told in the heap -/
def putZ : Hp → List Addr → List (V × V) → Hp
  | H, a :: as, p :: kvs => putZ (upd H a (.tup [p.1, p.2])) as kvs
  | H, _, _ => H
theorem putZ_off {b : Addr} : ∀ (as : List Addr) (kvs : List (V × V)) (H : Hp), b ∉ as → putZ H as kvs b = H b
  | [], _, _, _ => rfl
  | _ :: _, [], _, _ => rfl
  | a :: as, p :: kvs, H, h => by
    show putZ (upd H a (.tup [p.1, p.2])) as kvs b = H b
    rw [putZ_off as kvs _ (fun z => h (List.mem_cons_of_mem _ z)), upd_ne (fun z => h (by rw [z]; exact List.mem_cons_self))]
theorem putZ_at : ∀ (as : List Addr) (kvs : List (V × V)) (H : Hp), as.length = kvs.length → as.Nodup → Paired (fun (t : Addr) (p : V × V) => putZ H as kvs t = some (.tup [p.1, p.2])) as kvs
  | [], [], _, _, _ => .nil
  | [], _ :: _, _, h, _ => by cases h
  | _ :: _, [], _, h, _ => by cases h
  | a :: as, p :: kvs, H, h, hn => by
    have hn' := List.nodup_cons.mp hn
    have ih := putZ_at as kvs (upd H a (.tup [p.1, p.2])) (Nat.succ.inj h) hn'.2
    refine .cons ?_ ih
    show putZ (upd H a (.tup [p.1, p.2])) as kvs a = some (.tup [p.1, p.2])
    rw [putZ_off as kvs _ hn'.1, upd_same]
theorem zip_get {xs ys : List V} {i : Nat} {p : V × V} (h : (xs.zip ys)[i]? = some p) : xs[i]? = some p.1 ∧ ys[i]? = some p.2 := by
  rw [List.getElem?_zip_eq_some] at h
  exact h
theorem zip_laid {X : Cx} {pins : List (Addr × Obj)} {σ : L2.St} {H : Hp} {s : Shared} {h' : Heap} {tk : Nat} {xs ys : List V} {its its2 : List Value} {acc : Array Value} {c : Nat} {as : List Addr} {S : Addr} (I : Inv X pins σ H s) (r1 : Vals xs its) (r2 : Vals ys its2)
    (lxy : xs.length = ys.length) (hz : xs.length ≤ sizeLine) (hk : ∀ b o, s.heap.get? b = some o → h'.get? b = some o) (hS : h'.get? S = some { cls := .type "list", dict := none, data := .seq acc c, slots := #[] }) (hle : s.heap.objs.size ≤ S) (hl : as.length = xs.length)
    (hG : Gp its.toArray its2.toArray S h' as) (hacc : acc.toList = as.map Value.ref) :
    ∃ H' : Hp, (∀ b o, H b = some o → H' b = some o) ∧ H S = none ∧ (∀ t ∈ as, H t = none) ∧ S ∉ as ∧ H' S = some (.lst (as.map V.ref)) ∧ (∀ (i : Nat) (t : Addr), as[i]? = some t → ∃ x y, xs[i]? = some x ∧ ys[i]? = some y ∧ H' t = some (.tup [x, y])) ∧
      (∀ b, b ≠ S → b ∉ as → H' b = H b) ∧ Inv X pins σ H' { s with heap := h', toks := tk } := by
  have lz : (xs.zip ys).length = xs.length := by rw [List.length_zip, lxy, Nat.min_self]
  have hSn : S ∉ as := fun z => Nat.lt_irrefl _ (hG.above _ z)
  have nd : as.Nodup := List.Pairwise.imp (fun {a b} (h : a < b) => Nat.ne_of_lt h) hG.rise
  have new : ∀ t ∈ as, H t = none := fun t ht => I.hok.fresh (Nat.le_trans hle (Nat.le_of_lt (hG.above t ht)))
  have newS : H S = none := I.hok.fresh hle
  have atP := putZ_at as (xs.zip ys) (upd H S (.lst (as.map V.ref))) (by omega) nd
  have off : ∀ b, b ∉ as → b ≠ S → putZ (upd H S (.lst (as.map V.ref))) as (xs.zip ys) b = H b := fun b h1 h2 => by rw [putZ_off as _ _ h1, upd_ne h2]
  have low : ∀ b o, s.heap.get? b = some o → b ∉ as ∧ b ≠ S := fun b o e => ⟨fun z => absurd (Heap.lt_size e) (Nat.not_lt.mpr (Nat.le_trans hle (Nat.le_of_lt (hG.above b z)))), Nat.ne_of_lt (Nat.lt_of_lt_of_le (Heap.lt_size e) hle)⟩
  have kp : ∀ b u, H b = some u → (putZ (upd H S (.lst (as.map V.ref))) as (xs.zip ys)) b = some u := fun b u e => by
    rw [off b (fun z => by rw [new b z] at e; cases e) (fun z => by rw [z, newS] at e; cases e)]
    exact e
  have eS : putZ (upd H S (.lst (as.map V.ref))) as (xs.zip ys) S = some (.lst (as.map V.ref)) := by rw [putZ_off as _ _ hSn, upd_same]
  refine ⟨putZ (upd H S (.lst (as.map V.ref))) as (xs.zip ys), kp, newS, new, hSn, eS, fun i t ht => ?_, fun b h1 h2 => off b h2 h1, ?_⟩
  · obtain ⟨p, e1, e2⟩ := LiI.paired_get atP ht
    obtain ⟨e3, e4⟩ := zip_get e1
    exact ⟨_, _, e3, e4, e2⟩
  refine I.call' (ch := []) rfl ⟨fun b o q _ _ _ => hk b o q, fun b o q _ _ _ => ⟨o.slots, hk b o q⟩, fun b o q n _ => ?_, fun b o q _ => ⟨o, hk b o q⟩, fun b xs q => kp b _ q, fun b o u q => kp b _ q, fun b ps q => ⟨#[], by rw [kp b _ q]; simp⟩⟩ (fun b u q => ?_) I.bare fun b z => by simp at z
  · obtain ⟨z1, z2⟩ := low b o q
    rw [off b z1 z2]
    exact n
  · by_cases hb : b ∈ as
    · obtain ⟨j, pk, e1, e2, e3⟩ := LiI.paired_ix atP hb
      rw [e3] at q
      cases q
      obtain ⟨u1, u2, f1, f2, f3⟩ := hG.pairs j b e1
      obtain ⟨k1, k2⟩ := zip_get e2
      obtain ⟨v1, g1, rv1⟩ := r1.get k1
      obtain ⟨v2, g2, rv2⟩ := r2.get k2
      rw [List.getElem?_toArray, g1] at f1
      rw [List.getElem?_toArray, g2] at f2
      cases f1
      cases f2
      exact ⟨by show 2 ≤ sizeLine; decide, [_, _], .cons rv1 (.cons rv2 .nil), ⟨_, f3, rfl, _, rfl⟩⟩
    · by_cases hb2 : b = S
      · rw [hb2] at q ⊢
        rw [eS] at q
        cases q
        refine ⟨by rw [List.length_map]; omega, acc.toList, c, by rw [hacc]; exact LiI.vals_refs as, ?_⟩
        rw [Array.toArray_toList]
        exact hS
      · rw [off b hb hb2] at q
        exact (I.hok b u q).stay (fun d v _ y => hk d v y) (fun d y => kp d _ y) fun d xs y => kp d _ y
/-- list(zip(..)) of two lists of one length: a new list of new pairs -/
def tListZip (K : PySem.W.Frag) (ta : TA) : TE := fun σ H Q => ta σ H fun vs H1 => ∃ a b xs ys, vs = [.ref a, .ref b] ∧ SqL K H1 a xs ∧ SqL K H1 b ys ∧ xs.length = ys.length ∧
  ∀ (H' : Hp) (p : Addr) (ts : List Addr), (∀ b o, H1 b = some o → H' b = some o) → H1 p = none → (∀ t ∈ ts, H1 t = none) → p ∉ ts → H' p = some (.lst (ts.map V.ref)) → ts.length = xs.length →
    (∀ (i : Nat) (t : Addr), ts[i]? = some t → ∃ x y, xs[i]? = some x ∧ ys[i]? = some y ∧ H' t = some (.tup [x, y])) → (∀ b, b ≠ p → b ∉ ts → H' b = H1 b) → Q (.ref p) H'
theorem pe_listZip {X : Cx} {K : PySem.W.Frag} {e e2 : Expr} {ta : TA} {p p2 pos pos2 : Pos} (hc : X.calm = true) (hK : X.K = K) (hg : Gl X "list") (hm : X.mg "list" = none) (hg2 : Gl X "zip") (hm2 : X.mg "zip" = none) (ha : PA X [e, e2] ta)
    (hs : starEach [e, e2] X.env = (false, eval e X.env) :: starEach [e2] X.env := by rfl) (hpl : (backTo pos2 (starEach [e2] X.env)).any (·.1) = false := by rfl)
    (na : starEach [.Call (.Name "zip" p2) [e, e2] [] pos2] X.env = (false, eval (.Call (.Name "zip" p2) [e, e2] [] pos2) X.env) :: starEach [] X.env := by rfl) :
    PE X (.Call (.Name "list" p) [.Call (.Name "zip" p2) [e, e2] [] pos2] [] pos) (tListZip K ta) := by
  subst hK
  refine ⟨fun pins s σ H Q I h => ?_⟩
  refine Call_ (ld_blt I hg hm boot_list (PyProof.Rows.callWith_type1 (args_cons ?_ na) na))
  refine Call_ (ld_blt I hg2 hm2 PyProof.Rows.boot_zip (PyProof.Rows.callWith_type1 (thn (ha.run pos2 pins s σ H _ I h) fun us s1 ⟨vs, H1, I1, r1, q1⟩ => ?_) hs hpl))
  obtain ⟨a, b, xs, ys, ex, hqx, hqy, lxy, q⟩ := q1
  subst ex
  cases r1 with
  | cons r rr =>
    cases rr with
    | cons r' rr =>
      cases rr
      cases r
      cases r'
      obtain ⟨its, rv, p1, hz1⟩ := I1.list hqx
      obtain ⟨its2, rv2, p2', hz2⟩ := I1.list hqy
      have la : a < s1.heap.objs.size := p1.lt
      have lb : b < s1.heap.objs.size := p2'.lt
      refine call_zip_2 p1.isList p2'.isList fun h' hz hTI hTO h1 h2 hsz hk => args_nil ?_
      have l1 := rv.length
      have l2 := rv2.length
      have hS : h'.objs.size = s1.heap.objs.size + 5 := hsz
      have D : ZipApart (s1.heap.objs.size + 4) (s1.heap.objs.size + 2) (s1.heap.objs.size + 3) s1.heap.objs.size (s1.heap.objs.size + 1) a b := PySem.W.ktu_apart s1.heap.objs.size a b la lb
      have g1 := p1.isList.at (h' := h') fun o e => hk a o e
      have g2 := p2'.isList.at (h' := h') fun o e => hk b o e
      refine call_ (s := { s1 with heap := h' }) (n := xs.length) (I1.ok.hd hc) D ?_ ?_ (by rw [List.size_toArray]; omega) (by rw [List.size_toArray]; omega) (by omega) hz ⟨hTI, h1, h2, g1, g2, .inl ⟨hz, _, _, hTO⟩⟩ fun h'' tk acc c as hk2 hS2 hl hG hacc => ?_
      · show Off _ _ _ _ _ _ _ h'.objs.size
        rw [hS]
        constructor <;> first | exact Nat.ne_of_lt (Nat.lt_of_lt_of_le la (Nat.le_add_right _ _)) | exact Nat.ne_of_lt (Nat.lt_of_lt_of_le lb (Nat.le_add_right _ _)) | (show ¬ (_ : Nat) = _; omega)
      · show Low _ _ _ _ h'.objs.size
        rw [hS]
        constructor <;> (show (_ : Nat) < _; omega)
      · have keep : ∀ b o, s1.heap.get? b = some o → h''.get? b = some o := fun b o e => by
          have lt := Heap.lt_size e
          exact hk2 b o (Nat.ne_of_lt (Nat.lt_of_lt_of_le lt (Nat.le_add_right _ _))) (Nat.ne_of_lt (Nat.lt_of_lt_of_le lt (Nat.le_add_right _ _))) (Nat.ne_of_lt lt) (Nat.ne_of_lt (Nat.lt_of_lt_of_le lt (Nat.le_add_right _ _))) (hk b o e)
        obtain ⟨H', k1, k2, k3, k4, k5, k6, k7, J⟩ := zip_laid (tk := tk) I1 rv rv2 lxy (by omega) keep hS2 (by show s1.heap.objs.size ≤ h'.objs.size; omega) hl hG hacc
        exact ⟨.ref _, H', J, rfl, q H' _ as k1 k2 k3 k4 k5 hl k6 k7⟩
end Zl
set_option Elab.async false
set_option linter.all false
set_option maxRecDepth 100000
set_option maxHeartbeats 4000000
/-! BwZ: more rules: repr of data where no guard stands, a call with one keyword, the law's def at the caller. -/
namespace L2
open PySem PySem.Spec PyProof.Rows
section
variable {X : Cx} {K : PySem.W.Frag}
theorem pe_revLK {e : Expr} {te : TE} {k : Nat} {p1 p2 p3 pos : Pos} (h : X.K = K) (he : PE X e te) : PE X (.Subscript e (.Slice none none (some (.UnaryOp .USub (.Constant (.int 1) k p1) p2)) p3) pos) (tRevL K te) := h ▸ pe_revL he
theorem cr_sortedK (h : X.K = K) : CallR X (.builtin "sorted") (rSorted K) := h ▸ cr_sorted
def rRepr (K : PySem.W.Frag) : List V → Hp → VK → Prop := fun xs H Q => ∃ (p : Addr) (d : PyData), xs = [.ref p] ∧ Dp K H (.ref p) d ∧ d.showable = true ∧ d.hasDict = false ∧ d.depth ≤ 50 ∧ d.shown.length ≤ sizeLine ∧ Q (.str d.shown) H
theorem call_repr (hK : X.K = K) (hg : X.A.guards = some []) (hu : X.A.units + 64 < cLine) : CallR X (.builtin "repr") (rRepr K) := by
  subst hK
  intro pins s σ H xs us Q I r h
  obtain ⟨p, d, rfl, hd, hs, hx, h50, hz, q⟩ := h
  obtain ⟨u, rfl, ru⟩ := vals1 r
  cases ru
  obtain ⟨as, rd⟩ := Dp.reads I d _ _ hd rfl
  exact PySem.repr_of_reads' rd hs (fun e => absurd e (by rw [hx]; decide)) hg (by omega) (fun _ _ e => e) (fun h' u tk hk => ⟨.str _, H, I.kept hk, ⟨_, rfl⟩, q⟩) hz
end
end L2
namespace Bw
open PySem L2 PyProof.Rows
/-- the def x of one parameter p, called with that keyword, keeps the promise sp -/
structure KeptW (P : Program) (w : World) (K : PySem.W.Frag) (mg : Str → Option Value) (base : Heap) (k : Nat) (x p : Str) (sp : Sp) : Prop where
  ex : ∃ f fd, mg x = some (.ref f) ∧ PySem.W.keepIn K (.ref f) = true ∧ (∀ (s : Shared) (u : Value), BindsTo s fd ⟨[], [(p, u)]⟩ [(p, u)]) ∧ FnOk P w K mg base CX0 k f fd [p] sp
theorem pe_keptK {X : Cx} {k : Nat} {x q : Str} {sp : Sp} {e : Expr} {te : TE} {p pos kpos : Pos} (G : KeptW X.prog X.w X.K X.mg X.base k x q sp) (hr : Room k X.A) (hg : Gl X x) (he : PE X e te) (hdb : (x == ("__debug__" : Str)) = false := by decide)
    (hall : (backToKw pos (keywordEach [⟨some q, e, kpos⟩] X.env)).all (·.1.isSome) = true := by rfl) (hks : (backToKw pos (keywordEach [⟨some q, e, kpos⟩] X.env)).filterMap (·.1) = [q] := by rfl)
    (hpl : ((backTo pos (starEach [] X.env)).any (·.1) || (backToKw pos (keywordEach [⟨some q, e, kpos⟩] X.env)).any (·.1.isNone)) = false := by rfl) :
    PE X (.Call (.Name x p) [] [⟨some q, e, kpos⟩] pos) (tCall sp [] E0 (tCons te tNil)) := by
  obtain ⟨f, fd, hm, hk, hb, F⟩ := G
  refine ⟨fun pins s σ H Q I h => ?_⟩
  refine wpAny_Call_Name_kw (ld_glob I hg hm ?_ hdb)
  refine PySem.W.callWith_KW0 (h₀ := X.base) I.ok.mod.kin hk hall (thn ((pk_cons (nm := some q) (kpos := kpos) he pk_nil).run pos pins s σ H _ I h) fun ws s1 ⟨zs, H1, I1, rz, q2⟩ => ⟨I1.kIn, ?_⟩) hpl
  rw [hks]
  have q3 : sp (zs ++ []) H1 Q E0 := q2
  rw [List.append_nil] at q3
  have l1 : zs.length = 1 := F.len _ _ _ _ q3
  obtain ⟨z, rfl⟩ := List.length_eq_one_iff.mp l1
  obtain ⟨u, rfl, ru⟩ := vals1 rz
  refine wpAny_call (codeAny_mono (F.run X.A X.stack s1 H1 ⟨[], [(q, u)]⟩ [u] [z] Q E0 hr I1.env0 (hb s1 u) rz q3) fun r s' hq => ?_)
  cases r with
  | error e => exact (pass0 pins σ H1 s1 e s' I1 hq)
  | ok fl =>
    cases fl with
    | ret u => exact I1.after hq
    | next => exact False.elim hq
    | brk => exact False.elim hq
    | cont => exact False.elim hq
/-- a def's body at one caller -/
theorem run_at {P : Program} {w : World} {K : PySem.W.Frag} {mg : Str → Option Value} {base : Heap} {k : Nat} {x : Str} {st : Stmt} {f : Addr} {fd : FuncData} {N ps : List Str} (D : Fun K x x st f fd) (S : FnScope N ps (defScope st))
    {A : Around} {outer : List Env} {s : Shared} {H : Hp} {args : Args} {us : List Value} {vs : List V} {Q : VK} {E : XK} (hr : Room (k + 1) A) (e0 : Env0 P w K mg base A outer s H) (hb : BindsTo s fd args (ps.zip us)) (r : Vals vs us) (hl : vs.length = ps.length)
    (hbody : ∀ cdv : Value, Room k (A.deeper (envOfC x (defScope st) s.heap.objs.size f cdv)) →
      ∃ t, PSs (cxOf CX0 P w K mg base N x (defScope st) f cdv A outer s H E).nox (defBody st) t ∧ t { nx := fun _ H' => Q .non H', rt := Q } (start N vs) H) :
    codeAny (model P w) A (.call (.ref f) args) (CR CX0 outer P w H s Q E) s := by
  obtain ⟨oc, od, kV, doc, pm, an, cdv, ct, osl, rfl, lk, hcd⟩ := D.ex
  have KX : K.In s.heap := e0.mod.kin.keeps fun b o e => (e0.bs b o e).1
  have lim : s.heap.NoLimit := e0.mod.nolimit.keeps fun b o e => (e0.bs b o e).1
  have kinds : ∀ y ∈ ps.zip us, (defScope st).names.lookup y.1 = some .local ∨ ((defScope st).names.lookup y.1 = some .cell ∧ ((cellsFrom (s.heap.objs.size + 1) (defScope st).names []).lookup y.1).isSome = true) := fun ⟨n, v⟩ hy =>
    (S.par n (List.of_mem_zip hy).1).imp id fun q => ⟨q, PySem.W.cellsFrom_some _ _ _ (.inl q)⟩
  refine codeAny_call_function hr.depth (KX _ _ lk) rfl S.co S.gen rfl (PySem.W.codeRec_of KX hcd) (hb _ _ _ _ ?_)
  refine wpAny_newFunctionEnv_cells S.kind kinds fun env he s1 y => ?_
  subst he
  refine ⟨lim.keeps y.toInCall.keep, codeAny_func ?_⟩
  obtain ⟨t, ht, hq⟩ := hbody cdv (hr.deeper _)
  have I := inv_start (CX := CX0) (E := E) S hr.hd e0 hl r y
  refine wpAny_mono (ht.nox.run [] s1 (start N vs) H _ I hq) (fun fl s' hs => ?_) fun e s' hs => hs
  cases fl with
  | ret u =>
    obtain ⟨v, σ', H', J, rv, q⟩ := hs
    exact ⟨v, H', J.os, J.bare, J.base, J.hok, rv, q⟩
  | next =>
    obtain ⟨σ', H', J, q⟩ := hs
    exact ⟨.non, H', J.os, J.bare, J.base, J.hok, rfl, q⟩
  | brk =>
    obtain ⟨_, _, _, q⟩ := hs
    exact False.elim q
  | cont =>
    obtain ⟨_, _, _, q⟩ := hs
    exact False.elim q
end Bw
set_option Elab.async false
set_option linter.all false
set_option maxRecDepth 100000
set_option maxHeartbeats 4000000
set_option exponentiation.threshold 10000
/-! BwA: the fractions. -/
namespace Bw
open PySem L2
theorem pow_le_pow {a b : Nat} (h : a ≤ b) : 2 ^ a ≤ 2 ^ b := Nat.pow_le_pow_right (by decide) h
theorem lt_pow {x : Int} {a b : Nat} (h : x.natAbs < 2 ^ a) (q : a ≤ b) : x.natAbs < 2 ^ b := Nat.lt_of_lt_of_le h (pow_le_pow q)
section
variable {P : Program} {w : World} {K : PySem.W.Frag} {mg : Str → Option Value} {base : Heap} {f : Addr} {fd : FuncData}
-- greatest_divisor (statement 7)
abbrev s_greatest_divisor : Stmt := topS 7
abbrev n_greatest_divisor : List Str := ["one", "other", "first", "second", "rest"]
theorem sc_greatest_divisor : FnScope n_greatest_divisor ["one", "other"] (defScope s_greatest_divisor) := ⟨rfl, rfl, rfl, by decide +kernel, rfl, by decide +kernel, by decide +kernel⟩
-- slots: 0 one, 1 other, 2 first, 3 second, 4 rest
def spGcd : Sp := fun vs H Q _ => ∃ a b : Int, vs = [.int a, .int b] ∧ a.natAbs < 2 ^ 8000 ∧ b.natAbs < 2 ^ 8000 ∧ Q (.int (Int.gcd a b)) H
theorem abs_if {n : Int} : (if n < 0 then -n else n) = (n.natAbs : Int) := by
  split <;> omega
theorem ok_greatest_divisor (D : DefAt K mg "greatest_divisor" s_greatest_divisor ["one", "other"] f fd) (B : Blt mg) : Kept P w K mg base 1 "greatest_divisor" ["one", "other"] spGcd := by
  refine D.kept (D.F.ok sc_greatest_divisor (fun vs H Q E h => ?_) (fun cdv A outer s H vs Q E hr h => ?_))
  · obtain ⟨a, b, rfl, _⟩ := h
    rfl
  · obtain ⟨a, b, rfl, ha, hb, q⟩ := h
    refine ⟨_, (pss_cons (ps_set (i := 2) sc_greatest_divisor.nd rfl (Or.inl rfl) (pe_callB (call_abs) (by rfl) B.abs_ (by decide +kernel) (pa_cons (pv 0) pa_nil)))
        (pss_cons (ps_set (i := 3) sc_greatest_divisor.nd rfl (Or.inl rfl) (pe_callB (call_abs) (by rfl) B.abs_ (by decide +kernel) (pa_cons (pv 1) pa_nil)))
        (pss_cons (ps_while PassesOwn.never (pt_cmp (pc_gt (pv 3) pe_int))
        (pss_cons (ps_set (i := 4) sc_greatest_divisor.nd rfl (Or.inl rfl) (pe_op op_sub (pv 2) (pe_op op_mulW (pe_op op_fdivW (pv 2) (pv 3)) (pv 3))))
          (pss_cons (ps_set (i := 2) sc_greatest_divisor.nd rfl (Or.inl rfl) (pv 3))
          (pss_one (ps_set (i := 3) sc_greatest_divisor.nd rfl (Or.inl rfl) (pv 4))))))
        (pss_one (ps_ret (pv 2)))))), ?_⟩
    refine ⟨_, rfl, _, rfl, _, rfl, _, rfl, ?_⟩
    rw [abs_if, abs_if]
    refine ⟨fun m σ H' => ∃ (x y : Int) (z : Option V), m = y.toNat ∧ σ = [some (.int a), some (.int b), some (.int x), some (.int y), z] ∧ 0 ≤ x ∧ 0 ≤ y ∧ x.natAbs < 2 ^ 8000 ∧ y.natAbs < 2 ^ 8000 ∧ Int.gcd x y = Int.gcd a b ∧ H' = H,
      ⟨_, _, _, _, rfl, rfl, Int.natCast_nonneg _, Int.natCast_nonneg _, by rw [Int.natAbs_natCast]; exact ha, by rw [Int.natAbs_natCast]; exact hb, by rw [Int.gcd_natCast_natCast]; rfl, rfl⟩, ?_⟩
    rintro m σ H' ⟨x, y, z, rfl, rfl, hx, hy, sx, sy, hg, rfl⟩
    refine ⟨_, rfl, _, _, rfl, rfl, _, rfl, ite2 (fun e => ?_) (fun e => ?_)⟩
    · have y0 : 0 < y := of_decide_eq_true e
      have sq : (x / y).natAbs < 2 ^ 8000 := Nat.lt_of_le_of_lt (Int.natAbs_ediv_le_natAbs _ _) sx
      refine ⟨_, fun σ' H' h => h, ?_⟩
      refine ⟨_, rfl, _, rfl, _, rfl, _, _, rfl, rfl, wide_div y0 sy (by decide) (by decide), _, rfl, _, _, rfl, rfl, wide_mul sq sy (by decide) (by decide) (by decide), _, _, rfl, rfl, ?_⟩
      refine ⟨_, rfl, _, rfl, ?_⟩
      have er : x - x / y * y = x % y := by rw [Int.emod_def, Int.mul_comm]
      have h1 := Int.emod_nonneg x (show y ≠ 0 by omega)
      have h2 := Int.emod_lt_of_pos x y0
      refine ⟨(x - x / y * y).toNat, by rw [er]; omega, y, x - x / y * y, _, rfl, rfl, hy, by rw [er]; exact h1, sy, by rw [er]; exact Nat.lt_of_le_of_lt (by omega) sy, ?_, rfl⟩
      rw [Int.gcd_sub_mul_right_right, Int.gcd_comm]
      exact hg
    · have y0 : y = 0 := by
        have : ¬ 0 < y := fun z => e (decide_eq_true z)
        omega
      subst y0
      rw [Int.gcd_zero] at hg
      refine ⟨_, rfl, ?_⟩
      have ex : x = ((Int.gcd a b : Nat) : Int) := by omega
      rw [ex]
      exact q
-- least_multiple (statement 8)
abbrev s_least_multiple : Stmt := topS 8
abbrev n_least_multiple : List Str := ["one", "other"]
theorem sc_least_multiple : FnScope n_least_multiple ["one", "other"] (defScope s_least_multiple) := ⟨rfl, rfl, rfl, by decide +kernel, rfl, by decide +kernel, by decide +kernel⟩
-- slots: 0 one, 1 other
def spLcm : Sp := fun vs H Q _ => ∃ a b : Int, vs = [.int a, .int b] ∧ 0 < a ∧ 0 < b ∧ a.natAbs < 2 ^ 8000 ∧ b.natAbs < 2 ^ 8000 ∧ Q (.int (Bn.lcmI a b)) H
theorem ok_least_multiple (D : DefAt K mg "least_multiple" s_least_multiple ["one", "other"] f fd) (G_greatest_divisor : Kept P w K mg base 1 "greatest_divisor" ["one", "other"] spGcd) : Kept P w K mg base 2 "least_multiple" ["one", "other"] spLcm := by
  refine D.kept (D.F.ok sc_least_multiple (fun vs H Q E h => ?_) (fun cdv A outer s H vs Q E hr h => ?_))
  · obtain ⟨a, b, rfl, _⟩ := h
    rfl
  · obtain ⟨a, b, rfl, ha, hb, sa, sb, q⟩ := h
    refine ⟨_, (pss_one (ps_ret (pe_op op_mulW (pe_op op_fdivW (pv 0) (pe_kept G_greatest_divisor (hr.mono (by decide)) (by rfl) (pa_cons (pv 0) (pa_cons (pv 1) pa_nil)))) (pv 1)))), ?_⟩
    have g0 := Bn.gcd_pos_r (a := a) hb
    have gl : ((Int.gcd a b : Nat) : Int).natAbs < 2 ^ 8000 := Nat.lt_of_le_of_lt (by have := Int.gcd_le_natAbs_right a (b := b) (by omega); omega) sb
    refine ⟨_, rfl, _, rfl, _, rfl, a, b, rfl, sa, sb, _, _, rfl, rfl, wide_div g0 gl (by decide) (by decide), _, rfl, _, _, rfl, rfl, wide_mul (a := 8000) (b := 8000) (Nat.lt_of_le_of_lt (Int.natAbs_ediv_le_natAbs _ _) sa) sb (by decide) (by decide) (by decide), q⟩
-- lowest (statement 9)
abbrev s_lowest : Stmt := topS 9
abbrev n_lowest : List Str := ["above", "below", "divisor"]
theorem sc_lowest : FnScope n_lowest ["above", "below"] (defScope s_lowest) := ⟨rfl, rfl, rfl, by decide +kernel, rfl, by decide +kernel, by decide +kernel⟩
-- slots: 0 above, 1 below, 2 divisor
def spLow : Sp := fun vs H Q _ => ∃ (a b : Int) (G : Hp), Same G H ∧ vs = [.int a, .int b] ∧ 0 < b ∧ a.natAbs < 2 ^ 8000 ∧ b.natAbs < 2 ^ 8000 ∧ ∀ G' H' v, Grow No G H G' H' → Da G' (dFr (Bn.low a b)) v → Q v H'
theorem ok_lowest (D : DefAt K mg "lowest" s_lowest ["above", "below"] f fd) (G_greatest_divisor : Kept P w K mg base 1 "greatest_divisor" ["one", "other"] spGcd) : Kept P w K mg base 2 "lowest" ["above", "below"] spLow := by
  refine D.kept (D.F.ok sc_lowest (fun vs H Q E h => ?_) (fun cdv A outer s H vs Q E hr h => ?_))
  · obtain ⟨a, b, G, _, rfl, _⟩ := h
    rfl
  · obtain ⟨a, b, G, sG, rfl, hb, sa, sb, q⟩ := h
    refine ⟨_, (pss_cons (ps_set (i := 2) sc_lowest.nd rfl (Or.inl rfl) (pe_kept G_greatest_divisor (hr.mono (by decide)) (by rfl) (pa_cons (pv 0) (pa_cons (pv 1) pa_nil))))
        (pss_cons (ps_if (pt_cmp (pc_lt (pv 1) pe_int))
        (pss_one (ps_set (i := 2) sc_lowest.nd rfl (Or.inl rfl) (pe_un un_neg (pv 2))))
        pss_nil)
        (pss_one (ps_ret (pe_tup (pa_cons (pe_op op_fdivW (pv 0) (pv 2)) (pa_cons (pe_op op_fdivW (pv 1) (pv 2)) pa_nil))))))), ?_⟩
    have g0 := Bn.gcd_pos_r (a := a) hb
    have gl : ((Int.gcd a b : Nat) : Int).natAbs < 2 ^ 8000 := Nat.lt_of_le_of_lt (by have := Int.gcd_le_natAbs_right a (b := b) (by omega); omega) sb
    refine ⟨_, rfl, _, rfl, a, b, rfl, sa, sb, ?_⟩
    refine ⟨_, rfl, _, _, rfl, rfl, _, rfl, ite2 (fun e => ?_) (fun e => ?_)⟩
    · have : b < 0 := of_decide_eq_true e
      omega
    · refine ⟨_, rfl, _, rfl, _, _, rfl, rfl, wide_div g0 gl (by decide) (by decide), _, rfl, _, rfl, _, _, rfl, rfl, wide_div g0 gl (by decide) (by decide), by show 2 ≤ sizeLine; decide, fun p hp => ?_⟩
      exact q (upd G p _) _ _ ((Grow.refl sG).lay hp) (da_fr.mpr ⟨p, rfl, upd_same⟩)
end
end Bw
set_option Elab.async false
set_option linter.all false
set_option maxRecDepth 100000
set_option maxHeartbeats 4000000
set_option exponentiation.threshold 10000
/-! BwB: fractions in lists, tables. -/
namespace Bw
open PySem L2
/-- few fractions, of few bits -/
structure Okf (l : List Fr2) : Prop where
  len : l.length ≤ 6
  pos : ∀ f ∈ l, 0 < f.2
  le : ∀ f ∈ l, f.2 ≤ 2 ^ 1000
  up : ∀ f ∈ l, f.1.natAbs < 2 ^ 1000
theorem Okf.take {l : List Fr2} (h : Okf l) (i : Nat) : Okf (l.take i) :=
  ⟨by rw [List.length_take]; have := h.len; omega, fun f hf => h.pos f (List.mem_of_mem_take hf), fun f hf => h.le f (List.mem_of_mem_take hf), fun f hf => h.up f (List.mem_of_mem_take hf)⟩
theorem natAbs_lt_of {x : Int} {n : Nat} (h0 : 0 ≤ x) (h : x < 2 ^ n) : x.natAbs < 2 ^ n := by
  have e : ((2 ^ n : Nat) : Int) = 2 ^ n := by rw [Int.natCast_pow]; rfl
  omega
theorem lt_of_natAbs {x : Int} {n : Nat} (h : x.natAbs < 2 ^ n) : x < 2 ^ n := by
  have e : ((2 ^ n : Nat) : Int) = 2 ^ n := by rw [Int.natCast_pow]; rfl
  omega
theorem ipow_le {a b : Nat} (h : a ≤ b) : (2 : Int) ^ a ≤ 2 ^ b := by
  have := pow_le_pow h
  have e : ∀ n : Nat, ((2 ^ n : Nat) : Int) = 2 ^ n := fun n => by rw [Int.natCast_pow]; rfl
  rw [← e, ← e]
  omega
theorem ipow_lt {a b : Nat} (h : a < b) : (2 : Int) ^ a < 2 ^ b := by
  have := Nat.pow_lt_pow_right (a := 2) (by decide) h
  have e : ∀ n : Nat, ((2 ^ n : Nat) : Int) = 2 ^ n := fun n => by rw [Int.natCast_pow]; rfl
  rw [← e, ← e]
  omega
theorem Okf.cb {l : List Fr2} (h : Okf l) : 0 < Bn.cb l ∧ Bn.cb l < 2 ^ 6001 := by
  refine ⟨Bn.cb_pos h.pos, ?_⟩
  have q := Bn.cb_le (M := 2 ^ 1000) (l := l) (by decide) _ rfl fun f hf => ⟨h.pos f hf, h.le f hf⟩
  rw [← Int.pow_mul] at q
  have : (2 : Int) ^ (1000 * l.length) ≤ 2 ^ 6000 := ipow_le (by have := h.len; omega)
  have := ipow_lt (show 6000 < 6001 by decide)
  omega
theorem Okf.cbA {l : List Fr2} (h : Okf l) : (Bn.cb l).natAbs < 2 ^ 6001 := natAbs_lt_of (Int.le_of_lt h.cb.1) h.cb.2
section
variable {P : Program} {w : World} {K : PySem.W.Frag} {mg : Str → Option Value} {base : Heap} {f : Addr} {fd : FuncData}
/-- a fraction's two numbers -/
theorem fr_at {G H : Hp} {f : Fr2} {v : V} (s : Same G H) (h : Da G (dFr f) v) : ∃ p, v = .ref p ∧ SqT K H p [.int f.1, .int f.2] := by
  obtain ⟨p, e, hp⟩ := da_fr.mp h
  exact ⟨p, e, SqT.of (s _ _ hp)⟩
-- common_below (statement 10)
abbrev s_common_below : Stmt := topS 10
abbrev n_common_below : List Str := ["fractions", "below", "fraction"]
theorem sc_common_below : FnScope n_common_below ["fractions"] (defScope s_common_below) := ⟨rfl, rfl, rfl, by decide +kernel, rfl, by decide +kernel, by decide +kernel⟩
-- slots: 0 fractions, 1 below, 2 fraction
def spCb : Sp := fun vs H Q _ => ∃ (l : List Fr2) (G : Hp) (v : V), Same G H ∧ vs = [v] ∧ Da G (dFrL l) v ∧ Okf l ∧ Q (.int (Bn.cb l)) H
theorem ok_common_below (D : DefAt K mg "common_below" s_common_below ["fractions"] f fd) (G_least_multiple : Kept P w K mg base 2 "least_multiple" ["one", "other"] spLcm) : Kept P w K mg base 3 "common_below" ["fractions"] spCb := by
  refine D.kept (D.F.ok sc_common_below (fun vs H Q E h => ?_) (fun cdv A outer s H vs Q E hr h => ?_))
  · obtain ⟨l, G, v, _, rfl, _⟩ := h
    rfl
  · obtain ⟨l, G, v, sG, rfl, hd, hl, q⟩ := h
    obtain ⟨a, xs, rfl, ha, hx⟩ := da_lst.mp hd
    refine ⟨_, (pss_cons (ps_set (i := 1) sc_common_below.nd rfl (Or.inl rfl) pe_int)
        (pss_cons (ps_for PassesOwn.never rfl (pi_listK (K := K) rfl (pv 0)) (pg_name (i := 2) sc_common_below.nd rfl (Or.inl rfl))
        (pss_one (ps_if (pt_cmp (pc_neI (pe_ix (ix_tupK (K := K) rfl) (pv 2) pe_int (fun _ _ => rfl)) pe_int))
          (pss_one (ps_set (i := 1) sc_common_below.nd rfl (Or.inl rfl) (pe_kept G_least_multiple (hr.mono (by decide)) (by rfl) (pa_cons (pv 1) (pa_cons (pe_ix (ix_tupK (K := K) rfl) (pv 2) pe_int (fun _ _ => rfl)) pa_nil)))))
          pss_nil)))
        (pss_one (ps_ret (pv 1))))), ?_⟩
    refine ⟨_, rfl, a, rfl, ⟨_, SqL.of (sG _ _ ha)⟩, for_list (K := K) (a := a) (xs := xs) (fun i σ H' => ∃ z, σ = [some (.ref a), some (.int (Bn.cb (l.take i))), z] ∧ H' = H)
      ⟨none, rfl, rfl⟩ (fun i σ H' _ ⟨z, _, e⟩ => by rw [e]; exact SqL.of (sG _ _ ha)) ?_ ?_⟩
    · rintro i x σ H' hi ⟨z, rfl, rfl⟩
      obtain ⟨fr, e1, e2⟩ := hx.mapGet hi
      obtain ⟨p, rfl, hp⟩ := fr_at (K := K) sG e2
      have mem := List.mem_of_getElem? e1
      refine ⟨_, rfl, p, _, 1, .int fr.2, rfl, rfl, hp, rfl, _, _, rfl, rfl, _, rfl, ite2 (fun e => ?_) (fun e => ?_)⟩
      · refine ⟨_, rfl, _, rfl, p, _, 1, .int fr.2, rfl, rfl, hp, rfl, _, _, rfl, (hl.take i).cb.1, hl.pos _ mem, lt_pow (hl.take i).cbA (by decide), natAbs_lt_of (Int.le_of_lt (hl.pos _ mem)) (Int.lt_of_le_of_lt (hl.le _ mem) (ipow_lt (by decide))), ?_⟩
        refine ⟨some (.ref p), ?_, rfl⟩
        rw [Bn.cb_take e1]
        rfl
      · have e1' : fr.2 = 1 := by
          by_cases y : fr.2 = 1
          · exact y
          · refine absurd ?_ e
            show (!decide (fr.2 = 1)) = true
            rw [decide_eq_false y]
            rfl
        refine ⟨some (.ref p), ?_, rfl⟩
        rw [Bn.cb_take e1, e1', Bn.lcmI_one]
        rfl
    · rintro σ H' ⟨z, rfl, rfl⟩
      refine ⟨_, rfl, ?_⟩
      rw [List.take_of_length_le (by rw [hx.mapLen]; exact Nat.le_refl _)]
      exact q
-- numbers_of (statement 11)
abbrev s_numbers_of : Stmt := topS 11
abbrev n_numbers_of : List Str := ["fractions", "below", "fraction"]
theorem sc_numbers_of : FnScope n_numbers_of ["fractions"] (defScope s_numbers_of) := ⟨rfl, rfl, rfl, by decide +kernel, rfl, by decide +kernel, by decide +kernel⟩
-- slots: 0 fractions, 1 below*, 2 fraction
def spNums : Sp := fun vs H Q _ => ∃ (l : List Fr2) (G : Hp) (v : V), Same G H ∧ vs = [v] ∧ Da G (dFrL l) v ∧ Okf l ∧ ∀ G' H' v', Grow No G H G' H' → Da G' (dIs (Bn.nums l)) v' → Q v' H'
theorem ok_numbers_of (D : DefAt K mg "numbers_of" s_numbers_of ["fractions"] f fd) (G_common_below : Kept P w K mg base 3 "common_below" ["fractions"] spCb) : Kept P w K mg base 4 "numbers_of" ["fractions"] spNums := by
  refine D.kept (D.F.ok sc_numbers_of (fun vs H Q E h => ?_) (fun cdv A outer s H vs Q E hr h => ?_))
  · obtain ⟨l, G, v, _, rfl, _⟩ := h
    rfl
  · obtain ⟨l, G, v, sG, rfl, hd, hl, q⟩ := h
    obtain ⟨a, xs, rfl, ha, hx⟩ := da_lst.mp hd
    refine ⟨_, (pss_cons (ps_set (i := 1) sc_numbers_of.nd rfl (Or.inr rfl) (pe_kept G_common_below (hr.mono (by decide)) (by rfl) (pa_cons (pv 0) pa_nil)))
        (pss_one (ps_ret (pe_lc (own := [("fraction", 2)]) (g := gName 2) (tt := tYes) rfl sc_numbers_of.nd (pi_listK (K := K) rfl (pv 0)) (blkOk_by (own := [("fraction", 2)]) (N := n_numbers_of) (sc := defScope s_numbers_of) (by decide +kernel)) (fun _ _ _ _ _ => (pg_name (i := 2) sc_numbers_of.nd rfl (Or.inl rfl))) (fun _ _ _ _ _ => pts_nil) (fun _ _ _ _ _ => (pe_op op_mulW (pe_ix (ix_tupK (K := K) rfl) (pv 2) pe_int (fun _ _ => rfl)) (pe_op op_fdivW (pv 1) (pe_ix (ix_tupK (K := K) rfl) (pv 2) pe_int (fun _ _ => rfl))))))))), ?_⟩
    refine ⟨_, rfl, l, G, _, sG, rfl, hd, hl, ?_⟩
    refine ⟨_, rfl, a, rfl, ⟨_, SqL.of (sG _ _ ha)⟩, fun D hD => ?_⟩
    have len := hx.mapLen
    refine lc_data (walk_list (K := K) (a := a) (xs := xs)) PyData.int (fun i z => ∃ fr, l[i]? = some fr ∧ z = fr.1 * (Bn.cb l / fr.2)) (S := No) (G0 := G) (H0 := H) (G1 := G) (H1 := H) (fun _ _ => True) (Grow.refl sG) hD (Nat.le_trans (by rw [len]; exact hl.len) (by decide))
      (fun G' H' s1 gr => SqL.of (gr.sub _ _ (s1 _ _ ha))) trivial (fun _ _ _ _ _ _ => trivial) ?_ ?_
    · rintro i x G' _ H' hi s1 gr gD hD' _ ⟨rfl, hx'⟩ Post hk
      obtain ⟨fr, e1, e2⟩ := hx.mapGet hx'
      obtain ⟨p, rfl, hp⟩ := fr_at (K := K) (s1.trans gr.sub) e2
      have mem := List.mem_of_getElem? e1
      have p0 := hl.pos _ mem
      have s2 : fr.2.natAbs < 2 ^ 1001 := natAbs_lt_of (Int.le_of_lt p0) (Int.lt_of_le_of_lt (hl.le _ mem) (ipow_lt (by decide)))
      refine ⟨rfl, ?_⟩
      refine ⟨_, rfl, p, _, 0, .int fr.1, rfl, rfl, hp, rfl, _, rfl, _, rfl, p, _, 1, .int fr.2, rfl, rfl, hp, rfl, _, _, rfl, rfl, wide_div p0 s2 (by decide) (by decide), _, _, rfl, rfl,
        wide_mul (hl.up _ mem) (Nat.lt_of_le_of_lt (Int.natAbs_ediv_le_natAbs _ _) hl.cbA) (by decide) (by decide) (by decide), ?_⟩
      exact hk _ H' G' _ (Grow.refl gr.sub) rfl ⟨fr, e1, rfl⟩ (da_int.mpr rfl) trivial
    · intro G' H' l' s1 gr ll hP da _
      have e : l' = Bn.nums l := by
        refine List.ext_getElem? fun i => ?_
        unfold Bn.nums
        rw [List.getElem?_map]
        cases z : l'[i]? with
        | none =>
          have : l[i]? = none := by
            rw [List.getElem?_eq_none_iff] at z ⊢
            omega
          rw [this]
          rfl
        | some y =>
          obtain ⟨fr, e1, e2⟩ := hP i y z
          rw [e1, e2]
          rfl
      rw [e] at da
      exact q G' H' _ gr da
-- total (statement 12)
abbrev s_total : Stmt := topS 12
abbrev n_total : List Str := ["fractions", "rows"]
theorem sc_total : FnScope n_total ["fractions"] (defScope s_total) := ⟨rfl, rfl, rfl, by decide +kernel, rfl, by decide +kernel, by decide +kernel⟩
-- slots: 0 fractions, 1 rows
def spTotal : Sp := fun vs H Q _ => ∃ (l : List Fr2) (G : Hp) (v : V), Same G H ∧ vs = [v] ∧ Da G (dFrL l) v ∧ Okf l ∧ ∀ G' H' v', Grow No G H G' H' → Da G' (dFr (Bn.low (Bn.nums l).sum (Bn.cb l))) v' → Q v' H'
theorem sum_abs {b : Nat} : ∀ {l : List Int}, (∀ x ∈ l, x.natAbs < 2 ^ b) → l.sum.natAbs ≤ l.length * 2 ^ b
  | [], _ => by simp
  | y :: l, h => by
    have ih := sum_abs (l := l) fun x hx => h x (List.mem_cons_of_mem _ hx)
    have h1 := h y (List.mem_cons_self ..)
    rw [List.sum_cons, List.length_cons, Nat.add_mul]
    omega
theorem Okf.nums {l : List Fr2} (h : Okf l) : ∀ x ∈ Bn.nums l, x.natAbs < 2 ^ 7001 := fun x hx => by
  obtain ⟨f, hf, rfl⟩ := List.mem_map.mp hx
  have := wide_lt (a := 1000) (b := 6001) (h.up f hf) (Nat.lt_of_le_of_lt (Int.natAbs_ediv_le_natAbs (Bn.cb l) f.2) h.cbA)
  exact this
theorem Okf.sum {l : List Fr2} (h : Okf l) : (Bn.nums l).sum.natAbs < 2 ^ 8000 := by
  have q := sum_abs h.nums
  rw [Bn.nums_len] at q
  have l6 := h.len
  have : l.length * 2 ^ 7001 ≤ 6 * 2 ^ 7001 := Nat.mul_le_mul_right _ l6
  have : 6 * 2 ^ 7001 < 2 ^ 8000 := by decide +kernel
  omega
theorem ok_total (D : DefAt K mg "total" s_total ["fractions"] f fd) (B : Blt mg) (G_lowest : Kept P w K mg base 2 "lowest" ["above", "below"] spLow) (G_numbers_of : Kept P w K mg base 4 "numbers_of" ["fractions"] spNums) (G_common_below : Kept P w K mg base 3 "common_below" ["fractions"] spCb) :
    Kept P w K mg base 5 "total" ["fractions"] spTotal := by
  refine D.kept (D.F.ok sc_total (fun vs H Q E h => ?_) (fun cdv A outer s H vs Q E hr h => ?_))
  · obtain ⟨l, G, v, _, rfl, _⟩ := h
    rfl
  · obtain ⟨l, G, v, sG, rfl, hd, hl, q⟩ := h
    obtain ⟨a, xs, rfl, ha, hx⟩ := da_lst.mp hd
    refine ⟨_, (pss_cons (ps_set (i := 1) sc_total.nd rfl (Or.inl rfl) (pe_callTy (call_listK (K := K) rfl) (by rfl) B.list_ (by decide +kernel) (pa_cons (pv 0) pa_nil)))
        (pss_one (ps_ret (pe_kept G_lowest (hr.mono (by decide)) (by rfl) (pa_cons (pe_callB (cr_sumK (K := K) rfl rfl) (by rfl) B.sum_ (by decide +kernel) (pa_cons (pe_kept G_numbers_of (hr.mono (by decide)) (by rfl) (pa_cons (pv 1) pa_nil)) pa_nil)) (pa_cons (pe_kept G_common_below (hr.mono (by decide)) (by rfl) (pa_cons (pv 1) pa_nil)) pa_nil)))))), ?_⟩
    refine ⟨_, rfl, a, xs, rfl, .inl (SqL.of (sG _ _ ha)), fun p hp => ?_⟩
    have g1 := (Grow.refl (S := No) sG).lay (c := .lst xs) hp
    have d1 : Da (upd G p (.lst xs)) (dFrL l) (.ref p) := da_lst.mpr ⟨p, xs, rfl, upd_same, DaAll.mono g1.data _ _ hx⟩
    refine ⟨_, rfl, l, _, _, g1.sub, rfl, d1, hl, fun G2 H2 v2 g2 d2 => ?_⟩
    obtain ⟨b, rfl, hb⟩ := da_is.mp d2
    refine ⟨b, _, rfl, SqL.of (g2.sub _ _ hb), ?_⟩
    refine ⟨_, rfl, l, _, _, g2.sub, rfl, Da.mono g2.data _ _ d1, hl, ?_⟩
    refine ⟨_, _, G2, g2.sub, rfl, hl.cb.1, hl.sum, lt_pow hl.cbA (by decide), fun G3 H3 v3 g3 d3 => q _ _ _ ((g1.trans g2).trans g3) d3⟩
end
end Bw
set_option Elab.async false
set_option linter.all false
set_option maxRecDepth 100000
set_option maxHeartbeats 4000000
set_option exponentiation.threshold 10000
/-! BwC: what is a news table. -/
namespace Bw
open PySem L2
section
variable {P : Program} {w : World} {K : PySem.W.Frag} {mg : Str → Option Value} {base : Heap} {f : Addr} {fd : FuncData}
-- is_integer (statement 14)
abbrev s_is_integer : Stmt := topS 14
abbrev n_is_integer : List Str := ["thing", "low", "high"]
theorem sc_is_integer : FnScope n_is_integer ["thing", "low", "high"] (defScope s_is_integer) := ⟨rfl, rfl, rfl, by decide +kernel, rfl, by decide +kernel, by decide +kernel⟩
-- slots: 0 thing, 1 low, 2 high
def spIsInt : Sp := fun vs H Q _ => ∃ (a : Int) (lo : V), vs = [.int a, lo, .non] ∧ (lo = .non ∨ ∃ l, lo = .int l ∧ l ≤ a) ∧ Q (.bl true) H
theorem fn_is_integer (F : FunD K "is_integer" "is_integer" (defArgs s_is_integer) (defBody s_is_integer) (defScope s_is_integer) [.non, .non] [] f fd) (B : Blt mg) : FnOk P w K mg base CX0 1 f fd ["thing", "low", "high"] spIsInt := by
  refine F.ok sc_is_integer (fun vs H Q E h => ?_) (fun cdv A outer s H vs Q E hr h => ?_)
  · obtain ⟨a, lo, rfl, _⟩ := h
    rfl
  · obtain ⟨a, lo, rfl, hlo, q⟩ := h
    refine ⟨_, (pss_cons (ps_if (PW.pt (pw_or (pt_not (pt_val (pe_callB (call_isiK0 (K := K) rfl) (by rfl) B.isinstance_ (by decide +kernel) (pa_cons (pv 0) (pa_cons (pe_bltn (v := .ty "int") (u := .type "int") (by rfl) B.int_ (by decide +kernel) rfl) pa_nil))))) (pw_or1 (pt_val (pe_callB (call_isiK0 (K := K) rfl) (by rfl) B.isinstance_ (by decide +kernel) (pa_cons (pv 0) (pa_cons (pe_bltn (v := .ty "bool") (u := .type "bool") (by rfl) B.bool_ (by decide +kernel) rfl) pa_nil)))))))
        (pss_one (ps_ret pe_bl))
        pss_nil)
        (pss_one (ps_ret (pe_and (pe_or (pe_cmp (pc_isN (pv 1))) (pe_one (pe_cmp (pc_ge (pv 0) (pv 1))))) (pe_one (pe_or (pe_cmp (pc_isN (pv 2))) (pe_one (pe_cmp (pc_le (pv 0) (pv 2)))))))))), ?_⟩
    refine ⟨_, rfl, _, _, _, _, true, rfl, .ty _, .base (.int a), kit_ty (by decide +kernel), _, rfl, ?_⟩
    refine iteF ?_
    refine ⟨_, rfl, _, _, _, _, false, rfl, .ty _, .base (.int a), kit_ty (by decide +kernel), _, rfl, ?_⟩
    refine iteF ?_
    rcases hlo with rfl | ⟨l, rfl, hl⟩
    · refine ⟨_, rfl, _, rfl, iteT ?_⟩
      refine ⟨_, rfl, iteT ?_⟩
      refine ⟨_, rfl, _, rfl, iteT ?_⟩
      exact q
    · refine ⟨_, rfl, _, rfl, iteF ?_⟩
      refine ⟨_, rfl, _, rfl, _, _, rfl, rfl, ?_⟩
      refine ⟨_, rfl, ite_t (decide_eq_true hl) ?_⟩
      refine ⟨_, rfl, _, rfl, iteT ?_⟩
      exact q
/-- is_integer called with one value, with two -/
theorem ok_is_integer1 {k : Nat} (h : FnOk P w K mg base CX0 k f fd ["thing", "low", "high"] spIsInt) (F : FunD K "is_integer" "is_integer" (defArgs s_is_integer) (defBody s_is_integer) (defScope s_is_integer) [.non, .non] [] f fd) (g : mg "is_integer" = some (.ref f)) :
    KeptD P w K mg base k "is_integer" ["thing", "low", "high"] [.non, .non] spIsInt ∧ KeptD P w K mg base k "is_integer" ["thing", "low", "high"] [.non] spIsInt := by
  constructor
  · obtain ⟨ds, h1, h2⟩ := F.binds1 (ps := ["thing", "low", "high"]) 1 0 (by simp) rfl fun _ _ _ _ _ _ _ us its hu hi => match us, its, hu, hi with
      | [_], [_, _], _, _ => ⟨_, rfl, rfl⟩
    exact ⟨f, fd, ds, g, F.kp, h2, h1, h⟩
  · obtain ⟨ds, h1, h2⟩ := F.binds1 (ps := ["thing", "low", "high"]) 2 1 (by simp) rfl fun _ _ _ _ _ _ _ us its hu hi => match us, its, hu, hi with
      | [_, _], [_, _], _, _ => ⟨_, rfl, rfl⟩
    exact ⟨f, fd, ds, g, F.kp, h2, h1, h⟩
-- is_fraction (statement 15)
abbrev s_is_fraction : Stmt := topS 15
abbrev n_is_fraction : List Str := ["thing"]
theorem sc_is_fraction : FnScope n_is_fraction ["thing"] (defScope s_is_fraction) := ⟨rfl, rfl, rfl, by decide +kernel, rfl, by decide +kernel, by decide +kernel⟩
-- slots: 0 thing
def spIsFr : Sp := fun vs H Q _ => ∃ (fr : Fr2) (G : Hp) (v : V), Same G H ∧ vs = [v] ∧ Da G (dFr fr) v ∧ 0 < fr.2 ∧ Q (.bl true) H
theorem ok_is_fraction (D : DefAt K mg "is_fraction" s_is_fraction ["thing"] f fd) (B : Blt mg) (G_is_integer1 : KeptD P w K mg base 1 "is_integer" ["thing", "low", "high"] [.non, .non] spIsInt) (G_is_integer2 : KeptD P w K mg base 1 "is_integer" ["thing", "low", "high"] [.non] spIsInt) :
    Kept P w K mg base 2 "is_fraction" ["thing"] spIsFr := by
  refine D.kept (D.F.ok sc_is_fraction (fun vs H Q E h => ?_) (fun cdv A outer s H vs Q E hr h => ?_))
  · obtain ⟨l, G, v, _, rfl, _⟩ := h
    rfl
  · obtain ⟨fr, G, v, sG, rfl, hd, hl, q⟩ := h
    obtain ⟨p, rfl, hp⟩ := da_fr.mp hd
    have hT : SqT K H p [.int fr.1, .int fr.2] := SqT.of (sG _ _ hp)
    refine ⟨_, (pss_one (ps_ret (pe_and (pe_callB (call_isiK0 (K := K) rfl) (by rfl) B.isinstance_ (by decide +kernel) (pa_cons (pv 0) (pa_cons (pe_bltn (v := .ty "tuple") (u := .type "tuple") (by rfl) B.tuple_ (by decide +kernel) rfl) pa_nil))) (pe_and (pe_cmp (pc_eqI (pe_callB (call_lenK (K := K) rfl) (by rfl) B.len_ (by decide +kernel) (pa_cons (pv 0) pa_nil)) pe_int)) (pe_and (pe_keptD G_is_integer1 (hr.mono (by decide)) (by rfl) (pa_cons (pe_ix (ix_tupK (K := K) rfl) (pv 0) pe_int (fun _ _ => rfl)) pa_nil)) (pe_one (pe_keptD G_is_integer2 (hr.mono (by decide)) (by rfl) (pa_cons (pe_ix (ix_tupK (K := K) rfl) (pv 0) pe_int (fun _ _ => rfl)) (pa_cons pe_int pa_nil))))))))), ?_⟩
    refine ⟨_, rfl, _, _, _, _, true, rfl, .ty _, .base (.tup (sG _ _ hp)), kit_ty (by decide +kernel), _, rfl, ite_t rfl ?_⟩
    refine ⟨_, rfl, p, _, rfl, .inr hT, _, _, rfl, rfl, _, rfl, ite_t (decide_eq_true rfl) ?_⟩
    refine ⟨_, rfl, p, _, 0, .int fr.1, rfl, rfl, hT, rfl, fr.1, .non, rfl, .inl rfl, _, rfl, ite_t rfl ?_⟩
    exact ⟨_, rfl, p, _, 1, .int fr.2, rfl, rfl, hT, rfl, fr.2, .int 1, rfl, .inr ⟨1, rfl, hl⟩, q⟩
theorem not_in_true {b : Bool} : ∀ {l : List Bool}, (∀ (i : Nat) (x : Bool), l[i]? = some x → x = b) → inV (.bl (!b)) (l.map .bl) = false
  | [], _ => rfl
  | x :: l, h => by
    have e := h 0 x rfl
    have ih := not_in_true (b := b) (l := l) fun i y hy => h (i + 1) y hy
    subst e
    show (eqV (.bl x) (.bl (!x)) || inV (.bl (!x)) (l.map .bl)) = false
    rw [ih]
    cases x <;> rfl
theorem flat_bls : ∀ l : List Bool, (l.map V.bl).all flatV = true
  | [] => rfl
  | _ :: l => flat_bls l
-- is_fractions (statement 17)
abbrev s_is_fractions : Stmt := topS 17
abbrev n_is_fractions : List Str := ["thing", "one"]
theorem sc_is_fractions : FnScope n_is_fractions ["thing"] (defScope s_is_fractions) := ⟨rfl, rfl, rfl, by decide +kernel, rfl, by decide +kernel, by decide +kernel⟩
-- slots: 0 thing, 1 one
def spIsFrs : Sp := fun vs H Q _ => ∃ (l : List Fr2) (G : Hp) (v : V), Same G H ∧ vs = [v] ∧ Da G (dFrT l) v ∧ 0 < l.length ∧ l.length ≤ 6 ∧ (∀ fr ∈ l, 0 < fr.2) ∧ ∀ G' H', Grow No G H G' H' → Q (.bl true) H'
theorem ok_is_fractions (D : DefAt K mg "is_fractions" s_is_fractions ["thing"] f fd) (B : Blt mg) (G_is_fraction : Kept P w K mg base 2 "is_fraction" ["thing"] spIsFr) : Kept P w K mg base 3 "is_fractions" ["thing"] spIsFrs := by
  refine D.kept (D.F.ok sc_is_fractions (fun vs H Q E h => ?_) (fun cdv A outer s H vs Q E hr h => ?_))
  · obtain ⟨l, G, v, _, rfl, _⟩ := h
    rfl
  · obtain ⟨l, G, v, sG, rfl, hd, l0, l6, hl, q⟩ := h
    obtain ⟨a, xs, rfl, ha, hx⟩ := da_tup.mp hd
    have len := hx.mapLen
    have hT : SqT K H a xs := SqT.of (sG _ _ ha)
    refine ⟨_, (pss_one (ps_ret (pe_and (pe_callB (call_isiK0 (K := K) rfl) (by rfl) B.isinstance_ (by decide +kernel) (pa_cons (pv 0) (pa_cons (pe_bltn (v := .ty "tuple") (u := .type "tuple") (by rfl) B.tuple_ (by decide +kernel) rfl) pa_nil))) (pe_and (pe_cmp (pc_gt (pe_callB (call_lenK (K := K) rfl) (by rfl) B.len_ (by decide +kernel) (pa_cons (pv 0) pa_nil)) pe_int)) (pe_one (pe_cmpR (op_notInK (K := K) rfl) pe_bl (pe_lc (own := [("one", 1)]) (g := gName 1) (tt := tYes) rfl sc_is_fractions.nd (pi_tupK (K := K) rfl (pv 0)) (blkOk_by (own := [("one", 1)]) (N := n_is_fractions) (sc := defScope s_is_fractions) (by decide +kernel)) (fun _ _ _ _ _ => (pg_name (i := 1) sc_is_fractions.nd rfl (Or.inl rfl))) (fun _ _ _ _ _ => pts_nil) (fun _ _ _ _ _ => (pe_kept G_is_fraction (hr.mono (by decide)) (by rfl) (pa_cons (pv 1) pa_nil)))) (by rfl))))))), ?_⟩
    refine ⟨_, rfl, _, _, _, _, true, rfl, .ty _, .base (.tup (sG _ _ ha)), kit_ty (by decide +kernel), _, rfl, ite_t rfl ?_⟩
    refine ⟨_, rfl, a, _, rfl, .inr hT, _, _, rfl, rfl, _, rfl, ite_t (decide_eq_true (by omega)) ?_⟩
    refine ⟨_, rfl, a, rfl, ⟨_, hT⟩, fun D hD => ?_⟩
    refine lc_data (walk_tup (K := K) (a := a) (xs := xs)) PyData.bool (fun _ z => z = true) (S := No) (G0 := G) (H0 := H) (G1 := G) (H1 := H) (fun _ _ => True) (Grow.refl sG) hD (Nat.le_trans (by rw [len]; exact l6) (by decide))
      (fun G' H' s1 gr => SqT.of (gr.sub _ _ (s1 _ _ ha))) trivial (fun _ _ _ _ _ _ => trivial) ?_ ?_
    · rintro i x G' _ H' hi s1 gr gD hD' _ ⟨rfl, hx'⟩ Post hk
      obtain ⟨fr, e1, e2⟩ := hx.mapGet hx'
      refine ⟨rfl, ?_⟩
      refine ⟨_, rfl, fr, G', _, gr.sub, rfl, Da.mono s1 _ _ e2, hl _ (List.mem_of_getElem? e1), ?_⟩
      exact hk _ H' G' _ (Grow.refl gr.sub) rfl rfl (da_bl.mpr rfl) trivial
    · intro G' H' l' s1 gr ll hP da _
      obtain ⟨b, e, hb⟩ := da_bs.mp da
      cases e
      refine ⟨D, _, rfl, .inl (SqL.of (gr.sub _ _ hb)), rfl, flat_bls _, ?_⟩
      have z := not_in_true (b := true) hP
      show Q (.bl (!inV (.bl false) (l'.map V.bl))) H'
      rw [show inV (.bl false) (l'.map V.bl) = false from z]
      exact q _ _ gr
-- lowered (statement 18)
abbrev s_lowered : Stmt := topS 18
abbrev n_lowered : List Str := ["fractions", "one"]
theorem sc_lowered : FnScope n_lowered ["fractions"] (defScope s_lowered) := ⟨rfl, rfl, rfl, by decide +kernel, rfl, by decide +kernel, by decide +kernel⟩
-- slots: 0 fractions, 1 one
def spLowd : Sp := fun vs H Q _ => ∃ (l : List Fr2) (G : Hp) (v : V), Same G H ∧ vs = [v] ∧ Da G (dFrT l) v ∧ Okf l ∧ ∀ G' H' v', Grow No G H G' H' → Da G' (dFrT (l.map fun fr => Bn.low fr.1 fr.2)) v' → Q v' H'
theorem ok_lowered (D : DefAt K mg "lowered" s_lowered ["fractions"] f fd) (B : Blt mg) (G_lowest : Kept P w K mg base 2 "lowest" ["above", "below"] spLow) : Kept P w K mg base 3 "lowered" ["fractions"] spLowd := by
  refine D.kept (D.F.ok sc_lowered (fun vs H Q E h => ?_) (fun cdv A outer s H vs Q E hr h => ?_))
  · obtain ⟨l, G, v, _, rfl, _⟩ := h
    rfl
  · obtain ⟨l, G, v, sG, rfl, hd, hl, q⟩ := h
    obtain ⟨a, xs, rfl, ha, hx⟩ := da_tup.mp hd
    have len := hx.mapLen
    have hT : SqT K H a xs := SqT.of (sG _ _ ha)
    refine ⟨_, (pss_one (ps_ret (pe_callTy (call_tupleK (K := K) rfl) (by rfl) B.tuple_ (by decide +kernel) (pa_cons (pe_lc (own := [("one", 1)]) (g := gName 1) (tt := tYes) rfl sc_lowered.nd (pi_tupK (K := K) rfl (pv 0)) (blkOk_by (own := [("one", 1)]) (N := n_lowered) (sc := defScope s_lowered) (by decide +kernel)) (fun _ _ _ _ _ => (pg_name (i := 1) sc_lowered.nd rfl (Or.inl rfl))) (fun _ _ _ _ _ => pts_nil) (fun _ _ _ _ _ => (pe_kept G_lowest (hr.mono (by decide)) (by rfl) (pa_cons (pe_ix (ix_tupK (K := K) rfl) (pv 1) pe_int (fun _ _ => rfl)) (pa_cons (pe_ix (ix_tupK (K := K) rfl) (pv 1) pe_int (fun _ _ => rfl)) pa_nil))))) pa_nil)))), ?_⟩
    refine ⟨_, rfl, a, rfl, ⟨_, hT⟩, fun D hD => ?_⟩
    refine lc_data (walk_tup (K := K) (a := a) (xs := xs)) dFr (fun i z => ∃ fr, l[i]? = some fr ∧ z = Bn.low fr.1 fr.2) (S := No) (G0 := G) (H0 := H) (G1 := G) (H1 := H) (fun _ _ => True) (Grow.refl sG) hD (Nat.le_trans (by rw [len]; exact hl.len) (by decide))
      (fun G' H' s1 gr => SqT.of (gr.sub _ _ (s1 _ _ ha))) trivial (fun _ _ _ _ _ _ => trivial) ?_ ?_
    · rintro i x G' _ H' hi s1 gr gD hD' _ ⟨rfl, hx'⟩ Post hk
      obtain ⟨fr, e1, e2⟩ := hx.mapGet hx'
      obtain ⟨p, rfl, hp⟩ := fr_at (K := K) (s1.trans gr.sub) e2
      have mem := List.mem_of_getElem? e1
      refine ⟨rfl, ?_⟩
      refine ⟨_, rfl, p, _, 0, .int fr.1, rfl, rfl, hp, rfl, _, rfl, p, _, 1, .int fr.2, rfl, rfl, hp, rfl, fr.1, fr.2, G', gr.sub, rfl, hl.pos _ mem, lt_pow (hl.up _ mem) (by decide),
        natAbs_lt_of (Int.le_of_lt (hl.pos _ mem)) (Int.lt_of_le_of_lt (hl.le _ mem) (ipow_lt (by decide))), fun G2 H2 v2 g2 d2 => ?_⟩
      exact hk v2 H2 G2 _ g2.no (g2.sm.at hD') ⟨fr, e1, rfl⟩ d2 trivial
    · intro G' H' l' s1 gr ll hP da _
      obtain ⟨b, ys, e, hb, hy⟩ := da_lst.mp da
      cases e
      refine ⟨D, ys, rfl, .inl ⟨SqL.of (gr.sub _ _ hb), fun p hp => ?_⟩⟩
      have el : l' = l.map fun fr => Bn.low fr.1 fr.2 := by
        refine List.ext_getElem? fun i => ?_
        rw [List.getElem?_map]
        cases z : l'[i]? with
        | none =>
          have : l[i]? = none := by
            rw [List.getElem?_eq_none_iff] at z ⊢
            omega
          rw [this]
          rfl
        | some y =>
          obtain ⟨fr, e1, e2⟩ := hP i y z
          rw [e1, e2]
          rfl
      rw [el] at hy
      have g3 := gr.lay (c := .tup ys) hp
      exact q _ _ _ g3 (da_tup.mpr ⟨p, ys, rfl, upd_same, DaAll.mono (same_updG (gr.freeG hp)) _ _ hy⟩)
-- is_shared (statement 19)
abbrev s_is_shared : Stmt := topS 19
abbrev n_is_shared : List Str := ["fractions", "one"]
theorem sc_is_shared : FnScope n_is_shared ["fractions"] (defScope s_is_shared) := ⟨rfl, rfl, rfl, by decide +kernel, rfl, by decide +kernel, by decide +kernel⟩
-- slots: 0 fractions, 1 one
def spIsSh : Sp := fun vs H Q _ => ∃ (l : List Fr2) (G : Hp) (v : V), Same G H ∧ vs = [v] ∧ Da G (dFrT l) v ∧ Okf l ∧ (∀ fr ∈ l, 0 ≤ fr.1) ∧ Bn.low (Bn.nums l).sum (Bn.cb l) = (1, 1) ∧ ∀ G' H', Grow No G H G' H' → Q (.bl true) H'
theorem ok_is_shared (D : DefAt K mg "is_shared" s_is_shared ["fractions"] f fd) (B : Blt mg) (G_total : Kept P w K mg base 5 "total" ["fractions"] spTotal) {a_ONE : Addr} (hm_ONE : mg "ONE" = some (.ref a_ONE)) (wO : WrT K a_ONE [.int 1, .int 1]) : Kept P w K mg base 6 "is_shared" ["fractions"] spIsSh := by
  refine D.kept (D.F.ok sc_is_shared (fun vs H Q E h => ?_) (fun cdv A outer s H vs Q E hr h => ?_))
  · obtain ⟨l, G, v, _, rfl, _⟩ := h
    rfl
  · obtain ⟨l, G, v, sG, rfl, hd, hl, nn, h1, q⟩ := h
    obtain ⟨a, xs, rfl, ha, hx⟩ := da_tup.mp hd
    have len := hx.mapLen
    have hT : SqT K H a xs := SqT.of (sG _ _ ha)
    refine ⟨_, (pss_one (ps_ret (pe_and (pe_cmpR (op_notInK (K := K) rfl) pe_bl (pe_lc (own := [("one", 1)]) (g := gName 1) (tt := tYes) rfl sc_is_shared.nd (pi_tupK (K := K) rfl (pv 0)) (blkOk_by (own := [("one", 1)]) (N := n_is_shared) (sc := defScope s_is_shared) (by decide +kernel)) (fun _ _ _ _ _ => (pg_name (i := 1) sc_is_shared.nd rfl (Or.inl rfl))) (fun _ _ _ _ _ => pts_nil) (fun _ _ _ _ _ => (pe_cmp (pc_ge (pe_ix (ix_tupK (K := K) rfl) (pv 1) pe_int (fun _ _ => rfl)) pe_int)))) (by rfl)) (pe_one (pe_cmpR (op_eqDK (K := K) rfl hr.units) (pe_kept G_total (hr.mono (by decide)) (by rfl) (pa_cons (pe_callTy (call_listK (K := K) rfl) (by rfl) B.list_ (by decide +kernel) (pa_cons (pv 0) pa_nil)) pa_nil)) (pe_glob (v := .ref a_ONE) (by rfl) hm_ONE rfl) (nomark _)))))), ?_⟩
    refine ⟨_, rfl, a, rfl, ⟨_, hT⟩, fun D hD => ?_⟩
    refine lc_data (walk_tup (K := K) (a := a) (xs := xs)) PyData.bool (fun _ z => z = true) (S := No) (G0 := G) (H0 := H) (G1 := G) (H1 := H) (fun _ _ => True) (Grow.refl sG) hD (Nat.le_trans (by rw [len]; exact hl.len) (by decide))
      (fun G' H' s1 gr => SqT.of (gr.sub _ _ (s1 _ _ ha))) trivial (fun _ _ _ _ _ _ => trivial) ?_ ?_
    · rintro i x G' _ H' hi s1 gr gD hD' _ ⟨rfl, hx'⟩ Post hk
      obtain ⟨fr, e1, e2⟩ := hx.mapGet hx'
      obtain ⟨p, rfl, hp⟩ := fr_at (K := K) (s1.trans gr.sub) e2
      refine ⟨rfl, ?_⟩
      refine ⟨_, rfl, p, _, 0, .int fr.1, rfl, rfl, hp, rfl, _, _, rfl, rfl, ?_⟩
      exact hk _ H' G' _ (Grow.refl gr.sub) rfl (decide_eq_true (nn _ (List.mem_of_getElem? e1))) (da_bl.mpr rfl) trivial
    · intro G' H' l' s1 gr ll hP da _
      obtain ⟨b, e, hb⟩ := da_bs.mp da
      cases e
      refine ⟨D, _, rfl, .inl (SqL.of (gr.sub _ _ hb)), rfl, flat_bls _, _, rfl, ite_t ?_ ?_⟩
      · have z := not_in_true (b := true) hP
        show (!inV (.bl false) (l'.map V.bl)) = true
        rw [show inV (.bl false) (l'.map V.bl) = false from z]
        rfl
      · refine ⟨_, rfl, a, xs, rfl, .inr (SqT.of (gr.sub _ _ (s1 _ _ ha))), fun p hp => ?_⟩
        have g3 := gr.lay (c := .lst xs) hp
        refine ⟨l, _, _, g3.sub, rfl, da_lst.mpr ⟨p, xs, rfl, upd_same, DaAll.mono (s1.trans (same_updG (gr.freeG hp))) _ _ hx⟩, hl, fun G4 H4 v4 g4 d4 => ?_⟩
        rw [h1] at d4
        refine ⟨.tuple [.int 1, .int 1], .tuple [.int 1, .int 1], Da.dp _ _ (Da.mono g4.sub _ _ d4), .tup (wO.sq H4) (.cons (.int 1) (.cons (.int 1) .nil)), by decide +kernel, by decide +kernel, ?_⟩
        exact q _ _ (g3.trans g4)
end
end Bw
set_option Elab.async false
set_option linter.all false
set_option maxRecDepth 100000
set_option maxHeartbeats 4000000
set_option exponentiation.threshold 10000
/-! BwD: news tables, brought to lowest terms. -/
namespace Bw
open PySem L2
/-- a table t that shows the sheet s -/
structure OkT (t : List (List Fr2)) (s : List (List Int)) : Prop where
  len : t.length = s.length
  row : ∀ (i : Nat) (r : List Fr2), t[i]? = some r → ∃ l, s[i]? = some l ∧ Bn.ShR r l ∧ Okf r
theorem OkT.row' {t : List (List Fr2)} {s : List (List Int)} (h : OkT t s) {r : List Fr2} (hr : r ∈ t) : ∃ l, l ∈ s ∧ Bn.ShR r l ∧ Okf r := by
  obtain ⟨i, hi⟩ := List.getElem?_of_mem hr
  obtain ⟨l, h1, h2, h3⟩ := h.row i r hi
  exact ⟨l, List.mem_of_getElem? h1, h2, h3⟩
theorem Okf.low {r : List Fr2} (h : Okf r) : Okf (r.map fun fr => Bn.low fr.1 fr.2) := by
  refine ⟨by rw [List.length_map]; exact h.len, fun f hf => ?_, fun f hf => ?_, fun f hf => ?_⟩
  all_goals
    obtain ⟨g, hg, rfl⟩ := List.mem_map.mp hf
  · exact Bn.low_pos (h.pos g hg)
  · have h1 := h.pos g hg
    have h2 := h.le g hg
    have h3 := Bn.low_pos (a := g.1) (h.pos g hg)
    have h4 := Bn.low_abs2 (a := g.1) (b := g.2)
    omega
  · exact Nat.lt_of_le_of_lt Bn.low_abs1 (h.up g hg)
/-- a sheet of small bits: its own table is fit to be handed in -/
theorem OkT.low {t : List (List Fr2)} {s : List (List Int)} {R : Nat} {M : Int} (h : OkT t s) (S : Bn.Sht R M s) : (t.map fun r => r.map fun fr => Bn.low fr.1 fr.2) = Bn.lowT s ∧ OkT (Bn.lowT s) s := by
  have rows : ∀ (i : Nat) (r : List Fr2), t[i]? = some r → ∃ l, s[i]? = some l ∧ (r.map fun fr => Bn.low fr.1 fr.2) = Bn.lowR l ∧ Okf (Bn.lowR l) ∧ Bn.ShR (Bn.lowR l) l := fun i r hr => by
    obtain ⟨l, h1, h2, h3⟩ := h.row i r hr
    have p := S.pos l (List.mem_of_getElem? h1)
    have e := h2.low p
    exact ⟨l, h1, e, by rw [← e]; exact h3.low, Bn.lowR_shown p⟩
  have e : (t.map fun r => r.map fun fr => Bn.low fr.1 fr.2) = Bn.lowT s := by
    refine List.ext_getElem? fun i => ?_
    unfold Bn.lowT
    rw [List.getElem?_map, List.getElem?_map]
    cases q : t[i]? with
    | none =>
      have : s[i]? = none := by
        rw [List.getElem?_eq_none_iff] at q ⊢
        have := h.len
        omega
      rw [this]
      rfl
    | some r =>
      obtain ⟨l, h1, h2, _⟩ := rows i r q
      rw [h1]
      exact congrArg some h2
  refine ⟨e, by unfold Bn.lowT; rw [List.length_map], fun i r hr => ?_⟩
  rw [← e, List.getElem?_map] at hr
  cases q : t[i]? with
  | none => rw [q] at hr; cases hr
  | some r' =>
    rw [q] at hr
    obtain ⟨l, h1, h2, h3, h4⟩ := rows i r' q
    have er : (r'.map fun fr => Bn.low fr.1 fr.2) = r := Option.some.inj hr
    rw [← er, h2]
    exact ⟨l, h1, h4, h3⟩
section
variable {P : Program} {w : World} {K : PySem.W.Frag} {mg : Str → Option Value} {base : Heap} {f : Addr} {fd : FuncData}
-- news_or_none (statement 27)
abbrev s_news_or_none : Stmt := topS 27
abbrev n_news_or_none : List Str := ["thing", "row"]
theorem sc_news_or_none : FnScope n_news_or_none ["thing"] (defScope s_news_or_none) := ⟨rfl, rfl, rfl, by decide +kernel, rfl, by decide +kernel, by decide +kernel⟩
-- slots: 0 thing, 1 row
def spNews : Sp := fun vs H Q _ => ∃ (t : List (List Fr2)) (s : List (List Int)) (R : Nat) (M : Int) (G : Hp) (v : V), Same G H ∧ vs = [v] ∧ Da G (dTab t) v ∧ OkT t s ∧ Bn.Sht R M s ∧ 1 ≤ R ∧ R ≤ 6 ∧ ∀ G' H' v', Grow No G H G' H' → Da G' (dTab (Bn.lowT s)) v' → Q v' H'
theorem ok_news_or_none (D : DefAt K mg "news_or_none" s_news_or_none ["thing"] f fd) (B : Blt mg) (G_is_fractions : Kept P w K mg base 3 "is_fractions" ["thing"] spIsFrs) (G_lowered : Kept P w K mg base 3 "lowered" ["fractions"] spLowd)
    (G_is_shared : Kept P w K mg base 6 "is_shared" ["fractions"] spIsSh) : Kept P w K mg base 7 "news_or_none" ["thing"] spNews := by
  refine D.kept (D.F.ok sc_news_or_none (fun vs H Q E h => ?_) (fun cdv A outer s H vs Q E hr h => ?_))
  · obtain ⟨t, s, R, M, G, v, _, rfl, _⟩ := h
    rfl
  · obtain ⟨t, sh, R, M, G, v, sG, rfl, hd, ok, S, R1, R6, q⟩ := h
    obtain ⟨a, xs, rfl, ha, hx⟩ := da_tup.mp hd
    have len := hx.mapLen
    have lenR : t.length = R := by rw [ok.len, S.len]
    have hT : SqT K H a xs := SqT.of (sG _ _ ha)
    obtain ⟨c, c1, c3, cw⟩ := S.wid
    have rlen : ∀ r ∈ t, r.length = c := fun r hr' => by
      obtain ⟨l, hl, h2, _⟩ := ok.row' hr'
      rw [h2.len, cw l hl]
    refine ⟨_, (pss_cons (ps_if (PW.pt (pw_or (pt_not (pt_val (pe_callB (call_isiK0 (K := K) rfl) (by rfl) B.isinstance_ (by decide +kernel) (pa_cons (pv 0) (pa_cons (pe_bltn (v := .ty "tuple") (u := .type "tuple") (by rfl) B.tuple_ (by decide +kernel) rfl) pa_nil))))) (pw_or1 (pt_not (pt_chain op_le op_le pe_int (pe_callB (call_lenK (K := K) rfl) (by rfl) B.len_ (by decide +kernel) (pa_cons (pv 0) pa_nil)) pe_int)))))
        (pss_one (ps_ret pe_non))
        pss_nil)
        (pss_cons (ps_for PassesOwn.never rfl (pi_tupK (K := K) rfl (pv 0)) (pg_name (i := 1) sc_news_or_none.nd rfl (Or.inl rfl))
        (pss_one (ps_if (PW.pt (pw_or (pt_not (pt_val (pe_kept G_is_fractions (hr.mono (by decide)) (by rfl) (pa_cons (pv 1) pa_nil)))) (pw_or (pt_cmp (pc_gt (pe_callB (call_lenK (K := K) rfl) (by rfl) B.len_ (by decide +kernel) (pa_cons (pv 1) pa_nil)) pe_int)) (pw_or (pt_cmp (pc_neI (pe_callB (call_lenK (K := K) rfl) (by rfl) B.len_ (by decide +kernel) (pa_cons (pv 1) pa_nil)) (pe_callB (call_lenK (K := K) rfl) (by rfl) B.len_ (by decide +kernel) (pa_cons (pe_ix (ix_tupK (K := K) rfl) (pv 0) pe_int (fun _ _ => rfl)) pa_nil)))) (pw_or1 (pt_not (pt_val (pe_kept G_is_shared (hr.mono (by decide)) (by rfl) (pa_cons (pe_kept G_lowered (hr.mono (by decide)) (by rfl) (pa_cons (pv 1) pa_nil)) pa_nil)))))))))
          (pss_one (ps_ret pe_non))
          pss_nil)))
        (pss_one (ps_ret (pe_callTy (call_tupleK (K := K) rfl) (by rfl) B.tuple_ (by decide +kernel) (pa_cons (pe_lc (own := [("row", 1)]) (g := gName 1) (tt := tYes) rfl sc_news_or_none.nd (pi_tupK (K := K) rfl (pv 0)) (blkOk_by (own := [("row", 1)]) (N := n_news_or_none) (sc := defScope s_news_or_none) (by decide +kernel)) (fun _ _ _ _ _ => (pg_name (i := 1) sc_news_or_none.nd rfl (Or.inl rfl))) (fun _ _ _ _ _ => pts_nil) (fun _ _ _ _ _ => (pe_kept G_lowered (hr.mono (by decide)) (by rfl) (pa_cons (pv 1) pa_nil)))) pa_nil)))))), ?_⟩
    -- isinstance(thing, tuple), 1 <= len(thing) <= 6
    refine ⟨_, rfl, _, _, _, _, true, rfl, .ty _, .base (.tup (sG _ _ ha)), kit_ty (by decide +kernel), _, rfl, ?_⟩
    refine iteF ?_
    refine ⟨_, rfl, a, _, rfl, .inr hT, ?_⟩
    refine ⟨_, _, rfl, rfl, _, rfl, ite_t (decide_eq_true (by omega)) ?_⟩
    refine ⟨_, _, rfl, rfl, _, rfl, ?_⟩
    rw [show decide (((xs.length : Nat) : Int) ≤ 6) = true from decide_eq_true (by omega)]
    refine iteF ?_
    -- the loop
    refine ⟨_, rfl, a, rfl, ⟨_, hT⟩, for_tup (K := K) (a := a) (xs := xs) (fun i σ H' => ∃ z G', σ = [some (.ref a), z] ∧ Grow No G H G' H')
      ⟨none, G, rfl, Grow.refl sG⟩ (fun i σ H' _ ⟨z, G', _, gr⟩ => SqT.of (gr.sub _ _ (gr.data _ _ ha))) ?_ ?_⟩
    · rintro i x σ H' hi ⟨z, G', rfl, gr⟩
      obtain ⟨r, e1, e2⟩ := hx.mapGet hi
      have mem := List.mem_of_getElem? e1
      obtain ⟨l, hl, shr, okr⟩ := ok.row' mem
      have rl := rlen r mem
      have hp := S.pos l hl
      refine ⟨_, rfl, r, G', x, gr.sub, rfl, Da.mono gr.data _ _ e2, by omega, by omega, okr.pos, fun G2 H2 g2 => ?_⟩
      refine ⟨_, rfl, iteF ?_⟩
      have gr2 := gr.trans g2
      obtain ⟨b, ys, rfl, hb, hy⟩ := da_tup.mp (Da.mono gr2.data _ _ e2)
      have hB : SqT K H2 b ys := SqT.of (gr2.sub _ _ hb)
      have ly := hy.mapLen
      refine ⟨_, rfl, b, _, rfl, .inr hB, _, _, rfl, rfl, _, rfl, ite_f (decide_eq_false (by omega)) ?_⟩
      -- len(row) != len(thing[0])
      have t0 : ∃ r0, t[0]? = some r0 := by
        cases e : t[0]? with
        | none =>
          rw [List.getElem?_eq_none_iff] at e
          omega
        | some r0 => exact ⟨r0, rfl⟩
      obtain ⟨r0, e0⟩ := t0
      obtain ⟨x0, ex0, d0⟩ := hx.mapAt e0
      obtain ⟨b0, ys0, rfl, hb0, hy0⟩ := da_tup.mp (Da.mono gr2.data _ _ d0)
      have ly0 := hy0.mapLen
      have rl0 := rlen r0 (List.mem_of_getElem? e0)
      refine ⟨_, rfl, b, _, rfl, .inr hB, _, rfl, a, xs, 0, _, rfl, rfl, SqT.of (gr2.sub _ _ (gr2.data _ _ ha)), atI_nat (j := 0) ex0, b0, _, rfl, .inr (SqT.of (gr2.sub _ _ hb0)), _, _, rfl, rfl, _, rfl, ite_f ?_ ?_⟩
      · show (!decide (((ys.length : Nat) : Int) = ((ys0.length : Nat) : Int))) = false
        rw [decide_eq_true (by omega)]
        rfl
      -- is_shared(lowered(row))
      refine ⟨_, rfl, r, G2, _, gr2.sub, rfl, Da.mono gr2.data _ _ e2, okr, fun G3 H3 v3 g3 d3 => ?_⟩
      rw [shr.low hp] at d3
      refine ⟨Bn.lowR l, G3, v3, g3.sub, rfl, d3, by rw [← shr.low hp]; exact okr.low, fun fr hf => ?_, (Bn.lowR_shown hp).one hp, fun G4 H4 g4 => ?_⟩
      · obtain ⟨y, hy', rfl⟩ := List.mem_map.mp hf
        exact Bn.low_nn (S.nn l hl y hy')
      · refine ⟨_, rfl, ?_⟩
        refine iteF ?_
        exact ⟨_, G4, rfl, (gr2.trans g3).trans g4⟩
    · rintro σ H' ⟨z, G', rfl, gr⟩
      have hT' : SqT K H' a xs := SqT.of (gr.sub _ _ (gr.data _ _ ha))
      refine ⟨_, rfl, a, rfl, ⟨_, hT'⟩, fun D hD => ?_⟩
      refine lc_data (walk_tup (K := K) (a := a) (xs := xs)) dFrT (fun i z => ∃ r : List Fr2, t[i]? = some r ∧ z = r.map fun fr => Bn.low fr.1 fr.2) (S := No) (G0 := G) (H0 := H) (G1 := G') (H1 := H') (fun _ _ => True) gr hD (Nat.le_trans (show xs.length ≤ 6 by omega) (by decide))
        (fun G' H' s1 gr' => SqT.of (gr'.sub _ _ (gr'.data _ _ ha))) trivial (fun _ _ _ _ _ _ => trivial) ?_ ?_
      · rintro i x G2 _ H2 hi s1 gr2 gD hD' _ ⟨rfl, hx'⟩ Post hk
        obtain ⟨r, e1, e2⟩ := hx.mapGet hx'
        obtain ⟨l, hl, shr, okr⟩ := ok.row' (List.mem_of_getElem? e1)
        refine ⟨rfl, ?_⟩
        refine ⟨_, rfl, r, G2, _, gr2.sub, rfl, Da.mono gr2.data _ _ e2, okr, fun G3 H3 v3 g3 d3 => ?_⟩
        exact hk v3 H3 G3 _ g3.no (g3.sm.at hD') ⟨r, e1, rfl⟩ d3 trivial
      · intro G2 H2 l' s1 gr2 ll hP da _
        obtain ⟨b, ys, e, hb, hy⟩ := da_lst.mp da
        cases e
        refine ⟨D, ys, rfl, .inl ⟨SqL.of (gr2.sub _ _ hb), fun p hp => ?_⟩⟩
        have el : l' = t.map fun r => r.map fun fr => Bn.low fr.1 fr.2 := by
          refine List.ext_getElem? fun i => ?_
          rw [List.getElem?_map]
          cases z : l'[i]? with
          | none =>
            have : t[i]? = none := by
              rw [List.getElem?_eq_none_iff] at z ⊢
              omega
            rw [this]
            rfl
          | some y =>
            obtain ⟨fr, e1, e2⟩ := hP i y z
            rw [e1, e2]
            rfl
        rw [el, (ok.low S).1] at hy
        have g3 := gr2.lay (c := .tup ys) hp
        exact q _ _ _ g3 (da_tup.mpr ⟨p, ys, rfl, upd_same, DaAll.mono (same_updG (gr2.freeG hp)) _ _ hy⟩)
-- need_news (statement 28)
abbrev s_need_news : Stmt := topS 28
abbrev n_need_news : List Str := ["thing", "news"]
theorem sc_need_news : FnScope n_need_news ["thing"] (defScope s_need_news) := ⟨rfl, rfl, rfl, by decide +kernel, rfl, by decide +kernel, by decide +kernel⟩
-- slots: 0 thing, 1 news
theorem ok_need_news (D : DefAt K mg "need_news" s_need_news ["thing"] f fd) (G_news_or_none : Kept P w K mg base 7 "news_or_none" ["thing"] spNews) : Kept P w K mg base 8 "need_news" ["thing"] spNews := by
  refine D.kept (D.F.ok sc_need_news (fun vs H Q E h => ?_) (fun cdv A outer s H vs Q E hr h => ?_))
  · obtain ⟨t, s, R, M, G, v, _, rfl, _⟩ := h
    rfl
  · obtain ⟨t, sh, R, M, G, v, sG, rfl, hd, ok, S, R1, R6, q⟩ := h
    refine ⟨_, (pss_cons (ps_set (i := 1) sc_need_news.nd rfl (Or.inl rfl) (pe_kept G_news_or_none (hr.mono (by decide)) (by rfl) (pa_cons (pv 0) pa_nil)))
        (pss_cons (ps_if (pt_cmp (pc_isN (pv 1)))
        (pss_one ps_never)
        pss_nil)
        (pss_one (ps_ret (pv 1))))), ?_⟩
    refine ⟨_, rfl, t, sh, R, M, G, v, sG, rfl, hd, ok, S, R1, R6, fun G' H' v' g d => ?_⟩
    obtain ⟨a, xs, rfl, ha, hx⟩ := da_tup.mp d
    refine ⟨_, rfl, _, rfl, ite_f (decide_eq_false (by simp)) ?_⟩
    exact ⟨_, rfl, q _ _ _ g d⟩
-- two_news (statement 29)
abbrev s_two_news : Stmt := topS 29
abbrev n_two_news : List Str := ["news", "other", "one", "twin"]
theorem sc_two_news : FnScope n_two_news ["news", "other"] (defScope s_two_news) := ⟨rfl, rfl, rfl, by decide +kernel, rfl, by decide +kernel, by decide +kernel⟩
-- slots: 0 news, 1 other, 2 one, 3 twin
def spTwo : Sp := fun vs H Q _ => ∃ (t t2 : List (List Fr2)) (s s2 : List (List Int)) (R : Nat) (M : Int) (G : Hp) (v v2 : V), Same G H ∧ vs = [v, v2] ∧ Da G (dTab t) v ∧ Da G (dTab t2) v2 ∧ OkT t s ∧ OkT t2 s2 ∧ Bn.Sht R M s ∧ Bn.Sht R M s2 ∧ 1 ≤ R ∧ R ≤ 6 ∧
  ∀ G' H' p x x2, Grow No G H G' H' → G' p = some (.tup [x, x2]) → Da G' (dTab (Bn.lowT s)) x → Da G' (dTab (Bn.lowT s2)) x2 → Q (.ref p) H'
theorem ok_two_news (D : DefAt K mg "two_news" s_two_news ["news", "other"] f fd) (B : Blt mg) (G_need_news : Kept P w K mg base 8 "need_news" ["thing"] spNews) : Kept P w K mg base 9 "two_news" ["news", "other"] spTwo := by
  refine D.kept (D.F.ok sc_two_news (fun vs H Q E h => ?_) (fun cdv A outer s H vs Q E hr h => ?_))
  · obtain ⟨t, t2, s, s2, R, M, G, v, v2, _, rfl, _⟩ := h
    rfl
  · obtain ⟨t, t2, sh, sh2, R, M, G, v, v2, sG, rfl, hd, hd2, ok, ok2, S, S2, R1, R6, q⟩ := h
    refine ⟨_, (pss_cons (ps_par (i := 2) (j := 3) rfl sc_two_news.nd rfl rfl (by decide) rfl rfl (pa_cons (pe_kept G_need_news (hr.mono (by decide)) (by rfl) (pa_cons (pv 0) pa_nil)) (pa_cons (pe_kept G_need_news (hr.mono (by decide)) (by rfl) (pa_cons (pv 1) pa_nil)) pa_nil)) (by rfl))
        (pss_cons (ps_if (pt_cmp (pc_neI (pe_callB (call_lenK (K := K) rfl) (by rfl) B.len_ (by decide +kernel) (pa_cons (pv 2) pa_nil)) (pe_callB (call_lenK (K := K) rfl) (by rfl) B.len_ (by decide +kernel) (pa_cons (pv 3) pa_nil))))
        (pss_one ps_never)
        pss_nil)
        (pss_one (ps_ret (pe_tup (pa_cons (pv 2) (pa_cons (pv 3) pa_nil))))))), ?_⟩
    refine ⟨_, rfl, t, sh, R, M, G, v, sG, rfl, hd, ok, S, R1, R6, fun G' H' v' g d => ?_⟩
    refine ⟨_, rfl, t2, sh2, R, M, G', v2, g.sub, rfl, Da.mono g.data _ _ hd2, ok2, S2, R1, R6, fun G2 H2 v2' g2 d2 => ?_⟩
    refine ⟨_, _, rfl, ?_⟩
    have d' := Da.mono g2.data _ _ d
    obtain ⟨a, xs, rfl, ha, hx⟩ := da_tup.mp d'
    obtain ⟨b, ys, rfl, hb, hy⟩ := da_tup.mp d2
    have l1 := hx.mapLen
    have l2 := hy.mapLen
    have e1 : (Bn.lowT sh).length = R := by unfold Bn.lowT; rw [List.length_map, S.len]
    have e2 : (Bn.lowT sh2).length = R := by unfold Bn.lowT; rw [List.length_map, S2.len]
    refine ⟨_, rfl, a, _, rfl, .inr (SqT.of (g2.sub _ _ ha)), _, rfl, b, _, rfl, .inr (SqT.of (g2.sub _ _ hb)), _, _, rfl, rfl, _, rfl, ite_f ?_ ?_⟩
    · show (!decide (((xs.length : Nat) : Int) = ((ys.length : Nat) : Int))) = false
      rw [decide_eq_true (by omega)]
      rfl
    · refine ⟨_, rfl, _, rfl, by show 2 ≤ sizeLine; decide, fun p hp => ?_⟩
      have gg := g.trans g2
      have g3 := gg.lay (c := .tup [.ref a, .ref b]) hp
      exact q _ _ _ _ _ g3 upd_same (Da.mono (same_updG (gg.freeG hp)) _ _ d') (Da.mono (same_updG (gg.freeG hp)) _ _ d2)
end
end Bw
set_option Elab.async false
set_option linter.all false
set_option maxRecDepth 100000
set_option maxHeartbeats 4000000
set_option exponentiation.threshold 10000
/-! BwE: the parts of the simplex. -/
namespace Bw
open PySem L2
/-! ### lists by their places -/
abbrev tab {al : Type} (n : Nat) (f : Nat → al) : List al := (List.range n).map f
section
variable {al be : Type} {n m : Nat} {f g : Nat → al}
theorem tab_len : (tab n f).length = n := by rw [List.length_map, List.length_range]
theorem tab_get {i : Nat} (h : i < n) : (tab n f)[i]? = some (f i) := by
  rw [List.getElem?_map, List.getElem?_range h]
  rfl
theorem tab_get' {i : Nat} {x : al} (h : (tab n f)[i]? = some x) : i < n ∧ x = f i := by
  have hi : i < n := by
    have := (List.getElem?_eq_some_iff.mp h).1
    rw [tab_len] at this
    exact this
  rw [tab_get hi] at h
  exact ⟨hi, (Option.some.inj h).symm⟩
theorem tab_ext {l : List al} (hl : l.length = n) (h : ∀ i, i < n → l[i]? = some (f i)) : l = tab n f := by
  refine List.ext_getElem? fun i => ?_
  by_cases q : i < n
  · rw [h i q, tab_get q]
  · rw [List.getElem?_eq_none (by omega), List.getElem?_eq_none (by rw [tab_len]; omega)]
theorem tab_congr (h : ∀ i, i < n → f i = g i) : tab n f = tab n g := tab_ext tab_len fun i hi => by rw [tab_get hi, h i hi]
theorem tab_append : tab n f ++ tab m g = tab (n + m) (fun i => if i < n then f i else g (i - n)) := by
  refine tab_ext (by rw [List.length_append, tab_len, tab_len]) fun i hi => ?_
  by_cases q : i < n
  · rw [List.getElem?_append_left (by rw [tab_len]; exact q), tab_get q, if_pos q]
  · rw [List.getElem?_append_right (by rw [tab_len]; omega), tab_len, tab_get (by omega), if_neg q]
theorem tab_one {x : al} : [x] = tab 1 (fun _ => x) := rfl
theorem tab_succ : tab (n + 1) f = tab n f ++ [f n] := by
  show (List.range (n + 1)).map f = _
  rw [List.range_succ, List.map_append]
  rfl
theorem tab_mem {x : al} (h : x ∈ tab n f) : ∃ i, i < n ∧ x = f i := by
  obtain ⟨i, hi, e⟩ := List.mem_map.mp h
  exact ⟨i, List.mem_range.mp hi, e.symm⟩
theorem tab_rep {x : al} : List.replicate n x = tab n (fun _ => x) := tab_ext List.length_replicate fun i hi => by
  rw [List.getElem?_replicate, if_pos hi]
theorem rep_one {x : al} : ∀ k : Nat, (List.replicate k [x]).flatten = List.replicate k x
  | 0 => rfl
  | k + 1 => by
    rw [List.replicate_succ, List.flatten_cons, rep_one k, List.replicate_succ]
    rfl
theorem tab_set {i : Nat} {x : al} (hi : i < n) : (tab n f).set i x = tab n (fun j => if j = i then x else f j) := by
  refine tab_ext (by rw [List.length_set, tab_len]) fun j hj => ?_
  by_cases q : j = i
  · subst q
    rw [List.getElem?_set_self (by rw [tab_len]; exact hi), if_pos rfl]
  · rw [List.getElem?_set_ne (Ne.symm q), tab_get hj, if_neg q]
theorem sum_append (l l' : List Int) : (l ++ l').sum = l.sum + l'.sum := by
  induction l with
  | nil => simp
  | cons x l ih => rw [List.cons_append, List.sum_cons, List.sum_cons, ih]; omega
theorem tab_sum {f : Nat → Int} : ∀ {n : Nat}, (tab n f).sum = Bn.sm n f
  | 0 => rfl
  | n + 1 => by
    rw [tab_succ, sum_append, tab_sum]
    show _ + (f n + 0) = _ + f n
    omega
end
/-- a list of ints by places, as values -/
abbrev tabI (n : Nat) (f : Nat → Int) : List V := (tab n f).map V.int
section
variable {n m : Nat} {f : Nat → Int}
theorem tabI_len : (tabI n f).length = n := by rw [List.length_map, tab_len]
theorem tabI_get {i : Nat} (h : i < n) : (tabI n f)[i]? = some (.int (f i)) := by
  rw [List.getElem?_map, tab_get h]
  rfl
theorem tabI_at {i : Nat} (h : i < n) : atI (tabI n f) ((i : Nat) : Int) = some (.int (f i)) := atI_nat (tabI_get h)
theorem tabI_last (h : n = m + 1) : atI (tabI n f) (-1) = some (.int (f m)) := by
  subst h
  unfold tabI
  rw [tab_succ, List.map_append]
  exact atI_last _ _
theorem tabI_get' {i : Nat} {x : V} (h : (tabI n f)[i]? = some x) : i < n ∧ x = .int (f i) := by
  rw [List.getElem?_map] at h
  cases e : (tab n f)[i]? with
  | none => rw [e] at h; cases h
  | some y =>
    rw [e] at h
    obtain ⟨h1, h2⟩ := tab_get' e
    cases h
    rw [h2]
    exact ⟨h1, rfl⟩
end
theorem da_tabI {H : Hp} {n : Nat} {f : Nat → Int} {v : V} (h : Da H (dIs (tab n f)) v) : ∃ a, v = .ref a ∧ H a = some (.lst (tabI n f)) := da_is.mp h
/-- a list of lists of ints by places -/
abbrev dMat (n w : Nat) (L : Nat → Nat → Int) : PyData := dIss (tab n fun i => tab w (L i))
theorem mat_at {H : Hp} {n w : Nat} {L : Nat → Nat → Int} {xs : List V} (h : DaAll H ((tab n fun i => tab w (L i)).map dIs) xs) {i : Nat} (hi : i < n) : ∃ a, xs[i]? = some (.ref a) ∧ H a = some (.lst (tabI w (L i))) := by
  obtain ⟨x, h1, h2⟩ := h.mapAt (tab_get hi)
  obtain ⟨a, rfl, ha⟩ := da_tabI h2
  exact ⟨a, h1, ha⟩
theorem Grow.more {S : Addr → Prop} {G H G1 H1 H2 : Hp} (a : Grow S G H G1 H1) (s : Same H1 H2) : Grow S G H G1 H2 :=
  ⟨fun b o hs h => s _ _ (a.keep b o hs h), fun b h => by
    cases e : H1 b with
    | none => exact absurd e (a.stay b h)
    | some o => rw [s b o e]; simp, a.data, a.sub.trans s, a.new⟩
/-- what first_below says of a goal -/
def PlOk (mm : Nat) (g : Nat → Int) (v : V) : Prop := (v = .non ∧ ∀ j, j < mm → 0 ≤ g j) ∨ ∃ q : Nat, v = .int q ∧ q < mm ∧ g q < 0 ∧ ∀ j, j < q → 0 ≤ g j
section
variable {P : Program} {w : World} {K : PySem.W.Frag} {mg : Str → Option Value} {base : Heap} {f : Addr} {fd : FuncData}
-- first_below (statement 21)
abbrev s_first_below : Stmt := topS 21
abbrev n_first_below : List Str := ["goal", "many", "place"]
theorem sc_first_below : FnScope n_first_below ["goal", "many"] (defScope s_first_below) := ⟨rfl, rfl, rfl, by decide +kernel, rfl, by decide +kernel, by decide +kernel⟩
-- slots: 0 goal, 1 many, 2 place
def spFirst : Sp := fun vs H Q _ => ∃ (n m : Nat) (g : Nat → Int) (G : Hp) (v : V), Same G H ∧ vs = [v, .int m] ∧ Da G (dIs (tab n g)) v ∧ m ≤ n ∧ n ≤ 10000 ∧
  ∀ pv, PlOk m g pv → Q pv H
theorem ok_first_below (D : DefAt K mg "first_below" s_first_below ["goal", "many"] f fd) (B : Blt mg) : Kept P w K mg base 1 "first_below" ["goal", "many"] spFirst := by
  refine D.kept (D.F.ok sc_first_below (fun vs H Q E h => ?_) (fun cdv A outer s H vs Q E hr h => ?_))
  · obtain ⟨n, m, g, G, v, _, rfl, _⟩ := h
    rfl
  · obtain ⟨n, m, g, G, v, sG, rfl, hd, hm, hn, q1⟩ := h
    obtain ⟨a, rfl, ha⟩ := da_tabI hd
    refine ⟨_, (pss_cons (ps_for PassesOwn.never rfl (pi_range1 (by rfl) B.range_ (pa_cons (pv 1) pa_nil)) (pg_name (i := 2) sc_first_below.nd rfl (Or.inl rfl))
        (pss_one (ps_if (pt_cmp (pc_lt (pe_ix (ix_listK (K := K) rfl) (pv 0) (pv 2) (fun _ _ => rfl)) pe_int))
          (pss_one (ps_ret (pv 2)))
          pss_nil)))
        (pss_one (ps_ret pe_non))), ?_⟩
    refine ⟨_, rfl, _, rfl, by omega, by omega, for_range (lo := 0) (n := ((m : Nat) : Int).toNat) (fun i σ H' => ∃ z, σ = [some (.ref a), some (.int m), z] ∧ H' = H ∧ ∀ j, j < i → 0 ≤ g j)
      ⟨none, rfl, rfl, fun j hj => by omega⟩ ?_ ?_⟩
    · rintro i σ H' hi ⟨z, rfl, rfl, hz⟩
      have him : i < m := by omega
      refine ⟨_, rfl, _, rfl, a, _, _, _, rfl, rfl, SqL.of (sG _ _ ha), at_of (Int.zero_add _) (tabI_get (f := g) (by omega)), _, _, rfl, rfl, _, rfl, ite_b (fun e => ?_) fun e => ?_⟩
      · refine ⟨_, rfl, ?_⟩
        have e' := of_decide_eq_true e
        have := q1 (.int i) (.inr ⟨i, rfl, him, e', hz⟩)
        rw [Int.zero_add]
        exact this
      · have e' := of_decide_eq_false e
        refine ⟨some (.int (0 + (i : Nat))), rfl, rfl, fun j hj => ?_⟩
        by_cases y : j = i
        · subst y
          omega
        · exact hz j (by omega)
    · rintro σ H' ⟨z, rfl, rfl, hz⟩
      exact q1 .non (.inl ⟨rfl, fun j hj => hz j (by omega)⟩)
-- leaving (statement 22)
abbrev s_leaving : Stmt := topS 22
abbrev n_leaving : List Str := ["lines", "basis", "place", "best", "number", "line", "here", "there"]
theorem sc_leaving : FnScope n_leaving ["lines", "basis", "place"] (defScope s_leaving) := ⟨rfl, rfl, rfl, by decide +kernel, rfl, by decide +kernel, by decide +kernel⟩
-- slots: 0 lines, 1 basis, 2 place, 3 best, 4 number, 5 line, 6 here, 7 there
def spLeav : Sp := fun vs H Q _ => ∃ (n W q : Nat) (T : Bn.Tb) (G : Hp) (v v2 : V), Same G H ∧ vs = [v, v2, .int q] ∧ Da G (dMat n (W + 1) T.L) v ∧ Da G (dIs (tab n fun i => (T.B i : Int))) v2 ∧ q < W ∧ n ≤ 10000 ∧ (∀ i j, i < n → j ≤ W → (T.L i j).natAbs < 2 ^ 4000) ∧ (∃ i, i < n ∧ 0 < T.L i q) ∧
  ∀ (p : Nat) (H' : Hp), Same H H' → Bn.Best T W q n p → Q (.int p) H'
theorem ok_leaving (D : DefAt K mg "leaving" s_leaving ["lines", "basis", "place"] f fd) (B : Blt mg) : Kept P w K mg base 1 "leaving" ["lines", "basis", "place"] spLeav := by
  refine D.kept (D.F.ok sc_leaving (fun vs H Q E h => ?_) (fun cdv A outer s H vs Q E hr h => ?_))
  · obtain ⟨n, W, q, T, G, v, v2, _, rfl, _⟩ := h
    rfl
  · obtain ⟨n, W, q, T, G, v, v2, sG, rfl, hd, hd2, hq, hn, hb, hex, k⟩ := h
    obtain ⟨a, xs, rfl, ha, hx⟩ := da_lst.mp hd
    obtain ⟨b, rfl, hB⟩ := da_tabI hd2
    have len : xs.length = n := by rw [hx.mapLen, tab_len]
    refine ⟨_, (pss_cons (ps_set (i := 3) sc_leaving.nd rfl (Or.inl rfl) pe_non)
        (pss_cons (ps_for PassesOwn.never rfl (pi_enum (by rfl) B.enumerate_ (pa_cons (pv 0) pa_nil)) (pg_tupK (K := K) rfl rfl (pgs_cons (pg_name (i := 4) sc_leaving.nd rfl (Or.inl rfl)) (pgs_cons (pg_name (i := 5) sc_leaving.nd rfl (Or.inl rfl)) pgs_nil)))
        (pss_one (ps_if (pt_cmp (pc_gt (pe_ix (ix_listK (K := K) rfl) (pv 5) (pv 2) (fun _ _ => rfl)) pe_int))
          (pss_one (ps_if (pt_cmp (pc_isN (pv 3)))
            (pss_one (ps_set (i := 3) sc_leaving.nd rfl (Or.inl rfl) (pv 4)))
            (pss_cons (ps_par (i := 6) (j := 7) rfl sc_leaving.nd rfl rfl (by decide) rfl rfl (pa_cons (pe_op op_mulW (pe_ix (ix_listK (K := K) rfl) (pv 5) (pe_un un_neg pe_int) (fun _ _ => rfl)) (pe_ix (ix_listK (K := K) rfl) (pe_ix (ix_listK (K := K) rfl) (pv 0) (pv 3) (fun _ _ => rfl)) (pv 2) (fun _ _ => rfl))) (pa_cons (pe_op op_mulW (pe_ix (ix_listK (K := K) rfl) (pe_ix (ix_listK (K := K) rfl) (pv 0) (pv 3) (fun _ _ => rfl)) (pe_un un_neg pe_int) (fun _ _ => rfl)) (pe_ix (ix_listK (K := K) rfl) (pv 5) (pv 2) (fun _ _ => rfl))) pa_nil)) (by rfl))
              (pss_one (ps_if (PW.pt (pw_or (pt_cmp (pc_lt (pv 6) (pv 7))) (pw_or1 (PW.pt (pw_and (pt_cmp (pc_eqI (pv 6) (pv 7))) (pw_and1 (pt_cmp (pc_lt (pe_ix (ix_listK (K := K) rfl) (pv 1) (pv 4) (fun _ _ => rfl)) (pe_ix (ix_listK (K := K) rfl) (pv 1) (pv 3) (fun _ _ => rfl))))))))))
              (pss_one (ps_set (i := 3) sc_leaving.nd rfl (Or.inl rfl) (pv 4)))
              pss_nil)))))
          pss_nil)))
        (pss_one (ps_ret (pv 3))))), ?_⟩
    refine ⟨_, rfl, a, xs, rfl, SqL.of (sG _ _ ha), ?_⟩
    refine for_it (walk_enum (K := K) (a := a) (xs := xs)) (fun i σ H' => ∃ bv z1 z2 z3 z4, σ = [some (.ref a), some (.ref b), some (.int q), some bv, z1, z2, z3, z4] ∧ Same H H' ∧
        ((bv = .non ∧ ∀ j, j < i → ¬ 0 < T.L j q) ∨ ∃ p : Nat, bv = .int p ∧ Bn.Best T W q i p))
      ⟨.non, none, none, none, none, rfl, .refl _, .inl ⟨rfl, fun j hj => by omega⟩⟩ (fun i σ H' _ ⟨_, _, _, _, _, _, s1, _⟩ => SqL.of (s1 _ _ (sG _ _ ha))) ?_ ?_
    · rintro i x σ H1 H2 hi ⟨bv, z1, z2, z3, z4, rfl, s1, hbest⟩ ⟨t, x1, x2, rfl, nt, rfl, e1, e2⟩
      cases e1
      have hin : i < n := by omega
      obtain ⟨c, ec, hc⟩ := mat_at hx hin
      obtain rfl : x2 = .ref c := Option.some.inj (e2.symm.trans ec)
      have s2 : Same H (upd H1 t (.tup [.int (i : Nat), .ref c])) := s1.trans (same_updG nt)
      have sG2 := sG.trans s2
      have hT : SqT K (upd H1 t (.tup [.int (i : Nat), .ref c])) t [.int (i : Nat), .ref c] := SqT.of upd_same
      generalize upd H1 t (.tup [.int (i : Nat), .ref c]) = H2 at s2 sG2 hT ⊢
      have hC : SqL K H2 c (tabI (W + 1) (T.L i)) := SqL.of (sG2 _ _ hc)
      have hA : SqL K H2 a xs := SqL.of (sG2 _ _ ha)
      have hBb : SqL K H2 b (tabI n fun i => (T.B i : Int)) := SqL.of (sG2 _ _ hB)
      refine ⟨t, _, rfl, hT, rfl, _, _, rfl, _, _, rfl, rfl, ?_⟩
      refine ⟨_, rfl, _, rfl, c, _, q, .int (T.L i q), rfl, rfl, hC, tabI_at (by omega), _, _, rfl, rfl, _, rfl, ite_b (fun e => ?_) fun e => ?_⟩
      · have lpos : 0 < T.L i q := of_decide_eq_true e
        rcases hbest with ⟨rfl, no⟩ | ⟨p, rfl, hp⟩
        · refine ⟨_, rfl, _, rfl, ite_t rfl ?_⟩
          exact ⟨_, rfl, _, _, _, _, _, rfl, s2, .inr ⟨i, rfl, .first no lpos⟩⟩
        · refine ⟨_, rfl, _, rfl, ite_f rfl ?_⟩
          have hpn : p < n := by have := hp.lt; omega
          obtain ⟨cp, ecp, hcp⟩ := mat_at hx hpn
          have hCp : SqL K H2 cp (tabI (W + 1) (T.L p)) := SqL.of (sG2 _ _ hcp)
          refine ⟨_, rfl, 1, rfl, c, _, -1, .int (T.L i W), rfl, rfl, hC, tabI_last rfl, _, rfl, _, rfl, a, xs, p, .ref cp, rfl, rfl, hA, atI_nat ecp, _, rfl, cp, _, q, .int (T.L p q), rfl, rfl, hCp, tabI_at (by omega), _, _, rfl, rfl,
            wide_mul (hb i W hin (Nat.le_refl _)) (hb p q hpn (by omega)) (by decide) (by decide) (by decide), ?_⟩
          refine ⟨_, rfl, _, rfl, a, xs, p, .ref cp, rfl, rfl, hA, atI_nat ecp, 1, rfl, cp, _, -1, .int (T.L p W), rfl, rfl, hCp, tabI_last rfl, _, rfl, _, rfl, c, _, q, .int (T.L i q), rfl, rfl, hC, tabI_at (by omega), _, _, rfl, rfl,
            wide_mul (hb p W hpn (Nat.le_refl _)) (hb i q hin (by omega)) (by decide) (by decide) (by decide), _, _, rfl, ?_⟩
          have yes : Bn.Lat T W q i p → ∃ bv z1 z2 z3 z4, ([some (.ref a), some (.ref b), some (.int q), some (.int i), some (.int (i : Nat)), some (.ref c), some (.int (T.L i W * T.L p q)), some (.int (T.L p W * T.L i q))] : L2.St) = [some (.ref a), some (.ref b), some (.int q), some bv, z1, z2, z3, z4] ∧ Same H H2 ∧
              ((bv = .non ∧ ∀ j, j < i + 1 → ¬ 0 < T.L j q) ∨ ∃ p : Nat, bv = .int p ∧ Bn.Best T W q (i + 1) p) := fun z => ⟨_, _, _, _, _, rfl, s2, .inr ⟨i, rfl, hp.next lpos z⟩⟩
          have no : Bn.Lat T W q p i → ∃ bv z1 z2 z3 z4, ([some (.ref a), some (.ref b), some (.int q), some (.int p), some (.int (i : Nat)), some (.ref c), some (.int (T.L i W * T.L p q)), some (.int (T.L p W * T.L i q))] : L2.St) = [some (.ref a), some (.ref b), some (.int q), some bv, z1, z2, z3, z4] ∧ Same H H2 ∧
              ((bv = .non ∧ ∀ j, j < i + 1 → ¬ 0 < T.L j q) ∨ ∃ p : Nat, bv = .int p ∧ Bn.Best T W q (i + 1) p) := fun z => ⟨_, _, _, _, _, rfl, s2, .inr ⟨p, rfl, hp.stay z⟩⟩
          refine ⟨_, rfl, _, rfl, _, _, rfl, rfl, _, rfl, ite_b (fun e1 => ?_) fun e1 => ?_⟩
          · have e1' := of_decide_eq_true e1
            refine iteT ?_
            exact ⟨_, rfl, yes (.inl e1')⟩
          · have e1' := of_decide_eq_false e1
            refine ⟨_, rfl, _, rfl, _, _, rfl, rfl, _, rfl, ite_b (fun e2 => ?_) fun e2 => ?_⟩
            · have e2' := of_decide_eq_true e2
              refine ⟨_, rfl, _, rfl, b, _, i, _, rfl, rfl, hBb, tabI_at hin, _, rfl, _, rfl, b, _, p, _, rfl, rfl, hBb, tabI_at hpn, _, _, rfl, rfl, _, rfl, ite_b (fun e3 => ?_) fun e3 => ?_⟩
              · have e3' := of_decide_eq_true e3
                exact ⟨_, rfl, yes (.inr ⟨e2', by omega⟩)⟩
              · have e3' := of_decide_eq_false e3
                exact no (.inr ⟨e2'.symm, by omega⟩)
            · have e2' := of_decide_eq_false e2
              refine iteF ?_
              exact no (.inl (by omega))
      · have lneg : ¬ 0 < T.L i q := of_decide_eq_false e
        refine ⟨_, _, _, _, _, rfl, s2, ?_⟩
        rcases hbest with ⟨rfl, no⟩ | ⟨p, rfl, hp⟩
        · refine .inl ⟨rfl, fun j hj => ?_⟩
          by_cases y : j = i
          · subst y
            exact lneg
          · exact no j (by omega)
        · exact .inr ⟨p, rfl, hp.keep lneg⟩
    · rintro σ H' ⟨bv, z1, z2, z3, z4, rfl, s1, hbest⟩
      rcases hbest with ⟨rfl, no⟩ | ⟨p, rfl, hp⟩
      · obtain ⟨i, hi, hpos⟩ := hex
        exact absurd hpos (no i (by omega))
      · refine ⟨_, rfl, k p H' s1 ?_⟩
        rw [len] at hp
        exact hp
-- turned (statement 23)
abbrev s_turned : Stmt := topS 23
abbrev n_turned : List Str := ["line", "pivot_line", "place", "below", "pivot", "much", "one", "other"]
theorem sc_turned : FnScope n_turned ["line", "pivot_line", "place", "below"] (defScope s_turned) := ⟨rfl, rfl, rfl, by decide +kernel, rfl, by decide +kernel, by decide +kernel⟩
-- slots: 0 line, 1 pivot_line, 2 place, 3 below*, 4 pivot*, 5 much*, 6 one, 7 other
def spTurn : Sp := fun vs H Q _ => ∃ (w q : Nat) (a b : Nat → Int) (be : Int) (G : Hp) (v v2 : V), Same G H ∧ vs = [v, v2, .int q, .int be] ∧ Da G (dIs (tab w a)) v ∧ Da G (dIs (tab w b)) v2 ∧ q < w ∧ w ≤ 10000 ∧ 0 < be ∧ be.natAbs < 2 ^ 4000 ∧
  (∀ j, j < w → (a j).natAbs < 2 ^ 4000) ∧ (∀ j, j < w → (b j).natAbs < 2 ^ 4000) ∧ ∀ G' H' v', Grow No G H G' H' → Da G' (dIs (tab w fun j => (a j * b q - a q * b j) / be)) v' → Q v' H'
theorem ok_turned (D : DefAt K mg "turned" s_turned ["line", "pivot_line", "place", "below"] f fd) (B : Blt mg) : Kept P w K mg base 1 "turned" ["line", "pivot_line", "place", "below"] spTurn := by
  refine D.kept (D.F.ok sc_turned (fun vs H Q E h => ?_) (fun cdv A outer s H vs Q E hr h => ?_))
  · obtain ⟨n, q, a, b, be, G, v, v2, _, rfl, _⟩ := h
    rfl
  · obtain ⟨n, q, a, b, be, G, v, v2, sG, rfl, hd, hd2, hq, hn, be0, bes, sa, sb, k⟩ := h
    obtain ⟨pa, rfl, ha⟩ := da_tabI hd
    obtain ⟨pb, rfl, hb⟩ := da_tabI hd2
    refine ⟨_, (pss_cons (ps_asg (pe_tup (pa_cons (pe_ix (ix_listK (K := K) rfl) (pv 1) (pv 2) (fun _ _ => rfl)) (pa_cons (pe_ix (ix_listK (K := K) rfl) (pv 0) (pv 2) (fun _ _ => rfl)) pa_nil))) (pg_tupK (K := K) rfl rfl (pgs_cons (pg_name (i := 4) sc_turned.nd rfl (Or.inr rfl)) (pgs_cons (pg_name (i := 5) sc_turned.nd rfl (Or.inr rfl)) pgs_nil))))
        (pss_one (ps_ret (pe_lc (own := [("one", 6), ("other", 7)]) (g := gTup K 2 (gCons (gName 6) (gCons (gName 7) gNil))) (tt := tYes) rfl sc_turned.nd (RZ.pi_zipA (by rfl) B.zip_ (pa_cons (pv 0) (pa_cons (pv 1) pa_nil))) (blkOk_by (own := [("one", 6), ("other", 7)]) (N := n_turned) (sc := defScope s_turned) (by decide +kernel)) (fun _ _ _ _ _ => (pg_tupK (K := K) rfl rfl (pgs_cons (pg_name (i := 6) sc_turned.nd rfl (Or.inl rfl)) (pgs_cons (pg_name (i := 7) sc_turned.nd rfl (Or.inl rfl)) pgs_nil)))) (fun _ _ _ _ _ => pts_nil) (fun _ _ _ _ _ => (pe_op op_fdivW (pe_op op_sub (pe_op op_mulW (pv 6) (pv 4)) (pe_op op_mulW (pv 5) (pv 7))) (pv 3))))))), ?_⟩
    refine ⟨_, rfl, _, rfl, pb, _, q, .int (b q), rfl, rfl, SqL.of (sG _ _ hb), tabI_at hq, _, rfl, _, rfl, pa, _, q, .int (a q), rfl, rfl, SqL.of (sG _ _ ha), tabI_at hq, by show 2 ≤ sizeLine; decide, fun t nt => ?_⟩
    have g1 := (Grow.refl (S := No) sG).loc (c := .tup [.int (b q), .int (a q)]) nt
    refine ⟨t, _, rfl, SqT.of upd_same, rfl, _, _, rfl, _, _, rfl, rfl, ?_⟩
    generalize upd H t (.tup [.int (b q), .int (a q)]) = H1 at g1 ⊢
    have lA : (tabI n a).length = n := tabI_len
    have lB : (tabI n b).length = n := tabI_len
    refine ⟨_, rfl, _, rfl, pa, pb, _, _, rfl, .inl ⟨SqL.of (g1.sub _ _ ha), SqL.of (g1.sub _ _ hb), fun D hD => ?_⟩⟩
    refine lc_data (walk_zip (K := K) (a := pa) (b := pb) (xs := tabI n a) (ys := tabI n b) (n := n) (by rw [lA, lB, Nat.min_self])) PyData.int (fun j z => z = (a j * b q - a q * b j) / be) (S := No) (G0 := G) (H0 := H) (G1 := G) (H1 := H1) (fun _ _ => True) g1 hD (Nat.le_trans hn (by decide))
      (fun G' H' s1 gr => ⟨SqL.of (gr.sub _ _ (s1 _ _ ha)), SqL.of (gr.sub _ _ (s1 _ _ hb))⟩) trivial (fun _ _ _ _ _ _ => trivial) ?_ ?_
    · rintro j x G' H2 H3 hj s1 gr gD hD' _ ⟨t2, x1, x2, rfl, nt2, rfl, e1, e2⟩ Post hk
      obtain ⟨_, rfl⟩ := tabI_get' e1
      obtain ⟨_, rfl⟩ := tabI_get' e2
      have g2 := (Grow.refl (S := No) gr.sub).loc (c := .tup [.int (a j), .int (b j)]) nt2
      have sq : (a j * b q).natAbs < 2 ^ 8000 := wide_lt (a := 4000) (b := 4000) (sa j hj) (sb q hq)
      refine ⟨t2, _, rfl, SqT.of upd_same, rfl, _, _, rfl, _, _, rfl, rfl, rfl, ?_⟩
      refine ⟨_, rfl, _, rfl, _, _, rfl, rfl, wide_mul (sa j hj) (sb q hq) (by decide) (by decide) (by decide), _, rfl, _, rfl, _, _, rfl, rfl, wide_mul (sa q hq) (sb j hj) (by decide) (by decide) (by decide), _, _, rfl, rfl, _, rfl, _, _, rfl, rfl, wide_div be0 bes (by decide) (by decide), ?_⟩
      refine hk _ _ G' _ g2.no ?_ rfl (da_int.mpr rfl) trivial
      exact upd_ne fun e => hD' (by rw [e]; exact nt2)
    · intro G' H' l' s1 gr ll hP da _
      have e : l' = tab n fun j => (a j * b q - a q * b j) / be := list_of ll hP
      rw [e] at da
      exact k _ _ _ gr da
end
end Bw
set_option Elab.async false
set_option linter.all false
set_option maxRecDepth 100000
set_option maxHeartbeats 4000000
set_option exponentiation.threshold 10000
/-! BwF: the simplex begun. -/
namespace Bw
open PySem L2
/-- the equations with the helping numbers and the right side -/
def fullA (n mm : Nat) (Bm : Nat → Nat → Int) (rr : Nat → Int) (i j : Nat) : Int := if j < mm then Bm i j else if j < mm + n then (if i = j - mm then 1 else 0) else rr i
theorem full_row {n mm i : Nat} {Bm : Nat → Nat → Int} {rr : Nat → Int} (hi : i < n) : tab mm (Bm i) ++ tab n (fun o => if o = i then 1 else 0) ++ [rr i] = tab (mm + n + 1) (fullA n mm Bm rr i) := by
  rw [tab_append, tab_one, tab_append]
  refine tab_congr fun j hj => ?_
  unfold fullA
  by_cases h1 : j < mm
  · rw [if_pos (by omega), if_pos h1, if_pos h1]
  · by_cases h2 : j < mm + n
    · rw [if_pos h2, if_neg h1, if_neg h1, if_pos h2]
      by_cases h3 : j - mm = i
      · rw [if_pos h3, if_pos h3.symm]
      · rw [if_neg h3, if_neg fun z => h3 z.symm]
    · rw [if_neg h2, if_neg h1, if_neg h2]
theorem full_goal {n mm : Nat} {Bm : Nat → Nat → Int} {rr : Nat → Int} : tab mm (fun j => - Bn.sm n (fun i => fullA n mm Bm rr i j)) ++ tab n (fun _ => 0) ++ [- Bn.sm n rr] = tab (mm + n + 1) (Bn.tb0 n mm (fullA n mm Bm rr)).g := by
  rw [tab_append, tab_one, tab_append]
  refine tab_congr fun j hj => ?_
  show _ = if mm ≤ j ∧ j < mm + n then 0 else - Bn.sm n (fun i => fullA n mm Bm rr i j)
  by_cases h1 : j < mm
  · rw [if_pos (by omega), if_pos h1, if_neg (by omega)]
  · by_cases h2 : j < mm + n
    · rw [if_pos h2, if_neg h1, if_pos (by omega)]
    · rw [if_neg h2, if_neg (by omega)]
      congr 1
      refine Bn.sm_congr fun i hi => ?_
      unfold fullA
      rw [if_neg h1, if_neg h2]
section
variable {P : Program} {w : World} {K : PySem.W.Frag} {mg : Str → Option Value} {base : Heap} {f : Addr} {fd : FuncData}
-- begun (statement 24)
abbrev s_begun : Stmt := topS 24
abbrev n_begun : List Str := ["rows", "rights", "many", "size", "lines", "number", "row", "goal", "place", "line", "other"]
theorem sc_begun : FnScope n_begun ["rows", "rights"] (defScope s_begun) := ⟨rfl, rfl, rfl, by decide +kernel, rfl, by decide +kernel, by decide +kernel⟩
-- slots: 0 rows, 1 rights, 2 many, 3 size, 4 lines*, 5 number*, 6 row, 7 goal, 8 place, 9 line, 10 other
def spBeg : Sp := fun vs H Q _ => ∃ (n mm : Nat) (Bm : Nat → Nat → Int) (rr : Nat → Int) (G : Hp) (v v2 : V), Same G H ∧ vs = [v, v2] ∧ Da G (dMat n mm Bm) v ∧ Da G (dIs (tab n rr)) v2 ∧ 0 < n ∧ n ≤ 1000 ∧ mm ≤ 1000 ∧
  ∀ G' H' p x y, Grow No G H G' H' → G' p = some (.tup [x, y]) → Da G' (dMat n (mm + n + 1) (fullA n mm Bm rr)) x → Da G' (dIs (tab (mm + n + 1) (Bn.tb0 n mm (fullA n mm Bm rr)).g)) y → Q (.ref p) H'
theorem ok_begun (D : DefAt K mg "begun" s_begun ["rows", "rights"] f fd) (B : Blt mg) : Kept P w K mg base 1 "begun" ["rows", "rights"] spBeg := by
  refine D.kept (D.F.ok sc_begun (fun vs H Q E h => ?_) (fun cdv A outer s H vs Q E hr h => ?_))
  · obtain ⟨n, mm, Bm, rr, G, v, v2, _, rfl, _⟩ := h
    rfl
  · obtain ⟨n, mm, Bm, rr, G, v, v2, sG, rfl, hd, hd2, n0, hn, hm, k⟩ := h
    obtain ⟨a, xs, rfl, ha, hx⟩ := da_lst.mp hd
    obtain ⟨b, rfl, hb⟩ := da_tabI hd2
    have len : xs.length = n := by rw [hx.mapLen, tab_len]
    obtain ⟨c0, ec0, hc0⟩ := mat_at hx n0
    have big : sizeLine = 16777216 := sizeLine_eq
    refine ⟨_, (pss_cons (ps_par (i := 2) (j := 3) rfl sc_begun.nd rfl rfl (by decide) rfl rfl (pa_cons (pe_callB (call_lenK (K := K) rfl) (by rfl) B.len_ (by decide +kernel) (pa_cons (pe_ix (ix_listK (K := K) rfl) (pv 0) pe_int (fun _ _ => rfl)) pa_nil)) (pa_cons (pe_callB (call_lenK (K := K) rfl) (by rfl) B.len_ (by decide +kernel) (pa_cons (pv 0) pa_nil)) pa_nil)) (by rfl))
        (pss_cons (ps_set (i := 4) sc_begun.nd rfl (Or.inr rfl) (pe_lst pa_nil))
        (pss_cons (ps_for PassesOwn.never rfl (pi_enum (by rfl) B.enumerate_ (pa_cons (pv 0) pa_nil)) (pg_tupK (K := K) rfl rfl (pgs_cons (pg_name (i := 5) sc_begun.nd rfl (Or.inr rfl)) (pgs_cons (pg_name (i := 6) sc_begun.nd rfl (Or.inl rfl)) pgs_nil)))
        (pss_one (ps_expr (pe_bm PySem.F.plainAttrs_list PySem.F.slot_list_append PySem.F.type_list_append mt_append (pv 4) (pa_cons (pe_op op_cat (pe_op op_cat (pe_callTy (call_listK (K := K) rfl) (by rfl) B.list_ (by decide +kernel) (pa_cons (pv 6) pa_nil)) (pe_lc (own := [("other", 10)]) (g := gName 10) (tt := tYes) rfl sc_begun.nd (pi_range1 (by rfl) B.range_ (pa_cons (pv 3) pa_nil)) (blkOk_by (own := [("other", 10)]) (N := n_begun) (sc := defScope s_begun) (by decide +kernel)) (fun _ _ _ _ _ => (pg_name (i := 10) sc_begun.nd rfl (Or.inl rfl))) (fun _ _ _ _ _ => pts_nil) (fun _ _ _ _ _ => (pe_callTy call_int1 (by rfl) B.int_ (by decide +kernel) (pa_cons (pe_cmp (pc_eqI (pv 10) (pv 5))) pa_nil))))) (pe_lst (pa_cons (pe_ix (ix_listK (K := K) rfl) (pv 1) (pv 5) (fun _ _ => rfl)) pa_nil))) pa_nil)))))
        (pss_cons (ps_setLc (i := 7) (own := [("place", 8)]) (g := gName 8) (tt := tYes) rfl sc_begun.nd rfl rfl (sw_true rfl rfl rfl (by decide +kernel)) (pi_range1 (by rfl) B.range_ (pa_cons (pv 2) pa_nil)) (blkOk_by (own := [("place", 8)]) (N := n_begun) (sc := defScope s_begun) (by decide +kernel)) (fun _ _ _ _ _ => (pg_name (i := 8) sc_begun.nd rfl (Or.inr rfl))) (fun _ _ _ _ _ => pts_nil) (fun _ _ _ _ _ => (pe_un un_neg (pe_callB (cr_sumK (K := K) rfl rfl) (by rfl) B.sum_ (by decide +kernel) (pa_cons (pe_lc (own := [("line", 9)]) (g := gName 9) (tt := tYes) rfl sc_begun.nd (pi_listK (K := K) rfl (pv 4)) (blkOk_by (by kernel_rfl)) (fun _ _ _ _ _ => (pg_name (i := 9) sc_begun.nd rfl (Or.inl rfl))) (fun _ _ _ _ _ => pts_nil) (fun _ _ _ _ _ => (pe_ix (ix_listK (K := K) rfl) (pv 9) (pv 8) (fun _ _ => rfl)))) pa_nil)))))
        (pss_one (ps_ret (pe_tup (pa_cons (pv 4) (pa_cons (pe_op op_cat (pe_op op_cat (pv 7) (pe_op op_rep (pe_lst (pa_cons pe_int pa_nil)) (pv 3))) (pe_lst (pa_cons (pe_un un_neg (pe_callB (cr_sumK (K := K) rfl rfl) (by rfl) B.sum_ (by decide +kernel) (pa_cons (pv 1) pa_nil))) pa_nil))) pa_nil))))))))), ?_⟩
    -- many, size
    refine ⟨_, rfl, a, xs, 0, .ref c0, rfl, rfl, SqL.of (sG _ _ ha), atI_nat (j := 0) ec0, c0, _, rfl, .inl (SqL.of (sG _ _ hc0)), _, rfl, a, _, rfl, .inl (SqL.of (sG _ _ ha)), _, _, rfl, ?_⟩
    rw [tabI_len, len]
    -- lines = []
    refine ⟨Nat.zero_le _, fun o no => ?_⟩
    have g0 : Grow No G H G (upd H o (.lst [])) := (Grow.refl sG).loc no
    have o0 : (upd H o (.lst [])) o = some (.lst []) := upd_same
    generalize upd H o (.lst []) = H0 at g0 o0 ⊢
    -- the loop
    refine ⟨_, rfl, a, xs, rfl, SqL.of (g0.sub _ _ ha), ?_⟩
    refine for_it (walk_enum (K := K) (a := a) (xs := xs)) (fun i σ H' => ∃ (G' : Hp) (acc : List V) (z1 z2 : Option V), σ = [some (.ref a), some (.ref b), some (.int mm), some (.int n), some (.ref o), z1, z2, none, none, none, none] ∧ Grow No G H G' H' ∧ G' o = none ∧ H' o = some (.lst acc) ∧
        DaAll G' ((tab i fun i => tab (mm + n + 1) (fullA n mm Bm rr i)).map dIs) acc)
      ⟨G, [], none, none, rfl, g0, sG.free no, o0, daAll_nil.mpr rfl⟩ (fun i σ H' _ ⟨_, _, _, _, _, gr, _⟩ => SqL.of (gr.sub _ _ (gr.data _ _ ha))) ?_ ?_
    · rintro i x σ H1 H2 hi ⟨G1, acc, z1, z2, rfl, g1, o1, ho, hacc⟩ ⟨t, x1, x2, rfl, nt, rfl, e1, e2⟩
      cases e1
      have hin : i < n := by omega
      obtain ⟨c, ec, hc⟩ := mat_at hx hin
      obtain rfl : x2 = .ref c := Option.some.inj (e2.symm.trans ec)
      have g2 : Grow No G H G1 (upd H1 t (.tup [.int (i : Nat), .ref c])) := g1.loc nt
      have ho2 := same_updG (c := .tup [.int (i : Nat), .ref c]) nt _ _ ho
      have hT : SqT K (upd H1 t (.tup [.int (i : Nat), .ref c])) t [.int (i : Nat), .ref c] := SqT.of upd_same
      generalize upd H1 t (.tup [.int (i : Nat), .ref c]) = H2 at g2 ho2 hT ⊢
      refine ⟨t, _, rfl, hT, rfl, _, _, rfl, _, _, rfl, rfl, ?_⟩
      -- list(row)
      refine ⟨_, rfl, .inl ⟨rfl, _, SqL.of ho2⟩, _, rfl, c, _, rfl, .inl (SqL.of (g2.sub _ _ (g2.data _ _ hc))), fun p1 n1 => ?_⟩
      have g3 : Grow No G H G1 (upd H2 p1 (.lst (tabI mm (Bm i)))) := g2.loc n1
      have ho3 := same_updG (c := .lst (tabI mm (Bm i))) n1 _ _ ho2
      have hp1 : (upd H2 p1 (.lst (tabI mm (Bm i)))) p1 = some (.lst (tabI mm (Bm i))) := upd_same
      generalize upd H2 p1 (.lst (tabI mm (Bm i))) = H3 at g3 ho3 hp1 ⊢
      -- [int(other == number) for other in range(size)]
      refine ⟨_, rfl, _, rfl, by omega, by omega, fun D hD => ?_⟩
      refine lc_data (walk_range (lo := 0) (n := ((n : Nat) : Int).toNat)) PyData.int (fun j z => z = if j = i then 1 else 0) (S := No) (G0 := G1) (H0 := H3) (G1 := G1) (H1 := H3) (fun _ _ => True) (Grow.refl g3.sub) hD (by rw [big]; omega)
        (fun G' H' s1 gr => trivial) trivial (fun _ _ _ _ _ _ => trivial) ?_ ?_
      · rintro j x G' _ H' hj s1 gr gD hD' _ ⟨rfl, rfl⟩ Post hk
        refine ⟨rfl, ?_⟩
        refine ⟨_, rfl, _, rfl, _, _, rfl, rfl, .inr ⟨_, rfl, ?_⟩⟩
        refine hk _ H' G' _ (Grow.refl gr.sub) rfl ?_ (da_int.mpr rfl) trivial
        by_cases q : j = i
        · rw [if_pos q]
          exact if_pos (show decide ((0 : Int) + (j : Nat) = ((i : Nat) : Int)) = true from decide_eq_true (by omega))
        · rw [if_neg q]
          exact if_neg (show ¬ decide ((0 : Int) + (j : Nat) = ((i : Nat) : Int)) = true from fun z => absurd (of_decide_eq_true z) (by omega))
      · intro G4 H4 l s4 g4 ll hP da _
        have el : l = tab n fun j => if j = i then 1 else 0 := list_of (by omega) hP
        rw [el] at da
        obtain ⟨D', eD, hD4⟩ := da_tabI da
        cases eD
        have gH4 : Grow No G H G1 H4 := g3.more g4.sm
        have ho4 := g4.sm _ _ ho3
        have hp14 := g4.sm _ _ hp1
        have hD4' := g4.sub _ _ hD4
        refine ⟨p1, D, _, _, rfl, rfl, hp14, hD4', by rw [tabI_len, tabI_len, big]; omega, fun p2 n2 => ?_⟩
        have g5 : Grow No G H G1 (upd H4 p2 (.lst (tabI mm (Bm i) ++ tabI n fun j => if j = i then 1 else 0))) := gH4.loc n2
        have ho5 := same_updG (c := .lst (tabI mm (Bm i) ++ tabI n fun j => if j = i then 1 else 0)) n2 _ _ ho4
        have hp2 : (upd H4 p2 (.lst (tabI mm (Bm i) ++ tabI n fun j => if j = i then 1 else 0))) p2 = some (.lst (tabI mm (Bm i) ++ tabI n fun j => if j = i then 1 else 0)) := upd_same
        generalize upd H4 p2 (.lst (tabI mm (Bm i) ++ tabI n fun j => if j = i then 1 else 0)) = H5 at g5 ho5 hp2 ⊢
        -- [rights[number]]
        refine ⟨_, rfl, _, rfl, b, _, i, _, rfl, rfl, SqL.of (g5.sub _ _ (g5.data _ _ hb)), tabI_at hin, by show 1 ≤ sizeLine; rw [big]; decide, fun p3 n3 => ?_⟩
        have g6 : Grow No G H G1 (upd H5 p3 (.lst [.int (rr i)])) := g5.loc n3
        have ho6 := same_updG (c := .lst [.int (rr i)]) n3 _ _ ho5
        have hp26 := same_updG (c := .lst [.int (rr i)]) n3 _ _ hp2
        have hp3 : (upd H5 p3 (.lst [.int (rr i)])) p3 = some (.lst [.int (rr i)]) := upd_same
        generalize upd H5 p3 (.lst [.int (rr i)]) = H6 at g6 ho6 hp26 hp3 ⊢
        refine ⟨p2, p3, _, _, rfl, rfl, hp26, hp3, by rw [List.length_append, tabI_len, tabI_len, big]; show _ + 1 ≤ _; omega, fun p4 n4 => ?_⟩
        have er : (tabI mm (Bm i) ++ tabI n fun j => if j = i then 1 else 0) ++ [.int (rr i)] = tabI (mm + n + 1) (fullA n mm Bm rr i) := by
          show ((tab mm (Bm i)).map V.int ++ (tab n fun j => if j = i then 1 else 0).map V.int) ++ [rr i].map V.int = _
          rw [← List.map_append, ← List.map_append, full_row hin]
        rw [er]
        have g7 : Grow No G H (upd G1 p4 (.lst (tabI (mm + n + 1) (fullA n mm Bm rr i)))) (upd H6 p4 (.lst (tabI (mm + n + 1) (fullA n mm Bm rr i)))) := g6.lay n4
        have ho7 := same_updG (c := .lst (tabI (mm + n + 1) (fullA n mm Bm rr i))) n4 _ _ ho6
        have po : o ≠ p4 := ne_of_none ho6 n4
        have s7 : Same G1 (upd G1 p4 (.lst (tabI (mm + n + 1) (fullA n mm Bm rr i)))) := same_updG (g6.freeG n4)
        have o7 : (upd G1 p4 (.lst (tabI (mm + n + 1) (fullA n mm Bm rr i)))) o = none := by rw [upd_ne po]; exact o1
        have d7 : Da (upd G1 p4 (.lst (tabI (mm + n + 1) (fullA n mm Bm rr i)))) (dIs (tab (mm + n + 1) (fullA n mm Bm rr i))) (.ref p4) := da_is.mpr ⟨p4, rfl, upd_same⟩
        generalize upd G1 p4 (.lst (tabI (mm + n + 1) (fullA n mm Bm rr i))) = G7 at g7 s7 o7 d7
        generalize upd H6 p4 (.lst (tabI (mm + n + 1) (fullA n mm Bm rr i))) = H7 at g7 ho7 ⊢
        have al := hacc.mapLen
        rw [tab_len] at al
        refine ⟨o, acc, _, rfl, rfl, ho7, by rw [big]; omega, ?_⟩
        refine ⟨G7, _, _, _, rfl, g7.put o7 (.inl no), o7, upd_same, ?_⟩
        rw [tab_succ, List.map_append]
        exact DaAll.push (DaAll.mono s7 _ _ hacc) d7
    · rintro σ H1 ⟨G1, acc, z1, z2, rfl, g1, o1, ho, hacc⟩
      rw [len] at hacc
      -- the lines are data now
      have gp := g1.pub ho no
      have dL : Da (upd G1 o (.lst acc)) (dMat n (mm + n + 1) (fullA n mm Bm rr)) (.ref o) := da_lst.mpr ⟨o, acc, rfl, upd_same, DaAll.mono (same_updG o1) _ _ hacc⟩
      generalize upd G1 o (.lst acc) = G2 at gp dL
      obtain ⟨o', acc', eo, hoG, hL⟩ := da_lst.mp dL
      cases eo
      have lenL : acc'.length = n := by rw [hL.mapLen, tab_len]
      -- goal
      refine ⟨_, rfl, _, rfl, by omega, by omega, fun D hD => ?_⟩
      refine lc_data (walk_range (lo := 0) (n := ((mm : Nat) : Int).toNat)) PyData.int (fun j z => z = - Bn.sm n (fun i => fullA n mm Bm rr i j)) (S := No) (G0 := G) (H0 := H) (G1 := G2) (H1 := H1) (fun _ _ => True) gp hD (by rw [big]; omega)
        (fun G' H' s1 gr => trivial) trivial (fun _ _ _ _ _ _ => trivial) ?_ ?_
      · rintro j x G3 _ H3 hj s3 g3 gD hD' _ ⟨rfl, rfl⟩ Post hk
        refine ⟨rfl, ?_⟩
        have hO3 := g3.sub _ _ (s3 _ _ hoG)
        refine ⟨_, rfl, o, rfl, ⟨_, SqL.of hO3⟩, fun D2 hD2 => ?_⟩
        refine lc_data (walk_list (K := K) (a := o) (xs := acc')) PyData.int (fun i z => z = fullA n mm Bm rr i j) (S := No) (G0 := G3) (H0 := H3) (G1 := G3) (H1 := H3) (fun _ _ => True) (Grow.refl g3.sub) hD2 (by rw [big]; omega)
          (fun G' H' s1 gr => SqL.of (gr.sub _ _ (s1 _ _ (s3 _ _ hoG)))) trivial (fun _ _ _ _ _ _ => trivial) ?_ ?_
        · rintro i x G4 _ H4 hi s4 g4 gD2 hD2' _ ⟨rfl, hx4⟩ Post2 hk2
          obtain ⟨ci, eci, hci⟩ := mat_at hL (show i < n by omega)
          obtain rfl : x = .ref ci := Option.some.inj (hx4.symm.trans eci)
          refine ⟨rfl, ?_⟩
          refine ⟨_, rfl, _, rfl, ci, _, _, _, rfl, rfl, SqL.of (g4.sub _ _ (s4 _ _ (s3 _ _ hci))), at_of (Int.zero_add _) (tabI_get (f := fullA n mm Bm rr i) (show j < mm + n + 1 by omega)), ?_⟩
          exact hk2 _ H4 G4 _ (Grow.refl g4.sub) rfl rfl (da_int.mpr rfl) trivial
        · intro G4 H4 l s4 g4 ll hP da _
          have el : l = tab n fun i => fullA n mm Bm rr i j := list_of (by omega) hP
          rw [el] at da
          obtain ⟨D', eD, hD4⟩ := da_tabI da
          cases eD
          refine ⟨D2, _, rfl, SqL.of (g4.sub _ _ hD4), _, rfl, ?_⟩
          rw [tab_sum]
          refine hk _ H4 G4 _ g4.no (g4.sm.at hD') rfl (da_int.mpr rfl) trivial
      · intro G3 H3 l s3 g3 ll hP da _
        have el : l = tab mm fun j => - Bn.sm n (fun i => fullA n mm Bm rr i j) := list_of (by omega) hP
        rw [el] at da
        obtain ⟨D', eD, hD3⟩ := da_tabI da
        cases eD
        have hD3' := g3.sub _ _ hD3
        have dL3 := Da.mono s3 _ _ dL
        -- [0] * size
        refine ⟨_, rfl, _, rfl, ?_⟩
        refine ⟨by show 1 ≤ sizeLine; rw [big]; decide, fun p1 n1 => ?_⟩
        have g4 : Grow No G H G3 (upd H3 p1 (.lst [.int 0])) := g3.loc n1
        have hD4 := same_updG (c := .lst [.int 0]) n1 _ _ hD3'
        have hp1 : (upd H3 p1 (.lst [.int 0])) p1 = some (.lst [.int 0]) := upd_same
        generalize upd H3 p1 (.lst [.int 0]) = H4 at g4 hD4 hp1 ⊢
        refine ⟨_, rfl, p1, n, _, rfl, rfl, hp1, by omega, by omega, by rw [big]; show 1 * _ ≤ _; omega, fun p2 n2 => ?_⟩
        have e0 : (List.replicate ((n : Nat) : Int).toNat [V.int 0]).flatten = tabI n (fun _ => 0) := by
          rw [rep_one, show ((n : Nat) : Int).toNat = n by omega]
          show _ = (tab n fun _ => 0).map V.int
          rw [← tab_rep, List.map_replicate]
        rw [e0]
        have g5 : Grow No G H G3 (upd H4 p2 (.lst (tabI n fun _ => 0))) := g4.loc n2
        have hD5 := same_updG (c := .lst (tabI n fun _ => 0)) n2 _ _ hD4
        have hp2 : (upd H4 p2 (.lst (tabI n fun _ => 0))) p2 = some (.lst (tabI n fun _ => 0)) := upd_same
        generalize upd H4 p2 (.lst (tabI n fun _ => 0)) = H5 at g5 hD5 hp2 ⊢
        refine ⟨D, p2, _, _, rfl, rfl, hD5, hp2, by rw [tabI_len, tabI_len, big]; omega, fun p3 n3 => ?_⟩
        have g6 : Grow No G H G3 (upd H5 p3 (.lst ((tabI mm fun j => - Bn.sm n (fun i => fullA n mm Bm rr i j)) ++ tabI n fun _ => 0))) := g5.loc n3
        have hp3 : (upd H5 p3 (.lst ((tabI mm fun j => - Bn.sm n (fun i => fullA n mm Bm rr i j)) ++ tabI n fun _ => 0))) p3 = some (.lst ((tabI mm fun j => - Bn.sm n (fun i => fullA n mm Bm rr i j)) ++ tabI n fun _ => 0)) := upd_same
        generalize upd H5 p3 (.lst ((tabI mm fun j => - Bn.sm n (fun i => fullA n mm Bm rr i j)) ++ tabI n fun _ => 0)) = H6 at g6 hp3 ⊢
        -- [-sum(rights)]
        refine ⟨_, rfl, b, tab n rr, rfl, SqL.of (g6.sub _ _ (g6.data _ _ hb)), _, rfl, by show 1 ≤ sizeLine; rw [big]; decide, fun p4 n4 => ?_⟩
        rw [tab_sum]
        have g7 : Grow No G H G3 (upd H6 p4 (.lst [.int (- Bn.sm n rr)])) := g6.loc n4
        have hp37 := same_updG (c := .lst [.int (- Bn.sm n rr)]) n4 _ _ hp3
        have hp4 : (upd H6 p4 (.lst [.int (- Bn.sm n rr)])) p4 = some (.lst [.int (- Bn.sm n rr)]) := upd_same
        generalize upd H6 p4 (.lst [.int (- Bn.sm n rr)]) = H7 at g7 hp37 hp4 ⊢
        refine ⟨p3, p4, _, _, rfl, rfl, hp37, hp4, by rw [List.length_append, tabI_len, tabI_len, big]; show _ + 1 ≤ _; omega, fun p5 n5 => ?_⟩
        have er : ((tabI mm fun j => - Bn.sm n (fun i => fullA n mm Bm rr i j)) ++ tabI n fun _ => 0) ++ [.int (- Bn.sm n rr)] = tabI (mm + n + 1) (Bn.tb0 n mm (fullA n mm Bm rr)).g := by
          show ((tab mm _).map V.int ++ (tab n _).map V.int) ++ [- Bn.sm n rr].map V.int = _
          rw [← List.map_append, ← List.map_append, full_goal]
        rw [er]
        have g8 : Grow No G H (upd G3 p5 (.lst (tabI (mm + n + 1) (Bn.tb0 n mm (fullA n mm Bm rr)).g))) (upd H7 p5 (.lst (tabI (mm + n + 1) (Bn.tb0 n mm (fullA n mm Bm rr)).g))) := g7.lay n5
        have s8 : Same G3 (upd G3 p5 (.lst (tabI (mm + n + 1) (Bn.tb0 n mm (fullA n mm Bm rr)).g))) := same_updG (g7.freeG n5)
        have d8 : Da (upd G3 p5 (.lst (tabI (mm + n + 1) (Bn.tb0 n mm (fullA n mm Bm rr)).g))) (dIs (tab (mm + n + 1) (Bn.tb0 n mm (fullA n mm Bm rr)).g)) (.ref p5) := da_is.mpr ⟨p5, rfl, upd_same⟩
        generalize upd G3 p5 (.lst (tabI (mm + n + 1) (Bn.tb0 n mm (fullA n mm Bm rr)).g)) = G8 at g8 s8 d8
        generalize upd H7 p5 (.lst (tabI (mm + n + 1) (Bn.tb0 n mm (fullA n mm Bm rr)).g)) = H8 at g8 ⊢
        refine ⟨by show 2 ≤ sizeLine; rw [big]; decide, fun p6 n6 => ?_⟩
        have g9 := g8.lay (c := .tup [.ref o, .ref p5]) n6
        have s9 : Same G8 (upd G8 p6 (.tup [.ref o, .ref p5])) := same_updG (g8.freeG n6)
        exact k _ _ p6 _ _ g9 upd_same (Da.mono (s8.trans s9) _ _ dL3) (Da.mono s9 _ _ d8)
end
end Bw
set_option Elab.async false
set_option linter.all false
set_option maxRecDepth 100000
set_option maxHeartbeats 8000000
set_option exponentiation.threshold 10000
/-! BwG: the simplex. -/
namespace Bw
open PySem L2
theorem cut_tab {n a b : Nat} {f : Nat → Int} (h1 : a ≤ b) (h2 : b ≤ n) : cutV (tabI n f) (some (a : Int)) (some (b : Int)) = tabI (b - a) (fun k => f (a + k)) := by
  unfold cutV
  rw [HT.sIx_nat, HT.sIx_nat, tabI_len, show min a n = a by omega, show min b n = b by omega]
  refine List.ext_getElem? fun i => ?_
  by_cases q : i < b - a
  · rw [List.getElem?_take_of_lt q, List.getElem?_drop, tabI_get (by omega), tabI_get q]
  · rw [List.getElem?_take_eq_none (by omega), List.getElem?_eq_none (by rw [tabI_len]; omega)]
theorem DaAll.set {H : Hp} : ∀ {ds : List PyData} {xs : List V} (i : Nat) {d : PyData} {x : V}, DaAll H ds xs → Da H d x → DaAll H (ds.set i d) (xs.set i x)
  | [], xs, i, d, x, h, hx => by
    rw [daAll_nil.mp h]
    exact daAll_nil.mpr rfl
  | c :: ds, xs, 0, d, x, h, hx => by
    obtain ⟨y, r, rfl, h1, h2⟩ := daAll_cons.mp h
    exact daAll_cons.mpr ⟨x, r, rfl, hx, h2⟩
  | c :: ds, xs, i + 1, d, x, h, hx => by
    obtain ⟨y, r, rfl, h1, h2⟩ := daAll_cons.mp h
    exact daAll_cons.mpr ⟨y, r.set i x, rfl, h1, DaAll.set i h2 hx⟩
theorem daAll_rep {al : Type} {enc : al → PyData} {H : Hp} {x : al} {v : V} (h : Da H (enc x) v) : ∀ k : Nat, DaAll H ((List.replicate k x).map enc) (List.replicate k v)
  | 0 => daAll_nil.mpr rfl
  | k + 1 => by
    rw [List.replicate_succ, List.replicate_succ, List.map_cons]
    exact daAll_cons.mpr ⟨v, _, rfl, h, daAll_rep h k⟩
theorem full_sys {n mm : Nat} {Bm : Nat → Nat → Int} {rr : Nat → Int} (h : ∀ k, k < n → 0 ≤ rr k) : Bn.Sys n mm (fullA n mm Bm rr) := by
  refine ⟨fun k i hk hi => ?_, fun k hk => ?_⟩
  · unfold fullA
    rw [if_neg (by omega), if_pos (by omega), show mm + i - mm = i by omega]
  · unfold fullA
    rw [if_neg (by omega), if_neg (by omega)]
    exact h k hk
/-- the loop's test -/
theorem solve_test {K : PySem.W.Frag} {σ : L2.St} {H : Hp} {pv : V} {aG : Addr} {W : Nat} {g : Nat → Int} {Q : Bool → Hp → Prop} (h9 : σ[9]? = some (some pv)) (h3 : σ[3]? = some (some (.ref aG))) (hG : SqL K H aG (tabI (W + 1) g))
    (h : Q (!decide (pv = .non) && decide (g W < 0)) H) : tAnd (tB (tNotN (tVar 9))) (tB (tLt (tOp (rIxL K) (tVar 3) (tUn (rU fun i => .int (-i)) (tC (.int 1)))) (tC (.int 0)))) σ H Q := by
  refine ⟨_, h9, _, rfl, ite_b (fun e => ?_) fun e => ?_⟩
  · rw [e, Bool.true_and] at h
    exact ⟨_, h3, 1, rfl, aG, _, -1, .int (g W), rfl, rfl, hG, tabI_last rfl, _, _, rfl, rfl, _, rfl, h⟩
  · rw [e, Bool.false_and] at h
    exact h
/-- small fractions in a list -/
structure FrOk (b : Nat) (l : List Fr2) : Prop where
  pos : ∀ f ∈ l, 0 < f.2
  b1 : ∀ f ∈ l, f.1.natAbs < 2 ^ b
  b2 : ∀ f ∈ l, f.2.natAbs < 2 ^ b
theorem FrOk.set {b : Nat} {l : List Fr2} (h : FrOk b l) {i : Nat} {f : Fr2} (h1 : 0 < f.2) (h2 : f.1.natAbs < 2 ^ b) (h3 : f.2.natAbs < 2 ^ b) : FrOk b (l.set i f) := by
  refine ⟨fun g hg => ?_, fun g hg => ?_, fun g hg => ?_⟩
  all_goals
    rcases List.mem_or_eq_of_mem_set hg with q | q
  · exact h.pos g q
  · rw [q]; exact h1
  · exact h.b1 g q
  · rw [q]; exact h2
  · exact h.b2 g q
  · rw [q]; exact h3
/-- how solve ends -/
def SolOut (n mm : Nat) (A : Nat → Nat → Int) (G : Hp) (x y : V) : Prop :=
  (x = .bl true ∧ Bn.Feas n mm A ∧ ∃ l, Da G (dFrL l) y ∧ l.length = mm ∧ FrOk 4000 l) ∨ (x = .bl false ∧ ∃ yv, Bn.Cert n mm A yv ∧ Da G (dIs (tab n yv)) y ∧ ∀ k, k < n → (yv k).natAbs < 2 ^ 4001)
section
variable {P : Program} {w : World} {K : PySem.W.Frag} {mg : Str → Option Value} {base : Heap} {f : Addr} {fd : FuncData}
-- solve (statement 25)
abbrev s_solve : Stmt := topS 25
abbrev n_solve : List Str := ["rows", "rights", "lines", "goal", "many", "size", "number", "basis", "below", "place", "pivot_line", "turns", "found", "other", "line", "turn", "one"]
theorem sc_solve : FnScope n_solve ["rows", "rights"] (defScope s_solve) := ⟨rfl, rfl, rfl, by decide +kernel, rfl, by decide +kernel, by decide +kernel⟩
-- slots: 0 rows, 1 rights, 2 lines, 3 goal, 4 many*, 5 size, 6 number*, 7 basis, 8 below*, 9 place*, 10 pivot_line*, 11 turns, 12 found, 13 other, 14 line, 15 turn, 16 one
def spSolve : Sp := fun vs H Q _ => ∃ (n mm : Nat) (Bm : Nat → Nat → Int) (rr : Nat → Int) (M : Nat) (G : Hp) (v v2 : V), Same G H ∧ vs = [v, v2] ∧ Da G (dMat n mm Bm) v ∧ Da G (dIs (tab n rr)) v2 ∧ 0 < n ∧ n ≤ 1000 ∧ mm ≤ 1000 ∧ (∀ k, k < n → 0 ≤ rr k) ∧
  (∀ k j, k < n → j ≤ mm + n → (fullA n mm Bm rr k j).natAbs ≤ M) ∧ (n + 1) * Bn.top n M < 2 ^ 4000 ∧
  ∀ G' H' p x y, Grow No G H G' H' → G' p = some (.tup [x, y]) → SolOut n mm (fullA n mm Bm rr) G' x y → Q (.ref p) H'
theorem ok_solve (D : DefAt K mg "solve" s_solve ["rows", "rights"] f fd) (B : Blt mg) (G_begun : Kept P w K mg base 1 "begun" ["rows", "rights"] spBeg) (G_first_below : Kept P w K mg base 1 "first_below" ["goal", "many"] spFirst)
    (G_leaving : Kept P w K mg base 1 "leaving" ["lines", "basis", "place"] spLeav) (G_turned : Kept P w K mg base 1 "turned" ["line", "pivot_line", "place", "below"] spTurn) : Kept P w K mg base 2 "solve" ["rows", "rights"] spSolve := by
  refine D.kept (D.F.ok sc_solve (fun vs H Q E h => ?_) (fun cdv A outer s H vs Q E hr h => ?_))
  · obtain ⟨n, mm, Bm, rr, M, G, v, v2, _, rfl, _⟩ := h
    rfl
  · obtain ⟨n, mm, Bm, rr, M, G, v, v2, sG, rfl, hd, hd2, n0, hn, hm, hrr, hM, hTop, k⟩ := h
    obtain ⟨a, xs, rfl, ha, hx⟩ := da_lst.mp hd
    obtain ⟨b, rfl, hb⟩ := da_tabI hd2
    have len : xs.length = n := by rw [hx.mapLen, tab_len]
    obtain ⟨c0, ec0, hc0⟩ := mat_at hx n0
    have big : sizeLine = 16777216 := sizeLine_eq
    have Sy : Bn.Sys n mm (fullA n mm Bm rr) := full_sys hrr
    have hTop1 : Bn.top n M < 2 ^ 4000 := Nat.lt_of_le_of_lt (Nat.le_mul_of_pos_left _ (by omega)) hTop
    have bL : ∀ {T : Bn.Tb}, Bn.TInv n mm (fullA n mm Bm rr) T → ∀ i j, i < n → j ≤ mm + n → (T.L i j).natAbs < 2 ^ 4000 := fun I i j hi hj => Nat.lt_of_le_of_lt (I.absL hM hi hj) hTop1
    have bG : ∀ {T : Bn.Tb}, Bn.TInv n mm (fullA n mm Bm rr) T → ∀ j, j ≤ mm + n → (T.g j).natAbs < 2 ^ 4000 := fun I j hj => Nat.lt_of_le_of_lt (I.absg hM hj) hTop
    have bB : ∀ {T : Bn.Tb}, Bn.TInv n mm (fullA n mm Bm rr) T → (T.be).natAbs < 2 ^ 4000 := fun I => Nat.lt_of_le_of_lt (I.absb hM) hTop1
    refine ⟨_, (pss_cons (ps_asg (pe_kept G_begun (hr.mono (by decide)) (by rfl) (pa_cons (pv 0) (pa_cons (pv 1) pa_nil))) (pg_tupK (K := K) rfl rfl (pgs_cons (pg_name (i := 2) sc_solve.nd rfl (Or.inl rfl)) (pgs_cons (pg_name (i := 3) sc_solve.nd rfl (Or.inl rfl)) pgs_nil))))
        (pss_cons (ps_asg (pe_tup (pa_cons (pe_callB (call_lenK (K := K) rfl) (by rfl) B.len_ (by decide +kernel) (pa_cons (pe_ix (ix_listK (K := K) rfl) (pv 0) pe_int (fun _ _ => rfl)) pa_nil)) (pa_cons (pe_callB (call_lenK (K := K) rfl) (by rfl) B.len_ (by decide +kernel) (pa_cons (pv 0) pa_nil)) pa_nil))) (pg_tupK (K := K) rfl rfl (pgs_cons (pg_name (i := 4) sc_solve.nd rfl (Or.inr rfl)) (pgs_cons (pg_name (i := 5) sc_solve.nd rfl (Or.inl rfl)) pgs_nil))))
        (pss_cons (ps_asg (pe_tup (pa_cons (pe_lc (own := [("number", 6)]) (g := gName 6) (tt := tYes) rfl sc_solve.nd (pi_range1 (by rfl) B.range_ (pa_cons (pv 5) pa_nil)) (blkOk_by (own := [("number", 6)]) (N := n_solve) (sc := defScope s_solve) (by decide +kernel)) (fun _ _ _ _ _ => (pg_name (i := 6) sc_solve.nd rfl (Or.inl rfl))) (fun _ _ _ _ _ => pts_nil) (fun _ _ _ _ _ => (pe_op op_add (pv 4) (pv 6)))) (pa_cons pe_int pa_nil))) (pg_tupK (K := K) rfl rfl (pgs_cons (pg_name (i := 7) sc_solve.nd rfl (Or.inl rfl)) (pgs_cons (pg_name (i := 8) sc_solve.nd rfl (Or.inr rfl)) pgs_nil))))
        (pss_cons (ps_set (i := 9) sc_solve.nd rfl (Or.inr rfl) (pe_kept G_first_below (hr.mono (by decide)) (by rfl) (pa_cons (pv 3) (pa_cons (pv 4) pa_nil))))
        (pss_cons (ps_while PassesOwn.never (PW.pt (pw_and (pt_cmp (pc_notN (pv 9))) (pw_and1 (pt_cmp (pc_lt (pe_ix (ix_listK (K := K) rfl) (pv 3) (pe_un un_neg pe_int) (fun _ _ => rfl)) pe_int)))))
        (pss_cons (ps_set (i := 6) sc_solve.nd rfl (Or.inr rfl) (pe_kept G_leaving (hr.mono (by decide)) (by rfl) (pa_cons (pv 2) (pa_cons (pv 7) (pa_cons (pv 9) pa_nil)))))
          (pss_cons (ps_set (i := 10) sc_solve.nd rfl (Or.inr rfl) (pe_ix (ix_listK (K := K) rfl) (pv 2) (pv 6) (fun _ _ => rfl)))
          (pss_cons (ps_setLc (i := 11) (own := [("other", 13)]) (g := gName 13) (tt := tYes) rfl sc_solve.nd rfl rfl (sw_true rfl rfl rfl (by decide +kernel)) (pi_range1 (by rfl) B.range_ (pa_cons (pv 5) pa_nil)) (blkOk_by (own := [("other", 13)]) (N := n_solve) (sc := defScope s_solve) (by decide +kernel)) (fun _ _ _ _ _ => (pg_name (i := 13) sc_solve.nd rfl (Or.inl rfl))) (fun _ _ _ _ _ => pts_nil) (fun _ _ _ _ _ => (pe_cmp (pc_neI (pv 13) (pv 6)))))
          (pss_cons (ps_setLc (i := 2) (own := [("line", 14), ("turn", 15)]) (g := gTup K 2 (gCons (gName 14) (gCons (gName 15) gNil))) (tt := tYes) rfl sc_solve.nd rfl rfl (sw_true rfl rfl rfl (by decide +kernel)) (RZ.pi_zipA (by rfl) B.zip_ (pa_cons (pv 2) (pa_cons (pv 11) pa_nil))) (blkOk_by (own := [("line", 14), ("turn", 15)]) (N := n_solve) (sc := defScope s_solve) (by decide +kernel)) (fun _ _ _ _ _ => (pg_tupK (K := K) rfl rfl (pgs_cons (pg_name (i := 14) sc_solve.nd rfl (Or.inl rfl)) (pgs_cons (pg_name (i := 15) sc_solve.nd rfl (Or.inl rfl)) pgs_nil)))) (fun _ _ _ _ _ => pts_nil) (fun _ _ _ _ _ => (pe_ifExp (pt_val (pv 15)) (pe_kept G_turned (hr.mono (by decide)) (by rfl) (pa_cons (pv 14) (pa_cons (pv 10) (pa_cons (pv 9) (pa_cons (pv 8) pa_nil))))) (pv 14))))
          (pss_cons (ps_set (i := 3) sc_solve.nd rfl (Or.inl rfl) (pe_kept G_turned (hr.mono (by decide)) (by rfl) (pa_cons (pv 3) (pa_cons (pv 10) (pa_cons (pv 9) (pa_cons (pv 8) pa_nil))))))
          (pss_cons (ps_asg (pe_tup (pa_cons (pv 9) (pa_cons (pe_ix (ix_listK (K := K) rfl) (pv 10) (pv 9) (fun _ _ => rfl)) pa_nil))) (pg_tupK (K := K) rfl rfl (pgs_cons (pg_sub (pv 7) (pv 6) set_list) (pgs_cons (pg_name (i := 8) sc_solve.nd rfl (Or.inr rfl)) pgs_nil))))
          (pss_one (ps_set (i := 9) sc_solve.nd rfl (Or.inr rfl) (pe_kept G_first_below (hr.mono (by decide)) (by rfl) (pa_cons (pv 3) (pa_cons (pv 4) pa_nil))))))))))))
        (pss_cons (ps_if (pt_cmp (pc_lt (pe_ix (ix_listK (K := K) rfl) (pv 3) (pe_un un_neg pe_int) (fun _ _ => rfl)) pe_int))
        (pss_one (ps_ret (pe_tup (pa_cons pe_bl (pa_cons (pe_lc (own := [("one", 16)]) (g := gName 16) (tt := tYes) rfl sc_solve.nd (pi_listK (K := K) rfl (pe_slice (sl_listK (K := K) rfl) (pv 3) (po_some (pv 4)) (po_some (pe_op op_add (pv 4) (pv 5))))) (blkOk_by (own := [("one", 16)]) (N := n_solve) (sc := defScope s_solve) (by decide +kernel)) (fun _ _ _ _ _ => (pg_name (i := 16) sc_solve.nd rfl (Or.inl rfl))) (fun _ _ _ _ _ => pts_nil) (fun _ _ _ _ _ => (pe_op op_sub (pv 8) (pv 16)))) pa_nil)))))
        pss_nil)
        (pss_cons (ps_set (i := 12) sc_solve.nd rfl (Or.inl rfl) (pe_op op_rep (pe_lst (pa_cons (pe_tup (pa_cons pe_int (pa_cons pe_int pa_nil))) pa_nil)) (pv 4)))
        (pss_cons (ps_for PassesOwn.never rfl (pi_enum (by rfl) B.enumerate_ (pa_cons (pv 7) pa_nil)) (pg_tupK (K := K) rfl rfl (pgs_cons (pg_name (i := 6) sc_solve.nd rfl (Or.inr rfl)) (pgs_cons (pg_name (i := 9) sc_solve.nd rfl (Or.inr rfl)) pgs_nil)))
        (pss_one (ps_if (pt_cmp (pc_lt (pv 9) (pv 4)))
          (pss_one (ps_asg (pe_tup (pa_cons (pe_ix (ix_listK (K := K) rfl) (pe_ix (ix_listK (K := K) rfl) (pv 2) (pv 6) (fun _ _ => rfl)) (pe_un un_neg pe_int) (fun _ _ => rfl)) (pa_cons (pv 8) pa_nil))) (pg_sub (pv 12) (pv 9) set_list)))
          pss_nil)))
        (pss_one (ps_ret (pe_tup (pa_cons pe_bl (pa_cons (pv 12) pa_nil))))))))))))), ?_⟩
    -- lines, goal = begun(rows, rights)
    refine ⟨_, rfl, _, rfl, n, mm, Bm, rr, G, _, _, sG, rfl, hd, hd2, n0, hn, hm, fun G1 H1 p x y g1 hp dL dG => ?_⟩
    obtain ⟨aL, xL, rfl, hL, hxL⟩ := da_lst.mp dL
    obtain ⟨aG, rfl, hG⟩ := da_tabI dG
    refine ⟨p, _, rfl, SqT.of (g1.sub _ _ hp), rfl, _, _, rfl, _, _, rfl, rfl, ?_⟩
    -- many, size
    refine ⟨_, rfl, a, xs, 0, .ref c0, rfl, rfl, SqL.of (g1.sub _ _ (g1.data _ _ ha)), atI_nat (j := 0) ec0, c0, _, rfl, .inl (SqL.of (g1.sub _ _ (g1.data _ _ hc0))), _, rfl, a, _, rfl, .inl (SqL.of (g1.sub _ _ (g1.data _ _ ha))), by show 2 ≤ sizeLine; rw [big]; decide, fun t nt => ?_⟩
    rw [tabI_len, len]
    have g2 := g1.loc (c := .tup [.int mm, .int n]) nt
    refine ⟨t, _, rfl, SqT.of upd_same, rfl, _, _, rfl, _, _, rfl, rfl, ?_⟩
    generalize upd H1 t (.tup [.int mm, .int n]) = H2 at g2 ⊢
    -- basis, below
    refine ⟨_, rfl, _, rfl, by omega, by omega, fun aB nB => ?_⟩
    refine lc_data (walk_range (lo := 0) (n := ((n : Nat) : Int).toNat)) PyData.int (fun j z => z = ((mm + j : Nat) : Int)) (S := No) (G0 := G1) (H0 := H2) (G1 := G1) (H1 := H2) (fun _ _ => True) (Grow.refl g2.sub) nB (by rw [big]; omega)
      (fun G' H' s1 gr => trivial) trivial (fun _ _ _ _ _ _ => trivial) ?_ ?_
    · rintro j x G' _ H' hj s1 gr gD hD' _ ⟨rfl, rfl⟩ Post hk
      refine ⟨rfl, ?_⟩
      refine ⟨_, rfl, _, rfl, _, _, rfl, rfl, ?_⟩
      exact hk _ H' G' _ (Grow.refl gr.sub) rfl (by show ((mm : Nat) : Int) + (0 + (j : Nat)) = _; omega) (da_int.mpr rfl) trivial
    intro G3' H3 l s3 g3' ll hP da _
    have el : l = tab n fun j => ((mm + j : Nat) : Int) := list_of (by omega) hP
    rw [el] at da
    obtain ⟨aB', eB, hB3⟩ := da_tabI da
    cases eB
    have hB := g3'.sub _ _ hB3
    have g3 : Grow No G H G1 H3 := g2.more g3'.sm
    have G1B : G1 aB = none := g2.freeG nB
    have HB : H aB = none := g2.free nB
    refine ⟨by show 2 ≤ sizeLine; rw [big]; decide, fun t2 nt2 => ?_⟩
    have g4 := g3.loc (c := .tup [.ref aB, .int 1]) nt2
    have hB4 := same_updG (c := .tup [.ref aB, .int 1]) nt2 _ _ hB
    refine ⟨t2, _, rfl, SqT.of upd_same, rfl, _, _, rfl, _, _, rfl, rfl, ?_⟩
    generalize upd H3 t2 (.tup [.ref aB, .int 1]) = H4 at g4 hB4 ⊢
    have I0 := Bn.tinv0 Sy
    obtain ⟨N, hN⟩ := Bn.turns_most Sy hM I0
    -- place = first_below(goal, many)
    refine ⟨_, rfl, _, rfl, mm + n + 1, mm, _, G1, _, g4.sub, rfl, dG, by omega, by omega, fun pv0 hpv0 => ?_⟩
    -- the loop
    refine ⟨fun m σ H' => ∃ (T : Bn.Tb) (G' : Hp) (aL aG : Addr) (pv : V) (z6 z10 z11 : Option V), σ = [some (.ref a), some (.ref b), some (.ref aL), some (.ref aG), some (.int mm), some (.int n), z6, some (.ref aB), some (.int T.be), some pv, z10, z11, none, none, none, none, none] ∧
        Grow No G H G' H' ∧ Da G' (dMat n (mm + n + 1) T.L) (.ref aL) ∧ Da G' (dIs (tab (mm + n + 1) T.g)) (.ref aG) ∧ G' aB = none ∧ H' aB = some (.lst (tabI n fun i => (T.B i : Int))) ∧ Bn.TInv n mm (fullA n mm Bm rr) T ∧ PlOk mm T.g pv ∧ ∀ l, Bn.Runs n mm T l → l ≤ m,
      ⟨N, Bn.tb0 n mm (fullA n mm Bm rr), G1, aL, aG, pv0, none, none, none, rfl, g4, dL, dG, G1B, hB4, I0, hpv0, hN⟩, ?_⟩
    clear dL dG hG hL hxL hB hB3 hB4
    rintro m σ H5 ⟨T, G5, aL, aG, pv, z6, z10, z11, rfl, g5, dL, dG, G5B, hB5, I, hpv, hruns⟩
    obtain ⟨_, xL, eL, hL, hxL⟩ := da_lst.mp dL
    cases eL
    obtain ⟨_, eG, hG⟩ := da_tabI dG
    cases eG
    have lenL : xL.length = n := by rw [hxL.mapLen, tab_len]
    refine solve_test (W := mm + n) (g := T.g) rfl rfl (SqL.of (g5.sub _ _ hG)) (ite_b (fun e => ?_) fun e => ?_)
    · -- a turn
      obtain ⟨e1, e2⟩ := Bool.and_eq_true_iff.mp e
      have neg : T.g (mm + n) < 0 := of_decide_eq_true e2
      rcases hpv with ⟨rfl, _⟩ | ⟨q, rfl, hq, gq, first⟩
      · cases e1
      obtain ⟨i0, hi0, hi0p⟩ := I.some_line hq gq
      refine ⟨_, fun σ' H' h => h, ?_⟩
      -- number = leaving(lines, basis, place)
      have gp := g5.pub hB5 HB
      have sp5 : Same G5 (upd G5 aB (.lst (tabI n fun i => (T.B i : Int)))) := same_updG G5B
      refine ⟨_, rfl, _, rfl, _, rfl, n, mm + n, q, T, _, _, _, gp.sub, rfl, Da.mono sp5 _ _ dL, da_is.mpr ⟨aB, rfl, upd_same⟩, by omega, by omega, bL I, ⟨i0, hi0, hi0p⟩, fun p H6 s6 best => ?_⟩
      have g6 := g5.more s6
      have hB6 := s6 _ _ hB5
      have hpn := best.lt
      obtain ⟨cp, ecp, hcp⟩ := mat_at hxL hpn
      clear gp sp5
      -- pivot_line = lines[number]
      refine ⟨_, rfl, _, rfl, aL, xL, p, .ref cp, rfl, rfl, SqL.of (g6.sub _ _ hL), atI_nat ecp, ?_⟩
      -- turns
      refine ⟨_, rfl, _, rfl, by omega, by omega, fun aT nT => ?_⟩
      refine lc_data (walk_range (lo := 0) (n := ((n : Nat) : Int).toNat)) PyData.bool (fun j z => z = !decide (j = p)) (S := No) (G0 := G5) (H0 := H6) (G1 := G5) (H1 := H6) (fun _ _ => True) (Grow.refl g6.sub) nT (by rw [big]; omega)
        (fun G' H' s1 gr => trivial) trivial (fun _ _ _ _ _ _ => trivial) ?_ ?_
      · rintro j x G' _ H' hj s1 gr gD hD' _ ⟨rfl, rfl⟩ Post hk
        refine ⟨rfl, ?_⟩
        refine ⟨_, rfl, _, rfl, _, _, rfl, rfl, ?_⟩
        refine hk _ H' G' _ (Grow.refl gr.sub) rfl ?_ (da_bl.mpr rfl) trivial
        show (!decide ((0 : Int) + (j : Nat) = ((p : Nat) : Int))) = !decide (j = p)
        congr 1
        exact decide_eq_decide.mpr (by omega)
      intro G7 H7 lt s7 g7 llt hPt dat _
      have elt : lt = tab n fun j => !decide (j = p) := list_of (by omega) hPt
      rw [elt] at dat
      obtain ⟨_, eT, hT7⟩ := da_bs.mp dat
      cases eT
      have gg7 : Grow No G H G7 H7 := by
        have q1 := g6.trans g7
        exact q1
      have G7B : G7 aB = none := g7.new aB G5B (by rw [hB6]; simp)
      have hB7 := g7.sm _ _ hB6
      have dL7 := Da.mono s7 _ _ dL
      have dG7 := Da.mono s7 _ _ dG
      have hL7 := s7 _ _ hL
      have hxL7 := DaAll.mono s7 _ _ hxL
      have hcp7 := s7 _ _ hcp
      -- lines
      refine ⟨_, rfl, _, rfl, aL, aT, _, _, rfl, .inl ⟨SqL.of (gg7.sub _ _ hL7), SqL.of (gg7.sub _ _ hT7), fun aL2 nL2 => ?_⟩⟩
      have lTl : ((tab n fun j => !decide (j = p)).map V.bl).length = n := by rw [List.length_map, tab_len]
      refine lc_data (walk_zip (K := K) (a := aL) (b := aT) (xs := xL) (ys := (tab n fun j => !decide (j = p)).map V.bl) (n := n) (by rw [lTl, lenL, Nat.min_self])) dIs
        (fun i z => z = tab (mm + n + 1) (fun j => if i = p then T.L p j else (T.L i j * T.L p q - T.L i q * T.L p j) / T.be)) (S := No) (G0 := G7) (H0 := H7) (G1 := G7) (H1 := H7) (fun _ _ => True) (Grow.refl gg7.sub) nL2 (by rw [big]; omega)
        (fun G' H' s1 gr => ⟨SqL.of (gr.sub _ _ (s1 _ _ hL7)), SqL.of (gr.sub _ _ (s1 _ _ hT7))⟩) trivial (fun _ _ _ _ _ _ => trivial) ?_ ?_
      · rintro i x G8 H8 H9 hi s8 g8 gD hD' _ ⟨t3, x1, x2, rfl, nt3, rfl, e3, e4⟩ Post hk
        obtain ⟨ci, eci, hci⟩ := mat_at hxL7 hi
        obtain rfl : x1 = .ref ci := Option.some.inj (e3.symm.trans eci)
        obtain rfl : x2 = .bl (!decide (i = p)) := by
          have e4' : ((tab n fun j => !decide (j = p)).map V.bl)[i]? = some x2 := e4
          rw [List.getElem?_map, tab_get hi] at e4'
          exact (Option.some.inj e4').symm
        have g9 := (Grow.refl (S := No) g8.sub).loc (c := .tup [.ref ci, .bl (!decide (i = p))]) nt3
        have hD9 : (upd H8 t3 (.tup [.ref ci, .bl (!decide (i = p))])) aL2 = H8 aL2 := upd_ne fun e => hD' (by rw [e]; exact nt3)
        refine ⟨t3, _, rfl, SqT.of upd_same, rfl, _, _, rfl, _, _, rfl, rfl, rfl, ?_⟩
        generalize upd H8 t3 (.tup [.ref ci, .bl (!decide (i = p))]) = H9 at g9 hD9 ⊢
        have hci8 := s8 _ _ hci
        refine ⟨_, rfl, _, rfl, ite_b (fun e5 => ?_) fun e5 => ?_⟩
        · have hne : ¬ i = p := fun z => by
            rw [decide_eq_true z] at e5
            cases e5
          refine ⟨_, rfl, _, rfl, _, rfl, _, rfl, mm + n + 1, q, T.L i, T.L p, T.be, G8, _, _, g9.sub, rfl, da_is.mpr ⟨ci, rfl, hci8⟩, da_is.mpr ⟨cp, rfl, s8 _ _ hcp7⟩, by omega, by omega, I.pos, bB I, fun j hj => bL I i j hi (by omega), fun j hj => bL I p j hpn (by omega), fun G10 H10 v10 g10 d10 => ?_⟩
          refine hk v10 H10 G10 _ (g9.trans g10).no ((g10.sm.at (by rw [hD9]; exact hD')).trans hD9) rfl ?_ trivial
          rw [show (fun j => if i = p then T.L p j else (T.L i j * T.L p q - T.L i q * T.L p j) / T.be) = (fun j => (T.L i j * T.L p q - T.L i q * T.L p j) / T.be) from funext fun j => if_neg hne]
          exact d10
        · have heq : i = p := by
            cases y : decide (i = p) with
            | true => exact of_decide_eq_true y
            | false => rw [y] at e5; cases e5
          subst heq
          refine ⟨_, rfl, ?_⟩
          refine hk _ H9 G8 _ g9.no hD9 rfl ?_ trivial
          rw [show (fun j => if i = i then T.L i j else (T.L i j * T.L i q - T.L i q * T.L i j) / T.be) = T.L i from funext fun j => if_pos rfl]
          exact da_is.mpr ⟨ci, rfl, hci8⟩
      intro G8 H8 lm s8 g8 llm hPm dam _
      have elm : lm = tab n fun i => tab (mm + n + 1) (fun j => if i = p then T.L p j else (T.L i j * T.L p q - T.L i q * T.L p j) / T.be) := list_of llm hPm
      rw [elm] at dam
      have gg8 : Grow No G H G8 H8 := gg7.trans g8
      have G8B : G8 aB = none := g8.new aB G7B (by rw [hB7]; simp)
      have hB8 := g8.sm _ _ hB7
      have hcp8 := s8 _ _ hcp7
      -- goal = turned(goal, pivot_line, place, below)
      refine ⟨_, rfl, _, rfl, _, rfl, _, rfl, mm + n + 1, q, T.g, T.L p, T.be, G8, _, _, gg8.sub, rfl, Da.mono s8 _ _ dG7, da_is.mpr ⟨cp, rfl, hcp8⟩, by omega, by omega, I.pos, bB I, fun j hj => bG I j (by omega), fun j hj => bL I p j hpn (by omega), fun G9 H9 v9 g9 d9 => ?_⟩
      obtain ⟨aG2, rfl, hG9⟩ := da_tabI d9
      have gg9 := gg8.trans g9
      have G9B : G9 aB = none := g9.new aB G8B (by rw [hB8]; simp)
      have hB9 := g9.sm _ _ hB8
      have hcp9 := g9.data _ _ hcp8
      -- basis[number], below = (place, pivot_line[place])
      refine ⟨_, rfl, _, rfl, _, rfl, cp, _, q, _, rfl, rfl, SqL.of (gg9.sub _ _ hcp9), tabI_at (by omega), by show 2 ≤ sizeLine; rw [big]; decide, fun t4 nt4 => ?_⟩
      have g10 := gg9.loc (c := .tup [.int q, .int (T.L p q)]) nt4
      have hB10 := same_updG (c := .tup [.int q, .int (T.L p q)]) nt4 _ _ hB9
      have hT10 : SqT K (upd H9 t4 (.tup [.int q, .int (T.L p q)])) t4 [.int q, .int (T.L p q)] := SqT.of upd_same
      generalize upd H9 t4 (.tup [.int q, .int (T.L p q)]) = H10 at g10 hB10 hT10 ⊢
      refine ⟨t4, _, rfl, hT10, rfl, _, _, rfl, _, rfl, _, rfl, aB, _, p, p, rfl, rfl, hB10, ?_, _, _, rfl, rfl, ?_⟩
      · unfold ixN
        rw [if_pos (Int.natCast_nonneg _), if_pos (by rw [tabI_len]; omega), Int.toNat_natCast]
      have eB : (tabI n fun i => (T.B i : Int)).set p (.int q) = tabI n fun i => ((if i = p then q else T.B i : Nat) : Int) := by
        show ((tab n fun i => (T.B i : Int)).map V.int).set p (V.int q) = _
        rw [← List.map_set, tab_set hpn]
        congr 1
        refine tab_congr fun i _ => ?_
        by_cases y : i = p
        · rw [if_pos y, if_pos y]
        · rw [if_neg y, if_neg y]
      rw [eB]
      have g11 : Grow No G H G9 (upd H10 aB (.lst (tabI n fun i => ((if i = p then q else T.B i : Nat) : Int)))) := g10.put G9B (.inl HB)
      have hB11 : (upd H10 aB (.lst (tabI n fun i => ((if i = p then q else T.B i : Nat) : Int)))) aB = some (.lst (tabI n fun i => ((if i = p then q else T.B i : Nat) : Int))) := upd_same
      generalize upd H10 aB (.lst (tabI n fun i => ((if i = p then q else T.B i : Nat) : Int))) = H11 at g11 hB11 ⊢
      -- the new tableau
      have trn : Bn.Turn n mm T ⟨fun i j => if i = p then T.L p j else (T.L i j * T.L p q - T.L i q * T.L p j) / T.be, fun j => (T.g j * T.L p q - T.g q * T.L p j) / T.be, fun i => if i = p then q else T.B i, T.L p q⟩ p q :=
        best.turn hq gq first rfl (fun _ _ => rfl) (fun _ _ _ _ => rfl) fun _ _ => rfl
      have I2 := trn.inv I
      have one := hruns 1 (Bn.runs_cons trn ⟨fun _ => _, fun _ => 0, fun _ => 0, rfl, fun i hi => by omega⟩)
      have more : ∀ l, Bn.Runs n mm ⟨fun i j => if i = p then T.L p j else (T.L i j * T.L p q - T.L i q * T.L p j) / T.be, fun j => (T.g j * T.L p q - T.g q * T.L p j) / T.be, fun i => if i = p then q else T.B i, T.L p q⟩ l → l ≤ m - 1 := fun l r => by
        have := hruns (l + 1) (Bn.runs_cons trn r)
        omega
      -- place = first_below(goal, many)
      refine ⟨_, rfl, _, rfl, mm + n + 1, mm, _, G9, _, g11.sub, rfl, d9, by omega, by omega, fun pv2 hpv2 => ?_⟩
      refine ⟨m - 1, by omega, ⟨fun i j => if i = p then T.L p j else (T.L i j * T.L p q - T.L i q * T.L p j) / T.be, fun j => (T.g j * T.L p q - T.g q * T.L p j) / T.be, fun i => if i = p then q else T.B i, T.L p q⟩, G9, aL2, aG2, pv2, _, _, _, rfl, g11, Da.mono g9.data _ _ dam, d9, G9B, hB11, I2, hpv2, more⟩
    · -- the end
      have hG5 : SqL K H5 aG (tabI (mm + n + 1) T.g) := SqL.of (g5.sub _ _ hG)
      refine ⟨_, rfl, 1, rfl, aG, _, -1, .int (T.g (mm + n)), rfl, rfl, hG5, tabI_last rfl, _, _, rfl, rfl, _, rfl, ite_b (fun e2 => ?_) fun e2 => ?_⟩
      · -- a certificate
        have neg : T.g (mm + n) < 0 := of_decide_eq_true e2
        have no : ∀ j, j < mm → 0 ≤ T.g j := by
          rcases hpv with ⟨_, h⟩ | ⟨q, rfl, _⟩
          · exact h
          · rw [decide_eq_true neg] at e
            cases e
        refine ⟨_, rfl, _, rfl, _, rfl, _, rfl, _, rfl, _, _, rfl, rfl, _, rfl, aG, _, rfl, hG5, fun ps nps => ?_⟩
        rw [show ((mm : Nat) : Int) + ((n : Nat) : Int) = ((mm + n : Nat) : Int) by omega, cut_tab (by omega) (by omega), show mm + n - mm = n by omega]
        have g6 : Grow No G H G5 (upd H5 ps (.lst (tabI n fun k => T.g (mm + k)))) := g5.loc nps
        have hp6 : (upd H5 ps (.lst (tabI n fun k => T.g (mm + k)))) ps = some (.lst (tabI n fun k => T.g (mm + k))) := upd_same
        generalize upd H5 ps (.lst (tabI n fun k => T.g (mm + k))) = H6 at g6 hp6 ⊢
        refine ⟨ps, rfl, ⟨_, SqL.of hp6⟩, fun D hD => ?_⟩
        refine lc_data (walk_list (K := K) (a := ps) (xs := tabI n fun k => T.g (mm + k))) PyData.int (fun j z => z = T.be - T.g (mm + j)) (S := No) (G0 := G5) (H0 := H6) (G1 := G5) (H1 := H6) (fun _ _ => True) (Grow.refl g6.sub) hD (by rw [tabI_len, big]; omega)
          (fun G' H' s1 gr => SqL.of (gr.sm _ _ hp6)) trivial (fun _ _ _ _ _ _ => trivial) ?_ ?_
        · rintro j x G' _ H' hj s1 gr gD hD' _ ⟨rfl, hx'⟩ Post hk
          obtain ⟨_, rfl⟩ := tabI_get' hx'
          refine ⟨rfl, ?_⟩
          refine ⟨_, rfl, _, rfl, _, _, rfl, rfl, ?_⟩
          exact hk _ H' G' _ (Grow.refl gr.sub) rfl rfl (da_int.mpr rfl) trivial
        · intro G7 H7 l s7 g7 ll hP da _
          rw [tabI_len] at ll
          have el : l = tab n fun j => T.be - T.g (mm + j) := list_of ll hP
          rw [el] at da
          have gg7 := g6.trans g7
          refine ⟨by show 2 ≤ sizeLine; rw [big]; decide, fun p np => ?_⟩
          have g8 := gg7.lay (c := .tup [.bl false, .ref D]) np
          refine k _ _ p _ _ g8 upd_same (.inr ⟨rfl, _, I.cert Sy neg no, Da.mono (same_updG (gg7.freeG np)) _ _ da, fun j hj => ?_⟩)
          have b1 := bB I
          have b2 := bG I (mm + j) (by omega)
          have b3 := Int.natAbs_sub_le T.be (T.g (mm + j))
          have : 2 ^ 4001 = 2 * 2 ^ 4000 := Nat.pow_succ'
          omega
      · -- a solution
        have nn : 0 ≤ T.g (mm + n) := by
          have := of_decide_eq_false e2
          omega
        have feas := I.solved nn
        refine ⟨by show 2 ≤ sizeLine; rw [big]; decide, fun p1 n1 => ?_⟩
        have g6 : Grow No G H (upd G5 p1 (.tup [.int 0, .int 1])) (upd H5 p1 (.tup [.int 0, .int 1])) := g5.lay n1
        have s6 : Same G5 (upd G5 p1 (.tup [.int 0, .int 1])) := same_updG (g5.freeG n1)
        have d01 : Da (upd G5 p1 (.tup [.int 0, .int 1])) (dFr (0, 1)) (.ref p1) := da_fr.mpr ⟨p1, rfl, upd_same⟩
        have hB6 := same_updG (c := .tup [.int 0, .int 1]) n1 _ _ hB5
        have G6B : (upd G5 p1 (.tup [.int 0, .int 1])) aB = none := by rw [upd_ne (ne_of_none hB5 n1)]; exact G5B
        generalize upd G5 p1 (.tup [.int 0, .int 1]) = G6 at g6 s6 d01 G6B
        generalize upd H5 p1 (.tup [.int 0, .int 1]) = H6 at g6 hB6 ⊢
        refine ⟨by show 1 ≤ sizeLine; rw [big]; decide, fun p2 n2 => ?_⟩
        have g7 : Grow No G H G6 (upd H6 p2 (.lst [.ref p1])) := g6.loc n2
        have hB7 := same_updG (c := .lst [.ref p1]) n2 _ _ hB6
        have hp2 : (upd H6 p2 (.lst [.ref p1])) p2 = some (.lst [.ref p1]) := upd_same
        generalize upd H6 p2 (.lst [.ref p1]) = H7 at g7 hB7 hp2 ⊢
        refine ⟨_, rfl, p2, mm, _, rfl, rfl, hp2, by omega, by omega, by rw [big]; show 1 * ((mm : Nat) : Int).toNat ≤ _; omega, fun aF nF => ?_⟩
        rw [rep_one, show ((mm : Nat) : Int).toNat = mm by omega]
        have HF : H aF = none := g7.free nF
        have G6F : G6 aF = none := g7.freeG nF
        have nBF : aB ≠ aF := ne_of_none hB7 nF
        have g8 : Grow No G H G6 (upd H7 aF (.lst (List.replicate mm (.ref p1)))) := g7.loc nF
        have hB8 := same_updG (c := .lst (List.replicate mm (.ref p1))) nF _ _ hB7
        have hF8 : (upd H7 aF (.lst (List.replicate mm (.ref p1)))) aF = some (.lst (List.replicate mm (.ref p1))) := upd_same
        generalize upd H7 aF (.lst (List.replicate mm (.ref p1))) = H8 at g8 hB8 hF8 ⊢
        have dF0 : DaAll G6 ((List.replicate mm ((0, 1) : Fr2)).map dFr) (List.replicate mm (.ref p1)) := daAll_rep d01 mm
        have ok0 : FrOk 4000 (List.replicate mm ((0, 1) : Fr2)) := by
          refine ⟨fun f hf => ?_, fun f hf => ?_, fun f hf => ?_⟩
          all_goals
            rw [List.eq_of_mem_replicate hf]
          · decide
          · exact Nat.pow_pos (by decide)
          · exact Nat.one_lt_two_pow (by decide)
        have hL6 := s6 _ _ hL
        have hxL6 := DaAll.mono s6 _ _ hxL
        -- the loop over the basis
        refine ⟨_, rfl, aB, _, rfl, SqL.of hB8, ?_⟩
        refine for_it (walk_enum (K := K) (a := aB) (xs := tabI n fun i => (T.B i : Int))) (fun i σ H' => ∃ (G' : Hp) (l : List Fr2) (acc : List V) (z6 z9 z10 z11 : Option V), σ = [some (.ref a), some (.ref b), some (.ref aL), some (.ref aG), some (.int mm), some (.int n), z6, some (.ref aB), some (.int T.be), z9, z10, z11, some (.ref aF), none, none, none, none] ∧
            Grow No G H G' H' ∧ Same G6 G' ∧ G' aF = none ∧ H' aF = some (.lst acc) ∧ H' aB = some (.lst (tabI n fun i => (T.B i : Int))) ∧ DaAll G' (l.map dFr) acc ∧ l.length = mm ∧ FrOk 4000 l)
          ⟨G6, _, _, _, _, _, _, rfl, g8, .refl _, G6F, hF8, hB8, dF0, List.length_replicate, ok0⟩ (fun i σ H' _ ⟨_, _, _, _, _, _, _, _, _, _, _, _, hB', _⟩ => SqL.of hB') ?_ ?_
        · rintro i x σ H9 H10 hi ⟨G9, l, acc, z6, z9, z10, z11, rfl, g9, s9, G9F, hF9, hB9, dF9, ll, okl⟩ ⟨t, x1, x2, rfl, nt, rfl, e3, e4⟩
          cases e3
          rw [tabI_len] at hi
          obtain ⟨_, rfl⟩ := tabI_get' (show (tabI n fun i => (T.B i : Int))[i]? = some x2 from e4)
          have g10 : Grow No G H G9 (upd H9 t (.tup [.int (i : Nat), .int (T.B i)])) := g9.loc nt
          have hF10 := same_updG (c := .tup [.int (i : Nat), .int (T.B i)]) nt _ _ hF9
          have hB10 := same_updG (c := .tup [.int (i : Nat), .int (T.B i)]) nt _ _ hB9
          have hT10 : SqT K (upd H9 t (.tup [.int (i : Nat), .int (T.B i)])) t [.int (i : Nat), .int (T.B i)] := SqT.of upd_same
          generalize upd H9 t (.tup [.int (i : Nat), .int (T.B i)]) = H10 at g10 hF10 hB10 hT10 ⊢
          refine ⟨t, _, rfl, hT10, rfl, _, _, rfl, _, _, rfl, rfl, ?_⟩
          refine ⟨_, rfl, _, rfl, _, _, rfl, rfl, _, rfl, ite_b (fun e5 => ?_) fun e5 => ?_⟩
          · have lt : T.B i < mm := by
              have e5' : decide (((T.B i : Nat) : Int) < ((mm : Nat) : Int)) = true := e5
              have := of_decide_eq_true e5'
              omega
            obtain ⟨ci, eci, hci⟩ := mat_at hxL6 hi
            refine ⟨_, rfl, _, rfl, aL, xL, i, .ref ci, rfl, rfl, SqL.of (g10.sub _ _ (s9 _ _ hL6)), atI_nat eci, 1, rfl, ci, _, -1, _, rfl, rfl, SqL.of (g10.sub _ _ (s9 _ _ hci)), tabI_last rfl, _, rfl, by show 2 ≤ sizeLine; rw [big]; decide, fun p3 n3 => ?_⟩
            have g11 : Grow No G H (upd G9 p3 (.tup [.int (T.L i (mm + n)), .int T.be])) (upd H10 p3 (.tup [.int (T.L i (mm + n)), .int T.be])) := g10.lay n3
            have s11 : Same G9 (upd G9 p3 (.tup [.int (T.L i (mm + n)), .int T.be])) := same_updG (g10.freeG n3)
            have d11 : Da (upd G9 p3 (.tup [.int (T.L i (mm + n)), .int T.be])) (dFr (T.L i (mm + n), T.be)) (.ref p3) := da_fr.mpr ⟨p3, rfl, upd_same⟩
            have hF11 := same_updG (c := .tup [.int (T.L i (mm + n)), .int T.be]) n3 _ _ hF10
            have hB11 := same_updG (c := .tup [.int (T.L i (mm + n)), .int T.be]) n3 _ _ hB10
            have G11F : (upd G9 p3 (.tup [.int (T.L i (mm + n)), .int T.be])) aF = none := by rw [upd_ne (ne_of_none hF10 n3)]; exact G9F
            generalize upd G9 p3 (.tup [.int (T.L i (mm + n)), .int T.be]) = G11 at g11 s11 d11 G11F
            generalize upd H10 p3 (.tup [.int (T.L i (mm + n)), .int T.be]) = H11 at g11 hF11 hB11 ⊢
            have lacc := dF9.mapLen
            refine ⟨_, rfl, _, rfl, aF, acc, _, T.B i, rfl, rfl, hF11, ?_, ?_⟩
            · unfold ixN
              rw [if_pos (Int.natCast_nonneg _), if_pos (by omega), Int.toNat_natCast]
            · refine ⟨G11, l.set (T.B i) (T.L i (mm + n), T.be), _, _, _, _, _, rfl, g11.put G11F (.inl HF), s9.trans s11, G11F, upd_same, by rw [upd_ne nBF]; exact hB11, ?_, by rw [List.length_set]; exact ll, okl.set I.pos (bL I i _ hi (Nat.le_refl _)) (bB I)⟩
              rw [List.map_set]
              exact DaAll.set _ (DaAll.mono s11 _ _ dF9) d11
          · exact ⟨G9, l, acc, _, _, _, _, rfl, g10, s9, G9F, hF10, hB10, dF9, ll, okl⟩
        · rintro σ H9 ⟨G9, l, acc, z6, z9, z10, z11, rfl, g9, s9, G9F, hF9, hB9, dF9, ll, okl⟩
          have gp := g9.pub hF9 HF
          have dl : Da (upd G9 aF (.lst acc)) (dFrL l) (.ref aF) := da_lst.mpr ⟨aF, acc, rfl, upd_same, DaAll.mono (same_updG G9F) _ _ dF9⟩
          generalize upd G9 aF (.lst acc) = G10 at gp dl
          refine ⟨_, rfl, by show 2 ≤ sizeLine; rw [big]; decide, fun p np => ?_⟩
          have g11 := gp.lay (c := .tup [.bl true, .ref aF]) np
          exact k _ _ p _ _ g11 upd_same (.inl ⟨rfl, feas, l, Da.mono (same_updG (gp.freeG np)) _ _ dl, ll, okl⟩)
end
end Bw
set_option Elab.async false
set_option linter.all false
set_option maxRecDepth 100000
set_option maxHeartbeats 8000000
set_option exponentiation.threshold 10000
/-! BwH: the equations of two news tables. -/
namespace Bw
open PySem L2
/-! ### new objects, told by what stays -/
theorem new_of {H : Hp} {c : HO} {Q : VK} (h : ∀ p H2, Same H H2 → H p = none → H2 p = some c → Q (.ref p) H2) : ∀ p, H p = none → Q (.ref p) (upd H p c) :=
  fun p hp => h p _ (same_updG hp) hp upd_same
theorem new2 {H H0 : Hp} {c : HO} {p : Addr} (np : H p = none) (e : upd H p c = H0) : Same H H0 ∧ H0 p = some c := by
  subst e
  exact ⟨same_updG np, upd_same⟩
theorem rep_of {x : V} {n : Nat} {i : Int} {H : Hp} {p1 : Addr} {Q : VK} (n1 : H p1 = none) (hi : i = (n : Nat)) (hn : n ≤ 1000000) (h : ∀ p H2, Same H H2 → H p = none → H2 p = some (.lst (List.replicate n x)) → Q (.ref p) H2) :
    rRep (.ref p1) (.int i) (upd H p1 (.lst [x])) Q := by
  refine ⟨p1, i, [x], rfl, rfl, upd_same, by omega, by omega, ?_, fun p np => ?_⟩
  · have : sizeLine = 16777216 := sizeLine_eq
    rw [this]
    show 1 * _ ≤ _
    omega
  · rw [rep_one, show i.toNat = n by omega]
    have hp : H p = none := by
      by_cases e : p = p1
      · rw [e]; exact n1
      · rw [upd_ne e] at np; exact np
    exact h p _ ((same_updG n1).trans (same_updG np)) hp upd_same
theorem cat_of {H : Hp} {a b : Addr} {xs ys : List V} {Q : VK} (ha : H a = some (.lst xs)) (hb : H b = some (.lst ys)) (hn : xs.length + ys.length ≤ 1000000) (h : ∀ p H2, Same H H2 → H p = none → H2 p = some (.lst (xs ++ ys)) → Q (.ref p) H2) :
    rCat (.ref a) (.ref b) H Q :=
  ⟨a, b, xs, ys, rfl, rfl, ha, hb, by have : sizeLine = 16777216 := sizeLine_eq; omega, new_of h⟩
theorem Grow.pubX {S : Addr → Prop} {G H G1 H1 : Hp} {p : Addr} {c : HO} (a : Grow S G H G1 H1) (hp : H1 p = some c) (h0 : H p = none) (hg : G1 p = none) : ∃ G2, Grow S G H G2 H1 ∧ Same G1 G2 ∧ G2 p = some c ∧ ∀ q, q ≠ p → G2 q = G1 q :=
  ⟨upd G1 p c, a.pub hp h0, same_updG hg, upd_same, fun q h => upd_ne h⟩
theorem small_mul {i j : Int} (hi : i.natAbs < 1024) (hj : j.natAbs < 1024) : CMulW i j := wide_mul (a := 10) (b := 10) hi hj (by decide) (by decide) (by decide)
theorem sz (n : Nat) (h : n ≤ 1000 := by decide) : n ≤ sizeLine := by
  have : sizeLine = 16777216 := sizeLine_eq
  omega
/-! ### tables of sheets in the heap -/
theorem tab_row {G : Hp} {s : List (List Int)} {R : Nat} {M : Int} {v : V} (hd : Da G (dTab (Bn.lowT s)) v) (S : Bn.Sht R M s) (r0 : 0 < R) : ∃ a xs, v = .ref a ∧ G a = some (.tup xs) ∧ xs.length = R ∧
    ∀ r, r < R → ∃ c ys, xs[r]? = some (.ref c) ∧ G c = some (.tup ys) ∧ ys.length = Bn.wid s ∧ DaAll G ((Bn.lowR (s.getD r [])).map dFr) ys := by
  obtain ⟨a, xs, e, ha, hx⟩ := da_tup.mp hd
  refine ⟨a, xs, e, ha, ?_, fun r hr => ?_⟩
  · rw [hx.mapLen]
    unfold Bn.lowT
    rw [List.length_map, S.len]
  · obtain ⟨x, h1, h2⟩ := hx.mapAt (Bn.lowT_at S hr)
    obtain ⟨c, ys, rfl, hc, hy⟩ := da_tup.mp h2
    exact ⟨c, ys, h1, hc, by rw [hy.mapLen, Bn.lowR_len S r0 hr], hy⟩
theorem eqF_okf {s t : List (List Int)} {R : Nat} {M : Int} (S : Bn.Sht R M s) (T : Bn.Sht R M t) (r0 : 0 < R) (F : M ≤ 2 ^ 100) {r c : Nat} (hr : r < R) : Okf (Bn.eqF s t r c) := by
  have b : ∀ f ∈ Bn.eqF s t r c, f.1.natAbs ≤ M.natAbs ∧ f.2.natAbs ≤ M.natAbs ∧ 0 < f.2 := fun f hf => by
    obtain ⟨a, b, rfl, h0, h1, h2, h3⟩ := Bn.eqF_mem S T r0 hr hf
    have q1 := Bn.low_abs1 (a := a) (b := b)
    have q2 := Bn.low_abs2 (a := a) (b := b)
    have q3 := Bn.low_pos (a := a) h2
    omega
  have m1 := S.one_le r0
  have m2 : M.natAbs < 2 ^ 1000 := by
    have h1 := ipow_lt (show 100 < 1000 by decide)
    exact natAbs_lt_of (by omega) (by omega)
  refine ⟨?_, fun f hf => (b f hf).2.2, fun f hf => ?_, fun f hf => ?_⟩
  · rw [Bn.eqF_len S r0 hr]
    have := (S.wids r0).2.1
    omega
  · obtain ⟨_, q, _⟩ := b f hf
    have := lt_of_natAbs (Nat.lt_of_le_of_lt q m2)
    omega
  · obtain ⟨q, _, _⟩ := b f hf
    omega
theorem eqF_da {G : Hp} {s t : List (List Int)} {r c : Nat} {ys : List V} {y : V} (h1 : DaAll G ((Bn.lowR (s.getD r [])).map dFr) ys) (h2 : Da G (dFr (Bn.low (Bn.ent t r c) (Bn.tot t r))) y) : DaAll G ((Bn.eqF s t r c).map dFr) (ys ++ [y]) := by
  unfold Bn.eqF
  rw [List.map_append]
  exact DaAll.push h1 h2
theorem eq_row1 {m k i : Nat} {num : Nat → Nat → Nat → Int} (hi : i < m) (k0 : 0 < k) : (List.replicate (i * k) (V.int 0) ++ List.replicate k (V.int 1)) ++ List.replicate ((m - i - 1) * k) (V.int 0) = tabI (k * m) (Bn.eqB m k num i) := by
  have len : i * k + k + (m - i - 1) * k = k * m := by
    rw [Nat.mul_comm k m, ← Nat.succ_mul, ← Nat.add_mul]
    congr 1
    omega
  refine List.ext_getElem? fun j => ?_
  by_cases q : j < k * m
  · rw [tabI_get q]
    unfold Bn.eqB
    rw [if_pos hi]
    by_cases q1 : j < i * k
    · have : ¬ j / k = i := fun e => by
        have := (Nat.div_lt_iff_lt_mul k0).mpr q1
        omega
      rw [if_neg this, List.getElem?_append_left (by rw [List.length_append, List.length_replicate, List.length_replicate]; omega), List.getElem?_append_left (by rw [List.length_replicate]; exact q1), List.getElem?_replicate, if_pos q1]
    · by_cases q2 : j < i * k + k
      · have : j / k = i := by
          refine Nat.div_eq_of_lt_le (by omega) ?_
          rw [Nat.succ_mul]
          exact q2
        rw [if_pos this, List.getElem?_append_left (by rw [List.length_append, List.length_replicate, List.length_replicate]; exact q2), List.getElem?_append_right (by rw [List.length_replicate]; omega), List.length_replicate, List.getElem?_replicate, if_pos (by omega)]
      · have : ¬ j / k = i := fun e => by
          have h1 := Nat.lt_mul_div_succ j k0
          rw [e, Nat.mul_comm, Nat.succ_mul] at h1
          omega
        rw [if_neg this, List.getElem?_append_right (by rw [List.length_append, List.length_replicate, List.length_replicate]; omega), List.length_append, List.length_replicate, List.length_replicate, List.getElem?_replicate, if_pos (by omega)]
  · rw [List.getElem?_eq_none (by rw [List.length_append, List.length_append, List.length_replicate, List.length_replicate, List.length_replicate]; omega), List.getElem?_eq_none (by rw [tabI_len]; omega)]
/-- a row of what is told, as far as it is written -/
def rowU (k c : Nat) (f : Nat → Int) (i j : Nat) : Int := if j % k = c ∧ j / k < i then f (j / k) else 0
theorem rowU_set {m k c i : Nat} {f : Nat → Int} (hi : i < m) (hc : c < k) : (tabI (k * m) (rowU k c f i)).set (i * k + c) (.int (f i)) = tabI (k * m) (rowU k c f (i + 1)) := by
  have lt : i * k + c < k * m := by
    have := Bn.blk_lt hi hc
    rw [Nat.mul_comm i k]
    exact this
  have d := Bn.blk_div (k := k) (p := i) hc
  have md := Bn.blk_mod (k := k) (p := i) hc
  rw [Nat.mul_comm k i] at d md
  show ((tab (k * m) (rowU k c f i)).map V.int).set (i * k + c) (V.int (f i)) = _
  rw [← List.map_set, tab_set lt]
  congr 1
  refine tab_congr fun j hj => ?_
  unfold rowU
  by_cases e : j = i * k + c
  · subst e
    rw [if_pos rfl, d, md, if_pos ⟨rfl, by omega⟩]
  · rw [if_neg e]
    have : ¬ (j % k = c ∧ j / k = i) := fun ⟨h1, h2⟩ => e (by
      have := Nat.div_add_mod j k
      rw [h1, h2, Nat.mul_comm] at this
      omega)
    by_cases q : j % k = c ∧ j / k < i
    · rw [if_pos q, if_pos ⟨q.1, by omega⟩]
    · rw [if_neg q, if_neg fun z => ?_]
      obtain ⟨z1, z2⟩ := z
      by_cases w : j / k < i
      · exact q ⟨z1, w⟩
      · exact this ⟨z1, by omega⟩
theorem rowU_all {m k r c : Nat} {num : Nat → Nat → Nat → Int} (hc : c < k - 1) : tab (k * m) (rowU k c (num r c) m) = tab (k * m) (Bn.eqB m k num (m + ((k - 1) * r + c))) := by
  refine tab_congr fun j hj => ?_
  have e : m + ((k - 1) * r + c) - m = (k - 1) * r + c := by omega
  have jm : j / k < m := Nat.div_lt_of_lt_mul hj
  unfold rowU Bn.eqB
  rw [if_neg (show ¬ m + ((k - 1) * r + c) < m by omega), e, Bn.blk_div hc, Bn.blk_mod hc]
  by_cases q : j % k = c
  · rw [if_pos ⟨q, jm⟩, if_pos q]
  · rw [if_neg q, if_neg fun z => q z.1]
section
variable {P : Program} {w : World} {K : PySem.W.Frag} {mg : Str → Option Value} {base : Heap} {f : Addr} {fd : FuncData}
-- equations_of (statement 30)
abbrev s_equations_of : Stmt := topS 30
abbrev n_equations_of : List Str := ["news", "other", "many", "size", "rows", "rights", "place", "line", "due", "column", "numbers", "row"]
theorem sc_equations_of : FnScope n_equations_of ["news", "other"] (defScope s_equations_of) := ⟨rfl, rfl, rfl, by decide +kernel, rfl, by decide +kernel, by decide +kernel⟩
-- slots: 0 news, 1 other, 2 many, 3 size, 4 rows, 5 rights, 6 place, 7 line, 8 due, 9 column, 10 numbers, 11 row
def spEq : Sp := fun vs H Q _ => ∃ (s t : List (List Int)) (R m k : Nat) (M : Int) (G : Hp) (v v2 : V), Same G H ∧ vs = [v, v2] ∧ Da G (dTab (Bn.lowT s)) v ∧ Da G (dTab (Bn.lowT t)) v2 ∧ Bn.Sht R M s ∧ Bn.Sht R M t ∧ 0 < R ∧ Bn.Fit R M ∧ Bn.wid s = m ∧ Bn.wid t = k ∧
  ∀ G' H' p x y, Grow No G H G' H' → G' p = some (.tup [x, y]) → Da G' (dMat (m + (k - 1) * R) (k * m) (Bn.eqB m k (Bn.eqN s t))) x → Da G' (dIs (tab (m + (k - 1) * R) (Bn.eqR m k (Bn.eqL s t)))) y → Q (.ref p) H'
theorem ok_equations_of (D : DefAt K mg "equations_of" s_equations_of ["news", "other"] f fd) (B : Blt mg) (G_numbers_of : Kept P w K mg base 4 "numbers_of" ["fractions"] spNums) : Kept P w K mg base 5 "equations_of" ["news", "other"] spEq := by
  refine D.kept (D.F.ok sc_equations_of (fun vs H Q E h => ?_) (fun cdv A outer s H vs Q E hr h => ?_))
  · obtain ⟨s, t, R, m, k, M, G, v, v2, _, rfl, _⟩ := h
    rfl
  · obtain ⟨sh, th, R, m, k, M, G, v, v2, sG, rfl, hd, hd2, S, T, r0, F, hm, hk, post⟩ := h
    obtain ⟨a, xs, rfl, ha, lx, hxs⟩ := tab_row hd S r0
    obtain ⟨b, ys, rfl, hb, ly, hys⟩ := tab_row hd2 T r0
    have wS := S.wids r0
    have wT := T.wids r0
    rw [hm] at wS hxs
    rw [hk] at wT hys
    obtain ⟨m1, m3, _⟩ := wS
    obtain ⟨k1, k3, _⟩ := wT
    have r4 := F.r4
    have kR : (k - 1) * R ≤ 2 * 4 := Nat.mul_le_mul (by omega) r4
    have km : k * m ≤ 3 * 3 := Nat.mul_le_mul k3 m3
    have big : sizeLine = 16777216 := sizeLine_eq
    obtain ⟨c0, l0, ec0, hc0, ll0, _⟩ := hxs 0 r0
    obtain ⟨d0, l1, ed0, hd0, ll1, _⟩ := hys 0 r0
    refine ⟨_, (pss_cons (ps_par3 (i := 2) (j := 3) (l := 4) rfl sc_equations_of.nd rfl rfl rfl (by decide) (by decide) (by decide) rfl rfl rfl (pa_cons (pe_callB (call_lenK (K := K) rfl) (by rfl) B.len_ (by decide +kernel) (pa_cons (pe_ix (ix_tupK (K := K) rfl) (pv 0) pe_int (fun _ _ => rfl)) pa_nil)) (pa_cons (pe_callB (call_lenK (K := K) rfl) (by rfl) B.len_ (by decide +kernel) (pa_cons (pe_ix (ix_tupK (K := K) rfl) (pv 1) pe_int (fun _ _ => rfl)) pa_nil)) (pa_cons (pe_lst pa_nil) pa_nil))) (by rfl))
        (pss_cons (ps_set (i := 5) sc_equations_of.nd rfl (Or.inl rfl) (pe_op op_rep (pe_lst (pa_cons pe_int pa_nil)) (pv 2)))
        (pss_cons (ps_for PassesOwn.never rfl (pi_range1 (by rfl) B.range_ (pa_cons (pv 2) pa_nil)) (pg_name (i := 6) sc_equations_of.nd rfl (Or.inl rfl))
        (pss_one (ps_expr (pe_bm PySem.F.plainAttrs_list PySem.F.slot_list_append PySem.F.type_list_append mt_append (pv 4) (pa_cons (pe_op op_cat (pe_op op_cat (pe_op op_rep (pe_lst (pa_cons pe_int pa_nil)) (pe_op op_mulW (pv 6) (pv 3))) (pe_op op_rep (pe_lst (pa_cons pe_int pa_nil)) (pv 3))) (pe_op op_rep (pe_lst (pa_cons pe_int pa_nil)) (pe_op op_mulW (pe_op op_sub (pe_op op_sub (pv 2) (pv 6)) pe_int) (pv 3)))) pa_nil)))))
        (pss_cons (ps_for PassesOwn.never rfl (RZ.pi_zipA (by rfl) B.zip_ (pa_cons (pv 0) (pa_cons (pv 1) pa_nil))) (pg_tupK (K := K) rfl rfl (pgs_cons (pg_name (i := 7) sc_equations_of.nd rfl (Or.inl rfl)) (pgs_cons (pg_name (i := 8) sc_equations_of.nd rfl (Or.inl rfl)) pgs_nil)))
        (pss_one (ps_for PassesOwn.never rfl (pi_range1 (by rfl) B.range_ (pa_cons (pe_op op_sub (pv 3) pe_int) pa_nil)) (pg_name (i := 9) sc_equations_of.nd rfl (Or.inl rfl))
          (pss_cons (ps_par (i := 10) (j := 11) rfl sc_equations_of.nd rfl rfl (by decide) rfl rfl (pa_cons (pe_kept G_numbers_of (hr.mono (by decide)) (by rfl) (pa_cons (pe_op op_cat (pe_callTy (call_listK (K := K) rfl) (by rfl) B.list_ (by decide +kernel) (pa_cons (pv 7) pa_nil)) (pe_lst (pa_cons (pe_ix (ix_tupK (K := K) rfl) (pv 8) (pv 9) (fun _ _ => rfl)) pa_nil))) pa_nil)) (pa_cons (pe_op op_rep (pe_lst (pa_cons pe_int pa_nil)) (pe_op op_mulW (pv 2) (pv 3))) pa_nil)) (by rfl))
            (pss_cons (ps_for PassesOwn.never rfl (pi_range1 (by rfl) B.range_ (pa_cons (pv 2) pa_nil)) (pg_name (i := 6) sc_equations_of.nd rfl (Or.inl rfl))
            (pss_one (ps_asg (pe_ix (ix_listK (K := K) rfl) (pv 10) (pv 6) (fun _ _ => rfl)) (pg_sub (pv 11) (pe_op op_add (pe_op op_mulW (pv 6) (pv 3)) (pv 9)) set_list))))
            (pss_cons (ps_expr (pe_bm PySem.F.plainAttrs_list PySem.F.slot_list_append PySem.F.type_list_append mt_append (pv 4) (pa_cons (pv 11) pa_nil)))
            (pss_one (ps_expr (pe_bm PySem.F.plainAttrs_list PySem.F.slot_list_append PySem.F.type_list_append mt_append (pv 5) (pa_cons (pe_ix (ix_listK (K := K) rfl) (pv 10) (pe_un un_neg pe_int) (fun _ _ => rfl)) pa_nil))))))))))
        (pss_one (ps_ret (pe_tup (pa_cons (pv 4) (pa_cons (pv 5) pa_nil))))))))), ?_⟩
    -- many, size, rows
    refine ⟨_, rfl, a, xs, 0, .ref c0, rfl, rfl, SqT.of (sG _ _ ha), atI_nat (j := 0) ec0, c0, _, rfl, .inr (SqT.of (sG _ _ hc0)), ?_⟩
    refine ⟨_, rfl, b, ys, 0, .ref d0, rfl, rfl, SqT.of (sG _ _ hb), atI_nat (j := 0) ed0, d0, _, rfl, .inr (SqT.of (sG _ _ hd0)), ?_⟩
    rw [ll0, ll1]
    refine ⟨Nat.zero_le _, fun o no => ?_⟩
    generalize eH0 : upd _ o _ = H0
    obtain ⟨s0, ho0⟩ := new2 no eH0
    refine ⟨_, _, _, rfl, ?_⟩
    have g0 : Grow No G H G H0 := (Grow.refl sG).more s0
    have o0 : G o = none := sG.free no
    -- rights
    refine ⟨sz 1, fun p1 n1 => ⟨_, rfl, rep_of (n := m) n1 rfl (by omega) fun q H1 s1 nq hq1 => ?_⟩⟩
    have g1 : Grow No G H G H1 := g0.more s1
    have ho1 := s1 _ _ ho0
    have q0 : G q = none := g0.freeG nq
    have qH : H q = none := g0.free nq
    have oq : o ≠ q := ne_of_none ho0 nq
    have eq1 : List.replicate m (V.int 1) = tabI m (Bn.eqR m k (Bn.eqL sh th)) := by
      show _ = (tab m _).map V.int
      rw [tab_congr (f := Bn.eqR m k (Bn.eqL sh th)) (g := fun _ => 1) fun i hi => if_pos hi, ← tab_rep, List.map_replicate]
    rw [eq1] at hq1
    -- the first loop
    refine ⟨_, rfl, _, rfl, by omega, by omega, ?_⟩
    refine for_it (walk_range (lo := 0) (n := ((m : Nat) : Int).toNat)) (fun i σ H' => ∃ (G' : Hp) (acc : List V) (z6 : Option V), σ = [some (.ref a), some (.ref b), some (.int m), some (.int k), some (.ref o), some (.ref q), z6, none, none, none, none, none] ∧
        Grow No G H G' H' ∧ G' o = none ∧ G' q = none ∧ H' o = some (.lst acc) ∧ H' q = some (.lst (tabI m (Bn.eqR m k (Bn.eqL sh th)))) ∧ DaAll G' ((tab i fun i => tab (k * m) (Bn.eqB m k (Bn.eqN sh th) i)).map dIs) acc)
      ⟨G, [], none, rfl, g1, o0, q0, ho1, hq1, daAll_nil.mpr rfl⟩ (fun _ _ _ _ _ => trivial) ?_ ?_
    · rintro i x σ _ H2 hi ⟨G2, acc, z6, rfl, g2, o2, q2, ho2, hq2, hacc⟩ ⟨rfl, rfl⟩
      have him : i < m := by omega
      have km1 : i * k + k + (m - i - 1) * k = k * m := by
        rw [Nat.mul_comm k m, ← Nat.succ_mul, ← Nat.add_mul]
        congr 1
        omega
      -- rows.append([0] * (place * size) + [1] * size + [0] * ((many - place - 1) * size))
      refine ⟨_, rfl, .inl ⟨rfl, _, SqL.of ho2⟩, ?_⟩
      refine ⟨sz 1, fun p1 n1 => ⟨_, rfl, _, rfl, _, _, rfl, rfl, small_mul (by omega) (by omega), rep_of (n := i * k) n1 (by rw [Int.zero_add, Int.natCast_mul]) (by omega) fun p H3 s3 np hp3 => ?_⟩⟩
      refine ⟨sz 1, fun p2 n2 => ⟨_, rfl, rep_of (n := k) n2 rfl (by omega) fun p' H4 s4 np4 hp4 => ?_⟩⟩
      refine cat_of (s4 _ _ hp3) hp4 (by rw [List.length_replicate, List.length_replicate]; omega) fun p'' H5 s5 np5 hp5 => ?_
      refine ⟨sz 1, fun p3 n3 => ⟨_, rfl, _, rfl, _, _, rfl, rfl, _, _, rfl, rfl, _, rfl, _, _, rfl, rfl, small_mul (by omega) (by omega), rep_of (n := (m - i - 1) * k) n3 ?_ (by omega) fun p6 H6 s6 np6 hp6 => ?_⟩⟩
      · rw [Int.natCast_mul]
        congr 1
        omega
      refine cat_of (s6 _ _ hp5) hp6 (by rw [List.length_append, List.length_replicate, List.length_replicate, List.length_replicate]; omega) fun p7 H7 s7 np7 hp7 => ?_
      rw [eq_row1 (num := Bn.eqN sh th) him (by omega)] at hp7
      have s27 : Same H2 H7 := (((s3.trans s4).trans s5).trans s6).trans s7
      have np2 : H2 p7 = none := (((s3.trans s4).trans s5).trans s6).free np7
      have g7 := g2.more s27
      have ho7 := s27 _ _ ho2
      obtain ⟨G8, g8, s8, hp8, new8⟩ := g7.pubX hp7 (g2.free np2) (g2.freeG np2)
      have al := hacc.mapLen
      rw [tab_len] at al
      refine ⟨o, acc, _, rfl, rfl, ho7, by omega, ?_⟩
      have o8 : G8 o = none := by rw [new8 o (ne_of_none ho2 np2)]; exact o2
      have q8 : G8 q = none := by rw [new8 q (ne_of_none hq2 np2)]; exact q2
      refine ⟨G8, _, _, rfl, g8.put o8 (.inl no), o8, q8, upd_same, by rw [upd_ne oq.symm]; exact s27 _ _ hq2, ?_⟩
      rw [tab_succ, List.map_append]
      exact DaAll.push (DaAll.mono s8 _ _ hacc) (da_is.mpr ⟨p7, rfl, hp8⟩)
    -- the second loop
    rintro σ H2 ⟨G2, acc2, z6, rfl, g2, o2, q2, ho2, hq2, hacc2⟩
    rw [show ((m : Nat) : Int).toNat = m by omega] at hacc2
    refine ⟨_, rfl, _, rfl, a, b, xs, ys, rfl, .inr ⟨SqT.of (g2.sub _ _ (g2.data _ _ ha)), SqT.of (g2.sub _ _ (g2.data _ _ hb)), ?_⟩⟩
    refine RZ.for_zipT (by omega) (fun r σ H' => ∃ (G' : Hp) (acc : List V) (z6 z7 z8 z9 z10 z11 : Option V), σ = [some (.ref a), some (.ref b), some (.int m), some (.int k), some (.ref o), some (.ref q), z6, z7, z8, z9, z10, z11] ∧
        Grow No G H G' H' ∧ G' o = none ∧ G' q = none ∧ H' o = some (.lst acc) ∧ H' q = some (.lst (tabI (m + (k - 1) * r) (Bn.eqR m k (Bn.eqL sh th)))) ∧ DaAll G' ((tab (m + (k - 1) * r) fun i => tab (k * m) (Bn.eqB m k (Bn.eqN sh th) i)).map dIs) acc)
      ⟨G2, acc2, _, _, _, _, _, _, rfl, g2, o2, q2, ho2, hq2, hacc2⟩ (fun r σ H' ⟨G', acc, _, _, _, _, _, _, _, g', _⟩ => ⟨SqT.of (g'.sub _ _ (g'.data _ _ ha)), SqT.of (g'.sub _ _ (g'.data _ _ hb))⟩) ?_ ?_
    · rintro r x y tt σ H3 hx hy ⟨G3, acc3, z6, z7, z8, z9, z10, z11, rfl, g3, o3, q3, ho3, hq3, hacc3⟩ ntt
      have hr' : r < R := by
        have := (List.getElem?_eq_some_iff.mp hx).1
        omega
      obtain ⟨ci, li, eci, hci, lli, dli⟩ := hxs r hr'
      obtain ⟨di, mi, edi, hdi, lmi, dmi⟩ := hys r hr'
      obtain rfl : x = .ref ci := Option.some.inj (hx.symm.trans eci)
      obtain rfl : y = .ref di := Option.some.inj (hy.symm.trans edi)
      have g4 : Grow No G H G3 (upd H3 tt (.tup [.ref ci, .ref di])) := g3.loc ntt
      have ho4 := same_updG (c := .tup [.ref ci, .ref di]) ntt _ _ ho3
      have hq4 := same_updG (c := .tup [.ref ci, .ref di]) ntt _ _ hq3
      have hT4 : SqT K (upd H3 tt (.tup [.ref ci, .ref di])) tt [.ref ci, .ref di] := SqT.of upd_same
      generalize upd H3 tt (.tup [.ref ci, .ref di]) = H4 at g4 ho4 hq4 hT4 ⊢
      refine ⟨tt, _, rfl, hT4, rfl, _, _, rfl, _, _, rfl, rfl, ?_⟩
      -- for column in range(size - 1)
      refine ⟨_, rfl, _, _, rfl, rfl, _, rfl, by omega, by omega, ?_⟩
      refine for_it (walk_range (lo := 0) (n := (((k : Nat) : Int) - 1).toNat)) (fun c σ H' => ∃ (G' : Hp) (acc : List V) (z6 z9 z10 z11 : Option V), σ = [some (.ref a), some (.ref b), some (.int m), some (.int k), some (.ref o), some (.ref q), z6, some (.ref ci), some (.ref di), z9, z10, z11] ∧
          Grow No G H G' H' ∧ G' o = none ∧ G' q = none ∧ H' o = some (.lst acc) ∧ H' q = some (.lst (tabI (m + ((k - 1) * r + c)) (Bn.eqR m k (Bn.eqL sh th)))) ∧ DaAll G' ((tab (m + ((k - 1) * r + c)) fun i => tab (k * m) (Bn.eqB m k (Bn.eqN sh th) i)).map dIs) acc)
        ⟨G3, acc3, _, _, _, _, rfl, g4, o3, q3, ho4, hq4, hacc3⟩ (fun _ _ _ _ _ => trivial) ?_ ?_
      · rintro c x σ _ H5 hc ⟨G5, acc5, z6, z9, z10, z11, rfl, g5, o5, q5, ho5, hq5, hacc5⟩ ⟨rfl, rfl⟩
        have hck : c < k - 1 := by omega
        have rc : (k - 1) * r + c < (k - 1) * R := Bn.blk_lt hr' hck
        obtain ⟨y, ey, dy⟩ := dmi.mapAt (Bn.lowR_at T r0 hr' (c := c) (by omega))
        show gName 9 (V.int (0 + (c : Nat))) _ _ _
        rw [Int.zero_add]
        -- numbers, row
        refine ⟨_, rfl, ci, li, rfl, .inr (SqT.of (g5.sub _ _ (g5.data _ _ hci))), fun p1 np1 => ?_⟩
        generalize eH6 : upd _ p1 _ = H6
        obtain ⟨s6, hp1⟩ := new2 np1 eH6
        refine ⟨_, rfl, _, rfl, di, mi, _, y, rfl, rfl, SqT.of (s6 _ _ (g5.sub _ _ (g5.data _ _ hdi))), atI_nat ey, sz 1, fun p2 np2 => ?_⟩
        generalize eH7 : upd _ p2 _ = H7
        obtain ⟨s7, hp2⟩ := new2 np2 eH7
        refine cat_of (s7 _ _ hp1) hp2 (by rw [lli]; show _ + 1 ≤ _; omega) fun p3 H8 s8 np3 hp3 => ?_
        have s58 : Same H5 H8 := (s6.trans s7).trans s8
        have np35 : H5 p3 = none := (s6.trans s7).free np3
        have g8 := g5.more s58
        obtain ⟨G9, g9, s9, hp9, new9⟩ := g8.pubX hp3 (g5.free np35) (g5.freeG np35)
        have dF : Da G9 (dFrL (Bn.eqF sh th r c)) (.ref p3) := da_lst.mpr ⟨p3, _, rfl, hp9, DaAll.mono s9 _ _ (eqF_da (DaAll.mono g5.data _ _ dli) (Da.mono g5.data _ _ dy))⟩
        refine ⟨Bn.eqF sh th r c, G9, _, g9.sub, rfl, dF, eqF_okf S T r0 F.small hr', fun G10 H10 v10 g10 d10 => ?_⟩
        have g10' := g9.trans g10
        have o9 : G9 o = none := by rw [new9 o (ne_of_none ho5 np35)]; exact o5
        have q9 : G9 q = none := by rw [new9 q (ne_of_none hq5 np35)]; exact q5
        have ho8 := s58 _ _ ho5
        have hq8 := s58 _ _ hq5
        have o10 := g10.new o o9 (by rw [ho8]; simp)
        have q10 := g10.new q q9 (by rw [hq8]; simp)
        have ho10 := g10.sm _ _ ho8
        have hq10 := g10.sm _ _ hq8
        obtain ⟨an, rfl, han⟩ := da_is.mp d10
        refine ⟨sz 1, fun p4 n4 => ⟨_, rfl, _, rfl, _, _, rfl, rfl, small_mul (by omega) (by omega), rep_of (n := k * m) n4 (by rw [Int.natCast_mul, Int.mul_comm]) (by omega) fun u H11 s11 nu hu => ?_⟩⟩
        have g11 := g10'.more s11
        have u10 : G10 u = none := g10'.freeG nu
        have uH : H u = none := g10'.free nu
        have ou : o ≠ u := ne_of_none ho10 nu
        have qu : q ≠ u := ne_of_none hq10 nu
        have ho11 := s11 _ _ ho10
        have hq11 := s11 _ _ hq10
        refine ⟨_, _, rfl, ?_⟩
        have e0 : List.replicate (k * m) (V.int 0) = tabI (k * m) (rowU k c (Bn.eqN sh th r c) 0) := by
          show _ = (tab (k * m) _).map V.int
          rw [tab_congr (f := rowU k c (Bn.eqN sh th r c) 0) (g := fun _ => 0) fun i hi => if_neg fun z => Nat.not_lt_zero _ z.2, ← tab_rep, List.map_replicate]
        rw [e0] at hu
        have ln : (Bn.nums (Bn.eqF sh th r c)).length = m + 1 := by rw [Bn.nums_len, Bn.eqF_len S r0 hr', hm]
        -- for place in range(many)
        refine ⟨_, rfl, _, rfl, by omega, by omega, ?_⟩
        refine for_it (walk_range (lo := 0) (n := ((m : Nat) : Int).toNat)) (fun i σ H' => ∃ (z6 : Option V), σ = [some (.ref a), some (.ref b), some (.int m), some (.int k), some (.ref o), some (.ref q), z6, some (.ref ci), some (.ref di), some (.int c), some (.ref an), some (.ref u)] ∧
            Grow No G H G10 H' ∧ H' o = some (.lst acc5) ∧ H' q = some (.lst (tabI (m + ((k - 1) * r + c)) (Bn.eqR m k (Bn.eqL sh th)))) ∧ H' u = some (.lst (tabI (k * m) (rowU k c (Bn.eqN sh th r c) i))))
          ⟨_, rfl, g11, ho11, hq11, hu⟩ (fun _ _ _ _ _ => trivial) ?_ ?_
        · rintro i x σ _ H12 hi ⟨z6, rfl, g12, ho12, hq12, hu12⟩ ⟨rfl, rfl⟩
          have him : i < m := by omega
          have lt : i * k + c < k * m := by
            have := Bn.blk_lt (k := k) him (show c < k by omega)
            rw [Nat.mul_comm i k]
            exact this
          show gName 6 (V.int (0 + (i : Nat))) _ _ _
          rw [Int.zero_add]
          have ei : (Bn.nums (Bn.eqF sh th r c))[i]? = some (Bn.eqN sh th r c i) := by
            unfold Bn.eqN
            rw [List.getD_eq_getElem?_getD, List.getElem?_eq_getElem (by omega)]
            rfl
          refine ⟨_, rfl, _, rfl, an, _, _, .int (Bn.eqN sh th r c i), rfl, rfl, SqL.of (g12.sub _ _ han), atI_nat (by rw [List.getElem?_map, ei]; rfl), ?_⟩
          refine ⟨_, rfl, _, rfl, _, rfl, _, _, rfl, rfl, small_mul (by omega) (by omega), _, rfl, _, _, rfl, rfl, u, _, _, i * k + c, rfl, rfl, hu12, ?_, ?_⟩
          · unfold ixN
            rw [tabI_len, show ((i : Nat) : Int) * ((k : Nat) : Int) + ((c : Nat) : Int) = ((i * k + c : Nat) : Int) by rw [Int.natCast_add, Int.natCast_mul], if_pos (Int.natCast_nonneg _), if_pos (by omega), Int.toNat_natCast]
          · rw [rowU_set him (by omega)]
            exact ⟨_, rfl, g12.put u10 (.inl uH), by rw [upd_ne ou]; exact ho12, by rw [upd_ne qu]; exact hq12, upd_same⟩
        · rintro σ H12 ⟨z6', rfl, g12, ho12, hq12, hu12⟩
          rw [show ((m : Nat) : Int).toNat = m by omega] at hu12
          have hu12' : H12 u = some (.lst (tabI (k * m) (Bn.eqB m k (Bn.eqN sh th) (m + ((k - 1) * r + c))))) := by
            rw [hu12]
            show some (HO.lst ((tab (k * m) _).map V.int)) = some (HO.lst ((tab (k * m) _).map V.int))
            rw [rowU_all hck]
          obtain ⟨G13, g13, s13, hu13, new13⟩ := g12.pubX hu12' uH u10
          have o13 : G13 o = none := by rw [new13 o ou]; exact o10
          have q13 : G13 q = none := by rw [new13 q qu]; exact q10
          have al := hacc5.mapLen
          rw [tab_len] at al
          -- rows.append(row)
          refine ⟨_, rfl, .inl ⟨rfl, _, SqL.of ho12⟩, _, rfl, o, acc5, _, rfl, rfl, ho12, by omega, ?_⟩
          have g14 := g13.put (c := .lst (acc5 ++ [.ref u])) o13 (.inl no)
          have ho14 : (upd H12 o (.lst (acc5 ++ [.ref u]))) o = some (.lst (acc5 ++ [.ref u])) := upd_same
          have hq14 : (upd H12 o (.lst (acc5 ++ [.ref u]))) q = some (.lst (tabI (m + ((k - 1) * r + c)) (Bn.eqR m k (Bn.eqL sh th)))) := by rw [upd_ne oq.symm]; exact hq12
          generalize upd H12 o (.lst (acc5 ++ [.ref u])) = H14 at g14 ho14 hq14 ⊢
          -- rights.append(numbers[-1])
          have el : atI ((Bn.nums (Bn.eqF sh th r c)).map V.int) (-1) = some (.int (Bn.eqL sh th r c)) := by
            have ne : Bn.nums (Bn.eqF sh th r c) ≠ [] := fun e => by rw [e] at ln; cases ln
            have e1 := List.dropLast_concat_getLast ne
            have e2 : Bn.eqL sh th r c = (Bn.nums (Bn.eqF sh th r c)).getLast ne := by
              unfold Bn.eqL
              rw [hm, List.getLast_eq_getElem, List.getD_eq_getElem?_getD, List.getElem?_eq_getElem (by omega)]
              simp [ln]
            rw [e2]
            conv => lhs; rw [← e1]
            rw [List.map_append]
            exact atI_last _ _
          refine ⟨_, rfl, .inl ⟨rfl, _, SqL.of hq14⟩, _, rfl, _, rfl, an, _, _, _, rfl, rfl, SqL.of (g14.sub _ _ (s13 _ _ han)), el, q, _, _, rfl, rfl, hq14, by rw [tabI_len]; omega, ?_⟩
          refine ⟨G13, _, _, _, _, _, rfl, g14.put q13 (.inl qH), o13, q13, by rw [upd_ne oq]; exact ho14, ?_, ?_⟩
          · rw [upd_same, show m + ((k - 1) * r + (c + 1)) = m + ((k - 1) * r + c) + 1 by omega]
            congr 2
            show (tab _ _).map V.int ++ [Bn.eqL sh th r c].map V.int = (tab _ _).map V.int
            rw [tab_succ, List.map_append, Bn.row_rhs2 (lst := Bn.eqL sh th) (R := R) hr' hck]
          · rw [show m + ((k - 1) * r + (c + 1)) = m + ((k - 1) * r + c) + 1 by omega, tab_succ, List.map_append]
            exact DaAll.push (DaAll.mono (s9.trans (g10.data.trans s13)) _ _ hacc5) (da_is.mpr ⟨u, rfl, hu13⟩)
      · rintro σ H5 ⟨G5, acc5, z6, z9, z10, z11, rfl, g5, o5, q5, ho5, hq5, hacc5⟩
        have e : m + ((k - 1) * r + (((k : Nat) : Int) - 1).toNat) = m + (k - 1) * (r + 1) := by
          rw [show (((k : Nat) : Int) - 1).toNat = k - 1 by omega, Nat.mul_add, Nat.mul_one]
        rw [e] at hq5 hacc5
        exact ⟨G5, acc5, _, _, _, _, _, _, rfl, g5, o5, q5, ho5, hq5, hacc5⟩
    · rintro σ H3 ⟨G3, acc3, z6, z7, z8, z9, z10, z11, rfl, g3, o3, q3, ho3, hq3, hacc3⟩
      rw [lx] at hq3 hacc3
      obtain ⟨G4, g4, s4, ho4, new4⟩ := g3.pubX ho3 no o3
      obtain ⟨G5, g5, s5, hq5, new5⟩ := g4.pubX hq3 qH (by rw [new4 q oq.symm]; exact q3)
      refine ⟨_, rfl, _, rfl, sz 2, fun p np => ?_⟩
      have g6 := g5.lay (c := .tup [.ref o, .ref q]) np
      have s6 : Same G5 (upd G5 p (.tup [.ref o, .ref q])) := same_updG (g5.freeG np)
      exact post _ _ p _ _ g6 upd_same (da_lst.mpr ⟨o, acc3, rfl, s6 _ _ (s5 _ _ ho4), DaAll.mono ((s4.trans s5).trans s6) _ _ hacc3⟩) (da_is.mpr ⟨q, rfl, s6 _ _ hq5⟩)
end
end Bw
set_option Elab.async false
set_option linter.all false
set_option maxRecDepth 100000
set_option maxHeartbeats 8000000
set_option exponentiation.threshold 10000
/-! BwI: a noise, or a game. -/
namespace Bw
open PySem L2
theorem op_repA {X : Cx} {K : PySem.W.Frag} (h : X.K = K) : OpR X (binaryOp .Mult) (rRepT K) := h ▸ op_repT
theorem op_catA {X : Cx} {K : PySem.W.Frag} (h : X.K = K) : OpR X (binaryOp .Add) (rCatT K) := h ▸ op_catT
theorem DaAll.cut {H : Hp} {ds : List PyData} {xs : List V} {lo hi : Option Int} (h : DaAll H ds xs) : ∃ es : List PyData, DaAll H es (cutV xs lo hi) ∧ ∃ a b, es = (ds.drop a).take b := by
  unfold cutV
  exact ⟨_, DaAll.take _ (DaAll.drop _ h), _, _, rfl⟩
theorem gcd_lt {a b : Int} {n : Nat} (ha : a.natAbs < 2 ^ n) (hb : b.natAbs < 2 ^ n) : ((Int.gcd a b : Nat) : Int).natAbs < 2 ^ n := by
  rw [Int.natAbs_natCast]
  by_cases e : a = 0
  · subst e
    rw [Int.gcd_zero_left]
    exact hb
  · have := Int.gcd_le_natAbs_left (a := a) b (by omega)
    omega
/-- the weights of the game, by places -/
def gameW (s t : List (List Int)) (m k : Nat) (y : Nat → Int) (i : Nat) : Int := Bn.eqC s t (i / (k - 1)) (i % (k - 1)) * y (m + i)
section
variable {P : Program} {w : World} {K : PySem.W.Frag} {mg : Str → Option Value} {base : Heap} {f : Addr} {fd : FuncData}
-- noise_or_game (statement 31)
abbrev s_noise_or_game : Stmt := topS 31
abbrev n_noise_or_game : List Str := ["news", "other", "rows", "rights", "right", "found", "many", "size", "numbers", "weights", "divisor", "number", "line", "column", "scale", "actions", "above", "below", "place"]
theorem sc_noise_or_game : FnScope n_noise_or_game ["news", "other"] (defScope s_noise_or_game) := ⟨rfl, rfl, rfl, by decide +kernel, rfl, by decide +kernel, by decide +kernel⟩
-- slots: 0 news, 1 other, 2 rows, 3 rights, 4 right, 5 found, 6 many, 7 size*, 8 numbers*, 9 weights*, 10 divisor*, 11 number, 12 line, 13 column*, 14 scale, 15 actions, 16 above, 17 below, 18 place
def spGame : Sp := fun vs H Q _ => ∃ (s t : List (List Int)) (R : Nat) (M : Int) (G : Hp) (v v2 : V), Same G H ∧ vs = [v, v2] ∧ Da G (dTab (Bn.lowT s)) v ∧ Da G (dTab (Bn.lowT t)) v2 ∧ Bn.Sht R M s ∧ Bn.Sht R M t ∧ 0 < R ∧ Bn.Fit R M ∧
  ∀ G' H' p x y, Grow No G H G' H' → G' p = some (.tup [x, y]) → (Bn.Tells s t ∧ x ≠ .non ∧ y = .non ∨ ¬ Bn.Tells s t ∧ x = .non ∧ y ≠ .non) → Q (.ref p) H'
theorem ok_noise_or_game (D : DefAt K mg "noise_or_game" s_noise_or_game ["news", "other"] f fd) (B : Blt mg) (G_equations_of : Kept P w K mg base 5 "equations_of" ["news", "other"] spEq) (G_solve : Kept P w K mg base 2 "solve" ["rows", "rights"] spSolve)
    (G_lowest : Kept P w K mg base 2 "lowest" ["above", "below"] spLow) (G_common_below : Kept P w K mg base 3 "common_below" ["fractions"] spCb) (G_greatest_divisor : Kept P w K mg base 1 "greatest_divisor" ["one", "other"] spGcd)
    {a_ZERO : Addr} (hm_ZERO : mg "ZERO" = some (.ref a_ZERO)) : Kept P w K mg base 6 "noise_or_game" ["news", "other"] spGame := by
  refine D.kept (D.F.ok sc_noise_or_game (fun vs H Q E h => ?_) (fun cdv A outer s H vs Q E hr h => ?_))
  · obtain ⟨s, t, R, M, G, v, v2, _, rfl, _⟩ := h
    rfl
  · obtain ⟨sh, th, R, M, G, v, v2, sG, rfl, hd, hd2, S, T, r0, F, post⟩ := h
    obtain ⟨a, xs, rfl, ha, lx, hxs⟩ := tab_row hd S r0
    obtain ⟨b, ys, rfl, hb, ly, hys⟩ := tab_row hd2 T r0
    have wS := S.wids r0
    have wT := T.wids r0
    have N1 := S.nws r0
    have N2 := T.nws r0
    have Z := Bn.eq_scl S T r0
    have tel : Bn.Tells sh th = Bn.Tl R (Bn.wid sh) (Bn.wid th) (Bn.ent sh) (Bn.tot sh) (Bn.ent th) (Bn.tot th) := by unfold Bn.Tells; rw [S.len]
    obtain ⟨m, hm⟩ : ∃ m, Bn.wid sh = m := ⟨_, rfl⟩
    obtain ⟨k, hk⟩ : ∃ k, Bn.wid th = k := ⟨_, rfl⟩
    rw [hm] at wS hxs N1 Z
    rw [hk] at wT hys N2 Z
    rw [hm, hk] at tel
    obtain ⟨m1, m3, _⟩ := wS
    obtain ⟨k1, k3, _⟩ := wT
    have r4 := F.r4
    have M1 := S.one_le r0
    have kR : (k - 1) * R ≤ 2 * R := Nat.mul_le_mul (by omega) (Nat.le_refl _)
    have km : k * m ≤ 3 * 3 := Nat.mul_le_mul k3 m3
    have big : sizeLine = 16777216 := sizeLine_eq
    obtain ⟨c0, l0, ec0, hc0, ll0, _⟩ := hxs 0 r0
    obtain ⟨d0, l1, ed0, hd0, ll1, _⟩ := hys 0 r0
    have full : fullA (m + (k - 1) * R) (k * m) (Bn.eqB m k (Bn.eqN sh th)) (Bn.eqR m k (Bn.eqL sh th)) = Bn.eqA R m k (Bn.eqN sh th) (Bn.eqL sh th) := rfl
    have fle := F.le M1
    have num0 : ∀ r c p, r < R → 0 ≤ Bn.eqN sh th r c p ∧ Bn.eqN sh th r c p ≤ M ^ 4 := fun r c p hr => Bn.eqN_le S T r0 M1 hr
    have lst0 : ∀ r c, r < R → 0 ≤ Bn.eqL sh th r c ∧ Bn.eqL sh th r c ≤ M ^ 4 := fun r c hr => Bn.eqL_le S T r0 M1 hr
    have f1 := Bn.fitM_pos R
    have rr0 : ∀ i, i < m + (k - 1) * R → 0 ≤ Bn.eqR m k (Bn.eqL sh th) i ∧ (Bn.eqR m k (Bn.eqL sh th) i).natAbs ≤ Bn.fitM R := fun i hi => by
      unfold Bn.eqR
      by_cases q : i < m
      · rw [if_pos q]
        exact ⟨by decide, f1⟩
      · rw [if_neg q]
        obtain ⟨h1, _, _⟩ := Bn.row_rc q hi
        have := lst0 ((i - m) / (k - 1)) ((i - m) % (k - 1)) h1
        omega
    have hM : ∀ i j, i < m + (k - 1) * R → j ≤ k * m + (m + (k - 1) * R) → (fullA (m + (k - 1) * R) (k * m) (Bn.eqB m k (Bn.eqN sh th)) (Bn.eqR m k (Bn.eqL sh th)) i j).natAbs ≤ Bn.fitM R := fun i j hi hj => by
      unfold fullA
      split
      · unfold Bn.eqB
        split
        · split
          · exact f1
          · exact Nat.zero_le _
        · rename_i q
          split
          · obtain ⟨h1, _, _⟩ := Bn.row_rc q hi
            have := num0 ((i - m) / (k - 1)) ((i - m) % (k - 1)) (j / k) h1
            omega
          · exact Nat.zero_le _
      · split
        · split
          · exact f1
          · exact Nat.zero_le _
        · exact (rr0 i hi).2
    have hTop := Bn.fit_top (R := R) (n := m + (k - 1) * R) r4 (by omega)
    refine ⟨_, (pss_cons (ps_asg (pe_kept G_equations_of (hr.mono (by decide)) (by rfl) (pa_cons (pv 0) (pa_cons (pv 1) pa_nil))) (pg_tupK (K := K) rfl rfl (pgs_cons (pg_name (i := 2) sc_noise_or_game.nd rfl (Or.inl rfl)) (pgs_cons (pg_name (i := 3) sc_noise_or_game.nd rfl (Or.inl rfl)) pgs_nil))))
        (pss_cons (ps_asg (pe_kept G_solve (hr.mono (by decide)) (by rfl) (pa_cons (pv 2) (pa_cons (pv 3) pa_nil))) (pg_tupK (K := K) rfl rfl (pgs_cons (pg_name (i := 4) sc_noise_or_game.nd rfl (Or.inl rfl)) (pgs_cons (pg_name (i := 5) sc_noise_or_game.nd rfl (Or.inl rfl)) pgs_nil))))
        (pss_cons (ps_asg (pe_tup (pa_cons (pe_callB (call_lenK (K := K) rfl) (by rfl) B.len_ (by decide +kernel) (pa_cons (pe_ix (ix_tupK (K := K) rfl) (pv 0) pe_int (fun _ _ => rfl)) pa_nil)) (pa_cons (pe_callB (call_lenK (K := K) rfl) (by rfl) B.len_ (by decide +kernel) (pa_cons (pe_ix (ix_tupK (K := K) rfl) (pv 1) pe_int (fun _ _ => rfl)) pa_nil)) pa_nil))) (pg_tupK (K := K) rfl rfl (pgs_cons (pg_name (i := 6) sc_noise_or_game.nd rfl (Or.inl rfl)) (pgs_cons (pg_name (i := 7) sc_noise_or_game.nd rfl (Or.inr rfl)) pgs_nil))))
        (pss_cons (ps_if (pt_val (pv 4))
        (pss_cons (ps_set (i := 8) sc_noise_or_game.nd rfl (Or.inr rfl) (pe_lc (own := [("above", 16), ("below", 17)]) (g := gTup K 2 (gCons (gName 16) (gCons (gName 17) gNil))) (tt := tYes) rfl sc_noise_or_game.nd (pi_listK (K := K) rfl (pv 5)) (blkOk_by (own := [("above", 16), ("below", 17)]) (N := n_noise_or_game) (sc := defScope s_noise_or_game) (by decide +kernel)) (fun _ _ _ _ _ => (pg_tupK (K := K) rfl rfl (pgs_cons (pg_name (i := 16) sc_noise_or_game.nd rfl (Or.inl rfl)) (pgs_cons (pg_name (i := 17) sc_noise_or_game.nd rfl (Or.inl rfl)) pgs_nil)))) (fun _ _ _ _ _ => pts_nil) (fun _ _ _ _ _ => (pe_kept G_lowest (hr.mono (by decide)) (by rfl) (pa_cons (pv 16) (pa_cons (pv 17) pa_nil))))))
          (pss_one (ps_ret (pe_tup (pa_cons (pe_callTy (call_tupleK (K := K) rfl) (by rfl) B.tuple_ (by decide +kernel) (pa_cons (pe_lc (own := [("place", 18)]) (g := gName 18) (tt := tYes) rfl sc_noise_or_game.nd (pi_range1 (by rfl) B.range_ (pa_cons (pv 6) pa_nil)) (blkOk_by (own := [("place", 18)]) (N := n_noise_or_game) (sc := defScope s_noise_or_game) (by decide +kernel)) (fun _ _ _ _ _ => (pg_name (i := 18) sc_noise_or_game.nd rfl (Or.inl rfl))) (fun _ _ _ _ _ => pts_nil) (fun _ _ _ _ _ => (pe_callTy (call_tupleK (K := K) rfl) (by rfl) B.tuple_ (by decide +kernel) (pa_cons (pe_slice (sl_listK (K := K) rfl) (pv 8) (po_some (pe_op op_mulW (pv 18) (pv 7))) (po_some (pe_op op_add (pe_op op_mulW (pv 18) (pv 7)) (pv 7)))) pa_nil)))) pa_nil)) (pa_cons pe_non pa_nil))))))
        pss_nil)
        (pss_cons (ps_asg (pe_tup (pa_cons (pe_lst pa_nil) (pa_cons pe_int pa_nil))) (pg_tupK (K := K) rfl rfl (pgs_cons (pg_name (i := 9) sc_noise_or_game.nd rfl (Or.inr rfl)) (pgs_cons (pg_name (i := 10) sc_noise_or_game.nd rfl (Or.inr rfl)) pgs_nil))))
        (pss_cons (ps_for PassesOwn.never rfl (pi_enumT (by rfl) B.enumerate_ (pa_cons (pv 0) pa_nil)) (pg_tupK (K := K) rfl rfl (pgs_cons (pg_name (i := 11) sc_noise_or_game.nd rfl (Or.inl rfl)) (pgs_cons (pg_name (i := 12) sc_noise_or_game.nd rfl (Or.inl rfl)) pgs_nil)))
        (pss_one (ps_for PassesOwn.never rfl (pi_range1 (by rfl) B.range_ (pa_cons (pe_op op_sub (pv 7) pe_int) pa_nil)) (pg_name (i := 13) sc_noise_or_game.nd rfl (Or.inr rfl))
          (pss_cons (ps_set (i := 14) sc_noise_or_game.nd rfl (Or.inl rfl) (pe_kept G_common_below (hr.mono (by decide)) (by rfl) (pa_cons (pe_op op_cat (pe_callTy (call_listK (K := K) rfl) (by rfl) B.list_ (by decide +kernel) (pa_cons (pv 12) pa_nil)) (pe_lst (pa_cons (pe_ix (ix_tupK (K := K) rfl) (pe_ix (ix_tupK (K := K) rfl) (pv 1) (pv 11) (fun _ _ => rfl)) (pv 13) (fun _ _ => rfl)) pa_nil))) pa_nil)))
            (pss_cons (ps_expr (pe_bm PySem.F.plainAttrs_list PySem.F.slot_list_append PySem.F.type_list_append mt_append (pv 9) (pa_cons (pe_op op_mulW (pv 14) (pe_ix (ix_listK (K := K) rfl) (pv 5) (pe_op op_add (pe_op op_add (pv 6) (pe_op op_mulW (pv 11) (pe_op op_sub (pv 7) pe_int))) (pv 13)) (fun _ _ => rfl))) pa_nil)))
            (pss_one (ps_set (i := 10) sc_noise_or_game.nd rfl (Or.inr rfl) (pe_kept G_greatest_divisor (hr.mono (by decide)) (by rfl) (pa_cons (pv 10) (pa_cons (pe_callB (call_abs) (by rfl) B.abs_ (by decide +kernel) (pa_cons (pe_ix (ix_listK (K := K) rfl) (pv 9) (pe_un un_neg pe_int) (fun _ _ => rfl)) pa_nil)) pa_nil))))))))))
        (pss_cons (ps_set (i := 15) sc_noise_or_game.nd rfl (Or.inl rfl) (pe_lst pa_nil))
        (pss_cons (ps_for PassesOwn.never rfl (pi_range1 (by rfl) B.range_ (pa_cons (pe_op op_sub (pv 7) pe_int) pa_nil)) (pg_name (i := 13) sc_noise_or_game.nd rfl (Or.inr rfl))
        (pss_one (ps_expr (pe_bm PySem.F.plainAttrs_list PySem.F.slot_list_append PySem.F.type_list_append mt_append (pv 15) (pa_cons (pe_callTy (call_tupleK (K := K) rfl) (by rfl) B.tuple_ (by decide +kernel) (pa_cons (pe_lc (own := [("number", 11)]) (g := gName 11) (tt := tYes) rfl sc_noise_or_game.nd (pi_range1 (by rfl) B.range_ (pa_cons (pe_callB (call_lenK (K := K) rfl) (by rfl) B.len_ (by decide +kernel) (pa_cons (pv 0) pa_nil)) pa_nil)) (blkOk_by (own := [("number", 11)]) (N := n_noise_or_game) (sc := defScope s_noise_or_game) (by decide +kernel)) (fun _ _ _ _ _ => (pg_name (i := 11) sc_noise_or_game.nd rfl (Or.inl rfl))) (fun _ _ _ _ _ => pts_nil) (fun _ _ _ _ _ => (pe_tup (pa_cons (pe_op op_fdivW (pe_ix (ix_listK (K := K) rfl) (pv 9) (pe_op op_add (pe_op op_mulW (pv 11) (pe_op op_sub (pv 7) pe_int)) (pv 13)) (fun _ _ => rfl)) (pv 10)) (pa_cons pe_int pa_nil))))) pa_nil)) pa_nil)))))
        (pss_one (ps_ret (pe_tup (pa_cons pe_non (pa_cons (pe_tup (pa_cons (pe_op (op_repA (K := K) rfl) (pe_tup (pa_cons (pe_tup (pa_cons pe_int (pa_cons (pe_callB (call_lenK (K := K) rfl) (by rfl) B.len_ (by decide +kernel) (pa_cons (pv 0) pa_nil)) pa_nil))) pa_nil)) (pe_callB (call_lenK (K := K) rfl) (by rfl) B.len_ (by decide +kernel) (pa_cons (pv 0) pa_nil))) (pa_cons (pe_op (op_catA (K := K) rfl) (pe_callTy (call_tupleK (K := K) rfl) (by rfl) B.tuple_ (by decide +kernel) (pa_cons (pv 15) pa_nil)) (pe_tup (pa_cons (pe_op (op_repA (K := K) rfl) (pe_tup (pa_cons (pe_glob (v := .ref a_ZERO) (by rfl) hm_ZERO rfl) pa_nil)) (pe_callB (call_lenK (K := K) rfl) (by rfl) B.len_ (by decide +kernel) (pa_cons (pv 0) pa_nil))) pa_nil))) pa_nil))) pa_nil))))))))))))), ?_⟩
    -- rows, rights = equations_of(news, other)
    refine ⟨_, rfl, _, rfl, sh, th, R, m, k, M, G, _, _, sG, rfl, hd, hd2, S, T, r0, F, hm, hk, fun G1 H1 p1 x1 y1 g1 hp1 dR dr => ?_⟩
    refine ⟨p1, _, rfl, SqT.of (g1.sub _ _ hp1), rfl, _, _, rfl, _, _, rfl, rfl, ?_⟩
    -- right, found = solve(rows, rights)
    refine ⟨_, rfl, _, rfl, m + (k - 1) * R, k * m, _, _, Bn.fitM R, G1, _, _, g1.sub, rfl, dR, dr, by omega, by omega, by omega, fun i hi => (rr0 i hi).1, hM, hTop, fun G2 H2 p2 x2 y2 g2 hp2 out => ?_⟩
    have g2' := g1.trans g2
    refine ⟨p2, _, rfl, SqT.of (g2.sub _ _ hp2), rfl, _, _, rfl, _, _, rfl, rfl, ?_⟩
    -- many, size
    refine ⟨_, rfl, a, xs, 0, .ref c0, rfl, rfl, SqT.of (g2'.sub _ _ (g2'.data _ _ ha)), atI_nat (j := 0) ec0, c0, _, rfl, .inr (SqT.of (g2'.sub _ _ (g2'.data _ _ hc0))), ?_⟩
    refine ⟨_, rfl, b, ys, 0, .ref d0, rfl, rfl, SqT.of (g2'.sub _ _ (g2'.data _ _ hb)), atI_nat (j := 0) ed0, d0, _, rfl, .inr (SqT.of (g2'.sub _ _ (g2'.data _ _ hd0))), ?_⟩
    rw [ll0, ll1]
    refine ⟨sz 2, fun p3 np3 => ?_⟩
    generalize eH3 : upd _ p3 _ = H3
    obtain ⟨s3, hp3⟩ := new2 np3 eH3
    have g3 := g2'.more s3
    refine ⟨p3, _, rfl, SqT.of hp3, rfl, _, _, rfl, _, _, rfl, rfl, ?_⟩
    rw [full] at out
    rcases out with ⟨rfl, feas, l, dl, ll, okl⟩ | ⟨rfl, yv, cert, dy, hy⟩
    · -- a noise
      have tells : Bn.Tells sh th := by
        rw [tel]
        exact Bn.Tl.of_feas N1 N2 k1 Z feas
      refine ⟨_, rfl, _, rfl, iteT ?_⟩
      obtain ⟨aF, xF, rfl, hF, hxF⟩ := da_lst.mp dl
      have lF := hxF.mapLen
      -- numbers
      refine ⟨_, rfl, aF, rfl, ⟨_, SqL.of (g3.sub _ _ hF)⟩, fun aN nN => ?_⟩
      refine lc_data (walk_list (K := K) (a := aF) (xs := xF)) dFr (fun _ _ => True) (S := No) (G0 := G) (H0 := H) (G1 := G2) (H1 := H3) (fun _ _ => True) g3 nN (by omega)
        (fun G' H' s1 gr => SqL.of (gr.sub _ _ (s1 _ _ hF))) trivial (fun _ _ _ _ _ _ => trivial) ?_ ?_
      · rintro i x G' _ H' hi s1 gr gD hD' _ ⟨rfl, hx'⟩ Post hk'
        obtain ⟨fr, e1, e2⟩ := hxF.mapGet hx'
        obtain ⟨p, rfl, hp⟩ := fr_at (K := K) (s1.trans gr.sub) e2
        have mem := List.mem_of_getElem? e1
        refine ⟨p, _, rfl, hp, rfl, _, _, rfl, _, _, rfl, rfl, rfl, ?_⟩
        refine ⟨_, rfl, _, rfl, fr.1, fr.2, G', gr.sub, rfl, okl.pos _ mem, lt_pow (okl.b1 _ mem) (by decide), lt_pow (okl.b2 _ mem) (by decide), fun G5 H5 v5 g5 d5 => ?_⟩
        exact hk' v5 H5 G5 _ g5.no (g5.sm.at hD') trivial d5 trivial
      intro G4 H4 l4 s4 g4 ll4 _ dN _
      obtain ⟨_, xN, eN, hN, hxN⟩ := da_lst.mp dN
      cases eN
      have lN := hxN.mapLen
      -- the noise
      refine ⟨_, rfl, _, rfl, by omega, by omega, fun aO nO => ?_⟩
      refine lc_data (walk_range (lo := 0) (n := ((m : Nat) : Int).toNat)) dFrT (fun _ _ => True) (S := No) (G0 := G) (H0 := H) (G1 := G4) (H1 := H4) (fun _ _ => True) g4 nO (by omega)
        (fun G' H' s1 gr => trivial) trivial (fun _ _ _ _ _ _ => trivial) ?_ ?_
      · rintro i x G' _ H' hi s1 gr gD hD' _ ⟨rfl, rfl⟩ Post hk'
        refine ⟨rfl, ?_⟩
        refine ⟨_, rfl, _, rfl, _, rfl, _, _, rfl, rfl, small_mul (by omega) (by omega), _, rfl, _, rfl, _, rfl, _, _, rfl, rfl, small_mul (by omega) (by omega), _, rfl, _, _, rfl, rfl, _, rfl, aN, xN, rfl, SqL.of (gr.sub _ _ (s1 _ _ hN)), fun p5 np5 => ?_⟩
        generalize eH5 : upd _ p5 _ = H5
        obtain ⟨s5, hp5⟩ := new2 np5 eH5
        have g5 := (Grow.refl (S := No) gr.sub).more s5
        refine ⟨p5, _, rfl, .inl ⟨SqL.of hp5, fun p6 np6 => ?_⟩⟩
        obtain ⟨es, de, na, nb, ee⟩ := DaAll.cut (lo := some ((0 + ((i : Nat) : Int)) * (k : Nat))) (hi := some ((0 + ((i : Nat) : Int)) * (k : Nat) + (k : Nat))) (DaAll.mono s1 _ _ hxN)
        have g6 := g5.lay (c := .tup (cutV xN (some ((0 + ((i : Nat) : Int)) * (k : Nat))) (some ((0 + ((i : Nat) : Int)) * (k : Nat) + (k : Nat))))) np6
        have dn : H5 aO ≠ none := by
          rw [s5.at hD']
          exact hD'
        refine hk' _ _ _ ((l4.drop na).take nb) g6.no ((same_updG np6).at dn |>.trans (s5.at hD')) trivial (da_tup.mpr ⟨p6, _, rfl, upd_same, DaAll.mono (same_updG (g5.freeG np6)) _ _ ?_⟩) trivial
        rw [List.map_take, List.map_drop, ← ee]
        exact de
      intro G5 H5 l5 s5 g5 ll5 _ dO _
      obtain ⟨_, xO, eO, hO, hxO⟩ := da_lst.mp dO
      cases eO
      refine ⟨aO, xO, rfl, .inl ⟨SqL.of (g5.sub _ _ hO), fun p6 np6 => ?_⟩⟩
      have g6 := g5.loc (c := .tup xO) np6
      refine ⟨sz 2, fun p7 np7 => ?_⟩
      have g7 := g6.lay (c := .tup [.ref p6, .non]) np7
      exact post _ _ p7 _ _ g7 upd_same (.inl ⟨tells, by simp, rfl⟩)
    · -- a game
      have nt : ¬ Bn.Tells sh th := fun z => by
        rw [tel] at z
        exact Bn.not_both (Bn.Tl.feas N1 N2 Z z) cert
      have R2 : 2 ≤ R := by
        rcases Nat.lt_or_ge R 2 with q | q
        · have : R = 1 := by omega
          subst this
          exact absurd (by rw [tel]; exact Bn.Tl.one N1 N2) nt
        · exact q
      obtain ⟨rn, dn, hrn, hdn, yn⟩ := cert.some k1
      have k2 : 2 ≤ k := by omega
      have cle : ∀ r c, r < R → (Bn.eqC sh th r c).natAbs < 2 ^ 401 := fun r c hr => by
        have q1 := Bn.eq_cb_le (c := c) S T r0 M1 hr
        have q2 := (eqF_okf S T r0 F.small hr (c := c)).cb.1
        have q3 : Bn.fitM R < 2 ^ 401 := by
          unfold Bn.fitM
          split
          · decide +kernel
          · decide +kernel
        have q4 : Bn.eqC sh th r c = Bn.cb (Bn.eqF sh th r c) := rfl
        omega
      refine ⟨_, rfl, _, rfl, iteF ?_⟩
      obtain ⟨aF, rfl, hF⟩ := da_tabI dy
      -- weights, divisor = ([], 0)
      refine ⟨Nat.zero_le _, fun aW nW => ?_⟩
      generalize eH4 : upd _ aW _ = H4
      obtain ⟨s4, hW4⟩ := new2 nW eH4
      refine ⟨sz 2, fun p5 np5 => ?_⟩
      generalize eH5 : upd _ p5 _ = H5
      obtain ⟨s5, hp5⟩ := new2 np5 eH5
      have g5 := (g3.more s4).more s5
      have WG : G2 aW = none := g3.freeG nW
      have WH : H aW = none := g3.free nW
      have hW5 := s5 _ _ hW4
      refine ⟨p5, _, rfl, SqT.of hp5, rfl, _, _, rfl, _, _, rfl, rfl, ?_⟩
      -- the weights
      refine ⟨_, rfl, a, xs, rfl, SqT.of (g5.sub _ _ (g2'.data _ _ ha)), ?_⟩
      refine for_it (walk_enumT (K := K) (a := a) (xs := xs)) (fun r σ H' => ∃ (G' : Hp) (dv : Int) (z11 z12 z13 z14 : Option V), σ = [some (.ref a), some (.ref b), some x1, some y1, some (.bl false), some (.ref aF), some (.int m), some (.int k), none, some (.ref aW), some (.int dv), z11, z12, z13, z14, none, none, none, none] ∧
          Grow No G H G' H' ∧ Same G2 G' ∧ G' aW = none ∧ H' aW = some (.lst (tabI ((k - 1) * r) (gameW sh th m k yv))) ∧ 0 ≤ dv ∧ dv.natAbs < 2 ^ 7000 ∧ (dv = 0 → ∀ i, i < (k - 1) * r → gameW sh th m k yv i = 0))
        ⟨G2, 0, _, _, _, _, rfl, g5, .refl _, WG, hW5, Int.le_refl _, by exact Nat.pow_pos (by decide), fun _ i hi => absurd hi (by rw [Nat.mul_zero]; omega)⟩ (fun r σ H' _ ⟨G', _, _, _, _, _, _, g', _⟩ => SqT.of (g'.sub _ _ (g'.data _ _ ha))) ?_ ?_
      · rintro r x σ H6 _ hrx ⟨G6, dv, z11, z12, z13, z14, rfl, g6, s26, W6, hW6, dv0, dvb, dvz⟩ ⟨tt, u1, u2, rfl, ntt, rfl, e3, e4⟩
        cases e3
        have hr' : r < R := by omega
        obtain ⟨ci, li, eci, hci, lli, dli⟩ := hxs r hr'
        obtain ⟨di, mi, edi, hdi, lmi, dmi⟩ := hys r hr'
        obtain rfl : u2 = .ref ci := Option.some.inj (e4.symm.trans eci)
        generalize eH7 : upd _ tt _ = H7
        obtain ⟨s7, ht7⟩ := new2 ntt eH7
        have g7 := g6.more s7
        have hW7 := s7 _ _ hW6
        refine ⟨tt, _, rfl, SqT.of ht7, rfl, _, _, rfl, _, _, rfl, rfl, ?_⟩
        refine ⟨_, rfl, _, _, rfl, rfl, _, rfl, by omega, by omega, ?_⟩
        refine for_it (walk_range (lo := 0) (n := (((k : Nat) : Int) - 1).toNat)) (fun c σ H' => ∃ (G' : Hp) (dv : Int) (z13 z14 : Option V), σ = [some (.ref a), some (.ref b), some x1, some y1, some (.bl false), some (.ref aF), some (.int m), some (.int k), none, some (.ref aW), some (.int dv), some (.int r), some (.ref ci), z13, z14, none, none, none, none] ∧
            Grow No G H G' H' ∧ Same G2 G' ∧ G' aW = none ∧ H' aW = some (.lst (tabI ((k - 1) * r + c) (gameW sh th m k yv))) ∧ 0 ≤ dv ∧ dv.natAbs < 2 ^ 7000 ∧ (dv = 0 → ∀ i, i < (k - 1) * r + c → gameW sh th m k yv i = 0))
          ⟨G6, dv, _, _, rfl, g7, s26, W6, hW7, dv0, dvb, dvz⟩ (fun _ _ _ _ _ => trivial) ?_ ?_
        · rintro c x σ _ H8 hc ⟨G8, dv, z13, z14, rfl, g8, s28, W8, hW8, dv0, dvb, dvz⟩ ⟨rfl, rfl⟩
          have hck : c < k - 1 := by omega
          have rc : (k - 1) * r + c < (k - 1) * R := Bn.blk_lt hr' hck
          obtain ⟨y, ey, dy'⟩ := dmi.mapAt (Bn.lowR_at T r0 hr' (c := c) (by omega))
          show gName 13 (V.int (0 + (c : Nat))) _ _ _
          rw [Int.zero_add]
          -- scale = common_below(list(line) + [other[number][column]])
          refine ⟨_, rfl, ci, li, rfl, .inr (SqT.of (g8.sub _ _ (g8.data _ _ hci))), fun q1 nq1 => ?_⟩
          generalize eH9 : upd _ q1 _ = H9
          obtain ⟨s9, hq1⟩ := new2 nq1 eH9
          refine ⟨_, rfl, _, rfl, b, ys, _, _, rfl, rfl, SqT.of (s9 _ _ (g8.sub _ _ (g8.data _ _ hb))), atI_nat edi, _, rfl, di, mi, _, y, rfl, rfl, SqT.of (s9 _ _ (g8.sub _ _ (g8.data _ _ hdi))), atI_nat ey, sz 1, fun q2 nq2 => ?_⟩
          generalize eH10 : upd _ q2 _ = H10
          obtain ⟨s10, hq2⟩ := new2 nq2 eH10
          refine cat_of (s10 _ _ hq1) hq2 (by rw [lli]; show _ + 1 ≤ _; omega) fun q3 H11 s11 nq3 hq3 => ?_
          have s811 : Same H8 H11 := (s9.trans s10).trans s11
          have nq38 : H8 q3 = none := (s9.trans s10).free nq3
          obtain ⟨G12, g12, s12, hq12, new12⟩ := (g8.more s811).pubX hq3 (g8.free nq38) (g8.freeG nq38)
          have dF : Da G12 (dFrL (Bn.eqF sh th r c)) (.ref q3) := da_lst.mpr ⟨q3, _, rfl, hq12, DaAll.mono s12 _ _ (eqF_da (DaAll.mono g8.data _ _ dli) (Da.mono g8.data _ _ dy'))⟩
          have W12 : G12 aW = none := by rw [new12 aW (ne_of_none hW8 nq38)]; exact W8
          have hW11 := s811 _ _ hW8
          refine ⟨Bn.eqF sh th r c, G12, _, g12.sub, rfl, dF, eqF_okf S T r0 F.small hr', ?_⟩
          -- weights.append(scale * found[many + number * (size - 1) + column])
          have hF11 := g12.sub _ _ (s12 _ _ (s28 _ _ hF))
          have e1 : ((m : Nat) : Int) + ((r : Nat) : Int) * (((k : Nat) : Int) - 1) + ((c : Nat) : Int) = ((m + ((k - 1) * r + c) : Nat) : Int) := by
            rw [show ((k : Nat) : Int) - 1 = ((k - 1 : Nat) : Int) by omega, Int.natCast_add, Int.natCast_add, Int.natCast_mul, Int.mul_comm ((r : Nat) : Int), Int.add_assoc]
          have wt : gameW sh th m k yv ((k - 1) * r + c) = Bn.eqC sh th r c * yv (m + ((k - 1) * r + c)) := by
            unfold gameW
            rw [Bn.blk_div hck, Bn.blk_mod hck]
          have wb : (gameW sh th m k yv ((k - 1) * r + c)).natAbs < 2 ^ 7000 := by
            rw [wt]
            exact lt_pow (wide_lt (cle r c hr') (hy _ (by omega))) (by decide)
          refine ⟨_, rfl, .inl ⟨rfl, _, SqL.of hW11⟩, _, rfl, _, rfl, _, rfl, _, rfl, _, rfl, _, _, rfl, rfl, _, _, rfl, rfl, small_mul (by omega) (by omega), _, _, rfl, rfl, _, rfl, _, _, rfl, rfl, ?_⟩
          refine ⟨aF, _, _, .int (yv (m + ((k - 1) * r + c))), rfl, rfl, SqL.of hF11, by rw [e1]; exact tabI_at (by omega), _, _, rfl, rfl, wide_mul (cle r c hr') (hy _ (by omega)) (by decide) (by decide) (by decide), aW, _, _, rfl, rfl, hW11, by rw [tabI_len]; omega, ?_⟩
          have ew : tabI ((k - 1) * r + c) (gameW sh th m k yv) ++ [.int (Bn.cb (Bn.eqF sh th r c) * yv (m + ((k - 1) * r + c)))] = tabI ((k - 1) * r + (c + 1)) (gameW sh th m k yv) := by
            show (tab _ _).map V.int ++ [Bn.eqC sh th r c * yv (m + ((k - 1) * r + c))].map V.int = (tab _ _).map V.int
            rw [← wt, ← List.map_append, ← tab_succ]
            rfl
          rw [ew]
          have g13 := g12.put (c := .lst (tabI ((k - 1) * r + (c + 1)) (gameW sh th m k yv))) W12 (.inl WH)
          have hW13 : (upd H11 aW (.lst (tabI ((k - 1) * r + (c + 1)) (gameW sh th m k yv)))) aW = some (.lst (tabI ((k - 1) * r + (c + 1)) (gameW sh th m k yv))) := upd_same
          generalize upd H11 aW (.lst (tabI ((k - 1) * r + (c + 1)) (gameW sh th m k yv))) = H13 at g13 hW13 ⊢
          -- divisor = greatest_divisor(divisor, abs(weights[-1]))
          refine ⟨_, rfl, _, rfl, 1, rfl, aW, _, -1, _, rfl, rfl, SqL.of hW13, tabI_last (show (k - 1) * r + (c + 1) = ((k - 1) * r + c) + 1 by omega), _, rfl, dv, _, rfl, ?_, ?_, ?_⟩
          · exact lt_pow dvb (by decide)
          · rw [abs_if, Int.natAbs_natCast]
            exact Nat.lt_of_lt_of_le wb (pow_le_pow (by decide))
          · rw [abs_if]
            refine ⟨G12, _, _, _, rfl, g13, s28.trans s12, W12, hW13, Int.natCast_nonneg _, gcd_lt dvb (by rw [Int.natAbs_natCast]; exact wb), fun e0 i hi => ?_⟩
            have e1 : Int.gcd dv ((gameW sh th m k yv ((k - 1) * r + c)).natAbs : Int) = 0 := by omega
            rw [Int.gcd_eq_zero_iff] at e1
            by_cases q : i = (k - 1) * r + c
            · rw [q]
              omega
            · exact dvz e1.1 i (by omega)
        · rintro σ H8 ⟨G8, dv, z13, z14, rfl, g8, s28, W8, hW8, dv0, dvb, dvz⟩
          have e : (k - 1) * r + (((k : Nat) : Int) - 1).toNat = (k - 1) * (r + 1) := by
            rw [show (((k : Nat) : Int) - 1).toNat = k - 1 by omega, Nat.mul_add, Nat.mul_one]
          rw [e] at hW8 dvz
          exact ⟨G8, dv, _, _, _, _, rfl, g8, s28, W8, hW8, dv0, dvb, dvz⟩
      · rintro σ H6 ⟨G6, dv, z11, z12, z13, z14, rfl, g6, s26, W6, hW6, dv0, dvb, dvz⟩
        rw [lx] at hW6 dvz
        -- the divisor is not 0
        have dn0 : dv ≠ 0 := fun e => by
          have q := dvz e _ (Bn.blk_lt hrn hdn)
          have wt : gameW sh th m k yv ((k - 1) * rn + dn) = Bn.eqC sh th rn dn * yv (m + ((k - 1) * rn + dn)) := by
            unfold gameW
            rw [Bn.blk_div hdn, Bn.blk_mod hdn]
          rw [wt] at q
          have cp := (eqF_okf S T r0 F.small hrn (c := dn)).cb.1
          have cq : Bn.eqC sh th rn dn = Bn.cb (Bn.eqF sh th rn dn) := rfl
          rcases Int.mul_eq_zero.mp q with z | z
          · omega
          · exact yn z
        have hT6 : SqT K H6 a xs := SqT.of (g6.sub _ _ (s26 _ _ (g2'.data _ _ ha)))
        -- actions = []
        refine ⟨Nat.zero_le _, fun aA nA => ?_⟩
        generalize eH7 : upd _ aA _ = H7
        obtain ⟨s7, hA7⟩ := new2 nA eH7
        have g7 := g6.more s7
        have AG : G6 aA = none := g6.freeG nA
        have AH : H aA = none := g6.free nA
        have nWA : aW ≠ aA := ne_of_none hW6 nA
        -- the actions
        refine ⟨_, rfl, _, _, rfl, rfl, _, rfl, by omega, by omega, ?_⟩
        refine for_it (walk_range (lo := 0) (n := (((k : Nat) : Int) - 1).toNat)) (fun c σ H' => ∃ (G' : Hp) (acc : List V) (z13 : Option V), σ = [some (.ref a), some (.ref b), some x1, some y1, some (.bl false), some (.ref aF), some (.int m), some (.int k), none, some (.ref aW), some (.int dv), z11, z12, z13, z14, some (.ref aA), none, none, none] ∧
            Grow No G H G' H' ∧ Same G2 G' ∧ G' aW = none ∧ G' aA = none ∧ H' aW = some (.lst (tabI ((k - 1) * R) (gameW sh th m k yv))) ∧ H' aA = some (.lst acc) ∧ acc.length = c)
          ⟨G6, [], _, rfl, g7, s26, W6, AG, s7 _ _ hW6, hA7, rfl⟩ (fun _ _ _ _ _ => trivial) ?_ ?_
        · rintro c x σ _ H8 hc ⟨G8, acc, z13, rfl, g8, s28, W8, A8, hW8, hA8, lacc⟩ ⟨rfl, rfl⟩
          have hck : c < k - 1 := by omega
          have hT8 : SqT K H8 a xs := SqT.of (g8.sub _ _ (s28 _ _ (g2'.data _ _ ha)))
          show gName 13 (V.int (0 + (c : Nat))) _ _ _
          rw [Int.zero_add]
          refine ⟨_, rfl, .inl ⟨rfl, _, SqL.of hA8⟩, ?_⟩
          refine ⟨_, rfl, a, _, rfl, .inr hT8, _, rfl, by omega, by omega, fun aN nN => ?_⟩
          rw [lx]
          refine lc_data (walk_range (lo := 0) (n := ((R : Nat) : Int).toNat)) dFr (fun _ _ => True) (S := No) (G0 := G8) (H0 := H8) (G1 := G8) (H1 := H8) (fun _ _ => True) (Grow.refl g8.sub) nN (by omega)
            (fun G' H' s1 gr => trivial) trivial (fun _ _ _ _ _ _ => trivial) ?_ ?_
          · rintro i x G' _ H' hi s1 gr gD hD' _ ⟨rfl, rfl⟩ Post hk'
            have hir : i < R := by omega
            have rc : (k - 1) * i + c < (k - 1) * R := Bn.blk_lt hir hck
            have hW' := gr.sm _ _ hW8
            refine ⟨rfl, ?_⟩
            have e1 : (0 + ((i : Nat) : Int)) * (((k : Nat) : Int) - 1) + ((c : Nat) : Int) = (((k - 1) * i + c : Nat) : Int) := by
              rw [Int.zero_add, show ((k : Nat) : Int) - 1 = ((k - 1 : Nat) : Int) by omega, Int.natCast_add, Int.natCast_mul, Int.mul_comm ((i : Nat) : Int)]
            refine ⟨_, rfl, _, rfl, _, rfl, _, _, rfl, rfl, _, _, rfl, rfl, small_mul (by omega) (by omega), _, rfl, _, _, rfl, rfl, aW, _, _, .int (gameW sh th m k yv ((k - 1) * i + c)), rfl, rfl, SqL.of hW', by rw [e1]; exact tabI_at rc, _, rfl, _, _, rfl, rfl, wide_div (by omega) dvb (by decide) (by decide), sz 2, fun p9 np9 => ?_⟩
            have g9 := (Grow.refl (S := No) gr.sub).lay (c := .tup [.int (gameW sh th m k yv ((k - 1) * i + c) / dv), .int 1]) np9
            exact hk' _ _ _ (gameW sh th m k yv ((k - 1) * i + c) / dv, 1) g9 ((same_updG np9).at hD') trivial (da_fr.mpr ⟨p9, rfl, upd_same⟩) trivial
          · rintro G9 H9 l9 s9 g9 ll9 _ d9 _
            obtain ⟨_, x9, e9, h9, _⟩ := da_lst.mp d9
            cases e9
            refine ⟨aN, x9, rfl, .inl ⟨SqL.of (g9.sub _ _ h9), fun q1 nq1 => ?_⟩⟩
            generalize eH10 : upd _ q1 _ = H10
            obtain ⟨s10, hq1⟩ := new2 nq1 eH10
            have g10 := (g8.trans g9).more s10
            have A9 := g9.new aA A8 (by rw [hA8]; simp)
            have W9 := g9.new aW W8 (by rw [hW8]; simp)
            have hA10 := s10 _ _ (g9.sm _ _ hA8)
            have hW10 := s10 _ _ (g9.sm _ _ hW8)
            refine ⟨aA, acc, _, rfl, rfl, hA10, by omega, ?_⟩
            exact ⟨G9, _, _, rfl, g10.put A9 (.inl AH), s28.trans g9.data, W9, A9, by rw [upd_ne nWA]; exact hW10, upd_same, by rw [List.length_append, lacc]; rfl⟩
        · rintro σ H8 ⟨G8, acc, z13, rfl, g8, s28, W8, A8, hW8, hA8, lacc⟩
          have hT8 : SqT K H8 a xs := SqT.of (g8.sub _ _ (s28 _ _ (g2'.data _ _ ha)))
          have lm : acc ≠ [] := fun e => by
            rw [e] at lacc
            have : (0 : Nat) = (((k : Nat) : Int) - 1).toNat := lacc
            omega
          refine ⟨_, rfl, a, _, rfl, .inr hT8, sz 2, fun q1 nq1 => ?_⟩
          rw [lx]
          generalize eJ1 : upd _ q1 _ = J1
          obtain ⟨t1, hq1⟩ := new2 nq1 eJ1
          refine ⟨sz 1, fun q2 nq2 => ?_⟩
          generalize eJ2 : upd _ q2 _ = J2
          obtain ⟨t2, hq2⟩ := new2 nq2 eJ2
          have g2j := (g8.more t1).more t2
          have hT2 : SqT K J2 a xs := SqT.of (g2j.sub _ _ (s28 _ _ (g2'.data _ _ ha)))
          refine ⟨_, rfl, a, _, rfl, .inr hT2, ?_⟩
          rw [lx]
          refine ⟨q2, R, _, rfl, rfl, SqT.of hq2, by simp, by omega, by omega, by show 1 ≤ 1000; decide, fun q3 nq3 => ?_⟩
          generalize eJ3 : upd _ q3 _ = J3
          obtain ⟨t3, hq3⟩ := new2 nq3 eJ3
          have g3j := g2j.more t3
          have hA3 := t3 _ _ (t2 _ _ (t1 _ _ hA8))
          refine ⟨_, rfl, aA, acc, rfl, .inl ⟨SqL.of hA3, fun q4 nq4 => ?_⟩⟩
          generalize eJ4 : upd _ q4 _ = J4
          obtain ⟨t4, hq4⟩ := new2 nq4 eJ4
          refine ⟨sz 1, fun q5 nq5 => ?_⟩
          generalize eJ5 : upd _ q5 _ = J5
          obtain ⟨t5, hq5⟩ := new2 nq5 eJ5
          have g5j := (g3j.more t4).more t5
          have hT5 : SqT K J5 a xs := SqT.of (g5j.sub _ _ (s28 _ _ (g2'.data _ _ ha)))
          refine ⟨_, rfl, a, _, rfl, .inr hT5, ?_⟩
          rw [lx]
          refine ⟨q5, R, _, rfl, rfl, SqT.of hq5, by simp, by omega, by omega, by show 1 ≤ 1000; decide, fun q6 nq6 => ?_⟩
          generalize eJ6 : upd _ q6 _ = J6
          obtain ⟨t6, hq6⟩ := new2 nq6 eJ6
          refine ⟨sz 1, fun q7 nq7 => ?_⟩
          generalize eJ7 : upd _ q7 _ = J7
          obtain ⟨t7, hq7⟩ := new2 nq7 eJ7
          have g7j := (g5j.more t6).more t7
          refine ⟨q4, q7, acc, _, rfl, rfl, SqT.of (t7 _ _ (t6 _ _ (t5 _ _ hq4))), SqT.of hq7, lm, by show _ + 1 ≤ _; omega, fun e => by simp at e, fun _ q8 nq8 => ?_⟩
          generalize eJ8 : upd _ q8 _ = J8
          obtain ⟨t8, hq8⟩ := new2 nq8 eJ8
          refine ⟨sz 2, fun q9 nq9 => ?_⟩
          generalize eJ9 : upd _ q9 _ = J9
          obtain ⟨t9, hq9⟩ := new2 nq9 eJ9
          have g9j := (g7j.more t8).more t9
          refine ⟨sz 2, fun q10 nq10 => ?_⟩
          have g10 := g9j.lay (c := .tup [.non, .ref q9]) nq10
          exact post _ _ q10 _ _ g10 upd_same (.inr ⟨nt, rfl, by simp⟩)
end
end Bw
set_option Elab.async false
set_option linter.all false
set_option maxRecDepth 100000
set_option maxHeartbeats 8000000
set_option exponentiation.threshold 10000
/-! BwJ: which tells more; the best news. -/
namespace Bw
open PySem L2
/-- whether sheet i tells more than sheet j -/
noncomputable def tlB (ss : List (List (List Int))) (i j : Nat) : Bool := @decide (Bn.Tells (ss.getD i []) (ss.getD j [])) (Classical.propDecidable _)
theorem tlB_true {ss : List (List (List Int))} {i j : Nat} : tlB ss i j = true ↔ Bn.Tells (ss.getD i []) (ss.getD j []) := by
  unfold tlB
  exact @decide_eq_true_iff _ (Classical.propDecidable _)
theorem tlB_of {ss : List (List (List Int))} {i j : Nat} {s t : List (List Int)} {b : Bool} (h1 : ss[i]? = some s) (h2 : ss[j]? = some t) (h : b = true ↔ Bn.Tells s t) : b = tlB ss i j := by
  have e1 : ss.getD i [] = s := by rw [List.getD_eq_getElem?_getD, h1]; rfl
  have e2 : ss.getD j [] = t := by rw [List.getD_eq_getElem?_getD, h2]; rfl
  rw [Bool.eq_iff_iff, h, tlB_true, e1, e2]
/-- tables that show sheets -/
structure Shts (R : Nat) (M : Int) (ss : List (List (List Int))) (ts : List (List (List Fr2))) : Prop where
  len : ts.length = ss.length
  ok : ∀ (i : Nat) (t : List (List Fr2)), ts[i]? = some t → ∃ s, ss[i]? = some s ∧ OkT t s
  sh : ∀ s ∈ ss, Bn.Sht R M s
theorem notIn_true {l : List Bool} : (!inV (.bl true) (l.map .bl)) = !l.any id := by
  congr 1
  unfold inV
  rw [List.any_map]
  congr 1
  funext b
  cases b <;> rfl
theorem isBest_tab {n i : Nat} {T : Nat → Nat → Bool} : (!(tab n fun o => T o i && !T i o).any id) = Bn.isBest n T i := by
  unfold Bn.isBest tab
  rw [List.any_map]
  rfl
/-- the best among the first -/
def bestTo (n : Nat) (T : Nat → Nat → Bool) (i : Nat) : List Nat := (List.range i).filter (Bn.isBest n T)
theorem bestTo_succ {n : Nat} {T : Nat → Nat → Bool} {i : Nat} : bestTo n T (i + 1) = if Bn.isBest n T i = true then bestTo n T i ++ [i] else bestTo n T i := by
  unfold bestTo
  rw [List.range_succ, List.filter_append]
  cases e : Bn.isBest n T i with
  | true =>
    rw [if_pos rfl]
    simp [e]
  | false =>
    rw [if_neg (by decide)]
    simp [e]
theorem bestTo_len {n : Nat} {T : Nat → Nat → Bool} {i : Nat} : (bestTo n T i).length ≤ i := by
  unfold bestTo
  have := List.length_filter_le (Bn.isBest n T) (List.range i)
  rw [List.length_range] at this
  exact this
/-- numbers as values -/
abbrev natsV (l : List Nat) : List V := l.map fun (i : Nat) => V.int (i : Int)
section
variable {P : Program} {w : World} {K : PySem.W.Frag} {mg : Str → Option Value} {base : Heap} {f : Addr} {fd : FuncData}
-- tells_more (statement 32)
abbrev s_tells_more : Stmt := topS 32
abbrev n_tells_more : List Str := ["news", "other", "one", "twin"]
theorem sc_tells_more : FnScope n_tells_more ["news", "other"] (defScope s_tells_more) := ⟨rfl, rfl, rfl, by decide +kernel, rfl, by decide +kernel, by decide +kernel⟩
-- slots: 0 news, 1 other, 2 one, 3 twin
def spTells : Sp := fun vs H Q _ => ∃ (t t2 : List (List Fr2)) (s s2 : List (List Int)) (R : Nat) (M : Int) (G : Hp) (v v2 : V), Same G H ∧ vs = [v, v2] ∧ Da G (dTab t) v ∧ Da G (dTab t2) v2 ∧ OkT t s ∧ OkT t2 s2 ∧ Bn.Sht R M s ∧ Bn.Sht R M s2 ∧ 0 < R ∧ Bn.Fit R M ∧
  ∀ G' H' b, Grow No G H G' H' → (b = true ↔ Bn.Tells s s2) → Q (.bl b) H'
theorem ok_tells_more (D : DefAt K mg "tells_more" s_tells_more ["news", "other"] f fd) (G_two_news : Kept P w K mg base 9 "two_news" ["news", "other"] spTwo) (G_noise_or_game : Kept P w K mg base 6 "noise_or_game" ["news", "other"] spGame) :
    Kept P w K mg base 10 "tells_more" ["news", "other"] spTells := by
  refine D.kept (D.F.ok sc_tells_more (fun vs H Q E h => ?_) (fun cdv A outer s H vs Q E hr h => ?_))
  · obtain ⟨t, t2, s, s2, R, M, G, v, v2, _, rfl, _⟩ := h
    rfl
  · obtain ⟨t, t2, sh, sh2, R, M, G, v, v2, sG, rfl, hd, hd2, ok, ok2, S, S2, r0, F, post⟩ := h
    have r4 := F.r4
    refine ⟨_, (pss_cons (ps_asg (pe_kept G_two_news (hr.mono (by decide)) (by rfl) (pa_cons (pv 0) (pa_cons (pv 1) pa_nil))) (pg_tupK (K := K) rfl rfl (pgs_cons (pg_name (i := 2) sc_tells_more.nd rfl (Or.inl rfl)) (pgs_cons (pg_name (i := 3) sc_tells_more.nd rfl (Or.inl rfl)) pgs_nil))))
        (pss_one (ps_ret (pe_cmp (pc_notN (pe_ix (ix_tupK (K := K) rfl) (pe_kept G_noise_or_game (hr.mono (by decide)) (by rfl) (pa_cons (pv 2) (pa_cons (pv 3) pa_nil))) pe_int (fun _ _ => rfl))))))), ?_⟩
    refine ⟨_, rfl, _, rfl, t, t2, sh, sh2, R, M, G, _, _, sG, rfl, hd, hd2, ok, ok2, S, S2, r0, by omega, fun G1 H1 p x x2 g1 hp d d2 => ?_⟩
    refine ⟨p, _, rfl, SqT.of (g1.sub _ _ hp), rfl, _, _, rfl, _, _, rfl, rfl, ?_⟩
    refine ⟨_, rfl, _, rfl, sh, sh2, R, M, G1, _, _, g1.sub, rfl, d, d2, S, S2, r0, F, fun G2 H2 q y y2 g2 hq out => ?_⟩
    refine ⟨q, _, 0, y, rfl, rfl, SqT.of (g2.sub _ _ hq), rfl, ?_⟩
    refine post _ _ _ (g1.trans g2) ?_
    rcases out with ⟨h1, h2, _⟩ | ⟨h1, h2, _⟩
    · rw [decide_eq_false h2]
      exact ⟨fun _ => h1, fun _ => rfl⟩
    · rw [decide_eq_true h2]
      exact ⟨fun z => absurd z (by decide), fun z => absurd z h1⟩
-- best_news (statement 33)
abbrev s_best_news : Stmt := topS 33
abbrev n_best_news : List Str := ["tables", "told", "news", "more", "found", "number", "thing", "one", "other"]
theorem sc_best_news : FnScope n_best_news ["tables"] (defScope s_best_news) := ⟨rfl, rfl, rfl, by decide +kernel, rfl, by decide +kernel, by decide +kernel⟩
-- slots: 0 tables, 1 told*, 2 news, 3 more*, 4 found, 5 number*, 6 thing, 7 one, 8 other
def spBest : Sp := fun vs H Q _ => ∃ (ts : List (List (List Fr2))) (ss : List (List (List Int))) (R : Nat) (M : Int) (G : Hp) (v : V), Same G H ∧ vs = [v] ∧ Da G (dTabs ts) v ∧ Shts R M ss ts ∧ 0 < ss.length ∧ ss.length ≤ 6 ∧ 0 < R ∧ Bn.Fit R M ∧
  ∀ G' H' p, Grow No G H G' H' → H p = none → G' p = none → H' p = some (.lst (natsV (Bn.bestL ss.length (tlB ss)))) → Q (.ref p) H'
theorem fn_best_news (D : DefAt K mg "best_news" s_best_news ["tables"] f fd) (B : Blt mg) (G_need_news : Kept P w K mg base 8 "need_news" ["thing"] spNews) (G_noise_or_game : Kept P w K mg base 6 "noise_or_game" ["news", "other"] spGame) :
    FnOk P w K mg base CX0 9 f fd ["tables"] spBest := by
  refine D.F.ok sc_best_news (fun vs H Q E h => ?_) (fun cdv A outer s H vs Q E hr h => ?_)
  · obtain ⟨ts, ss, R, M, G, v, _, rfl, _⟩ := h
    rfl
  · obtain ⟨ts, ss, R, M, G, v, sG, rfl, hd, ok, n1, n6, r0, F, post⟩ := h
    obtain ⟨a, xs, rfl, ha, hx⟩ := da_lst.mp hd
    have len := hx.mapLen
    have lts := ok.len
    have r4 := F.r4
    have big : sizeLine = 16777216 := sizeLine_eq
    have hA : SqL K H a xs := SqL.of (sG _ _ ha)
    obtain ⟨n, hn⟩ : ∃ n, ss.length = n := ⟨_, rfl⟩
    rw [hn] at n1 n6 lts post
    have at_ : ∀ i, i < n → ∃ s, ss[i]? = some s ∧ Bn.Sht R M s := fun i hi => ⟨ss[i], List.getElem?_eq_getElem (by omega), ok.sh _ (List.getElem_mem _)⟩
    refine ⟨_, (pss_cons (ps_if (PW.pt (pw_or (pt_not (pt_val (pe_callB (call_isiK0 (K := K) rfl) (by rfl) B.isinstance_ (by decide +kernel) (pa_cons (pv 0) (pa_cons (pe_bltn (v := .ty "list") (u := .type "list") (by rfl) B.list_ (by decide +kernel) rfl) pa_nil))))) (pw_or1 (pt_not (pt_chain op_le op_le pe_int (pe_callB (call_lenK (K := K) rfl) (by rfl) B.len_ (by decide +kernel) (pa_cons (pv 0) pa_nil)) pe_int)))))
        (pss_one ps_never)
        pss_nil)
        (pss_cons (ps_set (i := 1) sc_best_news.nd rfl (Or.inr rfl) (pe_lc (own := [("thing", 6)]) (g := gName 6) (tt := tYes) rfl sc_best_news.nd (pi_listK (K := K) rfl (pv 0)) (blkOk_by (own := [("thing", 6)]) (N := n_best_news) (sc := defScope s_best_news) (by decide +kernel)) (fun _ _ _ _ _ => (pg_name (i := 6) sc_best_news.nd rfl (Or.inl rfl))) (fun _ _ _ _ _ => pts_nil) (fun _ _ _ _ _ => (pe_kept G_need_news (hr.mono (by decide)) (by rfl) (pa_cons (pv 6) pa_nil)))))
        (pss_cons (ps_for PassesOwn.never rfl (pi_listK (K := K) rfl (pv 1)) (pg_name (i := 2) sc_best_news.nd rfl (Or.inl rfl))
        (pss_one (ps_if (pt_cmp (pc_neI (pe_callB (call_lenK (K := K) rfl) (by rfl) B.len_ (by decide +kernel) (pa_cons (pv 2) pa_nil)) (pe_callB (call_lenK (K := K) rfl) (by rfl) B.len_ (by decide +kernel) (pa_cons (pe_ix (ix_listK (K := K) rfl) (pv 1) pe_int (fun _ _ => rfl)) pa_nil))))
          (pss_one ps_never)
          pss_nil)))
        (pss_cons (ps_set (i := 3) sc_best_news.nd rfl (Or.inr rfl) (pe_lc (own := [("one", 7)]) (g := gName 7) (tt := tYes) rfl sc_best_news.nd (pi_listK (K := K) rfl (pv 1)) (blkOk_by (own := [("one", 7)]) (N := n_best_news) (sc := defScope s_best_news) (by decide +kernel)) (fun _ _ _ _ _ => (pg_name (i := 7) sc_best_news.nd rfl (Or.inr rfl))) (fun _ _ _ _ _ => pts_nil) (fun _ _ _ _ _ => (pe_lc (own := [("other", 8)]) (g := gName 8) (tt := tYes) rfl sc_best_news.nd (pi_listK (K := K) rfl (pv 1)) (blkOk_by (by kernel_rfl)) (fun _ _ _ _ _ => (pg_name (i := 8) sc_best_news.nd rfl (Or.inl rfl))) (fun _ _ _ _ _ => pts_nil) (fun _ _ _ _ _ => (pe_cmp (pc_isN (pe_ix (ix_tupK (K := K) rfl) (pe_kept G_noise_or_game (hr.mono (by decide)) (by rfl) (pa_cons (pv 7) (pa_cons (pv 8) pa_nil))) pe_int (fun _ _ => rfl)))))))))
        (pss_cons (ps_set (i := 4) sc_best_news.nd rfl (Or.inl rfl) (pe_lst pa_nil))
        (pss_cons (ps_for PassesOwn.never rfl (pi_range1 (by rfl) B.range_ (pa_cons (pe_callB (call_lenK (K := K) rfl) (by rfl) B.len_ (by decide +kernel) (pa_cons (pv 1) pa_nil)) pa_nil)) (pg_name (i := 5) sc_best_news.nd rfl (Or.inr rfl))
        (pss_one (ps_if (pt_cmpR (op_notInK (K := K) rfl) pe_bl (pe_lc (own := [("other", 8)]) (g := gName 8) (tt := tYes) rfl sc_best_news.nd (pi_range1 (by rfl) B.range_ (pa_cons (pe_callB (call_lenK (K := K) rfl) (by rfl) B.len_ (by decide +kernel) (pa_cons (pv 1) pa_nil)) pa_nil)) (blkOk_by (own := [("other", 8)]) (N := n_best_news) (sc := defScope s_best_news) (by decide +kernel)) (fun _ _ _ _ _ => (pg_name (i := 8) sc_best_news.nd rfl (Or.inl rfl))) (fun _ _ _ _ _ => pts_nil) (fun _ _ _ _ _ => (pe_and (pe_ix (ix_listK (K := K) rfl) (pe_ix (ix_listK (K := K) rfl) (pv 3) (pv 8) (fun _ _ => rfl)) (pv 5) (fun _ _ => rfl)) (pe_one (pe_not (pe_ix (ix_listK (K := K) rfl) (pe_ix (ix_listK (K := K) rfl) (pv 3) (pv 5) (fun _ _ => rfl)) (pv 8) (fun _ _ => rfl))))))) (by rfl))
          (pss_one (ps_expr (pe_bm PySem.F.plainAttrs_list PySem.F.slot_list_append PySem.F.type_list_append mt_append (pv 4) (pa_cons (pv 5) pa_nil))))
          pss_nil)))
        (pss_one (ps_ret (pv 4))))))))), ?_⟩
    -- the kinds
    refine ⟨_, rfl, _, _, _, _, true, rfl, .ty _, .base (.lst (sG _ _ ha)), kit_ty (by decide +kernel), _, rfl, ?_⟩
    refine iteF ?_
    refine ⟨_, rfl, a, _, rfl, .inl hA, ?_⟩
    refine ⟨_, _, rfl, rfl, _, rfl, ite_t (decide_eq_true (by omega)) ?_⟩
    refine ⟨_, _, rfl, rfl, _, rfl, ?_⟩
    rw [show decide (((xs.length : Nat) : Int) ≤ 6) = true from decide_eq_true (by omega)]
    refine iteF ?_
    -- told
    refine ⟨_, rfl, a, rfl, ⟨_, hA⟩, fun aT nT => ?_⟩
    refine lc_data (walk_list (K := K) (a := a) (xs := xs)) dTab (fun i z => ∃ s, ss[i]? = some s ∧ z = Bn.lowT s) (S := No) (G0 := G) (H0 := H) (G1 := G) (H1 := H) (fun _ _ => True) (Grow.refl sG) nT (by omega)
      (fun G' H' s1 gr => SqL.of (gr.sub _ _ (s1 _ _ ha))) trivial (fun _ _ _ _ _ _ => trivial) ?_ ?_
    · rintro i x G' _ H' hi s1 gr gD hD' _ ⟨rfl, hx'⟩ Post hk
      obtain ⟨t, e1, e2⟩ := hx.mapGet hx'
      obtain ⟨sh, h1, h2⟩ := ok.ok i t e1
      refine ⟨rfl, ?_⟩
      refine ⟨_, rfl, t, sh, R, M, G', _, gr.sub, rfl, Da.mono s1 _ _ e2, h2, ok.sh _ (List.mem_of_getElem? h1), r0, by omega, fun G2 H2 v2 g2 d2 => ?_⟩
      exact hk v2 H2 G2 _ g2.no (g2.sm.at hD') ⟨sh, h1, rfl⟩ d2 trivial
    intro G1 H1 l1 s1 g1 ll1 hP1 d1 _
    obtain ⟨_, ys, e, hT, hy⟩ := da_lst.mp d1
    cases e
    have ly := hy.mapLen
    have tat : ∀ i, i < n → ∃ x s, ys[i]? = some x ∧ ss[i]? = some s ∧ Bn.Sht R M s ∧ Da G1 (dTab (Bn.lowT s)) x := fun i hi => by
      obtain ⟨z, hz⟩ : ∃ z, l1[i]? = some z := ⟨l1[i]'(by omega), List.getElem?_eq_getElem _⟩
      obtain ⟨sh, h1, rfl⟩ := hP1 i z hz
      obtain ⟨x, h2, h3⟩ := hy.mapAt hz
      exact ⟨x, sh, h2, h1, ok.sh _ (List.mem_of_getElem? h1), h3⟩
    have tlen : ∀ (i : Nat) (x : V), ys[i]? = some x → ∃ c zs, x = .ref c ∧ G1 c = some (.tup zs) ∧ zs.length = R := fun i x hx => by
      have hi := (List.getElem?_eq_some_iff.mp hx).1
      obtain ⟨x', s', h1, h2, h3, h4⟩ := tat i (by omega)
      obtain rfl : x = x' := Option.some.inj (hx.symm.trans h1)
      obtain ⟨c, zs, e, hc, lz, _⟩ := tab_row h4 h3 r0
      exact ⟨c, zs, e, hc, lz⟩
    -- the loop
    refine ⟨_, rfl, aT, rfl, ⟨_, SqL.of (g1.sub _ _ hT)⟩, for_list (K := K) (a := aT) (xs := ys) (fun i σ H' => ∃ z, σ = [some (.ref a), some (.ref aT), z, none, none, none, none, none, none] ∧ H' = H1)
      ⟨none, rfl, rfl⟩ (fun i σ H' _ ⟨z, _, e⟩ => by rw [e]; exact SqL.of (g1.sub _ _ hT)) ?_ ?_⟩
    · rintro i x σ H' hi ⟨z, rfl, rfl⟩
      obtain ⟨c, zs, rfl, hc, lz⟩ := tlen i x hi
      obtain ⟨x0, _, ex0, _⟩ := tat 0 n1
      obtain ⟨c0, zs0, rfl, hc0, lz0⟩ := tlen 0 x0 ex0
      refine ⟨_, rfl, c, _, rfl, .inr (SqT.of (g1.sub _ _ hc)), _, rfl, aT, ys, 0, _, rfl, rfl, SqL.of (g1.sub _ _ hT), atI_nat (j := 0) ex0, c0, _, rfl, .inr (SqT.of (g1.sub _ _ hc0)), _, _, rfl, rfl, _, rfl, ite_f ?_ ?_⟩
      · show (!decide (((zs.length : Nat) : Int) = ((zs0.length : Nat) : Int))) = false
        rw [decide_eq_true (by omega)]
        rfl
      · exact ⟨_, rfl, rfl⟩
    · rintro σ H1 ⟨z2, rfl, rfl⟩
      -- more
      refine ⟨_, rfl, aT, rfl, ⟨_, SqL.of (g1.sub _ _ hT)⟩, fun aM nM => ?_⟩
      refine lc_data (walk_list (K := K) (a := aT) (xs := ys)) dBs (fun i z => z = tab n fun j => tlB ss i j) (S := No) (G0 := G) (H0 := H) (G1 := G1) (H1 := H1) (fun _ _ => True) g1 nM (by omega)
        (fun G' H' s1 gr => SqL.of (gr.sub _ _ (s1 _ _ hT))) trivial (fun _ _ _ _ _ _ => trivial) ?_ ?_
      · rintro i x G2 _ H2 hi s2 g2 gD hD' _ ⟨rfl, hx'⟩ Post hk
        obtain ⟨x', si, h1, h2, h3, h4⟩ := tat i (by omega)
        obtain rfl : x = x' := Option.some.inj (hx'.symm.trans h1)
        refine ⟨rfl, ?_⟩
        refine ⟨_, rfl, aT, rfl, ⟨_, SqL.of (g2.sub _ _ (s2 _ _ hT))⟩, fun D2 hD2 => ?_⟩
        refine lc_data (walk_list (K := K) (a := aT) (xs := ys)) PyData.bool (fun j z => z = tlB ss i j) (S := No) (G0 := G2) (H0 := H2) (G1 := G2) (H1 := H2) (fun _ _ => True) (Grow.refl g2.sub) hD2 (by omega)
          (fun G' H' s3 gr => SqL.of (gr.sub _ _ (s3 _ _ (s2 _ _ hT)))) trivial (fun _ _ _ _ _ _ => trivial) ?_ ?_
        · rintro j u G3 _ H3 hj s3 g3 gD2 hD2' _ ⟨rfl, hu⟩ Post2 hk2
          obtain ⟨u', sj, k1, k2, k3, k4⟩ := tat j (by omega)
          obtain rfl : u = u' := Option.some.inj (hu.symm.trans k1)
          refine ⟨rfl, ?_⟩
          refine ⟨_, rfl, _, rfl, si, sj, R, M, G3, _, _, g3.sub, rfl, Da.mono (s2.trans s3) _ _ h4, Da.mono (s2.trans s3) _ _ k4, h3, k3, r0, F, fun G4 H4 q y y2 g4 hq out => ?_⟩
          refine ⟨q, _, 1, y2, rfl, rfl, SqT.of (g4.sub _ _ hq), rfl, ?_⟩
          refine hk2 _ H4 G4 (decide (y2 = .non)) g4.no (g4.sm.at hD2') (tlB_of h2 k2 ?_) (da_bl.mpr rfl) trivial
          rcases out with ⟨t1, _, t3⟩ | ⟨t1, _, t3⟩
          · rw [decide_eq_true t3]
            exact ⟨fun _ => t1, fun _ => rfl⟩
          · rw [decide_eq_false t3]
            exact ⟨fun z => absurd z (by decide), fun z => absurd z t1⟩
        · intro G3 H3 l3 s3 g3 ll3 hP3 d3 _
          have e3 : l3 = tab n fun j => tlB ss i j := list_of (by omega) hP3
          rw [e3] at d3
          exact hk _ H3 G3 _ g3.no (g3.sm.at hD') rfl d3 trivial
      intro G2 H2 l2 s2 g2 ll2 hP2 d2 _
      have e2 : l2 = tab n fun i => tab n fun j => tlB ss i j := list_of (by omega) hP2
      rw [e2] at d2
      obtain ⟨_, ms, e, hM, hm⟩ := da_lst.mp d2
      cases e
      have mrow : ∀ i, i < n → ∃ c, ms[i]? = some (.ref c) ∧ G2 c = some (.lst ((tab n fun j => tlB ss i j).map V.bl)) := fun i hi => by
        obtain ⟨x, h1, h2⟩ := hm.mapAt (tab_get (f := fun i => tab n fun j => tlB ss i j) hi)
        obtain ⟨c, rfl, hc⟩ := da_bs.mp h2
        exact ⟨c, h1, hc⟩
      have mat : ∀ i j, j < n → ((tab n fun j => tlB ss i j).map V.bl)[j]? = some (.bl (tlB ss i j)) := fun i j hj => by
        rw [List.getElem?_map, tab_get hj]
        rfl
      -- found
      refine ⟨Nat.zero_le _, fun aO nO => ?_⟩
      generalize eH3 : upd _ aO _ = H3
      obtain ⟨s3, hO3⟩ := new2 nO eH3
      have g3 := g2.more s3
      have OG : G2 aO = none := g2.freeG nO
      have OH : H aO = none := g2.free nO
      refine ⟨_, rfl, aT, _, rfl, .inl (SqL.of (g3.sub _ _ (s2 _ _ hT))), _, rfl, by omega, by omega, ?_⟩
      rw [show (((ys.length : Nat) : Int)).toNat = n by omega]
      refine for_it (walk_range (lo := 0) (n := n)) (fun i σ H' => ∃ (G' : Hp) (z5 : Option V), σ = [some (.ref a), some (.ref aT), z2, some (.ref aM), some (.ref aO), z5, none, none, none] ∧ Grow No G H G' H' ∧ Same G2 G' ∧ G' aO = none ∧ H' aO = some (.lst (natsV (bestTo n (tlB ss) i))))
        ⟨G2, none, rfl, g3, .refl _, OG, hO3⟩ (fun _ _ _ _ _ => trivial) ?_ ?_
      · rintro i x σ _ H4 hi ⟨G4, z5, rfl, g4, s4, O4, hO4⟩ ⟨rfl, rfl⟩
        show gName 5 (V.int (0 + (i : Nat))) _ _ _
        rw [Int.zero_add]
        -- True not in [...]
        refine ⟨_, rfl, aT, _, rfl, .inl (SqL.of (g4.sub _ _ (s4 _ _ (s2 _ _ hT)))), _, rfl, by omega, by omega, fun D hD => ?_⟩
        rw [show (((ys.length : Nat) : Int)).toNat = n by omega]
        refine lc_data (walk_range (lo := 0) (n := n)) PyData.bool (fun o z => z = (tlB ss o i && !tlB ss i o)) (S := No) (G0 := G4) (H0 := H4) (G1 := G4) (H1 := H4) (fun _ _ => True) (Grow.refl g4.sub) hD (by omega)
          (fun G' H' s1 gr => trivial) trivial (fun _ _ _ _ _ _ => trivial) ?_ ?_
        · rintro o u G5 _ H5 ho s5 g5 gD hD' _ ⟨rfl, rfl⟩ Post hk
          obtain ⟨co, eo, hco⟩ := mrow o ho
          obtain ⟨ci, ei, hci⟩ := mrow i hi
          have hM5 : SqL K H5 aM ms := SqL.of (g5.sub _ _ (s5 _ _ (s4 _ _ hM)))
          refine ⟨rfl, ?_⟩
          refine ⟨_, rfl, _, rfl, aM, ms, _, _, rfl, rfl, hM5, by rw [Int.zero_add]; exact atI_nat eo, _, rfl, co, _, _, _, rfl, rfl, SqL.of (g5.sub _ _ (s5 _ _ (s4 _ _ hco))), atI_nat (mat o i hi), _, rfl, ite_b (fun e => ?_) fun e => ?_⟩
          · refine ⟨_, rfl, _, rfl, aM, ms, _, _, rfl, rfl, hM5, atI_nat ei, _, rfl, ci, _, _, _, rfl, rfl, SqL.of (g5.sub _ _ (s5 _ _ (s4 _ _ hci))), by rw [Int.zero_add]; exact atI_nat (mat i o ho), _, rfl, ?_⟩
            exact hk _ H5 G5 _ (Grow.refl g5.sub) rfl (by rw [e]; rfl) (da_bl.mpr rfl) trivial
          · exact hk _ H5 G5 _ (Grow.refl g5.sub) rfl (by rw [e]; rfl) (da_bl.mpr rfl) trivial
        · intro G5 H5 l5 s5 g5 ll5 hP5 d5 _
          have e5 : l5 = tab n fun o => (tlB ss o i && !tlB ss i o) := list_of (by omega) hP5
          rw [e5] at d5
          obtain ⟨_, e, hD5⟩ := da_bs.mp d5
          cases e
          have g45 := g4.trans g5
          have O5 := g5.new aO O4 (by rw [hO4]; simp)
          have hO5 := g5.sm _ _ hO4
          refine ⟨D, _, rfl, .inl (SqL.of (g5.sub _ _ hD5)), rfl, flat_bls _, _, rfl, ?_⟩
          rw [show (if true = true then !inV (V.bl true) ((tab n fun o => (tlB ss o i && !tlB ss i o)).map V.bl) else inV (V.bl true) ((tab n fun o => (tlB ss o i && !tlB ss i o)).map V.bl)) = Bn.isBest n (tlB ss) i by
            rw [if_pos rfl, notIn_true, isBest_tab]]
          refine ite_b (fun eb => ?_) fun eb => ?_
          · have bl := bestTo_len (n := n) (T := tlB ss) (i := i)
            refine ⟨_, rfl, .inl ⟨rfl, _, SqL.of hO5⟩, _, rfl, aO, _, _, rfl, rfl, hO5, by rw [List.length_map]; omega, ?_⟩
            refine ⟨G5, _, rfl, g45.put O5 (.inl OH), s4.trans s5, O5, ?_⟩
            rw [upd_same, bestTo_succ, if_pos eb]
            unfold natsV
            rw [List.map_append]
            rfl
          · refine ⟨G5, _, rfl, g45, s4.trans s5, O5, ?_⟩
            rw [bestTo_succ, eb, if_neg (by decide)]
            exact hO5
      · rintro σ H4 ⟨G4, z5, rfl, g4, s4, O4, hO4⟩
        exact ⟨_, rfl, post _ _ _ g4 OH O4 hO4⟩
theorem ok_best_news (D : DefAt K mg "best_news" s_best_news ["tables"] f fd) (B : Blt mg) (G_need_news : Kept P w K mg base 8 "need_news" ["thing"] spNews) (G_noise_or_game : Kept P w K mg base 6 "noise_or_game" ["news", "other"] spGame) :
    Kept P w K mg base 9 "best_news" ["tables"] spBest := D.kept (fn_best_news D B G_need_news G_noise_or_game)
end
end Bw
set_option Elab.async false
set_option linter.all false
set_option maxRecDepth 100000
set_option maxHeartbeats 8000000
set_option exponentiation.threshold 10000
/-! BwK: the law's own purse, divisors and drawn sheets. -/
namespace Bw
open PySem L2
/-- only p may change -/
abbrev One (p : Addr) : Addr → Prop := fun q => q = p
section
variable {S S2 : Addr → Prop} {G H G1 H1 G2 H2 : Hp} {p : Addr}
/-- a step that changes S2, which is local or may change -/
theorem Grow.via (a : Grow S G H G1 H1) (b : Grow S2 G1 H1 G2 H2) (h : ∀ q, S2 q → H q = none ∨ S q) : Grow S G H G2 H2 :=
  ⟨fun q o hs e => b.keep q o (fun z => (h q z).elim (fun y => by rw [y] at e; cases e) hs) (a.keep q o hs e), fun q e => b.stay q (a.stay q e), a.data.trans b.data, b.sub, fun q h1 h2 => b.new q (a.new q h1 h2) (a.stay q h2)⟩
/-- the same, what it laid is not counted as data -/
theorem Grow.drop (a : Grow S G H G1 H1) (b : Grow S2 G1 H1 G2 H2) (h : ∀ q, S2 q → H q = none ∨ S q) : Grow S G H G1 H2 :=
  ⟨(a.via b h).keep, (a.via b h).stay, a.data, b.data.trans b.sub, a.new⟩
theorem Grow.one (a : Grow (One p) G H G1 H1) {q : Addr} {o : HO} (hq : q ≠ p) (e : H q = some o) : H1 q = some o := a.keep q o hq e
theorem one_same (q : Addr) : One p q → G q = none ∨ One p q := fun h => .inr h
end
/-- the purse, of at most n pulls -/
def Pu (n : Nat) (H : Hp) (p : Addr) : Prop := ∃ a b c : Int, H p = some (.lst [.int a, .int b, .int c]) ∧ 0 ≤ b ∧ b < 2 ^ 200 ∧ 0 ≤ c ∧ c ≤ n
theorem Pu.mono {n m : Nat} {H : Hp} {p : Addr} (h : Pu n H p) (q : n ≤ m) : Pu m H p := by
  obtain ⟨a, b, c, h1, h2, h3, h4, h5⟩ := h
  exact ⟨a, b, c, h1, h2, h3, h4, by omega⟩
theorem Pu.ne {n : Nat} {H : Hp} {p : Addr} (h : Pu n H p) : H p ≠ none := by
  obtain ⟨a, b, c, h1, _⟩ := h
  rw [h1]
  simp
theorem Pu.keep {n : Nat} {H H' : Hp} {p : Addr} (h : Pu n H p) (e : H' p = H p) : Pu n H' p := by
  obtain ⟨a, b, c, h1, r⟩ := h
  exact ⟨a, b, c, e.trans h1, r⟩
theorem Pu.same {n : Nat} {H H' : Hp} {p : Addr} (h : Pu n H p) (s : Same H H') : Pu n H' p := h.keep (s.at h.ne)
theorem bits_le {i : Int} {b : Nat} (h : i.natAbs < 2 ^ b) (h0 : 0 < b) : (Builtin.Int.intBits i : Int) ≤ b := by
  have q := PySem.Flt.log2_lt_of h0 h
  unfold Builtin.Int.intBits
  split
  · omega
  · omega
section
variable {P : Program} {w : World} {K : PySem.W.Frag} {mg : Str → Option Value} {base : Heap} {f : Addr} {fd : FuncData}
-- _law_purse (statement 35)
abbrev s__law_purse : Stmt := topS 35
abbrev n__law_purse : List Str := ["_law_script", "_law_k", "_law_cell"]
theorem sc__law_purse : FnScope n__law_purse ["_law_script", "_law_k"] (defScope s__law_purse) := ⟨rfl, rfl, rfl, by decide +kernel, rfl, by decide +kernel, by decide +kernel⟩
-- slots: 0 _law_script, 1 _law_k, 2 _law_cell
def spPurse (K : PySem.W.Frag) : Sp := fun vs H Q _ => ∃ (a : Addr) (ns : List Int), vs = [.ref a, .int 0] ∧ SqL K H a (ns.map V.int) ∧ ∀ H' p, Same H H' → H p = none → Pu 0 H' p → Q (.ref p) H'
theorem ok__law_purse (D : DefAt K mg "_law_purse" s__law_purse ["_law_script", "_law_k"] f fd) (B : Blt mg) : Kept P w K mg base 1 "_law_purse" ["_law_script", "_law_k"] (spPurse K) := by
  refine D.kept (D.F.ok sc__law_purse (fun vs H Q E h => ?_) (fun cdv A outer s H vs Q E hr h => ?_))
  · obtain ⟨a, ns, rfl, _⟩ := h
    rfl
  · obtain ⟨a, ns, rfl, hS, q⟩ := h
    have big : (0 : Int) < 10 ^ (38 : Int).toNat + 177 := by decide +kernel
    have lt : (10 : Int) ^ (38 : Int).toNat + 177 + 1000 < 2 ^ 200 := by decide +kernel
    have hp : CPowW 10 18 := ⟨by decide, by decide +kernel⟩
    have hp2 : CPowW 10 38 := ⟨by decide, by decide +kernel⟩
    have m0 : CMulW 1009 0 := small_mul (by decide) (by decide)
    refine ⟨_, (pss_cons (ps_set (i := 2) sc__law_purse.nd rfl (Or.inl rfl) pe_int)
        (pss_cons (ps_if (pt_cmp (pc_lt (pv 1) (pe_callB (call_lenK (K := K) rfl) (by rfl) B.len_ (by decide +kernel) (pa_cons (pv 0) pa_nil))))
        (pss_one (ps_set (i := 2) sc__law_purse.nd rfl (Or.inl rfl) (pe_ix (ix_listK (K := K) rfl) (pv 0) (pv 1) (fun _ _ => rfl))))
        pss_nil)
        (pss_one (ps_ret (pe_lst (pa_cons (pe_callB (call_max2 rfl) (by rfl) B.max_ (by decide +kernel) (pa_cons pe_int (pa_cons (pe_op op_sub (pv 2) (pe_op op_powW pe_int pe_int)) pa_nil))) (pa_cons (pe_op op_add (pe_op op_add (pe_op op_mod (pe_callTy call_int1 (by rfl) B.int_ (by decide +kernel) (pa_cons (pv 2) pa_nil)) (pe_op op_add (pe_op op_powW pe_int pe_int) pe_int)) (pe_op op_mulW pe_int (pv 1))) pe_int) (pa_cons pe_int pa_nil)))))))), ?_⟩
    refine ⟨_, rfl, _, rfl, a, _, rfl, .inl hS, _, _, rfl, rfl, _, rfl, ite_b (fun e => ?_) fun e => ?_⟩
    · have e' : decide ((0 : Int) < (((ns.map V.int).length : Nat) : Int)) = true := e
      have l0 := of_decide_eq_true e'
      rw [List.length_map] at l0
      have ex : (ns.map V.int)[0]? = some (.int (ns[0]'(by omega))) := by rw [List.getElem?_map, List.getElem?_eq_getElem (by omega)]; rfl
      generalize ns[0]'(by omega) = cell at ex
      refine ⟨_, rfl, _, rfl, a, _, 0, .int cell, rfl, rfl, hS, atI_nat (j := 0) ex, ?_⟩
      refine ⟨_, rfl, _, _, rfl, rfl, hp, _, _, rfl, rfl, _, _, rfl, ?_⟩
      refine ⟨_, rfl, .inl ⟨_, rfl, _, _, rfl, rfl, hp2, _, _, rfl, rfl, _, _, rfl, rfl, big, _, rfl, _, _, rfl, rfl, m0, _, _, rfl, rfl, _, _, rfl, rfl, sz 3, fun p np => ?_⟩⟩
      have h1 := Int.emod_nonneg cell (show (10 : Int) ^ (38 : Int).toNat + 177 ≠ 0 by omega)
      have h2 := Int.emod_lt_of_pos cell big
      exact q _ p (same_updG np) np ⟨_, _, _, upd_same, by omega, by omega, by decide, by decide⟩
    · refine ⟨_, rfl, _, _, rfl, rfl, hp, _, _, rfl, rfl, _, _, rfl, ?_⟩
      refine ⟨_, rfl, .inl ⟨_, rfl, _, _, rfl, rfl, hp2, _, _, rfl, rfl, _, _, rfl, rfl, big, _, rfl, _, _, rfl, rfl, m0, _, _, rfl, rfl, _, _, rfl, rfl, sz 3, fun p np => ?_⟩⟩
      have h1 := Int.emod_nonneg 0 (show (10 : Int) ^ (38 : Int).toNat + 177 ≠ 0 by omega)
      have h2 := Int.emod_lt_of_pos 0 big
      exact q _ p (same_updG np) np ⟨_, _, _, upd_same, by omega, by omega, by decide, by decide⟩
-- _law_pull (statement 36)
abbrev s__law_pull : Stmt := topS 36
abbrev n__law_pull : List Str := ["_law_purse_here", "_law_many", "_law_found", "_law_mixed"]
theorem sc__law_pull : FnScope n__law_pull ["_law_purse_here", "_law_many"] (defScope s__law_pull) := ⟨rfl, rfl, rfl, by decide +kernel, rfl, by decide +kernel, by decide +kernel⟩
-- slots: 0 _law_purse_here, 1 _law_many, 2 _law_found, 3 _law_mixed
def spPull : Sp := fun vs H Q _ => ∃ (p : Addr) (many : Int) (n : Nat) (G : Hp), Same G H ∧ vs = [.ref p, .int many] ∧ G p = none ∧ Pu n H p ∧ 0 < many ∧ many.natAbs < 2 ^ 1000 ∧ n ≤ 100000 ∧
  ∀ H' r, 0 ≤ r → r < many → Grow (One p) G H G H' → Pu (n + 1) H' p → Q (.int r) H'
theorem ok__law_pull (D : DefAt K mg "_law_pull" s__law_pull ["_law_purse_here", "_law_many"] f fd) (B : Blt mg) : Kept P w K mg base 1 "_law_pull" ["_law_purse_here", "_law_many"] spPull := by
  refine D.kept (D.F.ok sc__law_pull (fun vs H Q E h => ?_) (fun cdv A outer s H vs Q E hr h => ?_))
  · obtain ⟨p, many, n, G, _, rfl, _⟩ := h
    rfl
  · obtain ⟨p, many, n, G, sG, rfl, hG, ⟨a, b, c, hp, b0, b2, c0, cn⟩, m0, mb, hn, q⟩ := h
    have ix : ∀ (j : Nat) (x y z : Int) (v : V), ([V.int x, .int y, .int z] : List V)[j]? = some v → atI [V.int x, .int y, .int z] (j : Int) = some v := fun j x y z v e => atI_nat e
    have big1 : (0 : Int) < 10 ^ (41 : Int).toNat + 289 := by decide +kernel
    have big2 : (0 : Int) < 10 ^ (40 : Int).toNat + 31 := by decide +kernel
    have lt1 : (10 : Int) ^ (41 : Int).toNat + 289 < 2 ^ 200 := by decide +kernel
    have lt2 : (10 : Int) ^ (40 : Int).toNat + 31 < 2 ^ 200 := by decide +kernel
    have e8 : (0 : Int) < 10 ^ (8 : Int).toNat := by decide +kernel
    have e8' : ((10 : Int) ^ (8 : Int).toNat).natAbs < 2 ^ 200 := by decide +kernel
    have hp8 : CPowW 10 8 := ⟨by decide, by decide +kernel⟩
    have hp40 : CPowW 10 40 := ⟨by decide, by decide +kernel⟩
    have hp41 : CPowW 10 41 := ⟨by decide, by decide +kernel⟩
    have md : ∀ x : Int, 0 ≤ x % many ∧ x % many < many := fun x => ⟨Int.emod_nonneg x (by omega), Int.emod_lt_of_pos x m0⟩
    refine ⟨_, (pss_cons (ps_if (pt_cmp (pc_gt (pe_ix (ix_listK (K := K) rfl) (pv 0) pe_int (fun _ _ => rfl)) pe_int))
        (pss_cons (ps_set (i := 2) sc__law_pull.nd rfl (Or.inl rfl) (pe_op op_mod (pe_callTy call_int1 (by rfl) B.int_ (by decide +kernel) (pa_cons (pe_ix (ix_listK (K := K) rfl) (pv 0) pe_int (fun _ _ => rfl)) pa_nil)) (pv 1)))
          (pss_cons (ps_asg (pe_op op_fdivW (pe_ix (ix_listK (K := K) rfl) (pv 0) pe_int (fun _ _ => rfl)) (pv 1)) (pg_sub (pv 0) pe_int set_list))
          (pss_one (ps_ret (pv 2)))))
        pss_nil)
        (pss_cons (ps_asg (pe_op op_add (pe_ix (ix_listK (K := K) rfl) (pv 0) pe_int (fun _ _ => rfl)) pe_int) (pg_sub (pv 0) pe_int set_list))
        (pss_cons (ps_set (i := 3) sc__law_pull.nd rfl (Or.inl rfl) (pe_op op_mod (pe_callTy call_int1 (by rfl) B.int_ (by decide +kernel) (pa_cons (pe_op op_powW (pe_op op_add (pe_ix (ix_listK (K := K) rfl) (pv 0) pe_int (fun _ _ => rfl)) (pe_op op_mulW pe_int (pe_ix (ix_listK (K := K) rfl) (pv 0) pe_int (fun _ _ => rfl)))) pe_int) pa_nil)) (pe_op op_add (pe_op op_powW pe_int pe_int) pe_int)))
        (pss_cons (ps_set (i := 3) sc__law_pull.nd rfl (Or.inl rfl) (pe_op op_mod (pe_callTy call_int1 (by rfl) B.int_ (by decide +kernel) (pa_cons (pe_op op_add (pe_op op_mulW (pv 3) (pv 3)) (pe_op op_mulW pe_int (pe_ix (ix_listK (K := K) rfl) (pv 0) pe_int (fun _ _ => rfl)))) pa_nil)) (pe_op op_add (pe_op op_powW pe_int pe_int) pe_int)))
        (pss_one (ps_ret (pe_op op_mod (pe_callTy call_int1 (by rfl) B.int_ (by decide +kernel) (pa_cons (pe_op op_fdivW (pv 3) (pe_op op_powW pe_int pe_int)) pa_nil)) (pv 1)))))))), ?_⟩
    refine ⟨_, rfl, p, _, 0, .int a, rfl, rfl, SqL.of hp, rfl, _, _, rfl, rfl, _, rfl, ite_b (fun e => ?_) fun e => ?_⟩
    · -- from the purse
      refine ⟨_, rfl, p, _, 0, .int a, rfl, rfl, SqL.of hp, rfl, .inl ⟨_, rfl, ?_⟩⟩
      refine ⟨_, rfl, _, _, rfl, rfl, m0, ?_⟩
      refine ⟨_, rfl, p, _, 0, .int a, rfl, rfl, SqL.of hp, rfl, _, rfl, _, _, rfl, rfl, wide_div m0 mb (by decide) (by decide), ?_⟩
      refine ⟨_, rfl, p, _, 0, 0, rfl, rfl, hp, rfl, ?_⟩
      refine ⟨_, rfl, ?_⟩
      refine q _ _ (md a).1 (md a).2 ((Grow.refl sG).put hG (.inr rfl)) ⟨a / many, b, c, upd_same, b0, b2, c0, by omega⟩
    · -- mixed
      refine ⟨_, rfl, p, _, 2, .int c, rfl, rfl, SqL.of hp, rfl, _, _, rfl, rfl, ?_⟩
      refine ⟨_, rfl, p, _, 2, 2, rfl, rfl, hp, rfl, ?_⟩
      have g1 : Grow (One p) G H G (upd H p (.lst [.int a, .int b, .int (c + 1)])) := (Grow.refl sG).put hG (.inr rfl)
      have hp1 : (upd H p (.lst [.int a, .int b, .int (c + 1)])) p = some (.lst [.int a, .int b, .int (c + 1)]) := upd_same
      show tSeq _ _ _ _ (upd H p (.lst [.int a, .int b, .int (c + 1)]))
      generalize upd H p (.lst [.int a, .int b, .int (c + 1)]) = H1 at g1 hp1 ⊢
      have cb : (c + 1).natAbs < 2 ^ 100 := by
        have : 100001 < 2 ^ 100 := by decide +kernel
        omega
      have k1 : (26535897932384627 : Int).natAbs < 2 ^ 99 := by decide +kernel
      have k2 : (88419716939937511 : Int).natAbs < 2 ^ 99 := by decide +kernel
      have sm : (26535897932384627 * (c + 1)).natAbs < 2 ^ 199 := wide_lt k1 cb
      have sm2 : (88419716939937511 * (c + 1)).natAbs < 2 ^ 199 := wide_lt k2 cb
      have bb : b.natAbs < 2 ^ 200 := natAbs_lt_of b0 b2
      have tot : (b + 26535897932384627 * (c + 1)).natAbs < 2 ^ 201 := by
        have := Int.natAbs_add_le b (26535897932384627 * (c + 1))
        have e1 : 2 ^ 201 = 2 * 2 ^ 200 := by decide +kernel
        have e2 : 2 ^ 199 < 2 ^ 200 := by decide +kernel
        omega
      have pw : CPowW (b + 26535897932384627 * (c + 1)) 3 := ⟨by decide, by
        have := bits_le tot (by decide)
        have e3 : (201 : Int) * 3 ≤ 2 ^ 27 := by decide +kernel
        omega⟩
      refine ⟨_, rfl, p, _, 1, .int b, rfl, rfl, SqL.of hp1, rfl, _, rfl, p, _, 2, .int (c + 1), rfl, rfl, SqL.of hp1, rfl, _, _, rfl, rfl, wide_mul k1 cb (by decide) (by decide) (by decide), _, _, rfl, rfl, _, _, rfl, rfl, pw, .inl ⟨_, rfl, ?_⟩⟩
      refine ⟨_, _, rfl, rfl, hp41, _, _, rfl, rfl, _, _, rfl, rfl, big1, ?_⟩
      have r0 := Int.emod_nonneg ((b + 26535897932384627 * (c + 1)) ^ (3 : Int).toNat) (show (10 : Int) ^ (41 : Int).toNat + 289 ≠ 0 by omega)
      have r1 := Int.emod_lt_of_pos ((b + 26535897932384627 * (c + 1)) ^ (3 : Int).toNat) big1
      show tSeq _ _ _ [_, _, _, some (.int ((b + 26535897932384627 * (c + 1)) ^ (3 : Int).toNat % ((10 : Int) ^ (41 : Int).toNat + 289)))] _
      generalize (b + 26535897932384627 * (c + 1)) ^ (3 : Int).toNat % ((10 : Int) ^ (41 : Int).toNat + 289) = r at r0 r1 ⊢
      have rb : r.natAbs < 2 ^ 200 := natAbs_lt_of r0 (by omega)
      refine ⟨_, rfl, _, rfl, _, _, rfl, rfl, wide_mul rb rb (by decide) (by decide) (by decide), _, rfl, p, _, 2, .int (c + 1), rfl, rfl, SqL.of hp1, rfl, _, _, rfl, rfl, wide_mul k2 cb (by decide) (by decide) (by decide), _, _, rfl, rfl, .inl ⟨_, rfl, ?_⟩⟩
      refine ⟨_, _, rfl, rfl, hp40, _, _, rfl, rfl, _, _, rfl, rfl, big2, ?_⟩
      refine ⟨_, rfl, _, _, rfl, rfl, hp8, _, _, rfl, rfl, wide_div e8 e8' (by decide) (by decide), .inl ⟨_, rfl, ?_⟩⟩
      refine ⟨_, rfl, _, _, rfl, rfl, m0, ?_⟩
      exact q _ _ (md _).1 (md _).2 g1 ⟨a, b, c + 1, hp1, b0, b2, by omega, by omega⟩
-- _law_pick (statement 37)
abbrev s__law_pick : Stmt := topS 37
abbrev n__law_pick : List Str := ["_law_purse_here", "_law_items"]
theorem sc__law_pick : FnScope n__law_pick ["_law_purse_here", "_law_items"] (defScope s__law_pick) := ⟨rfl, rfl, rfl, by decide +kernel, rfl, by decide +kernel, by decide +kernel⟩
-- slots: 0 _law_purse_here, 1 _law_items
def spPick : Sp := fun vs H Q _ => ∃ (p l : Addr) (xs : List V) (n : Nat) (G : Hp), Same G H ∧ vs = [.ref p, .ref l] ∧ G p = none ∧ Pu n H p ∧ l ≠ p ∧ H l = some (.lst xs) ∧ 0 < xs.length ∧ xs.length ≤ 1000 ∧ n ≤ 100000 ∧
  ∀ H' (i : Nat) x, xs[i]? = some x → Grow (One p) G H G H' → Pu (n + 1) H' p → Q x H'
theorem ok__law_pick (D : DefAt K mg "_law_pick" s__law_pick ["_law_purse_here", "_law_items"] f fd) (B : Blt mg) (G__law_pull : Kept P w K mg base 1 "_law_pull" ["_law_purse_here", "_law_many"] spPull) : Kept P w K mg base 2 "_law_pick" ["_law_purse_here", "_law_items"] spPick := by
  refine D.kept (D.F.ok sc__law_pick (fun vs H Q E h => ?_) (fun cdv A outer s H vs Q E hr h => ?_))
  · obtain ⟨p, l, xs, n, G, _, rfl, _⟩ := h
    rfl
  · obtain ⟨p, l, xs, n, G, sG, rfl, hG, hP, lp, hl, x0, x1, hn, q⟩ := h
    refine ⟨_, (pss_one (ps_ret (pe_ix (ix_listK (K := K) rfl) (pv 1) (pe_kept G__law_pull (hr.mono (by decide)) (by rfl) (pa_cons (pv 0) (pa_cons (pe_callB (call_lenK (K := K) rfl) (by rfl) B.len_ (by decide +kernel) (pa_cons (pv 1) pa_nil)) pa_nil))) (fun _ _ => rfl)))), ?_⟩
    refine ⟨_, rfl, _, rfl, _, rfl, l, _, rfl, .inl (SqL.of hl), p, _, n, G, sG, rfl, hG, hP, by omega, ?_, hn, fun H' r r0 r1 g1 hP1 => ?_⟩
    · have : 1000 < 2 ^ 1000 := Nat.lt_two_pow_self
      omega
    · have e := List.getElem?_eq_getElem (l := xs) (i := r.toNat) (by omega)
      refine ⟨l, xs, r, _, rfl, rfl, SqL.of (g1.one lp hl), ?_, q _ _ _ e g1 hP1⟩
      have e2 := atI_nat e
      rw [Int.toNat_of_nonneg r0] at e2
      exact e2
-- _law_divisor (statement 38)
abbrev s__law_divisor : Stmt := topS 38
abbrev n__law_divisor : List Str := ["_law_one", "_law_twin"]
theorem sc__law_divisor : FnScope n__law_divisor ["_law_one", "_law_twin"] (defScope s__law_divisor) := ⟨rfl, rfl, rfl, by decide +kernel, rfl, by decide +kernel, by decide +kernel⟩
-- slots: 0 _law_one, 1 _law_twin
def spDiv : Sp := fun vs H Q _ => ∃ a b : Int, vs = [.int a, .int b] ∧ 0 ≤ a ∧ 0 ≤ b ∧ Q (.int (Int.gcd a b)) H
theorem ok__law_divisor (D : DefAt K mg "_law_divisor" s__law_divisor ["_law_one", "_law_twin"] f fd) (B : Blt mg) : Kept P w K mg base 1 "_law_divisor" ["_law_one", "_law_twin"] spDiv := by
  refine D.kept (D.F.ok sc__law_divisor (fun vs H Q E h => ?_) (fun cdv A outer s H vs Q E hr h => ?_))
  · obtain ⟨a, b, rfl, _⟩ := h
    rfl
  · obtain ⟨a, b, rfl, ha, hb, q⟩ := h
    refine ⟨_, (pss_cons (ps_while PassesOwn.never (pt_cmp (pc_gt (pv 1) pe_int))
        (pss_one (ps_par (i := 0) (j := 1) rfl sc__law_divisor.nd rfl rfl (by decide) rfl rfl (pa_cons (pv 1) (pa_cons (pe_op op_mod (pe_callTy call_int1 (by rfl) B.int_ (by decide +kernel) (pa_cons (pv 0) pa_nil)) (pv 1)) pa_nil)) (by rfl))))
        (pss_one (ps_ret (pv 0)))), ?_⟩
    refine ⟨fun m σ H' => ∃ (x y : Int), m = y.toNat ∧ σ = [some (.int x), some (.int y)] ∧ 0 ≤ x ∧ 0 ≤ y ∧ Int.gcd x y = Int.gcd a b ∧ H' = H, ⟨_, _, _, rfl, rfl, ha, hb, rfl, rfl⟩, ?_⟩
    rintro m σ H' ⟨x, y, rfl, rfl, hx, hy, hg, rfl⟩
    refine ⟨_, rfl, _, _, rfl, rfl, _, rfl, ite2 (fun e => ?_) (fun e => ?_)⟩
    · have y0 : 0 < y := of_decide_eq_true e
      have h1 := Int.emod_nonneg x (show y ≠ 0 by omega)
      have h2 := Int.emod_lt_of_pos x y0
      refine ⟨_, fun σ' H' h => h, ?_⟩
      refine ⟨_, rfl, _, rfl, .inl ⟨_, rfl, ?_⟩⟩
      refine ⟨_, rfl, _, _, rfl, rfl, y0, _, _, rfl, ?_⟩
      refine ⟨(x % y).toNat, by omega, y, x % y, rfl, rfl, hy, h1, ?_, rfl⟩
      rw [← hg, Int.emod_def, Int.mul_comm, Int.gcd_sub_mul_right_right, Int.gcd_comm]
    · have y0 : y = 0 := by
        have : ¬ 0 < y := fun z => e (decide_eq_true z)
        omega
      subst y0
      rw [Int.gcd_zero] at hg
      refine ⟨_, rfl, ?_⟩
      have ex : x = ((Int.gcd a b : Nat) : Int) := by omega
      rw [ex]
      exact q
-- _law_low (statement 39)
abbrev s__law_low : Stmt := topS 39
abbrev n__law_low : List Str := ["_law_above", "_law_below", "_law_divisor_here"]
theorem sc__law_low : FnScope n__law_low ["_law_above", "_law_below"] (defScope s__law_low) := ⟨rfl, rfl, rfl, by decide +kernel, rfl, by decide +kernel, by decide +kernel⟩
-- slots: 0 _law_above, 1 _law_below, 2 _law_divisor_here
def spLow2 : Sp := fun vs H Q _ => ∃ (a b : Int) (G : Hp), Same G H ∧ vs = [.int a, .int b] ∧ 0 ≤ a ∧ 0 < b ∧ b.natAbs < 2 ^ 1000 ∧ ∀ G' H' v, Grow No G H G' H' → Da G' (dFr (Bn.low a b)) v → Q v H'
theorem ok__law_low (D : DefAt K mg "_law_low" s__law_low ["_law_above", "_law_below"] f fd) (B : Blt mg) (G__law_divisor : Kept P w K mg base 1 "_law_divisor" ["_law_one", "_law_twin"] spDiv) : Kept P w K mg base 2 "_law_low" ["_law_above", "_law_below"] spLow2 := by
  refine D.kept (D.F.ok sc__law_low (fun vs H Q E h => ?_) (fun cdv A outer s H vs Q E hr h => ?_))
  · obtain ⟨a, b, G, _, rfl, _⟩ := h
    rfl
  · obtain ⟨a, b, G, sG, rfl, ha, hb, bb, q⟩ := h
    have g0 := Bn.gcd_pos_r (a := a) hb
    have gb : ((Int.gcd a b : Nat) : Int).natAbs < 2 ^ 1000 := by
      have := Int.gcd_le_natAbs_right (b := b) a (by omega)
      omega
    refine ⟨_, (pss_cons (ps_set (i := 2) sc__law_low.nd rfl (Or.inl rfl) (pe_kept G__law_divisor (hr.mono (by decide)) (by rfl) (pa_cons (pe_callB (call_abs) (by rfl) B.abs_ (by decide +kernel) (pa_cons (pv 0) pa_nil)) (pa_cons (pv 1) pa_nil))))
        (pss_one (ps_ret (pe_tup (pa_cons (pe_op op_fdivW (pv 0) (pv 2)) (pa_cons (pe_op op_fdivW (pv 1) (pv 2)) pa_nil)))))), ?_⟩
    refine ⟨_, rfl, _, rfl, _, rfl, a, b, by rw [if_neg (by omega)]; rfl, ha, Int.le_of_lt hb, ?_⟩
    refine ⟨_, rfl, _, rfl, _, _, rfl, rfl, wide_div g0 gb (by decide) (by decide), _, rfl, _, rfl, _, _, rfl, rfl, wide_div g0 gb (by decide) (by decide), sz 2, fun p np => ?_⟩
    exact q _ _ _ ((Grow.refl sG).lay np) (da_fr.mpr ⟨p, rfl, upd_same⟩)
end
end Bw
set_option Elab.async false
set_option linter.all false
set_option maxRecDepth 100000
set_option maxHeartbeats 8000000
set_option exponentiation.threshold 10000
/-! BwL: drawn sheets, sheets shown, in lowest terms, small lines. -/
namespace Bw
open PySem L2
theorem sum_set : ∀ {l : List Int} {j : Nat} {x v : Int}, l[j]? = some x → (l.set j v).sum = l.sum - x + v
  | y :: l, 0, x, v, h => by
    cases h
    rw [List.set_cons_zero, List.sum_cons, List.sum_cons]
    omega
  | y :: l, j + 1, x, v, h => by
    have ih := sum_set (l := l) (j := j) (x := x) (v := v) h
    rw [List.set_cons_succ, List.sum_cons, List.sum_cons, ih]
    omega
theorem sum_nn : ∀ {l : List Int}, (∀ x ∈ l, 0 ≤ x) → 0 ≤ l.sum
  | [], _ => Int.le_refl 0
  | y :: l, h => by
    have := sum_nn (l := l) fun x hx => h x (List.mem_cons_of_mem _ hx)
    have := h y (List.mem_cons_self ..)
    rw [List.sum_cons]
    omega
theorem sum_top {b : Int} : ∀ {l : List Int}, (∀ x ∈ l, x ≤ b) → l.sum ≤ l.length * b
  | [], _ => by simp
  | y :: l, h => by
    have := sum_top (l := l) fun x hx => h x (List.mem_cons_of_mem _ hx)
    have := h y (List.mem_cons_self ..)
    rw [List.sum_cons, List.length_cons, Int.natCast_add, Int.add_mul]
    omega
theorem sum_div {d : Int} (d0 : 0 < d) : ∀ {l : List Int}, (∀ x ∈ l, d ∣ x) → (l.map (· / d)).sum * d = l.sum
  | [], _ => by simp
  | y :: l, h => by
    have ih := sum_div d0 (l := l) fun x hx => h x (List.mem_cons_of_mem _ hx)
    have := Int.ediv_mul_cancel (h y (List.mem_cons_self ..))
    rw [List.map_cons, List.sum_cons, List.sum_cons, Int.add_mul, ih, this]
theorem Grow.oneAt {G H G1 H1 : Hp} {p q : Addr} (a : Grow (One p) G H G1 H1) (hq : q ≠ p) (h : H q ≠ none) : H1 q = H q := by
  cases e : H q with
  | none => exact absurd e h
  | some o => exact a.one hq e
theorem mem_get {al : Type} {l : List al} {P : al → Prop} (h : ∀ (i : Nat) (x : al), l[i]? = some x → P x) : ∀ x ∈ l, P x := fun x hx => by
  obtain ⟨i, hi⟩ := List.getElem?_of_mem hx
  exact h i x hi
section
variable {P : Program} {w : World} {K : PySem.W.Frag} {mg : Str → Option Value} {base : Heap} {f : Addr} {fd : FuncData}
-- _law_weights (statement 40)
abbrev s__law_weights : Stmt := topS 40
abbrev n__law_weights : List Str := ["_law_purse_here", "_law_many", "_law_great", "_law_line", "_law_turn"]
theorem sc__law_weights : FnScope n__law_weights ["_law_purse_here", "_law_many", "_law_great"] (defScope s__law_weights) := ⟨rfl, rfl, rfl, by decide +kernel, rfl, by decide +kernel, by decide +kernel⟩
-- slots: 0 _law_purse_here*, 1 _law_many, 2 _law_great, 3 _law_line, 4 _law_turn
def spWts : Sp := fun vs H Q _ => ∃ (p : Addr) (many n : Nat) (G : Hp), Same G H ∧ vs = [.ref p, .int many, .bl false] ∧ G p = none ∧ Pu n H p ∧ 1 ≤ many ∧ many ≤ 3 ∧ n ≤ 90000 ∧
  ∀ G' H' v l, Grow (One p) G H G' H' → Pu (n + 10) H' p → Da G' (dIs l) v → l.length = many → (∀ x ∈ l, 0 ≤ x) → 0 < l.sum → l.sum ≤ 27 → Q v H'
theorem ok__law_weights (D : DefAt K mg "_law_weights" s__law_weights ["_law_purse_here", "_law_many", "_law_great"] f fd) (B : Blt mg) (G__law_pull : Kept P w K mg base 1 "_law_pull" ["_law_purse_here", "_law_many"] spPull)
    (G__law_pick : Kept P w K mg base 2 "_law_pick" ["_law_purse_here", "_law_items"] spPick) : Kept P w K mg base 3 "_law_weights" ["_law_purse_here", "_law_many", "_law_great"] spWts := by
  refine D.kept (D.F.ok sc__law_weights (fun vs H Q E h => ?_) (fun cdv A outer s H vs Q E hr h => ?_))
  · obtain ⟨p, many, n, G, _, rfl, _⟩ := h
    rfl
  · obtain ⟨p, many, n, G, sG, rfl, hG, hP, m1, m3, hn, q⟩ := h
    have big : sizeLine = 16777216 := sizeLine_eq
    have n9 : (9 : Int).natAbs < 2 ^ 1000 := by decide +kernel
    refine ⟨_, (pss_cons (ps_setLc (i := 3) (own := [("_law_turn", 4)]) (g := gName 4) (tt := tYes) rfl sc__law_weights.nd rfl rfl (sw_true rfl rfl rfl (by decide +kernel)) (pi_range1 (by rfl) B.range_ (pa_cons (pv 1) pa_nil)) (blkOk_by (own := [("_law_turn", 4)]) (N := n__law_weights) (sc := defScope s__law_weights) (by decide +kernel)) (fun _ _ _ _ _ => (pg_name (i := 4) sc__law_weights.nd rfl (Or.inl rfl))) (fun _ _ _ _ _ => pts_nil) (fun _ _ _ _ _ => (pe_kept G__law_pick (hr.mono (by decide)) (by rfl) (pa_cons (pv 0) (pa_cons (pe_lst (pa_cons pe_int (pa_cons pe_int (pa_cons pe_int (pa_cons pe_int (pa_cons pe_int (pa_cons pe_int (pa_cons pe_int (pa_cons (pe_op op_add pe_int (pe_kept G__law_pull (hr.mono (by decide)) (by rfl) (pa_cons (pv 0) (pa_cons pe_int pa_nil)))) pa_nil))))))))) pa_nil)))))
        (pss_cons (ps_if (pt_val (pv 2))
        (pss_one (ps_setLc (i := 3) (own := [("_law_turn", 4)]) (g := gName 4) (tt := tYes) rfl sc__law_weights.nd rfl rfl (sw_true rfl rfl rfl (by decide +kernel)) (pi_range1 (by rfl) B.range_ (pa_cons (pv 1) pa_nil)) (blkOk_by (own := [("_law_turn", 4)]) (N := n__law_weights) (sc := defScope s__law_weights) (by decide +kernel)) (fun _ _ _ _ _ => (pg_name (i := 4) sc__law_weights.nd rfl (Or.inl rfl))) (fun _ _ _ _ _ => pts_nil) (fun _ _ _ _ _ => (pe_kept G__law_pull (hr.mono (by decide)) (by rfl) (pa_cons (pv 0) (pa_cons (pe_op op_powW pe_int pe_int) pa_nil))))))
        pss_nil)
        (pss_cons (ps_if (pt_cmp (pc_eqI (pe_callB (cr_sumK (K := K) rfl rfl) (by rfl) B.sum_ (by decide +kernel) (pa_cons (pv 3) pa_nil)) pe_int))
        (pss_one (ps_asg pe_int (pg_sub (pv 3) (pe_kept G__law_pull (hr.mono (by decide)) (by rfl) (pa_cons (pv 0) (pa_cons (pv 1) pa_nil))) set_list)))
        pss_nil)
        (pss_one (ps_ret (pv 3)))))), ?_⟩
    refine ⟨_, rfl, _, rfl, by omega, by omega, fun D hD => ?_⟩
    have Dp : D ≠ p := fun e => hP.ne (by rw [← e]; exact hD)
    refine lc_data (walk_range (lo := 0) (n := ((many : Nat) : Int).toNat)) PyData.int (fun _ z => 0 ≤ z ∧ z ≤ 9) (S := One p) (G0 := G) (H0 := H) (G1 := G) (H1 := H) (fun i H' => Pu (n + 2 * i) H' p) (Grow.refl sG) hD (by omega)
      (fun G' H' s1 gr => trivial) (hP.keep (upd_ne Dp.symm)) (fun i H' x _ _ h => h.keep (upd_ne Dp.symm)) ?_ ?_
    · rintro i x G2 _ H2 hi s2 g2 gD hD2 iv ⟨rfl, rfl⟩ Post hk
      have G2p := g2.new p hG hP.ne
      refine ⟨rfl, ?_⟩
      refine ⟨_, rfl, _, rfl, p, 9, _, G2, g2.sub, rfl, G2p, iv, by decide, n9, by omega, fun H3 r r0 r1 g3 iv3 => ?_⟩
      refine ⟨_, _, rfl, rfl, sz 8, fun l nl => ?_⟩
      have g4 := g3.loc (c := .lst [.int 0, .int 0, .int 1, .int 1, .int 1, .int 2, .int 3, .int (1 + r)]) nl
      have hl : (upd H3 l (.lst [.int 0, .int 0, .int 1, .int 1, .int 1, .int 2, .int 3, .int (1 + r)])) l = some (.lst [.int 0, .int 0, .int 1, .int 1, .int 1, .int 2, .int 3, .int (1 + r)]) := upd_same
      have lp : l ≠ p := fun e => iv3.ne (by rw [← e]; exact nl)
      have iv4 : Pu (n + 2 * i + 1) (upd H3 l (.lst [.int 0, .int 0, .int 1, .int 1, .int 1, .int 2, .int 3, .int (1 + r)])) p := iv3.keep (upd_ne lp.symm)
      generalize upd H3 l (.lst [.int 0, .int 0, .int 1, .int 1, .int 1, .int 2, .int 3, .int (1 + r)]) = H4 at g4 hl iv4 ⊢
      refine ⟨p, l, _, _, G2, g4.sub, rfl, G2p, iv4, lp, hl, by show 0 < 8; decide, by show 8 ≤ 1000; decide, by omega, fun H5 j x ex g5 iv5 => ?_⟩
      have g25 := g4.via g5 one_same
      have ex' : (([0, 0, 1, 1, 1, 2, 3, 1 + r] : List Int).map V.int)[j]? = some x := ex
      rw [List.getElem?_map] at ex'
      cases e : ([0, 0, 1, 1, 1, 2, 3, 1 + r] : List Int)[j]? with
      | none => rw [e] at ex'; cases ex'
      | some z =>
        rw [e] at ex'
        cases ex'
        have mem := List.mem_of_getElem? e
        refine hk _ H5 G2 z g25 (g25.oneAt Dp hD2) ?_ (da_int.mpr rfl) iv5
        simp only [List.mem_cons, List.not_mem_nil, or_false] at mem
        rcases mem with h | h | h | h | h | h | h | h <;> omega
    · intro G3 H3 l s3 g3 ll hPz da iv
      have g30 := (Grow.refl (S := One p) sG).drop g3 one_same
      obtain ⟨_, eD, hD3'⟩ := da_is.mp da
      cases eD
      have hD3 := g3.sub _ _ hD3'
      have GD : G D = none := sG.free hD
      have l0 : ∀ x ∈ l, 0 ≤ x := fun x hx => (mem_get hPz x hx).1
      have l9 := sum_top fun x hx => (mem_get hPz x hx).2
      have lsum : l.sum ≤ 27 := by
        have : l.length ≤ 3 := by omega
        omega
      have G3p := hG
      refine ⟨_, rfl, _, rfl, iteF ?_⟩
      refine ⟨_, rfl, D, l, rfl, SqL.of hD3, _, _, rfl, rfl, _, rfl, ite_b (fun e => ?_) fun e => ?_⟩
      · have z0 : l.sum = 0 := of_decide_eq_true e
        refine ⟨_, rfl, _, rfl, _, rfl, p, _, _, G, g30.sub, rfl, hG, iv, by omega, ?_, by omega, fun H4 r r0 r1 g4 iv4 => ?_⟩
        · have : 3 < 2 ^ 1000 := by decide +kernel
          omega
        have hj : r.toNat < l.length := by omega
        have ej := List.getElem?_eq_getElem hj
        have ssum := sum_set (v := 1) ej
        have xj := l0 _ (List.mem_of_getElem? ej)
        have g34 := g30.via g4 one_same
        have hD4 := g4.one Dp hD3
        have mem1 : (1 : Int) ∈ l.set r.toNat 1 := List.mem_of_getElem? (List.getElem?_set_self hj)
        have nn1 : ∀ x ∈ l.set r.toNat 1, 0 ≤ x := fun x hx => by
          rcases List.mem_or_eq_of_mem_set hx with y | y
          · exact l0 x y
          · omega
        have pos1 := Bn.le_sum nn1 1 mem1
        refine ⟨D, _, r, r.toNat, rfl, rfl, hD4, ?_, ?_⟩
        · unfold ixN
          rw [if_pos r0, if_pos (by rw [List.length_map]; omega)]
        · have es : (l.map V.int).set r.toNat (.int 1) = (l.set r.toNat 1).map V.int := List.map_set.symm
          rw [es]
          have g5 := g34.put (c := .lst ((l.set r.toNat 1).map V.int)) GD (.inl hD)
          have hD5 : (upd H4 D (.lst ((l.set r.toNat 1).map V.int))) D = some (.lst ((l.set r.toNat 1).map V.int)) := upd_same
          obtain ⟨G6, g6, s6, hD6, _⟩ := g5.pubX hD5 hD GD
          refine ⟨_, rfl, q G6 _ _ _ g6 (iv4.keep (upd_ne Dp.symm) |>.mono (by omega)) (da_is.mpr ⟨D, rfl, hD6⟩) (by rw [List.length_set]; omega) nn1 (by omega) (by omega)⟩
      · have nz : l.sum ≠ 0 := of_decide_eq_false e
        have := sum_nn l0
        exact ⟨_, rfl, q G3 _ _ _ g3 (iv.mono (by omega)) da (by omega) l0 (by omega) lsum⟩
-- _law_sheet (statement 41)
abbrev s__law_sheet : Stmt := topS 41
abbrev n__law_sheet : List Str := ["_law_purse_here", "_law_rows", "_law_columns", "_law_great", "_law_turn"]
theorem sc__law_sheet : FnScope n__law_sheet ["_law_purse_here", "_law_rows", "_law_columns", "_law_great"] (defScope s__law_sheet) := ⟨rfl, rfl, rfl, by decide +kernel, rfl, by decide +kernel, by decide +kernel⟩
-- slots: 0 _law_purse_here*, 1 _law_rows, 2 _law_columns*, 3 _law_great*, 4 _law_turn
def spSheet : Sp := fun vs H Q _ => ∃ (p : Addr) (R c n : Nat) (G : Hp), Same G H ∧ vs = [.ref p, .int R, .int c, .bl false] ∧ G p = none ∧ Pu n H p ∧ R ≤ 4 ∧ 1 ≤ c ∧ c ≤ 3 ∧ n ≤ 80000 ∧
  ∀ G' H' v s, Grow (One p) G H G' H' → Pu (n + 40) H' p → Da G' (dIss s) v → Bn.Sht R 27 s → Q v H'
theorem ok__law_sheet (D : DefAt K mg "_law_sheet" s__law_sheet ["_law_purse_here", "_law_rows", "_law_columns", "_law_great"] f fd) (B : Blt mg) (G__law_weights : Kept P w K mg base 3 "_law_weights" ["_law_purse_here", "_law_many", "_law_great"] spWts) :
    Kept P w K mg base 4 "_law_sheet" ["_law_purse_here", "_law_rows", "_law_columns", "_law_great"] spSheet := by
  refine D.kept (D.F.ok sc__law_sheet (fun vs H Q E h => ?_) (fun cdv A outer s H vs Q E hr h => ?_))
  · obtain ⟨p, R, c, n, G, _, rfl, _⟩ := h
    rfl
  · obtain ⟨p, R, c, n, G, sG, rfl, hG, hP, R4, c1, c3, hn, q⟩ := h
    have big : sizeLine = 16777216 := sizeLine_eq
    refine ⟨_, (pss_one (ps_ret (pe_lc (own := [("_law_turn", 4)]) (g := gName 4) (tt := tYes) rfl sc__law_sheet.nd (pi_range1 (by rfl) B.range_ (pa_cons (pv 1) pa_nil)) (blkOk_by (own := [("_law_turn", 4)]) (N := n__law_sheet) (sc := defScope s__law_sheet) (by decide +kernel)) (fun _ _ _ _ _ => (pg_name (i := 4) sc__law_sheet.nd rfl (Or.inl rfl))) (fun _ _ _ _ _ => pts_nil) (fun _ _ _ _ _ => (pe_kept G__law_weights (hr.mono (by decide)) (by rfl) (pa_cons (pv 0) (pa_cons (pv 2) (pa_cons (pv 3) pa_nil)))))))), ?_⟩
    refine ⟨_, rfl, _, rfl, by omega, by omega, fun D hD => ?_⟩
    have Dp : D ≠ p := fun e => hP.ne (by rw [← e]; exact hD)
    refine lc_data (walk_range (lo := 0) (n := ((R : Nat) : Int).toNat)) dIs (fun _ l => l.length = c ∧ (∀ x ∈ l, 0 ≤ x) ∧ 0 < l.sum ∧ l.sum ≤ 27) (S := One p) (G0 := G) (H0 := H) (G1 := G) (H1 := H) (fun i H' => Pu (n + 10 * i) H' p) (Grow.refl sG) hD (by omega)
      (fun G' H' s1 gr => trivial) (hP.keep (upd_ne Dp.symm)) (fun i H' x _ _ h => h.keep (upd_ne Dp.symm)) ?_ ?_
    · rintro i x G2 _ H2 hi s2 g2 gD hD2 iv ⟨rfl, rfl⟩ Post hk
      refine ⟨rfl, ?_⟩
      refine ⟨_, rfl, _, rfl, _, rfl, p, c, _, G2, g2.sub, rfl, g2.new p hG hP.ne, iv, c1, c3, by omega, fun G3 H3 v l g3 iv3 d l1 l2 l3 l4 => ?_⟩
      exact hk v H3 G3 l g3 (g3.oneAt Dp hD2) ⟨l1, l2, l3, l4⟩ d iv3
    · intro G3 H3 s s3 g3 ls hPz da iv
      have facts := mem_get hPz
      exact q G3 H3 _ s g3 (iv.mono (by omega)) da ⟨by omega, ⟨c, c1, c3, fun l hl => (facts l hl).1⟩, fun l hl => (facts l hl).2.1, fun l hl => (facts l hl).2.2.1, fun l hl => (facts l hl).2.2.2⟩
-- _law_low_sheet (statement 43)
abbrev s__law_low_sheet : Stmt := topS 43
abbrev n__law_low_sheet : List Str := ["_law_sheet_here", "_law_line", "_law_weight"]
theorem sc__law_low_sheet : FnScope n__law_low_sheet ["_law_sheet_here"] (defScope s__law_low_sheet) := ⟨rfl, rfl, rfl, by decide +kernel, rfl, by decide +kernel, by decide +kernel⟩
-- slots: 0 _law_sheet_here, 1 _law_line, 2 _law_weight
def spLowSh : Sp := fun vs H Q _ => ∃ (s : List (List Int)) (R : Nat) (M : Int) (G : Hp) (v : V), Same G H ∧ vs = [v] ∧ Da G (dIss s) v ∧ Bn.Sht R M s ∧ M ≤ 2 ^ 100 ∧ R ≤ 4 ∧ ∀ G' H' v', Grow No G H G' H' → Da G' (dTab (Bn.lowT s)) v' → Q v' H'
theorem ok__law_low_sheet (D : DefAt K mg "_law_low_sheet" s__law_low_sheet ["_law_sheet_here"] f fd) (B : Blt mg) (G__law_low : Kept P w K mg base 2 "_law_low" ["_law_above", "_law_below"] spLow2) : Kept P w K mg base 3 "_law_low_sheet" ["_law_sheet_here"] spLowSh := by
  refine D.kept (D.F.ok sc__law_low_sheet (fun vs H Q E h => ?_) (fun cdv A outer s H vs Q E hr h => ?_))
  · obtain ⟨s, R, M, G, v, _, rfl, _⟩ := h
    rfl
  · obtain ⟨sh, R, M, G, v, sG, rfl, hd, S, hM, R4, q⟩ := h
    obtain ⟨a, xs, rfl, ha, hx⟩ := da_lst.mp hd
    have len := hx.mapLen
    have lR := S.len
    have big : sizeLine = 16777216 := sizeLine_eq
    obtain ⟨c, c1, c3, cw⟩ := S.wid
    have m2 : ∀ x : Int, 0 ≤ x → x ≤ M → x.natAbs < 2 ^ 1000 := fun x h0 h1 => by
      have h2 := ipow_lt (show 100 < 1000 by decide)
      exact natAbs_lt_of h0 (by omega)
    refine ⟨_, (pss_one (ps_ret (pe_callTy (call_tupleK (K := K) rfl) (by rfl) B.tuple_ (by decide +kernel) (pa_cons (pe_lc (own := [("_law_line", 1)]) (g := gName 1) (tt := tYes) rfl sc__law_low_sheet.nd (pi_listK (K := K) rfl (pv 0)) (blkOk_by (own := [("_law_line", 1)]) (N := n__law_low_sheet) (sc := defScope s__law_low_sheet) (by decide +kernel)) (fun _ _ _ _ _ => (pg_name (i := 1) sc__law_low_sheet.nd rfl (Or.inr rfl))) (fun _ _ _ _ _ => pts_nil) (fun _ _ _ _ _ => (pe_callTy (call_tupleK (K := K) rfl) (by rfl) B.tuple_ (by decide +kernel) (pa_cons (pe_lc (own := [("_law_weight", 2)]) (g := gName 2) (tt := tYes) rfl sc__law_low_sheet.nd (pi_listK (K := K) rfl (pv 1)) (blkOk_by (by kernel_rfl)) (fun _ _ _ _ _ => (pg_name (i := 2) sc__law_low_sheet.nd rfl (Or.inl rfl))) (fun _ _ _ _ _ => pts_nil) (fun _ _ _ _ _ => (pe_kept G__law_low (hr.mono (by decide)) (by rfl) (pa_cons (pv 2) (pa_cons (pe_callB (cr_sumK (K := K) rfl rfl) (by rfl) B.sum_ (by decide +kernel) (pa_cons (pv 1) pa_nil)) pa_nil))))) pa_nil)))) pa_nil)))), ?_⟩
    refine ⟨_, rfl, a, rfl, ⟨_, SqL.of (sG _ _ ha)⟩, fun aO nO => ?_⟩
    refine lc_data (walk_list (K := K) (a := a) (xs := xs)) dFrT (fun i z => ∃ l, sh[i]? = some l ∧ z = Bn.lowR l) (S := No) (G0 := G) (H0 := H) (G1 := G) (H1 := H) (fun _ _ => True) (Grow.refl sG) nO (by omega)
      (fun G' H' s1 gr => SqL.of (gr.sub _ _ (s1 _ _ ha))) trivial (fun _ _ _ _ _ _ => trivial) ?_ ?_
    · rintro i x G2 _ H2 hi s2 g2 gD hD' _ ⟨rfl, hx'⟩ Post hk
      obtain ⟨l, e1, e2⟩ := hx.mapGet hx'
      have mem := List.mem_of_getElem? e1
      obtain ⟨b, rfl, hb⟩ := da_is.mp e2
      have ll := cw l mem
      refine ⟨rfl, ?_⟩
      refine ⟨_, rfl, b, rfl, ⟨_, SqL.of (g2.sub _ _ (s2 _ _ hb))⟩, fun D2 hD2 => ?_⟩
      refine lc_data (walk_list (K := K) (a := b) (xs := l.map V.int)) dFr (fun j z => ∃ y, l[j]? = some y ∧ z = Bn.low y l.sum) (S := No) (G0 := G2) (H0 := H2) (G1 := G2) (H1 := H2) (fun _ _ => True) (Grow.refl g2.sub) hD2 (by rw [List.length_map]; omega)
        (fun G' H' s3 gr => SqL.of (gr.sub _ _ (s3 _ _ (s2 _ _ hb)))) trivial (fun _ _ _ _ _ _ => trivial) ?_ ?_
      · rintro j x G3 _ H3 hj s3 g3 gD2 hD2' _ ⟨rfl, hx3⟩ Post2 hk2
        rw [List.getElem?_map] at hx3
        cases ey : l[j]? with
        | none => rw [ey] at hx3; cases hx3
        | some y =>
          rw [ey] at hx3
          cases hx3
          have my := List.mem_of_getElem? ey
          refine ⟨rfl, ?_⟩
          refine ⟨_, rfl, _, rfl, b, l, rfl, SqL.of (g3.sub _ _ (s3 _ _ (s2 _ _ hb))), y, l.sum, G3, g3.sub, rfl, S.nn l mem y my, S.pos l mem, m2 _ (Int.le_of_lt (S.pos l mem)) (S.le l mem), fun G4 H4 v4 g4 d4 => ?_⟩
          exact hk2 v4 H4 G4 _ g4.no (g4.sm.at hD2') ⟨y, ey, rfl⟩ d4 trivial
      · intro G3 H3 l3 s3 g3 ll3 hP3 d3 _
        rw [List.length_map] at ll3
        have e3 : l3 = Bn.lowR l := by
          refine List.ext_getElem? fun j => ?_
          unfold Bn.lowR
          rw [List.getElem?_map]
          cases z : l3[j]? with
          | none =>
            have : l[j]? = none := by
              rw [List.getElem?_eq_none_iff] at z ⊢
              omega
            rw [this]
            rfl
          | some u =>
            obtain ⟨y, h1, h2⟩ := hP3 j u z
            rw [h1, h2]
            rfl
        rw [e3] at d3
        obtain ⟨_, zs, e, h3, hz⟩ := da_lst.mp d3
        cases e
        refine ⟨D2, zs, rfl, .inl ⟨SqL.of (g3.sub _ _ h3), fun p hp => ?_⟩⟩
        have g4 := g3.lay (c := .tup zs) hp
        have nD : H3 aO ≠ none := by rw [g3.sm.at hD']; exact hD'
        exact hk _ _ _ (Bn.lowR l) g4.no (((same_updG hp).at nD).trans (g3.sm.at hD')) ⟨l, e1, rfl⟩ (da_tup.mpr ⟨p, zs, rfl, upd_same, DaAll.mono (same_updG (g3.freeG hp)) _ _ hz⟩) trivial
    · intro G3 H3 l3 s3 g3 ll3 hP3 d3 _
      have e3 : l3 = Bn.lowT sh := by
        refine List.ext_getElem? fun j => ?_
        unfold Bn.lowT
        rw [List.getElem?_map]
        cases z : l3[j]? with
        | none =>
          have : sh[j]? = none := by
            rw [List.getElem?_eq_none_iff] at z ⊢
            omega
          rw [this]
          rfl
        | some u =>
          obtain ⟨y, h1, h2⟩ := hP3 j u z
          rw [h1, h2]
          rfl
      rw [e3] at d3
      obtain ⟨_, zs, e, h3, hz⟩ := da_lst.mp d3
      cases e
      refine ⟨aO, zs, rfl, .inl ⟨SqL.of (g3.sub _ _ h3), fun p hp => ?_⟩⟩
      have g4 := g3.lay (c := .tup zs) hp
      exact q _ _ _ g4 (da_tup.mpr ⟨p, zs, rfl, upd_same, DaAll.mono (same_updG (g3.freeG hp)) _ _ hz⟩)
-- _law_small_line (statement 44)
abbrev s__law_small_line : Stmt := topS 44
abbrev n__law_small_line : List Str := ["_law_line", "_law_divisor_here", "_law_weight"]
theorem sc__law_small_line : FnScope n__law_small_line ["_law_line"] (defScope s__law_small_line) := ⟨rfl, rfl, rfl, by decide +kernel, rfl, by decide +kernel, by decide +kernel⟩
-- slots: 0 _law_line, 1 _law_divisor_here*, 2 _law_weight
def spSmall : Sp := fun vs H Q _ => ∃ (l : List Int) (G : Hp) (v : V), Same G H ∧ vs = [v] ∧ Da G (dIs l) v ∧ l.length ≤ 1000 ∧ (∀ x ∈ l, 0 ≤ x) ∧ 0 < l.sum ∧ l.sum < 2 ^ 1000 ∧
  ∀ G' H' v' l', Grow No G H G' H' → Da G' (dIs l') v' → l'.length = l.length → (∀ x ∈ l', 0 ≤ x) → 0 < l'.sum → l'.sum ≤ l.sum → Q v' H'
theorem ok__law_small_line (D : DefAt K mg "_law_small_line" s__law_small_line ["_law_line"] f fd) (B : Blt mg) (G__law_divisor : Kept P w K mg base 1 "_law_divisor" ["_law_one", "_law_twin"] spDiv) : Kept P w K mg base 2 "_law_small_line" ["_law_line"] spSmall := by
  refine D.kept (D.F.ok sc__law_small_line (fun vs H Q E h => ?_) (fun cdv A outer s H vs Q E hr h => ?_))
  · obtain ⟨l, G, v, _, rfl, _⟩ := h
    rfl
  · obtain ⟨l, G, v, sG, rfl, hd, hl, l0, s0, s1, q⟩ := h
    obtain ⟨a, rfl, ha⟩ := da_is.mp hd
    have big : sizeLine = 16777216 := sizeLine_eq
    have hS : SqL K H a (l.map V.int) := SqL.of (sG _ _ ha)
    refine ⟨_, (pss_cons (ps_set (i := 1) sc__law_small_line.nd rfl (Or.inr rfl) pe_int)
        (pss_cons (ps_for PassesOwn.never rfl (pi_listK (K := K) rfl (pv 0)) (pg_name (i := 2) sc__law_small_line.nd rfl (Or.inl rfl))
        (pss_one (ps_set (i := 1) sc__law_small_line.nd rfl (Or.inr rfl) (pe_kept G__law_divisor (hr.mono (by decide)) (by rfl) (pa_cons (pv 1) (pa_cons (pv 2) pa_nil))))))
        (pss_one (ps_ret (pe_lc (own := [("_law_weight", 2)]) (g := gName 2) (tt := tYes) rfl sc__law_small_line.nd (pi_listK (K := K) rfl (pv 0)) (blkOk_by (own := [("_law_weight", 2)]) (N := n__law_small_line) (sc := defScope s__law_small_line) (by decide +kernel)) (fun _ _ _ _ _ => (pg_name (i := 2) sc__law_small_line.nd rfl (Or.inl rfl))) (fun _ _ _ _ _ => pts_nil) (fun _ _ _ _ _ => (pe_op op_fdivW (pv 2) (pv 1)))))))), ?_⟩
    refine ⟨_, rfl, a, rfl, ⟨_, hS⟩, for_list (K := K) (a := a) (xs := l.map V.int) (fun i σ H' => ∃ (d : Int) (z : Option V), σ = [some (.ref a), some (.int d), z] ∧ H' = H ∧ 0 ≤ d ∧ d ≤ l.sum ∧ (∀ (j : Nat) (x : Int), j < i → l[j]? = some x → d ∣ x) ∧ (d = 0 → ∀ (j : Nat) (x : Int), j < i → l[j]? = some x → x = 0))
      ⟨0, none, rfl, rfl, Int.le_refl _, Int.le_of_lt s0, fun j x h => absurd h (Nat.not_lt_zero _), fun _ j x h => absurd h (Nat.not_lt_zero _)⟩ (fun i σ H' _ ⟨d, z, _, e, _⟩ => by rw [e]; exact hS) ?_ ?_⟩
    · rintro i x σ H' hx ⟨d, z, rfl, rfl, d0, d1, dv, dz⟩
      rw [List.getElem?_map] at hx
      cases ey : l[i]? with
      | none => rw [ey] at hx; cases hx
      | some y =>
        rw [ey] at hx
        cases hx
        have my := List.mem_of_getElem? ey
        have y0 := l0 y my
        have y1 := Bn.le_sum l0 y my
        refine ⟨_, rfl, _, rfl, d, y, rfl, d0, y0, ?_⟩
        refine ⟨((Int.gcd d y : Nat) : Int), _, rfl, rfl, Int.natCast_nonneg _, ?_, fun j x hj ex => ?_, fun e j x hj ex => ?_⟩
        · by_cases e : d = 0
          · subst e
            rw [Int.gcd_zero_left]
            omega
          · have := Int.gcd_le_natAbs_left (a := d) y (by omega)
            omega
        · by_cases e : j = i
          · subst e
            rw [ey] at ex
            cases ex
            exact Int.gcd_dvd_right d y
          · exact Int.dvd_trans (Int.gcd_dvd_left d y) (dv j x (by omega) ex)
        · have e0 : Int.gcd d y = 0 := by omega
          rw [Int.gcd_eq_zero_iff] at e0
          by_cases e : j = i
          · subst e
            rw [ey] at ex
            cases ex
            exact e0.2
          · exact dz e0.1 j x (by omega) ex
    · rintro σ H' ⟨d, z, rfl, rfl, d0, d1, dv, dz⟩
      rw [List.length_map] at dv dz
      have dv' : ∀ x ∈ l, d ∣ x := mem_get fun i x e => dv i x (List.getElem?_eq_some_iff.mp e).1 e
      have dp : 0 < d := by
        by_cases e : d = 0
        · have zz : ∀ x ∈ l, x ≤ 0 := mem_get fun i x ex => Int.le_of_eq (dz e i x (List.getElem?_eq_some_iff.mp ex).1 ex)
          have := sum_top zz
          omega
        · omega
      have db : d.natAbs < 2 ^ 1000 := natAbs_lt_of d0 (by omega)
      have sd := sum_div dp dv'
      refine ⟨_, rfl, a, rfl, ⟨_, hS⟩, fun D hD => ?_⟩
      refine lc_data (walk_list (K := K) (a := a) (xs := l.map V.int)) PyData.int (fun j z => ∃ y, l[j]? = some y ∧ z = y / d) (S := No) (G0 := G) (H0 := H') (G1 := G) (H1 := H') (fun _ _ => True) (Grow.refl sG) hD (by rw [List.length_map]; omega)
        (fun G' H' s3 gr => SqL.of (gr.sub _ _ (s3 _ _ ha))) trivial (fun _ _ _ _ _ _ => trivial) ?_ ?_
      · rintro j x G3 _ H3 hj s3 g3 gD2 hD2' _ ⟨rfl, hx3⟩ Post2 hk2
        rw [List.getElem?_map] at hx3
        cases ey : l[j]? with
        | none => rw [ey] at hx3; cases hx3
        | some y =>
          rw [ey] at hx3
          cases hx3
          refine ⟨rfl, ?_⟩
          refine ⟨_, rfl, _, rfl, _, _, rfl, rfl, wide_div dp db (by decide) (by decide), ?_⟩
          exact hk2 _ H3 G3 _ (Grow.refl g3.sub) rfl ⟨y, ey, rfl⟩ (da_int.mpr rfl) trivial
      · intro G3 H3 l3 s3 g3 ll3 hP3 d3 _
        rw [List.length_map] at ll3
        have e3 : l3 = l.map (· / d) := by
          refine List.ext_getElem? fun j => ?_
          rw [List.getElem?_map]
          cases z : l3[j]? with
          | none =>
            have : l[j]? = none := by
              rw [List.getElem?_eq_none_iff] at z ⊢
              omega
            rw [this]
            rfl
          | some u =>
            obtain ⟨y, h1, h2⟩ := hP3 j u z
            rw [h1, h2]
            rfl
        rw [e3] at d3
        have nn : ∀ x ∈ l.map (· / d), 0 ≤ x := fun x hx => by
          obtain ⟨y, hy, rfl⟩ := List.mem_map.mp hx
          exact Int.ediv_nonneg (l0 y hy) d0
        have n1 := sum_nn nn
        have tp : 0 < (l.map (· / d)).sum := by
          rcases Int.lt_or_eq_of_le n1 with h | h
          · exact h
          · rw [← h, Int.zero_mul] at sd
            omega
        have tl := Int.mul_le_mul_of_nonneg_left (show 1 ≤ d by omega) n1
        rw [Int.mul_one, sd] at tl
        exact q G3 H3 _ _ g3 d3 (List.length_map _) nn tp tl
-- _law_shown (statement 42)
abbrev s__law_shown : Stmt := topS 42
abbrev n__law_shown : List Str := ["_law_purse_here", "_law_sheet_here", "_law_found", "_law_line", "_law_much", "_law_weight"]
theorem sc__law_shown : FnScope n__law_shown ["_law_purse_here", "_law_sheet_here"] (defScope s__law_shown) := ⟨rfl, rfl, rfl, by decide +kernel, rfl, by decide +kernel, by decide +kernel⟩
-- slots: 0 _law_purse_here, 1 _law_sheet_here, 2 _law_found, 3 _law_line*, 4 _law_much*, 5 _law_weight
def spShown : Sp := fun vs H Q _ => ∃ (p : Addr) (s : List (List Int)) (R n : Nat) (M : Int) (G : Hp) (v : V), Same G H ∧ vs = [.ref p, v] ∧ G p = none ∧ Pu n H p ∧ Da G (dIss s) v ∧ Bn.Sht R M s ∧ M ≤ 2 ^ 100 ∧ R ≤ 4 ∧ n ≤ 90000 ∧
  ∀ G' H' v' t, Grow (One p) G H G' H' → Pu (n + 10) H' p → Da G' (dTab t) v' → OkT t s → Q v' H'
theorem ok__law_shown (D : DefAt K mg "_law_shown" s__law_shown ["_law_purse_here", "_law_sheet_here"] f fd) (B : Blt mg) (G__law_pull : Kept P w K mg base 1 "_law_pull" ["_law_purse_here", "_law_many"] spPull) : Kept P w K mg base 2 "_law_shown" ["_law_purse_here", "_law_sheet_here"] spShown := by
  refine D.kept (D.F.ok sc__law_shown (fun vs H Q E h => ?_) (fun cdv A outer s H vs Q E hr h => ?_))
  · obtain ⟨p, s, R, n, M, G, v, _, rfl, _⟩ := h
    rfl
  · obtain ⟨p, sh, R, n, M, G, v, sG, rfl, hG, hP, hd, S, hM, R4, hn, q⟩ := h
    obtain ⟨a, xs, rfl, ha, hx⟩ := da_lst.mp hd
    have len := hx.mapLen
    have lR := S.len
    have big : sizeLine = 16777216 := sizeLine_eq
    obtain ⟨c, c1, c3, cw⟩ := S.wid
    have n3 : (3 : Int).natAbs < 2 ^ 1000 := by decide +kernel
    have m2 : ∀ x : Int, 0 ≤ x → x ≤ M → x.natAbs < 2 ^ 101 := fun x h0 h1 => by
      have h2 := ipow_lt (show 100 < 101 by decide)
      exact natAbs_lt_of h0 (by omega)
    refine ⟨_, (pss_cons (ps_set (i := 2) sc__law_shown.nd rfl (Or.inl rfl) (pe_lst pa_nil))
        (pss_cons (ps_for PassesOwn.never rfl (pi_listK (K := K) rfl (pv 1)) (pg_name (i := 3) sc__law_shown.nd rfl (Or.inr rfl))
        (pss_cons (ps_set (i := 4) sc__law_shown.nd rfl (Or.inr rfl) (pe_op op_add pe_int (pe_kept G__law_pull (hr.mono (by decide)) (by rfl) (pa_cons (pv 0) (pa_cons pe_int pa_nil)))))
          (pss_one (ps_expr (pe_bm PySem.F.plainAttrs_list PySem.F.slot_list_append PySem.F.type_list_append mt_append (pv 2) (pa_cons (pe_callTy (call_tupleK (K := K) rfl) (by rfl) B.tuple_ (by decide +kernel) (pa_cons (pe_lc (own := [("_law_weight", 5)]) (g := gName 5) (tt := tYes) rfl sc__law_shown.nd (pi_listK (K := K) rfl (pv 3)) (blkOk_by (own := [("_law_weight", 5)]) (N := n__law_shown) (sc := defScope s__law_shown) (by decide +kernel)) (fun _ _ _ _ _ => (pg_name (i := 5) sc__law_shown.nd rfl (Or.inl rfl))) (fun _ _ _ _ _ => pts_nil) (fun _ _ _ _ _ => (pe_tup (pa_cons (pe_op op_mulW (pv 5) (pv 4)) (pa_cons (pe_op op_mulW (pe_callB (cr_sumK (K := K) rfl rfl) (by rfl) B.sum_ (by decide +kernel) (pa_cons (pv 3) pa_nil)) (pv 4)) pa_nil))))) pa_nil)) pa_nil))))))
        (pss_one (ps_ret (pe_callTy (call_tupleK (K := K) rfl) (by rfl) B.tuple_ (by decide +kernel) (pa_cons (pv 2) pa_nil)))))), ?_⟩
    refine ⟨Nat.zero_le _, fun o no => ?_⟩
    generalize eH0 : upd _ o _ = H0
    obtain ⟨s0, ho0⟩ := new2 no eH0
    have g0 : Grow (One p) G H G H0 := (Grow.refl sG).more s0
    have op : o ≠ p := fun e => hP.ne (by rw [← e]; exact no)
    have oG : G o = none := sG.free no
    refine ⟨_, rfl, a, rfl, ⟨_, SqL.of (g0.sub _ _ ha)⟩, for_list (K := K) (a := a) (xs := xs) (fun i σ H' => ∃ (G' : Hp) (acc : List V) (t : List (List Fr2)) (z3 z4 : Option V), σ = [some (.ref p), some (.ref a), some (.ref o), z3, z4, none] ∧ Grow (One p) G H G' H' ∧ G' o = none ∧ H' o = some (.lst acc) ∧
        Pu (n + i) H' p ∧ DaAll G' (t.map dFrT) acc ∧ t.length = i ∧ ∀ (j : Nat) (r : List Fr2), t[j]? = some r → ∃ l, sh[j]? = some l ∧ Bn.ShR r l ∧ Okf r)
      ⟨G, [], [], none, none, rfl, g0, oG, ho0, hP.same s0, daAll_nil.mpr rfl, rfl, fun j r h => by simp at h⟩ (fun i σ H' _ ⟨_, _, _, _, _, _, g', _⟩ => SqL.of (g'.sub _ _ (g'.data _ _ ha))) ?_ ?_⟩
    · rintro i x σ H1 hx1 ⟨G1, acc, t, z3, z4, rfl, g1, o1, ho1, iv, da, lt, ht⟩
      obtain ⟨l, e1, e2⟩ := hx.mapGet hx1
      have mem := List.mem_of_getElem? e1
      obtain ⟨b, rfl, hb⟩ := da_is.mp e2
      have ll := cw l mem
      have sp := S.pos l mem
      have sl := S.le l mem
      have hi : i < R := by
        have := (List.getElem?_eq_some_iff.mp e1).1
        omega
      have G1p := g1.new p hG hP.ne
      -- much
      refine ⟨_, rfl, p, 3, _, G1, g1.sub, rfl, G1p, iv, by decide, n3, by omega, fun H2 r r0 r1 g2 iv2 => ?_⟩
      refine ⟨_, _, rfl, rfl, ?_⟩
      have g12 := g1.via g2 one_same
      have ho2 := g2.one op ho1
      have hb1 := g1.data _ _ hb
      -- found.append
      refine ⟨_, rfl, .inl ⟨rfl, _, SqL.of ho2⟩, ?_⟩
      refine ⟨_, rfl, b, rfl, ⟨_, SqL.of (g12.sub _ _ hb1)⟩, fun D2 hD2 => ?_⟩
      have mub : (1 + r).natAbs < 2 ^ 2 := by show (1 + r).natAbs < 4; omega
      refine lc_data (walk_list (K := K) (a := b) (xs := l.map V.int)) dFr (fun j z => ∃ y, l[j]? = some y ∧ z = (y * (1 + r), l.sum * (1 + r))) (S := No) (G0 := G1) (H0 := H2) (G1 := G1) (H1 := H2) (fun _ _ => True) (Grow.refl g12.sub) hD2 (by rw [List.length_map]; omega)
        (fun G' H' s3 gr => SqL.of (gr.sub _ _ (s3 _ _ hb1))) trivial (fun _ _ _ _ _ _ => trivial) ?_ ?_
      · rintro j x G3 _ H3 hj s3 g3 gD2 hD2' _ ⟨rfl, hx3⟩ Post2 hk2
        rw [List.getElem?_map] at hx3
        cases ey : l[j]? with
        | none => rw [ey] at hx3; cases hx3
        | some y =>
          rw [ey] at hx3
          cases hx3
          have my := List.mem_of_getElem? ey
          have y0 := S.nn l mem y my
          have y1 := Bn.le_sum (S.nn l mem) y my
          refine ⟨rfl, ?_⟩
          refine ⟨_, rfl, _, rfl, _, _, rfl, rfl, wide_mul (m2 y y0 (by omega)) mub (by decide) (by decide) (by decide), ?_⟩
          refine ⟨_, rfl, b, l, rfl, SqL.of (g3.sub _ _ (s3 _ _ hb1)), _, rfl, _, _, rfl, rfl, wide_mul (m2 _ (Int.le_of_lt sp) sl) mub (by decide) (by decide) (by decide), sz 2, fun p3 np3 => ?_⟩
          have g4 := (Grow.refl (S := No) g3.sub).lay (c := .tup [.int (y * (1 + r)), .int (l.sum * (1 + r))]) np3
          exact hk2 _ _ _ (y * (1 + r), l.sum * (1 + r)) g4 ((same_updG np3).at hD2') ⟨y, ey, rfl⟩ (da_fr.mpr ⟨p3, rfl, upd_same⟩) trivial
      · intro G3 H3 l3 s3 g3 ll3 hP3 d3 _
        rw [List.length_map] at ll3
        obtain ⟨_, zs, e, h3, hz⟩ := da_lst.mp d3
        cases e
        have g13 := g12.via g3 (fun _ z => z.elim)
        have o3 := g3.new o o1 (by rw [ho2]; simp)
        have ho3 := g3.sm _ _ ho2
        refine ⟨D2, zs, rfl, .inl ⟨SqL.of (g3.sub _ _ h3), fun p4 np4 => ?_⟩⟩
        have g4 := g13.lay (c := .tup zs) np4
        have s4 : Same G3 (upd G3 p4 (.tup zs)) := same_updG (g13.freeG np4)
        have o4 : (upd G3 p4 (.tup zs)) o = none := by rw [upd_ne (ne_of_none ho3 np4)]; exact o3
        have ho4 := same_updG (c := .tup zs) np4 _ _ ho3
        have iv4 : Pu (n + (i + 1)) (upd H3 p4 (.tup zs)) p := (iv2.same g3.sm).same (same_updG np4)
        have d4 : Da (upd G3 p4 (.tup zs)) (dFrT l3) (.ref p4) := da_tup.mpr ⟨p4, zs, rfl, upd_same, DaAll.mono s4 _ _ hz⟩
        have sm1 : Same G1 (upd G3 p4 (.tup zs)) := s3.trans s4
        generalize upd G3 p4 (.tup zs) = G4 at g4 o4 d4 sm1
        generalize upd H3 p4 (.tup zs) = H4 at g4 ho4 iv4 ⊢
        have al := da.mapLen
        refine ⟨o, acc, _, rfl, rfl, ho4, by omega, ?_⟩
        refine ⟨G4, _, t ++ [l3], _, _, rfl, g4.put o4 (.inl no), o4, upd_same, iv4.keep (upd_ne op.symm), ?_, by rw [List.length_append, lt]; rfl, fun j r' hr' => ?_⟩
        · rw [List.map_append]
          exact DaAll.push (DaAll.mono sm1 _ _ da) d4
        · by_cases q1 : j < t.length
          · rw [List.getElem?_append_left q1] at hr'
            exact ht j r' hr'
          · rw [List.getElem?_append_right (by omega)] at hr'
            have ej : j - t.length = 0 := by
              cases z : j - t.length with
              | zero => rfl
              | succ k => rw [z] at hr'; simp at hr'
            rw [ej] at hr'
            have el : l3 = r' := Option.some.inj hr'
            subst el
            rw [show j = i by omega]
            refine ⟨l, e1, ⟨ll3, fun k f hf => ?_⟩, ⟨by omega, fun f hf => ?_, fun f hf => ?_, fun f hf => ?_⟩⟩
            · obtain ⟨y, h1, rfl⟩ := hP3 k f hf
              exact ⟨y, h1, Int.mul_pos sp (by omega), by show y * (1 + r) * l.sum = y * (l.sum * (1 + r)); rw [Int.mul_assoc, Int.mul_comm (1 + r)]⟩
            all_goals
              obtain ⟨k, hk⟩ := List.getElem?_of_mem hf
              obtain ⟨y, h1, rfl⟩ := hP3 k f hk
              have my := List.mem_of_getElem? h1
              have y0 := S.nn l mem y my
              have y1 := Bn.le_sum (S.nn l mem) y my
            · exact Int.mul_pos sp (by omega)
            · exact Int.le_of_lt (lt_of_natAbs (lt_pow (wide_lt (m2 _ (Int.le_of_lt sp) sl) mub) (by decide)))
            · exact lt_pow (wide_lt (m2 y y0 (by omega)) mub) (by decide)
    · rintro σ H1 ⟨G1, acc, t, z3, z4, rfl, g1, o1, ho1, iv, da, lt, ht⟩
      refine ⟨_, rfl, o, acc, rfl, .inl ⟨SqL.of ho1, fun p2 np2 => ?_⟩⟩
      have g2 := g1.lay (c := .tup acc) np2
      have lx : xs.length ≤ 4 := by omega
      exact q _ _ _ t g2 ((iv.same (same_updG np2)).mono (by omega)) (da_tup.mpr ⟨p2, acc, rfl, upd_same, DaAll.mono (same_updG (g1.freeG np2)) _ _ da⟩) ⟨by omega, ht⟩
end
end Bw
set_option Elab.async false
set_option linter.all false
set_option maxRecDepth 100000
set_option maxHeartbeats 8000000
set_option exponentiation.threshold 10000
/-! BwM: blurred sheets; sheets scaled; which tells more, by the law. -/
namespace Bw
open PySem L2
theorem sum_lin {q : Int} : ∀ {l b r : List Int}, l.length = b.length → r.length = l.length → (∀ (j : Nat) (z : Int), r[j]? = some z → ∃ y t, l[j]? = some y ∧ b[j]? = some t ∧ z = y + q * t) → r.sum = l.sum + q * b.sum
  | [], [], [], _, _, _ => by simp
  | y :: l, t :: b, z :: r, h1, h2, h => by
    have ih := sum_lin (q := q) (l := l) (b := b) (r := r) (by simpa using h1) (by simpa using h2) fun j u hu => h (j + 1) u hu
    obtain ⟨y', t', e1, e2, e3⟩ := h 0 z rfl
    cases e1
    cases e2
    rw [List.sum_cons, List.sum_cons, List.sum_cons, ih, e3, Int.mul_add]
    omega
theorem sum_take {l : List Int} {i : Nat} {x : Int} (h : l[i]? = some x) : (l.take (i + 1)).sum = (l.take i).sum + x := by
  rw [List.take_add_one, h, sum_append]
  simp
theorem Grow.pubAll {S : Addr → Prop} {G H G1 H1 : Hp} (a : Grow S G H G1 H1) (T : Addr → Prop) (h0 : ∀ b, T b → H b = none) : ∃ G2, Grow S G H G2 H1 ∧ Same G1 G2 ∧ (∀ b, T b → G2 b = H1 b) := by
  classical
  have s1 : Same G1 (fun b => if T b then H1 b else G1 b) := fun b o e => by
    by_cases q : T b
    · show (if T b then H1 b else G1 b) = _
      rw [if_pos q]
      exact a.sub b o e
    · show (if T b then H1 b else G1 b) = _
      rw [if_neg q]
      exact e
  refine ⟨fun b => if T b then H1 b else G1 b, ⟨a.keep, a.stay, a.data.trans s1, fun b o e => ?_, fun b h1 h2 => ?_⟩, s1, fun b q => if_pos q⟩
  · by_cases q : T b
    · have e' : (if T b then H1 b else G1 b) = some o := e
      rw [if_pos q] at e'
      exact e'
    · have e' : (if T b then H1 b else G1 b) = some o := e
      rw [if_neg q] at e'
      exact a.sub b o e'
  · have q : ¬ T b := fun q => h2 (h0 b q)
    show (if T b then H1 b else G1 b) = none
    rw [if_neg q]
    exact a.new b h1 h2
section
variable {P : Program} {w : World} {K : PySem.W.Frag} {mg : Str → Option Value} {base : Heap} {f : Addr} {fd : FuncData}
-- _law_blurred (statement 45)
abbrev s__law_blurred : Stmt := topS 45
abbrev n__law_blurred : List Str := ["_law_sheet_here", "_law_blur", "_law_scale", "_law_found", "_law_line", "_law_later", "_law_weight", "_law_twin", "_law_one", "_law_two"]
theorem sc__law_blurred : FnScope n__law_blurred ["_law_sheet_here", "_law_blur"] (defScope s__law_blurred) := ⟨rfl, rfl, rfl, by decide +kernel, rfl, by decide +kernel, by decide +kernel⟩
-- slots: 0 _law_sheet_here, 1 _law_blur, 2 _law_scale*, 3 _law_found, 4 _law_line, 5 _law_later, 6 _law_weight*, 7 _law_twin*, 8 _law_one, 9 _law_two
def spBlur : Sp := fun vs H Q _ => ∃ (s b : List (List Int)) (R m : Nat) (M : Int) (G : Hp) (v v2 : V), Same G H ∧ vs = [v, v2] ∧ Da G (dIss s) v ∧ Da G (dIss b) v2 ∧ Bn.Sht R M s ∧ Bn.Sht m 27 b ∧ 0 < R ∧ R ≤ 4 ∧ M ≤ 2 ^ 100 ∧ Bn.wid s = m ∧
  ∀ G' H' v' s', Grow No G H G' H' → Da G' (dIss s') v' → Bn.Sht R (M * 2 ^ 15) s' → Q v' H'
theorem ok__law_blurred (D : DefAt K mg "_law_blurred" s__law_blurred ["_law_sheet_here", "_law_blur"] f fd) (B : Blt mg) (G__law_divisor : Kept P w K mg base 1 "_law_divisor" ["_law_one", "_law_twin"] spDiv) (G__law_small_line : Kept P w K mg base 2 "_law_small_line" ["_law_line"] spSmall) :
    Kept P w K mg base 3 "_law_blurred" ["_law_sheet_here", "_law_blur"] spBlur := by
  refine D.kept (D.F.ok sc__law_blurred (fun vs H Q E h => ?_) (fun cdv A outer s H vs Q E hr h => ?_))
  · obtain ⟨s, b, R, m, M, G, v, v2, _, rfl, _⟩ := h
    rfl
  · obtain ⟨sh, bh, R, m, M, G, v, v2, sG, rfl, hd, hd2, S, T, r0, R4, hM, hm, post⟩ := h
    obtain ⟨a, xs, rfl, ha, hx⟩ := da_lst.mp hd
    obtain ⟨b, ys, rfl, hb, hy⟩ := da_lst.mp hd2
    have lx := hx.mapLen
    have ly := hy.mapLen
    have lR := S.len
    have lm := T.len
    have wS := S.wids r0
    rw [hm] at wS
    obtain ⟨m1, m3, mw⟩ := wS
    have wT := T.wids (by omega)
    obtain ⟨k, hk⟩ : ∃ k, Bn.wid bh = k := ⟨_, rfl⟩
    rw [hk] at wT
    obtain ⟨k1, k3, kw⟩ := wT
    have big : sizeLine = 16777216 := sizeLine_eq
    have m2 : ∀ x : Int, 0 ≤ x → x ≤ M → x.natAbs < 2 ^ 101 := fun x h0 h1 => by
      have h2 := ipow_lt (show 100 < 101 by decide)
      exact natAbs_lt_of h0 (by omega)
    refine ⟨_, (pss_cons (ps_asg (pe_tup (pa_cons pe_int (pa_cons (pe_lst pa_nil) pa_nil))) (pg_tupK (K := K) rfl rfl (pgs_cons (pg_name (i := 2) sc__law_blurred.nd rfl (Or.inr rfl)) (pgs_cons (pg_name (i := 3) sc__law_blurred.nd rfl (Or.inl rfl)) pgs_nil))))
        (pss_cons (ps_for PassesOwn.never rfl (pi_listK (K := K) rfl (pv 1)) (pg_name (i := 4) sc__law_blurred.nd rfl (Or.inl rfl))
        (pss_one (ps_set (i := 2) sc__law_blurred.nd rfl (Or.inr rfl) (pe_op op_mulW (pe_op op_fdivW (pv 2) (pe_kept G__law_divisor (hr.mono (by decide)) (by rfl) (pa_cons (pv 2) (pa_cons (pe_callB (cr_sumK (K := K) rfl rfl) (by rfl) B.sum_ (by decide +kernel) (pa_cons (pv 4) pa_nil)) pa_nil)))) (pe_callB (cr_sumK (K := K) rfl rfl) (by rfl) B.sum_ (by decide +kernel) (pa_cons (pv 4) pa_nil))))))
        (pss_cons (ps_for PassesOwn.never rfl (pi_listK (K := K) rfl (pv 0)) (pg_name (i := 4) sc__law_blurred.nd rfl (Or.inl rfl))
        (pss_cons (ps_set (i := 5) sc__law_blurred.nd rfl (Or.inl rfl) (pe_op op_rep (pe_lst (pa_cons pe_int pa_nil)) (pe_callB (call_lenK (K := K) rfl) (by rfl) B.len_ (by decide +kernel) (pa_cons (pe_ix (ix_listK (K := K) rfl) (pv 1) pe_int (fun _ _ => rfl)) pa_nil))))
          (pss_cons (ps_for PassesOwn.never rfl (RZ.pi_zipA (by rfl) B.zip_ (pa_cons (pv 4) (pa_cons (pv 1) pa_nil))) (pg_tupK (K := K) rfl rfl (pgs_cons (pg_name (i := 6) sc__law_blurred.nd rfl (Or.inr rfl)) (pgs_cons (pg_name (i := 7) sc__law_blurred.nd rfl (Or.inr rfl)) pgs_nil)))
          (pss_one (ps_setLc (i := 5) (own := [("_law_one", 8), ("_law_two", 9)]) (g := gTup K 2 (gCons (gName 8) (gCons (gName 9) gNil))) (tt := tYes) rfl sc__law_blurred.nd rfl rfl (sw_true rfl rfl rfl (by decide +kernel)) (RZ.pi_zipA (by rfl) B.zip_ (pa_cons (pv 5) (pa_cons (pv 7) pa_nil))) (blkOk_by (own := [("_law_one", 8), ("_law_two", 9)]) (N := n__law_blurred) (sc := defScope s__law_blurred) (by decide +kernel)) (fun _ _ _ _ _ => (pg_tupK (K := K) rfl rfl (pgs_cons (pg_name (i := 8) sc__law_blurred.nd rfl (Or.inl rfl)) (pgs_cons (pg_name (i := 9) sc__law_blurred.nd rfl (Or.inl rfl)) pgs_nil)))) (fun _ _ _ _ _ => pts_nil) (fun _ _ _ _ _ => (pe_op op_add (pv 8) (pe_op op_mulW (pe_op op_mulW (pv 6) (pv 9)) (pe_op op_fdivW (pv 2) (pe_callB (cr_sumK (K := K) rfl rfl) (by rfl) B.sum_ (by decide +kernel) (pa_cons (pv 7) pa_nil)))))))))
          (pss_one (ps_expr (pe_bm PySem.F.plainAttrs_list PySem.F.slot_list_append PySem.F.type_list_append mt_append (pv 3) (pa_cons (pe_kept G__law_small_line (hr.mono (by decide)) (by rfl) (pa_cons (pv 5) pa_nil)) pa_nil)))))))
        (pss_one (ps_ret (pv 3)))))), ?_⟩
    -- scale, found = (1, [])
    refine ⟨Nat.zero_le _, fun o no => ?_⟩
    generalize eH0 : upd _ o _ = H0
    obtain ⟨s0, ho0⟩ := new2 no eH0
    refine ⟨sz 2, fun t0 nt0 => ?_⟩
    generalize eH1 : upd _ t0 _ = H1
    obtain ⟨s1, ht0⟩ := new2 nt0 eH1
    have g1 : Grow No G H G H1 := ((Grow.refl sG).more s0).more s1
    have ho1 := s1 _ _ ho0
    have oG : G o = none := sG.free no
    refine ⟨t0, _, rfl, SqT.of ht0, rfl, _, _, rfl, _, _, rfl, rfl, ?_⟩
    -- the scale
    refine ⟨_, rfl, b, rfl, ⟨_, SqL.of (g1.sub _ _ hb)⟩, for_list (K := K) (a := b) (xs := ys) (fun i σ H' => ∃ (sc : Int) (z4 : Option V), σ = [some (.ref a), some (.ref b), some (.int sc), some (.ref o), z4, none, none, none, none, none] ∧ H' = H1 ∧
        0 < sc ∧ sc ≤ 27 ^ i ∧ ∀ (j : Nat) (l : List Int), j < i → bh[j]? = some l → l.sum ∣ sc)
      ⟨1, none, rfl, rfl, by decide, by rw [Int.pow_zero]; exact Int.le_refl 1, fun j l h => absurd h (Nat.not_lt_zero _)⟩ (fun i σ H' _ ⟨sc, z, _, e, _⟩ => by rw [e]; exact SqL.of (g1.sub _ _ hb)) ?_ ?_⟩
    · rintro i x σ H' hx1 ⟨sc, z4, rfl, rfl, c0, c27, cd⟩
      obtain ⟨l, e1, e2⟩ := hy.mapGet hx1
      have mem := List.mem_of_getElem? e1
      obtain ⟨u, rfl, hu⟩ := da_is.mp e2
      have sp := T.pos l mem
      have sl := T.le l mem
      have hi : i < m := by
        have := (List.getElem?_eq_some_iff.mp e1).1
        omega
      have hU : SqL K H' u (l.map V.int) := SqL.of (g1.sub _ _ hu)
      have g0 := Bn.gcd_pos_r (a := sc) sp
      have gb : ((Int.gcd sc l.sum : Nat) : Int).natAbs < 2 ^ 100 := by
        have := Int.gcd_le_natAbs_right (b := l.sum) sc (by omega)
        have : 27 < 2 ^ 100 := by decide +kernel
        omega
      have p27 : (27 : Int) ^ i ≤ 27 ^ 3 := by
        have h1 : i = 0 ∨ i = 1 ∨ i = 2 := by omega
        rcases h1 with rfl | rfl | rfl <;> decide +kernel
      have cb : sc.natAbs < 2 ^ 100 := by
        have : (27 : Int) ^ 3 < 2 ^ 100 := by decide +kernel
        exact natAbs_lt_of (Int.le_of_lt c0) (by omega)
      have sb : l.sum.natAbs < 2 ^ 100 := by
        have : (27 : Int) < 2 ^ 100 := by decide +kernel
        exact natAbs_lt_of (Int.le_of_lt sp) (by omega)
      refine ⟨_, rfl, _, rfl, _, rfl, u, l, rfl, hU, sc, l.sum, rfl, Int.le_of_lt c0, Int.le_of_lt sp, _, _, rfl, rfl, wide_div g0 gb (by decide) (by decide), _, rfl, u, l, rfl, hU, _, _, rfl, rfl, ?_, ?_⟩
      · exact wide_mul (Nat.lt_of_le_of_lt (Int.natAbs_ediv_le_natAbs _ _) cb) sb (by decide) (by decide) (by decide)
      · refine ⟨Bn.lcmI sc l.sum, _, rfl, rfl, Bn.lcmI_pos c0 sp, ?_, fun j l' hj e' => ?_⟩
        · have h1 := Bn.lcmI_le c0 sp
          rw [Int.pow_succ]
          exact Int.le_trans h1 (Int.mul_le_mul c27 sl (Int.le_of_lt sp) (Int.le_of_lt (Int.pow_pos (by decide))))
        · by_cases q : j = i
          · subst q
            rw [e1] at e'
            cases e'
            exact Bn.lcmI_r _ _
          · exact Int.dvd_trans (cd j l' (by omega) e') (Bn.lcmI_l _ _)
    · rintro σ H1' ⟨sc, z4, rfl, rfl, c0, c27, cd⟩
      have c15 : sc ≤ 2 ^ 15 := by
        have p27 : (27 : Int) ^ ys.length ≤ 27 ^ 3 := by
          have h1 : ys.length = 0 ∨ ys.length = 1 ∨ ys.length = 2 ∨ ys.length = 3 := by omega
          rcases h1 with h | h | h | h <;> rw [h] <;> decide +kernel
        have : (27 : Int) ^ 3 ≤ 2 ^ 15 := by decide +kernel
        omega
      have cd' : ∀ (j : Nat) (l : List Int), bh[j]? = some l → l.sum ∣ sc := fun j l e => cd j l (by have := (List.getElem?_eq_some_iff.mp e).1; omega) e
      have scb : sc.natAbs < 2 ^ 20 := by
        have : (2 : Int) ^ 15 < 2 ^ 20 := by decide +kernel
        exact natAbs_lt_of (Int.le_of_lt c0) (by omega)
      obtain ⟨y0, ey0⟩ : ∃ y0, ys[0]? = some y0 := ⟨ys[0]'(by omega), List.getElem?_eq_getElem _⟩
      obtain ⟨b0, eb0, db0⟩ := hy.mapGet ey0
      obtain ⟨u0, rfl, hu0⟩ := da_is.mp db0
      have lb0 := kw b0 (List.mem_of_getElem? eb0)
      -- the lines
      refine ⟨_, rfl, a, rfl, ⟨_, SqL.of (g1.sub _ _ ha)⟩, for_list (K := K) (a := a) (xs := xs) (fun i σ H' => ∃ (G' : Hp) (acc : List V) (t : List (List Int)) (z4 z5 z6 z7 z8 z9 : Option V), σ = [some (.ref a), some (.ref b), some (.int sc), some (.ref o), z4, z5, z6, z7, z8, z9] ∧ Grow No G H G' H' ∧
          G' o = none ∧ H' o = some (.lst acc) ∧ DaAll G' (t.map dIs) acc ∧ t.length = i ∧ ∀ l ∈ t, l.length = k ∧ (∀ x ∈ l, 0 ≤ x) ∧ 0 < l.sum ∧ l.sum ≤ M * 2 ^ 15)
        ⟨G, [], [], _, _, _, _, _, _, rfl, g1, oG, ho1, daAll_nil.mpr rfl, rfl, fun l h => by cases h⟩ (fun i σ H' _ ⟨_, _, _, _, _, _, _, _, _, _, g', _⟩ => SqL.of (g'.sub _ _ (g'.data _ _ ha))) ?_ ?_⟩
      · rintro i x σ H2 hx2 ⟨G2, acc, t, z4, z5, z6, z7, z8, z9, rfl, g2, o2, ho2, hacc, lt, ht⟩
        obtain ⟨l, e1, e2⟩ := hx.mapGet hx2
        have mem := List.mem_of_getElem? e1
        obtain ⟨u, rfl, hu⟩ := da_is.mp e2
        have ll := mw l mem
        have sp := S.pos l mem
        have sl := S.le l mem
        have snn := S.nn l mem
        have hi : i < R := by
          have := (List.getElem?_eq_some_iff.mp e1).1
          omega
        -- later = [0] * len(blur[0])
        refine ⟨sz 1, fun p1 n1 => ?_⟩
        have sX : Same H2 (upd H2 p1 (.lst [.int 0])) := same_updG n1
        refine ⟨_, rfl, b, ys, 0, _, rfl, rfl, SqL.of (sX _ _ (g2.sub _ _ (g2.data _ _ hb))), atI_nat (j := 0) ey0, u0, _, rfl, .inl (SqL.of (sX _ _ (g2.sub _ _ (g2.data _ _ hu0)))), rep_of (n := k) n1 (by rw [List.length_map]; omega) (by omega) fun al H3 s3 nal hal => ?_⟩
        have g3 := g2.more s3
        have ho3 := s3 _ _ ho2
        have e0 : List.replicate k (V.int 0) = (List.replicate k (0 : Int)).map V.int := List.map_replicate.symm
        rw [e0] at hal
        obtain ⟨G4, g4, s4, hal4, new4⟩ := g3.pubX hal (g2.free nal) (g2.freeG nal)
        have o4 : G4 o = none := by rw [new4 o (ne_of_none ho2 nal)]; exact o2
        -- for weight, twin in zip(line, blur)
        refine ⟨_, rfl, _, rfl, u, b, l.map V.int, ys, rfl, .inl ⟨SqL.of (g4.sub _ _ (g4.data _ _ hu)), SqL.of (g4.sub _ _ (g4.data _ _ hb)), ?_⟩⟩
        refine RZ.for_zipL (by rw [List.length_map]; omega) (fun j σ H' => ∃ (G' : Hp) (lat : List Int) (al : Addr) (z6 z7 z8 z9 : Option V), σ = [some (.ref a), some (.ref b), some (.int sc), some (.ref o), some (.ref u), some (.ref al), z6, z7, z8, z9] ∧ Grow No G H G' H' ∧ Same G2 G' ∧
            G' o = none ∧ H' o = some (.lst acc) ∧ Da G' (dIs lat) (.ref al) ∧ lat.length = k ∧ (∀ x ∈ lat, 0 ≤ x) ∧ lat.sum = (l.take j).sum * sc)
          ⟨G4, List.replicate k 0, al, _, _, _, _, rfl, g4, s4, o4, ho3, da_is.mpr ⟨al, rfl, hal4⟩, List.length_replicate, fun x hx => by rw [List.eq_of_mem_replicate hx]; exact Int.le_refl 0, ?_⟩ (fun j σ H' ⟨G', _, _, _, _, _, _, _, g', _⟩ => ⟨SqL.of (g'.sub _ _ (g'.data _ _ hu)), SqL.of (g'.sub _ _ (g'.data _ _ hb))⟩) ?_ ?_
        · have := sum_top (l := List.replicate k (0 : Int)) (b := 0) fun x hx => by rw [List.eq_of_mem_replicate hx]; exact Int.le_refl 0
          have h2 := sum_nn (l := List.replicate k (0 : Int)) fun x hx => by rw [List.eq_of_mem_replicate hx]; exact Int.le_refl 0
          rw [List.take_zero]
          show _ = 0 * sc
          omega
        · rintro j x1 x2 tt σ H5 hx1 hx2' ⟨G5, lat, al5, z6, z7, z8, z9, rfl, g5, s5, o5, ho5, dl5, ll5, nn5, sm5⟩ ntt
          rw [List.getElem?_map] at hx1
          cases ew : l[j]? with
          | none => rw [ew] at hx1; cases hx1
          | some wt =>
            rw [ew] at hx1
            cases hx1
            have mw' := List.mem_of_getElem? ew
            have w0 := snn wt mw'
            have w1 := Bn.le_sum snn wt mw'
            obtain ⟨tw, e3, e4⟩ := hy.mapGet hx2'
            have memt := List.mem_of_getElem? e3
            obtain ⟨ut, rfl, hut⟩ := da_is.mp e4
            have lt' := kw tw memt
            have tp := T.pos tw memt
            have tl := T.le tw memt
            have tnn := T.nn tw memt
            have dv := cd' j tw e3
            have dvm := Int.ediv_mul_cancel dv
            generalize eH6 : upd _ tt _ = H6
            obtain ⟨s6, htt⟩ := new2 ntt eH6
            have g6 := g5.more s6
            have ho6 := s6 _ _ ho5
            refine ⟨tt, _, rfl, SqT.of htt, rfl, _, _, rfl, _, _, rfl, rfl, ?_⟩
            obtain ⟨_, eal, hal5⟩ := da_is.mp dl5
            cases eal
            refine ⟨_, rfl, _, rfl, al5, ut, _, _, rfl, .inl ⟨SqL.of (g6.sub _ _ hal5), SqL.of (g6.sub _ _ (g6.data _ _ hut)), fun D hD => ?_⟩⟩
            have sb : tw.sum.natAbs < 2 ^ 100 := by
              have : (27 : Int) < 2 ^ 100 := by decide +kernel
              exact natAbs_lt_of (Int.le_of_lt tp) (by omega)
            refine lc_data (walk_zip (K := K) (a := al5) (b := ut) (xs := lat.map V.int) (ys := tw.map V.int) (n := k) (by rw [List.length_map, List.length_map]; omega)) PyData.int
              (fun j z => ∃ y t, lat[j]? = some y ∧ tw[j]? = some t ∧ z = y + wt * (sc / tw.sum) * t) (S := No) (G0 := G5) (H0 := H6) (G1 := G5) (H1 := H6) (fun _ _ => True) (Grow.refl g6.sub) hD (by omega)
              (fun G' H' s7 gr => ⟨SqL.of (gr.sub _ _ (s7 _ _ hal5)), SqL.of (gr.sub _ _ (gr.data _ _ (g5.data _ _ hut)))⟩) trivial (fun _ _ _ _ _ _ => trivial) ?_ ?_
            · rintro c x G7 H7 _ hc s7 g7 gD hD' _ ⟨tt2, v1, v2, rfl, nt2, rfl, ey, et⟩ Post hk2
              replace ey : (lat.map V.int)[c]? = some v1 := ey
              replace et : (tw.map V.int)[c]? = some v2 := et
              rw [List.getElem?_map] at ey et
              cases eyl : lat[c]? with
              | none => rw [eyl] at ey; cases ey
              | some y =>
                rw [eyl] at ey
                cases ey
                cases etl : tw[c]? with
                | none => rw [etl] at et; cases et
                | some tv =>
                  rw [etl] at et
                  cases et
                  have tm := List.mem_of_getElem? etl
                  have t0 := tnn tv tm
                  have t1 := Bn.le_sum tnn tv tm
                  have g8 : Grow No G7 H7 G7 (upd H7 tt2 (.tup [.int y, .int tv])) := (Grow.refl g7.sub).loc nt2
                  have hD8 : (upd H7 tt2 (.tup [.int y, .int tv])) D = H7 D := upd_ne fun e => hD' (by rw [e]; exact nt2)
                  refine ⟨tt2, _, rfl, SqT.of upd_same, rfl, _, _, rfl, _, _, rfl, rfl, rfl, ?_⟩
                  generalize upd H7 tt2 (.tup [.int y, .int tv]) = H8 at g8 hD8 ⊢
                  have tb : tv.natAbs < 2 ^ 20 := by
                    have : (27 : Int) < 2 ^ 20 := by decide +kernel
                    exact natAbs_lt_of t0 (by omega)
                  have wb := m2 wt w0 (by omega)
                  have q1 : (sc / tw.sum).natAbs < 2 ^ 20 := Nat.lt_of_le_of_lt (Int.natAbs_ediv_le_natAbs _ _) scb
                  refine ⟨_, rfl, _, rfl, _, rfl, _, _, rfl, rfl, wide_mul wb tb (by decide) (by decide) (by decide), _, rfl, _, rfl, ut, tw, rfl, SqL.of (g8.sub _ _ (g7.data _ _ (g5.data _ _ hut))), _, _, rfl, rfl, wide_div tp sb (by decide) (by decide), _, _, rfl, rfl, wide_mul (wide_lt wb tb) q1 (by decide) (by decide) (by decide), _, _, rfl, rfl, ?_⟩
                  refine hk2 _ H8 G7 _ g8 hD8 ⟨y, tv, eyl, etl, ?_⟩ (da_int.mpr rfl) trivial
                  rw [Int.mul_assoc wt, Int.mul_comm tv, ← Int.mul_assoc]
            · intro G7 H7 l7 s7 g7 ll7 hP7 d7 _
              refine ⟨G7, l7, D, _, _, _, _, rfl, g6.trans g7, s5.trans s7, g7.new o o5 (by rw [ho6]; simp), g7.sm _ _ ho6, d7, by omega, ?_, ?_⟩
              · refine mem_get fun c z ez => ?_
                obtain ⟨y, tv, ey, et, rfl⟩ := hP7 c z ez
                have := nn5 y (List.mem_of_getElem? ey)
                have := Int.mul_nonneg (Int.mul_nonneg w0 (Int.ediv_nonneg (Int.le_of_lt c0) (Int.le_of_lt tp))) (tnn tv (List.mem_of_getElem? et))
                omega
              · rw [sum_lin (by omega) (by omega) hP7, sm5, sum_take ew, Int.add_mul, Int.mul_assoc wt, dvm]
        · rintro σ H5 ⟨G5, lat, al5, z6, z7, z8, z9, rfl, g5, s5, o5, ho5, dl5, ll5, nn5, sm5⟩
          rw [List.length_map, List.take_of_length_le (Nat.le_refl _)] at sm5
          have pos5 : 0 < lat.sum := by rw [sm5]; exact Int.mul_pos sp c0
          have top5 : lat.sum ≤ M * 2 ^ 15 := by
            rw [sm5]
            exact Int.mul_le_mul sl c15 (Int.le_of_lt c0) (by omega)
          have lt5 : lat.sum < 2 ^ 1000 := by
            rw [sm5]
            exact lt_of_natAbs (lt_pow (wide_lt (m2 _ (Int.le_of_lt sp) sl) scb) (by decide))
          refine ⟨_, rfl, .inl ⟨rfl, _, SqL.of ho5⟩, _, rfl, lat, G5, _, g5.sub, rfl, dl5, by omega, nn5, pos5, lt5, fun G6 H6 v6 l6 g6 d6 h1 h2 h3 h4 => ?_⟩
          have ho6 := g6.sm _ _ ho5
          have o6 := g6.new o o5 (by rw [ho5]; simp)
          have al := hacc.mapLen
          refine ⟨o, acc, _, rfl, rfl, ho6, by omega, ?_⟩
          refine ⟨G6, _, t ++ [l6], _, _, _, _, _, _, rfl, (g5.trans g6).put o6 (.inl no), o6, upd_same, ?_, by rw [List.length_append, lt]; rfl, fun l' hl' => ?_⟩
          · rw [List.map_append]
            exact DaAll.push (DaAll.mono (s5.trans g6.data) _ _ hacc) d6
          · rcases List.mem_append.mp hl' with q | q
            · exact ht l' q
            · rw [List.mem_singleton.mp q]
              exact ⟨by omega, h2, h3, by omega⟩
      · rintro σ H2 ⟨G2, acc, t, z4, z5, z6, z7, z8, z9, rfl, g2, o2, ho2, hacc, lt, ht⟩
        obtain ⟨G3, g3, s3, ho3, _⟩ := g2.pubX ho2 no o2
        exact ⟨_, rfl, post G3 H2 _ t g3 (da_lst.mpr ⟨o, acc, rfl, ho3, DaAll.mono s3 _ _ hacc⟩) ⟨by omega, ⟨k, k1, k3, fun l hl => (ht l hl).1⟩, fun l hl => (ht l hl).2.1, fun l hl => (ht l hl).2.2.1, fun l hl => (ht l hl).2.2.2⟩⟩
end
end Bw
set_option Elab.async false
set_option linter.all false
set_option maxRecDepth 100000
set_option maxHeartbeats 8000000
set_option exponentiation.threshold 10000
/-! BwN: which of two sheets tells more, as the law says it. -/
namespace Bw
open PySem L2
theorem okT_low {s : List (List Int)} {R : Nat} {M : Int} (S : Bn.Sht R M s) (hM : M ≤ 2 ^ 100) : OkT (Bn.lowT s) s := by
  refine ⟨by unfold Bn.lowT; rw [List.length_map], fun i r hr => ?_⟩
  unfold Bn.lowT at hr
  rw [List.getElem?_map] at hr
  cases e : s[i]? with
  | none => rw [e] at hr; cases hr
  | some l =>
    rw [e] at hr
    cases hr
    have mem := List.mem_of_getElem? e
    have sp := S.pos l mem
    have sl := S.le l mem
    obtain ⟨c, c1, c3, cw⟩ := S.wid
    have ll := cw l mem
    have b1 : ∀ x : Int, 0 ≤ x → x ≤ M → x.natAbs < 2 ^ 101 := fun x h0 h1 => by
      have h2 := ipow_lt (show 100 < 101 by decide)
      exact natAbs_lt_of h0 (by omega)
    have f : ∀ g ∈ Bn.lowR l, ∃ y ∈ l, g = Bn.low y l.sum := fun g hg => by
      obtain ⟨y, hy, rfl⟩ := List.mem_map.mp hg
      exact ⟨y, hy, rfl⟩
    refine ⟨l, rfl, Bn.lowR_shown sp, ⟨by unfold Bn.lowR; rw [List.length_map]; omega, fun g hg => ?_, fun g hg => ?_, fun g hg => ?_⟩⟩
    all_goals obtain ⟨y, hy, rfl⟩ := f g hg
    · exact Bn.low_pos sp
    · exact Int.le_of_lt (lt_of_natAbs (lt_pow (Nat.lt_of_le_of_lt Bn.low_abs2 (b1 _ (Int.le_of_lt sp) sl)) (by decide)))
    · have y1 := Bn.le_sum (S.nn l mem) y hy
      exact lt_pow (Nat.lt_of_le_of_lt Bn.low_abs1 (b1 _ (S.nn l mem y hy) (by omega))) (by decide)
/-- the pairs of the scaled columns -/
abbrev scP (s t : List (List Int)) (c : Nat) : Fr2 := (Bn.ent s 0 c * Bn.tot t 0, Bn.ent s 1 c * Bn.tot t 1)
theorem max_if (x y : Int) : (if y > x then y else x) = max x y := by
  rw [Int.max_def]
  split <;> split <;> omega
theorem sheet_row {G : Hp} {s : List (List Int)} {R : Nat} {M : Int} {xs : List V} (hx : DaAll G (s.map dIs) xs) (S : Bn.Sht R M s) {r : Nat} (hr : r < R) : ∃ c, xs[r]? = some (.ref c) ∧ G c = some (.lst ((s.getD r []).map V.int)) := by
  obtain ⟨l, e1, e2, _⟩ := S.row hr
  obtain ⟨x, h1, h2⟩ := hx.mapAt e1
  obtain ⟨c, rfl, hc⟩ := da_is.mp h2
  exact ⟨c, h1, by rw [e2]; exact hc⟩
theorem ent_b {s : List (List Int)} {R : Nat} {M : Int} (S : Bn.Sht R M s) {r : Nat} (hr : r < R) (c : Nat) : 0 ≤ Bn.ent s r c ∧ Bn.ent s r c ≤ M ∧ 0 ≤ Bn.tot s r ∧ Bn.tot s r ≤ M := by
  obtain ⟨l, _, e, hl⟩ := S.row hr
  have p := S.pos l hl
  have q := S.le l hl
  refine ⟨Bn.ent_nn S hr, ?_, ?_, ?_⟩
  · unfold Bn.ent
    rw [e, List.getD_eq_getElem?_getD]
    cases z : l[c]? with
    | none => show (0 : Int) ≤ M; omega
    | some x => exact Int.le_trans (Bn.le_sum (S.nn l hl) x (List.mem_of_getElem? z)) q
  · unfold Bn.tot
    rw [e]
    omega
  · unfold Bn.tot
    rw [e]
    exact q
theorem scP_b {s t : List (List Int)} {M : Int} (S : Bn.Sht 2 M s) (T : Bn.Sht 2 M t) (hM : M ≤ 2 ^ 100) (c : Nat) : 0 ≤ (scP s t c).1 ∧ 0 ≤ (scP s t c).2 ∧ (scP s t c).1.natAbs < 2 ^ 202 ∧ (scP s t c).2.natAbs < 2 ^ 202 := by
  have m2 : ∀ x : Int, 0 ≤ x → x ≤ M → x.natAbs < 2 ^ 101 := fun x h0 h1 => by
    have h2 := ipow_lt (show 100 < 101 by decide)
    exact natAbs_lt_of h0 (by omega)
  obtain ⟨a0, a1, _, _⟩ := ent_b S (show 0 < 2 by decide) c
  obtain ⟨b0, b1, _, _⟩ := ent_b S (show 1 < 2 by decide) c
  obtain ⟨_, _, c0, c1⟩ := ent_b T (show 0 < 2 by decide) c
  obtain ⟨_, _, d0, d1⟩ := ent_b T (show 1 < 2 by decide) c
  exact ⟨Int.mul_nonneg a0 c0, Int.mul_nonneg b0 d0, wide_lt (m2 _ a0 a1) (m2 _ c0 c1), wide_lt (m2 _ b0 b1) (m2 _ d0 d1)⟩
section
variable {P : Program} {w : World} {K : PySem.W.Frag} {mg : Str → Option Value} {base : Heap} {f : Addr} {fd : FuncData}
-- _law_scaled (statement 46)
abbrev s__law_scaled : Stmt := topS 46
abbrev n__law_scaled : List Str := ["_law_sheet_here", "_law_twin", "_law_weight"]
theorem sc__law_scaled : FnScope n__law_scaled ["_law_sheet_here", "_law_twin"] (defScope s__law_scaled) := ⟨rfl, rfl, rfl, by decide +kernel, rfl, by decide +kernel, by decide +kernel⟩
-- slots: 0 _law_sheet_here, 1 _law_twin*, 2 _law_weight
def spScaled : Sp := fun vs H Q _ => ∃ (s t : List (List Int)) (M : Int) (G : Hp) (v v2 : V), Same G H ∧ vs = [v, v2] ∧ Da G (dIss s) v ∧ Da G (dIss t) v2 ∧ Bn.Sht 2 M s ∧ Bn.Sht 2 M t ∧ M ≤ 2 ^ 100 ∧
  ∀ G' H' v', Grow No G H G' H' → Da G' (dFrL (tab (Bn.wid s) (scP s t))) v' → Q v' H'
theorem ok__law_scaled (D : DefAt K mg "_law_scaled" s__law_scaled ["_law_sheet_here", "_law_twin"] f fd) (B : Blt mg) : Kept P w K mg base 1 "_law_scaled" ["_law_sheet_here", "_law_twin"] spScaled := by
  refine D.kept (D.F.ok sc__law_scaled (fun vs H Q E h => ?_) (fun cdv A outer s H vs Q E hr h => ?_))
  · obtain ⟨s, t, M, G, v, v2, _, rfl, _⟩ := h
    rfl
  · obtain ⟨sh, th, M, G, v, v2, sG, rfl, hd, hd2, S, T, hM, q⟩ := h
    obtain ⟨a, xs, rfl, ha, hx⟩ := da_lst.mp hd
    obtain ⟨b, ys, rfl, hb, hy⟩ := da_lst.mp hd2
    have big : sizeLine = 16777216 := sizeLine_eq
    obtain ⟨m, hm⟩ : ∃ m, Bn.wid sh = m := ⟨_, rfl⟩
    have wS := S.wids (by decide)
    rw [hm] at wS q
    obtain ⟨m1, m3, mw⟩ := wS
    have N2 := T.nws (by decide)
    have m2 : ∀ x : Int, 0 ≤ x → x ≤ M → x.natAbs < 2 ^ 101 := fun x h0 h1 => by
      have h2 := ipow_lt (show 100 < 101 by decide)
      exact natAbs_lt_of h0 (by omega)
    have rows : ∀ r, r < 2 → ∃ c d, xs[r]? = some (.ref c) ∧ G c = some (.lst ((sh.getD r []).map V.int)) ∧ (sh.getD r []).length = m ∧ ys[r]? = some (.ref d) ∧ G d = some (.lst ((th.getD r []).map V.int)) ∧ 0 ≤ (th.getD r []).sum ∧ (th.getD r []).sum ≤ M ∧
        ∀ j, j < m → (sh.getD r [])[j]? = some (Bn.ent sh r j) ∧ 0 ≤ Bn.ent sh r j ∧ Bn.ent sh r j ≤ M := fun r hr => by
      obtain ⟨c, h1, h2⟩ := sheet_row hx S hr
      obtain ⟨d, h3, h4⟩ := sheet_row hy T hr
      obtain ⟨l, _, e2, hl⟩ := S.row hr
      obtain ⟨l2, _, e4, hl2⟩ := T.row hr
      refine ⟨c, d, h1, h2, by rw [e2]; exact mw l hl, h3, h4, by rw [e4]; exact Int.le_of_lt (T.pos l2 hl2), by rw [e4]; exact T.le l2 hl2, fun j hj => ?_⟩
      have lj : j < l.length := by rw [mw l hl]; exact hj
      have ej : (sh.getD r [])[j]? = some (Bn.ent sh r j) := by
        unfold Bn.ent
        rw [e2, List.getD_eq_getElem?_getD, List.getElem?_eq_getElem lj]
        rfl
      have my : Bn.ent sh r j ∈ l := by rw [e2] at ej; exact List.mem_of_getElem? ej
      exact ⟨ej, S.nn l hl _ my, Int.le_trans (Bn.le_sum (S.nn l hl) _ my) (S.le l hl)⟩
    obtain ⟨c0, d0, ec0, hc0, lc0, ed0, hd0, t00, t01, at0⟩ := rows 0 (by decide)
    obtain ⟨c1, d1, ec1, hc1, lc1, ed1, hd1, t10, t11, at1⟩ := rows 1 (by decide)
    refine ⟨_, (pss_one (ps_ret (Zl.pe_listZip (K := K) rfl rfl (by rfl) B.list_ (by rfl) B.zip_ (pa_cons (pe_lc (own := [("_law_weight", 2)]) (g := gName 2) (tt := tYes) rfl sc__law_scaled.nd (pi_listK (K := K) rfl (pe_ix (ix_listK (K := K) rfl) (pv 0) pe_int (fun _ _ => rfl))) (blkOk_by (own := [("_law_weight", 2)]) (N := n__law_scaled) (sc := defScope s__law_scaled) (by decide +kernel)) (fun _ _ _ _ _ => (pg_name (i := 2) sc__law_scaled.nd rfl (Or.inl rfl))) (fun _ _ _ _ _ => pts_nil) (fun _ _ _ _ _ => (pe_op op_mulW (pv 2) (pe_callB (cr_sumK (K := K) rfl rfl) (by rfl) B.sum_ (by decide +kernel) (pa_cons (pe_ix (ix_listK (K := K) rfl) (pv 1) pe_int (fun _ _ => rfl)) pa_nil))))) (pa_cons (pe_lc (own := [("_law_weight", 2)]) (g := gName 2) (tt := tYes) rfl sc__law_scaled.nd (pi_listK (K := K) rfl (pe_ix (ix_listK (K := K) rfl) (pv 0) pe_int (fun _ _ => rfl))) (blkOk_by (own := [("_law_weight", 2)]) (N := n__law_scaled) (sc := defScope s__law_scaled) (by decide +kernel)) (fun _ _ _ _ _ => (pg_name (i := 2) sc__law_scaled.nd rfl (Or.inl rfl))) (fun _ _ _ _ _ => pts_nil) (fun _ _ _ _ _ => (pe_op op_mulW (pv 2) (pe_callB (cr_sumK (K := K) rfl rfl) (by rfl) B.sum_ (by decide +kernel) (pa_cons (pe_ix (ix_listK (K := K) rfl) (pv 1) pe_int (fun _ _ => rfl)) pa_nil))))) pa_nil))))), ?_⟩
    -- the first column
    refine ⟨_, rfl, a, xs, 0, .ref c0, rfl, rfl, SqL.of (sG _ _ ha), atI_nat (j := 0) ec0, c0, rfl, ⟨_, SqL.of (sG _ _ hc0)⟩, fun D1 nD1 => ?_⟩
    refine lc_data (walk_list (K := K) (a := c0) (xs := (sh.getD 0 []).map V.int)) PyData.int (fun j z => z = Bn.ent sh 0 j * Bn.tot th 0) (S := No) (G0 := G) (H0 := H) (G1 := G) (H1 := H) (fun _ _ => True) (Grow.refl sG) nD1 (by rw [List.length_map]; omega)
      (fun G' H' s3 gr => SqL.of (gr.sub _ _ (s3 _ _ hc0))) trivial (fun _ _ _ _ _ _ => trivial) ?_ ?_
    · rintro j x G3 _ H3 hj s3 g3 gD2 hD2' _ ⟨rfl, hx3⟩ Post2 hk2
      rw [List.length_map, lc0] at hj
      obtain ⟨e1, e2, e3⟩ := at0 j hj
      rw [List.getElem?_map, e1] at hx3
      cases hx3
      refine ⟨rfl, ?_⟩
      refine ⟨_, rfl, _, rfl, b, ys, 0, .ref d0, rfl, rfl, SqL.of (g3.sub _ _ (s3 _ _ hb)), atI_nat (j := 0) ed0, d0, _, rfl, SqL.of (g3.sub _ _ (s3 _ _ hd0)), _, _, rfl, rfl, wide_mul (m2 _ e2 e3) (m2 _ t00 t01) (by decide) (by decide) (by decide), ?_⟩
      exact hk2 _ H3 G3 _ (Grow.refl g3.sub) rfl rfl (da_int.mpr rfl) trivial
    intro G1 H1 l1 s1 g1 ll1 hP1 da1 _
    rw [List.length_map, lc0] at ll1
    have e1 : l1 = tab m fun j => Bn.ent sh 0 j * Bn.tot th 0 := list_of ll1 hP1
    rw [e1] at da1
    obtain ⟨_, eD1, hD1⟩ := da_tabI da1
    cases eD1
    -- the second column
    refine ⟨_, rfl, a, xs, 1, .ref c1, rfl, rfl, SqL.of (g1.sub _ _ (s1 _ _ ha)), atI_nat (j := 1) ec1, c1, rfl, ⟨_, SqL.of (g1.sub _ _ (s1 _ _ hc1))⟩, fun D2 nD2 => ?_⟩
    refine lc_data (walk_list (K := K) (a := c1) (xs := (sh.getD 1 []).map V.int)) PyData.int (fun j z => z = Bn.ent sh 1 j * Bn.tot th 1) (S := No) (G0 := G) (H0 := H) (G1 := G1) (H1 := H1) (fun _ _ => True) g1 nD2 (by rw [List.length_map]; omega)
      (fun G' H' s3 gr => SqL.of (gr.sub _ _ (gr.data _ _ hc1))) trivial (fun _ _ _ _ _ _ => trivial) ?_ ?_
    · rintro j x G3 _ H3 hj s3 g3 gD2 hD2' _ ⟨rfl, hx3⟩ Post2 hk2
      rw [List.length_map, lc1] at hj
      obtain ⟨e1, e2, e3⟩ := at1 j hj
      rw [List.getElem?_map, e1] at hx3
      cases hx3
      refine ⟨rfl, ?_⟩
      refine ⟨_, rfl, _, rfl, b, ys, 1, .ref d1, rfl, rfl, SqL.of (g3.sub _ _ (g3.data _ _ hb)), atI_nat (j := 1) ed1, d1, _, rfl, SqL.of (g3.sub _ _ (g3.data _ _ hd1)), _, _, rfl, rfl, wide_mul (m2 _ e2 e3) (m2 _ t10 t11) (by decide) (by decide) (by decide), ?_⟩
      exact hk2 _ H3 G3 _ (Grow.refl g3.sub) rfl rfl (da_int.mpr rfl) trivial
    intro G2 H2 l2 s2 g2 ll2 hP2 da2 _
    rw [List.length_map, lc1] at ll2
    have e2 : l2 = tab m fun j => Bn.ent sh 1 j * Bn.tot th 1 := list_of ll2 hP2
    rw [e2] at da2
    obtain ⟨_, eD2, hD2⟩ := da_tabI da2
    cases eD2
    -- list(zip(..))
    refine ⟨D1, D2, _, _, rfl, SqL.of (g2.sub _ _ (s2 _ _ hD1)), SqL.of (g2.sub _ _ hD2), by rw [tabI_len, tabI_len], fun H3 p ts k1 k2 k3 k4 k5 k6 k7 k8 => ?_⟩
    rw [tabI_len] at k6
    have g3 := g2.more k1
    obtain ⟨G4, g4, s4, a4⟩ := g3.pubAll (fun b => b = p ∨ b ∈ ts) (fun b hb => hb.elim (fun e => by rw [e]; exact g2.free k2) fun e => g2.free (k3 b e))
    refine q G4 H3 _ g4 (da_lst.mpr ⟨p, _, rfl, (a4 p (.inl rfl)).trans k5, ?_⟩)
    have key : ∀ (n : Nat) (us : List Addr) (g : Nat → Fr2), us.length = n → (∀ i t, us[i]? = some t → Da G4 (dFr (g i)) (.ref t)) → DaAll G4 ((tab n g).map dFr) (us.map V.ref) := by
      intro n
      induction n with
      | zero =>
        intro us g h1 _
        rw [List.length_eq_zero_iff.mp h1]
        exact daAll_nil.mpr rfl
      | succ n ih =>
        intro us g h1 h2
        have ne : us ≠ [] := fun e => by rw [e] at h1; cases h1
        have e := List.dropLast_concat_getLast ne
        generalize us.dropLast = r at e
        generalize us.getLast ne = t at e
        subst e
        rw [List.length_append, List.length_singleton] at h1
        rw [tab_succ, List.map_append, List.map_append]
        refine DaAll.push (ih r g (by omega) fun i t ht => h2 i t (by rw [List.getElem?_append_left (List.getElem?_eq_some_iff.mp ht).1]; exact ht)) (h2 n t (by rw [List.getElem?_append_right (by omega), show n - r.length = 0 by omega]; rfl))
    refine key m ts _ k6 fun i t ht => ?_
    obtain ⟨x, y, h1, h2, h3⟩ := k7 i t ht
    obtain ⟨_, rfl⟩ := tabI_get' h1
    obtain ⟨_, rfl⟩ := tabI_get' h2
    exact da_fr.mpr ⟨t, rfl, (a4 t (.inr (List.mem_of_getElem? ht))).trans h3⟩
-- _law_tells (statement 47)
abbrev s__law_tells : Stmt := topS 47
abbrev n__law_tells : List Str := ["_law_sheet_here", "_law_twin", "_law_one", "_law_two", "_law_above", "_law_below", "_law_least", "_law_first", "_law_last"]
theorem sc__law_tells : FnScope n__law_tells ["_law_sheet_here", "_law_twin"] (defScope s__law_tells) := ⟨rfl, rfl, rfl, by decide +kernel, rfl, by decide +kernel, by decide +kernel⟩
-- slots: 0 _law_sheet_here, 1 _law_twin, 2 _law_one, 3 _law_two, 4 _law_above*, 5 _law_below*, 6 _law_least, 7 _law_first, 8 _law_last
def spTl : Sp := fun vs H Q _ => ∃ (s t : List (List Int)) (R : Nat) (M : Int) (G : Hp) (v v2 : V), Same G H ∧ vs = [v, v2] ∧ Da G (dIss s) v ∧ Da G (dIss t) v2 ∧ Bn.Sht R M s ∧ Bn.Sht R M t ∧ 0 < R ∧ Bn.Fit R M ∧
  ∀ G' H' b, Grow No G H G' H' → (b = true ↔ Bn.Tells s t) → Q (.bl b) H'
theorem ok__law_tells (D : DefAt K mg "_law_tells" s__law_tells ["_law_sheet_here", "_law_twin"] f fd) (B : Blt mg) (G_tells_more : Kept P w K mg base 10 "tells_more" ["news", "other"] spTells) (G__law_low_sheet : Kept P w K mg base 3 "_law_low_sheet" ["_law_sheet_here"] spLowSh)
    (G__law_scaled : Kept P w K mg base 1 "_law_scaled" ["_law_sheet_here", "_law_twin"] spScaled) : Kept P w K mg base 11 "_law_tells" ["_law_sheet_here", "_law_twin"] spTl := by
  refine D.kept (D.F.ok sc__law_tells (fun vs H Q E h => ?_) (fun cdv A outer s H vs Q E hr h => ?_))
  · obtain ⟨s, t, R, M, G, v, v2, _, rfl, _⟩ := h
    rfl
  · obtain ⟨sh, th, R, M, G, v, v2, sG, rfl, hd, hd2, S, T, r0, F, q⟩ := h
    obtain ⟨a, xs, rfl, ha, hx⟩ := da_lst.mp hd
    obtain ⟨b, ys, rfl, hb, hy⟩ := da_lst.mp hd2
    have lx := hx.mapLen
    have lR := S.len
    have r4 := F.r4
    have fs := F.small
    have big : sizeLine = 16777216 := sizeLine_eq
    have N1 := S.nws r0
    have N2 := T.nws r0
    have tel : Bn.Tells sh th = Bn.Tl R (Bn.wid sh) (Bn.wid th) (Bn.ent sh) (Bn.tot sh) (Bn.ent th) (Bn.tot th) := by unfold Bn.Tells; rw [S.len]
    refine ⟨_, (pss_cons (ps_if (pt_cmp (pc_eqI (pe_callB (call_lenK (K := K) rfl) (by rfl) B.len_ (by decide +kernel) (pa_cons (pv 0) pa_nil)) pe_int))
        (pss_one (ps_ret pe_bl))
        pss_nil)
        (pss_cons (ps_if (pt_cmp (pc_gt (pe_callB (call_lenK (K := K) rfl) (by rfl) B.len_ (by decide +kernel) (pa_cons (pv 0) pa_nil)) pe_int))
        (pss_one (ps_ret (pe_kept G_tells_more (hr.mono (by decide)) (by rfl) (pa_cons (pe_kept G__law_low_sheet (hr.mono (by decide)) (by rfl) (pa_cons (pv 0) pa_nil)) (pa_cons (pe_kept G__law_low_sheet (hr.mono (by decide)) (by rfl) (pa_cons (pv 1) pa_nil)) pa_nil)))))
        pss_nil)
        (pss_cons (ps_par (i := 2) (j := 3) rfl sc__law_tells.nd rfl rfl (by decide) rfl rfl (pa_cons (pe_kept G__law_scaled (hr.mono (by decide)) (by rfl) (pa_cons (pv 0) (pa_cons (pv 1) pa_nil))) (pa_cons (pe_kept G__law_scaled (hr.mono (by decide)) (by rfl) (pa_cons (pv 1) (pa_cons (pv 0) pa_nil))) pa_nil)) (by rfl))
        (pss_cons (ps_for PassesOwn.never rfl (pi_listK (K := K) rfl (pe_op op_cat (pv 2) (pv 3))) (pg_tupK (K := K) rfl rfl (pgs_cons (pg_name (i := 4) sc__law_tells.nd rfl (Or.inr rfl)) (pgs_cons (pg_name (i := 5) sc__law_tells.nd rfl (Or.inr rfl)) pgs_nil)))
        (pss_cons (ps_set (i := 6) sc__law_tells.nd rfl (Or.inl rfl) (pe_callB (cr_sumK (K := K) rfl rfl) (by rfl) B.sum_ (by decide +kernel) (pa_cons (pe_lc (own := [("_law_first", 7), ("_law_last", 8)]) (g := gTup K 2 (gCons (gName 7) (gCons (gName 8) gNil))) (tt := tYes) rfl sc__law_tells.nd (pi_listK (K := K) rfl (pv 2)) (blkOk_by (own := [("_law_first", 7), ("_law_last", 8)]) (N := n__law_tells) (sc := defScope s__law_tells) (by decide +kernel)) (fun _ _ _ _ _ => (pg_tupK (K := K) rfl rfl (pgs_cons (pg_name (i := 7) sc__law_tells.nd rfl (Or.inl rfl)) (pgs_cons (pg_name (i := 8) sc__law_tells.nd rfl (Or.inl rfl)) pgs_nil)))) (fun _ _ _ _ _ => pts_nil) (fun _ _ _ _ _ => (pe_callB (call_max2 rfl) (by rfl) B.max_ (by decide +kernel) (pa_cons (pe_op op_mulW (pv 5) (pv 7)) (pa_cons (pe_op op_mulW (pv 4) (pv 8)) pa_nil))))) pa_nil)))
          (pss_one (ps_if (pt_cmp (pc_lt (pv 6) (pe_callB (cr_sumK (K := K) rfl rfl) (by rfl) B.sum_ (by decide +kernel) (pa_cons (pe_lc (own := [("_law_first", 7), ("_law_last", 8)]) (g := gTup K 2 (gCons (gName 7) (gCons (gName 8) gNil))) (tt := tYes) rfl sc__law_tells.nd (pi_listK (K := K) rfl (pv 3)) (blkOk_by (own := [("_law_first", 7), ("_law_last", 8)]) (N := n__law_tells) (sc := defScope s__law_tells) (by decide +kernel)) (fun _ _ _ _ _ => (pg_tupK (K := K) rfl rfl (pgs_cons (pg_name (i := 7) sc__law_tells.nd rfl (Or.inl rfl)) (pgs_cons (pg_name (i := 8) sc__law_tells.nd rfl (Or.inl rfl)) pgs_nil)))) (fun _ _ _ _ _ => pts_nil) (fun _ _ _ _ _ => (pe_callB (call_max2 rfl) (by rfl) B.max_ (by decide +kernel) (pa_cons (pe_op op_mulW (pv 5) (pv 7)) (pa_cons (pe_op op_mulW (pv 4) (pv 8)) pa_nil))))) pa_nil))))
          (pss_one (ps_ret pe_bl))
          pss_nil))))
        (pss_one (ps_ret pe_bl)))))), ?_⟩
    -- one row
    refine ⟨_, rfl, a, xs, rfl, .inl (SqL.of (sG _ _ ha)), _, _, rfl, rfl, _, rfl, ite_b (fun e => ?_) fun e => ?_⟩
    · have e' := of_decide_eq_true e
      have : R = 1 := by omega
      subst this
      refine q _ _ true (Grow.refl sG) ⟨fun _ => ?_, fun _ => rfl⟩
      rw [tel]
      exact Bn.Tl.one N1 N2
    have e' := of_decide_eq_false e
    -- more than two
    refine ⟨_, rfl, a, xs, rfl, .inl (SqL.of (sG _ _ ha)), _, _, rfl, rfl, _, rfl, ite_b (fun e => ?_) fun e => ?_⟩
    · refine ⟨_, rfl, sh, R, M, G, _, sG, rfl, hd, S, fs, r4, fun G1 H1 v1 g1 d1 => ?_⟩
      refine ⟨_, rfl, th, R, M, G1, _, g1.sub, rfl, Da.mono g1.data _ _ hd2, T, fs, r4, fun G2 H2 v2 g2 d2 => ?_⟩
      exact ⟨_, _, sh, th, R, M, G2, _, _, g2.sub, rfl, Da.mono g2.data _ _ d1, d2, okT_low S fs, okT_low T fs, S, T, r0, F, fun G3 H3 bb g3 hb3 => q G3 H3 bb ((g1.trans g2).trans g3) hb3⟩
    have e2 := of_decide_eq_false e
    have R2 : R = 2 := by omega
    subst R2
    obtain ⟨m, hm⟩ : ∃ m, Bn.wid sh = m := ⟨_, rfl⟩
    obtain ⟨k, hk⟩ : ∃ k, Bn.wid th = k := ⟨_, rfl⟩
    have wS := S.wids r0
    have wT := T.wids r0
    -- one, two
    refine ⟨_, rfl, _, rfl, sh, th, M, G, _, _, sG, rfl, hd, hd2, S, T, fs, fun G1 H1 v1 g1 d1 => ?_⟩
    refine ⟨_, rfl, _, rfl, th, sh, M, G1, _, _, g1.sub, rfl, Da.mono g1.data _ _ hd2, Da.mono g1.data _ _ hd, T, S, fs, fun G2 H2 v2 g2 d2 => ?_⟩
    have g12 := g1.trans g2
    rw [hm] at d1 N1 tel wS
    rw [hk] at d2 N2 tel wT
    obtain ⟨m1, m3, mw⟩ := wS
    obtain ⟨k1, k3, kw⟩ := wT
    replace d1 := Da.mono g2.data _ _ d1
    obtain ⟨c1, xs1, rfl, hc1, hx1⟩ := da_lst.mp d1
    obtain ⟨c2, xs2, rfl, hc2, hx2⟩ := da_lst.mp d2
    have l1 := hx1.mapLen
    have l2 := hx2.mapLen
    rw [tab_len] at l1 l2
    refine ⟨_, _, rfl, ?_⟩
    -- one + two
    refine ⟨_, rfl, _, rfl, cat_of (g2.sub _ _ hc1) (g2.sub _ _ hc2) (by omega) fun u H3 s3 nu hu => ⟨u, rfl, ⟨_, SqL.of hu⟩, ?_⟩⟩
    have g3 := g12.more s3
    have hxy : DaAll G2 ((tab m (scP sh th) ++ tab k (scP th sh)).map dFr) (xs1 ++ xs2) := by
      rw [List.map_append]
      exact DaAll.append hx1 hx2
    generalize hP : tab m (scP sh th) ++ tab k (scP th sh) = ps at hxy
    have lp : ps.length = m + k := by rw [← hP, List.length_append, tab_len, tab_len]
    have pb : ∀ fr ∈ ps, 0 ≤ fr.1 ∧ 0 ≤ fr.2 ∧ fr.1.natAbs < 2 ^ 202 ∧ fr.2.natAbs < 2 ^ 202 := fun fr hfr => by
      rw [← hP] at hfr
      rcases List.mem_append.mp hfr with z | z
      · obtain ⟨c, _, rfl⟩ := tab_mem z
        exact scP_b S T fs c
      · obtain ⟨c, _, rfl⟩ := tab_mem z
        exact scP_b T S fs c
    have pb1 : ∀ c, c < m → 0 ≤ (scP sh th c).1 ∧ 0 ≤ (scP sh th c).2 ∧ (scP sh th c).1.natAbs < 2 ^ 202 ∧ (scP sh th c).2.natAbs < 2 ^ 202 := fun c _ => scP_b S T fs c
    have pb2 : ∀ c, c < k → 0 ≤ (scP th sh c).1 ∧ 0 ≤ (scP th sh c).2 ∧ (scP th sh c).1.natAbs < 2 ^ 202 ∧ (scP th sh c).2.natAbs < 2 ^ 202 := fun c _ => scP_b T S fs c
    have hu0 := hu
    -- the loop
    refine for_list (K := K) (a := u) (xs := xs1 ++ xs2) (fun i σ H' => ∃ (G' : Hp) (z4 z5 z6 : Option V), σ = [some (.ref a), some (.ref b), some (.ref c1), some (.ref c2), z4, z5, z6, none, none] ∧ Grow No G H G' H' ∧ Same G2 G' ∧ H' u = some (.lst (xs1 ++ xs2)) ∧
        ∀ (j : Nat) (fr : Fr2), j < i → ps[j]? = some fr → Bn.Thr m k (Bn.ent sh) (Bn.tot sh) (Bn.ent th) (Bn.tot th) fr.1 fr.2)
      ⟨G2, none, none, none, rfl, g3, .refl _, hu, fun j fr h => absurd h (Nat.not_lt_zero _)⟩ (fun i σ H' _ ⟨_, _, _, _, _, _, _, hu', _⟩ => SqL.of hu') ?_ ?_
    · rintro i x σ H4 hx4 ⟨G4, z4, z5, z6, rfl, g4, s4, hu4, thr⟩
      obtain ⟨fr, e3, e4⟩ := hxy.mapGet hx4
      obtain ⟨tp, rfl, htp⟩ := fr_at (K := K) (s4.trans g4.sub) e4
      obtain ⟨f0, f1, fb1, fb2⟩ := pb fr (List.mem_of_getElem? e3)
      refine ⟨tp, _, rfl, htp, rfl, _, _, rfl, _, _, rfl, rfl, ?_⟩
      -- least
      refine ⟨_, rfl, c1, rfl, ⟨_, SqL.of (g4.sub _ _ (s4 _ _ hc1))⟩, fun D1 nD1 => ?_⟩
      refine lc_data (walk_list (K := K) (a := c1) (xs := xs1)) PyData.int (fun j z => z = max (fr.2 * (scP sh th j).1) (fr.1 * (scP sh th j).2)) (S := No) (G0 := G4) (H0 := H4) (G1 := G4) (H1 := H4) (fun H' _ => True) (Grow.refl g4.sub) nD1 (by omega)
        (fun G' H' s5 gr => SqL.of (gr.sub _ _ (s5 _ _ (s4 _ _ hc1)))) trivial (fun _ _ _ _ _ _ => trivial) ?_ ?_
      · rintro j y G5 _ H5 hj s5 g5 gD hD' _ ⟨rfl, hy5⟩ Post hk2
        obtain ⟨p2, e5, e6⟩ := hx1.mapGet hy5
        obtain ⟨hjm, rfl⟩ := tab_get' e5
        obtain ⟨tq, rfl, htq⟩ := fr_at (K := K) ((s4.trans s5).trans g5.sub) e6
        obtain ⟨_, _, b1, b2⟩ := pb1 j hjm
        refine ⟨tq, _, rfl, htq, rfl, _, _, rfl, _, _, rfl, rfl, rfl, ?_⟩
        refine ⟨_, rfl, _, rfl, _, _, rfl, rfl, wide_mul fb2 b1 (by decide) (by decide) (by decide), _, rfl, _, rfl, _, _, rfl, rfl, wide_mul fb1 b2 (by decide) (by decide) (by decide), _, _, rfl, ?_⟩
        exact hk2 _ H5 G5 _ (Grow.refl g5.sub) rfl (max_if _ _) (da_int.mpr rfl) trivial
      intro G5 H5 l5 s5 g5 ll5 hP5 d5 _
      have e5 : l5 = tab m fun j => max (fr.2 * (scP sh th j).1) (fr.1 * (scP sh th j).2) := list_of (by omega) hP5
      rw [e5] at d5
      obtain ⟨_, eD1, hD1⟩ := da_tabI d5
      cases eD1
      refine ⟨D1, tab m fun j => max (fr.2 * (scP sh th j).1) (fr.1 * (scP sh th j).2), rfl, SqL.of (g5.sub _ _ hD1), ?_⟩
      rw [tab_sum]
      -- the other sum
      refine ⟨_, rfl, _, rfl, c2, rfl, ⟨_, SqL.of (g5.sub _ _ (s5 _ _ (s4 _ _ hc2)))⟩, fun D2 nD2 => ?_⟩
      refine lc_data (walk_list (K := K) (a := c2) (xs := xs2)) PyData.int (fun j z => z = max (fr.2 * (scP th sh j).1) (fr.1 * (scP th sh j).2)) (S := No) (G0 := G5) (H0 := H5) (G1 := G5) (H1 := H5) (fun H' _ => True) (Grow.refl g5.sub) nD2 (by omega)
        (fun G' H' s6 gr => SqL.of (gr.sub _ _ (s6 _ _ (s5 _ _ (s4 _ _ hc2))))) trivial (fun _ _ _ _ _ _ => trivial) ?_ ?_
      · rintro j y G6 _ H6 hj s6 g6 gD hD' _ ⟨rfl, hy6⟩ Post hk2
        obtain ⟨p2, e6, e7⟩ := hx2.mapGet hy6
        obtain ⟨hjk, rfl⟩ := tab_get' e6
        obtain ⟨tq, rfl, htq⟩ := fr_at (K := K) (((s4.trans s5).trans s6).trans g6.sub) e7
        obtain ⟨_, _, b1, b2⟩ := pb2 j hjk
        refine ⟨tq, _, rfl, htq, rfl, _, _, rfl, _, _, rfl, rfl, rfl, ?_⟩
        refine ⟨_, rfl, _, rfl, _, _, rfl, rfl, wide_mul fb2 b1 (by decide) (by decide) (by decide), _, rfl, _, rfl, _, _, rfl, rfl, wide_mul fb1 b2 (by decide) (by decide) (by decide), _, _, rfl, ?_⟩
        exact hk2 _ H6 G6 _ (Grow.refl g6.sub) rfl (max_if _ _) (da_int.mpr rfl) trivial
      intro G6 H6 l6 s6 g6 ll6 hP6 d6 _
      have e6 : l6 = tab k fun j => max (fr.2 * (scP th sh j).1) (fr.1 * (scP th sh j).2) := list_of (by omega) hP6
      rw [e6] at d6
      obtain ⟨_, eD2, hD2⟩ := da_tabI d6
      cases eD2
      refine ⟨D2, tab k fun j => max (fr.2 * (scP th sh j).1) (fr.1 * (scP th sh j).2), rfl, SqL.of (g6.sub _ _ hD2), ?_⟩
      rw [tab_sum]
      refine ⟨_, _, rfl, rfl, _, rfl, ite_b (fun ei => ?_) fun ei => ?_⟩
      · have lt := of_decide_eq_true ei
        refine q G6 H6 false ((g4.trans g5).trans g6) ⟨fun z => absurd z (by decide), fun z => ?_⟩
        rw [tel] at z
        have tt := Bn.tl_thr N1 N2 z f0 f1
        unfold Bn.Thr at tt
        exact absurd lt (Int.not_lt.mpr tt)
      · have nlt := of_decide_eq_false ei
        refine ⟨G6, _, _, _, rfl, (g4.trans g5).trans g6, (s4.trans s5).trans s6, g6.sm _ _ (g5.sm _ _ hu4), fun j fr' hj e' => ?_⟩
        by_cases qj : j = i
        · subst qj
          rw [e3] at e'
          cases e'
          unfold Bn.Thr
          exact Int.not_lt.mp nlt
        · exact thr j fr' (by omega) e'
    · rintro σ H4 ⟨G4, z4, z5, z6, rfl, g4, s4, hu4, thr⟩
      have lxx : (xs1 ++ xs2).length = m + k := by rw [List.length_append]; omega
      rw [lxx] at thr
      refine q G4 H4 true g4 ⟨fun _ => ?_, fun _ => rfl⟩
      rw [tel]
      refine Bn.thr_tl N1 N2 (by omega) (fun c hc => ?_) fun c hc => ?_
      · exact thr c (scP sh th c) (by omega) (by rw [← hP, List.getElem?_append_left (by rw [tab_len]; exact hc), tab_get hc])
      · exact thr (m + c) (scP th sh c) (by omega) (by rw [← hP, List.getElem?_append_right (by rw [tab_len]; omega), tab_len, show m + c - m = c by omega, tab_get hc])
end
end Bw
set_option Elab.async false
set_option linter.all false
set_option maxRecDepth 100000
set_option maxHeartbeats 8000000
set_option exponentiation.threshold 10000
/-! BwO: the next sheet; the due answer. -/
namespace Bw
open PySem L2
/-- data of ints in lists and tuples, n deep -/
structure Lay (n : Nat) (d : PyData) : Prop where
  can : d.canLay0 = true
  dep : d.depth ≤ n
  rf : PyData.eqv d d = true
theorem lay_all {n : Nat} : ∀ {ds : List PyData}, (∀ d ∈ ds, Lay n d) → PyData.canLayAll0 ds = true ∧ PyData.depthAll ds ≤ n ∧ PyData.eqvAll ds ds = true
  | [], _ => by simp [PyData.canLayAll0, PyData.depthAll, PyData.eqvAll]
  | d :: ds, h => by
    obtain ⟨h1, h2, h3⟩ := h d (List.mem_cons_self ..)
    obtain ⟨i1, i2, i3⟩ := lay_all (ds := ds) fun x hx => h x (List.mem_cons_of_mem _ hx)
    refine ⟨by simp [PyData.canLayAll0, h1, i1], ?_, by simp [PyData.eqvAll, h3, i3]⟩
    unfold PyData.depthAll
    exact Nat.max_le.mpr ⟨h2, i2⟩
theorem lay_int (i : Int) : Lay 0 (.int i) := ⟨by simp [PyData.canLay0], by simp [PyData.depth], by simp [PyData.eqv]⟩
theorem lay_list {n : Nat} {ds : List PyData} (h : ∀ d ∈ ds, Lay n d) : Lay (n + 1) (.list ds) := by
  obtain ⟨h1, h2, h3⟩ := lay_all h
  exact ⟨by simp [PyData.canLay0, h1], by simp [PyData.depth, h2], by simp [PyData.eqv, h3]⟩
theorem lay_tup {n : Nat} {ds : List PyData} (h : ∀ d ∈ ds, Lay n d) : Lay (n + 1) (.tuple ds) := by
  obtain ⟨h1, h2, h3⟩ := lay_all h
  exact ⟨by simp [PyData.canLay0, h1], by simp [PyData.depth, h2], by simp [PyData.eqv, h3]⟩
theorem Lay.shaped {n : Nat} {d : PyData} (h : Lay n d) (hn : n ≤ 64) : SeqAt.shaped d = true := by
  unfold SeqAt.shaped
  rw [h.can, decide_eq_true (Nat.le_trans h.dep hn)]
  rfl
theorem lay_map {al : Type} {enc : al → PyData} {n : Nat} {l : List al} (h : ∀ a, Lay n (enc a)) : ∀ d ∈ l.map enc, Lay n d := fun d hd => by
  obtain ⟨a, _, rfl⟩ := List.mem_map.mp hd
  exact h a
theorem lay_is (l : List Int) : Lay 1 (dIs l) := lay_list (lay_map lay_int)
theorem lay_iss (l : List (List Int)) : Lay 2 (dIss l) := lay_list (lay_map lay_is)
theorem lay_shs (l : List (List (List Int))) : Lay 3 (dShs l) := lay_list (lay_map lay_iss)
theorem lay_fr (f : Fr2) : Lay 1 (dFr f) := lay_tup fun d hd => by
  simp only [List.mem_cons, List.not_mem_nil, or_false] at hd
  rcases hd with rfl | rfl <;> exact lay_int _
theorem lay_frT (l : List Fr2) : Lay 2 (dFrT l) := lay_tup (lay_map lay_fr)
theorem lay_tab (l : List (List Fr2)) : Lay 3 (dTab l) := lay_tup (lay_map lay_frT)
theorem lay_tabs (l : List (List (List Fr2))) : Lay 4 (dTabs l) := lay_list (lay_map lay_tab)
theorem sum_rev (l : List Int) : l.reverse.sum = l.sum := by
  induction l with
  | nil => rfl
  | cons x l ih => rw [List.reverse_cons, sum_append, ih, List.sum_cons]; simp; omega
theorem cut_to {xs : List V} {p : Nat} : cutV xs none (some (p : Int)) = xs.take p := by
  unfold cutV
  rw [HT.sIx_nat]
  show (xs.drop 0).take (min p xs.length - 0) = _
  rw [List.drop_zero, Nat.sub_zero]
  refine List.ext_getElem? fun i => ?_
  by_cases q : i < p
  · by_cases q2 : i < xs.length
    · rw [List.getElem?_take_of_lt (by omega), List.getElem?_take_of_lt q]
    · rw [List.getElem?_eq_none (by rw [List.length_take]; omega), List.getElem?_eq_none (by rw [List.length_take]; omega)]
  · rw [List.getElem?_eq_none (by rw [List.length_take]; omega), List.getElem?_eq_none (by rw [List.length_take]; omega)]
theorem cut_from {xs : List V} {p : Nat} : cutV xs (some (p : Int)) none = xs.drop p := by
  unfold cutV
  rw [HT.sIx_nat]
  show (xs.drop (min p xs.length)).take (xs.length - min p xs.length) = _
  rw [List.take_of_length_le (by rw [List.length_drop]; omega)]
  by_cases q : p ≤ xs.length
  · rw [Nat.min_eq_left q]
  · rw [Nat.min_eq_right (by omega), List.drop_of_length_le (Nat.le_refl _), List.drop_of_length_le (by omega)]
theorem sum_twice (l : List Int) : (l.map fun x => 2 * x + 1).sum = 2 * l.sum + l.length := by
  induction l with
  | nil => rfl
  | cons x l ih => rw [List.map_cons, List.sum_cons, List.sum_cons, ih, List.length_cons, Int.natCast_add, Int.mul_add]; omega
section
variable {R : Nat} {M : Int} {s : List (List Int)}
theorem sht_rev (S : Bn.Sht R M s) : Bn.Sht R M (s.map List.reverse) := by
  obtain ⟨c, c1, c3, cw⟩ := S.wid
  have f : ∀ l ∈ s.map List.reverse, ∃ l' ∈ s, l = l'.reverse := fun l hl => by
    obtain ⟨l', h1, rfl⟩ := List.mem_map.mp hl
    exact ⟨l', h1, rfl⟩
  refine ⟨by rw [List.length_map]; exact S.len, ⟨c, c1, c3, fun l hl => ?_⟩, fun l hl x hx => ?_, fun l hl => ?_, fun l hl => ?_⟩
  all_goals obtain ⟨l', h1, rfl⟩ := f l hl
  · rw [List.length_reverse]; exact cw l' h1
  · exact S.nn l' h1 x (List.mem_reverse.mp hx)
  · rw [sum_rev]; exact S.pos l' h1
  · rw [sum_rev]; exact S.le l' h1
theorem sht_put (S : Bn.Sht R M s) (hM : 27 ≤ M) {p : Nat} {l : List Int} (h : s[p]? = some l) : Bn.Sht R (M * 2 ^ 15) (s.take p ++ [l.map fun x => 2 * x + 1] ++ s.drop (p + 1)) := by
  obtain ⟨c, c1, c3, cw⟩ := S.wid
  have mem := List.mem_of_getElem? h
  have hp := (List.getElem?_eq_some_iff.mp h).1
  have M1 : M ≤ M * 2 ^ 15 := by
    have : (2 : Int) ^ 15 = 32768 := by decide +kernel
    rw [this]
    omega
  have f : ∀ k ∈ s.take p ++ [l.map fun x => 2 * x + 1] ++ s.drop (p + 1), k ∈ s ∨ k = l.map fun x => 2 * x + 1 := fun k hk => by
    rcases List.mem_append.mp hk with q | q
    · rcases List.mem_append.mp q with q | q
      · exact .inl (List.mem_of_mem_take q)
      · exact .inr (List.mem_singleton.mp q)
    · exact .inl (List.mem_of_mem_drop q)
  have sl := sum_twice l
  have ll := cw l mem
  have sp := S.pos l mem
  have sle := S.le l mem
  have big : 2 * M + 3 ≤ M * 2 ^ 15 := by
    have : (2 : Int) ^ 15 = 32768 := by decide +kernel
    rw [this]
    omega
  refine ⟨?_, ⟨c, c1, c3, fun k hk => ?_⟩, fun k hk x hx => ?_, fun k hk => ?_, fun k hk => ?_⟩
  · rw [List.length_append, List.length_append, List.length_take, List.length_drop, List.length_singleton, ← S.len]
    omega
  all_goals rcases f k hk with q | rfl
  · exact cw k q
  · rw [List.length_map]; exact ll
  · exact S.nn k q x hx
  · obtain ⟨y, hy, rfl⟩ := List.mem_map.mp hx
    have := S.nn l mem y hy
    omega
  · exact S.pos k q
  · omega
  · exact Int.le_trans (S.le k q) M1
  · omega
end
section
variable {P : Program} {w : World} {K : PySem.W.Frag} {mg : Str → Option Value} {base : Heap} {f : Addr} {fd : FuncData}
-- _law_next (statement 48)
abbrev s__law_next : Stmt := topS 48
abbrev n__law_next : List Str := ["_law_purse_here", "_law_sheets", "_law_rows", "_law_way", "_law_columns", "_law_sheet_here", "_law_place", "_law_line", "_law_weight"]
theorem sc__law_next : FnScope n__law_next ["_law_purse_here", "_law_sheets", "_law_rows"] (defScope s__law_next) := ⟨rfl, rfl, rfl, by decide +kernel, rfl, by decide +kernel, by decide +kernel⟩
-- slots: 0 _law_purse_here, 1 _law_sheets, 2 _law_rows, 3 _law_way, 4 _law_columns, 5 _law_sheet_here, 6 _law_place, 7 _law_line, 8 _law_weight
def spNext : Sp := fun vs H Q _ => ∃ (p L : Addr) (xs : List V) (ss : List (List (List Int))) (R n : Nat) (M : Int) (G : Hp), Same G H ∧ vs = [.ref p, .ref L, .int R] ∧ G p = none ∧ Pu n H p ∧ L ≠ p ∧ H L = some (.lst xs) ∧ DaAll G (ss.map dIss) xs ∧ (∀ s ∈ ss, Bn.Sht R M s) ∧
  0 < R ∧ R ≤ 4 ∧ 27 ≤ M ∧ M ≤ 2 ^ 100 ∧ ss.length ≤ 10 ∧ n ≤ 70000 ∧ ∀ G' H' v s, Grow (One p) G H G' H' → Pu (n + 60) H' p → Da G' (dIss s) v → Bn.Sht R (M * 2 ^ 15) s → Q v H'
theorem ok__law_next (D : DefAt K mg "_law_next" s__law_next ["_law_purse_here", "_law_sheets", "_law_rows"] f fd) (B : Blt mg) (G__law_pull : Kept P w K mg base 1 "_law_pull" ["_law_purse_here", "_law_many"] spPull)
    (G__law_pick : Kept P w K mg base 2 "_law_pick" ["_law_purse_here", "_law_items"] spPick) (G__law_sheet : Kept P w K mg base 4 "_law_sheet" ["_law_purse_here", "_law_rows", "_law_columns", "_law_great"] spSheet)
    (G__law_blurred : Kept P w K mg base 3 "_law_blurred" ["_law_sheet_here", "_law_blur"] spBlur) : Kept P w K mg base 5 "_law_next" ["_law_purse_here", "_law_sheets", "_law_rows"] spNext := by
  refine D.kept (D.F.ok sc__law_next (fun vs H Q E h => ?_) (fun cdv A outer s H vs Q E hr h => ?_))
  · obtain ⟨p, L, xs, ss, R, n, M, G, _, rfl, _⟩ := h
    rfl
  · obtain ⟨p, L, xs, ss, R, n, M, G, sG, rfl, hG, hP, Lp, hL, hx, hS, r0, r4, M27, hM, l10, hn, q⟩ := h
    have lx := hx.mapLen
    have big : sizeLine = 16777216 := sizeLine_eq
    have n5 : (5 : Int).natAbs < 2 ^ 1000 := by decide +kernel
    have n3 : (3 : Int).natAbs < 2 ^ 1000 := by decide +kernel
    have nR : ((R : Nat) : Int).natAbs < 2 ^ 1000 := by
      have : 4 < 2 ^ 1000 := by decide +kernel
      omega
    have M1 : M ≤ M * 2 ^ 15 := by
      have : (2 : Int) ^ 15 = 32768 := by decide +kernel
      rw [this]
      omega
    refine ⟨_, (pss_cons (ps_par (i := 3) (j := 4) rfl sc__law_next.nd rfl rfl (by decide) rfl rfl (pa_cons (pe_kept G__law_pull (hr.mono (by decide)) (by rfl) (pa_cons (pv 0) (pa_cons pe_int pa_nil))) (pa_cons (pe_op op_add pe_int (pe_kept G__law_pull (hr.mono (by decide)) (by rfl) (pa_cons (pv 0) (pa_cons pe_int pa_nil)))) pa_nil)) (by rfl))
        (pss_cons (ps_if (PW.pt (pw_or (pt_cmp (pc_eqI (pv 3) pe_int)) (pw_or1 (pt_cmpR (op_eqDK (K := K) rfl hr.units) (pv 1) (pe_lst pa_nil) (nomark _)))))
        (pss_one (ps_ret (pe_kept G__law_sheet (hr.mono (by decide)) (by rfl) (pa_cons (pv 0) (pa_cons (pv 2) (pa_cons (pv 4) (pa_cons pe_bl pa_nil)))))))
        pss_nil)
        (pss_cons (ps_set (i := 5) sc__law_next.nd rfl (Or.inl rfl) (pe_kept G__law_pick (hr.mono (by decide)) (by rfl) (pa_cons (pv 0) (pa_cons (pv 1) pa_nil))))
        (pss_cons (ps_if (pt_cmp (pc_eqI (pv 3) pe_int))
        (pss_one (ps_ret (pe_lc (own := [("_law_line", 7)]) (g := gName 7) (tt := tYes) rfl sc__law_next.nd (pi_listK (K := K) rfl (pv 5)) (blkOk_by (own := [("_law_line", 7)]) (N := n__law_next) (sc := defScope s__law_next) (by decide +kernel)) (fun _ _ _ _ _ => (pg_name (i := 7) sc__law_next.nd rfl (Or.inl rfl))) (fun _ _ _ _ _ => pts_nil) (fun _ _ _ _ _ => (pe_revLK (K := K) rfl (pv 7))))))
        pss_nil)
        (pss_cons (ps_if (pt_cmp (pc_lt (pv 3) pe_int))
        (pss_one (ps_ret (pe_kept G__law_blurred (hr.mono (by decide)) (by rfl) (pa_cons (pv 5) (pa_cons (pe_kept G__law_sheet (hr.mono (by decide)) (by rfl) (pa_cons (pv 0) (pa_cons (pe_callB (call_lenK (K := K) rfl) (by rfl) B.len_ (by decide +kernel) (pa_cons (pe_ix (ix_listK (K := K) rfl) (pv 5) pe_int (fun _ _ => rfl)) pa_nil)) (pa_cons (pv 4) (pa_cons pe_bl pa_nil))))) pa_nil)))))
        pss_nil)
        (pss_cons (ps_set (i := 6) sc__law_next.nd rfl (Or.inl rfl) (pe_kept G__law_pull (hr.mono (by decide)) (by rfl) (pa_cons (pv 0) (pa_cons (pv 2) pa_nil))))
        (pss_one (ps_ret (pe_op op_cat (pe_op op_cat (pe_slice (sl_listK (K := K) rfl) (pv 5) po_none (po_some (pv 6))) (pe_lst (pa_cons (pe_lc (own := [("_law_weight", 8)]) (g := gName 8) (tt := tYes) rfl sc__law_next.nd (pi_listK (K := K) rfl (pe_ix (ix_listK (K := K) rfl) (pv 5) (pv 6) (fun _ _ => rfl))) (blkOk_by (own := [("_law_weight", 8)]) (N := n__law_next) (sc := defScope s__law_next) (by decide +kernel)) (fun _ _ _ _ _ => (pg_name (i := 8) sc__law_next.nd rfl (Or.inl rfl))) (fun _ _ _ _ _ => pts_nil) (fun _ _ _ _ _ => (pe_op op_add (pe_op op_mulW pe_int (pv 8)) pe_int))) pa_nil))) (pe_slice (sl_listK (K := K) rfl) (pv 5) (po_some (pe_op op_add (pv 6) pe_int)) po_none)))))))))), ?_⟩
    -- way, columns
    refine ⟨_, rfl, p, 5, n, G, sG, rfl, hG, hP, by decide, n5, by omega, fun H1 r1 r10 r15 g1 P1 => ?_⟩
    refine ⟨_, rfl, p, 3, _, G, g1.sub, rfl, hG, P1, by decide, n3, by omega, fun H2 r2 r20 r23 g2 P2 => ?_⟩
    refine ⟨_, _, rfl, rfl, _, _, rfl, ?_⟩
    have g12 := g1.via g2 one_same
    have hL2 := g2.one Lp (g1.one Lp hL)
    have ec : (1 : Int) + r2 = (((1 + r2).toNat : Nat) : Int) := by omega
    have ev : V.int (1 + r2) = V.int (((1 + r2).toNat : Nat) : Int) := congrArg V.int ec
    have drawn : ∀ H3, Same H2 H3 → spSheet [.ref p, .int R, .int (1 + r2), .bl false] H3 Q E0 := fun H3 s3 => by
      have g3 := g12.more s3
      refine ⟨p, R, (1 + r2).toNat, n + 1 + 1, G, g3.sub, by rw [← ev], hG, P2.same s3, r4, by omega, by omega, by omega, fun G' H' v s g4 P4 d S => ?_⟩
      exact q G' H' v s (g3.via g4 one_same) (P4.mono (by omega)) d (S.mono (by omega))
    refine ⟨_, rfl, _, _, rfl, rfl, _, rfl, ite_b (fun e => ?_) fun e => ?_⟩
    · refine iteT ?_
      exact ⟨_, rfl, _, rfl, _, rfl, drawn H2 (.refl _)⟩
    refine ⟨_, rfl, Nat.zero_le _, fun l0 nl0 => ?_⟩
    generalize eH3 : upd _ l0 _ = H3
    obtain ⟨s3, hl0⟩ := new2 nl0 eH3
    have g3 := g12.more s3
    have hL3 := s3 _ _ hL2
    refine ⟨.list (ss.map dIss), .list [], .lst (SqL.of hL3) (DaAll.dp _ _ (DaAll.mono g3.sub _ _ hx)), .lst (SqL.of hl0) .nil, ?_, rfl, _, rfl, ite_b (fun e2 => ?_) fun e2 => ?_⟩
    · exact (lay_shs ss).shaped (by decide)
    · exact ⟨_, rfl, _, rfl, _, rfl, drawn H3 s3⟩
    have ne : ss ≠ [] := fun z => by
      subst z
      have e3 : PyData.eqv (.list []) (.list []) = false := e2
      exact absurd e3 (by decide)
    -- sheet_here
    have P3 := P2.same s3
    refine ⟨_, rfl, _, rfl, p, L, xs, _, G, g3.sub, rfl, hG, P3, Lp, hL3, ?_, by omega, by omega, fun H4 i x ex g4 P4 => ?_⟩
    · have := List.length_pos_iff.mpr ne
      omega
    have g34 := g3.via g4 one_same
    obtain ⟨sh, es, ds⟩ := hx.mapGet ex
    have S := hS sh (List.mem_of_getElem? es)
    obtain ⟨a, zs, rfl, ha, hz⟩ := da_lst.mp ds
    have lz := hz.mapLen
    have lS := S.len
    have wS := S.wids r0
    obtain ⟨m, hm⟩ : ∃ m, Bn.wid sh = m := ⟨_, rfl⟩
    rw [hm] at wS
    obtain ⟨m1, m3, mw⟩ := wS
    refine ⟨_, rfl, _, _, rfl, rfl, _, rfl, ite_b (fun e4 => ?_) fun e4 => ?_⟩
    · -- reversed
      refine ⟨_, rfl, a, rfl, ⟨_, SqL.of (g34.sub _ _ ha)⟩, fun D hD => ?_⟩
      have Dp : D ≠ p := fun e => P4.ne (by rw [← e]; exact hD)
      refine lc_data (walk_list (K := K) (a := a) (xs := zs)) dIs (fun i z => ∃ l, sh[i]? = some l ∧ z = l.reverse) (S := No) (G0 := G) (H0 := H4) (G1 := G) (H1 := H4) (fun _ _ => True) (Grow.refl g34.sub) hD (by omega)
        (fun G' H' s1 gr => SqL.of (gr.sub _ _ (s1 _ _ ha))) trivial (fun _ _ _ _ _ _ => trivial) ?_ ?_
      · rintro j x G5 _ H5 hj s5 g5 gD hD' _ ⟨rfl, hx5⟩ Post hk
        obtain ⟨l, e5, e6⟩ := hz.mapGet hx5
        obtain ⟨u, rfl, hu⟩ := da_is.mp e6
        refine ⟨rfl, ?_⟩
        refine ⟨_, rfl, u, _, rfl, SqL.of (g5.sub _ _ (s5 _ _ hu)), fun p6 np6 => ?_⟩
        have er : (l.map V.int).reverse = l.reverse.map V.int := List.map_reverse.symm
        rw [er]
        have g6 := (Grow.refl (S := No) g5.sub).lay (c := .lst (l.reverse.map V.int)) np6
        exact hk _ _ _ l.reverse g6 ((same_updG np6).at hD') ⟨l, e5, rfl⟩ (da_is.mpr ⟨p6, rfl, upd_same⟩) trivial
      · intro G5 H5 l5 s5 g5 ll5 hP5 d5 _
        have e5 : l5 = sh.map List.reverse := by
          refine List.ext_getElem? fun j => ?_
          rw [List.getElem?_map]
          cases z : l5[j]? with
          | none =>
            have : sh[j]? = none := by
              rw [List.getElem?_eq_none_iff] at z ⊢
              omega
            rw [this]
            rfl
          | some u =>
            obtain ⟨y, h1, h2⟩ := hP5 j u z
            rw [h1, h2]
            rfl
        rw [e5] at d5
        exact q G5 H5 _ _ (g34.via g5 fun _ z => z.elim) ((P4.same g5.sm).mono (by omega)) d5 ((sht_rev S).mono M1)
    refine ⟨_, rfl, _, _, rfl, rfl, _, rfl, ite_b (fun e5 => ?_) fun e5 => ?_⟩
    · -- blurred
      obtain ⟨c0, ec0, hc0⟩ := sheet_row hz S r0
      have lc0 : (sh.getD 0 []).length = m := by unfold Bn.wid at hm; exact hm
      refine ⟨_, rfl, _, rfl, _, rfl, a, zs, 0, .ref c0, rfl, rfl, SqL.of (g34.sub _ _ ha), atI_nat (j := 0) ec0, c0, _, rfl, .inl (SqL.of (g34.sub _ _ hc0)), ?_⟩
      rw [List.length_map, lc0]
      refine ⟨_, rfl, p, m, (1 + r2).toNat, _, G, g34.sub, by show [V.ref p, V.int m, V.int (1 + r2), V.bl false] = _; rw [← ev], hG, P4, by omega, by omega, by omega, by omega, fun G5 H5 v5 b5 g5 P5 d5 S5 => ?_⟩
      have g45 := g34.via g5 one_same
      refine ⟨sh, b5, R, m, M, G5, _, _, g45.sub, rfl, Da.mono g45.data _ _ ds, d5, S, S5, r0, r4, hM, hm, fun G6 H6 v6 s6 g6 d6 S6 => ?_⟩
      exact q G6 H6 v6 s6 (g45.via g6 fun _ z => z.elim) ((P5.same g6.sm).mono (by omega)) d6 S6
    · -- a row put
      refine ⟨_, rfl, _, rfl, p, R, _, G, g34.sub, rfl, hG, P4, by omega, nR, by omega, fun H5 r5 r50 r5R g5 P5 => ?_⟩
      have g45 := g34.via g5 one_same
      obtain ⟨pl, rfl⟩ : ∃ pl : Nat, r5 = pl := ⟨r5.toNat, by omega⟩
      have hpl : pl < R := by omega
      obtain ⟨l, el, _, ml⟩ := S.row hpl
      obtain ⟨x5, ex5, dx5⟩ := hz.mapAt el
      obtain ⟨u, rfl, hu⟩ := da_is.mp dx5
      have ll := mw l ml
      have snn := S.nn l ml
      refine ⟨_, rfl, _, rfl, _, rfl, a, zs, rfl, SqL.of (g45.sub _ _ ha), fun p1 np1 => ?_⟩
      rw [cut_to]
      generalize eH6 : upd _ p1 _ = H6
      obtain ⟨s6, hp1⟩ := new2 np1 eH6
      have g6 := g45.more s6
      have P6 := P5.same s6
      refine ⟨_, rfl, _, rfl, a, zs, pl, .ref u, rfl, rfl, SqL.of (g6.sub _ _ ha), atI_nat ex5, u, rfl, ⟨_, SqL.of (g6.sub _ _ hu)⟩, fun D hD => ?_⟩
      refine lc_data (walk_list (K := K) (a := u) (xs := l.map V.int)) PyData.int (fun j z => ∃ y, l[j]? = some y ∧ z = 2 * y + 1) (S := No) (G0 := G) (H0 := H6) (G1 := G) (H1 := H6) (fun _ _ => True) (Grow.refl g6.sub) hD (by rw [List.length_map]; omega)
        (fun G' H' s1 gr => SqL.of (gr.sub _ _ (s1 _ _ hu))) trivial (fun _ _ _ _ _ _ => trivial) ?_ ?_
      · rintro j x G7 _ H7 hj s7 g7 gD hD' _ ⟨rfl, hx7⟩ Post hk
        rw [List.getElem?_map] at hx7
        cases ey : l[j]? with
        | none => rw [ey] at hx7; cases hx7
        | some y =>
          rw [ey] at hx7
          cases hx7
          have y0 := snn y (List.mem_of_getElem? ey)
          have y1 := Bn.le_sum snn y (List.mem_of_getElem? ey)
          have y2 := S.le l ml
          have yb : y.natAbs < 2 ^ 101 := by
            have h2 := ipow_lt (show 100 < 101 by decide)
            exact natAbs_lt_of y0 (by omega)
          refine ⟨rfl, ?_⟩
          refine ⟨_, rfl, _, _, rfl, rfl, wide_mul (a := 2) (by decide) yb (by decide) (by decide) (by decide), _, _, rfl, rfl, ?_⟩
          exact hk _ H7 G7 _ (Grow.refl g7.sub) rfl ⟨y, ey, rfl⟩ (da_int.mpr rfl) trivial
      intro G7 H7 l7 s7 g7 ll7 hP7 d7 _
      rw [List.length_map] at ll7
      have e7 : l7 = l.map fun x => 2 * x + 1 := by
        refine List.ext_getElem? fun j => ?_
        rw [List.getElem?_map]
        cases z : l7[j]? with
        | none =>
          have : l[j]? = none := by
            rw [List.getElem?_eq_none_iff] at z ⊢
            omega
          rw [this]
          rfl
        | some u =>
          obtain ⟨y, h1, h2⟩ := hP7 j u z
          rw [h1, h2]
          rfl
      rw [e7] at d7
      have g67 := g6.via g7 fun _ z => z.elim
      have hp17 := g7.sm _ _ hp1
      have P7 := P6.same g7.sm
      refine ⟨sz 1, fun p2 np2 => ?_⟩
      generalize eH8 : upd _ p2 _ = H8
      obtain ⟨s8, hp2⟩ := new2 np2 eH8
      have g8 := g67.more s8
      have lt1 : (zs.take pl).length ≤ 4 := by rw [List.length_take]; omega
      have lt2 : (zs.drop (pl + 1)).length ≤ 4 := by rw [List.length_drop]; omega
      refine cat_of (s8 _ _ hp17) hp2 (by show _ + 1 ≤ _; omega) fun p3 H9 s9 np3 hp3 => ?_
      have g9 := g8.more s9
      refine ⟨_, rfl, _, rfl, _, _, rfl, rfl, _, rfl, a, zs, rfl, SqL.of (g9.sub _ _ (g67.data _ _ ha)), fun p4 np4 => ?_⟩
      have ep : ((pl : Nat) : Int) + 1 = ((pl + 1 : Nat) : Int) := by omega
      rw [ep, cut_from]
      generalize eH10 : upd _ p4 _ = H10
      obtain ⟨s10, hp4⟩ := new2 np4 eH10
      refine cat_of (s10 _ _ hp3) hp4 (by rw [List.length_append, List.length_singleton]; omega) fun p5 H11 s11 np5 hp5 => ?_
      have g11 := (g9.more s10).more s11
      have gF := g8
      have np8 : H8 p5 = none := (s9.trans s10).free np5
      obtain ⟨G12, g12', s12, hp12, _⟩ := g11.pubX hp5 (g8.free np8) (g8.freeG np8)
      have d7' := Da.mono s12 _ _ d7
      have P11 := (((P7.same s8).same s9).same s10).same s11
      refine q G12 _ _ _ g12' (P11.mono (by omega)) (da_lst.mpr ⟨p5, _, rfl, hp12, ?_⟩) (sht_put S M27 el)
      rw [List.map_append, List.map_append, List.map_take, List.map_drop]
      have dz := DaAll.mono (g67.data.trans s12) _ _ hz
      exact DaAll.append (DaAll.append (DaAll.take _ dz) (daAll_cons.mpr ⟨_, _, rfl, d7', daAll_nil.mpr rfl⟩)) (DaAll.drop _ dz)
end
end Bw
set_option Elab.async false
set_option linter.all false
set_option maxRecDepth 100000
set_option maxHeartbeats 8000000
set_option exponentiation.threshold 10000
/-! BwP: the due answer. -/
namespace Bw
open PySem L2
section
variable {P : Program} {w : World} {K : PySem.W.Frag} {mg : Str → Option Value} {base : Heap} {f : Addr} {fd : FuncData}
-- _law_due (statement 49)
abbrev s__law_due : Stmt := topS 49
abbrev n__law_due : List Str := ["_law_sheets", "_law_more", "_law_due_here", "_law_place", "_law_one", "_law_two", "_law_other"]
theorem sc__law_due : FnScope n__law_due ["_law_sheets"] (defScope s__law_due) := ⟨rfl, rfl, rfl, by decide +kernel, rfl, by decide +kernel, by decide +kernel⟩
-- slots: 0 _law_sheets*, 1 _law_more*, 2 _law_due_here, 3 _law_place*, 4 _law_one, 5 _law_two, 6 _law_other
def spDue : Sp := fun vs H Q _ => ∃ (L : Addr) (xs : List V) (ss : List (List (List Int))) (R : Nat) (M : Int) (G : Hp), Same G H ∧ vs = [.ref L] ∧ H L = some (.lst xs) ∧ DaAll G (ss.map dIss) xs ∧ (∀ s ∈ ss, Bn.Sht R M s) ∧ 0 < R ∧ Bn.Fit R M ∧ ss.length ≤ 6 ∧
  ∀ G' H' p, Grow No G H G' H' → H p = none → G' p = none → H' p = some (.lst (natsV (Bn.bestL ss.length (tlB ss)))) → Q (.ref p) H'
theorem ok__law_due (D : DefAt K mg "_law_due" s__law_due ["_law_sheets"] f fd) (B : Blt mg) (G__law_tells : Kept P w K mg base 11 "_law_tells" ["_law_sheet_here", "_law_twin"] spTl) : Kept P w K mg base 12 "_law_due" ["_law_sheets"] spDue := by
  refine D.kept (D.F.ok sc__law_due (fun vs H Q E h => ?_) (fun cdv A outer s H vs Q E hr h => ?_))
  · obtain ⟨L, xs, ss, R, M, G, _, rfl, _⟩ := h
    rfl
  · obtain ⟨L, xs, ss, R, M, G, sG, rfl, hL, hx, hS, r0, F, n6, post⟩ := h
    have len := hx.mapLen
    have big : sizeLine = 16777216 := sizeLine_eq
    obtain ⟨n, hn⟩ : ∃ n, ss.length = n := ⟨_, rfl⟩
    rw [hn] at n6 post
    have sat : ∀ i x, xs[i]? = some x → ∃ s, ss[i]? = some s ∧ Bn.Sht R M s ∧ Da G (dIss s) x := fun i x hx' => by
      obtain ⟨s, h1, h2⟩ := hx.mapGet hx'
      exact ⟨s, h1, hS s (List.mem_of_getElem? h1), h2⟩
    refine ⟨_, (pss_cons (ps_asg (pe_tup (pa_cons (pe_lc (own := [("_law_one", 4)]) (g := gName 4) (tt := tYes) rfl sc__law_due.nd (pi_listK (K := K) rfl (pv 0)) (blkOk_by (own := [("_law_one", 4)]) (N := n__law_due) (sc := defScope s__law_due) (by decide +kernel)) (fun _ _ _ _ _ => (pg_name (i := 4) sc__law_due.nd rfl (Or.inr rfl))) (fun _ _ _ _ _ => pts_nil) (fun _ _ _ _ _ => (pe_lc (own := [("_law_two", 5)]) (g := gName 5) (tt := tYes) rfl sc__law_due.nd (pi_listK (K := K) rfl (pv 0)) (blkOk_by (by kernel_rfl)) (fun _ _ _ _ _ => (pg_name (i := 5) sc__law_due.nd rfl (Or.inl rfl))) (fun _ _ _ _ _ => pts_nil) (fun _ _ _ _ _ => (pe_kept G__law_tells (hr.mono (by decide)) (by rfl) (pa_cons (pv 4) (pa_cons (pv 5) pa_nil))))))) (pa_cons (pe_lst pa_nil) pa_nil))) (pg_tupK (K := K) rfl rfl (pgs_cons (pg_name (i := 1) sc__law_due.nd rfl (Or.inr rfl)) (pgs_cons (pg_name (i := 2) sc__law_due.nd rfl (Or.inl rfl)) pgs_nil))))
        (pss_cons (ps_for PassesOwn.never rfl (pi_range1 (by rfl) B.range_ (pa_cons (pe_callB (call_lenK (K := K) rfl) (by rfl) B.len_ (by decide +kernel) (pa_cons (pv 0) pa_nil)) pa_nil)) (pg_name (i := 3) sc__law_due.nd rfl (Or.inr rfl))
        (pss_one (ps_if (pt_cmpR (op_notInK (K := K) rfl) pe_bl (pe_lc (own := [("_law_other", 6)]) (g := gName 6) (tt := tYes) rfl sc__law_due.nd (pi_range1 (by rfl) B.range_ (pa_cons (pe_callB (call_lenK (K := K) rfl) (by rfl) B.len_ (by decide +kernel) (pa_cons (pv 0) pa_nil)) pa_nil)) (blkOk_by (own := [("_law_other", 6)]) (N := n__law_due) (sc := defScope s__law_due) (by decide +kernel)) (fun _ _ _ _ _ => (pg_name (i := 6) sc__law_due.nd rfl (Or.inl rfl))) (fun _ _ _ _ _ => pts_nil) (fun _ _ _ _ _ => (pe_and (pe_ix (ix_listK (K := K) rfl) (pe_ix (ix_listK (K := K) rfl) (pv 1) (pv 6) (fun _ _ => rfl)) (pv 3) (fun _ _ => rfl)) (pe_one (pe_not (pe_ix (ix_listK (K := K) rfl) (pe_ix (ix_listK (K := K) rfl) (pv 1) (pv 3) (fun _ _ => rfl)) (pv 6) (fun _ _ => rfl))))))) (by rfl))
          (pss_one (ps_expr (pe_bm PySem.F.plainAttrs_list PySem.F.slot_list_append PySem.F.type_list_append mt_append (pv 2) (pa_cons (pv 3) pa_nil))))
          pss_nil)))
        (pss_one (ps_ret (pv 2))))), ?_⟩
    -- more
    refine ⟨_, rfl, L, rfl, ⟨_, SqL.of hL⟩, fun aM nM => ?_⟩
    refine lc_data (walk_list (K := K) (a := L) (xs := xs)) dBs (fun i z => z = tab n fun j => tlB ss i j) (S := No) (G0 := G) (H0 := H) (G1 := G) (H1 := H) (fun _ _ => True) (Grow.refl sG) nM (by omega)
      (fun G' H' s1 gr => SqL.of (gr.sm _ _ hL)) trivial (fun _ _ _ _ _ _ => trivial) ?_ ?_
    · rintro i x G2 _ H2 hi s2 g2 gD hD' _ ⟨rfl, hx'⟩ Post hk
      obtain ⟨si, h2, h3, h4⟩ := sat i x hx'
      refine ⟨rfl, ?_⟩
      refine ⟨_, rfl, L, rfl, ⟨_, SqL.of (g2.sm _ _ hL)⟩, fun D2 hD2 => ?_⟩
      refine lc_data (walk_list (K := K) (a := L) (xs := xs)) PyData.bool (fun j z => z = tlB ss i j) (S := No) (G0 := G2) (H0 := H2) (G1 := G2) (H1 := H2) (fun _ _ => True) (Grow.refl g2.sub) hD2 (by omega)
        (fun G' H' s3 gr => SqL.of (gr.sm _ _ (g2.sm _ _ hL))) trivial (fun _ _ _ _ _ _ => trivial) ?_ ?_
      · rintro j u G3 _ H3 hj s3 g3 gD2 hD2' _ ⟨rfl, hu⟩ Post2 hk2
        obtain ⟨sj, k2, k3, k4⟩ := sat j u hu
        refine ⟨rfl, ?_⟩
        refine ⟨_, rfl, _, rfl, si, sj, R, M, G3, _, _, g3.sub, rfl, Da.mono (s2.trans s3) _ _ h4, Da.mono (s2.trans s3) _ _ k4, h3, k3, r0, F, fun G4 H4 b g4 hb => ?_⟩
        exact hk2 _ H4 G4 b g4.no (g4.sm.at hD2') (tlB_of h2 k2 hb) (da_bl.mpr rfl) trivial
      · intro G3 H3 l3 s3 g3 ll3 hP3 d3 _
        have e3 : l3 = tab n fun j => tlB ss i j := list_of (by omega) hP3
        rw [e3] at d3
        exact hk _ H3 G3 _ g3.no (g3.sm.at hD') rfl d3 trivial
    intro G2 H2 l2 s2 g2 ll2 hP2 d2 _
    have e2 : l2 = tab n fun i => tab n fun j => tlB ss i j := list_of (by omega) hP2
    rw [e2] at d2
    obtain ⟨_, ms, e, hM, hm⟩ := da_lst.mp d2
    cases e
    have mrow : ∀ i, i < n → ∃ c, ms[i]? = some (.ref c) ∧ G2 c = some (.lst ((tab n fun j => tlB ss i j).map V.bl)) := fun i hi => by
      obtain ⟨x, h1, h2⟩ := hm.mapAt (tab_get (f := fun i => tab n fun j => tlB ss i j) hi)
      obtain ⟨c, rfl, hc⟩ := da_bs.mp h2
      exact ⟨c, h1, hc⟩
    have mat : ∀ i j, j < n → ((tab n fun j => tlB ss i j).map V.bl)[j]? = some (.bl (tlB ss i j)) := fun i j hj => by
      rw [List.getElem?_map, tab_get hj]
      rfl
    -- due
    refine ⟨Nat.zero_le _, fun aO nO => ?_⟩
    generalize eH3 : upd _ aO _ = H3
    obtain ⟨s3, hO3⟩ := new2 nO eH3
    refine ⟨sz 2, fun t0 nt0 => ?_⟩
    generalize eH3' : upd _ t0 _ = H3'
    obtain ⟨s3', ht0⟩ := new2 nt0 eH3'
    have g3 := (g2.more s3).more s3'
    have OG : G2 aO = none := g2.freeG nO
    have OH : H aO = none := g2.free nO
    have hO3' := s3' _ _ hO3
    have hL3 := g3.sm _ _ hL
    refine ⟨t0, _, rfl, SqT.of ht0, rfl, _, _, rfl, _, _, rfl, rfl, ?_⟩
    refine ⟨_, rfl, L, _, rfl, .inl (SqL.of hL3), _, rfl, by omega, by omega, ?_⟩
    rw [show (((xs.length : Nat) : Int)).toNat = n by omega]
    refine for_it (walk_range (lo := 0) (n := n)) (fun i σ H' => ∃ (G' : Hp) (z3 : Option V), σ = [some (.ref L), some (.ref aM), some (.ref aO), z3, none, none, none] ∧ Grow No G H G' H' ∧ Same G2 G' ∧ G' aO = none ∧ H' aO = some (.lst (natsV (bestTo n (tlB ss) i))))
      ⟨G2, none, rfl, g3, .refl _, OG, hO3'⟩ (fun _ _ _ _ _ => trivial) ?_ ?_
    · rintro i x σ _ H4 hi ⟨G4, z5, rfl, g4, s4, O4, hO4⟩ ⟨rfl, rfl⟩
      show gName 3 (V.int (0 + (i : Nat))) _ _ _
      rw [Int.zero_add]
      refine ⟨_, rfl, L, _, rfl, .inl (SqL.of (g4.sm _ _ hL)), _, rfl, by omega, by omega, fun D hD => ?_⟩
      rw [show (((xs.length : Nat) : Int)).toNat = n by omega]
      refine lc_data (walk_range (lo := 0) (n := n)) PyData.bool (fun o z => z = (tlB ss o i && !tlB ss i o)) (S := No) (G0 := G4) (H0 := H4) (G1 := G4) (H1 := H4) (fun _ _ => True) (Grow.refl g4.sub) hD (by omega)
        (fun G' H' s1 gr => trivial) trivial (fun _ _ _ _ _ _ => trivial) ?_ ?_
      · rintro o u G5 _ H5 ho s5 g5 gD hD' _ ⟨rfl, rfl⟩ Post hk
        obtain ⟨co, eo, hco⟩ := mrow o ho
        obtain ⟨ci, ei, hci⟩ := mrow i hi
        have hM5 : SqL K H5 aM ms := SqL.of (g5.sub _ _ (s5 _ _ (s4 _ _ hM)))
        refine ⟨rfl, ?_⟩
        refine ⟨_, rfl, _, rfl, aM, ms, _, _, rfl, rfl, hM5, by rw [Int.zero_add]; exact atI_nat eo, _, rfl, co, _, _, _, rfl, rfl, SqL.of (g5.sub _ _ (s5 _ _ (s4 _ _ hco))), atI_nat (mat o i hi), _, rfl, ite_b (fun e => ?_) fun e => ?_⟩
        · refine ⟨_, rfl, _, rfl, aM, ms, _, _, rfl, rfl, hM5, atI_nat ei, _, rfl, ci, _, _, _, rfl, rfl, SqL.of (g5.sub _ _ (s5 _ _ (s4 _ _ hci))), by rw [Int.zero_add]; exact atI_nat (mat i o ho), _, rfl, ?_⟩
          exact hk _ H5 G5 _ (Grow.refl g5.sub) rfl (by rw [e]; rfl) (da_bl.mpr rfl) trivial
        · exact hk _ H5 G5 _ (Grow.refl g5.sub) rfl (by rw [e]; rfl) (da_bl.mpr rfl) trivial
      · intro G5 H5 l5 s5 g5 ll5 hP5 d5 _
        have e5 : l5 = tab n fun o => (tlB ss o i && !tlB ss i o) := list_of (by omega) hP5
        rw [e5] at d5
        obtain ⟨_, e, hD5⟩ := da_bs.mp d5
        cases e
        have g45 := g4.trans g5
        have O5 := g5.new aO O4 (by rw [hO4]; simp)
        have hO5 := g5.sm _ _ hO4
        refine ⟨D, _, rfl, .inl (SqL.of (g5.sub _ _ hD5)), rfl, flat_bls _, _, rfl, ?_⟩
        rw [show (if true = true then !inV (V.bl true) ((tab n fun o => (tlB ss o i && !tlB ss i o)).map V.bl) else inV (V.bl true) ((tab n fun o => (tlB ss o i && !tlB ss i o)).map V.bl)) = Bn.isBest n (tlB ss) i by
          rw [if_pos rfl, notIn_true, isBest_tab]]
        refine ite_b (fun eb => ?_) fun eb => ?_
        · have bl := bestTo_len (n := n) (T := tlB ss) (i := i)
          refine ⟨_, rfl, .inl ⟨rfl, _, SqL.of hO5⟩, _, rfl, aO, _, _, rfl, rfl, hO5, by rw [List.length_map]; omega, ?_⟩
          refine ⟨G5, _, rfl, g45.put O5 (.inl OH), s4.trans s5, O5, ?_⟩
          rw [upd_same, bestTo_succ, if_pos eb]
          unfold natsV
          rw [List.map_append]
          rfl
        · refine ⟨G5, _, rfl, g45, s4.trans s5, O5, ?_⟩
          rw [bestTo_succ, eb, if_neg (by decide)]
          exact hO5
    · rintro σ H4 ⟨G4, z5, rfl, g4, s4, O4, hO4⟩
      exact ⟨_, rfl, post _ _ _ g4 OH O4 hO4⟩
end
end Bw
set_option Elab.async false
set_option linter.all false
set_option maxRecDepth 100000
set_option maxHeartbeats 8000000
set_option exponentiation.threshold 10000
/-! BwQ: plain facts for the law: the written pair of sheets, the preorder, lists of few numbers, sorted lists. -/
namespace Bw
open PySem L2
abbrev shA : List (List Int) := [[1, 1, 0], [0, 1, 1], [1, 0, 1]]
abbrev shB : List (List Int) := [[1, 1], [0, 1], [0, 1]]
theorem shA_ok : Bn.Sht 3 27 shA := ⟨rfl, ⟨3, by decide, by decide, by decide⟩, by decide, by decide, by decide⟩
theorem shB_ok : Bn.Sht 3 27 shB := ⟨rfl, ⟨2, by decide, by decide, by decide⟩, by decide, by decide, by decide⟩
theorem not_AB : ¬ Bn.Tells shA shB := by
  rintro ⟨be, x, b0, x0, xs, xe⟩
  have h1 := xe 1 0 (by decide) (by decide)
  have h2 := xe 2 0 (by decide) (by decide)
  have h0 := xe 0 0 (by decide) (by decide)
  have e1 : (1 : Int) * (0 + 0 * x 0 0 + 1 * x 1 0 + 1 * x 2 0) = be * (2 * 0) := h1
  have e2 : (1 : Int) * (0 + 1 * x 0 0 + 0 * x 1 0 + 1 * x 2 0) = be * (2 * 0) := h2
  have e0 : (2 : Int) * (0 + 1 * x 0 0 + 1 * x 1 0 + 0 * x 2 0) = be * (2 * 1) := h0
  have p0 := x0 0 0 (by decide) (by decide)
  have p1 := x0 1 0 (by decide) (by decide)
  have p2 := x0 2 0 (by decide) (by decide)
  omega
theorem not_BA : ¬ Bn.Tells shB shA := by
  rintro ⟨be, x, b0, x0, xs, xe⟩
  have h1 := xe 1 0 (by decide) (by decide)
  have h2 := xe 2 0 (by decide) (by decide)
  have e1 : (2 : Int) * (0 + 0 * x 0 0 + 1 * x 1 0) = be * (1 * 0) := h1
  have e2 : (2 : Int) * (0 + 0 * x 0 0 + 1 * x 1 0) = be * (1 * 1) := h2
  omega
theorem tells_self (s : List (List Int)) : Bn.Tells s s := Bn.Tl.refl _ _ _ _
theorem best_pair {ss : List (List (List Int))} (h : ss = [shA, shB] ∨ ss = [shB, shA]) : Bn.bestL ss.length (tlB ss) = [0, 1] := by
  have c : Bn.bestL 2 (tlB ss) = Bn.bestL 2 (fun i j => decide (i = j)) := Bn.bestL_congr fun i j hi hj => by
    have hi' : i = 0 ∨ i = 1 := by omega
    have hj' : j = 0 ∨ j = 1 := by omega
    rw [Bool.eq_iff_iff, tlB_true, decide_eq_true_iff]
    rcases h with rfl | rfl <;> rcases hi' with rfl | rfl <;> rcases hj' with rfl | rfl
    · exact ⟨fun _ => rfl, fun _ => tells_self _⟩
    · exact ⟨fun z => absurd z not_AB, fun z => by cases z⟩
    · exact ⟨fun z => absurd z not_BA, fun z => by cases z⟩
    · exact ⟨fun _ => rfl, fun _ => tells_self _⟩
    · exact ⟨fun _ => rfl, fun _ => tells_self _⟩
    · exact ⟨fun z => absurd z not_BA, fun z => by cases z⟩
    · exact ⟨fun z => absurd z not_AB, fun z => by cases z⟩
    · exact ⟨fun _ => rfl, fun _ => tells_self _⟩
  have l : ss.length = 2 := by rcases h with rfl | rfl <;> rfl
  rw [l, c]
  decide
theorem tlB_pre {ss : List (List (List Int))} {R : Nat} {M : Int} (hS : ∀ s ∈ ss, Bn.Sht R M s) (r0 : 0 < R) : Bn.Pre ss.length (tlB ss) := by
  have g : ∀ i, i < ss.length → Bn.Sht R M (ss.getD i []) := fun i hi => by
    rw [List.getD_eq_getElem?_getD, List.getElem?_eq_getElem hi]
    exact hS _ (List.getElem_mem _)
  refine ⟨fun i hi => tlB_true.mpr (tells_self _), fun i j l hi hj hl h1 h2 => ?_⟩
  rw [tlB_true] at h1 h2 ⊢
  unfold Bn.Tells at h1 h2 ⊢
  rw [(g i hi).len] at h1 ⊢
  rw [(g j hj).len] at h2
  exact Bn.Tl.trans ((g j hj).nws r0) h1 h2
/-- numbers as ints -/
abbrev natsI (l : List Nat) : List Int := l.map fun (i : Nat) => (i : Int)
theorem natsV_eq (l : List Nat) : natsV l = (natsI l).map V.int := by
  unfold natsV natsI
  rw [List.map_map]
  rfl
def subs : List Nat → List (List Nat)
  | [] => [[]]
  | x :: l => subs l ++ (subs l).map (x :: ·)
theorem mem_subs : ∀ {l k : List Nat}, k.Sublist l → k ∈ subs l
  | [], k, h => by
    rw [List.sublist_nil.mp h]
    exact List.mem_singleton.mpr rfl
  | x :: l, k, h => by
    cases h with
    | cons _ h => exact List.mem_append_left _ (mem_subs h)
    | cons_cons _ h => exact List.mem_append_right _ (List.mem_map.mpr ⟨_, mem_subs h, rfl⟩)
def goodR (d : PyData) : Bool := d.showable && !d.hasDict && decide (d.depth ≤ 50) && decide (d.shown.length ≤ 1000)
theorem goodR_subs : ∀ k ∈ subs (List.range 6), goodR (dIs (natsI k)) = true := by decide +kernel
theorem goodR_best {n : Nat} {T : Nat → Nat → Bool} (h : n ≤ 6) : goodR (dIs (natsI (Bn.bestL n T))) = true := by
  refine goodR_subs _ (mem_subs ?_)
  exact List.Sublist.trans List.filter_sublist (List.range_sublist.mpr h)
theorem goodR_parts {d : PyData} (h : goodR d = true) : d.showable = true ∧ d.hasDict = false ∧ d.depth ≤ 50 ∧ d.shown.length ≤ sizeLine := by
  unfold goodR at h
  simp only [Bool.and_eq_true, Bool.not_eq_true', decide_eq_true_eq] at h
  obtain ⟨⟨⟨h1, h2⟩, h3⟩, h4⟩ := h
  exact ⟨h1, h2, h3, sz _ h4⟩
theorem shown01 : (dIs (natsI [0, 1])).shown = Str.ofString "[0, 1]" := by decide +kernel
theorem sorted_uniq : ∀ {l k : List Int}, l.Perm k → l.Pairwise (· ≤ ·) → k.Pairwise (· ≤ ·) → l = k
  | [], k, h, _, _ => (List.Perm.nil_eq h)
  | x :: l, [], h, _, _ => by cases h.symm.nil_eq
  | x :: l, y :: k, h, h1, h2 => by
    obtain ⟨a1, a2⟩ := List.pairwise_cons.mp h1
    obtain ⟨b1, b2⟩ := List.pairwise_cons.mp h2
    have e : x = y := by
      have m1 : x ∈ y :: k := h.subset (List.mem_cons_self ..)
      have m2 : y ∈ x :: l := h.symm.subset (List.mem_cons_self ..)
      rcases List.mem_cons.mp m1 with q | q
      · exact q
      · rcases List.mem_cons.mp m2 with q2 | q2
        · exact q2.symm
        · have := a1 y q2
          have := b1 x q
          omega
    subst e
    rw [sorted_uniq (List.Perm.cons_inv h) a2 b2]
/-- the best of the reversed list, told by the best of the list -/
theorem best_rev {ss : List (List (List Int))} {n : Nat} (hn : ss.length = n) : Bn.bestL n (tlB ss.reverse) = ((Bn.bestL n (tlB ss)).map fun p => n - 1 - p).reverse := by
  rw [← Bn.bestL_rev]
  refine Bn.bestL_congr fun i j hi hj => ?_
  have g : ∀ i, i < n → ss.reverse.getD i [] = ss.getD (n - 1 - i) [] := fun i hi => by
    rw [List.getD_eq_getElem?_getD, List.getD_eq_getElem?_getD, List.getElem?_reverse (by omega), hn]
  unfold tlB
  rw [g i hi, g j hj]
theorem best_rev_sorted {ss : List (List (List Int))} {n : Nat} (hn : ss.length = n) {k : List Int} (h1 : k.Perm ((natsI (Bn.bestL n (tlB ss))).map fun p => (n : Int) - 1 - p)) (h2 : k.Pairwise (· ≤ ·)) : k = natsI (Bn.bestL n (tlB ss.reverse)) := by
  refine sorted_uniq ?_ h2 ?_
  · rw [best_rev hn]
    refine h1.trans ?_
    have e : (natsI (Bn.bestL n (tlB ss))).map (fun p => (n : Int) - 1 - p) = natsI ((Bn.bestL n (tlB ss)).map fun p => n - 1 - p) := by
      unfold natsI
      rw [List.map_map, List.map_map]
      refine List.map_congr_left fun p hp => ?_
      have : p < n := List.mem_range.mp (List.mem_filter.mp hp).1
      show (n : Int) - 1 - (p : Int) = ((n - 1 - p : Nat) : Int)
      omega
    rw [e]
    unfold natsI
    rw [List.map_reverse]
    exact (List.reverse_perm _).symm
  · have u := Bn.bestL_up (N := n) (T := tlB ss.reverse)
    unfold natsI
    rw [List.pairwise_map]
    exact u.imp fun h => by omega
end Bw
set_option Elab.async false
set_option linter.all false
set_option maxRecDepth 100000
set_option maxHeartbeats 16000000
set_option exponentiation.threshold 10000
/-! BwR: the law. -/
namespace Bw
open PySem L2
theorem nx_mk {X : L2.St → Hp → Prop} {r : VK} {c b : L2.St → Hp → Prop} {σ : L2.St} {H : Hp} (h : X σ H) : Ends.nx { nx := X, rt := r, ct := c, bk := b } σ H := h
theorem rest_if {tt : TT} {ta tb u : TS} {D : Ends} {σ : L2.St} {H : Hp} (I : L2.St → Hp → Prop) (h2 : ∀ σ H, I σ H → u D σ H) (h1 : (∀ σ H, I σ H → u D σ H) → tSeq (tIfS tt ta tb) u D σ H) : tSeq (tIfS tt ta tb) u D σ H := h1 h2
theorem rest_for {ti : TI} {g : TG} {tb u : TS} {D : Ends} {σ : L2.St} {H : Hp} (I : L2.St → Hp → Prop) (h2 : ∀ σ H, I σ H → u D σ H) (h1 : (∀ σ H, I σ H → u D σ H) → tSeq (tFor ti g tb) u D σ H) : tSeq (tFor ti g tb) u D σ H := h1 h2
theorem ifE_key {c : Bool} {x y : V} {σ : L2.St} {H : Hp} {Q : VK} (h : ∀ z, (c = true ∧ z = x ∨ c = false ∧ z = y) → Q z H) : if c = true then (tC x) σ H Q else (tC y) σ H Q :=
  ite_b (fun e => h x (.inl ⟨e, rfl⟩)) fun e => h y (.inr ⟨e, rfl⟩)
theorem natsV_flat : ∀ l : List Nat, (natsV l).all flatV = true
  | [] => rfl
  | _ :: l => natsV_flat l
/-- the sheets that are drawn, at L: how wide they are -/
structure Drawn (p : Addr) (G G' H H' : Hp) (n R : Nat) (M : Int) (L : Addr) (ss : List (List (List Int))) : Prop where
  gr : Grow No G H G' H'
  pu : Pu n H' p
  gp : G' p = none
  gl : G' L = none
  hl : H L = none
  lp : L ≠ p
  ls : ∃ xs, H' L = some (.lst xs) ∧ DaAll G' (ss.map dIss) xs
  sh : ∀ s ∈ ss, Bn.Sht R M s
theorem Drawn.more {p : Addr} {G G' H H' H2 : Hp} {n m R : Nat} {M : Int} {L : Addr} {ss : List (List (List Int))} (d : Drawn p G G' H H' n R M L ss) (g : Grow (One p) G' H' G' H2) (h0 : H p = none) (P : Pu m H2 p) : Drawn p G G' H H2 m R M L ss := by
  obtain ⟨xs, h1, h2⟩ := d.ls
  exact ⟨d.gr.via g (fun q e => .inl (by rw [e]; exact h0)), P, d.gp, d.gl, d.hl, d.lp, ⟨xs, g.one d.lp h1, h2⟩, d.sh⟩
theorem Drawn.mono {p : Addr} {G G' H H' : Hp} {n m R : Nat} {M : Int} {L : Addr} {ss : List (List (List Int))} (d : Drawn p G G' H H' n R M L ss) (h : n ≤ m) : Drawn p G G' H H' m R M L ss := ⟨d.gr, d.pu.mono h, d.gp, d.gl, d.hl, d.lp, d.ls, d.sh⟩
theorem Grow.lay_lst {S : Addr → Prop} {G H G1 H1 : Hp} {p : Addr} {ds : List PyData} {xs : List V} (g : Grow S G H G1 H1) (hd : DaAll G1 ds xs) (np : H1 p = none) : ∃ G2, Grow S G H G2 (upd H1 p (.lst xs)) ∧ Same G1 G2 ∧ Da G2 (.list ds) (.ref p) :=
  ⟨_, g.lay np, same_updG (g.freeG np), da_lst.mpr ⟨p, xs, rfl, upd_same, DaAll.mono (same_updG (g.freeG np)) _ _ hd⟩⟩
theorem Shts.rev {R : Nat} {M : Int} {ss : List (List (List Int))} {ts : List (List (List Fr2))} (h : Shts R M ss ts) : Shts R M ss.reverse ts.reverse := by
  refine ⟨by rw [List.length_reverse, List.length_reverse, h.len], fun i t ht => ?_, fun s hs => h.sh s (List.mem_reverse.mp hs)⟩
  have hi : i < ts.length := by
    have := (List.getElem?_eq_some_iff.mp ht).1
    rw [List.length_reverse] at this
    exact this
  rw [List.getElem?_reverse hi] at ht
  obtain ⟨s, h1, h2⟩ := h.ok _ t ht
  exact ⟨s, by rw [List.getElem?_reverse (by rw [← h.len]; exact hi), ← h.len]; exact h1, h2⟩
theorem dp_nats {K : PySem.W.Frag} {H : Hp} {a : Addr} {l : List Nat} (h : H a = some (.lst (natsV l))) : Dp K H (.ref a) (dIs (natsI l)) := by
  rw [natsV_eq] at h
  exact .lst (SqL.of h) (DaAll.dp _ _ (daAll_ints.mpr rfl))
theorem str_same {x : Str} : (!decide (V.str x = V.str x)) = false := by
  rw [decide_eq_true rfl]
  rfl
section
variable {P : Program} {w : World} {K : PySem.W.Frag} {mg : Str → Option Value} {base : Heap} {f : Addr} {fd : FuncData}
-- law (statement 50)
abbrev s_law : Stmt := topS 50
abbrev n_law : List Str := ["_law_script", "_law_purse_here", "_law_rows", "_law_sheets", "_law_two", "_law_turn", "_law_due_here", "_law_shown_here", "_law_kept", "_law_found", "_law_place", "_law_sheet_here", "_law_best"]
theorem sc_law : FnScope n_law ["_law_script"] (defScope s_law) := ⟨rfl, rfl, rfl, by decide +kernel, rfl, by decide +kernel, by decide +kernel⟩
-- slots: 0 _law_script, 1 _law_purse_here*, 2 _law_rows, 3 _law_sheets, 4 _law_two, 5 _law_turn, 6 _law_due_here, 7 _law_shown_here*, 8 _law_kept, 9 _law_found, 10 _law_place*, 11 _law_sheet_here, 12 _law_best
theorem law_body (B : Blt mg) (G__law_purse : Kept P w K mg base 1 "_law_purse" ["_law_script", "_law_k"] (spPurse K)) (G__law_pull : Kept P w K mg base 1 "_law_pull" ["_law_purse_here", "_law_many"] spPull)
    (G__law_shown : Kept P w K mg base 2 "_law_shown" ["_law_purse_here", "_law_sheet_here"] spShown) (G_best_news : Kept P w K mg base 9 "best_news" ["tables"] spBest) (G_best_news_kw : KeptW P w K mg base 9 "best_news" "tables" spBest)
    (G__law_next : Kept P w K mg base 5 "_law_next" ["_law_purse_here", "_law_sheets", "_law_rows"] spNext) (G__law_due : Kept P w K mg base 12 "_law_due" ["_law_sheets"] spDue) (G_tells_more : Kept P w K mg base 10 "tells_more" ["news", "other"] spTells)
    {A : Around} {outer : List Env} {s : Shared} {H : Hp} {Q : VK} {E : XK} {cdv : Value} (hr : Room 12 (A.deeper (PyProof.Rows.envOfC "law" (defScope s_law) s.heap.objs.size f cdv))) (hg : A.guards = some []) {a : Addr} {ns : List Int} (hS : SqL K H a (ns.map V.int)) (q : ∀ H', Q (.bl true) H') :
    ∃ t, PSs (cxOf CX0 P w K mg base n_law "law" (defScope s_law) f cdv A outer s H E).nox (defBody s_law) t ∧ t { nx := fun _ H' => Q .non H', rt := Q } (start n_law [.ref a]) H := by
  have big : sizeLine = 16777216 := sizeLine_eq
  have nb : ∀ i : Int, 0 ≤ i → i ≤ 10 → i.natAbs < 2 ^ 1000 := fun i h0 h1 => by
    have : 10 < 2 ^ 1000 := by decide +kernel
    omega
  have r23 : (27 : Int) * 2 ^ 90 ≤ 2 ^ 100 := by decide +kernel
  have r24 : (27 : Int) * 2 ^ 30 ≤ 2 ^ 40 := by decide +kernel
  refine ⟨_, (pss_cons (ps_set (i := 1) sc_law.nd rfl (Or.inr rfl) (pe_kept G__law_purse (hr.mono (by decide)) (by rfl) (pa_cons (pv 0) (pa_cons pe_int pa_nil))))
        (pss_cons (ps_par (i := 2) (j := 3) rfl sc_law.nd rfl rfl (by decide) rfl rfl (pa_cons (pe_ix (ix_listK (K := K) rfl) (pe_lst (pa_cons pe_int (pa_cons pe_int (pa_cons pe_int (pa_cons pe_int (pa_cons pe_int pa_nil)))))) (pe_kept G__law_pull (hr.mono (by decide)) (by rfl) (pa_cons (pv 1) (pa_cons pe_int pa_nil))) (fun _ _ => rfl)) (pa_cons (pe_lst pa_nil) pa_nil)) (by rfl))
        (pss_cons (ps_if (PW.pt (pw_and (pt_cmp (pc_eqI (pv 2) pe_int)) (pw_and1 (pt_cmp (pc_eqI (pe_kept G__law_pull (hr.mono (by decide)) (by rfl) (pa_cons (pv 1) (pa_cons pe_int pa_nil))) pe_int)))))
        (pss_cons (ps_set (i := 3) sc_law.nd rfl (Or.inl rfl) (pe_lst (pa_cons (pe_lst (pa_cons (pe_lst (pa_cons pe_int (pa_cons pe_int (pa_cons pe_int pa_nil)))) (pa_cons (pe_lst (pa_cons pe_int (pa_cons pe_int (pa_cons pe_int pa_nil)))) (pa_cons (pe_lst (pa_cons pe_int (pa_cons pe_int (pa_cons pe_int pa_nil)))) pa_nil)))) (pa_cons (pe_lst (pa_cons (pe_lst (pa_cons pe_int (pa_cons pe_int pa_nil))) (pa_cons (pe_lst (pa_cons pe_int (pa_cons pe_int pa_nil))) (pa_cons (pe_lst (pa_cons pe_int (pa_cons pe_int pa_nil))) pa_nil)))) pa_nil))))
          (pss_cons (ps_setLc (i := 4) (own := [("_law_sheet_here", 11)]) (g := gName 11) (tt := tYes) rfl sc_law.nd rfl rfl (sw_true rfl rfl rfl (by decide +kernel)) (pi_listK (K := K) rfl (pv 3)) (blkOk_by (own := [("_law_sheet_here", 11)]) (N := n_law) (sc := defScope s_law) (by decide +kernel)) (fun _ _ _ _ _ => (pg_name (i := 11) sc_law.nd rfl (Or.inl rfl))) (fun _ _ _ _ _ => pts_nil) (fun _ _ _ _ _ => (pe_kept G__law_shown (hr.mono (by decide)) (by rfl) (pa_cons (pv 1) (pa_cons (pv 11) pa_nil)))))
          (pss_one (ps_if (PW.pt (pw_or (pt_cmpR op_ne (pe_callB (call_repr (K := K) rfl hg hr.units) (by rfl) B.repr_ (by decide +kernel) (pa_cons (pe_kept G_best_news (hr.mono (by decide)) (by rfl) (pa_cons (pv 4) pa_nil)) pa_nil)) pe_str (nomark _)) (pw_or1 (pt_cmpR op_ne (pe_callB (call_repr (K := K) rfl hg hr.units) (by rfl) B.repr_ (by decide +kernel) (pa_cons (pe_kept G_best_news (hr.mono (by decide)) (by rfl) (pa_cons (pe_revLK (K := K) rfl (pv 4)) pa_nil)) pa_nil)) pe_str (nomark _)))))
          (pss_one (ps_ret pe_bl))
          pss_nil))))
        pss_nil)
        (pss_cons (ps_for PassesOwn.never rfl (pi_range1 (by rfl) B.range_ (pa_cons (pe_op op_add pe_int (pe_kept G__law_pull (hr.mono (by decide)) (by rfl) (pa_cons (pv 1) (pa_cons (pe_ifExp (pt_cmp (pc_gt (pv 2) pe_int)) pe_int pe_int) pa_nil)))) pa_nil)) (pg_name (i := 5) sc_law.nd rfl (Or.inl rfl))
        (pss_one (ps_expr (pe_bm PySem.F.plainAttrs_list PySem.F.slot_list_append PySem.F.type_list_append mt_append (pv 3) (pa_cons (pe_kept G__law_next (hr.mono (by decide)) (by rfl) (pa_cons (pv 1) (pa_cons (pv 3) (pa_cons (pv 2) pa_nil)))) pa_nil)))))
        (pss_cons (ps_if (pt_cmp (pc_eqI (pe_kept G__law_pull (hr.mono (by decide)) (by rfl) (pa_cons (pv 1) (pa_cons pe_int pa_nil))) pe_int))
        (pss_one (ps_set (i := 3) sc_law.nd rfl (Or.inl rfl) (pe_revLK (K := K) rfl (pv 3))))
        pss_nil)
        (pss_cons (ps_asg (pe_tup (pa_cons (pe_kept G__law_due (hr.mono (by decide)) (by rfl) (pa_cons (pv 3) pa_nil)) (pa_cons (pe_lc (own := [("_law_sheet_here", 11)]) (g := gName 11) (tt := tYes) rfl sc_law.nd (pi_listK (K := K) rfl (pv 3)) (blkOk_by (own := [("_law_sheet_here", 11)]) (N := n_law) (sc := defScope s_law) (by decide +kernel)) (fun _ _ _ _ _ => (pg_name (i := 11) sc_law.nd rfl (Or.inl rfl))) (fun _ _ _ _ _ => pts_nil) (fun _ _ _ _ _ => (pe_kept G__law_shown (hr.mono (by decide)) (by rfl) (pa_cons (pv 1) (pa_cons (pv 11) pa_nil))))) pa_nil))) (pg_tupK (K := K) rfl rfl (pgs_cons (pg_name (i := 6) sc_law.nd rfl (Or.inl rfl)) (pgs_cons (pg_name (i := 7) sc_law.nd rfl (Or.inr rfl)) pgs_nil))))
        (pss_cons (ps_par (i := 8) (j := 9) rfl sc_law.nd rfl rfl (by decide) rfl rfl (pa_cons (pe_callTy (call_listK (K := K) rfl) (by rfl) B.list_ (by decide +kernel) (pa_cons (pv 7) pa_nil)) (pa_cons (pe_kept G_best_news (hr.mono (by decide)) (by rfl) (pa_cons (pv 7) pa_nil)) pa_nil)) (by rfl))
        (pss_cons (ps_if (PW.pt (pw_or (pt_cmpR op_ne (pe_callB (call_repr (K := K) rfl hg hr.units) (by rfl) B.repr_ (by decide +kernel) (pa_cons (pv 9) pa_nil)) (pe_callB (call_repr (K := K) rfl hg hr.units) (by rfl) B.repr_ (by decide +kernel) (pa_cons (pv 6) pa_nil)) (nomark _)) (pw_or (pt_cmpR (op_eqDK (K := K) rfl hr.units) (pv 6) (pe_lst pa_nil) (nomark _)) (pw_or1 (pt_cmpR (op_neDK (K := K) rfl hr.units) (pv 7) (pv 8) (nomark _))))))
        (pss_one (ps_ret pe_bl))
        pss_nil)
        (pss_cons (ps_expr (pe_bm PySem.F.plainAttrs_list PySem.F.slot_list_append PySem.F.type_list_append mt_append (pv 9) (pa_cons pe_str pa_nil)))
        (pss_cons (ps_if (pt_cmpR op_ne (pe_callB (call_repr (K := K) rfl hg hr.units) (by rfl) B.repr_ (by decide +kernel) (pa_cons (pe_keptK G_best_news_kw (hr.mono (by decide)) (by rfl) (pe_revLK (K := K) rfl (pv 7))) pa_nil)) (pe_callB (call_repr (K := K) rfl hg hr.units) (by rfl) B.repr_ (by decide +kernel) (pa_cons (pe_callB (cr_sortedK (K := K) rfl) (by rfl) B.sorted_ (by decide +kernel) (pa_cons (pe_lc (own := [("_law_place", 10)]) (g := gName 10) (tt := tYes) rfl sc_law.nd (pi_listK (K := K) rfl (pv 6)) (blkOk_by (own := [("_law_place", 10)]) (N := n_law) (sc := defScope s_law) (by decide +kernel)) (fun _ _ _ _ _ => (pg_name (i := 10) sc_law.nd rfl (Or.inl rfl))) (fun _ _ _ _ _ => pts_nil) (fun _ _ _ _ _ => (pe_op op_sub (pe_op op_sub (pe_callB (call_lenK (K := K) rfl) (by rfl) B.len_ (by decide +kernel) (pa_cons (pv 7) pa_nil)) pe_int) (pv 10)))) pa_nil)) pa_nil)) (nomark _))
        (pss_one (ps_ret pe_bl))
        pss_nil)
        (pss_cons (ps_for PassesOwn.never rfl (pi_range1 (by rfl) B.range_ (pa_cons (pe_callB (call_lenK (K := K) rfl) (by rfl) B.len_ (by decide +kernel) (pa_cons (pv 7) pa_nil)) pa_nil)) (pg_name (i := 10) sc_law.nd rfl (Or.inr rfl))
        (pss_one (ps_if (PW.pt (pw_and (pt_cmpR (op_notInK (K := K) rfl) (pv 10) (pv 6) (by rfl)) (pw_and1 (pt_cmpR (op_notInK (K := K) rfl) pe_bl (pe_lc (own := [("_law_best", 12)]) (g := gName 12) (tt := tYes) rfl sc_law.nd (pi_listK (K := K) rfl (pv 6)) (blkOk_by (own := [("_law_best", 12)]) (N := n_law) (sc := defScope s_law) (by decide +kernel)) (fun _ _ _ _ _ => (pg_name (i := 12) sc_law.nd rfl (Or.inl rfl))) (fun _ _ _ _ _ => pts_nil) (fun _ _ _ _ _ => (pe_kept G_tells_more (hr.mono (by decide)) (by rfl) (pa_cons (pe_ix (ix_listK (K := K) rfl) (pv 7) (pv 12) (fun _ _ => rfl)) (pa_cons (pe_ix (ix_listK (K := K) rfl) (pv 7) (pv 10) (fun _ _ => rfl)) pa_nil))))) (by rfl)))))
          (pss_one (ps_ret pe_bl))
          pss_nil)))
        (pss_one (ps_ret pe_bl))))))))))))), ?_⟩
  -- purse
  refine ⟨_, rfl, a, ns, rfl, hS, fun H1 p s1 np P1 => ?_⟩
  have sG : Same (fun _ => none) H := fun b o e => by cases e
  have g1 : Grow No (fun _ => none) H (fun _ => none) H1 := (Grow.refl sG).more s1
  -- rows, sheets
  refine ⟨sz 5, fun l nl => ?_⟩
  generalize eH2 : upd _ l _ = H2
  obtain ⟨s2, hl⟩ := new2 nl eH2
  have lp : l ≠ p := fun e => P1.ne (by rw [← e]; exact nl)
  have g2 := g1.more s2
  have P2 := P1.same s2
  refine ⟨_, rfl, p, 5, _, _, g2.sub, rfl, rfl, P2, by decide, nb 5 (by decide) (by decide), by omega, fun H3 r r0 r5 g3 P3 => ?_⟩
  have hl3 := g3.one lp hl
  have g13 : Grow No (fun _ => none) H (fun _ => none) H3 := g2.via g3 fun q e => .inl (by rw [e]; exact np)
  obtain ⟨R, hR, R1, R4⟩ : ∃ R : Nat, atI ([.int 2, .int 2, .int 1, .int 3, .int 4] : List V) r = some (.int R) ∧ 0 < R ∧ R ≤ 4 := by
    have h : r = 0 ∨ r = 1 ∨ r = 2 ∨ r = 3 ∨ r = 4 := by omega
    rcases h with rfl | rfl | rfl | rfl | rfl
    · exact ⟨2, rfl, by decide, by decide⟩
    · exact ⟨2, rfl, by decide, by decide⟩
    · exact ⟨1, rfl, by decide, by decide⟩
    · exact ⟨3, rfl, by decide, by decide⟩
    · exact ⟨4, rfl, by decide, by decide⟩
  refine ⟨l, _, r, _, rfl, rfl, SqL.of hl3, hR, ?_⟩
  refine ⟨Nat.zero_le _, fun L0 nL0 => ?_⟩
  generalize eH4 : upd _ L0 _ = H4
  obtain ⟨s4, hL0⟩ := new2 nL0 eH4
  have g4 := g13.more s4
  have P4 := P3.same s4
  refine ⟨_, _, rfl, ?_⟩
  -- the written pair
  refine nx_mk ?_
  refine rest_if (fun σ H' => ∃ (G' : Hp) (L : Addr) (ss : List (List (List Int))) (z4 : Option V), σ = [some (.ref a), some (.ref p), some (.int R), some (.ref L), z4, none, none, none, none, none, none, none, none] ∧ Drawn p (fun _ => none) G' H H' 100 R 27 L ss ∧ (ss = [] ∨ R = 3 ∧ ss.length = 2)) ?_ ?_
  · rintro σ H5 ⟨G5, L, ss, z4, rfl, dr, hss⟩
    -- the turns
    refine rest_for (fun σ H' => ∃ (G' : Hp) (ss : List (List (List Int))) (M : Int) (z5 : Option V), σ = [some (.ref a), some (.ref p), some (.int R), some (.ref L), z4, z5, none, none, none, none, none, none, none] ∧ Drawn p (fun _ => none) G' H H' 1000 R M L ss ∧ Bn.Fit R M ∧ 0 < ss.length ∧ ss.length ≤ 6) ?_ ?_
    · rintro σ H6 ⟨G6, ss, M, z5, rfl, dr, F, n1, n6⟩
      -- the sheets, perhaps reversed
      refine rest_if (fun σ H' => ∃ (G' : Hp) (L : Addr) (ss : List (List (List Int))), σ = [some (.ref a), some (.ref p), some (.int R), some (.ref L), z4, z5, none, none, none, none, none, none, none] ∧ Drawn p (fun _ => none) G' H H' 1010 R M L ss ∧ 0 < ss.length ∧ ss.length ≤ 6) ?_ ?_
      · clear dr n1 n6
        rintro σ H6 ⟨G6, L, ss, rfl, dr, n1, n6⟩
        obtain ⟨xs, hL, hx⟩ := dr.ls
        have lx := hx.mapLen
        have hS9 := dr.sh
        obtain ⟨n, hn⟩ : ∃ n, ss.length = n := ⟨_, rfl⟩
        rw [hn] at n1 n6
        have lxn : xs.length = n := by omega
        -- due
        refine ⟨_, rfl, L, xs, ss, R, M, G6, dr.gr.sub, rfl, hL, hx, hS9, R1, F, by omega, fun G8 H8 aD g8 nD gD hD => ?_⟩
        rw [hn] at hD
        have g68 := dr.gr.trans g8
        have hL8 := g8.sm _ _ hL
        have P8 := dr.pu.same g8.sm
        have G8p := g8.new p dr.gp dr.pu.ne
        have aDp : aD ≠ p := fun z => dr.pu.ne (by rw [← z]; exact nD)
        have HD := dr.gr.free nD
        -- the tables
        refine ⟨_, rfl, L, rfl, ⟨_, SqL.of hL8⟩, fun aS nS => ?_⟩
        have aSp : aS ≠ p := fun z => P8.ne (by rw [← z]; exact nS)
        refine lc_data (walk_list (K := K) (a := L) (xs := xs)) dTab (fun i t => ∃ s, ss[i]? = some s ∧ OkT t s) (S := One p) (G0 := G8) (H0 := H8) (G1 := G8) (H1 := H8) (fun i H' => Pu (1010 + 10 * i) H' p) (Grow.refl g8.sub) nS (by omega)
          (fun G' H' s1 gr => SqL.of (gr.one dr.lp hL8)) (P8.keep (upd_ne aSp.symm)) (fun i H' x _ _ h => h.keep (upd_ne aSp.symm)) ?_ ?_
        · rintro i x G9 _ H9 hi s9 g9 gD' hD' iv ⟨rfl, hx'⟩ Post hk
          obtain ⟨si, e1, e2⟩ := hx.mapGet hx'
          refine ⟨rfl, ?_⟩
          refine ⟨_, rfl, _, rfl, p, si, R, _, M, G9, _, g9.sub, rfl, g9.new p G8p P8.ne, iv, Da.mono (g8.data.trans s9) _ _ e2, hS9 si (List.mem_of_getElem? e1), F.small, R4, by omega, fun G10 H10 v t g10 P10 d10 ok => ?_⟩
          exact hk v H10 G10 t g10 (g10.oneAt aSp hD') ⟨si, e1, ok⟩ d10 P10
        intro G9 H9 ts s9 g9 lts hPts dS iv9
        have g69 := g68.via g9 fun q e => .inl (by rw [e]; exact np)
        have hD9 := g9.one aDp hD
        have G9D := g9.new aD gD (by rw [hD]; simp)
        have shts : Shts R M ss ts := ⟨by omega, hPts, hS9⟩
        have ltn : ts.length = n := by omega
        refine ⟨sz 2, fun t0 nt0 => ?_⟩
        generalize eH10 : upd _ t0 _ = H10
        obtain ⟨s10, ht0⟩ := new2 nt0 eH10
        have g10 := g69.more s10
        have hD10 := s10 _ _ hD9
        refine ⟨t0, _, rfl, SqT.of ht0, rfl, _, _, rfl, _, _, rfl, rfl, ?_⟩
        obtain ⟨_, tx, eS, hS10, htx⟩ := da_lst.mp dS
        cases eS
        have ltx : tx.length = n := by rw [htx.mapLen]; exact ltn
        -- kept, found
        refine ⟨_, rfl, aS, tx, rfl, .inl (SqL.of (g10.sub _ _ hS10)), fun aK nK => ?_⟩
        generalize eH11 : upd _ aK _ = H11
        obtain ⟨s11, hK11⟩ := new2 nK eH11
        have g11 := g10.more s11
        have hD11 := s11 _ _ hD10
        refine ⟨_, rfl, ts, ss, R, M, G9, _, g11.sub, rfl, dS, shts, by omega, by omega, R1, F, fun G12 H12 aF g12 nF gF hF => ?_⟩
        rw [hn] at hF
        have g112 := g11.trans g12
        have hD12 := g12.sm _ _ hD11
        have hK12 := g12.sm _ _ hK11
        have G12D := g12.new aD G9D (by rw [hD11]; simp)
        have HF := g11.free nF
        have FD : aF ≠ aD := fun z => by rw [z, hD11] at nF; cases nF
        have dS12 := Da.mono g12.data _ _ dS
        have hS12 := g12.data _ _ hS10
        have htx12 := DaAll.mono g12.data _ _ htx
        refine ⟨_, _, rfl, ?_⟩
        obtain ⟨q1, q2, q3, q4⟩ := goodR_parts (goodR_best (T := tlB ss) n6)
        have bne := Bn.best_ne (tlB_pre hS9 R1) (by omega)
        rw [hn] at bne
        -- repr(found) != repr(due)
        refine ⟨_, rfl, aF, _, rfl, dp_nats hF, q1, q2, q3, q4, _, rfl, aD, _, rfl, dp_nats hD12, q1, q2, q3, q4, rfl, _, rfl, ?_⟩
        rw [str_same]
        refine iteF ?_
        -- due == []
        refine ⟨_, rfl, Nat.zero_le _, fun l0 nl0 => ?_⟩
        generalize eH13 : upd _ l0 _ = H13
        obtain ⟨s13, hl0⟩ := new2 nl0 eH13
        have g13' := g112.more s13
        have hD13 := s13 _ _ hD12
        have hF13 := s13 _ _ hF
        have hK13 := s13 _ _ hK12
        refine ⟨_, .list [], dp_nats hD13, .lst (SqL.of hl0) .nil, (lay_is _).shaped (by decide), rfl, _, rfl, ?_⟩
        have ene : PyData.eqv (dIs (natsI (Bn.bestL n (tlB ss)))) (.list []) = false := by
          cases e : Bn.bestL n (tlB ss) with
          | nil => exact absurd e bne
          | cons x l => rfl
        rw [ene]
        refine iteF ?_
        -- shown != kept
        refine ⟨_, rfl, _, rfl, dTabs ts, dTabs ts, Da.dp _ _ (Da.mono g13'.sub _ _ dS12), .lst (SqL.of hK13) (DaAll.dp _ _ (DaAll.mono g13'.sub _ _ htx12)), (lay_tabs ts).shaped (by decide), (lay_tabs ts).shaped (by decide), _, rfl, ?_⟩
        rw [(lay_tabs ts).rf]
        refine iteF ?_
        -- found.append('x')
        refine ⟨_, rfl, .inl ⟨rfl, _, SqL.of hF13⟩, aF, _, _, rfl, rfl, hF13, by rw [List.length_map]; have := bestTo_len (n := n) (T := tlB ss) (i := n); have e : bestTo n (tlB ss) n = Bn.bestL n (tlB ss) := rfl; rw [e] at this; omega, ?_⟩
        have g14 := g13'.put (c := .lst (natsV (Bn.bestL n (tlB ss)) ++ [.str (Str.ofString "x")])) gF (.inl HF)
        have hD14 : (upd H13 aF (.lst (natsV (Bn.bestL n (tlB ss)) ++ [.str (Str.ofString "x")]))) aD = some (.lst (natsV (Bn.bestL n (tlB ss)))) := by rw [upd_ne FD.symm]; exact hD13
        refine nx_mk ?_
        show tSeq _ _ _ _ (upd H13 aF (.lst (natsV (Bn.bestL n (tlB ss)) ++ [.str (Str.ofString "x")])))
        generalize upd H13 aF (.lst (natsV (Bn.bestL n (tlB ss)) ++ [.str (Str.ofString "x")])) = H14 at g14 hD14 ⊢
        -- best_news(tables=shown[::-1])
        have hS14 := g14.sub _ _ hS12
        refine ⟨_, rfl, aS, tx, rfl, SqL.of hS14, fun p5 np5 => ?_⟩
        have htr : DaAll G12 (ts.reverse.map dTab) tx.reverse := by
          rw [List.map_reverse]
          exact DaAll.reverse htx12
        obtain ⟨G15, g15', s15, d15⟩ := (Grow.refl (S := No) g14.sub).lay_lst htr np5
        generalize eH15 : upd _ p5 _ = H15
        obtain ⟨t15, _⟩ := new2 np5 eH15
        rw [eH15] at g15'
        have g15 := g14.trans g15'
        have hD15 := t15 _ _ hD14
        have G15D := g15'.new aD G12D (by rw [hD14]; simp)
        have rlen : ss.reverse.length = n := by rw [List.length_reverse]; exact hn
        refine ⟨ts.reverse, ss.reverse, R, M, G15, _, g15.sub, rfl, d15, shts.rev, by omega, by omega, R1, F, fun G16 H16 aB g16 nB gB hB => ?_⟩
        rw [rlen] at hB
        have g116 := g15.trans g16
        have hD16 := g16.sm _ _ hD15
        have G16D := g16.new aD G15D (by rw [hD15]; simp)
        have hS16 := g16.data _ _ (s15 _ _ hS12)
        obtain ⟨u1, u2, u3, u4⟩ := goodR_parts (goodR_best (T := tlB ss.reverse) n6)
        refine ⟨aB, _, rfl, dp_nats hB, u1, u2, u3, u4, ?_⟩
        -- sorted([...])
        refine ⟨_, rfl, aD, rfl, ⟨_, SqL.of hD16⟩, fun aC nC => ?_⟩
        refine lc_data (walk_list (K := K) (a := aD) (xs := natsV (Bn.bestL n (tlB ss)))) PyData.int (fun j z => ∃ b, (Bn.bestL n (tlB ss))[j]? = some b ∧ z = (n : Int) - 1 - (b : Int)) (S := No) (G0 := G16) (H0 := H16) (G1 := G16) (H1 := H16) (fun _ _ => True) (Grow.refl g16.sub) nC (by rw [List.length_map]; have := bestTo_len (n := n) (T := tlB ss) (i := n); have e : bestTo n (tlB ss) n = Bn.bestL n (tlB ss) := rfl; rw [e] at this; omega)
          (fun G' H' s1 gr => SqL.of (gr.sm _ _ hD16)) trivial (fun _ _ _ _ _ _ => trivial) ?_ ?_
        · rintro j x G17 _ H17 hj s17 g17 gD' hD' _ ⟨rfl, hx'⟩ Post hk
          rw [List.getElem?_map] at hx'
          cases eb : (Bn.bestL n (tlB ss))[j]? with
          | none => rw [eb] at hx'; cases hx'
          | some b =>
            rw [eb] at hx'
            cases hx'
            refine ⟨rfl, ?_⟩
            refine ⟨_, rfl, aS, tx, rfl, .inl (SqL.of (g17.sub _ _ (s17 _ _ hS16))), _, _, rfl, rfl, _, rfl, _, _, rfl, rfl, ?_⟩
            rw [ltx]
            exact hk _ H17 G17 _ (Grow.refl g17.sub) rfl ⟨b, eb, rfl⟩ (da_int.mpr rfl) trivial
        intro G17 H17 l17 s17 g17 ll17 hP17 d17 _
        have e17 : l17 = (natsI (Bn.bestL n (tlB ss))).map fun p => (n : Int) - 1 - p := by
          refine List.ext_getElem? fun j => ?_
          unfold natsI
          rw [List.map_map, List.getElem?_map]
          rw [List.length_map] at ll17
          cases z : l17[j]? with
          | none =>
            have : (Bn.bestL n (tlB ss))[j]? = none := by
              rw [List.getElem?_eq_none_iff] at z ⊢
              omega
            rw [this]
            rfl
          | some u =>
            obtain ⟨y, h1, h2⟩ := hP17 j u z
            rw [h1, h2]
            rfl
        rw [e17] at d17
        obtain ⟨_, eC, hC⟩ := da_is.mp d17
        cases eC
        have g117 := g116.trans g17
        have hD17 := g17.sm _ _ hD16
        refine ⟨aC, _, rfl, SqL.of (g17.sub _ _ hC), ?_, fun ns' p18 perm pw np18 => ?_⟩
        · rw [List.length_map, List.length_map]
          have := bestTo_len (n := n) (T := tlB ss) (i := n)
          have e : bestTo n (tlB ss) n = Bn.bestL n (tlB ss) := rfl
          rw [e] at this
          omega
        have es := best_rev_sorted hn perm pw
        subst es
        generalize eH18 : upd _ p18 _ = H18
        obtain ⟨t18, h18⟩ := new2 np18 eH18
        have g18 := g117.more t18
        have hD18 := t18 _ _ hD17
        rw [← natsV_eq] at h18
        refine ⟨p18, _, rfl, dp_nats h18, u1, u2, u3, u4, rfl, _, rfl, ?_⟩
        rw [str_same]
        refine iteF ?_
        -- the last loop
        have s1217 : Same G12 G17 := (s15.trans g16.data).trans s17
        have G17D := g17.new aD G16D (by rw [hD16]; simp)
        refine ⟨_, rfl, aS, tx, rfl, .inl (SqL.of (g18.sub _ _ (s17 _ _ hS16))), _, rfl, by omega, by omega, ?_⟩
        rw [ltx, show ((n : Nat) : Int).toNat = n by omega]
        have pre := tlB_pre hS9 R1
        rw [hn] at pre
        have blt := bestTo_len (n := n) (T := tlB ss) (i := n)
        rw [show bestTo n (tlB ss) n = Bn.bestL n (tlB ss) from rfl] at blt
        have tat : ∀ i, i < n → ∃ x t si, tx[i]? = some x ∧ ss[i]? = some si ∧ Da G12 (dTab t) x ∧ OkT t si := fun i hi => by
          obtain ⟨t, et⟩ : ∃ t, ts[i]? = some t := ⟨ts[i]'(by omega), List.getElem?_eq_getElem _⟩
          obtain ⟨si, e1, ok⟩ := hPts i t et
          obtain ⟨x, h1, h2⟩ := htx12.mapAt et
          exact ⟨x, t, si, h1, e1, h2, ok⟩
        refine for_it (walk_range (lo := 0) (n := n)) (fun i σ H' => ∃ (G' : Hp) (z10 : Option V), σ = [some (.ref a), some (.ref p), some (.int R), some (.ref L), z4, z5, some (.ref aD), some (.ref aS), some (.ref aK), some (.ref aF), z10, none, none] ∧ Grow No (fun _ => none) H G' H' ∧ Same G12 G' ∧ H' aD = some (.lst (natsV (Bn.bestL n (tlB ss)))))
          ⟨G17, none, rfl, g18, s1217, hD18⟩ (fun _ _ _ _ _ => trivial) ?_ ?_
        · rintro i x σ _ H19 hi ⟨G19, z10, rfl, g19, s19, hD19⟩ ⟨rfl, rfl⟩
          show gName 10 (V.int (0 + (i : Nat))) _ _ _
          rw [Int.zero_add]
          refine ⟨_, rfl, _, rfl, aD, _, rfl, .inl (SqL.of hD19), rfl, natsV_flat _, _, rfl, ite_b (fun e => ?_) fun e => ?_⟩
          · refine ⟨_, rfl, aD, rfl, ⟨_, SqL.of hD19⟩, fun D hDn => ?_⟩
            refine lc_data (walk_list (K := K) (a := aD) (xs := natsV (Bn.bestL n (tlB ss)))) PyData.bool (fun j z => ∃ b, (Bn.bestL n (tlB ss))[j]? = some b ∧ z = tlB ss b i) (S := No) (G0 := G19) (H0 := H19) (G1 := G19) (H1 := H19) (fun _ _ => True) (Grow.refl g19.sub) hDn (by rw [List.length_map]; omega)
              (fun G' H' s1 gr => SqL.of (gr.sm _ _ hD19)) trivial (fun _ _ _ _ _ _ => trivial) ?_ ?_
            · rintro j x G20 _ H20 hj s20 g20 gD' hD' _ ⟨rfl, hx'⟩ Post hk
              rw [List.getElem?_map] at hx'
              cases eb : (Bn.bestL n (tlB ss))[j]? with
              | none => rw [eb] at hx'; cases hx'
              | some b =>
                rw [eb] at hx'
                cases hx'
                have bn : b < n := List.mem_range.mp (List.mem_filter.mp (List.mem_of_getElem? eb)).1
                obtain ⟨xb, tb, sb, h1, h2, h3, h4⟩ := tat b bn
                obtain ⟨xi, ti, si, k1, k2, k3, k4⟩ := tat i hi
                have hS20 : SqL K H20 aS tx := SqL.of (g20.sub _ _ (s20 _ _ (s19 _ _ hS12)))
                refine ⟨rfl, ?_⟩
                refine ⟨_, rfl, _, rfl, aS, tx, b, xb, rfl, rfl, hS20, atI_nat h1, _, rfl, _, rfl, aS, tx, i, xi, rfl, rfl, hS20, atI_nat k1, tb, ti, sb, si, R, M, G20, _, _, g20.sub, rfl, Da.mono (s19.trans s20) _ _ h3, Da.mono (s19.trans s20) _ _ k3, h4, k4, hS9 sb (List.mem_of_getElem? h2), hS9 si (List.mem_of_getElem? k2), R1, F, fun G21 H21 bb g21 hb => ?_⟩
                exact hk _ H21 G21 bb g21.no (g21.sm.at hD') ⟨b, eb, tlB_of h2 k2 hb⟩ (da_bl.mpr rfl) trivial
            · intro G20 H20 l20 s20 g20 ll20 hP20 d20 _
              obtain ⟨_, eD, hD20⟩ := da_bs.mp d20
              cases eD
              refine ⟨D, _, rfl, .inl (SqL.of (g20.sub _ _ hD20)), rfl, flat_bls _, _, rfl, ?_⟩
              have tr : (l20.any id) = true := by
                obtain ⟨b, mb, tb⟩ := Bn.best_dom pre hi
                obtain ⟨j, ej⟩ := List.getElem?_of_mem mb
                have hj : j < l20.length := by
                  have := (List.getElem?_eq_some_iff.mp ej).1
                  rw [ll20, List.length_map]
                  exact this
                obtain ⟨b', e1, e2⟩ := hP20 j _ (List.getElem?_eq_getElem hj)
                rw [ej] at e1
                cases e1
                rw [List.any_eq_true]
                exact ⟨_, List.getElem_mem hj, by rw [e2]; exact tb⟩
              rw [show (if true = true then !inV (V.bl true) (l20.map V.bl) else inV (V.bl true) (l20.map V.bl)) = false by rw [if_pos rfl, notIn_true, tr]; rfl]
              refine iteF ?_
              exact ⟨G20, _, rfl, g19.trans g20, s19.trans s20, g20.sm _ _ hD19⟩
          · refine iteF ?_
            exact ⟨G19, _, rfl, g19, s19, hD19⟩
        · rintro σ H19 ⟨G19, z10, rfl, g19, s19, hD19⟩
          exact q H19
      · intro rest
        refine ⟨_, rfl, p, 2, _, G6, dr.gr.sub, rfl, dr.gp, dr.pu, by decide, nb 2 (by decide) (by decide), by omega, fun H7 r r0 r2 g7 P7 => ?_⟩
        have dr7 := dr.more g7 np P7
        refine ⟨_, _, rfl, rfl, _, rfl, ite_b (fun e => ?_) fun e => ?_⟩
        · obtain ⟨xs, hL, hx⟩ := dr7.ls
          refine ⟨_, rfl, L, xs, rfl, SqL.of hL, fun L2 nL2 => ?_⟩
          generalize eH8 : upd _ L2 _ = H8
          obtain ⟨s8, hL2⟩ := new2 nL2 eH8
          have hrev : DaAll G6 (ss.reverse.map dIss) xs.reverse := by
            rw [List.map_reverse]
            exact DaAll.reverse hx
          refine rest _ _ ⟨G6, L2, ss.reverse, rfl, ⟨dr7.gr.more s8, (P7.same s8).mono (by omega), dr7.gp, dr7.gr.freeG nL2, dr7.gr.free nL2, fun z => dr7.pu.ne (by rw [← z]; exact nL2), ⟨_, hL2, hrev⟩, fun s hs => dr7.sh s (List.mem_reverse.mp hs)⟩, by rw [List.length_reverse]; exact n1, by rw [List.length_reverse]; exact n6⟩
        · exact rest _ _ ⟨G6, L, ss, rfl, dr7.mono (by omega), n1, n6⟩
    · intro rest
      refine ⟨_, rfl, _, rfl, _, _, rfl, rfl, _, rfl, ifE_key fun z hz => ?_⟩
      obtain ⟨k, rfl, k0, hk⟩ : ∃ k : Nat, z = .int k ∧ 0 < k ∧ (k = 2 ∧ 2 < R ∨ k = 6 ∧ R ≤ 2) := by
        rcases hz with ⟨e, rfl⟩ | ⟨e, rfl⟩
        · have e' := of_decide_eq_true e
          exact ⟨2, rfl, by decide, .inl ⟨rfl, by omega⟩⟩
        · have e' := of_decide_eq_false e
          exact ⟨6, rfl, by decide, .inr ⟨rfl, by omega⟩⟩
      refine ⟨p, k, _, G5, dr.gr.sub, rfl, dr.gp, dr.pu, by omega, nb k (by omega) (by omega), by omega, fun H6 r r0 rk g6 P6 => ?_⟩
      have dr6 := dr.more g6 np P6
      refine ⟨_, _, rfl, rfl, _, rfl, by omega, by omega, ?_⟩
      refine for_it (walk_range (lo := 0) (n := (1 + r).toNat)) (fun i σ H' => ∃ (G' : Hp) (ss' : List (List (List Int))) (z5 : Option V), σ = [some (.ref a), some (.ref p), some (.int R), some (.ref L), z4, z5, none, none, none, none, none, none, none] ∧ Drawn p (fun _ => none) G' H H' (101 + 60 * i) R (27 * 2 ^ (15 * i)) L ss' ∧ ss'.length = ss.length + i)
        ⟨G5, ss, none, rfl, by rw [show (27 : Int) * 2 ^ (15 * 0) = 27 by decide +kernel]; exact dr6, rfl⟩ (fun _ _ _ _ _ => trivial) ?_ ?_
      · rintro i x σ _ H7 hi ⟨G7, ss7, z5, rfl, dr7, l7⟩ ⟨rfl, rfl⟩
        obtain ⟨xs, hL, hx⟩ := dr7.ls
        have lx := hx.mapLen
        have i6 : i < 6 := by omega
        have mb : 27 ≤ (27 : Int) * 2 ^ (15 * i) ∧ (27 : Int) * 2 ^ (15 * i) ≤ 2 ^ 100 := by
          have h : i = 0 ∨ i = 1 ∨ i = 2 ∨ i = 3 ∨ i = 4 ∨ i = 5 := by omega
          rcases h with rfl | rfl | rfl | rfl | rfl | rfl <;> decide +kernel
        refine ⟨_, rfl, .inl ⟨rfl, _, SqL.of hL⟩, ?_⟩
        refine ⟨_, rfl, _, rfl, _, rfl, p, L, xs, ss7, R, _, _, G7, dr7.gr.sub, rfl, dr7.gp, dr7.pu, dr7.lp, hL, hx, dr7.sh, R1, R4, mb.1, mb.2, ?_, by omega, fun G8 H8 v8 s8 g8 P8 d8 S8 => ?_⟩
        · rw [l7]
          rcases ‹ss = [] ∨ R = 3 ∧ ss.length = 2› with h | ⟨_, h⟩
          · rw [h]
            show 0 + i ≤ 10
            omega
          · omega
        have g78 := dr7.gr.via g8 fun q e => .inl (by rw [e]; exact np)
        have hL8 := g8.one dr7.lp hL
        have G8L := g8.new L dr7.gl (by rw [hL]; simp)
        have G8p := g8.new p dr7.gp dr7.pu.ne
        refine ⟨L, xs, _, rfl, rfl, hL8, ?_, ?_⟩
        · rw [lx, l7]
          rcases ‹ss = [] ∨ R = 3 ∧ ss.length = 2› with h | ⟨_, h⟩
          · rw [h]
            show 0 + i < _
            omega
          · omega
        · have M1 : (27 : Int) * 2 ^ (15 * i) ≤ 27 * 2 ^ (15 * i) * 2 ^ 15 := by
            have : (2 : Int) ^ 15 = 32768 := by decide +kernel
            rw [this]
            omega
          refine ⟨G8, ss7 ++ [s8], _, rfl, ⟨g78.put G8L (.inl dr7.hl), ?_, G8p, G8L, dr7.hl, dr7.lp, ⟨_, upd_same, ?_⟩, ?_⟩, by rw [List.length_append, l7]; rfl⟩
          · exact (P8.keep (upd_ne dr7.lp.symm)).mono (by omega)
          · rw [List.map_append]
            exact DaAll.push (DaAll.mono g8.data _ _ hx) d8
          · rw [show 15 * (i + 1) = 15 * i + 15 by omega, Int.pow_add, ← Int.mul_assoc]
            intro s hs
            rcases List.mem_append.mp hs with z | z
            · exact (dr7.sh s z).mono M1
            · rw [List.mem_singleton.mp z]
              exact S8
      · rintro σ H7 ⟨G7, ss7, z5, rfl, dr7, l7⟩
        obtain ⟨N, hN⟩ : ∃ N, (1 + r).toNat = N := ⟨_, rfl⟩
        rw [hN] at dr7 l7
        have N1 : 1 ≤ N := by omega
        have Nk : N ≤ k := by omega
        have fit : Bn.Fit R (27 * 2 ^ (15 * N)) := by
          rcases hk with ⟨rfl, h2⟩ | ⟨rfl, h2⟩
          · refine .inr ⟨R4, ?_⟩
            have h : N = 1 ∨ N = 2 := by omega
            rcases h with rfl | rfl <;> decide +kernel
          · refine .inl ⟨h2, ?_⟩
            have h : N = 1 ∨ N = 2 ∨ N = 3 ∨ N = 4 ∨ N = 5 ∨ N = 6 := by omega
            rcases h with rfl | rfl | rfl | rfl | rfl | rfl <;> decide +kernel
        refine rest _ _ ⟨G7, ss7, _, _, rfl, dr7.mono (by omega), fit, by omega, ?_⟩
        rcases hss with h | ⟨h3, h⟩
        · rw [h] at l7
          have : ss7.length = 0 + N := l7
          omega
        · omega
  · intro rest
    have dr0 : Drawn p (fun _ => none) (fun _ => none) H H4 1 R 27 L0 [] := ⟨g4, P4, rfl, rfl, g13.free nL0, fun z => P3.ne (by rw [← z]; exact nL0), ⟨[], hL0, daAll_nil.mpr rfl⟩, fun s h => by cases h⟩
    refine ⟨_, rfl, _, _, rfl, rfl, _, rfl, ite_b (fun e3 => ?_) fun e3 => ?_⟩
    · have R3 : R = 3 := by
        have e' := of_decide_eq_true e3
        omega
      subst R3
      refine ⟨_, rfl, p, 3, _, _, dr0.gr.sub, rfl, rfl, dr0.pu, by decide, nb 3 (by decide) (by decide), by omega, fun H5 r r0 r3 g5 P5 => ?_⟩
      have dr1 := dr0.more g5 np P5
      refine ⟨_, _, rfl, rfl, _, rfl, ite_b (fun e4 => ?_) fun e4 => ?_⟩
      · -- the written pair
        obtain ⟨xs0, hL05, _⟩ := dr1.ls
        have gA := Grow.refl (S := No) dr1.gr.sub
        refine ⟨sz 3, fun a1 n1 => ?_⟩
        obtain ⟨Ga1, ga1, sa1, da1⟩ := gA.lay_lst (ds := ([1, 1, 0] : List Int).map .int) (xs := [.int 1, .int 1, .int 0]) (daAll_ints.mpr rfl) n1
        generalize eHa1 : upd _ a1 _ = Ha1
        obtain ⟨ta1, _⟩ := new2 n1 eHa1
        rw [eHa1] at ga1
        refine ⟨sz 3, fun a2 n2 => ?_⟩
        obtain ⟨Ga2, ga2, sa2, da2⟩ := ga1.lay_lst (ds := ([0, 1, 1] : List Int).map .int) (xs := [.int 0, .int 1, .int 1]) (daAll_ints.mpr rfl) n2
        generalize eHa2 : upd _ a2 _ = Ha2
        obtain ⟨ta2, _⟩ := new2 n2 eHa2
        rw [eHa2] at ga2
        refine ⟨sz 3, fun a3 n3 => ?_⟩
        obtain ⟨Ga3, ga3, sa3, da3⟩ := ga2.lay_lst (ds := ([1, 0, 1] : List Int).map .int) (xs := [.int 1, .int 0, .int 1]) (daAll_ints.mpr rfl) n3
        generalize eHa3 : upd _ a3 _ = Ha3
        obtain ⟨ta3, _⟩ := new2 n3 eHa3
        rw [eHa3] at ga3
        refine ⟨sz 3, fun a4 n4 => ?_⟩
        obtain ⟨Ga4, ga4, sa4, da4⟩ := ga3.lay_lst (ds := shA.map dIs) (xs := [.ref a1, .ref a2, .ref a3]) (daAll_cons.mpr ⟨_, _, rfl, Da.mono (sa2.trans sa3) _ _ da1, daAll_cons.mpr ⟨_, _, rfl, Da.mono sa3 _ _ da2, daAll_cons.mpr ⟨_, _, rfl, da3, daAll_nil.mpr rfl⟩⟩⟩) n4
        generalize eHa4 : upd _ a4 _ = Ha4
        obtain ⟨ta4, _⟩ := new2 n4 eHa4
        rw [eHa4] at ga4
        refine ⟨sz 2, fun b1 n1 => ?_⟩
        obtain ⟨Gb1, gb1, sb1, db1⟩ := ga4.lay_lst (ds := ([1, 1] : List Int).map .int) (xs := [.int 1, .int 1]) (daAll_ints.mpr rfl) n1
        generalize eHb1 : upd _ b1 _ = Hb1
        obtain ⟨tb1, _⟩ := new2 n1 eHb1
        rw [eHb1] at gb1
        refine ⟨sz 2, fun b2 n2 => ?_⟩
        obtain ⟨Gb2, gb2, sb2, db2⟩ := gb1.lay_lst (ds := ([0, 1] : List Int).map .int) (xs := [.int 0, .int 1]) (daAll_ints.mpr rfl) n2
        generalize eHb2 : upd _ b2 _ = Hb2
        obtain ⟨tb2, _⟩ := new2 n2 eHb2
        rw [eHb2] at gb2
        refine ⟨sz 2, fun b3 n3 => ?_⟩
        obtain ⟨Gb3, gb3, sb3, db3⟩ := gb2.lay_lst (ds := ([0, 1] : List Int).map .int) (xs := [.int 0, .int 1]) (daAll_ints.mpr rfl) n3
        generalize eHb3 : upd _ b3 _ = Hb3
        obtain ⟨tb3, _⟩ := new2 n3 eHb3
        rw [eHb3] at gb3
        refine ⟨sz 3, fun b4 n4 => ?_⟩
        obtain ⟨Gb4, gb4, sb4, db4⟩ := gb3.lay_lst (ds := shB.map dIs) (xs := [.ref b1, .ref b2, .ref b3]) (daAll_cons.mpr ⟨_, _, rfl, Da.mono (sb2.trans sb3) _ _ db1, daAll_cons.mpr ⟨_, _, rfl, Da.mono sb3 _ _ db2, daAll_cons.mpr ⟨_, _, rfl, db3, daAll_nil.mpr rfl⟩⟩⟩) n4
        generalize eHb4 : upd _ b4 _ = Hb4
        obtain ⟨tb4, _⟩ := new2 n4 eHb4
        rw [eHb4] at gb4
        have dA : Da Gb4 (dIss shA) (.ref a4) := Da.mono (((sb1.trans sb2).trans sb3).trans sb4) _ _ da4
        have dB : Da Gb4 (dIss shB) (.ref b4) := db4
        have tall := ((((((ta1.trans ta2).trans ta3).trans ta4).trans tb1).trans tb2).trans tb3).trans tb4
        have PB := P5.same tall
        refine ⟨sz 2, fun L nL => ?_⟩
        generalize eHL : upd _ L _ = HL
        obtain ⟨tL, hL⟩ := new2 nL eHL
        have gL := (dr1.gr.trans gb4).more tL
        have PL := PB.same tL
        have GL : Gb4 L = none := gb4.freeG nL
        have HLn : H L = none := (dr1.gr.trans gb4).free nL
        have Lp : L ≠ p := fun z => PB.ne (by rw [← z]; exact nL)
        have Gp : Gb4 p = none := gb4.new p rfl P5.ne
        have hx : DaAll Gb4 ([shA, shB].map dIss) [.ref a4, .ref b4] := daAll_cons.mpr ⟨_, _, rfl, dA, daAll_cons.mpr ⟨_, _, rfl, dB, daAll_nil.mpr rfl⟩⟩
        have hSh : ∀ s ∈ [shA, shB], Bn.Sht 3 27 s := fun s hs => by
          simp only [List.mem_cons, List.not_mem_nil, or_false] at hs
          rcases hs with rfl | rfl
          · exact shA_ok
          · exact shB_ok
        have fit : Bn.Fit 3 27 := .inr ⟨by decide, by decide +kernel⟩
        -- two
        refine ⟨_, rfl, L, rfl, ⟨_, SqL.of hL⟩, fun aS nS => ?_⟩
        have aSp : aS ≠ p := fun z => PL.ne (by rw [← z]; exact nS)
        refine lc_data (walk_list (K := K) (a := L) (xs := [.ref a4, .ref b4])) dTab (fun i t => ∃ s, [shA, shB][i]? = some s ∧ OkT t s) (S := One p) (G0 := Gb4) (H0 := HL) (G1 := Gb4) (H1 := HL) (fun i H' => Pu (2 + 10 * i) H' p) (Grow.refl gL.sub) nS (by show 2 ≤ _; omega)
          (fun G' H' s1 gr => SqL.of (gr.one Lp hL)) (PL.keep (upd_ne aSp.symm)) (fun i H' x _ _ h => h.keep (upd_ne aSp.symm)) ?_ ?_
        · rintro i x G9 _ H9 hi s9 g9 gD' hD' iv ⟨rfl, hx'⟩ Post hk
          have i2 : i < 2 := hi
          obtain ⟨si, e1, e2⟩ := hx.mapGet hx'
          refine ⟨rfl, ?_⟩
          refine ⟨_, rfl, _, rfl, p, si, 3, _, 27, G9, _, g9.sub, rfl, g9.new p Gp PL.ne, iv, Da.mono s9 _ _ e2, hSh si (List.mem_of_getElem? e1), fit.small, by decide, by omega, fun G10 H10 v t g10 P10 d10 ok => ?_⟩
          exact hk v H10 G10 t g10 (g10.oneAt aSp hD') ⟨si, e1, ok⟩ d10 P10
        intro G9 H9 ts s9 g9 lts hPts dS iv9
        have shts : Shts 3 27 [shA, shB] ts := ⟨lts, hPts, hSh⟩
        have g19 := gL.via g9 fun q e => .inl (by rw [e]; exact np)
        have hL9 := g9.one Lp hL
        have G9L := g9.new L GL (by rw [hL]; simp)
        have G9p := g9.new p Gp PL.ne
        have b1' : Bn.bestL [shA, shB].length (tlB [shA, shB]) = [0, 1] := best_pair (.inl rfl)
        have b2' : Bn.bestL [shA, shB].reverse.length (tlB [shA, shB].reverse) = [0, 1] := best_pair (.inr rfl)
        obtain ⟨q1, q2, q3, q4⟩ := goodR_parts (show goodR (dIs (natsI [0, 1])) = true by decide +kernel)
        -- repr(best_news(two)) != '[0, 1]'
        refine ⟨_, rfl, ts, _, 3, 27, G9, _, g9.sub, rfl, dS, shts, by decide, by decide, by decide, fit, fun G10 H10 aF g10 nF gF hF => ?_⟩
        rw [b1'] at hF
        refine ⟨aF, _, rfl, dp_nats hF, q1, q2, q3, q4, rfl, _, rfl, ?_⟩
        rw [shown01, str_same]
        refine iteF ?_
        -- reversed
        obtain ⟨_, tx, eS, hS9, htx⟩ := da_lst.mp dS
        cases eS
        have g110 := g19.trans g10
        refine ⟨_, rfl, aS, tx, rfl, SqL.of (g10.sub _ _ (g10.data _ _ hS9)), fun p5 np5 => ?_⟩
        have htr : DaAll G10 (ts.reverse.map dTab) tx.reverse := by
          rw [List.map_reverse]
          exact DaAll.reverse (DaAll.mono g10.data _ _ htx)
        obtain ⟨G11, g11, s11, d11⟩ := (Grow.refl (S := No) g110.sub).lay_lst htr np5
        generalize eH11 : upd _ p5 _ = H11
        obtain ⟨t11, _⟩ := new2 np5 eH11
        rw [eH11] at g11
        refine ⟨ts.reverse, _, 3, 27, G11, _, g11.sub, rfl, d11, shts.rev, by decide, by decide, by decide, fit, fun G12 H12 aF2 g12 nF2 gF2 hF2 => ?_⟩
        rw [b2'] at hF2
        refine ⟨aF2, _, rfl, dp_nats hF2, q1, q2, q3, q4, rfl, _, rfl, ?_⟩
        rw [shown01, str_same]
        refine iteF ?_
        have tt := (g10.sm.trans t11).trans g12.sm
        have P10 := iv9.same g10.sm
        have P11 := P10.same t11
        have hL10 := g10.sm _ _ hL9
        have hL11 := t11 _ _ hL10
        have G12p := g12.new p (g11.new p (g10.new p G9p iv9.ne) P10.ne) P11.ne
        have G12L := g12.new L (g11.new L (g10.new L G9L (by rw [hL9]; simp)) (by rw [hL10]; simp)) (by rw [hL11]; simp)
        refine rest _ _ ⟨G12, L, [shA, shB], _, rfl, ⟨(g110.trans g11).trans g12, (iv9.same tt).mono (by show 2 + 10 * 2 ≤ 100; decide), G12p, G12L, HLn, Lp, ⟨_, tt _ _ hL9, DaAll.mono (((s9.trans g10.data).trans g11.data).trans g12.data) _ _ hx⟩, hSh⟩, .inr ⟨rfl, rfl⟩⟩
      · exact rest _ _ ⟨_, _, _, _, rfl, dr1.mono (by omega), .inl rfl⟩
    · exact iteF (rest _ _ ⟨_, _, _, _, rfl, dr0.mono (by omega), .inl rfl⟩)
end
end Bw
set_option Elab.async false
set_option linter.all false
set_option maxRecDepth 100000
set_option maxHeartbeats 4000000
/-! BwS: the law's own head, where its def runs at the caller (no guard stands there). -/
namespace Bw
open PySem PySem.Spec PyProof.Rows L2
/-- what the def of the law must do at the caller, over any base -/
def RunsAt (P : Program) (w : World) (K : PySem.W.Frag) (mg : Str → Option Value) (fa : Addr) : Prop :=
  ∀ base : Heap, K.In base → base.Ns mainGlobals mg → ∀ (s : Shared) (H : Hp) (a : Addr) (ns : List Int), Env0 P w K mg base callerA [] s H → SqL K H a (ns.map V.int) →
    codeAny (model P w) callerA (.call (.ref fa) ⟨[.ref a], []⟩) (CR CX0 [] P w H s (fun v _ => v = .bl true) fun _ _ _ => False) s
theorem law_at {P : Program} {w : World} {K : PySem.W.Frag} {mg mb : Str → Option Value} {fa a : Addr} {s₁ : Shared} {vs : List Value} {ns : List Int}
    (KX : K.In s₁.heap) (hns : s₁.heap.Ns mainGlobals mg) (hb : s₁.heap.Ns builtinsNs mb) (hbb : ∀ x : Str, x ≠ "__name__" → mb x = bootBuiltins x) (hlim : s₁.heap.NoLimit) (hg : s₁.gens = #[])
    (ha : s₁.heap.get? a = some { cls := .type "list", data := .seq vs.toArray }) (hi : IntsAre vs ns) (hl : ns.length ≤ sizeLine) (F : RunsAt P w K mg fa) :
    codeAny (model P w) callerA (.call (.ref fa) ⟨[.ref a], []⟩) (fun r s' => r = .ok (.ret (.bool true)) ∧ OldK s₁.heap s'.heap ∧ s'.os = s₁.os ∧ AllBare s'.gens) s₁ := by
  have rv := vals_ints hi
  have lenV := hi.length
  have go : ∀ H : Hp, Only H → SqL K H a (ns.map V.int) → HOk P w H s₁.heap → (∀ b, H b ≠ none → b = a) → (H a ≠ none → K.lookup a = none) →
      codeAny (model P w) callerA (.call (.ref fa) ⟨[.ref a], []⟩) (fun r s' => r = .ok (.ret (.bool true)) ∧ OldK s₁.heap s'.heap ∧ s'.os = s₁.os ∧ AllBare s'.gens) s₁ := by
    intro H hO hS hok hA hK
    have only : ∀ {b : Addr} {o : Obj}, s₁.heap.get? b = some o → (b = a → False) → H b = none := fun {b o} e h => by
      cases q : H b with
      | none => rfl
      | some u => exact (h (hA b (by rw [q]; simp))).elim
    have dict : ∀ {b : Addr} {m : Str → Option Value}, s₁.heap.Ns b m → (hidT s₁.heap H).Ns b m := fun {b m} ⟨o, es, ep, e, d, r⟩ => ⟨o, es, ep, hidT_get e (only e fun z => by
      subst z
      rw [ha] at e
      cases e
      cases d), d, r⟩
    have hKb : K.In (hidT s₁.heap H) := fun b o e => hidT_get (KX b o e) (by
      cases q : H b with
      | none => rfl
      | some u =>
        have z : b = a := hA b (by rw [q]; simp)
        subst z
        rw [hK (by rw [q]; simp)] at e
        cases e)
    have hM : Mod K mg (hidT s₁.heap H) := ⟨hKb, dict hns, ⟨mb, dict hb, hbb⟩, let ⟨mc, h1, h2⟩ := hlim; ⟨mc, dict h1, h2⟩⟩
    have e0 : Env0 P w K mg (hidT s₁.heap H) callerA [] s₁ H := ⟨rfl, hM, fun b o e => of_hidT e, Nat.le_of_eq (hidT_size _ _), trivial, fun b hb => absurd (show b ∈ ([] : List Addr) from hb) (by simp), hok, .of_eq hg⟩
    refine codeAny_mono (F _ hKb (dict hns) s₁ H a ns e0 hS) fun r s' h => ?_
    cases r with
    | error e => exact False.elim h
    | ok fl =>
      cases fl with
      | next => exact False.elim h
      | brk => exact False.elim h
      | cont => exact False.elim h
      | ret u =>
        obtain ⟨v, H', os, bare, un, hok', r', q⟩ := h
        have q' : v = .bl true := q
        subst q'
        obtain rfl : u = Value.bool true := r'
        refine ⟨rfl, OldK.of_keep fun b o e => ?_, os, bare⟩
        cases q : H b with
        | none => exact un.keep b o e q (by intro z; exact absurd (show b ∈ ([] : List Addr) from z) (by simp)) (by simp)
        | some u =>
          rcases hO b with z | ⟨ob, xs, z⟩
          · rw [q] at z; cases z
          · obtain ⟨e1, _⟩ := hok b _ z
            obtain ⟨e2, _⟩ := hok' b _ (un.frzs b ob _ z)
            rw [e] at e1
            cases e1
            exact e2
  cases hk : K.lookup a with
  | some o =>
    have e := KX a o hk
    rw [ha] at e
    cases e
    exact go (fun _ => none) (fun _ => .inl rfl) (.inr ⟨_, vs.toArray, _, hk, rfl, rfl, rfl, by rw [List.size_toArray, lenV]; exact hl, by simpa using rv⟩) (fun b u z => by have z' : (none : Option HO) = some u := z; cases z') (fun b z => absurd rfl z) fun z => absurd rfl z
  | none =>
    refine go (fun b => if b = a then some (.frz { cls := .type "list", data := .seq vs.toArray } (.lst (ns.map V.int))) else none) (fun b => ?_) (.inl (.inr ⟨{ cls := .type "list", data := .seq vs.toArray }, if_pos rfl⟩)) (fun b u z => ?_) (fun b z => ?_) fun _ => hk
    · by_cases hb : b = a
      · exact .inr ⟨_, _, if_pos hb⟩
      · exact .inl (if_neg hb)
    · by_cases hb : b = a
      · have z' := (if_pos hb).symm.trans z
        cases z'
        subst hb
        exact ⟨ha, by rw [List.length_map]; exact hl, vs, _, rv, ha⟩
      · have z' := (if_neg hb).symm.trans z
        cases z'
    · by_cases hb : b = a
      · exact hb
      · exact absurd (if_neg hb) z
/-- the goal that the head leaves -/
theorem walk_at {l : PySem.W.OpenLaw} {n : Nat} {q : Program} {loose : List Str} {XP : (Str → Option Value) → Heap → Prop} {YP : World → Heap → Prop} {d : DefRec} {K : Params → PySem.W.Frag}
    (hn : l.most = some n) (hn2 : n ≤ sizeLine) (hdf : d.params.defaults = []) (hY : ∀ (w : World) (h : Heap), YP w h → (K w.params).In h)
    (F : ∀ (w : World) (mg : Str → Option Value) (fa : Addr) (h : Heap), (K w.params).In h → h.Ns mainGlobals mg → mg d.name = some (.ref fa) → RunsAt l.prog w (K w.params) mg fa) :
    PySem.W.WalkO q loose XP YP l.row.toRowW d [] (fun f vs => PySem.call f vs) := by
  refine Att.attach_call hn hdf fun w s₀ s₁ mg mb fa o pm cd doc a vs ns G Y ho hd hcd hmg hobj hints hlen hg => ?_
  have KX := hY w _ Y
  exact law_at KX G.T.g G.T.b G.T.builtins G.T.nolimit hg hobj hints (Nat.le_trans hlen hn2) (F w mg fa _ KX G.T.g hmg)
end Bw
set_option Elab.async false
set_option linter.all false
set_option maxRecDepth 100000
set_option maxHeartbeats 8000000
/-! BwT: what the top has written, joined. -/
namespace Bw
open PySem PySem.Spec PyProof.Rows L2
theorem def_mk {K : PySem.W.Frag} {h : Heap} {mg : Str → Option Value} {x : Str} {st : Stmt} {ps : List Str} {f : Addr} {oc : Value} {od an : Option Addr} {osl : Array (Option Value)} {kV doc pm cdv ct : Value} (X : K.In h) (G : h.Ns mainGlobals mg) (a : PySem.W.nsIn K mainGlobals x = some (some (.ref f)))
    (l : K.lookup f = some ⟨oc, od, .func (PySem.W.fnOf x x (defArgs st) (defBody st) (defScope st) .none kV doc pm an cdv ct), osl⟩) (c : PySem.W.codeIn K cdv x = true) (k : PySem.W.keepIn K (.ref f) = true)
    (hb : ∀ (kV doc pm : Value) (an : Option Addr) (cdv ct : Value) (us : List Value), us.length = ps.length → bindArgs (PySem.W.fnOf x x (defArgs st) (defBody st) (defScope st) .none kV doc pm an cdv ct) ⟨us, []⟩ = pure (ps.zip us)) :
    DefAt K mg x st ps f (PySem.W.fnOf x x (defArgs st) (defBody st) (defScope st) .none kV doc pm an cdv ct) := ⟨fun_mk l c k, PySem.W.mg_of X G a, (fun_mk l c k).binds hb⟩
section
variable {P : Program} {w : World} {K : PySem.W.Frag} {mg : Str → Option Value} {base : Heap}
theorem law_stands (B : Blt mg) {f_greatest_divisor : Addr} {d_greatest_divisor : FuncData} (D_greatest_divisor : DefAt K mg "greatest_divisor" s_greatest_divisor ["one", "other"] f_greatest_divisor d_greatest_divisor)
    {f_least_multiple : Addr} {d_least_multiple : FuncData} (D_least_multiple : DefAt K mg "least_multiple" s_least_multiple ["one", "other"] f_least_multiple d_least_multiple)
    {f_lowest : Addr} {d_lowest : FuncData} (D_lowest : DefAt K mg "lowest" s_lowest ["above", "below"] f_lowest d_lowest)
    {f_common_below : Addr} {d_common_below : FuncData} (D_common_below : DefAt K mg "common_below" s_common_below ["fractions"] f_common_below d_common_below)
    {f_numbers_of : Addr} {d_numbers_of : FuncData} (D_numbers_of : DefAt K mg "numbers_of" s_numbers_of ["fractions"] f_numbers_of d_numbers_of)
    {f_total : Addr} {d_total : FuncData} (D_total : DefAt K mg "total" s_total ["fractions"] f_total d_total)
    {f_is_fraction : Addr} {d_is_fraction : FuncData} (D_is_fraction : DefAt K mg "is_fraction" s_is_fraction ["thing"] f_is_fraction d_is_fraction)
    {f_is_fractions : Addr} {d_is_fractions : FuncData} (D_is_fractions : DefAt K mg "is_fractions" s_is_fractions ["thing"] f_is_fractions d_is_fractions)
    {f_lowered : Addr} {d_lowered : FuncData} (D_lowered : DefAt K mg "lowered" s_lowered ["fractions"] f_lowered d_lowered)
    {f_is_shared : Addr} {d_is_shared : FuncData} (D_is_shared : DefAt K mg "is_shared" s_is_shared ["fractions"] f_is_shared d_is_shared)
    {f_first_below : Addr} {d_first_below : FuncData} (D_first_below : DefAt K mg "first_below" s_first_below ["goal", "many"] f_first_below d_first_below)
    {f_leaving : Addr} {d_leaving : FuncData} (D_leaving : DefAt K mg "leaving" s_leaving ["lines", "basis", "place"] f_leaving d_leaving)
    {f_turned : Addr} {d_turned : FuncData} (D_turned : DefAt K mg "turned" s_turned ["line", "pivot_line", "place", "below"] f_turned d_turned)
    {f_begun : Addr} {d_begun : FuncData} (D_begun : DefAt K mg "begun" s_begun ["rows", "rights"] f_begun d_begun)
    {f_solve : Addr} {d_solve : FuncData} (D_solve : DefAt K mg "solve" s_solve ["rows", "rights"] f_solve d_solve)
    {f_news_or_none : Addr} {d_news_or_none : FuncData} (D_news_or_none : DefAt K mg "news_or_none" s_news_or_none ["thing"] f_news_or_none d_news_or_none)
    {f_need_news : Addr} {d_need_news : FuncData} (D_need_news : DefAt K mg "need_news" s_need_news ["thing"] f_need_news d_need_news)
    {f_two_news : Addr} {d_two_news : FuncData} (D_two_news : DefAt K mg "two_news" s_two_news ["news", "other"] f_two_news d_two_news)
    {f_equations_of : Addr} {d_equations_of : FuncData} (D_equations_of : DefAt K mg "equations_of" s_equations_of ["news", "other"] f_equations_of d_equations_of)
    {f_noise_or_game : Addr} {d_noise_or_game : FuncData} (D_noise_or_game : DefAt K mg "noise_or_game" s_noise_or_game ["news", "other"] f_noise_or_game d_noise_or_game)
    {f_tells_more : Addr} {d_tells_more : FuncData} (D_tells_more : DefAt K mg "tells_more" s_tells_more ["news", "other"] f_tells_more d_tells_more)
    {f_best_news : Addr} {d_best_news : FuncData} (D_best_news : DefAt K mg "best_news" s_best_news ["tables"] f_best_news d_best_news)
    {f__law_purse : Addr} {d__law_purse : FuncData} (D__law_purse : DefAt K mg "_law_purse" s__law_purse ["_law_script", "_law_k"] f__law_purse d__law_purse)
    {f__law_pull : Addr} {d__law_pull : FuncData} (D__law_pull : DefAt K mg "_law_pull" s__law_pull ["_law_purse_here", "_law_many"] f__law_pull d__law_pull)
    {f__law_pick : Addr} {d__law_pick : FuncData} (D__law_pick : DefAt K mg "_law_pick" s__law_pick ["_law_purse_here", "_law_items"] f__law_pick d__law_pick)
    {f__law_divisor : Addr} {d__law_divisor : FuncData} (D__law_divisor : DefAt K mg "_law_divisor" s__law_divisor ["_law_one", "_law_twin"] f__law_divisor d__law_divisor)
    {f__law_low : Addr} {d__law_low : FuncData} (D__law_low : DefAt K mg "_law_low" s__law_low ["_law_above", "_law_below"] f__law_low d__law_low)
    {f__law_weights : Addr} {d__law_weights : FuncData} (D__law_weights : DefAt K mg "_law_weights" s__law_weights ["_law_purse_here", "_law_many", "_law_great"] f__law_weights d__law_weights)
    {f__law_sheet : Addr} {d__law_sheet : FuncData} (D__law_sheet : DefAt K mg "_law_sheet" s__law_sheet ["_law_purse_here", "_law_rows", "_law_columns", "_law_great"] f__law_sheet d__law_sheet)
    {f__law_low_sheet : Addr} {d__law_low_sheet : FuncData} (D__law_low_sheet : DefAt K mg "_law_low_sheet" s__law_low_sheet ["_law_sheet_here"] f__law_low_sheet d__law_low_sheet)
    {f__law_small_line : Addr} {d__law_small_line : FuncData} (D__law_small_line : DefAt K mg "_law_small_line" s__law_small_line ["_law_line"] f__law_small_line d__law_small_line)
    {f__law_shown : Addr} {d__law_shown : FuncData} (D__law_shown : DefAt K mg "_law_shown" s__law_shown ["_law_purse_here", "_law_sheet_here"] f__law_shown d__law_shown)
    {f__law_blurred : Addr} {d__law_blurred : FuncData} (D__law_blurred : DefAt K mg "_law_blurred" s__law_blurred ["_law_sheet_here", "_law_blur"] f__law_blurred d__law_blurred)
    {f__law_scaled : Addr} {d__law_scaled : FuncData} (D__law_scaled : DefAt K mg "_law_scaled" s__law_scaled ["_law_sheet_here", "_law_twin"] f__law_scaled d__law_scaled)
    {f__law_tells : Addr} {d__law_tells : FuncData} (D__law_tells : DefAt K mg "_law_tells" s__law_tells ["_law_sheet_here", "_law_twin"] f__law_tells d__law_tells)
    {f__law_next : Addr} {d__law_next : FuncData} (D__law_next : DefAt K mg "_law_next" s__law_next ["_law_purse_here", "_law_sheets", "_law_rows"] f__law_next d__law_next)
    {f__law_due : Addr} {d__law_due : FuncData} (D__law_due : DefAt K mg "_law_due" s__law_due ["_law_sheets"] f__law_due d__law_due)
    {f_law : Addr} {d_law : FuncData} (D_law : DefAt K mg "law" s_law ["_law_script"] f_law d_law)
    {f_ii : Addr} {d_ii : FuncData} (D_ii : FunD K "is_integer" "is_integer" (defArgs s_is_integer) (defBody s_is_integer) (defScope s_is_integer) [.non, .non] [] f_ii d_ii) (g_ii : mg "is_integer" = some (.ref f_ii))
    {a_ZERO : Addr} (hm_ZERO : mg "ZERO" = some (.ref a_ZERO)) {a_ONE : Addr} (hm_ONE : mg "ONE" = some (.ref a_ONE)) (wO : WrT K a_ONE [.int 1, .int 1])
    (hkw : ∀ (s : Shared) (u : Value), BindsTo s d_best_news ⟨[], [("tables", u)]⟩ [("tables", u)]) :
    RunsAt P w K mg f_law := by
  intro base hK hN s H a ns e0 hS
  obtain ⟨G_is_integer1, G_is_integer2⟩ := ok_is_integer1 (P := P) (w := w) (base := base) (fn_is_integer D_ii B) D_ii g_ii
  have G_greatest_divisor := ok_greatest_divisor (P := P) (w := w) (base := base) D_greatest_divisor B
  have G_least_multiple := ok_least_multiple (P := P) (w := w) (base := base) D_least_multiple G_greatest_divisor
  have G_lowest := ok_lowest (P := P) (w := w) (base := base) D_lowest G_greatest_divisor
  have G_common_below := ok_common_below (P := P) (w := w) (base := base) D_common_below G_least_multiple
  have G_numbers_of := ok_numbers_of (P := P) (w := w) (base := base) D_numbers_of G_common_below
  have G_total := ok_total (P := P) (w := w) (base := base) D_total B G_lowest G_numbers_of G_common_below
  have G_is_fraction := ok_is_fraction (P := P) (w := w) (base := base) D_is_fraction B G_is_integer1 G_is_integer2
  have G_is_fractions := ok_is_fractions (P := P) (w := w) (base := base) D_is_fractions B G_is_fraction
  have G_lowered := ok_lowered (P := P) (w := w) (base := base) D_lowered B G_lowest
  have G_is_shared := ok_is_shared (P := P) (w := w) (base := base) D_is_shared B G_total hm_ONE wO
  have G_first_below := ok_first_below (P := P) (w := w) (base := base) D_first_below B
  have G_leaving := ok_leaving (P := P) (w := w) (base := base) D_leaving B
  have G_turned := ok_turned (P := P) (w := w) (base := base) D_turned B
  have G_begun := ok_begun (P := P) (w := w) (base := base) D_begun B
  have G_solve := ok_solve (P := P) (w := w) (base := base) D_solve B G_begun G_first_below G_leaving G_turned
  have G_news_or_none := ok_news_or_none (P := P) (w := w) (base := base) D_news_or_none B G_is_fractions G_lowered G_is_shared
  have G_need_news := ok_need_news (P := P) (w := w) (base := base) D_need_news G_news_or_none
  have G_two_news := ok_two_news (P := P) (w := w) (base := base) D_two_news B G_need_news
  have G_equations_of := ok_equations_of (P := P) (w := w) (base := base) D_equations_of B G_numbers_of
  have G_noise_or_game := ok_noise_or_game (P := P) (w := w) (base := base) D_noise_or_game B G_equations_of G_solve G_lowest G_common_below G_greatest_divisor hm_ZERO
  have G_tells_more := ok_tells_more (P := P) (w := w) (base := base) D_tells_more G_two_news G_noise_or_game
  have G_best_news := ok_best_news (P := P) (w := w) (base := base) D_best_news B G_need_news G_noise_or_game
  have G__law_purse := ok__law_purse (P := P) (w := w) (base := base) D__law_purse B
  have G__law_pull := ok__law_pull (P := P) (w := w) (base := base) D__law_pull B
  have G__law_pick := ok__law_pick (P := P) (w := w) (base := base) D__law_pick B G__law_pull
  have G__law_divisor := ok__law_divisor (P := P) (w := w) (base := base) D__law_divisor B
  have G__law_low := ok__law_low (P := P) (w := w) (base := base) D__law_low B G__law_divisor
  have G__law_weights := ok__law_weights (P := P) (w := w) (base := base) D__law_weights B G__law_pull G__law_pick
  have G__law_sheet := ok__law_sheet (P := P) (w := w) (base := base) D__law_sheet B G__law_weights
  have G__law_low_sheet := ok__law_low_sheet (P := P) (w := w) (base := base) D__law_low_sheet B G__law_low
  have G__law_small_line := ok__law_small_line (P := P) (w := w) (base := base) D__law_small_line B G__law_divisor
  have G__law_shown := ok__law_shown (P := P) (w := w) (base := base) D__law_shown B G__law_pull
  have G__law_blurred := ok__law_blurred (P := P) (w := w) (base := base) D__law_blurred B G__law_divisor G__law_small_line
  have G__law_scaled := ok__law_scaled (P := P) (w := w) (base := base) D__law_scaled B
  have G__law_tells := ok__law_tells (P := P) (w := w) (base := base) D__law_tells B G_tells_more G__law_low_sheet G__law_scaled
  have G__law_next := ok__law_next (P := P) (w := w) (base := base) D__law_next B G__law_pull G__law_pick G__law_sheet G__law_blurred
  have G__law_due := ok__law_due (P := P) (w := w) (base := base) D__law_due B G__law_tells
  have G_best_news_kw : KeptW P w K mg base 9 "best_news" "tables" spBest := by
    refine ⟨f_best_news, d_best_news, D_best_news.g, D_best_news.F.kp, hkw, ?_⟩
    exact fn_best_news D_best_news B G_need_news G_noise_or_game
  refine run_at D_law.F sc_law (us := [.ref a]) (vs := [.ref a]) (k := 12) ⟨rfl, by decide, by decide⟩ e0 (D_law.b s [.ref a] (e0.mod.kin.keeps fun b o e => (e0.bs b o e).1) rfl) (.cons rfl .nil) rfl fun cdv hr => ?_
  exact law_body (Q := fun v _ => v = .bl true) B G__law_purse G__law_pull G__law_shown G_best_news G_best_news_kw G__law_next G__law_due G_tells_more hr rfl hS fun H' => rfl
end
theorem all_mk {P : Program} {w : World} {K : PySem.W.Frag} {h : Heap} {mg : Str → Option Value} {fa : Addr} (X : K.In h) (G : h.Ns mainGlobals mg) (hfa : mg "law" = some (.ref fa))
    {f_greatest_divisor : Addr} {od_greatest_divisor an_greatest_divisor : Option Addr} {sl_greatest_divisor : Array (Option Value)} {oc_greatest_divisor kV_greatest_divisor dc_greatest_divisor pm_greatest_divisor cd_greatest_divisor ct_greatest_divisor : Value}
    (a_greatest_divisor : PySem.W.nsIn K mainGlobals "greatest_divisor" = some (some (.ref f_greatest_divisor))) (l_greatest_divisor : K.lookup f_greatest_divisor = some ⟨oc_greatest_divisor, od_greatest_divisor, .func (PySem.W.fnOf "greatest_divisor" "greatest_divisor" (defArgs s_greatest_divisor) (defBody s_greatest_divisor) (defScope s_greatest_divisor) .none kV_greatest_divisor dc_greatest_divisor pm_greatest_divisor an_greatest_divisor cd_greatest_divisor ct_greatest_divisor), sl_greatest_divisor⟩) (c_greatest_divisor : PySem.W.codeIn K cd_greatest_divisor "greatest_divisor" = true) (k_greatest_divisor : PySem.W.keepIn K (.ref f_greatest_divisor) = true)
    {f_least_multiple : Addr} {od_least_multiple an_least_multiple : Option Addr} {sl_least_multiple : Array (Option Value)} {oc_least_multiple kV_least_multiple dc_least_multiple pm_least_multiple cd_least_multiple ct_least_multiple : Value}
    (a_least_multiple : PySem.W.nsIn K mainGlobals "least_multiple" = some (some (.ref f_least_multiple))) (l_least_multiple : K.lookup f_least_multiple = some ⟨oc_least_multiple, od_least_multiple, .func (PySem.W.fnOf "least_multiple" "least_multiple" (defArgs s_least_multiple) (defBody s_least_multiple) (defScope s_least_multiple) .none kV_least_multiple dc_least_multiple pm_least_multiple an_least_multiple cd_least_multiple ct_least_multiple), sl_least_multiple⟩) (c_least_multiple : PySem.W.codeIn K cd_least_multiple "least_multiple" = true) (k_least_multiple : PySem.W.keepIn K (.ref f_least_multiple) = true)
    {f_lowest : Addr} {od_lowest an_lowest : Option Addr} {sl_lowest : Array (Option Value)} {oc_lowest kV_lowest dc_lowest pm_lowest cd_lowest ct_lowest : Value}
    (a_lowest : PySem.W.nsIn K mainGlobals "lowest" = some (some (.ref f_lowest))) (l_lowest : K.lookup f_lowest = some ⟨oc_lowest, od_lowest, .func (PySem.W.fnOf "lowest" "lowest" (defArgs s_lowest) (defBody s_lowest) (defScope s_lowest) .none kV_lowest dc_lowest pm_lowest an_lowest cd_lowest ct_lowest), sl_lowest⟩) (c_lowest : PySem.W.codeIn K cd_lowest "lowest" = true) (k_lowest : PySem.W.keepIn K (.ref f_lowest) = true)
    {f_common_below : Addr} {od_common_below an_common_below : Option Addr} {sl_common_below : Array (Option Value)} {oc_common_below kV_common_below dc_common_below pm_common_below cd_common_below ct_common_below : Value}
    (a_common_below : PySem.W.nsIn K mainGlobals "common_below" = some (some (.ref f_common_below))) (l_common_below : K.lookup f_common_below = some ⟨oc_common_below, od_common_below, .func (PySem.W.fnOf "common_below" "common_below" (defArgs s_common_below) (defBody s_common_below) (defScope s_common_below) .none kV_common_below dc_common_below pm_common_below an_common_below cd_common_below ct_common_below), sl_common_below⟩) (c_common_below : PySem.W.codeIn K cd_common_below "common_below" = true) (k_common_below : PySem.W.keepIn K (.ref f_common_below) = true)
    {f_numbers_of : Addr} {od_numbers_of an_numbers_of : Option Addr} {sl_numbers_of : Array (Option Value)} {oc_numbers_of kV_numbers_of dc_numbers_of pm_numbers_of cd_numbers_of ct_numbers_of : Value}
    (a_numbers_of : PySem.W.nsIn K mainGlobals "numbers_of" = some (some (.ref f_numbers_of))) (l_numbers_of : K.lookup f_numbers_of = some ⟨oc_numbers_of, od_numbers_of, .func (PySem.W.fnOf "numbers_of" "numbers_of" (defArgs s_numbers_of) (defBody s_numbers_of) (defScope s_numbers_of) .none kV_numbers_of dc_numbers_of pm_numbers_of an_numbers_of cd_numbers_of ct_numbers_of), sl_numbers_of⟩) (c_numbers_of : PySem.W.codeIn K cd_numbers_of "numbers_of" = true) (k_numbers_of : PySem.W.keepIn K (.ref f_numbers_of) = true)
    {f_total : Addr} {od_total an_total : Option Addr} {sl_total : Array (Option Value)} {oc_total kV_total dc_total pm_total cd_total ct_total : Value}
    (a_total : PySem.W.nsIn K mainGlobals "total" = some (some (.ref f_total))) (l_total : K.lookup f_total = some ⟨oc_total, od_total, .func (PySem.W.fnOf "total" "total" (defArgs s_total) (defBody s_total) (defScope s_total) .none kV_total dc_total pm_total an_total cd_total ct_total), sl_total⟩) (c_total : PySem.W.codeIn K cd_total "total" = true) (k_total : PySem.W.keepIn K (.ref f_total) = true)
    {f_is_fraction : Addr} {od_is_fraction an_is_fraction : Option Addr} {sl_is_fraction : Array (Option Value)} {oc_is_fraction kV_is_fraction dc_is_fraction pm_is_fraction cd_is_fraction ct_is_fraction : Value}
    (a_is_fraction : PySem.W.nsIn K mainGlobals "is_fraction" = some (some (.ref f_is_fraction))) (l_is_fraction : K.lookup f_is_fraction = some ⟨oc_is_fraction, od_is_fraction, .func (PySem.W.fnOf "is_fraction" "is_fraction" (defArgs s_is_fraction) (defBody s_is_fraction) (defScope s_is_fraction) .none kV_is_fraction dc_is_fraction pm_is_fraction an_is_fraction cd_is_fraction ct_is_fraction), sl_is_fraction⟩) (c_is_fraction : PySem.W.codeIn K cd_is_fraction "is_fraction" = true) (k_is_fraction : PySem.W.keepIn K (.ref f_is_fraction) = true)
    {f_is_fractions : Addr} {od_is_fractions an_is_fractions : Option Addr} {sl_is_fractions : Array (Option Value)} {oc_is_fractions kV_is_fractions dc_is_fractions pm_is_fractions cd_is_fractions ct_is_fractions : Value}
    (a_is_fractions : PySem.W.nsIn K mainGlobals "is_fractions" = some (some (.ref f_is_fractions))) (l_is_fractions : K.lookup f_is_fractions = some ⟨oc_is_fractions, od_is_fractions, .func (PySem.W.fnOf "is_fractions" "is_fractions" (defArgs s_is_fractions) (defBody s_is_fractions) (defScope s_is_fractions) .none kV_is_fractions dc_is_fractions pm_is_fractions an_is_fractions cd_is_fractions ct_is_fractions), sl_is_fractions⟩) (c_is_fractions : PySem.W.codeIn K cd_is_fractions "is_fractions" = true) (k_is_fractions : PySem.W.keepIn K (.ref f_is_fractions) = true)
    {f_lowered : Addr} {od_lowered an_lowered : Option Addr} {sl_lowered : Array (Option Value)} {oc_lowered kV_lowered dc_lowered pm_lowered cd_lowered ct_lowered : Value}
    (a_lowered : PySem.W.nsIn K mainGlobals "lowered" = some (some (.ref f_lowered))) (l_lowered : K.lookup f_lowered = some ⟨oc_lowered, od_lowered, .func (PySem.W.fnOf "lowered" "lowered" (defArgs s_lowered) (defBody s_lowered) (defScope s_lowered) .none kV_lowered dc_lowered pm_lowered an_lowered cd_lowered ct_lowered), sl_lowered⟩) (c_lowered : PySem.W.codeIn K cd_lowered "lowered" = true) (k_lowered : PySem.W.keepIn K (.ref f_lowered) = true)
    {f_is_shared : Addr} {od_is_shared an_is_shared : Option Addr} {sl_is_shared : Array (Option Value)} {oc_is_shared kV_is_shared dc_is_shared pm_is_shared cd_is_shared ct_is_shared : Value}
    (a_is_shared : PySem.W.nsIn K mainGlobals "is_shared" = some (some (.ref f_is_shared))) (l_is_shared : K.lookup f_is_shared = some ⟨oc_is_shared, od_is_shared, .func (PySem.W.fnOf "is_shared" "is_shared" (defArgs s_is_shared) (defBody s_is_shared) (defScope s_is_shared) .none kV_is_shared dc_is_shared pm_is_shared an_is_shared cd_is_shared ct_is_shared), sl_is_shared⟩) (c_is_shared : PySem.W.codeIn K cd_is_shared "is_shared" = true) (k_is_shared : PySem.W.keepIn K (.ref f_is_shared) = true)
    {f_first_below : Addr} {od_first_below an_first_below : Option Addr} {sl_first_below : Array (Option Value)} {oc_first_below kV_first_below dc_first_below pm_first_below cd_first_below ct_first_below : Value}
    (a_first_below : PySem.W.nsIn K mainGlobals "first_below" = some (some (.ref f_first_below))) (l_first_below : K.lookup f_first_below = some ⟨oc_first_below, od_first_below, .func (PySem.W.fnOf "first_below" "first_below" (defArgs s_first_below) (defBody s_first_below) (defScope s_first_below) .none kV_first_below dc_first_below pm_first_below an_first_below cd_first_below ct_first_below), sl_first_below⟩) (c_first_below : PySem.W.codeIn K cd_first_below "first_below" = true) (k_first_below : PySem.W.keepIn K (.ref f_first_below) = true)
    {f_leaving : Addr} {od_leaving an_leaving : Option Addr} {sl_leaving : Array (Option Value)} {oc_leaving kV_leaving dc_leaving pm_leaving cd_leaving ct_leaving : Value}
    (a_leaving : PySem.W.nsIn K mainGlobals "leaving" = some (some (.ref f_leaving))) (l_leaving : K.lookup f_leaving = some ⟨oc_leaving, od_leaving, .func (PySem.W.fnOf "leaving" "leaving" (defArgs s_leaving) (defBody s_leaving) (defScope s_leaving) .none kV_leaving dc_leaving pm_leaving an_leaving cd_leaving ct_leaving), sl_leaving⟩) (c_leaving : PySem.W.codeIn K cd_leaving "leaving" = true) (k_leaving : PySem.W.keepIn K (.ref f_leaving) = true)
    {f_turned : Addr} {od_turned an_turned : Option Addr} {sl_turned : Array (Option Value)} {oc_turned kV_turned dc_turned pm_turned cd_turned ct_turned : Value}
    (a_turned : PySem.W.nsIn K mainGlobals "turned" = some (some (.ref f_turned))) (l_turned : K.lookup f_turned = some ⟨oc_turned, od_turned, .func (PySem.W.fnOf "turned" "turned" (defArgs s_turned) (defBody s_turned) (defScope s_turned) .none kV_turned dc_turned pm_turned an_turned cd_turned ct_turned), sl_turned⟩) (c_turned : PySem.W.codeIn K cd_turned "turned" = true) (k_turned : PySem.W.keepIn K (.ref f_turned) = true)
    {f_begun : Addr} {od_begun an_begun : Option Addr} {sl_begun : Array (Option Value)} {oc_begun kV_begun dc_begun pm_begun cd_begun ct_begun : Value}
    (a_begun : PySem.W.nsIn K mainGlobals "begun" = some (some (.ref f_begun))) (l_begun : K.lookup f_begun = some ⟨oc_begun, od_begun, .func (PySem.W.fnOf "begun" "begun" (defArgs s_begun) (defBody s_begun) (defScope s_begun) .none kV_begun dc_begun pm_begun an_begun cd_begun ct_begun), sl_begun⟩) (c_begun : PySem.W.codeIn K cd_begun "begun" = true) (k_begun : PySem.W.keepIn K (.ref f_begun) = true)
    {f_solve : Addr} {od_solve an_solve : Option Addr} {sl_solve : Array (Option Value)} {oc_solve kV_solve dc_solve pm_solve cd_solve ct_solve : Value}
    (a_solve : PySem.W.nsIn K mainGlobals "solve" = some (some (.ref f_solve))) (l_solve : K.lookup f_solve = some ⟨oc_solve, od_solve, .func (PySem.W.fnOf "solve" "solve" (defArgs s_solve) (defBody s_solve) (defScope s_solve) .none kV_solve dc_solve pm_solve an_solve cd_solve ct_solve), sl_solve⟩) (c_solve : PySem.W.codeIn K cd_solve "solve" = true) (k_solve : PySem.W.keepIn K (.ref f_solve) = true)
    {f_news_or_none : Addr} {od_news_or_none an_news_or_none : Option Addr} {sl_news_or_none : Array (Option Value)} {oc_news_or_none kV_news_or_none dc_news_or_none pm_news_or_none cd_news_or_none ct_news_or_none : Value}
    (a_news_or_none : PySem.W.nsIn K mainGlobals "news_or_none" = some (some (.ref f_news_or_none))) (l_news_or_none : K.lookup f_news_or_none = some ⟨oc_news_or_none, od_news_or_none, .func (PySem.W.fnOf "news_or_none" "news_or_none" (defArgs s_news_or_none) (defBody s_news_or_none) (defScope s_news_or_none) .none kV_news_or_none dc_news_or_none pm_news_or_none an_news_or_none cd_news_or_none ct_news_or_none), sl_news_or_none⟩) (c_news_or_none : PySem.W.codeIn K cd_news_or_none "news_or_none" = true) (k_news_or_none : PySem.W.keepIn K (.ref f_news_or_none) = true)
    {f_need_news : Addr} {od_need_news an_need_news : Option Addr} {sl_need_news : Array (Option Value)} {oc_need_news kV_need_news dc_need_news pm_need_news cd_need_news ct_need_news : Value}
    (a_need_news : PySem.W.nsIn K mainGlobals "need_news" = some (some (.ref f_need_news))) (l_need_news : K.lookup f_need_news = some ⟨oc_need_news, od_need_news, .func (PySem.W.fnOf "need_news" "need_news" (defArgs s_need_news) (defBody s_need_news) (defScope s_need_news) .none kV_need_news dc_need_news pm_need_news an_need_news cd_need_news ct_need_news), sl_need_news⟩) (c_need_news : PySem.W.codeIn K cd_need_news "need_news" = true) (k_need_news : PySem.W.keepIn K (.ref f_need_news) = true)
    {f_two_news : Addr} {od_two_news an_two_news : Option Addr} {sl_two_news : Array (Option Value)} {oc_two_news kV_two_news dc_two_news pm_two_news cd_two_news ct_two_news : Value}
    (a_two_news : PySem.W.nsIn K mainGlobals "two_news" = some (some (.ref f_two_news))) (l_two_news : K.lookup f_two_news = some ⟨oc_two_news, od_two_news, .func (PySem.W.fnOf "two_news" "two_news" (defArgs s_two_news) (defBody s_two_news) (defScope s_two_news) .none kV_two_news dc_two_news pm_two_news an_two_news cd_two_news ct_two_news), sl_two_news⟩) (c_two_news : PySem.W.codeIn K cd_two_news "two_news" = true) (k_two_news : PySem.W.keepIn K (.ref f_two_news) = true)
    {f_equations_of : Addr} {od_equations_of an_equations_of : Option Addr} {sl_equations_of : Array (Option Value)} {oc_equations_of kV_equations_of dc_equations_of pm_equations_of cd_equations_of ct_equations_of : Value}
    (a_equations_of : PySem.W.nsIn K mainGlobals "equations_of" = some (some (.ref f_equations_of))) (l_equations_of : K.lookup f_equations_of = some ⟨oc_equations_of, od_equations_of, .func (PySem.W.fnOf "equations_of" "equations_of" (defArgs s_equations_of) (defBody s_equations_of) (defScope s_equations_of) .none kV_equations_of dc_equations_of pm_equations_of an_equations_of cd_equations_of ct_equations_of), sl_equations_of⟩) (c_equations_of : PySem.W.codeIn K cd_equations_of "equations_of" = true) (k_equations_of : PySem.W.keepIn K (.ref f_equations_of) = true)
    {f_noise_or_game : Addr} {od_noise_or_game an_noise_or_game : Option Addr} {sl_noise_or_game : Array (Option Value)} {oc_noise_or_game kV_noise_or_game dc_noise_or_game pm_noise_or_game cd_noise_or_game ct_noise_or_game : Value}
    (a_noise_or_game : PySem.W.nsIn K mainGlobals "noise_or_game" = some (some (.ref f_noise_or_game))) (l_noise_or_game : K.lookup f_noise_or_game = some ⟨oc_noise_or_game, od_noise_or_game, .func (PySem.W.fnOf "noise_or_game" "noise_or_game" (defArgs s_noise_or_game) (defBody s_noise_or_game) (defScope s_noise_or_game) .none kV_noise_or_game dc_noise_or_game pm_noise_or_game an_noise_or_game cd_noise_or_game ct_noise_or_game), sl_noise_or_game⟩) (c_noise_or_game : PySem.W.codeIn K cd_noise_or_game "noise_or_game" = true) (k_noise_or_game : PySem.W.keepIn K (.ref f_noise_or_game) = true)
    {f_tells_more : Addr} {od_tells_more an_tells_more : Option Addr} {sl_tells_more : Array (Option Value)} {oc_tells_more kV_tells_more dc_tells_more pm_tells_more cd_tells_more ct_tells_more : Value}
    (a_tells_more : PySem.W.nsIn K mainGlobals "tells_more" = some (some (.ref f_tells_more))) (l_tells_more : K.lookup f_tells_more = some ⟨oc_tells_more, od_tells_more, .func (PySem.W.fnOf "tells_more" "tells_more" (defArgs s_tells_more) (defBody s_tells_more) (defScope s_tells_more) .none kV_tells_more dc_tells_more pm_tells_more an_tells_more cd_tells_more ct_tells_more), sl_tells_more⟩) (c_tells_more : PySem.W.codeIn K cd_tells_more "tells_more" = true) (k_tells_more : PySem.W.keepIn K (.ref f_tells_more) = true)
    {f_best_news : Addr} {od_best_news an_best_news : Option Addr} {sl_best_news : Array (Option Value)} {oc_best_news kV_best_news dc_best_news pm_best_news cd_best_news ct_best_news : Value}
    (a_best_news : PySem.W.nsIn K mainGlobals "best_news" = some (some (.ref f_best_news))) (l_best_news : K.lookup f_best_news = some ⟨oc_best_news, od_best_news, .func (PySem.W.fnOf "best_news" "best_news" (defArgs s_best_news) (defBody s_best_news) (defScope s_best_news) .none kV_best_news dc_best_news pm_best_news an_best_news cd_best_news ct_best_news), sl_best_news⟩) (c_best_news : PySem.W.codeIn K cd_best_news "best_news" = true) (k_best_news : PySem.W.keepIn K (.ref f_best_news) = true)
    {f__law_purse : Addr} {od__law_purse an__law_purse : Option Addr} {sl__law_purse : Array (Option Value)} {oc__law_purse kV__law_purse dc__law_purse pm__law_purse cd__law_purse ct__law_purse : Value}
    (a__law_purse : PySem.W.nsIn K mainGlobals "_law_purse" = some (some (.ref f__law_purse))) (l__law_purse : K.lookup f__law_purse = some ⟨oc__law_purse, od__law_purse, .func (PySem.W.fnOf "_law_purse" "_law_purse" (defArgs s__law_purse) (defBody s__law_purse) (defScope s__law_purse) .none kV__law_purse dc__law_purse pm__law_purse an__law_purse cd__law_purse ct__law_purse), sl__law_purse⟩) (c__law_purse : PySem.W.codeIn K cd__law_purse "_law_purse" = true) (k__law_purse : PySem.W.keepIn K (.ref f__law_purse) = true)
    {f__law_pull : Addr} {od__law_pull an__law_pull : Option Addr} {sl__law_pull : Array (Option Value)} {oc__law_pull kV__law_pull dc__law_pull pm__law_pull cd__law_pull ct__law_pull : Value}
    (a__law_pull : PySem.W.nsIn K mainGlobals "_law_pull" = some (some (.ref f__law_pull))) (l__law_pull : K.lookup f__law_pull = some ⟨oc__law_pull, od__law_pull, .func (PySem.W.fnOf "_law_pull" "_law_pull" (defArgs s__law_pull) (defBody s__law_pull) (defScope s__law_pull) .none kV__law_pull dc__law_pull pm__law_pull an__law_pull cd__law_pull ct__law_pull), sl__law_pull⟩) (c__law_pull : PySem.W.codeIn K cd__law_pull "_law_pull" = true) (k__law_pull : PySem.W.keepIn K (.ref f__law_pull) = true)
    {f__law_pick : Addr} {od__law_pick an__law_pick : Option Addr} {sl__law_pick : Array (Option Value)} {oc__law_pick kV__law_pick dc__law_pick pm__law_pick cd__law_pick ct__law_pick : Value}
    (a__law_pick : PySem.W.nsIn K mainGlobals "_law_pick" = some (some (.ref f__law_pick))) (l__law_pick : K.lookup f__law_pick = some ⟨oc__law_pick, od__law_pick, .func (PySem.W.fnOf "_law_pick" "_law_pick" (defArgs s__law_pick) (defBody s__law_pick) (defScope s__law_pick) .none kV__law_pick dc__law_pick pm__law_pick an__law_pick cd__law_pick ct__law_pick), sl__law_pick⟩) (c__law_pick : PySem.W.codeIn K cd__law_pick "_law_pick" = true) (k__law_pick : PySem.W.keepIn K (.ref f__law_pick) = true)
    {f__law_divisor : Addr} {od__law_divisor an__law_divisor : Option Addr} {sl__law_divisor : Array (Option Value)} {oc__law_divisor kV__law_divisor dc__law_divisor pm__law_divisor cd__law_divisor ct__law_divisor : Value}
    (a__law_divisor : PySem.W.nsIn K mainGlobals "_law_divisor" = some (some (.ref f__law_divisor))) (l__law_divisor : K.lookup f__law_divisor = some ⟨oc__law_divisor, od__law_divisor, .func (PySem.W.fnOf "_law_divisor" "_law_divisor" (defArgs s__law_divisor) (defBody s__law_divisor) (defScope s__law_divisor) .none kV__law_divisor dc__law_divisor pm__law_divisor an__law_divisor cd__law_divisor ct__law_divisor), sl__law_divisor⟩) (c__law_divisor : PySem.W.codeIn K cd__law_divisor "_law_divisor" = true) (k__law_divisor : PySem.W.keepIn K (.ref f__law_divisor) = true)
    {f__law_low : Addr} {od__law_low an__law_low : Option Addr} {sl__law_low : Array (Option Value)} {oc__law_low kV__law_low dc__law_low pm__law_low cd__law_low ct__law_low : Value}
    (a__law_low : PySem.W.nsIn K mainGlobals "_law_low" = some (some (.ref f__law_low))) (l__law_low : K.lookup f__law_low = some ⟨oc__law_low, od__law_low, .func (PySem.W.fnOf "_law_low" "_law_low" (defArgs s__law_low) (defBody s__law_low) (defScope s__law_low) .none kV__law_low dc__law_low pm__law_low an__law_low cd__law_low ct__law_low), sl__law_low⟩) (c__law_low : PySem.W.codeIn K cd__law_low "_law_low" = true) (k__law_low : PySem.W.keepIn K (.ref f__law_low) = true)
    {f__law_weights : Addr} {od__law_weights an__law_weights : Option Addr} {sl__law_weights : Array (Option Value)} {oc__law_weights kV__law_weights dc__law_weights pm__law_weights cd__law_weights ct__law_weights : Value}
    (a__law_weights : PySem.W.nsIn K mainGlobals "_law_weights" = some (some (.ref f__law_weights))) (l__law_weights : K.lookup f__law_weights = some ⟨oc__law_weights, od__law_weights, .func (PySem.W.fnOf "_law_weights" "_law_weights" (defArgs s__law_weights) (defBody s__law_weights) (defScope s__law_weights) .none kV__law_weights dc__law_weights pm__law_weights an__law_weights cd__law_weights ct__law_weights), sl__law_weights⟩) (c__law_weights : PySem.W.codeIn K cd__law_weights "_law_weights" = true) (k__law_weights : PySem.W.keepIn K (.ref f__law_weights) = true)
    {f__law_sheet : Addr} {od__law_sheet an__law_sheet : Option Addr} {sl__law_sheet : Array (Option Value)} {oc__law_sheet kV__law_sheet dc__law_sheet pm__law_sheet cd__law_sheet ct__law_sheet : Value}
    (a__law_sheet : PySem.W.nsIn K mainGlobals "_law_sheet" = some (some (.ref f__law_sheet))) (l__law_sheet : K.lookup f__law_sheet = some ⟨oc__law_sheet, od__law_sheet, .func (PySem.W.fnOf "_law_sheet" "_law_sheet" (defArgs s__law_sheet) (defBody s__law_sheet) (defScope s__law_sheet) .none kV__law_sheet dc__law_sheet pm__law_sheet an__law_sheet cd__law_sheet ct__law_sheet), sl__law_sheet⟩) (c__law_sheet : PySem.W.codeIn K cd__law_sheet "_law_sheet" = true) (k__law_sheet : PySem.W.keepIn K (.ref f__law_sheet) = true)
    {f__law_low_sheet : Addr} {od__law_low_sheet an__law_low_sheet : Option Addr} {sl__law_low_sheet : Array (Option Value)} {oc__law_low_sheet kV__law_low_sheet dc__law_low_sheet pm__law_low_sheet cd__law_low_sheet ct__law_low_sheet : Value}
    (a__law_low_sheet : PySem.W.nsIn K mainGlobals "_law_low_sheet" = some (some (.ref f__law_low_sheet))) (l__law_low_sheet : K.lookup f__law_low_sheet = some ⟨oc__law_low_sheet, od__law_low_sheet, .func (PySem.W.fnOf "_law_low_sheet" "_law_low_sheet" (defArgs s__law_low_sheet) (defBody s__law_low_sheet) (defScope s__law_low_sheet) .none kV__law_low_sheet dc__law_low_sheet pm__law_low_sheet an__law_low_sheet cd__law_low_sheet ct__law_low_sheet), sl__law_low_sheet⟩) (c__law_low_sheet : PySem.W.codeIn K cd__law_low_sheet "_law_low_sheet" = true) (k__law_low_sheet : PySem.W.keepIn K (.ref f__law_low_sheet) = true)
    {f__law_small_line : Addr} {od__law_small_line an__law_small_line : Option Addr} {sl__law_small_line : Array (Option Value)} {oc__law_small_line kV__law_small_line dc__law_small_line pm__law_small_line cd__law_small_line ct__law_small_line : Value}
    (a__law_small_line : PySem.W.nsIn K mainGlobals "_law_small_line" = some (some (.ref f__law_small_line))) (l__law_small_line : K.lookup f__law_small_line = some ⟨oc__law_small_line, od__law_small_line, .func (PySem.W.fnOf "_law_small_line" "_law_small_line" (defArgs s__law_small_line) (defBody s__law_small_line) (defScope s__law_small_line) .none kV__law_small_line dc__law_small_line pm__law_small_line an__law_small_line cd__law_small_line ct__law_small_line), sl__law_small_line⟩) (c__law_small_line : PySem.W.codeIn K cd__law_small_line "_law_small_line" = true) (k__law_small_line : PySem.W.keepIn K (.ref f__law_small_line) = true)
    {f__law_shown : Addr} {od__law_shown an__law_shown : Option Addr} {sl__law_shown : Array (Option Value)} {oc__law_shown kV__law_shown dc__law_shown pm__law_shown cd__law_shown ct__law_shown : Value}
    (a__law_shown : PySem.W.nsIn K mainGlobals "_law_shown" = some (some (.ref f__law_shown))) (l__law_shown : K.lookup f__law_shown = some ⟨oc__law_shown, od__law_shown, .func (PySem.W.fnOf "_law_shown" "_law_shown" (defArgs s__law_shown) (defBody s__law_shown) (defScope s__law_shown) .none kV__law_shown dc__law_shown pm__law_shown an__law_shown cd__law_shown ct__law_shown), sl__law_shown⟩) (c__law_shown : PySem.W.codeIn K cd__law_shown "_law_shown" = true) (k__law_shown : PySem.W.keepIn K (.ref f__law_shown) = true)
    {f__law_blurred : Addr} {od__law_blurred an__law_blurred : Option Addr} {sl__law_blurred : Array (Option Value)} {oc__law_blurred kV__law_blurred dc__law_blurred pm__law_blurred cd__law_blurred ct__law_blurred : Value}
    (a__law_blurred : PySem.W.nsIn K mainGlobals "_law_blurred" = some (some (.ref f__law_blurred))) (l__law_blurred : K.lookup f__law_blurred = some ⟨oc__law_blurred, od__law_blurred, .func (PySem.W.fnOf "_law_blurred" "_law_blurred" (defArgs s__law_blurred) (defBody s__law_blurred) (defScope s__law_blurred) .none kV__law_blurred dc__law_blurred pm__law_blurred an__law_blurred cd__law_blurred ct__law_blurred), sl__law_blurred⟩) (c__law_blurred : PySem.W.codeIn K cd__law_blurred "_law_blurred" = true) (k__law_blurred : PySem.W.keepIn K (.ref f__law_blurred) = true)
    {f__law_scaled : Addr} {od__law_scaled an__law_scaled : Option Addr} {sl__law_scaled : Array (Option Value)} {oc__law_scaled kV__law_scaled dc__law_scaled pm__law_scaled cd__law_scaled ct__law_scaled : Value}
    (a__law_scaled : PySem.W.nsIn K mainGlobals "_law_scaled" = some (some (.ref f__law_scaled))) (l__law_scaled : K.lookup f__law_scaled = some ⟨oc__law_scaled, od__law_scaled, .func (PySem.W.fnOf "_law_scaled" "_law_scaled" (defArgs s__law_scaled) (defBody s__law_scaled) (defScope s__law_scaled) .none kV__law_scaled dc__law_scaled pm__law_scaled an__law_scaled cd__law_scaled ct__law_scaled), sl__law_scaled⟩) (c__law_scaled : PySem.W.codeIn K cd__law_scaled "_law_scaled" = true) (k__law_scaled : PySem.W.keepIn K (.ref f__law_scaled) = true)
    {f__law_tells : Addr} {od__law_tells an__law_tells : Option Addr} {sl__law_tells : Array (Option Value)} {oc__law_tells kV__law_tells dc__law_tells pm__law_tells cd__law_tells ct__law_tells : Value}
    (a__law_tells : PySem.W.nsIn K mainGlobals "_law_tells" = some (some (.ref f__law_tells))) (l__law_tells : K.lookup f__law_tells = some ⟨oc__law_tells, od__law_tells, .func (PySem.W.fnOf "_law_tells" "_law_tells" (defArgs s__law_tells) (defBody s__law_tells) (defScope s__law_tells) .none kV__law_tells dc__law_tells pm__law_tells an__law_tells cd__law_tells ct__law_tells), sl__law_tells⟩) (c__law_tells : PySem.W.codeIn K cd__law_tells "_law_tells" = true) (k__law_tells : PySem.W.keepIn K (.ref f__law_tells) = true)
    {f__law_next : Addr} {od__law_next an__law_next : Option Addr} {sl__law_next : Array (Option Value)} {oc__law_next kV__law_next dc__law_next pm__law_next cd__law_next ct__law_next : Value}
    (a__law_next : PySem.W.nsIn K mainGlobals "_law_next" = some (some (.ref f__law_next))) (l__law_next : K.lookup f__law_next = some ⟨oc__law_next, od__law_next, .func (PySem.W.fnOf "_law_next" "_law_next" (defArgs s__law_next) (defBody s__law_next) (defScope s__law_next) .none kV__law_next dc__law_next pm__law_next an__law_next cd__law_next ct__law_next), sl__law_next⟩) (c__law_next : PySem.W.codeIn K cd__law_next "_law_next" = true) (k__law_next : PySem.W.keepIn K (.ref f__law_next) = true)
    {f__law_due : Addr} {od__law_due an__law_due : Option Addr} {sl__law_due : Array (Option Value)} {oc__law_due kV__law_due dc__law_due pm__law_due cd__law_due ct__law_due : Value}
    (a__law_due : PySem.W.nsIn K mainGlobals "_law_due" = some (some (.ref f__law_due))) (l__law_due : K.lookup f__law_due = some ⟨oc__law_due, od__law_due, .func (PySem.W.fnOf "_law_due" "_law_due" (defArgs s__law_due) (defBody s__law_due) (defScope s__law_due) .none kV__law_due dc__law_due pm__law_due an__law_due cd__law_due ct__law_due), sl__law_due⟩) (c__law_due : PySem.W.codeIn K cd__law_due "_law_due" = true) (k__law_due : PySem.W.keepIn K (.ref f__law_due) = true)
    {f_law : Addr} {od_law an_law : Option Addr} {sl_law : Array (Option Value)} {oc_law kV_law dc_law pm_law cd_law ct_law : Value}
    (a_law : PySem.W.nsIn K mainGlobals "law" = some (some (.ref f_law))) (l_law : K.lookup f_law = some ⟨oc_law, od_law, .func (PySem.W.fnOf "law" "law" (defArgs s_law) (defBody s_law) (defScope s_law) .none kV_law dc_law pm_law an_law cd_law ct_law), sl_law⟩) (c_law : PySem.W.codeIn K cd_law "law" = true) (k_law : PySem.W.keepIn K (.ref f_law) = true)
    {f_ii T_ii : Addr} {od_ii an_ii dT : Option Addr} {sl_ii sT : Array (Option Value)} {oc_ii kV_ii dc_ii pm_ii cd_ii ct_ii cT : Value} {nT : Nat}
    (a_ii : PySem.W.nsIn K mainGlobals "is_integer" = some (some (.ref f_ii))) (l_ii : K.lookup f_ii = some ⟨oc_ii, od_ii, .func (PySem.W.fnOf "is_integer" "is_integer" (defArgs s_is_integer) (defBody s_is_integer) (defScope s_is_integer) (.ref T_ii) kV_ii dc_ii pm_ii an_ii cd_ii ct_ii), sl_ii⟩) (c_ii : PySem.W.codeIn K cd_ii "is_integer" = true) (k_ii : PySem.W.keepIn K (.ref f_ii) = true) (t_ii : K.lookup T_ii = some ⟨cT, dT, .seq #[.none, .none] nT, sT⟩)
    {a_ZERO a_ONE : Addr} {dO : Option Addr} {sO : Array (Option Value)} {nO : Nat} {t1 t2 : Tok} (a_Z : PySem.W.nsIn K mainGlobals "ZERO" = some (some (.ref a_ZERO))) (a_O : PySem.W.nsIn K mainGlobals "ONE" = some (some (.ref a_ONE))) (t_O : K.lookup a_ONE = some ⟨.type "tuple", dO, .seq #[.int 1 t1, .int 1 t2] nO, sO⟩)
    (z_abs : PySem.W.nsIn K mainGlobals "abs" = some none) (z_len : PySem.W.nsIn K mainGlobals "len" = some none) (z_sum : PySem.W.nsIn K mainGlobals "sum" = some none) (z_max : PySem.W.nsIn K mainGlobals "max" = some none) (z_isinstance : PySem.W.nsIn K mainGlobals "isinstance" = some none) (z_repr : PySem.W.nsIn K mainGlobals "repr" = some none) (z_sorted : PySem.W.nsIn K mainGlobals "sorted" = some none) (z_int : PySem.W.nsIn K mainGlobals "int" = some none) (z_bool : PySem.W.nsIn K mainGlobals "bool" = some none) (z_list : PySem.W.nsIn K mainGlobals "list" = some none) (z_tuple : PySem.W.nsIn K mainGlobals "tuple" = some none) (z_range : PySem.W.nsIn K mainGlobals "range" = some none) (z_zip : PySem.W.nsIn K mainGlobals "zip" = some none) (z_enumerate : PySem.W.nsIn K mainGlobals "enumerate" = some none) :
    RunsAt P w K mg fa := by
  have e := hfa.symm.trans (PySem.W.mg_of X G a_law)
  cases e
  have B : Blt mg := ⟨PySem.W.mg_none_of X G z_abs, PySem.W.mg_none_of X G z_len, PySem.W.mg_none_of X G z_sum, PySem.W.mg_none_of X G z_max, PySem.W.mg_none_of X G z_isinstance, PySem.W.mg_none_of X G z_repr, PySem.W.mg_none_of X G z_sorted, PySem.W.mg_none_of X G z_int, PySem.W.mg_none_of X G z_bool, PySem.W.mg_none_of X G z_list, PySem.W.mg_none_of X G z_tuple, PySem.W.mg_none_of X G z_range, PySem.W.mg_none_of X G z_zip, PySem.W.mg_none_of X G z_enumerate⟩
  have D_greatest_divisor := def_mk (ps := ["one", "other"]) (st := s_greatest_divisor) X G a_greatest_divisor l_greatest_divisor c_greatest_divisor k_greatest_divisor fun _ _ _ _ _ _ us hl => match us, hl with | [_, _], _ => rfl
  have D_least_multiple := def_mk (ps := ["one", "other"]) (st := s_least_multiple) X G a_least_multiple l_least_multiple c_least_multiple k_least_multiple fun _ _ _ _ _ _ us hl => match us, hl with | [_, _], _ => rfl
  have D_lowest := def_mk (ps := ["above", "below"]) (st := s_lowest) X G a_lowest l_lowest c_lowest k_lowest fun _ _ _ _ _ _ us hl => match us, hl with | [_, _], _ => rfl
  have D_common_below := def_mk (ps := ["fractions"]) (st := s_common_below) X G a_common_below l_common_below c_common_below k_common_below fun _ _ _ _ _ _ us hl => match us, hl with | [_], _ => rfl
  have D_numbers_of := def_mk (ps := ["fractions"]) (st := s_numbers_of) X G a_numbers_of l_numbers_of c_numbers_of k_numbers_of fun _ _ _ _ _ _ us hl => match us, hl with | [_], _ => rfl
  have D_total := def_mk (ps := ["fractions"]) (st := s_total) X G a_total l_total c_total k_total fun _ _ _ _ _ _ us hl => match us, hl with | [_], _ => rfl
  have D_is_fraction := def_mk (ps := ["thing"]) (st := s_is_fraction) X G a_is_fraction l_is_fraction c_is_fraction k_is_fraction fun _ _ _ _ _ _ us hl => match us, hl with | [_], _ => rfl
  have D_is_fractions := def_mk (ps := ["thing"]) (st := s_is_fractions) X G a_is_fractions l_is_fractions c_is_fractions k_is_fractions fun _ _ _ _ _ _ us hl => match us, hl with | [_], _ => rfl
  have D_lowered := def_mk (ps := ["fractions"]) (st := s_lowered) X G a_lowered l_lowered c_lowered k_lowered fun _ _ _ _ _ _ us hl => match us, hl with | [_], _ => rfl
  have D_is_shared := def_mk (ps := ["fractions"]) (st := s_is_shared) X G a_is_shared l_is_shared c_is_shared k_is_shared fun _ _ _ _ _ _ us hl => match us, hl with | [_], _ => rfl
  have D_first_below := def_mk (ps := ["goal", "many"]) (st := s_first_below) X G a_first_below l_first_below c_first_below k_first_below fun _ _ _ _ _ _ us hl => match us, hl with | [_, _], _ => rfl
  have D_leaving := def_mk (ps := ["lines", "basis", "place"]) (st := s_leaving) X G a_leaving l_leaving c_leaving k_leaving fun _ _ _ _ _ _ us hl => match us, hl with | [_, _, _], _ => rfl
  have D_turned := def_mk (ps := ["line", "pivot_line", "place", "below"]) (st := s_turned) X G a_turned l_turned c_turned k_turned fun _ _ _ _ _ _ us hl => match us, hl with | [_, _, _, _], _ => rfl
  have D_begun := def_mk (ps := ["rows", "rights"]) (st := s_begun) X G a_begun l_begun c_begun k_begun fun _ _ _ _ _ _ us hl => match us, hl with | [_, _], _ => rfl
  have D_solve := def_mk (ps := ["rows", "rights"]) (st := s_solve) X G a_solve l_solve c_solve k_solve fun _ _ _ _ _ _ us hl => match us, hl with | [_, _], _ => rfl
  have D_news_or_none := def_mk (ps := ["thing"]) (st := s_news_or_none) X G a_news_or_none l_news_or_none c_news_or_none k_news_or_none fun _ _ _ _ _ _ us hl => match us, hl with | [_], _ => rfl
  have D_need_news := def_mk (ps := ["thing"]) (st := s_need_news) X G a_need_news l_need_news c_need_news k_need_news fun _ _ _ _ _ _ us hl => match us, hl with | [_], _ => rfl
  have D_two_news := def_mk (ps := ["news", "other"]) (st := s_two_news) X G a_two_news l_two_news c_two_news k_two_news fun _ _ _ _ _ _ us hl => match us, hl with | [_, _], _ => rfl
  have D_equations_of := def_mk (ps := ["news", "other"]) (st := s_equations_of) X G a_equations_of l_equations_of c_equations_of k_equations_of fun _ _ _ _ _ _ us hl => match us, hl with | [_, _], _ => rfl
  have D_noise_or_game := def_mk (ps := ["news", "other"]) (st := s_noise_or_game) X G a_noise_or_game l_noise_or_game c_noise_or_game k_noise_or_game fun _ _ _ _ _ _ us hl => match us, hl with | [_, _], _ => rfl
  have D_tells_more := def_mk (ps := ["news", "other"]) (st := s_tells_more) X G a_tells_more l_tells_more c_tells_more k_tells_more fun _ _ _ _ _ _ us hl => match us, hl with | [_, _], _ => rfl
  have D_best_news := def_mk (ps := ["tables"]) (st := s_best_news) X G a_best_news l_best_news c_best_news k_best_news fun _ _ _ _ _ _ us hl => match us, hl with | [_], _ => rfl
  have D__law_purse := def_mk (ps := ["_law_script", "_law_k"]) (st := s__law_purse) X G a__law_purse l__law_purse c__law_purse k__law_purse fun _ _ _ _ _ _ us hl => match us, hl with | [_, _], _ => rfl
  have D__law_pull := def_mk (ps := ["_law_purse_here", "_law_many"]) (st := s__law_pull) X G a__law_pull l__law_pull c__law_pull k__law_pull fun _ _ _ _ _ _ us hl => match us, hl with | [_, _], _ => rfl
  have D__law_pick := def_mk (ps := ["_law_purse_here", "_law_items"]) (st := s__law_pick) X G a__law_pick l__law_pick c__law_pick k__law_pick fun _ _ _ _ _ _ us hl => match us, hl with | [_, _], _ => rfl
  have D__law_divisor := def_mk (ps := ["_law_one", "_law_twin"]) (st := s__law_divisor) X G a__law_divisor l__law_divisor c__law_divisor k__law_divisor fun _ _ _ _ _ _ us hl => match us, hl with | [_, _], _ => rfl
  have D__law_low := def_mk (ps := ["_law_above", "_law_below"]) (st := s__law_low) X G a__law_low l__law_low c__law_low k__law_low fun _ _ _ _ _ _ us hl => match us, hl with | [_, _], _ => rfl
  have D__law_weights := def_mk (ps := ["_law_purse_here", "_law_many", "_law_great"]) (st := s__law_weights) X G a__law_weights l__law_weights c__law_weights k__law_weights fun _ _ _ _ _ _ us hl => match us, hl with | [_, _, _], _ => rfl
  have D__law_sheet := def_mk (ps := ["_law_purse_here", "_law_rows", "_law_columns", "_law_great"]) (st := s__law_sheet) X G a__law_sheet l__law_sheet c__law_sheet k__law_sheet fun _ _ _ _ _ _ us hl => match us, hl with | [_, _, _, _], _ => rfl
  have D__law_low_sheet := def_mk (ps := ["_law_sheet_here"]) (st := s__law_low_sheet) X G a__law_low_sheet l__law_low_sheet c__law_low_sheet k__law_low_sheet fun _ _ _ _ _ _ us hl => match us, hl with | [_], _ => rfl
  have D__law_small_line := def_mk (ps := ["_law_line"]) (st := s__law_small_line) X G a__law_small_line l__law_small_line c__law_small_line k__law_small_line fun _ _ _ _ _ _ us hl => match us, hl with | [_], _ => rfl
  have D__law_shown := def_mk (ps := ["_law_purse_here", "_law_sheet_here"]) (st := s__law_shown) X G a__law_shown l__law_shown c__law_shown k__law_shown fun _ _ _ _ _ _ us hl => match us, hl with | [_, _], _ => rfl
  have D__law_blurred := def_mk (ps := ["_law_sheet_here", "_law_blur"]) (st := s__law_blurred) X G a__law_blurred l__law_blurred c__law_blurred k__law_blurred fun _ _ _ _ _ _ us hl => match us, hl with | [_, _], _ => rfl
  have D__law_scaled := def_mk (ps := ["_law_sheet_here", "_law_twin"]) (st := s__law_scaled) X G a__law_scaled l__law_scaled c__law_scaled k__law_scaled fun _ _ _ _ _ _ us hl => match us, hl with | [_, _], _ => rfl
  have D__law_tells := def_mk (ps := ["_law_sheet_here", "_law_twin"]) (st := s__law_tells) X G a__law_tells l__law_tells c__law_tells k__law_tells fun _ _ _ _ _ _ us hl => match us, hl with | [_, _], _ => rfl
  have D__law_next := def_mk (ps := ["_law_purse_here", "_law_sheets", "_law_rows"]) (st := s__law_next) X G a__law_next l__law_next c__law_next k__law_next fun _ _ _ _ _ _ us hl => match us, hl with | [_, _, _], _ => rfl
  have D__law_due := def_mk (ps := ["_law_sheets"]) (st := s__law_due) X G a__law_due l__law_due c__law_due k__law_due fun _ _ _ _ _ _ us hl => match us, hl with | [_], _ => rfl
  have D_law := def_mk (ps := ["_law_script"]) (st := s_law) X G a_law l_law c_law k_law fun _ _ _ _ _ _ us hl => match us, hl with | [_], _ => rfl
  have D_ii : FunD K "is_integer" "is_integer" (defArgs s_is_integer) (defBody s_is_integer) (defScope s_is_integer) [.non, .non] [] f_ii _ := ⟨⟨oc_ii, od_ii, .ref T_ii, kV_ii, dc_ii, pm_ii, an_ii, cd_ii, ct_ii, sl_ii, rfl, l_ii, c_ii, .inr ⟨by simp, T_ii, _, [.none, .none], nT, rfl, t_ii, rfl, .cons rfl (.cons rfl .nil)⟩, .inl rfl⟩, k_ii⟩
  exact law_stands B D_greatest_divisor D_least_multiple D_lowest D_common_below D_numbers_of D_total D_is_fraction D_is_fractions D_lowered D_is_shared D_first_below D_leaving D_turned D_begun D_solve D_news_or_none D_need_news D_two_news D_equations_of D_noise_or_game D_tells_more D_best_news D__law_purse D__law_pull D__law_pick D__law_divisor D__law_low D__law_weights D__law_sheet D__law_low_sheet D__law_small_line D__law_shown D__law_blurred D__law_scaled D__law_tells D__law_next D__law_due D_law D_ii (PySem.W.mg_of X G a_ii) (PySem.W.mg_of X G a_Z) (PySem.W.mg_of X G a_O) ⟨_, #[.int 1 t1, .int 1 t2], nO, t_O, rfl, rfl, by show 2 ≤ sizeLine; decide, .cons ⟨_, rfl⟩ (.cons ⟨_, rfl⟩ .nil)⟩ fun s u => .of_eq rfl
end Bw
set_option Elab.async false
set_option linter.all false
/-! BwU: the head. -/
open PySem PySem.W PyProof.Rows in
set_option maxRecDepth 100000 in
set_option maxHeartbeats 0 in
theorem PySem.Challenge.cw_alikechances_k88_whole_best_news_of_some_holds : PySem.Challenge.rw_alikechances_k88_whole_best_news_of_some.Holds := by
  w_on; o_law; k_head; (case hw => w_witness2)
  k_fill
  refine Bw.walk_at (l := PySem.Challenge.rw_alikechances_k88_whole_best_news_of_some) rfl (by decide) rfl (fun w h Y => PySem.W.kIn_of Y) ?F
  case F =>
    intro w mg fa h KX G hmg
    refine' Bw.all_mk KX G hmg ?a_greatest_divisor ?l_greatest_divisor ?c_greatest_divisor ?k_greatest_divisor ?a_least_multiple ?l_least_multiple ?c_least_multiple ?k_least_multiple ?a_lowest ?l_lowest ?c_lowest ?k_lowest ?a_common_below ?l_common_below ?c_common_below ?k_common_below ?a_numbers_of ?l_numbers_of ?c_numbers_of ?k_numbers_of ?a_total ?l_total ?c_total ?k_total ?a_is_fraction ?l_is_fraction ?c_is_fraction ?k_is_fraction ?a_is_fractions ?l_is_fractions ?c_is_fractions ?k_is_fractions ?a_lowered ?l_lowered ?c_lowered ?k_lowered ?a_is_shared ?l_is_shared ?c_is_shared ?k_is_shared ?a_first_below ?l_first_below ?c_first_below ?k_first_below ?a_leaving ?l_leaving ?c_leaving ?k_leaving ?a_turned ?l_turned ?c_turned ?k_turned ?a_begun ?l_begun ?c_begun ?k_begun ?a_solve ?l_solve ?c_solve ?k_solve ?a_news_or_none ?l_news_or_none ?c_news_or_none ?k_news_or_none ?a_need_news ?l_need_news ?c_need_news ?k_need_news ?a_two_news ?l_two_news ?c_two_news ?k_two_news ?a_equations_of ?l_equations_of ?c_equations_of ?k_equations_of ?a_noise_or_game ?l_noise_or_game ?c_noise_or_game ?k_noise_or_game ?a_tells_more ?l_tells_more ?c_tells_more ?k_tells_more ?a_best_news ?l_best_news ?c_best_news ?k_best_news ?a__law_purse ?l__law_purse ?c__law_purse ?k__law_purse ?a__law_pull ?l__law_pull ?c__law_pull ?k__law_pull ?a__law_pick ?l__law_pick ?c__law_pick ?k__law_pick ?a__law_divisor ?l__law_divisor ?c__law_divisor ?k__law_divisor ?a__law_low ?l__law_low ?c__law_low ?k__law_low ?a__law_weights ?l__law_weights ?c__law_weights ?k__law_weights ?a__law_sheet ?l__law_sheet ?c__law_sheet ?k__law_sheet ?a__law_low_sheet ?l__law_low_sheet ?c__law_low_sheet ?k__law_low_sheet ?a__law_small_line ?l__law_small_line ?c__law_small_line ?k__law_small_line ?a__law_shown ?l__law_shown ?c__law_shown ?k__law_shown ?a__law_blurred ?l__law_blurred ?c__law_blurred ?k__law_blurred ?a__law_scaled ?l__law_scaled ?c__law_scaled ?k__law_scaled ?a__law_tells ?l__law_tells ?c__law_tells ?k__law_tells ?a__law_next ?l__law_next ?c__law_next ?k__law_next ?a__law_due ?l__law_due ?c__law_due ?k__law_due ?a_law ?l_law ?c_law ?k_law ?a_ii ?l_ii ?c_ii ?k_ii ?t_ii ?a_Z ?a_O ?t_O ?z_abs ?z_len ?z_sum ?z_max ?z_isinstance ?z_repr ?z_sorted ?z_int ?z_bool ?z_list ?z_tuple ?z_range ?z_zip ?z_enumerate
    (case a_greatest_divisor => k_is)
    (case l_greatest_divisor => k_is)
    (case c_greatest_divisor => k_is)
    (case k_greatest_divisor => k_is)
    (case a_least_multiple => k_is)
    (case l_least_multiple => k_is)
    (case c_least_multiple => k_is)
    (case k_least_multiple => k_is)
    (case a_lowest => k_is)
    (case l_lowest => k_is)
    (case c_lowest => k_is)
    (case k_lowest => k_is)
    (case a_common_below => k_is)
    (case l_common_below => k_is)
    (case c_common_below => k_is)
    (case k_common_below => k_is)
    (case a_numbers_of => k_is)
    (case l_numbers_of => k_is)
    (case c_numbers_of => k_is)
    (case k_numbers_of => k_is)
    (case a_total => k_is)
    (case l_total => k_is)
    (case c_total => k_is)
    (case k_total => k_is)
    (case a_is_fraction => k_is)
    (case l_is_fraction => k_is)
    (case c_is_fraction => k_is)
    (case k_is_fraction => k_is)
    (case a_is_fractions => k_is)
    (case l_is_fractions => k_is)
    (case c_is_fractions => k_is)
    (case k_is_fractions => k_is)
    (case a_lowered => k_is)
    (case l_lowered => k_is)
    (case c_lowered => k_is)
    (case k_lowered => k_is)
    (case a_is_shared => k_is)
    (case l_is_shared => k_is)
    (case c_is_shared => k_is)
    (case k_is_shared => k_is)
    (case a_first_below => k_is)
    (case l_first_below => k_is)
    (case c_first_below => k_is)
    (case k_first_below => k_is)
    (case a_leaving => k_is)
    (case l_leaving => k_is)
    (case c_leaving => k_is)
    (case k_leaving => k_is)
    (case a_turned => k_is)
    (case l_turned => k_is)
    (case c_turned => k_is)
    (case k_turned => k_is)
    (case a_begun => k_is)
    (case l_begun => k_is)
    (case c_begun => k_is)
    (case k_begun => k_is)
    (case a_solve => k_is)
    (case l_solve => k_is)
    (case c_solve => k_is)
    (case k_solve => k_is)
    (case a_news_or_none => k_is)
    (case l_news_or_none => k_is)
    (case c_news_or_none => k_is)
    (case k_news_or_none => k_is)
    (case a_need_news => k_is)
    (case l_need_news => k_is)
    (case c_need_news => k_is)
    (case k_need_news => k_is)
    (case a_two_news => k_is)
    (case l_two_news => k_is)
    (case c_two_news => k_is)
    (case k_two_news => k_is)
    (case a_equations_of => k_is)
    (case l_equations_of => k_is)
    (case c_equations_of => k_is)
    (case k_equations_of => k_is)
    (case a_noise_or_game => k_is)
    (case l_noise_or_game => k_is)
    (case c_noise_or_game => k_is)
    (case k_noise_or_game => k_is)
    (case a_tells_more => k_is)
    (case l_tells_more => k_is)
    (case c_tells_more => k_is)
    (case k_tells_more => k_is)
    (case a_best_news => k_is)
    (case l_best_news => k_is)
    (case c_best_news => k_is)
    (case k_best_news => k_is)
    (case a__law_purse => k_is)
    (case l__law_purse => k_is)
    (case c__law_purse => k_is)
    (case k__law_purse => k_is)
    (case a__law_pull => k_is)
    (case l__law_pull => k_is)
    (case c__law_pull => k_is)
    (case k__law_pull => k_is)
    (case a__law_pick => k_is)
    (case l__law_pick => k_is)
    (case c__law_pick => k_is)
    (case k__law_pick => k_is)
    (case a__law_divisor => k_is)
    (case l__law_divisor => k_is)
    (case c__law_divisor => k_is)
    (case k__law_divisor => k_is)
    (case a__law_low => k_is)
    (case l__law_low => k_is)
    (case c__law_low => k_is)
    (case k__law_low => k_is)
    (case a__law_weights => k_is)
    (case l__law_weights => k_is)
    (case c__law_weights => k_is)
    (case k__law_weights => k_is)
    (case a__law_sheet => k_is)
    (case l__law_sheet => k_is)
    (case c__law_sheet => k_is)
    (case k__law_sheet => k_is)
    (case a__law_low_sheet => k_is)
    (case l__law_low_sheet => k_is)
    (case c__law_low_sheet => k_is)
    (case k__law_low_sheet => k_is)
    (case a__law_small_line => k_is)
    (case l__law_small_line => k_is)
    (case c__law_small_line => k_is)
    (case k__law_small_line => k_is)
    (case a__law_shown => k_is)
    (case l__law_shown => k_is)
    (case c__law_shown => k_is)
    (case k__law_shown => k_is)
    (case a__law_blurred => k_is)
    (case l__law_blurred => k_is)
    (case c__law_blurred => k_is)
    (case k__law_blurred => k_is)
    (case a__law_scaled => k_is)
    (case l__law_scaled => k_is)
    (case c__law_scaled => k_is)
    (case k__law_scaled => k_is)
    (case a__law_tells => k_is)
    (case l__law_tells => k_is)
    (case c__law_tells => k_is)
    (case k__law_tells => k_is)
    (case a__law_next => k_is)
    (case l__law_next => k_is)
    (case c__law_next => k_is)
    (case k__law_next => k_is)
    (case a__law_due => k_is)
    (case l__law_due => k_is)
    (case c__law_due => k_is)
    (case k__law_due => k_is)
    (case a_law => k_is)
    (case l_law => k_is)
    (case c_law => k_is)
    (case k_law => k_is)
    (case a_ii => k_is)
    (case l_ii => k_is)
    (case c_ii => k_is)
    (case k_ii => k_is)
    (case t_ii => k_is)
    (case a_Z => k_is)
    (case a_O => k_is)
    (case t_O => k_is)
    (case z_abs => k_is)
    (case z_len => k_is)
    (case z_sum => k_is)
    (case z_max => k_is)
    (case z_isinstance => k_is)
    (case z_repr => k_is)
    (case z_sorted => k_is)
    (case z_int => k_is)
    (case z_bool => k_is)
    (case z_list => k_is)
    (case z_tuple => k_is)
    (case z_range => k_is)
    (case z_zip => k_is)
    (case z_enumerate => k_is)
