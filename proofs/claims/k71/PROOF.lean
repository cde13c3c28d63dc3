import PyProof.Rows.All
import Wide.All
import OpenK.AllK
import HandS.ForMost
import HandS.Wide
import HandS.Gcd
import HandS.Zip
import HandS.TupAny
import HandS.Walk
import HandS.DictComp
import HandS.Codes
import HandS.Property
import OpenK.KMeth
import HandS.Defaults
import HandS.IsInst
import PySem.Challenge.RW_anycompany_k71_whole_losses_of_choices
set_option Elab.async false
set_option linter.all false
section
/-! Sums, expectation, the elimination (plain). -/
namespace AC

/-- sum of f 0 .. f (n-1) -/
def sm : Nat → (Nat → Rat) → Rat
  | 0, _ => 0
  | n + 1, f => sm n f + f n

theorem sm_congr {n : Nat} {f g : Nat → Rat} (h : ∀ i, i < n → f i = g i) : sm n f = sm n g := by
  induction n with
  | zero => rfl
  | succ n ih =>
    show sm n f + f n = sm n g + g n
    rw [ih fun i hi => h i (by omega), h n (by omega)]
theorem sm_zero {n : Nat} {f : Nat → Rat} (h : ∀ i, i < n → f i = 0) : sm n f = 0 := by
  induction n with
  | zero => rfl
  | succ n ih =>
    show sm n f + f n = 0
    rw [ih fun i hi => h i (by omega), h n (by omega)]; exact Rat.add_zero 0
theorem sm_add (n : Nat) (f g : Nat → Rat) : sm n (fun i => f i + g i) = sm n f + sm n g := by
  induction n with
  | zero => exact (Rat.add_zero 0).symm
  | succ n ih => simp only [sm, ih]; grind
theorem sm_sub (n : Nat) (f g : Nat → Rat) : sm n (fun i => f i - g i) = sm n f - sm n g := by
  induction n with
  | zero => simp only [sm]; grind
  | succ n ih => simp only [sm, ih]; grind
theorem sm_mul (n : Nat) (c : Rat) (f : Nat → Rat) : sm n (fun i => c * f i) = c * sm n f := by
  induction n with
  | zero => simp [sm]
  | succ n ih => simp only [sm, ih]; grind
theorem sm_mulr (n : Nat) (c : Rat) (f : Nat → Rat) : sm n (fun i => f i * c) = sm n f * c := by
  induction n with
  | zero => simp [sm]
  | succ n ih => simp only [sm, ih]; grind
theorem sm_le {n : Nat} {f g : Nat → Rat} (h : ∀ i, i < n → f i ≤ g i) : sm n f ≤ sm n g := by
  induction n with
  | zero => exact Rat.le_refl
  | succ n ih =>
    have h1 := ih fun i hi => h i (by omega)
    have h2 := h n (by omega)
    simp only [sm]; grind
theorem sm_nonneg {n : Nat} {f : Nat → Rat} (h : ∀ i, i < n → 0 ≤ f i) : 0 ≤ sm n f := by
  have := sm_le (f := fun _ => 0) h
  rwa [sm_zero fun _ _ => rfl] at this
theorem sm_swap (n m : Nat) (f : Nat → Nat → Rat) : sm n (fun i => sm m (fun j => f i j)) = sm m (fun j => sm n (fun i => f i j)) := by
  induction n with
  | zero => exact (sm_zero fun _ _ => rfl).symm
  | succ n ih =>
    simp only [sm, ih]
    rw [← sm_add]
/-- one summand alone -/
theorem sm_one {n k : Nat} (hk : k < n) {f : Nat → Rat} (h : ∀ i, i < n → i ≠ k → f i = 0) : sm n f = f k := by
  induction n with
  | zero => omega
  | succ n ih =>
    simp only [sm]
    by_cases e : k = n
    · subst e
      rw [sm_zero fun i hi => h i (by omega) (by omega)]; grind
    · rw [ih (by omega) fun i hi => h i (by omega), h n (by omega) (by omega)]; grind
/-- beyond k all is zero -/
theorem sm_short {n k : Nat} (hk : k ≤ n) {f : Nat → Rat} (h : ∀ i, k ≤ i → i < n → f i = 0) : sm n f = sm k f := by
  induction n with
  | zero => have : k = 0 := by omega
            rw [this]
  | succ n ih =>
    by_cases e : k = n + 1
    · rw [e]
    · simp only [sm]
      rw [ih (by omega) fun i h1 h2 => h i h1 (by omega), h n (by omega) (by omega)]; grind
theorem sm_term_le {n k : Nat} (hk : k < n) {f : Nat → Rat} (h : ∀ i, i < n → 0 ≤ f i) : f k ≤ sm n f := by
  induction n with
  | zero => omega
  | succ n ih =>
    simp only [sm]
    have h0 := h n (by omega)
    by_cases e : k = n
    · subst e
      have := sm_nonneg (n := k) (f := f) fun i hi => h i (by omega)
      grind
    · have := ih (by omega) fun i hi => h i (by omega)
      grind
/-- the greatest of finitely many -/
theorem argmax (n : Nat) (hn : 0 < n) (f : Nat → Rat) : ∃ k, k < n ∧ ∀ i, i < n → f i ≤ f k := by
  induction n with
  | zero => omega
  | succ n ih =>
    by_cases h0 : n = 0
    · exact ⟨0, by omega, fun i hi => by have : i = 0 := by omega
                                         rw [this]; exact Rat.le_refl⟩
    · obtain ⟨k, hk, h⟩ := ih (by omega)
      by_cases c : f k ≤ f n
      · exact ⟨n, by omega, fun i hi => by
          by_cases e : i = n
          · rw [e]; exact Rat.le_refl
          · exact Rat.le_trans (h i (by omega)) c⟩
      · exact ⟨k, by omega, fun i hi => by
          by_cases e : i = n
          · rw [e]; grind
          · exact h i (by omega)⟩

/-! ### elimination: rows are told by their combinations y of the given rows -/
section
variable (n : Nat) (M : Nat → Nat → Rat)
/-- y times the matrix, column c -/
def yM (y : Nat → Rat) (c : Nat) : Rat := sm n fun i => y i * M i c
/-- the unit row k -/
def un (k : Nat) : Nat → Rat := fun i => if i = k then 1 else 0
/-- the new row k, less J of the rows before -/
def newY (Y : Nat → Nat → Rat) (k : Nat) : Nat → (Nat → Rat)
  | 0 => un k
  | J + 1 => fun i => newY Y k J i - M k J * Y J i
/-- the new row, its pivot one -/
def divY (Y : Nat → Nat → Rat) (k : Nat) : Nat → Rat := fun i => newY M Y k k i / yM n M (newY M Y k k) k
/-- the rows after k steps -/
def Yk : Nat → Nat → Nat → Rat
  | 0 => fun _ _ => 0
  | k + 1 => fun j => if j = k then divY n M (Yk k) k else fun i => Yk k j i - yM n M (Yk k j) k * divY n M (Yk k) k i

theorem yM_un {k c : Nat} (hk : k < n) : yM n M (un k) c = M k c := by
  unfold yM
  rw [sm_one hk]
  · simp [un]
  · intro i _ h
    simp [un, h]
theorem yM_lin (y z : Nat → Rat) (a : Rat) (c : Nat) : yM n M (fun i => y i - a * z i) c = yM n M y c - a * yM n M z c := by
  unfold yM
  rw [← sm_mul, ← sm_sub]
  exact sm_congr fun i _ => by grind
theorem yM_div (y : Nat → Rat) (a : Rat) (c : Nat) : yM n M (fun i => y i / a) c = yM n M y c / a := by
  unfold yM
  rw [Rat.div_def, ← sm_mulr]
  exact sm_congr fun i _ => by grind

/-- what a matrix of a discounted chain has: row sums at least c > 0, ones or less on the diagonal, the rest not above zero -/
structure Good (c : Rat) : Prop where
  pos : 0 < c
  diag : ∀ i, i < n → M i i ≤ 1
  off : ∀ i j, i < n → j < n → i ≠ j → M i j ≤ 0
  sums : ∀ i, i < n → c ≤ sm n (M i)

/-- the rows after k steps -/
structure Inv (k : Nat) (Y : Nat → Nat → Rat) : Prop where
  nn : ∀ j, j < k → ∀ i, 0 ≤ Y j i
  sup : ∀ j, j < k → ∀ i, k ≤ i → Y j i = 0
  unit : ∀ j, j < k → ∀ c, c < k → yM n M (Y j) c = if c = j then 1 else 0
  off : ∀ j, j < k → ∀ c, k ≤ c → c < n → yM n M (Y j) c ≤ 0
  inj : ∀ d : Nat → Rat, (∀ j, j < k → sm n (fun i => Y j i * d i) = 0) → ∀ i, i < k → d i = 0
variable {n M}
theorem newY_eq (Y : Nat → Nat → Rat) (k J i : Nat) : newY M Y k J i = un k i - sm J (fun j => M k j * Y j i) := by
  induction J with
  | zero => simp [newY, sm]; grind
  | succ J ih => simp only [newY, sm, ih]; grind
theorem newY_yM {Y : Nat → Nat → Rat} {k : Nat} (hk : k < n) (J c : Nat) : yM n M (newY M Y k J) c = M k c - sm J (fun j => M k j * yM n M (Y j) c) := by
  induction J with
  | zero => simp only [newY, sm]; rw [yM_un n M hk]; grind
  | succ J ih =>
    show yM n M (fun i => newY M Y k J i - M k J * Y J i) c = _
    rw [yM_lin, ih]; simp only [sm]; grind
/-- while the rows before are taken off, the later own columns still hold the given entries -/
theorem newY_col {Y : Nat → Nat → Rat} {k : Nat} (hk : k < n) (I : Inv n M k Y) {J c : Nat} (hJ : J ≤ k) (hc : c < k) : yM n M (newY M Y k J) c = if c < J then 0 else M k c := by
  rw [newY_yM hk]
  by_cases h : c < J
  · rw [if_pos h, sm_one h]
    · rw [I.unit c hc c hc, if_pos rfl]; grind
    · intro i hi ne
      rw [I.unit i (by omega) c hc, if_neg (by omega)]; grind
  · rw [if_neg h, sm_zero]
    · grind
    · intro i hi
      rw [I.unit i (by omega) c hc, if_neg (by omega)]; grind
section
variable {c0 : Rat} {Y : Nat → Nat → Rat} {k : Nat} (g : Good n M c0) (hk : k < n) (I : Inv n M k Y)
include g hk I
theorem newY_nn {J : Nat} (hJ : J ≤ k) (i : Nat) : 0 ≤ newY M Y k J i := by
  rw [newY_eq]
  have h1 : sm J (fun j => M k j * Y j i) ≤ 0 := by
    have := sm_le (n := J) (f := fun j => M k j * Y j i) (g := fun _ => 0) fun j hj => by
      have a := g.off k j hk (by omega) (by omega)
      have b := I.nn j (by omega) i
      have := Rat.mul_le_mul_of_nonneg_right a b
      grind
    rwa [sm_zero (fun _ _ => rfl)] at this
  have h2 : 0 ≤ un k i := by unfold un; split <;> decide
  grind
theorem newY_sup {J : Nat} (hJ : J ≤ k) {i : Nat} (hi : k < i) : newY M Y k J i = 0 := by
  rw [newY_eq, sm_zero]
  · simp [un, show i ≠ k by omega]; grind
  · intro j hj
    rw [I.sup j (by omega) i (by omega)]; grind
theorem newY_self {J : Nat} (hJ : J ≤ k) : newY M Y k J k = 1 := by
  rw [newY_eq, sm_zero]
  · simp [un]; grind
  · intro j hj
    rw [I.sup j (by omega) k (by omega)]; grind
theorem newY_off {J : Nat} (hJ : J ≤ k) {c : Nat} (hc : k ≤ c) (hcn : c < n) : yM n M (newY M Y k J) c ≤ M k c := by
  rw [newY_yM hk]
  have h1 : 0 ≤ sm J (fun j => M k j * yM n M (Y j) c) := sm_nonneg fun j hj => by
    have a := g.off k j hk (by omega) (by omega)
    have b := I.off j (by omega) c (by omega) hcn
    have := Rat.mul_nonneg (show 0 ≤ - M k j by grind) (show 0 ≤ - yM n M (Y j) c by grind)
    grind
  grind
/-- the pivot -/
theorem piv : c0 ≤ yM n M (newY M Y k k) k := by
  -- the row sum of the new row
  have h1 : sm n (fun c => yM n M (newY M Y k k) c) = sm n (fun i => newY M Y k k i * sm n (M i)) := by
    unfold yM
    rw [sm_swap]
    exact sm_congr fun i _ => by rw [sm_mul]
  have h2 : c0 ≤ sm n (fun i => newY M Y k k i * sm n (M i)) := by
    have t := sm_term_le (n := n) hk (f := fun i => newY M Y k k i * sm n (M i)) fun i hi => by
      have a := newY_nn g hk I (Nat.le_refl k) i
      have b := g.sums i hi
      have p := g.pos
      exact Rat.mul_nonneg a (by grind)
    have e := newY_self g hk I (Nat.le_refl k)
    have b := g.sums k hk
    simp only [e] at t
    grind
  rw [← h1] at h2
  have h3 : sm n (fun c => yM n M (newY M Y k k) c) ≤ sm n (fun c => if c = k then yM n M (newY M Y k k) k else 0) := sm_le fun c hc => by
    by_cases e : c = k
    · rw [if_pos e, e]; exact Rat.le_refl
    · rw [if_neg e]
      by_cases l : c < k
      · rw [newY_col hk I (Nat.le_refl k) l, if_pos l]; exact Rat.le_refl
      · exact Rat.le_trans (newY_off g hk I (Nat.le_refl k) (by omega) hc) (g.off k c hk hc (by omega))
  rw [sm_one hk (f := fun c => if c = k then yM n M (newY M Y k k) k else 0) (fun i _ h => if_neg h)] at h3
  simp only [if_pos] at h3
  exact Rat.le_trans h2 h3
theorem piv_pos : 0 < yM n M (newY M Y k k) k := by
  have := piv g hk I
  have := g.pos
  grind
theorem piv_le : yM n M (newY M Y k k) k ≤ 1 := Rat.le_trans (newY_off g hk I (Nat.le_refl k) (Nat.le_refl k) hk) (g.diag k hk)
theorem divY_nn (i : Nat) : 0 ≤ divY n M Y k i := by
  unfold divY
  have a := newY_nn g hk I (Nat.le_refl k) i
  have p := piv_pos g hk I
  rw [Rat.div_def]
  exact Rat.mul_nonneg a (Rat.le_of_lt (Rat.inv_pos.mpr p))
theorem divY_col (c : Nat) : yM n M (divY n M Y k) c = yM n M (newY M Y k k) c / yM n M (newY M Y k k) k := by
  unfold divY
  rw [yM_div]
theorem inv_succ : Inv n M (k + 1) (fun j => if j = k then divY n M Y k else fun i => Y j i - yM n M (Y j) k * divY n M Y k i) := by
  have p := piv_pos g hk I
  have pu : yM n M (divY n M Y k) k = 1 := by
    rw [divY_col g hk I]; rw [Rat.div_def]; exact Rat.mul_inv_cancel _ (by grind)
  have pc : ∀ c, c < k → yM n M (divY n M Y k) c = 0 := fun c hc => by
    rw [divY_col g hk I, newY_col hk I (Nat.le_refl k) hc, if_pos hc, Rat.div_def, Rat.zero_mul]
  have po : ∀ c, k < c → c < n → yM n M (divY n M Y k) c ≤ 0 := fun c h1 h2 => by
    rw [divY_col g hk I, Rat.div_def]
    have a := Rat.le_trans (newY_off g hk I (Nat.le_refl k) (by omega) h2) (g.off k c hk h2 (by omega))
    have b := Rat.le_of_lt (Rat.inv_pos.mpr p)
    have := Rat.mul_nonneg (show 0 ≤ - yM n M (newY M Y k k) c by grind) b
    grind
  have pn := divY_nn g hk I
  have ps : ∀ i, k < i → divY n M Y k i = 0 := fun i hi => by
    unfold divY
    rw [newY_sup g hk I (Nat.le_refl k) hi, Rat.div_def, Rat.zero_mul]
  refine ⟨fun j hj i => ?_, fun j hj i hi => ?_, fun j hj c hc => ?_, fun j hj c hc hcn => ?_, fun d h => ?_⟩
  · by_cases e : j = k
    · simp only [if_pos e]; exact pn i
    · simp only [if_neg e]
      have a := I.nn j (by omega) i
      have b := I.off j (by omega) k (Nat.le_refl k) hk
      have := Rat.mul_nonneg (show 0 ≤ - yM n M (Y j) k by grind) (pn i)
      grind
  · by_cases e : j = k
    · simp only [if_pos e]; exact ps i (by omega)
    · simp only [if_neg e]
      rw [I.sup j (by omega) i (by omega), ps i (by omega)]; grind
  · by_cases e : j = k
    · simp only [if_pos e]
      by_cases ec : c = k
      · rw [ec, pu, if_pos e.symm]
      · rw [pc c (by omega), if_neg (by omega)]
    · simp only [if_neg e]
      rw [yM_lin]
      by_cases ec : c = k
      · rw [ec, pu, if_neg (by omega)]; grind
      · rw [pc c (by omega), I.unit j (by omega) c (by omega)]; grind
  · by_cases e : j = k
    · simp only [if_pos e]; exact po c (by omega) hcn
    · simp only [if_neg e]
      rw [yM_lin]
      have a := I.off j (by omega) c (by omega) hcn
      have b := I.off j (by omega) k (Nat.le_refl k) hk
      have := Rat.mul_nonneg (show 0 ≤ - yM n M (Y j) k by grind) (show 0 ≤ - yM n M (divY n M Y k) c by have := po c (by omega) hcn; grind)
      grind
  · have hdiv : sm n (fun i => divY n M Y k i * d i) = 0 := by
      have := h k (by omega)
      simpa using this
    have hY : ∀ j, j < k → sm n (fun i => Y j i * d i) = 0 := fun j hj => by
      have := h j (by omega)
      simp only [if_neg (show j ≠ k by omega)] at this
      have e : sm n (fun i => (Y j i - yM n M (Y j) k * divY n M Y k i) * d i) = sm n (fun i => Y j i * d i) - yM n M (Y j) k * sm n (fun i => divY n M Y k i * d i) := by
        rw [← sm_mul, ← sm_sub]
        exact sm_congr fun i _ => by grind
      rw [e, hdiv] at this
      grind
    have d0 := I.inj d hY
    intro i hi
    by_cases ei : i = k
    · subst ei
      have e1 : sm n (fun l => divY n M Y i l * d l) = divY n M Y i i * d i := sm_one hk fun l hl ne => by
        by_cases lt : l < i
        · rw [d0 l lt]; grind
        · rw [ps l (by omega)]; grind
      rw [e1] at hdiv
      have e2 : divY n M Y i i ≠ 0 := by
        unfold divY
        rw [newY_self g hk I (Nat.le_refl i), Rat.div_def]
        have := Rat.inv_pos.mpr p
        grind
      rcases Rat.mul_eq_zero.mp hdiv with z | z
      · exact absurd z e2
      · exact z
    · exact d0 i (by omega)
end
theorem inv_all {c0 : Rat} (g : Good n M c0) : ∀ k, k ≤ n → Inv n M k (Yk n M k)
  | 0, _ => ⟨fun j hj => by omega, fun j hj => by omega, fun j hj => by omega, fun j hj => by omega, fun d h i hi => by omega⟩
  | k + 1, h => inv_succ g (by omega) (inv_all g k (by omega))
/-- the weights of a row together -/
theorem y_sum {c0 : Rat} (g : Good n M c0) {y : Nat → Rat} (nn : ∀ i, 0 ≤ y i) {B : Rat} (h : sm n (yM n M y) ≤ B) : c0 * sm n y ≤ B := by
  have h1 : sm n (yM n M y) = sm n (fun i => y i * sm n (M i)) := by
    unfold yM
    rw [sm_swap]
    exact sm_congr fun i _ => by rw [sm_mul]
  rw [h1] at h
  refine Rat.le_trans ?_ h
  rw [← sm_mul]
  exact sm_le fun i hi => by
    have := Rat.mul_le_mul_of_nonneg_right (g.sums i hi) (nn i)
    grind
/-- the solution of M x = r -/
def solX (n : Nat) (M : Nat → Nat → Rat) (r : Nat → Rat) (j : Nat) : Rat := sm n fun i => Yk n M n j i * r i
theorem solX_ok {c0 : Rat} (g : Good n M c0) (r : Nat → Rat) {i : Nat} (hi : i < n) : sm n (fun j => M i j * solX n M r j) = r i := by
  have I := inv_all g n (Nat.le_refl n)
  have key := I.inj (fun i => sm n (fun j => M i j * solX n M r j) - r i) (fun j hj => ?_) i hi
  · grind
  · have e1 : sm n (fun i => Yk n M n j i * (sm n (fun l => M i l * solX n M r l) - r i)) = sm n (fun i => sm n (fun l => Yk n M n j i * M i l * solX n M r l)) - solX n M r j := by
      unfold solX
      rw [← sm_sub]
      refine sm_congr fun i _ => ?_
      rw [show (fun l => Yk n M n j i * M i l * sm n (fun i => Yk n M n l i * r i)) = (fun l => Yk n M n j i * (M i l * sm n (fun i => Yk n M n l i * r i))) by funext l; grind, sm_mul]
      grind
    rw [e1, sm_swap]
    have e2 : sm n (fun l => sm n (fun i => Yk n M n j i * M i l * solX n M r l)) = sm n (fun l => yM n M (Yk n M n j) l * solX n M r l) := sm_congr fun l _ => by
      rw [sm_mulr]; rfl
    rw [e2, sm_one hj]
    · rw [I.unit j hj j hj, if_pos rfl]; grind
    · intro l hl ne
      rw [I.unit j hj l hl, if_neg ne]; grind
end
end AC
end
section
/-! Curves by knots: slope, value, form, straightening, product (plain). -/
namespace AC
abbrev Pt := Rat × Rat
def line (p q : Pt) : Rat := (q.2 - p.2) / (q.1 - p.1)
/-- the slope to the right of m, m at least the first amount -/
def goS : List Pt → Rat → Rat
  | p :: q :: r, m => if m < q.1 then line p q else goS (q :: r) m
  | _, _ => 1
def slpF (b : Rat) : List Pt → Rat → Rat
  | [], _ => b
  | p :: r, m => if m < p.1 then b else goS (p :: r) m
@[reducible] def slp (ks : List Pt) (m : Rat) : Rat := slpF 0 ks m
/-- the value at m, m at least the first amount -/
def goV : List Pt → Rat → Rat
  | p :: q :: r, m => if m ≤ q.1 then p.2 + line p q * (m - p.1) else goV (q :: r) m
  | _, m => m
def val : List Pt → Rat → Rat
  | [], m => m
  | p :: r, m => if m ≤ p.1 then p.2 else goV (p :: r) m
/-- amounts ascend, the last value is its amount -/
def asc : List Pt → Prop
  | [] => False
  | [p] => p.1 = p.2
  | p :: q :: r => p.1 < q.1 ∧ asc (q :: r)
/-- slopes ascend (weakly) from b on, below one -/
def inc : Rat → List Pt → Prop
  | b, p :: q :: r => b ≤ line p q ∧ line p q < 1 ∧ inc (line p q) (q :: r)
  | b, [_] => b < 1
  | _, [] => False
/-- the form of a curve -/
def wfF : Rat → List Pt → Prop
  | _, [] => False
  | _, [p] => p.1 = p.2
  | b, p :: q :: r => p.1 < q.1 ∧ b < line p q ∧ line p q < 1 ∧ wfF (line p q) (q :: r)
abbrev WF (ks : List Pt) : Prop := wfF 0 ks
/-- straightened -/
def strF : Rat → List Pt → List Pt
  | _, [] => []
  | b, [p] => if b = 1 then [] else [p]
  | b, p :: q :: r => if b = line p q then strF (line p q) (q :: r) else p :: strF (line p q) (q :: r)
theorem slpF_cons (b : Rat) (p : Pt) (r : List Pt) (m : Rat) : slpF b (p :: r) m = if m < p.1 then b else goS (p :: r) m := rfl
theorem val_cons (p : Pt) (r : List Pt) (m : Rat) : val (p :: r) m = if m ≤ p.1 then p.2 else goV (p :: r) m := rfl
def fst1 (ks : List Pt) : Rat := match ks with | [] => 0 | p :: _ => p.1
def lst1 : List Pt → Rat
  | [] => 0
  | [p] => p.1
  | _ :: q :: r => lst1 (q :: r)

theorem line_mul {p q : Pt} (h : p.1 < q.1) : line p q * (q.1 - p.1) = q.2 - p.2 := by
  unfold line; exact Rat.div_mul_cancel (by grind)
theorem line_of {p q : Pt} {s : Rat} (h : p.1 < q.1) (e : s * (q.1 - p.1) = q.2 - p.2) : line p q = s := by
  have := line_mul h
  have d : q.1 - p.1 ≠ 0 := by grind
  unfold line
  rw [← e]; exact Rat.mul_div_cancel d

theorem wf_asc : ∀ {b ks}, wfF b ks → asc ks
  | _, [], h => h
  | _, [_], h => h
  | _, _ :: _ :: _, h => ⟨h.1, wf_asc h.2.2.2⟩
theorem wf_inc : ∀ {b ks}, b < 1 → wfF b ks → inc b ks
  | _, [], _, h => h
  | _, [_], hb, _ => hb
  | _, _ :: _ :: _, _, h => ⟨Rat.le_of_lt h.2.1, h.2.2.1, wf_inc h.2.2.1 h.2.2.2⟩
theorem inc_mono : ∀ {b b' ks}, b' ≤ b → inc b ks → inc b' ks
  | _, _, [], _, h => h
  | _, _, [_], hb, h => by have : _ < (1 : Rat) := h
                           show _ < (1 : Rat)
                           grind
  | _, _, _ :: _ :: _, hb, h => ⟨Rat.le_trans hb h.1, h.2⟩
theorem inc_lt {b ks} (h : inc b ks) : b < 1 := by
  match ks, h with
  | [_], h => exact h
  | _ :: _ :: _, h => have := h.1; have := h.2.1; grind
/-- slopes lie between b and one, and ascend -/
theorem goS_ge : ∀ {b ks m}, inc b ks → b ≤ goS ks m
  | b, [_], m, h => Rat.le_of_lt h
  | b, p :: q :: r, m, h => by
    unfold goS; split
    · exact h.1
    · exact Rat.le_trans h.1 (goS_ge h.2.2)
theorem goS_le : ∀ {b ks m}, inc b ks → goS ks m ≤ 1
  | b, [_], m, h => Rat.le_refl
  | b, p :: q :: r, m, h => by
    unfold goS; split
    · exact Rat.le_of_lt h.2.1
    · exact goS_le h.2.2
theorem goS_mono : ∀ {b ks m m'}, inc b ks → m ≤ m' → goS ks m ≤ goS ks m'
  | b, [_], _, _, _, _ => Rat.le_refl
  | b, p :: q :: r, m, m', h, hm => by
    unfold goS; split
    · split
      · exact Rat.le_refl
      · exact goS_ge h.2.2
    · rw [if_neg (by grind)]
      exact goS_mono h.2.2 hm
theorem slpF_ge {b ks m} (h : inc b ks) : b ≤ slpF b ks m := by
  cases ks with
  | nil => exact h.elim
  | cons p r => rw [slpF_cons]; split
                · exact Rat.le_refl
                · exact goS_ge h
theorem slpF_le {b ks m} (h : inc b ks) : slpF b ks m ≤ 1 := by
  cases ks with
  | nil => exact h.elim
  | cons p r => rw [slpF_cons]; split
                · exact Rat.le_of_lt (inc_lt h)
                · exact goS_le h
theorem slpF_mono {b ks m m'} (h : inc b ks) (hm : m ≤ m') : slpF b ks m ≤ slpF b ks m' := by
  cases ks with
  | nil => exact h.elim
  | cons p r =>
    rw [slpF_cons, slpF_cons]; split
    · split
      · exact Rat.le_refl
      · exact goS_ge h
    · rw [if_neg (by grind)]; exact goS_mono h hm
theorem fst_le_lst : ∀ {ks}, asc ks → fst1 ks ≤ lst1 ks
  | [_], _ => Rat.le_refl
  | p :: q :: r, h => by
    have := fst_le_lst h.2
    have := h.1
    show p.1 ≤ lst1 (q :: r)
    have e : fst1 (q :: r) = q.1 := rfl
    grind
/-- from the last amount on the slope is one, before it less -/
theorem goS_one : ∀ {ks m}, asc ks → lst1 ks ≤ m → goS ks m = 1
  | [_], _, _, _ => rfl
  | p :: q :: r, m, h, hm => by
    have a := fst_le_lst h.2
    have e : fst1 (q :: r) = q.1 := rfl
    have hm : lst1 (q :: r) ≤ m := hm
    unfold goS
    rw [if_neg (by grind)]
    exact goS_one h.2 hm
theorem goS_lt : ∀ {b ks m}, asc ks → inc b ks → m < lst1 ks → fst1 ks ≤ m → goS ks m < 1
  | b, [p], m, _, _, h1, h2 => by have h1 : m < p.1 := h1; have h2 : p.1 ≤ m := h2; grind
  | b, p :: q :: r, m, h, hi, hm, hf => by
    have hm : m < lst1 (q :: r) := hm
    unfold goS; split
    · exact hi.2.1
    · exact goS_lt h.2 hi.2.2 hm (by show q.1 ≤ m; grind)
theorem slpF_one {b ks m} (h : asc ks) (hm : lst1 ks ≤ m) : slpF b ks m = 1 := by
  match ks, h with
  | p :: r, h =>
    have := fst_le_lst h
    have e : fst1 (p :: r) = p.1 := rfl
    rw [slpF_cons, if_neg (by grind)]; exact goS_one h hm
theorem slpF_lt {b ks m} (h : asc ks) (hi : inc b ks) (hm : m < lst1 ks) : slpF b ks m < 1 := by
  match ks, h with
  | p :: r, h =>
    rw [slpF_cons]; split
    · exact inc_lt hi
    · exact goS_lt h hi hm (by show p.1 ≤ _; grind)
/-- no knot in the half open piece: the slope stays -/
theorem goS_same : ∀ {ks : List Pt} {x y : Rat}, (∀ p ∈ ks, ¬ (x < p.1 ∧ p.1 ≤ y)) → x ≤ y → goS ks x = goS ks y
  | [], _, _, _, _ => rfl
  | [_], _, _, _, _ => rfl
  | p :: q :: r, x, y, h, hxy => by
    unfold goS
    have hq := h q (by simp)
    have ih := goS_same (ks := q :: r) (fun z hz => h z (List.mem_cons_of_mem _ hz)) hxy
    by_cases c : x < q.1
    · rw [if_pos c, if_pos (by grind)]
    · rw [if_neg c, if_neg (by grind), ih]
theorem slpF_same {b ks} {x y : Rat} (h : ∀ p ∈ ks, ¬ (x < p.1 ∧ p.1 ≤ y)) (hxy : x ≤ y) : slpF b ks x = slpF b ks y := by
  cases ks with
  | nil => rfl
  | cons p r =>
    have hp := h p (by simp)
    rw [slpF_cons, slpF_cons]
    by_cases c : x < p.1
    · rw [if_pos c, if_pos (by grind)]
    · rw [if_neg c, if_neg (by grind), goS_same h hxy]
/-- no knot strictly between: the value is straight -/
theorem goV_step : ∀ {ks : List Pt} {x y : Rat}, asc ks → fst1 ks ≤ x → (∀ p ∈ ks, ¬ (x < p.1 ∧ p.1 < y)) → x < y → goV ks y - goV ks x = goS ks x * (y - x)
  | [p], x, y, _, _, _, _ => by simp [goV, goS]
  | p :: q :: r, x, y, h, hf, hn, hxy => by
    have hq := hn q (by simp)
    have hf : p.1 ≤ x := hf
    have lm := line_mul h.1
    unfold goV goS
    by_cases c : x < q.1
    · rw [if_pos (show y ≤ q.1 by grind), if_pos (show x ≤ q.1 by grind), if_pos c]; grind
    · rw [if_neg (show ¬ y ≤ q.1 by grind), if_neg c]
      have ih := goV_step h.2 (show q.1 ≤ x by grind) (fun z hz => hn z (List.mem_cons_of_mem _ hz)) hxy
      by_cases d : x ≤ q.1
      · rw [if_pos d]
        have ex : x = q.1 := by grind
        -- the value at q from the left is q.2, from the right too
        have e2 : goV (q :: r) x = q.2 := by
          cases r with
          | nil =>
            have : q.1 = q.2 := h.2
            simp only [goV]; grind
          | cons s r =>
            have : q.1 < s.1 := h.2.1
            unfold goV
            rw [if_pos (by grind), ex]; grind
        have : p.2 + line p q * (x - p.1) = q.2 := by rw [ex]; grind
        grind
      · rw [if_neg d]; exact ih
theorem goV_fst {p : Pt} {r : List Pt} (h : asc (p :: r)) : goV (p :: r) p.1 = p.2 := by
  cases r with
  | nil => have : p.1 = p.2 := h
           simp only [goV]; exact this
  | cons s r =>
    have : p.1 < s.1 := h.1
    unfold goV
    rw [if_pos (by grind)]; grind
theorem val_step {ks : List Pt} {x y : Rat} (h : asc ks) (hn : ∀ p ∈ ks, ¬ (x < p.1 ∧ p.1 < y)) (hxy : x < y) : val ks y - val ks x = slp ks x * (y - x) := by
  match ks, h with
  | p :: r, h =>
    have hp := hn p (by simp)
    rw [val_cons, val_cons, show slp (p :: r) x = _ from slpF_cons 0 p r x]
    by_cases c : x < p.1
    · rw [if_pos (show y ≤ p.1 by grind), if_pos (show x ≤ p.1 by grind), if_pos c]; grind
    · rw [if_neg (show ¬ y ≤ p.1 by grind), if_neg c]
      have st := goV_step h (show p.1 ≤ x by grind) hn hxy
      by_cases d : x ≤ p.1
      · rw [if_pos d]
        have : x = p.1 := by grind
        have := goV_fst h
        grind
      · rw [if_neg d]; exact st
theorem goV_top : ∀ {ks : List Pt} {m : Rat}, asc ks → lst1 ks ≤ m → goV ks m = m
  | [_], _, _, _ => rfl
  | p :: q :: r, m, h, hm => by
    have hm : lst1 (q :: r) ≤ m := hm
    have a := fst_le_lst h.2
    have e : fst1 (q :: r) = q.1 := rfl
    unfold goV
    by_cases d : m ≤ q.1
    · rw [if_pos d]
      have em : m = q.1 := by grind
      have := goV_fst h.2
      have e2 := goV_top h.2 hm
      have lm := line_mul h.1
      rw [em]
      rw [em] at e2
      grind
    · rw [if_neg d]; exact goV_top h.2 hm
theorem val_top {ks : List Pt} {m : Rat} (h : asc ks) (hm : lst1 ks ≤ m) : val ks m = m := by
  match ks, h with
  | p :: r, h =>
    have a := fst_le_lst h
    have e : fst1 (p :: r) = p.1 := rfl
    rw [val_cons]
    by_cases d : m ≤ p.1
    · rw [if_pos d]
      have em : m = p.1 := by grind
      have := goV_fst h
      have := goV_top h hm
      rw [em] at this
      rw [em]; grind
    · rw [if_neg d]; exact goV_top h hm
theorem val_floor {p : Pt} {r : List Pt} {m : Rat} (hm : m ≤ p.1) : val (p :: r) m = p.2 := by
  rw [val_cons, if_pos hm]
theorem lst_mem : ∀ {ks : List Pt}, asc ks → ∃ p ∈ ks, p.1 = lst1 ks
  | [p], _ => ⟨p, by simp, rfl⟩
  | p :: q :: r, h => by
    obtain ⟨z, hz, e⟩ := lst_mem h.2
    exact ⟨z, List.mem_cons_of_mem _ hz, e⟩
theorem le_lst : ∀ {ks : List Pt}, asc ks → ∀ p ∈ ks, p.1 ≤ lst1 ks
  | [p], _, z, hz => by simp at hz; rw [hz]; exact Rat.le_refl
  | p :: q :: r, h, z, hz => by
    show z.1 ≤ lst1 (q :: r)
    rcases List.mem_cons.mp hz with e | e
    · have := fst_le_lst h.2
      have e2 : fst1 (q :: r) = q.1 := rfl
      have := h.1
      rw [e]; grind
    · exact le_lst h.2 z e
theorem fst_le : ∀ {ks : List Pt}, asc ks → ∀ p ∈ ks, fst1 ks ≤ p.1
  | [p], _, z, hz => by simp at hz; rw [hz]; exact Rat.le_refl
  | p :: q :: r, h, z, hz => by
    show p.1 ≤ z.1
    rcases List.mem_cons.mp hz with e | e
    · rw [e]; exact Rat.le_refl
    · have := fst_le h.2 z e
      have e2 : fst1 (q :: r) = q.1 := rfl
      have := h.1
      grind

/-! ### straightening -/
theorem strF_line : ∀ {ks : List Pt} {b : Rat} {p : Pt}, asc ks → inc b ks → p.1 < fst1 ks → (∀ q r, ks = q :: r → line p q = b) → ∃ q r, strF b ks = q :: r ∧ p.1 < q.1 ∧ line p q = b
  | [q], b, p, h, hi, hf, hl => ⟨q, [], (by
      have : b < 1 := hi
      unfold strF; rw [if_neg (by grind)]), hf, hl q [] rfl⟩
  | q :: q' :: r, b, p, h, hi, hf, hl => by
    have hf : p.1 < q.1 := hf
    unfold strF
    by_cases c : b = line q q'
    · rw [if_pos c]
      have h1 := line_mul h.1
      have h2 := line_mul hf
      have h3 := hl q _ rfl
      have e : line p q' = line q q' := line_of (by have := h.1; grind) (by rw [← c, Rat.mul_comm]; rw [← c] at h1; rw [h3] at h2; grind)
      have f : p.1 < fst1 (q' :: r) := by show p.1 < q'.1; have := h.1; grind
      obtain ⟨z, t, e1, e2, e3⟩ := strF_line (p := p) h.2 hi.2.2 f (fun z t ez => by cases ez; exact e)
      exact ⟨z, t, e1, e2, by rw [e3, c]⟩
    · rw [if_neg c]; exact ⟨q, _, rfl, hf, hl q _ rfl⟩
theorem strF_wf : ∀ {ks : List Pt} {b : Rat}, asc ks → inc b ks → wfF b (strF b ks)
  | [q], b, h, hi => by
    have : b < 1 := hi
    unfold strF; rw [if_neg (by grind)]; exact h
  | q :: q' :: r, b, h, hi => by
    unfold strF
    have ih := strF_wf h.2 hi.2.2
    by_cases c : b = line q q'
    · rw [if_pos c]; rw [c]; exact ih
    · rw [if_neg c]
      obtain ⟨z, t, e1, e2, e3⟩ := strF_line (p := q) h.2 hi.2.2 h.1 (fun z t ez => by cases ez; rfl)
      rw [e1] at ih ⊢
      refine ⟨e2, ?_, ?_, ?_⟩
      · rw [e3]; have := hi.1; grind
      · rw [e3]; exact hi.2.1
      · rw [e3]; exact ih
theorem goS_of_ge {ks : List Pt} {b : Rat} {m : Rat} {p : Pt} {r : List Pt} (e : ks = p :: r) (h : p.1 ≤ m) : slpF b ks m = goS ks m := by
  rw [e, slpF_cons, if_neg (by grind)]
theorem strF_slp : ∀ {ks : List Pt} {b : Rat} (m : Rat), asc ks → inc b ks → slpF b (strF b ks) m = slpF b ks m
  | [q], b, m, h, hi => by
    have : b < 1 := hi
    unfold strF; rw [if_neg (by grind)]
  | q :: q' :: r, b, m, h, hi => by
    have ih := strF_slp (b := line q q') m h.2 hi.2.2
    obtain ⟨z, t, e1, e2, e3⟩ := strF_line (p := q) h.2 hi.2.2 h.1 (fun z t ez => by cases ez; rfl)
    have hq : q.1 < q'.1 := h.1
    unfold strF
    by_cases c : b = line q q'
    · rw [if_pos c, c, ih, slpF_cons, slpF_cons]
      rw [goS]
      by_cases a : m < q.1
      · rw [if_pos a, if_pos (show m < q'.1 by grind)]
      · rw [if_neg a]
    · rw [if_neg c, e1]
      rw [e1, slpF_cons, slpF_cons] at ih
      rw [slpF_cons, slpF_cons]
      by_cases a : m < q.1
      · rw [if_pos a, if_pos a]
      · rw [if_neg a, if_neg a]
        rw [goS, goS, e3]
        exact ih
theorem strF_lst : ∀ {ks : List Pt} {b : Rat}, asc ks → inc b ks → lst1 (strF b ks) = lst1 ks
  | [q], b, h, hi => by
    have : b < 1 := hi
    unfold strF; rw [if_neg (by grind)]
  | q :: q' :: r, b, h, hi => by
    have ih := strF_lst h.2 hi.2.2
    unfold strF
    by_cases c : b = line q q'
    · rw [if_pos c, ih]; rfl
    · rw [if_neg c]
      obtain ⟨z, t, e1, _, _⟩ := strF_line (p := q) h.2 hi.2.2 h.1 (fun z t ez => by cases ez; rfl)
      rw [e1] at ih ⊢
      exact ih
theorem strF_sub : ∀ {ks : List Pt} {b : Rat} {p : Pt}, p ∈ strF b ks → p ∈ ks
  | [], _, _, h => by simp [strF] at h
  | [q], b, p, h => by
    unfold strF at h
    split at h
    · simp at h
    · exact h
  | q :: q' :: r, b, p, h => by
    unfold strF at h
    split at h
    · exact List.mem_cons_of_mem _ (strF_sub h)
    · rcases List.mem_cons.mp h with e | e
      · rw [e]; simp
      · exact List.mem_cons_of_mem _ (strF_sub e)

/-! ### induction over finitely many amounts, downward -/
theorem exists_min_above (A : List Rat) (m : Rat) : (∀ a ∈ A, a ≤ m) ∨ ∃ y ∈ A, m < y ∧ ∀ a ∈ A, m < a → y ≤ a := by
  induction A with
  | nil => exact .inl fun a h => by cases h
  | cons x A ih =>
    rcases ih with h | ⟨y, hy, h1, h2⟩
    · by_cases c : x ≤ m
      · exact .inl fun a ha => by
          rcases List.mem_cons.mp ha with e | e
          · rw [e]; exact c
          · exact h a e
      · refine .inr ⟨x, by simp, by grind, fun a ha hm => ?_⟩
        rcases List.mem_cons.mp ha with e | e
        · rw [e]; exact Rat.le_refl
        · have := h a e; grind
    · by_cases c : m < x ∧ x < y
      · refine .inr ⟨x, by simp, c.1, fun a ha hm => ?_⟩
        rcases List.mem_cons.mp ha with e | e
        · rw [e]; exact Rat.le_refl
        · have := h2 a e hm; grind
      · refine .inr ⟨y, List.mem_cons_of_mem _ hy, h1, fun a ha hm => ?_⟩
        rcases List.mem_cons.mp ha with e | e
        · rw [e] at hm ⊢; grind
        · exact h2 a e hm
theorem countP_lt {A : List Rat} {m y : Rat} (hy : y ∈ A) (h : m < y) : (A.filter fun a => decide (y < a)).length < (A.filter fun a => decide (m < a)).length := by
  induction A with
  | nil => cases hy
  | cons x A ih =>
    have sub : (A.filter fun a => decide (y < a)).length ≤ (A.filter fun a => decide (m < a)).length := by
      clear ih hy
      induction A with
      | nil => exact Nat.le_refl _
      | cons z A ih2 =>
        simp only [List.filter_cons]
        by_cases c : y < z
        · rw [if_pos (by simpa using c), if_pos (by simp; grind)]; simp only [List.length_cons]; omega
        · rw [if_neg (by simpa using c)]
          split
          · simp only [List.length_cons]; omega
          · exact ih2
    simp only [List.filter_cons]
    rcases List.mem_cons.mp hy with e | e
    · rw [← e, if_neg (by simp), if_pos (by simpa using h)]
      simp only [List.length_cons]; omega
    · have := ih e
      by_cases c : y < x
      · rw [if_pos (by simpa using c), if_pos (by simp; grind)]; simp only [List.length_cons]; omega
      · rw [if_neg (by simpa using c)]
        split
        · simp only [List.length_cons]; omega
        · exact this
theorem grid (A : List Rat) (P : Rat → Prop) (top : ∀ m, (∀ a ∈ A, a ≤ m) → P m) (step : ∀ x y, x < y → (∀ a ∈ A, ¬ (x < a ∧ a < y)) → P y → P x) : ∀ m, P m := by
  have key : ∀ n m, (A.filter fun a => decide (m < a)).length ≤ n → P m := by
    intro n
    induction n with
    | zero =>
      intro m hm
      rcases exists_min_above A m with h | ⟨y, hy, h1, _⟩
      · exact top m h
      · have := countP_lt hy h1; omega
    | succ n ih =>
      intro m hm
      rcases exists_min_above A m with h | ⟨y, hy, h1, h2⟩
      · exact top m h
      · have := countP_lt hy h1
        exact step m y h1 (fun a ha c => by have := h2 a ha c.1; grind) (ih y (by omega))
  intro m
  exact key _ m (Nat.le_refl _)

/-- straightened: the same values -/
theorem val_eq_of_slp {k1 k2 : List Pt} (h1 : asc k1) (h2 : asc k2) (hl : lst1 k1 = lst1 k2) (hs : ∀ m, slp k1 m = slp k2 m) : ∀ m, val k1 m = val k2 m := by
  refine grid (k1.map (·.1) ++ k2.map (·.1)) _ (fun m hm => ?_) (fun x y hxy hn e => ?_)
  · obtain ⟨p, hp, ep⟩ := lst_mem h1
    have := hm p.1 (by simp; exact .inl ⟨_, hp⟩)
    rw [val_top h1 (by grind), val_top h2 (by grind)]
  · have a := val_step h1 (fun p hp => hn p.1 (by simp; exact .inl ⟨_, hp⟩)) hxy
    have b := val_step h2 (fun p hp => hn p.1 (by simp; exact .inr ⟨_, hp⟩)) hxy
    rw [hs x] at a
    grind
theorem str_val {ks : List Pt} (h : asc ks) (hi : inc 0 ks) (m : Rat) : val (strF 0 ks) m = val ks m :=
  val_eq_of_slp (wf_asc (strF_wf h hi)) h (strF_lst h hi) (fun m => strF_slp m h hi) m

/-! ### the product -/
def mrg : List Rat → List Rat → List Rat
  | [], bs => bs
  | a :: as, [] => a :: as
  | a :: as, b :: bs => if a < b then a :: mrg as (b :: bs) else if b < a then b :: mrg (a :: as) bs else a :: mrg as bs
  termination_by as bs => as.length + bs.length
theorem mem_mrg : ∀ (as bs : List Rat) (x : Rat), x ∈ mrg as bs ↔ x ∈ as ∨ x ∈ bs
  | [], bs, x => by simp [mrg]
  | a :: as, [], x => by simp [mrg]
  | a :: as, b :: bs, x => by
    rw [mrg]
    by_cases c : a < b
    · rw [if_pos c]; simp only [List.mem_cons]; rw [mem_mrg as (b :: bs)]; simp only [List.mem_cons]; grind
    · rw [if_neg c]
      by_cases d : b < a
      · rw [if_pos d]; simp only [List.mem_cons]; rw [mem_mrg (a :: as) bs]; simp only [List.mem_cons]; grind
      · rw [if_neg d]; simp only [List.mem_cons]; rw [mem_mrg as bs]
        have : a = b := by grind
        grind
  termination_by as bs => as.length + bs.length
/-- strictly ascending -/
def up : List Rat → Prop
  | x :: y :: r => x < y ∧ up (y :: r)
  | _ => True
theorem up_lt : ∀ {x : Rat} {r : List Rat}, up (x :: r) → ∀ y ∈ r, x < y
  | x, z :: r, h, y, hy => by
    rcases List.mem_cons.mp hy with e | e
    · rw [e]; exact h.1
    · have := up_lt h.2 y e; have := h.1; grind
theorem up_tail {x : Rat} {r : List Rat} (h : up (x :: r)) : up r := by
  cases r with
  | nil => trivial
  | cons _ _ => exact h.2
theorem up_cons {x : Rat} {r : List Rat} (h : up r) (hx : ∀ y ∈ r, x < y) : up (x :: r) := by
  cases r with
  | nil => trivial
  | cons y r => exact ⟨hx y (by simp), h⟩
theorem up_mrg : ∀ (as bs : List Rat), up as → up bs → up (mrg as bs)
  | [], bs, _, h => by simpa [mrg] using h
  | a :: as, [], h, _ => by simpa [mrg] using h
  | a :: as, b :: bs, ha, hb => by
    rw [mrg]
    by_cases c : a < b
    · rw [if_pos c]
      refine up_cons (up_mrg as (b :: bs) (up_tail ha) hb) fun y hy => ?_
      rcases (mem_mrg _ _ _).mp hy with h | h
      · exact up_lt ha y h
      · rcases List.mem_cons.mp h with e | e
        · rw [e]; exact c
        · have := up_lt hb y e; grind
    · rw [if_neg c]
      by_cases d : b < a
      · rw [if_pos d]
        refine up_cons (up_mrg (a :: as) bs ha (up_tail hb)) fun y hy => ?_
        rcases (mem_mrg _ _ _).mp hy with h | h
        · rcases List.mem_cons.mp h with e | e
          · rw [e]; exact d
          · have := up_lt ha y e; grind
        · exact up_lt hb y h
      · rw [if_neg d]
        refine up_cons (up_mrg as bs (up_tail ha) (up_tail hb)) fun y hy => ?_
        rcases (mem_mrg _ _ _).mp hy with h | h
        · exact up_lt ha y h
        · have := up_lt hb y h; grind
  termination_by as bs => as.length + bs.length
theorem up_asc : ∀ {ks : List Pt}, asc ks → up (ks.map (·.1))
  | [p], _ => trivial
  | p :: q :: r, h => ⟨h.1, up_asc h.2⟩
def amts (a b : List Pt) : List Rat := mrg (a.map (·.1)) (b.map (·.1))
/-- the points of the product, from its amounts -/
def ppts (a b : List Pt) : List Rat → List Pt
  | [] => []
  | [x] => [(x, x)]
  | x :: y :: r => match ppts a b (y :: r) with
    | [] => []
    | p :: t => (x, p.2 - slp a x * slp b x * (y - x)) :: p :: t
theorem ppts_head (a b : List Pt) : ∀ (x : Rat) (r : List Rat), ∃ v t, ppts a b (x :: r) = (x, v) :: t
  | x, [] => ⟨x, [], rfl⟩
  | x, y :: r => by
    obtain ⟨v, t, e⟩ := ppts_head a b y r
    unfold ppts
    rw [e]
    exact ⟨_, _, rfl⟩
theorem ppts_cons (a b : List Pt) (x y : Rat) (r : List Rat) : ∃ v t, ppts a b (y :: r) = (y, v) :: t ∧ ppts a b (x :: y :: r) = (x, v - slp a x * slp b x * (y - x)) :: (y, v) :: t := by
  obtain ⟨v, t, e⟩ := ppts_head a b y r
  refine ⟨v, t, e, ?_⟩
  rw [ppts, e]
theorem ppts_line (x y v s : Rat) (h : x < y) : line (x, v - s * (y - x)) (y, v) = s := line_of h (by grind)
theorem ppts_asc (a b : List Pt) : ∀ {x : Rat} {r : List Rat}, up (x :: r) → asc (ppts a b (x :: r))
  | x, [], _ => by simp [ppts, asc]
  | x, y :: r, h => by
    obtain ⟨v, t, e1, e2⟩ := ppts_cons a b x y r
    have := ppts_asc a b h.2
    rw [e1] at this
    rw [e2]
    exact ⟨h.1, this⟩
theorem ppts_map (a b : List Pt) : ∀ (A : List Rat), (ppts a b A).map (·.1) = A
  | [] => rfl
  | [x] => rfl
  | x :: y :: r => by
    obtain ⟨v, t, e1, e2⟩ := ppts_cons a b x y r
    have := ppts_map a b (y :: r)
    rw [e1] at this
    rw [e2]
    simp only [List.map_cons] at this ⊢
    rw [this]
theorem lst_map : ∀ {k1 k2 : List Pt}, k1.map (·.1) = k2.map (·.1) → lst1 k1 = lst1 k2
  | [], [], _ => rfl
  | [p], [q], h => by simpa [lst1] using h
  | [], _ :: _, h => by simp at h
  | _ :: _, [], h => by simp at h
  | [_], _ :: _ :: _, h => by simp at h
  | _ :: _ :: _, [_], h => by simp at h
  | p :: p' :: r, q :: q' :: t, h => by
    have : (p' :: r).map (·.1) = (q' :: t).map (·.1) := by
      simp only [List.map_cons, List.cons.injEq] at h ⊢
      exact h.2
    exact lst_map (k1 := p' :: r) (k2 := q' :: t) this

section
variable {a b : List Pt} (wa : WF a) (wb : WF b)
include wa wb
/-- the product of slopes at the amounts: ascending, below one before the last -/
theorem ppts_inc : ∀ {x : Rat} {r : List Rat} {c : Rat}, up (x :: r) → (∀ y ∈ x :: r, y ≤ lst1 a ∨ y ≤ lst1 b) → c ≤ slp a x * slp b x → c < 1 → inc c (ppts a b (x :: r))
  | x, [], c, _, _, _, hc => hc
  | x, y :: r, c, h, hm, hx, hc => by
    obtain ⟨v, t, e1, e2⟩ := ppts_cons a b x y r
    have ia := wf_inc (by decide) wa
    have ib := wf_inc (by decide) wb
    have a0 := slpF_ge (m := x) ia
    have b0 := slpF_ge (m := x) ib
    have a1 := slpF_le (m := x) ia
    have b1 := slpF_le (m := x) ib
    have am := slpF_mono (m := x) (m' := y) ia (Rat.le_of_lt h.1)
    have bm := slpF_mono (m := x) (m' := y) ib (Rat.le_of_lt h.1)
    have lt : slp a x * slp b x < 1 := by
      have hxy := h.1
      rcases hm y (by simp) with q | q
      · have l := slpF_lt (wf_asc wa) ia (show x < lst1 a by grind)
        have := Rat.mul_le_mul_of_nonneg_left b1 a0
        grind
      · have l := slpF_lt (wf_asc wb) ib (show x < lst1 b by grind)
        have := Rat.mul_le_mul_of_nonneg_right a1 b0
        grind
    have mono : slp a x * slp b x ≤ slp a y * slp b y := by
      have p1 := Rat.mul_le_mul_of_nonneg_right am b0
      have p2 := Rat.mul_le_mul_of_nonneg_left bm (Rat.le_trans a0 am)
      exact Rat.le_trans p1 p2
    have ih := ppts_inc (c := slp a x * slp b x) h.2 (fun z hz => hm z (List.mem_cons_of_mem _ hz)) mono lt
    rw [e1] at ih
    rw [e2]
    have el := ppts_line x y v (slp a x * slp b x) h.1
    refine ⟨by rw [el]; exact hx, by rw [el]; exact lt, by rw [el]; exact ih⟩
/-- the slope of the points -/
theorem ppts_goS : ∀ {x : Rat} {r : List Rat} {m : Rat}, up (x :: r) → (∀ p ∈ a ++ b, p.1 ∈ x :: r ∨ p.1 ≤ x) → x ≤ m → (∀ y ∈ x :: r, y ≤ m → lst1 a ≤ y → lst1 b ≤ y → True) → (lst1 a ∈ x :: r ∨ lst1 a ≤ x) → (lst1 b ∈ x :: r ∨ lst1 b ≤ x) → goS (ppts a b (x :: r)) m = slp a m * slp b m
  | x, [], m, _, hk, hx, _, la, lb => by
    have l1 : lst1 a ≤ x := by
      rcases la with h | h
      · simp at h; grind
      · exact h
    have l2 : lst1 b ≤ x := by
      rcases lb with h | h
      · simp at h; grind
      · exact h
    show (1 : Rat) = _
    unfold slp
    rw [slpF_one (wf_asc wa) (by grind), slpF_one (wf_asc wb) (by grind)]; grind
  | x, y :: r, m, h, hk, hx, hT, la, lb => by
    obtain ⟨v, t, e1, e2⟩ := ppts_cons a b x y r
    have ih := fun hy => ppts_goS (x := y) (r := r) (m := m) h.2 (fun p hp => by
      have hxy := h.1
      rcases hk p hp with q | q
      · rcases List.mem_cons.mp q with z | z
        · exact .inr (by grind)
        · exact .inl z
      · exact .inr (by grind)) hy (fun _ _ _ _ _ => trivial)
      (by
        have hxy := h.1
        rcases la with q | q
        · rcases List.mem_cons.mp q with z | z
          · exact .inr (by grind)
          · exact .inl z
        · exact .inr (by grind))
      (by
        have hxy := h.1
        rcases lb with q | q
        · rcases List.mem_cons.mp q with z | z
          · exact .inr (by grind)
          · exact .inl z
        · exact .inr (by grind))
    rw [e1] at ih
    rw [e2]
    unfold goS
    have el := ppts_line x y v (slp a x * slp b x) h.1
    by_cases c : m < y
    · rw [if_pos c, el]
      have no : ∀ p ∈ a ++ b, ¬ (x < p.1 ∧ p.1 ≤ m) := fun p hp z => by
        rcases hk p hp with q | q
        · rcases List.mem_cons.mp q with w | w
          · grind
          · rcases List.mem_cons.mp w with w | w
            · grind
            · have := up_lt h.2 _ w; grind
        · grind
      unfold slp
      rw [slpF_same (fun p hp => no p (List.mem_append_left _ hp)) hx, slpF_same (fun p hp => no p (List.mem_append_right _ hp)) hx]
    · rw [if_neg c]; exact ih (by grind)
/-- the knots of the product -/
theorem prod_all : ∃ x r, amts a b = x :: r ∧ asc (ppts a b (amts a b)) ∧ inc 0 (ppts a b (amts a b)) ∧ (∀ m, slp (ppts a b (amts a b)) m = slp a m * slp b m) ∧ (lst1 (ppts a b (amts a b)) = if lst1 a ≤ lst1 b then lst1 b else lst1 a) := by
  have ha := wf_asc wa
  have hb := wf_asc wb
  have hu : up (amts a b) := up_mrg _ _ (up_asc ha) (up_asc hb)
  obtain ⟨pa, hpa, ela⟩ := lst_mem ha
  obtain ⟨pb, hpb, elb⟩ := lst_mem hb
  have ma : lst1 a ∈ amts a b := (mem_mrg _ _ _).mpr (.inl (by rw [← ela]; exact List.mem_map.mpr ⟨pa, hpa, rfl⟩))
  have mb : lst1 b ∈ amts a b := (mem_mrg _ _ _).mpr (.inr (by rw [← elb]; exact List.mem_map.mpr ⟨pb, hpb, rfl⟩))
  have bd : ∀ y ∈ amts a b, y ≤ lst1 a ∨ y ≤ lst1 b := fun y hy => by
    rcases (mem_mrg _ _ _).mp hy with h | h
    · obtain ⟨p, hp, e⟩ := List.mem_map.mp h
      exact .inl (by rw [← e]; exact le_lst ha p hp)
    · obtain ⟨p, hp, e⟩ := List.mem_map.mp h
      exact .inr (by rw [← e]; exact le_lst hb p hp)
  have kn : ∀ p ∈ a ++ b, p.1 ∈ amts a b := fun p hp => by
    rcases List.mem_append.mp hp with h | h
    · exact (mem_mrg _ _ _).mpr (.inl (List.mem_map.mpr ⟨p, h, rfl⟩))
    · exact (mem_mrg _ _ _).mpr (.inr (List.mem_map.mpr ⟨p, h, rfl⟩))
  cases eA : amts a b with
  | nil => rw [eA] at ma; cases ma
  | cons x r =>
    rw [eA] at hu ma mb bd kn
    have hasc : asc (ppts a b (x :: r)) := ppts_asc a b hu
    have ia := wf_inc (by decide) wa
    have ib := wf_inc (by decide) wb
    have hinc : inc 0 (ppts a b (x :: r)) := ppts_inc wa wb hu bd (Rat.mul_nonneg (slpF_ge ia) (slpF_ge ib)) (by decide)
    refine ⟨x, r, rfl, hasc, hinc, fun m => ?_, ?_⟩
    · obtain ⟨v, t, e⟩ := ppts_head a b x r
      by_cases c : m < x
      · -- left of all knots
        have z : slp (ppts a b (x :: r)) m = 0 := by rw [e, show slp ((x, v) :: t) m = _ from slpF_cons 0 _ _ m, if_pos c]
        rw [z]
        match a, ha, kn with
        | p :: ra, _, kn =>
          have hp := kn p (by simp)
          have : x ≤ p.1 := by
            rcases List.mem_cons.mp hp with q | q
            · grind
            · have := up_lt hu _ q; grind
          have : slp (p :: ra) m = 0 := by rw [show slp (p :: ra) m = _ from slpF_cons 0 _ _ m, if_pos (by grind)]
          rw [this]; grind
      · have g := ppts_goS wa wb (m := m) hu (fun p hp => .inl (kn p hp)) (by grind) (fun _ _ _ _ _ => trivial) (.inl ma) (.inl mb)
        have hh : slp ((x, v) :: t) m = if m < x then 0 else goS ((x, v) :: t) m := rfl
        rw [← g, e, hh, if_neg c]
    · -- the last amount
      have e1 : ∀ y ∈ x :: r, y ≤ lst1 (ppts a b (x :: r)) := fun y hy => by
        rw [← ppts_map a b (x :: r)] at hy
        obtain ⟨p, hp, ep⟩ := List.mem_map.mp hy
        rw [← ep]; exact le_lst hasc p hp
      obtain ⟨p, hp, ep⟩ := lst_mem hasc
      have e2 : lst1 (ppts a b (x :: r)) ∈ x :: r := by
        rw [← ep]
        have := List.mem_map (f := fun p : Pt => p.1) |>.mpr ⟨p, hp, rfl⟩
        rwa [ppts_map] at this
      have := e1 _ ma
      have := e1 _ mb
      have := bd _ e2
      split <;> grind
end
def prodK (a b : List Pt) : List Pt := strF 0 (ppts a b (amts a b))
theorem prodK_wf {a b : List Pt} (wa : WF a) (wb : WF b) : WF (prodK a b) := by
  obtain ⟨x, r, e, h1, h2, _⟩ := prod_all wa wb
  exact strF_wf h1 h2
theorem prodK_slp {a b : List Pt} (wa : WF a) (wb : WF b) (m : Rat) : slp (prodK a b) m = slp a m * slp b m := by
  obtain ⟨x, r, e, h1, h2, h3, _⟩ := prod_all wa wb
  unfold prodK slp
  rw [strF_slp m h1 h2]
  exact h3 m
theorem prodK_lst {a b : List Pt} (wa : WF a) (wb : WF b) : lst1 (prodK a b) = if lst1 a ≤ lst1 b then lst1 b else lst1 a := by
  obtain ⟨x, r, e, h1, h2, _, h4⟩ := prod_all wa wb
  unfold prodK
  rw [strF_lst h1 h2, h4]
theorem prodK_amt {a b : List Pt} {p : Pt} (h : p ∈ prodK a b) : (∃ q ∈ a, q.1 = p.1) ∨ (∃ q ∈ b, q.1 = p.1) := by
  have h2 := List.mem_map (f := fun p : Pt => p.1) |>.mpr ⟨p, strF_sub h, rfl⟩
  rw [ppts_map] at h2
  rcases (mem_mrg _ _ _).mp h2 with h | h
  · obtain ⟨q, hq, e⟩ := List.mem_map.mp h
    exact .inl ⟨q, hq, e⟩
  · obtain ⟨q, hq, e⟩ := List.mem_map.mp h
    exact .inr ⟨q, hq, e⟩
end AC
end
section
/-! One game: leaving, the index order, its curves (plain). -/
namespace AC
structure Game where
  rew : List Rat
  mov : List (List (Nat × Rat))
def Game.n (g : Game) : Nat := g.rew.length
def Game.r (g : Game) (s : Nat) : Rat := g.rew.getD s 0
def Game.row (g : Game) (s : Nat) : List (Nat × Rat) := g.mov.getD s []
/-- expectation -/
def ex : List (Nat × Rat) → (Nat → Rat) → Rat
  | [], _ => 0
  | tp :: r, f => tp.2 * f tp.1 + ex r f
structure RowOk (n : Nat) (row : List (Nat × Rat)) : Prop where
  tgt : ∀ tp ∈ row, tp.1 < n
  nn : ∀ tp ∈ row, 0 ≤ tp.2
  tot : ex row (fun _ => 1) = 1
structure GameOk (g : Game) : Prop where
  pos : 0 < g.n
  len : g.mov.length = g.n
  rows : ∀ s, s < g.n → RowOk g.n (g.row s)

theorem ex_congr {row : List (Nat × Rat)} {f h : Nat → Rat} (e : ∀ tp ∈ row, f tp.1 = h tp.1) : ex row f = ex row h := by
  induction row with
  | nil => rfl
  | cons tp r ih =>
    simp only [ex]
    rw [e tp (by simp), ih fun z hz => e z (List.mem_cons_of_mem _ hz)]
theorem ex_add (row : List (Nat × Rat)) (f h : Nat → Rat) : ex row (fun t => f t + h t) = ex row f + ex row h := by
  induction row with
  | nil => simp only [ex]; grind
  | cons tp r ih => simp only [ex, ih]; grind
theorem ex_sub (row : List (Nat × Rat)) (f h : Nat → Rat) : ex row (fun t => f t - h t) = ex row f - ex row h := by
  induction row with
  | nil => simp only [ex]; grind
  | cons tp r ih => simp only [ex, ih]; grind
theorem ex_mulr (row : List (Nat × Rat)) (f : Nat → Rat) (c : Rat) : ex row (fun t => f t * c) = ex row f * c := by
  induction row with
  | nil => simp only [ex]; grind
  | cons tp r ih => simp only [ex, ih]; grind
theorem ex_mull (row : List (Nat × Rat)) (f : Nat → Rat) (c : Rat) : ex row (fun t => c * f t) = c * ex row f := by
  induction row with
  | nil => simp only [ex]; grind
  | cons tp r ih => simp only [ex, ih]; grind
theorem ex_le {row : List (Nat × Rat)} {f h : Nat → Rat} (nn : ∀ tp ∈ row, 0 ≤ tp.2) (e : ∀ tp ∈ row, f tp.1 ≤ h tp.1) : ex row f ≤ ex row h := by
  induction row with
  | nil => exact Rat.le_refl
  | cons tp r ih =>
    have a := ih (fun z hz => nn z (List.mem_cons_of_mem _ hz)) fun z hz => e z (List.mem_cons_of_mem _ hz)
    have b := Rat.mul_le_mul_of_nonneg_left (e tp (by simp)) (nn tp (by simp))
    simp only [ex]; grind
theorem ex_const {n : Nat} {row : List (Nat × Rat)} (ok : RowOk n row) (c : Rat) : ex row (fun _ => c) = c := by
  have := ex_mulr row (fun _ => 1) c
  rw [ok.tot] at this
  simp only [Rat.one_mul] at this
  exact this

/-- the maximum principle -/
theorem cmp_le {n : Nat} {rw' : Nat → List (Nat × Rat)} {b : Rat} (hb0 : 0 ≤ b) (hb1 : b < 1) (ok : ∀ s, s < n → RowOk n (rw' s)) (h : Nat → Rat)
    (H : ∀ s, s < n → h s ≤ 0 ∨ h s ≤ b * ex (rw' s) h) : ∀ s, s < n → h s ≤ 0 := by
  intro s hs
  obtain ⟨k, hk, hm⟩ := argmax n (by omega) h
  refine Rat.le_trans (hm s hs) ?_
  rcases H k hk with z | z
  · exact z
  · have a : ex (rw' k) h ≤ ex (rw' k) (fun _ => h k) := ex_le (ok k hk).nn fun tp ht => hm _ ((ok k hk).tgt tp ht)
    rw [ex_const (ok k hk)] at a
    have c := Rat.mul_le_mul_of_nonneg_left a hb0
    -- (1 - b) h k <= 0
    have d : h k ≤ b * h k := Rat.le_trans z c
    by_cases q : h k ≤ 0
    · exact q
    · have := Rat.mul_lt_mul_of_pos_right hb1 (show 0 < h k by grind)
      grind

/-- the values of leaving C -/
structure Leave (g : Game) (b : Rat) (C : List Nat) (e φ : Nat → Rat) : Prop where
  eo : ∀ s, s ∉ C → e s = 0
  fo : ∀ s, s ∉ C → φ s = 1
  ei : ∀ s, s ∈ C → e s = g.r s + b * ex (g.row s) e
  fi : ∀ s, s ∈ C → φ s = b * ex (g.row s) φ
def F (e φ : Nat → Rat) (m : Rat) (s : Nat) : Rat := e s + φ s * m
theorem ex_F (row : List (Nat × Rat)) (e φ : Nat → Rat) (m : Rat) : ex row (F e φ m) = ex row e + ex row φ * m := by
  unfold F
  rw [ex_add, ex_mulr]
section
variable {g : Game} {b : Rat} (ok : GameOk g) (hb0 : 0 ≤ b) (hb1 : b < 1) {C : List Nat} {e φ : Nat → Rat} (L : Leave g b C e φ)
include ok hb0 hb1 L
theorem phi_nn : ∀ s, s < g.n → 0 ≤ φ s := by
  have := cmp_le hb0 hb1 ok.rows (fun s => - φ s) fun s hs => by
    by_cases c : s ∈ C
    · right
      rw [L.fi s c, show (fun s => - φ s) = (fun s => (-1) * φ s) by funext s; grind, ex_mull]; grind
    · left; rw [L.fo s c]; decide
  intro s hs
  have := this s hs
  grind
theorem phi_le : ∀ s, s < g.n → φ s ≤ 1 := by
  have := cmp_le hb0 hb1 ok.rows (fun s => φ s - 1) fun s hs => by
    by_cases c : s ∈ C
    · right
      rw [ex_sub, ex_const (ok.rows s hs), L.fi s c]; grind
    · left; rw [L.fo s c]; grind
  intro s hs
  have := this s hs
  grind
theorem ephi_nn {s : Nat} (hs : s < g.n) : 0 ≤ b * ex (g.row s) φ := by
  have := ex_le (f := fun _ => 0) (h := φ) (ok.rows s hs).nn fun tp ht => phi_nn ok hb0 hb1 L _ ((ok.rows s hs).tgt tp ht)
  rw [ex_const (ok.rows s hs)] at this
  exact Rat.mul_nonneg hb0 this
theorem ephi_le {s : Nat} (hs : s < g.n) : b * ex (g.row s) φ ≤ b := by
  have := ex_le (f := φ) (h := fun _ => 1) (ok.rows s hs).nn fun tp ht => phi_le ok hb0 hb1 L _ ((ok.rows s hs).tgt tp ht)
  rw [ex_const (ok.rows s hs)] at this
  have := Rat.mul_le_mul_of_nonneg_left this hb0
  grind
end
/-- the candidate -/
def cand (g : Game) (b : Rat) (e φ : Nat → Rat) (s : Nat) : Rat := (g.r s + b * ex (g.row s) e) / (1 - b * ex (g.row s) φ)

/-- an index order told step by step -/
structure Order (g : Game) (b : Rat) (C : Nat → List Nat) (e φ : Nat → Nat → Rat) (st : Nat → Nat) (γ : Nat → Rat) : Prop where
  c0 : ∀ s, s ∉ C 0
  cs : ∀ k, k < g.n → ∀ s, s ∈ C (k + 1) ↔ s ∈ C k ∨ s = st k
  lv : ∀ k, k ≤ g.n → Leave g b (C k) (e k) (φ k)
  lt : ∀ k, k < g.n → st k < g.n
  new : ∀ k, k < g.n → st k ∉ C k
  ix : ∀ k, k < g.n → γ k = cand g b (e k) (φ k) (st k)
  best : ∀ k, k < g.n → ∀ s, s < g.n → s ∉ C k → cand g b (e k) (φ k) s ≤ γ k
  all : ∀ s, s < g.n → s ∈ C g.n
section
variable {g : Game} {b : Rat} (ok : GameOk g) (hb0 : 0 ≤ b) (hb1 : b < 1) {C : Nat → List Nat} {e φ : Nat → Nat → Rat} {st : Nat → Nat} {γ : Nat → Rat} (O : Order g b C e φ st γ)
include ok hb0 hb1 O
theorem cand_mul {k s : Nat} (hk : k ≤ g.n) (hs : s < g.n) : cand g b (e k) (φ k) s * (1 - b * ex (g.row s) (φ k)) = g.r s + b * ex (g.row s) (e k) := by
  have := ephi_le ok hb0 hb1 (O.lv k hk) hs
  unfold cand
  exact Rat.div_mul_cancel (by grind)
/-- outside, from the next index on: stopping is best -/
theorem F1 {k s : Nat} {m : Rat} (hk : k < g.n) (hs : s < g.n) (hc : s ∉ C k) (hm : γ k ≤ m) : g.r s + b * ex (g.row s) (F (e k) (φ k) m) ≤ m := by
  have h1 := cand_mul ok hb0 hb1 O (Nat.le_of_lt hk) hs
  have h2 := O.best k hk s hs hc
  have h3 := ephi_le ok hb0 hb1 (O.lv k (Nat.le_of_lt hk)) hs
  have h4 := Rat.mul_le_mul_of_nonneg_right (Rat.le_trans h2 hm) (show 0 ≤ 1 - b * ex (g.row s) (φ k) by grind)
  rw [ex_F]
  grind
theorem F1e {k : Nat} (hk : k < g.n) : g.r (st k) + b * ex (g.row (st k)) (F (e k) (φ k) (γ k)) = γ k := by
  have h1 := cand_mul ok hb0 hb1 O (Nat.le_of_lt hk) (O.lt k hk)
  rw [← O.ix k hk] at h1
  rw [ex_F]
  grind
omit ok hb0 hb1 in
theorem F_in {k s : Nat} {m : Rat} (hk : k ≤ g.n) (hs : s ∈ C k) : F (e k) (φ k) m s = g.r s + b * ex (g.row s) (F (e k) (φ k) m) := by
  rw [ex_F]
  unfold F
  have h1 := (O.lv k hk).ei s hs
  have h2 := (O.lv k hk).fi s hs
  rw [h1]
  rw [show φ k s * m = (b * ex (g.row s) (φ k)) * m by rw [← h2]]
  grind
omit ok hb0 hb1 in
theorem F_out {k s : Nat} {m : Rat} (hk : k ≤ g.n) (hs : s ∉ C k) : F (e k) (φ k) m s = m := by
  unfold F
  rw [(O.lv k hk).eo s hs, (O.lv k hk).fo s hs]; grind
theorem F2 {k s : Nat} (hk : k < g.n) (hs : s < g.n) : F (e (k + 1)) (φ (k + 1)) (γ k) s = F (e k) (φ k) (γ k) s := by
  have key : ∀ s, s < g.n → F (e (k + 1)) (φ (k + 1)) (γ k) s - F (e k) (φ k) (γ k) s = 0 ∨ F (e (k + 1)) (φ (k + 1)) (γ k) s - F (e k) (φ k) (γ k) s = b * ex (g.row s) (fun s => F (e (k + 1)) (φ (k + 1)) (γ k) s - F (e k) (φ k) (γ k) s) := fun s hs => by
    by_cases c : s ∈ C (k + 1)
    · right
      rw [F_in O hk c, ex_sub]
      by_cases d : s ∈ C k
      · rw [F_in O (Nat.le_of_lt hk) d]; grind
      · have es : s = st k := ((O.cs k hk s).mp c).resolve_left d
        have := F1e ok hb0 hb1 O hk
        rw [← es] at this
        rw [F_out O (Nat.le_of_lt hk) d]
        grind
    · left
      rw [F_out O hk c, F_out O (Nat.le_of_lt hk) fun z => c ((O.cs k hk s).mpr (.inl z))]; grind
  have a := cmp_le hb0 hb1 ok.rows (fun s => F (e (k + 1)) (φ (k + 1)) (γ k) s - F (e k) (φ k) (γ k) s) (fun s hs => by
    rcases key s hs with z | z
    · left; rw [z]; exact Rat.le_refl
    · right; rw [← z]; exact Rat.le_refl) s hs
  have c := cmp_le hb0 hb1 ok.rows (fun s => - (F (e (k + 1)) (φ (k + 1)) (γ k) s - F (e k) (φ k) (γ k) s)) (fun s hs => by
    rcases key s hs with z | z
    · left; rw [z]; decide
    · right
      rw [show (fun s => - (F (e (k + 1)) (φ (k + 1)) (γ k) s - F (e k) (φ k) (γ k) s)) = (fun s => (-1) * (F (e (k + 1)) (φ (k + 1)) (γ k) s - F (e k) (φ k) (γ k) s)) by funext s; grind, ex_mull]
      grind) s hs
  grind
theorem F3 {k : Nat} (hk : k + 1 < g.n) : γ (k + 1) ≤ γ k := by
  have hs := O.lt (k + 1) hk
  have hn := O.new (k + 1) hk
  have hn2 : st (k + 1) ∉ C k := fun z => hn ((O.cs k (by omega) _).mpr (.inl z))
  have h1 := F1 ok hb0 hb1 O (k := k) (by omega) hs hn2 Rat.le_refl
  have h2 : ex (g.row (st (k + 1))) (F (e (k + 1)) (φ (k + 1)) (γ k)) = ex (g.row (st (k + 1))) (F (e k) (φ k) (γ k)) :=
    ex_congr fun tp ht => F2 ok hb0 hb1 O (by omega) ((ok.rows _ hs).tgt tp ht)
  rw [← h2, ex_F] at h1
  have h3 := cand_mul ok hb0 hb1 O (Nat.le_of_lt hk) hs
  have h4 := ephi_le ok hb0 hb1 (O.lv (k + 1) (Nat.le_of_lt hk)) hs
  rw [← O.ix (k + 1) hk] at h3
  have h5 : γ (k + 1) * (1 - b * ex (g.row (st (k + 1))) (φ (k + 1))) ≤ γ k * (1 - b * ex (g.row (st (k + 1))) (φ (k + 1))) := by
    rw [h3]; grind
  exact Rat.le_of_mul_le_mul_right h5 (by grind)
theorem gam {i k : Nat} (hk : k < g.n) (h : i ≤ k) : γ k ≤ γ i := by
  induction k with
  | zero => have : i = 0 := by omega
            rw [this]; exact Rat.le_refl
  | succ k ih =>
    by_cases c : i = k + 1
    · rw [c]; exact Rat.le_refl
    · exact Rat.le_trans (F3 ok hb0 hb1 O hk) (ih (by omega) (by omega))
theorem F4 {k s : Nat} (hk : k < g.n) (hs : s < g.n) : φ (k + 1) s ≤ φ k s := by
  have := cmp_le hb0 hb1 ok.rows (fun s => φ (k + 1) s - φ k s) (fun s hs => by
    by_cases d : s ∈ C k
    · right
      rw [ex_sub, (O.lv k (Nat.le_of_lt hk)).fi s d, (O.lv (k + 1) hk).fi s ((O.cs k hk s).mpr (.inl d))]; grind
    · left
      rw [(O.lv k (Nat.le_of_lt hk)).fo s d]
      have := phi_le ok hb0 hb1 (O.lv (k + 1) hk) s hs
      grind) s hs
  grind
theorem phi_last {s : Nat} (hs : s < g.n) : φ g.n s = 0 := by
  have a := cmp_le hb0 hb1 ok.rows (fun s => φ g.n s) (fun s hs => by
    right
    exact (show φ g.n s = b * ex (g.row s) (φ g.n) from (O.lv g.n (Nat.le_refl _)).fi s (O.all s hs)) ▸ Rat.le_refl) s hs
  have c := phi_nn ok hb0 hb1 (O.lv g.n (Nat.le_refl _)) s hs
  grind
/-- equal indexes in a row: the pieces agree there -/
theorem chain {k i s : Nat} {m : Rat} (hs : s < g.n) (hi : i ≤ g.n) (hki : k ≤ i) (h : ∀ j, k ≤ j → j < i → γ j = m) : F (e i) (φ i) m s = F (e k) (φ k) m s := by
  induction i with
  | zero => have : k = 0 := by omega
            rw [this]
  | succ i ih =>
    by_cases c : k = i + 1
    · rw [c]
    · rw [← ih (by omega) (by omega) fun j h1 h2 => h j h1 (by omega)]
      have := F2 ok hb0 hb1 O (k := i) (s := s) (by omega) hs
      rw [h i (by omega) (by omega)] at this
      exact this
end

/-! ### the points of a state -/
/-- what is still to come, from the lower indexes on: points at the steps i - 1, .., 0 -/
def qts (n : Nat) (C : Nat → List Nat) (e φ : Nat → Nat → Rat) (γ : Nat → Rat) (s : Nat) : Nat → List Pt
  | 0 => []
  | i + 1 => if (i + 1 < n ∧ γ (i + 1) = γ i) ∨ s ∉ C (i + 1) then qts n C e φ γ s i else (γ i, F (e (i + 1)) (φ (i + 1)) (γ i) s) :: qts n C e φ γ s i
section
variable {g : Game} {b : Rat} (ok : GameOk g) (hb0 : 0 ≤ b) (hb1 : b < 1) {C : Nat → List Nat} {e φ : Nat → Nat → Rat} {st : Nat → Nat} {γ : Nat → Rat} (O : Order g b C e φ st γ)
include O
theorem mem_C {k s : Nat} (hk : k ≤ g.n) : s ∈ C k ↔ ∃ j, j < k ∧ st j = s := by
  induction k with
  | zero => exact ⟨fun z => absurd z (O.c0 s), fun ⟨j, h, _⟩ => by omega⟩
  | succ k ih =>
    rw [O.cs k hk, ih (by omega)]
    constructor
    · rintro (⟨j, h, e⟩ | e)
      · exact ⟨j, by omega, e⟩
      · exact ⟨k, by omega, e.symm⟩
    · rintro ⟨j, h, e⟩
      by_cases c : j = k
      · exact .inr (by rw [← e, c])
      · exact .inl ⟨j, by omega, e⟩
theorem C_iff {j k : Nat} (hj : j < g.n) (hk : k ≤ g.n) : st j ∈ C k ↔ j < k := by
  constructor
  · intro h
    obtain ⟨i, hi, e⟩ := (mem_C O hk).mp h
    by_cases c : i < j
    · exact absurd ((mem_C O (Nat.le_of_lt hj)).mpr ⟨i, c, e⟩) (O.new j hj)
    · by_cases d : j < i
      · exact absurd ((mem_C O (show i ≤ g.n by omega)).mpr ⟨j, d, rfl⟩) (by rw [← e]; exact O.new i (by omega))
      · omega
  · intro h
    exact (mem_C O hk).mpr ⟨j, h, rfl⟩
theorem qts_nil {j i : Nat} (hj : j < g.n) (hi : i ≤ j) : qts g.n C e φ γ (st j) i = [] := by
  induction i with
  | zero => rfl
  | succ i ih =>
    unfold qts
    rw [if_pos (.inr fun z => by have := (C_iff O hj (by omega)).mp z; omega)]
    exact ih (by omega)
include ok hb0 hb1
theorem V_main {j : Nat} (hj : j < g.n) : ∀ i, j ≤ i → i < g.n →
    asc ((γ i, F (e i) (φ i) (γ i) (st j)) :: qts g.n C e φ γ (st j) i) ∧
    (∀ c, c ≤ φ i (st j) → c < 1 → inc c ((γ i, F (e i) (φ i) (γ i) (st j)) :: qts g.n C e φ γ (st j) i)) ∧
    lst1 ((γ i, F (e i) (φ i) (γ i) (st j)) :: qts g.n C e φ γ (st j) i) = γ j ∧
    (∀ m k, k ≤ i → γ k ≤ m → (0 < k → m ≤ γ (k - 1)) → goV ((γ i, F (e i) (φ i) (γ i) (st j)) :: qts g.n C e φ γ (st j) i) m = F (e k) (φ k) m (st j)) := by
  intro i
  have hs := O.lt j hj
  induction i with
  | zero =>
    intro h0 hi
    have : j = 0 := by omega
    subst this
    rw [qts_nil O hj (Nat.le_refl 0)]
    have e0 := F_out O (k := 0) (s := st 0) (m := γ 0) (by omega) (O.c0 _)
    rw [e0]
    refine ⟨rfl, fun c _ h => h, rfl, fun m k hk hm _ => ?_⟩
    have : k = 0 := by omega
    subst this
    rw [F_out O (by omega) (O.c0 _)]; rfl
  | succ i ih =>
    intro hji hi
    by_cases c : j = i + 1
    · subst c
      rw [qts_nil O hj (Nat.le_refl _)]
      have e0 := F_out O (k := i + 1) (s := st (i + 1)) (m := γ (i + 1)) (by omega) (O.new _ hj)
      rw [e0]
      refine ⟨rfl, fun c _ h => h, rfl, fun m k hk hm _ => ?_⟩
      rw [F_out O (by omega) fun z => by have := (C_iff O hj (by omega)).mp z; omega]; rfl
    · have hji : j ≤ i := by omega
      obtain ⟨a1, a2, a3, a4⟩ := ih hji (by omega)
      have inC : st j ∈ C (i + 1) := (C_iff O hj (by omega)).mpr (by omega)
      have f2 := F2 ok hb0 hb1 O (k := i) (s := st j) (by omega) hs
      have f3 := F3 ok hb0 hb1 O (k := i) hi
      have f4 := F4 ok hb0 hb1 O (k := i) (s := st j) (by omega) hs
      by_cases d : γ (i + 1) = γ i
      · -- skipped
        have q : qts g.n C e φ γ (st j) (i + 1) = qts g.n C e φ γ (st j) i := by rw [qts, if_pos (.inl ⟨hi, d⟩)]
        rw [q, d, f2]
        refine ⟨a1, fun c h1 h2 => a2 c (Rat.le_trans h1 f4) h2, a3, fun m k hk hm hu => ?_⟩
        by_cases ek : k = i + 1
        · subst ek
          have hu := hu (by omega)
          simp only [Nat.add_sub_cancel] at hu
          have em : m = γ i := by grind
          rw [em, f2]
          refine a4 _ i (Nat.le_refl i) Rat.le_refl fun h0 => ?_
          exact gam ok hb0 hb1 O (by omega) (by omega)
        · exact a4 m k (by omega) hm hu
      · have q : qts g.n C e φ γ (st j) (i + 1) = (γ i, F (e (i + 1)) (φ (i + 1)) (γ i) (st j)) :: qts g.n C e φ γ (st j) i := by
          rw [qts, if_neg]
          rintro (z | z)
          · exact d z.2
          · exact z inC
        rw [q, f2]
        have lt : γ (i + 1) < γ i := by grind
        have phiin := (O.lv (i + 1) (Nat.le_of_lt hi)).fi _ inC
        have pl := ephi_le ok hb0 hb1 (O.lv (i + 1) (Nat.le_of_lt hi)) hs
        have ln : line (γ (i + 1), F (e (i + 1)) (φ (i + 1)) (γ (i + 1)) (st j)) (γ i, F (e i) (φ i) (γ i) (st j)) = φ (i + 1) (st j) := by
          refine line_of lt ?_
          show _ = F (e i) (φ i) (γ i) (st j) - F (e (i + 1)) (φ (i + 1)) (γ (i + 1)) (st j)
          rw [← f2]
          show φ (i + 1) (st j) * (γ i - γ (i + 1)) = _
          unfold F; grind
        refine ⟨⟨lt, a1⟩, fun c h1 h2 => ⟨by rw [ln]; exact h1, by rw [ln]; grind, by rw [ln]; exact a2 _ f4 (by grind)⟩, a3, fun m k hk hm hu => ?_⟩
        rw [goV]
        by_cases l : m ≤ γ i
        · rw [if_pos l, ln]
          have e1 : F (e (i + 1)) (φ (i + 1)) (γ (i + 1)) (st j) + φ (i + 1) (st j) * (m - γ (i + 1)) = F (e (i + 1)) (φ (i + 1)) m (st j) := by unfold F; grind
          refine Eq.trans e1 ?_
          by_cases ek : k = i + 1
          · rw [ek]
          · refine chain ok hb0 hb1 O hs (by omega) hk fun t h1 h2 => ?_
            have g1 := gam ok hb0 hb1 O (i := k) (k := t) (by omega) h1
            have g2 := gam ok hb0 hb1 O (i := t) (k := i) (by omega) (by omega)
            grind
        · rw [if_neg l]
          refine a4 m k ?_ hm hu
          by_cases ek : k = i + 1
          · subst ek
            have hu := hu (by omega)
            simp only [Nat.add_sub_cancel] at hu
            exact absurd hu l
          · omega
/-- all points of the state st j, and what they tell -/
theorem pts_all {j : Nat} (hj : j < g.n) :
    asc (qts g.n C e φ γ (st j) g.n) ∧ inc 0 (qts g.n C e φ γ (st j) g.n) ∧ lst1 (qts g.n C e φ γ (st j) g.n) = γ j ∧
    (∀ m k, k ≤ g.n → (k < g.n → γ k ≤ m) → (0 < k → m ≤ γ (k - 1)) → val (qts g.n C e φ γ (st j) g.n) m = F (e k) (φ k) m (st j)) := by
  have hs := O.lt j hj
  obtain ⟨N, hN⟩ : ∃ N, g.n = N + 1 := ⟨g.n - 1, by have := ok.pos; omega⟩
  have hNl : N < g.n := by omega
  obtain ⟨a1, a2, a3, a4⟩ := V_main ok hb0 hb1 O hj N (by omega) hNl
  have f2 := F2 ok hb0 hb1 O (k := N) (s := st j) hNl hs
  have q : qts g.n C e φ γ (st j) g.n = (γ N, F (e N) (φ N) (γ N) (st j)) :: qts g.n C e φ γ (st j) N := by
    have inC : st j ∈ C (N + 1) := (C_iff O hj (by omega)).mpr (by omega)
    have : qts g.n C e φ γ (st j) (N + 1) = (γ N, F (e N) (φ N) (γ N) (st j)) :: qts g.n C e φ γ (st j) N := by
      rw [qts, if_neg, f2]
      rintro (z | z)
      · omega
      · exact z inC
    rw [← hN] at this
    exact this
  have pn := phi_nn ok hb0 hb1 (O.lv N (Nat.le_of_lt hNl)) _ hs
  have pl := phi_last ok hb0 hb1 O hs
  rw [q]
  refine ⟨a1, a2 0 pn (by decide), a3, fun m k hk h1 h2 => ?_⟩
  rw [val_cons]
  by_cases c : m ≤ γ N
  · rw [if_pos c]
    by_cases ek : k = g.n
    · subst ek
      show F (e N) (φ N) (γ N) (st j) = _
      rw [← f2, ← hN]
      unfold F
      rw [pl]; grind
    · have g1 := gam ok hb0 hb1 O (i := k) (k := N) hNl (by omega)
      have h1 := h1 (by omega)
      have em : m = γ N := by grind
      rw [em]
      refine chain ok hb0 hb1 O hs (by omega) (by omega) fun t u1 u2 => ?_
      have := gam ok hb0 hb1 O (i := k) (k := t) (by omega) u1
      have := gam ok hb0 hb1 O (i := t) (k := N) hNl (by omega)
      grind
  · rw [if_neg c]
    by_cases ek : k = g.n
    · subst ek
      have h2 := h2 ok.pos
      rw [show g.n - 1 = N by omega] at h2
      exact absurd h2 c
    · exact a4 m k (by omega) (h1 (by omega)) h2
/-- where m lies -/
theorem where_m (m : Rat) : ∃ k, k ≤ g.n ∧ (k < g.n → γ k < m) ∧ ∀ i, i < k → m ≤ γ i := by
  have : ∀ N, N ≤ g.n → ∃ k, k ≤ N ∧ (k < N → γ k < m) ∧ ∀ i, i < k → m ≤ γ i := by
    intro N
    induction N with
    | zero => exact fun _ => ⟨0, by omega, by omega, by omega⟩
    | succ N ih =>
      intro hN
      obtain ⟨k, h1, h2, h3⟩ := ih (by omega)
      by_cases c : k = N
      · by_cases d : γ N < m
        · exact ⟨N, by omega, fun _ => d, by rw [← c]; exact h3⟩
        · refine ⟨N + 1, by omega, by omega, fun i hi => ?_⟩
          by_cases f : i = N
          · rw [f]; grind
          · exact h3 i (by omega)
      · exact ⟨k, by omega, fun _ => h2 (by omega), h3⟩
  exact this g.n (Nat.le_refl _)
end
/-- what the curves of a game are -/
structure Curves (g : Game) (b : Rat) (c : Nat → List Pt) : Prop where
  wf : ∀ s, s < g.n → WF (c s)
  ge : ∀ s, s < g.n → ∀ m, g.r s + b * ex (g.row s) (fun t => val (c t) m) ≤ val (c s) m
  eq : ∀ s, s < g.n → ∀ m, m ≤ lst1 (c s) → val (c s) m = g.r s + b * ex (g.row s) (fun t => val (c t) m)
theorem curves_of {g : Game} {b : Rat} (ok : GameOk g) (hb0 : 0 ≤ b) (hb1 : b < 1) {C : Nat → List Nat} {e φ : Nat → Nat → Rat} {st : Nat → Nat} {γ : Nat → Rat} (O : Order g b C e φ st γ) :
    Curves g b (fun s => strF 0 (qts g.n C e φ γ s g.n)) := by
  have has : ∀ s, s < g.n → ∃ j, j < g.n ∧ st j = s := fun s hs => (mem_C O (Nat.le_refl _)).mp (O.all s hs)
  have vl : ∀ s, s < g.n → ∀ m k, k ≤ g.n → (k < g.n → γ k ≤ m) → (0 < k → m ≤ γ (k - 1)) → val (strF 0 (qts g.n C e φ γ s g.n)) m = F (e k) (φ k) m s := fun s hs m k h1 h2 h3 => by
    obtain ⟨j, hj, rfl⟩ := has s hs
    obtain ⟨a1, a2, a3, a4⟩ := pts_all ok hb0 hb1 O hj
    rw [str_val a1 a2]
    exact a4 m k h1 h2 h3
  refine ⟨fun s hs => ?_, fun s hs m => ?_, fun s hs m hm => ?_⟩
  · obtain ⟨j, hj, rfl⟩ := has s hs
    obtain ⟨a1, a2, a3, a4⟩ := pts_all ok hb0 hb1 O hj
    exact strF_wf a1 a2
  · obtain ⟨k, h1, h2, h3⟩ := where_m ok hb0 hb1 O m
    have v := fun t ht => vl t ht m k h1 (fun h => Rat.le_of_lt (h2 h)) (fun h => h3 _ (by omega))
    have ee : ex (g.row s) (fun t => val (strF 0 (qts g.n C e φ γ t g.n)) m) = ex (g.row s) (F (e k) (φ k) m) := ex_congr fun tp ht => v _ ((ok.rows s hs).tgt tp ht)
    rw [ee, v s hs]
    by_cases c : s ∈ C k
    · rw [F_in O h1 c]; exact Rat.le_refl
    · have hk : k < g.n := by
        by_cases q : k = g.n
        · rw [q] at c; exact absurd (O.all s hs) c
        · omega
      rw [F_out O h1 c]
      exact F1 ok hb0 hb1 O hk hs c (Rat.le_of_lt (h2 hk))
  · obtain ⟨k, h1, h2, h3⟩ := where_m ok hb0 hb1 O m
    have v := fun t ht => vl t ht m k h1 (fun h => Rat.le_of_lt (h2 h)) (fun h => h3 _ (by omega))
    have ee : ex (g.row s) (fun t => val (strF 0 (qts g.n C e φ γ t g.n)) m) = ex (g.row s) (F (e k) (φ k) m) := ex_congr fun tp ht => v _ ((ok.rows s hs).tgt tp ht)
    rw [ee, v s hs]
    obtain ⟨j, hj, rfl⟩ := has s hs
    obtain ⟨a1, a2, a3, a4⟩ := pts_all ok hb0 hb1 O hj
    have hm : m ≤ lst1 (strF 0 (qts g.n C e φ γ (st j) g.n)) := hm
    rw [strF_lst a1 a2, a3] at hm
    refine F_in O h1 ((C_iff O hj h1).mpr ?_)
    by_cases q : j < k
    · exact q
    · have hk : k < g.n := by omega
      have := h2 hk
      have := gam ok hb0 hb1 O (i := k) (k := j) hj (by omega)
      grind
end AC
end
section
/-! Several games: the product curve, the best gains satisfy their equations (plain). -/
namespace AC
/-- the product of a list of curves -/
def pk : List (List Pt) → List Pt
  | [] => []
  | c :: r => r.foldl prodK c
def prodS : List (List Pt) → Rat → Rat
  | [], _ => 1
  | c :: r, m => slp c m * prodS r m
theorem foldl_prod {r : List (List Pt)} : ∀ {c : List Pt}, WF c → (∀ d ∈ r, WF d) → WF (r.foldl prodK c) ∧ (∀ m, slp (r.foldl prodK c) m = slp c m * prodS r m) ∧
    (lst1 c ≤ lst1 (r.foldl prodK c)) ∧ (∀ d ∈ r, lst1 d ≤ lst1 (r.foldl prodK c)) ∧ (∀ B, lst1 c ≤ B → (∀ d ∈ r, lst1 d ≤ B) → lst1 (r.foldl prodK c) ≤ B) ∧
    (∀ p ∈ r.foldl prodK c, (∃ q ∈ c, q.1 = p.1) ∨ ∃ d ∈ r, ∃ q ∈ d, q.1 = p.1) := by
  induction r with
  | nil =>
    intro c hc _
    exact ⟨hc, fun m => (by simp only [prodS, List.foldl]; grind), Rat.le_refl, fun d h => (nomatch h), fun B h _ => h, fun p hp => .inl ⟨p, hp, rfl⟩⟩
  | cons d r ih =>
    intro c hc hr
    have hd := hr d (by simp)
    have hw := prodK_wf hc hd
    obtain ⟨i1, i2, i3, i4, i5, i6⟩ := ih hw fun z hz => hr z (List.mem_cons_of_mem _ hz)
    have hl := prodK_lst hc hd
    refine ⟨i1, fun m => ?_, ?_, fun z hz => ?_, fun B h1 h2 => ?_, fun p hp => ?_⟩
    · show slp (r.foldl prodK (prodK c d)) m = slp c m * (slp d m * prodS r m)
      rw [i2, prodK_slp hc hd]; grind
    · refine Rat.le_trans ?_ i3
      rw [hl]; split <;> grind
    · rcases List.mem_cons.mp hz with e | e
      · rw [e]
        refine Rat.le_trans ?_ i3
        rw [hl]; split <;> grind
      · exact i4 z e
    · refine i5 B ?_ fun z hz => h2 z (List.mem_cons_of_mem _ hz)
      have := h2 d (by simp)
      rw [hl]; split <;> grind
    · rcases i6 p hp with ⟨q, hq, e⟩ | ⟨z, hz, q, hq, e⟩
      · rcases prodK_amt hq with ⟨q', hq', e'⟩ | ⟨q', hq', e'⟩
        · exact .inl ⟨q', hq', e'.trans e⟩
        · exact .inr ⟨d, by simp, q', hq', e'.trans e⟩
      · exact .inr ⟨z, List.mem_cons_of_mem _ hz, q, hq, e⟩
/-- what the product of a list is -/
theorem pk_all {L : List (List Pt)} (h0 : L ≠ []) (hw : ∀ c ∈ L, WF c) : WF (pk L) ∧ (∀ m, slp (pk L) m = prodS L m) ∧ (∀ c ∈ L, lst1 c ≤ lst1 (pk L)) ∧ (∀ B, (∀ c ∈ L, lst1 c ≤ B) → lst1 (pk L) ≤ B) ∧ (∀ p ∈ pk L, ∃ d ∈ L, ∃ q ∈ d, q.1 = p.1) := by
  cases L with
  | nil => exact absurd rfl h0
  | cons c r =>
    obtain ⟨i1, i2, i3, i4, i5, i6⟩ := foldl_prod (hw c (by simp)) fun d hd => hw d (List.mem_cons_of_mem _ hd)
    refine ⟨i1, i2, fun d hd => ?_, fun B h => i5 B (h c (by simp)) fun d hd => h d (List.mem_cons_of_mem _ hd), fun p hp => ?_⟩
    · rcases List.mem_cons.mp hd with e | e
      · rw [e]; exact i3
      · exact i4 d e
    · rcases i6 p hp with h | ⟨d, hd, h⟩
      · exact ⟨c, by simp, h⟩
      · exact ⟨d, List.mem_cons_of_mem _ hd, h⟩
theorem prodS_erase : ∀ {L : List (List Pt)} {i : Nat} {c : List Pt} (m : Rat), L[i]? = some c → prodS L m = slp c m * prodS (L.eraseIdx i) m
  | [], _, _, _, h => by simp at h
  | d :: r, 0, c, m, h => by
    simp at h
    rw [h]; rfl
  | d :: r, i + 1, c, m, h => by
    have := prodS_erase (L := r) (i := i) m (by simpa using h)
    simp only [List.eraseIdx_cons_succ, prodS]
    rw [this]; grind
theorem erase_set : ∀ (L : List (List Pt)) (i : Nat) (c : List Pt), (L.set i c).eraseIdx i = L.eraseIdx i
  | [], _, _ => rfl
  | _ :: _, 0, _ => rfl
  | d :: r, i + 1, c => by simp [erase_set r i c]
theorem prodS_ge {L : List (List Pt)} (hw : ∀ c ∈ L, WF c) (m : Rat) : 0 ≤ prodS L m := by
  induction L with
  | nil => show (0 : Rat) ≤ 1; decide
  | cons c r ih =>
    exact Rat.mul_nonneg (slpF_ge (wf_inc (by decide) (hw c (by simp)))) (ih fun d hd => hw d (List.mem_cons_of_mem _ hd))
theorem prodS_mono {L : List (List Pt)} (hw : ∀ c ∈ L, WF c) {x y : Rat} (h : x ≤ y) : prodS L x ≤ prodS L y := by
  induction L with
  | nil => exact Rat.le_refl
  | cons c r ih =>
    have i := ih fun d hd => hw d (List.mem_cons_of_mem _ hd)
    have a := slpF_mono (wf_inc (by decide) (hw c (by simp))) h
    have b := prodS_ge (L := r) (fun d hd => hw d (List.mem_cons_of_mem _ hd)) x
    have z := slpF_ge (m := x) (wf_inc (by decide) (hw c (by simp)))
    exact Rat.le_trans (Rat.mul_le_mul_of_nonneg_right a b) (Rat.mul_le_mul_of_nonneg_left i (Rat.le_trans z a))
theorem prodS_one {L : List (List Pt)} (hw : ∀ c ∈ L, WF c) {m : Rat} (h : ∀ c ∈ L, lst1 c ≤ m) : prodS L m = 1 := by
  induction L with
  | nil => rfl
  | cons c r ih =>
    show slp c m * prodS r m = 1
    rw [ih (fun d hd => hw d (List.mem_cons_of_mem _ hd)) fun d hd => h d (List.mem_cons_of_mem _ hd)]
    have : slp c m = 1 := slpF_one (wf_asc (hw c (by simp))) (h c (by simp))
    rw [this]; grind
def floorK (ks : List Pt) : Rat := match ks with | [] => 0 | p :: _ => p.2
theorem val_low {ks : List Pt} (h : WF ks) {m : Rat} (hm : ∀ p ∈ ks, m ≤ p.1) : val ks m = floorK ks := by
  match ks, h with
  | p :: r, _ => exact val_floor (hm p (by simp))

section
variable {g : Game} {b : Rat} (ok : GameOk g) {c : Nat → List Pt} (cv : Curves g b c) {L : List (List Pt)} {i s : Nat} (hs : s < g.n) (hw : ∀ d ∈ L, WF d) (hi : L[i]? = some (c s))
include ok cv hs hw hi
theorem set_wf {t : Nat} (ht : t < g.n) : ∀ d ∈ L.set i (c t), WF d := fun d hd => by
  rcases List.mem_or_eq_of_mem_set hd with h | h
  · exact hw d h
  · rw [h]; exact cv.wf t ht
omit cv hw ok in
theorem ne_nil {t : Nat} : L.set i (c t) ≠ [] := fun z => by
  have : (L.set i (c t)).length = 0 := by rw [z]; rfl
  rw [List.length_set] at this
  have h2 : i < L.length := by
    by_cases q : i < L.length
    · exact q
    · rw [List.getElem?_eq_none (by omega)] at hi; cases hi
  omega
omit cv hw ok hs in
theorem set_self : L.set i (c s) = L := by
  apply List.ext_getElem?
  intro j
  rw [List.getElem?_set]
  by_cases e : i = j
  · subst e
    have h2 : i < L.length := by
      by_cases q : i < L.length
      · exact q
      · rw [List.getElem?_eq_none (by omega)] at hi; cases hi
    simp [h2, hi]
    rw [List.getElem?_eq_getElem h2] at hi
    exact (Option.some.inj hi).symm
  · simp [e]
/-- the amounts that matter -/
def amtsOf (n : Nat) (c : Nat → List Pt) (L : List (List Pt)) : List Rat := (L.flatten.map (·.1)) ++ ((List.range n).map c).flatten.map (·.1)
omit ok cv hs hw hi in
theorem mem_amts1 {d : List Pt} {p : Pt} (hd : d ∈ L) (hp : p ∈ d) : p.1 ∈ amtsOf g.n c L := by
  refine List.mem_append_left _ (List.mem_map.mpr ⟨p, List.mem_flatten.mpr ⟨d, hd, hp⟩, rfl⟩)
omit ok cv hs hw hi in
theorem mem_amts2 {t : Nat} {p : Pt} (ht : t < g.n) (hp : p ∈ c t) : p.1 ∈ amtsOf g.n c L := by
  refine List.mem_append_right _ (List.mem_map.mpr ⟨p, List.mem_flatten.mpr ⟨c t, List.mem_map.mpr ⟨t, List.mem_range.mpr ht, rfl⟩, hp⟩, rfl⟩)
/-- the knots of the products lie among the amounts -/
theorem mem_amts3 {t : Nat} {p : Pt} (ht : t < g.n) (hp : p ∈ pk (L.set i (c t))) : p.1 ∈ amtsOf g.n c L := by
  obtain ⟨d, hd, q, hq, e⟩ := (pk_all (ne_nil (c := c) (s := s) hs hi) (set_wf ok cv hs hw hi ht)).2.2.2.2 p hp
  rw [← e]
  rcases List.mem_or_eq_of_mem_set hd with h | h
  · exact mem_amts1 h hq
  · rw [h] at hq; exact mem_amts2 ht hq
def Fm (c : Nat → List Pt) (L : List (List Pt)) (i : Nat) (t : Nat) (m : Rat) : Rat := val (pk (L.set i (c t))) m
def Qm (L : List (List Pt)) (i : Nat) (m : Rat) : Rat := prodS (L.eraseIdx i) m
def Tm (g : Game) (b : Rat) (c : Nat → List Pt) (L : List (List Pt)) (i s : Nat) (m : Rat) : Rat := Fm c L i s m - g.r s - b * ex (g.row s) (fun t => Fm c L i t m)
def Dm (g : Game) (b : Rat) (c : Nat → List Pt) (s : Nat) (m : Rat) : Rat := val (c s) m - g.r s - b * ex (g.row s) (fun t => val (c t) m)
theorem Fm_step {t : Nat} (ht : t < g.n) {x y : Rat} (hxy : x < y) (hn : ∀ a ∈ amtsOf g.n c L, ¬ (x < a ∧ a < y)) : Fm c L i t y - Fm c L i t x = Qm L i x * (val (c t) y - val (c t) x) := by
  have P := pk_all (ne_nil (c := c) (s := s) (t := t) hs hi) (set_wf ok cv hs hw hi ht)
  have a := val_step (wf_asc P.1) (fun p hp => hn p.1 (mem_amts3 ok cv hs hw hi ht hp)) hxy
  have d := val_step (wf_asc (cv.wf t ht)) (fun p hp => hn p.1 (mem_amts2 ht hp)) hxy
  have h2 : i < L.length := by
    by_cases q : i < L.length
    · exact q
    · rw [List.getElem?_eq_none (by omega)] at hi; cases hi
  rw [P.2.1, prodS_erase (i := i) (c := c t) x (by simp [h2]), erase_set] at a
  unfold Fm Qm
  rw [a, d]; grind
theorem Tm_step {x y : Rat} (hxy : x < y) (hn : ∀ a ∈ amtsOf g.n c L, ¬ (x < a ∧ a < y)) : Tm g b c L i s y - Tm g b c L i s x = Qm L i x * (Dm g b c s y - Dm g b c s x) := by
  have h1 := Fm_step ok cv hs hw hi hs hxy hn
  have h2 : ex (g.row s) (fun t => Fm c L i t y) - ex (g.row s) (fun t => Fm c L i t x) = Qm L i x * (ex (g.row s) (fun t => val (c t) y) - ex (g.row s) (fun t => val (c t) x)) := by
    rw [← ex_sub, ← ex_sub, ← ex_mull]
    exact ex_congr fun tp ht => Fm_step ok cv hs hw hi ((ok.rows s hs).tgt tp ht) hxy hn
  unfold Tm Dm
  grind
theorem Fm_top {t : Nat} (ht : t < g.n) {m : Rat} (h : ∀ a ∈ amtsOf g.n c L, a ≤ m) : Fm c L i t m = m := by
  have P := pk_all (ne_nil (c := c) (s := s) (t := t) hs hi) (set_wf ok cv hs hw hi ht)
  unfold Fm
  obtain ⟨p, hp, e⟩ := lst_mem (wf_asc P.1)
  exact val_top (wf_asc P.1) (by rw [← e]; exact h _ (mem_amts3 ok cv hs hw hi ht hp))
theorem T_top {m : Rat} (h : ∀ a ∈ amtsOf g.n c L, a ≤ m) : Tm g b c L i s m = Dm g b c s m ∧ Qm L i m = 1 := by
  have v : ∀ t, t < g.n → val (c t) m = m := fun t ht => by
    obtain ⟨p, hp, e⟩ := lst_mem (wf_asc (cv.wf t ht))
    exact val_top (wf_asc (cv.wf t ht)) (by rw [← e]; exact h _ (mem_amts2 ht hp))
  refine ⟨?_, ?_⟩
  · unfold Tm Dm
    rw [Fm_top ok cv hs hw hi hs h, v s hs, ex_congr (f := fun t => Fm c L i t m) (h := fun _ => m) fun tp ht => Fm_top ok cv hs hw hi ((ok.rows s hs).tgt tp ht) h,
      ex_congr (f := fun t => val (c t) m) (h := fun _ => m) fun tp ht => v _ ((ok.rows s hs).tgt tp ht)]
  · refine prodS_one (fun d hd => hw d (List.mem_of_mem_eraseIdx hd)) fun d hd => ?_
    have hd := List.mem_of_mem_eraseIdx hd
    obtain ⟨p, hp, e⟩ := lst_mem (wf_asc (hw d hd))
    rw [← e]; exact h _ (mem_amts1 hd hp)
omit hw hi in
theorem D_nn (m : Rat) : 0 ≤ Dm g b c s m := by
  have := cv.ge s hs m
  unfold Dm; grind
theorem T_ge : ∀ m, Qm L i m * Dm g b c s m ≤ Tm g b c L i s m := by
  refine grid (amtsOf g.n c L) _ (fun m h => ?_) (fun x y hxy hn hy => ?_)
  · obtain ⟨h1, h2⟩ := T_top ok cv hs hw hi h
    rw [h1, h2]; grind
  · have st := Tm_step ok cv hs hw hi hxy hn
    have mono : Qm L i x ≤ Qm L i y := prodS_mono (fun d hd => hw d (List.mem_of_mem_eraseIdx hd)) (Rat.le_of_lt hxy)
    have := Rat.mul_le_mul_of_nonneg_right mono (D_nn ok cv hs y)
    grind
/-- where no other index is greater: equality -/
theorem T_eq (hb : ∀ d ∈ L, lst1 d ≤ lst1 (c s)) : ∀ m, (m ≤ lst1 (c s) → Tm g b c L i s m = 0) ∧ (lst1 (c s) ≤ m → Tm g b c L i s m = Dm g b c s m) := by
  have zero : ∀ m, m ≤ lst1 (c s) → Dm g b c s m = 0 := fun m hm => by
    have := cv.eq s hs m hm
    unfold Dm; grind
  have one : ∀ m, lst1 (c s) ≤ m → Qm L i m = 1 := fun m hm =>
    prodS_one (fun d hd => hw d (List.mem_of_mem_eraseIdx hd)) fun d hd => Rat.le_trans (hb d (List.mem_of_mem_eraseIdx hd)) hm
  obtain ⟨p, hp, ep⟩ := lst_mem (wf_asc (cv.wf s hs))
  have inA : lst1 (c s) ∈ amtsOf g.n c L := by rw [← ep]; exact mem_amts2 hs hp
  refine grid (amtsOf g.n c L) _ (fun m h => ?_) (fun x y hxy hn hy => ?_)
  · obtain ⟨h1, h2⟩ := T_top ok cv hs hw hi h
    refine ⟨fun hm => ?_, fun _ => h1⟩
    rw [h1]; exact zero m hm
  · have st := Tm_step ok cv hs hw hi hxy hn
    have no := hn _ inA
    have right : lst1 (c s) ≤ x → Tm g b c L i s x = Dm g b c s x := fun hx => by
      have := hy.2 (by grind)
      rw [one x hx] at st
      grind
    refine ⟨fun hx => ?_, right⟩
    by_cases e : x = lst1 (c s)
    · rw [right (by rw [e]; exact Rat.le_refl)]; exact zero x hx
    · have ly : y ≤ lst1 (c s) := by grind
      have := hy.1 ly
      rw [zero x hx, zero y ly] at st
      grind
/-- the floors -/
theorem floor_eq {t : Nat} (ht : t < g.n) {m : Rat} (h : ∀ a ∈ amtsOf g.n c L, m ≤ a) : Fm c L i t m = floorK (pk (L.set i (c t))) := by
  have P := pk_all (ne_nil (c := c) (s := s) (t := t) hs hi) (set_wf ok cv hs hw hi ht)
  exact val_low P.1 fun p hp => h _ (mem_amts3 ok cv hs hw hi ht hp)
omit ok cv hs hw hi in
theorem exists_low (A : List Rat) : ∃ m, ∀ a ∈ A, m ≤ a := by
  induction A with
  | nil => exact ⟨0, fun a h => by cases h⟩
  | cons x A ih =>
    obtain ⟨m, h⟩ := ih
    by_cases c : m ≤ x
    · exact ⟨m, fun a ha => by
        rcases List.mem_cons.mp ha with e | e
        · rw [e]; exact c
        · exact h a e⟩
    · exact ⟨x, fun a ha => by
        rcases List.mem_cons.mp ha with e | e
        · rw [e]; exact Rat.le_refl
        · have := h a e; grind⟩
/-- playing position i gains no more than the floor, and as much if its index is the greatest -/
theorem whittle : g.r s + b * ex (g.row s) (fun t => floorK (pk (L.set i (c t)))) ≤ floorK (pk L) ∧
    ((∀ d ∈ L, lst1 d ≤ lst1 (c s)) → floorK (pk L) = g.r s + b * ex (g.row s) (fun t => floorK (pk (L.set i (c t))))) := by
  obtain ⟨m, hm⟩ := exists_low (amtsOf g.n c L)
  have e1 : Fm c L i s m = floorK (pk L) := by rw [floor_eq ok cv hs hw hi hs hm, set_self hi]
  have e2 : ex (g.row s) (fun t => Fm c L i t m) = ex (g.row s) (fun t => floorK (pk (L.set i (c t)))) := ex_congr fun tp ht => floor_eq ok cv hs hw hi ((ok.rows s hs).tgt tp ht) hm
  have h1 := T_ge ok cv hs hw hi m
  have h2 : 0 ≤ Qm L i m * Dm g b c s m := Rat.mul_nonneg (prodS_ge (fun d hd => hw d (List.mem_of_mem_eraseIdx hd)) m) (D_nn ok cv hs m)
  refine ⟨?_, fun hb => ?_⟩
  · unfold Tm at h1
    rw [e1, e2] at h1
    grind
  · obtain ⟨p, hp, ep⟩ := lst_mem (wf_asc (cv.wf s hs))
    have := (T_eq ok cv hs hw hi hb m).1 (by rw [← ep]; exact hm _ (mem_amts2 hs hp))
    unfold Tm at this
    rw [e1, e2] at this
    grind
end
/-- some curve of a list has the greatest index -/
theorem exists_top : ∀ {L : List (List Pt)}, L ≠ [] → ∃ (i : Nat) (c : List Pt), L[i]? = some c ∧ ∀ d ∈ L, lst1 d ≤ lst1 c
  | [], h => absurd rfl h
  | [c], _ => ⟨0, c, rfl, fun d hd => by simp at hd; rw [hd]; exact Rat.le_refl⟩
  | c :: d :: r, _ => by
    obtain ⟨i, z, hi, hz⟩ := exists_top (L := d :: r) (by simp)
    by_cases q : lst1 z ≤ lst1 c
    · exact ⟨0, c, rfl, fun w hw => by
        rcases List.mem_cons.mp hw with e | e
        · rw [e]; exact Rat.le_refl
        · exact Rat.le_trans (hz w e) q⟩
    · exact ⟨i + 1, z, by simpa using hi, fun w hw => by
        rcases List.mem_cons.mp hw with e | e
        · rw [e]; grind
        · exact hz w e⟩
end AC
end
section
/-! The rows of the elimination as lists; what must be small (plain). -/
namespace AC
/-- an entry of the row told by y: of the matrix, of the right side, of y itself -/
def ent (n m : Nat) (M R : Nat → Nat → Rat) (y : Nat → Rat) (c : Nat) : Rat :=
  if c < n then yM n M y c else if c < n + m then sm n (fun i => y i * R i (c - n)) else y (c - (n + m))
def rowL (n m : Nat) (M R : Nat → Nat → Rat) (y : Nat → Rat) : List Rat := (List.range (n + m + n)).map (ent n m M R y)
section
variable {n m : Nat} {M R : Nat → Nat → Rat}
theorem rowL_len (y : Nat → Rat) : (rowL n m M R y).length = n + m + n := by simp [rowL]
theorem rowL_get (y : Nat → Rat) {c : Nat} (h : c < n + m + n) : (rowL n m M R y)[c]? = some (ent n m M R y c) := by
  unfold rowL
  rw [List.getElem?_map, List.getElem?_range h]; rfl
theorem ent_lin (y z : Nat → Rat) (a : Rat) (c : Nat) : ent n m M R (fun i => y i - a * z i) c = ent n m M R y c - a * ent n m M R z c := by
  unfold ent
  split
  · exact yM_lin n M y z a c
  · split
    · rw [← sm_mul, ← sm_sub]
      exact sm_congr fun i _ => by grind
    · rfl
theorem ent_div (y : Nat → Rat) (a : Rat) (c : Nat) : ent n m M R (fun i => y i / a) c = ent n m M R y c / a := by
  unfold ent
  split
  · exact yM_div n M y a c
  · split
    · rw [Rat.div_def, ← sm_mulr]
      exact sm_congr fun i _ => by grind
    · rfl
theorem rowL_ext {y : Nat → Rat} {l : List Rat} (hl : l.length = n + m + n) (h : ∀ c, c < n + m + n → l[c]? = some (ent n m M R y c)) : l = rowL n m M R y := by
  apply List.ext_getElem?
  intro c
  by_cases hc : c < n + m + n
  · rw [h c hc, rowL_get y hc]
  · rw [List.getElem?_eq_none (by omega), List.getElem?_eq_none (by rw [rowL_len]; omega)]
theorem rowL_div (y : Nat → Rat) (a : Rat) : (rowL n m M R y).map (fun x => x / a) = rowL n m M R (fun i => y i / a) := by
  refine rowL_ext (by rw [List.length_map, rowL_len]) fun c hc => ?_
  rw [List.getElem?_map, rowL_get y hc, ent_div]; rfl
theorem rowL_un {k : Nat} (hk : k < n) : (List.range n).map (M k) ++ (List.range m).map (R k) ++ (List.range n).map (un k) = rowL n m M R (un k) := by
  refine rowL_ext (by simp; omega) fun c hc => ?_
  unfold ent
  by_cases h1 : c < n
  · rw [if_pos h1, List.getElem?_append_left (by simp; omega), List.getElem?_append_left (by simp; omega), List.getElem?_map, List.getElem?_range h1, yM_un n M hk]; rfl
  · rw [if_neg h1]
    by_cases h2 : c < n + m
    · rw [if_pos h2, List.getElem?_append_left (by simp; omega), List.getElem?_append_right (by simp; omega), List.getElem?_map]
      simp only [List.length_map, List.length_range]
      rw [List.getElem?_range (by omega), sm_one hk]
      · simp only [Option.map_some, un, if_true]; congr 1; grind
      · intro i _ ne
        simp only [un, if_neg ne]; grind
    · rw [if_neg h2, List.getElem?_append_right (by simp; omega), List.getElem?_map]
      simp only [List.length_append, List.length_map, List.length_range]
      rw [List.getElem?_range (by omega)]; rfl
/-- the middle of a row: the right side -/
theorem rowL_mid (y : Nat → Rat) : ((rowL n m M R y).drop n).take m = (List.range m).map fun l => sm n fun i => y i * R i l := by
  apply List.ext_getElem?
  intro c
  by_cases hc : c < m
  · rw [List.getElem?_take_of_lt hc, List.getElem?_drop, rowL_get y (by omega), List.getElem?_map, List.getElem?_range hc]
    unfold ent
    rw [if_neg (by omega), if_pos (by omega)]
    simp
  · rw [List.getElem?_eq_none (by simp; omega), List.getElem?_eq_none (by simp; omega)]
end
/-! ### what must be small -/
/-- the bound on the size of a ratio's numbers -/
def SZ : Nat := 4400
def Ok (x : Rat) : Prop := x.num.natAbs < 2 ^ SZ ∧ x.den < 2 ^ SZ
structure Lin where
  n : Nat
  m : Nat
  M : Nat → Nat → Rat
  R : Nat → Nat → Rat
/-- all numbers that the elimination meets are small -/
structure Small (S : Lin) : Prop where
  n_le : S.n ≤ 100
  m_le : S.m ≤ 10
  good : ∃ c, Good S.n S.M c
  a : ∀ k, k < S.n → ∀ J, J ≤ k → ∀ c, c < S.n + S.m + S.n → Ok (ent S.n S.m S.M S.R (newY S.M (Yk S.n S.M k) k J) c)
  b : ∀ k, k < S.n → ∀ J, J < k → ∀ c, c < S.n + S.m + S.n → Ok (S.M k J * ent S.n S.m S.M S.R (Yk S.n S.M k J) c)
  c : ∀ k, k < S.n → ∀ c, c < S.n + S.m + S.n → Ok (ent S.n S.m S.M S.R (divY S.n S.M (Yk S.n S.M k) k) c)
  d : ∀ k, k < S.n → ∀ j, j < k → ∀ c, c < S.n + S.m + S.n → Ok (yM S.n S.M (Yk S.n S.M k j) k * ent S.n S.m S.M S.R (divY S.n S.M (Yk S.n S.M k) k) c)
  e : ∀ k, k ≤ S.n → ∀ j, j < k → ∀ c, c < S.n + S.m + S.n → Ok (ent S.n S.m S.M S.R (Yk S.n S.M k j) c)
def solA (S : Lin) (j l : Nat) : Rat := solX S.n S.M (fun i => S.R i l) j
end AC
end
section
set_option maxRecDepth 100000
/-! The walk: words for values and evaluations. -/
namespace AC
open PySem PySem.Spec PyProof.Rows L2

/-! ### the text -/
def topS (i : Nat) : Stmt := PySem.Challenge.pw_anycompany_k71_whole_losses_of_choices.main.body.getD i (.Pass ⟨0, 0, 0, 0⟩)

/-! ### what a value stands for -/
abbrev VP := V → Hp → Prop
/-- what is never written -/
def Fix : HO → Bool
  | .lst _ => false
  | .dK _ => false
  | .dT _ => false
  | _ => true
/-- all that is no list and no dict stays -/
def Stb (H H' : Hp) : Prop := ∀ b o, H b = some o → Fix o = true → H' b = some o
theorem Stb.refl (H : Hp) : Stb H H := fun _ _ h _ => h
theorem Stb.trans {H H1 H2 : Hp} (a : Stb H H1) (b : Stb H1 H2) : Stb H H2 := fun c o h n => b c o (a c o h n) n
theorem Same.stb {H H' : Hp} (e : Same H H') : Stb H H' := fun b o h _ => e b o h
theorem Stb.wr {H : Hp} {l : Addr} {u o : HO} (h : H l = some u) (n : Fix u = false) : Stb H (upd H l o) := fun b o hb f => by
  have : b ≠ l := fun e => by
    rw [e, h] at hb
    rw [← Option.some.inj hb, n] at f
    cases f
  rw [upd_ne this]; exact hb
theorem Stb.lst {H : Hp} {l : Addr} {xs ys : List V} (h : H l = some (.lst xs)) : Stb H (upd H l (.lst ys)) := Stb.wr h rfl
theorem Same.new {H : Hp} {p : Addr} {o : HO} (h : H p = none) : Same H (upd H p o) := fun b x e => by
  rw [upd_ne (ne_of_none e h)]
  exact e
/-- an object unknown to the first heap may change -/
theorem Same.upd {H H' : Hp} {p : Addr} {o : HO} (e : Same H H') (h : H p = none) : Same H (L2.upd H' p o) := fun b x q => by
  rw [upd_ne (ne_of_none q h)]
  exact e b x q
theorem Stb.rd {H H' : Hp} {a : Addr} {u : HO} (e : Stb H H') (n : Fix u = true) (h : Rd H a u) : Rd H' a u := by
  rcases h with h | ⟨o, h⟩
  · exact .inl (e _ _ h n)
  · exact .inr ⟨o, e _ _ h rfl⟩
theorem Stb.seqT {K : PySem.W.Frag} {H H' : Hp} {a : Addr} {xs : List V} (e : Stb H H') (h : SqT K H a xs) : SqT K H' a xs := by
  rcases h with h | h
  · exact .inl (e.rd rfl h)
  · exact .inr h

/-- a predicate on values that stays while tuples and instances stay -/
def Stay (P : VP) : Prop := ∀ v H H', Stb H H' → P v H → P v H'
/-- one that stays while all stays -/
def Mono (P : VP) : Prop := ∀ v H H', Same H H' → P v H → P v H'
theorem Stay.mono {P : VP} (h : Stay P) : Mono P := fun v H H' e => h v H H' (Same.stb e)

def pIs (x : V) : VP := fun v _ => v = x
def pInt (i : Int) : VP := fun v _ => v = .int i
def pBl (b : Bool) : VP := fun v _ => v = .bl b
theorem stay_is {x : V} : Stay (pIs x) := fun _ _ _ _ h => h
theorem stay_int {i : Int} : Stay (pInt i) := fun _ _ _ _ h => h
theorem stay_bl {b : Bool} : Stay (pBl b) := fun _ _ _ _ h => h
/-- values one by one -/
inductive Al (H : Hp) : List V → List VP → Prop where
  | nil : Al H [] []
  | cons {v : V} {P : VP} {vs : List V} {Ps : List VP} (h : P v H) (t : Al H vs Ps) : Al H (v :: vs) (P :: Ps)
theorem Al.len {H : Hp} {vs : List V} {Ps : List VP} (a : Al H vs Ps) : vs.length = Ps.length := by
  induction a with
  | nil => rfl
  | cons _ _ ih => simp [ih]
theorem Al.get {H : Hp} : ∀ {vs : List V} {Ps : List VP} {i : Nat} {P : VP}, Al H vs Ps → Ps[i]? = some P → ∃ v, vs[i]? = some v ∧ P v H
  | _, _, i, _, .nil, h => by simp at h
  | _, _, 0, _, .cons h _, e => by simp at e; subst e; exact ⟨_, rfl, h⟩
  | _, _, i + 1, _, .cons _ t, e => by
    obtain ⟨v, h1, h2⟩ := t.get (i := i) (by simpa using e)
    exact ⟨v, by simpa using h1, h2⟩
theorem Al.imp {H H' : Hp} {vs : List V} {Ps : List VP} (a : Al H vs Ps) (h : ∀ P ∈ Ps, ∀ v, P v H → P v H') : Al H' vs Ps := by
  induction a with
  | nil => exact .nil
  | cons p _ ih => exact .cons (h _ (by simp) _ p) (ih fun P hP => h P (List.mem_cons_of_mem _ hP))
theorem Al.app {H : Hp} {vs ws : List V} {Ps Qs : List VP} (a : Al H vs Ps) (b : Al H ws Qs) : Al H (vs ++ ws) (Ps ++ Qs) := by
  induction a with
  | nil => exact b
  | cons p _ ih => exact .cons p ih
theorem Al.one {H : Hp} {v : V} {P : VP} (h : P v H) : Al H [v] [P] := .cons h .nil
theorem Al.take {H : Hp} : ∀ {vs : List V} {Ps : List VP} (n : Nat), Al H vs Ps → Al H (vs.take n) (Ps.take n)
  | _, _, 0, _ => by simp; exact .nil
  | _, _, n + 1, .nil => .nil
  | _, _, n + 1, .cons h t => .cons h (t.take n)
theorem Al.drop {H : Hp} : ∀ {vs : List V} {Ps : List VP} (n : Nat), Al H vs Ps → Al H (vs.drop n) (Ps.drop n)
  | _, _, 0, a => a
  | _, _, n + 1, .nil => .nil
  | _, _, n + 1, .cons h t => t.drop n
theorem Al.set {H : Hp} {w : V} {Q : VP} (hq : Q w H) : ∀ {vs : List V} {Ps : List VP} (n : Nat), Al H vs Ps → Al H (vs.set n w) (Ps.set n Q)
  | _, _, _, .nil => .nil
  | _, _, 0, .cons h t => .cons hq t
  | _, _, n + 1, .cons h t => .cons h (t.set hq n)
theorem Al.rev {H : Hp} : ∀ {vs : List V} {Ps : List VP}, Al H vs Ps → Al H vs.reverse Ps.reverse
  | _, _, .nil => .nil
  | _, _, .cons h t => by simp only [List.reverse_cons]; exact t.rev.app (.one h)
theorem Al.ints {H : Hp} : ∀ {vs : List V} {ns : List Int}, Al H vs (ns.map pInt) → vs = ns.map V.int
  | _, [], .nil => rfl
  | _, n :: ns, .cons h t => by rw [t.ints, show _ = V.int n from h]; rfl
theorem Al.ofInts {H : Hp} : ∀ (ns : List Int), Al H (ns.map V.int) (ns.map pInt)
  | [] => .nil
  | n :: ns => .cons rfl (Al.ofInts ns)
/-- each item by its place -/
theorem Al.of {H : Hp} : ∀ {vs : List V} {Ps : List VP}, vs.length = Ps.length → (∀ (i : Nat) (v : V) (P : VP), vs[i]? = some v → Ps[i]? = some P → P v H) → Al H vs Ps
  | [], [], _, _ => .nil
  | [], _ :: _, h, _ => by simp at h
  | _ :: _, [], h, _ => by simp at h
  | v :: vs, P :: Ps, h, g => .cons (g 0 v P rfl rfl) (Al.of (by simpa using h) fun i v P a b => g (i + 1) v P (by simpa using a) (by simpa using b))
variable {K : PySem.W.Frag}
/-- a tuple | a list of such values -/
def pTup (K : PySem.W.Frag) (Ps : List VP) : VP := fun v H => ∃ p vs, v = .ref p ∧ SqT K H p vs ∧ Al H vs Ps
def pLst (K : PySem.W.Frag) (Ps : List VP) : VP := fun v H => ∃ p vs, v = .ref p ∧ SqL K H p vs ∧ Al H vs Ps
theorem stay_tup {Ps : List VP} (h : ∀ P ∈ Ps, Stay P) : Stay (pTup K Ps) := fun v H H' e ⟨p, vs, a, b, c⟩ =>
  ⟨p, vs, a, e.seqT b, c.imp fun P hP v hv => h P hP v H H' e hv⟩
theorem mono_lst {Ps : List VP} (h : ∀ P ∈ Ps, Mono P) : Mono (pLst K Ps) := fun v H H' e ⟨p, vs, a, b, c⟩ =>
  ⟨p, vs, a, e.seq b, c.imp fun P hP v hv => h P hP v H H' e hv⟩
/-- a ratio -/
def pR (K : PySem.W.Frag) (x : Rat) : VP := fun v H => ∃ p, v = .ref p ∧ SqT K H p [.int x.num, .int x.den] ∧ Ok x
theorem stay_R {x : Rat} : Stay (pR K x) := fun v H H' e ⟨p, a, b, c⟩ => ⟨p, a, e.seqT b, c⟩
theorem stay_map {α : Type} {f : α → VP} {l : List α} (h : ∀ a, Stay (f a)) : ∀ P ∈ l.map f, Stay P := fun P hP => by
  obtain ⟨a, _, rfl⟩ := List.mem_map.mp hP
  exact h a
theorem stay_cons {P : VP} {Ps : List VP} (h : Stay P) (t : ∀ Q ∈ Ps, Stay Q) : ∀ Q ∈ P :: Ps, Stay Q := fun Q hQ => by
  rcases List.mem_cons.mp hQ with e | e
  · rw [e]; exact h
  · exact t Q e
theorem stay_nil : ∀ Q ∈ ([] : List VP), Stay Q := fun Q h => nomatch h

/-! ### evaluations -/
/-- from each later heap: a value of the kind, all that stood stands -/
def Ev (te : TE) (σ : L2.St) (H : Hp) (P : VP) : Prop := ∀ H1, Same H H1 → ∀ Q : VK, (∀ v H2, Same H1 H2 → P v H2 → Q v H2) → te σ H1 Q
def EvA (ta : TA) (σ : L2.St) (H : Hp) (Ps : List VP) : Prop := ∀ H1, Same H H1 → ∀ Q : List V → Hp → Prop, (∀ vs H2, Same H1 H2 → Al H2 vs Ps → Q vs H2) → ta σ H1 Q
def EvT (tt : TT) (σ : L2.St) (H : Hp) (b : Bool) : Prop := ∀ H1, Same H H1 → ∀ Q : Bool → Hp → Prop, (∀ H2, Same H1 H2 → Q b H2) → tt σ H1 Q
section
variable {σ : L2.St} {H H' : Hp} {ta tb te : TE} {P P1 P2 : VP}
theorem Ev.later (h : Ev te σ H P) (e : Same H H') : Ev te σ H' P := fun H1 a Q q => h H1 (e.trans a) Q q
theorem Ev.imp (h : Ev te σ H P1) (i : ∀ v H', Same H H' → P1 v H' → P2 v H') : Ev te σ H P2 := fun H1 a Q q => h H1 a Q fun v H2 s p => q v H2 s (i v H2 (a.trans s) p)
theorem ev_v {i : Nat} {v : V} (h : σ[i]? = some (some v)) (m : Mono P) (p : P v H) : Ev (tVar i) σ H P := fun H1 e _ q => ⟨v, h, q v H1 (Same.refl H1) (m v H H1 e p)⟩
theorem ev_int {i : Int} : Ev (tC (.int i)) σ H (pInt i) := fun H1 _ _ q => q _ H1 (Same.refl H1) rfl
theorem ev_c {v : V} : Ev (tC v) σ H (pIs v) := fun H1 _ _ q => q _ H1 (Same.refl H1) rfl
/-- a constant of the module -/
theorem ev_g {v : V} (m : Mono P) (p : P v H) : Ev (tC v) σ H P := fun H1 e _ q => q v H1 (Same.refl H1) (m v H H1 e p)
theorem eva_nil : EvA tNil σ H [] := fun H1 _ _ q => q [] H1 (Same.refl H1) .nil
theorem eva_cons {t : TA} {Ps : List VP} (ha : Ev te σ H P) (m : Mono P) (ht : EvA t σ H Ps) : EvA (tCons te t) σ H (P :: Ps) := fun H1 e Q q =>
  ha H1 e _ fun v H2 s2 p => ht H2 (e.trans s2) _ fun vs H3 s3 a => q _ H3 (s2.trans s3) (.cons (m v H2 H3 s3 p) a)
theorem ev_tup {t : TA} {Ps : List VP} (h : EvA t σ H Ps) (st : ∀ P ∈ Ps, Stay P) (hl : Ps.length ≤ 1000) : Ev (tTup t) σ H (pTup K Ps) := fun H1 e Q q =>
  h H1 e _ fun vs H2 s2 a => ⟨Nat.le_of_lt (small1000 (by rw [a.len]; exact hl)), fun p hp => q _ _ (s2.trans (Same.new hp)) ⟨p, vs, rfl, .of upd_same, a.imp fun P hP v hv => st P hP v _ _ (Same.stb (Same.new hp)) hv⟩⟩
theorem ev_lst {t : TA} {Ps : List VP} (h : EvA t σ H Ps) (st : ∀ P ∈ Ps, Stay P) (hl : Ps.length ≤ 1000) : Ev (tLst t) σ H (pLst K Ps) := fun H1 e Q q =>
  h H1 e _ fun vs H2 s2 a => ⟨Nat.le_of_lt (small1000 (by rw [a.len]; exact hl)), fun p hp => q _ _ (s2.trans (Same.new hp)) ⟨p, vs, rfl, .of upd_same, a.imp fun P hP v hv => st P hP v _ _ (Same.stb (Same.new hp)) hv⟩⟩
/-- t[i], xs[i] -/
theorem ev_ixT {Ps : List VP} {i : Nat} {j : Int} (ha : Ev ta σ H (pTup K Ps)) (hb : Ev tb σ H (pInt j)) (ej : j = i) (hi : Ps[i]? = some P) (st : ∀ P ∈ Ps, Stay P) : Ev (tOp (rIxT K) ta tb) σ H P := fun H1 e Q q =>
  ha H1 e _ fun v H2 s2 p => hb H2 (e.trans s2) _ fun w H3 s3 p3 => by
    obtain ⟨a, vs, rfl, sq, al⟩ := stay_tup st v H2 H3 (Same.stb s3) p
    obtain ⟨x, hx, px⟩ := al.get hi
    exact ⟨a, vs, j, x, rfl, p3, sq, by rw [ej]; exact atI_nat hx, q x H3 (s2.trans s3) px⟩
theorem ev_ixL {Ps : List VP} {i : Nat} {j : Int} (ha : Ev ta σ H (pLst K Ps)) (hb : Ev tb σ H (pInt j)) (ej : j = i) (hi : Ps[i]? = some P) (st : ∀ P ∈ Ps, Stay P) : Ev (tOp (rIxL K) ta tb) σ H P := fun H1 e Q q =>
  ha H1 e _ fun v H2 s2 p => hb H2 (e.trans s2) _ fun w H3 s3 p3 => by
    obtain ⟨a, vs, rfl, sq, al⟩ := mono_lst (fun P hP => (st P hP).mono) v H2 H3 s3 p
    obtain ⟨x, hx, px⟩ := al.get hi
    exact ⟨a, vs, j, x, rfl, p3, sq, by rw [ej]; exact atI_nat hx, q x H3 (s2.trans s3) px⟩
/-- xs[-1] of a list -/
theorem ev_lastL {Ps : List VP} (ha : Ev ta σ H (pLst K (Ps ++ [P]))) (hb : Ev tb σ H (pInt (-1))) (st : ∀ Q ∈ Ps ++ [P], Stay Q) : Ev (tOp (rIxL K) ta tb) σ H P := fun H1 e Q q =>
  ha H1 e _ fun v H2 s2 p => hb H2 (e.trans s2) _ fun w H3 s3 p3 => by
    obtain ⟨a, vs, rfl, sq, al⟩ := mono_lst (fun P hP => (st P hP).mono) v H2 H3 s3 p
    obtain ⟨x, hx, px⟩ := al.get (i := Ps.length) (P := P) (by simp)
    have hl := al.len
    have hv : vs = vs.dropLast ++ [x] := by
      have hne : vs ≠ [] := fun z => by rw [z] at hl; simp at hl
      have e2 : vs.getLast? = some x := by
        rw [List.getLast?_eq_getElem?, show vs.length - 1 = Ps.length by rw [hl]; simp]
        exact hx
      rw [List.getLast?_eq_some_getLast hne] at e2
      rw [← Option.some.inj e2, List.dropLast_concat_getLast]
    refine ⟨a, vs, -1, x, rfl, p3, sq, ?_, q x H3 (s2.trans s3) px⟩
    rw [hv]; exact atI_last _ _
theorem ev_i0 {g : Int → Int → V} {i j : Int} (ha : Ev ta σ H (pInt i)) (hb : Ev tb σ H (pInt j)) : Ev (tOp (rI0 g) ta tb) σ H (pIs (g i j)) := fun H1 e Q q =>
  ha H1 e _ fun v H2 s2 p => hb H2 (e.trans s2) _ fun w H3 s3 p3 => ⟨i, j, p, p3, q _ H3 (s2.trans s3) rfl⟩
theorem ev_i {C : Int → Int → Prop} {g : Int → Int → V} {i j : Int} (hc : C i j) (ha : Ev ta σ H (pInt i)) (hb : Ev tb σ H (pInt j)) : Ev (tOp (rI C g) ta tb) σ H (pIs (g i j)) := fun H1 e Q q =>
  ha H1 e _ fun v H2 s2 p => hb H2 (e.trans s2) _ fun w H3 s3 p3 => ⟨i, j, p, p3, hc, q _ H3 (s2.trans s3) rfl⟩
theorem ev_u {g : Int → V} {i : Int} (ha : Ev ta σ H (pInt i)) : Ev (tUn (rU g) ta) σ H (pIs (g i)) := fun H1 e Q q =>
  ha H1 e _ fun v H2 s2 p => ⟨i, p, q _ H2 s2 rfl⟩
theorem ev_eq {x y : V} (hs : scal x y = true) (ha : Ev ta σ H (pIs x)) (hb : Ev tb σ H (pIs y)) : Ev (tOp rEq ta tb) σ H (pBl (decide (x = y))) := fun H1 e Q q =>
  ha H1 e _ fun v H2 s2 p => hb H2 (e.trans s2) _ fun w H3 s3 p3 => by
    have p : v = x := p
    have p3 : w = y := p3
    subst p p3
    exact ⟨hs, q _ H3 (s2.trans s3) rfl⟩
theorem et_test {b : Bool} (h : Ev te σ H (pBl b)) : EvT (tTest te) σ H b := fun H1 e _ q => h H1 e _ fun v H2 s p => ⟨b, p, q H2 s⟩
theorem et_B {b : Bool} (h : Ev te σ H (pBl b)) : EvT (tB te) σ H b := fun H1 e _ q => h H1 e _ fun v H2 s p => ⟨b, p, q H2 s⟩
theorem et_and {t u : TT} {a b : Bool} (h1 : EvT t σ H a) (h2 : a = true → EvT u σ H b) (h3 : a = false → b = false) : EvT (tAnd t u) σ H b := fun H1 e Q q => h1 H1 e _ fun H2 e2 => by
  cases a with
  | true => exact h2 rfl H2 (e.trans e2) Q fun H3 e3 => q H3 (e2.trans e3)
  | false =>
    rw [h3 rfl] at q
    exact q H2 e2
theorem et_or {t u : TT} {a b : Bool} (h1 : EvT t σ H a) (h2 : a = false → EvT u σ H b) (h3 : a = true → b = true) : EvT (tOr t u) σ H b := fun H1 e Q q => h1 H1 e _ fun H2 e2 => by
  cases a with
  | true =>
    rw [h3 rfl] at q
    exact q H2 e2
  | false => exact h2 rfl H2 (e.trans e2) Q fun H3 e3 => q H3 (e2.trans e3)
theorem et_not {t : TT} {a : Bool} (h : EvT t σ H a) : EvT (tNot t) σ H (!a) := fun H1 e Q q => h H1 e _ fun H2 e2 => q H2 e2
theorem ev_len {Ps : List VP} {ta : TE} (ha : Ev ta σ H (pLst K Ps)) : Ev (tCB (fun xs H Q => ∃ p ys, xs = [.ref p] ∧ (SqL K H p ys ∨ SqT K H p ys) ∧ Q (.int ys.length) H) (tCons ta tNil)) σ H (pInt Ps.length) := fun H1 e Q q =>
  ha H1 e _ fun v H2 s2 ⟨p, vs, ev, sq, al⟩ => ⟨p, vs, by rw [ev], .inl sq, q _ H2 s2 (by rw [al.len]; rfl)⟩
theorem ev_lenT {Ps : List VP} {ta : TE} (ha : Ev ta σ H (pTup K Ps)) : Ev (tCB (fun xs H Q => ∃ p ys, xs = [.ref p] ∧ (SqL K H p ys ∨ SqT K H p ys) ∧ Q (.int ys.length) H) (tCons ta tNil)) σ H (pInt Ps.length) := fun H1 e Q q =>
  ha H1 e _ fun v H2 s2 ⟨p, vs, ev, sq, al⟩ => ⟨p, vs, by rw [ev], .inr sq, q _ H2 s2 (by rw [al.len]; rfl)⟩
end

/-! ### promises: from arguments of such kinds a value of such a kind -/
def Spc {α : Type} (args : α → List VP) (side : α → Prop) (post : α → VP) : Sp := fun vs H Q _ => ∃ a, side a ∧ Al H vs (args a) ∧ ∀ v H', Same H H' → post a v H' → Q v H'
section
variable {σ : L2.St} {H : Hp} {α : Type} {args : α → List VP} {side : α → Prop} {post : α → VP} {t : TA}
theorem ev_call (a : α) (hs : side a) (h : EvA t σ H (args a)) : Ev (tCall (Spc args side post) [] E0 t) σ H (post a) := fun H1 e Q q =>
  h H1 e _ fun vs H2 s2 al => by
    show (Spc args side post) (vs ++ []) H2 Q E0
    rw [List.append_nil]
    exact ⟨a, hs, al, fun v H' s p => q v H' (s2.trans s) p⟩
end
end AC
end
section
set_option maxRecDepth 100000
set_option exponentiation.threshold 20000
/-! The walk: defs in general; the ratios of the program. -/
namespace AC
open PySem PySem.Spec PyProof.Rows L2

section
variable (P : Program) (w : World) (K : PySem.W.Frag) (mg : Str → Option Value) (base : Heap)
/-- a def of the text stands under its name -/
def Got (x : Str) (i : Nat) (ps : List Str) : Prop := ∃ f fd, Fun K x x (topS i) f fd ∧ mg x = some (.ref f) ∧ Binds K fd ps []
/-- it keeps a promise -/
def DefOk (k : Nat) (x : Str) (ps : List Str) (sp : Sp) : Prop := ∃ f fd, FnOk P w K mg base CX0 k f fd ps sp ∧ mg x = some (.ref f) ∧ PySem.W.keepIn K (.ref f) = true ∧ Binds K fd ps []
end
section
variable {P : Program} {w : World} {K : PySem.W.Frag} {mg : Str → Option Value} {base : Heap}
theorem pe_callD {X : Cx} {k : Nat} {x : Str} {ps : List Str} {sp : Sp} {p pos : Pos} {e : Expr} {es : List Expr} {t : TA} (D : DefOk X.prog X.w X.K X.mg X.base k x ps sp) (hr : Room k X.A) (hg : Gl X x) (ha : PA X (e :: es) t) (hdb : (x == ("__debug__" : Str)) = false := by decide)
    (hs : starEach (e :: es) X.env = (false, eval e X.env) :: starEach es X.env := by rfl) (hp : (backTo pos (starEach es X.env)).any (·.1) = false := by rfl) : PE X (.Call (.Name x p) (e :: es) [] pos) (tCall sp [] E0 t) := by
  obtain ⟨f, fd, F, hm, hk, hb⟩ := D
  exact pe_call F hr hg hm hk hb .nil pass0 ha hdb hs hp
theorem def_of {α : Type} {args : α → List VP} {side : α → Prop} {post : α → VP} {x : Str} {i : Nat} {ps N : List Str} {k : Nat} (g : Got K mg x i ps) (S : FnScope N ps (defScope (topS i))) (hl : ∀ a, (args a).length = ps.length)
    (hb : ∀ (f : Addr) (cdv : Value) (A : Around) (outer : List Env) (s : Shared) (H : Hp) (vs : List V) (Q : VK) (E : XK) (a : α), Room k (A.deeper (envOfC x (defScope (topS i)) s.heap.objs.size f cdv)) → side a → Al H vs (args a) → (∀ v H', Same H H' → post a v H' → Q v H') →
      ∃ t, PSs (cxOf CX0 P w K mg base N x (defScope (topS i)) f cdv A outer s H E).nox (defBody (topS i)) t ∧ t { nx := fun _ H' => Q .non H', rt := Q } (start N vs) H) : DefOk P w K mg base (k + 1) x ps (Spc args side post) := by
  obtain ⟨f, fd, F, hm, hbd⟩ := g
  refine ⟨f, fd, F.ok S (fun vs H Q E h => ?_) (fun cdv A outer s H vs Q E hr h => ?_), hm, F.kp, hbd⟩
  · obtain ⟨a, _, al, _⟩ := h
    rw [al.len, hl a]
  · obtain ⟨a, sd, al, q⟩ := h
    exact hb f cdv A outer s H vs Q E a hr sd al q
theorem DefOk.mono {j k : Nat} {x : Str} {ps : List Str} {sp : Sp} (D : DefOk P w K mg base j x ps sp) (h : j ≤ k) : DefOk P w K mg base k x ps sp := by
  obtain ⟨f, fd, F, hm, hk, hb⟩ := D
  exact ⟨f, fd, F.mono h, hm, hk, hb⟩
end

/-! ### sizes -/
theorem ok_num {x : Rat} (h : Ok x) : x.num.natAbs < 2 ^ 4400 := h.1
theorem ok_den {x : Rat} (h : Ok x) : ((x.den : Int)).natAbs < 2 ^ 4400 := by rw [Int.natAbs_natCast]; exact h.2
theorem mulw {i j : Int} (h1 : i.natAbs < 2 ^ 4400) (h2 : j.natAbs < 2 ^ 4400) : CMulW i j := wide_mul h1 h2 (by omega) (by omega) (by omega)
theorem den_prod {x y : Rat} (hx : Ok x) (hy : Ok y) : ((x.den : Int) * y.den).natAbs < 2 ^ 8900 := by
  have h := wide_lt (ok_den hx) (ok_den hy)
  exact Nat.lt_of_lt_of_le h (Nat.pow_le_pow_right (by omega) (by omega))

/-- what gcd and the two divisions give -/
theorem low_num {n d : Int} (h : 0 < d) : n / ((Nat.gcd n.natAbs d.natAbs : Nat) : Int) = (Rat.divInt n d).num := by
  rw [Rat.num_divInt, Int.sign_eq_one_of_pos h, Int.one_mul, Int.gcd_comm]
  rfl
theorem low_den {n d : Int} (h : 0 < d) : d / ((Nat.gcd n.natAbs d.natAbs : Nat) : Int) = ((Rat.divInt n d).den : Int) := by
  rw [Rat.den_divInt, if_neg (by omega), Int.natCast_ediv, Int.natAbs_of_nonneg (Int.le_of_lt h), Int.gcd_comm]
  rfl
theorem gcd_pos {n d : Int} (h : 0 < d) : 0 < ((Nat.gcd n.natAbs d.natAbs : Nat) : Int) := by
  have : 0 < Nat.gcd n.natAbs d.natAbs := Nat.gcd_pos_of_pos_right _ (by omega)
  omega
theorem gcd_small {n d : Int} {k : Nat} (h : 0 < d) (hd : d.natAbs < 2 ^ k) : (((Nat.gcd n.natAbs d.natAbs : Nat) : Int)).natAbs < 2 ^ k := by
  rw [Int.natAbs_natCast]
  exact Nat.lt_of_le_of_lt (Nat.le_of_dvd (by omega) (Nat.gcd_dvd_right _ _)) hd
theorem ok_divInt_add (x y : Rat) : Rat.divInt (x.num * y.den + y.num * x.den) ((x.den : Int) * y.den) = x + y := by
  rw [Rat.add_def', ← Rat.divInt_ofNat, Int.natCast_mul]
theorem ok_divInt_sub (x y : Rat) : Rat.divInt (x.num * y.den - y.num * x.den) ((x.den : Int) * y.den) = x - y := by
  rw [Rat.sub_def', ← Rat.divInt_ofNat, Int.natCast_mul]
theorem ok_divInt_mul (x y : Rat) : Rat.divInt (x.num * y.num) ((x.den : Int) * y.den) = x * y := by
  rw [Rat.mul_def', ← Rat.divInt_ofNat, Int.natCast_mul]
theorem ok_divInt_div (x y : Rat) : Rat.divInt (x.num * y.den) ((x.den : Int) * y.num) = x / y := by
  rw [Rat.div_def, Rat.inv_def, ← Rat.divInt_mul_divInt, Rat.num_divInt_den]
theorem den_pos' (x : Rat) : (0 : Int) < x.den := by have := x.den_pos; omega

/-! ### the promises -/
/-- gcd -/
def spGcd : Sp := Spc (α := Int × Int) (fun a => [pInt a.1, pInt a.2]) (fun _ => True) fun a => pInt ((Nat.gcd a.1.natAbs a.2.natAbs : Nat) : Int)
def spMake (K : PySem.W.Frag) : Sp := Spc (α := Int × Int) (fun a => [pInt a.1, pInt a.2]) (fun a => 0 < a.2 ∧ a.2.natAbs < 2 ^ 8900 ∧ Ok (Rat.divInt a.1 a.2)) fun a => pR K (Rat.divInt a.1 a.2)
def spR2 (K : PySem.W.Frag) (f : Rat → Rat → Rat) : Sp := Spc (α := Rat × Rat) (fun a => [pR K a.1, pR K a.2]) (fun a => Ok (f a.1 a.2)) fun a => pR K (f a.1 a.2)
def spDiv (K : PySem.W.Frag) : Sp := Spc (α := Rat × Rat) (fun a => [pR K a.1, pR K a.2]) (fun a => 0 < a.2 ∧ Ok (a.1 / a.2)) fun a => pR K (a.1 / a.2)
def cmpI (x y : Rat) : Int := if x < y then -1 else if y < x then 1 else 0
def spCmp (K : PySem.W.Frag) : Sp := Spc (α := Rat × Rat) (fun a => [pR K a.1, pR K a.2]) (fun _ => True) fun a => pInt (cmpI a.1 a.2)

section
variable {K : PySem.W.Frag} {σ : L2.St} {H : Hp} {ta tb : TE} {x y : Rat} {i j : Int}
theorem ev_gcd (ha : Ev ta σ H (pInt i)) (hb : Ev tb σ H (pInt j)) : Ev (tCall spGcd [] E0 (tCons ta (tCons tb tNil))) σ H (pInt ((Nat.gcd i.natAbs j.natAbs : Nat) : Int)) :=
  ev_call (args := fun a : Int × Int => [pInt a.1, pInt a.2]) (side := fun _ => True) (post := fun a => pInt ((Nat.gcd a.1.natAbs a.2.natAbs : Nat) : Int)) (i, j) trivial (eva_cons ha stay_int.mono (eva_cons hb stay_int.mono eva_nil))
theorem ev_R2 {f : Rat → Rat → Rat} (ha : Ev ta σ H (pR K x)) (hb : Ev tb σ H (pR K y)) (ho : Ok (f x y)) : Ev (tCall (spR2 K f) [] E0 (tCons ta (tCons tb tNil))) σ H (pR K (f x y)) :=
  ev_call (args := fun a : Rat × Rat => [pR K a.1, pR K a.2]) (side := fun a => Ok (f a.1 a.2)) (post := fun a => pR K (f a.1 a.2)) (x, y) ho (eva_cons ha stay_R.mono (eva_cons hb stay_R.mono eva_nil))
theorem ev_div (ha : Ev ta σ H (pR K x)) (hb : Ev tb σ H (pR K y)) (hy : 0 < y) (ho : Ok (x / y)) : Ev (tCall (spDiv K) [] E0 (tCons ta (tCons tb tNil))) σ H (pR K (x / y)) :=
  ev_call (args := fun a : Rat × Rat => [pR K a.1, pR K a.2]) (side := fun a => 0 < a.2 ∧ Ok (a.1 / a.2)) (post := fun a => pR K (a.1 / a.2)) (x, y) ⟨hy, ho⟩ (eva_cons ha stay_R.mono (eva_cons hb stay_R.mono eva_nil))
theorem ev_cmp (ha : Ev ta σ H (pR K x)) (hb : Ev tb σ H (pR K y)) : Ev (tCall (spCmp K) [] E0 (tCons ta (tCons tb tNil))) σ H (pInt (cmpI x y)) :=
  ev_call (args := fun a : Rat × Rat => [pR K a.1, pR K a.2]) (side := fun _ => True) (post := fun a => pInt (cmpI a.1 a.2)) (x, y) trivial (eva_cons ha stay_R.mono (eva_cons hb stay_R.mono eva_nil))
end
theorem sc8 : FnScope ["a", "b"] ["a", "b"] (defScope (topS 8)) := ⟨rfl, rfl, rfl, by decide +kernel, rfl, by decide +kernel, by decide +kernel⟩
theorem sc9 : FnScope ["n", "d", "divisor"] ["n", "d"] (defScope (topS 9)) := ⟨rfl, rfl, rfl, by decide +kernel, rfl, by decide +kernel, by decide +kernel⟩
theorem sc10 : FnScope ["a", "b"] ["a", "b"] (defScope (topS 10)) := ⟨rfl, rfl, rfl, by decide +kernel, rfl, by decide +kernel, by decide +kernel⟩
theorem sc11 : FnScope ["a", "b"] ["a", "b"] (defScope (topS 11)) := ⟨rfl, rfl, rfl, by decide +kernel, rfl, by decide +kernel, by decide +kernel⟩
theorem sc12 : FnScope ["a", "b"] ["a", "b"] (defScope (topS 12)) := ⟨rfl, rfl, rfl, by decide +kernel, rfl, by decide +kernel, by decide +kernel⟩
theorem sc13 : FnScope ["a", "b"] ["a", "b"] (defScope (topS 13)) := ⟨rfl, rfl, rfl, by decide +kernel, rfl, by decide +kernel, by decide +kernel⟩
theorem sc14 : FnScope ["a", "b", "left", "right"] ["a", "b"] (defScope (topS 14)) := ⟨rfl, rfl, rfl, by decide +kernel, rfl, by decide +kernel, by decide +kernel⟩
section
variable {P : Program} {w : World} {K : PySem.W.Frag} {mg : Str → Option Value} {base : Heap}
theorem d_gcd (g : Got K mg "common_divisor" 8 ["a", "b"]) (mgG : mg "gcd" = some (.builtin "math.gcd")) : DefOk P w K mg base 1 "common_divisor" ["a", "b"] spGcd := by
  refine def_of g sc8 (fun _ => rfl) fun f cdv A outer s H vs Q E a hr sd al q => ?_
  obtain ⟨x, y⟩ := a
  cases al with | cons h1 al => cases al with | cons h2 al => cases al with | nil =>
  refine ⟨_, pss_one (ps_ret (pe_callBfun cr_gcd (by rfl) mgG (pa_cons (pv 0) (pa_cons (pv 1) pa_nil)))), ?_⟩
  exact ⟨_, rfl, _, rfl, x, y, by rw [show _ = V.int x from h1, show _ = V.int y from h2], q _ _ (Same.refl _) rfl⟩
theorem d_make (g : Got K mg "make_ratio" 9 ["n", "d"]) (D : DefOk P w K mg base 1 "common_divisor" ["a", "b"] spGcd) : DefOk P w K mg base 2 "make_ratio" ["n", "d"] (spMake K) := by
  refine def_of g sc9 (fun _ => rfl) fun f cdv A outer s H vs Q E a hr sd al q => ?_
  obtain ⟨n, d⟩ := a
  obtain ⟨hd, hs, ho⟩ := sd
  have hd : 0 < d := hd
  cases al with | cons h1 al => cases al with | cons h2 al => cases al with | nil =>
  obtain rfl : _ = V.int n := h1
  obtain rfl : _ = V.int d := h2
  refine ⟨_, pss_cons (ps_if (pt_cmpR op_eq (pv 1) pe_int (nomark _)) (pss_one ps_never) pss_nil)
    (pss_cons (ps_set (i := 2) sc9.nd rfl (.inl rfl) (pe_callD D hr (by rfl) (pa_cons (pv 0) (pa_cons (pv 1) pa_nil))))
    (pss_cons (ps_if (pt_cmpR op_lt (pv 1) pe_int (nomark _)) (pss_one (ps_set (i := 2) sc9.nd rfl (.inl rfl) (pe_un un_neg (pv 2)))) pss_nil)
    (pss_one (ps_ret (pe_tup (pa_cons (pe_op op_fdivW (pv 0) (pv 2)) (pa_cons (pe_op op_fdivW (pv 1) (pv 2)) pa_nil))))))), ?_⟩
  refine ⟨.int d, rfl, rfl, _, rfl, ite2 (fun z => ?_) (fun _ => ?_)⟩
  · have := V.int.inj (of_decide_eq_true z)
    omega
  refine (ev_gcd (i := n) (j := d) (ev_v rfl stay_int.mono rfl) (ev_v rfl stay_int.mono rfl)) H (Same.refl H) _ fun v H1 s1 p1 => ?_
  obtain rfl : v = V.int ((Nat.gcd n.natAbs d.natAbs : Nat) : Int) := p1
  refine ⟨.int d, rfl, _, _, rfl, rfl, _, rfl, ite2 (fun z => ?_) (fun _ => ?_)⟩
  · have := of_decide_eq_true z
    omega
  have hg := gcd_pos (n := n) hd
  have hgs := gcd_small (n := n) hd hs
  refine ⟨.int n, rfl, _, rfl, _, _, rfl, rfl, wide_div hg hgs (by omega) (by omega), ?_⟩
  refine ⟨.int d, rfl, _, rfl, _, _, rfl, rfl, wide_div hg hgs (by omega) (by omega), ?_⟩
  refine ⟨by show 2 ≤ sizeLine; decide, fun p hp => ?_⟩
  refine q _ _ (s1.trans (Same.new hp)) ⟨p, rfl, ?_, ho⟩
  show SqT K _ p [V.int (Rat.divInt n d).num, V.int ((Rat.divInt n d).den : Int)]
  rw [← low_num hd, ← low_den hd]
  exact .of upd_same
theorem d_add (g : Got K mg "add" 10 ["a", "b"]) (D : DefOk P w K mg base 2 "make_ratio" ["n", "d"] (spMake K)) : DefOk P w K mg base 3 "add" ["a", "b"] (spR2 K fun x y => x + y) := by
  refine def_of g sc10 (fun _ => rfl) fun f cdv A outer s H vs Q E a hr sd al q => ?_
  obtain ⟨x, y⟩ := a
  cases al with | cons h1 al => cases al with | cons h2 al => cases al with | nil =>
  obtain ⟨p1, rfl, t1, o1⟩ := h1
  obtain ⟨p2, rfl, t2, o2⟩ := h2
  refine ⟨_, pss_one (ps_ret (pe_callD D hr (by rfl) (pa_cons (pe_op op_add (pe_op op_mulW (pe_ix ix_tup (pv 0) pe_int (fun _ _ => rfl)) (pe_ix ix_tup (pv 1) pe_int (fun _ _ => rfl)))
    (pe_op op_mulW (pe_ix ix_tup (pv 1) pe_int (fun _ _ => rfl)) (pe_ix ix_tup (pv 0) pe_int (fun _ _ => rfl)))) (pa_cons (pe_op op_mulW (pe_ix ix_tup (pv 0) pe_int (fun _ _ => rfl)) (pe_ix ix_tup (pv 1) pe_int (fun _ _ => rfl))) pa_nil)))), ?_⟩
  refine ⟨_, rfl, p1, _, 0, _, rfl, rfl, t1, rfl, _, rfl, p2, _, 1, _, rfl, rfl, t2, rfl, _, _, rfl, rfl, mulw o1.1 (ok_den o2), ?_⟩
  refine ⟨_, rfl, p2, _, 0, _, rfl, rfl, t2, rfl, _, rfl, p1, _, 1, _, rfl, rfl, t1, rfl, _, _, rfl, rfl, mulw o2.1 (ok_den o1), _, _, rfl, rfl, ?_⟩
  refine ⟨_, rfl, p1, _, 1, _, rfl, rfl, t1, rfl, _, rfl, p2, _, 1, _, rfl, rfl, t2, rfl, _, _, rfl, rfl, mulw (ok_den o1) (ok_den o2), ?_⟩
  refine ⟨(_, _), ⟨Int.mul_pos (den_pos' x) (den_pos' y), den_prod o1 o2, ?_⟩, .cons rfl (.cons rfl .nil), fun v H' s p => q v H' s ?_⟩
  · show Ok (Rat.divInt _ _)
    rw [ok_divInt_add]; exact sd
  · show pR K (x + y) v H'
    rw [← ok_divInt_add]; exact p
theorem d_sub (g : Got K mg "subtract" 11 ["a", "b"]) (D : DefOk P w K mg base 2 "make_ratio" ["n", "d"] (spMake K)) : DefOk P w K mg base 3 "subtract" ["a", "b"] (spR2 K fun x y => x - y) := by
  refine def_of g sc11 (fun _ => rfl) fun f cdv A outer s H vs Q E a hr sd al q => ?_
  obtain ⟨x, y⟩ := a
  cases al with | cons h1 al => cases al with | cons h2 al => cases al with | nil =>
  obtain ⟨p1, rfl, t1, o1⟩ := h1
  obtain ⟨p2, rfl, t2, o2⟩ := h2
  refine ⟨_, pss_one (ps_ret (pe_callD D hr (by rfl) (pa_cons (pe_op op_sub (pe_op op_mulW (pe_ix ix_tup (pv 0) pe_int (fun _ _ => rfl)) (pe_ix ix_tup (pv 1) pe_int (fun _ _ => rfl)))
    (pe_op op_mulW (pe_ix ix_tup (pv 1) pe_int (fun _ _ => rfl)) (pe_ix ix_tup (pv 0) pe_int (fun _ _ => rfl)))) (pa_cons (pe_op op_mulW (pe_ix ix_tup (pv 0) pe_int (fun _ _ => rfl)) (pe_ix ix_tup (pv 1) pe_int (fun _ _ => rfl))) pa_nil)))), ?_⟩
  refine ⟨_, rfl, p1, _, 0, _, rfl, rfl, t1, rfl, _, rfl, p2, _, 1, _, rfl, rfl, t2, rfl, _, _, rfl, rfl, mulw o1.1 (ok_den o2), ?_⟩
  refine ⟨_, rfl, p2, _, 0, _, rfl, rfl, t2, rfl, _, rfl, p1, _, 1, _, rfl, rfl, t1, rfl, _, _, rfl, rfl, mulw o2.1 (ok_den o1), _, _, rfl, rfl, ?_⟩
  refine ⟨_, rfl, p1, _, 1, _, rfl, rfl, t1, rfl, _, rfl, p2, _, 1, _, rfl, rfl, t2, rfl, _, _, rfl, rfl, mulw (ok_den o1) (ok_den o2), ?_⟩
  refine ⟨(_, _), ⟨Int.mul_pos (den_pos' x) (den_pos' y), den_prod o1 o2, ?_⟩, .cons rfl (.cons rfl .nil), fun v H' s p => q v H' s ?_⟩
  · show Ok (Rat.divInt _ _)
    rw [ok_divInt_sub]; exact sd
  · show pR K (x - y) v H'
    rw [← ok_divInt_sub]; exact p
theorem d_mul (g : Got K mg "multiply" 12 ["a", "b"]) (D : DefOk P w K mg base 2 "make_ratio" ["n", "d"] (spMake K)) : DefOk P w K mg base 3 "multiply" ["a", "b"] (spR2 K fun x y => x * y) := by
  refine def_of g sc12 (fun _ => rfl) fun f cdv A outer s H vs Q E a hr sd al q => ?_
  obtain ⟨x, y⟩ := a
  cases al with | cons h1 al => cases al with | cons h2 al => cases al with | nil =>
  obtain ⟨p1, rfl, t1, o1⟩ := h1
  obtain ⟨p2, rfl, t2, o2⟩ := h2
  refine ⟨_, pss_one (ps_ret (pe_callD D hr (by rfl) (pa_cons (pe_op op_mulW (pe_ix ix_tup (pv 0) pe_int (fun _ _ => rfl)) (pe_ix ix_tup (pv 1) pe_int (fun _ _ => rfl)))
    (pa_cons (pe_op op_mulW (pe_ix ix_tup (pv 0) pe_int (fun _ _ => rfl)) (pe_ix ix_tup (pv 1) pe_int (fun _ _ => rfl))) pa_nil)))), ?_⟩
  refine ⟨_, rfl, p1, _, 0, _, rfl, rfl, t1, rfl, _, rfl, p2, _, 0, _, rfl, rfl, t2, rfl, _, _, rfl, rfl, mulw o1.1 o2.1, ?_⟩
  refine ⟨_, rfl, p1, _, 1, _, rfl, rfl, t1, rfl, _, rfl, p2, _, 1, _, rfl, rfl, t2, rfl, _, _, rfl, rfl, mulw (ok_den o1) (ok_den o2), ?_⟩
  refine ⟨(_, _), ⟨Int.mul_pos (den_pos' x) (den_pos' y), den_prod o1 o2, ?_⟩, .cons rfl (.cons rfl .nil), fun v H' s p => q v H' s ?_⟩
  · show Ok (Rat.divInt _ _)
    rw [ok_divInt_mul]; exact sd
  · show pR K (x * y) v H'
    rw [← ok_divInt_mul]; exact p
theorem d_div (g : Got K mg "divide" 13 ["a", "b"]) (D : DefOk P w K mg base 2 "make_ratio" ["n", "d"] (spMake K)) : DefOk P w K mg base 3 "divide" ["a", "b"] (spDiv K) := by
  refine def_of g sc13 (fun _ => rfl) fun f cdv A outer s H vs Q E a hr sd al q => ?_
  obtain ⟨x, y⟩ := a
  obtain ⟨hy, ho⟩ := sd
  have hy : 0 < y := hy
  have hyn : 0 < y.num := by
    have h1 : 0 ≤ y.num := Rat.num_nonneg.mpr (Rat.le_of_lt hy)
    have h2 : y.num ≠ 0 := fun z => by rw [Rat.num_eq_zero.mp z] at hy; exact Rat.lt_irrefl hy
    omega
  cases al with | cons h1 al => cases al with | cons h2 al => cases al with | nil =>
  obtain ⟨p1, rfl, t1, o1⟩ := h1
  obtain ⟨p2, rfl, t2, o2⟩ := h2
  refine ⟨_, pss_cons (ps_if (pt_cmpR op_eq (pe_ix ix_tup (pv 1) pe_int (fun _ _ => rfl)) pe_int (nomark _)) (pss_one ps_never) pss_nil)
    (pss_one (ps_ret (pe_callD D hr (by rfl) (pa_cons (pe_op op_mulW (pe_ix ix_tup (pv 0) pe_int (fun _ _ => rfl)) (pe_ix ix_tup (pv 1) pe_int (fun _ _ => rfl)))
    (pa_cons (pe_op op_mulW (pe_ix ix_tup (pv 0) pe_int (fun _ _ => rfl)) (pe_ix ix_tup (pv 1) pe_int (fun _ _ => rfl))) pa_nil))))), ?_⟩
  refine ⟨_, rfl, p2, _, 0, _, rfl, rfl, t2, rfl, rfl, _, rfl, ite2 (fun z => ?_) (fun _ => ?_)⟩
  · have : y.num = 0 := V.int.inj (of_decide_eq_true z)
    omega
  refine ⟨_, rfl, p1, _, 0, _, rfl, rfl, t1, rfl, _, rfl, p2, _, 1, _, rfl, rfl, t2, rfl, _, _, rfl, rfl, mulw o1.1 (ok_den o2), ?_⟩
  refine ⟨_, rfl, p1, _, 1, _, rfl, rfl, t1, rfl, _, rfl, p2, _, 0, _, rfl, rfl, t2, rfl, _, _, rfl, rfl, mulw (ok_den o1) o2.1, ?_⟩
  refine ⟨(_, _), ⟨Int.mul_pos (den_pos' x) hyn, Nat.lt_of_lt_of_le (wide_lt (ok_den o1) (ok_num o2)) (Nat.pow_le_pow_right (by omega) (by omega)), ?_⟩, .cons rfl (.cons rfl .nil), fun v H' s p => q v H' s ?_⟩
  · show Ok (Rat.divInt _ _)
    rw [ok_divInt_div]; exact ho
  · show pR K (x / y) v H'
    rw [← ok_divInt_div]; exact p
theorem d_cmp (g : Got K mg "compare" 14 ["a", "b"]) : DefOk P w K mg base 1 "compare" ["a", "b"] (spCmp K) := by
  refine def_of g sc14 (fun _ => rfl) fun f cdv A outer s H vs Q E a hr sd al q => ?_
  obtain ⟨x, y⟩ := a
  cases al with | cons h1 al => cases al with | cons h2 al => cases al with | nil =>
  obtain ⟨p1, rfl, t1, o1⟩ := h1
  obtain ⟨p2, rfl, t2, o2⟩ := h2
  refine ⟨_, pss_cons (ps_set (i := 2) sc14.nd rfl (.inl rfl) (pe_op op_mulW (pe_ix ix_tup (pv 0) pe_int (fun _ _ => rfl)) (pe_ix ix_tup (pv 1) pe_int (fun _ _ => rfl))))
    (pss_cons (ps_set (i := 3) sc14.nd rfl (.inl rfl) (pe_op op_mulW (pe_ix ix_tup (pv 1) pe_int (fun _ _ => rfl)) (pe_ix ix_tup (pv 0) pe_int (fun _ _ => rfl))))
    (pss_cons (ps_if (pt_cmpR op_lt (pv 2) (pv 3) (nomark _)) (pss_one (ps_ret (pe_un un_neg pe_int))) pss_nil)
    (pss_cons (ps_if (pt_cmpR op_gt (pv 2) (pv 3) (nomark _)) (pss_one (ps_ret pe_int)) pss_nil)
    (pss_one (ps_ret pe_int))))), ?_⟩
  refine ⟨_, rfl, p1, _, 0, _, rfl, rfl, t1, rfl, _, rfl, p2, _, 1, _, rfl, rfl, t2, rfl, _, _, rfl, rfl, mulw o1.1 (ok_den o2), ?_⟩
  refine ⟨_, rfl, p2, _, 0, _, rfl, rfl, t2, rfl, _, rfl, p1, _, 1, _, rfl, rfl, t1, rfl, _, _, rfl, rfl, mulw o2.1 (ok_den o1), ?_⟩
  refine ⟨_, rfl, _, rfl, _, _, rfl, rfl, _, rfl, ite2 (fun z => ?_) (fun z => ?_)⟩
  · have c : x < y := (Rat.lt_iff x y).mpr (of_decide_eq_true z)
    refine ⟨1, rfl, q _ _ (Same.refl H) ?_⟩
    show V.int (-1) = V.int (cmpI x y)
    unfold cmpI
    rw [if_pos c]
  · have c : ¬ x < y := fun h => z (decide_eq_true ((Rat.lt_iff x y).mp h))
    refine ⟨_, rfl, _, rfl, _, _, rfl, rfl, _, rfl, ite2 (fun z2 => ?_) (fun z2 => ?_)⟩
    · have c2 : y < x := (Rat.lt_iff y x).mpr (of_decide_eq_true z2)
      refine q _ _ (Same.refl H) ?_
      show V.int 1 = V.int (cmpI x y)
      unfold cmpI
      rw [if_neg c, if_pos c2]
    · have c2 : ¬ y < x := fun h => z2 (decide_eq_true ((Rat.lt_iff y x).mp h))
      refine q _ _ (Same.refl H) ?_
      show V.int 0 = V.int (cmpI x y)
      unfold cmpI
      rw [if_neg c, if_neg c2]
end
end AC
end
section
set_option maxRecDepth 100000
/-! The walk: comprehensions, equality of ratios, copies. -/
namespace AC
open PySem PySem.Spec PyProof.Rows L2
variable {K : PySem.W.Frag}

/-! ### rules with the written part told (within a comprehension) -/
section
variable {X : Cx} {a b : Expr} {ta tb : TE} {pos : Pos}
theorem pe_ixT (hK : X.K = K) (ha : PE X a ta) (hb : PE X b tb) (hs : PlainIx b) : PE X (.Subscript a b pos) (tOp (rIxT K) ta tb) := by subst hK; exact pe_ix ix_tup ha hb hs
theorem pe_ixL (hK : X.K = K) (ha : PE X a ta) (hb : PE X b tb) (hs : PlainIx b) : PE X (.Subscript a b pos) (tOp (rIxL K) ta tb) := by subst hK; exact pe_ix ix_list ha hb hs
theorem call_lenK (hK : X.K = K) : CallR X (.builtin "len") (fun xs H Q => ∃ p ys, xs = [.ref p] ∧ (SqL K H p ys ∨ SqT K H p ys) ∧ Q (.int ys.length) H) := by subst hK; exact call_len_seq
theorem call_sumK (hK : X.K = K) (hc : X.calm = true) : CallR X (.builtin "sum") (rSum K) := by subst hK; exact cr_sum hc
theorem call_tupleK (hK : X.K = K) : CallR X (.type "tuple") (fun xs H Q => ∃ p ys, xs = [.ref p] ∧ ((SqL K H p ys ∧ ∀ l, H l = none → Q (.ref l) (upd H l (.tup ys))) ∨ (SqT K H p ys ∧ Q (.ref p) H))) := by subst hK; exact call_tuple_of
theorem op_catK (hK : X.K = K) : OpR X (binaryOp .Add) (rCatA K) := by subst hK; exact op_catA
end
theorem wipe1 (σ : L2.St) (i : Nat) (x : Option V) : wipe ((wipe σ [i]).set i x) [i] = wipe σ [i] := by
  show ((σ.set i none).set i x).set i none = σ.set i none
  rw [List.set_set, List.set_set]
theorem take_succ {α : Type} {l : List α} {i : Nat} {x : α} (h : l[i]? = some x) : l.take (i + 1) = l.take i ++ [x] := by
  rw [List.take_add_one, h]; rfl
theorem get_of_lt {α : Type} {l : List α} {i : Nat} (h : i < l.length) : ∃ x, l[i]? = some x := ⟨l[i], List.getElem?_eq_getElem h⟩
theorem lt_of_get {α : Type} {l : List α} {i : Nat} {x : α} (h : l[i]? = some x) : i < l.length := by
  by_cases q : i < l.length
  · exact q
  · rw [List.getElem?_eq_none (by omega)] at h; cases h
section
variable {σ : L2.St} {H : Hp} {te tl : TE}
/-- a list of one's own at an address: tracked -/
def pOwn (Ps : List VP) : VP := fun v H => ∃ p vs, v = .ref p ∧ H p = some (.lst vs) ∧ Al H vs Ps
theorem pOwn.lst {Ps : List VP} {v : V} {H : Hp} (h : pOwn Ps v H) : pLst K Ps v H := by
  obtain ⟨p, vs, e, hp, al⟩ := h
  exact ⟨p, vs, e, .of hp, al⟩
theorem mono_own {Ps : List VP} (h : ∀ P ∈ Ps, Mono P) : Mono (pOwn Ps) := fun v H H' e ⟨p, vs, a, b, c⟩ =>
  ⟨p, vs, a, e _ _ b, c.imp fun P hP v hv => h P hP v H H' e hv⟩
theorem Ev.lst {Ps : List VP} (h : Ev te σ H (pOwn Ps)) : Ev te σ H (pLst K Ps) := h.imp fun v H' _ p => p.lst
/-- the list that a comprehension has made so far -/
def Made (H : Hp) (D : Addr) (Rs : List VP) (i : Nat) (H' : Hp) : Prop := Same H H' ∧ ∃ vs, H' D = some (.lst vs) ∧ Al H' vs (Rs.take i)
theorem made_step {H H4 : Hp} {D : Addr} {Rs : List VP} {i : Nat} {R : VP} {v : V} {H3 : Hp} (m : Made H D Rs i H3) (hn : H D = none) (sR : ∀ R ∈ Rs, Stay R) (hR : Rs[i]? = some R) (s : Same H3 H4) (p : R v H4) (hle : Rs.length ≤ 1000) :
    ∃ acc, H4 D = some (.lst acc) ∧ acc.length < sizeLine ∧ Made H D Rs (i + 1) (upd H4 D (.lst (acc ++ [v]))) := by
  obtain ⟨s0, vs, hD, al⟩ := m
  have hD4 := s D _ hD
  refine ⟨vs, hD4, small1000 ?_, Same.upd (s0.trans s) hn, _, upd_same, ?_⟩
  · have := al.len
    rw [List.length_take] at this
    omega
  · rw [take_succ hR]
    have st : Stb H4 (upd H4 D (.lst (vs ++ [v]))) := Stb.lst hD4
    exact (al.imp fun P hP v hv => sR P (List.mem_of_mem_take hP) v _ _ ((Same.stb s).trans st) hv).app (.one (sR R (List.mem_of_getElem? hR) v _ _ st p))
theorem made_nil {H H1 : Hp} {D : Addr} {Rs : List VP} (s : Same H H1) (hn : H1 D = none) : Made H D Rs 0 (upd H1 D (.lst [])) :=
  ⟨s.trans (Same.new hn), [], upd_same, by simp; exact .nil⟩
theorem made_end {H H' : Hp} {D : Addr} {Rs : List VP} (m : Made H D Rs Rs.length H') : pOwn Rs (.ref D) H' := by
  obtain ⟨_, vs, hD, al⟩ := m
  rw [List.take_length] at al
  exact ⟨D, vs, rfl, hD, al⟩
/-- [te for i0 in range(lo, lo + n)] -/
theorem ev_lcR {wi : TI} {i0 n : Nat} {lo : Int} {Rs : List VP} (hw : ∀ H1, Same H H1 → ∀ R : It → Hp → Prop, (∀ H2, Same H1 H2 → R (Itr lo n) H2) → wi σ H1 R) (hlen : Rs.length = n) (sR : ∀ R ∈ Rs, Stay R) (hle : Rs.length ≤ 1000)
    (he : ∀ (j : Nat) (R : VP) (H' : Hp), Rs[j]? = some R → Same H H' → Ev te ((wipe σ [i0]).set i0 (some (.int (lo + (j : Nat))))) H' R) : Ev (tLc wi (gName i0) tYes te [i0]) σ H (pOwn Rs) := fun H1 e Q q => by
  refine hw H1 e _ fun H2 s2 D hD => ?_
  have hDH1 : H1 D = none := Same.free s2 hD
  refine lc_range (lo := lo) (n := n) (Made H1 D Rs) (made_nil s2 hD) (fun i H3 hi m => ?_) fun H3 m => ?_
  · refine ⟨wipe1 _ _ _, ?_⟩
    show te _ H3 _
    obtain ⟨R, hR⟩ := get_of_lt (l := Rs) (i := i) (by omega)
    refine he i R H3 hR (e.trans m.1) H3 (Same.refl H3) _ fun v H4 s4 p => ?_
    exact made_step m hDH1 sR hR s4 p hle
  · subst hlen
    exact q _ H3 m.1 (made_end m)
theorem iw_range1 {ta : TA} {n : Nat} (h : EvA ta σ H [pInt (n : Int)]) (hn : n ≤ 1000000) : ∀ H1, Same H H1 → ∀ R : It → Hp → Prop, (∀ H2, Same H1 H2 → R (Itr 0 n) H2) → iRng1 ta σ H1 R := fun H1 e R q => by
  refine h H1 e _ fun vs H2 s2 al => ?_
  cases al with | cons h1 al => cases al with | nil =>
  refine ⟨n, by rw [show _ = V.int n from h1], by omega, by omega, ?_⟩
  rw [show (n : Int).toNat = n from rfl]
  exact q H2 s2
theorem iw_range2 {ta : TA} {a n : Nat} (h : EvA ta σ H [pInt (a : Int), pInt ((a + n : Nat) : Int)]) (hn : a + n ≤ 1000000) : ∀ H1, Same H H1 → ∀ R : It → Hp → Prop, (∀ H2, Same H1 H2 → R (Itr a n) H2) → iRng2 ta σ H1 R := fun H1 e R q => by
  refine h H1 e _ fun vs H2 s2 al => ?_
  cases al with | cons h1 al => cases al with | cons h2 al => cases al with | nil =>
  refine ⟨a, ((a + n : Nat) : Int), by rw [show _ = V.int a from h1, show _ = V.int _ from h2], ⟨by omega, by omega, by omega, by omega⟩, ?_⟩
  rw [show (((a + n : Nat) : Int) - (a : Int)).toNat = n by omega]
  exact q H2 s2
/-- [te for i0 in xs], xs a list -/
theorem ev_lcL {i0 : Nat} {Ps Rs : List VP} (hx : Ev tl σ H (pLst K Ps)) (mP : ∀ P ∈ Ps, Mono P) (hlen : Rs.length = Ps.length) (sR : ∀ R ∈ Rs, Stay R) (hle : Rs.length ≤ 1000)
    (he : ∀ (j : Nat) (P R : VP) (v : V) (H' : Hp), Ps[j]? = some P → Rs[j]? = some R → Same H H' → P v H' → Ev te ((wipe σ [i0]).set i0 (some v)) H' R) : Ev (tLc (iList K tl) (gName i0) tYes te [i0]) σ H (pOwn Rs) := fun H1 e Q q => by
  refine hx H1 e _ fun v H2 s2 ⟨a, xs, ev, sq, al⟩ => ⟨a, ev, ⟨xs, sq⟩, fun D hD => ?_⟩
  refine lc_list (xs := xs) (fun i H' => Made H2 D Rs i H') (made_nil (Same.refl H2) hD) (fun i H3 hi m => m.1.seq sq) (fun i x H3 hx m => ?_) fun H3 m => ?_
  · refine ⟨wipe1 _ _ _, ?_⟩
    show te _ H3 _
    have hi := lt_of_get hx
    have hl := al.len
    obtain ⟨R, hR⟩ := get_of_lt (l := Rs) (i := i) (by omega)
    obtain ⟨P, hP⟩ := get_of_lt (l := Ps) (i := i) (by omega)
    obtain ⟨x', hx', px⟩ := al.get hP
    rw [hx] at hx'
    cases hx'
    refine he i P R x H3 hP hR ((e.trans s2).trans m.1) (mP P (List.mem_of_getElem? hP) _ _ _ m.1 px) H3 (Same.refl H3) _ fun v H4 s4 p => ?_
    exact made_step m hD sR hR s4 p hle
  · have hl := al.len
    rw [hl, ← hlen] at m
    exact q _ H3 (s2.trans m.1) (made_end m)
/-- .. xs a tuple -/
theorem ev_lcT {i0 : Nat} {Ps Rs : List VP} (hx : Ev tl σ H (pTup K Ps)) (mP : ∀ P ∈ Ps, Mono P) (hlen : Rs.length = Ps.length) (sR : ∀ R ∈ Rs, Stay R) (hle : Rs.length ≤ 1000)
    (he : ∀ (j : Nat) (P R : VP) (v : V) (H' : Hp), Ps[j]? = some P → Rs[j]? = some R → Same H H' → P v H' → Ev te ((wipe σ [i0]).set i0 (some v)) H' R) : Ev (tLc (iTup K tl) (gName i0) tYes te [i0]) σ H (pOwn Rs) := fun H1 e Q q => by
  refine hx H1 e _ fun v H2 s2 ⟨a, xs, ev, sq, al⟩ => ⟨a, ev, ⟨xs, sq⟩, fun D hD => ?_⟩
  refine lc_tup (xs := xs) (fun i H' => Made H2 D Rs i H') (made_nil (Same.refl H2) hD) (fun i H3 hi m => (Same.stb m.1).seqT sq) (fun i x H3 hx m => ?_) fun H3 m => ?_
  · refine ⟨wipe1 _ _ _, ?_⟩
    show te _ H3 _
    have hi := lt_of_get hx
    have hl := al.len
    obtain ⟨R, hR⟩ := get_of_lt (l := Rs) (i := i) (by omega)
    obtain ⟨P, hP⟩ := get_of_lt (l := Ps) (i := i) (by omega)
    obtain ⟨x', hx', px⟩ := al.get hP
    rw [hx] at hx'
    cases hx'
    refine he i P R x H3 hP hR ((e.trans s2).trans m.1) (mP P (List.mem_of_getElem? hP) _ _ _ m.1 px) H3 (Same.refl H3) _ fun v H4 s4 p => ?_
    exact made_step m hD sR hR s4 p hle
  · have hl := al.len
    rw [hl, ← hlen] at m
    exact q _ H3 (s2.trans m.1) (made_end m)
theorem ev_intB {ta : TE} {k : Bool} (ha : Ev ta σ H (pBl k)) : Ev (tCB (fun xs H Q => (∃ i, xs = [.int i] ∧ Q (.int i) H) ∨ ∃ k, xs = [.bl k] ∧ Q (.int (if k then 1 else 0)) H) (tCons ta tNil)) σ H (pInt (if k then 1 else 0)) := fun H1 e Q q =>
  ha H1 e _ fun v H2 s2 p => .inr ⟨k, by rw [show v = V.bl k from p], q _ H2 s2 rfl⟩
theorem ev_intI {ta : TE} {i : Int} (ha : Ev ta σ H (pInt i)) : Ev (tCB (fun xs H Q => (∃ i, xs = [.int i] ∧ Q (.int i) H) ∨ ∃ k, xs = [.bl k] ∧ Q (.int (if k then 1 else 0)) H) (tCons ta tNil)) σ H (pInt i) := fun H1 e Q q =>
  ha H1 e _ fun v H2 s2 p => .inl ⟨i, by rw [show v = V.int i from p], q _ H2 s2 rfl⟩
/-- tuple(xs), xs a list; a tuple is itself; list(xs), list(t) -/
theorem ev_tupleL {ta : TE} {Ps : List VP} (ha : Ev ta σ H (pLst K Ps)) (st : ∀ P ∈ Ps, Stay P) : Ev (tCB (fun xs H Q => ∃ p ys, xs = [.ref p] ∧ ((SqL K H p ys ∧ ∀ l, H l = none → Q (.ref l) (upd H l (.tup ys))) ∨ (SqT K H p ys ∧ Q (.ref p) H))) (tCons ta tNil)) σ H (pTup K Ps) := fun H1 e Q q =>
  ha H1 e _ fun v H2 s2 ⟨p, vs, ev, sq, al⟩ => ⟨p, vs, by rw [ev], .inl ⟨sq, fun l hl => q _ _ (s2.trans (Same.new hl)) ⟨l, vs, rfl, .of upd_same, al.imp fun P hP v hv => st P hP v _ _ (Same.stb (Same.new hl)) hv⟩⟩⟩
theorem ev_tupleT {ta : TE} {Ps : List VP} (ha : Ev ta σ H (pTup K Ps)) : Ev (tCB (fun xs H Q => ∃ p ys, xs = [.ref p] ∧ ((SqL K H p ys ∧ ∀ l, H l = none → Q (.ref l) (upd H l (.tup ys))) ∨ (SqT K H p ys ∧ Q (.ref p) H))) (tCons ta tNil)) σ H (pTup K Ps) := fun H1 e Q q =>
  ha H1 e _ fun v H2 s2 ⟨p, vs, ev, sq, al⟩ => ⟨p, vs, by rw [ev], .inr ⟨sq, q _ _ s2 ⟨p, vs, rfl, sq, al⟩⟩⟩
theorem ev_listL {ta : TE} {Ps : List VP} (ha : Ev ta σ H (pLst K Ps)) (st : ∀ P ∈ Ps, Stay P) : Ev (tCB (fun xs H Q => ∃ p ys, xs = [.ref p] ∧ (SqL K H p ys ∨ SqT K H p ys) ∧ ∀ l, H l = none → Q (.ref l) (upd H l (.lst ys))) (tCons ta tNil)) σ H (pOwn Ps) := fun H1 e Q q =>
  ha H1 e _ fun v H2 s2 ⟨p, vs, ev, sq, al⟩ => ⟨p, vs, by rw [ev], .inl sq, fun l hl => q _ _ (s2.trans (Same.new hl)) ⟨l, vs, rfl, upd_same, al.imp fun P hP v hv => st P hP v _ _ (Same.stb (Same.new hl)) hv⟩⟩
theorem ev_listT {ta : TE} {Ps : List VP} (ha : Ev ta σ H (pTup K Ps)) (st : ∀ P ∈ Ps, Stay P) : Ev (tCB (fun xs H Q => ∃ p ys, xs = [.ref p] ∧ (SqL K H p ys ∨ SqT K H p ys) ∧ ∀ l, H l = none → Q (.ref l) (upd H l (.lst ys))) (tCons ta tNil)) σ H (pOwn Ps) := fun H1 e Q q =>
  ha H1 e _ fun v H2 s2 ⟨p, vs, ev, sq, al⟩ => ⟨p, vs, by rw [ev], .inr sq, fun l hl => q _ _ (s2.trans (Same.new hl)) ⟨l, vs, rfl, upd_same, al.imp fun P hP v hv => st P hP v _ _ (Same.stb (Same.new hl)) hv⟩⟩
/-- the comprehension's list is one's own -/
theorem ev_own {ta : TE} {Ps : List VP} (hD : ∀ H1, Same H H1 → ∀ Q : VK, (∀ v H2, Same H1 H2 → pOwn Ps v H2 → Q v H2) → ta σ H1 Q) : Ev ta σ H (pOwn Ps) := hD
/-- xs + ys, lists of one's own -/
theorem ev_cat {ta tb : TE} {Ps Qs : List VP} (ha : Ev ta σ H (pOwn Ps)) (hb : Ev tb σ H (pOwn Qs)) (s1 : ∀ P ∈ Ps, Stay P) (s2 : ∀ P ∈ Qs, Stay P) (hl : Ps.length + Qs.length ≤ 1000) : Ev (tOp rCat ta tb) σ H (pOwn (Ps ++ Qs)) := fun H1 e Q q =>
  ha H1 e _ fun v H2 e2 p => hb H2 (e.trans e2) _ fun w H3 e3 p3 => by
    obtain ⟨a, vs, rfl, ha, al⟩ := mono_own (fun P hP => (s1 P hP).mono) _ _ _ e3 p
    obtain ⟨b, ws, rfl, hb, bl⟩ := p3
    have l1 := al.len
    have l2 := bl.len
    refine ⟨a, b, vs, ws, rfl, rfl, ha, hb, Nat.le_of_lt (small1000 (by omega)), fun p hp => q _ _ ((e2.trans e3).trans (Same.new hp)) ⟨p, _, rfl, upd_same, ?_⟩⟩
    have st := Same.stb (Same.new (o := .lst (vs ++ ws)) hp)
    exact (al.imp fun P hP v hv => s1 P hP v _ _ st hv).app (bl.imp fun P hP v hv => s2 P hP v _ _ st hv)
end
/-! ### slices -/
section
variable {σ : L2.St} {H : Hp} {te tl : TE}
def EvO (to : TO) (σ : L2.St) (H : Hp) (o : Option Int) : Prop := ∀ H1, Same H H1 → ∀ Q : Option Int → Hp → Prop, (∀ H2, Same H1 H2 → Q o H2) → to σ H1 Q
theorem evo_no : EvO tNoPart σ H none := fun H1 _ _ q => q H1 (Same.refl H1)
theorem evo_some {i : Int} (h : Ev te σ H (pInt i)) : EvO (tPart te) σ H (some i) := fun H1 e Q q => h H1 e _ fun v H2 s p => ⟨i, p, q H2 s⟩
def cutP {α : Type} (xs : List α) (a b : Nat) : List α := (xs.drop a).take (b - a)
theorem Al.cut {H : Hp} {vs : List V} {Ps : List VP} (al : Al H vs Ps) (a b : Nat) : Al H (cutP vs a b) (cutP Ps a b) := (al.drop a).take (b - a)
theorem mem_cut {α : Type} {xs : List α} {a b : Nat} {x : α} (h : x ∈ cutP xs a b) : x ∈ xs := List.mem_of_mem_drop (List.mem_of_mem_take h)
theorem ev_slL {Ps : List VP} {tlo thi : TO} {lo hi : Option Int} {a b : Nat} (hl : Ev tl σ H (pLst K Ps)) (hlo : EvO tlo σ H lo) (hhi : EvO thi σ H hi) (ea : HT.sIx Ps.length 0 lo = a) (eb : HT.sIx Ps.length Ps.length hi = b) (st : ∀ P ∈ Ps, Stay P) :
    Ev (tSl (rSlL K) tl tlo thi) σ H (pOwn (cutP Ps a b)) := fun H1 e Q q =>
  hl H1 e _ fun v H2 s2 p => hlo H2 (e.trans s2) _ fun H3 s3 => hhi H3 (e.trans (s2.trans s3)) _ fun H4 s4 => by
    obtain ⟨x, vs, ev, sq, al⟩ := mono_lst (fun P hP => (st P hP).mono) v _ _ (s3.trans s4) p
    refine ⟨x, vs, ev, sq, fun p hp => q _ _ ((s2.trans (s3.trans s4)).trans (Same.new hp)) ⟨p, _, rfl, upd_same, ?_⟩⟩
    unfold cutV
    rw [al.len, ea, eb]
    exact (al.cut a b).imp fun P hP v hv => st P (mem_cut hP) v _ _ (Same.stb (Same.new hp)) hv
theorem ev_slT {Ps : List VP} {tlo thi : TO} {lo hi : Option Int} {a b : Nat} (hl : Ev tl σ H (pTup K Ps)) (hlo : EvO tlo σ H lo) (hhi : EvO thi σ H hi) (ea : HT.sIx Ps.length 0 lo = a) (eb : HT.sIx Ps.length Ps.length hi = b) (st : ∀ P ∈ Ps, Stay P) :
    Ev (tSl (rSlA K) tl tlo thi) σ H (pTup K (cutP Ps a b)) := fun H1 e Q q =>
  hl H1 e _ fun v H2 s2 p => hlo H2 (e.trans s2) _ fun H3 s3 => hhi H3 (e.trans (s2.trans s3)) _ fun H4 s4 => by
    obtain ⟨x, vs, ev, sq, al⟩ := stay_tup st v _ _ (Same.stb (s3.trans s4)) p
    refine ⟨x, vs, ev, sq, fun z => ?_, fun _ p hp => ?_⟩
    · rw [al.len, ea, eb] at z
      refine q _ _ (s2.trans (s3.trans s4)) ⟨x, vs, rfl, sq, ?_⟩
      rw [z.1, z.2]
      unfold cutP
      rw [List.drop_zero, Nat.sub_zero, List.take_length]
      exact al
    · refine q _ _ ((s2.trans (s3.trans s4)).trans (Same.new hp)) ⟨p, _, rfl, .of upd_same, ?_⟩
      unfold cutV
      rw [al.len, ea, eb]
      exact (al.cut a b).imp fun P hP v hv => st P (mem_cut hP) v _ _ (Same.stb (Same.new hp)) hv
/-- t + u, tuples -/
theorem ev_catT {ta tb : TE} {Ps Qs : List VP} (ha : Ev ta σ H (pTup K Ps)) (hb : Ev tb σ H (pTup K Qs)) (s1 : ∀ P ∈ Ps, Stay P) (s2 : ∀ P ∈ Qs, Stay P) (hl : Ps.length + Qs.length ≤ 1000) : Ev (tOp (rCatA K) ta tb) σ H (pTup K (Ps ++ Qs)) := fun H1 e Q q =>
  ha H1 e _ fun v H2 e2 p => hb H2 (e.trans e2) _ fun w H3 e3 p3 => by
    obtain ⟨a, vs, rfl, ha, al⟩ := stay_tup s1 _ _ _ (Same.stb e3) p
    obtain ⟨b, ws, rfl, hb, bl⟩ := p3
    have l1 := al.len
    have l2 := bl.len
    refine ⟨a, b, vs, ws, rfl, rfl, ha, hb, Nat.le_of_lt (small1000 (by omega)), fun z => ?_, fun _ z => ?_, fun _ _ p hp => ?_⟩
    · have : Ps = [] := List.length_eq_zero_iff.mp (by rw [← l1, z]; rfl)
      subst this
      rw [List.nil_append] at q
      exact q _ _ (e2.trans e3) ⟨b, ws, rfl, hb, bl⟩
    · have : Qs = [] := List.length_eq_zero_iff.mp (by rw [← l2, z]; rfl)
      subst this
      rw [List.append_nil] at q
      exact q _ _ (e2.trans e3) ⟨a, vs, rfl, ha, al⟩
    · have st := Same.stb (Same.new (o := .tup (vs ++ ws)) hp)
      exact q _ _ ((e2.trans e3).trans (Same.new hp)) ⟨p, _, rfl, .of upd_same, (al.imp fun P hP v hv => s1 P hP v _ _ st hv).app (bl.imp fun P hP v hv => s2 P hP v _ _ st hv)⟩
end
theorem made_own {H H' : Hp} {D : Addr} {Rs : List VP} (m : Made H D Rs Rs.length H') : pOwn Rs (.ref D) H' := made_end m
/-! ### statements with what follows -/
section
variable {te : TE} {u t1 t2 : TS} {D : Ends} {σ : L2.St} {H : Hp} {P : VP} {i : Nat} {c : TT} {b : Bool}
theorem seq_do (q : te σ H fun v H1 => u D (σ.set i (some v)) H1) : tSeq (tAsg te (gName i)) u D σ H := q
theorem seq_set (h : Ev te σ H P) (q : ∀ v H1, Same H H1 → P v H1 → u D (σ.set i (some v)) H1) : tSeq (tAsg te (gName i)) u D σ H := h H (Same.refl H) _ q
theorem one_set (h : Ev te σ H P) (q : ∀ v H1, Same H H1 → P v H1 → D.nx (σ.set i (some v)) H1) : tAsg te (gName i) D σ H := h H (Same.refl H) _ q
theorem one_ret (h : Ev te σ H P) (q : ∀ v H1, Same H H1 → P v H1 → D.rt v H1) : tRet te D σ H := h H (Same.refl H) _ q
theorem seq_if (h : EvT c σ H b) (q : ∀ H1, Same H H1 → if b = true then t1 { D with nx := u D } σ H1 else t2 { D with nx := u D } σ H1) : tSeq (tIfS c t1 t2) u D σ H := h H (Same.refl H) _ q
theorem one_if (h : EvT c σ H b) (q : ∀ H1, Same H H1 → if b = true then t1 D σ H1 else t2 D σ H1) : tIfS c t1 t2 D σ H := h H (Same.refl H) _ q
/-- xs.append(e), xs in a slot -/
theorem seq_appV {K : PySem.W.Frag} {te : TE} {j : Nat} {l : Addr} {xs : List V} (hj : σ[j]? = some (some (.ref l))) (hl : H l = some (.lst xs)) (hz : xs.length < 1000) (h : Ev te σ H P) (q : ∀ v H1, Same H H1 → P v H1 → u D σ (L2.upd H1 l (.lst (xs ++ [v])))) :
    tSeq (tDrop (tBM K "list" rAppend (tVar j) (tCons te tNil))) u D σ H :=
  ⟨_, hj, .inl ⟨rfl, _, .inl (.inl hl)⟩, h H (Same.refl H) _ fun v H1 s1 p => ⟨l, xs, v, rfl, rfl, s1 _ _ hl, small1000 (Nat.le_of_lt hz), q v H1 s1 p⟩⟩
theorem one_appV {K : PySem.W.Frag} {te : TE} {j : Nat} {l : Addr} {xs : List V} (hj : σ[j]? = some (some (.ref l))) (hl : H l = some (.lst xs)) (hz : xs.length < 1000) (h : Ev te σ H P) (q : ∀ v H1, Same H H1 → P v H1 → D.nx σ (L2.upd H1 l (.lst (xs ++ [v])))) :
    tDrop (tBM K "list" rAppend (tVar j) (tCons te tNil)) D σ H :=
  ⟨_, hj, .inl ⟨rfl, _, .inl (.inl hl)⟩, h H (Same.refl H) _ fun v H1 s1 p => ⟨l, xs, v, rfl, rfl, s1 _ _ hl, small1000 (Nat.le_of_lt hz), q v H1 s1 p⟩⟩
/-- x, y = te -/
theorem seq_un2 {K : PySem.W.Frag} {n j : Nat} {P1 P2 : VP} (h : Ev te σ H (pTup K [P1, P2])) (m1 : Mono P1) (q : ∀ a b H1, Same H H1 → P1 a H1 → P2 b H1 → u D ((σ.set i (some a)).set j (some b)) H1) (hn : n = 2 := by rfl) :
    tSeq (tAsg te (gTup K n (gCons (gName i) (gCons (gName j) gNil)))) u D σ H :=
  h H (Same.refl H) _ fun v H1 s1 p => by
    obtain ⟨p, vs, rfl, sq, al⟩ := p
    cases al with | cons h1 al => cases al with | cons h2 al => cases al with | nil =>
    exact ⟨p, _, rfl, sq, hn.symm, _, _, rfl, _, _, rfl, rfl, q _ _ H1 s1 h1 h2⟩
/-- the target of a for over pairs -/
theorem tgt_2 {K : PySem.W.Frag} {n j : Nat} {P1 P2 : VP} {v : V} {R : L2.St → Hp → Prop} (p : pTup K [P1, P2] v H) (q : ∀ a b, P1 a H → P2 b H → R ((σ.set i (some a)).set j (some b)) H) (hn : n = 2 := by rfl) :
    gTup K n (gCons (gName i) (gCons (gName j) gNil)) v σ H R := by
  obtain ⟨p, vs, rfl, sq, al⟩ := p
  cases al with | cons h1 al => cases al with | cons h2 al => cases al with | nil =>
  exact ⟨p, _, rfl, sq, hn.symm, _, _, rfl, _, _, rfl, rfl, q _ _ h1 h2⟩
/-- xs[k] = tv, xs in a slot -/
theorem one_put {ti : TE} {j k : Nat} {l : Addr} {xs : List V} (hj : σ[j]? = some (some (.ref l))) (hl : H l = some (.lst xs)) (hk : k < xs.length) (h : Ev te σ H P) (m : Mono P) (hi : Ev ti σ H (pInt (k : Nat))) (q : ∀ v H1, Same H H1 → P v H1 → D.nx σ (L2.upd H1 l (.lst (xs.set k v)))) :
    tAsg te (gSub (tVar j) ti rSetL) D σ H :=
  h H (Same.refl H) _ fun v H1 s1 p => ⟨_, hj, hi H1 s1 _ fun w H2 s2 pw => ⟨l, xs, k, k, rfl, pw, s2 _ _ (s1 _ _ hl), by
    unfold ixN
    rw [if_pos (by omega), if_pos (by omega)]; rfl, q v H2 (s1.trans s2) (m _ _ _ s2 p)⟩⟩
theorem seq_put {ti : TE} {j k : Nat} {l : Addr} {xs : List V} (hj : σ[j]? = some (some (.ref l))) (hl : H l = some (.lst xs)) (hk : k < xs.length) (h : Ev te σ H P) (m : Mono P) (hi : Ev ti σ H (pInt (k : Nat))) (q : ∀ v H1, Same H H1 → P v H1 → u D σ (L2.upd H1 l (.lst (xs.set k v)))) :
    tSeq (tAsg te (gSub (tVar j) ti rSetL)) u D σ H := one_put (D := { D with nx := u D }) hj hl hk h m hi q
/-- a new list, unknown to the heap told -/
def pNew (H0 : Hp) (Ps : List VP) : VP := fun v H => ∃ p vs, v = .ref p ∧ H0 p = none ∧ H p = some (.lst vs) ∧ Al H vs Ps
/-- [e] * n -/
theorem ev_rep {tb : TE} {n : Nat} (ha : Ev te σ H P) (st : Stay P) (hb : Ev tb σ H (pInt (n : Nat))) (hn : n ≤ 1000) : Ev (tOp rRep (tLst (tCons te tNil)) tb) σ H (pNew H (List.replicate n P)) := fun H1 e Q q =>
  ha H1 e _ fun v H2 s2 p => ⟨by show 1 ≤ sizeLine; decide, fun l hl => hb _ (e.trans (s2.trans (Same.new hl))) _ fun w H3 s3 pw => by
    obtain rfl : w = V.int (n : Nat) := pw
    refine ⟨l, n, [v], rfl, rfl, s3 _ _ upd_same, by omega, by omega, ?_, fun r hr => ?_⟩
    · show 1 * ((n : Nat) : Int).toNat ≤ sizeLine
      rw [Nat.one_mul]
      exact Nat.le_of_lt (small1000 (by omega))
    · have s4 := (s2.trans (Same.new (o := .lst [v]) hl)).trans s3
      have p3 := st v _ _ (Same.stb ((Same.new (o := .lst [v]) hl).trans s3)) p
      refine q _ _ (s4.trans (Same.new hr)) ⟨r, _, rfl, Same.free (e.trans s4) hr, upd_same, ?_⟩
      have p4 := st v _ _ (Same.stb (Same.new (o := .lst (List.replicate ((n : Nat) : Int).toNat [v]).flatten) hr)) p3
      refine Al.of (by simp) fun i x P' hx hP => ?_
      rw [List.eq_of_mem_replicate (List.mem_of_getElem? hP)]
      obtain ⟨ls, h1, h2⟩ := List.mem_flatten.mp (List.mem_of_getElem? hx)
      rw [List.eq_of_mem_replicate h1] at h2
      rw [show x = v by simpa using h2]
      exact p4⟩
/-- x = [] -/
theorem seq_nil (q : ∀ l, H l = none → u D (σ.set i (some (.ref l))) (L2.upd H l (.lst []))) : tSeq (tAsg (tLst tNil) (gName i)) u D σ H := ⟨Nat.zero_le _, q⟩
end
/-! ### for, as a statement with what follows -/
section
variable {wi : TI} {g : TG} {tb u : TS} {D : Ends} {σ : L2.St} {H : Hp}
theorem for_R {lo : Int} {n : Nat} (hw : ∀ R : It → Hp → Prop, (∀ H2, Same H H2 → R (Itr lo n) H2) → wi σ H R) (Pv : Nat → L2.St → Hp → Prop) (h0 : ∀ H2, Same H H2 → Pv 0 σ H2)
    (hs : ∀ i σ H, i < n → Pv i σ H → g (.int (lo + (i : Nat))) σ H fun σ2 H2 => tb { D with nx := Pv (i + 1), ct := Pv (i + 1), bk := u D } σ2 H2) (hd : ∀ σ H, Pv n σ H → u D σ H) : tSeq (tFor wi g tb) u D σ H :=
  hw _ fun H2 s2 => for_range (D := { D with nx := u D }) Pv (h0 H2 s2) hs hd
/-- over anything that is walked in n turns -/
theorem for_W {J : It} {n : Nat} {G : Hp → Prop} {Y : Nat → Hp → V → Hp → Prop} {H1 : Hp} (hw : ∀ R : It → Hp → Prop, R J H1 → wi σ H R) (w : Walk J n G Y) (Pv : Nat → L2.St → Hp → Prop) (h0 : Pv 0 σ H1) (hG : ∀ i σ H, i ≤ n → Pv i σ H → G H)
    (hs : ∀ i x σ H H', i < n → Pv i σ H → Y i H x H' → g x σ H' fun σ2 H2 => tb { D with nx := Pv (i + 1), ct := Pv (i + 1), bk := u D } σ2 H2) (hd : ∀ σ H, Pv n σ H → u D σ H) : tSeq (tFor wi g tb) u D σ H :=
  hw _ (for_it (D := { D with nx := u D }) w Pv h0 hG hs hd)
/-- over anything that gives a tuple -/
theorem one_T {tl : TE} {Ps : List VP} (hl : Ev tl σ H (pTup K Ps)) (st : ∀ P ∈ Ps, Stay P) (k : ∀ v H1, Same H H1 → pTup K Ps v H1 → ∃ Pv : Nat → L2.St → Hp → Prop, Pv 0 σ H1 ∧ (∀ i σ H', Pv i σ H' → Stb H1 H') ∧
    (∀ i x P σ H, Ps[i]? = some P → P x H → Pv i σ H → g x σ H fun σ2 H2 => tb { D with nx := Pv (i + 1), ct := Pv (i + 1), bk := D.nx } σ2 H2) ∧ ∀ σ H, Pv Ps.length σ H → D.nx σ H) : tFor (iTup K tl) g tb D σ H := by
  refine hl H (Same.refl H) _ fun v H1 s1 p => ?_
  obtain ⟨Pv, h0, hG, hs, hd⟩ := k v H1 s1 p
  obtain ⟨a, vs, ev, sq, al⟩ := p
  refine ⟨a, ev, ⟨vs, sq⟩, ?_⟩
  refine for_tup (xs := vs) Pv h0 (fun i σ H' hi p => (hG i σ H' p).seqT sq) (fun i x σ H' hx p => ?_) (fun σ H' p => hd σ H' (by rw [← al.len]; exact p))
  have hi := lt_of_get hx
  obtain ⟨P, hP⟩ := get_of_lt (l := Ps) (i := i) (by rw [← al.len]; exact hi)
  obtain ⟨x', hx', px⟩ := al.get hP
  rw [hx] at hx'
  cases hx'
  exact hs i x P σ H' hP (st P (List.mem_of_getElem? hP) x _ _ (hG i σ H' p) px) p
theorem for_T {tl : TE} {Ps : List VP} (hl : Ev tl σ H (pTup K Ps)) (st : ∀ P ∈ Ps, Stay P) (k : ∀ v H1, Same H H1 → pTup K Ps v H1 → ∃ Pv : Nat → L2.St → Hp → Prop, Pv 0 σ H1 ∧ (∀ i σ H', Pv i σ H' → Stb H1 H') ∧
    (∀ i x P σ H, Ps[i]? = some P → P x H → Pv i σ H → g x σ H fun σ2 H2 => tb { D with nx := Pv (i + 1), ct := Pv (i + 1), bk := u D } σ2 H2) ∧ ∀ σ H, Pv Ps.length σ H → u D σ H) : tSeq (tFor (iTup K tl) g tb) u D σ H :=
  one_T (D := { D with nx := u D }) hl st k
theorem one_R {lo : Int} {n : Nat} (hw : ∀ R : It → Hp → Prop, (∀ H2, Same H H2 → R (Itr lo n) H2) → wi σ H R) (Pv : Nat → L2.St → Hp → Prop) (h0 : ∀ H2, Same H H2 → Pv 0 σ H2)
    (hs : ∀ i σ H, i < n → Pv i σ H → g (.int (lo + (i : Nat))) σ H fun σ2 H2 => tb { D with nx := Pv (i + 1), ct := Pv (i + 1), bk := D.nx } σ2 H2) (hd : ∀ σ H, Pv n σ H → D.nx σ H) : tFor wi g tb D σ H :=
  hw _ fun H2 s2 => for_range Pv (h0 H2 s2) hs hd
end

/-! ### a ratio compared with a written pair, with another ratio -/
theorem rat_eq_iff (x y : Rat) : (x.num = y.num ∧ (x.den : Int) = y.den) ↔ x = y :=
  ⟨fun ⟨a, b⟩ => Rat.ext a (by omega), fun e => by rw [e]; exact ⟨rfl, rfl⟩⟩
theorem dp2 {H : Hp} {p : Addr} {n d : Int} (h : SqT K H p [.int n, .int d]) : Dp K H (.ref p) (.tuple [.int n, .int d]) := .tup h (.cons (.int n) (.cons (.int d) .nil))
theorem eqv2 (n d m e : Int) : PyData.eqv (.tuple [.int n, .int d]) (.tuple [.int m, .int e]) = decide (n = m ∧ d = e) := by
  simp only [PyData.eqv, PyData.eqvAll, Bool.and_true]
  by_cases h1 : n = m <;> by_cases h2 : d = e <;> simp [h1, h2]
theorem shp2 (n d : Int) : SeqAt.shaped (.tuple [.int n, .int d]) = true := by rfl
section
variable {σ : L2.St} {H : Hp} {ta tb : TE} {x y : Rat} {n d : Int}
theorem ev_eqP (ha : Ev ta σ H (pR K x)) (hb : Ev tb σ H (pTup K [pInt n, pInt d])) : Ev (tOp (rEqD K) ta tb) σ H (pBl (decide (x.num = n ∧ (x.den : Int) = d))) := fun H1 e Q q =>
  ha H1 e _ fun v H2 s2 p => hb H2 (e.trans s2) _ fun w H3 s3 p3 => by
    obtain ⟨a, rfl, t1, _⟩ := stay_R v H2 H3 (Same.stb s3) p
    obtain ⟨b, vs, rfl, t2, al⟩ := p3
    have := al.ints (ns := [n, d])
    subst this
    refine ⟨_, _, dp2 t1, dp2 t2, shp2 _ _, shp2 _ _, ?_⟩
    rw [eqv2]
    exact q _ H3 (s2.trans s3) rfl
theorem ev_neP (ha : Ev ta σ H (pR K x)) (hb : Ev tb σ H (pTup K [pInt n, pInt d])) : Ev (tOp (rNeD K) ta tb) σ H (pBl (!decide (x.num = n ∧ (x.den : Int) = d))) := fun H1 e Q q =>
  ha H1 e _ fun v H2 s2 p => hb H2 (e.trans s2) _ fun w H3 s3 p3 => by
    obtain ⟨a, rfl, t1, _⟩ := stay_R v H2 H3 (Same.stb s3) p
    obtain ⟨b, vs, rfl, t2, al⟩ := p3
    have := al.ints (ns := [n, d])
    subst this
    refine ⟨_, _, dp2 t1, dp2 t2, shp2 _ _, shp2 _ _, ?_⟩
    rw [eqv2]
    exact q _ H3 (s2.trans s3) rfl
theorem ev_eqR (ha : Ev ta σ H (pR K x)) (hb : Ev tb σ H (pR K y)) : Ev (tOp (rEqD K) ta tb) σ H (pBl (decide (x = y))) := fun H1 e Q q =>
  ha H1 e _ fun v H2 s2 p => hb H2 (e.trans s2) _ fun w H3 s3 p3 => by
    obtain ⟨a, rfl, t1, _⟩ := stay_R v H2 H3 (Same.stb s3) p
    obtain ⟨b, rfl, t2, _⟩ := p3
    refine ⟨_, _, dp2 t1, dp2 t2, shp2 _ _, shp2 _ _, ?_⟩
    rw [eqv2, decide_eq_decide.mpr (rat_eq_iff x y)]
    exact q _ H3 (s2.trans s3) rfl
theorem ev_neR (ha : Ev ta σ H (pR K x)) (hb : Ev tb σ H (pR K y)) : Ev (tOp (rNeD K) ta tb) σ H (pBl (!decide (x = y))) := fun H1 e Q q =>
  ha H1 e _ fun v H2 s2 p => hb H2 (e.trans s2) _ fun w H3 s3 p3 => by
    obtain ⟨a, rfl, t1, _⟩ := stay_R v H2 H3 (Same.stb s3) p
    obtain ⟨b, rfl, t2, _⟩ := p3
    refine ⟨_, _, dp2 t1, dp2 t2, shp2 _ _, shp2 _ _, ?_⟩
    rw [eqv2, decide_eq_decide.mpr (rat_eq_iff x y)]
    exact q _ H3 (s2.trans s3) rfl
/-- the written pair (0, 1) -/
theorem ev_01 {t : TA} (h : t = tCons (tC (.int n)) (tCons (tC (.int d)) tNil)) : Ev (tTup t) σ H (pTup K [pInt n, pInt d]) := by
  subst h
  exact ev_tup (eva_cons ev_int stay_int.mono (eva_cons ev_int stay_int.mono eva_nil)) (stay_cons stay_int (stay_cons stay_int stay_nil)) (by simp)
theorem zero_iff (x : Rat) : (x.num = 0 ∧ (x.den : Int) = 1) ↔ x = 0 := rat_eq_iff x 0
theorem dec_zero (x : Rat) : decide (x.num = 0 ∧ (x.den : Int) = 1) = decide (x = 0) := decide_eq_decide.mpr (zero_iff x)
end
/-- a written pair as a ratio -/
theorem pR_of {v : V} {H : Hp} {n d : Int} {x : Rat} (h : pTup K [pInt n, pInt d] v H) (hn : x.num = n) (hd : (x.den : Int) = d) (ok : Ok x) : pR K x v H := by
  obtain ⟨p, vs, e, t, al⟩ := h
  have := al.ints (ns := [n, d])
  subst this
  exact ⟨p, e, by rw [hn, hd]; exact t, ok⟩
theorem ok_zero : Ok 0 := ⟨by show 0 < 2 ^ SZ; exact Nat.two_pow_pos _, Nat.one_lt_two_pow (by decide)⟩
theorem ok_one : Ok 1 := ⟨Nat.one_lt_two_pow (by decide), Nat.one_lt_two_pow (by decide)⟩
theorem pR_zero {v : V} {H : Hp} (h : pTup K [pInt 0, pInt 1] v H) : pR K 0 v H := pR_of h rfl rfl ok_zero
theorem pR_one {v : V} {H : Hp} (h : pTup K [pInt 1, pInt 1] v H) : pR K 1 v H := pR_of h rfl rfl ok_one
end AC
end
section
set_option maxRecDepth 100000
/-! The walk: rows of the elimination. -/
namespace AC
open PySem PySem.Spec PyProof.Rows L2
variable {K : PySem.W.Frag}
/-- a row: a tracked list of ratios -/
def pRow (K : PySem.W.Frag) (xs : List Rat) : VP := pOwn (xs.map (pR K))
theorem mono_row {xs : List Rat} : Mono (pRow K xs) := mono_own fun P hP => by
  obtain ⟨x, _, rfl⟩ := List.mem_map.mp hP
  exact stay_R.mono
theorem stay_rs (xs : List Rat) : ∀ P ∈ xs.map (pR K), Stay P := stay_map fun _ => stay_R
/-- what is left of xs when f times ys is taken off -/
def less (xs ys : List Rat) (f : Rat) : List Rat := List.zipWith (fun x y => x - f * y) xs ys
theorem less_len {xs ys : List Rat} {f : Rat} (h : xs.length = ys.length) : (less xs ys f).length = xs.length := by
  unfold less; rw [List.length_zipWith]; omega
theorem less_get {xs ys : List Rat} {f x y : Rat} {i : Nat} (hx : xs[i]? = some x) (hy : ys[i]? = some y) : (less xs ys f)[i]? = some (x - f * y) := by
  unfold less
  rw [List.getElem?_zipWith, hx, hy]
theorem less_zero {xs ys : List Rat} (h : xs.length = ys.length) : less xs ys 0 = xs := by
  apply List.ext_getElem?
  intro i
  by_cases hi : i < xs.length
  · obtain ⟨x, hx⟩ := get_of_lt hi
    obtain ⟨y, hy⟩ := get_of_lt (l := ys) (i := i) (by omega)
    rw [less_get hx hy, hx]; congr 1; grind
  · have := less_len (f := 0) h
    rw [List.getElem?_eq_none (by omega), List.getElem?_eq_none (by omega)]
def spWithout (K : PySem.W.Frag) : Sp := fun vs H Q _ => ∃ (v1 v2 : V) (xs ys : List Rat) (c : Nat) (f : Rat), vs = [v1, v2, .int c] ∧ pRow K xs v1 H ∧ pRow K ys v2 H ∧ xs.length = ys.length ∧ xs.length ≤ 1000 ∧ xs[c]? = some f ∧
  (∀ y ∈ ys, Ok (f * y)) ∧ (∀ z ∈ less xs ys f, Ok z) ∧ ∀ v H', Same H H' → pRow K (less xs ys f) v H' → (v = v1 ∨ ∃ p, v = .ref p ∧ H p = none) → Q v H'
theorem sc16 : FnScope ["row", "other", "column", "factor", "a", "b"] ["row", "other", "column"] (defScope (topS 16)) := ⟨rfl, rfl, rfl, by decide +kernel, rfl, by decide +kernel, by decide +kernel⟩
theorem sc17 : FnScope ["row", "size", "column"] ["row", "size"] (defScope (topS 17)) := ⟨rfl, rfl, rfl, by decide +kernel, rfl, by decide +kernel, by decide +kernel⟩
section
variable {P : Program} {w : World} {mg : Str → Option Value} {base : Heap}
theorem d_without (g : Got K mg "without" 16 ["row", "other", "column"]) (m_zip : mg "zip" = none) (D_subtract : DefOk P w K mg base 3 "subtract" ["a", "b"] (spR2 K fun x y => x - y)) (D_multiply : DefOk P w K mg base 3 "multiply" ["a", "b"] (spR2 K fun x y => x * y)) :
    DefOk P w K mg base 4 "without" ["row", "other", "column"] (spWithout K) := by
  obtain ⟨fa, fd, F, hm, hbd⟩ := g
  refine ⟨fa, fd, F.ok sc16 (fun vs H Q E h => ?_) (fun cdv A outer s H vs Q E hr h => ?_), hm, F.kp, hbd⟩
  · obtain ⟨v1, v2, xs, ys, c, f, rfl, _⟩ := h
    rfl
  obtain ⟨v1, v2, xs, ys, c, f, rfl, hx, hy, hl, hle, hc, ho1, ho2, q⟩ := h
  refine ⟨_, (pss_cons (ps_set (i := 3) sc16.nd rfl (.inr rfl) (pe_ix ix_list (pv 0) (pv 2) (fun _ _ => rfl)))
    (pss_cons (ps_if (pt_cmpR (op_eqD hr.units) (pv 3) (pe_tup (pa_cons pe_int (pa_cons pe_int pa_nil))) (nomark _)) (pss_one (ps_ret (pv 0))) pss_nil)
    (pss_one (ps_ret (pe_lc (g := gTup K 2 (gCons (gName 4) (gCons (gName 5) gNil))) (own := [("a", 4), ("b", 5)]) rfl sc16.nd (pi_zip (by rfl) m_zip (pa_cons (pv 0) (pa_cons (pv 1) pa_nil))) (blkOk_by (N := ["row", "other", "column", "factor", "a", "b"]) (sc := defScope (topS 16)) (by decide +kernel)) (fun _ _ _ _ _ => (pg_tup rfl (pgs_cons (pg_name (i := 4) sc16.nd rfl (Or.inl rfl) (Or.inr rfl)) (pgs_cons (pg_name (i := 5) sc16.nd rfl (Or.inl rfl) (Or.inr rfl)) pgs_nil)))) (fun _ _ _ _ _ => pts_nil) (fun _ _ _ _ _ => (pe_callD D_subtract hr (by rfl) (pa_cons (pv 4) (pa_cons (pe_callD D_multiply hr (by rfl) (pa_cons (pv 3) (pa_cons (pv 5) pa_nil))) pa_nil))))))))), ?_⟩
  -- factor
  refine (ev_ixL (K := K) (P := pR K f) (i := c) (j := c) (Ps := xs.map (pR K)) (ev_v rfl (mono_lst fun P hP => (stay_rs xs P hP).mono) hx.lst) (ev_v rfl stay_int.mono rfl) rfl (by rw [List.getElem?_map, hc]; rfl) (stay_rs xs)) H (Same.refl H) _ fun vf H1 s1 pf => ?_
  refine et_test (ev_eqP (K := K) (ev_v rfl stay_R.mono pf) (ev_01 rfl)) H1 (Same.refl H1) _ fun H2 s2 => ?_
  rw [dec_zero]
  refine ite2 (fun z => ?_) (fun z => ?_)
  · have ez := of_decide_eq_true z
    subst ez
    refine ⟨v1, rfl, q v1 H2 (s1.trans s2) ?_ (.inl rfl)⟩
    rw [less_zero hl]
    exact mono_row _ _ _ (s1.trans s2) hx
  · have hx2 := mono_row _ _ _ (s1.trans s2) hx
    have hy2 := mono_row _ _ _ (s1.trans s2) hy
    have pf2 := stay_R.mono _ _ _ s2 pf
    obtain ⟨a, us, rfl, ha, al⟩ := hx2
    obtain ⟨b, ws, rfl, hb, bl⟩ := hy2
    refine ⟨_, rfl, _, rfl, a, b, us, ws, rfl, .of ha, .of hb, fun D hD => ?_⟩
    have l1 := al.len
    have l2 := bl.len
    rw [List.length_map] at l1 l2
    refine lc_it (walk_zip (xs := us) (ys := ws) (K := K) (a := a) (b := b) (n := us.length) (by omega)) (Made H2 D ((less xs ys f).map (pR K))) (made_nil (Same.refl H2) hD) (fun i H3 hi m => ⟨.of (m.1 _ _ ha), .of (m.1 _ _ hb)⟩) (fun i x H3 H4 hi m y => ?_) fun H3 m => ?_
    · obtain ⟨T, u, w', rfl, hT, rfl, hu, hw⟩ := y
      have hu : us[i]? = some u := hu
      have hw : ws[i]? = some w' := hw
      have sT : Same H3 (upd H3 T (.tup [u, w'])) := Same.new hT
      refine ⟨T, [u, w'], rfl, .of upd_same, rfl, u, [w'], rfl, w', [], rfl, rfl, ?_, ?_⟩
      · rfl
      obtain ⟨x, hx⟩ := get_of_lt (l := xs) (i := i) (by omega)
      obtain ⟨y, hy⟩ := get_of_lt (l := ys) (i := i) (by omega)
      obtain ⟨u', hu', pu⟩ := al.get (i := i) (P := pR K x) (by rw [List.getElem?_map, hx]; rfl)
      rw [hu] at hu'; cases hu'
      obtain ⟨w2, hw', pw⟩ := bl.get (i := i) (P := pR K y) (by rw [List.getElem?_map, hy]; rfl)
      rw [hw] at hw'; cases hw'
      have s3 := m.1.trans sT
      have hz := less_get (f := f) hx hy
      refine (ev_R2 (K := K) (f := fun x y => x - y) (ev_v rfl stay_R.mono (stay_R.mono _ _ _ s3 pu)) (ev_R2 (K := K) (f := fun x y => x * y) (ev_v rfl stay_R.mono (stay_R.mono _ _ _ s3 pf2)) (ev_v rfl stay_R.mono (stay_R.mono _ _ _ s3 pw)) (ho1 y (List.mem_of_getElem? hy))) (ho2 _ (List.mem_of_getElem? hz))) _ (Same.refl _) _ fun v H5 s5 p5 => ?_
      have m' : Made H2 D ((less xs ys f).map (pR K)) i (upd H3 T (.tup [u, w'])) := by
        obtain ⟨m1, vs, m2, m3⟩ := m
        exact ⟨m1.trans sT, vs, sT _ _ m2, m3.imp fun P hP v hv => stay_rs _ P (List.mem_of_mem_take hP) v _ _ (Same.stb sT) hv⟩
      exact made_step m' hD (stay_rs _) (by rw [List.getElem?_map, hz]; rfl) s5 p5 (by rw [List.length_map, less_len hl]; omega)
    · have e : us.length = ((less xs ys f).map (pR K)).length := by rw [List.length_map, less_len hl]; omega
      rw [e] at m
      refine q _ H3 ((s1.trans s2).trans m.1) (made_own m) (.inr ⟨D, rfl, Same.free (s1.trans s2) hD⟩)
/-- the first column with an entry that is not zero -/
def spFirst (K : PySem.W.Frag) : Sp := fun vs H Q _ => ∃ (v1 : V) (xs : List Rat) (n k : Nat) (f : Rat), vs = [v1, .int n] ∧ pRow K xs v1 H ∧ n ≤ 1000 ∧ k < n ∧ (∀ j, j < k → xs[j]? = some 0) ∧ xs[k]? = some f ∧ f ≠ 0 ∧ ∀ H', Same H H' → Q (.int k) H'
theorem d_first (g : Got K mg "first_nonzero" 17 ["row", "size"]) (m_range : mg "range" = none) : DefOk P w K mg base 1 "first_nonzero" ["row", "size"] (spFirst K) := by
  obtain ⟨fa, fd, F, hm, hbd⟩ := g
  refine ⟨fa, fd, F.ok sc17 (fun vs H Q E h => ?_) (fun cdv A outer s H vs Q E hr h => ?_), hm, F.kp, hbd⟩
  · obtain ⟨v1, xs, n, k, f, rfl, _⟩ := h
    rfl
  obtain ⟨v1, xs, n, k, f, rfl, hx, hn, hk, hz, hf, nf, q⟩ := h
  refine ⟨_, (pss_cons (ps_for PassesOwn.never rfl (pi_range1 rfl m_range (pa_cons (pv 1) pa_nil)) (pg_name (i := 2) sc17.nd rfl (.inl rfl))
    (pss_one (ps_if (pt_cmpR (op_neD hr.units) (pe_ix ix_list (pv 0) (pv 2) (fun _ _ => rfl)) (pe_tup (pa_cons pe_int (pa_cons pe_int pa_nil))) (nomark _)) (pss_one (ps_ret (pv 2))) pss_nil)))
    (pss_one (ps_ret pe_non))), ?_⟩
  refine for_R (iw_range1 (n := n) (eva_cons (ev_v (i := 1) rfl stay_int.mono rfl) stay_int.mono eva_nil) (by omega) H (Same.refl H))
    (fun i σ H' => i ≤ k ∧ Same H H' ∧ ∃ y, σ = [some v1, some (.int n), y]) (fun H1 s1 => ⟨Nat.zero_le _, s1, none, rfl⟩) (fun i σ H2 hi hP => ?_) (fun σ H2 hP => ?_)
  · obtain ⟨hik, s2, y, rfl⟩ := hP
    have hx2 := mono_row _ _ _ s2 hx
    obtain ⟨x, hxi⟩ : ∃ x, xs[i]? = some x := by
      by_cases e : i = k
      · exact ⟨f, by rw [e]; exact hf⟩
      · exact ⟨0, hz i (by omega)⟩
    refine et_test (ev_neP (K := K) (ev_ixL (K := K) (P := pR K x) (i := i) (j := 0 + (i : Nat)) (Ps := xs.map (pR K)) (ev_v rfl (mono_lst fun P hP => (stay_rs xs P hP).mono) hx2.lst) (ev_v rfl stay_int.mono rfl) (by omega) (by rw [List.getElem?_map, hxi]; rfl) (stay_rs xs)) (ev_01 rfl)) H2 (Same.refl H2) _ fun H3 s3 => ?_
    rw [dec_zero]
    refine ite2 (fun z => ?_) (fun z => ?_)
    · have ne : x ≠ 0 := fun e => by rw [decide_eq_true e] at z; cases z
      have e : i = k := by
        by_cases e : i = k
        · exact e
        · have := hz i (by omega)
          rw [hxi] at this
          exact absurd (Option.some.inj this) ne
      refine ⟨_, rfl, ?_⟩
      rw [e, Int.zero_add]
      exact q H3 (s2.trans s3)
    · have e0 : x = 0 := by
        by_cases e : x = 0
        · exact e
        · rw [decide_eq_false e] at z; exact absurd rfl z
      refine ⟨?_, s2.trans s3, _, rfl⟩
      by_cases e : i = k
      · rw [e, hf] at hxi
        exact absurd ((Option.some.inj hxi).trans e0) nf
      · omega
  · obtain ⟨hik, _⟩ := hP
    omega
end
end AC
end
section
set_option maxRecDepth 100000
/-! The walk: solve. -/
namespace AC
open PySem PySem.Spec PyProof.Rows L2
variable {K : PySem.W.Frag}
def pMat (K : PySem.W.Frag) (n m : Nat) (A : Nat → Nat → Rat) : VP := pTup K ((List.range n).map fun i => pTup K ((List.range m).map fun j => pR K (A i j)))
theorem stay_mrow (m : Nat) (f : Nat → Rat) : ∀ P ∈ (List.range m).map (fun j => pR K (f j)), Stay P := stay_map fun _ => stay_R
theorem stay_mrows (n m : Nat) (A : Nat → Nat → Rat) : ∀ P ∈ (List.range n).map (fun i => pTup K ((List.range m).map fun j => pR K (A i j))), Stay P := stay_map fun i => stay_tup (stay_mrow m _)
theorem stay_mat {n m : Nat} {A : Nat → Nat → Rat} : Stay (pMat K n m A) := stay_tup (stay_mrows n m A)
def spSolve (K : PySem.W.Frag) : Sp := Spc (fun S : Lin => [pMat K S.n S.n S.M, pMat K S.n S.m S.R]) Small fun S => pTup K [pIs (.str "solution"), pMat K S.n S.m (solA S)]
theorem map_get {α β : Type} {f : α → β} {l : List α} {i : Nat} {x : α} (h : l[i]? = some x) : (l.map f)[i]? = some (f x) := by rw [List.getElem?_map, h]; rfl
theorem range_get {α : Type} {f : Nat → α} {n i : Nat} (h : i < n) : ((List.range n).map f)[i]? = some (f i) := map_get (List.getElem?_range h)
theorem pR_un {v : V} {H : Hp} {k at_ : Nat} (h : pTup K [pInt (if decide (k = at_) then 1 else 0), pInt 1] v H) : pR K (un at_ k) v H := by
  unfold un
  by_cases e : k = at_
  · rw [if_pos e]
    rw [decide_eq_true e] at h
    exact pR_one h
  · rw [if_neg e]
    rw [decide_eq_false e] at h
    exact pR_zero h
theorem dec_nat (k a : Nat) : decide (V.int (k : Int) = V.int (a : Int)) = decide (k = a) := decide_eq_decide.mpr ⟨fun e => by have := V.int.inj e; omega, fun e => by rw [e]⟩
/-- rows that stand at their places, apart from the addresses told -/
def Rows (K : PySem.W.Frag) (S : Lin) (k : Nat) (ban : List Addr) (H : Hp) (rs : List V) : Prop :=
  rs.length = k ∧ ∀ j, j < k → ∃ r, rs[j]? = some (.ref r) ∧ r ∉ ban ∧ pRow K (rowL S.n S.m S.M S.R (Yk S.n S.M k j)) (.ref r) H
theorem less_row {S : Lin} (y z : Nat → Rat) (f : Rat) : less (rowL S.n S.m S.M S.R y) (rowL S.n S.m S.M S.R z) f = rowL S.n S.m S.M S.R (fun i => y i - f * z i) := by
  refine rowL_ext (by rw [less_len (by rw [rowL_len, rowL_len]), rowL_len]) fun c hc => ?_
  rw [less_get (rowL_get y hc) (rowL_get z hc), ent_lin]
theorem mem_rowL {S : Lin} {y : Nat → Rat} {x : Rat} (h : x ∈ rowL S.n S.m S.M S.R y) : ∃ c, c < S.n + S.m + S.n ∧ x = ent S.n S.m S.M S.R y c := by
  unfold rowL at h
  obtain ⟨c, hc, e⟩ := List.mem_map.mp h
  exact ⟨c, List.mem_range.mp hc, e.symm⟩
/-- a row at an address that is not written -/
theorem row_upd {xs : List Rat} {r l : Addr} {vs ws : List V} {H : Hp} (h : pRow K xs (.ref r) H) (hl : H l = some (.lst vs)) (ne : r ≠ l) : pRow K xs (.ref r) (upd H l (.lst ws)) := by
  obtain ⟨p, us, e, hp, al⟩ := h
  cases e
  exact ⟨r, us, rfl, by rw [upd_ne ne]; exact hp, al.imp fun P hP v hv => stay_rs xs P hP v _ _ (Stb.lst hl) hv⟩
theorem sc18 : FnScope ["matrix", "right", "size", "rows", "columns", "at", "row", "column", "other", "pivot", "solution", "k", "entry"] ["matrix", "right"] (defScope (topS 18)) := ⟨rfl, rfl, rfl, by decide +kernel, rfl, by decide +kernel, by decide +kernel⟩
section
variable {P : Program} {w : World} {mg : Str → Option Value} {base : Heap}
set_option maxHeartbeats 4000000 in
theorem d_solve (g : Got K mg "solve" 18 ["matrix", "right"]) (m_zip : mg "zip" = none) (m_range : mg "range" = none) (m_len : mg "len" = none) (m_list : mg "list" = none) (m_int : mg "int" = none) (m_tuple : mg "tuple" = none)
    (D_without : DefOk P w K mg base 4 "without" ["row", "other", "column"] (spWithout K)) (D_first_nonzero : DefOk P w K mg base 1 "first_nonzero" ["row", "size"] (spFirst K)) (D_divide : DefOk P w K mg base 3 "divide" ["a", "b"] (spDiv K)) :
    DefOk P w K mg base 5 "solve" ["matrix", "right"] (spSolve K) := by
  refine def_of g sc18 (fun _ => rfl) fun fa cdv A outer s H vs Q E S hr sd al q => ?_
  obtain ⟨hn, hm, ⟨c0, good⟩, oa, ob, oc, od, oe⟩ := sd
  cases al with | cons h1 al => cases al with | cons h2 al => cases al with | nil =>
  rename_i v1 v2
  refine ⟨_, (pss_cons (ps_set (i := 2) sc18.nd rfl (.inl rfl) (pe_callB call_len_seq (by rfl) m_len PySem.boot_len (pa_cons (pv 0) pa_nil)))
    (pss_cons (ps_set (i := 3) sc18.nd rfl (.inl rfl) (pe_lst pa_nil))
    (pss_cons (ps_set (i := 4) sc18.nd rfl (.inl rfl) (pe_lst pa_nil))
    (pss_cons (ps_for PassesOwn.never rfl (pi_range1 rfl m_range (pa_cons (pv 2) pa_nil)) (pg_name (i := 5) sc18.nd rfl (.inr rfl))
    (pss_cons (ps_set (i := 6) sc18.nd rfl (.inr rfl) (pe_op op_cat (pe_op op_cat (pe_callTy call_list_of (by rfl) m_list (by decide +kernel) (pa_cons (pe_ix ix_tup (pv 0) (pv 5) (fun _ _ => rfl)) pa_nil)) (pe_callTy call_list_of (by rfl) m_list (by decide +kernel) (pa_cons (pe_ix ix_tup (pv 1) (pv 5) (fun _ _ => rfl)) pa_nil))) (pe_lc (own := [("k", 11)]) rfl sc18.nd (pi_range1 rfl m_range (pa_cons (pv 2) pa_nil)) (blkOk_by (N := ["matrix", "right", "size", "rows", "columns", "at", "row", "column", "other", "pivot", "solution", "k", "entry"]) (sc := defScope (topS 18)) (by decide +kernel)) (fun _ _ _ _ _ => (pg_name (i := 11) sc18.nd rfl (Or.inl rfl))) (fun _ _ _ _ _ => pts_nil) (fun _ _ _ _ _ => (pe_tup (pa_cons (pe_callTy call_int1 (by rfl) m_int (by decide +kernel) (pa_cons (pe_cmpR op_eq (pv 11) (pv 5) (nomark _)) pa_nil)) (pa_cons pe_int pa_nil)))))))
    (pss_cons (ps_for PassesOwn.never rfl (pi_zip (by rfl) m_zip (pa_cons (pv 4) (pa_cons (pv 3) pa_nil))) (pg_tup rfl (pgs_cons (pg_name (i := 7) sc18.nd rfl (.inr rfl)) (pgs_cons (pg_name (i := 8) sc18.nd rfl (.inl rfl)) pgs_nil)))
    (pss_one (ps_set (i := 6) sc18.nd rfl (.inr rfl) (pe_callD D_without hr (by rfl) (pa_cons (pv 6) (pa_cons (pv 8) (pa_cons (pv 7) pa_nil)))))))
    (pss_cons (ps_set (i := 7) sc18.nd rfl (.inr rfl) (pe_callD D_first_nonzero (hr.mono (by decide)) (by rfl) (pa_cons (pv 6) (pa_cons (pv 2) pa_nil))))
    (pss_cons (ps_if (pt_cmpR op_isN (pv 7) pe_non (nomark _)) (pss_one ps_never) pss_nil)
    (pss_cons (ps_set (i := 9) sc18.nd rfl (.inr rfl) (pe_ix ix_list (pv 6) (pv 7) (fun _ _ => rfl)))
    (pss_cons (ps_set (i := 6) sc18.nd rfl (.inr rfl) (pe_lc (own := [("entry", 12)]) rfl sc18.nd (pi_list (pv 6)) (blkOk_by (N := ["matrix", "right", "size", "rows", "columns", "at", "row", "column", "other", "pivot", "solution", "k", "entry"]) (sc := defScope (topS 18)) (by decide +kernel)) (fun _ _ _ _ _ => (pg_name (i := 12) sc18.nd rfl (Or.inl rfl))) (fun _ _ _ _ _ => pts_nil) (fun _ _ _ _ _ => (pe_callD D_divide (hr.mono (by decide)) (by rfl) (pa_cons (pv 12) (pa_cons (pv 9) pa_nil))))))
    (pss_cons (ps_setLc (i := 3) (own := [("other", 8)]) rfl sc18.nd rfl rfl (sw_true rfl rfl rfl (by decide +kernel)) (pi_list (pv 3)) (blkOk_by (N := ["matrix", "right", "size", "rows", "columns", "at", "row", "column", "other", "pivot", "solution", "k", "entry"]) (sc := defScope (topS 18)) (by decide +kernel)) (fun _ _ _ _ _ => (pg_name (i := 8) sc18.nd rfl (Or.inl rfl))) (fun _ _ _ _ _ => pts_nil) (fun _ _ _ _ _ => (pe_callD D_without hr (by rfl) (pa_cons (pv 8) (pa_cons (pv 6) (pa_cons (pv 7) pa_nil))))))
    (pss_cons (ps_expr (pe_bm PySem.F.plainAttrs_list PySem.F.slot_list_append PySem.F.type_list_append mt_append (pv 3) (pa_cons (pv 6) pa_nil)))
    (pss_one (ps_expr (pe_bm PySem.F.plainAttrs_list PySem.F.slot_list_append PySem.F.type_list_append mt_append (pv 4) (pa_cons (pv 7) pa_nil)))))))))))))
    (pss_cons (ps_set (i := 10) sc18.nd rfl (.inl rfl) (pe_op op_rep (pe_lst (pa_cons (pe_tup pa_nil) pa_nil)) (pv 2)))
    (pss_cons (ps_for PassesOwn.never rfl (pi_zip (by rfl) m_zip (pa_cons (pv 4) (pa_cons (pv 3) pa_nil))) (pg_tup rfl (pgs_cons (pg_name (i := 7) sc18.nd rfl (.inr rfl)) (pgs_cons (pg_name (i := 6) sc18.nd rfl (.inr rfl)) pgs_nil)))
    (pss_one (ps_asg (pe_callTy call_tuple_of (by rfl) m_tuple (by decide +kernel) (pa_cons (pe_slice sl_list (pv 6) (po_some (pv 2)) (po_some (pe_op op_sub (pe_callB call_len_seq (by rfl) m_len PySem.boot_len (pa_cons (pv 6) pa_nil)) (pv 2)))) pa_nil)) (pg_sub (pv 10) (pv 7) set_list))))
    (pss_one (ps_ret (pe_tup (pa_cons pe_str (pa_cons (pe_callTy call_tuple_of (by rfl) m_tuple (by decide +kernel) (pa_cons (pv 10) pa_nil)) pa_nil))))))))))), ?_⟩
  have sl1 : ∀ P ∈ (List.range S.n).map (fun i => pTup K ((List.range S.n).map fun j => pR K (S.M i j))), Stay P := stay_mrows _ _ _
  refine seq_set (ev_lenT (K := K) (ev_v (P := pMat K S.n S.n S.M) rfl stay_mat.mono h1)) fun v H1 s1 e1 => ?_
  obtain rfl : v = V.int S.n := by rw [show v = _ from e1, List.length_map, List.length_range]
  refine seq_nil fun lr nr => ?_
  refine seq_nil fun lc nc => ?_
  have nlc : lc ≠ lr := fun e => by rw [e, upd_same] at nc; cases nc
  have nr0 : H lr = none := Same.free s1 nr
  have nc0 : H lc = none := Same.free (s1.trans (Same.new nr)) nc
  refine for_R (iw_range1 (n := S.n) (eva_cons (ev_v (i := 2) rfl stay_int.mono rfl) stay_int.mono eva_nil) (by omega) _ (Same.refl _))
    (fun k σ H' => ∃ (lr : Addr) (rs : List V) (y5 y6 y7 y8 y9 : Option V), σ = [some v1, some v2, some (.int S.n), some (.ref lr), some (.ref lc), y5, y6, y7, y8, y9, none, none, none] ∧
      k ≤ S.n ∧ Same H H' ∧ H lr = none ∧ lc ≠ lr ∧ H' lc = some (.lst ((List.range k).map fun j : Nat => V.int (j : Int))) ∧ H' lr = some (.lst rs) ∧ Rows K S k [lr, lc] H' rs) ?i0 ?istep ?iend
  case i0 =>
    intro H2 s2
    refine ⟨lr, [], none, none, none, none, none, rfl, Nat.zero_le _, (s1.trans ((Same.new nr).trans (Same.new nc))).trans s2, nr0, nlc, s2 _ _ upd_same, s2 _ _ (by rw [upd_ne nlc.symm]; exact upd_same), rfl, fun j hj => by omega⟩
  case istep =>
    rintro k σ H2 hk ⟨lr, rs, y5, y6, y7, y8, y9, rfl, -, sH, nlr, ncr, hlc, hlr, hrl, hrows⟩
    have I := inv_all good k (Nat.le_of_lt hk)
    have h1' := stay_mat.mono _ _ _ sH h1
    have h2' := stay_mat.mono _ _ _ sH h2
    have eR : Ev _ _ H2 (pRow K (rowL S.n S.m S.M S.R (newY S.M (Yk S.n S.M k) k 0))) := (ev_cat
        (ev_cat (ev_listT (K := K) (Ps := (List.range S.n).map fun j => pR K (S.M k j)) (ev_ixT (i := k) (ev_v (i := 0) (P := pMat K S.n S.n S.M) rfl stay_mat.mono h1') (ev_v (i := 5) (P := pInt (0 + (k : Nat))) rfl stay_int.mono rfl) (by omega) (range_get hk) sl1) (stay_mrow _ _))
          (ev_listT (K := K) (Ps := (List.range S.m).map fun j => pR K (S.R k j)) (ev_ixT (i := k) (ev_v (i := 1) (P := pMat K S.n S.m S.R) rfl stay_mat.mono h2') (ev_v (i := 5) (P := pInt (0 + (k : Nat))) rfl stay_int.mono rfl) (by omega) (range_get hk) (stay_mrows _ _ _)) (stay_mrow _ _))
          (stay_mrow _ _) (stay_mrow _ _) (by simp; omega))
        (ev_lcR (i0 := 11) (lo := 0) (n := S.n) (Rs := (List.range S.n).map fun j => pR K (un k j)) (iw_range1 (n := S.n) (eva_cons (ev_v (i := 2) rfl stay_int.mono rfl) stay_int.mono eva_nil) (by omega)) (by simp) (stay_mrow _ _) (by simp; omega)
          (fun j R H3 hR sR => by
            have hj := lt_of_get hR
            simp only [List.length_map, List.length_range] at hj
            rw [range_get hj] at hR
            cases hR
            have ee := ev_tup (K := K) (H := H3) (eva_cons (ev_intB (ev_eq (x := .int (0 + (j : Nat))) (y := .int (0 + (k : Nat))) (ta := tVar 11) (tb := tVar 5) (σ := (wipe [some v1, some v2, some (V.int S.n), some (V.ref lr), some (V.ref lc), some (V.int (0 + (k : Nat))), y6, y7, y8, y9, none, none, none] [11]).set 11 (some (V.int (0 + (j : Nat))))) rfl (ev_v rfl stay_is.mono rfl) (ev_v rfl stay_is.mono rfl))) stay_int.mono (eva_cons (ev_int (i := 1)) stay_int.mono eva_nil)) (stay_cons stay_int (stay_cons stay_int stay_nil)) (by simp)
            refine ee.imp fun v H4 _ p => ?_
            rw [Int.zero_add, Int.zero_add, dec_nat] at p
            exact pR_un p))
        (fun P hP => by rcases List.mem_append.mp hP with h | h <;> exact stay_mrow _ _ P h) (stay_mrow _ _) (by simp; omega)).imp fun v H3 _ p => by
          unfold pRow
          rw [show rowL S.n S.m S.M S.R (newY S.M (Yk S.n S.M k) k 0) = _ from (rowL_un hk).symm]
          simp only [List.map_append, List.map_map]
          exact p
    refine seq_set eR fun vr H3 s3 pr => ?_
    have hlc3 := s3 _ _ hlc
    have hlr3 := s3 _ _ hlr
    refine for_W (H1 := H3) (n := k) (fun R h => ⟨_, rfl, _, rfl, lc, lr, _, _, rfl, .of hlc3, .of hlr3, h⟩) (walk_zip (K := K) (xs := (List.range k).map fun j : Nat => V.int (j : Int)) (ys := rs) (by rw [List.length_map, List.length_range, hrl]; omega))
      (fun J σ H4 => ∃ (v6 : V) (y7 y8 : Option V), σ = [some v1, some v2, some (.int S.n), some (.ref lr), some (.ref lc), some (.int (0 + (k : Nat))), some v6, y7, y8, y9, none, none, none] ∧ Same H3 H4 ∧ pRow K (rowL S.n S.m S.M S.R (newY S.M (Yk S.n S.M k) k J)) v6 H4)
      ⟨vr, y7, y8, rfl, Same.refl H3, pr⟩ (fun J σ H4 hJ p => by obtain ⟨_, _, _, _, s4, _⟩ := p; exact ⟨.of (s4 _ _ hlc3), .of (s4 _ _ hlr3)⟩) ?zstep ?zend
    case zstep =>
      rintro J x σ H4 H5 hJ ⟨v6, z7, z8, rfl, s4, p6⟩ ⟨T, a, b, rfl, hT, rfl, ha, hb⟩
      have ha : ((List.range k).map fun j : Nat => V.int (j : Int))[J]? = some a := ha
      rw [range_get hJ] at ha
      cases ha
      obtain ⟨rJ, hrJ, _, prJ⟩ := hrows J hJ
      have hb : rs[J]? = some b := hb
      rw [hrJ] at hb
      cases hb
      have sT : Same H4 (upd H4 T (.tup [.int (J : Int), .ref rJ])) := Same.new hT
      refine ⟨T, _, rfl, .of upd_same, rfl, _, _, rfl, _, _, rfl, rfl, ?_⟩
      refine ⟨_, rfl, _, rfl, _, rfl, v6, .ref rJ, _, _, J, S.M k J, rfl, mono_row _ _ _ sT p6, mono_row _ _ _ (s3.trans (s4.trans sT)) prJ, by rw [rowL_len, rowL_len], by rw [rowL_len]; omega, ?_, fun y hy => ?_, fun z hz => ?_, fun v H6 s6 p _ => ?_⟩
      · rw [rowL_get _ (by omega)]
        unfold ent
        rw [if_pos (by omega), newY_col hk I (Nat.le_of_lt hJ) hJ, if_neg (by omega)]
      · obtain ⟨c, hc, rfl⟩ := mem_rowL hy
        exact ob k hk J hJ c hc
      · rw [less_row] at hz
        obtain ⟨c, hc, rfl⟩ := mem_rowL hz
        exact oa k hk (J + 1) hJ c hc
      · rw [less_row] at p
        exact ⟨v, _, _, rfl, s4.trans (sT.trans s6), p⟩
    case zend =>
      rintro σ H4 ⟨v6, z7, z8, rfl, s4, p6⟩
      have sH4 := sH.trans (s3.trans s4)
      have ppos := piv_pos good hk I
      refine ⟨_, rfl, _, rfl, v6, _, S.n, k, yM S.n S.M (newY S.M (Yk S.n S.M k) k k) k, rfl, p6, by omega, hk, fun j hj => ?_, ?_, Ne.symm (Rat.ne_of_lt ppos), fun H5 s5 => ?_⟩
      · rw [rowL_get _ (by omega)]
        unfold ent
        rw [if_pos (by omega), newY_col hk I (Nat.le_refl k) hj, if_pos hj]
      · rw [rowL_get _ (by omega)]
        unfold ent
        rw [if_pos (by omega)]
      refine ⟨_, rfl, rfl, _, rfl, ite2 (fun z => by cases of_decide_eq_true z) (fun _ => ?_)⟩
      have p65 := mono_row _ _ _ s5 p6
      refine seq_set (ev_ixL (K := K) (P := pR K (yM S.n S.M (newY S.M (Yk S.n S.M k) k k) k)) (i := k) (j := k) (Ps := (rowL S.n S.m S.M S.R (newY S.M (Yk S.n S.M k) k k)).map (pR K)) (ev_v rfl (mono_lst fun P hP => (stay_rs _ P hP).mono) p65.lst) (ev_v rfl stay_int.mono rfl) rfl (map_get (by
        rw [rowL_get _ (by omega)]
        unfold ent
        rw [if_pos (by omega)])) (stay_rs _)) fun vp H6 s6 pp => ?_
      have p66 := mono_row _ _ _ s6 p65
      refine seq_set (P := pRow K (rowL S.n S.m S.M S.R (divY S.n S.M (Yk S.n S.M k) k))) (ev_lcL (K := K) (i0 := 12) (Ps := (rowL S.n S.m S.M S.R (newY S.M (Yk S.n S.M k) k k)).map (pR K)) (ev_v rfl (mono_lst fun P hP => (stay_rs _ P hP).mono) p66.lst) (fun P hP => (stay_rs _ P hP).mono) (by rw [List.length_map, List.length_map, rowL_len, rowL_len]) (stay_rs _) (by rw [List.length_map, rowL_len]; omega)
        fun j P R v H7 hP hR s7 pv => ?_) fun vd H7 s7 pd => ?_
      · have hj := lt_of_get hP
        rw [List.length_map, rowL_len] at hj
        rw [map_get (rowL_get _ hj)] at hP hR
        cases hP
        cases hR
        have ed : ent S.n S.m S.M S.R (divY S.n S.M (Yk S.n S.M k) k) j = ent S.n S.m S.M S.R (newY S.M (Yk S.n S.M k) k k) j / yM S.n S.M (newY S.M (Yk S.n S.M k) k k) k := by
          rw [← ent_div]; rfl
        rw [ed]
        exact ev_div (K := K) (ev_v rfl stay_R.mono pv) (ev_v rfl stay_R.mono (stay_R.mono _ _ _ s7 pp)) ppos (by rw [← ed]; exact oc k hk j hj)
      have sH7 : Same H3 H7 := s4.trans (s5.trans (s6.trans s7))
      have hlr7 := sH7 _ _ hlr3
      have hlc7 := sH7 _ _ hlc3
      have rows7 : ∀ j, j < k → ∃ r, rs[j]? = some (.ref r) ∧ r ∉ [lr, lc] ∧ pRow K (rowL S.n S.m S.M S.R (Yk S.n S.M k j)) (.ref r) H7 := fun j hj => by
        obtain ⟨r, a, b, c⟩ := hrows j hj
        exact ⟨r, a, b, mono_row _ _ _ (s3.trans sH7) c⟩
      refine ⟨_, rfl, lr, rfl, ⟨rs, .of hlr7⟩, fun Da hD => ?_⟩
      have nDlr : Da ≠ lr := fun e => by rw [e, hlr7] at hD; cases hD
      have nDlc : Da ≠ lc := fun e => by rw [e, hlc7] at hD; cases hD
      refine lc_list (xs := rs) (fun i H8 => Same H7 H8 ∧ ∃ acc, H8 Da = some (.lst acc) ∧ acc.length = i ∧ ∀ j, j < i → ∃ r, acc[j]? = some (.ref r) ∧ r ∉ [Da, lc] ∧ pRow K (rowL S.n S.m S.M S.R (Yk S.n S.M (k + 1) j)) (.ref r) H8)
        ⟨Same.new hD, [], upd_same, rfl, fun j hj => by omega⟩ (fun i H8 _ p => .of (p.1 _ _ hlr7)) (fun i x H8 hx p => ?_) (fun H8 p => ?_)
      · obtain ⟨s8, acc, hacc, lacc, racc⟩ := p
        have hi := lt_of_get hx
        rw [hrl] at hi
        obtain ⟨r, hr1, hr2, hr3⟩ := rows7 i hi
        rw [hx] at hr1
        cases hr1
        have hDr : r ≠ Da := fun e => by
          obtain ⟨p, us, e1, e2, _⟩ := hr3
          cases e1
          rw [e, hD] at e2
          cases e2
        refine ⟨wipe1 _ _ _, ?_⟩
        refine ⟨_, rfl, _, rfl, _, rfl, .ref r, vd, _, _, k, yM S.n S.M (Yk S.n S.M k i) k, rfl, mono_row _ _ _ s8 hr3, mono_row _ _ _ s8 pd, by rw [rowL_len, rowL_len], by rw [rowL_len]; omega, ?_, fun y hy => ?_, fun z hz => ?_, fun v H9 s9 p fr => ?_⟩
        · rw [rowL_get _ (by omega)]
          unfold ent
          rw [if_pos hk]
        · obtain ⟨c, hc, rfl⟩ := mem_rowL hy
          exact od k hk i hi c hc
        · rw [less_row] at hz
          obtain ⟨c, hc, rfl⟩ := mem_rowL hz
          have := oe (k + 1) hk i (by omega) c hc
          simp only [Yk, if_neg (show i ≠ k by omega)] at this
          exact this
        · rw [less_row] at p
          have hacc9 := s9 _ _ hacc
          have hlc9 := s9 _ _ (s8 _ _ hlc7)
          refine ⟨acc, hacc9, small1000 (by omega), Same.upd (s8.trans s9) hD, acc ++ [v], upd_same, by rw [List.length_append, lacc]; rfl, fun j hj => ?_⟩
          by_cases e : j = i
          · subst e
            obtain ⟨q', hq1, hq2⟩ : ∃ r', v = .ref r' ∧ r' ∉ [Da, lc] := by
              rcases fr with e | ⟨p', e, hp'⟩
              · refine ⟨r, e, ?_⟩
                simp only [List.mem_cons, List.not_mem_nil, or_false, not_or]
                simp only [List.mem_cons, List.not_mem_nil, or_false, not_or] at hr2
                exact ⟨hDr, hr2.2⟩
              · refine ⟨p', e, ?_⟩
                simp only [List.mem_cons, List.not_mem_nil, or_false, not_or]
                exact ⟨fun e => (by rw [e, hacc] at hp'; cases hp'), fun e => (by rw [e, s8 _ _ hlc7] at hp'; cases hp')⟩
            subst hq1
            have hne : q' ≠ Da := fun e => hq2 (by rw [e]; exact List.mem_cons_self)
            refine ⟨q', by rw [← lacc]; simp, hq2, ?_⟩
            have ey : Yk S.n S.M (k + 1) j = fun a => Yk S.n S.M k j a - yM S.n S.M (Yk S.n S.M k j) k * divY S.n S.M (Yk S.n S.M k) k a := by
              simp only [Yk, if_neg (show j ≠ k by omega)]
            rw [ey]
            exact row_upd p hacc9 hne
          · obtain ⟨r', h1', h2', h3'⟩ := racc j (by omega)
            have hne : r' ≠ Da := fun e => h2' (by rw [e]; exact List.mem_cons_self)
            exact ⟨r', by rw [List.getElem?_append_left (by omega)]; exact h1', h2', row_upd (mono_row _ _ _ s9 h3') hacc9 hne⟩
      · obtain ⟨s8, acc, hacc, lacc, racc⟩ := p
        rw [hrl] at lacc racc
        obtain ⟨rd, vsd, rfl, hrd, ald⟩ := pd
        have pd8 : pRow K (rowL S.n S.m S.M S.R (divY S.n S.M (Yk S.n S.M k) k)) (.ref rd) H8 := mono_row _ _ _ s8 ⟨rd, vsd, rfl, hrd, ald⟩
        have nrdD : rd ≠ Da := fun e => by rw [e, hD] at hrd; cases hrd
        have nrdC : rd ≠ lc := fun e => by
          rw [e, hlc7] at hrd
          have l1 := ald.len
          rw [← HO.lst.inj (Option.some.inj hrd), List.length_map, List.length_map, List.length_range, rowL_len] at l1
          omega
        refine seq_appV (P := pIs (.ref rd)) (j := 3) (l := Da) rfl hacc (by omega) (ev_v (i := 6) rfl stay_is.mono rfl) fun v H9 s9 p9 => ?_
        obtain rfl : v = .ref rd := p9
        have hacc9 := s9 _ _ hacc
        have hlc9 : upd H9 Da (.lst (acc ++ [.ref rd])) lc = some (.lst ((List.range k).map fun j : Nat => V.int (j : Int))) := by
          rw [upd_ne nDlc.symm]
          exact s9 _ _ (s8 _ _ hlc7)
        refine one_appV (P := pInt (k : Nat)) (j := 4) (l := lc) rfl hlc9 (by simp; omega) (ev_v (i := 7) rfl stay_int.mono rfl) fun v H10 s10 p10 => ?_
        obtain rfl : v = V.int (k : Nat) := p10
        have hlc10 := s10 _ _ hlc9
        have hDa0 : H Da = none := Same.free (sH4.trans (s5.trans (s6.trans s7))) hD
        refine ⟨Da, acc ++ [.ref rd], _, _, _, _, _, rfl, hk, ?_, hDa0, nDlc.symm, ?_, ?_, ?_, ?_⟩
        · refine Same.upd (Same.trans ?_ s10) nc0
          exact Same.upd (((sH4.trans (s5.trans (s6.trans s7))).trans s8).trans s9) hDa0
        · rw [upd_same, List.range_succ, List.map_append]; rfl
        · rw [upd_ne nDlc]
          exact s10 _ _ upd_same
        · rw [List.length_append, lacc]; rfl
        · intro j hj
          by_cases e : j = k
          · subst e
            refine ⟨rd, by rw [← lacc]; simp, ?_, ?_⟩
            · simp only [List.mem_cons, List.not_mem_nil, or_false, not_or]
              exact ⟨nrdD, nrdC⟩
            · have ey : Yk S.n S.M (j + 1) j = divY S.n S.M (Yk S.n S.M j) j := by simp only [Yk, if_true]
              rw [ey]
              exact row_upd (mono_row _ _ _ s10 (row_upd (mono_row _ _ _ s9 pd8) hacc9 nrdD)) hlc10 nrdC
          · obtain ⟨r', h1', h2', h3'⟩ := racc j (by omega)
            have n1 : r' ≠ Da := fun e => h2' (by rw [e]; exact List.mem_cons_self)
            have n2 : r' ≠ lc := fun e => h2' (by rw [e]; exact List.mem_cons_of_mem _ List.mem_cons_self)
            exact ⟨r', by rw [List.getElem?_append_left (by omega)]; exact h1', h2', row_upd (mono_row _ _ _ s10 (row_upd (mono_row _ _ _ s9 h3') hacc9 n1)) hlc10 n2⟩
  case iend =>
    rintro σ H2 ⟨lr, rs, y5, y6, y7, y8, y9, rfl, -, sH, nlr, ncr, hlc, hlr, hrl, hrows⟩
    refine seq_do ?_
    refine ⟨Nat.zero_le _, fun pe hpe => ?_⟩
    refine ⟨by show 1 ≤ sizeLine; decide, fun pl hpl => ?_⟩
    refine ⟨_, rfl, pl, S.n, _, rfl, rfl, upd_same, by omega, by omega, ?_, fun ls hls => ?_⟩
    · show 1 * (S.n : Int).toNat ≤ sizeLine
      rw [Nat.one_mul]
      exact Nat.le_of_lt (small1000 (by omega))
    have s3 : Same H2 (upd (upd (upd H2 pe (.tup [])) pl (.lst [.ref pe])) ls (.lst (List.replicate (S.n : Int).toNat [V.ref pe]).flatten)) := ((Same.new hpe).trans (Same.new hpl)).trans (Same.new hls)
    have hls3 : (upd (upd (upd H2 pe (.tup [])) pl (.lst [.ref pe])) ls (.lst (List.replicate (S.n : Int).toNat [V.ref pe]).flatten)) ls = some (.lst (List.replicate S.n [V.ref pe]).flatten) := upd_same
    have hpe3 : (upd (upd (upd H2 pe (.tup [])) pl (.lst [.ref pe])) ls (.lst (List.replicate (S.n : Int).toNat [V.ref pe]).flatten)) pe = some (.tup []) := by
      have n1 : pe ≠ pl := fun e => by rw [← e, upd_same] at hpl; cases hpl
      have n2 : pe ≠ ls := fun e => by rw [← e, upd_ne n1, upd_same] at hls; cases hls
      rw [upd_ne n2, upd_ne n1, upd_same]
    generalize (upd (upd (upd H2 pe (.tup [])) pl (.lst [.ref pe])) ls (.lst (List.replicate (S.n : Int).toNat [V.ref pe]).flatten)) = H3 at s3 hls3 hpe3
    have hls0 : H2 ls = none := Same.free ((Same.new hpe).trans (Same.new hpl)) hls
    have hlc3 := s3 _ _ hlc
    have hlr3 := s3 _ _ hlr
    let rowP := fun (i : Nat) => pTup K ((List.range S.m).map fun l => pR K (solA S i l))
    have stP : ∀ j : Nat, ∀ P ∈ (List.range S.n).map (fun i => if i < j then rowP i else pTup K []), Stay P := fun j => stay_map fun i => by
      by_cases e : i < j
      · rw [if_pos e]; exact stay_tup (stay_mrow _ _)
      · rw [if_neg e]; exact stay_tup stay_nil
    refine for_W (H1 := H3) (n := S.n) (fun R h => ⟨_, rfl, _, rfl, lc, lr, _, _, rfl, .of hlc3, .of hlr3, h⟩) (walk_zip (K := K) (xs := (List.range S.n).map fun j : Nat => V.int (j : Int)) (ys := rs) (by rw [List.length_map, List.length_range, hrl]; omega))
      (fun j σ H4 => ∃ (y6 y7 : Option V) (vs : List V), σ = [some v1, some v2, some (.int S.n), some (.ref lr), some (.ref lc), y5, y6, y7, y8, y9, some (.ref ls), none, none] ∧ Same H2 H4 ∧ Stb H3 H4 ∧ H4 ls = some (.lst vs) ∧ Al H4 vs ((List.range S.n).map fun i => if i < j then rowP i else pTup K []))
      ⟨y6, y7, _, rfl, s3, Stb.refl H3, hls3, ?_⟩ (fun j σ H4 hj p => by obtain ⟨_, _, _, _, s4, _⟩ := p; exact ⟨.of (s4 _ _ hlc), .of (s4 _ _ hlr)⟩) ?zstep ?zend
    · have : ∀ (n : Nat) (f : Nat → VP), (∀ i, f i = pTup K []) → Al H3 (List.replicate n [V.ref pe]).flatten ((List.range n).map f) := fun n f hf => by
        refine Al.of (by simp) fun i v P hv hP => ?_
        have hm : v ∈ (List.replicate n [V.ref pe]).flatten := List.mem_of_getElem? hv
        obtain ⟨l, hl, hv2⟩ := List.mem_flatten.mp hm
        rw [List.eq_of_mem_replicate hl] at hv2
        have e1 : v = .ref pe := by simpa using hv2
        obtain ⟨j, _, rfl⟩ := List.mem_map.mp (List.mem_of_getElem? hP)
        rw [hf j, e1]
        exact ⟨pe, [], rfl, .of hpe3, .nil⟩
      exact this S.n _ fun i => if_neg (by omega)
    case zstep =>
      rintro j x σ H4 H5 hj ⟨z6, z7, vs, rfl, s4, st4, hvs, al⟩ ⟨T, a, b, rfl, hT, rfl, ha, hb⟩
      have ha : ((List.range S.n).map fun j : Nat => V.int (j : Int))[j]? = some a := ha
      rw [range_get hj] at ha
      cases ha
      obtain ⟨r, hr, _, pr⟩ := hrows j hj
      have hb : rs[j]? = some b := hb
      rw [hr] at hb
      cases hb
      have sT : Same H4 (upd H4 T (.tup [.int (j : Int), .ref r])) := Same.new hT
      refine ⟨T, _, rfl, .of upd_same, rfl, _, _, rfl, _, _, rfl, rfl, ?_⟩
      have pr5 := mono_row _ _ _ (s4.trans sT) pr
      have ent5 : cutP ((rowL S.n S.m S.M S.R (Yk S.n S.M S.n j)).map (pR K)) S.n (S.n + S.m) = (List.range S.m).map fun l => pR K (solA S j l) := by
        unfold cutP
        rw [← List.map_drop, ← List.map_take, show S.n + S.m - S.n = S.m by omega, rowL_mid, List.map_map]; rfl
      have hlen : ((rowL S.n S.m S.M S.R (Yk S.n S.M S.n j)).map (pR K)).length = S.n + S.m + S.n := by rw [List.length_map, rowL_len]
      refine (ev_tupleL (K := K) (ev_slL (K := K) (a := S.n) (b := S.n + S.m) (ev_v (i := 6) rfl (mono_lst fun P hP => (stay_rs _ P hP).mono) pr5.lst) (evo_some (ev_v (i := 2) rfl stay_int.mono rfl)) (evo_some (ev_i0 (ev_len (K := K) (ev_v (i := 6) rfl (mono_lst fun P hP => (stay_rs _ P hP).mono) pr5.lst)) (ev_v (i := 2) (P := pInt (S.n : Nat)) rfl stay_int.mono rfl)))
        (by rw [hlen, HT.sIx_nat]; omega) (by rw [hlen, show (((S.n + S.m + S.n : Nat) : Int) - (S.n : Int)) = ((S.n + S.m : Nat) : Int) by omega, HT.sIx_nat]; omega) (stay_rs _)).lst (fun P hP => stay_rs _ P (mem_cut hP))) _ (Same.refl _) _ fun v H6 s6 p6 => ?_
      rw [ent5] at p6
      have hvs6 := s6 _ _ (sT _ _ hvs)
      have lv := al.len
      rw [List.length_map, List.length_range] at lv
      refine ⟨_, rfl, _, rfl, ls, vs, j, j, rfl, rfl, hvs6, ?_, ?_⟩
      · unfold ixN
        rw [if_pos (by omega), if_pos (by omega)]; rfl
      · have st6 : Stb H6 (upd H6 ls (.lst (vs.set j v))) := Stb.lst hvs6
        refine ⟨_, _, vs.set j v, rfl, Same.upd (s4.trans (sT.trans s6)) hls0, st4.trans ((Same.stb (sT.trans s6)).trans st6), upd_same, ?_⟩
        have al6 := al.imp fun P hP v hv => stP j P hP v _ _ ((Same.stb (sT.trans s6)).trans st6) hv
        refine Al.of (by rw [List.length_set, lv]; simp) fun i u P hu hP => ?_
        have hi := lt_of_get hP
        simp only [List.length_map, List.length_range] at hi
        rw [range_get hi] at hP
        cases hP
        by_cases e : j = i
        · subst e
          rw [List.getElem?_set_self (by omega)] at hu
          cases hu
          rw [if_pos (by omega)]
          exact stay_tup (stay_mrow _ _) _ _ _ st6 p6
        · rw [List.getElem?_set_ne e] at hu
          obtain ⟨u', hu', pu⟩ := al6.get (range_get (f := fun i => if i < j then rowP i else pTup K []) hi)
          rw [hu] at hu'
          cases hu'
          by_cases l : i < j
          · rw [if_pos (by omega)]
            rw [if_pos l] at pu
            exact pu
          · rw [if_neg (by omega)]
            rw [if_neg l] at pu
            exact pu
    case zend =>
      rintro σ H4 ⟨z6, z7, vs, rfl, s4, st4, hvs, al⟩
      have al' : Al H4 vs ((List.range S.n).map rowP) := by
        refine Al.of (by rw [al.len]; simp) fun i u P hu hP => ?_
        have hi := lt_of_get hP
        simp only [List.length_map, List.length_range] at hi
        rw [range_get hi] at hP
        cases hP
        obtain ⟨u', hu', pu⟩ := al.get (range_get (f := fun i => if i < S.n then rowP i else pTup K []) hi)
        rw [hu] at hu'
        cases hu'
        rw [if_pos hi] at pu
        exact pu
      have stF : ∀ P ∈ (List.range S.n).map rowP, Stay P := stay_map fun i => stay_tup (stay_mrow _ _)
      refine one_ret (ev_tup (K := K) (eva_cons (ev_c (v := .str "solution")) stay_is.mono (eva_cons (ev_tupleL (K := K) (ev_v (i := 10) rfl (mono_lst fun P hP => (stF P hP).mono) ⟨ls, vs, rfl, .of hvs, al'⟩) stF) (stay_tup stF).mono eva_nil)) (stay_cons stay_is (stay_cons (stay_tup stF) stay_nil)) (by simp)) fun v H5 s5 p5 => ?_
      exact q v H5 (sH.trans (s4.trans s5)) p5
end
end AC
end
section
/-! Leaving and the index order as computed (plain). -/
namespace AC
def ind (c t : Nat) : Rat := if t = c then 1 else 0
def out (C : List Nat) (t : Nat) : Rat := if t ∈ C then 0 else 1
/-- the system of leaving C -/
def LS (g : Game) (b : Rat) (C : List Nat) : Lin where
  n := C.length
  m := 2
  M := fun i j => un i j - b * ex (g.row (C.getD i 0)) (ind (C.getD j 0))
  R := fun i l => if l = 0 then g.r (C.getD i 0) else b * ex (g.row (C.getD i 0)) (out C)
theorem getD_of {C : List Nat} {i s : Nat} (h : C[i]? = some s) : C.getD i 0 = s := by
  rw [List.getD_eq_getElem?_getD, h]; rfl
theorem nd_inj {α : Type} {l : List α} (hN : l.Nodup) {i j : Nat} {x : α} (a : l[i]? = some x) (b : l[j]? = some x) : i = j := by
  obtain ⟨h1, e1⟩ := List.getElem?_eq_some_iff.mp a
  obtain ⟨h2, e2⟩ := List.getElem?_eq_some_iff.mp b
  exact (List.getElem_inj hN).mp (e1.trans e2.symm)
theorem idx_get {C : List Nat} {s : Nat} (h : s ∈ C) : C[C.idxOf s]? = some s := by
  rw [List.getElem?_eq_getElem (List.idxOf_lt_length_of_mem h), List.getElem_idxOf]
theorem idx_of {C : List Nat} (nd : C.Nodup) {i s : Nat} (h : C[i]? = some s) : C.idxOf s = i := nd_inj nd (idx_get (List.mem_of_getElem? h)) h
/-- the sum over the set picks its member -/
theorem sm_ind {C : List Nat} (nd : C.Nodup) (t : Nat) (x : Nat → Rat) : sm C.length (fun j => ind (C.getD j 0) t * x j) = if t ∈ C then x (C.idxOf t) else 0 := by
  by_cases h : t ∈ C
  · rw [if_pos h, sm_one (List.idxOf_lt_length_of_mem h)]
    · rw [getD_of (idx_get h)]; unfold ind; rw [if_pos rfl]; grind
    · intro i hi ne
      unfold ind
      rw [if_neg, Rat.zero_mul]
      intro e
      have : C[i]? = some t := by
        rw [List.getElem?_eq_getElem hi]
        have := List.getElem?_eq_getElem hi
        rw [getD_of this] at e
        rw [e]
      exact ne (idx_of nd this).symm
  · rw [if_neg h, sm_zero]
    intro i hi
    unfold ind
    rw [if_neg, Rat.zero_mul]
    intro e
    have := List.getElem?_eq_getElem hi
    rw [getD_of this] at e
    rw [e] at h
    exact h (List.getElem_mem hi)
/-- sums inside an expectation -/
theorem ex_sm (row : List (Nat × Rat)) (n : Nat) (f : Nat → Nat → Rat) : ex row (fun t => sm n fun j => f j t) = sm n fun j => ex row (f j) := by
  induction row with
  | nil => simp only [ex]; exact (sm_zero fun _ _ => rfl).symm
  | cons tp r ih =>
    simp only [ex]
    rw [ih, ← sm_mul, ← sm_add]
theorem LS_sum {g : Game} {b : Rat} {C : List Nat} (nd : C.Nodup) (i : Nat) (hi : i < C.length) (x : Nat → Rat) :
    sm C.length (fun j => (LS g b C).M i j * x j) = x i - b * ex (g.row (C.getD i 0)) (fun t => if t ∈ C then x (C.idxOf t) else 0) := by
  have e1 : (fun j => (LS g b C).M i j * x j) = fun j => un i j * x j - b * (ex (g.row (C.getD i 0)) fun t => ind (C.getD j 0) t * x j) := by
    funext j
    rw [ex_mulr]
    simp only [LS]; grind
  rw [e1, sm_sub, sm_mul, ← ex_sm, sm_one hi]
  · have : (fun t => sm C.length fun j => ind (C.getD j 0) t * x j) = fun t => if t ∈ C then x (C.idxOf t) else 0 := by
      funext t; exact sm_ind nd t x
    rw [this]; simp only [un, if_true]; grind
  · intro j _ ne
    simp only [un, if_neg ne]; grind
theorem ind_nn (c t : Nat) : 0 ≤ ind c t := by unfold ind; split <;> decide
theorem LS_good {g : Game} {b : Rat} (ok : GameOk g) (hb0 : 0 ≤ b) (hb1 : b < 1) {C : List Nat} (nd : C.Nodup) (hC : ∀ s ∈ C, s < g.n) : Good (LS g b C).n (LS g b C).M (1 - b) := by
  have hr : ∀ i, i < C.length → RowOk g.n (g.row (C.getD i 0)) := fun i hi => by
    have := List.getElem?_eq_getElem hi
    rw [getD_of this]
    exact ok.rows _ (hC _ (List.getElem_mem hi))
  have ex0 : ∀ i j, i < C.length → 0 ≤ ex (g.row (C.getD i 0)) (ind (C.getD j 0)) := fun i j hi => by
    have := ex_le (row := g.row (C.getD i 0)) (f := fun _ => 0) (h := ind (C.getD j 0)) (hr i hi).nn fun tp _ => ind_nn _ _
    rwa [ex_const (hr i hi)] at this
  refine ⟨by grind, fun i hi => ?_, fun i j hi hj ne => ?_, fun i hi => ?_⟩
  · have := Rat.mul_nonneg hb0 (ex0 i i hi)
    simp only [LS, un, if_true]; grind
  · have := Rat.mul_nonneg hb0 (ex0 i j hi)
    simp only [LS, un, if_neg (Ne.symm ne)]; grind
  · have hi : i < C.length := hi
    have e : sm C.length ((LS g b C).M i) = sm C.length (fun j => (LS g b C).M i j * (fun _ => (1 : Rat)) j) := sm_congr fun j _ => by grind
    show 1 - b ≤ sm C.length ((LS g b C).M i)
    rw [e, LS_sum nd i hi]
    have := ex_le (row := g.row (C.getD i 0)) (f := fun t => if t ∈ C then (1 : Rat) else 0) (h := fun _ => 1) (hr i hi).nn fun tp _ => by
      by_cases h : tp.1 ∈ C
      · rw [if_pos h]; exact Rat.le_refl
      · rw [if_neg h]; decide
    rw [ex_const (hr i hi)] at this
    have := Rat.mul_le_mul_of_nonneg_left this hb0
    grind
/-- earned, factor -/
def eL (g : Game) (b : Rat) (C : List Nat) (s : Nat) : Rat := if s ∈ C then solA (LS g b C) (C.idxOf s) 0 else 0
def fL (g : Game) (b : Rat) (C : List Nat) (s : Nat) : Rat := if s ∈ C then solA (LS g b C) (C.idxOf s) 1 else 1
theorem leave_ok {g : Game} {b : Rat} (ok : GameOk g) (hb0 : 0 ≤ b) (hb1 : b < 1) {C : List Nat} (nd : C.Nodup) (hC : ∀ s ∈ C, s < g.n) : Leave g b C (eL g b C) (fL g b C) := by
  have G := LS_good ok hb0 hb1 nd hC
  have key : ∀ s, s ∈ C → ∀ l, solA (LS g b C) (C.idxOf s) l = (LS g b C).R (C.idxOf s) l + b * ex (g.row s) (fun t => if t ∈ C then solA (LS g b C) (C.idxOf t) l else 0) := fun s hs l => by
    have hi := List.idxOf_lt_length_of_mem hs
    have h1 := solX_ok G (fun i => (LS g b C).R i l) (i := C.idxOf s) hi
    have h2 := LS_sum (g := g) (b := b) nd (C.idxOf s) hi (fun j => solA (LS g b C) j l)
    rw [getD_of (idx_get hs)] at h2
    have h3 : sm C.length (fun j => (LS g b C).M (C.idxOf s) j * solA (LS g b C) j l) = (LS g b C).R (C.idxOf s) l := h1
    rw [h3] at h2
    grind
  refine ⟨fun s hs => if_neg hs, fun s hs => if_neg hs, fun s hs => ?_, fun s hs => ?_⟩
  · rw [show eL g b C s = solA (LS g b C) (C.idxOf s) 0 from if_pos hs, key s hs 0]
    simp only [LS, if_true]
    rw [getD_of (idx_get hs)]; rfl
  · rw [show fL g b C s = solA (LS g b C) (C.idxOf s) 1 from if_pos hs, key s hs 1]
    simp only [LS, show ¬ (1 : Nat) = 0 by omega, if_false]
    rw [getD_of (idx_get hs)]
    have : ex (g.row s) (fL g b C) = ex (g.row s) (out C) + ex (g.row s) (fun t => if t ∈ C then solA (LS g b C) (C.idxOf t) 1 else 0) := by
      rw [← ex_add]
      refine ex_congr fun tp _ => ?_
      unfold fL out
      by_cases h : tp.1 ∈ C
      · rw [if_pos h, if_pos h, if_pos h]; grind
      · rw [if_neg h, if_neg h, if_neg h]; grind
    rw [this]
    simp only [LS]
    grind
/-- the best candidate outside, the least among the best -/
def pick (cnd : Nat → Rat) (C : List Nat) : Nat → Option (Nat × Rat)
  | 0 => none
  | k + 1 => if k ∈ C then pick cnd C k else match pick cnd C k with
    | none => some (k, cnd k)
    | some sv => if sv.2 < cnd k then some (k, cnd k) else some sv
theorem pick_some {cnd : Nat → Rat} {C : List Nat} : ∀ {n : Nat} {sv : Nat × Rat}, pick cnd C n = some sv → sv.1 < n ∧ sv.1 ∉ C ∧ sv.2 = cnd sv.1 ∧ ∀ t, t < n → t ∉ C → cnd t ≤ sv.2
  | 0, sv, h => by simp [pick] at h
  | k + 1, sv, h => by
    unfold pick at h
    by_cases c : k ∈ C
    · rw [if_pos c] at h
      obtain ⟨a1, a2, a3, a4⟩ := pick_some h
      exact ⟨by omega, a2, a3, fun t ht hc => by
        by_cases e : t = k
        · rw [e] at hc; exact absurd c hc
        · exact a4 t (by omega) hc⟩
    · rw [if_neg c] at h
      cases q : pick cnd C k with
      | none =>
        rw [q] at h
        have h := (Option.some.inj h).symm
        subst h
        refine ⟨by show k < k + 1; omega, c, rfl, fun t ht hc => ?_⟩
        by_cases e : t = k
        · rw [e]; exact Rat.le_refl
        · exfalso
          have : ∀ n, pick cnd C n = none → ∀ t, t < n → t ∈ C := fun n => by
            induction n with
            | zero => intro _ t ht; omega
            | succ n ih =>
              intro hp t ht
              unfold pick at hp
              by_cases d : n ∈ C
              · rw [if_pos d] at hp
                by_cases et : t = n
                · rw [et]; exact d
                · exact ih hp t (by omega)
              · rw [if_neg d] at hp
                cases q2 : pick cnd C n with
                | none => rw [q2] at hp; cases hp
                | some z => rw [q2] at hp; simp only at hp; split at hp <;> cases hp
          exact hc (this k q t (by omega))
      | some z =>
        rw [q] at h
        obtain ⟨a1, a2, a3, a4⟩ := pick_some q
        simp only at h
        by_cases d : z.2 < cnd k
        · rw [if_pos d] at h
          have h := (Option.some.inj h).symm
          subst h
          refine ⟨by show k < k + 1; omega, c, rfl, fun t ht hc => ?_⟩
          by_cases e : t = k
          · rw [e]; exact Rat.le_refl
          · have := a4 t (by omega) hc
            show cnd t ≤ cnd k
            grind
        · rw [if_neg d] at h
          have h := (Option.some.inj h).symm
          subst h
          refine ⟨by omega, a2, a3, fun t ht hc => ?_⟩
          by_cases e : t = k
          · rw [e]; grind
          · exact a4 t (by omega) hc
theorem pick_none {cnd : Nat → Rat} {C : List Nat} : ∀ {n : Nat}, pick cnd C n = none → ∀ t, t < n → t ∈ C := by
  intro n
  induction n with
  | zero => intro _ t ht; omega
  | succ n ih =>
    intro hp t ht
    unfold pick at hp
    by_cases d : n ∈ C
    · rw [if_pos d] at hp
      by_cases et : t = n
      · rw [et]; exact d
      · exact ih hp t (by omega)
    · rw [if_neg d] at hp
      cases q2 : pick cnd C n with
      | none => rw [q2] at hp; cases hp
      | some z => rw [q2] at hp; simp only at hp; split at hp <;> cases hp

/-! ### sorting of numbers -/
def insS (x : Nat) : List Nat → List Nat
  | [] => [x]
  | y :: r => if x ≤ y then x :: y :: r else y :: insS x r
def srt : List Nat → List Nat
  | [] => []
  | x :: r => insS x (srt r)
theorem insS_perm (x : Nat) : ∀ l, List.Perm (insS x l) (x :: l)
  | [] => .refl _
  | y :: r => by
    unfold insS
    split
    · exact .refl _
    · exact ((insS_perm x r).cons y).trans (.swap x y r)
theorem srt_perm : ∀ l, List.Perm (srt l) l
  | [] => .refl _
  | x :: r => (insS_perm x (srt r)).trans ((srt_perm r).cons x)
theorem insS_sorted (x : Nat) : ∀ {l : List Nat}, l.Pairwise (· ≤ ·) → (insS x l).Pairwise (· ≤ ·)
  | [], _ => by simp [insS]
  | y :: r, h => by
    unfold insS
    obtain ⟨h1, h2⟩ := List.pairwise_cons.mp h
    split
    · refine List.pairwise_cons.mpr ⟨fun z hz => ?_, h⟩
      rcases List.mem_cons.mp hz with e | e
      · omega
      · have := h1 z e; omega
    · refine List.pairwise_cons.mpr ⟨fun z hz => ?_, insS_sorted x h2⟩
      rcases List.mem_cons.mp ((insS_perm x r).mem_iff.mp hz) with e | e
      · omega
      · exact h1 z e
theorem srt_sorted : ∀ l : List Nat, (srt l).Pairwise (· ≤ ·)
  | [] => List.Pairwise.nil
  | x :: r => insS_sorted x (srt_sorted r)
theorem sorted_one : ∀ {l m : List Nat}, l.Pairwise (· ≤ ·) → m.Pairwise (· ≤ ·) → List.Perm l m → l = m
  | [], m, _, _, p => (List.nil_perm.mp p).symm
  | x :: l, m, hl, hm, p => by
    cases m with
    | nil => exact absurd (List.perm_nil.mp p) (by simp)
    | cons y m =>
      obtain ⟨l1, l2⟩ := List.pairwise_cons.mp hl
      obtain ⟨m1, m2⟩ := List.pairwise_cons.mp hm
      have e : x = y := by
        have hx : x ∈ y :: m := p.mem_iff.mp List.mem_cons_self
        have hy : y ∈ x :: l := p.mem_iff.mpr List.mem_cons_self
        rcases List.mem_cons.mp hx with h | h
        · exact h
        · rcases List.mem_cons.mp hy with h' | h'
          · exact h'.symm
          · have := l1 y h'; have := m1 x h; omega
      subst e
      rw [sorted_one l2 m2 (List.Perm.cons_inv p)]
theorem srt_of_perm {l m : List Nat} (h : m.Pairwise (· ≤ ·)) (p : List.Perm m l) : m = srt l := sorted_one h (srt_sorted l) (p.trans (srt_perm l).symm)
theorem srt_nodup {l : List Nat} (h : l.Nodup) : (srt l).Nodup := (srt_perm l).nodup_iff.mpr h

/-! ### the order -/
def cnd (g : Game) (b : Rat) (C : List Nat) (s : Nat) : Rat := cand g b (eL g b C) (fL g b C) s
def oC (g : Game) (b : Rat) : Nat → List Nat
  | 0 => []
  | k + 1 => srt (oC g b k ++ [((pick (cnd g b (oC g b k)) (oC g b k) g.n).getD (0, 0)).1])
def oP (g : Game) (b : Rat) (k : Nat) : Nat × Rat := (pick (cnd g b (oC g b k)) (oC g b k) g.n).getD (0, 0)
theorem not_all {C : List Nat} {n : Nat} (h : C.length < n) : ∃ t, t < n ∧ t ∉ C := by
  by_cases q : ∃ t, t < n ∧ t ∉ C
  · exact q
  · exfalso
    have hs : ∀ t, t ∈ List.range n → t ∈ C := fun t ht => by
      by_cases d : t ∈ C
      · exact d
      · exact absurd ⟨t, List.mem_range.mp ht, d⟩ q
    have key : ∀ (l C : List Nat), l.Nodup → (∀ t ∈ l, t ∈ C) → l.length ≤ C.length := by
      intro l
      induction l with
      | nil => intro C _ _; exact Nat.zero_le _
      | cons x l ih =>
        intro C nd hsub
        have hx := hsub x List.mem_cons_self
        have := ih (C.erase x) (List.nodup_cons.mp nd).2 fun t ht => by
          have hne : t ≠ x := fun e => (List.nodup_cons.mp nd).1 (by rw [← e]; exact ht)
          exact (List.mem_erase_of_ne hne).mpr (hsub t (List.mem_cons_of_mem _ ht))
        have e := List.length_erase_of_mem hx
        have : 0 < C.length := List.length_pos_of_mem hx
        simp only [List.length_cons]; omega
    have := key (List.range n) C List.nodup_range hs
    rw [List.length_range] at this
    omega
theorem oC_facts {g : Game} {b : Rat} : ∀ k, k ≤ g.n → (oC g b k).length = k ∧ (oC g b k).Nodup ∧ (∀ s ∈ oC g b k, s < g.n) ∧ (∀ j, j < k → pick (cnd g b (oC g b j)) (oC g b j) g.n = some (oP g b j))
  | 0, _ => ⟨rfl, List.nodup_nil, fun s h => (nomatch h), fun j hj => by omega⟩
  | k + 1, h => by
    obtain ⟨h1, h2, h3, h4⟩ := oC_facts (g := g) (b := b) k (by omega)
    have hp : pick (cnd g b (oC g b k)) (oC g b k) g.n = some (oP g b k) := by
      unfold oP
      cases q : pick (cnd g b (oC g b k)) (oC g b k) g.n with
      | some z => rfl
      | none =>
        obtain ⟨t, ht, hc⟩ := not_all (C := oC g b k) (n := g.n) (by omega)
        exact absurd (pick_none q t ht) hc
    obtain ⟨p1, p2, p3, p4⟩ := pick_some hp
    have e : oC g b (k + 1) = srt (oC g b k ++ [(oP g b k).1]) := rfl
    have nd : (oC g b k ++ [(oP g b k).1]).Nodup := by
      refine List.nodup_append.mpr ⟨h2, by simp, fun a ha c hc => ?_⟩
      simp only [List.mem_singleton] at hc
      intro ee
      rw [hc] at ee
      rw [ee] at ha
      exact p2 ha
    refine ⟨?_, ?_, ?_, ?_⟩
    · rw [e, (srt_perm _).length_eq, List.length_append, h1]; rfl
    · rw [e]; exact srt_nodup nd
    · intro s hs
      rw [e, (srt_perm _).mem_iff, List.mem_append, List.mem_singleton] at hs
      rcases hs with q | q
      · exact h3 s q
      · rw [q]; exact p1
    · intro j hj
      by_cases ej : j = k
      · rw [ej]; exact hp
      · exact h4 j (by omega)
theorem order_ok {g : Game} {b : Rat} (ok : GameOk g) (hb0 : 0 ≤ b) (hb1 : b < 1) :
    Order g b (oC g b) (fun k => eL g b (oC g b k)) (fun k => fL g b (oC g b k)) (fun k => (oP g b k).1) (fun k => (oP g b k).2) := by
  refine ⟨fun s h => (nomatch h), fun k hk s => ?_, fun k hk => ?_, fun k hk => ?_, fun k hk => ?_, fun k hk => ?_, fun k hk s hs hc => ?_, fun s hs => ?_⟩
  · rw [show oC g b (k + 1) = srt (oC g b k ++ [(oP g b k).1]) from rfl, (srt_perm _).mem_iff, List.mem_append, List.mem_singleton]
  · obtain ⟨_, h2, h3, _⟩ := oC_facts (g := g) (b := b) k hk
    exact leave_ok ok hb0 hb1 h2 h3
  · obtain ⟨_, _, _, h4⟩ := oC_facts (g := g) (b := b) (k + 1) hk
    exact (pick_some (h4 k (by omega))).1
  · obtain ⟨_, _, _, h4⟩ := oC_facts (g := g) (b := b) (k + 1) hk
    exact (pick_some (h4 k (by omega))).2.1
  · obtain ⟨_, _, _, h4⟩ := oC_facts (g := g) (b := b) (k + 1) hk
    exact (pick_some (h4 k (by omega))).2.2.1
  · obtain ⟨_, _, _, h4⟩ := oC_facts (g := g) (b := b) (k + 1) hk
    exact (pick_some (h4 k (by omega))).2.2.2 s hs hc
  · obtain ⟨h1, h2, _, _⟩ := oC_facts (g := g) (b := b) g.n (Nat.le_refl _)
    by_cases d : s ∈ oC g b g.n
    · exact d
    · exfalso
      have nd : (s :: oC g b g.n).Nodup := List.nodup_cons.mpr ⟨d, h2⟩
      obtain ⟨_, _, h3, _⟩ := oC_facts (g := g) (b := b) g.n (Nat.le_refl _)
      have : ∃ t, t < g.n + 1 ∧ t ∉ (s :: oC g b g.n) ∨ True := ⟨0, .inr trivial⟩
      have key : ∀ (l : List Nat) (n : Nat), l.Nodup → (∀ t ∈ l, t < n) → l.length ≤ n := by
        intro l n nd hl
        by_cases q : l.length ≤ n
        · exact q
        · obtain ⟨t, ht, hn⟩ := not_all (C := List.range n) (n := l.length) (by rw [List.length_range]; omega)
          exfalso
          have sub : ∀ (l C : List Nat), l.Nodup → (∀ t ∈ l, t ∈ C) → l.length ≤ C.length := by
            intro l
            induction l with
            | nil => intro C _ _; exact Nat.zero_le _
            | cons x l ih =>
              intro C nd hsub
              have hx := hsub x List.mem_cons_self
              have := ih (C.erase x) (List.nodup_cons.mp nd).2 fun t ht => by
                have hne : t ≠ x := fun e => (List.nodup_cons.mp nd).1 (by rw [← e]; exact ht)
                exact (List.mem_erase_of_ne hne).mpr (hsub t (List.mem_cons_of_mem _ ht))
              have e := List.length_erase_of_mem hx
              have : 0 < C.length := List.length_pos_of_mem hx
              simp only [List.length_cons]; omega
          have := sub l (List.range n) nd fun t ht => List.mem_range.mpr (hl t ht)
          rw [List.length_range] at this
          omega
      have := key (s :: oC g b g.n) g.n nd fun t ht => by
        rcases List.mem_cons.mp ht with e | e
        · rw [e]; exact hs
        · exact h3 t e
      simp only [List.length_cons] at this
      omega
/-- the curve of a state, by its knots -/
def gPts (g : Game) (b : Rat) (s : Nat) : List Pt := qts g.n (oC g b) (fun k => eL g b (oC g b k)) (fun k => fL g b (oC g b k)) (fun k => (oP g b k).2) s g.n
def gK (g : Game) (b : Rat) (s : Nat) : List Pt := strF 0 (gPts g b s)
theorem gK_ok {g : Game} {b : Rat} (ok : GameOk g) (hb0 : 0 ≤ b) (hb1 : b < 1) : Curves g b (gK g b) := curves_of ok hb0 hb1 (order_ok ok hb0 hb1)
end AC
end
section
set_option maxRecDepth 100000
set_option maxHeartbeats 2000000
/-! The walk: a dict comprehension whose keys are numbers or tuples, as a value and given to a local name. -/
namespace ACD
open PySem PySem.Spec PyProof.Rows L2
section
variable {X : Cx}
abbrev InBlk (X : Cx) (sc : Scope) (p : Cx → Prop) : Prop := ∀ (s : Shared) (H : Hp) (C : Addr) (cl : List (Str × Addr)) (fp : List Addr), p (X.blk s H sc (compEnvC sc cl C X.env) fp)
/-- {tk: tv for g in wi}: em the empty dict of the kind that is wanted -/
def tDG (em : HO) (wi : TI) (g : TG) (tk tv : TE) (own : List Nat) : TE := fun σ H Q => wi σ H fun J H1 => ∀ D, H1 D = none →
  ∃ W : Nat → Nat → Hp → Prop, (∃ m, W 0 m (upd H1 D em)) ∧ ∀ i m H, W i m H → (J.stop i H ∧ Q (.ref D) H) ∨
    (J.go i H ∧ ∃ Z : Hp → Prop, (∀ H', Z H' → ∃ m', m' < m ∧ W (i + 1) m' H') ∧
      ∀ x H', J.yld i H x H' → g x (wipe σ own) H' fun σ2 H2 => wipe σ2 own = wipe σ own ∧ tk σ2 H2 fun y H4 => tv σ2 H4 fun z H5 => ∃ H6, DPut H5 D y z H6 ∧ Z H6)
theorem put_in {pins : List (Addr × Obj)} {σ : L2.St} {H H' : Hp} {s : Shared} {E : Value → Shared → Prop} {D : Addr} {y v : V} {u r : Value} {Q : Unit → Shared → Prop} (hu : X.A.units < cLine) (I : Inv X pins σ H s)
    (g : DPut H D y v H') (ry : L2.RelV y u) (rv : L2.RelV v r) (h : ∀ s', Inv X pins σ H' s' → Q () s') : wpAny (model X.prog X.w) X.A (dictSet D u r) Q E s := by
  rcases g with ⟨kvs, k, hD, rfl, hz, rfl⟩ | ⟨kvs, k, b, hD, rfl, hb, hz, rfl⟩
  · exact d_dictSet I hD hz ry rv h
  · obtain rfl : u = Value.ref b := ry
    obtain ⟨zs, ns, ps, rel, dd⟩ := dt_of I.hok hD
    have l1 := Paired.length rel
    have l2 := length_putK kvs k v
    refine wpAny_dictSet_heap (knd := tupleKind (mixKind X.prog X.w)) (hsz := by omega) hu (key_of I.hok hb) dd fun h' dd' sb => h _ ?_
    obtain ⟨o, es, ep, ho, c1, c2, c3, _, c5⟩ := dd'
    refine d_write I (by rw [hD]; trivial) sb ⟨o, ho⟩ ⟨by omega, ns, _, ?_, o, es, ep, ho, c1, c2, c3, c5⟩
    exact (rel.put k hb rv).keeps fun c ys hc => (upd_ne (ne_of hc hD (fun z => nomatch z))).trans hc
/-- the run of the comprehension, whatever is done with its dict (use) -/
theorem run_dc {pins : List (Addr × Obj)} {s : Shared} {σ : L2.St} {H : Hp} {Q : VK} {ke ve tg src : Expr} {sc : Scope} {own : List (Str × Nat)} {p0 p1 : Pos} {wi : TI} {g : TG} {tk tv : TE} {em : HO} {use : Option (Value → Sem Unit)} {F : Value → Shared → Prop}
    (hem : em = .dK [] ∨ em = .dT []) (hu : X.A.units < cLine) (hc : X.calm = true) (hN : X.N.Nodup) (I : Inv X pins σ H s) (hi : PI X tg src wi) (ok : BlkOk X.N X.env.scope sc own) (hg : InBlk X sc fun Y => PG Y tg g) (hk : InBlk X sc fun Y => PE Y ke tk) (hv : InBlk X sc fun Y => PE Y ve tv)
    (hs : ∀ x, foldedSetIterable src X.env x = pure x) (h : tDG em wi g tk tv (own.map (·.2)) σ H Q)
    (fin : ∀ D C s' m H', Inv X pins σ H' s' → Q (.ref D) H' → s'.heap.Ns C m → FpOk X pins H' C → compPost (model X.prog X.w) X.A X.xe use F (.ref D) C (.ok .next) s') :
    wpAny (model X.prog X.w) X.A (comprehension (.DictComp ke ve [⟨tg, src, [], 0⟩] sc p0) sc X.env p1 newDict false (eval src X.env) use) F X.xe s := by
  have clo : ∀ y ∈ sc.names, y.2 = .free → ∃ c, X.env.cells.lookup y.1 = some c := fun y hy e => by
    rcases ok.free y hy e with q | q
    · exact I.ok.has _ (Or.inl q)
    · exact I.ok.has _ (Or.inr q)
  refine wpAny_comprehension_free (use := use) rfl hs (closure_ok clo) ok.kind (fun y hy e => (ok.uniq y hy).trans (by rw [e])) ?_
  refine thn (hi.run pins s σ H _ I h) fun xv s1 g1 => thn g1 fun itv s2 g2 => ?_
  obtain ⟨it, fp, tn, J, H2, rfl, I2, T, t2, fp2, q⟩ := g2
  refine wpAny_newObj_type (newEnv_comp ?_)
  generalize eD : s2.heap.objs.size = D
  have freeD : H2 D = none := I2.hok.fresh (Nat.le_of_eq eD)
  obtain ⟨W, ⟨m0, w0⟩, turn⟩ := q D freeD
  -- the new dict
  have objD : ObjOk X.prog X.w (upd H2 D em) (s2.heap.push { cls := .type "dict", data := .dict #[] }) D em := by
    rw [← eD]
    rcases hem with rfl | rfl
    · exact dk_empty s2.heap I2.big
    · exact dt_empty s2.heap I2.big
  generalize eh : s2.heap.push { cls := .type "dict", data := .dict #[] } = h3 at objD
  have keep3 : ∀ b o, s2.heap.get? b = some o → h3.get? b = some o := fun b o e => by rw [← eh]; exact Heap.get?_push_of_some _ e
  have size3 : h3.objs.size = s2.heap.objs.size + 1 := by rw [← eh, Heap.size_push]
  have I3 : Inv X pins σ (upd H2 D em) { s2 with heap := h3 } := I2.laid (t' := s2.toks) keep3 (Nat.le_of_eq eD) objD
  have old : ∀ b ∈ fp, b < s2.heap.objs.size := fun b hb => (T.obj _ _ t2 b hb).elim fun o e => Heap.lt_size e.1
  have fp3 : ∀ b ∈ fp, FpOk X pins (upd H2 D em) b ∧ b < h3.objs.size := fun b hb => by
    have l := old b hb
    refine ⟨⟨?_, (fp2 b hb).2⟩, (by rw [size3]; exact Nat.lt_succ_of_lt l)⟩
    rw [upd_ne (by rw [← eD]; exact Nat.ne_of_lt l)]
    exact (fp2 b hb).1
  have t3 : tn 0 h3 := T.keep _ _ _ t2 fun b _ => keep3 b
  have I4 := block_start I3 ok hN fp3
  have g4 := hg { s2 with heap := h3 } (upd H2 D em) h3.objs.size (cellsFrom (h3.objs.size + 1) sc.names (cloFrom X.env.cells sc.names [])) fp
  have k4 := hk { s2 with heap := h3 } (upd H2 D em) h3.objs.size (cellsFrom (h3.objs.size + 1) sc.names (cloFrom X.env.cells sc.names [])) fp
  have v4 := hv { s2 with heap := h3 } (upd H2 D em) h3.objs.size (cellsFrom (h3.objs.size + 1) sc.names (cloFrom X.env.cells sc.names [])) fp
  show codeAny _ _ (.compStart (.DictComp ke ve [⟨tg, src, [], 0⟩] sc p0) 0 (.ref it) (.ref D) (compEnvC sc (cellsFrom (h3.objs.size + 1) sc.names (cloFrom X.env.cells sc.names [])) h3.objs.size X.env)) (compPost (model X.prog X.w) X.A X.xe use F (.ref D) h3.objs.size) { s2 with heap := pushCells (h3.push { cls := .type "dict", data := .dict #[] }) sc.names }
  generalize ee : compEnvC sc (cellsFrom (h3.objs.size + 1) sc.names (cloFrom X.env.cells sc.names [])) h3.objs.size X.env = env at I4 g4 k4 v4 ⊢
  have envL : env.locals = h3.objs.size := by rw [← ee]; rfl
  generalize eH : upd H2 D em = H3 at I3 I4 g4 k4 v4 w0 fp3
  have none3 : ∀ b ∈ fp, H3 b = none := fun b hb => (fp3 b hb).1.1
  generalize es : ({ s2 with heap := pushCells (h3.push { cls := .type "dict", data := .dict #[] }) sc.names } : Shared) = s4 at I4 ⊢
  have t4 : tn 0 s4.heap := T.keep _ _ _ t3 fun b _ o e => by rw [← es]; exact pushCells_keeps _ _ _ _ (Heap.get?_push_of_some _ e)
  have fpB : ∀ {σ' : L2.St} {H' : Hp} {s' : Shared}, Inv (X.blk { s2 with heap := h3 } H3 sc env fp) [] σ' H' s' → (∀ b ∈ fp, H' b = none) → ∀ b ∈ fp, FpOk (X.blk { s2 with heap := h3 } H3 sc env fp) [] H' b := fun {σ' H' s'} I' n b hb =>
    ⟨n b hb, (I'.ok.exf b hb).1, I'.ok.exfs b hb, Or.inl hb, fun x c e => (I'.ok.exf b hb).2 x c e, fun p hp => absurd (show p ∈ ([] : List (Addr × Obj)) ++ [] from hp) List.not_mem_nil⟩
  have loop : codeAny (model X.prog X.w) X.A (.compLoop (.DictComp ke ve [⟨tg, src, [], 0⟩] sc p0) 0 (.ref it) (.ref D) env) (compPost (model X.prog X.w) X.A X.xe use F (.ref D) h3.objs.size) s4 := by
    refine compLoop_anyD (fun n s' => ∃ i H', Inv (X.blk { s2 with heap := h3 } H3 sc env fp) [] (wipe σ (own.map (·.2))) H' s' ∧ tn i s'.heap ∧ (∀ b ∈ fp, H' b = none) ∧ W i n H') ?_ m0 ⟨0, H3, I4, t4, none3, w0⟩
    intro n s5 hyp
    obtain ⟨i, H5, I5, t5, n5, w5⟩ := hyp
    rcases turn i n H5 w5 with ⟨stop, qD⟩ | ⟨go, Z, hZ, step⟩
    · refine thnF (T.done (X.blk { s2 with heap := h3 } H3 sc env fp) rfl rfl rfl hc i [] s5 _ H5 (fun _ _ => False) I5 (fpB I5 n5) t5 stop) fun r s6 g6 => ?_
      obtain ⟨rfl, I6⟩ := g6
      have I7 : Inv X pins σ H5 s6 := I3.call' (ch := fp) I6.os I6.base I6.hok I6.bare fun b hb => by
        obtain ⟨_, b1, b2, b3, b4, b5⟩ := (fp3 b hb).1
        exact ⟨b3, b1, b4, b5⟩
      have nC : H5 h3.objs.size = none := by
        have z : H5 env.locals = none := I6.free
        rwa [envL] at z
      obtain ⟨m, hn, _⟩ := I6.loc
      have hn : s6.heap.Ns env.locals m := hn
      rw [envL] at hn
      exact fin D h3.objs.size s6 m H5 I7 qD hn (I3.fpOk (Nat.le_refl _) nC)
    · refine thnF (T.item (X.blk { s2 with heap := h3 } H3 sc env fp) rfl rfl rfl hc i [] s5 _ H5 (fun _ _ => False) I5 (fpB I5 n5) t5 go) fun r s6 g6 => ?_
      obtain ⟨u, rfl, g6⟩ := g6
      refine thnF g6 fun _ s7 g7 => ?_
      obtain ⟨x, H7, I7, r7, y7, t7, n7⟩ := g7
      have I7' := I7.pinned (fpB I7 n7) (T.obj _ _ t7)
      refine thnF (g4.run _ s7 _ H7 x u _ I7' r7 (step x H7 y7)) fun _ s8 g8 => ?_
      obtain ⟨σ8, H8, I8, w8, q8⟩ := g8
      refine thnF ((pts_nil (X := X.blk { s2 with heap := h3 } H3 sc env fp)).run _ s8 σ8 H8 (fun b H' => b = true ∧ H' = H8) I8 ⟨rfl, rfl⟩) fun b s9 g9 => ?_
      obtain ⟨H9, I9, rfl, rfl⟩ := g9
      simp only [if_true]
      refine thnF (k4.run _ s9 σ8 H9 _ I9 q8) fun yv s10 g10 => ?_
      obtain ⟨y, H10, I10, r10, q10⟩ := g10
      refine thnF (v4.run _ s10 σ8 H10 _ I10 q10) fun zv s11 g11 => ?_
      obtain ⟨z, H11, I11, r11, H12, hp, hz⟩ := g11
      refine put_in (X := X.blk { s2 with heap := h3 } H3 sc env fp) hu I11 hp r10 r11 fun s12 I12 => ?_
      -- the turn's end
      obtain ⟨m', hm, w'⟩ := hZ H12 hz
      have pin : ∀ b ∈ fp, ∀ o, s7.heap.get? b = some o → s12.heap.get? b = some o ∧ H12 b = none := fun b hb o e =>
        have z := I12.pin (b, o) (List.mem_append_right _ (List.mem_append_right _ (mem_pinsAt hb e)))
        ⟨z.1, z.2.1⟩
      have len : (wipe σ (own.map (·.2))).length = σ8.length := by rw [← w8, wipe_length]
      refine ⟨m', hm, i + 1, H12, (I12.unpinned (pins := [])).weak len (fun j v e => (wipe_some (w8.symm ▸ e)).1), T.keep _ _ _ t7 fun b hb o e => (pin b hb o e).1, fun b hb => ?_, w'⟩
      obtain ⟨o, e, _⟩ := T.obj _ _ t7 b hb
      exact (pin b hb o e).2
  exact codeAny_compStart_dict loop (T.self X.A 0 _ _ _ t4 loop)
/-- {..} as a value -/
theorem pe_dict {ke ve tg src : Expr} {sc : Scope} {own : List (Str × Nat)} {p0 : Pos} {wi : TI} {g : TG} {tk tv : TE} (em : HO) (hem : em = .dK [] ∨ em = .dT []) (hu : X.A.units < cLine) (hc : X.calm = true) (hN : X.N.Nodup) (hi : PI X tg src wi) (ok : BlkOk X.N X.env.scope sc own)
    (hg : InBlk X sc fun Y => PG Y tg g) (hk : InBlk X sc fun Y => PE Y ke tk) (hv : InBlk X sc fun Y => PE Y ve tv) (hs : ∀ x, foldedSetIterable src X.env x = pure x := by intro _; rfl) : PE X (.DictComp ke ve [⟨tg, src, [], 0⟩] sc p0) (tDG em wi g tk tv (own.map (·.2))) := by
  constructor
  intro pins s σ H Q I h
  rw [arm_eval_DictComp]
  refine run_dc hem hu hc hN I hi ok hg hk hv hs h fun D C s' m H' I' q hn f => ⟨m, hn, fun h'' sb => ?_⟩
  obtain ⟨a0, a1, a2, a3, a4, a5⟩ := f
  exact ⟨.ref D, H', I'.turned (t' := s'.toks) (fun b o ne e => (sb.2 b ne).trans e) a0 a1 a3 a4 a5, rfl, q⟩
/-- x = {..}, x a local -/
theorem ps_setD {i : Nat} {y : Str} {py : Pos} {ke ve tg src : Expr} {sc : Scope} {own : List (Str × Nat)} {p0 sp : Pos} {wi : TI} {g : TG} {tk tv : TE} (em : HO) (hem : em = .dK [] ∨ em = .dT []) (hu : X.A.units < cLine) (hc : X.calm = true) (hN : X.N.Nodup) (hy : X.N[i]? = some y) (hyl : X.env.scope.names.lookup y = some .local)
    (sw : swapsWith (.DictComp ke ve [⟨tg, src, [], 0⟩] sc p0) (some (.Name y py)) sp.line X.env = pure true) (hi : PI X tg src wi) (ok : BlkOk X.N X.env.scope sc own) (hg : InBlk X sc fun Y => PG Y tg g) (hk : InBlk X sc fun Y => PE Y ke tk) (hv : InBlk X sc fun Y => PE Y ve tv)
    (hs : ∀ x, foldedSetIterable src X.env x = pure x := by intro _; rfl) : PS X (.Assign [.Name y py] (.DictComp ke ve [⟨tg, src, [], 0⟩] sc p0) sp) (tAsg (tDG em wi g tk tv (own.map (·.2))) (gName i)) := by
  constructor
  intro pins s σ H D I h
  rw [exec_Assign_Name_used _ _ _ _ sw]
  refine wpAny_bind (wpAny_standAt (wpAny_bind ?_))
  show wpAny _ X.A (do let _ ← comprehension (.DictComp ke ve [⟨tg, src, [], 0⟩] sc p0) sc X.env (firstIterPos [⟨tg, src, [], 0⟩] p0) newDict false (eval src X.env) (some (assign (.Name y py) X.env))) _ _ s
  refine wpAny_bind (thn (run_dc (F := fun _ s' => SP X pins D .next s') (Q := fun x H1 => gName i x σ H1 D.nx) hem hu hc hN I hi ok hg hk hv hs h fun L C s' m H' I' q hn f => ?_) fun _ s' hq => wpAny_pure (wpAny_pure hq))
  show wpAny _ _ (assign (.Name y py) X.env (.ref L)) _ _ _
  refine wpAny_assign_Name (store_ok2 (v := V.ref L) I' hN hy (Or.inl hyl) rfl (fun s2 I2 g2 => ?_) (Or.inr hyl))
  obtain ⟨a, sb, ha⟩ := g2
  obtain ⟨a0, a1, a2, a3, a4, a5⟩ := f
  have ne : C ≠ a := by
    rcases ha with z | z
    · rw [z]; exact a1
    · exact fun e => a4 y a z e.symm
  exact ⟨m, hn.sameBut sb ne, fun h3 sb3 => ⟨_, H', I2.turned (t' := s2.toks) (fun b o nb e => (sb3.2 b nb).trans e) a0 a1 a3 a4 a5, q⟩⟩
theorem sw_dict {ke ve : Expr} {gs : List Comprehension} {sc : Scope} {p0 py : Pos} {y : Str} {l : Nat} {env : Env} (hk : env.scope.kind = .function) (hy : env.scope.names.lookup y = some .local) (hl : (py.line == p0.line) = true)
    (ha : (sc.names.any fun (n, k) => n == y && (k == .local || k == .cell)) = false) : swapsWith (.DictComp ke ve gs sc p0) (some (.Name y py)) l env = pure true := by
  have k1 : env.kindOf y = some .local := hy
  have k2 : env.blockKind = .function := by unfold Env.blockKind; rw [hk]; rfl
  unfold swapsWith
  simp only [k2, k1, ha, Expr.pos, hl]
  rfl
end
end ACD
end
section
set_option maxRecDepth 100000
/-! The walk: dicts of numbers; games. -/
namespace AC
open PySem PySem.Spec PyProof.Rows L2 ACD
variable {K : PySem.W.Frag}
/-- a dict with int keys in order, its values -/
def pDic (ks : List Key) (Ps : List VP) : VP := fun v H => ∃ d kvs, v = .ref d ∧ H d = some (.dK kvs) ∧ kvs.map (·.1) = ks ∧ Al H (kvs.map (·.2)) Ps
theorem mono_dic {ks : List Key} {Ps : List VP} (h : ∀ P ∈ Ps, Stay P) : Mono (pDic ks Ps) := fun v H H' e ⟨d, kvs, a, b, c, al⟩ =>
  ⟨d, kvs, a, e _ _ b, c, al.imp fun P hP v hv => h P hP v H H' (Same.stb e) hv⟩
theorem val_get {κ : Type} [DecidableEq κ] : ∀ {kvs : List (κ × V)} {i : Nat} {k : κ} {v : V}, (kvs.map (·.1)).Nodup → (kvs.map (·.1))[i]? = some k → (kvs.map (·.2))[i]? = some v → valV kvs k = some v
  | [], i, _, _, _, h, _ => by simp at h
  | p :: r, 0, k, v, _, h1, h2 => by
    simp at h1 h2
    rw [valV_pos h1, h2]
  | p :: r, i + 1, k, v, nd, h1, h2 => by
    simp only [List.map_cons, List.nodup_cons, List.getElem?_cons_succ] at nd h1 h2
    rw [valV_neg, val_get nd.2 h1 h2]
    intro e
    exact nd.1 (by rw [e]; exact List.mem_of_getElem? h1)
theorem val_none {κ : Type} [DecidableEq κ] : ∀ {kvs : List (κ × V)} {k : κ}, k ∉ kvs.map (·.1) → valV kvs k = none
  | [], _, _ => rfl
  | p :: r, k, h => by
    simp only [List.map_cons, List.mem_cons, not_or] at h
    rw [valV_neg (fun e => h.1 e.symm), val_none h.2]
theorem dic_get {ks : List Key} {Ps : List VP} {v : V} {H : Hp} (h : pDic ks Ps v H) (nd : ks.Nodup) {i : Nat} {k : Key} {P : VP} (hk : ks[i]? = some k) (hP : Ps[i]? = some P) : ∃ d x, v = .ref d ∧ DGet H d (kV k) (some x) ∧ P x H := by
  obtain ⟨d, kvs, e, hd, hks, al⟩ := h
  obtain ⟨x, hx, px⟩ := al.get hP
  refine ⟨d, x, e, ?_, px⟩
  rw [← val_get (kvs := kvs) (i := i) (by rw [hks]; exact nd) (by rw [hks]; exact hk) hx]
  exact DGet.k hd
theorem dic_none {ks : List Key} {Ps : List VP} {v : V} {H : Hp} (h : pDic ks Ps v H) {k : Key} (hk : k ∉ ks) : ∃ d, v = .ref d ∧ DGet H d (kV k) none := by
  obtain ⟨d, kvs, e, hd, hks, al⟩ := h
  refine ⟨d, e, ?_⟩
  rw [← val_none (kvs := kvs) (k := k) (by rw [hks]; exact hk)]
  exact DGet.k hd
section
variable {σ : L2.St} {H : Hp} {td ty tx tk tv : TE}
theorem ev_dget {ks : List Key} {Ps : List VP} {i : Nat} {k : Key} {P : VP} (hd : Ev td σ H (pDic ks Ps)) (hy : Ev ty σ H (pIs (kV k))) (nd : ks.Nodup) (hk : ks[i]? = some k) (hP : Ps[i]? = some P) (st : ∀ P ∈ Ps, Stay P) : Ev (tDGet td ty) σ H P := fun H1 e Q q =>
  hd H1 e _ fun v H2 s2 p => hy H2 (e.trans s2) _ fun w H3 s3 pw => by
    obtain ⟨d, x, e1, g, px⟩ := dic_get (mono_dic st _ _ _ s3 p) nd hk hP
    obtain rfl : w = kV k := pw
    exact ⟨d, x, e1, g, q x H3 (s2.trans s3) px⟩
theorem ev_din {ks : List Key} {Ps : List VP} {k : Key} (hy : Ev ty σ H (pIs (kV k))) (hd : Ev td σ H (pDic ks Ps)) (nd : ks.Nodup) {b : Bool} (hb : b = true ↔ k ∈ ks) : Ev (tDIn ty td) σ H (pBl b) := fun H1 e Q q =>
  hy H1 e _ fun w H2 s2 pw => hd H2 (e.trans s2) _ fun v H3 s3 p => by
    obtain rfl : w = kV k := pw
    by_cases h : k ∈ ks
    · obtain ⟨i, hi, e1⟩ := List.getElem_of_mem h
      obtain ⟨d, kvs, e2, hd, hks, al⟩ := id p
      obtain ⟨P, hP⟩ := get_of_lt (l := Ps) (i := i) (by
        have := al.len
        rw [List.length_map] at this
        rw [← this, ← List.length_map (f := (·.1)), hks]; exact hi)
      obtain ⟨d, x, e3, g, _⟩ := dic_get p nd (List.getElem?_eq_some_iff.mpr ⟨hi, e1⟩) hP
      exact ⟨d, _, e3, g, q _ H3 (s2.trans s3) (by rw [hb.mpr h]; rfl)⟩
    · obtain ⟨d, e3, g⟩ := dic_none p h
      exact ⟨d, _, e3, g, q _ H3 (s2.trans s3) (by rw [show b = false by cases b with | false => rfl | true => exact absurd (hb.mp rfl) h]; rfl)⟩
theorem ev_dnotin {ks : List Key} {Ps : List VP} {k : Key} (hy : Ev ty σ H (pIs (kV k))) (hd : Ev td σ H (pDic ks Ps)) (nd : ks.Nodup) {b : Bool} (hb : b = true ↔ k ∈ ks) : Ev (tDNotIn ty td) σ H (pBl (!b)) := fun H1 e Q q =>
  hy H1 e _ fun w H2 s2 pw => hd H2 (e.trans s2) _ fun v H3 s3 p => by
    obtain rfl : w = kV k := pw
    by_cases h : k ∈ ks
    · obtain ⟨i, hi, e1⟩ := List.getElem_of_mem h
      obtain ⟨d, kvs, e2, hd, hks, al⟩ := id p
      obtain ⟨P, hP⟩ := get_of_lt (l := Ps) (i := i) (by
        have := al.len
        rw [List.length_map] at this
        rw [← this, ← List.length_map (f := (·.1)), hks]; exact hi)
      obtain ⟨d, x, e3, g, _⟩ := dic_get p nd (List.getElem?_eq_some_iff.mpr ⟨hi, e1⟩) hP
      exact ⟨d, _, e3, g, q _ H3 (s2.trans s3) (by rw [hb.mpr h]; rfl)⟩
    · obtain ⟨d, e3, g⟩ := dic_none p h
      exact ⟨d, _, e3, g, q _ H3 (s2.trans s3) (by rw [show b = false by cases b with | false => rfl | true => exact absurd (hb.mp rfl) h]; rfl)⟩
/-- d.get(k, x) -/
theorem ev_dget2 {ks : List Key} {Ps : List VP} {k : Key} {P P0 : VP} (hd : Ev td σ H (pDic ks Ps)) (hy : Ev ty σ H (pIs (kV k))) (hx : Ev tx σ H P0) (nd : ks.Nodup) (st : ∀ P ∈ Ps, Stay P) (hin : ∀ (i : Nat) (P' : VP) (v : V) (H' : Hp), ks[i]? = some k → Ps[i]? = some P' → P' v H' → P v H') (hout : k ∉ ks → ∀ (v : V) (H' : Hp), P0 v H' → P v H') : Ev (tDGet2 td ty tx) σ H P := fun H1 e Q q =>
  hd H1 e _ fun v H2 s2 p => by
    obtain ⟨d, kvs, e2, hd2, hks, al⟩ := id p
    refine ⟨d, e2, ?_, hy H2 (e.trans s2) _ fun w H3 s3 pw => hx H3 (e.trans (s2.trans s3)) _ fun z H4 s4 pz => ?_⟩
    · exact .inl ⟨kvs, .inl hd2⟩
    · obtain rfl : w = kV k := pw
      have p4 := mono_dic st _ _ _ (s3.trans s4) p
      have s24 := s2.trans (s3.trans s4)
      by_cases h : k ∈ ks
      · obtain ⟨i, hi, e1⟩ := List.getElem_of_mem h
        obtain ⟨P', hP⟩ := get_of_lt (l := Ps) (i := i) (by
          have := al.len
          rw [List.length_map] at this
          rw [← this, ← List.length_map (f := (·.1)), hks]; exact hi)
        have hk := List.getElem?_eq_some_iff.mpr ⟨hi, e1⟩
        obtain ⟨d', x, e3, g, px⟩ := dic_get p4 nd hk hP
        rw [e2] at e3
        cases e3
        exact ⟨_, g, q x H4 s24 (hin i P' x H4 hk hP px)⟩
      · obtain ⟨d', e3, g⟩ := dic_none p4 h
        rw [e2] at e3
        cases e3
        exact ⟨_, g, q z H4 s24 (hout h z H4 pz)⟩
/-- {tk: tv for i0 in range(n)}, keys numbers -/
theorem ev_dcR {wi : TI} {i0 n : Nat} {ks : List Key} {Ps : List VP} (hw : ∀ H1, Same H H1 → ∀ R : It → Hp → Prop, (∀ H2, Same H1 H2 → R (Itr 0 n) H2) → wi σ H1 R) (hk : ks.length = n) (hlen : Ps.length = n) (nd : ks.Nodup) (st : ∀ R ∈ Ps, Stay R) (hle : n ≤ 1000)
    (he : ∀ (j : Nat) (k : Key) (R : VP) (H' : Hp), ks[j]? = some k → Ps[j]? = some R → Same H H' → Ev tk ((wipe σ [i0]).set i0 (some (.int (0 + (j : Nat))))) H' (pIs (kV k)) ∧ Ev tv ((wipe σ [i0]).set i0 (some (.int (0 + (j : Nat))))) H' R) : Ev (tDG (.dK []) wi (gName i0) tk tv [i0]) σ H (pDic ks Ps) := fun H1 e Q q => by
  refine hw H1 e _ fun H2 s2 D hD => ?_
  have hDH1 : H1 D = none := Same.free s2 hD
  refine ⟨fun i m H3 => m = n - i ∧ i ≤ n ∧ Same H1 H3 ∧ ∃ kvs, H3 D = some (.dK kvs) ∧ kvs.map (·.1) = ks.take i ∧ Al H3 (kvs.map (·.2)) (Ps.take i), ⟨n, by simp, Nat.zero_le _, s2.trans (Same.new hD), [], upd_same, by simp, by simp; exact .nil⟩, ?_⟩
  rintro i m H3 ⟨rfl, hi, s3, kvs, hd3, hks, al⟩
  by_cases hlt : i < n
  · obtain ⟨k, hk1⟩ := get_of_lt (l := ks) (i := i) (by omega)
    obtain ⟨R, hR⟩ := get_of_lt (l := Ps) (i := i) (by omega)
    refine .inr ⟨hlt, fun H' => i + 1 ≤ n ∧ Same H1 H' ∧ ∃ kvs, H' D = some (.dK kvs) ∧ kvs.map (·.1) = ks.take (i + 1) ∧ Al H' (kvs.map (·.2)) (Ps.take (i + 1)), fun H' p' => ⟨n - (i + 1), by omega, rfl, p'⟩, fun x H' y => ?_⟩
    obtain ⟨ey, ex⟩ := y
    rw [ey, ex]
    refine ⟨wipe1 _ _ _, ?_⟩
    obtain ⟨e1, _⟩ := he i k R H3 hk1 hR (e.trans s3)
    refine e1 H3 (Same.refl H3) _ fun w H4 s4 pw => ?_
    obtain rfl : w = kV k := pw
    obtain ⟨_, e2⟩ := he i k R H4 hk1 hR (e.trans (s3.trans s4))
    refine e2 H4 (Same.refl H4) _ fun z H5 s5 pz => ?_
    have hd5 := s5 _ _ (s4 _ _ hd3)
    have lk : kvs.length = i := by
      have := congrArg List.length hks
      rw [List.length_map, List.length_take] at this
      omega
    have hn : valV kvs k = none := val_none (by
      rw [hks]
      intro hm
      obtain ⟨j, hj, ej⟩ := List.getElem_of_mem hm
      rw [List.length_take] at hj
      have : ks[j]? = some k := by
        rw [List.getElem_take] at ej
        exact List.getElem?_eq_some_iff.mpr ⟨by omega, ej⟩
      have := nd_inj nd this hk1
      omega)
    refine ⟨_, DPut.k hd5 (small1000 (by omega)), by omega, Same.upd (s3.trans (s4.trans s5)) hDH1, _, upd_same, ?_, ?_⟩
    · rw [putK_new z hn, List.map_append, hks, take_succ hk1]; rfl
    · rw [putK_new z hn, List.map_append, take_succ hR]
      have stb : Stb H5 (upd H5 D (.dK (kvs ++ [(k, z)]))) := Stb.wr hd5 rfl
      exact (al.imp fun P hP v hv => st P (List.mem_of_mem_take hP) v _ _ ((Same.stb (s4.trans s5)).trans stb) hv).app (.one (st R (List.mem_of_getElem? hR) z _ _ stb pz))
  · have ei : i = n := by omega
    subst ei
    refine .inl ⟨Nat.le_refl _, q _ H3 s3 ⟨D, kvs, rfl, hd3, ?_, ?_⟩⟩
    · rw [hks, ← hk, List.take_length]
    · rw [← hlen, List.take_length] at al
      exact al
end

/-! ### tuples of numbers that are tracked; dicts with such keys -/
def jK (u : List Nat) : List Key := u.map fun n : Nat => Sum.inl (n : Int)
def jV (u : List Nat) : List V := u.map fun n : Nat => V.int (n : Int)
theorem jK_V (u : List Nat) : (jK u).map kV = jV u := by unfold jK jV; rw [List.map_map]; rfl
theorem jK_inj : ∀ {u w : List Nat}, jK u = jK w → u = w
  | [], [], _ => rfl
  | [], _ :: _, h => by simp [jK] at h
  | _ :: _, [], h => by simp [jK] at h
  | a :: u, b :: w, h => by
    simp only [jK, List.map_cons, List.cons.injEq] at h
    obtain ⟨h1, h2⟩ := h
    have := Sum.inl.inj h1
    rw [jK_inj (u := u) (w := w) h2, show a = b by omega]
def pJ (u : List Nat) : VP := fun v H => ∃ p, v = .ref p ∧ H p = some (.tup (jV u))
theorem st_J {u : List Nat} : Stay (pJ u) := fun v H H' e ⟨p, a, b⟩ => ⟨p, a, e _ _ b rfl⟩
theorem pJ.tup {u : List Nat} {v : V} {H : Hp} (h : pJ u v H) : pTup K (u.map fun n : Nat => pInt (n : Int)) v H := by
  obtain ⟨p, e, hp⟩ := h
  refine ⟨p, _, e, .of hp, ?_⟩
  unfold jV
  induction u with
  | nil => exact .nil
  | cons x u ih => exact .cons rfl (by
      clear ih e hp
      induction u with
      | nil => exact .nil
      | cons y u ih => exact .cons rfl ih)
def pDicT (us : List (List Nat)) (Ps : List VP) : VP := fun v H => ∃ d kvs, v = .ref d ∧ H d = some (.dT kvs) ∧ kvs.map (·.1) = us.map jK ∧ Al H (kvs.map (·.2)) Ps
theorem mono_dicT {us : List (List Nat)} {Ps : List VP} (h : ∀ P ∈ Ps, Stay P) : Mono (pDicT us Ps) := fun v H H' e ⟨d, kvs, a, b, c, al⟩ =>
  ⟨d, kvs, a, e _ _ b, c, al.imp fun P hP v hv => h P hP v H H' (Same.stb e) hv⟩
theorem jK_nd {us : List (List Nat)} (h : us.Nodup) : (us.map jK).Nodup := by
  unfold List.Nodup
  rw [List.pairwise_map]
  exact h.imp fun ne e => ne (jK_inj e)
section
variable {σ : L2.St} {H : Hp} {td ty tk tv : TE}
theorem ev_dgetT {us : List (List Nat)} {Ps : List VP} {i : Nat} {u : List Nat} {P : VP} (hd : Ev td σ H (pDicT us Ps)) (hy : Ev ty σ H (pJ u)) (nd : us.Nodup) (hk : us[i]? = some u) (hP : Ps[i]? = some P) (st : ∀ P ∈ Ps, Stay P) : Ev (tDGet td ty) σ H P := fun H1 e Q q =>
  hd H1 e _ fun v H2 s2 p => hy H2 (e.trans s2) _ fun w H3 s3 pw => by
    obtain ⟨d, kvs, e1, hd3, hks, al⟩ := mono_dicT st _ _ _ s3 p
    obtain ⟨b, eb, hb⟩ := pw
    obtain ⟨x, hx, px⟩ := al.get hP
    refine ⟨d, x, e1, ?_, q x H3 (s2.trans s3) px⟩
    rw [eb, ← val_get (kvs := kvs) (i := i) (k := jK u) (by rw [hks]; exact jK_nd nd) (by rw [hks]; exact map_get hk) hx]
    exact DGet.t hd3 (by rw [jK_V]; exact hb)
/-- {tk: tv for i0 in range(n)}, keys tuples of numbers -/
theorem ev_dcRT {wi : TI} {i0 n : Nat} {us : List (List Nat)} {Ps : List VP} (hw : ∀ H1, Same H H1 → ∀ R : It → Hp → Prop, (∀ H2, Same H1 H2 → R (Itr 0 n) H2) → wi σ H1 R) (hk : us.length = n) (hlen : Ps.length = n) (nd : us.Nodup) (st : ∀ R ∈ Ps, Stay R) (hle : n ≤ 1000)
    (he : ∀ (j : Nat) (u : List Nat) (R : VP) (H' : Hp), us[j]? = some u → Ps[j]? = some R → Same H H' → Ev tk ((wipe σ [i0]).set i0 (some (.int (0 + (j : Nat))))) H' (pJ u) ∧ Ev tv ((wipe σ [i0]).set i0 (some (.int (0 + (j : Nat))))) H' R) : Ev (tDG (.dT []) wi (gName i0) tk tv [i0]) σ H (pDicT us Ps) := fun H1 e Q q => by
  refine hw H1 e _ fun H2 s2 D hD => ?_
  have hDH1 : H1 D = none := Same.free s2 hD
  refine ⟨fun i m H3 => m = n - i ∧ i ≤ n ∧ Same H1 H3 ∧ ∃ kvs, H3 D = some (.dT kvs) ∧ kvs.map (·.1) = (us.map jK).take i ∧ Al H3 (kvs.map (·.2)) (Ps.take i), ⟨n, by simp, Nat.zero_le _, s2.trans (Same.new hD), [], upd_same, by simp, by simp; exact .nil⟩, ?_⟩
  rintro i m H3 ⟨rfl, hi, s3, kvs, hd3, hks, al⟩
  by_cases hlt : i < n
  · obtain ⟨u, hu1⟩ := get_of_lt (l := us) (i := i) (by omega)
    have hk1 : (us.map jK)[i]? = some (jK u) := map_get hu1
    obtain ⟨R, hR⟩ := get_of_lt (l := Ps) (i := i) (by omega)
    refine .inr ⟨hlt, fun H' => i + 1 ≤ n ∧ Same H1 H' ∧ ∃ kvs, H' D = some (.dT kvs) ∧ kvs.map (·.1) = (us.map jK).take (i + 1) ∧ Al H' (kvs.map (·.2)) (Ps.take (i + 1)), fun H' p' => ⟨n - (i + 1), by omega, rfl, p'⟩, fun x H' y => ?_⟩
    obtain ⟨ey, ex⟩ := y
    rw [ey, ex]
    refine ⟨wipe1 _ _ _, ?_⟩
    obtain ⟨e1, _⟩ := he i u R H3 hu1 hR (e.trans s3)
    refine e1 H3 (Same.refl H3) _ fun w H4 s4 pw => ?_
    obtain ⟨_, e2⟩ := he i u R H4 hu1 hR (e.trans (s3.trans s4))
    refine e2 H4 (Same.refl H4) _ fun z H5 s5 pz => ?_
    obtain ⟨b, rfl, hb⟩ := pw
    have hd5 := s5 _ _ (s4 _ _ hd3)
    have lk : kvs.length = i := by
      have := congrArg List.length hks
      rw [List.length_map, List.length_take, List.length_map] at this
      omega
    have hn : valV kvs (jK u) = none := val_none (by
      rw [hks]
      intro hm
      obtain ⟨j, hj, ej⟩ := List.getElem_of_mem hm
      rw [List.length_take] at hj
      have : (us.map jK)[j]? = some (jK u) := by
        rw [List.getElem_take] at ej
        exact List.getElem?_eq_some_iff.mpr ⟨by omega, ej⟩
      have := nd_inj (jK_nd nd) this hk1
      omega)
    refine ⟨_, DPut.t hd5 (k := jK u) (by rw [jK_V]; exact s5 _ _ hb) (small1000 (by omega)), by omega, Same.upd (s3.trans (s4.trans s5)) hDH1, _, upd_same, ?_, ?_⟩
    · rw [putK_new z hn, List.map_append, hks, take_succ hk1]; rfl
    · rw [putK_new z hn, List.map_append, take_succ hR]
      have stb : Stb H5 (upd H5 D (.dT (kvs ++ [(jK u, z)]))) := Stb.wr hd5 rfl
      exact (al.imp fun P hP v hv => st P (List.mem_of_mem_take hP) v _ _ ((Same.stb (s4.trans s5)).trans stb) hv).app (.one (st R (List.mem_of_getElem? hR) z _ _ stb pz))
  · have ei : i = n := by omega
    subst ei
    refine .inl ⟨Nat.le_refl _, q _ H3 s3 ⟨D, kvs, rfl, hd3, ?_, ?_⟩⟩
    · rw [hks, ← hk, ← List.length_map (f := jK), List.take_length]
    · rw [← hlen, List.take_length] at al
      exact al
end
end AC
end
section
set_option maxRecDepth 100000
/-! The walk: leaving a set of states. -/
namespace AC
open PySem PySem.Spec PyProof.Rows L2 ACD
variable {K : PySem.W.Frag}
/-- a pair (target, probability) | a row of moves | a game -/
def pTP (K : PySem.W.Frag) (tp : Nat × Rat) : VP := pTup K [pInt tp.1, pR K tp.2]
def pMov (K : PySem.W.Frag) (row : List (Nat × Rat)) : VP := pTup K (row.map (pTP K))
def pGame (K : PySem.W.Frag) (g : Game) : VP := pTup K [pTup K (g.rew.map (pR K)), pTup K (g.mov.map (pMov K))]
def pNats (K : PySem.W.Frag) (C : List Nat) : VP := pTup K (C.map fun s : Nat => pInt (s : Int))
theorem st_tp {tp : Nat × Rat} : Stay (pTP K tp) := stay_tup (stay_cons stay_int (stay_cons stay_R stay_nil))
theorem st_mov {row : List (Nat × Rat)} : Stay (pMov K row) := stay_tup (stay_map fun _ => st_tp)
theorem st_game {g : Game} : Stay (pGame K g) := stay_tup (stay_cons (stay_tup (stay_rs _)) (stay_cons (stay_tup (stay_map fun _ => st_mov)) stay_nil))
theorem st_ints (C : List Nat) : ∀ P ∈ C.map (fun s : Nat => pInt (s : Int)), Stay P := stay_map fun _ => stay_int
theorem st_nats {C : List Nat} : Stay (pNats K C) := stay_tup (st_ints C)
theorem st_gparts (g : Game) : ∀ P ∈ [pTup K (g.rew.map (pR K)), pTup K (g.mov.map (pMov K))], Stay P := stay_cons (stay_tup (stay_rs _)) (stay_cons (stay_tup (stay_map fun _ => st_mov)) stay_nil)
structure LvA where
  g : Game
  C : List Nat
  b : Rat
structure LvOk (a : LvA) : Prop where
  nd : a.C.Nodup
  le : a.C.length ≤ 50
  lt : ∀ s ∈ a.C, s < a.g.n
  len : a.g.mov.length = a.g.n
  small : Small (LS a.g a.b a.C)
  s1 : ∀ s ∈ a.C, ∀ tp ∈ a.g.row s, Ok (a.b * tp.2)
  s2 : ∀ s ∈ a.C, ∀ t j, Ok (un (a.C.idxOf s) j - a.b * ex ((a.g.row s).take t) (ind (a.C.getD j 0)))
  s3 : ∀ s ∈ a.C, ∀ t, Ok (a.b * ex ((a.g.row s).take t) (out a.C))
def spLv (K : PySem.W.Frag) : Sp := Spc (fun a : LvA => [pGame K a.g, pNats K a.C, pR K a.b]) LvOk fun a => pMat K a.C.length 2 (solA (LS a.g a.b a.C))
theorem ex_take {row : List (Nat × Rat)} {t : Nat} {tp : Nat × Rat} (h : row[t]? = some tp) (f : Nat → Rat) : ex (row.take (t + 1)) f = ex (row.take t) f + tp.2 * f tp.1 := by
  rw [take_succ h]
  generalize row.take t = l
  induction l with
  | nil => simp only [List.nil_append, ex]; grind
  | cons z r ih => simp only [List.cons_append, ex, ih]; grind
theorem game_rew {g : Game} {s : Nat} (h : s < g.n) : g.rew[s]? = some (g.r s) := by
  unfold Game.r Game.n at *
  rw [List.getD_eq_getElem?_getD, List.getElem?_eq_getElem h]; rfl
theorem game_row {g : Game} {s : Nat} (h : s < g.mov.length) : g.mov[s]? = some (g.row s) := by
  unfold Game.row
  rw [List.getD_eq_getElem?_getD, List.getElem?_eq_getElem h]; rfl
def keysOf (C : List Nat) : List Key := C.map fun s : Nat => Sum.inl (s : Int)
theorem keys_nd {C : List Nat} (h : C.Nodup) : (keysOf C).Nodup := by
  unfold keysOf List.Nodup
  rw [List.pairwise_map]
  exact h.imp fun ne e => ne (by have := Sum.inl.inj e; omega)
theorem key_mem {C : List Nat} {t : Nat} : (Sum.inl (t : Int) : Key) ∈ keysOf C ↔ t ∈ C := by
  unfold keysOf
  constructor
  · intro h
    obtain ⟨s, hs, e⟩ := List.mem_map.mp h
    have := Sum.inl.inj e
    rw [show t = s by omega]; exact hs
  · intro h
    exact List.mem_map.mpr ⟨t, h, rfl⟩
theorem sc22 : FnScope ["game", "inside", "discount", "rewards", "moves", "columns", "matrix", "right", "state", "row", "leaving", "target", "probability", "share", "at", "k"] ["game", "inside", "discount"] (defScope (topS 22)) := ⟨rfl, rfl, rfl, by decide +kernel, rfl, by decide +kernel, by decide +kernel⟩
section
variable {P : Program} {w : World} {mg : Str → Option Value} {base : Heap}
set_option maxHeartbeats 4000000 in
theorem d_leave_values (g : Got K mg "leave_values" 22 ["game", "inside", "discount"]) (m_range : mg "range" = none) (m_len : mg "len" = none) (m_tuple : mg "tuple" = none) {z_ZERO_leaving z_ONE_leaving : Addr} (m_ZERO_leaving : mg "ZERO_leaving" = some (.ref z_ZERO_leaving)) (m_ONE_leaving : mg "ONE_leaving" = some (.ref z_ONE_leaving)) (Z0 : ∀ H, pR K 0 (.ref z_ZERO_leaving) H) (Z1 : ∀ H, pR K 1 (.ref z_ONE_leaving) H)
    (D_solve : DefOk P w K mg base 5 "solve" ["matrix", "right"] (spSolve K)) (D_multiply : DefOk P w K mg base 3 "multiply" ["a", "b"] (spR2 K fun x y => x * y)) (D_subtract : DefOk P w K mg base 3 "subtract" ["a", "b"] (spR2 K fun x y => x - y)) (D_add : DefOk P w K mg base 3 "add" ["a", "b"] (spR2 K fun x y => x + y)) :
    DefOk P w K mg base 6 "leave_values" ["game", "inside", "discount"] (spLv K) := by
  refine def_of g sc22 (fun _ => rfl) fun fa cdv A outer s H vs Q E a hr sd al q => ?_
  obtain ⟨g, C, b⟩ := a
  obtain ⟨nd, le, lt, len, small, q1, q2, q3⟩ := sd
  simp only at nd le lt len small q1 q2 q3
  cases al with | cons h1 al => cases al with | cons h2 al => cases al with | cons h3 al => cases al with | nil =>
  rename_i v1 v2 v3
  refine ⟨_, (pss_cons (ps_asg (pv 0) (pg_tup rfl (pgs_cons (pg_name (i := 3) sc22.nd rfl (.inl rfl)) (pgs_cons (pg_name (i := 4) sc22.nd rfl (.inl rfl)) pgs_nil))))
    (pss_cons (ps_setD (i := 5) (own := [("k", 15)]) (.dK []) (.inl rfl) hr.units0 rfl sc22.nd rfl rfl (sw_dict rfl rfl rfl (by decide +kernel)) (pi_range1 rfl m_range (pa_cons (pe_callB call_len_seq (by rfl) m_len PySem.boot_len (pa_cons (pv 1) pa_nil)) pa_nil)) (blkOk_by (N := ["game", "inside", "discount", "rewards", "moves", "columns", "matrix", "right", "state", "row", "leaving", "target", "probability", "share", "at", "k"]) (sc := defScope (topS 22)) (by decide +kernel)) (fun _ _ _ _ _ => (pg_name (i := 15) sc22.nd rfl (Or.inl rfl))) (fun _ _ _ _ _ => (pe_ixT (K := K) rfl (pv 1) (pv 15) (fun _ _ => rfl))) (fun _ _ _ _ _ => (pv 15)))
    (pss_cons (ps_set (i := 6) sc22.nd rfl (.inl rfl) (pe_lst pa_nil))
    (pss_cons (ps_set (i := 7) sc22.nd rfl (.inl rfl) (pe_lst pa_nil))
    (pss_cons (ps_for PassesOwn.never rfl (pi_tup (pv 1)) (pg_name (i := 8) sc22.nd rfl (.inl rfl))
    (pss_cons (ps_set (i := 9) sc22.nd rfl (.inl rfl) (pe_op op_rep (pe_lst (pa_cons (pe_glob (v := .ref z_ZERO_leaving) rfl m_ZERO_leaving rfl) pa_nil)) (pe_callB call_len_seq (by rfl) m_len PySem.boot_len (pa_cons (pv 1) pa_nil))))
    (pss_cons (ps_asg (pe_glob (v := .ref z_ONE_leaving) rfl m_ONE_leaving rfl) (pg_sub (pv 9) (pe_dget (hu_of hr) (pv 5) (pv 8) (fun _ _ => rfl)) set_list))
    (pss_cons (ps_set (i := 10) sc22.nd rfl (.inl rfl) (pe_glob (v := .ref z_ZERO_leaving) rfl m_ZERO_leaving rfl))
    (pss_cons (ps_for PassesOwn.never rfl (pi_tup (pe_ix ix_tup (pv 4) (pv 8) (fun _ _ => rfl))) (pg_tup rfl (pgs_cons (pg_name (i := 11) sc22.nd rfl (.inl rfl)) (pgs_cons (pg_name (i := 12) sc22.nd rfl (.inl rfl)) pgs_nil)))
    (pss_cons (ps_set (i := 13) sc22.nd rfl (.inl rfl) (pe_callD D_multiply (hr.mono (by decide)) (by rfl) (pa_cons (pv 2) (pa_cons (pv 12) pa_nil))))
    (pss_one (ps_if (pt_cmp (pc_din (hu_of hr) (pv 11) (pv 5))) (pss_cons (ps_set (i := 14) sc22.nd rfl (.inl rfl) (pe_dget (hu_of hr) (pv 5) (pv 11) (fun _ _ => rfl)))
    (pss_one (ps_asg (pe_callD D_subtract (hr.mono (by decide)) (by rfl) (pa_cons (pe_ix ix_list (pv 9) (pv 14) (fun _ _ => rfl)) (pa_cons (pv 13) pa_nil))) (pg_sub (pv 9) (pv 14) set_list)))) (pss_one (ps_set (i := 10) sc22.nd rfl (.inl rfl) (pe_callD D_add (hr.mono (by decide)) (by rfl) (pa_cons (pv 10) (pa_cons (pv 13) pa_nil)))))))))
    (pss_cons (ps_expr (pe_bm PySem.F.plainAttrs_list PySem.F.slot_list_append PySem.F.type_list_append mt_append (pv 6) (pa_cons (pe_callTy call_tuple_of (by rfl) m_tuple (by decide +kernel) (pa_cons (pv 9) pa_nil)) pa_nil)))
    (pss_one (ps_expr (pe_bm PySem.F.plainAttrs_list PySem.F.slot_list_append PySem.F.type_list_append mt_append (pv 7) (pa_cons (pe_tup (pa_cons (pe_ix ix_tup (pv 3) (pv 8) (fun _ _ => rfl)) (pa_cons (pv 10) pa_nil))) pa_nil))))))))))
    (pss_one (ps_ret (pe_ix ix_tup (pe_callD D_solve hr (by rfl) (pa_cons (pe_callTy call_tuple_of (by rfl) m_tuple (by decide +kernel) (pa_cons (pv 6) pa_nil)) (pa_cons (pe_callTy call_tuple_of (by rfl) m_tuple (by decide +kernel) (pa_cons (pv 7) pa_nil)) pa_nil))) pe_int (fun _ _ => rfl))))))))), ?_⟩
  have stI := st_ints C
  refine seq_un2 (K := K) (ev_v rfl st_game.mono h1) (stay_tup (stay_rs _)).mono fun vr vm H1 e1 pr pm => ?_
  refine seq_set (ev_dcR (i0 := 15) (n := C.length) (ks := keysOf C) (Ps := (List.range C.length).map fun k : Nat => pInt (k : Int)) (iw_range1 (n := C.length) (eva_cons (by
      have e := ev_lenT (K := K) (ta := tVar 1) (H := H1) (σ := [some v1, some v2, some v3, some vr, some vm, none, none, none, none, none, none, none, none, none, none, none]) (ev_v (i := 1) (P := pNats K C) rfl st_nats.mono (st_nats.mono _ _ _ e1 h2))
      rw [List.length_map] at e
      exact e) stay_int.mono eva_nil) (by omega)) (by simp [keysOf]) (by simp) (keys_nd nd) (stay_map fun _ => stay_int) (by omega) fun j k R H2 hk hR e2 => ?_) fun vc Hc ec pc => ?_
  · have hj := lt_of_get hR
    simp only [List.length_map, List.length_range] at hj
    rw [range_get hj] at hR
    cases hR
    obtain ⟨s, hs⟩ := get_of_lt hj
    rw [show (keysOf C)[j]? = some (Sum.inl (s : Int)) from map_get hs] at hk
    cases hk
    refine ⟨ev_ixT (K := K) (i := j) (Ps := C.map fun s : Nat => pInt (s : Int)) (ev_v rfl st_nats.mono (st_nats.mono _ _ _ (e1.trans e2) h2)) (ev_v rfl stay_int.mono rfl) (by omega) (map_get hs) stI, ev_v rfl stay_int.mono ?_⟩
    show V.int (0 + (j : Nat)) = V.int (j : Nat)
    rw [Int.zero_add]
  have eH := e1.trans ec
  refine seq_nil fun lm nm => ?_
  refine seq_nil fun lr nr => ?_
  have nlr : lr ≠ lm := fun e => by rw [e, upd_same] at nr; cases nr
  have nr0 : Hc lr = none := Same.free (Same.new nm) nr
  have sc0 : Same Hc (upd (upd Hc lm (.lst [])) lr (.lst [])) := (Same.new nm).trans (Same.new nr)
  refine for_T (K := K) (ev_v (i := 1) (P := pNats K C) rfl st_nats.mono (st_nats.mono _ _ _ (eH.trans sc0) h2)) stI fun v' H1' s1' _ => ⟨fun i σ H' => ∃ (ms rs : List V) (y8 y9 y10 y11 y12 y13 y14 : Option V), σ = [some v1, some v2, some v3, some vr, some vm, some vc, some (.ref lm), some (.ref lr), y8, y9, y10, y11, y12, y13, y14, none] ∧
      Same Hc H' ∧ Stb H1' H' ∧ H' lm = some (.lst ms) ∧ H' lr = some (.lst rs) ∧ Al H' ms ((List.range i).map fun a => pTup K ((List.range C.length).map fun j => pR K ((LS g b C).M a j))) ∧ Al H' rs ((List.range i).map fun a => pTup K [pR K ((LS g b C).R a 0), pR K ((LS g b C).R a 1)]), ?i0, ?iG, ?is, ?ie⟩
  case i0 => exact ⟨[], [], none, none, none, none, none, none, none, rfl, sc0.trans s1', Stb.refl _, s1' _ _ (by rw [upd_ne nlr.symm]; exact upd_same), s1' _ _ upd_same, .nil, .nil⟩
  case iG => exact fun i σ H' ⟨_, _, _, _, _, _, _, _, _, _, _, h, _⟩ => h
  case is =>
    rintro i x P σ H2 hP px ⟨ms, rs, y8, y9, y10, y11, y12, y13, y14, rfl, sc, stb, hm, hrr, am, ar⟩
    have hi := lt_of_get hP
    rw [List.length_map] at hi
    obtain ⟨s, hs⟩ := get_of_lt hi
    rw [map_get hs] at hP
    cases hP
    obtain rfl : x = V.int (s : Nat) := px
    have hsC := List.mem_of_getElem? hs
    have hidx := idx_of nd hs
    have gd := getD_of hs
    have lm' := am.len
    have lr' := ar.len
    simp only [List.length_map, List.length_range] at lm' lr'
    have sH := eH.trans sc
    refine seq_set (ev_rep (ev_g stay_R.mono (Z0 H2)) stay_R (by
      have e := ev_lenT (K := K) (ta := tVar 1) (H := H2) (σ := [some v1, some v2, some v3, some vr, some vm, some vc, some (.ref lm), some (.ref lr), some (.int (s : Nat)), y9, y10, y11, y12, y13, y14, none]) (ev_v (i := 1) (P := pNats K C) rfl st_nats.mono (st_nats.mono _ _ _ sH h2))
      rw [List.length_map] at e
      exact e) (by omega)) fun vw H3 s3 pw => ?_
    obtain ⟨lw, ws, rfl, nw, hw, aw⟩ := pw
    have nwm : lw ≠ lm := fun e => by rw [e, hm] at nw; cases nw
    have nwr : lw ≠ lr := fun e => by rw [e, hrr] at nw; cases nw
    have lw' := aw.len
    rw [List.length_replicate] at lw'
    refine seq_put (j := 9) (k := i) rfl hw (by omega) (ev_g stay_R.mono (Z1 H3)) stay_R.mono (ev_dget (ks := keysOf C) (Ps := (List.range C.length).map fun k : Nat => pInt (k : Int)) (ev_v rfl (mono_dic (stay_map fun _ => stay_int)) (mono_dic (stay_map fun _ => stay_int) _ _ _ (sc.trans s3) pc)) (ev_v (i := 8) (P := pIs (kV (Sum.inl (s : Int)))) rfl stay_is.mono rfl) (keys_nd nd) (map_get hs) (range_get hi) (stay_map fun _ => stay_int)) fun v1' H4 s4 pv1 => ?_
    have hw4 := s4 _ _ hw
    refine seq_set (ev_g stay_R.mono (Z0 _)) fun vl H5 s5 pl => ?_
    have stb45 : Stb H3 H5 := ((Same.stb s4).trans (Stb.lst hw4)).trans (Same.stb s5)
    have hw5 := s5 _ _ (upd_same (H := H4) (a := lw) (o := .lst (ws.set i v1')))
    have sc5 : Same H2 H5 := (Same.upd (s3.trans s4) nw).trans s5
    have sH5 := sH.trans sc5
    have st5 : Stb H4 H5 := (Stb.lst hw4).trans (Same.stb s5)
    have aw5 : Al H5 (ws.set i v1') ((List.range C.length).map fun j => pR K (un i j - b * ex ((g.row s).take 0) (ind (C.getD j 0)))) := by
      refine Al.of (by rw [List.length_set, lw']; simp) fun j u P hu hP => ?_
      have hj := lt_of_get hP
      simp only [List.length_map, List.length_range] at hj
      rw [range_get hj] at hP
      cases hP
      have e0 : un i j - b * ex ((g.row s).take 0) (ind (C.getD j 0)) = un i j := by simp only [List.take_zero, ex]; grind
      rw [e0]
      unfold un
      by_cases e : i = j
      · subst e
        rw [List.getElem?_set_self (by omega)] at hu
        cases hu
        rw [if_pos rfl]
        exact stay_R _ _ _ st5 pv1
      · rw [List.getElem?_set_ne e] at hu
        rw [if_neg (fun z => e z.symm)]
        obtain ⟨u', hu', pu⟩ := aw.get (i := j) (P := pR K 0) (by rw [List.getElem?_replicate, if_pos hj])
        rw [hu] at hu'
        cases hu'
        exact stay_R _ _ _ stb45 pu
    have hmov : Ev (tOp (rIxT K) (tVar 4) (tVar 8)) [some v1, some v2, some v3, some vr, some vm, some vc, some (.ref lm), some (.ref lr), some (.int (s : Nat)), some (.ref lw), some vl, y11, y12, y13, y14, none] H5 (pMov K (g.row s)) :=
      ev_ixT (i := s) (ev_v (i := 4) rfl (stay_tup (stay_map fun _ => st_mov)).mono ((stay_tup (stay_map fun _ => st_mov)).mono _ _ _ (ec.trans (sc.trans sc5)) pm)) (ev_v (i := 8) (P := pInt (s : Nat)) rfl stay_int.mono rfl) rfl (map_get (game_row (by rw [len]; exact lt s hsC))) (stay_map fun _ => st_mov)
    refine for_T (K := K) hmov (stay_map fun _ => st_tp) fun vrow H6 s6 prow => ⟨fun t σ H' => ∃ (us : List V) (z10 : V) (z11 z12 z13 z14 : Option V), σ = [some v1, some v2, some v3, some vr, some vm, some vc, some (.ref lm), some (.ref lr), some (.int (s : Nat)), some (.ref lw), some z10, z11, z12, z13, z14, none] ∧
      Same H2 H' ∧ Stb H6 H' ∧ H' lw = some (.lst us) ∧ Al H' us ((List.range C.length).map fun j => pR K (un i j - b * ex ((g.row s).take t) (ind (C.getD j 0)))) ∧ pR K (b * ex ((g.row s).take t) (out C)) z10 H', ?j0, ?jG, ?js, ?je⟩
    case j0 =>
      refine ⟨_, vl, y11, y12, y13, y14, rfl, sc5.trans s6, Stb.refl _, s6 _ _ hw5, aw5.imp fun P hP v hv => stay_map (fun _ => stay_R) P hP v _ _ (Same.stb s6) hv, ?_⟩
      have e0 : b * ex ((g.row s).take 0) (out C) = 0 := by simp only [List.take_zero, ex]; grind
      rw [e0]
      exact stay_R _ _ _ (Same.stb s6) pl
    case jG => exact fun i σ H' ⟨_, _, _, _, _, _, _, _, h, _⟩ => h
    case js =>
      rintro t x P σ H7 hP px ⟨us, z10, z11, z12, z13, z14, rfl, s27, st7, hw7, al7, p10⟩
      obtain ⟨tp, htp⟩ := get_of_lt (l := g.row s) (i := t) (by have := lt_of_get hP; rwa [List.length_map] at this)
      rw [map_get htp] at hP
      cases hP
      have hmem := List.mem_of_getElem? htp
      refine tgt_2 (K := K) px fun xa xb pa pb => ?_
      obtain rfl : xa = V.int (tp.1 : Nat) := pa
      have hlu := al7.len
      simp only [List.length_map, List.length_range] at hlu
      have nw2 : H2 lw = none := nw
      refine seq_set (ev_R2 (K := K) (f := fun x y => x * y) (ev_v rfl stay_R.mono (stay_R.mono _ _ _ (sH.trans s27) h3)) (ev_v rfl stay_R.mono pb) (q1 s hsC tp hmem)) fun vsh H8 s8 psh => ?_
      have hw8 := s8 _ _ hw7
      refine one_if (et_B (ev_din (ks := keysOf C) (k := Sum.inl (tp.1 : Int)) (ev_v (i := 11) (P := pIs (kV (Sum.inl (tp.1 : Int)))) rfl stay_is.mono rfl) (ev_v rfl (mono_dic (stay_map fun _ => stay_int)) (mono_dic (stay_map fun _ => stay_int) _ _ _ (sc.trans (s27.trans s8)) pc)) (keys_nd nd) (b := decide (tp.1 ∈ C)) (by rw [decide_eq_true_iff, key_mem]))) fun H9 s9 => ?_
      have hw9 := s9 _ _ hw8
      have sc9 := sc.trans (s27.trans (s8.trans s9))
      refine ite2 (fun z => ?_) (fun z => ?_)
      · have hin : tp.1 ∈ C := of_decide_eq_true z
        have hg := idx_get hin
        have hlt := List.idxOf_lt_length_of_mem hin
        refine seq_set (ev_dget (ks := keysOf C) (Ps := (List.range C.length).map fun k : Nat => pInt (k : Int)) (ev_v rfl (mono_dic (stay_map fun _ => stay_int)) (mono_dic (stay_map fun _ => stay_int) _ _ _ sc9 pc)) (ev_v (i := 11) (P := pIs (kV (Sum.inl (tp.1 : Int)))) rfl stay_is.mono rfl) (keys_nd nd) (map_get hg) (range_get hlt) (stay_map fun _ => stay_int)) fun vat H10 s10 pat => ?_
        obtain rfl : vat = V.int (C.idxOf tp.1 : Nat) := pat
        have hw10 := s10 _ _ hw9
        have al10 := al7.imp fun P hP v hv => stay_map (fun _ => stay_R) P hP v _ _ (Same.stb (s8.trans (s9.trans s10))) hv
        have enew : ∀ j, un i j - b * ex ((g.row s).take (t + 1)) (ind (C.getD j 0)) = un i j - b * ex ((g.row s).take t) (ind (C.getD j 0)) - b * tp.2 * ind (C.getD j 0) tp.1 := fun j => by
          rw [ex_take htp]; grind
        have ok2 := fun t j => q2 s hsC t j
        rw [hidx] at ok2
        refine one_put (j := 9) (k := C.idxOf tp.1) rfl hw10 (by omega) (ev_R2 (K := K) (f := fun x y => x - y) (x := un i (C.idxOf tp.1) - b * ex ((g.row s).take t) (ind (C.getD (C.idxOf tp.1) 0))) (y := b * tp.2)
          (ev_ixL (K := K) (i := C.idxOf tp.1) (j := (C.idxOf tp.1 : Nat)) (Ps := (List.range C.length).map fun j => pR K (un i j - b * ex ((g.row s).take t) (ind (C.getD j 0)))) (ev_v rfl (mono_lst (fun P hP => (stay_map (fun _ => stay_R) P hP).mono)) ⟨lw, us, rfl, .of hw10, al10⟩) (ev_v (i := 14) (P := pInt (C.idxOf tp.1 : Nat)) rfl stay_int.mono rfl) rfl (range_get hlt) (stay_map fun _ => stay_R))
          (ev_v rfl stay_R.mono (stay_R.mono _ _ _ (s9.trans s10) psh)) (by
            have := ok2 (t + 1) (C.idxOf tp.1)
            rw [enew, getD_of hg] at this
            rw [getD_of hg]
            unfold ind at this
            rw [if_pos rfl, Rat.mul_one] at this
            exact this)) stay_R.mono (ev_v (i := 14) (P := pInt (C.idxOf tp.1 : Nat)) rfl stay_int.mono rfl) fun vn H11 s11 pn => ?_
        have hw11 := s11 _ _ hw10
        have stw : Stb H11 (upd H11 lw (.lst (us.set (C.idxOf tp.1) vn))) := Stb.lst hw11
        have s711 := s8.trans (s9.trans (s10.trans s11))
        refine ⟨us.set (C.idxOf tp.1) vn, z10, _, _, _, _, rfl, Same.upd (s27.trans s711) nw2, st7.trans ((Same.stb s711).trans stw), upd_same, ?_, ?_⟩
        · refine Al.of (by rw [List.length_set, hlu]; simp) fun j u P hu hP => ?_
          have hj := lt_of_get hP
          simp only [List.length_map, List.length_range] at hj
          rw [range_get hj] at hP
          cases hP
          rw [enew j]
          by_cases e : C.idxOf tp.1 = j
          · subst e
            rw [List.getElem?_set_self (by omega)] at hu
            cases hu
            rw [getD_of hg]
            rw [getD_of hg] at pn
            unfold ind at pn ⊢
            rw [if_pos rfl, Rat.mul_one]
            exact stay_R _ _ _ stw pn
          · rw [List.getElem?_set_ne e] at hu
            obtain ⟨u', hu', pu⟩ := al7.get (range_get (f := fun j => pR K (un i j - b * ex ((g.row s).take t) (ind (C.getD j 0)))) hj)
            rw [hu] at hu'
            cases hu'
            have e2 : ind (C.getD j 0) tp.1 = 0 := by
              unfold ind
              rw [if_neg]
              intro ee
              obtain ⟨c, hc⟩ := get_of_lt hj
              rw [getD_of hc] at ee
              rw [← ee] at hc
              exact e (idx_of nd hc)
            rw [e2, Rat.mul_zero, show ∀ x : Rat, x - 0 = x by intro x; grind]
            exact stay_R _ _ _ ((Same.stb s711).trans stw) pu
        · have e2 : b * ex ((g.row s).take (t + 1)) (out C) = b * ex ((g.row s).take t) (out C) := by
            rw [ex_take htp]
            unfold out
            rw [if_pos hin]; grind
          rw [e2]
          exact stay_R _ _ _ ((Same.stb s711).trans stw) p10
      · have hin : tp.1 ∉ C := fun h => z (decide_eq_true h)
        have e2 : b * ex ((g.row s).take (t + 1)) (out C) = b * ex ((g.row s).take t) (out C) + b * tp.2 := by
          rw [ex_take htp]
          have : out C tp.1 = 1 := if_neg hin
          rw [this]; grind
        refine one_set (ev_R2 (K := K) (f := fun x y => x + y) (ev_v rfl stay_R.mono (stay_R.mono _ _ _ (s8.trans s9) p10)) (ev_v rfl stay_R.mono (stay_R.mono _ _ _ s9 psh)) (by
          have := q3 s hsC (t + 1)
          rw [e2] at this
          exact this)) fun vn H10 s10 pn => ?_
        have s710 := s8.trans (s9.trans s10)
        refine ⟨us, vn, _, _, _, _, rfl, s27.trans s710, st7.trans (Same.stb s710), s10 _ _ hw9, ?_, by rw [e2]; exact pn⟩
        refine Al.of (by rw [hlu]; simp) fun j u P hu hP => ?_
        have hj := lt_of_get hP
        simp only [List.length_map, List.length_range] at hj
        rw [range_get hj] at hP
        cases hP
        obtain ⟨u', hu', pu⟩ := al7.get (range_get (f := fun j => pR K (un i j - b * ex ((g.row s).take t) (ind (C.getD j 0)))) hj)
        rw [hu] at hu'
        cases hu'
        have e3 : ex ((g.row s).take (t + 1)) (ind (C.getD j 0)) = ex ((g.row s).take t) (ind (C.getD j 0)) := by
          rw [ex_take htp]
          unfold ind
          rw [if_neg]
          · grind
          · intro ee
            obtain ⟨c, hc⟩ := get_of_lt hj
            rw [getD_of hc] at ee
            rw [← ee] at hc
            exact hin (List.mem_of_getElem? hc)
        rw [e3]
        exact stay_R _ _ _ (Same.stb s710) pu
    case je =>
      rintro σ H7 ⟨us, z10, z11, z12, z13, z14, rfl, s27, st7, hw7, al7, p10⟩
      rw [List.length_map] at al7 p10
      rw [List.take_length] at p10
      have al7 : Al H7 us ((List.range C.length).map fun j => pR K ((LS g b C).M i j)) := by
        simp only [List.take_length] at al7
        simp only [LS, gd]
        exact al7
      refine seq_appV (j := 6) (l := lm) rfl (s27 _ _ hm) (by omega) (ev_tupleL (K := K) (ev_v (i := 9) rfl (mono_lst fun P hP => (stay_map (fun _ => stay_R) P hP).mono) ⟨lw, us, rfl, .of hw7, al7⟩) (stay_map fun _ => stay_R)) fun vt H8 s8 pt => ?_
      have hm8 := s8 _ _ (s27 _ _ hm)
      have hr8 : upd H8 lm (.lst (ms ++ [vt])) lr = some (.lst rs) := by rw [upd_ne nlr]; exact s8 _ _ (s27 _ _ hrr)
      have st8 : Stb H8 (upd H8 lm (.lst (ms ++ [vt]))) := Stb.lst hm8
      have stR : ∀ a, Stay (pTup K [pR K ((LS g b C).R a 0), pR K ((LS g b C).R a 1)]) := fun a => stay_tup (stay_cons stay_R (stay_cons stay_R stay_nil))
      have stM : ∀ a, Stay (pTup K ((List.range C.length).map fun j => pR K ((LS g b C).M a j))) := fun a => stay_tup (stay_map fun _ => stay_R)
      have eR0 : (LS g b C).R i 0 = g.r s := by simp only [LS, if_true, gd]
      have eR1 : (LS g b C).R i 1 = b * ex (g.row s) (out C) := by simp only [LS, gd]; rfl
      have nm0 : Hc lm = none := nm
      refine one_appV (P := pTup K [pR K ((LS g b C).R i 0), pR K ((LS g b C).R i 1)]) (j := 7) (l := lr) rfl hr8 (by omega) (ev_tup (K := K) (eva_cons (P := pR K ((LS g b C).R i 0)) (by
          rw [eR0]
          exact ev_ixT (K := K) (i := s) (Ps := g.rew.map (pR K)) (ev_v (i := 3) rfl (stay_tup (stay_rs _)).mono (stay_tup (stay_rs _) _ _ _ (((Same.stb (ec.trans (sc.trans s27))).trans (Same.stb s8)).trans st8) pr)) (ev_v (i := 8) (P := pInt (s : Nat)) rfl stay_int.mono rfl) rfl (map_get (game_rew (lt s hsC))) (stay_rs _)) stay_R.mono
        (eva_cons (P := pR K ((LS g b C).R i 1)) (by
          rw [eR1]
          exact ev_v (i := 10) rfl stay_R.mono (stay_R _ _ _ ((Same.stb s8).trans st8) p10)) stay_R.mono eva_nil)) (stay_cons stay_R (stay_cons stay_R stay_nil)) (by simp)) fun vt2 H9 s9 pt2 => ?_
      have hr9 := s9 _ _ hr8
      have st9 : Stb H9 (upd H9 lr (.lst (rs ++ [vt2]))) := Stb.lst hr9
      have stAll : Stb H2 (upd H9 lr (.lst (rs ++ [vt2]))) := (Same.stb s27).trans ((Same.stb s8).trans (st8.trans ((Same.stb s9).trans st9)))
      refine ⟨ms ++ [vt], rs ++ [vt2], _, _, _, _, _, _, _, rfl, ?_, stb.trans stAll, ?_, upd_same, ?_, ?_⟩
      · exact Same.upd (Same.trans (Same.upd ((sc.trans s27).trans s8) nm0) s9) nr0
      · rw [upd_ne nlr.symm]
        exact s9 _ _ upd_same
      · rw [List.range_succ, List.map_append]
        exact (am.imp fun P hP v hv => stay_map (fun a => stM a) P hP v _ _ stAll hv).app (.one (stM i _ _ _ (st8.trans ((Same.stb s9).trans st9)) pt))
      · rw [List.range_succ, List.map_append]
        exact (ar.imp fun P hP v hv => stay_map (fun a => stR a) P hP v _ _ stAll hv).app (.one (stR i _ _ _ st9 pt2))
  case ie =>
    rintro σ H2 ⟨ms, rs, y8, y9, y10, y11, y12, y13, y14, rfl, sc, stb, hm, hrr, am, ar⟩
    rw [List.length_map] at am ar
    have stR : ∀ a, Stay (pTup K [pR K ((LS g b C).R a 0), pR K ((LS g b C).R a 1)]) := fun a => stay_tup (stay_cons stay_R (stay_cons stay_R stay_nil))
    have stM : ∀ a, Stay (pTup K ((List.range C.length).map fun j => pR K ((LS g b C).M a j))) := fun a => stay_tup (stay_map fun _ => stay_R)
    refine one_ret (ev_ixT (K := K) (i := 1) (j := 1) (Ps := [pIs (.str "solution"), pMat K C.length 2 (solA (LS g b C))]) (ev_call (args := fun S : Lin => [pMat K S.n S.n S.M, pMat K S.n S.m S.R]) (side := Small) (post := fun S => pTup K [pIs (.str "solution"), pMat K S.n S.m (solA S)]) (LS g b C) small
      (eva_cons (ev_tupleL (K := K) (ev_v (i := 6) rfl (mono_lst fun P hP => (stay_map (fun a => stM a) P hP).mono) ⟨lm, ms, rfl, .of hm, am⟩) (stay_map fun a => stM a)) stay_mat.mono
        (eva_cons (ev_tupleL (K := K) (ev_v (i := 7) rfl (mono_lst fun P hP => (stay_map (fun a => stR a) P hP).mono) ⟨lr, rs, rfl, .of hrr, ar⟩) (stay_map fun a => stR a)) stay_mat.mono eva_nil))) (ev_int (i := 1)) rfl rfl (stay_cons stay_is (stay_cons stay_mat stay_nil))) fun v H3 s3 p => q v H3 (eH.trans (sc.trans s3)) p
end
end AC
end
section
set_option maxRecDepth 100000
/-! The walk: sorted of a tuple of numbers. -/
namespace ACD
open PySem PySem.Spec PyProof.Rows L2
section
variable {prog : Program} {w : World} {A : Around} {E : Value → Shared → Prop} {s : Shared}
/-- what is gathered out of a tuple -/
theorem gather_tup {t : Addr} {vs : List Value} {Q : List Value → Shared → Prop} (ht : IsTup s.heap t vs.toArray) (hz : vs.length ≤ sizeLine)
    (q : Q vs { s with heap := (s.heap.push (seqObj "list" #[] 0)).update s.heap.objs.size (Obj.mapSeq (· ++ vs.toArray)) }) : wpAny (model prog w) A (collect (.ref t)) Q E s := by
  obtain ⟨o, ho, hc, n, hd⟩ := id ht
  have ho2 : (s.heap.push (seqObj "list" #[] 0)).get? t = some o := Heap.get?_push_of_some _ ho
  have hL : (s.heap.push (seqObj "list" #[] 0)).get? s.heap.objs.size = some (seqObj "list" #[] 0) := Heap.get?_push_size _ rfl
  unfold collect
  refine wpAny_bind (wpAny_runValue (codeAny_builtin entry_proto_collect' ?_))
  show wpAny _ _ (do again (.builtin "list.__iadd__" ⟨[← newList [], .ref t], []⟩)) _ _ s
  refine wpAny_bind (wpAny_newList (wpAny_pure ⟨Code.quiet_builtin _ (by decide +kernel), codeAny_builtin entry_list_iadd' ?_⟩))
  show wpAny _ _ (Builtin.List.listExtendWith (.ref s.heap.objs.size) (.ref t) (.ref s.heap.objs.size)) _ _ { s with heap := s.heap.push (seqObj "list" #[] 0) }
  unfold Builtin.List.listExtendWith
  refine wpAny_bind (wpAny_typeOf (T := "tuple") ⟨o, ho2, hc⟩ ?_)
  have same : (Value.type "tuple" == Value.type "tuple") = true := rfl
  rw [if_pos (by rw [same, Bool.or_true])]
  refine wpAny_bind (listItems_at ho2 hd ?_)
  refine wpAny_bind (listItems_at (xs := #[]) (n := 0) hL rfl ?_)
  rw [if_neg (by simp)]
  refine wpAny_bind (listUpdate_at (xs := #[]) (n := 0) hL rfl ?_ (Nat.zero_le _) ?sz)
  case sz =>
    show (#[] ++ vs.toArray).size ≤ sizeLine + 1
    simp only [Array.size_append, List.size_toArray, List.length_nil]
    omega
  refine wpAny_pure ?_
  refine wpAny_bind (wpAny_load (get?_update_seq hL _) ?_)
  show wpAny _ _ (pure ((#[] : Array Value) ++ vs.toArray).toList) Q E _
  have e : ((#[] : Array Value) ++ vs.toArray).toList = vs := by simp
  rw [e]
  exact wpAny_pure q
theorem sorted_tup {t : Addr} {vs : List Value} {ns : List Int} {Q : Value → Shared → Prop} (ht : IsTup s.heap t vs.toArray) (hI : IntsAre vs ns) (h64 : vs.length < 64)
    (q : ∀ (out : Array Value) (ms : List Int), IntsAre out.toList ms → ms.Perm ns → ms.Pairwise (· ≤ ·) → Q (.ref (s.heap.objs.size + 1)) { s with heap := sortedAll s.heap vs out }) :
    wpAny (model prog w) A (call (.builtin "sorted") [.ref t]) Q E s := by
  refine Calls.call_function_entry kind_sorted plain_sorted entry_sorted (args_sorted1 _) ?_
  unfold Builtin.«sorted»
  refine wpAny_bind (m := checkCount "sorted" 1 1 _) (wpAny_pure ?_)
  refine wpAny_bind (gather_tup ht (by rw [sizeLine_eq]; omega) ?_)
  refine wpAny_bind (wpAny_newList ?_)
  generalize eh : (s.heap.push (seqObj "list" #[] 0)).update s.heap.objs.size (Obj.mapSeq (· ++ vs.toArray)) = h1
  have sz : h1.objs.size = s.heap.objs.size + 1 := by rw [← eh, Heap.size_update, size_push']
  have hl : (h1.push (seqObj "list" vs.toArray 0)).get? (s.heap.objs.size + 1) = some (seqObj "list" vs.toArray 0) := by
    rw [← sz]; exact Heap.get?_push_size _ rfl
  show wpAny _ _ _ _ _ { s with heap := h1.push (seqObj "list" vs.toArray 0) }
  rw [sz]
  refine wpAny_bind (wpAny_holding (wpAny_call_entry slot_list_sort ⟨_, hl, rfl⟩ entry_list_sort ?_ (args_list_sort _)))
  refine list_sort_tree hl hI h64 fun out ms a1 a2 a3 => ⟨_, rfl, ?_⟩
  refine wpAny_pure ⟨_, rfl, ?_⟩
  have := q out ms a1 a2 a3
  unfold sortedAll at this
  rw [eh] at this
  exact this
end
section
variable {X : Cx}
def rSortedT (K : PySem.W.Frag) : List V → Hp → VK → Prop := fun vs H Q => ∃ (a : Addr) (ns : List Int), vs = [V.ref a] ∧ SqT K H a (ns.map V.int) ∧ ns.length < 64 ∧
  ∀ (ms : List Int) (p : Addr), ms.Perm ns → ms.Pairwise (· ≤ ·) → H p = none → Q (.ref p) (upd H p (.lst (ms.map V.int)))
theorem cr_sortedT : CallR X (.builtin "sorted") (rSortedT X.K) := by
  intro pins s σ H vs us Q I r h
  obtain ⟨a, ns, rfl, hs, h64, q⟩ := h
  obtain ⟨its, rv, ht, _⟩ := I.tuple hs
  rw [Vals.ref1 r]
  have hi := rv.ints
  refine sorted_tup ht hi (by rw [hi.length]; exact h64) fun out ms b1 b2 b3 => ?_
  obtain ⟨ep, hep⟩ := PyProof.Rows.sortedAll_at s.heap its out
  have hz : (ms.map V.int).length ≤ sizeLine := by
    rw [List.length_map, b2.length_eq]; exact small64 h64
  have nw : ObjOk X.prog X.w (upd H (s.heap.objs.size + 1) (.lst (ms.map V.int))) (sortedAll s.heap its out) (s.heap.objs.size + 1) (.lst (ms.map V.int)) := ⟨hz, out.toList, ep, vals_of_ints b1, hep⟩
  exact ⟨.ref _, _, I.laid (t' := s.toks) (fun _ _ => PyProof.Rows.sortedAll_old) (Nat.le_succ _) nw, rfl, q ms _ b2 b3 (I.hok.fresh (Nat.le_succ _))⟩
end
end ACD
end
section
set_option maxRecDepth 100000
/-! The walk: the index order. -/
namespace AC
open PySem PySem.Spec PyProof.Rows L2 ACD
variable {K : PySem.W.Frag}
theorem sc23 : FnScope ["game", "inside", "discount", "values", "k"] ["game", "inside", "discount"] (defScope (topS 23)) := ⟨rfl, rfl, rfl, by decide +kernel, rfl, by decide +kernel, by decide +kernel⟩
theorem sc24 : FnScope ["game", "state", "table", "discount", "earned", "factor", "target", "probability", "later"] ["game", "state", "table", "discount"] (defScope (topS 24)) := ⟨rfl, rfl, rfl, by decide +kernel, rfl, by decide +kernel, by decide +kernel⟩
theorem sc26 : FnScope ["game", "inside", "discount", "table", "best", "state", "earned", "factor", "candidate"] ["game", "inside", "discount"] (defScope (topS 26)) := ⟨rfl, rfl, rfl, by decide +kernel, rfl, by decide +kernel, by decide +kernel⟩
theorem sc27 : FnScope ["game", "discount", "order", "inside", "_", "chosen"] ["game", "discount"] (defScope (topS 27)) := ⟨rfl, rfl, rfl, by decide +kernel, rfl, by decide +kernel, by decide +kernel⟩
def pTwo (K : PySem.W.Frag) (x y : Rat) : VP := pTup K [pR K x, pR K y]
theorem st_two {x y : Rat} : Stay (pTwo K x y) := stay_tup (stay_cons stay_R (stay_cons stay_R stay_nil))
def pTab (K : PySem.W.Frag) (g : Game) (b : Rat) (C : List Nat) : VP := pDic (keysOf C) (C.map fun s => pTwo K (eL g b C s) (fL g b C s))
theorem st_tabs (g : Game) (b : Rat) (C : List Nat) : ∀ P ∈ C.map (fun s => pTwo K (eL g b C s) (fL g b C s)), Stay P := stay_map fun _ => st_two
theorem mono_tab {g : Game} {b : Rat} {C : List Nat} : Mono (pTab K g b C) := mono_dic (st_tabs g b C)
def spTab (K : PySem.W.Frag) : Sp := Spc (fun a : LvA => [pGame K a.g, pNats K a.C, pR K a.b]) LvOk fun a => pTab K a.g a.b a.C
structure FpA where
  g : Game
  s : Nat
  C : List Nat
  b : Rat
structure FpK (a : FpA) : Prop where
  nd : a.C.Nodup
  lt : a.s < a.g.n
  len : a.g.mov.length = a.g.n
  e1 : ∀ tp ∈ a.g.row a.s, Ok (tp.2 * eL a.g a.b a.C tp.1)
  f1 : ∀ tp ∈ a.g.row a.s, Ok (tp.2 * fL a.g a.b a.C tp.1)
  e2 : ∀ t, Ok (ex ((a.g.row a.s).take t) (eL a.g a.b a.C))
  f2 : ∀ t, Ok (ex ((a.g.row a.s).take t) (fL a.g a.b a.C))
  e3 : Ok (a.b * ex (a.g.row a.s) (eL a.g a.b a.C))
  f3 : Ok (a.b * ex (a.g.row a.s) (fL a.g a.b a.C))
  e4 : Ok (a.g.r a.s + a.b * ex (a.g.row a.s) (eL a.g a.b a.C))
def spFp (K : PySem.W.Frag) : Sp := Spc (fun a : FpA => [pGame K a.g, pInt (a.s : Int), pTab K a.g a.b a.C, pR K a.b]) FpK fun a => pTwo K (a.g.r a.s + a.b * ex (a.g.row a.s) (eL a.g a.b a.C)) (a.b * ex (a.g.row a.s) (fL a.g a.b a.C))
structure NsK (a : LvA) : Prop where
  lv : LvOk a
  nle : a.g.n ≤ 1000
  fp : ∀ s, s < a.g.n → s ∉ a.C → FpK ⟨a.g, s, a.C, a.b⟩
  d : ∀ s, s < a.g.n → s ∉ a.C → Ok (1 - a.b * ex (a.g.row s) (fL a.g a.b a.C)) ∧ 0 < 1 - a.b * ex (a.g.row s) (fL a.g a.b a.C)
  c : ∀ s, s < a.g.n → s ∉ a.C → Ok (cnd a.g a.b a.C s)
def pOpt (K : PySem.W.Frag) : Option (Nat × Rat) → VP
  | none => pIs .non
  | some sv => pTup K [pInt (sv.1 : Int), pR K sv.2]
theorem st_opt {o : Option (Nat × Rat)} : Stay (pOpt K o) := by
  cases o with
  | none => exact stay_is
  | some sv => exact stay_tup (stay_cons stay_int (stay_cons stay_R stay_nil))
def spNs (K : PySem.W.Frag) : Sp := Spc (fun a : LvA => [pGame K a.g, pNats K a.C, pR K a.b]) NsK fun a => pOpt K (pick (cnd a.g a.b a.C) a.C a.g.n)
/-- sorted of numbers -/
theorem perm_nat {ms : List Int} {C : List Nat} (p : ms.Perm (C.map fun s : Nat => (s : Int))) (h : ms.Pairwise (· ≤ ·)) : ms = (srt C).map fun s : Nat => (s : Int) := by
  have nn : ∀ x ∈ ms, 0 ≤ x := fun x hx => by
    obtain ⟨s, _, rfl⟩ := List.mem_map.mp (p.mem_iff.mp hx)
    omega
  have p2 : (ms.map Int.toNat).Perm C := by
    have := p.map Int.toNat
    rw [List.map_map] at this
    have e : (Int.toNat ∘ fun s : Nat => (s : Int)) = id := by funext s; simp
    rwa [e, List.map_id] at this
  have h2 : (ms.map Int.toNat).Pairwise (· ≤ ·) := by
    rw [List.pairwise_map]
    exact h.imp fun l => by omega
  have e := srt_of_perm h2 p2
  rw [← e, List.map_map]
  clear p h p2 h2 e
  induction ms with
  | nil => rfl
  | cons x r ih =>
    rw [List.map_cons, ← ih fun y hy => nn y (List.mem_cons_of_mem _ hy)]
    have := nn x List.mem_cons_self
    congr 1
    show x = ((x.toNat : Nat) : Int)
    omega
theorem al_nats {H : Hp} {vs : List V} {C : List Nat} (al : Al H vs (C.map fun s : Nat => pInt (s : Int))) : vs = (C.map fun s : Nat => (s : Int)).map V.int := by
  exact Al.ints (H := H) (ns := C.map fun s : Nat => (s : Int)) (by rw [List.map_map]; exact al)
theorem al_of_nats {H : Hp} (C : List Nat) : Al H ((C.map fun s : Nat => (s : Int)).map V.int) (C.map fun s : Nat => pInt (s : Int)) := by
  have := Al.ofInts (H := H) (C.map fun s : Nat => (s : Int))
  rw [List.map_map (g := pInt)] at this
  exact this
theorem ev_sortT {σ : L2.St} {H : Hp} {ta : TE} {C : List Nat} (ha : Ev ta σ H (pNats K C)) (hl : C.length < 64) : Ev (tCB (rSortedT K) (tCons ta tNil)) σ H (pOwn ((srt C).map fun s : Nat => pInt (s : Int))) := fun H1 e Q q =>
  ha H1 e _ fun v H2 s2 ⟨p, vs, ev, sq, al⟩ => by
    have ee := al_nats al
    subst ee
    refine ⟨p, _, by rw [ev], sq, by rw [List.length_map]; exact hl, fun ms r pm so nr => q _ _ (s2.trans (Same.new nr)) ⟨r, _, rfl, upd_same, ?_⟩⟩
    rw [perm_nat pm so]
    exact al_of_nats _
theorem ev_sortL {σ : L2.St} {H : Hp} {ta : TE} {C : List Nat} (ha : Ev ta σ H (pLst K (C.map fun s : Nat => pInt (s : Int)))) (hl : C.length < 64) : Ev (tCB (rSorted K) (tCons ta tNil)) σ H (pOwn ((srt C).map fun s : Nat => pInt (s : Int))) := fun H1 e Q q =>
  ha H1 e _ fun v H2 s2 ⟨p, vs, ev, sq, al⟩ => by
    have ee := al_nats al
    subst ee
    refine ⟨p, _, by rw [ev], sq, by rw [List.length_map]; exact hl, fun ms r pm so nr => q _ _ (s2.trans (Same.new nr)) ⟨r, _, rfl, upd_same, ?_⟩⟩
    rw [perm_nat pm so]
    exact al_of_nats _
section
variable {P : Program} {w : World} {mg : Str → Option Value} {base : Heap}
theorem d_leave_table (g : Got K mg "leave_table" 23 ["game", "inside", "discount"]) (m_range : mg "range" = none) (m_len : mg "len" = none) (D_leave_values : DefOk P w K mg base 6 "leave_values" ["game", "inside", "discount"] (spLv K)) :
    DefOk P w K mg base 7 "leave_table" ["game", "inside", "discount"] (spTab K) := by
  refine def_of g sc23 (fun _ => rfl) fun fa cdv A outer s H vs Q E a hr sd al q => ?_
  obtain ⟨g, C, b⟩ := a
  cases al with | cons h1 al => cases al with | cons h2 al => cases al with | cons h3 al => cases al with | nil =>
  rename_i v1 v2 v3
  have nd : C.Nodup := sd.nd
  have le : C.length ≤ 50 := sd.le
  have h2 : pNats K C v2 H := h2
  refine ⟨_, (pss_cons (ps_set (i := 3) sc23.nd rfl (.inr rfl) (pe_callD D_leave_values hr (by rfl) (pa_cons (pv 0) (pa_cons (pv 1) (pa_cons (pv 2) pa_nil)))))
    (pss_one (ps_ret (pe_dict (own := [("k", 4)]) (.dK []) (.inl rfl) hr.units0 rfl sc23.nd (pi_range1 rfl m_range (pa_cons (pe_callB call_len_seq (by rfl) m_len PySem.boot_len (pa_cons (pv 1) pa_nil)) pa_nil)) (blkOk_by (N := ["game", "inside", "discount", "values", "k"]) (sc := defScope (topS 23)) (by decide +kernel)) (fun _ _ _ _ _ => (pg_name (i := 4) sc23.nd rfl (Or.inl rfl))) (fun _ _ _ _ _ => (pe_ixT (K := K) rfl (pv 1) (pv 4) (fun _ _ => rfl))) (fun _ _ _ _ _ => (pe_ixT (K := K) rfl (pv 3) (pv 4) (fun _ _ => rfl))))))), ?_⟩
  refine seq_set (ev_call (args := fun a : LvA => [pGame K a.g, pNats K a.C, pR K a.b]) (side := LvOk) (post := fun a => pMat K a.C.length 2 (solA (LS a.g a.b a.C))) ⟨g, C, b⟩ sd (eva_cons (ev_v rfl st_game.mono h1) st_game.mono (eva_cons (ev_v rfl st_nats.mono h2) st_nats.mono (eva_cons (ev_v rfl stay_R.mono h3) stay_R.mono eva_nil)))) fun vv H1 e1 pv => ?_
  have pv : pMat K C.length 2 (solA (LS g b C)) vv H1 := pv
  refine one_ret (ev_dcR (i0 := 4) (n := C.length) (ks := keysOf C) (Ps := C.map fun s => pTwo K (eL g b C s) (fL g b C s)) (iw_range1 (n := C.length) (eva_cons (by
      have e := ev_lenT (K := K) (ta := tVar 1) (H := H1) (σ := [some v1, some v2, some v3, some vv, none]) (ev_v (i := 1) (P := pNats K C) rfl st_nats.mono (st_nats.mono _ _ _ e1 h2))
      rw [List.length_map] at e
      exact e) stay_int.mono eva_nil) (by omega)) (by simp [keysOf]) (by simp) (keys_nd nd) (st_tabs g b C) (by omega) fun j k R H2 hk hR e2 => ?_) fun v H2 e2 p => q v H2 (e1.trans e2) p
  have hj := lt_of_get hR
  rw [List.length_map] at hj
  obtain ⟨s, hs⟩ := get_of_lt hj
  rw [map_get hs] at hR
  cases hR
  rw [show (keysOf C)[j]? = some (Sum.inl (s : Int)) from map_get hs] at hk
  cases hk
  have hm := List.mem_of_getElem? hs
  refine ⟨ev_ixT (K := K) (i := j) (Ps := C.map fun s : Nat => pInt (s : Int)) (ev_v rfl st_nats.mono (st_nats.mono _ _ _ (e1.trans e2) h2)) (ev_v rfl stay_int.mono rfl) (by omega) (map_get hs) (st_ints C), ?_⟩
  have ee := ev_ixT (K := K) (i := j) (j := 0 + (j : Nat)) (ta := tVar 3) (tb := tVar 4) (σ := (wipe [some v1, some v2, some v3, some vv, none] [4]).set 4 (some (.int (0 + (j : Nat))))) (ev_v rfl stay_mat.mono (stay_mat.mono _ _ _ e2 pv)) (ev_v rfl stay_int.mono rfl) (by omega) (range_get hj) (stay_mrows _ _ _)
  refine ee.imp fun v H3 _ p => ?_
  have z1 : eL g b C s = solA (LS g b C) j 0 := by unfold eL; rw [if_pos hm, idx_of nd hs]
  have z2 : fL g b C s = solA (LS g b C) j 1 := by unfold fL; rw [if_pos hm, idx_of nd hs]
  rw [z1, z2]
  exact p
theorem d_first_play (g : Got K mg "first_play" 24 ["game", "state", "table", "discount"]) {z_ZERO_leaving z_ONE_leaving : Addr} (m_ZERO_leaving : mg "ZERO_leaving" = some (.ref z_ZERO_leaving)) (m_ONE_leaving : mg "ONE_leaving" = some (.ref z_ONE_leaving)) (Z0 : ∀ H, pR K 0 (.ref z_ZERO_leaving) H) (Z1 : ∀ H, pR K 1 (.ref z_ONE_leaving) H)
    (D_multiply : DefOk P w K mg base 3 "multiply" ["a", "b"] (spR2 K fun x y => x * y)) (D_add : DefOk P w K mg base 3 "add" ["a", "b"] (spR2 K fun x y => x + y)) :
    DefOk P w K mg base 4 "first_play" ["game", "state", "table", "discount"] (spFp K) := by
  refine def_of g sc24 (fun _ => rfl) fun fa cdv A outer s0 H vs Q E a hr sd al q => ?_
  obtain ⟨g, s, C, b⟩ := a
  obtain ⟨nd, lt, len, e1, f1, e2, f2, e3, f3, e4⟩ := sd
  simp only at nd lt len e1 f1 e2 f2 e3 f3 e4
  cases al with | cons h1 al => cases al with | cons h2 al => cases al with | cons h3 al => cases al with | cons h4 al => cases al with | nil =>
  rename_i v1 v2 v3 v4
  have h1 : pGame K g v1 H := h1
  have h3 : pTab K g b C v3 H := h3
  have h4 : pR K b v4 H := h4
  obtain rfl : v2 = V.int (s : Nat) := h2
  refine ⟨_, (pss_cons (ps_set (i := 4) sc24.nd rfl (.inl rfl) (pe_glob (v := .ref z_ZERO_leaving) rfl m_ZERO_leaving rfl))
    (pss_cons (ps_set (i := 5) sc24.nd rfl (.inl rfl) (pe_glob (v := .ref z_ZERO_leaving) rfl m_ZERO_leaving rfl))
    (pss_cons (ps_for PassesOwn.never rfl (pi_tup (pe_ix ix_tup (pe_ix ix_tup (pv 0) pe_int (fun _ _ => rfl)) (pv 1) (fun _ _ => rfl))) (pg_tup rfl (pgs_cons (pg_name (i := 6) sc24.nd rfl (.inl rfl)) (pgs_cons (pg_name (i := 7) sc24.nd rfl (.inl rfl)) pgs_nil)))
    (pss_cons (ps_set (i := 8) sc24.nd rfl (.inl rfl) (pe_dget2 (hu_of hr) (pv 2) (pv 6) (pe_tup (pa_cons (pe_glob (v := .ref z_ZERO_leaving) rfl m_ZERO_leaving rfl) (pa_cons (pe_glob (v := .ref z_ONE_leaving) rfl m_ONE_leaving rfl) pa_nil))) ⟨rfl, rfl, rfl, rfl⟩))
    (pss_cons (ps_set (i := 4) sc24.nd rfl (.inl rfl) (pe_callD D_add hr (by rfl) (pa_cons (pv 4) (pa_cons (pe_callD D_multiply hr (by rfl) (pa_cons (pv 7) (pa_cons (pe_ix ix_tup (pv 8) pe_int (fun _ _ => rfl)) pa_nil))) pa_nil))))
    (pss_one (ps_set (i := 5) sc24.nd rfl (.inl rfl) (pe_callD D_add hr (by rfl) (pa_cons (pv 5) (pa_cons (pe_callD D_multiply hr (by rfl) (pa_cons (pv 7) (pa_cons (pe_ix ix_tup (pv 8) pe_int (fun _ _ => rfl)) pa_nil))) pa_nil))))))))
    (pss_cons (ps_set (i := 4) sc24.nd rfl (.inl rfl) (pe_callD D_add hr (by rfl) (pa_cons (pe_ix ix_tup (pe_ix ix_tup (pv 0) pe_int (fun _ _ => rfl)) (pv 1) (fun _ _ => rfl)) (pa_cons (pe_callD D_multiply hr (by rfl) (pa_cons (pv 3) (pa_cons (pv 4) pa_nil))) pa_nil))))
    (pss_one (ps_ret (pe_tup (pa_cons (pv 4) (pa_cons (pe_callD D_multiply hr (by rfl) (pa_cons (pv 3) (pa_cons (pv 5) pa_nil))) pa_nil))))))))), ?_⟩
  refine seq_set (ev_g stay_R.mono (Z0 _)) fun ve H1 s1 pe => ?_
  refine seq_set (ev_g stay_R.mono (Z0 _)) fun vf H2 s2 pf => ?_
  have s12 := s1.trans s2
  refine for_T (K := K) (ev_ixT (i := s) (ev_ixT (i := 1) (ev_v (i := 0) rfl st_game.mono (st_game.mono _ _ _ s12 h1)) (ev_int (i := 1)) rfl rfl (st_gparts g)) (ev_v (i := 1) (P := pInt (s : Nat)) rfl stay_int.mono rfl) rfl (map_get (game_row (by rw [len]; exact lt))) (stay_map fun _ => st_mov)) (stay_map fun _ => st_tp)
    fun vrow H3 s3 prow => ⟨fun t σ H' => ∃ (y4 y5 : V) (y6 y7 y8 : Option V), σ = [some v1, some (.int (s : Nat)), some v3, some v4, some y4, some y5, y6, y7, y8] ∧ Same H3 H' ∧ pR K (ex ((g.row s).take t) (eL g b C)) y4 H' ∧ pR K (ex ((g.row s).take t) (fL g b C)) y5 H', ?j0, ?jG, ?js, ?je⟩
  case j0 => exact ⟨ve, vf, none, none, none, rfl, Same.refl _, stay_R.mono _ _ _ (s2.trans s3) pe, stay_R.mono _ _ _ s3 pf⟩
  case jG => exact fun i σ H' ⟨_, _, _, _, _, _, h, _⟩ => Same.stb h
  case js =>
    rintro t x P σ H4 hP px ⟨y4, y5, y6, y7, y8, rfl, s34, p4, p5⟩
    obtain ⟨tp, htp⟩ := get_of_lt (l := g.row s) (i := t) (by have := lt_of_get hP; rwa [List.length_map] at this)
    rw [map_get htp] at hP
    cases hP
    have hmem := List.mem_of_getElem? htp
    refine tgt_2 (K := K) px fun xa xb pa pb => ?_
    obtain rfl : xa = V.int (tp.1 : Nat) := pa
    have s04 := s12.trans (s3.trans s34)
    refine seq_set (P := pTwo K (eL g b C tp.1) (fL g b C tp.1)) (ev_dget2 (P0 := pTwo K 0 1) (ks := keysOf C) (Ps := C.map fun s => pTwo K (eL g b C s) (fL g b C s)) (k := Sum.inl (tp.1 : Int)) (ev_v rfl mono_tab (mono_tab _ _ _ s04 h3)) (ev_v (i := 6) (P := pIs (kV (Sum.inl (tp.1 : Int)))) rfl stay_is.mono rfl)
      (ev_tup (K := K) (eva_cons (ev_g stay_R.mono (Z0 _)) stay_R.mono (eva_cons (ev_g stay_R.mono (Z1 _)) stay_R.mono eva_nil)) (stay_cons stay_R (stay_cons stay_R stay_nil)) (by simp)) (keys_nd nd) (st_tabs g b C) (fun i P' v H' hk hP' pv => ?ga) (fun hn v H' pv => ?gb)) fun vl H5 s5 pl => ?_
    case ga =>
      obtain ⟨s', hs'⟩ := get_of_lt (l := C) (i := i) (by have := lt_of_get hP'; rwa [List.length_map] at this)
      rw [show (keysOf C)[i]? = some (Sum.inl (s' : Int)) from map_get hs'] at hk
      have e := Sum.inl.inj (Option.some.inj hk)
      have e : s' = tp.1 := by omega
      subst e
      rw [map_get hs'] at hP'
      cases hP'
      exact pv
    case gb =>
      rw [key_mem] at hn
      unfold eL fL
      rw [if_neg hn, if_neg hn]
      exact pv
    have stT : ∀ P ∈ [pR K (eL g b C tp.1), pR K (fL g b C tp.1)], Stay P := stay_cons stay_R (stay_cons stay_R stay_nil)
    refine seq_set (ev_R2 (K := K) (f := fun x y => x + y) (ev_v rfl stay_R.mono (stay_R.mono _ _ _ s5 p4)) (ev_R2 (K := K) (f := fun x y => x * y) (ev_v rfl stay_R.mono (stay_R.mono _ _ _ s5 pb)) (ev_ixT (K := K) (i := 0) (ev_v (i := 8) rfl st_two.mono pl) (ev_int (i := 0)) rfl rfl stT) (e1 tp hmem)) (by
      have := e2 (t + 1)
      rw [ex_take htp] at this
      exact this)) fun vn H6 s6 pn => ?_
    refine one_set (ev_R2 (K := K) (f := fun x y => x + y) (ev_v rfl stay_R.mono (stay_R.mono _ _ _ (s5.trans s6) p5)) (ev_R2 (K := K) (f := fun x y => x * y) (ev_v rfl stay_R.mono (stay_R.mono _ _ _ (s5.trans s6) pb)) (ev_ixT (K := K) (i := 1) (ev_v (i := 8) rfl st_two.mono (st_two.mono _ _ _ s6 pl)) (ev_int (i := 1)) rfl rfl stT) (f1 tp hmem)) (by
      have := f2 (t + 1)
      rw [ex_take htp] at this
      exact this)) fun vn2 H7 s7 pn2 => ?_
    refine ⟨vn, vn2, _, _, _, rfl, s34.trans (s5.trans (s6.trans s7)), ?_, ?_⟩
    · rw [ex_take htp]; exact stay_R.mono _ _ _ s7 pn
    · rw [ex_take htp]; exact pn2
  case je =>
    rintro σ H4 ⟨y4, y5, y6, y7, y8, rfl, s34, p4, p5⟩
    rw [List.length_map, List.take_length] at p4 p5
    have s04 := s12.trans (s3.trans s34)
    refine seq_set (ev_R2 (K := K) (f := fun x y => x + y) (ev_ixT (K := K) (i := s) (ev_ixT (i := 0) (ev_v (i := 0) rfl st_game.mono (st_game.mono _ _ _ s04 h1)) (ev_int (i := 0)) rfl rfl (st_gparts g)) (ev_v (i := 1) (P := pInt (s : Nat)) rfl stay_int.mono rfl) rfl (map_get (game_rew lt)) (stay_rs _)) (ev_R2 (K := K) (f := fun x y => x * y) (ev_v rfl stay_R.mono (stay_R.mono _ _ _ s04 h4)) (ev_v rfl stay_R.mono p4) e3) e4) fun vn H5 s5 pn => ?_
    refine one_ret (ev_tup (K := K) (eva_cons (ev_v rfl stay_R.mono pn) stay_R.mono (eva_cons (ev_R2 (K := K) (f := fun x y => x * y) (ev_v rfl stay_R.mono (stay_R.mono _ _ _ (s04.trans s5) h4)) (ev_v rfl stay_R.mono (stay_R.mono _ _ _ s5 p5)) f3) stay_R.mono eva_nil)) (stay_cons stay_R (stay_cons stay_R stay_nil)) (by simp)) fun v H6 s6 p => q v H6 (s04.trans (s5.trans s6)) p
theorem d_next_state (g : Got K mg "next_state" 26 ["game", "inside", "discount"]) (m_range : mg "range" = none) (m_len : mg "len" = none) {z_ONE_leaving : Addr} (m_ONE_leaving : mg "ONE_leaving" = some (.ref z_ONE_leaving)) (Z1 : ∀ H, pR K 1 (.ref z_ONE_leaving) H)
    (D_leave_table : DefOk P w K mg base 7 "leave_table" ["game", "inside", "discount"] (spTab K)) (D_first_play : DefOk P w K mg base 4 "first_play" ["game", "state", "table", "discount"] (spFp K)) (D_divide : DefOk P w K mg base 3 "divide" ["a", "b"] (spDiv K)) (D_subtract : DefOk P w K mg base 3 "subtract" ["a", "b"] (spR2 K fun x y => x - y)) (D_compare : DefOk P w K mg base 1 "compare" ["a", "b"] (spCmp K)) :
    DefOk P w K mg base 8 "next_state" ["game", "inside", "discount"] (spNs K) := by
  refine def_of g sc26 (fun _ => rfl) fun fa cdv A outer s0 H vs Q E a hr sd al q => ?_
  obtain ⟨g, C, b⟩ := a
  obtain ⟨lv, nle, fp, dd, cc⟩ := sd
  simp only at nle fp dd cc
  have nd : C.Nodup := lv.nd
  cases al with | cons h1 al => cases al with | cons h2 al => cases al with | cons h3 al => cases al with | nil =>
  rename_i v1 v2 v3
  have h1 : pGame K g v1 H := h1
  have h2 : pNats K C v2 H := h2
  have h3 : pR K b v3 H := h3
  refine ⟨_, (pss_cons (ps_set (i := 3) sc26.nd rfl (.inl rfl) (pe_callD D_leave_table hr (by rfl) (pa_cons (pv 0) (pa_cons (pv 1) (pa_cons (pv 2) pa_nil)))))
    (pss_cons (ps_set (i := 4) sc26.nd rfl (.inl rfl) pe_non)
    (pss_cons (ps_for PassesOwn.never rfl (pi_range1 rfl m_range (pa_cons (pe_callB call_len_seq (by rfl) m_len PySem.boot_len (pa_cons (pe_ix ix_tup (pv 0) pe_int (fun _ _ => rfl)) pa_nil)) pa_nil)) (pg_name (i := 5) sc26.nd rfl (.inl rfl))
    (pss_cons (ps_if (pt_cmp (pc_din (hu_of hr) (pv 5) (pv 3))) (pss_one ps_continue) pss_nil)
    (pss_cons (ps_asg (pe_callD D_first_play (hr.mono (by decide)) (by rfl) (pa_cons (pv 0) (pa_cons (pv 5) (pa_cons (pv 3) (pa_cons (pv 2) pa_nil))))) (pg_tup rfl (pgs_cons (pg_name (i := 6) sc26.nd rfl (.inl rfl)) (pgs_cons (pg_name (i := 7) sc26.nd rfl (.inl rfl)) pgs_nil))))
    (pss_cons (ps_set (i := 8) sc26.nd rfl (.inl rfl) (pe_callD D_divide (hr.mono (by decide)) (by rfl) (pa_cons (pv 6) (pa_cons (pe_callD D_subtract (hr.mono (by decide)) (by rfl) (pa_cons (pe_glob (v := .ref z_ONE_leaving) rfl m_ONE_leaving rfl) (pa_cons (pv 7) pa_nil))) pa_nil))))
    (pss_one (ps_if (PW.pt (pw_or (pt_cmpR op_isN (pv 4) pe_non (nomark _)) (pw_or1 (pt_cmpR op_gt (pe_callD D_compare (hr.mono (by decide)) (by rfl) (pa_cons (pv 8) (pa_cons (pe_ix ix_tup (pv 4) pe_int (fun _ _ => rfl)) pa_nil))) pe_int (nomark _))))) (pss_one (ps_set (i := 4) sc26.nd rfl (.inl rfl) (pe_tup (pa_cons (pv 5) (pa_cons (pv 8) pa_nil))))) pss_nil))))))
    (pss_one (ps_ret (pv 4)))))), ?_⟩
  refine seq_set (ev_call (args := fun a : LvA => [pGame K a.g, pNats K a.C, pR K a.b]) (side := LvOk) (post := fun a => pTab K a.g a.b a.C) ⟨g, C, b⟩ lv (eva_cons (ev_v rfl st_game.mono h1) st_game.mono (eva_cons (ev_v rfl st_nats.mono h2) st_nats.mono (eva_cons (ev_v rfl stay_R.mono h3) stay_R.mono eva_nil)))) fun vt H1 s1 pt => ?_
  have pt : pTab K g b C vt H1 := pt
  refine seq_set ev_c fun vb H2 s2 pb => ?_
  obtain rfl : vb = .non := pb
  have s12 := s1.trans s2
  refine for_R (iw_range1 (n := g.n) (eva_cons (by
      have e := ev_lenT (K := K) (ta := tOp (rIxT K) (tVar 0) (tC (.int 0))) (H := H2) (σ := [some v1, some v2, some v3, some vt, some .non, none, none, none, none]) (ev_ixT (i := 0) (ev_v (i := 0) rfl st_game.mono (st_game.mono _ _ _ s12 h1)) (ev_int (i := 0)) rfl rfl (st_gparts g))
      rw [List.length_map] at e
      exact e) stay_int.mono eva_nil) (by omega) H2 (Same.refl H2)) (fun k σ H' => ∃ (vb : V) (y5 y6 y7 y8 : Option V), σ = [some v1, some v2, some v3, some vt, some vb, y5, y6, y7, y8] ∧ Same H2 H' ∧ pOpt K (pick (cnd g b C) C k) vb H') (fun H3 s3 => ⟨.non, none, none, none, none, rfl, s3, rfl⟩) ?_ ?_
  · rintro k σ H3 hk ⟨vb, y5, y6, y7, y8, rfl, s3, pb⟩
    have s03 := s12.trans s3
    refine seq_if (et_B (ev_din (ks := keysOf C) (k := Sum.inl (k : Int)) (ev_v (i := 5) (P := pIs (kV (Sum.inl (k : Int)))) rfl stay_is.mono (by show V.int (0 + (k : Nat)) = V.int (k : Nat); rw [Int.zero_add])) (ev_v rfl mono_tab (mono_tab _ _ _ (s2.trans s3) pt)) (keys_nd nd) (b := decide (k ∈ C)) (by rw [decide_eq_true_iff, key_mem]))) fun H4 s4 => ?_
    refine ite2 (fun z => ?_) (fun z => ?_)
    · have hin := of_decide_eq_true z
      refine ⟨vb, _, _, _, _, rfl, s3.trans s4, ?_⟩
      unfold pick
      rw [if_pos hin]
      exact st_opt.mono _ _ _ s4 pb
    · have hin : k ∉ C := fun h => z (decide_eq_true h)
      have s04 := s03.trans s4
      obtain ⟨d1, d2⟩ := dd k hk hin
      refine seq_un2 (K := K) (ev_call (args := fun a : FpA => [pGame K a.g, pInt (a.s : Int), pTab K a.g a.b a.C, pR K a.b]) (side := FpK) (post := fun a => pTwo K (a.g.r a.s + a.b * ex (a.g.row a.s) (eL a.g a.b a.C)) (a.b * ex (a.g.row a.s) (fL a.g a.b a.C))) ⟨g, k, C, b⟩ (fp k hk hin)
        (eva_cons (ev_v rfl st_game.mono (st_game.mono _ _ _ s04 h1)) st_game.mono (eva_cons (ev_v (i := 5) rfl stay_int.mono (by show V.int (0 + (k : Nat)) = V.int (k : Nat); rw [Int.zero_add])) stay_int.mono (eva_cons (ev_v rfl mono_tab (mono_tab _ _ _ (s2.trans (s3.trans s4)) pt)) mono_tab (eva_cons (ev_v rfl stay_R.mono (stay_R.mono _ _ _ s04 h3)) stay_R.mono eva_nil))))) stay_R.mono fun ve vf H5 s5 pe pf => ?_
      refine seq_set (P := pR K (cnd g b C k)) (ev_div (K := K) (ev_v rfl stay_R.mono pe) (ev_R2 (K := K) (f := fun x y => x - y) (ev_g stay_R.mono (Z1 _)) (ev_v rfl stay_R.mono pf) d1) d2 (cc k hk hin)) fun vc H6 s6 pc => ?_
      have s46 := s4.trans (s5.trans s6)
      have pb6 := st_opt.mono _ _ _ s46 pb
      have fin : ∀ (y : V) (H' : Hp), Same H6 H' → pOpt K (pick (cnd g b C) C (k + 1)) y H' → ∃ (vb : V) (y5 y6 y7 y8 : Option V), [some v1, some v2, some v3, some vt, some y, some (.int (0 + (k : Nat))), some ve, some vf, some vc] = [some v1, some v2, some v3, some vt, some vb, y5, y6, y7, y8] ∧ Same H2 H' ∧ pOpt K (pick (cnd g b C) C (k + 1)) vb H' :=
        fun y H' s' p => ⟨y, _, _, _, _, rfl, s3.trans (s46.trans s'), p⟩
      have stay2 : ∀ H', Same H6 H' → ∀ (z : Nat × Rat), pick (cnd g b C) C (k + 1) = some z → pick (cnd g b C) C k = some z → pOpt K (pick (cnd g b C) C (k + 1)) vb H' := fun H' s' z h1 h2 => by
        rw [h1, ← h2]
        exact st_opt.mono _ _ _ s' pb6
      have mk : ∀ H', Same H6 H' → pick (cnd g b C) C (k + 1) = some (k, cnd g b C k) → ∀ y H'', Same H' H'' → pTup K [pInt (0 + (k : Nat)), pR K (cnd g b C k)] y H'' → pOpt K (pick (cnd g b C) C (k + 1)) y H'' := fun H' s' h1 y H'' s'' p => by
        rw [h1]
        rw [Int.zero_add] at p
        exact p
      cases hp : pick (cnd g b C) C k with
      | none =>
        have hn : pick (cnd g b C) C (k + 1) = some (k, cnd g b C k) := by unfold pick; rw [if_neg hin, hp]
        have eb : vb = .non := by rw [hp] at pb; exact pb
        subst eb
        refine one_if (b := true) (et_or (a := true) (et_test (fun H' e Q q => ⟨_, rfl, rfl, q _ _ (Same.refl _) rfl⟩)) (fun h => nomatch h) (fun _ => rfl)) fun H7 s7 => ?_
        rw [if_pos rfl]
        refine one_set (ev_tup (K := K) (eva_cons (ev_v (i := 5) (P := pInt (0 + (k : Nat))) rfl stay_int.mono rfl) stay_int.mono (eva_cons (ev_v rfl stay_R.mono (stay_R.mono _ _ _ s7 pc)) stay_R.mono eva_nil)) (stay_cons stay_int (stay_cons stay_R stay_nil)) (by simp)) fun vn H8 s8 pn => ?_
        exact fin vn H8 (s7.trans s8) (mk H7 s7 hn vn H8 s8 pn)
      | some z =>
        rw [hp] at pb6
        have pb6 : pTup K [pInt (z.1 : Int), pR K z.2] vb H6 := pb6
        have nb : decide (vb = V.non) = false := by
          obtain ⟨_, _, e, _⟩ := pb6
          rw [e]; rfl
        refine one_if (b := decide (z.2 < cnd g b C k)) (et_or (a := false) (et_test (fun H' e Q q => ⟨vb, rfl, rfl, q _ _ (Same.refl _) (by rw [nb]; rfl)⟩)) (fun _ => et_test ((ev_i0 (g := fun i j => .bl (decide (j < i))) (ev_cmp (K := K) (ev_v (i := 8) rfl stay_R.mono pc) (ev_ixT (K := K) (i := 1) (ev_v (i := 4) rfl (stay_tup (stay_cons stay_int (stay_cons stay_R stay_nil))).mono pb6) (ev_int (i := 1)) rfl rfl (stay_cons stay_int (stay_cons stay_R stay_nil)))) (ev_int (i := 0))).imp fun v H' _ p => ?_)) (fun h => nomatch h)) fun H7 s7 => ?_
        · obtain rfl : v = V.bl (decide (0 < cmpI (cnd g b C k) z.2)) := p
          show V.bl _ = V.bl _
          congr 1
          refine decide_eq_decide.mpr ?_
          unfold cmpI
          constructor
          · intro h
            by_cases c1 : cnd g b C k < z.2
            · rw [if_pos c1] at h; omega
            · rw [if_neg c1] at h
              by_cases c2 : z.2 < cnd g b C k
              · exact c2
              · rw [if_neg c2] at h; omega
          · intro h
            rw [if_neg (by grind), if_pos h]; decide
        · refine ite2 (fun y => ?_) (fun y => ?_)
          · have y := of_decide_eq_true y
            have hn : pick (cnd g b C) C (k + 1) = some (k, cnd g b C k) := by unfold pick; rw [if_neg hin, hp]; exact if_pos y
            refine one_set (ev_tup (K := K) (eva_cons (ev_v (i := 5) (P := pInt (0 + (k : Nat))) rfl stay_int.mono rfl) stay_int.mono (eva_cons (ev_v rfl stay_R.mono (stay_R.mono _ _ _ s7 pc)) stay_R.mono eva_nil)) (stay_cons stay_int (stay_cons stay_R stay_nil)) (by simp)) fun vn H8 s8 pn => ?_
            exact fin vn H8 (s7.trans s8) (mk H7 s7 hn vn H8 s8 pn)
          · have y : ¬ z.2 < cnd g b C k := fun h => y (decide_eq_true h)
            have hn : pick (cnd g b C) C (k + 1) = some z := by unfold pick; rw [if_neg hin, hp]; exact if_neg y
            exact fin vb H7 s7 (stay2 H7 s7 z hn hp)
  · rintro σ H3 ⟨vb, y5, y6, y7, y8, rfl, s3, pb⟩
    exact one_ret (ev_v rfl st_opt.mono pb) fun v H4 s4 p => q v H4 (s12.trans (s3.trans s4)) p
/-- the whole order -/
structure IoK (a : Game × Rat) : Prop where
  nle : a.1.n ≤ 60
  ns : ∀ k, k < a.1.n → NsK ⟨a.1, oC a.1 a.2 k, a.2⟩
def pOrd (K : PySem.W.Frag) (sv : Nat × Rat) : VP := pTup K [pInt (sv.1 : Int), pR K sv.2]
theorem st_ord {sv : Nat × Rat} : Stay (pOrd K sv) := stay_tup (stay_cons stay_int (stay_cons stay_R stay_nil))
def spIo (K : PySem.W.Frag) : Sp := Spc (fun a : Game × Rat => [pGame K a.1, pR K a.2]) IoK fun a => pTup K ((List.range a.1.n).map fun k => pOrd K (oP a.1 a.2 k))
theorem d_index_order (g : Got K mg "index_order" 27 ["game", "discount"]) (m_range : mg "range" = none) (m_len : mg "len" = none) (m_sorted : mg "sorted" = none) (m_tuple : mg "tuple" = none)
    (D_next_state : DefOk P w K mg base 8 "next_state" ["game", "inside", "discount"] (spNs K)) : DefOk P w K mg base 9 "index_order" ["game", "discount"] (spIo K) := by
  refine def_of g sc27 (fun _ => rfl) fun fa cdv A outer s0 H vs Q E a hr sd al q => ?_
  obtain ⟨g, b⟩ := a
  obtain ⟨nle, ns⟩ := sd
  simp only at nle ns
  cases al with | cons h1 al => cases al with | cons h2 al => cases al with | nil =>
  rename_i v1 v2
  have h1 : pGame K g v1 H := h1
  have h2 : pR K b v2 H := h2
  refine ⟨_, (pss_cons (ps_set (i := 2) sc27.nd rfl (.inl rfl) (pe_lst pa_nil))
    (pss_cons (ps_set (i := 3) sc27.nd rfl (.inl rfl) (pe_tup pa_nil))
    (pss_cons (ps_for PassesOwn.never rfl (pi_range1 rfl m_range (pa_cons (pe_callB call_len_seq (by rfl) m_len PySem.boot_len (pa_cons (pe_ix ix_tup (pv 0) pe_int (fun _ _ => rfl)) pa_nil)) pa_nil)) (pg_name (i := 4) sc27.nd rfl (.inl rfl))
    (pss_cons (ps_set (i := 5) sc27.nd rfl (.inl rfl) (pe_callD D_next_state hr (by rfl) (pa_cons (pv 0) (pa_cons (pv 3) (pa_cons (pv 1) pa_nil)))))
    (pss_cons (ps_expr (pe_bm PySem.F.plainAttrs_list PySem.F.slot_list_append PySem.F.type_list_append mt_append (pv 2) (pa_cons (pv 5) pa_nil)))
    (pss_one (ps_set (i := 3) sc27.nd rfl (.inl rfl) (pe_callTy call_tuple_of (by rfl) m_tuple (by decide +kernel) (pa_cons (pe_callB cr_sortedT (by rfl) m_sorted (by decide +kernel) (pa_cons (pe_op op_catA (pv 3) (pe_tup (pa_cons (pe_ix ix_tup (pv 5) pe_int (fun _ _ => rfl)) pa_nil))) pa_nil)) pa_nil)))))))
    (pss_one (ps_ret (pe_callTy call_tuple_of (by rfl) m_tuple (by decide +kernel) (pa_cons (pv 2) pa_nil))))))), ?_⟩
  refine seq_nil fun lo no => ?_
  have s1 : Same H (upd H lo (.lst [])) := Same.new no
  refine seq_set (ev_tup (K := K) eva_nil stay_nil (by simp)) fun vi H1 s2 pi => ?_
  have s12 := s1.trans s2
  have hlo := s2 _ _ (upd_same (H := H) (a := lo) (o := .lst []))
  refine for_R (iw_range1 (n := g.n) (eva_cons (by
      have e := ev_lenT (K := K) (ta := tOp (rIxT K) (tVar 0) (tC (.int 0))) (H := H1) (σ := [some v1, some v2, some (.ref lo), some vi, none, none]) (ev_ixT (i := 0) (ev_v (i := 0) rfl st_game.mono (st_game.mono _ _ _ s12 h1)) (ev_int (i := 0)) rfl rfl (st_gparts g))
      rw [List.length_map] at e
      exact e) stay_int.mono eva_nil) (by omega) H1 (Same.refl H1)) (fun k σ H' => ∃ (vi : V) (os : List V) (y4 y5 : Option V), σ = [some v1, some v2, some (.ref lo), some vi, y4, y5] ∧ Same H H' ∧ H' lo = some (.lst os) ∧ Al H' os ((List.range k).map fun k => pOrd K (oP g b k)) ∧ pNats K (oC g b k) vi H')
    (fun H2 s3 => ⟨vi, [], none, none, rfl, s12.trans s3, s3 _ _ hlo, .nil, (stay_tup stay_nil).mono _ _ _ s3 pi⟩) ?_ ?_
  · rintro k σ H2 hk ⟨vi, os, y4, y5, rfl, s3, ho, ao, pi⟩
    obtain ⟨c1, c2, c3, c4⟩ := oC_facts (g := g) (b := b) (k + 1) hk
    obtain ⟨b1, _, _, _⟩ := oC_facts (g := g) (b := b) k (Nat.le_of_lt hk)
    have hp := c4 k (by omega)
    refine seq_set (ev_call (args := fun a : LvA => [pGame K a.g, pNats K a.C, pR K a.b]) (side := NsK) (post := fun a => pOpt K (pick (cnd a.g a.b a.C) a.C a.g.n)) ⟨g, oC g b k, b⟩ (ns k hk) (eva_cons (ev_v rfl st_game.mono (st_game.mono _ _ _ s3 h1)) st_game.mono (eva_cons (ev_v rfl st_nats.mono pi) st_nats.mono (eva_cons (ev_v rfl stay_R.mono (stay_R.mono _ _ _ s3 h2)) stay_R.mono eva_nil)))) fun vc H3 s4 pc => ?_
    have pc : pOrd K (oP g b k) vc H3 := by
      have pc : pOpt K (pick (cnd g b (oC g b k)) (oC g b k) g.n) vc H3 := pc
      rw [hp] at pc
      exact pc
    have lo' := ao.len
    simp only [List.length_map, List.length_range] at lo'
    refine seq_appV (j := 2) (l := lo) rfl (s4 _ _ ho) (by omega) (ev_v (i := 5) rfl st_ord.mono pc) fun vc2 H4 s5 pc2 => ?_
    have ho5 := s5 _ _ (s4 _ _ ho)
    have stw : Stb H4 (upd H4 lo (.lst (os ++ [vc2]))) := Stb.lst ho5
    have sAll : Stb H2 (upd H4 lo (.lst (os ++ [vc2]))) := (Same.stb (s4.trans s5)).trans stw
    have nlo : H lo = none := no
    refine one_set (P := pNats K (oC g b (k + 1))) (ev_tupleL (K := K) (Ps := (srt (oC g b k ++ [(oP g b k).1])).map fun s : Nat => pInt (s : Int)) (ev_sortT (K := K) (C := oC g b k ++ [(oP g b k).1]) ((ev_catT (K := K) (ev_v (i := 3) rfl st_nats.mono (st_nats _ _ _ sAll pi)) (ev_tup (K := K) (eva_cons (ev_ixT (K := K) (i := 0) (ev_v (i := 5) rfl st_ord.mono (st_ord _ _ _ ((Same.stb s5).trans stw) pc)) (ev_int (i := 0)) rfl rfl (stay_cons stay_int (stay_cons stay_R stay_nil))) stay_int.mono eva_nil) (stay_cons stay_int stay_nil) (by simp)) (st_ints _) (stay_cons stay_int stay_nil) (by simp; omega)).imp fun v H' _ p => by
        unfold pNats
        rw [List.map_append]
        exact p) (by simp; omega)).lst (st_ints _)) fun vn H5 s6 pn => ?_
    have s4' : Same H (upd H4 lo (.lst (os ++ [vc2]))) := Same.upd (s3.trans (s4.trans s5)) nlo
    refine ⟨vn, os ++ [vc2], _, _, rfl, s4'.trans s6, s6 _ _ upd_same, ?_, pn⟩
    rw [List.range_succ, List.map_append]
    exact (ao.imp fun P hP v hv => stay_map (fun _ => st_ord) P hP v _ _ (sAll.trans (Same.stb s6)) hv).app (.one (st_ord _ _ _ (stw.trans (Same.stb s6)) pc2))
  · rintro σ H2 ⟨vi, os, y4, y5, rfl, s3, ho, ao, pi⟩
    have st : ∀ P ∈ (List.range g.n).map (fun k => pOrd K (oP g b k)), Stay P := stay_map fun _ => st_ord
    exact one_ret (ev_tupleL (K := K) (ev_v (i := 2) rfl (mono_lst fun P hP => (st P hP).mono) ⟨lo, os, rfl, .of ho, ao⟩) st) fun v H4 s4 p => q v H4 (s3.trans s4) p
end
end AC
end
section
set_option maxRecDepth 100000
/-! The walk: curves by knots. -/
namespace AC
open PySem PySem.Spec PyProof.Rows L2 ACD
variable {K : PySem.W.Frag}
theorem sc31 : FnScope ["left", "right"] ["left", "right"] (defScope (topS 31)) := ⟨rfl, rfl, rfl, by decide +kernel, rfl, by decide +kernel, by decide +kernel⟩
theorem sc33 : FnScope ["knots", "amount", "k"] ["knots", "amount"] (defScope (topS 33)) := ⟨rfl, rfl, rfl, by decide +kernel, rfl, by decide +kernel, by decide +kernel⟩
theorem sc34 : FnScope ["knots", "before", "k", "slope"] ["knots"] (defScope (topS 34)) := ⟨rfl, rfl, rfl, by decide +kernel, rfl, by decide +kernel, by decide +kernel⟩
theorem sc35 : FnScope ["points", "knots", "before", "k", "after"] ["points"] (defScope (topS 35)) := ⟨rfl, rfl, rfl, by decide +kernel, rfl, by decide +kernel, by decide +kernel⟩
theorem sc36 : FnScope ["first", "second", "amounts", "i", "j", "order"] ["first", "second"] (defScope (topS 36)) := ⟨rfl, rfl, rfl, by decide +kernel, rfl, by decide +kernel, by decide +kernel⟩
theorem sc37 : FnScope ["first", "second", "amounts", "value", "points", "k", "slope"] ["first", "second"] (defScope (topS 37)) := ⟨rfl, rfl, rfl, by decide +kernel, rfl, by decide +kernel, by decide +kernel⟩
def pPt (K : PySem.W.Frag) (p : Pt) : VP := pTwo K p.1 p.2
theorem st_pt {p : Pt} : Stay (pPt K p) := st_two
def pPts (K : PySem.W.Frag) (ks : List Pt) : VP := pTup K (ks.map (pPt K))
theorem st_ptl (ks : List Pt) : ∀ P ∈ ks.map (pPt K), Stay P := stay_map fun _ => st_pt
theorem st_pts {ks : List Pt} : Stay (pPts K ks) := stay_tup (st_ptl ks)
theorem st_rr (x y : Rat) : ∀ P ∈ [pR K x, pR K y], Stay P := stay_cons stay_R (stay_cons stay_R stay_nil)
/-- a piece whose numbers are small -/
structure LnK (p q : Pt) : Prop where
  lt : p.1 < q.1
  a : Ok (q.2 - p.2)
  b : Ok (q.1 - p.1)
  c : Ok (line p q)
def Lns (ks : List Pt) : Prop := ∀ i p q, ks[i]? = some p → ks[i + 1]? = some q → LnK p q
def spLine (K : PySem.W.Frag) : Sp := Spc (fun a : Pt × Pt => [pPt K a.1, pPt K a.2]) (fun a => LnK a.1 a.2) fun a => pR K (line a.1 a.2)
theorem ev_line {σ : L2.St} {H : Hp} {ta tb : TE} {p q : Pt} (ha : Ev ta σ H (pPt K p)) (hb : Ev tb σ H (pPt K q)) (h : LnK p q) : Ev (tCall (spLine K) [] E0 (tCons ta (tCons tb tNil))) σ H (pR K (line p q)) :=
  ev_call (args := fun a : Pt × Pt => [pPt K a.1, pPt K a.2]) (side := fun a => LnK a.1 a.2) (post := fun a => pR K (line a.1 a.2)) (p, q) h (eva_cons ha st_pt.mono (eva_cons hb st_pt.mono eva_nil))
/-- compare(a, b) < 0 and its like, as tests -/
theorem et_lt {σ : L2.St} {H : Hp} {ta tb : TE} {x y : Rat} (ha : Ev ta σ H (pR K x)) (hb : Ev tb σ H (pR K y)) : EvT (tTest (tOp (rI0 fun i j => .bl (decide (i < j))) (tCall (spCmp K) [] E0 (tCons ta (tCons tb tNil))) (tC (.int 0)))) σ H (decide (x < y)) :=
  et_test ((ev_i0 (ev_cmp ha hb) (ev_int (i := 0))).imp fun v H' _ p => by
    obtain rfl : v = V.bl (decide (cmpI x y < 0)) := p
    show V.bl _ = V.bl _
    congr 1
    refine decide_eq_decide.mpr ?_
    unfold cmpI
    by_cases c : x < y
    · rw [if_pos c]; exact ⟨fun _ => c, fun _ => by decide⟩
    · rw [if_neg c]
      refine ⟨fun h => ?_, fun h => absurd h c⟩
      split at h <;> omega)
theorem et_gt {σ : L2.St} {H : Hp} {ta tb : TE} {x y : Rat} (ha : Ev ta σ H (pR K x)) (hb : Ev tb σ H (pR K y)) : EvT (tTest (tOp (rI0 fun i j => .bl (decide (j < i))) (tCall (spCmp K) [] E0 (tCons ta (tCons tb tNil))) (tC (.int 0)))) σ H (decide (y < x)) :=
  et_test ((ev_i0 (ev_cmp ha hb) (ev_int (i := 0))).imp fun v H' _ p => by
    obtain rfl : v = V.bl (decide (0 < cmpI x y)) := p
    show V.bl _ = V.bl _
    congr 1
    refine decide_eq_decide.mpr ?_
    unfold cmpI
    by_cases c : x < y
    · rw [if_pos c]; exact ⟨fun h => by omega, fun h => by exfalso; grind⟩
    · rw [if_neg c]
      by_cases d : y < x
      · rw [if_pos d]; exact ⟨fun _ => d, fun _ => by decide⟩
      · rw [if_neg d]; exact ⟨fun h => by omega, fun h => absurd h d⟩)
theorem et_le {σ : L2.St} {H : Hp} {ta tb : TE} {x y : Rat} (ha : Ev ta σ H (pR K x)) (hb : Ev tb σ H (pR K y)) : EvT (tTest (tOp (rI0 fun i j => .bl (decide (i ≤ j))) (tCall (spCmp K) [] E0 (tCons ta (tCons tb tNil))) (tC (.int 0)))) σ H (decide (x ≤ y)) :=
  et_test ((ev_i0 (ev_cmp ha hb) (ev_int (i := 0))).imp fun v H' _ p => by
    obtain rfl : v = V.bl (decide (cmpI x y ≤ 0)) := p
    show V.bl _ = V.bl _
    congr 1
    refine decide_eq_decide.mpr ?_
    unfold cmpI
    by_cases c : x < y
    · rw [if_pos c]; exact ⟨fun h => Rat.le_of_lt c, fun h => by omega⟩
    · rw [if_neg c]
      by_cases d : y < x
      · rw [if_pos d]; exact ⟨fun h => by omega, fun h => by exfalso; grind⟩
      · rw [if_neg d]; exact ⟨fun _ => by grind, fun h => by omega⟩)
theorem et_ge {σ : L2.St} {H : Hp} {ta tb : TE} {x y : Rat} (ha : Ev ta σ H (pR K x)) (hb : Ev tb σ H (pR K y)) : EvT (tTest (tOp (rI0 fun i j => .bl (decide (j ≤ i))) (tCall (spCmp K) [] E0 (tCons ta (tCons tb tNil))) (tC (.int 0)))) σ H (decide (y ≤ x)) :=
  et_test ((ev_i0 (ev_cmp ha hb) (ev_int (i := 0))).imp fun v H' _ p => by
    obtain rfl : v = V.bl (decide (0 ≤ cmpI x y)) := p
    show V.bl _ = V.bl _
    congr 1
    refine decide_eq_decide.mpr ?_
    unfold cmpI
    by_cases c : x < y
    · rw [if_pos c]; exact ⟨fun h => by omega, fun h => by exfalso; grind⟩
    · rw [if_neg c]
      by_cases d : y < x
      · rw [if_pos d]; exact ⟨fun _ => Rat.le_of_lt d, fun h => by omega⟩
      · rw [if_neg d]; exact ⟨fun _ => by grind, fun h => by omega⟩)
theorem et_ne {σ : L2.St} {H : Hp} {ta tb : TE} {x y : Rat} (ha : Ev ta σ H (pR K x)) (hb : Ev tb σ H (pR K y)) : EvT (tTest (tOp rNe (tCall (spCmp K) [] E0 (tCons ta (tCons tb tNil))) (tC (.int 0)))) σ H (!decide (x = y)) := fun H1 e Q q =>
  ev_cmp ha hb H1 e _ fun v H2 s p => by
    obtain rfl : v = V.int (cmpI x y) := p
    refine ⟨rfl, _, rfl, ?_⟩
    have : decide (V.int (cmpI x y) = V.int 0) = decide (x = y) := decide_eq_decide.mpr (by
      unfold cmpI
      constructor
      · intro h
        have h := V.int.inj h
        by_cases c : x < y
        · rw [if_pos c] at h; omega
        · rw [if_neg c] at h
          by_cases d : y < x
          · rw [if_pos d] at h; omega
          · grind
      · intro h
        rw [h, if_neg (by grind), if_neg (by grind)])
    rw [this]
    exact q H2 s
theorem et_eq {σ : L2.St} {H : Hp} {ta tb : TE} {x y : Rat} (ha : Ev ta σ H (pR K x)) (hb : Ev tb σ H (pR K y)) : EvT (tTest (tOp rEq (tCall (spCmp K) [] E0 (tCons ta (tCons tb tNil))) (tC (.int 0)))) σ H (decide (x = y)) := fun H1 e Q q =>
  ev_cmp ha hb H1 e _ fun v H2 s p => by
    obtain rfl : v = V.int (cmpI x y) := p
    refine ⟨rfl, _, rfl, ?_⟩
    have : decide (V.int (cmpI x y) = V.int 0) = decide (x = y) := decide_eq_decide.mpr (by
      unfold cmpI
      constructor
      · intro h
        have h := V.int.inj h
        by_cases c : x < y
        · rw [if_pos c] at h; omega
        · rw [if_neg c] at h
          by_cases d : y < x
          · rw [if_pos d] at h; omega
          · grind
      · intro h
        rw [h, if_neg (by grind), if_neg (by grind)])
    rw [this]
    exact q H2 s
def spSlope (K : PySem.W.Frag) : Sp := Spc (fun a : List Pt × Rat => [pPts K a.1, pR K a.2]) (fun a => a.1 ≠ [] ∧ a.1.length ≤ 1000 ∧ Lns a.1) fun a => pR K (slp a.1 a.2)
theorem goS_drop {ks : List Pt} {i : Nat} {p q : Pt} (h1 : ks[i]? = some p) (h2 : ks[i + 1]? = some q) (m : Rat) : goS (ks.drop i) m = if m < q.1 then line p q else goS (ks.drop (i + 1)) m := by
  obtain ⟨l1, e1⟩ := List.getElem?_eq_some_iff.mp h1
  obtain ⟨l2, e2⟩ := List.getElem?_eq_some_iff.mp h2
  rw [List.drop_eq_getElem_cons l1, List.drop_eq_getElem_cons l2, e1, e2, goS]
section
variable {P : Program} {w : World} {mg : Str → Option Value} {base : Heap}
theorem d_line_slope (g : Got K mg "line_slope" 31 ["left", "right"]) (D_divide : DefOk P w K mg base 3 "divide" ["a", "b"] (spDiv K)) (D_subtract : DefOk P w K mg base 3 "subtract" ["a", "b"] (spR2 K fun x y => x - y)) :
    DefOk P w K mg base 4 "line_slope" ["left", "right"] (spLine K) := by
  refine def_of g sc31 (fun _ => rfl) fun fa cdv A outer s H vs Q E a hr sd al q => ?_
  obtain ⟨p, q'⟩ := a
  obtain ⟨lt, oa, ob, oc⟩ := sd
  simp only at lt oa ob oc
  cases al with | cons h1 al => cases al with | cons h2 al => cases al with | nil =>
  have h1 : pPt K p _ H := h1
  have h2 : pPt K q' _ H := h2
  refine ⟨_, (pss_one (ps_ret (pe_callD D_divide hr (by rfl) (pa_cons (pe_callD D_subtract hr (by rfl) (pa_cons (pe_ix ix_tup (pv 1) pe_int (fun _ _ => rfl)) (pa_cons (pe_ix ix_tup (pv 0) pe_int (fun _ _ => rfl)) pa_nil))) (pa_cons (pe_callD D_subtract hr (by rfl) (pa_cons (pe_ix ix_tup (pv 1) pe_int (fun _ _ => rfl)) (pa_cons (pe_ix ix_tup (pv 0) pe_int (fun _ _ => rfl)) pa_nil))) pa_nil))))), ?_⟩
  exact one_ret (ev_div (K := K) (ev_R2 (K := K) (f := fun x y => x - y) (ev_ixT (K := K) (i := 1) (ev_v (i := 1) rfl st_pt.mono h2) (ev_int (i := 1)) rfl rfl (st_rr _ _)) (ev_ixT (K := K) (i := 1) (ev_v (i := 0) rfl st_pt.mono h1) (ev_int (i := 1)) rfl rfl (st_rr _ _)) oa)
    (ev_R2 (K := K) (f := fun x y => x - y) (ev_ixT (K := K) (i := 0) (ev_v (i := 1) rfl st_pt.mono h2) (ev_int (i := 0)) rfl rfl (st_rr _ _)) (ev_ixT (K := K) (i := 0) (ev_v (i := 0) rfl st_pt.mono h1) (ev_int (i := 0)) rfl rfl (st_rr _ _)) ob) (by grind) oc) q
theorem d_slope_at (g : Got K mg "slope_at" 33 ["knots", "amount"]) (m_range : mg "range" = none) (m_len : mg "len" = none) {z_ZERO_knots z_ONE_knots : Addr} (m_ZERO_knots : mg "ZERO_knots" = some (.ref z_ZERO_knots)) (m_ONE_knots : mg "ONE_knots" = some (.ref z_ONE_knots)) (Z0 : ∀ H, pR K 0 (.ref z_ZERO_knots) H) (Z1 : ∀ H, pR K 1 (.ref z_ONE_knots) H)
    (D_line_slope : DefOk P w K mg base 4 "line_slope" ["left", "right"] (spLine K)) (D_compare : DefOk P w K mg base 1 "compare" ["a", "b"] (spCmp K)) : DefOk P w K mg base 5 "slope_at" ["knots", "amount"] (spSlope K) := by
  refine def_of g sc33 (fun _ => rfl) fun fa cdv A outer s H vs Q E a hr sd al q => ?_
  obtain ⟨ks, m⟩ := a
  obtain ⟨ne, le, ln⟩ := sd
  simp only at ne le ln q
  cases al with | cons h1 al => cases al with | cons h2 al => cases al with | nil =>
  rename_i v1 v2
  have h1 : pPts K ks v1 H := h1
  have h2 : pR K m v2 H := h2
  obtain ⟨p0, r, e0⟩ : ∃ p0 r, ks = p0 :: r := by
    cases ks with
    | nil => exact absurd rfl ne
    | cons p r => exact ⟨p, r, rfl⟩
  have g0 : ks[0]? = some p0 := by rw [e0]; rfl
  have hslp : slp ks m = if m < p0.1 then 0 else goS ks m := by rw [e0]; rfl
  refine ⟨_, (pss_cons (ps_if (pt_cmpR op_lt (pe_callD D_compare (hr.mono (by decide)) (by rfl) (pa_cons (pv 1) (pa_cons (pe_ix ix_tup (pe_ix ix_tup (pv 0) pe_int (fun _ _ => rfl)) pe_int (fun _ _ => rfl)) pa_nil))) pe_int (nomark _)) (pss_one (ps_ret (pe_glob (v := .ref z_ZERO_knots) rfl m_ZERO_knots rfl))) pss_nil)
    (pss_cons (ps_for PassesOwn.never rfl (pi_range2 rfl m_range (pa_cons pe_int (pa_cons (pe_callB call_len_seq (by rfl) m_len PySem.boot_len (pa_cons (pv 0) pa_nil)) pa_nil))) (pg_name (i := 2) sc33.nd rfl (.inl rfl))
    (pss_one (ps_if (pt_cmpR op_lt (pe_callD D_compare (hr.mono (by decide)) (by rfl) (pa_cons (pv 1) (pa_cons (pe_ix ix_tup (pe_ix ix_tup (pv 0) (pv 2) (fun _ _ => rfl)) pe_int (fun _ _ => rfl)) pa_nil))) pe_int (nomark _)) (pss_one (ps_ret (pe_callD D_line_slope hr (by rfl) (pa_cons (pe_ix ix_tup (pv 0) (pe_op op_sub (pv 2) pe_int) (fun _ _ => rfl)) (pa_cons (pe_ix ix_tup (pv 0) (pv 2) (fun _ _ => rfl)) pa_nil))))) pss_nil)))
    (pss_one (ps_ret (pe_glob (v := .ref z_ONE_knots) rfl m_ONE_knots rfl))))), ?_⟩
  refine seq_if (et_lt (K := K) (ev_v (i := 1) rfl stay_R.mono h2) (ev_ixT (K := K) (i := 0) (ev_ixT (K := K) (i := 0) (ev_v (i := 0) rfl st_pts.mono h1) (ev_int (i := 0)) rfl (map_get g0) (st_ptl ks)) (ev_int (i := 0)) rfl rfl (st_rr _ _))) fun H1 s1 => ?_
  refine ite2 (fun z => ?_) (fun z => ?_)
  · have z := of_decide_eq_true z
    refine one_ret (ev_g stay_R.mono (Z0 _)) fun v H2 s2 p => q v H2 (s1.trans s2) ?_
    rw [hslp, if_pos z]
    exact p
  · have z : ¬ m < p0.1 := fun h => z (decide_eq_true h)
    rw [if_neg z] at hslp
    obtain ⟨n, hn⟩ : ∃ n, ks.length = n + 1 := ⟨r.length, by rw [e0]; rfl⟩
    refine for_R (iw_range2 (a := 1) (n := n) (eva_cons (ev_int (i := 1)) stay_int.mono (eva_cons (by
        have e := ev_lenT (K := K) (ta := tVar 0) (H := H1) (σ := [some v1, some v2, none]) (ev_v (i := 0) (P := pPts K ks) rfl st_pts.mono (st_pts.mono _ _ _ s1 h1))
        rw [List.length_map, hn] at e
        rw [show 1 + n = n + 1 by omega]
        exact e) stay_int.mono eva_nil)) (by omega) H1 (Same.refl H1)) (fun i σ H' => ∃ y2, σ = [some v1, some v2, y2] ∧ Same H H' ∧ goS (ks.drop i) m = goS ks m) (fun H2 s2 => ⟨none, rfl, s1.trans s2, rfl⟩) ?_ ?_
    · rintro i σ H2 hi ⟨y2, rfl, s2, ih⟩
      obtain ⟨p, hp⟩ := get_of_lt (l := ks) (i := i) (by omega)
      obtain ⟨q', hq⟩ := get_of_lt (l := ks) (i := i + 1) (by omega)
      have gd := goS_drop hp hq m
      refine one_if (et_lt (K := K) (ev_v (i := 1) rfl stay_R.mono (stay_R.mono _ _ _ s2 h2)) (ev_ixT (K := K) (i := 0) (ev_ixT (K := K) (i := i + 1) (ev_v (i := 0) rfl st_pts.mono (st_pts.mono _ _ _ s2 h1)) (ev_v (i := 2) (P := pInt ((1 : Nat) + (i : Nat))) rfl stay_int.mono rfl) (by omega) (map_get hq) (st_ptl ks)) (ev_int (i := 0)) rfl rfl (st_rr _ _))) fun H3 s3 => ?_
      refine ite2 (fun y => ?_) (fun y => ?_)
      · have y := of_decide_eq_true y
        have s23 := s2.trans s3
        refine one_ret (ev_line (K := K) (p := p) (q := q') (ev_ixT (K := K) (i := i) (ev_v (i := 0) rfl st_pts.mono (st_pts.mono _ _ _ s23 h1)) (ev_i0 (ev_v (i := 2) (P := pInt ((1 : Nat) + (i : Nat))) rfl stay_int.mono rfl) (ev_int (i := 1))) (by omega) (map_get hp) (st_ptl ks))
          (ev_ixT (K := K) (i := i + 1) (ev_v (i := 0) rfl st_pts.mono (st_pts.mono _ _ _ s23 h1)) (ev_v (i := 2) (P := pInt ((1 : Nat) + (i : Nat))) rfl stay_int.mono rfl) (by omega) (map_get hq) (st_ptl ks)) (ln i p q' hp hq)) fun v H4 s4 pv => q v H4 (s23.trans s4) ?_
        rw [hslp, ← ih, gd, if_pos y]
        exact pv
      · have y : ¬ m < q'.1 := fun h => y (decide_eq_true h)
        rw [if_neg y] at gd
        exact ⟨_, rfl, s2.trans s3, gd.symm.trans ih⟩
    · rintro σ H2 ⟨y2, rfl, s2, ih⟩
      refine one_ret (ev_g stay_R.mono (Z1 _)) fun v H3 s3 pv => q v H3 (s2.trans s3) ?_
      obtain ⟨p, hp⟩ := get_of_lt (l := ks) (i := n) (by omega)
      obtain ⟨l1, e1⟩ := List.getElem?_eq_some_iff.mp hp
      rw [hslp, ← ih, List.drop_eq_getElem_cons l1, List.drop_eq_nil_of_le (by omega)]
      exact pv
end
end AC
end
section
set_option maxRecDepth 100000
/-! The walk: the form of a curve, straightening, amounts, the product. -/
namespace AC
open PySem PySem.Spec PyProof.Rows L2 ACD
variable {K : PySem.W.Frag}
theorem seq_cut {t u : TS} {D : Ends} {σ : L2.St} {H : Hp} (Mid : L2.St → Hp → Prop) (h : t { D with nx := Mid } σ H) (k : ∀ σ' H', Mid σ' H' → u D σ' H') : C8.tCut t u D σ H := ⟨Mid, h, k⟩
theorem drop_get {α : Type} {l : List α} {i : Nat} {x : α} (h : l[i]? = some x) : l.drop i = x :: l.drop (i + 1) := by
  obtain ⟨l1, e1⟩ := List.getElem?_eq_some_iff.mp h
  rw [List.drop_eq_getElem_cons l1, e1]
def spWrong (K : PySem.W.Frag) : Sp := Spc (fun ks : List Pt => [pPts K ks]) (fun ks => WF ks ∧ Lns ks ∧ ks.length ≤ 1000) fun _ => pIs .non
def spStr (K : PySem.W.Frag) : Sp := Spc (fun ks : List Pt => [pLst K (ks.map (pPt K))]) (fun ks => Lns ks ∧ ks.length ≤ 900) fun ks => pPts K (strF 0 ks)
def spMrg (K : PySem.W.Frag) : Sp := Spc (fun a : List Pt × List Pt => [pPts K a.1, pPts K a.2]) (fun a => a.1.length + a.2.length ≤ 900) fun a => pOwn ((amts a.1 a.2).map (pR K))
theorem str_step {ks : List Pt} {k : Nat} {p : Pt} (b : Rat) (h : ks[k]? = some p) {af : Rat} (ha : ∀ q, ks[k + 1]? = some q → af = line p q) (hb : ks[k + 1]? = none → af = 1) : strF b (ks.drop k) = (if b = af then [] else [p]) ++ strF af (ks.drop (k + 1)) := by
  rw [drop_get h]
  cases hq : ks[k + 1]? with
  | none =>
    have e : ks.drop (k + 1) = [] := List.drop_eq_nil_of_le (by
      by_cases c : ks.length ≤ k + 1
      · exact c
      · rw [List.getElem?_eq_getElem (by omega)] at hq; cases hq)
    rw [e, strF, strF, hb hq, List.append_nil]
  | some q =>
    rw [drop_get hq, strF, ha q hq]
    by_cases c : b = line p q
    · rw [if_pos c, if_pos c]; rfl
    · rw [if_neg c, if_neg c]; rfl
theorem mrg_nilr : ∀ l : List Rat, mrg l [] = l
  | [] => by rw [mrg]
  | _ :: _ => by rw [mrg]
theorem mrg_len : ∀ (as bs : List Rat), (mrg as bs).length ≤ as.length + bs.length
  | [], bs => by rw [mrg]; simp
  | a :: as, [] => by rw [mrg]; simp
  | a :: as, b :: bs => by
    rw [mrg]
    split
    · have := mrg_len as (b :: bs); simp only [List.length_cons] at *; omega
    · split
      · have := mrg_len (a :: as) bs; simp only [List.length_cons] at *; omega
      · have := mrg_len as bs; simp only [List.length_cons] at *; omega
  termination_by as bs => as.length + bs.length
structure PrK (a b : List Pt) : Prop where
  wa : WF a
  wb : WF b
  le : a.length + b.length ≤ 800
  la : Lns a
  lb : Lns b
  sl : ∀ x ∈ amts a b, Ok (slp a x * slp b x)
  sp : ∀ i x y, (amts a b)[i]? = some x → (amts a b)[i + 1]? = some y → Ok (y - x) ∧ Ok (slp a x * slp b x * (y - x))
  vl : ∀ p ∈ ppts a b (amts a b), Ok p.2
  lp : Lns (ppts a b (amts a b))
def spProd (K : PySem.W.Frag) : Sp := Spc (fun a : List Pt × List Pt => [pPts K a.1, pPts K a.2]) (fun a => PrK a.1 a.2) fun a => pPts K (prodK a.1 a.2)
theorem ppts_drop (a b : List Pt) : ∀ (A : List Rat) (i : Nat), (ppts a b A).drop i = ppts a b (A.drop i)
  | A, 0 => rfl
  | [], _ + 1 => by simp [ppts]
  | [x], i + 1 => by simp [ppts]
  | x :: y :: r, i + 1 => by
    obtain ⟨v, t, e1, e2⟩ := ppts_cons a b x y r
    rw [e2, List.drop_succ_cons, List.drop_succ_cons, ← e1]
    exact ppts_drop a b (y :: r) i
theorem iw_down {σ : L2.St} {H : Hp} {ta : TA} {i : Int} {n : Nat} (h : EvA ta σ H [pInt i, pInt (-1), pInt (-1)]) (hi : -1 ≤ i) (hi2 : i ≤ 1000000) (hn : (i + 1).toNat = n) : ∀ R : It → Hp → Prop, (∀ H2, Same H H2 → R (Itc i (-1) n) H2) → iRng3 ta σ H R := fun R q => by
  refine h H (Same.refl H) _ fun vs H2 s2 al => ?_
  cases al with | cons h1 al => cases al with | cons h2 al => cases al with | cons h3 al => cases al with | nil =>
  refine ⟨i, -1, -1, n, by rw [show _ = V.int i from h1, show _ = V.int (-1) from h2, show _ = V.int (-1) from h3], ?_, q H2 s2⟩
  have := RgC.neg (i := i) (j := -1) (by omega) (by omega) (by omega) (by omega)
  rw [show (i - -1).toNat = n by omega] at this
  exact this
theorem for_down {wi : TI} {g : TG} {tb u : TS} {D : Ends} {σ : L2.St} {H : Hp} {i : Int} {n : Nat} (hw : ∀ R : It → Hp → Prop, (∀ H2, Same H H2 → R (Itc i (-1) n) H2) → wi σ H R) (Pv : Nat → L2.St → Hp → Prop) (h0 : ∀ H2, Same H H2 → Pv 0 σ H2)
    (hs : ∀ j σ H, j < n → Pv j σ H → g (.int (i + (j : Nat) * (-1))) σ H fun σ2 H2 => tb { D with nx := Pv (j + 1), ct := Pv (j + 1), bk := u D } σ2 H2) (hd : ∀ σ H, Pv n σ H → u D σ H) : tSeq (tFor wi g tb) u D σ H :=
  hw _ fun H2 s2 => for_it (D := { D with nx := u D }) walk_rangeC Pv (h0 H2 s2) (fun _ _ _ _ _ => trivial) (fun j x σ H H' hj p y => by
    obtain ⟨rfl, rfl⟩ := y
    exact hs j σ _ hj p) hd
theorem ev_new1 {σ : L2.St} {H : Hp} {te : TE} {P : VP} (h : Ev te σ H P) (st : Stay P) : Ev (tLst (tCons te tNil)) σ H (pNew H [P]) := fun H1 e Q q =>
  h H1 e _ fun v H2 s2 p => ⟨by show 1 ≤ sizeLine; decide, fun l hl => q _ _ (s2.trans (Same.new hl)) ⟨l, [v], rfl, Same.free (e.trans s2) hl, upd_same, .one (st v _ _ (Same.stb (Same.new hl)) p)⟩⟩
section
variable {P : Program} {w : World} {mg : Str → Option Value} {base : Heap}
theorem d_first_wrong (g : Got K mg "first_wrong" 34 ["knots"]) (m_range : mg "range" = none) (m_len : mg "len" = none) {z_ZERO_knots z_ONE_knots : Addr} (m_ZERO_knots : mg "ZERO_knots" = some (.ref z_ZERO_knots)) (m_ONE_knots : mg "ONE_knots" = some (.ref z_ONE_knots)) (Z0 : ∀ H, pR K 0 (.ref z_ZERO_knots) H) (Z1 : ∀ H, pR K 1 (.ref z_ONE_knots) H)
    (D_line_slope : DefOk P w K mg base 4 "line_slope" ["left", "right"] (spLine K)) (D_compare : DefOk P w K mg base 1 "compare" ["a", "b"] (spCmp K)) : DefOk P w K mg base 5 "first_wrong" ["knots"] (spWrong K) := by
  refine def_of g sc34 (fun _ => rfl) fun fa cdv A outer s H vs Q E ks hr sd al q => ?_
  obtain ⟨wf, ln, le⟩ := sd
  cases al with | cons h1 al => cases al with | nil =>
  rename_i v1
  refine ⟨_, (pss_cons (ps_set (i := 1) sc34.nd rfl (.inl rfl) (pe_glob (v := .ref z_ZERO_knots) rfl m_ZERO_knots rfl))
    (pss_cons (ps_for PassesOwn.never rfl (pi_range1 rfl m_range (pa_cons (pe_callB call_len_seq (by rfl) m_len PySem.boot_len (pa_cons (pv 0) pa_nil)) pa_nil)) (pg_name (i := 2) sc34.nd rfl (.inl rfl))
    (C8.pss_cut (ps_if (pt_cmpR op_gt (pv 2) pe_int (nomark _)) (pss_cons (ps_if (pt_cmpR op_le (pe_callD D_compare (hr.mono (by decide)) (by rfl) (pa_cons (pe_ix ix_tup (pe_ix ix_tup (pv 0) (pv 2) (fun _ _ => rfl)) pe_int (fun _ _ => rfl)) (pa_cons (pe_ix ix_tup (pe_ix ix_tup (pv 0) (pe_op op_sub (pv 2) pe_int) (fun _ _ => rfl)) pe_int (fun _ _ => rfl)) pa_nil))) pe_int (nomark _)) (pss_one (ps_ret (pv 2))) pss_nil)
    (pss_cons (ps_set (i := 3) sc34.nd rfl (.inl rfl) (pe_callD D_line_slope hr (by rfl) (pa_cons (pe_ix ix_tup (pv 0) (pe_op op_sub (pv 2) pe_int) (fun _ _ => rfl)) (pa_cons (pe_ix ix_tup (pv 0) (pv 2) (fun _ _ => rfl)) pa_nil))))
    (pss_cons (ps_if (PW.pt (pw_or (pt_cmpR op_ge (pe_callD D_compare (hr.mono (by decide)) (by rfl) (pa_cons (pv 3) (pa_cons (pe_glob (v := .ref z_ONE_knots) rfl m_ONE_knots rfl) pa_nil))) pe_int (nomark _)) (pw_or1 (pt_cmpR op_le (pe_callD D_compare (hr.mono (by decide)) (by rfl) (pa_cons (pv 3) (pa_cons (pv 1) pa_nil))) pe_int (nomark _))))) (pss_one (ps_ret (pv 2))) pss_nil)
    (pss_one (ps_set (i := 1) sc34.nd rfl (.inl rfl) (pv 3)))))) pss_nil)
    (pss_one (ps_if (PW.pt (pw_and (pt_cmpR op_eq (pv 2) (pe_op op_sub (pe_callB call_len_seq (by rfl) m_len PySem.boot_len (pa_cons (pv 0) pa_nil)) pe_int) (nomark _)) (pw_and1 (pt_cmpR op_ne (pe_callD D_compare (hr.mono (by decide)) (by rfl) (pa_cons (pe_ix ix_tup (pe_ix ix_tup (pv 0) (pv 2) (fun _ _ => rfl)) pe_int (fun _ _ => rfl)) (pa_cons (pe_ix ix_tup (pe_ix ix_tup (pv 0) (pv 2) (fun _ _ => rfl)) pe_int (fun _ _ => rfl)) pa_nil))) pe_int (nomark _))))) (pss_one (ps_ret (pv 2))) pss_nil))))
    (pss_one (ps_ret pe_non)))), ?_⟩
  refine seq_set (ev_g stay_R.mono (Z0 _)) fun vb H1 s1 pb => ?_
  have hlen : ∀ H2, Same H H2 → ∀ σ : L2.St, σ[0]? = some (some v1) → Ev (tCB (fun xs H Q => ∃ p ys, xs = [.ref p] ∧ (SqL K H p ys ∨ SqT K H p ys) ∧ Q (.int ys.length) H) (tCons (tVar 0) tNil)) σ H2 (pInt (ks.length : Nat)) := fun H2 s2 σ h0 => by
    have e := ev_lenT (K := K) (ta := tVar 0) (H := H2) (σ := σ) (ev_v (i := 0) (P := pPts K ks) h0 st_pts.mono (st_pts.mono _ _ _ s2 h1))
    rw [List.length_map] at e
    exact e
  refine for_R (iw_range1 (n := ks.length) (eva_cons (hlen H1 s1 _ rfl) stay_int.mono eva_nil) (by omega) H1 (Same.refl H1)) (fun i σ H' => ∃ (b : Rat) (y1 : V) (y2 y3 : Option V), σ = [some v1, some y1, y2, y3] ∧ Same H H' ∧ pR K b y1 H' ∧ wfF b (ks.drop (i - 1)))
    (fun H2 s2 => ⟨0, vb, none, none, rfl, s1.trans s2, stay_R.mono _ _ _ s2 pb, wf⟩) ?_ ?_
  · rintro i σ H2 hi ⟨b, y1, y2, y3, rfl, s2, p1, hw⟩
    obtain ⟨qk, hq⟩ := get_of_lt hi
    refine seq_cut (fun σ' H' => ∃ (b : Rat) (y1 : V) (y3 : Option V), σ' = [some v1, some y1, some (.int (0 + (i : Nat))), y3] ∧ Same H H' ∧ pR K b y1 H' ∧ wfF b (ks.drop i)) ?_ ?_
    · -- here
      refine one_if (b := decide (0 < i)) (et_test ((ev_i0 (ev_v (i := 2) (P := pInt (0 + (i : Nat))) rfl stay_int.mono rfl) (ev_int (i := 0))).imp fun v H' _ p => by
        obtain rfl : v = V.bl (decide ((0 : Int) < 0 + (i : Nat))) := p
        show V.bl _ = V.bl _
        congr 1
        exact decide_eq_decide.mpr ⟨fun h => by omega, fun h => by omega⟩)) fun H3 s3 => ?_
      refine ite2 (fun z => ?_) (fun z => ?_)
      · have z := of_decide_eq_true z
        obtain ⟨j, rfl⟩ : ∃ j, i = j + 1 := ⟨i - 1, by omega⟩
        obtain ⟨pk, hp⟩ := get_of_lt (l := ks) (i := j) (by omega)
        rw [Nat.add_sub_cancel, drop_get hp, drop_get hq] at hw
        obtain ⟨w1, w2, w3, w4⟩ := hw
        have hln := ln j pk qk hp hq
        have s23 := s2.trans s3
        have eK : ∀ H4, Same H H4 → ∀ σ : L2.St, σ[0]? = some (some v1) → σ[2]? = some (some (.int (0 + ((j + 1 : Nat) : Nat)))) → Ev (tOp (rIxT K) (tVar 0) (tVar 2)) σ H4 (pPt K qk) := fun H4 s4 σ h0 h2 =>
          ev_ixT (K := K) (i := j + 1) (ev_v (i := 0) h0 st_pts.mono (st_pts.mono _ _ _ s4 h1)) (ev_v (i := 2) (P := pInt (0 + ((j + 1 : Nat) : Nat))) h2 stay_int.mono rfl) (by omega) (map_get hq) (st_ptl ks)
        have eP : ∀ H4, Same H H4 → ∀ σ : L2.St, σ[0]? = some (some v1) → σ[2]? = some (some (.int (0 + ((j + 1 : Nat) : Nat)))) → Ev (tOp (rIxT K) (tVar 0) (tOp (rI0 fun i j => .int (i - j)) (tVar 2) (tC (.int 1)))) σ H4 (pPt K pk) := fun H4 s4 σ h0 h2 =>
          ev_ixT (K := K) (i := j) (ev_v (i := 0) h0 st_pts.mono (st_pts.mono _ _ _ s4 h1)) (ev_i0 (ev_v (i := 2) (P := pInt (0 + ((j + 1 : Nat) : Nat))) h2 stay_int.mono rfl) (ev_int (i := 1))) (by omega) (map_get hp) (st_ptl ks)
        refine seq_if (et_le (K := K) (ev_ixT (K := K) (i := 0) (eK H3 s23 _ rfl rfl) (ev_int (i := 0)) rfl rfl (st_rr _ _)) (ev_ixT (K := K) (i := 0) (eP H3 s23 _ rfl rfl) (ev_int (i := 0)) rfl rfl (st_rr _ _))) fun H4 s4 => ?_
        refine ite2 (fun y => by have := of_decide_eq_true y; grind) (fun _ => ?_)
        have s24 := s23.trans s4
        refine seq_set (ev_line (K := K) (eP H4 s24 _ rfl rfl) (eK H4 s24 _ rfl rfl) hln) fun vs H5 s5 ps => ?_
        refine seq_if (b := false) (et_or (a := false) ((by
          have e := et_ge (K := K) (σ := [some v1, some y1, some (.int (0 + ((j + 1 : Nat) : Nat))), some vs]) (H := H5) (ta := tVar 3) (tb := tC (.ref z_ONE_knots)) (ev_v (i := 3) rfl stay_R.mono ps) (ev_g stay_R.mono (Z1 _))
          rw [decide_eq_false (by grind : ¬ (1 : Rat) ≤ line pk qk)] at e
          exact e)) (fun _ => (by
          have e := et_le (K := K) (σ := [some v1, some y1, some (.int (0 + ((j + 1 : Nat) : Nat))), some vs]) (H := H5) (ta := tVar 3) (tb := tVar 1) (ev_v (i := 3) rfl stay_R.mono ps) (ev_v (i := 1) rfl stay_R.mono (stay_R.mono _ _ _ (s3.trans (s4.trans s5)) p1))
          rw [decide_eq_false (by grind : ¬ line pk qk ≤ b)] at e
          exact e)) (fun h => nomatch h)) fun H6 s6 => ?_
        refine iteF ?_
        refine one_set (ev_v (i := 3) rfl stay_R.mono (stay_R.mono _ _ _ s6 ps)) fun vb2 H7 s7 pb2 => ?_
        exact ⟨_, vb2, _, rfl, s24.trans (s5.trans (s6.trans s7)), pb2, by rw [drop_get hq]; exact w4⟩
      · have z : ¬ 0 < i := fun h => z (decide_eq_true h)
        have e : i = 0 := by omega
        subst e
        exact ⟨b, y1, y3, rfl, s2.trans s3, stay_R.mono _ _ _ s3 p1, hw⟩
    · rintro σ' H3 ⟨b', z1, z3, rfl, s3, p3, hw3⟩
      have eK : ∀ H4, Same H H4 → ∀ σ : L2.St, σ[0]? = some (some v1) → σ[2]? = some (some (.int (0 + (i : Nat)))) → Ev (tOp (rIxT K) (tVar 0) (tVar 2)) σ H4 (pPt K qk) := fun H4 s4 σ h0 h2 =>
        ev_ixT (K := K) (i := i) (ev_v (i := 0) h0 st_pts.mono (st_pts.mono _ _ _ s4 h1)) (ev_v (i := 2) (P := pInt (0 + (i : Nat))) h2 stay_int.mono rfl) (by omega) (map_get hq) (st_ptl ks)
      refine one_if (b := false) (et_and (a := decide (V.int (0 + (i : Nat)) = V.int ((ks.length : Int) - 1))) (et_test (ev_eq rfl (ev_v (i := 2) (P := pIs (.int (0 + (i : Nat)))) rfl stay_is.mono rfl) (ev_i0 (hlen H3 s3 _ rfl) (ev_int (i := 1))))) (fun h => (by
          have hl := V.int.inj (of_decide_eq_true h)
          have e1 : qk.1 = qk.2 := by
            rw [drop_get hq, List.drop_eq_nil_of_le (by omega)] at hw3
            exact hw3
          have e := et_ne (K := K) (σ := [some v1, some z1, some (.int (0 + (i : Nat))), z3]) (H := H3) (ev_ixT (K := K) (i := 0) (eK H3 s3 _ rfl rfl) (ev_int (i := 0)) rfl rfl (st_rr _ _)) (ev_ixT (K := K) (i := 1) (eK H3 s3 _ rfl rfl) (ev_int (i := 1)) rfl rfl (st_rr _ _))
          rw [decide_eq_true e1] at e
          exact e)) (fun _ => rfl)) fun H4 s4 => ?_
      refine iteF ?_
      exact ⟨b', z1, _, z3, rfl, s3.trans s4, stay_R.mono _ _ _ s4 p3, by rw [Nat.add_sub_cancel]; exact hw3⟩
  · rintro σ H2 ⟨b, y1, y2, y3, rfl, s2, p1, hw⟩
    exact one_ret ev_c fun v H3 s3 p => q v H3 (s2.trans s3) p
theorem d_straightened (g : Got K mg "straightened" 35 ["points"]) (m_range : mg "range" = none) (m_len : mg "len" = none) (m_tuple : mg "tuple" = none) {z_ZERO_knots z_ONE_knots : Addr} (m_ZERO_knots : mg "ZERO_knots" = some (.ref z_ZERO_knots)) (m_ONE_knots : mg "ONE_knots" = some (.ref z_ONE_knots)) (Z0 : ∀ H, pR K 0 (.ref z_ZERO_knots) H) (Z1 : ∀ H, pR K 1 (.ref z_ONE_knots) H)
    (D_line_slope : DefOk P w K mg base 4 "line_slope" ["left", "right"] (spLine K)) (D_compare : DefOk P w K mg base 1 "compare" ["a", "b"] (spCmp K)) : DefOk P w K mg base 5 "straightened" ["points"] (spStr K) := by
  refine def_of g sc35 (fun _ => rfl) fun fa cdv A outer s H vs Q E ks hr sd al q => ?_
  obtain ⟨ln, le⟩ := sd
  cases al with | cons h1 al => cases al with | nil =>
  rename_i v1
  have mono1 : Mono (pLst K (ks.map (pPt K))) := mono_lst fun P hP => (st_ptl ks P hP).mono
  refine ⟨_, (pss_cons (ps_set (i := 1) sc35.nd rfl (.inl rfl) (pe_lst pa_nil))
    (pss_cons (ps_set (i := 2) sc35.nd rfl (.inl rfl) (pe_glob (v := .ref z_ZERO_knots) rfl m_ZERO_knots rfl))
    (pss_cons (ps_for PassesOwn.never rfl (pi_range1 rfl m_range (pa_cons (pe_callB call_len_seq (by rfl) m_len PySem.boot_len (pa_cons (pv 0) pa_nil)) pa_nil)) (pg_name (i := 3) sc35.nd rfl (.inl rfl))
    (pss_cons (ps_set (i := 4) sc35.nd rfl (.inl rfl) (pe_glob (v := .ref z_ONE_knots) rfl m_ONE_knots rfl))
    (C8.pss_cut (ps_if (pt_cmpR op_lt (pe_op op_add (pv 3) pe_int) (pe_callB call_len_seq (by rfl) m_len PySem.boot_len (pa_cons (pv 0) pa_nil)) (nomark _)) (pss_one (ps_set (i := 4) sc35.nd rfl (.inl rfl) (pe_callD D_line_slope hr (by rfl) (pa_cons (pe_ix ix_list (pv 0) (pv 3) (fun _ _ => rfl)) (pa_cons (pe_ix ix_list (pv 0) (pe_op op_add (pv 3) pe_int) (fun _ _ => rfl)) pa_nil))))) pss_nil)
    (C8.pss_cut (ps_if (pt_cmpR op_ne (pe_callD D_compare (hr.mono (by decide)) (by rfl) (pa_cons (pv 2) (pa_cons (pv 4) pa_nil))) pe_int (nomark _)) (pss_one (ps_expr (pe_bm PySem.F.plainAttrs_list PySem.F.slot_list_append PySem.F.type_list_append mt_append (pv 1) (pa_cons (pe_ix ix_list (pv 0) (pv 3) (fun _ _ => rfl)) pa_nil)))) pss_nil)
    (pss_one (ps_set (i := 2) sc35.nd rfl (.inl rfl) (pv 4)))))))
    (pss_one (ps_ret (pe_callTy call_tuple_of (by rfl) m_tuple (by decide +kernel) (pa_cons (pv 1) pa_nil))))))), ?_⟩
  refine seq_nil fun lk nk => ?_
  have s1 : Same H (upd H lk (.lst [])) := Same.new nk
  refine seq_set (ev_g stay_R.mono (Z0 _)) fun vb H1 s2 pb => ?_
  have s12 := s1.trans s2
  have hk := s2 _ _ (upd_same (H := H) (a := lk) (o := .lst []))
  have hlen : ∀ H2, Same H H2 → ∀ σ : L2.St, σ[0]? = some (some v1) → Ev (tCB (fun xs H Q => ∃ p ys, xs = [.ref p] ∧ (SqL K H p ys ∨ SqT K H p ys) ∧ Q (.int ys.length) H) (tCons (tVar 0) tNil)) σ H2 (pInt (ks.length : Nat)) := fun H2 s2 σ h0 => by
    have e := ev_len (K := K) (ta := tVar 0) (H := H2) (σ := σ) (ev_v (i := 0) h0 mono1 (mono1 _ _ _ s2 h1))
    rw [List.length_map] at e
    exact e
  refine for_R (iw_range1 (n := ks.length) (eva_cons (hlen H1 s12 _ rfl) stay_int.mono eva_nil) (by omega) H1 (Same.refl H1)) (fun i σ H' => ∃ (b : Rat) (y2 : V) (y3 y4 : Option V) (vs : List V) (acc : List Pt), σ = [some v1, some (.ref lk), some y2, y3, y4] ∧ Same H H' ∧ pR K b y2 H' ∧ H' lk = some (.lst vs) ∧ Al H' vs (acc.map (pPt K)) ∧ acc ++ strF b (ks.drop i) = strF 0 ks ∧ acc.length ≤ i)
    (fun H2 s3 => ⟨0, vb, none, none, [], [], rfl, s12.trans s3, stay_R.mono _ _ _ s3 pb, s3 _ _ hk, .nil, rfl, Nat.zero_le _⟩) ?_ ?_
  · rintro i σ H2 hi ⟨b, y2, y3, y4, vs, acc, rfl, s3, p2, hv, av, hacc, lacc⟩
    obtain ⟨pk, hp⟩ := get_of_lt hi
    have eX : ∀ (j : Nat) (p : Pt), ks[j]? = some p → ∀ H4, Same H H4 → ∀ (σ : L2.St) (tb : TE), σ[0]? = some (some v1) → Ev tb σ H4 (pInt (j : Nat)) → Ev (tOp (rIxL K) (tVar 0) tb) σ H4 (pPt K p) := fun j p hj H4 s4 σ tb h0 hb =>
      ev_ixL (K := K) (i := j) (ev_v (i := 0) h0 mono1 (mono1 _ _ _ s4 h1)) hb rfl (map_get hj) (st_ptl ks)
    have e3 : ∀ H4 (σ : L2.St), σ[3]? = some (some (.int (0 + (i : Nat)))) → Ev (tVar 3) σ H4 (pInt (i : Nat)) := fun H4 σ h => ev_v (i := 3) h stay_int.mono (by show V.int (0 + (i : Nat)) = V.int (i : Nat); rw [Int.zero_add])
    refine seq_set (ev_g stay_R.mono (Z1 _)) fun va H3 s4 pa => ?_
    have s34 := s3.trans s4
    refine seq_cut (fun σ' H' => ∃ (af : Rat) (ya : V), σ' = [some v1, some (.ref lk), some y2, some (.int (0 + (i : Nat))), some ya] ∧ Same H3 H' ∧ pR K af ya H' ∧ (∀ q, ks[i + 1]? = some q → af = line pk q) ∧ (ks[i + 1]? = none → af = 1)) ?_ ?_
    · refine one_if (b := decide (i + 1 < ks.length)) (et_test ((ev_i0 (ev_i0 (e3 H3 _ rfl) (ev_int (i := 1))) (hlen H3 s34 _ rfl)).imp fun v H' _ p => by
        obtain rfl : v = V.bl (decide (((i : Nat) : Int) + 1 < (ks.length : Nat))) := p
        show V.bl _ = V.bl _
        congr 1
        exact decide_eq_decide.mpr ⟨fun h => by omega, fun h => by omega⟩)) fun H4 s5 => ?_
      refine ite2 (fun z => ?_) (fun z => ?_)
      · have z := of_decide_eq_true z
        obtain ⟨qk, hq⟩ := get_of_lt z
        have s35 := s34.trans s5
        refine one_set (ev_line (K := K) (eX i pk hp H4 s35 _ _ rfl (e3 H4 _ rfl)) (eX (i + 1) qk hq H4 s35 _ _ rfl ((ev_i0 (e3 H4 _ rfl) (ev_int (i := 1))).imp fun v H' _ p => p)) (ln i pk qk hp hq)) fun vl H5 s6 pl => ?_
        exact ⟨_, vl, rfl, s5.trans s6, pl, fun q' h => by rw [hq] at h; cases h; rfl, fun h => by rw [hq] at h; cases h⟩
      · have z : ¬ i + 1 < ks.length := fun h => z (decide_eq_true h)
        exact ⟨1, va, rfl, s5, stay_R.mono _ _ _ s5 pa, fun q' h => by have := lt_of_get h; omega, fun _ => rfl⟩
    · rintro σ' H4 ⟨af, ya, rfl, s5, pya, a1, a2⟩
      have st := str_step b hp a1 a2
      have s35 := s34.trans s5
      have s25 := s4.trans s5
      have lv := av.len
      rw [List.length_map] at lv
      refine seq_cut (fun σ' H' => ∃ (vs : List V) (acc : List Pt), σ' = [some v1, some (.ref lk), some y2, some (.int (0 + (i : Nat))), some ya] ∧ Same H H' ∧ Stb H4 H' ∧ H' lk = some (.lst vs) ∧ Al H' vs (acc.map (pPt K)) ∧ acc ++ strF af (ks.drop (i + 1)) = strF 0 ks ∧ acc.length ≤ i + 1) ?_ ?_
      · refine one_if (et_ne (K := K) (ev_v (i := 2) rfl stay_R.mono (stay_R.mono _ _ _ s25 p2)) (ev_v (i := 4) rfl stay_R.mono pya)) fun H5 s6 => ?_
        have hv5 := s6 _ _ (s25 _ _ hv)
        have s36 := s35.trans s6
        have av5 := av.imp fun P hP v hv => st_ptl acc P hP v _ _ (Same.stb (s25.trans s6)) hv
        refine ite2 (fun z => ?_) (fun z => ?_)
        · have ne : b ≠ af := fun e => by rw [decide_eq_true e] at z; cases z
          rw [if_neg ne] at st
          refine one_appV (j := 1) (l := lk) rfl hv5 (by omega) (eX i pk hp H5 s36 _ _ rfl (e3 H5 _ rfl)) fun vn H6 s7 pn => ?_
          have hv6 := s7 _ _ hv5
          have stw : Stb H6 (upd H6 lk (.lst (vs ++ [vn]))) := Stb.lst hv6
          refine ⟨vs ++ [vn], acc ++ [pk], rfl, Same.upd (s36.trans s7) nk, (Same.stb (s6.trans s7)).trans stw, upd_same, ?_, ?_, by rw [List.length_append]; simp; omega⟩
          · rw [List.map_append]
            exact (av5.imp fun P hP v hv => st_ptl acc P hP v _ _ ((Same.stb s7).trans stw) hv).app (.one (st_pt _ _ _ stw pn))
          · rw [List.append_assoc, ← st]; exact hacc
        · have e : b = af := by
            by_cases e : b = af
            · exact e
            · rw [decide_eq_false e] at z; exact absurd rfl z
          rw [if_pos e, List.nil_append] at st
          exact ⟨vs, acc, rfl, s36, Same.stb s6, hv5, av5, by rw [← st]; exact hacc, by omega⟩
      · rintro σ' H5 ⟨vs', acc', rfl, s6, stb6, hv6, av6, hacc6, lacc6⟩
        refine one_set (ev_v (i := 4) rfl stay_R.mono (stay_R _ _ _ stb6 pya)) fun vb2 H6 s7 pb2 => ?_
        exact ⟨af, vb2, _, _, vs', acc', rfl, s6.trans s7, pb2, s7 _ _ hv6, av6.imp fun P hP v hv => st_ptl acc' P hP v _ _ (Same.stb s7) hv, hacc6, lacc6⟩
  · rintro σ H2 ⟨b, y2, y3, y4, vs, acc, rfl, s3, p2, hv, av, hacc, lacc⟩
    rw [List.drop_length, strF, List.append_nil] at hacc
    subst hacc
    exact one_ret (ev_tupleL (K := K) (ev_v (i := 1) rfl (mono_lst fun P hP => (st_ptl _ P hP).mono) ⟨lk, vs, rfl, .of hv, av⟩) (st_ptl _)) fun v H4 s4 p => q v H4 (s3.trans s4) p
theorem d_merged_amounts (g : Got K mg "merged_amounts" 36 ["first", "second"]) (m_len : mg "len" = none) (D_compare : DefOk P w K mg base 1 "compare" ["a", "b"] (spCmp K)) : DefOk P w K mg base 2 "merged_amounts" ["first", "second"] (spMrg K) := by
  refine def_of g sc36 (fun _ => rfl) fun fa cdv A outer s H vs Q E a hr sd al q => ?_
  obtain ⟨ka, kb⟩ := a
  simp only at sd q
  cases al with | cons h1 al => cases al with | cons h2 al => cases al with | nil =>
  rename_i v1 v2
  have h1 : pPts K ka v1 H := h1
  have h2 : pPts K kb v2 H := h2
  refine ⟨_, (pss_cons (ps_set (i := 2) sc36.nd rfl (.inl rfl) (pe_lst pa_nil))
    (pss_cons (ps_set (i := 3) sc36.nd rfl (.inl rfl) pe_int)
    (pss_cons (ps_set (i := 4) sc36.nd rfl (.inl rfl) pe_int)
    (pss_cons (ps_while PassesOwn.never (PW.pt (pw_or (pt_cmpR op_lt (pv 3) (pe_callB call_len_seq (by rfl) m_len PySem.boot_len (pa_cons (pv 0) pa_nil)) (nomark _)) (pw_or1 (pt_cmpR op_lt (pv 4) (pe_callB call_len_seq (by rfl) m_len PySem.boot_len (pa_cons (pv 1) pa_nil)) (nomark _)))))
    (pss_cons (ps_set (i := 5) sc36.nd rfl (.inl rfl) pe_int)
    (C8.pss_cut (ps_if (pt_cmpR op_ge (pv 4) (pe_callB call_len_seq (by rfl) m_len PySem.boot_len (pa_cons (pv 1) pa_nil)) (nomark _)) (pss_one (ps_set (i := 5) sc36.nd rfl (.inl rfl) (pe_un un_neg pe_int))) (pss_one (ps_if (pt_cmpR op_lt (pv 3) (pe_callB call_len_seq (by rfl) m_len PySem.boot_len (pa_cons (pv 0) pa_nil)) (nomark _)) (pss_one (ps_set (i := 5) sc36.nd rfl (.inl rfl) (pe_callD D_compare hr (by rfl) (pa_cons (pe_ix ix_tup (pe_ix ix_tup (pv 0) (pv 3) (fun _ _ => rfl)) pe_int (fun _ _ => rfl)) (pa_cons (pe_ix ix_tup (pe_ix ix_tup (pv 1) (pv 4) (fun _ _ => rfl)) pe_int (fun _ _ => rfl)) pa_nil))))) pss_nil)))
    (C8.pss_cut (ps_if (pt_cmpR op_le (pv 5) pe_int (nomark _)) (pss_cons (ps_expr (pe_bm PySem.F.plainAttrs_list PySem.F.slot_list_append PySem.F.type_list_append mt_append (pv 2) (pa_cons (pe_ix ix_tup (pe_ix ix_tup (pv 0) (pv 3) (fun _ _ => rfl)) pe_int (fun _ _ => rfl)) pa_nil)))
    (pss_one (ps_aug (i := 3) sc36.nd rfl (.inl rfl) pe_int ip_add))) (pss_one (ps_expr (pe_bm PySem.F.plainAttrs_list PySem.F.slot_list_append PySem.F.type_list_append mt_append (pv 2) (pa_cons (pe_ix ix_tup (pe_ix ix_tup (pv 1) (pv 4) (fun _ _ => rfl)) pe_int (fun _ _ => rfl)) pa_nil)))))
    (pss_one (ps_if (pt_cmpR op_ge (pv 5) pe_int (nomark _)) (pss_one (ps_aug (i := 4) sc36.nd rfl (.inl rfl) pe_int ip_add)) pss_nil))))))
    (pss_one (ps_ret (pv 2))))))), ?_⟩
  refine seq_nil fun la na => ?_
  refine seq_set ev_c fun vi H1 s1 pi => ?_
  obtain rfl : vi = V.int 0 := pi
  refine seq_set ev_c fun vj H2 s2 pj => ?_
  obtain rfl : vj = V.int 0 := pj
  have s12 := s1.trans s2
  have sA : ka.map (·.1) = ka.map (·.1) := rfl
  have len1 : ∀ H3, Same H H3 → ∀ σ : L2.St, σ[0]? = some (some v1) → Ev (tCB (fun xs H Q => ∃ p ys, xs = [.ref p] ∧ (SqL K H p ys ∨ SqT K H p ys) ∧ Q (.int ys.length) H) (tCons (tVar 0) tNil)) σ H3 (pInt (ka.length : Nat)) := fun H3 s3 σ h0 => by
    have e := ev_lenT (K := K) (ta := tVar 0) (H := H3) (σ := σ) (ev_v (i := 0) (P := pPts K ka) h0 st_pts.mono (st_pts.mono _ _ _ s3 h1))
    rw [List.length_map] at e
    exact e
  have len2 : ∀ H3, Same H H3 → ∀ σ : L2.St, σ[1]? = some (some v2) → Ev (tCB (fun xs H Q => ∃ p ys, xs = [.ref p] ∧ (SqL K H p ys ∨ SqT K H p ys) ∧ Q (.int ys.length) H) (tCons (tVar 1) tNil)) σ H3 (pInt (kb.length : Nat)) := fun H3 s3 σ h0 => by
    have e := ev_lenT (K := K) (ta := tVar 1) (H := H3) (σ := σ) (ev_v (i := 1) (P := pPts K kb) h0 st_pts.mono (st_pts.mono _ _ _ s3 h2))
    rw [List.length_map] at e
    exact e
  have eA : ∀ (i : Nat) (p : Pt), ka[i]? = some p → ∀ H3, Same H H3 → ∀ σ : L2.St, σ[0]? = some (some v1) → σ[3]? = some (some (.int (i : Nat))) → Ev (tOp (rIxT K) (tOp (rIxT K) (tVar 0) (tVar 3)) (tC (.int 0))) σ H3 (pR K p.1) := fun i p hp H3 s3 σ h0 h3 =>
    ev_ixT (K := K) (i := 0) (ev_ixT (K := K) (i := i) (ev_v (i := 0) h0 st_pts.mono (st_pts.mono _ _ _ s3 h1)) (ev_v (i := 3) (P := pInt (i : Nat)) h3 stay_int.mono rfl) rfl (map_get hp) (st_ptl ka)) (ev_int (i := 0)) rfl rfl (st_rr _ _)
  have eB : ∀ (j : Nat) (p : Pt), kb[j]? = some p → ∀ H3, Same H H3 → ∀ σ : L2.St, σ[1]? = some (some v2) → σ[4]? = some (some (.int (j : Nat))) → Ev (tOp (rIxT K) (tOp (rIxT K) (tVar 1) (tVar 4)) (tC (.int 0))) σ H3 (pR K p.1) := fun j p hp H3 s3 σ h0 h3 =>
    ev_ixT (K := K) (i := 0) (ev_ixT (K := K) (i := j) (ev_v (i := 1) h0 st_pts.mono (st_pts.mono _ _ _ s3 h2)) (ev_v (i := 4) (P := pInt (j : Nat)) h3 stay_int.mono rfl) rfl (map_get hp) (st_ptl kb)) (ev_int (i := 0)) rfl rfl (st_rr _ _)
  refine ⟨fun m σ H' => ∃ (i j : Nat) (y5 : Option V) (vs : List V) (acc : List Rat), σ = [some v1, some v2, some (.ref la), some (.int (i : Nat)), some (.int (j : Nat)), y5] ∧ Same H H' ∧ i ≤ ka.length ∧ j ≤ kb.length ∧ m = (ka.length - i) + (kb.length - j) ∧ H' la = some (.lst vs) ∧ Al H' vs (acc.map (pR K)) ∧ acc ++ mrg ((ka.map (·.1)).drop i) ((kb.map (·.1)).drop j) = amts ka kb ∧ acc.length ≤ i + j,
    ⟨_, 0, 0, none, [], [], rfl, (Same.new na).trans s12, Nat.zero_le _, Nat.zero_le _, rfl, s12 _ _ upd_same, .nil, rfl, Nat.zero_le _⟩, ?_⟩
  rintro m σ H3 ⟨i, j, y5, vs, acc, rfl, s3, hi, hj, rfl, hv, av, hacc, lacc⟩
  refine (et_or (a := decide (i < ka.length)) (b := decide (i < ka.length ∨ j < kb.length)) (et_test ((ev_i0 (ev_v (i := 3) (P := pInt (i : Nat)) rfl stay_int.mono rfl) (len1 H3 s3 _ rfl)).imp fun v H' _ p => by
      obtain rfl : v = V.bl (decide (((i : Nat) : Int) < (ka.length : Nat))) := p
      show V.bl _ = V.bl _
      congr 1
      exact decide_eq_decide.mpr ⟨fun h => by omega, fun h => by omega⟩)) (fun h => et_test ((ev_i0 (ev_v (i := 4) (P := pInt (j : Nat)) rfl stay_int.mono rfl) (len2 H3 s3 _ rfl)).imp fun v H' _ p => by
      obtain rfl : v = V.bl (decide (((j : Nat) : Int) < (kb.length : Nat))) := p
      have h := of_decide_eq_false h
      show V.bl _ = V.bl _
      congr 1
      exact decide_eq_decide.mpr ⟨fun h => .inr (by omega), fun h => by omega⟩)) (fun h => decide_eq_true (.inl (of_decide_eq_true h)))) H3 (Same.refl H3) _ fun H4 s4 => ?_
  have s34 := s3.trans s4
  refine ite2 (fun z => ?_) (fun z => ?_)
  · have z := of_decide_eq_true z
    refine ⟨fun σ' H' => ∃ m', m' < (ka.length - i) + (kb.length - j) ∧ ∃ (i j : Nat) (y5 : Option V) (vs : List V) (acc : List Rat), σ' = [some v1, some v2, some (.ref la), some (.int (i : Nat)), some (.int (j : Nat)), y5] ∧ Same H H' ∧ i ≤ ka.length ∧ j ≤ kb.length ∧ m' = (ka.length - i) + (kb.length - j) ∧ H' la = some (.lst vs) ∧ Al H' vs (acc.map (pR K)) ∧ acc ++ mrg ((ka.map (·.1)).drop i) ((kb.map (·.1)).drop j) = amts ka kb ∧ acc.length ≤ i + j, fun σ' H' h => h, ?_⟩
    refine seq_set (ev_int (i := 1)) fun vo H5 s5 po => ?_
    obtain rfl : vo = V.int 1 := po
    have s35 := s34.trans s5
    -- the order of the two next amounts
    refine seq_cut (fun σ' H' => ∃ (o : Int), σ' = [some v1, some v2, some (.ref la), some (.int (i : Nat)), some (.int (j : Nat)), some (.int o)] ∧ Same H5 H' ∧
      ((o = -1 ∧ i < ka.length ∧ j = kb.length) ∨ (o = 1 ∧ i = ka.length ∧ j < kb.length) ∨ ∃ p q : Pt, ka[i]? = some p ∧ kb[j]? = some q ∧ o = cmpI p.1 q.1)) ?_ ?_
    · refine one_if (b := decide (kb.length ≤ j)) (et_test ((ev_i0 (ev_v (i := 4) (P := pInt (j : Nat)) rfl stay_int.mono rfl) (len2 H5 s35 _ rfl)).imp fun v H' _ p => by
        obtain rfl : v = V.bl (decide (((kb.length : Nat) : Int) ≤ (j : Nat))) := p
        show V.bl _ = V.bl _
        congr 1
        exact decide_eq_decide.mpr ⟨fun h => by omega, fun h => by omega⟩)) fun H6 s6 => ?_
      refine ite2 (fun y => ?_) (fun y => ?_)
      · have y := of_decide_eq_true y
        refine one_set (ev_u (ev_int (i := 1))) fun vo H7 s7 po => ?_
        obtain rfl : vo = V.int (-1) := po
        exact ⟨-1, rfl, s6.trans s7, .inl ⟨rfl, by omega, by omega⟩⟩
      · have y : ¬ kb.length ≤ j := fun h => y (decide_eq_true h)
        have s36 := s35.trans s6
        refine one_if (b := decide (i < ka.length)) (et_test ((ev_i0 (ev_v (i := 3) (P := pInt (i : Nat)) rfl stay_int.mono rfl) (len1 H6 s36 _ rfl)).imp fun v H' _ p => by
          obtain rfl : v = V.bl (decide (((i : Nat) : Int) < (ka.length : Nat))) := p
          show V.bl _ = V.bl _
          congr 1
          exact decide_eq_decide.mpr ⟨fun h => by omega, fun h => by omega⟩)) fun H7 s7 => ?_
        refine ite2 (fun x => ?_) (fun x => ?_)
        · have x := of_decide_eq_true x
          obtain ⟨p, hp⟩ := get_of_lt x
          obtain ⟨q', hq⟩ := get_of_lt (l := kb) (i := j) (by omega)
          have s37 := s36.trans s7
          refine one_set (ev_cmp (K := K) (eA i p hp H7 s37 _ rfl rfl) (eB j q' hq H7 s37 _ rfl rfl)) fun vo H8 s8 po => ?_
          obtain rfl : vo = V.int (cmpI p.1 q'.1) := po
          exact ⟨_, rfl, s6.trans (s7.trans s8), .inr (.inr ⟨p, q', hp, hq, rfl⟩)⟩
        · have x : ¬ i < ka.length := fun h => x (decide_eq_true h)
          exact ⟨1, rfl, s6.trans s7, .inr (.inl ⟨rfl, by omega, by omega⟩)⟩
    · rintro σ' H6 ⟨o, rfl, s6, ho⟩
      have s36 := s35.trans s6
      have s46 := s4.trans (s5.trans s6)
      have lv := av.len
      rw [List.length_map] at lv
      have hv6 := s46 _ _ hv
      have av6 := av.imp fun P hP v hv => stay_rs acc P hP v _ _ (Same.stb s46) hv
      -- what is taken, and where the indexes go
      refine seq_cut (fun σ' H' => ∃ (i' : Nat) (vs : List V) (x : Rat), σ' = [some v1, some v2, some (.ref la), some (.int (i' : Nat)), some (.int (j : Nat)), some (.int o)] ∧ Same H H' ∧ H' la = some (.lst vs) ∧ Al H' vs ((acc ++ [x]).map (pR K)) ∧
        ((o ≤ 0 ∧ i' = i + 1 ∧ ∃ p, ka[i]? = some p ∧ x = p.1) ∨ (0 < o ∧ i' = i ∧ ∃ q, kb[j]? = some q ∧ x = q.1))) ?_ ?_
      · refine one_if (b := decide (o ≤ 0)) (et_test (ev_i0 (ev_v (i := 5) (P := pInt o) rfl stay_int.mono rfl) (ev_int (i := 0)))) fun H7 s7 => ?_
        have s37 := s36.trans s7
        refine ite2 (fun y => ?_) (fun y => ?_)
        · have y := of_decide_eq_true y
          obtain ⟨p, hp⟩ : ∃ p, ka[i]? = some p := by
            rcases ho with ⟨_, h, _⟩ | ⟨h, _⟩ | ⟨p, _, h, _⟩
            · exact get_of_lt h
            · omega
            · exact ⟨p, h⟩
          refine seq_appV (j := 2) (l := la) rfl (s7 _ _ hv6) (by omega) (eA i p hp H7 s37 _ rfl rfl) fun vn H8 s8 pn => ?_
          have hv8 := s8 _ _ (s7 _ _ hv6)
          have stw : Stb H8 (upd H8 la (.lst (vs ++ [vn]))) := Stb.lst hv8
          refine ⟨_, rfl, _, _, rfl, rfl, i + 1, vs ++ [vn], p.1, ?_, Same.upd (s37.trans s8) na, upd_same, ?_, .inl ⟨y, rfl, p, hp, rfl⟩⟩
          · rw [Int.natCast_add]; rfl
          · rw [List.map_append]
            exact (av6.imp fun P hP v hv => stay_rs acc P hP v _ _ ((Same.stb (s7.trans s8)).trans stw) hv).app (.one (stay_R _ _ _ stw pn))
        · have y : ¬ o ≤ 0 := fun h => y (decide_eq_true h)
          obtain ⟨p, hp⟩ : ∃ p, kb[j]? = some p := by
            rcases ho with ⟨h, _⟩ | ⟨_, _, h⟩ | ⟨_, p, _, h, _⟩
            · omega
            · exact get_of_lt h
            · exact ⟨p, h⟩
          refine one_appV (j := 2) (l := la) rfl (s7 _ _ hv6) (by omega) (eB j p hp H7 s37 _ rfl rfl) fun vn H8 s8 pn => ?_
          have hv8 := s8 _ _ (s7 _ _ hv6)
          have stw : Stb H8 (upd H8 la (.lst (vs ++ [vn]))) := Stb.lst hv8
          refine ⟨i, vs ++ [vn], p.1, rfl, Same.upd (s37.trans s8) na, upd_same, ?_, .inr ⟨by omega, rfl, p, hp, rfl⟩⟩
          rw [List.map_append]
          exact (av6.imp fun P hP v hv => stay_rs acc P hP v _ _ ((Same.stb (s7.trans s8)).trans stw) hv).app (.one (stay_R _ _ _ stw pn))
      · rintro σ' H7 ⟨i', vs', x, rfl, s7, hv7, av7, hx⟩
        refine one_if (b := decide (0 ≤ o)) (et_test (ev_i0 (ev_v (i := 5) (P := pInt o) rfl stay_int.mono rfl) (ev_int (i := 0)))) fun H8 s8 => ?_
        have av8 := av7.imp fun P hP v hv => stay_rs (acc ++ [x]) P hP v _ _ (Same.stb s8) hv
        have dA : ∀ p, ka[i]? = some p → (ka.map (·.1)).drop i = p.1 :: (ka.map (·.1)).drop (i + 1) := fun p hp => drop_get (map_get hp)
        have dB : ∀ p, kb[j]? = some p → (kb.map (·.1)).drop j = p.1 :: (kb.map (·.1)).drop (j + 1) := fun p hp => drop_get (map_get hp)
        have nA : i = ka.length → (ka.map (·.1)).drop i = [] := fun h => List.drop_eq_nil_of_le (by rw [List.length_map]; omega)
        have nB : j = kb.length → (kb.map (·.1)).drop j = [] := fun h => List.drop_eq_nil_of_le (by rw [List.length_map]; omega)
        refine ite2 (fun y => ?_) (fun y => ?_)
        · have y := of_decide_eq_true y
          -- j is moved
          have hjl : j < kb.length := by
            rcases ho with ⟨h, _⟩ | ⟨_, _, h⟩ | ⟨_, p, _, h, _⟩
            · omega
            · exact h
            · exact lt_of_get h
          refine ⟨_, rfl, _, _, rfl, rfl, ?_⟩
          refine ⟨_, ?_, i', j + 1, some (.int o), vs', acc ++ [x], ?_, s7.trans s8, ?_, hjl, rfl, s8 _ _ hv7, av8, ?_, ?_⟩
          · rcases hx with ⟨_, e, p, hp, _⟩ | ⟨_, e, _⟩ <;> omega
          · rw [Int.natCast_add]; rfl
          · rcases hx with ⟨_, e, p, hp, _⟩ | ⟨_, e, _⟩
            · have := lt_of_get hp; omega
            · omega
          · rw [List.append_assoc, ← hacc]
            congr 1
            rcases hx with ⟨h0, e, p, hp, ex⟩ | ⟨h0, e, q', hq, ex⟩
            · rcases ho with ⟨h, _⟩ | ⟨h, _⟩ | ⟨p', q', hp', hq', eo⟩
              · omega
              · omega
              · rw [hp] at hp'
                cases hp'
                have hxx : p.1 = q'.1 := by
                  have : cmpI p.1 q'.1 = 0 := by omega
                  unfold cmpI at this
                  by_cases c1 : p.1 < q'.1
                  · rw [if_pos c1] at this; omega
                  · rw [if_neg c1] at this
                    by_cases c2 : q'.1 < p.1
                    · rw [if_pos c2] at this; omega
                    · grind
                rw [dA p hp, dB q' hq', mrg, if_neg (by grind), if_neg (by grind), e, ex]; rfl
            · rcases ho with ⟨h, _⟩ | ⟨_, h, _⟩ | ⟨p', q2, hp', hq', eo⟩
              · omega
              · rw [nA h, mrg, dB q' hq, e, nA h, mrg, ex]; rfl
              · rw [hq] at hq'
                cases hq'
                have hlt : q'.1 < p'.1 := by
                  unfold cmpI at eo
                  by_cases c1 : p'.1 < q'.1
                  · rw [if_pos c1] at eo; omega
                  · rw [if_neg c1] at eo
                    by_cases c2 : q'.1 < p'.1
                    · exact c2
                    · rw [if_neg c2] at eo; omega
                rw [dA p' hp', dB q' hq, mrg, if_neg (by grind), if_pos hlt, e, ex, dA p' hp']; rfl
          · rw [List.length_append]
            simp only [List.length_cons, List.length_nil]
            rcases hx with ⟨_, e, _⟩ | ⟨_, e, _⟩ <;> omega
        · have y : ¬ 0 ≤ o := fun h => y (decide_eq_true h)
          rcases hx with ⟨h0, e, p, hp, ex⟩ | ⟨h0, e, _⟩
          · have hil := lt_of_get hp
            refine ⟨_, ?_, i', j, _, vs', acc ++ [x], rfl, s7.trans s8, by omega, hj, rfl, s8 _ _ hv7, av8, ?_, by rw [List.length_append]; simp only [List.length_cons, List.length_nil]; omega⟩
            · omega
            · rw [List.append_assoc, ← hacc]
              congr 1
              rcases ho with ⟨_, _, h⟩ | ⟨h, _⟩ | ⟨p', q', hp', hq', eo⟩
              · rw [dA p hp, nB h, mrg_nilr, mrg_nilr, e, ex]; rfl
              · omega
              · rw [hp] at hp'
                cases hp'
                have hlt : p.1 < q'.1 := by
                  unfold cmpI at eo
                  by_cases c1 : p.1 < q'.1
                  · exact c1
                  · rw [if_neg c1] at eo
                    split at eo <;> omega
                rw [dA p hp, dB q' hq', mrg, if_pos hlt, e, ex]; rfl
          · omega
  · have z : ¬ (i < ka.length ∨ j < kb.length) := fun h => z (decide_eq_true h)
    have e1 : (ka.map (·.1)).drop i = [] := List.drop_eq_nil_of_le (by rw [List.length_map]; omega)
    have e2 : (kb.map (·.1)).drop j = [] := List.drop_eq_nil_of_le (by rw [List.length_map]; omega)
    rw [e1, e2, mrg, List.append_nil] at hacc
    subst hacc
    refine one_ret (P := pOwn ((amts ka kb).map (pR K))) (ev_v (i := 2) rfl (mono_own fun P hP => (stay_rs _ P hP).mono) ⟨la, vs, rfl, s4 _ _ hv, av.imp fun P hP v hv => stay_rs _ P hP v _ _ (Same.stb s4) hv⟩) fun v H5 s5 p => q v H5 (s34.trans s5) p
theorem d_product_knots (g : Got K mg "product_knots" 37 ["first", "second"]) (m_range : mg "range" = none) (m_len : mg "len" = none)
    (D_merged_amounts : DefOk P w K mg base 2 "merged_amounts" ["first", "second"] (spMrg K)) (D_slope_at : DefOk P w K mg base 5 "slope_at" ["knots", "amount"] (spSlope K)) (D_multiply : DefOk P w K mg base 3 "multiply" ["a", "b"] (spR2 K fun x y => x * y)) (D_subtract : DefOk P w K mg base 3 "subtract" ["a", "b"] (spR2 K fun x y => x - y))
    (D_straightened : DefOk P w K mg base 5 "straightened" ["points"] (spStr K)) : DefOk P w K mg base 6 "product_knots" ["first", "second"] (spProd K) := by
  refine def_of g sc37 (fun _ => rfl) fun fa cdv A0 outer s H vs Q E a hr sd al q => ?_
  obtain ⟨a, b⟩ := a
  obtain ⟨wa, wb, le, lna, lnb, sl, sp, vl, lp⟩ := sd
  simp only at wa wb le lna lnb sl sp vl lp q
  cases al with | cons h1 al => cases al with | cons h2 al => cases al with | nil =>
  rename_i v1 v2
  have h1 : pPts K a v1 H := h1
  have h2 : pPts K b v2 H := h2
  obtain ⟨x0, r0, eA, pasc, pinc, _, _⟩ := prod_all wa wb
  have hlen : (amts a b).length ≤ 800 := by
    have := mrg_len (a.map (·.1)) (b.map (·.1))
    rw [List.length_map, List.length_map] at this
    exact Nat.le_trans this le
  have plen : (ppts a b (amts a b)).length = (amts a b).length := by
    have := congrArg List.length (ppts_map a b (amts a b))
    rwa [List.length_map] at this
  obtain ⟨n, hn⟩ : ∃ n, (amts a b).length = n + 1 := ⟨r0.length, by rw [eA]; rfl⟩
  have nea : a ≠ [] := fun e => by rw [e] at wa; exact wa
  have neb : b ≠ [] := fun e => by rw [e] at wb; exact wb
  obtain ⟨xl, hxl⟩ := get_of_lt (l := amts a b) (i := n) (by omega)
  have dl : (amts a b).drop n = [xl] := by rw [drop_get hxl, List.drop_eq_nil_of_le (by omega)]
  have eLast : (amts a b).map (pR K) = ((amts a b).take n).map (pR K) ++ [pR K xl] := by
    rw [← List.map_singleton (f := pR K), ← List.map_append, ← dl, List.take_append_drop]
  refine ⟨_, (pss_cons (ps_set (i := 2) sc37.nd rfl (.inl rfl) (pe_callD D_merged_amounts (hr.mono (by decide)) (by rfl) (pa_cons (pv 0) (pa_cons (pv 1) pa_nil))))
    (pss_cons (ps_set (i := 3) sc37.nd rfl (.inl rfl) (pe_ix ix_list (pv 2) (pe_un un_neg pe_int) (fun _ _ => rfl)))
    (pss_cons (ps_set (i := 4) sc37.nd rfl (.inl rfl) (pe_lst (pa_cons (pe_tup (pa_cons (pe_ix ix_list (pv 2) (pe_un un_neg pe_int) (fun _ _ => rfl)) (pa_cons (pv 3) pa_nil))) pa_nil)))
    (pss_cons (ps_for PassesOwn.never rfl (pi_range3 rfl m_range (pa_cons (pe_op op_sub (pe_callB call_len_seq (by rfl) m_len PySem.boot_len (pa_cons (pv 2) pa_nil)) pe_int) (pa_cons (pe_un un_neg pe_int) (pa_cons (pe_un un_neg pe_int) pa_nil)))) (pg_name (i := 5) sc37.nd rfl (.inl rfl))
    (pss_cons (ps_set (i := 6) sc37.nd rfl (.inl rfl) (pe_callD D_multiply (hr.mono (by decide)) (by rfl) (pa_cons (pe_callD D_slope_at hr (by rfl) (pa_cons (pv 0) (pa_cons (pe_ix ix_list (pv 2) (pv 5) (fun _ _ => rfl)) pa_nil))) (pa_cons (pe_callD D_slope_at hr (by rfl) (pa_cons (pv 1) (pa_cons (pe_ix ix_list (pv 2) (pv 5) (fun _ _ => rfl)) pa_nil))) pa_nil))))
    (pss_cons (ps_set (i := 3) sc37.nd rfl (.inl rfl) (pe_callD D_subtract (hr.mono (by decide)) (by rfl) (pa_cons (pv 3) (pa_cons (pe_callD D_multiply (hr.mono (by decide)) (by rfl) (pa_cons (pv 6) (pa_cons (pe_callD D_subtract (hr.mono (by decide)) (by rfl) (pa_cons (pe_ix ix_list (pv 2) (pe_op op_add (pv 5) pe_int) (fun _ _ => rfl)) (pa_cons (pe_ix ix_list (pv 2) (pv 5) (fun _ _ => rfl)) pa_nil))) pa_nil))) pa_nil))))
    (pss_one (ps_expr (pe_bm PySem.F.plainAttrs_list PySem.F.slot_list_append PySem.F.type_list_append mt_append (pv 4) (pa_cons (pe_tup (pa_cons (pe_ix ix_list (pv 2) (pv 5) (fun _ _ => rfl)) (pa_cons (pv 3) pa_nil))) pa_nil)))))))
    (pss_cons (ps_expr (pe_bm0 PySem.F.plainAttrs_list PySem.F.slot_list_reverse PySem.F.type_list_reverse mt_reverse (pv 4)))
    (pss_one (ps_ret (pe_callD D_straightened (hr.mono (by decide)) (by rfl) (pa_cons (pv 4) pa_nil))))))))), ?_⟩
  -- amounts
  refine seq_set (ev_call (args := fun a : List Pt × List Pt => [pPts K a.1, pPts K a.2]) (side := fun a => a.1.length + a.2.length ≤ 900) (post := fun a => pOwn ((amts a.1 a.2).map (pR K))) (a, b) (show a.length + b.length ≤ 900 by omega) (eva_cons (ev_v rfl st_pts.mono h1) st_pts.mono (eva_cons (ev_v rfl st_pts.mono h2) st_pts.mono eva_nil))) fun va H1 s1 pa => ?_
  have pa : pOwn ((amts a b).map (pR K)) va H1 := pa
  have moA : Mono (pOwn ((amts a b).map (pR K))) := mono_own fun P hP => (stay_rs _ P hP).mono
  have moL : Mono (pLst K ((amts a b).map (pR K))) := mono_lst fun P hP => (stay_rs _ P hP).mono
  have eLa : ∀ H2, Same H1 H2 → ∀ σ : L2.St, σ[2]? = some (some va) → Ev (tOp (rIxL K) (tVar 2) (tUn (rU fun i => .int (-i)) (tC (.int 1)))) σ H2 (pR K xl) := fun H2 s2 σ h => by
    have e := ev_v (σ := σ) (H := H2) (i := 2) h moL (moA _ _ _ s2 pa).lst
    rw [eLast] at e
    exact ev_lastL e (ev_u (ev_int (i := 1))) (by rw [← eLast]; exact stay_rs _)
  refine seq_set (eLa H1 (Same.refl H1) _ rfl) fun vv H2 s2 pv => ?_
  refine seq_set (ev_new1 (P := pPt K (xl, xl)) (ev_tup (K := K) (eva_cons (eLa H2 s2 _ rfl) stay_R.mono (eva_cons (ev_v (i := 3) rfl stay_R.mono pv) stay_R.mono eva_nil)) (st_rr _ _) (by simp)) st_pt) fun vp H3 s3 pp => ?_
  obtain ⟨lp0, ps0, rfl, np, hp0, ap0⟩ := pp
  have s13 := s2.trans s3
  have s03 := s1.trans s13
  have np0 : H lp0 = none := Same.free (s1.trans s2) np
  have np1 : H1 lp0 = none := Same.free s2 np
  refine for_down (i := (n : Int) - 1) (n := n) (iw_down (eva_cons ((ev_i0 (ev_len (K := K) (ev_v (i := 2) rfl moL (moA _ _ _ s13 pa).lst)) (ev_int (i := 2))).imp fun v H' _ p => by
      obtain rfl : v = V.int ((((amts a b).map (pR K)).length : Int) - 2) := p
      show V.int _ = V.int _
      rw [List.length_map, hn]
      congr 1
      omega) stay_int.mono (eva_cons (ev_u (ev_int (i := 1))) stay_int.mono (eva_cons (ev_u (ev_int (i := 1))) stay_int.mono eva_nil))) (by omega) (by omega) (by omega))
    (fun t σ H' => ∃ (yv : V) (y5 y6 : Option V) (ps : List V) (x v : Rat) (r : List Pt), σ = [some v1, some v2, some va, some yv, some (.ref lp0), y5, y6] ∧ t ≤ n ∧ Same H1 H' ∧ Stb H3 H' ∧ H' lp0 = some (.lst ps) ∧ ppts a b ((amts a b).drop (n - t)) = (x, v) :: r ∧ pR K v yv H' ∧ Al H' ps ((((x, v) :: r).reverse).map (pPt K)) ∧ r.length = t)
    (fun H4 s4 => ⟨vv, none, none, ps0, xl, xl, [], rfl, Nat.zero_le _, s13.trans s4, Same.stb s4, s4 _ _ hp0, by rw [Nat.sub_zero, dl]; rfl, stay_R.mono _ _ _ (s3.trans s4) pv, ap0.imp fun P hP v hv => stay_cons st_pt stay_nil P hP v _ _ (Same.stb s4) hv, rfl⟩) ?_ ?_
  · rintro t σ H4 ht ⟨yv, y5, y6, ps, x', v, r, rfl, -, s4, stb4, hps, hpp, pyv, aps, lr⟩
    obtain ⟨x, hx⟩ := get_of_lt (l := amts a b) (i := n - 1 - t) (by omega)
    obtain ⟨y, hy⟩ := get_of_lt (l := amts a b) (i := n - t) (by omega)
    have hy1 : (amts a b)[n - 1 - t + 1]? = some y := by rw [show n - 1 - t + 1 = n - t by omega]; exact hy
    have d1 : (amts a b).drop (n - 1 - t) = x :: y :: (amts a b).drop (n - t + 1) := by
      rw [drop_get hx, show n - 1 - t + 1 = n - t by omega, drop_get hy]
    have d2 : (amts a b).drop (n - t) = y :: (amts a b).drop (n - t + 1) := drop_get hy
    obtain ⟨v', r', e1, e2⟩ := ppts_cons a b x y ((amts a b).drop (n - t + 1))
    rw [← d2, hpp] at e1
    have e1' := List.cons.inj e1
    have e1a := Prod.mk.inj e1'.1
    obtain ⟨rfl, rfl⟩ := e1a
    have er : r = r' := e1'.2
    subst er
    rw [← d1] at e2
    obtain ⟨o1, o2⟩ := sp _ x x' hx hy1
    have osl := sl x (List.mem_of_getElem? hx)
    have kI : ∀ H5 (σ : L2.St), σ[5]? = some (some (.int ((n : Int) - 1 + (t : Nat) * (-1)))) → Ev (tVar 5) σ H5 (pInt ((n - 1 - t : Nat) : Int)) := fun H5 σ h => ev_v (i := 5) h stay_int.mono (by
      show V.int _ = V.int _
      congr 1
      omega)
    have eX : ∀ H5, Same H1 H5 → ∀ σ : L2.St, σ[2]? = some (some va) → σ[5]? = some (some (.int ((n : Int) - 1 + (t : Nat) * (-1)))) → Ev (tOp (rIxL K) (tVar 2) (tVar 5)) σ H5 (pR K x) := fun H5 s5 σ h2 h5 =>
      ev_ixL (K := K) (i := n - 1 - t) (ev_v (i := 2) h2 moL (moA _ _ _ s5 pa).lst) (kI H5 σ h5) rfl (map_get hx) (stay_rs _)
    have eSl : ∀ (ks : List Pt), ks ≠ [] → ks.length ≤ 800 → Lns ks → ∀ (j : Nat) (vk : V) H5, Same H1 H5 → ∀ σ : L2.St, σ[j]? = some (some vk) → pPts K ks vk H5 → σ[2]? = some (some va) → σ[5]? = some (some (.int ((n : Int) - 1 + (t : Nat) * (-1)))) →
        Ev (tCall (spSlope K) [] E0 (tCons (tVar j) (tCons (tOp (rIxL K) (tVar 2) (tVar 5)) tNil))) σ H5 (pR K (slp ks x)) := fun ks ne hl hln j vk H5 s5 σ hj pk h2 h5 =>
      ev_call (args := fun a : List Pt × Rat => [pPts K a.1, pR K a.2]) (side := fun a => a.1 ≠ [] ∧ a.1.length ≤ 1000 ∧ Lns a.1) (post := fun a => pR K (slp a.1 a.2)) (ks, x) ⟨ne, by show ks.length ≤ 1000; omega, hln⟩ (eva_cons (ev_v hj st_pts.mono pk) st_pts.mono (eva_cons (eX H5 s5 σ h2 h5) stay_R.mono eva_nil))
    -- slope
    refine seq_set (ev_R2 (K := K) (f := fun x y => x * y) (eSl a nea (by omega) lna 0 v1 H4 s4 _ rfl (st_pts.mono _ _ _ (s1.trans s4) h1) rfl rfl) (eSl b neb (by omega) lnb 1 v2 H4 s4 _ rfl (st_pts.mono _ _ _ (s1.trans s4) h2) rfl rfl) osl) fun vs H5 s5 psl => ?_
    have s15 := s4.trans s5
    have hps5 := s5 _ _ hps
    have hmem : (x, v - slp a x * slp b x * (x' - x)) ∈ ppts a b (amts a b) := by
      have : (x, v - slp a x * slp b x * (x' - x)) ∈ (ppts a b (amts a b)).drop (n - 1 - t) := by rw [ppts_drop, e2]; exact List.mem_cons_self
      exact List.mem_of_mem_drop this
    -- value
    refine seq_set (ev_R2 (K := K) (f := fun x y => x - y) (ev_v (i := 3) rfl stay_R.mono (stay_R.mono _ _ _ s5 pyv)) (ev_R2 (K := K) (f := fun x y => x * y) (ev_v (i := 6) rfl stay_R.mono psl) (ev_R2 (K := K) (f := fun x y => x - y) (ev_ixL (K := K) (i := n - t) (ev_v (i := 2) rfl moL (moA _ _ _ s15 pa).lst) (ev_i0 (kI H5 _ rfl) (ev_int (i := 1))) (by omega) (map_get hy) (stay_rs _)) (eX H5 s15 _ rfl rfl) o1) o2) (vl _ hmem)) fun vn H6 s6 pn => ?_
    have s16 := s15.trans s6
    have lps := aps.len
    rw [List.length_map, List.length_reverse, List.length_cons, lr] at lps
    refine one_appV (P := pPt K (x, v - slp a x * slp b x * (x' - x))) (j := 4) (l := lp0) rfl (s6 _ _ hps5) (by omega) (ev_tup (K := K) (eva_cons (eX H6 s16 _ rfl rfl) stay_R.mono (eva_cons (ev_v (i := 3) rfl stay_R.mono pn) stay_R.mono eva_nil)) (st_rr _ _) (by simp)) fun vq H7 s7 pq => ?_
    have hps7 := s7 _ _ (s6 _ _ hps5)
    have stw : Stb H7 (upd H7 lp0 (.lst (ps ++ [vq]))) := Stb.lst hps7
    refine ⟨vn, _, _, ps ++ [vq], x, _, _, rfl, ht, Same.upd (s16.trans s7) np1, stb4.trans ((Same.stb (s5.trans (s6.trans s7))).trans stw), upd_same, by rw [show n - (t + 1) = n - 1 - t by omega]; exact e2, stay_R _ _ _ ((Same.stb s7).trans stw) pn, ?_, by rw [List.length_cons, lr]⟩
    rw [List.reverse_cons, List.map_append]
    exact (aps.imp fun P hP v hv => st_ptl _ P hP v _ _ ((Same.stb (s5.trans (s6.trans s7))).trans stw) hv).app (.one (st_pt _ _ _ stw pq))
  · rintro σ H4 ⟨yv, y5, y6, ps, x, v, r, rfl, -, s4, stb4, hps, hpp, pyv, aps, lr⟩
    rw [Nat.sub_self, List.drop_zero] at hpp
    refine ⟨.ref lp0, rfl, .inl ⟨rfl, _, .inl (.inl hps)⟩, lp0, ps, rfl, rfl, hps, ?_⟩
    have stw : Stb H4 (upd H4 lp0 (.lst ps.reverse)) := Stb.lst hps
    have ar := aps.rev
    rw [← List.map_reverse, List.reverse_reverse, ← hpp] at ar
    have ar2 := ar.imp fun P hP v hv => st_ptl _ P hP v _ _ stw hv
    refine one_ret (ev_call (args := fun ks : List Pt => [pLst K (ks.map (pPt K))]) (side := fun ks => Lns ks ∧ ks.length ≤ 900) (post := fun ks => pPts K (strF 0 ks)) (ppts a b (amts a b)) ⟨lp, by omega⟩ (eva_cons (ev_v (i := 4) rfl (mono_lst fun P hP => (st_ptl _ P hP).mono) ⟨lp0, ps.reverse, rfl, .of upd_same, ar2⟩) (mono_lst fun P hP => (st_ptl _ P hP).mono) eva_nil)) fun v H5 s5 p => ?_
    exact q v H5 ((Same.upd (s1.trans s4) np0).trans s5) p
end
end AC
end
section
set_option maxRecDepth 100000
/-! The walk: the class of curves. -/
namespace AC
open PySem PySem.Spec PyProof.Rows L2 ACD
variable {K : PySem.W.Frag}
/-- an operator of an own class, both of that class -/
def rOwn (C : Addr) (sp : Sp) (E : XK) : R2 := fun x y H Q => ∃ a b dx dy fs gs, x = .ref a ∧ y = .ref b ∧ H a = some (.ins C dx fs) ∧ H b = some (.ins C dy gs) ∧ sp [.ref a, .ref b] H (fun v H' => (∃ c, v = .ref c) ∧ Q v H') E
theorem op_own {X : Cx} {CX : CXT} {n : Nat} {C f : Addr} {fd : FuncData} {ps : List Str} {sp : Sp} {E : XK} {op : Operator} (F : FnOk X.prog X.w X.K X.mg X.base CX n f fd ps sp) (hr : Room n X.A) (hc : PySem.W.selfFirst X.K C = true)
    (hs : PySem.W.findIn X.K (.ref C) (PySem.dunder op.info.2) = some (some (.ref f))) (hf : PySem.W.isFn X.K (.ref f) = true) (hb : Binds X.K fd ps []) (hx : Passes CX X E) : OpR X (binaryOp op) (rOwn C sp E) := by
  intro pins s σ H x y u v Q I rx ry hq
  obtain ⟨a, b, dx, dy, fs, gs, rfl, rfl, ha, hb', hsp⟩ := hq
  cases rx
  cases ry
  obtain ⟨mA, J, _⟩ := ins_get I.hok ha
  obtain ⟨mB, J', _⟩ := ins_get I.hok hb'
  obtain ⟨od, J, _⟩ := J.look
  obtain ⟨od', J', _⟩ := J'.look
  obtain ⟨m, hF⟩ := I.fr
  refine PySem.W.binop_K hF I.ok.mod.kin J J'.type hc hs hf ?_
  have e0 : Env0 X.prog X.w X.K X.mg X.base X.A X.stack s H := I.env0
  have hl := F.len _ _ _ _ hsp
  have r2 : Vals [V.ref a, V.ref b] [Value.ref a, Value.ref b] := .cons rfl (.cons rfl .nil)
  refine wpAny_call (codeAny_mono (F.run X.A X.stack s H ⟨[.ref a, .ref b], []⟩ [.ref a, .ref b] [.ref a, .ref b] _ E hr e0 (by
    have := hb s [.ref a, .ref b] I.kIn (by simpa using hl)
    simpa using this) r2 hsp) fun r s' hq => ?_)
  cases r with
  | error e => exact hx pins σ H s e s' I hq
  | ok fl =>
    cases fl with
    | ret w =>
      obtain ⟨z, H', I', rz, ⟨c, ez⟩, q⟩ := I.after hq
      subst ez
      cases rz
      exact ⟨.ref c, H', I', rfl, q⟩
    | next => exact False.elim hq
    | brk => exact False.elim hq
    | cont => exact False.elim hq

/-- a curve: an instance that holds its points -/
def pCurve (K : PySem.W.Frag) (C : Addr) (ks : List Pt) : VP := fun v H => ∃ p dx w, v = .ref p ∧ H p = some (.ins C dx [("knots", w)]) ∧ pPts K ks w H
theorem st_curve {C : Addr} {ks : List Pt} : Stay (pCurve K C ks) := fun v H H' e ⟨p, dx, w, a, b, c⟩ => ⟨p, dx, w, a, e _ _ b rfl, st_pts _ _ _ e c⟩
def CurveK (ks : List Pt) : Prop := WF ks ∧ Lns ks ∧ ks.length ≤ 1000
def spInit (K : PySem.W.Frag) (C : Addr) : Sp := fun vs H Q _ => ∃ a dx v ks, vs = [.ref a, v] ∧ H a = some (.ins C dx []) ∧ pPts K ks v H ∧ CurveK ks ∧ ∀ H2 w, Same H H2 → pPts K ks w H2 → Q .non (upd H2 a (.ins C dx [("knots", w)]))
def spFloor (K : PySem.W.Frag) (C : Addr) : Sp := Spc (fun ks : List Pt => [pCurve K C ks]) (fun ks => WF ks) fun ks v H => ∀ p r, ks = p :: r → pR K p.2 v H
def spMulC (K : PySem.W.Frag) (C : Addr) : Sp := Spc (fun a : List Pt × List Pt => [pCurve K C a.1, pCurve K C a.2]) (fun a => PrK a.1 a.2 ∧ CurveK (prodK a.1 a.2)) fun a => pCurve K C (prodK a.1 a.2)

/-- the class of curves as it stands behind the top -/
structure CurveAt (K : PySem.W.Frag) (mg : Str → Option Value) (C : Addr) : Prop where
  cls : Cls K C
  nk : NoAttr K C "knots"
  gl : mg "Curve" = some (.ref C)
  init : ∃ f fd, Fun K "__init__" "Curve.__init__" (inClass (topS 42) 0) f fd ∧ Mk K C f ∧ Binds K fd ["self", "knots"] []
  floor : ∃ p g fd, Fun K "floor" "Curve.floor" (inClass (topS 42) 1) g fd ∧ PropOf K C "floor" p g ∧ Binds K fd ["self"] []
  mul : ∃ f fd, Fun K "__mul__" "Curve.__mul__" (inClass (topS 42) 7) f fd ∧ Binds K fd ["self", "other"] [] ∧ PySem.W.selfFirst K C = true ∧ PySem.W.findIn K (.ref C) "__mul__" = some (some (.ref f)) ∧ PySem.W.isFn K (.ref f) = true
section
variable (P : Program) (w : World) (K : PySem.W.Frag) (mg : Str → Option Value) (base : Heap) (C : Addr)
def MakeOk : Prop := ∃ f fd, Mk K C f ∧ FnOk P w K mg base CX0 6 f fd ["self", "knots"] (spInit K C) ∧ mg "Curve" = some (.ref C) ∧ Binds K fd ["self", "knots"] []
def FloorOk : Prop := ∃ p g fd, Cls K C ∧ PropOf K C "floor" p g ∧ FnOk P w K mg base CX0 1 g fd ["self"] (spFloor K C) ∧ Binds K fd ["self"] []
def MulOk : Prop := ∃ f fd, FnOk P w K mg base CX0 8 f fd ["self", "other"] (spMulC K C) ∧ Binds K fd ["self", "other"] [] ∧ PySem.W.selfFirst K C = true ∧ PySem.W.findIn K (.ref C) "__mul__" = some (some (.ref f)) ∧ PySem.W.isFn K (.ref f) = true
end
theorem scI0 : FnScope ["self", "knots", "kept", "wrong"] ["self", "knots"] (defScope (inClass (topS 42) 0)) := ⟨rfl, rfl, rfl, by decide +kernel, rfl, by decide +kernel, by decide +kernel⟩
theorem scI1 : FnScope ["self"] ["self"] (defScope (inClass (topS 42) 1)) := ⟨rfl, rfl, rfl, by decide +kernel, rfl, by decide +kernel, by decide +kernel⟩
theorem scI7 : FnScope ["self", "other"] ["self", "other"] (defScope (inClass (topS 42) 7)) := ⟨rfl, rfl, rfl, by decide +kernel, rfl, by decide +kernel, by decide +kernel⟩
section
variable {P : Program} {w : World} {mg : Str → Option Value} {base : Heap} {C : Addr}
theorem pe_makeC {X : Cx} {p pos : Pos} {e : Expr} {t : TA} (D : MakeOk X.prog X.w X.K X.mg X.base C) (hr : Room 7 X.A) (hg : Gl X "Curve") (ha : PA X [e] t)
    (hs : starEach [e] X.env = (false, eval e X.env) :: starEach [] X.env := by rfl) (hp : (backTo pos (starEach ([] : List Expr) X.env)).any (·.1) = false := by rfl) : PE X (.Call (.Name "Curve" p) [e] [] pos) (tMake C (spInit X.K C) [] E0 t) := by
  obtain ⟨f, fd, M, F, hm, hb⟩ := D
  exact pe_make M F hr hg hm hb .nil pass0 ha (by decide) hs hp
theorem ev_make {σ : L2.St} {H : Hp} {te : TE} {ks : List Pt} (h : Ev te σ H (pPts K ks)) (hk : CurveK ks) : Ev (tMake C (spInit K C) [] E0 (tCons te tNil)) σ H (pCurve K C ks) := fun H1 e Q q =>
  h H1 e _ fun v H2 s2 p => fun x dx hx hdx ne => by
    have s3 : Same H2 (upd (upd H2 dx (.own x)) x (.ins C dx [])) := fun b o hb => by
      rw [upd_ne (ne_of_none hb hx), upd_ne (ne_of_none hb hdx)]; exact hb
    refine ⟨x, dx, v, ks, rfl, upd_same, st_pts.mono _ _ _ s3 p, hk, fun H4 w s4 pw => ⟨rfl, ?_⟩⟩
    have s24 : Same H2 (upd H4 x (.ins C dx [("knots", w)])) := fun b o hb => by
      rw [upd_ne (ne_of_none hb hx)]; exact s4 _ _ (s3 _ _ hb)
    refine q _ _ (s2.trans s24) ⟨x, dx, w, rfl, upd_same, ?_⟩
    obtain ⟨a, vs, ew, sq, al⟩ := pw
    have hH4 : H4 x = some (.ins C dx []) := s4 _ _ upd_same
    have st : ∀ (a : Addr) (ws : List V), SqT K H4 a ws → SqT K (upd H4 x (.ins C dx [("knots", w)])) a ws := fun a ws h => by
      rcases h with (h | ⟨o, h⟩) | h
      · exact .inl (.inl (by rw [upd_ne (fun e => by rw [e, hH4] at h; cases h)]; exact h))
      · exact .inl (.inr ⟨o, by rw [upd_ne (fun e => by rw [e, hH4] at h; cases h)]; exact h⟩)
      · exact .inr h
    refine ⟨a, vs, ew, st _ _ sq, al.imp fun P hP v hv => ?_⟩
    obtain ⟨pt, _, rfl⟩ := List.mem_map.mp hP
    obtain ⟨a1, vs1, e1, sq1, al1⟩ := hv
    refine ⟨a1, vs1, e1, st _ _ sq1, al1.imp fun P hP v hv => ?_⟩
    have : P = pR K pt.1 ∨ P = pR K pt.2 := by simpa using hP
    rcases this with rfl | rfl
    · obtain ⟨a2, e2, sq2, ok⟩ := hv
      exact ⟨a2, e2, st _ _ sq2, ok⟩
    · obtain ⟨a2, e2, sq2, ok⟩ := hv
      exact ⟨a2, e2, st _ _ sq2, ok⟩
/-- the points of a curve -/
theorem ev_knots {σ : L2.St} {H : Hp} {te : TE} {ks : List Pt} (c : CurveAt K mg C) (h : Ev te σ H (pCurve K C ks)) : Ev (tFld K te "knots") σ H (pPts K ks) := fun H1 e Q q =>
  h H1 e _ fun v H2 s2 ⟨p, dx, w, ev, hp, pp⟩ => ⟨p, C, dx, _, w, ev, hp, c.cls, c.nk, by simp [List.lookup], q w H2 s2 pp⟩
theorem d_init (c : CurveAt K mg C) (m_tuple : mg "tuple" = none) (D_first_wrong : DefOk P w K mg base 5 "first_wrong" ["knots"] (spWrong K)) : MakeOk P w K mg base C := by
  obtain ⟨f, fd, F, M, hb⟩ := c.init
  refine ⟨f, fd, M, F.ok scI0 (fun vs H Q E h => ?_) (fun cdv A outer s H vs Q E hr h => ?_), c.gl, hb⟩
  · obtain ⟨a, dx, v, ks, rfl, _⟩ := h
    rfl
  obtain ⟨a, dx, v, ks, rfl, ha, pv1, ⟨wf, ln, le⟩, q⟩ := h
  refine ⟨_, (pss_cons (ps_set (i := 2) scI0.nd rfl (.inl rfl) (pe_callTy call_tuple_of (by rfl) m_tuple (by decide +kernel) (pa_cons (pv 1) pa_nil)))
    (pss_cons (ps_if (pt_not (pt_truth (pv 2) (by intro _; rfl))) (pss_one ps_never) pss_nil)
    (pss_cons (ps_set (i := 3) scI0.nd rfl (.inl rfl) (pe_callD D_first_wrong hr (by rfl) (pa_cons (pv 2) pa_nil)))
    (pss_cons (ps_if (pt_cmpR op_notN (pv 3) pe_non (nomark _)) (pss_one ps_never) pss_nil)
    (pss_one (ps_fld (pv 0) (pv 2) rfl)))))), ?_⟩
  refine seq_set (ev_tupleT (K := K) (ev_v (i := 1) (P := pPts K ks) rfl st_pts.mono pv1)) fun vk H1 s1 pk => ?_
  have pk : pPts K ks vk H1 := pk
  have nek : ks ≠ [] := fun e => by rw [e] at wf; exact wf
  have hne : ∀ H2 v', pPts K ks v' H2 → TruV K v' H2 true := fun H2 v' ⟨p, vs, e, sq, al⟩ => by
    have l := al.len
    rw [List.length_map] at l
    rw [e]
    refine .inr (.inl ⟨vs, sq, ?_⟩)
    cases vs with
    | nil => exact absurd (List.length_eq_zero_iff.mp l.symm) nek
    | cons _ _ => rfl
  refine ⟨vk, rfl, true, hne _ _ pk, ?_⟩
  refine iteF ?_
  refine seq_set (ev_call (args := fun ks : List Pt => [pPts K ks]) (side := fun ks => WF ks ∧ Lns ks ∧ ks.length ≤ 1000) (post := fun _ => pIs .non) ks ⟨wf, ln, le⟩ (eva_cons (ev_v (i := 2) rfl st_pts.mono pk) st_pts.mono eva_nil)) fun vw H2 s2 pw => ?_
  obtain rfl : vw = V.non := pw
  refine ⟨_, rfl, rfl, false, rfl, ?_⟩
  refine iteF ?_
  refine ⟨vk, rfl, .ref a, rfl, a, C, dx, [], rfl, s2 _ _ (s1 _ _ ha), c.cls, c.nk, by decide, ?_⟩
  exact q H2 vk (s1.trans s2) (st_pts.mono _ _ _ s2 pk)
theorem d_floor (c : CurveAt K mg C) : FloorOk P w K mg base C := by
  obtain ⟨p, g, fd, F, Pr, hb⟩ := c.floor
  refine ⟨p, g, fd, c.cls, Pr, F.ok scI1 (fun vs H Q E h => ?_) (fun cdv A outer s H vs Q E hr h => ?_), hb⟩
  · obtain ⟨ks, _, al, _⟩ := h
    rw [al.len]; rfl
  obtain ⟨ks, wf, al, q⟩ := h
  have wf : WF ks := wf
  cases al with | cons h1 al => cases al with | nil =>
  rename_i v1
  obtain ⟨p, r, rfl⟩ : ∃ p r, ks = p :: r := by
    cases ks with
    | nil => exact wf.elim
    | cons p r => exact ⟨p, r, rfl⟩
  refine ⟨_, (pss_one (ps_ret (pe_ix ix_tup (pe_ix ix_tup (pe_fld (pv 0) rfl) pe_int (fun _ _ => rfl)) pe_int (fun _ _ => rfl)))), ?_⟩
  refine one_ret (ev_ixT (K := K) (i := 1) (P := pR K p.2) (ev_ixT (K := K) (i := 0) (P := pPt K p) (ev_knots c (ev_v (i := 0) (P := pCurve K C (p :: r)) rfl st_curve.mono h1)) (ev_int (i := 0)) rfl rfl (st_ptl _)) (ev_int (i := 1)) rfl rfl (st_rr _ _)) fun v H1 s1 p1 => ?_
  refine q v H1 s1 fun p' r' e => ?_
  cases e
  exact p1
theorem d_mulC (c : CurveAt K mg C) (MK : MakeOk P w K mg base C) (D_product_knots : DefOk P w K mg base 6 "product_knots" ["first", "second"] (spProd K)) : MulOk P w K mg base C := by
  obtain ⟨f, fd, F, hb, h1, h2, h3⟩ := c.mul
  refine ⟨f, fd, F.ok scI7 (fun vs H Q E h => ?_) (fun cdv A outer s H vs Q E hr h => ?_), hb, h1, h2, h3⟩
  · obtain ⟨ks, _, al, _⟩ := h
    rw [al.len]; rfl
  obtain ⟨⟨k1, k2⟩, ⟨sd, ck⟩, al, q⟩ := h
  cases al with | cons g1 al => cases al with | cons g2 al => cases al with | nil =>
  refine ⟨_, (pss_one (ps_ret (pe_makeC MK (hr.mono (by decide)) (by rfl) (pa_cons (pe_callD D_product_knots (hr.mono (by decide)) (by rfl) (pa_cons (pe_fld (pv 0) rfl) (pa_cons (pe_fld (pv 1) rfl) pa_nil))) pa_nil)))), ?_⟩
  refine one_ret (ev_make (ks := prodK k1 k2) (ev_call (args := fun a : List Pt × List Pt => [pPts K a.1, pPts K a.2]) (side := fun a => PrK a.1 a.2) (post := fun a => pPts K (prodK a.1 a.2)) (k1, k2) sd (eva_cons (ev_knots c (ev_v (i := 0) (P := pCurve K C k1) rfl st_curve.mono g1)) st_pts.mono (eva_cons (ev_knots c (ev_v (i := 1) (P := pCurve K C k2) rfl st_curve.mono g2)) st_pts.mono eva_nil))) ck) fun v H1 s1 p1 => ?_
  exact q v H1 s1 p1
end
end AC
end
section
set_option maxRecDepth 100000
/-! The walk: the curves of all states of a game. -/
namespace AC
open PySem PySem.Spec PyProof.Rows L2 ACD
variable {K : PySem.W.Frag}
theorem ev_addI {σ : L2.St} {H : Hp} {ta tb : TE} {i j : Int} (ha : Ev ta σ H (pInt i)) (hb : Ev tb σ H (pInt j)) : Ev (tOp (rI0 fun i j => .int (i + j)) ta tb) σ H (pInt (i + j)) := (ev_i0 ha hb).imp fun _ _ _ p => p
theorem ev_subI {σ : L2.St} {H : Hp} {ta tb : TE} {i j : Int} (ha : Ev ta σ H (pInt i)) (hb : Ev tb σ H (pInt j)) : Ev (tOp (rI0 fun i j => .int (i - j)) ta tb) σ H (pInt (i - j)) := (ev_i0 ha hb).imp fun _ _ _ p => p
theorem pe_makeCK {X : Cx} {C : Addr} {p pos : Pos} {e : Expr} {t : TA} (hK : X.K = K) (D : MakeOk X.prog X.w K X.mg X.base C) (hr : Room 7 X.A) (hg : Gl X "Curve") (ha : PA X [e] t)
    (hs : starEach [e] X.env = (false, eval e X.env) :: starEach [] X.env := by rfl) (hp : (backTo pos (starEach ([] : List Expr) X.env)).any (·.1) = false := by rfl) : PE X (.Call (.Name "Curve" p) [e] [] pos) (tMake C (spInit K C) [] E0 t) := by
  subst hK
  exact pe_makeC D hr hg ha hs hp
/-- a list of lists of points, each one's own -/
def PRows (K : PySem.W.Frag) (H : Hp) (lp : Addr) (as : List Addr) (acc : Nat → List Pt) : Prop :=
  H lp = some (.lst (as.map V.ref)) ∧ as.Nodup ∧ lp ∉ as ∧ ∀ i a, as[i]? = some a → ∃ vs, H a = some (.lst vs) ∧ Al H vs ((acc i).map (pPt K))
theorem PRows.same {H H' : Hp} {lp : Addr} {as : List Addr} {acc : Nat → List Pt} (h : PRows K H lp as acc) (s : Same H H') : PRows K H' lp as acc := by
  obtain ⟨a, b, c, d⟩ := h
  refine ⟨s _ _ a, b, c, fun i x hx => ?_⟩
  obtain ⟨vs, e, f⟩ := d i x hx
  exact ⟨vs, s _ _ e, f.imp fun P hP v hv => st_ptl _ P hP v _ _ (Same.stb s) hv⟩
theorem PRows.app {H : Hp} {lp : Addr} {as : List Addr} {acc acc' : Nat → List Pt} {i : Nat} {a : Addr} {vs : List V} {v : V} {p : Pt} (h : PRows K H lp as acc) (ha : as[i]? = some a) (hv : H a = some (.lst vs)) (al : Al H vs ((acc i).map (pPt K))) (pv : pPt K p v H)
    (e1 : acc' i = acc i ++ [p]) (e2 : ∀ j, j < as.length → j ≠ i → acc' j = acc j) : PRows K (upd H a (.lst (vs ++ [v]))) lp as acc' := by
  obtain ⟨h1, h2, h3, h4⟩ := h
  have stw : Stb H (upd H a (.lst (vs ++ [v]))) := Stb.lst hv
  have ma : a ∈ as := List.mem_of_getElem? ha
  refine ⟨by rw [upd_ne (fun e => h3 (by rw [e]; exact ma))]; exact h1, h2, h3, fun j x hx => ?_⟩
  by_cases c : j = i
  · subst c
    rw [ha] at hx
    cases hx
    refine ⟨_, upd_same, ?_⟩
    rw [e1, List.map_append]
    exact (al.imp fun P hP v hv => st_ptl _ P hP v _ _ stw hv).app (.one (st_pt _ _ _ stw pv))
  · obtain ⟨ws, e, f⟩ := h4 j x hx
    have ne : x ≠ a := fun z => by
      subst z
      obtain ⟨l1, g1⟩ := List.getElem?_eq_some_iff.mp hx
      obtain ⟨l2, g2⟩ := List.getElem?_eq_some_iff.mp ha
      exact c ((List.getElem_inj h2).mp (g1.trans g2.symm))
    refine ⟨ws, by rw [upd_ne ne]; exact e, ?_⟩
    rw [e2 j (lt_of_get hx) c]
    exact f.imp fun P hP v hv => st_ptl _ P hP v _ _ stw hv
theorem PRows.lst {H : Hp} {lp : Addr} {as : List Addr} {acc G : Nat → List Pt} {n : Nat} (h : PRows K H lp as acc) (hn : as.length = n) (e : ∀ s, s < n → acc s = G s) : pLst K ((List.range n).map fun s => pLst K ((G s).map (pPt K))) (.ref lp) H := by
  obtain ⟨h1, h2, h3, h4⟩ := h
  refine ⟨lp, _, rfl, .of h1, Al.of (by simp [hn]) fun i v P hv hP => ?_⟩
  have hi : i < n := by have := lt_of_get hP; simpa using this
  rw [range_get hi] at hP
  cases hP
  obtain ⟨a, ha⟩ := get_of_lt (l := as) (i := i) (by omega)
  rw [map_get ha] at hv
  cases hv
  obtain ⟨vs, e1, e2⟩ := h4 i a ha
  rw [e i hi] at e2
  exact ⟨a, vs, rfl, .of e1, e2⟩
/-- [[] for i0 in range(n)] -/
theorem lc_rows {wi : TI} {i0 n : Nat} {σ : L2.St} {H : Hp} {Q : VK} (hw : ∀ R : It → Hp → Prop, (∀ H2, Same H H2 → R (Itr 0 n) H2) → wi σ H R) (hn : n ≤ 1000)
    (q : ∀ lp as H2, Same H H2 → H lp = none → as.length = n → (∀ a ∈ as, H a = none) → PRows K H2 lp as (fun _ => []) → Q (.ref lp) H2) : tLc wi (gName i0) tYes (tLst tNil) [i0] σ H Q := by
  refine hw _ fun H2 s2 D hD => ?_
  have hDH : H D = none := Same.free s2 hD
  refine lc_range (lo := 0) (n := n) (fun i H' => Same H H' ∧ ∃ as : List Addr, as.length = i ∧ H' D = some (.lst (as.map V.ref)) ∧ as.Nodup ∧ D ∉ as ∧ ∀ a ∈ as, H a = none ∧ H' a = some (.lst []))
    ⟨s2.trans (Same.new hD), [], rfl, upd_same, List.nodup_nil, by simp, by simp⟩ (fun i H3 hi m => ?_) fun H3 m => ?_
  · obtain ⟨s3, as, la, hd, nd, nD, ha⟩ := m
    refine ⟨wipe1 _ _ _, Nat.zero_le _, fun p hp => ?_⟩
    have np : p ∉ as := fun z => by have := (ha p z).2; rw [hp] at this; cases this
    have nDp : D ≠ p := fun z => by rw [z, hp] at hd; cases hd
    have nH : H p = none := Same.free s3 hp
    refine ⟨as.map V.ref, by rw [upd_ne nDp]; exact hd, small1000 (by rw [List.length_map]; omega), Same.upd (s3.trans (Same.new hp)) hDH, as ++ [p], by simp [la], by rw [upd_same, List.map_append]; rfl, ?_, ?_, ?_⟩
    · exact List.nodup_append.mpr ⟨nd, by simp, fun x hx y hy e => by rw [List.mem_singleton] at hy; rw [e, hy] at hx; exact np hx⟩
    · intro z
      rcases List.mem_append.mp z with z | z
      · exact nD z
      · exact nDp (List.mem_singleton.mp z)
    · intro a h
      rcases List.mem_append.mp h with h | h
      · have ne : a ≠ D := fun e => nD (e ▸ h)
        have ne2 : a ≠ p := fun e => np (e ▸ h)
        exact ⟨(ha a h).1, by rw [upd_ne ne, upd_ne ne2]; exact (ha a h).2⟩
      · have e := List.mem_singleton.mp h
        subst e
        exact ⟨nH, by rw [upd_ne (Ne.symm nDp), upd_same]⟩
  · obtain ⟨s3, as, la, hd, nd, nD, ha⟩ := m
    exact q D as H3 s3 hDH la (fun a h => (ha a h).1) ⟨hd, nd, nD, fun i a h => ⟨[], (ha a (List.mem_of_getElem? h)).2, .nil⟩⟩
/-- rows[ti].append(te), rows in a slot -/
theorem one_appR {P : VP} {te ti : TE} {j i : Nat} {lp a : Addr} {as : List Addr} {vs : List V} {D : Ends} {σ : L2.St} {H : Hp} (hj : σ[j]? = some (some (.ref lp))) (hlp : H lp = some (.lst (as.map V.ref))) (hi : Ev ti σ H (pInt (i : Nat))) (ha : as[i]? = some a) (hv : H a = some (.lst vs)) (hz : vs.length < 1000)
    (h : Ev te σ H P) (q : ∀ v H1, Same H H1 → P v H1 → D.nx σ (upd H1 a (.lst (vs ++ [v])))) : tDrop (tBM K "list" rAppend (tOp (rIxL K) (tVar j) ti) (tCons te tNil)) D σ H :=
  ⟨_, hj, hi H (Same.refl H) _ fun w H1 s1 pw => ⟨lp, as.map V.ref, (i : Nat), .ref a, rfl, pw, .of (s1 _ _ hlp), atI_nat (map_get ha), .inl ⟨rfl, _, .inl (.inl (s1 _ _ hv))⟩,
    h H1 s1 _ fun v H2 s2 p => ⟨a, vs, v, rfl, rfl, s2 _ _ (s1 _ _ hv), small1000 (Nat.le_of_lt hz), q v H2 (s1.trans s2) p⟩⟩⟩
/-- [te for i0, i1 in t], t a tuple of pairs -/
theorem ev_lcT2 {α : Type} {f h r : α → VP} {l : List α} {tl te : TE} {i0 i1 n : Nat} {σ : L2.St} {H : Hp} (hx : Ev tl σ H (pTup K (l.map fun a => pTup K [f a, h a]))) (sP : ∀ a, Stay (pTup K [f a, h a])) (sR : ∀ a, Stay (r a)) (hle : l.length ≤ 1000)
    (hw : ∀ a b : V, wipe ((((wipe σ [i0, i1]).set i0 (some a)).set i1 (some b))) [i0, i1] = wipe σ [i0, i1]) (he : ∀ a u v H', a ∈ l → Same H H' → f a u H' → h a v H' → Ev te (((wipe σ [i0, i1]).set i0 (some u)).set i1 (some v)) H' (r a)) (hn : n = 2 := by rfl) :
    Ev (tLc (iTup K tl) (gTup K n (gCons (gName i0) (gCons (gName i1) gNil))) tYes te [i0, i1]) σ H (pOwn (l.map r)) := fun H1 e Q q => by
  refine hx H1 e _ fun v H2 s2 ⟨a, xs, ev, sq, al⟩ => ⟨a, ev, ⟨xs, sq⟩, fun D hD => ?_⟩
  have hl := al.len
  rw [List.length_map] at hl
  refine lc_tup (xs := xs) (fun i H' => Made H2 D (l.map r) i H') (made_nil (Same.refl H2) hD) (fun i H3 hi m => (Same.stb m.1).seqT sq) (fun i x H3 hx m => ?_) fun H3 m => ?_
  · have hi := lt_of_get hx
    obtain ⟨z, hz⟩ := get_of_lt (l := l) (i := i) (by omega)
    obtain ⟨x', hx', px⟩ := al.get (map_get hz)
    rw [hx] at hx'
    cases hx'
    refine tgt_2 (hn := hn) ((sP z).mono _ _ _ m.1 px) fun u v pu pv => ⟨hw u v, ?_⟩
    show te _ H3 _
    refine he z u v H3 (List.mem_of_getElem? hz) ((e.trans s2).trans m.1) pu pv H3 (Same.refl H3) _ fun v H4 s4 p => ?_
    exact made_step m hD (stay_map sR) (map_get hz) s4 p (by rw [List.length_map]; exact hle)
  · have : xs.length = (l.map r).length := by rw [List.length_map]; exact hl
    rw [this] at m
    exact q _ H3 (s2.trans m.1) (made_end m)
structure AcK (a : Game × Rat) : Prop where
  io : IoK a
  len : a.1.mov.length = a.1.n
  lv : ∀ k, k < a.1.n → LvOk ⟨a.1, oC a.1 a.2 (k + 1), a.2⟩
  pt : ∀ k, k < a.1.n → ∀ s ∈ oC a.1 a.2 (k + 1), Ok (fL a.1 a.2 (oC a.1 a.2 (k + 1)) s * (oP a.1 a.2 k).2) ∧ Ok (eL a.1 a.2 (oC a.1 a.2 (k + 1)) s + fL a.1 a.2 (oC a.1 a.2 (k + 1)) s * (oP a.1 a.2 k).2)
  ln : ∀ s, s < a.1.n → Lns (gPts a.1 a.2 s) ∧ (gPts a.1 a.2 s).length ≤ 900
  ck : ∀ s, s < a.1.n → CurveK (gK a.1 a.2 s)
def pCurves (K : PySem.W.Frag) (C : Addr) (g : Game) (b : Rat) : VP := pTup K ((List.range g.n).map fun s => pCurve K C (gK g b s))
theorem st_curves {C : Addr} {g : Game} {b : Rat} : Stay (pCurves K C g b) := stay_tup (stay_map fun _ => st_curve)
def spAll (K : PySem.W.Frag) (C : Addr) : Sp := Spc (fun a : Game × Rat => [pGame K a.1, pR K a.2]) AcK fun a => pCurves K C a.1 a.2
theorem sc44 : FnScope ["game", "discount", "order", "points", "k", "amount", "inside", "values", "at", "earned", "factor", "state", "index", "row"] ["game", "discount"] (defScope (topS 44)) := ⟨rfl, rfl, rfl, by decide +kernel, rfl, by decide +kernel, by decide +kernel⟩
/-- the states so far, sorted -/
theorem oC_srt {g : Game} {b : Rat} : ∀ k, k ≤ g.n → oC g b k = srt ((List.range k).map fun j => (oP g b j).1)
  | 0, _ => rfl
  | k + 1, h => by
    have ih := oC_srt (g := g) (b := b) k (by omega)
    refine srt_of_perm (srt_sorted _) ((srt_perm _).trans ?_)
    rw [List.range_succ, List.map_append, List.map_cons, List.map_nil]
    refine List.Perm.append_right _ ?_
    rw [ih]
    exact srt_perm _
section
variable {P : Program} {w : World} {mg : Str → Option Value} {base : Heap} {C : Addr}
set_option maxHeartbeats 1000000
theorem d_all_curves (g : Got K mg "all_curves" 44 ["game", "discount"]) (m_range : mg "range" = none) (m_len : mg "len" = none) (m_sorted : mg "sorted" = none) (m_tuple : mg "tuple" = none) (MK : MakeOk P w K mg base C)
    (D_index_order : DefOk P w K mg base 9 "index_order" ["game", "discount"] (spIo K)) (D_leave_values : DefOk P w K mg base 6 "leave_values" ["game", "inside", "discount"] (spLv K)) (D_add : DefOk P w K mg base 3 "add" ["a", "b"] (spR2 K fun x y => x + y)) (D_multiply : DefOk P w K mg base 3 "multiply" ["a", "b"] (spR2 K fun x y => x * y))
    (D_compare : DefOk P w K mg base 1 "compare" ["a", "b"] (spCmp K)) (D_straightened : DefOk P w K mg base 5 "straightened" ["points"] (spStr K)) : DefOk P w K mg base 10 "all_curves" ["game", "discount"] (spAll K C) := by
  refine def_of g sc44 (fun _ => rfl) fun fa cdv A outer s0 H vs Q E a hr sd al q => ?_
  obtain ⟨g, b⟩ := a
  obtain ⟨io, len, lv, pt, ln, ck⟩ := sd
  have nle : g.n ≤ 60 := io.nle
  simp only at len lv pt ln ck
  cases al with | cons h1 al => cases al with | cons h2 al => cases al with | nil =>
  rename_i v1 v2
  have h1 : pGame K g v1 H := h1
  have h2 : pR K b v2 H := h2
  generalize hn : g.n = n at *
  refine ⟨_, (pss_cons (ps_set (i := 2) sc44.nd rfl (.inl rfl) (pe_callD D_index_order (hr.mono (by decide)) (by rfl) (pa_cons (pv 0) (pa_cons (pv 1) pa_nil))))
    (pss_cons (ps_setLc (i := 3) (own := [("state", 11)]) rfl sc44.nd rfl rfl (sw_true rfl rfl rfl (by decide +kernel)) (pi_range1 rfl m_range (pa_cons (pe_callB call_len_seq (by rfl) m_len PySem.boot_len (pa_cons (pv 2) pa_nil)) pa_nil)) (blkOk_by (N := ["game", "discount", "order", "points", "k", "amount", "inside", "values", "at", "earned", "factor", "state", "index", "row"]) (sc := defScope (topS 44)) (by decide +kernel)) (fun _ _ _ _ _ => (pg_name (i := 11) sc44.nd rfl (Or.inl rfl))) (fun _ _ _ _ _ => pts_nil) (fun _ _ _ _ _ => (pe_lst pa_nil)))
    (pss_cons (ps_for PassesOwn.never rfl (pi_range3 rfl m_range (pa_cons (pe_op op_sub (pe_callB call_len_seq (by rfl) m_len PySem.boot_len (pa_cons (pv 2) pa_nil)) pe_int) (pa_cons (pe_un un_neg pe_int) (pa_cons (pe_un un_neg pe_int) pa_nil)))) (pg_name (i := 4) sc44.nd rfl (.inl rfl))
    (pss_cons (ps_set (i := 5) sc44.nd rfl (.inl rfl) (pe_ix ix_tup (pe_ix ix_tup (pv 2) (pv 4) (fun _ _ => rfl)) pe_int (fun _ _ => rfl)))
    (C8.pss_cut (ps_if (PW.pt (pw_and (pt_cmpR op_lt (pe_op op_add (pv 4) pe_int) (pe_callB call_len_seq (by rfl) m_len PySem.boot_len (pa_cons (pv 2) pa_nil)) (nomark _)) (pw_and1 (pt_cmpR op_eq (pe_callD D_compare (hr.mono (by decide)) (by rfl) (pa_cons (pe_ix ix_tup (pe_ix ix_tup (pv 2) (pe_op op_add (pv 4) pe_int) (fun _ _ => rfl)) pe_int (fun _ _ => rfl)) (pa_cons (pv 5) pa_nil))) pe_int (nomark _))))) (pss_one ps_continue) pss_nil)
    (pss_cons (ps_set (i := 6) sc44.nd rfl (.inl rfl) (pe_callTy call_tuple_of (by rfl) m_tuple (by decide +kernel) (pa_cons (pe_callB cr_sorted (by rfl) m_sorted (by decide +kernel) (pa_cons (pe_lc (g := gTup K 2 (gCons (gName 11) (gCons (gName 12) gNil))) (own := [("state", 11), ("index", 12)]) rfl sc44.nd (pi_tup (pe_slice sl_tupA (pv 2) po_none (po_some (pe_op op_add (pv 4) pe_int)))) (blkOk_by (N := ["game", "discount", "order", "points", "k", "amount", "inside", "values", "at", "earned", "factor", "state", "index", "row"]) (sc := defScope (topS 44)) (by decide +kernel)) (fun _ _ _ _ _ => (pg_tup rfl (pgs_cons (pg_name (i := 11) sc44.nd rfl (Or.inl rfl) (Or.inr rfl)) (pgs_cons (pg_name (i := 12) sc44.nd rfl (Or.inl rfl) (Or.inr rfl)) pgs_nil)))) (fun _ _ _ _ _ => pts_nil) (fun _ _ _ _ _ => (pv 11))) pa_nil)) pa_nil)))
    (pss_cons (ps_set (i := 7) sc44.nd rfl (.inl rfl) (pe_callD D_leave_values (hr.mono (by decide)) (by rfl) (pa_cons (pv 0) (pa_cons (pv 6) (pa_cons (pv 1) pa_nil)))))
    (pss_one (ps_for PassesOwn.never rfl (pi_range1 rfl m_range (pa_cons (pe_callB call_len_seq (by rfl) m_len PySem.boot_len (pa_cons (pv 6) pa_nil)) pa_nil)) (pg_name (i := 8) sc44.nd rfl (.inl rfl))
    (pss_cons (ps_asg (pe_ix ix_tup (pv 7) (pv 8) (fun _ _ => rfl)) (pg_tup rfl (pgs_cons (pg_name (i := 9) sc44.nd rfl (.inl rfl)) (pgs_cons (pg_name (i := 10) sc44.nd rfl (.inl rfl)) pgs_nil))))
    (pss_one (ps_expr (pe_bm PySem.F.plainAttrs_list PySem.F.slot_list_append PySem.F.type_list_append mt_append (pe_ix ix_list (pv 3) (pe_ix ix_tup (pv 6) (pv 8) (fun _ _ => rfl)) (fun _ _ => rfl)) (pa_cons (pe_tup (pa_cons (pv 5) (pa_cons (pe_callD D_add (hr.mono (by decide)) (by rfl) (pa_cons (pv 9) (pa_cons (pe_callD D_multiply (hr.mono (by decide)) (by rfl) (pa_cons (pv 10) (pa_cons (pv 5) pa_nil))) pa_nil))) pa_nil))) pa_nil))))))))))))
    (pss_one (ps_ret (pe_callTy call_tuple_of (by rfl) m_tuple (by decide +kernel) (pa_cons (pe_lc (own := [("row", 13)]) rfl sc44.nd (pi_list (pv 3)) (blkOk_by (N := ["game", "discount", "order", "points", "k", "amount", "inside", "values", "at", "earned", "factor", "state", "index", "row"]) (sc := defScope (topS 44)) (by decide +kernel)) (fun _ _ _ _ _ => (pg_name (i := 13) sc44.nd rfl (Or.inl rfl))) (fun _ _ _ _ _ => pts_nil) (fun _ _ _ _ _ => (pe_makeCK (K := K) rfl MK (hr.mono (by decide)) (by rfl) (pa_cons (pe_callD D_straightened (hr.mono (by decide)) (by rfl) (pa_cons (pv 13) pa_nil)) pa_nil)))) pa_nil))))))), ?_⟩
  -- order
  refine seq_set (ev_call (args := fun a : Game × Rat => [pGame K a.1, pR K a.2]) (side := IoK) (post := fun a => pTup K ((List.range a.1.n).map fun k => pOrd K (oP a.1 a.2 k))) (g, b) io (eva_cons (ev_v rfl st_game.mono h1) st_game.mono (eva_cons (ev_v rfl stay_R.mono h2) stay_R.mono eva_nil))) fun vo H1 s1 po => ?_
  have po : pTup K ((List.range n).map fun k => pOrd K (oP g b k)) vo H1 := by rw [← hn]; exact po
  have stO : ∀ P ∈ (List.range n).map (fun k => pOrd K (oP g b k)), Stay P := stay_map fun _ => st_ord
  have hlen : ∀ H2, Same H1 H2 → ∀ σ : L2.St, σ[2]? = some (some vo) → Ev (tCB (fun xs H Q => ∃ p ys, xs = [.ref p] ∧ (SqL K H p ys ∨ SqT K H p ys) ∧ Q (.int ys.length) H) (tCons (tVar 2) tNil)) σ H2 (pInt (n : Nat)) := fun H2 s2 σ h0 => by
    have e := ev_lenT (K := K) (ta := tVar 2) (H := H2) (σ := σ) (ev_v (i := 2) (P := pTup K ((List.range n).map fun k => pOrd K (oP g b k))) h0 (stay_tup stO).mono ((stay_tup stO).mono _ _ _ s2 po))
    rw [List.length_map, List.length_range] at e
    exact e
  have hamt : ∀ (k : Nat) (kk : Int) (te : TE) (σ : L2.St) (H2 : Hp), kk = (k : Int) → k < n → Same H1 H2 → σ[2]? = some (some vo) → Ev te σ H2 (pInt kk) → Ev (tOp (rIxT K) (tOp (rIxT K) (tVar 2) te) (tC (.int 1))) σ H2 (pR K (oP g b k).2) := fun k kk te σ H2 ek hk s2 h0 ht =>
    ev_ixT (K := K) (i := 1) (ev_ixT (K := K) (i := k) (P := pOrd K (oP g b k)) (ev_v (i := 2) (P := pTup K ((List.range n).map fun k => pOrd K (oP g b k))) h0 (stay_tup stO).mono ((stay_tup stO).mono _ _ _ s2 po)) ht ek (range_get hk) stO) (ev_int (i := 1)) rfl rfl (stay_cons stay_int (stay_cons stay_R stay_nil))
  -- points
  refine seq_do ?_
  refine lc_rows (K := K) (n := n) (fun R => iw_range1 (n := n) (eva_cons (hlen H1 (Same.refl H1) _ rfl) stay_int.mono eva_nil) (by omega) H1 (Same.refl H1) R) (by omega) fun lp as H2 s2 nlp la na rw0 => ?_
  have s02 := s1.trans s2
  refine for_down (i := (n : Int) - 1) (n := n) (iw_down (eva_cons ((ev_i0 (hlen H2 s2 _ rfl) (ev_int (i := 1))).imp fun v H' _ p => p) stay_int.mono (eva_cons (ev_u (ev_int (i := 1))) stay_int.mono (eva_cons (ev_u (ev_int (i := 1))) stay_int.mono eva_nil))) (by omega) (by omega) (by omega))
    (fun t σ H' => ∃ (y4 y5 y6 y7 y8 y9 y10 : Option V) (acc : Nat → List Pt), σ = [some v1, some v2, some vo, some (.ref lp), y4, y5, y6, y7, y8, y9, y10, none, none, none] ∧ Same H1 H' ∧ PRows K H' lp as acc ∧
      ∀ s, s < n → acc s ++ qts n (oC g b) (fun k => eL g b (oC g b k)) (fun k => fL g b (oC g b k)) (fun k => (oP g b k).2) s (n - t) = gPts g b s)
    (fun H3 s3 => ⟨none, none, none, none, none, none, none, fun _ => [], rfl, s2.trans s3, rw0.same s3, fun s hs => by rw [← hn]; rfl⟩) ?_ ?_
  · rintro t σ H3 ht ⟨y4, y5, y6, y7, y8, y9, y10, acc, rfl, s3, rws, ha⟩
    obtain ⟨k, hk⟩ : ∃ k, n - t = k + 1 := ⟨n - t - 1, by omega⟩
    have hkn : k < n := by omega
    have hk1 : n - (t + 1) = k := by omega
    have ek : (n : Int) - 1 + (t : Nat) * (-1) = (k : Int) := by omega
    rw [hk] at ha
    rw [ek]
    show _
    -- amount
    refine seq_set (hamt k k _ _ H3 rfl hkn s3 rfl (ev_v (i := 4) (P := pInt (k : Nat)) rfl stay_int.mono rfl)) fun va H4 s4 pa => ?_
    refine seq_cut (fun σ' H' => σ' = [some v1, some v2, some vo, some (.ref lp), some (.int (k : Nat)), some va, y6, y7, y8, y9, y10, none, none, none] ∧ Same H4 H' ∧ ¬ (k + 1 < n ∧ (oP g b (k + 1)).2 = (oP g b k).2)) ?_ ?_
    · refine one_if (b := decide (k + 1 < n ∧ (oP g b (k + 1)).2 = (oP g b k).2)) (et_and (a := decide (k + 1 < n)) (et_test ((ev_i0 (ev_i0 (ev_v (i := 4) (P := pInt (k : Nat)) rfl stay_int.mono rfl) (ev_int (i := 1))) (hlen H4 (s3.trans s4) _ rfl)).imp fun v H' _ p => by
          obtain rfl : v = V.bl (decide ((k : Int) + 1 < (n : Nat))) := p
          show V.bl _ = V.bl _
          congr 1
          exact decide_eq_decide.mpr ⟨fun h => by omega, fun h => by omega⟩)) (fun z => ?_) (fun z => decide_eq_false fun h => of_decide_eq_false z h.1)) fun H5 s5 => ?_
      · have z := of_decide_eq_true z
        have e := et_eq (hamt (k + 1) ((k : Int) + 1) _ _ H4 (by omega) z (s3.trans s4) rfl (ev_addI (ev_v (i := 4) (P := pInt (k : Nat)) rfl stay_int.mono rfl) (ev_int (i := 1)))) (ev_v (i := 5) (σ := [some v1, some v2, some vo, some (.ref lp), some (.int (k : Nat)), some va, y6, y7, y8, y9, y10, none, none, none]) (P := pR K (oP g b k).2) rfl stay_R.mono pa)
        have e2 : decide ((oP g b (k + 1)).2 = (oP g b k).2) = decide (k + 1 < n ∧ (oP g b (k + 1)).2 = (oP g b k).2) := decide_eq_decide.mpr ⟨fun h => ⟨z, h⟩, fun h => h.2⟩
        rw [e2] at e
        exact e
      · refine ite2 (fun z => ?_) (fun z => ?_)
        · have z := of_decide_eq_true z
          refine ⟨_, _, _, _, _, _, _, acc, rfl, s3.trans (s4.trans s5), rws.same (s4.trans s5), fun s hs => ?_⟩
          rw [hk1, ← ha s hs, qts, if_pos (.inl z)]
        · exact ⟨rfl, s5, fun h => z (decide_eq_true h)⟩
    rintro σ' H5 ⟨rfl, s5, nsk⟩
    have s35 := s3.trans (s4.trans s5)
    have hC := oC_facts (g := g) (b := b) (k + 1) (by omega)
    -- inside
    refine seq_set (P := pNats K (oC g b (k + 1))) (ev_tupleL (K := K) (Ps := (oC g b (k + 1)).map fun s : Nat => pInt (s : Int)) ?_ (st_ints _)) fun vi H6 s6 pi => ?_
    · rw [oC_srt (k + 1) (by omega)]
      refine Ev.imp (ev_sortL (K := K) (C := (List.range (k + 1)).map fun j => (oP g b j).1) ?_ (by simp; omega)) fun v H' _ p => p.lst
      refine Ev.imp (ev_lcT2 (K := K) (f := fun j : Nat => pInt ((oP g b j).1 : Int)) (h := fun j => pR K (oP g b j).2) (r := fun j => pInt ((oP g b j).1 : Int)) (l := List.range (k + 1)) ?_ (fun j => st_ord) (fun _ => stay_int) (by simp; omega) (fun _ _ => rfl) (fun j u v H' hj s' pu pv => ev_v (i := 11) rfl stay_int.mono pu)) fun v H' _ p => by
        rw [List.map_map]; exact p.lst
      have hs := ev_slT (K := K) (a := 0) (b := k + 1) (lo := none) (hi := some ((k : Int) + 1)) (ev_v (H := H5) (i := 2) (σ := [some v1, some v2, some vo, some (.ref lp), some (.int (k : Nat)), some va, y6, y7, y8, y9, y10, none, none, none]) (P := pTup K ((List.range n).map fun k => pOrd K (oP g b k))) rfl (stay_tup stO).mono ((stay_tup stO).mono _ _ _ s35 po)) evo_no (evo_some (ev_addI (ev_v (i := 4) (P := pInt (k : Nat)) rfl stay_int.mono rfl) (ev_int (i := 1)))) (by rfl) (by
        rw [show ((k : Int) + 1) = ((k + 1 : Nat) : Int) by omega, HT.sIx_nat]; simp; omega) stO
      have ec : cutP ((List.range n).map fun k => pOrd K (oP g b k)) 0 (k + 1) = (List.range (k + 1)).map fun j => pOrd K (oP g b j) := by
        unfold cutP
        rw [List.drop_zero, ← List.map_take, List.take_range]
        congr 2
        omega
      rw [ec] at hs
      exact hs
    have s36 := s35.trans s6
    -- values
    refine seq_set (ev_call (args := fun a : LvA => [pGame K a.g, pNats K a.C, pR K a.b]) (side := LvOk) (post := fun a => pMat K a.C.length 2 (solA (LS a.g a.b a.C))) ⟨g, oC g b (k + 1), b⟩ (lv k hkn) (eva_cons (ev_v rfl st_game.mono (st_game.mono _ _ _ (s1.trans s36) h1)) st_game.mono (eva_cons (ev_v (i := 6) rfl st_nats.mono pi) st_nats.mono (eva_cons (ev_v rfl stay_R.mono (stay_R.mono _ _ _ (s1.trans s36) h2)) stay_R.mono eva_nil)))) fun vv H7 s7 pv => ?_
    have pv : pMat K (oC g b (k + 1)).length 2 (solA (LS g b (oC g b (k + 1)))) vv H7 := pv
    have pi7 := st_nats.mono _ _ _ s7 pi
    have pa7 := stay_R.mono _ _ _ (s5.trans (s6.trans s7)) pa
    have rw7 := rws.same (s4.trans (s5.trans (s6.trans s7)))
    have s37 := s36.trans s7
    refine one_R (n := k + 1) (iw_range1 (n := k + 1) (eva_cons (by
        have e := ev_lenT (K := K) (ta := tVar 6) (H := H7) (σ := [some v1, some v2, some vo, some (.ref lp), some (.int (k : Nat)), some va, some vi, some vv, y8, y9, y10, none, none, none]) (ev_v (i := 6) (P := pNats K (oC g b (k + 1))) rfl st_nats.mono pi7)
        rw [List.length_map, hC.1] at e
        exact e) stay_int.mono eva_nil) (by omega) H7 (Same.refl H7))
      (fun i σ H' => ∃ (y8 y9 y10 : Option V) (ac2 : Nat → List Pt), σ = [some v1, some v2, some vo, some (.ref lp), some (.int (k : Nat)), some va, some vi, some vv, y8, y9, y10, none, none, none] ∧ Same H1 H' ∧ Stb H7 H' ∧ PRows K H' lp as ac2 ∧
        ∀ s, s < n → ac2 s = acc s ++ (if s ∈ (oC g b (k + 1)).take i then [((oP g b k).2, F (eL g b (oC g b (k + 1))) (fL g b (oC g b (k + 1))) (oP g b k).2 s)] else []))
      (fun H8 s8 => ⟨y8, y9, y10, acc, rfl, s37.trans s8, Same.stb s8, rw7.same s8, fun s hs => by simp⟩) ?_ ?_
    · rintro i σ H8 hi ⟨y8, y9, y10, ac2, rfl, s8, st8, rw8, ha2⟩
      obtain ⟨s, hs⟩ := get_of_lt (l := oC g b (k + 1)) (i := i) (by omega)
      have hsm := List.mem_of_getElem? hs
      have hsn : s < n := by have := hC.2.2.1 s hsm; omega
      have hix : (oC g b (k + 1)).idxOf s = i := by
        obtain ⟨l1, e1⟩ := List.getElem?_eq_some_iff.mp hs
        rw [← e1]
        exact hC.2.1.idxOf_getElem i l1
      have eE : eL g b (oC g b (k + 1)) s = solA (LS g b (oC g b (k + 1))) i 0 := by unfold eL; rw [if_pos hsm, hix]
      have eF : fL g b (oC g b (k + 1)) s = solA (LS g b (oC g b (k + 1))) i 1 := by unfold fL; rw [if_pos hsm, hix]
      rw [Int.zero_add]
      refine seq_un2 (K := K) (P1 := pR K (eL g b (oC g b (k + 1)) s)) (P2 := pR K (fL g b (oC g b (k + 1)) s)) (ev_ixT (K := K) (i := i) (ev_v (i := 7) rfl stay_mat.mono (stay_mat _ _ _ st8 pv)) (ev_v (i := 8) (P := pInt (i : Nat)) rfl stay_int.mono rfl) rfl (by rw [range_get (by omega), eE, eF]; rfl) (stay_mrows _ _ _)) stay_R.mono fun va1 vb1 H9 s9 p9 p9b => ?_
      have rw9 := rw8.same s9
      obtain ⟨aa, haa⟩ := get_of_lt (l := as) (i := s) (by omega)
      obtain ⟨us, hus, alu⟩ := rw9.2.2.2 s aa haa
      have hlu := alu.len
      rw [List.length_map] at hlu
      have hsh : (ac2 s).length ≤ 900 := by
        have e1 := congrArg List.length (ha s hsn)
        rw [List.length_append] at e1
        have e2 := congrArg List.length (ha2 s hsn)
        have e3 : (ac2 s) = acc s := by
          rw [ha2 s hsn, if_neg, List.append_nil]
          intro z
          obtain ⟨j, hj, e⟩ := List.mem_iff_getElem.mp z
          rw [List.length_take] at hj
          rw [List.getElem_take] at e
          have : j = i := by
            obtain ⟨l1, e1⟩ := List.getElem?_eq_some_iff.mp hs
            exact (List.getElem_inj hC.2.1).mp (e.trans e1.symm)
          omega
        rw [e3]
        have := (ln s hsn).2
        omega
      obtain ⟨o1, o2⟩ := pt k hkn s hsm
      refine one_appR (K := K) (j := 3) (i := s) (as := as) (a := aa) (vs := us) (P := pPt K ((oP g b k).2, F (eL g b (oC g b (k + 1))) (fL g b (oC g b (k + 1))) (oP g b k).2 s)) rfl rw9.1 (ev_ixT (K := K) (i := i) (P := pInt (s : Int)) (ev_v (i := 6) rfl st_nats.mono (st_nats _ _ _ (st8.trans (Same.stb s9)) pi7)) (ev_v (i := 8) (P := pInt (i : Nat)) rfl stay_int.mono rfl) rfl (map_get hs) (st_ints _)) haa hus (by omega)
        (ev_tup (K := K) (eva_cons (ev_v (i := 5) rfl stay_R.mono (stay_R _ _ _ (st8.trans (Same.stb s9)) pa7)) stay_R.mono (eva_cons (ev_R2 (K := K) (f := fun x y => x + y) (ev_v (i := 9) rfl stay_R.mono p9) (ev_R2 (K := K) (f := fun x y => x * y) (ev_v (i := 10) rfl stay_R.mono p9b) (ev_v (i := 5) rfl stay_R.mono (stay_R _ _ _ (st8.trans (Same.stb s9)) pa7)) o1) o2) stay_R.mono eva_nil)) (st_rr _ _) (by simp)) fun vn H10 s10 p10 => ?_
      have rw10 := rw9.same s10
      have nHa : H1 aa = none := na aa (List.mem_of_getElem? haa)
      have hus10 := s10 _ _ hus
      refine ⟨_, _, _, fun j => if j = s then ac2 s ++ [((oP g b k).2, F (eL g b (oC g b (k + 1))) (fL g b (oC g b (k + 1))) (oP g b k).2 s)] else ac2 j, rfl, Same.upd (s8.trans (s9.trans s10)) nHa, (st8.trans (Same.stb (s9.trans s10))).trans (Stb.lst hus10), rw10.app haa hus10 (alu.imp fun P hP v hv => st_ptl _ P hP v _ _ (Same.stb s10) hv) p10 (by rw [if_pos rfl]) (fun j _ ne => by rw [if_neg ne]), fun s' hs' => ?_⟩
      have hts : s' ∈ (oC g b (k + 1)).take (i + 1) ↔ s' ∈ (oC g b (k + 1)).take i ∨ s' = s := by
        rw [take_succ hs, List.mem_append, List.mem_singleton]
      have nin : s ∉ (oC g b (k + 1)).take i := by
        intro z
        obtain ⟨j, hj, e⟩ := List.mem_iff_getElem.mp z
        rw [List.length_take] at hj
        rw [List.getElem_take] at e
        have : j = i := by
          obtain ⟨l1, e1⟩ := List.getElem?_eq_some_iff.mp hs
          exact (List.getElem_inj hC.2.1).mp (e.trans e1.symm)
        omega
      show (if s' = s then _ else _) = _
      by_cases c : s' = s
      · subst c
        rw [if_pos rfl, if_pos (hts.mpr (.inr rfl)), ha2 s' hsn, if_neg nin, List.append_nil]
      · rw [if_neg c, ha2 s' hs']
        by_cases d : s' ∈ (oC g b (k + 1)).take i
        · rw [if_pos d, if_pos (hts.mpr (.inl d))]
        · rw [if_neg d, if_neg (fun z => (hts.mp z).elim d c)]
    · rintro σ H8 ⟨y8, y9, y10, ac2, rfl, s8, st8, rw8, ha2⟩
      refine ⟨_, _, _, _, _, _, _, ac2, rfl, s8, rw8, fun s hs => ?_⟩
      rw [hk1, ha2 s hs, ← ha s hs, qts, List.take_of_length_le (by omega)]
      by_cases d : s ∈ oC g b (k + 1)
      · rw [if_pos d, if_neg (by rintro (z | z); exact nsk z; exact z d), List.append_assoc]; rfl
      · rw [if_neg d, if_pos (.inr d), List.append_nil]
  · rintro σ H3 ⟨y4, y5, y6, y7, y8, y9, y10, acc, rfl, s3, rws, ha⟩
    have hl := rws.lst la (G := gPts g b) (fun s hs => by have := ha s hs; rw [Nat.sub_self, qts, List.append_nil] at this; exact this)
    have moL : ∀ P ∈ (List.range n).map (fun s => pLst K ((gPts g b s).map (pPt K))), Mono P := fun P hP => by
      obtain ⟨s, _, rfl⟩ := List.mem_map.mp hP
      exact mono_lst fun P hP => (st_ptl _ P hP).mono
    refine one_ret (ev_tupleL (K := K) (Ps := (List.range n).map fun s => pCurve K C (gK g b s)) (Ev.imp (ev_lcL (K := K) (Ps := (List.range n).map fun s => pLst K ((gPts g b s).map (pPt K))) (Rs := (List.range n).map fun s => pCurve K C (gK g b s)) (ev_v (i := 3) rfl (mono_lst moL) hl) moL (by simp) (stay_map fun _ => st_curve) (by simp; omega) (fun j P R v H' hP hR s' pv => ?_)) fun v H' _ p => p.lst) (stay_map fun _ => st_curve)) fun v H4 s4 p => ?_
    · have hj : j < n := by have := lt_of_get hP; simpa using this
      rw [range_get hj] at hP hR
      cases hP
      cases hR
      exact ev_make (ks := gK g b j) (ev_call (args := fun ks : List Pt => [pLst K (ks.map (pPt K))]) (side := fun ks => Lns ks ∧ ks.length ≤ 900) (post := fun ks => pPts K (strF 0 ks)) (gPts g b j) (ln j hj) (eva_cons (ev_v (i := 13) rfl (mono_lst fun P hP => (st_ptl _ P hP).mono) pv) (mono_lst fun P hP => (st_ptl _ P hP).mono) eva_nil)) (ck j hj)
    · refine q v H4 (s1.trans (s3.trans s4)) ?_
      show pCurves K C g b v H4
      unfold pCurves
      rw [hn]
      exact p
end
end AC
end
section
/-! Joint states, best gains, values, costs and losses of choices (plain). -/
namespace AC
def flat {α β : Type} (l : List α) (m : Nat) (f : α → Nat → β) : List β := l.flatMap fun a => (List.range m).map (f a)
theorem flat_len {α β : Type} {l : List α} {m : Nat} {f : α → Nat → β} : (flat l m f).length = l.length * m := by
  unfold flat
  induction l with
  | nil => simp
  | cons a l ih => rw [List.flatMap_cons, List.length_append, ih]; simp [Nat.add_mul, Nat.add_comm]
theorem flat_get {α β : Type} {m : Nat} {f : α → Nat → β} : ∀ {l : List α} {i j : Nat} {a : α}, l[i]? = some a → j < m → (flat l m f)[i * m + j]? = some (f a j)
  | [], i, j, a, h, _ => by simp at h
  | x :: l, 0, j, a, h, hj => by
    simp at h; subst h
    unfold flat
    rw [List.flatMap_cons, Nat.zero_mul, Nat.zero_add, List.getElem?_append_left (by simp; omega), List.getElem?_map, List.getElem?_range hj]; rfl
  | x :: l, i + 1, j, a, h, hj => by
    have ih := flat_get (f := f) (l := l) (i := i) (by simpa using h) hj
    unfold flat at *
    rw [List.flatMap_cons, List.getElem?_append_right (by simp [Nat.add_mul]; omega)]
    simp only [List.length_map, List.length_range]
    rw [show (i + 1) * m + j - m = i * m + j by rw [Nat.add_mul]; omega]
    exact ih
theorem flat_map {α β γ : Type} {l : List α} {m : Nat} {f : α → Nat → β} {h : β → γ} : (flat l m f).map h = flat l m fun a j => h (f a j) := by
  unfold flat
  rw [List.map_flatMap]
  congr 1
  funext a
  rw [List.map_map]; rfl
theorem flat_of {α β γ : Type} {l : List α} {m : Nat} {h : α → β} {f : β → Nat → γ} : flat (l.map h) m f = flat l m fun a j => f (h a) j := by
  unfold flat
  rw [List.flatMap_map]
theorem fm_congr {α β : Type} {l : List α} {f g : α → List β} (h : ∀ a ∈ l, f a = g a) : l.flatMap f = l.flatMap g := by
  induction l with
  | nil => rfl
  | cons a l ih => rw [List.flatMap_cons, List.flatMap_cons, h a (by simp), ih fun b hb => h b (List.mem_cons_of_mem _ hb)]
theorem flat_mem {α β : Type} {l : List α} {m : Nat} {f : α → Nat → β} {x : β} : x ∈ flat l m f ↔ ∃ a ∈ l, ∃ j, j < m ∧ f a j = x := by
  unfold flat
  simp only [List.mem_flatMap, List.mem_map, List.mem_range]
/-! ### joint states -/
def jS (rows : List (List Nat)) (g : Game) : List (List Nat) := flat rows g.n fun u s => u ++ [s]
def joints (gs : List Game) : List (List Nat) := gs.foldl jS [[]]
def Fits : List Game → List Nat → Prop
  | [], u => u = []
  | g :: gs, s :: w => s < g.n ∧ Fits gs w
  | _ :: _, [] => False
def num : Nat → List Game → List Nat → Nat
  | i, g :: gs, s :: w => num (i * g.n + s) gs w
  | i, _, _ => i
theorem foldl_mem : ∀ {gs : List Game} {rows : List (List Nat)} {u : List Nat}, u ∈ gs.foldl jS rows ↔ ∃ r ∈ rows, ∃ w, Fits gs w ∧ u = r ++ w
  | [], rows, u => by
    constructor
    · intro h; exact ⟨u, h, [], rfl, by simp⟩
    · rintro ⟨r, hr, w, e, rfl⟩
      have e : w = [] := e
      rw [e, List.append_nil]; exact hr
  | g :: gs, rows, u => by
    show u ∈ gs.foldl jS (jS rows g) ↔ _
    rw [foldl_mem (gs := gs)]
    constructor
    · rintro ⟨r, hr, w, hw, rfl⟩
      obtain ⟨a, ha, j, hj, rfl⟩ := flat_mem.mp hr
      exact ⟨a, ha, j :: w, ⟨hj, hw⟩, by simp⟩
    · rintro ⟨r, hr, w, hw, rfl⟩
      cases w with
      | nil => exact hw.elim
      | cons s w => exact ⟨r ++ [s], flat_mem.mpr ⟨r, hr, s, hw.1, rfl⟩, w, hw.2, by simp⟩
theorem mem_joints {gs : List Game} {u : List Nat} : u ∈ joints gs ↔ Fits gs u := by
  unfold joints
  rw [foldl_mem]
  constructor
  · rintro ⟨r, hr, w, hw, rfl⟩
    rw [List.mem_singleton] at hr
    rw [hr]; exact hw
  · intro h; exact ⟨[], by simp, u, h, rfl⟩
theorem foldl_num : ∀ {gs : List Game} {rows : List (List Nat)} {i : Nat} {r w : List Nat}, rows[i]? = some r → Fits gs w → (gs.foldl jS rows)[num i gs w]? = some (r ++ w)
  | [], rows, i, r, w, h, hw => by
    have e : w = [] := hw
    subst e
    rw [List.append_nil]; exact h
  | g :: gs, rows, i, r, [], h, hw => hw.elim
  | g :: gs, rows, i, r, s :: w, h, hw => by
    have := foldl_num (gs := gs) (rows := jS rows g) (i := i * g.n + s) (r := r ++ [s]) (w := w) (flat_get h hw.1) hw.2
    rw [List.append_assoc] at this
    exact this
theorem num_get {gs : List Game} {u : List Nat} (h : Fits gs u) : (joints gs)[num 0 gs u]? = some u := foldl_num (rows := [[]]) (i := 0) (r := []) rfl h
theorem flat_nodup {rows : List (List Nat)} {m : Nat} (h : rows.Nodup) : (flat rows m fun u s => u ++ [s]).Nodup := by
  unfold flat
  induction rows with
  | nil => exact List.nodup_nil
  | cons a l ih =>
    rw [List.flatMap_cons]
    obtain ⟨h1, h2⟩ := List.nodup_cons.mp h
    refine List.nodup_append.mpr ⟨?_, ih h2, fun x hx y hy e => ?_⟩
    · unfold List.Nodup
      rw [List.pairwise_map]
      exact (List.nodup_range (n := m)).imp fun ne e => ne (by have := List.append_cancel_left e; simpa using this)
    · obtain ⟨j, _, rfl⟩ := List.mem_map.mp hx
      obtain ⟨b, hb, h'⟩ := List.mem_flatMap.mp hy
      obtain ⟨k, _, e2⟩ := List.mem_map.mp h'
      rw [← e2] at e
      have := (List.append_inj' e rfl).1
      exact h1 (this ▸ hb)
theorem foldl_nodup : ∀ {gs : List Game} {rows : List (List Nat)}, rows.Nodup → (gs.foldl jS rows).Nodup
  | [], _, h => h
  | g :: gs, rows, h => foldl_nodup (gs := gs) (flat_nodup h)
theorem joints_nd (gs : List Game) : (joints gs).Nodup := foldl_nodup (by simp)
theorem fits_len : ∀ {gs : List Game} {u : List Nat}, Fits gs u → u.length = gs.length
  | [], u, h => by have h : u = [] := h; rw [h]; rfl
  | g :: gs, s :: w, h => by simp [fits_len h.2]
  | _ :: _, [], h => h.elim
theorem fits_get : ∀ {gs : List Game} {u : List Nat} {p : Nat} {g : Game}, Fits gs u → gs[p]? = some g → ∃ s, u[p]? = some s ∧ s < g.n
  | [], _, p, g, _, hg => by simp at hg
  | _ :: _, [], _, _, h, _ => h.elim
  | a :: gs, s :: w, 0, g, h, hg => by simp at hg; subst hg; exact ⟨s, rfl, h.1⟩
  | a :: gs, s :: w, p + 1, g, h, hg => by
    obtain ⟨t, h1, h2⟩ := fits_get (p := p) h.2 (by simpa using hg)
    exact ⟨t, by simpa using h1, h2⟩
theorem fits_set : ∀ {gs : List Game} {u : List Nat} {p t : Nat} {g : Game}, Fits gs u → gs[p]? = some g → t < g.n → Fits gs (u.set p t)
  | [], _, p, _, g, _, hg, _ => by simp at hg
  | _ :: _, [], _, _, _, h, _, _ => h.elim
  | a :: gs, s :: w, 0, t, g, h, hg, ht => by simp at hg; subst hg; exact ⟨ht, h.2⟩
  | a :: gs, s :: w, p + 1, t, g, h, hg, ht => ⟨h.1, fits_set (p := p) h.2 (by simpa using hg) ht⟩
theorem joints_pos {gs : List Game} (h : ∀ g ∈ gs, 0 < g.n) : 0 < (joints gs).length := by
  have : Fits gs (gs.map fun _ => 0) := by
    induction gs with
    | nil => rfl
    | cons g gs ih => exact ⟨h g (by simp), ih fun a ha => h a (List.mem_cons_of_mem _ ha)⟩
  exact List.length_pos_of_mem (mem_joints.mpr this)
/-! ### the joint game of a table of choices -/
def ga (gs : List Game) (p : Nat) : Game := gs.getD p ⟨[], []⟩
def ju (gs : List Game) (k : Nat) : List Nat := (joints gs).getD k []
theorem ga_of {gs : List Game} {p : Nat} {g : Game} (h : gs[p]? = some g) : ga gs p = g := by
  unfold ga; rw [List.getD_eq_getElem?_getD, h]; rfl
theorem ju_of {gs : List Game} {k : Nat} {u : List Nat} (h : (joints gs)[k]? = some u) : ju gs k = u := by
  unfold ju; rw [List.getD_eq_getElem?_getD, h]; rfl
def mvs (gs : List Game) (u : List Nat) (p : Nat) : List (Nat × Rat) := ((ga gs p).row (u.getD p 0)).map fun tp => (num 0 gs (u.set p tp.1), tp.2)
def rwd (gs : List Game) (u : List Nat) (p : Nat) : Rat := (ga gs p).r (u.getD p 0)
def jG (gs : List Game) (cs : List Nat) : Game := ⟨(List.range (joints gs).length).map fun k => rwd gs (ju gs k) (cs.getD k 0), (List.range (joints gs).length).map fun k => mvs gs (ju gs k) (cs.getD k 0)⟩
theorem jG_n {gs : List Game} {cs : List Nat} : (jG gs cs).n = (joints gs).length := by unfold jG Game.n; simp
theorem jG_r {gs : List Game} {cs : List Nat} {k : Nat} (h : k < (joints gs).length) : (jG gs cs).r k = rwd gs (ju gs k) (cs.getD k 0) := by
  unfold Game.r jG
  rw [List.getD_eq_getElem?_getD, List.getElem?_map, List.getElem?_range h]; rfl
theorem jG_row {gs : List Game} {cs : List Nat} {k : Nat} (h : k < (joints gs).length) : (jG gs cs).row k = mvs gs (ju gs k) (cs.getD k 0) := by
  unfold Game.row jG
  rw [List.getD_eq_getElem?_getD, List.getElem?_map, List.getElem?_range h]; rfl
theorem ex_map (f : Nat → Nat) (h : Nat → Rat) : ∀ row : List (Nat × Rat), ex (row.map fun tp => (f tp.1, tp.2)) h = ex row fun t => h (f t)
  | [] => rfl
  | tp :: r => by simp only [List.map_cons, ex, ex_map f h r]
theorem mvs_ok {gs : List Game} {u : List Nat} {p : Nat} (ok : ∀ g ∈ gs, GameOk g) (hu : Fits gs u) (hp : p < gs.length) : RowOk (joints gs).length (mvs gs u p) := by
  have hg := List.getElem?_eq_getElem hp
  obtain ⟨s, hs, hlt⟩ := fits_get hu hg
  have row := (ok _ (List.getElem_mem hp)).rows s hlt
  have e : u.getD p 0 = s := by rw [List.getD_eq_getElem?_getD, hs]; rfl
  unfold mvs
  rw [ga_of hg, e]
  refine ⟨fun tp h => ?_, fun tp h => ?_, ?_⟩
  · obtain ⟨z, hz, rfl⟩ := List.mem_map.mp h
    exact (List.getElem?_eq_some_iff.mp (num_get (fits_set hu hg (row.tgt z hz)))).1
  · obtain ⟨z, hz, rfl⟩ := List.mem_map.mp h
    exact row.nn z hz
  · rw [ex_map (fun t => num 0 gs (u.set p t))]; exact row.tot
theorem ju_fits {gs : List Game} {k : Nat} (h : k < (joints gs).length) : Fits gs (ju gs k) := by
  rw [ju_of (List.getElem?_eq_getElem h)]
  exact mem_joints.mp (List.getElem_mem h)
theorem jG_ok {gs : List Game} {cs : List Nat} (ok : ∀ g ∈ gs, GameOk g) (hcs : ∀ k, k < (joints gs).length → cs.getD k 0 < gs.length) : GameOk (jG gs cs) := by
  refine ⟨by rw [jG_n]; exact joints_pos fun g hg => (ok g hg).pos, by rw [jG_n]; unfold jG; simp, fun k hk => ?_⟩
  rw [jG_n] at hk ⊢
  rw [jG_row hk]
  exact mvs_ok ok (ju_fits hk) (hcs k hk)
/-! ### best gains -/
def pkJ (b : Rat) (gs : List Game) (u : List Nat) : List Pt := pk (List.zipWith (fun g s => gK g b s) gs u)
def bV (b : Rat) (gs : List Game) (k : Nat) : Rat := floorK (pkJ b gs (ju gs k))
/-- the gain of playing the position p from u, W the worths behind -/
def ply (b : Rat) (gs : List Game) (W : Nat → Rat) (u : List Nat) (p : Nat) : Rat := rwd gs u p + b * ex (mvs gs u p) W
theorem zip_set : ∀ {gs : List Game} {u : List Nat} {p t : Nat} {g : Game} {b : Rat}, gs[p]? = some g → (List.zipWith (fun g s => gK g b s) gs u).set p (gK g b t) = List.zipWith (fun g s => gK g b s) gs (u.set p t)
  | [], _, p, _, g, _, h => by simp at h
  | a :: gs, [], p, t, g, b, h => by simp
  | a :: gs, s :: u, 0, t, g, b, h => by simp at h; subst h; rfl
  | a :: gs, s :: u, p + 1, t, g, b, h => by
    have := zip_set (u := u) (t := t) (b := b) (p := p) (by simpa using h)
    simp only [List.zipWith_cons_cons, List.set_cons_succ, this]
section
variable {gs : List Game} {b : Rat} (ok : ∀ g ∈ gs, GameOk g) (hb0 : 0 ≤ b) (hb1 : b < 1)
include ok hb0 hb1
theorem bell {u : List Nat} (hu : Fits gs u) : (∀ p, p < gs.length → ply b gs (bV b gs) u p ≤ floorK (pkJ b gs u)) ∧ (0 < gs.length → ∃ p, p < gs.length ∧ floorK (pkJ b gs u) = ply b gs (bV b gs) u p) := by
  have key : ∀ p, p < gs.length → ∃ g s, gs[p]? = some g ∧ u[p]? = some s ∧ s < g.n ∧ GameOk g ∧ ply b gs (bV b gs) u p = g.r s + b * ex (g.row s) (fun t => floorK (pk ((List.zipWith (fun g s => gK g b s) gs u).set p (gK g b t)))) := fun p hp => by
    have hg := List.getElem?_eq_getElem hp
    obtain ⟨s, hs, hlt⟩ := fits_get hu hg
    have og := ok _ (List.getElem_mem hp)
    refine ⟨_, s, hg, hs, hlt, og, ?_⟩
    have e : u.getD p 0 = s := by rw [List.getD_eq_getElem?_getD, hs]; rfl
    unfold ply rwd mvs
    rw [ga_of hg, e, ex_map (fun t => num 0 gs (u.set p t))]
    congr 2
    refine ex_congr fun tp ht => ?_
    rw [zip_set hg]
    unfold bV
    rw [ju_of (num_get (fits_set hu hg ((og.rows s hlt).tgt tp ht)))]
    rfl
  have hw : ∀ c ∈ List.zipWith (fun g s => gK g b s) gs u, WF c := fun c hc => by
    obtain ⟨i, hi, rfl⟩ := List.mem_iff_getElem.mp hc
    rw [List.length_zipWith] at hi
    rw [List.getElem_zipWith]
    have hg := List.getElem?_eq_getElem (l := gs) (i := i) (by omega)
    obtain ⟨s, hs, hlt⟩ := fits_get hu hg
    obtain ⟨_, e⟩ := List.getElem?_eq_some_iff.mp hs
    rw [e]
    exact (gK_ok (ok _ (List.getElem_mem _)) hb0 hb1).wf s hlt
  have hget : ∀ p g s, gs[p]? = some g → u[p]? = some s → (List.zipWith (fun g s => gK g b s) gs u)[p]? = some (gK g b s) := fun p g s h1 h2 => by
    rw [List.getElem?_zipWith, h1, h2]
  refine ⟨fun p hp => ?_, fun hn => ?_⟩
  · obtain ⟨g, s, hg, hs, hlt, og, e⟩ := key p hp
    rw [e]
    exact (whittle og (gK_ok og hb0 hb1) hlt hw (hget p g s hg hs)).1
  · have ne : List.zipWith (fun g s => gK g b s) gs u ≠ [] := fun z => by
      have := congrArg List.length z
      rw [List.length_zipWith, fits_len hu] at this
      simp at this
      rw [this] at hn; simp at hn
    obtain ⟨p, c, hc, hm⟩ := exists_top ne
    have hp : p < gs.length := by
      have := (List.getElem?_eq_some_iff.mp hc).1
      rw [List.length_zipWith] at this; omega
    obtain ⟨g, s, hg, hs, hlt, og, e⟩ := key p hp
    rw [hget p g s hg hs] at hc
    have ec := Option.some.inj hc
    refine ⟨p, hp, ?_⟩
    rw [e]
    exact (whittle og (gK_ok og hb0 hb1) hlt hw (hget p g s hg hs)).2 (by rw [ec]; exact hm)
end
/-! ### the values of choices -/
def CS (gs : List Game) (cs : List Nat) (b : Rat) : Lin := { n := (joints gs).length, m := 1, M := (LS (jG gs cs) b (List.range (joints gs).length)).M, R := (LS (jG gs cs) b (List.range (joints gs).length)).R }
def cX (gs : List Game) (cs : List Nat) (b : Rat) (k : Nat) : Rat := solA (CS gs cs b) k 0
section
variable {gs : List Game} {cs : List Nat} {b : Rat} (ok : ∀ g ∈ gs, GameOk g) (hb0 : 0 ≤ b) (hb1 : b < 1) (hcs : ∀ k, k < (joints gs).length → cs.getD k 0 < gs.length)
include ok hb0 hb1 hcs
theorem CS_good : Good (CS gs cs b).n (CS gs cs b).M (1 - b) := by
  have h := LS_good (jG_ok ok hcs) hb0 hb1 (C := List.range (joints gs).length) List.nodup_range fun s hs => by rw [jG_n]; exact List.mem_range.mp hs
  have e : (LS (jG gs cs) b (List.range (joints gs).length)).n = (joints gs).length := List.length_range
  rw [e] at h
  exact h
theorem cX_eq {k : Nat} (hk : k < (joints gs).length) : cX gs cs b k = ply b gs (cX gs cs b) (ju gs k) (cs.getD k 0) := by
  have hkr : (List.range (joints gs).length)[k]? = some k := List.getElem?_range hk
  have h1 := solX_ok (CS_good ok hb0 hb1 hcs) (fun i => (CS gs cs b).R i 0) (i := k) hk
  have h2 := LS_sum (g := jG gs cs) (b := b) (C := List.range (joints gs).length) List.nodup_range k (by rw [List.length_range]; exact hk) (fun j => cX gs cs b j)
  rw [getD_of hkr, jG_row hk] at h2
  have e : ex (mvs gs (ju gs k) (cs.getD k 0)) (fun t => if t ∈ List.range (joints gs).length then cX gs cs b ((List.range (joints gs).length).idxOf t) else 0) = ex (mvs gs (ju gs k) (cs.getD k 0)) (cX gs cs b) := ex_congr fun tp ht => by
    have lt := (mvs_ok ok (ju_fits hk) (hcs k hk)).tgt tp ht
    rw [if_pos (List.mem_range.mpr lt)]
    congr 1
    have := idx_of List.nodup_range (List.getElem?_range lt)
    exact this
  rw [e] at h2
  rw [List.length_range] at h2
  have h3 : sm (joints gs).length (fun j => (LS (jG gs cs) b (List.range (joints gs).length)).M k j * cX gs cs b j) = (jG gs cs).r k := by
    have : (CS gs cs b).R k 0 = (jG gs cs).r k := by
      show (LS (jG gs cs) b (List.range (joints gs).length)).R k 0 = _
      simp only [LS, if_true, getD_of hkr]
    rw [← this]
    exact h1
  rw [h3, jG_r hk] at h2
  unfold ply
  grind
/-- the cost of the told position -/
theorem loss_eq {k : Nat} (hk : k < (joints gs).length) : bV b gs k - cX gs cs b k = (bV b gs k - ply b gs (bV b gs) (ju gs k) (cs.getD k 0)) + b * ex (mvs gs (ju gs k) (cs.getD k 0)) (fun t => bV b gs t - cX gs cs b t) := by
  have h := cX_eq ok hb0 hb1 hcs hk
  unfold ply at h ⊢
  have e : ex (mvs gs (ju gs k) (cs.getD k 0)) (fun t => bV b gs t - cX gs cs b t) = ex (mvs gs (ju gs k) (cs.getD k 0)) (bV b gs) - ex (mvs gs (ju gs k) (cs.getD k 0)) (cX gs cs b) := by
    generalize mvs gs (ju gs k) (cs.getD k 0) = l
    induction l with
    | nil => simp only [ex]; grind
    | cons z r ih => simp only [ex, ih]; grind
  rw [e]
  grind
theorem cost_nn {k : Nat} (hk : k < (joints gs).length) : 0 ≤ bV b gs k - ply b gs (bV b gs) (ju gs k) (cs.getD k 0) := by
  have := (bell ok hb0 hb1 (ju_fits hk)).1 _ (hcs k hk)
  unfold bV at this ⊢
  grind
theorem loss_nn {k : Nat} (hk : k < (joints gs).length) : 0 ≤ bV b gs k - cX gs cs b k := by
  have := cmp_le (n := (joints gs).length) (rw' := fun k => mvs gs (ju gs k) (cs.getD k 0)) hb0 hb1 (fun s hs => mvs_ok ok (ju_fits hs) (hcs s hs)) (fun k => -(bV b gs k - cX gs cs b k)) (fun s hs => .inr ?_) k hk
  · grind
  · have h1 := loss_eq ok hb0 hb1 hcs hs
    have h2 := cost_nn ok hb0 hb1 hcs hs
    have e : ex (mvs gs (ju gs s) (cs.getD s 0)) (fun k => -(bV b gs k - cX gs cs b k)) = -ex (mvs gs (ju gs s) (cs.getD s 0)) (fun t => bV b gs t - cX gs cs b t) := by
      generalize mvs gs (ju gs s) (cs.getD s 0) = l
      induction l with
      | nil => simp only [ex]; grind
      | cons z r ih => simp only [ex, ih]; grind
    rw [e]
    grind
end
/-! ### the table's curves in the order of the joint states -/
def cvS (b : Rat) (acc : List (List Pt)) (g : Game) : List (List Pt) := flat acc g.n fun c s => prodK c (gK g b s)
def cvA (b : Rat) (g0 : Game) (rest : List Game) : List (List Pt) := rest.foldl (cvS b) ((List.range g0.n).map (gK g0 b))
theorem pk_app {L : List (List Pt)} {c : List Pt} (h : L ≠ []) : pk (L ++ [c]) = prodK (pk L) c := by
  cases L with
  | nil => exact absurd rfl h
  | cons d L => simp only [List.cons_append, pk, List.foldl_append]; rfl
theorem cv_fold {b : Rat} : ∀ {rest done : List Game} {rows : List (List Nat)}, done ≠ [] → (∀ r ∈ rows, r.length = done.length) → rest.foldl (cvS b) (rows.map (pkJ b done)) = (rest.foldl jS rows).map (pkJ b (done ++ rest))
  | [], done, rows, _, _ => by simp
  | g :: rest, done, rows, hd, hr => by
    have e : cvS b (rows.map (pkJ b done)) g = (jS rows g).map (pkJ b (done ++ [g])) := by
      unfold cvS jS
      rw [flat_of, flat_map]
      unfold flat
      refine fm_congr fun r hrm => ?_
      refine List.map_congr_left fun s _ => ?_
      unfold pkJ
      show prodK (pk (List.zipWith (fun g s => gK g b s) done r)) (gK g b s) = pk (List.zipWith (fun g s => gK g b s) (done ++ [g]) (r ++ [s]))
      rw [List.zipWith_append (by rw [hr r hrm])]
      have ne : List.zipWith (fun g s => gK g b s) done r ≠ [] := fun z => by
        have := congrArg List.length z
        rw [List.length_zipWith, hr r hrm, Nat.min_self] at this
        exact hd (List.length_eq_zero_iff.mp this)
      show prodK _ _ = pk (_ ++ [gK g b s])
      rw [pk_app ne]
    show rest.foldl (cvS b) (cvS b (rows.map (pkJ b done)) g) = (rest.foldl jS (jS rows g)).map _
    rw [e, cv_fold (by simp) (fun r hrm => by
      obtain ⟨a, ha, j, _, rfl⟩ := flat_mem.mp hrm
      simp [hr a ha]), List.append_assoc]; rfl
theorem cvA_eq (b : Rat) (g0 : Game) (rest : List Game) : cvA b g0 rest = (joints (g0 :: rest)).map (pkJ b (g0 :: rest)) := by
  have e : (List.range g0.n).map (gK g0 b) = ((List.range g0.n).map fun s => [s]).map (pkJ b [g0]) := by
    rw [List.map_map]
    refine List.map_congr_left fun s _ => ?_
    rfl
  unfold cvA joints
  rw [e, cv_fold (by simp) (fun r hr => by obtain ⟨s, _, rfl⟩ := List.mem_map.mp hr; rfl)]
  show _ = (rest.foldl jS (jS [[]] g0)).map _
  have : jS [[]] g0 = (List.range g0.n).map fun s => [s] := by unfold jS flat; simp
  rw [this]; rfl
end AC
end
section
set_option maxRecDepth 100000
/-! The walk: joint states, the table of best gains. -/
namespace AC
open PySem PySem.Spec PyProof.Rows L2 ACD
variable {K : PySem.W.Frag}
theorem stay_mono {Ps : List VP} (h : ∀ P ∈ Ps, Stay P) : ∀ P ∈ Ps, Mono P := fun P hP => (h P hP).mono
theorem pi_tupK {X : Cx} {tg l : Expr} {tl : TE} (hK : X.K = K) (hl : PE X l tl) : PI X tg l (iTup K tl) := by subst hK; exact pi_tup hl
theorem pi_listK {X : Cx} {tg l : Expr} {tl : TE} (hK : X.K = K) (hl : PE X l tl) : PI X tg l (iList K tl) := by subst hK; exact pi_list hl
/-! ### two clauses -/
section
variable {σ : L2.St} {H : Hp} {tl te : TE} {wi1 : TI} {α : Type}
theorem ev_lc2 {i0 i1 m : Nat} {l : List α} {p : α → VP} {r : α → Nat → VP} {y1 : Nat → VP} (hx : Ev tl σ H (pLst K (l.map p))) (mP : ∀ a, Mono (p a)) (sR : ∀ a j, Stay (r a j)) (hle : l.length * m ≤ 1000)
    (hw0 : ∀ a : Option V, wipe ((wipe σ [i0, i1]).set i0 a) [i0, i1] = wipe σ [i0, i1]) (hw1 : ∀ a b : Option V, wipe ((wipe ((wipe σ [i0, i1]).set i0 a) [i1]).set i1 b) [i1] = wipe ((wipe σ [i0, i1]).set i0 a) [i1])
    (ht : ∀ (a : α) (v : V) H', a ∈ l → Same H H' → p a v H' → ∀ R : It → Hp → Prop, (∀ J1 H2, Same H' H2 → Walk J1 m (fun H => Stb H2 H) (fun j H x H' => H' = H ∧ y1 j x H) → R J1 H2) → wi1 ((wipe σ [i0, i1]).set i0 (some v)) H' R)
    (he : ∀ a j u v H', a ∈ l → j < m → Same H H' → p a u H' → y1 j v H' → Ev te ((wipe ((wipe σ [i0, i1]).set i0 (some u)) [i1]).set i1 (some v)) H' (r a j)) :
    Ev (tLc2 (iList K tl) (gName i0) tYes wi1 (gName i1) tYes te [i0, i1] [i1]) σ H (pOwn (flat l m r)) := fun H1 e Q q => by
  refine hx H1 e _ fun v H2 s2 ⟨a, xs, ev, sq, al⟩ => ⟨a, ev, ⟨xs, sq⟩, fun D hD => ?_⟩
  have hl := al.len
  rw [List.length_map] at hl
  have sF : ∀ R ∈ flat l m r, Stay R := fun R hR => by
    unfold flat at hR
    obtain ⟨a, _, h⟩ := List.mem_flatMap.mp hR
    obtain ⟨j, _, rfl⟩ := List.mem_map.mp h
    exact sR a j
  have hlF : (flat l m r).length ≤ 1000 := by rw [flat_len]; exact hle
  refine ⟨fun i k H' => k = xs.length - i ∧ i ≤ xs.length ∧ Made H2 D (flat l m r) (i * m) H', ⟨xs.length, by simp, Nat.zero_le _, by rw [Nat.zero_mul]; exact made_nil (Same.refl H2) hD⟩, ?_⟩
  rintro i k H3 ⟨rfl, hi, md⟩
  have w1 := walk_list (K := K) (a := a) (xs := xs)
  have sq3 : SqL K H3 a xs := md.1.seq sq
  by_cases hlt : i < xs.length
  · refine .inr ⟨w1.goes i H3 hlt sq3, fun H' => i + 1 ≤ xs.length ∧ Made H2 D (flat l m r) ((i + 1) * m) H', fun H' p' => ⟨xs.length - (i + 1), by omega, rfl, p'⟩, fun x H' yl => ?_⟩
    obtain ⟨rfl, hxi⟩ := w1.yields i H3 x H' hlt sq3 yl
    refine ⟨hw0 _, ?_⟩
    obtain ⟨z, hz⟩ := get_of_lt (l := l) (i := i) (by omega)
    obtain ⟨x', hx', px⟩ := al.get (map_get hz)
    rw [hxi] at hx'
    cases hx'
    have s23 := md.1
    have hzm := List.mem_of_getElem? hz
    refine ht z x H' hzm ((e.trans s2).trans s23) (mP z _ _ _ s23 px) _ fun J1 H4 s4 wk => ?_
    have md4 : Made H2 D (flat l m r) (i * m) H4 := by
      obtain ⟨m1, vs, m2, m3⟩ := md
      exact ⟨m1.trans s4, vs, s4 _ _ m2, m3.imp fun P hP v hv => sF P (List.mem_of_mem_take hP) v _ _ (Same.stb s4) hv⟩
    -- the new list may grow; what the inner source sees stays
    refine ⟨fun j k H' => k = m - j ∧ j ≤ m ∧ Made H2 D (flat l m r) (i * m + j) H' ∧ Stb H4 H', ⟨m, by simp, Nat.zero_le _, md4, Stb.refl _⟩, ?_⟩
    rintro j k H5 ⟨rfl, hj, m5, st5⟩
    by_cases hjl : j < m
    · refine .inr ⟨wk.goes j H5 hjl st5, fun H' => j + 1 ≤ m ∧ Made H2 D (flat l m r) (i * m + (j + 1)) H' ∧ Stb H4 H', fun H' p' => ⟨m - (j + 1), by omega, rfl, p'⟩, fun w' H' yl => ?_⟩
      obtain ⟨rfl, py⟩ := wk.yields j H5 w' H' hjl st5 yl
      refine ⟨hw1 _ _, ?_⟩
      refine he z j x w' H' hzm hjl ((e.trans s2).trans m5.1) (mP z _ _ _ m5.1 px) py H' (Same.refl H') _ fun u H6 s6 pu => ?_
      obtain ⟨acc, h1, h2, h3⟩ := made_step m5 hD sF (flat_get hz hjl) s6 pu hlF
      exact ⟨acc, h1, h2, hjl, h3, (st5.trans (Same.stb s6)).trans (Stb.lst h1)⟩
    · have ej : j = m := by omega
      subst ej
      refine .inl ⟨wk.stops H5 st5, hlt, ?_⟩
      rw [Nat.add_mul, Nat.one_mul]
      exact m5
  · have ei : i = xs.length := by omega
    subst ei
    refine .inl ⟨w1.stops H3 sq3, q _ H3 (s2.trans md.1) ?_⟩
    have : xs.length * m = (flat l m r).length := by rw [flat_len, hl]
    rw [this] at md
    exact made_end md
end
/-- what follows a range | a tuple as the inner source -/
theorem wk_range {m : Nat} {H2 : Hp} : Walk (Itr 0 m) m (fun H => Stb H2 H) (fun j H x H' => H' = H ∧ pInt (0 + (j : Nat)) x H) := walk_range.mono (fun _ _ => trivial) fun _ _ _ _ _ _ y => y
theorem wk_tup {a : Addr} {xs : List V} {H2 : Hp} {Ps : List VP} (sq : SqT K H2 a xs) (al : Al H2 xs Ps) (st : ∀ P ∈ Ps, Stay P) : Walk (Itt K a) Ps.length (fun H => Stb H2 H) (fun j H x H' => H' = H ∧ ∀ P, Ps[j]? = some P → P x H) := by
  rw [← al.len]
  refine walk_tup.mono (fun H h => h.seqT sq) fun i H x H' hi h y => ⟨y.1, fun P hP => ?_⟩
  obtain ⟨x', hx', px⟩ := al.get hP
  rw [y.2] at hx'
  cases hx'
  exact st P (List.mem_of_getElem? hP) _ _ _ h px
/-! ### joint states -/
theorem ev_catJ {σ : L2.St} {H : Hp} {ta tb : TE} {u w : List Nat} (ha : Ev ta σ H (pJ u)) (hb : Ev tb σ H (pJ w)) (hl : u.length + w.length ≤ 1000) : Ev (tOp (rCatA K) ta tb) σ H (pJ (u ++ w)) := fun H1 e Q q =>
  ha H1 e _ fun v H2 e2 p => hb H2 (e.trans e2) _ fun x H3 e3 p3 => by
    obtain ⟨a, rfl, ha⟩ := st_J _ _ _ (Same.stb e3) p
    obtain ⟨b, rfl, hb⟩ := p3
    refine ⟨a, b, jV u, jV w, rfl, rfl, .of ha, .of hb, Nat.le_of_lt (small1000 (by simp only [jV, List.length_map]; exact hl)), fun z => ?_, fun _ z => ?_, fun _ _ p hp => ?_⟩
    · have : u = [] := List.map_eq_nil_iff.mp z
      subst this
      exact q _ _ (e2.trans e3) ⟨b, rfl, hb⟩
    · have : w = [] := List.map_eq_nil_iff.mp z
      subst this
      rw [List.append_nil] at q
      exact q _ _ (e2.trans e3) ⟨a, rfl, ha⟩
    · refine q _ _ ((e2.trans e3).trans (Same.new hp)) ⟨p, rfl, ?_⟩
      rw [upd_same]; unfold jV; rw [List.map_append]
theorem ev_J1 {σ : L2.St} {H : Hp} {te : TE} {i : Int} {s : Nat} (h : Ev te σ H (pInt i)) (e : i = (s : Nat)) : Ev (tTup (tCons te tNil)) σ H (pJ [s]) := fun H1 e1 Q q =>
  h H1 e1 _ fun v H2 s2 p => ⟨by show 1 ≤ sizeLine; decide, fun l hl => q _ _ (s2.trans (Same.new hl)) ⟨l, rfl, by
    obtain rfl : v = V.int i := p
    rw [upd_same, e]; rfl⟩⟩
theorem ev_J0 {σ : L2.St} {H : Hp} : Ev (tTup tNil) σ H (pJ []) := fun H1 e1 Q q => ⟨Nat.zero_le _, fun l hl => q _ _ (Same.new hl) ⟨l, rfl, upd_same⟩⟩
def spJs (K : PySem.W.Frag) : Sp := Spc (fun gs : List Game => [pTup K (gs.map (pGame K))]) (fun gs => gs.length ≤ 900 ∧ ∀ i, i ≤ gs.length → ((gs.take i).foldl jS [[]]).length ≤ 1000 ∧ ∀ u ∈ (gs.take i).foldl jS [[]], u.length ≤ 900) fun gs => pTup K ((joints gs).map pJ)
def spGain (K : PySem.W.Frag) (C : Addr) : Sp := Spc (fun ks : List Pt => [pCurve K C ks, pIs .non]) (fun ks => WF ks) fun ks => pR K (floorK ks)
structure VtK (a : Game × List Game × Rat) : Prop where
  le : a.2.1.length ≤ 900
  ac : ∀ g ∈ a.1 :: a.2.1, AcK (g, a.2.2)
  len : ∀ i, i ≤ a.2.1.length → (cvA a.2.2 a.1 (a.2.1.take i)).length ≤ 1000
  pr : ∀ i g, a.2.1[i]? = some g → ∀ c ∈ cvA a.2.2 a.1 (a.2.1.take i), ∀ s, s < g.n → PrK c (gK g a.2.2 s) ∧ CurveK (prodK c (gK g a.2.2 s))
  wf : ∀ c ∈ cvA a.2.2 a.1 a.2.1, WF c
def spVt (K : PySem.W.Frag) : Sp := Spc (fun a : Game × List Game × Rat => [pTup K ((a.1 :: a.2.1).map (pGame K)), pR K a.2.2, pIs .non]) VtK fun a => pTup K ((cvA a.2.2 a.1 a.2.1).map fun c => pR K (floorK c))
/-- a def with a keyword-only default None -/
def GotD (K : PySem.W.Frag) (mg : Str → Option Value) (x : Str) (i : Nat) (ps : List Str) : Prop := ∃ (kw : Str) (f : Addr) (fd : FuncData), FunD K x x (defArgs (topS i)) (defBody (topS i)) (defScope (topS i)) [] [(kw, .non)] f fd ∧ mg x = some (.ref f) ∧ ∃ ds, Vals [V.non] ds ∧ Binds K fd ps ds
section
variable (P : Program) (w : World) (K : PySem.W.Frag) (mg : Str → Option Value) (base : Heap)
def DefOkD (k : Nat) (x : Str) (ps : List Str) (sp : Sp) : Prop := ∃ f fd, FnOk P w K mg base CX0 k f fd ps sp ∧ mg x = some (.ref f) ∧ PySem.W.keepIn K (.ref f) = true ∧ ∃ ds, Vals [V.non] ds ∧ Binds K fd ps ds
end
theorem sc46 : FnScope ["curve", "stop"] ["curve", "stop"] (defScope (topS 46)) := ⟨rfl, rfl, rfl, by decide +kernel, rfl, by decide +kernel, by decide +kernel⟩
theorem sc48 : FnScope ["games", "rows", "game", "row", "state"] ["games"] (defScope (topS 48)) := ⟨rfl, rfl, rfl, by decide +kernel, rfl, by decide +kernel, by decide +kernel⟩
theorem sc49 : FnScope ["games", "discount", "stop", "curves", "game", "own", "curve", "other"] ["games", "discount", "stop"] (defScope (topS 49)) := ⟨rfl, rfl, rfl, by decide +kernel, rfl, by decide +kernel, by decide +kernel⟩
section
variable {P : Program} {w : World} {mg : Str → Option Value} {base : Heap} {C : Addr}
theorem pe_callDD {X : Cx} {k : Nat} {x : Str} {ps : List Str} {sp : Sp} {p pos : Pos} {e : Expr} {es : List Expr} {t : TA} (D : DefOkD X.prog X.w X.K X.mg X.base k x ps sp) (hr : Room k X.A) (hg : Gl X x) (ha : PA X (e :: es) t) (hdb : (x == ("__debug__" : Str)) = false := by decide)
    (hs : starEach (e :: es) X.env = (false, eval e X.env) :: starEach es X.env := by rfl) (hp : (backTo pos (starEach es X.env)).any (·.1) = false := by rfl) : PE X (.Call (.Name x p) (e :: es) [] pos) (tCall sp [V.non] E0 t) := by
  obtain ⟨f, fd, F, hm, hk, ds, hv, hb⟩ := D
  exact pe_call F hr hg hm hk hb hv pass0 ha hdb hs hp
theorem def_ofD {α : Type} {args : α → List VP} {side : α → Prop} {post : α → VP} {x : Str} {i : Nat} {ps N : List Str} {k : Nat} (g : GotD K mg x i ps) (S : FnScope N ps (defScope (topS i))) (hl : ∀ a, (args a).length = ps.length)
    (hb : ∀ (f : Addr) (cdv : Value) (A : Around) (outer : List Env) (s : Shared) (H : Hp) (vs : List V) (Q : VK) (E : XK) (a : α), Room k (A.deeper (envOfC x (defScope (topS i)) s.heap.objs.size f cdv)) → side a → Al H vs (args a) → (∀ v H', Same H H' → post a v H' → Q v H') →
      ∃ t, PSs (cxOf CX0 P w K mg base N x (defScope (topS i)) f cdv A outer s H E).nox (defBody (topS i)) t ∧ t { nx := fun _ H' => Q .non H', rt := Q } (start N vs) H) : DefOkD P w K mg base (k + 1) x ps (Spc args side post) := by
  obtain ⟨kw, f, fd, F, hm, hbd⟩ := g
  refine ⟨f, fd, F.ok S (fun vs H Q E h => ?_) (fun cdv A outer s H vs Q E hr h => ?_), hm, F.kp, hbd⟩
  · obtain ⟨a, _, al, _⟩ := h
    rw [al.len, hl a]
  · obtain ⟨a, sd, al, q⟩ := h
    obtain ⟨t, ht, qt⟩ := hb f cdv A outer s H vs Q E a hr sd al q
    exact ⟨t, ht.nox, qt⟩
theorem d_gain_of (g : Got K mg "gain_of" 46 ["curve", "stop"]) (FL : FloorOk P w K mg base C) : DefOk P w K mg base 3 "gain_of" ["curve", "stop"] (spGain K C) := by
  obtain ⟨pf, gf, fdf, Cc, Pr, Ff, hbf⟩ := FL
  refine def_of g sc46 (fun _ => rfl) fun fa cdv A outer s0 H vs Q E ks hr sd al q => ?_
  have wf : WF ks := sd
  cases al with | cons h1 al => cases al with | cons h2 al => cases al with | nil =>
  rename_i v1 v2
  have h1 : pCurve K C ks v1 H := h1
  obtain rfl : v2 = V.non := h2
  refine ⟨_, (pss_cons (ps_if (pt_cmpR op_isN (pv 1) pe_non (nomark _)) (pss_one (ps_ret (pe_prop (pv 0) Cc Pr Ff (hr.mono (by decide)) hbf .nil pass0 rfl))) pss_nil)
    (pss_one ps_never)), ?_⟩
  refine ⟨.non, rfl, rfl, true, rfl, ?_⟩
  refine iteT ?_
  obtain ⟨p, dx, w', rfl, hp, pp⟩ := id h1
  refine ⟨_, rfl, p, dx, _, rfl, hp, ks, wf, .cons h1 .nil, fun v H' s pv => q v H' s ?_⟩
  cases ks with
  | nil => exact wf.elim
  | cons p r => exact pv p r rfl
theorem d_joint_states (g : Got K mg "joint_states" 48 ["games"]) (m_range : mg "range" = none) (m_len : mg "len" = none) (m_tuple : mg "tuple" = none) : DefOk P w K mg base 1 "joint_states" ["games"] (spJs K) := by
  refine def_of g sc48 (fun _ => rfl) fun fa cdv A outer s0 H vs Q E gs hr sd al q => ?_
  obtain ⟨gl, sd⟩ := sd
  cases al with | cons h1 al => cases al with | nil =>
  rename_i v1
  have h1 : pTup K (gs.map (pGame K)) v1 H := h1
  have stG : ∀ P ∈ gs.map (pGame K), Stay P := stay_map fun _ => st_game
  refine ⟨_, (pss_cons (ps_set (i := 1) sc48.nd rfl (.inl rfl) (pe_lst (pa_cons (pe_tup pa_nil) pa_nil)))
    (pss_cons (ps_for PassesOwn.never rfl (pi_tup (pv 0)) (pg_name (i := 2) sc48.nd rfl (.inr rfl))
    (pss_one (ps_setLc2 (i := 1) (own := [("row", 3), ("state", 4)]) (vs1 := [4]) rfl sc48.nd rfl rfl (sw_true rfl rfl rfl (by decide +kernel)) (pi_list (pv 1)) (blkOk_by (N := ["games", "rows", "game", "row", "state"]) (sc := defScope (topS 48)) (by decide +kernel)) (by decide) (fun _ _ _ _ _ => (pg_name (i := 3) sc48.nd rfl (Or.inl rfl))) (fun _ _ _ _ _ => pts_nil) (fun _ _ _ _ _ => (pi_range1 rfl m_range (pa_cons (pe_callB (call_lenK (K := K) rfl) (by rfl) m_len PySem.boot_len (pa_cons (pe_ixT (K := K) rfl (pv 2) pe_int (fun _ _ => rfl)) pa_nil)) pa_nil))) (fun _ _ _ _ _ => (pg_name (i := 4) sc48.nd rfl (Or.inl rfl))) (fun _ _ _ _ _ => pts_nil) (fun _ _ _ _ _ => (pe_op (op_catK (K := K) rfl) (pv 3) (pe_tup (pa_cons (pv 4) pa_nil)))))))
    (pss_one (ps_ret (pe_callTy call_tuple_of (by rfl) m_tuple (by decide +kernel) (pa_cons (pv 1) pa_nil)))))), ?_⟩
  refine seq_set (ev_new1 (P := pJ []) ev_J0 st_J) fun vr H1 s1 pr => ?_
  have pr : pOwn ((([[]] : List (List Nat))).map pJ) vr H1 := by
    obtain ⟨l, us, e, _, h, a⟩ := pr
    exact ⟨l, us, e, h, a⟩
  refine for_T (K := K) (ev_v (i := 0) (P := pTup K (gs.map (pGame K))) rfl (stay_tup stG).mono ((stay_tup stG).mono _ _ _ s1 h1)) stG fun vg H2 s2 pg => ⟨fun i σ H' => ∃ (vr : V) (y2 : Option V), σ = [some v1, some vr, y2, none, none] ∧ Same H1 H' ∧ Same H2 H' ∧ pOwn (((gs.take i).foldl jS [[]]).map pJ) vr H',
    ⟨vr, none, rfl, s2, Same.refl _, mono_own (stay_mono (stay_map fun _ => st_J)) _ _ _ s2 pr⟩, ?_, ?_, ?_⟩
  · rintro i σ H' ⟨vr, y2, rfl, s3, s4, p⟩
    exact Same.stb s4
  · rintro i x P σ H3 hP px ⟨vr, y2, rfl, s3, s4, p⟩
    have hi := lt_of_get hP
    rw [List.length_map] at hi
    obtain ⟨gm, hg⟩ := get_of_lt (l := gs) (i := i) hi
    rw [map_get hg] at hP
    cases hP
    obtain ⟨c1, c2⟩ := sd (i + 1) hi
    obtain ⟨c3, c4⟩ := sd i (by omega)
    have et : (gs.take (i + 1)).foldl jS [[]] = jS ((gs.take i).foldl jS [[]]) gm := by rw [take_succ hg, List.foldl_append]; rfl
    rw [et] at c1
    unfold jS at c1
    rw [flat_len] at c1
    refine one_set (ev_lc2 (K := K) (m := gm.n) (l := (gs.take i).foldl jS [[]]) (p := pJ) (r := fun u s => pJ (u ++ [s])) (y1 := fun j => pInt (0 + (j : Nat))) (ev_v (i := 1) rfl (mono_lst (stay_mono (stay_map fun _ => st_J))) p.lst) (fun _ => st_J.mono) (fun _ _ => st_J) c1 (fun _ => rfl) (fun _ _ => rfl) (fun u v H' hu s5 pu R hR => ?_) (fun u j a v H' hu hj s5 pu pv => ?_)) fun vn H4 s5 pn => ?_
    · refine iw_range1 (n := gm.n) (eva_cons ?_ stay_int.mono eva_nil) ?_ H' (Same.refl H') R fun H5 s6 => hR _ H5 s6 wk_range
      · have e := ev_lenT (K := K) (H := H') (ta := tOp (rIxT K) (tVar 2) (tC (.int 0))) (σ := (wipe [some v1, some vr, some x, none, none] [3, 4]).set 3 (some v)) (ev_ixT (K := K) (i := 0) (ev_v (i := 2) (P := pGame K gm) rfl st_game.mono (st_game.mono _ _ _ s5 px)) (ev_int (i := 0)) rfl rfl (st_gparts gm))
        rw [List.length_map] at e
        exact e
      · have hne : 0 < ((gs.take i).foldl jS [[]]).length := List.length_pos_of_mem hu
        exact Nat.le_trans (Nat.le_mul_of_pos_left gm.n hne) (Nat.le_trans c1 (by decide))
    · exact ev_catJ (K := K) (ev_v (i := 3) rfl st_J.mono pu) (ev_J1 (ev_v (i := 4) rfl stay_int.mono pv) (by omega)) (by have := c4 u hu; simp; omega)
    · refine ⟨vn, _, rfl, s3.trans s5, s4.trans s5, ?_⟩
      rw [et]
      unfold jS
      rw [flat_map]
      exact pn
  · rintro σ H3 ⟨vr, y2, rfl, s3, s4, p⟩
    rw [List.length_map, List.take_length] at p
    exact one_ret (ev_tupleL (K := K) (ev_v (i := 1) rfl (mono_lst (stay_mono (stay_map fun _ => st_J))) p.lst) (stay_map fun _ => st_J)) fun v H4 s5 pv => q v H4 (s1.trans (s3.trans s5)) pv
theorem d_value_table (g : GotD K mg "value_table" 49 ["games", "discount", "stop"]) (m_list : mg "list" = none) (m_tuple : mg "tuple" = none) (D_all_curves : DefOk P w K mg base 10 "all_curves" ["game", "discount"] (spAll K C)) (D_gain_of : DefOk P w K mg base 3 "gain_of" ["curve", "stop"] (spGain K C)) (ML : MulOk P w K mg base C) :
    DefOkD P w K mg base 11 "value_table" ["games", "discount", "stop"] (spVt K) := by
  obtain ⟨fm, fdm, Fm, hbm, sfm, fim, ifm⟩ := ML
  refine def_ofD g sc49 (fun _ => rfl) fun fa cdv A outer s0 H vs Q E a hr sd al q => ?_
  obtain ⟨g0, rest, b⟩ := a
  obtain ⟨le, ac, len, pr, wf⟩ := sd
  simp only at le ac len pr wf
  cases al with | cons h1 al => cases al with | cons h2 al => cases al with | cons h3 al => cases al with | nil =>
  rename_i v1 v2 v3
  have h1 : pTup K ((g0 :: rest).map (pGame K)) v1 H := h1
  have h2 : pR K b v2 H := h2
  obtain rfl : v3 = V.non := h3
  have stG : ∀ P ∈ (g0 :: rest).map (pGame K), Stay P := stay_map fun _ => st_game
  have stC : ∀ (l : List (List Pt)), ∀ P ∈ l.map (pCurve K C), Stay P := fun l => stay_map fun _ => st_curve
  refine ⟨_, (pss_cons (ps_set (i := 3) sc49.nd rfl (.inl rfl) (pe_callTy call_list_of (by rfl) m_list (by decide +kernel) (pa_cons (pe_callD D_all_curves hr (by rfl) (pa_cons (pe_ix ix_tup (pv 0) pe_int (fun _ _ => rfl)) (pa_cons (pv 1) pa_nil))) pa_nil)))
    (pss_cons (ps_for PassesOwn.never rfl (pi_tup (pe_slice sl_tupA (pv 0) (po_some pe_int) po_none)) (pg_name (i := 4) sc49.nd rfl (.inl rfl))
    (pss_cons (ps_set (i := 5) sc49.nd rfl (.inr rfl) (pe_callD D_all_curves hr (by rfl) (pa_cons (pv 4) (pa_cons (pv 1) pa_nil))))
    (pss_one (ps_setLc2 (i := 3) (own := [("curve", 6), ("other", 7)]) (vs1 := [7]) rfl sc49.nd rfl rfl (sw_true rfl rfl rfl (by decide +kernel)) (pi_list (pv 3)) (blkOk_by (N := ["games", "discount", "stop", "curves", "game", "own", "curve", "other"]) (sc := defScope (topS 49)) (by decide +kernel)) (by decide) (fun _ _ _ _ _ => (pg_name (i := 6) sc49.nd rfl (Or.inl rfl))) (fun _ _ _ _ _ => pts_nil) (fun _ _ _ _ _ => (pi_tupK (K := K) rfl (pv 5))) (fun _ _ _ _ _ => (pg_name (i := 7) sc49.nd rfl (Or.inl rfl))) (fun _ _ _ _ _ => pts_nil) (fun _ _ _ _ _ => (pe_op (op_own Fm (hr.mono (by decide)) sfm fim ifm hbm pass0) (pv 6) (pv 7)))))))
    (pss_one (ps_ret (pe_callTy call_tuple_of (by rfl) m_tuple (by decide +kernel) (pa_cons (pe_lc (own := [("curve", 6)]) rfl sc49.nd (pi_list (pv 3)) (blkOk_by (N := ["games", "discount", "stop", "curves", "game", "own", "curve", "other"]) (sc := defScope (topS 49)) (by decide +kernel)) (fun _ _ _ _ _ => (pg_name (i := 6) sc49.nd rfl (Or.inl rfl))) (fun _ _ _ _ _ => pts_nil) (fun _ _ _ _ _ => (pe_callD D_gain_of (hr.mono (by decide)) (by rfl) (pa_cons (pv 6) (pa_cons (pv 2) pa_nil))))) pa_nil)))))), ?_⟩
  refine seq_set (P := pOwn ((cvA b g0 []).map (pCurve K C))) (ev_listT (K := K) (Ps := (cvA b g0 []).map (pCurve K C)) ?_ (stC _)) fun vc H1 s1 pc => ?_
  · have e := ev_call (args := fun a : Game × Rat => [pGame K a.1, pR K a.2]) (side := AcK) (post := fun a => pCurves K C a.1 a.2) (g0, b) (ac g0 (by simp)) (eva_cons (ev_ixT (K := K) (i := 0) (P := pGame K g0) (ev_v (i := 0) (σ := start ["games", "discount", "stop", "curves", "game", "own", "curve", "other"] [v1, v2, .non]) rfl (stay_tup stG).mono h1) (ev_int (i := 0)) rfl rfl stG) st_game.mono (eva_cons (ev_v (i := 1) rfl stay_R.mono h2) stay_R.mono eva_nil))
    have ee : (cvA b g0 []).map (pCurve K C) = (List.range g0.n).map fun s => pCurve K C (gK g0 b s) := by
      show ((List.range g0.n).map (gK g0 b)).map (pCurve K C) = _
      rw [List.map_map]; rfl
    rw [ee]
    exact e
  have hsl := ev_slT (K := K) (a := 1) (b := rest.length + 1) (lo := some 1) (hi := none) (ev_v (H := H1) (i := 0) (σ := [some v1, some v2, some .non, some vc, none, none, none, none]) (P := pTup K ((g0 :: rest).map (pGame K))) rfl (stay_tup stG).mono ((stay_tup stG).mono _ _ _ s1 h1)) (evo_some (ev_int (i := 1))) evo_no (by
    rw [show (1 : Int) = ((1 : Nat) : Int) from rfl, HT.sIx_nat]; simp) (by simp [HT.sIx_none]) stG
  have ec : cutP ((g0 :: rest).map (pGame K)) 1 (rest.length + 1) = rest.map (pGame K) := by
    unfold cutP
    rw [List.map_cons, List.drop_succ_cons, List.drop_zero, List.take_of_length_le (by simp)]
  rw [ec] at hsl
  have stR : ∀ P ∈ rest.map (pGame K), Stay P := stay_map fun _ => st_game
  refine for_T (K := K) hsl stR fun vg H2 s2 pg => ⟨fun i σ H' => ∃ (vc : V) (y4 y5 : Option V), σ = [some v1, some v2, some .non, some vc, y4, y5, none, none] ∧ Same H1 H' ∧ Same H2 H' ∧ pOwn ((cvA b g0 (rest.take i)).map (pCurve K C)) vc H',
    ⟨vc, none, none, rfl, s2, Same.refl _, mono_own (stay_mono (stC _)) _ _ _ s2 pc⟩, ?_, ?_, ?_⟩
  · rintro i σ H' ⟨vc, y4, y5, rfl, s3, s4, p⟩
    exact Same.stb s4
  · rintro i x P σ H3 hP px ⟨vc, y4, y5, rfl, s3, s4, p⟩
    have hi := lt_of_get hP
    rw [List.length_map] at hi
    obtain ⟨gm, hg⟩ := get_of_lt (l := rest) (i := i) hi
    rw [map_get hg] at hP
    cases hP
    have et : cvA b g0 (rest.take (i + 1)) = cvS b (cvA b g0 (rest.take i)) gm := by unfold cvA; rw [take_succ hg, List.foldl_append]; rfl
    have c1 := len (i + 1) hi
    rw [et] at c1
    unfold cvS at c1
    rw [flat_len] at c1
    have s13 := s1.trans s3
    refine seq_set (ev_call (args := fun a : Game × Rat => [pGame K a.1, pR K a.2]) (side := AcK) (post := fun a => pCurves K C a.1 a.2) (gm, b) (ac gm (by simp [List.mem_of_getElem? hg])) (eva_cons (ev_v (i := 4) rfl st_game.mono px) st_game.mono (eva_cons (ev_v (i := 1) rfl stay_R.mono (stay_R.mono _ _ _ s13 h2)) stay_R.mono eva_nil))) fun vo H4 s5 po => ?_
    have po : pCurves K C gm b vo H4 := po
    have p4 := mono_own (stay_mono (stC _)) _ _ _ s5 p
    refine one_set (ev_lc2 (K := K) (m := gm.n) (l := cvA b g0 (rest.take i)) (p := pCurve K C) (r := fun c s => pCurve K C (prodK c (gK gm b s))) (y1 := fun j v H => j < gm.n → pCurve K C (gK gm b j) v H) (ev_v (i := 3) rfl (mono_lst (stay_mono (stC _))) p4.lst) (fun _ => st_curve.mono) (fun _ _ => st_curve) c1 (fun _ => rfl) (fun _ _ => rfl) (fun u v H' hu s6 pu R hR => ?_) (fun c j a v H' hc hj s6 pu pv => ?_)) fun vn H5 s6 pn => ?_
    · obtain ⟨ad, xs, rfl, sq, al⟩ := st_curves.mono _ _ _ s6 po
      refine ⟨_, rfl, ad, rfl, ⟨xs, sq⟩, ?_⟩
      have wk := wk_tup (K := K) sq al (stay_map fun _ => st_curve)
      rw [List.length_map, List.length_range] at wk
      exact hR _ H' (Same.refl _) (wk.mono (fun _ h => h) fun j H x H' hj _ y => ⟨y.1, fun _ => y.2 _ (range_get hj)⟩)
    · obtain ⟨k1, k2⟩ := pr i gm hg c hc j hj
      intro H6 s7 Q q
      have pu6 := st_curve.mono _ _ _ s7 pu
      have pv6 := st_curve.mono _ _ _ s7 (pv hj)
      obtain ⟨pa, dxa, wa, rfl, hpa, ppa⟩ := id pu6
      obtain ⟨pb, dxb, wb, rfl, hpb, ppb⟩ := id pv6
      refine ⟨_, rfl, _, rfl, pa, pb, dxa, dxb, _, _, rfl, rfl, hpa, hpb, (c, gK gm b j), ⟨k1, k2⟩, .cons pu6 (.cons pv6 .nil), fun v H' s pv => ?_⟩
      have pv : pCurve K C (prodK c (gK gm b j)) v H' := pv
      exact ⟨by obtain ⟨p, _, _, e, _⟩ := pv; exact ⟨p, e⟩, q v H' s pv⟩
    · refine ⟨vn, _, _, rfl, s3.trans (s5.trans s6), s4.trans (s5.trans s6), ?_⟩
      rw [et]
      unfold cvS
      rw [flat_map]
      exact pn
  · rintro σ H3 ⟨vc, y4, y5, rfl, s3, s4, p⟩
    rw [List.length_map, List.take_length] at p
    have hlen : (cvA b g0 rest).length ≤ 1000 := by have := len rest.length (Nat.le_refl _); rwa [List.take_length] at this
    refine one_ret (ev_tupleL (K := K) (Ps := (cvA b g0 rest).map fun c => pR K (floorK c)) (Ev.imp (ev_lcL (K := K) (Ps := (cvA b g0 rest).map (pCurve K C)) (Rs := (cvA b g0 rest).map fun c => pR K (floorK c)) (ev_v (i := 3) rfl (mono_lst (stay_mono (stC _))) p.lst) (stay_mono (stC _)) (by simp) (stay_map fun _ => stay_R) (by simp; omega) (fun j P R v H' hP hR s' pv => ?_)) fun v H' _ p => p.lst) (stay_map fun _ => stay_R)) fun v H4 s5 pv => q v H4 (s1.trans (s3.trans s5)) pv
    have hj : j < (cvA b g0 rest).length := by have := lt_of_get hP; simpa using this
    obtain ⟨c, hc⟩ := get_of_lt hj
    rw [map_get hc] at hP hR
    cases hP
    cases hR
    exact ev_call (args := fun ks : List Pt => [pCurve K C ks, pIs .non]) (side := fun ks => WF ks) (post := fun ks => pR K (floorK ks)) c (wf c (List.mem_of_getElem? hc)) (eva_cons (ev_v (i := 6) rfl st_curve.mono pv) st_curve.mono (eva_cons (ev_v (i := 2) rfl stay_is.mono rfl) stay_is.mono eva_nil))
end
end AC
end
section
set_option maxRecDepth 100000
/-! The walk: values, costs and losses of choices. -/
namespace AC
open PySem PySem.Spec PyProof.Rows L2 ACD
variable {K : PySem.W.Frag}
theorem ev_slJ {σ : L2.St} {H : Hp} {tl : TE} {u : List Nat} {tlo thi : TO} {lo hi : Option Int} {a b : Nat} (hl : Ev tl σ H (pJ u)) (hlo : EvO tlo σ H lo) (hhi : EvO thi σ H hi) (ea : HT.sIx u.length 0 lo = a) (eb : HT.sIx u.length u.length hi = b) :
    Ev (tSl (rSlA K) tl tlo thi) σ H (pJ (cutP u a b)) := fun H1 e Q q =>
  hl H1 e _ fun v H2 s2 p => hlo H2 (e.trans s2) _ fun H3 s3 => hhi H3 (e.trans (s2.trans s3)) _ fun H4 s4 => by
    obtain ⟨x, rfl, hx⟩ := st_J _ _ _ (Same.stb (s3.trans s4)) p
    have hl : (jV u).length = u.length := by unfold jV; rw [List.length_map]
    refine ⟨x, jV u, rfl, .of hx, fun z => ?_, fun _ p hp => ?_⟩
    · rw [hl, ea, eb] at z
      refine q _ _ (s2.trans (s3.trans s4)) ⟨x, rfl, ?_⟩
      rw [z.1, z.2]
      unfold cutP
      rw [List.drop_zero, Nat.sub_zero, List.take_length]
      exact hx
    · refine q _ _ ((s2.trans (s3.trans s4)).trans (Same.new hp)) ⟨p, rfl, ?_⟩
      rw [upd_same]
      unfold cutV
      rw [hl, ea, eb]
      unfold cutP jV
      rw [List.map_take, List.map_drop]
def spWs : Sp := Spc (fun a : List Nat × Nat × Nat => [pJ a.1, pInt (a.2.1 : Nat), pInt (a.2.2 : Nat)]) (fun a => a.2.1 < a.1.length ∧ a.1.length ≤ 900) fun a => pJ (a.1.set a.2.1 a.2.2)
theorem ev_ws {σ : L2.St} {H : Hp} {ta tb tc : TE} {u : List Nat} {p s : Nat} (ha : Ev ta σ H (pJ u)) (hb : Ev tb σ H (pInt (p : Nat))) (hc : Ev tc σ H (pInt (s : Nat))) (h : p < u.length) (hl : u.length ≤ 900) : Ev (tCall spWs [] E0 (tCons ta (tCons tb (tCons tc tNil)))) σ H (pJ (u.set p s)) :=
  ev_call (args := fun a : List Nat × Nat × Nat => [pJ a.1, pInt (a.2.1 : Nat), pInt (a.2.2 : Nat)]) (side := fun a => a.2.1 < a.1.length ∧ a.1.length ≤ 900) (post := fun a => pJ (a.1.set a.2.1 a.2.2)) (u, p, s) ⟨h, hl⟩ (eva_cons ha st_J.mono (eva_cons hb stay_int.mono (eva_cons hc stay_int.mono eva_nil)))
/-- what the joint states ask -/
structure JsK (gs : List Game) : Prop where
  le : gs.length ≤ 900
  js : ∀ i, i ≤ gs.length → ((gs.take i).foldl jS [[]]).length ≤ 1000 ∧ ∀ u ∈ (gs.take i).foldl jS [[]], u.length ≤ 900
structure CvK (a : List Game × List Nat × Rat) : Prop where
  js : JsK a.1
  le : (joints a.1).length ≤ 50
  cl : a.2.1.length = (joints a.1).length
  cp : ∀ k, k < (joints a.1).length → a.2.1.getD k 0 < a.1.length
  ok : ∀ g ∈ a.1, GameOk g
  small : Small (CS a.1 a.2.1 a.2.2)
  s1 : ∀ k, k < (joints a.1).length → ∀ tp ∈ mvs a.1 (ju a.1 k) (a.2.1.getD k 0), Ok (a.2.2 * tp.2)
  s2 : ∀ k, k < (joints a.1).length → ∀ t j, Ok (un k j - a.2.2 * ex ((mvs a.1 (ju a.1 k) (a.2.1.getD k 0)).take t) (ind j))
def spCv (K : PySem.W.Frag) : Sp := Spc (fun a : List Game × List Nat × Rat => [pTup K (a.1.map (pGame K)), pNats K a.2.1, pR K a.2.2]) CvK fun a => pTup K ((List.range (joints a.1).length).map fun k => pR K (cX a.1 a.2.1 a.2.2 k))
/-- playing p from u, W the worths -/
structure PlA where
  gs : List Game
  u : List Nat
  p : Nat
  W : Nat → Rat
  b : Rat
structure PlK (a : PlA) : Prop where
  fit : Fits a.gs a.u
  le : a.gs.length ≤ 900
  lt : a.p < a.gs.length
  ok : ∀ g ∈ a.gs, GameOk g
  w1 : ∀ tp ∈ mvs a.gs a.u a.p, Ok (tp.2 * a.W tp.1)
  w2 : ∀ t, Ok (ex ((mvs a.gs a.u a.p).take t) a.W)
  w3 : Ok (a.b * ex (mvs a.gs a.u a.p) a.W)
  w4 : Ok (ply a.b a.gs a.W a.u a.p)
def pWor (K : PySem.W.Frag) (gs : List Game) (W : Nat → Rat) : VP := pDicT (joints gs) ((List.range (joints gs).length).map fun k => pR K (W k))
theorem mono_wor {gs : List Game} {W : Nat → Rat} : Mono (pWor K gs W) := mono_dicT (stay_map fun _ => stay_R)
def spPl (K : PySem.W.Frag) : Sp := Spc (fun a : PlA => [pTup K (a.gs.map (pGame K)), pJ a.u, pInt (a.p : Nat), pWor K a.gs a.W, pR K a.b]) PlK fun a => pR K (ply a.b a.gs a.W a.u a.p)
def spBj (K : PySem.W.Frag) : Sp := Spc (fun a : List Game × (Nat → Rat) => [pTup K (a.1.map (pGame K)), pTup K ((List.range (joints a.1).length).map fun k => pR K (a.2 k))]) (fun a => JsK a.1 ∧ (joints a.1).length ≤ 50) fun a => pWor K a.1 a.2
structure CcK (a : (Game × List Game) × List Nat × Rat) : Prop where
  vt : VtK (a.1.1, a.1.2, a.2.2)
  js : JsK (a.1.1 :: a.1.2)
  le : (joints (a.1.1 :: a.1.2)).length ≤ 50
  cl : a.2.1.length = (joints (a.1.1 :: a.1.2)).length
  pl : ∀ k, k < (joints (a.1.1 :: a.1.2)).length → PlK ⟨a.1.1 :: a.1.2, ju (a.1.1 :: a.1.2) k, a.2.1.getD k 0, bV a.2.2 (a.1.1 :: a.1.2), a.2.2⟩
  sb : ∀ k, k < (joints (a.1.1 :: a.1.2)).length → Ok (bV a.2.2 (a.1.1 :: a.1.2) k - ply a.2.2 (a.1.1 :: a.1.2) (bV a.2.2 (a.1.1 :: a.1.2)) (ju (a.1.1 :: a.1.2) k) (a.2.1.getD k 0))
def spCc (K : PySem.W.Frag) : Sp := Spc (fun a : (Game × List Game) × List Nat × Rat => [pTup K ((a.1.1 :: a.1.2).map (pGame K)), pNats K a.2.1, pR K a.2.2]) CcK fun a => pTup K ((List.range (joints (a.1.1 :: a.1.2)).length).map fun k => pR K (bV a.2.2 (a.1.1 :: a.1.2) k - ply a.2.2 (a.1.1 :: a.1.2) (bV a.2.2 (a.1.1 :: a.1.2)) (ju (a.1.1 :: a.1.2) k) (a.2.1.getD k 0)))
structure ClK (a : (Game × List Game) × List Nat × Rat) : Prop where
  vt : VtK (a.1.1, a.1.2, a.2.2)
  cv : CvK (a.1.1 :: a.1.2, a.2.1, a.2.2)
  sb : ∀ k, k < (joints (a.1.1 :: a.1.2)).length → Ok (bV a.2.2 (a.1.1 :: a.1.2) k - cX (a.1.1 :: a.1.2) a.2.1 a.2.2 k)
def spCl (K : PySem.W.Frag) : Sp := Spc (fun a : (Game × List Game) × List Nat × Rat => [pTup K ((a.1.1 :: a.1.2).map (pGame K)), pNats K a.2.1, pR K a.2.2]) ClK fun a => pTup K ((List.range (joints (a.1.1 :: a.1.2)).length).map fun k => pR K (bV a.2.2 (a.1.1 :: a.1.2) k - cX (a.1.1 :: a.1.2) a.2.1 a.2.2 k))
/-- the table of best gains, by the joint states -/
theorem vt_bV {b : Rat} {g0 : Game} {rest : List Game} : (cvA b g0 rest).map (fun c => pR K (floorK c)) = (List.range (joints (g0 :: rest)).length).map fun k => pR K (bV b (g0 :: rest) k) := by
  rw [cvA_eq, List.map_map]
  apply List.ext_getElem?
  intro k
  by_cases hk : k < (joints (g0 :: rest)).length
  · rw [range_get hk, List.getElem?_map, List.getElem?_eq_getElem hk]
    simp only [Option.map_some, Function.comp]
    unfold bV
    rw [ju_of (List.getElem?_eq_getElem hk)]
  · rw [List.getElem?_eq_none (by simp; omega), List.getElem?_eq_none (by simp; omega)]
theorem sc53 : FnScope ["joint", "position", "state"] ["joint", "position", "state"] (defScope (topS 53)) := ⟨rfl, rfl, rfl, by decide +kernel, rfl, by decide +kernel, by decide +kernel⟩
theorem sc54 : FnScope ["games", "choices", "discount", "joints", "columns", "matrix", "right", "k", "position", "rewards", "moves", "state", "row", "target", "probability", "at", "solution"] ["games", "choices", "discount"] (defScope (topS 54)) := ⟨rfl, rfl, rfl, by decide +kernel, rfl, by decide +kernel, by decide +kernel⟩
theorem sc55 : FnScope ["games", "joint", "position", "worths", "discount", "rewards", "moves", "state", "later", "target", "probability", "worth"] ["games", "joint", "position", "worths", "discount"] (defScope (topS 55)) := ⟨rfl, rfl, rfl, by decide +kernel, rfl, by decide +kernel, by decide +kernel⟩
theorem sc56 : FnScope ["games", "values", "joints", "k"] ["games", "values"] (defScope (topS 56)) := ⟨rfl, rfl, rfl, by decide +kernel, rfl, by decide +kernel, by decide +kernel⟩
theorem sc57 : FnScope ["games", "choices", "discount", "joints", "best", "worths", "costs", "k", "gain"] ["games", "choices", "discount"] (defScope (topS 57)) := ⟨rfl, rfl, rfl, by decide +kernel, rfl, by decide +kernel, by decide +kernel⟩
theorem sc58 : FnScope ["games", "choices", "discount", "best", "values", "k"] ["games", "choices", "discount"] (defScope (topS 58)) := ⟨rfl, rfl, rfl, by decide +kernel, rfl, by decide +kernel, by decide +kernel⟩
theorem getD_get {cs : List Nat} {k : Nat} (h : k < cs.length) : cs[k]? = some (cs.getD k 0) := by
  rw [List.getD_eq_getElem?_getD, List.getElem?_eq_getElem h]; rfl
section
variable {P : Program} {w : World} {mg : Str → Option Value} {base : Heap} {C : Addr}
theorem d_with_state (g : Got K mg "with_state" 53 ["joint", "position", "state"]) : DefOk P w K mg base 1 "with_state" ["joint", "position", "state"] spWs := by
  refine def_of g sc53 (fun _ => rfl) fun fa cdv A outer s0 H vs Q E a hr sd al q => ?_
  obtain ⟨u, p, s⟩ := a
  obtain ⟨h, hl⟩ := sd
  simp only at h hl
  cases al with | cons h1 al => cases al with | cons h2 al => cases al with | cons h3 al => cases al with | nil =>
  refine ⟨_, (pss_one (ps_ret (pe_op op_catA (pe_op op_catA (pe_slice sl_tupA (pv 0) po_none (po_some (pv 1))) (pe_tup (pa_cons (pv 2) pa_nil))) (pe_slice sl_tupA (pv 0) (po_some (pe_op op_add (pv 1) pe_int)) po_none)))), ?_⟩
  refine one_ret (ev_catJ (K := K) (u := cutP u 0 p ++ [s]) (w := cutP u (p + 1) u.length) (ev_catJ (K := K) (ev_slJ (K := K) (a := 0) (b := p) (lo := none) (hi := some (p : Nat)) (ev_v (i := 0) (P := pJ u) rfl st_J.mono h1) evo_no (evo_some (ev_v (i := 1) (P := pInt (p : Nat)) rfl stay_int.mono h2)) (by rfl) (by rw [HT.sIx_nat]; omega)) (ev_J1 (ev_v (i := 2) (P := pInt (s : Nat)) rfl stay_int.mono h3) rfl) (by unfold cutP; simp; omega))
    (ev_slJ (K := K) (a := p + 1) (b := u.length) (lo := some ((p : Int) + 1)) (hi := none) (ev_v (i := 0) (P := pJ u) rfl st_J.mono h1) (evo_some (ev_addI (ev_v (i := 1) (P := pInt (p : Nat)) rfl stay_int.mono h2) (ev_int (i := 1)))) evo_no (by rw [show ((p : Int) + 1) = ((p + 1 : Nat) : Int) by omega, HT.sIx_nat]; omega) (by rfl)) (by unfold cutP; simp; omega)) fun v H' s' pv => q v H' s' ?_
  have e : u.set p s = cutP u 0 p ++ [s] ++ cutP u (p + 1) u.length := by
    rw [List.set_eq_take_append_cons_drop, if_pos h]
    unfold cutP
    rw [List.drop_zero, Nat.sub_zero, List.append_assoc, List.take_of_length_le (l := u.drop (p + 1)) (by rw [List.length_drop]; exact Nat.le_refl _)]; rfl
  show pJ (u.set p s) v H'
  rw [e]
  exact pv
theorem js_call {σ : L2.St} {H : Hp} {te : TE} {gs : List Game} (h : Ev te σ H (pTup K (gs.map (pGame K)))) (j : JsK gs) : Ev (tCall (spJs K) [] E0 (tCons te tNil)) σ H (pTup K ((joints gs).map pJ)) :=
  ev_call (args := fun gs : List Game => [pTup K (gs.map (pGame K))]) (side := fun gs => gs.length ≤ 900 ∧ ∀ i, i ≤ gs.length → ((gs.take i).foldl jS [[]]).length ≤ 1000 ∧ ∀ u ∈ (gs.take i).foldl jS [[]], u.length ≤ 900) (post := fun gs => pTup K ((joints gs).map pJ)) gs ⟨j.le, j.js⟩ (eva_cons h (stay_tup (stay_map fun _ => st_game)).mono eva_nil)
theorem d_by_joint (g : Got K mg "by_joint" 56 ["games", "values"]) (m_range : mg "range" = none) (m_len : mg "len" = none) (D_joint_states : DefOk P w K mg base 1 "joint_states" ["games"] (spJs K)) : DefOk P w K mg base 2 "by_joint" ["games", "values"] (spBj K) := by
  refine def_of g sc56 (fun _ => rfl) fun fa cdv A outer s0 H vs Q E a hr sd al q => ?_
  obtain ⟨gs, W⟩ := a
  obtain ⟨j, le⟩ := sd
  simp only at j le
  cases al with | cons h1 al => cases al with | cons h2 al => cases al with | nil =>
  rename_i v1 v2
  have h1 : pTup K (gs.map (pGame K)) v1 H := h1
  have h2 : pTup K ((List.range (joints gs).length).map fun k => pR K (W k)) v2 H := h2
  have stJ : ∀ P ∈ (joints gs).map pJ, Stay P := stay_map fun _ => st_J
  have stW : ∀ P ∈ (List.range (joints gs).length).map (fun k => pR K (W k)), Stay P := stay_map fun _ => stay_R
  refine ⟨_, (pss_cons (ps_set (i := 2) sc56.nd rfl (.inr rfl) (pe_callD D_joint_states hr (by rfl) (pa_cons (pv 0) pa_nil)))
    (pss_one (ps_ret (pe_dict (own := [("k", 3)]) (.dT []) (.inr rfl) hr.units0 rfl sc56.nd (pi_range1 rfl m_range (pa_cons (pe_callB call_len_seq (by rfl) m_len PySem.boot_len (pa_cons (pv 2) pa_nil)) pa_nil)) (blkOk_by (N := ["games", "values", "joints", "k"]) (sc := defScope (topS 56)) (by decide +kernel)) (fun _ _ _ _ _ => (pg_name (i := 3) sc56.nd rfl (Or.inl rfl))) (fun _ _ _ _ _ => (pe_ixT (K := K) rfl (pv 2) (pv 3) (fun _ _ => rfl))) (fun _ _ _ _ _ => (pe_ixT (K := K) rfl (pv 1) (pv 3) (fun _ _ => rfl))))))), ?_⟩
  refine seq_set (js_call (ev_v (i := 0) rfl (stay_tup (stay_map fun _ => st_game)).mono h1) j) fun vj H1 s1 pj => ?_
  refine one_ret (ev_dcRT (n := (joints gs).length) (us := joints gs) (Ps := (List.range (joints gs).length).map fun k => pR K (W k)) (iw_range1 (n := (joints gs).length) (eva_cons (by
      have e := ev_lenT (K := K) (ta := tVar 2) (H := H1) (σ := [some v1, some v2, some vj, none]) (ev_v (i := 2) (P := pTup K ((joints gs).map pJ)) rfl (stay_tup stJ).mono pj)
      rw [List.length_map] at e
      exact e) stay_int.mono eva_nil) (by omega)) rfl (by simp) (joints_nd gs) stW (by omega) fun k u R H2 hk hR e2 => ?_) fun v H' s' pv => q v H' (s1.trans s') pv
  have hj := lt_of_get hk
  rw [range_get hj] at hR
  cases hR
  exact ⟨ev_ixT (K := K) (i := k) (ev_v (i := 2) rfl (stay_tup stJ).mono ((stay_tup stJ).mono _ _ _ e2 pj)) (ev_v (i := 3) (P := pInt (0 + (k : Nat))) rfl stay_int.mono rfl) (by omega) (map_get hk) stJ,
    ev_ixT (K := K) (i := k) (ev_v (i := 1) rfl (stay_tup stW).mono ((stay_tup stW).mono _ _ _ (s1.trans e2) h2)) (ev_v (i := 3) (P := pInt (0 + (k : Nat))) rfl stay_int.mono rfl) (by omega) (range_get hj) stW⟩
theorem d_played (g : Got K mg "played" 55 ["games", "joint", "position", "worths", "discount"]) {z_ZERO_stationary : Addr} (m_ZERO_stationary : mg "ZERO_stationary" = some (.ref z_ZERO_stationary)) (Z0 : ∀ H, pR K 0 (.ref z_ZERO_stationary) H)
    (D_with_state : DefOk P w K mg base 1 "with_state" ["joint", "position", "state"] spWs) (D_multiply : DefOk P w K mg base 3 "multiply" ["a", "b"] (spR2 K fun x y => x * y)) (D_add : DefOk P w K mg base 3 "add" ["a", "b"] (spR2 K fun x y => x + y)) : DefOk P w K mg base 4 "played" ["games", "joint", "position", "worths", "discount"] (spPl K) := by
  refine def_of g sc55 (fun _ => rfl) fun fa cdv A outer s0 H vs Q E a hr sd al q => ?_
  obtain ⟨gs, u, p, W, b⟩ := a
  obtain ⟨fit, le, lt, ok, w1, w2, w3, w4⟩ := sd
  simp only at fit le lt ok w1 w2 w3 w4
  cases al with | cons h1 al => cases al with | cons h2 al => cases al with | cons h3 al => cases al with | cons h4 al => cases al with | cons h5 al => cases al with | nil =>
  rename_i v1 v2 v3 v4 v5
  have h1 : pTup K (gs.map (pGame K)) v1 H := h1
  have h2 : pJ u v2 H := h2
  obtain rfl : v3 = V.int (p : Nat) := h3
  have h4 : pWor K gs W v4 H := h4
  have h5 : pR K b v5 H := h5
  obtain ⟨gm, hg⟩ := get_of_lt lt
  obtain ⟨s, hs, hsn⟩ := fits_get fit hg
  have og := ok gm (List.mem_of_getElem? hg)
  have hul := fits_len fit
  have eu : u.getD p 0 = s := by rw [List.getD_eq_getElem?_getD, hs]; rfl
  have emv : mvs gs u p = (gm.row s).map fun tp => (num 0 gs (u.set p tp.1), tp.2) := by unfold mvs; rw [ga_of hg, eu]
  have erw : rwd gs u p = gm.r s := by unfold rwd; rw [ga_of hg, eu]
  have stG : ∀ P ∈ gs.map (pGame K), Stay P := stay_map fun _ => st_game
  refine ⟨_, (pss_cons (ps_asg (pe_ix ix_tup (pv 0) (pv 2) (fun _ _ => rfl)) (pg_tup rfl (pgs_cons (pg_name (i := 5) sc55.nd rfl (.inl rfl)) (pgs_cons (pg_name (i := 6) sc55.nd rfl (.inl rfl)) pgs_nil))))
    (pss_cons (ps_set (i := 7) sc55.nd rfl (.inl rfl) (pe_ix ix_tup (pv 1) (pv 2) (fun _ _ => rfl)))
    (pss_cons (ps_set (i := 8) sc55.nd rfl (.inl rfl) (pe_glob (v := .ref z_ZERO_stationary) rfl m_ZERO_stationary rfl))
    (pss_cons (ps_for PassesOwn.never rfl (pi_tup (pe_ix ix_tup (pv 6) (pv 7) (fun _ _ => rfl))) (pg_tup rfl (pgs_cons (pg_name (i := 9) sc55.nd rfl (.inl rfl)) (pgs_cons (pg_name (i := 10) sc55.nd rfl (.inl rfl)) pgs_nil)))
    (pss_cons (ps_set (i := 11) sc55.nd rfl (.inl rfl) (pe_dget (hu_of hr) (pv 3) (pe_callD D_with_state (hr.mono (by decide)) (by rfl) (pa_cons (pv 1) (pa_cons (pv 2) (pa_cons (pv 9) pa_nil)))) (fun _ _ => rfl)))
    (pss_one (ps_set (i := 8) sc55.nd rfl (.inl rfl) (pe_callD D_add hr (by rfl) (pa_cons (pv 8) (pa_cons (pe_callD D_multiply hr (by rfl) (pa_cons (pv 10) (pa_cons (pv 11) pa_nil))) pa_nil)))))))
    (pss_one (ps_ret (pe_callD D_add hr (by rfl) (pa_cons (pe_ix ix_tup (pv 5) (pv 7) (fun _ _ => rfl)) (pa_cons (pe_callD D_multiply hr (by rfl) (pa_cons (pv 4) (pa_cons (pv 8) pa_nil))) pa_nil))))))))), ?_⟩
  refine seq_un2 (K := K) (P1 := pTup K (gm.rew.map (pR K))) (P2 := pTup K (gm.mov.map (pMov K))) (ev_ixT (K := K) (i := p) (ev_v (i := 0) rfl (stay_tup stG).mono h1) (ev_v (i := 2) (P := pInt (p : Nat)) rfl stay_int.mono rfl) rfl (map_get hg) stG) (stay_tup (stay_rs _)).mono fun vr vm H1 s1 pr pm => ?_
  refine seq_set (P := pInt (s : Nat)) (ev_ixT (K := K) (i := p) (Ps := u.map fun n : Nat => pInt (n : Int)) (Ev.imp (ev_v (i := 1) (P := pJ u) rfl st_J.mono (st_J.mono _ _ _ s1 h2)) fun v H' _ p => p.tup) (ev_v (i := 2) (P := pInt (p : Nat)) rfl stay_int.mono rfl) rfl (map_get hs) (st_ints u)) fun vs1 H2 s2 ps1 => ?_
  obtain rfl : vs1 = V.int (s : Nat) := ps1
  refine seq_set (ev_g stay_R.mono (Z0 _)) fun vl H3 s3 pl => ?_
  have s13 := s1.trans (s2.trans s3)
  have hmov : Ev (tOp (rIxT K) (tVar 6) (tVar 7)) [some v1, some v2, some (.int (p : Nat)), some v4, some v5, some vr, some vm, some (.int (s : Nat)), some vl, none, none, none] H3 (pMov K (gm.row s)) :=
    ev_ixT (K := K) (i := s) (ev_v (i := 6) rfl (stay_tup (stay_map fun _ => st_mov)).mono ((stay_tup (stay_map fun _ => st_mov)).mono _ _ _ (s2.trans s3) pm)) (ev_v (i := 7) (P := pInt (s : Nat)) rfl stay_int.mono rfl) rfl (map_get (game_row (by rw [og.len]; exact hsn))) (stay_map fun _ => st_mov)
  refine for_T (K := K) hmov (stay_map fun _ => st_tp) fun vrow H4 s4 prow => ⟨fun t σ H' => ∃ (y8 : V) (y9 y10 y11 : Option V), σ = [some v1, some v2, some (.int (p : Nat)), some v4, some v5, some vr, some vm, some (.int (s : Nat)), some y8, y9, y10, y11] ∧ Same H3 H' ∧ Same H4 H' ∧ pR K (ex ((mvs gs u p).take t) W) y8 H',
    ⟨vl, none, none, none, rfl, s4, Same.refl _, by simp only [List.take_zero, ex]; exact stay_R.mono _ _ _ s4 pl⟩, ?_, ?_, ?_⟩
  · rintro t σ H' ⟨y8, y9, y10, y11, rfl, s5, s6, p8⟩
    exact Same.stb s6
  · rintro t x P σ H5 hP px ⟨y8, y9, y10, y11, rfl, s5, s6, p8⟩
    obtain ⟨tp, htp⟩ := get_of_lt (l := gm.row s) (i := t) (by have := lt_of_get hP; rwa [List.length_map] at this)
    rw [map_get htp] at hP
    cases hP
    have hmem := List.mem_of_getElem? htp
    have htn := (og.rows s hsn).tgt tp hmem
    refine tgt_2 (K := K) px fun xa xb pa pb => ?_
    obtain rfl : xa = V.int (tp.1 : Nat) := pa
    have hf := fits_set fit hg htn
    have hnum := num_get hf
    have hlt := (List.getElem?_eq_some_iff.mp hnum).1
    have s15 := s13.trans s5
    refine seq_set (ev_dgetT (us := joints gs) (Ps := (List.range (joints gs).length).map fun k => pR K (W k)) (ev_v (i := 3) rfl mono_wor (mono_wor _ _ _ s15 h4)) (ev_ws (ev_v (i := 1) (P := pJ u) rfl st_J.mono (st_J.mono _ _ _ s15 h2)) (ev_v (i := 2) (P := pInt (p : Nat)) rfl stay_int.mono rfl) (ev_v (i := 9) (P := pInt (tp.1 : Nat)) rfl stay_int.mono rfl) (by omega) (by omega)) (joints_nd gs) hnum (range_get hlt) (stay_map fun _ => stay_R)) fun vw H6 s7 pw => ?_
    have hmt : (mvs gs u p)[t]? = some (num 0 gs (u.set p tp.1), tp.2) := by rw [emv]; exact map_get htp
    refine one_set (ev_R2 (K := K) (f := fun x y => x + y) (ev_v (i := 8) rfl stay_R.mono (stay_R.mono _ _ _ s7 p8)) (ev_R2 (K := K) (f := fun x y => x * y) (ev_v (i := 10) rfl stay_R.mono (stay_R.mono _ _ _ s7 pb)) (ev_v (i := 11) rfl stay_R.mono pw) (w1 _ (List.mem_of_getElem? hmt))) (by have := w2 (t + 1); rw [ex_take hmt] at this; exact this)) fun vn H7 s8 pn => ?_
    refine ⟨vn, _, _, _, rfl, s5.trans (s7.trans s8), s6.trans (s7.trans s8), ?_⟩
    rw [ex_take hmt]
    exact pn
  · rintro σ H5 ⟨y8, y9, y10, y11, rfl, s5, s6, p8⟩
    rw [List.length_map, List.take_of_length_le (by rw [emv, List.length_map]; exact Nat.le_refl _)] at p8
    have s15 := s13.trans s5
    refine one_ret (ev_R2 (K := K) (f := fun x y => x + y) (x := rwd gs u p) (y := b * ex (mvs gs u p) W) (by
        rw [erw]
        exact ev_ixT (K := K) (i := s) (Ps := gm.rew.map (pR K)) (ev_v (i := 5) rfl (stay_tup (stay_rs _)).mono ((stay_tup (stay_rs _)).mono _ _ _ (s2.trans (s3.trans s5)) pr)) (ev_v (i := 7) (P := pInt (s : Nat)) rfl stay_int.mono rfl) rfl (map_get (game_rew hsn)) (stay_rs _)) (ev_R2 (K := K) (f := fun x y => x * y) (ev_v (i := 4) rfl stay_R.mono (stay_R.mono _ _ _ s15 h5)) (ev_v (i := 8) rfl stay_R.mono p8) w3) w4) fun v H6 s7 pv => q v H6 (s15.trans s7) pv
set_option maxHeartbeats 2000000 in
theorem d_choice_values (g : Got K mg "choice_values" 54 ["games", "choices", "discount"]) (m_range : mg "range" = none) (m_len : mg "len" = none) (m_tuple : mg "tuple" = none) {z_ZERO_stationary z_ONE_stationary : Addr} (m_ZERO_stationary : mg "ZERO_stationary" = some (.ref z_ZERO_stationary)) (m_ONE_stationary : mg "ONE_stationary" = some (.ref z_ONE_stationary)) (Z0 : ∀ H, pR K 0 (.ref z_ZERO_stationary) H) (Z1 : ∀ H, pR K 1 (.ref z_ONE_stationary) H)
    (D_joint_states : DefOk P w K mg base 1 "joint_states" ["games"] (spJs K)) (D_with_state : DefOk P w K mg base 1 "with_state" ["joint", "position", "state"] spWs) (D_solve : DefOk P w K mg base 5 "solve" ["matrix", "right"] (spSolve K)) (D_multiply : DefOk P w K mg base 3 "multiply" ["a", "b"] (spR2 K fun x y => x * y)) (D_subtract : DefOk P w K mg base 3 "subtract" ["a", "b"] (spR2 K fun x y => x - y)) :
    DefOk P w K mg base 6 "choice_values" ["games", "choices", "discount"] (spCv K) := by
  refine def_of g sc54 (fun _ => rfl) fun fa cdv A outer s0 H vs Q E a hr sd al q => ?_
  obtain ⟨gs, cs, b⟩ := a
  obtain ⟨js, le, cl, cp, ok, small, q1, q2⟩ := sd
  simp only at js le cl cp ok small q1 q2
  cases al with | cons h1 al => cases al with | cons h2 al => cases al with | cons h3 al => cases al with | nil =>
  rename_i v1 v2 v3
  have h1 : pTup K (gs.map (pGame K)) v1 H := h1
  have h2 : pNats K cs v2 H := h2
  have h3 : pR K b v3 H := h3
  have gle := js.le
  have stG : ∀ P ∈ gs.map (pGame K), Stay P := stay_map fun _ => st_game
  have stJ : ∀ P ∈ (joints gs).map pJ, Stay P := stay_map fun _ => st_J
  generalize hN : (joints gs).length = N at le cl cp q1 q2
  have hCn : (CS gs cs b).n = N := hN
  refine ⟨_, (pss_cons (ps_set (i := 3) sc54.nd rfl (.inr rfl) (pe_callD D_joint_states (hr.mono (by decide)) (by rfl) (pa_cons (pv 0) pa_nil)))
    (pss_cons (ps_setD (i := 4) (own := [("k", 7)]) (.dT []) (.inr rfl) hr.units0 rfl sc54.nd rfl rfl (sw_dict rfl rfl rfl (by decide +kernel)) (pi_range1 rfl m_range (pa_cons (pe_callB call_len_seq (by rfl) m_len PySem.boot_len (pa_cons (pv 3) pa_nil)) pa_nil)) (blkOk_by (N := ["games", "choices", "discount", "joints", "columns", "matrix", "right", "k", "position", "rewards", "moves", "state", "row", "target", "probability", "at", "solution"]) (sc := defScope (topS 54)) (by decide +kernel)) (fun _ _ _ _ _ => (pg_name (i := 7) sc54.nd rfl (Or.inl rfl))) (fun _ _ _ _ _ => (pe_ixT (K := K) rfl (pv 3) (pv 7) (fun _ _ => rfl))) (fun _ _ _ _ _ => (pv 7)))
    (pss_cons (ps_set (i := 5) sc54.nd rfl (.inl rfl) (pe_lst pa_nil))
    (pss_cons (ps_set (i := 6) sc54.nd rfl (.inl rfl) (pe_lst pa_nil))
    (pss_cons (ps_for PassesOwn.never rfl (pi_range1 rfl m_range (pa_cons (pe_callB call_len_seq (by rfl) m_len PySem.boot_len (pa_cons (pv 3) pa_nil)) pa_nil)) (pg_name (i := 7) sc54.nd rfl (.inl rfl))
    (pss_cons (ps_set (i := 8) sc54.nd rfl (.inl rfl) (pe_ix ix_tup (pv 1) (pv 7) (fun _ _ => rfl)))
    (pss_cons (ps_asg (pe_ix ix_tup (pv 0) (pv 8) (fun _ _ => rfl)) (pg_tup rfl (pgs_cons (pg_name (i := 9) sc54.nd rfl (.inl rfl)) (pgs_cons (pg_name (i := 10) sc54.nd rfl (.inl rfl)) pgs_nil))))
    (pss_cons (ps_set (i := 11) sc54.nd rfl (.inl rfl) (pe_ix ix_tup (pe_ix ix_tup (pv 3) (pv 7) (fun _ _ => rfl)) (pv 8) (fun _ _ => rfl)))
    (pss_cons (ps_set (i := 12) sc54.nd rfl (.inl rfl) (pe_op op_rep (pe_lst (pa_cons (pe_glob (v := .ref z_ZERO_stationary) rfl m_ZERO_stationary rfl) pa_nil)) (pe_callB call_len_seq (by rfl) m_len PySem.boot_len (pa_cons (pv 3) pa_nil))))
    (pss_cons (ps_asg (pe_glob (v := .ref z_ONE_stationary) rfl m_ONE_stationary rfl) (pg_sub (pv 12) (pv 7) set_list))
    (pss_cons (ps_for PassesOwn.never rfl (pi_tup (pe_ix ix_tup (pv 10) (pv 11) (fun _ _ => rfl))) (pg_tup rfl (pgs_cons (pg_name (i := 13) sc54.nd rfl (.inl rfl)) (pgs_cons (pg_name (i := 14) sc54.nd rfl (.inl rfl)) pgs_nil)))
    (pss_cons (ps_set (i := 15) sc54.nd rfl (.inl rfl) (pe_dget (hu_of hr) (pv 4) (pe_callD D_with_state (hr.mono (by decide)) (by rfl) (pa_cons (pe_ix ix_tup (pv 3) (pv 7) (fun _ _ => rfl)) (pa_cons (pv 8) (pa_cons (pv 13) pa_nil)))) (fun _ _ => rfl)))
    (pss_one (ps_asg (pe_callD D_subtract (hr.mono (by decide)) (by rfl) (pa_cons (pe_ix ix_list (pv 12) (pv 15) (fun _ _ => rfl)) (pa_cons (pe_callD D_multiply (hr.mono (by decide)) (by rfl) (pa_cons (pv 2) (pa_cons (pv 14) pa_nil))) pa_nil))) (pg_sub (pv 12) (pv 15) set_list)))))
    (pss_cons (ps_expr (pe_bm PySem.F.plainAttrs_list PySem.F.slot_list_append PySem.F.type_list_append mt_append (pv 5) (pa_cons (pe_callTy call_tuple_of (by rfl) m_tuple (by decide +kernel) (pa_cons (pv 12) pa_nil)) pa_nil)))
    (pss_one (ps_expr (pe_bm PySem.F.plainAttrs_list PySem.F.slot_list_append PySem.F.type_list_append mt_append (pv 6) (pa_cons (pe_tup (pa_cons (pe_ix ix_tup (pv 9) (pv 11) (fun _ _ => rfl)) pa_nil)) pa_nil))))))))))))
    (pss_cons (ps_set (i := 16) sc54.nd rfl (.inl rfl) (pe_ix ix_tup (pe_callD D_solve hr (by rfl) (pa_cons (pe_callTy call_tuple_of (by rfl) m_tuple (by decide +kernel) (pa_cons (pv 5) pa_nil)) (pa_cons (pe_callTy call_tuple_of (by rfl) m_tuple (by decide +kernel) (pa_cons (pv 6) pa_nil)) pa_nil))) pe_int (fun _ _ => rfl)))
    (pss_one (ps_ret (pe_callTy call_tuple_of (by rfl) m_tuple (by decide +kernel) (pa_cons (pe_lc (own := [("row", 12)]) rfl sc54.nd (pi_tup (pv 16)) (blkOk_by (N := ["games", "choices", "discount", "joints", "columns", "matrix", "right", "k", "position", "rewards", "moves", "state", "row", "target", "probability", "at", "solution"]) (sc := defScope (topS 54)) (by decide +kernel)) (fun _ _ _ _ _ => (pg_name (i := 12) sc54.nd rfl (Or.inl rfl))) (fun _ _ _ _ _ => pts_nil) (fun _ _ _ _ _ => (pe_ixT (K := K) rfl (pv 12) pe_int (fun _ _ => rfl)))) pa_nil)))))))))), ?_⟩
  -- joints
  refine seq_set (js_call (ev_v (i := 0) rfl (stay_tup stG).mono h1) js) fun vj H1 s1 pj => ?_
  have hlen : ∀ H2, Same H1 H2 → ∀ σ : L2.St, σ[3]? = some (some vj) → Ev (tCB (fun xs H Q => ∃ p ys, xs = [.ref p] ∧ (SqL K H p ys ∨ SqT K H p ys) ∧ Q (.int ys.length) H) (tCons (tVar 3) tNil)) σ H2 (pInt (N : Nat)) := fun H2 s2 σ h0 => by
    have e := ev_lenT (K := K) (ta := tVar 3) (H := H2) (σ := σ) (ev_v (i := 3) (P := pTup K ((joints gs).map pJ)) h0 (stay_tup stJ).mono ((stay_tup stJ).mono _ _ _ s2 pj))
    rw [List.length_map, hN] at e
    exact e
  have hjk : ∀ (k : Nat) (u : List Nat) (σ : L2.St) (H2 : Hp) (kk : Int), kk = (k : Int) → (joints gs)[k]? = some u → Same H1 H2 → σ[3]? = some (some vj) → σ[7]? = some (some (.int kk)) → Ev (tOp (rIxT K) (tVar 3) (tVar 7)) σ H2 (pJ u) := fun k u σ H2 kk ek hu s2 h0 h7 =>
    ev_ixT (K := K) (i := k) (ev_v (i := 3) h0 (stay_tup stJ).mono ((stay_tup stJ).mono _ _ _ s2 pj)) (ev_v (i := 7) (P := pInt kk) h7 stay_int.mono rfl) ek (map_get hu) stJ
  -- columns
  refine seq_set (ev_dcRT (n := N) (us := joints gs) (Ps := (List.range N).map fun k : Nat => pInt (k : Int)) (iw_range1 (n := N) (eva_cons (hlen H1 (Same.refl _) _ rfl) stay_int.mono eva_nil) (by omega)) hN (by simp) (joints_nd gs) (stay_map fun _ => stay_int) (by omega) fun k u R H2 hk hR e2 => ?_) fun vc Hc ec pc => ?_
  · have hj : k < N := by have := lt_of_get hk; omega
    rw [range_get hj] at hR
    cases hR
    refine ⟨hjk k u _ H2 (0 + (k : Nat)) (by omega) hk e2 rfl rfl, ev_v (i := 7) rfl stay_int.mono ?_⟩
    show V.int (0 + (k : Nat)) = V.int (k : Nat)
    rw [Int.zero_add]
  have eH := s1.trans ec
  refine seq_nil fun lm nm => ?_
  refine seq_nil fun lr nr => ?_
  have nlr : lr ≠ lm := fun e => by rw [e, upd_same] at nr; cases nr
  have nr0 : Hc lr = none := Same.free (Same.new nm) nr
  have nm0 : Hc lm = none := nm
  have sc0 : Same Hc (upd (upd Hc lm (.lst [])) lr (.lst [])) := (Same.new nm).trans (Same.new nr)
  have stR : ∀ a, Stay (pTup K [pR K ((CS gs cs b).R a 0)]) := fun a => stay_tup (stay_cons stay_R stay_nil)
  have stM : ∀ a, Stay (pTup K ((List.range N).map fun j => pR K ((CS gs cs b).M a j))) := fun a => stay_tup (stay_map fun _ => stay_R)
  refine for_R (n := N) (iw_range1 (n := N) (eva_cons (hlen _ (ec.trans sc0) _ rfl) stay_int.mono eva_nil) (by omega) _ (Same.refl _)) (fun i σ H' => ∃ (ms rs : List V) (y7 y8 y9 y10 y11 y12 y13 y14 y15 : Option V), σ = [some v1, some v2, some v3, some vj, some vc, some (.ref lm), some (.ref lr), y7, y8, y9, y10, y11, y12, y13, y14, y15, none] ∧
      Same Hc H' ∧ H' lm = some (.lst ms) ∧ H' lr = some (.lst rs) ∧ Al H' ms ((List.range i).map fun a => pTup K ((List.range N).map fun j => pR K ((CS gs cs b).M a j))) ∧ Al H' rs ((List.range i).map fun a => pTup K [pR K ((CS gs cs b).R a 0)])) ?i0 ?is ?ie
  case i0 => exact fun H2 s2 => ⟨[], [], none, none, none, none, none, none, none, none, none, rfl, sc0.trans s2, s2 _ _ (by rw [upd_ne nlr.symm]; exact upd_same), s2 _ _ upd_same, .nil, .nil⟩
  case is =>
    rintro i σ H2 hi ⟨ms, rs, y7, y8, y9, y10, y11, y12, y13, y14, y15, rfl, sc, hm, hrr, am, ar⟩
    rw [Int.zero_add]
    show _
    obtain ⟨u, hu⟩ := get_of_lt (l := joints gs) (i := i) (by omega)
    have eju : ju gs i = u := ju_of hu
    have fit : Fits gs u := mem_joints.mp (List.mem_of_getElem? hu)
    have hul := fits_len fit
    have hcs := getD_get (cs := cs) (k := i) (by omega)
    have hpl := cp i hi
    generalize hp : cs.getD i 0 = p at hcs hpl
    obtain ⟨gm, hg⟩ := get_of_lt hpl
    obtain ⟨s, hs, hsn⟩ := fits_get fit hg
    have og := ok gm (List.mem_of_getElem? hg)
    have eu : u.getD p 0 = s := by rw [List.getD_eq_getElem?_getD, hs]; rfl
    have emv : mvs gs u p = (gm.row s).map fun tp => (num 0 gs (u.set p tp.1), tp.2) := by unfold mvs; rw [ga_of hg, eu]
    have erw : rwd gs u p = gm.r s := by unfold rwd; rw [ga_of hg, eu]
    have lm' := am.len
    have lr' := ar.len
    simp only [List.length_map, List.length_range] at lm' lr'
    have sH := eH.trans sc
    have sJ := ec.trans sc
    refine seq_set (P := pInt (p : Nat)) (ev_ixT (K := K) (i := i) (ev_v (i := 1) rfl st_nats.mono (st_nats.mono _ _ _ sH h2)) (ev_v (i := 7) (P := pInt (i : Nat)) rfl stay_int.mono rfl) rfl (map_get hcs) (st_ints cs)) fun vp H3 s3 pp => ?_
    obtain rfl : vp = V.int (p : Nat) := pp
    refine seq_un2 (K := K) (P1 := pTup K (gm.rew.map (pR K))) (P2 := pTup K (gm.mov.map (pMov K))) (ev_ixT (K := K) (i := p) (ev_v (i := 0) rfl (stay_tup stG).mono ((stay_tup stG).mono _ _ _ (sH.trans s3) h1)) (ev_v (i := 8) (P := pInt (p : Nat)) rfl stay_int.mono rfl) rfl (map_get hg) stG) (stay_tup (stay_rs _)).mono fun vr vm H4 s4 pr pm => ?_
    refine seq_set (P := pInt (s : Nat)) (ev_ixT (K := K) (i := p) (Ps := u.map fun n : Nat => pInt (n : Int)) (Ev.imp (hjk i u _ H4 (i : Nat) rfl hu (sJ.trans (s3.trans s4)) rfl rfl) fun v H' _ p => p.tup) (ev_v (i := 8) (P := pInt (p : Nat)) rfl stay_int.mono rfl) rfl (map_get hs) (st_ints u)) fun vs1 H5 s5 ps1 => ?_
    obtain rfl : vs1 = V.int (s : Nat) := ps1
    have s25 := s3.trans (s4.trans s5)
    refine seq_set (ev_rep (ev_g stay_R.mono (Z0 H5)) stay_R (hlen H5 (sJ.trans s25) _ rfl) (by omega)) fun vw H6 s6 pw => ?_
    obtain ⟨lw, ws, rfl, nw, hw, aw⟩ := pw
    have nw2 : H2 lw = none := Same.free s25 nw
    have lw' := aw.len
    rw [List.length_replicate] at lw'
    refine seq_put (j := 12) (k := i) rfl hw (by omega) (ev_g stay_R.mono (Z1 H6)) stay_R.mono (ev_v (i := 7) (P := pInt (i : Nat)) rfl stay_int.mono rfl) fun v1' H7 s7 pv1 => ?_
    have hw7 := s7 _ _ hw
    have stw7 : Stb H7 (upd H7 lw (.lst (ws.set i v1'))) := Stb.lst hw7
    have sc7 : Same H2 (upd H7 lw (.lst (ws.set i v1'))) := Same.upd (s25.trans (s6.trans s7)) nw2
    have aw7 : Al (upd H7 lw (.lst (ws.set i v1'))) (ws.set i v1') ((List.range N).map fun j => pR K (un i j - b * ex ((mvs gs u p).take 0) (ind j))) := by
      refine Al.of (by rw [List.length_set, lw']; simp) fun j x P hx hP => ?_
      have hj := lt_of_get hP
      simp only [List.length_map, List.length_range] at hj
      rw [range_get hj] at hP
      cases hP
      have e0 : un i j - b * ex ((mvs gs u p).take 0) (ind j) = un i j := by simp only [List.take_zero, ex]; grind
      rw [e0]
      unfold un
      by_cases e : i = j
      · subst e
        rw [List.getElem?_set_self (by omega)] at hx
        cases hx
        rw [if_pos rfl]
        exact stay_R _ _ _ stw7 pv1
      · rw [List.getElem?_set_ne e] at hx
        rw [if_neg (fun z => e z.symm)]
        obtain ⟨x', hx', px⟩ := aw.get (i := j) (P := pR K 0) (by rw [List.getElem?_replicate, if_pos hj])
        rw [hx] at hx'
        cases hx'
        exact stay_R _ _ _ ((Same.stb s7).trans stw7) px
    have hmov : Ev (tOp (rIxT K) (tVar 10) (tVar 11)) [some v1, some v2, some v3, some vj, some vc, some (.ref lm), some (.ref lr), some (.int (i : Nat)), some (.int (p : Nat)), some vr, some vm, some (.int (s : Nat)), some (.ref lw), y13, y14, y15, none] (upd H7 lw (.lst (ws.set i v1'))) (pMov K (gm.row s)) :=
      ev_ixT (K := K) (i := s) (ev_v (i := 10) rfl (stay_tup (stay_map fun _ => st_mov)).mono ((stay_tup (stay_map fun _ => st_mov)) _ _ _ ((Same.stb (s5.trans (s6.trans s7))).trans stw7) pm)) (ev_v (i := 11) (P := pInt (s : Nat)) rfl stay_int.mono rfl) rfl (map_get (game_row (by rw [og.len]; exact hsn))) (stay_map fun _ => st_mov)
    refine for_T (K := K) hmov (stay_map fun _ => st_tp) fun vrow H8 s8 prow => ⟨fun t σ H' => ∃ (us : List V) (z13 z14 z15 : Option V), σ = [some v1, some v2, some v3, some vj, some vc, some (.ref lm), some (.ref lr), some (.int (i : Nat)), some (.int (p : Nat)), some vr, some vm, some (.int (s : Nat)), some (.ref lw), z13, z14, z15, none] ∧
      Same H2 H' ∧ Stb H8 H' ∧ H' lw = some (.lst us) ∧ Al H' us ((List.range N).map fun j => pR K (un i j - b * ex ((mvs gs u p).take t) (ind j))), ?j0, ?jG, ?js, ?je⟩
    case j0 => exact ⟨_, y13, y14, y15, rfl, sc7.trans s8, Stb.refl _, s8 _ _ upd_same, aw7.imp fun P hP v hv => stay_map (fun _ => stay_R) P hP v _ _ (Same.stb s8) hv⟩
    case jG => exact fun t σ H' ⟨_, _, _, _, _, _, h, _⟩ => h
    case js =>
      rintro t x P σ H9 hP px ⟨us, z13, z14, z15, rfl, s29, st9, hw9, al9⟩
      obtain ⟨tp, htp⟩ := get_of_lt (l := gm.row s) (i := t) (by have := lt_of_get hP; rwa [List.length_map] at this)
      rw [map_get htp] at hP
      cases hP
      have hmem := List.mem_of_getElem? htp
      have htn := (og.rows s hsn).tgt tp hmem
      refine tgt_2 (K := K) px fun xa xb pa pb => ?_
      obtain rfl : xa = V.int (tp.1 : Nat) := pa
      have hf := fits_set fit hg htn
      have hnum := num_get hf
      have hlt : num 0 gs (u.set p tp.1) < N := by have := (List.getElem?_eq_some_iff.mp hnum).1; omega
      have hmt : (mvs gs u p)[t]? = some (num 0 gs (u.set p tp.1), tp.2) := by rw [emv]; exact map_get htp
      have hlu := al9.len
      simp only [List.length_map, List.length_range] at hlu
      generalize hm1 : num 0 gs (u.set p tp.1) = at1 at hnum hlt hmt
      have ok1 := q1 i hi
      have ok2 := q2 i hi
      rw [eju, hp] at ok1 ok2
      refine seq_set (ev_dgetT (us := joints gs) (Ps := (List.range N).map fun k : Nat => pInt (k : Int)) (ev_v (i := 4) rfl (mono_dicT (stay_map fun _ => stay_int)) (mono_dicT (stay_map fun _ => stay_int) _ _ _ (sc.trans s29) pc)) (ev_ws (hjk i u _ H9 (i : Nat) rfl hu (sJ.trans s29) rfl rfl) (ev_v (i := 8) (P := pInt (p : Nat)) rfl stay_int.mono rfl) (ev_v (i := 13) (P := pInt (tp.1 : Nat)) rfl stay_int.mono rfl) (by omega) (by omega)) (joints_nd gs) hnum (range_get hlt) (stay_map fun _ => stay_int)) fun vat H10 s10 pat => ?_
      obtain rfl : vat = V.int (at1 : Nat) := pat
      have hw10 := s10 _ _ hw9
      have al10 := al9.imp fun P hP v hv => stay_map (fun _ => stay_R) P hP v _ _ (Same.stb s10) hv
      have enew : ∀ j, un i j - b * ex ((mvs gs u p).take (t + 1)) (ind j) = un i j - b * ex ((mvs gs u p).take t) (ind j) - b * tp.2 * ind j at1 := fun j => by
        rw [ex_take hmt]; grind
      refine one_put (j := 12) (k := at1) rfl hw10 (by omega) (ev_R2 (K := K) (f := fun x y => x - y) (x := un i at1 - b * ex ((mvs gs u p).take t) (ind at1)) (y := b * tp.2)
        (ev_ixL (K := K) (i := at1) (j := (at1 : Nat)) (Ps := (List.range N).map fun j => pR K (un i j - b * ex ((mvs gs u p).take t) (ind j))) (ev_v (i := 12) rfl (mono_lst (fun P hP => (stay_map (fun _ => stay_R) P hP).mono)) ⟨lw, us, rfl, .of hw10, al10⟩) (ev_v (i := 15) (P := pInt (at1 : Nat)) rfl stay_int.mono rfl) rfl (range_get hlt) (stay_map fun _ => stay_R))
        (ev_R2 (K := K) (f := fun x y => x * y) (ev_v (i := 2) rfl stay_R.mono (stay_R.mono _ _ _ (sH.trans (s29.trans s10)) h3)) (ev_v (i := 14) rfl stay_R.mono (stay_R.mono _ _ _ s10 pb)) (ok1 (at1, tp.2) (List.mem_of_getElem? hmt))) (by
          have := ok2 (t + 1) at1
          rw [enew] at this
          unfold ind at this
          rw [if_pos rfl, Rat.mul_one] at this
          exact this)) stay_R.mono (ev_v (i := 15) (P := pInt (at1 : Nat)) rfl stay_int.mono rfl) fun vn H11 s11 pn => ?_
      have hw11 := s11 _ _ hw10
      have stw : Stb H11 (upd H11 lw (.lst (us.set at1 vn))) := Stb.lst hw11
      have s911 := s10.trans s11
      refine ⟨us.set at1 vn, _, _, _, rfl, Same.upd (s29.trans s911) nw2, st9.trans ((Same.stb s911).trans stw), upd_same, ?_⟩
      refine Al.of (by rw [List.length_set, hlu]; simp) fun j x P hx hP => ?_
      have hj := lt_of_get hP
      simp only [List.length_map, List.length_range] at hj
      rw [range_get hj] at hP
      cases hP
      rw [enew j]
      by_cases e : at1 = j
      · subst e
        rw [List.getElem?_set_self (by omega)] at hx
        cases hx
        unfold ind at pn ⊢
        rw [if_pos rfl, Rat.mul_one]
        exact stay_R _ _ _ stw pn
      · rw [List.getElem?_set_ne e] at hx
        obtain ⟨x', hx', px'⟩ := al9.get (range_get (f := fun j => pR K (un i j - b * ex ((mvs gs u p).take t) (ind j))) hj)
        rw [hx] at hx'
        cases hx'
        have e2 : ind j at1 = 0 := by unfold ind; rw [if_neg e]
        rw [e2, Rat.mul_zero, show ∀ x : Rat, x - 0 = x by intro x; grind]
        exact stay_R _ _ _ ((Same.stb s911).trans stw) px'
    case je =>
      rintro σ H9 ⟨us, z13, z14, z15, rfl, s29, st9, hw9, al9⟩
      have hgi : (List.range N)[i]? = some i := List.getElem?_range hi
      have hrow : (jG gs cs).row i = mvs gs u p := by rw [jG_row (by omega), eju, hp]
      have hrwi : (jG gs cs).r i = gm.r s := by rw [jG_r (by omega), eju, hp, erw]
      have al9 : Al H9 us ((List.range N).map fun j => pR K ((CS gs cs b).M i j)) := by
        rw [List.length_map, List.take_of_length_le (by rw [emv, List.length_map]; exact Nat.le_refl _)] at al9
        have e : (List.range N).map (fun j => pR K ((CS gs cs b).M i j)) = (List.range N).map fun j => pR K (un i j - b * ex (mvs gs u p) (ind j)) := List.map_congr_left fun j hj => by
          have hj' := List.mem_range.mp hj
          show pR K (un i j - b * ex ((jG gs cs).row ((List.range (joints gs).length).getD i 0)) (ind ((List.range (joints gs).length).getD j 0))) = _
          rw [hN, getD_of hgi, getD_of (List.getElem?_range hj'), hrow]
        rw [e]
        exact al9
      refine seq_appV (j := 5) (l := lm) rfl (s29 _ _ hm) (by omega) (ev_tupleL (K := K) (ev_v (i := 12) rfl (mono_lst fun P hP => (stay_map (fun _ => stay_R) P hP).mono) ⟨lw, us, rfl, .of hw9, al9⟩) (stay_map fun _ => stay_R)) fun vt H10 s10 pt => ?_
      have hm10 := s10 _ _ (s29 _ _ hm)
      have hr10 : upd H10 lm (.lst (ms ++ [vt])) lr = some (.lst rs) := by rw [upd_ne nlr]; exact s10 _ _ (s29 _ _ hrr)
      have st10 : Stb H10 (upd H10 lm (.lst (ms ++ [vt]))) := Stb.lst hm10
      have eR0 : (CS gs cs b).R i 0 = gm.r s := by
        show (LS (jG gs cs) b (List.range (joints gs).length)).R i 0 = _
        simp only [LS, if_true, hN, getD_of hgi, hrwi]
      refine one_appV (P := pTup K [pR K ((CS gs cs b).R i 0)]) (j := 6) (l := lr) rfl hr10 (by omega) (ev_tup (K := K) (eva_cons (P := pR K ((CS gs cs b).R i 0)) (by
          rw [eR0]
          exact ev_ixT (K := K) (i := s) (Ps := gm.rew.map (pR K)) (ev_v (i := 9) rfl (stay_tup (stay_rs _)).mono (stay_tup (stay_rs _) _ _ _ (((Same.stb (s5.trans (s6.trans s7))).trans stw7).trans ((Same.stb s8).trans (st9.trans ((Same.stb s10).trans st10)))) pr)) (ev_v (i := 11) (P := pInt (s : Nat)) rfl stay_int.mono rfl) rfl (map_get (game_rew hsn)) (stay_rs _)) stay_R.mono eva_nil) (stay_cons stay_R stay_nil) (by simp)) fun vt2 H11 s11 pt2 => ?_
      have hr11 := s11 _ _ hr10
      have st11 : Stb H11 (upd H11 lr (.lst (rs ++ [vt2]))) := Stb.lst hr11
      have stAll : Stb H2 (upd H11 lr (.lst (rs ++ [vt2]))) := (Same.stb s29).trans ((Same.stb s10).trans (st10.trans ((Same.stb s11).trans st11)))
      refine ⟨ms ++ [vt], rs ++ [vt2], _, _, _, _, _, _, _, _, _, rfl, ?_, ?_, upd_same, ?_, ?_⟩
      · exact Same.upd (Same.trans (Same.upd ((sc.trans s29).trans s10) nm0) s11) nr0
      · rw [upd_ne nlr.symm]
        exact s11 _ _ upd_same
      · rw [List.range_succ, List.map_append]
        exact (am.imp fun P hP v hv => stay_map (fun a => stM a) P hP v _ _ stAll hv).app (.one (stM i _ _ _ (st10.trans ((Same.stb s11).trans st11)) pt))
      · rw [List.range_succ, List.map_append]
        exact (ar.imp fun P hP v hv => stay_map (fun a => stR a) P hP v _ _ stAll hv).app (.one (stR i _ _ _ st11 pt2))
  case ie =>
    rintro σ H2 ⟨ms, rs, y7, y8, y9, y10, y11, y12, y13, y14, y15, rfl, sc, hm, hrr, am, ar⟩
    have stS : ∀ P ∈ [pIs (.str "solution"), pMat K N 1 (solA (CS gs cs b))], Stay P := stay_cons stay_is (stay_cons stay_mat stay_nil)
    have hcall := ev_call (args := fun S : Lin => [pMat K S.n S.n S.M, pMat K S.n S.m S.R]) (side := Small) (post := fun S => pTup K [pIs (.str "solution"), pMat K S.n S.m (solA S)]) (CS gs cs b) small
      (eva_cons (by
          rw [hCn]
          exact ev_tupleL (K := K) (ev_v (i := 5) (σ := [some v1, some v2, some v3, some vj, some vc, some (.ref lm), some (.ref lr), y7, y8, y9, y10, y11, y12, y13, y14, y15, none]) rfl (mono_lst fun P hP => (stay_map (fun a => stM a) P hP).mono) ⟨lm, ms, rfl, .of hm, am⟩) (stay_map fun a => stM a)) stay_mat.mono
        (eva_cons (by
          rw [hCn]
          exact ev_tupleL (K := K) (ev_v (i := 6) rfl (mono_lst fun P hP => (stay_map (fun a => stR a) P hP).mono) ⟨lr, rs, rfl, .of hrr, ar⟩) (stay_map fun a => stR a)) stay_mat.mono eva_nil))
    rw [hCn] at hcall
    -- solution
    refine seq_set (ev_ixT (K := K) (i := 1) (j := 1) (P := pMat K N 1 (solA (CS gs cs b))) hcall (ev_int (i := 1)) rfl rfl stS) fun vso H3 s3 pso => ?_
    refine one_ret (ev_tupleL (K := K) (Ps := (List.range N).map fun k => pR K (cX gs cs b k)) (Ev.imp (ev_lcT (K := K) (Ps := (List.range N).map fun i => pTup K ((List.range 1).map fun j => pR K (solA (CS gs cs b) i j))) (Rs := (List.range N).map fun k => pR K (cX gs cs b k)) (ev_v (i := 16) rfl stay_mat.mono pso) (stay_mono (stay_mrows _ _ _)) (by simp) (stay_map fun _ => stay_R) (by simp; omega) (fun j P R v H' hP hR s' pv => ?_)) fun v H' _ p => p.lst) (stay_map fun _ => stay_R)) fun v H4 s4 p => q v H4 (eH.trans (sc.trans (s3.trans s4))) ?_
    · have hj : j < N := by have := lt_of_get hP; simpa using this
      rw [range_get hj] at hP hR
      cases hP
      cases hR
      exact ev_ixT (K := K) (i := 0) (ev_v (i := 12) rfl (stay_tup (stay_mrow _ _)).mono pv) (ev_int (i := 0)) rfl rfl (stay_mrow _ _)
    · show pTup K ((List.range (joints gs).length).map fun k => pR K (cX gs cs b k)) v H4
      rw [hN]
      exact p
end
end AC
end
section
set_option maxRecDepth 100000
/-! The walk: costs and losses of choices. -/
namespace AC
open PySem PySem.Spec PyProof.Rows L2 ACD
variable {K : PySem.W.Frag}
/-- value_table(games, discount) -/
theorem ev_vt {σ : L2.St} {H : Hp} {ta tb : TE} {g0 : Game} {rest : List Game} {b : Rat} (ha : Ev ta σ H (pTup K ((g0 :: rest).map (pGame K)))) (hb : Ev tb σ H (pR K b)) (h : VtK (g0, rest, b)) :
    Ev (tCall (spVt K) [V.non] E0 (tCons ta (tCons tb tNil))) σ H (pTup K ((List.range (joints (g0 :: rest)).length).map fun k => pR K (bV b (g0 :: rest) k))) := fun H1 e Q q =>
  eva_cons ha (stay_tup (stay_map fun _ => st_game)).mono (eva_cons hb stay_R.mono eva_nil) H1 e _ fun vs H2 s2 al => by
    refine ⟨(g0, rest, b), h, al.app (.one (show pIs .non V.non H2 from rfl)), fun v H' s pv => q v H' (s2.trans s) ?_⟩
    have pv : pTup K ((cvA b g0 rest).map fun c => pR K (floorK c)) v H' := pv
    rw [vt_bV] at pv
    exact pv
section
variable {P : Program} {w : World} {mg : Str → Option Value} {base : Heap} {C : Addr}
theorem d_choice_costs (g : Got K mg "choice_costs" 57 ["games", "choices", "discount"]) (m_range : mg "range" = none) (m_len : mg "len" = none) (m_tuple : mg "tuple" = none)
    (D_joint_states : DefOk P w K mg base 1 "joint_states" ["games"] (spJs K)) (D_value_table : DefOkD P w K mg base 11 "value_table" ["games", "discount", "stop"] (spVt K)) (D_by_joint : DefOk P w K mg base 2 "by_joint" ["games", "values"] (spBj K)) (D_played : DefOk P w K mg base 4 "played" ["games", "joint", "position", "worths", "discount"] (spPl K)) (D_subtract : DefOk P w K mg base 3 "subtract" ["a", "b"] (spR2 K fun x y => x - y)) :
    DefOk P w K mg base 12 "choice_costs" ["games", "choices", "discount"] (spCc K) := by
  refine def_of g sc57 (fun _ => rfl) fun fa cdv A outer s0 H vs Q E a hr sd al q => ?_
  obtain ⟨⟨g0, rest⟩, cs, b⟩ := a
  obtain ⟨vt, js, le, cl, pl, sb⟩ := sd
  simp only at vt js le cl pl sb
  cases al with | cons h1 al => cases al with | cons h2 al => cases al with | cons h3 al => cases al with | nil =>
  rename_i v1 v2 v3
  have h1 : pTup K ((g0 :: rest).map (pGame K)) v1 H := h1
  have h2 : pNats K cs v2 H := h2
  have h3 : pR K b v3 H := h3
  have q : ∀ (v : V) (H' : Hp), Same H H' → pTup K ((List.range (joints (g0 :: rest)).length).map fun k => pR K (bV b (g0 :: rest) k - ply b (g0 :: rest) (bV b (g0 :: rest)) (ju (g0 :: rest) k) (cs.getD k 0))) v H' → Q v H' := q
  generalize hgs : g0 :: rest = gs at *
  have stG : ∀ P ∈ gs.map (pGame K), Stay P := stay_map fun _ => st_game
  have stJ : ∀ P ∈ (joints gs).map pJ, Stay P := stay_map fun _ => st_J
  have stB : ∀ P ∈ (List.range (joints gs).length).map (fun k => pR K (bV b gs k)), Stay P := stay_map fun _ => stay_R
  refine ⟨_, (pss_cons (ps_set (i := 3) sc57.nd rfl (.inl rfl) (pe_callD D_joint_states (hr.mono (by decide)) (by rfl) (pa_cons (pv 0) pa_nil)))
    (pss_cons (ps_set (i := 4) sc57.nd rfl (.inl rfl) (pe_callDD D_value_table hr (by rfl) (pa_cons (pv 0) (pa_cons (pv 2) pa_nil))))
    (pss_cons (ps_set (i := 5) sc57.nd rfl (.inl rfl) (pe_callD D_by_joint (hr.mono (by decide)) (by rfl) (pa_cons (pv 0) (pa_cons (pv 4) pa_nil))))
    (pss_cons (ps_set (i := 6) sc57.nd rfl (.inl rfl) (pe_lst pa_nil))
    (pss_cons (ps_for PassesOwn.never rfl (pi_range1 rfl m_range (pa_cons (pe_callB call_len_seq (by rfl) m_len PySem.boot_len (pa_cons (pv 3) pa_nil)) pa_nil)) (pg_name (i := 7) sc57.nd rfl (.inl rfl))
    (pss_cons (ps_set (i := 8) sc57.nd rfl (.inl rfl) (pe_callD D_played (hr.mono (by decide)) (by rfl) (pa_cons (pv 0) (pa_cons (pe_ix ix_tup (pv 3) (pv 7) (fun _ _ => rfl)) (pa_cons (pe_ix ix_tup (pv 1) (pv 7) (fun _ _ => rfl)) (pa_cons (pv 5) (pa_cons (pv 2) pa_nil)))))))
    (pss_one (ps_expr (pe_bm PySem.F.plainAttrs_list PySem.F.slot_list_append PySem.F.type_list_append mt_append (pv 6) (pa_cons (pe_callD D_subtract (hr.mono (by decide)) (by rfl) (pa_cons (pe_ix ix_tup (pv 4) (pv 7) (fun _ _ => rfl)) (pa_cons (pv 8) pa_nil))) pa_nil))))))
    (pss_one (ps_ret (pe_callTy call_tuple_of (by rfl) m_tuple (by decide +kernel) (pa_cons (pv 6) pa_nil))))))))), ?_⟩
  refine seq_set (js_call (ev_v (i := 0) rfl (stay_tup stG).mono h1) js) fun vj H1 s1 pj => ?_
  refine seq_set (P := pTup K ((List.range (joints gs).length).map fun k => pR K (bV b gs k))) (by
    have e := ev_vt (K := K) (H := H1) (σ := [some v1, some v2, some v3, some vj, none, none, none, none, none]) (ta := tVar 0) (tb := tVar 2) (by rw [hgs]; exact ev_v (i := 0) rfl (stay_tup stG).mono ((stay_tup stG).mono _ _ _ s1 h1)) (ev_v (i := 2) rfl stay_R.mono (stay_R.mono _ _ _ s1 h3)) vt
    rw [hgs] at e
    exact e) fun vb H2 s2 pb => ?_
  refine seq_set (ev_call (args := fun a : List Game × (Nat → Rat) => [pTup K (a.1.map (pGame K)), pTup K ((List.range (joints a.1).length).map fun k => pR K (a.2 k))]) (side := fun a => JsK a.1 ∧ (joints a.1).length ≤ 50) (post := fun a => pWor K a.1 a.2) (gs, bV b gs) ⟨js, le⟩ (eva_cons (ev_v (i := 0) rfl (stay_tup stG).mono ((stay_tup stG).mono _ _ _ (s1.trans s2) h1)) (stay_tup stG).mono (eva_cons (ev_v (i := 4) rfl (stay_tup stB).mono pb) (stay_tup stB).mono eva_nil))) fun vw H3 s3 pw => ?_
  have pw : pWor K gs (bV b gs) vw H3 := pw
  have s13 := s1.trans (s2.trans s3)
  refine seq_nil fun lc nc => ?_
  have sc0 : Same H3 (upd H3 lc (.lst [])) := Same.new nc
  refine for_R (n := (joints gs).length) (iw_range1 (n := (joints gs).length) (eva_cons (by
      have e := ev_lenT (K := K) (ta := tVar 3) (H := upd H3 lc (.lst [])) (σ := [some v1, some v2, some v3, some vj, some vb, some vw, some (.ref lc), none, none]) (ev_v (i := 3) (P := pTup K ((joints gs).map pJ)) rfl (stay_tup stJ).mono ((stay_tup stJ).mono _ _ _ (s2.trans (s3.trans sc0)) pj))
      rw [List.length_map] at e
      exact e) stay_int.mono eva_nil) (by omega) _ (Same.refl _)) (fun i σ H' => ∃ (ms : List V) (y7 y8 : Option V), σ = [some v1, some v2, some v3, some vj, some vb, some vw, some (.ref lc), y7, y8] ∧ Same H3 H' ∧ H' lc = some (.lst ms) ∧
      Al H' ms ((List.range i).map fun k => pR K (bV b gs k - ply b gs (bV b gs) (ju gs k) (cs.getD k 0)))) (fun H4 s4 => ⟨[], none, none, rfl, sc0.trans s4, s4 _ _ upd_same, .nil⟩) ?_ ?_
  · rintro i σ H4 hi ⟨ms, y7, y8, rfl, s4, hm, am⟩
    rw [Int.zero_add]
    show _
    obtain ⟨u, hu⟩ := get_of_lt (l := joints gs) (i := i) hi
    have eju : ju gs i = u := ju_of hu
    have hcs := getD_get (cs := cs) (k := i) (by omega)
    have lm' := am.len
    simp only [List.length_map, List.length_range] at lm'
    have s14 := s13.trans s4
    have hpl := pl i hi
    have hsb := sb i hi
    rw [eju] at hpl hsb
    refine seq_set (ev_call (args := fun a : PlA => [pTup K (a.gs.map (pGame K)), pJ a.u, pInt (a.p : Nat), pWor K a.gs a.W, pR K a.b]) (side := PlK) (post := fun a => pR K (ply a.b a.gs a.W a.u a.p)) ⟨gs, u, cs.getD i 0, bV b gs, b⟩ hpl
      (eva_cons (ev_v (i := 0) rfl (stay_tup stG).mono ((stay_tup stG).mono _ _ _ s14 h1)) (stay_tup stG).mono
      (eva_cons (ev_ixT (K := K) (i := i) (ev_v (i := 3) rfl (stay_tup stJ).mono ((stay_tup stJ).mono _ _ _ (s2.trans (s3.trans s4)) pj)) (ev_v (i := 7) (P := pInt (i : Nat)) rfl stay_int.mono rfl) rfl (map_get hu) stJ) st_J.mono
      (eva_cons (ev_ixT (K := K) (i := i) (ev_v (i := 1) rfl st_nats.mono (st_nats.mono _ _ _ s14 h2)) (ev_v (i := 7) (P := pInt (i : Nat)) rfl stay_int.mono rfl) rfl (map_get hcs) (st_ints cs)) stay_int.mono
      (eva_cons (ev_v (i := 5) rfl mono_wor (mono_wor _ _ _ s4 pw)) mono_wor (eva_cons (ev_v (i := 2) rfl stay_R.mono (stay_R.mono _ _ _ s14 h3)) stay_R.mono eva_nil)))))) fun vg H5 s5 pg => ?_
    have pg : pR K (ply b gs (bV b gs) u (cs.getD i 0)) vg H5 := pg
    refine one_appV (j := 6) (l := lc) rfl (s5 _ _ hm) (by omega) (ev_R2 (K := K) (f := fun x y => x - y) (x := bV b gs i) (ev_ixT (K := K) (i := i) (ev_v (i := 4) rfl (stay_tup stB).mono ((stay_tup stB).mono _ _ _ (s3.trans (s4.trans s5)) pb)) (ev_v (i := 7) (P := pInt (i : Nat)) rfl stay_int.mono rfl) rfl (range_get hi) stB) (ev_v (i := 8) rfl stay_R.mono pg) hsb) fun vn H6 s6 pn => ?_
    have hm6 := s6 _ _ (s5 _ _ hm)
    have stw : Stb H6 (upd H6 lc (.lst (ms ++ [vn]))) := Stb.lst hm6
    refine ⟨ms ++ [vn], _, _, rfl, Same.upd (s4.trans (s5.trans s6)) nc, upd_same, ?_⟩
    rw [List.range_succ, List.map_append]
    refine (am.imp fun P hP v hv => stay_map (fun _ => stay_R) P hP v _ _ ((Same.stb (s5.trans s6)).trans stw) hv).app (.one ?_)
    show pR K (bV b gs i - ply b gs (bV b gs) (ju gs i) (cs.getD i 0)) vn _
    rw [eju]
    exact stay_R _ _ _ stw pn
  · rintro σ H4 ⟨ms, y7, y8, rfl, s4, hm, am⟩
    exact one_ret (ev_tupleL (K := K) (ev_v (i := 6) rfl (mono_lst fun P hP => (stay_map (fun _ => stay_R) P hP).mono) ⟨lc, ms, rfl, .of hm, am⟩) (stay_map fun _ => stay_R)) fun v H5 s5 pv => q v H5 (s13.trans (s4.trans s5)) pv
theorem d_choice_losses (g : Got K mg "choice_losses" 58 ["games", "choices", "discount"]) (m_range : mg "range" = none) (m_len : mg "len" = none) (m_tuple : mg "tuple" = none)
    (D_value_table : DefOkD P w K mg base 11 "value_table" ["games", "discount", "stop"] (spVt K)) (D_choice_values : DefOk P w K mg base 6 "choice_values" ["games", "choices", "discount"] (spCv K)) (D_subtract : DefOk P w K mg base 3 "subtract" ["a", "b"] (spR2 K fun x y => x - y)) :
    DefOk P w K mg base 12 "choice_losses" ["games", "choices", "discount"] (spCl K) := by
  refine def_of g sc58 (fun _ => rfl) fun fa cdv A outer s0 H vs Q E a hr sd al q => ?_
  obtain ⟨⟨g0, rest⟩, cs, b⟩ := a
  obtain ⟨vt, cv, sb⟩ := sd
  simp only at vt cv sb
  cases al with | cons h1 al => cases al with | cons h2 al => cases al with | cons h3 al => cases al with | nil =>
  rename_i v1 v2 v3
  have h1 : pTup K ((g0 :: rest).map (pGame K)) v1 H := h1
  have h2 : pNats K cs v2 H := h2
  have h3 : pR K b v3 H := h3
  have q : ∀ (v : V) (H' : Hp), Same H H' → pTup K ((List.range (joints (g0 :: rest)).length).map fun k => pR K (bV b (g0 :: rest) k - cX (g0 :: rest) cs b k)) v H' → Q v H' := q
  have le : (joints (g0 :: rest)).length ≤ 50 := cv.le
  generalize hgs : g0 :: rest = gs at *
  have stG : ∀ P ∈ gs.map (pGame K), Stay P := stay_map fun _ => st_game
  have stB : ∀ P ∈ (List.range (joints gs).length).map (fun k => pR K (bV b gs k)), Stay P := stay_map fun _ => stay_R
  have stX : ∀ P ∈ (List.range (joints gs).length).map (fun k => pR K (cX gs cs b k)), Stay P := stay_map fun _ => stay_R
  refine ⟨_, (pss_cons (ps_set (i := 3) sc58.nd rfl (.inr rfl) (pe_callDD D_value_table hr (by rfl) (pa_cons (pv 0) (pa_cons (pv 2) pa_nil))))
    (pss_cons (ps_set (i := 4) sc58.nd rfl (.inr rfl) (pe_callD D_choice_values (hr.mono (by decide)) (by rfl) (pa_cons (pv 0) (pa_cons (pv 1) (pa_cons (pv 2) pa_nil)))))
    (pss_one (ps_ret (pe_callTy call_tuple_of (by rfl) m_tuple (by decide +kernel) (pa_cons (pe_lc (own := [("k", 5)]) rfl sc58.nd (pi_range1 rfl m_range (pa_cons (pe_callB call_len_seq (by rfl) m_len PySem.boot_len (pa_cons (pv 3) pa_nil)) pa_nil)) (blkOk_by (N := ["games", "choices", "discount", "best", "values", "k"]) (sc := defScope (topS 58)) (by decide +kernel)) (fun _ _ _ _ _ => (pg_name (i := 5) sc58.nd rfl (Or.inl rfl))) (fun _ _ _ _ _ => pts_nil) (fun _ _ _ _ _ => (pe_callD D_subtract (hr.mono (by decide)) (by rfl) (pa_cons (pe_ixT (K := K) rfl (pv 3) (pv 5) (fun _ _ => rfl)) (pa_cons (pe_ixT (K := K) rfl (pv 4) (pv 5) (fun _ _ => rfl)) pa_nil))))) pa_nil)))))), ?_⟩
  refine seq_set (P := pTup K ((List.range (joints gs).length).map fun k => pR K (bV b gs k))) (by
    have e := ev_vt (K := K) (H := H) (σ := [some v1, some v2, some v3, none, none, none]) (ta := tVar 0) (tb := tVar 2) (by rw [hgs]; exact ev_v (i := 0) rfl (stay_tup stG).mono h1) (ev_v (i := 2) rfl stay_R.mono h3) vt
    rw [hgs] at e
    exact e) fun vb H2 s2 pb => ?_
  refine seq_set (ev_call (args := fun a : List Game × List Nat × Rat => [pTup K (a.1.map (pGame K)), pNats K a.2.1, pR K a.2.2]) (side := CvK) (post := fun a => pTup K ((List.range (joints a.1).length).map fun k => pR K (cX a.1 a.2.1 a.2.2 k))) (gs, cs, b) cv (eva_cons (ev_v (i := 0) rfl (stay_tup stG).mono ((stay_tup stG).mono _ _ _ s2 h1)) (stay_tup stG).mono (eva_cons (ev_v (i := 1) rfl st_nats.mono (st_nats.mono _ _ _ s2 h2)) st_nats.mono (eva_cons (ev_v (i := 2) rfl stay_R.mono (stay_R.mono _ _ _ s2 h3)) stay_R.mono eva_nil)))) fun vx H3 s3 px => ?_
  have px : pTup K ((List.range (joints gs).length).map fun k => pR K (cX gs cs b k)) vx H3 := px
  have st : ∀ P ∈ (List.range (joints gs).length).map (fun k => pR K (bV b gs k - cX gs cs b k)), Stay P := stay_map fun _ => stay_R
  refine one_ret (ev_tupleL (K := K) (Ps := (List.range (joints gs).length).map fun k => pR K (bV b gs k - cX gs cs b k)) (Ev.imp (ev_lcR (n := (joints gs).length) (lo := 0) (Rs := (List.range (joints gs).length).map fun k => pR K (bV b gs k - cX gs cs b k)) (iw_range1 (n := (joints gs).length) (eva_cons (by
      have e := ev_lenT (K := K) (ta := tVar 3) (H := H3) (σ := [some v1, some v2, some v3, some vb, some vx, none]) (ev_v (i := 3) (P := pTup K ((List.range (joints gs).length).map fun k => pR K (bV b gs k))) rfl (stay_tup stB).mono ((stay_tup stB).mono _ _ _ s3 pb))
      rw [List.length_map, List.length_range] at e
      exact e) stay_int.mono eva_nil) (by omega)) (by simp) st (by simp; omega) (fun j R H' hR e2 => ?_)) fun v H' _ p => p.lst) st) fun v H4 s4 p => q v H4 (s2.trans (s3.trans s4)) p
  have hj : j < (joints gs).length := by have := lt_of_get hR; simpa using this
  rw [range_get hj] at hR
  cases hR
  exact ev_R2 (K := K) (f := fun x y => x - y) (ev_ixT (K := K) (i := j) (ev_v (i := 3) rfl (stay_tup stB).mono ((stay_tup stB).mono _ _ _ (s3.trans e2) pb)) (ev_v (i := 5) (P := pInt (0 + (j : Nat))) rfl stay_int.mono rfl) (by omega) (range_get hj) stB)
    (ev_ixT (K := K) (i := j) (ev_v (i := 4) rfl (stay_tup stX).mono ((stay_tup stX).mono _ _ _ e2 px)) (ev_v (i := 5) (P := pInt (0 + (j : Nat))) rfl stay_int.mono rfl) (by omega) (range_get hj) stX) (sb j hj)
end
end AC
end
section
set_option maxRecDepth 100000
set_option exponentiation.threshold 20000
/-! The walk: the law's helpers. -/
namespace AC
open PySem PySem.Spec PyProof.Rows L2 ACD
variable {K : PySem.W.Frag}
def pAny : VP := fun v _ => ∃ i : Int, v = .int i
theorem stay_any : Stay pAny := fun _ _ _ _ h => h
section
variable {σ : L2.St} {H : Hp} {ta tb te : TE} {i j : Int}
theorem ev_modI (hj : 0 < j) (ha : Ev ta σ H (pInt i)) (hb : Ev tb σ H (pInt j)) : Ev (tOp (rI (fun _ j => 0 < j) fun i j => .int (i % j)) ta tb) σ H (pInt (i % j)) := (ev_i (C := fun _ j => 0 < j) (g := fun i j => .int (i % j)) hj ha hb).imp fun _ _ _ p => p
theorem ev_mulI (hc : CMul i j) (ha : Ev ta σ H (pInt i)) (hb : Ev tb σ H (pInt j)) : Ev (tOp (rI CMul fun i j => .int (i * j)) ta tb) σ H (pInt (i * j)) := (ev_i hc ha hb).imp fun _ _ _ p => p
theorem ev_mulW (hc : CMulW i j) (ha : Ev ta σ H (pInt i)) (hb : Ev tb σ H (pInt j)) : Ev (tOp (rI CMulW fun i j => .int (i * j)) ta tb) σ H (pInt (i * j)) := (ev_i hc ha hb).imp fun _ _ _ p => p
theorem ev_divI (hc : CDivW i j) (ha : Ev ta σ H (pInt i)) (hb : Ev tb σ H (pInt j)) : Ev (tOp (rI CDivW fun i j => .int (i / j)) ta tb) σ H (pInt (i / j)) := (ev_i hc ha hb).imp fun _ _ _ p => p
theorem ev_powI (hc : CPow i j) (ha : Ev ta σ H (pInt i)) (hb : Ev tb σ H (pInt j)) : Ev (tOp (rI CPow fun i j => .int (i ^ j.toNat)) ta tb) σ H (pInt (i ^ j.toNat)) := (ev_i hc ha hb).imp fun _ _ _ p => p
theorem ev_absI (ha : Ev ta σ H (pInt i)) : Ev (tCB (fun xs H Q => ∃ i, xs = [.int i] ∧ Q (.int (if i < 0 then -i else i)) H) (tCons ta tNil)) σ H (pInt (if i < 0 then -i else i)) := fun H1 e Q q =>
  ha H1 e _ fun v H2 s2 p => ⟨i, by rw [show v = V.int i from p], q _ H2 s2 rfl⟩
theorem ev_ltB (ha : Ev ta σ H (pInt i)) (hb : Ev tb σ H (pInt j)) : Ev (tOp (rI0 fun i j => .bl (decide (i < j))) ta tb) σ H (pBl (decide (i < j))) := (ev_i0 ha hb).imp fun _ _ _ p => p
theorem ev_gtB (ha : Ev ta σ H (pInt i)) (hb : Ev tb σ H (pInt j)) : Ev (tOp (rI0 fun i j => .bl (decide (j < i))) ta tb) σ H (pBl (decide (j < i))) := (ev_i0 ha hb).imp fun _ _ _ p => p
theorem ev_geB (ha : Ev ta σ H (pInt i)) (hb : Ev tb σ H (pInt j)) : Ev (tOp (rI0 fun i j => .bl (decide (j ≤ i))) ta tb) σ H (pBl (decide (j ≤ i))) := (ev_i0 ha hb).imp fun _ _ _ p => p
theorem ev_neI (ha : Ev ta σ H (pInt i)) (hb : Ev tb σ H (pInt j)) : Ev (tOp rNe ta tb) σ H (pBl (!decide (i = j))) := fun H1 e Q q =>
  ha H1 e _ fun v H2 s2 p => hb H2 (e.trans s2) _ fun w H3 s3 p3 => by
    obtain rfl : v = V.int i := p
    obtain rfl : w = V.int j := p3
    refine ⟨rfl, ?_⟩
    have : (!decide (V.int i = V.int j)) = (!decide (i = j)) := by
      congr 1
      exact decide_eq_decide.mpr ⟨fun h => V.int.inj h, fun h => by rw [h]⟩
    rw [this]
    exact q _ H3 (s2.trans s3) rfl
theorem ev_eqI (ha : Ev ta σ H (pInt i)) (hb : Ev tb σ H (pInt j)) : Ev (tOp rEq ta tb) σ H (pBl (decide (i = j))) := (ev_eq rfl (ha.imp fun _ _ _ p => p) (hb.imp fun _ _ _ p => p)).imp fun v H' _ p => by
  have : decide (V.int i = V.int j) = decide (i = j) := decide_eq_decide.mpr ⟨fun h => V.int.inj h, fun h => by rw [h]⟩
  rw [this] at p
  exact p
/-- isinstance(te, a built-in type) -/
theorem ev_isi {P : VP} {a b : String} {r : Bool} (h : Ev te σ H P) (ty : ∀ v H', P v H' → TyX K H' v (.type a)) (hk : kitB a b = some r) : Ev (tCB (rIsi K) (tCons te (tCons (tC (.ty b)) tNil))) σ H (pBl r) := fun H1 e Q q =>
  h H1 e _ fun v H2 s2 p => ⟨v, .ty b, .type a, .type b, r, rfl, .ty b, ty v H2 p, kit_ty hk, q _ H2 s2 rfl⟩
theorem ty_tup {Ps : List VP} {v : V} {H' : Hp} (p : pTup K Ps v H') : TyX K H' v (.type "tuple") := by
  obtain ⟨a, vs, rfl, sq, _⟩ := p
  rcases sq with (h | ⟨o, h⟩) | ⟨o, its, n, h, c, _⟩
  · exact .base (.tup h)
  · exact .fTuple h
  · exact .kTuple h c
theorem ty_R {x : Rat} {v : V} {H' : Hp} (p : pR K x v H') : TyX K H' v (.type "tuple") := by
  obtain ⟨a, rfl, sq, _⟩ := p
  exact ty_tup (Ps := [pInt x.num, pInt x.den]) ⟨a, _, rfl, sq, .cons rfl (.cons rfl .nil)⟩
theorem R_tup {x : Rat} {v : V} {H' : Hp} (p : pR K x v H') : pTup K [pInt x.num, pInt x.den] v H' := by
  obtain ⟨a, rfl, sq, _⟩ := p
  exact ⟨a, _, rfl, sq, .cons rfl (.cons rfl .nil)⟩
theorem Ev.tupR {x : Rat} (h : Ev te σ H (pR K x)) : Ev te σ H (pTup K [pInt x.num, pInt x.den]) := h.imp fun _ _ _ p => R_tup p
theorem st_ii {i j : Int} : ∀ P ∈ [pInt i, pInt j], Stay P := stay_cons stay_int (stay_cons stay_int stay_nil)
theorem ev_R0 {x : Rat} (h : Ev te σ H (pR K x)) : Ev (tOp (rIxT K) te (tC (.int 0))) σ H (pInt x.num) := ev_ixT (K := K) (i := 0) h.tupR (ev_int (i := 0)) rfl rfl st_ii
theorem ev_R1 {x : Rat} (h : Ev te σ H (pR K x)) : Ev (tOp (rIxT K) te (tC (.int 1))) σ H (pInt x.den) := ev_ixT (K := K) (i := 1) h.tupR (ev_int (i := 1)) rfl rfl st_ii
theorem ev_andV {a b : Bool} (h1 : Ev ta σ H (pBl a)) (h2 : a = true → Ev tb σ H (pBl b)) : Ev (tAndV ta tb) σ H (pBl (a && b)) := fun H1 e Q q =>
  h1 H1 e _ fun v H2 s2 p => ⟨a, p, by
    cases a with
    | false => exact q _ H2 s2 rfl
    | true => exact h2 rfl H2 (e.trans s2) _ fun w H3 s3 p3 => q _ H3 (s2.trans s3) p3⟩
theorem ev_notV {a : Bool} (h1 : Ev ta σ H (pBl a)) : Ev (tNotV ta) σ H (pBl (!a)) := fun H1 e Q q => h1 H1 e _ fun v H2 s2 p => ⟨a, p, q _ H2 s2 rfl⟩
theorem ev_bl {b : Bool} : Ev (tC (.bl b)) σ H (pBl b) := fun H1 _ _ q => q _ H1 (Same.refl H1) rfl
theorem ev_make2 (ha : Ev ta σ H (pInt i)) (hb : Ev tb σ H (pInt j)) (h : 0 < j ∧ j.natAbs < 2 ^ 8900 ∧ Ok (Rat.divInt i j)) : Ev (tCall (spMake K) [] E0 (tCons ta (tCons tb tNil))) σ H (pR K (Rat.divInt i j)) :=
  ev_call (args := fun a : Int × Int => [pInt a.1, pInt a.2]) (side := fun a => 0 < a.2 ∧ a.2.natAbs < 2 ^ 8900 ∧ Ok (Rat.divInt a.1 a.2)) (post := fun a => pR K (Rat.divInt a.1 a.2)) (i, j) h (eva_cons ha stay_int.mono (eva_cons hb stay_int.mono eva_nil))
end
def spCellA (K : PySem.W.Frag) : Sp := Spc (fun a : List Int × Nat => [pLst K (a.1.map pInt), pInt (a.2 : Nat)]) (fun a => a.2 ≤ 60) fun _ => pAny
/-- some draws -/
def pDraws (K : PySem.W.Frag) (n : Nat) : VP := fun v H => ∃ ds : List Nat, ds.length = n ∧ (∀ d ∈ ds, d < 5040) ∧ pLst K (ds.map fun d : Nat => pInt (d : Int)) v H
theorem mono_draws {n : Nat} : Mono (pDraws K n) := fun v H H' s ⟨ds, h1, h2, h3⟩ => ⟨ds, h1, h2, mono_lst (fun P hP => (st_ints ds P hP).mono) _ _ _ s h3⟩
def spDraws (K : PySem.W.Frag) : Sp := Spc (fun a : Int × Nat => [pInt a.1, pInt (a.2 : Nat)]) (fun a => a.2 ≤ 900) fun a => pDraws K a.2
def spIsR (K : PySem.W.Frag) : Sp := Spc (fun x : Rat => [pR K x]) (fun _ => True) fun _ => pBl true
def spIsI : Sp := Spc (fun i : Int => [pInt i]) (fun _ => True) fun _ => pBl true
def spRs (K : PySem.W.Frag) : Sp := Spc (fun a : List Rat => [pTup K (a.map (pR K)), pInt (a.length : Nat)]) (fun _ => True) fun _ => pBl true
def spLess (K : PySem.W.Frag) : Sp := Spc (fun a : Rat × Rat => [pR K a.1, pR K a.2]) (fun _ => True) fun a => pBl (decide (a.1 < a.2))
/-- a fraction | a discount as drawn -/
def FrK (x : Rat) : Prop := ∃ n d : Int, -6 ≤ n ∧ n ≤ 6 ∧ 1 ≤ d ∧ d ≤ 4 ∧ x = Rat.divInt n d
def BdK (x : Rat) : Prop := ∃ n d : Int, 0 ≤ n ∧ n < d ∧ 2 ≤ d ∧ d ≤ 10 ∧ x = Rat.divInt n d
def spFr (K : PySem.W.Frag) : Sp := Spc (fun d : Nat => [pInt (d : Int)]) (fun _ => True) fun _ v H => ∃ x, FrK x ∧ pR K x v H
def spBd (K : PySem.W.Frag) : Sp := Spc (fun d : Nat => [pInt (d : Int)]) (fun _ => True) fun _ v H => ∃ x, BdK x ∧ pR K x v H
/-- a reduced fraction is no larger than what it was written as -/
theorem ok_small {n d : Int} {k : Nat} (hd : 0 < d) (h1 : n.natAbs < 2 ^ k) (h2 : d.natAbs < 2 ^ k) (hk : k ≤ 4400) : Ok (Rat.divInt n d) := by
  have h := low_num (n := n) hd
  have h' := low_den (n := n) hd
  have hp : 2 ^ k ≤ 2 ^ SZ := Nat.pow_le_pow_right (by omega) hk
  have hle : ∀ (a b : Int), 0 < b → (a / b).natAbs ≤ a.natAbs := fun a b hb => by
    have := Int.natAbs_ediv_le_natAbs a b
    exact this
  refine ⟨?_, ?_⟩
  · rw [← h]
    exact Nat.lt_of_le_of_lt (hle _ _ (gcd_pos hd)) (Nat.lt_of_lt_of_le h1 hp)
  · have := hle d _ (gcd_pos (n := n) hd)
    rw [h'] at this
    rw [Int.natAbs_natCast] at this
    exact Nat.lt_of_le_of_lt this (Nat.lt_of_lt_of_le h2 hp)
theorem sc60 : FnScope ["_law_script", "_law_k"] ["_law_script", "_law_k"] (defScope (topS 60)) := ⟨rfl, rfl, rfl, by decide +kernel, rfl, by decide +kernel, by decide +kernel⟩
theorem sc61 : FnScope ["_law_cell_here", "_law_count", "_law_rest", "_law_digits", "_law_seed", "_law_draws_here", "_law_k", "_law_mixed"] ["_law_cell_here", "_law_count"] (defScope (topS 61)) := ⟨rfl, rfl, rfl, by decide +kernel, rfl, by decide +kernel, by decide +kernel⟩
theorem sc62 : FnScope ["_law_n", "_law_d", "_law_a", "_law_b", "_law_c"] ["_law_n", "_law_d"] (defScope (topS 62)) := ⟨rfl, rfl, rfl, by decide +kernel, rfl, by decide +kernel, by decide +kernel⟩
theorem sc63 : FnScope ["_law_value"] ["_law_value"] (defScope (topS 63)) := ⟨rfl, rfl, rfl, by decide +kernel, rfl, by decide +kernel, by decide +kernel⟩
theorem sc64 : FnScope ["_law_value"] ["_law_value"] (defScope (topS 64)) := ⟨rfl, rfl, rfl, by decide +kernel, rfl, by decide +kernel, by decide +kernel⟩
theorem sc65 : FnScope ["_law_values", "_law_count", "_law_value"] ["_law_values", "_law_count"] (defScope (topS 65)) := ⟨rfl, rfl, rfl, by decide +kernel, rfl, by decide +kernel, by decide +kernel⟩
theorem sc66 : FnScope ["_law_a", "_law_b"] ["_law_a", "_law_b"] (defScope (topS 66)) := ⟨rfl, rfl, rfl, by decide +kernel, rfl, by decide +kernel, by decide +kernel⟩
theorem sc67 : FnScope ["_law_a", "_law_b"] ["_law_a", "_law_b"] (defScope (topS 67)) := ⟨rfl, rfl, rfl, by decide +kernel, rfl, by decide +kernel, by decide +kernel⟩
theorem sc68 : FnScope ["_law_a", "_law_b"] ["_law_a", "_law_b"] (defScope (topS 68)) := ⟨rfl, rfl, rfl, by decide +kernel, rfl, by decide +kernel, by decide +kernel⟩
theorem sc69 : FnScope ["_law_a", "_law_b"] ["_law_a", "_law_b"] (defScope (topS 69)) := ⟨rfl, rfl, rfl, by decide +kernel, rfl, by decide +kernel, by decide +kernel⟩
theorem sc70 : FnScope ["_law_draw"] ["_law_draw"] (defScope (topS 70)) := ⟨rfl, rfl, rfl, by decide +kernel, rfl, by decide +kernel, by decide +kernel⟩
theorem sc71 : FnScope ["_law_draw", "_law_q"] ["_law_draw"] (defScope (topS 71)) := ⟨rfl, rfl, rfl, by decide +kernel, rfl, by decide +kernel, by decide +kernel⟩
section
variable {P : Program} {w : World} {mg : Str → Option Value} {base : Heap}
theorem d_law_cell (g : Got K mg "_law_cell" 60 ["_law_script", "_law_k"]) (m_len : mg "len" = none) : DefOk P w K mg base 1 "_law_cell" ["_law_script", "_law_k"] (spCellA K) := by
  refine def_of g sc60 (fun _ => rfl) fun fa cdv A outer s0 H vs Q E a hr sd al q => ?_
  obtain ⟨ns, k⟩ := a
  have hk : k ≤ 60 := sd
  cases al with | cons h1 al => cases al with | cons h2 al => cases al with | nil =>
  have stN : ∀ P ∈ ns.map pInt, Stay P := stay_map fun _ => stay_int
  refine ⟨_, (pss_cons (ps_if (pt_cmpR op_lt (pv 1) (pe_callB call_len_seq (by rfl) m_len PySem.boot_len (pa_cons (pv 0) pa_nil)) (nomark _)) (pss_one (ps_ret (pe_ix ix_list (pv 0) (pv 1) (fun _ _ => rfl)))) pss_nil)
    (pss_one (ps_ret (pe_op op_add (pe_op op_mul pe_int (pv 1)) pe_int)))), ?_⟩
  refine seq_if (b := decide (k < ns.length)) (et_test (Ev.imp (ev_ltB (ev_v (i := 1) (P := pInt (k : Nat)) rfl stay_int.mono h2) (ev_len (K := K) (ev_v (i := 0) (P := pLst K (ns.map pInt)) rfl (mono_lst (stay_mono stN)) h1))) fun v H' _ p => by
    have e : decide ((k : Int) < ((ns.map pInt).length : Nat)) = decide (k < ns.length) := decide_eq_decide.mpr (by rw [List.length_map]; omega)
    rw [e] at p
    exact p)) fun H1 s1 => ?_
  refine ite2 (fun z => ?_) (fun z => ?_)
  · obtain ⟨n, hn⟩ := get_of_lt (of_decide_eq_true z)
    exact one_ret (ev_ixL (K := K) (i := k) (ev_v (i := 0) (P := pLst K (ns.map pInt)) rfl (mono_lst (stay_mono stN)) (mono_lst (stay_mono stN) _ _ _ s1 h1)) (ev_v (i := 1) (P := pInt (k : Nat)) rfl stay_int.mono h2) rfl (map_get hn) stN) fun v H2 s2 p => q v H2 (s1.trans s2) ⟨n, p⟩
  · exact one_ret (H := H1) (ev_addI (ev_mulI (i := 5) (j := (k : Nat)) (.inl ⟨by omega, by omega⟩) (ev_int (i := 5)) (ev_v (i := 1) (P := pInt (k : Nat)) rfl stay_int.mono h2)) (ev_int (i := 3))) fun v H2 s2 p => q v H2 (s1.trans s2) ⟨_, p⟩
theorem d_law_low (g : Got K mg "_law_low" 62 ["_law_n", "_law_d"]) (m_abs : mg "abs" = none) (m_int : mg "int" = none) : DefOk P w K mg base 1 "_law_low" ["_law_n", "_law_d"] (spMake K) := by
  refine def_of g sc62 (fun _ => rfl) fun fa cdv A outer s0 H vs Q E a hr sd al q => ?_
  obtain ⟨n, d⟩ := a
  obtain ⟨hd, hs, ho⟩ := sd
  have hd : 0 < d := hd
  cases al with | cons h1 al => cases al with | cons h2 al => cases al with | nil =>
  obtain rfl : _ = V.int n := h1
  obtain rfl : _ = V.int d := h2
  refine ⟨_, (pss_cons (ps_set (i := 2) sc62.nd rfl (.inl rfl) (pe_callB call_abs (by rfl) m_abs (by decide +kernel) (pa_cons (pv 0) pa_nil)))
    (pss_cons (ps_set (i := 3) sc62.nd rfl (.inl rfl) (pe_callB call_abs (by rfl) m_abs (by decide +kernel) (pa_cons (pv 1) pa_nil)))
    (pss_cons (ps_while PassesOwn.never (pt_cmpR op_gt (pv 3) pe_int (nomark _))
    (pss_cons (ps_set (i := 4) sc62.nd rfl (.inl rfl) (pe_op op_mod (pe_callTy call_int1 (by rfl) m_int (by decide +kernel) (pa_cons (pv 2) pa_nil)) (pv 3)))
    (pss_cons (ps_set (i := 2) sc62.nd rfl (.inl rfl) (pv 3))
    (pss_one (ps_set (i := 3) sc62.nd rfl (.inl rfl) (pv 4))))))
    (pss_cons (ps_if (pt_cmpR op_lt (pv 1) pe_int (nomark _)) (pss_cons (ps_set (i := 0) sc62.nd rfl (.inl rfl) (pe_op op_sub pe_int (pv 0)))
    (pss_one (ps_set (i := 1) sc62.nd rfl (.inl rfl) (pe_op op_sub pe_int (pv 1))))) pss_nil)
    (pss_one (ps_ret (pe_tup (pa_cons (pe_op op_fdivW (pv 0) (pv 2)) (pa_cons (pe_op op_fdivW (pv 1) (pv 2)) pa_nil))))))))), ?_⟩
  have ab : ∀ i : Int, (if i < 0 then -i else i) = (i.natAbs : Nat) := fun i => by split <;> omega
  refine seq_set (ev_absI (ev_v (i := 0) (P := pInt n) rfl stay_int.mono rfl)) fun va H1 s1 pa => ?_
  refine seq_set (ev_absI (ev_v (i := 1) (P := pInt d) rfl stay_int.mono rfl)) fun vb H2 s2 pb => ?_
  obtain rfl : va = V.int (if n < 0 then -n else n) := pa
  obtain rfl : vb = V.int (if d < 0 then -d else d) := pb
  rw [ab, ab]
  refine ⟨fun m σ H' => ∃ (a b : Nat) (y : Option V), σ = [some (.int n), some (.int d), some (.int (a : Nat)), some (.int (b : Nat)), y] ∧ Same H H' ∧ m = b ∧ Nat.gcd a b = Nat.gcd n.natAbs d.natAbs, ⟨_, n.natAbs, d.natAbs, none, rfl, s1.trans s2, rfl, rfl⟩, ?_⟩
  rintro m σ H3 ⟨a, b, y, rfl, s3, rfl, hg⟩
  refine et_test (ev_gtB (ev_v (i := 3) (P := pInt (m : Nat)) rfl stay_int.mono rfl) (ev_int (i := 0))) H3 (Same.refl H3) _ fun H4 s4 => ?_
  refine ite2 (fun z => ?_) (fun z => ?_)
  · have hb : 0 < m := by have := of_decide_eq_true z; omega
    refine ⟨fun σ H' => ∃ (a b : Nat) (y : Option V), σ = [some (.int n), some (.int d), some (.int (a : Nat)), some (.int (b : Nat)), y] ∧ Same H H' ∧ b < m ∧ Nat.gcd a b = Nat.gcd n.natAbs d.natAbs, fun σ' H' ⟨a, b, y, e1, e2, e3, e4⟩ => ⟨b, e3, a, b, y, e1, e2, rfl, e4⟩, ?_⟩
    refine seq_set (ev_modI (i := (a : Nat)) (j := (m : Nat)) (by omega) (ev_intI (ev_v (i := 2) (P := pInt (a : Nat)) rfl stay_int.mono rfl)) (ev_v (i := 3) (P := pInt (m : Nat)) rfl stay_int.mono rfl)) fun vc H5 s5 pc => ?_
    obtain rfl : vc = V.int ((a : Int) % (m : Int)) := pc
    refine seq_set (ev_v (i := 3) (P := pInt (m : Nat)) rfl stay_int.mono rfl) fun v2 H6 s6 p2 => ?_
    obtain rfl : v2 = V.int (m : Nat) := p2
    refine one_set (ev_v (i := 4) (P := pInt ((a : Int) % (m : Int))) rfl stay_int.mono rfl) fun v3 H7 s7 p3 => ?_
    obtain rfl : v3 = V.int ((a : Int) % (m : Int)) := p3
    refine ⟨m, a % m, some (.int ((a : Int) % (m : Int))), by rw [Int.natCast_emod]; rfl, s3.trans (s4.trans (s5.trans (s6.trans s7))), Nat.mod_lt _ hb, ?_⟩
    rw [← hg, Nat.gcd_comm m, ← Nat.gcd_rec, Nat.gcd_comm]
  · have hb : m = 0 := by
      by_cases c : m = 0
      · exact c
      · exact absurd (decide_eq_true (show (0 : Int) < (m : Nat) by omega)) z
    subst hb
    rw [Nat.gcd_zero_right] at hg
    subst hg
    refine seq_if (b := false) (et_test (Ev.imp (ev_ltB (ev_v (i := 1) (P := pInt d) rfl stay_int.mono rfl) (ev_int (i := 0))) fun v H' _ p => by
      rw [decide_eq_false (show ¬ d < 0 by omega)] at p; exact p)) fun H5 s5 => ?_
    refine iteF ?_
    have hgp := gcd_pos (n := n) hd
    have hgs := gcd_small (n := n) hd hs
    refine one_ret (ev_tup (K := K) (eva_cons (ev_divI (wide_div hgp hgs (by omega) (by omega)) (ev_v (i := 0) (P := pInt n) rfl stay_int.mono rfl) (ev_v (i := 2) (P := pInt ((Nat.gcd n.natAbs d.natAbs : Nat) : Int)) rfl stay_int.mono rfl)) stay_int.mono (eva_cons (ev_divI (wide_div hgp hgs (by omega) (by omega)) (ev_v (i := 1) (P := pInt d) rfl stay_int.mono rfl) (ev_v (i := 2) (P := pInt ((Nat.gcd n.natAbs d.natAbs : Nat) : Int)) rfl stay_int.mono rfl)) stay_int.mono eva_nil)) st_ii (by simp)) fun v H6 s6 p => q v H6 (s3.trans (s4.trans (s5.trans s6))) ?_
    rw [low_num hd, low_den hd] at p
    exact pR_of p rfl rfl ho
theorem d_law_is_integer (g : Got K mg "_law_is_integer" 63 ["_law_value"]) (m_isinstance : mg "isinstance" = none) (m_int : mg "int" = none) (m_bool : mg "bool" = none) : DefOk P w K mg base 1 "_law_is_integer" ["_law_value"] spIsI := by
  refine def_of g sc63 (fun _ => rfl) fun fa cdv A outer s0 H vs Q E i hr sd al q => ?_
  cases al with | cons h1 al => cases al with | nil =>
  obtain rfl : _ = V.int i := h1
  refine ⟨_, (pss_one (ps_ret (pe_and (pe_callB call_isi (by rfl) m_isinstance (by decide +kernel) (pa_cons (pv 0) (pa_cons (pe_bltn (v := .ty "int") rfl m_int (by decide +kernel) rfl) pa_nil))) (pe_one (pe_not (pe_callB call_isi (by rfl) m_isinstance (by decide +kernel) (pa_cons (pv 0) (pa_cons (pe_bltn (v := .ty "bool") rfl m_bool (by decide +kernel) rfl) pa_nil)))))))), ?_⟩
  have ty : ∀ v H', pInt i v H' → TyX K H' v (.type "int") := fun v H' p => by
    obtain rfl : v = V.int i := p
    exact .base (.int i)
  exact one_ret (ev_andV (a := true) (b := true) (ev_isi (K := K) (ev_v (i := 0) (P := pInt i) rfl stay_int.mono rfl) ty (by decide +kernel)) fun _ => ev_notV (a := false) (ev_isi (K := K) (ev_v (i := 0) (P := pInt i) rfl stay_int.mono rfl) ty (by decide +kernel))) fun v H1 s1 p => q v H1 s1 p
theorem d_law_is_ratio (g : Got K mg "_law_is_ratio" 64 ["_law_value"]) (m_isinstance : mg "isinstance" = none) (m_tuple : mg "tuple" = none) (m_len : mg "len" = none) (D__law_is_integer : DefOk P w K mg base 1 "_law_is_integer" ["_law_value"] spIsI) (D__law_low : DefOk P w K mg base 1 "_law_low" ["_law_n", "_law_d"] (spMake K)) :
    DefOk P w K mg base 2 "_law_is_ratio" ["_law_value"] (spIsR K) := by
  refine def_of g sc64 (fun _ => rfl) fun fa cdv A outer s0 H vs Q E x hr sd al q => ?_
  cases al with | cons h1 al => cases al with | nil =>
  rename_i v1
  have h1 : pR K x v1 H := h1
  refine ⟨_, (pss_cons (ps_if (PW.pt (pw_or (pt_not (pt_val (pe_callB call_isi (by rfl) m_isinstance (by decide +kernel) (pa_cons (pv 0) (pa_cons (pe_bltn (v := .ty "tuple") rfl m_tuple (by decide +kernel) rfl) pa_nil))))) (pw_or1 (pt_cmpR op_ne (pe_callB call_len_seq (by rfl) m_len PySem.boot_len (pa_cons (pv 0) pa_nil)) pe_int (nomark _))))) (pss_one (ps_ret pe_bl)) pss_nil)
    (pss_cons (ps_if (PW.pt (pw_or (pt_not (pt_val (pe_callD D__law_is_integer hr (by rfl) (pa_cons (pe_ix ix_tup (pv 0) pe_int (fun _ _ => rfl)) pa_nil)))) (pw_or (pt_not (pt_val (pe_callD D__law_is_integer hr (by rfl) (pa_cons (pe_ix ix_tup (pv 0) pe_int (fun _ _ => rfl)) pa_nil)))) (pw_or1 (pt_cmpR op_lt (pe_ix ix_tup (pv 0) pe_int (fun _ _ => rfl)) pe_int (nomark _)))))) (pss_one (ps_ret pe_bl)) pss_nil)
    (pss_one (ps_ret (pe_cmpR (op_eqD hr.units) (pe_callD D__law_low hr (by rfl) (pa_cons (pe_ix ix_tup (pv 0) pe_int (fun _ _ => rfl)) (pa_cons (pe_ix ix_tup (pv 0) pe_int (fun _ _ => rfl)) pa_nil))) (pv 0) (nomark _)))))), ?_⟩
  have hv : ∀ H2, Same H H2 → Ev (tVar 0) [some v1] H2 (pR K x) := fun H2 s2 => ev_v rfl stay_R.mono (stay_R.mono _ _ _ s2 h1)
  have ok : Ok x := by obtain ⟨_, _, _, o⟩ := h1; exact o
  refine seq_if (b := false) (et_or (a := false) (b := false) (et_not (a := true) (et_B (ev_isi (K := K) (hv H (Same.refl H)) (fun v H' p => ty_R p) (by decide +kernel)))) (fun _ => et_test (Ev.imp (ev_neI (i := 2) (j := 2) ((ev_lenT (K := K) (hv H (Same.refl H)).tupR).imp fun _ _ _ p => p) (ev_int (i := 2))) fun v H' _ p => p)) (fun z => nomatch z)) fun H1 s1 => ?_
  refine iteF ?_
  have isI : ∀ (te : TE) (i : Int), Ev te [some v1] H1 (pInt i) → Ev (tCall spIsI [] E0 (tCons te tNil)) [some v1] H1 (pBl true) := fun te i h => ev_call (args := fun i : Int => [pInt i]) (side := fun _ => True) (post := fun _ => pBl true) i trivial (eva_cons h stay_int.mono eva_nil)
  refine seq_if (b := false) (et_or (a := false) (b := false) (et_not (a := true) (et_B (isI _ _ (ev_R0 (hv H1 s1))))) (fun _ => et_or (a := false) (b := false) (et_not (a := true) (et_B (isI _ _ (ev_R1 (hv H1 s1))))) (fun _ => et_test (Ev.imp (ev_ltB (ev_R1 (hv H1 s1)) (ev_int (i := 1))) fun v H' _ p => by
    rw [decide_eq_false (show ¬ (x.den : Int) < 1 by have := x.den_pos; omega)] at p; exact p)) (fun z => nomatch z)) (fun z => nomatch z)) fun H2 s2 => ?_
  refine iteF ?_
  have s02 := s1.trans s2
  have e : Rat.divInt x.num x.den = x := Rat.num_divInt_den x
  have h := ev_make2 (K := K) (ev_R0 (hv H2 s02)) (ev_R1 (hv H2 s02)) ⟨den_pos' x, Nat.lt_of_lt_of_le (ok_den ok) (Nat.pow_le_pow_right (by omega) (by omega)), by rw [e]; exact ok⟩
  rw [e] at h
  refine one_ret (ev_eqR (K := K) h (hv H2 s02)) fun v H3 s3 p => q v H3 (s02.trans s3) ?_
  rw [decide_eq_true rfl] at p
  exact p
theorem d_law_ratios (g : Got K mg "_law_ratios" 65 ["_law_values", "_law_count"]) (m_isinstance : mg "isinstance" = none) (m_tuple : mg "tuple" = none) (m_len : mg "len" = none) (D__law_is_ratio : DefOk P w K mg base 2 "_law_is_ratio" ["_law_value"] (spIsR K)) : DefOk P w K mg base 3 "_law_ratios" ["_law_values", "_law_count"] (spRs K) := by
  refine def_of g sc65 (fun _ => rfl) fun fa cdv A outer s0 H vs Q E xs hr sd al q => ?_
  cases al with | cons h1 al => cases al with | cons h2 al => cases al with | nil =>
  rename_i v1 v2
  have h1 : pTup K (xs.map (pR K)) v1 H := h1
  obtain rfl : v2 = V.int (xs.length : Nat) := h2
  refine ⟨_, (pss_cons (ps_if (PW.pt (pw_or (pt_not (pt_val (pe_callB call_isi (by rfl) m_isinstance (by decide +kernel) (pa_cons (pv 0) (pa_cons (pe_bltn (v := .ty "tuple") rfl m_tuple (by decide +kernel) rfl) pa_nil))))) (pw_or1 (pt_cmpR op_ne (pe_callB call_len_seq (by rfl) m_len PySem.boot_len (pa_cons (pv 0) pa_nil)) (pv 1) (nomark _))))) (pss_one (ps_ret pe_bl)) pss_nil)
    (pss_cons (ps_for PassesOwn.never rfl (pi_tup (pv 0)) (pg_name (i := 2) sc65.nd rfl (.inl rfl))
    (pss_one (ps_if (pt_not (pt_val (pe_callD D__law_is_ratio hr (by rfl) (pa_cons (pv 2) pa_nil)))) (pss_one (ps_ret pe_bl)) pss_nil)))
    (pss_one (ps_ret pe_bl)))), ?_⟩
  have stX := stay_rs (K := K) xs
  refine seq_if (b := false) (et_or (a := false) (b := false) (et_not (a := true) (et_B (ev_isi (K := K) (ev_v (i := 0) (P := pTup K (xs.map (pR K))) rfl (stay_tup stX).mono h1) (fun v H' p => ty_tup p) (by decide +kernel)))) (fun _ => et_test (Ev.imp (ev_neI (i := ((xs.map (pR K)).length : Nat)) (j := (xs.length : Nat)) (ev_lenT (K := K) (ev_v (i := 0) (P := pTup K (xs.map (pR K))) rfl (stay_tup stX).mono h1)) (ev_v (i := 1) (P := pInt (xs.length : Nat)) rfl stay_int.mono rfl)) fun v H' _ p => by
    rw [List.length_map, decide_eq_true rfl] at p; exact p)) (fun z => nomatch z)) fun H1 s1 => ?_
  refine iteF ?_
  refine for_T (K := K) (ev_v (i := 0) rfl (stay_tup stX).mono ((stay_tup stX).mono _ _ _ s1 h1)) stX fun vx H2 s2 px => ⟨fun i σ H' => ∃ y2 : Option V, σ = [some v1, some (.int (xs.length : Nat)), y2] ∧ Same H H' ∧ Same H2 H', ⟨none, rfl, s1.trans s2, Same.refl _⟩, fun i σ H' ⟨_, _, _, h⟩ => Same.stb h, ?_, ?_⟩
  · rintro i x P σ H3 hP px ⟨y2, rfl, s3, s4⟩
    have hi := lt_of_get hP
    rw [List.length_map] at hi
    obtain ⟨r, hr'⟩ := get_of_lt hi
    rw [map_get hr'] at hP
    cases hP
    refine one_if (b := false) (et_not (a := true) (et_B (ev_call (args := fun x : Rat => [pR K x]) (side := fun _ => True) (post := fun _ => pBl true) r trivial (eva_cons (ev_v (i := 2) rfl stay_R.mono px) stay_R.mono eva_nil)))) fun H4 s5 => ?_
    refine iteF ?_
    exact ⟨_, rfl, s3.trans s5, s4.trans s5⟩
  · rintro σ H3 ⟨y2, rfl, s3, s4⟩
    exact one_ret ev_bl fun v H4 s5 p => q v H4 (s3.trans s5) p
theorem d_law_add (g : Got K mg "_law_add" 66 ["_law_a", "_law_b"]) (D__law_low : DefOk P w K mg base 1 "_law_low" ["_law_n", "_law_d"] (spMake K)) : DefOk P w K mg base 2 "_law_add" ["_law_a", "_law_b"] (spR2 K fun x y => x + y) := by
  refine def_of g sc66 (fun _ => rfl) fun fa cdv A outer s0 H vs Q E a hr sd al q => ?_
  obtain ⟨x, y⟩ := a
  have sd : Ok (x + y) := sd
  cases al with | cons h1 al => cases al with | cons h2 al => cases al with | nil =>
  rename_i v1 v2
  have h1 : pR K x v1 H := h1
  have h2 : pR K y v2 H := h2
  have o1 : Ok x := by obtain ⟨_, _, _, o⟩ := h1; exact o
  have o2 : Ok y := by obtain ⟨_, _, _, o⟩ := h2; exact o
  refine ⟨_, (pss_one (ps_ret (pe_callD D__law_low hr (by rfl) (pa_cons (pe_op op_add (pe_op op_mulW (pe_ix ix_tup (pv 0) pe_int (fun _ _ => rfl)) (pe_ix ix_tup (pv 1) pe_int (fun _ _ => rfl))) (pe_op op_mulW (pe_ix ix_tup (pv 1) pe_int (fun _ _ => rfl)) (pe_ix ix_tup (pv 0) pe_int (fun _ _ => rfl)))) (pa_cons (pe_op op_mulW (pe_ix ix_tup (pv 0) pe_int (fun _ _ => rfl)) (pe_ix ix_tup (pv 1) pe_int (fun _ _ => rfl))) pa_nil))))), ?_⟩
  have ex : Ev (tVar 0) (start ["_law_a", "_law_b"] [v1, v2]) H (pR K x) := ev_v rfl stay_R.mono h1
  have ey : Ev (tVar 1) (start ["_law_a", "_law_b"] [v1, v2]) H (pR K y) := ev_v rfl stay_R.mono h2
  have h := ev_make2 (K := K) (ev_addI (ev_mulW (mulw o1.1 (ok_den o2)) (ev_R0 ex) (ev_R1 ey)) (ev_mulW (mulw o2.1 (ok_den o1)) (ev_R0 ey) (ev_R1 ex))) (ev_mulW (mulw (ok_den o1) (ok_den o2)) (ev_R1 ex) (ev_R1 ey)) ⟨Int.mul_pos (den_pos' x) (den_pos' y), den_prod o1 o2, by rw [ok_divInt_add]; exact sd⟩
  rw [ok_divInt_add] at h
  exact one_ret h fun v H1 s1 p => q v H1 s1 p
theorem d_law_sub (g : Got K mg "_law_sub" 67 ["_law_a", "_law_b"]) (D__law_low : DefOk P w K mg base 1 "_law_low" ["_law_n", "_law_d"] (spMake K)) : DefOk P w K mg base 2 "_law_sub" ["_law_a", "_law_b"] (spR2 K fun x y => x - y) := by
  refine def_of g sc67 (fun _ => rfl) fun fa cdv A outer s0 H vs Q E a hr sd al q => ?_
  obtain ⟨x, y⟩ := a
  have sd : Ok (x - y) := sd
  cases al with | cons h1 al => cases al with | cons h2 al => cases al with | nil =>
  rename_i v1 v2
  have h1 : pR K x v1 H := h1
  have h2 : pR K y v2 H := h2
  have o1 : Ok x := by obtain ⟨_, _, _, o⟩ := h1; exact o
  have o2 : Ok y := by obtain ⟨_, _, _, o⟩ := h2; exact o
  refine ⟨_, (pss_one (ps_ret (pe_callD D__law_low hr (by rfl) (pa_cons (pe_op op_sub (pe_op op_mulW (pe_ix ix_tup (pv 0) pe_int (fun _ _ => rfl)) (pe_ix ix_tup (pv 1) pe_int (fun _ _ => rfl))) (pe_op op_mulW (pe_ix ix_tup (pv 1) pe_int (fun _ _ => rfl)) (pe_ix ix_tup (pv 0) pe_int (fun _ _ => rfl)))) (pa_cons (pe_op op_mulW (pe_ix ix_tup (pv 0) pe_int (fun _ _ => rfl)) (pe_ix ix_tup (pv 1) pe_int (fun _ _ => rfl))) pa_nil))))), ?_⟩
  have ex : Ev (tVar 0) (start ["_law_a", "_law_b"] [v1, v2]) H (pR K x) := ev_v rfl stay_R.mono h1
  have ey : Ev (tVar 1) (start ["_law_a", "_law_b"] [v1, v2]) H (pR K y) := ev_v rfl stay_R.mono h2
  have h := ev_make2 (K := K) (ev_subI (ev_mulW (mulw o1.1 (ok_den o2)) (ev_R0 ex) (ev_R1 ey)) (ev_mulW (mulw o2.1 (ok_den o1)) (ev_R0 ey) (ev_R1 ex))) (ev_mulW (mulw (ok_den o1) (ok_den o2)) (ev_R1 ex) (ev_R1 ey)) ⟨Int.mul_pos (den_pos' x) (den_pos' y), den_prod o1 o2, by rw [ok_divInt_sub]; exact sd⟩
  rw [ok_divInt_sub] at h
  exact one_ret h fun v H1 s1 p => q v H1 s1 p
theorem d_law_mul (g : Got K mg "_law_mul" 68 ["_law_a", "_law_b"]) (D__law_low : DefOk P w K mg base 1 "_law_low" ["_law_n", "_law_d"] (spMake K)) : DefOk P w K mg base 2 "_law_mul" ["_law_a", "_law_b"] (spR2 K fun x y => x * y) := by
  refine def_of g sc68 (fun _ => rfl) fun fa cdv A outer s0 H vs Q E a hr sd al q => ?_
  obtain ⟨x, y⟩ := a
  have sd : Ok (x * y) := sd
  cases al with | cons h1 al => cases al with | cons h2 al => cases al with | nil =>
  rename_i v1 v2
  have h1 : pR K x v1 H := h1
  have h2 : pR K y v2 H := h2
  have o1 : Ok x := by obtain ⟨_, _, _, o⟩ := h1; exact o
  have o2 : Ok y := by obtain ⟨_, _, _, o⟩ := h2; exact o
  refine ⟨_, (pss_one (ps_ret (pe_callD D__law_low hr (by rfl) (pa_cons (pe_op op_mulW (pe_ix ix_tup (pv 0) pe_int (fun _ _ => rfl)) (pe_ix ix_tup (pv 1) pe_int (fun _ _ => rfl))) (pa_cons (pe_op op_mulW (pe_ix ix_tup (pv 0) pe_int (fun _ _ => rfl)) (pe_ix ix_tup (pv 1) pe_int (fun _ _ => rfl))) pa_nil))))), ?_⟩
  have ex : Ev (tVar 0) (start ["_law_a", "_law_b"] [v1, v2]) H (pR K x) := ev_v rfl stay_R.mono h1
  have ey : Ev (tVar 1) (start ["_law_a", "_law_b"] [v1, v2]) H (pR K y) := ev_v rfl stay_R.mono h2
  have h := ev_make2 (K := K) (ev_mulW (mulw o1.1 o2.1) (ev_R0 ex) (ev_R0 ey)) (ev_mulW (mulw (ok_den o1) (ok_den o2)) (ev_R1 ex) (ev_R1 ey)) ⟨Int.mul_pos (den_pos' x) (den_pos' y), den_prod o1 o2, by rw [ok_divInt_mul]; exact sd⟩
  rw [ok_divInt_mul] at h
  exact one_ret h fun v H1 s1 p => q v H1 s1 p
theorem d_law_less (g : Got K mg "_law_less" 69 ["_law_a", "_law_b"]) : DefOk P w K mg base 1 "_law_less" ["_law_a", "_law_b"] (spLess K) := by
  refine def_of g sc69 (fun _ => rfl) fun fa cdv A outer s0 H vs Q E a hr sd al q => ?_
  obtain ⟨x, y⟩ := a
  cases al with | cons h1 al => cases al with | cons h2 al => cases al with | nil =>
  rename_i v1 v2
  have h1 : pR K x v1 H := h1
  have h2 : pR K y v2 H := h2
  have o1 : Ok x := by obtain ⟨_, _, _, o⟩ := h1; exact o
  have o2 : Ok y := by obtain ⟨_, _, _, o⟩ := h2; exact o
  refine ⟨_, (pss_one (ps_ret (pe_cmpR op_lt (pe_op op_mulW (pe_ix ix_tup (pv 0) pe_int (fun _ _ => rfl)) (pe_ix ix_tup (pv 1) pe_int (fun _ _ => rfl))) (pe_op op_mulW (pe_ix ix_tup (pv 1) pe_int (fun _ _ => rfl)) (pe_ix ix_tup (pv 0) pe_int (fun _ _ => rfl))) (nomark _)))), ?_⟩
  have ex : Ev (tVar 0) (start ["_law_a", "_law_b"] [v1, v2]) H (pR K x) := ev_v rfl stay_R.mono h1
  have ey : Ev (tVar 1) (start ["_law_a", "_law_b"] [v1, v2]) H (pR K y) := ev_v rfl stay_R.mono h2
  refine one_ret (ev_ltB (ev_mulW (mulw o1.1 (ok_den o2)) (ev_R0 ex) (ev_R1 ey)) (ev_mulW (mulw o2.1 (ok_den o1)) (ev_R0 ey) (ev_R1 ex))) fun v H1 s1 p => q v H1 s1 ?_
  have e : decide (x.num * (y.den : Int) < y.num * (x.den : Int)) = decide (x < y) := decide_eq_decide.mpr (Rat.lt_iff x y).symm
  rw [e] at p
  exact p
theorem d_law_fraction (g : Got K mg "_law_fraction" 70 ["_law_draw"]) (m_int : mg "int" = none) (D__law_low : DefOk P w K mg base 1 "_law_low" ["_law_n", "_law_d"] (spMake K)) : DefOk P w K mg base 2 "_law_fraction" ["_law_draw"] (spFr K) := by
  refine def_of g sc70 (fun _ => rfl) fun fa cdv A outer s0 H vs Q E d hr sd al q => ?_
  cases al with | cons h1 al => cases al with | nil =>
  obtain rfl : _ = V.int (d : Nat) := h1
  refine ⟨_, (pss_one (ps_ret (pe_callD D__law_low hr (by rfl) (pa_cons (pe_op op_sub (pe_op op_mod (pe_callTy call_int1 (by rfl) m_int (by decide +kernel) (pa_cons (pv 0) pa_nil)) pe_int) pe_int) (pa_cons (pe_op op_add pe_int (pe_op op_mod (pe_op op_fdivW (pe_callTy call_int1 (by rfl) m_int (by decide +kernel) (pa_cons (pv 0) pa_nil)) pe_int) pe_int)) pa_nil))))), ?_⟩
  have hd : Ev (tVar 0) (start ["_law_draw"] [.int (d : Nat)]) H (pInt (d : Nat)) := ev_v rfl stay_int.mono rfl
  have w13 : CDivW (d : Nat) 13 := wide_div (b := 4) (by omega) (by decide) (by omega) (by omega)
  have b1 : 0 ≤ (d : Int) % 13 ∧ (d : Int) % 13 < 13 := ⟨Int.emod_nonneg _ (by omega), Int.emod_lt_of_pos _ (by omega)⟩
  have b2 : 0 ≤ (d : Int) / 13 % 4 ∧ (d : Int) / 13 % 4 < 4 := ⟨Int.emod_nonneg _ (by omega), Int.emod_lt_of_pos _ (by omega)⟩
  have okk : Ok (Rat.divInt ((d : Int) % 13 - 6) (1 + (d : Int) / 13 % 4)) := ok_small (k := 4) (by omega) (by omega) (by omega) (by omega)
  refine one_ret (ev_make2 (K := K) (ev_subI (ev_modI (j := 13) (by omega) (ev_intI hd) (ev_int (i := 13))) (ev_int (i := 6))) (ev_addI (ev_int (i := 1)) (ev_modI (j := 4) (by omega) (ev_divI w13 (ev_intI hd) (ev_int (i := 13))) (ev_int (i := 4)))) ⟨by omega, Nat.lt_of_lt_of_le (show (1 + (d : Int) / 13 % 4).natAbs < 2 ^ 4 by omega) (Nat.pow_le_pow_right (by omega) (by omega)), okk⟩) fun v H1 s1 p => q v H1 s1 ⟨_, ⟨_, _, by omega, by omega, by omega, by omega, rfl⟩, p⟩
theorem d_law_discount (g : Got K mg "_law_discount" 71 ["_law_draw"]) (m_int : mg "int" = none) (D__law_low : DefOk P w K mg base 1 "_law_low" ["_law_n", "_law_d"] (spMake K)) : DefOk P w K mg base 2 "_law_discount" ["_law_draw"] (spBd K) := by
  refine def_of g sc71 (fun _ => rfl) fun fa cdv A outer s0 H vs Q E d hr sd al q => ?_
  cases al with | cons h1 al => cases al with | nil =>
  obtain rfl : _ = V.int (d : Nat) := h1
  refine ⟨_, (pss_cons (ps_set (i := 1) sc71.nd rfl (.inl rfl) (pe_op op_add pe_int (pe_op op_mod (pe_callTy call_int1 (by rfl) m_int (by decide +kernel) (pa_cons (pv 0) pa_nil)) pe_int)))
    (pss_one (ps_ret (pe_callD D__law_low hr (by rfl) (pa_cons (pe_op op_mod (pe_op op_fdivW (pe_callTy call_int1 (by rfl) m_int (by decide +kernel) (pa_cons (pv 0) pa_nil)) pe_int) (pv 1)) (pa_cons (pv 1) pa_nil)))))), ?_⟩
  have w9 : CDivW (d : Nat) 9 := wide_div (b := 4) (by omega) (by decide) (by omega) (by omega)
  have b1 : 0 ≤ (d : Int) % 9 ∧ (d : Int) % 9 < 9 := ⟨Int.emod_nonneg _ (by omega), Int.emod_lt_of_pos _ (by omega)⟩
  refine seq_set (ev_addI (ev_int (i := 2)) (ev_modI (j := 9) (by omega) (ev_intI (ev_v (i := 0) (P := pInt (d : Nat)) rfl stay_int.mono rfl)) (ev_int (i := 9)))) fun vq H1 s1 pq => ?_
  have pq : pInt (2 + (d : Int) % 9) vq H1 := pq
  generalize hq : 2 + (d : Int) % 9 = qq at pq
  have b2 : 0 ≤ (d : Int) / 9 % qq ∧ (d : Int) / 9 % qq < qq := ⟨Int.emod_nonneg _ (by omega), Int.emod_lt_of_pos _ (by omega)⟩
  have okk : Ok (Rat.divInt ((d : Int) / 9 % qq) qq) := ok_small (k := 4) (by omega) (by omega) (by omega) (by omega)
  refine one_ret (ev_make2 (K := K) (ev_modI (j := qq) (by omega) (ev_divI w9 (ev_intI (ev_v (i := 0) (P := pInt (d : Nat)) rfl stay_int.mono rfl)) (ev_int (i := 9))) (ev_v (i := 1) (P := pInt qq) rfl stay_int.mono pq)) (ev_v (i := 1) (P := pInt qq) rfl stay_int.mono pq) ⟨by omega, Nat.lt_of_lt_of_le (show qq.natAbs < 2 ^ 4 by omega) (Nat.pow_le_pow_right (by omega) (by omega)), okk⟩) fun v H2 s2 p => q v H2 (s1.trans s2) ⟨_, ⟨_, _, b2.1, b2.2, by omega, by omega, rfl⟩, p⟩
theorem d_law_draws (g : Got K mg "_law_draws" 61 ["_law_cell_here", "_law_count"]) (m_abs : mg "abs" = none) (m_int : mg "int" = none) (m_range : mg "range" = none) : DefOk P w K mg base 1 "_law_draws" ["_law_cell_here", "_law_count"] (spDraws K) := by
  refine def_of g sc61 (fun _ => rfl) fun fa cdv A outer s0 H vs Q E a hr sd al q => ?_
  obtain ⟨c, n⟩ := a
  have hn : n ≤ 900 := sd
  cases al with | cons h1 al => cases al with | cons h2 al => cases al with | nil =>
  obtain rfl : _ = V.int c := h1
  obtain rfl : _ = V.int (n : Nat) := h2
  refine ⟨_, (pss_cons (ps_set (i := 2) sc61.nd rfl (.inl rfl) (pe_callB call_abs (by rfl) m_abs (by decide +kernel) (pa_cons (pe_callTy call_int1 (by rfl) m_int (by decide +kernel) (pa_cons (pv 0) pa_nil)) pa_nil)))
    (pss_cons (ps_set (i := 3) sc61.nd rfl (.inl rfl) (pe_cmpR op_ge (pv 2) (pe_op op_pow pe_int pe_int) (nomark _)))
    (pss_cons (ps_set (i := 4) sc61.nd rfl (.inl rfl) (pv 2))
    (pss_cons (ps_set (i := 5) sc61.nd rfl (.inl rfl) (pe_lst pa_nil))
    (pss_cons (ps_for PassesOwn.never rfl (pi_range1 rfl m_range (pa_cons (pv 1) pa_nil)) (pg_name (i := 6) sc61.nd rfl (.inl rfl))
    (pss_one (ps_if (PW.pt (pw_and (pt_val (pv 3)) (pw_and1 (pt_cmpR op_gt (pv 2) pe_int (nomark _))))) (pss_cons (ps_expr (pe_bm PySem.F.plainAttrs_list PySem.F.slot_list_append PySem.F.type_list_append mt_append (pv 5) (pa_cons (pe_op op_mod (pe_callTy call_int1 (by rfl) m_int (by decide +kernel) (pa_cons (pv 2) pa_nil)) pe_int) pa_nil)))
    (pss_one (ps_set (i := 2) sc61.nd rfl (.inl rfl) (pe_op op_fdivW (pv 2) pe_int)))) (pss_cons (ps_set (i := 7) sc61.nd rfl (.inl rfl) (pe_op op_mod (pe_callTy call_int1 (by rfl) m_int (by decide +kernel) (pa_cons (pe_op op_add (pe_op op_add (pe_op op_mul (pv 4) pe_int) (pe_op op_mul (pe_op op_add (pv 6) pe_int) pe_int)) pe_int) pa_nil)) pe_int))
    (pss_cons (ps_set (i := 7) sc61.nd rfl (.inl rfl) (pe_op op_mod (pe_callTy call_int1 (by rfl) m_int (by decide +kernel) (pa_cons (pe_op op_add (pe_op op_mul (pv 7) (pv 7)) (pe_op op_mul pe_int (pe_op op_add (pv 6) pe_int))) pa_nil)) pe_int))
    (pss_one (ps_expr (pe_bm PySem.F.plainAttrs_list PySem.F.slot_list_append PySem.F.type_list_append mt_append (pv 5) (pa_cons (pe_op op_mod (pe_callTy call_int1 (by rfl) m_int (by decide +kernel) (pa_cons (pe_op op_fdivW (pv 7) pe_int) pa_nil)) pe_int) pa_nil)))))))))
    (pss_one (ps_ret (pv 5)))))))), ?_⟩
  refine seq_set (ev_absI (ev_intI (ev_v (i := 0) (P := pInt c) rfl stay_int.mono rfl))) fun vr H1 s1 pr => ?_
  generalize (if c < 0 then -c else c) = r at pr
  obtain rfl : vr = V.int r := pr
  refine seq_set (ev_geB (ev_v (i := 2) (P := pInt r) rfl stay_int.mono rfl) (ev_powI (i := 10) (j := 18) ⟨by omega, by omega, by decide⟩ (ev_int (i := 10)) (ev_int (i := 18)))) fun vd H2 s2 pd => ?_
  generalize decide ((10 : Int) ^ (18 : Int).toNat ≤ r) = dg at pd
  obtain rfl : vd = V.bl dg := pd
  refine seq_set (ev_v (i := 2) (P := pInt r) rfl stay_int.mono rfl) fun vs1 H3 s3 ps => ?_
  obtain rfl : vs1 = V.int r := ps
  refine seq_nil fun lo no => ?_
  have s03 := s1.trans (s2.trans s3)
  have s04 : Same H (upd H3 lo (.lst [])) := s03.trans (Same.new no)
  have nH : H lo = none := Same.free s03 no
  refine for_R (n := n) (iw_range1 (n := n) (eva_cons (ev_v (i := 1) (P := pInt (n : Nat)) rfl stay_int.mono rfl) stay_int.mono eva_nil) (by omega) _ (Same.refl _)) (fun i σ H' => ∃ (rest : Int) (y6 y7 : Option V) (ds : List Nat), σ = [some (.int c), some (.int (n : Nat)), some (.int rest), some (.bl dg), some (.int r), some (.ref lo), y6, y7] ∧ Same H H' ∧ ds.length = i ∧ (∀ d ∈ ds, d < 5040) ∧ H' lo = some (.lst ((ds.map fun d : Nat => (d : Int)).map V.int)))
    (fun H4 s4 => ⟨r, none, none, [], rfl, s04.trans s4, rfl, fun d h => (nomatch h), s4 _ _ upd_same⟩) ?_ ?_
  · rintro i σ H4 hi ⟨rest, y6, y7, ds, rfl, s4, hl, hd, hlo⟩
    have app : ∀ (d : Int) (ds : List Nat), 0 ≤ d → d < 5040 → (∀ d ∈ ds, d < 5040) → (∀ d' ∈ ds ++ [d.toNat], d' < 5040) ∧ (ds.map fun d : Nat => (d : Int)).map V.int ++ [.int d] = ((ds ++ [d.toNat]).map fun d : Nat => (d : Int)).map V.int := fun d ds h0 h1 hd => by
      refine ⟨fun d' h => ?_, ?_⟩
      · rcases List.mem_append.mp h with h | h
        · exact hd d' h
        · rw [List.mem_singleton.mp h]; omega
      · rw [List.map_append, List.map_append, List.map_singleton, List.map_singleton, Int.toNat_of_nonneg h0]
    have hz : ((ds.map fun d : Nat => (d : Int)).map V.int).length < 1000 := by simp; omega
    refine one_if (b := dg && decide (0 < rest)) (et_and (a := dg) (et_B (ev_v (i := 3) (P := pBl dg) rfl stay_bl.mono rfl)) (fun z => by
      rw [z, Bool.true_and]
      exact et_test (ev_gtB (ev_v (i := 2) (P := pInt rest) rfl stay_int.mono rfl) (ev_int (i := 0)))) (fun z => by rw [z]; rfl)) fun H5 s5 => ?_
    refine ite2 (fun z => ?_) (fun z => ?_)
    · have b1 : 0 ≤ rest % 5040 ∧ rest % 5040 < 5040 := ⟨Int.emod_nonneg _ (by omega), Int.emod_lt_of_pos _ (by omega)⟩
      obtain ⟨a1, a2⟩ := app (rest % 5040) ds b1.1 b1.2 hd
      refine seq_appV (K := K) (j := 5) (l := lo) rfl (s5 _ _ hlo) hz (ev_modI (j := 5040) (by omega) (ev_intI (ev_v (i := 2) (P := pInt rest) rfl stay_int.mono rfl)) (ev_int (i := 5040))) fun vn H6 s6 pn => ?_
      obtain rfl : vn = V.int (rest % 5040) := pn
      refine one_set (ev_divI (i := rest) (j := 5040) (wide_div (b := 13) (by omega) (by decide) (by omega) (by omega)) (ev_v (i := 2) (P := pInt rest) rfl stay_int.mono rfl) (ev_int (i := 5040))) fun vt H7 s7 pt => ?_
      obtain rfl : vt = V.int (rest / 5040) := pt
      exact ⟨_, _, _, ds ++ [(rest % 5040).toNat], rfl, (Same.upd (s4.trans (s5.trans s6)) nH).trans s7, by simp [hl], a1, by rw [s7 _ _ upd_same, a2]⟩
    · refine seq_set (ev_modI (j := 2147483647) (by omega) (ev_intI (ev_addI (ev_addI (ev_mulI (i := r) (j := 48271) (.inr ⟨by omega, by omega⟩) (ev_v (i := 4) (P := pInt r) rfl stay_int.mono rfl) (ev_int (i := 48271))) (ev_mulI (i := 0 + (i : Nat) + 1) (j := 69621) (.inr ⟨by omega, by omega⟩) (ev_addI (ev_v (i := 6) (P := pInt (0 + (i : Nat))) rfl stay_int.mono rfl) (ev_int (i := 1))) (ev_int (i := 69621)))) (ev_int (i := 11)))) (ev_int (i := 2147483647))) fun vm H6 s6 pm => ?_
      have pm : pInt ((r * 48271 + (0 + (i : Int) + 1) * 69621 + 11) % 2147483647) vm H6 := pm
      have b1 : 0 ≤ (r * 48271 + (0 + (i : Int) + 1) * 69621 + 11) % 2147483647 ∧ (r * 48271 + (0 + (i : Int) + 1) * 69621 + 11) % 2147483647 < 2147483647 := ⟨Int.emod_nonneg _ (by omega), Int.emod_lt_of_pos _ (by omega)⟩
      generalize (r * 48271 + (0 + (i : Int) + 1) * 69621 + 11) % 2147483647 = mx at pm b1
      refine seq_set (ev_modI (j := 2147483399) (by omega) (ev_intI (ev_addI (ev_mulI (i := mx) (j := mx) (.inr ⟨by omega, by omega⟩) (ev_v (i := 7) (P := pInt mx) rfl stay_int.mono pm) (ev_v (i := 7) (P := pInt mx) rfl stay_int.mono pm)) (ev_mulI (i := 40692) (j := 0 + (i : Nat) + 3) (.inl ⟨by omega, by omega⟩) (ev_int (i := 40692)) (ev_addI (ev_v (i := 6) (P := pInt (0 + (i : Nat))) rfl stay_int.mono rfl) (ev_int (i := 3)))))) (ev_int (i := 2147483399))) fun vm2 H7 s7 pm2 => ?_
      generalize (mx * mx + 40692 * (0 + (i : Int) + 3)) % 2147483399 = my at pm2
      have b2 : 0 ≤ my / 64 % 5040 ∧ my / 64 % 5040 < 5040 := ⟨Int.emod_nonneg _ (by omega), Int.emod_lt_of_pos _ (by omega)⟩
      obtain ⟨a1, a2⟩ := app (my / 64 % 5040) ds b2.1 b2.2 hd
      refine one_appV (K := K) (j := 5) (l := lo) rfl (s7 _ _ (s6 _ _ (s5 _ _ hlo))) hz (ev_modI (j := 5040) (by omega) (ev_intI (ev_divI (i := my) (j := 64) (wide_div (b := 7) (by omega) (by decide) (by omega) (by omega)) (ev_v (i := 7) (P := pInt my) rfl stay_int.mono pm2) (ev_int (i := 64)))) (ev_int (i := 5040))) fun vn H8 s8 pn => ?_
      obtain rfl : vn = V.int (my / 64 % 5040) := pn
      exact ⟨_, _, _, ds ++ [(my / 64 % 5040).toNat], rfl, Same.upd (s4.trans (s5.trans (s6.trans (s7.trans s8)))) nH, by simp [hl], a1, by rw [upd_same, a2]⟩
  · rintro σ H4 ⟨rest, y6, y7, ds, rfl, s4, hl, hd, hlo⟩
    refine one_ret (ev_v (i := 5) (P := pDraws K n) rfl mono_draws ⟨ds, hl, hd, lo, _, rfl, .of hlo, al_of_nats ds⟩) fun v H5 s5 p => q v H5 (s4.trans s5) p
end
end AC
end
section
/-! What the law draws: games and discounts of small numbers (plain). -/
namespace AC
/-- E clears x -/
def Cl (E : Nat) (x : Rat) : Prop := ∃ z : Int, x * (E : Rat) = (z : Rat)
def RB : Rat := ((7 * 10 ^ 30 : Int) : Rat)
structure RwK (x : Rat) : Prop where
  cl : Cl 12 x
  lo : -RB ≤ x
  hi : x ≤ RB
structure RowK (n : Nat) (row : List (Nat × Rat)) : Prop where
  ok : RowOk n row
  cl : ∃ S : Nat, 1 ≤ S ∧ S ≤ 15 ∧ ∀ tp ∈ row, Cl S tp.2
structure GmK (g : Game) : Prop where
  pos : 0 < g.n
  len : g.mov.length = g.n
  le : g.n ≤ 5
  rw : ∀ s, s < g.n → RwK (g.r s)
  row : ∀ s, s < g.n → RowK g.n (g.row s)
theorem GmK.ok {g : Game} (h : GmK g) : GameOk g := ⟨h.pos, h.len, fun s hs => (h.row s hs).ok⟩
theorem divInt_mul {n d : Int} (hd : d ≠ 0) : Rat.divInt n d * (d : Rat) = (n : Rat) := by
  have h : (d : Rat) ≠ 0 := by
    intro z
    exact hd (by exact_mod_cast z)
  rw [Rat.divInt_eq_div, Rat.div_def, Rat.mul_assoc, Rat.inv_mul_cancel _ h, Rat.mul_one]
theorem cl_divInt {n : Int} {d : Nat} (hd : 0 < d) : Cl d (Rat.divInt n (d : Int)) := ⟨n, by
  have := divInt_mul (n := n) (d := (d : Int)) (by omega)
  exact this⟩
theorem Cl.mul {E k : Nat} {x : Rat} (h : Cl E x) : Cl (E * k) x := by
  obtain ⟨z, e⟩ := h
  refine ⟨z * (k : Int), ?_⟩
  have : ((E * k : Nat) : Rat) = (E : Rat) * (k : Rat) := by exact_mod_cast rfl
  rw [this, ← Rat.mul_assoc, e]
  exact_mod_cast rfl
/-- the weights as a row -/
def wrow (n : Nat) (w : Nat → Nat) (S : Nat) : List (Nat × Rat) := ((List.range n).filter fun t => decide (0 < w t)).map fun t => (t, Rat.divInt (w t : Int) (S : Int))
theorem wrow_sum {w : Nat → Nat} {S : Nat} (hS : 0 < S) : ∀ l : List Nat, ex ((l.filter fun t => decide (0 < w t)).map fun t => (t, Rat.divInt (w t : Int) (S : Int))) (fun _ => 1) = Rat.divInt (((l.map w).sum : Nat) : Int) (S : Int)
  | [] => by simp [ex]
  | t :: l => by
    have ih := wrow_sum (w := w) hS l
    rw [List.map_cons, List.sum_cons]
    have key : Rat.divInt ((w t + (l.map w).sum : Nat) : Int) (S : Int) = Rat.divInt (w t : Int) (S : Int) + Rat.divInt (((l.map w).sum : Nat) : Int) (S : Int) := by
      rw [Rat.divInt_eq_div, Rat.divInt_eq_div, Rat.divInt_eq_div, Rat.div_def, Rat.div_def, Rat.div_def, ← Rat.add_mul]
      congr 1
      exact_mod_cast rfl
    rw [key, ← ih]
    by_cases c : 0 < w t
    · rw [List.filter_cons_of_pos (by simpa using c), List.map_cons]
      simp only [ex]; grind
    · rw [List.filter_cons_of_neg (by simpa using c)]
      have e0 : w t = 0 := by omega
      have e1 : Rat.divInt (w t : Int) (S : Int) = 0 := by rw [e0]; exact Rat.zero_divInt _
      rw [e1, Rat.zero_add]
theorem wrow_ok {n : Nat} {w : Nat → Nat} {S : Nat} (hS : 0 < S) (hs : ((List.range n).map w).sum = S) (h15 : S ≤ 15) : RowK n (wrow n w S) := by
  refine ⟨⟨fun tp h => ?_, fun tp h => ?_, ?_⟩, S, hS, h15, fun tp h => ?_⟩
  · obtain ⟨t, ht, rfl⟩ := List.mem_map.mp h
    exact List.mem_range.mp ((List.mem_filter.mp ht).1)
  · obtain ⟨t, ht, rfl⟩ := List.mem_map.mp h
    exact Rat.divInt_nonneg (by omega) (by omega)
  · unfold wrow
    rw [wrow_sum hS, hs, Rat.divInt_self' (by omega)]
  · obtain ⟨t, ht, rfl⟩ := List.mem_map.mp h
    exact cl_divInt hS
theorem sum_le {w : Nat → Nat} {c : Nat} (h : ∀ t, w t ≤ c) : ∀ l : List Nat, (l.map w).sum ≤ c * l.length
  | [] => by simp
  | t :: l => by
    have := sum_le h l
    have := h t
    simp only [List.map_cons, List.sum_cons, List.length_cons, Nat.mul_add]; omega
end AC
end
section
set_option maxRecDepth 100000
set_option exponentiation.threshold 20000
/-! The walk: a game as the law draws it. -/
namespace AC
open PySem PySem.Spec PyProof.Rows L2 ACD
variable {K : PySem.W.Frag}
section
variable {σ : L2.St} {H : Hp} {te : TE} {tt : TT}
theorem ev_sum {ta : TE} {ns : List Int} (ha : Ev ta σ H (pLst K (ns.map pInt))) : Ev (tCB (rSum K) (tCons ta tNil)) σ H (pInt ns.sum) := fun H1 e Q q =>
  ha H1 e _ fun v H2 s2 ⟨p, vs, ev, sq, al⟩ => by
    have := al.ints
    subst this
    exact ⟨p, ns, by rw [ev], sq, q _ H2 s2 rfl⟩
/-- [te for i0 in range(lo, lo + n)], a new list -/
theorem lcR_new {wi : TI} {i0 n : Nat} {lo : Int} {Rs : List VP} {Q : VK} (hw : ∀ H1, Same H H1 → ∀ R : It → Hp → Prop, (∀ H2, Same H1 H2 → R (Itr lo n) H2) → wi σ H1 R) (hlen : Rs.length = n) (sR : ∀ R ∈ Rs, Stay R) (hle : Rs.length ≤ 1000)
    (he : ∀ (j : Nat) (R : VP) (H' : Hp), Rs[j]? = some R → Same H H' → Ev te ((wipe σ [i0]).set i0 (some (.int (lo + (j : Nat))))) H' R)
    (q : ∀ D vs H3, Same H H3 → H D = none → H3 D = some (.lst vs) → Al H3 vs Rs → Q (.ref D) H3) : tLc wi (gName i0) tYes te [i0] σ H Q := by
  refine hw H (Same.refl H) _ fun H2 s2 D hD => ?_
  have hDH : H D = none := Same.free s2 hD
  refine lc_range (lo := lo) (n := n) (Made H D Rs) (made_nil s2 hD) (fun i H3 hi m => ?_) fun H3 m => ?_
  · refine ⟨wipe1 _ _ _, ?_⟩
    show te _ H3 _
    obtain ⟨R, hR⟩ := get_of_lt (l := Rs) (i := i) (by omega)
    refine he i R H3 hR m.1 H3 (Same.refl H3) _ fun v H4 s4 p => ?_
    exact made_step m hDH sR hR s4 p hle
  · subst hlen
    obtain ⟨m1, vs, m2, m3⟩ := m
    rw [List.take_length] at m3
    exact q D vs H3 m1 hDH m2 m3
/-- [te for i0 in range(n) if tt] -/
theorem ev_lcRF {wi : TI} {i0 n : Nat} {R : Nat → VP} {p : Nat → Bool} (hw : ∀ H1, Same H H1 → ∀ R : It → Hp → Prop, (∀ H2, Same H1 H2 → R (Itr 0 n) H2) → wi σ H1 R) (sR : ∀ j, Stay (R j)) (hle : n ≤ 1000)
    (ht : ∀ (j : Nat) (H' : Hp), j < n → Same H H' → EvT tt ((wipe σ [i0]).set i0 (some (.int (0 + (j : Nat))))) H' (p j))
    (he : ∀ (j : Nat) (H' : Hp), j < n → p j = true → Same H H' → Ev te ((wipe σ [i0]).set i0 (some (.int (0 + (j : Nat))))) H' (R j)) : Ev (tLc wi (gName i0) tt te [i0]) σ H (pOwn (((List.range n).filter p).map R)) := fun H1 e Q q => by
  refine hw H1 e _ fun H2 s2 D hD => ?_
  have hDH1 : H1 D = none := Same.free s2 hD
  refine lc_range (lo := 0) (n := n) (fun i H' => Same H1 H' ∧ ∃ vs, H' D = some (.lst vs) ∧ Al H' vs (((List.range i).filter p).map R)) ⟨s2.trans (Same.new hD), [], upd_same, .nil⟩ (fun i H3 hi m => ?_) fun H3 m => ?_
  · obtain ⟨s3, vs, hD3, al⟩ := m
    refine ⟨wipe1 _ _ _, ?_⟩
    refine ht i H3 hi (e.trans s3) H3 (Same.refl H3) _ fun H4 s4 => ?_
    have al4 : Al H4 vs (((List.range i).filter p).map R) := al.imp fun P hP v hv => stay_map sR P hP v _ _ (Same.stb s4) hv
    have er : (List.range (i + 1)).filter p = (List.range i).filter p ++ if p i = true then [i] else [] := by
      rw [List.range_succ, List.filter_append]
      congr 1
      by_cases c : p i = true
      · rw [if_pos c, List.filter_cons_of_pos c]; rfl
      · rw [if_neg c, List.filter_cons_of_neg c]; rfl
    refine ite2 (fun c => ?_) (fun c => ?_)
    · refine he i H4 hi c (e.trans (s3.trans s4)) H4 (Same.refl H4) _ fun v H5 s5 pv => ?_
      have hD5 := s5 _ _ (s4 _ _ hD3)
      have stw : Stb H5 (upd H5 D (.lst (vs ++ [v]))) := Stb.lst hD5
      have lv : vs.length ≤ i := by
        rw [al.len, List.length_map]
        exact Nat.le_trans (List.length_filter_le _ _) (by simp)
      refine ⟨vs, hD5, small1000 (by omega), Same.upd (s3.trans (s4.trans s5)) hDH1, vs ++ [v], upd_same, ?_⟩
      rw [er, if_pos c, List.map_append]
      exact (al4.imp fun P hP v hv => stay_map sR P hP v _ _ ((Same.stb s5).trans stw) hv).app (.one (sR i _ _ _ stw pv))
    · refine ⟨s3.trans s4, vs, s4 _ _ hD3, ?_⟩
      rw [er, if_neg c, List.append_nil]
      exact al4
  · obtain ⟨s3, vs, hD3, al⟩ := m
    exact q _ H3 s3 ⟨D, vs, rfl, hD3, al⟩
end
def spGm (K : PySem.W.Frag) : Sp := Spc (fun a : Int × Nat => [pInt a.1, pInt (a.2 : Nat)]) (fun a => 1 ≤ a.2 ∧ a.2 ≤ 5) fun a v H => ∃ g, GmK g ∧ g.n ≤ a.2 ∧ pGame K g v H
theorem low_dvd {n d : Int} (hd : 0 < d) : ∃ k : Nat, ((Rat.divInt n d).den : Int) * k = d := by
  refine ⟨Nat.gcd n.natAbs d.natAbs, ?_⟩
  rw [← low_den hd]
  have h : ((Nat.gcd n.natAbs d.natAbs : Nat) : Int) ∣ d := Int.dvd_natAbs.mp (Int.natCast_dvd_natCast.mpr (Nat.gcd_dvd_right _ _))
  exact Int.ediv_mul_cancel h
theorem cl12 {x : Rat} {d : Int} (h1 : 1 ≤ d) (h2 : d ≤ 4) {k : Nat} (e : (x.den : Int) * k = d) : ∃ j : Nat, x.den * j = 12 := by
  have : x.den * k = d.toNat := by
    have : ((x.den * k : Nat) : Int) = d := by exact_mod_cast e
    omega
  rcases (show d = 1 ∨ d = 2 ∨ d = 3 ∨ d = 4 by omega) with rfl | rfl | rfl | rfl
  · exact ⟨k * 12, by rw [← Nat.mul_assoc, this]; rfl⟩
  · exact ⟨k * 6, by rw [← Nat.mul_assoc, this]; rfl⟩
  · exact ⟨k * 4, by rw [← Nat.mul_assoc, this]; rfl⟩
  · exact ⟨k * 3, by rw [← Nat.mul_assoc, this]; rfl⟩
theorem rat_le {a b : Int} (h : a ≤ b) : (a : Rat) ≤ (b : Rat) := by exact_mod_cast h
theorem divInt_le {N d : Int} {B : Int} (hd : 1 ≤ d) (h1 : -B ≤ N) (h2 : N ≤ B) : -(B : Rat) ≤ Rat.divInt N d ∧ Rat.divInt N d ≤ (B : Rat) := by
  have e := divInt_mul (n := N) (d := d) (by omega)
  have hB : 0 ≤ B := by omega
  have d1 : (1 : Rat) ≤ (d : Rat) := by exact_mod_cast hd
  have B0 : (0 : Rat) ≤ (B : Rat) := by exact_mod_cast hB
  have n1 : -(B : Rat) ≤ (N : Rat) := by exact_mod_cast h1
  have n2 : (N : Rat) ≤ (B : Rat) := by exact_mod_cast h2
  generalize Rat.divInt N d = x at *
  constructor
  · by_cases c : -(B : Rat) ≤ x
    · exact c
    · exfalso
      have c : x < -(B : Rat) := by grind
      have x0 : x ≤ 0 := by grind
      -- x d <= x
      have := Rat.mul_le_mul_of_nonneg_left (show (0 : Rat) ≤ (d : Rat) - 1 by grind) (show (0 : Rat) ≤ -x by grind)
      grind
  · by_cases c : x ≤ (B : Rat)
    · exact c
    · exfalso
      have c : (B : Rat) < x := by grind
      have := Rat.mul_le_mul_of_nonneg_left (show (0 : Rat) ≤ (d : Rat) - 1 by grind) (show (0 : Rat) ≤ x by grind)
      grind
theorem rwk {N : Int} {d : Nat} (hd : 1 ≤ d) (h1 : -(7 * 10 ^ 30) ≤ N) (h2 : N ≤ 7 * 10 ^ 30) (hj : ∃ j, d * j = 12) : RwK (Rat.divInt N d) := by
  obtain ⟨j, e⟩ := hj
  have h := divInt_le (N := N) (d := (d : Int)) (B := 7 * 10 ^ 30) (by omega) h1 h2
  have eB : (((7 * 10 ^ 30 : Int)) : Rat) = RB := rfl
  rw [eB] at h
  refine ⟨?_, h.1, h.2⟩
  rw [← e]
  exact (cl_divInt hd).mul
theorem sc72 : FnScope ["_law_cell_here", "_law_most", "_law_draws_here", "_law_n", "_law_rewards", "_law_s", "_law_reward", "_law_moves", "_law_weights", "_law_t"] ["_law_cell_here", "_law_most"] (defScope (topS 72)) := ⟨rfl, rfl, rfl, by decide +kernel, rfl, by decide +kernel, by decide +kernel⟩
section
variable {P : Program} {w : World} {mg : Str → Option Value} {base : Heap}
theorem ev_draw {σ : L2.St} {H : Hp} {tl ti : TE} {ds : List Nat} {i : Nat} {j : Int} (hl : Ev tl σ H (pLst K (ds.map fun d : Nat => pInt (d : Int)))) (hi : Ev ti σ H (pInt j)) (e : j = i) (h : i < ds.length) : Ev (tOp (rIxL K) tl ti) σ H (pInt ((ds.getD i 0 : Nat) : Int)) :=
  ev_ixL (K := K) (i := i) (Ps := ds.map fun d : Nat => pInt (d : Int)) hl hi e (map_get (getD_get h)) (st_ints ds)
set_option maxHeartbeats 2000000 in
theorem d_law_game (g : Got K mg "_law_game" 72 ["_law_cell_here", "_law_most"]) (m_int : mg "int" = none) (m_range : mg "range" = none) (m_sum : mg "sum" = none) (m_tuple : mg "tuple" = none) (D__law_draws : DefOk P w K mg base 1 "_law_draws" ["_law_cell_here", "_law_count"] (spDraws K))
    (D__law_fraction : DefOk P w K mg base 2 "_law_fraction" ["_law_draw"] (spFr K)) (D__law_low : DefOk P w K mg base 1 "_law_low" ["_law_n", "_law_d"] (spMake K)) : DefOk P w K mg base 3 "_law_game" ["_law_cell_here", "_law_most"] (spGm K) := by
  refine def_of g sc72 (fun _ => rfl) fun fa cdv A outer s0 H vs Q E a hr sd al q => ?_
  obtain ⟨c, mo⟩ := a
  obtain ⟨m1, m5⟩ := sd
  have m1 : 1 ≤ mo := m1
  have m5 : mo ≤ 5 := m5
  cases al with | cons h1 al => cases al with | cons h2 al => cases al with | nil =>
  obtain rfl : _ = V.int c := h1
  obtain rfl : _ = V.int (mo : Nat) := h2
  refine ⟨_, (pss_cons (ps_set (i := 2) sc72.nd rfl (.inr rfl) (pe_callD D__law_draws (hr.mono (by decide)) (by rfl) (pa_cons (pv 0) (pa_cons (pe_op op_add (pe_op op_add pe_int (pv 1)) (pe_op op_mul (pv 1) (pv 1))) pa_nil))))
    (pss_cons (ps_set (i := 3) sc72.nd rfl (.inr rfl) (pe_op op_add pe_int (pe_op op_mod (pe_callTy call_int1 (by rfl) m_int (by decide +kernel) (pa_cons (pe_ix ix_list (pv 2) pe_int (fun _ _ => rfl)) pa_nil)) (pv 1))))
    (pss_cons (ps_set (i := 4) sc72.nd rfl (.inl rfl) (pe_lst pa_nil))
    (pss_cons (ps_for PassesOwn.never rfl (pi_range1 rfl m_range (pa_cons (pv 3) pa_nil)) (pg_name (i := 5) sc72.nd rfl (.inr rfl))
    (pss_cons (ps_set (i := 6) sc72.nd rfl (.inl rfl) (pe_callD D__law_fraction (hr.mono (by decide)) (by rfl) (pa_cons (pe_ix ix_list (pv 2) (pe_op op_add pe_int (pv 5)) (fun _ _ => rfl)) pa_nil)))
    (pss_cons (ps_if (pt_cmpR op_eq (pe_op op_mod (pe_callTy call_int1 (by rfl) m_int (by decide +kernel) (pa_cons (pe_ix ix_list (pv 2) pe_int (fun _ _ => rfl)) pa_nil)) pe_int) pe_int (nomark _)) (pss_one (ps_set (i := 6) sc72.nd rfl (.inl rfl) (pe_callD D__law_low (hr.mono (by decide)) (by rfl) (pa_cons (pe_op op_add (pe_op op_mulW (pe_ix ix_tup (pv 6) pe_int (fun _ _ => rfl)) (pe_op op_pow pe_int pe_int)) (pe_op op_mod (pe_callTy call_int1 (by rfl) m_int (by decide +kernel) (pa_cons (pv 0) pa_nil)) (pe_op op_pow pe_int pe_int))) (pa_cons (pe_ix ix_tup (pv 6) pe_int (fun _ _ => rfl)) pa_nil))))) pss_nil)
    (pss_one (ps_expr (pe_bm PySem.F.plainAttrs_list PySem.F.slot_list_append PySem.F.type_list_append mt_append (pv 4) (pa_cons (pv 6) pa_nil)))))))
    (pss_cons (ps_set (i := 7) sc72.nd rfl (.inl rfl) (pe_lst pa_nil))
    (pss_cons (ps_for PassesOwn.never rfl (pi_range1 rfl m_range (pa_cons (pv 3) pa_nil)) (pg_name (i := 5) sc72.nd rfl (.inr rfl))
    (pss_cons (ps_set (i := 8) sc72.nd rfl (.inr rfl) (pe_lc (own := [("_law_t", 9)]) rfl sc72.nd (pi_range1 rfl m_range (pa_cons (pv 3) pa_nil)) (blkOk_by (N := ["_law_cell_here", "_law_most", "_law_draws_here", "_law_n", "_law_rewards", "_law_s", "_law_reward", "_law_moves", "_law_weights", "_law_t"]) (sc := defScope (topS 72)) (by decide +kernel)) (fun _ _ _ _ _ => (pg_name (i := 9) sc72.nd rfl (Or.inl rfl))) (fun _ _ _ _ _ => pts_nil) (fun _ _ _ _ _ => (pe_op op_mod (pe_callTy call_int1 (by rfl) m_int (by decide +kernel) (pa_cons (pe_ixL (K := K) rfl (pv 2) (pe_op op_add (pe_op op_add (pe_op op_add pe_int (pv 3)) (pe_op op_mul (pv 3) (pv 5))) (pv 9)) (fun _ _ => rfl)) pa_nil)) pe_int))))
    (pss_cons (ps_if (pt_cmpR op_eq (pe_callB (cr_sum rfl) (by rfl) m_sum (by decide +kernel) (pa_cons (pv 8) pa_nil)) pe_int (nomark _)) (pss_one (ps_asg pe_int (pg_sub (pv 8) (pe_op op_mod (pe_callTy call_int1 (by rfl) m_int (by decide +kernel) (pa_cons (pe_op op_add (pv 5) pe_int) pa_nil)) (pv 3)) set_list))) pss_nil)
    (pss_one (ps_expr (pe_bm PySem.F.plainAttrs_list PySem.F.slot_list_append PySem.F.type_list_append mt_append (pv 7) (pa_cons (pe_callTy call_tuple_of (by rfl) m_tuple (by decide +kernel) (pa_cons (pe_lc (own := [("_law_t", 9)]) rfl sc72.nd (pi_range1 rfl m_range (pa_cons (pv 3) pa_nil)) (blkOk_by (N := ["_law_cell_here", "_law_most", "_law_draws_here", "_law_n", "_law_rewards", "_law_s", "_law_reward", "_law_moves", "_law_weights", "_law_t"]) (sc := defScope (topS 72)) (by decide +kernel)) (fun _ _ _ _ _ => (pg_name (i := 9) sc72.nd rfl (Or.inl rfl))) (fun _ _ _ _ _ => (pts_one (pt_cmpR op_gt (pe_ixL (K := K) rfl (pv 8) (pv 9) (fun _ _ => rfl)) pe_int (nomark _)))) (fun _ _ _ _ _ => (pe_tup (pa_cons (pv 9) (pa_cons (pe_callD D__law_low (hr.mono (by decide)) (by rfl) (pa_cons (pe_ixL (K := K) rfl (pv 8) (pv 9) (fun _ _ => rfl)) (pa_cons (pe_callB (call_sumK (K := K) rfl rfl) (by rfl) m_sum (by decide +kernel) (pa_cons (pv 8) pa_nil)) pa_nil))) pa_nil))))) pa_nil)) pa_nil)))))))
    (pss_one (ps_ret (pe_tup (pa_cons (pe_callTy call_tuple_of (by rfl) m_tuple (by decide +kernel) (pa_cons (pv 4) pa_nil)) (pa_cons (pe_callTy call_tuple_of (by rfl) m_tuple (by decide +kernel) (pa_cons (pv 7) pa_nil)) pa_nil))))))))))), ?_⟩
  have mm : mo * mo ≤ 25 := Nat.le_trans (Nat.mul_le_mul m5 m5) (by omega)
  -- draws
  refine seq_set (ev_call (args := fun a : Int × Nat => [pInt a.1, pInt (a.2 : Nat)]) (side := fun a => a.2 ≤ 900) (post := fun a => pDraws K a.2) (c, 2 + mo + mo * mo) (show 2 + mo + mo * mo ≤ 900 by omega) (eva_cons (ev_v (i := 0) (P := pInt c) rfl stay_int.mono rfl) stay_int.mono (eva_cons (P := pInt ((2 + mo + mo * mo : Nat) : Int)) ((ev_addI (ev_addI (ev_int (i := 2)) (ev_v (i := 1) (P := pInt (mo : Nat)) rfl stay_int.mono rfl)) (ev_mulI (i := (mo : Nat)) (j := (mo : Nat)) (.inl ⟨by omega, by omega⟩) (ev_v (i := 1) (P := pInt (mo : Nat)) rfl stay_int.mono rfl) (ev_v (i := 1) (P := pInt (mo : Nat)) rfl stay_int.mono rfl))).imp fun v H' _ p => by
      have e : (2 : Int) + (mo : Nat) + (mo : Nat) * (mo : Nat) = ((2 + mo + mo * mo : Nat) : Int) := by
        rw [Int.natCast_add, Int.natCast_add, Int.natCast_mul]; rfl
      rw [e] at p
      exact p) stay_int.mono eva_nil))) fun vd H1 s1 pd => ?_
  obtain ⟨ds, dl, dlt, pd⟩ := pd
  have dl : ds.length = 2 + mo + mo * mo := dl
  have moD : Mono (pLst K (ds.map fun d : Nat => pInt (d : Int))) := mono_lst fun P hP => (st_ints ds P hP).mono
  -- n
  refine seq_set (ev_addI (ev_int (i := 1)) (ev_modI (j := (mo : Nat)) (by omega) (ev_intI (ev_draw (K := K) (i := 0) (ev_v (i := 2) rfl moD pd) (ev_int (i := 0)) rfl (by omega))) (ev_v (i := 1) (P := pInt (mo : Nat)) rfl stay_int.mono rfl))) fun vn H2 s2 pn => ?_
  obtain ⟨n, hn1, hn2, en⟩ : ∃ n : Nat, 1 ≤ n ∧ n ≤ mo ∧ (1 : Int) + ((ds.getD 0 0 : Nat) : Int) % (mo : Nat) = (n : Nat) := by
    have hlt := Nat.mod_lt (ds.getD 0 0) (show 0 < mo by omega)
    exact ⟨1 + ds.getD 0 0 % mo, by omega, by omega, by rw [← Int.natCast_emod]; omega⟩
  have pn : pInt (1 + ((ds.getD 0 0 : Nat) : Int) % (mo : Nat)) vn H2 := pn
  rw [en] at pn
  obtain rfl : vn = V.int (n : Nat) := pn
  have nn : n * n ≤ mo * mo := Nat.mul_le_mul hn2 hn2
  -- rewards
  refine seq_nil fun lr nr => ?_
  have s02 := s1.trans s2
  have nrH : H lr = none := Same.free s02 nr
  have sR0 : Same H1 (upd H2 lr (.lst [])) := s2.trans (Same.new nr)
  refine for_R (n := n) (iw_range1 (n := n) (eva_cons (ev_v (i := 3) (P := pInt (n : Nat)) rfl stay_int.mono rfl) stay_int.mono eva_nil) (by omega) _ (Same.refl _)) (fun i σ H' => ∃ (y5 y6 : Option V) (us : List V) (rs : List Rat), σ = [some (.int c), some (.int (mo : Nat)), some vd, some (.int (n : Nat)), some (.ref lr), y5, y6, none, none, none] ∧ Same H H' ∧ Same H2 H' ∧ H' lr = some (.lst us) ∧ Al H' us (rs.map (pR K)) ∧ rs.length = i ∧ ∀ x ∈ rs, RwK x)
    (fun H3 s3 => ⟨none, none, [], [], rfl, s02.trans ((Same.new nr).trans s3), (Same.new nr).trans s3, s3 _ _ upd_same, .nil, rfl, fun x h => nomatch h⟩) ?_ ?_
  · rintro i σ H3 hi ⟨y5, y6, us, rs, rfl, s3, s23, hu, au, lrs, hrs⟩
    have lu := au.len
    rw [List.length_map] at lu
    refine seq_set (ev_call (args := fun d : Nat => [pInt (d : Int)]) (side := fun _ => True) (post := fun _ v H => ∃ x, FrK x ∧ pR K x v H) (ds.getD (2 + i) 0) trivial (eva_cons (ev_draw (K := K) (i := 2 + i) (ev_v (i := 2) rfl moD (moD _ _ _ (s2.trans s23) pd)) (ev_addI (ev_int (i := 2)) (ev_v (i := 5) (P := pInt (0 + (i : Nat))) rfl stay_int.mono rfl)) (by omega) (by omega)) stay_int.mono eva_nil)) fun vx H4 s4 px => ?_
    obtain ⟨x, ⟨fn, fd, f1, f2, f3, f4, ex⟩, px⟩ := px
    have okx : Ok x := by obtain ⟨_, _, _, o⟩ := px; exact o
    obtain ⟨kk, ek⟩ := low_dvd (n := fn) (d := fd) (by omega)
    rw [← ex] at ek
    have hj := cl12 f3 f4 ek
    have xn : -6 ≤ x.num ∧ x.num ≤ 6 := by
      have := low_num (n := fn) (d := fd) (by omega)
      rw [← ex] at this
      rw [← this]
      have h := Int.natAbs_ediv_le_natAbs fn ((Nat.gcd fn.natAbs fd.natAbs : Nat) : Int)
      omega
    have xd : 1 ≤ x.den := x.den_pos
    have xe : Rat.divInt x.num x.den = x := Rat.num_divInt_den x
    have xdle : x.den ≤ 12 := by obtain ⟨j, e⟩ := hj; exact Nat.le_of_dvd (by omega) ⟨j, e.symm⟩
    refine seq_if (b := decide (((ds.getD 1 0 : Nat) : Int) % 8 = 1)) (et_test (ev_eqI (ev_modI (j := 8) (by omega) (ev_intI (ev_draw (K := K) (i := 1) (ev_v (i := 2) rfl moD (moD _ _ _ (s2.trans (s23.trans s4)) pd)) (ev_int (i := 1)) rfl (by omega))) (ev_int (i := 8))) (ev_int (i := 1)))) fun H5 s5 => ?_
    have fin : ∀ (y : Rat) (vy : V) (H6 : Hp), Same H5 H6 → pR K y vy H6 → RwK y → tDrop (tBM K "list" rAppend (tVar 4) (tCons (tVar 6) tNil)) { nx := (fun σ H' => ∃ (y5 y6 : Option V) (us : List V) (rs : List Rat), σ = [some (.int c), some (.int (mo : Nat)), some vd, some (.int (n : Nat)), some (.ref lr), y5, y6, none, none, none] ∧ Same H H' ∧ Same H2 H' ∧ H' lr = some (.lst us) ∧ Al H' us (rs.map (pR K)) ∧ rs.length = i + 1 ∧ ∀ x ∈ rs, RwK x), rt := Q } [some (.int c), some (.int (mo : Nat)), some vd, some (.int (n : Nat)), some (.ref lr), some (.int (0 + (i : Nat))), some vy, none, none, none] H6 := fun y vy H6 s6 py ky => by
      have s36 := s4.trans (s5.trans s6)
      refine one_appV (K := K) (j := 4) (l := lr) rfl (s36 _ _ hu) (by omega) (ev_v (i := 6) rfl stay_R.mono py) fun v H7 s7 pv => ?_
      have hu7 := s7 _ _ (s36 _ _ hu)
      have stw : Stb H7 (upd H7 lr (.lst (us ++ [v]))) := Stb.lst hu7
      refine ⟨_, _, us ++ [v], rs ++ [y], rfl, Same.upd (s3.trans (s36.trans s7)) nrH, Same.upd (s23.trans (s36.trans s7)) nr, upd_same, ?_, by simp [lrs], fun z hz => ?_⟩
      · rw [List.map_append]
        exact (au.imp fun P hP v hv => stay_map (fun _ => stay_R) P hP v _ _ ((Same.stb (s36.trans s7)).trans stw) hv).app (.one (stay_R _ _ _ stw pv))
      · rcases List.mem_append.mp hz with h | h
        · exact hrs z h
        · rw [List.mem_singleton.mp h]; exact ky
    refine ite2 (fun z => ?_) (fun z => ?_)
    · have px5 := stay_R.mono _ _ _ s5 px
      have b1 : 0 ≤ c % 10 ^ 30 ∧ c % 10 ^ 30 < 10 ^ 30 := ⟨Int.emod_nonneg _ (by decide), Int.emod_lt_of_pos _ (by decide)⟩
      have hN : -(7 * 10 ^ 30) ≤ x.num * 10 ^ 30 + c % 10 ^ 30 ∧ x.num * 10 ^ 30 + c % 10 ^ 30 ≤ 7 * 10 ^ 30 := by
        generalize c % 10 ^ 30 = r at b1
        have e30 : (10 : Int) ^ 30 = 1000000000000000000000000000000 := by decide
        rw [e30] at b1 ⊢
        omega
      have okk : Ok (Rat.divInt (x.num * 10 ^ 30 + c % 10 ^ 30) x.den) := ok_small (k := 104) (by omega) (by
        have e : (7 * 10 ^ 30 : Int) < 2 ^ 104 := by decide
        generalize x.num * 10 ^ 30 + c % 10 ^ 30 = N at hN
        have e2 : (2 : Int) ^ 104 = 20282409603651670423947251286016 := by decide
        have e3 : (2 : Nat) ^ 104 = 20282409603651670423947251286016 := by decide
        have e30 : (7 * 10 ^ 30 : Int) = 7000000000000000000000000000000 := by decide
        rw [e30] at hN
        omega) (by
        have e3 : (2 : Nat) ^ 104 = 20282409603651670423947251286016 := by decide
        omega) (by omega)
      have e30 : (30 : Int).toNat = 30 := rfl
      refine one_set (ev_make2 (K := K) (i := x.num * 10 ^ 30 + c % 10 ^ 30) (j := (x.den : Int)) (ev_addI (ev_mulW (i := x.num) (j := 10 ^ 30) (mulw okx.1 (Nat.lt_of_lt_of_le (show ((10 : Int) ^ 30).natAbs < 2 ^ 100 by decide) (Nat.pow_le_pow_right (by omega) (by omega)))) (ev_R0 (ev_v (i := 6) rfl stay_R.mono px5)) (ev_powI (i := 10) (j := 30) ⟨by omega, by omega, by decide⟩ (ev_int (i := 10)) (ev_int (i := 30)))) (ev_modI (j := 10 ^ 30) (by decide) (ev_intI (ev_v (i := 0) (P := pInt c) rfl stay_int.mono rfl)) (ev_powI (i := 10) (j := 30) ⟨by omega, by omega, by decide⟩ (ev_int (i := 10)) (ev_int (i := 30))))) (ev_R1 (ev_v (i := 6) rfl stay_R.mono px5))
        ⟨by omega, Nat.lt_of_lt_of_le (ok_den okx) (Nat.pow_le_pow_right (by omega) (by omega)), okk⟩) fun vy H6 s6 py => ?_
      exact fin _ vy H6 s6 py (rwk xd hN.1 hN.2 hj)
    · refine fin x vx H5 (Same.refl _) (stay_R.mono _ _ _ s5 px) ?_
      rw [← xe]
      have e30 : (7 * 10 ^ 30 : Int) = 7000000000000000000000000000000 := by decide
      exact rwk xd (by rw [e30]; omega) (by rw [e30]; omega) hj
  rintro σ H3 ⟨y5, y6, us, rs, rfl, s3, s23, hu, au, lrs, hrs⟩
  -- moves
  refine seq_nil fun lm nm => ?_
  have nmH : H lm = none := Same.free s3 nm
  have nm2 : H2 lm = none := Same.free s23 nm
  have nlr : lr ≠ lm := fun e => by rw [e, nm] at hu; cases hu
  have hu0 : upd H3 lm (.lst []) lr = some (.lst us) := by rw [upd_ne nlr]; exact hu
  refine for_R (n := n) (iw_range1 (n := n) (eva_cons (ev_v (i := 3) (P := pInt (n : Nat)) rfl stay_int.mono rfl) stay_int.mono eva_nil) (by omega) _ (Same.refl _)) (fun i σ H' => ∃ (y5 y8 : Option V) (ws : List V) (rows : List (List (Nat × Rat))), σ = [some (.int c), some (.int (mo : Nat)), some vd, some (.int (n : Nat)), some (.ref lr), y5, y6, some (.ref lm), y8, none] ∧ Same H H' ∧ Same H2 H' ∧ H' lr = some (.lst us) ∧ H' lm = some (.lst ws) ∧ Al H' us (rs.map (pR K)) ∧ Al H' ws (rows.map (pMov K)) ∧ rows.length = i ∧ ∀ r ∈ rows, RowK n r)
    (fun H4 s4 => ⟨y5, none, [], [], rfl, s3.trans ((Same.new nm).trans s4), s23.trans ((Same.new nm).trans s4), s4 _ _ hu0, s4 _ _ upd_same, au.imp fun P hP v hv => stay_map (fun _ => stay_R) P hP v _ _ (Same.stb ((Same.new nm).trans s4)) hv, .nil, rfl, fun r h => nomatch h⟩) ?_ ?_
  · rintro s σ H4 hs ⟨y5, y8, ws, rows, rfl, s4, s24, hu4, hm4, au4, aw4, lrows, hrows⟩
    have lw := aw4.len
    rw [List.length_map] at lw
    have hidx : ∀ t, t < n → 2 + n + n * s + t < ds.length := fun t ht => by
      have h1 : n * s + n ≤ n * n := by
        have := Nat.mul_le_mul_left n (show s + 1 ≤ n by omega)
        rw [Nat.mul_add, Nat.mul_one] at this
        exact this
      omega
    -- weights
    refine seq_do ?_
    refine lcR_new (n := n) (lo := 0) (Rs := (List.range n).map fun t => pInt ((ds.getD (2 + n + n * s + t) 0 % 4 : Nat) : Int)) (iw_range1 (n := n) (eva_cons (ev_v (i := 3) (P := pInt (n : Nat)) rfl stay_int.mono rfl) stay_int.mono eva_nil) (by omega)) (by simp) (stay_map fun _ => stay_int) (by simp; omega) (fun t R H' hR e2 => ?_) fun lw1 wv H5 s5 nw hw aw => ?_
    · have ht : t < n := by have := lt_of_get hR; simpa using this
      rw [range_get ht] at hR
      cases hR
      refine Ev.imp (ev_modI (j := 4) (by omega) (ev_intI (ev_draw (K := K) (i := 2 + n + n * s + t) (ev_v (i := 2) rfl moD (moD _ _ _ (s2.trans (s24.trans e2)) pd)) (ev_addI (ev_addI (ev_addI (ev_int (i := 2)) (ev_v (i := 3) (P := pInt (n : Nat)) rfl stay_int.mono rfl)) (ev_mulI (i := (n : Nat)) (j := 0 + (s : Nat)) (.inl ⟨by omega, by omega⟩) (ev_v (i := 3) (P := pInt (n : Nat)) rfl stay_int.mono rfl) (ev_v (i := 5) (P := pInt (0 + (s : Nat))) rfl stay_int.mono rfl))) (ev_v (i := 9) (P := pInt (0 + (t : Nat))) rfl stay_int.mono rfl)) (by rw [Int.zero_add, Int.zero_add, ← Int.natCast_mul]; omega) (hidx t ht))) (ev_int (i := 4))) fun v H' _ p => by
        rw [show ((ds.getD (2 + n + n * s + t) 0 % 4 : Nat) : Int) = ((ds.getD (2 + n + n * s + t) 0 : Nat) : Int) % 4 from Int.natCast_emod _ _]
        exact p
    have nwH : H lw1 = none := Same.free s4 nw
    -- the rest, from any weights with a sum that is not zero
    have fin : ∀ (w : Nat → Nat) (wv : List V) (H6 : Hp), (∀ t, w t ≤ 3) → 0 < ((List.range n).map w).sum → Same H4 H6 → H6 lw1 = some (.lst wv) → Al H6 wv ((List.range n).map fun t => pInt ((w t : Nat) : Int)) →
        tDrop (tBM K "list" rAppend (tVar 7) (tCons (tCB (fun xs H Q => ∃ p ys, xs = [.ref p] ∧ ((SqL K H p ys ∧ ∀ l, H l = none → Q (.ref l) (upd H l (.tup ys))) ∨ (SqT K H p ys ∧ Q (.ref p) H))) (tCons (tLc (iRng1 (tCons (tVar 3) tNil)) (gName 9) (tTest (tOp (rI0 fun i j => .bl (decide (j < i))) (tOp (rIxL K) (tVar 8) (tVar 9)) (tC (.int 0)))) (tTup (tCons (tVar 9) (tCons (tCall (spMake K) [] E0 (tCons (tOp (rIxL K) (tVar 8) (tVar 9)) (tCons (tCB (rSum K) (tCons (tVar 8) tNil)) tNil))) tNil))) [9]) tNil)) tNil)) { nx := (fun σ H' => ∃ (y5 y8 : Option V) (ws : List V) (rows : List (List (Nat × Rat))), σ = [some (.int c), some (.int (mo : Nat)), some vd, some (.int (n : Nat)), some (.ref lr), y5, y6, some (.ref lm), y8, none] ∧ Same H H' ∧ Same H2 H' ∧ H' lr = some (.lst us) ∧ H' lm = some (.lst ws) ∧ Al H' us (rs.map (pR K)) ∧ Al H' ws (rows.map (pMov K)) ∧ rows.length = s + 1 ∧ ∀ r ∈ rows, RowK n r), rt := Q } [some (.int c), some (.int (mo : Nat)), some vd, some (.int (n : Nat)), some (.ref lr), some (.int (0 + (s : Nat))), y6, some (.ref lm), some (.ref lw1), none] H6 := fun w wv H6 hw3 hS s6 hwv awv => by
      have hS15 : ((List.range n).map w).sum ≤ 15 := by
        have := sum_le hw3 (List.range n)
        rw [List.length_range] at this
        omega
      have moW : ∀ P ∈ (List.range n).map (fun t => pInt ((w t : Nat) : Int)), Stay P := stay_map fun _ => stay_int
      have eW : ∀ H7, Same H6 H7 → ∀ σ : L2.St, σ[8]? = some (some (.ref lw1)) → Ev (tVar 8) σ H7 (pLst K ((List.range n).map fun t => pInt ((w t : Nat) : Int))) := fun H7 s7 σ h0 => ev_v (i := 8) h0 (mono_lst (stay_mono moW)) (mono_lst (stay_mono moW) _ _ _ s7 ⟨lw1, wv, rfl, .of hwv, awv⟩)
      have eWt : ∀ t, t < n → ∀ H7, Same H6 H7 → ∀ σ : L2.St, σ[8]? = some (some (.ref lw1)) → σ[9]? = some (some (.int (0 + (t : Nat)))) → Ev (tOp (rIxL K) (tVar 8) (tVar 9)) σ H7 (pInt ((w t : Nat) : Int)) := fun t ht H7 s7 σ h0 h9 =>
        ev_ixL (K := K) (i := t) (eW H7 s7 σ h0) (ev_v (i := 9) (P := pInt (0 + (t : Nat))) h9 stay_int.mono rfl) (by omega) (range_get ht) moW
      generalize hSS : ((List.range n).map w).sum = S at hS hS15
      have stTP : ∀ t, Stay (pTP K (t, Rat.divInt (w t : Int) (S : Int))) := fun _ => st_tp
      have eSum : ∀ H7, Same H6 H7 → ∀ σ : L2.St, σ[8]? = some (some (.ref lw1)) → Ev (tCB (rSum K) (tCons (tVar 8) tNil)) σ H7 (pInt (S : Int)) := fun H7 s7 σ h0 => by
        have e := ev_sum (K := K) (ta := tVar 8) (σ := σ) (H := H7) (ns := (List.range n).map fun t => ((w t : Nat) : Int)) (by rw [List.map_map]; exact eW H7 s7 σ h0)
        have es : ∀ l : List Nat, (l.map fun t => ((w t : Nat) : Int)).sum = (((l.map w).sum : Nat) : Int) := fun l => by
          induction l with
          | nil => rfl
          | cons a l ih => rw [List.map_cons, List.sum_cons, ih, List.map_cons, List.sum_cons, Int.natCast_add]
        rw [es, hSS] at e
        exact e
      refine one_appV (K := K) (P := pMov K (wrow n w S)) (j := 7) (l := lm) rfl (s6 _ _ hm4) (by omega) (ev_tupleL (K := K) (Ps := (wrow n w S).map (pTP K)) (Ev.imp (ev_lcRF (n := n) (R := fun t => pTP K (t, Rat.divInt (w t : Int) (S : Int))) (p := fun t => decide (0 < w t)) (iw_range1 (n := n) (eva_cons (ev_v (i := 3) (P := pInt (n : Nat)) rfl stay_int.mono rfl) stay_int.mono eva_nil) (by omega)) stTP (by omega) (fun t H' ht s7 => ?_) (fun t H' ht pt s7 => ?_)) fun v H' _ p => by
          unfold wrow
          rw [List.map_map]
          exact p.lst) (stay_map fun _ => st_tp)) fun vt H7 s7 pvt => ?_
      · refine et_test (Ev.imp (ev_gtB (eWt t ht H' s7 _ rfl rfl) (ev_int (i := 0))) fun v H' _ p => ?_)
        have e : decide ((0 : Int) < ((w t : Nat) : Int)) = decide (0 < w t) := decide_eq_decide.mpr (by omega)
        rw [e] at p
        exact p
      · have ht4 := hw3 t
        refine ev_tup (K := K) (eva_cons (P := pInt ((t : Nat) : Int)) (Ev.imp (ev_v (i := 9) (P := pInt (0 + (t : Nat))) rfl stay_int.mono rfl) fun v H' _ p => by rw [Int.zero_add] at p; exact p) stay_int.mono (eva_cons (ev_make2 (K := K) (eWt t ht H' s7 _ rfl rfl) (eSum H' s7 _ rfl) ⟨by omega, Nat.lt_of_lt_of_le (show ((S : Nat) : Int).natAbs < 2 ^ 4 by omega) (Nat.pow_le_pow_right (by omega) (by omega)), ok_small (k := 4) (by omega) (by omega) (by omega) (by omega)⟩) stay_R.mono eva_nil)) (stay_cons stay_int (stay_cons stay_R stay_nil)) (by simp)
      have hm7 := s7 _ _ (s6 _ _ hm4)
      have stw : Stb H7 (upd H7 lm (.lst (ws ++ [vt]))) := Stb.lst hm7
      have stA : Stb H4 (upd H7 lm (.lst (ws ++ [vt]))) := (Same.stb (s6.trans s7)).trans stw
      refine ⟨_, _, ws ++ [vt], rows ++ [wrow n w S], rfl, Same.upd (s4.trans (s6.trans s7)) nmH, Same.upd (s24.trans (s6.trans s7)) nm2, ?_, upd_same, au4.imp fun P hP v hv => stay_map (fun _ => stay_R) P hP v _ _ stA hv, ?_, by simp [lrows], fun r hr => ?_⟩
      · rw [upd_ne nlr]
        exact s7 _ _ (s6 _ _ hu4)
      · rw [List.map_append]
        exact (aw4.imp fun P hP v hv => stay_map (fun _ => st_mov) P hP v _ _ stA hv).app (.one (st_mov _ _ _ stw pvt))
      · rcases List.mem_append.mp hr with h | h
        · exact hrows r h
        · rw [List.mem_singleton.mp h]; exact wrow_ok hS hSS hS15
    have esum : ∀ (w : Nat → Nat) (l : List Nat), (l.map fun t => ((w t : Nat) : Int)).sum = (((l.map w).sum : Nat) : Int) := fun w l => by
      induction l with
      | nil => rfl
      | cons a l ih => rw [List.map_cons, List.sum_cons, ih, List.map_cons, List.sum_cons, Int.natCast_add]
    generalize hw0 : (fun t => ds.getD (2 + n + n * s + t) 0 % 4) = w0 at *
    have aw0 : Al H5 wv ((List.range n).map fun t => pInt ((w0 t : Nat) : Int)) := by rw [← hw0]; exact aw
    have w03 : ∀ t, w0 t ≤ 3 := fun t => by rw [← hw0]; show _ % 4 ≤ 3; omega
    have lwv := aw0.len
    rw [List.length_map, List.length_range] at lwv
    refine seq_if (b := decide ((((List.range n).map w0).sum : Nat) = 0)) (et_test (Ev.imp (ev_eqI (ev_sum (K := K) (ns := (List.range n).map fun t => ((w0 t : Nat) : Int)) (by rw [List.map_map]; exact ev_v (i := 8) rfl (mono_lst (stay_mono (stay_map fun _ => stay_int))) ⟨lw1, wv, rfl, .of hw, aw0⟩)) (ev_int (i := 0))) fun v H' _ p => by
      rw [esum] at p
      have e : decide ((((List.range n).map w0).sum : Int) = 0) = decide ((((List.range n).map w0).sum : Nat) = 0) := decide_eq_decide.mpr (by omega)
      rw [e] at p
      exact p)) fun H6 s6 => ?_
    refine ite2 (fun z => ?_) (fun z => ?_)
    · -- here
      have hlt := Nat.mod_lt (s + 1) (show 0 < n by omega)
      refine one_put (j := 8) (k := (s + 1) % n) rfl (s6 _ _ hw) (by omega) (ev_int (i := 1)) stay_int.mono (Ev.imp (ev_modI (i := 0 + (s : Nat) + 1) (j := (n : Nat)) (by omega) (ev_intI (ev_addI (ev_v (i := 5) (P := pInt (0 + (s : Nat))) rfl stay_int.mono rfl) (ev_int (i := 1)))) (ev_v (i := 3) (P := pInt (n : Nat)) rfl stay_int.mono rfl)) fun v H' _ p => by
        rw [Int.natCast_emod, show (((s + 1 : Nat)) : Int) = 0 + (s : Nat) + 1 by omega]
        exact p) fun v1 H7 s7 p1 => ?_
      have hw7 := s7 _ _ (s6 _ _ hw)
      refine fin (fun t => if t = (s + 1) % n then 1 else w0 t) _ _ (fun t => by split; omega; exact w03 t) ?_ (Same.upd (s5.trans (s6.trans s7)) nw) upd_same ?_
      · have : ∀ l : List Nat, (s + 1) % n ∈ l → 0 < (l.map fun t => if t = (s + 1) % n then 1 else w0 t).sum := fun l => by
          induction l with
          | nil => intro h; cases h
          | cons a l ih =>
            intro h
            rw [List.map_cons, List.sum_cons]
            rcases List.mem_cons.mp h with e | e
            · rw [← e, if_pos rfl]; omega
            · have := ih e; omega
        exact this _ (List.mem_range.mpr hlt)
      · refine Al.of (by rw [List.length_set, lwv]; simp) fun t x P hx hP => ?_
        have ht : t < n := by have := lt_of_get hP; simpa using this
        rw [range_get ht] at hP
        cases hP
        by_cases e : (s + 1) % n = t
        · subst e
          rw [List.getElem?_set_self (by omega)] at hx
          cases hx
          show pInt _ _ _
          rw [if_pos rfl]
          exact p1
        · rw [List.getElem?_set_ne e] at hx
          obtain ⟨x', hx', px⟩ := aw0.get (range_get (f := fun t => pInt ((w0 t : Nat) : Int)) ht)
          rw [hx] at hx'
          cases hx'
          show pInt _ _ _
          rw [if_neg (fun z => e z.symm)]
          exact px
    · exact fin w0 wv H6 w03 (by
        have : ¬ ((List.range n).map w0).sum = 0 := fun e => z (decide_eq_true e)
        omega) (s5.trans s6) (s6 _ _ hw) (aw0.imp fun P hP v hv => stay_map (fun _ => stay_int) P hP v _ _ (Same.stb s6) hv)
  · rintro σ H4 ⟨y5, y8, ws, rows, rfl, s4, s24, hu4, hm4, au4, aw4, lrows, hrows⟩
    refine one_ret (P := pGame K ⟨rs, rows⟩) (ev_tup (K := K) (eva_cons (ev_tupleL (K := K) (ev_v (i := 4) rfl (mono_lst (stay_mono (stay_rs rs))) ⟨lr, us, rfl, .of hu4, au4⟩) (stay_rs rs)) (stay_tup (stay_rs _)).mono (eva_cons (ev_tupleL (K := K) (ev_v (i := 7) rfl (mono_lst (stay_mono (stay_map fun _ => st_mov))) ⟨lm, ws, rfl, .of hm4, aw4⟩) (stay_map fun _ => st_mov)) (stay_tup (stay_map fun _ => st_mov)).mono eva_nil)) (st_gparts ⟨rs, rows⟩) (by simp)) fun v H5 s5 p => q v H5 (s4.trans s5) ⟨⟨rs, rows⟩, ?_, ?_, p⟩
    · refine ⟨by show 0 < rs.length; omega, by show rows.length = rs.length; omega, by show rs.length ≤ 5; omega, fun s hs => ?_, fun s hs => ?_⟩
      · have h := game_rew (g := ⟨rs, rows⟩) hs
        exact hrs _ (List.mem_of_getElem? h)
      · have hs : s < rs.length := hs
        have h := game_row (g := ⟨rs, rows⟩) (s := s) (show s < rows.length by omega)
        have := hrows _ (List.mem_of_getElem? h)
        show RowK rs.length _
        rw [lrs]; exact this
    · show rs.length ≤ mo
      omega
end
end AC
end
section
set_option maxRecDepth 100000
set_option exponentiation.threshold 20000
/-! The walk: joint states, numbers and gains as the law reckons them. -/
namespace AC
open PySem PySem.Spec PyProof.Rows L2 ACD
variable {K : PySem.W.Frag}
theorem flat_take {α β : Type} {l : List α} {m : Nat} {f : α → Nat → β} {i : Nat} {a : α} (h : l[i]? = some a) : flat (l.take (i + 1)) m f = flat (l.take i) m f ++ (List.range m).map (f a) := by
  unfold flat
  rw [take_succ h, List.flatMap_append]
  simp
def spLj (K : PySem.W.Frag) : Sp := Spc (fun gs : List Game => [pTup K (gs.map (pGame K))]) (fun gs => JsK gs ∧ ∀ g ∈ gs, g.n ≤ 900) fun gs => pLst K ((joints gs).map pJ)
theorem st_Js (gs : List Game) : ∀ P ∈ (joints gs).map pJ, Stay P := stay_map fun _ => st_J
theorem st_Gs (gs : List Game) : ∀ P ∈ gs.map (pGame K), Stay P := stay_map fun _ => st_game
def spNum (K : PySem.W.Frag) : Sp := Spc (fun a : List Game × List Nat => [pTup K (a.1.map (pGame K)), pJ a.2]) (fun a => Fits a.1 a.2 ∧ a.1.length ≤ 900 ∧ ∀ g ∈ a.1, g.n ≤ 900) fun a => pInt (num 0 a.1 a.2 : Nat)
theorem num_app : ∀ {gs : List Game} {u : List Nat} {i : Nat} {g : Game} {s : Nat}, gs.length = u.length → num i (gs ++ [g]) (u ++ [s]) = num i gs u * g.n + s
  | [], [], i, g, s, _ => rfl
  | [], _ :: _, _, _, _, h => by simp at h
  | _ :: _, [], _, _, _, h => by simp at h
  | a :: gs, t :: u, i, g, s, h => num_app (gs := gs) (u := u) (by simpa using h)
theorem ev_setJ {σ : L2.St} {H : Hp} {tu tp ts : TE} {u : List Nat} {p s : Nat} (hu : Ev tu σ H (pJ u)) (hp : Ev tp σ H (pInt (p : Nat))) (hs : Ev ts σ H (pInt (s : Nat))) (h : p < u.length) (hl : u.length ≤ 900) :
    Ev (tOp (rCatA K) (tOp (rCatA K) (tSl (rSlA K) tu tNoPart (tPart tp)) (tTup (tCons ts tNil))) (tSl (rSlA K) tu (tPart (tOp (rI0 fun i j => .int (i + j)) tp (tC (.int 1)))) tNoPart)) σ H (pJ (u.set p s)) := by
  have e : u.set p s = cutP u 0 p ++ [s] ++ cutP u (p + 1) u.length := by
    rw [List.set_eq_take_append_cons_drop, if_pos h]
    unfold cutP
    rw [List.drop_zero, Nat.sub_zero, List.append_assoc, List.take_of_length_le (l := u.drop (p + 1)) (by rw [List.length_drop]; exact Nat.le_refl _)]; rfl
  rw [e]
  exact ev_catJ (K := K) (u := cutP u 0 p ++ [s]) (w := cutP u (p + 1) u.length) (ev_catJ (K := K) (ev_slJ (K := K) (a := 0) (b := p) (lo := none) (hi := some (p : Nat)) hu evo_no (evo_some hp) (by rfl) (by rw [HT.sIx_nat]; omega)) (ev_J1 hs rfl) (by unfold cutP; simp; omega))
    (ev_slJ (K := K) (a := p + 1) (b := u.length) (lo := some ((p : Int) + 1)) (hi := none) hu (evo_some (ev_addI hp (ev_int (i := 1)))) evo_no (by rw [show ((p : Int) + 1) = ((p + 1 : Nat) : Int) by omega, HT.sIx_nat]; omega) (by rfl)) (by unfold cutP; simp; omega)
/-- a table of ratios by the joint states -/
def pTb (K : PySem.W.Frag) (gs : List Game) (W : Nat → Rat) : VP := pTup K ((List.range (joints gs).length).map fun k => pR K (W k))
theorem st_tbl (gs : List Game) (W : Nat → Rat) : ∀ P ∈ (List.range (joints gs).length).map (fun k => pR K (W k)), Stay P := stay_map fun _ => stay_R
theorem st_tb {gs : List Game} {W : Nat → Rat} : Stay (pTb K gs W) := stay_tup (st_tbl gs W)
def spLp (K : PySem.W.Frag) : Sp := Spc (fun a : PlA => [pTup K (a.gs.map (pGame K)), pJ a.u, pInt (a.p : Nat), pR K a.b, pTb K a.gs a.W]) (fun a => PlK a ∧ ∀ g ∈ a.gs, g.n ≤ 900) fun a => pR K (ply a.b a.gs a.W a.u a.p)
structure ExK (a : PlA) : Prop where
  fit : Fits a.gs a.u
  le : a.gs.length ≤ 900
  lt : a.p < a.gs.length
  ok : ∀ g ∈ a.gs, GameOk g
  n9 : ∀ g ∈ a.gs, g.n ≤ 900
  w1 : ∀ tp ∈ mvs a.gs a.u a.p, Ok (tp.2 * a.W tp.1)
  w2 : ∀ t, Ok (ex ((mvs a.gs a.u a.p).take t) a.W)
  w3 : Ok (a.b * ex (mvs a.gs a.u a.p) a.W)
theorem PlK.ex {a : PlA} (h : PlK a) (n9 : ∀ g ∈ a.gs, g.n ≤ 900) : ExK a := ⟨h.fit, h.le, h.lt, h.ok, n9, h.w1, h.w2, h.w3⟩
def spLe (K : PySem.W.Frag) : Sp := Spc (fun a : PlA => [pTup K (a.gs.map (pGame K)), pJ a.u, pInt (a.p : Nat), pR K a.b, pTb K a.gs a.W]) ExK fun a => pR K (a.b * ex (mvs a.gs a.u a.p) a.W)
theorem sc73 : FnScope ["_law_games_here", "_law_joints_here", "_law_game_here", "_law_longer", "_law_joint", "_law_state"] ["_law_games_here"] (defScope (topS 73)) := ⟨rfl, rfl, rfl, by decide +kernel, rfl, by decide +kernel, by decide +kernel⟩
theorem sc74 : FnScope ["_law_games_here", "_law_joint", "_law_number_here", "_law_k"] ["_law_games_here", "_law_joint"] (defScope (topS 74)) := ⟨rfl, rfl, rfl, by decide +kernel, rfl, by decide +kernel, by decide +kernel⟩
theorem sc75 : FnScope ["_law_games_here", "_law_joint", "_law_at", "_law_discount_here", "_law_table", "_law_later", "_law_pair", "_law_after"] ["_law_games_here", "_law_joint", "_law_at", "_law_discount_here", "_law_table"] (defScope (topS 75)) := ⟨rfl, rfl, rfl, by decide +kernel, rfl, by decide +kernel, by decide +kernel⟩
theorem sc80 : FnScope ["_law_games_here", "_law_joint", "_law_at", "_law_discount_here", "_law_losses", "_law_later", "_law_pair", "_law_after"] ["_law_games_here", "_law_joint", "_law_at", "_law_discount_here", "_law_losses"] (defScope (topS 80)) := ⟨rfl, rfl, rfl, by decide +kernel, rfl, by decide +kernel, by decide +kernel⟩
section
variable {P : Program} {w : World} {mg : Str → Option Value} {base : Heap}
theorem d_law_joints (g : Got K mg "_law_joints" 73 ["_law_games_here"]) (m_range : mg "range" = none) (m_len : mg "len" = none) (m_list : mg "list" = none) : DefOk P w K mg base 1 "_law_joints" ["_law_games_here"] (spLj K) := by
  refine def_of g sc73 (fun _ => rfl) fun fa cdv A outer s0 H vs Q E gs hr sd al q => ?_
  obtain ⟨⟨gl, sd⟩, n9⟩ := sd
  cases al with | cons h1 al => cases al with | nil =>
  rename_i v1
  have h1 : pTup K (gs.map (pGame K)) v1 H := h1
  have stG := st_Gs (K := K) gs
  refine ⟨_, (pss_cons (ps_set (i := 1) sc73.nd rfl (.inl rfl) (pe_lst (pa_cons (pe_tup pa_nil) pa_nil)))
    (pss_cons (ps_for PassesOwn.never rfl (pi_tup (pv 0)) (pg_name (i := 2) sc73.nd rfl (.inl rfl))
    (pss_cons (ps_set (i := 3) sc73.nd rfl (.inl rfl) (pe_lst pa_nil))
    (pss_cons (ps_for PassesOwn.never rfl (pi_list (pv 1)) (pg_name (i := 4) sc73.nd rfl (.inl rfl))
    (pss_one (ps_for PassesOwn.never rfl (pi_range1 rfl m_range (pa_cons (pe_callB call_len_seq (by rfl) m_len PySem.boot_len (pa_cons (pe_ix ix_tup (pv 2) pe_int (fun _ _ => rfl)) pa_nil)) pa_nil)) (pg_name (i := 5) sc73.nd rfl (.inl rfl))
    (pss_one (ps_expr (pe_bm PySem.F.plainAttrs_list PySem.F.slot_list_append PySem.F.type_list_append mt_append (pv 3) (pa_cons (pe_op op_catA (pv 4) (pe_tup (pa_cons (pv 5) pa_nil))) pa_nil)))))))
    (pss_one (ps_set (i := 1) sc73.nd rfl (.inl rfl) (pe_callTy call_list_of (by rfl) m_list (by decide +kernel) (pa_cons (pv 3) pa_nil)))))))
    (pss_one (ps_ret (pv 1))))), ?_⟩
  refine seq_set (ev_new1 (P := pJ []) ev_J0 st_J) fun vr H1 s1 pr => ?_
  have pr : pOwn ((([[]] : List (List Nat))).map pJ) vr H1 := by
    obtain ⟨l, us, e, _, h, a⟩ := pr
    exact ⟨l, us, e, h, a⟩
  refine for_T (K := K) (ev_v (i := 0) (P := pTup K (gs.map (pGame K))) rfl (stay_tup stG).mono ((stay_tup stG).mono _ _ _ s1 h1)) stG fun vg H2 s2 pg => ⟨fun i σ H' => ∃ (vr : V) (y2 y3 y4 y5 : Option V), σ = [some v1, some vr, y2, y3, y4, y5] ∧ Same H1 H' ∧ Same H2 H' ∧ pOwn (((gs.take i).foldl jS [[]]).map pJ) vr H',
    ⟨vr, none, none, none, none, rfl, s2, Same.refl _, mono_own (stay_mono (stay_map fun _ => st_J)) _ _ _ s2 pr⟩, ?_, ?_, ?_⟩
  · rintro i σ H' ⟨vr, y2, y3, y4, y5, rfl, s3, s4, p⟩
    exact Same.stb s4
  · rintro i x P σ H3 hP px ⟨vr, y2, y3, y4, y5, rfl, s3, s4, p⟩
    have hi := lt_of_get hP
    rw [List.length_map] at hi
    obtain ⟨gm, hg⟩ := get_of_lt (l := gs) (i := i) hi
    rw [map_get hg] at hP
    cases hP
    have hn9 := n9 gm (List.mem_of_getElem? hg)
    obtain ⟨c1, c2⟩ := sd (i + 1) hi
    obtain ⟨c3, c4⟩ := sd i (by omega)
    have et : (gs.take (i + 1)).foldl jS [[]] = jS ((gs.take i).foldl jS [[]]) gm := by rw [take_succ hg, List.foldl_append]; rfl
    rw [et] at c1
    generalize hrows : (gs.take i).foldl jS [[]] = rows at *
    have c1 : (flat rows gm.n fun u s => u ++ [s]).length ≤ 1000 := c1
    rw [flat_len] at c1
    have stR : ∀ P ∈ rows.map pJ, Stay P := stay_map fun _ => st_J
    obtain ⟨lj, xs, rfl, hlj, alj⟩ := p
    have px3 : pGame K gm x H3 := px
    refine seq_nil fun ll nl => ?_
    have s35 : Same H3 (upd H3 ll (.lst [])) := Same.new nl
    have njl : lj ≠ ll := fun e => by rw [e, nl] at hlj; cases hlj
    have lxs := alj.len
    rw [List.length_map] at lxs
    refine for_W (J := Itl K lj) (n := xs.length) (G := fun H => SqL K H lj xs) (Y := YAt xs) (H1 := upd H3 ll (.lst [])) (fun R q => ⟨_, rfl, lj, rfl, ⟨xs, .of (s35 _ _ hlj)⟩, q⟩) walk_list (fun j σ H' => ∃ (y4 y5 : Option V) (ws : List V), σ = [some v1, some (.ref lj), some x, some (.ref ll), y4, y5] ∧ Same H3 H' ∧ H' ll = some (.lst ws) ∧ Al H' ws ((flat (rows.take j) gm.n fun u s => u ++ [s]).map pJ)) ?_ (fun j σ H' _ h => by
      obtain ⟨_, _, _, _, s6, _⟩ := h
      exact .of (s6 _ _ hlj)) ?_ ?_
    · exact ⟨y4, y5, [], rfl, s35, upd_same, by simp [flat]; exact .nil⟩
    · rintro j z σ H5' H5 hj ⟨y4, y5, ws, rfl, s6, hw, aw⟩ ⟨rfl, hz⟩
      obtain ⟨u, hu⟩ := get_of_lt (l := rows) (i := j) (by omega)
      obtain ⟨z', hz', pz⟩ := alj.get (map_get hu)
      rw [hz] at hz'
      cases hz'
      have pz : pJ u z H5 := st_J.mono _ _ _ s6 pz
      have lw := aw.len
      rw [List.length_map, flat_len, List.length_take, Nat.min_eq_left (by omega)] at lw
      have hlw : ws.length + gm.n ≤ 1000 := by
        have h1 : j * gm.n + gm.n ≤ rows.length * gm.n := by
          have := Nat.mul_le_mul_right gm.n (show j + 1 ≤ rows.length by omega)
          rw [Nat.add_mul, Nat.one_mul] at this
          exact this
        rw [lw]
        exact Nat.le_trans h1 c1
      refine one_R (n := gm.n) (iw_range1 (n := gm.n) (eva_cons (by
          have e := ev_lenT (K := K) (H := H5) (ta := tOp (rIxT K) (tVar 2) (tC (.int 0))) (σ := [some v1, some (.ref lj), some x, some (.ref ll), some z, y5]) (ev_ixT (K := K) (i := 0) (ev_v (i := 2) (P := pGame K gm) rfl st_game.mono (st_game.mono _ _ _ s6 px3)) (ev_int (i := 0)) rfl rfl (st_gparts gm))
          rw [List.length_map] at e
          exact e) stay_int.mono eva_nil) (by omega) H5 (Same.refl H5)) (fun s σ H' => ∃ (y5 : Option V) (ws : List V), σ = [some v1, some (.ref lj), some x, some (.ref ll), some z, y5] ∧ Same H3 H' ∧ Stb H5 H' ∧ H' ll = some (.lst ws) ∧ Al H' ws (((flat (rows.take j) gm.n fun u s => u ++ [s]) ++ (List.range s).map fun s => u ++ [s]).map pJ))
        (fun H6 s7 => ⟨y5, ws, rfl, s6.trans s7, Same.stb s7, s7 _ _ hw, by
          rw [List.range_zero, List.map_nil, List.append_nil]
          exact aw.imp fun P hP v hv => stay_map (fun _ => st_J) P hP v _ _ (Same.stb s7) hv⟩) ?_ ?_
      · rintro s σ H6 hs ⟨y5, ws6, rfl, s7, st57, hw7, aw7⟩
        have lw7 := aw7.len
        rw [List.length_map, List.length_append, flat_len, List.length_take, List.length_map, List.length_range, Nat.min_eq_left (by omega)] at lw7
        refine one_appV (K := K) (P := pJ (u ++ [s])) (j := 3) (l := ll) rfl hw7 (by omega) (ev_catJ (K := K) (ev_v (i := 4) rfl st_J.mono (st_J _ _ _ st57 pz)) (ev_J1 (ev_v (i := 5) (P := pInt (0 + (s : Nat))) rfl stay_int.mono rfl) (by omega)) (by have := c4 u (List.mem_of_getElem? hu); simp; omega)) fun v H7 s8 pv => ?_
        have hw8 := s8 _ _ hw7
        have stw : Stb H7 (upd H7 ll (.lst (ws6 ++ [v]))) := Stb.lst hw8
        refine ⟨_, ws6 ++ [v], rfl, Same.upd (s7.trans s8) nl, st57.trans ((Same.stb s8).trans stw), upd_same, ?_⟩
        rw [List.range_succ, List.map_append (l₁ := List.range s), ← List.append_assoc, List.map_append (l₂ := List.map _ [s])]
        exact (aw7.imp fun P hP v hv => stay_map (fun _ => st_J) P hP v _ _ ((Same.stb s8).trans stw) hv).app (.one (st_J _ _ _ stw pv))
      · rintro σ H6 ⟨y5, ws6, rfl, s7, st57, hw7, aw7⟩
        rw [← flat_take hu] at aw7
        exact ⟨_, _, ws6, rfl, s7, hw7, aw7⟩
    · rintro σ H5 ⟨y4, y5, ws, rfl, s6, hw, aw⟩
      rw [lxs, List.take_length] at aw
      refine one_set (ev_listL (K := K) (ev_v (i := 3) rfl (mono_lst (stay_mono (stay_map fun _ => st_J))) ⟨ll, ws, rfl, .of hw, aw⟩) (stay_map fun _ => st_J)) fun vn H6 s7 pn => ?_
      refine ⟨vn, _, _, _, _, rfl, s3.trans (s6.trans s7), s4.trans (s6.trans s7), ?_⟩
      rw [et]
      exact pn
  · rintro σ H3 ⟨vr, y2, y3, y4, y5, rfl, s3, s4, p⟩
    rw [List.length_map, List.take_length] at p
    exact one_ret (ev_v (i := 1) (P := pLst K ((joints gs).map pJ)) rfl (mono_lst (stay_mono (st_Js gs))) p.lst) fun v H4 s5 pv => q v H4 (s1.trans (s3.trans s5)) pv
theorem d_law_number (g : Got K mg "_law_number" 74 ["_law_games_here", "_law_joint"]) (m_range : mg "range" = none) (m_len : mg "len" = none) : DefOk P w K mg base 1 "_law_number" ["_law_games_here", "_law_joint"] (spNum K) := by
  refine def_of g sc74 (fun _ => rfl) fun fa cdv A outer s0 H vs Q E a hr sd al q => ?_
  obtain ⟨gs, u⟩ := a
  obtain ⟨fit, le, n9⟩ := sd
  simp only at fit le n9
  cases al with | cons h1 al => cases al with | cons h2 al => cases al with | nil =>
  rename_i v1 v2
  have h1 : pTup K (gs.map (pGame K)) v1 H := h1
  have h2 : pJ u v2 H := h2
  have stG := st_Gs (K := K) gs
  have hul := fits_len fit
  refine ⟨_, (pss_cons (ps_set (i := 2) sc74.nd rfl (.inl rfl) pe_int)
    (pss_cons (ps_for PassesOwn.never rfl (pi_range1 rfl m_range (pa_cons (pe_callB call_len_seq (by rfl) m_len PySem.boot_len (pa_cons (pv 0) pa_nil)) pa_nil)) (pg_name (i := 3) sc74.nd rfl (.inl rfl))
    (pss_one (ps_set (i := 2) sc74.nd rfl (.inl rfl) (pe_op op_add (pe_op op_mul (pv 2) (pe_callB call_len_seq (by rfl) m_len PySem.boot_len (pa_cons (pe_ix ix_tup (pe_ix ix_tup (pv 0) (pv 3) (fun _ _ => rfl)) pe_int (fun _ _ => rfl)) pa_nil))) (pe_ix ix_tup (pv 1) (pv 3) (fun _ _ => rfl))))))
    (pss_one (ps_ret (pv 2))))), ?_⟩
  refine seq_set (ev_int (i := 0)) fun v0 H1 s1 p0 => ?_
  obtain rfl : v0 = V.int 0 := p0
  refine for_R (n := gs.length) (iw_range1 (n := gs.length) (eva_cons (by
      have e := ev_lenT (K := K) (ta := tVar 0) (H := H1) (σ := [some v1, some v2, some (.int 0), none]) (ev_v (i := 0) (P := pTup K (gs.map (pGame K))) rfl (stay_tup stG).mono ((stay_tup stG).mono _ _ _ s1 h1))
      rw [List.length_map] at e
      exact e) stay_int.mono eva_nil) (by omega) H1 (Same.refl H1)) (fun i σ H' => ∃ y3 : Option V, σ = [some v1, some v2, some (.int ((num 0 (gs.take i) (u.take i) : Nat) : Int)), y3] ∧ Same H H') (fun H2 s2 => ⟨none, rfl, s1.trans s2⟩) ?_ ?_
  · rintro i σ H2 hi ⟨y3, rfl, s2⟩
    obtain ⟨gm, hg⟩ := get_of_lt hi
    obtain ⟨s, hs, hsn⟩ := fits_get fit hg
    have hn9 := n9 gm (List.mem_of_getElem? hg)
    have en : num 0 (gs.take (i + 1)) (u.take (i + 1)) = num 0 (gs.take i) (u.take i) * gm.n + s := by
      rw [take_succ hg, take_succ hs]
      exact num_app (by rw [List.length_take, List.length_take]; omega)
    refine one_set (ev_addI (ev_mulI (i := ((num 0 (gs.take i) (u.take i) : Nat) : Int)) (j := (gm.n : Nat)) (.inr ⟨by omega, by omega⟩) (ev_v (i := 2) rfl stay_int.mono rfl) (by
        have e := ev_lenT (K := K) (H := H2) (ta := tOp (rIxT K) (tOp (rIxT K) (tVar 0) (tVar 3)) (tC (.int 0))) (σ := [some v1, some v2, some (.int ((num 0 (gs.take i) (u.take i) : Nat) : Int)), some (.int (0 + (i : Nat)))]) (ev_ixT (K := K) (i := 0) (ev_ixT (K := K) (i := i) (P := pGame K gm) (ev_v (i := 0) rfl (stay_tup stG).mono ((stay_tup stG).mono _ _ _ s2 h1)) (ev_v (i := 3) (P := pInt (0 + (i : Nat))) rfl stay_int.mono rfl) (by omega) (map_get hg) stG) (ev_int (i := 0)) rfl rfl (st_gparts gm))
        rw [List.length_map] at e
        exact e)) (ev_ixT (K := K) (i := i) (P := pInt (s : Int)) (Ps := u.map fun n : Nat => pInt (n : Int)) (Ev.imp (ev_v (i := 1) (P := pJ u) rfl st_J.mono (st_J.mono _ _ _ s2 h2)) fun v H' _ p => p.tup) (ev_v (i := 3) (P := pInt (0 + (i : Nat))) rfl stay_int.mono rfl) (by omega) (map_get hs) (st_ints u))) fun v3 H3 s3 p3 => ?_
    refine ⟨some (.int (0 + (i : Nat))), ?_, s2.trans s3⟩
    obtain rfl : v3 = V.int (((num 0 (gs.take i) (u.take i) : Nat) : Int) * (gm.n : Nat) + (s : Int)) := p3
    rw [en, Int.natCast_add, Int.natCast_mul]
    rfl
  · rintro σ H2 ⟨y3, rfl, s2⟩
    rw [List.take_length, List.take_of_length_le (by omega)]
    exact one_ret (ev_v (i := 2) (P := pInt (num 0 gs u : Nat)) rfl stay_int.mono rfl) fun v H3 s3 p => q v H3 (s2.trans s3) p
theorem ev_num {σ : L2.St} {H : Hp} {tg tu : TE} {gs : List Game} {u : List Nat} (hg : Ev tg σ H (pTup K (gs.map (pGame K)))) (hu : Ev tu σ H (pJ u)) (fit : Fits gs u) (le : gs.length ≤ 900) (n9 : ∀ g ∈ gs, g.n ≤ 900) : Ev (tCall (spNum K) [] E0 (tCons tg (tCons tu tNil))) σ H (pInt (num 0 gs u : Nat)) :=
  ev_call (args := fun a : List Game × List Nat => [pTup K (a.1.map (pGame K)), pJ a.2]) (side := fun a => Fits a.1 a.2 ∧ a.1.length ≤ 900 ∧ ∀ g ∈ a.1, g.n ≤ 900) (post := fun a => pInt (num 0 a.1 a.2 : Nat)) (gs, u) ⟨fit, le, n9⟩ (eva_cons hg (stay_tup (st_Gs gs)).mono (eva_cons hu st_J.mono eva_nil))
theorem d_law_played (g : Got K mg "_law_played" 75 ["_law_games_here", "_law_joint", "_law_at", "_law_discount_here", "_law_table"]) (D__law_number : DefOk P w K mg base 1 "_law_number" ["_law_games_here", "_law_joint"] (spNum K)) (D__law_add : DefOk P w K mg base 2 "_law_add" ["_law_a", "_law_b"] (spR2 K fun x y => x + y)) (D__law_mul : DefOk P w K mg base 2 "_law_mul" ["_law_a", "_law_b"] (spR2 K fun x y => x * y)) :
    DefOk P w K mg base 3 "_law_played" ["_law_games_here", "_law_joint", "_law_at", "_law_discount_here", "_law_table"] (spLp K) := by
  refine def_of g sc75 (fun _ => rfl) fun fa cdv A outer s0 H vs Q E a hr sd al q => ?_
  obtain ⟨gs, u, p, W, b⟩ := a
  obtain ⟨⟨fit, le, lt, ok, w1, w2, w3, w4⟩, n9⟩ := sd
  simp only at fit le lt ok w1 w2 w3 w4 n9
  cases al with | cons h1 al => cases al with | cons h2 al => cases al with | cons h3 al => cases al with | cons h4 al => cases al with | cons h5 al => cases al with | nil =>
  rename_i v1 v2 v3 v4 v5
  have h1 : pTup K (gs.map (pGame K)) v1 H := h1
  have h2 : pJ u v2 H := h2
  obtain rfl : v3 = V.int (p : Nat) := h3
  have h4 : pR K b v4 H := h4
  have h5 : pTb K gs W v5 H := h5
  obtain ⟨gm, hg⟩ := get_of_lt lt
  obtain ⟨s, hs, hsn⟩ := fits_get fit hg
  have og := ok gm (List.mem_of_getElem? hg)
  have hul := fits_len fit
  have eu : u.getD p 0 = s := by rw [List.getD_eq_getElem?_getD, hs]; rfl
  have emv : mvs gs u p = (gm.row s).map fun tp => (num 0 gs (u.set p tp.1), tp.2) := by unfold mvs; rw [ga_of hg, eu]
  have erw : rwd gs u p = gm.r s := by unfold rwd; rw [ga_of hg, eu]
  have stG := st_Gs (K := K) gs
  refine ⟨_, (pss_cons (ps_set (i := 5) sc75.nd rfl (.inl rfl) (pe_tup (pa_cons pe_int (pa_cons pe_int pa_nil))))
    (pss_cons (ps_for PassesOwn.never rfl (pi_tup (pe_ix ix_tup (pe_ix ix_tup (pe_ix ix_tup (pv 0) (pv 2) (fun _ _ => rfl)) pe_int (fun _ _ => rfl)) (pe_ix ix_tup (pv 1) (pv 2) (fun _ _ => rfl)) (fun _ _ => rfl))) (pg_name (i := 6) sc75.nd rfl (.inl rfl))
    (pss_cons (ps_set (i := 7) sc75.nd rfl (.inl rfl) (pe_op op_catA (pe_op op_catA (pe_slice sl_tupA (pv 1) po_none (po_some (pv 2))) (pe_tup (pa_cons (pe_ix ix_tup (pv 6) pe_int (fun _ _ => rfl)) pa_nil))) (pe_slice sl_tupA (pv 1) (po_some (pe_op op_add (pv 2) pe_int)) po_none)))
    (pss_one (ps_set (i := 5) sc75.nd rfl (.inl rfl) (pe_callD D__law_add (hr.mono (by decide)) (by rfl) (pa_cons (pv 5) (pa_cons (pe_callD D__law_mul (hr.mono (by decide)) (by rfl) (pa_cons (pe_ix ix_tup (pv 6) pe_int (fun _ _ => rfl)) (pa_cons (pe_ix ix_tup (pv 4) (pe_callD D__law_number (hr.mono (by decide)) (by rfl) (pa_cons (pv 0) (pa_cons (pv 7) pa_nil))) (fun _ _ => rfl)) pa_nil))) pa_nil)))))))
    (pss_one (ps_ret (pe_callD D__law_add (hr.mono (by decide)) (by rfl) (pa_cons (pe_ix ix_tup (pe_ix ix_tup (pe_ix ix_tup (pv 0) (pv 2) (fun _ _ => rfl)) pe_int (fun _ _ => rfl)) (pe_ix ix_tup (pv 1) (pv 2) (fun _ _ => rfl)) (fun _ _ => rfl)) (pa_cons (pe_callD D__law_mul (hr.mono (by decide)) (by rfl) (pa_cons (pv 3) (pa_cons (pv 5) pa_nil))) pa_nil))))))), ?_⟩
  refine seq_set (ev_01 (K := K) (n := 0) (d := 1) rfl) fun vl H1 s1 pl => ?_
  have pl : pR K 0 vl H1 := pR_zero pl
  have eg : ∀ (σ : L2.St) (H2 : Hp), Same H H2 → σ[0]? = some (some v1) → σ[2]? = some (some (.int (p : Nat))) → Ev (tOp (rIxT K) (tVar 0) (tVar 2)) σ H2 (pGame K gm) := fun σ H2 s2 h0 h2 => ev_ixT (K := K) (i := p) (ev_v (i := 0) h0 (stay_tup stG).mono ((stay_tup stG).mono _ _ _ s2 h1)) (ev_v (i := 2) (P := pInt (p : Nat)) h2 stay_int.mono rfl) rfl (map_get hg) stG
  have es : ∀ (σ : L2.St) (H2 : Hp), Same H H2 → σ[1]? = some (some v2) → σ[2]? = some (some (.int (p : Nat))) → Ev (tOp (rIxT K) (tVar 1) (tVar 2)) σ H2 (pInt (s : Int)) := fun σ H2 s2 h0 h3 => ev_ixT (K := K) (i := p) (Ps := u.map fun n : Nat => pInt (n : Int)) (Ev.imp (ev_v (i := 1) (P := pJ u) h0 st_J.mono (st_J.mono _ _ _ s2 h2)) fun v H' _ p => p.tup) (ev_v (i := 2) (P := pInt (p : Nat)) h3 stay_int.mono rfl) rfl (map_get hs) (st_ints u)
  have hmov : Ev (tOp (rIxT K) (tOp (rIxT K) (tOp (rIxT K) (tVar 0) (tVar 2)) (tC (.int 1))) (tOp (rIxT K) (tVar 1) (tVar 2))) [some v1, some v2, some (.int (p : Nat)), some v4, some v5, some vl, none, none] H1 (pMov K (gm.row s)) :=
    ev_ixT (K := K) (i := s) (Ps := gm.mov.map (pMov K)) (ev_ixT (K := K) (i := 1) (eg _ H1 s1 rfl rfl) (ev_int (i := 1)) rfl rfl (st_gparts gm)) (es _ H1 s1 rfl rfl) rfl (map_get (game_row (by rw [og.len]; exact hsn))) (stay_map fun _ => st_mov)
  refine for_T (K := K) hmov (stay_map fun _ => st_tp) fun vrow H4 s4 prow => ⟨fun t σ H' => ∃ (y5 : V) (y6 y7 : Option V), σ = [some v1, some v2, some (.int (p : Nat)), some v4, some v5, some y5, y6, y7] ∧ Same H H' ∧ Same H4 H' ∧ pR K (ex ((mvs gs u p).take t) W) y5 H',
    ⟨vl, none, none, rfl, s1.trans s4, Same.refl _, by simp only [List.take_zero, ex]; exact stay_R.mono _ _ _ s4 pl⟩, ?_, ?_, ?_⟩
  · rintro t σ H' ⟨y5, y6, y7, rfl, s5, s6, p8⟩
    exact Same.stb s6
  · rintro t x P σ H5 hP px ⟨y5, y6, y7, rfl, s5, s6, p8⟩
    obtain ⟨tp, htp⟩ := get_of_lt (l := gm.row s) (i := t) (by have := lt_of_get hP; rwa [List.length_map] at this)
    rw [map_get htp] at hP
    cases hP
    have px : pTP K tp x H5 := px
    have hmem := List.mem_of_getElem? htp
    have htn := (og.rows s hsn).tgt tp hmem
    have hf := fits_set fit hg htn
    have hnum := num_get hf
    have hlt := (List.getElem?_eq_some_iff.mp hnum).1
    have stp : ∀ P ∈ [pInt (tp.1 : Int), pR K tp.2], Stay P := stay_cons stay_int (stay_cons stay_R stay_nil)
    have hmt : (mvs gs u p)[t]? = some (num 0 gs (u.set p tp.1), tp.2) := by rw [emv]; exact map_get htp
    -- after
    refine seq_set (ev_setJ (K := K) (u := u) (p := p) (s := tp.1) (ev_v (i := 1) rfl st_J.mono (st_J.mono _ _ _ s5 h2)) (ev_v (i := 2) (P := pInt (p : Nat)) rfl stay_int.mono rfl) (ev_ixT (K := K) (i := 0) (ev_v (i := 6) rfl st_tp.mono px) (ev_int (i := 0)) rfl rfl stp) (by omega) (by omega)) fun va H6 s7 pa => ?_
    -- later
    refine one_set (ev_R2 (K := K) (f := fun x y => x + y) (ev_v (i := 5) rfl stay_R.mono (stay_R.mono _ _ _ s7 p8)) (ev_R2 (K := K) (f := fun x y => x * y) (x := tp.2) (y := W (num 0 gs (u.set p tp.1))) (ev_ixT (K := K) (i := 1) (ev_v (i := 6) rfl st_tp.mono (st_tp.mono _ _ _ s7 px)) (ev_int (i := 1)) rfl rfl stp)
      (ev_ixT (K := K) (i := num 0 gs (u.set p tp.1)) (ev_v (i := 4) rfl st_tb.mono (st_tb.mono _ _ _ (s5.trans s7) h5)) (ev_num (ev_v (i := 0) rfl (stay_tup stG).mono ((stay_tup stG).mono _ _ _ (s5.trans s7) h1)) (ev_v (i := 7) rfl st_J.mono pa) hf le n9) rfl (range_get hlt) (st_tbl gs W)) (w1 _ (List.mem_of_getElem? hmt))) (by have := w2 (t + 1); rw [ex_take hmt] at this; exact this)) fun vn H7 s8 pn => ?_
    refine ⟨vn, _, _, rfl, s5.trans (s7.trans s8), s6.trans (s7.trans s8), ?_⟩
    rw [ex_take hmt]
    exact pn
  · rintro σ H5 ⟨y5, y6, y7, rfl, s5, s6, p8⟩
    rw [List.length_map, List.take_of_length_le (by rw [emv, List.length_map]; exact Nat.le_refl _)] at p8
    refine one_ret (ev_R2 (K := K) (f := fun x y => x + y) (x := rwd gs u p) (y := b * ex (mvs gs u p) W) (by
        rw [erw]
        exact ev_ixT (K := K) (i := s) (Ps := gm.rew.map (pR K)) (ev_ixT (K := K) (i := 0) (eg _ H5 s5 rfl rfl) (ev_int (i := 0)) rfl rfl (st_gparts gm)) (es _ H5 s5 rfl rfl) rfl (map_get (game_rew hsn)) (stay_rs _)) (ev_R2 (K := K) (f := fun x y => x * y) (ev_v (i := 3) rfl stay_R.mono (stay_R.mono _ _ _ s5 h4)) (ev_v (i := 5) rfl stay_R.mono p8) w3) w4) fun v H6 s7 pv => q v H6 (s5.trans s7) pv
theorem d_law_expected (g : Got K mg "_law_expected" 80 ["_law_games_here", "_law_joint", "_law_at", "_law_discount_here", "_law_losses"]) (D__law_number : DefOk P w K mg base 1 "_law_number" ["_law_games_here", "_law_joint"] (spNum K)) (D__law_add : DefOk P w K mg base 2 "_law_add" ["_law_a", "_law_b"] (spR2 K fun x y => x + y)) (D__law_mul : DefOk P w K mg base 2 "_law_mul" ["_law_a", "_law_b"] (spR2 K fun x y => x * y)) :
    DefOk P w K mg base 3 "_law_expected" ["_law_games_here", "_law_joint", "_law_at", "_law_discount_here", "_law_losses"] (spLe K) := by
  refine def_of g sc80 (fun _ => rfl) fun fa cdv A outer s0 H vs Q E a hr sd al q => ?_
  obtain ⟨gs, u, p, W, b⟩ := a
  obtain ⟨fit, le, lt, ok, n9, w1, w2, w3⟩ := sd
  simp only at fit le lt ok w1 w2 w3 n9
  cases al with | cons h1 al => cases al with | cons h2 al => cases al with | cons h3 al => cases al with | cons h4 al => cases al with | cons h5 al => cases al with | nil =>
  rename_i v1 v2 v3 v4 v5
  have h1 : pTup K (gs.map (pGame K)) v1 H := h1
  have h2 : pJ u v2 H := h2
  obtain rfl : v3 = V.int (p : Nat) := h3
  have h4 : pR K b v4 H := h4
  have h5 : pTb K gs W v5 H := h5
  obtain ⟨gm, hg⟩ := get_of_lt lt
  obtain ⟨s, hs, hsn⟩ := fits_get fit hg
  have og := ok gm (List.mem_of_getElem? hg)
  have hul := fits_len fit
  have eu : u.getD p 0 = s := by rw [List.getD_eq_getElem?_getD, hs]; rfl
  have emv : mvs gs u p = (gm.row s).map fun tp => (num 0 gs (u.set p tp.1), tp.2) := by unfold mvs; rw [ga_of hg, eu]
  have stG := st_Gs (K := K) gs
  refine ⟨_, (pss_cons (ps_set (i := 5) sc80.nd rfl (.inl rfl) (pe_tup (pa_cons pe_int (pa_cons pe_int pa_nil))))
    (pss_cons (ps_for PassesOwn.never rfl (pi_tup (pe_ix ix_tup (pe_ix ix_tup (pe_ix ix_tup (pv 0) (pv 2) (fun _ _ => rfl)) pe_int (fun _ _ => rfl)) (pe_ix ix_tup (pv 1) (pv 2) (fun _ _ => rfl)) (fun _ _ => rfl))) (pg_name (i := 6) sc80.nd rfl (.inl rfl))
    (pss_cons (ps_set (i := 7) sc80.nd rfl (.inl rfl) (pe_op op_catA (pe_op op_catA (pe_slice sl_tupA (pv 1) po_none (po_some (pv 2))) (pe_tup (pa_cons (pe_ix ix_tup (pv 6) pe_int (fun _ _ => rfl)) pa_nil))) (pe_slice sl_tupA (pv 1) (po_some (pe_op op_add (pv 2) pe_int)) po_none)))
    (pss_one (ps_set (i := 5) sc80.nd rfl (.inl rfl) (pe_callD D__law_add (hr.mono (by decide)) (by rfl) (pa_cons (pv 5) (pa_cons (pe_callD D__law_mul (hr.mono (by decide)) (by rfl) (pa_cons (pe_ix ix_tup (pv 6) pe_int (fun _ _ => rfl)) (pa_cons (pe_ix ix_tup (pv 4) (pe_callD D__law_number (hr.mono (by decide)) (by rfl) (pa_cons (pv 0) (pa_cons (pv 7) pa_nil))) (fun _ _ => rfl)) pa_nil))) pa_nil)))))))
    (pss_one (ps_ret (pe_callD D__law_mul (hr.mono (by decide)) (by rfl) (pa_cons (pv 3) (pa_cons (pv 5) pa_nil))))))), ?_⟩
  refine seq_set (ev_01 (K := K) (n := 0) (d := 1) rfl) fun vl H1 s1 pl => ?_
  have pl : pR K 0 vl H1 := pR_zero pl
  have eg : ∀ (σ : L2.St) (H2 : Hp), Same H H2 → σ[0]? = some (some v1) → σ[2]? = some (some (.int (p : Nat))) → Ev (tOp (rIxT K) (tVar 0) (tVar 2)) σ H2 (pGame K gm) := fun σ H2 s2 h0 h2 => ev_ixT (K := K) (i := p) (ev_v (i := 0) h0 (stay_tup stG).mono ((stay_tup stG).mono _ _ _ s2 h1)) (ev_v (i := 2) (P := pInt (p : Nat)) h2 stay_int.mono rfl) rfl (map_get hg) stG
  have es : ∀ (σ : L2.St) (H2 : Hp), Same H H2 → σ[1]? = some (some v2) → σ[2]? = some (some (.int (p : Nat))) → Ev (tOp (rIxT K) (tVar 1) (tVar 2)) σ H2 (pInt (s : Int)) := fun σ H2 s2 h0 h3 => ev_ixT (K := K) (i := p) (Ps := u.map fun n : Nat => pInt (n : Int)) (Ev.imp (ev_v (i := 1) (P := pJ u) h0 st_J.mono (st_J.mono _ _ _ s2 h2)) fun v H' _ p => p.tup) (ev_v (i := 2) (P := pInt (p : Nat)) h3 stay_int.mono rfl) rfl (map_get hs) (st_ints u)
  have hmov : Ev (tOp (rIxT K) (tOp (rIxT K) (tOp (rIxT K) (tVar 0) (tVar 2)) (tC (.int 1))) (tOp (rIxT K) (tVar 1) (tVar 2))) [some v1, some v2, some (.int (p : Nat)), some v4, some v5, some vl, none, none] H1 (pMov K (gm.row s)) :=
    ev_ixT (K := K) (i := s) (Ps := gm.mov.map (pMov K)) (ev_ixT (K := K) (i := 1) (eg _ H1 s1 rfl rfl) (ev_int (i := 1)) rfl rfl (st_gparts gm)) (es _ H1 s1 rfl rfl) rfl (map_get (game_row (by rw [og.len]; exact hsn))) (stay_map fun _ => st_mov)
  refine for_T (K := K) hmov (stay_map fun _ => st_tp) fun vrow H4 s4 prow => ⟨fun t σ H' => ∃ (y5 : V) (y6 y7 : Option V), σ = [some v1, some v2, some (.int (p : Nat)), some v4, some v5, some y5, y6, y7] ∧ Same H H' ∧ Same H4 H' ∧ pR K (ex ((mvs gs u p).take t) W) y5 H',
    ⟨vl, none, none, rfl, s1.trans s4, Same.refl _, by simp only [List.take_zero, ex]; exact stay_R.mono _ _ _ s4 pl⟩, ?_, ?_, ?_⟩
  · rintro t σ H' ⟨y5, y6, y7, rfl, s5, s6, p8⟩
    exact Same.stb s6
  · rintro t x P σ H5 hP px ⟨y5, y6, y7, rfl, s5, s6, p8⟩
    obtain ⟨tp, htp⟩ := get_of_lt (l := gm.row s) (i := t) (by have := lt_of_get hP; rwa [List.length_map] at this)
    rw [map_get htp] at hP
    cases hP
    have px : pTP K tp x H5 := px
    have hmem := List.mem_of_getElem? htp
    have htn := (og.rows s hsn).tgt tp hmem
    have hf := fits_set fit hg htn
    have hnum := num_get hf
    have hlt := (List.getElem?_eq_some_iff.mp hnum).1
    have stp : ∀ P ∈ [pInt (tp.1 : Int), pR K tp.2], Stay P := stay_cons stay_int (stay_cons stay_R stay_nil)
    have hmt : (mvs gs u p)[t]? = some (num 0 gs (u.set p tp.1), tp.2) := by rw [emv]; exact map_get htp
    refine seq_set (ev_setJ (K := K) (u := u) (p := p) (s := tp.1) (ev_v (i := 1) rfl st_J.mono (st_J.mono _ _ _ s5 h2)) (ev_v (i := 2) (P := pInt (p : Nat)) rfl stay_int.mono rfl) (ev_ixT (K := K) (i := 0) (ev_v (i := 6) rfl st_tp.mono px) (ev_int (i := 0)) rfl rfl stp) (by omega) (by omega)) fun va H6 s7 pa => ?_
    refine one_set (ev_R2 (K := K) (f := fun x y => x + y) (ev_v (i := 5) rfl stay_R.mono (stay_R.mono _ _ _ s7 p8)) (ev_R2 (K := K) (f := fun x y => x * y) (x := tp.2) (y := W (num 0 gs (u.set p tp.1))) (ev_ixT (K := K) (i := 1) (ev_v (i := 6) rfl st_tp.mono (st_tp.mono _ _ _ s7 px)) (ev_int (i := 1)) rfl rfl stp)
      (ev_ixT (K := K) (i := num 0 gs (u.set p tp.1)) (ev_v (i := 4) rfl st_tb.mono (st_tb.mono _ _ _ (s5.trans s7) h5)) (ev_num (ev_v (i := 0) rfl (stay_tup stG).mono ((stay_tup stG).mono _ _ _ (s5.trans s7) h1)) (ev_v (i := 7) rfl st_J.mono pa) hf le n9) rfl (range_get hlt) (st_tbl gs W)) (w1 _ (List.mem_of_getElem? hmt))) (by have := w2 (t + 1); rw [ex_take hmt] at this; exact this)) fun vn H7 s8 pn => ?_
    refine ⟨vn, _, _, rfl, s5.trans (s7.trans s8), s6.trans (s7.trans s8), ?_⟩
    rw [ex_take hmt]
    exact pn
  · rintro σ H5 ⟨y5, y6, y7, rfl, s5, s6, p8⟩
    rw [List.length_map, List.take_of_length_le (by rw [emv, List.length_map]; exact Nat.le_refl _)] at p8
    exact one_ret (ev_R2 (K := K) (f := fun x y => x * y) (ev_v (i := 3) rfl stay_R.mono (stay_R.mono _ _ _ s5 h4)) (ev_v (i := 5) rfl stay_R.mono p8) w3) fun v H6 s7 pv => q v H6 (s5.trans s7) pv
end
end AC
end
section
set_option maxRecDepth 100000
set_option exponentiation.threshold 20000
/-! The walk: the law's questions. -/
namespace AC
open PySem PySem.Spec PyProof.Rows L2 ACD
variable {K : PySem.W.Frag}
/-- a company as the law draws it -/
structure CoK (gs : List Game) : Prop where
  gm : ∀ g ∈ gs, GmK g
  shape : (gs.length = 1 ∧ ∀ g ∈ gs, g.n ≤ 5) ∨ (gs.length ≤ 2 ∧ ∀ g ∈ gs, g.n ≤ 3) ∨ (gs.length ≤ 3 ∧ ∀ g ∈ gs, g.n ≤ 2) ∨ (gs.length ≤ 5 ∧ ∀ g ∈ gs, g.n ≤ 1)
  ne : gs ≠ []
structure ChK (gs : List Game) (cs : List Nat) : Prop where
  len : cs.length = (joints gs).length
  lt : ∀ c ∈ cs, c < gs.length
theorem CoK.n9 {gs : List Game} (h : CoK gs) : ∀ g ∈ gs, g.n ≤ 900 := fun g hg => by have := (h.gm g hg).le; omega
theorem CoK.ok {gs : List Game} (h : CoK gs) : ∀ g ∈ gs, GameOk g := fun g hg => (h.gm g hg).ok
theorem CoK.le {gs : List Game} (h : CoK gs) : gs.length ≤ 5 := by rcases h.shape with h | h | h | h <;> omega
/-- all that must be small for a company and a discount -/
structure Szs (gs : List Game) (b : Rat) : Prop where
  js : JsK gs
  jl : (joints gs).length ≤ 50
  vt : ∀ g0 rest, gs = g0 :: rest → VtK (g0, rest, b)
  pl : ∀ u p, Fits gs u → p < gs.length → PlK ⟨gs, u, p, bV b gs, b⟩
/-- .. and a table of choices -/
structure SzC (gs : List Game) (cs : List Nat) (b : Rat) : Prop where
  cv : CvK (gs, cs, b)
  px : ∀ k, k < (joints gs).length → PlK ⟨gs, ju gs k, cs.getD k 0, cX gs cs b, b⟩
  cost : ∀ k, k < (joints gs).length → Ok (bV b gs k - ply b gs (bV b gs) (ju gs k) (cs.getD k 0))
  loss : ∀ k, k < (joints gs).length → Ok (bV b gs k - cX gs cs b k)
  ex : ∀ k, k < (joints gs).length → ExK ⟨gs, ju gs k, cs.getD k 0, fun t => bV b gs t - cX gs cs b t, b⟩
def spBest (K : PySem.W.Frag) : Sp := Spc (fun a : List Game × Rat => [pTup K (a.1.map (pGame K)), pR K a.2, pIs .non, pTb K a.1 (bV a.2 a.1)]) (fun a => CoK a.1 ∧ 0 ≤ a.2 ∧ a.2 < 1 ∧ Szs a.1 a.2) fun _ => pBl true
def spGames (K : PySem.W.Frag) : Sp := Spc (fun a : List Int × Nat × Nat => [pLst K (a.1.map pInt), pInt (a.2.1 : Nat), pInt (a.2.2 : Nat)]) (fun a => a.2.1 ≤ 10) fun _ v H => ∃ gs, CoK gs ∧ pTup K (gs.map (pGame K)) v H
def spCh (K : PySem.W.Frag) : Sp := Spc (fun a : Int × List Game => [pInt a.1, pTup K (a.2.map (pGame K))]) (fun a => CoK a.2 ∧ JsK a.2 ∧ (joints a.2).length ≤ 50) fun a v H => ∃ cs, ChK a.2 cs ∧ pNats K cs v H
structure FoA where
  gs : List Game
  cs : List Nat
  b : Rat
structure FoK (a : FoA) : Prop where
  co : CoK a.gs
  ch : ChK a.gs a.cs
  b0 : 0 ≤ a.b
  b1 : a.b < 1
  s : Szs a.gs a.b
  c : SzC a.gs a.cs a.b
theorem FoK.cp {a : FoA} (h : FoK a) : ∀ k, k < (joints a.gs).length → a.cs.getD k 0 < a.gs.length := fun k hk => h.ch.lt _ (List.mem_of_getElem? (getD_get (by rw [h.ch.len]; exact hk)))
def spFo (K : PySem.W.Frag) : Sp := Spc (fun a : FoA => [pTup K (a.gs.map (pGame K)), pNats K a.cs, pR K a.b, pTb K a.gs (cX a.gs a.cs a.b)]) FoK fun _ => pBl true
def spAu (K : PySem.W.Frag) : Sp := Spc (fun a : FoA => [pTup K (a.gs.map (pGame K)), pNats K a.cs, pR K a.b, pTb K a.gs (bV a.b a.gs)]) FoK fun _ => pBl true
theorem sc76 : FnScope ["_law_games_here", "_law_discount_here", "_law_halt", "_law_table", "_law_joints_here", "_law_k", "_law_best", "_law_at", "_law_gain"] ["_law_games_here", "_law_discount_here", "_law_halt", "_law_table"] (defScope (topS 76)) := ⟨rfl, rfl, rfl, by decide +kernel, rfl, by decide +kernel, by decide +kernel⟩
theorem sc77 : FnScope ["_law_script", "_law_first", "_law_draw", "_law_count", "_law_most", "_law_games_here", "_law_k"] ["_law_script", "_law_first", "_law_draw"] (defScope (topS 77)) := ⟨rfl, rfl, rfl, by decide +kernel, rfl, by decide +kernel, by decide +kernel⟩
theorem sc78 : FnScope ["_law_cell_here", "_law_games_here", "_law_draws_here", "_law_draw"] ["_law_cell_here", "_law_games_here"] (defScope (topS 78)) := ⟨rfl, rfl, rfl, by decide +kernel, rfl, by decide +kernel, by decide +kernel⟩
theorem sc79 : FnScope ["_law_games_here", "_law_choices_here", "_law_discount_here", "_law_values", "_law_joints_here", "_law_k"] ["_law_games_here", "_law_choices_here", "_law_discount_here", "_law_values"] (defScope (topS 79)) := ⟨rfl, rfl, rfl, by decide +kernel, rfl, by decide +kernel, by decide +kernel⟩
theorem sc81 : FnScope ["_law_games_here", "_law_choices_here", "_law_discount_here", "_law_table", "_law_joints_here", "_law_values", "_law_costs", "_law_losses", "_law_k", "_law_gain"] ["_law_games_here", "_law_choices_here", "_law_discount_here", "_law_table"] (defScope (topS 81)) := ⟨rfl, rfl, rfl, by decide +kernel, rfl, by decide +kernel, by decide +kernel⟩
theorem sc82 : FnScope ["_law_script", "_law_draws_here", "_law_discount_here", "_law_games_here", "_law_table", "_law_tables", "_law_k"] ["_law_script"] (defScope (topS 82)) := ⟨rfl, rfl, rfl, by decide +kernel, rfl, by decide +kernel, by decide +kernel⟩
section
variable {σ : L2.St} {H : Hp} {te tb tc : TE}
theorem ev_isN {v : V} (ha : Ev te σ H (pIs v)) : Ev (tOp (fun x y H Q => y = .non ∧ Q (.bl (decide (x = .non))) H) te (tC .non)) σ H (pBl (decide (v = .non))) := fun H1 e Q q =>
  ha H1 e _ fun x H2 s2 p => ⟨rfl, by
    obtain rfl : x = v := p
    exact q _ H2 s2 rfl⟩
theorem ev_lj {gs : List Game} (h : Ev te σ H (pTup K (gs.map (pGame K)))) (j : JsK gs) (n9 : ∀ g ∈ gs, g.n ≤ 900) : Ev (tCall (spLj K) [] E0 (tCons te tNil)) σ H (pLst K ((joints gs).map pJ)) :=
  ev_call (args := fun gs : List Game => [pTup K (gs.map (pGame K))]) (side := fun gs => JsK gs ∧ ∀ g ∈ gs, g.n ≤ 900) (post := fun gs => pLst K ((joints gs).map pJ)) gs ⟨j, n9⟩ (eva_cons h (stay_tup (st_Gs gs)).mono eva_nil)
theorem ev_lp {ta td tt : TE} {gs : List Game} {u : List Nat} {p : Nat} {W : Nat → Rat} {b : Rat} (hg : Ev te σ H (pTup K (gs.map (pGame K)))) (hu : Ev tb σ H (pJ u)) (hp : Ev ta σ H (pInt (p : Nat))) (hb : Ev td σ H (pR K b)) (hW : Ev tt σ H (pTb K gs W)) (k : PlK ⟨gs, u, p, W, b⟩) (n9 : ∀ g ∈ gs, g.n ≤ 900) :
    Ev (tCall (spLp K) [] E0 (tCons te (tCons tb (tCons ta (tCons td (tCons tt tNil)))))) σ H (pR K (ply b gs W u p)) :=
  ev_call (args := fun a : PlA => [pTup K (a.gs.map (pGame K)), pJ a.u, pInt (a.p : Nat), pR K a.b, pTb K a.gs a.W]) (side := fun a => PlK a ∧ ∀ g ∈ a.gs, g.n ≤ 900) (post := fun a => pR K (ply a.b a.gs a.W a.u a.p)) ⟨gs, u, p, W, b⟩ ⟨k, n9⟩
    (eva_cons hg (stay_tup (st_Gs gs)).mono (eva_cons hu st_J.mono (eva_cons hp stay_int.mono (eva_cons hb stay_R.mono (eva_cons hW st_tb.mono eva_nil)))))
/-- the check of a table of ratios -/
theorem ev_rs {gs : List Game} {W : Nat → Rat} (hW : Ev te σ H (pTb K gs W)) (hn : Ev tb σ H (pInt ((joints gs).length : Nat))) : Ev (tCall (spRs K) [] E0 (tCons te (tCons tb tNil))) σ H (pBl true) :=
  ev_call (args := fun a : List Rat => [pTup K (a.map (pR K)), pInt (a.length : Nat)]) (side := fun _ => True) (post := fun _ => pBl true) ((List.range (joints gs).length).map W) trivial
    (eva_cons (P := pTup K (((List.range (joints gs).length).map W).map (pR K))) (by rw [List.map_map]; exact hW) (stay_tup (stay_rs _)).mono (eva_cons (P := pInt (((List.range (joints gs).length).map W).length : Nat)) (by rw [List.length_map, List.length_range]; exact hn) stay_int.mono eva_nil))
end
section
variable {P : Program} {w : World} {mg : Str → Option Value} {base : Heap}
theorem d_law_is_best (g : Got K mg "_law_is_best" 76 ["_law_games_here", "_law_discount_here", "_law_halt", "_law_table"]) (m_range : mg "range" = none) (m_len : mg "len" = none) (D__law_joints : DefOk P w K mg base 1 "_law_joints" ["_law_games_here"] (spLj K)) (D__law_ratios : DefOk P w K mg base 3 "_law_ratios" ["_law_values", "_law_count"] (spRs K))
    (D__law_played : DefOk P w K mg base 3 "_law_played" ["_law_games_here", "_law_joint", "_law_at", "_law_discount_here", "_law_table"] (spLp K)) (D__law_less : DefOk P w K mg base 1 "_law_less" ["_law_a", "_law_b"] (spLess K)) :
    DefOk P w K mg base 4 "_law_is_best" ["_law_games_here", "_law_discount_here", "_law_halt", "_law_table"] (spBest K) := by
  refine def_of g sc76 (fun _ => rfl) fun fa cdv A outer s0 H vs Q E a hr sd al q => ?_
  obtain ⟨gs, b⟩ := a
  obtain ⟨co, b0, b1, sz⟩ := sd
  simp only at co b0 b1 sz
  cases al with | cons h1 al => cases al with | cons h2 al => cases al with | cons h3 al => cases al with | cons h4 al => cases al with | nil =>
  rename_i v1 v2 v3 v4
  have h1 : pTup K (gs.map (pGame K)) v1 H := h1
  have h2 : pR K b v2 H := h2
  obtain rfl : v3 = V.non := h3
  have h4 : pTb K gs (bV b gs) v4 H := h4
  have stG := st_Gs (K := K) gs
  have moJ : Mono (pLst K ((joints gs).map pJ)) := mono_lst (stay_mono (st_Js gs))
  have n9 := co.n9
  have gl := co.le
  refine ⟨_, (pss_cons (ps_set (i := 4) sc76.nd rfl (.inl rfl) (pe_callD D__law_joints (hr.mono (by decide)) (by rfl) (pa_cons (pv 0) pa_nil)))
    (pss_cons (ps_if (pt_not (pt_val (pe_callD D__law_ratios (hr.mono (by decide)) (by rfl) (pa_cons (pv 3) (pa_cons (pe_callB call_len_seq (by rfl) m_len PySem.boot_len (pa_cons (pv 4) pa_nil)) pa_nil))))) (pss_one (ps_ret pe_bl)) pss_nil)
    (pss_cons (ps_for PassesOwn.never rfl (pi_range1 rfl m_range (pa_cons (pe_callB call_len_seq (by rfl) m_len PySem.boot_len (pa_cons (pv 4) pa_nil)) pa_nil)) (pg_name (i := 5) sc76.nd rfl (.inl rfl))
    (pss_cons (ps_set (i := 6) sc76.nd rfl (.inl rfl) (pv 2))
    (pss_cons (ps_for PassesOwn.never rfl (pi_range1 rfl m_range (pa_cons (pe_callB call_len_seq (by rfl) m_len PySem.boot_len (pa_cons (pv 0) pa_nil)) pa_nil)) (pg_name (i := 7) sc76.nd rfl (.inl rfl))
    (pss_cons (ps_set (i := 8) sc76.nd rfl (.inl rfl) (pe_callD D__law_played (hr.mono (by decide)) (by rfl) (pa_cons (pv 0) (pa_cons (pe_ix ix_list (pv 4) (pv 5) (fun _ _ => rfl)) (pa_cons (pv 7) (pa_cons (pv 1) (pa_cons (pv 3) pa_nil)))))))
    (pss_one (ps_if (PW.pt (pw_or (pt_cmpR op_isN (pv 6) pe_non (nomark _)) (pw_or1 (pt_val (pe_callD D__law_less (hr.mono (by decide)) (by rfl) (pa_cons (pv 6) (pa_cons (pv 8) pa_nil))))))) (pss_one (ps_set (i := 6) sc76.nd rfl (.inl rfl) (pv 8))) pss_nil))))
    (pss_one (ps_if (pt_cmpR (op_neD hr.units) (pv 6) (pe_ix ix_tup (pv 3) (pv 5) (fun _ _ => rfl)) (nomark _)) (pss_one (ps_ret pe_bl)) pss_nil)))))
    (pss_one (ps_ret pe_bl))))), ?_⟩
  refine seq_set (ev_lj (ev_v (i := 0) rfl (stay_tup stG).mono h1) sz.js n9) fun vj H1 s1 pj => ?_
  have hlen : ∀ H2, Same H1 H2 → ∀ σ : L2.St, σ[4]? = some (some vj) → Ev (tCB (fun xs H Q => ∃ p ys, xs = [.ref p] ∧ (SqL K H p ys ∨ SqT K H p ys) ∧ Q (.int ys.length) H) (tCons (tVar 4) tNil)) σ H2 (pInt ((joints gs).length : Nat)) := fun H2 s2 σ h0 => by
    have e := ev_len (K := K) (ta := tVar 4) (H := H2) (σ := σ) (ev_v (i := 4) h0 moJ (moJ _ _ _ s2 pj))
    rw [List.length_map] at e
    exact e
  refine seq_if (b := false) (et_not (a := true) (et_B (ev_rs (ev_v (i := 3) rfl st_tb.mono (st_tb.mono _ _ _ s1 h4)) (hlen H1 (Same.refl _) _ rfl)))) fun H2 s2 => ?_
  refine iteF ?_
  have s02 := s1.trans s2
  have jl := sz.jl
  refine for_R (n := (joints gs).length) (iw_range1 (n := (joints gs).length) (eva_cons (hlen H2 s2 _ rfl) stay_int.mono eva_nil) (by omega) H2 (Same.refl _)) (fun k σ H' => ∃ y5 y6 y7 y8 : Option V, σ = [some v1, some v2, some .non, some v4, some vj, y5, y6, y7, y8] ∧ Same H2 H') (fun H3 s3 => ⟨none, none, none, none, rfl, s3⟩) ?_ ?_
  · rintro k σ H3 hk ⟨y5, y6, y7, y8, rfl, s3⟩
    have s03 := s02.trans s3
    obtain ⟨u, hu⟩ := get_of_lt hk
    have fit : Fits gs u := mem_joints.mp (List.mem_of_getElem? hu)
    have eV : bV b gs k = floorK (pkJ b gs u) := by unfold bV; rw [ju_of hu]
    obtain ⟨bl1, bl2⟩ := bell co.ok b0 b1 fit
    refine seq_set (ev_v (i := 2) (P := pIs .non) rfl stay_is.mono rfl) fun vb H4 s4 pb => ?_
    obtain rfl : vb = V.non := pb
    refine for_R (n := gs.length) (iw_range1 (n := gs.length) (eva_cons (by
        have e := ev_lenT (K := K) (ta := tVar 0) (H := H4) (σ := [some v1, some v2, some .non, some v4, some vj, some (.int (0 + (k : Nat))), some .non, y7, y8]) (ev_v (i := 0) rfl (stay_tup stG).mono ((stay_tup stG).mono _ _ _ (s03.trans s4) h1))
        rw [List.length_map] at e
        exact e) stay_int.mono eva_nil) (by omega) H4 (Same.refl _)) (fun i σ H' => ∃ (vb : V) (y7 y8 : Option V), σ = [some v1, some v2, some .non, some v4, some vj, some (.int (0 + (k : Nat))), some vb, y7, y8] ∧ Same H2 H' ∧ ((i = 0 ∧ vb = .non) ∨ (vb ≠ .non ∧ ∃ x, pR K x vb H' ∧ (∀ p, p < i → ply b gs (bV b gs) u p ≤ x) ∧ ∃ p, p < i ∧ x = ply b gs (bV b gs) u p)))
      (fun H5 s5 => ⟨.non, y7, y8, rfl, s3.trans (s4.trans s5), .inl ⟨rfl, rfl⟩⟩) ?_ ?_
    · rintro i σ H5 hi ⟨vb, y7, y8, rfl, s5, hb⟩
      have s05 := s02.trans s5
      -- gain
      refine seq_set (ev_lp (ev_v (i := 0) rfl (stay_tup stG).mono ((stay_tup stG).mono _ _ _ s05 h1)) (ev_ixL (K := K) (i := k) (ev_v (i := 4) rfl moJ (moJ _ _ _ (s2.trans s5) pj)) (ev_v (i := 5) (P := pInt (0 + (k : Nat))) rfl stay_int.mono rfl) (by omega) (map_get hu) (st_Js gs)) (Ev.imp (ev_v (i := 7) (P := pInt (0 + (i : Nat))) rfl stay_int.mono rfl) fun v H' _ p => by rw [Int.zero_add] at p; exact p) (ev_v (i := 1) rfl stay_R.mono (stay_R.mono _ _ _ s05 h2)) (ev_v (i := 3) rfl st_tb.mono (st_tb.mono _ _ _ s05 h4)) (sz.pl u i fit hi) n9) fun vg H6 s6 pg => ?_
      have hvg : vg ≠ .non := by obtain ⟨_, e, _⟩ := pg; rw [e]; intro z; cases z
      rcases hb with ⟨rfl, rfl⟩ | ⟨nb, x, px, m1, p0, hp0, ex0⟩
      · refine one_if (b := true) (et_or (a := true) (b := true) (et_test (Ev.imp (ev_isN (ev_v (i := 6) (P := pIs .non) rfl stay_is.mono rfl)) fun v H' _ p => p)) (fun z => nomatch z) (fun _ => rfl)) fun H7 s7 => ?_
        refine iteT ?_
        refine one_set (ev_v (i := 8) (P := fun v H => v = vg ∧ pR K (ply b gs (bV b gs) u 0) v H) rfl (fun v H H' s p => ⟨p.1, stay_R.mono _ _ _ s p.2⟩) ⟨rfl, stay_R.mono _ _ _ s7 pg⟩) fun vn H8 s8 pn => ?_
        obtain ⟨rfl, pn⟩ := pn
        exact ⟨_, _, _, rfl, s5.trans (s6.trans (s7.trans s8)), .inr ⟨hvg, _, pn, fun p hp => by rw [show p = 0 by omega]; exact Rat.le_refl, 0, by omega, rfl⟩⟩
      · have px6 := stay_R.mono _ _ _ s6 px
        refine one_if (b := decide (x < ply b gs (bV b gs) u i)) (et_or (a := false) (et_test (Ev.imp (ev_isN (ev_v (i := 6) (P := pIs vb) rfl stay_is.mono rfl)) fun v H' _ p => by rw [decide_eq_false nb] at p; exact p)) (fun _ => et_B (ev_call (args := fun a : Rat × Rat => [pR K a.1, pR K a.2]) (side := fun _ => True) (post := fun a => pBl (decide (a.1 < a.2))) (x, ply b gs (bV b gs) u i) trivial (eva_cons (ev_v (i := 6) rfl stay_R.mono px6) stay_R.mono (eva_cons (ev_v (i := 8) rfl stay_R.mono pg) stay_R.mono eva_nil)))) (fun z => nomatch z)) fun H7 s7 => ?_
        refine ite2 (fun z => ?_) (fun z => ?_)
        · have z := of_decide_eq_true z
          refine one_set (ev_v (i := 8) (P := fun v H => v = vg ∧ pR K (ply b gs (bV b gs) u i) v H) rfl (fun v H H' s p => ⟨p.1, stay_R.mono _ _ _ s p.2⟩) ⟨rfl, stay_R.mono _ _ _ s7 pg⟩) fun vn H8 s8 pn => ?_
          obtain ⟨rfl, pn⟩ := pn
          refine ⟨_, _, _, rfl, s5.trans (s6.trans (s7.trans s8)), .inr ⟨hvg, _, pn, fun p hp => ?_, i, by omega, rfl⟩⟩
          by_cases e : p = i
          · rw [e]; exact Rat.le_refl
          · have := m1 p (by omega); grind
        · have z : ply b gs (bV b gs) u i ≤ x := by
            by_cases c : x < ply b gs (bV b gs) u i
            · exact absurd (decide_eq_true c) z
            · grind
          refine ⟨vb, _, _, rfl, s5.trans (s6.trans s7), .inr ⟨nb, x, stay_R.mono _ _ _ s7 px6, fun p hp => ?_, p0, by omega, ex0⟩⟩
          by_cases e : p = i
          · rw [e]; exact z
          · exact m1 p (by omega)
    · rintro σ H5 ⟨vb, y7, y8, rfl, s5, hb⟩
      have hl0 : 0 < gs.length := List.length_pos_iff.mpr co.ne
      rcases hb with ⟨z, _⟩ | ⟨nb, x, px, m1, p0, hp0, ex0⟩
      · omega
      have exV : x = bV b gs k := by
        rw [eV]
        obtain ⟨p, hp, ep⟩ := bl2 hl0
        have h1 := m1 p hp
        have h2 := bl1 p0 hp0
        rw [← ex0] at h2
        rw [← ep] at h1
        grind
      refine one_if (b := false) (et_test (Ev.imp (ev_neR (K := K) (y := bV b gs k) (ev_v (i := 6) rfl stay_R.mono px) (ev_ixT (K := K) (i := k) (ev_v (i := 3) rfl st_tb.mono (st_tb.mono _ _ _ (s02.trans s5) h4)) (ev_v (i := 5) (P := pInt (0 + (k : Nat))) rfl stay_int.mono rfl) (by omega) (range_get hk) (st_tbl gs _))) fun v H' _ p => by rw [decide_eq_true exV] at p; exact p)) fun H6 s6 => ?_
      refine iteF ?_
      exact ⟨_, _, _, _, rfl, s5.trans s6⟩
  · rintro σ H3 ⟨y5, y6, y7, y8, rfl, s3⟩
    exact one_ret ev_bl fun v H4 s5 p => q v H4 (s02.trans (s3.trans s5)) p
theorem d_law_choices (g : Got K mg "_law_choices" 78 ["_law_cell_here", "_law_games_here"]) (m_len : mg "len" = none) (m_int : mg "int" = none) (m_tuple : mg "tuple" = none) (D__law_joints : DefOk P w K mg base 1 "_law_joints" ["_law_games_here"] (spLj K)) (D__law_draws : DefOk P w K mg base 1 "_law_draws" ["_law_cell_here", "_law_count"] (spDraws K)) :
    DefOk P w K mg base 2 "_law_choices" ["_law_cell_here", "_law_games_here"] (spCh K) := by
  refine def_of g sc78 (fun _ => rfl) fun fa cdv A outer s0 H vs Q E a hr sd al q => ?_
  obtain ⟨c, gs⟩ := a
  obtain ⟨co, js, jl⟩ := sd
  simp only at co js jl
  cases al with | cons h1 al => cases al with | cons h2 al => cases al with | nil =>
  rename_i v1 v2
  obtain rfl : v1 = V.int c := h1
  have h2 : pTup K (gs.map (pGame K)) v2 H := h2
  have stG := st_Gs (K := K) gs
  have hl0 : 0 < gs.length := List.length_pos_iff.mpr co.ne
  refine ⟨_, (pss_cons (ps_set (i := 2) sc78.nd rfl (.inl rfl) (pe_callD D__law_draws (hr.mono (by decide)) (by rfl) (pa_cons (pv 0) (pa_cons (pe_callB call_len_seq (by rfl) m_len PySem.boot_len (pa_cons (pe_callD D__law_joints (hr.mono (by decide)) (by rfl) (pa_cons (pv 1) pa_nil)) pa_nil)) pa_nil))))
    (pss_one (ps_ret (pe_callTy call_tuple_of (by rfl) m_tuple (by decide +kernel) (pa_cons (pe_lc (own := [("_law_draw", 3)]) rfl sc78.nd (pi_list (pv 2)) (blkOk_by (N := ["_law_cell_here", "_law_games_here", "_law_draws_here", "_law_draw"]) (sc := defScope (topS 78)) (by decide +kernel)) (fun _ _ _ _ _ => (pg_name (i := 3) sc78.nd rfl (Or.inl rfl))) (fun _ _ _ _ _ => pts_nil) (fun _ _ _ _ _ => (pe_op op_mod (pe_callTy call_int1 (by rfl) m_int (by decide +kernel) (pa_cons (pv 3) pa_nil)) (pe_callB (call_lenK (K := K) rfl) (by rfl) m_len PySem.boot_len (pa_cons (pv 1) pa_nil))))) pa_nil))))), ?_⟩
  refine seq_set (ev_call (args := fun a : Int × Nat => [pInt a.1, pInt (a.2 : Nat)]) (side := fun a => a.2 ≤ 900) (post := fun a => pDraws K a.2) (c, (joints gs).length) (show (joints gs).length ≤ 900 by omega) (eva_cons (ev_v (i := 0) (P := pInt c) rfl stay_int.mono rfl) stay_int.mono (eva_cons (by
      have e := ev_len (K := K) (ev_lj (K := K) (σ := start ["_law_cell_here", "_law_games_here", "_law_draws_here", "_law_draw"] [.int c, v2]) (H := H) (ev_v (i := 1) rfl (stay_tup stG).mono h2) js co.n9)
      rw [List.length_map] at e
      exact e) stay_int.mono eva_nil))) fun vd H1 s1 pd => ?_
  obtain ⟨ds, dl, dlt, pd⟩ := pd
  have dl : ds.length = (joints gs).length := dl
  have moD : Mono (pLst K (ds.map fun d : Nat => pInt (d : Int))) := mono_lst fun P hP => (st_ints ds P hP).mono
  refine one_ret (P := pNats K (ds.map fun d => d % gs.length)) (ev_tupleL (K := K) (Ps := (ds.map fun d => d % gs.length).map fun s : Nat => pInt (s : Int)) (Ev.imp (ev_lcL (K := K) (Ps := ds.map fun d : Nat => pInt (d : Int)) (Rs := (ds.map fun d => d % gs.length).map fun s : Nat => pInt (s : Int)) (ev_v (i := 2) rfl moD pd) (stay_mono (st_ints ds)) (by simp) (st_ints _) (by simp; omega) (fun j P R v H' hP hR s' pv => ?_)) fun v H' _ p => p.lst) (st_ints _)) fun v H2 s2 p => q v H2 (s1.trans s2) ⟨_, ⟨by rw [List.length_map, dl], fun z hz => ?_⟩, p⟩
  · have hj : j < ds.length := by have := lt_of_get hP; simpa using this
    obtain ⟨d, hd⟩ := get_of_lt hj
    rw [map_get hd] at hP
    rw [map_get (map_get hd)] at hR
    cases hP
    cases hR
    refine Ev.imp (ev_modI (j := (gs.length : Nat)) (by omega) (ev_intI (ev_v (i := 3) (P := pInt (d : Int)) rfl stay_int.mono pv)) (by
      have e := ev_lenT (K := K) (ta := tVar 1) (H := H') (σ := (wipe [some (.int c), some v2, some vd, none] [3]).set 3 (some v)) (ev_v (i := 1) rfl (stay_tup stG).mono ((stay_tup stG).mono _ _ _ (s1.trans s') h2))
      rw [List.length_map] at e
      exact e)) fun x H2 _ p => by
      rw [Int.natCast_emod]
      exact p
  · obtain ⟨d, _, rfl⟩ := List.mem_map.mp hz
    exact Nat.mod_lt _ hl0
theorem d_law_is_followed (g : Got K mg "_law_is_followed" 79 ["_law_games_here", "_law_choices_here", "_law_discount_here", "_law_values"]) (m_range : mg "range" = none) (m_len : mg "len" = none) (D__law_joints : DefOk P w K mg base 1 "_law_joints" ["_law_games_here"] (spLj K)) (D__law_ratios : DefOk P w K mg base 3 "_law_ratios" ["_law_values", "_law_count"] (spRs K))
    (D__law_played : DefOk P w K mg base 3 "_law_played" ["_law_games_here", "_law_joint", "_law_at", "_law_discount_here", "_law_table"] (spLp K)) : DefOk P w K mg base 4 "_law_is_followed" ["_law_games_here", "_law_choices_here", "_law_discount_here", "_law_values"] (spFo K) := by
  refine def_of g sc79 (fun _ => rfl) fun fa cdv A outer s0 H vs Q E a hr sd al q => ?_
  have hcp := sd.cp
  obtain ⟨gs, cs, b⟩ := a
  obtain ⟨co, ch, b0, b1, sz, sc⟩ := sd
  simp only at co ch b0 b1 sz sc hcp
  cases al with | cons h1 al => cases al with | cons h2 al => cases al with | cons h3 al => cases al with | cons h4 al => cases al with | nil =>
  rename_i v1 v2 v3 v4
  have h1 : pTup K (gs.map (pGame K)) v1 H := h1
  have h2 : pNats K cs v2 H := h2
  have h3 : pR K b v3 H := h3
  have h4 : pTb K gs (cX gs cs b) v4 H := h4
  have stG := st_Gs (K := K) gs
  have moJ : Mono (pLst K ((joints gs).map pJ)) := mono_lst (stay_mono (st_Js gs))
  have n9 := co.n9
  refine ⟨_, (pss_cons (ps_set (i := 4) sc79.nd rfl (.inl rfl) (pe_callD D__law_joints (hr.mono (by decide)) (by rfl) (pa_cons (pv 0) pa_nil)))
    (pss_cons (ps_if (pt_not (pt_val (pe_callD D__law_ratios (hr.mono (by decide)) (by rfl) (pa_cons (pv 3) (pa_cons (pe_callB call_len_seq (by rfl) m_len PySem.boot_len (pa_cons (pv 4) pa_nil)) pa_nil))))) (pss_one (ps_ret pe_bl)) pss_nil)
    (pss_cons (ps_for PassesOwn.never rfl (pi_range1 rfl m_range (pa_cons (pe_callB call_len_seq (by rfl) m_len PySem.boot_len (pa_cons (pv 4) pa_nil)) pa_nil)) (pg_name (i := 5) sc79.nd rfl (.inl rfl))
    (pss_one (ps_if (pt_cmpR (op_neD hr.units) (pe_ix ix_tup (pv 3) (pv 5) (fun _ _ => rfl)) (pe_callD D__law_played (hr.mono (by decide)) (by rfl) (pa_cons (pv 0) (pa_cons (pe_ix ix_list (pv 4) (pv 5) (fun _ _ => rfl)) (pa_cons (pe_ix ix_tup (pv 1) (pv 5) (fun _ _ => rfl)) (pa_cons (pv 2) (pa_cons (pv 3) pa_nil)))))) (nomark _)) (pss_one (ps_ret pe_bl)) pss_nil)))
    (pss_one (ps_ret pe_bl))))), ?_⟩
  refine seq_set (ev_lj (ev_v (i := 0) rfl (stay_tup stG).mono h1) sz.js n9) fun vj H1 s1 pj => ?_
  have hlen : ∀ H2, Same H1 H2 → ∀ σ : L2.St, σ[4]? = some (some vj) → Ev (tCB (fun xs H Q => ∃ p ys, xs = [.ref p] ∧ (SqL K H p ys ∨ SqT K H p ys) ∧ Q (.int ys.length) H) (tCons (tVar 4) tNil)) σ H2 (pInt ((joints gs).length : Nat)) := fun H2 s2 σ h0 => by
    have e := ev_len (K := K) (ta := tVar 4) (H := H2) (σ := σ) (ev_v (i := 4) h0 moJ (moJ _ _ _ s2 pj))
    rw [List.length_map] at e
    exact e
  refine seq_if (b := false) (et_not (a := true) (et_B (ev_rs (ev_v (i := 3) rfl st_tb.mono (st_tb.mono _ _ _ s1 h4)) (hlen H1 (Same.refl _) _ rfl)))) fun H2 s2 => ?_
  refine iteF ?_
  have s02 := s1.trans s2
  have jl := sz.jl
  refine for_R (n := (joints gs).length) (iw_range1 (n := (joints gs).length) (eva_cons (hlen H2 s2 _ rfl) stay_int.mono eva_nil) (by omega) H2 (Same.refl _)) (fun k σ H' => ∃ y5 : Option V, σ = [some v1, some v2, some v3, some v4, some vj, y5] ∧ Same H2 H') (fun H3 s3 => ⟨none, rfl, s3⟩) ?_ ?_
  · rintro k σ H3 hk ⟨y5, rfl, s3⟩
    have s03 := s02.trans s3
    obtain ⟨u, hu⟩ := get_of_lt hk
    have eju : ju gs k = u := ju_of hu
    have hcs := getD_get (cs := cs) (k := k) (by rw [ch.len]; exact hk)
    have eX := cX_eq co.ok b0 b1 hcp hk
    have hpx := sc.px k hk
    rw [eju] at eX hpx
    refine one_if (b := false) (et_test (Ev.imp (ev_neR (K := K) (x := cX gs cs b k) (y := ply b gs (cX gs cs b) u (cs.getD k 0)) (ev_ixT (K := K) (i := k) (ev_v (i := 3) rfl st_tb.mono (st_tb.mono _ _ _ s03 h4)) (ev_v (i := 5) (P := pInt (0 + (k : Nat))) rfl stay_int.mono rfl) (by omega) (range_get hk) (st_tbl gs _))
      (ev_lp (ev_v (i := 0) rfl (stay_tup stG).mono ((stay_tup stG).mono _ _ _ s03 h1)) (ev_ixL (K := K) (i := k) (ev_v (i := 4) rfl moJ (moJ _ _ _ (s2.trans s3) pj)) (ev_v (i := 5) (P := pInt (0 + (k : Nat))) rfl stay_int.mono rfl) (by omega) (map_get hu) (st_Js gs)) (ev_ixT (K := K) (i := k) (ev_v (i := 1) rfl st_nats.mono (st_nats.mono _ _ _ s03 h2)) (ev_v (i := 5) (P := pInt (0 + (k : Nat))) rfl stay_int.mono rfl) (by omega) (map_get hcs) (st_ints cs)) (ev_v (i := 2) rfl stay_R.mono (stay_R.mono _ _ _ s03 h3)) (ev_v (i := 3) rfl st_tb.mono (st_tb.mono _ _ _ s03 h4)) hpx n9)) fun v H' _ p => by
        rw [decide_eq_true eX] at p; exact p)) fun H4 s4 => ?_
    refine iteF ?_
    exact ⟨_, rfl, s3.trans s4⟩
  · rintro σ H3 ⟨y5, rfl, s3⟩
    exact one_ret ev_bl fun v H4 s5 p => q v H4 (s02.trans (s3.trans s5)) p
theorem d_law_games (g : Got K mg "_law_games" 77 ["_law_script", "_law_first", "_law_draw"]) (m_range : mg "range" = none) (m_int : mg "int" = none) (m_tuple : mg "tuple" = none) (D__law_cell : DefOk P w K mg base 1 "_law_cell" ["_law_script", "_law_k"] (spCellA K)) (D__law_game : DefOk P w K mg base 3 "_law_game" ["_law_cell_here", "_law_most"] (spGm K)) :
    DefOk P w K mg base 4 "_law_games" ["_law_script", "_law_first", "_law_draw"] (spGames K) := by
  refine def_of g sc77 (fun _ => rfl) fun fa cdv A outer s0 H vs Q E a hr sd al q => ?_
  obtain ⟨ns, fi, dr⟩ := a
  have hfi : fi ≤ 10 := sd
  cases al with | cons h1 al => cases al with | cons h2 al => cases al with | cons h3 al => cases al with | nil =>
  rename_i v1 v2 v3
  have h1 : pLst K (ns.map pInt) v1 H := h1
  obtain rfl : v2 = V.int (fi : Nat) := h2
  obtain rfl : v3 = V.int (dr : Nat) := h3
  have stN : ∀ P ∈ ns.map pInt, Stay P := stay_map fun _ => stay_int
  have w2' : ∀ d : Int, 0 < d → d < 2 ^ 6 → CDivW (dr : Nat) d := fun d h1 h2 => wide_div (b := 6) h1 (by omega) (by omega) (by omega)
  -- what count and most may be
  let Sh : Nat → Nat → Prop := fun c m => 1 ≤ c ∧ 1 ≤ m ∧ m ≤ 5 ∧ ((c = 1) ∨ (c ≤ 2 ∧ m ≤ 3) ∨ (c ≤ 3 ∧ m ≤ 2) ∨ (c ≤ 5 ∧ m ≤ 1))
  have eD : ∀ (d e : Int) (H2 : Hp) (σ : L2.St), 0 < d → d < 2 ^ 6 → 0 < e → σ[2]? = some (some (.int (dr : Nat))) → Ev (tOp (rI (fun _ j => 0 < j) fun i j => .int (i % j)) (tOp (rI CDivW fun i j => .int (i / j)) (tCB (fun xs H Q => (∃ i, xs = [.int i] ∧ Q (.int i) H) ∨ ∃ k, xs = [.bl k] ∧ Q (.int (if k then 1 else 0)) H) (tCons (tVar 2) tNil)) (tC (.int d))) (tC (.int e))) σ H2 (pInt ((dr : Nat) / d % e)) := fun d e H2 σ hd hd2 he h => ev_modI he (ev_divI (w2' d hd hd2) (ev_intI (ev_v (i := 2) (P := pInt (dr : Nat)) h stay_int.mono rfl)) (ev_int (i := d))) (ev_int (i := e))
  refine ⟨_, (pss_cons (ps_set (i := 3) sc77.nd rfl (.inl rfl) (pe_op op_add pe_int (pe_op op_mod (pe_callTy call_int1 (by rfl) m_int (by decide +kernel) (pa_cons (pv 2) pa_nil)) pe_int)))
    (pss_cons (ps_set (i := 4) sc77.nd rfl (.inl rfl) pe_int)
    (C8.pss_cut (ps_if (pt_cmpR op_eq (pe_op op_mod (pe_op op_fdivW (pe_callTy call_int1 (by rfl) m_int (by decide +kernel) (pa_cons (pv 2) pa_nil)) pe_int) pe_int) pe_int (nomark _)) (pss_cons (ps_set (i := 3) sc77.nd rfl (.inl rfl) pe_int)
    (pss_one (ps_set (i := 4) sc77.nd rfl (.inl rfl) pe_int))) pss_nil)
    (C8.pss_cut (ps_if (pt_cmpR op_eq (pe_op op_mod (pe_op op_fdivW (pe_callTy call_int1 (by rfl) m_int (by decide +kernel) (pa_cons (pv 2) pa_nil)) pe_int) pe_int) pe_int (nomark _)) (pss_cons (ps_set (i := 3) sc77.nd rfl (.inl rfl) pe_int)
    (pss_one (ps_set (i := 4) sc77.nd rfl (.inl rfl) pe_int))) pss_nil)
    (C8.pss_cut (ps_if (pt_cmpR op_eq (pe_op op_mod (pe_op op_fdivW (pe_callTy call_int1 (by rfl) m_int (by decide +kernel) (pa_cons (pv 2) pa_nil)) pe_int) pe_int) pe_int (nomark _)) (pss_cons (ps_set (i := 3) sc77.nd rfl (.inl rfl) pe_int)
    (pss_one (ps_set (i := 4) sc77.nd rfl (.inl rfl) pe_int))) pss_nil)
    (pss_cons (ps_set (i := 5) sc77.nd rfl (.inl rfl) (pe_lst pa_nil))
    (pss_cons (ps_for PassesOwn.never rfl (pi_range1 rfl m_range (pa_cons (pv 3) pa_nil)) (pg_name (i := 6) sc77.nd rfl (.inl rfl))
    (pss_one (ps_expr (pe_bm PySem.F.plainAttrs_list PySem.F.slot_list_append PySem.F.type_list_append mt_append (pv 5) (pa_cons (pe_callD D__law_game (hr.mono (by decide)) (by rfl) (pa_cons (pe_callD D__law_cell (hr.mono (by decide)) (by rfl) (pa_cons (pv 0) (pa_cons (pe_op op_add (pv 1) (pv 6)) pa_nil))) (pa_cons (pv 4) pa_nil))) pa_nil)))))
    (C8.pss_cut (ps_if (PW.pt (pw_and (pt_cmpR op_gt (pv 3) pe_int (nomark _)) (pw_and1 (pt_cmpR op_eq (pe_op op_mod (pe_op op_fdivW (pe_callTy call_int1 (by rfl) m_int (by decide +kernel) (pa_cons (pv 2) pa_nil)) pe_int) pe_int) pe_int (nomark _))))) (pss_one (ps_asg (pe_ix ix_list (pv 5) pe_int (fun _ _ => rfl)) (pg_sub (pv 5) pe_int set_list))) pss_nil)
    (pss_one (ps_ret (pe_callTy call_tuple_of (by rfl) m_tuple (by decide +kernel) (pa_cons (pv 5) pa_nil)))))))))))), ?_⟩
  refine seq_set (ev_addI (ev_int (i := 1)) (ev_modI (j := 2) (by omega) (ev_intI (ev_v (i := 2) (P := pInt (dr : Nat)) rfl stay_int.mono rfl)) (ev_int (i := 2)))) fun vc H1 s1 pc => ?_
  have pc : pInt (1 + (dr : Int) % 2) vc H1 := pc
  refine seq_set (ev_int (i := 3)) fun vm H2 s2 pm => ?_
  have s02 := s1.trans s2
  obtain rfl : vm = V.int 3 := pm
  obtain ⟨c0, hc0, ec0⟩ : ∃ c0 : Nat, (1 ≤ c0 ∧ c0 ≤ 2) ∧ 1 + (dr : Int) % 2 = (c0 : Nat) := ⟨(1 + (dr : Int) % 2).toNat, by omega, by omega⟩
  rw [ec0] at pc
  obtain rfl : vc = V.int (c0 : Nat) := pc
  refine seq_cut (fun σ H' => ∃ c m : Nat, σ = [some v1, some (.int (fi : Nat)), some (.int (dr : Nat)), some (.int (c : Nat)), some (.int (m : Nat)), none, none] ∧ Same H H' ∧ Sh c m) ?_ ?_
  · refine one_if (et_test (ev_eqI (eD 2 4 H2 _ (by omega) (by omega) (by omega) rfl) (ev_int (i := 1)))) fun H3 s3 => ?_
    refine ite2 (fun z => ?_) (fun z => ?_)
    · refine seq_set (ev_int (i := 3)) fun vc H4 s4 pc => ?_
      refine one_set (ev_int (i := 2)) fun vm H5 s5 pm => ?_
      obtain rfl : vc = V.int 3 := pc
      obtain rfl : vm = V.int 2 := pm
      exact ⟨3, 2, rfl, s02.trans (s3.trans (s4.trans s5)), by omega, by omega, by omega, .inr (.inr (.inl ⟨by omega, by omega⟩))⟩
    · exact ⟨c0, 3, rfl, s02.trans s3, hc0.1, by omega, by omega, .inr (.inl ⟨hc0.2, by omega⟩)⟩
  rintro σ H3 ⟨c1, m1, rfl, s3, sh1⟩
  refine seq_cut (fun σ H' => ∃ c m : Nat, σ = [some v1, some (.int (fi : Nat)), some (.int (dr : Nat)), some (.int (c : Nat)), some (.int (m : Nat)), none, none] ∧ Same H H' ∧ Sh c m) ?_ ?_
  · refine one_if (et_test (ev_eqI (eD 32 16 H3 _ (by omega) (by omega) (by omega) rfl) (ev_int (i := 1)))) fun H4 s4 => ?_
    refine ite2 (fun z => ?_) (fun z => ?_)
    · refine seq_set (ev_int (i := 5)) fun vc H5 s5 pc => ?_
      refine one_set (ev_int (i := 1)) fun vm H6 s6 pm => ?_
      obtain rfl : vc = V.int 5 := pc
      obtain rfl : vm = V.int 1 := pm
      exact ⟨5, 1, rfl, s3.trans (s4.trans (s5.trans s6)), by omega, by omega, by omega, .inr (.inr (.inr ⟨by omega, by omega⟩))⟩
    · exact ⟨c1, m1, rfl, s3.trans s4, sh1⟩
  rintro σ H4 ⟨c2, m2, rfl, s4, sh2⟩
  refine seq_cut (fun σ H' => ∃ c m : Nat, σ = [some v1, some (.int (fi : Nat)), some (.int (dr : Nat)), some (.int (c : Nat)), some (.int (m : Nat)), none, none] ∧ Same H H' ∧ Sh c m) ?_ ?_
  · refine one_if (et_test (ev_eqI (eD 32 16 H4 _ (by omega) (by omega) (by omega) rfl) (ev_int (i := 2)))) fun H5 s5 => ?_
    refine ite2 (fun z => ?_) (fun z => ?_)
    · refine seq_set (ev_int (i := 1)) fun vc H6 s6 pc => ?_
      refine one_set (ev_int (i := 5)) fun vm H7 s7 pm => ?_
      obtain rfl : vc = V.int 1 := pc
      obtain rfl : vm = V.int 5 := pm
      exact ⟨1, 5, rfl, s4.trans (s5.trans (s6.trans s7)), by omega, by omega, by omega, .inl rfl⟩
    · exact ⟨c2, m2, rfl, s4.trans s5, sh2⟩
  rintro σ H5 ⟨c, m, rfl, s5, sh⟩
  obtain ⟨hc1, hm1, hm5, hsh⟩ := sh
  have hc5 : c ≤ 5 := by rcases hsh with h | h | h | h <;> omega
  refine seq_nil fun lg ng => ?_
  have ngH : H lg = none := Same.free s5 ng
  have s56 : Same H5 (upd H5 lg (.lst [])) := Same.new ng
  refine for_R (n := c) (iw_range1 (n := c) (eva_cons (ev_v (i := 3) (P := pInt (c : Nat)) rfl stay_int.mono rfl) stay_int.mono eva_nil) (by omega) _ (Same.refl _)) (fun i σ H' => ∃ (y6 : Option V) (us : List V) (gs : List Game), σ = [some v1, some (.int (fi : Nat)), some (.int (dr : Nat)), some (.int (c : Nat)), some (.int (m : Nat)), some (.ref lg), y6] ∧ Same H H' ∧ Same H5 H' ∧ H' lg = some (.lst us) ∧ Al H' us (gs.map (pGame K)) ∧ gs.length = i ∧ ∀ g ∈ gs, GmK g ∧ g.n ≤ m)
    (fun H6 s6 => ⟨none, [], [], rfl, s5.trans (s56.trans s6), s56.trans s6, s6 _ _ upd_same, .nil, rfl, fun g h => nomatch h⟩) ?_ ?_
  · rintro i σ H6 hi ⟨y6, us, gs, rfl, s6, s66, hu, au, hl, hg⟩
    have lu := au.len
    rw [List.length_map] at lu
    refine one_appV (K := K) (P := fun v H => ∃ g, GmK g ∧ g.n ≤ m ∧ pGame K g v H) (j := 5) (l := lg) rfl hu (by omega) (fun H7 e7 Q' q' => ?_) fun v H7 s7 pv => ?_
    · -- here
      refine (eva_cons (ev_call (args := fun a : List Int × Nat => [pLst K (a.1.map pInt), pInt (a.2 : Nat)]) (side := fun a => a.2 ≤ 60) (post := fun _ => pAny) (ns, fi + i) (show fi + i ≤ 60 by omega) (eva_cons (ev_v (i := 0) (σ := [some v1, some (.int (fi : Nat)), some (.int (dr : Nat)), some (.int (c : Nat)), some (.int (m : Nat)), some (.ref lg), some (.int (0 + (i : Nat)))]) rfl (mono_lst (stay_mono stN)) (mono_lst (stay_mono stN) _ _ _ s6 h1)) (mono_lst (stay_mono stN)) (eva_cons (Ev.imp (ev_addI (ev_v (i := 1) (P := pInt (fi : Nat)) rfl stay_int.mono rfl) (ev_v (i := 6) (P := pInt (0 + (i : Nat))) rfl stay_int.mono rfl)) fun v H' _ p => by
          rw [show ((fi + i : Nat) : Int) = (fi : Int) + (0 + (i : Int)) by omega]
          exact p) stay_int.mono eva_nil))) stay_any.mono (eva_cons (ev_v (i := 4) (P := pInt (m : Nat)) rfl stay_int.mono rfl) stay_int.mono eva_nil)) H7 e7 _ fun vs H8 s8 al8 => ?_
      cases al8 with | cons k1 al8 => cases al8 with | cons k2 al8 => cases al8 with | nil =>
      obtain ⟨ci, rfl⟩ := k1
      obtain rfl := k2
      exact ⟨(ci, m), ⟨hm1, hm5⟩, .cons rfl (.cons rfl .nil), fun v H' s pv => q' v H' (s8.trans s) pv⟩
    · obtain ⟨gn, gk, gm', pv⟩ := pv
      have hu7 := s7 _ _ hu
      have stw : Stb H7 (upd H7 lg (.lst (us ++ [v]))) := Stb.lst hu7
      refine ⟨_, us ++ [v], gs ++ [gn], rfl, Same.upd (s6.trans s7) ngH, Same.upd (s66.trans s7) ng, upd_same, ?_, by simp [hl], fun g h => ?_⟩
      · rw [List.map_append]
        exact (au.imp fun P hP v hv => st_Gs gs P hP v _ _ ((Same.stb s7).trans stw) hv).app (.one (st_game _ _ _ stw pv))
      · rcases List.mem_append.mp h with h | h
        · exact hg g h
        · rw [List.mem_singleton.mp h]; exact ⟨gk, gm'⟩
  rintro σ H6 ⟨y6, us, gs, rfl, s6, s66, hu, au, hl, hg⟩
  refine seq_cut (fun σ H' => ∃ (us : List V) (gs : List Game), σ = [some v1, some (.int (fi : Nat)), some (.int (dr : Nat)), some (.int (c : Nat)), some (.int (m : Nat)), some (.ref lg), y6] ∧ Same H H' ∧ H' lg = some (.lst us) ∧ Al H' us (gs.map (pGame K)) ∧ gs.length = c ∧ ∀ g ∈ gs, GmK g ∧ g.n ≤ m) ?_ ?_
  · refine one_if (et_and (et_test (ev_gtB (i := (c : Nat)) (j := 1) (ev_v (i := 3) (P := pInt (c : Nat)) rfl stay_int.mono rfl) (ev_int (i := 1)))) (b := decide ((1 : Int) < (c : Nat)) && decide ((dr : Int) / 8 % 4 = 1)) (fun z => by
      rw [z, Bool.true_and]
      exact et_test (ev_eqI (eD 8 4 H6 _ (by omega) (by omega) (by omega) rfl) (ev_int (i := 1)))) (fun z => by rw [z]; rfl)) fun H7 s7 => ?_
    refine ite2 (fun z => ?_) (fun z => ?_)
    · have hc2 : 1 < c := by
        have := (Bool.and_eq_true _ _ ▸ z).1
        have := of_decide_eq_true this
        omega
      have lu := au.len
      rw [List.length_map] at lu
      obtain ⟨g0, hg0⟩ := get_of_lt (l := gs) (i := 0) (by omega)
      have au7 := au.imp fun P hP v hv => st_Gs gs P hP v _ _ (Same.stb s7) hv
      refine one_put (j := 5) (k := 1) rfl (s7 _ _ hu) (by omega) (ev_ixL (K := K) (i := 0) (P := pGame K g0) (ev_v (i := 5) rfl (mono_lst (stay_mono (st_Gs gs))) ⟨lg, us, rfl, .of (s7 _ _ hu), au7⟩) (ev_int (i := 0)) rfl (map_get hg0) (st_Gs gs)) st_game.mono (ev_int (i := 1)) fun v1' H8 s8 p1 => ?_
      have hu8 := s8 _ _ (s7 _ _ hu)
      have stw : Stb H8 (upd H8 lg (.lst (us.set 1 v1'))) := Stb.lst hu8
      refine ⟨us.set 1 v1', gs.set 1 g0, rfl, Same.upd (s6.trans (s7.trans s8)) ngH, upd_same, ?_, by rw [List.length_set]; exact hl, fun g h => ?_⟩
      · rw [List.map_set]
        exact Al.set (st_game _ _ _ stw p1) 1 (au7.imp fun P hP v hv => st_Gs gs P hP v _ _ ((Same.stb s8).trans stw) hv)
      · rcases List.mem_or_eq_of_mem_set h with h | h
        · exact hg g h
        · rw [h]; exact hg g0 (List.mem_of_getElem? hg0)
    · exact ⟨us, gs, rfl, s6.trans s7, s7 _ _ hu, au.imp fun P hP v hv => st_Gs gs P hP v _ _ (Same.stb s7) hv, hl, hg⟩
  rintro σ H7 ⟨us, gs, rfl, s7, hu, au, hl, hg⟩
  refine one_ret (P := pTup K (gs.map (pGame K))) (ev_tupleL (K := K) (ev_v (i := 5) rfl (mono_lst (stay_mono (st_Gs gs))) ⟨lg, us, rfl, .of hu, au⟩) (st_Gs gs)) fun v H8 s8 p => q v H8 (s7.trans s8) ⟨gs, ⟨fun g h => (hg g h).1, ?_, fun e => by rw [e] at hl; simp at hl; omega⟩, p⟩
  rcases hsh with h | h | h | h
  · exact .inl ⟨by omega, fun g hh => ((hg g hh).1).le⟩
  · exact .inr (.inl ⟨by omega, fun g hh => by have := (hg g hh).2; omega⟩)
  · exact .inr (.inr (.inl ⟨by omega, fun g hh => by have := (hg g hh).2; omega⟩))
  · exact .inr (.inr (.inr ⟨by omega, fun g hh => by have := (hg g hh).2; omega⟩))
theorem d_law_adds_up (g : Got K mg "_law_adds_up" 81 ["_law_games_here", "_law_choices_here", "_law_discount_here", "_law_table"]) (m_range : mg "range" = none) (m_len : mg "len" = none) (D__law_joints : DefOk P w K mg base 1 "_law_joints" ["_law_games_here"] (spLj K)) (D__law_ratios : DefOk P w K mg base 3 "_law_ratios" ["_law_values", "_law_count"] (spRs K))
    (D__law_played : DefOk P w K mg base 3 "_law_played" ["_law_games_here", "_law_joint", "_law_at", "_law_discount_here", "_law_table"] (spLp K)) (D__law_expected : DefOk P w K mg base 3 "_law_expected" ["_law_games_here", "_law_joint", "_law_at", "_law_discount_here", "_law_losses"] (spLe K))
    (D__law_is_followed : DefOk P w K mg base 4 "_law_is_followed" ["_law_games_here", "_law_choices_here", "_law_discount_here", "_law_values"] (spFo K)) (D__law_sub : DefOk P w K mg base 2 "_law_sub" ["_law_a", "_law_b"] (spR2 K fun x y => x - y)) (D__law_add : DefOk P w K mg base 2 "_law_add" ["_law_a", "_law_b"] (spR2 K fun x y => x + y))
    (D_choice_values : DefOk P w K mg base 6 "choice_values" ["games", "choices", "discount"] (spCv K)) (D_choice_costs : DefOk P w K mg base 12 "choice_costs" ["games", "choices", "discount"] (spCc K)) (D_choice_losses : DefOk P w K mg base 12 "choice_losses" ["games", "choices", "discount"] (spCl K)) :
    DefOk P w K mg base 13 "_law_adds_up" ["_law_games_here", "_law_choices_here", "_law_discount_here", "_law_table"] (spAu K) := by
  refine def_of g sc81 (fun _ => rfl) fun fa cdv A outer s0 H vs Q E a hr sd al q => ?_
  have hcp := sd.cp
  have hfo := sd
  obtain ⟨gs, cs, b⟩ := a
  obtain ⟨co, ch, b0, b1, sz, sc⟩ := sd
  simp only at co ch b0 b1 sz sc hcp
  cases al with | cons h1 al => cases al with | cons h2 al => cases al with | cons h3 al => cases al with | cons h4 al => cases al with | nil =>
  rename_i v1 v2 v3 v4
  have h1 : pTup K (gs.map (pGame K)) v1 H := h1
  have h2 : pNats K cs v2 H := h2
  have h3 : pR K b v3 H := h3
  have h4 : pTb K gs (bV b gs) v4 H := h4
  have stG := st_Gs (K := K) gs
  have moJ : Mono (pLst K ((joints gs).map pJ)) := mono_lst (stay_mono (st_Js gs))
  have n9 := co.n9
  have jl := sz.jl
  refine ⟨_, (pss_cons (ps_set (i := 4) sc81.nd rfl (.inl rfl) (pe_callD D__law_joints (hr.mono (by decide)) (by rfl) (pa_cons (pv 0) pa_nil)))
    (pss_cons (ps_set (i := 5) sc81.nd rfl (.inl rfl) (pe_callD D_choice_values (hr.mono (by decide)) (by rfl) (pa_cons (pv 0) (pa_cons (pv 1) (pa_cons (pv 2) pa_nil)))))
    (pss_cons (ps_set (i := 6) sc81.nd rfl (.inl rfl) (pe_callD D_choice_costs (hr.mono (by decide)) (by rfl) (pa_cons (pv 0) (pa_cons (pv 1) (pa_cons (pv 2) pa_nil)))))
    (pss_cons (ps_set (i := 7) sc81.nd rfl (.inl rfl) (pe_callD D_choice_losses (hr.mono (by decide)) (by rfl) (pa_cons (pv 0) (pa_cons (pv 1) (pa_cons (pv 2) pa_nil)))))
    (pss_cons (ps_if (pt_not (pt_val (pe_callD D__law_is_followed (hr.mono (by decide)) (by rfl) (pa_cons (pv 0) (pa_cons (pv 1) (pa_cons (pv 2) (pa_cons (pv 5) pa_nil))))))) (pss_one (ps_ret pe_bl)) pss_nil)
    (pss_cons (ps_if (PW.pt (pw_or (pt_not (pt_val (pe_callD D__law_ratios (hr.mono (by decide)) (by rfl) (pa_cons (pv 6) (pa_cons (pe_callB call_len_seq (by rfl) m_len PySem.boot_len (pa_cons (pv 4) pa_nil)) pa_nil))))) (pw_or1 (pt_not (pt_val (pe_callD D__law_ratios (hr.mono (by decide)) (by rfl) (pa_cons (pv 7) (pa_cons (pe_callB call_len_seq (by rfl) m_len PySem.boot_len (pa_cons (pv 4) pa_nil)) pa_nil)))))))) (pss_one (ps_ret pe_bl)) pss_nil)
    (pss_cons (ps_for PassesOwn.never rfl (pi_range1 rfl m_range (pa_cons (pe_callB call_len_seq (by rfl) m_len PySem.boot_len (pa_cons (pv 4) pa_nil)) pa_nil)) (pg_name (i := 8) sc81.nd rfl (.inl rfl))
    (pss_cons (ps_set (i := 9) sc81.nd rfl (.inl rfl) (pe_callD D__law_played (hr.mono (by decide)) (by rfl) (pa_cons (pv 0) (pa_cons (pe_ix ix_list (pv 4) (pv 8) (fun _ _ => rfl)) (pa_cons (pe_ix ix_tup (pv 1) (pv 8) (fun _ _ => rfl)) (pa_cons (pv 2) (pa_cons (pv 3) pa_nil)))))))
    (pss_cons (ps_if (PW.pt (pw_or (pt_cmpR (op_neD hr.units) (pe_ix ix_tup (pv 6) (pv 8) (fun _ _ => rfl)) (pe_callD D__law_sub (hr.mono (by decide)) (by rfl) (pa_cons (pe_ix ix_tup (pv 3) (pv 8) (fun _ _ => rfl)) (pa_cons (pv 9) pa_nil))) (nomark _)) (pw_or1 (pt_cmpR (op_neD hr.units) (pe_ix ix_tup (pv 7) (pv 8) (fun _ _ => rfl)) (pe_callD D__law_sub (hr.mono (by decide)) (by rfl) (pa_cons (pe_ix ix_tup (pv 3) (pv 8) (fun _ _ => rfl)) (pa_cons (pe_ix ix_tup (pv 5) (pv 8) (fun _ _ => rfl)) pa_nil))) (nomark _))))) (pss_one (ps_ret pe_bl)) pss_nil)
    (pss_cons (ps_if (PW.pt (pw_or (pt_cmpR op_lt (pe_ix ix_tup (pe_ix ix_tup (pv 6) (pv 8) (fun _ _ => rfl)) pe_int (fun _ _ => rfl)) pe_int (nomark _)) (pw_or1 (pt_cmpR op_lt (pe_ix ix_tup (pe_ix ix_tup (pv 7) (pv 8) (fun _ _ => rfl)) pe_int (fun _ _ => rfl)) pe_int (nomark _))))) (pss_one (ps_ret pe_bl)) pss_nil)
    (pss_one (ps_if (pt_cmpR (op_neD hr.units) (pe_ix ix_tup (pv 7) (pv 8) (fun _ _ => rfl)) (pe_callD D__law_add (hr.mono (by decide)) (by rfl) (pa_cons (pe_ix ix_tup (pv 6) (pv 8) (fun _ _ => rfl)) (pa_cons (pe_callD D__law_expected (hr.mono (by decide)) (by rfl) (pa_cons (pv 0) (pa_cons (pe_ix ix_list (pv 4) (pv 8) (fun _ _ => rfl)) (pa_cons (pe_ix ix_tup (pv 1) (pv 8) (fun _ _ => rfl)) (pa_cons (pv 2) (pa_cons (pv 7) pa_nil)))))) pa_nil))) (nomark _)) (pss_one (ps_ret pe_bl)) pss_nil))))))
    (pss_one (ps_ret pe_bl))))))))), ?_⟩
  refine seq_set (ev_lj (ev_v (i := 0) rfl (stay_tup stG).mono h1) sz.js n9) fun vj H1 s1 pj => ?_
  have hlen : ∀ H2, Same H1 H2 → ∀ σ : L2.St, σ[4]? = some (some vj) → Ev (tCB (fun xs H Q => ∃ p ys, xs = [.ref p] ∧ (SqL K H p ys ∨ SqT K H p ys) ∧ Q (.int ys.length) H) (tCons (tVar 4) tNil)) σ H2 (pInt ((joints gs).length : Nat)) := fun H2 s2 σ h0 => by
    have e := ev_len (K := K) (ta := tVar 4) (H := H2) (σ := σ) (ev_v (i := 4) h0 moJ (moJ _ _ _ s2 pj))
    rw [List.length_map] at e
    exact e
  have args : ∀ H2, Same H H2 → ∀ σ : L2.St, σ[0]? = some (some v1) → σ[1]? = some (some v2) → σ[2]? = some (some v3) → EvA (tCons (tVar 0) (tCons (tVar 1) (tCons (tVar 2) tNil))) σ H2 [pTup K (gs.map (pGame K)), pNats K cs, pR K b] := fun H2 s2 σ e0 e1 e2 =>
    eva_cons (ev_v (i := 0) e0 (stay_tup stG).mono ((stay_tup stG).mono _ _ _ s2 h1)) (stay_tup stG).mono (eva_cons (ev_v (i := 1) e1 st_nats.mono (st_nats.mono _ _ _ s2 h2)) st_nats.mono (eva_cons (ev_v (i := 2) e2 stay_R.mono (stay_R.mono _ _ _ s2 h3)) stay_R.mono eva_nil))
  -- values, costs, losses
  refine seq_set (P := pTb K gs (cX gs cs b)) (ev_call (args := fun a : List Game × List Nat × Rat => [pTup K (a.1.map (pGame K)), pNats K a.2.1, pR K a.2.2]) (side := CvK) (post := fun a => pTup K ((List.range (joints a.1).length).map fun k => pR K (cX a.1 a.2.1 a.2.2 k))) (gs, cs, b) sc.cv (args H1 s1 _ rfl rfl rfl)) fun vx H2 s2 px => ?_
  have s02 := s1.trans s2
  obtain ⟨g0, rest, egs⟩ : ∃ g0 rest, gs = g0 :: rest := by
    cases gs with
    | nil => exact absurd rfl co.ne
    | cons a l => exact ⟨a, l, rfl⟩
  refine seq_set (P := pTb K gs (fun k => bV b gs k - ply b gs (bV b gs) (ju gs k) (cs.getD k 0))) (by
    have ck : CcK ((g0, rest), cs, b) := ⟨sz.vt g0 rest egs, egs ▸ sz.js, egs ▸ sz.jl, egs ▸ ch.len, fun k hk => by
      rw [← egs] at hk ⊢
      exact sz.pl _ _ (ju_fits hk) (hcp k hk), fun k hk => by
      rw [← egs] at hk ⊢
      exact sc.cost k hk⟩
    have e := ev_call (args := fun a : (Game × List Game) × List Nat × Rat => [pTup K ((a.1.1 :: a.1.2).map (pGame K)), pNats K a.2.1, pR K a.2.2]) (side := CcK) (post := fun a => pTup K ((List.range (joints (a.1.1 :: a.1.2)).length).map fun k => pR K (bV a.2.2 (a.1.1 :: a.1.2) k - ply a.2.2 (a.1.1 :: a.1.2) (bV a.2.2 (a.1.1 :: a.1.2)) (ju (a.1.1 :: a.1.2) k) (a.2.1.getD k 0)))) ((g0, rest), cs, b) ck (t := tCons (tVar 0) (tCons (tVar 1) (tCons (tVar 2) tNil))) (σ := [some v1, some v2, some v3, some v4, some vj, some vx, none, none, none, none]) (H := H2) (by
      show EvA _ _ _ [pTup K ((g0 :: rest).map (pGame K)), pNats K cs, pR K b]
      rw [← egs]
      exact args H2 s02 _ rfl rfl rfl)
    have e : Ev _ _ H2 (pTup K ((List.range (joints (g0 :: rest)).length).map fun k => pR K (bV b (g0 :: rest) k - ply b (g0 :: rest) (bV b (g0 :: rest)) (ju (g0 :: rest) k) (cs.getD k 0)))) := e
    rw [← egs] at e
    exact e) fun vco H3 s3 pco => ?_
  have s03 := s02.trans s3
  refine seq_set (P := pTb K gs (fun k => bV b gs k - cX gs cs b k)) (by
    have ck : ClK ((g0, rest), cs, b) := ⟨sz.vt g0 rest egs, egs ▸ sc.cv, fun k hk => by
      rw [← egs] at hk ⊢
      exact sc.loss k hk⟩
    have e := ev_call (args := fun a : (Game × List Game) × List Nat × Rat => [pTup K ((a.1.1 :: a.1.2).map (pGame K)), pNats K a.2.1, pR K a.2.2]) (side := ClK) (post := fun a => pTup K ((List.range (joints (a.1.1 :: a.1.2)).length).map fun k => pR K (bV a.2.2 (a.1.1 :: a.1.2) k - cX (a.1.1 :: a.1.2) a.2.1 a.2.2 k))) ((g0, rest), cs, b) ck (t := tCons (tVar 0) (tCons (tVar 1) (tCons (tVar 2) tNil))) (σ := [some v1, some v2, some v3, some v4, some vj, some vx, some vco, none, none, none]) (H := H3) (by
      show EvA _ _ _ [pTup K ((g0 :: rest).map (pGame K)), pNats K cs, pR K b]
      rw [← egs]
      exact args H3 s03 _ rfl rfl rfl)
    have e : Ev _ _ H3 (pTup K ((List.range (joints (g0 :: rest)).length).map fun k => pR K (bV b (g0 :: rest) k - cX (g0 :: rest) cs b k))) := e
    rw [← egs] at e
    exact e) fun vlo H4 s4 plo => ?_
  have s04 := s03.trans s4
  have s14 := s2.trans (s3.trans s4)
  refine seq_if (b := false) (et_not (a := true) (et_B (ev_call (args := fun a : FoA => [pTup K (a.gs.map (pGame K)), pNats K a.cs, pR K a.b, pTb K a.gs (cX a.gs a.cs a.b)]) (side := FoK) (post := fun _ => pBl true) ⟨gs, cs, b⟩ hfo (eva_cons (ev_v (i := 0) rfl (stay_tup stG).mono ((stay_tup stG).mono _ _ _ s04 h1)) (stay_tup stG).mono (eva_cons (ev_v (i := 1) rfl st_nats.mono (st_nats.mono _ _ _ s04 h2)) st_nats.mono (eva_cons (ev_v (i := 2) rfl stay_R.mono (stay_R.mono _ _ _ s04 h3)) stay_R.mono (eva_cons (ev_v (i := 5) rfl st_tb.mono (st_tb.mono _ _ _ (s3.trans s4) px)) st_tb.mono eva_nil))))))) fun H5 s5 => ?_
  refine iteF ?_
  have s15 := s14.trans s5
  refine seq_if (b := false) (et_or (a := false) (b := false) (et_not (a := true) (et_B (ev_rs (ev_v (i := 6) rfl st_tb.mono (st_tb.mono _ _ _ (s4.trans s5) pco)) (hlen H5 s15 _ rfl)))) (fun _ => et_not (a := true) (et_B (ev_rs (ev_v (i := 7) rfl st_tb.mono (st_tb.mono _ _ _ s5 plo)) (hlen H5 s15 _ rfl)))) (fun z => nomatch z)) fun H6 s6 => ?_
  refine iteF ?_
  have s06 := s04.trans (s5.trans s6)
  have s16 := s15.trans s6
  refine for_R (n := (joints gs).length) (iw_range1 (n := (joints gs).length) (eva_cons (hlen H6 s16 _ rfl) stay_int.mono eva_nil) (by omega) H6 (Same.refl _)) (fun k σ H' => ∃ y8 y9 : Option V, σ = [some v1, some v2, some v3, some v4, some vj, some vx, some vco, some vlo, y8, y9] ∧ Same H6 H') (fun H7 s7 => ⟨none, none, rfl, s7⟩) ?_ ?_
  · rintro k σ H7 hk ⟨y8, y9, rfl, s7⟩
    have s07 := s06.trans s7
    have t7 := (s5.trans s6).trans s7
    obtain ⟨u, hu⟩ := get_of_lt hk
    have eju : ju gs k = u := ju_of hu
    have fit : Fits gs u := mem_joints.mp (List.mem_of_getElem? hu)
    have hcs := getD_get (cs := cs) (k := k) (by rw [ch.len]; exact hk)
    have hcost := sc.cost k hk
    have hloss := sc.loss k hk
    have hex := sc.ex k hk
    have cnn := cost_nn co.ok b0 b1 hcp hk
    have lnn := loss_nn co.ok b0 b1 hcp hk
    have leq := loss_eq co.ok b0 b1 hcp hk
    have hpl := sz.pl u _ fit (hcp k hk)
    have eC := range_get (f := fun k => pR K (bV b gs k - ply b gs (bV b gs) (ju gs k) (cs.getD k 0))) hk
    rw [eju] at hcost hex cnn leq
    simp only [eju] at eC
    -- gain
    refine seq_set (ev_lp (ev_v (i := 0) rfl (stay_tup stG).mono ((stay_tup stG).mono _ _ _ s07 h1)) (ev_ixL (K := K) (i := k) (ev_v (i := 4) rfl moJ (moJ _ _ _ (s16.trans s7) pj)) (ev_v (i := 8) (P := pInt (0 + (k : Nat))) rfl stay_int.mono rfl) (by omega) (map_get hu) (st_Js gs)) (ev_ixT (K := K) (i := k) (ev_v (i := 1) rfl st_nats.mono (st_nats.mono _ _ _ s07 h2)) (ev_v (i := 8) (P := pInt (0 + (k : Nat))) rfl stay_int.mono rfl) (by omega) (map_get hcs) (st_ints cs)) (ev_v (i := 2) rfl stay_R.mono (stay_R.mono _ _ _ s07 h3)) (ev_v (i := 3) rfl st_tb.mono (st_tb.mono _ _ _ s07 h4)) hpl n9) fun vg H8 s8 pg => ?_
    have s08 := s07.trans s8
    have t8 := t7.trans s8
    have at8 : ∀ H9, Same H8 H9 → ∀ (y9 : Option V), (Ev (tOp (rIxT K) (tVar 6) (tVar 8)) [some v1, some v2, some v3, some v4, some vj, some vx, some vco, some vlo, some (.int (0 + (k : Nat))), y9] H9 (pR K (bV b gs k - ply b gs (bV b gs) u (cs.getD k 0)))) ∧
        (Ev (tOp (rIxT K) (tVar 7) (tVar 8)) [some v1, some v2, some v3, some v4, some vj, some vx, some vco, some vlo, some (.int (0 + (k : Nat))), y9] H9 (pR K (bV b gs k - cX gs cs b k))) ∧
        (Ev (tOp (rIxT K) (tVar 3) (tVar 8)) [some v1, some v2, some v3, some v4, some vj, some vx, some vco, some vlo, some (.int (0 + (k : Nat))), y9] H9 (pR K (bV b gs k))) ∧
        (Ev (tOp (rIxT K) (tVar 5) (tVar 8)) [some v1, some v2, some v3, some v4, some vj, some vx, some vco, some vlo, some (.int (0 + (k : Nat))), y9] H9 (pR K (cX gs cs b k))) := fun H9 s9 y9 =>
      ⟨ev_ixT (K := K) (i := k) (ev_v (i := 6) rfl st_tb.mono (st_tb.mono _ _ _ (s4.trans (t8.trans s9)) pco)) (ev_v (i := 8) (P := pInt (0 + (k : Nat))) rfl stay_int.mono rfl) (by omega) eC (st_tbl gs _),
       ev_ixT (K := K) (i := k) (ev_v (i := 7) rfl st_tb.mono (st_tb.mono _ _ _ (t8.trans s9) plo)) (ev_v (i := 8) (P := pInt (0 + (k : Nat))) rfl stay_int.mono rfl) (by omega) (range_get hk) (st_tbl gs _),
       ev_ixT (K := K) (i := k) (ev_v (i := 3) rfl st_tb.mono (st_tb.mono _ _ _ (s08.trans s9) h4)) (ev_v (i := 8) (P := pInt (0 + (k : Nat))) rfl stay_int.mono rfl) (by omega) (range_get hk) (st_tbl gs _),
       ev_ixT (K := K) (i := k) (ev_v (i := 5) rfl st_tb.mono (st_tb.mono _ _ _ ((s3.trans s4).trans (t8.trans s9)) px)) (ev_v (i := 8) (P := pInt (0 + (k : Nat))) rfl stay_int.mono rfl) (by omega) (range_get hk) (st_tbl gs _)⟩
    obtain ⟨a1, a2, a3, a4⟩ := at8 H8 (Same.refl _) (some vg)
    refine seq_if (b := false) (et_or (a := false) (b := false) (et_test (Ev.imp (ev_neR (K := K) a1 (ev_R2 (K := K) (f := fun x y => x - y) a3 (ev_v (i := 9) rfl stay_R.mono pg) hcost)) fun v H' _ p => by rw [decide_eq_true rfl] at p; exact p)) (fun _ => et_test (Ev.imp (ev_neR (K := K) a2 (ev_R2 (K := K) (f := fun x y => x - y) a3 a4 hloss)) fun v H' _ p => by rw [decide_eq_true rfl] at p; exact p)) (fun z => nomatch z)) fun H9 s9 => ?_
    refine iteF ?_
    obtain ⟨a1, a2, a3, a4⟩ := at8 H9 s9 (some vg)
    -- < 0
    refine seq_if (b := false) (et_or (a := false) (b := false) (et_test (Ev.imp (ev_ltB (ev_R0 a1) (ev_int (i := 0))) fun v H' _ p => by
      rw [decide_eq_false (Int.not_lt.mpr (Rat.num_nonneg.mpr cnn))] at p; exact p)) (fun _ => et_test (Ev.imp (ev_ltB (ev_R0 a2) (ev_int (i := 0))) fun v H' _ p => by
      rw [decide_eq_false (Int.not_lt.mpr (Rat.num_nonneg.mpr lnn))] at p; exact p)) (fun z => nomatch z)) fun H10 s10 => ?_
    refine iteF ?_
    have s810 := s9.trans s10
    obtain ⟨a1, a2, a3, a4⟩ := at8 H10 s810 (some vg)
    have s010 := s08.trans s810
    refine one_if (b := false) (et_test (Ev.imp (ev_neR (K := K) a2 (ev_R2 (K := K) (f := fun x y => x + y) a1 (ev_call (args := fun a : PlA => [pTup K (a.gs.map (pGame K)), pJ a.u, pInt (a.p : Nat), pR K a.b, pTb K a.gs a.W]) (side := ExK) (post := fun a => pR K (a.b * ex (mvs a.gs a.u a.p) a.W)) ⟨gs, u, cs.getD k 0, fun t => bV b gs t - cX gs cs b t, b⟩ hex
      (eva_cons (ev_v (i := 0) rfl (stay_tup stG).mono ((stay_tup stG).mono _ _ _ s010 h1)) (stay_tup stG).mono (eva_cons (ev_ixL (K := K) (i := k) (ev_v (i := 4) rfl moJ (moJ _ _ _ ((s16.trans s7).trans (s8.trans s810)) pj)) (ev_v (i := 8) (P := pInt (0 + (k : Nat))) rfl stay_int.mono rfl) (by omega) (map_get hu) (st_Js gs)) st_J.mono (eva_cons (ev_ixT (K := K) (i := k) (ev_v (i := 1) rfl st_nats.mono (st_nats.mono _ _ _ s010 h2)) (ev_v (i := 8) (P := pInt (0 + (k : Nat))) rfl stay_int.mono rfl) (by omega) (map_get hcs) (st_ints cs)) stay_int.mono (eva_cons (ev_v (i := 2) rfl stay_R.mono (stay_R.mono _ _ _ s010 h3)) stay_R.mono (eva_cons (ev_v (i := 7) rfl st_tb.mono (st_tb.mono _ _ _ (t8.trans s810) plo)) st_tb.mono eva_nil)))))) (by
        show Ok (bV b gs k - ply b gs (bV b gs) u (cs.getD k 0) + b * ex (mvs gs u (cs.getD k 0)) (fun t => bV b gs t - cX gs cs b t))
        rw [← leq]; exact hloss))) fun v H' _ p => by rw [decide_eq_true leq] at p; exact p)) fun H11 s11 => ?_
    refine iteF ?_
    exact ⟨_, _, rfl, s7.trans (s8.trans (s810.trans s11))⟩
  · rintro σ H7 ⟨y8, y9, rfl, s7⟩
    exact one_ret ev_bl fun v H8 s8 p => q v H8 (s06.trans (s7.trans s8)) p
/-- what the sizes give -/
def SzAll : Prop := ∀ gs b, CoK gs → BdK b → (0 ≤ b ∧ b < 1) ∧ Szs gs b ∧ ∀ cs, ChK gs cs → SzC gs cs b
def spLaw (K : PySem.W.Frag) : Sp := Spc (fun ns : List Int => [pLst K (ns.map pInt)]) (fun _ => True) fun _ => pBl true
theorem def_ofF {α : Type} {args : α → List VP} {side : α → Prop} {post : α → VP} {x : Str} {i : Nat} {ps N : List Str} {k : Nat} {f : Addr} {fd : FuncData} (F : Fun K x x (topS i) f fd) (S : FnScope N ps (defScope (topS i))) (hl : ∀ a, (args a).length = ps.length)
    (hb : ∀ (f : Addr) (cdv : Value) (A : Around) (outer : List Env) (s : Shared) (H : Hp) (vs : List V) (Q : VK) (E : XK) (a : α), Room k (A.deeper (envOfC x (defScope (topS i)) s.heap.objs.size f cdv)) → side a → Al H vs (args a) → (∀ v H', Same H H' → post a v H' → Q v H') →
      ∃ t, PSs (cxOf CX0 P w K mg base N x (defScope (topS i)) f cdv A outer s H E).nox (defBody (topS i)) t ∧ t { nx := fun _ H' => Q .non H', rt := Q } (start N vs) H) : FnOk P w K mg base CX0 (k + 1) f fd ps (Spc args side post) := by
  refine F.ok S (fun vs H Q E h => ?_) (fun cdv A outer s H vs Q E hr h => ?_)
  · obtain ⟨a, _, al, _⟩ := h
    rw [al.len, hl a]
  · obtain ⟨a, sd, al, q⟩ := h
    exact hb f cdv A outer s H vs Q E a hr sd al q
theorem d_law (SA : SzAll) {fL : Addr} {fdL : FuncData} (FL : Fun K "law" "law" (topS 82) fL fdL) (D__law_cell : DefOk P w K mg base 1 "_law_cell" ["_law_script", "_law_k"] (spCellA K)) (D__law_draws : DefOk P w K mg base 1 "_law_draws" ["_law_cell_here", "_law_count"] (spDraws K)) (D__law_discount : DefOk P w K mg base 2 "_law_discount" ["_law_draw"] (spBd K))
    (D__law_games : DefOk P w K mg base 4 "_law_games" ["_law_script", "_law_first", "_law_draw"] (spGames K)) (D_value_table : DefOkD P w K mg base 11 "value_table" ["games", "discount", "stop"] (spVt K)) (D__law_is_best : DefOk P w K mg base 4 "_law_is_best" ["_law_games_here", "_law_discount_here", "_law_halt", "_law_table"] (spBest K))
    (D__law_choices : DefOk P w K mg base 2 "_law_choices" ["_law_cell_here", "_law_games_here"] (spCh K)) (D__law_adds_up : DefOk P w K mg base 13 "_law_adds_up" ["_law_games_here", "_law_choices_here", "_law_discount_here", "_law_table"] (spAu K)) :
    FnOk P w K mg base CX0 14 fL fdL ["_law_script"] (spLaw K) := by
  refine def_ofF FL sc82 (fun _ => rfl) fun fa cdv A outer s0 H vs Q E ns hr sd al q => ?_
  cases al with | cons h1 al => cases al with | nil =>
  rename_i v1
  have h1 : pLst K (ns.map pInt) v1 H := h1
  have stN : ∀ P ∈ ns.map pInt, Stay P := stay_map fun _ => stay_int
  have moN : Mono (pLst K (ns.map pInt)) := mono_lst (stay_mono stN)
  have eCell : ∀ (k : Nat) (H2 : Hp) (σ : L2.St), k ≤ 60 → Same H H2 → σ[0]? = some (some v1) → Ev (tCall (spCellA K) [] E0 (tCons (tVar 0) (tCons (tC (.int (k : Nat))) tNil))) σ H2 pAny := fun k H2 σ hk s2 h0 =>
    ev_call (args := fun a : List Int × Nat => [pLst K (a.1.map pInt), pInt (a.2 : Nat)]) (side := fun a => a.2 ≤ 60) (post := fun _ => pAny) (ns, k) hk (eva_cons (ev_v (i := 0) h0 moN (moN _ _ _ s2 h1)) moN (eva_cons (ev_int (i := (k : Nat))) stay_int.mono eva_nil))
  refine ⟨_, (pss_cons (ps_set (i := 1) sc82.nd rfl (.inl rfl) (pe_callD D__law_draws (hr.mono (by decide)) (by rfl) (pa_cons (pe_callD D__law_cell (hr.mono (by decide)) (by rfl) (pa_cons (pv 0) (pa_cons pe_int pa_nil))) (pa_cons pe_int pa_nil))))
    (pss_cons (ps_set (i := 2) sc82.nd rfl (.inl rfl) (pe_callD D__law_discount (hr.mono (by decide)) (by rfl) (pa_cons (pe_ix ix_list (pv 1) pe_int (fun _ _ => rfl)) pa_nil)))
    (pss_cons (ps_set (i := 3) sc82.nd rfl (.inl rfl) (pe_callD D__law_games (hr.mono (by decide)) (by rfl) (pa_cons (pv 0) (pa_cons pe_int (pa_cons (pe_ix ix_list (pv 1) pe_int (fun _ _ => rfl)) pa_nil)))))
    (pss_cons (ps_set (i := 4) sc82.nd rfl (.inl rfl) (pe_callDD D_value_table (hr.mono (by decide)) (by rfl) (pa_cons (pv 3) (pa_cons (pv 2) pa_nil))))
    (pss_cons (ps_if (pt_not (pt_val (pe_callD D__law_is_best (hr.mono (by decide)) (by rfl) (pa_cons (pv 3) (pa_cons (pv 2) (pa_cons pe_non (pa_cons (pv 4) pa_nil))))))) (pss_one (ps_ret pe_bl)) pss_nil)
    (pss_cons (ps_set (i := 5) sc82.nd rfl (.inl rfl) (pe_lst (pa_cons (pe_callD D__law_choices (hr.mono (by decide)) (by rfl) (pa_cons (pe_callD D__law_cell (hr.mono (by decide)) (by rfl) (pa_cons (pv 0) (pa_cons pe_int pa_nil))) (pa_cons (pv 3) pa_nil))) (pa_cons (pe_callD D__law_choices (hr.mono (by decide)) (by rfl) (pa_cons (pe_callD D__law_cell (hr.mono (by decide)) (by rfl) (pa_cons (pv 0) (pa_cons pe_int pa_nil))) (pa_cons (pv 3) pa_nil))) pa_nil))))
    (pss_cons (ps_for PassesOwn.never rfl (pi_tup (pe_tup (pa_cons pe_int (pa_cons pe_int (pa_cons pe_int pa_nil))))) (pg_name (i := 6) sc82.nd rfl (.inl rfl))
    (pss_one (ps_if (pt_not (pt_val (pe_callD D__law_adds_up (hr.mono (by decide)) (by rfl) (pa_cons (pv 3) (pa_cons (pe_ix ix_list (pv 5) (pv 6) (fun _ _ => rfl)) (pa_cons (pv 2) (pa_cons (pv 4) pa_nil))))))) (pss_one (ps_ret pe_bl)) pss_nil)))
    (pss_one (ps_ret pe_bl))))))))), ?_⟩
  refine seq_set (P := pDraws K 2) (fun H2 e2 Q' q' => ?_) fun vd H1 s1 pd => ?_
  · refine (eva_cons (eCell 0 H _ (by omega) (Same.refl H) rfl) stay_any.mono (eva_cons (ev_int (i := 2)) stay_int.mono eva_nil)) H2 e2 _ fun vs H8 s8 al8 => ?_
    cases al8 with | cons k1 al8 => cases al8 with | cons k2 al8 => cases al8 with | nil =>
    obtain ⟨ci, rfl⟩ := k1
    obtain rfl := k2
    exact ⟨(ci, 2), (by decide : (2 : Nat) ≤ 900), .cons rfl (.cons rfl .nil), fun v H' s pv => q' v H' (s8.trans s) pv⟩
  obtain ⟨ds, dl, dlt, pd⟩ := pd
  have moD : Mono (pLst K (ds.map fun d : Nat => pInt (d : Int))) := mono_lst fun P hP => (st_ints ds P hP).mono
  -- discount
  refine seq_set (ev_call (args := fun d : Nat => [pInt (d : Int)]) (side := fun _ => True) (post := fun _ v H => ∃ x, BdK x ∧ pR K x v H) (ds.getD 0 0) trivial (eva_cons (ev_draw (K := K) (i := 0) (ev_v (i := 1) rfl moD pd) (ev_int (i := 0)) rfl (by omega)) stay_int.mono eva_nil)) fun vb H2 s2 pb => ?_
  obtain ⟨b, bk, pb⟩ := pb
  have s02 := s1.trans s2
  -- games
  refine seq_set (ev_call (args := fun a : List Int × Nat × Nat => [pLst K (a.1.map pInt), pInt (a.2.1 : Nat), pInt (a.2.2 : Nat)]) (side := fun a => a.2.1 ≤ 10) (post := fun _ v H => ∃ gs, CoK gs ∧ pTup K (gs.map (pGame K)) v H) (ns, 1, ds.getD 1 0) (by decide : (1 : Nat) ≤ 10) (eva_cons (ev_v (i := 0) rfl moN (moN _ _ _ s02 h1)) moN (eva_cons (ev_int (i := 1)) stay_int.mono (eva_cons (ev_draw (K := K) (i := 1) (ev_v (i := 1) rfl moD (moD _ _ _ s2 pd)) (ev_int (i := 1)) rfl (by omega)) stay_int.mono eva_nil)))) fun vg H3 s3 pg => ?_
  obtain ⟨gs, co, pg⟩ := pg
  have s03 := s02.trans s3
  obtain ⟨⟨b0, b1⟩, sz, scs⟩ := SA gs b co bk
  have stG := st_Gs (K := K) gs
  obtain ⟨g0, rest, egs⟩ : ∃ g0 rest, gs = g0 :: rest := by
    cases gs with
    | nil => exact absurd rfl co.ne
    | cons a l => exact ⟨a, l, rfl⟩
  -- table
  refine seq_set (P := pTb K gs (bV b gs)) (by
    have e := ev_vt (K := K) (H := H3) (σ := [some v1, some vd, some vb, some vg, none, none, none]) (ta := tVar 3) (tb := tVar 2) (by rw [← egs]; exact ev_v (i := 3) rfl (stay_tup stG).mono pg) (ev_v (i := 2) rfl stay_R.mono (stay_R.mono _ _ _ s3 pb)) (sz.vt g0 rest egs)
    rw [← egs] at e
    exact e) fun vt H4 s4 pt => ?_
  have s04 := s03.trans s4
  refine seq_if (b := false) (et_not (a := true) (et_B (ev_call (args := fun a : List Game × Rat => [pTup K (a.1.map (pGame K)), pR K a.2, pIs .non, pTb K a.1 (bV a.2 a.1)]) (side := fun a => CoK a.1 ∧ 0 ≤ a.2 ∧ a.2 < 1 ∧ Szs a.1 a.2) (post := fun _ => pBl true) (gs, b) ⟨co, b0, b1, sz⟩ (eva_cons (ev_v (i := 3) rfl (stay_tup stG).mono ((stay_tup stG).mono _ _ _ s4 pg)) (stay_tup stG).mono (eva_cons (ev_v (i := 2) rfl stay_R.mono (stay_R.mono _ _ _ (s3.trans s4) pb)) stay_R.mono (eva_cons ev_c stay_is.mono (eva_cons (ev_v (i := 4) rfl st_tb.mono pt) st_tb.mono eva_nil))))))) fun H5 s5 => ?_
  refine iteF ?_
  have s05 := s04.trans s5
  -- tables
  have pCh : VP := fun v H => ∃ cs, ChK gs cs ∧ pNats K cs v H
  have eCh : ∀ (k : Nat) (H6 : Hp), k ≤ 60 → Same H5 H6 → Ev (tCall (spCh K) [] E0 (tCons (tCall (spCellA K) [] E0 (tCons (tVar 0) (tCons (tC (.int (k : Nat))) tNil))) (tCons (tVar 3) tNil))) [some v1, some vd, some vb, some vg, some vt, none, none] H6 (fun v H => ∃ cs, ChK gs cs ∧ pNats K cs v H) := fun k H6 hk s6 H7 e7 Q' q' => by
    refine (eva_cons (eCell k H6 _ hk (s05.trans s6) rfl) stay_any.mono (eva_cons (ev_v (i := 3) rfl (stay_tup stG).mono ((stay_tup stG).mono _ _ _ (s4.trans (s5.trans s6)) pg)) (stay_tup stG).mono eva_nil)) H7 e7 _ fun vs H8 s8 al8 => ?_
    cases al8 with | cons k1 al8 => cases al8 with | cons k2 al8 => cases al8 with | nil =>
    obtain ⟨ci, rfl⟩ := k1
    exact ⟨(ci, gs), ⟨co, sz.js, sz.jl⟩, .cons rfl (.cons k2 .nil), fun v H' s pv => q' v H' (s8.trans s) pv⟩
  have stC : Stay (fun v H => ∃ cs, ChK gs cs ∧ pNats K cs v H) := fun v H H' s ⟨cs, a, p⟩ => ⟨cs, a, st_nats _ _ _ s p⟩
  have stCC : ∀ P ∈ [(fun v H => ∃ cs, ChK gs cs ∧ pNats K cs v H), (fun v H => ∃ cs, ChK gs cs ∧ pNats K cs v H)], Stay P := stay_cons stC (stay_cons stC stay_nil)
  refine seq_set (ev_lst (K := K) (eva_cons (eCh 4 H5 (by omega) (Same.refl _)) stC.mono (eva_cons (eCh 5 H5 (by omega) (Same.refl _)) stC.mono eva_nil)) stCC (by simp)) fun vts H6 s6 pts => ?_
  have s56 := s5.trans s6
  have s06 := s05.trans s6
  have st3 : ∀ P ∈ [pInt 0, pInt 1, pInt 0], Stay P := stay_cons stay_int (stay_cons stay_int (stay_cons stay_int stay_nil))
  refine for_T (K := K) (ev_tup (K := K) (eva_cons (ev_int (i := 0)) stay_int.mono (eva_cons (ev_int (i := 1)) stay_int.mono (eva_cons (ev_int (i := 0)) stay_int.mono eva_nil))) st3 (by simp)) st3 fun v3 H7 s7 p3 => ⟨fun i σ H' => ∃ y6 : Option V, σ = [some v1, some vd, some vb, some vg, some vt, some vts, y6] ∧ Same H6 H' ∧ Same H7 H', ⟨none, rfl, s7, Same.refl _⟩, fun i σ H' ⟨_, _, _, h⟩ => Same.stb h, ?_, ?_⟩
  · rintro i x P σ H8 hP px ⟨y6, rfl, s8, s78⟩
    have hx : ∃ j : Nat, j < 2 ∧ x = V.int (j : Nat) := by
      have hi := lt_of_get hP
      rcases (show i = 0 ∨ i = 1 ∨ i = 2 by simp at hi; omega) with rfl | rfl | rfl
      · cases hP; exact ⟨0, by omega, px⟩
      · cases hP; exact ⟨1, by omega, px⟩
      · cases hP; exact ⟨0, by omega, px⟩
    obtain ⟨j, hj, rfl⟩ := hx
    have hcc : ∃ P, [(fun v H => ∃ cs, ChK gs cs ∧ pNats K cs v H), (fun v H => ∃ cs, ChK gs cs ∧ pNats K cs v H)][j]? = some P ∧ P = (fun v H => ∃ cs, ChK gs cs ∧ pNats K cs v H) := by
      rcases (show j = 0 ∨ j = 1 by omega) with rfl | rfl
      · exact ⟨_, rfl, rfl⟩
      · exact ⟨_, rfl, rfl⟩
    obtain ⟨_, hcc, rfl⟩ := hcc
    refine one_if (b := false) (et_not (a := true) (et_B fun H9 e9 Q' q' => ?_)) fun H9 s9 => ?_
    · refine (eva_cons (ev_v (i := 3) (σ := [some v1, some vd, some vb, some vg, some vt, some vts, some (.int (j : Nat))]) rfl (stay_tup stG).mono ((stay_tup stG).mono _ _ _ (s4.trans (s56.trans s8)) pg)) (stay_tup stG).mono (eva_cons (ev_ixL (K := K) (i := j) (ev_v (i := 5) rfl (mono_lst (stay_mono stCC)) (mono_lst (stay_mono stCC) _ _ _ s8 pts)) (ev_v (i := 6) (P := pInt (j : Nat)) rfl stay_int.mono rfl) rfl hcc stCC) stC.mono (eva_cons (ev_v (i := 2) rfl stay_R.mono (stay_R.mono _ _ _ (s3.trans (s4.trans (s56.trans s8))) pb)) stay_R.mono (eva_cons (ev_v (i := 4) rfl st_tb.mono (st_tb.mono _ _ _ (s56.trans s8) pt)) st_tb.mono eva_nil)))) H9 e9 _ fun vs H10 s10 al10 => ?_
      cases al10 with | cons k1 al10 => cases al10 with | cons k2 al10 => cases al10 with | cons k3 al10 => cases al10 with | cons k4 al10 => cases al10 with | nil =>
      obtain ⟨cs, ch, k2⟩ := k2
      exact ⟨⟨gs, cs, b⟩, ⟨co, ch, b0, b1, sz, scs cs ch⟩, .cons k1 (.cons k2 (.cons k3 (.cons k4 .nil))), fun v H' s pv => q' v H' (s10.trans s) pv⟩
    · refine iteF ?_
      exact ⟨_, rfl, s8.trans s9, s78.trans s9⟩
  · rintro σ H8 ⟨y6, rfl, s8, s78⟩
    exact one_ret ev_bl fun v H9 s9 p => q v H9 (s06.trans (s8.trans s9)) p
end
end AC
end
section
set_option maxRecDepth 100000
/-! The end: what the top has written, the chain of promises. -/
namespace AC
open PySem PySem.Spec PyProof.Rows L2
section
variable {K : PySem.W.Frag} {h : Heap} {mg : Str → Option Value}
theorem got_mk {x : Str} {i : Nat} {ps : List Str} {f : Addr} {oc kV dc pm cd ct : Value} {od an : Option Addr} {sl : Array (Option Value)} (X : K.In h) (G : h.Ns mainGlobals mg) (hb : ∀ (kV doc pm : Value) (an : Option Addr) (cdv ct : Value) (us : List Value), us.length = ps.length → bindArgs (PySem.W.fnOf x x (defArgs (topS i)) (defBody (topS i)) (defScope (topS i)) .none kV doc pm an cdv ct) ⟨us, []⟩ = pure (ps.zip us))
    (a : PySem.W.nsIn K mainGlobals x = some (some (.ref f))) (l : K.lookup f = some ⟨oc, od, .func (PySem.W.fnOf x x (defArgs (topS i)) (defBody (topS i)) (defScope (topS i)) .none kV dc pm an cd ct), sl⟩) (c : PySem.W.codeIn K cd x = true) (k : PySem.W.keepIn K (.ref f) = true) : Got K mg x i ps := by
  have F := fun_mk (st := topS i) l c k
  exact ⟨f, _, F, PySem.W.mg_of X G a, F.binds hb⟩
theorem z_mk {x : Str} {z : Addr} {n d : Int} {t u : Tok} {m : Nat} {dd : Option Addr} {sl : Array (Option Value)} {r : Rat} (X : K.In h) (G : h.Ns mainGlobals mg) (hn : r.num = n) (hd : (r.den : Int) = d) (ok : Ok r) (a : PySem.W.nsIn K mainGlobals x = some (some (.ref z))) (l : K.lookup z = some ⟨.type "tuple", dd, .seq #[.int n t, .int d u] m, sl⟩) :
    ∃ z : Addr, mg x = some (.ref z) ∧ ∀ H, pR K r (.ref z) H := by
  refine ⟨z, PySem.W.mg_of X G a, fun H => ⟨z, rfl, .inr ⟨_, _, _, l, rfl, rfl, (by show 2 ≤ sizeLine; decide), ?_⟩, ok⟩⟩
  rw [hn, hd]
  exact .cons ⟨_, rfl⟩ (.cons ⟨_, rfl⟩ .nil)
theorem gotD_mk {f D : Addr} {oc dc pm cd ct : Value} {od an : Option Addr} {sl : Array (Option Value)} (X : K.In h) (G : h.Ns mainGlobals mg)
    (a : PySem.W.nsIn K mainGlobals "value_table" = some (some (.ref f))) (l : K.lookup f = some ⟨oc, od, .func (PySem.W.fnOf "value_table" "value_table" (defArgs (topS 49)) (defBody (topS 49)) (defScope (topS 49)) .none (.ref D) dc pm an cd ct), sl⟩) (c : PySem.W.codeIn K cd "value_table" = true) (k : PySem.W.keepIn K (.ref f) = true) (d : PySem.W.nsIn K D "stop" = some (some .none)) : GotD K mg "value_table" 49 ["games", "discount", "stop"] := by
  have F : FunD K "value_table" "value_table" (defArgs (topS 49)) (defBody (topS 49)) (defScope (topS 49)) [] [("stop", V.non)] f _ := ⟨⟨oc, od, .none, .ref D, dc, pm, an, cd, ct, sl, rfl, l, c, .inl ⟨rfl, rfl⟩, .inr ⟨D, rfl, fun q hq => by
    rw [List.mem_singleton.mp hq]
    exact ⟨_, d, rfl⟩⟩⟩, k⟩
  exact ⟨"stop", f, _, F, PySem.W.mg_of X G a, F.binds0 (ps := ["games", "discount", "stop"]) 2 (by simp) rfl fun D doc pm an cdv ct us ks h1 h2 => match us, h1, ks, h2 with
    | [_, _], _, [_], _ => ⟨_, _, _, _, _, _, rfl, rfl, rfl⟩⟩
theorem cur_mk {C f1 p g f3 : Addr} {rest : List Value} {oc1 kV1 dc1 pm1 cd1 ct1 oc2 kV2 dc2 pm2 cd2 ct2 oc3 kV3 dc3 pm3 cd3 ct3 : Value} {od1 an1 od2 an2 od3 an3 : Option Addr} {sl1 sl2 sl3 : Array (Option Value)} (X : K.In h) (G : h.Ns mainGlobals mg)
    (aC : PySem.W.nsIn K mainGlobals "Curve" = some (some (.ref C))) (pg : PySem.W.plainGet K C Str.empty = true) (hd : PySem.W.hasDictIn K C = true) (po : PySem.W.plainOver K C = true) (sa : PySem.W.findIn K (.ref C) "__setattr__" = some (some (.builtin "object.__setattr__"))) (nk : PySem.W.findIn K (.ref C) "knots" = some none) (mk : PySem.W.makesIn K C = true) (kc : PySem.W.keepIn K (.ref C) = true)
    (a1 : PySem.W.findIn K (.ref C) "__init__" = some (some (.ref f1))) (i1 : PySem.W.isFn K (.ref f1) = true) (l1 : K.lookup f1 = some ⟨oc1, od1, .func (PySem.W.fnOf "__init__" "Curve.__init__" (defArgs (inClass (topS 42) 0)) (defBody (inClass (topS 42) 0)) (defScope (inClass (topS 42) 0)) .none kV1 dc1 pm1 an1 cd1 ct1), sl1⟩) (c1 : PySem.W.codeIn K cd1 "Curve.__init__" = true) (k1 : PySem.W.keepIn K (.ref f1) = true)
    (fp : PySem.W.findIn K (.ref C) "floor" = some (some (.ref p))) (gp : PySem.W.specialIn K (.ref p) "__get__" = some (some (.builtin "property.__get__"))) (tp : PySem.W.takesIn K (.ref p) = some true) (rp : PySem.W.recIn K p "property" = some (.ref g :: rest))
    (l2 : K.lookup g = some ⟨oc2, od2, .func (PySem.W.fnOf "floor" "Curve.floor" (defArgs (inClass (topS 42) 1)) (defBody (inClass (topS 42) 1)) (defScope (inClass (topS 42) 1)) .none kV2 dc2 pm2 an2 cd2 ct2), sl2⟩) (c2 : PySem.W.codeIn K cd2 "Curve.floor" = true) (k2 : PySem.W.keepIn K (.ref g) = true)
    (sf : PySem.W.selfFirst K C = true) (a3 : PySem.W.findIn K (.ref C) "__mul__" = some (some (.ref f3))) (i3 : PySem.W.isFn K (.ref f3) = true) (l3 : K.lookup f3 = some ⟨oc3, od3, .func (PySem.W.fnOf "__mul__" "Curve.__mul__" (defArgs (inClass (topS 42) 7)) (defBody (inClass (topS 42) 7)) (defScope (inClass (topS 42) 7)) .none kV3 dc3 pm3 an3 cd3 ct3), sl3⟩) (c3 : PySem.W.codeIn K cd3 "Curve.__mul__" = true) (k3 : PySem.W.keepIn K (.ref f3) = true) :
    ∃ C, CurveAt K mg C := by
  have F1 := fun_mk (st := inClass (topS 42) 0) l1 c1 k1
  have F2 := fun_mk (st := inClass (topS 42) 1) l2 c2 k2
  have F3 := fun_mk (st := inClass (topS 42) 7) l3 c3 k3
  exact ⟨C, ⟨pg, hd, po, sa⟩, nk, PySem.W.mg_of X G aC, ⟨f1, _, F1, ⟨mk, a1, i1, kc⟩, F1.binds fun _ _ _ _ _ _ us hl => match us, hl with | [_, _], _ => rfl⟩,
    ⟨p, g, _, F2, ⟨fp, gp, tp, ⟨rest, rp⟩⟩, F2.binds fun _ _ _ _ _ _ us hl => match us, hl with | [_], _ => rfl⟩, ⟨f3, _, F3, F3.binds fun _ _ _ _ _ _ us hl => match us, hl with | [_, _], _ => rfl, sf, a3, i3⟩⟩
end

theorem b_8 (kV doc pm : Value) (an : Option Addr) (cdv ct : Value) (us : List Value) (hl : us.length = 2) : bindArgs (PySem.W.fnOf "common_divisor" "common_divisor" (defArgs (topS 8)) (defBody (topS 8)) (defScope (topS 8)) .none kV doc pm an cdv ct) ⟨us, []⟩ = pure ((["a", "b"] : List Str).zip us) := match us, hl with | [_, _], _ => rfl
theorem b_9 (kV doc pm : Value) (an : Option Addr) (cdv ct : Value) (us : List Value) (hl : us.length = 2) : bindArgs (PySem.W.fnOf "make_ratio" "make_ratio" (defArgs (topS 9)) (defBody (topS 9)) (defScope (topS 9)) .none kV doc pm an cdv ct) ⟨us, []⟩ = pure ((["n", "d"] : List Str).zip us) := match us, hl with | [_, _], _ => rfl
theorem b_10 (kV doc pm : Value) (an : Option Addr) (cdv ct : Value) (us : List Value) (hl : us.length = 2) : bindArgs (PySem.W.fnOf "add" "add" (defArgs (topS 10)) (defBody (topS 10)) (defScope (topS 10)) .none kV doc pm an cdv ct) ⟨us, []⟩ = pure ((["a", "b"] : List Str).zip us) := match us, hl with | [_, _], _ => rfl
theorem b_11 (kV doc pm : Value) (an : Option Addr) (cdv ct : Value) (us : List Value) (hl : us.length = 2) : bindArgs (PySem.W.fnOf "subtract" "subtract" (defArgs (topS 11)) (defBody (topS 11)) (defScope (topS 11)) .none kV doc pm an cdv ct) ⟨us, []⟩ = pure ((["a", "b"] : List Str).zip us) := match us, hl with | [_, _], _ => rfl
theorem b_12 (kV doc pm : Value) (an : Option Addr) (cdv ct : Value) (us : List Value) (hl : us.length = 2) : bindArgs (PySem.W.fnOf "multiply" "multiply" (defArgs (topS 12)) (defBody (topS 12)) (defScope (topS 12)) .none kV doc pm an cdv ct) ⟨us, []⟩ = pure ((["a", "b"] : List Str).zip us) := match us, hl with | [_, _], _ => rfl
theorem b_13 (kV doc pm : Value) (an : Option Addr) (cdv ct : Value) (us : List Value) (hl : us.length = 2) : bindArgs (PySem.W.fnOf "divide" "divide" (defArgs (topS 13)) (defBody (topS 13)) (defScope (topS 13)) .none kV doc pm an cdv ct) ⟨us, []⟩ = pure ((["a", "b"] : List Str).zip us) := match us, hl with | [_, _], _ => rfl
theorem b_14 (kV doc pm : Value) (an : Option Addr) (cdv ct : Value) (us : List Value) (hl : us.length = 2) : bindArgs (PySem.W.fnOf "compare" "compare" (defArgs (topS 14)) (defBody (topS 14)) (defScope (topS 14)) .none kV doc pm an cdv ct) ⟨us, []⟩ = pure ((["a", "b"] : List Str).zip us) := match us, hl with | [_, _], _ => rfl
theorem b_16 (kV doc pm : Value) (an : Option Addr) (cdv ct : Value) (us : List Value) (hl : us.length = 3) : bindArgs (PySem.W.fnOf "without" "without" (defArgs (topS 16)) (defBody (topS 16)) (defScope (topS 16)) .none kV doc pm an cdv ct) ⟨us, []⟩ = pure ((["row", "other", "column"] : List Str).zip us) := match us, hl with | [_, _, _], _ => rfl
theorem b_17 (kV doc pm : Value) (an : Option Addr) (cdv ct : Value) (us : List Value) (hl : us.length = 2) : bindArgs (PySem.W.fnOf "first_nonzero" "first_nonzero" (defArgs (topS 17)) (defBody (topS 17)) (defScope (topS 17)) .none kV doc pm an cdv ct) ⟨us, []⟩ = pure ((["row", "size"] : List Str).zip us) := match us, hl with | [_, _], _ => rfl
theorem b_18 (kV doc pm : Value) (an : Option Addr) (cdv ct : Value) (us : List Value) (hl : us.length = 2) : bindArgs (PySem.W.fnOf "solve" "solve" (defArgs (topS 18)) (defBody (topS 18)) (defScope (topS 18)) .none kV doc pm an cdv ct) ⟨us, []⟩ = pure ((["matrix", "right"] : List Str).zip us) := match us, hl with | [_, _], _ => rfl
theorem b_22 (kV doc pm : Value) (an : Option Addr) (cdv ct : Value) (us : List Value) (hl : us.length = 3) : bindArgs (PySem.W.fnOf "leave_values" "leave_values" (defArgs (topS 22)) (defBody (topS 22)) (defScope (topS 22)) .none kV doc pm an cdv ct) ⟨us, []⟩ = pure ((["game", "inside", "discount"] : List Str).zip us) := match us, hl with | [_, _, _], _ => rfl
theorem b_23 (kV doc pm : Value) (an : Option Addr) (cdv ct : Value) (us : List Value) (hl : us.length = 3) : bindArgs (PySem.W.fnOf "leave_table" "leave_table" (defArgs (topS 23)) (defBody (topS 23)) (defScope (topS 23)) .none kV doc pm an cdv ct) ⟨us, []⟩ = pure ((["game", "inside", "discount"] : List Str).zip us) := match us, hl with | [_, _, _], _ => rfl
theorem b_24 (kV doc pm : Value) (an : Option Addr) (cdv ct : Value) (us : List Value) (hl : us.length = 4) : bindArgs (PySem.W.fnOf "first_play" "first_play" (defArgs (topS 24)) (defBody (topS 24)) (defScope (topS 24)) .none kV doc pm an cdv ct) ⟨us, []⟩ = pure ((["game", "state", "table", "discount"] : List Str).zip us) := match us, hl with | [_, _, _, _], _ => rfl
theorem b_26 (kV doc pm : Value) (an : Option Addr) (cdv ct : Value) (us : List Value) (hl : us.length = 3) : bindArgs (PySem.W.fnOf "next_state" "next_state" (defArgs (topS 26)) (defBody (topS 26)) (defScope (topS 26)) .none kV doc pm an cdv ct) ⟨us, []⟩ = pure ((["game", "inside", "discount"] : List Str).zip us) := match us, hl with | [_, _, _], _ => rfl
theorem b_27 (kV doc pm : Value) (an : Option Addr) (cdv ct : Value) (us : List Value) (hl : us.length = 2) : bindArgs (PySem.W.fnOf "index_order" "index_order" (defArgs (topS 27)) (defBody (topS 27)) (defScope (topS 27)) .none kV doc pm an cdv ct) ⟨us, []⟩ = pure ((["game", "discount"] : List Str).zip us) := match us, hl with | [_, _], _ => rfl
theorem b_31 (kV doc pm : Value) (an : Option Addr) (cdv ct : Value) (us : List Value) (hl : us.length = 2) : bindArgs (PySem.W.fnOf "line_slope" "line_slope" (defArgs (topS 31)) (defBody (topS 31)) (defScope (topS 31)) .none kV doc pm an cdv ct) ⟨us, []⟩ = pure ((["left", "right"] : List Str).zip us) := match us, hl with | [_, _], _ => rfl
theorem b_33 (kV doc pm : Value) (an : Option Addr) (cdv ct : Value) (us : List Value) (hl : us.length = 2) : bindArgs (PySem.W.fnOf "slope_at" "slope_at" (defArgs (topS 33)) (defBody (topS 33)) (defScope (topS 33)) .none kV doc pm an cdv ct) ⟨us, []⟩ = pure ((["knots", "amount"] : List Str).zip us) := match us, hl with | [_, _], _ => rfl
theorem b_34 (kV doc pm : Value) (an : Option Addr) (cdv ct : Value) (us : List Value) (hl : us.length = 1) : bindArgs (PySem.W.fnOf "first_wrong" "first_wrong" (defArgs (topS 34)) (defBody (topS 34)) (defScope (topS 34)) .none kV doc pm an cdv ct) ⟨us, []⟩ = pure ((["knots"] : List Str).zip us) := match us, hl with | [_], _ => rfl
theorem b_35 (kV doc pm : Value) (an : Option Addr) (cdv ct : Value) (us : List Value) (hl : us.length = 1) : bindArgs (PySem.W.fnOf "straightened" "straightened" (defArgs (topS 35)) (defBody (topS 35)) (defScope (topS 35)) .none kV doc pm an cdv ct) ⟨us, []⟩ = pure ((["points"] : List Str).zip us) := match us, hl with | [_], _ => rfl
theorem b_36 (kV doc pm : Value) (an : Option Addr) (cdv ct : Value) (us : List Value) (hl : us.length = 2) : bindArgs (PySem.W.fnOf "merged_amounts" "merged_amounts" (defArgs (topS 36)) (defBody (topS 36)) (defScope (topS 36)) .none kV doc pm an cdv ct) ⟨us, []⟩ = pure ((["first", "second"] : List Str).zip us) := match us, hl with | [_, _], _ => rfl
theorem b_37 (kV doc pm : Value) (an : Option Addr) (cdv ct : Value) (us : List Value) (hl : us.length = 2) : bindArgs (PySem.W.fnOf "product_knots" "product_knots" (defArgs (topS 37)) (defBody (topS 37)) (defScope (topS 37)) .none kV doc pm an cdv ct) ⟨us, []⟩ = pure ((["first", "second"] : List Str).zip us) := match us, hl with | [_, _], _ => rfl
theorem b_44 (kV doc pm : Value) (an : Option Addr) (cdv ct : Value) (us : List Value) (hl : us.length = 2) : bindArgs (PySem.W.fnOf "all_curves" "all_curves" (defArgs (topS 44)) (defBody (topS 44)) (defScope (topS 44)) .none kV doc pm an cdv ct) ⟨us, []⟩ = pure ((["game", "discount"] : List Str).zip us) := match us, hl with | [_, _], _ => rfl
theorem b_46 (kV doc pm : Value) (an : Option Addr) (cdv ct : Value) (us : List Value) (hl : us.length = 2) : bindArgs (PySem.W.fnOf "gain_of" "gain_of" (defArgs (topS 46)) (defBody (topS 46)) (defScope (topS 46)) .none kV doc pm an cdv ct) ⟨us, []⟩ = pure ((["curve", "stop"] : List Str).zip us) := match us, hl with | [_, _], _ => rfl
theorem b_48 (kV doc pm : Value) (an : Option Addr) (cdv ct : Value) (us : List Value) (hl : us.length = 1) : bindArgs (PySem.W.fnOf "joint_states" "joint_states" (defArgs (topS 48)) (defBody (topS 48)) (defScope (topS 48)) .none kV doc pm an cdv ct) ⟨us, []⟩ = pure ((["games"] : List Str).zip us) := match us, hl with | [_], _ => rfl
theorem b_53 (kV doc pm : Value) (an : Option Addr) (cdv ct : Value) (us : List Value) (hl : us.length = 3) : bindArgs (PySem.W.fnOf "with_state" "with_state" (defArgs (topS 53)) (defBody (topS 53)) (defScope (topS 53)) .none kV doc pm an cdv ct) ⟨us, []⟩ = pure ((["joint", "position", "state"] : List Str).zip us) := match us, hl with | [_, _, _], _ => rfl
theorem b_56 (kV doc pm : Value) (an : Option Addr) (cdv ct : Value) (us : List Value) (hl : us.length = 2) : bindArgs (PySem.W.fnOf "by_joint" "by_joint" (defArgs (topS 56)) (defBody (topS 56)) (defScope (topS 56)) .none kV doc pm an cdv ct) ⟨us, []⟩ = pure ((["games", "values"] : List Str).zip us) := match us, hl with | [_, _], _ => rfl
theorem b_55 (kV doc pm : Value) (an : Option Addr) (cdv ct : Value) (us : List Value) (hl : us.length = 5) : bindArgs (PySem.W.fnOf "played" "played" (defArgs (topS 55)) (defBody (topS 55)) (defScope (topS 55)) .none kV doc pm an cdv ct) ⟨us, []⟩ = pure ((["games", "joint", "position", "worths", "discount"] : List Str).zip us) := match us, hl with | [_, _, _, _, _], _ => rfl
theorem b_54 (kV doc pm : Value) (an : Option Addr) (cdv ct : Value) (us : List Value) (hl : us.length = 3) : bindArgs (PySem.W.fnOf "choice_values" "choice_values" (defArgs (topS 54)) (defBody (topS 54)) (defScope (topS 54)) .none kV doc pm an cdv ct) ⟨us, []⟩ = pure ((["games", "choices", "discount"] : List Str).zip us) := match us, hl with | [_, _, _], _ => rfl
theorem b_57 (kV doc pm : Value) (an : Option Addr) (cdv ct : Value) (us : List Value) (hl : us.length = 3) : bindArgs (PySem.W.fnOf "choice_costs" "choice_costs" (defArgs (topS 57)) (defBody (topS 57)) (defScope (topS 57)) .none kV doc pm an cdv ct) ⟨us, []⟩ = pure ((["games", "choices", "discount"] : List Str).zip us) := match us, hl with | [_, _, _], _ => rfl
theorem b_58 (kV doc pm : Value) (an : Option Addr) (cdv ct : Value) (us : List Value) (hl : us.length = 3) : bindArgs (PySem.W.fnOf "choice_losses" "choice_losses" (defArgs (topS 58)) (defBody (topS 58)) (defScope (topS 58)) .none kV doc pm an cdv ct) ⟨us, []⟩ = pure ((["games", "choices", "discount"] : List Str).zip us) := match us, hl with | [_, _, _], _ => rfl
theorem b_60 (kV doc pm : Value) (an : Option Addr) (cdv ct : Value) (us : List Value) (hl : us.length = 2) : bindArgs (PySem.W.fnOf "_law_cell" "_law_cell" (defArgs (topS 60)) (defBody (topS 60)) (defScope (topS 60)) .none kV doc pm an cdv ct) ⟨us, []⟩ = pure ((["_law_script", "_law_k"] : List Str).zip us) := match us, hl with | [_, _], _ => rfl
theorem b_62 (kV doc pm : Value) (an : Option Addr) (cdv ct : Value) (us : List Value) (hl : us.length = 2) : bindArgs (PySem.W.fnOf "_law_low" "_law_low" (defArgs (topS 62)) (defBody (topS 62)) (defScope (topS 62)) .none kV doc pm an cdv ct) ⟨us, []⟩ = pure ((["_law_n", "_law_d"] : List Str).zip us) := match us, hl with | [_, _], _ => rfl
theorem b_63 (kV doc pm : Value) (an : Option Addr) (cdv ct : Value) (us : List Value) (hl : us.length = 1) : bindArgs (PySem.W.fnOf "_law_is_integer" "_law_is_integer" (defArgs (topS 63)) (defBody (topS 63)) (defScope (topS 63)) .none kV doc pm an cdv ct) ⟨us, []⟩ = pure ((["_law_value"] : List Str).zip us) := match us, hl with | [_], _ => rfl
theorem b_64 (kV doc pm : Value) (an : Option Addr) (cdv ct : Value) (us : List Value) (hl : us.length = 1) : bindArgs (PySem.W.fnOf "_law_is_ratio" "_law_is_ratio" (defArgs (topS 64)) (defBody (topS 64)) (defScope (topS 64)) .none kV doc pm an cdv ct) ⟨us, []⟩ = pure ((["_law_value"] : List Str).zip us) := match us, hl with | [_], _ => rfl
theorem b_65 (kV doc pm : Value) (an : Option Addr) (cdv ct : Value) (us : List Value) (hl : us.length = 2) : bindArgs (PySem.W.fnOf "_law_ratios" "_law_ratios" (defArgs (topS 65)) (defBody (topS 65)) (defScope (topS 65)) .none kV doc pm an cdv ct) ⟨us, []⟩ = pure ((["_law_values", "_law_count"] : List Str).zip us) := match us, hl with | [_, _], _ => rfl
theorem b_66 (kV doc pm : Value) (an : Option Addr) (cdv ct : Value) (us : List Value) (hl : us.length = 2) : bindArgs (PySem.W.fnOf "_law_add" "_law_add" (defArgs (topS 66)) (defBody (topS 66)) (defScope (topS 66)) .none kV doc pm an cdv ct) ⟨us, []⟩ = pure ((["_law_a", "_law_b"] : List Str).zip us) := match us, hl with | [_, _], _ => rfl
theorem b_67 (kV doc pm : Value) (an : Option Addr) (cdv ct : Value) (us : List Value) (hl : us.length = 2) : bindArgs (PySem.W.fnOf "_law_sub" "_law_sub" (defArgs (topS 67)) (defBody (topS 67)) (defScope (topS 67)) .none kV doc pm an cdv ct) ⟨us, []⟩ = pure ((["_law_a", "_law_b"] : List Str).zip us) := match us, hl with | [_, _], _ => rfl
theorem b_68 (kV doc pm : Value) (an : Option Addr) (cdv ct : Value) (us : List Value) (hl : us.length = 2) : bindArgs (PySem.W.fnOf "_law_mul" "_law_mul" (defArgs (topS 68)) (defBody (topS 68)) (defScope (topS 68)) .none kV doc pm an cdv ct) ⟨us, []⟩ = pure ((["_law_a", "_law_b"] : List Str).zip us) := match us, hl with | [_, _], _ => rfl
theorem b_69 (kV doc pm : Value) (an : Option Addr) (cdv ct : Value) (us : List Value) (hl : us.length = 2) : bindArgs (PySem.W.fnOf "_law_less" "_law_less" (defArgs (topS 69)) (defBody (topS 69)) (defScope (topS 69)) .none kV doc pm an cdv ct) ⟨us, []⟩ = pure ((["_law_a", "_law_b"] : List Str).zip us) := match us, hl with | [_, _], _ => rfl
theorem b_70 (kV doc pm : Value) (an : Option Addr) (cdv ct : Value) (us : List Value) (hl : us.length = 1) : bindArgs (PySem.W.fnOf "_law_fraction" "_law_fraction" (defArgs (topS 70)) (defBody (topS 70)) (defScope (topS 70)) .none kV doc pm an cdv ct) ⟨us, []⟩ = pure ((["_law_draw"] : List Str).zip us) := match us, hl with | [_], _ => rfl
theorem b_71 (kV doc pm : Value) (an : Option Addr) (cdv ct : Value) (us : List Value) (hl : us.length = 1) : bindArgs (PySem.W.fnOf "_law_discount" "_law_discount" (defArgs (topS 71)) (defBody (topS 71)) (defScope (topS 71)) .none kV doc pm an cdv ct) ⟨us, []⟩ = pure ((["_law_draw"] : List Str).zip us) := match us, hl with | [_], _ => rfl
theorem b_61 (kV doc pm : Value) (an : Option Addr) (cdv ct : Value) (us : List Value) (hl : us.length = 2) : bindArgs (PySem.W.fnOf "_law_draws" "_law_draws" (defArgs (topS 61)) (defBody (topS 61)) (defScope (topS 61)) .none kV doc pm an cdv ct) ⟨us, []⟩ = pure ((["_law_cell_here", "_law_count"] : List Str).zip us) := match us, hl with | [_, _], _ => rfl
theorem b_72 (kV doc pm : Value) (an : Option Addr) (cdv ct : Value) (us : List Value) (hl : us.length = 2) : bindArgs (PySem.W.fnOf "_law_game" "_law_game" (defArgs (topS 72)) (defBody (topS 72)) (defScope (topS 72)) .none kV doc pm an cdv ct) ⟨us, []⟩ = pure ((["_law_cell_here", "_law_most"] : List Str).zip us) := match us, hl with | [_, _], _ => rfl
theorem b_73 (kV doc pm : Value) (an : Option Addr) (cdv ct : Value) (us : List Value) (hl : us.length = 1) : bindArgs (PySem.W.fnOf "_law_joints" "_law_joints" (defArgs (topS 73)) (defBody (topS 73)) (defScope (topS 73)) .none kV doc pm an cdv ct) ⟨us, []⟩ = pure ((["_law_games_here"] : List Str).zip us) := match us, hl with | [_], _ => rfl
theorem b_74 (kV doc pm : Value) (an : Option Addr) (cdv ct : Value) (us : List Value) (hl : us.length = 2) : bindArgs (PySem.W.fnOf "_law_number" "_law_number" (defArgs (topS 74)) (defBody (topS 74)) (defScope (topS 74)) .none kV doc pm an cdv ct) ⟨us, []⟩ = pure ((["_law_games_here", "_law_joint"] : List Str).zip us) := match us, hl with | [_, _], _ => rfl
theorem b_75 (kV doc pm : Value) (an : Option Addr) (cdv ct : Value) (us : List Value) (hl : us.length = 5) : bindArgs (PySem.W.fnOf "_law_played" "_law_played" (defArgs (topS 75)) (defBody (topS 75)) (defScope (topS 75)) .none kV doc pm an cdv ct) ⟨us, []⟩ = pure ((["_law_games_here", "_law_joint", "_law_at", "_law_discount_here", "_law_table"] : List Str).zip us) := match us, hl with | [_, _, _, _, _], _ => rfl
theorem b_80 (kV doc pm : Value) (an : Option Addr) (cdv ct : Value) (us : List Value) (hl : us.length = 5) : bindArgs (PySem.W.fnOf "_law_expected" "_law_expected" (defArgs (topS 80)) (defBody (topS 80)) (defScope (topS 80)) .none kV doc pm an cdv ct) ⟨us, []⟩ = pure ((["_law_games_here", "_law_joint", "_law_at", "_law_discount_here", "_law_losses"] : List Str).zip us) := match us, hl with | [_, _, _, _, _], _ => rfl
theorem b_76 (kV doc pm : Value) (an : Option Addr) (cdv ct : Value) (us : List Value) (hl : us.length = 4) : bindArgs (PySem.W.fnOf "_law_is_best" "_law_is_best" (defArgs (topS 76)) (defBody (topS 76)) (defScope (topS 76)) .none kV doc pm an cdv ct) ⟨us, []⟩ = pure ((["_law_games_here", "_law_discount_here", "_law_halt", "_law_table"] : List Str).zip us) := match us, hl with | [_, _, _, _], _ => rfl
theorem b_78 (kV doc pm : Value) (an : Option Addr) (cdv ct : Value) (us : List Value) (hl : us.length = 2) : bindArgs (PySem.W.fnOf "_law_choices" "_law_choices" (defArgs (topS 78)) (defBody (topS 78)) (defScope (topS 78)) .none kV doc pm an cdv ct) ⟨us, []⟩ = pure ((["_law_cell_here", "_law_games_here"] : List Str).zip us) := match us, hl with | [_, _], _ => rfl
theorem b_79 (kV doc pm : Value) (an : Option Addr) (cdv ct : Value) (us : List Value) (hl : us.length = 4) : bindArgs (PySem.W.fnOf "_law_is_followed" "_law_is_followed" (defArgs (topS 79)) (defBody (topS 79)) (defScope (topS 79)) .none kV doc pm an cdv ct) ⟨us, []⟩ = pure ((["_law_games_here", "_law_choices_here", "_law_discount_here", "_law_values"] : List Str).zip us) := match us, hl with | [_, _, _, _], _ => rfl
theorem b_77 (kV doc pm : Value) (an : Option Addr) (cdv ct : Value) (us : List Value) (hl : us.length = 3) : bindArgs (PySem.W.fnOf "_law_games" "_law_games" (defArgs (topS 77)) (defBody (topS 77)) (defScope (topS 77)) .none kV doc pm an cdv ct) ⟨us, []⟩ = pure ((["_law_script", "_law_first", "_law_draw"] : List Str).zip us) := match us, hl with | [_, _, _], _ => rfl
theorem b_81 (kV doc pm : Value) (an : Option Addr) (cdv ct : Value) (us : List Value) (hl : us.length = 4) : bindArgs (PySem.W.fnOf "_law_adds_up" "_law_adds_up" (defArgs (topS 81)) (defBody (topS 81)) (defScope (topS 81)) .none kV doc pm an cdv ct) ⟨us, []⟩ = pure ((["_law_games_here", "_law_choices_here", "_law_discount_here", "_law_table"] : List Str).zip us) := match us, hl with | [_, _, _, _], _ => rfl
theorem b_82 (kV doc pm : Value) (an : Option Addr) (cdv ct : Value) (us : List Value) (hl : us.length = 1) : bindArgs (PySem.W.fnOf "law" "law" (defArgs (topS 82)) (defBody (topS 82)) (defScope (topS 82)) .none kV doc pm an cdv ct) ⟨us, []⟩ = pure ((["_law_script"] : List Str).zip us) := match us, hl with | [_], _ => rfl
/-- what the top has written -/
structure Tops (K : PySem.W.Frag) (mg : Str → Option Value) : Prop where
  g8 : Got K mg "common_divisor" 8 ["a", "b"]
  g9 : Got K mg "make_ratio" 9 ["n", "d"]
  g10 : Got K mg "add" 10 ["a", "b"]
  g11 : Got K mg "subtract" 11 ["a", "b"]
  g12 : Got K mg "multiply" 12 ["a", "b"]
  g13 : Got K mg "divide" 13 ["a", "b"]
  g14 : Got K mg "compare" 14 ["a", "b"]
  g16 : Got K mg "without" 16 ["row", "other", "column"]
  g17 : Got K mg "first_nonzero" 17 ["row", "size"]
  g18 : Got K mg "solve" 18 ["matrix", "right"]
  g22 : Got K mg "leave_values" 22 ["game", "inside", "discount"]
  g23 : Got K mg "leave_table" 23 ["game", "inside", "discount"]
  g24 : Got K mg "first_play" 24 ["game", "state", "table", "discount"]
  g26 : Got K mg "next_state" 26 ["game", "inside", "discount"]
  g27 : Got K mg "index_order" 27 ["game", "discount"]
  g31 : Got K mg "line_slope" 31 ["left", "right"]
  g33 : Got K mg "slope_at" 33 ["knots", "amount"]
  g34 : Got K mg "first_wrong" 34 ["knots"]
  g35 : Got K mg "straightened" 35 ["points"]
  g36 : Got K mg "merged_amounts" 36 ["first", "second"]
  g37 : Got K mg "product_knots" 37 ["first", "second"]
  g44 : Got K mg "all_curves" 44 ["game", "discount"]
  g46 : Got K mg "gain_of" 46 ["curve", "stop"]
  g48 : Got K mg "joint_states" 48 ["games"]
  g53 : Got K mg "with_state" 53 ["joint", "position", "state"]
  g56 : Got K mg "by_joint" 56 ["games", "values"]
  g55 : Got K mg "played" 55 ["games", "joint", "position", "worths", "discount"]
  g54 : Got K mg "choice_values" 54 ["games", "choices", "discount"]
  g57 : Got K mg "choice_costs" 57 ["games", "choices", "discount"]
  g58 : Got K mg "choice_losses" 58 ["games", "choices", "discount"]
  g60 : Got K mg "_law_cell" 60 ["_law_script", "_law_k"]
  g62 : Got K mg "_law_low" 62 ["_law_n", "_law_d"]
  g63 : Got K mg "_law_is_integer" 63 ["_law_value"]
  g64 : Got K mg "_law_is_ratio" 64 ["_law_value"]
  g65 : Got K mg "_law_ratios" 65 ["_law_values", "_law_count"]
  g66 : Got K mg "_law_add" 66 ["_law_a", "_law_b"]
  g67 : Got K mg "_law_sub" 67 ["_law_a", "_law_b"]
  g68 : Got K mg "_law_mul" 68 ["_law_a", "_law_b"]
  g69 : Got K mg "_law_less" 69 ["_law_a", "_law_b"]
  g70 : Got K mg "_law_fraction" 70 ["_law_draw"]
  g71 : Got K mg "_law_discount" 71 ["_law_draw"]
  g61 : Got K mg "_law_draws" 61 ["_law_cell_here", "_law_count"]
  g72 : Got K mg "_law_game" 72 ["_law_cell_here", "_law_most"]
  g73 : Got K mg "_law_joints" 73 ["_law_games_here"]
  g74 : Got K mg "_law_number" 74 ["_law_games_here", "_law_joint"]
  g75 : Got K mg "_law_played" 75 ["_law_games_here", "_law_joint", "_law_at", "_law_discount_here", "_law_table"]
  g80 : Got K mg "_law_expected" 80 ["_law_games_here", "_law_joint", "_law_at", "_law_discount_here", "_law_losses"]
  g76 : Got K mg "_law_is_best" 76 ["_law_games_here", "_law_discount_here", "_law_halt", "_law_table"]
  g78 : Got K mg "_law_choices" 78 ["_law_cell_here", "_law_games_here"]
  g79 : Got K mg "_law_is_followed" 79 ["_law_games_here", "_law_choices_here", "_law_discount_here", "_law_values"]
  g77 : Got K mg "_law_games" 77 ["_law_script", "_law_first", "_law_draw"]
  g81 : Got K mg "_law_adds_up" 81 ["_law_games_here", "_law_choices_here", "_law_discount_here", "_law_table"]
  g82 : Got K mg "law" 82 ["_law_script"]
  g49 : GotD K mg "value_table" 49 ["games", "discount", "stop"]
  m_abs : mg "abs" = none
  m_bool : mg "bool" = none
  m_int : mg "int" = none
  m_isinstance : mg "isinstance" = none
  m_len : mg "len" = none
  m_list : mg "list" = none
  m_range : mg "range" = none
  m_sorted : mg "sorted" = none
  m_sum : mg "sum" = none
  m_tuple : mg "tuple" = none
  m_zip : mg "zip" = none
  m_gcd : mg "gcd" = some (.builtin "math.gcd")
  z_ONE_knots : ∃ z : Addr, mg "ONE_knots" = some (.ref z) ∧ ∀ H, pR K 1 (.ref z) H
  z_ONE_leaving : ∃ z : Addr, mg "ONE_leaving" = some (.ref z) ∧ ∀ H, pR K 1 (.ref z) H
  z_ONE_stationary : ∃ z : Addr, mg "ONE_stationary" = some (.ref z) ∧ ∀ H, pR K 1 (.ref z) H
  z_ZERO_knots : ∃ z : Addr, mg "ZERO_knots" = some (.ref z) ∧ ∀ H, pR K 0 (.ref z) H
  z_ZERO_leaving : ∃ z : Addr, mg "ZERO_leaving" = some (.ref z) ∧ ∀ H, pR K 0 (.ref z) H
  z_ZERO_stationary : ∃ z : Addr, mg "ZERO_stationary" = some (.ref z) ∧ ∀ H, pR K 0 (.ref z) H
  cur : ∃ C, CurveAt K mg C
theorem tops_law {P : Program} {w : World} {K : PySem.W.Frag} {mg : Str → Option Value} {base : Heap} (SA : SzAll) (T : Tops K mg) {fL : Addr} {fdL : FuncData} (FL : Fun K "law" "law" (topS 82) fL fdL) : FnOk P w K mg base CX0 14 fL fdL ["_law_script"] (spLaw K) := by
  obtain ⟨zONE_knots, mONE_knots, pONE_knots⟩ := T.z_ONE_knots
  obtain ⟨zONE_leaving, mONE_leaving, pONE_leaving⟩ := T.z_ONE_leaving
  obtain ⟨zONE_stationary, mONE_stationary, pONE_stationary⟩ := T.z_ONE_stationary
  obtain ⟨zZERO_knots, mZERO_knots, pZERO_knots⟩ := T.z_ZERO_knots
  obtain ⟨zZERO_leaving, mZERO_leaving, pZERO_leaving⟩ := T.z_ZERO_leaving
  obtain ⟨zZERO_stationary, mZERO_stationary, pZERO_stationary⟩ := T.z_ZERO_stationary
  obtain ⟨C, cu⟩ := T.cur
  have P_common_divisor := d_gcd (P := P) (w := w) (base := base) T.g8 T.m_gcd
  have P_make_ratio := d_make (P := P) (w := w) (base := base) T.g9 P_common_divisor
  have P_add := d_add (P := P) (w := w) (base := base) T.g10 P_make_ratio
  have P_subtract := d_sub (P := P) (w := w) (base := base) T.g11 P_make_ratio
  have P_multiply := d_mul (P := P) (w := w) (base := base) T.g12 P_make_ratio
  have P_divide := d_div (P := P) (w := w) (base := base) T.g13 P_make_ratio
  have P_compare := d_cmp (P := P) (w := w) (base := base) T.g14
  have P_without := d_without (P := P) (w := w) (base := base) T.g16 T.m_zip P_subtract P_multiply
  have P_first_nonzero := d_first (P := P) (w := w) (base := base) T.g17 T.m_range
  have P_solve := d_solve (P := P) (w := w) (base := base) T.g18 T.m_zip T.m_range T.m_len T.m_list T.m_int T.m_tuple P_without P_first_nonzero P_divide
  have P_leave_values := d_leave_values (P := P) (w := w) (base := base) T.g22 T.m_range T.m_len T.m_tuple mZERO_leaving mONE_leaving pZERO_leaving pONE_leaving P_solve P_multiply P_subtract P_add
  have P_leave_table := d_leave_table (P := P) (w := w) (base := base) T.g23 T.m_range T.m_len P_leave_values
  have P_first_play := d_first_play (P := P) (w := w) (base := base) T.g24 mZERO_leaving mONE_leaving pZERO_leaving pONE_leaving P_multiply P_add
  have P_next_state := d_next_state (P := P) (w := w) (base := base) T.g26 T.m_range T.m_len mONE_leaving pONE_leaving P_leave_table P_first_play P_divide P_subtract P_compare
  have P_index_order := d_index_order (P := P) (w := w) (base := base) T.g27 T.m_range T.m_len T.m_sorted T.m_tuple P_next_state
  have P_line_slope := d_line_slope (P := P) (w := w) (base := base) T.g31 P_divide P_subtract
  have P_slope_at := d_slope_at (P := P) (w := w) (base := base) T.g33 T.m_range T.m_len mZERO_knots mONE_knots pZERO_knots pONE_knots P_line_slope P_compare
  have P_first_wrong := d_first_wrong (P := P) (w := w) (base := base) T.g34 T.m_range T.m_len mZERO_knots mONE_knots pZERO_knots pONE_knots P_line_slope P_compare
  have P_straightened := d_straightened (P := P) (w := w) (base := base) T.g35 T.m_range T.m_len T.m_tuple mZERO_knots mONE_knots pZERO_knots pONE_knots P_line_slope P_compare
  have P_merged_amounts := d_merged_amounts (P := P) (w := w) (base := base) T.g36 T.m_len P_compare
  have P_product_knots := d_product_knots (P := P) (w := w) (base := base) T.g37 T.m_range T.m_len P_merged_amounts P_slope_at P_multiply P_subtract P_straightened
  have P_make := d_init (P := P) (w := w) (base := base) cu T.m_tuple P_first_wrong
  have P_floor := d_floor (P := P) (w := w) (base := base) cu
  have P_mul := d_mulC (P := P) (w := w) (base := base) cu P_make P_product_knots
  have P_all_curves := d_all_curves (P := P) (w := w) (base := base) T.g44 T.m_range T.m_len T.m_sorted T.m_tuple P_make P_index_order P_leave_values P_add P_multiply P_compare P_straightened
  have P_gain_of := d_gain_of (P := P) (w := w) (base := base) T.g46 P_floor
  have P_joint_states := d_joint_states (P := P) (w := w) (base := base) T.g48 T.m_range T.m_len T.m_tuple
  have P_value_table := d_value_table (P := P) (w := w) (base := base) T.g49 T.m_list T.m_tuple P_all_curves P_gain_of P_mul
  have P_with_state := d_with_state (P := P) (w := w) (base := base) T.g53
  have P_by_joint := d_by_joint (P := P) (w := w) (base := base) T.g56 T.m_range T.m_len P_joint_states
  have P_played := d_played (P := P) (w := w) (base := base) T.g55 mZERO_stationary pZERO_stationary P_with_state P_multiply P_add
  have P_choice_values := d_choice_values (P := P) (w := w) (base := base) T.g54 T.m_range T.m_len T.m_tuple mZERO_stationary mONE_stationary pZERO_stationary pONE_stationary P_joint_states P_with_state P_solve P_multiply P_subtract
  have P_choice_costs := d_choice_costs (P := P) (w := w) (base := base) T.g57 T.m_range T.m_len T.m_tuple P_joint_states P_value_table P_by_joint P_played P_subtract
  have P_choice_losses := d_choice_losses (P := P) (w := w) (base := base) T.g58 T.m_range T.m_len T.m_tuple P_value_table P_choice_values P_subtract
  have P__law_cell := d_law_cell (P := P) (w := w) (base := base) T.g60 T.m_len
  have P__law_low := d_law_low (P := P) (w := w) (base := base) T.g62 T.m_abs T.m_int
  have P__law_is_integer := d_law_is_integer (P := P) (w := w) (base := base) T.g63 T.m_isinstance T.m_int T.m_bool
  have P__law_is_ratio := d_law_is_ratio (P := P) (w := w) (base := base) T.g64 T.m_isinstance T.m_tuple T.m_len P__law_is_integer P__law_low
  have P__law_ratios := d_law_ratios (P := P) (w := w) (base := base) T.g65 T.m_isinstance T.m_tuple T.m_len P__law_is_ratio
  have P__law_add := d_law_add (P := P) (w := w) (base := base) T.g66 P__law_low
  have P__law_sub := d_law_sub (P := P) (w := w) (base := base) T.g67 P__law_low
  have P__law_mul := d_law_mul (P := P) (w := w) (base := base) T.g68 P__law_low
  have P__law_less := d_law_less (P := P) (w := w) (base := base) T.g69
  have P__law_fraction := d_law_fraction (P := P) (w := w) (base := base) T.g70 T.m_int P__law_low
  have P__law_discount := d_law_discount (P := P) (w := w) (base := base) T.g71 T.m_int P__law_low
  have P__law_draws := d_law_draws (P := P) (w := w) (base := base) T.g61 T.m_abs T.m_int T.m_range
  have P__law_game := d_law_game (P := P) (w := w) (base := base) T.g72 T.m_int T.m_range T.m_sum T.m_tuple P__law_draws P__law_fraction P__law_low
  have P__law_joints := d_law_joints (P := P) (w := w) (base := base) T.g73 T.m_range T.m_len T.m_list
  have P__law_number := d_law_number (P := P) (w := w) (base := base) T.g74 T.m_range T.m_len
  have P__law_played := d_law_played (P := P) (w := w) (base := base) T.g75 P__law_number P__law_add P__law_mul
  have P__law_expected := d_law_expected (P := P) (w := w) (base := base) T.g80 P__law_number P__law_add P__law_mul
  have P__law_is_best := d_law_is_best (P := P) (w := w) (base := base) T.g76 T.m_range T.m_len P__law_joints P__law_ratios P__law_played P__law_less
  have P__law_choices := d_law_choices (P := P) (w := w) (base := base) T.g78 T.m_len T.m_int T.m_tuple P__law_joints P__law_draws
  have P__law_is_followed := d_law_is_followed (P := P) (w := w) (base := base) T.g79 T.m_range T.m_len P__law_joints P__law_ratios P__law_played
  have P__law_games := d_law_games (P := P) (w := w) (base := base) T.g77 T.m_range T.m_int T.m_tuple P__law_cell P__law_game
  have P__law_adds_up := d_law_adds_up (P := P) (w := w) (base := base) T.g81 T.m_range T.m_len P__law_joints P__law_ratios P__law_played P__law_expected P__law_is_followed P__law_sub P__law_add P_choice_values P_choice_costs P_choice_losses
  exact d_law SA FL P__law_cell P__law_draws P__law_discount P__law_games P_value_table P__law_is_best P__law_choices P__law_adds_up
theorem walk {l : PySem.W.OpenLaw} {q : Program} {loose : List Str} {XP : (Str → Option Value) → Heap → Prop} {YP : World → Heap → Prop} {d : DefRec} {K : Params → PySem.W.Frag} (SA : SzAll) (hn : l.most = some 63) (hdf : d.params.defaults = []) (hdn : d.name = ("law" : Str))
    (hY : ∀ (w : World) (h : Heap), YP w h → (K w.params).In h)
    (F : ∀ (w : World) (mg : Str → Option Value) (fa : Addr) (h : Heap), (K w.params).In h → h.Ns mainGlobals mg → Tops (K w.params) mg) :
    PySem.W.WalkO q loose XP YP l.row.toRowW d [] (fun f vs => PySem.call f vs) :=
  L2.walk_of (n := 63) (k := 14) (x := "_law_script") (CX := fun _ => CX0) (sp := fun w => spLaw (K w.params)) hn (by decide) hdf ⟨rfl, by decide, by decide⟩ hY
    (fun w mg fa h X G hfa => by
      have T := F w mg fa h X G
      obtain ⟨f, fd, FF, hm, hb⟩ := T.g82
      rw [hdn] at hfa
      have e := hm.symm.trans hfa
      cases e
      refine ⟨fd, fun s u => ?_, fun base X2 G2 => ?_⟩
      · obtain ⟨oc, od, kV, doc, pm, an, cdv, ct, osl, rfl, lk, hcd⟩ := FF.ex
        exact .of_eq rfl
      · exact tops_law (P := l.prog) (w := w) (base := base) SA T FF)
    (fun w H a ns hl _ hS => ⟨ns, trivial, .cons ⟨a, _, rfl, hS, Al.ofInts ns⟩ .nil, fun v H' _ p => p⟩) fun _ _ _ _ _ z => z
end AC
end
section
set_option exponentiation.threshold 20000
/-! Sizes: what clears a number; the elimination (plain). -/
namespace AC
theorem natCast_mul' (a b : Nat) : ((a * b : Nat) : Rat) = (a : Rat) * (b : Rat) := by exact_mod_cast rfl
theorem Cl.of {E F : Nat} {x : Rat} (h : Cl E x) (d : E ∣ F) : Cl F x := by
  obtain ⟨k, rfl⟩ := d
  exact h.mul
theorem Cl.add {E : Nat} {x y : Rat} (h : Cl E x) (k : Cl E y) : Cl E (x + y) := by
  obtain ⟨z, e⟩ := h
  obtain ⟨t, f⟩ := k
  exact ⟨z + t, by rw [Rat.add_mul, e, f]; exact_mod_cast rfl⟩
theorem Cl.neg {E : Nat} {x : Rat} (h : Cl E x) : Cl E (-x) := by
  obtain ⟨z, e⟩ := h
  exact ⟨-z, by rw [Rat.neg_mul, e]; exact_mod_cast rfl⟩
theorem Cl.sub {E : Nat} {x y : Rat} (h : Cl E x) (k : Cl E y) : Cl E (x - y) := by
  rw [Rat.sub_eq_add_neg]; exact h.add k.neg
theorem Cl.zero {E : Nat} : Cl E 0 := ⟨0, by rw [Rat.zero_mul]; rfl⟩
theorem Cl.one {E : Nat} : Cl E 1 := ⟨(E : Int), by rw [Rat.one_mul]; exact_mod_cast rfl⟩
theorem Cl.prod {E F : Nat} {x y : Rat} (h : Cl E x) (k : Cl F y) : Cl (E * F) (x * y) := by
  obtain ⟨z, e⟩ := h
  obtain ⟨t, f⟩ := k
  refine ⟨z * t, ?_⟩
  rw [natCast_mul']
  have : x * y * ((E : Rat) * (F : Rat)) = (x * E) * (y * F) := by grind
  rw [this, e, f]
  exact_mod_cast rfl
theorem Cl.sm {E n : Nat} {f : Nat → Rat} (h : ∀ i, i < n → Cl E (f i)) : Cl E (sm n f) := by
  induction n with
  | zero => exact Cl.zero
  | succ n ih => exact (ih fun i hi => h i (by omega)).add (h n (by omega))
theorem Cl.ex {E F : Nat} {row : List (Nat × Rat)} {f : Nat → Rat} (h : ∀ tp ∈ row, Cl E tp.2) (k : ∀ tp ∈ row, Cl F (f tp.1)) : Cl (E * F) (ex row f) := by
  induction row with
  | nil => exact Cl.zero
  | cons tp r ih => exact ((h tp (by simp)).prod (k tp (by simp))).add (ih (fun z hz => h z (List.mem_cons_of_mem _ hz)) fun z hz => k z (List.mem_cons_of_mem _ hz))
/-- a number that E clears, no larger than B -/
theorem ok_of {E B a c : Nat} {x : Rat} (h : Cl E x) (hE : 0 < E) (hEa : E ≤ 2 ^ a) (hlo : -(B : Rat) ≤ x) (hhi : x ≤ (B : Rat)) (hB : B ≤ 2 ^ c) (hs : a + c < SZ) : Ok x := by
  obtain ⟨z, e⟩ := h
  have xe : Rat.divInt x.num x.den = x := Rat.num_divInt_den x
  have hd : (x.den : Int) ≠ 0 := by have := x.den_pos; omega
  have e1 := divInt_mul (n := x.num) (d := (x.den : Int)) hd
  rw [xe] at e1
  -- num * E = z * den
  have e2 : x.num * (E : Int) = z * (x.den : Int) := by
    have : ((x.num : Rat)) * (E : Rat) = (z : Rat) * (((x.den : Int)) : Rat) := by
      rw [← e1, ← e]; grind
    exact_mod_cast this
  have dvd : x.den ∣ E := by
    have h1 : x.den ∣ x.num.natAbs * E := by
      have := congrArg Int.natAbs e2
      rw [Int.natAbs_mul, Int.natAbs_mul, Int.natAbs_natCast, Int.natAbs_natCast] at this
      exact ⟨z.natAbs, by rw [this, Nat.mul_comm]⟩
    exact (Nat.Coprime.symm x.reduced).dvd_of_dvd_mul_left h1
  have dle := Nat.le_of_dvd hE dvd
  have hnum : x.num.natAbs ≤ B * E := by
    have hdR : (0 : Rat) ≤ (((x.den : Int)) : Rat) := by exact_mod_cast (by omega : (0 : Int) ≤ (x.den : Int))
    have u1 := Rat.mul_le_mul_of_nonneg_right hhi hdR
    have u2 := Rat.mul_le_mul_of_nonneg_right hlo hdR
    rw [e1] at u1 u2
    have v1 : x.num ≤ (B : Int) * (x.den : Int) := by exact_mod_cast u1
    have v2 : -(B : Int) * (x.den : Int) ≤ x.num := by
      have : ((-(B : Int) * (x.den : Int) : Int) : Rat) ≤ (x.num : Rat) := by
        rw [Rat.intCast_mul, Rat.intCast_neg, Rat.intCast_natCast B]
        exact u2
      exact_mod_cast this
    have v3 : x.num.natAbs ≤ B * x.den := by
      rw [Int.neg_mul] at v2
      have : ((B * x.den : Nat) : Int) = (B : Int) * (x.den : Int) := Int.natCast_mul _ _
      omega
    exact Nat.le_trans v3 (Nat.mul_le_mul_left _ dle)
  have key : B * E < 2 ^ SZ := by
    have : B * E ≤ 2 ^ (c + a) := by rw [Nat.pow_add]; exact Nat.mul_le_mul hB hEa
    exact Nat.lt_of_le_of_lt this (Nat.pow_lt_pow_right (by omega) (by omega))
  refine ⟨Nat.lt_of_le_of_lt hnum key, ?_⟩
  exact Nat.lt_of_le_of_lt dle (Nat.lt_of_le_of_lt hEa (Nat.pow_lt_pow_right (by omega) (by omega)))
/-! ### systems of small numbers -/
structure SysK (S : Lin) (q : Nat → Nat) : Prop where
  n9 : S.n ≤ 9
  m2 : S.m ≤ 2
  q1 : ∀ i, i < S.n → 1 ≤ q i ∧ q i ≤ 150
  cm : ∀ i j, i < S.n → j < S.n → Cl (q i) (S.M i j)
  cr : ∀ i l, i < S.n → l < S.m → Cl (12 * q i) (S.R i l)
  br : ∀ i l, i < S.n → l < S.m → -RB ≤ S.R i l ∧ S.R i l ≤ RB
  good : Good S.n S.M (Rat.divInt 1 10)
section
variable {S : Lin} {q : Nat → Nat} (K : SysK S q)
/-- D clears what the rows of whole numbers are taken with -/
def CZ (S : Lin) (q : Nat → Nat) (D : Nat) (y : Nat → Rat) : Prop := ∀ i, i < S.n → ∃ z : Int, y i * (D : Rat) = (z : Rat) * (q i : Rat)
theorem CZ.cl {D : Nat} {y : Nat → Rat} (h : CZ S q D y) {i : Nat} (hi : i < S.n) : Cl D (y i) := by
  obtain ⟨z, e⟩ := h i hi
  exact ⟨z * (q i : Int), by rw [e]; exact_mod_cast rfl⟩
theorem CZ.mul {D : Nat} {y : Nat → Rat} (h : CZ S q D y) (k : Nat) : CZ S q (D * k) y := fun i hi => by
  obtain ⟨z, e⟩ := h i hi
  refine ⟨z * (k : Int), ?_⟩
  rw [natCast_mul', ← Rat.mul_assoc, e]
  have : (((z * (k : Int) : Int)) : Rat) = (z : Rat) * (k : Rat) := by exact_mod_cast rfl
  rw [this]; grind
theorem CZ.mulL {D : Nat} {y : Nat → Rat} (h : CZ S q D y) (k : Nat) : CZ S q (k * D) y := by rw [Nat.mul_comm]; exact h.mul k
theorem CZ.lin {D F : Nat} {y w : Nat → Rat} {a : Rat} (h : CZ S q (D * F) y) (ha : Cl D a) (hw : CZ S q F w) : CZ S q (D * F) (fun i => y i - a * w i) := fun i hi => by
  obtain ⟨z, e⟩ := h i hi
  obtain ⟨t, f⟩ := ha
  obtain ⟨u, g⟩ := hw i hi
  refine ⟨z - t * u, ?_⟩
  have h1 : a * w i * ((D * F : Nat) : Rat) = (t : Rat) * ((u : Rat) * (q i : Rat)) := by
    rw [natCast_mul', ← f, ← g]; grind
  have h2 : (((z - t * u : Int)) : Rat) = (z : Rat) - (t : Rat) * (u : Rat) := by exact_mod_cast rfl
  rw [h2]
  show (y i - a * w i) * _ = _
  have h3 : (y i - a * w i) * ((D * F : Nat) : Rat) = y i * ((D * F : Nat) : Rat) - a * w i * ((D * F : Nat) : Rat) := by grind
  rw [h3, e, h1]; grind
include K
theorem cz_dot {D c : Nat} {y f : Nat → Rat} (h : CZ S q D y) (hf : ∀ i, i < S.n → Cl (c * q i) (f i)) : Cl (c * D) (sm S.n fun i => y i * f i) := Cl.sm fun i hi => by
  obtain ⟨z, e⟩ := h i hi
  obtain ⟨t, g⟩ := hf i hi
  refine ⟨z * t, ?_⟩
  rw [natCast_mul'] at g ⊢
  have : y i * f i * ((c : Rat) * (D : Rat)) = (y i * D) * (f i * c) := by grind
  rw [this, e]
  have h2 : (((z * t : Int)) : Rat) = (z : Rat) * (t : Rat) := by exact_mod_cast rfl
  rw [h2, ← g]; grind
theorem cz_yM {D : Nat} {y : Nat → Rat} (h : CZ S q D y) {c : Nat} (hc : c < S.n) : Cl D (yM S.n S.M y c) := by
  have := cz_dot K (c := 1) (f := fun i => S.M i c) h fun i hi => by rw [Nat.one_mul]; exact K.cm i c hi hc
  rw [Nat.one_mul] at this
  exact this
theorem cz_ent {D : Nat} {y : Nat → Rat} (h : CZ S q D y) {c : Nat} (hc : c < S.n + S.m + S.n) : Cl (12 * D) (ent S.n S.m S.M S.R y c) := by
  unfold ent
  split
  · exact (cz_yM K h (by omega)).of ⟨12, Nat.mul_comm _ _⟩
  · split
    · exact cz_dot K h fun i hi => K.cr i _ hi (by omega)
    · exact (h.cl (by omega)).of ⟨12, Nat.mul_comm _ _⟩
theorem cz_new {D k : Nat} {Y : Nat → Nat → Rat} (hk : k < S.n) (hY : ∀ j, j < k → CZ S q D (Y j)) : ∀ J, J ≤ k → CZ S q (q k * D) (newY S.M Y k J)
  | 0, _ => fun i hi => by
    show ∃ z : Int, un k i * _ = _
    unfold un
    by_cases c : i = k
    · rw [if_pos c, c]
      refine ⟨(D : Int), ?_⟩
      rw [natCast_mul']
      have : (((D : Int)) : Rat) = (D : Rat) := by exact_mod_cast rfl
      rw [this]; grind
    · rw [if_neg c]
      refine ⟨0, ?_⟩
      have : (((0 : Int)) : Rat) = 0 := rfl
      rw [this]; grind
  | J + 1, h => CZ.lin (cz_new hk hY J (by omega)) (K.cm k J hk (by omega)) (hY J (by omega))
/-- what clears the next row -/
theorem cz_div {D k : Nat} (hk : k < S.n) (h1 : 1 ≤ D) (h3 : ∀ j, j < k → CZ S q D (Yk S.n S.M k j)) : ∃ p : Nat, 1 ≤ p ∧ p ≤ 150 * D ∧ CZ S q p (divY S.n S.M (Yk S.n S.M k) k) := by
  have I := inv_all K.good k (by omega)
  have hN := cz_new K hk h3 k (Nat.le_refl k)
  have pp := piv_pos K.good hk I
  have pl := piv_le K.good hk I
  obtain ⟨P, hP⟩ := cz_yM K hN hk
  obtain ⟨q1, q2⟩ := K.q1 k hk
  -- P is a whole number from 1 to q D
  have hqD : (0 : Rat) < ((q k * D : Nat) : Rat) := by exact_mod_cast (Nat.mul_pos q1 h1)
  have P0 : 0 < P := by
    have : (0 : Rat) < (P : Rat) := by rw [← hP]; exact Rat.mul_pos pp hqD
    exact_mod_cast this
  have Pl : P ≤ ((q k * D : Nat) : Int) := by
    have : (P : Rat) ≤ ((q k * D : Nat) : Rat) := by
      rw [← hP]
      have := Rat.mul_le_mul_of_nonneg_right pl (Rat.le_of_lt hqD)
      rwa [Rat.one_mul] at this
    exact_mod_cast this
  obtain ⟨p, rfl⟩ : ∃ p : Nat, P = (p : Int) := ⟨P.toNat, by omega⟩
  refine ⟨p, by omega, ?_, fun i hi => ?_⟩
  · have := Nat.mul_le_mul_right D q2
    omega
  · obtain ⟨z, e⟩ := hN i hi
    refine ⟨z, ?_⟩
    rw [← e]
    show newY S.M (Yk S.n S.M k) k k i / _ * (p : Rat) = _
    have hp : (((p : Int)) : Rat) = (p : Rat) := by exact_mod_cast rfl
    rw [hp] at hP
    rw [← hP, Rat.div_def]
    have : (yM S.n S.M (newY S.M (Yk S.n S.M k) k k) k)⁻¹ * yM S.n S.M (newY S.M (Yk S.n S.M k) k k) k = 1 := Rat.inv_mul_cancel _ (by grind)
    generalize yM S.n S.M (newY S.M (Yk S.n S.M k) k k) k = a at this
    generalize a⁻¹ = b at this
    have h4 : newY S.M (Yk S.n S.M k) k k i * b * (a * ((q k * D : Nat) : Rat)) = newY S.M (Yk S.n S.M k) k k i * (b * a) * ((q k * D : Nat) : Rat) := by grind
    rw [h4, this, Rat.mul_one]
omit K in
theorem pow_step (k : Nat) : 150 ^ (2 ^ k - 1) * (150 * 150 ^ (2 ^ k - 1)) = 150 ^ (2 ^ (k + 1) - 1) := by
  have e : 150 ^ (2 ^ k - 1) * (150 * 150 ^ (2 ^ k - 1)) = 150 ^ (2 ^ k - 1 + (1 + (2 ^ k - 1))) := by rw [Nat.pow_add, Nat.pow_add, Nat.pow_one]
  rw [e]
  congr 1
  have : 1 ≤ 2 ^ k := Nat.one_le_two_pow
  rw [Nat.pow_succ]; omega
/-- what clears the rows after k steps -/
theorem cz_all : ∀ k, k ≤ S.n → ∃ D : Nat, 1 ≤ D ∧ D ≤ 150 ^ (2 ^ k - 1) ∧ ∀ j, j < k → CZ S q D (Yk S.n S.M k j)
  | 0, _ => ⟨1, Nat.le_refl _, by simp, fun j hj => by omega⟩
  | k + 1, h => by
    obtain ⟨D, h1, h2, h3⟩ := cz_all k (by omega)
    have hk : k < S.n := h
    obtain ⟨p, p1, p2, hdiv⟩ := cz_div K hk h1 h3
    refine ⟨D * p, Nat.mul_pos h1 p1, ?_, fun j hj => ?_⟩
    · rw [← pow_step k]
      exact Nat.mul_le_mul h2 (Nat.le_trans p2 (Nat.mul_le_mul_left _ h2))
    · by_cases c : j = k
      · subst c
        show CZ S q (D * p) (if j = j then _ else _)
        rw [if_pos rfl]
        exact hdiv.mulL D
      · show CZ S q (D * p) (if j = k then _ else _)
        rw [if_neg c]
        exact CZ.lin ((h3 j (by omega)).mul p) (cz_yM K (h3 j (by omega)) hk) hdiv
end
end AC
end
section
set_option exponentiation.threshold 20000
/-! Sizes: how large the numbers of the elimination are (plain). -/
namespace AC
theorem RB_nat : RB = ((7 * 10 ^ 30 : Nat) : Rat) := (Rat.intCast_natCast (7 * 10 ^ 30)).symm ▸ rfl
theorem RB1 : (1 : Rat) ≤ RB := by
  rw [RB_nat]
  exact_mod_cast (by decide : (1 : Nat) ≤ 7 * 10 ^ 30)
theorem RB0 : (0 : Rat) ≤ RB := Rat.le_trans (by decide) RB1
theorem tenth : (10 : Rat) * Rat.divInt 1 10 = 1 := by decide +kernel
theorem dot_le {n : Nat} {y f : Nat → Rat} {B : Rat} (hy : ∀ i, i < n → 0 ≤ y i) (hf : ∀ i, i < n → -B ≤ f i ∧ f i ≤ B) (hs : sm n y ≤ 10) (hB : 0 ≤ B) : -(10 * B) ≤ sm n (fun i => y i * f i) ∧ sm n (fun i => y i * f i) ≤ 10 * B := by
  have h1 : sm n (fun i => y i * f i) ≤ sm n (fun i => y i * B) := sm_le fun i hi => Rat.mul_le_mul_of_nonneg_left (hf i hi).2 (hy i hi)
  have h2 : sm n (fun i => y i * (-B)) ≤ sm n (fun i => y i * f i) := sm_le fun i hi => Rat.mul_le_mul_of_nonneg_left (hf i hi).1 (hy i hi)
  rw [sm_mulr] at h1 h2
  have h3 := Rat.mul_le_mul_of_nonneg_right hs hB
  constructor
  · have : sm n y * -B = -(sm n y * B) := by grind
    rw [this] at h2
    grind
  · exact Rat.le_trans h1 h3
section
variable {n : Nat} {M : Nat → Nat → Rat} (g : Good n M (Rat.divInt 1 10))
include g
theorem M_le {i j : Nat} (hi : i < n) (hj : j < n) : -1 ≤ M i j ∧ M i j ≤ 1 := by
  have c0 : (0 : Rat) < Rat.divInt 1 10 := g.pos
  have s := g.sums i hi
  have d := g.diag i hi
  by_cases c : i = j
  · subst c
    refine ⟨?_, d⟩
    have h : sm n (M i) ≤ sm n (fun t => un i t * M i i) := sm_le fun t ht => by
      unfold un
      by_cases e : t = i
      · rw [if_pos e, e]; grind
      · rw [if_neg e]
        have := g.off i t hi ht (Ne.symm e); grind
    rw [sm_one (f := fun t => un i t * M i i) hi (fun t _ ne => by show un i t * M i i = 0; unfold un; rw [if_neg ne]; grind)] at h
    unfold un at h
    rw [if_pos rfl] at h
    grind
  · have o := g.off i j hi hj c
    refine ⟨?_, Rat.le_trans o (by decide)⟩
    have h : sm n (M i) ≤ sm n (fun t => un i t * M i i + un j t * M i j) := sm_le fun t ht => by
      unfold un
      by_cases e : t = i
      · rw [if_pos e, e, if_neg c]; grind
      · rw [if_neg e]
        by_cases e2 : t = j
        · rw [if_pos e2, e2]; grind
        · rw [if_neg e2]
          have := g.off i t hi ht (Ne.symm e); grind
    rw [sm_add, sm_one (f := fun t => un i t * M i i) hi (fun t _ ne => by show un i t * M i i = 0; unfold un; rw [if_neg ne]; grind), sm_one (f := fun t => un j t * M i j) hj (fun t _ ne => by show un j t * M i j = 0; unfold un; rw [if_neg ne]; grind)] at h
    unfold un at h
    rw [if_pos rfl, if_pos rfl] at h
    grind
theorem sum_ten {y : Nat → Rat} (nn : ∀ i, 0 ≤ y i) (h : sm n (yM n M y) ≤ 1) : sm n y ≤ 10 := by
  have h1 := y_sum g nn h
  have h2 := Rat.mul_le_mul_of_nonneg_left h1 (show (0 : Rat) ≤ 10 by decide)
  rw [← Rat.mul_assoc, tenth, Rat.one_mul, Rat.mul_one] at h2
  exact h2
theorem Y_sum {k : Nat} (hk : k ≤ n) {j : Nat} (hj : j < k) : (∀ i, 0 ≤ Yk n M k j i) ∧ sm n (Yk n M k j) ≤ 10 := by
  have I := inv_all g k hk
  refine ⟨I.nn j hj, sum_ten g (I.nn j hj) ?_⟩
  have h : sm n (yM n M (Yk n M k j)) ≤ sm n (fun c => un j c * 1) := sm_le fun c hc => by
    unfold un
    by_cases d : c < k
    · rw [I.unit j hj c d]
      split <;> grind
    · have := I.off j hj c (by omega) hc
      rw [if_neg (by omega)]
      grind
  rw [sm_one (f := fun c => un j c * 1) (show j < n by omega) (fun t _ ne => by unfold un; rw [if_neg ne]; grind)] at h
  unfold un at h
  rw [if_pos rfl] at h
  grind
theorem div_eq {k : Nat} : Yk n M (k + 1) k = divY n M (Yk n M k) k := by
  show (if k = k then _ else _) = _
  rw [if_pos rfl]
theorem div_sum {k : Nat} (hk : k < n) : (∀ i, 0 ≤ divY n M (Yk n M k) k i) ∧ sm n (divY n M (Yk n M k) k) ≤ 10 := by
  have := Y_sum g (k := k + 1) hk (j := k) (by omega)
  rw [div_eq g] at this
  exact this
theorem new_sum {k : Nat} (hk : k < n) {J : Nat} (hJ : J ≤ k) : (∀ i, 0 ≤ newY M (Yk n M k) k J i) ∧ sm n (newY M (Yk n M k) k J) ≤ 10 := by
  have I := inv_all g k (by omega)
  refine ⟨newY_nn g hk I hJ, ?_⟩
  obtain ⟨d1, d2⟩ := div_sum g hk
  have pp := piv_pos g hk I
  have pl := piv_le g hk I
  refine Rat.le_trans (sm_le fun i hi => ?_) d2
  -- newY J i <= newY k i <= divY i
  have m1 : ∀ d, J + d ≤ k → newY M (Yk n M k) k J i ≤ newY M (Yk n M k) k (J + d) i := fun d => by
    induction d with
    | zero => exact fun _ => Rat.le_refl
    | succ d ih =>
      intro h
      refine Rat.le_trans (ih (by omega)) ?_
      show _ ≤ newY M (Yk n M k) k (J + d) i - M k (J + d) * Yk n M k (J + d) i
      have a := g.off k (J + d) hk (by omega) (by omega)
      have b := I.nn (J + d) (by omega) i
      have := Rat.mul_le_mul_of_nonneg_right a b
      grind
  have h1 := m1 (k - J) (by omega)
  rw [show J + (k - J) = k by omega] at h1
  refine Rat.le_trans h1 ?_
  have e : newY M (Yk n M k) k k i = divY n M (Yk n M k) k i * yM n M (newY M (Yk n M k) k k) k := by
    unfold divY
    rw [Rat.div_def, Rat.mul_assoc, Rat.inv_mul_cancel _ (by grind), Rat.mul_one]
  rw [e]
  have := Rat.mul_le_mul_of_nonneg_left pl (d1 i)
  rwa [Rat.mul_one] at this
end
section
variable {S : Lin} {q : Nat → Nat} (K : SysK S q)
include K
theorem ent_le {y : Nat → Rat} (nn : ∀ i, 0 ≤ y i) (hs : sm S.n y ≤ 10) {c : Nat} (hc : c < S.n + S.m + S.n) : -(10 * RB) ≤ ent S.n S.m S.M S.R y c ∧ ent S.n S.m S.M S.R y c ≤ 10 * RB := by
  have b1 := RB1
  unfold ent
  split
  · have := dot_le (f := fun i => S.M i c) (B := 1) (fun i _ => nn i) (fun i hi => M_le K.good hi (by omega)) hs (by decide)
    unfold yM
    constructor <;> grind
  · split
    · exact dot_le (B := RB) (fun i _ => nn i) (fun i hi => K.br i _ hi (by omega)) hs RB0
    · have h1 := nn (c - (S.n + S.m))
      have h2 := sm_term_le (f := y) (k := c - (S.n + S.m)) (show c - (S.n + S.m) < S.n by omega) fun i _ => nn i
      constructor <;> grind
theorem p150 (k : Nat) (hk : k ≤ 512) : 12 * 150 ^ k ≤ 2 ^ 3716 := by
  have h1 : 150 ^ k ≤ 150 ^ 512 := Nat.pow_le_pow_right (by omega) hk
  have h2 : 150 ^ 512 = (150 ^ 4) ^ 128 := by rw [← Nat.pow_mul]
  have h3 : (150 ^ 4) ^ 128 ≤ (2 ^ 29) ^ 128 := Nat.pow_le_pow_left (by decide) 128
  rw [← Nat.pow_mul] at h3
  have h4 : 12 * 150 ^ k ≤ 2 ^ 4 * 2 ^ 3712 := Nat.mul_le_mul (by decide) (Nat.le_trans h1 (by rw [h2]; exact h3))
  rw [← Nat.pow_add] at h4
  exact h4
/-- cleared by no more than 12 * 150 ^ 511, no larger than 100 * RB -/
theorem ok_sys {E : Nat} {x : Rat} {k : Nat} (h : Cl E x) (h0 : 0 < E) (hE : E ≤ 12 * 150 ^ k) (hk : k ≤ 512) (lo : -(100 * RB) ≤ x) (hi : x ≤ 100 * RB) : Ok x := by
  have e : (100 * RB : Rat) = ((100 * (7 * 10 ^ 30) : Nat) : Rat) := by rw [RB_nat]; exact_mod_cast rfl
  rw [e] at lo hi
  exact ok_of (a := 3716) (c := 110) h h0 (Nat.le_trans hE (p150 K k hk)) lo hi (by decide) (by decide)
theorem pow9 {k : Nat} (hk : k ≤ 9) : 2 ^ k ≤ 512 := Nat.pow_le_pow_right (n := 2) (by omega) hk
theorem small_of : Small S := by
  have n9 := K.n9
  have b0 := RB0
  have b1 := RB1
  refine ⟨by omega, by have := K.m2; omega, ⟨_, K.good⟩, ?_, ?_, ?_, ?_, ?_⟩
  · intro k hk J hJ c hc
    obtain ⟨D, d1, d2, d3⟩ := cz_all K k (by omega)
    obtain ⟨q1, q2⟩ := K.q1 k hk
    obtain ⟨s1, s2⟩ := new_sum K.good hk hJ
    obtain ⟨l, u⟩ := ent_le K s1 s2 hc
    refine ok_sys K (k := 1 + (2 ^ k - 1)) (cz_ent K (cz_new K hk d3 J hJ) hc) (Nat.mul_pos (by omega) (Nat.mul_pos q1 d1)) (Nat.mul_le_mul_left _ ?_) (by have := pow9 K (show k ≤ 9 by omega); omega) (by grind) (by grind)
    rw [Nat.pow_add, Nat.pow_one]
    exact Nat.mul_le_mul q2 d2
  · intro k hk J hJ c hc
    obtain ⟨D, d1, d2, d3⟩ := cz_all K k (by omega)
    obtain ⟨q1, q2⟩ := K.q1 k hk
    obtain ⟨s1, s2⟩ := Y_sum K.good (k := k) (by omega) hJ
    obtain ⟨l, u⟩ := ent_le K s1 s2 hc
    obtain ⟨m1, m2⟩ := M_le K.good hk (show J < S.n by omega)
    have off := K.good.off k J hk (by omega) (by omega)
    have hcl := (K.cm k J hk (by omega)).prod (cz_ent K (d3 J hJ) hc)
    refine ok_sys K (k := 1 + (2 ^ k - 1)) hcl (Nat.mul_pos q1 (Nat.mul_pos (by omega) d1)) ?_ (by have := pow9 K (show k ≤ 9 by omega); omega) ?_ ?_
    · rw [Nat.pow_add, Nat.pow_one]
      calc q k * (12 * D) = 12 * (q k * D) := by rw [Nat.mul_left_comm]
        _ ≤ _ := Nat.mul_le_mul_left _ (Nat.mul_le_mul q2 d2)
    · -- -1 <= m <= 0
      have p1 := Rat.mul_le_mul_of_nonneg_left (show (0 : Rat) ≤ 10 * RB - ent S.n S.m S.M S.R (Yk S.n S.M k J) c by grind) (show (0 : Rat) ≤ -(S.M k J) by grind)
      have p2 := Rat.mul_le_mul_of_nonneg_right (show (0 : Rat) ≤ 1 + S.M k J by grind) (show (0 : Rat) ≤ 10 * RB by grind)
      grind
    · have p1 := Rat.mul_le_mul_of_nonneg_left (show (0 : Rat) ≤ 10 * RB + ent S.n S.m S.M S.R (Yk S.n S.M k J) c by grind) (show (0 : Rat) ≤ -(S.M k J) by grind)
      have p2 := Rat.mul_le_mul_of_nonneg_right (show (0 : Rat) ≤ 1 + S.M k J by grind) (show (0 : Rat) ≤ 10 * RB by grind)
      grind
  · intro k hk c hc
    obtain ⟨D, d1, d2, d3⟩ := cz_all K (k + 1) (by omega)
    obtain ⟨s1, s2⟩ := div_sum K.good hk
    obtain ⟨l, u⟩ := ent_le K s1 s2 hc
    have h := d3 k (by omega)
    rw [div_eq K.good] at h
    refine ok_sys K (k := 2 ^ (k + 1) - 1) (cz_ent K h hc) (Nat.mul_pos (by omega) d1) (Nat.mul_le_mul_left _ d2) (by have := pow9 K (show k + 1 ≤ 9 by omega); omega) (by grind) (by grind)
  · intro k hk j hj c hc
    obtain ⟨D, d1, d2, d3⟩ := cz_all K k (by omega)
    obtain ⟨p, p1, p2, hdiv⟩ := cz_div K hk d1 d3
    obtain ⟨s1, s2⟩ := div_sum K.good hk
    obtain ⟨l, u⟩ := ent_le K s1 s2 hc
    obtain ⟨t1, t2⟩ := Y_sum K.good (k := k) (by omega) hj
    obtain ⟨y1, y2⟩ := dot_le (f := fun i => S.M i k) (B := 1) (fun i _ => t1 i) (fun i hi => M_le K.good hi hk) t2 (by decide)
    have I := inv_all K.good k (by omega)
    have off := I.off j hj k (Nat.le_refl k) hk
    have y1 : -(10 * 1) ≤ yM S.n S.M (Yk S.n S.M k j) k := y1
    have hcl := (cz_yM K (d3 j hj) hk).prod (cz_ent K hdiv hc)
    refine ok_sys K (k := 2 ^ (k + 1) - 1) hcl (Nat.mul_pos d1 (Nat.mul_pos (by omega) p1)) ?_ (by have := pow9 K (show k + 1 ≤ 9 by omega); omega) ?_ ?_
    · rw [← pow_step]
      calc D * (12 * p) = 12 * (D * p) := by rw [Nat.mul_left_comm]
        _ ≤ _ := Nat.mul_le_mul_left _ (Nat.mul_le_mul d2 (Nat.le_trans p2 (Nat.mul_le_mul_left _ d2)))
    · generalize ent S.n S.m S.M S.R (divY S.n S.M (Yk S.n S.M k) k) c = e at *
      generalize yM S.n S.M (Yk S.n S.M k j) k = m at *
      have p1 := Rat.mul_le_mul_of_nonneg_left (show (0 : Rat) ≤ 10 * RB - e by grind) (show (0 : Rat) ≤ -m by grind)
      have p2 := Rat.mul_le_mul_of_nonneg_right (show (0 : Rat) ≤ 10 + m by grind) (show (0 : Rat) ≤ 10 * RB by grind)
      grind
    · generalize ent S.n S.m S.M S.R (divY S.n S.M (Yk S.n S.M k) k) c = e at *
      generalize yM S.n S.M (Yk S.n S.M k j) k = m at *
      have p1 := Rat.mul_le_mul_of_nonneg_left (show (0 : Rat) ≤ 10 * RB + e by grind) (show (0 : Rat) ≤ -m by grind)
      have p2 := Rat.mul_le_mul_of_nonneg_right (show (0 : Rat) ≤ 10 + m by grind) (show (0 : Rat) ≤ 10 * RB by grind)
      grind
  · intro k hk j hj c hc
    obtain ⟨D, d1, d2, d3⟩ := cz_all K k hk
    obtain ⟨s1, s2⟩ := Y_sum K.good (k := k) hk hj
    obtain ⟨l, u⟩ := ent_le K s1 s2 hc
    refine ok_sys K (k := 2 ^ k - 1) (cz_ent K (d3 j hj) hc) (Nat.mul_pos (by omega) d1) (Nat.mul_le_mul_left _ d2) (by have := pow9 K (show k ≤ 9 by omega); omega) (by grind) (by grind)
/-- the answers: what clears them all, how large they are -/
theorem sol_of : ∃ D : Nat, 1 ≤ D ∧ D ≤ 150 ^ (2 ^ S.n - 1) ∧ ∀ j l, j < S.n → l < S.m → Cl (12 * D) (solA S j l) ∧ -(10 * RB) ≤ solA S j l ∧ solA S j l ≤ 10 * RB := by
  obtain ⟨D, d1, d2, d3⟩ := cz_all K S.n (Nat.le_refl _)
  refine ⟨D, d1, d2, fun j l hj hl => ?_⟩
  obtain ⟨s1, s2⟩ := Y_sum K.good (k := S.n) (Nat.le_refl _) hj
  exact ⟨cz_dot K (d3 j hj) fun i hi => K.cr i l hi hl, dot_le (B := RB) (fun i _ => s1 i) (fun i hi => K.br i l hi hl) s2 RB0⟩
end
end AC
end
section
set_option exponentiation.threshold 20000
/-! Sizes: tables of leaving, candidates (plain). -/
namespace AC
structure BdP (b : Rat) (d : Nat) : Prop where
  d1 : 1 ≤ d
  d10 : d ≤ 10
  cl : Cl d b
  b0 : 0 ≤ b
  b9 : b ≤ Rat.divInt 9 10
structure JgK (G : Game) : Prop where
  ok : GameOk G
  rw : ∀ s, s < G.n → RwK (G.r s)
  row : ∀ s, s < G.n → ∃ S : Nat, 1 ≤ S ∧ S ≤ 15 ∧ ∀ tp ∈ G.row s, Cl S tp.2
theorem GmK.jg {g : Game} (h : GmK g) : JgK g := ⟨h.ok, h.rw, fun s hs => (h.row s hs).cl⟩
theorem nine : (1 : Rat) - Rat.divInt 9 10 = Rat.divInt 1 10 := by decide +kernel
theorem BdP.b1 {b : Rat} {d : Nat} (B : BdP b d) : b < 1 := by
  have := B.b9
  have h : Rat.divInt 9 10 < 1 := by decide +kernel
  grind
theorem BdP.c {b : Rat} {d : Nat} (B : BdP b d) : Rat.divInt 1 10 ≤ 1 - b := by
  have := B.b9
  rw [← nine]; grind
theorem choose_q {n : Nat} {P : Nat → Nat → Prop} (H : ∀ i, i < n → ∃ q, P i q) : ∃ q : Nat → Nat, ∀ i, i < n → P i (q i) := by
  classical
  refine ⟨fun i => if h : i < n then (H i h).choose else 0, fun i hi => ?_⟩
  show P i (if h : i < n then (H i h).choose else 0)
  rw [dif_pos hi]
  exact (H i hi).choose_spec
theorem Cl.of01 {E : Nat} {x : Rat} (h : x = 0 ∨ x = 1) : Cl E x := by
  rcases h with rfl | rfl
  · exact Cl.zero
  · exact Cl.one
theorem ind01 (c t : Nat) : ind c t = 0 ∨ ind c t = 1 := by unfold ind; split <;> simp
theorem out01 (C : List Nat) (t : Nat) : out C t = 0 ∨ out C t = 1 := by unfold out; split <;> simp
theorem un01 (k i : Nat) : un k i = 0 ∨ un k i = 1 := by unfold un; split <;> simp
theorem le01 {x : Rat} (h : x = 0 ∨ x = 1) : 0 ≤ x ∧ x ≤ 1 := by
  rcases h with rfl | rfl
  · exact ⟨Rat.le_refl, by decide⟩
  · exact ⟨by decide, Rat.le_refl⟩
/-! ### expectations, partial ones too -/
theorem ex_app (l m : List (Nat × Rat)) (f : Nat → Rat) : ex (l ++ m) f = ex l f + ex m f := by
  induction l with
  | nil => simp only [List.nil_append, ex]; grind
  | cons a l ih => simp only [List.cons_append, ex, ih]; grind
theorem wt_nn {l : List (Nat × Rat)} (nn : ∀ tp ∈ l, 0 ≤ tp.2) : 0 ≤ ex l fun _ => 1 := by
  induction l with
  | nil => exact Rat.le_refl
  | cons a l ih =>
    have h1 := ih fun tp h => nn tp (List.mem_cons_of_mem _ h)
    have h2 := nn a (by simp)
    simp only [ex]; grind
theorem wt_take {n : Nat} {row : List (Nat × Rat)} (ok : RowOk n row) (t : Nat) : 0 ≤ ex (row.take t) (fun _ => 1) ∧ ex (row.take t) (fun _ => 1) ≤ 1 := by
  have h1 := wt_nn (l := row.take t) fun tp h => ok.nn tp (List.mem_of_mem_take h)
  have h2 := wt_nn (l := row.drop t) fun tp h => ok.nn tp (List.mem_of_mem_drop h)
  have h3 := ex_app (row.take t) (row.drop t) fun _ => 1
  rw [List.take_append_drop, ok.tot] at h3
  exact ⟨h1, by grind⟩
theorem ex_part {n : Nat} {row : List (Nat × Rat)} (ok : RowOk n row) {f : Nat → Rat} {lo hi : Rat} (hf : ∀ tp ∈ row, lo ≤ f tp.1 ∧ f tp.1 ≤ hi) (h0 : lo ≤ 0) (h1 : 0 ≤ hi) (t : Nat) : lo ≤ ex (row.take t) f ∧ ex (row.take t) f ≤ hi := by
  obtain ⟨w0, w1⟩ := wt_take ok t
  have nn : ∀ tp ∈ row.take t, 0 ≤ tp.2 := fun tp h => ok.nn tp (List.mem_of_mem_take h)
  have c : ∀ x : Rat, ex (row.take t) (fun _ => x) = ex (row.take t) (fun _ => 1) * x := fun x => by
    have := ex_mulr (row.take t) (fun _ => 1) x
    simp only [Rat.one_mul] at this
    exact this
  have u := ex_le (f := f) (h := fun _ => hi) nn fun tp h => (hf tp (List.mem_of_mem_take h)).2
  have l := ex_le (f := fun _ => lo) (h := f) nn fun tp h => (hf tp (List.mem_of_mem_take h)).1
  rw [c] at u l
  have u2 := Rat.mul_le_mul_of_nonneg_right w1 h1
  have l2 := Rat.mul_le_mul_of_nonneg_right w1 (show 0 ≤ -lo by grind)
  constructor <;> grind
theorem ex_all {n : Nat} {row : List (Nat × Rat)} (ok : RowOk n row) {f : Nat → Rat} {lo hi : Rat} (hf : ∀ tp ∈ row, lo ≤ f tp.1 ∧ f tp.1 ≤ hi) (h0 : lo ≤ 0) (h1 : 0 ≤ hi) : lo ≤ ex row f ∧ ex row f ≤ hi := by
  have := ex_part ok hf h0 h1 row.length
  rwa [List.take_length] at this
theorem prob_le {n : Nat} {row : List (Nat × Rat)} (ok : RowOk n row) {tp : Nat × Rat} (h : tp ∈ row) : 0 ≤ tp.2 ∧ tp.2 ≤ 1 := by
  refine ⟨ok.nn tp h, ?_⟩
  obtain ⟨l, m, e⟩ := List.append_of_mem h
  have h3 := ok.tot
  have nn := ok.nn
  rw [e] at h3 nn
  rw [ex_app] at h3
  simp only [ex] at h3
  have h1 := wt_nn (l := l) fun z hz => nn z (by simp [hz])
  have h2 := wt_nn (l := m) fun z hz => nn z (by simp [hz])
  grind
theorem mul01 {b x lo hi : Rat} (b0 : 0 ≤ b) (b1 : b ≤ 1) (h1 : lo ≤ x) (h2 : x ≤ hi) (l0 : lo ≤ 0) (h0 : 0 ≤ hi) : lo ≤ b * x ∧ b * x ≤ hi := by
  have u := Rat.mul_le_mul_of_nonneg_left h2 b0
  have l := Rat.mul_le_mul_of_nonneg_left h1 b0
  have u2 := Rat.mul_le_mul_of_nonneg_right b1 h0
  have l2 := Rat.mul_le_mul_of_nonneg_right b1 (show 0 ≤ -lo by grind)
  constructor <;> grind
section
variable {G : Game} {b : Rat} {d : Nat} (J : JgK G) (B : BdP b d) {C : List Nat} (nd : C.Nodup) (hC : ∀ s ∈ C, s < G.n)
include J B nd hC
theorem sys_LS (hl : C.length ≤ 9) : ∃ q, SysK (LS G b C) q := by
  have hs : ∀ i, i < C.length → C.getD i 0 < G.n := fun i hi => by
    have := List.getElem?_eq_getElem hi
    rw [getD_of this]
    exact hC _ (List.getElem_mem hi)
  obtain ⟨q, hq⟩ := choose_q (n := C.length) (P := fun i q => 1 ≤ q ∧ q ≤ 15 ∧ ∀ tp ∈ G.row (C.getD i 0), Cl q tp.2) fun i hi => J.row _ (hs i hi)
  have rowok : ∀ i, i < C.length → RowOk G.n (G.row (C.getD i 0)) := fun i hi => J.ok.rows _ (hs i hi)
  have b1 := B.b1
  have cex : ∀ i, i < C.length → ∀ f : Nat → Rat, (∀ t, f t = 0 ∨ f t = 1) → Cl (d * q i) (b * ex (G.row (C.getD i 0)) f) := fun i hi f hf => by
    have := B.cl.prod (Cl.ex (F := 1) (hq i hi).2.2 fun tp _ => Cl.of01 (hf tp.1))
    rwa [Nat.mul_one] at this
  refine ⟨fun i => d * q i, hl, by show 2 ≤ 2; omega, fun i hi => ?_, fun i j hi hj => ?_, fun i l hi hl => ?_, fun i l hi hl => ?_, ?_⟩
  · obtain ⟨h1, h2, _⟩ := hq i hi
    exact ⟨Nat.mul_pos B.d1 h1, Nat.mul_le_mul B.d10 h2⟩
  · exact (Cl.of01 (un01 i j)).sub (cex i hi _ (ind01 _))
  · show Cl _ (if l = 0 then G.r (C.getD i 0) else b * ex (G.row (C.getD i 0)) (out C))
    split
    · exact (J.rw _ (hs i hi)).cl.mul
    · exact (cex i hi _ (out01 C)).of ⟨12, Nat.mul_comm _ _⟩
  · show -RB ≤ (if l = 0 then G.r (C.getD i 0) else b * ex (G.row (C.getD i 0)) (out C)) ∧ (if l = 0 then G.r (C.getD i 0) else b * ex (G.row (C.getD i 0)) (out C)) ≤ RB
    split
    · exact ⟨(J.rw _ (hs i hi)).lo, (J.rw _ (hs i hi)).hi⟩
    · obtain ⟨e1, e2⟩ := ex_all (rowok i hi) (f := out C) (lo := 0) (hi := 1) (fun tp _ => le01 (out01 C tp.1)) Rat.le_refl (by decide)
      obtain ⟨m1, m2⟩ := mul01 B.b0 (Rat.le_of_lt b1) e1 e2 Rat.le_refl (by decide)
      have := RB1
      constructor <;> grind
  · have h := LS_good J.ok B.b0 b1 nd hC
    exact ⟨by decide +kernel, h.diag, h.off, fun i hi => Rat.le_trans B.c (h.sums i hi)⟩
/-- a table of leaving: what clears it, how large it is -/
theorem tab_of (hl : C.length ≤ 9) : ∃ E : Nat, 1 ≤ E ∧ 12 ∣ E ∧ E ≤ 12 * 150 ^ (2 ^ C.length - 1) ∧ (∀ s, Cl E (eL G b C s) ∧ -(10 * RB) ≤ eL G b C s ∧ eL G b C s ≤ 10 * RB) ∧ (∀ s, Cl E (fL G b C s)) ∧ ∀ s, s < G.n → 0 ≤ fL G b C s ∧ fL G b C s ≤ 1 := by
  obtain ⟨q, K⟩ := sys_LS J B nd hC hl
  obtain ⟨D, d1, d2, d3⟩ := sol_of K
  have b0 := RB0
  have L := leave_ok J.ok B.b0 B.b1 nd hC
  refine ⟨12 * D, by omega, ⟨D, rfl⟩, Nat.mul_le_mul_left _ d2, fun s => ?_, fun s => ?_, fun s hs => ⟨phi_nn J.ok B.b0 B.b1 L s hs, phi_le J.ok B.b0 B.b1 L s hs⟩⟩
  · unfold eL
    split
    · rename_i h
      exact d3 _ 0 (List.idxOf_lt_length_of_mem h) (by show 0 < 2; omega)
    · exact ⟨Cl.zero, by grind, by grind⟩
  · unfold fL
    split
    · rename_i h
      exact (d3 _ 1 (List.idxOf_lt_length_of_mem h) (by show 1 < 2; omega)).1
    · exact Cl.one
/-- what playing first meets -/
theorem first_of (hl : C.length ≤ 8) {s : Nat} (hs : s < G.n) : ∃ E F W : Nat, 1 ≤ E ∧ 12 ∣ E ∧ E ≤ 12 * 150 ^ (2 ^ C.length - 1) ∧ F = 150 * E ∧ 1 ≤ W ∧ W ≤ F ∧
    (∀ tp ∈ G.row s, Ok (tp.2 * eL G b C tp.1) ∧ Ok (tp.2 * fL G b C tp.1)) ∧ (∀ t, Ok (ex ((G.row s).take t) (eL G b C)) ∧ Ok (ex ((G.row s).take t) (fL G b C))) ∧
    Ok (b * ex (G.row s) (eL G b C)) ∧ Ok (b * ex (G.row s) (fL G b C)) ∧ Ok (G.r s + b * ex (G.row s) (eL G b C)) ∧ Ok (1 - b * ex (G.row s) (fL G b C)) ∧ 0 < 1 - b * ex (G.row s) (fL G b C) ∧
    Cl W (cnd G b C s) ∧ -(100 * RB) ≤ cnd G b C s ∧ cnd G b C s ≤ 100 * RB := by
  obtain ⟨E, e1, e12, e2, e3, e4, e5⟩ := tab_of J B nd hC (by omega)
  obtain ⟨q, K⟩ := sys_LS J B nd hC (by omega)
  obtain ⟨S, s1, s15, scl⟩ := J.row s hs
  have rok := J.ok.rows s hs
  have b0 := RB0
  have b1' := RB1
  have bb := B.b1
  have hpow : 150 * (12 * 150 ^ (2 ^ C.length - 1)) = 12 * 150 ^ (2 ^ C.length) := by
    rw [Nat.mul_left_comm, ← Nat.pow_succ']
    congr 2
    have : 1 ≤ 2 ^ C.length := Nat.one_le_two_pow
    omega
  have hF : 150 * E ≤ 12 * 150 ^ (2 ^ C.length) := by rw [← hpow]; exact Nat.mul_le_mul_left _ e2
  have h8 : 2 ^ C.length ≤ 512 := Nat.le_trans (Nat.pow_le_pow_right (n := 2) (i := C.length) (j := 8) (by omega) hl) (by decide)
  have hqE : ∀ {k : Nat}, k ≤ 150 → k * E ≤ 12 * 150 ^ (2 ^ C.length) := fun h => Nat.le_trans (Nat.mul_le_mul_right _ h) hF
  have q150 : d * S ≤ 150 := Nat.mul_le_mul B.d10 s15
  have ex_e : ∀ t, Cl (S * E) (ex ((G.row s).take t) (eL G b C)) ∧ -(10 * RB) ≤ ex ((G.row s).take t) (eL G b C) ∧ ex ((G.row s).take t) (eL G b C) ≤ 10 * RB := fun t =>
    ⟨Cl.ex (fun tp h => scl tp (List.mem_of_mem_take h)) fun tp _ => (e3 tp.1).1, ex_part rok (fun tp _ => (e3 tp.1).2) (by grind) (by grind) t⟩
  have ex_f : ∀ t, Cl (S * E) (ex ((G.row s).take t) (fL G b C)) ∧ 0 ≤ ex ((G.row s).take t) (fL G b C) ∧ ex ((G.row s).take t) (fL G b C) ≤ 1 := fun t =>
    ⟨Cl.ex (fun tp h => scl tp (List.mem_of_mem_take h)) fun tp _ => e4 tp.1, ex_part rok (fun tp h => e5 _ (rok.tgt tp h)) Rat.le_refl (by decide) t⟩
  have fe := ex_e (G.row s).length
  have ff := ex_f (G.row s).length
  rw [List.take_length] at fe ff
  have okk : ∀ {k : Nat} {x : Rat}, 1 ≤ k → k ≤ 150 → Cl (k * E) x → -(100 * RB) ≤ x → x ≤ 100 * RB → Ok x := fun h0 h1 h2 h3 h4 => ok_sys K h2 (Nat.mul_pos h0 e1) (hqE h1) h8 h3 h4
  have be := B.cl.prod fe.1
  have bf := B.cl.prod ff.1
  rw [← Nat.mul_assoc] at be bf
  obtain ⟨be1, be2⟩ := mul01 B.b0 (Rat.le_of_lt bb) fe.2.1 fe.2.2 (by grind) (by grind)
  obtain ⟨bf1, bf2⟩ := mul01 B.b0 (Rat.le_of_lt bb) ff.2.1 ff.2.2 Rat.le_refl (by decide)
  have bfb : b * ex (G.row s) (fL G b C) ≤ b := by
    have := Rat.mul_le_mul_of_nonneg_left ff.2.2 B.b0
    rwa [Rat.mul_one] at this
  have r := J.rw s hs
  have num : Cl (d * S * E) (G.r s + b * ex (G.row s) (eL G b C)) := (r.cl.of (Nat.dvd_trans e12 ⟨d * S, Nat.mul_comm _ _⟩)).add be
  have den : Cl (d * S * E) (1 - b * ex (G.row s) (fL G b C)) := Cl.one.sub bf
  have hc := B.c
  have c0 : (0 : Rat) < Rat.divInt 1 10 := by decide +kernel
  have wpos : 0 < 1 - b * ex (G.row s) (fL G b C) := by grind
  have dS := Nat.mul_pos B.d1 s1
  -- the candidate
  have hcd := den
  obtain ⟨Wz, hW⟩ := den
  have hqq : (0 : Rat) < ((d * S * E : Nat) : Rat) := by exact_mod_cast (Nat.mul_pos dS e1)
  have W0 : 0 < Wz := by
    have : (0 : Rat) < (Wz : Rat) := by rw [← hW]; exact Rat.mul_pos wpos hqq
    exact_mod_cast this
  have Wl : Wz ≤ ((d * S * E : Nat) : Int) := by
    have : (Wz : Rat) ≤ ((d * S * E : Nat) : Rat) := by
      rw [← hW]
      have := Rat.mul_le_mul_of_nonneg_right (show 1 - b * ex (G.row s) (fL G b C) ≤ 1 by grind) (Rat.le_of_lt hqq)
      rwa [Rat.one_mul] at this
    exact_mod_cast this
  obtain ⟨w, rfl⟩ : ∃ w : Nat, Wz = (w : Int) := ⟨Wz.toNat, by omega⟩
  have hmul : cnd G b C s * (1 - b * ex (G.row s) (fL G b C)) = G.r s + b * ex (G.row s) (eL G b C) := Rat.div_mul_cancel (by grind)
  have hcl : Cl w (cnd G b C s) := by
    obtain ⟨z, hz⟩ := num
    refine ⟨z, ?_⟩
    rw [← hz, ← hmul]
    have hw : (((w : Int)) : Rat) = (w : Rat) := by exact_mod_cast rfl
    rw [hw] at hW
    rw [← hW]; grind
  have n1 : -(10 * RB) ≤ G.r s + b * ex (G.row s) (eL G b C) ∧ G.r s + b * ex (G.row s) (eL G b C) ≤ 10 * RB := by
    have b9 := B.b9
    have t9 : (10 : Rat) * Rat.divInt 9 10 = 9 := by decide +kernel
    have u := Rat.mul_le_mul_of_nonneg_left fe.2.2 B.b0
    have l := Rat.mul_le_mul_of_nonneg_left fe.2.1 B.b0
    have u2 := Rat.mul_le_mul_of_nonneg_right b9 b0
    have e9 : Rat.divInt 9 10 * RB * 10 = 9 * RB := by rw [← t9]; grind
    have := r.lo
    have := r.hi
    constructor <;> grind
  have cb : -(100 * RB) ≤ cnd G b C s ∧ cnd G b C s ≤ 100 * RB := by
    have hw10 : 1 ≤ 10 * (1 - b * ex (G.row s) (fL G b C)) := by
      have := tenth
      grind
    generalize 1 - b * ex (G.row s) (fL G b C) = w' at *
    generalize cnd G b C s = x at *
    rw [← hmul] at n1
    constructor
    · by_cases h : -(100 * RB) ≤ x
      · exact h
      · exfalso
        have := Rat.mul_le_mul_of_nonneg_left (show (0 : Rat) ≤ 10 * w' - 1 by grind) (show (0 : Rat) ≤ -x by grind)
        grind
    · by_cases h : x ≤ 100 * RB
      · exact h
      · exfalso
        have := Rat.mul_le_mul_of_nonneg_left (show (0 : Rat) ≤ 10 * w' - 1 by grind) (show (0 : Rat) ≤ x by grind)
        grind
  refine ⟨E, 150 * E, w, e1, e12, e2, rfl, by omega, ?_, fun tp h => ⟨?_, ?_⟩, fun t => ⟨?_, ?_⟩, ?_, ?_, ?_, ?_, wpos, hcl, cb.1, cb.2⟩
  · have := Nat.mul_le_mul_right E q150
    omega
  · obtain ⟨p1, p2⟩ := prob_le rok h
    obtain ⟨m1, m2⟩ := mul01 p1 p2 (e3 tp.1).2.1 (e3 tp.1).2.2 (by grind) (by grind)
    exact okk s1 (by omega) ((scl tp h).prod (e3 tp.1).1) (by grind) (by grind)
  · obtain ⟨p1, p2⟩ := prob_le rok h
    obtain ⟨f1, f2⟩ := e5 _ (rok.tgt tp h)
    obtain ⟨m1, m2⟩ := mul01 p1 p2 f1 f2 Rat.le_refl (by decide)
    exact okk s1 (by omega) ((scl tp h).prod (e4 tp.1)) (by grind) (by grind)
  · exact okk s1 (by omega) (ex_e t).1 (by have := (ex_e t).2.1; grind) (by have := (ex_e t).2.2; grind)
  · exact okk s1 (by omega) (ex_f t).1 (by have := (ex_f t).2.1; grind) (by have := (ex_f t).2.2; grind)
  · exact okk dS q150 be (by grind) (by grind)
  · exact okk dS q150 bf (by grind) (by grind)
  · exact okk dS q150 num (by grind) (by grind)
  · exact okk dS q150 hcd (by grind) (by grind)
end
end AC
end
section
set_option exponentiation.threshold 20000
/-! Sizes: points and curves (plain). -/
namespace AC
/-- points whose amounts A clears, with slopes that S clears -/
def LP (A S : Nat) (B : Rat) : List Pt → Prop
  | [] => True
  | [p] => p.1 = p.2 ∧ Cl A p.1 ∧ -B ≤ p.1 ∧ p.1 ≤ B
  | p :: q :: r => (Cl A p.1 ∧ -B ≤ p.1 ∧ p.1 ≤ B) ∧ p.1 < q.1 ∧ (∃ t, Cl S t ∧ 0 ≤ t ∧ t ≤ 1 ∧ q.2 - p.2 = t * (q.1 - p.1)) ∧ LP A S B (q :: r)
section
variable {A S : Nat} {B : Rat}
theorem LP.tail : ∀ {p : Pt} {r : List Pt}, LP A S B (p :: r) → LP A S B r
  | _, [], _ => trivial
  | _, _ :: _, h => h.2.2.2
theorem LP.head : ∀ {p : Pt} {r : List Pt}, LP A S B (p :: r) → Cl A p.1 ∧ -B ≤ p.1 ∧ p.1 ≤ B
  | _, [], h => h.2
  | _, _ :: _, h => h.1
theorem LP.am : ∀ {ks : List Pt}, LP A S B ks → ∀ p ∈ ks, Cl A p.1 ∧ -B ≤ p.1 ∧ p.1 ≤ B
  | [], _, p, h => nomatch h
  | q :: r, h, p, hp => by
    rcases List.mem_cons.mp hp with e | e
    · rw [e]; exact h.head
    · exact LP.am h.tail p e
theorem LP.vals : ∀ {ks : List Pt}, LP A S B ks → ∀ p ∈ ks, Cl (A * S) p.2 ∧ p.1 ≤ p.2 ∧ p.2 ≤ B
  | [], _, p, h => nomatch h
  | [q], h, p, hp => by
    rw [List.mem_singleton.mp hp]
    rw [← h.1]
    exact ⟨h.2.1.mul, Rat.le_refl, h.2.2.2⟩
  | q :: u :: r, h, p, hp => by
    rcases List.mem_cons.mp hp with e | e
    · subst e
      obtain ⟨⟨c1, c2, c3⟩, lt, ⟨t, ct, t0, t1, e⟩, h2⟩ := h
      obtain ⟨v1, v2, v3⟩ := LP.vals h2 u (by simp)
      obtain ⟨a1, a2, a3⟩ := h2.head
      have e2 : p.2 = u.2 - t * (u.1 - p.1) := by grind
      have hcl : Cl (A * S) (t * (u.1 - p.1)) := by
        rw [Nat.mul_comm]
        exact ct.prod (a1.sub c1)
      have m := Rat.mul_le_mul_of_nonneg_right t1 (show 0 ≤ u.1 - p.1 by grind)
      have m0 := Rat.mul_nonneg t0 (show 0 ≤ u.1 - p.1 by grind)
      rw [e2]
      exact ⟨v1.sub hcl, by grind, by grind⟩
    · exact LP.vals h.tail p e
theorem LP.next : ∀ {ks : List Pt} {i : Nat} {p q : Pt}, LP A S B ks → ks[i]? = some p → ks[i + 1]? = some q → p.1 < q.1 ∧ (∃ t, Cl S t ∧ 0 ≤ t ∧ t ≤ 1 ∧ q.2 - p.2 = t * (q.1 - p.1)) ∧ p ∈ ks ∧ q ∈ ks
  | [], _, _, _, _, h, _ => by simp at h
  | [_], 0, _, _, _, _, h => by simp at h
  | [_], i + 1, _, _, _, h, _ => by simp at h
  | a :: b :: r, 0, p, q, h, h1, h2 => by
    simp at h1 h2
    subst h1 h2
    exact ⟨h.2.1, h.2.2.1, by simp, by simp⟩
  | a :: b :: r, i + 1, p, q, h, h1, h2 => by
    obtain ⟨x, y, z, w⟩ := LP.next (ks := b :: r) (i := i) h.2.2.2 (by simpa using h1) (by simpa using h2)
    exact ⟨x, y, List.mem_cons_of_mem _ z, List.mem_cons_of_mem _ w⟩
/-- the slopes told by goS -/
theorem LP.goS : ∀ {ks : List Pt}, LP A S B ks → ∀ m, Cl S (goS ks m)
  | [], _, m => Cl.one
  | [_], _, m => Cl.one
  | p :: q :: r, h, m => by
    obtain ⟨_, lt, ⟨t, ct, t0, t1, e⟩, h2⟩ := h
    rw [AC.goS]
    split
    · rw [line_of lt (by rw [e])]
      exact ct
    · exact LP.goS h2 m
theorem LP.slp {ks : List Pt} (h : LP A S B ks) (m : Rat) : Cl S (slp ks m) := by
  cases ks with
  | nil => exact Cl.zero
  | cons p r =>
    show Cl S (if m < p.1 then 0 else AC.goS (p :: r) m)
    split
    · exact Cl.zero
    · exact h.goS m
/-- a curve whose amounts A clears and whose slopes S clears -/
structure CvP (A S : Nat) (B : Rat) (ks : List Pt) : Prop where
  wf : WF ks
  am : ∀ p ∈ ks, Cl A p.1 ∧ -B ≤ p.1 ∧ p.1 ≤ B
  sl : ∀ m, Cl S (slp ks m)
theorem lp_wf : ∀ {ks : List Pt} {b : Rat}, 0 ≤ b → wfF b ks → (∀ p ∈ ks, Cl A p.1 ∧ -B ≤ p.1 ∧ p.1 ≤ B) → (∀ m, fst1 ks ≤ m → Cl S (goS ks m)) → LP A S B ks
  | [], _, _, _, _, _ => trivial
  | [p], b, _, h, ha, _ => ⟨h, ha p (by simp)⟩
  | p :: q :: r, b, b0, h, ha, hs => by
    obtain ⟨lt, hb, l1, h2⟩ := h
    refine ⟨ha p (by simp), lt, ⟨line p q, ?_, by grind, Rat.le_of_lt l1, (line_mul lt).symm⟩, ?_⟩
    · have := hs p.1 Rat.le_refl
      rw [goS, if_pos lt] at this
      exact this
    · refine lp_wf (show 0 ≤ line p q by grind) h2 (fun z hz => ha z (List.mem_cons_of_mem _ hz)) fun m hm => ?_
      have hm : q.1 ≤ m := hm
      have := hs m (show p.1 ≤ m by grind)
      rw [goS, if_neg (by grind)] at this
      exact this
theorem CvP.lp {ks : List Pt} (h : CvP A S B ks) : LP A S B ks := by
  refine lp_wf (b := 0) Rat.le_refl h.wf h.am fun m hm => ?_
  cases ks with
  | nil => exact Cl.one
  | cons p r =>
    have := h.sl m
    have hm : p.1 ≤ m := hm
    rw [show slp (p :: r) m = goS (p :: r) m from goS_of_ge rfl hm] at this
    exact this
theorem CvP.prod {S' : Nat} {a b : List Pt} (ha : CvP A S B a) (hb : CvP A S' B b) : CvP A (S * S') B (prodK a b) := by
  refine ⟨prodK_wf ha.wf hb.wf, fun p hp => ?_, fun m => ?_⟩
  · rcases prodK_amt hp with ⟨q, hq, e⟩ | ⟨q, hq, e⟩
    · rw [← e]; exact ha.am q hq
    · rw [← e]; exact hb.am q hq
  · rw [prodK_slp ha.wf hb.wf]
    exact (ha.sl m).prod (hb.sl m)
theorem CvP.of {A' S' : Nat} {ks : List Pt} (h : CvP A S B ks) (d : A ∣ A') (e : S ∣ S') : CvP A' S' B ks :=
  ⟨h.wf, fun p hp => ⟨((h.am p hp).1).of d, (h.am p hp).2⟩, fun m => (h.sl m).of e⟩
theorem lp_ppts {S' : Nat} {a b : List Pt} (wa : WF a) (wb : WF b) (ha : ∀ m, Cl S (slp a m)) (hb : ∀ m, Cl S' (slp b m)) : ∀ {X : List Rat}, up X → (∀ x ∈ X, Cl A x ∧ -B ≤ x ∧ x ≤ B) → LP A (S * S') B (ppts a b X)
  | [], _, _ => trivial
  | [x], _, h => ⟨rfl, h x (by simp)⟩
  | x :: y :: r, hu, h => by
    obtain ⟨v, t, e1, e2⟩ := ppts_cons a b x y r
    have ih := lp_ppts wa wb ha hb (X := y :: r) hu.2 fun z hz => h z (List.mem_cons_of_mem _ hz)
    rw [e2]
    rw [e1] at ih
    have ia := wf_inc (by decide) wa
    have ib := wf_inc (by decide) wb
    have a0 : 0 ≤ slp a x := slpF_ge ia
    have a1 : slp a x ≤ 1 := slpF_le ia
    have b0 : 0 ≤ slp b x := slpF_ge ib
    have b1 : slp b x ≤ 1 := slpF_le ib
    refine ⟨h x (by simp), hu.1, ⟨slp a x * slp b x, (ha x).prod (hb x), Rat.mul_nonneg a0 b0, ?_, ?_⟩, ih⟩
    · have := Rat.mul_le_mul_of_nonneg_right a1 b0
      grind
    · show v - (v - slp a x * slp b x * (y - x)) = slp a x * slp b x * (y - x)
      grind
theorem amts_am {a b : List Pt} (ha : ∀ p ∈ a, Cl A p.1 ∧ -B ≤ p.1 ∧ p.1 ≤ B) (hb : ∀ p ∈ b, Cl A p.1 ∧ -B ≤ p.1 ∧ p.1 ≤ B) : ∀ x ∈ amts a b, Cl A x ∧ -B ≤ x ∧ x ≤ B := fun x hx => by
  rcases (mem_mrg _ _ x).mp hx with h | h
  · obtain ⟨p, hp, rfl⟩ := List.mem_map.mp h
    exact ha p hp
  · obtain ⟨p, hp, rfl⟩ := List.mem_map.mp h
    exact hb p hp
theorem amts_up {a b : List Pt} (wa : WF a) (wb : WF b) : up (amts a b) := up_mrg _ _ (up_asc (wf_asc wa)) (up_asc (wf_asc wb))
end
/-! ### the curves of a game -/
section
variable {g : Game} {b : Rat} (ok : GameOk g) (hb0 : 0 ≤ b) (hb1 : b < 1) {C : Nat → List Nat} {e φ : Nat → Nat → Rat} {st : Nat → Nat} {γ : Nat → Rat} (O : Order g b C e φ st γ)
variable {A S : Nat} {B : Rat} (hA : ∀ i, i < g.n → Cl A (γ i) ∧ -B ≤ γ i ∧ γ i ≤ B) (hS : ∀ i s, i < g.n → s < g.n → Cl S (φ i s))
include ok hb0 hb1 O hA hS
theorem lp_main {j : Nat} (hj : j < g.n) : ∀ i, j ≤ i → i < g.n → LP A S B ((γ i, F (e i) (φ i) (γ i) (st j)) :: qts g.n C e φ γ (st j) i) := by
  intro i
  have hs := O.lt j hj
  induction i with
  | zero =>
    intro h0 hi
    have : j = 0 := by omega
    subst this
    rw [qts_nil O hj (Nat.le_refl 0)]
    have e0 := F_out O (k := 0) (s := st 0) (m := γ 0) (by omega) (O.c0 _)
    rw [e0]
    exact ⟨rfl, hA 0 hi⟩
  | succ i ih =>
    intro hji hi
    by_cases c : j = i + 1
    · subst c
      rw [qts_nil O hj (Nat.le_refl _)]
      have e0 := F_out O (k := i + 1) (s := st (i + 1)) (m := γ (i + 1)) (by omega) (O.new _ hj)
      rw [e0]
      exact ⟨rfl, hA (i + 1) hi⟩
    · have hji : j ≤ i := by omega
      have a1 := ih hji (by omega)
      have inC : st j ∈ C (i + 1) := (C_iff O hj (by omega)).mpr (by omega)
      have f2 := F2 ok hb0 hb1 O (k := i) (s := st j) (by omega) hs
      have f3 := F3 ok hb0 hb1 O (k := i) hi
      by_cases d : γ (i + 1) = γ i
      · have q : qts g.n C e φ γ (st j) (i + 1) = qts g.n C e φ γ (st j) i := by rw [qts, if_pos (.inl ⟨hi, d⟩)]
        rw [q, d, f2]
        exact a1
      · have q : qts g.n C e φ γ (st j) (i + 1) = (γ i, F (e (i + 1)) (φ (i + 1)) (γ i) (st j)) :: qts g.n C e φ γ (st j) i := by
          rw [qts, if_neg]
          rintro (z | z)
          · exact d z.2
          · exact z inC
        rw [q, f2]
        have lt : γ (i + 1) < γ i := by grind
        refine ⟨hA (i + 1) hi, lt, ⟨φ (i + 1) (st j), hS (i + 1) _ hi hs, phi_nn ok hb0 hb1 (O.lv (i + 1) (Nat.le_of_lt hi)) _ hs, phi_le ok hb0 hb1 (O.lv (i + 1) (Nat.le_of_lt hi)) _ hs, ?_⟩, a1⟩
        show F (e i) (φ i) (γ i) (st j) - F (e (i + 1)) (φ (i + 1)) (γ (i + 1)) (st j) = φ (i + 1) (st j) * (γ i - γ (i + 1))
        rw [← f2]
        unfold F; grind
theorem lp_qts {s : Nat} (hs : s < g.n) : LP A S B (qts g.n C e φ γ s g.n) ∧ asc (qts g.n C e φ γ s g.n) ∧ inc 0 (qts g.n C e φ γ s g.n) := by
  obtain ⟨j, hj, rfl⟩ := (mem_C O (Nat.le_refl _)).mp (O.all s hs)
  obtain ⟨a1, a2, _, _⟩ := pts_all ok hb0 hb1 O hj
  refine ⟨?_, a1, a2⟩
  obtain ⟨N, hN⟩ : ∃ N, g.n = N + 1 := ⟨g.n - 1, by have := ok.pos; omega⟩
  have hNl : N < g.n := by omega
  have h := lp_main ok hb0 hb1 O hA hS hj N (by omega) hNl
  have f2 := F2 ok hb0 hb1 O (k := N) (s := st j) hNl (O.lt j hj)
  have q : qts g.n C e φ γ (st j) g.n = (γ N, F (e N) (φ N) (γ N) (st j)) :: qts g.n C e φ γ (st j) N := by
    have inC : st j ∈ C (N + 1) := (C_iff O hj (by omega)).mpr (by omega)
    have : qts g.n C e φ γ (st j) (N + 1) = (γ N, F (e N) (φ N) (γ N) (st j)) :: qts g.n C e φ γ (st j) N := by
      rw [qts, if_neg, f2]
      rintro (z | z)
      · omega
      · exact z inC
    rw [← hN] at this
    exact this
  rw [q]
  exact h
end
end AC
end
section
set_option exponentiation.threshold 20000
set_option maxRecDepth 100000
/-! Sizes: games and companies (plain). -/
namespace AC
def prd : Nat → (Nat → Nat) → Nat
  | 0, _ => 1
  | n + 1, f => prd n f * f n
theorem prd_dvd {f : Nat → Nat} {i : Nat} : ∀ {n : Nat}, i < n → f i ∣ prd n f
  | 0, h => by omega
  | n + 1, h => by
    by_cases c : i = n
    · rw [c]; exact ⟨prd n f, Nat.mul_comm _ _⟩
    · exact Nat.dvd_trans (prd_dvd (n := n) (by omega)) ⟨f n, rfl⟩
theorem prd_pre {f : Nat → Nat} {m : Nat} : ∀ {n : Nat}, m ≤ n → prd m f ∣ prd n f
  | 0, h => by have : m = 0 := by omega
               rw [this]; exact Nat.dvd_refl _
  | n + 1, h => by
    by_cases c : m = n + 1
    · rw [c]; exact Nat.dvd_refl _
    · exact Nat.dvd_trans (prd_pre (n := n) (by omega)) ⟨f n, rfl⟩
theorem prd_pos {f : Nat → Nat} : ∀ {n : Nat}, (∀ i, i < n → 1 ≤ f i) → 1 ≤ prd n f
  | 0, _ => Nat.le_refl _
  | n + 1, h => Nat.mul_pos (prd_pos fun i hi => h i (by omega)) (h n (by omega))
theorem prd_le {f h : Nat → Nat} : ∀ {n : Nat}, (∀ i, i < n → f i ≤ h i) → prd n f ≤ prd n h
  | 0, _ => Nat.le_refl _
  | n + 1, k => Nat.mul_le_mul (prd_le fun i hi => k i (by omega)) (k n (by omega))
theorem prd_mul (f h : Nat → Nat) : ∀ n, prd n f * prd n h = prd n fun i => f i * h i
  | 0 => rfl
  | n + 1 => by
    show prd n f * f n * (prd n h * h n) = prd n (fun i => f i * h i) * (f n * h n)
    rw [← prd_mul f h n]
    simp only [Nat.mul_assoc, Nat.mul_left_comm, Nat.mul_comm]
theorem prd_pow {f : Nat → Nat} {c : Nat} : ∀ {n : Nat}, (∀ i, i < n → f i ≤ c) → prd n f ≤ c ^ n
  | 0, _ => by simp [prd]
  | n + 1, h => by
    rw [Nat.pow_succ]
    exact Nat.mul_le_mul (prd_pow fun i hi => h i (by omega)) (h n (by omega))
def UW (i : Nat) : Nat := 12 * 150 ^ 2 ^ i
def U (n : Nat) : Nat := prd n UW
theorem UW1 (i : Nat) : 1 ≤ UW i := Nat.mul_pos (by omega) (Nat.pow_pos (by omega))
theorem U_mono {n m : Nat} (h : n ≤ m) : U n ≤ U m := Nat.le_of_dvd (prd_pos fun i _ => UW1 i) (prd_pre h)
theorem U1 (n : Nat) : 1 ≤ U n := prd_pos fun i _ => UW1 i
def BB : Rat := 100 * RB
theorem BB_nat : BB = ((100 * (7 * 10 ^ 30) : Nat) : Rat) := by
  unfold BB
  rw [RB_nat, natCast_mul' 100 (7 * 10 ^ 30), show ((100 : Nat) : Rat) = 100 from rfl]
theorem choose_q2 {n : Nat} {P : Nat → Nat → Nat → Prop} (H : ∀ i, i < n → ∃ p q, P i p q) : ∃ p q : Nat → Nat, ∀ i, i < n → P i (p i) (q i) := by
  obtain ⟨p, hp⟩ := choose_q (P := fun i p => ∃ q, P i p q) H
  obtain ⟨q, hq⟩ := choose_q (P := fun i q => P i (p i) q) hp
  exact ⟨p, q, hq⟩
theorem oC_at {g : Game} {b : Rat} {k : Nat} (hk : k < g.n) : (oP g b k).1 < g.n ∧ (oP g b k).1 ∉ oC g b k ∧ (oP g b k).2 = cnd g b (oC g b k) (oP g b k).1 := by
  obtain ⟨_, _, _, h4⟩ := oC_facts (g := g) (b := b) (k + 1) hk
  have := pick_some (h4 k (by omega))
  exact ⟨this.1, this.2.1, this.2.2.1⟩
section
variable {g : Game} {b : Rat} {d : Nat} (G : GmK g) (B : BdP b d)
include G B
/-- what clears a game's amounts and slopes -/
theorem game_sz : ∃ A S : Nat, 1 ≤ A ∧ 1 ≤ S ∧ A * S ≤ U g.n * U g.n ∧ ∀ s, s < g.n → CvP A S BB (gK g b s) ∧ LP A S BB (gPts g b s) := by
  have J := G.jg
  have n5 := G.le
  have hT : ∀ i, i < g.n → ∃ W E, 1 ≤ W ∧ W ≤ UW i ∧ 1 ≤ E ∧ E ≤ UW i ∧ (Cl W (oP g b i).2 ∧ -BB ≤ (oP g b i).2 ∧ (oP g b i).2 ≤ BB) ∧ ∀ s, Cl E (fL g b (oC g b i) s) := fun i hi => by
    obtain ⟨c1, c2, c3, _⟩ := oC_facts (g := g) (b := b) i (Nat.le_of_lt hi)
    obtain ⟨p1, p2, p3⟩ := oC_at (g := g) (b := b) hi
    obtain ⟨E', F, W, _, _, e2, rfl, w1, w2, _, _, _, _, _, _, _, hcl, lo, hi'⟩ := first_of J B c2 c3 (by omega) p1
    obtain ⟨E, e1, _, ee, _, e4, _⟩ := tab_of J B c2 c3 (by omega)
    rw [c1] at ee e2
    have hpow : 150 * (12 * 150 ^ (2 ^ i - 1)) = UW i := by
      unfold UW
      rw [Nat.mul_left_comm, ← Nat.pow_succ']
      congr 2
      have : 1 ≤ 2 ^ i := Nat.one_le_two_pow
      omega
    refine ⟨W, E, w1, ?_, e1, ?_, ⟨by rw [p3]; exact hcl, by rw [p3]; exact lo, by rw [p3]; exact hi'⟩, e4⟩
    · rw [← hpow]
      exact Nat.le_trans w2 (Nat.mul_le_mul_left _ e2)
    · rw [← hpow]
      exact Nat.le_trans ee (Nat.le_mul_of_pos_left _ (by omega))
  obtain ⟨W, E, h⟩ := choose_q2 hT
  refine ⟨prd g.n W, prd g.n E, prd_pos fun i hi => (h i hi).1, prd_pos fun i hi => (h i hi).2.2.1, Nat.mul_le_mul (prd_le fun i hi => (h i hi).2.1) (prd_le fun i hi => (h i hi).2.2.2.1), fun s hs => ?_⟩
  have O := order_ok G.ok B.b0 B.b1
  obtain ⟨lp, as, inc⟩ := lp_qts G.ok B.b0 B.b1 O (A := prd g.n W) (S := prd g.n E) (B := BB) (fun i hi => ⟨((h i hi).2.2.2.2.1).1.of (prd_dvd hi), (h i hi).2.2.2.2.1.2⟩) (fun i s hi _ => ((h i hi).2.2.2.2.2 s).of (prd_dvd hi)) hs
  refine ⟨⟨(gK_ok G.ok B.b0 B.b1).wf s hs, fun p hp => lp.am p (strF_sub hp), fun m => ?_⟩, lp⟩
  have e : slp (gK g b s) m = slp (gPts g b s) m := strF_slp m as inc
  rw [e]
  exact lp.slp m
end
/-! ### companies -/
def ShP (gs : List Game) : Prop := (gs.length = 1 ∧ ∀ g ∈ gs, g.n ≤ 5) ∨ (gs.length ≤ 2 ∧ ∀ g ∈ gs, g.n ≤ 3) ∨ (gs.length ≤ 3 ∧ ∀ g ∈ gs, g.n ≤ 2) ∨ (gs.length ≤ 5 ∧ ∀ g ∈ gs, g.n ≤ 1)
theorem pow_le' {c n m : Nat} (h : 1 ≤ c) (k : n ≤ m) : c ^ n ≤ c ^ m := Nat.pow_le_pow_right h k
section
variable {gs : List Game} {b : Rat} {d : Nat} (G : ∀ g ∈ gs, GmK g) (B : BdP b d) (Sh : ShP gs)
include G B Sh
theorem co_sz : ∃ A S : Nat, 1 ≤ A ∧ 1 ≤ S ∧ A * S ≤ 2 ^ 500 ∧ (∀ g ∈ gs, ∀ s, s < g.n → CvP A S BB (gK g b s)) ∧
    ∀ g0 rest, gs = g0 :: rest → ∀ i, i ≤ rest.length → ∀ c ∈ cvA b g0 (rest.take i), CvP A S BB c := by
  have hT : ∀ i, i < gs.length → ∃ A S, 1 ≤ A ∧ 1 ≤ S ∧ A * S ≤ U (ga gs i).n * U (ga gs i).n ∧ ∀ s, s < (ga gs i).n → CvP A S BB (gK (ga gs i) b s) := fun i hi => by
    have hg := List.getElem?_eq_getElem hi
    rw [ga_of hg]
    obtain ⟨A, S, a1, s1, e, h⟩ := game_sz (G _ (List.getElem_mem hi)) B
    exact ⟨A, S, a1, s1, e, fun s hs => (h s hs).1⟩
  obtain ⟨Aj, Sj, h⟩ := choose_q2 hT
  have key : ∀ L m, gs.length ≤ L → (∀ g ∈ gs, g.n ≤ m) → (U m * U m) ^ L ≤ 2 ^ 500 → prd gs.length Aj * prd gs.length Sj ≤ 2 ^ 500 := fun L m hl hm hb => by
    rw [prd_mul]
    refine Nat.le_trans (prd_pow (c := U m * U m) fun i hi => ?_) (Nat.le_trans (pow_le' (Nat.mul_pos (U1 m) (U1 m)) hl) hb)
    refine Nat.le_trans (h i hi).2.2.1 ?_
    have hn : (ga gs i).n ≤ m := by
      rw [ga_of (List.getElem?_eq_getElem hi)]
      exact hm _ (List.getElem_mem hi)
    exact Nat.mul_le_mul (U_mono hn) (U_mono hn)
  refine ⟨prd gs.length Aj, prd gs.length Sj, prd_pos fun i hi => (h i hi).1, prd_pos fun i hi => (h i hi).2.1, ?_, fun g hg s hs => ?_, fun g0 rest e i => ?_⟩
  · rcases Sh with ⟨h1, h2⟩ | ⟨h1, h2⟩ | ⟨h1, h2⟩ | ⟨h1, h2⟩
    · exact key 1 5 (by omega) h2 (by decide +kernel)
    · exact key 2 3 h1 h2 (by decide +kernel)
    · exact key 3 2 h1 h2 (by decide +kernel)
    · exact key 5 1 h1 h2 (by decide +kernel)
  · obtain ⟨i, hi, rfl⟩ := List.mem_iff_getElem.mp hg
    have hx := (h i hi).2.2.2
    rw [ga_of (List.getElem?_eq_getElem hi)] at hx
    exact (hx s hs).of (prd_dvd hi) (prd_dvd hi)
  · -- the curves of the first i + 1 games
    have main : ∀ i, i ≤ rest.length → ∀ c ∈ cvA b g0 (rest.take i), CvP (prd gs.length Aj) (prd (i + 1) Sj) BB c := fun i => by
      induction i with
      | zero =>
        intro _ c hc
        have hc : c ∈ (List.range g0.n).map (gK g0 b) := hc
        obtain ⟨s, hs, rfl⟩ := List.mem_map.mp hc
        have h0 : 0 < gs.length := by rw [e]; simp
        have hx := (h 0 h0).2.2.2
        rw [ga_of (show gs[0]? = some g0 by rw [e]; rfl)] at hx
        exact (hx s (List.mem_range.mp hs)).of (prd_dvd h0) (prd_dvd (f := Sj) (n := 0 + 1) (i := 0) (by omega))
      | succ i ih =>
        intro hi c hc
        obtain ⟨gm, hg⟩ : ∃ gm, rest[i]? = some gm := ⟨_, List.getElem?_eq_getElem (show i < rest.length by omega)⟩
        have et : cvA b g0 (rest.take (i + 1)) = cvS b (cvA b g0 (rest.take i)) gm := by
          unfold cvA
          rw [List.take_succ, hg, List.foldl_append]; rfl
        rw [et] at hc
        obtain ⟨a, ha, s, hs, rfl⟩ := flat_mem.mp hc
        have h1 : i + 1 < gs.length := by rw [e]; simp; omega
        have hx := (h (i + 1) h1).2.2.2
        rw [ga_of (show gs[i + 1]? = some gm by rw [e]; simpa using hg)] at hx
        have := (ih (by omega) a ha).prod ((hx s hs).of (prd_dvd h1) (Nat.dvd_refl _))
        exact this
    intro hi c hc
    exact (main i hi c hc).of (Nat.dvd_refl _) (prd_pre (by rw [e]; simp; omega))
end
end AC
end
section
set_option exponentiation.threshold 20000
set_option maxRecDepth 100000
/-! Sizes: what the walk asks. -/
namespace AC
theorem bd_of {b : Rat} (h : BdK b) : ∃ d, BdP b d := by
  obtain ⟨n, d, n0, nd, d2, d10, rfl⟩ := h
  obtain ⟨d', rfl⟩ : ∃ d' : Nat, d = (d' : Int) := ⟨d.toNat, by omega⟩
  refine ⟨d', by omega, by omega, cl_divInt (by omega), Rat.divInt_nonneg n0 (by omega), ?_⟩
  have e := divInt_mul (n := n) (d := (d' : Int)) (by omega)
  have t9 : (10 : Rat) * Rat.divInt 9 10 = 9 := by decide +kernel
  have hd : (0 : Rat) < (((d' : Int)) : Rat) := by exact_mod_cast (by omega : (0 : Int) < (d' : Int))
  have hn : (10 : Rat) * (n : Rat) ≤ 9 * (((d' : Int)) : Rat) := by exact_mod_cast (by omega : (10 : Int) * n ≤ 9 * (d' : Int))
  generalize Rat.divInt n (d' : Int) = x at *
  generalize (((d' : Int)) : Rat) = y at *
  by_cases c : x ≤ Rat.divInt 9 10
  · exact c
  · exfalso
    have c : Rat.divInt 9 10 < x := by grind
    have := Rat.mul_pos (show 0 < 10 * x - 9 by grind) hd
    grind
theorem CoK.sh {gs : List Game} (h : CoK gs) : ShP gs := h.shape
/-! ### joint states -/
theorem jlen {m : Nat} : ∀ {gs : List Game} {rows : List (List Nat)}, (∀ g ∈ gs, g.n ≤ m) → (gs.foldl jS rows).length ≤ rows.length * m ^ gs.length
  | [], rows, _ => by simp
  | g :: gs, rows, h => by
    show (gs.foldl jS (jS rows g)).length ≤ _
    refine Nat.le_trans (jlen (gs := gs) fun a ha => h a (List.mem_cons_of_mem _ ha)) ?_
    have : (jS rows g).length = rows.length * g.n := flat_len
    rw [this, List.length_cons, Nat.pow_succ, Nat.mul_assoc, Nat.mul_comm (m ^ gs.length) m]
    exact Nat.mul_le_mul_left _ (Nat.mul_le_mul_right _ (h g (by simp)))
theorem j9 {gs : List Game} (h : CoK gs) {l : List Game} (hl : l.length ≤ gs.length) (hm : ∀ g ∈ l, g ∈ gs) : (l.foldl jS [[]]).length ≤ 9 := by
  have key : ∀ L m, gs.length ≤ L → (∀ g ∈ gs, g.n ≤ m) → 1 ≤ m → m ^ L ≤ 9 → (l.foldl jS [[]]).length ≤ 9 := fun L m h1 h2 h3 h4 => by
    have := jlen (rows := [[]]) (m := m) (gs := l) fun g hg => h2 g (hm g hg)
    rw [List.length_singleton, Nat.one_mul] at this
    exact Nat.le_trans this (Nat.le_trans (Nat.pow_le_pow_right h3 (by omega)) h4)
  rcases h.shape with ⟨h1, h2⟩ | ⟨h1, h2⟩ | ⟨h1, h2⟩ | ⟨h1, h2⟩
  · exact key 1 5 (by omega) h2 (by omega) (by decide)
  · exact key 2 3 h1 h2 (by omega) (by decide)
  · exact key 3 2 h1 h2 (by omega) (by decide)
  · exact key 5 1 h1 h2 (by omega) (by decide)
theorem js_of {gs : List Game} (h : CoK gs) : JsK gs := by
  refine ⟨by have := h.le; omega, fun i hi => ⟨?_, fun u hu => ?_⟩⟩
  · have := j9 h (l := gs.take i) (by rw [List.length_take]; omega) fun g hg => List.mem_of_mem_take hg
    omega
  · have f : Fits (gs.take i) u := mem_joints.mp hu
    have := fits_len f
    rw [List.length_take] at this
    have := h.le
    omega
theorem N9 {gs : List Game} (h : CoK gs) : (joints gs).length ≤ 9 := j9 h (Nat.le_refl _) fun _ hg => hg
/-! ### lengths of curves -/
theorem strF_len : ∀ {ks : List Pt} {b : Rat}, (strF b ks).length ≤ ks.length
  | [], b => by simp [strF]
  | [p], b => by unfold strF; split <;> simp
  | p :: q :: r, b => by
    have ih := fun c => strF_len (ks := q :: r) (b := c)
    unfold strF
    split
    · exact Nat.le_trans (ih _) (by simp)
    · have := ih (line p q)
      simp only [List.length_cons] at *; omega
theorem qts_len {n : Nat} {C : Nat → List Nat} {e φ : Nat → Nat → Rat} {γ : Nat → Rat} {s : Nat} : ∀ i, (qts n C e φ γ s i).length ≤ i
  | 0 => by simp [qts]
  | i + 1 => by
    have ih := qts_len (n := n) (C := C) (e := e) (φ := φ) (γ := γ) (s := s) i
    unfold qts
    split
    · omega
    · simp only [List.length_cons]; omega
theorem gPts_len {g : Game} {b : Rat} {s : Nat} : (gPts g b s).length ≤ g.n := qts_len _
theorem gK_len {g : Game} {b : Rat} {s : Nat} : (gK g b s).length ≤ g.n := Nat.le_trans strF_len gPts_len
theorem prodK_len {a b : List Pt} : (prodK a b).length ≤ a.length + b.length := by
  refine Nat.le_trans strF_len ?_
  have e := congrArg List.length (ppts_map a b (amts a b))
  rw [List.length_map] at e
  rw [e]
  have := mrg_len (a.map (·.1)) (b.map (·.1))
  rw [List.length_map, List.length_map] at this
  exact this
theorem cvA_len {gs : List Game} (h : CoK gs) {g0 : Game} {rest : List Game} (e : gs = g0 :: rest) {b : Rat} : ∀ i, i ≤ rest.length → ∀ c ∈ cvA b g0 (rest.take i), c.length ≤ 5 * (i + 1)
  | 0, _, c, hc => by
    have hc : c ∈ (List.range g0.n).map (gK g0 b) := hc
    obtain ⟨s, hs, rfl⟩ := List.mem_map.mp hc
    have := gK_len (g := g0) (b := b) (s := s)
    have := (h.gm g0 (by rw [e]; simp)).le
    omega
  | i + 1, hi, c, hc => by
    obtain ⟨gm, hg⟩ : ∃ gm, rest[i]? = some gm := ⟨_, List.getElem?_eq_getElem (show i < rest.length by omega)⟩
    have et : cvA b g0 (rest.take (i + 1)) = cvS b (cvA b g0 (rest.take i)) gm := by
      unfold cvA
      rw [take_succ hg, List.foldl_append]; rfl
    rw [et] at hc
    obtain ⟨a, ha, s, hs, rfl⟩ := flat_mem.mp hc
    have := cvA_len h e (b := b) i (by omega) a ha
    have := gK_len (g := gm) (b := b) (s := s)
    have := (h.gm gm (by rw [e]; simp [List.mem_of_getElem? hg])).le
    have := prodK_len (a := a) (b := gK gm b s)
    omega
/-! ### small numbers -/
theorem ok_BB {E a : Nat} {x : Rat} (h : Cl E x) (h1 : 1 ≤ E) (hE : E ≤ 2 ^ a) (ha : a ≤ 4250) (lo : -(100 * BB) ≤ x) (hi : x ≤ 100 * BB) : Ok x := by
  have e : (100 * BB : Rat) = ((100 * (100 * (7 * 10 ^ 30)) : Nat) : Rat) := by
    rw [natCast_mul' 100 (100 * (7 * 10 ^ 30)), ← BB_nat]; rfl
  rw [e] at lo hi
  have : SZ = 4400 := rfl
  exact ok_of (a := a) (c := 120) h h1 hE lo hi (by decide) (by omega)
theorem BB0 : 0 ≤ BB := by unfold BB; have := RB0; grind
theorem BB1 : 100 ≤ BB := by unfold BB; have := RB1; grind
section
variable {A S : Nat} (a1 : 1 ≤ A) (s1 : 1 ≤ S) (hAS : A * S ≤ 2 ^ 1000)
include a1 s1 hAS
theorem A_le : A ≤ 2 ^ 1000 := Nat.le_trans (Nat.le_mul_of_pos_right _ s1) hAS
theorem S_le : S ≤ 2 ^ 1000 := Nat.le_trans (Nat.le_mul_of_pos_left _ a1) hAS
theorem lns_of {ks : List Pt} (h : LP A S BB ks) : Lns ks := fun i p q hp hq => by
  obtain ⟨lt, ⟨t, ct, t0, t1, e⟩, mp, mq⟩ := h.next hp hq
  obtain ⟨c1, l1, u1⟩ := h.am p mp
  obtain ⟨c2, l2, u2⟩ := h.am q mq
  obtain ⟨v1, v2, v3⟩ := h.vals p mp
  obtain ⟨w1, w2, w3⟩ := h.vals q mq
  have b0 := BB0
  have b1 := BB1
  refine ⟨lt, ?_, ?_, ?_⟩
  · exact ok_BB (w1.sub v1) (Nat.mul_pos a1 s1) hAS (by omega) (by grind) (by grind)
  · exact ok_BB (c2.sub c1) a1 (A_le a1 s1 hAS) (by omega) (by grind) (by grind)
  · rw [line_of lt (by rw [e])]
    exact ok_BB ct s1 (S_le a1 s1 hAS) (by omega) (by grind) (by grind)
end
section
variable {A S : Nat} (a1 : 1 ≤ A) (s1 : 1 ≤ S) (hAS : A * S ≤ 2 ^ 500)
include a1 s1 hAS
theorem AS10 : A * S ≤ 2 ^ 1000 := Nat.le_trans hAS (Nat.pow_le_pow_right (by omega) (by omega))
theorem ASS : A * (S * S) ≤ 2 ^ 1000 := by
  have hS : S ≤ 2 ^ 500 := Nat.le_trans (Nat.le_mul_of_pos_left _ a1) hAS
  rw [← Nat.mul_assoc]
  exact Nat.le_trans (Nat.mul_le_mul hAS hS) (by rw [← Nat.pow_add]; exact Nat.le_refl _)
theorem ck_of {ks : List Pt} (h : CvP A S BB ks) (hl : ks.length ≤ 1000) : CurveK ks := ⟨h.wf, lns_of a1 s1 (AS10 a1 s1 hAS) h.lp, hl⟩
theorem pr_of {a b : List Pt} (ha : CvP A S BB a) (hb : CvP A S BB b) (hl : a.length + b.length ≤ 800) : PrK a b := by
  have ss1 := Nat.mul_pos s1 s1
  have h1 := ASS a1 s1 hAS
  have lp := lp_ppts ha.wf hb.wf ha.sl hb.sl (amts_up ha.wf hb.wf) (amts_am ha.am hb.am)
  have ia := wf_inc (by decide) ha.wf
  have ib := wf_inc (by decide) hb.wf
  have b0 := BB0
  have b1 := BB1
  have sl01 : ∀ x, 0 ≤ slp a x * slp b x ∧ slp a x * slp b x ≤ 1 := fun x => by
    have x0 : 0 ≤ slp a x := slpF_ge ia
    have x1 : slp a x ≤ 1 := slpF_le ia
    have y0 : 0 ≤ slp b x := slpF_ge ib
    have y1 : slp b x ≤ 1 := slpF_le ib
    refine ⟨Rat.mul_nonneg x0 y0, ?_⟩
    have := Rat.mul_le_mul_of_nonneg_right x1 y0
    grind
  refine ⟨ha.wf, hb.wf, hl, lns_of a1 s1 (AS10 a1 s1 hAS) ha.lp, lns_of a1 s1 (AS10 a1 s1 hAS) hb.lp, fun x hx => ?_, fun i x y hx hy => ⟨?_, ?_⟩, fun p hp => ?_, lns_of a1 ss1 h1 lp⟩
  · have := sl01 x
    exact ok_BB ((ha.sl x).prod (hb.sl x)) ss1 (S_le a1 ss1 h1) (by omega) (by grind) (by grind)
  · obtain ⟨c1, l1, u1⟩ := amts_am ha.am hb.am x (List.mem_of_getElem? hx)
    obtain ⟨c2, l2, u2⟩ := amts_am ha.am hb.am y (List.mem_of_getElem? hy)
    exact ok_BB (c2.sub c1) a1 (A_le a1 ss1 h1) (by omega) (by grind) (by grind)
  · obtain ⟨c1, l1, u1⟩ := amts_am ha.am hb.am x (List.mem_of_getElem? hx)
    obtain ⟨c2, l2, u2⟩ := amts_am ha.am hb.am y (List.mem_of_getElem? hy)
    obtain ⟨t0, t1⟩ := sl01 x
    obtain ⟨m1, m2⟩ := mul01 t0 t1 (show -(2 * BB) ≤ y - x by grind) (show y - x ≤ 2 * BB by grind) (by grind) (by grind)
    refine ok_BB (((ha.sl x).prod (hb.sl x)).prod (c2.sub c1)) (Nat.mul_pos ss1 a1) (by rw [Nat.mul_comm]; exact h1) (by omega) (by grind) (by grind)
  · obtain ⟨v1, v2, v3⟩ := lp.vals p hp
    obtain ⟨c1, l1, u1⟩ := lp.am p hp
    exact ok_BB v1 (Nat.mul_pos a1 ss1) h1 (by omega) (by grind) (by grind)
end
end AC
end
section
set_option exponentiation.threshold 20000
set_option maxRecDepth 100000
/-! Sizes: what the curves of a game ask. -/
namespace AC
section
variable {g : Game} {b : Rat} {d : Nat} (J : JgK g) (B : BdP b d)
include J B
/-- sizes for a list of weights times 0 or 1 -/
theorem lv_of {C : List Nat} (nd : C.Nodup) (hC : ∀ s ∈ C, s < g.n) (hl : C.length ≤ 9) : LvOk ⟨g, C, b⟩ := by
  obtain ⟨q, K⟩ := sys_LS J B nd hC hl
  have bb := B.b1
  have b0 := BB0
  have b1 := BB1
  have q150 : ∀ {S : Nat}, S ≤ 15 → d * S ≤ 2 ^ 8 := fun h => Nat.le_trans (Nat.mul_le_mul B.d10 h) (by decide)
  refine ⟨nd, by show C.length ≤ 50; omega, hC, J.ok.len, small_of K, fun s hs tp htp => ?_, fun s hs t j => ?_, fun s hs t => ?_⟩
  · obtain ⟨S, s1, s15, scl⟩ := J.row s (hC s hs)
    obtain ⟨p1, p2⟩ := prob_le (J.ok.rows s (hC s hs)) htp
    obtain ⟨m1, m2⟩ := mul01 B.b0 (Rat.le_of_lt bb) p1 p2 Rat.le_refl (by decide)
    exact ok_BB (B.cl.prod (scl tp htp)) (Nat.mul_pos B.d1 s1) (q150 s15) (by omega) (by grind) (by grind)
  · obtain ⟨S, s1, s15, scl⟩ := J.row s (hC s hs)
    obtain ⟨e1, e2⟩ := ex_part (J.ok.rows s (hC s hs)) (f := ind (C.getD j 0)) (lo := 0) (hi := 1) (fun tp _ => le01 (ind01 _ tp.1)) Rat.le_refl (by decide) t
    obtain ⟨m1, m2⟩ := mul01 B.b0 (Rat.le_of_lt bb) e1 e2 Rat.le_refl (by decide)
    obtain ⟨u1, u2⟩ := le01 (un01 (C.idxOf s) j)
    have c := B.cl.prod (Cl.ex (E := S) (F := 1) (row := (g.row s).take t) (f := ind (C.getD j 0)) (fun tp h => scl tp (List.mem_of_mem_take h)) fun tp _ => Cl.of01 (ind01 _ tp.1))
    rw [Nat.mul_one] at c
    exact ok_BB ((Cl.of01 (un01 (C.idxOf s) j)).sub c) (Nat.mul_pos B.d1 s1) (q150 s15) (by omega) (by grind) (by grind)
  · obtain ⟨S, s1, s15, scl⟩ := J.row s (hC s hs)
    obtain ⟨e1, e2⟩ := ex_part (J.ok.rows s (hC s hs)) (f := out C) (lo := 0) (hi := 1) (fun tp _ => le01 (out01 C tp.1)) Rat.le_refl (by decide) t
    obtain ⟨m1, m2⟩ := mul01 B.b0 (Rat.le_of_lt bb) e1 e2 Rat.le_refl (by decide)
    have c := B.cl.prod (Cl.ex (E := S) (F := 1) (row := (g.row s).take t) (f := out C) (fun tp h => scl tp (List.mem_of_mem_take h)) fun tp _ => Cl.of01 (out01 C tp.1))
    rw [Nat.mul_one] at c
    exact ok_BB c (Nat.mul_pos B.d1 s1) (q150 s15) (by omega) (by grind) (by grind)
end
theorem UW_le {i : Nat} (h : i ≤ 5) : UW i ≤ 2 ^ 300 := by
  have h1 : UW i ≤ UW 5 := Nat.mul_le_mul_left _ (Nat.pow_le_pow_right (by omega) (Nat.pow_le_pow_right (by omega) h))
  exact Nat.le_trans h1 (by decide +kernel)
theorem U5 {n : Nat} (h : n ≤ 5) : U n * U n ≤ 2 ^ 500 := Nat.le_trans (Nat.mul_le_mul (U_mono h) (U_mono h)) (by decide +kernel)
section
variable {g : Game} {b : Rat} {d : Nat} (G : GmK g) (B : BdP b d)
include G B
theorem ns_of {k : Nat} (hk : k < g.n) : NsK ⟨g, oC g b k, b⟩ := by
  have n5 := G.le
  obtain ⟨c1, c2, c3, _⟩ := oC_facts (g := g) (b := b) k (Nat.le_of_lt hk)
  have bB : BB = 100 * RB := rfl
  have b0 := BB0
  have h2k : ∀ {E W : Nat}, E ≤ 12 * 150 ^ (2 ^ k - 1) → W ≤ 150 * E → W ≤ 2 ^ 300 := fun {E W} h1 h2 => by
    have hpow : 150 * (12 * 150 ^ (2 ^ k - 1)) = UW k := by
      unfold UW
      rw [Nat.mul_left_comm, ← Nat.pow_succ']
      congr 2
      have : 1 ≤ 2 ^ k := Nat.one_le_two_pow
      omega
    refine Nat.le_trans h2 (Nat.le_trans (Nat.mul_le_mul_left _ h1) ?_)
    rw [hpow]
    exact UW_le (by omega)
  refine ⟨lv_of G.jg B c2 c3 (by omega), by show g.n ≤ 1000; omega, fun s hs _ => ?_, fun s hs _ => ?_, fun s hs _ => ?_⟩
  · obtain ⟨E, F, W, _, _, e2, rfl, w1, w2, f1, f2, f3, f4, f5, f6, f7, hcl, lo, hi⟩ := first_of G.jg B c2 c3 (by omega) hs
    exact ⟨c2, hs, G.len, fun tp h => (f1 tp h).1, fun tp h => (f1 tp h).2, fun t => (f2 t).1, fun t => (f2 t).2, f3, f4, f5⟩
  · obtain ⟨E, F, W, _, _, e2, rfl, w1, w2, f1, f2, f3, f4, f5, f6, f7, hcl, lo, hi⟩ := first_of G.jg B c2 c3 (by omega) hs
    exact ⟨f6, f7⟩
  · obtain ⟨E, F, W, _, _, e2, rfl, w1, w2, f1, f2, f3, f4, f5, f6, f7, hcl, lo, hi⟩ := first_of G.jg B c2 c3 (by omega) hs
    rw [c1] at e2
    exact ok_BB hcl w1 (h2k e2 w2) (by omega) (by grind) (by grind)
theorem ac_of : AcK (g, b) := by
  have n5 := G.le
  have b0 := BB0
  have b1 := BB1
  have bB : BB = 100 * RB := rfl
  have r0 := RB0
  obtain ⟨A, S, a1, s1, hAS, hcv⟩ := game_sz G B
  have hAS5 := Nat.le_trans hAS (U5 n5)
  refine ⟨⟨by show g.n ≤ 60; omega, fun k hk => ns_of G B hk⟩, G.len, fun k hk => ?_, fun k hk s hs => ?_, fun s hs => ⟨lns_of a1 s1 (AS10 a1 s1 hAS5) (hcv s hs).2, by have := gPts_len (g := g) (b := b) (s := s); show (gPts g b s).length ≤ 900; omega⟩, fun s hs => ck_of a1 s1 hAS5 (hcv s hs).1 (by have := gK_len (g := g) (b := b) (s := s); show (gK g b s).length ≤ 1000; omega)⟩
  · have hk : k < g.n := hk
    obtain ⟨c1, c2, c3, _⟩ := oC_facts (g := g) (b := b) (k + 1) hk
    exact lv_of G.jg B c2 c3 (show (oC g b (k + 1)).length ≤ 9 by rw [c1]; omega)
  · have hk : k < g.n := hk
    obtain ⟨c1, c2, c3, _⟩ := oC_facts (g := g) (b := b) (k + 1) hk
    obtain ⟨k1, k2, k3, _⟩ := oC_facts (g := g) (b := b) k (Nat.le_of_lt hk)
    obtain ⟨E, e1, _, ee, e3, e4, e5⟩ := tab_of G.jg B c2 c3 (by omega)
    obtain ⟨p1, p2, p3⟩ := oC_at (g := g) (b := b) hk
    obtain ⟨E', F, W, _, _, e2, rfl, w1, w2, _, _, _, _, _, _, _, hcl, lo, hi⟩ := first_of G.jg B k2 k3 (by omega) p1
    rw [← p3] at hcl lo hi
    rw [c1] at ee
    rw [k1] at e2
    have hE : E ≤ 2 ^ 300 := Nat.le_trans ee (Nat.le_trans (Nat.mul_le_mul_left _ (Nat.pow_le_pow_right (by omega) (Nat.sub_le _ 1))) (UW_le (show k + 1 ≤ 5 by omega)))
    have hW : W ≤ 2 ^ 300 := by
      have hpow : 150 * (12 * 150 ^ (2 ^ k - 1)) = UW k := by
        unfold UW
        rw [Nat.mul_left_comm, ← Nat.pow_succ']
        congr 2
        have : 1 ≤ 2 ^ k := Nat.one_le_two_pow
        omega
      refine Nat.le_trans w2 (Nat.le_trans (Nat.mul_le_mul_left _ e2) ?_)
      rw [hpow]
      exact UW_le (by omega)
    have hEW : E * W ≤ 2 ^ 600 := Nat.le_trans (Nat.mul_le_mul hE hW) (by rw [← Nat.pow_add]; exact Nat.le_refl _)
    obtain ⟨f0, f1⟩ := e5 s (c3 s hs)
    obtain ⟨x1, x2, x3⟩ := e3 s
    obtain ⟨m1, m2⟩ := mul01 f0 f1 lo hi (by grind) (by grind)
    exact ⟨ok_BB ((e4 s).prod hcl) (Nat.mul_pos e1 w1) hEW (by omega) (by grind) (by grind), ok_BB ((x1.of ⟨W, rfl⟩).add ((e4 s).prod hcl)) (Nat.mul_pos e1 w1) hEW (by omega) (by grind) (by grind)⟩
end
/-! ### the table of best gains -/
section
variable {gs : List Game} {b : Rat} {d : Nat} (co : CoK gs) (B : BdP b d)
include co B
theorem vt_of {g0 : Game} {rest : List Game} (e : gs = g0 :: rest) : VtK (g0, rest, b) := by
  obtain ⟨A, S, a1, s1, hAS, h1, h2⟩ := co_sz co.gm B co.sh
  have hr : rest.length ≤ 4 := by have := co.le; rw [e] at this; simp at this; omega
  refine ⟨by show rest.length ≤ 900; omega, fun g hg => ?_, fun i hi => ?_, fun i gm hg c hc s hs => ?_, fun c hc => ?_⟩
  · exact ac_of (co.gm g (by rw [e]; exact hg)) B
  · show (cvA b g0 (rest.take i)).length ≤ 1000
    rw [cvA_eq, List.length_map]
    have := j9 co (l := g0 :: rest.take i) (by rw [e]; simp; omega) fun g hg => by
      rw [e]
      rcases List.mem_cons.mp hg with h | h
      · rw [h]; simp
      · exact List.mem_cons_of_mem _ (List.mem_of_mem_take h)
    unfold joints
    omega
  · have hi := (List.getElem?_eq_some_iff.mp hg).1
    have hi : i < rest.length := hi
    have hgm : gm ∈ gs := by rw [e]; exact List.mem_cons_of_mem _ (List.mem_of_getElem? hg)
    have hc : c ∈ cvA b g0 (rest.take i) := hc
    have ca := h2 g0 rest e i (by omega) c hc
    have cb := h1 gm hgm s hs
    have l1 := cvA_len co e (b := b) i (by omega) c hc
    have l2 := gK_len (g := gm) (b := b) (s := s)
    have := (co.gm gm hgm).le
    refine ⟨pr_of a1 s1 hAS ca cb (by show c.length + (gK gm b s).length ≤ 800; omega), ck_of a1 s1 hAS ?_ (by have := prodK_len (a := c) (b := gK gm b s); show (prodK c (gK gm b s)).length ≤ 1000; omega)⟩
    refine h2 g0 rest e (i + 1) (by omega) _ ?_
    have et : cvA b g0 (rest.take (i + 1)) = cvS b (cvA b g0 (rest.take i)) gm := by
      have hg : rest[i]? = some gm := hg
      unfold cvA
      rw [take_succ hg, List.foldl_append]; rfl
    rw [et]
    exact flat_mem.mpr ⟨c, hc, s, hs, rfl⟩
  · have hc : c ∈ cvA b g0 rest := hc
    have := h2 g0 rest e rest.length (Nat.le_refl _) c (by rw [List.take_length]; exact hc)
    exact this.wf
/-- the best gains: what clears them, how large they are -/
theorem bV_sz : ∃ E : Nat, 1 ≤ E ∧ E ≤ 2 ^ 500 ∧ ∀ k, k < (joints gs).length → Cl E (bV b gs k) ∧ -BB ≤ bV b gs k ∧ bV b gs k ≤ BB := by
  obtain ⟨A, S, a1, s1, hAS, h1, h2⟩ := co_sz co.gm B co.sh
  obtain ⟨g0, rest, e⟩ : ∃ g0 rest, gs = g0 :: rest := by
    have := co.ne
    cases gs with
    | nil => exact absurd rfl this
    | cons a l => exact ⟨a, l, rfl⟩
  refine ⟨A * S, Nat.mul_pos a1 s1, hAS, fun k hk => ?_⟩
  have hmem : pkJ b gs (ju gs k) ∈ cvA b g0 rest := by
    rw [cvA_eq, ← e]
    exact List.mem_map.mpr ⟨ju gs k, mem_joints.mpr (ju_fits hk), rfl⟩
  have cv := h2 g0 rest e rest.length (Nat.le_refl _) _ (by rw [List.take_length]; exact hmem)
  unfold bV
  generalize pkJ b gs (ju gs k) = ks at cv
  have lp := cv.lp
  have wf := cv.wf
  cases ks with
  | nil => exact wf.elim
  | cons p r =>
    obtain ⟨v1, v2, v3⟩ := lp.vals p (by simp)
    obtain ⟨c1, l1, u1⟩ := lp.am p (by simp)
    exact ⟨v1, by show -BB ≤ p.2; grind, v3⟩
end
end AC
end
section
set_option exponentiation.threshold 20000
set_option maxRecDepth 100000
/-! Sizes: what choices ask; all together. -/
namespace AC
section
variable {gs : List Game} {b : Rat} {d : Nat} (co : CoK gs) (B : BdP b d)
include co B
theorem row_mv {u : List Nat} {p : Nat} (hu : Fits gs u) (hp : p < gs.length) : RowOk (joints gs).length (mvs gs u p) ∧ (∃ S : Nat, 1 ≤ S ∧ S ≤ 15 ∧ ∀ tp ∈ mvs gs u p, Cl S tp.2) ∧ RwK (rwd gs u p) := by
  have hg := List.getElem?_eq_getElem hp
  obtain ⟨s, hs, hlt⟩ := fits_get hu hg
  have gm := co.gm _ (List.getElem_mem hp)
  have e : u.getD p 0 = s := by rw [List.getD_eq_getElem?_getD, hs]; rfl
  refine ⟨mvs_ok co.ok hu hp, ?_, ?_⟩
  · obtain ⟨S, s1, s15, scl⟩ := (gm.row s hlt).cl
    refine ⟨S, s1, s15, fun tp h => ?_⟩
    unfold mvs at h
    rw [ga_of hg, e] at h
    obtain ⟨z, hz, rfl⟩ := List.mem_map.mp h
    exact scl z hz
  · unfold rwd
    rw [ga_of hg, e]
    exact gm.rw s hlt
section
variable {u : List Nat} {p : Nat} (hu : Fits gs u) (hp : p < gs.length) {W : Nat → Rat} {E : Nat} (e1 : 1 ≤ E) (hE : E ≤ 2 ^ 4230) (hW : ∀ k, k < (joints gs).length → Cl E (W k) ∧ -(2 * BB) ≤ W k ∧ W k ≤ 2 * BB)
include hu hp e1 hE hW
theorem ws_of : (∀ tp ∈ mvs gs u p, Ok (tp.2 * W tp.1)) ∧ (∀ t, Ok (ex ((mvs gs u p).take t) W)) ∧ Ok (b * ex (mvs gs u p) W) ∧ Ok (ply b gs W u p) ∧
    ∃ F : Nat, 1 ≤ F ∧ F ≤ 2 ^ 12 ∧ Cl (F * E) (ply b gs W u p) ∧ -(3 * BB) ≤ ply b gs W u p ∧ ply b gs W u p ≤ 3 * BB := by
  obtain ⟨rok, ⟨S, s1, s15, scl⟩, rw⟩ := row_mv co B hu hp
  have bb := B.b1
  have b0 := BB0
  have b1 := BB1
  have r0 := RB0
  have bB : BB = 100 * RB := rfl
  have hk : ∀ {k : Nat}, k ≤ 2 ^ 12 → k * E ≤ 2 ^ 4242 := fun h => Nat.le_trans (Nat.mul_le_mul h hE) (by rw [← Nat.pow_add]; exact Nat.le_refl _)
  have exb : ∀ t, Cl (S * E) (ex ((mvs gs u p).take t) W) ∧ -(2 * BB) ≤ ex ((mvs gs u p).take t) W ∧ ex ((mvs gs u p).take t) W ≤ 2 * BB := fun t =>
    ⟨Cl.ex (fun tp h => scl tp (List.mem_of_mem_take h)) fun tp h => (hW _ (rok.tgt tp (List.mem_of_mem_take h))).1, ex_part rok (fun tp h => (hW _ (rok.tgt tp h)).2) (by grind) (by grind) t⟩
  have full := exb (mvs gs u p).length
  rw [List.take_length] at full
  have be := B.cl.prod full.1
  obtain ⟨m1, m2⟩ := mul01 B.b0 (Rat.le_of_lt bb) full.2.1 full.2.2 (by grind) (by grind)
  have dS : d * S ≤ 150 := Nat.mul_le_mul B.d10 s15
  have dS1 := Nat.mul_pos B.d1 s1
  have h12 : 12 * (d * S) ≤ 2 ^ 12 := Nat.le_trans (Nat.mul_le_mul_left _ dS) (by decide)
  have hply : Cl (12 * (d * S) * E) (ply b gs W u p) := by
    refine (rw.cl.of ⟨d * S * E, by rw [Nat.mul_assoc]⟩).add (be.of ⟨12, ?_⟩)
    simp only [Nat.mul_assoc, Nat.mul_left_comm, Nat.mul_comm]
  have lo := rw.lo
  have hi := rw.hi
  have hb1 : -(3 * BB) ≤ ply b gs W u p := by unfold ply; grind
  have hb2 : ply b gs W u p ≤ 3 * BB := by unfold ply; grind
  refine ⟨fun tp h => ?_, fun t => ?_, ?_, ?_, 12 * (d * S), by omega, h12, hply, hb1, hb2⟩
  · obtain ⟨p1, p2⟩ := prob_le rok h
    obtain ⟨w1, w2, w3⟩ := hW _ (rok.tgt tp h)
    obtain ⟨q1, q2⟩ := mul01 p1 p2 w2 w3 (by grind) (by grind)
    exact ok_BB ((scl tp h).prod w1) (Nat.mul_pos s1 e1) (hk (Nat.le_trans s15 (by decide))) (by omega) (by grind) (by grind)
  · obtain ⟨x1, x2, x3⟩ := exb t
    exact ok_BB x1 (Nat.mul_pos s1 e1) (hk (Nat.le_trans s15 (by decide))) (by omega) (by grind) (by grind)
  · exact ok_BB be (Nat.mul_pos B.d1 (Nat.mul_pos s1 e1)) (by rw [← Nat.mul_assoc]; exact hk (Nat.le_trans dS (by decide))) (by omega) (by grind) (by grind)
  · exact ok_BB hply (Nat.mul_pos (Nat.mul_pos (by omega) dS1) e1) (hk h12) (by omega) (by grind) (by grind)
theorem plk_of : PlK ⟨gs, u, p, W, b⟩ := by
  obtain ⟨w1, w2, w3, w4, _⟩ := ws_of co B hu hp e1 hE hW
  exact ⟨hu, by have := co.le; show gs.length ≤ 900; omega, hp, co.ok, w1, w2, w3, w4⟩
end
theorem sz_of : Szs gs b := by
  obtain ⟨E, e1, e2, hv⟩ := bV_sz co B
  have b0 := BB0
  refine ⟨js_of co, by have := N9 co; omega, fun g0 rest e => vt_of co B e, fun u p hu hp => plk_of co B hu hp e1 (Nat.le_trans e2 (Nat.pow_le_pow_right (by omega) (by omega))) fun k hk => ?_⟩
  obtain ⟨c, l, h⟩ := hv k hk
  exact ⟨c, by grind, by grind⟩
section
variable {cs : List Nat} (ch : ChK gs cs)
include ch
theorem cp_of : ∀ k, k < (joints gs).length → cs.getD k 0 < gs.length := fun k hk => ch.lt _ (List.mem_of_getElem? (getD_get (by rw [ch.len]; exact hk)))
theorem jg_of : JgK (jG gs cs) := by
  have cp := cp_of co B ch
  refine ⟨jG_ok co.ok cp, fun k hk => ?_, fun k hk => ?_⟩
  · rw [jG_n] at hk
    rw [jG_r hk]
    exact (row_mv co B (ju_fits hk) (cp k hk)).2.2
  · rw [jG_n] at hk
    rw [jG_row hk]
    exact (row_mv co B (ju_fits hk) (cp k hk)).2.1
theorem sys_CS : ∃ q, SysK (CS gs cs b) q := by
  have n9 := N9 co
  obtain ⟨q, K⟩ := sys_LS (C := List.range (joints gs).length) (jg_of co B ch) B List.nodup_range (fun s hs => by rw [jG_n]; exact List.mem_range.mp hs) (by rw [List.length_range]; exact n9)
  have en : (LS (jG gs cs) b (List.range (joints gs).length)).n = (joints gs).length := List.length_range
  have hi' : ∀ {i : Nat}, i < (joints gs).length → i < (LS (jG gs cs) b (List.range (joints gs).length)).n := fun h => by rw [en]; exact h
  refine ⟨q, n9, by show 1 ≤ 2; omega, fun i hi => K.q1 i (hi' hi), fun i j hi hj => K.cm i j (hi' hi) (hi' hj), fun i l hi hl => K.cr i l (hi' hi) (show l < 2 by have : l < 1 := hl; omega), fun i l hi hl => K.br i l (hi' hi) (show l < 2 by have : l < 1 := hl; omega), ?_⟩
  have g := K.good
  rw [en] at g
  exact g
theorem cv_of : CvK (gs, cs, b) := by
  have cp := cp_of co B ch
  obtain ⟨q, K⟩ := sys_CS co B ch
  have bb := B.b1
  have b0 := BB0
  have b1 := BB1
  have q150 : ∀ {S : Nat}, S ≤ 15 → d * S ≤ 2 ^ 8 := fun h => Nat.le_trans (Nat.mul_le_mul B.d10 h) (by decide)
  refine ⟨js_of co, by have := N9 co; show (joints gs).length ≤ 50; omega, ch.len, cp, co.ok, small_of K, fun k hk tp htp => ?_, fun k hk t j => ?_⟩
  · obtain ⟨rok, ⟨S, s1, s15, scl⟩, _⟩ := row_mv co B (ju_fits hk) (cp k hk)
    obtain ⟨p1, p2⟩ := prob_le rok htp
    obtain ⟨m1, m2⟩ := mul01 B.b0 (Rat.le_of_lt bb) p1 p2 Rat.le_refl (by decide)
    exact ok_BB (B.cl.prod (scl tp htp)) (Nat.mul_pos B.d1 s1) (q150 s15) (by omega) (by grind) (by grind)
  · obtain ⟨rok, ⟨S, s1, s15, scl⟩, _⟩ := row_mv co B (ju_fits hk) (cp k hk)
    obtain ⟨e1, e2⟩ := ex_part rok (f := ind j) (lo := 0) (hi := 1) (fun tp _ => le01 (ind01 _ tp.1)) Rat.le_refl (by decide) t
    obtain ⟨m1, m2⟩ := mul01 B.b0 (Rat.le_of_lt bb) e1 e2 Rat.le_refl (by decide)
    obtain ⟨u1, u2⟩ := le01 (un01 k j)
    have c := B.cl.prod (Cl.ex (E := S) (F := 1) (row := (mvs gs (ju gs k) (cs.getD k 0)).take t) (f := ind j) (fun tp h => scl tp (List.mem_of_mem_take h)) fun tp _ => Cl.of01 (ind01 _ tp.1))
    rw [Nat.mul_one] at c
    exact ok_BB ((Cl.of01 (un01 k j)).sub c) (Nat.mul_pos B.d1 s1) (q150 s15) (by omega) (by grind) (by grind)
theorem sc_of : SzC gs cs b := by
  have cp := cp_of co B ch
  have n9 := N9 co
  obtain ⟨q, K⟩ := sys_CS co B ch
  obtain ⟨D, d1, d2, hs⟩ := sol_of K
  obtain ⟨E, e1, e2, hv⟩ := bV_sz co B
  have b0 := BB0
  have b1 := BB1
  have r0 := RB0
  have bB : BB = 100 * RB := rfl
  have hD : 12 * D ≤ 2 ^ 3716 := Nat.le_trans (Nat.mul_le_mul_left _ d2) (p150 K (2 ^ (CS gs cs b).n - 1) (by
    have : 2 ^ (CS gs cs b).n ≤ 512 := pow9 K n9
    omega))
  have hX : ∀ k, k < (joints gs).length → Cl (12 * D) (cX gs cs b k) ∧ -(10 * RB) ≤ cX gs cs b k ∧ cX gs cs b k ≤ 10 * RB := fun k hk => hs k 0 hk (by show 0 < 1; omega)
  have hED : E * (12 * D) ≤ 2 ^ 4216 := Nat.le_trans (Nat.mul_le_mul e2 hD) (by rw [← Nat.pow_add]; exact Nat.le_refl _)
  have h1D : 1 ≤ 12 * D := by omega
  have hL : ∀ k, k < (joints gs).length → Cl (E * (12 * D)) (bV b gs k - cX gs cs b k) ∧ -(2 * BB) ≤ bV b gs k - cX gs cs b k ∧ bV b gs k - cX gs cs b k ≤ 2 * BB := fun k hk => by
    obtain ⟨c1, l1, u1⟩ := hv k hk
    obtain ⟨c2, l2, u2⟩ := hX k hk
    exact ⟨(c1.of ⟨12 * D, rfl⟩).sub (c2.of ⟨E, Nat.mul_comm _ _⟩), by grind, by grind⟩
  refine ⟨cv_of co B ch, fun k hk => plk_of co B (ju_fits hk) (cp k hk) h1D (Nat.le_trans hD (Nat.pow_le_pow_right (by omega) (by omega))) fun t ht => ?_, fun k hk => ?_, fun k hk => ?_, fun k hk => ?_⟩
  · obtain ⟨c2, l2, u2⟩ := hX t ht
    exact ⟨c2, by grind, by grind⟩
  · obtain ⟨_, _, _, _, F, f1, f2, pc, pl, pu⟩ := ws_of co B (ju_fits hk) (cp k hk) e1 (Nat.le_trans e2 (Nat.pow_le_pow_right (by omega) (by omega))) (W := bV b gs) fun t ht => by
      obtain ⟨c, l, h⟩ := hv t ht
      exact ⟨c, by grind, by grind⟩
    obtain ⟨c1, l1, u1⟩ := hv k hk
    have hFE : F * E ≤ 2 ^ 512 := Nat.le_trans (Nat.mul_le_mul f2 e2) (by rw [← Nat.pow_add]; exact Nat.le_refl _)
    exact ok_BB ((c1.of ⟨F, Nat.mul_comm _ _⟩).sub pc) (Nat.mul_pos f1 e1) hFE (by omega) (by grind) (by grind)
  · obtain ⟨c, l, h⟩ := hL k hk
    exact ok_BB c (Nat.mul_pos e1 h1D) hED (by omega) (by grind) (by grind)
  · obtain ⟨w1, w2, w3, _⟩ := ws_of co B (ju_fits hk) (cp k hk) (Nat.mul_pos e1 h1D) (Nat.le_trans hED (Nat.pow_le_pow_right (by omega) (by omega))) hL
    exact ⟨ju_fits hk, by have := co.le; show gs.length ≤ 900; omega, cp k hk, co.ok, co.n9, w1, w2, w3⟩
end
end
theorem sz_all : SzAll := fun gs b co bk => by
  obtain ⟨d, B⟩ := bd_of bk
  exact ⟨⟨B.b0, B.b1⟩, sz_of co B, fun cs ch => sc_of co B ch⟩
end AC
end
open PySem PySem.W PyProof.Rows in
set_option maxRecDepth 100000 in
set_option maxHeartbeats 0 in
theorem PySem.Challenge.cw_anycompany_k71_whole_losses_of_choices_holds : PySem.Challenge.rw_anycompany_k71_whole_losses_of_choices.Holds := by
  w_on; o_law; k_head; (case hw => w_witness2)
  k_fill
  refine AC.walk (l := PySem.Challenge.rw_anycompany_k71_whole_losses_of_choices) AC.sz_all rfl rfl rfl (fun w h Y => PySem.W.kIn_of Y) ?F
  case F =>
    intro w mg fa h KX G
    refine' AC.Tops.mk ?g8 ?g9 ?g10 ?g11 ?g12 ?g13 ?g14 ?g16 ?g17 ?g18 ?g22 ?g23 ?g24 ?g26 ?g27 ?g31 ?g33 ?g34 ?g35 ?g36 ?g37 ?g44 ?g46 ?g48 ?g53 ?g56 ?g55 ?g54 ?g57 ?g58 ?g60 ?g62 ?g63 ?g64 ?g65 ?g66 ?g67 ?g68 ?g69 ?g70 ?g71 ?g61 ?g72 ?g73 ?g74 ?g75 ?g80 ?g76 ?g78 ?g79 ?g77 ?g81 ?g82 ?g49 ?m_abs ?m_bool ?m_int ?m_isinstance ?m_len ?m_list ?m_range ?m_sorted ?m_sum ?m_tuple ?m_zip ?m_gcd ?z_ONE_knots ?z_ONE_leaving ?z_ONE_stationary ?z_ZERO_knots ?z_ZERO_leaving ?z_ZERO_stationary ?cur
    case g8 =>
      refine' AC.got_mk KX G AC.b_8 ?a ?l ?c ?k
      (case a => k_is)
      (case l => k_is)
      (case c => k_is)
      (case k => k_is)
    case g9 =>
      refine' AC.got_mk KX G AC.b_9 ?a ?l ?c ?k
      (case a => k_is)
      (case l => k_is)
      (case c => k_is)
      (case k => k_is)
    case g10 =>
      refine' AC.got_mk KX G AC.b_10 ?a ?l ?c ?k
      (case a => k_is)
      (case l => k_is)
      (case c => k_is)
      (case k => k_is)
    case g11 =>
      refine' AC.got_mk KX G AC.b_11 ?a ?l ?c ?k
      (case a => k_is)
      (case l => k_is)
      (case c => k_is)
      (case k => k_is)
    case g12 =>
      refine' AC.got_mk KX G AC.b_12 ?a ?l ?c ?k
      (case a => k_is)
      (case l => k_is)
      (case c => k_is)
      (case k => k_is)
    case g13 =>
      refine' AC.got_mk KX G AC.b_13 ?a ?l ?c ?k
      (case a => k_is)
      (case l => k_is)
      (case c => k_is)
      (case k => k_is)
    case g14 =>
      refine' AC.got_mk KX G AC.b_14 ?a ?l ?c ?k
      (case a => k_is)
      (case l => k_is)
      (case c => k_is)
      (case k => k_is)
    case g16 =>
      refine' AC.got_mk KX G AC.b_16 ?a ?l ?c ?k
      (case a => k_is)
      (case l => k_is)
      (case c => k_is)
      (case k => k_is)
    case g17 =>
      refine' AC.got_mk KX G AC.b_17 ?a ?l ?c ?k
      (case a => k_is)
      (case l => k_is)
      (case c => k_is)
      (case k => k_is)
    case g18 =>
      refine' AC.got_mk KX G AC.b_18 ?a ?l ?c ?k
      (case a => k_is)
      (case l => k_is)
      (case c => k_is)
      (case k => k_is)
    case g22 =>
      refine' AC.got_mk KX G AC.b_22 ?a ?l ?c ?k
      (case a => k_is)
      (case l => k_is)
      (case c => k_is)
      (case k => k_is)
    case g23 =>
      refine' AC.got_mk KX G AC.b_23 ?a ?l ?c ?k
      (case a => k_is)
      (case l => k_is)
      (case c => k_is)
      (case k => k_is)
    case g24 =>
      refine' AC.got_mk KX G AC.b_24 ?a ?l ?c ?k
      (case a => k_is)
      (case l => k_is)
      (case c => k_is)
      (case k => k_is)
    case g26 =>
      refine' AC.got_mk KX G AC.b_26 ?a ?l ?c ?k
      (case a => k_is)
      (case l => k_is)
      (case c => k_is)
      (case k => k_is)
    case g27 =>
      refine' AC.got_mk KX G AC.b_27 ?a ?l ?c ?k
      (case a => k_is)
      (case l => k_is)
      (case c => k_is)
      (case k => k_is)
    case g31 =>
      refine' AC.got_mk KX G AC.b_31 ?a ?l ?c ?k
      (case a => k_is)
      (case l => k_is)
      (case c => k_is)
      (case k => k_is)
    case g33 =>
      refine' AC.got_mk KX G AC.b_33 ?a ?l ?c ?k
      (case a => k_is)
      (case l => k_is)
      (case c => k_is)
      (case k => k_is)
    case g34 =>
      refine' AC.got_mk KX G AC.b_34 ?a ?l ?c ?k
      (case a => k_is)
      (case l => k_is)
      (case c => k_is)
      (case k => k_is)
    case g35 =>
      refine' AC.got_mk KX G AC.b_35 ?a ?l ?c ?k
      (case a => k_is)
      (case l => k_is)
      (case c => k_is)
      (case k => k_is)
    case g36 =>
      refine' AC.got_mk KX G AC.b_36 ?a ?l ?c ?k
      (case a => k_is)
      (case l => k_is)
      (case c => k_is)
      (case k => k_is)
    case g37 =>
      refine' AC.got_mk KX G AC.b_37 ?a ?l ?c ?k
      (case a => k_is)
      (case l => k_is)
      (case c => k_is)
      (case k => k_is)
    case g44 =>
      refine' AC.got_mk KX G AC.b_44 ?a ?l ?c ?k
      (case a => k_is)
      (case l => k_is)
      (case c => k_is)
      (case k => k_is)
    case g46 =>
      refine' AC.got_mk KX G AC.b_46 ?a ?l ?c ?k
      (case a => k_is)
      (case l => k_is)
      (case c => k_is)
      (case k => k_is)
    case g48 =>
      refine' AC.got_mk KX G AC.b_48 ?a ?l ?c ?k
      (case a => k_is)
      (case l => k_is)
      (case c => k_is)
      (case k => k_is)
    case g53 =>
      refine' AC.got_mk KX G AC.b_53 ?a ?l ?c ?k
      (case a => k_is)
      (case l => k_is)
      (case c => k_is)
      (case k => k_is)
    case g56 =>
      refine' AC.got_mk KX G AC.b_56 ?a ?l ?c ?k
      (case a => k_is)
      (case l => k_is)
      (case c => k_is)
      (case k => k_is)
    case g55 =>
      refine' AC.got_mk KX G AC.b_55 ?a ?l ?c ?k
      (case a => k_is)
      (case l => k_is)
      (case c => k_is)
      (case k => k_is)
    case g54 =>
      refine' AC.got_mk KX G AC.b_54 ?a ?l ?c ?k
      (case a => k_is)
      (case l => k_is)
      (case c => k_is)
      (case k => k_is)
    case g57 =>
      refine' AC.got_mk KX G AC.b_57 ?a ?l ?c ?k
      (case a => k_is)
      (case l => k_is)
      (case c => k_is)
      (case k => k_is)
    case g58 =>
      refine' AC.got_mk KX G AC.b_58 ?a ?l ?c ?k
      (case a => k_is)
      (case l => k_is)
      (case c => k_is)
      (case k => k_is)
    case g60 =>
      refine' AC.got_mk KX G AC.b_60 ?a ?l ?c ?k
      (case a => k_is)
      (case l => k_is)
      (case c => k_is)
      (case k => k_is)
    case g62 =>
      refine' AC.got_mk KX G AC.b_62 ?a ?l ?c ?k
      (case a => k_is)
      (case l => k_is)
      (case c => k_is)
      (case k => k_is)
    case g63 =>
      refine' AC.got_mk KX G AC.b_63 ?a ?l ?c ?k
      (case a => k_is)
      (case l => k_is)
      (case c => k_is)
      (case k => k_is)
    case g64 =>
      refine' AC.got_mk KX G AC.b_64 ?a ?l ?c ?k
      (case a => k_is)
      (case l => k_is)
      (case c => k_is)
      (case k => k_is)
    case g65 =>
      refine' AC.got_mk KX G AC.b_65 ?a ?l ?c ?k
      (case a => k_is)
      (case l => k_is)
      (case c => k_is)
      (case k => k_is)
    case g66 =>
      refine' AC.got_mk KX G AC.b_66 ?a ?l ?c ?k
      (case a => k_is)
      (case l => k_is)
      (case c => k_is)
      (case k => k_is)
    case g67 =>
      refine' AC.got_mk KX G AC.b_67 ?a ?l ?c ?k
      (case a => k_is)
      (case l => k_is)
      (case c => k_is)
      (case k => k_is)
    case g68 =>
      refine' AC.got_mk KX G AC.b_68 ?a ?l ?c ?k
      (case a => k_is)
      (case l => k_is)
      (case c => k_is)
      (case k => k_is)
    case g69 =>
      refine' AC.got_mk KX G AC.b_69 ?a ?l ?c ?k
      (case a => k_is)
      (case l => k_is)
      (case c => k_is)
      (case k => k_is)
    case g70 =>
      refine' AC.got_mk KX G AC.b_70 ?a ?l ?c ?k
      (case a => k_is)
      (case l => k_is)
      (case c => k_is)
      (case k => k_is)
    case g71 =>
      refine' AC.got_mk KX G AC.b_71 ?a ?l ?c ?k
      (case a => k_is)
      (case l => k_is)
      (case c => k_is)
      (case k => k_is)
    case g61 =>
      refine' AC.got_mk KX G AC.b_61 ?a ?l ?c ?k
      (case a => k_is)
      (case l => k_is)
      (case c => k_is)
      (case k => k_is)
    case g72 =>
      refine' AC.got_mk KX G AC.b_72 ?a ?l ?c ?k
      (case a => k_is)
      (case l => k_is)
      (case c => k_is)
      (case k => k_is)
    case g73 =>
      refine' AC.got_mk KX G AC.b_73 ?a ?l ?c ?k
      (case a => k_is)
      (case l => k_is)
      (case c => k_is)
      (case k => k_is)
    case g74 =>
      refine' AC.got_mk KX G AC.b_74 ?a ?l ?c ?k
      (case a => k_is)
      (case l => k_is)
      (case c => k_is)
      (case k => k_is)
    case g75 =>
      refine' AC.got_mk KX G AC.b_75 ?a ?l ?c ?k
      (case a => k_is)
      (case l => k_is)
      (case c => k_is)
      (case k => k_is)
    case g80 =>
      refine' AC.got_mk KX G AC.b_80 ?a ?l ?c ?k
      (case a => k_is)
      (case l => k_is)
      (case c => k_is)
      (case k => k_is)
    case g76 =>
      refine' AC.got_mk KX G AC.b_76 ?a ?l ?c ?k
      (case a => k_is)
      (case l => k_is)
      (case c => k_is)
      (case k => k_is)
    case g78 =>
      refine' AC.got_mk KX G AC.b_78 ?a ?l ?c ?k
      (case a => k_is)
      (case l => k_is)
      (case c => k_is)
      (case k => k_is)
    case g79 =>
      refine' AC.got_mk KX G AC.b_79 ?a ?l ?c ?k
      (case a => k_is)
      (case l => k_is)
      (case c => k_is)
      (case k => k_is)
    case g77 =>
      refine' AC.got_mk KX G AC.b_77 ?a ?l ?c ?k
      (case a => k_is)
      (case l => k_is)
      (case c => k_is)
      (case k => k_is)
    case g81 =>
      refine' AC.got_mk KX G AC.b_81 ?a ?l ?c ?k
      (case a => k_is)
      (case l => k_is)
      (case c => k_is)
      (case k => k_is)
    case g82 =>
      refine' AC.got_mk KX G AC.b_82 ?a ?l ?c ?k
      (case a => k_is)
      (case l => k_is)
      (case c => k_is)
      (case k => k_is)
    case g49 =>
      refine' AC.gotD_mk KX G ?a ?l ?c ?k ?d
      (case a => k_is)
      (case l => k_is)
      (case c => k_is)
      (case k => k_is)
      (case d => k_is)
    case m_abs => refine' PySem.W.mg_none_of KX G ?z; (case z => k_is)
    case m_bool => refine' PySem.W.mg_none_of KX G ?z; (case z => k_is)
    case m_int => refine' PySem.W.mg_none_of KX G ?z; (case z => k_is)
    case m_isinstance => refine' PySem.W.mg_none_of KX G ?z; (case z => k_is)
    case m_len => refine' PySem.W.mg_none_of KX G ?z; (case z => k_is)
    case m_list => refine' PySem.W.mg_none_of KX G ?z; (case z => k_is)
    case m_range => refine' PySem.W.mg_none_of KX G ?z; (case z => k_is)
    case m_sorted => refine' PySem.W.mg_none_of KX G ?z; (case z => k_is)
    case m_sum => refine' PySem.W.mg_none_of KX G ?z; (case z => k_is)
    case m_tuple => refine' PySem.W.mg_none_of KX G ?z; (case z => k_is)
    case m_zip => refine' PySem.W.mg_none_of KX G ?z; (case z => k_is)
    case m_gcd => refine' PySem.W.mg_of KX G ?z; (case z => k_is)
    case z_ONE_knots =>
      refine' AC.z_mk KX G rfl rfl AC.ok_one ?a ?l
      (case a => k_is)
      (case l => k_is)
    case z_ONE_leaving =>
      refine' AC.z_mk KX G rfl rfl AC.ok_one ?a ?l
      (case a => k_is)
      (case l => k_is)
    case z_ONE_stationary =>
      refine' AC.z_mk KX G rfl rfl AC.ok_one ?a ?l
      (case a => k_is)
      (case l => k_is)
    case z_ZERO_knots =>
      refine' AC.z_mk KX G rfl rfl AC.ok_zero ?a ?l
      (case a => k_is)
      (case l => k_is)
    case z_ZERO_leaving =>
      refine' AC.z_mk KX G rfl rfl AC.ok_zero ?a ?l
      (case a => k_is)
      (case l => k_is)
    case z_ZERO_stationary =>
      refine' AC.z_mk KX G rfl rfl AC.ok_zero ?a ?l
      (case a => k_is)
      (case l => k_is)
    case cur =>
      refine' AC.cur_mk KX G ?aC ?pg ?hd ?po ?sa ?nk ?mk ?kc ?a1 ?i1 ?l1 ?c1 ?k1 ?fp ?gp ?tp ?rp ?l2 ?c2 ?k2 ?sf ?a3 ?i3 ?l3 ?c3 ?k3
      (case aC => k_is)
      (case pg => k_is)
      (case hd => k_is)
      (case po => k_is)
      (case sa => k_is)
      (case nk => k_is)
      (case mk => k_is)
      (case kc => k_is)
      (case a1 => k_is)
      (case i1 => k_is)
      (case l1 => k_is)
      (case c1 => k_is)
      (case k1 => k_is)
      (case fp => k_is)
      (case gp => k_is)
      (case tp => k_is)
      (case rp => k_is)
      (case l2 => k_is)
      (case c2 => k_is)
      (case k2 => k_is)
      (case sf => k_is)
      (case a3 => k_is)
      (case i3 => k_is)
      (case l3 => k_is)
      (case c3 => k_is)
      (case k3 => k_is)

