import PyProof.Rows.All
import Wide.All
import OpenK.AllK
import Wide.FinOn
import HandS.ForMost
import HandS.WideBits
import HandS.Gcd
import HandS.TupAny
import HandS.SortInts
import HandS.IsInst
import HandS.DictComp
import HandS.DictTup
import HandS.Property
import HandS.Defaults
import HandS.EndBits
import PySem.Challenge.RW_anycompany_k70_whole_improvement_never_l
set_option Elab.async false
set_option linter.all false
set_option maxRecDepth 100000
set_option linter.all false
/-! MA: finite sums of rationals, expectations, the greatest-value argument -/
namespace MA
/-- the sum of f i for i below n -/
def S : Nat → (Nat → Rat) → Rat
  | 0, _ => 0
  | n + 1, f => S n f + f n
theorem S_congr : ∀ {n : Nat} {f h : Nat → Rat}, (∀ i, i < n → f i = h i) → S n f = S n h
  | 0, _, _, _ => rfl
  | n + 1, f, h, e => by
    show S n f + f n = S n h + h n
    rw [S_congr (fun i hi => e i (by omega)), e n (by omega)]
theorem S_zero : ∀ {n : Nat} {f : Nat → Rat}, (∀ i, i < n → f i = 0) → S n f = 0
  | 0, _, _ => rfl
  | n + 1, f, e => by
    show S n f + f n = 0
    rw [S_zero (fun i hi => e i (by omega)), e n (by omega)]
    grind
theorem S_add : ∀ (n : Nat) (f h : Nat → Rat), S n (fun i => f i + h i) = S n f + S n h
  | 0, _, _ => by simp only [S]; grind
  | n + 1, f, h => by simp only [S]; rw [S_add n f h]; grind
theorem S_sub : ∀ (n : Nat) (f h : Nat → Rat), S n (fun i => f i - h i) = S n f - S n h
  | 0, _, _ => by simp only [S]; grind
  | n + 1, f, h => by simp only [S]; rw [S_sub n f h]; grind
theorem S_mul : ∀ (n : Nat) (c : Rat) (f : Nat → Rat), S n (fun i => c * f i) = c * S n f
  | 0, _, _ => by simp only [S]; grind
  | n + 1, c, f => by simp only [S]; rw [S_mul n c f]; grind
theorem S_mulr (n : Nat) (c : Rat) (f : Nat → Rat) : S n (fun i => f i * c) = S n f * c := by
  rw [S_congr (h := fun i => c * f i) (fun i _ => by grind), S_mul]; grind
theorem S_le : ∀ {n : Nat} {f h : Nat → Rat}, (∀ i, i < n → f i ≤ h i) → S n f ≤ S n h
  | 0, _, _, _ => by simp only [S]; grind
  | n + 1, f, h, e => by
    have a := S_le (n := n) (f := f) (h := h) (fun i hi => e i (by omega))
    have b := e n (by omega)
    simp only [S]; grind
theorem S_nonneg {n : Nat} {f : Nat → Rat} (e : ∀ i, i < n → 0 ≤ f i) : 0 ≤ S n f := by
  have := S_le (n := n) (f := fun _ => 0) (h := f) e
  rw [S_zero (fun _ _ => rfl)] at this
  exact this
theorem S_swap : ∀ (n m : Nat) (f : Nat → Nat → Rat), S n (fun i => S m (fun j => f i j)) = S m (fun j => S n (fun i => f i j))
  | 0, m, f => by simp only [S]; rw [S_zero (fun _ _ => rfl)]
  | n + 1, m, f => by
    simp only [S]
    rw [S_swap n m f, ← S_add]
/-- one term alone -/
theorem S_one : ∀ {n : Nat} {f : Nat → Rat} (k : Nat), k < n → (∀ i, i < n → i ≠ k → f i = 0) → S n f = f k
  | 0, _, _, h, _ => by omega
  | n + 1, f, k, h, e => by
    simp only [S]
    by_cases hk : k = n
    · subst hk
      rw [S_zero (fun i hi => e i (by omega) (by omega))]; grind
    · rw [S_one k (by omega) (fun i hi hne => e i (by omega) hne), e n (by omega) (Ne.symm hk)]; grind
theorem S_pos_zero : ∀ {n : Nat} {f : Nat → Rat}, (∀ i, i < n → 0 ≤ f i) → S n f ≤ 0 → ∀ i, i < n → f i = 0
  | 0, _, _, _ => fun i h => by omega
  | n + 1, f, e, h => by
    have a := S_nonneg (n := n) (f := f) (fun i hi => e i (by omega))
    have b := e n (by omega)
    simp only [S] at h
    have ih := S_pos_zero (n := n) (f := f) (fun i hi => e i (by omega)) (by grind)
    intro i hi
    by_cases hk : i = n
    · subst hk; grind
    · exact ih i (by omega)
theorem S_append : ∀ (n m : Nat) (f : Nat → Rat), S (n + m) f = S n f + S m (fun i => f (n + i))
  | n, 0, f => by simp only [S, Nat.add_zero]; grind
  | n, m + 1, f => by
    show S (n + m) f + f (n + m) = _
    rw [S_append n m f]; simp only [S]; grind

/-- absolute value -/
def ab (x : Rat) : Rat := if 0 ≤ x then x else -x
theorem ab_nn (x : Rat) : 0 ≤ ab x := by unfold ab; split <;> grind
theorem ab_le (x : Rat) : x ≤ ab x := by unfold ab; split <;> grind
theorem ab_neg (x : Rat) : -x ≤ ab x := by unfold ab; split <;> grind
theorem ab_zero {x : Rat} (h : ab x = 0) : x = 0 := by unfold ab at h; split at h <;> grind
theorem ab_of {x c : Rat} (h1 : x ≤ c) (h2 : -x ≤ c) : ab x ≤ c := by unfold ab; split <;> grind
theorem ab_mul_nn (x : Rat) {y : Rat} (h : 0 ≤ y) : ab (x * y) = ab x * y := by
  unfold ab
  by_cases hx : 0 ≤ x
  · rw [if_pos hx, if_pos (Rat.mul_nonneg hx h)]
  · rw [if_neg hx]
    split
    · rename_i h2
      have : 0 ≤ (-x) * y := Rat.mul_nonneg (by grind) h
      grind
    · grind
theorem ab_S : ∀ (n : Nat) (f : Nat → Rat), ab (S n f) ≤ S n (fun i => ab (f i))
  | 0, _ => by simp only [S]; unfold ab; split <;> grind
  | n + 1, f => by
    simp only [S]
    have h := ab_S n f
    have h1 := ab_le (S n f); have h2 := ab_neg (S n f)
    have h3 := ab_le (f n); have h4 := ab_neg (f n)
    exact ab_of (by grind) (by grind)

/-- no row combination of I - b P vanishes but the zero one -/
theorem noDep {n : Nat} {P : Nat → Nat → Rat} {b : Rat} {y : Nat → Rat} (hb0 : 0 ≤ b) (hb1 : b < 1) (hP : ∀ s c, s < n → c < n → 0 ≤ P s c) (hs : ∀ s, s < n → S n (P s) ≤ 1)
    (e : ∀ c, c < n → y c = b * S n (fun s => y s * P s c)) : ∀ i, i < n → y i = 0 := by
  have h1 : S n (fun c => ab (y c)) ≤ b * S n (fun s => ab (y s)) := by
    have h2 : S n (fun c => ab (y c)) ≤ S n (fun c => b * S n (fun s => ab (y s) * P s c)) := S_le fun c hc => by
      have h3 : ab (y c) = ab (S n (fun s => y s * P s c)) * b := by
        rw [← ab_mul_nn _ hb0, Rat.mul_comm, ← e c hc]
      have h4 := ab_S n (fun s => y s * P s c)
      have h5 : S n (fun i => ab (y i * P i c)) = S n (fun s => ab (y s) * P s c) := S_congr fun s hs => ab_mul_nn _ (hP s c hs hc)
      rw [h5] at h4
      rw [h3, Rat.mul_comm b]
      exact Rat.mul_le_mul_of_nonneg_right h4 hb0
    rw [S_mul, S_swap] at h2
    have h6 : S n (fun j => S n (fun i => ab (y j) * P j i)) ≤ S n (fun s => ab (y s)) := S_le fun s hs' => by
      rw [S_mul]
      have h7 := Rat.mul_le_mul_of_nonneg_left (hs s hs') (ab_nn (y s))
      rw [Rat.mul_one] at h7
      exact h7
    exact Rat.le_trans h2 (Rat.mul_le_mul_of_nonneg_left h6 hb0)
  have h8 : 0 ≤ S n (fun c => ab (y c)) := S_nonneg fun i _ => ab_nn _
  have h9 : S n (fun c => ab (y c)) ≤ 0 := by
    have h10 : (1 - b) * S n (fun c => ab (y c)) ≤ 0 := by grind
    by_cases h11 : S n (fun c => ab (y c)) ≤ 0
    · exact h11
    · have h12 : 0 < (1 - b) * S n (fun c => ab (y c)) := Rat.mul_pos (by grind) (by grind)
      grind
  exact fun i hi => ab_zero (S_pos_zero (fun i _ => ab_nn _) h9 i hi)

/-- expectation of x over a row of pairs (target, probability) -/
def ex : List (Nat × Rat) → (Nat → Rat) → Rat
  | [], _ => 0
  | (t, q) :: r, x => q * x t + ex r x
/-- a row of moves within n states -/
structure Row (n : Nat) (r : List (Nat × Rat)) : Prop where
  lt : ∀ p ∈ r, p.1 < n
  nn : ∀ p ∈ r, 0 ≤ p.2
  one : ex r (fun _ => 1) = 1
theorem ex_congr : ∀ {r : List (Nat × Rat)} {x y : Nat → Rat}, (∀ p ∈ r, x p.1 = y p.1) → ex r x = ex r y
  | [], _, _, _ => rfl
  | (t, q) :: r, x, y, e => by
    simp only [ex]
    rw [e (t, q) (List.mem_cons_self), ex_congr (fun p hp => e p (List.mem_cons_of_mem _ hp))]
theorem ex_add : ∀ (r : List (Nat × Rat)) (x y : Nat → Rat), ex r (fun t => x t + y t) = ex r x + ex r y
  | [], _, _ => by simp only [ex]; grind
  | (t, q) :: r, x, y => by simp only [ex]; rw [ex_add r x y]; grind
theorem ex_sub : ∀ (r : List (Nat × Rat)) (x y : Nat → Rat), ex r (fun t => x t - y t) = ex r x - ex r y
  | [], _, _ => by simp only [ex]; grind
  | (t, q) :: r, x, y => by simp only [ex]; rw [ex_sub r x y]; grind
theorem ex_mul : ∀ (r : List (Nat × Rat)) (c : Rat) (x : Nat → Rat), ex r (fun t => c * x t) = c * ex r x
  | [], _, _ => by simp only [ex]; grind
  | (t, q) :: r, c, x => by simp only [ex]; rw [ex_mul r c x]; grind
theorem ex_mulr (r : List (Nat × Rat)) (c : Rat) (x : Nat → Rat) : ex r (fun t => x t * c) = ex r x * c := by
  rw [ex_congr (y := fun t => c * x t) (fun p _ => by grind), ex_mul]; grind
theorem ex_le : ∀ {r : List (Nat × Rat)} {x y : Nat → Rat}, (∀ p ∈ r, 0 ≤ p.2) → (∀ p ∈ r, x p.1 ≤ y p.1) → ex r x ≤ ex r y
  | [], _, _, _, _ => by simp only [ex]; grind
  | (t, q) :: r, x, y, h, e => by
    have a := ex_le (r := r) (x := x) (y := y) (fun p hp => h p (List.mem_cons_of_mem _ hp)) (fun p hp => e p (List.mem_cons_of_mem _ hp))
    have b := Rat.mul_le_mul_of_nonneg_left (e (t, q) List.mem_cons_self) (h (t, q) List.mem_cons_self)
    simp only [ex]; grind
theorem ex_const (r : List (Nat × Rat)) (c : Rat) : ex r (fun _ => c) = ex r (fun _ => 1) * c := by
  rw [← ex_mulr]; exact ex_congr fun _ _ => by grind
theorem Row.const {n : Nat} {r : List (Nat × Rat)} (R : Row n r) (c : Rat) : ex r (fun _ => c) = c := by
  rw [ex_const, R.one]; grind
theorem Row.le {n : Nat} {r : List (Nat × Rat)} (R : Row n r) {x y : Nat → Rat} (h : ∀ t, t < n → x t ≤ y t) : ex r x ≤ ex r y := ex_le R.nn fun p hp => h _ (R.lt p hp)
theorem Row.congr {n : Nat} {r : List (Nat × Rat)} (R : Row n r) {x y : Nat → Rat} (h : ∀ t, t < n → x t = y t) : ex r x = ex r y := ex_congr fun p hp => h _ (R.lt p hp)
theorem Row.le_const {n : Nat} {r : List (Nat × Rat)} (R : Row n r) {x : Nat → Rat} {c : Rat} (h : ∀ t, t < n → x t ≤ c) : ex r x ≤ c := by
  have := R.le (y := fun _ => c) h
  rw [R.const] at this
  exact this
theorem Row.ge_const {n : Nat} {r : List (Nat × Rat)} (R : Row n r) {x : Nat → Rat} {c : Rat} (h : ∀ t, t < n → c ≤ x t) : c ≤ ex r x := by
  have := R.le (x := fun _ => c) h
  rw [R.const] at this
  exact this
/-- a greatest value -/
theorem exists_max : ∀ (n : Nat) (x : Nat → Rat), ∃ m, m ≤ n ∧ ∀ i, i ≤ n → x i ≤ x m
  | 0, x => ⟨0, Nat.le_refl _, fun i hi => by
    have : i = 0 := by omega
    rw [this]; exact Rat.le_refl⟩
  | n + 1, x => by
    obtain ⟨m, hm, h⟩ := exists_max n x
    by_cases hc : x m ≤ x (n + 1)
    · refine ⟨n + 1, Nat.le_refl _, fun i hi => ?_⟩
      by_cases e : i = n + 1
      · rw [e]; exact Rat.le_refl
      · exact Rat.le_trans (h i (by omega)) hc
    · refine ⟨m, by omega, fun i hi => ?_⟩
      by_cases e : i = n + 1
      · rw [e]; grind
      · exact h i (by omega)
/-- the greatest-value argument -/
theorem maxPrin {n : Nat} {x : Nat → Rat} {b : Rat} (hb0 : 0 ≤ b) (hb1 : b < 1) (h : ∀ i, i < n → x i ≤ 0 ∨ ∃ r, Row n r ∧ x i ≤ b * ex r x) : ∀ i, i < n → x i ≤ 0 := by
  intro i hi
  obtain ⟨m, hm, hx⟩ := exists_max (n - 1) x
  have hmn : m < n := by omega
  have him : x i ≤ x m := hx i (by omega)
  rcases h m hmn with h0 | ⟨r, R, h1⟩
  · exact Rat.le_trans him h0
  · have h2 : ex r x ≤ x m := R.le_const fun t ht => hx t (by omega)
    have h3 : b * ex r x ≤ b * x m := Rat.mul_le_mul_of_nonneg_left h2 hb0
    have h4 : (1 - b) * x m ≤ 0 := by grind
    by_cases h5 : x m ≤ 0
    · exact Rat.le_trans him h5
    · have : 0 < (1 - b) * x m := Rat.mul_pos (by grind) (by grind)
      grind
/-- two solutions are one -/
theorem uniq {n : Nat} {x y : Nat → Rat} {b : Rat} (hb0 : 0 ≤ b) (hb1 : b < 1) (h : ∀ i, i < n → x i = y i ∨ ∃ r c, Row n r ∧ x i = c + b * ex r x ∧ y i = c + b * ex r y) : ∀ i, i < n → x i = y i := by
  have h1 := maxPrin (n := n) (x := fun i => x i - y i) hb0 hb1 fun i hi => by
    rcases h i hi with e | ⟨r, c, R, e1, e2⟩
    · exact .inl (by rw [e]; grind)
    · refine .inr ⟨r, R, ?_⟩
      rw [ex_sub, e1, e2]; grind
  have h2 := maxPrin (n := n) (x := fun i => y i - x i) hb0 hb1 fun i hi => by
    rcases h i hi with e | ⟨r, c, R, e1, e2⟩
    · exact .inl (by rw [e]; grind)
    · refine .inr ⟨r, R, ?_⟩
      rw [ex_sub, e1, e2]; grind
  intro i hi
  have a := h1 i hi
  have b := h2 i hi
  grind
end MA
set_option linter.all false
/-! MB: tables of choices over abstract joint states: the law's conclusions -/
namespace MB
open MA
/-- N joint states, m positions: rewards ρ, rows T, discount b -/
structure Mdp where
  N : Nat
  m : Nat
  b : Rat
  ρ : Nat → Nat → Rat
  T : Nat → Nat → List (Nat × Rat)
structure Mdp.Ok (D : Mdp) : Prop where
  b0 : 0 ≤ D.b
  b1 : D.b < 1
  m0 : 0 < D.m
  row : ∀ k i, k < D.N → i < D.m → Row D.N (D.T k i)
def Mdp.pl (D : Mdp) (W : Nat → Rat) (k i : Nat) : Rat := D.ρ k i + D.b * ex (D.T k i) W
def Mdp.Fol (D : Mdp) (c : Nat → Nat) (W : Nat → Rat) : Prop := ∀ k, k < D.N → c k < D.m ∧ W k = D.pl W k (c k)
def Mdp.Best (D : Mdp) (W : Nat → Rat) : Prop := ∀ k, k < D.N → (∃ i, i < D.m ∧ W k = D.pl W k i) ∧ ∀ i, i < D.m → D.pl W k i ≤ W k
/-- the choice behind one improvement -/
def Mdp.Impr (D : Mdp) (W : Nat → Rat) (c c' : Nat → Nat) : Prop := ∀ k, k < D.N → c' k < D.m ∧ (∀ i, i < D.m → D.pl W k i ≤ D.pl W k (c' k)) ∧ (c' k ≠ c k → D.pl W k (c k) < D.pl W k (c' k))
variable {D : Mdp}
theorem pl_sub (W U : Nat → Rat) (k i : Nat) : D.pl W k i - D.pl U k i = D.b * ex (D.T k i) (fun t => W t - U t) := by
  unfold Mdp.pl; rw [ex_sub]; grind
theorem fol_le (O : D.Ok) {c : Nat → Nat} {V W : Nat → Rat} (hV : D.Fol c V) (hW : D.Best W) : ∀ k, k < D.N → V k ≤ W k := by
  have h := maxPrin (n := D.N) (x := fun k => V k - W k) O.b0 O.b1 fun k hk => by
    obtain ⟨h1, h2⟩ := hV k hk
    have h3 := (hW k hk).2 _ h1
    refine .inr ⟨_, O.row k (c k) hk h1, ?_⟩
    have h4 := pl_sub (D := D) V W k (c k)
    show V k - W k ≤ D.b * ex (D.T k (c k)) (fun t => V t - W t)
    grind
  intro k hk
  have := h k hk
  grind
theorem impr_le (O : D.Ok) {c c' : Nat → Nat} {V V' : Nat → Rat} (hV : D.Fol c V) (hV' : D.Fol c' V') (hI : D.Impr V c c') : ∀ k, k < D.N → V k ≤ V' k := by
  have h := maxPrin (n := D.N) (x := fun k => V k - V' k) O.b0 O.b1 fun k hk => by
    obtain ⟨h1, h2⟩ := hV k hk
    obtain ⟨h3, h4⟩ := hV' k hk
    have h5 := (hI k hk).2.1 _ h1
    refine .inr ⟨_, O.row k (c' k) hk h3, ?_⟩
    have h6 := pl_sub (D := D) V V' k (c' k)
    show V k - V' k ≤ D.b * ex (D.T k (c' k)) (fun t => V t - V' t)
    grind
  intro k hk
  have := h k hk
  grind
theorem impr_lt (O : D.Ok) {c c' : Nat → Nat} {V V' : Nat → Rat} (hV : D.Fol c V) (hV' : D.Fol c' V') (hI : D.Impr V c c') : ∀ k, k < D.N → c' k ≠ c k → V k < V' k := by
  intro k hk hne
  have hle := impr_le O hV hV' hI
  obtain ⟨h1, h2⟩ := hV k hk
  obtain ⟨h3, h4⟩ := hV' k hk
  have h5 := (hI k hk).2.2 hne
  have h6 : D.pl V k (c' k) ≤ D.pl V' k (c' k) := by
    have := Rat.mul_le_mul_of_nonneg_left ((O.row k (c' k) hk h3).le hle) O.b0
    unfold Mdp.pl; grind
  grind
theorem same_best (O : D.Ok) {c c' : Nat → Nat} {V W : Nat → Rat} (hV : D.Fol c V) (hW : D.Best W) (hI : D.Impr V c c') (he : ∀ k, k < D.N → c' k = c k) : ∀ k, k < D.N → V k = W k := by
  have h := maxPrin (n := D.N) (x := fun k => W k - V k) O.b0 O.b1 fun k hk => by
    obtain ⟨⟨i, hi, e⟩, _⟩ := hW k hk
    have h1 := (hI k hk).2.1 i hi
    rw [he k hk, ← (hV k hk).2] at h1
    refine .inr ⟨_, O.row k i hk hi, ?_⟩
    have h6 := pl_sub (D := D) W V k i
    show W k - V k ≤ D.b * ex (D.T k i) (fun t => W t - V t)
    grind
  have h2 := fol_le O hV hW
  intro k hk
  have := h k hk
  have := h2 k hk
  grind
theorem best_same (O : D.Ok) {c c' : Nat → Nat} {V W : Nat → Rat} (hV : D.Fol c V) (hW : D.Best W) (hI : D.Impr V c c') (he : ∀ k, k < D.N → V k = W k) : ∀ k, k < D.N → c' k = c k := by
  intro k hk
  by_cases hc : c' k = c k
  · exact hc
  · have h1 := (hI k hk).2.2 hc
    have h2 := (hI k hk).1
    have h3 : D.pl V k (c' k) = D.pl W k (c' k) := by
      unfold Mdp.pl
      rw [(O.row k (c' k) hk h2).congr he]
    have h4 := (hW k hk).2 _ h2
    have h5 := (hV k hk).2
    have h6 := he k hk
    grind
end MB
set_option linter.all false
/-! MC: distributions as lists of (mass, amount); the operator f ↦ E f (max m X); the product formula's two halves -/
namespace MC
open MA
def mx (a b : Rat) : Rat := if a ≤ b then b else a
theorem mx_comm (a b : Rat) : mx a b = mx b a := by unfold mx; split <;> split <;> grind
theorem mx_assoc (a b c : Rat) : mx (mx a b) c = mx a (mx b c) := by unfold mx; repeat' split <;> grind
theorem mx_swap (m a b : Rat) : mx (mx m a) b = mx (mx m b) a := by rw [mx_assoc, mx_assoc, mx_comm a b]
theorem mx_r {a b : Rat} (h : a ≤ b) : mx a b = b := by unfold mx; rw [if_pos h]
theorem mx_l {a b : Rat} (h : b ≤ a) : mx a b = a := by unfold mx; split <;> grind
theorem mx_le {a b c : Rat} (h1 : a ≤ c) (h2 : b ≤ c) : mx a b ≤ c := by unfold mx; split <;> assumption
theorem le_mx_l (a b : Rat) : a ≤ mx a b := by unfold mx; split <;> grind
theorem le_mx_r (a b : Rat) : b ≤ mx a b := by unfold mx; split <;> grind
abbrev Dist := List (Rat × Rat)
def T : Dist → (Rat → Rat) → Rat → Rat
  | [], _, _ => 0
  | (q, a) :: D, f, m => q * f (mx m a) + T D f m
def mass : Dist → Rat
  | [] => 0
  | (q, _) :: D => q + mass D
structure Dist.Ok (D : Dist) : Prop where
  nn : ∀ p ∈ D, 0 ≤ p.1
  one : mass D = 1
theorem T_zero : ∀ (D : Dist) (m : Rat), T D (fun _ => 0) m = 0
  | [], _ => rfl
  | (q, a) :: D, m => by simp only [T]; rw [T_zero D m]; grind
theorem T_add : ∀ (D : Dist) (f h : Rat → Rat) (m : Rat), T D (fun y => f y + h y) m = T D f m + T D h m
  | [], _, _, _ => by simp only [T]; grind
  | (q, a) :: D, f, h, m => by simp only [T]; rw [T_add D f h m]; grind
theorem T_mul : ∀ (D : Dist) (c : Rat) (f : Rat → Rat) (m : Rat), T D (fun y => c * f y) m = c * T D f m
  | [], _, _, _ => by simp only [T]; grind
  | (q, a) :: D, c, f, m => by simp only [T]; rw [T_mul D c f m]; grind
theorem T_const : ∀ (D : Dist) (c m : Rat), T D (fun _ => c) m = mass D * c
  | [], _, _ => by simp only [T, mass]; grind
  | (q, a) :: D, c, m => by simp only [T, mass]; rw [T_const D c m]; grind
theorem T_le : ∀ {D : Dist} {f h : Rat → Rat} {m : Rat}, (∀ p ∈ D, 0 ≤ p.1) → (∀ y, f y ≤ h y) → T D f m ≤ T D h m
  | [], _, _, _, _, _ => by simp only [T]; grind
  | (q, a) :: D, f, h, m, hn, e => by
    have i := T_le (D := D) (f := f) (h := h) (m := m) (fun p hp => hn p (List.mem_cons_of_mem _ hp)) e
    have j := Rat.mul_le_mul_of_nonneg_left (e (mx m a)) (hn (q, a) List.mem_cons_self)
    simp only [T]; grind
theorem T_ext : ∀ {D : Dist} {f h : Rat → Rat} {m c : Rat}, m ≤ c → (∀ p ∈ D, p.1 ≠ 0 → p.2 ≤ c) → (∀ y, y ≤ c → f y = h y) → T D f m = T D h m
  | [], _, _, _, _, _, _, _ => rfl
  | (q, a) :: D, f, h, m, c, hm, hs, e => by
    have i := T_ext (D := D) (f := f) (h := h) (m := m) hm (fun p hp => hs p (List.mem_cons_of_mem _ hp)) e
    simp only [T]
    rw [i]
    by_cases hq : q = 0
    · rw [hq]; grind
    · rw [e (mx m a) (mx_le hm (hs (q, a) List.mem_cons_self hq))]
theorem T_comm : ∀ (D E : Dist) (f : Rat → Rat) (m : Rat), T D (T E f) m = T E (T D f) m
  | [], E, f, m => by
    show 0 = T E (fun _ => 0) m
    rw [T_zero]
  | (q, a) :: D, E, f, m => by
    have h1 : T E (T ((q, a) :: D) f) m = T E (fun y => q * f (mx y a) + T D f y) m := rfl
    rw [h1, T_add, T_mul, ← T_comm D E f m]
    show q * T E f (mx m a) + T D (T E f) m = _
    have h2 : ∀ (E : Dist) (m : Rat), T E f (mx m a) = T E (fun y => f (mx y a)) m := by
      intro E
      induction E with
      | nil => intro m; rfl
      | cons p E ih =>
        intro m
        obtain ⟨q', a'⟩ := p
        simp only [T]
        rw [ih m, mx_swap]
    rw [h2]
def TT : List Dist → (Rat → Rat) → Rat → Rat
  | [], f => f
  | D :: Ds, f => T D (TT Ds f)
theorem TT_append : ∀ (A B : List Dist) (f : Rat → Rat), TT (A ++ B) f = TT A (TT B f)
  | [], _, _ => rfl
  | D :: A, B, f => by
    show T D (TT (A ++ B) f) = T D (TT A (TT B f))
    rw [TT_append A B f]
theorem TT_T : ∀ (B : List Dist) (D : Dist) (f : Rat → Rat), T D (TT B f) = TT B (T D f)
  | [], _, _ => rfl
  | E :: B, D, f => by
    show T D (T E (TT B f)) = T E (TT B (T D f))
    rw [← TT_T B D f]
    funext m
    exact T_comm D E (TT B f) m
theorem TT_mid (A B : List Dist) (D : Dist) (f : Rat → Rat) : TT (A ++ D :: B) f = TT (A ++ B) (T D f) := by
  rw [TT_append, TT_append]
  show TT A (T D (TT B f)) = _
  rw [TT_T]
theorem TT_add : ∀ (A : List Dist) (f h : Rat → Rat) (m : Rat), TT A (fun y => f y + h y) m = TT A f m + TT A h m
  | [], _, _, _ => rfl
  | D :: A, f, h, m => by
    show T D (TT A (fun y => f y + h y)) m = T D (TT A f) m + T D (TT A h) m
    rw [← T_add]
    congr 1
    funext y
    exact TT_add A f h y
theorem TT_mul : ∀ (A : List Dist) (c : Rat) (f : Rat → Rat) (m : Rat), TT A (fun y => c * f y) m = c * TT A f m
  | [], _, _, _ => rfl
  | D :: A, c, f, m => by
    show T D (TT A (fun y => c * f y)) m = c * T D (TT A f) m
    rw [← T_mul]
    congr 1
    funext y
    exact TT_mul A c f y
theorem TT_const : ∀ (A : List Dist), (∀ D ∈ A, Dist.Ok D) → ∀ (c m : Rat), TT A (fun _ => c) m = c
  | [], _, _, _ => rfl
  | D :: A, h, c, m => by
    show T D (TT A (fun _ => c)) m = c
    have e : TT A (fun _ => c) = fun _ => c := by
      funext y
      exact TT_const A (fun E hE => h E (List.mem_cons_of_mem _ hE)) c y
    rw [e, T_const, (h D List.mem_cons_self).one]; grind
theorem TT_le : ∀ {A : List Dist}, (∀ D ∈ A, Dist.Ok D) → ∀ {f h : Rat → Rat} {m : Rat}, (∀ y, f y ≤ h y) → TT A f m ≤ TT A h m
  | [], _, _, _, _, e => e _
  | D :: A, hA, f, h, m, e => T_le (hA D List.mem_cons_self).nn fun y => TT_le (fun E hE => hA E (List.mem_cons_of_mem _ hE)) e
theorem TT_ext : ∀ {A : List Dist} {c : Rat}, (∀ D ∈ A, ∀ p ∈ D, p.1 ≠ 0 → p.2 ≤ c) → ∀ {f h : Rat → Rat} {m : Rat}, m ≤ c → (∀ y, y ≤ c → f y = h y) → TT A f m = TT A h m
  | [], _, _, _, _, _, hm, e => e _ hm
  | D :: A, c, hA, f, h, m, hm, e => T_ext hm (hA D List.mem_cons_self) fun y hy => TT_ext (fun E hE => hA E (List.mem_cons_of_mem _ hE)) hy e
/-- the expectation over a row and the operator may be exchanged -/
theorem TT_ex : ∀ (A : List Dist) (r : List (Nat × Rat)) (f : Nat → Rat → Rat) (m : Rat), TT A (fun y => ex r (fun t => f t y)) m = ex r (fun t => TT A (f t) m)
  | A, [], f, m => by
    simp only [ex]
    have h := TT_mul A 0 (fun _ => 0) m
    have e : (fun y : Rat => (0 : Rat) * (fun _ => (0 : Rat)) y) = fun _ => 0 := by funext y; grind
    rw [e] at h
    rw [h]; grind
  | A, (t, q) :: r, f, m => by
    simp only [ex]
    rw [TT_add, TT_mul, TT_ex A r f m]
/-- the gain of a company whose distributions are Ds, with stop amount m -/
def gain (Ds : List Dist) (m : Rat) : Rat := TT Ds (fun y => y) m
theorem play_eq (A B : List Dist) (hA : ∀ D ∈ A ++ B, Dist.Ok D) (r b m : Rat) (row : List (Nat × Rat)) (E : Nat → Dist) :
    r + b * ex row (fun t => gain (A ++ E t :: B) m) = TT (A ++ B) (fun y => r + b * ex row (fun t => T (E t) (fun y => y) y)) m := by
  rw [TT_add, TT_const _ hA, TT_mul, TT_ex]
  have e : ∀ t, gain (A ++ E t :: B) m = TT (A ++ B) (T (E t) (fun y => y)) m := fun t => by
    unfold gain; rw [TT_mid]
  rw [ex_congr (y := fun t => TT (A ++ B) (T (E t) (fun y => y)) m) (fun p _ => e p.1)]
theorem whittle_le {A B : List Dist} (hA : ∀ D ∈ A ++ B, Dist.Ok D) {r b m : Rat} {row : List (Nat × Rat)} {E : Nat → Dist} {D : Dist} (h : ∀ y, r + b * ex row (fun t => T (E t) (fun y => y) y) ≤ T D (fun y => y) y) :
    r + b * ex row (fun t => gain (A ++ E t :: B) m) ≤ gain (A ++ D :: B) m := by
  rw [play_eq A B hA]
  unfold gain
  rw [TT_mid]
  exact TT_le hA h
theorem whittle_eq {A B : List Dist} (hA : ∀ D ∈ A ++ B, Dist.Ok D) {r b m c : Rat} {row : List (Nat × Rat)} {E : Nat → Dist} {D : Dist} (hm : m ≤ c) (hc : ∀ D ∈ A ++ B, ∀ p ∈ D, p.1 ≠ 0 → p.2 ≤ c)
    (h : ∀ y, y ≤ c → T D (fun y => y) y = r + b * ex row (fun t => T (E t) (fun y => y) y)) :
    gain (A ++ D :: B) m = r + b * ex row (fun t => gain (A ++ E t :: B) m) := by
  rw [play_eq A B hA]
  unfold gain
  rw [TT_mid]
  exact TT_ext hc hm h
end MC
set_option linter.all false
/-! MD: the index order of one game, its states' distributions -/
namespace MD
open MA MC
/-- the data that the order leaves: sq k the k-th state, nu k its index, e k, g k the leave values with inside the first k states -/
structure Ord (n : Nat) (b : Rat) (r : Nat → Rat) (row : Nat → List (Nat × Rat)) (sq : Nat → Nat) (nu : Nat → Rat) (e g : Nat → Nat → Rat) : Prop where
  b0 : 0 ≤ b
  b1 : b < 1
  rows : ∀ s, s < n → Row n (row s)
  sqlt : ∀ k, k < n → sq k < n
  inj : ∀ j k, j < k → k < n → sq j ≠ sq k
  onto : ∀ s, s < n → ∃ j, j < n ∧ sq j = s
  inE : ∀ k s, k ≤ n → s < n → (∃ j, j < k ∧ sq j = s) → e k s = r s + b * ex (row s) (e k)
  inG : ∀ k s, k ≤ n → s < n → (∃ j, j < k ∧ sq j = s) → g k s = b * ex (row s) (g k)
  outE : ∀ k s, k ≤ n → s < n → (¬ ∃ j, j < k ∧ sq j = s) → e k s = 0
  outG : ∀ k s, k ≤ n → s < n → (¬ ∃ j, j < k ∧ sq j = s) → g k s = 1
  val : ∀ k, k < n → nu k * (1 - b * ex (row (sq k)) (g k)) = r (sq k) + b * ex (row (sq k)) (e k)
  best : ∀ k s, k < n → s < n → (¬ ∃ j, j < k ∧ sq j = s) → r s + b * ex (row s) (e k) ≤ nu k * (1 - b * ex (row s) (g k))
section
variable {n : Nat} {b : Rat} {r : Nat → Rat} {row : Nat → List (Nat × Rat)} {sq : Nat → Nat} {nu : Nat → Rat} {e g : Nat → Nat → Rat}
theorem Ord.notIn (O : Ord n b r row sq nu e g) {k : Nat} (hk : k < n) : ¬ ∃ j, j < k ∧ sq j = sq k := fun ⟨j, h1, h2⟩ => O.inj j k h1 hk h2
theorem Ord.g_nn (O : Ord n b r row sq nu e g) {k : Nat} (hk : k ≤ n) : ∀ s, s < n → 0 ≤ g k s := by
  have h := maxPrin (n := n) (x := fun s => (-1) * g k s) O.b0 O.b1 fun s hs => by
    by_cases hi : ∃ j, j < k ∧ sq j = s
    · refine .inr ⟨_, O.rows s hs, ?_⟩
      have := O.inG k s hk hs hi
      rw [ex_mul]; grind
    · have := O.outG k s hk hs hi
      exact .inl (by grind)
  intro s hs
  have := h s hs
  grind
theorem Ord.g_le (O : Ord n b r row sq nu e g) {k : Nat} (hk : k ≤ n) : ∀ s, s < n → g k s ≤ 1 := by
  have h := maxPrin (n := n) (x := fun s => g k s - 1) O.b0 O.b1 fun s hs => by
    by_cases hi : ∃ j, j < k ∧ sq j = s
    · refine .inr ⟨_, O.rows s hs, ?_⟩
      have := O.inG k s hk hs hi
      have h2 := (O.rows s hs).const (n := n) 1
      have h1 := O.b1
      rw [ex_sub, h2]; grind
    · have := O.outG k s hk hs hi
      exact .inl (by grind)
  intro s hs
  have := h s hs
  grind
/-- the factor of an excursion -/
theorem Ord.fac_le (O : Ord n b r row sq nu e g) {k s : Nat} (hk : k ≤ n) (hs : s < n) : b * ex (row s) (g k) ≤ b := by
  have h := (O.rows s hs).le_const (O.g_le hk)
  have := Rat.mul_le_mul_of_nonneg_left h O.b0
  grind
theorem Ord.fac_nn (O : Ord n b r row sq nu e g) {k s : Nat} (hk : k ≤ n) (hs : s < n) : 0 ≤ b * ex (row s) (g k) := by
  have h := (O.rows s hs).ge_const (O.g_nn hk)
  exact Rat.mul_nonneg O.b0 h
theorem Ord.fac_pos (O : Ord n b r row sq nu e g) {k s : Nat} (hk : k ≤ n) (hs : s < n) : 0 < 1 - b * ex (row s) (g k) := by
  have h := O.fac_le hk hs
  have := O.b1
  grind
theorem Ord.inS (O : Ord n b r row sq nu e g) {k s : Nat} : (∃ j, j < k + 1 ∧ sq j = s) ↔ (∃ j, j < k ∧ sq j = s) ∨ s = sq k := by
  constructor
  · rintro ⟨j, h1, h2⟩
    by_cases hj : j = k
    · exact .inr (by rw [← h2, hj])
    · exact .inl ⟨j, by omega, h2⟩
  · rintro (⟨j, h1, h2⟩ | h)
    · exact ⟨j, by omega, h2⟩
    · exact ⟨k, by omega, h.symm⟩
theorem Ord.g_desc (O : Ord n b r row sq nu e g) {k : Nat} (hk : k < n) : ∀ s, s < n → g (k + 1) s ≤ g k s := by
  have h := maxPrin (n := n) (x := fun s => g (k + 1) s - g k s) O.b0 O.b1 fun s hs => by
    by_cases hi : ∃ j, j < k + 1 ∧ sq j = s
    · have h1 := O.inG (k + 1) s (by omega) hs hi
      rcases O.inS.mp hi with hi' | rfl
      · have h2 := O.inG k s (by omega) hs hi'
        refine .inr ⟨_, O.rows s hs, ?_⟩
        rw [ex_sub]; grind
      · have h2 := O.outG k _ (by omega) hs (O.notIn hk)
        have h3 := O.fac_le (k := k + 1) (by omega) hs
        have := O.b1
        exact .inl (by grind)
    · have h1 := O.outG (k + 1) s (by omega) hs hi
      have h2 := O.outG k s (by omega) hs fun h => hi (O.inS.mpr (.inl h))
      exact .inl (by grind)
  intro s hs
  have := h s hs
  grind
theorem Ord.g_end (O : Ord n b r row sq nu e g) : ∀ s, s < n → g n s = 0 := by
  have h := maxPrin (n := n) (x := g n) O.b0 O.b1 fun s hs => by
    have := O.inG n s (Nat.le_refl _) hs (O.onto s hs)
    exact .inr ⟨_, O.rows s hs, by rw [this]; exact Rat.le_refl⟩
  intro s hs
  have := h s hs
  have := O.g_nn (Nat.le_refl n) s hs
  grind
/-- at the amount nu k it does not matter whether the k-th state is inside -/
theorem Ord.joint (O : Ord n b r row sq nu e g) {k : Nat} (hk : k < n) : ∀ s, s < n → e (k + 1) s + g (k + 1) s * nu k = e k s + g k s * nu k := by
  refine uniq (n := n) (x := fun s => e (k + 1) s + g (k + 1) s * nu k) (y := fun s => e k s + g k s * nu k) O.b0 O.b1 fun s hs => ?_
  by_cases hi : ∃ j, j < k + 1 ∧ sq j = s
  · have h1 := O.inG (k + 1) s (by omega) hs hi
    have h1' := O.inE (k + 1) s (by omega) hs hi
    rcases O.inS.mp hi with hi' | rfl
    · have h2 := O.inG k s (by omega) hs hi'
      have h2' := O.inE k s (by omega) hs hi'
      refine .inr ⟨_, r s, O.rows s hs, ?_, ?_⟩
      · rw [ex_add, ex_mulr]; grind
      · rw [ex_add, ex_mulr]; grind
    · have h2 := O.outG k _ (by omega) hs (O.notIn hk)
      have h2' := O.outE k _ (by omega) hs (O.notIn hk)
      have h3 := O.val k hk
      refine .inr ⟨_, r (sq k), O.rows _ hs, ?_, ?_⟩
      · rw [ex_add, ex_mulr]; grind
      · rw [ex_add, ex_mulr]; grind
  · have h1 := O.outG (k + 1) s (by omega) hs hi
    have h1' := O.outE (k + 1) s (by omega) hs hi
    have h2 := O.outG k s (by omega) hs fun h => hi (O.inS.mpr (.inl h))
    have h2' := O.outE k s (by omega) hs fun h => hi (O.inS.mpr (.inl h))
    exact .inl (by rw [h1, h1', h2, h2'])
theorem Ord.desc1 (O : Ord n b r row sq nu e g) {k : Nat} (hk : k + 1 < n) : nu (k + 1) ≤ nu k := by
  have hs := O.sqlt (k + 1) hk
  have hni := O.notIn hk
  have h1 := O.val (k + 1) hk
  have h2 := O.best k (sq (k + 1)) (by omega) hs fun h => hni (O.inS.mpr (.inl h))
  have h3 : ex (row (sq (k + 1))) (e (k + 1)) + ex (row (sq (k + 1))) (g (k + 1)) * nu k = ex (row (sq (k + 1))) (e k) + ex (row (sq (k + 1))) (g k) * nu k := by
    rw [← ex_mulr, ← ex_mulr, ← ex_add, ← ex_add]
    exact (O.rows _ hs).congr (O.joint (by omega))
  have h4 := O.fac_pos (k := k + 1) (s := sq (k + 1)) (by omega) hs
  generalize ex (row (sq (k + 1))) (e (k + 1)) = E1 at *
  generalize ex (row (sq (k + 1))) (g (k + 1)) = G1 at *
  generalize ex (row (sq (k + 1))) (e k) = E0 at *
  generalize ex (row (sq (k + 1))) (g k) = G0 at *
  by_cases hc : nu (k + 1) ≤ nu k
  · exact hc
  · have h5 : 0 < (nu (k + 1) - nu k) * (1 - b * G1) := Rat.mul_pos (by grind) h4
    have h6 : b * (E1 + G1 * nu k) = b * (E0 + G0 * nu k) := by rw [h3]
    grind
theorem Ord.desc (O : Ord n b r row sq nu e g) : ∀ {j k : Nat}, j ≤ k → k < n → nu k ≤ nu j
  | j, 0, h, _ => by
    have : j = 0 := by omega
    rw [this]; exact Rat.le_refl
  | j, k + 1, h, hk => by
    by_cases hj : j = k + 1
    · rw [hj]; exact Rat.le_refl
    · exact Rat.le_trans (O.desc1 hk) (O.desc (by omega) (by omega))
/-- the place of an amount among the indexes -/
theorem Ord.place (O : Ord n b r row sq nu e g) (m : Rat) : ∃ j, j ≤ n ∧ (∀ k, k < j → m ≤ nu k) ∧ (∀ k, j ≤ k → k < n → nu k ≤ m) := by
  have : ∀ d : Nat, d ≤ n → ∃ j, j ≤ d ∧ (∀ k, k < j → m ≤ nu k) ∧ (∀ k, j ≤ k → k < d → nu k ≤ m) := by
    intro d
    induction d with
    | zero => exact fun _ => ⟨0, Nat.le_refl _, fun k h => by omega, fun k _ h => by omega⟩
    | succ d ih =>
      intro hd
      obtain ⟨j, h1, h2, h3⟩ := ih (by omega)
      by_cases hm : m ≤ nu d
      · refine ⟨d + 1, Nat.le_refl _, fun k hk => ?_, fun k _ _ => by omega⟩
        exact Rat.le_trans hm (O.desc (by omega) (by omega))
      · refine ⟨j, by omega, h2, fun k hk1 hk2 => ?_⟩
        by_cases e : k = d
        · rw [e]; grind
        · exact h3 k hk1 (by omega)
  exact this n (Nat.le_refl n)
/-- the distribution of a state -/
def dist (n : Nat) (nu : Nat → Rat) (g : Nat → Nat → Rat) (s : Nat) : Dist := (List.range n).map fun k => (g k s - g (k + 1) s, nu k)
theorem T_app : ∀ (D E : Dist) (f : Rat → Rat) (m : Rat), T (D ++ E) f m = T D f m + T E f m
  | [], E, f, m => by simp only [List.nil_append, T]; grind
  | (q, a) :: D, E, f, m => by simp only [List.cons_append, T]; rw [T_app D E f m]; grind
theorem mass_app : ∀ (D E : Dist), mass (D ++ E) = mass D + mass E
  | [], E => by simp only [List.nil_append, mass]; grind
  | (q, a) :: D, E => by simp only [List.cons_append, mass]; rw [mass_app D E]; grind
theorem T_range (f : Nat → Rat × Rat) (h : Rat → Rat) (m : Rat) : ∀ n : Nat, T ((List.range n).map f) h m = S n fun k => (f k).1 * h (mx m (f k).2)
  | 0 => rfl
  | n + 1 => by
    rw [List.range_succ, List.map_append, T_app, T_range f h m n]
    simp only [List.map_cons, List.map_nil, T, S]; grind
theorem mass_range (f : Nat → Rat × Rat) : ∀ n : Nat, mass ((List.range n).map f) = S n fun k => (f k).1
  | 0 => rfl
  | n + 1 => by
    rw [List.range_succ, List.map_append, mass_app, mass_range f n]
    simp only [List.map_cons, List.map_nil, mass, S]; grind
theorem tele : ∀ (n : Nat) (x : Nat → Rat), S n (fun k => x k - x (k + 1)) = x 0 - x n
  | 0, x => by simp only [S]; grind
  | n + 1, x => by simp only [S]; rw [tele n x]; grind
theorem Ord.distOk (O : Ord n b r row sq nu e g) {s : Nat} (hs : s < n) : Dist.Ok (dist n nu g s) := by
  refine ⟨fun p hp => ?_, ?_⟩
  · obtain ⟨k, hk, rfl⟩ := List.mem_map.mp hp
    have := O.g_desc (List.mem_range.mp hk) s hs
    show 0 ≤ g k s - g (k + 1) s
    grind
  · unfold dist
    rw [mass_range, tele n (fun k => g k s), O.g_end s hs, O.outG 0 s (by omega) hs (by rintro ⟨j, h, _⟩; omega)]; grind
/-- the curve of a state at m -/
def phi (n : Nat) (nu : Nat → Rat) (g : Nat → Nat → Rat) (s : Nat) (m : Rat) : Rat := T (dist n nu g s) (fun y => y) m
theorem Ord.phi_at (O : Ord n b r row sq nu e g) {s j : Nat} (hs : s < n) (hj : j ≤ n) {m : Rat} (h1 : ∀ k, k < j → m ≤ nu k) (h2 : ∀ k, j ≤ k → k < n → nu k ≤ m) : phi n nu g s m = e j s + g j s * m := by
  unfold phi dist
  rw [T_range]
  obtain ⟨d, rfl⟩ : ∃ d, n = j + d := ⟨n - j, by omega⟩
  rw [S_append]
  have a1 : S j (fun k => (g k s - g (k + 1) s) * mx m (nu k)) = S j (fun k => -(e k s) - -(e (k + 1) s)) := S_congr fun k hk => by
    rw [mx_r (h1 k hk)]
    have := O.joint (k := k) (by omega) s hs
    grind
  have a2 : S d (fun i => (g (j + i) s - g (j + i + 1) s) * mx m (nu (j + i))) = S d (fun i => (g (j + i) s - g (j + i + 1) s) * m) := S_congr fun k hk => by
    rw [mx_l (h2 (j + k) (by omega) (by omega))]
  have a3 := tele j (fun k => -(e k s))
  have a4 := tele d (fun i => g (j + i) s)
  have a5 : S d (fun i => g (j + i) s - g (j + i + 1) s) = S d (fun k => g (j + k) s - g (j + (k + 1)) s) := S_congr fun k _ => rfl
  have a6 := O.outE 0 s (by omega) hs (by rintro ⟨j, h, _⟩; omega)
  have a7 := O.g_end s hs
  show S j (fun k => (g k s - g (k + 1) s) * mx m (nu k)) + S d (fun i => (g (j + i) s - g (j + i + 1) s) * mx m (nu (j + i))) = _
  rw [a1, a2, S_mulr, a5, a4, a3, a6, a7]
  show -0 - -e j s + (g (j + 0) s - 0) * m = _
  rw [Nat.add_zero]; grind
theorem Ord.phi_ge (O : Ord n b r row sq nu e g) {s : Nat} (hs : s < n) (m : Rat) : r s + b * ex (row s) (fun t => phi n nu g t m) ≤ phi n nu g s m := by
  obtain ⟨j, hj, h1, h2⟩ := O.place m
  rw [O.phi_at hs hj h1 h2, (O.rows s hs).congr (y := fun t => e j t + g j t * m) fun t ht => O.phi_at ht hj h1 h2, ex_add, ex_mulr]
  by_cases hi : ∃ i, i < j ∧ sq i = s
  · have a := O.inE j s hj hs hi
    have c := O.inG j s hj hs hi
    have c2 : g j s * m = b * ex (row s) (g j) * m := by rw [← c]
    have c3 : r s + b * (ex (row s) (e j) + ex (row s) (g j) * m) = e j s + g j s * m := by grind
    rw [c3]; exact Rat.le_refl
  · have a := O.outE j s hj hs hi
    have c := O.outG j s hj hs hi
    have hjn : j < n := by
      by_cases h : j = n
      · subst h; exact absurd (O.onto s hs) hi
      · omega
    have d := O.best j s hjn hs hi
    have f := O.fac_pos (k := j) (s := s) hj hs
    have h3 := Rat.mul_le_mul_of_nonneg_right (h2 j (Nat.le_refl _) hjn) (show 0 ≤ 1 - b * ex (row s) (g j) by grind)
    rw [a, c]
    clear a c h1 h2 hi
    generalize ex (row s) (e j) = E at *
    generalize ex (row s) (g j) = G at *
    grind
theorem Ord.phi_eq (O : Ord n b r row sq nu e g) {i : Nat} (hi : i < n) {m : Rat} (hm : m ≤ nu i) : phi n nu g (sq i) m = r (sq i) + b * ex (row (sq i)) (fun t => phi n nu g t m) := by
  have hs := O.sqlt i hi
  have : ∃ j, j ≤ n ∧ i < j ∧ (∀ k, k < j → m ≤ nu k) ∧ (∀ k, j ≤ k → k < n → nu k ≤ m) := by
    obtain ⟨j, hj, h1, h2⟩ := O.place m
    by_cases hij : i < j
    · exact ⟨j, hj, hij, h1, h2⟩
    · refine ⟨i + 1, by omega, by omega, fun k hk => Rat.le_trans hm (O.desc (by omega) hi), fun k hk hkn => h2 k (by omega) hkn⟩
  obtain ⟨j, hj, hij, h1, h2⟩ := this
  rw [O.phi_at hs hj h1 h2, (O.rows _ hs).congr (y := fun t => e j t + g j t * m) fun t ht => O.phi_at ht hj h1 h2, ex_add, ex_mulr]
  have a := O.inE j _ hj hs ⟨i, hij, rfl⟩
  have c := O.inG j _ hj hs ⟨i, hij, rfl⟩
  have c2 : g j (sq i) * m = b * ex (row (sq i)) (g j) * m := by rw [← c]
  grind
/-- the mass lies at amounts of at most the state's index -/
theorem Ord.top (O : Ord n b r row sq nu e g) {i : Nat} (hi : i < n) : ∀ p ∈ dist n nu g (sq i), p.1 ≠ 0 → p.2 ≤ nu i := by
  intro p hp h0
  obtain ⟨k, hk, rfl⟩ := List.mem_map.mp hp
  have hk := List.mem_range.mp hk
  by_cases hik : i ≤ k
  · exact O.desc hik hk
  · have hs := O.sqlt i hi
    have a := O.outG k _ (by omega) hs fun ⟨j, h1, h2⟩ => O.inj j i (by omega) hi h2
    have c := O.outG (k + 1) _ (by omega) hs fun ⟨j, h1, h2⟩ => O.inj j i (by omega) hi h2
    exact absurd (show g k (sq i) - g (k + 1) (sq i) = 0 by rw [a, c]; grind) h0
end
end MD
set_option linter.all false
/-! ME: the elimination, as the program does it, over lists of rationals -/
namespace ME
open MA
def gt (l : List Rat) (i : Nat) : Rat := l.getD i 0
theorem gt_of {l : List Rat} {i : Nat} {x : Rat} (h : l[i]? = some x) : gt l i = x := by unfold gt; rw [List.getD_eq_getElem?_getD, h]; rfl
theorem get_of_gt {l : List Rat} {i : Nat} (h : i < l.length) : l[i]? = some (gt l i) := by
  unfold gt; rw [List.getD_eq_getElem?_getD, List.getElem?_eq_getElem h]; rfl
theorem gt_out {l : List Rat} {i : Nat} (h : l.length ≤ i) : gt l i = 0 := by
  unfold gt; rw [List.getD_eq_getElem?_getD, List.getElem?_eq_none h]; rfl
theorem gt_app_l {l m : List Rat} {i : Nat} (h : i < l.length) : gt (l ++ m) i = gt l i := gt_of (by rw [List.getElem?_append_left h, get_of_gt h])
theorem gt_app_r {l m : List Rat} {i : Nat} : gt (l ++ m) (l.length + i) = gt m i := by
  unfold gt; rw [List.getD_eq_getElem?_getD, List.getElem?_append_right (by omega), List.getD_eq_getElem?_getD]
  congr 2; omega
theorem gt_map {f : Rat → Rat} {l : List Rat} {i : Nat} (h : i < l.length) : gt (l.map f) i = f (gt l i) := gt_of (by rw [List.getElem?_map, get_of_gt h]; rfl)
theorem gt_zip {f : Rat → Rat → Rat} {l m : List Rat} {i : Nat} (h : i < l.length) (h2 : i < m.length) : gt (List.zipWith f l m) i = f (gt l i) (gt m i) :=
  gt_of (by rw [List.getElem?_zipWith, get_of_gt h, get_of_gt h2])
theorem gt_rangemap {f : Nat → Rat} {n i : Nat} (h : i < n) : gt ((List.range n).map f) i = f i := gt_of (by rw [List.getElem?_map, List.getElem?_range h]; rfl)
theorem ext_gt {l m : List Rat} (hl : l.length = m.length) (h : ∀ i, i < l.length → gt l i = gt m i) : l = m := List.ext_getElem? fun i => by
  by_cases hi : i < l.length
  · rw [get_of_gt hi, get_of_gt (by omega), h i hi]
  · rw [List.getElem?_eq_none (by omega), List.getElem?_eq_none (by omega)]
/-- the row minus a multiple of the other one -/
def wo (row other : List Rat) (c : Nat) : List Rat := if gt row c = 0 then row else List.zipWith (fun a b => a - gt row c * b) row other
theorem wo_len {row other : List Rat} {c : Nat} (h : other.length = row.length) : (wo row other c).length = row.length := by
  unfold wo; split
  · rfl
  · rw [List.length_zipWith]; omega
theorem gt_wo {row other : List Rat} {c l : Nat} (h : other.length = row.length) (hl : l < row.length) : gt (wo row other c) l = gt row l - gt row c * gt other l := by
  unfold wo; split
  · rename_i h0; rw [h0]; grind
  · exact gt_zip hl (by omega)
def firstNZ (row : List Rat) (size : Nat) : Option Nat := (List.range size).find? fun c => decide (gt row c ≠ 0)
def unitRow (n a : Nat) : List Rat := (List.range n).map fun k => if k = a then 1 else 0
def hat (n : Nat) (M b : List (List Rat)) (i : Nat) : List Rat := M.getD i [] ++ b.getD i [] ++ unitRow n i
def red (cols : List Nat) (rows : List (List Rat)) (row : List Rat) : List Rat := (List.zip cols rows).foldl (fun r p => wo r p.2 p.1) row
def stp (n : Nat) (M b : List (List Rat)) : Nat → List Nat × List (List Rat)
  | 0 => ([], [])
  | a + 1 =>
    let st := stp n M b a
    let row1 := red st.1 st.2 (hat n M b a)
    let c := (firstNZ row1 n).getD 0
    let row2 := row1.map fun x => x / gt row1 c
    (st.1 ++ [c], (st.2.map fun o => wo o row2 c) ++ [row2])
def rw_ (rows : List (List Rat)) (j l : Nat) : Rat := gt (rows.getD j []) l
def cl (cols : List Nat) (j : Nat) : Nat := cols.getD j 0
/-- the matrix has no dependency -/
def NoDep (n : Nat) (M : List (List Rat)) : Prop := ∀ y : Nat → Rat, (∀ c, c < n → S n (fun i => y i * rw_ M i c) = 0) → ∀ i, i < n → y i = 0
structure Sys (n k : Nat) (M b : List (List Rat)) : Prop where
  lM : M.length = n
  lb : b.length = n
  rM : ∀ i, i < n → (M.getD i []).length = n
  rb : ∀ i, i < n → (b.getD i []).length = k
  nd : NoDep n M
variable {n k : Nat} {M b : List (List Rat)}
theorem unit_len (n a : Nat) : (unitRow n a).length = n := by unfold unitRow; rw [List.length_map, List.length_range]
theorem gt_unit {n a i : Nat} (h : i < n) : gt (unitRow n a) i = if i = a then 1 else 0 := gt_rangemap h
theorem Sys.hlen (Y : Sys n k M b) {i : Nat} (h : i < n) : (hat n M b i).length = n + k + n := by
  unfold hat; rw [List.length_append, List.length_append, Y.rM i h, Y.rb i h, unit_len]
theorem Sys.hM (Y : Sys n k M b) {i c : Nat} (h : i < n) (hc : c < n) : gt (hat n M b i) c = rw_ M i c := by
  unfold hat rw_
  rw [List.append_assoc, gt_app_l (by rw [Y.rM i h]; exact hc)]
theorem Sys.hb (Y : Sys n k M b) {i t : Nat} (h : i < n) (ht : t < k) : gt (hat n M b i) (n + t) = rw_ b i t := by
  unfold hat rw_
  have e := Y.rM i h
  rw [List.append_assoc]
  conv => lhs; arg 2; rw [← e]
  rw [gt_app_r, gt_app_l (by rw [Y.rb i h]; exact ht)]
theorem Sys.hI (Y : Sys n k M b) {i t : Nat} (h : i < n) (ht : t < n) : gt (hat n M b i) (n + k + t) = if t = i then 1 else 0 := by
  unfold hat
  have e : (M.getD i [] ++ b.getD i []).length = n + k := by rw [List.length_append, Y.rM i h, Y.rb i h]
  conv => lhs; arg 2; rw [← e]
  rw [gt_app_r, gt_unit ht]
/-- what holds when a rows are reduced -/
structure Inv (n k : Nat) (M b : List (List Rat)) (a : Nat) (cols : List Nat) (rows : List (List Rat)) : Prop where
  lc : cols.length = a
  lr : rows.length = a
  len : ∀ j, j < a → (rows.getD j []).length = n + k + n
  lt : ∀ j, j < a → cl cols j < n
  dl : ∀ j i, j < a → i < a → rw_ rows j (cl cols i) = if i = j then 1 else 0
  span : ∀ i l, i < a → l < n + k + n → gt (hat n M b i) l = S a fun j => gt (hat n M b i) (cl cols j) * rw_ rows j l
  comb : ∀ j l, j < a → l < n + k + n → rw_ rows j l = S n fun i => rw_ rows j (n + k + i) * gt (hat n M b i) l
  supp : ∀ j i, j < a → a ≤ i → i < n → rw_ rows j (n + k + i) = 0
theorem getD_app_l {α : Type} {l m : List α} {i : Nat} {d : α} (h : i < l.length) : (l ++ m).getD i d = l.getD i d := by
  rw [List.getD_eq_getElem?_getD, List.getElem?_append_left h, List.getD_eq_getElem?_getD]
theorem getD_app_end {α : Type} {l : List α} {x d : α} {i : Nat} (h : i = l.length) : (l ++ [x]).getD i d = x := by
  rw [List.getD_eq_getElem?_getD, h, List.getElem?_append_right (Nat.le_refl _), Nat.sub_self]; rfl
theorem getD_map {α β : Type} {f : α → β} {l : List α} {i : Nat} {d : α} {d' : β} (h : i < l.length) : (l.map f).getD i d' = f (l.getD i d) := by
  rw [List.getD_eq_getElem?_getD, List.getD_eq_getElem?_getD, List.getElem?_map, List.getElem?_eq_getElem h]; rfl
theorem getD_get {α : Type} {l : List α} {i : Nat} {d : α} (h : i < l.length) : l[i]? = some (l.getD i d) := by
  rw [List.getD_eq_getElem?_getD, List.getElem?_eq_getElem h]; rfl
/-- the reduced row, as far as the first i rows have been taken from it -/
theorem Inv.part (Y : Sys n k M b) {a : Nat} {cols : List Nat} {rows : List (List Rat)} (I : Inv n k M b a cols rows) {row : List Rat} (hr : row.length = n + k + n) : ∀ i, i ≤ a →
    (((List.zip cols rows).take i).foldl (fun r p => wo r p.2 p.1) row).length = n + k + n ∧
    ∀ l, l < n + k + n → gt (((List.zip cols rows).take i).foldl (fun r p => wo r p.2 p.1) row) l = gt row l - S i fun j => gt row (cl cols j) * rw_ rows j l := by
  intro i
  induction i with
  | zero =>
    intro _
    refine ⟨hr, fun l _ => ?_⟩
    simp only [List.take_zero, List.foldl_nil, S]; grind
  | succ i ih =>
    intro hi
    obtain ⟨h1, h2⟩ := ih (by omega)
    have lc := I.lc
    have lr := I.lr
    have e : (List.zip cols rows)[i]? = some (cl cols i, rows.getD i []) := by
      rw [List.getElem?_zip_eq_some]
      exact ⟨getD_get (by omega), getD_get (by omega)⟩
    have hz : (List.zip cols rows).take (i + 1) = (List.zip cols rows).take i ++ [(cl cols i, rows.getD i [])] := by
      rw [List.take_succ, e]; rfl
    have hlt := I.lt i (by omega)
    have hc : gt (((List.zip cols rows).take i).foldl (fun r p => wo r p.2 p.1) row) (cl cols i) = gt row (cl cols i) := by
      rw [h2 _ (by omega), S_zero fun j hj => by rw [I.dl j i (by omega) (by omega), if_neg (by omega)]; grind]; grind
    rw [hz, List.foldl_append]
    simp only [List.foldl_cons, List.foldl_nil]
    have ho := I.len i (by omega)
    refine ⟨by rw [wo_len (by omega)]; exact h1, fun l hl => ?_⟩
    rw [gt_wo (by omega) (by omega), hc, h2 l hl]
    simp only [S]
    show _ - gt row (cl cols i) * rw_ rows i l = _
    grind
theorem Inv.red (Y : Sys n k M b) {a : Nat} {cols : List Nat} {rows : List (List Rat)} (I : Inv n k M b a cols rows) {row : List Rat} (hr : row.length = n + k + n) :
    (ME.red cols rows row).length = n + k + n ∧ ∀ l, l < n + k + n → gt (ME.red cols rows row) l = gt row l - S a fun j => gt row (cl cols j) * rw_ rows j l := by
  have h := I.part Y hr a (Nat.le_refl _)
  have lz : (List.zip cols rows).length = a := by rw [List.length_zip, I.lc, I.lr]; exact Nat.min_self a
  rw [List.take_of_length_le (by omega)] at h
  exact h
/-- there is a column for the new row -/
theorem Inv.found (Y : Sys n k M b) {a : Nat} {cols : List Nat} {rows : List (List Rat)} (I : Inv n k M b a cols rows) (ha : a < n) :
    ∃ c, firstNZ (ME.red cols rows (hat n M b a)) n = some c ∧ c < n ∧ gt (ME.red cols rows (hat n M b a)) c ≠ 0 ∧ ∀ i, i < a → cl cols i ≠ c := by
  have hh := Y.hlen ha
  obtain ⟨h1, h2⟩ := I.red Y hh
  generalize ME.red cols rows (hat n M b a) = N at *
  have z : ∀ i, i < a → gt N (cl cols i) = 0 := fun i hi => by
    have hlt := I.lt i hi
    rw [h2 _ (by omega), S_one i hi fun j hj hne => by rw [I.dl j i hj hi, if_neg (by omega)]; grind]
    rw [I.dl i i hi hi, if_pos rfl]; grind
  have one : gt N (n + k + a) = 1 := by
    rw [h2 _ (by omega), Y.hI ha ha, if_pos rfl, S_zero fun j hj => by rw [I.supp j a hj (Nat.le_refl _) ha]; grind]; grind
  have cmb : ∀ l, l < n + k + n → gt N l = S n fun i => gt N (n + k + i) * gt (hat n M b i) l := fun l hl => by
    have e1 : S n (fun i => gt N (n + k + i) * gt (hat n M b i) l) = S n (fun i => gt (hat n M b a) (n + k + i) * gt (hat n M b i) l - S a (fun j => gt (hat n M b a) (cl cols j) * (rw_ rows j (n + k + i) * gt (hat n M b i) l))) := S_congr fun i hi => by
      rw [h2 _ (by omega)]
      have e2 : S a (fun j => gt (hat n M b a) (cl cols j) * (rw_ rows j (n + k + i) * gt (hat n M b i) l)) = S a (fun j => gt (hat n M b a) (cl cols j) * rw_ rows j (n + k + i)) * gt (hat n M b i) l := by
        rw [← S_mulr]; exact S_congr fun j _ => by grind
      rw [e2]; grind
    rw [e1, S_sub, S_swap, h2 l hl, S_one a ha fun i hi hne => by rw [Y.hI ha hi, if_neg hne]; grind]
    rw [Y.hI ha ha, if_pos rfl]
    have e3 : S a (fun j => S n (fun i => gt (hat n M b a) (cl cols j) * (rw_ rows j (n + k + i) * gt (hat n M b i) l))) = S a (fun j => gt (hat n M b a) (cl cols j) * rw_ rows j l) := S_congr fun j hj => by
      rw [S_mul, ← I.comb j l hj hl]
    rw [e3]; grind
  cases hf : firstNZ N n with
  | none =>
    have h3 : ∀ c, c < n → gt N c = 0 := fun c hc => by
      have := List.find?_eq_none.mp hf c (List.mem_range.mpr hc)
      simpa using this
    have h4 := Y.nd (fun i => gt N (n + k + i)) (fun c hc => by
      rw [← h3 c hc, cmb c (by omega)]
      exact S_congr fun i hi => by rw [Y.hM hi hc]) a ha
    simp only [one] at h4
    exact absurd h4 (by decide)
  | some c =>
    have h3 := List.find?_some hf
    have h4 := List.mem_of_find?_eq_some hf
    have h5 : gt N c ≠ 0 := of_decide_eq_true h3
    exact ⟨c, rfl, List.mem_range.mp h4, h5, fun i hi e => h5 (by rw [← e]; exact z i hi)⟩
theorem Inv.step (Y : Sys n k M b) {a : Nat} (ha : a < n) (I : Inv n k M b a (stp n M b a).1 (stp n M b a).2) : Inv n k M b (a + 1) (stp n M b (a + 1)).1 (stp n M b (a + 1)).2 := by
  obtain ⟨c, f1, f2, f3, f4⟩ := I.found Y ha
  obtain ⟨h1, h2⟩ := I.red Y (Y.hlen ha)
  show Inv n k M b (a + 1) ((stp n M b a).1 ++ [(firstNZ (ME.red (stp n M b a).1 (stp n M b a).2 (hat n M b a)) n).getD 0]) (((stp n M b a).2.map fun o => wo o ((ME.red (stp n M b a).1 (stp n M b a).2 (hat n M b a)).map fun x => x / gt (ME.red (stp n M b a).1 (stp n M b a).2 (hat n M b a)) ((firstNZ (ME.red (stp n M b a).1 (stp n M b a).2 (hat n M b a)) n).getD 0)) ((firstNZ (ME.red (stp n M b a).1 (stp n M b a).2 (hat n M b a)) n).getD 0)) ++ [(ME.red (stp n M b a).1 (stp n M b a).2 (hat n M b a)).map fun x => x / gt (ME.red (stp n M b a).1 (stp n M b a).2 (hat n M b a)) ((firstNZ (ME.red (stp n M b a).1 (stp n M b a).2 (hat n M b a)) n).getD 0)])
  rw [f1]
  have found := I.found Y ha
  generalize hN : ME.red (stp n M b a).1 (stp n M b a).2 (hat n M b a) = N at *
  generalize (stp n M b a).1 = cols at *
  generalize (stp n M b a).2 = rows at *
  simp only [Option.getD_some]
  have lc := I.lc
  have lr := I.lr
  have z : ∀ i, i < a → gt N (cl cols i) = 0 := fun i hi => by
    have hlt := I.lt i hi
    rw [h2 _ (by omega), S_one i hi fun j hj hne => by rw [I.dl j i hj hi, if_neg (by omega)]; grind]
    rw [I.dl i i hi hi, if_pos rfl]; grind
  have hN' : ∀ l, l < n + k + n → gt (N.map fun x => x / gt N c) l = gt N l / gt N c := fun l hl => gt_map (by omega)
  have lP : (N.map fun x => x / gt N c).length = n + k + n := by rw [List.length_map]; exact h1
  generalize hP : (N.map fun x => x / gt N c) = P at *
  have cmbN : ∀ l, l < n + k + n → gt N l = S n fun i => gt N (n + k + i) * gt (hat n M b i) l := fun l hl => by
    have e1 : S n (fun i => gt N (n + k + i) * gt (hat n M b i) l) = S n (fun i => gt (hat n M b a) (n + k + i) * gt (hat n M b i) l - S a (fun j => gt (hat n M b a) (cl cols j) * (rw_ rows j (n + k + i) * gt (hat n M b i) l))) := S_congr fun i hi => by
      rw [h2 _ (by omega)]
      have e2 : S a (fun j => gt (hat n M b a) (cl cols j) * (rw_ rows j (n + k + i) * gt (hat n M b i) l)) = S a (fun j => gt (hat n M b a) (cl cols j) * rw_ rows j (n + k + i)) * gt (hat n M b i) l := by
        rw [← S_mulr]; exact S_congr fun j _ => by grind
      rw [e2]; grind
    rw [e1, S_sub, S_swap, h2 l hl, S_one a ha fun i hi hne => by rw [Y.hI ha hi, if_neg hne]; grind]
    rw [Y.hI ha ha, if_pos rfl]
    have e3 : S a (fun j => S n (fun i => gt (hat n M b a) (cl cols j) * (rw_ rows j (n + k + i) * gt (hat n M b i) l))) = S a (fun j => gt (hat n M b a) (cl cols j) * rw_ rows j l) := S_congr fun j hj => by
      rw [S_mul, ← I.comb j l hj hl]
    rw [e3]; grind
  have Pc : gt P c = 1 := by rw [hN' c (by omega)]; grind
  have Pz : ∀ i, i < a → gt P (cl cols i) = 0 := fun i hi => by
    have hlt := I.lt i hi
    rw [hN' _ (by omega), z i hi]; grind
  have PN : ∀ l, l < n + k + n → gt N l = gt N c * gt P l := fun l hl => by rw [hN' l hl]; grind
  have cols_old : ∀ i, i < a → cl (cols ++ [c]) i = cl cols i := fun i hi => getD_app_l (by omega)
  have cols_new : cl (cols ++ [c]) a = c := getD_app_end lc.symm
  have row_old : ∀ j, j < a → ((rows.map fun o => wo o P c) ++ [P]).getD j [] = wo (rows.getD j []) P c := fun j hj => by
    rw [getD_app_l (by rw [List.length_map]; omega), getD_map (d := []) (by omega)]
  have row_new : ((rows.map fun o => wo o P c) ++ [P]).getD a [] = P := getD_app_end (by rw [List.length_map]; exact lr.symm)
  have R_old : ∀ j l, j < a → l < n + k + n → rw_ ((rows.map fun o => wo o P c) ++ [P]) j l = rw_ rows j l - rw_ rows j c * gt P l := fun j l hj hl => by
    have hl' := I.len j hj
    unfold rw_
    rw [row_old j hj, gt_wo (by omega) (by omega)]
  have R_new : ∀ l, rw_ ((rows.map fun o => wo o P c) ++ [P]) a l = gt P l := fun l => by unfold rw_; rw [row_new]
  generalize hR : ((rows.map fun o => wo o P c) ++ [P]) = rows' at *
  generalize hC : (cols ++ [c]) = cols' at *
  have lens : ∀ j, j < a + 1 → (rows'.getD j []).length = n + k + n := fun j hj => by
    by_cases e : j = a
    · rw [e, row_new]; exact lP
    · rw [row_old j (by omega), wo_len (by rw [lP, I.len j (by omega)]), I.len j (by omega)]
  refine ⟨by rw [← hC, List.length_append, lc]; rfl, by rw [← hR, List.length_append, List.length_map, lr]; rfl, lens, fun j hj => ?_, fun j i hj hi => ?_, fun i l hi hl => ?_, fun j l hj hl => ?_, fun j i hj hi hn => ?_⟩
  · by_cases e : j = a
    · rw [e, cols_new]; exact f2
    · rw [cols_old j (by omega)]; exact I.lt j (by omega)
  · by_cases ei : i = a
    · rw [ei, cols_new]
      by_cases ej : j = a
      · rw [ej, R_new, if_pos rfl]; exact Pc
      · rw [R_old j c (by omega) (by omega), if_neg (by omega), Pc]; grind
    · rw [cols_old i (by omega)]
      have hlt := I.lt i (by omega)
      by_cases ej : j = a
      · rw [ej, R_new, if_neg (by omega)]; exact Pz i (by omega)
      · rw [R_old j _ (by omega) (by omega), Pz i (by omega), I.dl j i (by omega) (by omega)]; grind
  · simp only [S]
    rw [cols_new, R_new, S_congr (h := fun j => gt (hat n M b i) (cl cols j) * rw_ rows j l - gt (hat n M b i) (cl cols j) * rw_ rows j c * gt P l) fun j hj => by rw [cols_old j hj, R_old j l hj hl]; grind]
    rw [S_sub, S_mulr]
    by_cases ei : i = a
    · subst ei
      have g1 := h2 l hl
      have g2 := h2 c (by omega)
      have g3 := PN l hl
      generalize S i (fun j => gt (hat n M b i) (cl cols j) * rw_ rows j l) = X at *
      generalize S i (fun j => gt (hat n M b i) (cl cols j) * rw_ rows j c) = Z at *
      have g4 : gt N c * gt P l = (gt (hat n M b i) c - Z) * gt P l := by rw [g2]
      grind
    · rw [← I.span i l (by omega) hl, ← I.span i c (by omega) (by omega)]; grind
  · by_cases ej : j = a
    · rw [ej]
      rw [S_congr (h := fun i => gt P (n + k + i) * gt (hat n M b i) l) fun i _ => by rw [R_new], R_new]
      rw [hN' l hl, cmbN l hl, S_congr (f := fun i => gt P (n + k + i) * gt (hat n M b i) l) (h := fun i => (gt N (n + k + i) * gt (hat n M b i) l) * (1 / gt N c)) fun i hi => by rw [hN' _ (by omega)]; grind]
      rw [S_mulr]; grind
    · rw [R_old j l (by omega) hl]
      rw [S_congr (h := fun i => rw_ rows j (n + k + i) * gt (hat n M b i) l - rw_ rows j c * (gt P (n + k + i) * gt (hat n M b i) l)) fun i hi => by rw [R_old j _ (by omega) (by omega)]; grind]
      rw [S_sub, S_mul, ← I.comb j l (by omega) hl]
      have e5 : S n (fun i => gt P (n + k + i) * gt (hat n M b i) l) = gt P l := by
        rw [hN' l hl, cmbN l hl, S_congr (f := fun i => gt P (n + k + i) * gt (hat n M b i) l) (h := fun i => (gt N (n + k + i) * gt (hat n M b i) l) * (1 / gt N c)) fun i hi => by rw [hN' _ (by omega)]; grind]
        rw [S_mulr]; grind
      rw [e5]
  · have Pi : gt P (n + k + i) = 0 := by
      rw [hN' _ (by omega), h2 _ (by omega), Y.hI ha hn, if_neg (by omega), S_zero fun j hj => by rw [I.supp j i hj (by omega) hn]; grind]; grind
    by_cases ej : j = a
    · rw [ej, R_new]; exact Pi
    · rw [R_old j _ (by omega) (by omega), Pi, I.supp j i (by omega) (by omega) hn]; grind
theorem inv_all (Y : Sys n k M b) : ∀ a, a ≤ n → Inv n k M b a (stp n M b a).1 (stp n M b a).2
  | 0, _ => ⟨rfl, rfl, fun j h => by omega, fun j h => by omega, fun j i h => by omega, fun i l h => by omega, fun j l h => by omega, fun j i h => by omega⟩
  | a + 1, h => (inv_all Y a (by omega)).step Y (by omega)
/-! ### an injection of the numbers below n -/
theorem S_ones : ∀ n : Nat, S n (fun _ => 1) = (n : Rat)
  | 0 => rfl
  | n + 1 => by simp only [S]; rw [S_ones n]; simp [Rat.natCast_add]
theorem count_one {n : Nat} {p : Nat → Nat} (lt : ∀ j, j < n → p j < n) (inj : ∀ i j, i < n → j < n → p i = p j → i = j) : ∀ c, c < n → S n (fun j => if p j = c then 1 else 0) = 1 := by
  have h1 : ∀ c, c < n → 0 ≤ 1 - S n (fun j => if p j = c then (1 : Rat) else 0) := fun c hc => by
    by_cases h : ∃ j, j < n ∧ p j = c
    · obtain ⟨j, hj, e⟩ := h
      rw [S_one j hj fun i hi hne => by rw [if_neg fun e2 => hne (inj i j hi hj (by rw [e2, e]))]]
      rw [if_pos e]; grind
    · rw [S_zero fun j hj => by rw [if_neg fun e => h ⟨j, hj, e⟩]]; grind
  have h2 : S n (fun c => 1 - S n (fun j => if p j = c then (1 : Rat) else 0)) ≤ 0 := by
    rw [S_sub, S_swap, S_congr (f := fun j => S n (fun i => if p j = i then (1 : Rat) else 0)) (h := fun _ => 1) fun j hj => by
      rw [S_one (p j) (lt j hj) fun i _ hne => by rw [if_neg fun e => hne e.symm]]
      rw [if_pos rfl]]
    grind
  intro c hc
  have := S_pos_zero h1 h2 c hc
  grind
theorem onto_of_inj {n : Nat} {p : Nat → Nat} (lt : ∀ j, j < n → p j < n) (inj : ∀ i j, i < n → j < n → p i = p j → i = j) : ∀ c, c < n → ∃ j, j < n ∧ p j = c := fun c hc => by
  by_cases h : ∃ j, j < n ∧ p j = c
  · exact h
  · have h1 := count_one lt inj c hc
    rw [S_zero fun j hj => by rw [if_neg fun e => h ⟨j, hj, e⟩]] at h1
    exact absurd h1 (by decide)
theorem S_perm {n : Nat} {p : Nat → Nat} (lt : ∀ j, j < n → p j < n) (inj : ∀ i j, i < n → j < n → p i = p j → i = j) (f : Nat → Rat) : S n (fun j => f (p j)) = S n f := by
  have h1 : S n (fun j => f (p j)) = S n (fun j => S n (fun c => (if p j = c then (1 : Rat) else 0) * f c)) := S_congr fun j hj => by
    rw [S_one (p j) (lt j hj) fun i _ hne => by rw [if_neg fun e => hne e.symm]; grind]
    rw [if_pos rfl]; grind
  rw [h1, S_swap]
  exact S_congr fun c hc => by
    rw [S_mulr, count_one lt inj c hc]; grind
/-! ### the solution -/
def slice (n : Nat) (row : List Rat) : List Rat := (row.take (row.length - n)).drop n
def solM (n : Nat) (M b : List (List Rat)) : List (List Rat) := (List.zip (stp n M b n).1 (stp n M b n).2).foldl (fun s p => s.set p.1 (slice n p.2)) (List.replicate n [])
theorem slice_len {n k : Nat} {row : List Rat} (h : row.length = n + k + n) : (slice n row).length = k := by
  unfold slice; rw [List.length_drop, List.length_take]; omega
theorem gt_slice {n k t : Nat} {row : List Rat} (h : row.length = n + k + n) (ht : t < k) : gt (slice n row) t = gt row (n + t) := by
  unfold slice gt
  rw [List.getD_eq_getElem?_getD, List.getElem?_drop, List.getElem?_take_of_lt (by omega), List.getD_eq_getElem?_getD]
theorem set_fold (f : List Rat → List Rat) : ∀ (cs : List Nat) (rs : List (List Rat)) (s0 : List (List Rat)), cs.length = rs.length → (∀ i j, i < cs.length → j < cs.length → cs.getD i 0 = cs.getD j 0 → i = j) → (∀ i, i < cs.length → cs.getD i 0 < s0.length) →
    ((List.zip cs rs).foldl (fun s p => s.set p.1 (f p.2)) s0).length = s0.length ∧ ∀ i, i < cs.length → ((List.zip cs rs).foldl (fun s p => s.set p.1 (f p.2)) s0)[cs.getD i 0]? = some (f (rs.getD i [])) := by
  intro cs rs
  -- from the end: the last pair sets its own place, the others stand
  have gen : ∀ m, m ≤ cs.length → ∀ s0 : List (List Rat), cs.length = rs.length → (∀ i j, i < cs.length → j < cs.length → cs.getD i 0 = cs.getD j 0 → i = j) → (∀ i, i < cs.length → cs.getD i 0 < s0.length) →
      (((List.zip cs rs).take m).foldl (fun s p => s.set p.1 (f p.2)) s0).length = s0.length ∧ ∀ i, i < m → (((List.zip cs rs).take m).foldl (fun s p => s.set p.1 (f p.2)) s0)[cs.getD i 0]? = some (f (rs.getD i [])) := by
    intro m
    induction m with
    | zero => intro _ s0 _ _ _; exact ⟨rfl, fun i h => by omega⟩
    | succ m ih =>
      intro hm s0 hl hi hlt
      obtain ⟨h1, h2⟩ := ih (by omega) s0 hl hi hlt
      have e : (List.zip cs rs)[m]? = some (cs.getD m 0, rs.getD m []) := by
        rw [List.getElem?_zip_eq_some]
        exact ⟨getD_get (by omega), getD_get (by omega)⟩
      have hz : (List.zip cs rs).take (m + 1) = (List.zip cs rs).take m ++ [(cs.getD m 0, rs.getD m [])] := by rw [List.take_succ, e]; rfl
      rw [hz, List.foldl_append]
      simp only [List.foldl_cons, List.foldl_nil]
      refine ⟨by rw [List.length_set]; exact h1, fun i him => ?_⟩
      by_cases ei : i = m
      · rw [ei, List.getElem?_set_self (by rw [h1]; exact hlt m (by omega))]
      · rw [List.getElem?_set_ne (fun q => ei (hi i m (by omega) (by omega) q.symm)), h2 i (by omega)]
  intro s0 hl hi hlt
  have h := gen cs.length (Nat.le_refl _) s0 hl hi hlt
  rw [List.take_of_length_le (by rw [List.length_zip]; omega)] at h
  exact h
theorem Inv.inj {a : Nat} {cols : List Nat} {rows : List (List Rat)} (I : Inv n k M b a cols rows) : ∀ i j, i < a → j < a → cl cols i = cl cols j → i = j := fun i j hi hj e => by
  have h1 := I.dl i i hi hi
  have h2 := I.dl i j hi hj
  rw [← e, h1, if_pos rfl] at h2
  by_cases h : j = i
  · exact h.symm
  · rw [if_neg h] at h2
    exact absurd h2 (by decide)
theorem sol_len (Y : Sys n k M b) : (solM n M b).length = n := by
  have I := inv_all Y n (Nat.le_refl _)
  have h := (set_fold (slice n) (stp n M b n).1 (stp n M b n).2 (List.replicate n []) (by rw [I.lc, I.lr]) (by rw [I.lc]; exact I.inj) (by rw [I.lc, List.length_replicate]; exact I.lt)).1
  rw [List.length_replicate] at h
  exact h
/-- row c of the solution is the right part of the reduced row whose column is c -/
theorem sol_row (Y : Sys n k M b) {j : Nat} (hj : j < n) : (solM n M b).getD (cl (stp n M b n).1 j) [] = slice n ((stp n M b n).2.getD j []) := by
  have I := inv_all Y n (Nat.le_refl _)
  have h := (set_fold (slice n) (stp n M b n).1 (stp n M b n).2 (List.replicate n []) (by rw [I.lc, I.lr]) (by rw [I.lc]; exact I.inj) (by rw [I.lc, List.length_replicate]; exact I.lt)).2 j (by rw [I.lc]; exact hj)
  unfold solM
  rw [List.getD_eq_getElem?_getD]
  show Option.getD (_[cl (stp n M b n).1 j]?) [] = _
  unfold cl
  rw [h]; rfl
theorem sol_rowlen (Y : Sys n k M b) {c : Nat} (hc : c < n) : ((solM n M b).getD c []).length = k := by
  have I := inv_all Y n (Nat.le_refl _)
  obtain ⟨j, hj, rfl⟩ := onto_of_inj I.lt I.inj c hc
  rw [sol_row Y hj]
  exact slice_len (I.len j hj)
theorem sol_eq (Y : Sys n k M b) {i t : Nat} (hi : i < n) (ht : t < k) : S n (fun c => rw_ M i c * rw_ (solM n M b) c t) = rw_ b i t := by
  have I := inv_all Y n (Nat.le_refl _)
  rw [← S_perm I.lt I.inj (fun c => rw_ M i c * rw_ (solM n M b) c t)]
  have h := I.span i (n + t) hi (by omega)
  rw [Y.hb hi ht] at h
  rw [h]
  exact S_congr fun j hj => by
    rw [Y.hM hi (I.lt j hj)]
    have e : rw_ (solM n M b) (cl (stp n M b n).1 j) t = rw_ (stp n M b n).2 j (n + t) := by
      unfold rw_
      rw [sol_row Y hj, gt_slice (I.len j hj) ht]
    rw [e]
end ME
set_option linter.all false
/-! MF: curves as knots of a distribution's function; straightened, product -/
namespace MF
open MA MC
abbrev Knot := Rat × Rat
def V (D : Dist) (m : Rat) : Rat := T D (fun y => y) m
def cdf : Dist → Rat → Rat
  | [], _ => 0
  | (q, a) :: D, m => (if a ≤ m then q else 0) + cdf D m
def massAt : Dist → Rat → Rat
  | [], _ => 0
  | (q, a) :: D, m => (if a = m then q else 0) + massAt D m
theorem V_diff : ∀ {D : Dist} {a b : Rat}, a ≤ b → (∀ p ∈ D, p.1 ≠ 0 → p.2 ≤ a ∨ b ≤ p.2) → V D b - V D a = cdf D a * (b - a)
  | [], a, b, _, _ => by simp only [V, T, cdf]; grind
  | (q, x) :: D, a, b, h, hs => by
    have ih := V_diff (D := D) h fun p hp => hs p (List.mem_cons_of_mem _ hp)
    simp only [V, T, cdf] at *
    by_cases hq : q = 0
    · rw [hq]; split <;> grind
    · rcases hs (q, x) List.mem_cons_self hq with h1 | h1
      · have h1 : x ≤ a := h1
        rw [if_pos h1, mx_l h1, mx_l (Rat.le_trans h1 h)]; grind
      · have h1 : b ≤ x := h1
        by_cases hxa : x ≤ a
        · have e : x = a := by grind
          have e2 : x = b := by grind
          rw [if_pos hxa, mx_l hxa, mx_l (by grind)]; grind
        · rw [if_neg hxa, mx_r h1, mx_r (by grind)]; grind
theorem cdf_diff : ∀ {D : Dist} {a b : Rat}, a < b → (∀ p ∈ D, p.1 ≠ 0 → p.2 ≤ a ∨ b ≤ p.2) → cdf D b - cdf D a = massAt D b
  | [], a, b, _, _ => by simp only [massAt, cdf]; grind
  | (q, x) :: D, a, b, h, hs => by
    have ih := cdf_diff (D := D) h fun p hp => hs p (List.mem_cons_of_mem _ hp)
    simp only [massAt, cdf] at *
    by_cases hq : q = 0
    · rw [hq]; repeat' split <;> grind
    · rcases hs (q, x) List.mem_cons_self hq with h1 | h1
      · have h1 : x ≤ a := h1
        rw [if_pos (show x ≤ b by grind), if_pos h1, if_neg (show ¬ x = b by grind)]; grind
      · have h1 : b ≤ x := h1
        rw [if_neg (show ¬ x ≤ a by grind)]
        by_cases e : x = b
        · rw [if_pos e, if_pos (by grind)]; grind
        · rw [if_neg e, if_neg (by grind)]; grind
theorem cdf_low : ∀ {D : Dist} {m : Rat}, (∀ p ∈ D, p.1 ≠ 0 → m < p.2) → cdf D m = 0
  | [], _, _ => rfl
  | (q, x) :: D, m, h => by
    simp only [cdf]
    rw [cdf_low fun p hp => h p (List.mem_cons_of_mem _ hp)]
    by_cases hq : q = 0
    · rw [hq]; split <;> grind
    · have : m < x := h (q, x) List.mem_cons_self hq
      rw [if_neg (by grind)]; grind
theorem cdf_massAt : ∀ {D : Dist} {m : Rat}, (∀ p ∈ D, p.1 ≠ 0 → m ≤ p.2) → cdf D m = massAt D m
  | [], _, _ => rfl
  | (q, x) :: D, m, h => by
    simp only [cdf, massAt]
    rw [cdf_massAt fun p hp => h p (List.mem_cons_of_mem _ hp)]
    by_cases hq : q = 0
    · rw [hq]; repeat' split <;> grind
    · have : m ≤ x := h (q, x) List.mem_cons_self hq
      by_cases e : x = m
      · rw [if_pos e, if_pos (by grind)]
      · rw [if_neg e, if_neg (by grind)]
theorem cdf_top : ∀ {D : Dist} {m : Rat}, (∀ p ∈ D, p.1 ≠ 0 → p.2 ≤ m) → cdf D m = mass D
  | [], _, _ => rfl
  | (q, x) :: D, m, h => by
    simp only [cdf, mass]
    rw [cdf_top fun p hp => h p (List.mem_cons_of_mem _ hp)]
    by_cases hq : q = 0
    · rw [hq]; split <;> grind
    · have : x ≤ m := h (q, x) List.mem_cons_self hq
      rw [if_pos this]
theorem V_top : ∀ {D : Dist} {m : Rat}, (∀ p ∈ D, p.1 ≠ 0 → p.2 ≤ m) → V D m = mass D * m
  | [], _, _ => by simp only [V, T, mass]; grind
  | (q, x) :: D, m, h => by
    have ih := V_top (D := D) (m := m) fun p hp => h p (List.mem_cons_of_mem _ hp)
    simp only [V, T, mass] at *
    rw [ih]
    by_cases hq : q = 0
    · rw [hq]; grind
    · have : x ≤ m := h (q, x) List.mem_cons_self hq
      rw [mx_l this]; grind
theorem V_low : ∀ {D : Dist} {m m' : Rat}, (∀ p ∈ D, p.1 ≠ 0 → m ≤ p.2) → (∀ p ∈ D, p.1 ≠ 0 → m' ≤ p.2) → V D m = V D m'
  | [], _, _, _, _ => rfl
  | (q, x) :: D, m, m', h, h' => by
    have ih := V_low (D := D) (m := m) (m' := m') (fun p hp => h p (List.mem_cons_of_mem _ hp)) fun p hp => h' p (List.mem_cons_of_mem _ hp)
    simp only [V, T] at *
    rw [ih]
    by_cases hq : q = 0
    · rw [hq]; grind
    · rw [mx_r (h (q, x) List.mem_cons_self hq), mx_r (h' (q, x) List.mem_cons_self hq)]
theorem cdf_nn : ∀ {D : Dist} {m : Rat}, (∀ p ∈ D, 0 ≤ p.1) → 0 ≤ cdf D m
  | [], _, _ => by simp only [cdf]; grind
  | (q, x) :: D, m, h => by
    have ih := cdf_nn (D := D) (m := m) fun p hp => h p (List.mem_cons_of_mem _ hp)
    have := h (q, x) List.mem_cons_self
    simp only [cdf] at *
    split <;> grind
theorem massAt_nn : ∀ {D : Dist} {m : Rat}, (∀ p ∈ D, 0 ≤ p.1) → 0 ≤ massAt D m
  | [], _, _ => by simp only [massAt]; grind
  | (q, x) :: D, m, h => by
    have ih := massAt_nn (D := D) (m := m) fun p hp => h p (List.mem_cons_of_mem _ hp)
    have := h (q, x) List.mem_cons_self
    simp only [massAt] at *
    split <;> grind
theorem massAt_out : ∀ {D : Dist} {m : Rat}, (∀ p ∈ D, p.1 ≠ 0 → p.2 ≠ m) → massAt D m = 0
  | [], _, _ => rfl
  | (q, x) :: D, m, h => by
    simp only [massAt]
    rw [massAt_out fun p hp => h p (List.mem_cons_of_mem _ hp)]
    by_cases hq : q = 0
    · rw [hq]; split <;> grind
    · rw [if_neg (h (q, x) List.mem_cons_self hq)]; grind
theorem massAt_in : ∀ {D : Dist} {m : Rat}, (∀ p ∈ D, 0 ≤ p.1) → massAt D m = 0 → ∀ p ∈ D, p.1 ≠ 0 → p.2 ≠ m
  | [], _, _, _ => fun p hp => absurd hp (by simp)
  | (q, x) :: D, m, h, h0 => by
    have h1 := massAt_nn (D := D) (m := m) fun p hp => h p (List.mem_cons_of_mem _ hp)
    have h2 : 0 ≤ q := h (q, x) List.mem_cons_self
    simp only [massAt] at h0
    intro p hp hq
    rcases List.mem_cons.mp hp with e | hp
    · subst e
      intro e
      have e : x = m := e
      rw [if_pos e] at h0
      exact hq (show q = 0 by grind)
    · refine massAt_in (D := D) (fun p hp => h p (List.mem_cons_of_mem _ hp)) ?_ p hp hq
      split at h0 <;> grind
/-! ### the product -/
def dmul : Dist → Dist → Dist
  | [], _ => []
  | (q, a) :: D, E => (E.map fun p => (q * p.1, mx a p.2)) ++ dmul D E
theorem T_scale (q a : Rat) (f : Rat → Rat) (m : Rat) : ∀ E : Dist, T (E.map fun p => (q * p.1, mx a p.2)) f m = q * T E f (mx m a)
  | [] => by simp only [List.map_nil, T]; grind
  | (q', a') :: E => by
    simp only [List.map_cons, T]
    rw [T_scale q a f m E, mx_assoc]; grind
theorem T_dmul : ∀ (D E : Dist) (f : Rat → Rat) (m : Rat), T (dmul D E) f m = T D (T E f) m
  | [], _, _, _ => rfl
  | (q, a) :: D, E, f, m => by
    simp only [dmul, T]
    rw [MD.T_app, T_scale, T_dmul D E f m]
theorem mass_dmul : ∀ (D E : Dist), mass (dmul D E) = mass D * mass E
  | [], E => by simp only [dmul, mass]; grind
  | (q, a) :: D, E => by
    have h : ∀ E : Dist, mass (E.map fun p => (q * p.1, mx a p.2)) = q * mass E := by
      intro E
      induction E with
      | nil => simp only [List.map_nil, mass]; grind
      | cons p E ih => simp only [List.map_cons, mass]; rw [ih]; grind
    simp only [dmul, mass]
    rw [MD.mass_app, h, mass_dmul D E]; grind
theorem cdf_app : ∀ (D E : Dist) (m : Rat), cdf (D ++ E) m = cdf D m + cdf E m
  | [], E, m => by simp only [List.nil_append, cdf]; grind
  | (q, a) :: D, E, m => by simp only [List.cons_append, cdf]; rw [cdf_app D E m]; grind
theorem cdf_dmul : ∀ (D E : Dist) (m : Rat), cdf (dmul D E) m = cdf D m * cdf E m
  | [], E, m => by simp only [dmul, cdf]; grind
  | (q, a) :: D, E, m => by
    have h : ∀ E : Dist, cdf (E.map fun p => (q * p.1, mx a p.2)) m = (if a ≤ m then q else 0) * cdf E m := by
      intro E
      induction E with
      | nil => simp only [List.map_nil, cdf]; grind
      | cons p E ih =>
        simp only [List.map_cons, cdf]
        rw [ih]
        by_cases ha : a ≤ m
        · rw [if_pos ha]
          by_cases hp : p.2 ≤ m
          · rw [if_pos hp, if_pos (mx_le ha hp)]; grind
          · rw [if_neg hp, if_neg fun h => hp (Rat.le_trans (le_mx_r a p.2) h)]; grind
        · rw [if_neg ha, if_neg fun h => ha (Rat.le_trans (le_mx_l a p.2) h)]; grind
    simp only [dmul, cdf]
    rw [cdf_app, h, cdf_dmul D E m]; grind
theorem mem_dmul : ∀ {D E : Dist} {p : Rat × Rat}, p ∈ dmul D E → ∃ x ∈ D, ∃ y ∈ E, p = (x.1 * y.1, mx x.2 y.2)
  | [], _, _, h => absurd h (by simp [dmul])
  | (q, a) :: D, E, p, h => by
    simp only [dmul] at h
    rcases List.mem_append.mp h with h | h
    · obtain ⟨y, hy, rfl⟩ := List.mem_map.mp h
      exact ⟨(q, a), List.mem_cons_self, y, hy, rfl⟩
    · obtain ⟨x, hx, y, hy, e⟩ := mem_dmul h
      exact ⟨x, List.mem_cons_of_mem _ hx, y, hy, e⟩
theorem dmul_ok {D E : Dist} (hD : Dist.Ok D) (hE : Dist.Ok E) : Dist.Ok (dmul D E) := by
  refine ⟨fun p hp => ?_, by rw [mass_dmul, hD.one, hE.one]; grind⟩
  obtain ⟨x, hx, y, hy, rfl⟩ := mem_dmul hp
  exact Rat.mul_nonneg (hD.nn x hx) (hE.nn y hy)
/-! ### points and knots -/
/-- the points over the amounts G: they lie on D's function, and all of D's mass lies at them -/
structure Pts (P : List Knot) (D : Dist) (G : List Rat) : Prop where
  eq : P = G.map fun a => (a, V D a)
  asc : G.Pairwise (· < ·)
  ok : Dist.Ok D
  sup : ∀ p ∈ D, p.1 ≠ 0 → p.2 ∈ G
structure Kns (P : List Knot) (D : Dist) (G : List Rat) : Prop extends Pts P D G where
  pos : ∀ a ∈ G, massAt D a ≠ 0
def kn (P : List Knot) (k : Nat) : Knot := P.getD k (0, 0)
def ga (G : List Rat) (k : Nat) : Rat := G.getD k 0
def lineSlope (l r : Knot) : Rat := (r.2 - l.2) / (r.1 - l.1)
section
variable {P : List Knot} {D : Dist} {G : List Rat}
theorem Pts.len (h : Pts P D G) : P.length = G.length := by rw [h.eq, List.length_map]
theorem Pts.kn (h : Pts P D G) {k : Nat} (hk : k < P.length) : kn P k = (ga G k, V D (ga G k)) := by
  have hg : k < G.length := by rw [← h.len]; exact hk
  unfold MF.kn ga
  rw [h.eq, List.getD_eq_getElem?_getD, List.getElem?_map, List.getElem?_eq_getElem hg, List.getD_eq_getElem?_getD, List.getElem?_eq_getElem hg]
  rfl
theorem ga_lt (h : G.Pairwise (· < ·)) {i j : Nat} (hij : i < j) (hj : j < G.length) : ga G i < ga G j := by
  unfold ga
  rw [List.getD_eq_getElem?_getD, List.getD_eq_getElem?_getD, List.getElem?_eq_getElem hj, List.getElem?_eq_getElem (Nat.lt_trans hij hj)]
  exact List.pairwise_iff_getElem.mp h i j (Nat.lt_trans hij hj) hj hij
theorem ga_le (h : G.Pairwise (· < ·)) {i j : Nat} (hij : i ≤ j) (hj : j < G.length) : ga G i ≤ ga G j := by
  by_cases e : i = j
  · rw [e]; exact Rat.le_refl
  · exact Rat.le_of_lt (ga_lt h (by omega) hj)
theorem mem_ga {a : Rat} (h : a ∈ G) : ∃ k, k < G.length ∧ ga G k = a := by
  obtain ⟨k, hk, e⟩ := List.mem_iff_getElem.mp h
  exact ⟨k, hk, by unfold ga; rw [List.getD_eq_getElem?_getD, List.getElem?_eq_getElem hk]; exact e⟩
theorem ga_mem {k : Nat} (hk : k < G.length) : ga G k ∈ G := by
  unfold ga
  rw [List.getD_eq_getElem?_getD, List.getElem?_eq_getElem hk]
  exact List.getElem_mem hk
theorem Pts.gap (h : Pts P D G) {k : Nat} (hk : k + 1 < G.length) : ∀ p ∈ D, p.1 ≠ 0 → p.2 ≤ ga G k ∨ ga G (k + 1) ≤ p.2 := fun p hp hq => by
  obtain ⟨j, hj, e⟩ := mem_ga (h.sup p hp hq)
  rw [← e]
  by_cases hjk : j ≤ k
  · exact .inl (ga_le h.asc hjk (by omega))
  · exact .inr (ga_le h.asc (by omega) hj)
theorem Pts.slope (h : Pts P D G) {k : Nat} (hk : k + 1 < P.length) : lineSlope (MF.kn P k) (MF.kn P (k + 1)) = cdf D (ga G k) := by
  have hg : k + 1 < G.length := by rw [← h.len]; exact hk
  rw [h.kn hk, h.kn (show k < P.length by omega)]
  unfold lineSlope
  have h1 := ga_lt h.asc (show k < k + 1 by omega) hg
  have h2 := V_diff (Rat.le_of_lt h1) (h.gap hg)
  show (V D (ga G (k + 1)) - V D (ga G k)) / (ga G (k + 1) - ga G k) = _
  rw [h2]
  have h3 : ga G (k + 1) - ga G k ≠ 0 := by grind
  grind
theorem Pts.le_last (h : Pts P D G) {k : Nat} (hk : k + 1 = G.length) : ∀ p ∈ D, p.1 ≠ 0 → p.2 ≤ ga G k := fun p hp hq => by
  obtain ⟨j, hj, e⟩ := mem_ga (h.sup p hp hq)
  rw [← e]
  exact ga_le h.asc (by omega) (by omega)
theorem Pts.ge_first (h : Pts P D G) : ∀ p ∈ D, p.1 ≠ 0 → ga G 0 ≤ p.2 := fun p hp hq => by
  obtain ⟨j, hj, e⟩ := mem_ga (h.sup p hp hq)
  rw [← e]
  exact ga_le h.asc (by omega) (by omega)
theorem Pts.ne (h : Pts P D G) : 0 < G.length := by
  cases hG : G with
  | nil =>
    have h1 : ∀ p ∈ D, p.1 = 0 := fun p hp => by
      by_cases hq : p.1 = 0
      · exact hq
      · have := h.sup p hp hq
        rw [hG] at this
        exact absurd this (by simp)
    have h2 : ∀ D : Dist, (∀ p ∈ D, p.1 = 0) → mass D = 0 := by
      intro D
      induction D with
      | nil => intro _; rfl
      | cons p D ih =>
        intro h
        show p.1 + mass D = 0
        rw [ih fun q hq => h q (List.mem_cons_of_mem _ hq), h p List.mem_cons_self]; grind
    have h3 := h.ok.one
    rw [h2 D h1] at h3
    exact absurd h3 (by decide)
  | cons a r => exact Nat.succ_pos _
def aft (P : List Knot) (k : Nat) : Rat := if k + 1 < P.length then lineSlope (kn P k) (kn P (k + 1)) else 1
def bef (P : List Knot) (k : Nat) : Rat := if k = 0 then 0 else aft P (k - 1)
theorem Pts.aft (h : Pts P D G) {k : Nat} (hk : k < P.length) : aft P k = cdf D (ga G k) := by
  unfold MF.aft
  by_cases h1 : k + 1 < P.length
  · rw [if_pos h1, h.slope h1]
  · rw [if_neg h1, cdf_top (h.le_last (by rw [← h.len]; omega)), h.ok.one]
theorem Pts.kept (h : Pts P D G) {k : Nat} (hk : k < P.length) : MF.aft P k - bef P k = massAt D (ga G k) := by
  unfold bef
  by_cases h0 : k = 0
  · rw [if_pos h0, h.aft hk, h0, cdf_massAt h.ge_first]; grind
  · rw [if_neg h0, h.aft hk, h.aft (show k - 1 < P.length by omega)]
    obtain ⟨j, rfl⟩ : ∃ j, k = j + 1 := ⟨k - 1, by omega⟩
    have hg : j + 1 < G.length := by rw [← h.len]; exact hk
    exact cdf_diff (ga_lt h.asc (by omega) hg) (h.gap hg)
def straight (P : List Knot) : List Knot := (List.range P.length).filterMap fun k => if bef P k = aft P k then none else some (kn P k)
def keepG (D : Dist) (G : List Rat) : List Rat := G.filter fun a => decide (massAt D a ≠ 0)
theorem range_filterMap {α β : Type} (f : α → Option β) (d : α) : ∀ (l : List α), (List.range l.length).filterMap (fun k => f (l.getD k d)) = l.filterMap f
  | [] => rfl
  | x :: l => by
    rw [List.length_cons, List.range_succ_eq_map, List.filterMap_cons, List.filterMap_cons, List.filterMap_map]
    have ih := range_filterMap f d l
    have e : (List.range l.length).filterMap ((fun k => f ((x :: l).getD k d)) ∘ Nat.succ) = (List.range l.length).filterMap (fun k => f (l.getD k d)) := rfl
    rw [e, ih]; rfl
theorem Pts.straight (h : Pts P D G) : straight P = (keepG D G).map fun a => (a, V D a) := by
  unfold MF.straight keepG
  have e1 : (List.range P.length).filterMap (fun k => if bef P k = MF.aft P k then none else some (MF.kn P k)) = (List.range G.length).filterMap (fun k => (fun a => if massAt D a = 0 then none else some (a, V D a)) (G.getD k 0)) := by
    rw [h.len]
    have : ∀ l : List Nat, (∀ k ∈ l, k < P.length) → l.filterMap (fun k => if bef P k = MF.aft P k then none else some (MF.kn P k)) = l.filterMap (fun k => (fun a => if massAt D a = 0 then none else some (a, V D a)) (G.getD k 0)) := by
      intro l
      induction l with
      | nil => intro _; rfl
      | cons k l ih =>
        intro hl
        have hk := hl k List.mem_cons_self
        have h1 := h.kept hk
        rw [List.filterMap_cons, List.filterMap_cons, ih fun j hj => hl j (List.mem_cons_of_mem _ hj), h.kn hk]
        have h2 : (if bef P k = MF.aft P k then none else some (ga G k, V D (ga G k))) = (if massAt D (ga G k) = 0 then none else some (ga G k, V D (ga G k))) := by
          by_cases hm : massAt D (ga G k) = 0
          · rw [if_pos hm, if_pos (by grind)]
          · rw [if_neg hm, if_neg (by grind)]
        rw [h2]; rfl
    exact this _ fun k hk => by rw [h.len]; exact List.mem_range.mp hk
  rw [e1, range_filterMap (fun a => if massAt D a = 0 then none else some (a, V D a)) 0 G]
  clear e1 h
  induction G with
  | nil => rfl
  | cons a G ih =>
    rw [List.filterMap_cons, List.filter_cons]
    by_cases hm : massAt D a = 0
    · rw [if_pos hm, if_neg (by simpa using hm)]; exact ih
    · rw [if_neg hm, if_pos (by simpa using hm), List.map_cons]
      show (a, V D a) :: _ = _
      rw [ih]
theorem Pts.kns (h : Pts P D G) : Kns (MF.straight P) D (keepG D G) where
  eq := h.straight
  asc := h.asc.filter _
  ok := h.ok
  sup := fun p hp hq => List.mem_filter.mpr ⟨h.sup p hp hq, decide_eq_true fun h0 => massAt_in h.ok.nn h0 p hp hq rfl⟩
  pos := fun a ha => of_decide_eq_true (List.mem_filter.mp ha).2
/-- what the making of a curve looks at -/
def wrong (P : List Knot) (k : Nat) : Prop :=
  (0 < k ∧ ((kn P k).1 ≤ (kn P (k - 1)).1 ∨ 1 ≤ lineSlope (kn P (k - 1)) (kn P k) ∨ lineSlope (kn P (k - 1)) (kn P k) ≤ (if k = 1 then 0 else lineSlope (kn P (k - 2)) (kn P (k - 1))))) ∨
  (k + 1 = P.length ∧ (kn P k).1 ≠ (kn P k).2)
theorem Kns.right (h : Kns P D G) : ∀ k, k < P.length → ¬ wrong P k := by
  intro k hk hw
  have hl := h.len
  rcases hw with ⟨h0, hw⟩ | ⟨h1, h2⟩
  · obtain ⟨j, rfl⟩ : ∃ j, k = j + 1 := ⟨k - 1, by omega⟩
    rw [Nat.add_sub_cancel] at hw
    have hs := h.toPts.slope hk
    have hp := h.pos (ga G j) (ga_mem (by omega))
    have hp2 := h.pos (ga G (j + 1)) (ga_mem (by omega))
    have hn2 := massAt_nn (m := ga G (j + 1)) h.ok.nn
    have hn := massAt_nn (m := ga G j) h.ok.nn
    rcases hw with hw | hw | hw
    · rw [h.toPts.kn hk, h.toPts.kn (show j < P.length by omega)] at hw
      have := ga_lt h.asc (show j < j + 1 by omega) (by omega)
      have hw : ga G (j + 1) ≤ ga G j := hw
      grind
    · rw [hs] at hw
      have h3 := h.toPts.kept hk
      have h4 := h.toPts.aft hk
      have h5 : cdf D (ga G (j + 1)) ≤ 1 := by
        have : ∀ D : Dist, (∀ p ∈ D, 0 ≤ p.1) → ∀ m, cdf D m ≤ mass D := by
          intro D
          induction D with
          | nil => intro _ m; simp only [cdf, mass]; grind
          | cons p D ih =>
            intro hD m
            have a := ih (fun q hq => hD q (List.mem_cons_of_mem _ hq)) m
            have c := hD p List.mem_cons_self
            show (if p.2 ≤ m then p.1 else 0) + cdf D m ≤ p.1 + mass D
            split <;> grind
        have := this D h.ok.nn (ga G (j + 1))
        rw [h.ok.one] at this
        exact this
      have h6 : bef P (j + 1) = cdf D (ga G j) := by
        unfold bef
        rw [if_neg (by omega), Nat.add_sub_cancel]
        exact h.toPts.aft (by omega)
      grind
    · rw [hs] at hw
      have h3 := h.toPts.kept (show j < P.length by omega)
      have h4 := h.toPts.aft (show j < P.length by omega)
      by_cases hj : j = 0
      · subst hj
        rw [if_pos rfl] at hw
        have h5 : bef P 0 = 0 := rfl
        grind
      · rw [if_neg (by omega)] at hw
        have h5 : bef P j = MF.aft P (j - 1) := by unfold bef; rw [if_neg hj]
        have h6 : MF.aft P (j - 1) = lineSlope (MF.kn P (j + 1 - 2)) (MF.kn P j) := by
          unfold MF.aft
          rw [if_pos (by omega)]
          have e1 : j - 1 + 1 = j := by omega
          have e2 : j + 1 - 2 = j - 1 := by omega
          rw [e1, e2]
        grind
  · rw [h.toPts.kn hk] at h2
    have h3 := h.toPts.le_last (show k + 1 = G.length by omega)
    have h4 := V_top h3
    rw [h.ok.one] at h4
    exact h2 (show ga G k = V D (ga G k) by rw [h4]; grind)
/-- the slope to the right of an amount -/
def slopeAt (P : List Knot) (m : Rat) : Rat :=
  if m < (kn P 0).1 then 0 else
  match (List.range P.length).find? (fun k => decide (0 < k ∧ m < (kn P k).1)) with
  | some k => lineSlope (kn P (k - 1)) (kn P k)
  | none => 1
theorem cdf_same : ∀ {D : Dist} {a m : Rat}, a ≤ m → (∀ p ∈ D, p.1 ≠ 0 → p.2 ≤ a ∨ m < p.2) → cdf D m = cdf D a
  | [], _, _, _, _ => rfl
  | (q, x) :: D, a, m, h, hs => by
    simp only [cdf]
    rw [cdf_same h fun p hp => hs p (List.mem_cons_of_mem _ hp)]
    by_cases hq : q = 0
    · rw [hq]; repeat' split <;> grind
    · rcases hs (q, x) List.mem_cons_self hq with h1 | h1
      · have h1 : x ≤ a := h1
        rw [if_pos h1, if_pos (by grind)]
      · have h1 : m < x := h1
        rw [if_neg (by grind), if_neg (by grind)]
theorem Pts.slopeAt (h : Pts P D G) (m : Rat) : slopeAt P m = cdf D m := by
  have hl := h.len
  have hne := h.ne
  unfold MF.slopeAt
  rw [h.kn (show 0 < P.length by omega)]
  by_cases h0 : m < ga G 0
  · rw [if_pos h0, cdf_low fun p hp hq => by have := h.ge_first p hp hq; grind]
  · rw [if_neg h0]
    cases hf : (List.range P.length).find? (fun k => decide (0 < k ∧ m < (MF.kn P k).1)) with
    | some k =>
      have hff : decide (0 < k ∧ m < (MF.kn P k).1) = true := List.find?_some (p := fun k => decide (0 < k ∧ m < (MF.kn P k).1)) hf
      obtain ⟨hk0, hkm⟩ := of_decide_eq_true hff
      have hk : k < P.length := List.mem_range.mp (List.mem_of_find?_eq_some hf)
      obtain ⟨j, rfl⟩ : ∃ j, k = j + 1 := ⟨k - 1, by omega⟩
      show lineSlope (MF.kn P (j + 1 - 1)) (MF.kn P (j + 1)) = _
      rw [Nat.add_sub_cancel, h.slope hk]
      have hj : ga G j ≤ m := by
        by_cases hj0 : j = 0
        · rw [hj0]; grind
        · have h2 := List.find?_range_eq_some.mp hf
          have h3 := h2.2.2 j (by omega)
          rw [h.kn (show j < P.length by omega)] at h3
          have h4 : ¬ m < ga G j := fun z => by simp [z] at h3; omega
          grind
      rw [h.kn hk] at hkm
      refine (cdf_same hj fun p hp hq => ?_).symm
      rcases h.gap (k := j) (by omega) p hp hq with z | z
      · exact .inl z
      · exact .inr (by have hkm : m < ga G (j + 1) := hkm; grind)
    | none =>
      have h2 := List.find?_eq_none.mp hf
      have h3 : ga G (G.length - 1) ≤ m := by
        by_cases h4 : G.length - 1 = 0
        · rw [h4]; grind
        · have h5 := h2 (G.length - 1) (List.mem_range.mpr (by omega))
          rw [h.kn (show G.length - 1 < P.length by omega)] at h5
          have h6 : ¬ m < ga G (G.length - 1) := fun z => h5 (decide_eq_true ⟨by omega, z⟩)
          grind
      rw [cdf_top (m := m) fun p hp hq => Rat.le_trans (h.le_last (k := G.length - 1) (by omega) p hp hq) h3, h.ok.one]
end
/-! ### the merged amounts -/
def mrg : List Rat → List Rat → List Rat
  | [], ys => ys
  | x :: xs, [] => x :: xs
  | x :: xs, y :: ys => if x < y then x :: mrg xs (y :: ys) else if y < x then y :: mrg (x :: xs) ys else x :: mrg xs ys
termination_by xs ys => xs.length + ys.length
theorem mem_mrg : ∀ {xs ys : List Rat} {a : Rat}, a ∈ mrg xs ys ↔ a ∈ xs ∨ a ∈ ys
  | [], ys, a => by simp [mrg]
  | x :: xs, [], a => by simp [mrg]
  | x :: xs, y :: ys, a => by
    rw [mrg]
    split
    · rw [List.mem_cons, mem_mrg]; simp [or_assoc]
    · split
      · rw [List.mem_cons, mem_mrg]; simp only [List.mem_cons]; grind
      · have e : x = y := by grind
        subst e
        rw [List.mem_cons, mem_mrg]; simp only [List.mem_cons]; grind
termination_by xs ys => xs.length + ys.length
theorem mrg_asc : ∀ {xs ys : List Rat}, xs.Pairwise (· < ·) → ys.Pairwise (· < ·) → (mrg xs ys).Pairwise (· < ·)
  | [], ys, _, h => by simp only [mrg]; exact h
  | x :: xs, [], h, _ => by simp only [mrg]; exact h
  | x :: xs, y :: ys, hx, hy => by
    obtain ⟨hx1, hx2⟩ := List.pairwise_cons.mp hx
    obtain ⟨hy1, hy2⟩ := List.pairwise_cons.mp hy
    rw [mrg]
    split
    · rename_i h
      refine List.pairwise_cons.mpr ⟨fun a ha => ?_, mrg_asc hx2 hy⟩
      rcases mem_mrg.mp ha with h1 | h1
      · exact hx1 a h1
      · rcases List.mem_cons.mp h1 with e | h1
        · rw [e]; exact h
        · have := hy1 a h1; grind
    · split
      · rename_i h0 h
        refine List.pairwise_cons.mpr ⟨fun a ha => ?_, mrg_asc hx hy2⟩
        rcases mem_mrg.mp ha with h1 | h1
        · rcases List.mem_cons.mp h1 with e | h1
          · rw [e]; exact h
          · have := hx1 a h1; grind
        · exact hy1 a h1
      · have e : x = y := by grind
        subst e
        refine List.pairwise_cons.mpr ⟨fun a ha => ?_, mrg_asc hx2 hy2⟩
        rcases mem_mrg.mp ha with h1 | h1
        · exact hx1 a h1
        · exact hy1 a h1
termination_by xs ys => xs.length + ys.length
theorem mrg_len : ∀ {xs ys : List Rat}, (mrg xs ys).length ≤ xs.length + ys.length
  | [], ys => by simp [mrg]
  | x :: xs, [] => by simp [mrg]
  | x :: xs, y :: ys => by
    rw [mrg]
    split
    · have := mrg_len (xs := xs) (ys := y :: ys); simp only [List.length_cons] at *; omega
    · split
      · have := mrg_len (xs := x :: xs) (ys := ys); simp only [List.length_cons] at *; omega
      · have := mrg_len (xs := xs) (ys := ys); simp only [List.length_cons] at *; omega
termination_by xs ys => xs.length + ys.length
/-! ### the product's points, from the last amount down -/
def pks (s : Rat → Rat) : List Rat → List Knot
  | [] => []
  | [a] => [(a, a)]
  | a :: a' :: r => (a, (kn (pks s (a' :: r)) 0).2 - s a * (a' - a)) :: pks s (a' :: r)
def prodKnots (P Q : List Knot) : List Knot := straight (pks (fun a => slopeAt P a * slopeAt Q a) (mrg (P.map (·.1)) (Q.map (·.1))))
theorem pks_eq {D : Dist} (ok : Dist.Ok D) {s : Rat → Rat} (hs : ∀ a, s a = cdf D a) : ∀ (pre A : List Rat), (pre ++ A).Pairwise (· < ·) → (∀ p ∈ D, p.1 ≠ 0 → p.2 ∈ pre ++ A) → pks s A = A.map fun a => (a, V D a)
  | _, [], _, _ => rfl
  | pre, [a], hp, hm => by
    simp only [pks, List.map_cons, List.map_nil]
    have h1 : ∀ p ∈ D, p.1 ≠ 0 → p.2 ≤ a := fun p hp2 hq => by
      rcases List.mem_append.mp (hm p hp2 hq) with h | h
      · exact Rat.le_of_lt ((List.pairwise_append.mp hp).2.2 _ h a (by simp))
      · rw [List.mem_singleton.mp h]; exact Rat.le_refl
    rw [V_top h1, ok.one]
    congr 2; grind
  | pre, a :: a' :: r, hp, hm => by
    have ih := pks_eq ok hs (pre ++ [a]) (a' :: r) (by simpa using hp) (by simpa using hm)
    simp only [pks]
    rw [ih]
    simp only [List.map_cons]
    congr 2
    show V D a' - s a * (a' - a) = V D a
    have h2 := (List.pairwise_append.mp hp).2.1
    have h3 : a < a' := (List.pairwise_cons.mp h2).1 a' (by simp)
    have h4 := V_diff (D := D) (Rat.le_of_lt h3) fun p hp2 hq => by
      rcases List.mem_append.mp (hm p hp2 hq) with h | h
      · exact .inl (Rat.le_of_lt ((List.pairwise_append.mp hp).2.2 _ h a (by simp)))
      · rcases List.mem_cons.mp h with h | h
        · exact .inl (by rw [h]; exact Rat.le_refl)
        · rcases List.mem_cons.mp h with h | h
          · exact .inr (by rw [h]; exact Rat.le_refl)
          · exact .inr (Rat.le_of_lt ((List.pairwise_cons.mp (List.pairwise_cons.mp h2).2).1 _ h))
    rw [hs a]; grind
theorem Pts.amts {P : List Knot} {D : Dist} {G : List Rat} (h : Pts P D G) : P.map (·.1) = G := by
  rw [h.eq, List.map_map]
  have : ((fun x : Knot => x.1) ∘ fun a => (a, V D a)) = id := rfl
  rw [this, List.map_id]
theorem prod_pts {P Q : List Knot} {D E : Dist} {G F : List Rat} (h : Pts P D G) (k : Pts Q E F) : Pts (pks (fun a => slopeAt P a * slopeAt Q a) (mrg (P.map (·.1)) (Q.map (·.1)))) (dmul D E) (mrg G F) := by
  have sup : ∀ p ∈ dmul D E, p.1 ≠ 0 → p.2 ∈ mrg G F := fun p hp hq => by
    obtain ⟨x, hx, y, hy, rfl⟩ := mem_dmul hp
    have hx0 : x.1 ≠ 0 := fun z => hq (show x.1 * y.1 = 0 by rw [z]; grind)
    have hy0 : y.1 ≠ 0 := fun z => hq (show x.1 * y.1 = 0 by rw [z]; grind)
    refine mem_mrg.mpr ?_
    show mx x.2 y.2 ∈ G ∨ mx x.2 y.2 ∈ F
    unfold mx
    split
    · exact .inr (k.sup y hy hy0)
    · exact .inl (h.sup x hx hx0)
  refine ⟨?_, mrg_asc h.asc k.asc, dmul_ok h.ok k.ok, sup⟩
  rw [h.amts, k.amts]
  exact pks_eq (dmul_ok h.ok k.ok) (fun a => by rw [h.slopeAt, k.slopeAt, cdf_dmul]) [] _ (by simpa using mrg_asc h.asc k.asc) (by simpa using sup)
theorem prod_kns {P Q : List Knot} {D E : Dist} {G F : List Rat} (h : Pts P D G) (k : Pts Q E F) : Kns (prodKnots P Q) (dmul D E) (keepG (dmul D E) (mrg G F)) := (prod_pts h k).kns
end MF
set_option linter.all false
/-! MG: the leave values and the index order of one game as the program computes them -/
namespace MG
open MA ME
abbrev Rw := List (Nat × Rat)
structure Gm where
  rw : List Rat
  mv : List Rw
def Gm.n (G : Gm) : Nat := G.rw.length
def Gm.r (G : Gm) (s : Nat) : Rat := gt G.rw s
def Gm.row (G : Gm) (s : Nat) : Rw := G.mv.getD s []
structure Gm.Ok (G : Gm) : Prop where
  len : G.mv.length = G.rw.length
  pos : 0 < G.rw.length
  rows : ∀ s, s < G.n → Row G.n (G.row s)
/-- the place of t in I -/
def ixOf : List Nat → Nat → Option Nat
  | [], _ => none
  | x :: r, t => if x = t then some 0 else (ixOf r t).map (· + 1)
theorem ixOf_lt : ∀ {I : List Nat} {t c : Nat}, ixOf I t = some c → c < I.length ∧ I.getD c 0 = t
  | [], _, _, h => nomatch h
  | x :: r, t, c, h => by
    unfold ixOf at h
    by_cases e : x = t
    · rw [if_pos e] at h
      cases h
      exact ⟨Nat.succ_pos _, e⟩
    · rw [if_neg e] at h
      obtain ⟨d, hd, rfl⟩ := Option.map_eq_some_iff.mp h
      obtain ⟨h1, h2⟩ := ixOf_lt hd
      exact ⟨Nat.succ_lt_succ h1, h2⟩
theorem ixOf_none : ∀ {I : List Nat} {t : Nat}, ixOf I t = none ↔ t ∉ I
  | [], t => by simp [ixOf]
  | x :: r, t => by
    unfold ixOf
    by_cases e : x = t
    · rw [if_pos e]; simp [e]
    · rw [if_neg e, Option.map_eq_none_iff, ixOf_none]
      simp [Ne.symm e]
theorem ixOf_at : ∀ {I : List Nat} {c : Nat}, I.Nodup → c < I.length → ixOf I (I.getD c 0) = some c
  | [], c, _, h => absurd h (by simp)
  | x :: r, 0, _, _ => by
    show ixOf (x :: r) x = some 0
    unfold ixOf; rw [if_pos rfl]
  | x :: r, c + 1, hn, h => by
    obtain ⟨h1, h2⟩ := List.nodup_cons.mp hn
    have hc : c < r.length := Nat.lt_of_succ_lt_succ h
    show ixOf (x :: r) (r.getD c 0) = some (c + 1)
    unfold ixOf
    have hm : r.getD c 0 ∈ r := by
      rw [List.getD_eq_getElem?_getD, List.getElem?_eq_getElem hc]; exact List.getElem_mem hc
    rw [if_neg fun e => h1 (by rw [e]; exact hm), ixOf_at h2 hc]; rfl
/-- a row of the matrix and what leaves, pair by pair -/
def acc (b : Rat) (ix : Nat → Option Nat) : Rw → List Rat × Rat → List Rat × Rat
  | [], x => x
  | (t, p) :: r, x => acc b ix r (match ix t with | some c => (x.1.set c (gt x.1 c - b * p), x.2) | none => (x.1, x.2 + b * p))
theorem gt_set {l : List Rat} {c d : Nat} {x : Rat} (h : c < l.length) : gt (l.set c x) d = if d = c then x else gt l d := by
  by_cases e : d = c
  · rw [if_pos e, e]; exact gt_of (List.getElem?_set_self h)
  · rw [if_neg e]; unfold gt
    rw [List.getD_eq_getElem?_getD, List.getD_eq_getElem?_getD, List.getElem?_set_ne (Ne.symm e)]
theorem acc_spec (b : Rat) (ix : Nat → Option Nat) (m : Nat) (hix : ∀ t c, ix t = some c → c < m) : ∀ (r : Rw) (x : List Rat × Rat), x.1.length = m →
    (acc b ix r x).1.length = m ∧ (∀ c, gt (acc b ix r x).1 c = gt x.1 c - b * ex r (fun t => if ix t = some c then 1 else 0)) ∧ (acc b ix r x).2 = x.2 + b * ex r (fun t => if ix t = none then 1 else 0)
  | [], x, h => ⟨h, fun c => by simp only [acc, ex]; grind, by simp only [acc, ex]; grind⟩
  | (t, p) :: r, x, h => by
    simp only [acc, ex]
    cases hi : ix t with
    | some c =>
      have hc := hix t c hi
      obtain ⟨h1, h2, h3⟩ := acc_spec b ix m hix r (x.1.set c (gt x.1 c - b * p), x.2) (by rw [List.length_set]; exact h)
      refine ⟨h1, fun d => ?_, ?_⟩
      · rw [h2 d, gt_set (by omega)]
        by_cases e : d = c
        · rw [if_pos e, e, if_pos rfl]; grind
        · rw [if_neg e, if_neg fun z => e (Option.some.inj z).symm]; grind
      · rw [h3, if_neg (by simp)]; grind
    | none =>
      obtain ⟨h1, h2, h3⟩ := acc_spec b ix m hix r (x.1, x.2 + b * p) h
      refine ⟨h1, fun d => ?_, ?_⟩
      · rw [h2 d, if_neg (by simp)]; grind
      · rw [h3, if_pos rfl]; grind
theorem S_exswap (m : Nat) : ∀ (r : Rw) (f : Nat → Nat → Rat), S m (fun c => ex r (fun t => f t c)) = ex r (fun t => S m (f t))
  | [], f => by simp only [ex]; rw [S_zero fun _ _ => rfl]
  | (t, p) :: r, f => by
    simp only [ex]
    rw [S_add, S_mul, S_exswap m r f]
/-- the matrix of the leave values and of a table of choices -/
def unitR (m i : Nat) : List Rat := (List.replicate m 0).set i 1
theorem gt_unitR {m i d : Nat} (h : i < m) : gt (unitR m i) d = if d = i then 1 else 0 := by
  unfold unitR
  rw [gt_set (by rw [List.length_replicate]; exact h)]
  by_cases e : d = i
  · rw [if_pos e, if_pos e]
  · rw [if_neg e, if_neg e]
    unfold gt
    rw [List.getD_eq_getElem?_getD, List.getElem?_replicate]
    split <;> rfl
theorem unitR_len (m i : Nat) : (unitR m i).length = m := by unfold unitR; rw [List.length_set, List.length_replicate]
/-- rows i of I - bP, the matrix of m rows whose i-th row goes by rowf i and ix -/
def matM (b : Rat) (ix : Nat → Option Nat) (m : Nat) (rowf : Nat → Rw) : List (List Rat) := (List.range m).map fun i => (acc b ix (rowf i) (unitR m i, 0)).1
theorem matM_row {b : Rat} {ix : Nat → Option Nat} {m : Nat} {rowf : Nat → Rw} {i : Nat} (h : i < m) : (matM b ix m rowf).getD i [] = (acc b ix (rowf i) (unitR m i, 0)).1 := by
  unfold matM
  rw [List.getD_eq_getElem?_getD, List.getElem?_map, List.getElem?_range h]; rfl
section
variable {b : Rat} {ix : Nat → Option Nat} {m n : Nat} {rowf : Nat → Rw}
theorem matM_gt (hix : ∀ t c, ix t = some c → c < m) {i c : Nat} (h : i < m) : rw_ (matM b ix m rowf) i c = (if c = i then 1 else 0) - b * ex (rowf i) (fun t => if ix t = some c then 1 else 0) := by
  unfold rw_
  rw [matM_row h, (acc_spec b ix m hix (rowf i) (unitR m i, 0) (unitR_len m i)).2.1 c, gt_unitR h]
theorem matM_sum (hix : ∀ t c, ix t = some c → c < m) {i : Nat} (h : i < m) (x : Nat → Rat) : S m (fun c => rw_ (matM b ix m rowf) i c * x c) = x i - b * ex (rowf i) (fun t => match ix t with | some c => x c | none => 0) := by
  rw [S_congr (h := fun c => (if c = i then 1 else 0) * x c - b * (ex (rowf i) (fun t => if ix t = some c then 1 else 0) * x c)) fun c hc => by rw [matM_gt hix h]; grind]
  rw [S_sub, S_mul, S_one i h fun j _ hne => by rw [if_neg hne]; grind]
  rw [if_pos rfl]
  have e : S m (fun c => ex (rowf i) (fun t => if ix t = some c then 1 else 0) * x c) = ex (rowf i) (fun t => match ix t with | some c => x c | none => 0) := by
    rw [S_congr (h := fun c => ex (rowf i) (fun t => (if ix t = some c then 1 else 0) * x c)) fun c _ => by rw [ex_mulr]]
    rw [S_exswap]
    refine ex_congr fun p _ => ?_
    cases hi : ix p.1 with
    | none => exact S_zero fun c _ => by rw [if_neg (by simp)]; grind
    | some d =>
      rw [S_one d (hix _ _ hi) fun j _ hne => by rw [if_neg fun z => hne (Option.some.inj z).symm]; grind]
      rw [if_pos rfl]; grind
  rw [e]; grind
theorem matM_nd (hb0 : 0 ≤ b) (hb1 : b < 1) (hix : ∀ t c, ix t = some c → c < m) (hr : ∀ i, i < m → Row n (rowf i)) : NoDep m (matM b ix m rowf) := fun y hy => by
  refine noDep (P := fun s c => ex (rowf s) (fun t => if ix t = some c then 1 else 0)) hb0 hb1 (fun s c hs _ => ?_) (fun s hs => ?_) fun c hc => ?_
  · have := ex_le (r := rowf s) (x := fun _ => 0) (y := fun t => if ix t = some c then 1 else 0) (hr s hs).nn fun p _ => by
      show (0 : Rat) ≤ if ix p.1 = some c then 1 else 0
      split <;> decide
    rw [ex_const] at this
    grind
  · show S m (fun c => ex (rowf s) (fun t => if ix t = some c then 1 else 0)) ≤ 1
    rw [S_exswap]
    have h1 := (hr s hs).const (n := n) 1
    refine Rat.le_trans (ex_le (y := fun _ => 1) (hr s hs).nn fun p _ => ?_) (by rw [h1]; exact Rat.le_refl)
    cases hi : ix p.1 with
    | none => rw [S_zero fun c _ => by rw [if_neg (by simp)]]; decide
    | some d =>
      rw [S_one d (hix _ _ hi) fun j _ hne => by rw [if_neg fun z => hne (Option.some.inj z).symm]]
      rw [if_pos rfl]; exact Rat.le_refl
  · have h1 := hy c hc
    rw [S_congr (h := fun i => y i * (if c = i then 1 else 0) - b * (y i * ex (rowf i) (fun t => if ix t = some c then 1 else 0))) fun i hi => by rw [matM_gt hix hi]; grind] at h1
    rw [S_sub, S_mul, S_one c hc fun j _ hne => by rw [if_neg (Ne.symm hne)]; grind] at h1
    rw [if_pos rfl] at h1
    grind
end
/-! ### leave values -/
def leaveB (G : Gm) (b : Rat) (I : List Nat) : List (List Rat) := (List.range I.length).map fun i => [G.r (I.getD i 0), (acc b (ixOf I) (G.row (I.getD i 0)) (unitR I.length i, 0)).2]
def leaveA (G : Gm) (b : Rat) (I : List Nat) : List (List Rat) := matM b (ixOf I) I.length fun i => G.row (I.getD i 0)
def leaveM (G : Gm) (b : Rat) (I : List Nat) : List (List Rat) := solM I.length (leaveA G b I) (leaveB G b I)
def lvE (G : Gm) (b : Rat) (I : List Nat) (s : Nat) : Rat := match ixOf I s with | some c => rw_ (leaveM G b I) c 0 | none => 0
def lvG (G : Gm) (b : Rat) (I : List Nat) (s : Nat) : Rat := match ixOf I s with | some c => rw_ (leaveM G b I) c 1 | none => 1
structure Disc (b : Rat) : Prop where
  b0 : 0 ≤ b
  b1 : b < 1
/-- a set of states, as a list without repetition -/
structure Ins (G : Gm) (I : List Nat) : Prop where
  nd : I.Nodup
  lt : ∀ s ∈ I, s < G.n
section
variable {G : Gm} {b : Rat} {I : List Nat}
theorem Ins.get (h : Ins G I) {i : Nat} (hi : i < I.length) : I.getD i 0 < G.n := h.lt _ (by rw [List.getD_eq_getElem?_getD, List.getElem?_eq_getElem hi]; exact List.getElem_mem hi)
theorem leave_sys (O : G.Ok) (B : Disc b) (h : Ins G I) : Sys I.length 2 (leaveA G b I) (leaveB G b I) where
  lM := by unfold leaveA matM; rw [List.length_map, List.length_range]
  lb := by unfold leaveB; rw [List.length_map, List.length_range]
  rM := fun i hi => by
    unfold leaveA
    rw [matM_row hi]
    exact (acc_spec b (ixOf I) I.length (fun t c e => (ixOf_lt e).1) _ _ (unitR_len _ i)).1
  rb := fun i hi => by
    unfold leaveB
    rw [List.getD_eq_getElem?_getD, List.getElem?_map, List.getElem?_range hi]; rfl
  nd := matM_nd (n := G.n) B.b0 B.b1 (fun t c e => (ixOf_lt e).1) fun i hi => O.rows _ (h.get hi)
theorem leaveB_0 {i : Nat} (hi : i < I.length) : rw_ (leaveB G b I) i 0 = G.r (I.getD i 0) := by
  unfold rw_ leaveB
  rw [List.getD_eq_getElem?_getD, List.getElem?_map, List.getElem?_range hi]; rfl
theorem leaveB_1 {i : Nat} (hi : i < I.length) : rw_ (leaveB G b I) i 1 = b * ex (G.row (I.getD i 0)) (fun t => if ixOf I t = none then 1 else 0) := by
  have h := (acc_spec b (ixOf I) I.length (fun t c e => (ixOf_lt e).1) (G.row (I.getD i 0)) (unitR I.length i, 0) (unitR_len _ i)).2.2
  unfold rw_ leaveB
  rw [List.getD_eq_getElem?_getD, List.getElem?_map, List.getElem?_range hi]
  show (acc b (ixOf I) (G.row (I.getD i 0)) (unitR I.length i, 0)).2 = _
  rw [h]; grind
theorem lv_in (O : G.Ok) (B : Disc b) (h : Ins G I) {s : Nat} (hs : s ∈ I) : lvE G b I s = G.r s + b * ex (G.row s) (lvE G b I) ∧ lvG G b I s = b * ex (G.row s) (lvG G b I) := by
  have Y := leave_sys O B h
  cases hi : ixOf I s with
  | none => exact absurd hs (ixOf_none.mp hi)
  | some c =>
    obtain ⟨hc, e⟩ := ixOf_lt hi
    have h0 := sol_eq Y (i := c) (t := 0) hc (by decide)
    have h1 := sol_eq Y (i := c) (t := 1) hc (by decide)
    rw [leaveB_0 hc, e] at h0
    rw [leaveB_1 hc, e] at h1
    unfold leaveA at h0 h1
    rw [matM_sum (fun t c e => (ixOf_lt e).1) hc, e] at h0 h1
    have e0 : lvE G b I s = rw_ (leaveM G b I) c 0 := by unfold lvE; rw [hi]
    have e1 : lvG G b I s = rw_ (leaveM G b I) c 1 := by unfold lvG; rw [hi]
    refine ⟨?_, ?_⟩
    · rw [e0]
      have : ex (G.row s) (lvE G b I) = ex (G.row s) (fun t => match ixOf I t with | some c => rw_ (leaveM G b I) c 0 | none => 0) := rfl
      rw [this]
      unfold leaveM leaveA
      grind
    · rw [e1]
      have : ex (G.row s) (lvG G b I) = ex (G.row s) (fun t => (match ixOf I t with | some c => rw_ (leaveM G b I) c 1 | none => 0)) + ex (G.row s) (fun t => if ixOf I t = none then 1 else 0) := by
        rw [← ex_add]
        refine ex_congr fun p _ => ?_
        unfold lvG
        cases hp : ixOf I p.1 with
        | none => simp only [if_pos]; grind
        | some d => simp only [if_neg, reduceCtorEq, if_false]; grind
      rw [this]
      unfold leaveM leaveA
      grind
theorem lv_out {s : Nat} (hs : s ∉ I) : lvE G b I s = 0 ∧ lvG G b I s = 1 := by
  have := ixOf_none.mpr hs
  unfold lvE lvG
  rw [this]
  exact ⟨rfl, rfl⟩
/-- the leave values hang on the set alone -/
theorem lv_same (O : G.Ok) (B : Disc b) {J : List Nat} (h : Ins G I) (h' : Ins G J) (e : ∀ s, s ∈ I ↔ s ∈ J) : ∀ s, s < G.n → lvE G b I s = lvE G b J s ∧ lvG G b I s = lvG G b J s := by
  have a1 := uniq (n := G.n) (x := lvE G b I) (y := lvE G b J) B.b0 B.b1 fun s hs => by
    by_cases hI : s ∈ I
    · exact .inr ⟨_, G.r s, O.rows s hs, (lv_in O B h hI).1, (lv_in O B h' ((e s).mp hI)).1⟩
    · exact .inl (by rw [(lv_out hI).1, (lv_out fun z => hI ((e s).mpr z)).1])
  have a2 := uniq (n := G.n) (x := lvG G b I) (y := lvG G b J) B.b0 B.b1 fun s hs => by
    by_cases hI : s ∈ I
    · exact .inr ⟨_, 0, O.rows s hs, by rw [(lv_in O B h hI).2]; grind, by rw [(lv_in O B h' ((e s).mp hI)).2]; grind⟩
    · exact .inl (by rw [(lv_out hI).2, (lv_out fun z => hI ((e s).mpr z)).2])
  exact fun s hs => ⟨a1 s hs, a2 s hs⟩
end
/-! ### the next state -/
def exE (G : Gm) (b : Rat) (I : List Nat) (s : Nat) : Rat := G.r s + b * ex (G.row s) (lvE G b I)
def exG (G : Gm) (b : Rat) (I : List Nat) (s : Nat) : Rat := b * ex (G.row s) (lvG G b I)
def cand (G : Gm) (b : Rat) (I : List Nat) (s : Nat) : Rat := exE G b I s / (1 - exG G b I s)
def better (best : Option (Nat × Rat)) (s : Nat) (c : Rat) : Option (Nat × Rat) := match best with
  | none => some (s, c)
  | some q => if q.2 < c then some (s, c) else some q
def nextTo (G : Gm) (b : Rat) (I : List Nat) : Nat → Option (Nat × Rat)
  | 0 => none
  | s + 1 => if s ∈ I then nextTo G b I s else better (nextTo G b I s) s (cand G b I s)
def nextM (G : Gm) (b : Rat) (I : List Nat) : Nat × Rat := (nextTo G b I G.n).getD (0, 0)
section
variable {G : Gm} {b : Rat} {I : List Nat}
theorem nextTo_spec : ∀ k, (nextTo G b I k = none ∧ ∀ s, s < k → s ∈ I) ∨ ∃ q, nextTo G b I k = some q ∧ q.1 < k ∧ q.1 ∉ I ∧ q.2 = cand G b I q.1 ∧ ∀ s, s < k → s ∉ I → cand G b I s ≤ q.2
  | 0 => .inl ⟨rfl, fun s h => by omega⟩
  | k + 1 => by
    have ih := nextTo_spec k
    unfold nextTo
    by_cases hk : k ∈ I
    · rw [if_pos hk]
      rcases ih with ⟨h1, h2⟩ | ⟨q, h1, h2, h3, h4, h5⟩
      · exact .inl ⟨h1, fun s hs => by
          by_cases e : s = k
          · rw [e]; exact hk
          · exact h2 s (by omega)⟩
      · exact .inr ⟨q, h1, by omega, h3, h4, fun s hs hI => by
          by_cases e : s = k
          · rw [e] at hI; exact absurd hk hI
          · exact h5 s (by omega) hI⟩
    · rw [if_neg hk]
      rcases ih with ⟨h1, h2⟩ | ⟨q, h1, h2, h3, h4, h5⟩
      · rw [h1]
        refine .inr ⟨(k, cand G b I k), rfl, Nat.lt_succ_self k, hk, rfl, fun s hs hI => ?_⟩
        by_cases e : s = k
        · rw [e]; exact Rat.le_refl
        · exact absurd (h2 s (by omega)) hI
      · rw [h1]
        unfold better
        by_cases hc : q.2 < cand G b I k
        · refine .inr ⟨(k, cand G b I k), if_pos hc, Nat.lt_succ_self k, hk, rfl, fun s hs hI => ?_⟩
          by_cases e : s = k
          · rw [e]; exact Rat.le_refl
          · have := h5 s (by omega) hI
            show cand G b I s ≤ cand G b I k
            grind
        · refine .inr ⟨q, if_neg hc, by omega, h3, h4, fun s hs hI => ?_⟩
          by_cases e : s = k
          · rw [e]; grind
          · exact h5 s (by omega) hI
theorem nextM_spec (h : ∃ s, s < G.n ∧ s ∉ I) : nextTo G b I G.n = some (nextM G b I) ∧ (nextM G b I).1 < G.n ∧ (nextM G b I).1 ∉ I ∧ (nextM G b I).2 = cand G b I (nextM G b I).1 ∧ ∀ s, s < G.n → s ∉ I → cand G b I s ≤ (nextM G b I).2 := by
  unfold nextM
  rcases nextTo_spec (G := G) (b := b) (I := I) G.n with ⟨h1, h2⟩ | ⟨q, h1, h2⟩
  · obtain ⟨s, hs, hI⟩ := h
    exact absurd (h2 s hs) hI
  · rw [h1]
    exact ⟨rfl, h2⟩
end
/-! ### the order -/
def srt (l : List Nat) : List Nat := l.mergeSort fun a b => decide (a ≤ b)
theorem srt_perm (l : List Nat) : (srt l).Perm l := List.mergeSort_perm l _
theorem srt_asc (l : List Nat) : (srt l).Pairwise (· ≤ ·) := by
  have h := List.pairwise_mergeSort (le := fun a b : Nat => decide (a ≤ b)) (fun a b c h1 h2 => by simp at *; omega) (fun a b => by simp; omega) l
  exact h.imp fun h => by simpa using h
theorem perm_asc_eq : ∀ {l m : List Nat}, l.Perm m → l.Pairwise (· ≤ ·) → m.Pairwise (· ≤ ·) → l = m
  | [], m, h, _, _ => (List.Perm.nil_eq h)
  | x :: l, [], h, _, _ => absurd h.length_eq (by simp)
  | x :: l, y :: m, h, h1, h2 => by
    obtain ⟨a1, a2⟩ := List.pairwise_cons.mp h1
    obtain ⟨c1, c2⟩ := List.pairwise_cons.mp h2
    have e : x = y := by
      have m1 : x ∈ y :: m := h.mem_iff.mp List.mem_cons_self
      have m2 : y ∈ x :: l := h.mem_iff.mpr List.mem_cons_self
      rcases List.mem_cons.mp m1 with e | m1
      · exact e
      · rcases List.mem_cons.mp m2 with e | m2
        · exact e.symm
        · have := a1 y m2
          have := c1 x m1
          omega
    subst e
    rw [perm_asc_eq (h.cons_inv) a2 c2]
/-- the first k chosen states with their indexes, and the sorted set of the states -/
def ordTo (G : Gm) (b : Rat) : Nat → List (Nat × Rat) × List Nat
  | 0 => ([], [])
  | k + 1 => ((ordTo G b k).1 ++ [nextM G b (ordTo G b k).2], srt ((ordTo G b k).2 ++ [(nextM G b (ordTo G b k).2).1]))
def ordM (G : Gm) (b : Rat) : List (Nat × Rat) := (ordTo G b G.n).1
def sq (G : Gm) (b : Rat) (k : Nat) : Nat := ((ordM G b).getD k (0, 0)).1
def nu (G : Gm) (b : Rat) (k : Nat) : Rat := ((ordM G b).getD k (0, 0)).2
/-- the first k states of the order, sorted -/
def front (G : Gm) (b : Rat) (k : Nat) : List Nat := srt (((ordM G b).take k).map (·.1))
section
variable {G : Gm} {b : Rat}
theorem ordTo_len : ∀ k, (ordTo G b k).1.length = k
  | 0 => rfl
  | k + 1 => by unfold ordTo; rw [List.length_append, ordTo_len k]; rfl
theorem ordTo_take : ∀ {j k}, j ≤ k → (ordTo G b k).1.take j = (ordTo G b j).1
  | j, 0, h => by
    have : j = 0 := by omega
    rw [this]; rfl
  | j, k + 1, h => by
    by_cases e : j = k + 1
    · rw [e, List.take_of_length_le (by rw [ordTo_len]; exact Nat.le_refl _)]
    · show ((ordTo G b k).1 ++ [nextM G b (ordTo G b k).2]).take j = _
      rw [List.take_append_of_le_length (by rw [ordTo_len]; omega), ordTo_take (by omega)]
theorem ordTo_get {k j : Nat} (h : k < j) : (ordTo G b j).1.getD k (0, 0) = nextM G b (ordTo G b k).2 := by
  have h1 : (ordTo G b j).1.take (k + 1) = (ordTo G b (k + 1)).1 := ordTo_take (by omega)
  have h2 : ((ordTo G b j).1.take (k + 1)).getD k (0, 0) = (ordTo G b j).1.getD k (0, 0) := by
    rw [List.getD_eq_getElem?_getD, List.getElem?_take_of_lt (Nat.lt_succ_self k), List.getD_eq_getElem?_getD]
  rw [← h2, h1]
  show ((ordTo G b k).1 ++ [nextM G b (ordTo G b k).2]).getD k (0, 0) = _
  exact getD_app_end (ordTo_len k).symm
theorem ordTo_set : ∀ k, (ordTo G b k).2 = srt ((ordTo G b k).1.map (·.1))
  | 0 => by unfold ordTo srt; simp
  | k + 1 => by
    show srt ((ordTo G b k).2 ++ [(nextM G b (ordTo G b k).2).1]) = srt (((ordTo G b k).1 ++ [nextM G b (ordTo G b k).2]).map (·.1))
    refine perm_asc_eq (((srt_perm _).trans ?_).trans (srt_perm _).symm) (srt_asc _) (srt_asc _)
    rw [List.map_append, ordTo_set k]
    exact List.Perm.append_right _ (srt_perm _)
theorem ordTo_front {k : Nat} (h : k ≤ G.n) : (ordTo G b k).2 = front G b k := by
  unfold front ordM
  rw [ordTo_take h, ordTo_set]
theorem nodup_sub_len : ∀ {l : List Nat} {n : Nat}, l.Nodup → (∀ s ∈ l, s < n) → l.length < n → ∃ s, s < n ∧ s ∉ l := by
  intro l n hn hl hlt
  by_cases h : ∃ s, s < n ∧ s ∉ l
  · exact h
  · exfalso
    have hall : ∀ s, s < n → s ∈ l := fun s hs => by
      by_cases hm : s ∈ l
      · exact hm
      · exact absurd ⟨s, hs, hm⟩ h
    have hle : (List.range n).length ≤ l.length := by
      refine (List.nodup_range (n := n)).length_le_of_subset ?_
      intro s hs
      exact hall s (List.mem_range.mp hs)
    rw [List.length_range] at hle
    omega
theorem ordTo_ins : ∀ k, k ≤ G.n → Ins G (ordTo G b k).2 ∧ (ordTo G b k).2.length = k
  | 0, _ => ⟨⟨List.nodup_nil, fun s h => absurd h (by simp [ordTo])⟩, rfl⟩
  | k + 1, h => by
    obtain ⟨I, hl⟩ := ordTo_ins k (by omega)
    obtain ⟨_, h1, h2, _, _⟩ := nextM_spec (b := b) (nodup_sub_len I.nd I.lt (by omega : (ordTo G b k).2.length < G.n))
    have hp := srt_perm ((ordTo G b k).2 ++ [(nextM G b (ordTo G b k).2).1])
    refine ⟨⟨?_, fun s hs => ?_⟩, ?_⟩
    · show (srt _).Nodup
      rw [hp.nodup_iff, List.nodup_append]
      exact ⟨I.nd, by simp, fun a ha c hc => by rw [List.mem_singleton.mp hc]; exact fun e => h2 (by rw [← e]; exact ha)⟩
    · have hs := hp.mem_iff.mp hs
      rcases List.mem_append.mp hs with h3 | h3
      · exact I.lt s h3
      · rw [List.mem_singleton.mp h3]; exact h1
    · show (srt _).length = k + 1
      rw [hp.length_eq, List.length_append, hl]; rfl
theorem ordM_len : (ordM G b).length = G.n := ordTo_len _
theorem front_ins {k : Nat} (h : k ≤ G.n) : Ins G (front G b k) ∧ (front G b k).length = k := by rw [← ordTo_front h]; exact ordTo_ins k h
theorem ord_at {k : Nat} (h : k < G.n) : (ordM G b).getD k (0, 0) = nextM G b (front G b k) := by
  unfold ordM; rw [ordTo_get h, ordTo_front (by omega)]
theorem mem_front {k s : Nat} (h : k ≤ G.n) : s ∈ front G b k ↔ ∃ j, j < k ∧ sq G b j = s := by
  unfold front
  rw [(srt_perm _).mem_iff, List.mem_map]
  constructor
  · rintro ⟨p, hp, rfl⟩
    obtain ⟨j, hj, e⟩ := List.mem_iff_getElem.mp hp
    rw [List.length_take, ordM_len] at hj
    refine ⟨j, by omega, ?_⟩
    unfold sq
    rw [List.getElem_take] at e
    rw [List.getD_eq_getElem?_getD, List.getElem?_eq_getElem (by rw [ordM_len]; omega), ← e]; rfl
  · rintro ⟨j, hj, rfl⟩
    refine ⟨(ordM G b).getD j (0, 0), ?_, rfl⟩
    rw [List.getD_eq_getElem?_getD, List.getElem?_eq_getElem (by rw [ordM_len]; omega)]
    refine List.mem_iff_getElem.mpr ⟨j, by rw [List.length_take, ordM_len]; omega, ?_⟩
    rw [List.getElem_take]; rfl
def le (G : Gm) (b : Rat) (k s : Nat) : Rat := lvE G b (front G b k) s
def lg (G : Gm) (b : Rat) (k s : Nat) : Rat := lvG G b (front G b k) s
theorem frees {k : Nat} (h : k < G.n) : ∃ s, s < G.n ∧ s ∉ front G b k := by
  obtain ⟨I, hl⟩ := front_ins (G := G) (b := b) (Nat.le_of_lt h)
  exact nodup_sub_len I.nd I.lt (by omega)
theorem ord_ok (O : G.Ok) (B : Disc b) : MD.Ord G.n b G.r G.row (sq G b) (nu G b) (le G b) (lg G b) := by
  have sqe : ∀ k, k < G.n → sq G b k = (nextM G b (front G b k)).1 := fun k hk => by unfold sq; rw [ord_at hk]
  have nue : ∀ k, k < G.n → nu G b k = (nextM G b (front G b k)).2 := fun k hk => by unfold nu; rw [ord_at hk]
  have lt : ∀ k, k < G.n → sq G b k < G.n := fun k hk => by rw [sqe k hk]; exact (nextM_spec (b := b) (frees (b := b) hk)).2.1
  have inj : ∀ j k, j < k → k < G.n → sq G b j ≠ sq G b k := fun j k hjk hk e => by
    have h1 := (nextM_spec (b := b) (frees (b := b) hk)).2.2.1
    rw [← sqe k hk] at h1
    exact h1 ((mem_front (by omega)).mpr ⟨j, hjk, e⟩)
  have fpos : ∀ k s, k ≤ G.n → s < G.n → 0 < 1 - exG G b (front G b k) s := fun k s hk hs => by
    have h1 : ∀ t, t < G.n → lvG G b (front G b k) t ≤ 1 := by
      have h := maxPrin (n := G.n) (x := fun t => lvG G b (front G b k) t - 1) B.b0 B.b1 fun t ht => by
        by_cases hI : t ∈ front G b k
        · refine .inr ⟨_, O.rows t ht, ?_⟩
          have := (lv_in O B (front_ins hk).1 hI).2
          have h2 := (O.rows t ht).const (n := G.n) 1
          have h1 := B.b1
          rw [ex_sub, h2]; grind
        · exact .inl (by rw [(lv_out hI).2]; grind)
      intro t ht
      have := h t ht
      grind
    have h2 := (O.rows s hs).le_const h1
    have h3 := Rat.mul_le_mul_of_nonneg_left h2 B.b0
    have := B.b1
    unfold exG
    grind
  refine ⟨B.b0, B.b1, O.rows, lt, inj, ?_, ?_, ?_, ?_, ?_, ?_, ?_⟩
  · refine onto_of_inj lt fun i j hi hj e => ?_
    by_cases h1 : i < j
    · exact absurd e (inj i j h1 hj)
    · by_cases h2 : j < i
      · exact absurd e.symm (inj j i h2 hi)
      · omega
  · exact fun k s hk hs h => (lv_in O B (front_ins hk).1 ((mem_front hk).mpr h)).1
  · exact fun k s hk hs h => (lv_in O B (front_ins hk).1 ((mem_front hk).mpr h)).2
  · exact fun k s hk hs h => (lv_out fun z => h ((mem_front hk).mp z)).1
  · exact fun k s hk hs h => (lv_out fun z => h ((mem_front hk).mp z)).2
  · intro k hk
    obtain ⟨_, h1, h2, h3, h4⟩ := nextM_spec (b := b) (frees (b := b) hk)
    have hp := fpos k _ (by omega) (lt k hk)
    have h5 : nu G b k = cand G b (front G b k) (sq G b k) := by rw [nue k hk, h3, sqe k hk]
    rw [h5]
    unfold cand
    show exE G b (front G b k) (sq G b k) / (1 - exG G b (front G b k) (sq G b k)) * (1 - exG G b (front G b k) (sq G b k)) = exE G b (front G b k) (sq G b k)
    grind
  · intro k s hk hs hn
    obtain ⟨_, h1, h2, h3, h4⟩ := nextM_spec (b := b) (frees (b := b) hk)
    have h5 := h4 s hs fun z => hn ((mem_front (by omega)).mp z)
    rw [← nue k hk] at h5
    have hp := fpos k s (by omega) hs
    have h6 := Rat.mul_le_mul_of_nonneg_right h5 (Rat.le_of_lt hp)
    unfold cand at h6
    have h7 : exE G b (front G b k) s / (1 - exG G b (front G b k) s) * (1 - exG G b (front G b k) s) = exE G b (front G b k) s := by grind
    rw [h7] at h6
    exact h6
end
end MG
set_option linter.all false
/-! MH: the curves of a game's states, the joint states, the value table is best -/
namespace MH
open MA MC ME MF MG
section
variable (G : Gm) (b : Rat)
def grpEnd (k : Nat) : Bool := decide (¬ (k + 1 < G.n ∧ nu G b (k + 1) = nu G b k))
/-- the point that the k-th index leaves with the state s -/
def item (s k : Nat) : List Knot := if grpEnd G b k ∧ s ∈ front G b (k + 1) then [(nu G b k, le G b (k + 1) s + lg G b (k + 1) s * nu G b k)] else []
/-- the points behind the last d of the indexes -/
def ptsD (s : Nat) : Nat → List Knot
  | 0 => []
  | d + 1 => ptsD s d ++ item G b s (G.n - 1 - d)
def gItem (s k : Nat) : List Rat := if grpEnd G b k ∧ s ∈ front G b (k + 1) then [nu G b k] else []
def gD (s : Nat) : Nat → List Rat
  | 0 => []
  | d + 1 => gD s d ++ gItem G b s (G.n - 1 - d)
def dst (s : Nat) : Dist := MD.dist G.n (nu G b) (lg G b) s
def crv (s : Nat) : List Knot := straight (ptsD G b s G.n)
end
section
variable {G : Gm} {b : Rat}
theorem mem_gD {s : Nat} {a : Rat} : ∀ {d}, a ∈ gD G b s d ↔ ∃ j, j < d ∧ grpEnd G b (G.n - 1 - j) = true ∧ s ∈ front G b (G.n - 1 - j + 1) ∧ a = nu G b (G.n - 1 - j)
  | 0 => by simp [gD]
  | d + 1 => by
    rw [gD, List.mem_append, mem_gD]
    unfold gItem
    constructor
    · rintro (⟨j, h1, h2⟩ | h)
      · exact ⟨j, by omega, h2⟩
      · by_cases hc : grpEnd G b (G.n - 1 - d) = true ∧ s ∈ front G b (G.n - 1 - d + 1)
        · rw [if_pos hc] at h
          exact ⟨d, by omega, hc.1, hc.2, List.mem_singleton.mp h⟩
        · rw [if_neg hc] at h
          exact absurd h (by simp)
    · rintro ⟨j, h1, h2, h3, h4⟩
      by_cases e : j = d
      · subst e
        exact .inr (by rw [if_pos ⟨h2, h3⟩]; simp [h4])
      · exact .inl ⟨j, by omega, h2, h3, h4⟩
theorem gD_asc (O : G.Ok) (B : Disc b) (s : Nat) : ∀ d, d ≤ G.n → (gD G b s d).Pairwise (· < ·)
  | 0, _ => List.Pairwise.nil
  | d + 1, h => by
    have OO := ord_ok O B
    rw [gD]
    refine List.pairwise_append.mpr ⟨gD_asc O B s d (by omega), ?_, fun a ha c hc => ?_⟩
    · unfold gItem; split <;> simp
    · obtain ⟨j, h1, h2, h3, rfl⟩ := mem_gD.mp ha
      unfold gItem at hc
      by_cases hg : grpEnd G b (G.n - 1 - d) = true ∧ s ∈ front G b (G.n - 1 - d + 1)
      · rw [if_pos hg] at hc
        rw [List.mem_singleton.mp hc]
        have h4 : ¬ (G.n - 1 - d + 1 < G.n ∧ nu G b (G.n - 1 - d + 1) = nu G b (G.n - 1 - d)) := of_decide_eq_true hg.1
        have h5 := OO.desc (j := G.n - 1 - d) (k := G.n - 1 - d + 1) (by omega) (by omega)
        have h6 := OO.desc (j := G.n - 1 - d + 1) (k := G.n - 1 - j) (by omega) (by omega)
        have h7 : nu G b (G.n - 1 - d + 1) ≠ nu G b (G.n - 1 - d) := fun e => h4 ⟨by omega, e⟩
        grind
      · rw [if_neg hg] at hc
        exact absurd hc (by simp)
theorem ptsD_eq (O : G.Ok) (B : Disc b) {s : Nat} (hs : s < G.n) : ∀ d, d ≤ G.n → ptsD G b s d = (gD G b s d).map fun a => (a, V (dst G b s) a)
  | 0, _ => rfl
  | d + 1, h => by
    have OO := ord_ok O B
    rw [ptsD, gD, List.map_append, ptsD_eq O B hs d (by omega)]
    unfold item gItem
    split
    · rw [List.map_cons, List.map_nil]
      have e : V (dst G b s) (nu G b (G.n - 1 - d)) = le G b (G.n - 1 - d + 1) s + lg G b (G.n - 1 - d + 1) s * nu G b (G.n - 1 - d) :=
        OO.phi_at hs (j := G.n - 1 - d + 1) (by omega) (fun k hk => OO.desc (by omega) (by omega)) fun k h1 h2 => OO.desc (by omega) h2
      rw [e]
    · rfl
theorem grp_of (O : G.Ok) (B : Disc b) : ∀ (m i : Nat), G.n - i = m → i < G.n → ∃ k, i ≤ k ∧ k < G.n ∧ nu G b k = nu G b i ∧ grpEnd G b k = true
  | 0, i, h, hi => by omega
  | m + 1, i, h, hi => by
    by_cases hc : i + 1 < G.n ∧ nu G b (i + 1) = nu G b i
    · obtain ⟨k, h1, h2, h3, h4⟩ := grp_of O B m (i + 1) (by omega) hc.1
      exact ⟨k, by omega, h2, by rw [h3, hc.2], h4⟩
    · exact ⟨i, Nat.le_refl _, hi, rfl, decide_eq_true hc⟩
theorem pts_pts (O : G.Ok) (B : Disc b) {s : Nat} (hs : s < G.n) : Pts (ptsD G b s G.n) (dst G b s) (gD G b s G.n) where
  eq := ptsD_eq O B hs G.n (Nat.le_refl _)
  asc := gD_asc O B s G.n (Nat.le_refl _)
  ok := (ord_ok O B).distOk hs
  sup := fun p hp hq => by
    have OO := ord_ok O B
    obtain ⟨i, hi, rfl⟩ := List.mem_map.mp hp
    have hi := List.mem_range.mp hi
    obtain ⟨k, h1, h2, h3, h4⟩ := grp_of O B (G.n - i) i rfl hi
    have e : G.n - 1 - (G.n - 1 - k) = k := by omega
    refine mem_gD.mpr ⟨G.n - 1 - k, by omega, by rw [e]; exact h4, ?_, by rw [e]; exact h3.symm⟩
    rw [e]
    by_cases hm : s ∈ front G b (k + 1)
    · exact hm
    · have a1 := OO.outG i s (by omega) hs fun ⟨j, x, y⟩ => hm ((mem_front (by omega)).mpr ⟨j, by omega, y⟩)
      have a2 := OO.outG (i + 1) s (by omega) hs fun ⟨j, x, y⟩ => hm ((mem_front (by omega)).mpr ⟨j, by omega, y⟩)
      exact absurd (show lg G b i s - lg G b (i + 1) s = 0 by rw [a1, a2]; grind) hq
theorem crv_kns (O : G.Ok) (B : Disc b) {s : Nat} (hs : s < G.n) : Kns (crv G b s) (dst G b s) (keepG (dst G b s) (gD G b s G.n)) := (pts_pts O B hs).kns
/-- a state's index: all mass lies at most there, and up to there playing on is best -/
theorem top_of (O : G.Ok) (B : Disc b) {s : Nat} (hs : s < G.n) : ∃ c, (∀ p ∈ dst G b s, p.1 ≠ 0 → p.2 ≤ c) ∧ (∀ y, y ≤ c → T (dst G b s) (fun y => y) y = G.r s + b * ex (G.row s) (fun t => T (dst G b t) (fun y => y) y)) ∧ nu G b (G.n - 1) ≤ c := by
  have OO := ord_ok O B
  obtain ⟨i, hi, rfl⟩ := OO.onto s hs
  exact ⟨nu G b i, OO.top hi, fun y hy => OO.phi_eq hi hy, OO.desc (by omega) (by omega)⟩
theorem phi_le (O : G.Ok) (B : Disc b) {s : Nat} (hs : s < G.n) (y : Rat) : G.r s + b * ex (G.row s) (fun t => T (dst G b t) (fun y => y) y) ≤ T (dst G b s) (fun y => y) y := (ord_ok O B).phi_ge hs y
theorem low_of (O : G.Ok) (B : Disc b) {m : Rat} (h : m ≤ nu G b (G.n - 1)) (s : Nat) : ∀ p ∈ dst G b s, m ≤ p.2 := fun p hp => by
  obtain ⟨k, hk, rfl⟩ := List.mem_map.mp hp
  have hk := List.mem_range.mp hk
  exact Rat.le_trans h ((ord_ok O B).desc (by omega) (by omega))
end
/-! ### joint states -/
def jstep (J : List (List Nat)) (G : Gm) : List (List Nat) := J.flatMap fun u => (List.range G.n).map fun s => u ++ [s]
def joints (Gs : List Gm) : List (List Nat) := Gs.foldl jstep [[]]
/-- the number of a joint state -/
def num : List Gm → List Nat → Nat → Nat
  | G :: Gs, s :: u, a => num Gs u (a * G.n + s)
  | _, _, a => a
def Vld : List Gm → List Nat → Prop
  | [], [] => True
  | G :: Gs, s :: u => s < G.n ∧ Vld Gs u
  | _, _ => False
theorem Vld.len : ∀ {Gs : List Gm} {u : List Nat}, Vld Gs u → u.length = Gs.length
  | [], [], _ => rfl
  | G :: Gs, s :: u, h => by rw [List.length_cons, List.length_cons, Vld.len h.2]
  | [], _ :: _, h => h.elim
  | _ :: _, [], h => h.elim
theorem flat_get {J : List (List Nat)} {n : Nat} {f : List Nat → Nat → List Nat} : ∀ {k s : Nat} {u : List Nat}, J[k]? = some u → s < n → (J.flatMap fun u => (List.range n).map (f u))[k * n + s]? = some (f u s) := by
  induction J with
  | nil => intro k s u h; simp at h
  | cons v J ih =>
    intro k s u h hs
    rw [List.flatMap_cons]
    cases k with
    | zero =>
      have e : v = u := by simpa using h
      subst e
      rw [Nat.zero_mul, Nat.zero_add, List.getElem?_append_left (by simp; exact hs), List.getElem?_map, List.getElem?_range hs]; rfl
    | succ k =>
      have h' : J[k]? = some u := by simpa using h
      rw [List.getElem?_append_right (by simp; rw [Nat.succ_mul]; omega)]
      have e : (k + 1) * n + s - ((List.range n).map (f v)).length = k * n + s := by
        rw [List.length_map, List.length_range, Nat.succ_mul]; omega
      rw [e]
      exact ih h' hs
theorem foldl_get : ∀ (Gs : List Gm) (J : List (List Nat)) (k : Nat) (pre u : List Nat), J[k]? = some pre → Vld Gs u → (Gs.foldl jstep J)[num Gs u k]? = some (pre ++ u)
  | [], J, k, pre, [], h, _ => by simp only [List.foldl_nil, num, List.append_nil]; exact h
  | G :: Gs, J, k, pre, s :: u, h, hv => by
    have h1 : (jstep J G)[k * G.n + s]? = some (pre ++ [s]) := flat_get (f := fun u s => u ++ [s]) h hv.1
    have h2 := foldl_get Gs (jstep J G) (k * G.n + s) (pre ++ [s]) u h1 hv.2
    simp only [List.foldl_cons, num]
    rw [h2, List.append_assoc]; rfl
  | [], _, _, _, _ :: _, _, h => h.elim
  | _ :: _, _, _, _, [], _, h => h.elim
theorem joint_num {Gs : List Gm} {u : List Nat} (h : Vld Gs u) : (joints Gs)[num Gs u 0]? = some u := foldl_get Gs [[]] 0 [] u rfl h
theorem mem_foldl : ∀ (Gs : List Gm) (J : List (List Nat)) (w : List Nat), w ∈ Gs.foldl jstep J → ∃ pre ∈ J, ∃ u, Vld Gs u ∧ w = pre ++ u
  | [], J, w, h => ⟨w, h, [], trivial, by rw [List.append_nil]⟩
  | G :: Gs, J, w, h => by
    obtain ⟨pre, h1, u, h2, rfl⟩ := mem_foldl Gs (jstep J G) w h
    obtain ⟨p0, h3, h4⟩ := List.mem_flatMap.mp h1
    obtain ⟨s, h5, rfl⟩ := List.mem_map.mp h4
    exact ⟨p0, h3, s :: u, ⟨List.mem_range.mp h5, h2⟩, by rw [List.append_assoc]; rfl⟩
theorem mem_joints {Gs : List Gm} {w : List Nat} (h : w ∈ joints Gs) : Vld Gs w := by
  obtain ⟨pre, h1, u, h2, rfl⟩ := mem_foldl Gs [[]] w h
  rw [List.mem_singleton.mp h1]
  exact h2
/-- a joint state stands at its number alone -/
theorem num_lt : ∀ (Gs : List Gm) (u v : List Nat) (a c : Nat), Vld Gs u → Vld Gs v → num Gs u a = num Gs v c → a = c ∧ u = v
  | [], [], [], a, c, _, _, h => ⟨h, rfl⟩
  | G :: Gs, s :: u, t :: v, a, c, hu, hv, h => by
    obtain ⟨h1, h2⟩ := num_lt Gs u v (a * G.n + s) (c * G.n + t) hu.2 hv.2 h
    have hs := hu.1
    have ht := hv.1
    have hn : 0 < G.n := by omega
    have e1 : (a * G.n + s) / G.n = a := by rw [Nat.mul_comm, Nat.mul_add_div hn, Nat.div_eq_of_lt hs]; rfl
    have e2 : (c * G.n + t) / G.n = c := by rw [Nat.mul_comm, Nat.mul_add_div hn, Nat.div_eq_of_lt ht]; rfl
    have ea : a = c := by rw [← e1, ← e2, h1]
    subst ea
    have es : s = t := by omega
    rw [es, h2]
    exact ⟨rfl, rfl⟩
  | [], _ :: _, _, _, _, h, _, _ => h.elim
  | [], _, _ :: _, _, _, _, h, _ => h.elim
  | _ :: _, [], _, _, _, h, _, _ => h.elim
  | _ :: _, _, [], _, _, _, h, _ => h.elim
def size : List Gm → Nat → Nat
  | [], a => a
  | G :: Gs, a => size Gs (a * G.n)
theorem foldl_len : ∀ (Gs : List Gm) (J : List (List Nat)), (Gs.foldl jstep J).length = size Gs J.length
  | [], J => rfl
  | G :: Gs, J => by
    have h : (jstep J G).length = J.length * G.n := by
      unfold jstep
      rw [List.length_flatMap]
      have : ∀ J : List (List Nat), (J.map fun u => ((List.range G.n).map fun s => u ++ [s]).length).sum = J.length * G.n := by
        intro J
        induction J with
        | nil => simp
        | cons v J ih => rw [List.map_cons, List.sum_cons, ih, List.length_cons, Nat.succ_mul]; simp; omega
      exact this J
    simp only [List.foldl_cons, size]
    rw [foldl_len Gs, h]
theorem joints_len (Gs : List Gm) : (joints Gs).length = size Gs 1 := foldl_len Gs [[]]
theorem num_bound : ∀ (Gs : List Gm) (u : List Nat) (a c : Nat), Vld Gs u → a < c → num Gs u a < size Gs c
  | [], [], a, c, _, h => h
  | G :: Gs, s :: u, a, c, hv, h => by
    refine num_bound Gs u _ _ hv.2 ?_
    have := hv.1
    have h2 : (a + 1) * G.n ≤ c * G.n := Nat.mul_le_mul_right _ h
    rw [Nat.succ_mul] at h2
    omega
  | [], _ :: _, _, _, h, _ => h.elim
  | _ :: _, [], _, _, h, _ => h.elim
theorem num_lt_len {Gs : List Gm} {u : List Nat} (h : Vld Gs u) : num Gs u 0 < (joints Gs).length := by
  rw [joints_len]; exact num_bound Gs u 0 1 h (by omega)
theorem joint_at_vld {Gs : List Gm} {k : Nat} (h : k < (joints Gs).length) : Vld Gs ((joints Gs).getD k []) := by
  refine mem_joints ?_
  rw [List.getD_eq_getElem?_getD, List.getElem?_eq_getElem h]
  exact List.getElem_mem h
theorem joints_nodup (Gs : List Gm) : (joints Gs).Nodup := by
  have : ∀ (Gs : List Gm) (J : List (List Nat)), J.Nodup → (∀ u ∈ J, ∀ v ∈ J, u.length = v.length) → (Gs.foldl jstep J).Nodup := by
    intro Gs
    induction Gs with
    | nil => intro J h _; exact h
    | cons G Gs ih =>
      intro J hn hl
      refine ih (jstep J G) ?_ ?_
      · unfold jstep
        rw [List.nodup_iff_pairwise_ne]
        refine List.pairwise_flatMap.mpr ⟨fun u hu => ?_, ?_⟩
        · refine List.pairwise_map.mpr ((List.nodup_range (n := G.n)).imp fun {s t} h e => h ?_)
          have := List.append_cancel_left e
          exact (List.cons.inj this).1
        · refine List.Pairwise.imp_of_mem (fun {u v} hu hv hne a ha c hc e => ?_) (List.nodup_iff_pairwise_ne.mp hn)
          obtain ⟨s, _, rfl⟩ := List.mem_map.mp ha
          obtain ⟨t, _, rfl⟩ := List.mem_map.mp hc
          exact hne (List.append_inj_left e (hl u hu v hv))
      · intro u hu v hv
        obtain ⟨p, hp, h1⟩ := List.mem_flatMap.mp hu
        obtain ⟨s, _, rfl⟩ := List.mem_map.mp h1
        obtain ⟨q, hq, h2⟩ := List.mem_flatMap.mp hv
        obtain ⟨t, _, rfl⟩ := List.mem_map.mp h2
        rw [List.length_append, List.length_append, hl p hp q hq]; rfl
  refine this Gs [[]] (by simp) fun u hu v hv => ?_
  rw [List.mem_singleton.mp hu, List.mem_singleton.mp hv]
theorem joint_num_at {Gs : List Gm} {k : Nat} (h : k < (joints Gs).length) : num Gs ((joints Gs).getD k []) 0 = k := by
  have h1 := joint_num (joint_at_vld h)
  have h2 : (joints Gs)[k]? = some ((joints Gs).getD k []) := getD_get h
  exact ((List.getElem?_inj h (joints_nodup Gs)).mp (h2.trans h1.symm)).symm
/-! ### the choices' world -/
def gAt (Gs : List Gm) (i : Nat) : Gm := Gs.getD i ⟨[], []⟩
def jAt (Gs : List Gm) (k : Nat) : List Nat := (joints Gs).getD k []
def sAt (Gs : List Gm) (k i : Nat) : Nat := (jAt Gs k).getD i 0
def world (Gs : List Gm) (b : Rat) : MB.Mdp where
  N := (joints Gs).length
  m := Gs.length
  b := b
  ρ := fun k i => (gAt Gs i).r (sAt Gs k i)
  T := fun k i => ((gAt Gs i).row (sAt Gs k i)).map fun p => (num Gs ((jAt Gs k).set i p.1) 0, p.2)
theorem Vld.at : ∀ {Gs : List Gm} {u : List Nat} {i : Nat}, Vld Gs u → i < Gs.length → u.getD i 0 < (gAt Gs i).n
  | G :: Gs, s :: u, 0, h, _ => h.1
  | G :: Gs, s :: u, i + 1, h, hi => Vld.at (Gs := Gs) (u := u) (i := i) h.2 (Nat.lt_of_succ_lt_succ hi)
  | [], _, _, _, hi => absurd hi (by simp)
  | _ :: _, [], _, h, _ => h.elim
theorem Vld.set : ∀ {Gs : List Gm} {u : List Nat} {i t : Nat}, Vld Gs u → i < Gs.length → t < (gAt Gs i).n → Vld Gs (u.set i t)
  | G :: Gs, s :: u, 0, t, h, _, ht => ⟨ht, h.2⟩
  | G :: Gs, s :: u, i + 1, t, h, hi, ht => ⟨h.1, Vld.set (Gs := Gs) (u := u) (i := i) h.2 (Nat.lt_of_succ_lt_succ hi) ht⟩
  | [], _, _, _, _, hi, _ => absurd hi (by simp)
  | _ :: _, [], _, _, h, _, _ => h.elim
theorem ex_mapped (f : Nat → Nat) : ∀ (r : Rw) (x : Nat → Rat), ex (r.map fun p => (f p.1, p.2)) x = ex r (fun t => x (f t))
  | [], _ => rfl
  | (t, q) :: r, x => by simp only [List.map_cons, ex]; rw [ex_mapped f r x]
theorem gAt_mem {Gs : List Gm} {i : Nat} (h : i < Gs.length) : gAt Gs i ∈ Gs := by
  unfold gAt
  rw [List.getD_eq_getElem?_getD, List.getElem?_eq_getElem h]
  exact List.getElem_mem h
structure Co (Gs : List Gm) (b : Rat) : Prop where
  B : Disc b
  ok : ∀ G ∈ Gs, G.Ok
  ne : 0 < Gs.length
theorem world_ok {Gs : List Gm} {b : Rat} (C : Co Gs b) : (world Gs b).Ok where
  b0 := C.B.b0
  b1 := C.B.b1
  m0 := C.ne
  row := fun k i hk hi => by
    have hv : Vld Gs (jAt Gs k) := joint_at_vld hk
    have R := (C.ok _ (gAt_mem hi)).rows _ (hv.at hi)
    refine ⟨fun p hp => ?_, fun p hp => ?_, ?_⟩
    · obtain ⟨q, hq, rfl⟩ := List.mem_map.mp hp
      exact num_lt_len (hv.set hi (R.lt q hq))
    · obtain ⟨q, hq, rfl⟩ := List.mem_map.mp hp
      exact R.nn q hq
    · show ex (((gAt Gs i).row (sAt Gs k i)).map fun p => (num Gs ((jAt Gs k).set i p.1) 0, p.2)) (fun _ => 1) = 1
      rw [ex_mapped (fun t => num Gs ((jAt Gs k).set i t) 0)]
      exact R.one
/-! ### the company's distributions -/
def dsts (b : Rat) : List Gm → List Nat → List Dist
  | G :: Gs, s :: u => dst G b s :: dsts b Gs u
  | _, _ => []
theorem dsts_split {b : Rat} : ∀ {Gs : List Gm} {u : List Nat} {i : Nat}, Vld Gs u → i < Gs.length → ∃ A E, (∀ t, dsts b Gs (u.set i t) = A ++ dst (gAt Gs i) b t :: E) ∧ dsts b Gs u = A ++ dst (gAt Gs i) b (u.getD i 0) :: E ∧ ∀ D ∈ A ++ E, ∃ j, j < Gs.length ∧ D = dst (gAt Gs j) b (u.getD j 0)
  | G :: Gs, s :: u, 0, h, hi => by
    refine ⟨[], dsts b Gs u, fun t => rfl, rfl, ?_⟩
    have gen : ∀ {Gs : List Gm} {u : List Nat}, Vld Gs u → ∀ D ∈ dsts b Gs u, ∃ j, j < Gs.length ∧ D = dst (gAt Gs j) b (u.getD j 0) := by
      intro Gs
      induction Gs with
      | nil => intro u h D hD; cases u <;> simp [dsts] at hD
      | cons G Gs ih =>
        intro u h D hD
        cases u with
        | nil => exact h.elim
        | cons s u =>
          rcases List.mem_cons.mp hD with e | hD
          · exact ⟨0, Nat.succ_pos _, e⟩
          · obtain ⟨j, h1, h2⟩ := ih h.2 D hD
            exact ⟨j + 1, Nat.succ_lt_succ h1, h2⟩
    intro D hD
    obtain ⟨j, h1, h2⟩ := gen h.2 D (by simpa using hD)
    exact ⟨j + 1, Nat.succ_lt_succ h1, h2⟩
  | G :: Gs, s :: u, i + 1, h, hi => by
    obtain ⟨A, E, h1, h2, h3⟩ := dsts_split (b := b) (Gs := Gs) (u := u) (i := i) h.2 (Nat.lt_of_succ_lt_succ hi)
    refine ⟨dst G b s :: A, E, fun t => ?_, ?_, fun D hD => ?_⟩
    · show dst G b s :: dsts b Gs (u.set i t) = _
      rw [h1 t]; rfl
    · show dst G b s :: dsts b Gs u = _
      rw [h2]; rfl
    · rcases List.mem_cons.mp (show D ∈ dst G b s :: (A ++ E) from hD) with e | hD
      · exact ⟨0, Nat.succ_pos _, e⟩
      · obtain ⟨j, h4, h5⟩ := h3 D hD
        exact ⟨j + 1, Nat.succ_lt_succ h4, h5⟩
  | [], _, _, _, hi => absurd hi (by simp)
  | _ :: _, [], _, h, _ => h.elim
/-- an amount below all indexes -/
def Lowest (Gs : List Gm) (b m : Rat) : Prop := ∀ G ∈ Gs, m ≤ nu G b (G.n - 1)
theorem lowest : ∀ (Gs : List Gm) (b : Rat), ∃ m, Lowest Gs b m
  | [], b => ⟨0, fun _ h => absurd h (by simp)⟩
  | G :: Gs, b => by
    obtain ⟨m, h⟩ := lowest Gs b
    by_cases hc : m ≤ nu G b (G.n - 1)
    · exact ⟨m, fun E hE => (List.mem_cons.mp hE).elim (fun e => by rw [e]; exact hc) (h E)⟩
    · refine ⟨nu G b (G.n - 1), fun E hE => (List.mem_cons.mp hE).elim (fun e => by rw [e]; exact Rat.le_refl) fun hE => ?_⟩
      have := h E hE
      grind
def gainAt (Gs : List Gm) (b m : Rat) (k : Nat) : Rat := gain (dsts b Gs (jAt Gs k)) m
theorem best {Gs : List Gm} {b m : Rat} (C : Co Gs b) (hm : Lowest Gs b m) : (world Gs b).Best (gainAt Gs b m) := by
  intro k hk
  have hv : Vld Gs (jAt Gs k) := joint_at_vld hk
  have oks : ∀ j, j < Gs.length → Dist.Ok (dst (gAt Gs j) b ((jAt Gs k).getD j 0)) := fun j hj => (ord_ok (C.ok _ (gAt_mem hj)) C.B).distOk (hv.at hj)
  have pl : ∀ i, i < Gs.length → ∀ A E, (∀ t, dsts b Gs ((jAt Gs k).set i t) = A ++ dst (gAt Gs i) b t :: E) →
      (world Gs b).pl (gainAt Gs b m) k i = (gAt Gs i).r (sAt Gs k i) + b * ex ((gAt Gs i).row (sAt Gs k i)) (fun t => gain (A ++ dst (gAt Gs i) b t :: E) m) := fun i hi A E hA => by
    show (gAt Gs i).r (sAt Gs k i) + b * ex (((gAt Gs i).row (sAt Gs k i)).map fun p => (num Gs ((jAt Gs k).set i p.1) 0, p.2)) (gainAt Gs b m) = _
    rw [ex_mapped (fun t => num Gs ((jAt Gs k).set i t) 0)]
    have R : Row (gAt Gs i).n ((gAt Gs i).row (sAt Gs k i)) := (C.ok _ (gAt_mem hi)).rows _ (hv.at hi)
    rw [R.congr fun t ht => by
      show gainAt Gs b m (num Gs ((jAt Gs k).set i t) 0) = gain (A ++ dst (gAt Gs i) b t :: E) m
      unfold gainAt
      have : jAt Gs (num Gs ((jAt Gs k).set i t) 0) = (jAt Gs k).set i t := by
        have h := joint_num (hv.set hi ht)
        unfold jAt at *
        rw [List.getD_eq_getElem?_getD, h]; rfl
      rw [this, hA t]]
  constructor
  · have tops : ∀ j, j < Gs.length → ∃ c, (∀ p ∈ dst (gAt Gs j) b (sAt Gs k j), p.1 ≠ 0 → p.2 ≤ c) ∧ (∀ y, y ≤ c → T (dst (gAt Gs j) b (sAt Gs k j)) (fun y => y) y = (gAt Gs j).r (sAt Gs k j) + b * ex ((gAt Gs j).row (sAt Gs k j)) (fun t => T (dst (gAt Gs j) b t) (fun y => y) y)) ∧ m ≤ c := fun j hj => by
      obtain ⟨c, h1, h2, h3⟩ := top_of (C.ok _ (gAt_mem hj)) C.B (hv.at hj)
      exact ⟨c, h1, h2, Rat.le_trans (hm _ (gAt_mem hj)) h3⟩
    let tp : Nat → Rat := fun j => if h : j < Gs.length then (tops j h).choose else 0
    have htp : ∀ j (h : j < Gs.length), tp j = (tops j h).choose := fun j h => dif_pos h
    obtain ⟨i, hi, hmax⟩ := exists_max (Gs.length - 1) tp
    have hne := C.ne
    have hi' : i < Gs.length := by omega
    have hsp := (tops i hi').choose_spec
    rw [← htp i hi'] at hsp
    obtain ⟨A, E, h1, h2, h3⟩ := dsts_split (b := b) hv hi'
    refine ⟨i, hi', ?_⟩
    rw [pl i hi' A E h1]
    show gain (dsts b Gs (jAt Gs k)) m = _
    rw [h2]
    refine whittle_eq (c := tp i) (fun D hD => ?_) hsp.2.2 (fun D hD p hp hq => ?_) hsp.2.1
    · obtain ⟨j, hj, rfl⟩ := h3 D hD
      exact oks j hj
    · obtain ⟨j, hj, rfl⟩ := h3 D hD
      have hj2 := (tops j hj).choose_spec.1 p hp hq
      rw [← htp j hj] at hj2
      exact Rat.le_trans hj2 (hmax j (by omega))
  · intro i hi
    have hi : i < Gs.length := hi
    obtain ⟨A, E, h1, h2, h3⟩ := dsts_split (b := b) hv hi
    rw [pl i hi A E h1]
    show _ ≤ gain (dsts b Gs (jAt Gs k)) m
    rw [h2]
    refine whittle_le (fun D hD => ?_) (phi_le (C.ok _ (gAt_mem hi)) C.B (hv.at hi))
    obtain ⟨j, hj, rfl⟩ := h3 D hD
    exact oks j hj
/-! ### the table as the program computes it -/
def crvs (b : Rat) (G : Gm) : List (List Knot) := (List.range G.n).map (crv G b)
def cstep (b : Rat) (cs : List (List Knot)) (G : Gm) : List (List Knot) := cs.flatMap fun c => (crvs b G).map fun o => prodKnots c o
def tabCurves (b : Rat) : List Gm → List (List Knot)
  | [] => []
  | G :: Gs => Gs.foldl (cstep b) (crvs b G)
def tabM (Gs : List Gm) (b : Rat) : List Rat := (tabCurves b Gs).map fun K => (kn K 0).2
/-- joint states and curves side by side -/
def pstep (b : Rat) (J : List (List Nat × List Knot)) (G : Gm) : List (List Nat × List Knot) := J.flatMap fun x => (List.range G.n).map fun s => (x.1 ++ [s], prodKnots x.2 (crv G b s))
theorem pstep_fst (b : Rat) (J : List (List Nat × List Knot)) (G : Gm) : (pstep b J G).map (·.1) = jstep (J.map (·.1)) G := by
  unfold pstep jstep
  rw [List.map_flatMap, List.flatMap_map]
  congr 1
  funext x
  rw [List.map_map]; rfl
theorem pstep_snd (b : Rat) (J : List (List Nat × List Knot)) (G : Gm) : (pstep b J G).map (·.2) = cstep b (J.map (·.2)) G := by
  unfold pstep cstep crvs
  rw [List.map_flatMap, List.flatMap_map]
  congr 1
  funext x
  rw [List.map_map, List.map_map]; rfl
theorem pfold_fst (b : Rat) : ∀ (Gs : List Gm) (J : List (List Nat × List Knot)), (Gs.foldl (pstep b) J).map (·.1) = Gs.foldl jstep (J.map (·.1))
  | [], _ => rfl
  | G :: Gs, J => by simp only [List.foldl_cons]; rw [pfold_fst b Gs, pstep_fst]
theorem pfold_snd (b : Rat) : ∀ (Gs : List Gm) (J : List (List Nat × List Knot)), (Gs.foldl (pstep b) J).map (·.2) = Gs.foldl (cstep b) (J.map (·.2))
  | [], _ => rfl
  | G :: Gs, J => by simp only [List.foldl_cons]; rw [pfold_snd b Gs, pstep_snd]
/-- a curve c stands for the distributions Ds, above m -/
def Stands (m : Rat) (c : List Knot) (Ds : List Dist) : Prop := ∃ D F, Kns c D F ∧ (∀ f y, T D f y = TT Ds f y) ∧ ∀ p ∈ D, m ≤ p.2
theorem Stands.mul {m : Rat} {c : List Knot} {Ds : List Dist} {G : Gm} {b : Rat} {s : Nat} (O : G.Ok) (B : Disc b) (hm : m ≤ nu G b (G.n - 1)) (hs : s < G.n) (h : Stands m c Ds) : Stands m (prodKnots c (crv G b s)) (Ds ++ [dst G b s]) := by
  obtain ⟨D, F, h1, h2, h3⟩ := h
  refine ⟨dmul D (dst G b s), _, prod_kns h1.toPts (crv_kns O B hs).toPts, fun f y => ?_, fun p hp => ?_⟩
  · rw [T_dmul, h2, TT_append]; rfl
  · obtain ⟨x, hx, z, hz, rfl⟩ := mem_dmul hp
    exact Rat.le_trans (h3 x hx) (le_mx_l _ _)
theorem dsts_app {b : Rat} : ∀ {Gs : List Gm} {u : List Nat} {G : Gm} {s : Nat}, Vld Gs u → dsts b (Gs ++ [G]) (u ++ [s]) = dsts b Gs u ++ [dst G b s]
  | [], [], _, _, _ => rfl
  | E :: Gs, t :: u, G, s, h => by
    show dst E b t :: dsts b (Gs ++ [G]) (u ++ [s]) = dst E b t :: (dsts b Gs u ++ [dst G b s])
    rw [dsts_app h.2]
  | [], _ :: _, _, _, h => h.elim
  | _ :: _, [], _, _, h => h.elim
theorem vld_app : ∀ {Gs : List Gm} {u : List Nat} {G : Gm} {s : Nat}, Vld Gs u → s < G.n → Vld (Gs ++ [G]) (u ++ [s])
  | [], [], _, _, _, hs => ⟨hs, trivial⟩
  | E :: Gs, t :: u, G, s, h, hs => ⟨h.1, vld_app h.2 hs⟩
  | [], _ :: _, _, _, h, _ => h.elim
  | _ :: _, [], _, _, h, _ => h.elim
theorem pfold_ok {b m : Rat} (B : Disc b) : ∀ (Gs pre : List Gm) (J : List (List Nat × List Knot)), (∀ G ∈ Gs, G.Ok ∧ m ≤ nu G b (G.n - 1)) → (∀ x ∈ J, Vld pre x.1 ∧ Stands m x.2 (dsts b pre x.1)) → ∀ x ∈ Gs.foldl (pstep b) J, Vld (pre ++ Gs) x.1 ∧ Stands m x.2 (dsts b (pre ++ Gs) x.1)
  | [], pre, J, _, h => by simpa using h
  | G :: Gs, pre, J, hG, h => by
    obtain ⟨O, hm⟩ := hG G List.mem_cons_self
    have := pfold_ok B Gs (pre ++ [G]) (pstep b J G) (fun E hE => hG E (List.mem_cons_of_mem _ hE)) fun x hx => by
      obtain ⟨y, hy, h1⟩ := List.mem_flatMap.mp hx
      obtain ⟨s, hs, rfl⟩ := List.mem_map.mp h1
      obtain ⟨h2, h3⟩ := h y hy
      have hs := List.mem_range.mp hs
      exact ⟨vld_app h2 hs, by rw [dsts_app h2]; exact h3.mul O B hm hs⟩
    simpa using this
theorem tab_pairs {Gs : List Gm} {b m : Rat} (C : Co Gs b) (hm : Lowest Gs b m) : ∃ J : List (List Nat × List Knot), J.map (·.1) = joints Gs ∧ J.map (·.2) = tabCurves b Gs ∧ ∀ x ∈ J, Stands m x.2 (dsts b Gs x.1) := by
  cases Gs with
  | nil => exact absurd C.ne (by simp)
  | cons G Gs =>
    have O := C.ok G List.mem_cons_self
    refine ⟨Gs.foldl (pstep b) ((List.range G.n).map fun s => ([s], crv G b s)), ?_, ?_, fun x hx => ?_⟩
    · rw [pfold_fst, List.map_map]
      show _ = Gs.foldl jstep (jstep [[]] G)
      congr 1
      unfold jstep
      simp only [List.flatMap_cons, List.flatMap_nil, List.append_nil, List.nil_append]; rfl
    · rw [pfold_snd, List.map_map]; rfl
    · refine (pfold_ok C.B Gs [G] _ (fun E hE => ⟨C.ok E (List.mem_cons_of_mem _ hE), hm E (List.mem_cons_of_mem _ hE)⟩) (fun y hy => ?_) x hx).2
      obtain ⟨s, hs, rfl⟩ := List.mem_map.mp hy
      have hs := List.mem_range.mp hs
      exact ⟨⟨hs, trivial⟩, dst G b s, _, crv_kns O C.B hs, fun f y => rfl, low_of O C.B (hm G List.mem_cons_self) s⟩
theorem tabCurves_len {Gs : List Gm} {b : Rat} (C : Co Gs b) : (tabCurves b Gs).length = (joints Gs).length := by
  obtain ⟨m, hm⟩ := lowest Gs b
  obtain ⟨J, h1, h2, h3⟩ := tab_pairs C hm
  rw [← h1, ← h2, List.length_map, List.length_map]
theorem tab_at {Gs : List Gm} {b m : Rat} (C : Co Gs b) (hm : Lowest Gs b m) {k : Nat} (hk : k < (joints Gs).length) : gt (tabM Gs b) k = gainAt Gs b m k := by
  obtain ⟨J, h1, h2, h3⟩ := tab_pairs C hm
  have hl : J.length = (joints Gs).length := by rw [← h1, List.length_map]
  have hJ : J[k]? = some J[k] := List.getElem?_eq_getElem (by omega)
  obtain ⟨D, F, h4, h5, h6⟩ := h3 J[k] (List.getElem_mem (by omega))
  have e1 : jAt Gs k = (J[k]'(by omega)).1 := by
    unfold jAt
    rw [← h1, List.getD_eq_getElem?_getD, List.getElem?_map, hJ]; rfl
  have e2 : gt (tabM Gs b) k = (kn (J[k]'(by omega)).2 0).2 := by
    refine gt_of ?_
    unfold tabM
    rw [← h2, List.map_map, List.getElem?_map, hJ]; rfl
  rw [e2, h4.toPts.kn (by rw [h4.toPts.len]; exact h4.toPts.ne)]
  show V D (ga F 0) = gain (dsts b Gs (jAt Gs k)) m
  rw [V_low (m' := m) h4.toPts.ge_first fun p hp _ => h6 p hp, e1]
  exact h5 _ _
theorem tab_best {Gs : List Gm} {b : Rat} (C : Co Gs b) : (world Gs b).Best (gt (tabM Gs b)) := by
  obtain ⟨m, hm⟩ := lowest Gs b
  have hB := best C hm
  have O := world_ok C
  intro k hk
  have e : ∀ i, i < (world Gs b).m → (world Gs b).pl (gt (tabM Gs b)) k i = (world Gs b).pl (gainAt Gs b m) k i := fun i hi => by
    unfold MB.Mdp.pl
    rw [(O.row k i hk hi).congr fun t ht => tab_at C hm ht]
  obtain ⟨⟨i, hi, h1⟩, h2⟩ := hB k hk
  refine ⟨⟨i, hi, by rw [e i hi, tab_at C hm hk]; exact h1⟩, fun j hj => by rw [e j hj, tab_at C hm hk]; exact h2 j hj⟩
end MH
set_option linter.all false
/-! MI: the values of a table of choices, one improvement -/
namespace MI
open MA MB ME MG MH
def ixN (N t : Nat) : Option Nat := if t < N then some t else none
theorem ixN_lt {N : Nat} : ∀ t c, ixN N t = some c → c < N := fun t c h => by
  unfold ixN at h
  split at h
  · cases h; assumption
  · cases h
def cN (Gs : List Gm) : Nat := (joints Gs).length
def cvA (Gs : List Gm) (ch : List Nat) (b : Rat) : List (List Rat) := matM b (ixN (cN Gs)) (cN Gs) fun k => (world Gs b).T k (ch.getD k 0)
def cvB (Gs : List Gm) (ch : List Nat) (b : Rat) : List (List Rat) := (List.range (cN Gs)).map fun k => [(world Gs b).ρ k (ch.getD k 0)]
def cvS (Gs : List Gm) (ch : List Nat) (b : Rat) : List (List Rat) := solM (cN Gs) (cvA Gs ch b) (cvB Gs ch b)
def cvM (Gs : List Gm) (ch : List Nat) (b : Rat) : List Rat := (cvS Gs ch b).map fun row => gt row 0
/-- a table of choices -/
structure Cho (Gs : List Gm) (ch : List Nat) : Prop where
  len : ch.length = cN Gs
  lt : ∀ k, k < cN Gs → ch.getD k 0 < Gs.length
section
variable {Gs : List Gm} {ch : List Nat} {b : Rat}
theorem cv_sys (C : Co Gs b) (h : Cho Gs ch) : Sys (cN Gs) 1 (cvA Gs ch b) (cvB Gs ch b) where
  lM := by unfold cvA matM; rw [List.length_map, List.length_range]
  lb := by unfold cvB; rw [List.length_map, List.length_range]
  rM := fun i hi => by
    unfold cvA
    rw [matM_row hi]
    exact (acc_spec b (ixN (cN Gs)) (cN Gs) ixN_lt _ _ (unitR_len _ i)).1
  rb := fun i hi => by
    unfold cvB
    rw [List.getD_eq_getElem?_getD, List.getElem?_map, List.getElem?_range hi]; rfl
  nd := matM_nd (n := cN Gs) C.B.b0 C.B.b1 ixN_lt fun i hi => (world_ok C).row i _ hi (h.lt i hi)
theorem cvM_len (C : Co Gs b) (h : Cho Gs ch) : (cvM Gs ch b).length = cN Gs := by
  unfold cvM cvS; rw [List.length_map, sol_len (cv_sys C h)]
theorem cvM_gt (C : Co Gs b) (h : Cho Gs ch) {k : Nat} (hk : k < cN Gs) : gt (cvM Gs ch b) k = rw_ (cvS Gs ch b) k 0 := by
  refine gt_of ?_
  unfold cvM
  have hl : (cvS Gs ch b).length = cN Gs := sol_len (cv_sys C h)
  rw [List.getElem?_map, getD_get (d := []) (by omega)]; rfl
theorem cv_fol (C : Co Gs b) (h : Cho Gs ch) : (world Gs b).Fol (fun k => ch.getD k 0) (gt (cvM Gs ch b)) := by
  intro k hk
  have hk : k < cN Gs := hk
  have h1 := h.lt k hk
  refine ⟨h1, ?_⟩
  have h2 := sol_eq (cv_sys C h) (i := k) (t := 0) hk (by decide)
  unfold cvA at h2
  rw [matM_sum ixN_lt hk] at h2
  have h3 : rw_ (cvB Gs ch b) k 0 = (world Gs b).ρ k (ch.getD k 0) := by
    unfold rw_ cvB
    rw [List.getD_eq_getElem?_getD, List.getElem?_map, List.getElem?_range hk]; rfl
  rw [h3] at h2
  rw [cvM_gt C h hk]
  show _ = (world Gs b).ρ k (ch.getD k 0) + b * ex ((world Gs b).T k (ch.getD k 0)) (gt (cvM Gs ch b))
  have R := (world_ok C).row k _ hk h1
  have h4 : ex ((world Gs b).T k (ch.getD k 0)) (gt (cvM Gs ch b)) = ex ((world Gs b).T k (ch.getD k 0)) (fun t => match ixN (cN Gs) t with | some c => rw_ (cvS Gs ch b) c 0 | none => 0) := R.congr fun t ht => by
    have ht : t < cN Gs := ht
    rw [cvM_gt C h ht]
    unfold ixN
    rw [if_pos ht]
  rw [h4]
  unfold cvS cvA at *
  grind
end
/-! ### one improvement -/
def bestTo (f : Nat → Rat) : Nat → Nat
  | 0 => 0
  | a + 1 => if f (bestTo f a) < f a then a else bestTo f a
theorem bestTo_spec (f : Nat → Rat) : ∀ a, (a = 0 ∨ bestTo f a < a) ∧ ∀ i, i < a → f i ≤ f (bestTo f a)
  | 0 => ⟨.inl rfl, fun i h => by omega⟩
  | a + 1 => by
    obtain ⟨h1, h2⟩ := bestTo_spec f a
    unfold bestTo
    by_cases hc : f (bestTo f a) < f a
    · rw [if_pos hc]
      refine ⟨.inr (Nat.lt_succ_self a), fun i hi => ?_⟩
      by_cases e : i = a
      · rw [e]; exact Rat.le_refl
      · have := h2 i (by omega); grind
    · rw [if_neg hc]
      refine ⟨?_, fun i hi => ?_⟩
      · rcases h1 with h1 | h1
        · subst h1; exact .inr (Nat.succ_pos _)
        · exact .inr (by omega)
      · by_cases e : i = a
        · rw [e]; grind
        · exact h2 i (by omega)
def betterC (f : Nat → Rat) (m c : Nat) : Nat := if f c < f (bestTo f m) then bestTo f m else c
def impM (Gs : List Gm) (ch : List Nat) (b : Rat) : List Nat := (List.range (cN Gs)).map fun k => betterC ((world Gs b).pl (gt (cvM Gs ch b)) k) Gs.length (ch.getD k 0)
section
variable {Gs : List Gm} {ch : List Nat} {b : Rat}
theorem imp_at {k : Nat} (hk : k < cN Gs) : (impM Gs ch b).getD k 0 = betterC ((world Gs b).pl (gt (cvM Gs ch b)) k) Gs.length (ch.getD k 0) := by
  unfold impM
  rw [List.getD_eq_getElem?_getD, List.getElem?_map, List.getElem?_range hk]; rfl
theorem imp_cho (C : Co Gs b) (h : Cho Gs ch) : Cho Gs (impM Gs ch b) where
  len := by unfold impM; rw [List.length_map, List.length_range]
  lt := fun k hk => by
    rw [imp_at hk]
    unfold betterC
    have h1 := (bestTo_spec ((world Gs b).pl (gt (cvM Gs ch b)) k) Gs.length).1
    have h2 := C.ne
    split
    · omega
    · exact h.lt k hk
theorem imp_impr (C : Co Gs b) (h : Cho Gs ch) : (world Gs b).Impr (gt (cvM Gs ch b)) (fun k => ch.getD k 0) (fun k => (impM Gs ch b).getD k 0) := by
  intro k hk
  have hk : k < cN Gs := hk
  refine ⟨(imp_cho C h).lt k hk, ?_⟩
  rw [show (fun k => (impM Gs ch b).getD k 0) k = _ from imp_at hk]
  obtain ⟨h1, h2⟩ := bestTo_spec ((world Gs b).pl (gt (cvM Gs ch b)) k) Gs.length
  have h3 := h2 _ (h.lt k hk)
  unfold betterC
  by_cases hc : (world Gs b).pl (gt (cvM Gs ch b)) k (ch.getD k 0) < (world Gs b).pl (gt (cvM Gs ch b)) k (bestTo ((world Gs b).pl (gt (cvM Gs ch b)) k) Gs.length)
  · rw [if_pos hc]
    exact ⟨h2, fun _ => hc⟩
  · rw [if_neg hc]
    exact ⟨fun i hi => by have := h2 i hi; grind, fun e => absurd rfl e⟩
/-! ### the law's words, over the numbers -/
theorem law_le (C : Co Gs b) (h : Cho Gs ch) {k : Nat} (hk : k < cN Gs) : gt (cvM Gs ch b) k ≤ gt (cvM Gs (impM Gs ch b) b) k :=
  impr_le (world_ok C) (cv_fol C h) (cv_fol C (imp_cho C h)) (imp_impr C h) k hk
theorem law_top (C : Co Gs b) (h : Cho Gs ch) {k : Nat} (hk : k < cN Gs) : gt (cvM Gs (impM Gs ch b) b) k ≤ gt (tabM Gs b) k :=
  fol_le (world_ok C) (cv_fol C (imp_cho C h)) (tab_best C) k hk
theorem law_lt (C : Co Gs b) (h : Cho Gs ch) {k : Nat} (hk : k < cN Gs) (hne : (impM Gs ch b).getD k 0 ≠ ch.getD k 0) : gt (cvM Gs ch b) k < gt (cvM Gs (impM Gs ch b) b) k :=
  impr_lt (world_ok C) (cv_fol C h) (cv_fol C (imp_cho C h)) (imp_impr C h) k hk hne
theorem tabM_len (C : Co Gs b) : (tabM Gs b).length = cN Gs := by
  unfold tabM; rw [List.length_map, tabCurves_len C]; rfl
theorem law_same (C : Co Gs b) (h : Cho Gs ch) : impM Gs ch b = ch ↔ cvM Gs ch b = tabM Gs b := by
  constructor
  · intro e
    refine ext_gt (by rw [cvM_len C h, tabM_len C]) fun k hk => ?_
    rw [cvM_len C h] at hk
    exact same_best (world_ok C) (cv_fol C h) (tab_best C) (imp_impr C h) (fun j hj => by rw [e]) k hk
  · intro e
    have h1 := best_same (world_ok C) (cv_fol C h) (tab_best C) (imp_impr C h) fun k hk => by rw [e]
    refine List.ext_getElem? fun k => ?_
    by_cases hk : k < cN Gs
    · have h2 := h1 k hk
      have h3 := (imp_cho C h).len
      have h4 := h.len
      rw [getD_get (d := 0) (by omega), getD_get (d := 0) (by omega)]
      exact congrArg some h2
    · have h3 := (imp_cho C h).len
      have h4 := h.len
      rw [List.getElem?_eq_none (by omega), List.getElem?_eq_none (by omega)]
end
end MI
set_option linter.all false
/-! ML: how large the numbers of the elimination get -/
namespace ML
open MA ME
def IsI (x : Rat) : Prop := ∃ z : Int, x = (z : Rat)
theorem IsI.add {x y : Rat} (a : IsI x) (c : IsI y) : IsI (x + y) := by
  obtain ⟨z, rfl⟩ := a; obtain ⟨w, rfl⟩ := c; exact ⟨z + w, (Rat.intCast_add z w).symm⟩
theorem IsI.sub {x y : Rat} (a : IsI x) (c : IsI y) : IsI (x - y) := by
  obtain ⟨z, rfl⟩ := a; obtain ⟨w, rfl⟩ := c; exact ⟨z - w, (Rat.intCast_sub z w).symm⟩
theorem IsI.mul {x y : Rat} (a : IsI x) (c : IsI y) : IsI (x * y) := by
  obtain ⟨z, rfl⟩ := a; obtain ⟨w, rfl⟩ := c; exact ⟨z * w, (Rat.intCast_mul z w).symm⟩
theorem IsI.nat (n : Nat) : IsI (n : Rat) := ⟨n, rfl⟩
theorem IsI.zero : IsI 0 := ⟨0, rfl⟩
theorem IsI.one : IsI 1 := ⟨1, rfl⟩
theorem IsI.S : ∀ {n : Nat} {f : Nat → Rat}, (∀ i, i < n → IsI (f i)) → IsI (S n f)
  | 0, _, _ => IsI.zero
  | n + 1, f, h => (IsI.S (n := n) fun i hi => h i (by omega)).add (h n (by omega))
theorem IsI.eq {x y : Rat} (h : IsI x) (e : x = y) : IsI y := e ▸ h
theorem IsI.ab {x : Rat} (h : IsI x) : IsI (ab x) := by
  unfold MA.ab
  split
  · exact h
  · exact (IsI.zero.sub h).eq (by grind)
theorem ab_add (x y : Rat) : ab (x + y) ≤ ab x + ab y := by
  have h1 := ab_le x; have h2 := ab_neg x; have h3 := ab_le y; have h4 := ab_neg y
  exact ab_of (by grind) (by grind)
theorem ab_sub (x y : Rat) : ab (x - y) ≤ ab x + ab y := by
  have h1 := ab_le x; have h2 := ab_neg x; have h3 := ab_le y; have h4 := ab_neg y
  exact ab_of (by grind) (by grind)
theorem ab_id {x : Rat} (h : 0 ≤ x) : ab x = x := by unfold ab; rw [if_pos h]
theorem ab_ab (x : Rat) : ab (ab x) = ab x := ab_id (ab_nn x)
theorem ab_mul (x y : Rat) : ab (x * y) = ab x * ab y := by
  by_cases h : 0 ≤ y
  · rw [ab_mul_nn x h, ab_id h]
  · have h1 := ab_mul_nn x (y := -y) (by grind)
    have h2 : ab y = -y := by unfold ab; rw [if_neg h]
    rw [h2, ← h1]
    unfold ab
    split <;> split <;> grind
theorem mul_le {a b c d : Rat} (h1 : a ≤ c) (h2 : b ≤ d) (hb : 0 ≤ b) (hc : 0 ≤ c) : a * b ≤ c * d :=
  Rat.le_trans (Rat.mul_le_mul_of_nonneg_right h1 hb) (Rat.mul_le_mul_of_nonneg_left h2 hc)
theorem ab_mul_le {x y a c : Rat} (h1 : ab x ≤ a) (h2 : ab y ≤ c) : ab (x * y) ≤ a * c := by
  rw [ab_mul]
  exact mul_le h1 h2 (ab_nn y) (Rat.le_trans (ab_nn x) h1)
/-! ### fractions with a bound on denominator and numerator -/
/-- x is z / D with D ≤ 2 ^ d, |z| ≤ 2 ^ n -/
structure FR (D : Rat) (N : Rat) (x : Rat) : Prop where
  int : IsI (x * D)
  le : ab (x * D) ≤ N
/-- a denominator: a positive whole number of at most B -/
structure Den (D B : Rat) : Prop where
  int : IsI D
  pos : 0 < D
  le : D ≤ B
theorem Den.one_le {D B : Rat} (h : Den D B) : 1 ≤ D := by
  obtain ⟨z, rfl⟩ := h.int
  have h1 : (0 : Int) < z := by exact_mod_cast h.pos
  have h2 : (1 : Int) ≤ z := h1
  exact_mod_cast h2
theorem Den.mul {D B E C : Rat} (h : Den D B) (k : Den E C) : Den (D * E) (B * C) :=
  ⟨h.int.mul k.int, Rat.mul_pos h.pos k.pos, mul_le h.le k.le (Rat.le_of_lt k.pos) (Rat.le_trans (Rat.le_of_lt h.pos) h.le)⟩
theorem Den.mono {D B C : Rat} (h : Den D B) (hc : B ≤ C) : Den D C := ⟨h.int, h.pos, Rat.le_trans h.le hc⟩
theorem FR.mono {D N M x : Rat} (h : FR D N x) (hc : N ≤ M) : FR D M x := ⟨h.int, Rat.le_trans h.le hc⟩
theorem FR.lift {D N E x : Rat} (h : FR D N x) {B : Rat} (k : Den E B) : FR (D * E) (N * E) x := by
  refine ⟨(h.int.mul k.int).eq (by grind), ?_⟩
  have : x * (D * E) = (x * D) * E := by grind
  rw [this, ab_mul, ab_id (Rat.le_of_lt k.pos)]
  exact Rat.mul_le_mul_of_nonneg_right h.le (Rat.le_of_lt k.pos)
theorem FR.add {D N M x y : Rat} (h : FR D N x) (k : FR D M y) : FR D (N + M) (x + y) := by
  refine ⟨(h.int.add k.int).eq (by grind), ?_⟩
  have e : (x + y) * D = x * D + y * D := by grind
  rw [e]
  have := ab_add (x * D) (y * D)
  have := h.le
  have := k.le
  grind
theorem FR.sub {D N M x y : Rat} (h : FR D N x) (k : FR D M y) : FR D (N + M) (x - y) := by
  refine ⟨(h.int.sub k.int).eq (by grind), ?_⟩
  have e : (x - y) * D = x * D - y * D := by grind
  rw [e]
  have := ab_sub (x * D) (y * D)
  have := h.le
  have := k.le
  grind
theorem FR.mul {D E N M x y : Rat} (h : FR D N x) (k : FR E M y) : FR (D * E) (N * M) (x * y) := by
  refine ⟨(h.int.mul k.int).eq (by grind), ?_⟩
  have e : x * y * (D * E) = (x * D) * (y * E) := by grind
  rw [e]
  exact ab_mul_le h.le k.le
theorem FR.S {D N : Rat} : ∀ {n : Nat} {f : Nat → Rat}, (∀ i, i < n → FR D N (f i)) → FR D ((n : Rat) * N) (MA.S n f)
  | 0, f, _ => ⟨by simp only [MA.S]; exact IsI.zero.eq (by grind), by simp only [MA.S]; rw [show (0 : Rat) * D = 0 by grind]; rw [ab_id (by decide)]; simp⟩
  | n + 1, f, h => by
    have a := (FR.S (n := n) (f := f) fun i hi => h i (by omega)).add (h n (by omega))
    simp only [MA.S]
    refine a.mono ?_
    rw [Rat.natCast_add]
    have : ((1 : Nat) : Rat) = 1 := rfl
    rw [this]
    grind
/-! ### what the limit asks -/
def Lim (x : Rat) : Prop := x.num.natAbs ≤ 2 ^ 4400 ∧ x.den ≤ 2 ^ 4400
theorem FR.nums {D N x : Rat} (h : FR D N x) {B : Rat} (k : Den D B) : (x.num.natAbs : Rat) ≤ N ∧ (x.den : Rat) ≤ B := by
  obtain ⟨z, hz⟩ := h.int
  obtain ⟨d, hd⟩ := k.int
  have hdp : (0 : Int) < d := by have := k.pos; rw [hd] at this; exact_mod_cast this
  have hx : x = (z : Rat) / (d : Rat) := by
    rw [← hz, ← hd]
    have := k.pos
    grind
  have hle := h.le
  rw [hz] at hle
  have hnat : ∃ m : Nat, (m : Int) = d ∧ 0 < m := ⟨d.toNat, by omega, by omega⟩
  obtain ⟨m, hm, hmp⟩ := hnat
  have hden : x.den ∣ m ∧ x.num.natAbs ∣ z.natAbs := by
    have e1 : (x.num : Rat) * (m : Rat) = (z : Rat) * (x.den : Rat) := by
      have hm' : (d : Rat) = (m : Rat) := by rw [← hm]; rfl
      have h1 : x = (x.num : Rat) / (x.den : Rat) := by
        conv => lhs; rw [← Rat.num_divInt_den x]
        rw [Rat.divInt_eq_div]; rfl
      have h2 : (x.den : Rat) ≠ 0 := by exact_mod_cast x.den_nz
      have h3 : (m : Rat) ≠ 0 := by exact_mod_cast (Nat.ne_of_gt hmp)
      have h4 : (x.num : Rat) / (x.den : Rat) = (z : Rat) / (m : Rat) := by rw [← h1, ← hm']; exact hx
      grind
    have e2 : x.num * (m : Int) = z * (x.den : Int) := by exact_mod_cast e1
    have e3 : x.num.natAbs * m = z.natAbs * x.den := by
      have := congrArg Int.natAbs e2
      rw [Int.natAbs_mul, Int.natAbs_mul] at this
      simpa using this
    constructor
    · exact Nat.Coprime.dvd_of_dvd_mul_left x.reduced.symm ⟨z.natAbs, by rw [e3]; exact Nat.mul_comm _ _⟩
    · exact Nat.Coprime.dvd_of_dvd_mul_right x.reduced ⟨m, e3.symm⟩
  constructor
  · have h1 : x.num.natAbs ≤ z.natAbs ∨ z = 0 := by
      by_cases hz0 : z = 0
      · exact .inr hz0
      · exact .inl (Nat.le_of_dvd (Int.natAbs_pos.mpr hz0) hden.2)
    have h2 : ((z.natAbs : Nat) : Rat) = ab (z : Rat) := by
      unfold ab
      by_cases h0 : (0 : Rat) ≤ (z : Rat)
      · rw [if_pos h0]
        have h0' : 0 ≤ z := by exact_mod_cast h0
        have : ((z.natAbs : Nat) : Int) = z := Int.natAbs_of_nonneg h0'
        exact_mod_cast congrArg (fun k : Int => (k : Rat)) this
      · rw [if_neg h0]
        have h0' : ¬ 0 ≤ z := fun h => h0 (by exact_mod_cast h)
        have : ((z.natAbs : Nat) : Int) = -z := by omega
        have e := congrArg (fun k : Int => (k : Rat)) this
        simp only [Rat.intCast_neg] at e
        exact_mod_cast e
    rcases h1 with h1 | h1
    · have h3 : ((x.num.natAbs : Nat) : Rat) ≤ ((z.natAbs : Nat) : Rat) := by exact_mod_cast h1
      rw [h2] at h3
      exact Rat.le_trans h3 hle
    · subst h1
      have hx0 : x = 0 := by rw [hx]; simp [Rat.div_def]
      rw [hx0]
      have h4 := ab_nn ((0 : Int) : Rat)
      simpa using Rat.le_trans h4 hle
  · have h1 : x.den ≤ m := Nat.le_of_dvd hmp hden.1
    have h3 : ((x.den : Nat) : Rat) ≤ ((m : Nat) : Rat) := by exact_mod_cast h1
    have h4 : ((m : Nat) : Rat) = D := by rw [hd, ← hm]; rfl
    rw [h4] at h3
    exact Rat.le_trans h3 k.le
/-- two to the k -/
def tw (k : Nat) : Rat := ((2 ^ k : Nat) : Rat)
theorem tw_mul (a c : Nat) : tw a * tw c = tw (a + c) := by unfold tw; rw [Nat.pow_add, Rat.natCast_mul]
theorem tw_pos (a : Nat) : 0 < tw a := by
  have : 0 < 2 ^ a := Nat.two_pow_pos a
  unfold tw; exact_mod_cast this
theorem tw_le {a c : Nat} (h : a ≤ c) : tw a ≤ tw c := by
  unfold tw
  have := Nat.pow_le_pow_right (show 0 < 2 by decide) h
  exact_mod_cast this
theorem tw_zero : tw 0 = 1 := rfl
theorem tw_one : tw 1 = 2 := rfl
theorem tw_succ (a : Nat) : tw (a + 1) = 2 * tw a := by rw [← tw_one, tw_mul, Nat.add_comm]
theorem IsI.tw (a : Nat) : IsI (tw a) := IsI.nat _
theorem nat_le_tw {m a : Nat} (h : m ≤ 2 ^ a) : (m : Rat) ≤ tw a := by unfold ML.tw; exact_mod_cast h
/-- of d bits below and n bits above the line -/
def FB (d n : Nat) (x : Rat) : Prop := ∃ D, Den D (tw d) ∧ FR D (tw n) x
theorem FB.nums {d n : Nat} {x : Rat} (h : FB d n x) : x.num.natAbs ≤ 2 ^ n ∧ x.den ≤ 2 ^ d := by
  obtain ⟨D, h1, h2⟩ := h
  obtain ⟨h3, h4⟩ := h2.nums h1
  unfold tw at h3 h4
  exact ⟨by exact_mod_cast h3, by exact_mod_cast h4⟩
theorem FB.lim {d n : Nat} {x : Rat} (h : FB d n x) (hd : d ≤ 4400) (hn : n ≤ 4400) : Lim x := by
  obtain ⟨h1, h2⟩ := h.nums
  exact ⟨Nat.le_trans h1 (Nat.pow_le_pow_right (by decide) hn), Nat.le_trans h2 (Nat.pow_le_pow_right (by decide) hd)⟩
theorem FB.mono {d n d' n' : Nat} {x : Rat} (h : FB d n x) (hd : d ≤ d') (hn : n ≤ n') : FB d' n' x := by
  obtain ⟨D, h1, h2⟩ := h
  exact ⟨D, h1.mono (tw_le hd), h2.mono (tw_le hn)⟩
theorem FB.mul {d n d' n' : Nat} {x y : Rat} (h : FB d n x) (k : FB d' n' y) : FB (d + d') (n + n') (x * y) := by
  obtain ⟨D, h1, h2⟩ := h
  obtain ⟨E, k1, k2⟩ := k
  exact ⟨D * E, by rw [← tw_mul]; exact h1.mul k1, by rw [← tw_mul]; exact h2.mul k2⟩
theorem FR.both {D E N M x y : Rat} {B C : Rat} (h : FR D N x) (hD : Den D B) (k : FR E M y) (hE : Den E C) (hN : 0 ≤ N) (hM : 0 ≤ M) : FR (D * E) (N * C + M * B) (x + y) ∧ FR (D * E) (N * C + M * B) (x - y) := by
  have a := h.lift hE
  have c := k.lift hD
  rw [Rat.mul_comm E D] at c
  have e1 : N * E ≤ N * C := Rat.mul_le_mul_of_nonneg_left hE.le hN
  have e2 : M * D ≤ M * B := Rat.mul_le_mul_of_nonneg_left hD.le hM
  exact ⟨(a.add c).mono (by grind), (a.sub c).mono (by grind)⟩
theorem FB.add {d n d' n' m : Nat} {x y : Rat} (h : FB d n x) (k : FB d' n' y) (h1 : n + d' < m) (h2 : n' + d < m) : FB (d + d') m (x + y) := by
  obtain ⟨D, a1, a2⟩ := h
  obtain ⟨E, c1, c2⟩ := k
  refine ⟨D * E, by rw [← tw_mul]; exact a1.mul c1, (FR.both a2 a1 c2 c1 (Rat.le_of_lt (tw_pos _)) (Rat.le_of_lt (tw_pos _))).1.mono ?_⟩
  rw [tw_mul, tw_mul]
  obtain ⟨q, rfl⟩ : ∃ q, m = q + 1 := ⟨m - 1, by omega⟩
  have e1 := tw_le (show n + d' ≤ q by omega)
  have e2 := tw_le (show n' + d ≤ q by omega)
  rw [tw_succ]; grind
theorem FB.sub {d n d' n' m : Nat} {x y : Rat} (h : FB d n x) (k : FB d' n' y) (h1 : n + d' < m) (h2 : n' + d < m) : FB (d + d') m (x - y) := by
  obtain ⟨D, a1, a2⟩ := h
  obtain ⟨E, c1, c2⟩ := k
  refine ⟨D * E, by rw [← tw_mul]; exact a1.mul c1, (FR.both a2 a1 c2 c1 (Rat.le_of_lt (tw_pos _)) (Rat.le_of_lt (tw_pos _))).2.mono ?_⟩
  rw [tw_mul, tw_mul]
  obtain ⟨q, rfl⟩ : ∃ q, m = q + 1 := ⟨m - 1, by omega⟩
  have e1 := tw_le (show n + d' ≤ q by omega)
  have e2 := tw_le (show n' + d ≤ q by omega)
  rw [tw_succ]; grind
theorem ab_pos {x : Rat} (h : x ≠ 0) : 0 < ab x := by
  unfold ab; split <;> grind
/-- a quotient of two fractions over one denominator -/
theorem FR.div {D N M x y : Rat} (h : FR D N x) (k : FR D M y) (hD : 0 < D) (hy : y ≠ 0) : Den (ab (y * D)) M ∧ FR (ab (y * D)) N (x / y) := by
  have hyD : y * D ≠ 0 := by
    intro z
    rcases Rat.mul_eq_zero.mp z with z | z
    · exact hy z
    · grind
  refine ⟨⟨k.int.ab, ab_pos hyD, k.le⟩, ?_⟩
  have e : x / y * ab (y * D) = x * D ∨ x / y * ab (y * D) = -(x * D) := by
    unfold ab
    split
    · exact .inl (by grind)
    · exact .inr (by grind)
  rcases e with e | e
  · exact ⟨by rw [e]; exact h.int, by rw [e]; exact h.le⟩
  · have e2 : -(x * D) = 0 - x * D := by grind
    refine ⟨by rw [e, e2]; exact IsI.zero.sub h.int, ?_⟩
    rw [e]
    have h1 := h.le
    have h2 := ab_le (x * D)
    have h3 := ab_neg (x * D)
    exact ab_of (by grind) (by grind)
theorem FB.div {d n d' n' : Nat} {x y : Rat} (h : FB d n x) (k : FB d' n' y) (hy : y ≠ 0) : FB (n' + d) (n + d') (x / y) := by
  obtain ⟨D, a1, a2⟩ := h
  obtain ⟨E, c1, c2⟩ := k
  have b1 := a2.lift c1
  have b2 := c2.lift a1
  rw [Rat.mul_comm E D] at b2
  obtain ⟨e1, e2⟩ := b1.div b2 (Rat.mul_pos a1.pos c1.pos) hy
  refine ⟨_, e1.mono ?_, e2.mono ?_⟩
  · rw [← tw_mul]; exact Rat.mul_le_mul_of_nonneg_left a1.le (Rat.le_of_lt (tw_pos _))
  · rw [← tw_mul]; exact Rat.mul_le_mul_of_nonneg_left c1.le (Rat.le_of_lt (tw_pos _))
theorem FB.zero : FB 0 0 0 := ⟨1, ⟨IsI.one, by decide, by rw [tw_zero]; exact Rat.le_refl⟩, ⟨IsI.zero.eq (by grind), by rw [tw_zero, show (0 : Rat) * 1 = 0 by grind, ab_id (by decide)]; decide⟩⟩
theorem FB.one : FB 0 0 1 := ⟨1, ⟨IsI.one, by decide, by rw [tw_zero]; exact Rat.le_refl⟩, ⟨IsI.one.eq (by grind), by rw [tw_zero, show (1 : Rat) * 1 = 1 by grind, ab_id (by decide)]; exact Rat.le_refl⟩⟩
end ML
set_option linter.all false
/-! MS: the elimination's numbers stay small -/
namespace MS
open MA ME ML
/-- what the rewards are multiplied with, how large they are then -/
def F : Rat := 12
theorem F_den : Den F (tw 4) := ⟨⟨12, rfl⟩, by decide, by decide⟩
def bt (h : Nat) : Nat → Nat
  | 0 => 0
  | 1 => h
  | a + 2 => 2 * bt h (a + 1) + h + 2
theorem bt_mono (h : Nat) : ∀ {a c : Nat}, a ≤ c → bt h a ≤ bt h c := by
  have step : ∀ a, bt h a ≤ bt h (a + 1) := fun a => by
    cases a with
    | zero => exact Nat.zero_le _
    | succ a => show bt h (a + 1) ≤ 2 * bt h (a + 1) + h + 2; omega
  intro a c hac
  induction c with
  | zero => have : a = 0 := by omega
            rw [this]; exact Nat.le_refl _
  | succ c ih =>
    by_cases e : a = c + 1
    · rw [e]; exact Nat.le_refl _
    · exact Nat.le_trans (ih (by omega)) (step c)
structure RowZ (h n k : Nat) (A : Nat → Rat) (e : Rat) : Prop where
  den : Den e (tw h)
  int : ∀ l, l < n + k → l ≠ n → IsI (A l * e)
  le1 : ∀ l, l < n + k → l ≠ n → ab (A l) ≤ 1
  sum : S n (fun c => ab (A c)) ≤ 2
  sumx : ∀ l, n < l → l < n + k → ab (A l) + S n (fun c => ab (A c)) ≤ 2
  rew : FR F (tw 107) (A n)
theorem subsum {n i : Nat} {p : Nat → Nat} {f : Nat → Rat} (hf : ∀ c, 0 ≤ f c) (lt : ∀ j, j < i → p j < n) (inj : ∀ a c, a < i → c < i → p a = p c → a = c) {l : Nat} (hl : l < n) (ne : ∀ j, j < i → p j ≠ l) : f l + S i (fun j => f (p j)) ≤ S n f := by
  have h1 : S i (fun j => f (p j)) = S n (fun c => S i (fun j => if p j = c then (1 : Rat) else 0) * f c) := by
    rw [S_congr (h := fun j => S n (fun c => (if p j = c then (1 : Rat) else 0) * f c)) fun j hj => by
      rw [S_one (p j) (lt j hj) fun c _ hne => by rw [if_neg fun e => hne e.symm]; grind]
      rw [if_pos rfl]; grind]
    rw [S_swap]
    exact S_congr fun c _ => by rw [S_mulr]
  have h2 : f l = S n (fun c => (if c = l then (1 : Rat) else 0) * f c) := by
    rw [S_one l hl fun c _ hne => by rw [if_neg hne]; grind]
    rw [if_pos rfl]; grind
  rw [h1, h2, ← S_add]
  refine S_le fun c hc => ?_
  have h3 : (if c = l then (1 : Rat) else 0) + S i (fun j => if p j = c then (1 : Rat) else 0) ≤ 1 := by
    by_cases e : c = l
    · rw [if_pos e, S_zero fun j hj => by rw [if_neg fun q => ne j hj (by rw [q, e])]]; grind
    · rw [if_neg e]
      by_cases hx : ∃ j, j < i ∧ p j = c
      · obtain ⟨j, hj, ej⟩ := hx
        rw [S_one j hj fun a ha hne => by rw [if_neg fun q => hne (inj a j ha hj (by rw [q, ej]))]]
        rw [if_pos ej]; grind
      · rw [S_zero fun j hj => by rw [if_neg fun q => hx ⟨j, hj, q⟩]]; grind
  have h4 := Rat.mul_le_mul_of_nonneg_right h3 (hf c)
  grind
theorem subsum0 {n i : Nat} {p : Nat → Nat} {f : Nat → Rat} (hf : ∀ c, 0 ≤ f c) (lt : ∀ j, j < i → p j < n) (inj : ∀ a c, a < i → c < i → p a = p c → a = c) : S i (fun j => f (p j)) ≤ S n f := by
  have h1 : S i (fun j => f (p j)) = S n (fun c => S i (fun j => if p j = c then (1 : Rat) else 0) * f c) := by
    rw [S_congr (h := fun j => S n (fun c => (if p j = c then (1 : Rat) else 0) * f c)) fun j hj => by
      rw [S_one (p j) (lt j hj) fun c _ hne => by rw [if_neg fun e => hne e.symm]; grind]
      rw [if_pos rfl]; grind]
    rw [S_swap]
    exact S_congr fun c _ => by rw [S_mulr]
  rw [h1]
  refine S_le fun c hc => ?_
  have h3 : S i (fun j => if p j = c then (1 : Rat) else 0) ≤ 1 := by
    by_cases hx : ∃ j, j < i ∧ p j = c
    · obtain ⟨j, hj, ej⟩ := hx
      rw [S_one j hj fun a ha hne => by rw [if_neg fun q => hne (inj a j ha hj (by rw [q, ej]))]]
      rw [if_pos ej]; exact Rat.le_refl
    · rw [S_zero fun j hj => by rw [if_neg fun q => hx ⟨j, hj, q⟩]]; decide
  have h4 := Rat.mul_le_mul_of_nonneg_right h3 (hf c)
  grind
variable {n k h : Nat} {M b : List (List Rat)}
/-- all rows are small -/
def Rows (h n k : Nat) (M b : List (List Rat)) : Prop := ∀ i, i < n → ∃ e, RowZ h n k (fun l => gt (hat n M b i) l) e
/-- the reduced rows have one denominator -/
structure Cm (n k : Nat) (M b : List (List Rat)) (a : Nat) (D B : Rat) : Prop where
  den : Den D B
  row : ∀ j l, j < a → l < n + k + n → l ≠ n → FR D B (rw_ (stp n M b a).2 j l)
/-- the row at, as far as i rows are taken from it -/
def pt (n : Nat) (M b : List (List Rat)) (a i l : Nat) : Rat := gt (hat n M b a) l - S i fun j => gt (hat n M b a) (cl (stp n M b a).1 j) * rw_ (stp n M b a).2 j l
section
variable (Y : Sys n k M b)
include Y
theorem part_z {a i l : Nat} (ha : a < n) (hi : i ≤ a) {e D B : Rat} (Z : RowZ h n k (fun l => gt (hat n M b a) l) e) (C : Cm n k M b a D B) (hl : l < n + k + n) (hn : l ≠ n) : FR (e * D) (e * (2 * B)) (pt n M b a i l) := by
  have I := inv_all Y a (Nat.le_of_lt ha)
  have hB : 0 ≤ B := Rat.le_trans (Rat.le_of_lt C.den.pos) C.den.le
  have he := Rat.le_of_lt Z.den.pos
  have he2 : 0 ≤ e * B := Rat.mul_nonneg he hB
  have lts : ∀ j, j < i → cl (stp n M b a).1 j < n := fun j hj => I.lt j (by omega)
  have injs : ∀ p q, p < i → q < i → cl (stp n M b a).1 p = cl (stp n M b a).1 q → p = q := fun p q hp hq => I.inj p q (by omega) (by omega)
  by_cases hx : ∃ j, j < i ∧ cl (stp n M b a).1 j = l
  · obtain ⟨j, hj, rfl⟩ := hx
    have z : pt n M b a i (cl (stp n M b a).1 j) = 0 := by
      unfold pt
      rw [S_one j hj fun q hq hne => by rw [I.dl q j (by omega) (by omega), if_neg (by omega)]; grind]
      rw [I.dl j j (by omega) (by omega), if_pos rfl]; grind
    rw [z]
    exact ⟨IsI.zero.eq (by grind), by rw [show (0 : Rat) * (e * D) = 0 by grind, ab_id (by decide)]; grind⟩
  · have hne : ∀ j, j < i → cl (stp n M b a).1 j ≠ l := fun j hj q => hx ⟨j, hj, q⟩
    have ez : pt n M b a i l * (e * D) = gt (hat n M b a) l * e * D - S i (fun j => gt (hat n M b a) (cl (stp n M b a).1 j) * e * (rw_ (stp n M b a).2 j l * D)) := by
      unfold pt
      rw [S_congr (f := fun j => gt (hat n M b a) (cl (stp n M b a).1 j) * e * (rw_ (stp n M b a).2 j l * D)) (h := fun j => gt (hat n M b a) (cl (stp n M b a).1 j) * rw_ (stp n M b a).2 j l * (e * D)) fun j _ => by grind]
      rw [S_mulr]; grind
    have iA : IsI (gt (hat n M b a) l * e) := by
      by_cases h1 : l < n + k
      · exact Z.int l h1 hn
      · obtain ⟨t, rfl⟩ : ∃ t, l = n + k + t := ⟨l - (n + k), by omega⟩
        rw [Y.hI ha (by omega)]
        split
        · exact (IsI.one.mul Z.den.int)
        · exact IsI.zero.eq (by grind)
    have iS : IsI (S i (fun j => gt (hat n M b a) (cl (stp n M b a).1 j) * e * (rw_ (stp n M b a).2 j l * D))) := IsI.S fun j hj => by
      have h1 := lts j hj
      exact (Z.int _ (by omega) (by omega)).mul (C.row j l (by omega) hl hn).int
    refine ⟨by rw [ez]; exact (iA.mul C.den.int).sub iS, ?_⟩
    rw [ez]
    -- the sum's absolute value
    have bS : ∀ i', i' ≤ i → ab (S i' (fun j => gt (hat n M b a) (cl (stp n M b a).1 j) * e * (rw_ (stp n M b a).2 j l * D))) ≤ S i' (fun j => ab (gt (hat n M b a) (cl (stp n M b a).1 j))) * (e * B) := fun i' hi' => by
      refine Rat.le_trans (ab_S _ _) ?_
      rw [← S_mulr]
      refine S_le fun j hj => ?_
      have h1 := (C.row j l (by omega) hl hn).le
      have h2 : ab (gt (hat n M b a) (cl (stp n M b a).1 j) * e) = ab (gt (hat n M b a) (cl (stp n M b a).1 j)) * e := ab_mul_nn _ he
      rw [ab_mul, h2, Rat.mul_assoc]
      exact Rat.mul_le_mul_of_nonneg_left (Rat.mul_le_mul_of_nonneg_left h1 he) (ab_nn _)
    have bS := bS i (Nat.le_refl _)
    have bA : ab (gt (hat n M b a) l * e * D) ≤ ab (gt (hat n M b a) l) * (e * B) := by
      rw [ab_mul_nn _ (Rat.le_of_lt C.den.pos), ab_mul_nn _ he, Rat.mul_assoc]
      exact Rat.mul_le_mul_of_nonneg_left (Rat.mul_le_mul_of_nonneg_left C.den.le he) (ab_nn _)
    refine Rat.le_trans (ab_sub _ _) ?_
    by_cases h1 : l < n + k
    · have h2 : ab (gt (hat n M b a) l) + S i (fun j => ab (gt (hat n M b a) (cl (stp n M b a).1 j))) ≤ 2 := by
        by_cases h3 : l < n
        · exact Rat.le_trans (subsum (f := fun c => ab (gt (hat n M b a) c)) (fun c => ab_nn _) lts injs h3 hne) Z.sum
        · have h4 := subsum0 (f := fun c => ab (gt (hat n M b a) c)) (fun c => ab_nn _) lts injs
          have h5 := Z.sumx l (by omega) h1
          have h6 : ab (gt (hat n M b a) l) + S n (fun c => ab (gt (hat n M b a) c)) ≤ 2 := h5
          grind
      have h3 := Rat.mul_le_mul_of_nonneg_right h2 he2
      grind
    · obtain ⟨t, rfl⟩ : ∃ t, l = n + k + t := ⟨l - (n + k), by omega⟩
      by_cases ht : t = a
      · subst ht
        have z : S i (fun j => gt (hat n M b t) (cl (stp n M b t).1 j) * e * (rw_ (stp n M b t).2 j (n + k + t) * D)) = 0 := S_zero fun j hj => by
          rw [I.supp j t (by omega) (Nat.le_refl _) ha]; grind
        rw [z, show ab (0 : Rat) = 0 from ab_id (by decide)]
        rw [Y.hI ha (by omega), if_pos rfl] at bA ⊢
        rw [show ab (1 : Rat) = 1 from ab_id (by decide)] at bA
        grind
      · have z : ab (gt (hat n M b a) (n + k + t) * e * D) = 0 := by
          rw [Y.hI ha (by omega), if_neg ht, show (0 : Rat) * e * D = 0 by grind]; exact ab_id (by decide)
        rw [z]
        have h4 : S i (fun j => ab (gt (hat n M b a) (cl (stp n M b a).1 j))) ≤ 2 := Rat.le_trans (subsum0 (f := fun c => ab (gt (hat n M b a) c)) (fun c => ab_nn _) lts injs) Z.sum
        have h3 := Rat.mul_le_mul_of_nonneg_right h4 he2
        grind
/-- the column of the rewards in a reduced row -/
theorem rew_z {a j : Nat} (ha : a ≤ n) (hj : j < a) (R : Rows h n k M b) (hk : 0 < k) {D B : Rat} (C : Cm n k M b a D B) : FR (D * F) ((n : Rat) * (B * tw 107)) (rw_ (stp n M b a).2 j n) := by
  have I := inv_all Y a ha
  rw [I.comb j n hj (by omega)]
  refine FR.S fun i hi => ?_
  obtain ⟨e, Z⟩ := R i hi
  exact (C.row j _ hj (by omega) (by omega)).mul Z.rew
theorem pt_rew {a i : Nat} (ha : a < n) (hi : i ≤ a) (R : Rows h n k M b) (hk : 0 < k) {e D B : Rat} (Z : RowZ h n k (fun l => gt (hat n M b a) l) e) (C : Cm n k M b a D B) : FR (e * (D * F)) (e * (B * tw 107) + 2 * (e * ((n : Rat) * (B * tw 107)))) (pt n M b a i n) := by
  have I := inv_all Y a (Nat.le_of_lt ha)
  have hB : 0 ≤ B := Rat.le_trans (Rat.le_of_lt C.den.pos) C.den.le
  have he := Rat.le_of_lt Z.den.pos
  have hT : 0 ≤ tw 107 := Rat.le_of_lt (tw_pos _)
  have hX : 0 ≤ (n : Rat) * (B * tw 107) := Rat.mul_nonneg (by exact_mod_cast Nat.zero_le n) (Rat.mul_nonneg hB hT)
  have lts : ∀ j, j < i → cl (stp n M b a).1 j < n := fun j hj => I.lt j (by omega)
  have injs : ∀ p q, p < i → q < i → cl (stp n M b a).1 p = cl (stp n M b a).1 q → p = q := fun p q hp hq => I.inj p q (by omega) (by omega)
  have ez : pt n M b a i n * (e * (D * F)) = gt (hat n M b a) n * F * (e * D) - S i (fun j => gt (hat n M b a) (cl (stp n M b a).1 j) * e * (rw_ (stp n M b a).2 j n * (D * F))) := by
    unfold pt
    rw [S_congr (f := fun j => gt (hat n M b a) (cl (stp n M b a).1 j) * e * (rw_ (stp n M b a).2 j n * (D * F))) (h := fun j => gt (hat n M b a) (cl (stp n M b a).1 j) * rw_ (stp n M b a).2 j n * (e * (D * F))) fun j _ => by grind]
    rw [S_mulr]; grind
  refine ⟨?_, ?_⟩
  · rw [ez]
    refine IsI.sub (Z.rew.int.mul (Z.den.int.mul C.den.int)) (IsI.S fun j hj => ?_)
    have h1 := lts j hj
    exact (Z.int _ (by omega) (by omega)).mul (rew_z Y (by omega) (by omega) R hk C).int
  · rw [ez]
    refine Rat.le_trans (ab_sub _ _) ?_
    have h1 : ab (gt (hat n M b a) n * F * (e * D)) ≤ e * (B * tw 107) := by
      rw [ab_mul_nn _ (Rat.mul_nonneg he (Rat.le_of_lt C.den.pos))]
      have q1 := Z.rew.le
      have q2 : e * D ≤ e * B := Rat.mul_le_mul_of_nonneg_left C.den.le he
      have q3 := mul_le q1 q2 (Rat.mul_nonneg he (Rat.le_of_lt C.den.pos)) hT
      grind
    have h2 : ab (S i (fun j => gt (hat n M b a) (cl (stp n M b a).1 j) * e * (rw_ (stp n M b a).2 j n * (D * F)))) ≤ S i (fun j => ab (gt (hat n M b a) (cl (stp n M b a).1 j))) * (e * ((n : Rat) * (B * tw 107))) := by
      refine Rat.le_trans (ab_S _ _) ?_
      rw [← S_mulr]
      refine S_le fun j hj => ?_
      have q1 := (rew_z Y (by omega) (show j < a by omega) R hk C).le
      have q2 : ab (gt (hat n M b a) (cl (stp n M b a).1 j) * e) = ab (gt (hat n M b a) (cl (stp n M b a).1 j)) * e := ab_mul_nn _ he
      rw [ab_mul, q2, Rat.mul_assoc]
      exact Rat.mul_le_mul_of_nonneg_left (Rat.mul_le_mul_of_nonneg_left q1 he) (ab_nn _)
    have h4 : S i (fun j => ab (gt (hat n M b a) (cl (stp n M b a).1 j))) ≤ 2 := Rat.le_trans (subsum0 (f := fun c => ab (gt (hat n M b a) c)) (fun c => ab_nn _) lts injs) Z.sum
    have h5 := Rat.mul_le_mul_of_nonneg_right h4 (Rat.mul_nonneg he hX)
    grind
end
end MS
set_option linter.all false
set_option exponentiation.threshold 10000
/-! MT: the elimination's sizes, step by step -/
namespace MT
open MA ME ML MS
variable {n k h : Nat} {M b : List (List Rat)}
theorem fb_of {d m : Nat} {D N x B : Rat} (hD : Den D B) (hx : FR D N x) (h1 : B ≤ tw d) (h2 : N ≤ tw m) : FB d m x := ⟨D, hD.mono h1, hx.mono h2⟩
theorem den_one : Den (1 : Rat) (tw 0) := ⟨IsI.one, by decide, by rw [tw_zero]; exact Rat.le_refl⟩
section
variable (Y : Sys n k M b)
include Y
theorem red_pt {a l : Nat} (ha : a < n) (hl : l < n + k + n) : gt (ME.red (stp n M b a).1 (stp n M b a).2 (hat n M b a)) l = pt n M b a a l :=
  ((inv_all Y a (Nat.le_of_lt ha)).red Y (Y.hlen ha)).2 l hl
/-- the pivot's column -/
def pc (n : Nat) (M b : List (List Rat)) (a : Nat) : Nat := (firstNZ (ME.red (stp n M b a).1 (stp n M b a).2 (hat n M b a)) n).getD 0
theorem pc_spec {a : Nat} (ha : a < n) : firstNZ (ME.red (stp n M b a).1 (stp n M b a).2 (hat n M b a)) n = some (pc n M b a) ∧ pc n M b a < n ∧ pt n M b a a (pc n M b a) ≠ 0 := by
  obtain ⟨c, h1, h2, h3, _⟩ := (inv_all Y a (Nat.le_of_lt ha)).found Y ha
  unfold pc
  rw [h1]
  refine ⟨rfl, h2, ?_⟩
  show pt n M b a a c ≠ 0
  rw [← red_pt Y ha (by omega)]
  exact h3
theorem new_old {a j l : Nat} (ha : a < n) (hj : j < a) (hl : l < n + k + n) : rw_ (stp n M b (a + 1)).2 j l = rw_ (stp n M b a).2 j l - rw_ (stp n M b a).2 j (pc n M b a) * (pt n M b a a l / pt n M b a a (pc n M b a)) := by
  have I := inv_all Y a (Nat.le_of_lt ha)
  obtain ⟨h1, h2⟩ := I.red Y (Y.hlen ha)
  obtain ⟨p1, p2, p3⟩ := pc_spec Y ha
  have hl' := I.len j hj
  have e : (stp n M b (a + 1)).2.getD j [] = wo ((stp n M b a).2.getD j []) ((ME.red (stp n M b a).1 (stp n M b a).2 (hat n M b a)).map fun x => x / gt (ME.red (stp n M b a).1 (stp n M b a).2 (hat n M b a)) (pc n M b a)) (pc n M b a) := by
    show (((stp n M b a).2.map fun o => wo o _ _) ++ [_]).getD j [] = _
    rw [getD_app_l (by rw [List.length_map, I.lr]; exact hj), getD_map (d := []) (by rw [I.lr]; exact hj)]; rfl
  unfold rw_
  rw [e, gt_wo (by rw [List.length_map]; omega) (by omega), gt_map (by omega), red_pt Y ha hl, red_pt Y ha (by omega)]
theorem new_new {a l : Nat} (ha : a < n) (hl : l < n + k + n) : rw_ (stp n M b (a + 1)).2 a l = pt n M b a a l / pt n M b a a (pc n M b a) := by
  have I := inv_all Y a (Nat.le_of_lt ha)
  obtain ⟨h1, h2⟩ := I.red Y (Y.hlen ha)
  obtain ⟨p1, p2, p3⟩ := pc_spec Y ha
  have e : (stp n M b (a + 1)).2.getD a [] = (ME.red (stp n M b a).1 (stp n M b a).2 (hat n M b a)).map fun x => x / gt (ME.red (stp n M b a).1 (stp n M b a).2 (hat n M b a)) (pc n M b a) := by
    show (((stp n M b a).2.map fun o => wo o _ _) ++ [_]).getD a [] = _
    exact getD_app_end (by rw [List.length_map, I.lr])
  unfold rw_
  rw [e, gt_map (by omega), red_pt Y ha hl, red_pt Y ha (by omega)]
/-- the part of a row that has not been touched, at a later column -/
theorem pt_cl {a i : Nat} (ha : a < n) (hi : i < a) : pt n M b a i (cl (stp n M b a).1 i) = gt (hat n M b a) (cl (stp n M b a).1 i) := by
  have I := inv_all Y a (Nat.le_of_lt ha)
  unfold pt
  rw [S_zero fun j hj => by rw [I.dl j i (by omega) hi, if_neg (by omega)]; grind]; grind
theorem cm_zero : Cm n k M b 0 1 (tw (bt h 0)) := ⟨den_one, fun j l hj => by omega⟩
theorem pt0 (a l : Nat) : pt n M b a 0 l = gt (hat n M b a) l := by unfold pt; simp only [S]; grind
theorem cm_one (hn : 0 < n) (R : Rows h n k M b) : ∃ D, Cm n k M b 1 D (tw (bt h 1)) := by
  obtain ⟨e, Z⟩ := R 0 hn
  obtain ⟨p1, p2, p3⟩ := pc_spec Y hn
  have fr : ∀ l, l < n + k + n → l ≠ n → FR e e (pt n M b 0 0 l) := fun l hl hne => by
    rw [pt0 Y]
    by_cases h1 : l < n + k
    · refine ⟨Z.int l h1 hne, ?_⟩
      rw [ab_mul_nn _ (Rat.le_of_lt Z.den.pos)]
      have := Rat.mul_le_mul_of_nonneg_right (Z.le1 l h1 hne) (Rat.le_of_lt Z.den.pos)
      grind
    · obtain ⟨t, rfl⟩ : ∃ t, l = n + k + t := ⟨l - (n + k), by omega⟩
      rw [Y.hI hn (by omega)]
      have hp := Z.den.pos
      split
      · exact ⟨IsI.one.mul Z.den.int, by rw [show (1 : Rat) * e = e by grind, ab_id (Rat.le_of_lt hp)]; exact Rat.le_refl⟩
      · exact ⟨IsI.zero.eq (by grind), by rw [show (0 : Rat) * e = 0 by grind, ab_id (by decide)]; exact Rat.le_of_lt hp⟩
  have q := fun l (hl : l < n + k + n) (hne : l ≠ n) => (fr l hl hne).div (fr _ (show pc n M b 0 < n + k + n by omega) (by omega)) Z.den.pos p3
  refine ⟨ab (pt n M b 0 0 (pc n M b 0) * e), (q (pc n M b 0) (by omega) (by omega)).1.mono Z.den.le, fun j l hj hl hne => ?_⟩
  have : j = 0 := by omega
  subst this
  rw [new_new Y hn hl]
  exact (q l hl hne).2.mono Z.den.le
theorem quo {a : Nat} (ha : a < n) (R : Rows h n k M b) {D B : Rat} (C : Cm n k M b a D B) : ∃ z, Den z (tw (h + 1) * B) ∧ ∀ l, l < n + k + n → l ≠ n → FR z (tw (h + 1) * B) (pt n M b a a l / pt n M b a a (pc n M b a)) := by
  obtain ⟨e, Z⟩ := R a ha
  obtain ⟨p1, p2, p3⟩ := pc_spec Y ha
  have hB : 0 ≤ B := Rat.le_trans (Rat.le_of_lt C.den.pos) C.den.le
  have fr := fun l (hl : l < n + k + n) (hne : l ≠ n) => part_z Y ha (Nat.le_refl a) Z C hl hne
  have hm : e * (2 * B) ≤ tw (h + 1) * B := by
    have := Rat.mul_le_mul_of_nonneg_right Z.den.le (show 0 ≤ 2 * B by grind)
    rw [tw_succ]; grind
  have q := fun l (hl : l < n + k + n) (hne : l ≠ n) => (fr l hl hne).div (fr _ (show pc n M b a < n + k + n by omega) (by omega)) (Rat.mul_pos Z.den.pos C.den.pos) p3
  exact ⟨_, (q (pc n M b a) (by omega) (by omega)).1.mono hm, fun l hl hne => (q l hl hne).2.mono hm⟩
theorem cm_step {a : Nat} (ha : a + 1 < n) (R : Rows h n k M b) {D : Rat} (C : Cm n k M b (a + 1) D (tw (bt h (a + 1)))) : ∃ D', Cm n k M b (a + 2) D' (tw (bt h (a + 2))) := by
  obtain ⟨z, hz, q⟩ := quo Y ha R C
  obtain ⟨p1, p2, p3⟩ := pc_spec Y ha
  have e1 : tw (bt h (a + 1)) * (tw (h + 1) * tw (bt h (a + 1))) = tw (bt h (a + 1) + (h + 1 + bt h (a + 1))) := by rw [tw_mul, tw_mul]
  have e2 : tw (bt h (a + 2)) = 2 * tw (bt h (a + 1) + (h + 1 + bt h (a + 1))) := by
    rw [← tw_succ]; congr 1; show 2 * bt h (a + 1) + h + 2 = _; omega
  have hp := tw_pos (bt h (a + 1) + (h + 1 + bt h (a + 1)))
  have hB := Rat.le_of_lt (tw_pos (bt h (a + 1)))
  refine ⟨D * z, (C.den.mul hz).mono (by rw [e1, e2]; grind), fun j l hj hl hne => ?_⟩
  by_cases ej : j = a + 1
  · subst ej
    rw [new_new Y ha hl]
    have f := (q l hl hne).lift C.den
    rw [Rat.mul_comm z D] at f
    refine f.mono ?_
    have := Rat.mul_le_mul_of_nonneg_left C.den.le (Rat.mul_nonneg (Rat.le_of_lt (tw_pos (h + 1))) hB)
    rw [e2, ← e1]; grind
  · have hj : j < a + 1 := by omega
    rw [new_old Y ha hj hl]
    have f1 := (C.row j l hj hl hne).lift hz
    have f2 := (C.row j (pc n M b (a + 1)) hj (by omega) (by omega)).mul (q l hl hne)
    refine (f1.sub f2).mono ?_
    have := Rat.mul_le_mul_of_nonneg_left hz.le hB
    rw [e2, ← e1]; grind
theorem cm_all (R : Rows h n k M b) : ∀ a, a ≤ n → ∃ D, Cm n k M b a D (tw (bt h a))
  | 0, _ => ⟨1, cm_zero Y⟩
  | 1, h => cm_one Y h R
  | a + 2, h => by
    obtain ⟨D, C⟩ := cm_all R (a + 1) (by omega)
    exact cm_step Y h R C
/-! ### within the limit -/
theorem lim_row (R : Rows h n k M b) (hk : 0 < k) (h9 : n ≤ 9) (hL : bt h n + 130 ≤ 4400) {a j l : Nat} (ha : a ≤ n) (hj : j < a) (hl : l < n + k + n) : Lim (rw_ (stp n M b a).2 j l) := by
  obtain ⟨D, C⟩ := cm_all Y R a ha
  have hm := bt_mono h ha
  by_cases hne : l = n
  · subst hne
    have f := rew_z Y ha hj R hk C
    refine (fb_of (d := bt h a + 4) (m := 4 + (bt h a + 107)) (C.den.mul F_den) f (by rw [tw_mul]; exact Rat.le_refl) ?_).lim (by omega) (by omega)
    rw [← tw_mul, ← tw_mul]
    exact Rat.mul_le_mul_of_nonneg_right (nat_le_tw (by omega)) (Rat.mul_nonneg (Rat.le_of_lt (tw_pos _)) (Rat.le_of_lt (tw_pos _)))
  · exact (fb_of C.den (C.row j l hj hl hne) Rat.le_refl Rat.le_refl).lim (by omega) (by omega)
theorem lim_pt (R : Rows h n k M b) (hk : 0 < k) (h9 : n ≤ 9) (h8 : h ≤ 8) (hL : bt h n + 130 ≤ 4400) {a i l : Nat} (ha : a < n) (hi : i ≤ a) (hl : l < n + k + n) : Lim (pt n M b a i l) := by
  obtain ⟨D, C⟩ := cm_all Y R a (Nat.le_of_lt ha)
  obtain ⟨e, Z⟩ := R a ha
  have hm := bt_mono h (Nat.le_of_lt ha)
  have hB := Rat.le_of_lt (tw_pos (bt h a))
  by_cases hne : l = n
  · subst hne
    have f := pt_rew Y ha hi R hk Z C
    refine (fb_of (d := h + (bt h a + 4)) (m := h + (bt h a + 107) + 5) (Z.den.mul (C.den.mul F_den)) f (by rw [tw_mul, tw_mul]; exact Rat.le_refl) ?_).lim (by omega) (by omega)
    rw [← tw_mul, ← tw_mul, ← tw_mul]
    have hx : 0 ≤ tw (bt h a) * tw 107 := Rat.mul_nonneg hB (Rat.le_of_lt (tw_pos _))
    have h1 := Rat.mul_le_mul_of_nonneg_right Z.den.le hx
    have h2 : ((2 * l + 1 : Nat) : Rat) ≤ tw 5 := nat_le_tw (by omega)
    have h3 := Rat.mul_le_mul_of_nonneg_left h2 (Rat.mul_nonneg (Rat.le_of_lt Z.den.pos) hx)
    have h4 := Rat.mul_le_mul_of_nonneg_right h1 (Rat.le_of_lt (tw_pos 5))
    rw [Rat.natCast_add, Rat.natCast_mul] at h3
    have h5 : ((2 : Nat) : Rat) = 2 := rfl
    have h6 : ((1 : Nat) : Rat) = 1 := rfl
    rw [h5, h6] at h3
    grind
  · have f := part_z Y ha hi Z C hl hne
    refine (fb_of (d := h + bt h a) (m := h + 1 + bt h a) (Z.den.mul C.den) f (by rw [tw_mul]; exact Rat.le_refl) ?_).lim (by omega) (by omega)
    rw [← tw_mul, tw_succ]
    have h1 := Rat.mul_le_mul_of_nonneg_right Z.den.le (show 0 ≤ 2 * tw (bt h a) by grind)
    grind
theorem lim_prod (R : Rows h n k M b) (hk : 0 < k) (h9 : n ≤ 9) (h8 : h ≤ 8) (hL : bt h n + 130 ≤ 4400) {a i l : Nat} (ha : a < n) (hi : i < a) (hl : l < n + k + n) : Lim (pt n M b a i (cl (stp n M b a).1 i) * rw_ (stp n M b a).2 i l) := by
  obtain ⟨D, C⟩ := cm_all Y R a (Nat.le_of_lt ha)
  obtain ⟨e, Z⟩ := R a ha
  have hm := bt_mono h (Nat.le_of_lt ha)
  have hlt := (inv_all Y a (Nat.le_of_lt ha)).lt i hi
  rw [pt_cl Y ha hi]
  have f1 : FR e (tw h) (gt (hat n M b a) (cl (stp n M b a).1 i)) := by
    refine ⟨Z.int _ (by omega) (by omega), ?_⟩
    rw [ab_mul_nn _ (Rat.le_of_lt Z.den.pos)]
    have h1 := Rat.mul_le_mul_of_nonneg_right (Z.le1 (cl (stp n M b a).1 i) (by omega) (by omega)) (Rat.le_of_lt Z.den.pos)
    have h2 := Z.den.le
    grind
  by_cases hne : l = n
  · subst hne
    have f := f1.mul (rew_z Y (Nat.le_of_lt ha) hi R hk C)
    refine (fb_of (d := h + (bt h a + 4)) (m := h + (4 + (bt h a + 107))) (Z.den.mul (C.den.mul F_den)) f (by rw [tw_mul, tw_mul]; exact Rat.le_refl) ?_).lim (by omega) (by omega)
    rw [← tw_mul, ← tw_mul, ← tw_mul]
    exact Rat.mul_le_mul_of_nonneg_left (Rat.mul_le_mul_of_nonneg_right (nat_le_tw (by omega)) (Rat.mul_nonneg (Rat.le_of_lt (tw_pos _)) (Rat.le_of_lt (tw_pos _)))) (Rat.le_of_lt (tw_pos _))
  · have f := f1.mul (C.row i l hi hl hne)
    exact (fb_of (d := h + bt h a) (m := h + bt h a) (Z.den.mul C.den) f (by rw [tw_mul]; exact Rat.le_refl) (by rw [tw_mul]; exact Rat.le_refl)).lim (by omega) (by omega)
theorem quo_rew {a : Nat} (ha : a < n) (R : Rows h n k M b) (hk : 0 < k) (h9 : n ≤ 9) {D : Rat} (C : Cm n k M b a D (tw (bt h a))) : FB (h + 1 + (bt h a + 4)) (h + (bt h a + 107) + 5) (pt n M b a a n / pt n M b a a (pc n M b a)) := by
  obtain ⟨e, Z⟩ := R a ha
  obtain ⟨p1, p2, p3⟩ := pc_spec Y ha
  have hB := Rat.le_of_lt (tw_pos (bt h a))
  have hF := F_den
  have f1 := pt_rew Y ha (Nat.le_refl a) R hk Z C
  have f2 := (part_z Y ha (Nat.le_refl a) Z C (show pc n M b a < n + k + n by omega) (by omega)).lift hF
  rw [Rat.mul_assoc] at f2
  obtain ⟨g1, g2⟩ := f1.div f2 (Rat.mul_pos Z.den.pos (Rat.mul_pos C.den.pos hF.pos)) p3
  refine fb_of g1 g2 ?_ ?_
  · rw [show tw (h + 1 + (bt h a + 4)) = tw (h + 1) * (tw (bt h a) * tw 4) by rw [tw_mul, tw_mul], tw_succ]
    have h1 := mul_le Z.den.le (show 2 * tw (bt h a) ≤ 2 * tw (bt h a) from Rat.le_refl) (by grind) (Rat.le_of_lt (tw_pos h))
    have h2 := mul_le h1 hF.le (Rat.le_of_lt hF.pos) (Rat.mul_nonneg (Rat.le_of_lt (tw_pos h)) (by grind))
    grind
  · rw [← tw_mul, ← tw_mul, ← tw_mul]
    have hx : 0 ≤ tw (bt h a) * tw 107 := Rat.mul_nonneg hB (Rat.le_of_lt (tw_pos _))
    have h1 := Rat.mul_le_mul_of_nonneg_right Z.den.le hx
    have h2 : ((2 * n + 1 : Nat) : Rat) ≤ tw 5 := nat_le_tw (by omega)
    have h3 := Rat.mul_le_mul_of_nonneg_left h2 (Rat.mul_nonneg (Rat.le_of_lt Z.den.pos) hx)
    have h4 := Rat.mul_le_mul_of_nonneg_right h1 (Rat.le_of_lt (tw_pos 5))
    rw [Rat.natCast_add, Rat.natCast_mul] at h3
    have h5 : ((2 : Nat) : Rat) = 2 := rfl
    have h6 : ((1 : Nat) : Rat) = 1 := rfl
    rw [h5, h6] at h3
    grind
theorem lim_quo (R : Rows h n k M b) (hk : 0 < k) (h9 : n ≤ 9) (h8 : h ≤ 8) (hL : bt h n + 130 ≤ 4400) {a l : Nat} (ha : a < n) (hl : l < n + k + n) : Lim (pt n M b a a l / pt n M b a a (pc n M b a)) := by
  obtain ⟨D, C⟩ := cm_all Y R a (Nat.le_of_lt ha)
  have hm := bt_mono h (Nat.le_of_lt ha)
  by_cases hne : l = n
  · subst hne
    exact (quo_rew Y ha R hk h9 C).lim (by omega) (by omega)
  · obtain ⟨z, hz, q⟩ := quo Y ha R C
    exact (fb_of (d := h + 1 + bt h a) (m := h + 1 + bt h a) hz (q l hl hne) (by rw [tw_mul]; exact Rat.le_refl) (by rw [tw_mul]; exact Rat.le_refl)).lim (by omega) (by omega)
theorem lim_prod2 (R : Rows h n k M b) (hk : 0 < k) (h9 : n ≤ 9) (h8 : h ≤ 8) (hL : bt h n + 130 ≤ 4400) {a j l : Nat} (ha : a < n) (hj : j < a) (hl : l < n + k + n) : Lim (rw_ (stp n M b a).2 j (pc n M b a) * (pt n M b a a l / pt n M b a a (pc n M b a))) := by
  obtain ⟨D, C⟩ := cm_all Y R a (Nat.le_of_lt ha)
  obtain ⟨p1, p2, p3⟩ := pc_spec Y ha
  have hm : bt h (a + 1) ≤ bt h n := bt_mono h ha
  have hs : bt h (a + 1) = 2 * bt h a + h + 2 := by
    obtain ⟨q, rfl⟩ : ∃ q, a = q + 1 := ⟨a - 1, by omega⟩
    rfl
  have f1 : FB (bt h a) (bt h a) (rw_ (stp n M b a).2 j (pc n M b a)) := fb_of C.den (C.row j _ hj (by omega) (by omega)) Rat.le_refl Rat.le_refl
  by_cases hne : l = n
  · subst hne
    exact (f1.mul (quo_rew Y ha R hk h9 C)).lim (by omega) (by omega)
  · obtain ⟨z, hz, q⟩ := quo Y ha R C
    have f2 : FB (h + 1 + bt h a) (h + 1 + bt h a) (pt n M b a a l / pt n M b a a (pc n M b a)) := fb_of hz (q l hl hne) (by rw [tw_mul]; exact Rat.le_refl) (by rw [tw_mul]; exact Rat.le_refl)
    exact (f1.mul f2).lim (by omega) (by omega)
/-- the solution has one denominator -/
theorem sol_fr (R : Rows h n k M b) (hk : 0 < k) : ∃ D, Den D (tw (bt h n)) ∧ ∀ c, c < n → FR (D * F) ((n : Rat) * (tw (bt h n) * tw 107)) (rw_ (solM n M b) c 0) ∧ ∀ t, 0 < t → t < k → FR D (tw (bt h n)) (rw_ (solM n M b) c t) := by
  obtain ⟨D, C⟩ := cm_all Y R n (Nat.le_refl n)
  have I := inv_all Y n (Nat.le_refl n)
  refine ⟨D, C.den, fun c hc => ?_⟩
  obtain ⟨j, hj, rfl⟩ := onto_of_inj I.lt I.inj c hc
  have e : ∀ t, t < k → rw_ (solM n M b) (cl (stp n M b n).1 j) t = rw_ (stp n M b n).2 j (n + t) := fun t ht => by
    unfold rw_
    rw [sol_row Y hj, gt_slice (I.len j hj) ht]
  refine ⟨?_, fun t h0 ht => ?_⟩
  · rw [e 0 hk]
    exact rew_z Y (Nat.le_refl n) hj R hk C
  · rw [e t ht]
    exact C.row j _ hj (by omega) (by omega)
end
end MT
set_option Elab.async false
set_option linter.all false
set_option maxRecDepth 100000
/-! WT: where the defs stand, their slots -/
namespace WT
open PySem PySem.Spec PyProof.Rows L2
def topS (i : Nat) : Stmt := PySem.Challenge.pw_anycompany_k70_whole_improvement_never_l.main.body.getD i (.Pass ⟨0, 0, 0, 0⟩)
abbrev s_common_divisor : Stmt := topS 8
abbrev N_common_divisor : List Str := ["a", "b"]
theorem sc_common_divisor : FnScope N_common_divisor ["a", "b"] (defScope s_common_divisor) := ⟨rfl, rfl, rfl, by decide +kernel, rfl, by decide +kernel, by decide +kernel⟩
abbrev s_make_ratio : Stmt := topS 9
abbrev N_make_ratio : List Str := ["n", "d", "divisor"]
theorem sc_make_ratio : FnScope N_make_ratio ["n", "d"] (defScope s_make_ratio) := ⟨rfl, rfl, rfl, by decide +kernel, rfl, by decide +kernel, by decide +kernel⟩
abbrev s_add : Stmt := topS 10
abbrev N_add : List Str := ["a", "b"]
theorem sc_add : FnScope N_add ["a", "b"] (defScope s_add) := ⟨rfl, rfl, rfl, by decide +kernel, rfl, by decide +kernel, by decide +kernel⟩
abbrev s_subtract : Stmt := topS 11
abbrev N_subtract : List Str := ["a", "b"]
theorem sc_subtract : FnScope N_subtract ["a", "b"] (defScope s_subtract) := ⟨rfl, rfl, rfl, by decide +kernel, rfl, by decide +kernel, by decide +kernel⟩
abbrev s_multiply : Stmt := topS 12
abbrev N_multiply : List Str := ["a", "b"]
theorem sc_multiply : FnScope N_multiply ["a", "b"] (defScope s_multiply) := ⟨rfl, rfl, rfl, by decide +kernel, rfl, by decide +kernel, by decide +kernel⟩
abbrev s_divide : Stmt := topS 13
abbrev N_divide : List Str := ["a", "b"]
theorem sc_divide : FnScope N_divide ["a", "b"] (defScope s_divide) := ⟨rfl, rfl, rfl, by decide +kernel, rfl, by decide +kernel, by decide +kernel⟩
abbrev s_compare : Stmt := topS 14
abbrev N_compare : List Str := ["a", "b", "left", "right"]
theorem sc_compare : FnScope N_compare ["a", "b"] (defScope s_compare) := ⟨rfl, rfl, rfl, by decide +kernel, rfl, by decide +kernel, by decide +kernel⟩
abbrev s_without : Stmt := topS 16
abbrev N_without : List Str := ["row", "other", "column", "factor", "a", "b"]
theorem sc_without : FnScope N_without ["row", "other", "column"] (defScope s_without) := ⟨rfl, rfl, rfl, by decide +kernel, rfl, by decide +kernel, by decide +kernel⟩
abbrev s_first_nonzero : Stmt := topS 17
abbrev N_first_nonzero : List Str := ["row", "size", "column"]
theorem sc_first_nonzero : FnScope N_first_nonzero ["row", "size"] (defScope s_first_nonzero) := ⟨rfl, rfl, rfl, by decide +kernel, rfl, by decide +kernel, by decide +kernel⟩
abbrev s_solve : Stmt := topS 18
abbrev N_solve : List Str := ["matrix", "right", "size", "rows", "columns", "at", "row", "k", "column", "other", "pivot", "entry", "solution"]
theorem sc_solve : FnScope N_solve ["matrix", "right"] (defScope s_solve) := ⟨rfl, rfl, rfl, by decide +kernel, rfl, by decide +kernel, by decide +kernel⟩
abbrev s_leave_values : Stmt := topS 22
abbrev N_leave_values : List Str := ["game", "inside", "discount", "rewards", "moves", "columns", "k", "matrix", "right", "state", "row", "leaving", "target", "probability", "share", "at"]
theorem sc_leave_values : FnScope N_leave_values ["game", "inside", "discount"] (defScope s_leave_values) := ⟨rfl, rfl, rfl, by decide +kernel, rfl, by decide +kernel, by decide +kernel⟩
abbrev s_leave_table : Stmt := topS 23
abbrev N_leave_table : List Str := ["game", "inside", "discount", "values", "k"]
theorem sc_leave_table : FnScope N_leave_table ["game", "inside", "discount"] (defScope s_leave_table) := ⟨rfl, rfl, rfl, by decide +kernel, rfl, by decide +kernel, by decide +kernel⟩
abbrev s_first_play : Stmt := topS 24
abbrev N_first_play : List Str := ["game", "state", "table", "discount", "earned", "factor", "target", "probability", "later"]
theorem sc_first_play : FnScope N_first_play ["game", "state", "table", "discount"] (defScope s_first_play) := ⟨rfl, rfl, rfl, by decide +kernel, rfl, by decide +kernel, by decide +kernel⟩
abbrev s_next_state : Stmt := topS 26
abbrev N_next_state : List Str := ["game", "inside", "discount", "table", "best", "state", "earned", "factor", "candidate"]
theorem sc_next_state : FnScope N_next_state ["game", "inside", "discount"] (defScope s_next_state) := ⟨rfl, rfl, rfl, by decide +kernel, rfl, by decide +kernel, by decide +kernel⟩
abbrev s_index_order : Stmt := topS 27
abbrev N_index_order : List Str := ["game", "discount", "order", "inside", "_", "chosen"]
theorem sc_index_order : FnScope N_index_order ["game", "discount"] (defScope s_index_order) := ⟨rfl, rfl, rfl, by decide +kernel, rfl, by decide +kernel, by decide +kernel⟩
abbrev s_line_slope : Stmt := topS 31
abbrev N_line_slope : List Str := ["left", "right"]
theorem sc_line_slope : FnScope N_line_slope ["left", "right"] (defScope s_line_slope) := ⟨rfl, rfl, rfl, by decide +kernel, rfl, by decide +kernel, by decide +kernel⟩
abbrev s_slope_at : Stmt := topS 33
abbrev N_slope_at : List Str := ["knots", "amount", "k"]
theorem sc_slope_at : FnScope N_slope_at ["knots", "amount"] (defScope s_slope_at) := ⟨rfl, rfl, rfl, by decide +kernel, rfl, by decide +kernel, by decide +kernel⟩
abbrev s_first_wrong : Stmt := topS 34
abbrev N_first_wrong : List Str := ["knots", "before", "k", "slope"]
theorem sc_first_wrong : FnScope N_first_wrong ["knots"] (defScope s_first_wrong) := ⟨rfl, rfl, rfl, by decide +kernel, rfl, by decide +kernel, by decide +kernel⟩
abbrev s_straightened : Stmt := topS 35
abbrev N_straightened : List Str := ["points", "knots", "before", "k", "after"]
theorem sc_straightened : FnScope N_straightened ["points"] (defScope s_straightened) := ⟨rfl, rfl, rfl, by decide +kernel, rfl, by decide +kernel, by decide +kernel⟩
abbrev s_merged_amounts : Stmt := topS 36
abbrev N_merged_amounts : List Str := ["first", "second", "amounts", "i", "j", "order"]
theorem sc_merged_amounts : FnScope N_merged_amounts ["first", "second"] (defScope s_merged_amounts) := ⟨rfl, rfl, rfl, by decide +kernel, rfl, by decide +kernel, by decide +kernel⟩
abbrev s_product_knots : Stmt := topS 37
abbrev N_product_knots : List Str := ["first", "second", "amounts", "value", "points", "k", "slope"]
theorem sc_product_knots : FnScope N_product_knots ["first", "second"] (defScope s_product_knots) := ⟨rfl, rfl, rfl, by decide +kernel, rfl, by decide +kernel, by decide +kernel⟩
abbrev s_all_curves : Stmt := topS 44
abbrev N_all_curves : List Str := ["game", "discount", "order", "points", "state", "k", "amount", "inside", "index", "values", "at", "earned", "factor", "row"]
theorem sc_all_curves : FnScope N_all_curves ["game", "discount"] (defScope s_all_curves) := ⟨rfl, rfl, rfl, by decide +kernel, rfl, by decide +kernel, by decide +kernel⟩
abbrev s_gain_of : Stmt := topS 46
abbrev N_gain_of : List Str := ["curve", "stop"]
theorem sc_gain_of : FnScope N_gain_of ["curve", "stop"] (defScope s_gain_of) := ⟨rfl, rfl, rfl, by decide +kernel, rfl, by decide +kernel, by decide +kernel⟩
abbrev s_joint_states : Stmt := topS 48
abbrev N_joint_states : List Str := ["games", "rows", "game", "row", "state"]
theorem sc_joint_states : FnScope N_joint_states ["games"] (defScope s_joint_states) := ⟨rfl, rfl, rfl, by decide +kernel, rfl, by decide +kernel, by decide +kernel⟩
abbrev s_value_table : Stmt := topS 49
abbrev N_value_table : List Str := ["games", "discount", "stop", "curves", "game", "own", "curve", "other"]
theorem sc_value_table : FnScope N_value_table ["games", "discount", "stop"] (defScope s_value_table) := ⟨rfl, rfl, rfl, by decide +kernel, rfl, by decide +kernel, by decide +kernel⟩
abbrev s_with_state : Stmt := topS 53
abbrev N_with_state : List Str := ["joint", "position", "state"]
theorem sc_with_state : FnScope N_with_state ["joint", "position", "state"] (defScope s_with_state) := ⟨rfl, rfl, rfl, by decide +kernel, rfl, by decide +kernel, by decide +kernel⟩
abbrev s_choice_values : Stmt := topS 54
abbrev N_choice_values : List Str := ["games", "choices", "discount", "joints", "columns", "k", "matrix", "right", "position", "rewards", "moves", "state", "row", "target", "probability", "at", "solution"]
theorem sc_choice_values : FnScope N_choice_values ["games", "choices", "discount"] (defScope s_choice_values) := ⟨rfl, rfl, rfl, by decide +kernel, rfl, by decide +kernel, by decide +kernel⟩
abbrev s_played : Stmt := topS 55
abbrev N_played : List Str := ["games", "joint", "position", "worths", "discount", "rewards", "moves", "state", "later", "target", "probability", "worth"]
theorem sc_played : FnScope N_played ["games", "joint", "position", "worths", "discount"] (defScope s_played) := ⟨rfl, rfl, rfl, by decide +kernel, rfl, by decide +kernel, by decide +kernel⟩
abbrev s_by_joint : Stmt := topS 56
abbrev N_by_joint : List Str := ["games", "values", "joints", "k"]
theorem sc_by_joint : FnScope N_by_joint ["games", "values"] (defScope s_by_joint) := ⟨rfl, rfl, rfl, by decide +kernel, rfl, by decide +kernel, by decide +kernel⟩
abbrev s_better_choice : Stmt := topS 57
abbrev N_better_choice : List Str := ["games", "joint", "choice", "worths", "discount", "gains", "at", "best"]
theorem sc_better_choice : FnScope N_better_choice ["games", "joint", "choice", "worths", "discount"] (defScope s_better_choice) := ⟨rfl, rfl, rfl, by decide +kernel, rfl, by decide +kernel, by decide +kernel⟩
abbrev s_improved : Stmt := topS 58
abbrev N_improved : List Str := ["games", "choices", "discount", "worths", "joints", "better", "k"]
theorem sc_improved : FnScope N_improved ["games", "choices", "discount"] (defScope s_improved) := ⟨rfl, rfl, rfl, by decide +kernel, rfl, by decide +kernel, by decide +kernel⟩
abbrev s__law_cell : Stmt := topS 60
abbrev N__law_cell : List Str := ["_law_script", "_law_k"]
theorem sc__law_cell : FnScope N__law_cell ["_law_script", "_law_k"] (defScope s__law_cell) := ⟨rfl, rfl, rfl, by decide +kernel, rfl, by decide +kernel, by decide +kernel⟩
abbrev s__law_draws : Stmt := topS 61
abbrev N__law_draws : List Str := ["_law_cell_here", "_law_count", "_law_rest", "_law_digits", "_law_seed", "_law_draws_here", "_law_k", "_law_mixed"]
theorem sc__law_draws : FnScope N__law_draws ["_law_cell_here", "_law_count"] (defScope s__law_draws) := ⟨rfl, rfl, rfl, by decide +kernel, rfl, by decide +kernel, by decide +kernel⟩
abbrev s__law_low : Stmt := topS 62
abbrev N__law_low : List Str := ["_law_n", "_law_d", "_law_a", "_law_b", "_law_c"]
theorem sc__law_low : FnScope N__law_low ["_law_n", "_law_d"] (defScope s__law_low) := ⟨rfl, rfl, rfl, by decide +kernel, rfl, by decide +kernel, by decide +kernel⟩
abbrev s__law_is_integer : Stmt := topS 63
abbrev N__law_is_integer : List Str := ["_law_value"]
theorem sc__law_is_integer : FnScope N__law_is_integer ["_law_value"] (defScope s__law_is_integer) := ⟨rfl, rfl, rfl, by decide +kernel, rfl, by decide +kernel, by decide +kernel⟩
abbrev s__law_is_ratio : Stmt := topS 64
abbrev N__law_is_ratio : List Str := ["_law_value"]
theorem sc__law_is_ratio : FnScope N__law_is_ratio ["_law_value"] (defScope s__law_is_ratio) := ⟨rfl, rfl, rfl, by decide +kernel, rfl, by decide +kernel, by decide +kernel⟩
abbrev s__law_ratios : Stmt := topS 65
abbrev N__law_ratios : List Str := ["_law_values", "_law_count", "_law_value"]
theorem sc__law_ratios : FnScope N__law_ratios ["_law_values", "_law_count"] (defScope s__law_ratios) := ⟨rfl, rfl, rfl, by decide +kernel, rfl, by decide +kernel, by decide +kernel⟩
abbrev s__law_add : Stmt := topS 66
abbrev N__law_add : List Str := ["_law_a", "_law_b"]
theorem sc__law_add : FnScope N__law_add ["_law_a", "_law_b"] (defScope s__law_add) := ⟨rfl, rfl, rfl, by decide +kernel, rfl, by decide +kernel, by decide +kernel⟩
abbrev s__law_mul : Stmt := topS 67
abbrev N__law_mul : List Str := ["_law_a", "_law_b"]
theorem sc__law_mul : FnScope N__law_mul ["_law_a", "_law_b"] (defScope s__law_mul) := ⟨rfl, rfl, rfl, by decide +kernel, rfl, by decide +kernel, by decide +kernel⟩
abbrev s__law_less : Stmt := topS 68
abbrev N__law_less : List Str := ["_law_a", "_law_b"]
theorem sc__law_less : FnScope N__law_less ["_law_a", "_law_b"] (defScope s__law_less) := ⟨rfl, rfl, rfl, by decide +kernel, rfl, by decide +kernel, by decide +kernel⟩
abbrev s__law_fraction : Stmt := topS 69
abbrev N__law_fraction : List Str := ["_law_draw"]
theorem sc__law_fraction : FnScope N__law_fraction ["_law_draw"] (defScope s__law_fraction) := ⟨rfl, rfl, rfl, by decide +kernel, rfl, by decide +kernel, by decide +kernel⟩
abbrev s__law_discount : Stmt := topS 70
abbrev N__law_discount : List Str := ["_law_draw", "_law_q"]
theorem sc__law_discount : FnScope N__law_discount ["_law_draw"] (defScope s__law_discount) := ⟨rfl, rfl, rfl, by decide +kernel, rfl, by decide +kernel, by decide +kernel⟩
abbrev s__law_game : Stmt := topS 71
abbrev N__law_game : List Str := ["_law_cell_here", "_law_most", "_law_draws_here", "_law_n", "_law_rewards", "_law_s", "_law_reward", "_law_moves", "_law_weights", "_law_t"]
theorem sc__law_game : FnScope N__law_game ["_law_cell_here", "_law_most"] (defScope s__law_game) := ⟨rfl, rfl, rfl, by decide +kernel, rfl, by decide +kernel, by decide +kernel⟩
abbrev s__law_joints : Stmt := topS 72
abbrev N__law_joints : List Str := ["_law_games_here", "_law_joints_here", "_law_game_here", "_law_longer", "_law_joint", "_law_state"]
theorem sc__law_joints : FnScope N__law_joints ["_law_games_here"] (defScope s__law_joints) := ⟨rfl, rfl, rfl, by decide +kernel, rfl, by decide +kernel, by decide +kernel⟩
abbrev s__law_number : Stmt := topS 73
abbrev N__law_number : List Str := ["_law_games_here", "_law_joint", "_law_number_here", "_law_k"]
theorem sc__law_number : FnScope N__law_number ["_law_games_here", "_law_joint"] (defScope s__law_number) := ⟨rfl, rfl, rfl, by decide +kernel, rfl, by decide +kernel, by decide +kernel⟩
abbrev s__law_played : Stmt := topS 74
abbrev N__law_played : List Str := ["_law_games_here", "_law_joint", "_law_at", "_law_discount_here", "_law_table", "_law_later", "_law_pair", "_law_after"]
theorem sc__law_played : FnScope N__law_played ["_law_games_here", "_law_joint", "_law_at", "_law_discount_here", "_law_table"] (defScope s__law_played) := ⟨rfl, rfl, rfl, by decide +kernel, rfl, by decide +kernel, by decide +kernel⟩
abbrev s__law_is_best : Stmt := topS 75
abbrev N__law_is_best : List Str := ["_law_games_here", "_law_discount_here", "_law_halt", "_law_table", "_law_joints_here", "_law_k", "_law_best", "_law_at", "_law_gain"]
theorem sc__law_is_best : FnScope N__law_is_best ["_law_games_here", "_law_discount_here", "_law_halt", "_law_table"] (defScope s__law_is_best) := ⟨rfl, rfl, rfl, by decide +kernel, rfl, by decide +kernel, by decide +kernel⟩
abbrev s__law_games : Stmt := topS 76
abbrev N__law_games : List Str := ["_law_script", "_law_first", "_law_draw", "_law_count", "_law_most", "_law_games_here", "_law_k"]
theorem sc__law_games : FnScope N__law_games ["_law_script", "_law_first", "_law_draw"] (defScope s__law_games) := ⟨rfl, rfl, rfl, by decide +kernel, rfl, by decide +kernel, by decide +kernel⟩
abbrev s__law_choices : Stmt := topS 77
abbrev N__law_choices : List Str := ["_law_cell_here", "_law_games_here", "_law_draws_here", "_law_draw"]
theorem sc__law_choices : FnScope N__law_choices ["_law_cell_here", "_law_games_here"] (defScope s__law_choices) := ⟨rfl, rfl, rfl, by decide +kernel, rfl, by decide +kernel, by decide +kernel⟩
abbrev s__law_is_followed : Stmt := topS 78
abbrev N__law_is_followed : List Str := ["_law_games_here", "_law_choices_here", "_law_discount_here", "_law_values", "_law_joints_here", "_law_k"]
theorem sc__law_is_followed : FnScope N__law_is_followed ["_law_games_here", "_law_choices_here", "_law_discount_here", "_law_values"] (defScope s__law_is_followed) := ⟨rfl, rfl, rfl, by decide +kernel, rfl, by decide +kernel, by decide +kernel⟩
abbrev s__law_is_choices : Stmt := topS 79
abbrev N__law_is_choices : List Str := ["_law_told", "_law_games_here", "_law_at"]
theorem sc__law_is_choices : FnScope N__law_is_choices ["_law_told", "_law_games_here"] (defScope s__law_is_choices) := ⟨rfl, rfl, rfl, by decide +kernel, rfl, by decide +kernel, by decide +kernel⟩
abbrev s_law : Stmt := topS 80
abbrev N_law : List Str := ["_law_script", "_law_draws_here", "_law_discount_here", "_law_games_here", "_law_choices_here", "_law_table", "_law_before", "_law_better", "_law_later", "_law_k"]
theorem sc_law : FnScope N_law ["_law_script"] (defScope s_law) := ⟨rfl, rfl, rfl, by decide +kernel, rfl, by decide +kernel, by decide +kernel⟩
end WT
set_option Elab.async false
set_option linter.all false
set_option maxRecDepth 100000
/-! WA: data as they lie in the heap; environments of data; what expressions and statements do to them -/
namespace WA
open PySem PySem.Spec PyProof.Rows L2
/-- a datum -/
inductive Dt where
  | non | bl (b : Bool) | int (i : Int) | rat (q : Rat)
  | tup (l : List Dt) | lst (l : List Dt)
  | dic (ks : List Int) (l : List Dt)
  | dct (ks : List (List Int)) (l : List Dt)
  | cur (d : Dt)
  | str (x : Str) | ty (n : String) | scr (ns : List Int)
abbrev Sub (B H : Hp) : Prop := ∀ a o, B a = some o → H a = some o
theorem Sub.tr {A B D : Hp} (h : Sub A B) (k : Sub B D) : Sub A D := fun a o e => k _ _ (h _ _ e)
mutual
inductive Is (K : PySem.W.Frag) (C : Addr) (H : Hp) : V → Dt → Prop
  | non : Is K C H .non .non
  | bl (b : Bool) : Is K C H (.bl b) (.bl b)
  | int (i : Int) : Is K C H (.int i) (.int i)
  | rat {a : Addr} {q : Rat} : SqT K H a [.int q.num, .int (q.den : Int)] → Is K C H (.ref a) (.rat q)
  | tup {a : Addr} {vs : List V} {ds : List Dt} : H a = some (.tup vs) → Iss K C H vs ds → Is K C H (.ref a) (.tup ds)
  | lst {a : Addr} {vs : List V} {ds : List Dt} : H a = some (.lst vs) → Iss K C H vs ds → Is K C H (.ref a) (.lst ds)
  | dic {a : Addr} {ks : List Int} {vs : List V} {ds : List Dt} : H a = some (.dK (List.zip (ks.map Sum.inl) vs)) → ks.length = vs.length → Iss K C H vs ds → Is K C H (.ref a) (.dic ks ds)
  | dct {a : Addr} {ks : List (List Int)} {vs : List V} {ds : List Dt} : H a = some (.dT (List.zip (ks.map fun k => k.map Sum.inl) vs)) → ks.length = vs.length → Iss K C H vs ds → Is K C H (.ref a) (.dct ks ds)
  | cur {a dx : Addr} {v : V} {d : Dt} : H a = some (.ins C dx [("knots", v)]) → Is K C H v d → Is K C H (.ref a) (.cur d)
  | str (x : Str) : Is K C H (.str x) (.str x)
  | ty (n : String) : Is K C H (.ty n) (.ty n)
  | scr {a : Addr} {ns : List Int} : SqL K H a (ns.map V.int) → Is K C H (.ref a) (.scr ns)
inductive Iss (K : PySem.W.Frag) (C : Addr) (H : Hp) : List V → List Dt → Prop
  | nil : Iss K C H [] []
  | cons {v : V} {vs : List V} {d : Dt} {ds : List Dt} : Is K C H v d → Iss K C H vs ds → Iss K C H (v :: vs) (d :: ds)
end
section
variable {K : PySem.W.Frag} {C : Addr}
theorem sqt_mono {H H' : Hp} (e : Sub H H') {a : Addr} {xs : List V} (h : SqT K H a xs) : SqT K H' a xs := by
  rcases h with (h | ⟨o, h⟩) | h
  · exact .inl (.inl (e _ _ h))
  · exact .inl (.inr ⟨o, e _ _ h⟩)
  · exact .inr h
theorem sql_mono {H H' : Hp} (e : Sub H H') {a : Addr} {xs : List V} (h : SqL K H a xs) : SqL K H' a xs := by
  rcases h with (h | ⟨o, h⟩) | h
  · exact .inl (.inl (e _ _ h))
  · exact .inl (.inr ⟨o, e _ _ h⟩)
  · exact .inr h
mutual
theorem Is.mono {H H' : Hp} (e : Sub H H') : ∀ {v : V} {d : Dt}, Is K C H v d → Is K C H' v d
  | _, _, .non => .non
  | _, _, .bl b => .bl b
  | _, _, .int i => .int i
  | _, _, .rat h => .rat (sqt_mono e h)
  | _, _, .tup h k => .tup (e _ _ h) (Iss.mono e k)
  | _, _, .lst h k => .lst (e _ _ h) (Iss.mono e k)
  | _, _, .dic h l k => .dic (e _ _ h) l (Iss.mono e k)
  | _, _, .dct h l k => .dct (e _ _ h) l (Iss.mono e k)
  | _, _, .cur h k => .cur (e _ _ h) (Is.mono e k)
  | _, _, .str x => .str x
  | _, _, .ty n => .ty n
  | _, _, .scr h => .scr (sql_mono e h)
theorem Iss.mono {H H' : Hp} (e : Sub H H') : ∀ {vs : List V} {ds : List Dt}, Iss K C H vs ds → Iss K C H' vs ds
  | _, _, .nil => .nil
  | _, _, .cons a b => .cons (Is.mono e a) (Iss.mono e b)
end
theorem Iss.len {H : Hp} : ∀ {vs : List V} {ds : List Dt}, Iss K C H vs ds → vs.length = ds.length
  | _, _, .nil => rfl
  | _, _, .cons _ b => by rw [List.length_cons, List.length_cons, Iss.len b]
theorem Iss.get {H : Hp} : ∀ {vs : List V} {ds : List Dt} {i : Nat} {d : Dt}, Iss K C H vs ds → ds[i]? = some d → ∃ v, vs[i]? = some v ∧ Is K C H v d
  | _, _, _, _, .nil, h => by simp at h
  | _, _, 0, _, .cons a _, h => by
    obtain rfl := Option.some.inj h
    exact ⟨_, rfl, a⟩
  | _, _, i + 1, _, .cons _ b, h => Iss.get (i := i) b h
theorem Iss.at {H : Hp} : ∀ {vs : List V} {ds : List Dt} {i : Nat} {v : V}, Iss K C H vs ds → vs[i]? = some v → ∃ d, ds[i]? = some d ∧ Is K C H v d
  | _, _, _, _, .nil, h => by simp at h
  | _, _, 0, _, .cons a _, h => by
    obtain rfl := Option.some.inj h
    exact ⟨_, rfl, a⟩
  | _, _, i + 1, _, .cons _ b, h => Iss.at (i := i) b h
theorem Iss.app {H : Hp} : ∀ {vs ws : List V} {ds es : List Dt}, Iss K C H vs ds → Iss K C H ws es → Iss K C H (vs ++ ws) (ds ++ es)
  | _, _, _, _, .nil, h => h
  | _, _, _, _, .cons a b, h => .cons a (Iss.app b h)
theorem Iss.one {H : Hp} {v : V} {d : Dt} (h : Is K C H v d) : Iss K C H [v] [d] := .cons h .nil
theorem Iss.snoc {H : Hp} {vs : List V} {ds : List Dt} {v : V} {d : Dt} (h : Iss K C H vs ds) (k : Is K C H v d) : Iss K C H (vs ++ [v]) (ds ++ [d]) := h.app (.one k)
theorem Iss.set {H : Hp} {v : V} {d : Dt} (k : Is K C H v d) : ∀ {vs : List V} {ds : List Dt} (i : Nat), Iss K C H vs ds → Iss K C H (vs.set i v) (ds.set i d)
  | _, _, _, .nil => .nil
  | _, _, 0, .cons _ b => .cons k b
  | _, _, i + 1, .cons a b => .cons a (Iss.set k i b)
theorem Iss.take {H : Hp} : ∀ {vs : List V} {ds : List Dt} (n : Nat), Iss K C H vs ds → Iss K C H (vs.take n) (ds.take n)
  | _, _, 0, _ => by simp; exact .nil
  | _, _, _ + 1, .nil => .nil
  | _, _, n + 1, .cons a b => .cons a (Iss.take n b)
theorem Iss.drop {H : Hp} : ∀ {vs : List V} {ds : List Dt} (n : Nat), Iss K C H vs ds → Iss K C H (vs.drop n) (ds.drop n)
  | _, _, 0, h => h
  | _, _, _ + 1, .nil => .nil
  | _, _, n + 1, .cons _ b => Iss.drop n b
theorem Iss.rev {H : Hp} : ∀ {vs : List V} {ds : List Dt}, Iss K C H vs ds → Iss K C H vs.reverse ds.reverse
  | _, _, .nil => .nil
  | _, _, .cons a b => by rw [List.reverse_cons, List.reverse_cons]; exact (Iss.rev b).snoc a
theorem Iss.rep {H : Hp} {v : V} {d : Dt} (h : Is K C H v d) : ∀ n : Nat, Iss K C H (List.replicate n v) (List.replicate n d)
  | 0 => .nil
  | n + 1 => .cons h (Iss.rep h n)
theorem Iss.ints {H : Hp} : ∀ {vs : List V} {ns : List Int}, Iss K C H vs (ns.map Dt.int) → vs = ns.map V.int
  | _, [], .nil => rfl
  | _, n :: ns, .cons a b => by
    cases a
    rw [Iss.ints b]; rfl
theorem Iss.of_ints {H : Hp} : ∀ (ns : List Int), Iss K C H (ns.map V.int) (ns.map Dt.int)
  | [] => .nil
  | n :: ns => .cons (.int n) (Iss.of_ints ns)
end
/-! ### how the heap goes on: B the part that never changes, H all -/
structure Post (B H B' H' : Hp) : Prop where
  bb : Sub B B'
  hh : Sub H H'
  fr : ∀ a, H a ≠ none → B' a = B a
  sub : Sub B' H'
theorem Post.refl {B H : Hp} (h : Sub B H) : Post B H B H := ⟨fun _ _ e => e, fun _ _ e => e, fun _ _ => rfl, h⟩
theorem Post.trans {B H B1 H1 B2 H2 : Hp} (a : Post B H B1 H1) (b : Post B1 H1 B2 H2) : Post B H B2 H2 :=
  ⟨fun x o e => b.bb _ _ (a.bb _ _ e), fun x o e => b.hh _ _ (a.hh _ _ e), fun x e => by
    have z : H1 x ≠ none := fun z => by
      cases q : H x with
      | none => exact e q
      | some o =>
        rw [a.hh _ _ q] at z
        cases z
    rw [b.fr x z, a.fr x e], b.sub⟩
theorem ne_none {H : Hp} {a : Addr} {o : HO} (h : H a = some o) : H a ≠ none := by rw [h]; simp
theorem sub_none {B H : Hp} (s : Sub B H) {a : Addr} (h : H a = none) : B a = none := by
  cases q : B a with
  | none => rfl
  | some o => rw [s _ _ q] at h; cases h
theorem sub_upd {H : Hp} {p : Addr} {o : HO} (h : H p = none) : Sub H (upd H p o) := fun a u e => by
  rw [upd_ne (ne_of_none e h)]; exact e
theorem sub_upd2 {B H : Hp} (s : Sub B H) {p : Addr} {o : HO} : Sub (upd B p o) (upd H p o) := fun a u e => by
  by_cases h : a = p
  · subst h; rw [upd_same] at e ⊢; exact e
  · rw [upd_ne h] at e ⊢; exact s _ _ e
/-- an object of the program's own that has been written: it is not in B -/
theorem sub_mut {B H : Hp} (s : Sub B H) {p : Addr} {o : HO} (h : B p = none) : Sub B (upd H p o) := fun a u e => by
  rw [upd_ne (ne_of_none e h)]; exact s _ _ e
/-- a new object, from now on unchanging -/
theorem Post.new {B H : Hp} (s : Sub B H) {p : Addr} {o : HO} (h : H p = none) : Post B H (upd B p o) (upd H p o) :=
  ⟨sub_upd (sub_none s h), sub_upd h, fun a e => upd_ne fun z => e (by rw [z]; exact h), sub_upd2 s⟩
/-- a new object that may be written -/
theorem Post.own {B H : Hp} (s : Sub B H) {p : Addr} {o : HO} (h : H p = none) : Post B H B (upd H p o) :=
  ⟨fun _ _ e => e, sub_upd h, fun _ _ => rfl, sub_mut s (sub_none s h)⟩
/-! ### environments -/
/-- a slot: nothing known; a datum; an own list; a list of own lists; an own instance -/
inductive Sl where
  | un | da (d : Dt) | ow (a : Addr) (ds : List Dt) | oo (a : Addr) (bs : List Addr) (dss : List (List Dt)) | me (x dx : Addr) (fs : List (Str × V)) | ad (v : V) (d : Dt)
def Sl.has : Sl → Addr → Prop
  | .ow a _, b => a = b
  | .oo _ bs _, b => b ∈ bs
  | .me x _ _, b => x = b
  | _, _ => False
section
variable (K : PySem.W.Frag) (C : Addr)
def OoOk (H0 B H : Hp) (bs : List Addr) (dss : List (List Dt)) : Prop := bs.length = dss.length ∧ ∀ (i : Nat) (b : Addr) (ds : List Dt), bs[i]? = some b → dss[i]? = some ds → B b = none ∧ H0 b = none ∧ ∃ vs, H b = some (.lst vs) ∧ Iss K C B vs ds
def SlOk (H0 B H : Hp) : Option V → Sl → Prop
  | _, .un => True
  | o, .da d => ∃ v, o = some v ∧ Is K C B v d
  | o, .ow a ds => o = some (.ref a) ∧ B a = none ∧ H0 a = none ∧ ∃ vs, H a = some (.lst vs) ∧ Iss K C B vs ds
  | o, .oo a bs dss => o = some (.ref a) ∧ B a = some (.lst (bs.map V.ref)) ∧ bs.Nodup ∧ OoOk K C H0 B H bs dss
  | o, .me x dx fs => o = some (.ref x) ∧ B x = none ∧ H0 x = none ∧ H x = some (.ins C dx fs)
  | o, .ad v d => o = some v ∧ Is K C B v d
structure Env (H0 B H : Hp) (σ : L2.St) (Γ : List Sl) : Prop where
  sub : Sub B H
  len : σ.length = Γ.length
  slot : ∀ (i : Nat) (o : Option V) (g : Sl), σ[i]? = some o → Γ[i]? = some g → SlOk K C H0 B H o g
  dist : ∀ (i j : Nat) (g g' : Sl) (a : Addr), Γ[i]? = some g → Γ[j]? = some g' → g.has a → g'.has a → i = j
def EvD (te : TE) (Γ : List Sl) (d : Dt) : Prop := ∀ (H0 B H : Hp) (σ : L2.St), Env K C H0 B H σ Γ → ∀ Q : VK, (∀ v B' H', Post B H B' H' → Is K C B' v d → Q v H') → te σ H Q
def EvL (te : TE) (Γ : List Sl) (ds : List Dt) : Prop := ∀ (H0 B H : Hp) (σ : L2.St), Env K C H0 B H σ Γ → ∀ Q : VK, (∀ a vs B' H', Post B H B' H' → H' a = some (.lst vs) → Iss K C B' vs ds → Q (.ref a) H') → te σ H Q
def EvN (te : TE) (Γ : List Sl) (ds : List Dt) : Prop := ∀ (H0 B H : Hp) (σ : L2.St), Env K C H0 B H σ Γ → ∀ Q : VK, (∀ p vs B' H', Post B H B' H' → H p = none → B' p = none → H' p = some (.lst vs) → Iss K C B' vs ds → Q (.ref p) H') → te σ H Q
def EvA (ta : TA) (Γ : List Sl) (ds : List Dt) : Prop := ∀ (H0 B H : Hp) (σ : L2.St), Env K C H0 B H σ Γ → ∀ Q : List V → Hp → Prop, (∀ vs B' H', Post B H B' H' → Iss K C B' vs ds → Q vs H') → ta σ H Q
def EvT (tt : TT) (Γ : List Sl) (b : Bool) : Prop := ∀ (H0 B H : Hp) (σ : L2.St), Env K C H0 B H σ Γ → ∀ Q : Bool → Hp → Prop, (∀ B' H', Post B H B' H' → Q b H') → tt σ H Q
/-- an operation on two values, on one, on a list of values -/
def RD (r : R2) (x y z : Dt) : Prop := ∀ (B H : Hp) (v u : V), Sub B H → Is K C B v x → Is K C B u y → ∀ Q : VK, (∀ w B' H', Post B H B' H' → Is K C B' w z → Q w H') → r v u H Q
def RN (r : R2) (x y : Dt) (ds : List Dt) : Prop := ∀ (B H : Hp) (v u : V), Sub B H → Is K C B v x → Is K C B u y → ∀ Q : VK, (∀ p vs B' H', Post B H B' H' → H p = none → B' p = none → H' p = some (.lst vs) → Iss K C B' vs ds → Q (.ref p) H') → r v u H Q
def RU (r : V → Hp → VK → Prop) (x z : Dt) : Prop := ∀ (B H : Hp) (v : V), Sub B H → Is K C B v x → ∀ Q : VK, (∀ w B' H', Post B H B' H' → Is K C B' w z → Q w H') → r v H Q
def RC (r : List V → Hp → VK → Prop) (xs : List Dt) (z : Dt) : Prop := ∀ (B H : Hp) (vs : List V), Sub B H → Iss K C B vs xs → ∀ Q : VK, (∀ w B' H', Post B H B' H' → Is K C B' w z → Q w H') → r vs H Q
def RCN (r : List V → Hp → VK → Prop) (xs : List Dt) (ds : List Dt) : Prop := ∀ (B H : Hp) (vs : List V), Sub B H → Iss K C B vs xs → ∀ Q : VK, (∀ p ws B' H', Post B H B' H' → H p = none → B' p = none → H' p = some (.lst ws) → Iss K C B' ws ds → Q (.ref p) H') → r vs H Q
/-- .. where the one argument is a list that may be an own one -/
def RCL (r : List V → Hp → VK → Prop) (ds : List Dt) (z : Dt) : Prop := ∀ (B H : Hp) (a : Addr) (vs : List V), Sub B H → H a = some (.lst vs) → Iss K C B vs ds → ∀ Q : VK, (∀ w B' H', Post B H B' H' → Is K C B' w z → Q w H') → r [.ref a] H Q
def RCLN (r : List V → Hp → VK → Prop) (ds es : List Dt) : Prop := ∀ (B H : Hp) (a : Addr) (vs : List V), Sub B H → H a = some (.lst vs) → Iss K C B vs ds → ∀ Q : VK, (∀ p ws B' H', Post B H B' H' → H p = none → B' p = none → H' p = some (.lst ws) → Iss K C B' ws es → Q (.ref p) H') → r [.ref a] H Q
def RL (r : R2) (ds : List Dt) (y z : Dt) : Prop := ∀ (B H : Hp) (a : Addr) (vs : List V) (u : V), Sub B H → H a = some (.lst vs) → Iss K C B vs ds → Is K C B u y → ∀ Q : VK, (∀ w B' H', Post B H B' H' → Is K C B' w z → Q w H') → r (.ref a) u H Q
end
section
variable {K : PySem.W.Frag} {C : Addr} {Γ : List Sl} {H0 B H B' H' : Hp} {σ : L2.St}
theorem at_of {α β : Type} {l : List α} {m : List β} (h : l.length = m.length) {i : Nat} {a : α} (e : l[i]? = some a) : ∃ b, m[i]? = some b := by
  have hi : i < l.length := (List.getElem?_eq_some_iff.mp e).1
  exact ⟨m[i]'(by rw [← h]; exact hi), List.getElem?_eq_getElem _⟩
/-- what a slot owns is not in B, and stands in H -/
theorem SlOk.own {o : Option V} {g : Sl} (k : SlOk K C H0 B H o g) {a : Addr} (h : g.has a) : B a = none ∧ H0 a = none ∧ H a ≠ none := by
  cases g with
  | un => exact h.elim
  | da d => exact h.elim
  | ow b ds =>
    obtain rfl : b = a := h
    obtain ⟨_, k1, k2, vs, k3, _⟩ := k
    exact ⟨k1, k2, ne_none k3⟩
  | oo b bs dss =>
    obtain ⟨_, _, _, kl, k⟩ := k
    obtain ⟨i, hi⟩ := List.getElem?_of_mem (show a ∈ bs from h)
    obtain ⟨ds, hd⟩ := at_of kl hi
    obtain ⟨k1, k2, vs, k3, _⟩ := k i a ds hi hd
    exact ⟨k1, k2, ne_none k3⟩
  | me x dx fs =>
    obtain rfl : x = a := h
    obtain ⟨_, k1, k2, k3⟩ := k
    exact ⟨k1, k2, ne_none k3⟩
  | ad v d => exact h.elim
/-- what stands of a slot when B grows and what it owns stays -/
theorem SlOk.keep {o : Option V} {g : Sl} (k : SlOk K C H0 B H o g) (sB : Sub B B') (h : ∀ a, g.has a → H' a = H a ∧ B' a = B a) : SlOk K C H0 B' H' o g := by
  cases g with
  | un => trivial
  | da d =>
    obtain ⟨v, e, k⟩ := k
    exact ⟨v, e, k.mono sB⟩
  | ow b ds =>
    obtain ⟨e, k1, k2, vs, k3, k4⟩ := k
    obtain ⟨h1, h2⟩ := h b rfl
    exact ⟨e, by rw [h2]; exact k1, k2, vs, by rw [h1]; exact k3, k4.mono sB⟩
  | oo b bs dss =>
    obtain ⟨e, eB, nd, kl, k⟩ := k
    refine ⟨e, sB _ _ eB, nd, kl, fun i x ds hx hd => ?_⟩
    obtain ⟨k1, k2, vs, k3, k4⟩ := k i x ds hx hd
    obtain ⟨h1, h2⟩ := h x (List.mem_of_getElem? hx)
    exact ⟨by rw [h2]; exact k1, k2, vs, by rw [h1]; exact k3, k4.mono sB⟩
  | me x dx fs =>
    obtain ⟨e, k1, k2, k3⟩ := k
    obtain ⟨h1, h2⟩ := h x rfl
    exact ⟨e, by rw [h2]; exact k1, k2, by rw [h1]; exact k3⟩
  | ad v d =>
    obtain ⟨e, k⟩ := k
    exact ⟨e, k.mono sB⟩
theorem Env.post (E : Env K C H0 B H σ Γ) (P : Post B H B' H') : Env K C H0 B' H' σ Γ := by
  refine ⟨P.sub, E.len, fun i o g e1 e2 => ?_, E.dist⟩
  have k := E.slot i o g e1 e2
  refine k.keep P.bb fun a h => ?_
  obtain ⟨_, _, k3⟩ := k.own h
  refine ⟨?_, P.fr a k3⟩
  cases q : H a with
  | none => exact absurd q k3
  | some u => rw [P.hh _ _ q]
theorem Env.at (E : Env K C H0 B H σ Γ) {i : Nat} {g : Sl} (h : Γ[i]? = some g) : ∃ o, σ[i]? = some o ∧ SlOk K C H0 B H o g := by
  obtain ⟨o, e⟩ := at_of E.len.symm h
  exact ⟨o, e, E.slot i _ _ e h⟩
theorem Env.da (E : Env K C H0 B H σ Γ) {i : Nat} {d : Dt} (h : Γ[i]? = some (.da d)) : ∃ v, σ[i]? = some (some v) ∧ Is K C B v d := by
  obtain ⟨o, e, v, rfl, k⟩ := E.at h
  exact ⟨v, e, k⟩
theorem Env.ow (E : Env K C H0 B H σ Γ) {i : Nat} {a : Addr} {ds : List Dt} (h : Γ[i]? = some (.ow a ds)) : σ[i]? = some (some (.ref a)) ∧ B a = none ∧ H0 a = none ∧ ∃ vs, H a = some (.lst vs) ∧ Iss K C B vs ds := by
  obtain ⟨o, e, rfl, k⟩ := E.at h
  exact ⟨e, k⟩
theorem Env.oo (E : Env K C H0 B H σ Γ) {i : Nat} {a : Addr} {bs : List Addr} {dss : List (List Dt)} (h : Γ[i]? = some (.oo a bs dss)) : σ[i]? = some (some (.ref a)) ∧ B a = some (.lst (bs.map V.ref)) ∧ bs.Nodup ∧ OoOk K C H0 B H bs dss := by
  obtain ⟨o, e, rfl, k⟩ := E.at h
  exact ⟨e, k⟩
/-- slots rewritten one by one: what the new slots hold is right -/
theorem Env.setG (E : Env K C H0 B H σ Γ) {i : Nat} {o : Option V} {g : Sl} (k : SlOk K C H0 B H o g) (nd : ∀ a j g', g.has a → Γ[j]? = some g' → g'.has a → j = i) : Env K C H0 B H (σ.set i o) (Γ.set i g) := by
  refine ⟨E.sub, by rw [List.length_set, List.length_set]; exact E.len, fun j o' g' e1 e2 => ?_, fun j l f f' a e1 e2 h1 h2 => ?_⟩
  · by_cases h : i = j
    · subst h
      have hi : i < σ.length := by
        have := (List.getElem?_eq_some_iff.mp e1).1
        rw [List.length_set] at this; exact this
      rw [List.getElem?_set_self hi] at e1
      rw [List.getElem?_set_self (by rw [← E.len]; exact hi)] at e2
      obtain rfl := Option.some.inj e1
      obtain rfl := Option.some.inj e2
      exact k
    · rw [List.getElem?_set_ne h] at e1 e2
      exact E.slot j o' g' e1 e2
  · have lt : ∀ {m : Nat} {x : Sl}, (Γ.set i g)[m]? = some x → i = m → x = g := fun {m x} q e => by
      subst e
      have hi : i < Γ.length := by
        have := (List.getElem?_eq_some_iff.mp q).1
        rw [List.length_set] at this; exact this
      rw [List.getElem?_set_self hi] at q
      exact (Option.some.inj q).symm
    by_cases hj : i = j
    · by_cases hl : i = l
      · rw [← hj, ← hl]
      · have z := lt e1 hj
        rw [List.getElem?_set_ne hl] at e2
        rw [z] at h1
        rw [nd a l f' h1 e2 h2]; exact hj.symm
    · by_cases hl : i = l
      · have z := lt e2 hl
        rw [List.getElem?_set_ne hj] at e1
        rw [z] at h2
        rw [nd a j f h2 e1 h1]; exact hl
      · rw [List.getElem?_set_ne hj] at e1
        rw [List.getElem?_set_ne hl] at e2
        exact E.dist j l f f' a e1 e2 h1 h2
theorem Env.setD (E : Env K C H0 B H σ Γ) {i : Nat} {v : V} {d : Dt} (k : Is K C B v d) : Env K C H0 B H (σ.set i (some v)) (Γ.set i (.da d)) := E.setG ⟨v, rfl, k⟩ (fun _ _ _ e => e.elim)
theorem Env.setU (E : Env K C H0 B H σ Γ) {i : Nat} {o : Option V} : Env K C H0 B H (σ.set i o) (Γ.set i .un) := E.setG (o := o) (g := .un) trivial (fun _ _ _ e => e.elim)
/-- a slot gets a new list -/
theorem Env.setO (E : Env K C H0 B H σ Γ) (P : Post B H B' H') {i : Nat} {p : Addr} {vs : List V} {ds : List Dt} (n : H p = none) (n0 : H0 p = none) (nB : B' p = none) (hp : H' p = some (.lst vs)) (k : Iss K C B' vs ds) :
    Env K C H0 B' H' (σ.set i (some (.ref p))) (Γ.set i (.ow p ds)) := (E.post P).setG ⟨rfl, nB, n0, vs, hp, k⟩ fun a j g' e h ha => by
  obtain rfl : p = a := e
  obtain ⟨o, _, k⟩ := E.at h
  exact absurd n (k.own ha).2.2
/-- one slot told anew while B grows and only what it owns changes -/
theorem Env.chg (E : Env K C H0 B H σ Γ) {i : Nat} {g g' : Sl} (hi : Γ[i]? = some g) (sB : Sub B B') (s' : Sub B' H') (oth : ∀ a, ¬ g.has a → H a ≠ none → B a = none → H' a = H a ∧ B' a = B a)
    (k : ∀ o, σ[i]? = some o → SlOk K C H0 B' H' o g') (hs : ∀ a, g'.has a → g.has a) : Env K C H0 B' H' σ (Γ.set i g') := by
  have hl : i < Γ.length := (List.getElem?_eq_some_iff.mp hi).1
  refine ⟨s', by rw [List.length_set]; exact E.len, fun j o f q1 q2 => ?_, fun j l f f' b q1 q2 h1 h2 => ?_⟩
  · by_cases hj : i = j
    · subst hj
      rw [List.getElem?_set_self hl] at q2
      obtain rfl := Option.some.inj q2
      exact k o q1
    · rw [List.getElem?_set_ne hj] at q2
      have s := E.slot j o f q1 q2
      refine s.keep sB fun a ha => ?_
      obtain ⟨z1, _, z2⟩ := s.own ha
      exact oth a (fun z => hj (E.dist i j g f a hi q2 z ha)) z2 z1
  · have back : ∀ (m : Nat) (x : Sl), (Γ.set i g')[m]? = some x → x.has b → ∃ x', Γ[m]? = some x' ∧ x'.has b := fun m x q hx => by
      by_cases hm : i = m
      · subst hm
        rw [List.getElem?_set_self hl] at q
        obtain rfl := Option.some.inj q
        exact ⟨g, hi, hs b hx⟩
      · rw [List.getElem?_set_ne hm] at q; exact ⟨x, q, hx⟩
    obtain ⟨f1, g1, z1⟩ := back j f q1 h1
    obtain ⟨f2, g2, z2⟩ := back l f' q2 h2
    exact E.dist j l f1 f2 b g1 g2 z1 z2
/-- an own list is written -/
theorem Env.write (E : Env K C H0 B H σ Γ) {i : Nat} {ds es : List Dt} {a : Addr} {ws : List V} (h : Γ[i]? = some (.ow a ds)) (k : Iss K C B ws es) : Env K C H0 B (upd H a (.lst ws)) σ (Γ.set i (.ow a es)) := by
  obtain ⟨e1, e3, e4, vs, e2, e5⟩ := E.ow h
  refine E.chg h (fun _ _ e => e) (sub_mut E.sub e3) (fun b nb _ _ => ⟨upd_ne fun z => nb z.symm, rfl⟩) (fun o eo => ?_) (fun _ z => z)
  rw [e1] at eo
  obtain rfl := Option.some.inj eo
  exact ⟨rfl, e3, e4, ws, upd_same, k⟩
/-- one of a list of own lists is written -/
theorem Env.writeO (E : Env K C H0 B H σ Γ) {i j : Nat} {a b : Addr} {bs : List Addr} {dss : List (List Dt)} {es : List Dt} {ws : List V} (h : Γ[i]? = some (.oo a bs dss)) (hb : bs[j]? = some b) (k : Iss K C B ws es) :
    Env K C H0 B (upd H b (.lst ws)) σ (Γ.set i (.oo a bs (dss.set j es))) := by
  obtain ⟨e1, e2, nd, kl, ko⟩ := E.oo h
  obtain ⟨ds, hd⟩ := at_of kl hb
  obtain ⟨b1, b2, _⟩ := ko j b ds hb hd
  refine E.chg h (fun _ _ e => e) (sub_mut E.sub b1) (fun x nb _ _ => ⟨upd_ne fun z => nb (by rw [z]; exact List.mem_of_getElem? hb), rfl⟩) (fun o eo => ?_) (fun _ z => z)
  rw [e1] at eo
  obtain rfl := Option.some.inj eo
  refine ⟨rfl, e2, nd, by rw [List.length_set]; exact kl, fun m x fs hx hf => ?_⟩
  by_cases hm : j = m
  · subst hm
    rw [hb] at hx
    obtain rfl := Option.some.inj hx
    rw [List.getElem?_set_self (List.getElem?_eq_some_iff.mp hd).1] at hf
    obtain rfl := Option.some.inj hf
    exact ⟨b1, b2, ws, upd_same, k⟩
  · rw [List.getElem?_set_ne hm] at hf
    obtain ⟨z1, z2, vs, z3, z4⟩ := ko m x fs hx hf
    have ne : x ≠ b := fun z => by
      subst z
      obtain ⟨l1, q1⟩ := List.getElem?_eq_some_iff.mp hb
      obtain ⟨l2, q2⟩ := List.getElem?_eq_some_iff.mp hx
      rcases Nat.lt_trichotomy j m with q | q | q
      · exact absurd (q1.trans q2.symm) (List.pairwise_iff_getElem.mp nd j m l1 l2 q)
      · exact hm q
      · exact absurd (q2.trans q1.symm) (List.pairwise_iff_getElem.mp nd m j l2 l1 q)
    exact ⟨z1, z2, vs, by rw [upd_ne ne]; exact z3, z4⟩
/-- an own list is from now on never written again -/
theorem Env.freeze (E : Env K C H0 B H σ Γ) {i : Nat} {a : Addr} {ds : List Dt} (h : Γ[i]? = some (.ow a ds)) : ∃ vs, σ[i]? = some (some (.ref a)) ∧ B a = none ∧ H0 a = none ∧ H a = some (.lst vs) ∧ Is K C (upd B a (.lst vs)) (.ref a) (.lst ds) ∧ Env K C H0 (upd B a (.lst vs)) H σ (Γ.set i (.da (.lst ds))) := by
  obtain ⟨e1, e3, e4, vs, e2, e5⟩ := E.ow h
  have sB : Sub B (upd B a (.lst vs)) := sub_upd e3
  have kd : Is K C (upd B a (.lst vs)) (.ref a) (.lst ds) := .lst upd_same (e5.mono sB)
  refine ⟨vs, e1, e3, e4, e2, kd, E.chg h sB (fun b o q => ?_) (fun b nb _ _ => ⟨rfl, upd_ne fun z => nb z.symm⟩) (fun o eo => ?_) (fun _ z => z.elim)⟩
  · by_cases hb : b = a
    · subst hb; rw [upd_same] at q; rw [e2]; exact q
    · rw [upd_ne hb] at q; exact E.sub _ _ q
  · rw [e1] at eo
    obtain rfl := Option.some.inj eo
    exact ⟨.ref a, rfl, kd⟩
open Classical in
/-- a list of own lists is from now on never written again -/
theorem Env.freezeO (E : Env K C H0 B H σ Γ) {i : Nat} {a : Addr} {bs : List Addr} {dss : List (List Dt)} (h : Γ[i]? = some (.oo a bs dss)) : ∃ B', Sub B B' ∧ (∀ x, B' x ≠ B x → H0 x = none) ∧ Env K C H0 B' H σ (Γ.set i (.da (.lst (dss.map Dt.lst)))) := by
  obtain ⟨e1, e2, nd, kl, ko⟩ := E.oo h
  have all : ∀ b ∈ bs, B b = none ∧ H0 b = none := fun b hb => by
    obtain ⟨j, hj⟩ := List.getElem?_of_mem hb
    obtain ⟨ds, hd⟩ := at_of kl hj
    obtain ⟨b1, b2, _⟩ := ko j b ds hj hd
    exact ⟨b1, b2⟩
  have sB : Sub B (fun x => if x ∈ bs then H x else B x) := fun x o e => by
    show (if x ∈ bs then H x else B x) = some o
    split
    · exact E.sub _ _ e
    · exact e
  refine ⟨fun x => if x ∈ bs then H x else B x, sB, fun x hx => ?_, E.chg h sB (fun x o q => ?_) (fun b nb _ _ => ⟨rfl, if_neg nb⟩) (fun o eo => ?_) (fun _ z => z.elim)⟩
  · by_cases hb : x ∈ bs
    · exact (all x hb).2
    · exact absurd (if_neg hb) hx
  · have q' : (if x ∈ bs then H x else B x) = some o := q
    split at q'
    · exact q'
    · exact E.sub _ _ q'
  · rw [e1] at eo
    obtain rfl := Option.some.inj eo
    refine ⟨.ref a, rfl, .lst (sB _ _ e2) ?_⟩
    have go : ∀ (bs' : List Addr) (dss' : List (List Dt)), bs'.length = dss'.length → (∀ (i : Nat) (b : Addr) (ds : List Dt), bs'[i]? = some b → dss'[i]? = some ds → b ∈ bs ∧ ∃ vs, H b = some (.lst vs) ∧ Iss K C B vs ds) →
        Iss K C (fun x => if x ∈ bs then H x else B x) (bs'.map V.ref) (dss'.map Dt.lst) := by
      intro bs'
      induction bs' with
      | nil =>
        intro dss' hl _
        cases dss' with
        | nil => exact .nil
        | cons d r => cases hl
      | cons b bs' ih =>
        intro dss' hl hh
        cases dss' with
        | nil => cases hl
        | cons d r =>
          obtain ⟨m, vs, z3, z4⟩ := hh 0 b d rfl rfl
          refine .cons (.lst (show (if b ∈ bs then H b else B b) = some (.lst vs) by rw [if_pos m]; exact z3) (z4.mono sB)) (ih r (Nat.succ.inj hl) fun i x ds hx hd => hh (i + 1) x ds hx hd)
    exact go bs dss kl fun i b ds hb hd => by
      obtain ⟨_, _, vs, z3, z4⟩ := ko i b ds hb hd
      exact ⟨List.mem_of_getElem? hb, vs, z3, z4⟩
/-! ### expressions -/
theorem ed_var {i : Nat} {d : Dt} (h : Γ[i]? = some (.da d)) : EvD K C (tVar i) Γ d := fun H0 B H σ E Q q => by
  obtain ⟨v, e, k⟩ := E.da h
  exact ⟨v, e, q v B H (.refl E.sub) k⟩
theorem el_var {i : Nat} {a : Addr} {ds : List Dt} (h : Γ[i]? = some (.ow a ds)) : EvL K C (tVar i) Γ ds := fun H0 B H σ E Q q => by
  obtain ⟨e1, e3, e4, vs, e2, e5⟩ := E.ow h
  exact ⟨.ref a, e1, q a vs B H (.refl E.sub) e2 e5⟩
theorem ed_int {i : Int} : EvD K C (tC (.int i)) Γ (.int i) := fun H0 B H σ E Q q => q _ B H (.refl E.sub) (.int i)
theorem ed_bl {b : Bool} : EvD K C (tC (.bl b)) Γ (.bl b) := fun H0 B H σ E Q q => q _ B H (.refl E.sub) (.bl b)
theorem ed_non : EvD K C (tC .non) Γ .non := fun H0 B H σ E Q q => q _ B H (.refl E.sub) .non
theorem ed_kr {a : Addr} {q : Rat} (h : ∀ H, SqT K H a [.int q.num, .int (q.den : Int)]) : EvD K C (tC (.ref a)) Γ (.rat q) := fun H0 B H σ E Q k => k _ B H (.refl E.sub) (.rat (h B))
theorem EvN.l {te : TE} {ds : List Dt} (h : EvN K C te Γ ds) : EvL K C te Γ ds := fun H0 B H σ E Q q => h H0 B H σ E Q fun p vs B' H' P n nB hp k => q p vs B' H' P hp k
theorem post_froz {B H B' H' : Hp} {p : Addr} {vs : List V} (P : Post B H B' H') (n : H p = none) (nB : B' p = none) (hp : H' p = some (.lst vs)) : Post B H (upd B' p (.lst vs)) H' :=
  ⟨fun a o e => sub_upd nB _ _ (P.bb _ _ e), P.hh, fun a e => by rw [upd_ne fun z => e (by rw [z]; exact n)]; exact P.fr a e, fun a o e => by
    by_cases ha : a = p
    · subst ha; rw [upd_same] at e; rw [hp]; exact e
    · rw [upd_ne ha] at e; exact P.sub _ _ e⟩
theorem EvN.d {te : TE} {ds : List Dt} (h : EvN K C te Γ ds) : EvD K C te Γ (.lst ds) := fun H0 B H σ E Q q => h H0 B H σ E Q fun p vs B' H' P n nB hp k =>
  q _ (upd B' p (.lst vs)) H' (post_froz P n nB hp) (.lst upd_same (k.mono (sub_upd nB)))
theorem EvD.l {te : TE} {ds : List Dt} (h : EvD K C te Γ (.lst ds)) : EvL K C te Γ ds := fun H0 B H σ E Q q => h H0 B H σ E Q fun v B' H' P k => by
  cases k with
  | lst e k => exact q _ _ B' H' P (P.sub _ _ e) k
theorem ed_op {ta tb : TE} {r : R2} {x y z : Dt} (ha : EvD K C ta Γ x) (hb : EvD K C tb Γ y) (hr : RD K C r x y z) : EvD K C (tOp r ta tb) Γ z := fun H0 B H σ E Q q =>
  ha H0 B H σ E _ fun v B1 H1 P1 k1 => hb H0 B1 H1 σ (E.post P1) _ fun u B2 H2 P2 k2 => hr B2 H2 v u P2.sub (k1.mono P2.bb) k2 Q fun w B3 H3 P3 k3 => q w B3 H3 ((P1.trans P2).trans P3) k3
theorem en_op {ta tb : TE} {r : R2} {x y : Dt} {ds : List Dt} (ha : EvD K C ta Γ x) (hb : EvD K C tb Γ y) (hr : RN K C r x y ds) : EvN K C (tOp r ta tb) Γ ds := fun H0 B H σ E Q q =>
  ha H0 B H σ E _ fun v B1 H1 P1 k1 => hb H0 B1 H1 σ (E.post P1) _ fun u B2 H2 P2 k2 => hr B2 H2 v u P2.sub (k1.mono P2.bb) k2 Q fun p vs B3 H3 P3 n nB hp k3 => by
    have P12 := P1.trans P2
    refine q p vs B3 H3 (P12.trans P3) ?_ nB hp k3
    cases e : H p with
    | none => rfl
    | some o => rw [P12.hh _ _ e] at n; cases n
theorem ed_opL {ta tb : TE} {r : R2} {ds : List Dt} {y z : Dt} (ha : EvL K C ta Γ ds) (hb : EvD K C tb Γ y) (hr : RL K C r ds y z) : EvD K C (tOp r ta tb) Γ z := fun H0 B H σ E Q q =>
  ha H0 B H σ E _ fun a vs B1 H1 P1 e1 k1 => hb H0 B1 H1 σ (E.post P1) _ fun u B2 H2 P2 k2 => hr B2 H2 a vs u P2.sub (P2.hh _ _ e1) (k1.mono P2.bb) k2 Q fun w B3 H3 P3 k3 => q w B3 H3 ((P1.trans P2).trans P3) k3
theorem ed_un {ta : TE} {r : V → Hp → VK → Prop} {x z : Dt} (ha : EvD K C ta Γ x) (hr : RU K C r x z) : EvD K C (tUn r ta) Γ z := fun H0 B H σ E Q q =>
  ha H0 B H σ E _ fun v B1 H1 P1 k1 => hr B1 H1 v P1.sub k1 Q fun w B3 H3 P3 k3 => q w B3 H3 (P1.trans P3) k3
theorem rd_or1 {r r' : R2} {x y z : Dt} (h : RD K C r x y z) : RD K C (fun x y H Q => r x y H Q ∨ r' x y H Q) x y z := fun B H v u s k1 k2 Q q => .inl (h B H v u s k1 k2 Q q)
theorem rd_or2 {r r' : R2} {x y z : Dt} (h : RD K C r' x y z) : RD K C (fun x y H Q => r x y H Q ∨ r' x y H Q) x y z := fun B H v u s k1 k2 Q q => .inr (h B H v u s k1 k2 Q q)
theorem rd_I0 {g : Int → Int → Int} {i j : Int} : RD K C (rI0 fun i j => .int (g i j)) (.int i) (.int j) (.int (g i j)) := fun B H v u s k1 k2 Q q => by
  cases k1; cases k2
  exact ⟨i, j, rfl, rfl, q _ B H (.refl s) (.int _)⟩
theorem rd_B0 {g : Int → Int → Bool} {i j : Int} : RD K C (rI0 fun i j => .bl (g i j)) (.int i) (.int j) (.bl (g i j)) := fun B H v u s k1 k2 Q q => by
  cases k1; cases k2
  exact ⟨i, j, rfl, rfl, q _ B H (.refl s) (.bl _)⟩
theorem rd_I {c : Int → Int → Prop} {g : Int → Int → Int} {i j : Int} (hc : c i j) : RD K C (rI c fun i j => .int (g i j)) (.int i) (.int j) (.int (g i j)) := fun B H v u s k1 k2 Q q => by
  cases k1; cases k2
  exact ⟨i, j, rfl, rfl, hc, q _ B H (.refl s) (.int _)⟩
theorem rd_ixT {ds : List Dt} {i : Nat} {d : Dt} (h : ds[i]? = some d) : RD K C (rIxT K) (.tup ds) (.int (i : Int)) d := fun B H v u s k1 k2 Q q => by
  cases k1 with
  | tup e k1 =>
    cases k2
    obtain ⟨w, e2, k3⟩ := k1.get h
    exact ⟨_, _, _, w, rfl, rfl, .inl (.inl (s _ _ e)), atI_nat e2, q w B H (.refl s) k3⟩
/-- numerator and denominator of a ratio -/
theorem rd_num {x : Rat} : RD K C (rIxT K) (.rat x) (.int 0) (.int x.num) := fun B H v u s k1 k2 Q q => by
  cases k1 with
  | rat e =>
    cases k2
    exact ⟨_, _, 0, _, rfl, rfl, sqt_mono s e, atI_nat (j := 0) rfl, q _ B H (.refl s) (.int _)⟩
theorem rd_den {x : Rat} : RD K C (rIxT K) (.rat x) (.int 1) (.int (x.den : Int)) := fun B H v u s k1 k2 Q q => by
  cases k1 with
  | rat e =>
    cases k2
    exact ⟨_, _, 1, _, rfl, rfl, sqt_mono s e, atI_nat (j := 1) rfl, q _ B H (.refl s) (.int _)⟩
theorem rl_ix {ds : List Dt} {i : Nat} {d : Dt} (h : ds[i]? = some d) : RL K C (rIxL K) ds (.int (i : Int)) d := fun B H a vs u s e k1 k2 Q q => by
  cases k2
  obtain ⟨w, e2, k3⟩ := k1.get h
  exact ⟨_, _, _, w, rfl, rfl, .inl (.inl e), atI_nat e2, q w B H (.refl s) k3⟩
theorem ea_nil : EvA K C tNil Γ [] := fun H0 B H σ E Q q => q [] B H (.refl E.sub) .nil
theorem ea_cons {te : TE} {ta : TA} {d : Dt} {ds : List Dt} (h : EvD K C te Γ d) (k : EvA K C ta Γ ds) : EvA K C (tCons te ta) Γ (d :: ds) := fun H0 B H σ E Q q =>
  h H0 B H σ E _ fun v B1 H1 P1 k1 => k H0 B1 H1 σ (E.post P1) _ fun vs B2 H2 P2 k2 => q (v :: vs) B2 H2 (P1.trans P2) (.cons (k1.mono P2.bb) k2)
theorem ea_1 {t1 : TE} {a : Dt} (h1 : EvD K C t1 Γ a) : EvA K C (tCons t1 tNil) Γ [a] := ea_cons h1 ea_nil
theorem ea_2 {t1 t2 : TE} {a b : Dt} (h1 : EvD K C t1 Γ a) (h2 : EvD K C t2 Γ b) : EvA K C (tCons t1 (tCons t2 tNil)) Γ [a, b] := ea_cons h1 (ea_1 h2)
theorem ea_3 {t1 t2 t3 : TE} {a b c : Dt} (h1 : EvD K C t1 Γ a) (h2 : EvD K C t2 Γ b) (h3 : EvD K C t3 Γ c) : EvA K C (tCons t1 (tCons t2 (tCons t3 tNil))) Γ [a, b, c] := ea_cons h1 (ea_2 h2 h3)
theorem ea_4 {t1 t2 t3 t4 : TE} {a b c d : Dt} (h1 : EvD K C t1 Γ a) (h2 : EvD K C t2 Γ b) (h3 : EvD K C t3 Γ c) (h4 : EvD K C t4 Γ d) : EvA K C (tCons t1 (tCons t2 (tCons t3 (tCons t4 tNil)))) Γ [a, b, c, d] := ea_cons h1 (ea_3 h2 h3 h4)
theorem ea_5 {t1 t2 t3 t4 t5 : TE} {a b c d e : Dt} (h1 : EvD K C t1 Γ a) (h2 : EvD K C t2 Γ b) (h3 : EvD K C t3 Γ c) (h4 : EvD K C t4 Γ d) (h5 : EvD K C t5 Γ e) : EvA K C (tCons t1 (tCons t2 (tCons t3 (tCons t4 (tCons t5 tNil))))) Γ [a, b, c, d, e] := ea_cons h1 (ea_4 h2 h3 h4 h5)
/-- a written tuple; a new ratio -/
theorem ed_tup {ta : TA} {ds : List Dt} (h : EvA K C ta Γ ds) (hl : ds.length ≤ sizeLine) : EvD K C (tTup ta) Γ (.tup ds) := fun H0 B H σ E Q q =>
  h H0 B H σ E _ fun vs B1 H1 P1 k1 => ⟨by rw [k1.len]; exact hl, fun p n => by
    have P2 := Post.new (o := .tup vs) P1.sub n
    exact q _ _ _ (P1.trans P2) (.tup upd_same (k1.mono P2.bb))⟩
theorem ed_rat {ta : TA} {n : Int} {d : Int} {x : Rat} (h : EvA K C ta Γ [.int n, .int d]) (hn : x.num = n) (hd : (x.den : Int) = d) : EvD K C (tTup ta) Γ (.rat x) := fun H0 B H σ E Q q =>
  h H0 B H σ E _ fun vs B1 H1 P1 k1 => ⟨by rw [k1.len]; show 2 ≤ sizeLine; decide, fun p np => by
    have P2 := Post.new (o := .tup vs) P1.sub np
    have e : vs = [.int n, .int d] := k1.ints (ns := [n, d])
    subst e
    exact q _ _ _ (P1.trans P2) (.rat (.inl (.inl (by rw [hn, hd]; exact upd_same))))⟩
theorem en_lst {ta : TA} {ds : List Dt} (h : EvA K C ta Γ ds) (hl : ds.length ≤ sizeLine) : EvN K C (tLst ta) Γ ds := fun H0 B H σ E Q q =>
  h H0 B H σ E _ fun vs B1 H1 P1 k1 => ⟨by rw [k1.len]; exact hl, fun p n => by
    have P2 := Post.own (o := .lst vs) P1.sub n
    refine q p vs _ _ (P1.trans P2) ?_ (sub_none P1.sub n) upd_same k1
    cases e : H p with
    | none => rfl
    | some o => rw [P1.hh _ _ e] at n; cases n⟩
/-- calls of built-in functions and types -/
theorem ed_cb {ta : TA} {r : List V → Hp → VK → Prop} {xs : List Dt} {z : Dt} (h : EvA K C ta Γ xs) (hr : RC K C r xs z) : EvD K C (tCB r ta) Γ z := fun H0 B H σ E Q q =>
  h H0 B H σ E _ fun vs B1 H1 P1 k1 => hr B1 H1 vs P1.sub k1 Q fun w B2 H2 P2 k2 => q w B2 H2 (P1.trans P2) k2
theorem en_cb {ta : TA} {r : List V → Hp → VK → Prop} {xs ds : List Dt} (h : EvA K C ta Γ xs) (hr : RCN K C r xs ds) : EvN K C (tCB r ta) Γ ds := fun H0 B H σ E Q q =>
  h H0 B H σ E _ fun vs B1 H1 P1 k1 => hr B1 H1 vs P1.sub k1 Q fun p ws B2 H2 P2 n nB hp k2 => by
    refine q p ws B2 H2 (P1.trans P2) ?_ nB hp k2
    cases e : H p with
    | none => rfl
    | some o => rw [P1.hh _ _ e] at n; cases n
theorem ed_cbL {te : TE} {r : List V → Hp → VK → Prop} {ds : List Dt} {z : Dt} (h : EvL K C te Γ ds) (hr : RCL K C r ds z) : EvD K C (tCB r (tCons te tNil)) Γ z := fun H0 B H σ E Q q =>
  h H0 B H σ E _ fun a vs B1 H1 P1 e1 k1 => hr B1 H1 a vs P1.sub e1 k1 Q fun w B2 H2 P2 k2 => q w B2 H2 (P1.trans P2) k2
theorem en_cbL {te : TE} {r : List V → Hp → VK → Prop} {ds es : List Dt} (h : EvL K C te Γ ds) (hr : RCLN K C r ds es) : EvN K C (tCB r (tCons te tNil)) Γ es := fun H0 B H σ E Q q =>
  h H0 B H σ E _ fun a vs B1 H1 P1 e1 k1 => hr B1 H1 a vs P1.sub e1 k1 Q fun p ws B2 H2 P2 n nB hp k2 => by
    refine q p ws B2 H2 (P1.trans P2) ?_ nB hp k2
    cases e : H p with
    | none => rfl
    | some o => rw [P1.hh _ _ e] at n; cases n
/-! ### tests -/
theorem et_test {te : TE} {b : Bool} (h : EvD K C te Γ (.bl b)) : EvT K C (tTest te) Γ b := fun H0 B H σ E Q q => h H0 B H σ E _ fun v B1 H1 P1 k1 => by
  cases k1
  exact ⟨b, rfl, q B1 H1 P1⟩
theorem et_B {te : TE} {b : Bool} (h : EvD K C te Γ (.bl b)) : EvT K C (tB te) Γ b := fun H0 B H σ E Q q => h H0 B H σ E _ fun v B1 H1 P1 k1 => by
  cases k1
  exact ⟨b, rfl, q B1 H1 P1⟩
theorem et_not {t : TT} {b : Bool} (h : EvT K C t Γ b) : EvT K C (tNot t) Γ (!b) := fun H0 B H σ E Q q => h H0 B H σ E _ fun B1 H1 P1 => q B1 H1 P1
theorem et_and {t u : TT} {a b : Bool} (h : EvT K C t Γ a) (k : a = true → EvT K C u Γ b) : EvT K C (tAnd t u) Γ (a && b) := fun H0 B H σ E Q q => h H0 B H σ E _ fun B1 H1 P1 => by
  cases a with
  | true => exact k rfl H0 B1 H1 σ (E.post P1) Q fun B2 H2 P2 => q B2 H2 (P1.trans P2)
  | false => exact q B1 H1 P1
theorem et_or {t u : TT} {a b : Bool} (h : EvT K C t Γ a) (k : a = false → EvT K C u Γ b) : EvT K C (tOr t u) Γ (a || b) := fun H0 B H σ E Q q => h H0 B H σ E _ fun B1 H1 P1 => by
  cases a with
  | false => exact k rfl H0 B1 H1 σ (E.post P1) Q fun B2 H2 P2 => q B2 H2 (P1.trans P2)
  | true => exact q B1 H1 P1
theorem ed_andV {ta tb : TE} {a b : Bool} (h : EvD K C ta Γ (.bl a)) (k : a = true → EvD K C tb Γ (.bl b)) : EvD K C (tAndV ta tb) Γ (.bl (a && b)) := fun H0 B H σ E Q q => h H0 B H σ E _ fun v B1 H1 P1 k1 => by
  cases k1
  refine ⟨a, rfl, ?_⟩
  cases a with
  | true => exact k rfl H0 B1 H1 σ (E.post P1) Q fun v B2 H2 P2 k2 => q v B2 H2 (P1.trans P2) k2
  | false => exact q _ B1 H1 P1 (.bl false)
theorem ed_notV {ta : TE} {a : Bool} (h : EvD K C ta Γ (.bl a)) : EvD K C (tNotV ta) Γ (.bl (!a)) := fun H0 B H σ E Q q => h H0 B H σ E _ fun v B1 H1 P1 k1 => by
  cases k1
  exact ⟨a, rfl, q _ B1 H1 P1 (.bl _)⟩
/-! ### statements -/
end
section
variable (K : PySem.W.Frag) (C : Addr)
/-- from the environment Γ the block t comes to nx, hands back rt, breaks, goes on; B0, H0: the entry -/
def Do (t : TS) (Γ : List Sl) (nx : List Sl → Prop) (rt : Dt → Prop) (bk ct : List Sl → Prop) : Prop := ∀ (B0 H0 B H : Hp) (σ : L2.St), Post B0 H0 B H → Env K C H0 B H σ Γ → ∀ D : Ends,
  (∀ Γ' B' H' σ', nx Γ' → Sub B B' → Post B0 H0 B' H' → Env K C H0 B' H' σ' Γ' → D.nx σ' H') → (∀ v d B' H', rt d → Post B0 H0 B' H' → Is K C B' v d → D.rt v H') →
  (∀ Γ' B' H' σ', bk Γ' → Sub B B' → Post B0 H0 B' H' → Env K C H0 B' H' σ' Γ' → D.bk σ' H') → (∀ Γ' B' H' σ', ct Γ' → Sub B B' → Post B0 H0 B' H' → Env K C H0 B' H' σ' Γ' → D.ct σ' H') → t D σ H
end
section
variable {K : PySem.W.Frag} {C : Addr} {Γ : List Sl} {nx bk ct : List Sl → Prop} {rt : Dt → Prop} {t u : TS}
theorem fresh0 {B0 H0 B H : Hp} (P : Post B0 H0 B H) {p : Addr} (n : H p = none) : H0 p = none := by
  cases e : H0 p with
  | none => rfl
  | some o => rw [P.hh _ _ e] at n; cases n
theorem do_next (h : nx Γ) : Do K C tNext Γ nx rt bk ct := fun B0 H0 B H σ P E D n r b c => n Γ B H σ h (fun _ _ e => e) P E
theorem do_cont (h : ct Γ) : Do K C tCont Γ nx rt bk ct := fun B0 H0 B H σ P E D n r b c => c Γ B H σ h (fun _ _ e => e) P E
theorem do_break (h : bk Γ) : Do K C tBreak Γ nx rt bk ct := fun B0 H0 B H σ P E D n r b c => b Γ B H σ h (fun _ _ e => e) P E
theorem do_never (h : False) : Do K C tNever Γ nx rt bk ct := h.elim
theorem do_seq (mid : List Sl → Prop) (h : Do K C t Γ mid rt bk ct) (k : ∀ Γ', mid Γ' → Do K C u Γ' nx rt bk ct) : Do K C (tSeq t u) Γ nx rt bk ct := fun B0 H0 B H σ P E D n r b c =>
  h B0 H0 B H σ P E { D with nx := u D } (fun Γ' B' H' σ' m s P' E' => k Γ' m B0 H0 B' H' σ' P' E' D (fun Γ2 B2 H2 σ2 m2 s2 => n Γ2 B2 H2 σ2 m2 (s.tr s2)) r (fun Γ2 B2 H2 σ2 m2 s2 => b Γ2 B2 H2 σ2 m2 (s.tr s2)) fun Γ2 B2 H2 σ2 m2 s2 => c Γ2 B2 H2 σ2 m2 (s.tr s2)) r b c
theorem do_set {te : TE} {i : Nat} {d : Dt} (h : EvD K C te Γ d) (hn : nx (Γ.set i (.da d))) : Do K C (tAsg te (gName i)) Γ nx rt bk ct := fun B0 H0 B H σ P E D n r b c =>
  h H0 B H σ E _ fun v B1 H1 P1 k1 => n _ B1 H1 _ hn P1.bb (P.trans P1) ((E.post P1).setD k1)
theorem do_setN {te : TE} {i : Nat} {ds : List Dt} (h : EvN K C te Γ ds) (hn : ∀ p, nx (Γ.set i (.ow p ds))) : Do K C (tAsg te (gName i)) Γ nx rt bk ct := fun B0 H0 B H σ P E D n r b c =>
  h H0 B H σ E _ fun p vs B1 H1 P1 np nB hp k1 => n _ B1 H1 _ (hn p) P1.bb (P.trans P1) (E.setO P1 np (fresh0 P np) nB hp k1)
/-- an assignment and what follows -/
theorem do_setc {te : TE} {i : Nat} {d : Dt} (h : EvD K C te Γ d) (k : Do K C u (Γ.set i (.da d)) nx rt bk ct) : Do K C (tSeq (tAsg te (gName i)) u) Γ nx rt bk ct := do_seq (· = Γ.set i (.da d)) (do_set h rfl) fun Γ' e => by rw [e]; exact k
theorem do_setNc {te : TE} {i : Nat} {ds : List Dt} (h : EvN K C te Γ ds) (k : ∀ p, Do K C u (Γ.set i (.ow p ds)) nx rt bk ct) : Do K C (tSeq (tAsg te (gName i)) u) Γ nx rt bk ct := do_seq (fun Γ' => ∃ p, Γ' = Γ.set i (.ow p ds)) (do_setN h fun p => ⟨p, rfl⟩) fun Γ' ⟨p, e⟩ => by rw [e]; exact k p
theorem do_ret {te : TE} {d : Dt} (h : EvD K C te Γ d) (hr : rt d) : Do K C (tRet te) Γ nx rt bk ct := fun B0 H0 B H σ P E D n r b c =>
  h H0 B H σ E _ fun v B1 H1 P1 k1 => r v d B1 H1 hr (P.trans P1) k1
/-- return of an own list -/
theorem do_retO {i : Nat} {a : Addr} {ds : List Dt} (h : Γ[i]? = some (.ow a ds)) (hr : rt (.lst ds)) : Do K C (tRet (tVar i)) Γ nx rt bk ct := fun B0 H0 B H σ P E D n r b c => by
  obtain ⟨vs, e1, e2, e3, e4, kd, E'⟩ := E.freeze h
  refine ⟨.ref a, e1, r _ _ _ _ hr ⟨fun x o e => sub_upd e2 _ _ (P.bb _ _ e), P.hh, fun x e => ?_, E'.sub⟩ kd⟩
  rw [upd_ne fun z => e (by rw [z]; exact e3)]
  exact P.fr x e
/-- B grows, the rest as before -/
theorem Post.grow {B0 H0 B H B' : Hp} (P : Post B0 H0 B H) (s : Sub B B') (n : ∀ x, B' x ≠ B x → H0 x = none) (s' : Sub B' H) : Post B0 H0 B' H := by
  refine ⟨fun x o e => s _ _ (P.bb _ _ e), P.hh, fun x e => ?_, s'⟩
  by_cases h : B' x = B x
  · rw [h]; exact P.fr x e
  · exact absurd (n x h) e
/-- an own list becomes a datum -/
theorem do_freeze {i : Nat} {a : Addr} {ds : List Dt} (h : Γ[i]? = some (.ow a ds)) (k : Do K C t (Γ.set i (.da (.lst ds))) nx rt bk ct) : Do K C t Γ nx rt bk ct := fun B0 H0 B H σ P E D n r b c => by
  obtain ⟨vs, e1, e2, e3, e4, kd, E'⟩ := E.freeze h
  have s := sub_upd (o := .lst vs) e2
  exact k B0 H0 _ H σ (P.grow s (fun x hx => by
    by_cases z : x = a
    · rw [z]; exact e3
    · exact absurd (upd_ne z) hx) E'.sub) E' D (fun Γ2 B2 H2 σ2 m2 s2 => n Γ2 B2 H2 σ2 m2 (s.tr s2)) r (fun Γ2 B2 H2 σ2 m2 s2 => b Γ2 B2 H2 σ2 m2 (s.tr s2)) fun Γ2 B2 H2 σ2 m2 s2 => c Γ2 B2 H2 σ2 m2 (s.tr s2)
/-- .. a list of own lists -/
theorem do_freezeO {i : Nat} {a : Addr} {bs : List Addr} {dss : List (List Dt)} (h : Γ[i]? = some (.oo a bs dss)) (k : Do K C t (Γ.set i (.da (.lst (dss.map Dt.lst)))) nx rt bk ct) : Do K C t Γ nx rt bk ct := fun B0 H0 B H σ P E D n r b c => by
  obtain ⟨B', s, hn, E'⟩ := E.freezeO h
  exact k B0 H0 _ H σ (P.grow s hn E'.sub) E' D (fun Γ2 B2 H2 σ2 m2 s2 => n Γ2 B2 H2 σ2 m2 (s.tr s2)) r (fun Γ2 B2 H2 σ2 m2 s2 => b Γ2 B2 H2 σ2 m2 (s.tr s2)) fun Γ2 B2 H2 σ2 m2 s2 => c Γ2 B2 H2 σ2 m2 (s.tr s2)
theorem do_if {c : TT} {b : Bool} (h : EvT K C c Γ b) (h1 : b = true → Do K C t Γ nx rt bk ct) (h2 : b = false → Do K C u Γ nx rt bk ct) : Do K C (tIfS c t u) Γ nx rt bk ct := fun B0 H0 B H σ P E D n r bb cc =>
  h H0 B H σ E _ fun B1 H1 P1 => by
    have n' := fun Γ2 B2 H2 σ2 m2 s2 => n Γ2 B2 H2 σ2 m2 (P1.bb.tr s2)
    have bb' := fun Γ2 B2 H2 σ2 m2 s2 => bb Γ2 B2 H2 σ2 m2 (P1.bb.tr s2)
    have cc' := fun Γ2 B2 H2 σ2 m2 s2 => cc Γ2 B2 H2 σ2 m2 (P1.bb.tr s2)
    cases b with
    | true => exact h1 rfl B0 H0 B1 H1 σ (P.trans P1) (E.post P1) D n' r bb' cc'
    | false => exact h2 rfl B0 H0 B1 H1 σ (P.trans P1) (E.post P1) D n' r bb' cc'
theorem do_weak {nx' bk' ct' : List Sl → Prop} {rt' : Dt → Prop} (h : Do K C t Γ nx' rt' bk' ct') (h1 : ∀ Γ, nx' Γ → nx Γ) (h2 : ∀ d, rt' d → rt d) (h3 : ∀ Γ, bk' Γ → bk Γ) (h4 : ∀ Γ, ct' Γ → ct Γ) : Do K C t Γ nx rt bk ct := fun B0 H0 B H σ P E D n r b c =>
  h B0 H0 B H σ P E D (fun Γ' B' H' σ' m => n Γ' B' H' σ' (h1 _ m)) (fun v d B' H' m => r v d B' H' (h2 _ m)) (fun Γ' B' H' σ' m => b Γ' B' H' σ' (h3 _ m)) fun Γ' B' H' σ' m => c Γ' B' H' σ' (h4 _ m)
/-! ### calls of the program's own defs -/
/-- the promise: from data to a datum -/
def SpD (K : PySem.W.Frag) (C : Addr) (R : List Dt → Dt → Prop) : Sp := fun vs H Q _ => ∃ (B : Hp) (ds : List Dt) (d : Dt), Sub B H ∧ Iss K C B vs ds ∧ R ds d ∧ ∀ v B' H', Post B H B' H' → Is K C B' v d → Q v H'
theorem ed_call {ta : TA} {R : List Dt → Dt → Prop} {ds : List Dt} {d : Dt} {Ex : XK} (h : EvA K C ta Γ ds) (hr : R ds d) : EvD K C (tCall (SpD K C R) [] Ex ta) Γ d := fun H0 B H σ E Q q =>
  h H0 B H σ E _ fun vs B1 H1 P1 k1 => ⟨B1, ds, d, P1.sub, by rw [List.append_nil]; exact k1, hr, fun v B2 H2 P2 k2 => q v B2 H2 (P1.trans P2) k2⟩
theorem SpD.len {R : List Dt → Dt → Prop} {n : Nat} (hR : ∀ ds d, R ds d → ds.length = n) : ∀ vs H Q E, SpD K C R vs H Q E → vs.length = n := fun vs H Q E ⟨B, ds, d, s, k, r, q⟩ => by rw [k.len, hR _ _ r]
/-- the slots at a def's start -/
def start0 (ds : List Dt) (m : Nat) : List Sl := ds.map Sl.da ++ List.replicate m .un
theorem env_start {H B : Hp} (s : Sub B H) : ∀ {vs : List V} {ds : List Dt} (m : Nat), Iss K C B vs ds → Env K C H B H (vs.map some ++ List.replicate m none) (start0 ds m) := fun {vs ds} m k => by
  refine ⟨s, by unfold start0; simp [k.len], fun i o g e1 e2 => ?_, fun i j es fs a e1 => ?_⟩
  · unfold start0 at e2
    by_cases hi : i < vs.length
    · rw [List.getElem?_append_left (by simpa using hi), List.getElem?_map] at e1
      rw [List.getElem?_append_left (by simpa [← k.len] using hi), List.getElem?_map] at e2
      obtain ⟨v, ev, rfl⟩ := Option.map_eq_some_iff.mp e1
      obtain ⟨d, ed, rfl⟩ := Option.map_eq_some_iff.mp e2
      obtain ⟨v', ev', k'⟩ := k.get ed
      rw [ev] at ev'
      obtain rfl := Option.some.inj ev'
      exact ⟨v, rfl, k'⟩
    · rw [List.getElem?_append_right (by simp [← k.len]; omega), List.getElem?_replicate] at e2
      split at e2
      · obtain rfl := Option.some.inj e2; trivial
      · cases e2
  · intro _ z _
    unfold start0 at e1
    by_cases hi : i < ds.length
    · rw [List.getElem?_append_left (by simpa using hi), List.getElem?_map] at e1
      obtain ⟨d, _, e⟩ := Option.map_eq_some_iff.mp e1
      rw [← e] at z; exact z.elim
    · rw [List.getElem?_append_right (by simp; omega), List.getElem?_replicate] at e1
      split at e1
      · rw [← Option.some.inj e1] at z; exact z.elim
      · cases e1
end
end WA
set_option Elab.async false
set_option linter.all false
set_option maxRecDepth 100000
set_option exponentiation.threshold 100000
/-! WB: a def from its data; // where the quotient is small; ratios -/
namespace WB
open PySem PySem.Spec PyProof.Rows L2 WA ML
/-- a def keeps its promise if its block does, at the level of data -/
theorem ok_do {P : Program} {w : World} {K : PySem.W.Frag} {mg : Str → Option Value} {base : Heap} {C : Addr} {x qual : Str} {st : Stmt} {f : Addr} {fd : FuncData} {N ps : List Str} {k : Nat} {R : List Dt → Dt → Prop} (F : Fun K x qual st f fd) (S : FnScope N ps (defScope st)) (hlen : ∀ ds d, R ds d → ds.length = ps.length)
    (body : ∀ (cdv : Value) (A : Around) (outer : List PySem.Env) (s : Shared) (H : Hp) (E : XK), Room k (A.deeper (envOfC qual (defScope st) s.heap.objs.size f cdv)) →
      ∃ t, PSs (cxOf CX0 P w K mg base N qual (defScope st) f cdv A outer s H E).nox (defBody st) t ∧ ∀ ds d, R ds d → Do K C t (start0 ds (N.length - ps.length)) (fun _ => d = .non) (fun e => e = d) (fun _ => False) (fun _ => False)) :
    FnOk P w K mg base CX0 (k + 1) f fd ps (SpD K C R) := by
  refine F.ok S (SpD.len hlen) fun cdv A outer s H vs Q E hr h => ?_
  obtain ⟨t, ht, hd⟩ := body cdv A outer s H E hr
  obtain ⟨B, ds, d, sub, k1, r, q⟩ := h
  refine ⟨t, ht, ?_⟩
  have e := env_start (K := K) (C := C) sub (N.length - ps.length) k1
  have hl : vs.length = ps.length := by rw [k1.len]; exact hlen _ _ r
  have es : L2.start N vs = vs.map some ++ List.replicate (N.length - ps.length) none := by unfold L2.start; rw [hl]
  rw [es]
  refine hd ds d r B H B H _ (.refl sub) e _ (fun Γ' B' H' σ' e1 _ P1 E1 => ?_) (fun v d' B' H' e1 P1 k2 => ?_) (fun _ _ _ _ z => z.elim) (fun _ _ _ _ z => z.elim)
  · show Q .non H'
    exact q .non B' H' P1 (by rw [show d = Dt.non from e1]; exact .non)
  · show Q v H'
    rw [show d' = d from e1] at k2
    exact q v B' H' P1 k2
/-! ### // -/
/-- C does the division by itself -/
def CDivC (i j : Int) : Prop := j ≠ 0 ∧ Builtin.divisionGoesByPylong i j = false
theorem op_fdivC {X : Cx} : OpR X (binaryOp .FloorDiv) (rI CDivC fun i j => .int (i.fdiv j)) := opI fun _ _ _ _ _ _ _ hc q => floordiv_int hc.1 q (.inl hc.2)
theorem quot_ok {i j k : Int} (e : i = j * k) (hk : k.natAbs ≤ 2 ^ 4400) : Builtin.divisionGoesByPylong i j = false := by
  show (decide ((if j == 0 then 0 else j.natAbs.log2 / 30 + 1) > 300) && decide ((if i == 0 then 0 else i.natAbs.log2 / 30 + 1) > (if j == 0 then 0 else j.natAbs.log2 / 30 + 1) + 150)) = false
  rw [Bool.and_eq_false_iff]
  refine .inr (decide_eq_false ?_)
  by_cases hi : (i == 0) = true
  · rw [if_pos hi]; omega
  · have hi0 : i ≠ 0 := fun z => hi (by rw [z]; rfl)
    have hj0 : j ≠ 0 := fun z => hi0 (by rw [e, z, Int.zero_mul])
    rw [if_neg hi, if_neg (fun z => hj0 (by simpa using z))]
    have h1 : i.natAbs < 2 ^ (j.natAbs.log2 + 1 + 4400 + 1) := by
      rw [e, Int.natAbs_mul]
      have h2 : j.natAbs < 2 ^ (j.natAbs.log2 + 1) := Nat.lt_log2_self
      have h3 : k.natAbs < 2 ^ (4400 + 1) := Nat.lt_of_le_of_lt hk (Nat.pow_lt_pow_right (by decide) (by decide))
      rw [Nat.add_assoc (j.natAbs.log2 + 1), Nat.pow_add]
      exact Nat.mul_lt_mul'' h2 h3
    have h4 : i.natAbs.log2 < j.natAbs.log2 + 1 + 4400 + 1 := (Nat.log2_lt (by omega)).mpr h1
    omega
/-! ### the ratio of two whole numbers -/
/-- what make_ratio divides by -/
def dvs (n d : Int) : Int := if d < 0 then -((Nat.gcd n.natAbs d.natAbs : Nat) : Int) else ((Nat.gcd n.natAbs d.natAbs : Nat) : Int)
theorem dvs_ne {n d : Int} (hd : d ≠ 0) : dvs n d ≠ 0 := by
  have h : 0 < Nat.gcd n.natAbs d.natAbs := Nat.gcd_pos_of_pos_right _ (Int.natAbs_pos.mpr hd)
  unfold dvs
  split <;> omega
theorem ratio_mul {n d : Int} (hd : d ≠ 0) : n = dvs n d * ((n : Rat) / (d : Rat)).num ∧ d = dvs n d * (((n : Rat) / (d : Rat)).den : Int) := by
  have e : (n : Rat) / (d : Rat) = Rat.divInt n d := (Rat.divInt_eq_div n d).symm
  rw [e, Rat.num_divInt, Rat.den_divInt, if_neg hd]
  have hg : (d.gcd n : Nat) = Nat.gcd n.natAbs d.natAbs := by
    show Nat.gcd d.natAbs n.natAbs = _
    exact Nat.gcd_comm _ _
  rw [hg]
  generalize hgg : Nat.gcd n.natAbs d.natAbs = g
  have hgp : 0 < g := by rw [← hgg]; exact Nat.gcd_pos_of_pos_right _ (Int.natAbs_pos.mpr hd)
  obtain ⟨a, ha⟩ : ∃ a : Int, n = (g : Int) * a := by
    have h : (g : Int) ∣ n := Int.ofNat_dvd_left.mpr (by rw [← hgg]; exact Nat.gcd_dvd_left _ _)
    exact h
  obtain ⟨c, hc⟩ : ∃ c : Int, d = (g : Int) * c := by
    have h : (g : Int) ∣ d := Int.ofNat_dvd_left.mpr (by rw [← hgg]; exact Nat.gcd_dvd_right _ _)
    exact h
  have hg0 : (g : Int) ≠ 0 := by omega
  have q2 : d.natAbs / g = c.natAbs := by
    rw [hc, Int.natAbs_mul]
    show (g : Int).natAbs * c.natAbs / g = c.natAbs
    rw [Int.natAbs_natCast, Nat.mul_div_cancel_left _ hgp]
  rw [q2]
  unfold dvs
  rw [hgg]
  by_cases hneg : d < 0
  · rw [if_pos hneg]
    have hs : d.sign = -1 := Int.sign_eq_neg_one_of_neg hneg
    have hc0 : c < 0 := by
      by_cases h : c < 0
      · exact h
      · have : 0 ≤ (g : Int) * c := Int.mul_nonneg (by omega) (by omega)
        omega
    rw [hs]
    have q1 : -1 * n / (g : Int) = -a := by
      rw [ha, show -1 * ((g : Int) * a) = (g : Int) * (-a) by rw [Int.mul_neg, Int.neg_mul, Int.one_mul], Int.mul_ediv_cancel_left _ hg0]
    rw [q1]
    refine ⟨by rw [Int.neg_mul_neg]; exact ha, ?_⟩
    have : ((c.natAbs : Nat) : Int) = -c := by omega
    rw [this, Int.neg_mul_neg]; exact hc
  · rw [if_neg hneg]
    have hs : d.sign = 1 := Int.sign_eq_one_of_pos (by omega)
    have hc0 : 0 < c := by
      by_cases h : 0 < c
      · exact h
      · have : (g : Int) * c ≤ 0 := Int.mul_nonpos_of_nonneg_of_nonpos (by omega) (by omega)
        omega
    rw [hs, Int.one_mul]
    have q1 : n / (g : Int) = a := by rw [ha, Int.mul_ediv_cancel_left _ hg0]
    rw [q1]
    refine ⟨ha, ?_⟩
    have : ((c.natAbs : Nat) : Int) = c := by omega
    rw [this]; exact hc
theorem fdiv_of {i j k : Int} (hj : j ≠ 0) (e : i = j * k) : i.fdiv j = k := by rw [e, Int.mul_fdiv_cancel_left _ hj]
theorem ratio_num {n d : Int} (hd : d ≠ 0) : n.fdiv (dvs n d) = ((n : Rat) / (d : Rat)).num := fdiv_of (dvs_ne hd) (ratio_mul hd).1
theorem ratio_den {n d : Int} (hd : d ≠ 0) : d.fdiv (dvs n d) = (((n : Rat) / (d : Rat)).den : Int) := fdiv_of (dvs_ne hd) (ratio_mul hd).2
theorem ratio_c1 {n d : Int} (hd : d ≠ 0) (h : Lim ((n : Rat) / (d : Rat))) : CDivC n (dvs n d) := ⟨dvs_ne hd, quot_ok (ratio_mul hd).1 h.1⟩
theorem ratio_c2 {n d : Int} (hd : d ≠ 0) (h : Lim ((n : Rat) / (d : Rat))) : CDivC d (dvs n d) := ⟨dvs_ne hd, quot_ok (ratio_mul hd).2 (by rw [Int.natAbs_natCast]; exact h.2)⟩
theorem pow_lt1 : (2 : Nat) ^ 4400 < 2 ^ 4401 := Nat.pow_lt_pow_right (by decide) (by decide)
theorem lim_num {x : Rat} (h : Lim x) : x.num.natAbs < 2 ^ 4401 := Nat.lt_of_le_of_lt h.1 pow_lt1
theorem lim_den {x : Rat} (h : Lim x) : ((x.den : Int)).natAbs < 2 ^ 4401 := by rw [Int.natAbs_natCast]; exact Nat.lt_of_le_of_lt h.2 pow_lt1
theorem den_ne (x : Rat) : (x.den : Int) ≠ 0 := by have := x.den_pos; omega
theorem den_neR (x : Rat) : (x.den : Rat) ≠ 0 := by exact_mod_cast x.den_nz
theorem as_div (x : Rat) : x = (x.num : Rat) / (x.den : Rat) := by
  conv => lhs; rw [← Rat.num_divInt_den x]
  rw [Rat.divInt_eq_div]; rfl
theorem add_div (a b : Rat) : ((a.num * (b.den : Int) + b.num * (a.den : Int) : Int) : Rat) / (((a.den : Int) * (b.den : Int) : Int) : Rat) = a + b := by
  have h1 := as_div a; have h2 := as_div b; have h3 := den_neR a; have h4 := den_neR b
  simp only [Rat.intCast_add, Rat.intCast_mul, Rat.intCast_natCast]
  conv => rhs; rw [h1, h2]
  generalize (a.num : Rat) = p at *; generalize (a.den : Rat) = q at *; generalize (b.num : Rat) = r at *; generalize (b.den : Rat) = s at *
  grind
theorem sub_div (a b : Rat) : ((a.num * (b.den : Int) - b.num * (a.den : Int) : Int) : Rat) / (((a.den : Int) * (b.den : Int) : Int) : Rat) = a - b := by
  have h1 := as_div a; have h2 := as_div b; have h3 := den_neR a; have h4 := den_neR b
  simp only [Rat.intCast_sub, Rat.intCast_mul, Rat.intCast_natCast]
  conv => rhs; rw [h1, h2]
  generalize (a.num : Rat) = p at *; generalize (a.den : Rat) = q at *; generalize (b.num : Rat) = r at *; generalize (b.den : Rat) = s at *
  grind
theorem mul_div (a b : Rat) : ((a.num * b.num : Int) : Rat) / (((a.den : Int) * (b.den : Int) : Int) : Rat) = a * b := by
  have h1 := as_div a; have h2 := as_div b; have h3 := den_neR a; have h4 := den_neR b
  simp only [Rat.intCast_mul, Rat.intCast_natCast]
  conv => rhs; rw [h1, h2]
  generalize (a.num : Rat) = p at *; generalize (a.den : Rat) = q at *; generalize (b.num : Rat) = r at *; generalize (b.den : Rat) = s at *
  grind
theorem div_div {a b : Rat} (hb : b.num ≠ 0) : ((a.num * (b.den : Int) : Int) : Rat) / (((a.den : Int) * b.num : Int) : Rat) = a / b := by
  have h1 := as_div a; have h2 := as_div b; have h3 := den_neR a; have h4 := den_neR b
  have h5 : (b.num : Rat) ≠ 0 := by exact_mod_cast hb
  simp only [Rat.intCast_mul, Rat.intCast_natCast]
  conv => rhs; rw [h1, h2]
  generalize (a.num : Rat) = p at *; generalize (a.den : Rat) = q at *; generalize (b.num : Rat) = r at *; generalize (b.den : Rat) = s at *
  grind
theorem num_ne {x : Rat} (h : x ≠ 0) : x.num ≠ 0 := fun z => h (by rw [as_div x, z]; simp [Rat.div_def])
/-- the comparison by cross products -/
theorem cross_lt (a b : Rat) : a.num * (b.den : Int) < b.num * (a.den : Int) ↔ a < b := by
  have h1 := as_div a; have h2 := as_div b
  have p1 : (0 : Rat) < (a.den : Rat) := by exact_mod_cast a.den_pos
  have p2 : (0 : Rat) < (b.den : Rat) := by exact_mod_cast b.den_pos
  have e : (a.num * (b.den : Int) < b.num * (a.den : Int)) ↔ ((a.num : Rat) * (b.den : Rat) < (b.num : Rat) * (a.den : Rat)) := by
    constructor
    · intro h
      have : ((a.num * (b.den : Int) : Int) : Rat) < ((b.num * (a.den : Int) : Int) : Rat) := by exact_mod_cast h
      simpa only [Rat.intCast_mul, Rat.intCast_natCast] using this
    · intro h
      have : ((a.num * (b.den : Int) : Int) : Rat) < ((b.num * (a.den : Int) : Int) : Rat) := by simpa only [Rat.intCast_mul, Rat.intCast_natCast] using h
      exact_mod_cast this
  rw [e]
  have ea : (a.num : Rat) = a * (a.den : Rat) := by conv => rhs; lhs; rw [h1]
                                                    have := den_neR a; grind
  have eb : (b.num : Rat) = b * (b.den : Rat) := by conv => rhs; lhs; rw [h2]
                                                    have := den_neR b; grind
  rw [ea, eb]
  have pp : 0 < (a.den : Rat) * (b.den : Rat) := Rat.mul_pos p1 p2
  generalize (a.den : Rat) = q at *; generalize (b.den : Rat) = s at *
  have l1 : a * q * s = a * (q * s) := by grind
  have l2 : b * s * q = b * (q * s) := by grind
  rw [l1, l2]
  generalize q * s = t at *
  constructor
  · intro h
    by_cases hc : a < b
    · exact hc
    · have := Rat.mul_le_mul_of_nonneg_right (show b ≤ a by grind) (Rat.le_of_lt pp)
      grind
  · intro h
    have := Rat.mul_pos (show 0 < b - a by grind) pp
    grind
/-! ### rules of the elements -/
section
variable {K : PySem.W.Frag} {C : Addr}
theorem rd_mul {i j : Int} (hi : i.natAbs < 2 ^ 4401) (hj : j.natAbs < 2 ^ 4401) : RD K C (rI CMulX fun i j => .int (i * j)) (.int i) (.int j) (.int (i * j)) := rd_I (mulx_ok hi hj (by decide))
theorem rd_fdiv {i j k : Int} (hc : CDivC i j) (e : i.fdiv j = k) : RD K C (rI CDivC fun i j => .int (i.fdiv j)) (.int i) (.int j) (.int k) := by
  rw [← e]; exact rd_I hc
theorem rc_gcd {a b : Int} : RC K C rGcd [.int a, .int b] (.int ((Nat.gcd a.natAbs b.natAbs : Nat) : Int)) := fun B H vs s k Q q => by
  have e : vs = [.int a, .int b] := k.ints (ns := [a, b])
  exact ⟨a, b, e, q _ B H (.refl s) (.int _)⟩
theorem ru_neg {i : Int} : RU K C (rU fun i => .int (-i)) (.int i) (.int (-i)) := fun B H v s k Q q => by
  cases k
  exact ⟨i, rfl, q _ B H (.refl s) (.int _)⟩
/-- two scalars compared -/
theorem rd_eqI {i j : Int} : RD K C rEq (.int i) (.int j) (.bl (decide (i = j))) := fun B H v u s k1 k2 Q q => by
  cases k1; cases k2
  refine ⟨rfl, ?_⟩
  have e : decide ((V.int i) = V.int j) = decide (i = j) := by
    by_cases h : i = j
    · rw [decide_eq_true h, decide_eq_true (by rw [h])]
    · rw [decide_eq_false h, decide_eq_false fun z => h (V.int.inj z)]
  rw [e]
  exact q _ B H (.refl s) (.bl _)
theorem rd_neI {i j : Int} : RD K C rNe (.int i) (.int j) (.bl (!decide (i = j))) := fun B H v u s k1 k2 Q q => by
  cases k1; cases k2
  refine ⟨rfl, ?_⟩
  have e : decide ((V.int i) = V.int j) = decide (i = j) := by
    by_cases h : i = j
    · rw [decide_eq_true h, decide_eq_true (by rw [h])]
    · rw [decide_eq_false h, decide_eq_false fun z => h (V.int.inj z)]
  rw [e]
  exact q _ B H (.refl s) (.bl _)
end
end WB
set_option Elab.async false
set_option linter.all false
set_option maxRecDepth 100000
/-! WC: a def that is called: where it is, what it promises -/
namespace WC
open PySem PySem.Spec PyProof.Rows L2 WA WB WT
/-- a def x that keeps the promise R at level k -/
structure Fd (P : Program) (w : World) (K : PySem.W.Frag) (mg : Str → Option Value) (base : Heap) (C : Addr) (x : Str) (ps : List Str) (k : Nat) (R : List Dt → Dt → Prop) where
  f : Addr
  fd : FuncData
  ok : FnOk P w K mg base CX0 k f fd ps (SpD K C R)
  g : mg x = some (.ref f)
  kp : PySem.W.keepIn K (.ref f) = true
  b : Binds K fd ps []
def Fd.up {P : Program} {w : World} {K : PySem.W.Frag} {mg : Str → Option Value} {base : Heap} {C : Addr} {x : Str} {ps : List Str} {j k : Nat} {R : List Dt → Dt → Prop} (A : Fd P w K mg base C x ps j R) (h : j ≤ k) : Fd P w K mg base C x ps k R :=
  ⟨A.f, A.fd, A.ok.mono h, A.g, A.kp, A.b⟩
end WC
set_option Elab.async false
set_option linter.all false
set_option maxRecDepth 100000
set_option maxHeartbeats 4000000
/-! W1: ratios -/
namespace W1
open PySem PySem.Spec PyProof.Rows L2 WA WB WT WC ML
variable {P : Program} {w : World} {K : PySem.W.Frag} {mg : Str → Option Value} {base : Heap} {C : Addr} {k : Nat} {f : Addr} {fd : FuncData}
def R_gcd (ds : List Dt) (d : Dt) : Prop := ∃ a b : Int, ds = [.int a, .int b] ∧ d = .int ((Nat.gcd a.natAbs b.natAbs : Nat) : Int)
theorem ok_gcd (F : Fun K "common_divisor" "common_divisor" s_common_divisor f fd) (g_gcd : mg "gcd" = some (.builtin "math.gcd")) : FnOk P w K mg base CX0 (k + 1) f fd ["a", "b"] (SpD K C R_gcd) := by
  refine ok_do F sc_common_divisor (fun ds d ⟨a, b, h, _⟩ => by rw [h]; rfl) fun cdv A outer s H E hr => ⟨_,
      (pss_one (ps_ret (pe_callBfun cr_gcd (by rfl) g_gcd (pa_cons (pv 0) (pa_cons (pv 1) pa_nil))))), ?_⟩
  rintro _ _ ⟨a, b, rfl, rfl⟩
  exact do_ret (ed_cb (ea_2 (ed_var rfl) (ed_var rfl)) rc_gcd) rfl
def R_ratio (ds : List Dt) (d : Dt) : Prop := ∃ n m : Int, ds = [.int n, .int m] ∧ m ≠ 0 ∧ Lim ((n : Rat) / (m : Rat)) ∧ d = .rat ((n : Rat) / (m : Rat))
theorem ok_ratio (F : Fun K "make_ratio" "make_ratio" s_make_ratio f fd) (A_common_divisor : Fd P w K mg base C "common_divisor" ["a", "b"] k R_gcd) : FnOk P w K mg base CX0 (k + 1) f fd ["n", "d"] (SpD K C R_ratio) := by
  refine ok_do F sc_make_ratio (fun ds d ⟨a, b, h, _⟩ => by rw [h]; rfl) fun cdv A outer s H E hr => ⟨_,
      (pss_cons (ps_if (pt_cmpR op_eq (pv 1) pe_int (nomark _))
      pss_never
      pss_nil)
      (pss_cons (ps_set (i := 2) sc_make_ratio.nd rfl (.inl rfl) (pe_call A_common_divisor.ok hr (by rfl) A_common_divisor.g A_common_divisor.kp A_common_divisor.b .nil pass0 (pa_cons (pv 0) (pa_cons (pv 1) pa_nil))))
      (pss_cons (ps_if (pt_cmpR op_lt (pv 1) pe_int (nomark _))
      (pss_one (ps_set (i := 2) sc_make_ratio.nd rfl (.inl rfl) (pe_un un_neg (pv 2))))
      pss_nil)
      (pss_one (ps_ret (pe_tup (pa_cons (pe_op op_fdivC (pv 0) (pv 2)) (pa_cons (pe_op op_fdivC (pv 1) (pv 2)) pa_nil)))))))), ?_⟩
  rintro _ _ ⟨n, m, rfl, hm, hl, rfl⟩
  refine do_seq (· = start0 [.int n, .int m] 1) (do_if (et_test (ed_op (ed_var rfl) ed_int rd_eqI)) (fun e => absurd (of_decide_eq_true e) hm) fun _ => do_next rfl) ?_
  rintro _ rfl
  refine do_setc (ed_call (ea_2 (ed_var rfl) (ed_var rfl)) ⟨n, m, rfl, rfl⟩) ?_
  refine do_seq (· = [.da (.int n), .da (.int m), .da (.int (dvs n m))]) (do_if (et_test (ed_op (ed_var rfl) ed_int rd_B0)) (fun e => ?_) fun e => ?_) ?_
  · refine do_set (ed_un (ed_var rfl) ru_neg) ?_
    have h := of_decide_eq_true e
    unfold dvs; rw [if_pos h]; rfl
  · refine do_next ?_
    have h := of_decide_eq_false e
    unfold dvs; rw [if_neg h]; rfl
  · rintro _ rfl
    exact do_ret (ed_rat (ea_2 (ed_op (ed_var rfl) (ed_var rfl) (rd_fdiv (ratio_c1 hm hl) (ratio_num hm))) (ed_op (ed_var rfl) (ed_var rfl) (rd_fdiv (ratio_c2 hm hl) (ratio_den hm)))) rfl rfl) rfl
end W1
set_option Elab.async false
set_option linter.all false
set_option maxRecDepth 100000
set_option maxHeartbeats 4000000
/-! W2: the four operations, the comparison, the slope -/
namespace W2
open PySem PySem.Spec PyProof.Rows L2 WA WB WT WC ML W1
variable {P : Program} {w : World} {K : PySem.W.Frag} {mg : Str → Option Value} {base : Heap} {C : Addr} {k : Nat} {f : Addr} {fd : FuncData}
abbrev FdRatio (P : Program) (w : World) (K : PySem.W.Frag) (mg : Str → Option Value) (base : Heap) (C : Addr) (k : Nat) := Fd P w K mg base C "make_ratio" ["n", "d"] k R_ratio
def R_two (op : Rat → Rat → Rat) (ds : List Dt) (d : Dt) : Prop := ∃ a b : Rat, ds = [.rat a, .rat b] ∧ Lim a ∧ Lim b ∧ Lim (op a b) ∧ d = .rat (op a b)
def R_div (ds : List Dt) (d : Dt) : Prop := ∃ a b : Rat, ds = [.rat a, .rat b] ∧ Lim a ∧ Lim b ∧ b ≠ 0 ∧ Lim (a / b) ∧ d = .rat (a / b)
theorem den_mul_ne (a b : Rat) : (a.den : Int) * (b.den : Int) ≠ 0 := Int.mul_ne_zero (den_ne a) (den_ne b)
theorem ok_add (F : Fun K "add" "add" s_add f fd) (A_make_ratio : FdRatio P w K mg base C k) : FnOk P w K mg base CX0 (k + 1) f fd ["a", "b"] (SpD K C (R_two fun a b => a + b)) := by
  refine ok_do F sc_add (fun ds d ⟨a, b, h, _⟩ => by rw [h]; rfl) fun cdv A outer s H E hr => ⟨_,
      (pss_one (ps_ret (pe_call A_make_ratio.ok hr (by rfl) A_make_ratio.g A_make_ratio.kp A_make_ratio.b .nil pass0 (pa_cons (pe_op op_add (pe_op op_mulX (pe_ix ix_tup (pv 0) pe_int (fun _ _ => rfl)) (pe_ix ix_tup (pv 1) pe_int (fun _ _ => rfl))) (pe_op op_mulX (pe_ix ix_tup (pv 1) pe_int (fun _ _ => rfl)) (pe_ix ix_tup (pv 0) pe_int (fun _ _ => rfl)))) (pa_cons (pe_op op_mulX (pe_ix ix_tup (pv 0) pe_int (fun _ _ => rfl)) (pe_ix ix_tup (pv 1) pe_int (fun _ _ => rfl))) pa_nil))))), ?_⟩
  rintro _ _ ⟨a, b, rfl, ha, hb, hl, rfl⟩
  refine do_ret (ed_call (ea_2 (ed_op (ed_op (ed_op (ed_var rfl) ed_int rd_num) (ed_op (ed_var rfl) ed_int rd_den) (rd_mul (lim_num ha) (lim_den hb))) (ed_op (ed_op (ed_var rfl) ed_int rd_num) (ed_op (ed_var rfl) ed_int rd_den) (rd_mul (lim_num hb) (lim_den ha))) rd_I0)
    (ed_op (ed_op (ed_var rfl) ed_int rd_den) (ed_op (ed_var rfl) ed_int rd_den) (rd_mul (lim_den ha) (lim_den hb)))) ⟨_, _, rfl, den_mul_ne a b, ?_, rfl⟩) ?_
  · rw [add_div]; exact hl
  · rw [add_div]
theorem ok_sub (F : Fun K "subtract" "subtract" s_subtract f fd) (A_make_ratio : FdRatio P w K mg base C k) : FnOk P w K mg base CX0 (k + 1) f fd ["a", "b"] (SpD K C (R_two fun a b => a - b)) := by
  refine ok_do F sc_subtract (fun ds d ⟨a, b, h, _⟩ => by rw [h]; rfl) fun cdv A outer s H E hr => ⟨_,
      (pss_one (ps_ret (pe_call A_make_ratio.ok hr (by rfl) A_make_ratio.g A_make_ratio.kp A_make_ratio.b .nil pass0 (pa_cons (pe_op op_sub (pe_op op_mulX (pe_ix ix_tup (pv 0) pe_int (fun _ _ => rfl)) (pe_ix ix_tup (pv 1) pe_int (fun _ _ => rfl))) (pe_op op_mulX (pe_ix ix_tup (pv 1) pe_int (fun _ _ => rfl)) (pe_ix ix_tup (pv 0) pe_int (fun _ _ => rfl)))) (pa_cons (pe_op op_mulX (pe_ix ix_tup (pv 0) pe_int (fun _ _ => rfl)) (pe_ix ix_tup (pv 1) pe_int (fun _ _ => rfl))) pa_nil))))), ?_⟩
  rintro _ _ ⟨a, b, rfl, ha, hb, hl, rfl⟩
  refine do_ret (ed_call (ea_2 (ed_op (ed_op (ed_op (ed_var rfl) ed_int rd_num) (ed_op (ed_var rfl) ed_int rd_den) (rd_mul (lim_num ha) (lim_den hb))) (ed_op (ed_op (ed_var rfl) ed_int rd_num) (ed_op (ed_var rfl) ed_int rd_den) (rd_mul (lim_num hb) (lim_den ha))) rd_I0)
    (ed_op (ed_op (ed_var rfl) ed_int rd_den) (ed_op (ed_var rfl) ed_int rd_den) (rd_mul (lim_den ha) (lim_den hb)))) ⟨_, _, rfl, den_mul_ne a b, ?_, rfl⟩) ?_
  · rw [sub_div]; exact hl
  · rw [sub_div]
theorem ok_mul (F : Fun K "multiply" "multiply" s_multiply f fd) (A_make_ratio : FdRatio P w K mg base C k) : FnOk P w K mg base CX0 (k + 1) f fd ["a", "b"] (SpD K C (R_two fun a b => a * b)) := by
  refine ok_do F sc_multiply (fun ds d ⟨a, b, h, _⟩ => by rw [h]; rfl) fun cdv A outer s H E hr => ⟨_,
      (pss_one (ps_ret (pe_call A_make_ratio.ok hr (by rfl) A_make_ratio.g A_make_ratio.kp A_make_ratio.b .nil pass0 (pa_cons (pe_op op_mulX (pe_ix ix_tup (pv 0) pe_int (fun _ _ => rfl)) (pe_ix ix_tup (pv 1) pe_int (fun _ _ => rfl))) (pa_cons (pe_op op_mulX (pe_ix ix_tup (pv 0) pe_int (fun _ _ => rfl)) (pe_ix ix_tup (pv 1) pe_int (fun _ _ => rfl))) pa_nil))))), ?_⟩
  rintro _ _ ⟨a, b, rfl, ha, hb, hl, rfl⟩
  refine do_ret (ed_call (ea_2 (ed_op (ed_op (ed_var rfl) ed_int rd_num) (ed_op (ed_var rfl) ed_int rd_num) (rd_mul (lim_num ha) (lim_num hb)))
    (ed_op (ed_op (ed_var rfl) ed_int rd_den) (ed_op (ed_var rfl) ed_int rd_den) (rd_mul (lim_den ha) (lim_den hb)))) ⟨_, _, rfl, den_mul_ne a b, ?_, rfl⟩) ?_
  · rw [mul_div]; exact hl
  · rw [mul_div]
theorem ok_div (F : Fun K "divide" "divide" s_divide f fd) (A_make_ratio : FdRatio P w K mg base C k) : FnOk P w K mg base CX0 (k + 1) f fd ["a", "b"] (SpD K C R_div) := by
  refine ok_do F sc_divide (fun ds d ⟨a, b, h, _⟩ => by rw [h]; rfl) fun cdv A outer s H E hr => ⟨_,
      (pss_cons (ps_if (pt_cmpR op_eq (pe_ix ix_tup (pv 1) pe_int (fun _ _ => rfl)) pe_int (nomark _))
      pss_never
      pss_nil)
      (pss_one (ps_ret (pe_call A_make_ratio.ok hr (by rfl) A_make_ratio.g A_make_ratio.kp A_make_ratio.b .nil pass0 (pa_cons (pe_op op_mulX (pe_ix ix_tup (pv 0) pe_int (fun _ _ => rfl)) (pe_ix ix_tup (pv 1) pe_int (fun _ _ => rfl))) (pa_cons (pe_op op_mulX (pe_ix ix_tup (pv 0) pe_int (fun _ _ => rfl)) (pe_ix ix_tup (pv 1) pe_int (fun _ _ => rfl))) pa_nil)))))), ?_⟩
  rintro _ _ ⟨a, b, rfl, ha, hb, h0, hl, rfl⟩
  have hn := num_ne h0
  refine do_seq (· = start0 [.rat a, .rat b] 0) (do_if (et_test (ed_op (ed_op (ed_var rfl) ed_int rd_num) ed_int rd_eqI)) (fun e => absurd (of_decide_eq_true e) hn) fun _ => do_next rfl) ?_
  rintro _ rfl
  refine do_ret (ed_call (ea_2 (ed_op (ed_op (ed_var rfl) ed_int rd_num) (ed_op (ed_var rfl) ed_int rd_den) (rd_mul (lim_num ha) (lim_den hb)))
    (ed_op (ed_op (ed_var rfl) ed_int rd_den) (ed_op (ed_var rfl) ed_int rd_num) (rd_mul (lim_den ha) (lim_num hb)))) ⟨_, _, rfl, Int.mul_ne_zero (den_ne a) hn, ?_, rfl⟩) ?_
  · rw [div_div hn]; exact hl
  · rw [div_div hn]
/-- -1, 0 or 1 -/
def cmp (a b : Rat) : Int := if a < b then -1 else if b < a then 1 else 0
def R_cmp (ds : List Dt) (d : Dt) : Prop := ∃ a b : Rat, ds = [.rat a, .rat b] ∧ Lim a ∧ Lim b ∧ d = .int (cmp a b)
theorem ok_cmp (F : Fun K "compare" "compare" s_compare f fd) : FnOk P w K mg base CX0 (k + 1) f fd ["a", "b"] (SpD K C R_cmp) := by
  refine ok_do F sc_compare (fun ds d ⟨a, b, h, _⟩ => by rw [h]; rfl) fun cdv A outer s H E hr => ⟨_,
      (pss_cons (ps_set (i := 2) sc_compare.nd rfl (.inl rfl) (pe_op op_mulX (pe_ix ix_tup (pv 0) pe_int (fun _ _ => rfl)) (pe_ix ix_tup (pv 1) pe_int (fun _ _ => rfl))))
      (pss_cons (ps_set (i := 3) sc_compare.nd rfl (.inl rfl) (pe_op op_mulX (pe_ix ix_tup (pv 1) pe_int (fun _ _ => rfl)) (pe_ix ix_tup (pv 0) pe_int (fun _ _ => rfl))))
      (pss_cons (ps_if (pt_cmpR op_lt (pv 2) (pv 3) (nomark _))
      (pss_one (ps_ret (pe_un un_neg pe_int)))
      pss_nil)
      (pss_cons (ps_if (pt_cmpR op_gt (pv 2) (pv 3) (nomark _))
      (pss_one (ps_ret pe_int))
      pss_nil)
      (pss_one (ps_ret pe_int)))))), ?_⟩
  rintro _ _ ⟨a, b, rfl, ha, hb, rfl⟩
  refine do_setc (ed_op (ed_op (ed_var rfl) ed_int rd_num) (ed_op (ed_var rfl) ed_int rd_den) (rd_mul (lim_num ha) (lim_den hb))) ?_
  refine do_setc (ed_op (ed_op (ed_var rfl) ed_int rd_num) (ed_op (ed_var rfl) ed_int rd_den) (rd_mul (lim_num hb) (lim_den ha))) ?_
  refine do_seq (fun Γ => ¬ a < b ∧ Γ = [.da (.rat a), .da (.rat b), .da (.int (a.num * (b.den : Int))), .da (.int (b.num * (a.den : Int)))]) (do_if (et_test (ed_op (ed_var rfl) (ed_var rfl) rd_B0)) (fun e => ?_) fun e => ?_) ?_
  · have h := (cross_lt a b).mp (of_decide_eq_true e)
    refine do_ret (ed_un ed_int ru_neg) ?_
    unfold cmp; rw [if_pos h]
  · exact do_next ⟨fun z => of_decide_eq_false e ((cross_lt a b).mpr z), rfl⟩
  · rintro _ ⟨hn, rfl⟩
    refine do_seq (fun Γ => ¬ b < a) (do_if (et_test (ed_op (ed_var rfl) (ed_var rfl) rd_B0)) (fun e => ?_) fun e => ?_) ?_
    · have h := (cross_lt b a).mp (of_decide_eq_true e)
      refine do_ret ed_int ?_
      unfold cmp; rw [if_neg hn, if_pos h]
    · exact do_next fun z => of_decide_eq_false e ((cross_lt b a).mpr z)
    · intro Γ' h
      refine do_ret ed_int ?_
      unfold cmp; rw [if_neg hn, if_neg h]
theorem cmp_pos {a b : Rat} : decide ((0 : Int) < cmp a b) = decide (b < a) := by
  unfold cmp
  by_cases h1 : a < b
  · rw [if_pos h1, decide_eq_false (show ¬ b < a by grind)]; rfl
  · rw [if_neg h1]
    by_cases h2 : b < a
    · rw [if_pos h2, decide_eq_true h2]; rfl
    · rw [if_neg h2, decide_eq_false h2]; rfl
theorem cmp_neg {a b : Rat} : decide (cmp a b < (0 : Int)) = decide (a < b) := by
  unfold cmp
  by_cases h1 : a < b
  · rw [if_pos h1, decide_eq_true h1]; rfl
  · rw [if_neg h1, decide_eq_false h1]
    split <;> rfl
theorem cmp_le {a b : Rat} : decide (cmp a b ≤ (0 : Int)) = decide (a ≤ b) := by
  unfold cmp
  by_cases h1 : a < b
  · rw [if_pos h1, decide_eq_true (show a ≤ b by grind)]; rfl
  · rw [if_neg h1]
    by_cases h2 : b < a
    · rw [if_pos h2, decide_eq_false (show ¬ a ≤ b by grind)]; rfl
    · rw [if_neg h2, decide_eq_true (show a ≤ b by grind)]; rfl
theorem cmp_ge {a b : Rat} : decide ((0 : Int) ≤ cmp a b) = decide (b ≤ a) := by
  unfold cmp
  by_cases h1 : a < b
  · rw [if_pos h1, decide_eq_false (show ¬ b ≤ a by grind)]; rfl
  · rw [if_neg h1, decide_eq_true (show b ≤ a by grind)]
    split <;> rfl
theorem cmp_eq {a b : Rat} : cmp a b = 0 ↔ a = b := by
  unfold cmp
  by_cases h1 : a < b
  · rw [if_pos h1]; exact ⟨fun h => absurd h (by decide), fun h => by rw [h] at h1; grind⟩
  · rw [if_neg h1]
    by_cases h2 : b < a
    · rw [if_pos h2]; exact ⟨fun h => absurd h (by decide), fun h => by rw [h] at h2; grind⟩
    · rw [if_neg h2]; exact ⟨fun _ => by grind, fun _ => rfl⟩
/-- the four operations and the comparison at one level -/
structure Ops (P : Program) (w : World) (K : PySem.W.Frag) (mg : Str → Option Value) (base : Heap) (C : Addr) (k : Nat) where
  add : Fd P w K mg base C "add" ["a", "b"] k (R_two fun a b => a + b)
  sub : Fd P w K mg base C "subtract" ["a", "b"] k (R_two fun a b => a - b)
  mul : Fd P w K mg base C "multiply" ["a", "b"] k (R_two fun a b => a * b)
  div : Fd P w K mg base C "divide" ["a", "b"] k R_div
  cmp : Fd P w K mg base C "compare" ["a", "b"] k R_cmp
def Ops.up {j : Nat} (O : Ops P w K mg base C j) (h : j ≤ k) : Ops P w K mg base C k := ⟨O.add.up h, O.sub.up h, O.mul.up h, O.div.up h, O.cmp.up h⟩
/-! calls of them -/
section
variable {Γ : List Sl} {t1 t2 : TE} {Ex : XK} {a b : Rat}
theorem ed_add (h1 : EvD K C t1 Γ (.rat a)) (h2 : EvD K C t2 Γ (.rat b)) (l1 : Lim a) (l2 : Lim b) (l : Lim (a + b)) : EvD K C (tCall (SpD K C (R_two fun a b => a + b)) [] Ex (tCons t1 (tCons t2 tNil))) Γ (.rat (a + b)) := ed_call (ea_2 h1 h2) ⟨a, b, rfl, l1, l2, l, rfl⟩
theorem ed_sub (h1 : EvD K C t1 Γ (.rat a)) (h2 : EvD K C t2 Γ (.rat b)) (l1 : Lim a) (l2 : Lim b) (l : Lim (a - b)) : EvD K C (tCall (SpD K C (R_two fun a b => a - b)) [] Ex (tCons t1 (tCons t2 tNil))) Γ (.rat (a - b)) := ed_call (ea_2 h1 h2) ⟨a, b, rfl, l1, l2, l, rfl⟩
theorem ed_mul (h1 : EvD K C t1 Γ (.rat a)) (h2 : EvD K C t2 Γ (.rat b)) (l1 : Lim a) (l2 : Lim b) (l : Lim (a * b)) : EvD K C (tCall (SpD K C (R_two fun a b => a * b)) [] Ex (tCons t1 (tCons t2 tNil))) Γ (.rat (a * b)) := ed_call (ea_2 h1 h2) ⟨a, b, rfl, l1, l2, l, rfl⟩
theorem ed_div (h1 : EvD K C t1 Γ (.rat a)) (h2 : EvD K C t2 Γ (.rat b)) (l1 : Lim a) (l2 : Lim b) (h0 : b ≠ 0) (l : Lim (a / b)) : EvD K C (tCall (SpD K C R_div) [] Ex (tCons t1 (tCons t2 tNil))) Γ (.rat (a / b)) := ed_call (ea_2 h1 h2) ⟨a, b, rfl, l1, l2, h0, l, rfl⟩
theorem ed_cmp (h1 : EvD K C t1 Γ (.rat a)) (h2 : EvD K C t2 Γ (.rat b)) (l1 : Lim a) (l2 : Lim b) : EvD K C (tCall (SpD K C R_cmp) [] Ex (tCons t1 (tCons t2 tNil))) Γ (.int (cmp a b)) := ed_call (ea_2 h1 h2) ⟨a, b, rfl, l1, l2, rfl⟩
end
/-! ### the slope between two knots -/
def kD (p : Rat × Rat) : Dt := .tup [.rat p.1, .rat p.2]
def R_slope (ds : List Dt) (d : Dt) : Prop := ∃ p q : Rat × Rat, ds = [kD p, kD q] ∧ Lim p.1 ∧ Lim p.2 ∧ Lim q.1 ∧ Lim q.2 ∧ Lim (q.2 - p.2) ∧ Lim (q.1 - p.1) ∧ q.1 - p.1 ≠ 0 ∧ Lim ((q.2 - p.2) / (q.1 - p.1)) ∧ d = .rat ((q.2 - p.2) / (q.1 - p.1))
theorem ok_slope (F : Fun K "line_slope" "line_slope" s_line_slope f fd) (A : Ops P w K mg base C k) : FnOk P w K mg base CX0 (k + 1) f fd ["left", "right"] (SpD K C R_slope) := by
  have A_divide := A.div
  have A_subtract := A.sub
  refine ok_do F sc_line_slope (fun ds d ⟨a, b, h, _⟩ => by rw [h]; rfl) fun cdv A outer s H E hr => ⟨_,
      (pss_one (ps_ret (pe_call A_divide.ok hr (by rfl) A_divide.g A_divide.kp A_divide.b .nil pass0 (pa_cons (pe_call A_subtract.ok hr (by rfl) A_subtract.g A_subtract.kp A_subtract.b .nil pass0 (pa_cons (pe_ix ix_tup (pv 1) pe_int (fun _ _ => rfl)) (pa_cons (pe_ix ix_tup (pv 0) pe_int (fun _ _ => rfl)) pa_nil))) (pa_cons (pe_call A_subtract.ok hr (by rfl) A_subtract.g A_subtract.kp A_subtract.b .nil pass0 (pa_cons (pe_ix ix_tup (pv 1) pe_int (fun _ _ => rfl)) (pa_cons (pe_ix ix_tup (pv 0) pe_int (fun _ _ => rfl)) pa_nil))) pa_nil))))), ?_⟩
  rintro _ _ ⟨p, q, rfl, h1, h2, h3, h4, h5, h6, h7, h8, rfl⟩
  exact do_ret (ed_div (ed_sub (ed_op (ed_var rfl) ed_int (rd_ixT (i := 1) rfl)) (ed_op (ed_var rfl) ed_int (rd_ixT (i := 1) rfl)) h4 h2 h5) (ed_sub (ed_op (ed_var rfl) ed_int (rd_ixT (i := 0) rfl)) (ed_op (ed_var rfl) ed_int (rd_ixT (i := 0) rfl)) h3 h1 h6) h5 h6 h7 h8) rfl
end W2
set_option Elab.async false
set_option linter.all false
set_option maxRecDepth 100000
/-! WD: loops and comprehensions over data -/
namespace WD
open PySem PySem.Spec PyProof.Rows L2 WA
section
variable (K : PySem.W.Frag) (C : Addr)
/-- a walk over ds, good while B1 stands and the slots keep I -/
def ItOk (J : It) (ds : List Dt) (I : List Sl → Prop) (H0 B1 : Hp) : Prop := ∀ (B H : Hp) (σ : L2.St) (Γ : List Sl), Sub B1 B → Env K C H0 B H σ Γ → I Γ → ∀ i : Nat, (ds.length ≤ i → J.stop i H) ∧ ∀ d, ds[i]? = some d → J.go i H ∧ ∀ x H', J.yld i H x H' → ∃ B', Post B H B' H' ∧ Is K C B' x d
def EvI (wi : TI) (Γ : List Sl) (ds : List Dt) (I : List Sl → Prop) : Prop := ∀ (H0 B H : Hp) (σ : L2.St), Env K C H0 B H σ Γ → ∀ R : It → Hp → Prop, (∀ J B1 H1, Post B H B1 H1 → ItOk K C J ds I H0 B1 → R J H1) → wi σ H R
def TgD (g : TG) (d : Dt) (Γ Γ' : List Sl) : Prop := ∀ (H0 B H : Hp) (σ : L2.St) (v : V), Env K C H0 B H σ Γ → Is K C B v d → ∀ Q : L2.St → Hp → Prop, (∀ σ', Env K C H0 B H σ' Γ' → Q σ' H) → g v σ H Q
def TgC (vs : List Nat) (g : TG) (d : Dt) (Γ Γ' : List Sl) : Prop := ∀ (H0 B H : Hp) (σ : L2.St) (v : V), Env K C H0 B H σ Γ → Is K C B v d → ∀ Q : L2.St → Hp → Prop, (∀ σ', wipe σ' vs = wipe σ vs → Env K C H0 B H σ' Γ' → Q σ' H) → g v σ H Q
end
def wipeG (Γ : List Sl) : List Nat → List Sl
  | [] => Γ
  | v :: vs => (wipeG Γ vs).set v .un
section
variable {K : PySem.W.Frag} {C : Addr} {Γ : List Sl} {H0 B H B' H' : Hp} {σ : L2.St}
/-! ### small things -/
theorem get_le {α : Type} {l : List α} {i : Nat} {a : α} (h : l[i]? = some a) : i < l.length := (List.getElem?_eq_some_iff.mp h).1
theorem get_lt {α : Type} {l : List α} {i : Nat} (h : i < l.length) : ∃ a, l[i]? = some a := ⟨l[i], List.getElem?_eq_getElem h⟩
theorem is_lst {v : V} {ds : List Dt} (k : Is K C B v (.lst ds)) : ∃ a vs, v = .ref a ∧ B a = some (.lst vs) ∧ Iss K C B vs ds := by
  cases k with
  | lst e k => exact ⟨_, _, rfl, e, k⟩
theorem is_tup {v : V} {ds : List Dt} (k : Is K C B v (.tup ds)) : ∃ a vs, v = .ref a ∧ B a = some (.tup vs) ∧ Iss K C B vs ds := by
  cases k with
  | tup e k => exact ⟨_, _, rfl, e, k⟩
theorem rd_lst {a : Addr} {vs : List V} (e : H a = some (.lst vs)) : SqL K H a vs := .inl (.inl e)
theorem rd_tup {a : Addr} {vs : List V} (e : H a = some (.tup vs)) : SqT K H a vs := .inl (.inl e)
theorem fresh_of {B H B' H' : Hp} (P : Post B H B' H') {p : Addr} (n : H' p = none) : H p = none := by
  cases e : H p with
  | none => rfl
  | some o => rw [P.hh _ _ e] at n; cases n
theorem stay {B H B' H' : Hp} (P : Post B H B' H') {p : Addr} (h : H p ≠ none) : H' p = H p := by
  cases e : H p with
  | none => exact absurd e h
  | some o => exact P.hh _ _ e
/-- an own object, not in any slot, is written -/
theorem _root_.WA.Post.mut {B H B' H' : Hp} (P : Post B H B' H') {p : Addr} {o : HO} (n : H p = none) (nB : B' p = none) : Post B H B' (upd H' p o) :=
  ⟨P.bb, fun a u e => by rw [upd_ne (ne_of_none e n)]; exact P.hh _ _ e, P.fr, sub_mut P.sub nB⟩
theorem _root_.WA.Env.mut (E : Env K C H0 B H σ Γ) {p : Addr} {o : HO} (nB : B p = none) (no : ∀ (i : Nat) (g : Sl), Γ[i]? = some g → ¬ g.has p) : Env K C H0 B (upd H p o) σ Γ := by
  refine ⟨sub_mut E.sub nB, E.len, fun i o' g e1 e2 => ?_, E.dist⟩
  refine (E.slot i o' g e1 e2).keep (fun _ _ e => e) fun a h => ⟨upd_ne fun z => no i g e2 (by rw [← z]; exact h), rfl⟩
theorem _root_.WA.Env.unowned (E : Env K C H0 B H σ Γ) {p : Addr} (n : H p = none) : ∀ (i : Nat) (g : Sl), Γ[i]? = some g → ¬ g.has p := fun i g e h => by
  obtain ⟨o, _, k⟩ := E.at e
  exact (k.own h).2.2 n
theorem _root_.WA.Env.wipe (E : Env K C H0 B H σ Γ) : ∀ vs : List Nat, Env K C H0 B H (L2.wipe σ vs) (wipeG Γ vs)
  | [] => E
  | v :: vs => (E.wipe vs).setU
theorem wipe_at (σ : L2.St) (i : Nat) : ∀ vs : List Nat, (L2.wipe σ vs)[i]? = if i ∈ vs then σ[i]?.map (fun _ => none) else σ[i]?
  | [] => by simp [L2.wipe]
  | v :: vs => by
    show ((L2.wipe σ vs).set v none)[i]? = _
    by_cases h : v = i
    · subst h
      rw [if_pos (by simp)]
      by_cases hl : v < (L2.wipe σ vs).length
      · rw [List.getElem?_set_self hl]
        rw [wipe_length] at hl
        rw [List.getElem?_eq_getElem hl]; rfl
      · have hl' : ¬ v < σ.length := by rw [wipe_length] at hl; exact hl
        rw [List.getElem?_eq_none (by rw [List.length_set]; omega), List.getElem?_eq_none (by omega)]; rfl
    · rw [List.getElem?_set_ne h, wipe_at σ i vs]
      have : (i ∈ v :: vs) ↔ i ∈ vs := by simp [Ne.symm h]
      simp only [this]
theorem wipe_set {σ : L2.St} {vs : List Nat} {k : Nat} {o : Option V} (h : k ∈ vs) : L2.wipe (σ.set k o) vs = L2.wipe σ vs := by
  refine List.ext_getElem? fun i => ?_
  rw [wipe_at, wipe_at]
  by_cases hi : k = i
  · subst hi
    rw [if_pos h, if_pos h]
    by_cases hl : k < σ.length
    · rw [List.getElem?_set_self hl, List.getElem?_eq_getElem hl]; rfl
    · rw [List.getElem?_eq_none (by rw [List.length_set]; omega), List.getElem?_eq_none (by omega)]
  · rw [List.getElem?_set_ne hi]
theorem wipe_wipe (σ : L2.St) (vs : List Nat) : L2.wipe (L2.wipe σ vs) vs = L2.wipe σ vs := by
  refine List.ext_getElem? fun i => ?_
  rw [wipe_at, wipe_at]
  split
  · cases σ[i]? <;> rfl
  · rfl
/-! ### targets -/
theorem tg_name {i : Nat} {d : Dt} : TgD K C (gName i) d Γ (Γ.set i (.da d)) := fun H0 B H σ v E k Q q => q _ (E.setD k)
theorem tg_pair {i j : Nat} {a b : Dt} : TgD K C (gTup K 2 (gCons (gName i) (gCons (gName j) gNil))) (.tup [a, b]) Γ ((Γ.set i (.da a)).set j (.da b)) := fun H0 B H σ v E k Q q => by
  obtain ⟨p, vs, rfl, e, k⟩ := is_tup k
  cases k with
  | cons k1 k =>
    cases k with
    | cons k2 k =>
      cases k
      exact ⟨p, _, rfl, rd_tup (E.sub _ _ e), rfl, _, _, rfl, _, _, rfl, rfl, q _ ((E.setD k1).setD k2)⟩
theorem tgc_name {vs : List Nat} {i : Nat} {d : Dt} (h : i ∈ vs) : TgC K C vs (gName i) d Γ (Γ.set i (.da d)) := fun H0 B H σ v E k Q q => q _ (wipe_set h) (E.setD k)
theorem tgc_pair {vs : List Nat} {i j : Nat} {a b : Dt} (hi : i ∈ vs) (hj : j ∈ vs) : TgC K C vs (gTup K 2 (gCons (gName i) (gCons (gName j) gNil))) (.tup [a, b]) Γ ((Γ.set i (.da a)).set j (.da b)) := fun H0 B H σ v E k Q q => by
  obtain ⟨p, vs, rfl, e, k⟩ := is_tup k
  cases k with
  | cons k1 k =>
    cases k with
    | cons k2 k =>
      cases k
      exact ⟨p, _, rfl, rd_tup (E.sub _ _ e), rfl, _, _, rfl, _, _, rfl, rfl, q _ ((wipe_set hj).trans (wipe_set hi)) ((E.setD k1).setD k2)⟩
/-! ### sources -/
theorem itl_ok {a : Addr} {vs : List V} {ds : List Dt} {I : List Sl → Prop} {B1 : Hp} (hB : ∀ (B H : Hp) (σ : L2.St) (Γ : List Sl), Sub B1 B → Env K C H0 B H σ Γ → I Γ → ∃ vs, SqL K H a vs ∧ Iss K C B vs ds) : ItOk K C (Itl K a) ds I H0 B1 := fun B H σ Γ s E i j => by
  obtain ⟨vs, e, k⟩ := hB B H σ Γ s E i
  refine ⟨fun h => ⟨vs, e, by rw [k.len]; exact h⟩, fun d hd => ?_⟩
  obtain ⟨v, hv, kv⟩ := k.get hd
  refine ⟨⟨vs, v, e, hv⟩, fun x H' ⟨eH, hx⟩ => ?_⟩
  subst eH
  have := hx vs e
  rw [hv] at this
  obtain rfl := Option.some.inj this
  exact ⟨B, .refl E.sub, kv⟩
theorem ei_list {te : TE} {ds : List Dt} (h : EvD K C te Γ (.lst ds)) : EvI K C (iList K te) Γ ds (fun _ => True) := fun H0 B H σ E R r =>
  h H0 B H σ E _ fun v B1 H1 P1 k => by
    obtain ⟨a, vs, rfl, e, k⟩ := is_lst k
    exact ⟨a, rfl, ⟨vs, rd_lst (P1.sub _ _ e)⟩, r _ B1 H1 P1 (itl_ok (vs := vs) fun B H σ Γ s E _ => ⟨vs, rd_lst (E.sub _ _ (s _ _ e)), k.mono s⟩)⟩
theorem ei_listN {te : TE} {ds : List Dt} (h : EvN K C te Γ ds) : EvI K C (iList K te) Γ ds (fun _ => True) := ei_list h.d
theorem ei_own {i : Nat} {a : Addr} {ds : List Dt} (h : Γ[i]? = some (.ow a ds)) : EvI K C (iList K (tVar i)) Γ ds (fun Γ' => Γ'[i]? = some (.ow a ds)) := fun H0 B H σ E R r => by
  obtain ⟨e1, _, _, vs, e2, k⟩ := E.ow h
  refine ⟨.ref a, e1, a, rfl, ⟨vs, rd_lst e2⟩, r _ B H (.refl E.sub) (itl_ok (vs := vs) fun B' H' σ' Γ' s E' hh => ?_)⟩
  obtain ⟨_, _, _, ws, e3, k3⟩ := E'.ow hh
  exact ⟨ws, rd_lst e3, k3⟩
theorem ei_tup {te : TE} {ds : List Dt} (h : EvD K C te Γ (.tup ds)) : EvI K C (iTup K te) Γ ds (fun _ => True) := fun H0 B H σ E R r =>
  h H0 B H σ E _ fun v B1 H1 P1 k => by
    obtain ⟨a, vs, rfl, e, k⟩ := is_tup k
    refine ⟨a, rfl, ⟨vs, rd_tup (P1.sub _ _ e)⟩, r _ B1 H1 P1 fun B H σ Γ s E _ i => ?_⟩
    have e' : SqT K H a vs := rd_tup (E.sub _ _ (s _ _ e))
    have k' := k.mono s
    refine ⟨fun h => ⟨vs, e', by rw [k'.len]; exact h⟩, fun d hd => ?_⟩
    obtain ⟨v, hv, kv⟩ := k'.get hd
    refine ⟨⟨vs, v, e', hv⟩, fun x H' ⟨eH, hx⟩ => ?_⟩
    subst eH
    have := hx vs e'
    rw [hv] at this
    obtain rfl := Option.some.inj this
    exact ⟨B, .refl E.sub, kv⟩
/-- f 0, f 1, .. -/
def upto (n : Nat) (f : Nat → Int) : List Dt := (List.range n).map fun i => Dt.int (f i)
theorem upto_len {n : Nat} {f : Nat → Int} : (upto n f).length = n := by unfold upto; simp
theorem upto_at {n : Nat} {f : Nat → Int} {i : Nat} {d : Dt} (h : (upto n f)[i]? = some d) : i < n ∧ d = .int (f i) := by
  have hi := get_le h
  rw [upto_len] at hi
  refine ⟨hi, ?_⟩
  unfold upto at h
  rw [List.getElem?_map, List.getElem?_range hi] at h
  exact (Option.some.inj h).symm
theorem itr_ok {lo : Int} {n : Nat} {B1 : Hp} : ItOk K C (Itr lo n) (upto n fun i => lo + i) (fun _ => True) H0 B1 := fun B H σ Γ s E _ i => by
  refine ⟨fun h => by rw [upto_len] at h; exact h, fun d hd => ?_⟩
  obtain ⟨h1, rfl⟩ := upto_at hd
  refine ⟨h1, fun x H' ⟨e1, e2⟩ => ?_⟩
  subst e1; subst e2
  exact ⟨B, .refl E.sub, .int _⟩
theorem ei_rng1 {ta : TA} {n : Nat} (h : EvA K C ta Γ [.int (n : Int)]) (hn : n < 2 ^ 62) : EvI K C (iRng1 ta) Γ (upto n fun i => (i : Int)) (fun _ => True) := fun H0 B H σ E R r =>
  h H0 B H σ E _ fun vs B1 H1 P1 k => by
    obtain rfl := k.ints (ns := [(n : Int)])
    refine ⟨(n : Int), rfl, by omega, by omega, r _ B1 H1 P1 ?_⟩
    have e : (upto n fun i => (i : Int)) = upto n fun i => (0 : Int) + i := by unfold upto; simp
    rw [e, Int.toNat_natCast]
    exact itr_ok
theorem ei_rng2 {ta : TA} {i j : Int} (h : EvA K C ta Γ [.int i, .int j]) (h1 : 0 ≤ i) (h2 : i < 2 ^ 62) (h3 : 0 ≤ j) (h4 : j < 2 ^ 62) : EvI K C (iRng2 ta) Γ (upto (j - i).toNat fun k => i + k) (fun _ => True) := fun H0 B H σ E R r =>
  h H0 B H σ E _ fun vs B1 H1 P1 k => by
    obtain rfl := k.ints (ns := [i, j])
    exact ⟨i, j, rfl, ⟨by omega, h2, by omega, h4⟩, r _ B1 H1 P1 itr_ok⟩
/-- n - 1 down to 0 -/
theorem ei_rng3 {ta : TA} {n : Nat} (h : EvA K C ta Γ [.int ((n : Int) - 1), .int (-1), .int (-1)]) (hn : n < 2 ^ 62) : EvI K C (iRng3 ta) Γ (upto n fun k => (n : Int) - 1 - k) (fun _ => True) := fun H0 B H σ E R r =>
  h H0 B H σ E _ fun vs B1 H1 P1 k => by
    obtain rfl := k.ints (ns := [(n : Int) - 1, -1, -1])
    have hg : RgC ((n : Int) - 1) (-1) (-1) n := by
      have := RgC.neg (i := (n : Int) - 1) (j := -1) (by omega) (by omega) (by omega) (by omega)
      have e : ((n : Int) - 1 - -1).toNat = n := by omega
      rw [e] at this; exact this
    refine ⟨_, _, _, n, rfl, hg, r _ B1 H1 P1 fun B H σ Γ s E _ i => ⟨fun h => by rw [upto_len] at h; exact h, fun d hd => ?_⟩⟩
    obtain ⟨h1, rfl⟩ := upto_at hd
    refine ⟨h1, fun x H' ⟨e1, e2⟩ => ?_⟩
    subst e1; subst e2
    refine ⟨B, .refl E.sub, ?_⟩
    have e : (n : Int) - 1 + (i : Nat) * -1 = (n : Int) - 1 - i := by omega
    rw [e]; exact .int _
/-- pairs of two lists -/
def zipD (as bs : List Dt) : List Dt := List.zipWith (fun a b => Dt.tup [a, b]) as bs
theorem zipD_at {as bs : List Dt} {i : Nat} {d : Dt} (h : (zipD as bs)[i]? = some d) : ∃ a b, as[i]? = some a ∧ bs[i]? = some b ∧ d = .tup [a, b] := by
  unfold zipD at h
  rw [List.getElem?_zipWith] at h
  cases ea : as[i]? with
  | none => rw [ea] at h; simp at h
  | some a =>
    cases eb : bs[i]? with
    | none => rw [ea, eb] at h; simp at h
    | some b =>
      rw [ea, eb] at h
      exact ⟨a, b, rfl, rfl, (Option.some.inj h).symm⟩
theorem itz_ok {a b : Addr} {as bs : List Dt} {I : List Sl → Prop} {B1 : Hp} (hB : ∀ (B H : Hp) (σ : L2.St) (Γ : List Sl), Sub B1 B → Env K C H0 B H σ Γ → I Γ → (∃ vs, SqL K H a vs ∧ Iss K C B vs as) ∧ ∃ vs, SqL K H b vs ∧ Iss K C B vs bs) : ItOk K C (Itz K a b) (zipD as bs) I H0 B1 := fun B H σ Γ s E i j => by
  obtain ⟨⟨vs, e, k⟩, ws, f, l⟩ := hB B H σ Γ s E i
  refine ⟨fun h => ⟨vs, ws, e, f, ?_⟩, fun d hd => ?_⟩
  · unfold zipD at h
    rw [List.length_zipWith] at h
    rw [k.len, l.len]; omega
  · obtain ⟨x, y, hx, hy, rfl⟩ := zipD_at hd
    obtain ⟨v, hv, kv⟩ := k.get hx
    obtain ⟨w, hw, kw⟩ := l.get hy
    refine ⟨⟨vs, ws, v, w, e, f, hv, hw⟩, fun u H' ⟨T, v', w', eu, hT, eH, q1, q2⟩ => ?_⟩
    subst eu; subst eH
    have z1 := q1 vs e; rw [hv] at z1; obtain rfl := Option.some.inj z1
    have z2 := q2 ws f; rw [hw] at z2; obtain rfl := Option.some.inj z2
    have P := Post.new (o := .tup [v, w]) E.sub hT
    exact ⟨_, P, .tup upd_same (.cons (kv.mono P.bb) (.cons (kw.mono P.bb) .nil))⟩
theorem ei_zip {ta : TA} {as bs : List Dt} (h : EvA K C ta Γ [.lst as, .lst bs]) : EvI K C (iZip K ta) Γ (zipD as bs) (fun _ => True) := fun H0 B H σ E R r =>
  h H0 B H σ E _ fun us B1 H1 P1 k => by
    cases k with
    | cons k1 k =>
      cases k with
      | cons k2 k =>
        cases k
        obtain ⟨a, vs, rfl, e, k1⟩ := is_lst k1
        obtain ⟨b, ws, rfl, f, k2⟩ := is_lst k2
        exact ⟨a, b, vs, ws, rfl, rd_lst (P1.sub _ _ e), rd_lst (P1.sub _ _ f), r _ B1 H1 P1 (itz_ok fun B H σ Γ s E _ => ⟨⟨vs, rd_lst (E.sub _ _ (s _ _ e)), k1.mono s⟩, ws, rd_lst (E.sub _ _ (s _ _ f)), k2.mono s⟩)⟩
theorem ei_zipO {i j : Nat} {a b : Addr} {as bs : List Dt} (h1 : Γ[i]? = some (.ow a as)) (h2 : Γ[j]? = some (.ow b bs)) : EvI K C (iZip K (tCons (tVar i) (tCons (tVar j) tNil))) Γ (zipD as bs) (fun Γ' => Γ'[i]? = some (.ow a as) ∧ Γ'[j]? = some (.ow b bs)) := fun H0 B H σ E R r => by
  obtain ⟨e1, _, _, vs, e2, k⟩ := E.ow h1
  obtain ⟨f1, _, _, ws, f2, l⟩ := E.ow h2
  refine ⟨.ref a, e1, .ref b, f1, a, b, vs, ws, rfl, rd_lst e2, rd_lst f2, r _ B H (.refl E.sub) (itz_ok fun B' H' σ' Γ' s E' hh => ?_)⟩
  obtain ⟨_, _, _, vs', e3, k3⟩ := E'.ow hh.1
  obtain ⟨_, _, _, ws', f3, l3⟩ := E'.ow hh.2
  exact ⟨⟨vs', rd_lst e3, k3⟩, ws', rd_lst f3, l3⟩
end
/-! ### loops -/
section
variable {K : PySem.W.Frag} {C : Addr} {Γ : List Sl} {nx bk ct : List Sl → Prop} {rt : Dt → Prop} {t u : TS}
theorem do_tg {te : TE} {g : TG} {d : Dt} {Γ' : List Sl} (h : EvD K C te Γ d) (hg : TgD K C g d Γ Γ') (hn : nx Γ') : Do K C (tAsg te g) Γ nx rt bk ct := fun B0 H0 B H σ P E D n r b c =>
  h H0 B H σ E _ fun v B1 H1 P1 k1 => hg H0 B1 H1 σ v (E.post P1) k1 _ fun σ' E' => n _ B1 H1 σ' hn P1.bb (P.trans P1) E'
theorem do_tgc {te : TE} {g : TG} {d : Dt} {Γ' : List Sl} (h : EvD K C te Γ d) (hg : TgD K C g d Γ Γ') (k : Do K C u Γ' nx rt bk ct) : Do K C (tSeq (tAsg te g) u) Γ nx rt bk ct := do_seq (· = Γ') (do_tg h hg rfl) fun _ e => by rw [e]; exact k
theorem do_for {wi : TI} {g : TG} {tb : TS} {ds : List Dt} {I : List Sl → Prop} (Inv : Nat → List Sl → Prop) (hi : EvI K C wi Γ ds I) (h0 : Inv 0 Γ) (hI : ∀ i Γ', Inv i Γ' → I Γ')
    (step : ∀ i d Γ', ds[i]? = some d → Inv i Γ' → ∃ Γ2, TgD K C g d Γ' Γ2 ∧ Do K C tb Γ2 (Inv (i + 1)) rt nx (Inv (i + 1))) (fin : ∀ Γ', Inv ds.length Γ' → nx Γ') : Do K C (tFor wi g tb) Γ nx rt bk ct := fun B0 H0 B H σ P E D n r b c =>
  hi H0 B H σ E _ fun J B1 H1 P1 ok => ⟨fun i m σ H => i + m = ds.length ∧ ∃ B2 Γ2, Sub B1 B2 ∧ Inv i Γ2 ∧ Post B0 H0 B2 H ∧ Env K C H0 B2 H σ Γ2, ⟨ds.length, by omega, B1, Γ, fun _ _ e => e, h0, P.trans P1, E.post P1⟩, fun i m σ2 H2 ⟨hm, B2, Γ2, s2, hinv, P2, E2⟩ => by
    obtain ⟨st, go⟩ := ok B2 H2 σ2 Γ2 s2 E2 (hI i Γ2 hinv) i
    by_cases h : ds.length ≤ i
    · refine .inl ⟨st h, n Γ2 B2 H2 σ2 (fin Γ2 ?_) (P1.bb.tr s2) P2 E2⟩
      rw [show ds.length = i by omega]; exact hinv
    · obtain ⟨d, hd⟩ := get_lt (show i < ds.length by omega)
      refine .inr ⟨(go d hd).1, fun σ' H' => (i + 1) + (m - 1) = ds.length ∧ ∃ B2 Γ2, Sub B1 B2 ∧ Inv (i + 1) Γ2 ∧ Post B0 H0 B2 H' ∧ Env K C H0 B2 H' σ' Γ2, fun σ' H' w => ⟨m - 1, by omega, w⟩, fun x H' hy => ?_⟩
      obtain ⟨B', P', k⟩ := (go d hd).2 x H' hy
      obtain ⟨Γ3, tg, dd⟩ := step i d Γ2 hd hinv
      refine tg H0 B' H' σ2 x (E2.post P') k _ fun σ3 E3 => dd B0 H0 B' H' σ3 (P2.trans P') E3 _ (fun Γ4 B4 H4 σ4 w4 s4 P4 E4 => ?_) r (fun Γ4 B4 H4 σ4 w4 s4 P4 E4 => ?_) (fun Γ4 B4 H4 σ4 w4 s4 P4 E4 => ?_)
      · exact ⟨by omega, B4, Γ4, s2.tr (P'.bb.tr s4), w4, P4, E4⟩
      · exact n Γ4 B4 H4 σ4 w4 (P1.bb.tr (s2.tr (P'.bb.tr s4))) P4 E4
      · exact ⟨by omega, B4, Γ4, s2.tr (P'.bb.tr s4), w4, P4, E4⟩⟩
/-- over 0 .. n - 1 (or any row of ints) -/
theorem do_forR {wi : TI} {k n : Nat} {f : Nat → Int} {tb : TS} (Inv : Nat → List Sl → Prop) (hi : EvI K C wi Γ (upto n f) (fun _ => True)) (h0 : Inv 0 Γ)
    (step : ∀ i Γ', i < n → Inv i Γ' → Do K C tb (Γ'.set k (.da (.int (f i)))) (Inv (i + 1)) rt nx (Inv (i + 1))) (fin : ∀ Γ', Inv n Γ' → nx Γ') : Do K C (tFor wi (gName k) tb) Γ nx rt bk ct :=
  do_for Inv hi h0 (fun _ _ _ => trivial) (fun i d Γ' hd hv => by
    obtain ⟨h1, rfl⟩ := upto_at hd
    exact ⟨_, tg_name, step i Γ' h1 hv⟩) fun Γ' hv => fin Γ' (by rw [upto_len] at hv; exact hv)
theorem do_while {c : TT} {tb : TS} (Inv : Nat → List Sl → Prop) (h0 : ∃ m, Inv m Γ) (step : ∀ m Γ', Inv m Γ' → ∃ b, EvT K C c Γ' b ∧ (b = true → Do K C tb Γ' (fun Γ2 => ∃ m', m' < m ∧ Inv m' Γ2) rt nx (fun Γ2 => ∃ m', m' < m ∧ Inv m' Γ2)) ∧ (b = false → nx Γ')) : Do K C (tWhile c tb) Γ nx rt bk ct := fun B0 H0 B H σ P E D n r b c => by
  obtain ⟨m0, h0⟩ := h0
  refine ⟨fun m σ H => ∃ B2 Γ2, Sub B B2 ∧ Inv m Γ2 ∧ Post B0 H0 B2 H ∧ Env K C H0 B2 H σ Γ2, ⟨m0, B, Γ, fun _ _ e => e, h0, P, E⟩, fun m σ2 H2 ⟨B2, Γ2, s2, hinv, P2, E2⟩ => ?_⟩
  obtain ⟨bb, ht, h1, h2⟩ := step m Γ2 hinv
  refine ht H0 B2 H2 σ2 E2 _ fun B3 H3 P3 => ?_
  cases bb with
  | true =>
    refine ⟨fun σ' H' => ∃ m', m' < m ∧ ∃ B2 Γ2, Sub B B2 ∧ Inv m' Γ2 ∧ Post B0 H0 B2 H' ∧ Env K C H0 B2 H' σ' Γ2, fun σ' H' w => w, h1 rfl B0 H0 B3 H3 σ2 (P2.trans P3) (E2.post P3) _ (fun Γ4 B4 H4 σ4 w4 s4 P4 E4 => ?_) r (fun Γ4 B4 H4 σ4 w4 s4 P4 E4 => ?_) (fun Γ4 B4 H4 σ4 w4 s4 P4 E4 => ?_)⟩
    · obtain ⟨m', hm, w4⟩ := w4
      exact ⟨m', hm, B4, Γ4, s2.tr (P3.bb.tr s4), w4, P4, E4⟩
    · exact n Γ4 B4 H4 σ4 w4 (s2.tr (P3.bb.tr s4)) P4 E4
    · obtain ⟨m', hm, w4⟩ := w4
      exact ⟨m', hm, B4, Γ4, s2.tr (P3.bb.tr s4), w4, P4, E4⟩
  | false => exact n Γ2 B3 H3 σ2 (h2 rfl) (s2.tr P3.bb) (P2.trans P3) (E2.post P3)
end
/-! ### comprehensions -/
section
variable {K : PySem.W.Frag} {C : Addr} {Γ : List Sl}
theorem line40 : 40000 < sizeLine := by decide
/-- where the new object p of a comprehension stands between two turns -/
structure Mid (H0 B H B1 B2 H2 : Hp) (σ : L2.St) (p : Addr) (Γ : List Sl) : Prop where
  s : Sub B1 B2
  P : Post B H B2 H2
  E : Env K C H0 B2 H2 σ Γ
  n : B2 p = none
theorem Mid.wr {H0 B H B1 B2 H2 B3 H3 : Hp} {σ : L2.St} {p : Addr} {Γ : List Sl} (m : Mid (K := K) (C := C) H0 B H B1 B2 H2 σ p Γ) (hn : H p = none) (no : ∀ (i : Nat) (g : Sl), Γ[i]? = some g → ¬ g.has p) (hp : H2 p ≠ none) (P3 : Post B2 H2 B3 H3) (o : HO) :
    Mid (K := K) (C := C) H0 B H B1 B3 (upd H3 p o) σ p Γ := by
  have n3 : B3 p = none := by rw [P3.fr p hp]; exact m.n
  exact ⟨m.s.tr P3.bb, (m.P.trans P3).mut hn n3, (m.E.post P3).mut n3 no, n3⟩
theorem Mid.go {H0 B H B1 B2 H2 B3 H3 : Hp} {σ : L2.St} {p : Addr} {Γ : List Sl} (m : Mid (K := K) (C := C) H0 B H B1 B2 H2 σ p Γ) (hp : H2 p ≠ none) (P3 : Post B2 H2 B3 H3) : Mid (K := K) (C := C) H0 B H B1 B3 H3 σ p Γ :=
  ⟨m.s.tr P3.bb, m.P.trans P3, m.E.post P3, by rw [P3.fr p hp]; exact m.n⟩
theorem en_lc {wi : TI} {g : TG} {tt : TT} {te : TE} {vs : List Nat} {ds : List Dt} {I : List Sl → Prop} (out : Nat → List Dt) (hi : EvI K C wi Γ ds I) (hI : I Γ) (hz : ds.length ≤ 40000) (h0 : out 0 = [])
    (step : ∀ i d, ds[i]? = some d → ∃ Γ2 b, TgC K C vs g d (wipeG Γ vs) Γ2 ∧ EvT K C tt Γ2 b ∧ (b = true → ∃ e, EvD K C te Γ2 e ∧ out (i + 1) = out i ++ [e]) ∧ (b = false → out (i + 1) = out i)) : EvN K C (tLc wi g tt te vs) Γ (out ds.length) := fun H0 B H σ E Q q =>
  hi H0 B H σ E _ fun J B1 H1 P1 ok p np => by
    have hnp : H p = none := fresh_of P1 np
    have no := (E.post P1).unowned np
    have hlen : ∀ i, i ≤ ds.length → (out i).length ≤ i := fun i => by
      induction i with
      | zero => intro _; rw [h0]; simp
      | succ i ih =>
        intro hl
        obtain ⟨d, hd⟩ := get_lt (show i < ds.length by omega)
        obtain ⟨_, b, _, _, s1, s2⟩ := step i d hd
        have := ih (by omega)
        cases b with
        | true => obtain ⟨e, _, z⟩ := s1 rfl; rw [z, List.length_append]; simp; omega
        | false => rw [s2 rfl]; omega
    have start : Mid (K := K) (C := C) H0 B H B1 B1 (upd H1 p (.lst [])) σ p Γ := by
      have P2 := Post.own (o := .lst []) P1.sub np
      exact ⟨fun _ _ e => e, P1.trans P2, (E.post P1).post P2, sub_none P1.sub np⟩
    refine ⟨fun i m H2 => i + m = ds.length ∧ ∃ B2 acc, Mid (K := K) (C := C) H0 B H B1 B2 H2 σ p Γ ∧ H2 p = some (.lst acc) ∧ Iss K C B2 acc (out i), ⟨ds.length, by omega, B1, [], start, upd_same, by rw [h0]; exact .nil⟩, fun i m H2 ⟨hm, B2, acc, M, hp, ka⟩ => ?_⟩
    obtain ⟨st, go⟩ := ok B2 H2 σ Γ M.s M.E hI i
    by_cases h : ds.length ≤ i
    · refine .inl ⟨st h, q p acc B2 H2 M.P hnp M.n hp ?_⟩
      rw [show ds.length = i by omega]; exact ka
    · obtain ⟨d, hd⟩ := get_lt (show i < ds.length by omega)
      refine .inr ⟨(go d hd).1, fun H' => (i + 1) + (m - 1) = ds.length ∧ ∃ B2 acc, Mid (K := K) (C := C) H0 B H B1 B2 H' σ p Γ ∧ H' p = some (.lst acc) ∧ Iss K C B2 acc (out (i + 1)), fun H' w => ⟨m - 1, by omega, w⟩, fun x H' hy => ?_⟩
      obtain ⟨B', P', k⟩ := (go d hd).2 x H' hy
      obtain ⟨Γ2, b, tg, ht, s1, s2⟩ := step i d hd
      have M' := M.go (ne_none hp) P'
      have hp' : H' p = some (.lst acc) := P'.hh _ _ hp
      refine tg H0 B' H' (L2.wipe σ vs) x (M'.E.wipe vs) k _ fun σ3 hw E3 => ⟨hw.trans (wipe_wipe σ vs), ht H0 B' H' σ3 E3 _ fun B4 H4 P4 => ?_⟩
      have M4 := M'.go (ne_none hp') P4
      have hp4 : H4 p = some (.lst acc) := P4.hh _ _ hp'
      have ka4 := ka.mono (P'.bb.tr P4.bb)
      cases b with
      | true =>
        obtain ⟨e, he, z⟩ := s1 rfl
        refine he H0 B4 H4 σ3 (E3.post P4) _ fun y B5 H5 P5 ky => ⟨acc, P5.hh _ _ hp4, ?_, ?_⟩
        · have := hlen i (by omega)
          rw [ka.len]
          have := line40
          omega
        · refine ⟨by omega, B5, acc ++ [y], M4.wr hnp no (ne_none hp4) P5 _, upd_same, ?_⟩
          rw [z]; exact (ka4.mono P5.bb).snoc ky
      | false =>
        refine ⟨by omega, B4, acc, M4, hp4, ?_⟩
        rw [s2 rfl]; exact ka4
theorem et_yes : EvT K C tYes Γ true := fun H0 B H σ E Q q => q B H (.refl E.sub)
/-- without tests -/
theorem en_lcS {wi : TI} {g : TG} {te : TE} {vs : List Nat} {ds es : List Dt} {I : List Sl → Prop} (hi : EvI K C wi Γ ds I) (hI : I Γ) (hz : ds.length ≤ 40000) (hl : es.length = ds.length)
    (step : ∀ (i : Nat) (d e : Dt), ds[i]? = some d → es[i]? = some e → ∃ Γ2, TgC K C vs g d (wipeG Γ vs) Γ2 ∧ EvD K C te Γ2 e) : EvN K C (tLc wi g tYes te vs) Γ es := by
  have h := en_lc (te := te) (tt := tYes) (g := g) (vs := vs) (fun i => es.take i) hi hI hz rfl fun i d hd => by
    obtain ⟨e, he⟩ := get_lt (show i < es.length by rw [hl]; exact get_le hd)
    obtain ⟨Γ2, tg, ev⟩ := step i d e hd he
    refine ⟨Γ2, true, tg, et_yes, fun _ => ⟨e, ev, ?_⟩, fun z => nomatch z⟩
    show es.take (i + 1) = es.take i ++ [e]
    rw [List.take_succ, he]; rfl
  have e : es.take ds.length = es := by rw [← hl, List.take_length]
  rw [← e]; exact h
/-- over a row of ints -/
theorem en_lcR {wi : TI} {te : TE} {k n : Nat} {f : Nat → Int} {es : List Dt} (hi : EvI K C wi Γ (upto n f) (fun _ => True)) (hz : n ≤ 40000) (hl : es.length = n)
    (step : ∀ (i : Nat) (e : Dt), i < n → es[i]? = some e → EvD K C te ((Γ.set k .un).set k (.da (.int (f i)))) e) : EvN K C (tLc wi (gName k) tYes te [k]) Γ es :=
  en_lcS hi trivial (by rw [upto_len]; exact hz) (by rw [upto_len]; exact hl) fun i d e hd he => by
    obtain ⟨h1, rfl⟩ := upto_at hd
    exact ⟨_, tgc_name (by simp), step i e h1 he⟩
end
end WD
set_option Elab.async false
set_option linter.all false
set_option maxRecDepth 100000
/-! WE: what the rules for lists, tuples, dicts, comparisons do to data -/
namespace WE
open PySem PySem.Spec PyProof.Rows L2 WA WD
section
variable {K : PySem.W.Frag} {C : Addr} {Γ : List Sl} {nx bk ct : List Sl → Prop} {rt : Dt → Prop} {t u : TS}
/-! ### len, tuple(..), list(..), sum, sorted -/
abbrev rLn (K : PySem.W.Frag) : List V → Hp → VK → Prop := fun xs H Q => ∃ p ys, xs = [.ref p] ∧ (SqL K H p ys ∨ SqT K H p ys) ∧ Q (.int ys.length) H
abbrev rLs (K : PySem.W.Frag) : List V → Hp → VK → Prop := fun xs H Q => ∃ p ys, xs = [.ref p] ∧ (SqL K H p ys ∨ SqT K H p ys) ∧ ∀ l, H l = none → Q (.ref l) (upd H l (.lst ys))
abbrev rTp (K : PySem.W.Frag) : List V → Hp → VK → Prop := fun xs H Q => ∃ p ys, xs = [.ref p] ∧ ((SqL K H p ys ∧ ∀ l, H l = none → Q (.ref l) (upd H l (.tup ys))) ∨ (SqT K H p ys ∧ Q (.ref p) H))
theorem iss1 {H : Hp} {vs : List V} {d : Dt} (k : Iss K C H vs [d]) : ∃ v, vs = [v] ∧ Is K C H v d := by
  cases k with
  | cons k1 k => cases k; exact ⟨_, rfl, k1⟩
theorem iss2 {H : Hp} {vs : List V} {d e : Dt} (k : Iss K C H vs [d, e]) : ∃ v w, vs = [v, w] ∧ Is K C H v d ∧ Is K C H w e := by
  cases k with
  | cons k1 k =>
    obtain ⟨w, rfl, k2⟩ := iss1 k
    exact ⟨_, _, rfl, k1, k2⟩
theorem rc_lenT {ds : List Dt} : RC K C (rLn K) [.tup ds] (.int (ds.length : Int)) := fun B H vs s k Q q => by
  obtain ⟨v, rfl, k1⟩ := iss1 k
  obtain ⟨a, ws, rfl, e, k⟩ := is_tup k1
  exact ⟨a, ws, rfl, .inr (rd_tup (s _ _ e)), by rw [k.len]; exact q _ B H (.refl s) (.int _)⟩
theorem rc_lenR {x : Rat} : RC K C (rLn K) [.rat x] (.int 2) := fun B H vs s k Q q => by
  obtain ⟨v, rfl, k1⟩ := iss1 k
  cases k1 with
  | rat e => exact ⟨_, _, rfl, .inr (sqt_mono s e), q _ B H (.refl s) (.int _)⟩
theorem rc_lenS {ns : List Int} : RC K C (rLn K) [.scr ns] (.int (ns.length : Int)) := fun B H vs s k Q q => by
  obtain ⟨v, rfl, k1⟩ := iss1 k
  cases k1 with
  | scr e => exact ⟨_, _, rfl, .inl (sql_mono s e), by rw [List.length_map]; exact q _ B H (.refl s) (.int _)⟩
theorem rcl_len {ds : List Dt} : RCL K C (rLn K) ds (.int (ds.length : Int)) := fun B H a vs s e k Q q => ⟨a, vs, rfl, .inl (rd_lst e), by rw [k.len]; exact q _ B H (.refl s) (.int _)⟩
theorem ed_lenT {te : TE} {ds : List Dt} (h : EvD K C te Γ (.tup ds)) : EvD K C (tCB (rLn K) (tCons te tNil)) Γ (.int (ds.length : Int)) := ed_cb (ea_1 h) rc_lenT
theorem ed_lenL {te : TE} {ds : List Dt} (h : EvL K C te Γ ds) : EvD K C (tCB (rLn K) (tCons te tNil)) Γ (.int (ds.length : Int)) := ed_cbL h rcl_len
theorem rcn_list {ds : List Dt} : RCN K C (rLs K) [.tup ds] ds := fun B H vs s k Q q => by
  obtain ⟨v, rfl, k1⟩ := iss1 k
  obtain ⟨a, ws, rfl, e, k⟩ := is_tup k1
  exact ⟨a, ws, rfl, .inr (rd_tup (s _ _ e)), fun l n => q l ws B _ (Post.own s n) n (sub_none s n) upd_same k⟩
theorem rcln_list {ds : List Dt} : RCLN K C (rLs K) ds ds := fun B H a vs s e k Q q => ⟨a, vs, rfl, .inl (rd_lst e), fun l n => q l vs B _ (Post.own s n) n (sub_none s n) upd_same k⟩
theorem rcl_tuple {ds : List Dt} : RCL K C (rTp K) ds (.tup ds) := fun B H a vs s e k Q q => ⟨a, vs, rfl, .inl ⟨rd_lst e, fun l n => by
  have P := Post.new (o := .tup vs) s n
  exact q _ _ _ P (.tup upd_same (k.mono P.bb))⟩⟩
theorem rc_tupT {ds : List Dt} : RC K C (rTp K) [.tup ds] (.tup ds) := fun B H vs s k Q q => by
  obtain ⟨v, rfl, k1⟩ := iss1 k
  obtain ⟨a, ws, rfl, e, k⟩ := is_tup k1
  exact ⟨a, ws, rfl, .inr ⟨rd_tup (s _ _ e), q _ B H (.refl s) (.tup e k)⟩⟩
theorem ed_tupL {te : TE} {ds : List Dt} (h : EvL K C te Γ ds) : EvD K C (tCB (rTp K) (tCons te tNil)) Γ (.tup ds) := ed_cbL h rcl_tuple
theorem ed_tupT {te : TE} {ds : List Dt} (h : EvD K C te Γ (.tup ds)) : EvD K C (tCB (rTp K) (tCons te tNil)) Γ (.tup ds) := ed_cb (ea_1 h) rc_tupT
theorem en_listT {te : TE} {ds : List Dt} (h : EvD K C te Γ (.tup ds)) : EvN K C (tCB (rLs K) (tCons te tNil)) Γ ds := en_cb (ea_1 h) rcn_list
theorem en_listL {te : TE} {ds : List Dt} (h : EvL K C te Γ ds) : EvN K C (tCB (rLs K) (tCons te tNil)) Γ ds := en_cbL h rcln_list
theorem rcl_sum {ns : List Int} : RCL K C (rSum K) (ns.map Dt.int) (.int ns.sum) := fun B H a vs s e k Q q => by
  obtain rfl := k.ints
  exact ⟨a, ns, rfl, rd_lst e, q _ B H (.refl s) (.int _)⟩
theorem sorted_unique {a b : List Int} (p : a.Perm b) (ha : a.Pairwise (· ≤ ·)) (hb : b.Pairwise (· ≤ ·)) : a = b := p.eq_of_pairwise (le := (· ≤ ·)) (fun x y _ _ h1 h2 => Int.le_antisymm h1 h2) ha hb
theorem rcln_sorted {ns ms : List Int} (p : ms.Perm ns) (hs : ms.Pairwise (· ≤ ·)) : RCLN K C (rSortedI K) (ns.map Dt.int) (ms.map Dt.int) := fun B H a vs s e k Q q => by
  obtain rfl := k.ints
  refine ⟨a, ns, rfl, rd_lst e, fun ns' l p' hs' n => ?_⟩
  obtain rfl : ns' = ms := sorted_unique (p'.trans p.symm) hs' hs
  exact q l _ B _ (Post.own s n) n (sub_none s n) upd_same (Iss.of_ints _)
/-! ### indexing -/
theorem rl_last {ds : List Dt} {d : Dt} (h : ds[ds.length - 1]? = some d) : RL K C (rIxL K) ds (.int (-1)) d := fun B H a vs u s e k1 k2 Q q => by
  cases k2
  obtain ⟨w, e2, k3⟩ := k1.get h
  have hp : 0 < vs.length := by rw [k1.len]; have := get_le h; omega
  refine ⟨_, _, _, w, rfl, rfl, rd_lst e, ?_, q w B H (.refl s) k3⟩
  have hx : ixN vs.length (-1) = some (vs.length - 1) := by
    unfold ixN
    rw [if_neg (by omega), if_pos (by omega)]
    congr 1; omega
  unfold atI
  rw [hx]
  show vs[vs.length - 1]? = some w
  rw [k1.len]; exact e2
theorem rd_ixS {ns : List Int} {i : Nat} {n : Int} (h : ns[i]? = some n) : RD K C (rIxL K) (.scr ns) (.int (i : Int)) (.int n) := fun B H v u s k1 k2 Q q => by
  cases k1 with
  | scr e =>
    cases k2
    exact ⟨_, _, _, _, rfl, rfl, sql_mono s e, atI_nat (by rw [List.getElem?_map, h]; rfl), q _ B H (.refl s) (.int _)⟩
theorem rd_ixL {ds : List Dt} {i : Nat} {d : Dt} (h : ds[i]? = some d) : RD K C (rIxL K) (.lst ds) (.int (i : Int)) d := fun B H v u s k1 k2 Q q => by
  obtain ⟨a, vs, rfl, e, k⟩ := is_lst k1
  exact rl_ix h B H a vs u s (s _ _ e) k k2 Q q
theorem ed_ixT {ta tb : TE} {ds : List Dt} {i : Nat} {d : Dt} (h : EvD K C ta Γ (.tup ds)) (k : EvD K C tb Γ (.int (i : Int))) (e : ds[i]? = some d) : EvD K C (tOp (rIxT K) ta tb) Γ d := ed_op h k (rd_ixT e)
theorem ed_ixL {ta tb : TE} {ds : List Dt} {i : Nat} {d : Dt} (h : EvL K C ta Γ ds) (k : EvD K C tb Γ (.int (i : Int))) (e : ds[i]? = some d) : EvD K C (tOp (rIxL K) ta tb) Γ d := ed_opL h k (rl_ix e)
/-! ### + and * of lists and tuples, slices -/
theorem en_cat {ta tb : TE} {as bs : List Dt} (h : EvL K C ta Γ as) (k : EvL K C tb Γ bs) (hl : as.length + bs.length ≤ sizeLine) : EvN K C (tOp rCat ta tb) Γ (as ++ bs) := fun H0 B H σ E Q q =>
  h H0 B H σ E _ fun a vs B1 H1 P1 e1 k1 => k H0 B1 H1 σ (E.post P1) _ fun b ws B2 H2 P2 e2 k2 => by
    have k1' := k1.mono P2.bb
    refine ⟨a, b, vs, ws, rfl, rfl, P2.hh _ _ e1, e2, by rw [k1.len, k2.len]; exact hl, fun p n => ?_⟩
    exact q p _ B2 _ ((P1.trans P2).trans (Post.own P2.sub n)) (fresh_of (P1.trans P2) n) (sub_none P2.sub n) upd_same (k1'.app k2)
theorem iss_rep {H : Hp} {vs : List V} {ds : List Dt} (k : Iss K C H vs ds) : ∀ n : Nat, Iss K C H (List.replicate n vs).flatten (List.replicate n ds).flatten
  | 0 => .nil
  | n + 1 => by rw [List.replicate_succ, List.replicate_succ, List.flatten_cons, List.flatten_cons]; exact k.app (iss_rep k n)
theorem en_rep {ta tb : TE} {d : Dt} {n : Nat} (h : EvL K C ta Γ [d]) (k : EvD K C tb Γ (.int (n : Int))) (hn : n ≤ 40000) : EvN K C (tOp rRep ta tb) Γ (List.replicate n d) := fun H0 B H σ E Q q =>
  h H0 B H σ E _ fun a vs B1 H1 P1 e1 k1 => k H0 B1 H1 σ (E.post P1) _ fun v B2 H2 P2 k2 => by
    cases k2
    obtain ⟨w, rfl, kw⟩ := iss1 k1
    have hs := line40
    refine ⟨a, _, _, rfl, rfl, P2.hh _ _ e1, by omega, by omega, by rw [Int.toNat_natCast]; simp; omega, fun p np => ?_⟩
    refine q p _ B2 _ ((P1.trans P2).trans (Post.own P2.sub np)) (fresh_of (P1.trans P2) np) (sub_none P2.sub np) upd_same ?_
    have z := iss_rep (Iss.one (kw.mono P2.bb)) n
    rw [Int.toNat_natCast, ← List.flatten_replicate_singleton (n := n) (a := d)]
    exact z
/-- the items of ds from lo to hi -/
def cut (ds : List Dt) (lo hi : Nat) : List Dt := (ds.drop lo).take (hi - lo)
theorem iss_cut {H : Hp} {vs : List V} {ds : List Dt} (k : Iss K C H vs ds) (lo hi : Nat) : Iss K C H ((vs.drop lo).take (hi - lo)) (cut ds lo hi) := (k.drop lo).take _
/-- a part of a slice: n where it is left out, else a whole number -/
def Part (K : PySem.W.Frag) (C : Addr) (tp : TO) (Γ : List Sl) (o : Option Int) : Prop := ∀ (H0 B H : Hp) (σ : L2.St), Env K C H0 B H σ Γ → ∀ Q : Option Int → Hp → Prop, (∀ B' H', Post B H B' H' → Q o H') → tp σ H Q
theorem pa_no : Part K C tNoPart Γ none := fun H0 B H σ E Q q => q B H (.refl E.sub)
theorem pa_at {te : TE} {i : Int} (h : EvD K C te Γ (.int i)) : Part K C (tPart te) Γ (some i) := fun H0 B H σ E Q q => h H0 B H σ E _ fun v B1 H1 P1 k => by
  cases k
  exact ⟨i, rfl, q B1 H1 P1⟩
theorem cutV_eq {vs : List V} {lo hi : Option Int} {a b : Nat} (ha : HT.sIx vs.length 0 lo = a) (hb : HT.sIx vs.length vs.length hi = b) : cutV vs lo hi = (vs.drop a).take (b - a) := by
  unfold cutV; rw [ha, hb]
theorem en_sl {te : TE} {tl th : TO} {ds : List Dt} {lo hi : Option Int} {a b : Nat} (h : EvL K C te Γ ds) (hl : Part K C tl Γ lo) (hh : Part K C th Γ hi) (ha : HT.sIx ds.length 0 lo = a) (hb : HT.sIx ds.length ds.length hi = b) : EvN K C (tSl (rSlL K) te tl th) Γ (cut ds a b) := fun H0 B H σ E Q q =>
  h H0 B H σ E _ fun p vs B1 H1 P1 e1 k1 => hl H0 B1 H1 σ (E.post P1) _ fun B2 H2 P2 => hh H0 B2 H2 σ ((E.post P1).post P2) _ fun B3 H3 P3 => by
    refine ⟨p, vs, rfl, rd_lst (P3.hh _ _ (P2.hh _ _ e1)), fun l n => ?_⟩
    rw [cutV_eq (a := a) (b := b) (by rw [k1.len]; exact ha) (by rw [k1.len]; exact hb)]
    exact q l _ B3 _ (((P1.trans P2).trans P3).trans (Post.own P3.sub n)) (fresh_of ((P1.trans P2).trans P3) n) (sub_none P3.sub n) upd_same (iss_cut (k1.mono (P2.bb.tr P3.bb)) a b)
theorem ed_slT {te : TE} {tl th : TO} {ds : List Dt} {lo hi : Option Int} {a b : Nat} (h : EvD K C te Γ (.tup ds)) (hl : Part K C tl Γ lo) (hh : Part K C th Γ hi) (ha : HT.sIx ds.length 0 lo = a) (hb : HT.sIx ds.length ds.length hi = b) : EvD K C (tSl (rSlA K) te tl th) Γ (.tup (cut ds a b)) := fun H0 B H σ E Q q =>
  h H0 B H σ E _ fun v B1 H1 P1 k1 => hl H0 B1 H1 σ (E.post P1) _ fun B2 H2 P2 => hh H0 B2 H2 σ ((E.post P1).post P2) _ fun B3 H3 P3 => by
    obtain ⟨p, vs, rfl, e1, k1⟩ := is_tup k1
    have e3 := P3.bb _ _ (P2.bb _ _ e1)
    have k3 := k1.mono (P2.bb.tr P3.bb)
    refine ⟨p, vs, rfl, rd_tup (P3.sub _ _ e3), fun hw => ?_, fun _ l n => ?_⟩
    · refine q _ B3 H3 ((P1.trans P2).trans P3) (.tup e3 ?_)
      rw [k1.len] at hw
      have h0 : a = 0 := by rw [← ha]; exact hw.1
      have h1 : b = ds.length := by rw [← hb]; exact hw.2
      have : cut ds a b = ds := by unfold cut; rw [h0, h1]; simp
      rw [this]; exact k3
    · rw [cutV_eq (a := a) (b := b) (by rw [k1.len]; exact ha) (by rw [k1.len]; exact hb)]
      have P4 := Post.new (o := .tup ((vs.drop a).take (b - a))) P3.sub n
      exact q _ _ _ (((P1.trans P2).trans P3).trans P4) (.tup upd_same ((iss_cut k3 a b).mono P4.bb))
theorem ed_catT {ta tb : TE} {as bs : List Dt} (h : EvD K C ta Γ (.tup as)) (k : EvD K C tb Γ (.tup bs)) (hl : as.length + bs.length ≤ sizeLine) : EvD K C (tOp (rCatA K) ta tb) Γ (.tup (as ++ bs)) := fun H0 B H σ E Q q =>
  h H0 B H σ E _ fun v B1 H1 P1 k1 => k H0 B1 H1 σ (E.post P1) _ fun w B2 H2 P2 k2 => by
    obtain ⟨a, vs, rfl, e1, k1⟩ := is_tup k1
    obtain ⟨b, ws, rfl, e2, k2⟩ := is_tup k2
    have k1' := k1.mono P2.bb
    have e1' := P2.bb _ _ e1
    refine ⟨a, b, vs, ws, rfl, rfl, rd_tup (P2.sub _ _ e1'), rd_tup (P2.sub _ _ e2), by rw [k1.len, k2.len]; exact hl, fun z => ?_, fun _ z => ?_, fun _ _ p n => ?_⟩
    · subst z
      cases k1'
      exact q _ B2 H2 (P1.trans P2) (.tup e2 k2)
    · subst z
      cases k2
      exact q _ B2 H2 (P1.trans P2) (by rw [List.append_nil]; exact .tup e1' k1')
    · have P3 := Post.new (o := .tup (vs ++ ws)) P2.sub n
      exact q _ _ _ ((P1.trans P2).trans P3) (.tup upd_same ((k1'.app k2).mono P3.bb))
/-! ### writing own lists -/
theorem do_append {te : TE} {i : Nat} {a : Addr} {ds : List Dt} {d : Dt} (h : Γ[i]? = some (.ow a ds)) (k : EvD K C te Γ d) (hz : ds.length < 40000) (hn : nx (Γ.set i (.ow a (ds ++ [d])))) : Do K C (tDrop (tBM K "list" rAppend (tVar i) (tCons te tNil))) Γ nx rt bk ct := fun B0 H0 B H σ P E D n r b c => by
  obtain ⟨e1, eB, e0, vs, e2, kv⟩ := E.ow h
  refine ⟨.ref a, e1, .inl ⟨rfl, vs, rd_lst e2⟩, k H0 B H σ E _ fun v B1 H1 P1 kd => ?_⟩
  have E1 := E.post P1
  obtain ⟨_, eB1, _, ws, e3, kw⟩ := E1.ow h
  obtain rfl : ws = vs := by
    have := P1.hh _ _ e2
    rw [e3] at this
    exact HO.lst.inj (Option.some.inj this)
  have hs := line40
  refine ⟨a, ws, v, rfl, rfl, e3, by rw [kw.len]; omega, ?_⟩
  exact n _ B1 _ σ hn P1.bb ((P.trans P1).mut e0 eB1) (E1.write h (kw.snoc kd))
/-- .. of one of a list of own lists -/
theorem do_appendO {te ti : TE} {i : Nat} {j : Nat} {a : Addr} {bs : List Addr} {dss : List (List Dt)} {ds : List Dt} {d : Dt} (h : Γ[i]? = some (.oo a bs dss)) (hi : EvD K C ti Γ (.int (j : Int))) (hj : dss[j]? = some ds) (k : EvD K C te Γ d) (hz : ds.length < 40000)
    (hn : nx (Γ.set i (.oo a bs (dss.set j (ds ++ [d]))))) : Do K C (tDrop (tBM K "list" rAppend (tOp (rIxL K) (tVar i) ti) (tCons te tNil))) Γ nx rt bk ct := fun B0 H0 B H σ P E D n r b c => by
  obtain ⟨e1, _⟩ := E.oo h
  refine ⟨.ref a, e1, hi H0 B H σ E _ fun w B1 H1 P1 kw => ?_⟩
  cases kw
  have E1 := E.post P1
  obtain ⟨f1, f2, fn, fl, fo⟩ := E1.oo h
  obtain ⟨x, hx⟩ := at_of fl.symm hj
  obtain ⟨g1, g2, vs, g3, g4⟩ := fo j x ds hx hj
  refine ⟨a, bs.map V.ref, (j : Int), .ref x, rfl, rfl, rd_lst (E1.sub _ _ f2), atI_nat (by rw [List.getElem?_map, hx]; rfl), .inl ⟨rfl, vs, rd_lst g3⟩, k H0 B1 H1 σ E1 _ fun v B2 H2 P2 kd => ?_⟩
  have E2 := E1.post P2
  obtain ⟨_, _, _, _, fo2⟩ := E2.oo h
  obtain ⟨m1, m2, us, m3, m4⟩ := fo2 j x ds hx hj
  have hs := line40
  refine ⟨x, us, v, rfl, rfl, m3, by rw [m4.len]; omega, ?_⟩
  exact n _ B2 _ σ hn (P1.bb.tr P2.bb) (((P.trans P1).trans P2).mut m2 m1) (E2.writeO h hx (m4.snoc kd))
theorem ixN_nat {n j : Nat} (h : j < n) : ixN n (j : Int) = some j := by
  unfold ixN
  rw [if_pos (by omega), if_pos (by omega)]; simp
theorem do_setAt {te ti : TE} {i j : Nat} {a : Addr} {ds : List Dt} {d : Dt} (h : Γ[i]? = some (.ow a ds)) (k : EvD K C te Γ d) (hi : EvD K C ti Γ (.int (j : Int))) (hj : j < ds.length) (hn : nx (Γ.set i (.ow a (ds.set j d)))) : Do K C (tAsg te (gSub (tVar i) ti rSetL)) Γ nx rt bk ct := fun B0 H0 B H σ P E D n r b c =>
  k H0 B H σ E _ fun v B1 H1 P1 kd => by
    have E1 := E.post P1
    obtain ⟨e1, _, _, _⟩ := E1.ow h
    refine ⟨.ref a, e1, hi H0 B1 H1 σ E1 _ fun w B2 H2 P2 kw => ?_⟩
    cases kw
    have E2 := E1.post P2
    obtain ⟨_, eB, e0, vs, e3, kv⟩ := E2.ow h
    refine ⟨a, vs, (j : Int), j, rfl, rfl, e3, ixN_nat (by rw [kv.len]; exact hj), ?_⟩
    exact n _ B2 _ σ hn (P1.bb.tr P2.bb) (((P.trans P1).trans P2).mut e0 eB) (E2.write h (kv.set (kd.mono P2.bb) j))
theorem do_rev {i : Nat} {a : Addr} {ds : List Dt} (h : Γ[i]? = some (.ow a ds)) (hn : nx (Γ.set i (.ow a ds.reverse))) : Do K C (tDrop (tBM0 K "list" rReverse (tVar i))) Γ nx rt bk ct := fun B0 H0 B H σ P E D n r b c => by
  obtain ⟨e1, eB, e0, vs, e2, kv⟩ := E.ow h
  exact ⟨.ref a, e1, .inl ⟨rfl, vs, rd_lst e2⟩, a, vs, rfl, rfl, e2, n _ B _ σ hn (fun _ _ e => e) (P.mut e0 eB) (E.write h kv.rev)⟩
theorem do_aug {te : TE} {i : Nat} {x y : Int} {f : Int → Int → Int} (h : Γ[i]? = some (.da (.int x))) (k : EvD K C te Γ (.int y)) (hn : nx (Γ.set i (.da (.int (f x y))))) : Do K C (tAug i te (ipI f)) Γ nx rt bk ct := fun B0 H0 B H σ P E D n r b c => by
  obtain ⟨v, e, kx⟩ := E.da h
  cases kx
  refine ⟨_, e, k H0 B H σ E _ fun w B1 H1 P1 kw => ?_⟩
  cases kw
  exact ⟨x, y, rfl, rfl, n _ B1 H1 _ hn P1.bb (P.trans P1) ((E.post P1).setD (.int _))⟩
/-! ### == of data -/
def pdr (x : Rat) : PyData := .tuple [.int x.num, .int (x.den : Int)]
theorem is_dp_int {B H : Hp} (s : WA.Sub B H) {v : V} {i : Int} (k : Is K C B v (.int i)) : Dp K H v (.int i) := by
  cases k; exact .int i
theorem is_dp_rat {B H : Hp} (s : WA.Sub B H) {v : V} {x : Rat} (k : Is K C B v (.rat x)) : Dp K H v (pdr x) := by
  cases k with
  | rat e => exact .tup (sqt_mono s e) (.cons (.int _) (.cons (.int _) .nil))
theorem iss_dp {B H : Hp} {α : Type} {f : α → Dt} {g : α → PyData} (h : ∀ (v : V) (a : α), Is K C B v (f a) → Dp K H v (g a)) : ∀ (vs : List V) (l : List α), Iss K C B vs (l.map f) → DpAll K H vs (l.map g)
  | _, [], .nil => .nil
  | _, a :: l, .cons k1 k2 => .cons (h _ _ k1) (iss_dp h _ l k2)
theorem is_dp_tup {B H : Hp} (s : WA.Sub B H) {α : Type} {f : α → Dt} {g : α → PyData} (h : ∀ (v : V) (a : α), Is K C B v (f a) → Dp K H v (g a)) {v : V} {l : List α} (k : Is K C B v (.tup (l.map f))) : Dp K H v (.tuple (l.map g)) := by
  obtain ⟨a, vs, rfl, e, k⟩ := is_tup k
  exact .tup (rd_tup (s _ _ e)) (iss_dp h vs l k)
theorem eqv_pdr (x y : Rat) : PyData.eqv (pdr x) (pdr y) = decide (x = y) := by
  show ((x.num == y.num) && (((x.den : Int) == (y.den : Int)) && true)) = decide (x = y)
  rw [Bool.and_true]
  by_cases h : x = y
  · subst h; simp
  · rw [decide_eq_false h]
    rw [Bool.and_eq_false_iff]
    by_cases h1 : x.num = y.num
    · right
      have h2 : x.den ≠ y.den := fun z => h (Rat.ext h1 z)
      simp only [beq_eq_false_iff_ne, ne_eq]
      omega
    · left
      simp only [beq_eq_false_iff_ne, ne_eq]
      exact h1
theorem eqv_all {α : Type} [DecidableEq α] {g : α → PyData} (h : ∀ a b, PyData.eqv (g a) (g b) = decide (a = b)) : ∀ l m : List α, PyData.eqvAll (l.map g) (m.map g) = decide (l = m)
  | [], [] => by simp [PyData.eqvAll]
  | [], b :: m => by simp [PyData.eqvAll]
  | a :: l, [] => by simp [PyData.eqvAll]
  | a :: l, b :: m => by
    show (PyData.eqv (g a) (g b) && PyData.eqvAll (l.map g) (m.map g)) = _
    rw [h, eqv_all h l m]
    by_cases h1 : a = b <;> by_cases h2 : l = m <;> simp [h1, h2]
theorem lay_all {α : Type} {g : α → PyData} (h : ∀ a, (g a).canLay0 = true) : ∀ l : List α, PyData.canLayAll0 (l.map g) = true
  | [] => rfl
  | a :: l => by
    show ((g a).canLay0 && PyData.canLayAll0 (l.map g)) = true
    rw [h, lay_all h l]; rfl
theorem depth_all {α : Type} {g : α → PyData} (h : ∀ a, (g a).depth ≤ 2) : ∀ l : List α, PyData.depthAll (l.map g) ≤ 2
  | [] => by simp [PyData.depthAll]
  | a :: l => by
    show max (g a).depth (PyData.depthAll (l.map g)) ≤ 2
    exact Nat.max_le.mpr ⟨h a, depth_all h l⟩
theorem lay_pdr (x : Rat) : (pdr x).canLay0 = true := rfl
theorem depth_pdr (x : Rat) : (pdr x).depth = 1 := rfl
theorem shaped_pdr (x : Rat) : SeqAt.shaped (pdr x) = true := rfl
theorem shaped_tup {α : Type} {g : α → PyData} (h : ∀ a, (g a).canLay0 = true) (k : ∀ a, (g a).depth ≤ 2) (l : List α) : SeqAt.shaped (.tuple (l.map g)) = true := by
  show (PyData.canLayAll0 (l.map g) && decide (PyData.depthAll (l.map g) + 1 ≤ 64)) = true
  rw [lay_all h l]
  have := depth_all k l
  simp; omega
theorem rd_eqR {x y : Rat} : RD K C (rEqD K) (.rat x) (.rat y) (.bl (decide (x = y))) := fun B H v u s k1 k2 Q q =>
  ⟨_, _, is_dp_rat s k1, is_dp_rat s k2, shaped_pdr x, shaped_pdr y, by rw [eqv_pdr]; exact q _ B H (.refl s) (.bl _)⟩
theorem rd_neR {x y : Rat} : RD K C (rNeD K) (.rat x) (.rat y) (.bl (!decide (x = y))) := fun B H v u s k1 k2 Q q =>
  ⟨_, _, is_dp_rat s k1, is_dp_rat s k2, shaped_pdr x, shaped_pdr y, by rw [eqv_pdr]; exact q _ B H (.refl s) (.bl _)⟩
theorem rd_eqRs {x y : List Rat} : RD K C (rEqD K) (.tup (x.map Dt.rat)) (.tup (y.map Dt.rat)) (.bl (decide (x = y))) := fun B H v u s k1 k2 Q q => by
  refine ⟨_, _, is_dp_tup (g := pdr) s (fun v a k => is_dp_rat s k) k1, is_dp_tup (g := pdr) s (fun v a k => is_dp_rat s k) k2, shaped_tup lay_pdr (fun a => by rw [depth_pdr]; omega) x, shaped_tup lay_pdr (fun a => by rw [depth_pdr]; omega) y, ?_⟩
  have e : PyData.eqv (.tuple (x.map pdr)) (.tuple (y.map pdr)) = decide (x = y) := eqv_all eqv_pdr x y
  rw [e]; exact q _ B H (.refl s) (.bl _)
theorem eqv_int (i j : Int) : PyData.eqv (.int i) (.int j) = decide (i = j) := by
  show (i == j) = decide (i = j)
  rfl
theorem rd_eqIs {x y : List Int} : RD K C (rEqD K) (.tup (x.map Dt.int)) (.tup (y.map Dt.int)) (.bl (decide (x = y))) := fun B H v u s k1 k2 Q q => by
  refine ⟨_, _, is_dp_tup (g := PyData.int) s (fun v a k => is_dp_int s k) k1, is_dp_tup (g := PyData.int) s (fun v a k => is_dp_int s k) k2, shaped_tup (g := PyData.int) (fun _ => rfl) (fun a => by simp [PyData.depth]) x, shaped_tup (g := PyData.int) (fun _ => rfl) (fun a => by simp [PyData.depth]) y, ?_⟩
  have e : PyData.eqv (.tuple (x.map PyData.int)) (.tuple (y.map PyData.int)) = decide (x = y) := eqv_all eqv_int x y
  rw [e]; exact q _ B H (.refl s) (.bl _)
theorem rd_eqB {i j : Bool} : RD K C rEq (.bl i) (.bl j) (.bl (decide (i = j))) := fun B H v u s k1 k2 Q q => by
  cases k1; cases k2
  refine ⟨rfl, ?_⟩
  have e : decide ((V.bl i) = V.bl j) = decide (i = j) := by
    by_cases h : i = j
    · rw [decide_eq_true h, decide_eq_true (by rw [h])]
    · rw [decide_eq_false h, decide_eq_false fun z => h (V.bl.inj z)]
  rw [e]
  exact q _ B H (.refl s) (.bl _)
/-! ### is None -/
abbrev rIN : R2 := fun x y H Q => y = .non ∧ Q (.bl (decide (x = .non))) H
abbrev rNN : R2 := fun x y H Q => y = .non ∧ Q (.bl (!decide (x = .non))) H
def Dt.nn : Dt → Bool
  | .non => true
  | _ => false
theorem is_nn {H : Hp} {v : V} {d : Dt} (k : Is K C H v d) : decide (v = .non) = Dt.nn d := by
  cases k <;> first | rfl | exact decide_eq_false fun z => nomatch z
theorem rd_isN {d : Dt} : RD K C rIN d .non (.bl (Dt.nn d)) := fun B H v u s k1 k2 Q q => by
  cases k2
  exact ⟨rfl, by rw [is_nn k1]; exact q _ B H (.refl s) (.bl _)⟩
theorem rd_notN {d : Dt} : RD K C rNN d .non (.bl (!Dt.nn d)) := fun B H v u s k1 k2 Q q => by
  cases k2
  exact ⟨rfl, by rw [is_nn k1]; exact q _ B H (.refl s) (.bl _)⟩
/-! ### isinstance -/
theorem is_tyX {B H : Hp} (s : WA.Sub B H) {a : Addr} {xs : List V} (h : SqT K B a xs) : TyX K H (.ref a) (.type "tuple") := by
  rcases h with (h | ⟨o, h⟩) | ⟨o, its, n, h, hc, _⟩
  · exact .base (.tup (s _ _ h))
  · exact .fTuple (s _ _ h)
  · exact .kTuple h hc
theorem rc_isiT {ds : List Dt} : RC K C (rIsi K) [.tup ds, .ty "tuple"] (.bl true) := fun B H vs s k Q q => by
  obtain ⟨v, w, rfl, k1, k2⟩ := iss2 k
  obtain ⟨a, ws, rfl, e, k1⟩ := is_tup k1
  cases k2
  exact ⟨_, _, _, _, true, rfl, .ty _, is_tyX s (rd_tup e), kit_ty rfl, q _ B H (.refl s) (.bl _)⟩
theorem rc_isiR {x : Rat} : RC K C (rIsi K) [.rat x, .ty "tuple"] (.bl true) := fun B H vs s k Q q => by
  obtain ⟨v, w, rfl, k1, k2⟩ := iss2 k
  cases k1 with
  | rat e =>
    cases k2
    exact ⟨_, _, _, _, true, rfl, .ty _, is_tyX s e, kit_ty rfl, q _ B H (.refl s) (.bl _)⟩
theorem rc_isiI {i : Int} : RC K C (rIsi K) [.int i, .ty "int"] (.bl true) := fun B H vs s k Q q => by
  obtain ⟨v, w, rfl, k1, k2⟩ := iss2 k
  cases k1; cases k2
  exact ⟨_, _, _, _, true, rfl, .ty _, .base (.int i), kit_ty rfl, q _ B H (.refl s) (.bl _)⟩
theorem rc_isiB {i : Int} : RC K C (rIsi K) [.int i, .ty "bool"] (.bl false) := fun B H vs s k Q q => by
  obtain ⟨v, w, rfl, k1, k2⟩ := iss2 k
  cases k1; cases k2
  exact ⟨_, _, _, _, false, rfl, .ty _, .base (.int i), kit_ty rfl, q _ B H (.refl s) (.bl _)⟩
theorem ed_ty {n : String} : EvD K C (tC (.ty n)) Γ (.ty n) := fun H0 B H σ E Q q => q _ B H (.refl E.sub) (.ty n)
theorem ed_str {x : Str} : EvD K C (tC (.str x)) Γ (.str x) := fun H0 B H σ E Q q => q _ B H (.refl E.sub) (.str x)
/-! ### int(..), abs(..) -/
abbrev rIt : List V → Hp → VK → Prop := fun xs H Q => (∃ i, xs = [.int i] ∧ Q (.int i) H) ∨ ∃ k, xs = [.bl k] ∧ Q (.int (if k then 1 else 0)) H
theorem rc_int {i : Int} : RC K C rIt [.int i] (.int i) := fun B H vs s k Q q => by
  obtain ⟨v, rfl, k1⟩ := iss1 k
  cases k1
  exact .inl ⟨i, rfl, q _ B H (.refl s) (.int _)⟩
theorem rc_intB {b : Bool} : RC K C rIt [.bl b] (.int (if b then 1 else 0)) := fun B H vs s k Q q => by
  obtain ⟨v, rfl, k1⟩ := iss1 k
  cases k1
  exact .inr ⟨b, rfl, q _ B H (.refl s) (.int _)⟩
abbrev rAb : List V → Hp → VK → Prop := fun xs H Q => ∃ i, xs = [.int i] ∧ Q (.int (if i < 0 then -i else i)) H
theorem rc_abs {i : Int} : RC K C rAb [.int i] (.int (i.natAbs : Int)) := fun B H vs s k Q q => by
  obtain ⟨v, rfl, k1⟩ := iss1 k
  cases k1
  refine ⟨i, rfl, ?_⟩
  have e : (if i < 0 then -i else i) = (i.natAbs : Int) := by split <;> omega
  rw [e]; exact q _ B H (.refl s) (.int _)
theorem ed_i {te : TE} {i : Int} (h : EvD K C te Γ (.int i)) : EvD K C (tCB rIt (tCons te tNil)) Γ (.int i) := ed_cb (ea_1 h) rc_int
end
end WE
set_option Elab.async false
set_option linter.all false
set_option maxRecDepth 100000
/-! WF: comprehensions of two clauses, of new lists, of dicts; dicts looked up -/
namespace WF
open PySem PySem.Spec PyProof.Rows L2 WA WD WE
section
variable {K : PySem.W.Frag} {C : Addr} {Γ : List Sl} {nx bk ct : List Sl → Prop} {rt : Dt → Prop} {t u : TS}
def plain : Sl → Bool
  | .un => true
  | .da _ => true
  | _ => false
theorem clean {Γ : List Sl} (h : Γ.all plain = true) : ∀ (i : Nat) (g : Sl) (a : Addr), Γ[i]? = some g → ¬ g.has a := fun i g a e z => by
  have := List.all_eq_true.mp h g (List.mem_of_getElem? e)
  cases g with
  | un => exact z
  | da d => exact z
  | _ => cases this
theorem en_lc2 {wi wi1 : TI} {g g1 : TG} {te : TE} {vs vs1 : List Nat} {ds : List Dt} {I : List Sl → Prop} (fs : List (List Dt)) (hi : EvI K C wi Γ ds I) (hI : I Γ) (hl : fs.length = ds.length) (hz : fs.flatten.length ≤ 40000)
    (step : ∀ (i : Nat) (d : Dt) (f : List Dt), ds[i]? = some d → fs[i]? = some f → ∃ Γ2 ds1 I1, Γ2.all plain = true ∧ TgC K C vs g d (wipeG Γ vs) Γ2 ∧ EvI K C wi1 Γ2 ds1 I1 ∧ I1 Γ2 ∧ f.length = ds1.length ∧
      ∀ (j : Nat) (d1 e : Dt), ds1[j]? = some d1 → f[j]? = some e → ∃ Γ3, TgC K C vs1 g1 d1 (wipeG Γ2 vs1) Γ3 ∧ EvD K C te Γ3 e) : EvN K C (tLc2 wi g tYes wi1 g1 tYes te vs vs1) Γ fs.flatten := fun H0 B H σ E Q q =>
  hi H0 B H σ E _ fun J B1 H1 P1 ok p np => by
    have hnp : H p = none := fresh_of P1 np
    have no := (E.post P1).unowned np
    have start : Mid (K := K) (C := C) H0 B H B1 B1 (upd H1 p (.lst [])) σ p Γ := by
      have P2 := Post.own (o := .lst []) P1.sub np
      exact ⟨fun _ _ e => e, P1.trans P2, (E.post P1).post P2, sub_none P1.sub np⟩
    refine ⟨fun i m H2 => i + m = ds.length ∧ ∃ B2 acc, Mid (K := K) (C := C) H0 B H B1 B2 H2 σ p Γ ∧ H2 p = some (.lst acc) ∧ Iss K C B2 acc (fs.take i).flatten, ⟨ds.length, by omega, B1, [], start, upd_same, .nil⟩, fun i m H2 ⟨hm, B2, acc, M, hp, ka⟩ => ?_⟩
    obtain ⟨st, go⟩ := ok B2 H2 σ Γ M.s M.E hI i
    by_cases h : ds.length ≤ i
    · refine .inl ⟨st h, q p acc B2 H2 M.P hnp M.n hp ?_⟩
      rw [show i = fs.length by omega, List.take_length] at ka; exact ka
    · obtain ⟨d, hd⟩ := get_lt (show i < ds.length by omega)
      obtain ⟨f, hf⟩ := get_lt (show i < fs.length by omega)
      refine .inr ⟨(go d hd).1, fun H' => (i + 1) + (m - 1) = ds.length ∧ ∃ B2 acc, Mid (K := K) (C := C) H0 B H B1 B2 H' σ p Γ ∧ H' p = some (.lst acc) ∧ Iss K C B2 acc (fs.take (i + 1)).flatten, fun H' w => ⟨m - 1, by omega, w⟩, fun x H' hy => ?_⟩
      have etake : (fs.take (i + 1)).flatten = (fs.take i).flatten ++ f := by
        rw [List.take_succ, hf]; simp
      have elen : (fs.take i).flatten.length + f.length ≤ 40000 := by
        have e : fs.flatten.length = ((fs.take (i + 1)).flatten ++ (fs.drop (i + 1)).flatten).length := by rw [← List.flatten_append, List.take_append_drop]
        rw [etake, List.length_append, List.length_append] at e
        omega
      obtain ⟨B', P', k⟩ := (go d hd).2 x H' hy
      obtain ⟨Γ2, ds1, I1, hcl, tg, hi1, hI1, hfl, step1⟩ := step i d f hd hf
      have no2 := fun (i : Nat) (g : Sl) (e : Γ2[i]? = some g) => clean hcl i g p e
      have M' := M.go (ne_none hp) P'
      have hp' : H' p = some (.lst acc) := P'.hh _ _ hp
      refine tg H0 B' H' (L2.wipe σ vs) x (M'.E.wipe vs) k _ fun σ3 hw E3 => ⟨hw.trans (wipe_wipe σ vs), ?_⟩
      dsimp only [tYes]
      rw [if_pos rfl]
      refine hi1 H0 B' H' σ3 E3 _ fun J1 B4 H4 P4 ok1 => ?_
      have M4 := M'.go (ne_none hp') P4
      have hp4 : H4 p = some (.lst acc) := P4.hh _ _ hp'
      have ka4 := ka.mono (P'.bb.tr P4.bb)
      refine ⟨fun j m1 H5 => j + m1 = ds1.length ∧ ∃ B5 acc, WA.Sub B4 B5 ∧ Env K C H0 B5 H5 σ3 Γ2 ∧ Mid (K := K) (C := C) H0 B H B1 B5 H5 σ p Γ ∧ H5 p = some (.lst acc) ∧ Iss K C B5 acc ((fs.take i).flatten ++ f.take j), ⟨ds1.length, by omega, B4, acc, fun _ _ e => e, E3.post P4, M4, hp4, by rw [List.take_zero, List.append_nil]; exact ka4⟩, fun j m1 H5 ⟨hm1, B5, acc5, s5, E5, M5, hp5, ka5⟩ => ?_⟩
      obtain ⟨st1, go1⟩ := ok1 B5 H5 σ3 Γ2 s5 E5 hI1 j
      by_cases hj : ds1.length ≤ j
      · refine .inl ⟨st1 hj, by omega, B5, acc5, M5, hp5, ?_⟩
        rw [show j = f.length by omega, List.take_length, ← etake] at ka5; exact ka5
      · obtain ⟨d1, hd1⟩ := get_lt (show j < ds1.length by omega)
        obtain ⟨e, he⟩ := get_lt (show j < f.length by omega)
        refine .inr ⟨(go1 d1 hd1).1, fun H6 => (j + 1) + (m1 - 1) = ds1.length ∧ ∃ B5 acc, WA.Sub B4 B5 ∧ Env K C H0 B5 H6 σ3 Γ2 ∧ Mid (K := K) (C := C) H0 B H B1 B5 H6 σ p Γ ∧ H6 p = some (.lst acc) ∧ Iss K C B5 acc ((fs.take i).flatten ++ f.take (j + 1)), fun H6 w => ⟨m1 - 1, by omega, w⟩, fun x1 H6 hy1 => ?_⟩
        obtain ⟨B6, P6, k6⟩ := (go1 d1 hd1).2 x1 H6 hy1
        obtain ⟨Γ3, tg1, ev⟩ := step1 j d1 e hd1 he
        refine tg1 H0 B6 H6 (L2.wipe σ3 vs1) x1 ((E5.post P6).wipe vs1) k6 _ fun σ7 hw7 E7 => ⟨hw7.trans (wipe_wipe σ3 vs1), ?_⟩
        dsimp only [tYes]
        rw [if_pos rfl]
        refine ev H0 B6 H6 σ7 E7 _ fun y B8 H8 P8 ky => ?_
        have P68 := P6.trans P8
        have hp8 : H8 p = some (.lst acc5) := P68.hh _ _ hp5
        refine ⟨acc5, hp8, ?_, ?_⟩
        · rw [ka5.len, List.length_append, List.length_take]
          have := line40
          omega
        · have n8 : B8 p = none := by rw [P68.fr p (ne_none hp5)]; exact M5.n
          refine ⟨by omega, B8, acc5 ++ [y], s5.tr P68.bb, (E5.post P68).mut n8 no2, M5.wr hnp no (ne_none hp5) P68 _, upd_same, ?_⟩
          rw [List.take_succ, he, ← List.append_assoc]
          exact (ka5.mono P68.bb).snoc ky
/-- [[] for _ in ..]: a list of own lists -/
theorem do_setOO {ta : TA} {k i n : Nat} {f : Nat → Int} {wi : TI} (hi : EvI K C wi Γ (upto n f) (fun _ => True)) (hz : n ≤ 40000) (hn : ∀ a bs, nx (Γ.set i (.oo a bs (List.replicate n [])))) : Do K C (tAsg (tLc wi (gName k) tYes (tLst tNil) [k]) (gName i)) Γ nx rt bk ct := fun B0 H0 B H σ P E D nn r b c =>
  hi H0 B H σ E _ fun J B1 H1 P1 ok p np => by
    have hnp : H p = none := fresh_of P1 np
    have hnp0 : H0 p = none := fresh_of P hnp
    have no := (E.post P1).unowned np
    have start : Mid (K := K) (C := C) H0 B H B1 B1 (upd H1 p (.lst [])) σ p Γ := by
      have P2 := Post.own (o := .lst []) P1.sub np
      exact ⟨fun _ _ e => e, P1.trans P2, (E.post P1).post P2, sub_none P1.sub np⟩
    refine ⟨fun i m H2 => i + m = n ∧ ∃ (B2 : Hp) (bs : List Addr), Mid (K := K) (C := C) H0 B H B1 B2 H2 σ p Γ ∧ H2 p = some (.lst (bs.map V.ref)) ∧ bs.length = i ∧ bs.Nodup ∧ ∀ x ∈ bs, x ≠ p ∧ B2 x = none ∧ H0 x = none ∧ H2 x = some (.lst []) ∧ ∀ (i : Nat) (g : Sl), Γ[i]? = some g → ¬ g.has x, ⟨n, by omega, B1, [], start, upd_same, rfl, List.nodup_nil, fun x h => by cases h⟩, fun j m H2 ⟨hm, B2, bs, M, hp, bl, nd, hb⟩ => ?_⟩
    obtain ⟨st, go⟩ := ok B2 H2 σ Γ M.s M.E trivial j
    rw [upto_len] at st
    by_cases h : n ≤ j
    · refine .inl ⟨st h, ?_⟩
      show D.nx (σ.set i (some (.ref p))) H2
      have sB : WA.Sub B2 (upd B2 p (.lst (bs.map V.ref))) := sub_upd M.n
      have P2 := post_froz M.P hnp M.n hp
      have E2 : Env K C H0 (upd B2 p (.lst (bs.map V.ref))) H2 σ Γ := by
        refine ⟨P2.sub, M.E.len, fun l o g e1 e2 => ?_, M.E.dist⟩
        refine (M.E.slot l o g e1 e2).keep sB fun a ha => ⟨rfl, upd_ne fun z => no l g e2 (by rw [← z]; exact ha)⟩
      refine nn _ _ H2 _ (hn p bs) P2.bb (P.trans P2) (E2.setG (g := .oo p bs (List.replicate n [])) ⟨rfl, upd_same, nd, by rw [List.length_replicate]; omega, fun l x fs hx hf => ?_⟩ fun a l g' ha hg hg' => ?_)
      · obtain ⟨z1, z2, z3, z4, _⟩ := hb x (List.mem_of_getElem? hx)
        rw [List.getElem?_replicate] at hf
        split at hf
        · obtain rfl := Option.some.inj hf
          exact ⟨by rw [upd_ne z1]; exact z2, z3, [], z4, .nil⟩
        · cases hf
      · exact absurd hg' ((hb a ha).2.2.2.2 l g' hg)
    · obtain ⟨d, hd⟩ := get_lt (show j < (upto n f).length by rw [upto_len]; omega)
      refine .inr ⟨(go d hd).1, fun H' => (j + 1) + (m - 1) = n ∧ ∃ (B2 : Hp) (bs : List Addr), Mid (K := K) (C := C) H0 B H B1 B2 H' σ p Γ ∧ H' p = some (.lst (bs.map V.ref)) ∧ bs.length = j + 1 ∧ bs.Nodup ∧ ∀ x ∈ bs, x ≠ p ∧ B2 x = none ∧ H0 x = none ∧ H' x = some (.lst []) ∧ ∀ (i : Nat) (g : Sl), Γ[i]? = some g → ¬ g.has x, fun H' w => ⟨m - 1, by omega, w⟩, fun x H' hy => ?_⟩
      obtain ⟨B', P', k'⟩ := (go d hd).2 x H' hy
      have M' := M.go (ne_none hp) P'
      have hp' : H' p = some (.lst (bs.map V.ref)) := P'.hh _ _ hp
      show _ ∧ _
      refine ⟨(wipe_set (by simp)).trans (wipe_wipe σ [k]), ?_⟩
      dsimp only [tYes]
      rw [if_pos rfl]
      show _ ∧ _
      refine ⟨Nat.zero_le _, fun y ny => ?_⟩
      have hyp : p ≠ y := fun z => by rw [z, ny] at hp'; cases hp'
      have hy0 : H0 y = none := fresh_of (P.trans M'.P) ny
      have nyB : B' y = none := sub_none M'.P.sub ny
      have noy := M'.E.unowned ny
      have P3 := Post.own (o := .lst []) M'.P.sub ny
      refine ⟨bs.map V.ref, by rw [upd_ne hyp]; exact hp', ?_, ?_⟩
      · rw [List.length_map, bl]
        have := line40
        omega
      · refine ⟨by omega, B', bs ++ [y], M'.wr hnp no (ne_none hp') P3 _, by rw [upd_same, List.map_append]; rfl, by rw [List.length_append, bl]; rfl, ?_, fun x hx => ?_⟩
        · refine List.nodup_append.mpr ⟨nd, by simp, fun a ha b hb' => ?_⟩
          rcases List.mem_singleton.mp hb' with rfl
          intro z
          subst z
          have := (hb a ha).2.2.2.1
          rw [P'.hh _ _ this] at ny; cases ny
        · rcases List.mem_append.mp hx with hx | hx
          · obtain ⟨z1, z2, z3, z4, z5⟩ := hb x hx
            have z6 := P'.hh _ _ z4
            have z7 : x ≠ y := fun z => by rw [z, ny] at z6; cases z6
            exact ⟨z1, by rw [P'.fr x (ne_none z4)]; exact z2, z3, by rw [upd_ne z1, upd_ne z7]; exact z6, z5⟩
          · rcases List.mem_singleton.mp hx with rfl
            exact ⟨Ne.symm hyp, nyB, hy0, by rw [upd_ne (Ne.symm hyp), upd_same], noy⟩
/-! ### dicts -/
theorem putK_new {κ : Type} [DecidableEq κ] {kvs : List (κ × V)} {k : κ} {v : V} (h : ∀ kv ∈ kvs, kv.1 ≠ k) : putK kvs k v = kvs ++ [(k, v)] := by
  unfold putK
  rw [if_neg]
  intro z
  obtain ⟨kv, hm, he⟩ := List.any_eq_true.mp z
  exact h kv hm (of_decide_eq_true he)
theorem zip_snoc {κ : Type} : ∀ (ks : List κ) (vs : List V) (k : κ) (v : V), ks.length = vs.length → List.zip (ks ++ [k]) (vs ++ [v]) = List.zip ks vs ++ [(k, v)] := fun ks vs k v h => by
  rw [List.zip_append h]; rfl
theorem mem_zip_fst {κ : Type} {ks : List κ} {vs : List V} {kv : κ × V} (h : kv ∈ List.zip ks vs) : kv.1 ∈ ks := (List.of_mem_zip (a := kv.1) (b := kv.2) h).1
theorem valV_zip {κ : Type} [DecidableEq κ] : ∀ {ks : List κ} {vs : List V} {i : Nat} {k : κ} {v : V}, ks.Nodup → ks[i]? = some k → vs[i]? = some v → valV (List.zip ks vs) k = some v
  | [], _, _, _, _, _, h, _ => by simp at h
  | _ :: _, [], _, _, _, _, _, h => by simp at h
  | a :: ks, b :: vs, 0, k, v, _, h1, h2 => by
    obtain rfl := Option.some.inj h1
    obtain rfl := Option.some.inj h2
    simp [valV]
  | a :: ks, b :: vs, i + 1, k, v, nd, h1, h2 => by
    have h1' : ks[i]? = some k := h1
    have ne : a ≠ k := fun z => (List.nodup_cons.mp nd).1 (by rw [z]; exact List.mem_of_getElem? h1')
    have := valV_zip (List.nodup_cons.mp nd).2 h1' (show vs[i]? = some v from h2)
    unfold valV at this ⊢
    rw [List.zip_cons_cons, List.find?_cons_of_neg (by simpa using ne)]
    exact this
theorem valV_none {κ : Type} [DecidableEq κ] {ks : List κ} {vs : List V} {k : κ} (h : k ∉ ks) : valV (List.zip ks vs) k = none := by
  unfold valV
  rw [List.find?_eq_none.mpr]
  · rfl
  · intro kv hm z
    exact h (by rw [← of_decide_eq_true z]; exact mem_zip_fst hm)
theorem inl_nodup {ks : List Int} (h : ks.Nodup) : (ks.map (Sum.inl : Int → Key)).Nodup := by
  rw [List.nodup_iff_pairwise_ne] at *
  exact List.pairwise_map.mpr (h.imp fun ne z => ne (Sum.inl.inj z))
theorem inls_inj {a b : List Int} (h : a.map (Sum.inl : Int → Key) = b.map Sum.inl) : a = b := (List.map_inj_right (fun _ _ z => Sum.inl.inj z)).mp h
theorem inls_nodup {ks : List (List Int)} (h : ks.Nodup) : (ks.map fun k => k.map (Sum.inl : Int → Key)).Nodup := by
  rw [List.nodup_iff_pairwise_ne] at *
  exact List.pairwise_map.mpr (h.imp fun ne z => ne (inls_inj z))
theorem is_dic {B : Hp} {v : V} {ks : List Int} {ds : List Dt} (k : Is K C B v (.dic ks ds)) : ∃ a vs, v = .ref a ∧ B a = some (.dK (List.zip (ks.map Sum.inl) vs)) ∧ ks.length = vs.length ∧ Iss K C B vs ds := by
  cases k with
  | dic e l k => exact ⟨_, _, rfl, e, l, k⟩
theorem is_dct {B : Hp} {v : V} {ks : List (List Int)} {ds : List Dt} (k : Is K C B v (.dct ks ds)) : ∃ a vs, v = .ref a ∧ B a = some (.dT (List.zip (ks.map fun k => k.map Sum.inl) vs)) ∧ ks.length = vs.length ∧ Iss K C B vs ds := by
  cases k with
  | dct e l k => exact ⟨_, _, rfl, e, l, k⟩
/-- d[k], there -/
theorem ed_dget {td ty : TE} {ks : List Int} {ds : List Dt} {i : Nat} {k : Int} {d : Dt} (h : EvD K C td Γ (.dic ks ds)) (hy : EvD K C ty Γ (.int k)) (nd : ks.Nodup) (hk : ks[i]? = some k) (hd : ds[i]? = some d) : EvD K C (tDGet td ty) Γ d := fun H0 B H σ E Q q =>
  h H0 B H σ E _ fun v B1 H1 P1 k1 => hy H0 B1 H1 σ (E.post P1) _ fun w B2 H2 P2 k2 => by
    cases k2
    obtain ⟨a, vs, rfl, e, l, kv⟩ := is_dic (k1.mono P2.bb)
    obtain ⟨x, hx, kx⟩ := kv.get hd
    refine ⟨a, x, rfl, .inl ⟨_, .inl k, .inl (P2.sub _ _ e), rfl, ?_⟩, q x B2 H2 (P1.trans P2) kx⟩
    exact (valV_zip (inl_nodup nd) (by rw [List.getElem?_map, hk]; rfl) hx).symm
/-- k in d -/
theorem et_din {td ty : TE} {ks : List Int} {ds : List Dt} {k : Int} (h : EvD K C td Γ (.dic ks ds)) (hy : EvD K C ty Γ (.int k)) (nd : ks.Nodup) : EvD K C (tDIn ty td) Γ (.bl (decide (k ∈ ks))) := fun H0 B H σ E Q q =>
  hy H0 B H σ E _ fun w B1 H1 P1 k1 => h H0 B1 H1 σ (E.post P1) _ fun v B2 H2 P2 k2 => by
    cases k1
    obtain ⟨a, vs, rfl, e, l, kv⟩ := is_dic k2
    by_cases hk : k ∈ ks
    · obtain ⟨i, hi⟩ := List.getElem?_of_mem hk
      obtain ⟨x, hx⟩ := at_of l hi
      refine ⟨a, some x, rfl, .inl ⟨_, .inl k, .inl (P2.sub _ _ e), rfl, (valV_zip (inl_nodup nd) (by rw [List.getElem?_map, hi]; rfl) hx).symm⟩, ?_⟩
      rw [decide_eq_true hk] at q
      exact q _ B2 H2 (P1.trans P2) (.bl true)
    · refine ⟨a, none, rfl, .inl ⟨_, .inl k, .inl (P2.sub _ _ e), rfl, (valV_none fun z => ?_).symm⟩, ?_⟩
      · obtain ⟨x, hx, hx'⟩ := List.mem_map.mp z
        exact hk (by rw [← Sum.inl.inj hx']; exact hx)
      · rw [decide_eq_false hk] at q
        exact q _ B2 H2 (P1.trans P2) (.bl false)
/-- d.get(k, e) -/
theorem ed_dget2 {td ty tx : TE} {ks : List Int} {ds : List Dt} {k : Int} {d e : Dt} (h : EvD K C td Γ (.dic ks ds)) (hy : EvD K C ty Γ (.int k)) (hx : EvD K C tx Γ e) (nd : ks.Nodup) (h1 : ∀ i : Nat, ks[i]? = some k → ds[i]? = some d) (h2 : k ∉ ks → e = d) : EvD K C (tDGet2 td ty tx) Γ d := fun H0 B H σ E Q q =>
  h H0 B H σ E _ fun v B1 H1 P1 k1 => by
    obtain ⟨a, vs, rfl, e1, l, kv⟩ := is_dic k1
    refine ⟨a, rfl, .inl ⟨_, .inl (P1.sub _ _ e1)⟩, hy H0 B1 H1 σ (E.post P1) _ fun w B2 H2 P2 k2 => hx H0 B2 H2 σ ((E.post P1).post P2) _ fun z B3 H3 P3 k3 => ?_⟩
    cases k2
    have e3 := P3.sub _ _ (P3.bb _ _ (P2.bb _ _ e1))
    have kv3 := kv.mono (P2.bb.tr P3.bb)
    have PP := (P1.trans P2).trans P3
    by_cases hk : k ∈ ks
    · obtain ⟨i, hi⟩ := List.getElem?_of_mem hk
      obtain ⟨x, hx', kx⟩ := kv3.get (h1 i hi)
      exact ⟨some x, .inl ⟨_, .inl k, .inl e3, rfl, (valV_zip (inl_nodup nd) (by rw [List.getElem?_map, hi]; rfl) hx').symm⟩, q x B3 H3 PP kx⟩
    · refine ⟨none, .inl ⟨_, .inl k, .inl e3, rfl, (valV_none fun z => ?_).symm⟩, ?_⟩
      · obtain ⟨x, hx, hx'⟩ := List.mem_map.mp z
        exact hk (by rw [← Sum.inl.inj hx']; exact hx)
      · rw [h2 hk] at k3
        exact q z B3 H3 PP k3
/-- d[(i, j, ..)], there -/
theorem ed_dgetT {td ty : TE} {ks : List (List Int)} {ds : List Dt} {i : Nat} {k : List Int} {d : Dt} (h : EvD K C td Γ (.dct ks ds)) (hy : EvD K C ty Γ (.tup (k.map Dt.int))) (nd : ks.Nodup) (hk : ks[i]? = some k) (hd : ds[i]? = some d) : EvD K C (tDGet td ty) Γ d := fun H0 B H σ E Q q =>
  h H0 B H σ E _ fun v B1 H1 P1 k1 => hy H0 B1 H1 σ (E.post P1) _ fun w B2 H2 P2 k2 => by
    obtain ⟨a, vs, rfl, e, l, kv⟩ := is_dct (k1.mono P2.bb)
    obtain ⟨b, ws, rfl, eb, kb⟩ := is_tup k2
    obtain rfl := kb.ints
    obtain ⟨x, hx, kx⟩ := kv.get hd
    refine ⟨a, x, rfl, .inr ⟨_, k.map Sum.inl, b, .inl (P2.sub _ _ e), rfl, ?_, ?_⟩, q x B2 H2 (P1.trans P2) kx⟩
    · rw [P2.sub _ _ eb, List.map_map]; rfl
    · exact (valV_zip (inls_nodup nd) (by rw [List.getElem?_map, hk]; rfl) hx).symm
/-- {k: v for .. }, int keys that are not twice the same -/
theorem ed_dc {wi : TI} {k n : Nat} {f : Nat → Int} {tk tv : TE} {ks : List Int} {es : List Dt} (hi : EvI K C wi Γ (upto n f) (fun _ => True)) (hz : n ≤ 40000) (hk : ks.length = n) (he : es.length = n) (nd : ks.Nodup)
    (step : ∀ (i : Nat) (x : Int) (e : Dt), i < n → ks[i]? = some x → es[i]? = some e → EvD K C tk ((Γ.set k .un).set k (.da (.int (f i)))) (.int x) ∧ EvD K C tv ((Γ.set k .un).set k (.da (.int (f i)))) e) : EvD K C (tDc wi (gName k) tYes tk tv [k]) Γ (.dic ks es) := fun H0 B H σ E Q q =>
  hi H0 B H σ E _ fun J B1 H1 P1 ok p np => by
    have hnp : H p = none := fresh_of P1 np
    have no := (E.post P1).unowned np
    have start : Mid (K := K) (C := C) H0 B H B1 B1 (upd H1 p (.dK [])) σ p Γ := by
      have P2 := Post.own (o := .dK []) P1.sub np
      exact ⟨fun _ _ e => e, P1.trans P2, (E.post P1).post P2, sub_none P1.sub np⟩
    refine ⟨fun i m H2 => i + m = n ∧ ∃ B2 acc, Mid (K := K) (C := C) H0 B H B1 B2 H2 σ p Γ ∧ H2 p = some (.dK (List.zip ((ks.take i).map Sum.inl) acc)) ∧ Iss K C B2 acc (es.take i), ⟨n, by omega, B1, [], start, upd_same, by rw [List.take_zero]; exact .nil⟩, fun i m H2 ⟨hm, B2, acc, M, hp, ka⟩ => ?_⟩
    obtain ⟨st, go⟩ := ok B2 H2 σ Γ M.s M.E trivial i
    rw [upto_len] at st
    by_cases h : n ≤ i
    · refine .inl ⟨st h, ?_⟩
      rw [show i = n by omega] at hp ka
      rw [← he, List.take_length] at ka
      rw [← hk, List.take_length] at hp
      refine q _ (upd B2 p (.dK (List.zip (ks.map Sum.inl) acc))) H2 ?_ (.dic upd_same (by rw [hk, ka.len, he]) (ka.mono (sub_upd M.n)))
      refine ⟨fun a o e => sub_upd M.n _ _ (M.P.bb _ _ e), M.P.hh, fun a e => by rw [upd_ne fun z => e (by rw [z]; exact hnp)]; exact M.P.fr a e, fun a o e => ?_⟩
      by_cases ha : a = p
      · subst ha; rw [upd_same] at e; rw [hp]; exact e
      · rw [upd_ne ha] at e; exact M.P.sub _ _ e
    · obtain ⟨d, hd⟩ := get_lt (show i < (upto n f).length by rw [upto_len]; omega)
      obtain ⟨hin, rfl⟩ := upto_at hd
      obtain ⟨kx, hkx⟩ := get_lt (show i < ks.length by omega)
      obtain ⟨e, he'⟩ := get_lt (show i < es.length by omega)
      obtain ⟨s1, s2⟩ := step i kx e hin hkx he'
      refine .inr ⟨(go _ hd).1, fun H' => (i + 1) + (m - 1) = n ∧ ∃ B2 acc, Mid (K := K) (C := C) H0 B H B1 B2 H' σ p Γ ∧ H' p = some (.dK (List.zip ((ks.take (i + 1)).map Sum.inl) acc)) ∧ Iss K C B2 acc (es.take (i + 1)), fun H' w => ⟨m - 1, by omega, w⟩, fun x H' hy => ?_⟩
      obtain ⟨B', P', k'⟩ := (go _ hd).2 x H' hy
      have M' := M.go (ne_none hp) P'
      have E3 := (M'.E.wipe [k]).setD (i := k) k'
      refine ⟨(wipe_set (by simp)).trans (wipe_wipe σ [k]), ?_⟩
      dsimp only [tYes]
      rw [if_pos rfl]
      refine s1 H0 B' H' _ E3 _ fun y B4 H4 P4 ky => s2 H0 B4 H4 _ (E3.post P4) _ fun z B5 H5 P5 kz => ?_
      cases ky
      have PP := (P'.trans P4).trans P5
      have hp5 := PP.hh _ _ hp
      refine ⟨_, .inl kx, rfl, hp5, ?_, by omega, B5, acc ++ [z], M.wr hnp no (ne_none hp) PP _, ?_, ?_⟩
      · rw [List.length_zip, List.length_map, List.length_take]
        have := line40
        omega
      · rw [upd_same, putK_new]
        · rw [List.take_succ, hkx]
          show _ = some (HO.dK (List.zip ((ks.take i ++ [kx]).map Sum.inl) (acc ++ [z])))
          rw [List.map_append]
          show _ = some (HO.dK (List.zip ((ks.take i).map Sum.inl ++ [Sum.inl kx]) (acc ++ [z])))
          rw [zip_snoc _ _ _ _ (by rw [List.length_map, List.length_take, ka.len, List.length_take]; omega)]
        · intro kv hkv zz
          have h1 := mem_zip_fst hkv
          rw [zz] at h1
          obtain ⟨w, hw, hw'⟩ := List.mem_map.mp h1
          obtain rfl := Sum.inl.inj hw'
          obtain ⟨j, hj⟩ := List.getElem?_of_mem hw
          rw [List.getElem?_take] at hj
          split at hj
          · have e1 := (List.getElem?_eq_some_iff.mp hj)
            have e2 := (List.getElem?_eq_some_iff.mp hkx)
            exact absurd (e1.2.trans e2.2.symm) (List.pairwise_iff_getElem.mp nd j i e1.1 e2.1 (by assumption))
          · cases hj
      · rw [List.take_succ, he']
        exact (ka.mono PP.bb).snoc kz
end
end WF
set_option Elab.async false
set_option linter.all false
set_option maxRecDepth 100000
/-! WG: rules that the layer lacks: a dict comprehension whose keys are tuples, sorted of a tuple, an own class's operator -/
namespace WG
open PySem PySem.Spec PyProof.Rows L2
section
variable {X : Cx}
/-- an entry with a tuple for its key -/
theorem putTup {pins : List (Addr × Obj)} {σ : L2.St} {H : Hp} {s : Shared} {E : Value → Shared → Prop} {at_ b : Addr} {ents : List (List Key × V)} {key : List Key} {val : V} {ku vu : Value} {Q : Unit → Shared → Prop} (room : X.A.units + 1 < cLine) (I : Inv X pins σ H s)
    (here : H at_ = some (.dT ents)) (few : ents.length < sizeLine) (kt : H b = some (.tup (key.map kV))) (rk : RelV (.ref b) ku) (rv : RelV val vu) (next : ∀ s', Inv X pins σ (upd H at_ (.dT (putK ents key val))) s' → Q () s') :
    wpAny (model X.prog X.w) X.A (dictSet at_ ku vu) Q E s := by
  cases (show ku = Value.ref b from rk)
  obtain ⟨small, notMods, recs, rel, lies⟩ := dt_of I.hok here
  have cnt : recs.length ≤ sizeLine := Paired.length rel ▸ small
  have cnt2 : (putK ents key val).length ≤ sizeLine := Nat.le_trans (length_putK ents key val) few
  refine wpAny_dictSet_heap (hsz := cnt) (show (tupleKind (mixKind X.prog X.w)).room X.A from Nat.lt_of_succ_lt room) (key_of I.hok kt) lies fun heap2 lies2 but => next _ ?_
  obtain ⟨ob, es, ep, g1, g2, g3, g4, _, g5⟩ := lies2
  have held : KT (upd H at_ (.dT (putK ents key val))) (putK ents key val) _ := (rel.put key kt rv).keeps fun c ys hc => (upd_ne (ne_of hc here fun z => nomatch z)).trans hc
  exact d_write I (here ▸ True.intro) but ⟨ob, g1⟩ ⟨cnt2, notMods, _, held, ob, es, ep, g1, g2, g3, g4, g5⟩
/-- {k: v for target in iter}, each k a tuple -/
def tDcT (src : TI) (g : TG) (tt : TT) (tk tv : TE) (vs : List Nat) : TE := fun σ H Q => src σ H fun J H1 => ∀ d, H1 d = none → ∃ W : Nat → Nat → Hp → Prop, (∃ m, W 0 m (upd H1 d (.dT []))) ∧ ∀ i m H, W i m H → (J.stop i H ∧ Q (.ref d) H) ∨
  (J.go i H ∧ ∃ Nx : Hp → Prop, (∀ H', Nx H' → ∃ m', m' < m ∧ W (i + 1) m' H') ∧ ∀ x H', J.yld i H x H' → g x (wipe σ vs) H' fun σ2 H2 => wipe σ2 vs = wipe σ vs ∧ tt σ2 H2 fun b H3 => if b = true then
    tk σ2 H3 fun y H4 => tv σ2 H4 fun z H5 => ∃ ents key q, y = .ref q ∧ H5 q = some (.tup (key.map kV)) ∧ H5 d = some (.dT ents) ∧ ents.length < sizeLine ∧ Nx (upd H5 d (.dT (putK ents key z))) else Nx H3)
theorem dcT_core {pins : List (Addr × Obj)} {sA : Shared} {σ : L2.St} {HA : Hp} {Q : VK} {use : Option (Value → Sem Unit)} {Qf : Value → Shared → Prop} {posC : Pos} {kx vx tg iter : Expr} {ifs : List Expr} {scope : Scope} {own : List (Str × Nat)} {pos : Pos} {src : TI} {g : TG} {tt : TT} {tk tv : TE} (room : X.A.units + 1 < cLine) (calm : X.calm = true) (nd : X.N.Nodup) (from_ : PI X tg iter src) (blk : BlkOk X.N X.env.scope scope own)
    (stores : ∀ (s : Shared) (H : Hp) (c : Addr) (cl : List (Str × Addr)) (fp : List Addr), PG (X.blk s H scope (compEnvC scope cl c X.env) fp) tg g)
    (asks : ∀ (s : Shared) (H : Hp) (c : Addr) (cl : List (Str × Addr)) (fp : List Addr), PTs (X.blk s H scope (compEnvC scope cl c X.env) fp) ifs tt)
    (keys : ∀ (s : Shared) (H : Hp) (c : Addr) (cl : List (Str × Addr)) (fp : List Addr), PE (X.blk s H scope (compEnvC scope cl c X.env) fp) kx tk)
    (vals : ∀ (s : Shared) (H : Hp) (c : Addr) (cl : List (Str × Addr)) (fp : List Addr), PE (X.blk s H scope (compEnvC scope cl c X.env) fp) vx tv) (unf : ∀ x, foldedSetIterable iter X.env x = pure x)
    (IA : Inv X pins σ HA sA) (want : tDcT src g tt tk tv (own.map (·.2)) σ HA Q)
    (ends : ∀ d C s' m H', Inv X pins σ H' s' → Q (.ref d) H' → s'.heap.Ns C m → FpOk X pins H' C → compPost (model X.prog X.w) X.A X.xe use Qf (.ref d) C (.ok .next) s') :
    wpAny (model X.prog X.w) X.A (comprehension (.DictComp kx vx [⟨tg, iter, ifs, 0⟩] scope pos) scope X.env posC newDict false (eval iter X.env) use) Qf X.xe sA := by
  have cellOf : ∀ y ∈ scope.names, y.2 = .free → ∃ c, X.env.cells.lookup y.1 = some c := fun y hy e => (blk.free y hy e).elim (fun k => IA.ok.has _ (.inl k)) fun k => IA.ok.has _ (.inr k)
  refine wpAny_comprehension_free (use := use) rfl unf (closure_ok cellOf) blk.kind (fun y hy e => by rw [blk.uniq y hy, e]) (thn (from_.run pins sA σ HA _ IA want) fun _ _ got => thn got fun _ sB walk => ?_)
  obtain ⟨it, fp, at_, J, HB, rfl, IB, T, atB, okB, more⟩ := walk
  refine wpAny_newObj_type (newEnv_comp ?_)
  -- the dict lies at the end of the heap
  obtain ⟨d, hd⟩ : ∃ d, d = sB.heap.objs.size := ⟨_, rfl⟩
  rw [← hd]
  have freeD : HB d = none := IB.hok.fresh (Nat.le_of_eq hd.symm)
  obtain ⟨W, ⟨start, w0⟩, turn⟩ := more d freeD
  obtain ⟨sC, hC⟩ : ∃ sC : Shared, sC = { sB with heap := sB.heap.push { cls := .type "dict", data := .dict #[] } } := ⟨_, rfl⟩
  rw [← hC]
  have heapC : sC.heap = sB.heap.push { cls := .type "dict", data := .dict #[] } := by rw [hC]
  have olderC : ∀ b o, sB.heap.get? b = some o → sC.heap.get? b = some o := fun b o e => by rw [heapC]; exact Heap.get?_push_of_some _ e
  obtain ⟨HC, eHC⟩ : ∃ HC, HC = upd HB d (.dT []) := ⟨_, rfl⟩
  rw [← eHC] at w0
  have IC : Inv X pins σ HC sC := by
    rw [eHC, hC]
    exact IB.laid (t' := sB.toks) (fun b o e => Heap.get?_push_of_some _ e) (Nat.le_of_eq hd.symm) (by rw [hd]; exact dt_empty sB.heap IB.big)
  have older : ∀ b ∈ fp, b < sB.heap.objs.size := fun b hb => let ⟨_, e, _⟩ := T.obj _ _ atB b hb; Heap.lt_size e
  have okC : ∀ b ∈ fp, FpOk X pins HC b ∧ b < sC.heap.objs.size := fun b hb => by
    have lt := older b hb
    refine ⟨⟨?_, (okB b hb).2⟩, ?_⟩
    · rw [eHC, upd_ne (by rw [hd]; exact Nat.ne_of_lt lt)]; exact (okB b hb).1
    · rw [heapC, Heap.size_push]; exact Nat.lt_succ_of_lt lt
  have atC : at_ 0 sC.heap := T.keep _ _ _ atB fun b _ o e => olderC b o e
  have noneC : ∀ b ∈ fp, HC b = none := fun b hb => (okC b hb).1.1
  have ID := block_start IC blk nd okC
  obtain ⟨cs, hcs⟩ : ∃ cs, cs = cellsFrom (sC.heap.objs.size + 1) scope.names (cloFrom X.env.cells scope.names []) := ⟨_, rfl⟩
  rw [← hcs] at ID
  have rG := stores sC HC sC.heap.objs.size cs fp
  have rT := asks sC HC sC.heap.objs.size cs fp
  have rK := keys sC HC sC.heap.objs.size cs fp
  have rV := vals sC HC sC.heap.objs.size cs fp
  rw [← hcs]
  obtain ⟨ce, hce⟩ : ∃ ce, ce = compEnvC scope cs sC.heap.objs.size X.env := ⟨_, rfl⟩
  have ceLocals : ce.locals = sC.heap.objs.size := by rw [hce]; rfl
  rw [← hce] at ID rG rT rK rV
  obtain ⟨sD, hsD⟩ : ∃ sD : Shared, sD = { sC with heap := pushCells (sC.heap.push { cls := .type "dict", data := .dict #[] }) scope.names } := ⟨_, rfl⟩
  rw [← hsD] at ID
  have atD : at_ 0 sD.heap := T.keep _ _ _ atC fun b _ o e => by rw [hsD]; exact pushCells_keeps _ _ _ _ (Heap.get?_push_of_some _ e)
  have okIn : ∀ {σ' : L2.St} {H' : Hp} {s' : Shared}, Inv (X.blk sC HC scope ce fp) [] σ' H' s' → (∀ b ∈ fp, H' b = none) → ∀ b ∈ fp, FpOk (X.blk sC HC scope ce fp) [] H' b := fun {σ' H' s'} I' no b hb =>
    ⟨no b hb, (I'.ok.exf b hb).1, I'.ok.exfs b hb, .inl hb, (I'.ok.exf b hb).2, fun p hp => nomatch (show p ∈ ([] : List (Addr × Obj)) from hp)⟩
  have whole : codeAny (model X.prog X.w) X.A (.compLoop (.DictComp kx vx [⟨tg, iter, ifs, 0⟩] scope pos) 0 (.ref it) (.ref d) ce) (compPost (model X.prog X.w) X.A X.xe use Qf (.ref d) sC.heap.objs.size) sD := by
    refine compLoop_anyD (fun n s' => ∃ i H', Inv (X.blk sC HC scope ce fp) [] (wipe σ (own.map (·.2))) H' s' ∧ at_ i s'.heap ∧ (∀ b ∈ fp, H' b = none) ∧ W i n H') ?_ start ⟨0, HC, ID, atD, noneC, w0⟩
    intro n s5 inv
    obtain ⟨i, H5, I5, at5, none5, w5⟩ := inv
    rcases turn i n H5 w5 with ⟨stops, answer⟩ | ⟨goes, Nx, less, step⟩
    · refine thnF (T.done (X.blk sC HC scope ce fp) rfl rfl rfl calm i [] s5 _ H5 (fun _ _ => False) I5 (okIn I5 none5) at5 stops) fun r s6 ⟨isNone, I6⟩ => ?_
      subst isNone
      have back : Inv X pins σ H5 s6 := IC.call' (ch := fp) I6.os I6.base I6.hok I6.bare fun b hb => let z := (okC b hb).1.2; ⟨z.2.2.1, z.1, z.2.2.2.1, z.2.2.2.2⟩
      have noneL : H5 sC.heap.objs.size = none := by rw [← ceLocals]; exact I6.free
      obtain ⟨m, ns, _⟩ := I6.loc
      have ns' : s6.heap.Ns sC.heap.objs.size m := by rw [← ceLocals]; exact ns
      exact ends d _ s6 m H5 back answer ns' (IC.fpOk (Nat.le_refl _) noneL)
    · refine thnF (T.item (X.blk sC HC scope ce fp) rfl rfl rfl calm i [] s5 _ H5 (fun _ _ => False) I5 (okIn I5 none5) at5 goes) fun r s6 ⟨u, isSome, h6⟩ => ?_
      subst isSome
      refine thnF h6 fun _ s7 ⟨x, H7, I7, r7, y7, at7, none7⟩ => ?_
      refine thnF (rG.run _ s7 _ H7 x u _ (I7.pinned (okIn I7 none7) (T.obj _ _ at7)) r7 (step x H7 y7)) fun _ s8 ⟨σ8, H8, I8, wiped, q8⟩ => ?_
      refine thnF (rT.run _ s8 σ8 H8 _ I8 q8) fun b s9 ⟨H9, I9, q9⟩ => ?_
      have again : ∀ {s' : Shared} {H' : Hp}, Inv (X.blk sC HC scope ce fp) ([] ++ pinsAt fp s7.heap) σ8 H' s' → Nx H' → ∃ m, m < n ∧ ∃ i H', Inv (X.blk sC HC scope ce fp) [] (wipe σ (own.map (·.2))) H' s' ∧ at_ i s'.heap ∧ (∀ b ∈ fp, H' b = none) ∧ W i m H' := fun {s' H'} I' nx => by
        obtain ⟨m', lt, w'⟩ := less H' nx
        have held : ∀ b ∈ fp, ∀ o, s7.heap.get? b = some o → s'.heap.get? b = some o ∧ H' b = none := fun b hb o e =>
          let z := I'.pin (b, o) (List.mem_append_right _ (List.mem_append_right _ (mem_pinsAt hb e)))
          ⟨z.1, z.2.1⟩
        refine ⟨m', lt, i + 1, H', (I'.unpinned (pins := [])).weak (by rw [← wiped, wipe_length]) (fun j v e => (wipe_some (wiped.symm ▸ e)).1), T.keep _ _ _ at7 fun b hb o e => (held b hb o e).1, fun b hb => ?_, w'⟩
        obtain ⟨o, e, _⟩ := T.obj _ _ at7 b hb
        exact (held b hb o e).2
      match b, q9 with
      | false, q9 => exact again I9 q9
      | true, q9 =>
        refine thnF (rK.run _ s9 σ8 H9 _ I9 q9) fun z s10 ⟨yk, H10, I10, r10, q10⟩ => ?_
        refine thnF (rV.run _ s10 σ8 H10 _ I10 q10) fun z2 s11 ⟨yv, H11, I11, r11, ents, key, p, ek, kt, here, few, nx⟩ => ?_
        subst ek
        exact putTup (X := X.blk sC HC scope ce fp) room I11 here few kt r10 r11 fun s12 I12 => again I12 nx
  have last := codeAny_compStart_dict whole (T.self X.A 0 _ _ _ atD whole)
  rw [hsD, hce] at last
  exact last
theorem pe_dcT {kx vx tg iter : Expr} {ifs : List Expr} {scope : Scope} {own : List (Str × Nat)} {pos : Pos} {src : TI} {g : TG} {tt : TT} {tk tv : TE} (room : X.A.units + 1 < cLine) (calm : X.calm = true) (nd : X.N.Nodup) (from_ : PI X tg iter src) (blk : BlkOk X.N X.env.scope scope own)
    (stores : ∀ (s : Shared) (H : Hp) (c : Addr) (cl : List (Str × Addr)) (fp : List Addr), PG (X.blk s H scope (compEnvC scope cl c X.env) fp) tg g)
    (asks : ∀ (s : Shared) (H : Hp) (c : Addr) (cl : List (Str × Addr)) (fp : List Addr), PTs (X.blk s H scope (compEnvC scope cl c X.env) fp) ifs tt)
    (keys : ∀ (s : Shared) (H : Hp) (c : Addr) (cl : List (Str × Addr)) (fp : List Addr), PE (X.blk s H scope (compEnvC scope cl c X.env) fp) kx tk)
    (vals : ∀ (s : Shared) (H : Hp) (c : Addr) (cl : List (Str × Addr)) (fp : List Addr), PE (X.blk s H scope (compEnvC scope cl c X.env) fp) vx tv) (unf : ∀ x, foldedSetIterable iter X.env x = pure x := by intro _; rfl) :
    PE X (.DictComp kx vx [⟨tg, iter, ifs, 0⟩] scope pos) (tDcT src g tt tk tv (own.map (·.2))) := by
  refine ⟨fun pins sA σ HA Q IA want => ?_⟩
  rw [arm_eval_DictComp]
  refine dcT_core room calm nd from_ blk stores asks keys vals unf IA want fun d C s' m H' I' answer ns fp => ⟨m, ns, fun h2 same => ?_⟩
  obtain ⟨f0, f1, f2, f3, f4, f5⟩ := fp
  exact ⟨.ref d, H', I'.turned (t' := s'.toks) (fun b o ne e => (same.2 b ne).trans e) f0 f1 f3 f4 f5, rfl, answer⟩
/-- name = {..}, the name a local of the def -/
theorem ps_setDcT {i : Nat} {y : Str} {py : Pos} {kx vx tg iter : Expr} {ifs : List Expr} {scope : Scope} {own : List (Str × Nat)} {pos spos : Pos} {src : TI} {g : TG} {tt : TT} {tk tv : TE} (room : X.A.units + 1 < cLine) (calm : X.calm = true) (nd : X.N.Nodup) (hy : X.N[i]? = some y) (yl : X.env.scope.names.lookup y = some .local)
    (sw : swapsWith (.DictComp kx vx [⟨tg, iter, ifs, 0⟩] scope pos) (some (.Name y py)) spos.line X.env = pure true) (from_ : PI X tg iter src) (blk : BlkOk X.N X.env.scope scope own)
    (stores : ∀ (s : Shared) (H : Hp) (c : Addr) (cl : List (Str × Addr)) (fp : List Addr), PG (X.blk s H scope (compEnvC scope cl c X.env) fp) tg g)
    (asks : ∀ (s : Shared) (H : Hp) (c : Addr) (cl : List (Str × Addr)) (fp : List Addr), PTs (X.blk s H scope (compEnvC scope cl c X.env) fp) ifs tt)
    (keys : ∀ (s : Shared) (H : Hp) (c : Addr) (cl : List (Str × Addr)) (fp : List Addr), PE (X.blk s H scope (compEnvC scope cl c X.env) fp) kx tk)
    (vals : ∀ (s : Shared) (H : Hp) (c : Addr) (cl : List (Str × Addr)) (fp : List Addr), PE (X.blk s H scope (compEnvC scope cl c X.env) fp) vx tv) (unf : ∀ x, foldedSetIterable iter X.env x = pure x := by intro _; rfl) :
    PS X (.Assign [.Name y py] (.DictComp kx vx [⟨tg, iter, ifs, 0⟩] scope pos) spos) (tAsg (tDcT src g tt tk tv (own.map (·.2))) (gName i)) := by
  refine ⟨fun pins s σ H D I want => ?_⟩
  rw [exec_Assign_Name_used _ _ _ _ sw]
  refine wpAny_bind (wpAny_standAt (wpAny_bind ?_))
  show wpAny _ X.A (do let _ ← comprehension (.DictComp kx vx [⟨tg, iter, ifs, 0⟩] scope pos) scope X.env (firstIterPos [⟨tg, iter, ifs, 0⟩] pos) newDict false (eval iter X.env) (some (assign (.Name y py) X.env))) _ _ s
  have want : tDcT src g tt tk tv (own.map (·.2)) σ H (fun x H1 => gName i x σ H1 D.nx) := want
  have body := dcT_core (Qf := fun _ s' => SP X pins D .next s') (pos := pos) (use := some (assign (.Name y py) X.env)) (posC := firstIterPos [⟨tg, iter, ifs, 0⟩] pos) room calm nd from_ blk stores asks keys vals unf I want fun d C s' m H' I' answer ns fp => by
    show wpAny _ _ (assign (.Name y py) X.env (.ref d)) _ _ _
    refine wpAny_assign_Name (store_ok2 (v := V.ref d) I' nd hy (.inl yl) rfl (fun s2 I2 ⟨a, but, ha⟩ => ?_) (.inr yl))
    obtain ⟨f0, f1, f2, f3, f4, f5⟩ := fp
    have apart : C ≠ a := ha.elim (fun z => by rw [z]; exact f1) fun z e => f4 y a z e.symm
    exact ⟨m, ns.sameBut but apart, fun h3 same => ⟨_, H', I2.turned (t' := s2.toks) (fun b o ne e => (same.2 b ne).trans e) f0 f1 f3 f4 f5, answer⟩⟩
  refine wpAny_bind (thn body fun _ s' hq => wpAny_pure (wpAny_pure hq))
/-- name = {..}, the name a local of the def -/
theorem ps_setDc {i : Nat} {y : Str} {py : Pos} {kx vx tg iter : Expr} {ifs : List Expr} {scope : Scope} {own : List (Str × Nat)} {pos spos : Pos} {src : TI} {g : TG} {tt : TT} {tk tv : TE} (calm : X.calm = true) (nd : X.N.Nodup) (hy : X.N[i]? = some y) (yl : X.env.scope.names.lookup y = some .local)
    (sw : swapsWith (.DictComp kx vx [⟨tg, iter, ifs, 0⟩] scope pos) (some (.Name y py)) spos.line X.env = pure true) (from_ : PI X tg iter src) (blk : BlkOk X.N X.env.scope scope own)
    (stores : ∀ (s : Shared) (H : Hp) (c : Addr) (cl : List (Str × Addr)) (fp : List Addr), PG (X.blk s H scope (compEnvC scope cl c X.env) fp) tg g)
    (asks : ∀ (s : Shared) (H : Hp) (c : Addr) (cl : List (Str × Addr)) (fp : List Addr), PTs (X.blk s H scope (compEnvC scope cl c X.env) fp) ifs tt)
    (keys : ∀ (s : Shared) (H : Hp) (c : Addr) (cl : List (Str × Addr)) (fp : List Addr), PE (X.blk s H scope (compEnvC scope cl c X.env) fp) kx tk)
    (vals : ∀ (s : Shared) (H : Hp) (c : Addr) (cl : List (Str × Addr)) (fp : List Addr), PE (X.blk s H scope (compEnvC scope cl c X.env) fp) vx tv) (unf : ∀ x, foldedSetIterable iter X.env x = pure x := by intro _; rfl) :
    PS X (.Assign [.Name y py] (.DictComp kx vx [⟨tg, iter, ifs, 0⟩] scope pos) spos) (tAsg (tDc src g tt tk tv (own.map (·.2))) (gName i)) := by
  refine ⟨fun pins s σ H D I want => ?_⟩
  rw [exec_Assign_Name_used _ _ _ _ sw]
  refine wpAny_bind (wpAny_standAt (wpAny_bind ?_))
  show wpAny _ X.A (do let _ ← comprehension (.DictComp kx vx [⟨tg, iter, ifs, 0⟩] scope pos) scope X.env (firstIterPos [⟨tg, iter, ifs, 0⟩] pos) newDict false (eval iter X.env) (some (assign (.Name y py) X.env))) _ _ s
  have want : tDc src g tt tk tv (own.map (·.2)) σ H (fun x H1 => gName i x σ H1 D.nx) := want
  have body := dc_core (Qf := fun _ s' => SP X pins D .next s') (pos := pos) (use := some (assign (.Name y py) X.env)) (pos' := firstIterPos [⟨tg, iter, ifs, 0⟩] pos) calm nd I from_ blk stores asks keys vals unf want (fun d C s' m H' I' answer ns fp => by
    show wpAny _ _ (assign (.Name y py) X.env (.ref d)) _ _ _
    refine wpAny_assign_Name (store_ok2 (v := V.ref d) I' nd hy (.inl yl) rfl (fun s2 I2 ⟨a, but, ha⟩ => ?_) (.inr yl))
    obtain ⟨f0, f1, f2, f3, f4, f5⟩ := fp
    have apart : C ≠ a := ha.elim (fun z => by rw [z]; exact f1) fun z e => f4 y a z e.symm
    exact ⟨m, ns.sameBut but apart, fun h3 same => ⟨_, H', I2.turned (t' := s2.toks) (fun b o ne e => (same.2 b ne).trans e) f0 f1 f3 f4 f5, answer⟩⟩)
  refine wpAny_bind (thn body fun _ s' hq => wpAny_pure (wpAny_pure hq))
theorem sw_dict {kx vx : Expr} {gs : List Comprehension} {scope : Scope} {pos py : Pos} {y : Str} {l : Nat} {env : Env} (fn : env.scope.kind = .function) (loc : env.scope.names.lookup y = some .local) (line : (py.line == pos.line) = true)
    (no : (scope.names.any fun (n, k) => n == y && (k == .local || k == .cell)) = false) : swapsWith (.DictComp kx vx gs scope pos) (some (.Name y py)) l env = pure true := by
  have k1 : env.kindOf y = some .local := loc
  have k2 : env.blockKind = .function := by unfold Env.blockKind; rw [fn]; rfl
  unfold swapsWith
  simp only [k2, k1, no, Expr.pos, line]
  rfl
/-! ### sorted of a tuple of ints -/
/-- the list that collects the items of a tuple, at the heap's end -/
def gathered (h : Heap) (items : Array Value) : Heap := (h.push { cls := .type "list", data := .seq ([] : List Value).toArray }).update h.objs.size (Obj.mapSeq (· ++ items))
theorem gathered_old {h : Heap} {items : Array Value} {b : Addr} {o : Obj} (e : h.get? b = some o) : (gathered h items).get? b = some o := (Heap.get?_update_other _ _ (Nat.ne_of_gt (Heap.lt_size e))).trans (Heap.get?_push_of_some _ e)
theorem gathered_size {h : Heap} {items : Array Value} : h.objs.size ≤ (gathered h items).objs.size := by
  unfold gathered
  rw [Heap.size_update, Heap.size_push]
  exact Nat.le_succ _
theorem collectTup {prog : Program} {w : World} {A : Around} {E : Value → Shared → Prop} {s : Shared} {Q : List Value → Shared → Prop} {a : Addr} {o : Obj} {items : Array Value} {n : Nat} (ho : s.heap.get? a = some o) (hc : o.cls = .type "tuple") (hd : o.data = .seq items n) (len : items.size ≤ sizeLine)
    (q : Q items.toList { s with heap := gathered s.heap items }) : wpAny (model prog w) A (collect (.ref a)) Q E s := by
  obtain ⟨l, hl⟩ : ∃ l, l = s.heap.objs.size := ⟨_, rfl⟩
  have new : (s.heap.push { cls := .type "list", data := .seq ([] : List Value).toArray }).get? l = some { cls := .type "list", data := .seq #[] 0 } := by rw [hl]; exact Heap.get?_push_size _ rfl
  have filled := Heap.get?_update_self (Obj.mapSeq (· ++ items)) new rfl
  have sG : gathered s.heap items = (s.heap.push { cls := .type "list", data := .seq ([] : List Value).toArray }).update l (Obj.mapSeq (· ++ items)) := by rw [hl]; rfl
  rw [sG] at q
  have out : wpAny (model prog w) A (match Value.ref l with
      | Value.ref b => do
        match (← load b).data with
          | Data.seq xs _ => pure xs.toList
          | _ => unsupported "internal:collect"
      | _ => unsupported "internal:collect") Q E { s with heap := (s.heap.push { cls := .type "list", data := .seq ([] : List Value).toArray }).update l (Obj.mapSeq (· ++ items)) } := by
    show wpAny _ A (load l >>= _) _ _ _
    refine wpAny_bind (wpAny_load filled (wpAny_pure ?_))
    have e : ((#[] : Array Value) ++ items).toList = items.toList := by simp
    show Q ((#[] : Array Value) ++ items).toList _
    rw [e]; exact q
  unfold collect
  refine wpAny_bind (wpAny_runValue (codeAny_builtin F.entry_proto_collect ?_))
  rw [Around.under_plainId F.plain_proto_collect _]
  show wpAny _ A.in1 (newList [] >>= fun b => again (.builtin "list.__iadd__" ⟨[b, .ref a], []⟩)) _ _ s
  refine wpAny_bind (wpAny_newObj_type (wpAny_pure ⟨plainId_quiet F.plain_list_iadd _, codeAny_builtin F.entry_list_iadd ?_⟩))
  rw [Around.under_plainId F.plain_list_iadd _]
  rw [← hl]
  show wpAny _ A.in1 (Builtin.List.listExtendWith (.ref l) (.ref a) (.ref l)) _ _ _
  have goes := wpAny_extend_seq (prog := prog) (w := w) (hsz := len) (A := A) (R := fun r s' => r = .ok (.ret (.ref l)) ∧ s' = { s with heap := (s.heap.push { cls := .type "list", data := .seq ([] : List Value).toArray }).update l (Obj.mapSeq (· ++ items)) })
    (s := { s with heap := s.heap.push { cls := .type "list", data := .seq ([] : List Value).toArray } }) l a _ 0 (.inr rfl) new (Heap.get?_push_of_some _ ho) hc hd ⟨rfl, rfl⟩
  refine wpAny_mono goes (fun fin s' h => ?_) (fun e s' h => nomatch h.1)
  match fin, h with
  | .done f, ⟨e, es⟩ =>
    subst es
    cases e
    exact out
  | .again c, h => exact ⟨h.1, codeAny_mono h.2 fun r s2 hr => by
      obtain ⟨e1, e2⟩ := hr
      subst e1; subst e2
      exact out⟩
def rSortedTp (K : PySem.W.Frag) : List V → Hp → VK → Prop := fun vs H Q => ∃ (a : Addr) (ns : List Int), vs = [V.ref a] ∧ SqT K H a (ns.map V.int) ∧ ∀ (out : List Int) (p : Addr), out.Perm ns → out.Pairwise (· ≤ ·) → H p = none → Q (.ref p) (upd H p (.lst (out.map V.int)))
theorem cr_sortedTp : CallR X (.builtin "sorted") (rSortedTp X.K) := by
  intro pins s σ H args us Q I rel want
  obtain ⟨a, ns, rfl, hs, q⟩ := want
  obtain ⟨its, rv, ⟨o, ho, hc, n, hd⟩, hz⟩ := I.tuple hs
  rw [Vals.ref1 rel]
  have whole := rv.ints
  have len : its.length ≤ sizeLine := by rw [← rv.length]; exact hz
  refine Calls.call_function_entry kind_sorted plain_sorted entry_sorted (args_sorted1 _) ?_
  unfold Builtin.«sorted»
  refine wpAny_bind (m := checkCount "sorted" 1 1 _) (wpAny_pure ?_)
  refine wpAny_bind (collectTup ho hc hd (by rw [List.size_toArray]; exact len) ?_)
  obtain ⟨h1, e1⟩ : ∃ h1, h1 = gathered s.heap its.toArray := ⟨_, rfl⟩
  rw [← e1]
  have keep : ∀ b ob, s.heap.get? b = some ob → h1.get? b = some ob := fun b ob e => by rw [e1]; exact gathered_old e
  refine wpAny_bind (wpAny_newList ?_ len)
  -- the collected list, then the sorting
  obtain ⟨h2, e2⟩ : ∃ h2, h2 = h1.push (seqObj "list" its.toArray 0) := ⟨_, rfl⟩
  have at2 : h2.get? h1.objs.size = some (seqObj "list" its.toArray 0) := by rw [e2]; exact Heap.get?_push_size _ rfl
  have big : ∀ b ob, s.heap.get? b = some ob → b < h1.objs.size := fun b ob e => Heap.lt_size (keep b ob e)
  have older : ∀ b ob, s.heap.get? b = some ob → h2.get? b = some ob := fun b ob e => by rw [e2]; exact Heap.get?_push_of_some _ (keep b ob e)
  show wpAny _ _ _ _ _ { s with heap := h1.push (seqObj "list" its.toArray 0) }
  rw [← e2]
  refine wpAny_bind (wpAny_holding (wpAny_call_entry slot_list_sort ⟨_, at2, rfl⟩ entry_list_sort (SrtO.list_sort_ord SrtO.swo_int at2 len (fun two => SrtO.ints_sortable whole two) fun out sorted stable => ⟨_, rfl, ?_⟩) (args_list_sort _)))
  refine wpAny_pure ⟨_, rfl, ?_⟩
  obtain ⟨k1, k2, k3⟩ := SrtO.ints_out whole sorted stable
  obtain ⟨ep, there⟩ := sortedHeap_at (vs := its) (out := out.toArray) at2
  have few : ((out.map SrtO.iv).map V.int).length ≤ sizeLine := by
    rw [List.length_map, k2.length_eq]
    rw [List.length_map] at hz
    exact hz
  have sizeUp : s.heap.objs.size ≤ h1.objs.size := by rw [e1]; exact gathered_size
  exact ⟨.ref h1.objs.size, upd H h1.objs.size (.lst ((out.map SrtO.iv).map V.int)), I.laid (t' := s.toks) (fun b ob e => by
      rw [sortedHeap_old (Nat.ne_of_lt (big b ob e)) (by rw [e2, Heap.size_push]; exact Nat.lt_succ_of_lt (big b ob e))]; exact older b ob e) sizeUp ⟨few, out, ep, vals_of_ints k1, there⟩, rfl, q _ _ k2 k3 (I.hok.fresh sizeUp)⟩
/-! ### a * b of an own class -/
def rOwn (C : Addr) (sp : Sp) (E : XK) : R2 := fun x y H Q => ∃ (a b dx dy : Addr) (fs gs : List (Str × V)), x = .ref a ∧ y = .ref b ∧ H a = some (.ins C dx fs) ∧ H b = some (.ins C dy gs) ∧ sp [.ref a, .ref b] H (fun v H' => (∃ c, v = .ref c) ∧ Q v H') E
theorem op_own {CX : CXT} {k : Nat} {C f : Addr} {fd : FuncData} {ps : List Str} {sp : Sp} {E : XK} {op : Operator} (G : FnOk X.prog X.w X.K X.mg X.base CX k f fd ps sp) (hr : Room k X.A) (hb : Binds X.K fd ps []) (hx : Passes CX X E) (first : PySem.W.selfFirst X.K C = true)
    (there : PySem.W.findIn X.K (.ref C) (PySem.dunder op.info.2) = some (some (.ref f))) (fn : PySem.W.isFn X.K (.ref f) = true) : OpR X (binaryOp op) (rOwn C sp E) := by
  intro pins s σ H x y v u Q I rx ry want
  obtain ⟨a, b, dx, dy, fs, gs, rfl, rfl, ea, eb, q⟩ := want
  cases rx; cases ry
  obtain ⟨m, fr⟩ := I.fr
  obtain ⟨_, oa, _⟩ := ins_get I.hok ea
  obtain ⟨_, ob, _⟩ := ins_get I.hok eb
  obtain ⟨_, la, _⟩ := oa.look
  obtain ⟨_, lb, _⟩ := ob.look
  refine PySem.W.binop_K fr I.ok.mod.kin la lb.type first there fn ?_
  have run := run_fn (vs := [.ref a, .ref b]) (us := [.ref a, .ref b]) G hr hb .nil hx I (.cons rfl (.cons rfl .nil)) q
  refine thn run fun w s2 got => ?_
  obtain ⟨z, H2, I2, rz, ⟨c, hz⟩, q2⟩ := got
  subst hz
  cases rz
  exact ⟨.ref c, H2, I2, rfl, q2⟩
end
end WG
set_option Elab.async false
set_option linter.all false
set_option maxRecDepth 100000
/-! WH: tuple-keyed dicts, sorted tuples, the class of curves, at the level of data -/
namespace WH
open PySem PySem.Spec PyProof.Rows L2 WA WD WE WF WG
section
variable {K : PySem.W.Frag} {C : Addr} {Γ : List Sl} {nx bk ct : List Sl → Prop} {rt : Dt → Prop} {t u : TS}
theorem ed_dcT {wi : TI} {k n : Nat} {f : Nat → Int} {tk tv : TE} {ks : List (List Int)} {es : List Dt} (hi : EvI K C wi Γ (upto n f) (fun _ => True)) (hz : n ≤ 40000) (hk : ks.length = n) (he : es.length = n) (nd : ks.Nodup)
    (step : ∀ (i : Nat) (x : List Int) (e : Dt), i < n → ks[i]? = some x → es[i]? = some e → EvD K C tk ((Γ.set k .un).set k (.da (.int (f i)))) (.tup (x.map Dt.int)) ∧ EvD K C tv ((Γ.set k .un).set k (.da (.int (f i)))) e) : EvD K C (tDcT wi (gName k) tYes tk tv [k]) Γ (.dct ks es) := fun H0 B H σ E Q q =>
  hi H0 B H σ E _ fun J B1 H1 P1 ok p np => by
    have hnp : H p = none := fresh_of P1 np
    have no := (E.post P1).unowned np
    have start : Mid (K := K) (C := C) H0 B H B1 B1 (upd H1 p (.dT [])) σ p Γ := by
      have P2 := Post.own (o := .dT []) P1.sub np
      exact ⟨fun _ _ e => e, P1.trans P2, (E.post P1).post P2, sub_none P1.sub np⟩
    refine ⟨fun i m H2 => i + m = n ∧ ∃ B2 acc, Mid (K := K) (C := C) H0 B H B1 B2 H2 σ p Γ ∧ H2 p = some (.dT (List.zip ((ks.take i).map fun k => k.map Sum.inl) acc)) ∧ Iss K C B2 acc (es.take i), ⟨n, by omega, B1, [], start, upd_same, by rw [List.take_zero]; exact .nil⟩, fun i m H2 ⟨hm, B2, acc, M, hp, ka⟩ => ?_⟩
    obtain ⟨st, go⟩ := ok B2 H2 σ Γ M.s M.E trivial i
    rw [upto_len] at st
    by_cases h : n ≤ i
    · refine .inl ⟨st h, ?_⟩
      rw [show i = n by omega] at hp ka
      rw [← he, List.take_length] at ka
      rw [← hk, List.take_length] at hp
      refine q _ (upd B2 p (.dT (List.zip (ks.map fun k => k.map Sum.inl) acc))) H2 ?_ (.dct upd_same (by rw [hk, ka.len, he]) (ka.mono (sub_upd M.n)))
      refine ⟨fun a o e => sub_upd M.n _ _ (M.P.bb _ _ e), M.P.hh, fun a e => by rw [upd_ne fun z => e (by rw [z]; exact hnp)]; exact M.P.fr a e, fun a o e => ?_⟩
      by_cases ha : a = p
      · subst ha; rw [upd_same] at e; rw [hp]; exact e
      · rw [upd_ne ha] at e; exact M.P.sub _ _ e
    · obtain ⟨d, hd⟩ := get_lt (show i < (upto n f).length by rw [upto_len]; omega)
      obtain ⟨hin, rfl⟩ := upto_at hd
      obtain ⟨kx, hkx⟩ := get_lt (show i < ks.length by omega)
      obtain ⟨e, he'⟩ := get_lt (show i < es.length by omega)
      obtain ⟨s1, s2⟩ := step i kx e hin hkx he'
      refine .inr ⟨(go _ hd).1, fun H' => (i + 1) + (m - 1) = n ∧ ∃ B2 acc, Mid (K := K) (C := C) H0 B H B1 B2 H' σ p Γ ∧ H' p = some (.dT (List.zip ((ks.take (i + 1)).map fun k => k.map Sum.inl) acc)) ∧ Iss K C B2 acc (es.take (i + 1)), fun H' w => ⟨m - 1, by omega, w⟩, fun x H' hy => ?_⟩
      obtain ⟨B', P', k'⟩ := (go _ hd).2 x H' hy
      have M' := M.go (ne_none hp) P'
      have E3 := (M'.E.wipe [k]).setD (i := k) k'
      refine ⟨(wipe_set (by simp)).trans (wipe_wipe σ [k]), ?_⟩
      dsimp only [tYes]
      rw [if_pos rfl]
      refine s1 H0 B' H' _ E3 _ fun y B4 H4 P4 ky => s2 H0 B4 H4 _ (E3.post P4) _ fun z B5 H5 P5 kz => ?_
      obtain ⟨b, ws, rfl, eb, kb⟩ := is_tup ky
      obtain rfl := kb.ints
      have PP := (P'.trans P4).trans P5
      have hp5 := PP.hh _ _ hp
      refine ⟨_, kx.map Sum.inl, b, rfl, ?_, hp5, ?_, by omega, B5, acc ++ [z], M.wr hnp no (ne_none hp) PP _, ?_, ?_⟩
      · rw [P5.hh _ _ (P4.sub _ _ eb), List.map_map]; rfl
      · rw [List.length_zip, List.length_map, List.length_take]
        have := line40
        omega
      · rw [upd_same, WF.putK_new]
        · rw [List.take_succ, hkx]
          show _ = some (HO.dT (List.zip ((ks.take i ++ [kx]).map fun k => k.map Sum.inl) (acc ++ [z])))
          rw [List.map_append]
          show _ = some (HO.dT (List.zip (((ks.take i).map fun k => k.map Sum.inl) ++ [kx.map Sum.inl]) (acc ++ [z])))
          rw [zip_snoc _ _ _ _ (by rw [List.length_map, List.length_take, ka.len, List.length_take]; omega)]
        · intro kv hkv zz
          have h1 := mem_zip_fst hkv
          rw [zz] at h1
          obtain ⟨w, hw, hw'⟩ := List.mem_map.mp h1
          obtain rfl := inls_inj hw'
          obtain ⟨j, hj⟩ := List.getElem?_of_mem hw
          rw [List.getElem?_take] at hj
          split at hj
          · have e1 := (List.getElem?_eq_some_iff.mp hj)
            have e2 := (List.getElem?_eq_some_iff.mp hkx)
            exact absurd (e1.2.trans e2.2.symm) (List.pairwise_iff_getElem.mp nd j i e1.1 e2.1 (by assumption))
          · cases hj
      · rw [List.take_succ, he']
        exact (ka.mono PP.bb).snoc kz
theorem rcn_sortedTp {ns ms : List Int} (p : ms.Perm ns) (hs : ms.Pairwise (· ≤ ·)) : RCN K C (rSortedTp K) [.tup (ns.map Dt.int)] (ms.map Dt.int) := fun B H vs s k Q q => by
  obtain ⟨v, rfl, k1⟩ := iss1 k
  obtain ⟨a, ws, rfl, e, k⟩ := is_tup k1
  obtain rfl := k.ints
  refine ⟨a, ns, rfl, rd_tup (s _ _ e), fun ns' l p' hs' n => ?_⟩
  obtain rfl : ns' = ms := sorted_unique (p'.trans p.symm) hs' hs
  exact q l _ B _ (Post.own s n) n (sub_none s n) upd_same (Iss.of_ints _)
/-! ### curves -/
theorem is_cur {B : Hp} {v : V} {d : Dt} (k : Is K C B v (.cur d)) : ∃ a dx w, v = .ref a ∧ B a = some (.ins C dx [("knots", w)]) ∧ Is K C B w d := by
  cases k with
  | cur e k => exact ⟨_, _, _, rfl, e, k⟩
theorem ed_fld {te : TE} {d : Dt} (h : EvD K C te Γ (.cur d)) (hc : Cls K C) (hn : NoAttr K C "knots") : EvD K C (tFld K te "knots") Γ d := fun H0 B H σ E Q q => h H0 B H σ E _ fun v B1 H1 P1 k1 => by
  obtain ⟨a, dx, w, rfl, e, kw⟩ := is_cur k1
  exact ⟨a, C, dx, _, w, rfl, P1.sub _ _ e, hc, hn, rfl, q w B1 H1 P1 kw⟩
theorem ed_prop {te : TE} {d z : Dt} {R : List Dt → Dt → Prop} {Ex : XK} (h : EvD K C te Γ (.cur d)) (hr : R [.cur d] z) : EvD K C (tProp C (SpD K C R) [] Ex te) Γ z := fun H0 B H σ E Q q => h H0 B H σ E _ fun v B1 H1 P1 k1 => by
  obtain ⟨a, dx, w, rfl, e, kw⟩ := is_cur k1
  exact ⟨a, dx, _, rfl, P1.sub _ _ e, B1, [.cur d], z, P1.sub, .one k1, hr, fun v B2 H2 P2 k2 => q v B2 H2 (P1.trans P2) k2⟩
theorem ed_own {ta tb : TE} {d e z : Dt} {R : List Dt → Dt → Prop} {Ex : XK} (h : EvD K C ta Γ (.cur d)) (k : EvD K C tb Γ (.cur e)) (hr : R [.cur d, .cur e] (.cur z)) : EvD K C (tOp (rOwn C (SpD K C R) Ex) ta tb) Γ (.cur z) := fun H0 B H σ E Q q =>
  h H0 B H σ E _ fun v B1 H1 P1 k1 => k H0 B1 H1 σ (E.post P1) _ fun u B2 H2 P2 k2 => by
    have k1' := k1.mono P2.bb
    obtain ⟨a, dx, w, rfl, e1, _⟩ := is_cur k1'
    obtain ⟨b, dy, w', rfl, e2, _⟩ := is_cur k2
    refine ⟨a, b, dx, dy, _, _, rfl, rfl, P2.sub _ _ e1, P2.sub _ _ e2, B2, [.cur d, .cur e], .cur z, P2.sub, .cons k1' (.one k2), hr, fun v B3 H3 P3 k3 => ⟨?_, q v B3 H3 ((P1.trans P2).trans P3) k3⟩⟩
    obtain ⟨c, _, _, rfl, _⟩ := is_cur k3
    exact ⟨c, rfl⟩
/-- __init__'s promise: the new object gets its knots -/
def SpI (K : PySem.W.Frag) (C : Addr) (G : List Dt → Prop) : Sp := fun vs H Q _ => ∃ (B0 H0 : Hp) (x dx : Addr) (v : V) (ks : List Dt), vs = [.ref x, v] ∧ WA.Sub B0 H0 ∧ H0 x = none ∧ H0 dx = none ∧ dx ≠ x ∧ H = upd (upd H0 dx (.own x)) x (.ins C dx []) ∧ Is K C B0 v (.tup ks) ∧ G ks ∧
  ∀ B' H', Post B0 H0 B' H' → Is K C B' (.ref x) (.cur (.tup ks)) → Q .non H'
theorem ed_make {ta : TA} {ks : List Dt} {G : List Dt → Prop} {Ex : XK} (h : EvA K C ta Γ [.tup ks]) (hg : G ks) : EvD K C (tMake C (SpI K C G) [] Ex ta) Γ (.cur (.tup ks)) := fun H0 B H σ E Q q => h H0 B H σ E _ fun vs B1 H1 P1 k1 x dx nx nd ne => by
  obtain ⟨v, rfl, k⟩ := iss1 k1
  exact ⟨B1, H1, x, dx, v, ks, rfl, P1.sub, nx, nd, ne, rfl, k, hg, fun B' H' P' kc => ⟨rfl, q _ B' H' (P1.trans P') kc⟩⟩
/-- self.knots = .., and the object stays -/
theorem do_fld {tv : TE} {i : Nat} {x dx : Addr} {d : Dt} (h : Γ[i]? = some (.me x dx [])) (hv : EvD K C tv Γ d) (hc : Cls K C) (hn : NoAttr K C "knots") (hx : nx (Γ.set i (.ad (.ref x) (.cur d)))) : Do K C (sFld K (tVar i) tv "knots") Γ nx rt bk ct := fun B0 H0 B H σ P E D n r b c =>
  hv H0 B H σ E _ fun v B1 H1 P1 k1 => by
    have E1 := E.post P1
    obtain ⟨o, eo, es, eB, e0, eH⟩ := E1.at h
    subst es
    have P01 := P.trans P1
    have sB := sub_upd (o := .ins C dx [("knots", v)]) eB
    have kc : Is K C (upd B1 x (.ins C dx [("knots", v)])) (.ref x) (.cur d) := .cur upd_same (k1.mono sB)
    have P2 : Post B0 H0 (upd B1 x (.ins C dx [("knots", v)])) (upd H1 x (.ins C dx [("knots", v)])) :=
      ⟨P01.bb.tr sB, fun a u e => by rw [upd_ne (ne_of_none e e0)]; exact P01.hh _ _ e, fun a e => by rw [upd_ne fun z => e (by rw [z]; exact e0)]; exact P01.fr a e, sub_upd2 P01.sub⟩
    refine ⟨.ref x, eo, x, C, dx, [], rfl, eH, hc, hn, by decide, ?_⟩
    have E2 : WA.Env K C H0 (upd B1 x (.ins C dx [("knots", v)])) (upd H1 x (.ins C dx [("knots", v)])) σ (Γ.set i (.ad (.ref x) (.cur d))) :=
      E1.chg h sB P2.sub (fun a na _ _ => ⟨upd_ne fun z => na z.symm, upd_ne fun z => na z.symm⟩) (fun o' ho => by rw [eo] at ho; obtain rfl := Option.some.inj ho; exact ⟨rfl, kc⟩) (fun _ z => z.elim)
    exact n _ _ _ σ hx (P1.bb.tr sB) P2 E2
theorem ok_doI {P : Program} {w : World} {mg : Str → Option Value} {base : Heap} {x qual : Str} {st : Stmt} {f : Addr} {fd : FuncData} {N ps : List Str} {k : Nat} {G : List Dt → Prop} (F : Fun K x qual st f fd) (S : FnScope N ps (defScope st)) (hlen : ps.length = 2)
    (body : ∀ (cdv : Value) (A : Around) (outer : List PySem.Env) (s : Shared) (H : Hp) (E : XK), Room k (A.deeper (envOfC qual (defScope st) s.heap.objs.size f cdv)) →
      ∃ t, PSs (cxOf CX0 P w K mg base N qual (defScope st) f cdv A outer s H E).nox (defBody st) t ∧ ∀ x dx ks, G ks → Do K C t (.me x dx [] :: .da (.tup ks) :: List.replicate (N.length - 2) .un) (fun Γ' => Γ'[0]? = some (.ad (.ref x) (.cur (.tup ks)))) (fun _ => False) (fun _ => False) (fun _ => False)) :
    FnOk P w K mg base CX0 (k + 1) f fd ps (SpI K C G) := by
  refine F.ok S (fun vs H Q E ⟨_, _, _, _, _, _, h, _⟩ => by rw [h, hlen]; rfl) fun cdv A outer s H vs Q E hr h => ?_
  obtain ⟨t, ht, hd⟩ := body cdv A outer s H E hr
  obtain ⟨B0, H0, x, dx, v, ks, rfl, s0, nx, nd, ne, rfl, kv, hg, q⟩ := h
  refine ⟨t, ht, ?_⟩
  have es : L2.start N [V.ref x, v] = [some (V.ref x), some v] ++ List.replicate (N.length - 2) none := rfl
  rw [es]
  have P1 := Post.own (o := .own x) s0 nd
  have nx1 : (upd H0 dx (.own x)) x = none := by rw [upd_ne (Ne.symm ne)]; exact nx
  have PP := P1.trans (Post.own (o := .ins C dx []) P1.sub nx1)
  have e0 := env_start (K := K) (C := C) s0 (vs := [.non, v]) (ds := [.non, .tup ks]) (N.length - 2) (.cons .non (.one kv))
  have e1 : WA.Env K C H0 B0 (upd (upd H0 dx (.own x)) x (.ins C dx [])) ([some (V.ref x), some v] ++ List.replicate (N.length - 2) none) (.me x dx [] :: .da (.tup ks) :: List.replicate (N.length - 2) .un) := by
    have z := (e0.post PP).setG (i := 0) (o := some (.ref x)) (g := .me x dx []) ⟨rfl, sub_none s0 nx, nx, upd_same⟩ fun a j g' ha hg' hga => by
      have : x = a := ha
      subst this
      exact absurd hga (e0.unowned nx j g' hg')
    exact z
  refine hd x dx ks hg B0 H0 B0 _ _ PP e1 _ (fun Γ' B' H' σ' e2 _ P2 E2 => ?_) (fun v d' B' H' e2 _ _ => e2.elim) (fun _ _ _ _ z => z.elim) (fun _ _ _ _ z => z.elim)
  show Q .non H'
  obtain ⟨o, _, _, kc⟩ := E2.at e2
  exact q B' H' P2 kc
end
end WH
set_option Elab.async false
set_option linter.all false
set_option maxRecDepth 100000
/-! WK: rules of the layer with the fragment named, for the blocks of comprehensions -/
namespace WK
open PySem PySem.Spec PyProof.Rows L2 WE
section
variable {X : Cx} {K : PySem.W.Frag} {tg : Expr}
theorem kx_list (h : X.K = K) : IxR X (rIxL K) := h ▸ ix_list
theorem kx_tup (h : X.K = K) : IxR X (rIxT K) := h ▸ ix_tup
theorem ks_list (h : X.K = K) : SlR X (rSlL K) := h ▸ sl_list
theorem ks_tupA (h : X.K = K) : SlR X (rSlA K) := h ▸ sl_tupA
theorem k_catA (h : X.K = K) : OpR X (binaryOp .Add) (rCatA K) := h ▸ op_catA
theorem k_eqD (h : X.K = K) (hu : X.A.units + 64 < cLine) : OpR X (compareOp .Eq) (rEqD K) := h ▸ op_eqD hu
theorem k_neD (h : X.K = K) (hu : X.A.units + 64 < cLine) : OpR X (compareOp .NotEq) (rNeD K) := h ▸ op_neD hu
theorem k_len (h : X.K = K) : CallR X (.builtin "len") (rLn K) := h ▸ call_len_seq
theorem k_listOf (h : X.K = K) : CallR X (.type "list") (rLs K) := h ▸ call_list_of
theorem k_tupOf (h : X.K = K) : CallR X (.type "tuple") (rTp K) := h ▸ call_tuple_of
theorem k_sum (h : X.K = K) (hc : X.calm = true) : CallR X (.builtin "sum") (rSum K) := h ▸ cr_sum hc
theorem kpi_list (h : X.K = K) {l : Expr} {tl : TE} (hl : PE X l tl) : PI X tg l (iList K tl) := h ▸ pi_list hl
theorem kpi_tup (h : X.K = K) {l : Expr} {tl : TE} (hl : PE X l tl) : PI X tg l (iTup K tl) := h ▸ pi_tup hl
theorem pg_pair {es : List Expr} {k : Nat} {pos : Pos} {t : TGs} (h : X.K = K) (hc : X.calm = true) (hs : PGs X es t) (hn : (assignEach es X.env).length = 2 := by rfl) (hst : (assignEach es X.env).findIdx? (·.1) = none := by rfl) : PG X (.Tuple es k pos) (gTup K 2 t) := h ▸ pg_tup hc hs hn hst
end
end WK
set_option Elab.async false
set_option linter.all false
set_option maxRecDepth 100000
set_option maxHeartbeats 4000000
/-! W3: the elimination -/
namespace W3
open PySem PySem.Spec PyProof.Rows L2 WA WB WT WC ML W1 W2 WD WE WF WG WH WK
variable {P : Program} {w : World} {K : PySem.W.Frag} {mg : Str → Option Value} {base : Heap} {C : Addr} {k : Nat} {f : Addr} {fd : FuncData}
open ME (gt wo firstNZ unitRow hat stp rw_ cl)
/-- rows of ratios: a list, a tuple; a tuple of tuples -/
def rl (r : List Rat) : Dt := .lst (r.map Dt.rat)
def rtp (r : List Rat) : Dt := .tup (r.map Dt.rat)
def mD (M : List (List Rat)) : Dt := .tup (M.map rtp)
theorem rat_at {r : List Rat} {i : Nat} (h : i < r.length) : (r.map Dt.rat)[i]? = some (.rat (gt r i)) := by rw [List.getElem?_map, ME.get_of_gt h]; rfl
theorem rat_of {r : List Rat} {i : Nat} {d : Dt} (h : (r.map Dt.rat)[i]? = some d) : i < r.length ∧ d = .rat (gt r i) := by
  have hi := get_le h
  rw [List.length_map] at hi
  rw [rat_at hi] at h
  exact ⟨hi, (Option.some.inj h).symm⟩
theorem map_at {α : Type} {f : α → Dt} {l : List α} {i : Nat} {d : Dt} (h : (l.map f)[i]? = some d) : ∃ a, l[i]? = some a ∧ d = f a := by
  rw [List.getElem?_map] at h
  obtain ⟨a, h1, h2⟩ := Option.map_eq_some_iff.mp h
  exact ⟨a, h1, h2.symm⟩
theorem at_map {α : Type} {f : α → Dt} {l : List α} {i : Nat} {a : α} (h : l[i]? = some a) : (l.map f)[i]? = some (f a) := by rw [List.getElem?_map, h]; rfl
theorem ed_zero {Γ : List Sl} {ta tb : TE} (ha : EvD K C ta Γ (.int 0)) (hb : EvD K C tb Γ (.int 1)) : EvD K C (tTup (tCons ta (tCons tb tNil))) Γ (.rat 0) := ed_rat (ea_2 ha hb) rfl rfl
def R_without (ds : List Dt) (d : Dt) : Prop := ∃ (row other : List Rat) (c : Nat), ds = [rl row, rl other, .int (c : Int)] ∧ other.length = row.length ∧ c < row.length ∧ row.length ≤ 40000 ∧
  (∀ l, l < row.length → Lim (gt row l) ∧ Lim (gt other l) ∧ Lim (gt row c * gt other l) ∧ Lim (gt row l - gt row c * gt other l)) ∧ d = rl (wo row other c)
theorem ok_without (F : Fun K "without" "without" s_without f fd) (A : Ops P w K mg base C k) (m_zip : mg "zip" = none) : FnOk P w K mg base CX0 (k + 1) f fd ["row", "other", "column"] (SpD K C R_without) := by
  have A_subtract := A.sub
  have A_multiply := A.mul
  refine ok_do F sc_without (fun ds d ⟨a, b, c, h, _⟩ => by rw [h]; rfl) fun cdv A outer s H E hr => ⟨_,
      (pss_cons (ps_set (i := 3) sc_without.nd rfl (.inr rfl) (pe_ix ix_list (pv 0) (pv 2) (fun _ _ => rfl)))
      (pss_cons (ps_if (pt_cmpR (op_eqD hr.units) (pv 3) (pe_tup (pa_cons pe_int (pa_cons pe_int pa_nil))) (nomark _))
      (pss_one (ps_ret (pv 0)))
      pss_nil)
      (pss_one (ps_ret (pe_lc (own := [("a", 4), ("b", 5)]) rfl sc_without.nd (pi_zip (by rfl) m_zip (pa_cons (pv 0) (pa_cons (pv 1) pa_nil))) (blkOk_by (N := N_without) (sc := defScope s_without) (by decide +kernel)) (fun _ _ _ _ _ => (pg_pair (K := K) rfl rfl (pgs_cons (pg_name (i := 4) sc_without.nd rfl (.inl rfl) (.inr rfl)) (pgs_cons (pg_name (i := 5) sc_without.nd rfl (.inl rfl) (.inr rfl)) pgs_nil)))) (fun _ _ _ _ _ => pts_nil) (fun _ _ _ _ _ => (pe_call A_subtract.ok hr (by rfl) A_subtract.g A_subtract.kp A_subtract.b .nil pass0 (pa_cons (pv 4) (pa_cons (pe_call A_multiply.ok hr (by rfl) A_multiply.g A_multiply.kp A_multiply.b .nil pass0 (pa_cons (pv 3) (pa_cons (pv 5) pa_nil))) pa_nil))))))))), ?_⟩
  rintro _ _ ⟨row, other, c, rfl, hl, hc, hz, hL, rfl⟩
  obtain ⟨Lc, _⟩ := hL c hc
  refine do_setc (ed_ixL (ed_var rfl).l (ed_var rfl) (rat_at hc)) ?_
  refine do_seq (fun Γ => gt row c ≠ 0 ∧ Γ = [.da (rl row), .da (rl other), .da (.int (c : Int)), .da (.rat (gt row c)), .un, .un]) (do_if (et_test (ed_op (ed_var rfl) (ed_zero ed_int ed_int) rd_eqR)) (fun e => ?_) fun e => ?_) ?_
  · have e' := of_decide_eq_true e
    refine do_ret (ed_var rfl) ?_
    unfold wo
    rw [if_pos e']
  · exact do_next ⟨of_decide_eq_false e, rfl⟩
  · rintro _ ⟨hne, rfl⟩
    have ev : wo row other c = List.zipWith (fun a b => a - gt row c * b) row other := by unfold wo; rw [if_neg hne]
    refine do_ret (EvN.d (en_lcS (es := (wo row other c).map Dt.rat) (ei_zip (ea_2 (ed_var rfl) (ed_var rfl))) trivial ?_ ?_ fun i d e hd he => ?_)) rfl
    · unfold zipD; rw [List.length_zipWith, List.length_map]; omega
    · unfold zipD; rw [List.length_zipWith, List.length_map, ME.wo_len hl, List.length_map, List.length_map]; omega
    · obtain ⟨a, b, ha, hb, rfl⟩ := zipD_at hd
      obtain ⟨hi, rfl⟩ := rat_of ha
      obtain ⟨_, rfl⟩ := rat_of hb
      obtain ⟨_, rfl⟩ := rat_of he
      obtain ⟨l1, l2, l3, l4⟩ := hL i hi
      refine ⟨_, tgc_pair (by simp) (by simp), ?_⟩
      rw [ME.gt_wo hl hi]
      exact ed_sub (ed_var rfl) (ed_mul (ed_var rfl) (ed_var rfl) Lc l2 l3) l1 l3 l4
def R_first (ds : List Dt) (d : Dt) : Prop := ∃ (row : List Rat) (n c : Nat), ds = [rl row, .int (n : Int)] ∧ n ≤ row.length ∧ n ≤ 40000 ∧ firstNZ row n = some c ∧ d = .int (c : Int)
theorem firstNZ_spec {row : List Rat} {n c : Nat} (h : firstNZ row n = some c) : c < n ∧ gt row c ≠ 0 ∧ ∀ i, i < c → gt row i = 0 := by
  unfold firstNZ at h
  obtain ⟨h1, as, bs, h2, h3⟩ := List.find?_eq_some_iff_append.mp h
  have hc : c < n := by
    have : c ∈ List.range n := by rw [h2]; simp
    exact List.mem_range.mp this
  refine ⟨hc, of_decide_eq_true h1, fun i hi => ?_⟩
  have hin : i ∈ as := by
    have hr : (List.range n)[i]? = some i := List.getElem?_range (by omega)
    have hcl : as.length = c := by
      have : (List.range n)[as.length]? = some c := by rw [h2, List.getElem?_append_right (Nat.le_refl _), Nat.sub_self]; rfl
      have hlt := get_le this
      rw [List.length_range] at hlt
      rw [List.getElem?_range hlt] at this
      exact Option.some.inj this
    rw [h2, List.getElem?_append_left (by omega)] at hr
    exact List.mem_of_getElem? hr
  have := h3 i hin
  simpa using this
theorem ok_first (F : Fun K "first_nonzero" "first_nonzero" s_first_nonzero f fd) (m_range : mg "range" = none) : FnOk P w K mg base CX0 (k + 1) f fd ["row", "size"] (SpD K C R_first) := by
  refine ok_do F sc_first_nonzero (fun ds d ⟨a, b, c, h, _⟩ => by rw [h]; rfl) fun cdv A outer s H E hr => ⟨_,
      (pss_cons (ps_for PassesOwn.never rfl (pi_range1 (by rfl) m_range (pa_cons (pv 1) pa_nil)) (pg_name (i := 2) sc_first_nonzero.nd rfl (.inl rfl))
      (pss_one (ps_if (pt_cmpR (op_neD hr.units) (pe_ix ix_list (pv 0) (pv 2) (fun _ _ => rfl)) (pe_tup (pa_cons pe_int (pa_cons pe_int pa_nil))) (nomark _))
        (pss_one (ps_ret (pv 2)))
        pss_nil)))
      (pss_one (ps_ret pe_non))), ?_⟩
  rintro _ _ ⟨row, n, c, rfl, hn, hz, hf, rfl⟩
  obtain ⟨hc, h1, h2⟩ := firstNZ_spec hf
  refine do_seq (fun _ => False) ?_ fun _ z => z.elim
  refine do_forR (fun i Γ => (∃ x, Γ = [.da (rl row), .da (.int (n : Int)), x]) ∧ ∀ j, j < i → gt row j = 0) (ei_rng1 (ea_1 (ed_var rfl)) (by omega)) ⟨⟨_, rfl⟩, fun j h => by omega⟩ (fun i Γ' hi hv => ?_) fun Γ' hv => ?_
  · obtain ⟨⟨x, rfl⟩, hz0⟩ := hv
    refine do_if (et_test (ed_op (ed_ixL (ed_var rfl).l (ed_var rfl) (rat_at (by omega))) (ed_zero ed_int ed_int) rd_neR)) (fun e => do_ret (ed_var rfl) ?_) fun e => do_next ⟨⟨_, rfl⟩, fun j hj => ?_⟩
    · have e' : gt row i ≠ 0 := by simpa using e
      have : i = c := by
        rcases Nat.lt_trichotomy i c with q | q | q
        · exact absurd (h2 i q) e'
        · exact q
        · exact absurd (hz0 c q) h1
      rw [this]
    · by_cases hji : j = i
      · have e' : gt row i = 0 := by simpa using e
        rw [hji]; exact e'
      · exact hz0 j (by omega)
  · exact h1 (hv.2 c hc)
end W3
set_option Elab.async false
set_option linter.all false
set_option maxRecDepth 100000
set_option maxHeartbeats 8000000
/-! W4: solve -/
namespace W4
open PySem PySem.Spec PyProof.Rows L2 WA WB WT WC ML W1 W2 WD WE WF WG WH WK W3
variable {P : Program} {w : World} {K : PySem.W.Frag} {mg : Str → Option Value} {base : Heap} {C : Addr} {k : Nat} {f : Addr} {fd : FuncData}
open ME (gt wo firstNZ unitRow hat stp rw_ cl Sys)
/-- what the elimination computes is small -/
structure LS (n kk : Nat) (M b : List (List Rat)) : Prop where
  pt : ∀ a i l, a < n → i ≤ a → l < n + kk + n → Lim (MS.pt n M b a i l)
  row : ∀ a j l, a ≤ n → j < a → l < n + kk + n → Lim (rw_ (stp n M b a).2 j l)
  prod : ∀ a i l, a < n → i < a → l < n + kk + n → Lim (MS.pt n M b a i (cl (stp n M b a).1 i) * rw_ (stp n M b a).2 i l)
  quo : ∀ a l, a < n → l < n + kk + n → Lim (MS.pt n M b a a l / MS.pt n M b a a (MT.pc n M b a))
  prod2 : ∀ a j l, a < n → j < a → l < n + kk + n → Lim (rw_ (stp n M b a).2 j (MT.pc n M b a) * (MS.pt n M b a a l / MS.pt n M b a a (MT.pc n M b a)))
theorem LS.of {n kk h : Nat} {M b : List (List Rat)} (Y : Sys n kk M b) (R : MS.Rows h n kk M b) (hk : 0 < kk) (h9 : n ≤ 9) (h8 : h ≤ 8) (hL : MS.bt h n + 130 ≤ 4400) : LS n kk M b :=
  ⟨fun a i l ha hi hl => MT.lim_pt Y R hk h9 h8 hL ha hi hl, fun a j l ha hj hl => MT.lim_row Y R hk h9 hL ha hj hl, fun a i l ha hi hl => MT.lim_prod Y R hk h9 h8 hL ha hi hl, fun a l ha hl => MT.lim_quo Y R hk h9 h8 hL ha hl, fun a j l ha hj hl => MT.lim_prod2 Y R hk h9 h8 hL ha hj hl⟩
/-- the row at a, i rows taken from it -/
def pr (n : Nat) (M b : List (List Rat)) (a i : Nat) : List Rat := ((List.zip (stp n M b a).1 (stp n M b a).2).take i).foldl (fun r p => wo r p.2 p.1) (hat n M b a)
section
variable {n kk : Nat} {M b : List (List Rat)} (Y : Sys n kk M b)
include Y
theorem pr_len {a i : Nat} (ha : a < n) (hi : i ≤ a) : (pr n M b a i).length = n + kk + n := ((ME.inv_all Y a (Nat.le_of_lt ha)).part Y (Y.hlen ha) i hi).1
theorem pr_gt {a i l : Nat} (ha : a < n) (hi : i ≤ a) (hl : l < n + kk + n) : gt (pr n M b a i) l = MS.pt n M b a i l := ((ME.inv_all Y a (Nat.le_of_lt ha)).part Y (Y.hlen ha) i hi).2 l hl
theorem pr_zero (a : Nat) : pr n M b a 0 = hat n M b a := rfl
theorem zip_at {a i : Nat} (ha : a ≤ n) (hi : i < a) : (List.zip (stp n M b a).1 (stp n M b a).2)[i]? = some (cl (stp n M b a).1 i, (stp n M b a).2.getD i []) := by
  have I := ME.inv_all Y a ha
  have h1 := I.lc
  have h2 := I.lr
  rw [List.getElem?_zip_eq_some]
  exact ⟨ME.getD_get (by omega), ME.getD_get (by omega)⟩
theorem pr_succ {a i : Nat} (ha : a < n) (hi : i < a) : pr n M b a (i + 1) = wo (pr n M b a i) ((stp n M b a).2.getD i []) (cl (stp n M b a).1 i) := by
  unfold pr
  rw [List.take_succ, zip_at Y (Nat.le_of_lt ha) hi, List.foldl_append]; rfl
theorem pr_all {a : Nat} (ha : a < n) : pr n M b a a = ME.red (stp n M b a).1 (stp n M b a).2 (hat n M b a) := by
  have I := ME.inv_all Y a (Nat.le_of_lt ha)
  unfold pr ME.red
  rw [List.take_of_length_le (by rw [List.length_zip, I.lc, I.lr]; omega)]
theorem stp_fst {a : Nat} : (stp n M b (a + 1)).1 = (stp n M b a).1 ++ [MT.pc n M b a] := rfl
theorem stp_snd {a : Nat} : (stp n M b (a + 1)).2 = ((stp n M b a).2.map fun o => wo o ((pr n M b a a).map fun x => x / gt (pr n M b a a) (MT.pc n M b a)) (MT.pc n M b a)) ++ [(pr n M b a a).map fun x => x / gt (pr n M b a a) (MT.pc n M b a)] := by
  by_cases ha : a < n
  · rw [pr_all Y ha]; rfl
  · have e : pr n M b a a = ME.red (stp n M b a).1 (stp n M b a).2 (hat n M b a) ∨ True := .inr trivial
    have I : (stp n M b a).1.length = a ∧ (stp n M b a).2.length = a := by
      clear e ha
      induction a with
      | zero => exact ⟨rfl, rfl⟩
      | succ a ih =>
        obtain ⟨h1, h2⟩ := ih
        refine ⟨?_, ?_⟩
        · show ((stp n M b a).1 ++ [_]).length = a + 1
          rw [List.length_append, h1]; rfl
        · show (((stp n M b a).2.map _) ++ [_]).length = a + 1
          rw [List.length_append, List.length_map, h2]; rfl
    have e2 : pr n M b a a = ME.red (stp n M b a).1 (stp n M b a).2 (hat n M b a) := by
      unfold pr ME.red
      rw [List.take_of_length_le (by rw [List.length_zip, I.1, I.2]; omega)]
    rw [e2]; rfl
end
/-- columns, rows -/
def cD (cs : List Nat) : List Dt := cs.map fun (c : Nat) => Dt.int (c : Int)
def rD (rs : List (List Rat)) : List Dt := rs.map rl
def R_solve (ds : List Dt) (d : Dt) : Prop := ∃ (n kk : Nat) (M b : List (List Rat)), ds = [mD M, mD b] ∧ Sys n kk M b ∧ LS n kk M b ∧ n ≤ 9 ∧ kk ≤ 9 ∧ d = .tup [.str "solution", mD (ME.solM n M b)]
theorem cut_slice {n : Nat} {row : List Rat} (h : n ≤ row.length) : cut (row.map Dt.rat) n (row.length - n) = (ME.slice n row).map Dt.rat := by
  unfold cut ME.slice
  rw [List.drop_take, List.map_take, List.map_drop]
abbrev Gs (M b : List (List Rat)) (n : Nat) (p q : Addr) (rs : List (List Rat)) (cs : List Nat) (x5 x6 x7 x8 x9 x10 x11 x12 : Sl) : List Sl := [.da (mD M), .da (mD b), .da (.int (n : Int)), .ow p (rD rs), .ow q (cD cs), x5, x6, x7, x8, x9, x10, x11, x12]
theorem ok_solve (F : Fun K "solve" "solve" s_solve f fd) (A : Ops P w K mg base C k) (A_without : Fd P w K mg base C "without" ["row", "other", "column"] k R_without) (A_first_nonzero : Fd P w K mg base C "first_nonzero" ["row", "size"] k R_first)
    (m_zip : mg "zip" = none) (m_range : mg "range" = none) (m_len : mg "len" = none) (m_list : mg "list" = none) (m_tuple : mg "tuple" = none) (m_int : mg "int" = none) : FnOk P w K mg base CX0 (k + 1) f fd ["matrix", "right"] (SpD K C R_solve) := by
  have A_divide := A.div
  refine ok_do F sc_solve (fun ds d ⟨a, b, c, e, h, _⟩ => by rw [h]; rfl) fun cdv A outer s H E hr => ⟨_,
      (pss_cons (ps_set (i := 2) sc_solve.nd rfl (.inl rfl) (pe_callB call_len_seq (by rfl) m_len PySem.boot_len (pa_cons (pv 0) pa_nil)))
      (pss_cons (ps_set (i := 3) sc_solve.nd rfl (.inl rfl) (pe_lst pa_nil))
      (pss_cons (ps_set (i := 4) sc_solve.nd rfl (.inl rfl) (pe_lst pa_nil))
      (pss_cons (ps_for PassesOwn.never rfl (pi_range1 (by rfl) m_range (pa_cons (pv 2) pa_nil)) (pg_name (i := 5) sc_solve.nd rfl (.inr rfl))
      (pss_cons (ps_set (i := 6) sc_solve.nd rfl (.inr rfl) (pe_op op_cat (pe_op op_cat (pe_callTy call_list_of (by rfl) m_list boot_list (pa_cons (pe_ix ix_tup (pv 0) (pv 5) (fun _ _ => rfl)) pa_nil)) (pe_callTy call_list_of (by rfl) m_list boot_list (pa_cons (pe_ix ix_tup (pv 1) (pv 5) (fun _ _ => rfl)) pa_nil))) (pe_lc (own := [("k", 7)]) rfl sc_solve.nd (pi_range1 (by rfl) m_range (pa_cons (pv 2) pa_nil)) (blkOk_by (N := N_solve) (sc := defScope s_solve) (by decide +kernel)) (fun _ _ _ _ _ => (pg_name (i := 7) sc_solve.nd rfl (.inl rfl))) (fun _ _ _ _ _ => pts_nil) (fun _ _ _ _ _ => (pe_tup (pa_cons (pe_callTy call_int1 (by rfl) m_int boot_int (pa_cons (pe_cmpR op_eq (pv 7) (pv 5) (nomark _)) pa_nil)) (pa_cons pe_int pa_nil)))))))
        (pss_cons (ps_for PassesOwn.never rfl (pi_zip (by rfl) m_zip (pa_cons (pv 4) (pa_cons (pv 3) pa_nil))) (pg_pair (K := K) rfl rfl (pgs_cons (pg_name (i := 8) sc_solve.nd rfl (.inr rfl) (.inl rfl)) (pgs_cons (pg_name (i := 9) sc_solve.nd rfl (.inl rfl) (.inl rfl)) pgs_nil)))
        (pss_one (ps_set (i := 6) sc_solve.nd rfl (.inr rfl) (pe_call A_without.ok hr (by rfl) A_without.g A_without.kp A_without.b .nil pass0 (pa_cons (pv 6) (pa_cons (pv 9) (pa_cons (pv 8) pa_nil)))))))
        (pss_cons (ps_set (i := 8) sc_solve.nd rfl (.inr rfl) (pe_call A_first_nonzero.ok hr (by rfl) A_first_nonzero.g A_first_nonzero.kp A_first_nonzero.b .nil pass0 (pa_cons (pv 6) (pa_cons (pv 2) pa_nil))))
        (pss_cons (ps_if (pt_cmpR op_isN (pv 8) pe_non (nomark _))
        (pss_one (ps_ret (pe_tup (pa_cons pe_str (pa_cons (pe_callTy call_tuple_of (by rfl) m_tuple boot_tuple (pa_cons (pe_slice sl_list (pv 6) (po_some (pe_op op_sub (pe_callB call_len_seq (by rfl) m_len PySem.boot_len (pa_cons (pv 6) pa_nil)) (pv 2))) po_none) pa_nil)) pa_nil)))))
        pss_nil)
        (pss_cons (ps_set (i := 10) sc_solve.nd rfl (.inr rfl) (pe_ix ix_list (pv 6) (pv 8) (fun _ _ => rfl)))
        (pss_cons (ps_set (i := 6) sc_solve.nd rfl (.inr rfl) (pe_lc (own := [("entry", 11)]) rfl sc_solve.nd (pi_list (pv 6)) (blkOk_by (N := N_solve) (sc := defScope s_solve) (by decide +kernel)) (fun _ _ _ _ _ => (pg_name (i := 11) sc_solve.nd rfl (.inl rfl))) (fun _ _ _ _ _ => pts_nil) (fun _ _ _ _ _ => (pe_call A_divide.ok hr (by rfl) A_divide.g A_divide.kp A_divide.b .nil pass0 (pa_cons (pv 11) (pa_cons (pv 10) pa_nil))))))
        (pss_cons (ps_setLc (i := 3) (own := [("other", 9)]) rfl sc_solve.nd rfl rfl (sw_true rfl rfl rfl (by decide +kernel)) (pi_list (pv 3)) (blkOk_by (N := N_solve) (sc := defScope s_solve) (by decide +kernel)) (fun _ _ _ _ _ => (pg_name (i := 9) sc_solve.nd rfl (.inl rfl))) (fun _ _ _ _ _ => pts_nil) (fun _ _ _ _ _ => (pe_call A_without.ok hr (by rfl) A_without.g A_without.kp A_without.b .nil pass0 (pa_cons (pv 9) (pa_cons (pv 6) (pa_cons (pv 8) pa_nil))))))
        (pss_cons (ps_expr (pe_bm PySem.F.plainAttrs_list PySem.F.slot_list_append PySem.F.type_list_append mt_append (pv 3) (pa_cons (pv 6) pa_nil)))
        (pss_one (ps_expr (pe_bm PySem.F.plainAttrs_list PySem.F.slot_list_append PySem.F.type_list_append mt_append (pv 4) (pa_cons (pv 8) pa_nil)))))))))))))
      (pss_cons (ps_set (i := 12) sc_solve.nd rfl (.inl rfl) (pe_op op_rep (pe_lst (pa_cons (pe_tup pa_nil) pa_nil)) (pv 2)))
      (pss_cons (ps_for PassesOwn.never rfl (pi_zip (by rfl) m_zip (pa_cons (pv 4) (pa_cons (pv 3) pa_nil))) (pg_pair (K := K) rfl rfl (pgs_cons (pg_name (i := 8) sc_solve.nd rfl (.inr rfl) (.inl rfl)) (pgs_cons (pg_name (i := 6) sc_solve.nd rfl (.inr rfl) (.inl rfl)) pgs_nil)))
      (pss_one (ps_asg (pe_callTy call_tuple_of (by rfl) m_tuple boot_tuple (pa_cons (pe_slice sl_list (pv 6) (po_some (pv 2)) (po_some (pe_op op_sub (pe_callB call_len_seq (by rfl) m_len PySem.boot_len (pa_cons (pv 6) pa_nil)) (pv 2)))) pa_nil)) (pg_sub (pv 12) (pv 8) set_list))))
      (pss_one (ps_ret (pe_tup (pa_cons pe_str (pa_cons (pe_callTy call_tuple_of (by rfl) m_tuple boot_tuple (pa_cons (pv 12) pa_nil)) pa_nil))))))))))), ?_⟩
  rintro _ _ ⟨n, kk, M, b, rfl, Y, L, h9, hk9, rfl⟩
  have lM : (M.map rtp).length = n := by rw [List.length_map]; exact Y.lM
  have lb : (b.map rtp).length = n := by rw [List.length_map]; exact Y.lb
  have hz0 : n + kk + n ≤ 40000 := by omega
  have hs40 := line40
  refine do_setc (d := .int (n : Int)) (by rw [← lM]; exact ed_lenT (ed_var rfl)) ?_
  refine do_setNc (en_lst ea_nil (by decide)) fun p0 => do_setNc (en_lst ea_nil (by decide)) fun q0 => ?_
  refine do_seq (fun Γ => ∃ p q x5 x6 x7 x8 x9 x10 x11, Γ = Gs M b n p q (stp n M b n).2 (stp n M b n).1 x5 x6 x7 x8 x9 x10 x11 .un) ?_ ?_
  · refine do_forR (fun a Γ => ∃ p q x5 x6 x7 x8 x9 x10 x11, Γ = Gs M b n p q (stp n M b a).2 (stp n M b a).1 x5 x6 x7 x8 x9 x10 x11 .un) (ei_rng1 (ea_1 (ed_var rfl)) (by omega)) ⟨p0, q0, _, _, _, _, _, _, _, rfl⟩ (fun a Γ' ha hv => ?_) fun Γ' hv => hv
    obtain ⟨p, q, x5, x6, x7, x8, x9, x10, x11, rfl⟩ := hv
    have I := ME.inv_all Y a (Nat.le_of_lt ha)
    have lc := I.lc
    have lr := I.lr
    obtain ⟨Ma, hMa⟩ := get_lt (show a < M.length by rw [Y.lM]; exact ha)
    obtain ⟨ba, hba⟩ := get_lt (show a < b.length by rw [Y.lb]; exact ha)
    have eMa : M.getD a [] = Ma := by rw [List.getD_eq_getElem?_getD, hMa]; rfl
    have eba : b.getD a [] = ba := by rw [List.getD_eq_getElem?_getD, hba]; rfl
    have rMa : Ma.length = n := by rw [← eMa]; exact Y.rM a ha
    have rba : ba.length = kk := by rw [← eba]; exact Y.rb a ha
    have eh : hat n M b a = Ma ++ ba ++ unitRow n a := by unfold ME.hat; rw [eMa, eba]
    -- row = list(matrix[at]) + list(right[at]) + [..]
    refine do_setNc (ds := (hat n M b a).map Dt.rat) ?_ fun r0 => do_freeze (i := 6) rfl ?_
    · rw [eh, List.map_append, List.map_append]
      refine en_cat (en_cat (en_listT (ed_ixT (ed_var rfl) (ed_var rfl) (at_map (f := rtp) hMa))).l (en_listT (ed_ixT (ed_var rfl) (ed_var rfl) (at_map (f := rtp) hba))).l ?_).l (EvN.l (en_lcR (ei_rng1 (ea_1 (ed_var rfl)) (by omega)) (by omega) (by rw [List.length_map, ME.unit_len]) fun i e hi he => ?_)) ?_
      · rw [List.length_map, List.length_map]; omega
      · obtain ⟨_, rfl⟩ := rat_of he
        rw [ME.gt_unit hi]
        refine ed_rat (ea_2 (ed_cb (ea_1 (ed_op (ed_var rfl) (ed_var rfl) rd_eqI)) rc_intB) ed_int) ?_ ?_
        · by_cases hia : i = a
          · rw [if_pos hia, if_pos (by rw [hia]; simp)]; rfl
          · rw [if_neg hia, if_neg (by simp; omega)]; rfl
        · split <;> rfl
      · rw [List.length_append, List.length_map, List.length_map, List.length_map, ME.unit_len]; omega
    -- the rows before taken from it
    refine do_seq (fun Γ => ∃ x8 x9, Γ = Gs M b n p q (stp n M b a).2 (stp n M b a).1 (.da (.int (a : Int))) (.da (rl (pr n M b a a))) x7 x8 x9 x10 x11 .un) ?_ ?_
    · refine do_for (fun i Γ => ∃ x8 x9, Γ = Gs M b n p q (stp n M b a).2 (stp n M b a).1 (.da (.int (a : Int))) (.da (rl (pr n M b a i))) x7 x8 x9 x10 x11 .un) (ei_zipO (i := 4) (j := 3) rfl rfl) ⟨_, _, rfl⟩ (fun i Γ' ⟨_, _, e⟩ => by rw [e]; exact ⟨rfl, rfl⟩) (fun i d Γ' hd hv => ?_) fun Γ' hv => ?_
      · obtain ⟨x8, x9, rfl⟩ := hv
        obtain ⟨u, v, hu, hv, rfl⟩ := zipD_at hd
        obtain ⟨c, hc, rfl⟩ := map_at hu
        obtain ⟨o, ho, rfl⟩ := map_at hv
        have hia : i < a := by have := get_le hc; omega
        have ec : cl (stp n M b a).1 i = c := by unfold ME.cl; rw [List.getD_eq_getElem?_getD, hc]; rfl
        have eo : (stp n M b a).2.getD i [] = o := by rw [List.getD_eq_getElem?_getD, ho]; rfl
        have lo : o.length = n + kk + n := by rw [← eo]; exact I.len i hia
        have lp := pr_len Y ha (Nat.le_of_lt hia)
        have hcn : c < n := by rw [← ec]; exact I.lt i hia
        refine ⟨_, tg_pair, do_set (d := rl (pr n M b a (i + 1))) (ed_call (ea_3 (ed_var rfl) (ed_var rfl) (ed_var rfl)) ⟨pr n M b a i, o, c, rfl, by omega, by omega, by omega, fun l hl => ?_, by rw [pr_succ Y ha hia, ec, eo]⟩) ⟨_, _, rfl⟩⟩
        rw [lp] at hl
        have e1 : gt o l = rw_ (stp n M b a).2 i l := by unfold ME.rw_; rw [eo]
        have e2 : gt (pr n M b a i) c = MS.pt n M b a i (cl (stp n M b a).1 i) := by rw [pr_gt Y ha (Nat.le_of_lt hia) (by omega), ec]
        refine ⟨by rw [pr_gt Y ha (Nat.le_of_lt hia) hl]; exact L.pt a i l ha (Nat.le_of_lt hia) hl, by rw [e1]; exact L.row a i l (Nat.le_of_lt ha) hia hl, by rw [e1, e2]; exact L.prod a i l ha hia hl, ?_⟩
        have e3 := ME.gt_wo (row := pr n M b a i) (other := o) (c := c) (l := l) (by omega) (by omega)
        rw [← e3, ← eo, ← ec, ← pr_succ Y ha hia, pr_gt Y ha hia hl]
        exact L.pt a (i + 1) l ha hia hl
      · have e : (zipD (cD (stp n M b a).1) (rD (stp n M b a).2)).length = a := by
          unfold zipD cD rD
          rw [List.length_zipWith, List.length_map, List.length_map]; omega
        rw [e] at hv; exact hv
    · rintro _ ⟨x8, x9, rfl⟩
      have lp := pr_len Y ha (Nat.le_refl a)
      obtain ⟨f1, f2, f3⟩ := MT.pc_spec Y ha
      rw [← pr_all Y ha] at f1
      have egc : gt (pr n M b a a) (MT.pc n M b a) = MS.pt n M b a a (MT.pc n M b a) := pr_gt Y ha (Nat.le_refl a) (by omega)
      refine do_setc (ed_call (ea_2 (ed_var rfl) (ed_var rfl)) ⟨pr n M b a a, n, MT.pc n M b a, rfl, by omega, by omega, f1, rfl⟩) ?_
      refine do_seq (· = Gs M b n p q (stp n M b a).2 (stp n M b a).1 (.da (.int (a : Int))) (.da (rl (pr n M b a a))) x7 (.da (.int (MT.pc n M b a : Int))) x9 x10 x11 .un) (do_if (et_test (ed_op (ed_var rfl) ed_non rd_isN)) (fun e => nomatch e) fun _ => do_next rfl) ?_
      rintro _ rfl
      refine do_setc (ed_ixL (ed_var rfl).l (ed_var rfl) (rat_at (by omega))) ?_
      -- row divided by its pivot
      refine do_setNc (ds := ((pr n M b a a).map fun x => x / gt (pr n M b a a) (MT.pc n M b a)).map Dt.rat) ?_ fun r1 => do_freeze (i := 6) rfl ?_
      · refine en_lcS (ei_list (ed_var rfl)) trivial (by rw [List.length_map]; omega) (by simp) fun i d e hd he => ?_
        obtain ⟨hi, rfl⟩ := rat_of hd
        obtain ⟨_, rfl⟩ := rat_of he
        rw [lp] at hi
        refine ⟨_, tgc_name (by simp), ?_⟩
        rw [ME.gt_map (by omega)]
        refine ed_div (ed_var rfl) (ed_var rfl) ?_ ?_ ?_ ?_
        · rw [pr_gt Y ha (Nat.le_refl a) hi]; exact L.pt a a i ha (Nat.le_refl a) hi
        · rw [egc]; exact L.pt a a _ ha (Nat.le_refl a) (by omega)
        · rw [egc]; exact f3
        · rw [egc, pr_gt Y ha (Nat.le_refl a) hi]; exact L.quo a i ha hi
      -- the rows before without it
      refine do_setNc (ds := rD ((stp n M b a).2.map fun o => wo o ((pr n M b a a).map fun x => x / gt (pr n M b a a) (MT.pc n M b a)) (MT.pc n M b a))) ?_ fun p1 => ?_
      · refine en_lcS (ei_own (i := 3) rfl) rfl (by unfold rD; rw [List.length_map]; omega) (by unfold rD; simp) fun i d e hd he => ?_
        obtain ⟨o, ho, rfl⟩ := map_at hd
        obtain ⟨e', he', rfl⟩ := map_at he
        rw [List.getElem?_map, ho] at he'
        obtain rfl := Option.some.inj he'
        have hia : i < a := by have := get_le ho; omega
        have eo : (stp n M b a).2.getD i [] = o := by rw [List.getD_eq_getElem?_getD, ho]; rfl
        have lo : o.length = n + kk + n := by rw [← eo]; exact I.len i hia
        have e1 : ∀ l, gt o l = rw_ (stp n M b a).2 i l := fun l => by unfold ME.rw_; rw [eo]
        have e2 : ∀ l, l < n + kk + n → gt ((pr n M b a a).map fun x => x / gt (pr n M b a a) (MT.pc n M b a)) l = MS.pt n M b a a l / MS.pt n M b a a (MT.pc n M b a) := fun l hl => by
          rw [ME.gt_map (by omega), egc, pr_gt Y ha (Nat.le_refl a) hl]
        refine ⟨_, tgc_name (by simp), ed_call (ea_3 (ed_var rfl) (ed_var rfl) (ed_var rfl)) ⟨o, _, MT.pc n M b a, rfl, by rw [List.length_map]; omega, by omega, by omega, fun l hl => ?_, rfl⟩⟩
        rw [lo] at hl
        rw [e1, e1, e2 l hl, ← MT.new_old Y ha hia hl]
        refine ⟨L.row a i l (Nat.le_of_lt ha) hia hl, L.quo a l ha hl, L.prod2 a i l ha hia hl, L.row (a + 1) i l ha (by omega) hl⟩
      refine do_seq (fun Γ => ∃ x9, Γ = Gs M b n p1 q (stp n M b (a + 1)).2 (stp n M b a).1 (.da (.int (a : Int))) (.da (rl ((pr n M b a a).map fun x => x / gt (pr n M b a a) (MT.pc n M b a)))) x7 (.da (.int (MT.pc n M b a : Int))) x9 (.da (.rat (gt (pr n M b a a) (MT.pc n M b a)))) x11 .un) (do_append (i := 3) rfl (ed_var rfl) ?_ ⟨x9, ?_⟩) ?_
      · unfold rD; rw [List.length_map, List.length_map]; omega
      · rw [stp_snd Y]
        unfold Gs rD
        rw [List.map_append]; rfl
      · rintro _ ⟨x9', rfl⟩
        refine do_append (i := 4) rfl (ed_var rfl) ?_ ⟨p1, q, .da (.int (a : Int)), .da (rl ((pr n M b a a).map fun x => x / gt (pr n M b a a) (MT.pc n M b a))), x7, .da (.int (MT.pc n M b a : Int)), x9', .da (.rat (gt (pr n M b a a) (MT.pc n M b a))), x11, ?_⟩
        · unfold cD; rw [List.length_map]; omega
        · rw [stp_fst Y]
          unfold Gs cD
          rw [List.map_append]; rfl
  · rintro _ ⟨p, q, x5, x6, x7, x8, x9, x10, x11, rfl⟩
    have I := ME.inv_all Y n (Nat.le_refl n)
    have lc := I.lc
    have lr := I.lr
    refine do_setNc (en_rep (en_lst (ea_1 (ed_tup ea_nil (by decide))) (by decide)).l (ed_var rfl) (by omega)) fun s0 => ?_
    have prt : ∀ i, ∃ l, l = ((List.zip (stp n M b n).1 (stp n M b n).2).take i).foldl (fun s p => s.set p.1 (ME.slice n p.2)) (List.replicate n []) := fun i => ⟨_, rfl⟩
    refine do_seq (fun Γ => ∃ p q x6 x8 s, Γ = Gs M b n p q (stp n M b n).2 (stp n M b n).1 x5 x6 x7 x8 x9 x10 x11 (.ow s ((ME.solM n M b).map rtp))) ?_ ?_
    · refine do_for (fun i Γ => ∃ x6 x8, Γ = Gs M b n p q (stp n M b n).2 (stp n M b n).1 x5 x6 x7 x8 x9 x10 x11 (.ow s0 ((((List.zip (stp n M b n).1 (stp n M b n).2).take i).foldl (fun s p => s.set p.1 (ME.slice n p.2)) (List.replicate n [])).map rtp))) (ei_zipO (i := 4) (j := 3) rfl rfl) ⟨x6, x8, ?_⟩ (fun i Γ' ⟨_, _, e⟩ => by rw [e]; exact ⟨rfl, rfl⟩) (fun i d Γ' hd hv => ?_) fun Γ' hv => ?_
      · rw [List.take_zero]
        show _ = Gs M b n p q _ _ x5 x6 x7 x8 x9 x10 x11 (.ow s0 ((List.replicate n []).map rtp))
        rw [List.map_replicate]; rfl
      · obtain ⟨y6, y8, rfl⟩ := hv
        obtain ⟨u, v, hu, hv, rfl⟩ := zipD_at hd
        obtain ⟨c, hc, rfl⟩ := map_at hu
        obtain ⟨o, ho, rfl⟩ := map_at hv
        have hia : i < n := by have := get_le hc; omega
        have ec : cl (stp n M b n).1 i = c := by unfold ME.cl; rw [List.getD_eq_getElem?_getD, hc]; rfl
        have eo : (stp n M b n).2.getD i [] = o := by rw [List.getD_eq_getElem?_getD, ho]; rfl
        have lo : o.length = n + kk + n := by rw [← eo]; exact I.len i hia
        have hcn : c < n := by rw [← ec]; exact I.lt i hia
        have ez := zip_at Y (Nat.le_refl n) hia
        rw [ec, eo] at ez
        have slen : ∀ i, (((List.zip (stp n M b n).1 (stp n M b n).2).take i).foldl (fun s p => s.set p.1 (ME.slice n p.2)) (List.replicate n [])).length = n := fun i => by
          have gen : ∀ (zs : List (Nat × List Rat)) (s : List (List Rat)), (zs.foldl (fun s p => s.set p.1 (ME.slice n p.2)) s).length = s.length := fun zs => by
            induction zs with
            | nil => intro s; rfl
            | cons z zs ih => intro s; rw [List.foldl_cons, ih, List.length_set]
          rw [gen, List.length_replicate]
        refine ⟨_, tg_pair, do_setAt (i := 12) (j := c) (d := rtp (ME.slice n o)) rfl ?_ (ed_var rfl) (by rw [List.length_map, slen]; exact hcn) ⟨.da (rl o), .da (.int (c : Int)), ?_⟩⟩
        · unfold rtp
          rw [← cut_slice (show n ≤ o.length by omega)]
          refine ed_tupL (EvN.l (en_sl (lo := some (n : Int)) (hi := some ((o.length - n : Nat) : Int)) (ed_var rfl).l (pa_at (ed_var rfl)) (pa_at ?_) ?_ ?_))
          · have e : ((o.length - n : Nat) : Int) = (o.length : Int) - (n : Int) := by omega
            rw [e]
            refine ed_op (x := .int (o.length : Int)) ?_ (ed_var rfl) rd_I0
            have e2 : (o.length : Int) = ((o.map Dt.rat).length : Int) := by rw [List.length_map]
            rw [e2]
            exact ed_lenL (ed_var rfl).l
          · rw [HT.sIx_nat, List.length_map]; omega
          · rw [HT.sIx_nat, List.length_map]; omega
        · rw [List.take_succ, ez, List.foldl_append]
          show _ = Gs M b n p q _ _ x5 _ x7 _ x9 x10 x11 (.ow s0 (((((List.zip (stp n M b n).1 (stp n M b n).2).take i).foldl (fun s p => s.set p.1 (ME.slice n p.2)) (List.replicate n [])).set c (ME.slice n o)).map rtp))
          rw [List.map_set]; rfl
      · obtain ⟨y6, y8, e⟩ := hv
        refine ⟨p, q, y6, y8, s0, ?_⟩
        rw [e]
        have e1 : (zipD (cD (stp n M b n).1) (rD (stp n M b n).2)).length = (List.zip (stp n M b n).1 (stp n M b n).2).length := by
          unfold zipD cD rD
          rw [List.length_zipWith, List.length_map, List.length_map, List.length_zip]
        rw [e1, List.take_length]; rfl
    · rintro _ ⟨p, q, y6, y8, s0, rfl⟩
      exact do_ret (ed_tup (ea_2 ed_str (ed_tupL (el_var rfl))) (by show 2 ≤ sizeLine; decide)) rfl
end W4
set_option Elab.async false
set_option linter.all false
set_option maxRecDepth 100000
set_option maxHeartbeats 8000000
/-! W5: leaving values, first plays -/
namespace W5
open PySem PySem.Spec PyProof.Rows L2 WA WB WT WC ML W1 W2 WD WE WF WG WH WK W3 W4
variable {P : Program} {w : World} {K : PySem.W.Frag} {mg : Str → Option Value} {base : Heap} {C : Addr} {k : Nat} {f : Addr} {fd : FuncData}
open ME (gt rw_)
open MG (Gm Rw ixOf acc unitR leaveA leaveB leaveM lvE lvG exE exG cand)
/-- a constant ratio of the module -/
structure Kr (K : PySem.W.Frag) (mg : Str → Option Value) (x : Str) (q : Rat) where
  a : Addr
  g : mg x = some (.ref a)
  at_ : ∀ H, SqT K H a [.int q.num, .int (q.den : Int)]
/-- games -/
def pD (p : Nat × Rat) : Dt := .tup [.int (p.1 : Int), .rat p.2]
def rwD (r : Rw) : Dt := .tup (r.map pD)
def gD (G : Gm) : Dt := .tup [rtp G.rw, .tup (G.mv.map rwD)]
def iD (I : List Nat) : List Dt := I.map fun (s : Nat) => Dt.int (s : Int)
theorem row_at {G : Gm} (O : G.Ok) {s : Nat} (h : s < G.n) : G.mv[s]? = some (G.row s) := by
  have h' : s < G.mv.length := by rw [O.len]; exact h
  exact ME.getD_get h'
theorem iD_at {I : List Nat} {i : Nat} (h : i < I.length) : (iD I)[i]? = some (.int (I.getD i 0 : Int)) := by
  unfold iD; rw [List.getElem?_map, ME.getD_get h]; rfl
theorem iD_len (I : List Nat) : (iD I).length = I.length := List.length_map _
/-- the columns as a dict -/
def kI (I : List Nat) : List Int := I.map fun (s : Nat) => (s : Int)
theorem kI_at {I : List Nat} {i : Nat} (h : i < I.length) : (kI I)[i]? = some (I.getD i 0 : Int) := by
  unfold kI; rw [List.getElem?_map, ME.getD_get h]; rfl
theorem kI_nd {I : List Nat} (h : I.Nodup) : (kI I).Nodup := by
  unfold kI
  rw [List.nodup_iff_pairwise_ne] at *
  exact List.pairwise_map.mpr (h.imp fun ne z => ne (by omega))
theorem kI_mem {I : List Nat} {t : Nat} : (t : Int) ∈ kI I ↔ t ∈ I := by
  unfold kI
  rw [List.mem_map]
  exact ⟨fun ⟨s, hs, e⟩ => by have : s = t := by omega
                              rw [← this]; exact hs, fun h => ⟨t, h, rfl⟩⟩
theorem acc_snoc (b : Rat) (ix : Nat → Option Nat) : ∀ (r : Rw) (t : Nat) (p : Rat) (x : List Rat × Rat), acc b ix (r ++ [(t, p)]) x = match ix t with | some c => ((acc b ix r x).1.set c (gt (acc b ix r x).1 c - b * p), (acc b ix r x).2) | none => ((acc b ix r x).1, (acc b ix r x).2 + b * p)
  | [], t, p, x => rfl
  | (u, q) :: r, t, p, x => acc_snoc b ix r t p _
structure AccL (b : Rat) (ix : Nat → Option Nat) (r : Rw) (x : List Rat × Rat) : Prop where
  p : ∀ (j t : Nat) (p : Rat), r[j]? = some (t, p) → Lim p ∧ Lim (b * p)
  s : ∀ (j t : Nat) (p : Rat) (c : Nat), r[j]? = some (t, p) → ix t = some c → Lim (gt (acc b ix (r.take j) x).1 c) ∧ Lim (gt (acc b ix (r.take j) x).1 c - b * p)
  n : ∀ (j t : Nat) (p : Rat), r[j]? = some (t, p) → ix t = none → Lim (acc b ix (r.take j) x).2 ∧ Lim ((acc b ix (r.take j) x).2 + b * p)
structure LvL (G : Gm) (b : Rat) (I : List Nat) : Prop where
  lb : Lim b
  ac : ∀ i, i < I.length → AccL b (ixOf I) (G.row (I.getD i 0)) (unitR I.length i, 0)
  ls : LS I.length 2 (leaveA G b I) (leaveB G b I)
  i9 : I.length ≤ 9
  rl : ∀ s, s < G.n → (G.row s).length ≤ 9
def R_leave (ds : List Dt) (d : Dt) : Prop := ∃ (G : Gm) (b : Rat) (I : List Nat), ds = [gD G, .tup (iD I), .rat b] ∧ G.Ok ∧ MG.Disc b ∧ MG.Ins G I ∧ LvL G b I ∧ d = mD (leaveM G b I)
theorem rep_rat (n : Nat) (x : Rat) : List.replicate n (Dt.rat x) = (List.replicate n x).map Dt.rat := by rw [List.map_replicate]
theorem ok_leave (F : Fun K "leave_values" "leave_values" s_leave_values f fd) (A : Ops P w K mg base C k) (A_solve : Fd P w K mg base C "solve" ["matrix", "right"] k R_solve) (Z_ZERO_leaving : Kr K mg "ZERO_leaving" 0) (Z_ONE_leaving : Kr K mg "ONE_leaving" 1)
    (m_range : mg "range" = none) (m_len : mg "len" = none) (m_tuple : mg "tuple" = none) : FnOk P w K mg base CX0 (k + 1) f fd ["game", "inside", "discount"] (SpD K C R_leave) := by
  have A_multiply := A.mul
  have A_subtract := A.sub
  have A_add := A.add
  refine ok_do F sc_leave_values (fun ds d ⟨a, b, c, h, _⟩ => by rw [h]; rfl) fun cdv A outer s H E hr => ⟨_,
      (pss_cons (ps_asg (pv 0) (pg_pair (K := K) rfl rfl (pgs_cons (pg_name (i := 3) sc_leave_values.nd rfl (.inl rfl) (.inl rfl)) (pgs_cons (pg_name (i := 4) sc_leave_values.nd rfl (.inl rfl) (.inl rfl)) pgs_nil))))
      (pss_cons (ps_setDc (i := 5) (own := [("k", 6)]) rfl sc_leave_values.nd rfl rfl (sw_dict rfl rfl rfl (by decide +kernel)) (pi_range1 (by rfl) m_range (pa_cons (pe_callB call_len_seq (by rfl) m_len PySem.boot_len (pa_cons (pv 1) pa_nil)) pa_nil)) (blkOk_by (N := N_leave_values) (sc := defScope s_leave_values) (by decide +kernel)) (fun _ _ _ _ _ => (pg_name (i := 6) sc_leave_values.nd rfl (.inl rfl))) (fun _ _ _ _ _ => pts_nil) (fun _ _ _ _ _ => (pe_ix (kx_tup (K := K) rfl) (pv 1) (pv 6) (fun _ _ => rfl))) (fun _ _ _ _ _ => (pv 6)))
      (pss_cons (ps_set (i := 7) sc_leave_values.nd rfl (.inl rfl) (pe_lst pa_nil))
      (pss_cons (ps_set (i := 8) sc_leave_values.nd rfl (.inl rfl) (pe_lst pa_nil))
      (pss_cons (ps_for PassesOwn.never rfl (pi_tup (pv 1)) (pg_name (i := 9) sc_leave_values.nd rfl (.inl rfl))
      (pss_cons (ps_set (i := 10) sc_leave_values.nd rfl (.inl rfl) (pe_op op_rep (pe_lst (pa_cons (pe_glob (v := .ref Z_ZERO_leaving.a) rfl Z_ZERO_leaving.g rfl) pa_nil)) (pe_callB call_len_seq (by rfl) m_len PySem.boot_len (pa_cons (pv 1) pa_nil))))
        (pss_cons (ps_asg (pe_glob (v := .ref Z_ONE_leaving.a) rfl Z_ONE_leaving.g rfl) (pg_sub (pv 10) (pe_dget (hu_of hr) (pv 5) (pv 9) (fun _ _ => rfl)) set_list))
        (pss_cons (ps_set (i := 11) sc_leave_values.nd rfl (.inl rfl) (pe_glob (v := .ref Z_ZERO_leaving.a) rfl Z_ZERO_leaving.g rfl))
        (pss_cons (ps_for PassesOwn.never rfl (pi_tup (pe_ix ix_tup (pv 4) (pv 9) (fun _ _ => rfl))) (pg_pair (K := K) rfl rfl (pgs_cons (pg_name (i := 12) sc_leave_values.nd rfl (.inl rfl) (.inl rfl)) (pgs_cons (pg_name (i := 13) sc_leave_values.nd rfl (.inl rfl) (.inl rfl)) pgs_nil)))
        (pss_cons (ps_set (i := 14) sc_leave_values.nd rfl (.inl rfl) (pe_call A_multiply.ok hr (by rfl) A_multiply.g A_multiply.kp A_multiply.b .nil pass0 (pa_cons (pv 2) (pa_cons (pv 13) pa_nil))))
          (pss_one (ps_if (pt_cmp (pc_din (hu_of hr) (pv 12) (pv 5)))
          (pss_cons (ps_set (i := 15) sc_leave_values.nd rfl (.inl rfl) (pe_dget (hu_of hr) (pv 5) (pv 12) (fun _ _ => rfl)))
            (pss_one (ps_asg (pe_call A_subtract.ok hr (by rfl) A_subtract.g A_subtract.kp A_subtract.b .nil pass0 (pa_cons (pe_ix ix_list (pv 10) (pv 15) (fun _ _ => rfl)) (pa_cons (pv 14) pa_nil))) (pg_sub (pv 10) (pv 15) set_list))))
          (pss_one (ps_set (i := 11) sc_leave_values.nd rfl (.inl rfl) (pe_call A_add.ok hr (by rfl) A_add.g A_add.kp A_add.b .nil pass0 (pa_cons (pv 11) (pa_cons (pv 14) pa_nil)))))))))
        (pss_cons (ps_expr (pe_bm PySem.F.plainAttrs_list PySem.F.slot_list_append PySem.F.type_list_append mt_append (pv 7) (pa_cons (pe_callTy call_tuple_of (by rfl) m_tuple boot_tuple (pa_cons (pv 10) pa_nil)) pa_nil)))
        (pss_one (ps_expr (pe_bm PySem.F.plainAttrs_list PySem.F.slot_list_append PySem.F.type_list_append mt_append (pv 8) (pa_cons (pe_tup (pa_cons (pe_ix ix_tup (pv 3) (pv 9) (fun _ _ => rfl)) (pa_cons (pv 11) pa_nil))) pa_nil))))))))))
      (pss_one (ps_ret (pe_ix ix_tup (pe_call A_solve.ok hr (by rfl) A_solve.g A_solve.kp A_solve.b .nil pass0 (pa_cons (pe_callTy call_tuple_of (by rfl) m_tuple boot_tuple (pa_cons (pv 7) pa_nil)) (pa_cons (pe_callTy call_tuple_of (by rfl) m_tuple boot_tuple (pa_cons (pv 8) pa_nil)) pa_nil))) pe_int (fun _ _ => rfl))))))))), ?_⟩
  rintro _ _ ⟨G, b, I, rfl, O, B, hI, L, rfl⟩
  have i9 := L.i9
  have hs40 := line40
  have lenI : ((iD I).length : Int) = (I.length : Int) := by rw [iD_len]
  refine do_tgc (d := gD G) (ed_var rfl) tg_pair ?_
  refine do_setc (d := .dic (kI I) ((List.range I.length).map fun (i : Nat) => Dt.int (i : Int))) ?_ ?_
  · refine ed_dc (ei_rng1 (ea_1 (by rw [← lenI]; exact ed_lenT (ed_var rfl))) (by omega)) (by omega) (by unfold kI; simp) (by simp) (kI_nd hI.nd) fun i x e hi hx he => ⟨?_, ?_⟩
    · rw [kI_at hi] at hx
      obtain rfl := Option.some.inj hx
      exact ed_ixT (ed_var rfl) (ed_var rfl) (iD_at hi)
    · rw [List.getElem?_map, List.getElem?_range hi] at he
      obtain rfl := Option.some.inj he
      exact ed_var rfl
  refine do_setNc (en_lst ea_nil (by decide)) fun m0 => do_setNc (en_lst ea_nil (by decide)) fun r0 => ?_
  have ixat : ∀ {t c : Nat}, ixOf I t = some c → (kI I)[c]? = some (t : Int) ∧ ((List.range I.length).map fun (i : Nat) => Dt.int (i : Int))[c]? = some (.int (c : Int)) := fun {t c} h => by
    obtain ⟨h1, h2⟩ := MG.ixOf_lt h
    refine ⟨by rw [kI_at h1, h2], ?_⟩
    rw [List.getElem?_map, List.getElem?_range h1]; rfl
  have Y := MG.leave_sys O B hI
  refine do_seq (fun Γ => ∃ x6 x9 x10 x11 x12 x13 x14 x15, Γ = [.da (gD G), .da (.tup (iD I)), .da (.rat b), .da (rtp G.rw), .da (.tup (G.mv.map rwD)), .da (.dic (kI I) ((List.range I.length).map fun (i : Nat) => Dt.int (i : Int))), x6, .ow m0 ((leaveA G b I).map rtp), .ow r0 ((leaveB G b I).map rtp), x9, x10, x11, x12, x13, x14, x15]) ?_ ?_
  · refine do_for (fun i Γ => ∃ x6 x9 x10 x11 x12 x13 x14 x15, Γ = [.da (gD G), .da (.tup (iD I)), .da (.rat b), .da (rtp G.rw), .da (.tup (G.mv.map rwD)), .da (.dic (kI I) ((List.range I.length).map fun (i : Nat) => Dt.int (i : Int))), x6, .ow m0 (((leaveA G b I).take i).map rtp), .ow r0 (((leaveB G b I).take i).map rtp), x9, x10, x11, x12, x13, x14, x15]) (ei_tup (ed_var rfl)) ⟨_, _, _, _, _, _, _, _, rfl⟩ (fun _ _ _ => trivial) (fun i d Γ' hd hv => ?_) fun Γ' hv => ?_
    · obtain ⟨x6, x9, x10, x11, x12, x13, x14, x15, rfl⟩ := hv
      have hi : i < I.length := by have := get_le hd; rw [iD_len] at this; exact this
      rw [iD_at hi] at hd
      obtain rfl := Option.some.inj hd
      have hsn := hI.get hi
      have hix := MG.ixOf_at hI.nd hi
      generalize hs : I.getD i 0 = s at *
      have AL := L.ac i hi
      rw [hs] at AL
      refine ⟨_, tg_name, ?_⟩
      refine do_setNc (ds := (List.replicate I.length (0 : Rat)).map Dt.rat) (by rw [← rep_rat]; exact en_rep (en_lst (ea_1 (ed_kr Z_ZERO_leaving.at_)) (by decide)).l (by rw [← lenI]; exact ed_lenT (ed_var rfl)) (by omega)) fun p0 => ?_
      refine do_seq (· = [.da (gD G), .da (.tup (iD I)), .da (.rat b), .da (rtp G.rw), .da (.tup (G.mv.map rwD)), .da (.dic (kI I) ((List.range I.length).map fun (i : Nat) => Dt.int (i : Int))), x6, .ow m0 (((leaveA G b I).take i).map rtp), .ow r0 (((leaveB G b I).take i).map rtp), .da (.int (s : Int)), .ow p0 ((unitR I.length i).map Dt.rat), x11, x12, x13, x14, x15]) (do_setAt (i := 10) (j := i) (d := .rat 1) rfl (ed_kr Z_ONE_leaving.at_) (ed_dget (ed_var rfl) (ed_var rfl) (kI_nd hI.nd) (ixat hix).1 (ixat hix).2) (by rw [List.length_map, List.length_replicate]; exact hi) ?_) ?_
      · unfold MG.unitR
        rw [List.map_set]; rfl
      · rintro _ rfl
        refine do_setc (d := .rat 0) (ed_kr Z_ZERO_leaving.at_) ?_
        refine do_seq (fun Γ => ∃ x12 x13 x14 x15, Γ = [.da (gD G), .da (.tup (iD I)), .da (.rat b), .da (rtp G.rw), .da (.tup (G.mv.map rwD)), .da (.dic (kI I) ((List.range I.length).map fun (i : Nat) => Dt.int (i : Int))), x6, .ow m0 (((leaveA G b I).take i).map rtp), .ow r0 (((leaveB G b I).take i).map rtp), .da (.int (s : Int)), .ow p0 ((acc b (ixOf I) (G.row s) (unitR I.length i, 0)).1.map Dt.rat), .da (.rat (acc b (ixOf I) (G.row s) (unitR I.length i, 0)).2), x12, x13, x14, x15]) ?_ ?_
        · refine do_for (fun j Γ => ∃ x12 x13 x14 x15, Γ = [.da (gD G), .da (.tup (iD I)), .da (.rat b), .da (rtp G.rw), .da (.tup (G.mv.map rwD)), .da (.dic (kI I) ((List.range I.length).map fun (i : Nat) => Dt.int (i : Int))), x6, .ow m0 (((leaveA G b I).take i).map rtp), .ow r0 (((leaveB G b I).take i).map rtp), .da (.int (s : Int)), .ow p0 ((acc b (ixOf I) ((G.row s).take j) (unitR I.length i, 0)).1.map Dt.rat), .da (.rat (acc b (ixOf I) ((G.row s).take j) (unitR I.length i, 0)).2), x12, x13, x14, x15]) (ds := (G.row s).map pD) (ei_tup (ed_ixT (ed_var rfl) (ed_var rfl) (at_map (f := rwD) (row_at O hsn)))) ⟨_, _, _, _, rfl⟩ (fun _ _ _ => trivial) (fun j d Γ' hd hv => ?_) fun Γ' hv => ?_
          · obtain ⟨x12, x13, x14, x15, rfl⟩ := hv
            obtain ⟨⟨t, pq⟩, hj, rfl⟩ := map_at hd
            obtain ⟨l1, l2⟩ := AL.p j t pq hj
            have alen := (MG.acc_spec b (ixOf I) I.length (fun t c e => (MG.ixOf_lt e).1) ((G.row s).take j) (unitR I.length i, 0) (MG.unitR_len _ i)).1
            have asn : acc b (ixOf I) ((G.row s).take (j + 1)) (unitR I.length i, 0) = acc b (ixOf I) ((G.row s).take j ++ [(t, pq)]) (unitR I.length i, 0) := by rw [List.take_succ, hj]; rfl
            rw [acc_snoc] at asn
            have As := AL.s j t pq
            have An := AL.n j t pq
            generalize acc b (ixOf I) ((G.row s).take j) (unitR I.length i, 0) = x at *
            generalize acc b (ixOf I) ((G.row s).take (j + 1)) (unitR I.length i, 0) = x' at *
            refine ⟨_, tg_pair, ?_⟩
            refine do_setc (ed_mul (ed_var rfl) (ed_var rfl) L.lb l1 l2) ?_
            refine do_if (et_test (et_din (ed_var rfl) (ed_var rfl) (kI_nd hI.nd))) (fun e => ?_) fun e => ?_
            · have ht : t ∈ I := kI_mem.mp (of_decide_eq_true e)
              obtain ⟨c, hc⟩ : ∃ c, ixOf I t = some c := by
                cases q : ixOf I t with
                | none => exact absurd ht (MG.ixOf_none.mp q)
                | some c => exact ⟨c, rfl⟩
              obtain ⟨hcl, _⟩ := MG.ixOf_lt hc
              rw [hc] at asn
              obtain ⟨l3, l4⟩ := As c hj hc
              refine do_setc (ed_dget (ed_var rfl) (ed_var rfl) (kI_nd hI.nd) (ixat hc).1 (ixat hc).2) ?_
              refine do_setAt (i := 10) (j := c) rfl (ed_sub (ed_ixL (el_var rfl) (ed_var rfl) (rat_at (by omega))) (ed_var rfl) l3 l2 l4) (ed_var rfl) (by rw [List.length_map]; omega) ?_
              rw [asn]
              show ∃ x12 x13 x14 x15, _ = [.da (gD G), .da (.tup (iD I)), .da (.rat b), .da (rtp G.rw), .da (.tup (G.mv.map rwD)), .da (.dic (kI I) ((List.range I.length).map fun (i : Nat) => Dt.int (i : Int))), x6, .ow m0 (((leaveA G b I).take i).map rtp), .ow r0 (((leaveB G b I).take i).map rtp), .da (.int (s : Int)), .ow p0 ((x.1.set c (gt x.1 c - b * pq)).map Dt.rat), .da (.rat x.2), x12, x13, x14, x15]
              rw [List.map_set]
              exact ⟨_, _, _, _, rfl⟩
            · have ht : ixOf I t = none := MG.ixOf_none.mpr fun z => of_decide_eq_false e (kI_mem.mpr z)
              rw [ht] at asn
              obtain ⟨l3, l4⟩ := An hj ht
              refine do_set (ed_add (ed_var rfl) (ed_var rfl) l3 l2 l4) ?_
              rw [asn]
              exact ⟨_, _, _, _, rfl⟩
          · rw [List.length_map, List.take_length] at hv; exact hv
        · rintro _ ⟨y12, y13, y14, y15, rfl⟩
          have la : (leaveA G b I).length = I.length := Y.lM
          have lb : (leaveB G b I).length = I.length := Y.lb
          have ea : (leaveA G b I)[i]? = some (acc b (ixOf I) (G.row s) (unitR I.length i, 0)).1 := by
            unfold MG.leaveA MG.matM
            rw [List.getElem?_map, List.getElem?_range hi]
            show some (acc b (ixOf I) (G.row (I.getD i 0)) (unitR I.length i, 0)).1 = _
            rw [hs]
          have eb : (leaveB G b I)[i]? = some [G.r s, (acc b (ixOf I) (G.row s) (unitR I.length i, 0)).2] := by
            unfold MG.leaveB
            rw [List.getElem?_map, List.getElem?_range hi]
            show some [G.r (I.getD i 0), (acc b (ixOf I) (G.row (I.getD i 0)) (unitR I.length i, 0)).2] = _
            rw [hs]
          generalize acc b (ixOf I) (G.row s) (unitR I.length i, 0) = x at *
          refine do_seq (· = [.da (gD G), .da (.tup (iD I)), .da (.rat b), .da (rtp G.rw), .da (.tup (G.mv.map rwD)), .da (.dic (kI I) ((List.range I.length).map fun (i : Nat) => Dt.int (i : Int))), x6, .ow m0 (((leaveA G b I).take (i + 1)).map rtp), .ow r0 (((leaveB G b I).take i).map rtp), .da (.int (s : Int)), .ow p0 (x.1.map Dt.rat), .da (.rat x.2), y12, y13, y14, y15]) (do_append (i := 7) rfl (ed_tupL (el_var rfl)) (by rw [List.length_map, List.length_take]; omega) ?_) ?_
          · rw [List.take_succ, ea, List.map_append]; rfl
          · rintro _ rfl
            refine do_append (i := 8) rfl (ed_tup (ea_2 (ed_ixT (ed_var rfl) (ed_var rfl) (rat_at hsn)) (ed_var rfl)) (by show 2 ≤ sizeLine; decide)) (by rw [List.length_map, List.length_take]; omega) ⟨x6, .da (.int (s : Int)), .ow p0 (x.1.map Dt.rat), .da (.rat x.2), y12, y13, y14, y15, ?_⟩
            rw [List.take_succ (l := leaveB G b I), eb, List.map_append]; rfl
    · obtain ⟨x6, x9, x10, x11, x12, x13, x14, x15, rfl⟩ := hv
      refine ⟨x6, x9, x10, x11, x12, x13, x14, x15, ?_⟩
      rw [iD_len, List.take_of_length_le (by rw [Y.lM]; omega), List.take_of_length_le (by rw [Y.lb]; omega)]
  · rintro _ ⟨x6, x9, x10, x11, x12, x13, x14, x15, rfl⟩
    exact do_ret (ed_ixT (i := 1) (ed_call (ea_2 (ed_tupL (el_var rfl)) (ed_tupL (el_var rfl))) ⟨I.length, 2, leaveA G b I, leaveB G b I, rfl, Y, L.ls, i9, by omega, rfl⟩) ed_int rfl) rfl
end W5
set_option Elab.async false
set_option linter.all false
set_option maxRecDepth 100000
set_option maxHeartbeats 8000000
/-! W6: the table of leaving values, first plays, the next state, the order -/
namespace W6
open PySem PySem.Spec PyProof.Rows L2 WA WB WT WC ML W1 W2 WD WE WF WG WH WK W3 W4 W5
variable {P : Program} {w : World} {K : PySem.W.Frag} {mg : Str → Option Value} {base : Heap} {C : Addr} {k : Nat} {f : Addr} {fd : FuncData}
open ME (gt rw_)
open MA (ex)
open MG (Gm Rw ixOf acc unitR leaveA leaveB leaveM lvE lvG exE exG cand nextTo nextM ordTo ordM srt better)
def tbD (G : Gm) (b : Rat) (I : List Nat) : Dt := .dic (kI I) ((leaveM G b I).map rtp)
def R_table (ds : List Dt) (d : Dt) : Prop := ∃ (G : Gm) (b : Rat) (I : List Nat), ds = [gD G, .tup (iD I), .rat b] ∧ G.Ok ∧ MG.Disc b ∧ MG.Ins G I ∧ LvL G b I ∧ d = tbD G b I
theorem ok_table (F : Fun K "leave_table" "leave_table" s_leave_table f fd) (A_leave_values : Fd P w K mg base C "leave_values" ["game", "inside", "discount"] k R_leave)
    (m_range : mg "range" = none) (m_len : mg "len" = none) : FnOk P w K mg base CX0 (k + 1) f fd ["game", "inside", "discount"] (SpD K C R_table) := by
  refine ok_do F sc_leave_table (fun ds d ⟨a, b, c, h, _⟩ => by rw [h]; rfl) fun cdv A outer s H E hr => ⟨_,
      (pss_cons (ps_set (i := 3) sc_leave_table.nd rfl (.inr rfl) (pe_call A_leave_values.ok hr (by rfl) A_leave_values.g A_leave_values.kp A_leave_values.b .nil pass0 (pa_cons (pv 0) (pa_cons (pv 1) (pa_cons (pv 2) pa_nil)))))
      (pss_one (ps_ret (pe_dc (own := [("k", 4)]) rfl sc_leave_table.nd (pi_range1 (by rfl) m_range (pa_cons (pe_callB call_len_seq (by rfl) m_len PySem.boot_len (pa_cons (pv 1) pa_nil)) pa_nil)) (blkOk_by (N := N_leave_table) (sc := defScope s_leave_table) (by decide +kernel)) (fun _ _ _ _ _ => (pg_name (i := 4) sc_leave_table.nd rfl (.inl rfl))) (fun _ _ _ _ _ => pts_nil) (fun _ _ _ _ _ => (pe_ix (kx_tup (K := K) rfl) (pv 1) (pv 4) (fun _ _ => rfl))) (fun _ _ _ _ _ => (pe_ix (kx_tup (K := K) rfl) (pv 3) (pv 4) (fun _ _ => rfl))))))), ?_⟩
  rintro _ _ ⟨G, b, I, rfl, O, B, hI, L, rfl⟩
  have i9 := L.i9
  have Y := MG.leave_sys O B hI
  have lenI : ((iD I).length : Int) = (I.length : Int) := by rw [iD_len]
  have lS := ME.sol_len Y
  refine do_setc (ed_call (ea_3 (ed_var rfl) (ed_var rfl) (ed_var rfl)) ⟨G, b, I, rfl, O, B, hI, L, rfl⟩) ?_
  refine do_ret (ed_dc (ei_rng1 (ea_1 (by rw [← lenI]; exact ed_lenT (ed_var rfl))) (by omega)) (by omega) (by unfold kI; simp) (by rw [List.length_map]; exact lS) (kI_nd hI.nd) fun i x e hi hx he => ⟨?_, ?_⟩) rfl
  · rw [kI_at hi] at hx
    obtain rfl := Option.some.inj hx
    exact ed_ixT (ed_var rfl) (ed_var rfl) (iD_at hi)
  · exact ed_ixT (ed_var rfl) (ed_var rfl) he
theorem ex_snoc (x : Nat → Rat) : ∀ (r : Rw) (t : Nat) (q : Rat), ex (r ++ [(t, q)]) x = ex r x + q * x t
  | [], t, q => by simp only [List.nil_append, ex]; grind
  | (u, p) :: r, t, q => by
    show p * x u + ex (r ++ [(t, q)]) x = p * x u + ex r x + q * x t
    rw [ex_snoc x r t q]; grind
/-- a sum over a row is small all along -/
structure ExL (r : Rw) (x : Nat → Rat) : Prop where
  p : ∀ (j t : Nat) (q : Rat), r[j]? = some (t, q) → Lim q ∧ Lim (x t) ∧ Lim (q * x t)
  s : ∀ j, j ≤ r.length → Lim (ex (r.take j) x)
structure FpL (G : Gm) (b : Rat) (I : List Nat) (s : Nat) : Prop where
  lb : Lim b
  e : ExL (G.row s) (lvE G b I)
  g : ExL (G.row s) (lvG G b I)
  r : Lim (G.r s)
  be : Lim (b * ex (G.row s) (lvE G b I))
  le : Lim (exE G b I s)
  lg : Lim (exG G b I s)
def R_play (ds : List Dt) (d : Dt) : Prop := ∃ (G : Gm) (b : Rat) (I : List Nat) (s : Nat), ds = [gD G, .int (s : Int), tbD G b I, .rat b] ∧ G.Ok ∧ MG.Disc b ∧ MG.Ins G I ∧ s < G.n ∧ FpL G b I s ∧ d = .tup [.rat (exE G b I s), .rat (exG G b I s)]
theorem two_of {r : List Rat} (h : r.length = 2) : r = [gt r 0, gt r 1] := by
  match r, h with
  | [a, b], _ => rfl
theorem leave_at {G : Gm} {b : Rat} {I : List Nat} (O : G.Ok) (B : MG.Disc b) (hI : MG.Ins G I) {t c : Nat} (h : ixOf I t = some c) : ((leaveM G b I).map rtp)[c]? = some (.tup [.rat (lvE G b I t), .rat (lvG G b I t)]) := by
  have Y := MG.leave_sys O B hI
  obtain ⟨h1, _⟩ := MG.ixOf_lt h
  have hl := ME.sol_len Y
  have hc : c < (leaveM G b I).length := by unfold MG.leaveM; rw [hl]; exact h1
  have h2 := ME.sol_rowlen Y h1
  rw [List.getElem?_map, ME.getD_get (d := []) hc]
  have e := two_of (r := (leaveM G b I).getD c []) h2
  show some (rtp ((leaveM G b I).getD c [])) = _
  rw [e]
  unfold MG.lvE MG.lvG
  rw [h]; rfl
theorem ok_play (F : Fun K "first_play" "first_play" s_first_play f fd) (A : Ops P w K mg base C k) (Z_ZERO_leaving : Kr K mg "ZERO_leaving" 0) (Z_ONE_leaving : Kr K mg "ONE_leaving" 1)
    (m_range : mg "range" = none) (m_len : mg "len" = none) : FnOk P w K mg base CX0 (k + 1) f fd ["game", "state", "table", "discount"] (SpD K C R_play) := by
  have A_multiply := A.mul
  have A_add := A.add
  refine ok_do F sc_first_play (fun ds d ⟨a, b, c, e, h, _⟩ => by rw [h]; rfl) fun cdv A outer s H E hr => ⟨_,
      (pss_cons (ps_set (i := 4) sc_first_play.nd rfl (.inl rfl) (pe_glob (v := .ref Z_ZERO_leaving.a) rfl Z_ZERO_leaving.g rfl))
      (pss_cons (ps_set (i := 5) sc_first_play.nd rfl (.inl rfl) (pe_glob (v := .ref Z_ZERO_leaving.a) rfl Z_ZERO_leaving.g rfl))
      (pss_cons (ps_for PassesOwn.never rfl (pi_tup (pe_ix ix_tup (pe_ix ix_tup (pv 0) pe_int (fun _ _ => rfl)) (pv 1) (fun _ _ => rfl))) (pg_pair (K := K) rfl rfl (pgs_cons (pg_name (i := 6) sc_first_play.nd rfl (.inl rfl) (.inl rfl)) (pgs_cons (pg_name (i := 7) sc_first_play.nd rfl (.inl rfl) (.inl rfl)) pgs_nil)))
      (pss_cons (ps_set (i := 8) sc_first_play.nd rfl (.inl rfl) (pe_dget2 (hu_of hr) (pv 2) (pv 6) (pe_tup (pa_cons (pe_glob (v := .ref Z_ZERO_leaving.a) rfl Z_ZERO_leaving.g rfl) (pa_cons (pe_glob (v := .ref Z_ONE_leaving.a) rfl Z_ONE_leaving.g rfl) pa_nil))) ⟨rfl, rfl, rfl, rfl⟩))
        (pss_cons (ps_set (i := 4) sc_first_play.nd rfl (.inl rfl) (pe_call A_add.ok hr (by rfl) A_add.g A_add.kp A_add.b .nil pass0 (pa_cons (pv 4) (pa_cons (pe_call A_multiply.ok hr (by rfl) A_multiply.g A_multiply.kp A_multiply.b .nil pass0 (pa_cons (pv 7) (pa_cons (pe_ix ix_tup (pv 8) pe_int (fun _ _ => rfl)) pa_nil))) pa_nil))))
        (pss_one (ps_set (i := 5) sc_first_play.nd rfl (.inl rfl) (pe_call A_add.ok hr (by rfl) A_add.g A_add.kp A_add.b .nil pass0 (pa_cons (pv 5) (pa_cons (pe_call A_multiply.ok hr (by rfl) A_multiply.g A_multiply.kp A_multiply.b .nil pass0 (pa_cons (pv 7) (pa_cons (pe_ix ix_tup (pv 8) pe_int (fun _ _ => rfl)) pa_nil))) pa_nil))))))))
      (pss_cons (ps_set (i := 4) sc_first_play.nd rfl (.inl rfl) (pe_call A_add.ok hr (by rfl) A_add.g A_add.kp A_add.b .nil pass0 (pa_cons (pe_ix ix_tup (pe_ix ix_tup (pv 0) pe_int (fun _ _ => rfl)) (pv 1) (fun _ _ => rfl)) (pa_cons (pe_call A_multiply.ok hr (by rfl) A_multiply.g A_multiply.kp A_multiply.b .nil pass0 (pa_cons (pv 3) (pa_cons (pv 4) pa_nil))) pa_nil))))
      (pss_one (ps_ret (pe_tup (pa_cons (pv 4) (pa_cons (pe_call A_multiply.ok hr (by rfl) A_multiply.g A_multiply.kp A_multiply.b .nil pass0 (pa_cons (pv 3) (pa_cons (pv 5) pa_nil))) pa_nil))))))))), ?_⟩
  rintro _ _ ⟨G, b, I, s, rfl, O, B, hI, hs, L, rfl⟩
  refine do_setc (d := .rat 0) (ed_kr Z_ZERO_leaving.at_) ?_
  refine do_setc (d := .rat 0) (ed_kr Z_ZERO_leaving.at_) ?_
  refine do_seq (fun Γ => ∃ x6 x7 x8, Γ = [.da (gD G), .da (.int (s : Int)), .da (tbD G b I), .da (.rat b), .da (.rat (ex (G.row s) (lvE G b I))), .da (.rat (ex (G.row s) (lvG G b I))), x6, x7, x8]) ?_ ?_
  · refine do_for (fun j Γ => ∃ x6 x7 x8, Γ = [.da (gD G), .da (.int (s : Int)), .da (tbD G b I), .da (.rat b), .da (.rat (ex ((G.row s).take j) (lvE G b I))), .da (.rat (ex ((G.row s).take j) (lvG G b I))), x6, x7, x8]) (ds := (G.row s).map pD) (ei_tup (ed_ixT (ed_ixT (i := 1) (ed_var rfl) ed_int rfl) (ed_var rfl) (at_map (f := rwD) (row_at O hs)))) ⟨_, _, _, rfl⟩ (fun _ _ _ => trivial) (fun j d Γ' hd hv => ?_) fun Γ' hv => ?_
    · obtain ⟨x6, x7, x8, rfl⟩ := hv
      obtain ⟨⟨t, q⟩, hj, rfl⟩ := map_at hd
      have hjl := get_le hj
      obtain ⟨l1, l2, l3⟩ := L.e.p j t q hj
      obtain ⟨_, l4, l5⟩ := L.g.p j t q hj
      have s1 := L.e.s j (by omega)
      have s2 := L.e.s (j + 1) hjl
      have s3 := L.g.s j (by omega)
      have s4 := L.g.s (j + 1) hjl
      have tk : (G.row s).take (j + 1) = (G.row s).take j ++ [(t, q)] := by rw [List.take_succ, hj]; rfl
      rw [tk, ex_snoc] at s2 s4
      refine ⟨_, tg_pair, ?_⟩
      refine do_setc (d := .tup [.rat (lvE G b I t), .rat (lvG G b I t)]) ?_ ?_
      · refine ed_dget2 (e := .tup [.rat 0, .rat 1]) (ed_var rfl) (ed_var rfl) (ed_tup (ea_2 (ed_kr Z_ZERO_leaving.at_) (ed_kr Z_ONE_leaving.at_)) (by show 2 ≤ sizeLine; decide)) (kI_nd hI.nd) (fun i hi => ?_) fun hno => ?_
        · have hil : i < I.length := by have := get_le hi; unfold kI at this; rw [List.length_map] at this; exact this
          rw [kI_at hil] at hi
          have e : I.getD i 0 = t := by
            have := Option.some.inj hi
            have h2 : ((I.getD i 0 : Nat) : Int) = (t : Int) := this
            omega
          have := MG.ixOf_at hI.nd hil
          rw [e] at this
          exact leave_at O B hI this
        · have ht : t ∉ I := fun z => hno (kI_mem.mpr z)
          obtain ⟨e1, e2⟩ := MG.lv_out (G := G) (b := b) ht
          rw [e1, e2]
      · refine do_setc (ed_add (ed_var rfl) (ed_mul (ed_var rfl) (ed_ixT (i := 0) (ed_var rfl) ed_int rfl) l1 l2 l3) s1 l3 s2) ?_
        refine do_set (ed_add (ed_var rfl) (ed_mul (ed_var rfl) (ed_ixT (i := 1) (ed_var rfl) ed_int rfl) l1 l4 l5) s3 l5 s4) ?_
        rw [tk, ex_snoc, ex_snoc]
        exact ⟨_, _, _, rfl⟩
    · rw [List.length_map, List.take_length] at hv; exact hv
  · rintro _ ⟨x6, x7, x8, rfl⟩
    have se := L.e.s _ (Nat.le_refl _)
    have sg := L.g.s _ (Nat.le_refl _)
    rw [List.take_length] at se sg
    refine do_setc (ed_add (ed_ixT (ed_ixT (i := 0) (ed_var rfl) ed_int rfl) (ed_var rfl) (rat_at hs)) (ed_mul (ed_var rfl) (ed_var rfl) L.lb se L.be) L.r L.be L.le) ?_
    exact do_ret (ed_tup (ea_2 (ed_var rfl) (ed_mul (ed_var rfl) (ed_var rfl) L.lb sg L.lg)) (by show 2 ≤ sizeLine; decide)) rfl
/-! ### the next state -/
structure NxL (G : Gm) (b : Rat) (I : List Nat) : Prop where
  lv : LvL G b I
  fp : ∀ s, s < G.n → s ∉ I → FpL G b I s ∧ Lim (1 - exG G b I s) ∧ 1 - exG G b I s ≠ 0 ∧ Lim (cand G b I s)
  n9 : G.n ≤ 9
  ne : ∃ s, s < G.n ∧ s ∉ I
def qD (q : Nat × Rat) : Dt := .tup [.int (q.1 : Int), .rat q.2]
def optD : Option (Nat × Rat) → Dt
  | none => .non
  | some q => qD q
def R_next (ds : List Dt) (d : Dt) : Prop := ∃ (G : Gm) (b : Rat) (I : List Nat), ds = [gD G, .tup (iD I), .rat b] ∧ G.Ok ∧ MG.Disc b ∧ MG.Ins G I ∧ NxL G b I ∧ d = qD (nextM G b I)
theorem lim_one : Lim 1 := FB.one.lim (by decide) (by decide)
theorem lim_zero : Lim 0 := FB.zero.lim (by decide) (by decide)
theorem ok_next (F : Fun K "next_state" "next_state" s_next_state f fd) (A : Ops P w K mg base C k) (A_leave_table : Fd P w K mg base C "leave_table" ["game", "inside", "discount"] k R_table) (A_first_play : Fd P w K mg base C "first_play" ["game", "state", "table", "discount"] k R_play)
    (Z_ONE_leaving : Kr K mg "ONE_leaving" 1) (m_range : mg "range" = none) (m_len : mg "len" = none) : FnOk P w K mg base CX0 (k + 1) f fd ["game", "inside", "discount"] (SpD K C R_next) := by
  have A_divide := A.div
  have A_subtract := A.sub
  have A_compare := A.cmp
  refine ok_do F sc_next_state (fun ds d ⟨a, b, c, h, _⟩ => by rw [h]; rfl) fun cdv A outer s H E hr => ⟨_,
      (pss_cons (ps_set (i := 3) sc_next_state.nd rfl (.inl rfl) (pe_call A_leave_table.ok hr (by rfl) A_leave_table.g A_leave_table.kp A_leave_table.b .nil pass0 (pa_cons (pv 0) (pa_cons (pv 1) (pa_cons (pv 2) pa_nil)))))
      (pss_cons (ps_set (i := 4) sc_next_state.nd rfl (.inl rfl) pe_non)
      (pss_cons (ps_for PassesOwn.never rfl (pi_range1 (by rfl) m_range (pa_cons (pe_callB call_len_seq (by rfl) m_len PySem.boot_len (pa_cons (pe_ix ix_tup (pv 0) pe_int (fun _ _ => rfl)) pa_nil)) pa_nil)) (pg_name (i := 5) sc_next_state.nd rfl (.inl rfl))
      (pss_cons (ps_if (pt_cmp (pc_din (hu_of hr) (pv 5) (pv 3)))
        (pss_one ps_continue)
        pss_nil)
        (pss_cons (ps_asg (pe_call A_first_play.ok hr (by rfl) A_first_play.g A_first_play.kp A_first_play.b .nil pass0 (pa_cons (pv 0) (pa_cons (pv 5) (pa_cons (pv 3) (pa_cons (pv 2) pa_nil))))) (pg_pair (K := K) rfl rfl (pgs_cons (pg_name (i := 6) sc_next_state.nd rfl (.inl rfl) (.inl rfl)) (pgs_cons (pg_name (i := 7) sc_next_state.nd rfl (.inl rfl) (.inl rfl)) pgs_nil))))
        (pss_cons (ps_set (i := 8) sc_next_state.nd rfl (.inl rfl) (pe_call A_divide.ok hr (by rfl) A_divide.g A_divide.kp A_divide.b .nil pass0 (pa_cons (pv 6) (pa_cons (pe_call A_subtract.ok hr (by rfl) A_subtract.g A_subtract.kp A_subtract.b .nil pass0 (pa_cons (pe_glob (v := .ref Z_ONE_leaving.a) rfl Z_ONE_leaving.g rfl) (pa_cons (pv 7) pa_nil))) pa_nil))))
        (pss_one (ps_if (PW.pt (pw_or (pt_cmpR op_isN (pv 4) pe_non (nomark _)) (pw_or1 (pt_cmpR op_gt (pe_call A_compare.ok hr (by rfl) A_compare.g A_compare.kp A_compare.b .nil pass0 (pa_cons (pv 8) (pa_cons (pe_ix ix_tup (pv 4) pe_int (fun _ _ => rfl)) pa_nil))) pe_int (nomark _)))))
        (pss_one (ps_set (i := 4) sc_next_state.nd rfl (.inl rfl) (pe_tup (pa_cons (pv 5) (pa_cons (pv 8) pa_nil)))))
        pss_nil))))))
      (pss_one (ps_ret (pv 4)))))), ?_⟩
  rintro _ _ ⟨G, b, I, rfl, O, B, hI, L, rfl⟩
  have n9 := L.n9
  have lenG : ((G.rw.map Dt.rat).length : Int) = (G.n : Int) := by rw [List.length_map]; rfl
  refine do_setc (ed_call (ea_3 (ed_var rfl) (ed_var rfl) (ed_var rfl)) ⟨G, b, I, rfl, O, B, hI, L.lv, rfl⟩) ?_
  refine do_setc ed_non ?_
  refine do_seq (fun Γ => ∃ x5 x6 x7 x8, Γ = [.da (gD G), .da (.tup (iD I)), .da (.rat b), .da (tbD G b I), .da (optD (nextTo G b I G.n)), x5, x6, x7, x8]) ?_ ?_
  · refine do_forR (fun s Γ => ∃ x5 x6 x7 x8, Γ = [.da (gD G), .da (.tup (iD I)), .da (.rat b), .da (tbD G b I), .da (optD (nextTo G b I s)), x5, x6, x7, x8]) (ei_rng1 (ea_1 (by rw [← lenG]; exact ed_lenT (ed_ixT (i := 0) (ed_var rfl) ed_int rfl))) (by omega)) ⟨_, _, _, _, rfl⟩ (fun s Γ' hs hv => ?_) fun Γ' hv => hv
    obtain ⟨x5, x6, x7, x8, rfl⟩ := hv
    refine do_seq (fun Γ => s ∉ I ∧ Γ = [.da (gD G), .da (.tup (iD I)), .da (.rat b), .da (tbD G b I), .da (optD (nextTo G b I s)), .da (.int (s : Int)), x6, x7, x8]) (do_if (et_test (et_din (ed_var rfl) (ed_var rfl) (kI_nd hI.nd))) (fun e => ?_) fun e => ?_) ?_
    · have hin : s ∈ I := kI_mem.mp (of_decide_eq_true e)
      refine do_cont ?_
      show ∃ x5 x6 x7 x8, (_ : List Sl) = [.da (gD G), .da (.tup (iD I)), .da (.rat b), .da (tbD G b I), .da (optD (if s ∈ I then nextTo G b I s else better (nextTo G b I s) s (cand G b I s))), x5, x6, x7, x8]
      rw [if_pos hin]
      exact ⟨_, _, _, _, rfl⟩
    · exact do_next ⟨fun z => of_decide_eq_false e (kI_mem.mpr z), rfl⟩
    · rintro _ ⟨hno, rfl⟩
      obtain ⟨fp, l1, l2, l3⟩ := L.fp s hs hno
      refine do_tgc (ed_call (ea_4 (ed_var rfl) (ed_var rfl) (ed_var rfl) (ed_var rfl)) ⟨G, b, I, s, rfl, O, B, hI, hs, fp, rfl⟩) tg_pair ?_
      refine do_setc (ed_div (ed_var rfl) (ed_sub (ed_kr Z_ONE_leaving.at_) (ed_var rfl) lim_one fp.lg l1) fp.le l1 l2 l3) ?_
      have ends : nextTo G b I (s + 1) = better (nextTo G b I s) s (cand G b I s) := by
        show (if s ∈ I then nextTo G b I s else _) = _
        rw [if_neg hno]
      show Do K C _ [.da (gD G), .da (.tup (iD I)), .da (.rat b), .da (tbD G b I), .da (optD (nextTo G b I s)), .da (.int (s : Int)), .da (.rat (exE G b I s)), .da (.rat (exG G b I s)), .da (.rat (cand G b I s))] _ _ _ _
      have hspec := MG.nextTo_spec (G := G) (b := b) (I := I) s
      cases hb : nextTo G b I s with
      | none =>
        refine do_if (b := true) (et_or (a := true) (b := true) (et_test (ed_op (ed_var rfl) ed_non rd_isN)) (fun z => nomatch z)) (fun _ => do_set (ed_tup (ea_2 (ed_var rfl) (ed_var rfl)) (by show 2 ≤ sizeLine; decide)) ?_) fun z => nomatch z
        rw [ends, hb]
        exact ⟨_, _, _, _, rfl⟩
      | some q =>
        have lq : Lim q.2 := by
          rcases hspec with ⟨z, _⟩ | ⟨q', e1, e2, e3, e4, _⟩
          · rw [hb] at z; cases z
          · rw [hb] at e1
            obtain rfl := Option.some.inj e1
            rw [e4]
            exact (L.fp q.1 (by omega) e3).2.2.2
        refine do_if (b := decide (q.2 < cand G b I s)) (et_or (a := false) (b := decide (q.2 < cand G b I s)) (et_test (ed_op (ed_var rfl) ed_non rd_isN)) (fun _ => ?_)) (fun e => ?_) fun e => ?_
        · rw [← cmp_pos]
          exact et_test (ed_op (ed_cmp (ed_var rfl) (ed_ixT (i := 1) (ed_var rfl) ed_int rfl) l3 lq) ed_int rd_B0)
        · have e' : q.2 < cand G b I s := by simpa using e
          refine do_set (ed_tup (ea_2 (ed_var rfl) (ed_var rfl)) (by show 2 ≤ sizeLine; decide)) ?_
          rw [ends, hb]
          show ∃ x5 x6 x7 x8, (_ : List Sl) = [.da (gD G), .da (.tup (iD I)), .da (.rat b), .da (tbD G b I), .da (optD (if q.2 < cand G b I s then some (s, cand G b I s) else some q)), x5, x6, x7, x8]
          rw [if_pos e']
          exact ⟨_, _, _, _, rfl⟩
        · have e' : ¬ q.2 < cand G b I s := by simpa using e
          refine do_next ?_
          rw [ends, hb]
          show ∃ x5 x6 x7 x8, (_ : List Sl) = [.da (gD G), .da (.tup (iD I)), .da (.rat b), .da (tbD G b I), .da (optD (if q.2 < cand G b I s then some (s, cand G b I s) else some q)), x5, x6, x7, x8]
          rw [if_neg e']
          exact ⟨_, _, _, _, rfl⟩
  · rintro _ ⟨x5, x6, x7, x8, rfl⟩
    have h := (MG.nextM_spec (G := G) (b := b) (I := I) L.ne).1
    rw [h]
    exact do_ret (ed_var rfl) rfl
/-! ### the order -/
structure OrL (G : Gm) (b : Rat) : Prop where
  nx : ∀ k, k < G.n → NxL G b (ordTo G b k).2
  n9 : G.n ≤ 9
def R_order (ds : List Dt) (d : Dt) : Prop := ∃ (G : Gm) (b : Rat), ds = [gD G, .rat b] ∧ G.Ok ∧ MG.Disc b ∧ OrL G b ∧ d = .tup ((ordM G b).map qD)
theorem iD_kI (I : List Nat) : iD I = (kI I).map Dt.int := by unfold iD kI; rw [List.map_map]; rfl
theorem ok_order (F : Fun K "index_order" "index_order" s_index_order f fd) (A_next_state : Fd P w K mg base C "next_state" ["game", "inside", "discount"] k R_next)
    (m_range : mg "range" = none) (m_len : mg "len" = none) (m_tuple : mg "tuple" = none) (m_sorted : mg "sorted" = none) : FnOk P w K mg base CX0 (k + 1) f fd ["game", "discount"] (SpD K C R_order) := by
  refine ok_do F sc_index_order (fun ds d ⟨a, b, h, _⟩ => by rw [h]; rfl) fun cdv A outer s H E hr => ⟨_,
      (pss_cons (ps_set (i := 2) sc_index_order.nd rfl (.inl rfl) (pe_lst pa_nil))
      (pss_cons (ps_set (i := 3) sc_index_order.nd rfl (.inl rfl) (pe_tup pa_nil))
      (pss_cons (ps_for PassesOwn.never rfl (pi_range1 (by rfl) m_range (pa_cons (pe_callB call_len_seq (by rfl) m_len PySem.boot_len (pa_cons (pe_ix ix_tup (pv 0) pe_int (fun _ _ => rfl)) pa_nil)) pa_nil)) (pg_name (i := 4) sc_index_order.nd rfl (.inl rfl))
      (pss_cons (ps_set (i := 5) sc_index_order.nd rfl (.inl rfl) (pe_call A_next_state.ok hr (by rfl) A_next_state.g A_next_state.kp A_next_state.b .nil pass0 (pa_cons (pv 0) (pa_cons (pv 3) (pa_cons (pv 1) pa_nil)))))
        (pss_cons (ps_expr (pe_bm PySem.F.plainAttrs_list PySem.F.slot_list_append PySem.F.type_list_append mt_append (pv 2) (pa_cons (pv 5) pa_nil)))
        (pss_one (ps_set (i := 3) sc_index_order.nd rfl (.inl rfl) (pe_callTy call_tuple_of (by rfl) m_tuple boot_tuple (pa_cons (pe_callB cr_sortedTp (by rfl) m_sorted boot_sorted (pa_cons (pe_op op_catA (pv 3) (pe_tup (pa_cons (pe_ix ix_tup (pv 5) pe_int (fun _ _ => rfl)) pa_nil))) pa_nil)) pa_nil)))))))
      (pss_one (ps_ret (pe_callTy call_tuple_of (by rfl) m_tuple boot_tuple (pa_cons (pv 2) pa_nil))))))), ?_⟩
  rintro _ _ ⟨G, b, rfl, O, B, L, rfl⟩
  have n9 := L.n9
  have hs40 := line40
  have lenG : ((G.rw.map Dt.rat).length : Int) = (G.n : Int) := by rw [List.length_map]; rfl
  refine do_setNc (en_lst ea_nil (by decide)) fun p => ?_
  refine do_setc (d := .tup []) (ed_tup ea_nil (by decide)) ?_
  refine do_seq (fun Γ => ∃ x3 x4 x5, Γ = [.da (gD G), .da (.rat b), .ow p ((ordTo G b G.n).1.map qD), x3, x4, x5]) ?_ ?_
  · refine do_forR (fun i Γ => ∃ x4 x5, Γ = [.da (gD G), .da (.rat b), .ow p ((ordTo G b i).1.map qD), .da (.tup (iD (ordTo G b i).2)), x4, x5]) (ei_rng1 (ea_1 (by rw [← lenG]; exact ed_lenT (ed_ixT (i := 0) (ed_var rfl) ed_int rfl))) (by omega)) ⟨_, _, rfl⟩ (fun i Γ' hi hv => ?_) fun Γ' hv => ?_
    · obtain ⟨x4, x5, rfl⟩ := hv
      obtain ⟨hI, hIl⟩ := MG.ordTo_ins (G := G) (b := b) i (by omega)
      have hol : (ordTo G b i).1.length = i := MG.ordTo_len i
      refine do_setc (ed_call (ea_3 (ed_var rfl) (ed_var rfl) (ed_var rfl)) ⟨G, b, (ordTo G b i).2, rfl, O, B, hI, L.nx i hi, rfl⟩) ?_
      refine do_seq (· = [.da (gD G), .da (.rat b), .ow p ((ordTo G b (i + 1)).1.map qD), .da (.tup (iD (ordTo G b i).2)), .da (.int (i : Int)), .da (qD (nextM G b (ordTo G b i).2))]) (do_append (i := 2) rfl (ed_var rfl) (by rw [List.length_map]; omega) ?_) ?_
      · show (_ : List Sl) = [.da (gD G), .da (.rat b), .ow p (((ordTo G b i).1 ++ [nextM G b (ordTo G b i).2]).map qD), _, _, _]
        rw [List.map_append]; rfl
      · rintro _ rfl
        refine do_set (d := .tup (iD (ordTo G b (i + 1)).2)) (ed_tupL ?_) ⟨_, _, rfl⟩
        have e1 : (ordTo G b (i + 1)).2 = srt ((ordTo G b i).2 ++ [(nextM G b (ordTo G b i).2).1]) := rfl
        rw [e1, iD_kI (srt _)]
        have e2 : iD (ordTo G b i).2 ++ [.int ((nextM G b (ordTo G b i).2).1 : Int)] = (kI ((ordTo G b i).2 ++ [(nextM G b (ordTo G b i).2).1])).map Dt.int := by
          rw [← iD_kI]; unfold iD; rw [List.map_append]; rfl
        refine EvN.l (en_cb (ea_1 ?_) (rcn_sortedTp (ns := kI ((ordTo G b i).2 ++ [(nextM G b (ordTo G b i).2).1])) ?_ ?_))
        · rw [← e2]
          exact ed_catT (ed_var rfl) (ed_tup (ea_1 (ed_ixT (i := 0) (ed_var rfl) ed_int rfl)) (by show 1 ≤ sizeLine; decide)) (by rw [iD_len]; show _ + 1 ≤ _; omega)
        · exact (MG.srt_perm _).map _
        · unfold kI
          exact List.pairwise_map.mpr ((MG.srt_asc _).imp fun h => by omega)
    · obtain ⟨x4, x5, rfl⟩ := hv
      exact ⟨_, _, _, rfl⟩
  · rintro _ ⟨x3, x4, x5, rfl⟩
    exact do_ret (ed_tupL (el_var rfl)) rfl
end W6
set_option Elab.async false
set_option linter.all false
set_option maxRecDepth 100000
set_option maxHeartbeats 8000000
/-! W7: knots -/
namespace W7
open PySem PySem.Spec PyProof.Rows L2 WA WB WT WC ML W1 W2 WD WE WF WG WH WK W3 W4 W5 W6
variable {P : Program} {w : World} {K : PySem.W.Frag} {mg : Str → Option Value} {base : Heap} {C : Addr} {k : Nat} {f : Addr} {fd : FuncData}
open ME (gt)
open MF (Knot kn lineSlope slopeAt wrong straight aft bef mrg pks prodKnots)
abbrev FdSlope (P : Program) (w : World) (K : PySem.W.Frag) (mg : Str → Option Value) (base : Heap) (C : Addr) (k : Nat) := Fd P w K mg base C "line_slope" ["left", "right"] k R_slope
def kT (Ks : List Knot) : Dt := .tup (Ks.map kD)
structure KnL (Ks : List Knot) : Prop where
  k : ∀ i, i < Ks.length → Lim (kn Ks i).1 ∧ Lim (kn Ks i).2
  s : ∀ i, i + 1 < Ks.length → Lim ((kn Ks (i + 1)).2 - (kn Ks i).2) ∧ Lim ((kn Ks (i + 1)).1 - (kn Ks i).1) ∧ (kn Ks (i + 1)).1 - (kn Ks i).1 ≠ 0 ∧ Lim (lineSlope (kn Ks i) (kn Ks (i + 1)))
  l : Ks.length ≤ 1000
theorem kn_at {Ks : List Knot} {i : Nat} (h : i < Ks.length) : (Ks.map kD)[i]? = some (kD (kn Ks i)) := by
  rw [List.getElem?_map, ME.getD_get (d := (0, 0)) h]; rfl
theorem kn_len (Ks : List Knot) : (Ks.map kD).length = Ks.length := List.length_map _
section
variable {Γ : List Sl} {t1 t2 : TE} {Ex : XK}
theorem ed_slope {Ks : List Knot} {i : Nat} (L : KnL Ks) (hi : i + 1 < Ks.length) (h1 : EvD K C t1 Γ (kD (kn Ks i))) (h2 : EvD K C t2 Γ (kD (kn Ks (i + 1)))) : EvD K C (tCall (SpD K C R_slope) [] Ex (tCons t1 (tCons t2 tNil))) Γ (.rat (lineSlope (kn Ks i) (kn Ks (i + 1)))) := by
  obtain ⟨a1, a2⟩ := L.k i (by omega)
  obtain ⟨b1, b2⟩ := L.k (i + 1) hi
  obtain ⟨c1, c2, c3, c4⟩ := L.s i hi
  exact ed_call (ea_2 h1 h2) ⟨kn Ks i, kn Ks (i + 1), rfl, a1, a2, b1, b2, c1, c2, c3, c4, rfl⟩
end
theorem find_first {p : Nat → Bool} {n k : Nat} (hk : k < n) (h1 : p k = true) (h2 : ∀ j, j < k → p j = false) : (List.range n).find? p = some k := by
  rw [List.find?_eq_some_iff_append]
  refine ⟨h1, List.range k, (List.range n).drop (k + 1), ?_, fun a ha => by rw [h2 a (List.mem_range.mp ha)]; rfl⟩
  refine List.ext_getElem? fun i => ?_
  rcases Nat.lt_trichotomy i k with q | q | q
  · rw [List.getElem?_append_left (by rw [List.length_range]; exact q), List.getElem?_range (by omega), List.getElem?_range q]
  · subst q
    rw [List.getElem?_append_right (by rw [List.length_range]; exact Nat.le_refl _), List.length_range, Nat.sub_self, List.getElem?_range hk]; rfl
  · rw [List.getElem?_append_right (by rw [List.length_range]; omega), List.length_range]
    obtain ⟨m, rfl⟩ : ∃ m, i = k + 1 + m := ⟨i - (k + 1), by omega⟩
    rw [show k + 1 + m - k = m + 1 by omega, List.getElem?_cons_succ, List.getElem?_drop]
theorem find_no {p : Nat → Bool} {n : Nat} (h : ∀ j, j < n → p j = false) : (List.range n).find? p = none := by
  rw [List.find?_eq_none]
  intro x hx
  rw [h x (List.mem_range.mp hx)]; exact Bool.false_ne_true
def R_slopeAt (ds : List Dt) (d : Dt) : Prop := ∃ (Ks : List Knot) (m : Rat), ds = [kT Ks, .rat m] ∧ 0 < Ks.length ∧ KnL Ks ∧ Lim m ∧ d = .rat (slopeAt Ks m)
theorem ok_slopeAt (F : Fun K "slope_at" "slope_at" s_slope_at f fd) (A : Ops P w K mg base C k) (A_line_slope : FdSlope P w K mg base C k) (Z_ZERO_knots : Kr K mg "ZERO_knots" 0) (Z_ONE_knots : Kr K mg "ONE_knots" 1) (m_range : mg "range" = none) (m_len : mg "len" = none) :
    FnOk P w K mg base CX0 (k + 1) f fd ["knots", "amount"] (SpD K C R_slopeAt) := by
  have A_compare := A.cmp
  refine ok_do F sc_slope_at (fun ds d ⟨a, b, h, _⟩ => by rw [h]; rfl) fun cdv A outer s H E hr => ⟨_,
      (pss_cons (ps_if (pt_cmpR op_lt (pe_call A_compare.ok hr (by rfl) A_compare.g A_compare.kp A_compare.b .nil pass0 (pa_cons (pv 1) (pa_cons (pe_ix ix_tup (pe_ix ix_tup (pv 0) pe_int (fun _ _ => rfl)) pe_int (fun _ _ => rfl)) pa_nil))) pe_int (nomark _))
      (pss_one (ps_ret (pe_glob (v := .ref Z_ZERO_knots.a) rfl Z_ZERO_knots.g rfl)))
      pss_nil)
      (pss_cons (ps_for PassesOwn.never rfl (pi_range2 (by rfl) m_range (pa_cons pe_int (pa_cons (pe_callB call_len_seq (by rfl) m_len PySem.boot_len (pa_cons (pv 0) pa_nil)) pa_nil))) (pg_name (i := 2) sc_slope_at.nd rfl (.inl rfl))
      (pss_one (ps_if (pt_cmpR op_lt (pe_call A_compare.ok hr (by rfl) A_compare.g A_compare.kp A_compare.b .nil pass0 (pa_cons (pv 1) (pa_cons (pe_ix ix_tup (pe_ix ix_tup (pv 0) (pv 2) (fun _ _ => rfl)) pe_int (fun _ _ => rfl)) pa_nil))) pe_int (nomark _))
        (pss_one (ps_ret (pe_call A_line_slope.ok hr (by rfl) A_line_slope.g A_line_slope.kp A_line_slope.b .nil pass0 (pa_cons (pe_ix ix_tup (pv 0) (pe_op op_sub (pv 2) pe_int) (fun _ _ => rfl)) (pa_cons (pe_ix ix_tup (pv 0) (pv 2) (fun _ _ => rfl)) pa_nil)))))
        pss_nil)))
      (pss_one (ps_ret (pe_glob (v := .ref Z_ONE_knots.a) rfl Z_ONE_knots.g rfl))))), ?_⟩
  rintro _ _ ⟨Ks, m, rfl, h0, L, lm, rfl⟩
  have hl := L.l
  have lenK : ((Ks.map kD).length : Int) = (Ks.length : Int) := by rw [kn_len]
  refine do_seq (fun Γ => ¬ m < (kn Ks 0).1 ∧ Γ = [.da (kT Ks), .da (.rat m), .un]) (do_if (b := decide (m < (kn Ks 0).1)) ?_ (fun e => ?_) fun e => ?_) ?_
  · rw [← cmp_neg]
    exact et_test (ed_op (ed_cmp (ed_var rfl) (ed_ixT (i := 0) (ed_ixT (i := 0) (ed_var rfl) ed_int (kn_at h0)) ed_int rfl) lm (L.k 0 h0).1) ed_int rd_B0)
  · refine do_ret (ed_kr Z_ZERO_knots.at_) ?_
    unfold MF.slopeAt
    rw [if_pos (of_decide_eq_true e)]
  · exact do_next ⟨of_decide_eq_false e, rfl⟩
  · rintro _ ⟨hn, rfl⟩
    refine do_seq (fun Γ => ∀ j, 0 < j → j < Ks.length → ¬ m < (kn Ks j).1) ?_ fun Γ' hall => ?_
    · refine do_forR (fun i Γ => (∃ x, Γ = [.da (kT Ks), .da (.rat m), x]) ∧ ∀ j, 0 < j → j < i + 1 → ¬ m < (kn Ks j).1) (ei_rng2 (i := 1) (j := (Ks.length : Int)) (ea_2 ed_int (by rw [← lenK]; exact ed_lenT (ed_var rfl))) (by omega) (by omega) (by omega) (by omega)) ⟨⟨_, rfl⟩, fun j h1 h2 => by omega⟩ (fun i Γ' hi hv => ?_) fun Γ' hv => ?_
      · obtain ⟨⟨x, rfl⟩, hz⟩ := hv
        have hi1 : i + 1 < Ks.length := by omega
        have ei : (1 : Int) + (i : Int) = ((i + 1 : Nat) : Int) := by omega
        rw [ei]
        refine do_if (b := decide (m < (kn Ks (i + 1)).1)) ?_ (fun e => ?_) fun e => ?_
        · rw [← cmp_neg]
          exact et_test (ed_op (ed_cmp (ed_var rfl) (ed_ixT (i := 0) (ed_ixT (ed_var rfl) (ed_var rfl) (kn_at hi1)) ed_int rfl) lm (L.k _ hi1).1) ed_int rd_B0)
        · refine do_ret (ed_slope L hi1 (ed_ixT (i := i) (ed_var rfl) ?_ (kn_at (by omega))) (ed_ixT (ed_var rfl) (ed_var rfl) (kn_at hi1))) ?_
          · have : (i : Int) = ((i + 1 : Nat) : Int) - 1 := by omega
            rw [this]
            exact ed_op (ed_var rfl) ed_int rd_I0
          · have hf : (List.range Ks.length).find? (fun k => decide (0 < k ∧ m < (kn Ks k).1)) = some (i + 1) := find_first hi1 (decide_eq_true ⟨by omega, of_decide_eq_true e⟩) fun j hj => decide_eq_false fun ⟨z1, z2⟩ => hz j z1 hj z2
            unfold MF.slopeAt
            rw [if_neg hn, hf]; rfl
        · refine do_next ⟨⟨_, rfl⟩, fun j h1 h2 => ?_⟩
          by_cases hj : j = i + 1
          · rw [hj]; exact of_decide_eq_false e
          · exact hz j h1 (by omega)
      · exact fun j h1 h2 => hv.2 j h1 (by omega)
    · refine do_ret (ed_kr Z_ONE_knots.at_) ?_
      have hf : (List.range Ks.length).find? (fun k => decide (0 < k ∧ m < (kn Ks k).1)) = none := find_no fun j hj => decide_eq_false fun ⟨z1, z2⟩ => hall j z1 hj z2
      unfold MF.slopeAt
      rw [if_neg hn, hf]
/-! ### first_wrong: nothing wrong -/
def R_wrong (ds : List Dt) (d : Dt) : Prop := ∃ (Ks : List Knot), ds = [kT Ks] ∧ KnL Ks ∧ (∀ i, i < Ks.length → ¬ wrong Ks i) ∧ d = .non
def befW (Ks : List Knot) (i : Nat) : Rat := if i ≤ 1 then 0 else lineSlope (kn Ks (i - 2)) (kn Ks (i - 1))
theorem ok_wrong (F : Fun K "first_wrong" "first_wrong" s_first_wrong f fd) (A : Ops P w K mg base C k) (A_line_slope : FdSlope P w K mg base C k) (Z_ZERO_knots : Kr K mg "ZERO_knots" 0) (Z_ONE_knots : Kr K mg "ONE_knots" 1) (m_range : mg "range" = none) (m_len : mg "len" = none) :
    FnOk P w K mg base CX0 (k + 1) f fd ["knots"] (SpD K C R_wrong) := by
  have A_compare := A.cmp
  refine ok_do F sc_first_wrong (fun ds d ⟨a, h, _⟩ => by rw [h]; rfl) fun cdv A outer s H E hr => ⟨_,
      (pss_cons (ps_set (i := 1) sc_first_wrong.nd rfl (.inl rfl) (pe_glob (v := .ref Z_ZERO_knots.a) rfl Z_ZERO_knots.g rfl))
      (pss_cons (ps_for PassesOwn.never rfl (pi_range1 (by rfl) m_range (pa_cons (pe_callB call_len_seq (by rfl) m_len PySem.boot_len (pa_cons (pv 0) pa_nil)) pa_nil)) (pg_name (i := 2) sc_first_wrong.nd rfl (.inl rfl))
      (pss_cons (ps_if (pt_cmpR op_gt (pv 2) pe_int (nomark _))
        (pss_cons (ps_if (pt_cmpR op_le (pe_call A_compare.ok hr (by rfl) A_compare.g A_compare.kp A_compare.b .nil pass0 (pa_cons (pe_ix ix_tup (pe_ix ix_tup (pv 0) (pv 2) (fun _ _ => rfl)) pe_int (fun _ _ => rfl)) (pa_cons (pe_ix ix_tup (pe_ix ix_tup (pv 0) (pe_op op_sub (pv 2) pe_int) (fun _ _ => rfl)) pe_int (fun _ _ => rfl)) pa_nil))) pe_int (nomark _))
          (pss_one (ps_ret (pv 2)))
          pss_nil)
          (pss_cons (ps_set (i := 3) sc_first_wrong.nd rfl (.inl rfl) (pe_call A_line_slope.ok hr (by rfl) A_line_slope.g A_line_slope.kp A_line_slope.b .nil pass0 (pa_cons (pe_ix ix_tup (pv 0) (pe_op op_sub (pv 2) pe_int) (fun _ _ => rfl)) (pa_cons (pe_ix ix_tup (pv 0) (pv 2) (fun _ _ => rfl)) pa_nil))))
          (pss_cons (ps_if (PW.pt (pw_or (pt_cmpR op_ge (pe_call A_compare.ok hr (by rfl) A_compare.g A_compare.kp A_compare.b .nil pass0 (pa_cons (pv 3) (pa_cons (pe_glob (v := .ref Z_ONE_knots.a) rfl Z_ONE_knots.g rfl) pa_nil))) pe_int (nomark _)) (pw_or1 (pt_cmpR op_le (pe_call A_compare.ok hr (by rfl) A_compare.g A_compare.kp A_compare.b .nil pass0 (pa_cons (pv 3) (pa_cons (pv 1) pa_nil))) pe_int (nomark _)))))
          (pss_one (ps_ret (pv 2)))
          pss_nil)
          (pss_one (ps_set (i := 1) sc_first_wrong.nd rfl (.inl rfl) (pv 3))))))
        pss_nil)
        (pss_one (ps_if (PW.pt (pw_and (pt_cmpR op_eq (pv 2) (pe_op op_sub (pe_callB call_len_seq (by rfl) m_len PySem.boot_len (pa_cons (pv 0) pa_nil)) pe_int) (nomark _)) (pw_and1 (pt_cmpR op_ne (pe_call A_compare.ok hr (by rfl) A_compare.g A_compare.kp A_compare.b .nil pass0 (pa_cons (pe_ix ix_tup (pe_ix ix_tup (pv 0) (pv 2) (fun _ _ => rfl)) pe_int (fun _ _ => rfl)) (pa_cons (pe_ix ix_tup (pe_ix ix_tup (pv 0) (pv 2) (fun _ _ => rfl)) pe_int (fun _ _ => rfl)) pa_nil))) pe_int (nomark _)))))
        (pss_one (ps_ret (pv 2)))
        pss_nil))))
      (pss_one (ps_ret pe_non)))), ?_⟩
  rintro _ _ ⟨Ks, rfl, L, hw, rfl⟩
  have hl := L.l
  have lenK : ((Ks.map kD).length : Int) = (Ks.length : Int) := by rw [kn_len]
  have lbef : ∀ i, i ≤ Ks.length → Lim (befW Ks i) := fun i hi => by
    unfold befW
    split
    · exact lim_zero
    · have := (L.s (i - 2) (by omega)).2.2.2
      rw [show i - 2 + 1 = i - 1 by omega] at this
      exact this
  refine do_setc (d := .rat 0) (ed_kr Z_ZERO_knots.at_) ?_
  refine do_seq (fun Γ => True) ?_ fun Γ' _ => do_ret ed_non rfl
  refine do_forR (fun i Γ => ∃ x2 x3, Γ = [.da (kT Ks), .da (.rat (befW Ks i)), x2, x3]) (ei_rng1 (ea_1 (by rw [← lenK]; exact ed_lenT (ed_var rfl))) (by omega)) ⟨_, _, rfl⟩ (fun i Γ' hi hv => ?_) fun Γ' hv => trivial
  obtain ⟨x2, x3, rfl⟩ := hv
  obtain ⟨l1, l2⟩ := L.k i hi
  refine do_seq (fun Γ => ∃ x3, Γ = [.da (kT Ks), .da (.rat (befW Ks (i + 1))), .da (.int (i : Int)), x3]) (do_if (b := decide ((0 : Int) < (i : Int))) (et_test (ed_op (ed_var rfl) ed_int rd_B0)) (fun e => ?_) fun e => ?_) ?_
  · have h0 : 0 < i := by have := of_decide_eq_true e; omega
    obtain ⟨j, rfl⟩ : ∃ j, i = j + 1 := ⟨i - 1, by omega⟩
    have hwj := hw (j + 1) hi
    have w1 : ¬ ((kn Ks (j + 1)).1 ≤ (kn Ks j).1) := fun z => hwj (.inl ⟨by omega, .inl (by rw [Nat.add_sub_cancel]; exact z)⟩)
    have w2 : ¬ (1 ≤ lineSlope (kn Ks j) (kn Ks (j + 1))) := fun z => hwj (.inl ⟨by omega, .inr (.inl (by rw [Nat.add_sub_cancel]; exact z))⟩)
    have w3 : ¬ (lineSlope (kn Ks j) (kn Ks (j + 1)) ≤ befW Ks (j + 1)) := fun z => hwj (.inl ⟨by omega, .inr (.inr (by
      rw [Nat.add_sub_cancel]
      unfold befW at z
      by_cases hj : j = 0
      · rw [if_pos (by omega)] at z; rw [if_pos (by omega)]; exact z
      · rw [if_neg (by omega)] at z; rw [if_neg (by omega)]; exact z))⟩)
    have ej : (j : Int) = ((j + 1 : Nat) : Int) - 1 := by omega
    have prev : ∀ {x : Sl}, EvD K C (tOp (rIxT K) (tVar 0) (tOp (rI0 fun i j => .int (i - j)) (tVar 2) (tC (.int 1)))) [.da (kT Ks), .da (.rat (befW Ks (j + 1))), .da (.int ((j + 1 : Nat) : Int)), x] (kD (kn Ks j)) := fun {x} => by
      refine ed_ixT (i := j) (ed_var rfl) ?_ (kn_at (by omega))
      rw [ej]
      exact ed_op (ed_var rfl) ed_int rd_I0
    refine do_seq (· = [.da (kT Ks), .da (.rat (befW Ks (j + 1))), .da (.int ((j + 1 : Nat) : Int)), x3]) (do_if (b := decide ((kn Ks (j + 1)).1 ≤ (kn Ks j).1)) ?_ (fun e => absurd (of_decide_eq_true e) w1) fun _ => do_next rfl) ?_
    · rw [← cmp_le]
      exact et_test (ed_op (ed_cmp (ed_ixT (i := 0) (ed_ixT (ed_var rfl) (ed_var rfl) (kn_at hi)) ed_int rfl) (ed_ixT (i := 0) prev ed_int rfl) l1 (L.k j (by omega)).1) ed_int rd_B0)
    rintro _ rfl
    refine do_setc (ed_slope L hi prev (ed_ixT (ed_var rfl) (ed_var rfl) (kn_at hi))) ?_
    have ls := (L.s j hi).2.2.2
    refine do_seq (· = [.da (kT Ks), .da (.rat (befW Ks (j + 1))), .da (.int ((j + 1 : Nat) : Int)), .da (.rat (lineSlope (kn Ks j) (kn Ks (j + 1))))]) (do_if (b := false || false) (et_or (a := false) (b := false) ?_ fun _ => ?_) (fun e => nomatch e) fun _ => do_next rfl) ?_
    · have : false = decide ((1 : Rat) ≤ lineSlope (kn Ks j) (kn Ks (j + 1))) := (decide_eq_false w2).symm
      rw [this, ← cmp_ge]
      exact et_test (ed_op (ed_cmp (ed_var rfl) (ed_kr Z_ONE_knots.at_) ls lim_one) ed_int rd_B0)
    · have : false = decide (lineSlope (kn Ks j) (kn Ks (j + 1)) ≤ befW Ks (j + 1)) := (decide_eq_false w3).symm
      rw [this, ← cmp_le]
      exact et_test (ed_op (ed_cmp (ed_var rfl) (ed_var rfl) ls (lbef _ (by omega))) ed_int rd_B0)
    rintro _ rfl
    refine do_set (ed_var rfl) ?_
    have : befW Ks (j + 1 + 1) = lineSlope (kn Ks j) (kn Ks (j + 1)) := by unfold befW; rw [if_neg (by omega)]; rfl
    rw [this]
    exact ⟨_, rfl⟩
  · have h0 : i = 0 := by have := of_decide_eq_false e; omega
    subst h0
    refine do_next ⟨x3, ?_⟩
    have : befW Ks (0 + 1) = befW Ks 0 := by unfold befW; rw [if_pos (by omega), if_pos (by omega)]
    rw [this]; rfl
  · rintro _ ⟨y3, rfl⟩
    refine do_if (b := false) ?_ (fun z => nomatch z) fun _ => do_next ⟨_, _, rfl⟩
    by_cases hlast : i + 1 = Ks.length
    · have wl : (kn Ks i).1 = (kn Ks i).2 := by
        by_cases h : (kn Ks i).1 = (kn Ks i).2
        · exact h
        · exact absurd (.inr ⟨hlast, h⟩) (hw i hi)
      refine et_and (a := true) (b := false) ?_ fun _ => ?_
      · have : true = decide ((i : Int) = (Ks.length : Int) - 1) := (decide_eq_true (by omega)).symm
        rw [this]
        refine et_test (ed_op (ed_var rfl) (ed_op (x := .int (Ks.length : Int)) (by rw [← lenK]; exact ed_lenT (ed_var rfl)) ed_int rd_I0) rd_eqI)
      · have : false = !decide (cmp (kn Ks i).1 (kn Ks i).2 = 0) := by rw [decide_eq_true (cmp_eq.mpr wl)]; rfl
        rw [this]
        exact et_test (ed_op (ed_cmp (ed_ixT (i := 0) (ed_ixT (ed_var rfl) (ed_var rfl) (kn_at hi)) ed_int rfl) (ed_ixT (i := 1) (ed_ixT (ed_var rfl) (ed_var rfl) (kn_at hi)) ed_int rfl) l1 l2) ed_int rd_neI)
    · refine et_and (a := false) (b := false) ?_ fun z => nomatch z
      have : false = decide ((i : Int) = (Ks.length : Int) - 1) := (decide_eq_false (by omega)).symm
      rw [this]
      refine et_test (ed_op (ed_var rfl) (ed_op (x := .int (Ks.length : Int)) (by rw [← lenK]; exact ed_lenT (ed_var rfl)) ed_int rd_I0) rd_eqI)
/-! ### straightened -/
def R_straight (ds : List Dt) (d : Dt) : Prop := ∃ (Ks : List Knot), ds = [.lst (Ks.map kD)] ∧ KnL Ks ∧ d = kT (straight Ks)
def strTo (Ks : List Knot) (i : Nat) : List Knot := (List.range i).filterMap fun k => if bef Ks k = aft Ks k then none else some (kn Ks k)
theorem strTo_len (Ks : List Knot) (i : Nat) : (strTo Ks i).length ≤ i := by
  have := List.length_filterMap_le (fun k => if bef Ks k = aft Ks k then none else some (kn Ks k)) (List.range i)
  rw [List.length_range] at this
  exact this
theorem strTo_succ (Ks : List Knot) (i : Nat) : strTo Ks (i + 1) = strTo Ks i ++ (if bef Ks i = aft Ks i then [] else [kn Ks i]) := by
  unfold strTo
  rw [List.range_succ, List.filterMap_append, List.filterMap_cons, List.filterMap_nil]
  split
  · rename_i h
    split at h
    · rw [if_pos (by assumption)]
    · cases h
  · rename_i h
    split at h
    · cases h
    · rw [if_neg (by assumption)]
      obtain rfl := Option.some.inj h; rfl
theorem ok_straight (F : Fun K "straightened" "straightened" s_straightened f fd) (A : Ops P w K mg base C k) (A_line_slope : FdSlope P w K mg base C k) (Z_ZERO_knots : Kr K mg "ZERO_knots" 0) (Z_ONE_knots : Kr K mg "ONE_knots" 1) (m_range : mg "range" = none) (m_len : mg "len" = none) (m_tuple : mg "tuple" = none) :
    FnOk P w K mg base CX0 (k + 1) f fd ["points"] (SpD K C R_straight) := by
  have A_compare := A.cmp
  refine ok_do F sc_straightened (fun ds d ⟨a, h, _⟩ => by rw [h]; rfl) fun cdv A outer s H E hr => ⟨_,
      (pss_cons (ps_set (i := 1) sc_straightened.nd rfl (.inl rfl) (pe_lst pa_nil))
      (pss_cons (ps_set (i := 2) sc_straightened.nd rfl (.inl rfl) (pe_glob (v := .ref Z_ZERO_knots.a) rfl Z_ZERO_knots.g rfl))
      (pss_cons (ps_for PassesOwn.never rfl (pi_range1 (by rfl) m_range (pa_cons (pe_callB call_len_seq (by rfl) m_len PySem.boot_len (pa_cons (pv 0) pa_nil)) pa_nil)) (pg_name (i := 3) sc_straightened.nd rfl (.inl rfl))
      (pss_cons (ps_set (i := 4) sc_straightened.nd rfl (.inl rfl) (pe_glob (v := .ref Z_ONE_knots.a) rfl Z_ONE_knots.g rfl))
        (pss_cons (ps_if (pt_cmpR op_lt (pe_op op_add (pv 3) pe_int) (pe_callB call_len_seq (by rfl) m_len PySem.boot_len (pa_cons (pv 0) pa_nil)) (nomark _))
        (pss_one (ps_set (i := 4) sc_straightened.nd rfl (.inl rfl) (pe_call A_line_slope.ok hr (by rfl) A_line_slope.g A_line_slope.kp A_line_slope.b .nil pass0 (pa_cons (pe_ix ix_list (pv 0) (pv 3) (fun _ _ => rfl)) (pa_cons (pe_ix ix_list (pv 0) (pe_op op_add (pv 3) pe_int) (fun _ _ => rfl)) pa_nil)))))
        pss_nil)
        (pss_cons (ps_if (pt_cmpR op_ne (pe_call A_compare.ok hr (by rfl) A_compare.g A_compare.kp A_compare.b .nil pass0 (pa_cons (pv 2) (pa_cons (pv 4) pa_nil))) pe_int (nomark _))
        (pss_one (ps_expr (pe_bm PySem.F.plainAttrs_list PySem.F.slot_list_append PySem.F.type_list_append mt_append (pv 1) (pa_cons (pe_ix ix_list (pv 0) (pv 3) (fun _ _ => rfl)) pa_nil))))
        pss_nil)
        (pss_one (ps_set (i := 2) sc_straightened.nd rfl (.inl rfl) (pv 4)))))))
      (pss_one (ps_ret (pe_callTy call_tuple_of (by rfl) m_tuple boot_tuple (pa_cons (pv 1) pa_nil))))))), ?_⟩
  rintro _ _ ⟨Ks, rfl, L, rfl⟩
  have hl := L.l
  have lenK : ((Ks.map kD).length : Int) = (Ks.length : Int) := by rw [kn_len]
  have laft : ∀ i, i < Ks.length → Lim (aft Ks i) := fun i hi => by
    unfold MF.aft
    split
    · exact (L.s i (by assumption)).2.2.2
    · exact lim_one
  have lbef : ∀ i, i < Ks.length → Lim (bef Ks i) := fun i hi => by
    unfold MF.bef
    split
    · exact lim_zero
    · exact laft (i - 1) (by omega)
  refine do_setNc (en_lst ea_nil (by decide)) fun p => ?_
  refine do_setc (d := .rat 0) (ed_kr Z_ZERO_knots.at_) ?_
  refine do_seq (fun Γ => ∃ x2 x3 x4, Γ = [.da (.lst (Ks.map kD)), .ow p ((straight Ks).map kD), x2, x3, x4]) ?_ ?_
  · refine do_forR (fun i Γ => ∃ x3 x4, Γ = [.da (.lst (Ks.map kD)), .ow p ((strTo Ks i).map kD), .da (.rat (bef Ks i)), x3, x4]) (ei_rng1 (ea_1 (by rw [← lenK]; exact ed_lenL (ed_var rfl).l)) (by omega)) ⟨_, _, rfl⟩ (fun i Γ' hi hv => ?_) fun Γ' hv => ?_
    · obtain ⟨x3, x4, rfl⟩ := hv
      refine do_setc (d := .rat 1) (ed_kr Z_ONE_knots.at_) ?_
      refine do_seq (· = [.da (.lst (Ks.map kD)), .ow p ((strTo Ks i).map kD), .da (.rat (bef Ks i)), .da (.int (i : Int)), .da (.rat (aft Ks i))]) (do_if (b := decide ((i : Int) + 1 < (Ks.length : Int))) ?_ (fun e => ?_) fun e => ?_) ?_
      · refine et_test (ed_op (ed_op (ed_var rfl) ed_int rd_I0) (by rw [← lenK]; exact ed_lenL (ed_var rfl).l) rd_B0)
      · have h1 : i + 1 < Ks.length := by have := of_decide_eq_true e; omega
        have ea : aft Ks i = lineSlope (kn Ks i) (kn Ks (i + 1)) := by unfold MF.aft; rw [if_pos h1]
        rw [ea]
        refine do_set (ed_slope L h1 (ed_ixL (ed_var rfl).l (ed_var rfl) (kn_at hi)) (ed_ixL (i := i + 1) (ed_var rfl).l ?_ (kn_at h1))) rfl
        have : ((i + 1 : Nat) : Int) = (i : Int) + 1 := by omega
        rw [this]
        exact ed_op (ed_var rfl) ed_int rd_I0
      · have h1 : ¬ i + 1 < Ks.length := by have := of_decide_eq_false e; omega
        have ea : aft Ks i = 1 := by unfold MF.aft; rw [if_neg h1]
        rw [ea]
        exact do_next rfl
      · rintro _ rfl
        refine do_seq (· = [.da (.lst (Ks.map kD)), .ow p ((strTo Ks (i + 1)).map kD), .da (.rat (bef Ks i)), .da (.int (i : Int)), .da (.rat (aft Ks i))]) (do_if (b := !decide (cmp (bef Ks i) (aft Ks i) = 0)) (et_test (ed_op (ed_cmp (ed_var rfl) (ed_var rfl) (lbef i hi) (laft i hi)) ed_int rd_neI)) (fun e => ?_) fun e => ?_) ?_
        · have hne : ¬ bef Ks i = aft Ks i := fun z => by
            rw [decide_eq_true (cmp_eq.mpr z)] at e; cases e
          have := strTo_len Ks i
          refine do_append (i := 1) rfl (ed_ixL (ed_var rfl).l (ed_var rfl) (kn_at hi)) (by rw [List.length_map]; omega) ?_
          rw [strTo_succ, if_neg hne, List.map_append]; rfl
        · have he : bef Ks i = aft Ks i := by
            rw [Bool.not_eq_false'] at e
            exact cmp_eq.mp (of_decide_eq_true e)
          refine do_next ?_
          rw [strTo_succ, if_pos he, List.append_nil]
        · rintro _ rfl
          have eb : bef Ks (i + 1) = aft Ks i := by unfold MF.bef; rw [if_neg (by omega)]; rfl
          refine do_set (ed_var rfl) ?_
          rw [eb]
          exact ⟨_, _, rfl⟩
    · obtain ⟨x3, x4, rfl⟩ := hv
      exact ⟨_, x3, x4, rfl⟩
  · rintro _ ⟨x2, x3, x4, rfl⟩
    exact do_ret (ed_tupL (el_var rfl)) rfl
end W7
set_option Elab.async false
set_option linter.all false
set_option maxRecDepth 100000
set_option maxHeartbeats 8000000
/-! W8: products of curves, the class of curves -/
namespace W8
open PySem PySem.Spec PyProof.Rows L2 WA WB WT WC ML W1 W2 WD WE WF WG WH WK W3 W4 W5 W6 W7
variable {P : Program} {w : World} {K : PySem.W.Frag} {mg : Str → Option Value} {base : Heap} {C : Addr} {k : Nat} {f : Addr} {fd : FuncData}
open ME (gt)
open MF (Knot kn lineSlope slopeAt wrong straight aft bef mrg pks prodKnots)
def am (Ks : List Knot) : List Rat := Ks.map (·.1)
def R_merged (ds : List Dt) (d : Dt) : Prop := ∃ (Ks Qs : List Knot), ds = [kT Ks, kT Qs] ∧ KnL Ks ∧ KnL Qs ∧ d = rl (mrg (am Ks) (am Qs))
theorem mrg_nil_r (xs : List Rat) : mrg xs [] = xs := by cases xs <;> rw [mrg]
theorem mrg_nil_l (ys : List Rat) : mrg [] ys = ys := by rw [mrg]
theorem am_drop {Ks : List Knot} {i : Nat} (h : i < Ks.length) : (am Ks).drop i = (kn Ks i).1 :: (am Ks).drop (i + 1) := by
  unfold am
  rw [← List.map_drop, ← List.map_drop, List.drop_eq_getElem_cons h, List.map_cons]
  have e : kn Ks i = Ks[i] := by
    unfold MF.kn
    rw [List.getD_eq_getElem?_getD, List.getElem?_eq_getElem h]; rfl
  rw [e]
theorem am_end {Ks : List Knot} {i : Nat} (h : Ks.length ≤ i) : (am Ks).drop i = [] := List.drop_of_length_le (by unfold am; rw [List.length_map]; exact h)
theorem ok_merged (F : Fun K "merged_amounts" "merged_amounts" s_merged_amounts f fd) (A : Ops P w K mg base C k) (m_len : mg "len" = none) : FnOk P w K mg base CX0 (k + 1) f fd ["first", "second"] (SpD K C R_merged) := by
  have A_compare := A.cmp
  refine ok_do F sc_merged_amounts (fun ds d ⟨a, b, h, _⟩ => by rw [h]; rfl) fun cdv A outer s H E hr => ⟨_,
      (pss_cons (ps_set (i := 2) sc_merged_amounts.nd rfl (.inl rfl) (pe_lst pa_nil))
      (pss_cons (ps_set (i := 3) sc_merged_amounts.nd rfl (.inl rfl) pe_int)
      (pss_cons (ps_set (i := 4) sc_merged_amounts.nd rfl (.inl rfl) pe_int)
      (pss_cons (ps_while PassesOwn.never (PW.pt (pw_or (pt_cmpR op_lt (pv 3) (pe_callB call_len_seq (by rfl) m_len PySem.boot_len (pa_cons (pv 0) pa_nil)) (nomark _)) (pw_or1 (pt_cmpR op_lt (pv 4) (pe_callB call_len_seq (by rfl) m_len PySem.boot_len (pa_cons (pv 1) pa_nil)) (nomark _)))))
      (pss_cons (ps_set (i := 5) sc_merged_amounts.nd rfl (.inl rfl) pe_int)
        (pss_cons (ps_if (pt_cmpR op_ge (pv 4) (pe_callB call_len_seq (by rfl) m_len PySem.boot_len (pa_cons (pv 1) pa_nil)) (nomark _))
        (pss_one (ps_set (i := 5) sc_merged_amounts.nd rfl (.inl rfl) (pe_un un_neg pe_int)))
        (pss_one (ps_if (pt_cmpR op_lt (pv 3) (pe_callB call_len_seq (by rfl) m_len PySem.boot_len (pa_cons (pv 0) pa_nil)) (nomark _))
          (pss_one (ps_set (i := 5) sc_merged_amounts.nd rfl (.inl rfl) (pe_call A_compare.ok hr (by rfl) A_compare.g A_compare.kp A_compare.b .nil pass0 (pa_cons (pe_ix ix_tup (pe_ix ix_tup (pv 0) (pv 3) (fun _ _ => rfl)) pe_int (fun _ _ => rfl)) (pa_cons (pe_ix ix_tup (pe_ix ix_tup (pv 1) (pv 4) (fun _ _ => rfl)) pe_int (fun _ _ => rfl)) pa_nil)))))
          pss_nil)))
        (pss_cons (ps_if (pt_cmpR op_le (pv 5) pe_int (nomark _))
        (pss_cons (ps_expr (pe_bm PySem.F.plainAttrs_list PySem.F.slot_list_append PySem.F.type_list_append mt_append (pv 2) (pa_cons (pe_ix ix_tup (pe_ix ix_tup (pv 0) (pv 3) (fun _ _ => rfl)) pe_int (fun _ _ => rfl)) pa_nil)))
          (pss_one (ps_aug (i := 3) sc_merged_amounts.nd rfl (.inl rfl) pe_int ip_add)))
        (pss_one (ps_expr (pe_bm PySem.F.plainAttrs_list PySem.F.slot_list_append PySem.F.type_list_append mt_append (pv 2) (pa_cons (pe_ix ix_tup (pe_ix ix_tup (pv 1) (pv 4) (fun _ _ => rfl)) pe_int (fun _ _ => rfl)) pa_nil)))))
        (pss_one (ps_if (pt_cmpR op_ge (pv 5) pe_int (nomark _))
        (pss_one (ps_aug (i := 4) sc_merged_amounts.nd rfl (.inl rfl) pe_int ip_add))
        pss_nil))))))
      (pss_one (ps_ret (pv 2))))))), ?_⟩
  rintro _ _ ⟨Ks, Qs, rfl, L, M, rfl⟩
  have l1 := L.l
  have l2 := M.l
  have lenK : ((Ks.map kD).length : Int) = (Ks.length : Int) := by rw [kn_len]
  have lenQ : ((Qs.map kD).length : Int) = (Qs.length : Int) := by rw [kn_len]
  refine do_setNc (en_lst ea_nil (by decide)) fun p => ?_
  refine do_setc ed_int (do_setc ed_int ?_)
  refine do_seq (fun Γ => ∃ x3 x4 x5, Γ = [.da (kT Ks), .da (kT Qs), .ow p ((mrg (am Ks) (am Qs)).map Dt.rat), x3, x4, x5]) ?_ ?_
  · refine do_while (fun m Γ => ∃ (i j : Nat) (acc : List Rat) (x5 : Sl), Γ = [.da (kT Ks), .da (kT Qs), .ow p (acc.map Dt.rat), .da (.int (i : Int)), .da (.int (j : Int)), x5] ∧ i ≤ Ks.length ∧ j ≤ Qs.length ∧ m = (Ks.length - i) + (Qs.length - j) ∧ acc.length ≤ i + j ∧ acc ++ mrg ((am Ks).drop i) ((am Qs).drop j) = mrg (am Ks) (am Qs)) ⟨_, 0, 0, [], _, rfl, by omega, by omega, rfl, by simp, by simp⟩ fun m Γ' hv => ?_
    obtain ⟨i, j, acc, x5, rfl, hi, hj, rfl, hal, heq⟩ := hv
    refine ⟨decide ((i : Int) < (Ks.length : Int)) || decide ((j : Int) < (Qs.length : Int)), et_or (et_test (ed_op (ed_var rfl) (by rw [← lenK]; exact ed_lenT (ed_var rfl)) rd_B0)) (fun _ => et_test (ed_op (ed_var rfl) (by rw [← lenQ]; exact ed_lenT (ed_var rfl)) rd_B0)), fun e => ?_, fun e => ?_⟩
    · have hsome : i < Ks.length ∨ j < Qs.length := by
        rcases Bool.or_eq_true_iff.mp e with z | z
        · left; have := of_decide_eq_true z; omega
        · right; have := of_decide_eq_true z; omega
      -- the order of the two heads
      refine do_setc ed_int ?_
      refine do_seq (fun Γ => ∃ o : Int, Γ = [.da (kT Ks), .da (kT Qs), .ow p (acc.map Dt.rat), .da (.int (i : Int)), .da (.int (j : Int)), .da (.int o)] ∧ ((o ≤ 0 ∧ i < Ks.length ∧ acc ++ [(kn Ks i).1] ++ mrg ((am Ks).drop (i + 1)) ((am Qs).drop (if 0 ≤ o then j + 1 else j)) = mrg (am Ks) (am Qs) ∧ (0 ≤ o → j < Qs.length)) ∨ (0 < o ∧ j < Qs.length ∧ acc ++ [(kn Qs j).1] ++ mrg ((am Ks).drop i) ((am Qs).drop (j + 1)) = mrg (am Ks) (am Qs)))) ?_ ?_
      · refine do_if (b := decide ((Qs.length : Int) ≤ (j : Int))) (et_test (ed_op (ed_var rfl) (by rw [← lenQ]; exact ed_lenT (ed_var rfl)) rd_B0)) (fun e1 => ?_) fun e1 => ?_
        · have hj' : Qs.length ≤ j := by have := of_decide_eq_true e1; omega
          have hi' : i < Ks.length := by omega
          refine do_set (ed_un ed_int ru_neg) ⟨-1, rfl, .inl ⟨by omega, hi', ?_, fun z => by omega⟩⟩
          rw [if_neg (by omega), am_end hj', mrg_nil_r, ← heq, am_end hj', mrg_nil_r, am_drop hi']; simp
        · have hj' : j < Qs.length := by have := of_decide_eq_false e1; omega
          refine do_if (b := decide ((i : Int) < (Ks.length : Int))) (et_test (ed_op (ed_var rfl) (by rw [← lenK]; exact ed_lenT (ed_var rfl)) rd_B0)) (fun e2 => ?_) fun e2 => ?_
          · have hi' : i < Ks.length := by have := of_decide_eq_true e2; omega
            refine do_set (ed_cmp (ed_ixT (i := 0) (ed_ixT (ed_var rfl) (ed_var rfl) (kn_at hi')) ed_int rfl) (ed_ixT (i := 0) (ed_ixT (ed_var rfl) (ed_var rfl) (kn_at hj')) ed_int rfl) (L.k i hi').1 (M.k j hj').1) ⟨cmp (kn Ks i).1 (kn Qs j).1, rfl, ?_⟩
            rw [am_drop hi', am_drop hj', mrg] at heq
            unfold cmp
            by_cases h1 : (kn Ks i).1 < (kn Qs j).1
            · rw [if_pos h1] at heq
              rw [if_pos h1]
              refine .inl ⟨by omega, hi', ?_, fun z => by omega⟩
              rw [if_neg (by omega), am_drop hj', ← heq]; simp
            · rw [if_neg h1] at heq
              rw [if_neg h1]
              by_cases h2 : (kn Qs j).1 < (kn Ks i).1
              · rw [if_pos h2] at heq
                rw [if_pos h2]
                refine .inr ⟨by omega, hj', ?_⟩
                rw [am_drop hi', ← heq]; simp
              · rw [if_neg h2] at heq
                rw [if_neg h2]
                refine .inl ⟨by omega, hi', ?_, fun _ => hj'⟩
                rw [if_pos (by omega), ← heq]; simp
          · have hi' : Ks.length ≤ i := by have := of_decide_eq_false e2; omega
            refine do_next ⟨1, rfl, .inr ⟨by omega, hj', ?_⟩⟩
            rw [am_end hi', mrg_nil_l, ← heq, am_end hi', mrg_nil_l, am_drop hj']; simp
      · rintro _ ⟨o, rfl, hcase⟩
        rcases hcase with ⟨ho, hi', hm, hj'⟩ | ⟨ho, hj', hm⟩
        · refine do_seq (· = [.da (kT Ks), .da (kT Qs), .ow p ((acc ++ [(kn Ks i).1]).map Dt.rat), .da (.int ((i + 1 : Nat) : Int)), .da (.int (j : Int)), .da (.int o)]) (do_if (b := decide (o ≤ 0)) (et_test (ed_op (ed_var rfl) ed_int rd_B0)) (fun _ => ?_) fun z => absurd ho (of_decide_eq_false z)) ?_
          · refine do_seq (· = [.da (kT Ks), .da (kT Qs), .ow p ((acc ++ [(kn Ks i).1]).map Dt.rat), .da (.int (i : Int)), .da (.int (j : Int)), .da (.int o)]) (do_append (i := 2) rfl (ed_ixT (i := 0) (ed_ixT (ed_var rfl) (ed_var rfl) (kn_at hi')) ed_int rfl) (by rw [List.length_map]; omega) (by rw [List.map_append]; rfl)) ?_
            rintro _ rfl
            refine do_aug (i := 3) rfl ed_int ?_
            have : ((i + 1 : Nat) : Int) = (i : Int) + 1 := by omega
            rw [this]; rfl
          · rintro _ rfl
            refine do_if (b := decide (0 ≤ o)) (et_test (ed_op (ed_var rfl) ed_int rd_B0)) (fun z => ?_) fun z => ?_
            · have hz := of_decide_eq_true z
              have hjl := hj' hz
              rw [if_pos hz] at hm
              refine do_aug (i := 4) rfl ed_int ⟨(Ks.length - (i + 1)) + (Qs.length - (j + 1)), by omega, i + 1, j + 1, acc ++ [(kn Ks i).1], .da (.int o), ?_, by omega, by omega, rfl, by rw [List.length_append]; simp; omega, hm⟩
              have : ((j + 1 : Nat) : Int) = (j : Int) + 1 := by omega
              rw [this]; rfl
            · have hz := of_decide_eq_false z
              rw [if_neg hz] at hm
              exact do_next ⟨(Ks.length - (i + 1)) + (Qs.length - j), by omega, i + 1, j, acc ++ [(kn Ks i).1], _, rfl, by omega, by omega, rfl, by rw [List.length_append]; simp; omega, hm⟩
        · refine do_seq (· = [.da (kT Ks), .da (kT Qs), .ow p ((acc ++ [(kn Qs j).1]).map Dt.rat), .da (.int (i : Int)), .da (.int (j : Int)), .da (.int o)]) (do_if (b := decide (o ≤ 0)) (et_test (ed_op (ed_var rfl) ed_int rd_B0)) (fun z => absurd (of_decide_eq_true z) (by omega)) fun _ => ?_) ?_
          · exact do_append (i := 2) rfl (ed_ixT (i := 0) (ed_ixT (ed_var rfl) (ed_var rfl) (kn_at hj')) ed_int rfl) (by rw [List.length_map]; omega) (by rw [List.map_append]; rfl)
          · rintro _ rfl
            refine do_if (b := decide (0 ≤ o)) (et_test (ed_op (ed_var rfl) ed_int rd_B0)) (fun z => ?_) fun z => absurd (show 0 ≤ o by omega) (of_decide_eq_false z)
            refine do_aug (i := 4) rfl ed_int ⟨(Ks.length - i) + (Qs.length - (j + 1)), by omega, i, j + 1, acc ++ [(kn Qs j).1], .da (.int o), ?_, by omega, by omega, rfl, by rw [List.length_append]; simp; omega, hm⟩
            have : ((j + 1 : Nat) : Int) = (j : Int) + 1 := by omega
            rw [this]; rfl
    · obtain ⟨z1, z2⟩ := Bool.or_eq_false_iff.mp e
      have h1 : Ks.length ≤ i := by have := of_decide_eq_false z1; omega
      have h2 : Qs.length ≤ j := by have := of_decide_eq_false z2; omega
      rw [am_end h1, am_end h2, mrg_nil_r, List.append_nil] at heq
      rw [heq]
      exact ⟨_, _, _, rfl⟩
  · rintro _ ⟨x3, x4, x5, rfl⟩
    exact do_retO (i := 2) rfl rfl
/-! ### the product -/
def sl2 (Ks Qs : List Knot) (a : Rat) : Rat := slopeAt Ks a * slopeAt Qs a
/-- the last m knots -/
def pkTo (s : Rat → Rat) (A : List Rat) (m : Nat) : List Knot := pks s (A.drop (A.length - m))
structure ProdL (Ks Qs : List Knot) : Prop where
  p : KnL Ks
  q : KnL Qs
  p0 : 0 < Ks.length
  q0 : 0 < Qs.length
  a : ∀ i, i < (mrg (am Ks) (am Qs)).length → Lim (gt (mrg (am Ks) (am Qs)) i) ∧ Lim (slopeAt Ks (gt (mrg (am Ks) (am Qs)) i)) ∧ Lim (slopeAt Qs (gt (mrg (am Ks) (am Qs)) i)) ∧ Lim (sl2 Ks Qs (gt (mrg (am Ks) (am Qs)) i))
  g : ∀ i, i + 1 < (mrg (am Ks) (am Qs)).length → Lim (gt (mrg (am Ks) (am Qs)) (i + 1) - gt (mrg (am Ks) (am Qs)) i) ∧ Lim (sl2 Ks Qs (gt (mrg (am Ks) (am Qs)) i) * (gt (mrg (am Ks) (am Qs)) (i + 1) - gt (mrg (am Ks) (am Qs)) i))
  v : KnL (pks (sl2 Ks Qs) (mrg (am Ks) (am Qs)))
def R_product (ds : List Dt) (d : Dt) : Prop := ∃ (Ks Qs : List Knot), ds = [kT Ks, kT Qs] ∧ ProdL Ks Qs ∧ d = kT (prodKnots Ks Qs)
theorem pks_len (s : Rat → Rat) : ∀ A : List Rat, (pks s A).length = A.length
  | [] => rfl
  | [a] => rfl
  | a :: a' :: r => by
    simp only [pks, List.length_cons]
    have := pks_len s (a' :: r)
    rw [List.length_cons] at this
    omega
theorem pks_fst (s : Rat → Rat) : ∀ (A : List Rat) (i : Nat), i < A.length → (kn (pks s A) i).1 = gt A i
  | [a], 0, _ => rfl
  | [a], i + 1, h => by simp at h
  | a :: a' :: r, 0, _ => rfl
  | a :: a' :: r, i + 1, h => pks_fst s (a' :: r) i (by simpa using h)
theorem pks_drop (s : Rat → Rat) : ∀ (A : List Rat) (j i : Nat), j < A.length → kn (pks s (A.drop j)) i = kn (pks s A) (j + i)
  | A, 0, i, _ => by rw [List.drop_zero, Nat.zero_add]
  | [a], j + 1, i, h => by simp at h
  | a :: a' :: r, j + 1, i, h => by
    have := pks_drop s (a' :: r) j i (by simpa using h)
    rw [List.drop_succ_cons, this]
    show kn (pks s (a' :: r)) (j + i) = (pks s (a :: a' :: r)).getD (j + 1 + i) (0, 0)
    rw [show j + 1 + i = (j + i) + 1 by omega]; rfl
theorem pks_step (s : Rat → Rat) {A : List Rat} {m : Nat} (h : m + 1 < A.length) : pks s (A.drop m) = (gt A m, (kn (pks s (A.drop (m + 1))) 0).2 - s (gt A m) * (gt A (m + 1) - gt A m)) :: pks s (A.drop (m + 1)) := by
  have e1 : A.drop m = gt A m :: A.drop (m + 1) := by
    rw [List.drop_eq_getElem_cons (by omega)]
    congr 1
    unfold ME.gt
    rw [List.getD_eq_getElem?_getD, List.getElem?_eq_getElem (by omega)]; rfl
  have e2 : A.drop (m + 1) = gt A (m + 1) :: A.drop (m + 2) := by
    rw [List.drop_eq_getElem_cons h]
    congr 1
    unfold ME.gt
    rw [List.getD_eq_getElem?_getD, List.getElem?_eq_getElem h]; rfl
  rw [e1, e2]
  simp only [pks]
theorem ok_product (F : Fun K "product_knots" "product_knots" s_product_knots f fd) (A : Ops P w K mg base C k) (A_merged_amounts : Fd P w K mg base C "merged_amounts" ["first", "second"] k R_merged) (A_slope_at : Fd P w K mg base C "slope_at" ["knots", "amount"] k R_slopeAt)
    (A_straightened : Fd P w K mg base C "straightened" ["points"] k R_straight) (m_len : mg "len" = none) (m_range : mg "range" = none) : FnOk P w K mg base CX0 (k + 1) f fd ["first", "second"] (SpD K C R_product) := by
  have A_multiply := A.mul
  have A_subtract := A.sub
  refine ok_do F sc_product_knots (fun ds d ⟨a, b, h, _⟩ => by rw [h]; rfl) fun cdv A outer s H E hr => ⟨_,
      (pss_cons (ps_set (i := 2) sc_product_knots.nd rfl (.inl rfl) (pe_call A_merged_amounts.ok hr (by rfl) A_merged_amounts.g A_merged_amounts.kp A_merged_amounts.b .nil pass0 (pa_cons (pv 0) (pa_cons (pv 1) pa_nil))))
      (pss_cons (ps_set (i := 3) sc_product_knots.nd rfl (.inl rfl) (pe_ix ix_list (pv 2) (pe_un un_neg pe_int) (fun _ _ => rfl)))
      (pss_cons (ps_set (i := 4) sc_product_knots.nd rfl (.inl rfl) (pe_lst (pa_cons (pe_tup (pa_cons (pe_ix ix_list (pv 2) (pe_un un_neg pe_int) (fun _ _ => rfl)) (pa_cons (pv 3) pa_nil))) pa_nil)))
      (pss_cons (ps_for PassesOwn.never rfl (pi_range3 (by rfl) m_range (pa_cons (pe_op op_sub (pe_callB call_len_seq (by rfl) m_len PySem.boot_len (pa_cons (pv 2) pa_nil)) pe_int) (pa_cons (pe_un un_neg pe_int) (pa_cons (pe_un un_neg pe_int) pa_nil)))) (pg_name (i := 5) sc_product_knots.nd rfl (.inl rfl))
      (pss_cons (ps_set (i := 6) sc_product_knots.nd rfl (.inl rfl) (pe_call A_multiply.ok hr (by rfl) A_multiply.g A_multiply.kp A_multiply.b .nil pass0 (pa_cons (pe_call A_slope_at.ok hr (by rfl) A_slope_at.g A_slope_at.kp A_slope_at.b .nil pass0 (pa_cons (pv 0) (pa_cons (pe_ix ix_list (pv 2) (pv 5) (fun _ _ => rfl)) pa_nil))) (pa_cons (pe_call A_slope_at.ok hr (by rfl) A_slope_at.g A_slope_at.kp A_slope_at.b .nil pass0 (pa_cons (pv 1) (pa_cons (pe_ix ix_list (pv 2) (pv 5) (fun _ _ => rfl)) pa_nil))) pa_nil))))
        (pss_cons (ps_set (i := 3) sc_product_knots.nd rfl (.inl rfl) (pe_call A_subtract.ok hr (by rfl) A_subtract.g A_subtract.kp A_subtract.b .nil pass0 (pa_cons (pv 3) (pa_cons (pe_call A_multiply.ok hr (by rfl) A_multiply.g A_multiply.kp A_multiply.b .nil pass0 (pa_cons (pv 6) (pa_cons (pe_call A_subtract.ok hr (by rfl) A_subtract.g A_subtract.kp A_subtract.b .nil pass0 (pa_cons (pe_ix ix_list (pv 2) (pe_op op_add (pv 5) pe_int) (fun _ _ => rfl)) (pa_cons (pe_ix ix_list (pv 2) (pv 5) (fun _ _ => rfl)) pa_nil))) pa_nil))) pa_nil))))
        (pss_one (ps_expr (pe_bm PySem.F.plainAttrs_list PySem.F.slot_list_append PySem.F.type_list_append mt_append (pv 4) (pa_cons (pe_tup (pa_cons (pe_ix ix_list (pv 2) (pv 5) (fun _ _ => rfl)) (pa_cons (pv 3) pa_nil))) pa_nil)))))))
      (pss_cons (ps_expr (pe_bm0 PySem.F.plainAttrs_list PySem.F.slot_list_reverse PySem.F.type_list_reverse mt_reverse (pv 4)))
      (pss_one (ps_ret (pe_call A_straightened.ok hr (by rfl) A_straightened.g A_straightened.kp A_straightened.b .nil pass0 (pa_cons (pv 4) pa_nil))))))))), ?_⟩
  rintro _ _ ⟨Ks, Qs, rfl, L, rfl⟩
  have l1 := L.p.l
  have l2 := L.q.l
  have La := L.a
  have Lg := L.g
  have Lv := L.v
  have hml : (mrg (am Ks) (am Qs)).length ≤ 2000 := Nat.le_trans MF.mrg_len (by unfold am; rw [List.length_map, List.length_map]; omega)
  have hm0 : 0 < (mrg (am Ks) (am Qs)).length := by
    have : (kn Ks 0).1 ∈ mrg (am Ks) (am Qs) := MF.mem_mrg.mpr (.inl (by
      unfold am MF.kn
      rw [List.getD_eq_getElem?_getD, List.getElem?_eq_getElem L.p0]
      exact List.mem_map_of_mem (List.getElem_mem _)))
    exact List.length_pos_of_mem this
  have ep : prodKnots Ks Qs = straight (pks (sl2 Ks Qs) (mrg (am Ks) (am Qs))) := rfl
  refine do_setc (ed_call (ea_2 (ed_var rfl) (ed_var rfl)) ⟨Ks, Qs, rfl, L.p, L.q, rfl⟩) ?_
  rw [ep]
  generalize hA : mrg (am Ks) (am Qs) = Am at *
  obtain ⟨n, hn⟩ : ∃ n, Am.length = n + 1 := ⟨Am.length - 1, by omega⟩
  have lst : (Am.map Dt.rat)[(Am.map Dt.rat).length - 1]? = some (.rat (gt Am n)) := by
    rw [List.length_map, hn, Nat.add_sub_cancel]; exact rat_at (by omega)
  have lenA : ((Am.map Dt.rat).length : Int) = (n : Int) + 1 := by rw [List.length_map, hn]; omega
  refine do_setc (ed_opL (ed_var rfl).l (ed_un ed_int ru_neg) (rl_last lst)) ?_
  refine do_setNc (ds := [kD (gt Am n, gt Am n)]) (en_lst (ea_1 (ed_tup (ea_2 (ed_opL (ed_var rfl).l (ed_un ed_int ru_neg) (rl_last lst)) (ed_var rfl)) (by show 2 ≤ sizeLine; decide))) (by show 1 ≤ sizeLine; decide)) fun p => ?_
  have e0 : pks (sl2 Ks Qs) (Am.drop n) = [(gt Am n, gt Am n)] := by
    have : Am.drop n = [gt Am n] := by
      rw [List.drop_eq_getElem_cons (by omega), List.drop_of_length_le (by omega)]
      congr 1
      unfold ME.gt
      rw [List.getD_eq_getElem?_getD, List.getElem?_eq_getElem (by omega)]; rfl
    rw [this]; rfl
  have hval : ∀ m, m < Am.length → (kn (pks (sl2 Ks Qs) (Am.drop m)) 0).2 = (kn (pks (sl2 Ks Qs) Am) m).2 := fun m hm => by rw [pks_drop _ _ _ _ hm, Nat.add_zero]
  refine do_seq (fun Γ => ∃ x3 x5 x6, Γ = [.da (kT Ks), .da (kT Qs), .da (rl Am), x3, .ow p (((pks (sl2 Ks Qs) Am).reverse).map kD), x5, x6]) ?_ ?_
  · refine do_forR (fun i Γ => ∃ x5 x6, Γ = [.da (kT Ks), .da (kT Qs), .da (rl Am), .da (.rat (kn (pks (sl2 Ks Qs) (Am.drop (n - i))) 0).2), .ow p (((pks (sl2 Ks Qs) (Am.drop (n - i))).reverse).map kD), x5, x6]) (ei_rng3 (n := n) (ea_3 ?_ (ed_un ed_int ru_neg) (ed_un ed_int ru_neg)) (by omega)) ⟨.un, .un, ?_⟩ (fun i Γ' hi hv => ?_) fun Γ' hv => ?_
    · have : (n : Int) - 1 = ((n : Int) + 1) - 2 := by omega
      rw [this]
      exact ed_op (by rw [← lenA]; exact ed_lenL (ed_var rfl).l) ed_int rd_I0
    · rw [Nat.sub_zero, e0]; rfl
    · obtain ⟨x5, x6, rfl⟩ := hv
      obtain ⟨m, hm⟩ : ∃ m, n - i = m + 1 := ⟨n - i - 1, by omega⟩
      have hm1 : n - (i + 1) = m := by omega
      have hmn : m + 1 < Am.length := by omega
      have ei : (n : Int) - 1 - (i : Int) = (m : Int) := by omega
      rw [hm1, hm, ei]
      obtain ⟨a1, a2, a3, a4⟩ := La m (by omega)
      obtain ⟨a5, _⟩ := La (m + 1) hmn
      obtain ⟨g1, g2⟩ := Lg m hmn
      have est := pks_step (sl2 Ks Qs) hmn
      have v1 := (Lv.k (m + 1) (by rw [pks_len]; exact hmn)).2
      have v0 := (Lv.k m (by rw [pks_len]; omega)).2
      rw [← hval (m + 1) hmn] at v1
      rw [← hval m (by omega), est] at v0
      refine do_setc (ed_mul (ed_call (ea_2 (ed_var rfl) (ed_ixL (ed_var rfl).l (ed_var rfl) (rat_at (by omega)))) ⟨Ks, gt Am m, rfl, L.p0, L.p, a1, rfl⟩) (ed_call (ea_2 (ed_var rfl) (ed_ixL (ed_var rfl).l (ed_var rfl) (rat_at (by omega)))) ⟨Qs, gt Am m, rfl, L.q0, L.q, a1, rfl⟩) a2 a3 a4) ?_
      refine do_setc (ed_sub (ed_var rfl) (ed_mul (ed_var rfl) (ed_sub (ed_ixL (i := m + 1) (ed_var rfl).l ?_ (rat_at hmn)) (ed_ixL (ed_var rfl).l (ed_var rfl) (rat_at (by omega))) a5 a1 g1) a4 g1 g2) v1 g2 v0) ?_
      · have : ((m + 1 : Nat) : Int) = (m : Int) + 1 := by omega
        rw [this]
        exact ed_op (ed_var rfl) ed_int rd_I0
      · refine do_append (i := 4) rfl (d := kD (gt Am m, (kn (pks (sl2 Ks Qs) (Am.drop (m + 1))) 0).2 - sl2 Ks Qs (gt Am m) * (gt Am (m + 1) - gt Am m))) (ed_tup (ea_2 (ed_ixL (ed_var rfl).l (ed_var rfl) (rat_at (by omega))) (ed_var rfl)) (by show 2 ≤ sizeLine; decide)) (by rw [List.length_map, List.length_reverse, pks_len, List.length_drop]; omega) ?_
        rw [est, List.reverse_cons, List.map_append]
        exact ⟨_, _, rfl⟩
    · obtain ⟨x5, x6, rfl⟩ := hv
      rw [Nat.sub_self, List.drop_zero]
      exact ⟨_, x5, x6, rfl⟩
  · rintro _ ⟨x3, x5, x6, rfl⟩
    refine do_seq (· = [.da (kT Ks), .da (kT Qs), .da (rl Am), x3, .ow p ((pks (sl2 Ks Qs) Am).map kD), x5, x6]) (do_rev (i := 4) rfl ?_) ?_
    · rw [List.map_reverse, List.reverse_reverse]; rfl
    · rintro _ rfl
      exact do_freeze (i := 4) rfl (do_ret (ed_call (ea_1 (ed_var rfl)) ⟨_, rfl, Lv, rfl⟩) rfl)
/-! ### the class -/
abbrev s_init : Stmt := inClass (topS 42) 0
abbrev N_init : List Str := ["self", "knots", "kept", "wrong"]
theorem sc_init : FnScope N_init ["self", "knots"] (defScope s_init) := ⟨rfl, rfl, rfl, by decide +kernel, rfl, by decide +kernel, by decide +kernel⟩
abbrev s_floor : Stmt := inClass (topS 42) 1
abbrev N_floor : List Str := ["self"]
theorem sc_floor : FnScope N_floor ["self"] (defScope s_floor) := ⟨rfl, rfl, rfl, by decide +kernel, rfl, by decide +kernel, by decide +kernel⟩
abbrev s_mul : Stmt := inClass (topS 42) 7
abbrev N_mul : List Str := ["self", "other"]
theorem sc_mul : FnScope N_mul ["self", "other"] (defScope s_mul) := ⟨rfl, rfl, rfl, by decide +kernel, rfl, by decide +kernel, by decide +kernel⟩
def GoodK (ks : List Dt) : Prop := ∃ Ks : List Knot, ks = Ks.map kD ∧ 0 < Ks.length ∧ KnL Ks ∧ ∀ i, i < Ks.length → ¬ wrong Ks i
def cD' (Ks : List Knot) : Dt := .cur (kT Ks)
theorem et_tru {te : TE} {ds : List Dt} {Γ : List Sl} (h : EvD K C te Γ (.tup ds)) : EvT K C (fun σ H Q => te σ H fun x H' => ∃ k, TruV K x H' k ∧ Q k H') Γ (!ds.isEmpty) := fun H0 B H σ E Q q => h H0 B H σ E _ fun v B1 H1 P1 k1 => by
  obtain ⟨a, vs, rfl, e, k⟩ := is_tup k1
  refine ⟨_, .inr (.inl ⟨vs, rd_tup (P1.sub _ _ e), rfl⟩), ?_⟩
  have : vs.isEmpty = ds.isEmpty := by
    have := k.len
    cases vs <;> cases ds <;> first | rfl | (simp at this)
  rw [this]; exact q B1 H1 P1
theorem ok_init (F : Fun K "__init__" "Curve.__init__" s_init f fd) (A_first_wrong : Fd P w K mg base C "first_wrong" ["knots"] k R_wrong) (hC : Cls K C) (hn : NoAttr K C "knots") (m_tuple : mg "tuple" = none) : FnOk P w K mg base CX0 (k + 1) f fd ["self", "knots"] (SpI K C GoodK) := by
  refine ok_doI F sc_init rfl fun cdv A outer s H E hr => ⟨_,
      (pss_cons (ps_set (i := 2) sc_init.nd rfl (.inl rfl) (pe_callTy call_tuple_of (by rfl) m_tuple boot_tuple (pa_cons (pv 1) pa_nil)))
      (pss_cons (ps_if (pt_not (pt_truth (pv 2) (fun _ => rfl)))
      pss_never
      pss_nil)
      (pss_cons (ps_set (i := 3) sc_init.nd rfl (.inl rfl) (pe_call A_first_wrong.ok hr (by rfl) A_first_wrong.g A_first_wrong.kp A_first_wrong.b .nil pass0 (pa_cons (pv 2) pa_nil)))
      (pss_cons (ps_if (pt_cmpR op_notN (pv 3) pe_non (nomark _))
      pss_never
      pss_nil)
      (pss_one (ps_fld (pv 0) (pv 2) rfl)))))), ?_⟩
  rintro x dx _ ⟨Ks, rfl, h0, L, hw⟩
  refine do_setc (ed_tupT (ed_var rfl)) ?_
  refine do_seq (· = [.me x dx [], .da (kT Ks), .da (kT Ks), .un]) (do_if (b := !(!(Ks.map kD).isEmpty)) (et_not (et_tru (ed_var rfl))) (fun e => ?_) fun _ => do_next rfl) ?_
  · have : (Ks.map kD).isEmpty = false := by
      cases Ks with
      | nil => exact absurd h0 (by simp)
      | cons a r => rfl
    rw [this] at e; cases e
  rintro _ rfl
  refine do_setc (ed_call (ea_1 (ed_var rfl)) ⟨Ks, rfl, L, hw, rfl⟩) ?_
  refine do_seq (· = [.me x dx [], .da (kT Ks), .da (kT Ks), .da .non]) (do_if (et_test (ed_op (ed_var rfl) ed_non rd_notN)) (fun e => nomatch e) fun _ => do_next rfl) ?_
  rintro _ rfl
  exact do_fld (i := 0) rfl (ed_var rfl) hC hn rfl
def R_floor (ds : List Dt) (d : Dt) : Prop := ∃ Ks : List Knot, ds = [cD' Ks] ∧ 0 < Ks.length ∧ d = .rat (kn Ks 0).2
theorem ok_floor (F : Fun K "floor" "Curve.floor" s_floor f fd) (hC : Cls K C) (hn : NoAttr K C "knots") : FnOk P w K mg base CX0 (k + 1) f fd ["self"] (SpD K C R_floor) := by
  refine ok_do F sc_floor (fun ds d ⟨a, h, _⟩ => by rw [h]; rfl) fun cdv A outer s H E hr => ⟨_,
      (pss_one (ps_ret (pe_ix ix_tup (pe_ix ix_tup (pe_fld (pv 0) rfl) pe_int (fun _ _ => rfl)) pe_int (fun _ _ => rfl)))), ?_⟩
  rintro _ _ ⟨Ks, rfl, h0, rfl⟩
  exact do_ret (ed_ixT (i := 1) (ed_ixT (i := 0) (ed_fld (ed_var rfl) hC hn) ed_int (kn_at h0)) ed_int rfl) rfl
structure MulL (Ks Qs : List Knot) : Prop where
  l : ProdL Ks Qs
  k : KnL (prodKnots Ks Qs)
  n : 0 < (prodKnots Ks Qs).length
  w : ∀ i, i < (prodKnots Ks Qs).length → ¬ wrong (prodKnots Ks Qs) i
def R_mul (ds : List Dt) (d : Dt) : Prop := ∃ Ks Qs : List Knot, ds = [cD' Ks, cD' Qs] ∧ MulL Ks Qs ∧ d = cD' (prodKnots Ks Qs)
theorem ok_mulC {fI : Addr} {fdI : FuncData} (F : Fun K "__mul__" "Curve.__mul__" s_mul f fd) (hC : Cls K C) (hn : NoAttr K C "knots") (A_product_knots : Fd P w K mg base C "product_knots" ["first", "second"] (k + 1) R_product)
    (hMk : Mk K C fI) (G_init : FnOk P w K mg base CX0 k fI fdI ["self", "knots"] (SpI K C GoodK)) (b_init : Binds K fdI ["self", "knots"] []) (g_Curve : mg "Curve" = some (.ref C)) : FnOk P w K mg base CX0 (k + 1 + 1) f fd ["self", "other"] (SpD K C R_mul) := by
  refine ok_do F sc_mul (fun ds d ⟨a, b, h, _⟩ => by rw [h]; rfl) fun cdv A outer s H E hr => ⟨_,
      (pss_one (ps_ret (pe_make hMk G_init hr (by rfl) g_Curve b_init .nil pass0 (pa_cons (pe_call A_product_knots.ok hr (by rfl) A_product_knots.g A_product_knots.kp A_product_knots.b .nil pass0 (pa_cons (pe_fld (pv 0) rfl) (pa_cons (pe_fld (pv 1) rfl) pa_nil))) pa_nil)))), ?_⟩
  rintro _ _ ⟨Ks, Qs, rfl, L, rfl⟩
  exact do_ret (ed_make (ea_1 (ed_call (ea_2 (ed_fld (ed_var rfl) hC hn) (ed_fld (ed_var rfl) hC hn)) ⟨Ks, Qs, rfl, L.l, rfl⟩)) ⟨_, rfl, L.n, L.k, L.w⟩) rfl
def R_gain (ds : List Dt) (d : Dt) : Prop := ∃ Ks : List Knot, ds = [cD' Ks, .non] ∧ 0 < Ks.length ∧ d = .rat (kn Ks 0).2
theorem ok_gain {g gp : Addr} {gd : FuncData} (F : Fun K "gain_of" "gain_of" s_gain_of f fd) (hC : Cls K C) (hP : PropOf K C "floor" gp g) (G_floor : FnOk P w K mg base CX0 k g gd ["self"] (SpD K C R_floor)) (b_floor : Binds K gd ["self"] []) : FnOk P w K mg base CX0 (k + 1 + 1) f fd ["curve", "stop"] (SpD K C R_gain) := by
  refine ok_do F sc_gain_of (fun ds d ⟨a, h, _⟩ => by rw [h]; rfl) fun cdv A outer s H E hr => ⟨_,
      (pss_cons (ps_if (pt_cmpR op_isN (pv 1) pe_non (nomark _))
      (pss_one (ps_ret (pe_prop (pv 0) hC hP G_floor hr b_floor .nil pass0 rfl)))
      pss_nil)
      pss_never), ?_⟩
  rintro _ _ ⟨Ks, rfl, h0, rfl⟩
  refine do_seq (fun _ => False) (do_if (et_test (ed_op (ed_var rfl) ed_non rd_isN)) (fun _ => ?_) fun e => nomatch e) fun _ z => z.elim
  exact do_ret (ed_prop (ed_var rfl) ⟨Ks, rfl, h0, rfl⟩) rfl
end W8
set_option Elab.async false
set_option linter.all false
set_option maxRecDepth 100000
set_option maxHeartbeats 8000000
/-! W9: the curves of a game, the value table -/
namespace W9
open PySem PySem.Spec PyProof.Rows L2 WA WB WT WC ML W1 W2 WD WE WF WG WH WK W3 W4 W5 W6 W7 W8
variable {P : Program} {w : World} {K : PySem.W.Frag} {mg : Str → Option Value} {base : Heap} {C : Addr} {k : Nat} {f : Addr} {fd : FuncData}
open ME (gt)
open MG (Gm Rw ixOf leaveM lvE lvG ordTo ordM srt sq nu front le lg)
open MF (Knot kn straight prodKnots)
open MH (grpEnd item ptsD crv crvs cstep tabCurves tabM)
structure CvL (G : Gm) (b : Rat) : Prop where
  o : OrL G b
  lv : ∀ k, k < G.n → grpEnd G b k = true → LvL G b (front G b (k + 1))
  nu : ∀ k, k < G.n → Lim (nu G b k)
  it : ∀ k s, k < G.n → grpEnd G b k = true → s ∈ front G b (k + 1) → Lim (le G b (k + 1) s) ∧ Lim (lg G b (k + 1) s) ∧ Lim (lg G b (k + 1) s * MG.nu G b k) ∧ Lim (le G b (k + 1) s + lg G b (k + 1) s * MG.nu G b k)
  pt : ∀ s, s < G.n → KnL (ptsD G b s G.n)
  cr : ∀ s, s < G.n → KnL (crv G b s)
def R_curves (ds : List Dt) (d : Dt) : Prop := ∃ (G : Gm) (b : Rat), ds = [gD G, .rat b] ∧ G.Ok ∧ MG.Disc b ∧ CvL G b ∧ d = .tup ((crvs b G).map cD')
theorem crv_good {G : Gm} {b : Rat} (O : G.Ok) (B : MG.Disc b) {s : Nat} (hs : s < G.n) : 0 < (crv G b s).length ∧ ∀ i, i < (crv G b s).length → ¬ MF.wrong (crv G b s) i := by
  have h := MH.crv_kns O B hs
  exact ⟨by rw [h.toPts.len]; exact h.toPts.ne, h.right⟩
theorem set_range {α : Type} {n j : Nat} {f g : Nat → α} (h : ∀ s, s < n → s ≠ j → g s = f s) : ((List.range n).map f).set j (g j) = (List.range n).map g := by
  refine List.ext_getElem? fun i => ?_
  by_cases hi : i < n
  · rw [List.getElem?_map, List.getElem?_range hi]
    by_cases hj : j = i
    · subst hj
      rw [List.getElem?_set_self (by rw [List.length_map, List.length_range]; exact hi)]; rfl
    · rw [List.getElem?_set_ne hj, List.getElem?_map, List.getElem?_range hi]
      show some (f i) = some (g i)
      rw [h i hi (Ne.symm hj)]
  · rw [List.getElem?_eq_none (by rw [List.length_set, List.length_map, List.length_range]; omega), List.getElem?_eq_none (by rw [List.length_map, List.length_range]; omega)]
def ptK (G : Gm) (b : Rat) (k s : Nat) : Knot := (nu G b k, le G b (k + 1) s + lg G b (k + 1) s * nu G b k)
/-- the points behind i turns and some states of the next one -/
def mid (G : Gm) (b : Rat) (i : Nat) (J : List Nat) (s : Nat) : List Knot := ptsD G b s i ++ (if s ∈ J then [ptK G b (G.n - 1 - i) s] else [])
theorem ptsD_len (G : Gm) (b : Rat) (s : Nat) : ∀ d, (ptsD G b s d).length ≤ d
  | 0 => Nat.le_refl _
  | d + 1 => by
    show (ptsD G b s d ++ item G b s (G.n - 1 - d)).length ≤ d + 1
    have := ptsD_len G b s d
    rw [List.length_append]
    unfold MH.item
    split
    · simp; omega
    · simp; omega
def dss (n : Nat) (f : Nat → List Knot) : List (List Dt) := (List.range n).map fun s => (f s).map kD
theorem front_eq (G : Gm) (b : Rat) (k : Nat) : front G b k = srt (((ordM G b).take k).map (·.1)) := rfl
abbrev Gc (G : Gm) (b : Rat) (a : Addr) (bs : List Addr) (ps : Nat → List Knot) (x4 x5 x6 x7 x8 x9 x10 x11 x12 x13 : Sl) : List Sl := [.da (gD G), .da (.rat b), .da (.tup ((ordM G b).map qD)), .oo a bs (dss G.n ps), x4, x5, x6, x7, x8, x9, x10, x11, x12, x13]
theorem ok_curves {fI : Addr} {fdI : FuncData} (F : Fun K "all_curves" "all_curves" s_all_curves f fd) (A : Ops P w K mg base C (k + 1)) (A_index_order : Fd P w K mg base C "index_order" ["game", "discount"] (k + 1) R_order) (A_leave_values : Fd P w K mg base C "leave_values" ["game", "inside", "discount"] (k + 1) R_leave)
    (A_straightened : Fd P w K mg base C "straightened" ["points"] (k + 1) R_straight) (hMk : Mk K C fI) (G_init : FnOk P w K mg base CX0 k fI fdI ["self", "knots"] (SpI K C GoodK)) (b_init : Binds K fdI ["self", "knots"] []) (g_Curve : mg "Curve" = some (.ref C))
    (m_len : mg "len" = none) (m_range : mg "range" = none) (m_tuple : mg "tuple" = none) (m_sorted : mg "sorted" = none) : FnOk P w K mg base CX0 (k + 1 + 1) f fd ["game", "discount"] (SpD K C R_curves) := by
  have A_multiply := A.mul
  have A_add := A.add
  have A_compare := A.cmp
  refine ok_do F sc_all_curves (fun ds d ⟨a, b, h, _⟩ => by rw [h]; rfl) fun cdv A outer s H E hr => ⟨_,
      (pss_cons (ps_set (i := 2) sc_all_curves.nd rfl (.inl rfl) (pe_call A_index_order.ok hr (by rfl) A_index_order.g A_index_order.kp A_index_order.b .nil pass0 (pa_cons (pv 0) (pa_cons (pv 1) pa_nil))))
      (pss_cons (ps_setLc (i := 3) (own := [("state", 4)]) rfl sc_all_curves.nd rfl rfl (sw_true rfl rfl rfl (by decide +kernel)) (pi_range1 (by rfl) m_range (pa_cons (pe_callB call_len_seq (by rfl) m_len PySem.boot_len (pa_cons (pv 2) pa_nil)) pa_nil)) (blkOk_by (N := N_all_curves) (sc := defScope s_all_curves) (by decide +kernel)) (fun _ _ _ _ _ => (pg_name (i := 4) sc_all_curves.nd rfl (.inl rfl))) (fun _ _ _ _ _ => pts_nil) (fun _ _ _ _ _ => (pe_lst pa_nil)))
      (pss_cons (ps_for PassesOwn.never rfl (pi_range3 (by rfl) m_range (pa_cons (pe_op op_sub (pe_callB call_len_seq (by rfl) m_len PySem.boot_len (pa_cons (pv 2) pa_nil)) pe_int) (pa_cons (pe_un un_neg pe_int) (pa_cons (pe_un un_neg pe_int) pa_nil)))) (pg_name (i := 5) sc_all_curves.nd rfl (.inl rfl))
      (pss_cons (ps_set (i := 6) sc_all_curves.nd rfl (.inl rfl) (pe_ix ix_tup (pe_ix ix_tup (pv 2) (pv 5) (fun _ _ => rfl)) pe_int (fun _ _ => rfl)))
        (pss_cons (ps_if (PW.pt (pw_and (pt_cmpR op_lt (pe_op op_add (pv 5) pe_int) (pe_callB call_len_seq (by rfl) m_len PySem.boot_len (pa_cons (pv 2) pa_nil)) (nomark _)) (pw_and1 (pt_cmpR op_eq (pe_call A_compare.ok hr (by rfl) A_compare.g A_compare.kp A_compare.b .nil pass0 (pa_cons (pe_ix ix_tup (pe_ix ix_tup (pv 2) (pe_op op_add (pv 5) pe_int) (fun _ _ => rfl)) pe_int (fun _ _ => rfl)) (pa_cons (pv 6) pa_nil))) pe_int (nomark _)))))
        (pss_one ps_continue)
        pss_nil)
        (pss_cons (ps_set (i := 7) sc_all_curves.nd rfl (.inl rfl) (pe_callTy call_tuple_of (by rfl) m_tuple boot_tuple (pa_cons (pe_callB cr_sortedI (by rfl) m_sorted boot_sorted (pa_cons (pe_lc (own := [("state", 4), ("index", 8)]) rfl sc_all_curves.nd (pi_tup (pe_slice sl_tupA (pv 2) po_none (po_some (pe_op op_add (pv 5) pe_int)))) (blkOk_by (N := N_all_curves) (sc := defScope s_all_curves) (by decide +kernel)) (fun _ _ _ _ _ => (pg_pair (K := K) rfl rfl (pgs_cons (pg_name (i := 4) sc_all_curves.nd rfl (.inl rfl) (.inr rfl)) (pgs_cons (pg_name (i := 8) sc_all_curves.nd rfl (.inl rfl) (.inr rfl)) pgs_nil)))) (fun _ _ _ _ _ => pts_nil) (fun _ _ _ _ _ => (pv 4))) pa_nil)) pa_nil)))
        (pss_cons (ps_set (i := 9) sc_all_curves.nd rfl (.inl rfl) (pe_call A_leave_values.ok hr (by rfl) A_leave_values.g A_leave_values.kp A_leave_values.b .nil pass0 (pa_cons (pv 0) (pa_cons (pv 7) (pa_cons (pv 1) pa_nil)))))
        (pss_one (ps_for PassesOwn.never rfl (pi_range1 (by rfl) m_range (pa_cons (pe_callB call_len_seq (by rfl) m_len PySem.boot_len (pa_cons (pv 7) pa_nil)) pa_nil)) (pg_name (i := 10) sc_all_curves.nd rfl (.inl rfl))
        (pss_cons (ps_asg (pe_ix ix_tup (pv 9) (pv 10) (fun _ _ => rfl)) (pg_pair (K := K) rfl rfl (pgs_cons (pg_name (i := 11) sc_all_curves.nd rfl (.inl rfl) (.inl rfl)) (pgs_cons (pg_name (i := 12) sc_all_curves.nd rfl (.inl rfl) (.inl rfl)) pgs_nil))))
          (pss_one (ps_expr (pe_bm PySem.F.plainAttrs_list PySem.F.slot_list_append PySem.F.type_list_append mt_append (pe_ix ix_list (pv 3) (pe_ix ix_tup (pv 7) (pv 10) (fun _ _ => rfl)) (fun _ _ => rfl)) (pa_cons (pe_tup (pa_cons (pv 6) (pa_cons (pe_call A_add.ok hr (by rfl) A_add.g A_add.kp A_add.b .nil pass0 (pa_cons (pv 11) (pa_cons (pe_call A_multiply.ok hr (by rfl) A_multiply.g A_multiply.kp A_multiply.b .nil pass0 (pa_cons (pv 12) (pa_cons (pv 6) pa_nil))) pa_nil))) pa_nil))) pa_nil))))))))))))
      (pss_one (ps_ret (pe_callTy call_tuple_of (by rfl) m_tuple boot_tuple (pa_cons (pe_lc (own := [("row", 13)]) rfl sc_all_curves.nd (pi_list (pv 3)) (blkOk_by (N := N_all_curves) (sc := defScope s_all_curves) (by decide +kernel)) (fun _ _ _ _ _ => (pg_name (i := 13) sc_all_curves.nd rfl (.inl rfl))) (fun _ _ _ _ _ => pts_nil) (fun _ _ _ _ _ => (pe_make hMk G_init hr (by rfl) g_Curve b_init .nil pass0 (pa_cons (pe_call A_straightened.ok hr (by rfl) A_straightened.g A_straightened.kp A_straightened.b .nil pass0 (pa_cons (pv 13) pa_nil)) pa_nil)))) pa_nil))))))), ?_⟩
  rintro _ _ ⟨G, b, rfl, O, B, L, rfl⟩
  have n9 := L.o.n9
  have hs40 := line40
  have hol : (ordM G b).length = G.n := MG.ordM_len
  have lenO : (((ordM G b).map qD).length : Int) = (G.n : Int) := by rw [List.length_map, hol]
  have oat : ∀ {i : Nat}, i < G.n → ((ordM G b).map qD)[i]? = some (qD (sq G b i, nu G b i)) := fun {i} hi => by
    rw [List.getElem?_map, ME.getD_get (d := (0, 0)) (by rw [hol]; exact hi)]; rfl
  refine do_setc (ed_call (ea_2 (ed_var rfl) (ed_var rfl)) ⟨G, b, rfl, O, B, L.o, rfl⟩) ?_
  refine do_seq (fun Γ => ∃ a bs, Γ = Gc G b a bs (fun s => ptsD G b s 0) .un .un .un .un .un .un .un .un .un .un) (do_setOO (n := G.n) (f := fun i => (i : Int)) (k := 4) (i := 3) (ta := tNil) (ei_rng1 (ea_1 (by rw [← lenO]; exact ed_lenT (ed_var rfl))) (by omega)) (by omega) fun a bs => ⟨a, bs, ?_⟩) ?_
  · have : dss G.n (fun s => ptsD G b s 0) = List.replicate G.n [] := by
      unfold dss
      refine List.ext_getElem? fun i => ?_
      rw [List.getElem?_map, List.getElem?_replicate]
      by_cases hi : i < G.n
      · rw [List.getElem?_range hi, if_pos hi]; rfl
      · rw [List.getElem?_eq_none (by rw [List.length_range]; omega), if_neg hi]; rfl
    unfold Gc
    rw [this]; rfl
  rintro _ ⟨a, bs, rfl⟩
  refine do_seq (fun Γ => ∃ x4 x5 x6 x7 x8 x9 x10 x11 x12 x13, Γ = Gc G b a bs (fun s => ptsD G b s G.n) x4 x5 x6 x7 x8 x9 x10 x11 x12 x13) ?_ ?_
  · refine do_forR (fun i Γ => ∃ x4 x5 x6 x7 x8 x9 x10 x11 x12 x13, Γ = Gc G b a bs (fun s => ptsD G b s i) x4 x5 x6 x7 x8 x9 x10 x11 x12 x13) (ei_rng3 (n := G.n) (ea_3 ?_ (ed_un ed_int ru_neg) (ed_un ed_int ru_neg)) (by omega)) ⟨_, _, _, _, _, _, _, _, _, _, rfl⟩ (fun i Γ' hi hv => ?_) fun Γ' hv => hv
    · exact ed_op (by rw [← lenO]; exact ed_lenT (ed_var rfl)) ed_int rd_I0
    · obtain ⟨x4, x5, x6, x7, x8, x9, x10, x11, x12, x13, rfl⟩ := hv
      obtain ⟨kk, hkk⟩ : ∃ kk, G.n - 1 - i = kk := ⟨_, rfl⟩
      have hk : kk < G.n := by omega
      have ei : (G.n : Int) - 1 - (i : Int) = (kk : Int) := by omega
      have hlen := fun s => ptsD_len G b s i
      rw [ei]
      refine do_setc (ed_ixT (i := 1) (ed_ixT (ed_var rfl) (ed_var rfl) (oat hk)) ed_int rfl) ?_
      have edK1 : ∀ {Γ : List Sl}, Γ[5]? = some (.da (.int (kk : Int))) → EvD K C (tOp (rI0 fun i j => .int (i + j)) (tVar 5) (tC (.int 1))) Γ (.int ((kk + 1 : Nat) : Int)) := fun {Γ} h => by
        have : ((kk + 1 : Nat) : Int) = (kk : Int) + 1 := by omega
        rw [this]
        exact ed_op (ed_var h) ed_int rd_I0
      refine do_seq (fun Γ => grpEnd G b kk = true ∧ Γ = Gc G b a bs (fun s => ptsD G b s i) x4 (.da (.int (kk : Int))) (.da (.rat (nu G b kk))) x7 x8 x9 x10 x11 x12 x13) (do_if (b := !grpEnd G b kk) ?_ (fun e => ?_) fun e => ?_) ?_
      · have e1 : (!grpEnd G b kk) = (decide (((kk + 1 : Nat) : Int) < (G.n : Int)) && decide (nu G b (kk + 1) = nu G b kk)) := by
          have e2 : decide (((kk + 1 : Nat) : Int) < (G.n : Int)) = decide (kk + 1 < G.n) := by
            by_cases h1 : kk + 1 < G.n
            · rw [decide_eq_true h1, decide_eq_true (by omega)]
            · rw [decide_eq_false h1, decide_eq_false (by omega)]
          rw [e2]
          unfold MH.grpEnd
          by_cases h1 : kk + 1 < G.n <;> by_cases h2 : nu G b (kk + 1) = nu G b kk <;> simp [h1, h2]
        rw [e1]
        refine et_and (et_test (ed_op (edK1 rfl) (by rw [← lenO]; exact ed_lenT (ed_var rfl)) rd_B0)) fun z => ?_
        have h1 : kk + 1 < G.n := by have := of_decide_eq_true z; omega
        have : decide (nu G b (kk + 1) = nu G b kk) = decide (cmp (nu G b (kk + 1)) (nu G b kk) = 0) := by
          by_cases h : nu G b (kk + 1) = nu G b kk
          · rw [decide_eq_true h, decide_eq_true (cmp_eq.mpr h)]
          · rw [decide_eq_false h, decide_eq_false fun z => h (cmp_eq.mp z)]
        rw [this]
        exact et_test (ed_op (ed_cmp (ed_ixT (i := 1) (ed_ixT (ed_var rfl) (edK1 rfl) (oat h1)) ed_int rfl) (ed_var rfl) (L.nu _ h1) (L.nu _ hk)) ed_int rd_eqI)
      · have e' : grpEnd G b kk = false := by simpa using e
        refine do_cont ?_
        have : (fun s => ptsD G b s (i + 1)) = fun s => ptsD G b s i := by
          funext s
          show ptsD G b s i ++ item G b s (G.n - 1 - i) = _
          unfold MH.item
          rw [hkk, e', if_neg (by simp), List.append_nil]
        rw [this]
        exact ⟨_, _, _, _, _, _, _, _, _, _, rfl⟩
      · exact do_next ⟨by simpa using e, rfl⟩
      · rintro _ ⟨hg, rfl⟩
        obtain ⟨hI, hIl⟩ := MG.front_ins (G := G) (b := b) (k := kk + 1) hk
        have LV := L.lv kk hk hg
        have LI := L.it kk
        refine do_setc (d := .tup (iD (front G b (kk + 1)))) (ed_tupL ?_) ?_
        · rw [iD_kI]
          refine EvN.l (en_cbL (ds := (kI (((ordM G b).take (kk + 1)).map (·.1))).map Dt.int) (EvN.l (en_lcS (ds := ((ordM G b).take (kk + 1)).map qD) (ei_tup ?_) trivial ?_ ?_ fun i d e hd he => ?_)) (rcln_sorted ((MG.srt_perm _).map _) ?_))
          · have : ((ordM G b).take (kk + 1)).map qD = cut ((ordM G b).map qD) 0 (kk + 1) := by unfold cut; rw [List.drop_zero, Nat.sub_zero, List.map_take]
            rw [this]
            exact ed_slT (lo := none) (hi := some ((kk + 1 : Nat) : Int)) (ed_var rfl) pa_no (pa_at (edK1 rfl)) (HT.sIx_none _ _) (by rw [HT.sIx_nat, List.length_map, hol]; omega)
          · rw [List.length_map, List.length_take]; omega
          · unfold kI; simp
          · obtain ⟨⟨sx, nx⟩, h1, rfl⟩ := map_at hd
            unfold kI at he
            rw [List.map_map, List.map_map, List.getElem?_map, h1] at he
            obtain rfl := Option.some.inj he
            exact ⟨_, tgc_pair (by simp) (by simp), ed_var rfl⟩
          · unfold kI
            exact List.pairwise_map.mpr ((MG.srt_asc _).imp fun h => by omega)
        generalize hFr : front G b (kk + 1) = I at *
        have lenI : ((iD I).length : Int) = (I.length : Int) := by rw [iD_len]
        have Y := MG.leave_sys O B hI
        refine do_setc (ed_call (ea_3 (ed_var rfl) (ed_var rfl) (ed_var rfl)) ⟨G, b, I, rfl, O, B, hI, LV, rfl⟩) ?_
        have m0 : (fun s => mid G b i [] s) = fun s => ptsD G b s i := by funext s; unfold mid; rw [if_neg (by simp), List.append_nil]
        have mN : (fun s => mid G b i I s) = fun s => ptsD G b s (i + 1) := by
          funext s
          show ptsD G b s i ++ _ = ptsD G b s i ++ item G b s (G.n - 1 - i)
          unfold MH.item
          rw [hkk, hFr]
          by_cases h : s ∈ I
          · rw [if_pos h, if_pos ⟨hg, h⟩]; rfl
          · rw [if_neg h, if_neg fun z => h z.2]
        refine do_forR (fun j Γ => ∃ x10 x11 x12, Γ = Gc G b a bs (fun s => mid G b i (I.take j) s) x4 (.da (.int (kk : Int))) (.da (.rat (nu G b kk))) (.da (.tup (iD I))) x8 (.da (mD (leaveM G b I))) x10 x11 x12 x13) (ei_rng1 (ea_1 (by rw [← lenI]; exact ed_lenT (ed_var rfl))) (by omega)) ⟨x10, x11, x12, ?_⟩ (fun j Γ' hj hv => ?_) fun Γ' hv => ?_
        · rw [List.take_zero, m0]; rfl
        · obtain ⟨y10, y11, y12, rfl⟩ := hv
          have hsn := hI.get hj
          have hix := MG.ixOf_at hI.nd hj
          have ltk : (I.take j).length = j := by rw [List.length_take]; omega
          have hmem : I.getD j 0 ∈ I := by rw [List.getD_eq_getElem?_getD, List.getElem?_eq_getElem hj]; exact List.getElem_mem hj
          have hnot : I.getD j 0 ∉ I.take j := fun z => by
            obtain ⟨q, hq⟩ := List.getElem?_of_mem z
            rw [List.getElem?_take] at hq
            split at hq
            · have e1 := List.getElem?_eq_some_iff.mp hq
              have e2 := List.getElem?_eq_some_iff.mp (ME.getD_get (d := 0) hj)
              exact absurd (e1.2.trans e2.2.symm) (List.pairwise_iff_getElem.mp hI.nd q j e1.1 e2.1 (by assumption))
            · cases hq
          have htk : I.take (j + 1) = I.take j ++ [I.getD j 0] := by rw [List.take_succ, ME.getD_get (d := 0) hj]; rfl
          obtain ⟨l1, l2, l3, l4⟩ := LI (I.getD j 0) hk hg hmem
          have ele : lvE G b I (I.getD j 0) = le G b (kk + 1) (I.getD j 0) := by unfold MG.le; rw [hFr]
          have elg : lvG G b I (I.getD j 0) = lg G b (kk + 1) (I.getD j 0) := by unfold MG.lg; rw [hFr]
          have hval := leave_at O B hI hix
          rw [ele, elg] at hval
          generalize hst : I.getD j 0 = st at *
          have hat : (iD I)[j]? = some (.int (st : Int)) := by rw [iD_at hj, hst]
          have hds : (dss G.n fun s => mid G b i (I.take j) s)[st]? = some ((mid G b i (I.take j) st).map kD) := by
            unfold dss
            rw [List.getElem?_map, List.getElem?_range hsn]; rfl
          refine do_tgc (ed_ixT (ed_var rfl) (ed_var rfl) hval) tg_pair ?_
          refine do_appendO (i := 3) (j := st) rfl (ed_ixT (ed_var rfl) (ed_var rfl) hat) hds (d := kD (ptK G b kk st)) (ed_tup (ea_2 (ed_var rfl) (ed_add (ed_var rfl) (ed_mul (ed_var rfl) (ed_var rfl) l2 (L.nu _ hk) l3) l1 l3 l4)) (by show 2 ≤ sizeLine; decide)) ?_ ?_
          · rw [List.length_map]
            unfold mid
            rw [if_neg hnot, List.append_nil]
            have := hlen st
            omega
          · have es : (dss G.n fun s => mid G b i (I.take j) s).set st ((mid G b i (I.take j) st).map kD ++ [kD (ptK G b kk st)]) = dss G.n fun s => mid G b i (I.take (j + 1)) s := by
              have e1 : (mid G b i (I.take j) st).map kD ++ [kD (ptK G b kk st)] = (fun s => (mid G b i (I.take (j + 1)) s).map kD) st := by
                show _ = (mid G b i (I.take (j + 1)) st).map kD
                unfold mid
                rw [if_neg hnot, List.append_nil, if_pos (by rw [htk]; simp), List.map_append, hkk]; rfl
              rw [e1]
              unfold dss
              refine set_range (f := fun s => (mid G b i (I.take j) s).map kD) (g := fun s => (mid G b i (I.take (j + 1)) s).map kD) fun s _ hne => ?_
              show (mid G b i (I.take (j + 1)) s).map kD = (mid G b i (I.take j) s).map kD
              unfold mid
              have : (s ∈ I.take (j + 1)) ↔ s ∈ I.take j := by rw [htk]; simp [hne]
              simp only [this]
            rw [es]
            exact ⟨_, _, _, rfl⟩
        · obtain ⟨y10, y11, y12, rfl⟩ := hv
          rw [List.take_length, mN]
          exact ⟨_, _, _, _, _, _, _, _, _, _, rfl⟩
  · rintro _ ⟨x4, x5, x6, x7, x8, x9, x10, x11, x12, x13, rfl⟩
    refine do_freezeO (i := 3) rfl ?_
    refine do_ret (ed_tupL (EvN.l (en_lcS (es := (crvs b G).map cD') (ei_list (ed_var rfl)) trivial ?_ ?_ fun i d e hd he => ?_))) rfl
    · unfold dss; simp; omega
    · unfold dss MH.crvs; simp
    · obtain ⟨ps, h1, rfl⟩ := map_at hd
      have hi : i < G.n := by have := get_le h1; unfold dss at this; simpa using this
      unfold dss at h1
      rw [List.getElem?_map, List.getElem?_range hi] at h1
      obtain rfl := Option.some.inj h1
      unfold MH.crvs at he
      rw [List.map_map, List.getElem?_map, List.getElem?_range hi] at he
      obtain rfl := Option.some.inj he
      obtain ⟨g1, g2⟩ := crv_good O B hi
      exact ⟨_, tgc_name (by simp), ed_make (ea_1 (ed_call (ea_1 (ed_var rfl)) ⟨ptsD G b i G.n, rfl, L.pt i hi, rfl⟩)) ⟨crv G b i, rfl, g1, L.cr i hi, g2⟩⟩
end W9
set_option Elab.async false
set_option linter.all false
set_option maxRecDepth 100000
set_option maxHeartbeats 8000000
/-! W10: joint states, the value table -/
namespace W10
open PySem PySem.Spec PyProof.Rows L2 WA WB WT WC ML W1 W2 WD WE WF WG WH WK W3 W4 W5 W6 W7 W8 W9
variable {P : Program} {w : World} {K : PySem.W.Frag} {mg : Str → Option Value} {base : Heap} {C : Addr} {k : Nat} {f : Addr} {fd : FuncData}
open ME (gt)
open MG (Gm Rw)
open MF (Knot kn prodKnots)
open MH (joints jstep crvs cstep tabCurves tabM gAt jAt sAt world num Co)
def gsD (Gs : List Gm) : Dt := .tup (Gs.map gD)
def uD (u : List Nat) : Dt := .tup (iD u)
def joTo (Gs : List Gm) (i : Nat) : List (List Nat) := joints (Gs.take i)
structure JL (Gs : List Gm) : Prop where
  n : ∀ i, i ≤ Gs.length → (joTo Gs i).length ≤ 1000
  g : ∀ i, i < Gs.length → (gAt Gs i).n ≤ 1000
theorem g_at {Gs : List Gm} {i : Nat} (h : i < Gs.length) : Gs[i]? = some (gAt Gs i) := ME.getD_get h
theorem joTo_succ {Gs : List Gm} {i : Nat} (h : i < Gs.length) : joTo Gs (i + 1) = jstep (joTo Gs i) (gAt Gs i) := by
  unfold joTo MH.joints
  rw [List.take_succ, g_at h, List.foldl_append]; rfl
theorem joTo_all (Gs : List Gm) : joTo Gs Gs.length = joints Gs := by unfold joTo; rw [List.take_length]
theorem iD_app (u : List Nat) (s : Nat) : iD (u ++ [s]) = iD u ++ [.int (s : Int)] := by unfold iD; rw [List.map_append]; rfl
def R_joints (ds : List Dt) (d : Dt) : Prop := ∃ Gs : List Gm, ds = [gsD Gs] ∧ JL Gs ∧ (∀ u ∈ joints Gs, u.length ≤ 1000) ∧ Gs.length ≤ 1000 ∧ d = .tup ((joints Gs).map uD)
theorem mem_len : ∀ (Gs : List Gm) {u : List Nat}, u ∈ joints Gs → u.length = Gs.length := fun Gs u h => MH.Vld.len (MH.mem_joints h)
theorem ok_joints (F : Fun K "joint_states" "joint_states" s_joint_states f fd) (m_len : mg "len" = none) (m_range : mg "range" = none) (m_tuple : mg "tuple" = none) : FnOk P w K mg base CX0 (k + 1) f fd ["games"] (SpD K C R_joints) := by
  refine ok_do F sc_joint_states (fun ds d ⟨a, h, _⟩ => by rw [h]; rfl) fun cdv A outer s H E hr => ⟨_,
      (pss_cons (ps_set (i := 1) sc_joint_states.nd rfl (.inl rfl) (pe_lst (pa_cons (pe_tup pa_nil) pa_nil)))
      (pss_cons (ps_for PassesOwn.never rfl (pi_tup (pv 0)) (pg_name (i := 2) sc_joint_states.nd rfl (.inr rfl))
      (pss_one (ps_setLc2 (i := 1) (own := [("row", 3), ("state", 4)]) (vs1 := [4]) rfl sc_joint_states.nd rfl rfl (sw_true rfl rfl rfl (by decide +kernel)) (pi_list (pv 1)) (blkOk_by (N := N_joint_states) (sc := defScope s_joint_states) (by decide +kernel)) (by decide) (fun _ _ _ _ _ => (pg_name (i := 3) sc_joint_states.nd rfl (.inl rfl))) (fun _ _ _ _ _ => pts_nil) (fun _ _ _ _ _ => (pi_range1 (by rfl) m_range (pa_cons (pe_callB (k_len (K := K) rfl) (by rfl) m_len PySem.boot_len (pa_cons (pe_ix (kx_tup (K := K) rfl) (pv 2) pe_int (fun _ _ => rfl)) pa_nil)) pa_nil))) (fun _ _ _ _ _ => (pg_name (i := 4) sc_joint_states.nd rfl (.inl rfl))) (fun _ _ _ _ _ => pts_nil) (fun _ _ _ _ _ => (pe_op (k_catA (K := K) rfl) (pv 3) (pe_tup (pa_cons (pv 4) pa_nil)))))))
      (pss_one (ps_ret (pe_callTy call_tuple_of (by rfl) m_tuple boot_tuple (pa_cons (pv 1) pa_nil)))))), ?_⟩
  rintro _ _ ⟨Gs, rfl, L, _, hG, rfl⟩
  have hs40 := line40
  refine do_setc (d := .lst [.tup []]) (EvN.d (en_lst (ea_1 (ed_tup ea_nil (by decide))) (by show 1 ≤ sizeLine; decide))) ?_
  refine do_seq (fun Γ => ∃ x2 x3 x4, Γ = [.da (gsD Gs), .da (.lst ((joints Gs).map uD)), x2, x3, x4]) ?_ ?_
  · refine do_for (fun i Γ => ∃ x2 x3 x4, Γ = [.da (gsD Gs), .da (.lst ((joTo Gs i).map uD)), x2, x3, x4]) (ei_tup (ed_var rfl)) ⟨_, _, _, rfl⟩ (fun _ _ _ => trivial) (fun i d Γ' hd hv => ?_) fun Γ' hv => ?_
    · obtain ⟨x2, x3, x4, rfl⟩ := hv
      obtain ⟨G, hG', rfl⟩ := map_at hd
      have hi := get_le hG'
      have eG : gAt Gs i = G := by
        have := g_at hi
        rw [hG'] at this
        exact (Option.some.inj this).symm
      have lJ := L.n i (by omega)
      have lJ1 := L.n (i + 1) hi
      have lg := L.g i hi
      rw [eG] at lg
      have hlen : ((G.rw.map Dt.rat).length : Int) = (G.n : Int) := by rw [List.length_map]; rfl
      have efl : (((joTo Gs i).map fun u => (List.range G.n).map fun s => uD (u ++ [s])).flatten) = (joTo Gs (i + 1)).map uD := by
        rw [joTo_succ hi, eG]
        unfold MH.jstep
        rw [List.map_flatMap, List.flatMap_def]
        congr 1
        refine List.map_congr_left fun u _ => ?_
        rw [List.map_map]; rfl
      refine ⟨_, tg_name, do_set (d := .lst ((joTo Gs (i + 1)).map uD)) (EvN.d ?_) ⟨.da (gD G), x3, x4, rfl⟩⟩
      rw [← efl]
      refine en_lc2 (I := fun _ => True) _ (ei_list (ed_var rfl)) trivial (by simp) (by rw [efl, List.length_map]; omega) fun j d f hd hf => ?_
      obtain ⟨u, hu, rfl⟩ := map_at hd
      rw [List.getElem?_map, hu] at hf
      obtain rfl := Option.some.inj hf
      have hul : u.length ≤ 1000 := by
        have := mem_len _ (List.mem_of_getElem? hu)
        rw [this, List.length_take]; omega
      refine ⟨_, upto G.n fun s => (s : Int), fun _ => True, rfl, tgc_name (by simp), ei_rng1 (ea_1 (by rw [← hlen]; exact ed_lenT (ed_ixT (i := 0) (ed_var rfl) ed_int rfl))) (by omega), trivial, by rw [upto_len]; simp, fun m d1 e hd1 he => ?_⟩
      obtain ⟨hm, rfl⟩ := upto_at hd1
      rw [List.getElem?_map, List.getElem?_range hm] at he
      obtain rfl := Option.some.inj he
      refine ⟨_, tgc_name (by simp), ?_⟩
      show EvD K C _ _ (.tup (iD (u ++ [m])))
      rw [iD_app]
      exact ed_catT (ed_var rfl) (ed_tup (ea_1 (ed_var rfl)) (by show 1 ≤ sizeLine; decide)) (by rw [iD_len]; show _ + 1 ≤ _; omega)
    · obtain ⟨x2, x3, x4, rfl⟩ := hv
      rw [List.length_map, joTo_all]
      exact ⟨_, _, _, rfl⟩
  · rintro _ ⟨x2, x3, x4, rfl⟩
    exact do_ret (ed_tupL (ed_var rfl).l) rfl
/-! ### the value table -/
def tcTo (Gs : List Gm) (b : Rat) (i : Nat) : List (List Knot) := tabCurves b (Gs.take (i + 1))
structure VtL (Gs : List Gm) (b : Rat) : Prop where
  cv : ∀ i, i < Gs.length → CvL (gAt Gs i) b
  mu : ∀ i, i + 1 < Gs.length → ∀ c ∈ tcTo Gs b i, ∀ o ∈ crvs b (gAt Gs (i + 1)), MulL c o
  ln : ∀ i, i < Gs.length → (tcTo Gs b i).length ≤ 1000
  ps : ∀ c ∈ tabCurves b Gs, 0 < c.length
  g5 : Gs.length ≤ 1000
def R_vt (ds : List Dt) (d : Dt) : Prop := ∃ (Gs : List Gm) (b : Rat), ds = [gsD Gs, .rat b, .non] ∧ Co Gs b ∧ VtL Gs b ∧ d = rtp (tabM Gs b)
theorem tcTo_succ {Gs : List Gm} {b : Rat} {i : Nat} (h : i + 1 < Gs.length) : tcTo Gs b (i + 1) = cstep b (tcTo Gs b i) (gAt Gs (i + 1)) := by
  match Gs, h with
  | G :: Gs, h =>
    unfold tcTo
    show tabCurves b (G :: Gs.take (i + 1)) = cstep b (tabCurves b (G :: Gs.take i)) (gAt (G :: Gs) (i + 1))
    have hi : i < Gs.length := by simpa using h
    show (Gs.take (i + 1)).foldl (cstep b) (crvs b G) = cstep b ((Gs.take i).foldl (cstep b) (crvs b G)) (gAt Gs i)
    rw [List.take_succ, g_at hi, List.foldl_append]; rfl
theorem crvs_len (b : Rat) (G : Gm) : (crvs b G).length = G.n := by unfold MH.crvs; simp
theorem ok_vt {fm : Addr} {fdm : FuncData} (F : Fun K "value_table" "value_table" s_value_table f fd) (A_all_curves : Fd P w K mg base C "all_curves" ["game", "discount"] k R_curves) (A_gain_of : Fd P w K mg base C "gain_of" ["curve", "stop"] k R_gain)
    (G_mul : FnOk P w K mg base CX0 k fm fdm ["self", "other"] (SpD K C R_mul)) (b_mul : Binds K fdm ["self", "other"] []) (c_first : PySem.W.selfFirst K C = true) (c_mul : PySem.W.findIn K (.ref C) (PySem.dunder Operator.Mult.info.2) = some (some (.ref fm))) (c_fn : PySem.W.isFn K (.ref fm) = true)
    (m_list : mg "list" = none) (m_tuple : mg "tuple" = none) : FnOk P w K mg base CX0 (k + 1) f fd ["games", "discount", "stop"] (SpD K C R_vt) := by
  refine ok_do F sc_value_table (fun ds d ⟨a, b, h, _⟩ => by rw [h]; rfl) fun cdv A outer s H E hr => ⟨_,
      (pss_cons (ps_set (i := 3) sc_value_table.nd rfl (.inl rfl) (pe_callTy call_list_of (by rfl) m_list boot_list (pa_cons (pe_call A_all_curves.ok hr (by rfl) A_all_curves.g A_all_curves.kp A_all_curves.b .nil pass0 (pa_cons (pe_ix ix_tup (pv 0) pe_int (fun _ _ => rfl)) (pa_cons (pv 1) pa_nil))) pa_nil)))
      (pss_cons (ps_for PassesOwn.never rfl (pi_tup (pe_slice sl_tupA (pv 0) (po_some pe_int) po_none)) (pg_name (i := 4) sc_value_table.nd rfl (.inl rfl))
      (pss_cons (ps_set (i := 5) sc_value_table.nd rfl (.inr rfl) (pe_call A_all_curves.ok hr (by rfl) A_all_curves.g A_all_curves.kp A_all_curves.b .nil pass0 (pa_cons (pv 4) (pa_cons (pv 1) pa_nil))))
        (pss_one (ps_setLc2 (i := 3) (own := [("curve", 6), ("other", 7)]) (vs1 := [7]) rfl sc_value_table.nd rfl rfl (sw_true rfl rfl rfl (by decide +kernel)) (pi_list (pv 3)) (blkOk_by (N := N_value_table) (sc := defScope s_value_table) (by decide +kernel)) (by decide) (fun _ _ _ _ _ => (pg_name (i := 6) sc_value_table.nd rfl (.inl rfl))) (fun _ _ _ _ _ => pts_nil) (fun _ _ _ _ _ => (kpi_tup (K := K) rfl (pv 5))) (fun _ _ _ _ _ => (pg_name (i := 7) sc_value_table.nd rfl (.inl rfl))) (fun _ _ _ _ _ => pts_nil) (fun _ _ _ _ _ => (pe_op (op_own (C := C) G_mul hr b_mul pass0 c_first c_mul c_fn) (pv 6) (pv 7)))))))
      (pss_one (ps_ret (pe_callTy call_tuple_of (by rfl) m_tuple boot_tuple (pa_cons (pe_lc (own := [("curve", 6)]) rfl sc_value_table.nd (pi_list (pv 3)) (blkOk_by (N := N_value_table) (sc := defScope s_value_table) (by decide +kernel)) (fun _ _ _ _ _ => (pg_name (i := 6) sc_value_table.nd rfl (.inl rfl))) (fun _ _ _ _ _ => pts_nil) (fun _ _ _ _ _ => (pe_call A_gain_of.ok hr (by rfl) A_gain_of.g A_gain_of.kp A_gain_of.b .nil pass0 (pa_cons (pv 6) (pa_cons (pv 2) pa_nil))))) pa_nil)))))), ?_⟩
  rintro _ _ ⟨Gs, b, rfl, Y, L, rfl⟩
  have hs40 := line40
  have g5 := L.g5
  have h0 := Y.ne
  have gat : ∀ {i : Nat}, i < Gs.length → (Gs.map gD)[i]? = some (gD (gAt Gs i)) := fun {i} hi => at_map (g_at hi)
  have ok : ∀ {i : Nat}, i < Gs.length → (gAt Gs i).Ok := fun {i} hi => Y.ok _ (MH.gAt_mem hi)
  have e0 : tcTo Gs b 0 = crvs b (gAt Gs 0) := by
    match Gs, h0 with
    | G :: Gs, _ => rfl
  have eN : tcTo Gs b (Gs.length - 1) = tabCurves b Gs := by
    unfold tcTo
    rw [List.take_of_length_le (by omega)]
  refine do_setc (d := .lst ((tcTo Gs b 0).map cD')) (EvN.d (en_listT (by rw [e0]; exact ed_call (ea_2 (ed_ixT (i := 0) (ed_var rfl) ed_int (gat h0)) (ed_var rfl)) ⟨gAt Gs 0, b, rfl, ok h0, Y.B, L.cv 0 h0, rfl⟩))) ?_
  refine do_seq (fun Γ => ∃ x4 x5 x6 x7, Γ = [.da (gsD Gs), .da (.rat b), .da .non, .da (.lst ((tabCurves b Gs).map cD')), x4, x5, x6, x7]) ?_ ?_
  · refine do_for (fun i Γ => ∃ x4 x5 x6 x7, Γ = [.da (gsD Gs), .da (.rat b), .da .non, .da (.lst ((tcTo Gs b i).map cD')), x4, x5, x6, x7]) (ds := cut (Gs.map gD) 1 Gs.length) (ei_tup (ed_slT (lo := some ((1 : Nat) : Int)) (hi := none) (ed_var rfl) (pa_at ed_int) pa_no (by rw [HT.sIx_nat, List.length_map]; omega) (by rw [HT.sIx_none, List.length_map]))) ⟨_, _, _, _, rfl⟩ (fun _ _ _ => trivial) (fun i d Γ' hd hv => ?_) fun Γ' hv => ?_
    · obtain ⟨x4, x5, x6, x7, rfl⟩ := hv
      unfold cut at hd
      rw [List.getElem?_take] at hd
      split at hd
      · rename_i hi
        have hi1 : i + 1 < Gs.length := by omega
        rw [List.getElem?_drop, Nat.add_comm 1 i, gat hi1] at hd
        obtain rfl := Option.some.inj hd
        have hln := L.ln (i + 1) hi1
        have efl : (((tcTo Gs b i).map fun c => (crvs b (gAt Gs (i + 1))).map fun o => cD' (prodKnots c o)).flatten) = (tcTo Gs b (i + 1)).map cD' := by
          rw [tcTo_succ hi1]
          unfold MH.cstep
          rw [List.map_flatMap, List.flatMap_def]
          congr 1
          refine List.map_congr_left fun u _ => ?_
          rw [List.map_map]; rfl
        refine ⟨_, tg_name, do_setc (ed_call (ea_2 (ed_var rfl) (ed_var rfl)) ⟨gAt Gs (i + 1), b, rfl, ok hi1, Y.B, L.cv _ hi1, rfl⟩) (do_set (d := .lst ((tcTo Gs b (i + 1)).map cD')) (EvN.d ?_) ⟨_, _, _, _, rfl⟩)⟩
        rw [← efl]
        refine en_lc2 (I := fun _ => True) _ (ei_list (ed_var rfl)) trivial (by simp) (by rw [efl, List.length_map]; omega) fun j d f hd hf => ?_
        obtain ⟨c, hc, rfl⟩ := map_at hd
        rw [List.getElem?_map, hc] at hf
        obtain rfl := Option.some.inj hf
        refine ⟨_, (crvs b (gAt Gs (i + 1))).map cD', fun _ => True, rfl, tgc_name (by simp), ei_tup (ed_var rfl), trivial, by simp, fun m d1 e hd1 he => ?_⟩
        obtain ⟨o, ho, rfl⟩ := map_at hd1
        rw [List.getElem?_map, ho] at he
        obtain rfl := Option.some.inj he
        exact ⟨_, tgc_name (by simp), ed_own (ed_var rfl) (ed_var rfl) ⟨c, o, rfl, L.mu i hi1 c (List.mem_of_getElem? hc) o (List.mem_of_getElem? ho), rfl⟩⟩
      · cases hd
    · obtain ⟨x4, x5, x6, x7, rfl⟩ := hv
      have : (cut (Gs.map gD) 1 Gs.length).length = Gs.length - 1 := by
        unfold cut; rw [List.length_take, List.length_drop, List.length_map]; omega
      rw [this, eN]
      exact ⟨_, _, _, _, rfl⟩
  · rintro _ ⟨x4, x5, x6, x7, rfl⟩
    have hl := L.ln (Gs.length - 1) (by omega)
    rw [eN] at hl
    refine do_ret (ed_tupL (EvN.l (en_lcS (es := (tabM Gs b).map Dt.rat) (ei_list (ed_var rfl)) trivial (by rw [List.length_map]; omega) (by unfold MH.tabM; simp) fun i d e hd he => ?_))) rfl
    obtain ⟨c, hc, rfl⟩ := map_at hd
    unfold MH.tabM at he
    rw [List.map_map, List.getElem?_map, hc] at he
    obtain rfl := Option.some.inj he
    exact ⟨_, tgc_name (by simp), ed_call (ea_2 (ed_var rfl) (ed_var rfl)) ⟨c, rfl, L.ps c (List.mem_of_getElem? hc), rfl⟩⟩
end W10
set_option Elab.async false
set_option linter.all false
set_option maxRecDepth 100000
set_option maxHeartbeats 8000000
/-! W11: the values of choices, one improvement -/
namespace W11
open PySem PySem.Spec PyProof.Rows L2 WA WB WT WC ML W1 W2 WD WE WF WG WH WK W3 W4 W5 W6 W7 W8 W9 W10
variable {P : Program} {w : World} {K : PySem.W.Frag} {mg : Str → Option Value} {base : Heap} {C : Addr} {k : Nat} {f : Addr} {fd : FuncData}
open ME (gt)
open MA (ex)
open MG (Gm Rw acc unitR)
open MH (joints gAt jAt sAt world num Co)
open MI (cN cvA cvB cvS cvM Cho bestTo betterC impM)
def R_with (ds : List Dt) (d : Dt) : Prop := ∃ (u : List Nat) (i t : Nat), ds = [uD u, .int (i : Int), .int (t : Int)] ∧ i < u.length ∧ u.length ≤ 1000 ∧ d = uD (u.set i t)
theorem set_cut (u : List Nat) {i : Nat} (t : Nat) (h : i < u.length) : iD (u.set i t) = cut (iD u) 0 i ++ [.int (t : Int)] ++ cut (iD u) (i + 1) u.length := by
  unfold cut iD
  rw [List.drop_zero, Nat.sub_zero, List.set_eq_take_append_cons_drop, if_pos h, List.map_append, List.map_cons, List.map_take, List.map_drop]
  have e : ((u.map fun (s : Nat) => Dt.int (s : Int)).drop (i + 1)).take (u.length - (i + 1)) = (u.map fun (s : Nat) => Dt.int (s : Int)).drop (i + 1) := List.take_of_length_le (by simp)
  rw [e]
  simp
theorem ok_with (F : Fun K "with_state" "with_state" s_with_state f fd) : FnOk P w K mg base CX0 (k + 1) f fd ["joint", "position", "state"] (SpD K C R_with) := by
  refine ok_do F sc_with_state (fun ds d ⟨a, b, c, h, _⟩ => by rw [h]; rfl) fun cdv A outer s H E hr => ⟨_,
      (pss_one (ps_ret (pe_op op_catA (pe_op op_catA (pe_slice sl_tupA (pv 0) po_none (po_some (pv 1))) (pe_tup (pa_cons (pv 2) pa_nil))) (pe_slice sl_tupA (pv 0) (po_some (pe_op op_add (pv 1) pe_int)) po_none)))), ?_⟩
  rintro _ _ ⟨u, i, t, rfl, hi, hl, rfl⟩
  have hs40 := line40
  have h1 : (cut (iD u) 0 i).length ≤ 1000 := by unfold cut; rw [List.length_take, iD, List.drop_zero, List.length_map]; omega
  have h2 : (cut (iD u) (i + 1) u.length).length ≤ 1000 := by unfold cut; rw [List.length_take, List.length_drop, iD, List.length_map]; omega
  refine do_ret (d := .tup (cut (iD u) 0 i ++ [.int (t : Int)] ++ cut (iD u) (i + 1) u.length)) (ed_catT (ed_catT (ed_slT (lo := none) (hi := some (i : Int)) (ed_var rfl) pa_no (pa_at (ed_var rfl)) (HT.sIx_none _ _) (by rw [HT.sIx_nat, iD_len]; omega)) (ed_tup (ea_1 (ed_var rfl)) (by show 1 ≤ sizeLine; decide)) ?_) (ed_slT (lo := some ((i + 1 : Nat) : Int)) (hi := none) (ed_var rfl) (pa_at ?_) pa_no (by rw [HT.sIx_nat, iD_len]; omega) (by rw [HT.sIx_none, iD_len])) ?_) ?_
  · show _ + 1 ≤ _; omega
  · have : ((i + 1 : Nat) : Int) = (i : Int) + 1 := by omega
    rw [this]
    exact ed_op (ed_var rfl) ed_int rd_I0
  · rw [List.length_append]; show _ + 1 + _ ≤ _; omega
  · show Dt.tup _ = Dt.tup (iD (u.set i t))
    rw [set_cut u t hi]
/-- the dict whose keys are the joint states -/
def jK (Gs : List Gm) : List (List Int) := (joints Gs).map kI
def jD (Gs : List Gm) (es : List Dt) : Dt := .dct (jK Gs) es
theorem kI_inj {a b : List Nat} (h : kI a = kI b) : a = b := by
  unfold kI at h
  exact (List.map_inj_right (fun x y z => by omega)).mp h
theorem jK_nd (Gs : List Gm) : (jK Gs).Nodup := by
  unfold jK
  have := MH.joints_nodup Gs
  rw [List.nodup_iff_pairwise_ne] at *
  exact List.pairwise_map.mpr (this.imp fun ne z => ne (kI_inj z))
theorem jK_len (Gs : List Gm) : (jK Gs).length = cN Gs := by unfold jK; rw [List.length_map]; rfl
theorem jK_at {Gs : List Gm} {u : List Nat} (h : MH.Vld Gs u) : (jK Gs)[num Gs u 0]? = some (kI u) := by
  unfold jK
  rw [List.getElem?_map, MH.joint_num h]; rfl
theorem uD_kI (u : List Nat) : uD u = .tup ((kI u).map Dt.int) := by unfold uD; rw [iD_kI]
theorem j_at {Gs : List Gm} {k : Nat} (h : k < cN Gs) : ((joints Gs).map uD)[k]? = some (uD (jAt Gs k)) := by
  rw [List.getElem?_map, ME.getD_get (d := []) h]; rfl
theorem jK_at' {Gs : List Gm} {k : Nat} (h : k < cN Gs) : (jK Gs)[k]? = some (kI (jAt Gs k)) := by
  unfold jK
  rw [List.getElem?_map, ME.getD_get (d := []) h]; rfl
section
variable {Γ : List Sl} {td ty : TE} {Gs : List Gm} {es : List Dt} {u : List Nat} {d : Dt}
theorem ed_jget (h : EvD K C td Γ (jD Gs es)) (hy : EvD K C ty Γ (uD u)) (hu : MH.Vld Gs u) (hd : es[num Gs u 0]? = some d) : EvD K C (tDGet td ty) Γ d :=
  ed_dgetT h (by rw [uD_kI] at hy; exact hy) (jK_nd Gs) (jK_at hu) hd
end
structure JnL (Gs : List Gm) : Prop where
  jl : JL Gs
  n9 : cN Gs ≤ 9
  g5 : Gs.length ≤ 1000
theorem JnL.ms {Gs : List Gm} (J : JnL Gs) : ∀ u ∈ joints Gs, u.length ≤ 1000 := fun u h => by rw [mem_len Gs h]; exact J.g5
structure CcL (Gs : List Gm) (ch : List Nat) (b : Rat) : Prop where
  lb : Lim b
  ac : ∀ k, k < cN Gs → AccL b (MI.ixN (cN Gs)) ((world Gs b).T k (ch.getD k 0)) (unitR (cN Gs) k, 0)
  ls : LS (cN Gs) 1 (cvA Gs ch b) (cvB Gs ch b)
  j : JnL Gs
def R_cv (ds : List Dt) (d : Dt) : Prop := ∃ (Gs : List Gm) (ch : List Nat) (b : Rat), ds = [gsD Gs, uD ch, .rat b] ∧ Co Gs b ∧ Cho Gs ch ∧ CcL Gs ch b ∧ d = rtp (cvM Gs ch b)
def ixs (n : Nat) : List Dt := (List.range n).map fun (i : Nat) => Dt.int (i : Int)
theorem ixs_at {n i : Nat} (h : i < n) : (ixs n)[i]? = some (.int (i : Int)) := by unfold ixs; rw [List.getElem?_map, List.getElem?_range h]; rfl
abbrev Gv (Gs : List Gm) (ch : List Nat) (b : Rat) (x5 : Sl) (m0 r0 : Addr) (i : Nat) (x8 x9 x10 x11 x12 x13 x14 x15 x16 : Sl) : List Sl := [.da (gsD Gs), .da (uD ch), .da (.rat b), .da (.tup ((joints Gs).map uD)), .da (jD Gs (ixs (cN Gs))), x5, .ow m0 (((cvA Gs ch b).take i).map rtp), .ow r0 (((cvB Gs ch b).take i).map rtp), x8, x9, x10, x11, x12, x13, x14, x15, x16]
theorem ok_cv (F : Fun K "choice_values" "choice_values" s_choice_values f fd) (A : Ops P w K mg base C k) (A_joint_states : Fd P w K mg base C "joint_states" ["games"] k R_joints) (A_with_state : Fd P w K mg base C "with_state" ["joint", "position", "state"] k R_with)
    (A_solve : Fd P w K mg base C "solve" ["matrix", "right"] k R_solve) (Z_ZERO_stationary : Kr K mg "ZERO_stationary" 0) (Z_ONE_stationary : Kr K mg "ONE_stationary" 1) (m_len : mg "len" = none) (m_range : mg "range" = none) (m_tuple : mg "tuple" = none) : FnOk P w K mg base CX0 (k + 1) f fd ["games", "choices", "discount"] (SpD K C R_cv) := by
  have A_multiply := A.mul
  have A_subtract := A.sub
  refine ok_do F sc_choice_values (fun ds d ⟨a, b, c, h, _⟩ => by rw [h]; rfl) fun cdv A outer s H E hr => ⟨_,
      (pss_cons (ps_set (i := 3) sc_choice_values.nd rfl (.inr rfl) (pe_call A_joint_states.ok hr (by rfl) A_joint_states.g A_joint_states.kp A_joint_states.b .nil pass0 (pa_cons (pv 0) pa_nil)))
      (pss_cons (ps_setDcT (i := 4) (own := [("k", 5)]) (hu_of hr) rfl sc_choice_values.nd rfl rfl (sw_dict rfl rfl rfl (by decide +kernel)) (pi_range1 (by rfl) m_range (pa_cons (pe_callB call_len_seq (by rfl) m_len PySem.boot_len (pa_cons (pv 3) pa_nil)) pa_nil)) (blkOk_by (N := N_choice_values) (sc := defScope s_choice_values) (by decide +kernel)) (fun _ _ _ _ _ => (pg_name (i := 5) sc_choice_values.nd rfl (.inl rfl))) (fun _ _ _ _ _ => pts_nil) (fun _ _ _ _ _ => (pe_ix (kx_tup (K := K) rfl) (pv 3) (pv 5) (fun _ _ => rfl))) (fun _ _ _ _ _ => (pv 5)))
      (pss_cons (ps_set (i := 6) sc_choice_values.nd rfl (.inl rfl) (pe_lst pa_nil))
      (pss_cons (ps_set (i := 7) sc_choice_values.nd rfl (.inl rfl) (pe_lst pa_nil))
      (pss_cons (ps_for PassesOwn.never rfl (pi_range1 (by rfl) m_range (pa_cons (pe_callB call_len_seq (by rfl) m_len PySem.boot_len (pa_cons (pv 3) pa_nil)) pa_nil)) (pg_name (i := 5) sc_choice_values.nd rfl (.inl rfl))
      (pss_cons (ps_set (i := 8) sc_choice_values.nd rfl (.inl rfl) (pe_ix ix_tup (pv 1) (pv 5) (fun _ _ => rfl)))
        (pss_cons (ps_asg (pe_ix ix_tup (pv 0) (pv 8) (fun _ _ => rfl)) (pg_pair (K := K) rfl rfl (pgs_cons (pg_name (i := 9) sc_choice_values.nd rfl (.inl rfl) (.inl rfl)) (pgs_cons (pg_name (i := 10) sc_choice_values.nd rfl (.inl rfl) (.inl rfl)) pgs_nil))))
        (pss_cons (ps_set (i := 11) sc_choice_values.nd rfl (.inl rfl) (pe_ix ix_tup (pe_ix ix_tup (pv 3) (pv 5) (fun _ _ => rfl)) (pv 8) (fun _ _ => rfl)))
        (pss_cons (ps_set (i := 12) sc_choice_values.nd rfl (.inl rfl) (pe_op op_rep (pe_lst (pa_cons (pe_glob (v := .ref Z_ZERO_stationary.a) rfl Z_ZERO_stationary.g rfl) pa_nil)) (pe_callB call_len_seq (by rfl) m_len PySem.boot_len (pa_cons (pv 3) pa_nil))))
        (pss_cons (ps_asg (pe_glob (v := .ref Z_ONE_stationary.a) rfl Z_ONE_stationary.g rfl) (pg_sub (pv 12) (pv 5) set_list))
        (pss_cons (ps_for PassesOwn.never rfl (pi_tup (pe_ix ix_tup (pv 10) (pv 11) (fun _ _ => rfl))) (pg_pair (K := K) rfl rfl (pgs_cons (pg_name (i := 13) sc_choice_values.nd rfl (.inl rfl) (.inl rfl)) (pgs_cons (pg_name (i := 14) sc_choice_values.nd rfl (.inl rfl) (.inl rfl)) pgs_nil)))
        (pss_cons (ps_set (i := 15) sc_choice_values.nd rfl (.inl rfl) (pe_dget (hu_of hr) (pv 4) (pe_call A_with_state.ok hr (by rfl) A_with_state.g A_with_state.kp A_with_state.b .nil pass0 (pa_cons (pe_ix ix_tup (pv 3) (pv 5) (fun _ _ => rfl)) (pa_cons (pv 8) (pa_cons (pv 13) pa_nil)))) (fun _ _ => rfl)))
          (pss_one (ps_asg (pe_call A_subtract.ok hr (by rfl) A_subtract.g A_subtract.kp A_subtract.b .nil pass0 (pa_cons (pe_ix ix_list (pv 12) (pv 15) (fun _ _ => rfl)) (pa_cons (pe_call A_multiply.ok hr (by rfl) A_multiply.g A_multiply.kp A_multiply.b .nil pass0 (pa_cons (pv 2) (pa_cons (pv 14) pa_nil))) pa_nil))) (pg_sub (pv 12) (pv 15) set_list)))))
        (pss_cons (ps_expr (pe_bm PySem.F.plainAttrs_list PySem.F.slot_list_append PySem.F.type_list_append mt_append (pv 6) (pa_cons (pe_callTy call_tuple_of (by rfl) m_tuple boot_tuple (pa_cons (pv 12) pa_nil)) pa_nil)))
        (pss_one (ps_expr (pe_bm PySem.F.plainAttrs_list PySem.F.slot_list_append PySem.F.type_list_append mt_append (pv 7) (pa_cons (pe_tup (pa_cons (pe_ix ix_tup (pv 9) (pv 11) (fun _ _ => rfl)) pa_nil)) pa_nil))))))))))))
      (pss_cons (ps_set (i := 16) sc_choice_values.nd rfl (.inl rfl) (pe_ix ix_tup (pe_call A_solve.ok hr (by rfl) A_solve.g A_solve.kp A_solve.b .nil pass0 (pa_cons (pe_callTy call_tuple_of (by rfl) m_tuple boot_tuple (pa_cons (pv 6) pa_nil)) (pa_cons (pe_callTy call_tuple_of (by rfl) m_tuple boot_tuple (pa_cons (pv 7) pa_nil)) pa_nil))) pe_int (fun _ _ => rfl)))
      (pss_one (ps_ret (pe_callTy call_tuple_of (by rfl) m_tuple boot_tuple (pa_cons (pe_lc (own := [("row", 12)]) rfl sc_choice_values.nd (pi_tup (pv 16)) (blkOk_by (N := N_choice_values) (sc := defScope s_choice_values) (by decide +kernel)) (fun _ _ _ _ _ => (pg_name (i := 12) sc_choice_values.nd rfl (.inl rfl))) (fun _ _ _ _ _ => pts_nil) (fun _ _ _ _ _ => (pe_ix (kx_tup (K := K) rfl) (pv 12) pe_int (fun _ _ => rfl)))) pa_nil)))))))))), ?_⟩
  rintro _ _ ⟨Gs, ch, b, rfl, Y, h, L, rfl⟩
  have J := L.j
  have n9 := J.n9
  have hs40 := line40
  have S := MI.cv_sys Y h
  have lenJ : (((joints Gs).map uD).length : Int) = (cN Gs : Int) := by rw [List.length_map]; rfl
  have jl : (joints Gs).length = cN Gs := rfl
  refine do_setc (ed_call (ea_1 (ed_var rfl)) ⟨Gs, rfl, J.jl, J.ms, J.g5, rfl⟩) ?_
  refine do_setc (d := jD Gs (ixs (cN Gs))) (ed_dcT (n := cN Gs) (f := fun i => (i : Int)) (ei_rng1 (ea_1 (by rw [← lenJ]; exact ed_lenT (ed_var rfl))) (by omega)) (by omega) (jK_len Gs) (by unfold ixs; simp) (jK_nd Gs) fun i x e hi hx he => ⟨?_, ?_⟩) ?_
  · rw [jK_at' hi] at hx
    obtain rfl := Option.some.inj hx
    rw [← uD_kI]
    exact ed_ixT (ed_var rfl) (ed_var rfl) (j_at hi)
  · rw [ixs_at hi] at he
    obtain rfl := Option.some.inj he
    exact ed_var rfl
  refine do_setNc (en_lst ea_nil (by decide)) fun m0 => do_setNc (en_lst ea_nil (by decide)) fun r0 => ?_
  refine do_seq (fun Γ => ∃ x5 x8 x9 x10 x11 x12 x13 x14 x15 x16, Γ = Gv Gs ch b x5 m0 r0 (cN Gs) x8 x9 x10 x11 x12 x13 x14 x15 x16) ?_ ?_
  · refine do_forR (fun i Γ => ∃ x5 x8 x9 x10 x11 x12 x13 x14 x15 x16, Γ = Gv Gs ch b x5 m0 r0 i x8 x9 x10 x11 x12 x13 x14 x15 x16) (ei_rng1 (ea_1 (by rw [← lenJ]; exact ed_lenT (ed_var rfl))) (by omega)) ⟨_, _, _, _, _, _, _, _, _, _, rfl⟩ (fun i Γ' hi hv => ?_) fun Γ' hv => hv
    obtain ⟨x5, x8, x9, x10, x11, x12, x13, x14, x15, x16, rfl⟩ := hv
    have hci := h.lt i hi
    have hchl : i < ch.length := by rw [h.len]; exact hi
    have hvl : MH.Vld Gs (jAt Gs i) := MH.joint_at_vld hi
    have hsn : sAt Gs i (ch.getD i 0) < (gAt Gs (ch.getD i 0)).n := hvl.at hci
    have hjl : (jAt Gs i).length = Gs.length := hvl.len
    have g5 := J.g5
    have AL := L.ac i hi
    have hO := Y.ok _ (MH.gAt_mem hci)
    have eT : (world Gs b).T i (ch.getD i 0) = ((gAt Gs (ch.getD i 0)).row (sAt Gs i (ch.getD i 0))).map fun p => (num Gs ((jAt Gs i).set (ch.getD i 0) p.1) 0, p.2) := rfl
    have ea : (cvA Gs ch b)[i]? = some (acc b (MI.ixN (cN Gs)) ((world Gs b).T i (ch.getD i 0)) (unitR (cN Gs) i, 0)).1 := by
      unfold MI.cvA MG.matM
      rw [List.getElem?_map, List.getElem?_range hi]; rfl
    have eb : (cvB Gs ch b)[i]? = some [(gAt Gs (ch.getD i 0)).r (sAt Gs i (ch.getD i 0))] := by
      unfold MI.cvB
      rw [List.getElem?_map, List.getElem?_range hi]; rfl
    have hch : (iD ch)[i]? = some (.int (ch.getD i 0 : Int)) := iD_at hchl
    have hst : (iD (jAt Gs i))[ch.getD i 0]? = some (.int (sAt Gs i (ch.getD i 0) : Int)) := iD_at (by rw [hjl]; exact hci)
    have la : (cvA Gs ch b).length = cN Gs := S.lM
    have lb : (cvB Gs ch b).length = cN Gs := S.lb
    rw [eT] at AL ea
    have hrow : ∀ p ∈ (gAt Gs (ch.getD i 0)).row (sAt Gs i (ch.getD i 0)), MH.Vld Gs ((jAt Gs i).set (ch.getD i 0) p.1) := fun p hp => hvl.set hci ((hO.rows _ hsn).lt p hp)
    generalize hpos : ch.getD i 0 = pos at *
    generalize hstt : sAt Gs i pos = st at *
    refine do_setc (ed_ixT (ed_var rfl) (ed_var rfl) hch) ?_
    refine do_tgc (d := gD (gAt Gs pos)) (ed_ixT (ed_var rfl) (ed_var rfl) (at_map (f := gD) (g_at hci))) tg_pair ?_
    refine do_setc (ed_ixT (ed_ixT (ed_var rfl) (ed_var rfl) (j_at hi)) (ed_var rfl) hst) ?_
    refine do_setNc (ds := (List.replicate (cN Gs) (0 : Rat)).map Dt.rat) (by rw [← rep_rat]; exact en_rep (en_lst (ea_1 (ed_kr Z_ZERO_stationary.at_)) (by decide)).l (by rw [← lenJ]; exact ed_lenT (ed_var rfl)) (by omega)) fun p0 => ?_
    refine do_seq (· = Gv Gs ch b (.da (.int (i : Int))) m0 r0 i (.da (.int (pos : Int))) (.da (rtp (gAt Gs pos).rw)) (.da (.tup ((gAt Gs pos).mv.map rwD))) (.da (.int (st : Int))) (.ow p0 ((unitR (cN Gs) i).map Dt.rat)) x13 x14 x15 x16) (do_setAt (i := 12) (j := i) (d := .rat 1) rfl (ed_kr Z_ONE_stationary.at_) (ed_var rfl) (by rw [List.length_map, List.length_replicate]; exact hi) ?_) ?_
    · unfold MG.unitR
      rw [List.map_set]; rfl
    rintro _ rfl
    refine do_seq (fun Γ => ∃ x13 x14 x15 x16, Γ = Gv Gs ch b (.da (.int (i : Int))) m0 r0 i (.da (.int (pos : Int))) (.da (rtp (gAt Gs pos).rw)) (.da (.tup ((gAt Gs pos).mv.map rwD))) (.da (.int (st : Int))) (.ow p0 ((acc b (MI.ixN (cN Gs)) (((gAt Gs pos).row st).map fun p => (num Gs ((jAt Gs i).set pos p.1) 0, p.2)) (unitR (cN Gs) i, 0)).1.map Dt.rat)) x13 x14 x15 x16) ?_ ?_
    · refine do_for (fun j Γ => ∃ x13 x14 x15 x16, Γ = Gv Gs ch b (.da (.int (i : Int))) m0 r0 i (.da (.int (pos : Int))) (.da (rtp (gAt Gs pos).rw)) (.da (.tup ((gAt Gs pos).mv.map rwD))) (.da (.int (st : Int))) (.ow p0 ((acc b (MI.ixN (cN Gs)) ((((gAt Gs pos).row st).map fun p => (num Gs ((jAt Gs i).set pos p.1) 0, p.2)).take j) (unitR (cN Gs) i, 0)).1.map Dt.rat)) x13 x14 x15 x16) (ds := ((gAt Gs pos).row st).map pD) (ei_tup (ed_ixT (ed_var rfl) (ed_var rfl) (at_map (f := rwD) (row_at hO hsn)))) ⟨_, _, _, _, rfl⟩ (fun _ _ _ => trivial) (fun j d Γ' hd hv => ?_) fun Γ' hv => ?_
      · obtain ⟨x13, x14, x15, x16, rfl⟩ := hv
        obtain ⟨⟨t, pq⟩, hj, rfl⟩ := map_at hd
        have hv := hrow (t, pq) (List.mem_of_getElem? hj)
        have hc : num Gs ((jAt Gs i).set pos t) 0 < cN Gs := MH.num_lt_len hv
        have hj' : (((gAt Gs pos).row st).map fun p => (num Gs ((jAt Gs i).set pos p.1) 0, p.2))[j]? = some (num Gs ((jAt Gs i).set pos t) 0, pq) := by rw [List.getElem?_map, hj]; rfl
        obtain ⟨l1, l2⟩ := AL.p j _ pq hj'
        have hix : MI.ixN (cN Gs) (num Gs ((jAt Gs i).set pos t) 0) = some (num Gs ((jAt Gs i).set pos t) 0) := by unfold MI.ixN; rw [if_pos hc]
        obtain ⟨l3, l4⟩ := AL.s j _ pq _ hj' hix
        have alen := (MG.acc_spec b (MI.ixN (cN Gs)) (cN Gs) MI.ixN_lt ((((gAt Gs pos).row st).map fun p => (num Gs ((jAt Gs i).set pos p.1) 0, p.2)).take j) (unitR (cN Gs) i, 0) (MG.unitR_len _ i)).1
        have asn : acc b (MI.ixN (cN Gs)) ((((gAt Gs pos).row st).map fun p => (num Gs ((jAt Gs i).set pos p.1) 0, p.2)).take (j + 1)) (unitR (cN Gs) i, 0) = acc b (MI.ixN (cN Gs)) ((((gAt Gs pos).row st).map fun p => (num Gs ((jAt Gs i).set pos p.1) 0, p.2)).take j ++ [(num Gs ((jAt Gs i).set pos t) 0, pq)]) (unitR (cN Gs) i, 0) := by rw [List.take_succ, hj']; rfl
        rw [acc_snoc, hix] at asn
        rw [asn]
        have hixs := ixs_at hc
        generalize acc b (MI.ixN (cN Gs)) ((((gAt Gs pos).row st).map fun p => (num Gs ((jAt Gs i).set pos p.1) 0, p.2)).take j) (unitR (cN Gs) i, 0) = x at *
        refine ⟨_, tg_pair, ?_⟩
        refine do_setc (ed_jget (u := (jAt Gs i).set pos t) (ed_var rfl) (ed_call (ea_3 (ed_ixT (ed_var rfl) (ed_var rfl) (j_at hi)) (ed_var rfl) (ed_var rfl)) ⟨jAt Gs i, pos, t, rfl, by rw [hjl]; exact hci, by omega, rfl⟩) hv hixs) ?_
        generalize num Gs ((jAt Gs i).set pos t) 0 = c at *
        refine do_setAt (i := 12) (j := c) rfl (ed_sub (ed_ixL (el_var rfl) (ed_var rfl) (rat_at (by omega))) (ed_mul (ed_var rfl) (ed_var rfl) L.lb l1 l2) l3 l2 l4) (ed_var rfl) (by rw [List.length_map]; omega) ?_
        show ∃ x13 x14 x15 x16, (_ : List Sl) = Gv Gs ch b (.da (.int (i : Int))) m0 r0 i (.da (.int (pos : Int))) (.da (rtp (gAt Gs pos).rw)) (.da (.tup ((gAt Gs pos).mv.map rwD))) (.da (.int (st : Int))) (.ow p0 ((x.1.set c (gt x.1 c - b * pq)).map Dt.rat)) x13 x14 x15 x16
        rw [List.map_set]
        exact ⟨_, _, _, _, rfl⟩
      · have e : (((gAt Gs pos).row st).map pD).length = (((gAt Gs pos).row st).map fun p => (num Gs ((jAt Gs i).set pos p.1) 0, p.2)).length := by rw [List.length_map, List.length_map]
        rw [e, List.take_length] at hv
        exact hv
    · rintro _ ⟨y13, y14, y15, y16, rfl⟩
      generalize acc b (MI.ixN (cN Gs)) (((gAt Gs pos).row st).map fun p => (num Gs ((jAt Gs i).set pos p.1) 0, p.2)) (unitR (cN Gs) i, 0) = x at *
      refine do_seq (· = [.da (gsD Gs), .da (uD ch), .da (.rat b), .da (.tup ((joints Gs).map uD)), .da (jD Gs (ixs (cN Gs))), .da (.int (i : Int)), .ow m0 (((cvA Gs ch b).take (i + 1)).map rtp), .ow r0 (((cvB Gs ch b).take i).map rtp), .da (.int (pos : Int)), .da (rtp (gAt Gs pos).rw), .da (.tup ((gAt Gs pos).mv.map rwD)), .da (.int (st : Int)), .ow p0 (x.1.map Dt.rat), y13, y14, y15, y16]) (do_append (i := 6) rfl (ed_tupL (el_var rfl)) (by rw [List.length_map, List.length_take]; omega) ?_) ?_
      · rw [List.take_succ, ea, List.map_append]; rfl
      · rintro _ rfl
        refine do_append (i := 7) rfl (ed_tup (ea_1 (ed_ixT (ed_var rfl) (ed_var rfl) (rat_at hsn))) (by show 1 ≤ sizeLine; decide)) (by rw [List.length_map, List.length_take]; omega) ⟨.da (.int (i : Int)), .da (.int (pos : Int)), .da (rtp (gAt Gs pos).rw), .da (.tup ((gAt Gs pos).mv.map rwD)), .da (.int (st : Int)), .ow p0 (x.1.map Dt.rat), y13, y14, y15, y16, ?_⟩
        show _ = Gv Gs ch b _ m0 r0 (i + 1) _ _ _ _ _ _ _ _ _
        unfold Gv
        rw [List.take_succ (l := cvB Gs ch b), eb, List.map_append]; rfl
  · rintro _ ⟨x5, x8, x9, x10, x11, x12, x13, x14, x15, x16, rfl⟩
    have tA : (cvA Gs ch b).take (cN Gs) = cvA Gs ch b := List.take_of_length_le (by rw [S.lM]; exact Nat.le_refl _)
    have tB : (cvB Gs ch b).take (cN Gs) = cvB Gs ch b := List.take_of_length_le (by rw [S.lb]; exact Nat.le_refl _)
    have lS : (cvS Gs ch b).length = cN Gs := ME.sol_len S
    refine do_setc (d := mD (cvS Gs ch b)) (ed_ixT (i := 1) (ed_call (ea_2 (ed_tupL (el_var rfl)) (ed_tupL (el_var rfl))) ⟨cN Gs, 1, cvA Gs ch b, cvB Gs ch b, by rw [tA, tB]; rfl, S, L.ls, n9, by omega, rfl⟩) ed_int rfl) ?_
    refine do_ret (ed_tupL (EvN.l (en_lcS (es := (cvM Gs ch b).map Dt.rat) (ei_tup (ed_var rfl)) trivial (by rw [List.length_map]; omega) (by unfold MI.cvM; simp) fun i d e hd he => ?_))) rfl
    obtain ⟨r, hr', rfl⟩ := map_at hd
    have hi : i < cN Gs := by have := get_le hr'; omega
    unfold MI.cvM at he
    rw [List.map_map, List.getElem?_map, hr'] at he
    obtain rfl := Option.some.inj he
    have hrl : r.length = 1 := by
      have := ME.sol_rowlen S hi
      have e : (cvS Gs ch b).getD i [] = r := by rw [List.getD_eq_getElem?_getD, hr']; rfl
      unfold MI.cvS at e
      rw [e] at this; exact this
    exact ⟨_, tgc_name (by simp), ed_ixT (i := 0) (ed_var rfl) ed_int (rat_at (by omega))⟩
end W11
set_option Elab.async false
set_option linter.all false
set_option maxRecDepth 100000
set_option maxHeartbeats 8000000
/-! W12: one play, one improvement -/
namespace W12
open PySem PySem.Spec PyProof.Rows L2 WA WB WT WC ML W1 W2 WD WE WF WG WH WK W3 W4 W5 W6 W7 W8 W9 W10 W11
variable {P : Program} {w : World} {K : PySem.W.Frag} {mg : Str → Option Value} {base : Heap} {C : Addr} {k : Nat} {f : Addr} {fd : FuncData}
open ME (gt)
open MA (ex)
open MG (Gm Rw)
open MH (joints gAt jAt sAt world num Co)
open MI (cN cvM Cho bestTo betterC impM)
structure PlL (Gs : List Gm) (b : Rat) (W : List Rat) (kk i : Nat) : Prop where
  lb : Lim b
  e : ExL ((world Gs b).T kk i) (gt W)
  r : Lim ((world Gs b).ρ kk i)
  be : Lim (b * ex ((world Gs b).T kk i) (gt W))
  pl : Lim ((world Gs b).pl (gt W) kk i)
def R_played (ds : List Dt) (d : Dt) : Prop := ∃ (Gs : List Gm) (b : Rat) (W : List Rat) (kk i : Nat), ds = [gsD Gs, uD (jAt Gs kk), .int (i : Int), jD Gs (W.map Dt.rat), .rat b] ∧ Co Gs b ∧ W.length = cN Gs ∧ kk < cN Gs ∧ i < Gs.length ∧ Gs.length ≤ 1000 ∧ PlL Gs b W kk i ∧ d = .rat ((world Gs b).pl (gt W) kk i)
theorem ok_played (F : Fun K "played" "played" s_played f fd) (A : Ops P w K mg base C k) (A_with_state : Fd P w K mg base C "with_state" ["joint", "position", "state"] k R_with) (Z_ZERO_stationary : Kr K mg "ZERO_stationary" 0) : FnOk P w K mg base CX0 (k + 1) f fd ["games", "joint", "position", "worths", "discount"] (SpD K C R_played) := by
  have A_multiply := A.mul
  have A_add := A.add
  refine ok_do F sc_played (fun ds d ⟨a, b, c, e, g, h, _⟩ => by rw [h]; rfl) fun cdv A outer s H E hr => ⟨_,
      (pss_cons (ps_asg (pe_ix ix_tup (pv 0) (pv 2) (fun _ _ => rfl)) (pg_pair (K := K) rfl rfl (pgs_cons (pg_name (i := 5) sc_played.nd rfl (.inl rfl) (.inl rfl)) (pgs_cons (pg_name (i := 6) sc_played.nd rfl (.inl rfl) (.inl rfl)) pgs_nil))))
      (pss_cons (ps_set (i := 7) sc_played.nd rfl (.inl rfl) (pe_ix ix_tup (pv 1) (pv 2) (fun _ _ => rfl)))
      (pss_cons (ps_set (i := 8) sc_played.nd rfl (.inl rfl) (pe_glob (v := .ref Z_ZERO_stationary.a) rfl Z_ZERO_stationary.g rfl))
      (pss_cons (ps_for PassesOwn.never rfl (pi_tup (pe_ix ix_tup (pv 6) (pv 7) (fun _ _ => rfl))) (pg_pair (K := K) rfl rfl (pgs_cons (pg_name (i := 9) sc_played.nd rfl (.inl rfl) (.inl rfl)) (pgs_cons (pg_name (i := 10) sc_played.nd rfl (.inl rfl) (.inl rfl)) pgs_nil)))
      (pss_cons (ps_set (i := 11) sc_played.nd rfl (.inl rfl) (pe_dget (hu_of hr) (pv 3) (pe_call A_with_state.ok hr (by rfl) A_with_state.g A_with_state.kp A_with_state.b .nil pass0 (pa_cons (pv 1) (pa_cons (pv 2) (pa_cons (pv 9) pa_nil)))) (fun _ _ => rfl)))
        (pss_one (ps_set (i := 8) sc_played.nd rfl (.inl rfl) (pe_call A_add.ok hr (by rfl) A_add.g A_add.kp A_add.b .nil pass0 (pa_cons (pv 8) (pa_cons (pe_call A_multiply.ok hr (by rfl) A_multiply.g A_multiply.kp A_multiply.b .nil pass0 (pa_cons (pv 10) (pa_cons (pv 11) pa_nil))) pa_nil)))))))
      (pss_one (ps_ret (pe_call A_add.ok hr (by rfl) A_add.g A_add.kp A_add.b .nil pass0 (pa_cons (pe_ix ix_tup (pv 5) (pv 7) (fun _ _ => rfl)) (pa_cons (pe_call A_multiply.ok hr (by rfl) A_multiply.g A_multiply.kp A_multiply.b .nil pass0 (pa_cons (pv 4) (pa_cons (pv 8) pa_nil))) pa_nil))))))))), ?_⟩
  rintro _ _ ⟨Gs, b, W, kk, i, rfl, Y, lW, hk, hi, g5, L, rfl⟩
  have hvl : MH.Vld Gs (jAt Gs kk) := MH.joint_at_vld hk
  have hsn : sAt Gs kk i < (gAt Gs i).n := hvl.at hi
  have hjl : (jAt Gs kk).length = Gs.length := hvl.len
  have hO := Y.ok _ (MH.gAt_mem hi)
  have hst : (iD (jAt Gs kk))[i]? = some (.int (sAt Gs kk i : Int)) := iD_at (by rw [hjl]; exact hi)
  have hrow : ∀ p ∈ (gAt Gs i).row (sAt Gs kk i), MH.Vld Gs ((jAt Gs kk).set i p.1) := fun p hp => hvl.set hi ((hO.rows _ hsn).lt p hp)
  have eT : (world Gs b).T kk i = ((gAt Gs i).row (sAt Gs kk i)).map fun p => (num Gs ((jAt Gs kk).set i p.1) 0, p.2) := rfl
  have Le := L.e
  have Lbe := L.be
  have Lpl := L.pl
  have Lr : Lim ((gAt Gs i).r (sAt Gs kk i)) := L.r
  have epl : (world Gs b).pl (gt W) kk i = (gAt Gs i).r (sAt Gs kk i) + b * ex ((world Gs b).T kk i) (gt W) := rfl
  rw [epl] at Lpl ⊢
  rw [eT] at Le Lbe Lpl ⊢
  generalize hstt : sAt Gs kk i = st at *
  refine do_tgc (d := gD (gAt Gs i)) (ed_ixT (ed_var rfl) (ed_var rfl) (at_map (f := gD) (g_at hi))) tg_pair ?_
  refine do_setc (ed_ixT (ed_var rfl) (ed_var rfl) hst) ?_
  refine do_setc (d := .rat 0) (ed_kr Z_ZERO_stationary.at_) ?_
  refine do_seq (fun Γ => ∃ x9 x10 x11, Γ = [.da (gsD Gs), .da (uD (jAt Gs kk)), .da (.int (i : Int)), .da (jD Gs (W.map Dt.rat)), .da (.rat b), .da (rtp (gAt Gs i).rw), .da (.tup ((gAt Gs i).mv.map rwD)), .da (.int (st : Int)), .da (.rat (ex (((gAt Gs i).row st).map fun p => (num Gs ((jAt Gs kk).set i p.1) 0, p.2)) (gt W))), x9, x10, x11]) ?_ ?_
  · refine do_for (fun j Γ => ∃ x9 x10 x11, Γ = [.da (gsD Gs), .da (uD (jAt Gs kk)), .da (.int (i : Int)), .da (jD Gs (W.map Dt.rat)), .da (.rat b), .da (rtp (gAt Gs i).rw), .da (.tup ((gAt Gs i).mv.map rwD)), .da (.int (st : Int)), .da (.rat (ex ((((gAt Gs i).row st).map fun p => (num Gs ((jAt Gs kk).set i p.1) 0, p.2)).take j) (gt W))), x9, x10, x11]) (ds := ((gAt Gs i).row st).map pD) (ei_tup (ed_ixT (ed_var rfl) (ed_var rfl) (at_map (f := rwD) (row_at hO hsn)))) ⟨_, _, _, rfl⟩ (fun _ _ _ => trivial) (fun j d Γ' hd hv => ?_) fun Γ' hv => ?_
    · obtain ⟨x9, x10, x11, rfl⟩ := hv
      obtain ⟨⟨t, q⟩, hj, rfl⟩ := map_at hd
      have hjl' := get_le hj
      have hv := hrow (t, q) (List.mem_of_getElem? hj)
      have hc : num Gs ((jAt Gs kk).set i t) 0 < cN Gs := MH.num_lt_len hv
      have hj' : (((gAt Gs i).row st).map fun p => (num Gs ((jAt Gs kk).set i p.1) 0, p.2))[j]? = some (num Gs ((jAt Gs kk).set i t) 0, q) := by rw [List.getElem?_map, hj]; rfl
      obtain ⟨l1, l2, l3⟩ := Le.p j _ q hj'
      have s1 := Le.s j (by rw [List.length_map]; omega)
      have s2 := Le.s (j + 1) (by rw [List.length_map]; omega)
      have tk : (((gAt Gs i).row st).map fun p => (num Gs ((jAt Gs kk).set i p.1) 0, p.2)).take (j + 1) = (((gAt Gs i).row st).map fun p => (num Gs ((jAt Gs kk).set i p.1) 0, p.2)).take j ++ [(num Gs ((jAt Gs kk).set i t) 0, q)] := by rw [List.take_succ, hj']; rfl
      rw [tk, ex_snoc] at s2
      refine ⟨_, tg_pair, ?_⟩
      refine do_setc (ed_jget (u := (jAt Gs kk).set i t) (ed_var rfl) (ed_call (ea_3 (ed_var rfl) (ed_var rfl) (ed_var rfl)) ⟨jAt Gs kk, i, t, rfl, by rw [hjl]; exact hi, by omega, rfl⟩) hv (rat_at (by rw [lW]; exact hc))) ?_
      refine do_set (ed_add (ed_var rfl) (ed_mul (ed_var rfl) (ed_var rfl) l1 l2 l3) s1 l3 s2) ?_
      rw [tk, ex_snoc]
      exact ⟨_, _, _, rfl⟩
    · have e : (((gAt Gs i).row st).map pD).length = (((gAt Gs i).row st).map fun p => (num Gs ((jAt Gs kk).set i p.1) 0, p.2)).length := by rw [List.length_map, List.length_map]
      rw [e, List.take_length] at hv
      exact hv
  · rintro _ ⟨x9, x10, x11, rfl⟩
    have se := Le.s _ (Nat.le_refl _)
    rw [List.take_length] at se
    exact do_ret (ed_add (ed_ixT (ed_var rfl) (ed_var rfl) (rat_at hsn)) (ed_mul (ed_var rfl) (ed_var rfl) L.lb se Lbe) Lr Lbe Lpl) rfl
def R_byJ (ds : List Dt) (d : Dt) : Prop := ∃ (Gs : List Gm) (W : List Rat), ds = [gsD Gs, rtp W] ∧ JnL Gs ∧ W.length = cN Gs ∧ d = jD Gs (W.map Dt.rat)
theorem ok_byJ (F : Fun K "by_joint" "by_joint" s_by_joint f fd) (A_joint_states : Fd P w K mg base C "joint_states" ["games"] k R_joints) (m_len : mg "len" = none) (m_range : mg "range" = none) : FnOk P w K mg base CX0 (k + 1) f fd ["games", "values"] (SpD K C R_byJ) := by
  refine ok_do F sc_by_joint (fun ds d ⟨a, b, h, _⟩ => by rw [h]; rfl) fun cdv A outer s H E hr => ⟨_,
      (pss_cons (ps_set (i := 2) sc_by_joint.nd rfl (.inr rfl) (pe_call A_joint_states.ok hr (by rfl) A_joint_states.g A_joint_states.kp A_joint_states.b .nil pass0 (pa_cons (pv 0) pa_nil)))
      (pss_one (ps_ret (pe_dcT (own := [("k", 3)]) (hu_of hr) rfl sc_by_joint.nd (pi_range1 (by rfl) m_range (pa_cons (pe_callB call_len_seq (by rfl) m_len PySem.boot_len (pa_cons (pv 2) pa_nil)) pa_nil)) (blkOk_by (N := N_by_joint) (sc := defScope s_by_joint) (by decide +kernel)) (fun _ _ _ _ _ => (pg_name (i := 3) sc_by_joint.nd rfl (.inl rfl))) (fun _ _ _ _ _ => pts_nil) (fun _ _ _ _ _ => (pe_ix (kx_tup (K := K) rfl) (pv 2) (pv 3) (fun _ _ => rfl))) (fun _ _ _ _ _ => (pe_ix (kx_tup (K := K) rfl) (pv 1) (pv 3) (fun _ _ => rfl))))))), ?_⟩
  rintro _ _ ⟨Gs, W, rfl, J, lW, rfl⟩
  have n9 := J.n9
  have lenJ : (((joints Gs).map uD).length : Int) = (cN Gs : Int) := by rw [List.length_map]; rfl
  refine do_setc (ed_call (ea_1 (ed_var rfl)) ⟨Gs, rfl, J.jl, J.ms, J.g5, rfl⟩) ?_
  refine do_ret (ed_dcT (n := cN Gs) (f := fun i => (i : Int)) (ei_rng1 (ea_1 (by rw [← lenJ]; exact ed_lenT (ed_var rfl))) (by omega)) (by omega) (jK_len Gs) (by rw [List.length_map]; exact lW) (jK_nd Gs) fun i x e hi hx he => ⟨?_, ?_⟩) rfl
  · rw [jK_at' hi] at hx
    obtain rfl := Option.some.inj hx
    rw [← uD_kI]
    exact ed_ixT (ed_var rfl) (ed_var rfl) (j_at hi)
  · exact ed_ixT (ed_var rfl) (ed_var rfl) he
/-! ### the better choice -/
structure BtL (Gs : List Gm) (b : Rat) (W : List Rat) (kk : Nat) : Prop where
  p : ∀ i, i < Gs.length → PlL Gs b W kk i
def R_better (ds : List Dt) (d : Dt) : Prop := ∃ (Gs : List Gm) (b : Rat) (W : List Rat) (kk c : Nat), ds = [gsD Gs, uD (jAt Gs kk), .int (c : Int), jD Gs (W.map Dt.rat), .rat b] ∧ Co Gs b ∧ W.length = cN Gs ∧ kk < cN Gs ∧ c < Gs.length ∧ Gs.length ≤ 1000 ∧ BtL Gs b W kk ∧ d = .int (betterC ((world Gs b).pl (gt W) kk) Gs.length c : Int)
theorem ok_better (F : Fun K "better_choice" "better_choice" s_better_choice f fd) (A : Ops P w K mg base C k) (A_played : Fd P w K mg base C "played" ["games", "joint", "position", "worths", "discount"] k R_played) (m_len : mg "len" = none) (m_range : mg "range" = none) :
    FnOk P w K mg base CX0 (k + 1) f fd ["games", "joint", "choice", "worths", "discount"] (SpD K C R_better) := by
  have A_compare := A.cmp
  refine ok_do F sc_better_choice (fun ds d ⟨a, b, c, e, g, h, _⟩ => by rw [h]; rfl) fun cdv A outer s H E hr => ⟨_,
      (pss_cons (ps_setLc (i := 5) (own := [("at", 6)]) rfl sc_better_choice.nd rfl rfl (sw_true rfl rfl rfl (by decide +kernel)) (pi_range1 (by rfl) m_range (pa_cons (pe_callB call_len_seq (by rfl) m_len PySem.boot_len (pa_cons (pv 0) pa_nil)) pa_nil)) (blkOk_by (N := N_better_choice) (sc := defScope s_better_choice) (by decide +kernel)) (fun _ _ _ _ _ => (pg_name (i := 6) sc_better_choice.nd rfl (.inl rfl))) (fun _ _ _ _ _ => pts_nil) (fun _ _ _ _ _ => (pe_call A_played.ok hr (by rfl) A_played.g A_played.kp A_played.b .nil pass0 (pa_cons (pv 0) (pa_cons (pv 1) (pa_cons (pv 6) (pa_cons (pv 3) (pa_cons (pv 4) pa_nil))))))))
      (pss_cons (ps_set (i := 7) sc_better_choice.nd rfl (.inl rfl) pe_int)
      (pss_cons (ps_for PassesOwn.never rfl (pi_range1 (by rfl) m_range (pa_cons (pe_callB call_len_seq (by rfl) m_len PySem.boot_len (pa_cons (pv 0) pa_nil)) pa_nil)) (pg_name (i := 6) sc_better_choice.nd rfl (.inl rfl))
      (pss_one (ps_if (pt_cmpR op_gt (pe_call A_compare.ok hr (by rfl) A_compare.g A_compare.kp A_compare.b .nil pass0 (pa_cons (pe_ix ix_list (pv 5) (pv 6) (fun _ _ => rfl)) (pa_cons (pe_ix ix_list (pv 5) (pv 7) (fun _ _ => rfl)) pa_nil))) pe_int (nomark _))
        (pss_one (ps_set (i := 7) sc_better_choice.nd rfl (.inl rfl) (pv 6)))
        pss_nil)))
      (pss_cons (ps_if (pt_cmpR op_gt (pe_call A_compare.ok hr (by rfl) A_compare.g A_compare.kp A_compare.b .nil pass0 (pa_cons (pe_ix ix_list (pv 5) (pv 7) (fun _ _ => rfl)) (pa_cons (pe_ix ix_list (pv 5) (pv 2) (fun _ _ => rfl)) pa_nil))) pe_int (nomark _))
      (pss_one (ps_ret (pv 7)))
      pss_nil)
      (pss_one (ps_ret (pv 2))))))), ?_⟩
  rintro _ _ ⟨Gs, b, W, kk, c, rfl, Y, lW, hk, hc, g5, L, rfl⟩
  have h0 := Y.ne
  have lenG : ((Gs.map gD).length : Int) = (Gs.length : Int) := by rw [List.length_map]
  have Lp : ∀ i, i < Gs.length → Lim ((world Gs b).pl (gt W) kk i) := fun i hi => (L.p i hi).pl
  refine do_setNc (ds := ((List.range Gs.length).map fun i => (world Gs b).pl (gt W) kk i).map Dt.rat) (en_lcR (f := fun i => (i : Int)) (n := Gs.length) (ei_rng1 (ea_1 (by rw [← lenG]; exact ed_lenT (ed_var rfl))) (by omega)) (by omega) (by simp) fun i e hi he => ?_) fun p => ?_
  · rw [List.map_map, List.getElem?_map, List.getElem?_range hi] at he
    obtain rfl := Option.some.inj he
    exact ed_call (ea_5 (ed_var rfl) (ed_var rfl) (ed_var rfl) (ed_var rfl) (ed_var rfl)) ⟨Gs, b, W, kk, i, rfl, Y, lW, hk, hi, g5, L.p i hi, rfl⟩
  generalize hpl : (world Gs b).pl (gt W) kk = pl at *
  have gat : ∀ {i : Nat}, i < Gs.length → (((List.range Gs.length).map fun i => pl i).map Dt.rat)[i]? = some (.rat (pl i)) := fun {i} hi => by
    rw [List.map_map, List.getElem?_map, List.getElem?_range hi]; rfl
  have bt : ∀ i, bestTo pl i < Gs.length ∨ Gs.length < i := fun i => by
    by_cases hi : i ≤ Gs.length
    · rcases (MI.bestTo_spec pl i).1 with h | h
      · left; rw [h]; exact h0
      · left; omega
    · right; omega
  refine do_setc ed_int ?_
  refine do_seq (fun Γ => ∃ x6, Γ = [.da (gsD Gs), .da (uD (jAt Gs kk)), .da (.int (c : Int)), .da (jD Gs (W.map Dt.rat)), .da (.rat b), .ow p (((List.range Gs.length).map fun i => pl i).map Dt.rat), x6, .da (.int (bestTo pl Gs.length : Int))]) ?_ ?_
  · refine do_forR (fun i Γ => ∃ x6, Γ = [.da (gsD Gs), .da (uD (jAt Gs kk)), .da (.int (c : Int)), .da (jD Gs (W.map Dt.rat)), .da (.rat b), .ow p (((List.range Gs.length).map fun i => pl i).map Dt.rat), x6, .da (.int (bestTo pl i : Int))]) (ei_rng1 (ea_1 (by rw [← lenG]; exact ed_lenT (ed_var rfl))) (by omega)) ⟨_, rfl⟩ (fun i Γ' hi hv => ?_) fun Γ' hv => hv
    obtain ⟨x6, rfl⟩ := hv
    have hb : bestTo pl i < Gs.length := (bt i).resolve_right (by omega)
    refine do_if (b := decide (pl (bestTo pl i) < pl i)) ?_ (fun e => ?_) fun e => ?_
    · rw [← cmp_pos]
      exact et_test (ed_op (ed_cmp (ed_ixL (el_var rfl) (ed_var rfl) (gat hi)) (ed_ixL (el_var rfl) (ed_var rfl) (gat hb)) (Lp i hi) (Lp _ hb)) ed_int rd_B0)
    · refine do_set (ed_var rfl) ?_
      have : bestTo pl (i + 1) = i := by unfold MI.bestTo; rw [if_pos (of_decide_eq_true e)]
      rw [this]
      exact ⟨_, rfl⟩
    · refine do_next ?_
      have : bestTo pl (i + 1) = bestTo pl i := by
        conv => lhs; unfold MI.bestTo
        rw [if_neg (of_decide_eq_false e)]
      rw [this]
      exact ⟨_, rfl⟩
  · rintro _ ⟨x6, rfl⟩
    have hb : bestTo pl Gs.length < Gs.length := (bt Gs.length).resolve_right (by omega)
    refine do_seq (fun Γ => ¬ pl c < pl (bestTo pl Gs.length) ∧ Γ = [.da (gsD Gs), .da (uD (jAt Gs kk)), .da (.int (c : Int)), .da (jD Gs (W.map Dt.rat)), .da (.rat b), .ow p (((List.range Gs.length).map fun i => pl i).map Dt.rat), x6, .da (.int (bestTo pl Gs.length : Int))]) (do_if (b := decide (pl c < pl (bestTo pl Gs.length))) ?_ (fun e => ?_) fun e => ?_) ?_
    · rw [← cmp_pos]
      exact et_test (ed_op (ed_cmp (ed_ixL (el_var rfl) (ed_var rfl) (gat hb)) (ed_ixL (el_var rfl) (ed_var rfl) (gat hc)) (Lp _ hb) (Lp c hc)) ed_int rd_B0)
    · refine do_ret (ed_var rfl) ?_
      unfold MI.betterC
      rw [if_pos (of_decide_eq_true e)]
    · exact do_next ⟨of_decide_eq_false e, rfl⟩
    · rintro _ ⟨hn, rfl⟩
      refine do_ret (ed_var rfl) ?_
      unfold MI.betterC
      rw [if_neg hn]
/-! ### improved -/
structure ImL (Gs : List Gm) (ch : List Nat) (b : Rat) : Prop where
  cc : CcL Gs ch b
  bt : ∀ kk, kk < cN Gs → BtL Gs b (cvM Gs ch b) kk
def R_improved (ds : List Dt) (d : Dt) : Prop := ∃ (Gs : List Gm) (ch : List Nat) (b : Rat), ds = [gsD Gs, uD ch, .rat b] ∧ Co Gs b ∧ Cho Gs ch ∧ ImL Gs ch b ∧ d = uD (impM Gs ch b)
theorem ok_improved (F : Fun K "improved" "improved" s_improved f fd) (A_by_joint : Fd P w K mg base C "by_joint" ["games", "values"] k R_byJ) (A_choice_values : Fd P w K mg base C "choice_values" ["games", "choices", "discount"] k R_cv) (A_joint_states : Fd P w K mg base C "joint_states" ["games"] k R_joints)
    (A_better_choice : Fd P w K mg base C "better_choice" ["games", "joint", "choice", "worths", "discount"] k R_better) (m_len : mg "len" = none) (m_range : mg "range" = none) (m_tuple : mg "tuple" = none) : FnOk P w K mg base CX0 (k + 1) f fd ["games", "choices", "discount"] (SpD K C R_improved) := by
  refine ok_do F sc_improved (fun ds d ⟨a, b, c, h, _⟩ => by rw [h]; rfl) fun cdv A outer s H E hr => ⟨_,
      (pss_cons (ps_set (i := 3) sc_improved.nd rfl (.inl rfl) (pe_call A_by_joint.ok hr (by rfl) A_by_joint.g A_by_joint.kp A_by_joint.b .nil pass0 (pa_cons (pv 0) (pa_cons (pe_call A_choice_values.ok hr (by rfl) A_choice_values.g A_choice_values.kp A_choice_values.b .nil pass0 (pa_cons (pv 0) (pa_cons (pv 1) (pa_cons (pv 2) pa_nil)))) pa_nil))))
      (pss_cons (ps_set (i := 4) sc_improved.nd rfl (.inl rfl) (pe_call A_joint_states.ok hr (by rfl) A_joint_states.g A_joint_states.kp A_joint_states.b .nil pass0 (pa_cons (pv 0) pa_nil)))
      (pss_cons (ps_set (i := 5) sc_improved.nd rfl (.inl rfl) (pe_lst pa_nil))
      (pss_cons (ps_for PassesOwn.never rfl (pi_range1 (by rfl) m_range (pa_cons (pe_callB call_len_seq (by rfl) m_len PySem.boot_len (pa_cons (pv 4) pa_nil)) pa_nil)) (pg_name (i := 6) sc_improved.nd rfl (.inl rfl))
      (pss_one (ps_expr (pe_bm PySem.F.plainAttrs_list PySem.F.slot_list_append PySem.F.type_list_append mt_append (pv 5) (pa_cons (pe_call A_better_choice.ok hr (by rfl) A_better_choice.g A_better_choice.kp A_better_choice.b .nil pass0 (pa_cons (pv 0) (pa_cons (pe_ix ix_tup (pv 4) (pv 6) (fun _ _ => rfl)) (pa_cons (pe_ix ix_tup (pv 1) (pv 6) (fun _ _ => rfl)) (pa_cons (pv 3) (pa_cons (pv 2) pa_nil)))))) pa_nil)))))
      (pss_one (ps_ret (pe_callTy call_tuple_of (by rfl) m_tuple boot_tuple (pa_cons (pv 5) pa_nil)))))))), ?_⟩
  rintro _ _ ⟨Gs, ch, b, rfl, Y, h, L, rfl⟩
  have J := L.cc.j
  have n9 := J.n9
  have lenJ : (((joints Gs).map uD).length : Int) = (cN Gs : Int) := by rw [List.length_map]; rfl
  have lW : (cvM Gs ch b).length = cN Gs := MI.cvM_len Y h
  refine do_setc (ed_call (ea_2 (ed_var rfl) (ed_call (ea_3 (ed_var rfl) (ed_var rfl) (ed_var rfl)) ⟨Gs, ch, b, rfl, Y, h, L.cc, rfl⟩)) ⟨Gs, cvM Gs ch b, rfl, J, lW, rfl⟩) ?_
  refine do_setc (ed_call (ea_1 (ed_var rfl)) ⟨Gs, rfl, J.jl, J.ms, J.g5, rfl⟩) ?_
  refine do_setNc (en_lst ea_nil (by decide)) fun p => ?_
  have li : (impM Gs ch b).length = cN Gs := (MI.imp_cho Y h).len
  refine do_seq (fun Γ => ∃ x6, Γ = [.da (gsD Gs), .da (uD ch), .da (.rat b), .da (jD Gs ((cvM Gs ch b).map Dt.rat)), .da (.tup ((joints Gs).map uD)), .ow p (iD (impM Gs ch b)), x6]) ?_ ?_
  · refine do_forR (fun i Γ => ∃ x6, Γ = [.da (gsD Gs), .da (uD ch), .da (.rat b), .da (jD Gs ((cvM Gs ch b).map Dt.rat)), .da (.tup ((joints Gs).map uD)), .ow p (iD ((impM Gs ch b).take i)), x6]) (ei_rng1 (ea_1 (by rw [← lenJ]; exact ed_lenT (ed_var rfl))) (by omega)) ⟨_, rfl⟩ (fun i Γ' hi hv => ?_) fun Γ' hv => ?_
    · obtain ⟨x6, rfl⟩ := hv
      have hchl : i < ch.length := by rw [h.len]; exact hi
      have ei : (impM Gs ch b)[i]? = some (betterC ((world Gs b).pl (gt (cvM Gs ch b)) i) Gs.length (ch.getD i 0)) := by
        rw [ME.getD_get (d := 0) (by omega), MI.imp_at hi]
      refine do_append (i := 5) rfl (ed_call (ea_5 (ed_var rfl) (ed_ixT (ed_var rfl) (ed_var rfl) (j_at hi)) (ed_ixT (ed_var rfl) (ed_var rfl) (iD_at hchl)) (ed_var rfl) (ed_var rfl)) ⟨Gs, b, cvM Gs ch b, i, ch.getD i 0, rfl, Y, lW, hi, h.lt i hi, J.g5, L.bt i hi, rfl⟩) (by rw [iD_len, List.length_take]; omega) ⟨.da (.int (i : Int)), ?_⟩
      rw [List.take_succ, ei]
      show (_ : List Sl) = [.da (gsD Gs), .da (uD ch), .da (.rat b), .da (jD Gs ((cvM Gs ch b).map Dt.rat)), .da (.tup ((joints Gs).map uD)), .ow p (iD ((impM Gs ch b).take i ++ [betterC ((world Gs b).pl (gt (cvM Gs ch b)) i) Gs.length (ch.getD i 0)])), _]
      rw [iD_app]; rfl
    · obtain ⟨x6, rfl⟩ := hv
      rw [List.take_of_length_le (by omega)]
      exact ⟨_, rfl⟩
  · rintro _ ⟨x6, rfl⟩
    exact do_ret (ed_tupL (el_var rfl)) rfl
end W12
set_option Elab.async false
set_option linter.all false
set_option maxRecDepth 100000
set_option maxHeartbeats 8000000
set_option exponentiation.threshold 100000
/-! W13: the law's small defs -/
namespace W13
open PySem PySem.Spec PyProof.Rows L2 WA WB WT WC ML W1 W2 WD WE WF WG WH WK W3 W4 W5 W6
variable {P : Program} {w : World} {K : PySem.W.Frag} {mg : Str → Option Value} {base : Heap} {C : Addr} {k : Nat} {f : Addr} {fd : FuncData}
open ME (gt)
/-! ### operations -/
theorem cdiv_small {i j : Int} (hj : j ≠ 0) (h : j.natAbs < 2 ^ 9000) : CDivC i j := by
  refine ⟨hj, ?_⟩
  show (decide ((if j == 0 then 0 else j.natAbs.log2 / 30 + 1) > 300) && decide ((if i == 0 then 0 else i.natAbs.log2 / 30 + 1) > (if j == 0 then 0 else j.natAbs.log2 / 30 + 1) + 150)) = false
  rw [Bool.and_eq_false_iff]
  refine .inl (decide_eq_false ?_)
  rw [if_neg (fun z => hj (by simpa using z))]
  have h4 : j.natAbs.log2 < 9000 := (Nat.log2_lt (by omega)).mpr h
  omega
theorem rd_mulx {i j : Int} (h : CMulX i j) : RD K C (rI CMulX fun i j => .int (i * j)) (.int i) (.int j) (.int (i * j)) := rd_I h
theorem rd_mod {i j : Int} (h : 0 < j) : RD K C (rI (fun _ j => 0 < j) fun i j => .int (i % j)) (.int i) (.int j) (.int (i % j)) := rd_I h
theorem rd_pow {i j : Int} (h : CPow i j) : RD K C (rI CPow fun i j => .int (i ^ j.toNat)) (.int i) (.int j) (.int (i ^ j.toNat)) := rd_I h
theorem fdiv_nat (a b : Nat) : (a : Int).fdiv (b : Int) = ((a / b : Nat) : Int) := by
  rw [Int.fdiv_eq_ediv_of_nonneg _ (by omega), Int.natCast_ediv]
section
variable {Γ : List Sl} {ta tb : TE}
theorem ed_modN {a b : Nat} (h1 : EvD K C ta Γ (.int (a : Int))) (h2 : EvD K C tb Γ (.int (b : Int))) (hb : 0 < b) : EvD K C (tOp (rI (fun _ j => 0 < j) fun i j => .int (i % j)) ta tb) Γ (.int ((a % b : Nat) : Int)) := by
  rw [Int.natCast_emod]
  exact ed_op h1 h2 (rd_mod (by omega))
theorem ed_divN {a b : Nat} (h1 : EvD K C ta Γ (.int (a : Int))) (h2 : EvD K C tb Γ (.int (b : Int))) (hb : 0 < b) (hs : b < 2 ^ 9000) : EvD K C (tOp (rI CDivC fun i j => .int (i.fdiv j)) ta tb) Γ (.int ((a / b : Nat) : Int)) :=
  ed_op h1 h2 (rd_fdiv (cdiv_small (by omega) (by rw [Int.natAbs_natCast]; exact hs)) (fdiv_nat a b))
theorem ed_addN {a b : Nat} (h1 : EvD K C ta Γ (.int (a : Int))) (h2 : EvD K C tb Γ (.int (b : Int))) : EvD K C (tOp (rI0 fun i j => .int (i + j)) ta tb) Γ (.int ((a + b : Nat) : Int)) := by
  rw [Int.natCast_add]
  exact ed_op h1 h2 rd_I0
theorem ed_mulN {a b : Nat} {x y : Nat} (h1 : EvD K C ta Γ (.int (a : Int))) (h2 : EvD K C tb Γ (.int (b : Int))) (ha : Builtin.Int.intBits (a : Int) ≤ x) (hb : Builtin.Int.intBits (b : Int) ≤ y) (h : x + y ≤ 134217728) : EvD K C (tOp (rI CMulX fun i j => .int (i * j)) ta tb) Γ (.int ((a * b : Nat) : Int)) := by
  rw [Int.natCast_mul]
  refine ed_op h1 h2 (rd_mulx ?_)
  unfold CMulX
  omega
theorem bits_n {a x : Nat} (h : a < 2 ^ x) : Builtin.Int.intBits (a : Int) ≤ x := PyProof.Rows.intBits_le (by rw [Int.natAbs_natCast]; exact h)
theorem ed_n {n : Nat} (h : EvD K C ta Γ (.int (n : Int))) : EvD K C ta Γ (.int (n : Int)) := h
end
/-! ### cell -/
def cellM (ns : List Int) (i : Nat) : Int := if h : i < ns.length then ns[i] else 5 * (i : Int) + 3
def R_cell (ds : List Dt) (d : Dt) : Prop := ∃ (ns : List Int) (i : Nat), ds = [.scr ns, .int (i : Int)] ∧ i < 1000 ∧ d = .int (cellM ns i)
theorem ok_cell (F : Fun K "_law_cell" "_law_cell" s__law_cell f fd) (m_len : mg "len" = none) : FnOk P w K mg base CX0 (k + 1) f fd ["_law_script", "_law_k"] (SpD K C R_cell) := by
  refine ok_do F sc__law_cell (fun ds d ⟨a, b, h, _⟩ => by rw [h]; rfl) fun cdv A outer s H E hr => ⟨_,
      (pss_cons (ps_if (pt_cmpR op_lt (pv 1) (pe_callB call_len_seq (by rfl) m_len PySem.boot_len (pa_cons (pv 0) pa_nil)) (nomark _))
      (pss_one (ps_ret (pe_ix ix_list (pv 0) (pv 1) (fun _ _ => rfl))))
      pss_nil)
      (pss_one (ps_ret (pe_op op_add (pe_op op_mulX pe_int (pv 1)) pe_int)))), ?_⟩
  rintro _ _ ⟨ns, i, rfl, hi, rfl⟩
  refine do_seq (fun Γ => ¬ i < ns.length ∧ Γ = [.da (.scr ns), .da (.int (i : Int))]) (do_if (b := decide ((i : Int) < (ns.length : Int))) (et_test (ed_op (ed_var rfl) (ed_cb (ea_1 (ed_var rfl)) rc_lenS) rd_B0)) (fun e => ?_) fun e => ?_) ?_
  · have h : i < ns.length := by have := of_decide_eq_true e; omega
    refine do_ret (ed_op (ed_var rfl) (ed_var rfl) (rd_ixS (List.getElem?_eq_getElem h))) ?_
    unfold cellM
    rw [dif_pos h]
  · exact do_next ⟨fun z => of_decide_eq_false e (by omega), rfl⟩
  · rintro _ ⟨h, rfl⟩
    refine do_ret (ed_op (ed_op ed_int (ed_var rfl) (rd_mulx (mulx_ok (a := 3) (b := 10) (by decide) (by rw [Int.natAbs_natCast]; omega) (by decide)))) ed_int rd_I0) ?_
    unfold cellM
    rw [dif_neg h]
/-! ### draws -/
def mixN (seed k : Nat) : Nat := ((((seed * 48271 + (k + 1) * 69621 + 11) % 2147483647) * ((seed * 48271 + (k + 1) * 69621 + 11) % 2147483647) + 40692 * (k + 3)) % 2147483399 / 64) % 5040
def drTo (cell : Int) : Nat → List Nat × Nat
  | 0 => ([], cell.natAbs)
  | k + 1 => if (decide (1000000000000000000 ≤ cell.natAbs) && decide (0 < (drTo cell k).2)) = true then ((drTo cell k).1 ++ [(drTo cell k).2 % 5040], (drTo cell k).2 / 5040) else ((drTo cell k).1 ++ [mixN cell.natAbs k], (drTo cell k).2)
def drawsM (cell : Int) (n : Nat) : List Nat := (drTo cell n).1
theorem drTo_len (cell : Int) : ∀ n, (drTo cell n).1.length = n
  | 0 => rfl
  | n + 1 => by
    unfold drTo
    split <;> (rw [List.length_append, drTo_len cell n]; rfl)
theorem drTo_lt (cell : Int) : ∀ n, ∀ x ∈ (drTo cell n).1, x < 5040
  | 0, x, h => by cases h
  | n + 1, x, h => by
    unfold drTo at h
    split at h
    · rcases List.mem_append.mp h with h | h
      · exact drTo_lt cell n x h
      · rw [List.mem_singleton.mp h]; exact Nat.mod_lt _ (by decide)
    · rcases List.mem_append.mp h with h | h
      · exact drTo_lt cell n x h
      · rw [List.mem_singleton.mp h]; exact Nat.mod_lt _ (by decide)
def R_draws (ds : List Dt) (d : Dt) : Prop := ∃ (cell : Int) (n : Nat), ds = [.int cell, .int (n : Int)] ∧ Builtin.Int.intBits cell ≤ 1048576 ∧ n ≤ 1000 ∧ d = .lst (iD (drawsM cell n))
theorem iD_snoc (u : List Nat) (s : Nat) : iD (u ++ [s]) = iD u ++ [.int (s : Int)] := by unfold iD; rw [List.map_append]; rfl
theorem bits_abs (c : Int) : Builtin.Int.intBits (c.natAbs : Int) = Builtin.Int.intBits c := by
  rcases Int.natAbs_eq c with h | h
  · rw [← h]
  · by_cases h0 : c = 0
    · rw [h0]; rfl
    · have e : (c.natAbs : Int).natAbs = c.natAbs := by omega
      unfold Builtin.Int.intBits
      rw [e, if_neg (show ¬ ((c.natAbs : Int) == 0) = true by simp; omega), if_neg (show ¬ (c == 0) = true by simpa using h0)]
theorem ok_draws (F : Fun K "_law_draws" "_law_draws" s__law_draws f fd) (m_abs : mg "abs" = none) (m_int : mg "int" = none) (m_range : mg "range" = none) : FnOk P w K mg base CX0 (k + 1) f fd ["_law_cell_here", "_law_count"] (SpD K C R_draws) := by
  refine ok_do F sc__law_draws (fun ds d ⟨a, b, h, _⟩ => by rw [h]; rfl) fun cdv A outer s H E hr => ⟨_,
      (pss_cons (ps_set (i := 2) sc__law_draws.nd rfl (.inl rfl) (pe_callB call_abs (by rfl) m_abs boot_abs (pa_cons (pe_callTy call_int1 (by rfl) m_int boot_int (pa_cons (pv 0) pa_nil)) pa_nil)))
      (pss_cons (ps_set (i := 3) sc__law_draws.nd rfl (.inl rfl) (pe_cmpR op_ge (pv 2) (pe_op op_pow pe_int pe_int) (nomark _)))
      (pss_cons (ps_set (i := 4) sc__law_draws.nd rfl (.inl rfl) (pv 2))
      (pss_cons (ps_set (i := 5) sc__law_draws.nd rfl (.inl rfl) (pe_lst pa_nil))
      (pss_cons (ps_for PassesOwn.never rfl (pi_range1 (by rfl) m_range (pa_cons (pv 1) pa_nil)) (pg_name (i := 6) sc__law_draws.nd rfl (.inl rfl))
      (pss_one (ps_if (PW.pt (pw_and (pt_val (pv 3)) (pw_and1 (pt_cmpR op_gt (pv 2) pe_int (nomark _)))))
        (pss_cons (ps_expr (pe_bm PySem.F.plainAttrs_list PySem.F.slot_list_append PySem.F.type_list_append mt_append (pv 5) (pa_cons (pe_op op_mod (pe_callTy call_int1 (by rfl) m_int boot_int (pa_cons (pv 2) pa_nil)) pe_int) pa_nil)))
          (pss_one (ps_set (i := 2) sc__law_draws.nd rfl (.inl rfl) (pe_op op_fdivC (pv 2) pe_int))))
        (pss_cons (ps_set (i := 7) sc__law_draws.nd rfl (.inl rfl) (pe_op op_mod (pe_callTy call_int1 (by rfl) m_int boot_int (pa_cons (pe_op op_add (pe_op op_add (pe_op op_mulX (pv 4) pe_int) (pe_op op_mulX (pe_op op_add (pv 6) pe_int) pe_int)) pe_int) pa_nil)) pe_int))
          (pss_cons (ps_set (i := 7) sc__law_draws.nd rfl (.inl rfl) (pe_op op_mod (pe_callTy call_int1 (by rfl) m_int boot_int (pa_cons (pe_op op_add (pe_op op_mulX (pv 7) (pv 7)) (pe_op op_mulX pe_int (pe_op op_add (pv 6) pe_int))) pa_nil)) pe_int))
          (pss_one (ps_expr (pe_bm PySem.F.plainAttrs_list PySem.F.slot_list_append PySem.F.type_list_append mt_append (pv 5) (pa_cons (pe_op op_mod (pe_callTy call_int1 (by rfl) m_int boot_int (pa_cons (pe_op op_fdivC (pv 7) pe_int) pa_nil)) pe_int) pa_nil)))))))))
      (pss_one (ps_ret (pv 5)))))))), ?_⟩
  rintro _ _ ⟨cell, n, rfl, hb, hn, rfl⟩
  have hba : Builtin.Int.intBits (cell.natAbs : Int) ≤ 1048576 := by rw [bits_abs]; exact hb
  refine do_setc (ed_cb (ea_1 (ed_i (ed_var rfl))) rc_abs) ?_
  refine do_setc (d := .bl (decide (((1000000000000000000 : Nat) : Int) ≤ (cell.natAbs : Int)))) (ed_op (ed_var rfl) (ed_op ed_int ed_int (rd_pow ⟨by decide, by decide, by decide⟩)) rd_B0) ?_
  have ed : decide (((1000000000000000000 : Nat) : Int) ≤ (cell.natAbs : Int)) = decide (1000000000000000000 ≤ cell.natAbs) := by
    by_cases h : 1000000000000000000 ≤ cell.natAbs
    · rw [decide_eq_true h, decide_eq_true (by omega)]
    · rw [decide_eq_false h, decide_eq_false (by omega)]
  rw [ed]
  have eTo : ∀ k, drTo cell (k + 1) = if (decide (1000000000000000000 ≤ cell.natAbs) && decide (0 < (drTo cell k).2)) = true then ((drTo cell k).1 ++ [(drTo cell k).2 % 5040], (drTo cell k).2 / 5040) else ((drTo cell k).1 ++ [mixN cell.natAbs k], (drTo cell k).2) := fun k => rfl
  have e0 : drTo cell 0 = ([], cell.natAbs) := rfl
  have dl := drTo_len cell
  have ret : drawsM cell n = (drTo cell n).1 := rfl
  rw [ret]
  generalize drTo cell = dr at *
  generalize cell.natAbs = seed at *
  generalize decide (1000000000000000000 ≤ seed) = dig at *
  refine do_setc (ed_var rfl) ?_
  refine do_setNc (en_lst ea_nil (by decide)) fun p => ?_
  refine do_seq (fun Γ => ∃ x2 x6 x7, Γ = [.da (.int cell), .da (.int (n : Int)), x2, .da (.bl dig), .da (.int (seed : Int)), .ow p (iD (dr n).1), x6, x7]) ?_ ?_
  · refine do_forR (fun i Γ => ∃ x6 x7, Γ = [.da (.int cell), .da (.int (n : Int)), .da (.int ((dr i).2 : Int)), .da (.bl dig), .da (.int (seed : Int)), .ow p (iD (dr i).1), x6, x7]) (ei_rng1 (ea_1 (ed_var rfl)) (by omega)) ⟨_, _, by rw [e0]; rfl⟩ (fun i Γ' hi hv => ?_) fun Γ' hv => ?_
    · obtain ⟨x6, x7, rfl⟩ := hv
      have hl := dl i
      have es := eTo i
      generalize dr (i + 1) = nxt at *
      generalize dr i = cur at *
      refine do_if (b := dig && decide (0 < cur.2)) (et_and (et_B (ed_var rfl)) (fun _ => ?_)) (fun e => ?_) fun e => ?_
      · have : decide (0 < cur.2) = decide ((0 : Int) < (cur.2 : Int)) := by
          by_cases h : 0 < cur.2
          · rw [decide_eq_true h, decide_eq_true (by omega)]
          · rw [decide_eq_false h, decide_eq_false (by omega)]
        rw [this]
        exact et_test (ed_op (ed_var rfl) ed_int rd_B0)
      · rw [if_pos e] at es
        rw [es]
        refine do_seq (· = [.da (.int cell), .da (.int (n : Int)), .da (.int (cur.2 : Int)), .da (.bl dig), .da (.int (seed : Int)), .ow p (iD (cur.1 ++ [cur.2 % 5040])), .da (.int (i : Int)), x7]) (do_append (i := 5) rfl (ed_modN (b := 5040) (ed_i (ed_var rfl)) ed_int (by decide)) (by rw [iD_len]; omega) (by rw [iD_snoc]; rfl)) ?_
        rintro _ rfl
        refine do_set (ed_divN (b := 5040) (ed_var rfl) ed_int (by decide) (by decide +kernel)) ⟨_, _, rfl⟩
      · rw [if_neg (by rw [e]; exact Bool.false_ne_true)] at es
        rw [es]
        have hk : i < 2 ^ 10 := by omega
        have m1 : ∀ x : Nat, x % 2147483647 < 2 ^ 31 := fun x => Nat.lt_trans (Nat.mod_lt x (by decide)) (by decide)
        refine do_setc (ed_modN (b := 2147483647) (ed_i (ed_addN (b := 11) (ed_addN (ed_mulN (b := 48271) (y := 16) (ed_var rfl) ed_int hba (bits_n (by decide)) (by decide)) (ed_mulN (b := 69621) (x := 11) (y := 17) (ed_addN (b := 1) (ed_var rfl) ed_int) ed_int (bits_n (by omega)) (bits_n (by decide)) (by decide))) ed_int)) ed_int (by decide)) ?_
        refine do_setc (ed_modN (b := 2147483399) (ed_i (ed_addN (ed_mulN (x := 31) (y := 31) (ed_var rfl) (ed_var rfl) (bits_n (m1 _)) (bits_n (m1 _)) (by decide)) (ed_mulN (a := 40692) (x := 16) (y := 11) ed_int (ed_addN (b := 3) (ed_var rfl) ed_int) (bits_n (by decide)) (bits_n (by omega)) (by decide)))) ed_int (by decide)) ?_
        refine do_append (i := 5) rfl (ed_modN (b := 5040) (ed_i (ed_divN (b := 64) (ed_var rfl) ed_int (by decide) (by decide +kernel))) ed_int (by decide)) (by rw [iD_len]; omega) ?_
        show ∃ x6 x7, (_ : List Sl) = [.da (.int cell), .da (.int (n : Int)), .da (.int (cur.2 : Int)), .da (.bl dig), .da (.int (seed : Int)), .ow p (iD (cur.1 ++ [mixN seed i])), x6, x7]
        rw [iD_snoc]
        exact ⟨_, _, rfl⟩
    · obtain ⟨x6, x7, rfl⟩ := hv
      exact ⟨_, x6, x7, rfl⟩
  · rintro _ ⟨x2, x6, x7, rfl⟩
    exact do_retO (i := 5) rfl rfl
/-! ### low -/
def R_low (ds : List Dt) (d : Dt) : Prop := ∃ (n m : Int), ds = [.int n, .int m] ∧ m ≠ 0 ∧ m.natAbs < 2 ^ 9000 ∧ d = .rat ((n : Rat) / (m : Rat))
theorem ok_low (F : Fun K "_law_low" "_law_low" s__law_low f fd) (m_abs : mg "abs" = none) (m_int : mg "int" = none) : FnOk P w K mg base CX0 (k + 1) f fd ["_law_n", "_law_d"] (SpD K C R_low) := by
  refine ok_do F sc__law_low (fun ds d ⟨a, b, h, _⟩ => by rw [h]; rfl) fun cdv A outer s H E hr => ⟨_,
      (pss_cons (ps_set (i := 2) sc__law_low.nd rfl (.inl rfl) (pe_callB call_abs (by rfl) m_abs boot_abs (pa_cons (pv 0) pa_nil)))
      (pss_cons (ps_set (i := 3) sc__law_low.nd rfl (.inl rfl) (pe_callB call_abs (by rfl) m_abs boot_abs (pa_cons (pv 1) pa_nil)))
      (pss_cons (ps_while PassesOwn.never (pt_cmpR op_gt (pv 3) pe_int (nomark _))
      (pss_cons (ps_set (i := 4) sc__law_low.nd rfl (.inl rfl) (pe_op op_mod (pe_callTy call_int1 (by rfl) m_int boot_int (pa_cons (pv 2) pa_nil)) (pv 3)))
        (pss_cons (ps_set (i := 2) sc__law_low.nd rfl (.inl rfl) (pv 3))
        (pss_one (ps_set (i := 3) sc__law_low.nd rfl (.inl rfl) (pv 4))))))
      (pss_cons (ps_if (pt_cmpR op_lt (pv 1) pe_int (nomark _))
      (pss_cons (ps_set (i := 0) sc__law_low.nd rfl (.inl rfl) (pe_op op_sub pe_int (pv 0)))
        (pss_one (ps_set (i := 1) sc__law_low.nd rfl (.inl rfl) (pe_op op_sub pe_int (pv 1)))))
      pss_nil)
      (pss_one (ps_ret (pe_tup (pa_cons (pe_op op_fdivC (pv 0) (pv 2)) (pa_cons (pe_op op_fdivC (pv 1) (pv 2)) pa_nil))))))))), ?_⟩
  rintro _ _ ⟨n, m, rfl, hm, hs, rfl⟩
  refine do_setc (ed_cb (ea_1 (ed_var rfl)) rc_abs) ?_
  refine do_setc (ed_cb (ea_1 (ed_var rfl)) rc_abs) ?_
  have hg0 : 0 < Nat.gcd n.natAbs m.natAbs := Nat.gcd_pos_of_pos_right _ (by omega)
  have hgl : Nat.gcd n.natAbs m.natAbs < 2 ^ 9000 := Nat.lt_of_le_of_lt (Nat.gcd_le_right _ (by omega)) hs
  refine do_seq (fun Γ => ∃ x3 x4, Γ = [.da (.int n), .da (.int m), .da (.int ((Nat.gcd n.natAbs m.natAbs : Nat) : Int)), x3, x4]) ?_ ?_
  · refine do_while (fun q Γ => ∃ (a b : Nat) (x4 : Sl), Γ = [.da (.int n), .da (.int m), .da (.int (a : Int)), .da (.int (b : Int)), x4] ∧ q = b ∧ Nat.gcd a b = Nat.gcd n.natAbs m.natAbs) ⟨_, n.natAbs, m.natAbs, _, rfl, rfl, rfl⟩ fun q Γ' hv => ?_
    obtain ⟨a, b, x4, rfl, rfl, hg⟩ := hv
    refine ⟨decide ((0 : Int) < (q : Int)), et_test (ed_op (ed_var rfl) ed_int rd_B0), fun e => ?_, fun e => ?_⟩
    · have hq : 0 < q := by have := of_decide_eq_true e; omega
      refine do_setc (ed_modN (ed_i (ed_var rfl)) (ed_var rfl) hq) ?_
      refine do_setc (ed_var rfl) ?_
      refine do_set (ed_var rfl) ⟨a % q, Nat.mod_lt _ hq, q, a % q, .da (.int ((a % q : Nat) : Int)), rfl, rfl, ?_⟩
      rw [← hg, Nat.gcd_comm q, ← Nat.gcd_rec, Nat.gcd_comm]
    · have hq : q = 0 := by have := of_decide_eq_false e; omega
      subst hq
      rw [Nat.gcd_zero_right] at hg
      rw [hg]
      exact ⟨_, _, rfl⟩
  · rintro _ ⟨x3, x4, rfl⟩
    obtain ⟨r1, r2⟩ := ratio_mul (n := n) hm
    unfold dvs at r1 r2
    refine do_seq (fun Γ => ∃ n' m' : Int, Γ = [.da (.int n'), .da (.int m'), .da (.int ((Nat.gcd n.natAbs m.natAbs : Nat) : Int)), x3, x4] ∧ n' = ((Nat.gcd n.natAbs m.natAbs : Nat) : Int) * ((n : Rat) / (m : Rat)).num ∧ m' = ((Nat.gcd n.natAbs m.natAbs : Nat) : Int) * (((n : Rat) / (m : Rat)).den : Int)) (do_if (b := decide (m < 0)) (et_test (ed_op (ed_var rfl) ed_int rd_B0)) (fun e => ?_) fun e => ?_) ?_
    · rw [if_pos (of_decide_eq_true e)] at r1 r2
      refine do_setc (ed_op ed_int (ed_var rfl) rd_I0) (do_set (ed_op ed_int (ed_var rfl) rd_I0) ⟨0 - n, 0 - m, rfl, ?_, ?_⟩)
      · rw [Int.neg_mul] at r1; omega
      · rw [Int.neg_mul] at r2; omega
    · rw [if_neg (of_decide_eq_false e)] at r1 r2
      exact do_next ⟨n, m, rfl, r1, r2⟩
    · rintro _ ⟨n', m', rfl, e1, e2⟩
      have hgn : ((Nat.gcd n.natAbs m.natAbs : Nat) : Int) ≠ 0 := by omega
      exact do_ret (ed_rat (ea_2 (ed_op (ed_var rfl) (ed_var rfl) (rd_fdiv (cdiv_small hgn (by rw [Int.natAbs_natCast]; exact hgl)) (fdiv_of hgn e1))) (ed_op (ed_var rfl) (ed_var rfl) (rd_fdiv (cdiv_small hgn (by rw [Int.natAbs_natCast]; exact hgl)) (fdiv_of hgn e2)))) rfl rfl) rfl
end W13
set_option Elab.async false
set_option linter.all false
set_option maxRecDepth 100000
set_option maxHeartbeats 8000000
set_option exponentiation.threshold 100000
/-! W14: the law's ratios and games -/
namespace W14
open PySem PySem.Spec PyProof.Rows L2 WA WB WT WC ML W1 W2 WD WE WF WG WH WK W3 W4 W5 W6 W13
variable {P : Program} {w : World} {K : PySem.W.Frag} {mg : Str → Option Value} {base : Heap} {C : Addr} {k : Nat} {f : Addr} {fd : FuncData}
open ME (gt)
open MG (Gm Rw)
abbrev FdLow (P : Program) (w : World) (K : PySem.W.Frag) (mg : Str → Option Value) (base : Heap) (C : Addr) (k : Nat) := Fd P w K mg base C "_law_low" ["_law_n", "_law_d"] k R_low
theorem s90 : (2 : Nat) ^ 4401 * 2 ^ 4401 + 2 ^ 4401 * 2 ^ 4401 < 2 ^ 9000 := by decide +kernel
theorem s91 : (2 : Nat) ^ 4401 < 2 ^ 9000 := by decide +kernel
section
variable {Γ : List Sl} {t1 t2 : TE} {Ex : XK}
theorem ed_low {n m : Int} (h1 : EvD K C t1 Γ (.int n)) (h2 : EvD K C t2 Γ (.int m)) (hm : m ≠ 0) (hs : m.natAbs < 2 ^ 9000) : EvD K C (tCall (SpD K C R_low) [] Ex (tCons t1 (tCons t2 tNil))) Γ (.rat ((n : Rat) / (m : Rat))) := ed_call (ea_2 h1 h2) ⟨n, m, rfl, hm, hs, rfl⟩
end
theorem den_small {a b : Rat} (ha : Lim a) (hb : Lim b) : ((a.den : Int) * (b.den : Int)).natAbs < 2 ^ 9000 := by
  have h1 := lim_den ha
  have h2 := lim_den hb
  rw [Int.natAbs_mul]
  have := Nat.mul_lt_mul'' h1 h2
  have := s90
  omega
def R_ladd (ds : List Dt) (d : Dt) : Prop := ∃ a b : Rat, ds = [.rat a, .rat b] ∧ Lim a ∧ Lim b ∧ d = .rat (a + b)
def R_lmul (ds : List Dt) (d : Dt) : Prop := ∃ a b : Rat, ds = [.rat a, .rat b] ∧ Lim a ∧ Lim b ∧ d = .rat (a * b)
def R_lless (ds : List Dt) (d : Dt) : Prop := ∃ a b : Rat, ds = [.rat a, .rat b] ∧ Lim a ∧ Lim b ∧ d = .bl (decide (a < b))
theorem ok_ladd (F : Fun K "_law_add" "_law_add" s__law_add f fd) (A__law_low : FdLow P w K mg base C k) : FnOk P w K mg base CX0 (k + 1) f fd ["_law_a", "_law_b"] (SpD K C R_ladd) := by
  refine ok_do F sc__law_add (fun ds d ⟨a, b, h, _⟩ => by rw [h]; rfl) fun cdv A outer s H E hr => ⟨_,
      (pss_one (ps_ret (pe_call A__law_low.ok hr (by rfl) A__law_low.g A__law_low.kp A__law_low.b .nil pass0 (pa_cons (pe_op op_add (pe_op op_mulX (pe_ix ix_tup (pv 0) pe_int (fun _ _ => rfl)) (pe_ix ix_tup (pv 1) pe_int (fun _ _ => rfl))) (pe_op op_mulX (pe_ix ix_tup (pv 1) pe_int (fun _ _ => rfl)) (pe_ix ix_tup (pv 0) pe_int (fun _ _ => rfl)))) (pa_cons (pe_op op_mulX (pe_ix ix_tup (pv 0) pe_int (fun _ _ => rfl)) (pe_ix ix_tup (pv 1) pe_int (fun _ _ => rfl))) pa_nil))))), ?_⟩
  rintro _ _ ⟨a, b, rfl, ha, hb, rfl⟩
  rw [← add_div]
  exact do_ret (ed_low (ed_op (ed_op (ed_op (ed_var rfl) ed_int rd_num) (ed_op (ed_var rfl) ed_int rd_den) (rd_mul (lim_num ha) (lim_den hb))) (ed_op (ed_op (ed_var rfl) ed_int rd_num) (ed_op (ed_var rfl) ed_int rd_den) (rd_mul (lim_num hb) (lim_den ha))) rd_I0)
    (ed_op (ed_op (ed_var rfl) ed_int rd_den) (ed_op (ed_var rfl) ed_int rd_den) (rd_mul (lim_den ha) (lim_den hb))) (den_mul_ne a b) (den_small ha hb)) rfl
theorem ok_lmul (F : Fun K "_law_mul" "_law_mul" s__law_mul f fd) (A__law_low : FdLow P w K mg base C k) : FnOk P w K mg base CX0 (k + 1) f fd ["_law_a", "_law_b"] (SpD K C R_lmul) := by
  refine ok_do F sc__law_mul (fun ds d ⟨a, b, h, _⟩ => by rw [h]; rfl) fun cdv A outer s H E hr => ⟨_,
      (pss_one (ps_ret (pe_call A__law_low.ok hr (by rfl) A__law_low.g A__law_low.kp A__law_low.b .nil pass0 (pa_cons (pe_op op_mulX (pe_ix ix_tup (pv 0) pe_int (fun _ _ => rfl)) (pe_ix ix_tup (pv 1) pe_int (fun _ _ => rfl))) (pa_cons (pe_op op_mulX (pe_ix ix_tup (pv 0) pe_int (fun _ _ => rfl)) (pe_ix ix_tup (pv 1) pe_int (fun _ _ => rfl))) pa_nil))))), ?_⟩
  rintro _ _ ⟨a, b, rfl, ha, hb, rfl⟩
  rw [← mul_div]
  exact do_ret (ed_low (ed_op (ed_op (ed_var rfl) ed_int rd_num) (ed_op (ed_var rfl) ed_int rd_num) (rd_mul (lim_num ha) (lim_num hb)))
    (ed_op (ed_op (ed_var rfl) ed_int rd_den) (ed_op (ed_var rfl) ed_int rd_den) (rd_mul (lim_den ha) (lim_den hb))) (den_mul_ne a b) (den_small ha hb)) rfl
theorem ok_lless (F : Fun K "_law_less" "_law_less" s__law_less f fd) : FnOk P w K mg base CX0 (k + 1) f fd ["_law_a", "_law_b"] (SpD K C R_lless) := by
  refine ok_do F sc__law_less (fun ds d ⟨a, b, h, _⟩ => by rw [h]; rfl) fun cdv A outer s H E hr => ⟨_,
      (pss_one (ps_ret (pe_cmpR op_lt (pe_op op_mulX (pe_ix ix_tup (pv 0) pe_int (fun _ _ => rfl)) (pe_ix ix_tup (pv 1) pe_int (fun _ _ => rfl))) (pe_op op_mulX (pe_ix ix_tup (pv 1) pe_int (fun _ _ => rfl)) (pe_ix ix_tup (pv 0) pe_int (fun _ _ => rfl))) (nomark _)))), ?_⟩
  rintro _ _ ⟨a, b, rfl, ha, hb, rfl⟩
  have : decide (a < b) = decide (a.num * (b.den : Int) < b.num * (a.den : Int)) := by
    by_cases h : a < b
    · rw [decide_eq_true h, decide_eq_true ((cross_lt a b).mpr h)]
    · rw [decide_eq_false h, decide_eq_false fun z => h ((cross_lt a b).mp z)]
  rw [this]
  exact do_ret (ed_op (ed_op (ed_op (ed_var rfl) ed_int rd_num) (ed_op (ed_var rfl) ed_int rd_den) (rd_mul (lim_num ha) (lim_den hb))) (ed_op (ed_op (ed_var rfl) ed_int rd_num) (ed_op (ed_var rfl) ed_int rd_den) (rd_mul (lim_num hb) (lim_den ha))) rd_B0) rfl
/-! ### what is a ratio -/
def R_isI (ds : List Dt) (d : Dt) : Prop := ∃ i : Int, ds = [.int i] ∧ d = .bl true
theorem ok_isI (F : Fun K "_law_is_integer" "_law_is_integer" s__law_is_integer f fd) (m_isinstance : mg "isinstance" = none) (m_int : mg "int" = none) (m_bool : mg "bool" = none) : FnOk P w K mg base CX0 (k + 1) f fd ["_law_value"] (SpD K C R_isI) := by
  refine ok_do F sc__law_is_integer (fun ds d ⟨a, h, _⟩ => by rw [h]; rfl) fun cdv A outer s H E hr => ⟨_,
      (pss_one (ps_ret (pe_and (pe_callB call_isi (by rfl) m_isinstance boot_isinstance (pa_cons (pv 0) (pa_cons (pe_bltn (v := .ty "int") (u := .type "int") rfl m_int boot_int rfl) pa_nil))) (pe_one (pe_not (pe_callB call_isi (by rfl) m_isinstance boot_isinstance (pa_cons (pv 0) (pa_cons (pe_bltn (v := .ty "bool") (u := .type "bool") rfl m_bool boot_bool rfl) pa_nil)))))))), ?_⟩
  rintro _ _ ⟨i, rfl, rfl⟩
  exact do_ret (ed_andV (a := true) (b := !false) (ed_cb (ea_2 (ed_var rfl) ed_ty) rc_isiI) fun _ => ed_notV (ed_cb (ea_2 (ed_var rfl) ed_ty) rc_isiB)) rfl
abbrev FdIsI (P : Program) (w : World) (K : PySem.W.Frag) (mg : Str → Option Value) (base : Heap) (C : Addr) (k : Nat) := Fd P w K mg base C "_law_is_integer" ["_law_value"] k R_isI
def R_isR (ds : List Dt) (d : Dt) : Prop := ∃ x : Rat, ds = [.rat x] ∧ Lim x ∧ d = .bl true
theorem ok_isR (F : Fun K "_law_is_ratio" "_law_is_ratio" s__law_is_ratio f fd) (A__law_is_integer : FdIsI P w K mg base C k) (A__law_low : FdLow P w K mg base C k) (m_isinstance : mg "isinstance" = none) (m_tuple : mg "tuple" = none) (m_len : mg "len" = none) : FnOk P w K mg base CX0 (k + 1) f fd ["_law_value"] (SpD K C R_isR) := by
  refine ok_do F sc__law_is_ratio (fun ds d ⟨a, h, _⟩ => by rw [h]; rfl) fun cdv A outer s H E hr => ⟨_,
      (pss_cons (ps_if (PW.pt (pw_or (pt_not (pt_val (pe_callB call_isi (by rfl) m_isinstance boot_isinstance (pa_cons (pv 0) (pa_cons (pe_bltn (v := .ty "tuple") (u := .type "tuple") rfl m_tuple boot_tuple rfl) pa_nil))))) (pw_or1 (pt_cmpR op_ne (pe_callB call_len_seq (by rfl) m_len PySem.boot_len (pa_cons (pv 0) pa_nil)) pe_int (nomark _)))))
      (pss_one (ps_ret pe_bl))
      pss_nil)
      (pss_cons (ps_if (PW.pt (pw_or (pt_not (pt_val (pe_call A__law_is_integer.ok hr (by rfl) A__law_is_integer.g A__law_is_integer.kp A__law_is_integer.b .nil pass0 (pa_cons (pe_ix ix_tup (pv 0) pe_int (fun _ _ => rfl)) pa_nil)))) (pw_or (pt_not (pt_val (pe_call A__law_is_integer.ok hr (by rfl) A__law_is_integer.g A__law_is_integer.kp A__law_is_integer.b .nil pass0 (pa_cons (pe_ix ix_tup (pv 0) pe_int (fun _ _ => rfl)) pa_nil)))) (pw_or1 (pt_cmpR op_lt (pe_ix ix_tup (pv 0) pe_int (fun _ _ => rfl)) pe_int (nomark _))))))
      (pss_one (ps_ret pe_bl))
      pss_nil)
      (pss_one (ps_ret (pe_cmpR (op_eqD hr.units) (pe_call A__law_low.ok hr (by rfl) A__law_low.g A__law_low.kp A__law_low.b .nil pass0 (pa_cons (pe_ix ix_tup (pv 0) pe_int (fun _ _ => rfl)) (pa_cons (pe_ix ix_tup (pv 0) pe_int (fun _ _ => rfl)) pa_nil))) (pv 0) (nomark _)))))), ?_⟩
  rintro _ _ ⟨x, rfl, hx, rfl⟩
  refine do_seq (· = [.da (.rat x)]) (do_if (b := (!true) || !decide ((2 : Int) = 2)) (et_or (et_not (et_B (ed_cb (ea_2 (ed_var rfl) ed_ty) rc_isiR))) fun _ => et_test (ed_op (ed_cb (ea_1 (ed_var rfl)) rc_lenR) ed_int rd_neI)) (fun e => absurd e (by decide)) fun _ => do_next rfl) ?_
  rintro _ rfl
  have hd : decide ((x.den : Int) < 1) = false := decide_eq_false (by have := x.den_pos; omega)
  refine do_seq (· = [.da (.rat x)]) (do_if (b := (!true) || ((!true) || decide ((x.den : Int) < 1))) (et_or (et_not (et_B (ed_call (ea_1 (ed_op (ed_var rfl) ed_int rd_num)) ⟨_, rfl, rfl⟩))) fun _ => et_or (et_not (et_B (ed_call (ea_1 (ed_op (ed_var rfl) ed_int rd_den)) ⟨_, rfl, rfl⟩))) fun _ => et_test (ed_op (ed_op (ed_var rfl) ed_int rd_den) ed_int rd_B0)) (fun e => by rw [hd] at e; cases e) fun _ => do_next rfl) ?_
  rintro _ rfl
  have hs : ((x.den : Int)).natAbs < 2 ^ 9000 := Nat.lt_trans (lim_den hx) s91
  have ex : (x.num : Rat) / ((x.den : Int) : Rat) = x := by
    rw [Rat.intCast_natCast]; exact (as_div x).symm
  refine do_ret (d := .bl (decide ((x.num : Rat) / ((x.den : Int) : Rat) = x))) (ed_op (ed_low (ed_op (ed_var rfl) ed_int rd_num) (ed_op (ed_var rfl) ed_int rd_den) (den_ne x) hs) (ed_var rfl) rd_eqR) ?_
  rw [decide_eq_true ex]
def R_ratios (ds : List Dt) (d : Dt) : Prop := ∃ (W : List Rat), ds = [rtp W, .int (W.length : Int)] ∧ (∀ x ∈ W, Lim x) ∧ d = .bl true
theorem ok_ratios (F : Fun K "_law_ratios" "_law_ratios" s__law_ratios f fd) (A__law_is_ratio : Fd P w K mg base C "_law_is_ratio" ["_law_value"] k R_isR) (m_isinstance : mg "isinstance" = none) (m_tuple : mg "tuple" = none) (m_len : mg "len" = none) : FnOk P w K mg base CX0 (k + 1) f fd ["_law_values", "_law_count"] (SpD K C R_ratios) := by
  refine ok_do F sc__law_ratios (fun ds d ⟨a, h, _⟩ => by rw [h]; rfl) fun cdv A outer s H E hr => ⟨_,
      (pss_cons (ps_if (PW.pt (pw_or (pt_not (pt_val (pe_callB call_isi (by rfl) m_isinstance boot_isinstance (pa_cons (pv 0) (pa_cons (pe_bltn (v := .ty "tuple") (u := .type "tuple") rfl m_tuple boot_tuple rfl) pa_nil))))) (pw_or1 (pt_cmpR op_ne (pe_callB call_len_seq (by rfl) m_len PySem.boot_len (pa_cons (pv 0) pa_nil)) (pv 1) (nomark _)))))
      (pss_one (ps_ret pe_bl))
      pss_nil)
      (pss_cons (ps_for PassesOwn.never rfl (pi_tup (pv 0)) (pg_name (i := 2) sc__law_ratios.nd rfl (.inl rfl))
      (pss_one (ps_if (pt_not (pt_val (pe_call A__law_is_ratio.ok hr (by rfl) A__law_is_ratio.g A__law_is_ratio.kp A__law_is_ratio.b .nil pass0 (pa_cons (pv 2) pa_nil))))
        (pss_one (ps_ret pe_bl))
        pss_nil)))
      (pss_one (ps_ret pe_bl)))), ?_⟩
  rintro _ _ ⟨W, rfl, hW, rfl⟩
  have hl : ((W.map Dt.rat).length : Int) = (W.length : Int) := by rw [List.length_map]
  refine do_seq (· = [.da (rtp W), .da (.int (W.length : Int)), .un]) (do_if (b := (!true) || !decide ((W.length : Int) = (W.length : Int))) (et_or (et_not (et_B (ed_cb (ea_2 (ed_var rfl) ed_ty) rc_isiT))) fun _ => et_test (ed_op (x := .int (W.length : Int)) (by rw [← hl]; exact ed_lenT (ed_var rfl)) (ed_var rfl) rd_neI)) (fun e => by simp at e) fun _ => do_next rfl) ?_
  rintro _ rfl
  refine do_seq (fun _ => True) ?_ fun _ _ => do_ret ed_bl rfl
  refine do_for (fun i Γ => ∃ x, Γ = [.da (rtp W), .da (.int (W.length : Int)), x]) (ei_tup (ed_var rfl)) ⟨_, rfl⟩ (fun _ _ _ => trivial) (fun i d Γ' hd hv => ?_) fun _ _ => trivial
  obtain ⟨x, rfl⟩ := hv
  obtain ⟨q, hq, rfl⟩ := map_at hd
  exact ⟨_, tg_name, do_if (b := !true) (et_not (et_B (ed_call (ea_1 (ed_var rfl)) ⟨q, rfl, hW q (List.mem_of_getElem? hq), rfl⟩))) (fun e => nomatch e) fun _ => do_next ⟨_, rfl⟩⟩
/-! ### fraction, discount -/
def frM (x : Nat) : Rat := ((((x % 13 : Nat) : Int) - 6 : Int) : Rat) / (((1 + x / 13 % 4 : Nat) : Int) : Rat)
def R_frac (ds : List Dt) (d : Dt) : Prop := ∃ x : Nat, ds = [.int (x : Int)] ∧ d = .rat (frM x)
theorem small9 {n : Nat} (h : n < 1000) : ((n : Int)).natAbs < 2 ^ 9000 := by
  rw [Int.natAbs_natCast]
  exact Nat.lt_trans h (by decide +kernel)
theorem ok_frac (F : Fun K "_law_fraction" "_law_fraction" s__law_fraction f fd) (A__law_low : FdLow P w K mg base C k) (m_int : mg "int" = none) : FnOk P w K mg base CX0 (k + 1) f fd ["_law_draw"] (SpD K C R_frac) := by
  refine ok_do F sc__law_fraction (fun ds d ⟨a, h, _⟩ => by rw [h]; rfl) fun cdv A outer s H E hr => ⟨_,
      (pss_one (ps_ret (pe_call A__law_low.ok hr (by rfl) A__law_low.g A__law_low.kp A__law_low.b .nil pass0 (pa_cons (pe_op op_sub (pe_op op_mod (pe_callTy call_int1 (by rfl) m_int boot_int (pa_cons (pv 0) pa_nil)) pe_int) pe_int) (pa_cons (pe_op op_add pe_int (pe_op op_mod (pe_op op_fdivC (pe_callTy call_int1 (by rfl) m_int boot_int (pa_cons (pv 0) pa_nil)) pe_int) pe_int)) pa_nil))))), ?_⟩
  rintro _ _ ⟨x, rfl, rfl⟩
  refine do_ret (ed_low (ed_op (ed_modN (b := 13) (ed_i (ed_var rfl)) ed_int (by decide)) ed_int rd_I0) (ed_addN (a := 1) ed_int (ed_modN (b := 4) (ed_divN (b := 13) (ed_i (ed_var rfl)) ed_int (by decide) (by decide +kernel)) ed_int (by decide))) (by omega) (small9 (by omega))) rfl
def dqM (x : Nat) : Nat := 2 + x % 9
def dcM (x : Nat) : Rat := (((x / 9 % dqM x : Nat) : Int) : Rat) / ((dqM x : Int) : Rat)
def R_disc (ds : List Dt) (d : Dt) : Prop := ∃ x : Nat, ds = [.int (x : Int)] ∧ d = .rat (dcM x)
theorem ok_disc (F : Fun K "_law_discount" "_law_discount" s__law_discount f fd) (A__law_low : FdLow P w K mg base C k) (m_int : mg "int" = none) : FnOk P w K mg base CX0 (k + 1) f fd ["_law_draw"] (SpD K C R_disc) := by
  refine ok_do F sc__law_discount (fun ds d ⟨a, h, _⟩ => by rw [h]; rfl) fun cdv A outer s H E hr => ⟨_,
      (pss_cons (ps_set (i := 1) sc__law_discount.nd rfl (.inl rfl) (pe_op op_add pe_int (pe_op op_mod (pe_callTy call_int1 (by rfl) m_int boot_int (pa_cons (pv 0) pa_nil)) pe_int)))
      (pss_one (ps_ret (pe_call A__law_low.ok hr (by rfl) A__law_low.g A__law_low.kp A__law_low.b .nil pass0 (pa_cons (pe_op op_mod (pe_op op_fdivC (pe_callTy call_int1 (by rfl) m_int boot_int (pa_cons (pv 0) pa_nil)) pe_int) (pv 1)) (pa_cons (pv 1) pa_nil)))))), ?_⟩
  rintro _ _ ⟨x, rfl, rfl⟩
  have hq : 0 < dqM x ∧ dqM x < 1000 := by unfold dqM; omega
  refine do_setc (d := .int (dqM x : Int)) (ed_addN (a := 2) (b := x % 9) ed_int (ed_modN (b := 9) (ed_i (ed_var rfl)) ed_int (by decide))) ?_
  unfold dcM
  generalize dqM x = q at *
  exact do_ret (ed_low (ed_modN (ed_divN (b := 9) (ed_i (ed_var rfl)) ed_int (by decide) (by decide +kernel)) (ed_var rfl) hq.1) (ed_var rfl) (by omega) (small9 hq.2)) rfl
/-! ### a game -/
def gnM (D : List Nat) (most : Nat) : Nat := 1 + D.getD 0 0 % most
def bigR (cell : Int) (f : Rat) : Rat := ((f.num * 1000000000000000000000000000000 + cell % 1000000000000000000000000000000 : Int) : Rat) / ((f.den : Int) : Rat)
def rewM (cell : Int) (D : List Nat) (s : Nat) : Rat := if D.getD 1 0 % 8 = 1 then bigR cell (frM (D.getD (2 + s) 0)) else frM (D.getD (2 + s) 0)
def w0M (D : List Nat) (n s : Nat) : List Nat := (List.range n).map fun t => D.getD (2 + n + n * s + t) 0 % 4
def w1M (D : List Nat) (n s : Nat) : List Nat := if (w0M D n s).sum = 0 then (w0M D n s).set ((s + 1) % n) 1 else w0M D n s
def prM (W : List Nat) (t : Nat) : Rat := (((W.getD t 0 : Nat) : Int) : Rat) / (((W.sum : Nat) : Int) : Rat)
def rowTo (W : List Nat) (i : Nat) : Rw := ((List.range i).filter fun t => decide (0 < W.getD t 0)).map fun t => (t, prM W t)
def rowM (D : List Nat) (n s : Nat) : Rw := rowTo (w1M D n s) n
def dM (cell : Int) (most : Nat) : List Nat := drawsM cell (2 + most + most * most)
def gameM (cell : Int) (most : Nat) : Gm := ⟨(List.range (gnM (dM cell most) most)).map (rewM cell (dM cell most)), (List.range (gnM (dM cell most) most)).map (rowM (dM cell most) (gnM (dM cell most) most))⟩
def R_game (ds : List Dt) (d : Dt) : Prop := ∃ (cell : Int) (most : Nat), ds = [.int cell, .int (most : Int)] ∧ 0 < most ∧ most ≤ 5 ∧ Builtin.Int.intBits cell ≤ 1048576 ∧ d = gD (gameM cell most)
theorem w0_len (D : List Nat) (n s : Nat) : (w0M D n s).length = n := by unfold w0M; simp
theorem w1_len (D : List Nat) (n s : Nat) : (w1M D n s).length = n := by
  unfold w1M
  split
  · rw [List.length_set, w0_len]
  · exact w0_len D n s
theorem sum_set0 : ∀ {l : List Nat} {j : Nat}, l.sum = 0 → j < l.length → (l.set j 1).sum = 1
  | [], _, _, h => absurd h (by simp)
  | a :: l, 0, h, _ => by
    rw [List.sum_cons] at h
    rw [List.set_cons_zero, List.sum_cons]; omega
  | a :: l, j + 1, h, hl => by
    rw [List.sum_cons] at h
    rw [List.set_cons_succ, List.sum_cons, sum_set0 (by omega) (by simpa using hl)]; omega
theorem w1_pos (D : List Nat) {n s : Nat} (hn : 0 < n) : 0 < (w1M D n s).sum := by
  unfold w1M
  split
  · rename_i h
    rw [sum_set0 h (by rw [w0_len]; exact Nat.mod_lt _ hn)]; omega
  · omega
theorem sum_le : ∀ {l : List Nat}, (∀ x ∈ l, x ≤ 3) → l.sum ≤ 3 * l.length
  | [], _ => by simp
  | a :: l, h => by
    rw [List.sum_cons, List.length_cons]
    have := sum_le (l := l) fun x hx => h x (List.mem_cons_of_mem _ hx)
    have := h a List.mem_cons_self
    omega
theorem w0_le (D : List Nat) (n s : Nat) : ∀ x ∈ w0M D n s, x ≤ 3 := fun x hx => by
  obtain ⟨t, _, rfl⟩ := List.mem_map.mp hx
  have := Nat.mod_lt (D.getD (2 + n + n * s + t) 0) (show 0 < 4 by decide)
  omega
theorem w1_le (D : List Nat) {n s : Nat} (hn : 0 < n) : (w1M D n s).sum ≤ 3 * n := by
  have h0 := sum_le (w0_le D n s)
  rw [w0_len] at h0
  unfold w1M
  split
  · rename_i h
    rw [sum_set0 h (by rw [w0_len]; exact Nat.mod_lt _ hn)]; omega
  · exact h0
theorem kI_sum (l : List Nat) : (kI l).sum = ((l.sum : Nat) : Int) := by
  induction l with
  | nil => rfl
  | cons a l ih =>
    show (a : Int) + (kI l).sum = _
    rw [ih, List.sum_cons, Int.natCast_add]
theorem fr_num (x : Nat) : (frM x).num.natAbs ≤ 6 := by
  have hm : (((1 + x / 13 % 4 : Nat) : Int)) ≠ 0 := by omega
  have h := (ratio_mul (n := ((x % 13 : Nat) : Int) - 6) hm).1
  have hd := dvs_ne (n := ((x % 13 : Nat) : Int) - 6) hm
  have e : (((x % 13 : Nat) : Int) - 6).natAbs = (dvs (((x % 13 : Nat) : Int) - 6) ((1 + x / 13 % 4 : Nat) : Int)).natAbs * (frM x).num.natAbs := by
    rw [← Int.natAbs_mul]
    exact congrArg Int.natAbs h
  have h1 : 1 ≤ (dvs (((x % 13 : Nat) : Int) - 6) ((1 + x / 13 % 4 : Nat) : Int)).natAbs := by omega
  have h2 : (frM x).num.natAbs ≤ (((x % 13 : Nat) : Int) - 6).natAbs := by
    rw [e]
    exact Nat.le_mul_of_pos_left _ h1
  omega
theorem fr_den (x : Nat) : (frM x).den ≤ 4 := by
  have hm : (((1 + x / 13 % 4 : Nat) : Int)) ≠ 0 := by omega
  have h := (ratio_mul (n := ((x % 13 : Nat) : Int) - 6) hm).2
  have hd := dvs_ne (n := ((x % 13 : Nat) : Int) - 6) hm
  have e : (((1 + x / 13 % 4 : Nat) : Int)).natAbs = (dvs (((x % 13 : Nat) : Int) - 6) ((1 + x / 13 % 4 : Nat) : Int)).natAbs * (frM x).den := by
    have := congrArg Int.natAbs h
    rw [Int.natAbs_mul, Int.natAbs_natCast] at this
    exact this
  have h1 : 1 ≤ (dvs (((x % 13 : Nat) : Int) - 6) ((1 + x / 13 % 4 : Nat) : Int)).natAbs := by omega
  have h2 : (frM x).den ≤ (((1 + x / 13 % 4 : Nat) : Int)).natAbs := by
    rw [e]
    exact Nat.le_mul_of_pos_left _ h1
  omega
end W14
set_option Elab.async false
set_option linter.all false
set_option maxRecDepth 100000
set_option maxHeartbeats 8000000
set_option exponentiation.threshold 100000
/-! W15: a game of the law -/
namespace W15
open PySem PySem.Spec PyProof.Rows L2 WA WB WT WC ML W1 W2 WD WE WF WG WH WK W3 W4 W5 W6 W13 W14
variable {P : Program} {w : World} {K : PySem.W.Frag} {mg : Str → Option Value} {base : Heap} {C : Addr} {k : Nat} {f : Addr} {fd : FuncData}
open ME (gt)
open MA (ex)
open MG (Gm Rw)
theorem rowTo_succ (W : List Nat) (i : Nat) : rowTo W (i + 1) = rowTo W i ++ (if 0 < W.getD i 0 then [(i, prM W i)] else []) := by
  unfold rowTo
  rw [List.range_succ, List.filter_append, List.map_append]
  congr 1
  by_cases h : 0 < W.getD i 0
  · rw [if_pos h, List.filter_cons_of_pos (by exact decide_eq_true h)]; rfl
  · rw [if_neg h, List.filter_cons_of_neg (by rw [decide_eq_false h]; exact Bool.false_ne_true)]; rfl
theorem rowTo_len (W : List Nat) (i : Nat) : (rowTo W i).length ≤ i := by
  unfold rowTo
  rw [List.length_map]
  have := List.length_filter_le (fun t => decide (0 < W.getD t 0)) (List.range i)
  rw [List.length_range] at this
  exact this
theorem gn_pos (D : List Nat) (most : Nat) : 0 < gnM D most := by unfold gnM; omega
theorem gn_le (D : List Nat) {most : Nat} (h : 0 < most) : gnM D most ≤ most := by
  unfold gnM
  have := Nat.mod_lt (D.getD 0 0) h
  omega
theorem dM_len (cell : Int) (most : Nat) : (dM cell most).length = 2 + most + most * most := drTo_len cell _
abbrev Gg (cell : Int) (most : Nat) (D : List Nat) (n : Nat) (x4 x5 x6 x7 x8 x9 : Sl) : List Sl := [.da (.int cell), .da (.int (most : Int)), .da (.lst (iD D)), .da (.int (n : Int)), x4, x5, x6, x7, x8, x9]
theorem ok_game (F : Fun K "_law_game" "_law_game" s__law_game f fd) (A__law_draws : Fd P w K mg base C "_law_draws" ["_law_cell_here", "_law_count"] k R_draws) (A__law_fraction : Fd P w K mg base C "_law_fraction" ["_law_draw"] k R_frac) (A__law_low : FdLow P w K mg base C k)
    (m_int : mg "int" = none) (m_range : mg "range" = none) (m_sum : mg "sum" = none) (m_tuple : mg "tuple" = none) : FnOk P w K mg base CX0 (k + 1) f fd ["_law_cell_here", "_law_most"] (SpD K C R_game) := by
  refine ok_do F sc__law_game (fun ds d ⟨a, b, h, _⟩ => by rw [h]; rfl) fun cdv A outer s H E hr => ⟨_,
      (pss_cons (ps_set (i := 2) sc__law_game.nd rfl (.inr rfl) (pe_call A__law_draws.ok hr (by rfl) A__law_draws.g A__law_draws.kp A__law_draws.b .nil pass0 (pa_cons (pv 0) (pa_cons (pe_op op_add (pe_op op_add pe_int (pv 1)) (pe_op op_mulX (pv 1) (pv 1))) pa_nil))))
      (pss_cons (ps_set (i := 3) sc__law_game.nd rfl (.inr rfl) (pe_op op_add pe_int (pe_op op_mod (pe_callTy call_int1 (by rfl) m_int boot_int (pa_cons (pe_ix ix_list (pv 2) pe_int (fun _ _ => rfl)) pa_nil)) (pv 1))))
      (pss_cons (ps_set (i := 4) sc__law_game.nd rfl (.inl rfl) (pe_lst pa_nil))
      (pss_cons (ps_for PassesOwn.never rfl (pi_range1 (by rfl) m_range (pa_cons (pv 3) pa_nil)) (pg_name (i := 5) sc__law_game.nd rfl (.inr rfl))
      (pss_cons (ps_set (i := 6) sc__law_game.nd rfl (.inl rfl) (pe_call A__law_fraction.ok hr (by rfl) A__law_fraction.g A__law_fraction.kp A__law_fraction.b .nil pass0 (pa_cons (pe_ix ix_list (pv 2) (pe_op op_add pe_int (pv 5)) (fun _ _ => rfl)) pa_nil)))
        (pss_cons (ps_if (pt_cmpR op_eq (pe_op op_mod (pe_callTy call_int1 (by rfl) m_int boot_int (pa_cons (pe_ix ix_list (pv 2) pe_int (fun _ _ => rfl)) pa_nil)) pe_int) pe_int (nomark _))
        (pss_one (ps_set (i := 6) sc__law_game.nd rfl (.inl rfl) (pe_call A__law_low.ok hr (by rfl) A__law_low.g A__law_low.kp A__law_low.b .nil pass0 (pa_cons (pe_op op_add (pe_op op_mulX (pe_ix ix_tup (pv 6) pe_int (fun _ _ => rfl)) (pe_op op_pow pe_int pe_int)) (pe_op op_mod (pe_callTy call_int1 (by rfl) m_int boot_int (pa_cons (pv 0) pa_nil)) (pe_op op_pow pe_int pe_int))) (pa_cons (pe_ix ix_tup (pv 6) pe_int (fun _ _ => rfl)) pa_nil)))))
        pss_nil)
        (pss_one (ps_expr (pe_bm PySem.F.plainAttrs_list PySem.F.slot_list_append PySem.F.type_list_append mt_append (pv 4) (pa_cons (pv 6) pa_nil)))))))
      (pss_cons (ps_set (i := 7) sc__law_game.nd rfl (.inl rfl) (pe_lst pa_nil))
      (pss_cons (ps_for PassesOwn.never rfl (pi_range1 (by rfl) m_range (pa_cons (pv 3) pa_nil)) (pg_name (i := 5) sc__law_game.nd rfl (.inr rfl))
      (pss_cons (ps_set (i := 8) sc__law_game.nd rfl (.inr rfl) (pe_lc (own := [("_law_t", 9)]) rfl sc__law_game.nd (pi_range1 (by rfl) m_range (pa_cons (pv 3) pa_nil)) (blkOk_by (N := N__law_game) (sc := defScope s__law_game) (by decide +kernel)) (fun _ _ _ _ _ => (pg_name (i := 9) sc__law_game.nd rfl (.inl rfl))) (fun _ _ _ _ _ => pts_nil) (fun _ _ _ _ _ => (pe_op op_mod (pe_callTy call_int1 (by rfl) m_int boot_int (pa_cons (pe_ix (kx_list (K := K) rfl) (pv 2) (pe_op op_add (pe_op op_add (pe_op op_add pe_int (pv 3)) (pe_op op_mulX (pv 3) (pv 5))) (pv 9)) (fun _ _ => rfl)) pa_nil)) pe_int))))
        (pss_cons (ps_if (pt_cmpR op_eq (pe_callB (cr_sum rfl) (by rfl) m_sum boot_sum (pa_cons (pv 8) pa_nil)) pe_int (nomark _))
        (pss_one (ps_asg pe_int (pg_sub (pv 8) (pe_op op_mod (pe_callTy call_int1 (by rfl) m_int boot_int (pa_cons (pe_op op_add (pv 5) pe_int) pa_nil)) (pv 3)) set_list)))
        pss_nil)
        (pss_one (ps_expr (pe_bm PySem.F.plainAttrs_list PySem.F.slot_list_append PySem.F.type_list_append mt_append (pv 7) (pa_cons (pe_callTy call_tuple_of (by rfl) m_tuple boot_tuple (pa_cons (pe_lc (own := [("_law_t", 9)]) rfl sc__law_game.nd (pi_range1 (by rfl) m_range (pa_cons (pv 3) pa_nil)) (blkOk_by (N := N__law_game) (sc := defScope s__law_game) (by decide +kernel)) (fun _ _ _ _ _ => (pg_name (i := 9) sc__law_game.nd rfl (.inl rfl))) (fun _ _ _ _ _ => (pts_one (pt_cmpR op_gt (pe_ix (kx_list (K := K) rfl) (pv 8) (pv 9) (fun _ _ => rfl)) pe_int (nomark _)))) (fun _ _ _ _ _ => (pe_tup (pa_cons (pv 9) (pa_cons (pe_call A__law_low.ok hr (by rfl) A__law_low.g A__law_low.kp A__law_low.b .nil pass0 (pa_cons (pe_ix (kx_list (K := K) rfl) (pv 8) (pv 9) (fun _ _ => rfl)) (pa_cons (pe_callB (k_sum (K := K) rfl rfl) (by rfl) m_sum boot_sum (pa_cons (pv 8) pa_nil)) pa_nil))) pa_nil))))) pa_nil)) pa_nil)))))))
      (pss_one (ps_ret (pe_tup (pa_cons (pe_callTy call_tuple_of (by rfl) m_tuple boot_tuple (pa_cons (pv 4) pa_nil)) (pa_cons (pe_callTy call_tuple_of (by rfl) m_tuple boot_tuple (pa_cons (pv 7) pa_nil)) pa_nil))))))))))), ?_⟩
  rintro _ _ ⟨cell, most, rfl, h0, h5, hb, rfl⟩
  have hs40 := line40
  have hmm : most * most ≤ 5 * most := Nat.mul_le_mul_right _ h5
  have hDl := dM_len cell most
  have hm64 : ((most : Int)).natAbs < 2 ^ 4 := by rw [Int.natAbs_natCast]; omega
  refine do_setc (d := .lst (iD (dM cell most))) (ed_call (ea_2 (ed_var rfl) (ed_addN (ed_addN (a := 2) ed_int (ed_var rfl)) (ed_mulN (x := 4) (y := 4) (ed_var rfl) (ed_var rfl) (bits_n (by omega)) (bits_n (by omega)) (by decide)))) ⟨cell, 2 + most + most * most, rfl, hb, by omega, rfl⟩) ?_
  have egm : gD (gameM cell most) = .tup [rtp ((List.range (gnM (dM cell most) most)).map (rewM cell (dM cell most))), .tup (((List.range (gnM (dM cell most) most)).map (rowM (dM cell most) (gnM (dM cell most) most))).map rwD)] := rfl
  rw [egm]
  generalize dM cell most = D at *
  have n1 := gn_pos D most
  have n2 := gn_le D h0
  have dat : ∀ {i : Nat}, i < D.length → (iD D)[i]? = some (.int (D.getD i 0 : Int)) := fun {i} hi => iD_at hi
  refine do_setc (d := .int (gnM D most : Int)) (ed_addN (a := 1) ed_int (ed_modN (ed_i (ed_ixL (i := 0) (ed_var rfl).l ed_int (dat (by omega)))) (ed_var rfl) h0)) ?_
  generalize gnM D most = n at *
  have hnn : n * n ≤ most * most := Nat.mul_le_mul n2 n2
  refine do_setNc (en_lst ea_nil (by decide)) fun p => ?_
  refine do_seq (fun Γ => ∃ x5 x6, Γ = Gg cell most D n (.ow p (((List.range n).map (rewM cell D)).map Dt.rat)) x5 x6 .un .un .un) ?_ ?_
  · refine do_forR (fun i Γ => ∃ x5 x6, Γ = Gg cell most D n (.ow p (((List.range i).map (rewM cell D)).map Dt.rat)) x5 x6 .un .un .un) (ei_rng1 (ea_1 (ed_var rfl)) (by omega)) ⟨_, _, rfl⟩ (fun i Γ' hi hv => ?_) fun Γ' hv => hv
    obtain ⟨x5, x6, rfl⟩ := hv
    refine do_setc (d := .rat (frM (D.getD (2 + i) 0))) (ed_call (ea_1 (ed_ixL (i := 2 + i) (ed_var rfl).l (ed_addN (a := 2) ed_int (ed_var rfl)) (dat (by omega)))) ⟨D.getD (2 + i) 0, rfl, rfl⟩) ?_
    refine do_seq (· = Gg cell most D n (.ow p (((List.range i).map (rewM cell D)).map Dt.rat)) (.da (.int (i : Int))) (.da (.rat (rewM cell D i))) .un .un .un) (do_if (b := decide (((D.getD 1 0 % 8 : Nat) : Int) = 1)) (et_test (ed_op (ed_modN (b := 8) (ed_i (ed_ixL (i := 1) (ed_var rfl).l ed_int (dat (by omega)))) ed_int (by decide)) ed_int rd_eqI)) (fun e => ?_) fun e => ?_) ?_
    · have he : D.getD 1 0 % 8 = 1 := by have := of_decide_eq_true e; omega
      have hn6 := fr_num (D.getD (2 + i) 0)
      have hd4 := fr_den (D.getD (2 + i) 0)
      have er : rewM cell D i = bigR cell (frM (D.getD (2 + i) 0)) := by unfold rewM; rw [if_pos he]
      rw [er]
      unfold bigR
      generalize frM (D.getD (2 + i) 0) = q at *
      refine do_set (ed_low (ed_op (ed_op (ed_op (ed_var rfl) ed_int rd_num) (ed_op (z := .int 1000000000000000000000000000000) ed_int ed_int (rd_pow ⟨by decide, by decide, by decide⟩)) (rd_mulx (mulx_ok (a := 3) (b := 100) (by omega) (by decide) (by decide)))) (ed_op (ed_i (ed_var rfl)) (ed_op (z := .int 1000000000000000000000000000000) ed_int ed_int (rd_pow ⟨by decide, by decide, by decide⟩)) (rd_mod (by decide))) rd_I0) (ed_op (ed_var rfl) ed_int rd_den) (den_ne q) (small9 (by omega))) rfl
    · have he : ¬ D.getD 1 0 % 8 = 1 := fun z => of_decide_eq_false e (by omega)
      have er : rewM cell D i = frM (D.getD (2 + i) 0) := by unfold rewM; rw [if_neg he]
      rw [er]
      exact do_next rfl
    · rintro _ rfl
      refine do_append (i := 4) rfl (ed_var rfl) (by rw [List.length_map, List.length_map, List.length_range]; omega) ⟨.da (.int (i : Int)), .da (.rat (rewM cell D i)), ?_⟩
      rw [List.range_succ, List.map_append, List.map_append]; rfl
  · rintro _ ⟨x5, x6, rfl⟩
    refine do_setNc (en_lst ea_nil (by decide)) fun q => ?_
    refine do_seq (fun Γ => ∃ x5 x8 x9, Γ = Gg cell most D n (.ow p (((List.range n).map (rewM cell D)).map Dt.rat)) x5 x6 (.ow q (((List.range n).map (rowM D n)).map rwD)) x8 x9) ?_ ?_
    · refine do_forR (fun i Γ => ∃ x5 x8 x9, Γ = Gg cell most D n (.ow p (((List.range n).map (rewM cell D)).map Dt.rat)) x5 x6 (.ow q (((List.range i).map (rowM D n)).map rwD)) x8 x9) (ei_rng1 (ea_1 (ed_var rfl)) (by omega)) ⟨_, _, _, rfl⟩ (fun i Γ' hi hv => ?_) fun Γ' hv => hv
      obtain ⟨y5, x8, x9, rfl⟩ := hv
      have hni : n * i ≤ n * n := Nat.mul_le_mul_left _ (by omega)
      have hni2 : n * i + n ≤ n * n := by
        have : n * (i + 1) ≤ n * n := Nat.mul_le_mul_left _ hi
        rw [Nat.mul_add, Nat.mul_one] at this; exact this
      have hsmall : n * i < 2 ^ 8 := by omega
      refine do_setNc (ds := iD (w0M D n i)) (en_lcR (f := fun t => (t : Int)) (n := n) (ei_rng1 (ea_1 (ed_var rfl)) (by omega)) (by omega) (by rw [iD_len, w0_len]) fun t e ht he => ?_) fun wa => ?_
      · have : (iD (w0M D n i))[t]? = some (.int ((D.getD (2 + n + n * i + t) 0 % 4 : Nat) : Int)) := by
          unfold iD w0M
          rw [List.map_map, List.getElem?_map, List.getElem?_range ht]; rfl
        rw [this] at he
        obtain rfl := Option.some.inj he
        exact ed_modN (b := 4) (ed_i (ed_ixL (i := 2 + n + n * i + t) (ed_var rfl).l (ed_addN (ed_addN (ed_addN (a := 2) ed_int (ed_var rfl)) (ed_mulN (x := 4) (y := 4) (ed_var rfl) (ed_var rfl) (bits_n (by omega)) (bits_n (by omega)) (by decide))) (ed_var rfl)) (dat (by omega)))) ed_int (by decide)
      have hwl := w1_len D n i
      have hw0 := w0_len D n i
      have esum : ∀ {Γ : List Sl} {W : List Nat} {a : Addr}, Γ[8]? = some (.ow a (iD W)) → EvD K C (tCB (rSum K) (tCons (tVar 8) tNil)) Γ (.int ((W.sum : Nat) : Int)) := fun {Γ W a} h => by
        rw [← kI_sum]
        refine ed_cbL (ds := (kI W).map Dt.int) ?_ rcl_sum
        rw [← iD_kI]
        exact el_var h
      refine do_seq (· = Gg cell most D n (.ow p (((List.range n).map (rewM cell D)).map Dt.rat)) (.da (.int (i : Int))) x6 (.ow q (((List.range i).map (rowM D n)).map rwD)) (.ow wa (iD (w1M D n i))) x9) (do_if (b := decide ((((w0M D n i).sum : Nat) : Int) = 0)) (et_test (ed_op (esum rfl) ed_int rd_eqI)) (fun e => ?_) fun e => ?_) ?_
      · have he : (w0M D n i).sum = 0 := by have := of_decide_eq_true e; omega
        have ew : w1M D n i = (w0M D n i).set ((i + 1) % n) 1 := by unfold w1M; rw [if_pos he]
        refine do_setAt (i := 8) (j := (i + 1) % n) (d := .int 1) rfl ed_int (ed_modN (ed_i (ed_addN (b := 1) (ed_var rfl) ed_int)) (ed_var rfl) n1) (by rw [iD_len, hw0]; exact Nat.mod_lt _ n1) ?_
        rw [ew]
        unfold iD
        rw [List.map_set]; rfl
      · have he : ¬ (w0M D n i).sum = 0 := fun z => of_decide_eq_false e (by omega)
        have ew : w1M D n i = w0M D n i := by unfold w1M; rw [if_neg he]
        rw [ew]
        exact do_next rfl
      · rintro _ rfl
        have hpos := w1_pos D (n := n) (s := i) n1
        have hle := w1_le D (n := n) (s := i) n1
        have er : rowM D n i = rowTo (w1M D n i) n := rfl
        generalize hW : w1M D n i = W at *
        have wat : ∀ {t : Nat}, t < n → (iD W)[t]? = some (.int (W.getD t 0 : Int)) := fun {t} ht => iD_at (by omega)
        refine do_append (i := 7) rfl (d := rwD (rowM D n i)) (ed_tupL (EvN.l ?_)) (by rw [List.length_map, List.length_map, List.length_range]; omega) ⟨.da (.int (i : Int)), .ow wa (iD W), x9, ?_⟩
        · rw [er]
          have el : (rowTo W n).map pD = (fun t => (rowTo W t).map pD) (upto n fun t => (t : Int)).length := by rw [upto_len]
          rw [el]
          refine en_lc
            (fun t => (rowTo W t).map pD) (ei_rng1 (n := n) (ea_1 (ed_var rfl)) (by omega)) trivial (by rw [upto_len]; omega) rfl fun t d hd => ?_
          · obtain ⟨ht, rfl⟩ := upto_at hd
            refine ⟨_, decide ((0 : Int) < (W.getD t 0 : Int)), tgc_name (by simp), et_test (ed_op (ed_ixL (el_var rfl) (ed_var rfl) (wat ht)) ed_int rd_B0), fun e => ?_, fun e => ?_⟩
            · have he : 0 < W.getD t 0 := by have := of_decide_eq_true e; omega
              refine ⟨pD (t, prM W t), ed_tup (ea_2 (ed_var rfl) (ed_low (ed_ixL (el_var rfl) (ed_var rfl) (wat ht)) (esum rfl) (by omega) (small9 (by omega)))) (by show 2 ≤ sizeLine; decide), ?_⟩
              rw [rowTo_succ, if_pos he, List.map_append]; rfl
            · have he : ¬ 0 < W.getD t 0 := fun z => of_decide_eq_false e (by omega)
              rw [rowTo_succ, if_neg he, List.append_nil]
        · rw [List.range_succ, List.map_append, List.map_append]; rfl
    · rintro _ ⟨y5, x8, x9, rfl⟩
      exact do_ret (ed_tup (ea_2 (ed_tupL (el_var rfl)) (ed_tupL (el_var rfl))) (by show 2 ≤ sizeLine; decide)) rfl
end W15
set_option Elab.async false
set_option linter.all false
set_option maxRecDepth 100000
set_option maxHeartbeats 8000000
set_option exponentiation.threshold 100000
/-! W16: the law's joint states, plays, checks -/
namespace W16
open PySem PySem.Spec PyProof.Rows L2 WA WB WT WC ML W1 W2 WD WE WF WG WH WK W3 W4 W5 W6 W9 W10 W11 W12 W13 W14 W15
variable {P : Program} {w : World} {K : PySem.W.Frag} {mg : Str → Option Value} {base : Heap} {C : Addr} {k : Nat} {f : Addr} {fd : FuncData}
open ME (gt)
open MA (ex)
open MG (Gm Rw)
open MH (joints jstep gAt jAt sAt world num Co)
open MI (cN cvM Cho)
def R_ljoints (ds : List Dt) (d : Dt) : Prop := ∃ Gs : List Gm, ds = [gsD Gs] ∧ JL Gs ∧ Gs.length ≤ 1000 ∧ d = .lst ((joints Gs).map uD)
theorem ed_snoc {Γ : List Sl} {ta tb : TE} {u : List Nat} {s : Nat} (h : EvD K C ta Γ (uD u)) (k : EvD K C tb Γ (.int (s : Int))) (hu : u.length ≤ 1000) : EvD K C (tOp (rCatA K) ta (tTup (tCons tb tNil))) Γ (uD (u ++ [s])) := by
  have hs40 := line40
  show EvD K C _ _ (.tup (iD (u ++ [s])))
  rw [iD_app]
  exact ed_catT h (ed_tup (ea_1 k) (by show 1 ≤ sizeLine; decide)) (by rw [iD_len]; show _ + 1 ≤ _; omega)
theorem ok_ljoints (F : Fun K "_law_joints" "_law_joints" s__law_joints f fd) (m_len : mg "len" = none) (m_range : mg "range" = none) (m_list : mg "list" = none) : FnOk P w K mg base CX0 (k + 1) f fd ["_law_games_here"] (SpD K C R_ljoints) := by
  refine ok_do F sc__law_joints (fun ds d ⟨a, h, _⟩ => by rw [h]; rfl) fun cdv A outer s H E hr => ⟨_,
      (pss_cons (ps_set (i := 1) sc__law_joints.nd rfl (.inl rfl) (pe_lst (pa_cons (pe_tup pa_nil) pa_nil)))
      (pss_cons (ps_for PassesOwn.never rfl (pi_tup (pv 0)) (pg_name (i := 2) sc__law_joints.nd rfl (.inl rfl))
      (pss_cons (ps_set (i := 3) sc__law_joints.nd rfl (.inl rfl) (pe_lst pa_nil))
        (pss_cons (ps_for PassesOwn.never rfl (pi_list (pv 1)) (pg_name (i := 4) sc__law_joints.nd rfl (.inl rfl))
        (pss_one (ps_for PassesOwn.never rfl (pi_range1 (by rfl) m_range (pa_cons (pe_callB call_len_seq (by rfl) m_len PySem.boot_len (pa_cons (pe_ix ix_tup (pv 2) pe_int (fun _ _ => rfl)) pa_nil)) pa_nil)) (pg_name (i := 5) sc__law_joints.nd rfl (.inl rfl))
          (pss_one (ps_expr (pe_bm PySem.F.plainAttrs_list PySem.F.slot_list_append PySem.F.type_list_append mt_append (pv 3) (pa_cons (pe_op op_catA (pv 4) (pe_tup (pa_cons (pv 5) pa_nil))) pa_nil)))))))
        (pss_one (ps_set (i := 1) sc__law_joints.nd rfl (.inl rfl) (pe_callTy call_list_of (by rfl) m_list boot_list (pa_cons (pv 3) pa_nil)))))))
      (pss_one (ps_ret (pv 1))))), ?_⟩
  rintro _ _ ⟨Gs, rfl, L, hG, rfl⟩
  refine do_setNc (en_lst (ea_1 (ed_tup ea_nil (by decide))) (by show 1 ≤ sizeLine; decide)) fun p0 => ?_
  refine do_seq (fun Γ => ∃ p x2 x3 x4 x5, Γ = [.da (gsD Gs), .ow p ((joints Gs).map uD), x2, x3, x4, x5]) ?_ ?_
  · refine do_for (fun i Γ => ∃ p x2 x3 x4 x5, Γ = [.da (gsD Gs), .ow p ((joTo Gs i).map uD), x2, x3, x4, x5]) (ei_tup (ed_var rfl)) ⟨p0, _, _, _, _, rfl⟩ (fun _ _ _ => trivial) (fun i d Γ' hd hv => ?_) fun Γ' hv => ?_
    · obtain ⟨p, x2, x3, x4, x5, rfl⟩ := hv
      obtain ⟨G, hG', rfl⟩ := map_at hd
      have hi := get_le hG'
      have eG : gAt Gs i = G := by
        have := g_at hi
        rw [hG'] at this
        exact (Option.some.inj this).symm
      have lJ1 := L.n (i + 1) hi
      have lg := L.g i hi
      rw [eG] at lg
      have hlen : ((G.rw.map Dt.rat).length : Int) = (G.n : Int) := by rw [List.length_map]; rfl
      have ej : joTo Gs (i + 1) = (joTo Gs i).flatMap fun u => (List.range G.n).map fun s => u ++ [s] := by rw [joTo_succ hi, eG]; rfl
      have hul : ∀ u ∈ joTo Gs i, u.length ≤ 1000 := fun u hu => by
        have := mem_len _ hu
        rw [this, List.length_take]; omega
      rw [ej] at lJ1
      refine ⟨_, tg_name, ?_⟩
      refine do_setNc (en_lst ea_nil (by decide)) fun q => ?_
      rw [ej]
      generalize hJ : joTo Gs i = J at *
      have part : ∀ j u, J[j]? = some u → ((J.take j).flatMap fun u => (List.range G.n).map fun s => u ++ [s]).length + G.n ≤ 1000 := fun j u hu => by
        have e1 : J = J.take j ++ u :: J.drop (j + 1) := by
          have hj := get_le hu
          have : u = J[j] := by
            rw [List.getElem?_eq_getElem hj] at hu
            exact (Option.some.inj hu).symm
          rw [this, ← List.drop_eq_getElem_cons hj, List.take_append_drop]
        have e2 : (J.flatMap fun u => (List.range G.n).map fun s => u ++ [s]).length = ((J.take j).flatMap fun u => (List.range G.n).map fun s => u ++ [s]).length + (G.n + ((J.drop (j + 1)).flatMap fun u => (List.range G.n).map fun s => u ++ [s]).length) := by
          conv => lhs; rw [e1]
          rw [List.flatMap_append, List.flatMap_cons, List.length_append, List.length_append, List.length_map, List.length_range]
        omega
      refine do_seq (fun Γ => ∃ x4 x5, Γ = [.da (gsD Gs), .ow p (J.map uD), .da (gD G), .ow q ((J.flatMap fun u => (List.range G.n).map fun s => u ++ [s]).map uD), x4, x5]) ?_ ?_
      · refine do_for (fun j Γ => ∃ x4 x5, Γ = [.da (gsD Gs), .ow p (J.map uD), .da (gD G), .ow q (((J.take j).flatMap fun u => (List.range G.n).map fun s => u ++ [s]).map uD), x4, x5]) (ei_own (i := 1) rfl) ⟨_, _, rfl⟩ (fun j Γ' ⟨_, _, e⟩ => by rw [e]; rfl) (fun j d Γ' hd hv => ?_) fun Γ' hv => ?_
        · obtain ⟨y4, y5, rfl⟩ := hv
          obtain ⟨u, hu, rfl⟩ := map_at hd
          have hpt := part j u hu
          have huj := hul u (List.mem_of_getElem? hu)
          have tk : (J.take (j + 1)).flatMap (fun u => (List.range G.n).map fun s => u ++ [s]) = (J.take j).flatMap (fun u => (List.range G.n).map fun s => u ++ [s]) ++ (List.range G.n).map fun s => u ++ [s] := by
            rw [List.take_succ, hu, List.flatMap_append]
            show _ ++ ([u].flatMap _) = _
            rw [List.flatMap_singleton]
          rw [tk]
          generalize (J.take j).flatMap (fun u => (List.range G.n).map fun s => u ++ [s]) = pre at *
          refine ⟨_, tg_name, ?_⟩
          refine do_forR (fun s Γ => ∃ x5, Γ = [.da (gsD Gs), .ow p (J.map uD), .da (gD G), .ow q ((pre ++ (List.range s).map fun s => u ++ [s]).map uD), .da (uD u), x5]) (ei_rng1 (ea_1 (by rw [← hlen]; exact ed_lenT (ed_ixT (i := 0) (ed_var rfl) ed_int rfl))) (by omega)) ⟨y5, by rw [List.range_zero, List.map_nil, List.append_nil]; rfl⟩ (fun s Γ' hs hv => ?_) fun Γ' hv => ?_
          · obtain ⟨z5, rfl⟩ := hv
            refine do_append (i := 3) rfl (ed_snoc (ed_var rfl) (ed_var rfl) huj) (by rw [List.length_map, List.length_append, List.length_map, List.length_range]; omega) ⟨.da (.int (s : Int)), ?_⟩
            have es : pre ++ (List.range (s + 1)).map (fun s => u ++ [s]) = (pre ++ (List.range s).map fun s => u ++ [s]) ++ [u ++ [s]] := by
              rw [List.range_succ, List.map_append, ← List.append_assoc]; rfl
            rw [es, List.map_append (l₁ := pre ++ (List.range s).map fun s => u ++ [s])]; rfl
          · obtain ⟨z5, rfl⟩ := hv
            exact ⟨_, _, rfl⟩
        · obtain ⟨y4, y5, rfl⟩ := hv
          rw [List.length_map, List.take_length]
          exact ⟨_, _, rfl⟩
      · rintro _ ⟨y4, y5, rfl⟩
        exact do_setN (en_listL (el_var rfl)) fun p' => ⟨p', _, _, _, _, rfl⟩
    · obtain ⟨p, x2, x3, x4, x5, rfl⟩ := hv
      rw [List.length_map, joTo_all]
      exact ⟨_, _, _, _, _, rfl⟩
  · rintro _ ⟨p, x2, x3, x4, x5, rfl⟩
    exact do_retO (i := 1) rfl rfl
/-! ### the number of a joint state -/
theorem num_app : ∀ (Gs : List Gm) (u : List Nat) (G : Gm) (s a : Nat), u.length = Gs.length → num (Gs ++ [G]) (u ++ [s]) a = num Gs u a * G.n + s
  | [], [], G, s, a, _ => rfl
  | H :: Gs, t :: u, G, s, a, h => num_app Gs u G s (a * H.n + t) (by simpa using h)
  | [], _ :: _, _, _, _, h => by simp at h
  | _ :: _, [], _, _, _, h => by simp at h
theorem vld_take : ∀ {Gs : List Gm} {u : List Nat} (i : Nat), MH.Vld Gs u → MH.Vld (Gs.take i) (u.take i)
  | [], [], i, _ => by simp; exact trivial
  | G :: Gs, s :: u, 0, _ => trivial
  | G :: Gs, s :: u, i + 1, h => ⟨h.1, vld_take i h.2⟩
  | [], _ :: _, _, h => h.elim
  | _ :: _, [], _, h => h.elim
def R_lnumber (ds : List Dt) (d : Dt) : Prop := ∃ (Gs : List Gm) (u : List Nat), ds = [gsD Gs, uD u] ∧ MH.Vld Gs u ∧ JL Gs ∧ Gs.length ≤ 1000 ∧ d = .int (num Gs u 0 : Int)
theorem ok_lnumber (F : Fun K "_law_number" "_law_number" s__law_number f fd) (m_len : mg "len" = none) (m_range : mg "range" = none) : FnOk P w K mg base CX0 (k + 1) f fd ["_law_games_here", "_law_joint"] (SpD K C R_lnumber) := by
  refine ok_do F sc__law_number (fun ds d ⟨a, b, h, _⟩ => by rw [h]; rfl) fun cdv A outer s H E hr => ⟨_,
      (pss_cons (ps_set (i := 2) sc__law_number.nd rfl (.inl rfl) pe_int)
      (pss_cons (ps_for PassesOwn.never rfl (pi_range1 (by rfl) m_range (pa_cons (pe_callB call_len_seq (by rfl) m_len PySem.boot_len (pa_cons (pv 0) pa_nil)) pa_nil)) (pg_name (i := 3) sc__law_number.nd rfl (.inl rfl))
      (pss_one (ps_set (i := 2) sc__law_number.nd rfl (.inl rfl) (pe_op op_add (pe_op op_mulX (pv 2) (pe_callB call_len_seq (by rfl) m_len PySem.boot_len (pa_cons (pe_ix ix_tup (pe_ix ix_tup (pv 0) (pv 3) (fun _ _ => rfl)) pe_int (fun _ _ => rfl)) pa_nil))) (pe_ix ix_tup (pv 1) (pv 3) (fun _ _ => rfl))))))
      (pss_one (ps_ret (pv 2))))), ?_⟩
  rintro _ _ ⟨Gs, u, rfl, hv, L, hG, rfl⟩
  have lenG : ((Gs.map gD).length : Int) = (Gs.length : Int) := by rw [List.length_map]
  have hul := hv.len
  refine do_setc ed_int ?_
  refine do_seq (fun Γ => ∃ x3, Γ = [.da (gsD Gs), .da (uD u), .da (.int (num Gs u 0 : Int)), x3]) ?_ ?_
  · refine do_forR (fun i Γ => ∃ x3, Γ = [.da (gsD Gs), .da (uD u), .da (.int (num (Gs.take i) (u.take i) 0 : Int)), x3]) (ei_rng1 (ea_1 (by rw [← lenG]; exact ed_lenT (ed_var rfl))) (by omega)) ⟨_, rfl⟩ (fun i Γ' hi hw => ?_) fun Γ' hw => ?_
    · obtain ⟨x3, rfl⟩ := hw
      have hlen : (((gAt Gs i).rw.map Dt.rat).length : Int) = ((gAt Gs i).n : Int) := by rw [List.length_map]; rfl
      have hb : num (Gs.take i) (u.take i) 0 < 1000 := Nat.lt_of_lt_of_le (MH.num_lt_len (vld_take i hv)) (L.n i (by omega))
      have hg := L.g i hi
      have e : num (Gs.take (i + 1)) (u.take (i + 1)) 0 = num (Gs.take i) (u.take i) 0 * (gAt Gs i).n + u.getD i 0 := by
        have e1 : Gs.take (i + 1) = Gs.take i ++ [gAt Gs i] := by rw [List.take_succ, g_at hi]; rfl
        have e2 : u.take (i + 1) = u.take i ++ [u.getD i 0] := by rw [List.take_succ, ME.getD_get (d := 0) (by omega)]; rfl
        rw [e1, e2, num_app _ _ _ _ _ (by rw [List.length_take, List.length_take, hul])]
      rw [e]
      exact do_set (ed_addN (ed_mulN (x := 10) (y := 10) (ed_var rfl) (by rw [← hlen]; exact ed_lenT (ed_ixT (i := 0) (ed_ixT (ed_var rfl) (ed_var rfl) (at_map (f := gD) (g_at hi))) ed_int rfl)) (bits_n (by omega)) (bits_n (by omega)) (by decide)) (ed_ixT (ed_var rfl) (ed_var rfl) (iD_at (by omega)))) ⟨_, rfl⟩
    · obtain ⟨x3, rfl⟩ := hw
      rw [List.take_length, List.take_of_length_le (by omega)]
      exact ⟨_, rfl⟩
  · rintro _ ⟨x3, rfl⟩
    exact do_ret (ed_var rfl) rfl
/-! ### one play -/
structure LpL (Gs : List Gm) (b : Rat) (W : List Rat) (kk i : Nat) : Prop where
  lb : Lim b
  e : ExL ((world Gs b).T kk i) (gt W)
  r : Lim ((world Gs b).ρ kk i)
  be : Lim (b * ex ((world Gs b).T kk i) (gt W))
theorem _root_.W12.PlL.lp {Gs : List Gm} {b : Rat} {W : List Rat} {kk i : Nat} (L : PlL Gs b W kk i) : LpL Gs b W kk i := ⟨L.lb, L.e, L.r, L.be⟩
def R_lplayed (ds : List Dt) (d : Dt) : Prop := ∃ (Gs : List Gm) (b : Rat) (W : List Rat) (kk i : Nat), ds = [gsD Gs, uD (jAt Gs kk), .int (i : Int), .rat b, rtp W] ∧ Co Gs b ∧ W.length = cN Gs ∧ kk < cN Gs ∧ i < Gs.length ∧ Gs.length ≤ 1000 ∧ JL Gs ∧ LpL Gs b W kk i ∧ d = .rat ((world Gs b).pl (gt W) kk i)
abbrev FdLadd (P : Program) (w : World) (K : PySem.W.Frag) (mg : Str → Option Value) (base : Heap) (C : Addr) (k : Nat) := Fd P w K mg base C "_law_add" ["_law_a", "_law_b"] k R_ladd
abbrev FdLmul (P : Program) (w : World) (K : PySem.W.Frag) (mg : Str → Option Value) (base : Heap) (C : Addr) (k : Nat) := Fd P w K mg base C "_law_mul" ["_law_a", "_law_b"] k R_lmul
section
variable {Γ : List Sl} {t1 t2 : TE} {Ex : XK} {a b : Rat}
theorem ed_ladd (h1 : EvD K C t1 Γ (.rat a)) (h2 : EvD K C t2 Γ (.rat b)) (l1 : Lim a) (l2 : Lim b) : EvD K C (tCall (SpD K C R_ladd) [] Ex (tCons t1 (tCons t2 tNil))) Γ (.rat (a + b)) := ed_call (ea_2 h1 h2) ⟨a, b, rfl, l1, l2, rfl⟩
theorem ed_lmul (h1 : EvD K C t1 Γ (.rat a)) (h2 : EvD K C t2 Γ (.rat b)) (l1 : Lim a) (l2 : Lim b) : EvD K C (tCall (SpD K C R_lmul) [] Ex (tCons t1 (tCons t2 tNil))) Γ (.rat (a * b)) := ed_call (ea_2 h1 h2) ⟨a, b, rfl, l1, l2, rfl⟩
theorem ed_lless (h1 : EvD K C t1 Γ (.rat a)) (h2 : EvD K C t2 Γ (.rat b)) (l1 : Lim a) (l2 : Lim b) : EvD K C (tCall (SpD K C R_lless) [] Ex (tCons t1 (tCons t2 tNil))) Γ (.bl (decide (a < b))) := ed_call (ea_2 h1 h2) ⟨a, b, rfl, l1, l2, rfl⟩
end
theorem ok_lplayed (F : Fun K "_law_played" "_law_played" s__law_played f fd) (A__law_add : FdLadd P w K mg base C k) (A__law_mul : FdLmul P w K mg base C k) (A__law_number : Fd P w K mg base C "_law_number" ["_law_games_here", "_law_joint"] k R_lnumber) :
    FnOk P w K mg base CX0 (k + 1) f fd ["_law_games_here", "_law_joint", "_law_at", "_law_discount_here", "_law_table"] (SpD K C R_lplayed) := by
  refine ok_do F sc__law_played (fun ds d ⟨a, b, c, e, g, h, _⟩ => by rw [h]; rfl) fun cdv A outer s H E hr => ⟨_,
      (pss_cons (ps_set (i := 5) sc__law_played.nd rfl (.inl rfl) (pe_tup (pa_cons pe_int (pa_cons pe_int pa_nil))))
      (pss_cons (ps_for PassesOwn.never rfl (pi_tup (pe_ix ix_tup (pe_ix ix_tup (pe_ix ix_tup (pv 0) (pv 2) (fun _ _ => rfl)) pe_int (fun _ _ => rfl)) (pe_ix ix_tup (pv 1) (pv 2) (fun _ _ => rfl)) (fun _ _ => rfl))) (pg_name (i := 6) sc__law_played.nd rfl (.inl rfl))
      (pss_cons (ps_set (i := 7) sc__law_played.nd rfl (.inl rfl) (pe_op op_catA (pe_op op_catA (pe_slice sl_tupA (pv 1) po_none (po_some (pv 2))) (pe_tup (pa_cons (pe_ix ix_tup (pv 6) pe_int (fun _ _ => rfl)) pa_nil))) (pe_slice sl_tupA (pv 1) (po_some (pe_op op_add (pv 2) pe_int)) po_none)))
        (pss_one (ps_set (i := 5) sc__law_played.nd rfl (.inl rfl) (pe_call A__law_add.ok hr (by rfl) A__law_add.g A__law_add.kp A__law_add.b .nil pass0 (pa_cons (pv 5) (pa_cons (pe_call A__law_mul.ok hr (by rfl) A__law_mul.g A__law_mul.kp A__law_mul.b .nil pass0 (pa_cons (pe_ix ix_tup (pv 6) pe_int (fun _ _ => rfl)) (pa_cons (pe_ix ix_tup (pv 4) (pe_call A__law_number.ok hr (by rfl) A__law_number.g A__law_number.kp A__law_number.b .nil pass0 (pa_cons (pv 0) (pa_cons (pv 7) pa_nil))) (fun _ _ => rfl)) pa_nil))) pa_nil)))))))
      (pss_one (ps_ret (pe_call A__law_add.ok hr (by rfl) A__law_add.g A__law_add.kp A__law_add.b .nil pass0 (pa_cons (pe_ix ix_tup (pe_ix ix_tup (pe_ix ix_tup (pv 0) (pv 2) (fun _ _ => rfl)) pe_int (fun _ _ => rfl)) (pe_ix ix_tup (pv 1) (pv 2) (fun _ _ => rfl)) (fun _ _ => rfl)) (pa_cons (pe_call A__law_mul.ok hr (by rfl) A__law_mul.g A__law_mul.kp A__law_mul.b .nil pass0 (pa_cons (pv 3) (pa_cons (pv 5) pa_nil))) pa_nil))))))), ?_⟩
  rintro _ _ ⟨Gs, b, W, kk, i, rfl, Y, lW, hk, hi, g5, J, L, rfl⟩
  have hs40 := line40
  have hvl : MH.Vld Gs (jAt Gs kk) := MH.joint_at_vld hk
  have hsn : sAt Gs kk i < (gAt Gs i).n := hvl.at hi
  have hjl : (jAt Gs kk).length = Gs.length := hvl.len
  have hO := Y.ok _ (MH.gAt_mem hi)
  have hst : (iD (jAt Gs kk))[i]? = some (.int (sAt Gs kk i : Int)) := iD_at (by rw [hjl]; exact hi)
  have hrow : ∀ p ∈ (gAt Gs i).row (sAt Gs kk i), MH.Vld Gs ((jAt Gs kk).set i p.1) := fun p hp => hvl.set hi ((hO.rows _ hsn).lt p hp)
  have eT : (world Gs b).T kk i = ((gAt Gs i).row (sAt Gs kk i)).map fun p => (num Gs ((jAt Gs kk).set i p.1) 0, p.2) := rfl
  have Le := L.e
  have Lbe := L.be
  have Lr : Lim ((gAt Gs i).r (sAt Gs kk i)) := L.r
  have epl : (world Gs b).pl (gt W) kk i = (gAt Gs i).r (sAt Gs kk i) + b * ex ((world Gs b).T kk i) (gt W) := rfl
  rw [epl]
  rw [eT] at Le Lbe ⊢
  generalize hstt : sAt Gs kk i = st at *
  refine do_setc (ed_zero ed_int ed_int) ?_
  refine do_seq (fun Γ => ∃ x6 x7, Γ = [.da (gsD Gs), .da (uD (jAt Gs kk)), .da (.int (i : Int)), .da (.rat b), .da (rtp W), .da (.rat (ex (((gAt Gs i).row st).map fun p => (num Gs ((jAt Gs kk).set i p.1) 0, p.2)) (gt W))), x6, x7]) ?_ ?_
  · refine do_for (fun j Γ => ∃ x6 x7, Γ = [.da (gsD Gs), .da (uD (jAt Gs kk)), .da (.int (i : Int)), .da (.rat b), .da (rtp W), .da (.rat (ex ((((gAt Gs i).row st).map fun p => (num Gs ((jAt Gs kk).set i p.1) 0, p.2)).take j) (gt W))), x6, x7]) (ds := ((gAt Gs i).row st).map pD) (ei_tup (ed_ixT (ed_ixT (i := 1) (ed_ixT (ed_var rfl) (ed_var rfl) (at_map (f := gD) (g_at hi))) ed_int rfl) (ed_ixT (ed_var rfl) (ed_var rfl) hst) (at_map (f := rwD) (row_at hO hsn)))) ⟨_, _, rfl⟩ (fun _ _ _ => trivial) (fun j d Γ' hd hv => ?_) fun Γ' hv => ?_
    · obtain ⟨x6, x7, rfl⟩ := hv
      obtain ⟨⟨t, q⟩, hj, rfl⟩ := map_at hd
      have hjl' := get_le hj
      have hv := hrow (t, q) (List.mem_of_getElem? hj)
      have hc : num Gs ((jAt Gs kk).set i t) 0 < cN Gs := MH.num_lt_len hv
      have hj' : (((gAt Gs i).row st).map fun p => (num Gs ((jAt Gs kk).set i p.1) 0, p.2))[j]? = some (num Gs ((jAt Gs kk).set i t) 0, q) := by rw [List.getElem?_map, hj]; rfl
      obtain ⟨l1, l2, l3⟩ := Le.p j _ q hj'
      have s1 := Le.s j (by rw [List.length_map]; omega)
      have tk : (((gAt Gs i).row st).map fun p => (num Gs ((jAt Gs kk).set i p.1) 0, p.2)).take (j + 1) = (((gAt Gs i).row st).map fun p => (num Gs ((jAt Gs kk).set i p.1) 0, p.2)).take j ++ [(num Gs ((jAt Gs kk).set i t) 0, q)] := by rw [List.take_succ, hj']; rfl
      have h1 : (cut (iD (jAt Gs kk)) 0 i).length ≤ 1000 := by unfold cut; rw [List.length_take, iD, List.drop_zero, List.length_map]; omega
      have h2 : (cut (iD (jAt Gs kk)) (i + 1) (jAt Gs kk).length).length ≤ 1000 := by unfold cut; rw [List.length_take, List.length_drop, iD, List.length_map]; omega
      have ecut := set_cut (jAt Gs kk) t (i := i) (by rw [hjl]; exact hi)
      refine ⟨_, tg_name, ?_⟩
      refine do_setc (d := uD ((jAt Gs kk).set i t)) ?_ ?_
      · show EvD K C _ _ (.tup (iD ((jAt Gs kk).set i t)))
        rw [ecut]
        refine ed_catT (ed_catT (ed_slT (lo := none) (hi := some (i : Int)) (ed_var rfl) pa_no (pa_at (ed_var rfl)) (HT.sIx_none _ _) (by rw [HT.sIx_nat, iD_len]; omega)) (ed_tup (ea_1 (ed_ixT (i := 0) (ed_var rfl) ed_int rfl)) (by show 1 ≤ sizeLine; decide)) ?_) (ed_slT (lo := some ((i + 1 : Nat) : Int)) (hi := none) (ed_var rfl) (pa_at (ed_addN (b := 1) (ed_var rfl) ed_int)) pa_no (by rw [HT.sIx_nat, iD_len]; omega) (by rw [HT.sIx_none, iD_len])) ?_
        · show _ + 1 ≤ _; omega
        · rw [List.length_append]; show _ + 1 + _ ≤ _; omega
      · refine do_set (ed_ladd (ed_var rfl) (ed_lmul (ed_ixT (i := 1) (ed_var rfl) ed_int rfl) (ed_ixT (ed_var rfl) (ed_call (ea_2 (ed_var rfl) (ed_var rfl)) ⟨Gs, (jAt Gs kk).set i t, rfl, hv, J, g5, rfl⟩) (rat_at (by rw [lW]; exact hc))) l1 l2) s1 l3) ?_
        rw [tk, ex_snoc]
        exact ⟨_, _, rfl⟩
    · have e : (((gAt Gs i).row st).map pD).length = (((gAt Gs i).row st).map fun p => (num Gs ((jAt Gs kk).set i p.1) 0, p.2)).length := by rw [List.length_map, List.length_map]
      rw [e, List.take_length] at hv
      exact hv
  · rintro _ ⟨x6, x7, rfl⟩
    have se := Le.s _ (Nat.le_refl _)
    rw [List.take_length] at se
    exact do_ret (ed_ladd (ed_ixT (ed_ixT (i := 0) (ed_ixT (ed_var rfl) (ed_var rfl) (at_map (f := gD) (g_at hi))) ed_int rfl) (ed_ixT (ed_var rfl) (ed_var rfl) hst) (rat_at hsn)) (ed_lmul (ed_var rfl) (ed_var rfl) L.lb se) Lr Lbe) rfl
/-! ### is best, is followed, is choices -/
structure ChL (Gs : List Gm) (b : Rat) (W : List Rat) : Prop where
  co : Co Gs b
  len : W.length = cN Gs
  jl : JL Gs
  g5 : Gs.length ≤ 1000
  w : ∀ x ∈ W, Lim x
  p : ∀ kk i, kk < cN Gs → i < Gs.length → LpL Gs b W kk i
  pl : ∀ kk i, kk < cN Gs → i < Gs.length → Lim ((world Gs b).pl (gt W) kk i)
  n9 : cN Gs ≤ 1000
def R_best (ds : List Dt) (d : Dt) : Prop := ∃ (Gs : List Gm) (b : Rat) (W : List Rat), ds = [gsD Gs, .rat b, .non, rtp W] ∧ ChL Gs b W ∧ (world Gs b).Best (gt W) ∧ d = .bl true
/-- the greatest of the first a values -/
def topTo (f : Nat → Rat) : Nat → Option Rat
  | 0 => none
  | a + 1 => match topTo f a with
    | none => some (f a)
    | some y => if y < f a then some (f a) else some y
theorem topTo_spec (f : Nat → Rat) : ∀ a, (a = 0 ∧ topTo f a = none) ∨ ∃ y, topTo f a = some y ∧ (∀ i, i < a → f i ≤ y) ∧ ∃ i, i < a ∧ y = f i
  | 0 => .inl ⟨rfl, rfl⟩
  | a + 1 => by
    right
    rcases topTo_spec f a with ⟨h1, h2⟩ | ⟨y, h1, h2, i, h3, h4⟩
    · subst h1
      exact ⟨f 0, rfl, fun i hi => by have : i = 0 := by omega
                                      rw [this]; exact Rat.le_refl, 0, by omega, rfl⟩
    · unfold topTo
      rw [h1]
      by_cases hc : y < f a
      · refine ⟨f a, if_pos hc, fun i hi => ?_, a, by omega, rfl⟩
        by_cases e : i = a
        · rw [e]; exact Rat.le_refl
        · have := h2 i (by omega); grind
      · refine ⟨y, if_neg hc, fun i hi => ?_, i, by omega, h4⟩
        by_cases e : i = a
        · rw [e]; grind
        · exact h2 i (by omega)
def oD : Option Rat → Dt
  | none => .non
  | some y => .rat y
abbrev FdLjoints (P : Program) (w : World) (K : PySem.W.Frag) (mg : Str → Option Value) (base : Heap) (C : Addr) (k : Nat) := Fd P w K mg base C "_law_joints" ["_law_games_here"] k R_ljoints
abbrev FdLplayed (P : Program) (w : World) (K : PySem.W.Frag) (mg : Str → Option Value) (base : Heap) (C : Addr) (k : Nat) := Fd P w K mg base C "_law_played" ["_law_games_here", "_law_joint", "_law_at", "_law_discount_here", "_law_table"] k R_lplayed
abbrev FdRatios (P : Program) (w : World) (K : PySem.W.Frag) (mg : Str → Option Value) (base : Heap) (C : Addr) (k : Nat) := Fd P w K mg base C "_law_ratios" ["_law_values", "_law_count"] k R_ratios
theorem ok_best (F : Fun K "_law_is_best" "_law_is_best" s__law_is_best f fd) (A__law_joints : FdLjoints P w K mg base C k) (A__law_ratios : FdRatios P w K mg base C k) (A__law_played : FdLplayed P w K mg base C k) (A__law_less : Fd P w K mg base C "_law_less" ["_law_a", "_law_b"] k R_lless)
    (m_len : mg "len" = none) (m_range : mg "range" = none) : FnOk P w K mg base CX0 (k + 1) f fd ["_law_games_here", "_law_discount_here", "_law_halt", "_law_table"] (SpD K C R_best) := by
  refine ok_do F sc__law_is_best (fun ds d ⟨a, b, c, h, _⟩ => by rw [h]; rfl) fun cdv A outer s H E hr => ⟨_,
      (pss_cons (ps_set (i := 4) sc__law_is_best.nd rfl (.inl rfl) (pe_call A__law_joints.ok hr (by rfl) A__law_joints.g A__law_joints.kp A__law_joints.b .nil pass0 (pa_cons (pv 0) pa_nil)))
      (pss_cons (ps_if (pt_not (pt_val (pe_call A__law_ratios.ok hr (by rfl) A__law_ratios.g A__law_ratios.kp A__law_ratios.b .nil pass0 (pa_cons (pv 3) (pa_cons (pe_callB call_len_seq (by rfl) m_len PySem.boot_len (pa_cons (pv 4) pa_nil)) pa_nil)))))
      (pss_one (ps_ret pe_bl))
      pss_nil)
      (pss_cons (ps_for PassesOwn.never rfl (pi_range1 (by rfl) m_range (pa_cons (pe_callB call_len_seq (by rfl) m_len PySem.boot_len (pa_cons (pv 4) pa_nil)) pa_nil)) (pg_name (i := 5) sc__law_is_best.nd rfl (.inl rfl))
      (pss_cons (ps_set (i := 6) sc__law_is_best.nd rfl (.inl rfl) (pv 2))
        (pss_cons (ps_for PassesOwn.never rfl (pi_range1 (by rfl) m_range (pa_cons (pe_callB call_len_seq (by rfl) m_len PySem.boot_len (pa_cons (pv 0) pa_nil)) pa_nil)) (pg_name (i := 7) sc__law_is_best.nd rfl (.inl rfl))
        (pss_cons (ps_set (i := 8) sc__law_is_best.nd rfl (.inl rfl) (pe_call A__law_played.ok hr (by rfl) A__law_played.g A__law_played.kp A__law_played.b .nil pass0 (pa_cons (pv 0) (pa_cons (pe_ix ix_list (pv 4) (pv 5) (fun _ _ => rfl)) (pa_cons (pv 7) (pa_cons (pv 1) (pa_cons (pv 3) pa_nil)))))))
          (pss_one (ps_if (PW.pt (pw_or (pt_cmpR op_isN (pv 6) pe_non (nomark _)) (pw_or1 (pt_val (pe_call A__law_less.ok hr (by rfl) A__law_less.g A__law_less.kp A__law_less.b .nil pass0 (pa_cons (pv 6) (pa_cons (pv 8) pa_nil)))))))
          (pss_one (ps_set (i := 6) sc__law_is_best.nd rfl (.inl rfl) (pv 8)))
          pss_nil))))
        (pss_one (ps_if (pt_cmpR (op_neD hr.units) (pv 6) (pe_ix ix_tup (pv 3) (pv 5) (fun _ _ => rfl)) (nomark _))
        (pss_one (ps_ret pe_bl))
        pss_nil)))))
      (pss_one (ps_ret pe_bl))))), ?_⟩
  rintro _ _ ⟨Gs, b, W, rfl, L, hB, rfl⟩
  have Y := L.co
  have g5 := L.g5
  have n9 := L.n9
  have lenJ : (((joints Gs).map uD).length : Int) = (cN Gs : Int) := by rw [List.length_map]; rfl
  have lenG : ((Gs.map gD).length : Int) = (Gs.length : Int) := by rw [List.length_map]
  refine do_setc (ed_call (ea_1 (ed_var rfl)) ⟨Gs, rfl, L.jl, g5, rfl⟩) ?_
  refine do_seq (· = [.da (gsD Gs), .da (.rat b), .da .non, .da (rtp W), .da (.lst ((joints Gs).map uD)), .un, .un, .un, .un]) (do_if (b := !true) (et_not (et_B (ed_call (ea_2 (ed_var rfl) (show EvD K C _ _ (.int (cN Gs : Int)) from by rw [← lenJ]; exact ed_lenL (ed_var rfl).l)) ⟨W, by rw [L.len], L.w, rfl⟩))) (fun e => nomatch e) fun _ => do_next rfl) ?_
  rintro _ rfl
  refine do_seq (fun _ => True) ?_ fun _ _ => do_ret ed_bl rfl
  refine do_forR (fun kk Γ => ∃ x5 x6 x7 x8, Γ = [.da (gsD Gs), .da (.rat b), .da .non, .da (rtp W), .da (.lst ((joints Gs).map uD)), x5, x6, x7, x8]) (ei_rng1 (ea_1 (by rw [← lenJ]; exact ed_lenL (ed_var rfl).l)) (by omega)) ⟨_, _, _, _, rfl⟩ (fun kk Γ' hk hv => ?_) fun _ _ => trivial
  obtain ⟨x5, x6, x7, x8, rfl⟩ := hv
  refine do_setc (ed_var rfl) ?_
  have Lp := fun i hi => L.p kk i hk hi
  have Lpl := fun i hi => L.pl kk i hk hi
  obtain ⟨⟨i0, hi0, hW0⟩, hWm⟩ := hB kk hk
  have htop := topTo_spec ((world Gs b).pl (gt W) kk)
  refine do_seq (fun Γ => ∃ x7 x8, Γ = [.da (gsD Gs), .da (.rat b), .da .non, .da (rtp W), .da (.lst ((joints Gs).map uD)), .da (.int (kk : Int)), .da (oD (topTo ((world Gs b).pl (gt W) kk) Gs.length)), x7, x8]) ?_ ?_
  · refine do_forR (fun i Γ => ∃ x7 x8, Γ = [.da (gsD Gs), .da (.rat b), .da .non, .da (rtp W), .da (.lst ((joints Gs).map uD)), .da (.int (kk : Int)), .da (oD (topTo ((world Gs b).pl (gt W) kk) i)), x7, x8]) (ei_rng1 (ea_1 (by rw [← lenG]; exact ed_lenT (ed_var rfl))) (by omega)) ⟨_, _, rfl⟩ (fun i Γ' hi hv => ?_) fun Γ' hv => hv
    obtain ⟨x7, x8, rfl⟩ := hv
    refine do_setc (ed_call (ea_5 (ed_var rfl) (ed_ixL (ed_var rfl).l (ed_var rfl) (j_at hk)) (ed_var rfl) (ed_var rfl) (ed_var rfl)) ⟨Gs, b, W, kk, i, rfl, Y, L.len, hk, hi, g5, L.jl, Lp i hi, rfl⟩) ?_
    have es : topTo ((world Gs b).pl (gt W) kk) (i + 1) = match topTo ((world Gs b).pl (gt W) kk) i with | none => some ((world Gs b).pl (gt W) kk i) | some y => if y < (world Gs b).pl (gt W) kk i then some ((world Gs b).pl (gt W) kk i) else some y := rfl
    have li := Lpl i hi
    have hti := htop i
    rw [es]
    cases ht : topTo ((world Gs b).pl (gt W) kk) i with
    | none =>
      refine do_if (b := true) (et_or (a := true) (b := true) (et_test (ed_op (ed_var rfl) ed_non rd_isN)) fun z => nomatch z) (fun _ => do_set (ed_var rfl) ⟨_, _, rfl⟩) fun z => nomatch z
    | some y =>
      have ly : Lim y := by
        rcases hti with ⟨_, z⟩ | ⟨y', h1, _, j, hj, h4⟩
        · rw [ht] at z; cases z
        · rw [ht] at h1
          obtain rfl := Option.some.inj h1
          rw [h4]; exact Lpl j (by omega)
      refine do_if (b := false || decide (y < (world Gs b).pl (gt W) kk i)) (et_or (et_test (ed_op (ed_var rfl) ed_non rd_isN)) fun _ => et_B (ed_lless (ed_var rfl) (ed_var rfl) ly li)) (fun e => ?_) fun e => ?_
      · have e' : y < (world Gs b).pl (gt W) kk i := by simpa using e
        refine do_set (ed_var rfl) ?_
        dsimp only
        rw [if_pos e']
        exact ⟨_, _, rfl⟩
      · have e' : ¬ y < (world Gs b).pl (gt W) kk i := by simpa using e
        refine do_next ?_
        dsimp only
        rw [if_neg e']
        exact ⟨_, _, rfl⟩
  · rintro _ ⟨y7, y8, rfl⟩
    have hi0 : i0 < Gs.length := hi0
    have hWk : topTo ((world Gs b).pl (gt W) kk) Gs.length = some (gt W kk) := by
      rcases htop Gs.length with ⟨z, _⟩ | ⟨y, h1, h2, j, hj, h4⟩
      · omega
      · rw [h1]
        congr 1
        have h5 := h2 i0 hi0
        have h6 := hWm j hj
        grind
    rw [hWk]
    refine do_if (b := !decide (gt W kk = gt W kk)) (et_test (ed_op (ed_var rfl) (ed_ixT (ed_var rfl) (ed_var rfl) (rat_at (by rw [L.len]; exact hk))) rd_neR)) (fun e => by simp at e) fun _ => do_next ⟨_, _, _, _, rfl⟩
def R_followed (ds : List Dt) (d : Dt) : Prop := ∃ (Gs : List Gm) (ch : List Nat) (b : Rat) (W : List Rat), ds = [gsD Gs, uD ch, .rat b, rtp W] ∧ ChL Gs b W ∧ Cho Gs ch ∧ (world Gs b).Fol (fun k => ch.getD k 0) (gt W) ∧ d = .bl true
theorem ok_followed (F : Fun K "_law_is_followed" "_law_is_followed" s__law_is_followed f fd) (A__law_joints : FdLjoints P w K mg base C k) (A__law_ratios : FdRatios P w K mg base C k) (A__law_played : FdLplayed P w K mg base C k) (m_len : mg "len" = none) (m_range : mg "range" = none) :
    FnOk P w K mg base CX0 (k + 1) f fd ["_law_games_here", "_law_choices_here", "_law_discount_here", "_law_values"] (SpD K C R_followed) := by
  refine ok_do F sc__law_is_followed (fun ds d ⟨a, b, c, e, h, _⟩ => by rw [h]; rfl) fun cdv A outer s H E hr => ⟨_,
      (pss_cons (ps_set (i := 4) sc__law_is_followed.nd rfl (.inl rfl) (pe_call A__law_joints.ok hr (by rfl) A__law_joints.g A__law_joints.kp A__law_joints.b .nil pass0 (pa_cons (pv 0) pa_nil)))
      (pss_cons (ps_if (pt_not (pt_val (pe_call A__law_ratios.ok hr (by rfl) A__law_ratios.g A__law_ratios.kp A__law_ratios.b .nil pass0 (pa_cons (pv 3) (pa_cons (pe_callB call_len_seq (by rfl) m_len PySem.boot_len (pa_cons (pv 4) pa_nil)) pa_nil)))))
      (pss_one (ps_ret pe_bl))
      pss_nil)
      (pss_cons (ps_for PassesOwn.never rfl (pi_range1 (by rfl) m_range (pa_cons (pe_callB call_len_seq (by rfl) m_len PySem.boot_len (pa_cons (pv 4) pa_nil)) pa_nil)) (pg_name (i := 5) sc__law_is_followed.nd rfl (.inl rfl))
      (pss_one (ps_if (pt_cmpR (op_neD hr.units) (pe_ix ix_tup (pv 3) (pv 5) (fun _ _ => rfl)) (pe_call A__law_played.ok hr (by rfl) A__law_played.g A__law_played.kp A__law_played.b .nil pass0 (pa_cons (pv 0) (pa_cons (pe_ix ix_list (pv 4) (pv 5) (fun _ _ => rfl)) (pa_cons (pe_ix ix_tup (pv 1) (pv 5) (fun _ _ => rfl)) (pa_cons (pv 2) (pa_cons (pv 3) pa_nil)))))) (nomark _))
        (pss_one (ps_ret pe_bl))
        pss_nil)))
      (pss_one (ps_ret pe_bl))))), ?_⟩
  rintro _ _ ⟨Gs, ch, b, W, rfl, L, hc, hF, rfl⟩
  have Y := L.co
  have g5 := L.g5
  have n9 := L.n9
  have lenJ : (((joints Gs).map uD).length : Int) = (cN Gs : Int) := by rw [List.length_map]; rfl
  refine do_setc (ed_call (ea_1 (ed_var rfl)) ⟨Gs, rfl, L.jl, g5, rfl⟩) ?_
  refine do_seq (· = [.da (gsD Gs), .da (uD ch), .da (.rat b), .da (rtp W), .da (.lst ((joints Gs).map uD)), .un]) (do_if (b := !true) (et_not (et_B (ed_call (ea_2 (ed_var rfl) (show EvD K C _ _ (.int (cN Gs : Int)) from by rw [← lenJ]; exact ed_lenL (ed_var rfl).l)) ⟨W, by rw [L.len], L.w, rfl⟩))) (fun e => nomatch e) fun _ => do_next rfl) ?_
  rintro _ rfl
  refine do_seq (fun _ => True) ?_ fun _ _ => do_ret ed_bl rfl
  refine do_forR (fun kk Γ => ∃ x5, Γ = [.da (gsD Gs), .da (uD ch), .da (.rat b), .da (rtp W), .da (.lst ((joints Gs).map uD)), x5]) (ei_rng1 (ea_1 (by rw [← lenJ]; exact ed_lenL (ed_var rfl).l)) (by omega)) ⟨_, rfl⟩ (fun kk Γ' hk hv => ?_) fun _ _ => trivial
  obtain ⟨x5, rfl⟩ := hv
  have hci := hc.lt kk hk
  have hW := (hF kk hk).2
  have hW : gt W kk = (world Gs b).pl (gt W) kk (ch.getD kk 0) := hW
  refine do_if (b := !decide (gt W kk = (world Gs b).pl (gt W) kk (ch.getD kk 0))) (et_test (ed_op (ed_ixT (ed_var rfl) (ed_var rfl) (rat_at (by rw [L.len]; exact hk))) (ed_call (ea_5 (ed_var rfl) (ed_ixL (ed_var rfl).l (ed_var rfl) (j_at hk)) (ed_ixT (ed_var rfl) (ed_var rfl) (iD_at (by rw [hc.len]; exact hk))) (ed_var rfl) (ed_var rfl)) ⟨Gs, b, W, kk, ch.getD kk 0, rfl, Y, L.len, hk, hci, g5, L.jl, L.p kk _ hk hci, rfl⟩) rd_neR)) (fun e => ?_) fun _ => do_next ⟨_, rfl⟩
  rw [decide_eq_true hW] at e; cases e
def R_choicesOk (ds : List Dt) (d : Dt) : Prop := ∃ (Gs : List Gm) (ch : List Nat), ds = [uD ch, gsD Gs] ∧ Cho Gs ch ∧ JL Gs ∧ Gs.length ≤ 1000 ∧ d = .bl true
theorem ok_choicesOk (F : Fun K "_law_is_choices" "_law_is_choices" s__law_is_choices f fd) (A__law_joints : FdLjoints P w K mg base C k) (A__law_is_integer : FdIsI P w K mg base C k) (m_isinstance : mg "isinstance" = none) (m_tuple : mg "tuple" = none) (m_len : mg "len" = none) :
    FnOk P w K mg base CX0 (k + 1) f fd ["_law_told", "_law_games_here"] (SpD K C R_choicesOk) := by
  refine ok_do F sc__law_is_choices (fun ds d ⟨a, b, h, _⟩ => by rw [h]; rfl) fun cdv A outer s H E hr => ⟨_,
      (pss_cons (ps_if (PW.pt (pw_or (pt_not (pt_val (pe_callB call_isi (by rfl) m_isinstance boot_isinstance (pa_cons (pv 0) (pa_cons (pe_bltn (v := .ty "tuple") (u := .type "tuple") rfl m_tuple boot_tuple rfl) pa_nil))))) (pw_or1 (pt_cmpR op_ne (pe_callB call_len_seq (by rfl) m_len PySem.boot_len (pa_cons (pv 0) pa_nil)) (pe_callB call_len_seq (by rfl) m_len PySem.boot_len (pa_cons (pe_call A__law_joints.ok hr (by rfl) A__law_joints.g A__law_joints.kp A__law_joints.b .nil pass0 (pa_cons (pv 1) pa_nil)) pa_nil)) (nomark _)))))
      (pss_one (ps_ret pe_bl))
      pss_nil)
      (pss_cons (ps_for PassesOwn.never rfl (pi_tup (pv 0)) (pg_name (i := 2) sc__law_is_choices.nd rfl (.inl rfl))
      (pss_one (ps_if (PW.pt (pw_or (pt_not (pt_val (pe_call A__law_is_integer.ok hr (by rfl) A__law_is_integer.g A__law_is_integer.kp A__law_is_integer.b .nil pass0 (pa_cons (pv 2) pa_nil)))) (pw_or (pt_cmpR op_lt (pv 2) pe_int (nomark _)) (pw_or1 (pt_cmpR op_ge (pv 2) (pe_callB call_len_seq (by rfl) m_len PySem.boot_len (pa_cons (pv 1) pa_nil)) (nomark _))))))
        (pss_one (ps_ret pe_bl))
        pss_nil)))
      (pss_one (ps_ret pe_bl)))), ?_⟩
  rintro _ _ ⟨Gs, ch, rfl, hc, L, g5, rfl⟩
  have lenJ : (((joints Gs).map uD).length : Int) = (cN Gs : Int) := by rw [List.length_map]; rfl
  have lenC : ((iD ch).length : Int) = (cN Gs : Int) := by rw [iD_len, hc.len]
  have lenG : ((Gs.map gD).length : Int) = (Gs.length : Int) := by rw [List.length_map]
  refine do_seq (· = [.da (uD ch), .da (gsD Gs), .un]) (do_if (b := (!true) || !decide ((cN Gs : Int) = (cN Gs : Int))) (et_or (et_not (et_B (ed_cb (ea_2 (ed_var rfl) ed_ty) rc_isiT))) fun _ => et_test (ed_op (x := .int (cN Gs : Int)) (by rw [← lenC]; exact ed_lenT (ed_var rfl)) (by rw [← lenJ]; exact ed_lenL (EvD.l (ed_call (ea_1 (ed_var rfl)) ⟨Gs, rfl, L, g5, rfl⟩))) rd_neI)) (fun e => by simp at e) fun _ => do_next rfl) ?_
  rintro _ rfl
  refine do_seq (fun _ => True) ?_ fun _ _ => do_ret ed_bl rfl
  refine do_for (fun i Γ => ∃ x, Γ = [.da (uD ch), .da (gsD Gs), x]) (ei_tup (ed_var rfl)) ⟨_, rfl⟩ (fun _ _ _ => trivial) (fun i d Γ' hd hv => ?_) fun _ _ => trivial
  obtain ⟨x, rfl⟩ := hv
  have hi : i < ch.length := by have := get_le hd; rw [iD_len] at this; exact this
  rw [iD_at hi] at hd
  obtain rfl := Option.some.inj hd
  have hlt := hc.lt i (by rw [← hc.len]; exact hi)
  refine ⟨_, tg_name, do_if (b := (!true) || (decide ((ch.getD i 0 : Int) < 0) || decide ((Gs.length : Int) ≤ (ch.getD i 0 : Int)))) (et_or (et_not (et_B (ed_call (ea_1 (ed_var rfl)) ⟨_, rfl, rfl⟩))) fun _ => et_or (et_test (ed_op (ed_var rfl) ed_int rd_B0)) fun _ => et_test (ed_op (ed_var rfl) (by rw [← lenG]; exact ed_lenT (ed_var rfl)) rd_B0)) (fun e => ?_) fun _ => do_next ⟨_, rfl⟩⟩
  rw [decide_eq_false (by omega), decide_eq_false (by omega)] at e; cases e
end W16
set_option Elab.async false
set_option linter.all false
set_option maxRecDepth 100000
set_option maxHeartbeats 8000000
set_option exponentiation.threshold 100000
/-! W17: the games and choices of a script, the law -/
namespace W17
open PySem PySem.Spec PyProof.Rows L2 WA WB WT WC ML W1 W2 WD WE WF WG WH WK W3 W4 W5 W6 W9 W10 W11 W12 W13 W14 W15 W16
variable {P : Program} {w : World} {K : PySem.W.Frag} {mg : Str → Option Value} {base : Heap} {C : Addr} {k : Nat} {f : Addr} {fd : FuncData}
open ME (gt)
open MG (Gm Rw)
open MH (joints gAt jAt sAt world num Co tabM)
open MI (cN cvM Cho impM)
def cm1 (x : Nat) : Nat × Nat := if x / 2 % 4 = 1 then (3, 2) else (1 + x % 2, 3)
def cm2 (x : Nat) : Nat × Nat := if x / 32 % 16 = 1 then (5, 1) else cm1 x
def cmM (x : Nat) : Nat × Nat := if x / 32 % 16 = 2 then (1, 5) else cm2 x
theorem cm_ok (x : Nat) : 0 < (cmM x).1 ∧ (cmM x).1 ≤ 5 ∧ 0 < (cmM x).2 ∧ (cmM x).2 ≤ 5 := by
  unfold cmM cm2 cm1
  split
  · simp
  · split
    · simp
    · split
      · simp
      · simp; omega
def gsTo (ns : List Int) (fst : Nat) (most i : Nat) : List Gm := (List.range i).map fun k => gameM (cellM ns (fst + k)) most
def gsM (ns : List Int) (fst x : Nat) : List Gm := if 1 < (cmM x).1 ∧ x / 8 % 4 = 1 then (gsTo ns fst (cmM x).2 (cmM x).1).set 1 (gAt (gsTo ns fst (cmM x).2 (cmM x).1) 0) else gsTo ns fst (cmM x).2 (cmM x).1
def Bits (ns : List Int) : Prop := ∀ z ∈ ns, Builtin.Int.intBits z ≤ 1048576
theorem cell_bits {ns : List Int} (h : Bits ns) {i : Nat} (hi : i < 1000) : Builtin.Int.intBits (cellM ns i) ≤ 1048576 := by
  unfold cellM
  split
  · exact h _ (List.getElem_mem _)
  · exact Nat.le_trans (PyProof.Rows.intBits_le (k := 20) (by omega)) (by decide)
def R_lgames (ds : List Dt) (d : Dt) : Prop := ∃ (ns : List Int) (fst x : Nat), ds = [.scr ns, .int (fst : Int), .int (x : Int)] ∧ Bits ns ∧ fst ≤ 100 ∧ d = gsD (gsM ns fst x)
theorem ok_lgames (F : Fun K "_law_games" "_law_games" s__law_games f fd) (A__law_cell : Fd P w K mg base C "_law_cell" ["_law_script", "_law_k"] k R_cell) (A__law_game : Fd P w K mg base C "_law_game" ["_law_cell_here", "_law_most"] k R_game) (m_int : mg "int" = none) (m_range : mg "range" = none) (m_tuple : mg "tuple" = none) :
    FnOk P w K mg base CX0 (k + 1) f fd ["_law_script", "_law_first", "_law_draw"] (SpD K C R_lgames) := by
  refine ok_do F sc__law_games (fun ds d ⟨a, b, c, h, _⟩ => by rw [h]; rfl) fun cdv A outer s H E hr => ⟨_,
      (pss_cons (ps_set (i := 3) sc__law_games.nd rfl (.inl rfl) (pe_op op_add pe_int (pe_op op_mod (pe_callTy call_int1 (by rfl) m_int boot_int (pa_cons (pv 2) pa_nil)) pe_int)))
      (pss_cons (ps_set (i := 4) sc__law_games.nd rfl (.inl rfl) pe_int)
      (pss_cons (ps_if (pt_cmpR op_eq (pe_op op_mod (pe_op op_fdivC (pe_callTy call_int1 (by rfl) m_int boot_int (pa_cons (pv 2) pa_nil)) pe_int) pe_int) pe_int (nomark _))
      (pss_cons (ps_set (i := 3) sc__law_games.nd rfl (.inl rfl) pe_int)
        (pss_one (ps_set (i := 4) sc__law_games.nd rfl (.inl rfl) pe_int)))
      pss_nil)
      (pss_cons (ps_if (pt_cmpR op_eq (pe_op op_mod (pe_op op_fdivC (pe_callTy call_int1 (by rfl) m_int boot_int (pa_cons (pv 2) pa_nil)) pe_int) pe_int) pe_int (nomark _))
      (pss_cons (ps_set (i := 3) sc__law_games.nd rfl (.inl rfl) pe_int)
        (pss_one (ps_set (i := 4) sc__law_games.nd rfl (.inl rfl) pe_int)))
      pss_nil)
      (pss_cons (ps_if (pt_cmpR op_eq (pe_op op_mod (pe_op op_fdivC (pe_callTy call_int1 (by rfl) m_int boot_int (pa_cons (pv 2) pa_nil)) pe_int) pe_int) pe_int (nomark _))
      (pss_cons (ps_set (i := 3) sc__law_games.nd rfl (.inl rfl) pe_int)
        (pss_one (ps_set (i := 4) sc__law_games.nd rfl (.inl rfl) pe_int)))
      pss_nil)
      (pss_cons (ps_set (i := 5) sc__law_games.nd rfl (.inl rfl) (pe_lst pa_nil))
      (pss_cons (ps_for PassesOwn.never rfl (pi_range1 (by rfl) m_range (pa_cons (pv 3) pa_nil)) (pg_name (i := 6) sc__law_games.nd rfl (.inl rfl))
      (pss_one (ps_expr (pe_bm PySem.F.plainAttrs_list PySem.F.slot_list_append PySem.F.type_list_append mt_append (pv 5) (pa_cons (pe_call A__law_game.ok hr (by rfl) A__law_game.g A__law_game.kp A__law_game.b .nil pass0 (pa_cons (pe_call A__law_cell.ok hr (by rfl) A__law_cell.g A__law_cell.kp A__law_cell.b .nil pass0 (pa_cons (pv 0) (pa_cons (pe_op op_add (pv 1) (pv 6)) pa_nil))) (pa_cons (pv 4) pa_nil))) pa_nil)))))
      (pss_cons (ps_if (PW.pt (pw_and (pt_cmpR op_gt (pv 3) pe_int (nomark _)) (pw_and1 (pt_cmpR op_eq (pe_op op_mod (pe_op op_fdivC (pe_callTy call_int1 (by rfl) m_int boot_int (pa_cons (pv 2) pa_nil)) pe_int) pe_int) pe_int (nomark _)))))
      (pss_one (ps_asg (pe_ix ix_list (pv 5) pe_int (fun _ _ => rfl)) (pg_sub (pv 5) pe_int set_list)))
      pss_nil)
      (pss_one (ps_ret (pe_callTy call_tuple_of (by rfl) m_tuple boot_tuple (pa_cons (pv 5) pa_nil)))))))))))), ?_⟩
  rintro _ _ ⟨ns, fst, x, rfl, hb, hf, rfl⟩
  have ei : ∀ (a b : Nat), decide ((a : Int) = (b : Int)) = decide (a = b) := fun a b => by
    by_cases h : a = b
    · rw [decide_eq_true h, decide_eq_true (by omega)]
    · rw [decide_eq_false h, decide_eq_false (by omega)]
  refine do_setc (d := .int ((1 + x % 2 : Nat) : Int)) (ed_addN (a := 1) ed_int (ed_modN (b := 2) (ed_i (ed_var rfl)) ed_int (by decide))) ?_
  refine do_setc (ed_int (i := 3)) ?_
  refine do_seq (· = [.da (.scr ns), .da (.int (fst : Int)), .da (.int (x : Int)), .da (.int ((cm1 x).1 : Int)), .da (.int ((cm1 x).2 : Int)), .un, .un]) (do_if (b := decide (((x / 2 % 4 : Nat) : Int) = ((1 : Nat) : Int))) (et_test (ed_op (ed_modN (b := 4) (ed_divN (b := 2) (ed_i (ed_var rfl)) ed_int (by decide) (by decide +kernel)) ed_int (by decide)) ed_int rd_eqI)) (fun e => ?_) fun e => ?_) ?_
  · rw [ei] at e
    have : cm1 x = (3, 2) := by unfold cm1; rw [if_pos (of_decide_eq_true e)]
    rw [this]
    exact do_setc ed_int (do_set ed_int rfl)
  · rw [ei] at e
    have : cm1 x = (1 + x % 2, 3) := by unfold cm1; rw [if_neg (of_decide_eq_false e)]
    rw [this]
    exact do_next rfl
  rintro _ rfl
  refine do_seq (· = [.da (.scr ns), .da (.int (fst : Int)), .da (.int (x : Int)), .da (.int ((cm2 x).1 : Int)), .da (.int ((cm2 x).2 : Int)), .un, .un]) (do_if (b := decide (((x / 32 % 16 : Nat) : Int) = ((1 : Nat) : Int))) (et_test (ed_op (ed_modN (b := 16) (ed_divN (b := 32) (ed_i (ed_var rfl)) ed_int (by decide) (by decide +kernel)) ed_int (by decide)) ed_int rd_eqI)) (fun e => ?_) fun e => ?_) ?_
  · rw [ei] at e
    have : cm2 x = (5, 1) := by unfold cm2; rw [if_pos (of_decide_eq_true e)]
    rw [this]
    exact do_setc ed_int (do_set ed_int rfl)
  · rw [ei] at e
    have : cm2 x = cm1 x := by unfold cm2; rw [if_neg (of_decide_eq_false e)]
    rw [this]
    exact do_next rfl
  rintro _ rfl
  refine do_seq (· = [.da (.scr ns), .da (.int (fst : Int)), .da (.int (x : Int)), .da (.int ((cmM x).1 : Int)), .da (.int ((cmM x).2 : Int)), .un, .un]) (do_if (b := decide (((x / 32 % 16 : Nat) : Int) = ((2 : Nat) : Int))) (et_test (ed_op (ed_modN (b := 16) (ed_divN (b := 32) (ed_i (ed_var rfl)) ed_int (by decide) (by decide +kernel)) ed_int (by decide)) ed_int rd_eqI)) (fun e => ?_) fun e => ?_) ?_
  · rw [ei] at e
    have : cmM x = (1, 5) := by unfold cmM; rw [if_pos (of_decide_eq_true e)]
    rw [this]
    exact do_setc ed_int (do_set ed_int rfl)
  · rw [ei] at e
    have : cmM x = cm2 x := by unfold cmM; rw [if_neg (of_decide_eq_false e)]
    rw [this]
    exact do_next rfl
  rintro _ rfl
  obtain ⟨c1, c2, c3, c4⟩ := cm_ok x
  have egs : gsM ns fst x = if 1 < (cmM x).1 ∧ x / 8 % 4 = 1 then (gsTo ns fst (cmM x).2 (cmM x).1).set 1 (gAt (gsTo ns fst (cmM x).2 (cmM x).1) 0) else gsTo ns fst (cmM x).2 (cmM x).1 := rfl
  rw [egs]
  generalize cmM x = cm at *
  obtain ⟨cnt, most⟩ := cm
  dsimp only at c1 c2 c3 c4 ⊢
  refine do_setNc (en_lst ea_nil (by decide)) fun p => ?_
  refine do_seq (fun Γ => ∃ x6, Γ = [.da (.scr ns), .da (.int (fst : Int)), .da (.int (x : Int)), .da (.int (cnt : Int)), .da (.int (most : Int)), .ow p ((gsTo ns fst most cnt).map gD), x6]) ?_ ?_
  · refine do_forR (fun i Γ => ∃ x6, Γ = [.da (.scr ns), .da (.int (fst : Int)), .da (.int (x : Int)), .da (.int (cnt : Int)), .da (.int (most : Int)), .ow p ((gsTo ns fst most i).map gD), x6]) (ei_rng1 (ea_1 (ed_var rfl)) (by omega)) ⟨_, rfl⟩ (fun i Γ' hi hv => ?_) fun Γ' hv => hv
    obtain ⟨x6, rfl⟩ := hv
    refine do_append (i := 5) rfl (ed_call (ea_2 (ed_call (ea_2 (ed_var rfl) (ed_addN (ed_var rfl) (ed_var rfl))) ⟨ns, fst + i, rfl, by omega, rfl⟩) (ed_var rfl)) ⟨cellM ns (fst + i), most, rfl, c3, c4, cell_bits hb (by omega), rfl⟩) (by unfold gsTo; rw [List.length_map, List.length_map, List.length_range]; omega) ⟨.da (.int (i : Int)), ?_⟩
    unfold gsTo
    rw [List.range_succ, List.map_append, List.map_append]; rfl
  · rintro _ ⟨x6, rfl⟩
    have hl : (gsTo ns fst most cnt).length = cnt := by unfold gsTo; simp
    generalize gsTo ns fst most cnt = G0 at *
    refine do_seq (fun Γ => ∃ x6, Γ = [.da (.scr ns), .da (.int (fst : Int)), .da (.int (x : Int)), .da (.int (cnt : Int)), .da (.int (most : Int)), .ow p ((if 1 < cnt ∧ x / 8 % 4 = 1 then G0.set 1 (gAt G0 0) else G0).map gD), x6]) (do_if (b := decide (((1 : Nat) : Int) < (cnt : Int)) && decide (((x / 8 % 4 : Nat) : Int) = ((1 : Nat) : Int))) (et_and (et_test (ed_op (ed_var rfl) ed_int rd_B0)) fun _ => et_test (ed_op (ed_modN (b := 4) (ed_divN (b := 8) (ed_i (ed_var rfl)) ed_int (by decide) (by decide +kernel)) ed_int (by decide)) ed_int rd_eqI)) (fun e => ?_) fun e => ?_) ?_
    · obtain ⟨e1, e2⟩ := Bool.and_eq_true_iff.mp e
      rw [ei] at e2
      have h1 : 1 < cnt := by have := of_decide_eq_true e1; omega
      have h2 := of_decide_eq_true e2
      rw [if_pos ⟨h1, h2⟩]
      refine do_setAt (i := 5) (j := 1) rfl (ed_ixL (i := 0) (el_var rfl) ed_int (at_map (f := gD) (g_at (by omega)))) ed_int (by rw [List.length_map]; omega) ?_
      rw [List.map_set]
      exact ⟨_, rfl⟩
    · have hn : ¬ (1 < cnt ∧ x / 8 % 4 = 1) := fun ⟨z1, z2⟩ => by
        rw [ei, decide_eq_true (show ((1 : Nat) : Int) < (cnt : Int) by omega), decide_eq_true z2] at e
        cases e
      rw [if_neg hn]
      exact do_next ⟨_, rfl⟩
    · rintro _ ⟨y6, rfl⟩
      exact do_ret (ed_tupL (el_var rfl)) rfl
/-! ### choices -/
def chM (cell : Int) (Gs : List Gm) : List Nat := (drawsM cell (cN Gs)).map fun x => x % Gs.length
def R_lchoices (ds : List Dt) (d : Dt) : Prop := ∃ (cell : Int) (Gs : List Gm), ds = [.int cell, gsD Gs] ∧ Builtin.Int.intBits cell ≤ 1048576 ∧ JL Gs ∧ 0 < Gs.length ∧ Gs.length ≤ 1000 ∧ cN Gs ≤ 1000 ∧ d = uD (chM cell Gs)
theorem ok_lchoices (F : Fun K "_law_choices" "_law_choices" s__law_choices f fd) (A__law_draws : Fd P w K mg base C "_law_draws" ["_law_cell_here", "_law_count"] k R_draws) (A__law_joints : FdLjoints P w K mg base C k) (m_int : mg "int" = none) (m_len : mg "len" = none) (m_tuple : mg "tuple" = none) :
    FnOk P w K mg base CX0 (k + 1) f fd ["_law_cell_here", "_law_games_here"] (SpD K C R_lchoices) := by
  refine ok_do F sc__law_choices (fun ds d ⟨a, b, h, _⟩ => by rw [h]; rfl) fun cdv A outer s H E hr => ⟨_,
      (pss_cons (ps_set (i := 2) sc__law_choices.nd rfl (.inl rfl) (pe_call A__law_draws.ok hr (by rfl) A__law_draws.g A__law_draws.kp A__law_draws.b .nil pass0 (pa_cons (pv 0) (pa_cons (pe_callB call_len_seq (by rfl) m_len PySem.boot_len (pa_cons (pe_call A__law_joints.ok hr (by rfl) A__law_joints.g A__law_joints.kp A__law_joints.b .nil pass0 (pa_cons (pv 1) pa_nil)) pa_nil)) pa_nil))))
      (pss_one (ps_ret (pe_callTy call_tuple_of (by rfl) m_tuple boot_tuple (pa_cons (pe_lc (own := [("_law_draw", 3)]) rfl sc__law_choices.nd (pi_list (pv 2)) (blkOk_by (N := N__law_choices) (sc := defScope s__law_choices) (by decide +kernel)) (fun _ _ _ _ _ => (pg_name (i := 3) sc__law_choices.nd rfl (.inl rfl))) (fun _ _ _ _ _ => pts_nil) (fun _ _ _ _ _ => (pe_op op_mod (pe_callTy call_int1 (by rfl) m_int boot_int (pa_cons (pv 3) pa_nil)) (pe_callB (k_len (K := K) rfl) (by rfl) m_len PySem.boot_len (pa_cons (pv 1) pa_nil))))) pa_nil))))), ?_⟩
  rintro _ _ ⟨cell, Gs, rfl, hb, J, g0, g5, n9, rfl⟩
  have lenJ : (((joints Gs).map uD).length : Int) = (cN Gs : Int) := by rw [List.length_map]; rfl
  have lenG : ((Gs.map gD).length : Int) = (Gs.length : Int) := by rw [List.length_map]
  have hl : (drawsM cell (cN Gs)).length = cN Gs := drTo_len cell _
  refine do_setc (ed_call (ea_2 (ed_var rfl) (show EvD K C _ _ (.int (cN Gs : Int)) from by rw [← lenJ]; exact ed_lenL (EvD.l (ed_call (ea_1 (ed_var rfl)) ⟨Gs, rfl, J, g5, rfl⟩)))) ⟨cell, cN Gs, rfl, hb, n9, rfl⟩) ?_
  refine do_ret (ed_tupL (EvN.l (en_lcS (es := iD (chM cell Gs)) (ei_list (ed_var rfl)) trivial (by rw [iD_len]; omega) (by rw [iD_len, iD_len]; unfold chM; rw [List.length_map]) fun i d e hd he => ?_))) rfl
  unfold iD at hd
  obtain ⟨q, hq, rfl⟩ := map_at hd
  unfold iD chM at he
  rw [List.map_map, List.getElem?_map, hq] at he
  obtain rfl := Option.some.inj he
  exact ⟨_, tgc_name (by simp), ed_modN (ed_i (ed_var rfl)) (by rw [← lenG]; exact ed_lenT (ed_var rfl)) g0⟩
/-! ### the law -/
structure FdV (P : Program) (w : World) (K : PySem.W.Frag) (mg : Str → Option Value) (base : Heap) (C : Addr) (k : Nat) where
  f : Addr
  fd : FuncData
  ds : List Value
  ok : FnOk P w K mg base CX0 k f fd ["games", "discount", "stop"] (SpD K C R_vt)
  g : mg "value_table" = some (.ref f)
  kp : PySem.W.keepIn K (.ref f) = true
  b : Binds K fd ["games", "discount", "stop"] ds
  d : Vals [V.non] ds
theorem ed_callV {Γ : List Sl} {ta : TA} {R : List Dt → Dt → Prop} {ds : List Dt} {d : Dt} {Ex : XK} (h : EvA K C ta Γ ds) (hr : R (ds ++ [.non]) d) : EvD K C (tCall (SpD K C R) [V.non] Ex ta) Γ d := fun H0 B H σ E Q q =>
  h H0 B H σ E _ fun vs B1 H1 P1 k1 => ⟨B1, ds ++ [.non], d, P1.sub, k1.snoc .non, hr, fun v B2 H2 P2 k2 => q v B2 H2 (P1.trans P2) k2⟩
/-- the numbers of a script -/
def drM (ns : List Int) : List Nat := drawsM (cellM ns 0) 2
def bM (ns : List Int) : Rat := dcM ((drM ns).getD 0 0)
def GsM (ns : List Int) : List Gm := gsM ns 1 ((drM ns).getD 1 0)
def cM (ns : List Int) : List Nat := chM (cellM ns 4) (GsM ns)
structure LawL (Gs : List Gm) (b : Rat) (ch : List Nat) : Prop where
  co : Co Gs b
  cho : Cho Gs ch
  jl : JL Gs
  g5 : Gs.length ≤ 1000
  n9 : cN Gs ≤ 9
  vt : VtL Gs b
  im : ImL Gs ch b
  im2 : ImL Gs (impM Gs ch b) b
  tb : ChL Gs b (tabM Gs b)
  c1 : ChL Gs b (cvM Gs ch b)
  c2 : ChL Gs b (cvM Gs (impM Gs ch b) b)
def R_law (ds : List Dt) (d : Dt) : Prop := ∃ ns : List Int, ds = [.scr ns] ∧ Bits ns ∧ LawL (GsM ns) (bM ns) (cM ns) ∧ d = .bl true
theorem ok_law (F : Fun K "law" "law" s_law f fd) (A__law_cell : Fd P w K mg base C "_law_cell" ["_law_script", "_law_k"] k R_cell) (A__law_draws : Fd P w K mg base C "_law_draws" ["_law_cell_here", "_law_count"] k R_draws) (A__law_discount : Fd P w K mg base C "_law_discount" ["_law_draw"] k R_disc)
    (A__law_games : Fd P w K mg base C "_law_games" ["_law_script", "_law_first", "_law_draw"] k R_lgames) (A__law_choices : Fd P w K mg base C "_law_choices" ["_law_cell_here", "_law_games_here"] k R_lchoices) (A_value_table : FdV P w K mg base C k)
    (A_choice_values : Fd P w K mg base C "choice_values" ["games", "choices", "discount"] k R_cv) (A__law_is_best : Fd P w K mg base C "_law_is_best" ["_law_games_here", "_law_discount_here", "_law_halt", "_law_table"] k R_best)
    (A__law_is_followed : Fd P w K mg base C "_law_is_followed" ["_law_games_here", "_law_choices_here", "_law_discount_here", "_law_values"] k R_followed) (A_improved : Fd P w K mg base C "improved" ["games", "choices", "discount"] k R_improved)
    (A__law_is_choices : Fd P w K mg base C "_law_is_choices" ["_law_told", "_law_games_here"] k R_choicesOk) (A__law_less : Fd P w K mg base C "_law_less" ["_law_a", "_law_b"] k R_lless) (m_len : mg "len" = none) (m_range : mg "range" = none) : FnOk P w K mg base CX0 (k + 1) f fd ["_law_script"] (SpD K C R_law) := by
  refine ok_do F sc_law (fun ds d ⟨a, h, _⟩ => by rw [h]; rfl) fun cdv A outer s H E hr => ⟨_,
      (pss_cons (ps_set (i := 1) sc_law.nd rfl (.inl rfl) (pe_call A__law_draws.ok hr (by rfl) A__law_draws.g A__law_draws.kp A__law_draws.b .nil pass0 (pa_cons (pe_call A__law_cell.ok hr (by rfl) A__law_cell.g A__law_cell.kp A__law_cell.b .nil pass0 (pa_cons (pv 0) (pa_cons pe_int pa_nil))) (pa_cons pe_int pa_nil))))
      (pss_cons (ps_set (i := 2) sc_law.nd rfl (.inl rfl) (pe_call A__law_discount.ok hr (by rfl) A__law_discount.g A__law_discount.kp A__law_discount.b .nil pass0 (pa_cons (pe_ix ix_list (pv 1) pe_int (fun _ _ => rfl)) pa_nil)))
      (pss_cons (ps_set (i := 3) sc_law.nd rfl (.inl rfl) (pe_call A__law_games.ok hr (by rfl) A__law_games.g A__law_games.kp A__law_games.b .nil pass0 (pa_cons (pv 0) (pa_cons pe_int (pa_cons (pe_ix ix_list (pv 1) pe_int (fun _ _ => rfl)) pa_nil)))))
      (pss_cons (ps_set (i := 4) sc_law.nd rfl (.inl rfl) (pe_call A__law_choices.ok hr (by rfl) A__law_choices.g A__law_choices.kp A__law_choices.b .nil pass0 (pa_cons (pe_call A__law_cell.ok hr (by rfl) A__law_cell.g A__law_cell.kp A__law_cell.b .nil pass0 (pa_cons (pv 0) (pa_cons pe_int pa_nil))) (pa_cons (pv 3) pa_nil))))
      (pss_cons (ps_set (i := 5) sc_law.nd rfl (.inl rfl) (pe_call A_value_table.ok hr (by rfl) A_value_table.g A_value_table.kp A_value_table.b A_value_table.d pass0 (pa_cons (pv 3) (pa_cons (pv 2) pa_nil))))
      (pss_cons (ps_set (i := 6) sc_law.nd rfl (.inl rfl) (pe_call A_choice_values.ok hr (by rfl) A_choice_values.g A_choice_values.kp A_choice_values.b .nil pass0 (pa_cons (pv 3) (pa_cons (pv 4) (pa_cons (pv 2) pa_nil)))))
      (pss_cons (ps_if (PW.pt (pw_or (pt_not (pt_val (pe_call A__law_is_best.ok hr (by rfl) A__law_is_best.g A__law_is_best.kp A__law_is_best.b .nil pass0 (pa_cons (pv 3) (pa_cons (pv 2) (pa_cons pe_non (pa_cons (pv 5) pa_nil))))))) (pw_or1 (pt_not (pt_val (pe_call A__law_is_followed.ok hr (by rfl) A__law_is_followed.g A__law_is_followed.kp A__law_is_followed.b .nil pass0 (pa_cons (pv 3) (pa_cons (pv 4) (pa_cons (pv 2) (pa_cons (pv 6) pa_nil))))))))))
      (pss_one (ps_ret pe_bl))
      pss_nil)
      (pss_cons (ps_set (i := 7) sc_law.nd rfl (.inl rfl) (pe_call A_improved.ok hr (by rfl) A_improved.g A_improved.kp A_improved.b .nil pass0 (pa_cons (pv 3) (pa_cons (pv 4) (pa_cons (pv 2) pa_nil)))))
      (pss_cons (ps_if (pt_not (pt_val (pe_call A__law_is_choices.ok hr (by rfl) A__law_is_choices.g A__law_is_choices.kp A__law_is_choices.b .nil pass0 (pa_cons (pv 7) (pa_cons (pv 3) pa_nil)))))
      (pss_one (ps_ret pe_bl))
      pss_nil)
      (pss_cons (ps_set (i := 8) sc_law.nd rfl (.inl rfl) (pe_call A_choice_values.ok hr (by rfl) A_choice_values.g A_choice_values.kp A_choice_values.b .nil pass0 (pa_cons (pv 3) (pa_cons (pv 7) (pa_cons (pv 2) pa_nil)))))
      (pss_cons (ps_if (pt_not (pt_val (pe_call A__law_is_followed.ok hr (by rfl) A__law_is_followed.g A__law_is_followed.kp A__law_is_followed.b .nil pass0 (pa_cons (pv 3) (pa_cons (pv 7) (pa_cons (pv 2) (pa_cons (pv 8) pa_nil)))))))
      (pss_one (ps_ret pe_bl))
      pss_nil)
      (pss_cons (ps_for PassesOwn.never rfl (pi_range1 (by rfl) m_range (pa_cons (pe_callB call_len_seq (by rfl) m_len PySem.boot_len (pa_cons (pv 5) pa_nil)) pa_nil)) (pg_name (i := 9) sc_law.nd rfl (.inl rfl))
      (pss_cons (ps_if (PW.pt (pw_or (pt_val (pe_call A__law_less.ok hr (by rfl) A__law_less.g A__law_less.kp A__law_less.b .nil pass0 (pa_cons (pe_ix ix_tup (pv 8) (pv 9) (fun _ _ => rfl)) (pa_cons (pe_ix ix_tup (pv 6) (pv 9) (fun _ _ => rfl)) pa_nil)))) (pw_or1 (pt_val (pe_call A__law_less.ok hr (by rfl) A__law_less.g A__law_less.kp A__law_less.b .nil pass0 (pa_cons (pe_ix ix_tup (pv 5) (pv 9) (fun _ _ => rfl)) (pa_cons (pe_ix ix_tup (pv 8) (pv 9) (fun _ _ => rfl)) pa_nil)))))))
        (pss_one (ps_ret pe_bl))
        pss_nil)
        (pss_one (ps_if (PW.pt (pw_and (pt_cmpR op_ne (pe_ix ix_tup (pv 7) (pv 9) (fun _ _ => rfl)) (pe_ix ix_tup (pv 4) (pv 9) (fun _ _ => rfl)) (nomark _)) (pw_and1 (pt_not (pt_val (pe_call A__law_less.ok hr (by rfl) A__law_less.g A__law_less.kp A__law_less.b .nil pass0 (pa_cons (pe_ix ix_tup (pv 6) (pv 9) (fun _ _ => rfl)) (pa_cons (pe_ix ix_tup (pv 8) (pv 9) (fun _ _ => rfl)) pa_nil))))))))
        (pss_one (ps_ret pe_bl))
        pss_nil))))
      (pss_one (ps_ret (pe_cmpR op_eq (pe_cmpR (op_eqD hr.units) (pv 7) (pv 4) (nomark _)) (pe_cmpR (op_eqD hr.units) (pv 6) (pv 5) (nomark _)) (nomark _)))))))))))))))), ?_⟩
  rintro _ _ ⟨ns, rfl, hb, L, rfl⟩
  have hdl : (drM ns).length = 2 := drTo_len _ _
  have dat : ∀ {i : Nat}, i < 2 → (iD (drM ns))[i]? = some (.int ((drM ns).getD i 0 : Int)) := fun {i} hi => iD_at (by omega)
  refine do_setc (d := .lst (iD (drM ns))) (ed_call (ea_2 (ed_call (ea_2 (ed_var rfl) ed_int) ⟨ns, 0, rfl, by decide, rfl⟩) ed_int) ⟨cellM ns 0, 2, rfl, cell_bits hb (by decide), by decide, rfl⟩) ?_
  refine do_setc (d := .rat (bM ns)) (ed_call (ea_1 (ed_ixL (i := 0) (ed_var rfl).l ed_int (dat (by decide)))) ⟨_, rfl, rfl⟩) ?_
  refine do_setc (d := gsD (GsM ns)) (ed_call (ea_3 (ed_var rfl) ed_int (ed_ixL (i := 1) (ed_var rfl).l ed_int (dat (by decide)))) ⟨ns, 1, _, rfl, hb, by decide, rfl⟩) ?_
  have Y := L.co
  have g5 := L.g5
  have n9 := L.n9
  refine do_setc (d := uD (cM ns)) (ed_call (ea_2 (ed_call (ea_2 (ed_var rfl) ed_int) ⟨ns, 4, rfl, by decide, rfl⟩) (ed_var rfl)) ⟨cellM ns 4, GsM ns, rfl, cell_bits hb (by decide), L.jl, Y.ne, g5, by omega, rfl⟩) ?_
  have h := L.cho
  have vt := L.vt
  have im := L.im
  have im2 := L.im2
  have tb := L.tb
  have c1 := L.c1
  have c2 := L.c2
  have jl := L.jl
  generalize GsM ns = Gs at *
  generalize bM ns = b at *
  generalize cM ns = ch at *
  have h2 := MI.imp_cho Y h
  have le := fun {kk : Nat} (hk : kk < cN Gs) => MI.law_le Y h hk
  have top := fun {kk : Nat} (hk : kk < cN Gs) => MI.law_top Y h hk
  have lt := fun {kk : Nat} (hk : kk < cN Gs) => MI.law_lt Y h hk
  have same := MI.law_same Y h
  have bestT := MH.tab_best Y
  have fol1 := MI.cv_fol Y h
  have fol2 := MI.cv_fol Y h2
  have lT := MI.tabM_len Y
  have l1 := MI.cvM_len Y h
  have l2 := MI.cvM_len Y h2
  refine do_setc (d := rtp (tabM Gs b)) (ed_callV (ea_2 (ed_var rfl) (ed_var rfl)) ⟨Gs, b, rfl, Y, vt, rfl⟩) ?_
  refine do_setc (d := rtp (cvM Gs ch b)) (ed_call (ea_3 (ed_var rfl) (ed_var rfl) (ed_var rfl)) ⟨Gs, ch, b, rfl, Y, h, im.cc, rfl⟩) ?_
  refine do_seq (fun Γ => ∃ x1, Γ = [.da (.scr ns), x1, .da (.rat b), .da (gsD Gs), .da (uD ch), .da (rtp (tabM Gs b)), .da (rtp (cvM Gs ch b)), .un, .un, .un]) (do_if (b := (!true) || (!true)) (et_or (et_not (et_B (ed_call (ea_4 (ed_var rfl) (ed_var rfl) ed_non (ed_var rfl)) ⟨Gs, b, tabM Gs b, rfl, tb, bestT, rfl⟩))) fun _ => et_not (et_B (ed_call (ea_4 (ed_var rfl) (ed_var rfl) (ed_var rfl) (ed_var rfl)) ⟨Gs, ch, b, cvM Gs ch b, rfl, c1, h, fol1, rfl⟩))) (fun e => nomatch e) fun _ => do_next ⟨_, rfl⟩) ?_
  rintro _ ⟨x1, rfl⟩
  refine do_setc (d := uD (impM Gs ch b)) (ed_call (ea_3 (ed_var rfl) (ed_var rfl) (ed_var rfl)) ⟨Gs, ch, b, rfl, Y, h, im, rfl⟩) ?_
  refine do_seq (· = [.da (.scr ns), x1, .da (.rat b), .da (gsD Gs), .da (uD ch), .da (rtp (tabM Gs b)), .da (rtp (cvM Gs ch b)), .da (uD (impM Gs ch b)), .un, .un]) (do_if (b := !true) (et_not (et_B (ed_call (ea_2 (ed_var rfl) (ed_var rfl)) ⟨Gs, impM Gs ch b, rfl, h2, jl, g5, rfl⟩))) (fun e => nomatch e) fun _ => do_next rfl) ?_
  rintro _ rfl
  refine do_setc (d := rtp (cvM Gs (impM Gs ch b) b)) (ed_call (ea_3 (ed_var rfl) (ed_var rfl) (ed_var rfl)) ⟨Gs, impM Gs ch b, b, rfl, Y, h2, im2.cc, rfl⟩) ?_
  refine do_seq (· = [.da (.scr ns), x1, .da (.rat b), .da (gsD Gs), .da (uD ch), .da (rtp (tabM Gs b)), .da (rtp (cvM Gs ch b)), .da (uD (impM Gs ch b)), .da (rtp (cvM Gs (impM Gs ch b) b)), .un]) (do_if (b := !true) (et_not (et_B (ed_call (ea_4 (ed_var rfl) (ed_var rfl) (ed_var rfl) (ed_var rfl)) ⟨Gs, impM Gs ch b, b, _, rfl, c2, h2, fol2, rfl⟩))) (fun e => nomatch e) fun _ => do_next rfl) ?_
  rintro _ rfl
  have lenT : (((tabM Gs b).map Dt.rat).length : Int) = (cN Gs : Int) := by rw [List.length_map, lT]
  have wT : ∀ {kk : Nat}, kk < cN Gs → Lim (gt (tabM Gs b) kk) := fun {kk} hk => tb.w _ (List.mem_of_getElem? (ME.get_of_gt (by omega)))
  have w1 : ∀ {kk : Nat}, kk < cN Gs → Lim (gt (cvM Gs ch b) kk) := fun {kk} hk => c1.w _ (List.mem_of_getElem? (ME.get_of_gt (by omega)))
  have w2 : ∀ {kk : Nat}, kk < cN Gs → Lim (gt (cvM Gs (impM Gs ch b) b) kk) := fun {kk} hk => c2.w _ (List.mem_of_getElem? (ME.get_of_gt (by omega)))
  have rT : ∀ {kk : Nat}, kk < cN Gs → ((tabM Gs b).map Dt.rat)[kk]? = some (.rat (gt (tabM Gs b) kk)) := fun {kk} hk => rat_at (by omega)
  have r1 : ∀ {kk : Nat}, kk < cN Gs → ((cvM Gs ch b).map Dt.rat)[kk]? = some (.rat (gt (cvM Gs ch b) kk)) := fun {kk} hk => rat_at (by omega)
  have r2 : ∀ {kk : Nat}, kk < cN Gs → ((cvM Gs (impM Gs ch b) b).map Dt.rat)[kk]? = some (.rat (gt (cvM Gs (impM Gs ch b) b) kk)) := fun {kk} hk => rat_at (by omega)
  refine do_seq (fun Γ => ∃ x9, Γ = [.da (.scr ns), x1, .da (.rat b), .da (gsD Gs), .da (uD ch), .da (rtp (tabM Gs b)), .da (rtp (cvM Gs ch b)), .da (uD (impM Gs ch b)), .da (rtp (cvM Gs (impM Gs ch b) b)), x9]) ?_ ?_
  · refine do_forR (fun kk Γ => ∃ x9, Γ = [.da (.scr ns), x1, .da (.rat b), .da (gsD Gs), .da (uD ch), .da (rtp (tabM Gs b)), .da (rtp (cvM Gs ch b)), .da (uD (impM Gs ch b)), .da (rtp (cvM Gs (impM Gs ch b) b)), x9]) (ei_rng1 (n := cN Gs) (ea_1 (by rw [← lenT]; exact ed_lenT (ed_var rfl))) (by omega)) ⟨_, rfl⟩ (fun kk Γ' hk hv => ?_) fun Γ' hv => hv
    obtain ⟨x9, rfl⟩ := hv
    have v1 := le hk
    have v2 := top hk
    have v3 := lt hk
    refine do_seq (· = [.da (.scr ns), x1, .da (.rat b), .da (gsD Gs), .da (uD ch), .da (rtp (tabM Gs b)), .da (rtp (cvM Gs ch b)), .da (uD (impM Gs ch b)), .da (rtp (cvM Gs (impM Gs ch b) b)), .da (.int (kk : Int))]) (do_if (b := decide (gt (cvM Gs (impM Gs ch b) b) kk < gt (cvM Gs ch b) kk) || decide (gt (tabM Gs b) kk < gt (cvM Gs (impM Gs ch b) b) kk)) (et_or (et_B (ed_lless (ed_ixT (ed_var rfl) (ed_var rfl) (r2 hk)) (ed_ixT (ed_var rfl) (ed_var rfl) (r1 hk)) (w2 hk) (w1 hk))) fun _ => et_B (ed_lless (ed_ixT (ed_var rfl) (ed_var rfl) (rT hk)) (ed_ixT (ed_var rfl) (ed_var rfl) (r2 hk)) (wT hk) (w2 hk))) (fun e => ?_) fun _ => do_next rfl) ?_
    · rw [decide_eq_false (by grind), decide_eq_false (by grind)] at e; cases e
    rintro _ rfl
    refine do_if (b := (!decide (((impM Gs ch b).getD kk 0 : Int) = (ch.getD kk 0 : Int))) && !decide (gt (cvM Gs ch b) kk < gt (cvM Gs (impM Gs ch b) b) kk)) (et_and (et_test (ed_op (ed_ixT (ed_var rfl) (ed_var rfl) (iD_at (by rw [h2.len]; exact hk))) (ed_ixT (ed_var rfl) (ed_var rfl) (iD_at (by rw [h.len]; exact hk))) rd_neI)) fun _ => et_not (et_B (ed_lless (ed_ixT (ed_var rfl) (ed_var rfl) (r1 hk)) (ed_ixT (ed_var rfl) (ed_var rfl) (r2 hk)) (w1 hk) (w2 hk)))) (fun e => ?_) fun _ => do_next ⟨_, rfl⟩
    obtain ⟨e1, e2⟩ := Bool.and_eq_true_iff.mp e
    have hne : (impM Gs ch b).getD kk 0 ≠ ch.getD kk 0 := fun z => by rw [z] at e1; simp at e1
    rw [decide_eq_true (v3 hne)] at e2; cases e2
  · rintro _ ⟨x9, rfl⟩
    have q1 : decide (kI (impM Gs ch b) = kI ch) = decide (cvM Gs ch b = tabM Gs b) := by
      by_cases hs : impM Gs ch b = ch
      · rw [decide_eq_true (show kI (impM Gs ch b) = kI ch by rw [hs]), decide_eq_true (same.mp hs)]
      · rw [decide_eq_false fun z => hs (kI_inj z), decide_eq_false fun z => hs (same.mpr z)]
    refine do_ret (d := .bl (decide (decide (kI (impM Gs ch b) = kI ch) = decide (cvM Gs ch b = tabM Gs b)))) (ed_op (ed_op (x := .tup ((kI (impM Gs ch b)).map Dt.int)) (y := .tup ((kI ch).map Dt.int)) (by rw [← uD_kI]; exact ed_var rfl) (by rw [← uD_kI]; exact ed_var rfl) rd_eqIs) (ed_op (ed_var rfl) (ed_var rfl) rd_eqRs) rd_eqB) ?_
    rw [q1, decide_eq_true rfl]
end W17
set_option Elab.async false
set_option linter.all false
set_option maxRecDepth 100000
set_option maxHeartbeats 8000000
/-! W18: all defs put together -/
namespace W18
open PySem PySem.Spec PyProof.Rows L2 WA WB WT WC ML W1 W2 WD WE WF WG WH WK W3 W4 W5 W6 W7 W8 W9 W10 W11 W12 W13 W14 W15 W16 W17
/-- a def stands behind the top -/
def Df (K : PySem.W.Frag) (x : Str) (st : Stmt) : Prop := ∃ (f : Addr) (fd : FuncData), PySem.W.nsIn K mainGlobals x = some (some (.ref f)) ∧ Fun K x x st f fd ∧ PySem.W.keepIn K (.ref f) = true
theorem Df.of {K : PySem.W.Frag} {x : Str} {st : Stmt} {f : Addr} {oc : Value} {od an : Option Addr} {osl : Array (Option Value)} {kV doc pm cdv ct : Value} (a : PySem.W.nsIn K mainGlobals x = some (some (.ref f)))
    (l : K.lookup f = some ⟨oc, od, .func (PySem.W.fnOf x x (defArgs st) (defBody st) (defScope st) .none kV doc pm an cdv ct), osl⟩) (c : PySem.W.codeIn K cdv x = true) (k : PySem.W.keepIn K (.ref f) = true) : Df K x st := ⟨f, _, a, fun_mk l c k, k⟩
/-- a constant pair -/
def Kp (K : PySem.W.Frag) (x : Str) (n d : Int) : Prop := ∃ (z : Addr) (dd : Option Addr) (t1 t2 : Tok) (e : Nat) (sl : Array (Option Value)), PySem.W.nsIn K mainGlobals x = some (some (.ref z)) ∧ K.lookup z = some ⟨.type "tuple", dd, .seq #[.int n t1, .int d t2] e, sl⟩
theorem Kp.of {K : PySem.W.Frag} {x : Str} {n d : Int} {z : Addr} {dd : Option Addr} {t1 t2 : Tok} {e : Nat} {sl : Array (Option Value)} (a : PySem.W.nsIn K mainGlobals x = some (some (.ref z))) (l : K.lookup z = some ⟨.type "tuple", dd, .seq #[.int n t1, .int d t2] e, sl⟩) : Kp K x n d := ⟨z, dd, t1, t2, e, sl, a, l⟩
theorem Kp.kr {K : PySem.W.Frag} {h : Heap} {mg : Str → Option Value} {x : Str} {n : Int} {q : Rat} (X : K.In h) (G : h.Ns mainGlobals mg) (H : Kp K x n 1) (hn : q.num = n) (hd : q.den = 1) : Nonempty (Kr K mg x q) := by
  obtain ⟨z, dd, t1, t2, e, sl, a, l⟩ := H
  refine ⟨⟨z, PySem.W.mg_of X G a, fun H => .inr ⟨_, _, e, l, rfl, rfl, (show 2 ≤ sizeLine by decide), ?_⟩⟩⟩
  rw [hn, hd]
  exact .cons ⟨t1, rfl⟩ (.cons ⟨t2, rfl⟩ .nil)
def spLaw (K : PySem.W.Frag) : Sp := fun vs H Q _ => ∃ (a : Addr) (ns : List Int), vs = [.ref a] ∧ SqL K H a (ns.map V.int) ∧ Bits ns ∧ ns.length ≤ 63 ∧ ∀ H', Q (.bl true) H'
/-- value_table: its keyword-only default -/
def Dv (K : PySem.W.Frag) : Prop := ∃ (f : Addr) (fd : FuncData) (ds : List Value), PySem.W.nsIn K mainGlobals "value_table" = some (some (.ref f)) ∧ Fun K "value_table" "value_table" s_value_table f fd ∧ PySem.W.keepIn K (.ref f) = true ∧ Vals [V.non] ds ∧ Binds K fd ["games", "discount", "stop"] ds
theorem Dv.of {K : PySem.W.Frag} {f D : Addr} {oc : Value} {od an : Option Addr} {osl : Array (Option Value)} {doc pm cdv ct : Value} (a : PySem.W.nsIn K mainGlobals "value_table" = some (some (.ref f)))
    (l : K.lookup f = some ⟨oc, od, .func (PySem.W.fnOf "value_table" "value_table" (defArgs s_value_table) (defBody s_value_table) (defScope s_value_table) .none (.ref D) doc pm an cdv ct), osl⟩) (c : PySem.W.codeIn K cdv "value_table" = true) (k : PySem.W.keepIn K (.ref f) = true) (n : PySem.W.nsIn K D "stop" = some (some .none)) : Dv K := by
  have F : FunD K "value_table" "value_table" (defArgs s_value_table) (defBody s_value_table) (defScope s_value_table) [] [("stop", V.non)] f (PySem.W.fnOf "value_table" "value_table" (defArgs s_value_table) (defBody s_value_table) (defScope s_value_table) .none (.ref D) doc pm an cdv ct) :=
    ⟨⟨oc, od, .none, .ref D, doc, pm, an, cdv, ct, osl, rfl, l, c, .inl ⟨rfl, rfl⟩, .inr ⟨D, rfl, fun q hq => by
      rw [List.mem_singleton.mp hq]
      exact ⟨_, n, rfl⟩⟩⟩, k⟩
  obtain ⟨ds, hv, hb⟩ := F.binds0 (ps := ["games", "discount", "stop"]) 2 (by simp) rfl fun D' doc pm an cdv ct us ks hu hk => match us, ks, hu, hk with
    | [_, _], [_], _, _ => ⟨_, _, _, _, _, _, rfl, rfl, rfl⟩
  exact ⟨f, _, ds, a, fun_mk l c k, k, hv, hb⟩
/-- a method -/
def Dm (K : PySem.W.Frag) (x qual : Str) (st : Stmt) (f : Addr) : Prop := ∃ fd : FuncData, Fun K x qual st f fd
theorem Dm.of {K : PySem.W.Frag} {x qual : Str} {st : Stmt} {f : Addr} {oc : Value} {od an : Option Addr} {osl : Array (Option Value)} {kV doc pm cdv ct : Value} (l : K.lookup f = some ⟨oc, od, .func (PySem.W.fnOf x qual (defArgs st) (defBody st) (defScope st) .none kV doc pm an cdv ct), osl⟩)
    (c : PySem.W.codeIn K cdv qual = true) (k : PySem.W.keepIn K (.ref f) = true) : Dm K x qual st f := ⟨_, fun_mk l c k⟩
theorem all_mk {l : PySem.W.OpenLaw} {w : World} {K : PySem.W.Frag} {h : Heap} {mg : Str → Option Value} {fa C fI fM fF pf : Addr} {rest : List Value} (hl : l.prog = l.prog) (X0 : K.In h) (G0 : h.Ns mainGlobals mg) (hfa : mg "law" = some (.ref fa)) (LL : ∀ ns : List Int, ns.length ≤ 63 → Bits ns → LawL (GsM ns) (bM ns) (cM ns))
    (z_abs : PySem.W.nsIn K mainGlobals "abs" = some none)
    (z_bool : PySem.W.nsIn K mainGlobals "bool" = some none)
    (z_int : PySem.W.nsIn K mainGlobals "int" = some none)
    (z_isinstance : PySem.W.nsIn K mainGlobals "isinstance" = some none)
    (z_len : PySem.W.nsIn K mainGlobals "len" = some none)
    (z_list : PySem.W.nsIn K mainGlobals "list" = some none)
    (z_range : PySem.W.nsIn K mainGlobals "range" = some none)
    (z_sorted : PySem.W.nsIn K mainGlobals "sorted" = some none)
    (z_sum : PySem.W.nsIn K mainGlobals "sum" = some none)
    (z_tuple : PySem.W.nsIn K mainGlobals "tuple" = some none)
    (z_zip : PySem.W.nsIn K mainGlobals "zip" = some none)
    (z_gcd : PySem.W.nsIn K mainGlobals "gcd" = some (some (.builtin "math.gcd")))
    (c_ZERO_leaving : Kp K "ZERO_leaving" 0 1)
    (c_ONE_leaving : Kp K "ONE_leaving" 1 1)
    (c_ZERO_knots : Kp K "ZERO_knots" 0 1)
    (c_ONE_knots : Kp K "ONE_knots" 1 1)
    (c_ZERO_stationary : Kp K "ZERO_stationary" 0 1)
    (c_ONE_stationary : Kp K "ONE_stationary" 1 1)
    (d_common_divisor : Df K "common_divisor" s_common_divisor)
    (d_make_ratio : Df K "make_ratio" s_make_ratio)
    (d_add : Df K "add" s_add)
    (d_subtract : Df K "subtract" s_subtract)
    (d_multiply : Df K "multiply" s_multiply)
    (d_divide : Df K "divide" s_divide)
    (d_compare : Df K "compare" s_compare)
    (d_line_slope : Df K "line_slope" s_line_slope)
    (d_without : Df K "without" s_without)
    (d_first_nonzero : Df K "first_nonzero" s_first_nonzero)
    (d_solve : Df K "solve" s_solve)
    (d_leave_values : Df K "leave_values" s_leave_values)
    (d_leave_table : Df K "leave_table" s_leave_table)
    (d_first_play : Df K "first_play" s_first_play)
    (d_next_state : Df K "next_state" s_next_state)
    (d_index_order : Df K "index_order" s_index_order)
    (d_slope_at : Df K "slope_at" s_slope_at)
    (d_first_wrong : Df K "first_wrong" s_first_wrong)
    (d_straightened : Df K "straightened" s_straightened)
    (d_merged_amounts : Df K "merged_amounts" s_merged_amounts)
    (d_product_knots : Df K "product_knots" s_product_knots)
    (d_gain_of : Df K "gain_of" s_gain_of)
    (d_all_curves : Df K "all_curves" s_all_curves)
    (d_joint_states : Df K "joint_states" s_joint_states)
    (d_with_state : Df K "with_state" s_with_state)
    (d_choice_values : Df K "choice_values" s_choice_values)
    (d_played : Df K "played" s_played)
    (d_by_joint : Df K "by_joint" s_by_joint)
    (d_better_choice : Df K "better_choice" s_better_choice)
    (d_improved : Df K "improved" s_improved)
    (d__law_cell : Df K "_law_cell" s__law_cell)
    (d__law_draws : Df K "_law_draws" s__law_draws)
    (d__law_low : Df K "_law_low" s__law_low)
    (d__law_is_integer : Df K "_law_is_integer" s__law_is_integer)
    (d__law_is_ratio : Df K "_law_is_ratio" s__law_is_ratio)
    (d__law_ratios : Df K "_law_ratios" s__law_ratios)
    (d__law_add : Df K "_law_add" s__law_add)
    (d__law_mul : Df K "_law_mul" s__law_mul)
    (d__law_less : Df K "_law_less" s__law_less)
    (d__law_fraction : Df K "_law_fraction" s__law_fraction)
    (d__law_discount : Df K "_law_discount" s__law_discount)
    (d__law_game : Df K "_law_game" s__law_game)
    (d__law_joints : Df K "_law_joints" s__law_joints)
    (d__law_number : Df K "_law_number" s__law_number)
    (d__law_played : Df K "_law_played" s__law_played)
    (d__law_is_best : Df K "_law_is_best" s__law_is_best)
    (d__law_games : Df K "_law_games" s__law_games)
    (d__law_choices : Df K "_law_choices" s__law_choices)
    (d__law_is_followed : Df K "_law_is_followed" s__law_is_followed)
    (d__law_is_choices : Df K "_law_is_choices" s__law_is_choices)
    (d_law : Df K "law" s_law)
    (d_value_table : Dv K)
    (aC : PySem.W.nsIn K mainGlobals "Curve" = some (some (.ref C)))
    (pg : PySem.W.plainGet K C Str.empty = true)
    (hd : PySem.W.hasDictIn K C = true)
    (po : PySem.W.plainOver K C = true)
    (sa : PySem.W.findIn K (.ref C) "__setattr__" = some (some (.builtin "object.__setattr__")))
    (c_makes : PySem.W.makesIn K C = true)
    (c_keep : PySem.W.keepIn K (.ref C) = true)
    (hN : PySem.W.findIn K (.ref C) "knots" = some none)
    (c_first : PySem.W.selfFirst K C = true)
    (iI1 : PySem.W.findIn K (.ref C) "__init__" = some (some (.ref fI)))
    (iI2 : PySem.W.isFn K (.ref fI) = true)
    (dI0 : Dm K "__init__" "Curve.__init__" s_init fI)
    (iM1 : PySem.W.findIn K (.ref C) (PySem.dunder Operator.Mult.info.2) = some (some (.ref fM)))
    (nM0 : PySem.W.isFn K (.ref fM) = true)
    (dM0 : Dm K "__mul__" "Curve.__mul__" s_mul fM)
    (pF1 : PySem.W.findIn K (.ref C) "floor" = some (some (.ref pf)))
    (pF2 : PySem.W.specialIn K (.ref pf) "__get__" = some (some (.builtin "property.__get__")))
    (pF3 : PySem.W.takesIn K (.ref pf) = some true)
    (pF4 : PySem.W.recIn K pf "property" = some (.ref fF :: rest))
    (dF0 : Dm K "floor" "Curve.floor" s_floor fF)
    : ∃ fd : FuncData, (∀ (s : Shared) (v : Value), BindsTo s fd ⟨[v], []⟩ [("_law_script", v)]) ∧ ∀ base : Heap, K.In base → base.Ns mainGlobals mg → FnOk l.prog w K mg base CX0 60 fa fd ["_law_script"] (spLaw K) := by
  obtain ⟨f_law, fd_law, a_law, F_law, k_law⟩ := d_law
  have e := hfa.symm.trans (PySem.W.mg_of X0 G0 a_law)
  obtain rfl : fa = f_law := by cases e; rfl
  refine ⟨fd_law, fun s v => ?_, fun base X G => ?_⟩
  · obtain ⟨⟨_, _, _, _, _, _, _, _, _, rfl, _⟩, _⟩ := F_law
    exact .of_eq rfl
  have m_abs := PySem.W.mg_none_of X G z_abs
  have m_bool := PySem.W.mg_none_of X G z_bool
  have m_int := PySem.W.mg_none_of X G z_int
  have m_isinstance := PySem.W.mg_none_of X G z_isinstance
  have m_len := PySem.W.mg_none_of X G z_len
  have m_list := PySem.W.mg_none_of X G z_list
  have m_range := PySem.W.mg_none_of X G z_range
  have m_sorted := PySem.W.mg_none_of X G z_sorted
  have m_sum := PySem.W.mg_none_of X G z_sum
  have m_tuple := PySem.W.mg_none_of X G z_tuple
  have m_zip := PySem.W.mg_none_of X G z_zip
  have g_gcd := PySem.W.mg_of X G z_gcd
  have g_Curve := PySem.W.mg_of X G aC
  obtain ⟨Z_ZERO_leaving⟩ := c_ZERO_leaving.kr (q := 0) X G rfl rfl
  obtain ⟨Z_ONE_leaving⟩ := c_ONE_leaving.kr (q := 1) X G rfl rfl
  obtain ⟨Z_ZERO_knots⟩ := c_ZERO_knots.kr (q := 0) X G rfl rfl
  obtain ⟨Z_ONE_knots⟩ := c_ONE_knots.kr (q := 1) X G rfl rfl
  obtain ⟨Z_ZERO_stationary⟩ := c_ZERO_stationary.kr (q := 0) X G rfl rfl
  obtain ⟨Z_ONE_stationary⟩ := c_ONE_stationary.kr (q := 1) X G rfl rfl
  have hC : Cls K C := ⟨pg, hd, po, sa⟩
  have hN : NoAttr K C "knots" := hN
  obtain ⟨fdI0, FI0⟩ := dI0
  have dI : ∃ (f : Addr) (fd : FuncData), (PySem.W.findIn K (.ref C) "__init__" = some (some (.ref f)) ∧ PySem.W.isFn K (.ref f) = true) ∧ Fun K "__init__" "Curve.__init__" s_init f fd := ⟨fI, fdI0, ⟨iI1, iI2⟩, FI0⟩
  obtain ⟨fdM0, FM0⟩ := dM0
  have dM : ∃ (f : Addr) (fd : FuncData), PySem.W.findIn K (.ref C) (PySem.dunder Operator.Mult.info.2) = some (some (.ref f)) ∧ Fun K "__mul__" "Curve.__mul__" s_mul f fd ∧ PySem.W.isFn K (.ref f) = true := ⟨fM, fdM0, iM1, FM0, nM0⟩
  obtain ⟨fdF0, FF0⟩ := dF0
  have pF0 : PropOf K C "floor" pf fF := ⟨pF1, pF2, pF3, rest, pF4⟩
  obtain ⟨f_common_divisor, fd_common_divisor, a_common_divisor, F_common_divisor, k_common_divisor⟩ := d_common_divisor
  have A_common_divisor : Fd l.prog w K mg base C "common_divisor" ["a", "b"] 1 R_gcd := ⟨f_common_divisor, fd_common_divisor, W1.ok_gcd (k := 0) F_common_divisor g_gcd, PySem.W.mg_of X G a_common_divisor, k_common_divisor, F_common_divisor.binds fun _ _ _ _ _ _ us hl => match us, hl with | [_, _], _ => rfl⟩
  obtain ⟨f_make_ratio, fd_make_ratio, a_make_ratio, F_make_ratio, k_make_ratio⟩ := d_make_ratio
  have A_make_ratio : Fd l.prog w K mg base C "make_ratio" ["n", "d"] 2 R_ratio := ⟨f_make_ratio, fd_make_ratio, W1.ok_ratio (k := 1) F_make_ratio (A_common_divisor), PySem.W.mg_of X G a_make_ratio, k_make_ratio, F_make_ratio.binds fun _ _ _ _ _ _ us hl => match us, hl with | [_, _], _ => rfl⟩
  obtain ⟨f_add, fd_add, a_add, F_add, k_add⟩ := d_add
  have A_add : Fd l.prog w K mg base C "add" ["a", "b"] 3 (R_two fun a b => a + b) := ⟨f_add, fd_add, W2.ok_add (k := 2) F_add (A_make_ratio), PySem.W.mg_of X G a_add, k_add, F_add.binds fun _ _ _ _ _ _ us hl => match us, hl with | [_, _], _ => rfl⟩
  obtain ⟨f_subtract, fd_subtract, a_subtract, F_subtract, k_subtract⟩ := d_subtract
  have A_subtract : Fd l.prog w K mg base C "subtract" ["a", "b"] 3 (R_two fun a b => a - b) := ⟨f_subtract, fd_subtract, W2.ok_sub (k := 2) F_subtract (A_make_ratio), PySem.W.mg_of X G a_subtract, k_subtract, F_subtract.binds fun _ _ _ _ _ _ us hl => match us, hl with | [_, _], _ => rfl⟩
  obtain ⟨f_multiply, fd_multiply, a_multiply, F_multiply, k_multiply⟩ := d_multiply
  have A_multiply : Fd l.prog w K mg base C "multiply" ["a", "b"] 3 (R_two fun a b => a * b) := ⟨f_multiply, fd_multiply, W2.ok_mul (k := 2) F_multiply (A_make_ratio), PySem.W.mg_of X G a_multiply, k_multiply, F_multiply.binds fun _ _ _ _ _ _ us hl => match us, hl with | [_, _], _ => rfl⟩
  obtain ⟨f_divide, fd_divide, a_divide, F_divide, k_divide⟩ := d_divide
  have A_divide : Fd l.prog w K mg base C "divide" ["a", "b"] 3 R_div := ⟨f_divide, fd_divide, W2.ok_div (k := 2) F_divide (A_make_ratio), PySem.W.mg_of X G a_divide, k_divide, F_divide.binds fun _ _ _ _ _ _ us hl => match us, hl with | [_, _], _ => rfl⟩
  obtain ⟨f_compare, fd_compare, a_compare, F_compare, k_compare⟩ := d_compare
  have A_compare : Fd l.prog w K mg base C "compare" ["a", "b"] 1 R_cmp := ⟨f_compare, fd_compare, W2.ok_cmp (k := 0) F_compare , PySem.W.mg_of X G a_compare, k_compare, F_compare.binds fun _ _ _ _ _ _ us hl => match us, hl with | [_, _], _ => rfl⟩
  have OPS : Ops l.prog w K mg base C 3 := ⟨A_add, A_subtract, A_multiply, A_divide, A_compare.up (show 1 ≤ 3 by decide)⟩
  obtain ⟨f_line_slope, fd_line_slope, a_line_slope, F_line_slope, k_line_slope⟩ := d_line_slope
  have A_line_slope : Fd l.prog w K mg base C "line_slope" ["left", "right"] 4 R_slope := ⟨f_line_slope, fd_line_slope, W2.ok_slope (k := 3) F_line_slope (OPS.up (show 3 ≤ 3 by decide)), PySem.W.mg_of X G a_line_slope, k_line_slope, F_line_slope.binds fun _ _ _ _ _ _ us hl => match us, hl with | [_, _], _ => rfl⟩
  obtain ⟨f_without, fd_without, a_without, F_without, k_without⟩ := d_without
  have A_without : Fd l.prog w K mg base C "without" ["row", "other", "column"] 4 R_without := ⟨f_without, fd_without, W3.ok_without (k := 3) F_without (OPS.up (show 3 ≤ 3 by decide)) m_zip, PySem.W.mg_of X G a_without, k_without, F_without.binds fun _ _ _ _ _ _ us hl => match us, hl with | [_, _, _], _ => rfl⟩
  obtain ⟨f_first_nonzero, fd_first_nonzero, a_first_nonzero, F_first_nonzero, k_first_nonzero⟩ := d_first_nonzero
  have A_first_nonzero : Fd l.prog w K mg base C "first_nonzero" ["row", "size"] 1 R_first := ⟨f_first_nonzero, fd_first_nonzero, W3.ok_first (k := 0) F_first_nonzero m_range, PySem.W.mg_of X G a_first_nonzero, k_first_nonzero, F_first_nonzero.binds fun _ _ _ _ _ _ us hl => match us, hl with | [_, _], _ => rfl⟩
  obtain ⟨f_solve, fd_solve, a_solve, F_solve, k_solve⟩ := d_solve
  have A_solve : Fd l.prog w K mg base C "solve" ["matrix", "right"] 5 R_solve := ⟨f_solve, fd_solve, W4.ok_solve (k := 4) F_solve (OPS.up (show 3 ≤ 4 by decide)) (A_without) (A_first_nonzero.up (show 1 ≤ 4 by decide)) m_zip m_range m_len m_list m_tuple m_int, PySem.W.mg_of X G a_solve, k_solve, F_solve.binds fun _ _ _ _ _ _ us hl => match us, hl with | [_, _], _ => rfl⟩
  obtain ⟨f_leave_values, fd_leave_values, a_leave_values, F_leave_values, k_leave_values⟩ := d_leave_values
  have A_leave_values : Fd l.prog w K mg base C "leave_values" ["game", "inside", "discount"] 6 R_leave := ⟨f_leave_values, fd_leave_values, W5.ok_leave (k := 5) F_leave_values (OPS.up (show 3 ≤ 5 by decide)) (A_solve) Z_ZERO_leaving Z_ONE_leaving m_range m_len m_tuple, PySem.W.mg_of X G a_leave_values, k_leave_values, F_leave_values.binds fun _ _ _ _ _ _ us hl => match us, hl with | [_, _, _], _ => rfl⟩
  obtain ⟨f_leave_table, fd_leave_table, a_leave_table, F_leave_table, k_leave_table⟩ := d_leave_table
  have A_leave_table : Fd l.prog w K mg base C "leave_table" ["game", "inside", "discount"] 7 R_table := ⟨f_leave_table, fd_leave_table, W6.ok_table (k := 6) F_leave_table (A_leave_values) m_range m_len, PySem.W.mg_of X G a_leave_table, k_leave_table, F_leave_table.binds fun _ _ _ _ _ _ us hl => match us, hl with | [_, _, _], _ => rfl⟩
  obtain ⟨f_first_play, fd_first_play, a_first_play, F_first_play, k_first_play⟩ := d_first_play
  have A_first_play : Fd l.prog w K mg base C "first_play" ["game", "state", "table", "discount"] 4 R_play := ⟨f_first_play, fd_first_play, W6.ok_play (k := 3) F_first_play (OPS.up (show 3 ≤ 3 by decide)) Z_ZERO_leaving Z_ONE_leaving m_range m_len, PySem.W.mg_of X G a_first_play, k_first_play, F_first_play.binds fun _ _ _ _ _ _ us hl => match us, hl with | [_, _, _, _], _ => rfl⟩
  obtain ⟨f_next_state, fd_next_state, a_next_state, F_next_state, k_next_state⟩ := d_next_state
  have A_next_state : Fd l.prog w K mg base C "next_state" ["game", "inside", "discount"] 8 R_next := ⟨f_next_state, fd_next_state, W6.ok_next (k := 7) F_next_state (OPS.up (show 3 ≤ 7 by decide)) (A_leave_table) (A_first_play.up (show 4 ≤ 7 by decide)) Z_ONE_leaving m_range m_len, PySem.W.mg_of X G a_next_state, k_next_state, F_next_state.binds fun _ _ _ _ _ _ us hl => match us, hl with | [_, _, _], _ => rfl⟩
  obtain ⟨f_index_order, fd_index_order, a_index_order, F_index_order, k_index_order⟩ := d_index_order
  have A_index_order : Fd l.prog w K mg base C "index_order" ["game", "discount"] 9 R_order := ⟨f_index_order, fd_index_order, W6.ok_order (k := 8) F_index_order (A_next_state) m_range m_len m_tuple m_sorted, PySem.W.mg_of X G a_index_order, k_index_order, F_index_order.binds fun _ _ _ _ _ _ us hl => match us, hl with | [_, _], _ => rfl⟩
  obtain ⟨f_slope_at, fd_slope_at, a_slope_at, F_slope_at, k_slope_at⟩ := d_slope_at
  have A_slope_at : Fd l.prog w K mg base C "slope_at" ["knots", "amount"] 5 R_slopeAt := ⟨f_slope_at, fd_slope_at, W7.ok_slopeAt (k := 4) F_slope_at (OPS.up (show 3 ≤ 4 by decide)) (A_line_slope) Z_ZERO_knots Z_ONE_knots m_range m_len, PySem.W.mg_of X G a_slope_at, k_slope_at, F_slope_at.binds fun _ _ _ _ _ _ us hl => match us, hl with | [_, _], _ => rfl⟩
  obtain ⟨f_first_wrong, fd_first_wrong, a_first_wrong, F_first_wrong, k_first_wrong⟩ := d_first_wrong
  have A_first_wrong : Fd l.prog w K mg base C "first_wrong" ["knots"] 5 R_wrong := ⟨f_first_wrong, fd_first_wrong, W7.ok_wrong (k := 4) F_first_wrong (OPS.up (show 3 ≤ 4 by decide)) (A_line_slope) Z_ZERO_knots Z_ONE_knots m_range m_len, PySem.W.mg_of X G a_first_wrong, k_first_wrong, F_first_wrong.binds fun _ _ _ _ _ _ us hl => match us, hl with | [_], _ => rfl⟩
  obtain ⟨f_straightened, fd_straightened, a_straightened, F_straightened, k_straightened⟩ := d_straightened
  have A_straightened : Fd l.prog w K mg base C "straightened" ["points"] 5 R_straight := ⟨f_straightened, fd_straightened, W7.ok_straight (k := 4) F_straightened (OPS.up (show 3 ≤ 4 by decide)) (A_line_slope) Z_ZERO_knots Z_ONE_knots m_range m_len m_tuple, PySem.W.mg_of X G a_straightened, k_straightened, F_straightened.binds fun _ _ _ _ _ _ us hl => match us, hl with | [_], _ => rfl⟩
  obtain ⟨f_merged_amounts, fd_merged_amounts, a_merged_amounts, F_merged_amounts, k_merged_amounts⟩ := d_merged_amounts
  have A_merged_amounts : Fd l.prog w K mg base C "merged_amounts" ["first", "second"] 4 R_merged := ⟨f_merged_amounts, fd_merged_amounts, W8.ok_merged (k := 3) F_merged_amounts (OPS.up (show 3 ≤ 3 by decide)) m_len, PySem.W.mg_of X G a_merged_amounts, k_merged_amounts, F_merged_amounts.binds fun _ _ _ _ _ _ us hl => match us, hl with | [_, _], _ => rfl⟩
  obtain ⟨f_product_knots, fd_product_knots, a_product_knots, F_product_knots, k_product_knots⟩ := d_product_knots
  have A_product_knots : Fd l.prog w K mg base C "product_knots" ["first", "second"] 6 R_product := ⟨f_product_knots, fd_product_knots, W8.ok_product (k := 5) F_product_knots (OPS.up (show 3 ≤ 5 by decide)) (A_merged_amounts.up (show 4 ≤ 5 by decide)) (A_slope_at) (A_straightened) m_len m_range, PySem.W.mg_of X G a_product_knots, k_product_knots, F_product_knots.binds fun _ _ _ _ _ _ us hl => match us, hl with | [_, _], _ => rfl⟩
  obtain ⟨fI, fdI, iI, FI⟩ := dI
  have bI : Binds K fdI ["self", "knots"] [] := FI.binds fun _ _ _ _ _ _ us hl => match us, hl with | [_, _], _ => rfl
  have GI : FnOk l.prog w K mg base CX0 6 fI fdI ["self", "knots"] (SpI K C GoodK) := W8.ok_init (k := 5) FI A_first_wrong hC hN m_tuple
  have bF : Binds K fdF0 ["self"] [] := FF0.binds fun _ _ _ _ _ _ us hl => match us, hl with | [_], _ => rfl
  have GF : FnOk l.prog w K mg base CX0 1 fF fdF0 ["self"] (SpD K C R_floor) := W8.ok_floor (k := 0) FF0 hC hN
  obtain ⟨fM, fdM, iM, FM, nM⟩ := dM
  have bM : Binds K fdM ["self", "other"] [] := FM.binds fun _ _ _ _ _ _ us hl => match us, hl with | [_, _], _ => rfl
  have GM : FnOk l.prog w K mg base CX0 8 fM fdM ["self", "other"] (SpD K C R_mul) := W8.ok_mulC (k := 6) FM hC hN (A_product_knots.up (show 6 ≤ 7 by decide)) ⟨c_makes, iI.1, iI.2, c_keep⟩ (GI.mono (show 6 ≤ 6 by decide)) bI g_Curve
  obtain ⟨f_gain_of, fd_gain_of, a_gain_of, F_gain_of, k_gain_of⟩ := d_gain_of
  have A_gain_of : Fd l.prog w K mg base C "gain_of" ["curve", "stop"] 3 R_gain := ⟨f_gain_of, fd_gain_of, W8.ok_gain (k := 1) F_gain_of hC pF0 GF bF, PySem.W.mg_of X G a_gain_of, k_gain_of, F_gain_of.binds fun _ _ _ _ _ _ us hl => match us, hl with | [_, _], _ => rfl⟩
  obtain ⟨f_all_curves, fd_all_curves, a_all_curves, F_all_curves, k_all_curves⟩ := d_all_curves
  have A_all_curves : Fd l.prog w K mg base C "all_curves" ["game", "discount"] 10 R_curves := ⟨f_all_curves, fd_all_curves, W9.ok_curves (k := 8) F_all_curves (OPS.up (show 3 ≤ 9 by decide)) (A_index_order) (A_leave_values.up (show 6 ≤ 9 by decide)) (A_straightened.up (show 5 ≤ 9 by decide)) ⟨c_makes, iI.1, iI.2, c_keep⟩ (GI.mono (show 6 ≤ 8 by decide)) bI g_Curve m_len m_range m_tuple m_sorted, PySem.W.mg_of X G a_all_curves, k_all_curves, F_all_curves.binds fun _ _ _ _ _ _ us hl => match us, hl with | [_, _], _ => rfl⟩
  obtain ⟨f_joint_states, fd_joint_states, a_joint_states, F_joint_states, k_joint_states⟩ := d_joint_states
  have A_joint_states : Fd l.prog w K mg base C "joint_states" ["games"] 1 R_joints := ⟨f_joint_states, fd_joint_states, W10.ok_joints (k := 0) F_joint_states m_len m_range m_tuple, PySem.W.mg_of X G a_joint_states, k_joint_states, F_joint_states.binds fun _ _ _ _ _ _ us hl => match us, hl with | [_], _ => rfl⟩
  obtain ⟨f_value_table, fd_value_table, ds_value_table, a_value_table, F_value_table, k_value_table, v_value_table, b_value_table⟩ := d_value_table
  have A_value_table : FdV l.prog w K mg base C 11 := ⟨f_value_table, fd_value_table, ds_value_table, W10.ok_vt (k := 10) F_value_table (A_all_curves) (A_gain_of.up (show 3 ≤ 10 by decide)) (GM.mono (show 8 ≤ 10 by decide)) bM c_first iM nM m_list m_tuple, PySem.W.mg_of X G a_value_table, k_value_table, b_value_table, v_value_table⟩
  obtain ⟨f_with_state, fd_with_state, a_with_state, F_with_state, k_with_state⟩ := d_with_state
  have A_with_state : Fd l.prog w K mg base C "with_state" ["joint", "position", "state"] 1 R_with := ⟨f_with_state, fd_with_state, W11.ok_with (k := 0) F_with_state , PySem.W.mg_of X G a_with_state, k_with_state, F_with_state.binds fun _ _ _ _ _ _ us hl => match us, hl with | [_, _, _], _ => rfl⟩
  obtain ⟨f_choice_values, fd_choice_values, a_choice_values, F_choice_values, k_choice_values⟩ := d_choice_values
  have A_choice_values : Fd l.prog w K mg base C "choice_values" ["games", "choices", "discount"] 6 R_cv := ⟨f_choice_values, fd_choice_values, W11.ok_cv (k := 5) F_choice_values (OPS.up (show 3 ≤ 5 by decide)) (A_joint_states.up (show 1 ≤ 5 by decide)) (A_with_state.up (show 1 ≤ 5 by decide)) (A_solve) Z_ZERO_stationary Z_ONE_stationary m_len m_range m_tuple, PySem.W.mg_of X G a_choice_values, k_choice_values, F_choice_values.binds fun _ _ _ _ _ _ us hl => match us, hl with | [_, _, _], _ => rfl⟩
  obtain ⟨f_played, fd_played, a_played, F_played, k_played⟩ := d_played
  have A_played : Fd l.prog w K mg base C "played" ["games", "joint", "position", "worths", "discount"] 4 R_played := ⟨f_played, fd_played, W12.ok_played (k := 3) F_played (OPS.up (show 3 ≤ 3 by decide)) (A_with_state.up (show 1 ≤ 3 by decide)) Z_ZERO_stationary, PySem.W.mg_of X G a_played, k_played, F_played.binds fun _ _ _ _ _ _ us hl => match us, hl with | [_, _, _, _, _], _ => rfl⟩
  obtain ⟨f_by_joint, fd_by_joint, a_by_joint, F_by_joint, k_by_joint⟩ := d_by_joint
  have A_by_joint : Fd l.prog w K mg base C "by_joint" ["games", "values"] 2 R_byJ := ⟨f_by_joint, fd_by_joint, W12.ok_byJ (k := 1) F_by_joint (A_joint_states) m_len m_range, PySem.W.mg_of X G a_by_joint, k_by_joint, F_by_joint.binds fun _ _ _ _ _ _ us hl => match us, hl with | [_, _], _ => rfl⟩
  obtain ⟨f_better_choice, fd_better_choice, a_better_choice, F_better_choice, k_better_choice⟩ := d_better_choice
  have A_better_choice : Fd l.prog w K mg base C "better_choice" ["games", "joint", "choice", "worths", "discount"] 5 R_better := ⟨f_better_choice, fd_better_choice, W12.ok_better (k := 4) F_better_choice (OPS.up (show 3 ≤ 4 by decide)) (A_played) m_len m_range, PySem.W.mg_of X G a_better_choice, k_better_choice, F_better_choice.binds fun _ _ _ _ _ _ us hl => match us, hl with | [_, _, _, _, _], _ => rfl⟩
  obtain ⟨f_improved, fd_improved, a_improved, F_improved, k_improved⟩ := d_improved
  have A_improved : Fd l.prog w K mg base C "improved" ["games", "choices", "discount"] 7 R_improved := ⟨f_improved, fd_improved, W12.ok_improved (k := 6) F_improved (A_by_joint.up (show 2 ≤ 6 by decide)) (A_choice_values) (A_joint_states.up (show 1 ≤ 6 by decide)) (A_better_choice.up (show 5 ≤ 6 by decide)) m_len m_range m_tuple, PySem.W.mg_of X G a_improved, k_improved, F_improved.binds fun _ _ _ _ _ _ us hl => match us, hl with | [_, _, _], _ => rfl⟩
  obtain ⟨f__law_cell, fd__law_cell, a__law_cell, F__law_cell, k__law_cell⟩ := d__law_cell
  have A__law_cell : Fd l.prog w K mg base C "_law_cell" ["_law_script", "_law_k"] 1 R_cell := ⟨f__law_cell, fd__law_cell, W13.ok_cell (k := 0) F__law_cell m_len, PySem.W.mg_of X G a__law_cell, k__law_cell, F__law_cell.binds fun _ _ _ _ _ _ us hl => match us, hl with | [_, _], _ => rfl⟩
  obtain ⟨f__law_draws, fd__law_draws, a__law_draws, F__law_draws, k__law_draws⟩ := d__law_draws
  have A__law_draws : Fd l.prog w K mg base C "_law_draws" ["_law_cell_here", "_law_count"] 1 R_draws := ⟨f__law_draws, fd__law_draws, W13.ok_draws (k := 0) F__law_draws m_abs m_int m_range, PySem.W.mg_of X G a__law_draws, k__law_draws, F__law_draws.binds fun _ _ _ _ _ _ us hl => match us, hl with | [_, _], _ => rfl⟩
  obtain ⟨f__law_low, fd__law_low, a__law_low, F__law_low, k__law_low⟩ := d__law_low
  have A__law_low : Fd l.prog w K mg base C "_law_low" ["_law_n", "_law_d"] 1 R_low := ⟨f__law_low, fd__law_low, W13.ok_low (k := 0) F__law_low m_abs m_int, PySem.W.mg_of X G a__law_low, k__law_low, F__law_low.binds fun _ _ _ _ _ _ us hl => match us, hl with | [_, _], _ => rfl⟩
  obtain ⟨f__law_is_integer, fd__law_is_integer, a__law_is_integer, F__law_is_integer, k__law_is_integer⟩ := d__law_is_integer
  have A__law_is_integer : Fd l.prog w K mg base C "_law_is_integer" ["_law_value"] 1 R_isI := ⟨f__law_is_integer, fd__law_is_integer, W14.ok_isI (k := 0) F__law_is_integer m_isinstance m_int m_bool, PySem.W.mg_of X G a__law_is_integer, k__law_is_integer, F__law_is_integer.binds fun _ _ _ _ _ _ us hl => match us, hl with | [_], _ => rfl⟩
  obtain ⟨f__law_is_ratio, fd__law_is_ratio, a__law_is_ratio, F__law_is_ratio, k__law_is_ratio⟩ := d__law_is_ratio
  have A__law_is_ratio : Fd l.prog w K mg base C "_law_is_ratio" ["_law_value"] 2 R_isR := ⟨f__law_is_ratio, fd__law_is_ratio, W14.ok_isR (k := 1) F__law_is_ratio (A__law_is_integer) (A__law_low) m_isinstance m_tuple m_len, PySem.W.mg_of X G a__law_is_ratio, k__law_is_ratio, F__law_is_ratio.binds fun _ _ _ _ _ _ us hl => match us, hl with | [_], _ => rfl⟩
  obtain ⟨f__law_ratios, fd__law_ratios, a__law_ratios, F__law_ratios, k__law_ratios⟩ := d__law_ratios
  have A__law_ratios : Fd l.prog w K mg base C "_law_ratios" ["_law_values", "_law_count"] 3 R_ratios := ⟨f__law_ratios, fd__law_ratios, W14.ok_ratios (k := 2) F__law_ratios (A__law_is_ratio) m_isinstance m_tuple m_len, PySem.W.mg_of X G a__law_ratios, k__law_ratios, F__law_ratios.binds fun _ _ _ _ _ _ us hl => match us, hl with | [_, _], _ => rfl⟩
  obtain ⟨f__law_add, fd__law_add, a__law_add, F__law_add, k__law_add⟩ := d__law_add
  have A__law_add : Fd l.prog w K mg base C "_law_add" ["_law_a", "_law_b"] 2 R_ladd := ⟨f__law_add, fd__law_add, W14.ok_ladd (k := 1) F__law_add (A__law_low), PySem.W.mg_of X G a__law_add, k__law_add, F__law_add.binds fun _ _ _ _ _ _ us hl => match us, hl with | [_, _], _ => rfl⟩
  obtain ⟨f__law_mul, fd__law_mul, a__law_mul, F__law_mul, k__law_mul⟩ := d__law_mul
  have A__law_mul : Fd l.prog w K mg base C "_law_mul" ["_law_a", "_law_b"] 2 R_lmul := ⟨f__law_mul, fd__law_mul, W14.ok_lmul (k := 1) F__law_mul (A__law_low), PySem.W.mg_of X G a__law_mul, k__law_mul, F__law_mul.binds fun _ _ _ _ _ _ us hl => match us, hl with | [_, _], _ => rfl⟩
  obtain ⟨f__law_less, fd__law_less, a__law_less, F__law_less, k__law_less⟩ := d__law_less
  have A__law_less : Fd l.prog w K mg base C "_law_less" ["_law_a", "_law_b"] 1 R_lless := ⟨f__law_less, fd__law_less, W14.ok_lless (k := 0) F__law_less , PySem.W.mg_of X G a__law_less, k__law_less, F__law_less.binds fun _ _ _ _ _ _ us hl => match us, hl with | [_, _], _ => rfl⟩
  obtain ⟨f__law_fraction, fd__law_fraction, a__law_fraction, F__law_fraction, k__law_fraction⟩ := d__law_fraction
  have A__law_fraction : Fd l.prog w K mg base C "_law_fraction" ["_law_draw"] 2 R_frac := ⟨f__law_fraction, fd__law_fraction, W14.ok_frac (k := 1) F__law_fraction (A__law_low) m_int, PySem.W.mg_of X G a__law_fraction, k__law_fraction, F__law_fraction.binds fun _ _ _ _ _ _ us hl => match us, hl with | [_], _ => rfl⟩
  obtain ⟨f__law_discount, fd__law_discount, a__law_discount, F__law_discount, k__law_discount⟩ := d__law_discount
  have A__law_discount : Fd l.prog w K mg base C "_law_discount" ["_law_draw"] 2 R_disc := ⟨f__law_discount, fd__law_discount, W14.ok_disc (k := 1) F__law_discount (A__law_low) m_int, PySem.W.mg_of X G a__law_discount, k__law_discount, F__law_discount.binds fun _ _ _ _ _ _ us hl => match us, hl with | [_], _ => rfl⟩
  obtain ⟨f__law_game, fd__law_game, a__law_game, F__law_game, k__law_game⟩ := d__law_game
  have A__law_game : Fd l.prog w K mg base C "_law_game" ["_law_cell_here", "_law_most"] 3 R_game := ⟨f__law_game, fd__law_game, W15.ok_game (k := 2) F__law_game (A__law_draws.up (show 1 ≤ 2 by decide)) (A__law_fraction) (A__law_low.up (show 1 ≤ 2 by decide)) m_int m_range m_sum m_tuple, PySem.W.mg_of X G a__law_game, k__law_game, F__law_game.binds fun _ _ _ _ _ _ us hl => match us, hl with | [_, _], _ => rfl⟩
  obtain ⟨f__law_joints, fd__law_joints, a__law_joints, F__law_joints, k__law_joints⟩ := d__law_joints
  have A__law_joints : Fd l.prog w K mg base C "_law_joints" ["_law_games_here"] 1 R_ljoints := ⟨f__law_joints, fd__law_joints, W16.ok_ljoints (k := 0) F__law_joints m_len m_range m_list, PySem.W.mg_of X G a__law_joints, k__law_joints, F__law_joints.binds fun _ _ _ _ _ _ us hl => match us, hl with | [_], _ => rfl⟩
  obtain ⟨f__law_number, fd__law_number, a__law_number, F__law_number, k__law_number⟩ := d__law_number
  have A__law_number : Fd l.prog w K mg base C "_law_number" ["_law_games_here", "_law_joint"] 1 R_lnumber := ⟨f__law_number, fd__law_number, W16.ok_lnumber (k := 0) F__law_number m_len m_range, PySem.W.mg_of X G a__law_number, k__law_number, F__law_number.binds fun _ _ _ _ _ _ us hl => match us, hl with | [_, _], _ => rfl⟩
  obtain ⟨f__law_played, fd__law_played, a__law_played, F__law_played, k__law_played⟩ := d__law_played
  have A__law_played : Fd l.prog w K mg base C "_law_played" ["_law_games_here", "_law_joint", "_law_at", "_law_discount_here", "_law_table"] 3 R_lplayed := ⟨f__law_played, fd__law_played, W16.ok_lplayed (k := 2) F__law_played (A__law_add) (A__law_mul) (A__law_number.up (show 1 ≤ 2 by decide)), PySem.W.mg_of X G a__law_played, k__law_played, F__law_played.binds fun _ _ _ _ _ _ us hl => match us, hl with | [_, _, _, _, _], _ => rfl⟩
  obtain ⟨f__law_is_best, fd__law_is_best, a__law_is_best, F__law_is_best, k__law_is_best⟩ := d__law_is_best
  have A__law_is_best : Fd l.prog w K mg base C "_law_is_best" ["_law_games_here", "_law_discount_here", "_law_halt", "_law_table"] 4 R_best := ⟨f__law_is_best, fd__law_is_best, W16.ok_best (k := 3) F__law_is_best (A__law_joints.up (show 1 ≤ 3 by decide)) (A__law_ratios) (A__law_played) (A__law_less.up (show 1 ≤ 3 by decide)) m_len m_range, PySem.W.mg_of X G a__law_is_best, k__law_is_best, F__law_is_best.binds fun _ _ _ _ _ _ us hl => match us, hl with | [_, _, _, _], _ => rfl⟩
  obtain ⟨f__law_games, fd__law_games, a__law_games, F__law_games, k__law_games⟩ := d__law_games
  have A__law_games : Fd l.prog w K mg base C "_law_games" ["_law_script", "_law_first", "_law_draw"] 4 R_lgames := ⟨f__law_games, fd__law_games, W17.ok_lgames (k := 3) F__law_games (A__law_cell.up (show 1 ≤ 3 by decide)) (A__law_game) m_int m_range m_tuple, PySem.W.mg_of X G a__law_games, k__law_games, F__law_games.binds fun _ _ _ _ _ _ us hl => match us, hl with | [_, _, _], _ => rfl⟩
  obtain ⟨f__law_choices, fd__law_choices, a__law_choices, F__law_choices, k__law_choices⟩ := d__law_choices
  have A__law_choices : Fd l.prog w K mg base C "_law_choices" ["_law_cell_here", "_law_games_here"] 2 R_lchoices := ⟨f__law_choices, fd__law_choices, W17.ok_lchoices (k := 1) F__law_choices (A__law_draws) (A__law_joints) m_int m_len m_tuple, PySem.W.mg_of X G a__law_choices, k__law_choices, F__law_choices.binds fun _ _ _ _ _ _ us hl => match us, hl with | [_, _], _ => rfl⟩
  obtain ⟨f__law_is_followed, fd__law_is_followed, a__law_is_followed, F__law_is_followed, k__law_is_followed⟩ := d__law_is_followed
  have A__law_is_followed : Fd l.prog w K mg base C "_law_is_followed" ["_law_games_here", "_law_choices_here", "_law_discount_here", "_law_values"] 4 R_followed := ⟨f__law_is_followed, fd__law_is_followed, W16.ok_followed (k := 3) F__law_is_followed (A__law_joints.up (show 1 ≤ 3 by decide)) (A__law_ratios) (A__law_played) m_len m_range, PySem.W.mg_of X G a__law_is_followed, k__law_is_followed, F__law_is_followed.binds fun _ _ _ _ _ _ us hl => match us, hl with | [_, _, _, _], _ => rfl⟩
  obtain ⟨f__law_is_choices, fd__law_is_choices, a__law_is_choices, F__law_is_choices, k__law_is_choices⟩ := d__law_is_choices
  have A__law_is_choices : Fd l.prog w K mg base C "_law_is_choices" ["_law_told", "_law_games_here"] 2 R_choicesOk := ⟨f__law_is_choices, fd__law_is_choices, W16.ok_choicesOk (k := 1) F__law_is_choices (A__law_joints) (A__law_is_integer) m_isinstance m_tuple m_len, PySem.W.mg_of X G a__law_is_choices, k__law_is_choices, F__law_is_choices.binds fun _ _ _ _ _ _ us hl => match us, hl with | [_, _], _ => rfl⟩
  have LAW : FnOk l.prog w K mg base CX0 12 fa fd_law ["_law_script"] (SpD K C R_law) := W17.ok_law (k := 11) F_law (A__law_cell.up (show 1 ≤ 11 by decide)) (A__law_draws.up (show 1 ≤ 11 by decide)) (A__law_discount.up (show 2 ≤ 11 by decide)) (A__law_games.up (show 4 ≤ 11 by decide)) (A__law_choices.up (show 2 ≤ 11 by decide)) (A_value_table) (A_choice_values.up (show 6 ≤ 11 by decide)) (A__law_is_best.up (show 4 ≤ 11 by decide)) (A__law_is_followed.up (show 4 ≤ 11 by decide)) (A_improved.up (show 7 ≤ 11 by decide)) (A__law_is_choices.up (show 2 ≤ 11 by decide)) (A__law_less.up (show 1 ≤ 11 by decide)) m_len m_range
  refine (LAW.mono (show 12 ≤ 60 by decide)).imp fun vs H Q E hq => ?_
  obtain ⟨a, ns, rfl, hs, hb, hn, q⟩ := hq
  exact ⟨H, [.scr ns], .bl true, fun _ _ z => z, .one (.scr hs), ⟨ns, rfl, hb, LL ns hn hb, rfl⟩, fun v B' H' P' k => by
    cases k
    exact q H'⟩
end W18
set_option Elab.async false
set_option linter.all false
set_option maxRecDepth 100000
set_option exponentiation.threshold 100000
/-! N1: how large one game's numbers are -/
namespace N1
open MA ME ML MS MT W4 W5 W6 W7 W9
open MG (Gm Rw acc unitR ixOf matM Disc Ins lvE lvG exE exG cand leaveA leaveB leaveM front nu ordTo)
structure SB (b q : Rat) : Prop where
  d : Disc b
  b : FR q (tw 4) b
  q : Den q (tw 4)
structure SR (h : Nat) (q : Rat) (r : Rw) : Prop where
  w : ∃ W, Den W (tw 4) ∧ Den (q * W) (tw h) ∧ ∀ p ∈ r, FR W (tw 4) p.2
  len : r.length ≤ 9
theorem SB.fb {b q : Rat} (B : SB b q) : FB 4 4 b := ⟨q, B.q, B.b⟩
theorem SB.lim {b q : Rat} (B : SB b q) : Lim b := B.fb.lim (by decide) (by decide)
theorem den1 : Den (1 : Rat) (tw 0) := den_one
theorem exFR {W N D M : Rat} {x : Nat → Rat} (hx : ∀ t, FR D M (x t)) : ∀ {r : Rw}, (∀ p ∈ r, FR W N p.2) → FR (W * D) ((r.length : Rat) * (N * M)) (ex r x)
  | [], _ => ⟨IsI.zero.eq (by simp only [ex]; grind), by simp only [ex]; rw [show (0 : Rat) * (W * D) = 0 by grind, ab_id (by decide)]; simp⟩
  | (t, p) :: r, h => by
    have a := ((h (t, p) List.mem_cons_self).mul (hx t)).add (exFR hx (r := r) fun q hq => h q (List.mem_cons_of_mem _ hq))
    simp only [ex]
    refine a.mono ?_
    rw [List.length_cons, Rat.natCast_add, show ((1 : Nat) : Rat) = 1 from rfl]
    grind
section
variable {h : Nat} {q b : Rat} {r : Rw}
theorem SR.fb (S : SR h q r) : ∀ p ∈ r, FB 4 4 p.2 := fun p hp => by
  obtain ⟨W, h1, _, h2⟩ := S.w
  exact ⟨W, h1, h2 p hp⟩
theorem exFB (S : SR h q r) {d m : Nat} {D : Rat} {x : Nat → Rat} (hD : Den D (tw d)) (hx : ∀ t, FR D (tw m) (x t)) (j : Nat) : FB (4 + d) (4 + (4 + m)) (ex (r.take j) x) := by
  obtain ⟨W, h1, _, h2⟩ := S.w
  refine ⟨W * D, by rw [← tw_mul]; exact h1.mul hD, (exFR hx (r := r.take j) fun p hp => h2 p (List.mem_of_mem_take hp)).mono ?_⟩
  rw [tw_mul, ← tw_mul 4 (4 + m)]
  have : (r.take j).length ≤ 2 ^ 4 := by
    have := S.len
    have := List.length_take_le j r
    have := List.length_take_le' j r
    omega
  exact Rat.mul_le_mul_of_nonneg_right (nat_le_tw this) (Rat.le_of_lt (tw_pos _))
theorem exFB' (S : SR h q r) {d m : Nat} {D : Rat} {x : Nat → Rat} (hD : Den D (tw d)) (hx : ∀ t, FR D (tw m) (x t)) : FB (4 + d) (4 + (4 + m)) (ex r x) := by
  have := exFB S hD hx r.length
  rwa [List.take_length] at this
theorem exL (S : SR h q r) {d m : Nat} {D : Rat} {x : Nat → Rat} (hD : Den D (tw d)) (hx : ∀ t, FR D (tw m) (x t)) (hd : d + 4 ≤ 4400) (hm : m + 8 ≤ 4400) : ExL r x where
  p := fun j t p e => by
    have h1 := S.fb _ (List.mem_of_getElem? e)
    have h2 : FB d m (x t) := ⟨D, hD, hx t⟩
    exact ⟨h1.lim (by decide) (by decide), h2.lim (by omega) (by omega), (h1.mul h2).lim (by omega) (by omega)⟩
  s := fun j _ => (exFB S hD hx j).lim (by omega) (by omega)
theorem ind_fr (c : Prop) [Decidable c] : FR 1 (tw 0) (if c then (1 : Rat) else 0) := by
  split
  · exact ⟨IsI.one.eq (by grind), by rw [tw_zero, show (1 : Rat) * 1 = 1 by grind, ab_id (by decide)]; exact Rat.le_refl⟩
  · exact ⟨IsI.zero.eq (by grind), by rw [tw_zero, show (0 : Rat) * 1 = 0 by grind, ab_id (by decide)]; decide⟩
theorem ind_fb (c : Prop) [Decidable c] : FB 0 0 (if c then (1 : Rat) else 0) := ⟨1, den1, ind_fr c⟩
theorem accL (B : SB b q) (S : SR h q r) {m i : Nat} {ix : Nat → Option Nat} (hix : ∀ t c, ix t = some c → c < m) (hi : i < m) : AccL b ix r (unitR m i, 0) := by
  have hp : ∀ {j t : Nat} {p : Rat}, r[j]? = some (t, p) → FB 4 4 p := fun e => S.fb _ (List.mem_of_getElem? e)
  have hs := fun (j : Nat) => MG.acc_spec b ix m hix (r.take j) (unitR m i, 0) (MG.unitR_len m i)
  refine ⟨fun j t p e => ⟨(hp e).lim (by decide) (by decide), (B.fb.mul (hp e)).lim (by decide) (by decide)⟩, fun j t p c e hc => ?_, fun j t p e hc => ?_⟩
  · have f1 := B.fb.mul (exFB S den1 (fun t => ind_fr (ix t = some c)) j)
    have f2 : FB 8 13 (gt (acc b ix (r.take j) (unitR m i, 0)).1 c) := by
      rw [(hs j).2.1 c]
      have f0 : FB 0 0 (gt (unitR m i) c) := by rw [MG.gt_unitR hi]; exact ind_fb _
      exact f0.sub f1 (by decide) (by decide)
    exact ⟨f2.lim (by decide) (by decide), (f2.sub (B.fb.mul (hp e)) (m := 30) (by decide) (by decide)).lim (by decide) (by decide)⟩
  · have f1 := B.fb.mul (exFB S den1 (fun t => ind_fr (ix t = none)) j)
    have f2 : FB 8 13 (acc b ix (r.take j) (unitR m i, 0)).2 := by
      rw [(hs j).2.2]
      exact FB.zero.add f1 (by decide) (by decide)
    exact ⟨f2.lim (by decide) (by decide), (f2.add (B.fb.mul (hp e)) (m := 30) (by decide) (by decide)).lim (by decide) (by decide)⟩
theorem rowZ (B : SB b q) {n m k i : Nat} {ix : Nat → Option Nat} {rowf : Nat → Rw} {Bm : List (List Rat)} (Z : SR h q (rowf i)) (R : Row n (rowf i)) (hix : ∀ t c, ix t = some c → c < m) (hi : i < m) (Y : Sys m k (matM b ix m rowf) Bm)
    (hk : 0 < k) (hr : FR F (tw 107) (rw_ Bm i 0)) (ht : ∀ t, 0 < t → t < k → rw_ Bm i t = b * ex (rowf i) (fun t => if ix t = none then 1 else 0)) : ∃ e, RowZ h m k (fun l => gt (hat m (matM b ix m rowf) Bm i) l) e := by
  obtain ⟨W, w1, w2, w3⟩ := Z.w
  have b0 := B.d.b0
  have b1 := B.d.b1
  have iq : IsI (b * q) := B.b.int
  have pw : ∀ (f : Nat → Prop) [DecidablePred f], IsI (ex (rowf i) (fun t => if f t then 1 else 0) * W) := fun f _ => by
    have := (exFR (x := fun t => if f t then 1 else 0) (fun t => ind_fr (f t)) w3).int
    exact this.eq (by grind)
  let P : Nat → Rat := fun c => ex (rowf i) (fun t => if ix t = some c then 1 else 0)
  let L : Rat := ex (rowf i) (fun t => if ix t = none then 1 else 0)
  have pn : ∀ (f : Nat → Prop) [DecidablePred f], 0 ≤ ex (rowf i) (fun t => if f t then 1 else 0) := fun f _ => by
    have := ex_le (r := rowf i) (x := fun _ => 0) (y := fun t => if f t then 1 else 0) R.nn fun p _ => by
      show (0 : Rat) ≤ if f p.1 then 1 else 0
      split <;> decide
    rw [ex_const] at this
    grind
  have tot : S m P + L = 1 := by
    show S m (fun c => ex (rowf i) (fun t => if ix t = some c then 1 else 0)) + ex (rowf i) (fun t => if ix t = none then 1 else 0) = 1
    rw [MG.S_exswap, ← ex_add]
    refine Eq.trans (ex_congr fun p _ => ?_) R.one
    cases hp : ix p.1 with
    | none => rw [S_zero fun c _ => by rw [if_neg (by simp)]]; rw [if_pos rfl]; grind
    | some d =>
      rw [S_one d (hix _ _ hp) fun j _ hne => by rw [if_neg fun z => hne (Option.some.inj z).symm]]
      rw [if_pos rfl, if_neg (by simp)]; grind
  have P0 : ∀ c, 0 ≤ P c := fun c => pn fun t => ix t = some c
  have L0 : 0 ≤ L := pn fun t => ix t = none
  have SP0 : 0 ≤ S m P := S_nonneg fun c _ => P0 c
  have P1 : ∀ c, c < m → P c ≤ 1 := fun c hc => by
    have h1 : P c ≤ S m P := by
      have h2 : S m (fun j => if j = c then P c else 0) ≤ S m P := S_le fun j _ => by
        show (if j = c then P c else 0) ≤ P j
        split
        · rename_i e; rw [e]; exact Rat.le_refl
        · exact P0 j
      rw [S_one c hc fun j _ hne => if_neg hne, if_pos rfl] at h2
      exact h2
    grind
  have eA : ∀ c, c < m → gt (hat m (matM b ix m rowf) Bm i) c = (if c = i then 1 else 0) - b * P c := fun c hc => by rw [Y.hM hi hc, MG.matM_gt hix hi]
  have eB : ∀ t, 0 < t → t < k → gt (hat m (matM b ix m rowf) Bm i) (m + t) = b * L := fun t h0 h1 => by rw [Y.hb hi h1, ht t h0 h1]
  have bP : ∀ c, c < m → 0 ≤ b * P c ∧ b * P c ≤ b := fun c hc => ⟨Rat.mul_nonneg b0 (P0 c), by have := Rat.mul_le_mul_of_nonneg_left (P1 c hc) b0; grind⟩
  have bL0 : 0 ≤ b * L := Rat.mul_nonneg b0 L0
  have bT : b * S m P + b * L = b := by rw [← Rat.mul_add, tot]; grind
  have bS0 : 0 ≤ b * S m P := Rat.mul_nonneg b0 SP0
  have sA : S m (fun c => ab (gt (hat m (matM b ix m rowf) Bm i) c)) ≤ 1 + b * S m P := by
    have h1 : S m (fun c => ab (gt (hat m (matM b ix m rowf) Bm i) c)) ≤ S m (fun c => (if c = i then 1 else 0) + b * P c) := S_le fun c hc => by
      show ab (gt (hat m (matM b ix m rowf) Bm i) c) ≤ _
      rw [eA c hc]
      have := bP c hc
      refine ab_of ?_ ?_ <;> split <;> grind
    rw [S_add, S_one i hi fun j _ hne => if_neg hne, if_pos rfl, S_mul] at h1
    exact h1
  refine ⟨q * W, w2, fun l hl hne => ?_, fun l hl hne => ?_, ?_, fun l h1 h2 => ?_, ?_⟩
  · by_cases hm : l < m
    · show IsI (gt (hat m (matM b ix m rowf) Bm i) l * (q * W))
      rw [eA l hm]
      have i1 : IsI ((if l = i then (1 : Rat) else 0) * (q * W)) := by
        split
        · exact IsI.one.mul w2.int
        · exact IsI.zero.mul w2.int
      exact (i1.sub (iq.mul (pw fun t => ix t = some l))).eq (by show _ - b * q * (P l * W) = _; grind)
    · obtain ⟨t, rfl⟩ : ∃ t, l = m + t := ⟨l - m, by omega⟩
      show IsI (gt (hat m (matM b ix m rowf) Bm i) (m + t) * (q * W))
      rw [eB t (by omega) (by omega)]
      exact (iq.mul (pw fun t => ix t = none)).eq (by show b * q * (L * W) = _; grind)
  · show ab (gt (hat m (matM b ix m rowf) Bm i) l) ≤ 1
    by_cases hm : l < m
    · rw [eA l hm]
      have := bP l hm
      refine ab_of ?_ ?_ <;> split <;> grind
    · obtain ⟨t, rfl⟩ : ∃ t, l = m + t := ⟨l - m, by omega⟩
      rw [eB t (by omega) (by omega)]
      exact ab_of (by grind) (by grind)
  · show S m (fun c => ab (gt (hat m (matM b ix m rowf) Bm i) c)) ≤ 2
    grind
  · obtain ⟨t, rfl⟩ : ∃ t, l = m + t := ⟨l - m, by omega⟩
    show ab (gt (hat m (matM b ix m rowf) Bm i) (m + t)) + S m (fun c => ab (gt (hat m (matM b ix m rowf) Bm i) c)) ≤ 2
    rw [eB t (by omega) (by omega), ab_id bL0]
    grind
  · have := Y.hb hi hk
    rw [Nat.add_zero] at this
    show FR F (tw 107) (gt (hat m (matM b ix m rowf) Bm i) m)
    rw [this]
    exact hr
end
end N1
set_option Elab.async false
set_option linter.all false
set_option maxRecDepth 100000
set_option exponentiation.threshold 100000
/-! N2: one game's leave values and order -/
namespace N2
open MA ME ML MS MT W4 W5 W6 W7 W9 N1
open MG (Gm Rw acc unitR ixOf matM Disc Ins lvE lvG exE exG cand leaveA leaveB leaveM front nu ordTo)
/-- a small game of at most nm states -/
structure SG (h nm : Nat) (q : Rat) (G : Gm) : Prop where
  ok : G.Ok
  n : G.n ≤ nm
  rw : ∀ s, s < G.n → SR h q (G.row s)
  r : ∀ s, FR MS.F (tw 107) (G.r s)
/-- the numbers: beta bits for a game's leave values -/
structure NB (h nm be : Nat) : Prop where
  h8 : h ≤ 8
  n5 : nm ≤ 5
  eqb : be = bt h nm
  lim : be ≤ 278
section
variable {h nm be : Nat} {q b : Rat} {G : Gm} {I : List Nat} (X : NB h nm be) (B : SB b q) (g : SG h nm q G)
include X B g
theorem bt_len (hI : I.length ≤ nm) : bt h I.length ≤ be := by rw [X.eqb]; exact bt_mono h hI
theorem rows (J : Ins G I) : Rows h I.length 2 (leaveA G b I) (leaveB G b I) := fun i hi => by
  have Y := MG.leave_sys g.ok B.d J
  refine rowZ (n := G.n) B (g.rw _ (J.get hi)) (g.ok.rows _ (J.get hi)) (fun t c e => (MG.ixOf_lt e).1) hi Y (by decide) ?_ fun t h0 h1 => ?_
  · rw [MG.leaveB_0 hi]; exact g.r _
  · have : t = 1 := by omega
    subst this
    exact MG.leaveB_1 hi
theorem lvL (J : Ins G I) (hI : I.length ≤ nm) : LvL G b I where
  lb := B.lim
  ac := fun i hi => accL B (g.rw _ (J.get hi)) (fun t c e => (MG.ixOf_lt e).1) hi
  ls := LS.of (MG.leave_sys g.ok B.d J) (rows X B g J) (by decide) (by have := X.n5; omega) X.h8 (by have := bt_len X B g hI; have := X.lim; omega)
  i9 := by have := X.n5; omega
  rl := fun s hs => (g.rw s hs).len
theorem lv_fr (J : Ins G I) (hI : I.length ≤ nm) : ∃ D, Den D (tw be) ∧ (∀ t, FR D (tw be) (lvG G b I t)) ∧ ∀ t, FR (D * F) (tw (be + 111)) (lvE G b I t) := by
  obtain ⟨D, h1, h2⟩ := sol_fr (MG.leave_sys g.ok B.d J) (rows X B g J) (by decide)
  have hb := bt_len X B g hI
  have h1' := h1.mono (tw_le hb)
  refine ⟨D, h1', fun t => ?_, fun t => ?_⟩
  · unfold MG.lvG
    cases e : ixOf I t with
    | none => exact ⟨h1.int.eq (by show D = 1 * D; grind), by rw [show (1 : Rat) * D = D by grind, ab_id (Rat.le_of_lt h1.pos)]; exact h1'.le⟩
    | some c => exact ((h2 c (MG.ixOf_lt e).1).2 1 (by decide) (by decide)).mono (tw_le hb)
  · unfold MG.lvE
    cases e : ixOf I t with
    | none => exact ⟨IsI.zero.eq (by grind), by rw [show (0 : Rat) * (D * F) = 0 by grind, ab_id (by decide)]; exact Rat.le_of_lt (tw_pos _)⟩
    | some c =>
      refine (h2 c (MG.ixOf_lt e).1).1.mono ?_
      rw [show be + 111 = 4 + (be + 107) by omega, ← tw_mul, ← tw_mul]
      have n16 : I.length ≤ 2 ^ 4 := by have := X.n5; omega
      have q1 : tw (bt h I.length) * tw 107 ≤ tw be * tw 107 := Rat.mul_le_mul_of_nonneg_right (tw_le hb) (Rat.le_of_lt (tw_pos _))
      exact mul_le (nat_le_tw n16) q1 (Rat.mul_nonneg (Rat.le_of_lt (tw_pos _)) (Rat.le_of_lt (tw_pos _))) (Rat.le_of_lt (tw_pos _))
theorem r_fb (s : Nat) : FB 4 107 (G.r s) := ⟨F, F_den, g.r s⟩
theorem exG_fb (J : Ins G I) (hI : I.length ≤ nm) {s : Nat} (hs : s < G.n) : FB (be + 8) (be + 12) (exG G b I s) := by
  obtain ⟨D, h1, h2, h3⟩ := lv_fr X B g J hI
  exact (B.fb.mul (exFB' (g.rw s hs) h1 h2)).mono (by omega) (by omega)
theorem exE_fb (J : Ins G I) (hI : I.length ≤ nm) {s : Nat} (hs : s < G.n) : FB (be + 16) (be + 128) (exE G b I s) := by
  obtain ⟨D, h1, h2, h3⟩ := lv_fr X B g J hI
  have hD : Den (D * F) (tw (be + 4)) := by rw [← tw_mul]; exact h1.mul F_den
  exact ((r_fb X B g s).add (B.fb.mul (exFB' (g.rw s hs) hD h3)) (m := be + 128) (by omega) (by omega)).mono (by omega) (by omega)
theorem fpL (J : Ins G I) (hI : I.length ≤ nm) {s : Nat} (hs : s < G.n) : FpL G b I s where
  lb := B.lim
  e := by
    obtain ⟨D, h1, h2, h3⟩ := lv_fr X B g J hI
    have hD : Den (D * F) (tw (be + 4)) := by rw [← tw_mul]; exact h1.mul F_den
    exact exL (g.rw s hs) hD h3 (by have := X.lim; omega) (by have := X.lim; omega)
  g := by
    obtain ⟨D, h1, h2, h3⟩ := lv_fr X B g J hI
    exact exL (g.rw s hs) h1 h2 (by have := X.lim; omega) (by have := X.lim; omega)
  r := (r_fb X B g s).lim (by decide) (by decide)
  be := by
    obtain ⟨D, h1, h2, h3⟩ := lv_fr X B g J hI
    have hD : Den (D * F) (tw (be + 4)) := by rw [← tw_mul]; exact h1.mul F_den
    exact (B.fb.mul (exFB' (g.rw s hs) hD h3)).lim (by have := X.lim; omega) (by have := X.lim; omega)
  le := (exE_fb X B g J hI hs).lim (by have := X.lim; omega) (by have := X.lim; omega)
  lg := (exG_fb X B g J hI hs).lim (by have := X.lim; omega) (by have := X.lim; omega)
theorem sub_fb (J : Ins G I) (hI : I.length ≤ nm) {s : Nat} (hs : s < G.n) : FB (be + 8) (be + 13) (1 - exG G b I s) := (FB.one.sub (exG_fb X B g J hI hs) (m := be + 13) (by omega) (by omega)).mono (by omega) (by omega)
theorem cand_fb (J : Ins G I) (hI : I.length ≤ nm) {s : Nat} (hs : s < G.n) (hne : 1 - exG G b I s ≠ 0) : FB (2 * be + 29) (2 * be + 136) (cand G b I s) :=
  ((exE_fb X B g J hI hs).div (sub_fb X B g J hI hs) hne).mono (by omega) (by omega)
theorem ne_of {k s : Nat} (hk : k ≤ G.n) (hs : s < G.n) : 1 - exG G b (front G b k) s ≠ 0 := by
  have := (MG.ord_ok g.ok B.d).fac_pos hk hs
  have e : 0 < 1 - exG G b (front G b k) s := this
  grind
theorem nxL {k : Nat} (hk : k < G.n) : NxL G b (front G b k) where
  lv := lvL X B g (MG.front_ins (Nat.le_of_lt hk)).1 (by rw [(MG.front_ins (Nat.le_of_lt hk)).2]; have := g.n; omega)
  fp := fun s hs _ => by
    have J := MG.front_ins (b := b) (Nat.le_of_lt hk)
    have hI : (front G b k).length ≤ nm := by rw [J.2]; have := g.n; omega
    have hne := ne_of X B g (Nat.le_of_lt hk) hs
    exact ⟨fpL X B g J.1 hI hs, (sub_fb X B g J.1 hI hs).lim (by have := X.lim; omega) (by have := X.lim; omega), hne, (cand_fb X B g J.1 hI hs hne).lim (by have := X.lim; omega) (by have := X.lim; omega)⟩
  n9 := by have := X.n5; have := g.n; omega
  ne := MG.frees hk
theorem orL : OrL G b := ⟨fun k hk => by rw [MG.ordTo_front (Nat.le_of_lt hk)]; exact nxL X B g hk, by have := X.n5; have := g.n; omega⟩
theorem nu_fb {k : Nat} (hk : k < G.n) : FB (2 * be + 29) (2 * be + 136) (nu G b k) := by
  have J := MG.front_ins (b := b) (Nat.le_of_lt hk)
  have hI : (front G b k).length ≤ nm := by rw [J.2]; have := g.n; omega
  have S := MG.nextM_spec (G := G) (b := b) (I := front G b k) (MG.frees hk)
  unfold MG.nu
  rw [MG.ord_at hk, S.2.2.2.1]
  exact cand_fb X B g J.1 hI S.2.1 (ne_of X B g (Nat.le_of_lt hk) S.2.1)
theorem fr_front {k : Nat} (hk : k ≤ G.n) : ∃ D, Den D (tw be) ∧ (∀ t, FR D (tw be) (MG.lg G b k t)) ∧ ∀ t, FR (D * F) (tw (be + 111)) (MG.le G b k t) := by
  have J := MG.front_ins (b := b) hk
  have hI : (front G b k).length ≤ nm := by rw [J.2]; have := g.n; omega
  exact lv_fr X B g J.1 hI
theorem le_fb {k s : Nat} (hk : k ≤ G.n) : FB (be + 4) (be + 111) (MG.le G b k s) := by
  obtain ⟨D, h1, h2, h3⟩ := fr_front X B g hk
  exact ⟨D * F, by rw [← tw_mul]; exact h1.mul F_den, h3 s⟩
theorem lg_fb {k s : Nat} (hk : k ≤ G.n) : FB be be (MG.lg G b k s) := by
  obtain ⟨D, h1, h2, h3⟩ := fr_front X B g hk
  exact ⟨D, h1, h2 s⟩
theorem pt_fb {j k s : Nat} (hk : k ≤ G.n) (hj : j < G.n) : FB (4 * be + 33) (4 * be + 141) (MG.le G b k s + MG.lg G b k s * nu G b j) :=
  ((le_fb X B g hk).add ((lg_fb X B g hk).mul (nu_fb X B g hj)) (m := 4 * be + 141) (by omega) (by omega)).mono (by omega) (by omega)
/-! ### the slopes -/
theorem cdf_range (f : Nat → Rat × Rat) (m : Rat) : ∀ n : Nat, MF.cdf ((List.range n).map f) m = S n fun k => if (f k).2 ≤ m then (f k).1 else 0
  | 0 => rfl
  | n + 1 => by
    rw [List.range_succ, List.map_append, MF.cdf_app, cdf_range f m n]
    simp only [List.map_cons, List.map_nil, S, MF.cdf]
    grind
theorem place (m : Rat) : ∀ t, t ≤ G.n → ∃ j, j ≤ t ∧ (∀ k, k < j → ¬ nu G b k ≤ m) ∧ ∀ k, j ≤ k → k < t → nu G b k ≤ m
  | 0, _ => ⟨0, Nat.le_refl _, fun k hk => by omega, fun k _ hk => by omega⟩
  | t + 1, ht => by
    obtain ⟨j, h1, h2, h3⟩ := place m t (by omega)
    by_cases e : nu G b t ≤ m
    · refine ⟨j, by omega, h2, fun k hk hk2 => ?_⟩
      by_cases e2 : k = t
      · rw [e2]; exact e
      · exact h3 k hk (by omega)
    · by_cases ej : j = t
      · refine ⟨t + 1, Nat.le_refl _, fun k hk => ?_, fun k _ _ => by omega⟩
        by_cases e2 : k = t
        · rw [e2]; exact e
        · exact h2 k (by omega)
      · have h4 := h3 j (Nat.le_refl _) (by omega)
        have h5 := (MG.ord_ok g.ok B.d).desc (show j ≤ t by omega) (by omega)
        exact absurd (Rat.le_trans h5 h4) e
theorem cdf_lg {s : Nat} (hs : s < G.n) (m : Rat) : ∃ j, j ≤ G.n ∧ MF.cdf (MH.dst G b s) m = MG.lg G b j s := by
  obtain ⟨j, h1, h2, h3⟩ := place X B g m G.n (Nat.le_refl _)
  refine ⟨j, h1, ?_⟩
  unfold MH.dst MD.dist
  rw [cdf_range X B g]
  obtain ⟨r, hr⟩ : ∃ r, G.n = j + r := ⟨G.n - j, by omega⟩
  rw [hr, S_append]
  rw [S_zero (n := j) fun k hk => by rw [if_neg (h2 k hk)]]
  rw [S_congr (h := fun i => (fun i => MG.lg G b (j + i) s) i - (fun i => MG.lg G b (j + i) s) (i + 1)) fun i hi => by rw [if_pos (h3 (j + i) (by omega) (by omega))]; rfl]
  rw [MD.tele]
  have h0 := (MG.ord_ok g.ok B.d).g_end s hs
  rw [hr] at h0
  show 0 + (MG.lg G b (j + 0) s - MG.lg G b (j + r) s) = _
  rw [h0, Nat.add_zero]; grind
theorem cdf_fb {s : Nat} (hs : s < G.n) (m : Rat) : FB be be (MF.cdf (MH.dst G b s) m) := by
  obtain ⟨j, h1, e⟩ := cdf_lg X B g hs m
  rw [e]; exact lg_fb X B g h1
end
end N2
set_option Elab.async false
set_option linter.all false
set_option maxRecDepth 100000
set_option exponentiation.threshold 100000
/-! N3: the curves of one game, the products of curves -/
namespace N3
open MA ME ML MS MT W4 W5 W6 W7 W8 W9 N1 N2
open MC (Dist)
open MF (Knot V cdf Pts Kns kn ga lineSlope slopeAt mrg pks prodKnots keepG dmul straight)
open MG (Gm Rw Disc Ins front nu)
open MH (crv crvs ptsD dst grpEnd)
theorem knl {P : List Knot} {D : Dist} {A : List Rat} (h : Pts P D A) {da na ka dv nv : Nat} (ha : ∀ a ∈ A, FB da na a) (hv : ∀ a ∈ A, FB dv nv (V D a)) (hc : ∀ m, FB ka ka (cdf D m)) (hl : A.length ≤ 1000)
    (n1 : dv ≤ 4400) (n2 : nv ≤ 4400) (n3 : ka + na + da + 1 ≤ 4400) (n4 : ka + 2 * da ≤ 4400) : KnL P where
  k := fun i hi => by
    have hm := MF.ga_mem (G := A) (k := i) (by rw [← h.len]; exact hi)
    rw [h.kn hi]
    exact ⟨(ha _ hm).lim (by omega) (by omega), (hv _ hm).lim n1 n2⟩
  s := fun i hi => by
    have hg : i + 1 < A.length := by rw [← h.len]; exact hi
    have m1 := ha _ (MF.ga_mem (G := A) (k := i) (by omega))
    have m2 := ha _ (MF.ga_mem (G := A) (k := i + 1) hg)
    have lt := MF.ga_lt h.asc (show i < i + 1 by omega) hg
    have gp : FB (2 * da) (na + da + 1) (ga A (i + 1) - ga A i) := (m2.sub m1 (m := na + da + 1) (by omega) (by omega)).mono (by omega) (by omega)
    have d := MF.V_diff (Rat.le_of_lt lt) (h.gap hg)
    refine ⟨?_, ?_, ?_, ?_⟩
    · rw [h.kn hi, h.kn (show i < P.length by omega)]
      show Lim (V D (ga A (i + 1)) - V D (ga A i))
      rw [d]
      exact ((hc _).mul gp).lim (by omega) (by omega)
    · rw [h.kn hi, h.kn (show i < P.length by omega)]
      exact gp.lim (by omega) (by omega)
    · rw [h.kn hi, h.kn (show i < P.length by omega)]
      show ga A (i + 1) - ga A i ≠ 0
      grind
    · rw [h.slope hi]
      exact (hc _).lim (by omega) (by omega)
  l := by rw [h.len]; exact hl
section
variable {h nm be : Nat} {q b : Rat} {G : Gm} (X : NB h nm be) (B : SB b q) (g : SG h nm q G)
include X B g
theorem val {k s : Nat} (hk : k < G.n) (hs : s < G.n) : V (dst G b s) (nu G b k) = MG.le G b (k + 1) s + MG.lg G b (k + 1) s * nu G b k := by
  have O := MG.ord_ok g.ok B.d
  exact O.phi_at (j := k + 1) hs (by omega) (fun i hi => O.desc (by omega) hk) fun i hi hi2 => O.desc (by omega) hi2
theorem gd_nu {s : Nat} {a : Rat} (ha : a ∈ MH.gD G b s G.n) : ∃ k, k < G.n ∧ a = nu G b k := by
  obtain ⟨j, hj, _, _, e⟩ := MH.mem_gD.mp ha
  exact ⟨G.n - 1 - j, by omega, e⟩
theorem gd_fb {s : Nat} (hs : s < G.n) {a : Rat} (ha : a ∈ MH.gD G b s G.n) : FB (2 * be + 29) (2 * be + 136) a ∧ FB (4 * be + 33) (4 * be + 141) (V (dst G b s) a) := by
  obtain ⟨k, hk, rfl⟩ := gd_nu X B g ha
  refine ⟨nu_fb X B g hk, ?_⟩
  rw [val X B g hk hs]
  exact pt_fb X B g (by omega) hk
theorem gd_len {s : Nat} (hs : s < G.n) : (MH.gD G b s G.n).length ≤ G.n := by
  rw [← (MH.pts_pts g.ok B.d hs).len]
  exact ptsD_len G b s G.n
theorem keep_len {s : Nat} (hs : s < G.n) : (keepG (dst G b s) (MH.gD G b s G.n)).length ≤ G.n :=
  Nat.le_trans (List.length_filter_le _ _) (gd_len X B g hs)
theorem keep_mem {s : Nat} {a : Rat} (ha : a ∈ keepG (dst G b s) (MH.gD G b s G.n)) : a ∈ MH.gD G b s G.n := (List.mem_filter.mp ha).1
theorem ptL {s : Nat} (hs : s < G.n) : KnL (ptsD G b s G.n) :=
  knl (MH.pts_pts g.ok B.d hs) (fun a ha => (gd_fb X B g hs ha).1) (fun a ha => (gd_fb X B g hs ha).2) (cdf_fb X B g hs) (by have := gd_len X B g hs; have := X.n5; have := g.n; omega)
    (by have := X.lim; omega) (by have := X.lim; omega) (by have := X.lim; omega) (by have := X.lim; omega)
theorem crL {s : Nat} (hs : s < G.n) : KnL (crv G b s) :=
  knl (MH.crv_kns g.ok B.d hs).toPts (fun a ha => (gd_fb X B g hs (keep_mem X B g ha)).1) (fun a ha => (gd_fb X B g hs (keep_mem X B g ha)).2) (cdf_fb X B g hs) (by have := keep_len X B g hs; have := X.n5; have := g.n; omega)
    (by have := X.lim; omega) (by have := X.lim; omega) (by have := X.lim; omega) (by have := X.lim; omega)
theorem cvL : CvL G b where
  o := orL X B g
  lv := fun k hk _ => lvL X B g (MG.front_ins (by omega)).1 (by rw [(MG.front_ins (b := b) (show k + 1 ≤ G.n by omega)).2]; have := g.n; omega)
  nu := fun k hk => (nu_fb X B g hk).lim (by have := X.lim; omega) (by have := X.lim; omega)
  it := fun k s hk _ _ => by
    have := X.lim
    exact ⟨(le_fb X B g (by omega)).lim (by omega) (by omega), (lg_fb X B g (by omega)).lim (by omega) (by omega), ((lg_fb X B g (by omega)).mul (nu_fb X B g hk)).lim (by omega) (by omega), (pt_fb X B g (by omega) hk).lim (by omega) (by omega)⟩
  pt := fun s hs => ptL X B g hs
  cr := fun s hs => crL X B g hs
end
/-! ### one denominator for many -/
theorem common {d m : Nat} : ∀ (n : Nat) (f : Nat → Nat → Rat), (∀ k, k < n → ∃ D, Den D (tw d) ∧ ∀ t, FR D (tw m) (f k t)) → ∃ N, Den N (tw (n * d)) ∧ ∀ k, k < n → ∀ t, FR N (tw (m + n * d)) (f k t)
  | 0, f, _ => ⟨1, by rw [Nat.zero_mul]; exact den_one, fun k hk => by omega⟩
  | n + 1, f, h => by
    obtain ⟨N, h1, h2⟩ := common n f fun k hk => h k (by omega)
    obtain ⟨D, h3, h4⟩ := h n (by omega)
    refine ⟨N * D, by rw [Nat.succ_mul, ← tw_mul]; exact h1.mul h3, fun k hk t => ?_⟩
    by_cases e : k = n
    · subst e
      have := (h4 t).lift h1
      rw [Rat.mul_comm D N] at this
      refine this.mono ?_
      refine Rat.le_trans (Rat.mul_le_mul_of_nonneg_left h1.le (Rat.le_of_lt (tw_pos _))) ?_
      rw [tw_mul]
      exact tw_le (by rw [Nat.succ_mul]; omega)
    · refine ((h2 k (by omega) t).lift h3).mono ?_
      refine Rat.le_trans (Rat.mul_le_mul_of_nonneg_left h3.le (Rat.le_of_lt (tw_pos _))) ?_
      rw [tw_mul]
      exact tw_le (by rw [Nat.succ_mul]; omega)
/-- a curve with its sizes -/
structure Sz (P : List Knot) (D : Dist) (A : List Rat) (N C : Rat) (x y L : Nat) : Prop where
  p : Pts P D A
  a : ∀ a ∈ A, FR N (tw x) a
  c : ∀ m, FR C (tw y) (cdf D m)
  l : A.length ≤ L
section
variable {P Q : List Knot} {D E : Dist} {A A' : List Rat} {N M C C' : Rat} {x x' y y' L L' dn dm : Nat}
theorem Sz.val (S : Sz P D A N C x y L) (hN : Den N (tw dn)) (hC : Den C (tw y)) : ∀ j, j < A.length → FR (N * C) (((2 * j + 1 : Nat) : Rat) * tw (x + y)) (V D (ga A (A.length - 1 - j)))
  | 0, hj => by
    have hk : A.length - 1 - 0 + 1 = A.length := by omega
    rw [show V D (ga A (A.length - 1 - 0)) = ga A (A.length - 1 - 0) by rw [MF.V_top (S.p.le_last hk), S.p.ok.one]; grind]
    refine ((S.a _ (MF.ga_mem (by omega))).lift hC).mono ?_
    have := Rat.mul_le_mul_of_nonneg_left hC.le (Rat.le_of_lt (tw_pos x))
    rw [← tw_mul, show ((2 * 0 + 1 : Nat) : Rat) = 1 from rfl]; grind
  | j + 1, hj => by
    have ih := S.val hN hC j (by omega)
    obtain ⟨k, hk⟩ : ∃ k, k = A.length - 1 - (j + 1) := ⟨_, rfl⟩
    have hk1 : A.length - 1 - j = k + 1 := by omega
    rw [hk1] at ih
    rw [← hk]
    have hg : k + 1 < A.length := by omega
    have lt := MF.ga_lt S.p.asc (show k < k + 1 by omega) hg
    have d := MF.V_diff (Rat.le_of_lt lt) (S.p.gap hg)
    have e : V D (ga A k) = V D (ga A (k + 1)) - cdf D (ga A k) * (ga A (k + 1) - ga A k) := by grind
    rw [e]
    have g1 := (S.a _ (MF.ga_mem hg)).sub (S.a _ (MF.ga_mem (G := A) (k := k) (by omega)))
    have g2 := (S.c (ga A k)).mul g1
    rw [Rat.mul_comm C N] at g2
    refine (ih.sub g2).mono ?_
    have e3 : tw y * (tw x + tw x) = 2 * tw (x + y) := by rw [← tw_mul]; grind
    rw [e3, show ((2 * (j + 1) + 1 : Nat) : Rat) = ((2 * j + 1 : Nat) : Rat) + 2 by rw [show 2 * (j + 1) + 1 = (2 * j + 1) + 2 by omega, Rat.natCast_add]; rfl]
    grind
theorem Sz.vfb (S : Sz P D A N C x y L) (hN : Den N (tw dn)) (hC : Den C (tw y)) (hL : L ≤ 7) {a : Rat} (ha : a ∈ A) : FR (N * C) (tw (x + y + 4)) (V D a) := by
  obtain ⟨k, hk, rfl⟩ := MF.mem_ga ha
  have := S.val hN hC (A.length - 1 - k) (by omega)
  rw [show A.length - 1 - (A.length - 1 - k) = k by omega] at this
  refine this.mono ?_
  rw [show tw (x + y + 4) = tw 4 * tw (x + y) by rw [tw_mul, Nat.add_comm]]
  have h16 : 2 * (A.length - 1 - k) + 1 ≤ 2 ^ 4 := by have := S.l; omega
  exact Rat.mul_le_mul_of_nonneg_right (nat_le_tw h16) (Rat.le_of_lt (tw_pos _))
theorem Sz.knl (S : Sz P D A N C x y L) (hN : Den N (tw dn)) (hC : Den C (tw y)) (hL : L ≤ 7) (h1 : x + y + dn + 4 ≤ 4400) (h2 : y + 2 * dn ≤ 4400) : KnL P :=
  N3.knl S.p (fun a ha => ⟨N, hN, S.a a ha⟩) (fun a ha => ⟨N * C, by rw [← tw_mul]; exact hN.mul hC, S.vfb hN hC hL ha⟩) (fun m => ⟨C, hC, S.c m⟩) (by have := S.l; omega) (by omega) (by omega) (by omega) (by omega)
theorem Sz.prod (S : Sz P D A N C x y L) (U : Sz Q E A' M C' x' y' L') (hN : Den N (tw dn)) (hC : Den C (tw y)) (hM : Den M (tw dm)) (hC' : Den C' (tw y')) {X : Nat} (h1 : x + dm ≤ X) (h2 : x' + dn ≤ X) :
    Sz (pks (sl2 P Q) (mrg (am P) (am Q))) (dmul D E) (mrg A A') (N * M) (C * C') X (y + y') (L + L') where
  p := MF.prod_pts S.p U.p
  a := fun a ha => by
    rcases MF.mem_mrg.mp ha with h | h
    · refine ((S.a a h).lift hM).mono ?_
      refine Rat.le_trans (Rat.mul_le_mul_of_nonneg_left hM.le (Rat.le_of_lt (tw_pos _))) ?_
      rw [tw_mul]; exact tw_le h1
    · have := (U.a a h).lift hN
      rw [Rat.mul_comm M N] at this
      refine this.mono ?_
      refine Rat.le_trans (Rat.mul_le_mul_of_nonneg_left hN.le (Rat.le_of_lt (tw_pos _))) ?_
      rw [tw_mul]; exact tw_le h2
  c := fun m => by
    rw [MF.cdf_dmul, ← tw_mul]
    exact (S.c m).mul (U.c m)
  l := by
    have := MF.mrg_len (xs := A) (ys := A')
    have := S.l
    have := U.l
    omega
theorem Sz.keep (S : Sz P D A N C x y L) : Sz (straight P) D (keepG D A) N C x y L := ⟨S.p.kns.toPts, fun a ha => S.a a (List.mem_filter.mp ha).1, S.c, Nat.le_trans (List.length_filter_le _ _) S.l⟩
theorem Sz.mul (S : Sz P D A N C x y L) (U : Sz Q E A' M C' x' y' L') (hN : Den N (tw dn)) (hC : Den C (tw y)) (hM : Den M (tw dm)) (hC' : Den C' (tw y')) {X : Nat} (h1 : x + dm ≤ X) (h2 : x' + dn ≤ X) (hL : L + L' ≤ 7) (h3 : X + (y + y') + (dn + dm) + 4 ≤ 4400) (h4 : (y + y') + 2 * (dn + dm) ≤ 4400) : MulL P Q := by
  have Z := S.prod U hN hC hM hC' h1 h2
  have hNM : Den (N * M) (tw (dn + dm)) := by rw [← tw_mul]; exact hN.mul hM
  have hCC : Den (C * C') (tw (y + y')) := by rw [← tw_mul]; exact hC.mul hC'
  have kz := Z.knl hNM hCC hL h3 h4
  have kk := Z.keep.knl hNM hCC hL h3 h4
  have kn := MF.prod_kns S.p U.p
  have sl : ∀ a, sl2 P Q a = cdf D a * cdf E a := fun a => by unfold sl2; rw [S.p.slopeAt, U.p.slopeAt]
  have fs : ∀ m, FB y y (cdf D m) := fun m => ⟨C, hC, S.c m⟩
  have fu : ∀ m, FB y' y' (cdf E m) := fun m => ⟨C', hC', U.c m⟩
  have em : mrg (am P) (am Q) = mrg A A' := by unfold am; rw [S.p.amts, U.p.amts]
  have fa : ∀ i, i < (mrg A A').length → FR (N * M) (tw X) (gt (mrg A A') i) := fun i hi => Z.a _ (MF.ga_mem hi)
  refine ⟨⟨S.knl hN hC (by omega) (by omega) (by omega), U.knl hM hC' (by omega) (by omega) (by omega), by rw [S.p.len]; exact S.p.ne, by rw [U.p.len]; exact U.p.ne, fun i hi => ?_, fun i hi => ?_, kz⟩, kk, ?_, kn.right⟩
  · rw [em] at hi ⊢
    rw [sl, S.p.slopeAt, U.p.slopeAt]
    exact ⟨(show FB (dn + dm) X _ from ⟨N * M, hNM, fa i hi⟩).lim (by omega) (by omega), (fs _).lim (by omega) (by omega), (fu _).lim (by omega) (by omega), ((fs _).mul (fu _)).lim (by omega) (by omega)⟩
  · rw [em] at hi ⊢
    rw [sl]
    have g : FB (dn + dm) (X + 1) (gt (mrg A A') (i + 1) - gt (mrg A A') i) := ⟨N * M, hNM, ((fa (i + 1) hi).sub (fa i (by omega))).mono (by rw [tw_succ]; grind)⟩
    exact ⟨g.lim (by omega) (by omega), (((fs _).mul (fu _)).mul g).lim (by omega) (by omega)⟩
  · rw [kn.toPts.len]; exact kn.toPts.ne
end
end N3
set_option Elab.async false
set_option linter.all false
set_option maxRecDepth 100000
set_option exponentiation.threshold 100000
/-! N4: the sizes of a company -/
namespace N4
open MA ME ML MS MT W4 W5 W6 W7 W8 W9 W10 W11 W12 W16 W17 N1 N2 N3
open MC (Dist)
open MF (Knot V cdf Pts Kns kn ga prodKnots keepG)
open MG (Gm Rw Disc Ins front nu unitR acc)
open MH (crv crvs dst joints gAt jAt sAt world num Co tabCurves tabM cstep size)
open MI (cN cvA cvB cvS cvM Cho impM ixN)
structure SC (h nm be : Nat) (q b : Rat) (Gs : List Gm) : Prop where
  X : NB h nm be
  B : SB b q
  g : ∀ G ∈ Gs, SG h nm q G
  ne : 0 < Gs.length
  l5 : Gs.length ≤ 5
  n1 : 0 < nm
  pw : nm ^ Gs.length ≤ 9
  cv : bt h 9 ≤ 4087 ∨ nm ^ Gs.length ≤ 5
  ca : Gs.length = 1 ∨ (Gs.length * nm ≤ 6 ∧ be ≤ 55)
theorem size_le {h nm : Nat} {q : Rat} : ∀ (Gs : List Gm) (c : Nat), (∀ G ∈ Gs, SG h nm q G) → size Gs c ≤ c * nm ^ Gs.length
  | [], c, _ => by simp [size]
  | G :: Gs, c, g => by
    have h1 := size_le Gs (c * G.n) fun E hE => g E (List.mem_cons_of_mem _ hE)
    have h2 := (g G List.mem_cons_self).n
    show size Gs (c * G.n) ≤ _
    refine Nat.le_trans h1 ?_
    rw [List.length_cons, Nat.pow_succ, Nat.mul_comm (nm ^ Gs.length) nm, ← Nat.mul_assoc]
    exact Nat.mul_le_mul_right _ (Nat.mul_le_mul_left _ h2)
section
variable {h nm be : Nat} {q b : Rat} {Gs : List Gm} (Z : SC h nm be q b Gs)
include Z
theorem co : Co Gs b := ⟨Z.B.d, fun G hG => (Z.g G hG).ok, Z.ne⟩
theorem gm {i : Nat} (hi : i < Gs.length) : SG h nm q (gAt Gs i) := Z.g _ (MH.gAt_mem hi)
theorem jl_len {i : Nat} (hi : i ≤ Gs.length) : (joints (Gs.take i)).length ≤ 9 := by
  rw [MH.joints_len]
  refine Nat.le_trans (size_le (Gs.take i) 1 fun G hG => Z.g G (List.mem_of_mem_take hG)) ?_
  rw [Nat.one_mul]
  refine Nat.le_trans (Nat.pow_le_pow_right Z.n1 ?_) Z.pw
  rw [List.length_take]; omega
theorem jl : JL Gs := ⟨fun i hi => by have := jl_len Z hi; unfold joTo; omega, fun i hi => by have := (gm Z hi).n; have := Z.X.n5; omega⟩
theorem cn_pw : cN Gs ≤ nm ^ Gs.length := by
  have := size_le Gs 1 Z.g
  rw [Nat.one_mul] at this
  unfold MI.cN
  rw [MH.joints_len]; exact this
theorem n9 : cN Gs ≤ 9 := Nat.le_trans (cn_pw Z) Z.pw
theorem g5 : Gs.length ≤ 1000 := by have := Z.l5; omega
theorem co_take {i : Nat} : Co (Gs.take (i + 1)) b := ⟨Z.B.d, fun G hG => (Z.g G (List.mem_of_mem_take hG)).ok, by rw [List.length_take]; have := Z.ne; omega⟩
end
/-! ### the curves of a company -/
def dN (nm be : Nat) : Nat := nm * (2 * be + 29)
def dC (nm be : Nat) : Nat := (nm + 2) * be
def Pre (nm be i : Nat) (cs : List (List Knot)) : Prop := ∃ N C, Den N (tw (i * dN nm be)) ∧ Den C (tw (i * dC nm be)) ∧ ∀ c ∈ cs, ∃ D A, Sz c D A N C (2 * be + 136 + i * dN nm be) (i * dC nm be) (i * nm)
section
variable {h nm be : Nat} {q b : Rat} {G : Gm} (X : NB h nm be) (B : SB b q) (g : SG h nm q G)
include X B g
theorem game_pre : ∃ N C, Den N (tw (dN nm be)) ∧ Den C (tw (dC nm be)) ∧ ∀ s, s < G.n → Sz (crv G b s) (dst G b s) (keepG (dst G b s) (MH.gD G b s G.n)) N C (2 * be + 136 + dN nm be) (dC nm be) nm := by
  obtain ⟨N, h1, h2⟩ := common (d := 2 * be + 29) (m := 2 * be + 136) G.n (fun k _ => nu G b k) fun k hk => by
    obtain ⟨D, e1, e2⟩ := nu_fb X B g hk
    exact ⟨D, e1, fun _ => e2⟩
  obtain ⟨C, h3, h4⟩ := common (d := be) (m := be) (G.n + 1) (fun k t => MG.lg G b k t) fun k hk => by
    obtain ⟨D, e1, e2, _⟩ := fr_front X B g (k := k) (by omega)
    exact ⟨D, e1, e2⟩
  have hn := g.n
  have q1 : G.n * (2 * be + 29) ≤ dN nm be := Nat.mul_le_mul_right _ hn
  have q2 : (G.n + 1) * be + be ≤ dC nm be := by
    have := Nat.mul_le_mul_right be (show G.n + 2 ≤ nm + 2 by omega)
    rw [show G.n + 2 = (G.n + 1) + 1 by omega, Nat.succ_mul] at this
    exact this
  refine ⟨N, C, h1.mono (tw_le q1), h3.mono (tw_le (by omega)), fun s hs => ⟨(MH.crv_kns g.ok B.d hs).toPts, fun a ha => ?_, fun m => ?_, ?_⟩⟩
  · obtain ⟨k, hk, rfl⟩ := gd_nu X B g (keep_mem X B g ha)
    exact (h2 k hk 0).mono (tw_le (by omega))
  · obtain ⟨j, hj, e⟩ := cdf_lg X B g hs m
    rw [e]
    exact (h4 j (by omega) s).mono (tw_le (by omega))
  · exact Nat.le_trans (keep_len X B g hs) hn
theorem pre_one : Pre nm be 1 (crvs b G) := by
  obtain ⟨N, C, h1, h2, h3⟩ := game_pre X B g
  refine ⟨N, C, by rw [Nat.one_mul]; exact h1, by rw [Nat.one_mul]; exact h2, fun c hc => ?_⟩
  obtain ⟨s, hs, rfl⟩ := List.mem_map.mp hc
  simp only [Nat.one_mul]
  exact ⟨_, _, h3 s (List.mem_range.mp hs)⟩
theorem pre_step {i : Nat} {cs : List (List Knot)} (hp : Pre nm be i cs) (hL : (i + 1) * nm ≤ 6) (hi : i + 1 ≤ 5) (hbe : be ≤ 55) : Pre nm be (i + 1) (cstep b cs G) ∧ ∀ c ∈ cs, ∀ o ∈ crvs b G, MulL c o := by
  obtain ⟨N, C, h1, h2, h3⟩ := hp
  obtain ⟨M, E, k1, k2, k3⟩ := game_pre X B g
  have q1 : (i + 1) * dN nm be ≤ 834 := by
    unfold dN
    rw [← Nat.mul_assoc]
    have := Nat.mul_le_mul hL (show 2 * be + 29 ≤ 139 by omega)
    omega
  have q2 : (i + 1) * dC nm be ≤ 880 := by
    unfold dC
    rw [← Nat.mul_assoc]
    have e : (i + 1) * (nm + 2) ≤ 16 := by rw [Nat.mul_add]; omega
    have := Nat.mul_le_mul e hbe
    omega
  have e1 : (i + 1) * dN nm be = i * dN nm be + dN nm be := Nat.succ_mul _ _
  have e2 : (i + 1) * dC nm be = i * dC nm be + dC nm be := Nat.succ_mul _ _
  have e3 : (i + 1) * nm = i * nm + nm := Nat.succ_mul _ _
  refine ⟨⟨N * M, C * E, by rw [e1, ← tw_mul]; exact h1.mul k1, by rw [e2, ← tw_mul]; exact h2.mul k2, fun c hc => ?_⟩, fun c hc o ho => ?_⟩
  · obtain ⟨c', hc', h4⟩ := List.mem_flatMap.mp hc
    obtain ⟨o, ho, rfl⟩ := List.mem_map.mp h4
    obtain ⟨s, hs, rfl⟩ := List.mem_map.mp ho
    obtain ⟨D, A, S⟩ := h3 c' hc'
    have U := k3 s (List.mem_range.mp hs)
    rw [e1, e2, e3]
    exact ⟨_, _, (S.prod U h1 h2 k1 k2 (X := 2 * be + 136 + (i * dN nm be + dN nm be)) (by omega) (by omega)).keep⟩
  · obtain ⟨s, hs, rfl⟩ := List.mem_map.mp ho
    obtain ⟨D, A, S⟩ := h3 c hc
    have U := k3 s (List.mem_range.mp hs)
    exact S.mul U h1 h2 k1 k2 (X := 2 * be + 136 + (i * dN nm be + dN nm be)) (by omega) (by omega) (by omega) (by omega) (by omega)
end
section
variable {h nm be : Nat} {q b : Rat} {Gs : List Gm} (Z : SC h nm be q b Gs)
include Z
theorem tc_zero : tcTo Gs b 0 = crvs b (gAt Gs 0) := by
  have := Z.ne
  cases Gs with
  | nil => exact absurd this (by simp)
  | cons G Gs => rfl
theorem tc_all : tcTo Gs b (Gs.length - 1) = tabCurves b Gs := by
  unfold tcTo
  rw [show Gs.length - 1 + 1 = Gs.length by have := Z.ne; omega, List.take_length]
theorem pre_all (hm : Gs.length * nm ≤ 6) (hbe : be ≤ 55) : ∀ i, i < Gs.length → Pre nm be (i + 1) (tcTo Gs b i)
  | 0, hi => by rw [tc_zero Z]; exact pre_one Z.X Z.B (gm Z hi)
  | i + 1, hi => by
    rw [tcTo_succ hi]
    have := Nat.mul_le_mul_right nm (show i + 1 + 1 ≤ Gs.length by omega)
    exact (pre_step Z.X Z.B (gm Z hi) (pre_all hm hbe i (by omega)) (by omega) (by have := Z.l5; omega) hbe).1
theorem vtL : VtL Gs b where
  cv := fun i hi => cvL Z.X Z.B (gm Z hi)
  mu := fun i hi c hc o ho => by
    rcases Z.ca with h1 | ⟨hm, hbe⟩
    · omega
    · have := Nat.mul_le_mul_right nm (show i + 1 + 1 ≤ Gs.length by omega)
      exact (pre_step Z.X Z.B (gm Z hi) (pre_all Z hm hbe i (by omega)) (by omega) (by have := Z.l5; omega) hbe).2 c hc o ho
  ln := fun i hi => by
    unfold tcTo
    rw [MH.tabCurves_len (co_take Z)]
    have := jl_len Z (i := i + 1) (by omega)
    omega
  ps := fun c hc => by
    rw [← tc_all Z] at hc
    rcases Z.ca with h1 | ⟨hm, hbe⟩
    · rw [h1, tc_zero Z] at hc
      obtain ⟨s, hs, rfl⟩ := List.mem_map.mp hc
      have k := (MH.crv_kns (gm Z Z.ne).ok Z.B.d (List.mem_range.mp hs)).toPts
      rw [k.len]; exact k.ne
    · obtain ⟨N, C, _, _, h3⟩ := pre_all Z hm hbe (Gs.length - 1) (by have := Z.ne; omega)
      obtain ⟨D, A, S⟩ := h3 c hc
      rw [S.p.len]; exact S.p.ne
  g5 := g5 Z
theorem tab_fr : ∃ D, Den D (tw 1714) ∧ ∀ x ∈ tabM Gs b, FR D (tw 1964) x := by
  unfold MH.tabM
  rw [← tc_all Z]
  have hlim := Z.X.lim
  rcases Z.ca with h1 | ⟨hm, hbe⟩
  · rw [h1, tc_zero Z]
    have g := gm Z Z.ne
    generalize gAt Gs 0 = G at g
    obtain ⟨D, d1, _, d3⟩ := fr_front Z.X Z.B g (k := G.n) (Nat.le_refl _)
    have hD : Den (D * MS.F) (tw (be + 4)) := by rw [← tw_mul]; exact d1.mul F_den
    refine ⟨D * MS.F, hD.mono (tw_le (by omega)), fun x hx => ?_⟩
    obtain ⟨c, hc, rfl⟩ := List.mem_map.mp hx
    obtain ⟨s, hs, rfl⟩ := List.mem_map.mp hc
    have hs := List.mem_range.mp hs
    have k := (MH.crv_kns g.ok Z.B.d hs).toPts
    have hn : 0 < G.n := by omega
    have e : (kn (crv G b s) 0).2 = MG.le G b G.n s := by
      rw [k.kn (by rw [k.len]; exact k.ne)]
      show V (dst G b s) _ = _
      rw [MF.V_low (m' := nu G b (G.n - 1)) k.ge_first fun p hp _ => MH.low_of g.ok Z.B.d Rat.le_refl s p hp]
      rw [N3.val Z.X Z.B g (by omega) hs, show G.n - 1 + 1 = G.n by omega, (MG.ord_ok g.ok Z.B.d).g_end s hs]
      grind
    rw [e]
    exact (d3 s).mono (tw_le (by omega))
  · have hz := Z.ne
    obtain ⟨N, C, h1, h2, h3⟩ := pre_all Z hm hbe (Gs.length - 1) (by omega)
    rw [show Gs.length - 1 + 1 = Gs.length by omega] at h1 h2 h3
    have q1 : Gs.length * dN nm be ≤ 834 := by
      unfold dN
      rw [← Nat.mul_assoc]
      have := Nat.mul_le_mul hm (show 2 * be + 29 ≤ 139 by omega)
      omega
    have q2 : Gs.length * dC nm be ≤ 880 := by
      unfold dC
      rw [← Nat.mul_assoc]
      have e : Gs.length * (nm + 2) ≤ 16 := by have := Z.l5; rw [Nat.mul_add]; omega
      have := Nat.mul_le_mul e hbe
      omega
    refine ⟨N * C, (show Den (N * C) (tw _) by rw [← tw_mul]; exact h1.mul h2).mono (tw_le (by omega)), fun x hx => ?_⟩
    obtain ⟨c, hc, rfl⟩ := List.mem_map.mp hx
    obtain ⟨D, A, S⟩ := h3 c hc
    rw [S.p.kn (by rw [S.p.len]; exact S.p.ne)]
    exact (S.vfb h1 h2 (by omega) (MF.ga_mem S.p.ne)).mono (tw_le (by omega))
/-! ### the table of choices -/
theorem sr_world {kk i : Nat} (hk : kk < cN Gs) (hi : i < Gs.length) : SR h q ((world Gs b).T kk i) := by
  have hv : MH.Vld Gs (jAt Gs kk) := MH.joint_at_vld hk
  have S := (gm Z hi).rw _ (hv.at hi)
  obtain ⟨W, w1, w2, w3⟩ := S.w
  refine ⟨⟨W, w1, w2, fun p hp => ?_⟩, ?_⟩
  · obtain ⟨x, hx, rfl⟩ := List.mem_map.mp hp
    exact w3 x hx
  · show (List.map _ _).length ≤ 9
    rw [List.length_map]; exact S.len
theorem rho_fb {kk i : Nat} (hi : i < Gs.length) : FB 4 107 ((world Gs b).ρ kk i) := r_fb Z.X Z.B (gm Z hi) _
theorem plL {W : List Rat} {D : Rat} {d m kk i : Nat} (hk : kk < cN Gs) (hi : i < Gs.length) (hD : Den D (tw d)) (hW : ∀ x ∈ W, FR D (tw m) x) (hd : d ≤ 4091) (hm : m ≤ 4198) : PlL Gs b W kk i := by
  have hx : ∀ t, FR D (tw m) (gt W t) := fun t => by
    by_cases ht : t < W.length
    · exact hW _ (List.mem_of_getElem? (get_of_gt ht))
    · rw [gt_out (by omega)]
      exact ⟨IsI.zero.eq (by grind), by rw [show (0 : Rat) * D = 0 by grind, ab_id (by decide)]; exact Rat.le_of_lt (tw_pos _)⟩
  have S := sr_world Z hk hi
  have f := Z.B.fb.mul (exFB' S hD hx)
  refine ⟨Z.B.lim, exL S hD hx (by omega) (by omega), (rho_fb Z hi).lim (by decide) (by decide), f.lim (by omega) (by omega), ?_⟩
  exact ((rho_fb Z hi).add f (m := 4215) (by omega) (by omega)).lim (by omega) (by omega)
theorem chL {W : List Rat} {D : Rat} {d m : Nat} (hl : W.length = cN Gs) (hD : Den D (tw d)) (hW : ∀ x ∈ W, FR D (tw m) x) (hd : d ≤ 4091) (hm : m ≤ 4198) : ChL Gs b W where
  co := co Z
  len := hl
  jl := jl Z
  g5 := g5 Z
  w := fun x hx => (show FB d m x from ⟨D, hD, hW x hx⟩).lim (by omega) (by omega)
  p := fun kk i hk hi => (plL Z hk hi hD hW hd hm).lp
  pl := fun kk i hk hi => (plL Z hk hi hD hW hd hm).pl
  n9 := by have := n9 Z; omega
section
variable {ch : List Nat} (hc : Cho Gs ch)
include hc
theorem bt_cv : bt h (cN Gs) ≤ 4087 := by
  rcases Z.cv with h1 | h1
  · exact Nat.le_trans (bt_mono h (n9 Z)) h1
  · have h2 : bt h (cN Gs) ≤ bt 8 5 := by
      have h3 := bt_mono h (show cN Gs ≤ 5 by have := cn_pw Z; omega)
      refine Nat.le_trans h3 ?_
      have := Z.X.h8
      simp only [bt]; omega
    exact Nat.le_trans h2 (by decide)
theorem cv_rows : Rows h (cN Gs) 1 (cvA Gs ch b) (cvB Gs ch b) := fun i hi => by
  have Y := MI.cv_sys (co Z) hc
  refine rowZ (n := cN Gs) Z.B (sr_world Z hi (hc.lt i hi)) ((MH.world_ok (co Z)).row i _ hi (hc.lt i hi)) (fun t c e => MI.ixN_lt t c e) hi Y (by decide) ?_ fun t h0 h1 => by omega
  have e : rw_ (cvB Gs ch b) i 0 = (world Gs b).ρ i (ch.getD i 0) := by
    unfold rw_ MI.cvB
    rw [List.getD_eq_getElem?_getD, List.getElem?_map, List.getElem?_range hi]; rfl
  rw [e]
  exact (gm Z (hc.lt i hi)).r _
theorem ccL : CcL Gs ch b where
  lb := Z.B.lim
  ac := fun k hk => accL Z.B (sr_world Z hk (hc.lt k hk)) (fun t c e => MI.ixN_lt t c e) hk
  ls := LS.of (MI.cv_sys (co Z) hc) (cv_rows Z hc) (by decide) (n9 Z) Z.X.h8 (by have := bt_cv Z hc; omega)
  j := ⟨jl Z, n9 Z, g5 Z⟩
theorem cv_fr : ∃ D, Den D (tw 4091) ∧ ∀ x ∈ cvM Gs ch b, FR D (tw 4198) x := by
  obtain ⟨D, h1, h2⟩ := sol_fr (MI.cv_sys (co Z) hc) (cv_rows Z hc) (by decide)
  have hb := bt_cv Z hc
  refine ⟨D * MS.F, (h1.mul F_den).mono (by rw [tw_mul]; exact tw_le (by omega)), fun x hx => ?_⟩
  obtain ⟨k, hk, e⟩ := List.mem_iff_getElem.mp hx
  have hk' : k < cN Gs := by rw [MI.cvM_len (co Z) hc] at hk; exact hk
  have e2 : x = gt (cvM Gs ch b) k := (gt_of (by rw [List.getElem?_eq_getElem hk, e])).symm
  rw [e2, MI.cvM_gt (co Z) hc hk']
  refine (h2 k hk').1.mono ?_
  rw [show (4198 : Nat) = 4 + (4087 + 107) by decide, ← tw_mul, ← tw_mul]
  have n16 : cN Gs ≤ 2 ^ 4 := by have := n9 Z; omega
  exact mul_le (nat_le_tw n16) (Rat.mul_le_mul_of_nonneg_right (tw_le hb) (Rat.le_of_lt (tw_pos _))) (Rat.mul_nonneg (Rat.le_of_lt (tw_pos _)) (Rat.le_of_lt (tw_pos _))) (Rat.le_of_lt (tw_pos _))
theorem imL : ImL Gs ch b := by
  obtain ⟨D, h1, h2⟩ := cv_fr Z hc
  exact ⟨ccL Z hc, fun kk hk => ⟨fun i hi => plL Z hk hi h1 h2 (by decide) (by decide)⟩⟩
theorem lawL : LawL Gs b ch := by
  have hc2 := MI.imp_cho (co Z) hc
  obtain ⟨D, d1, d2⟩ := cv_fr Z hc
  obtain ⟨E, e1, e2⟩ := cv_fr Z hc2
  obtain ⟨T, t1, t2⟩ := tab_fr Z
  exact ⟨co Z, hc, jl Z, g5 Z, n9 Z, vtL Z, imL Z hc, imL Z hc2, chL Z (MI.tabM_len (co Z)) t1 t2 (by decide) (by decide), chL Z (MI.cvM_len (co Z) hc) d1 d2 (by decide) (by decide), chL Z (MI.cvM_len (co Z) hc2) e1 e2 (by decide) (by decide)⟩
end
end
end N4
set_option Elab.async false
set_option linter.all false
set_option maxRecDepth 100000
set_option exponentiation.threshold 100000
/-! N5: the law's own games are small -/
namespace N5
open MA ME ML MS MT W4 W5 W6 W13 W14 W15 W16 W17 N1 N2 N3 N4
open MG (Gm Rw Disc)
open MH (gAt)
open MI (cN Cho)
theorem ex_app : ∀ (r s : Rw) (x : Nat → Rat), ex (r ++ s) x = ex r x + ex s x
  | [], s, x => by simp only [List.nil_append, ex]; grind
  | (t, p) :: r, s, x => by simp only [List.cons_append, ex]; rw [ex_app r s x]; grind
theorem sum_take (W : List Nat) (i : Nat) : (W.take (i + 1)).sum = (W.take i).sum + W.getD i 0 := by
  by_cases h : i < W.length
  · rw [List.take_succ, List.getElem?_eq_getElem h, List.sum_append, List.getD_eq_getElem?_getD, List.getElem?_eq_getElem h]; simp
  · rw [List.take_of_length_le (by omega), List.take_of_length_le (by omega), List.getD_eq_getElem?_getD, List.getElem?_eq_none (by omega)]; simp
theorem getD_le_sum : ∀ (W : List Nat) (i : Nat), W.getD i 0 ≤ W.sum
  | [], _ => by simp
  | a :: W, 0 => by simp
  | a :: W, i + 1 => by
    have := getD_le_sum W i
    simp only [List.getD_cons_succ, List.sum_cons]; omega
theorem pr_mul {W : List Nat} (h : 0 < W.sum) (t : Nat) : prM W t * (W.sum : Rat) = (W.getD t 0 : Rat) := by
  unfold prM
  rw [Rat.intCast_natCast, Rat.intCast_natCast]
  have : ((W.sum : Nat) : Rat) ≠ 0 := by exact_mod_cast (Nat.ne_of_gt h)
  grind
theorem row_ex {W : List Nat} (h : 0 < W.sum) : ∀ i, ex (rowTo W i) (fun _ => 1) * (W.sum : Rat) = (((W.take i).sum : Nat) : Rat)
  | 0 => by
    show (0 : Rat) * _ = (([] : List Nat).sum : Rat)
    simp
  | i + 1 => by
    rw [rowTo_succ, ex_app, sum_take, Rat.natCast_add, Rat.add_mul, row_ex h i]
    congr 1
    split
    · simp only [ex]
      rw [← pr_mul h i]; grind
    · rename_i h0
      have : W.getD i 0 = 0 := by omega
      rw [this]; simp only [ex]; simp
theorem row_mem {W : List Nat} {n : Nat} {p : Nat × Rat} (hp : p ∈ rowTo W n) : p.1 < n ∧ p.2 = prM W p.1 := by
  obtain ⟨t, ht, rfl⟩ := List.mem_map.mp hp
  exact ⟨List.mem_range.mp (List.mem_filter.mp ht).1, rfl⟩
theorem row_ok {W : List Nat} {n : Nat} (h : 0 < W.sum) (hl : W.length = n) : Row n (rowTo W n) := by
  have hp : (0 : Rat) < (W.sum : Rat) := by exact_mod_cast h
  refine ⟨fun p hp => (row_mem hp).1, fun p hp' => ?_, ?_⟩
  · rw [(row_mem hp').2]
    have e := pr_mul h p.1
    have h0 : (0 : Rat) ≤ ((W.getD p.1 0 : Nat) : Rat) := by exact_mod_cast Nat.zero_le _
    have h1 : (0 : Rat) * (W.sum : Rat) ≤ prM W p.1 * (W.sum : Rat) := by rw [e]; grind
    exact Rat.le_of_mul_le_mul_right h1 hp
  · have e := row_ex h n
    rw [List.take_of_length_le (by omega)] at e
    have : ((W.sum : Nat) : Rat) ≠ 0 := by grind
    grind
theorem nat_fr {D x : Rat} {a : Nat} (e : x * D = (a : Rat)) {k : Nat} (ha : a ≤ 2 ^ k) : FR D (tw k) x := by
  have h0 : (0 : Rat) ≤ (a : Rat) := by exact_mod_cast Nat.zero_le _
  exact ⟨by rw [e]; exact IsI.nat a, by rw [e, ab_id h0]; exact nat_le_tw ha⟩
theorem nat_den {a k : Nat} (h : 0 < a) (ha : a ≤ 2 ^ k) : Den (a : Rat) (tw k) := ⟨IsI.nat a, by exact_mod_cast h, nat_le_tw ha⟩
theorem row_small {W : List Nat} {n Q h : Nat} (hs : 0 < W.sum) (hW : W.sum ≤ 15) (hQ : 0 < Q) (hh : Q * W.sum ≤ 2 ^ h) (hn : n ≤ 9) : SR h (Q : Rat) (rowTo W n) := by
  refine ⟨⟨(W.sum : Rat), nat_den hs (by omega), ?_, fun p hp => ?_⟩, Nat.le_trans (rowTo_len W n) hn⟩
  · have := nat_den (k := h) (Nat.mul_pos hQ hs) hh
    rw [Rat.natCast_mul] at this
    exact this
  · rw [(row_mem hp).2]
    refine nat_fr (pr_mul hs p.1) ?_
    have := getD_le_sum W p.1
    omega
/-! ### the rewards -/
theorem dvd12 {d : Nat} (h0 : 0 < d) (h : d ≤ 4) : ∃ e : Nat, d * e = 12 ∧ e ≤ 12 := by
  have : d = 1 ∨ d = 2 ∨ d = 3 ∨ d = 4 := by omega
  rcases this with rfl | rfl | rfl | rfl
  · exact ⟨12, rfl, by decide⟩
  · exact ⟨6, rfl, by decide⟩
  · exact ⟨4, rfl, by decide⟩
  · exact ⟨3, rfl, by decide⟩
theorem int_fr {x : Rat} {z : Int} {d : Nat} (h0 : 0 < d) (h : d ≤ 4) (e : x = (z : Rat) / ((d : Int) : Rat)) (hz : z.natAbs * 12 ≤ 2 ^ 107) : FR MS.F (tw 107) x := by
  obtain ⟨c, hc, hc12⟩ := dvd12 h0 h
  have hd : ((d : Nat) : Rat) ≠ 0 := by exact_mod_cast (Nat.ne_of_gt h0)
  have e12 : (MS.F : Rat) = (d : Rat) * (c : Rat) := by
    rw [← Rat.natCast_mul, hc]; rfl
  have ex : x * MS.F = ((z * (c : Int) : Int) : Rat) := by
    rw [e, e12, Rat.intCast_mul, Rat.intCast_natCast, Rat.intCast_natCast]
    grind
  refine ⟨by rw [ex]; exact ⟨_, rfl⟩, ?_⟩
  rw [ex]
  have hn : (z * (c : Int)).natAbs ≤ 2 ^ 107 := by
    rw [Int.natAbs_mul, Int.natAbs_natCast]
    exact Nat.le_trans (Nat.mul_le_mul_left _ hc12) hz
  have h1 : ((z * (c : Int) : Int) : Rat) ≤ (((z * (c : Int)).natAbs : Int) : Rat) := by exact_mod_cast (by omega : z * (c : Int) ≤ ((z * (c : Int)).natAbs : Int))
  have h2 : ((-(z * (c : Int)) : Int) : Rat) ≤ (((z * (c : Int)).natAbs : Int) : Rat) := by exact_mod_cast (by omega : -(z * (c : Int)) ≤ ((z * (c : Int)).natAbs : Int))
  rw [Rat.intCast_neg] at h2
  rw [Rat.intCast_natCast] at h1 h2
  have h3 := nat_le_tw hn
  exact ab_of (Rat.le_trans h1 h3) (Rat.le_trans h2 h3)
theorem as_q (x : Rat) : x = (x.num : Rat) / ((x.den : Int) : Rat) := by
  conv => lhs; rw [← Rat.num_divInt_den x]
  rw [Rat.divInt_eq_div]
theorem rew_fr (cell : Int) (D : List Nat) (s : Nat) : FR MS.F (tw 107) (rewM cell D s) := by
  have hn := fr_num (D.getD (2 + s) 0)
  have hd := fr_den (D.getD (2 + s) 0)
  unfold rewM
  generalize frM (D.getD (2 + s) 0) = x at hn hd
  split
  · refine int_fr x.den_pos hd rfl ?_
    have h1 : (x.num * 1000000000000000000000000000000 + cell % 1000000000000000000000000000000).natAbs ≤ 7 * 1000000000000000000000000000000 := by omega
    have : 7 * 1000000000000000000000000000000 * 12 ≤ 2 ^ 107 := by decide
    omega
  · refine int_fr x.den_pos hd (as_q x) ?_
    have : 6 * 12 ≤ 2 ^ 107 := by decide
    omega
theorem game_small {most h Q : Nat} (cell : Int) (h0 : 0 < most) (h5 : most ≤ 5) (hQ : 0 < Q) (hh : Q * (3 * most) ≤ 2 ^ h) : SG h most (Q : Rat) (gameM cell most) := by
  have hg := gn_pos (dM cell most) most
  have hl := gn_le (dM cell most) h0
  have en : (gameM cell most).n = gnM (dM cell most) most := by unfold MG.Gm.n gameM; rw [List.length_map, List.length_range]
  have er : ∀ s, s < gnM (dM cell most) most → (gameM cell most).row s = rowM (dM cell most) (gnM (dM cell most) most) s := fun s hs => by
    unfold MG.Gm.row gameM
    rw [List.getD_eq_getElem?_getD, List.getElem?_map, List.getElem?_range hs]; rfl
  refine ⟨⟨?_, ?_, fun s hs => ?_⟩, by rw [en]; exact hl, fun s hs => ?_, fun s => ?_⟩
  · unfold gameM; simp
  · have := en; unfold MG.Gm.n at this; rw [this]; exact hg
  · rw [en] at hs ⊢
    rw [er s hs]
    exact row_ok (w1_pos _ hg) (w1_len _ _ _)
  · rw [en] at hs
    rw [er s hs]
    have hs1 := w1_le (dM cell most) (n := gnM (dM cell most) most) (s := s) hg
    refine row_small (w1_pos _ hg) (by omega) hQ ?_ (by omega)
    exact Nat.le_trans (Nat.mul_le_mul_left _ (by omega)) hh
  · unfold MG.Gm.r
    by_cases hs : s < gnM (dM cell most) most
    · have : gt (gameM cell most).rw s = rewM cell (dM cell most) s := by unfold gameM; exact gt_rangemap hs
      rw [this]; exact rew_fr _ _ _
    · have : gt (gameM cell most).rw s = 0 := gt_out (by have := en; unfold MG.Gm.n at this; omega)
      rw [this]
      exact ⟨IsI.zero.eq (by grind), by rw [show (0 : Rat) * MS.F = 0 by grind, ab_id (by decide)]; exact Rat.le_of_lt (tw_pos _)⟩
/-! ### the discount -/
theorem disc_small (x : Nat) : SB (dcM x) ((dqM x : Nat) : Rat) := by
  have hq : 0 < dqM x ∧ dqM x ≤ 10 := by unfold dqM; omega
  have hm := Nat.mod_lt (x / 9) hq.1
  unfold dcM
  generalize dqM x = q at *
  generalize x / 9 % q = a at *
  have hqr : (0 : Rat) < (q : Rat) := by exact_mod_cast hq.1
  have e : ((a : Int) : Rat) / ((q : Int) : Rat) * (q : Rat) = (a : Rat) := by
    rw [Rat.intCast_natCast, Rat.intCast_natCast]; grind
  have h0 : (0 : Rat) ≤ (a : Rat) := by exact_mod_cast Nat.zero_le _
  have h1 : (a : Rat) < (q : Rat) := by exact_mod_cast hm
  refine ⟨⟨?_, ?_⟩, nat_fr e (by omega), nat_den hq.1 (by omega)⟩
  · exact Rat.le_of_mul_le_mul_right (c := (q : Rat)) (by rw [e]; grind) hqr
  · exact Rat.lt_of_mul_lt_mul_right (c := (q : Rat)) (by rw [e]; grind) (Rat.le_of_lt hqr)
/-! ### the company -/
theorem gs_len (ns : List Int) (fst x : Nat) : (gsM ns fst x).length = (cmM x).1 := by
  unfold gsM gsTo
  split <;> simp
theorem gs_mem {ns : List Int} {fst x : Nat} {G : Gm} (hG : G ∈ gsM ns fst x) : ∃ cell, G = gameM cell (cmM x).2 := by
  have h1 : ∀ E ∈ gsTo ns fst (cmM x).2 (cmM x).1, ∃ cell, E = gameM cell (cmM x).2 := fun E hE => by
    obtain ⟨k, _, rfl⟩ := List.mem_map.mp hE
    exact ⟨_, rfl⟩
  unfold gsM at hG
  split at hG
  · rcases List.mem_or_eq_of_mem_set hG with h | h
    · exact h1 G h
    · rw [h]
      refine h1 _ (MH.gAt_mem ?_)
      unfold gsTo
      rw [List.length_map, List.length_range]
      have := cm_ok x; omega
  · exact h1 G hG
theorem cm_cases (x : Nat) : cmM x = (1, 5) ∨ cmM x = (5, 1) ∨ cmM x = (3, 2) ∨ cmM x = (1, 3) ∨ cmM x = (2, 3) := by
  unfold cmM cm2 cm1
  split
  · exact .inl rfl
  · split
    · exact .inr (.inl rfl)
    · split
      · exact .inr (.inr (.inl rfl))
      · have : x % 2 = 0 ∨ x % 2 = 1 := by omega
        rcases this with e | e <;> rw [e] <;> simp
theorem company (ns : List Int) (fst x y : Nat) : ∃ h nm be, SC h nm be ((dqM y : Nat) : Rat) (dcM y) (gsM ns fst x) := by
  have hq : 0 < dqM y ∧ dqM y ≤ 10 := by unfold dqM; omega
  have mk : ∀ (h be c m : Nat), cmM x = (c, m) → 0 < c → c ≤ 5 → 0 < m → m ≤ 5 → 10 * (3 * m) ≤ 2 ^ h → NB h m be → m ^ c ≤ 9 → (bt h 9 ≤ 4087 ∨ m ^ c ≤ 5) → (c = 1 ∨ (c * m ≤ 6 ∧ be ≤ 55)) → SC h m be ((dqM y : Nat) : Rat) (dcM y) (gsM ns fst x) := fun h be c m e h1 h2 h3 h4 h5 h6 h7 h8 h9 => by
    have el : (gsM ns fst x).length = c := by rw [gs_len, e]
    refine ⟨h6, disc_small y, fun G hG => ?_, by rw [el]; exact h1, by rw [el]; exact h2, h3, by rw [el]; exact h7, by rw [el]; exact h8, by rw [el]; exact h9⟩
    obtain ⟨cell, rfl⟩ := gs_mem hG
    rw [e]
    exact game_small cell h3 h4 hq.1 (Nat.le_trans (Nat.mul_le_mul_right _ hq.2) h5)
  rcases cm_cases x with e | e | e | e | e
  · exact ⟨8, 5, 278, mk 8 278 1 5 e (by decide) (by decide) (by decide) (by decide) (by decide) ⟨by decide, by decide, by decide, by decide⟩ (by decide) (.inr (by decide)) (.inl rfl)⟩
  · exact ⟨7, 1, 7, mk 7 7 5 1 e (by decide) (by decide) (by decide) (by decide) (by decide) ⟨by decide, by decide, by decide, by decide⟩ (by decide) (.inl (by decide)) (.inr (by decide))⟩
  · exact ⟨7, 2, 23, mk 7 23 3 2 e (by decide) (by decide) (by decide) (by decide) (by decide) ⟨by decide, by decide, by decide, by decide⟩ (by decide) (.inl (by decide)) (.inr (by decide))⟩
  · exact ⟨7, 3, 55, mk 7 55 1 3 e (by decide) (by decide) (by decide) (by decide) (by decide) ⟨by decide, by decide, by decide, by decide⟩ (by decide) (.inl (by decide)) (.inl rfl)⟩
  · exact ⟨7, 3, 55, mk 7 55 2 3 e (by decide) (by decide) (by decide) (by decide) (by decide) ⟨by decide, by decide, by decide, by decide⟩ (by decide) (.inl (by decide)) (.inr (by decide))⟩
theorem cho (cell : Int) {Gs : List Gm} (h : 0 < Gs.length) : Cho Gs (chM cell Gs) := by
  have el : (chM cell Gs).length = cN Gs := by unfold chM; rw [List.length_map]; exact drTo_len cell _
  refine ⟨el, fun k hk => ?_⟩
  have : (chM cell Gs).getD k 0 ∈ chM cell Gs := by
    rw [List.getD_eq_getElem?_getD, List.getElem?_eq_getElem (by omega)]
    exact List.getElem_mem _
  obtain ⟨x, _, e⟩ := List.mem_map.mp this
  rw [← e]
  exact Nat.mod_lt _ h
theorem lawl : ∀ ns : List Int, ns.length ≤ 63 → Bits ns → LawL (GsM ns) (bM ns) (cM ns) := fun ns _ _ => by
  obtain ⟨h, nm, be, Z⟩ := company ns 1 ((drM ns).getD 1 0) ((drM ns).getD 0 0)
  exact lawL Z (cho _ Z.ne)
end N5
open PySem PySem.W PyProof.Rows
set_option maxHeartbeats 0 in
theorem PySem.Challenge.cw_anycompany_k70_whole_improvement_never_l_holds : PySem.Challenge.rw_anycompany_k70_whole_improvement_never_l.Holds := by
  w_on; o_law; k_head; (case hw => w_witness2)
  k_fill
  refine L2.walk_ofB (l := PySem.Challenge.rw_anycompany_k70_whole_improvement_never_l) (n := 63) (k := 60) (x := "_law_script") (CX := fun _ => L2.CX0) (sp := fun w => W18.spLaw _) rfl (by decide) rfl ⟨rfl, by decide, by decide⟩ (fun w h Y => PySem.W.kIn_of Y) ?F (fun _ _ a ns hl hb _ hS => ⟨a, ns, rfl, hS, hb, hl, fun _ => rfl⟩) (fun _ _ _ _ _ h => h)
  case F =>
    intro w mg fa h KX G hmg
    refine' W18.all_mk (w := w) rfl KX G hmg N5.lawl ?z_abs ?z_bool ?z_int ?z_isinstance ?z_len ?z_list ?z_range ?z_sorted ?z_sum ?z_tuple ?z_zip ?z_gcd ?c_ZERO_leaving ?c_ONE_leaving ?c_ZERO_knots ?c_ONE_knots ?c_ZERO_stationary ?c_ONE_stationary ?d_common_divisor ?d_make_ratio ?d_add ?d_subtract ?d_multiply ?d_divide ?d_compare ?d_line_slope ?d_without ?d_first_nonzero ?d_solve ?d_leave_values ?d_leave_table ?d_first_play ?d_next_state ?d_index_order ?d_slope_at ?d_first_wrong ?d_straightened ?d_merged_amounts ?d_product_knots ?d_gain_of ?d_all_curves ?d_joint_states ?d_with_state ?d_choice_values ?d_played ?d_by_joint ?d_better_choice ?d_improved ?d__law_cell ?d__law_draws ?d__law_low ?d__law_is_integer ?d__law_is_ratio ?d__law_ratios ?d__law_add ?d__law_mul ?d__law_less ?d__law_fraction ?d__law_discount ?d__law_game ?d__law_joints ?d__law_number ?d__law_played ?d__law_is_best ?d__law_games ?d__law_choices ?d__law_is_followed ?d__law_is_choices ?d_law ?d_value_table ?aC ?pg ?hd ?po ?sa ?c_makes ?c_keep ?hN ?c_first ?iI1 ?iI2 ?dI0 ?iM1 ?nM0 ?dM0 ?pF1 ?pF2 ?pF3 ?pF4 ?dF0
    (case z_abs => k_is)
    (case z_bool => k_is)
    (case z_int => k_is)
    (case z_isinstance => k_is)
    (case z_len => k_is)
    (case z_list => k_is)
    (case z_range => k_is)
    (case z_sorted => k_is)
    (case z_sum => k_is)
    (case z_tuple => k_is)
    (case z_zip => k_is)
    (case z_gcd => k_is)
    (case c_ZERO_leaving => refine' W18.Kp.of ?a ?l; (case a => k_is); (case l => k_is))
    (case c_ONE_leaving => refine' W18.Kp.of ?a ?l; (case a => k_is); (case l => k_is))
    (case c_ZERO_knots => refine' W18.Kp.of ?a ?l; (case a => k_is); (case l => k_is))
    (case c_ONE_knots => refine' W18.Kp.of ?a ?l; (case a => k_is); (case l => k_is))
    (case c_ZERO_stationary => refine' W18.Kp.of ?a ?l; (case a => k_is); (case l => k_is))
    (case c_ONE_stationary => refine' W18.Kp.of ?a ?l; (case a => k_is); (case l => k_is))
    (case d_common_divisor => refine' W18.Df.of ?a ?l ?c ?k; (case a => k_is); (case l => k_is); (case c => k_is); (case k => k_is))
    (case d_make_ratio => refine' W18.Df.of ?a ?l ?c ?k; (case a => k_is); (case l => k_is); (case c => k_is); (case k => k_is))
    (case d_add => refine' W18.Df.of ?a ?l ?c ?k; (case a => k_is); (case l => k_is); (case c => k_is); (case k => k_is))
    (case d_subtract => refine' W18.Df.of ?a ?l ?c ?k; (case a => k_is); (case l => k_is); (case c => k_is); (case k => k_is))
    (case d_multiply => refine' W18.Df.of ?a ?l ?c ?k; (case a => k_is); (case l => k_is); (case c => k_is); (case k => k_is))
    (case d_divide => refine' W18.Df.of ?a ?l ?c ?k; (case a => k_is); (case l => k_is); (case c => k_is); (case k => k_is))
    (case d_compare => refine' W18.Df.of ?a ?l ?c ?k; (case a => k_is); (case l => k_is); (case c => k_is); (case k => k_is))
    (case d_line_slope => refine' W18.Df.of ?a ?l ?c ?k; (case a => k_is); (case l => k_is); (case c => k_is); (case k => k_is))
    (case d_without => refine' W18.Df.of ?a ?l ?c ?k; (case a => k_is); (case l => k_is); (case c => k_is); (case k => k_is))
    (case d_first_nonzero => refine' W18.Df.of ?a ?l ?c ?k; (case a => k_is); (case l => k_is); (case c => k_is); (case k => k_is))
    (case d_solve => refine' W18.Df.of ?a ?l ?c ?k; (case a => k_is); (case l => k_is); (case c => k_is); (case k => k_is))
    (case d_leave_values => refine' W18.Df.of ?a ?l ?c ?k; (case a => k_is); (case l => k_is); (case c => k_is); (case k => k_is))
    (case d_leave_table => refine' W18.Df.of ?a ?l ?c ?k; (case a => k_is); (case l => k_is); (case c => k_is); (case k => k_is))
    (case d_first_play => refine' W18.Df.of ?a ?l ?c ?k; (case a => k_is); (case l => k_is); (case c => k_is); (case k => k_is))
    (case d_next_state => refine' W18.Df.of ?a ?l ?c ?k; (case a => k_is); (case l => k_is); (case c => k_is); (case k => k_is))
    (case d_index_order => refine' W18.Df.of ?a ?l ?c ?k; (case a => k_is); (case l => k_is); (case c => k_is); (case k => k_is))
    (case d_slope_at => refine' W18.Df.of ?a ?l ?c ?k; (case a => k_is); (case l => k_is); (case c => k_is); (case k => k_is))
    (case d_first_wrong => refine' W18.Df.of ?a ?l ?c ?k; (case a => k_is); (case l => k_is); (case c => k_is); (case k => k_is))
    (case d_straightened => refine' W18.Df.of ?a ?l ?c ?k; (case a => k_is); (case l => k_is); (case c => k_is); (case k => k_is))
    (case d_merged_amounts => refine' W18.Df.of ?a ?l ?c ?k; (case a => k_is); (case l => k_is); (case c => k_is); (case k => k_is))
    (case d_product_knots => refine' W18.Df.of ?a ?l ?c ?k; (case a => k_is); (case l => k_is); (case c => k_is); (case k => k_is))
    (case d_gain_of => refine' W18.Df.of ?a ?l ?c ?k; (case a => k_is); (case l => k_is); (case c => k_is); (case k => k_is))
    (case d_all_curves => refine' W18.Df.of ?a ?l ?c ?k; (case a => k_is); (case l => k_is); (case c => k_is); (case k => k_is))
    (case d_joint_states => refine' W18.Df.of ?a ?l ?c ?k; (case a => k_is); (case l => k_is); (case c => k_is); (case k => k_is))
    (case d_with_state => refine' W18.Df.of ?a ?l ?c ?k; (case a => k_is); (case l => k_is); (case c => k_is); (case k => k_is))
    (case d_choice_values => refine' W18.Df.of ?a ?l ?c ?k; (case a => k_is); (case l => k_is); (case c => k_is); (case k => k_is))
    (case d_played => refine' W18.Df.of ?a ?l ?c ?k; (case a => k_is); (case l => k_is); (case c => k_is); (case k => k_is))
    (case d_by_joint => refine' W18.Df.of ?a ?l ?c ?k; (case a => k_is); (case l => k_is); (case c => k_is); (case k => k_is))
    (case d_better_choice => refine' W18.Df.of ?a ?l ?c ?k; (case a => k_is); (case l => k_is); (case c => k_is); (case k => k_is))
    (case d_improved => refine' W18.Df.of ?a ?l ?c ?k; (case a => k_is); (case l => k_is); (case c => k_is); (case k => k_is))
    (case d__law_cell => refine' W18.Df.of ?a ?l ?c ?k; (case a => k_is); (case l => k_is); (case c => k_is); (case k => k_is))
    (case d__law_draws => refine' W18.Df.of ?a ?l ?c ?k; (case a => k_is); (case l => k_is); (case c => k_is); (case k => k_is))
    (case d__law_low => refine' W18.Df.of ?a ?l ?c ?k; (case a => k_is); (case l => k_is); (case c => k_is); (case k => k_is))
    (case d__law_is_integer => refine' W18.Df.of ?a ?l ?c ?k; (case a => k_is); (case l => k_is); (case c => k_is); (case k => k_is))
    (case d__law_is_ratio => refine' W18.Df.of ?a ?l ?c ?k; (case a => k_is); (case l => k_is); (case c => k_is); (case k => k_is))
    (case d__law_ratios => refine' W18.Df.of ?a ?l ?c ?k; (case a => k_is); (case l => k_is); (case c => k_is); (case k => k_is))
    (case d__law_add => refine' W18.Df.of ?a ?l ?c ?k; (case a => k_is); (case l => k_is); (case c => k_is); (case k => k_is))
    (case d__law_mul => refine' W18.Df.of ?a ?l ?c ?k; (case a => k_is); (case l => k_is); (case c => k_is); (case k => k_is))
    (case d__law_less => refine' W18.Df.of ?a ?l ?c ?k; (case a => k_is); (case l => k_is); (case c => k_is); (case k => k_is))
    (case d__law_fraction => refine' W18.Df.of ?a ?l ?c ?k; (case a => k_is); (case l => k_is); (case c => k_is); (case k => k_is))
    (case d__law_discount => refine' W18.Df.of ?a ?l ?c ?k; (case a => k_is); (case l => k_is); (case c => k_is); (case k => k_is))
    (case d__law_game => refine' W18.Df.of ?a ?l ?c ?k; (case a => k_is); (case l => k_is); (case c => k_is); (case k => k_is))
    (case d__law_joints => refine' W18.Df.of ?a ?l ?c ?k; (case a => k_is); (case l => k_is); (case c => k_is); (case k => k_is))
    (case d__law_number => refine' W18.Df.of ?a ?l ?c ?k; (case a => k_is); (case l => k_is); (case c => k_is); (case k => k_is))
    (case d__law_played => refine' W18.Df.of ?a ?l ?c ?k; (case a => k_is); (case l => k_is); (case c => k_is); (case k => k_is))
    (case d__law_is_best => refine' W18.Df.of ?a ?l ?c ?k; (case a => k_is); (case l => k_is); (case c => k_is); (case k => k_is))
    (case d__law_games => refine' W18.Df.of ?a ?l ?c ?k; (case a => k_is); (case l => k_is); (case c => k_is); (case k => k_is))
    (case d__law_choices => refine' W18.Df.of ?a ?l ?c ?k; (case a => k_is); (case l => k_is); (case c => k_is); (case k => k_is))
    (case d__law_is_followed => refine' W18.Df.of ?a ?l ?c ?k; (case a => k_is); (case l => k_is); (case c => k_is); (case k => k_is))
    (case d__law_is_choices => refine' W18.Df.of ?a ?l ?c ?k; (case a => k_is); (case l => k_is); (case c => k_is); (case k => k_is))
    (case d_law => refine' W18.Df.of ?a ?l ?c ?k; (case a => k_is); (case l => k_is); (case c => k_is); (case k => k_is))
    (case d_value_table => refine' W18.Dv.of ?a ?l ?c ?k ?n; (case a => k_is); (case l => k_is); (case c => k_is); (case k => k_is); (case n => k_is))
    (case aC => k_is)
    (case pg => k_is)
    (case hd => k_is)
    (case po => k_is)
    (case sa => k_is)
    (case c_makes => k_is)
    (case c_keep => k_is)
    (case hN => k_is)
    (case c_first => k_is)
    (case iI1 => k_is)
    (case iI2 => k_is)
    (case dI0 => refine' W18.Dm.of ?l ?c ?k; (case l => k_is); (case c => k_is); (case k => k_is))
    (case iM1 => k_is)
    (case nM0 => k_is)
    (case dM0 => refine' W18.Dm.of ?l ?c ?k; (case l => k_is); (case c => k_is); (case k => k_is))
    (case pF1 => k_is)
    (case pF2 => k_is)
    (case pF3 => k_is)
    (case pF4 => k_is)
    (case dF0 => refine' W18.Dm.of ?l ?c ?k; (case l => k_is); (case c => k_is); (case k => k_is))
