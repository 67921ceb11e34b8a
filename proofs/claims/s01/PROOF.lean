import PyProof.Rows.All
import Wide.All
import OpenK.AllK
import Wide.FinOn
import Open.SpecLaws
import KE.OsGo
import HandS.ForSpec
import PySem.Challenge.RW_crossholdings_s01_answers
import ValdggSpec
import PyValdgg
import HandS.Comp
import HandS.Iter
import HandS.Wide
import HandS.SortInts
import HandS.Strs
import HandS.Evl
import HandS.SetFor
import KE.LtSeq
set_option Elab.async false
set_option linter.all false
set_option maxRecDepth 100000
set_option exponentiation.threshold 20000
set_option maxHeartbeats 4000000
namespace Cr
open Valdgg

/-! ### fractions are core's rational numbers -/
def toF (q : Rat) : Fraction := ⟨q.num, q.den⟩
theorem fraction_eq (a b : Int) : fraction a b = toF (Rat.divInt a b) := by
  unfold fraction toF
  by_cases hb : b = 0
  · subst hb
    simp
  · rw [if_neg hb, Rat.num_divInt, Rat.den_divInt, if_neg hb]
    have eg : Int.gcd b a = Nat.gcd a.natAbs b.natAbs := by rw [Int.gcd_comm]; rfl
    rw [eg]
    have hd : ((Nat.gcd a.natAbs b.natAbs : Nat) : Int) ∣ ((a.natAbs : Nat) : Int) := Int.ofNat_dvd.mpr (Nat.gcd_dvd_left _ _)
    congr 1
    rw [Int.natCast_ediv]
    rcases Int.lt_or_gt_of_ne hb with h | h
    · rw [if_pos h, Int.sign_eq_neg_one_of_neg h]
      by_cases ha : a < 0
      · rw [if_pos ha]
        have e : -1 * a = ((a.natAbs : Nat) : Int) := by omega
        rw [e]; omega
      · rw [if_neg ha]
        have e : -1 * a = -((a.natAbs : Nat) : Int) := by omega
        rw [e, Int.neg_ediv_of_dvd hd]; omega
    · rw [if_neg (by omega : ¬ b < 0), Int.sign_eq_one_of_pos h]
      by_cases ha : a < 0
      · rw [if_pos ha]
        have e : 1 * a = -((a.natAbs : Nat) : Int) := by omega
        rw [e, Int.neg_ediv_of_dvd hd]; omega
      · rw [if_neg ha]
        have e : 1 * a = ((a.natAbs : Nat) : Int) := by omega
        rw [e]; omega
theorem toF_num (q : Rat) : (toF q).numerator = q.num := rfl
theorem toF_den (q : Rat) : (toF q).denominator = q.den := rfl
theorem ofInt_eq (a : Int) : ofInt a = toF (a : Rat) := rfl
theorem minus_eq (p q : Rat) : minus (toF p) (toF q) = toF (p - q) := by
  unfold minus
  rw [fraction_eq]
  congr 1
  rw [Rat.sub_def', toF_num, toF_num, toF_den, toF_den, ← Int.natCast_mul, Rat.divInt_ofNat]
theorem times_eq (p q : Rat) : times (toF p) (toF q) = toF (p * q) := by
  unfold times
  rw [fraction_eq]
  congr 1
  rw [Rat.mul_def', toF_num, toF_num, toF_den, toF_den, ← Int.natCast_mul, Rat.divInt_ofNat]
theorem dividedBy_eq (p q : Rat) : dividedBy (toF p) (toF q) = toF (p / q) := by
  unfold dividedBy
  rw [fraction_eq]
  congr 1
  show Rat.divInt (p.num * (q.den : Int)) ((p.den : Int) * q.num) = p / q
  rw [Rat.div_def, Rat.inv_def, ← Rat.divInt_mul_divInt, Rat.num_divInt_den]
/-- the row of a fraction -/
theorem fractionRow_eq (a b : Int) : fractionRow (toF (Rat.divInt a b)) = [(fraction a b).numerator, ((fraction a b).denominator : Int)] := by
  rw [← fraction_eq]; rfl
end Cr
namespace Cr
open Valdgg

/-! ### the specification's elimination over core's rationals -/
def mkR (n w : Nat) (f : Nat → Nat → Rat) : List (List Fraction) := (List.range n).map fun i => (List.range w).map fun j => toF (f i j)
def stepR (t : Nat) (f : Nat → Nat → Rat) (i j : Nat) : Rat := if i = t then f t j / f t t else f i j - f i t * (f t j / f t t)
def itR (f : Nat → Nat → Rat) : Nat → Nat → Nat → Rat
  | 0 => f
  | t + 1 => stepR t (itR f t)
theorem getD_map_range {α : Type} (w : Nat) (g : Nat → α) (i : Nat) (d : α) (h : i < w) : ((List.range w).map g).getD i d = g i := by
  rw [List.getD_eq_getElem?_getD, List.getElem?_map, List.getElem?_range h]; rfl
theorem zipIdx_map_range {α β : Type} (n : Nat) (g : Nat → α) (F : α × Nat → β) : (((List.range n).map g).zipIdx).map F = (List.range n).map fun i => F (g i, i) := by
  apply List.ext_getElem?
  intro i
  simp only [List.getElem?_map, List.getElem?_zipIdx]
  by_cases h : i < n
  · simp [List.getElem?_range h]
  · have e : (List.range n)[i]? = none := List.getElem?_eq_none (by rw [List.length_range]; omega)
    rw [e]; rfl
theorem eliminated_eq {n w t : Nat} (f : Nat → Nat → Rat) (ht : t < n) (hw : n ≤ w) : eliminated (mkR n w f) t = mkR n w (stepR t f) := by
  unfold eliminated
  have e0 : (mkR n w f).getD t [] = (List.range w).map fun j => toF (f t j) := getD_map_range n _ t [] ht
  have e1 : scaledRow t ((List.range w).map fun j => toF (f t j)) = (List.range w).map fun j => toF (f t j / f t t) := by
    unfold scaledRow
    rw [List.map_map]
    apply List.map_congr_left
    intro j _
    show dividedBy (toF (f t j)) _ = _
    rw [getD_map_range w _ t _ (by omega), dividedBy_eq]
  rw [e0, e1]
  show ((mkR n w f).zipIdx.map _) = _
  unfold mkR
  rw [zipIdx_map_range]
  apply List.map_congr_left
  intro i _
  dsimp only
  by_cases hi : i = t
  · subst hi
    rw [if_pos rfl]
    apply List.map_congr_left
    intro j _
    unfold stepR
    rw [if_pos rfl]
  · rw [if_neg hi]
    unfold clearedRow
    rw [getD_map_range w _ t _ (by omega)]
    apply List.ext_getElem?
    intro j
    simp only [List.getElem?_map, List.zip, List.getElem?_zipWith]
    by_cases hj : j < w
    · simp only [List.getElem?_range hj, Option.map_some]
      rw [times_eq, minus_eq]
      unfold stepR
      rw [if_neg hi]
    · simp [List.getElem?_eq_none (l := List.range w) (i := j) (by simp; omega)]
theorem fold_eq {n w : Nat} (f : Nat → Nat → Rat) (hw : n ≤ w) : ∀ k, k ≤ n → (List.range k).foldl eliminated (mkR n w f) = mkR n w (itR f k)
  | 0, _ => rfl
  | k + 1, h => by
    rw [List.range_succ, List.foldl_append, fold_eq f hw k (by omega)]
    show eliminated _ k = _
    rw [eliminated_eq _ (by omega) hw]; rfl
theorem mkR_len (n w : Nat) (f : Nat → Nat → Rat) : (mkR n w f).length = n := by unfold mkR; simp
theorem solved_eq (n : Nat) (f : Nat → Nat → Rat) : solved (mkR n (n + 1) f) = (List.range n).map fun i => toF (itR f n i n) := by
  unfold solved
  rw [mkR_len, fold_eq f (Nat.le_succ n) n (Nat.le_refl n)]
  unfold mkR
  rw [List.map_map]
  apply List.map_congr_left
  intro i _
  show ((List.range (n + 1)).map _).getLastD _ = _
  rw [List.range_succ, List.map_append]
  simp [List.getLastD_eq_getLast?]

/-! ### the program's elimination over whole numbers -/
abbrev Mat := List (List Int)
def at2 (rows : Mat) (i j : Nat) : Int := (rows.getD i []).getD j 0
def gcdRow (row : List Int) : Int := row.foldl (fun s x => ((Int.gcd s x : Nat) : Int)) 0
def reducedP (row : List Int) : List Int := if 1 < gcdRow row then row.map fun x => x / gcdRow row else row
def withoutP (row base : List Int) (k : Nat) : List Int :=
  if row.getD k 0 = 0 then row else reducedP ((row.zip base).map fun z => base.getD k 0 * z.1 - row.getD k 0 * z.2)
def clearedP (rows : Mat) (k : Nat) : Mat := (List.range rows.length).map fun i => if i = k then rows.getD i [] else withoutP (rows.getD i []) (rows.getD k []) k
def pivotP (rows : Mat) (k : Nat) : Nat := (((List.range rows.length).filter fun i => decide (k ≤ i)).find? fun i => at2 rows i k != 0).getD k
def swapP (rows : Mat) (k p : Nat) : Mat := (rows.set k (rows.getD p [])).set p (rows.getD k [])
def turnP (rows : Mat) (k : Nat) : Mat := clearedP (swapP rows k (pivotP rows k)) k
def runP (rows : Mat) (k : Nat) : Mat := (List.range k).foldl turnP rows
def lowestP (a b : Int) : Int × Int :=
  if b < 0 then (-a / ((Int.gcd a b : Nat) : Int), -b / ((Int.gcd a b : Nat) : Int)) else (a / ((Int.gcd a b : Nat) : Int), b / ((Int.gcd a b : Nat) : Int))
def solveP (rows : Mat) : List (Int × Int) := (List.range rows.length).map fun k => lowestP (at2 (runP rows rows.length) k rows.length) (at2 (runP rows rows.length) k k)

theorem gcd_fold_dvd : ∀ (row : List Int) (s : Int), (row.foldl (fun s x => ((Int.gcd s x : Nat) : Int)) s ∣ s) ∧ ∀ x ∈ row, row.foldl (fun s x => ((Int.gcd s x : Nat) : Int)) s ∣ x
  | [], s => ⟨Int.dvd_refl s, fun x h => nomatch h⟩
  | y :: r, s => by
    obtain ⟨h1, h2⟩ := gcd_fold_dvd r ((Int.gcd s y : Nat) : Int)
    refine ⟨Int.dvd_trans h1 (Int.gcd_dvd_left ..), fun x hx => ?_⟩
    rcases List.mem_cons.mp hx with rfl | hx
    · exact Int.dvd_trans h1 (Int.gcd_dvd_right ..)
    · exact h2 x hx
theorem reduced_at (row : List Int) : ∃ g : Int, 0 < g ∧ ∀ j, g * (reducedP row).getD j 0 = row.getD j 0 := by
  unfold reducedP
  by_cases h : 1 < gcdRow row
  · rw [if_pos h]
    refine ⟨gcdRow row, by omega, fun j => ?_⟩
    rw [List.getD_eq_getElem?_getD, List.getD_eq_getElem?_getD, List.getElem?_map]
    cases e : row[j]? with
    | none => simp
    | some x =>
      have d : gcdRow row ∣ x := (gcd_fold_dvd row 0).2 x (List.mem_of_getElem? e)
      exact Int.mul_ediv_cancel' d
  · rw [if_neg h]
    exact ⟨1, by omega, fun j => Int.one_mul _⟩
theorem reduced_len (row : List Int) : (reducedP row).length = row.length := by
  unfold reducedP
  split <;> simp
theorem without_len {row base : List Int} {k : Nat} (h : row.length = base.length) : (withoutP row base k).length = row.length := by
  unfold withoutP
  split
  · rfl
  · rw [reduced_len]; simp [h]
theorem zip_at {row base : List Int} (h : row.length = base.length) (p q : Int) (j : Nat) : ((row.zip base).map fun z => p * z.1 - q * z.2).getD j 0 = p * row.getD j 0 - q * base.getD j 0 := by
  simp only [List.getD_eq_getElem?_getD, List.getElem?_map, List.zip, List.getElem?_zipWith]
  by_cases hj : j < row.length
  · rw [List.getElem?_eq_getElem hj, List.getElem?_eq_getElem (by omega : j < base.length)]; rfl
  · rw [List.getElem?_eq_none (by omega : row.length ≤ j), List.getElem?_eq_none (by omega : base.length ≤ j)]; simp
theorem without_at {row base : List Int} {k : Nat} (h : row.length = base.length) (hp : 0 < base.getD k 0) :
    ∃ g : Int, 0 < g ∧ ∀ j, g * (withoutP row base k).getD j 0 = base.getD k 0 * row.getD j 0 - row.getD k 0 * base.getD j 0 := by
  unfold withoutP
  by_cases hz : row.getD k 0 = 0
  · rw [if_pos hz]
    exact ⟨_, hp, fun j => by rw [hz]; omega⟩
  · rw [if_neg hz]
    obtain ⟨g, hg, e⟩ := reduced_at ((row.zip base).map fun z => base.getD k 0 * z.1 - row.getD k 0 * z.2)
    exact ⟨g, hg, fun j => by rw [e, zip_at h]⟩

/-- n rows of w numbers -/
def Shape (n w : Nat) (rows : Mat) : Prop := rows.length = n ∧ ∀ i, i < n → (rows.getD i []).length = w
theorem cleared_get {rows : Mat} {k i : Nat} (hi : i < rows.length) : (clearedP rows k).getD i [] = if i = k then rows.getD i [] else withoutP (rows.getD i []) (rows.getD k []) k := by
  unfold clearedP
  rw [getD_map_range _ _ _ _ hi]
theorem cleared_shape {n w k : Nat} {rows : Mat} (h : Shape n w rows) (hk : k < n) : Shape n w (clearedP rows k) := by
  obtain ⟨h1, h2⟩ := h
  refine ⟨by unfold clearedP; simp [h1], fun i hi => ?_⟩
  rw [cleared_get (by omega)]
  split
  · exact h2 i hi
  · rw [without_len (by rw [h2 i hi, h2 k hk])]
    exact h2 i hi

/-! ### sums over sets of columns -/
def ss (n : Nat) (f : Nat → Bool) (a : Nat → Int) : Int := match n with
  | 0 => 0
  | n + 1 => ss n f a + if f n then a n else 0
theorem ss_lin (f : Nat → Bool) (a b c : Nat → Int) (p q g : Int) (h : ∀ j, g * c j = p * a j - q * b j) : ∀ n, g * ss n f c = p * ss n f a - q * ss n f b
  | 0 => by simp [ss]
  | n + 1 => by
    have ih := ss_lin f a b c p q g h n
    have hn := h n
    simp only [ss]
    cases f n with
    | true => simp only [if_true, Int.mul_add]; omega
    | false => simp only [Bool.false_eq_true, if_false, Int.add_zero]; exact ih
/-- one column more -/
def put (t : Nat) (f : Nat → Bool) : Nat → Bool := fun j => j == t || f j
theorem ss_congr {f f' : Nat → Bool} {a a' : Nat → Int} : ∀ {n : Nat}, (∀ j, j < n → f j = f' j) → (∀ j, j < n → f' j = true → a j = a' j) → ss n f a = ss n f' a'
  | 0, _, _ => rfl
  | n + 1, h, h2 => by
    simp only [ss]
    rw [ss_congr (fun j hj => h j (by omega)) (fun j hj => h2 j (by omega)), h n (by omega)]
    cases e : f' n with
    | true => simp [h2 n (by omega) e]
    | false => simp
theorem ss_put {t : Nat} {f : Nat → Bool} {a : Nat → Int} (hf : f t = false) : ∀ {n : Nat}, t < n → ss n (put t f) a = ss n f a + a t
  | 0, h => absurd h (Nat.not_lt_zero _)
  | n + 1, h => by
    simp only [ss]
    by_cases e : t = n
    · subst e
      rw [hf]
      have p : put t f t = true := by simp [put]
      rw [p, ss_congr (f := put t f) (f' := f) (a' := a) (fun j hj => by simp [put]; intro z; omega) (fun _ _ _ => rfl)]
      simp
    · rw [ss_put hf (by omega)]
      have p : put t f n = f n := by simp [put, Ne.symm e]
      rw [p]; omega
theorem ss_one {t n : Nat} {a : Nat → Int} (h : t < n) : ss n (fun j => j == t) a = a t := by
  have e := ss_put (t := t) (f := fun _ => false) (a := a) rfl h
  have z : ∀ n, ss n (fun _ => false) a = 0 := fun n => by induction n with
    | zero => rfl
    | succ n ih => simp [ss, ih]
  rw [z] at e
  rw [← Int.zero_add (a t), ← e]
  exact ss_congr (fun j _ => by simp [put]) (fun _ _ _ => rfl)

/-- what makes every pivot positive: from t on nothing but the diagonal is positive, no sum over a set with the diagonal is negative, and in no set are all sums zero -/
structure MM (n t : Nat) (A : Nat → Nat → Int) : Prop where
  off : ∀ i j, t ≤ i → i < n → t ≤ j → j < n → i ≠ j → A i j ≤ 0
  sums : ∀ (f : Nat → Bool) (i : Nat), (∀ j, f j = true → t ≤ j ∧ j < n) → f i = true → 0 ≤ ss n f (A i)
  open_ : ∀ (f : Nat → Bool) (i : Nat), (∀ j, f j = true → t ≤ j ∧ j < n) → f i = true → ∃ i, f i = true ∧ 0 < ss n f (A i)
theorem MM.pivot {n t : Nat} {A : Nat → Nat → Int} (m : MM n t A) (h : t < n) : 0 < A t t := by
  obtain ⟨i, hi, hp⟩ := m.open_ (fun j => j == t) t (fun j hj => by simp at hj; omega) (by simp)
  have e : i = t := by simpa using hi
  subst e
  rwa [ss_one h] at hp
/-- the step of the elimination -/
structure Step (t n : Nat) (A B : Nat → Nat → Int) : Prop where
  row : ∀ j, B t j = A t j
  other : ∀ i, i < n → i ≠ t → ∃ g : Int, 0 < g ∧ ∀ j, g * B i j = A t t * A i j - A i t * A t j
theorem pos_of_mul {g x : Int} (hg : 0 < g) (h : 0 ≤ g * x) : 0 ≤ x := by
  rcases Int.lt_or_le x 0 with hx | hx
  · have := Int.mul_neg_of_pos_of_neg hg hx; omega
  · exact hx
theorem neg_of_mul {g x : Int} (hg : 0 < g) (h : g * x ≤ 0) : x ≤ 0 := by
  rcases Int.lt_or_le 0 x with hx | hx
  · have := Int.mul_pos hg hx; omega
  · exact hx
theorem MM.step {n t : Nat} {A B : Nat → Nat → Int} (m : MM n t A) (h : t < n) (s : Step t n A B) : MM n (t + 1) B := by
  have hp := m.pivot h
  have key : ∀ (f : Nat → Bool) (i : Nat), (∀ j, f j = true → t + 1 ≤ j ∧ j < n) → f i = true →
      ∃ g : Int, 0 < g ∧ g * ss n f (B i) = A t t * ss n (put t f) (A i) - A i t * ss n (put t f) (A t) ∧ ss n (put t f) (A i) = ss n f (A i) + A i t ∧ 0 ≤ ss n (put t f) (A i) ∧ 0 ≤ ss n (put t f) (A t) ∧ A i t ≤ 0 := by
    intro f i hf hi
    obtain ⟨hi1, hi2⟩ := hf i hi
    obtain ⟨g, hg, e⟩ := s.other i hi2 (by omega)
    have ft : f t = false := by
      cases z : f t with
      | false => rfl
      | true => exact absurd (hf t z).1 (by omega)
    have e1 := ss_put (a := A i) ft h
    have e2 := ss_put (a := A t) ft h
    have l := ss_lin f (A i) (A t) (B i) (A t t) (A i t) g e n
    have hput : ∀ j, put t f j = true → t ≤ j ∧ j < n := fun j hj => by
      simp [put] at hj
      rcases hj with z | z
      · omega
      · have := hf j z; omega
    refine ⟨g, hg, ?_, e1, m.sums _ i hput (by simp [put, hi]), m.sums _ t hput (by simp [put]), m.off i t (by omega) hi2 (Nat.le_refl t) h (by omega)⟩
    rw [l, e1, e2, Int.mul_add, Int.mul_add]
    have := Int.mul_comm (A t t) (A i t)
    omega
  refine ⟨fun i j h1 h2 h3 h4 h5 => ?_, fun f i hf hi => ?_, fun f i hf hi => ?_⟩
  · obtain ⟨g, hg, e⟩ := s.other i h2 (by omega)
    refine neg_of_mul hg ?_
    rw [e j]
    have a1 : A i j ≤ 0 := m.off i j (by omega) h2 (by omega) h4 h5
    have a2 : A i t ≤ 0 := m.off i t (by omega) h2 (Nat.le_refl t) h (by omega)
    have a3 : A t j ≤ 0 := m.off t j (Nat.le_refl t) h (by omega) h4 (by omega)
    have b1 : A t t * A i j ≤ 0 := Int.mul_nonpos_of_nonneg_of_nonpos (by omega) a1
    have b2 : 0 ≤ A i t * A t j := Int.mul_nonneg_of_nonpos_of_nonpos a2 a3
    omega
  · obtain ⟨g, hg, e, _, p1, p2, p3⟩ := key f i hf hi
    refine pos_of_mul hg ?_
    rw [e]
    have b1 := Int.mul_nonneg (Int.le_of_lt hp) p1
    have b2 : A i t * ss n (put t f) (A t) ≤ 0 := Int.mul_nonpos_of_nonpos_of_nonneg p3 p2
    omega
  · -- no closed set behind the step
    apply Classical.byContradiction
    intro no
    have all0 : ∀ k, f k = true → ss n (put t f) (A k) = 0 ∧ A k t * ss n (put t f) (A t) = 0 := by
      intro k hk
      obtain ⟨g, hg, e, _, p1, p2, p3⟩ := key f k hf hk
      have nk : ¬ 0 < ss n f (B k) := fun z => no ⟨k, hk, z⟩
      have b0 : g * ss n f (B k) ≤ 0 := Int.mul_nonpos_of_nonneg_of_nonpos (by omega) (by omega)
      have b1 := Int.mul_nonneg (Int.le_of_lt hp) p1
      have b2 : A k t * ss n (put t f) (A t) ≤ 0 := Int.mul_nonpos_of_nonpos_of_nonneg p3 p2
      have b3 : A t t * ss n (put t f) (A k) = 0 := by omega
      refine ⟨?_, by omega⟩
      rcases Int.mul_eq_zero.mp b3 with z | z
      · omega
      · exact z
    have hput : ∀ j, put t f j = true → t ≤ j ∧ j < n := fun j hj => by
      simp [put] at hj
      rcases hj with z | z
      · omega
      · have := hf j z; omega
    obtain ⟨k, hk, hkp⟩ := m.open_ (put t f) t hput (by simp [put])
    have et : k = t := by
      simp [put] at hk
      rcases hk with z | z
      · exact z
      · have := (all0 k z).1; omega
    subst et
    have z0 : ∀ k', f k' = true → A k' k = 0 := fun k' hk' => by
      rcases Int.mul_eq_zero.mp (all0 k' hk').2 with z | z
      · exact z
      · omega
    obtain ⟨k', hk', hp'⟩ := m.open_ f i (fun j hj => by have := hf j hj; omega) hi
    obtain ⟨_, _, _, e1, _, _, _⟩ := key f k' hf hk'
    have := (all0 k' hk').1
    have := z0 k' hk'
    omega
end Cr
namespace Cr
open Valdgg

/-! ### the order of plans -/
def key (z : Plan) : List Nat := z.cost :: z.percents
theorem better_key (a b : Plan) : isBetterPlan a b = lexLess (key a) (key b) := rfl
theorem ll_irrefl : ∀ a : List Nat, lexLess a a = false
  | [] => rfl
  | x :: r => by simp [lexLess, ll_irrefl r]
theorem ll_tri : ∀ {a b : List Nat}, lexLess a b = false → lexLess b a = false → a = b
  | [], [], _, _ => rfl
  | [], _ :: _, h, _ => by simp [lexLess] at h
  | _ :: _, [], _, h => by simp [lexLess] at h
  | x :: r, y :: q, h1, h2 => by
    simp [lexLess] at h1 h2
    have e : x = y := by omega
    subst e
    rw [ll_tri (h1.2 rfl) (h2.2 rfl)]
theorem ll_trans : ∀ {a b c : List Nat}, lexLess a b = true → lexLess b c = true → lexLess a c = true
  | [], [], _, h, _ => by simp [lexLess] at h
  | [], _ :: _, [], _, h => by simp [lexLess] at h
  | [], _ :: _, _ :: _, _, _ => rfl
  | _ :: _, [], _, h, _ => by simp [lexLess] at h
  | _ :: _, _ :: _, [], _, h => by simp [lexLess] at h
  | x :: r, y :: q, z :: p, h1, h2 => by
    simp [lexLess] at h1 h2 ⊢
    rcases h1 with h1 | ⟨e1, h1⟩ <;> rcases h2 with h2 | ⟨e2, h2⟩
    · left; omega
    · left; omega
    · left; omega
    · right; exact ⟨by omega, ll_trans h1 h2⟩
/-- a is not worse than b -/
def Le (a b : List Nat) : Prop := lexLess b a = false
theorem Le.refl (a : List Nat) : Le a a := ll_irrefl a
theorem Le.anti {a b : List Nat} (h1 : Le a b) (h2 : Le b a) : a = b := ll_tri h2 h1
theorem Le.of_lt {a b : List Nat} (h : lexLess a b = true) : Le a b := by
  unfold Le
  cases e : lexLess b a with
  | false => rfl
  | true =>
    have := ll_trans h e
    rw [ll_irrefl] at this
    cases this
theorem Le.trans {a b c : List Nat} (h1 : Le a b) (h2 : Le b c) : Le a c := by
  unfold Le at *
  cases e : lexLess c a with
  | false => rfl
  | true =>
    cases e2 : lexLess a b with
    | true =>
      have := ll_trans e e2
      rw [h2] at this; cases this
    | false =>
      have := ll_tri e2 h1
      subst this
      rw [e] at h2; cases h2
theorem ll_same : ∀ {p q : List Nat} {cs : List Nat} (c n : Nat), p.length = cs.length → q.length = cs.length → (∀ (i : Nat), cs[i]? = some c → p[i]? = q[i]?) →
    lexLess ((cs.zip p).map fun y => if y.1 = c then n else y.2) ((cs.zip q).map fun y => if y.1 = c then n else y.2) = lexLess p q
  | [], [], [], _, _, _, _, _ => rfl
  | [], _, _ :: _, _, _, h, _, _ => by simp at h
  | _ :: _, _, [], _, _, h, _, _ => by simp at h
  | _, [], _ :: _, _, _, _, h, _ => by simp at h
  | _, _ :: _, [], _, _, _, h, _ => by simp at h
  | x :: p, y :: q, k :: cs, c, n, h1, h2, h => by
    have ih := ll_same (p := p) (q := q) (cs := cs) c n (by simpa using h1) (by simpa using h2) fun i hi => by simpa using h (i + 1) (by simpa using hi)
    simp only [List.zip_cons_cons, List.map_cons, lexLess, ih]
    by_cases e : k = c
    · have e2 : x = y := by simpa using h 0 (by simp [e])
      simp [e, e2]
    · simp [e]
theorem le_grow : ∀ {p : List Nat} {cs : List Nat} (c n : Nat), p.length = cs.length → (∀ (i : Nat), cs[i]? = some c → p[i]? = some 0) → Le p ((cs.zip p).map fun y => if y.1 = c then n else y.2)
  | [], [], _, _, _, _ => rfl
  | [], _ :: _, _, _, h, _ => by simp at h
  | _ :: _, [], _, _, h, _ => by simp at h
  | x :: p, k :: cs, c, n, h1, h => by
    have ih : lexLess _ p = false := le_grow (p := p) (cs := cs) c n (by simpa using h1) fun i hi => by simpa using h (i + 1) (by simpa using hi)
    unfold Le
    simp only [List.zip_cons_cons, List.map_cons, lexLess, ih]
    by_cases e : k = c
    · have e2 : x = 0 := by simpa using h 0 (by simp [e])
      simp [e, e2]
    · simp [e]

/-! ### sorted lists -/
theorem mem_put {x d : Nat} : ∀ {l : List Nat}, x ∈ putDay d l ↔ x = d ∨ x ∈ l
  | [] => by simp [putDay]
  | y :: r => by
    simp only [putDay]
    split
    · simp
    · split
      · rename_i h; subst h; simp
      · simp [mem_put (l := r)]; constructor
        · rintro (h | h | h)
          · exact .inr (.inl h)
          · exact .inl h
          · exact .inr (.inr h)
        · rintro (h | h | h)
          · exact .inr (.inl h)
          · exact .inl h
          · exact .inr (.inr h)
theorem put_sorted {d : Nat} : ∀ {l : List Nat}, l.Pairwise (· < ·) → (putDay d l).Pairwise (· < ·)
  | [], _ => by simp [putDay]
  | y :: r, h => by
    simp only [putDay]
    have h' := List.pairwise_cons.mp h
    split
    · rename_i hd
      refine List.pairwise_cons.mpr ⟨fun z hz => ?_, h⟩
      rcases List.mem_cons.mp hz with rfl | hz
      · exact hd
      · exact Nat.lt_trans hd (h'.1 z hz)
    · split
      · exact h
      · refine List.pairwise_cons.mpr ⟨fun z hz => ?_, put_sorted h'.2⟩
        rcases mem_put.mp hz with rfl | hz
        · omega
        · exact h'.1 z hz
theorem put_len {d : Nat} : ∀ {l : List Nat}, d ∉ l → (putDay d l).length = l.length + 1
  | [], _ => rfl
  | y :: r, h => by
    simp only [putDay]
    split
    · rfl
    · split
      · rename_i e; subst e; exact absurd List.mem_cons_self h
      · simp [put_len (l := r) fun z => h (List.mem_cons_of_mem _ z)]
theorem sorted_ext {a b : List Nat} (ha : a.Pairwise (· < ·)) (hb : b.Pairwise (· < ·)) (h : ∀ x, x ∈ a ↔ x ∈ b) : a = b := by
  have na : a.Nodup := ha.imp fun h => Nat.ne_of_lt h
  have nb : b.Nodup := hb.imp fun h => Nat.ne_of_lt h
  exact List.Perm.eq_of_pairwise (le := (· < ·)) (fun x y _ _ h1 h2 => by omega) ha hb ((List.perm_ext_iff_of_nodup na nb).mpr h)
theorem comps_sorted (s : State) : (companies s).Pairwise (· < ·) := by
  unfold companies allParties
  exact List.Pairwise.filter _ List.pairwise_lt_range
theorem comps_nodup (s : State) : (companies s).Nodup := (comps_sorted s).imp fun h => Nat.ne_of_lt h

/-! ### the plans that can be reached -/
section
variable (s : State) (h : Table) (party : Nat) (prices : List Nat)
inductive Reach : Plan → Prop
  | start : Reach (emptyPlan s)
  | step {z z' : Plan} {c p : Nat} : Reach z → (c, p) ∈ (companies s).zip prices → extended s h party z c p = some z' → Reach z'
end
section
variable {s : State} {h : Table} {party : Nat} {prices : List Nat}
theorem ext_some {z z' : Plan} {c p : Nat} (e : extended s h party z c p = some z') : c ≠ party ∧ c ∉ z.members ∧ (need h (party :: z.members) c : Int) ≤ floatIn s h c ∧
    z' = { members := putDay c z.members, cost := z.cost + p * need h (party :: z.members) c, percents := ((companies s).zip z.percents).map fun y => if y.1 = c then need h (party :: z.members) c else y.2 } := by
  unfold extended at e
  dsimp only at e
  split at e
  · cases e
  · rename_i n
    rw [not_or, not_or] at n
    refine ⟨n.1, fun m => n.2.1 (List.contains_iff_mem.mpr m), by omega, (Option.some.inj e).symm⟩
theorem ext_of {z : Plan} {c p : Nat} (h1 : c ≠ party) (h2 : c ∉ z.members) (h3 : (need h (party :: z.members) c : Int) ≤ floatIn s h c) : extended s h party z c p =
    some { members := putDay c z.members, cost := z.cost + p * need h (party :: z.members) c, percents := ((companies s).zip z.percents).map fun y => if y.1 = c then need h (party :: z.members) c else y.2 } := by
  unfold extended
  dsimp only
  rw [if_neg]
  rw [not_or, not_or]
  exact ⟨h1, fun m => h2 (List.contains_iff_mem.mp m), by omega⟩
structure RInv (s : State) (z : Plan) : Prop where
  len : z.percents.length = (companies s).length
  zero : ∀ (i c : Nat), (companies s)[i]? = some c → c ∉ z.members → z.percents[i]? = some 0
  srt : z.members.Pairwise (· < ·)
  sub : ∀ c ∈ z.members, c ∈ companies s
theorem Reach.inv {z : Plan} (r : Reach s h party prices z) : RInv s z := by
  induction r with
  | start => exact ⟨by simp [emptyPlan], fun i c e _ => by simp [emptyPlan, e], by simp [emptyPlan], fun c m => by simp [emptyPlan] at m⟩
  | step _ hm e ih =>
    obtain ⟨e1, e2, e3, rfl⟩ := ext_some e
    refine ⟨by simp [ih.len], fun i c' hc hn => ?_, put_sorted ih.srt, fun c' m => ?_⟩
    · have hn' : ¬ (c' = _ ∨ c' ∈ _) := fun z => hn (mem_put.mpr z)
      rw [not_or] at hn'
      have z0 := ih.zero i c' hc hn'.2
      simp only [List.getElem?_map, List.zip, List.getElem?_zipWith, hc, z0, Option.map_some]
      rw [if_neg hn'.1]
    · rcases mem_put.mp m with rfl | m
      · exact (List.of_mem_zip hm).1
      · exact ih.sub c' m
/-- an extension grows the plan -/
theorem ext_le {z z' : Plan} {c p : Nat} (i : RInv s z) (e : extended s h party z c p = some z') : Le (key z) (key z') := by
  obtain ⟨e1, e2, e3, rfl⟩ := ext_some e
  have g : lexLess _ z.percents = false := le_grow (p := z.percents) (cs := companies s) c (need h (party :: z.members) c) i.len fun j hj => i.zero j c hj e2
  unfold Le key
  simp only [lexLess, g]
  simp
/-- of two plans for the same set the better one stays the better one -/
theorem ext_mono {z y z' y' : Plan} {c p : Nat} (i : RInv s z) (j : RInv s y) (m : z.members = y.members) (e1 : extended s h party z c p = some z') (e2 : extended s h party y c p = some y') (l : Le (key z) (key y)) : Le (key z') (key y') := by
  obtain ⟨a1, a2, a3, rfl⟩ := ext_some e1
  obtain ⟨b1, b2, b3, rfl⟩ := ext_some e2
  have g := ll_same (p := y.percents) (q := z.percents) (cs := companies s) c (need h (party :: y.members) c) j.len i.len fun k hk => by rw [i.zero k c hk a2, j.zero k c hk b2]
  rw [m]
  unfold Le key at l ⊢
  simp only [lexLess, g] at l ⊢
  simp at l ⊢
  constructor
  · omega
  · intro q; exact l.2 (by omega)
/-! ### the specification's lists -/
theorem kept_mem {l : List Plan} {z w : Plan} (hw : w ∈ keptBest l z) : w = z ∨ w ∈ l := by
  unfold keptBest at hw
  split at hw
  · rcases List.mem_append.mp hw with q | q
    · exact .inr q
    · exact .inl (by simpa using q)
  · split at hw
    · obtain ⟨x, hx, e⟩ := List.mem_map.mp hw
      split at e
      · exact .inl e.symm
      · exact .inr (e ▸ hx)
    · exact .inr hw
theorem kept_fold_mem : ∀ {cs l : List Plan} {w : Plan}, w ∈ cs.foldl keptBest l → w ∈ l ∨ w ∈ cs
  | [], _, _, hw => .inl hw
  | z :: cs, l, w, hw => by
    rcases kept_fold_mem (cs := cs) hw with q | q
    · rcases kept_mem q with rfl | q
      · exact .inr List.mem_cons_self
      · exact .inl q
    · exact .inr (List.mem_cons_of_mem _ q)
theorem kept_nodup {l : List Plan} {z : Plan} (hl : (l.map (·.members)).Nodup) : ((keptBest l z).map (·.members)).Nodup := by
  unfold keptBest
  split
  · rename_i hf
    rw [List.map_append, List.nodup_append]
    refine ⟨hl, by simp, ?_⟩
    intro a ha b hb e
    subst e
    obtain ⟨x, hx, rfl⟩ := List.mem_map.mp ha
    have hb' : x.members = z.members := by simpa using hb
    have := List.find?_eq_none.mp hf x hx
    simp [hb'] at this
  · split
    · have e : (l.map fun x => if x.members = z.members then z else x).map (·.members) = l.map (·.members) := by
        rw [List.map_map]
        apply List.map_congr_left
        intro x _
        show (if x.members = z.members then z else x).members = x.members
        split
        · rename_i q; exact q.symm
        · rfl
      rw [e]; exact hl
    · exact hl
theorem nodup_inj {l : List Plan} (hl : (l.map (·.members)).Nodup) {x y : Plan} (hx : x ∈ l) (hy : y ∈ l) (e : x.members = y.members) : x = y := by
  obtain ⟨i, hi, rfl⟩ := List.getElem_of_mem hx
  obtain ⟨j, hj, rfl⟩ := List.getElem_of_mem hy
  have h1 : (l.map (·.members))[i]'(by simpa using hi) = (l.map (·.members))[j]'(by simpa using hj) := by simpa using e
  have := (List.getElem_inj hl).mp h1
  subst this; rfl
/-- each plan has one of its set in the list that is not worse -/
def CoversL (l : List Plan) (z : Plan) : Prop := ∃ y ∈ l, y.members = z.members ∧ Le (key y) (key z)
theorem kept_covers {l : List Plan} {z : Plan} (hl : (l.map (·.members)).Nodup) : CoversL (keptBest l z) z ∧ ∀ w, CoversL l w → CoversL (keptBest l z) w := by
  unfold keptBest
  split
  · refine ⟨⟨z, by simp, rfl, Le.refl _⟩, fun w ⟨y, hy, e, q⟩ => ⟨y, List.mem_append_left _ hy, e, q⟩⟩
  · rename_i y hf
    have hy : y ∈ l := List.mem_of_find?_eq_some hf
    have em : y.members = z.members := by simpa using List.find?_some hf
    split
    · rename_i hb
      have hz : z ∈ l.map fun x => if x.members = z.members then z else x := List.mem_map.mpr ⟨y, hy, if_pos em⟩
      refine ⟨⟨z, hz, rfl, Le.refl _⟩, fun w ⟨v, hv, e, q⟩ => ?_⟩
      by_cases c : v.members = z.members
      · have : v = y := nodup_inj hl hv hy (c.trans em.symm)
        subst this
        exact ⟨z, hz, by rw [← e, c], Le.trans (Le.of_lt (by rw [← better_key]; exact hb)) q⟩
      · exact ⟨v, List.mem_map.mpr ⟨v, hv, if_neg c⟩, e, q⟩
    · rename_i hb
      exact ⟨⟨y, hy, em, by unfold Le; rw [← better_key]; exact Bool.eq_false_iff.mpr hb⟩, fun w q => q⟩
theorem fold_covers : ∀ {cs l : List Plan}, (l.map (·.members)).Nodup → (∀ w, CoversL l w → CoversL (cs.foldl keptBest l) w) ∧ ∀ z ∈ cs, CoversL (cs.foldl keptBest l) z
  | [], _, _ => ⟨fun _ q => q, fun _ q => nomatch q⟩
  | z :: cs, l, hl => by
    obtain ⟨a, b⟩ := kept_covers (z := z) hl
    obtain ⟨c, d⟩ := fold_covers (cs := cs) (kept_nodup (z := z) hl)
    refine ⟨fun w q => c w (b w q), fun w hw => ?_⟩
    rcases List.mem_cons.mp hw with rfl | hw
    · exact c _ a
    · exact d w hw
def nextOf (s : State) (h : Table) (party : Nat) (prices : List Nat) (l : List Plan) : List Plan := (l.flatMap fun z => ((companies s).zip prices).filterMap fun y => extended s h party z y.1 y.2).foldl keptBest []
theorem plansFrom_succ (k : Nat) (l : List Plan) : plansFrom s h party prices (k + 1) l = l ++ plansFrom s h party prices k (nextOf s h party prices l) := rfl
theorem next_reach {l : List Plan} (hl : ∀ z ∈ l, Reach s h party prices z) : ∀ z ∈ nextOf s h party prices l, Reach s h party prices z := fun w hw => by
  rcases kept_fold_mem hw with q | q
  · exact nomatch q
  · obtain ⟨z, hz, q⟩ := List.mem_flatMap.mp q
    obtain ⟨y, hy, e⟩ := List.mem_filterMap.mp q
    exact .step (hl z hz) hy e
theorem from_reach : ∀ (k : Nat) {l : List Plan}, (∀ z ∈ l, Reach s h party prices z) → ∀ z ∈ plansFrom s h party prices k l, Reach s h party prices z
  | 0, _, hl => hl
  | k + 1, l, hl => fun z hz => by
    rw [plansFrom_succ] at hz
    rcases List.mem_append.mp hz with q | q
    · exact hl z q
    · exact from_reach k (next_reach hl) z q
theorem from_covers : ∀ (k j : Nat) {l : List Plan}, (∀ z ∈ l, Reach s h party prices z) → (∀ z, Reach s h party prices z → z.members.length = j → CoversL l z) → ∀ z, Reach s h party prices z → j ≤ z.members.length → z.members.length ≤ j + k → CoversL (plansFrom s h party prices k l) z
  | 0, j, l, _, hc => fun z r h1 h2 => hc z r (by omega)
  | k + 1, j, l, hl, hc => fun z r h1 h2 => by
    rw [plansFrom_succ]
    by_cases e : z.members.length = j
    · obtain ⟨y, hy, q⟩ := hc z r e
      exact ⟨y, List.mem_append_left _ hy, q⟩
    · obtain ⟨y, hy, q⟩ := from_covers k (j + 1) (next_reach hl) (fun z' r' e' => by
        cases r' with
        | start => simp [emptyPlan] at e'
        | @step z₀ _ c p r₀ hm e₀ =>
          obtain ⟨a1, a2, a3, a4⟩ := ext_some e₀
          have l0 : z₀.members.length = j := by
            rw [a4] at e'
            have := put_len a2
            have e'' : (putDay c z₀.members).length = j + 1 := e'
            omega
          obtain ⟨y, hy, em, ql⟩ := hc z₀ r₀ l0
          have ey := ext_of (s := s) (h := h) (party := party) (z := y) (c := c) (p := p) a1 (by rw [em]; exact a2) (by rw [em]; exact a3)
          have hin : _ ∈ l.flatMap fun z => ((companies s).zip prices).filterMap fun y => extended s h party z y.1 y.2 := List.mem_flatMap.mpr ⟨y, hy, List.mem_filterMap.mpr ⟨(c, p), hm, ey⟩⟩
          obtain ⟨v, hv, ev, qv⟩ := (fold_covers (l := []) (by simp)).2 _ hin
          refine ⟨v, hv, ?_, Le.trans qv (ext_mono (hl y hy).inv r₀.inv em ey e₀ ql)⟩
          rw [ev, a4]
          show putDay c y.members = putDay c z₀.members
          rw [em]) z r (by omega) (by omega)
      exact ⟨y, List.mem_append_right _ hy, q⟩
theorem reach_len {z : Plan} (r : Reach s h party prices z) : z.members.length ≤ (companies s).length := by
  have i := r.inv
  exact List.Nodup.length_le_of_subset (i.srt.imp fun h => Nat.ne_of_lt h) i.sub
theorem all_covered {z : Plan} (r : Reach s h party prices z) : CoversL (plansFrom s h party prices (companies s).length [emptyPlan s]) z :=
  from_covers _ 0 (fun z hz => by rw [List.mem_singleton.mp hz]; exact .start) (fun z r e => by
    cases r with
    | start => exact ⟨_, List.mem_singleton_self _, rfl, Le.refl _⟩
    | @step z₀ _ c p _ _ e₀ =>
      obtain ⟨a1, a2, a3, a4⟩ := ext_some e₀
      have e' : (putDay c z₀.members).length = 0 := by rw [a4] at e; exact e
      rw [put_len a2] at e'
      cases e') z r (Nat.zero_le _) (by have := reach_len r; omega)
def pick (best : Option Plan) (z : Plan) : Option Plan := match best with
  | none => some z
  | some b => if isBetterPlan z b then some z else some b
theorem pick_fold : ∀ (l : List Plan) (b : Option Plan), (l.foldl pick b = none → b = none ∧ l = []) ∧ ∀ z, l.foldl pick b = some z → (b = some z ∨ z ∈ l) ∧ (∀ y, b = some y → Le (key z) (key y)) ∧ ∀ y ∈ l, Le (key z) (key y)
  | [], b => ⟨fun e => ⟨e, rfl⟩, fun z e => ⟨.inl e, fun y q => by
      have : b = some z := e
      rw [this] at q
      cases q; exact Le.refl _, fun _ q => nomatch q⟩⟩
  | x :: l, b => by
    obtain ⟨h1, h2⟩ := pick_fold l (pick b x)
    have hp : ∃ w, pick b x = some w ∧ (b = some w ∨ w = x) ∧ Le (key w) (key x) ∧ ∀ y, b = some y → Le (key w) (key y) := by
      cases b with
      | none => exact ⟨x, rfl, .inr rfl, Le.refl _, fun _ q => nomatch q⟩
      | some b =>
        unfold pick
        dsimp only
        by_cases c : isBetterPlan x b = true
        · rw [if_pos c]
          exact ⟨x, rfl, .inr rfl, Le.refl _, fun y q => by cases q; exact Le.of_lt (by rw [← better_key]; exact c)⟩
        · rw [if_neg c]
          exact ⟨b, rfl, .inl rfl, by unfold Le; rw [← better_key]; exact Bool.eq_false_iff.mpr c, fun y q => by cases q; exact Le.refl _⟩
    obtain ⟨w, ew, hw, hx, hb⟩ := hp
    refine ⟨fun e => ?_, fun z e => ?_⟩
    · have := (h1 e).1
      rw [ew] at this; cases this
    · obtain ⟨a, b', c⟩ := h2 z e
      have lw := b' w ew
      refine ⟨?_, fun y q => Le.trans lw (hb y q), fun y hy => ?_⟩
      · rcases a with a | a
        · rw [ew] at a
          cases a
          rcases hw with q | q
          · exact .inl q
          · exact .inr (q ▸ List.mem_cons_self)
        · exact .inr (List.mem_cons_of_mem _ a)
      · rcases List.mem_cons.mp hy with rfl | hy
        · exact Le.trans lw hx
        · exact c y hy
/-- the keys of the plans of S: the least one, or none -/
def Best (S : Plan → Prop) (pl : List Nat) : Prop := (pl = [] → ∀ z, ¬ S z) ∧ (pl ≠ [] → ∃ z, S z ∧ key z = pl ∧ ∀ z', S z' → Le (key z) (key z'))
theorem key_ne (z : Plan) : key z ≠ [] := by simp [key]
theorem spec_best {s : State} {day party target : Nat} {prices : List Nat} : Best (fun z => Reach s (tableOf s day) party prices z ∧ target ∈ z.members) ((cheapestPlan s day party target prices).elim [] key) := by
  have e : cheapestPlan s day party target prices = ((plansFrom s (tableOf s day) party prices (companies s).length [emptyPlan s]).filter fun z => z.members.contains target).foldl pick none := rfl
  rw [e]
  generalize hl : plansFrom s (tableOf s day) party prices (companies s).length [emptyPlan s] = l
  have hr : ∀ z ∈ l, Reach s (tableOf s day) party prices z := by
    rw [← hl]
    exact from_reach _ fun z hz => by rw [List.mem_singleton.mp hz]; exact .start
  have hcov : ∀ z, Reach s (tableOf s day) party prices z → target ∈ z.members → ∃ y ∈ l.filter fun z => z.members.contains target, Le (key y) (key z) := fun z r m => by
    obtain ⟨y, hy, em, q⟩ := all_covered r
    rw [hl] at hy
    exact ⟨y, List.mem_filter.mpr ⟨hy, List.contains_iff_mem.mpr (by rw [em]; exact m)⟩, q⟩
  obtain ⟨h1, h2⟩ := pick_fold (l.filter fun z => z.members.contains target) none
  cases e2 : (l.filter fun z => z.members.contains target).foldl pick none with
  | none =>
    refine ⟨fun _ z ⟨r, m⟩ => ?_, fun q => absurd rfl q⟩
    obtain ⟨y, hy, _⟩ := hcov z r m
    rw [(h1 e2).2] at hy
    cases hy
  | some z =>
    obtain ⟨a, _, c⟩ := h2 z e2
    refine ⟨fun q => absurd q (key_ne z), fun _ => ⟨z, ?_, rfl, fun z' ⟨r, m⟩ => ?_⟩⟩
    · rcases a with a | a
      · cases a
      · obtain ⟨b1, b2⟩ := List.mem_filter.mp a
        exact ⟨hr z b1, List.contains_iff_mem.mp b2⟩
    · obtain ⟨y, hy, q⟩ := hcov z' r m
      exact Le.trans (c y hy) q
end
end Cr
namespace Cr
open Valdgg

theorem sum_is (l : List Int) : Valdgg.sum l = l.sum := by
  have e : ∀ (l : List Int) (a : Int), l.foldl (fun a b => a + b) a = a + l.sum := fun l => by
    induction l with
    | nil => intro a; simp
    | cons x r ih => intro a; rw [List.foldl_cons, ih, List.sum_cons]; omega
  unfold Valdgg.sum
  rw [e]; omega
/-! ### tables -/
def mat (n : Nat) (f : Nat → Nat → Int) : Table := (List.range n).map fun p => (List.range n).map fun c => f p c
/-- what is held, by trades -/
def hf (ts : List Trade) (day p c : Nat) : Int := Valdgg.sum (((ts.filter fun t => decide (t.day ≤ day)).filter fun t => t.owner == p && t.company == c).map fun t => t.percent)
def tabOf (n : Nat) (ts : List Trade) (day : Nat) : Table := mat n (hf ts day)
theorem tableOf_eq (s : State) (day : Nat) : tableOf s day = tabOf s.parties.length (liveTrades s) day := rfl
def Sq (h : Table) : Prop := ∀ row ∈ h, row.length = h.length
theorem mat_len (n : Nat) (f : Nat → Nat → Int) : (mat n f).length = n := by simp [mat]
theorem mat_sq (n : Nat) (f : Nat → Nat → Int) : Sq (mat n f) := fun row h => by
  obtain ⟨p, _, rfl⟩ := List.mem_map.mp h
  simp [mat]
theorem mat_row {n p : Nat} (f : Nat → Nat → Int) (hp : p < n) : (mat n f)[p]? = some ((List.range n).map fun c => f p c) := by
  simp [mat, hp]
theorem held_mat {n p c : Nat} (f : Nat → Nat → Int) (hp : p < n) (hc : c < n) : held (mat n f) p c = f p c := by
  unfold held
  rw [mat_row f hp]
  simp [hc]
theorem tab_len (n : Nat) (ts : List Trade) (day : Nat) : (tabOf n ts day).length = n := mat_len ..
theorem tab_sq (n : Nat) (ts : List Trade) (day : Nat) : Sq (tabOf n ts day) := mat_sq _ _
theorem held_tab {n p c : Nat} (ts : List Trade) (day : Nat) (hp : p < n) (hc : c < n) : held (tabOf n ts day) p c = hf ts day p c := held_mat _ hp hc
theorem row_at {h : Table} (hs : Sq h) {k : Nat} (hk : k < h.length) : ∃ row, h[k]? = some row ∧ row.length = h.length := ⟨h[k], List.getElem?_eq_getElem hk, hs _ (List.getElem_mem hk)⟩
theorem cell_at {h : Table} {k c : Nat} {row : List Int} (e : h[k]? = some row) (hc : c < row.length) : row[c]? = some (held h k c) := by
  unfold held
  rw [e]
  simp [hc]
theorem hf_holding (s : State) (day p c : Nat) : holding s day p c = hf (liveTrades s) day p c := by
  unfold holding hf
  rw [List.filter_filter]
  congr 3
  funext t
  rw [Bool.and_comm (t.owner == p && t.company == c), ← Bool.and_assoc]
/-- one trade more -/
theorem hf_add (ts : List Trade) (t : Trade) (day p c : Nat) : hf (ts ++ [t]) day p c = if t.day ≤ day ∧ t.owner = p ∧ t.company = c then hf ts day p c + t.percent else hf ts day p c := by
  unfold hf
  rw [sum_is, sum_is, List.filter_append, List.filter_append, List.map_append, List.sum_append]
  by_cases h1 : t.day ≤ day
  · by_cases h2 : t.owner = p ∧ t.company = c
    · rw [if_pos ⟨h1, h2⟩]
      simp [h1, h2.1, h2.2]
    · rw [if_neg (fun z => h2 z.2)]
      have : (t.owner == p && t.company == c) = false := by
        rw [Bool.eq_false_iff]
        intro z
        rw [Bool.and_eq_true, beq_iff_eq, beq_iff_eq] at z
        exact h2 z
      simp [h1, this]
  · rw [if_neg (fun z => h1 z.1)]
    simp [h1]
theorem hf_nil (day p c : Nat) : hf [] day p c = 0 := rfl
theorem heldIn_sum (h : Table) (m : List Nat) (c : Nat) : heldIn h m c = (m.map fun p => held h p c).sum := by
  unfold heldIn
  rw [sum_is]
/-! ### records as the program has them -/
def recRow : Record → List Int
  | .trade d o c p => if 0 < p then [0, (d : Int), (o : Int), (c : Int), p] else [1, (d : Int), (o : Int), (c : Int), -p]
  | .cancel r => [2, (r : Int), 0, 0, 0]
def tradeRow (t : Trade) : List Int := recRow (.trade t.day t.owner t.company t.percent)
def comps (ps : List Bool) : List Nat := (List.range ps.length).filter fun p => (ps[p]?).getD false
theorem comps_eq (s : State) : companies s = comps s.parties := rfl
def liveOf (rs : List Record) : List Trade := liveTrades { parties := [], records := rs }
theorem live_eq (s : State) : liveTrades s = liveOf s.records := rfl
/-- the i-th record as a live trade -/
def liveAt (rs : List Record) (r : Record) (i : Nat) : Option Trade := match r with
  | .trade d o c p => if rs.contains (.cancel i) then none else some { day := d, owner := o, company := c, percent := p }
  | .cancel _ => none
theorem liveOf_eq (rs : List Record) : liveOf rs = rs.zipIdx.filterMap fun z => liveAt rs z.1 z.2 := by
  unfold liveOf liveTrades
  congr 1
theorem zipIdx_fm {α β : Type} (F : α × Nat → Option β) : ∀ (l : List α) (k : Nat), (l.zipIdx k).filterMap F = (List.range l.length).filterMap fun j => (l[j]?).bind fun r => F (r, j + k)
  | [], k => rfl
  | x :: l, k => by
    have ih := zipIdx_fm F l (k + 1)
    rw [List.zipIdx_cons, List.length_cons, List.range_succ_eq_map, List.filterMap_cons, List.filterMap_cons, List.filterMap_map, ih]
    have e : ((x :: l)[0]?.bind fun r => F (r, 0 + k)) = F (x, k) := by simp
    rw [e]
    have e2 : (fun j => (l[j]?).bind fun r => F (r, j + (k + 1))) = (fun j => ((x :: l)[j]?).bind fun r => F (r, j + k)) ∘ Nat.succ := by
      funext j
      simp only [Function.comp, Nat.succ_eq_add_one, List.getElem?_cons_succ]
      congr 1
      funext r
      rw [show j + (k + 1) = j + 1 + k by omega]
    rw [e2]
def liveTo (rs : List Record) (i : Nat) : List Trade := (List.range i).filterMap fun j => (rs[j]?).bind fun r => liveAt rs r j
theorem liveOf_to (rs : List Record) : liveOf rs = liveTo rs rs.length := by
  rw [liveOf_eq, zipIdx_fm]; rfl
theorem liveTo_succ (rs : List Record) (i : Nat) : liveTo rs (i + 1) = liveTo rs i ++ ((rs[i]?).bind fun r => liveAt rs r i).toList := by
  unfold liveTo
  rw [List.range_succ, List.filterMap_append]
  simp only [List.filterMap_cons, List.filterMap_nil]
  cases (rs[i]?).bind fun r => liveAt rs r i <;> rfl
theorem liveTo_len (rs : List Record) (i : Nat) : (liveTo rs i).length ≤ i := by
  unfold liveTo
  exact Nat.le_trans (List.length_filterMap_le _ _) (by simp)
theorem row_len (r : Record) : (recRow r).length = 5 := by
  cases r with
  | trade d o c p => by_cases hp : 0 < p <;> simp [recRow, hp]
  | cancel r => rfl
def fld (r : Record) (j : Nat) : Int := (recRow r).getD j 0
theorem fld_at {r : Record} {j : Nat} (h : j < 5) : (recRow r)[j]? = some (fld r j) := by
  unfold fld
  rw [List.getD_eq_getElem?_getD, List.getElem?_eq_getElem (by rw [row_len]; exact h)]
  rfl
def isCan : Record → Bool
  | .cancel _ => true
  | _ => false
theorem kind_is (r : Record) : decide (fld r 0 = 2) = isCan r := by
  cases r with
  | trade d o c p => by_cases hp : 0 < p <;> simp [fld, recRow, hp, isCan]
  | cancel r => simp [fld, recRow, isCan]
theorem cancel_is (r : Record) (k : Nat) : (decide (fld r 0 = 2) && decide (fld r 1 = (k : Int))) = (r == .cancel k) := by
  rw [kind_is]
  cases r with
  | trade d o c p => simp [isCan]
  | cancel r =>
    simp [isCan, fld, recRow]
    by_cases h : r = k
    · subst h; simp
    · have : ¬ ((r : Int) = (k : Int)) := by omega
      simp [h, this]
/-! ### what holds of every state that is come to -/
def validT (ps : List Bool) (ts : List Trade) (day : Nat) : Bool := isValidTable { parties := ps, records := [] } (tabOf ps.length ts day)
theorem valid_is (s : State) (day : Nat) : isValid s day = validT s.parties (liveOf s.records) day := rfl
def InP (ps : List Bool) (ts : List Trade) : Prop := ∀ t ∈ ts, t.owner < ps.length ∧ t.company < ps.length ∧ ps[t.company]? = some true
structure WF (s : State) : Prop where
  np : s.parties.length ≤ 12
  nc : (companies s).length ≤ 8
  nr : s.records.length ≤ 40
  tr : ∀ d o c p, Record.trade d o c p ∈ s.records → o < s.parties.length ∧ c < s.parties.length ∧ s.parties[c]? = some true ∧ p ≠ 0 ∧ -100 ≤ p ∧ p ≤ 100
  cn : ∀ (i r : Nat), s.records[i]? = some (.cancel r) → r < i
  vd : ∀ n d, validT s.parties (liveOf (s.records.take n)) d = true
theorem liveTo_mem {rs : List Record} {i : Nat} {t : Trade} (h : t ∈ liveTo rs i) : .trade t.day t.owner t.company t.percent ∈ rs := by
  unfold liveTo at h
  obtain ⟨j, _, e⟩ := List.mem_filterMap.mp h
  obtain ⟨r, h1, h2⟩ := Option.bind_eq_some_iff.mp e
  cases r with
  | trade d o c p =>
    have h2' : (if rs.contains (.cancel j) = true then none else some ({ day := d, owner := o, company := c, percent := p } : Trade)) = some t := h2
    split at h2'
    · cases h2'
    · cases h2'
      exact List.mem_of_getElem? h1
  | cancel r => cases h2
theorem live_mem {rs : List Record} {t : Trade} (h : t ∈ liveOf rs) : .trade t.day t.owner t.company t.percent ∈ rs := by
  rw [liveOf_to] at h
  exact liveTo_mem h
theorem live_len (rs : List Record) : (liveOf rs).length ≤ rs.length := by
  rw [liveOf_to]; exact liveTo_len _ _
theorem WF.inP {s : State} (w : WF s) (n : Nat) : InP s.parties (liveOf (s.records.take n)) := fun t ht => by
  have := w.tr _ _ _ _ (List.take_subset n _ (live_mem ht))
  exact ⟨this.1, this.2.1, this.2.2.1⟩
theorem WF.inA {s : State} (w : WF s) : InP s.parties (liveOf s.records) := by
  have := w.inP s.records.length
  rwa [List.take_length] at this
theorem InP.two {ps : List Bool} {ts : List Trade} (h : InP ps ts) : ∀ t ∈ ts, t.owner < ps.length ∧ t.company < ps.length := fun t ht => ⟨(h t ht).1, (h t ht).2.1⟩
/-! ### the refusals -/
def pcode (s : State) (d p n : Int) : Int := if (!(isNumber d && isNumber p && isKnowledge s n)) = true then -1 else if (!hasParty s p) = true then -3 else 0
def ccode (s : State) (d c n : Int) : Int := if pcode s d c n ≠ 0 then pcode s d c n else if (!isCompany s c.toNat) = true then -4 else 0
def bcode (s : State) (p c : Int) : Int := if p = c then -2 else if (!(hasParty s p && hasParty s c)) = true then -3 else if (!isCompany s c.toNat) = true then -4 else 0
def prcode (s : State) (p c n : Int) : Int := if (!(isNumber p && isNumber c && isKnowledge s n)) = true then -1 else bcode s p c
def pdcode (s : State) (d p c n : Int) : Int := if (!isNumber d) = true then -1 else prcode s p c n
def plcode (s : State) (d p t : Int) (prices : List Int) : Int :=
  if (!(isNumber d && isNumber p && isNumber t && prices.all (within 0 maxPrice))) = true then -1 else if prices.length ≠ (companies s).length then -2 else bcode s p t
theorem num_nn {x : Int} (h : isNumber x = true) : 0 ≤ x ∧ x ≤ 9999 := by
  unfold isNumber within maxNumber at h
  simpa using h
theorem has_lt {s : State} {p : Int} (h : hasParty s p = true) : p < (s.parties.length : Int) := by
  unfold hasParty at h
  simpa using h
theorem pcode_0 {s : State} {d p n : Int} (h : pcode s d p n = 0) : (0 ≤ p ∧ p < (s.parties.length : Int)) ∧ (0 ≤ d ∧ d ≤ 9999) ∧ 0 ≤ n ∧ n ≤ (s.records.length : Int) := by
  unfold pcode at h
  split at h
  · cases h
  · split at h
    · cases h
    · rename_i h1 h2
      rw [Bool.not_eq_true, Bool.not_eq_false'] at h1 h2
      rw [Bool.and_eq_true, Bool.and_eq_true] at h1
      have a := num_nn h1.1.1
      have b := num_nn h1.1.2
      have c := has_lt h2
      have e := h1.2
      unfold isKnowledge within at e
      simp at e
      exact ⟨⟨b.1, c⟩, a, e⟩
theorem comp_at {s : State} {c : Nat} (h : c < s.parties.length) : s.parties[c]? = some (isCompany s c) := by
  unfold isCompany
  rw [List.getElem?_eq_getElem h]; rfl
end Cr
namespace Cr
open Valdgg

/-! ### days -/
def daysOf (ts : List Trade) : List Nat := (ts.map fun t => t.day).foldl (fun l d => putDay d l) []
theorem sortedDays_is (s : State) : sortedDays s = daysOf (liveOf s.records) := rfl
theorem fold_put : ∀ (l acc : List Nat), acc.Pairwise (· < ·) → (l.foldl (fun l d => putDay d l) acc).Pairwise (· < ·) ∧ ∀ x, x ∈ l.foldl (fun l d => putDay d l) acc ↔ x ∈ acc ∨ x ∈ l
  | [], acc, h => ⟨h, fun x => by simp⟩
  | d :: l, acc, h => by
    obtain ⟨a, b⟩ := fold_put l (putDay d acc) (put_sorted h)
    refine ⟨a, fun x => ?_⟩
    rw [List.foldl_cons, b, mem_put, List.mem_cons]
    constructor
    · rintro ((h | h) | h)
      · exact .inr (.inl h)
      · exact .inl h
      · exact .inr (.inr h)
    · rintro (h | h | h)
      · exact .inl (.inr h)
      · exact .inl (.inl h)
      · exact .inr h
theorem days_sorted (ts : List Trade) : (daysOf ts).Pairwise (· < ·) := (fold_put _ [] List.Pairwise.nil).1
theorem mem_days {ts : List Trade} {x : Nat} : x ∈ daysOf ts ↔ x ∈ ts.map fun t => t.day := by
  unfold daysOf
  rw [(fold_put _ [] List.Pairwise.nil).2]
  simp
theorem days_len (ts : List Trade) : (daysOf ts).length ≤ ts.length := by
  have h := List.Nodup.length_le_of_subset (l₂ := ts.map fun t => t.day) ((days_sorted ts).imp fun h => Nat.ne_of_lt h) fun x hx => mem_days.mp hx
  simpa using h
/-! ### valid days -/
def hasNeg (h : Table) : Bool := h.any fun row => row.any fun x => decide (x < 0)
def hasEx (h : Table) (cs : List Nat) : Bool := cs.any fun c => decide (100 < heldIn h (List.range h.length) c)
theorem mem_comps {ps : List Bool} {c : Nat} : c ∈ comps ps ↔ c < ps.length ∧ ps[c]? = some true := by
  unfold comps
  rw [List.mem_filter, List.mem_range]
  constructor
  · rintro ⟨h1, h2⟩
    rw [List.getElem?_eq_getElem h1] at h2 ⊢
    exact ⟨h1, congrArg some h2⟩
  · rintro ⟨h1, h2⟩
    exact ⟨h1, by rw [h2]; rfl⟩
theorem comps_lt {ps : List Bool} {c : Nat} (h : c ∈ comps ps) : c < ps.length := (mem_comps.mp h).1
theorem comps_len (ps : List Bool) : (comps ps).length ≤ ps.length := by
  unfold comps
  exact Nat.le_trans (List.length_filter_le _ _) (by simp)
theorem hf_zero {ps : List Bool} {ts : List Trade} (h : InP ps ts) {day p c : Nat} (hc : ps[c]? ≠ some true) : hf ts day p c = 0 := by
  have e : (ts.filter fun t => decide (t.day ≤ day)).filter (fun t => t.owner == p && t.company == c) = [] := by
    rw [List.filter_eq_nil_iff]
    intro t ht z
    rw [Bool.and_eq_true, beq_iff_eq, beq_iff_eq] at z
    have := (h t (List.mem_filter.mp ht).1).2.2
    rw [z.2] at this
    exact hc this
  unfold hf
  rw [e]; rfl
theorem neg_iff (n : Nat) (f : Nat → Nat → Int) : hasNeg (mat n f) = true ↔ ∃ p c, p < n ∧ c < n ∧ f p c < 0 := by
  unfold hasNeg mat
  simp only [List.any_eq_true, List.mem_map, List.mem_range, decide_eq_true_eq]
  constructor
  · rintro ⟨row, ⟨p, hp, rfl⟩, x, hx, h⟩
    obtain ⟨c, hc, rfl⟩ := List.mem_map.mp hx
    exact ⟨p, c, hp, List.mem_range.mp hc, h⟩
  · rintro ⟨p, c, hp, hc, h⟩
    exact ⟨_, ⟨p, hp, rfl⟩, f p c, List.mem_map.mpr ⟨c, List.mem_range.mpr hc, rfl⟩, h⟩
theorem isV_iff (ps : List Bool) (ts : List Trade) (day : Nat) : validT ps ts day = true ↔
    (∀ c ∈ comps ps, (∀ p, p < ps.length → 0 ≤ hf ts day p c) ∧ heldIn (tabOf ps.length ts day) (List.range ps.length) c ≤ 100) ∧ closedPart (tabOf ps.length ts day) (comps ps).length (comps ps) = [] := by
  unfold validT isValidTable hasClosedSet floatIn
  show ((comps ps).all (fun c => (List.range ps.length).all (fun p => decide (0 ≤ held (tabOf ps.length ts day) p c)) && decide (0 ≤ whole - heldIn (tabOf ps.length ts day) (List.range ps.length) c)) && !(!(closedPart (tabOf ps.length ts day) (comps ps).length (comps ps)).isEmpty)) = true ↔ _
  rw [Bool.and_eq_true, List.all_eq_true, Bool.not_not, List.isEmpty_iff]
  have e : ∀ c ∈ comps ps, ((List.range ps.length).all (fun p => decide (0 ≤ held (tabOf ps.length ts day) p c)) && decide (0 ≤ whole - heldIn (tabOf ps.length ts day) (List.range ps.length) c)) = true ↔ ((∀ p, p < ps.length → 0 ≤ hf ts day p c) ∧ heldIn (tabOf ps.length ts day) (List.range ps.length) c ≤ 100) := by
    intro c hc
    rw [Bool.and_eq_true, List.all_eq_true]
    unfold whole
    have hc' := comps_lt hc
    constructor
    · rintro ⟨h1, h2⟩
      refine ⟨fun p hp => ?_, ?_⟩
      · have := h1 p (List.mem_range.mpr hp)
        rw [decide_eq_true_eq, held_tab ts day hp hc'] at this
        exact this
      · have := of_decide_eq_true h2; omega
    · rintro ⟨h1, h2⟩
      refine ⟨fun p hp => ?_, decide_eq_true (by omega)⟩
      have hp' := List.mem_range.mp hp
      rw [decide_eq_true_eq, held_tab ts day hp' hc']
      exact h1 p hp'
  constructor
  · rintro ⟨a, b⟩
    exact ⟨fun c hc => (e c hc).mp (a c hc), b⟩
  · rintro ⟨a, b⟩
    exact ⟨fun c hc => (e c hc).mpr (a c hc), b⟩
theorem valid_neg {ps : List Bool} {ts : List Trade} {day : Nat} (h : InP ps ts) (hn : hasNeg (tabOf ps.length ts day) = true) : validT ps ts day = false := by
  rw [Bool.eq_false_iff]
  intro z
  obtain ⟨a, _⟩ := (isV_iff ..).mp z
  obtain ⟨p, c, hp, hc, hl⟩ := (neg_iff ..).mp hn
  by_cases q : ps[c]? = some true
  · have := (a c (mem_comps.mpr ⟨hc, q⟩)).1 p hp
    omega
  · rw [hf_zero h q] at hl; omega
theorem valid_ex {ps : List Bool} {ts : List Trade} {day : Nat} (hn : hasEx (tabOf ps.length ts day) (comps ps) = true) : validT ps ts day = false := by
  rw [Bool.eq_false_iff]
  intro z
  obtain ⟨a, _⟩ := (isV_iff ..).mp z
  unfold hasEx at hn
  obtain ⟨c, hc, h⟩ := List.any_eq_true.mp hn
  rw [tab_len] at h
  have := (a c hc).2
  have := of_decide_eq_true h
  omega
theorem valid_cl {ps : List Bool} {ts : List Trade} {day : Nat} (h1 : hasNeg (tabOf ps.length ts day) = false) (h2 : hasEx (tabOf ps.length ts day) (comps ps) = false) :
    validT ps ts day = decide ((closedPart (tabOf ps.length ts day) (comps ps).length (comps ps)).length = 0) := by
  rw [Bool.eq_iff_iff, isV_iff, decide_eq_true_eq, List.length_eq_zero_iff]
  refine ⟨fun z => z.2, fun z => ⟨fun c hc => ⟨fun p hp => ?_, ?_⟩, z⟩⟩
  · rw [Bool.eq_false_iff] at h1
    have hc' := comps_lt hc
    apply Int.not_lt.mp
    intro q
    exact h1 ((neg_iff ..).mpr ⟨p, c, hp, hc', q⟩)
  · rw [Bool.eq_false_iff] at h2
    apply Int.not_lt.mp
    intro q
    refine h2 (List.any_eq_true.mpr ⟨c, hc, decide_eq_true ?_⟩)
    rw [tab_len]; exact q
theorem closed_succ (h : Table) : ∀ (k : Nat) (set : List Nat), closedPart h (k + 1) set = (closedPart h k set).filter fun c => heldIn h (closedPart h k set) c == whole
  | 0, _ => rfl
  | k + 1, set => by
    show closedPart h (k + 1) (set.filter _) = _
    rw [closed_succ h k]; rfl
theorem closed_sub (h : Table) : ∀ (k : Nat) (set : List Nat), ∀ c ∈ closedPart h k set, c ∈ set
  | 0, _, _, hc => hc
  | k + 1, _, c, hc => (List.mem_filter.mp (closed_sub h k _ c hc)).1
theorem closed_len (h : Table) : ∀ (k : Nat) (set : List Nat), (closedPart h k set).length ≤ set.length
  | 0, _ => Nat.le_refl _
  | k + 1, _ => Nat.le_trans (closed_len h k _) (List.length_filter_le _ _)
/-! ### control -/
def newC (cs : List Nat) (h : Table) (set : List Nat) : List Nat := cs.filter fun c => !set.contains c && decide (majority < heldIn h set c)
def memN (cs : List Nat) (h : Table) (p : Nat) : Nat → List Nat
  | 0 => [p]
  | i + 1 => memN cs h p i ++ newC cs h (memN cs h p i)
def rowN (cs : List Nat) (h : Table) (p : Nat) : Nat → List (Nat × Nat × Int)
  | 0 => []
  | i + 1 => rowN cs h p i ++ (newC cs h (memN cs h p i)).map fun c => (c, i + 1, heldIn h (memN cs h p i) c)
def ctl (ps : List Bool) (h : Table) (p : Nat) : List (Nat × Nat × Int) := controlRounds { parties := ps, records := [] } h (comps ps).length 1 [p]
theorem rounds_stop (s : State) (h : Table) (set : List Nat) (e : newlyControlled s h set = []) : ∀ k r, controlRounds s h k r set = []
  | 0, _ => rfl
  | k + 1, r => by
    show (if (newlyControlled s h set).isEmpty = true then [] else _) = []
    rw [e]; rfl
theorem rounds_eq (ps : List Bool) (h : Table) (p : Nat) : ∀ (k i : Nat), rowN (comps ps) h p i ++ controlRounds { parties := ps, records := [] } h k (i + 1) (memN (comps ps) h p i) = rowN (comps ps) h p (i + k)
  | 0, i => by simp [controlRounds]
  | k + 1, i => by
    have en : newlyControlled { parties := ps, records := [] } h (memN (comps ps) h p i) = newC (comps ps) h (memN (comps ps) h p i) := rfl
    have ih := rounds_eq ps h p k (i + 1)
    rw [show i + (k + 1) = i + 1 + k by omega, ← ih]
    show _ ++ (if (newlyControlled _ h (memN (comps ps) h p i)).isEmpty = true then [] else _) = _
    rw [en]
    by_cases z : newC (comps ps) h (memN (comps ps) h p i) = []
    · have em : memN (comps ps) h p (i + 1) = memN (comps ps) h p i := by
        show _ ++ newC _ _ _ = _
        rw [z, List.append_nil]
      rw [em, rounds_stop _ _ _ (en.trans z)]
      show _ ++ (if (newC (comps ps) h (memN (comps ps) h p i)).isEmpty = true then _ else _) = (_ ++ List.map _ (newC _ _ _)) ++ []
      rw [z]; simp
    · rw [if_neg (by rw [List.isEmpty_iff]; exact z)]
      show _ ++ (_ ++ _) = (_ ++ _) ++ _
      rw [List.append_assoc]; rfl
theorem ctl_eq (ps : List Bool) (h : Table) (p : Nat) : ctl ps h p = rowN (comps ps) h p (comps ps).length := by
  have z := rounds_eq ps h p (comps ps).length 0
  rw [Nat.zero_add (comps ps).length] at z
  exact z
theorem rounds_congr (s : State) (h : Table) : ∀ (k r : Nat) (set : List Nat), controlRounds s h k r set = controlRounds { parties := s.parties, records := [] } h k r set
  | 0, _, _ => rfl
  | k + 1, r, set => by
    have e : newlyControlled s h set = newlyControlled { parties := s.parties, records := [] } h set := rfl
    unfold controlRounds
    rw [e]
    dsimp only
    rw [rounds_congr s h k]
theorem order_is (s : State) (day p : Nat) : controlOrder s day p = ctl s.parties (tabOf s.parties.length (liveOf s.records) day) p := rounds_congr ..
theorem new_sub {cs : List Nat} {h : Table} {set : List Nat} {c : Nat} (hc : c ∈ newC cs h set) : c ∈ cs ∧ c ∉ set := by
  obtain ⟨a, b⟩ := List.mem_filter.mp hc
  rw [Bool.and_eq_true] at b
  refine ⟨a, fun z => ?_⟩
  have := b.1
  rw [List.contains_iff_mem.mpr z] at this
  cases this
theorem mem_memN {cs : List Nat} {h : Table} {p : Nat} : ∀ {i c : Nat}, c ∈ memN cs h p i ↔ c = p ∨ c ∈ (rowN cs h p i).map fun z => z.1
  | 0, c => by simp [memN, rowN]
  | i + 1, c => by
    show c ∈ memN cs h p i ++ newC _ _ _ ↔ c = p ∨ c ∈ (rowN cs h p i ++ _).map _
    rw [List.mem_append, mem_memN, List.map_append, List.mem_append, List.map_map]
    have e : ((fun z : Nat × Nat × Int => z.1) ∘ fun c => (c, i + 1, heldIn h (memN cs h p i) c)) = id := rfl
    rw [e, List.map_id]
    exact or_assoc
theorem rows_nodup {cs : List Nat} (hc : cs.Nodup) {h : Table} {p : Nat} : ∀ i, ((rowN cs h p i).map fun z => z.1).Nodup
  | 0 => List.nodup_nil
  | i + 1 => by
    show ((rowN cs h p i ++ _).map _).Nodup
    rw [List.map_append, List.map_map]
    have e : ((fun z : Nat × Nat × Int => z.1) ∘ fun c => (c, i + 1, heldIn h (memN cs h p i) c)) = id := rfl
    rw [e, List.map_id, List.nodup_append]
    refine ⟨rows_nodup hc i, hc.filter _, fun a ha b hb z => ?_⟩
    subst z
    exact (new_sub hb).2 (mem_memN.mpr (.inr ha))
theorem rows_sub {cs : List Nat} {h : Table} {p : Nat} : ∀ {i : Nat} {z : Nat × Nat × Int}, z ∈ rowN cs h p i → z.1 ∈ cs
  | 0, z, hz => nomatch hz
  | i + 1, z, hz => by
    rcases List.mem_append.mp hz with q | q
    · exact rows_sub q
    · obtain ⟨c, h1, rfl⟩ := List.mem_map.mp q
      exact (new_sub h1).1
theorem rows_len {cs : List Nat} (hc : cs.Nodup) {h : Table} {p : Nat} (i : Nat) : (rowN cs h p i).length ≤ cs.length := by
  have := List.Nodup.length_le_of_subset (rows_nodup hc (h := h) (p := p) i) (l₂ := cs) fun c hc' => by
    obtain ⟨z, hz, rfl⟩ := List.mem_map.mp hc'
    exact rows_sub hz
  simpa using this
theorem memN_len {cs : List Nat} {h : Table} {p : Nat} : ∀ i, (memN cs h p i).length = (rowN cs h p i).length + 1
  | 0 => rfl
  | i + 1 => by
    show (memN cs h p i ++ newC _ _ _).length = (rowN cs h p i ++ _).length + 1
    rw [List.length_append, List.length_append, memN_len i, List.length_map]; omega
theorem compsL_sorted (ps : List Bool) : (comps ps).Pairwise (· < ·) := comps_sorted { parties := ps, records := [] }
theorem compsL_nodup (ps : List Bool) : (comps ps).Nodup := (compsL_sorted ps).imp fun h => Nat.ne_of_lt h
/-- the companies that a party controls, ascending -/
def ctlBy (ps : List Bool) (h : Table) (p : Nat) : List Nat := (comps ps).filter fun c => (ctl ps h p).any fun z => z.1 == c
theorem controlled_is (s : State) (day p : Nat) : controlledCompanies s day p = ctlBy s.parties (tabOf s.parties.length (liveOf s.records) day) p := by
  unfold controlledCompanies ctlBy
  rw [order_is]; rfl
theorem mem_ctlBy {ps : List Bool} {h : Table} {p c : Nat} : c ∈ ctlBy ps h p ↔ c ∈ (ctl ps h p).map fun z => z.1 := by
  unfold ctlBy
  rw [List.mem_filter, List.any_eq_true, List.mem_map]
  constructor
  · rintro ⟨_, z, hz, e⟩
    exact ⟨z, hz, beq_iff_eq.mp e⟩
  · rintro ⟨z, hz, e⟩
    refine ⟨?_, z, hz, beq_iff_eq.mpr e⟩
    rw [← e]
    rw [ctl_eq] at hz
    exact rows_sub hz
theorem ctlBy_perm (ps : List Bool) (h : Table) (p : Nat) : (ctlBy ps h p).Perm ((ctl ps h p).map fun z => z.1) := by
  refine (List.perm_ext_iff_of_nodup ((compsL_nodup ps).filter _) ?_).mpr fun c => mem_ctlBy
  rw [ctl_eq]
  exact rows_nodup (compsL_nodup ps) _
theorem ctlBy_sorted (ps : List Bool) (h : Table) (p : Nat) : (ctlBy ps h p).Pairwise (· < ·) := (compsL_sorted ps).filter _
end Cr
namespace Cr
open Valdgg

/-! ### new records -/
def dcode (s : State) (d o c p : Int) : Int :=
  if (!(isNumber d && isNumber o && isNumber c && within 1 maxPercent p)) = true then -1 else if o = c then -2 else if (!(hasParty s o && hasParty s c)) = true then -3
  else if maxRecords ≤ s.records.length then -6 else if (!isCompany s c.toNat) = true then -4 else 0
def vcode (ps : List Bool) (ts : List Trade) (day : Nat) : Int := if (!validT ps ts day) = true then -5 else if (!((ts.map fun t => t.day).filter fun d => decide (day < d)).all (validT ps ts)) = true then -8 else 0
def sgn (k : Int) : Int := if k = 0 then 1 else -1
def newT (k d o c p : Int) : Trade := { day := d.toNat, owner := o.toNat, company := c.toNat, percent := sgn k * p }
def newR (k d o c p : Int) : Record := .trade d.toNat o.toNat c.toNat (sgn k * p)
def rcode (s : State) (k d o c p : Int) : Int := if dcode s d o c p ≠ 0 then dcode s d o c p else vcode s.parties (liveOf s.records ++ [newT k d o c p]) d.toNat
structure Deed (s : State) (d o c p : Int) : Prop where
  d0 : 0 ≤ d
  d1 : d ≤ 9999
  o0 : 0 ≤ o
  o1 : o < (s.parties.length : Int)
  c0 : 0 ≤ c
  c1 : c < (s.parties.length : Int)
  p0 : 1 ≤ p
  p1 : p ≤ 100
  ne : o ≠ c
  room : s.records.length < 40
  comp : s.parties[c.toNat]? = some true
theorem dcode_0 {s : State} {d o c p : Int} (h : dcode s d o c p = 0) : Deed s d o c p := by
  unfold dcode at h
  split at h
  · cases h
  · split at h
    · cases h
    · split at h
      · cases h
      · split at h
        · cases h
        · split at h
          · cases h
          · rename_i h1 h2 h3 h4 h5
            rw [Bool.not_eq_true, Bool.not_eq_false'] at h1 h3 h5
            rw [Bool.and_eq_true, Bool.and_eq_true, Bool.and_eq_true] at h1
            rw [Bool.and_eq_true] at h3
            have a := num_nn h1.1.1.1
            have b := num_nn h1.1.1.2
            have e := num_nn h1.1.2
            have f := h1.2
            unfold within maxPercent at f
            simp at f
            have g := has_lt h3.1
            have i := has_lt h3.2
            unfold maxRecords at h4
            have hc : c.toNat < s.parties.length := by omega
            exact ⟨a.1, a.2, b.1, g, e.1, i, f.1, f.2, h2, by omega, by rw [comp_at hc, h5]⟩
theorem row_new {k d o c p : Int} (hk : k = 0 ∨ k = 1) (hd : 0 ≤ d) (ho : 0 ≤ o) (hc : 0 ≤ c) (hp : 1 ≤ p) : recRow (newR k d o c p) = [k, d, o, c, p] := by
  unfold newR recRow sgn
  have e1 : ((d.toNat : Nat) : Int) = d := Int.toNat_of_nonneg hd
  have e2 : ((o.toNat : Nat) : Int) = o := Int.toNat_of_nonneg ho
  have e3 : ((c.toNat : Nat) : Int) = c := Int.toNat_of_nonneg hc
  rcases hk with rfl | rfl
  · rw [if_pos rfl, Int.one_mul]
    simp only [if_pos (show 0 < p by omega), e1, e2, e3]
  · rw [if_neg (by decide)]
    simp only [if_neg (show ¬ 0 < -1 * p by omega), e1, e2, e3]
    rw [show -(-1 * p) = p by omega]
theorem inP_new {s : State} (w : WF s) {k d o c p : Int} (h : Deed s d o c p) : InP s.parties (liveOf s.records ++ [newT k d o c p]) := fun t ht => by
  rcases List.mem_append.mp ht with q | q
  · exact w.inA t q
  · rw [List.mem_singleton.mp q]
    have a := h.o0; have b := h.o1; have e := h.c0; have f := h.c1
    exact ⟨by show o.toNat < _; omega, by show c.toNat < _; omega, h.comp⟩
theorem fm_congr {α β : Type} {f g : α → Option β} : ∀ {l : List α}, (∀ x ∈ l, f x = g x) → l.filterMap f = l.filterMap g
  | [], _ => rfl
  | x :: r, h => by
    rw [List.filterMap_cons, List.filterMap_cons, h x List.mem_cons_self, fm_congr fun y hy => h y (List.mem_cons_of_mem _ hy)]
/-- the live trades behind one more record -/
theorem live_snoc {rs : List Record} (hc : ∀ (i r : Nat), rs[i]? = some (.cancel r) → r < i) (d o c : Nat) (p : Int) : liveOf (rs ++ [.trade d o c p]) = liveOf rs ++ [{ day := d, owner := o, company := c, percent := p }] := by
  have nc : ∀ j, rs.length ≤ j → ¬ Record.cancel j ∈ rs := fun j hj hm => by
    obtain ⟨i, hi⟩ := List.mem_iff_getElem?.mp hm
    have h1 := hc i j hi
    have h2 := (List.getElem?_eq_some_iff.mp hi).1
    omega
  have ec : ∀ j, (rs ++ [Record.trade d o c p]).contains (.cancel j) = rs.contains (.cancel j) := fun j => by
    rw [Bool.eq_iff_iff, List.contains_iff_mem, List.contains_iff_mem, List.mem_append]
    simp
  rw [liveOf_to, liveOf_to, List.length_append]
  show liveTo _ (rs.length + 1) = _
  rw [liveTo_succ]
  have e1 : (rs ++ [Record.trade d o c p])[rs.length]? = some (.trade d o c p) := by simp
  have e2 : liveAt (rs ++ [Record.trade d o c p]) (.trade d o c p) rs.length = some { day := d, owner := o, company := c, percent := p } := by
    show (if (rs ++ [Record.trade d o c p]).contains (.cancel rs.length) = true then none else _) = _
    rw [ec, if_neg]
    rw [List.contains_iff_mem]
    exact nc _ (Nat.le_refl _)
  rw [e1]
  show liveTo _ rs.length ++ (liveAt (rs ++ [Record.trade d o c p]) (.trade d o c p) rs.length).toList = _
  rw [e2]
  congr 1
  unfold liveTo
  refine fm_congr fun j hj => ?_
  rw [List.getElem?_append_left (List.mem_range.mp hj)]
  cases rs[j]? with
  | none => rfl
  | some r =>
    cases r with
    | trade d' o' c' p' =>
      show (if (rs ++ [Record.trade d o c p]).contains (.cancel j) = true then none else _) = (if rs.contains (.cancel j) = true then none else _)
      rw [ec]
    | cancel _ => rfl
theorem traded_is {s : State} (w : WF s) (k d o c p : Int) : traded s (sgn k) d o c p = if rcode s k d o c p ≠ 0 then .error (rcode s k d o c p) else .ok (recorded s (newR k d o c p)) := by
  have hl : liveTrades (recorded s (newR k d o c p)) = liveOf s.records ++ [newT k d o c p] := live_snoc w.cn ..
  have ev : ∀ d', isValid (recorded s (newR k d o c p)) d' = validT s.parties (liveOf s.records ++ [newT k d o c p]) d' := fun d' => by
    rw [valid_is, ← live_eq, hl]; rfl
  unfold traded rcode dcode
  by_cases h1 : (!(isNumber d && isNumber o && isNumber c && within 1 maxPercent p)) = true
  · rw [if_pos h1, if_pos h1]; rfl
  rw [if_neg h1, if_neg h1]
  by_cases h2 : o = c
  · rw [if_pos h2, if_pos h2]; rfl
  rw [if_neg h2, if_neg h2]
  by_cases h3 : (!(hasParty s o && hasParty s c)) = true
  · rw [if_pos h3, if_pos h3]; rfl
  rw [if_neg h3, if_neg h3]
  by_cases h4 : maxRecords ≤ s.records.length
  · rw [if_pos h4, if_pos h4]; rfl
  rw [if_neg h4, if_neg h4]
  by_cases h5 : (!isCompany s c.toNat) = true
  · rw [if_pos h5, if_pos h5]; rfl
  rw [if_neg h5, if_neg h5]
  show (if (!isValid (recorded s (newR k d o c p)) d.toNat) = true then _ else if (!((tradeDays (recorded s (newR k d o c p))).filter fun d' => decide (d.toNat < d')).all (isValid (recorded s (newR k d o c p)))) = true then _ else _) = _
  have et : tradeDays (recorded s (newR k d o c p)) = (liveOf s.records ++ [newT k d o c p]).map fun t => t.day := by
    unfold tradeDays; rw [hl]
  have ef : isValid (recorded s (newR k d o c p)) = validT s.parties (liveOf s.records ++ [newT k d o c p]) := funext ev
  rw [ef, et]
  unfold vcode
  by_cases h6 : (!validT s.parties (liveOf s.records ++ [newT k d o c p]) d.toNat) = true
  · rw [if_pos h6, if_pos h6]; rfl
  rw [if_neg h6, if_neg h6]
  by_cases h7 : (!(((liveOf s.records ++ [newT k d o c p]).map fun t => t.day).filter fun d' => decide (d.toNat < d')).all (validT s.parties (liveOf s.records ++ [newT k d o c p]))) = true
  · rw [if_pos h7, if_pos h7]; rfl
  rw [if_neg h7, if_neg h7]; rfl
/-! ### cancellations -/
def alwaysV (ps : List Bool) (ts : List Trade) : Bool := (ts.map fun t => t.day).all (validT ps ts)
def kcode (s : State) (r : Int) : Int :=
  if (!isNumber r) = true then -1 else if (s.records.length : Int) ≤ r then -3 else if maxRecords ≤ s.records.length then -6 else if (!isTrade s r.toNat || isCancelled s r.toNat) = true then -4
  else if (!alwaysV s.parties (liveOf (s.records ++ [.cancel r.toNat]))) = true then -8 else 0
theorem cancelling_is (s : State) (r : Int) : cancelling s r = if kcode s r ≠ 0 then failed s (kcode s r) else (recorded s (.cancel r.toNat), [0, (s.records.length : Int)]) := by
  unfold cancelling kcode
  dsimp only
  by_cases h1 : (!isNumber r) = true
  · rw [if_pos h1, if_pos h1]; rfl
  rw [if_neg h1, if_neg h1]
  by_cases h2 : (s.records.length : Int) ≤ r
  · rw [if_pos h2, if_pos h2]; rfl
  rw [if_neg h2, if_neg h2]
  by_cases h3 : maxRecords ≤ s.records.length
  · rw [if_pos h3, if_pos h3]; rfl
  rw [if_neg h3, if_neg h3]
  by_cases h4 : (!isTrade s r.toNat || isCancelled s r.toNat) = true
  · rw [if_pos h4, if_pos h4]; rfl
  rw [if_neg h4, if_neg h4]
  have e : isValidAlways (recorded s (.cancel r.toNat)) = alwaysV s.parties (liveOf (s.records ++ [.cancel r.toNat])) := rfl
  rw [e]
  by_cases h5 : (!alwaysV s.parties (liveOf (s.records ++ [.cancel r.toNat]))) = true
  · rw [if_pos h5, if_pos h5]; rfl
  rw [if_neg h5, if_neg h5]; rfl
theorem trade_kind {s : State} {r : Nat} {x : Record} (h : s.records[r]? = some x) : isCan x = !isTrade s r := by
  unfold isTrade
  rw [h]
  cases x <;> rfl
theorem inP_cancel {s : State} (w : WF s) (r : Nat) : InP s.parties (liveOf (s.records ++ [.cancel r])) := fun t ht => by
  have := live_mem ht
  rcases List.mem_append.mp this with q | q
  · have := w.tr _ _ _ _ q
    exact ⟨this.1, this.2.1, this.2.2.1⟩
  · cases List.mem_singleton.mp q
/-! ### the rows of answers -/
def flat2 (l : List (Nat × Int)) : List Int := l.flatMap fun z => [(z.1 : Int), z.2]
theorem flat2_len (l : List (Nat × Int)) : (flat2 l).length = 2 * l.length := by
  induction l with
  | nil => rfl
  | cons x r ih =>
    show ([_, _] ++ flat2 r).length = _
    rw [List.length_append, ih, List.length_cons]
    simp; omega
theorem flat2_app (l m : List (Nat × Int)) : flat2 (l ++ m) = flat2 l ++ flat2 m := List.flatMap_append
theorem pairsRow_is (l : List (Nat × Int)) : pairsRow l = 0 :: (l.length : Int) :: flat2 l := rfl
theorem half (n : Nat) : ((2 * n : Nat) : Int) / 2 = (n : Int) := by omega
theorem known_p (s : State) (n : Nat) : (knownAfter s n).parties = s.parties := rfl
theorem pcode_split (s : State) (d p n : Int) (f : State → Nat → Nat → Answer) : onParty s d p n f = if pcode s d p n ≠ 0 then [pcode s d p n] else f (knownAfter s n.toNat) d.toNat p.toNat := by
  unfold onParty pcode
  by_cases h1 : (!(isNumber d && isNumber p && isKnowledge s n)) = true
  · rw [if_pos h1, if_pos h1]; rfl
  rw [if_neg h1, if_neg h1]
  by_cases h2 : (!hasParty s p) = true
  · rw [if_pos h2, if_pos h2]; rfl
  rw [if_neg h2, if_neg h2]; rfl
theorem ccode_split (s : State) (d c n : Int) (f : State → Nat → Nat → Answer) : onCompany s d c n f = if ccode s d c n ≠ 0 then [ccode s d c n] else f (knownAfter s n.toNat) d.toNat c.toNat := by
  unfold onCompany ccode pcode
  by_cases h1 : (!(isNumber d && isNumber c && isKnowledge s n)) = true
  · rw [if_pos h1, if_pos h1]; rfl
  rw [if_neg h1, if_neg h1]
  by_cases h2 : (!hasParty s c) = true
  · rw [if_pos h2, if_pos h2]; rfl
  rw [if_neg h2, if_neg h2]
  by_cases h3 : (!isCompany s c.toNat) = true
  · rw [if_pos h3, if_pos h3]; rfl
  rw [if_neg h3, if_neg h3]; rfl
theorem bcode_split (s : State) (p c : Int) (x : Answer) : (if p = c then [-2] else if (!(hasParty s p && hasParty s c)) = true then [-3] else if (!isCompany s c.toNat) = true then [-4] else x) = if bcode s p c ≠ 0 then [bcode s p c] else x := by
  unfold bcode
  by_cases h1 : p = c
  · rw [if_pos h1, if_pos h1]; rfl
  rw [if_neg h1, if_neg h1]
  by_cases h2 : (!(hasParty s p && hasParty s c)) = true
  · rw [if_pos h2, if_pos h2]; rfl
  rw [if_neg h2, if_neg h2]
  by_cases h3 : (!isCompany s c.toNat) = true
  · rw [if_pos h3, if_pos h3]; rfl
  rw [if_neg h3, if_neg h3]; rfl
theorem pdcode_split (s : State) (d p c n : Int) (f : State → Nat → Nat → Nat → Answer) : onBoth s d p c n f = if pdcode s d p c n ≠ 0 then [pdcode s d p c n] else f (knownAfter s n.toNat) d.toNat p.toNat c.toNat := by
  unfold onBoth
  rw [bcode_split]
  by_cases h1 : (!(isNumber d && isNumber p && isNumber c && isKnowledge s n)) = true
  · have e : pdcode s d p c n = -1 := by
      unfold pdcode prcode
      by_cases hd : (!isNumber d) = true
      · rw [if_pos hd]
      · rw [if_neg hd, if_pos]
        rw [Bool.not_eq_true, Bool.not_eq_false'] at hd
        rw [hd, Bool.true_and] at h1
        exact h1
    rw [if_pos h1, e]; rfl
  · have e : pdcode s d p c n = bcode s p c := by
      unfold pdcode prcode
      rw [Bool.not_eq_true, Bool.not_eq_false'] at h1
      rw [Bool.and_eq_true, Bool.and_eq_true, Bool.and_eq_true] at h1
      rw [if_neg (by rw [h1.1.1.1]; decide), if_neg (by rw [h1.1.1.2, h1.1.2, h1.2]; decide)]
    rw [if_neg h1, e]
theorem prcode_split (s : State) (p c n : Int) (f : State → Nat → Nat → Nat → Answer) : onBoth s 0 p c n f = if prcode s p c n ≠ 0 then [prcode s p c n] else f (knownAfter s n.toNat) 0 p.toNat c.toNat := by
  rw [pdcode_split]
  have e : pdcode s 0 p c n = prcode s p c n := if_neg (by decide)
  rw [e]; rfl
structure BothOk (s : State) (p c : Int) : Prop where
  p0 : p < (s.parties.length : Int)
  c1 : c < (s.parties.length : Int)
  ne : p ≠ c
  comp : s.parties[c.toNat]? = some true
theorem bcode_0 {s : State} {p c : Int} (h0 : 0 ≤ c) (h : bcode s p c = 0) : BothOk s p c := by
  unfold bcode at h
  split at h
  · cases h
  · split at h
    · cases h
    · split at h
      · cases h
      · rename_i h2 h3 h5
        rw [Bool.not_eq_true, Bool.not_eq_false'] at h3 h5
        rw [Bool.and_eq_true] at h3
        have b := has_lt h3.2
        exact ⟨has_lt h3.1, b, h2, by rw [comp_at (by omega), h5]⟩
theorem prcode_0 {s : State} {p c n : Int} (h : prcode s p c n = 0) : BothOk s p c ∧ 0 ≤ p ∧ 0 ≤ c ∧ 0 ≤ n ∧ n ≤ (s.records.length : Int) := by
  unfold prcode at h
  split at h
  · cases h
  · rename_i h1
    rw [Bool.not_eq_true, Bool.not_eq_false', Bool.and_eq_true, Bool.and_eq_true] at h1
    have a := num_nn h1.1.1
    have b := num_nn h1.1.2
    have e := h1.2
    unfold isKnowledge within at e
    simp at e
    exact ⟨bcode_0 b.1 h, a.1, b.1, e⟩
theorem pdcode_0 {s : State} {d p c n : Int} (h : pdcode s d p c n = 0) : (0 ≤ d ∧ d ≤ 9999) ∧ prcode s p c n = 0 := by
  unfold pdcode at h
  split at h
  · cases h
  · rename_i h1
    rw [Bool.not_eq_true, Bool.not_eq_false'] at h1
    exact ⟨num_nn h1, h⟩
theorem ccode_0 {s : State} {d c n : Int} (h : ccode s d c n = 0) : pcode s d c n = 0 ∧ s.parties[c.toNat]? = some true := by
  unfold ccode at h
  split at h
  · rename_i h1; exact absurd h h1
  · split at h
    · cases h
    · rename_i h1 h2
      rw [Bool.not_eq_true, Bool.not_eq_false'] at h2
      have hz : pcode s d c n = 0 := Classical.byContradiction h1
      have := (pcode_0 hz).1
      exact ⟨hz, by rw [comp_at (by omega), h2]⟩
end Cr
namespace Cr
open Valdgg

/-! ### answers of questions, as the program makes them -/
def tb (s : State) (d n : Nat) : Table := tabOf s.parties.length (liveOf (s.records.take n)) d
def gh (s : State) (d n p c : Nat) : Int := hf (liveOf (s.records.take n)) d p c
def pr (g : Nat → Int) (l : List Nat) : List Int := flat2 ((l.map fun p => (p, g p)).filter fun z => z.2 != 0)
theorem pr_snoc (g : Nat → Int) (l : List Nat) (a : Nat) : pr g (l ++ [a]) = pr g l ++ (if g a = 0 then [] else [(a : Int), g a]) := by
  unfold pr
  rw [List.map_append, List.filter_append, flat2_app]
  congr 1
  by_cases h : g a = 0
  · rw [if_pos h]; simp [h, flat2]
  · rw [if_neg h]; simp [h, flat2]
theorem pr_len (g : Nat → Int) (l : List Nat) : (pr g l).length = 2 * ((l.map fun p => (p, g p)).filter fun z => z.2 != 0).length := flat2_len _
theorem pr_le (g : Nat → Int) (l : List Nat) : (pr g l).length ≤ 2 * l.length := by
  rw [pr_len]
  have := List.length_filter_le (fun z : Nat × Int => z.2 != 0) (l.map fun p => (p, g p))
  rw [List.length_map] at this
  omega
theorem pr_half (g : Nat → Int) (l : List Nat) : (((pr g l).length : Nat) : Int) / 2 = ((((l.map fun p => (p, g p)).filter fun z => z.2 != 0).length : Nat) : Int) := by
  rw [pr_len]; exact half _
/-- what is nothing elsewhere can be asked of the companies alone -/
theorem pr_comps {g : Nat → Int} {ps : List Bool} (h : ∀ c, ps[c]? ≠ some true → g c = 0) : pr g (List.range ps.length) = pr g (comps ps) := by
  unfold pr comps
  congr 1
  rw [List.filter_map, List.filter_map, List.filter_filter]
  congr 1
  apply List.filter_congr
  intro c hc
  have hc := List.mem_range.mp hc
  show (g c != 0) = ((g c != 0) && (ps[c]?).getD false)
  by_cases q : ps[c]? = some true
  · rw [q]; simp
  · rw [h c q]; simp
def holdP (s : State) (d c n : Nat) : List Int := ([0, (((pr (fun p => gh s d n p c) (List.range s.parties.length)).length : Nat) : Int) / 2] ++ pr (fun p => gh s d n p c) (List.range s.parties.length)) ++ [100 - heldIn (tb s d n) (List.range (tb s d n).length) c]
theorem holders_is (s : State) (d c n : Int) : answerOf s (.holders d c n) = if ccode s d c n ≠ 0 then [ccode s d c n] else holdP s d.toNat c.toNat n.toNat := by
  rw [show answerOf s (.holders d c n) = onCompany s d c n (fun t d c => pairsRow (holdersOf t d c) ++ [freeFloat t d c]) from rfl, ccode_split]
  congr 1
  unfold holdP
  rw [pr_half, tb, tab_len]
  show pairsRow (holdersOf _ _ _) ++ _ = _
  rw [pairsRow_is]
  have e : holdersOf (knownAfter s n.toNat) d.toNat c.toNat = ((List.range s.parties.length).map fun p => (p, gh s d.toNat n.toNat p c.toNat)).filter fun z => z.2 != 0 := by
    unfold holdersOf allParties gh
    congr 1
    apply List.map_congr_left
    intro p _
    rw [hf_holding]; rfl
  rw [e]
  rfl
def portP (s : State) (d o n : Nat) : List Int := [0, (((pr (fun c => gh s d n o c) (List.range s.parties.length)).length : Nat) : Int) / 2] ++ pr (fun c => gh s d n o c) (List.range s.parties.length)
theorem portfolio_is {s : State} (w : WF s) (d o n : Int) : answerOf s (.portfolio d o n) = if pcode s d o n ≠ 0 then [pcode s d o n] else portP s d.toNat o.toNat n.toNat := by
  rw [show answerOf s (.portfolio d o n) = onParty s d o n (fun t d p => pairsRow (portfolioOf t d p)) from rfl, pcode_split]
  congr 1
  unfold portP
  have ec : pr (fun c => gh s d.toNat n.toNat o.toNat c) (List.range s.parties.length) = pr (fun c => gh s d.toNat n.toNat o.toNat c) (comps s.parties) := pr_comps fun c hc => hf_zero (w.inP n.toNat) hc
  rw [ec, pr_half, pairsRow_is]
  have e : portfolioOf (knownAfter s n.toNat) d.toNat o.toNat = ((comps s.parties).map fun c => (c, gh s d.toNat n.toNat o.toNat c)).filter fun z => z.2 != 0 := by
    unfold portfolioOf gh
    show List.filter _ (List.map _ (comps s.parties)) = _
    congr 1
    apply List.map_congr_left
    intro p _
    rw [hf_holding]; rfl
  rw [e]
  rfl
/-! restated -/
def d4 (f g : Nat → Nat → Int) (o : Nat) (l : List Nat) : List Int := l.flatMap fun c => if f o c = g o c then [] else [(o : Int), (c : Int), f o c, g o c]
def d4a (f g : Nat → Nat → Int) (l cs : List Nat) : List Int := l.flatMap fun o => d4 f g o cs
theorem d4_snoc (f g : Nat → Nat → Int) (o : Nat) (l : List Nat) (c : Nat) : d4 f g o (l ++ [c]) = d4 f g o l ++ if f o c = g o c then [] else [(o : Int), (c : Int), f o c, g o c] := by
  unfold d4
  rw [List.flatMap_append]; simp
theorem d4a_snoc (f g : Nat → Nat → Int) (cs l : List Nat) (o : Nat) : d4a f g (l ++ [o]) cs = d4a f g l cs ++ d4 f g o cs := by
  unfold d4a
  rw [List.flatMap_append]; simp
theorem d4_le (f g : Nat → Nat → Int) (o : Nat) : ∀ l : List Nat, (d4 f g o l).length ≤ 4 * l.length
  | [] => by simp [d4]
  | c :: l => by
    have := d4_le f g o l
    unfold d4 at this ⊢
    rw [List.flatMap_cons, List.length_append, List.length_cons]
    by_cases h : f o c = g o c
    · rw [if_pos h]; simp only [List.length_nil]; omega
    · rw [if_neg h]; simp only [List.length_cons, List.length_nil]; omega
theorem d4a_le (f g : Nat → Nat → Int) (cs : List Nat) : ∀ l : List Nat, (d4a f g l cs).length ≤ 4 * cs.length * l.length
  | [] => by simp [d4a]
  | o :: l => by
    have := d4a_le f g cs l
    have h2 := d4_le f g o cs
    unfold d4a at this ⊢
    rw [List.flatMap_cons, List.length_append, List.length_cons, Nat.mul_add]
    omega
theorem d4_comps {f g : Nat → Nat → Int} {ps : List Bool} (hf : ∀ o c, ps[c]? ≠ some true → f o c = 0) (hg : ∀ o c, ps[c]? ≠ some true → g o c = 0) (o : Nat) : d4 f g o (List.range ps.length) = d4 f g o (comps ps) := by
  unfold comps
  generalize List.range ps.length = l
  induction l with
  | nil => rfl
  | cons c l ih =>
    rw [List.filter_cons]
    have e : ∀ l', d4 f g o (c :: l') = (if f o c = g o c then [] else [(o : Int), (c : Int), f o c, g o c]) ++ d4 f g o l' := fun l' => by
      unfold d4; rw [List.flatMap_cons]
    by_cases q : ps[c]? = some true
    · rw [q]
      show _ = d4 f g o (c :: _)
      rw [e, e, ih]
    · have : (ps[c]?).getD false = false := by
        cases z : ps[c]? with
        | none => rfl
        | some b =>
          cases b with
          | false => rfl
          | true => exact absurd z q
      rw [this, if_neg Bool.false_ne_true, ← ih, e, hf o c q, hg o c q, if_pos rfl]; rfl
def flat4 (l : List (Nat × Nat × Int × Int)) : List Int := l.flatMap fun z => [(z.1 : Int), (z.2.1 : Int), z.2.2.1, z.2.2.2]
theorem flat4_len (l : List (Nat × Nat × Int × Int)) : (flat4 l).length = 4 * l.length := by
  induction l with
  | nil => rfl
  | cons x r ih =>
    show ([_, _, _, _] ++ flat4 r).length = _
    rw [List.length_append, ih, List.length_cons]
    simp; omega
theorem d4_flat (f g : Nat → Nat → Int) (o : Nat) (cs : List Nat) : d4 f g o cs = flat4 ((cs.map fun c => (o, c, f o c, g o c)).filter fun z => z.2.2.1 != z.2.2.2) := by
  induction cs with
  | nil => rfl
  | cons c l ih =>
    rw [List.map_cons, List.filter_cons]
    show d4 f g o (c :: l) = flat4 (if (f o c != g o c) = true then _ else _)
    have e : d4 f g o (c :: l) = (if f o c = g o c then [] else [(o : Int), (c : Int), f o c, g o c]) ++ d4 f g o l := by
      unfold d4; rw [List.flatMap_cons]
    rw [e, ih]
    by_cases h : f o c = g o c
    · rw [if_pos h, if_neg (by simp [h])]; rfl
    · rw [if_neg h, if_pos (by simp [h])]; rfl
theorem d4a_flat (f g : Nat → Nat → Int) (cs : List Nat) : ∀ os : List Nat, d4a f g os cs = flat4 ((os.flatMap fun o => cs.map fun c => (o, c, f o c, g o c)).filter fun z => z.2.2.1 != z.2.2.2)
  | [] => rfl
  | o :: os => by
    have e : d4a f g (o :: os) cs = d4 f g o cs ++ d4a f g os cs := by unfold d4a; rw [List.flatMap_cons]
    rw [e, d4_flat, d4a_flat f g cs os, List.flatMap_cons, List.filter_append]
    show flat4 _ ++ flat4 _ = flat4 (_ ++ _)
    exact List.flatMap_append.symm
def rest0 (s : State) (d n1 n2 : Nat) : List Int := d4a (gh s d n1) (gh s d n2) (List.range s.parties.length) (List.range s.parties.length)
theorem restated_is {s : State} (w : WF s) (d n1 n2 : Int) : answerOf s (.restated d n1 n2) = if (!(isNumber d && isKnowledge s n1 && isKnowledge s n2)) = true then [-1] else [0, ((rest0 s d.toNat n1.toNat n2.toNat).length : Int) / 4] ++ rest0 s d.toNat n1.toNat n2.toNat := by
  show (if _ then _ else restatedRow s d.toNat n1.toNat n2.toNat) = _
  congr 1
  have e : rest0 s d.toNat n1.toNat n2.toNat = flat4 (restatedHoldings (knownAfter s n1.toNat) (knownAfter s n2.toNat) d.toNat) := by
    have e1 : rest0 s d.toNat n1.toNat n2.toNat = d4a (gh s d.toNat n1.toNat) (gh s d.toNat n2.toNat) (List.range s.parties.length) (comps s.parties) := by
      unfold rest0 d4a
      have e2 : (fun o => d4 (gh s d.toNat n1.toNat) (gh s d.toNat n2.toNat) o (List.range s.parties.length)) = fun o => d4 (gh s d.toNat n1.toNat) (gh s d.toNat n2.toNat) o (comps s.parties) := funext fun o => d4_comps (fun o c h => hf_zero (w.inP _) h) (fun o c h => hf_zero (w.inP _) h) o
      rw [e2]
    rw [e1, d4a_flat]
    unfold restatedHoldings
    congr 2
    show _ = (List.range s.parties.length).flatMap fun p => (comps s.parties).map fun c => (p, c, _, _)
    congr 1
    funext o
    apply List.map_congr_left
    intro c _
    rw [hf_holding, hf_holding]; rfl
  unfold restatedRow
  rw [e, flat4_len]
  have : ((4 * (restatedHoldings (knownAfter s n1.toNat) (knownAfter s n2.toNat) d.toNat).length : Nat) : Int) / 4 = ((restatedHoldings (knownAfter s n1.toNat) (knownAfter s n2.toNat) d.toNat).length : Int) := by omega
  rw [this]; rfl
/-! status -/
theorem filter_not_len {α : Type} (f : α → Bool) : ∀ l : List α, (l.filter fun x => !f x).length + (l.filter f).length = l.length
  | [] => rfl
  | x :: r => by
    have := filter_not_len f r
    rw [List.filter_cons, List.filter_cons]
    cases f x <;> simp <;> omega
def acqs (s : State) : Nat := ((liveOf s.records).filter fun t => decide (0 < t.percent)).length
theorem status_is {s : State} (w : WF s) : answerOf s .status = [0, (s.parties.length : Int) - ((comps s.parties).length : Int), ((comps s.parties).length : Int), (s.records.length : Int), (acqs s : Int), ((liveOf s.records).length : Int) - (acqs s : Int)] := by
  show statusRow s = _
  unfold statusRow nats
  rw [live_eq]
  have e1 : (investors s).length + (comps s.parties).length = s.parties.length := by
    have := filter_not_len (isCompany s) (List.range s.parties.length)
    rw [List.length_range] at this
    exact this
  have e2 : (liveOf s.records).filter (fun t => decide (t.percent < 0)) = (liveOf s.records).filter fun t => !decide (0 < t.percent) := by
    apply List.filter_congr
    intro t ht
    have := (w.tr _ _ _ _ (live_mem ht)).2.2.2.1
    rw [Bool.eq_iff_iff]
    simp
    omega
  have e3 := filter_not_len (fun t : Trade => decide (0 < t.percent)) (liveOf s.records)
  rw [e2]
  show 0 :: ([(investors s).length, (comps s.parties).length, s.records.length, acqs s, _].map fun n : Nat => (n : Int)) = _
  simp only [List.map_cons, List.map_nil]
  have a1 : ((investors s).length : Int) = (s.parties.length : Int) - ((comps s.parties).length : Int) := by omega
  have a2 : (((liveOf s.records).filter fun t => !decide (0 < t.percent)).length : Int) = ((liveOf s.records).length : Int) - (acqs s : Int) := by unfold acqs; omega
  rw [a1, a2]
/-! control -/
theorem controls_is (s : State) (d p n : Int) : answerOf s (.controls d p n) = if pcode s d p n ≠ 0 then [pcode s d p n] else [0, ((ctlBy s.parties (tb s d.toNat n.toNat) p.toNat).length : Int)] ++ (ctlBy s.parties (tb s d.toNat n.toNat) p.toNat).map fun n : Nat => (n : Int) := by
  rw [show answerOf s (.controls d p n) = onParty s d p n (fun t d p => listRow (controlledCompanies t d p)) from rfl, pcode_split]
  congr 1
  show listRow (controlledCompanies (knownAfter s n.toNat) d.toNat p.toNat) = _
  rw [controlled_is]; rfl
def flat3 (l : List (Nat × Nat × Int)) : List Int := l.flatMap fun z => [(z.1 : Int), (z.2.1 : Int), z.2.2]
theorem flat3_snoc (l : List (Nat × Nat × Int)) (z : Nat × Nat × Int) : flat3 (l ++ [z]) = flat3 l ++ [(z.1 : Int), (z.2.1 : Int), z.2.2] := by
  unfold flat3
  rw [List.flatMap_append]; simp
theorem flat3_len (l : List (Nat × Nat × Int)) : (flat3 l).length = 3 * l.length := by
  induction l with
  | nil => rfl
  | cons x r ih =>
    show ([_, _, _] ++ flat3 r).length = _
    rw [List.length_append, ih, List.length_cons]
    simp; omega
theorem order_answer (s : State) (d p n : Int) : answerOf s (.controlOrder d p n) = if pcode s d p n ≠ 0 then [pcode s d p n] else [0, ((ctl s.parties (tb s d.toNat n.toNat) p.toNat).length : Int)] ++ flat3 (ctl s.parties (tb s d.toNat n.toNat) p.toNat) := by
  show onParty s d p n _ = _
  rw [pcode_split]
  congr 1
  unfold orderRow
  rw [order_is]; rfl
theorem controls_mem (s : State) (d p c : Nat) : controls s d p c = decide (c ∈ ctlBy s.parties (tabOf s.parties.length (liveOf s.records) d) p) := by
  rw [Bool.eq_iff_iff, decide_eq_true_eq, mem_ctlBy]
  unfold controls
  rw [order_is, List.any_eq_true, List.mem_map]
  constructor
  · rintro ⟨z, hz, e⟩
    exact ⟨z, hz, beq_iff_eq.mp e⟩
  · rintro ⟨z, hz, e⟩
    exact ⟨z, hz, beq_iff_eq.mpr e⟩
def ctrP (s : State) (d c n : Nat) (l : List Nat) : List Nat := l.filter fun p => decide (c ∈ ctlBy s.parties (tb s d n) p)
theorem controllers_is (s : State) (d c n : Int) : answerOf s (.controllers d c n) = if ccode s d c n ≠ 0 then [ccode s d c n] else [0, ((ctrP s d.toNat c.toNat n.toNat (List.range s.parties.length)).length : Int)] ++ (ctrP s d.toNat c.toNat n.toNat (List.range s.parties.length)).map fun n : Nat => (n : Int) := by
  rw [show answerOf s (.controllers d c n) = onCompany s d c n (fun t d c => listRow ((allParties t).filter fun p => Valdgg.controls t d p c)) from rfl, ccode_split]
  congr 1
  have e : (allParties (knownAfter s n.toNat)).filter (fun p => controls (knownAfter s n.toNat) d.toNat p c.toNat) = ctrP s d.toNat c.toNat n.toNat (List.range s.parties.length) := by
    unfold ctrP
    show List.filter _ (List.range s.parties.length) = _
    apply List.filter_congr
    intro p _
    rw [controls_mem]; rfl
  show listRow _ = _
  rw [e]; rfl
/-! changes of control -/
def ctlD (ps : List Bool) (ts : List Trade) (p c d : Nat) : Bool := decide (c ∈ ctlBy ps (tabOf ps.length ts d) p)
def chs (ps : List Bool) (ts : List Trade) (p c : Nat) : Bool → List Nat → List (Nat × Bool)
  | _, [] => []
  | b, d :: r => if ctlD ps ts p c d == b then chs ps ts p c (ctlD ps ts p c d) r else (d, ctlD ps ts p c d) :: chs ps ts p c (ctlD ps ts p c d) r
def lastB (ps : List Bool) (ts : List Trade) (p c : Nat) : Bool → List Nat → Bool
  | b, [] => b
  | _, d :: r => lastB ps ts p c (ctlD ps ts p c d) r
theorem lastB_snoc (ps : List Bool) (ts : List Trade) (p c d : Nat) : ∀ (l : List Nat) (b : Bool), lastB ps ts p c b (l ++ [d]) = ctlD ps ts p c d
  | [], _ => rfl
  | _ :: l, b => lastB_snoc ps ts p c d l _
theorem chs_snoc (ps : List Bool) (ts : List Trade) (p c d : Nat) : ∀ (l : List Nat) (b : Bool), chs ps ts p c b (l ++ [d]) = chs ps ts p c b l ++ if ctlD ps ts p c d == lastB ps ts p c b l then [] else [(d, ctlD ps ts p c d)]
  | [], b => by
    show (if _ then _ else _) = _
    rfl
  | x :: l, b => by
    show (if ctlD ps ts p c x == b then chs ps ts p c (ctlD ps ts p c x) (l ++ [d]) else _ :: chs ps ts p c (ctlD ps ts p c x) (l ++ [d])) = (if ctlD ps ts p c x == b then chs ps ts p c (ctlD ps ts p c x) l else _ :: chs ps ts p c (ctlD ps ts p c x) l) ++ _
    rw [chs_snoc ps ts p c d l]
    have e : lastB ps ts p c b (x :: l) = lastB ps ts p c (ctlD ps ts p c x) l := rfl
    rw [e]
    split <;> rfl
theorem chs_is (s : State) (p c : Nat) : ∀ (l : List Nat) (b : Bool), controlChanges s p c b l = chs s.parties (liveOf s.records) p c b l
  | [], _ => rfl
  | d :: r, b => by
    have e : controls s d p c = ctlD s.parties (liveOf s.records) p c d := controls_mem s d p c
    unfold controlChanges chs
    dsimp only
    rw [e, chs_is s p c r]
def bi (b : Bool) : Int := if b then 1 else 0
def flatB (l : List (Nat × Bool)) : List Int := l.flatMap fun z => [(z.1 : Int), bi z.2]
theorem flatB_snoc (l : List (Nat × Bool)) (z : Nat × Bool) : flatB (l ++ [z]) = flatB l ++ [(z.1 : Int), bi z.2] := by
  unfold flatB
  rw [List.flatMap_append]; simp
theorem flatB_len (l : List (Nat × Bool)) : (flatB l).length = 2 * l.length := by
  induction l with
  | nil => rfl
  | cons x r ih =>
    show ([_, _] ++ flatB r).length = _
    rw [List.length_append, ih, List.length_cons]
    simp; omega
theorem chs_len (ps : List Bool) (ts : List Trade) (p c : Nat) : ∀ (l : List Nat) (b : Bool), (chs ps ts p c b l).length ≤ l.length
  | [], _ => Nat.le_refl _
  | d :: r, b => by
    have := chs_len ps ts p c r (ctlD ps ts p c d)
    unfold chs
    split <;> simp only [List.length_cons] <;> omega
def chgP (ps : List Bool) (ts : List Trade) (p c : Nat) : List Int := flatB (chs ps ts p c false (daysOf ts))
theorem days_answer (s : State) (p c n : Int) : answerOf s (.controlDays p c n) = if prcode s p c n ≠ 0 then [prcode s p c n] else [0, ((chgP s.parties (liveOf (s.records.take n.toNat)) p.toNat c.toNat).length : Int) / 2] ++ chgP s.parties (liveOf (s.records.take n.toNat)) p.toNat c.toNat := by
  rw [show answerOf s (.controlDays p c n) = onBoth s 0 p c n (fun t _ p c => daysRow t p c) from rfl, prcode_split]
  congr 1
  show daysRow (knownAfter s n.toNat) p.toNat c.toNat = _
  unfold daysRow chgP
  dsimp only
  rw [chs_is, sortedDays_is, flatB_len, half]; rfl
/-! method -/
def mtP (s : State) (d p c n : Nat) : List Int := if c ∈ ctlBy s.parties (tb s d n) p then [0, 2, heldIn (tb s d n) (p :: ctlBy s.parties (tb s d n) p) c] else if (20 : Int) ≤ heldIn (tb s d n) (p :: ctlBy s.parties (tb s d n) p) c then [0, 1, heldIn (tb s d n) (p :: ctlBy s.parties (tb s d n) p) c] else [0, 0, heldIn (tb s d n) (p :: ctlBy s.parties (tb s d n) p) c]
theorem perm_sum {l m : List Int} (e : l.Perm m) : l.sum = m.sum := by
  induction e with
  | nil => rfl
  | cons x _ ih => rw [List.sum_cons, List.sum_cons, ih]
  | swap x y l => rw [List.sum_cons, List.sum_cons, List.sum_cons, List.sum_cons]; omega
  | trans _ _ h1 h2 => exact h1.trans h2
theorem heldIn_perm (h : Table) {l m : List Nat} (e : l.Perm m) (c : Nat) : heldIn h l c = heldIn h m c := by
  rw [heldIn_sum, heldIn_sum]
  exact perm_sum (e.map _)
theorem method_is (s : State) (d p c n : Int) : answerOf s (.method d p c n) = if pdcode s d p c n ≠ 0 then [pdcode s d p c n] else mtP s d.toNat p.toNat c.toNat n.toNat := by
  show onBoth s d p c n _ = _
  rw [pdcode_split]
  congr 1
  unfold methodRow mtP controlledSet heldBy
  dsimp only
  rw [order_is, controls_mem]
  show [0, if decide (c.toNat ∈ ctlBy s.parties (tb s d.toNat n.toNat) p.toNat) = true then (2 : Int) else if significant ≤ heldIn (tb s d.toNat n.toNat) (p.toNat :: (ctl s.parties (tb s d.toNat n.toNat) p.toNat).map fun z => z.1) c.toNat then 1 else 0, heldIn (tb s d.toNat n.toNat) (p.toNat :: (ctl s.parties (tb s d.toNat n.toNat) p.toNat).map fun z => z.1) c.toNat] = _
  rw [heldIn_perm _ ((ctlBy_perm s.parties (tb s d.toNat n.toNat) p.toNat).symm.cons p.toNat) c.toNat]
  by_cases h1 : c.toNat ∈ ctlBy s.parties (tb s d.toNat n.toNat) p.toNat
  · rw [if_pos (decide_eq_true h1), if_pos h1]
  · rw [if_neg (by simp [h1]), if_neg h1]
    by_cases h2 : (20 : Int) ≤ heldIn (tb s d.toNat n.toNat) (p.toNat :: ctlBy s.parties (tb s d.toNat n.toNat) p.toNat) c.toNat
    · rw [if_pos h2, if_pos (show significant ≤ _ from h2)]
    · rw [if_neg h2, if_neg (show ¬ significant ≤ _ from h2)]
/-! preview -/
def np1 (ps : List Bool) (b a : Table) (p : Nat) (l : List Nat) : List Int := l.flatMap fun c => if c ∈ ctlBy ps b p then [] else [(p : Int), (c : Int)]
def newP (ps : List Bool) (b a : Table) (l : List Nat) : List Int := l.flatMap fun p => np1 ps b a p (ctlBy ps a p)
theorem np1_snoc (ps : List Bool) (b a : Table) (p : Nat) (l : List Nat) (c : Nat) : np1 ps b a p (l ++ [c]) = np1 ps b a p l ++ if c ∈ ctlBy ps b p then [] else [(p : Int), (c : Int)] := by
  unfold np1
  rw [List.flatMap_append]; simp
theorem newP_snoc (ps : List Bool) (b a : Table) (l : List Nat) (p : Nat) : newP ps b a (l ++ [p]) = newP ps b a l ++ np1 ps b a p (ctlBy ps a p) := by
  unfold newP
  rw [List.flatMap_append]; simp
theorem np1_le (ps : List Bool) (b a : Table) (p : Nat) : ∀ l : List Nat, (np1 ps b a p l).length ≤ 2 * l.length
  | [] => Nat.le_refl _
  | c :: l => by
    have := np1_le ps b a p l
    unfold np1 at this ⊢
    rw [List.flatMap_cons, List.length_append, List.length_cons]
    by_cases h : c ∈ ctlBy ps b p
    · rw [if_pos h]; simp only [List.length_nil]; omega
    · rw [if_neg h]; simp only [List.length_cons, List.length_nil]; omega
theorem ctlBy_len (ps : List Bool) (h : Table) (p : Nat) : (ctlBy ps h p).length ≤ ps.length := Nat.le_trans (List.length_filter_le _ _) (comps_len ps)
theorem newP_le (ps : List Bool) (b a : Table) : ∀ l : List Nat, (newP ps b a l).length ≤ 2 * ps.length * l.length
  | [] => Nat.zero_le _
  | p :: l => by
    have h1 := newP_le ps b a l
    have h2 := np1_le ps b a p (ctlBy ps a p)
    have h3 := ctlBy_len ps a p
    unfold newP at h1 ⊢
    rw [List.flatMap_cons, List.length_append, List.length_cons, Nat.mul_add]
    omega
def flatN (l : List (Nat × Nat)) : List Int := l.flatMap fun z => [(z.1 : Int), (z.2 : Int)]
theorem flatN_len (l : List (Nat × Nat)) : (flatN l).length = 2 * l.length := by
  induction l with
  | nil => rfl
  | cons x r ih =>
    show ([_, _] ++ flatN r).length = _
    rw [List.length_append, ih, List.length_cons]
    simp; omega
theorem pairs_mem (s : State) (d p c : Nat) : (p, c) ∈ controlPairs s d ↔ p < s.parties.length ∧ c ∈ ctlBy s.parties (tabOf s.parties.length (liveOf s.records) d) p := by
  unfold controlPairs allParties
  rw [List.mem_flatMap]
  constructor
  · rintro ⟨q, hq, h⟩
    obtain ⟨x, hx, e⟩ := List.mem_map.mp h
    rw [controlled_is] at hx
    cases e
    exact ⟨List.mem_range.mp hq, hx⟩
  · rintro ⟨h1, h2⟩
    exact ⟨p, List.mem_range.mpr h1, List.mem_map.mpr ⟨c, by rw [controlled_is]; exact h2, rfl⟩⟩
theorem newP_is (s t : State) (hp : t.parties = s.parties) (d : Nat) : flatN ((controlPairs t d).filter fun z => !(controlPairs s d).contains z) = newP s.parties (tabOf s.parties.length (liveOf s.records) d) (tabOf s.parties.length (liveOf t.records) d) (List.range s.parties.length) := by
  have key : ∀ l : List Nat, (∀ p ∈ l, p < s.parties.length) → flatN ((l.flatMap fun p => (controlledCompanies t d p).map fun c => (p, c)).filter fun z => !(controlPairs s d).contains z) = newP s.parties (tabOf s.parties.length (liveOf s.records) d) (tabOf s.parties.length (liveOf t.records) d) l := by
    intro l
    induction l with
    | nil => intro _; rfl
    | cons p l ih =>
      intro hl
      rw [List.flatMap_cons, List.filter_append]
      have e : newP s.parties (tabOf s.parties.length (liveOf s.records) d) (tabOf s.parties.length (liveOf t.records) d) (p :: l) = np1 s.parties (tabOf s.parties.length (liveOf s.records) d) (tabOf s.parties.length (liveOf t.records) d) p (ctlBy s.parties (tabOf s.parties.length (liveOf t.records) d) p) ++ newP s.parties (tabOf s.parties.length (liveOf s.records) d) (tabOf s.parties.length (liveOf t.records) d) l := by
        unfold newP; rw [List.flatMap_cons]
      rw [e, ← ih fun q hq => hl q (List.mem_cons_of_mem _ hq)]
      have e2 : flatN ((List.map (fun c => (p, c)) (controlledCompanies t d p)).filter fun z => !(controlPairs s d).contains z) = np1 s.parties (tabOf s.parties.length (liveOf s.records) d) (tabOf s.parties.length (liveOf t.records) d) p (ctlBy s.parties (tabOf s.parties.length (liveOf t.records) d) p) := by
        rw [controlled_is, hp]
        generalize ctlBy s.parties (tabOf s.parties.length (liveOf t.records) d) p = cs
        induction cs with
        | nil => rfl
        | cons c cs ihc =>
          rw [List.map_cons, List.filter_cons]
          have en : ∀ cs', np1 s.parties (tabOf s.parties.length (liveOf s.records) d) (tabOf s.parties.length (liveOf t.records) d) p (c :: cs') = (if c ∈ ctlBy s.parties (tabOf s.parties.length (liveOf s.records) d) p then [] else [(p : Int), (c : Int)]) ++ np1 s.parties (tabOf s.parties.length (liveOf s.records) d) (tabOf s.parties.length (liveOf t.records) d) p cs' := fun cs' => by
            unfold np1; rw [List.flatMap_cons]
          rw [en, ← ihc]
          have hm := pairs_mem s d p c
          by_cases q : c ∈ ctlBy s.parties (tabOf s.parties.length (liveOf s.records) d) p
          · have : (controlPairs s d).contains (p, c) = true := List.contains_iff_mem.mpr (hm.mpr ⟨hl p List.mem_cons_self, q⟩)
            rw [if_pos q, this]; rfl
          · have : (controlPairs s d).contains (p, c) = false := by
              rw [Bool.eq_false_iff]
              intro z
              exact q (hm.mp (List.contains_iff_mem.mp z)).2
            rw [if_neg q, this]; rfl
      rw [← e2]
      exact List.flatMap_append
  have := key (List.range s.parties.length) fun p hp => List.mem_range.mp hp
  rw [← this]
  unfold controlPairs allParties
  rw [hp]
def prevP (s : State) (d o c p : Int) : List Int := newP s.parties (tabOf s.parties.length (liveOf s.records) d.toNat) (tabOf s.parties.length (liveOf s.records ++ [newT 0 d o c p]) d.toNat) (List.range s.parties.length)
theorem preview_is {s : State} (w : WF s) (d o c p : Int) : answerOf s (.previewAcquire d o c p) = if rcode s 0 d o c p ≠ 0 then [rcode s 0 d o c p] else [0, ((prevP s d o c p).length : Int) / 2] ++ prevP s d o c p := by
  show previewRow s d o c p = _
  unfold previewRow
  have e := traded_is w 0 d o c p
  rw [show sgn 0 = 1 from rfl] at e
  rw [e]
  by_cases h : rcode s 0 d o c p ≠ 0
  · rw [if_pos h, if_pos h]
  · rw [if_neg h, if_neg h]
    show 0 :: _ :: flatN _ = _
    have en := newP_is s (recorded s (newR 0 d o c p)) rfl d.toNat
    have hl : liveOf (recorded s (newR 0 d o c p)).records = liveOf s.records ++ [newT 0 d o c p] := live_snoc w.cn ..
    rw [hl] at en
    rw [en]
    have e2 := congrArg List.length en
    rw [flatN_len] at e2
    unfold prevP
    rw [← e2, half]; rfl
end Cr
namespace Cr
open Valdgg

/-! ### the program's elimination where every pivot lies in its place -/
def elimP (rows : Mat) (k : Nat) : Mat := (List.range k).foldl clearedP rows
theorem elim_succ (rows : Mat) (k : Nat) : elimP rows (k + 1) = clearedP (elimP rows k) k := by
  unfold elimP
  rw [List.range_succ, List.foldl_append]; rfl
theorem row_getD {rows : Mat} {n w i : Nat} (h : Shape n w rows) (hi : i < n) : ∃ r, rows[i]? = some r ∧ rows.getD i [] = r ∧ r.length = w := by
  obtain ⟨h1, h2⟩ := h
  have e : rows[i]? = some rows[i] := List.getElem?_eq_getElem (by omega)
  refine ⟨_, e, by rw [List.getD_eq_getElem?_getD, e]; rfl, ?_⟩
  have := h2 i hi
  rw [List.getD_eq_getElem?_getD, e] at this
  exact this
theorem cleared_step {n w k : Nat} {rows : Mat} (h : Shape n w rows) (hk : k < n) (hp : 0 < at2 rows k k) : Step k n (at2 rows) (at2 (clearedP rows k)) := by
  refine ⟨fun j => ?_, fun i hi ne => ?_⟩
  · unfold at2
    rw [cleared_get (by rw [h.1]; exact hk), if_pos rfl]
  · obtain ⟨g, hg, e⟩ := without_at (row := rows.getD i []) (base := rows.getD k []) (k := k) (by rw [h.2 i hi, h.2 k hk]) hp
    refine ⟨g, hg, fun j => ?_⟩
    unfold at2
    rw [cleared_get (by rw [h.1]; exact hi), if_neg ne]
    exact e j
theorem cleared_le {n w k b : Nat} {rows : Mat} (h : Shape n w rows) (hk : k < n) (hp : 0 < at2 rows k k) (hb : ∀ i j, (at2 rows i j).natAbs ≤ b) : ∀ i j, (at2 (clearedP rows k) i j).natAbs ≤ 2 * (b * b) := fun i j => by
  have hb1 : 1 ≤ b := by have := hb k k; omega
  have hbb : b ≤ b * b := Nat.le_mul_of_pos_left b hb1
  by_cases hi : i < n
  · have s := cleared_step h hk hp
    by_cases e : i = k
    · subst e
      rw [s.row]
      have := hb i j
      omega
    · obtain ⟨g, hg, q⟩ := s.other i hi e
      have q := congrArg Int.natAbs (q j)
      rw [Int.natAbs_mul] at q
      have t := Int.natAbs_sub_le (at2 rows k k * at2 rows i j) (at2 rows i k * at2 rows k j)
      rw [Int.natAbs_mul, Int.natAbs_mul] at t
      have t1 := Nat.mul_le_mul (hb k k) (hb i j)
      have t2 := Nat.mul_le_mul (hb i k) (hb k j)
      have t3 : (at2 (clearedP rows k) i j).natAbs ≤ g.natAbs * (at2 (clearedP rows k) i j).natAbs := Nat.le_mul_of_pos_left _ (by omega)
      omega
  · have : (clearedP rows k).getD i [] = [] := by
      rw [List.getD_eq_getElem?_getD, List.getElem?_eq_none]
      · rfl
      · rw [(cleared_shape h hk).1]; omega
    unfold at2
    rw [this]
    simp
def RL (n : Nat) (f : Nat → Nat → Int) : Mat := (List.range n).map fun i => (List.range (n + 1)).map fun j => f i j
theorem RL_shape (n : Nat) (f : Nat → Nat → Int) : Shape n (n + 1) (RL n f) := ⟨by simp [RL], fun i hi => by
  unfold RL
  rw [getD_map_range n _ i [] hi]; simp⟩
theorem RL_at {n : Nat} {f : Nat → Nat → Int} {i j : Nat} (hi : i < n) (hj : j < n + 1) : at2 (RL n f) i j = f i j := by
  unfold at2 RL
  rw [getD_map_range n _ i [] hi, getD_map_range (n + 1) _ j 0 hj]
theorem RL_le {n : Nat} {f : Nat → Nat → Int} {b : Nat} (h : ∀ i j, i < n → j < n + 1 → (f i j).natAbs ≤ b) (i j : Nat) : (at2 (RL n f) i j).natAbs ≤ b := by
  by_cases hi : i < n
  · by_cases hj : j < n + 1
    · rw [RL_at hi hj]; exact h i j hi hj
    · unfold at2 RL
      rw [getD_map_range n _ i [] hi, List.getD_eq_getElem?_getD, List.getElem?_eq_none (by simp; omega)]
      simp
  · unfold at2 RL
    have : ((List.range n).map fun i => (List.range (n + 1)).map fun j => f i j).getD i [] = [] := by
      rw [List.getD_eq_getElem?_getD, List.getElem?_eq_none (by simp; omega)]; rfl
    rw [this]; simp
def bd : Nat → Nat
  | 0 => 100
  | k + 1 => 2 * (bd k * bd k)
theorem bd_lt : ∀ k, bd k < 2 ^ (2 ^ (k + 3) - 1)
  | 0 => by decide
  | k + 1 => by
    have ih := bd_lt k
    have h1 : bd k * bd k < 2 ^ (2 ^ (k + 3) - 1) * 2 ^ (2 ^ (k + 3) - 1) := Nat.mul_lt_mul'' ih ih
    have h0 : 0 < 2 ^ (k + 3) := Nat.two_pow_pos _
    have e : 2 ^ (k + 1 + 3) - 1 = (2 ^ (k + 3) - 1 + (2 ^ (k + 3) - 1)) + 1 := by
      rw [show k + 1 + 3 = (k + 3) + 1 by omega, Nat.pow_succ]
      omega
    rw [e, Nat.pow_succ, Nat.pow_add]
    show 2 * (bd k * bd k) < _
    omega
theorem bd_mono (k : Nat) : 100 ≤ bd k := by
  induction k with
  | zero => exact Nat.le_refl _
  | succ k ih =>
    show 100 ≤ 2 * (bd k * bd k)
    have := Nat.mul_le_mul ih ih
    omega
/-- what holds behind k turns -/
structure Run (n : Nat) (f : Nat → Nat → Int) (k : Nat) : Prop where
  sh : Shape n (n + 1) (elimP (RL n f) k)
  mm : MM n k (at2 (elimP (RL n f) k))
  le : ∀ i j, (at2 (elimP (RL n f) k) i j).natAbs ≤ bd k
  rel : ∀ i, i < n → ∃ c : Rat, 0 < c ∧ ∀ j, j < n + 1 → ((at2 (elimP (RL n f) k) i j : Int) : Rat) = c * itR (fun i j => ((f i j : Int) : Rat)) k i j
  unit : ∀ i j, i < n → j < k → j < n → itR (fun i j => ((f i j : Int) : Rat)) k i j = if i = j then 1 else 0
theorem pos_fac {c r : Rat} (hc : 0 < c) (h : 0 < c * r) : 0 < r := by
  apply Classical.byContradiction
  intro z
  have z' : 0 ≤ -r := by grind
  have := Rat.mul_nonneg (Rat.le_of_lt hc) z'
  grind
theorem int_pos {a : Int} (h : 0 < a) : (0 : Rat) < (a : Rat) := by exact_mod_cast h
theorem div_pos' {a b : Rat} (ha : 0 < a) (hb : 0 < b) : 0 < a / b := by
  rw [Rat.div_def]
  exact Rat.mul_pos ha (Rat.inv_pos.mpr hb)
theorem run {n : Nat} {f : Nat → Nat → Int} (hm : MM n 0 (at2 (RL n f))) (hb : ∀ i j, i < n → j < n + 1 → (f i j).natAbs ≤ 100) : ∀ k, k ≤ n → Run n f k
  | 0, _ => ⟨RL_shape n f, hm, RL_le hb, fun i hi => ⟨1, by decide, fun j hj => by
      show ((at2 (RL n f) i j : Int) : Rat) = 1 * (f i j : Rat)
      rw [RL_at hi hj]; grind⟩, fun _ _ _ h => absurd h (Nat.not_lt_zero _)⟩
  | k + 1, hk => by
    obtain ⟨sh, mm, le, rel, un⟩ := run hm hb k (by omega)
    have hp := mm.pivot (by omega)
    have hkn : k < n := by omega
    have st := cleared_step sh hkn hp
    obtain ⟨ck, hck, ek⟩ := rel k hkn
    have hpr : (0 : Rat) < ((at2 (elimP (RL n f) k) k k : Int) : Rat) := int_pos hp
    have hR : (0 : Rat) < itR (fun i j => ((f i j : Int) : Rat)) k k k := by
      rw [ek k (by omega)] at hpr
      exact pos_fac hck hpr
    have hR0 : itR (fun i j => ((f i j : Int) : Rat)) k k k ≠ 0 := by grind
    refine ⟨?_, ?_, ?_, fun i hi => ?_, fun i j hi hj hjn => ?_⟩
    · rw [elim_succ]; exact cleared_shape sh hkn
    · rw [elim_succ]; exact mm.step hkn st
    · rw [elim_succ]; exact cleared_le sh hkn hp le
    · rw [elim_succ]
      by_cases e : i = k
      · subst e
        refine ⟨ck * itR (fun i j => ((f i j : Int) : Rat)) i i i, Rat.mul_pos hck hR, fun j hj => ?_⟩
        rw [st.row, ek j hj]
        show _ = _ * stepR i (itR _ i) i j
        unfold stepR
        rw [if_pos rfl]
        grind
      · obtain ⟨ci, hci, ei⟩ := rel i hi
        obtain ⟨g, hg, q⟩ := st.other i hi e
        have hgr : (0 : Rat) < (g : Rat) := int_pos hg
        refine ⟨ci * ck * itR (fun i j => ((f i j : Int) : Rat)) k k k / (g : Rat), div_pos' (Rat.mul_pos (Rat.mul_pos hci hck) hR) hgr, fun j hj => ?_⟩
        have q := congrArg (fun z : Int => (z : Rat)) (q j)
        rw [Rat.intCast_mul, Rat.intCast_sub, Rat.intCast_mul, Rat.intCast_mul, ek k (by omega), ek j hj, ei k (by omega), ei j hj] at q
        show _ = _ * stepR k (itR _ k) i j
        unfold stepR
        rw [if_neg e]
        have hg0 : (g : Rat) ≠ 0 := by grind
        grind
    · show stepR k (itR _ k) i j = _
      unfold stepR
      by_cases e : i = k
      · subst e
        rw [if_pos rfl]
        by_cases e2 : i = j
        · subst e2
          rw [if_pos rfl]
          grind
        · rw [if_neg e2, un i j hi (by omega) hjn, if_neg e2]
          grind
      · rw [if_neg e]
        by_cases e2 : j = k
        · subst e2
          rw [if_neg e]
          grind
        · rw [un i j hi (by omega) hjn, un k j hkn (by omega) hjn, if_neg (Ne.symm e2)]
          grind
/-! ### lowest terms -/
theorem lowest_is {a b : Int} (hb : 0 < b) : fractionRow (fraction a b) = [a / ((Int.gcd a b : Nat) : Int), b / ((Int.gcd a b : Nat) : Int)] := by
  rw [fraction_eq]
  show [(Rat.divInt a b).num, (((Rat.divInt a b).den : Nat) : Int)] = _
  rw [Rat.num_divInt, Rat.den_divInt, if_neg (by omega)]
  have eg : Int.gcd b a = Int.gcd a b := Int.gcd_comm ..
  have hn : ((b.natAbs : Nat) : Int) = b := by omega
  rw [eg, Int.natCast_ediv, hn, Int.sign_eq_one_of_pos hb]
  rw [show (1 : Int) * a = a by omega]
def lowP (a b : Int) : List Int := [a / ((Int.gcd a b : Nat) : Int), b / ((Int.gcd a b : Nat) : Int)]
/-- the solution -/
theorem solved_is {n : Nat} {f : Nat → Nat → Int} (hm : MM n 0 (at2 (RL n f))) (hb : ∀ i j, i < n → j < n + 1 → (f i j).natAbs ≤ 100) (i : Nat) (hi : i < n) :
    0 < at2 (elimP (RL n f) n) i i ∧ fractionRow ((solved (mkR n (n + 1) fun i j => ((f i j : Int) : Rat))).getD i (ofInt 0)) = lowP (at2 (elimP (RL n f) n) i n) (at2 (elimP (RL n f) n) i i) := by
  obtain ⟨sh, mm, le, rel, un⟩ := run hm hb n (Nat.le_refl n)
  obtain ⟨c, hc, e⟩ := rel i hi
  have e1 := e i (by omega)
  have e2 := e n (by omega)
  rw [un i i hi hi hi, if_pos rfl] at e1
  have hpos : 0 < at2 (elimP (RL n f) n) i i := by
    have : (0 : Rat) < ((at2 (elimP (RL n f) n) i i : Int) : Rat) := by rw [e1]; grind
    exact_mod_cast this
  refine ⟨hpos, ?_⟩
  rw [solved_eq, getD_map_range n _ i _ hi]
  unfold lowP
  rw [← lowest_is hpos, fraction_eq]
  congr 2
  rw [Rat.divInt_eq_div]
  have h0 : c ≠ 0 := by grind
  rw [e2, e1]
  grind
/-! ### sums over sets of columns are sums over lists -/
theorem ss_list (g : Nat → Bool) (a : Nat → Int) : ∀ n, ss n g a = (((List.range n).filter g).map a).sum
  | 0 => rfl
  | n + 1 => by
    rw [List.range_succ, List.filter_append, List.map_append, List.sum_append, ← ss_list g a n]
    show ss n g a + (if g n = true then a n else 0) = _
    rw [List.filter_cons]
    by_cases h : g n = true
    · rw [if_pos h, if_pos h]; simp
    · rw [if_neg h, if_neg h]; simp
theorem sum_le_sub {a : Nat → Int} : ∀ {l m : List Nat}, l.Sublist m → (∀ x ∈ m, 0 ≤ a x) → (l.map a).sum ≤ (m.map a).sum
  | _, _, .slnil, _ => Int.le_refl _
  | _, _, .cons x h, p => by
    have := sum_le_sub h fun y hy => p y (List.mem_cons_of_mem _ hy)
    have := p x List.mem_cons_self
    rw [List.map_cons, List.sum_cons]
    omega
  | _, _, .cons_cons x h, p => by
    have := sum_le_sub h fun y hy => p y (List.mem_cons_of_mem _ hy)
    rw [List.map_cons, List.map_cons, List.sum_cons, List.sum_cons]
    omega

theorem closed_has {h : Table} {F : List Nat} : ∀ (k : Nat) {set : List Nat}, F.Sublist set → (∀ c ∈ F, ∀ p ∈ set, 0 ≤ held h p c) → (∀ c ∈ F, heldIn h F c = 100) → (∀ c ∈ F, heldIn h set c ≤ 100) → F.Sublist (closedPart h k set)
  | 0, _, s, _, _, _ => s
  | k + 1, set, s, n0, f1, f2 => by
    show F.Sublist (closedPart h k (set.filter fun c => heldIn h set c == whole))
    have ge : ∀ c ∈ F, heldIn h F c ≤ heldIn h set c := fun c hc => by
      rw [heldIn_sum, heldIn_sum]
      exact sum_le_sub (a := fun p => held h p c) s fun p hp => n0 c hc p hp
    have all : ∀ c ∈ F, (heldIn h set c == whole) = true := fun c hc => by
      rw [beq_iff_eq]
      have := ge c hc
      have := f1 c hc
      have := f2 c hc
      show _ = (100 : Int)
      omega
    have e : F.filter (fun c => heldIn h set c == whole) = F := List.filter_eq_self.mpr all
    have s2 : F.Sublist (set.filter fun c => heldIn h set c == whole) := by
      have := s.filter fun c => heldIn h set c == whole
      rwa [e] at this
    refine closed_has k s2 (fun c hc p hp => n0 c hc p (List.mem_filter.mp hp).1) f1 fun c hc => ?_
    refine Int.le_trans ?_ (f2 c hc)
    rw [heldIn_sum, heldIn_sum]
    exact sum_le_sub (a := fun p => held h p c) List.filter_sublist fun p hp => n0 c hc p hp
/-- the equations -/
def eqM (cs : List Nat) (pass : Nat → Bool) (h : Table) (own : Nat → Int) (i j : Nat) : Int :=
  if j < cs.length then (if cs.getD j 0 = cs.getD i 0 then 100 else 0) - (if pass (cs.getD j 0) then held h (cs.getD j 0) (cs.getD i 0) else 0) else own (cs.getD i 0)
theorem map_getD {α β : Type} (l : List α) (d : α) (F : α → β) : l.map F = (List.range l.length).map fun i => F (l.getD i d) := by
  apply List.ext_getElem?
  intro i
  rw [List.getElem?_map, List.getElem?_map]
  by_cases h : i < l.length
  · rw [List.getElem?_range h, List.getElem?_eq_getElem h]
    simp [h]
  · rw [List.getElem?_eq_none (by omega), List.getElem?_eq_none (by simp; omega)]; rfl
theorem equations_is (s : State) (h : Table) (pass : Nat → Bool) (own : Nat → Int) : equations s h pass own = mkR (companies s).length ((companies s).length + 1) fun i j => ((eqM (companies s) pass h own i j : Int) : Rat) := by
  unfold equations mkR
  generalize companies s = cs
  rw [map_getD cs 0]
  apply List.map_congr_left
  intro i _
  rw [map_getD cs 0, List.range_succ, List.map_append]
  congr 1
  · apply List.map_congr_left
    intro j hj
    rw [ofInt_eq]
    have e : eqM cs pass h own i j = (if cs.getD j 0 = cs.getD i 0 then 100 else 0) - (if pass (cs.getD j 0) then held h (cs.getD j 0) (cs.getD i 0) else 0) := if_pos (List.mem_range.mp hj)
    show _ = toF ((eqM cs pass h own i j : Int) : Rat)
    rw [e]; rfl
  · show [_] = [_]
    have e : eqM cs pass h own i cs.length = own (cs.getD i 0) := if_neg (Nat.lt_irrefl _)
    rw [ofInt_eq]
    show _ = [toF ((eqM cs pass h own i cs.length : Int) : Rat)]
    rw [e]
theorem at_company {s : State} {l : List Fraction} {c i : Nat} (hl : l.length = (companies s).length) (hi : (companies s)[i]? = some c) : atCompany s l c = l.getD i (ofInt 0) := by
  unfold atCompany
  have nd := comps_nodup s
  generalize companies s = cs at *
  have hic : i < cs.length := (List.getElem?_eq_some_iff.mp hi).1
  have hz : (cs.zip l)[i]? = some (c, l[i]'(by omega)) := by
    simp only [List.zip, List.getElem?_zipWith, hi]
    rw [List.getElem?_eq_getElem (by omega : i < l.length)]
  have hf : (cs.zip l).find? (fun z => z.1 == c) = some (c, l[i]'(by omega)) := by
    cases e : (cs.zip l).find? (fun z => z.1 == c) with
    | none =>
      have := List.find?_eq_none.mp e _ (List.mem_of_getElem? hz)
      simp at this
    | some z =>
      have hm := List.mem_of_find?_eq_some e
      have hz1 : z.1 = c := by simpa using List.find?_some e
      obtain ⟨j, hj⟩ := List.mem_iff_getElem?.mp hm
      simp only [List.zip, List.getElem?_zipWith] at hj
      cases e1 : cs[j]? with
      | none => rw [e1] at hj; simp at hj
      | some a =>
        cases e2 : l[j]? with
        | none => rw [e1, e2] at hj; simp at hj
        | some b =>
          rw [e1, e2] at hj
          have hj' : (a, b) = z := by simpa using hj
          subst hj'
          have ea : a = c := hz1
          subst ea
          have hij : i = j := (List.getElem?_inj hic nd).mp (by rw [hi, e1])
          subst hij
          rw [List.getElem?_eq_getElem (by omega : i < l.length)] at e2
          cases e2; rfl
  rw [hf, List.getD_eq_getElem?_getD, List.getElem?_eq_getElem (by omega : i < l.length)]; rfl
theorem sum_ite_one {i : Nat} {v : Int} : ∀ {l : List Nat}, l.Nodup → i ∈ l → (l.map fun j => if j = i then v else 0).sum = v
  | [], _, h => nomatch h
  | x :: r, nd, h => by
    obtain ⟨n1, n2⟩ := List.nodup_cons.mp nd
    rw [List.map_cons, List.sum_cons]
    by_cases e : x = i
    · subst e
      have z : (r.map fun j => if j = x then v else 0).sum = 0 := by
        have : r.map (fun j => if j = x then v else 0) = r.map fun _ => (0 : Int) := List.map_congr_left fun j hj => if_neg (fun z : j = x => n1 (z ▸ hj))
        rw [this]
        clear this nd h n1 n2
        induction r with
        | nil => rfl
        | cons y r ih => rw [List.map_cons, List.sum_cons, ih]; rfl
      rw [if_pos rfl, z]; omega
    · rw [if_neg e, sum_ite_one n2 (by rcases List.mem_cons.mp h with q | q; exact absurd q.symm e; exact q)]
      omega
theorem sum_sub {a b : Nat → Int} : ∀ l : List Nat, (l.map fun j => a j - b j).sum = (l.map a).sum - (l.map b).sum
  | [] => rfl
  | x :: r => by
    rw [List.map_cons, List.map_cons, List.map_cons, List.sum_cons, List.sum_cons, List.sum_cons, sum_sub r]; omega
theorem sum_le {a b : Nat → Int} : ∀ {l : List Nat}, (∀ x ∈ l, a x ≤ b x) → (l.map a).sum ≤ (l.map b).sum
  | [], _ => Int.le_refl _
  | x :: r, h => by
    have := sum_le fun y hy => h y (List.mem_cons_of_mem x hy)
    have := h x List.mem_cons_self
    rw [List.map_cons, List.map_cons, List.sum_cons, List.sum_cons]; omega
theorem getD_at {α : Type} {l : List α} {i : Nat} {d : α} (h : i < l.length) : l[i]? = some (l.getD i d) := by
  rw [List.getD_eq_getElem?_getD, List.getElem?_eq_getElem h]; rfl
section
variable {ps : List Bool} {ts : List Trade} {d : Nat} {pass : Nat → Bool} {own : Nat → Int}
theorem held_pos (hv : validT ps ts d = true) {p c : Nat} (hp : p < ps.length) (hc : c ∈ comps ps) : 0 ≤ held (tabOf ps.length ts d) p c := by
  rw [held_tab ts d hp (comps_lt hc)]
  exact (((isV_iff ..).mp hv).1 c hc).1 p hp
theorem held_le (hv : validT ps ts d = true) {F : List Nat} {c : Nat} (hF : F.Sublist (List.range ps.length)) (hc : c ∈ comps ps) : heldIn (tabOf ps.length ts d) F c ≤ 100 := by
  refine Int.le_trans ?_ (((isV_iff ..).mp hv).1 c hc).2
  rw [heldIn_sum, heldIn_sum]
  exact sum_le_sub (a := fun p => held (tabOf ps.length ts d) p c) hF fun p hp => held_pos hv (List.mem_range.mp hp) hc
theorem held_one (hv : validT ps ts d = true) {p c : Nat} (hp : p < ps.length) (hc : c ∈ comps ps) : held (tabOf ps.length ts d) p c ≤ 100 := by
  have := held_le hv (F := [p]) (c := c) (List.singleton_sublist.mpr (List.mem_range.mpr hp)) hc
  rw [heldIn_sum] at this
  simpa using this
theorem comps_sub : (comps ps).Sublist (List.range ps.length) := List.filter_sublist
theorem mm_valid (hv : validT ps ts d = true) : MM (comps ps).length 0 (at2 (RL (comps ps).length (eqM (comps ps) pass (tabOf ps.length ts d) own))) := by
  have nd := compsL_nodup ps
  have hco : ∀ i, i < (comps ps).length → (comps ps).getD i 0 ∈ comps ps := fun i hi => List.mem_of_getElem? (getD_at hi)
  have inj : ∀ i j, i < (comps ps).length → j < (comps ps).length → (comps ps).getD j 0 = (comps ps).getD i 0 → j = i := fun i j hi hj e =>
    (List.getElem?_inj hj nd).mp (by rw [getD_at (d := 0) hi, getD_at (d := 0) hj, e])
  have ae : ∀ i j, i < (comps ps).length → j < (comps ps).length → at2 (RL (comps ps).length (eqM (comps ps) pass (tabOf ps.length ts d) own)) i j = (if j = i then 100 else 0) - (if pass ((comps ps).getD j 0) then held (tabOf ps.length ts d) ((comps ps).getD j 0) ((comps ps).getD i 0) else 0) := fun i j hi hj => by
    rw [RL_at hi (by omega)]
    unfold eqM
    rw [if_pos hj]
    congr 1
    by_cases e : j = i
    · subst e; rw [if_pos rfl, if_pos rfl]
    · rw [if_neg e, if_neg fun z => e (inj i j hi hj z)]
  have hpos : ∀ i j, i < (comps ps).length → j < (comps ps).length → 0 ≤ held (tabOf ps.length ts d) ((comps ps).getD j 0) ((comps ps).getD i 0) := fun i j hi hj => held_pos hv (comps_lt (hco j hj)) (hco i hi)
  have hFs : ∀ g : Nat → Bool, (((List.range (comps ps).length).filter g).map fun j => (comps ps).getD j 0).Sublist (comps ps) := fun g => by
    have e : comps ps = (List.range (comps ps).length).map fun j => (comps ps).getD j 0 := by
      have := map_getD (comps ps) 0 id
      rw [List.map_id] at this
      exact this
    have := (List.filter_sublist (p := g) (l := List.range (comps ps).length)).map fun j => (comps ps).getD j 0
    rw [← e] at this
    exact this
  have key : ∀ (g : Nat → Bool) (i : Nat), (∀ j, g j = true → 0 ≤ j ∧ j < (comps ps).length) → g i = true →
      100 - heldIn (tabOf ps.length ts d) (((List.range (comps ps).length).filter g).map fun j => (comps ps).getD j 0) ((comps ps).getD i 0) ≤ ss (comps ps).length g (at2 (RL (comps ps).length (eqM (comps ps) pass (tabOf ps.length ts d) own)) i) := by
    intro g i hg hi
    have hi' := (hg i hi).2
    have hmem : i ∈ (List.range (comps ps).length).filter g := List.mem_filter.mpr ⟨List.mem_range.mpr hi', hi⟩
    have ndl : ((List.range (comps ps).length).filter g).Nodup := List.nodup_range.filter _
    rw [ss_list, heldIn_sum, List.map_map]
    have e1 : ((List.range (comps ps).length).filter g).map (at2 (RL (comps ps).length (eqM (comps ps) pass (tabOf ps.length ts d) own)) i) = ((List.range (comps ps).length).filter g).map fun j => (if j = i then 100 else 0) - (if pass ((comps ps).getD j 0) then held (tabOf ps.length ts d) ((comps ps).getD j 0) ((comps ps).getD i 0) else 0) :=
      List.map_congr_left fun j hj => ae i j hi' (List.mem_range.mp (List.mem_filter.mp hj).1)
    rw [e1, sum_sub, sum_ite_one ndl hmem]
    have := sum_le (l := (List.range (comps ps).length).filter g) (a := fun j => if pass ((comps ps).getD j 0) then held (tabOf ps.length ts d) ((comps ps).getD j 0) ((comps ps).getD i 0) else 0) (b := (fun p => held (tabOf ps.length ts d) p ((comps ps).getD i 0)) ∘ fun j => (comps ps).getD j 0) fun j hj => by
      have := hpos i j hi' (List.mem_range.mp (List.mem_filter.mp hj).1)
      show (if pass ((comps ps).getD j 0) = true then _ else _) ≤ held (tabOf ps.length ts d) ((comps ps).getD j 0) ((comps ps).getD i 0)
      split <;> omega
    omega
  refine ⟨fun i j _ hi _ hj ne => ?_, fun g i hg hi => ?_, fun g i hg hi => ?_⟩
  · rw [ae i j hi hj, if_neg (Ne.symm ne)]
    have := hpos i j hi hj
    split <;> omega
  · have h1 := key g i hg hi
    have h2 := held_le hv ((hFs g).trans comps_sub) (hco i (hg i hi).2)
    omega
  · apply Classical.byContradiction
    intro no
    have h100 : ∀ c ∈ ((List.range (comps ps).length).filter g).map (fun j => (comps ps).getD j 0), heldIn (tabOf ps.length ts d) (((List.range (comps ps).length).filter g).map fun j => (comps ps).getD j 0) c = 100 := fun c hc => by
      obtain ⟨k, hk, rfl⟩ := List.mem_map.mp hc
      obtain ⟨hk1, hk2⟩ := List.mem_filter.mp hk
      have h1 := key g k hg hk2
      have h2 := held_le hv ((hFs g).trans comps_sub) (hco k (List.mem_range.mp hk1))
      have h3 : ¬ 0 < ss (comps ps).length g (at2 (RL (comps ps).length (eqM (comps ps) pass (tabOf ps.length ts d) own)) k) := fun z => no ⟨k, hk2, z⟩
      omega
    have hsub := closed_has (comps ps).length (hFs g) (fun c hc p hp => held_pos hv (comps_lt hp) ((hFs g).subset hc)) h100 fun c hc => held_le hv comps_sub ((hFs g).subset hc)
    have hcl := ((isV_iff ..).mp hv).2
    rw [hcl] at hsub
    have hmem : (comps ps).getD i 0 ∈ ((List.range (comps ps).length).filter g).map (fun j => (comps ps).getD j 0) := List.mem_map.mpr ⟨i, List.mem_filter.mpr ⟨List.mem_range.mpr (hg i hi).2, hi⟩, rfl⟩
    exact nomatch hsub.subset hmem
theorem eqM_le (hv : validT ps ts d = true) (ho : ∀ c ∈ comps ps, (own c).natAbs ≤ 100) (i j : Nat) (hi : i < (comps ps).length) (_ : j < (comps ps).length + 1) : (eqM (comps ps) pass (tabOf ps.length ts d) own i j).natAbs ≤ 100 := by
  have hco : ∀ i, i < (comps ps).length → (comps ps).getD i 0 ∈ comps ps := fun i hi => List.mem_of_getElem? (getD_at hi)
  unfold eqM
  by_cases hj : j < (comps ps).length
  · rw [if_pos hj]
    have h1 := held_pos hv (comps_lt (hco j hj)) (hco i hi)
    have h2 := held_one hv (comps_lt (hco j hj)) (hco i hi)
    split <;> split <;> omega
  · rw [if_neg hj]
    exact ho _ (hco i hi)
end
end Cr
namespace Cr
open Valdgg

def eqL (cs : List Nat) (t : Table) (own : List Int) (left : Int) : Nat → Nat → Int := eqM cs (fun k => !decide ((k : Int) = left)) t fun c => own.getD c 0
def cf (t : Table) (c k : Nat) (left : Int) : Int := (if k = c then 100 else 0) - (if (k : Int) = left then 0 else held t k c)
theorem eqM_in (cs : List Nat) (pass : Nat → Bool) (h : Table) (own : Nat → Int) {i j : Nat} (hj : j < cs.length) : eqM cs pass h own i j = (if cs.getD j 0 = cs.getD i 0 then 100 else 0) - (if pass (cs.getD j 0) = true then held h (cs.getD j 0) (cs.getD i 0) else 0) := if_pos hj
theorem eqM_out (cs : List Nat) (pass : Nat → Bool) (h : Table) (own : Nat → Int) {i j : Nat} (hj : ¬ j < cs.length) : eqM cs pass h own i j = own (cs.getD i 0) := if_neg hj
theorem RL_rows (cs : List Nat) (t : Table) (own : List Int) (left : Int) : RL cs.length (eqL cs t own left) = cs.map fun c => (cs.map fun k => cf t c k left) ++ [own.getD c 0] := by
  unfold RL
  rw [map_getD cs 0 (fun c => (cs.map fun k => cf t c k left) ++ [own.getD c 0])]
  apply List.map_congr_left
  intro i _
  rw [map_getD cs 0 (fun k => cf t (cs.getD i 0) k left), List.range_succ, List.map_append]
  congr 1
  · apply List.map_congr_left
    intro j hj
    unfold eqL cf
    rw [eqM_in _ _ _ _ (List.mem_range.mp hj)]
    congr 1
    by_cases h : ((cs.getD j 0 : Nat) : Int) = left
    · rw [if_pos h, if_neg (by show ¬ (!decide (((cs.getD j 0 : Nat) : Int) = left)) = true; rw [decide_eq_true h]; decide)]
    · rw [if_neg h, if_pos (by show (!decide (((cs.getD j 0 : Nat) : Int) = left)) = true; rw [decide_eq_false h]; decide)]
  · show [eqL cs t own left i cs.length] = [_]
    unfold eqL
    rw [eqM_out _ _ _ _ (Nat.lt_irrefl _)]
def solR (n : Nat) (f : Nat → Nat → Int) (i : Nat) : List Int := lowP (at2 (elimP (RL n f) n) i n) (at2 (elimP (RL n f) n) i i)
section
variable {s : State} (w : WF s) (d n : Nat)
theorem row_held {h : Table} {p : Nat} {row : List Int} (e : h[p]? = some row) (c : Nat) : row.getD c 0 = held h p c := by
  unfold held
  rw [e, List.getD_eq_getElem?_getD]; rfl
include w in
theorem interest_val {p c i : Nat} {row : List Int} (hp : p < s.parties.length) (hr : (tb s d n)[p]? = some row) (hi : (comps s.parties)[i]? = some c) :
    MM (comps s.parties).length 0 (at2 (RL (comps s.parties).length (eqL (comps s.parties) (tb s d n) row (p : Int)))) ∧ (∀ i j, i < (comps s.parties).length → j < (comps s.parties).length + 1 → (eqL (comps s.parties) (tb s d n) row (p : Int) i j).natAbs ≤ 100) ∧
    fractionRow (atCompany (knownAfter s n) (interests (knownAfter s n) d p) c) = solR (comps s.parties).length (eqL (comps s.parties) (tb s d n) row (p : Int)) i := by
  have hv := w.vd n d
  have hic : i < (comps s.parties).length := (List.getElem?_eq_some_iff.mp hi).1
  have hb : ∀ i j, i < (comps s.parties).length → j < (comps s.parties).length + 1 → (eqL (comps s.parties) (tb s d n) row (p : Int) i j).natAbs ≤ 100 := fun i j h1 h2 => eqM_le hv (fun c hc => by
    rw [row_held hr]
    have a := held_pos hv hp hc
    have b := held_one hv hp hc
    show (held (tabOf s.parties.length (liveOf (s.records.take n)) d) p c).natAbs ≤ 100
    omega) i j h1 h2
  have hm : MM (comps s.parties).length 0 (at2 (RL (comps s.parties).length (eqL (comps s.parties) (tb s d n) row (p : Int)))) := mm_valid hv
  refine ⟨hm, hb, ?_⟩
  have e : interests (knownAfter s n) d p = solved (mkR (comps s.parties).length ((comps s.parties).length + 1) fun i j => ((eqL (comps s.parties) (tb s d n) row (p : Int) i j : Int) : Rat)) := by
    show solved (equations (knownAfter s n) (tb s d n) (fun k => k != p) fun j => held (tb s d n) p j) = _
    rw [equations_is]
    show solved (mkR (comps s.parties).length ((comps s.parties).length + 1) fun i j => ((eqM (comps s.parties) _ (tb s d n) _ i j : Int) : Rat)) = _
    have e1 : (fun k => k != p) = fun k : Nat => !decide ((k : Int) = (p : Int)) := by
      funext k
      by_cases h : k = p
      · subst h; simp
      · have : ¬ (k : Int) = (p : Int) := by omega
        simp [h, this]
    have e2 : (fun j => held (tb s d n) p j) = fun c => row.getD c 0 := by
      funext c
      rw [row_held hr]
    rw [e1, e2]; rfl
  rw [at_company (s := knownAfter s n) (i := i) (by rw [e, solved_eq]; simp; rfl) hi, e]
  exact (solved_is hm hb i hic).2
include w in
theorem float_val {c i : Nat} {own : List Int} (ho : own = (List.range s.parties.length).map fun j => 100 - heldIn (tb s d n) (List.range (tb s d n).length) j) (hi : (comps s.parties)[i]? = some c) :
    MM (comps s.parties).length 0 (at2 (RL (comps s.parties).length (eqL (comps s.parties) (tb s d n) own (-1)))) ∧ (∀ i j, i < (comps s.parties).length → j < (comps s.parties).length + 1 → (eqL (comps s.parties) (tb s d n) own (-1) i j).natAbs ≤ 100) ∧
    fractionRow (atCompany (knownAfter s n) (floatInterests (knownAfter s n) d) c) = solR (comps s.parties).length (eqL (comps s.parties) (tb s d n) own (-1)) i := by
  have hv := w.vd n d
  have hic : i < (comps s.parties).length := (List.getElem?_eq_some_iff.mp hi).1
  have etl : (tb s d n).length = s.parties.length := tab_len _ _ _
  have hown : ∀ c ∈ comps s.parties, own.getD c 0 = 100 - heldIn (tb s d n) (List.range s.parties.length) c := fun c hc => by
    rw [ho, getD_map_range _ _ _ _ (comps_lt hc), etl]
  have hb : ∀ i j, i < (comps s.parties).length → j < (comps s.parties).length + 1 → (eqL (comps s.parties) (tb s d n) own (-1) i j).natAbs ≤ 100 := fun i j h1 h2 => eqM_le hv (fun c hc => by
    rw [hown c hc]
    have a := held_le hv (List.Sublist.refl _) hc
    have b : 0 ≤ heldIn (tb s d n) (List.range s.parties.length) c := by
      rw [heldIn_sum]
      have := sum_le_sub (a := fun p => held (tb s d n) p c) (List.nil_sublist (List.range s.parties.length)) fun p hp => held_pos hv (List.mem_range.mp hp) hc
      exact this
    have a : heldIn (tb s d n) (List.range s.parties.length) c ≤ 100 := a
    omega) i j h1 h2
  have hm : MM (comps s.parties).length 0 (at2 (RL (comps s.parties).length (eqL (comps s.parties) (tb s d n) own (-1)))) := mm_valid hv
  refine ⟨hm, hb, ?_⟩
  have e : floatInterests (knownAfter s n) d = solved (mkR (comps s.parties).length ((comps s.parties).length + 1) fun i j => ((eqL (comps s.parties) (tb s d n) own (-1) i j : Int) : Rat)) := by
    show solved (equations (knownAfter s n) (tb s d n) (fun _ => true) fun j => floatIn (knownAfter s n) (tb s d n) j) = _
    rw [equations_is]
    show solved (mkR (comps s.parties).length ((comps s.parties).length + 1) fun i j => ((eqM (comps s.parties) _ (tb s d n) _ i j : Int) : Rat)) = _
    have e1 : (fun _ => true) = fun k : Nat => !decide ((k : Int) = (-1)) := by
      funext k
      have : ¬ (k : Int) = (-1) := by omega
      simp [this]
    rw [e1]
    congr 1
    unfold mkR
    apply List.map_congr_left
    intro i hi
    apply List.map_congr_left
    intro j hj
    congr 1
    unfold eqL
    dsimp only
    by_cases hj' : j < (comps s.parties).length
    · rw [eqM_in _ _ _ _ hj', eqM_in _ _ _ _ hj']
    · rw [eqM_out _ _ _ _ hj', eqM_out _ _ _ _ hj', hown _ (List.mem_of_getElem? (getD_at (List.mem_range.mp hi)))]; rfl
  rw [at_company (s := knownAfter s n) (i := i) (by rw [e, solved_eq]; simp; rfl) hi, e]
  exact (solved_is hm hb i hic).2
end
theorem interest_is (s : State) (d p c n : Int) : answerOf s (.interest d p c n) = if pdcode s d p c n ≠ 0 then [pdcode s d p c n] else 0 :: fractionRow (atCompany (knownAfter s n.toNat) (interests (knownAfter s n.toNat) d.toNat p.toNat) c.toNat) := by
  rw [show answerOf s (.interest d p c n) = onBoth s d p c n (fun t d p c => 0 :: fractionRow (atCompany t (interests t d p) c)) from rfl, pdcode_split]
theorem float_is (s : State) (d c n : Int) : answerOf s (.floatInterest d c n) = if ccode s d c n ≠ 0 then [ccode s d c n] else 0 :: fractionRow (atCompany (knownAfter s n.toNat) (floatInterests (knownAfter s n.toNat) d.toNat) c.toNat) := by
  rw [show answerOf s (.floatInterest d c n) = onCompany s d c n (fun t d c => 0 :: fractionRow (atCompany t (floatInterests t d) c)) from rfl, ccode_split]
/-! ### sizes -/
theorem gcd_le {a b : Int} {m : Nat} (ha : a.natAbs < m) (hb : b.natAbs < m) : Int.gcd a b < m := by
  by_cases h : a = 0
  · subst h
    rw [Int.gcd_zero_left]; exact hb
  · exact Nat.lt_of_le_of_lt (Nat.gcd_le_left _ (by omega)) ha
theorem gcdRow_le {m : Nat} (hm : 0 < m) : ∀ {row : List Int}, (∀ x ∈ row, x.natAbs < m) → ∀ s : Int, s.natAbs < m → (row.foldl (fun s x => ((Int.gcd s x : Nat) : Int)) s).natAbs < m
  | [], _, s, hs => hs
  | x :: r, h, s, hs => by
    rw [List.foldl_cons]
    exact gcdRow_le hm (fun y hy => h y (List.mem_cons_of_mem _ hy)) _ (by rw [Int.natAbs_natCast]; exact gcd_le hs (h x List.mem_cons_self))
end Cr
namespace Cr
open Valdgg

/-! ### sets of companies as numbers -/
theorem bit1 : ∀ m, m < 256 → ∀ i, i < 8 → m.testBit i = true → (m - 2 ^ i < m ∧ 2 ^ i ≤ m) ∧ ∀ j, j < 8 → (m - 2 ^ i).testBit j = (m.testBit j && !(j == i)) := by decide +kernel
theorem bit2 : ∀ b, b < 256 → ∀ i, i < 8 → b.testBit i = false → ∀ j, j < 8 → (b + 2 ^ i).testBit j = (b.testBit j || j == i) := by decide +kernel
theorem bit3 : ∀ n, n < 9 → ∀ b, b < 256 → b < 2 ^ n → ∀ i, i < n → b.testBit i = false → b + 2 ^ i < 2 ^ n := by decide +kernel
def memb (cs : List Nat) (m : Nat) : List Nat := ((List.range cs.length).filter fun j => m.testBit j).map fun j => cs.getD j 0
theorem mem_memb {cs : List Nat} {m x : Nat} : x ∈ memb cs m ↔ ∃ j, cs[j]? = some x ∧ m.testBit j = true := by
  unfold memb
  rw [List.mem_map]
  constructor
  · rintro ⟨j, hj, rfl⟩
    obtain ⟨h1, h2⟩ := List.mem_filter.mp hj
    refine ⟨j, ?_, h2⟩
    have := List.mem_range.mp h1
    rw [List.getD_eq_getElem?_getD, List.getElem?_eq_getElem this]; rfl
  · rintro ⟨j, h1, h2⟩
    have hl := (List.getElem?_eq_some_iff.mp h1).1
    exact ⟨j, List.mem_filter.mpr ⟨List.mem_range.mpr hl, h2⟩, by rw [List.getD_eq_getElem?_getD, h1]; rfl⟩
theorem memb_sorted {cs : List Nat} (hc : cs.Pairwise (· < ·)) (m : Nat) : (memb cs m).Pairwise (· < ·) := by
  have e : (List.range cs.length).map (fun j => cs.getD j 0) = cs := by
    apply List.ext_getElem?
    intro i
    rw [List.getElem?_map]
    by_cases h : i < cs.length
    · rw [List.getElem?_range h, List.getElem?_eq_getElem h]; simp [h]
    · rw [List.getElem?_eq_none (l := cs) (by omega), List.getElem?_eq_none (l := List.range cs.length) (by rw [List.length_range]; omega)]; rfl
  have s : (memb cs m).Sublist ((List.range cs.length).map fun j => cs.getD j 0) := List.filter_sublist.map _
  rw [e] at s
  exact hc.sublist s
theorem getElem_inj_nd {cs : List Nat} (nd : cs.Nodup) {i j x : Nat} (h1 : cs[i]? = some x) (h2 : cs[j]? = some x) : i = j := (List.getElem?_inj (List.getElem?_eq_some_iff.mp h1).1 nd).mp (h1.trans h2.symm)
section
variable {cs : List Nat} (hc : cs.Pairwise (· < ·)) (h8 : cs.length ≤ 8)
include hc h8
theorem memb_sub {m i c : Nat} (hm : m < 256) (hi : cs[i]? = some c) (hb : m.testBit i = true) : putDay c (memb cs (m - 2 ^ i)) = memb cs m ∧ c ∉ memb cs (m - 2 ^ i) := by
  have nd : cs.Nodup := hc.imp fun h => Nat.ne_of_lt h
  have hil := (List.getElem?_eq_some_iff.mp hi).1
  obtain ⟨_, b⟩ := bit1 m hm i (by omega) hb
  refine ⟨sorted_ext (put_sorted (memb_sorted hc _)) (memb_sorted hc _) fun x => ?_, fun z => ?_⟩
  · rw [mem_put, mem_memb, mem_memb]
    constructor
    · rintro (rfl | ⟨j, h1, h2⟩)
      · exact ⟨i, hi, hb⟩
      · have := (List.getElem?_eq_some_iff.mp h1).1
        rw [b j (by omega), Bool.and_eq_true] at h2
        exact ⟨j, h1, h2.1⟩
    · rintro ⟨j, h1, h2⟩
      have := (List.getElem?_eq_some_iff.mp h1).1
      by_cases e : j = i
      · subst e
        rw [hi] at h1
        exact .inl (Option.some.inj h1).symm
      · exact .inr ⟨j, h1, by rw [b j (by omega), h2]; simp [e]⟩
  · obtain ⟨j, h1, h2⟩ := mem_memb.mp z
    have := (List.getElem?_eq_some_iff.mp h1).1
    have e := getElem_inj_nd nd h1 hi
    subst e
    rw [b j (by omega)] at h2
    simp at h2
theorem memb_add {b i c : Nat} (hb8 : b < 2 ^ cs.length) (hi : cs[i]? = some c) (hn : c ∉ memb cs b) : b + 2 ^ i < 2 ^ cs.length ∧ putDay c (memb cs b) = memb cs (b + 2 ^ i) ∧ (b + 2 ^ i).testBit i = true ∧ b + 2 ^ i - 2 ^ i = b := by
  have nd : cs.Nodup := hc.imp fun h => Nat.ne_of_lt h
  have hil := (List.getElem?_eq_some_iff.mp hi).1
  have hb : b < 256 := Nat.lt_of_lt_of_le hb8 (Nat.pow_le_pow_right (by decide) h8)
  have hbi : b.testBit i = false := by
    rw [Bool.eq_false_iff]
    intro z
    exact hn (mem_memb.mpr ⟨i, hi, z⟩)
  have b2 := bit2 b hb i (by omega) hbi
  refine ⟨bit3 cs.length (by omega) b hb hb8 i hil hbi, sorted_ext (put_sorted (memb_sorted hc _)) (memb_sorted hc _) fun x => ?_, by rw [b2 i (by omega)]; simp, by omega⟩
  rw [mem_put, mem_memb, mem_memb]
  constructor
  · rintro (rfl | ⟨j, h1, h2⟩)
    · exact ⟨i, hi, by rw [b2 i (by omega)]; simp⟩
    · have := (List.getElem?_eq_some_iff.mp h1).1
      exact ⟨j, h1, by rw [b2 j (by omega), h2]; rfl⟩
  · rintro ⟨j, h1, h2⟩
    have := (List.getElem?_eq_some_iff.mp h1).1
    rw [b2 j (by omega), Bool.or_eq_true] at h2
    rcases h2 with h2 | h2
    · exact .inr ⟨j, h1, h2⟩
    · have e : j = i := by simpa using h2
      subst e
      rw [hi] at h1
      exact .inl (Option.some.inj h1).symm
end
/-! ### the better one of two -/
def bt (a b : List Nat) : List Nat := if a = [] then b else if b = [] then a else if lexLess b a = true then b else a
theorem Best.or {S T : Plan → Prop} {a b : List Nat} (h1 : Best S a) (h2 : Best T b) : Best (fun z => S z ∨ T z) (bt a b) := by
  obtain ⟨a1, a2⟩ := h1
  obtain ⟨b1, b2⟩ := h2
  unfold bt
  by_cases ha : a = []
  · rw [if_pos ha]
    have na := a1 ha
    refine ⟨fun e z hz => ?_, fun e => ?_⟩
    · rcases hz with q | q
      · exact na z q
      · exact b1 e z q
    · obtain ⟨z, hz, ek, m⟩ := b2 e
      refine ⟨z, .inr hz, ek, fun z' hz' => ?_⟩
      rcases hz' with q | q
      · exact absurd q (na z')
      · exact m z' q
  rw [if_neg ha]
  obtain ⟨z, hz, ek, mz⟩ := a2 ha
  by_cases hb : b = []
  · rw [if_pos hb]
    have nb := b1 hb
    refine ⟨fun e => absurd e ha, fun _ => ⟨z, .inl hz, ek, fun z' hz' => ?_⟩⟩
    rcases hz' with q | q
    · exact mz z' q
    · exact absurd q (nb z')
  rw [if_neg hb]
  obtain ⟨y, hy, ey, my⟩ := b2 hb
  by_cases hl : lexLess b a = true
  · rw [if_pos hl]
    refine ⟨fun e => absurd e hb, fun _ => ⟨y, .inr hy, ey, fun z' hz' => ?_⟩⟩
    have l : Le (key y) (key z) := Le.of_lt (by rw [ek, ey]; exact hl)
    rcases hz' with q | q
    · exact l.trans (mz z' q)
    · exact my z' q
  · rw [if_neg hl]
    refine ⟨fun e => absurd e ha, fun _ => ⟨z, .inl hz, ek, fun z' hz' => ?_⟩⟩
    have l : Le (key z) (key y) := by
      unfold Le
      rw [ek, ey]
      exact Bool.eq_false_iff.mpr hl
    rcases hz' with q | q
    · exact mz z' q
    · exact l.trans (my z' q)
theorem Best.congr {S T : Plan → Prop} {a : List Nat} (h : Best S a) (e : ∀ z, S z ↔ T z) : Best T a := by
  have : S = T := funext fun z => propext (e z)
  exact this ▸ h
theorem Best.none {S : Plan → Prop} (h : ∀ z, ¬ S z) : Best S [] := ⟨fun _ => h, fun e => absurd rfl e⟩
theorem Best.uniq {S : Plan → Prop} {a b : List Nat} (h1 : Best S a) (h2 : Best S b) : a = b := by
  by_cases ha : a = []
  · by_cases hb : b = []
    · rw [ha, hb]
    · obtain ⟨y, hy, _⟩ := h2.2 hb
      exact absurd hy (h1.1 ha y)
  · obtain ⟨z, hz, ek, mz⟩ := h1.2 ha
    by_cases hb : b = []
    · exact absurd hz (h2.1 hb z)
    · obtain ⟨y, hy, ey, my⟩ := h2.2 hb
      rw [← ek, ← ey]
      exact (mz y hy).anti (my z hz)
/-! ### the program's plans -/
section
variable (s : State) (h : Table) (party : Nat) (prices : List Nat) (target g : Nat)
/-- one company more, the i-th of the list -/
def pbl (P : Nat → List Nat) (m i : Nat) : List Nat :=
  if (companies s).getD i 0 = party ∨ P (m - 2 ^ i) = [] then []
  else if floatIn s h ((companies s).getD i 0) < (need h (party :: memb (companies s) (m - 2 ^ i)) ((companies s).getD i 0) : Int) then []
  else ((P (m - 2 ^ i)).headD 0 + prices.getD i 0 * need h (party :: memb (companies s) (m - 2 ^ i)) ((companies s).getD i 0)) :: ((P (m - 2 ^ i)).tail.set i (need h (party :: memb (companies s) (m - 2 ^ i)) ((companies s).getD i 0)))
def okLast (m i : Nat) : Bool := m.testBit i && (i == g || !m.testBit g)
def pfor (P : Nat → List Nat) (m : Nat) : Nat → List Nat
  | 0 => []
  | i + 1 => if okLast g m i = true then bt (pfor P m i) (pbl s h party prices P m i) else pfor P m i
def PLs : Nat → List (List Nat)
  | 0 => [0 :: List.replicate (companies s).length 0]
  | k + 1 => PLs k ++ [pfor s h party prices g (fun b => (PLs k).getD b []) (k + 1) (companies s).length]
def bestP : Nat → List Nat
  | 0 => []
  | k + 1 => if (k + 1).testBit g = true then bt (bestP k) ((PLs s h party prices g (k + 1)).getD (k + 1) []) else bestP k
/-- the target is never passed -/
inductive RG : Plan → Prop
  | start : RG (emptyPlan s)
  | step {z z' : Plan} {c p : Nat} : RG z → target ∉ z.members → (c, p) ∈ (companies s).zip prices → extended s h party z c p = some z' → RG z'
end
section
variable {s : State} {h : Table} {party : Nat} {prices : List Nat} {target g : Nat}
theorem RG.reach {z : Plan} (r : RG s h party prices target z) : Reach s h party prices z := by
  induction r with
  | start => exact .start
  | step _ _ hm e ih => exact .step ih hm e
theorem Reach.rg {z : Plan} (r : Reach s h party prices z) : target ∉ z.members → RG s h party prices target z := by
  induction r with
  | start => exact fun _ => .start
  | step r hm e ih =>
    intro n
    obtain ⟨_, _, _, rfl⟩ := ext_some e
    have n' : target ∉ _ := fun q => n (mem_put.mpr (.inr q))
    exact .step (ih n') n' hm e
theorem Reach.cut {z : Plan} (r : Reach s h party prices z) : target ∈ z.members → ∃ y, RG s h party prices target y ∧ target ∈ y.members ∧ Le (key y) (key z) := by
  induction r with
  | start => intro m; simp [emptyPlan] at m
  | @step z0 z1 c p r hm e ih =>
    intro m
    by_cases q : target ∈ z0.members
    · obtain ⟨y, a, b, l⟩ := ih q
      exact ⟨y, a, b, l.trans (ext_le r.inv e)⟩
    · exact ⟨z1, .step (r.rg q) q hm e, m, Le.refl _⟩
theorem best_cut {pl : List Nat} (b : Best (fun z => RG s h party prices target z ∧ target ∈ z.members) pl) : Best (fun z => Reach s h party prices z ∧ target ∈ z.members) pl := by
  obtain ⟨b1, b2⟩ := b
  refine ⟨fun e z ⟨r, m⟩ => ?_, fun e => ?_⟩
  · obtain ⟨y, a, b, _⟩ := r.cut m
    exact b1 e y ⟨a, b⟩
  · obtain ⟨z, ⟨a, b⟩, ek, mz⟩ := b2 e
    refine ⟨z, ⟨a.reach, b⟩, ek, fun z' ⟨r, m⟩ => ?_⟩
    obtain ⟨y, a', b', l⟩ := r.cut m
    exact (mz y ⟨a', b'⟩).trans l
theorem set_is : ∀ {cs ps : List Nat} {c i n : Nat}, cs.Nodup → cs[i]? = some c → ps.length = cs.length → ((cs.zip ps).map fun y => if y.1 = c then n else y.2) = ps.set i n
  | [], _, _, i, _, _, h, _ => by simp at h
  | _ :: _, [], _, _, _, _, _, h => by simp at h
  | x :: cs, y :: ps, c, i, n, nd, hi, hl => by
    obtain ⟨n1, n2⟩ := List.nodup_cons.mp nd
    rw [List.zip_cons_cons, List.map_cons]
    cases i with
    | zero =>
      have e : x = c := by simpa using hi
      subst e
      rw [List.set_cons_zero, if_pos rfl]
      congr 1
      have : (cs.zip ps).map (fun y => if y.1 = x then n else y.2) = (cs.zip ps).map fun y => y.2 := List.map_congr_left fun y hy => if_neg (fun z : y.1 = x => n1 (z ▸ (List.of_mem_zip hy).1))
      rw [this]
      have hl' : ps.length = cs.length := by simpa using hl
      exact List.map_snd_zip (by omega)
    | succ i =>
      have hi' : cs[i]? = some c := by simpa using hi
      have ne : ¬ x = c := fun z => n1 (z ▸ List.mem_of_getElem? hi')
      rw [List.set_cons_succ, if_neg ne, set_is n2 hi' (by simpa using hl)]
/-- the plans for a number -/
def ForM (s : State) (h : Table) (party : Nat) (prices : List Nat) (target m : Nat) : Plan → Prop := fun z => RG s h party prices target z ∧ z.members = memb (companies s) m
/-- .. come to by one company more -/
def ForI (s : State) (h : Table) (party : Nat) (prices : List Nat) (target m i : Nat) : Plan → Prop := fun z' => ∃ z, ForM s h party prices target (m - 2 ^ i) z ∧ extended s h party z ((companies s).getD i 0) (prices.getD i 0) = some z'
theorem pbl_best {P : Nat → List Nat} {m i : Nat} (hp : prices.length = (companies s).length) (hi : i < (companies s).length) (hm : m < 256) (h8 : (companies s).length ≤ 8) (hb : m.testBit i = true) (b : Best (ForM s h party prices target (m - 2 ^ i)) (P (m - 2 ^ i))) : Best (ForI s h party prices target m i) (pbl s h party prices P m i) := by
  have hc : (companies s)[i]? = some ((companies s).getD i 0) := by
    rw [List.getD_eq_getElem?_getD, List.getElem?_eq_getElem hi]; rfl
  obtain ⟨_, hnm⟩ := memb_sub (comps_sorted s) h8 hm hc hb
  obtain ⟨b1, b2⟩ := b
  unfold pbl ForI
  generalize hb' : m - 2 ^ i = b at *
  generalize (companies s).getD i 0 = c at *
  generalize prices.getD i 0 = p at *
  by_cases hP : c = party ∨ P b = []
  · rw [if_pos hP]
    refine Best.none fun z' ⟨z, hz, e⟩ => ?_
    obtain ⟨e1, _⟩ := ext_some e
    rcases hP with q | q
    · exact e1 q
    · exact b1 q z hz
  rw [if_neg hP]
  rw [not_or] at hP
  by_cases hF : floatIn s h c < (need h (party :: memb (companies s) b) c : Int)
  · rw [if_pos hF]
    refine Best.none fun z' ⟨z, hz, e⟩ => ?_
    obtain ⟨_, _, e3, _⟩ := ext_some e
    rw [hz.2] at e3
    omega
  rw [if_neg hF]
  obtain ⟨z, hz, ek, mz⟩ := b2 hP.2
  have inv := hz.1.reach.inv
  have ex := ext_of (s := s) (h := h) (party := party) (z := z) (c := c) (p := p) hP.1 (by rw [hz.2]; exact hnm) (by rw [hz.2]; omega)
  refine ⟨fun q => (by cases q), fun _ => ⟨_, ⟨z, hz, ex⟩, ?_, fun y' ⟨y, hy, e⟩ => ?_⟩⟩
  · rw [← ek]
    show _ :: _ = ((key z).headD 0 + _) :: (key z).tail.set i _
    rw [set_is (comps_nodup s) hc inv.len, hz.2]; rfl
  · exact ext_mono inv hy.1.reach.inv (by rw [hz.2, hy.2]) ex e (mz y hy)
theorem pfor_best {P : Nat → List Nat} {m : Nat} (hp : prices.length = (companies s).length) (hm : m < 256) (h8 : (companies s).length ≤ 8) (b : ∀ i, i < (companies s).length → okLast g m i = true → Best (ForM s h party prices target (m - 2 ^ i)) (P (m - 2 ^ i))) :
    ∀ n, n ≤ (companies s).length → Best (fun z => ∃ i, i < n ∧ okLast g m i = true ∧ ForI s h party prices target m i z) (pfor s h party prices g P m n)
  | 0, _ => Best.none fun z ⟨i, hi, _⟩ => absurd hi (Nat.not_lt_zero _)
  | n + 1, hn => by
    have ih := pfor_best hp hm h8 b n (by omega)
    show Best _ (if okLast g m n = true then bt (pfor s h party prices g P m n) (pbl s h party prices P m n) else pfor s h party prices g P m n)
    by_cases ho : okLast g m n = true
    · rw [if_pos ho]
      have hb : m.testBit n = true := by
        unfold okLast at ho
        rw [Bool.and_eq_true] at ho
        exact ho.1
      refine (ih.or (pbl_best hp (by omega) hm h8 hb (b n (by omega) ho))).congr fun z => ?_
      constructor
      · rintro (⟨i, h1, h2, h3⟩ | q)
        · exact ⟨i, by omega, h2, h3⟩
        · exact ⟨n, by omega, ho, q⟩
      · rintro ⟨i, h1, h2, h3⟩
        by_cases e : i = n
        · subst e; exact .inr h3
        · exact .inl ⟨i, by omega, h2, h3⟩
    · rw [if_neg ho]
      refine ih.congr fun z => ?_
      constructor
      · rintro ⟨i, h1, h2, h3⟩
        exact ⟨i, by omega, h2, h3⟩
      · rintro ⟨i, h1, h2, h3⟩
        by_cases e : i = n
        · subst e; exact absurd h2 ho
        · exact ⟨i, by omega, h2, h3⟩
/-- the plans for a number are those come to by its last company -/
theorem form_iff {m : Nat} (hp : prices.length = (companies s).length) (hg : (companies s)[g]? = some target) (hm : m < 2 ^ (companies s).length) (h0 : 0 < m) (h8 : (companies s).length ≤ 8) (z : Plan) :
    (∃ i, i < (companies s).length ∧ okLast g m i = true ∧ ForI s h party prices target m i z) ↔ ForM s h party prices target m z := by
  have cs := comps_sorted s
  have nd := comps_nodup s
  have hm8 : m < 256 := Nat.lt_of_lt_of_le hm (Nat.pow_le_pow_right (by decide) h8)
  have hgl := (List.getElem?_eq_some_iff.mp hg).1
  constructor
  · rintro ⟨i, hi, ho, y, ⟨r, em⟩, e⟩
    have hc : (companies s)[i]? = some ((companies s).getD i 0) := by
      rw [List.getD_eq_getElem?_getD, List.getElem?_eq_getElem hi]; rfl
    have hpi : prices[i]? = some (prices.getD i 0) := by
      rw [List.getD_eq_getElem?_getD, List.getElem?_eq_getElem (by omega)]; rfl
    unfold okLast at ho
    rw [Bool.and_eq_true, Bool.or_eq_true] at ho
    obtain ⟨hb, ho⟩ := ho
    obtain ⟨hput, hnm⟩ := memb_sub cs h8 hm8 hc hb
    have hzip : ((companies s).getD i 0, prices.getD i 0) ∈ (companies s).zip prices := by
      apply List.mem_of_getElem? (i := i)
      simp only [List.zip, List.getElem?_zipWith, hc, hpi]
    refine ⟨.step r ?_ hzip e, ?_⟩
    · rw [em]
      intro q
      rcases ho with ho | ho
      · have e1 : i = g := by simpa using ho
        subst e1
        rw [hc] at hg
        rw [Option.some.inj hg] at hnm
        exact hnm q
      · obtain ⟨j, h1, h2⟩ := mem_memb.mp q
        have e1 := getElem_inj_nd nd h1 hg
        subst e1
        rw [(bit1 m hm8 i (by omega) hb).2 j (by omega), Bool.and_eq_true] at h2
        rw [h2.1] at ho
        cases ho
    · obtain ⟨_, _, _, rfl⟩ := ext_some e
      show putDay _ y.members = _
      rw [em, hput]
  · rintro ⟨r, em⟩
    cases r with
    | start =>
      exfalso
      -- no company in the number: it is 0
      have : ∀ j, j < (companies s).length → m.testBit j = false := fun j hj => by
        rw [Bool.eq_false_iff]
        intro q
        have hx : (companies s)[j]? = some (companies s)[j] := List.getElem?_eq_getElem hj
        have : (companies s)[j] ∈ memb (companies s) m := mem_memb.mpr ⟨j, hx, q⟩
        rw [← em] at this
        cases this
      have hz : m = 0 := by
        apply Nat.eq_of_testBit_eq
        intro j
        rw [Nat.zero_testBit]
        by_cases hj : j < (companies s).length
        · exact this j hj
        · exact Nat.testBit_lt_two_pow (Nat.lt_of_lt_of_le hm (Nat.pow_le_pow_right (by decide) (by omega)))
      omega
    | @step y _ c p r hn hz e =>
      obtain ⟨i, hi⟩ := List.mem_iff_getElem?.mp hz
      have hci : (companies s)[i]? = some c ∧ prices[i]? = some p := by
        simp only [List.zip, List.getElem?_zipWith] at hi
        cases e1 : (companies s)[i]? with
        | none => rw [e1] at hi; simp at hi
        | some a =>
          cases e2 : prices[i]? with
          | none => rw [e1, e2] at hi; simp at hi
          | some b =>
            rw [e1, e2] at hi
            have : (a, b) = (c, p) := by simpa using hi
            cases this
            exact ⟨rfl, rfl⟩
      obtain ⟨hc, hpp⟩ := hci
      have hil := (List.getElem?_eq_some_iff.mp hc).1
      obtain ⟨e1, e2, e3, e4⟩ := ext_some e
      have em' : putDay c y.members = memb (companies s) m := by rw [← em, e4]
      have hb : m.testBit i = true := by
        have : c ∈ memb (companies s) m := by rw [← em']; exact mem_put.mpr (.inl rfl)
        obtain ⟨j, h1, h2⟩ := mem_memb.mp this
        rw [getElem_inj_nd nd hc h1]; exact h2
      obtain ⟨hput, hnm⟩ := memb_sub cs h8 hm8 hc hb
      have ey : y.members = memb (companies s) (m - 2 ^ i) := by
        refine sorted_ext r.reach.inv.srt (memb_sorted cs _) fun x => ?_
        have h1 : x ∈ putDay c y.members ↔ x ∈ putDay c (memb (companies s) (m - 2 ^ i)) := by rw [em', hput]
        rw [mem_put, mem_put] at h1
        constructor
        · intro q
          rcases h1.mp (.inr q) with z | z
          · subst z; exact absurd q e2
          · exact z
        · intro q
          rcases h1.mpr (.inr q) with z | z
          · subst z; exact absurd q hnm
          · exact z
      refine ⟨i, hil, ?_, y, ⟨r, ey⟩, ?_⟩
      · unfold okLast
        rw [hb, Bool.true_and, Bool.or_eq_true]
        by_cases q : m.testBit g = true
        · left
          have hmt : target ∈ memb (companies s) m := mem_memb.mpr ⟨g, hg, q⟩
          rw [← em', mem_put] at hmt
          rcases hmt with z | z
          · subst z
            rw [getElem_inj_nd nd hc hg]; simp
          · exact absurd z hn
        · right
          rw [Bool.not_eq_true'] ; exact Bool.eq_false_iff.mpr q
      · have h1 : (companies s).getD i 0 = c := by rw [List.getD_eq_getElem?_getD, hc]; rfl
        have h2 : prices.getD i 0 = p := by rw [List.getD_eq_getElem?_getD, hpp]; rfl
        rw [h1, h2]; exact e
theorem PLs_len : ∀ k, (PLs s h party prices g k).length = k + 1
  | 0 => rfl
  | k + 1 => by
    show (PLs s h party prices g k ++ [_]).length = _
    rw [List.length_append, PLs_len k]; rfl
theorem PLs_at : ∀ (k j : Nat), j ≤ k → (PLs s h party prices g k).getD j [] = (PLs s h party prices g j).getD j []
  | 0, j, hj => by
    have : j = 0 := by omega
    subst this; rfl
  | k + 1, j, hj => by
    by_cases e : j = k + 1
    · subst e; rfl
    · rw [← PLs_at k j (by omega)]
      show (PLs s h party prices g k ++ [_]).getD j [] = _
      rw [List.getD_eq_getElem?_getD, List.getD_eq_getElem?_getD, List.getElem?_append_left (by rw [PLs_len]; omega)]
theorem PLs_last (k : Nat) : (PLs s h party prices g (k + 1)).getD (k + 1) [] = pfor s h party prices g (fun b => (PLs s h party prices g k).getD b []) (k + 1) (companies s).length := by
  show (PLs s h party prices g k ++ [_]).getD (k + 1) [] = _
  rw [List.getD_eq_getElem?_getD, List.getElem?_append_right (by rw [PLs_len]; omega), PLs_len, Nat.sub_self]; rfl
theorem PLs_best (hp : prices.length = (companies s).length) (hg : (companies s)[g]? = some target) (h8 : (companies s).length ≤ 8) : ∀ m, m < 2 ^ (companies s).length → Best (ForM s h party prices target m) ((PLs s h party prices g m).getD m [])
  | 0, _ => by
    show Best _ (0 :: List.replicate (companies s).length 0)
    have ek : key (emptyPlan s) = 0 :: List.replicate (companies s).length 0 := by
      unfold key emptyPlan
      rw [List.map_const']
    have em : memb (companies s) 0 = [] := by
      unfold memb
      simp
    refine ⟨fun q => (by cases q), fun _ => ⟨emptyPlan s, ⟨.start, by rw [em]; rfl⟩, ek, fun z ⟨r, e⟩ => ?_⟩⟩
    rw [em] at e
    cases r with
    | start => exact Le.refl _
    | @step y _ c p _ _ _ ex =>
      obtain ⟨_, _, _, rfl⟩ := ext_some ex
      have : c ∈ putDay c y.members := mem_put.mpr (.inl rfl)
      have e' : putDay c y.members = [] := e
      rw [e'] at this
      cases this
  | m + 1, hm => by
    have hm8 : m + 1 < 256 := Nat.lt_of_lt_of_le hm (Nat.pow_le_pow_right (by decide) h8)
    rw [PLs_last]
    refine (pfor_best (g := g) (target := target) hp hm8 h8 (fun i hi ho => ?_) (companies s).length (Nat.le_refl _)).congr fun z => form_iff hp hg hm (by omega) h8 z
    unfold okLast at ho
    rw [Bool.and_eq_true] at ho
    have hlt := (bit1 (m + 1) hm8 i (by omega) ho.1).1
    have ih := PLs_best hp hg h8 (m + 1 - 2 ^ i) (by omega)
    rw [PLs_at m (m + 1 - 2 ^ i) (by omega)]
    exact ih
termination_by m => m
theorem bestP_best (hp : prices.length = (companies s).length) (hg : (companies s)[g]? = some target) (h8 : (companies s).length ≤ 8) : ∀ k, k < 2 ^ (companies s).length → Best (fun z => ∃ m, m ≤ k ∧ 0 < m ∧ m.testBit g = true ∧ ForM s h party prices target m z) (bestP s h party prices g k)
  | 0, _ => Best.none fun z ⟨m, h1, h2, _⟩ => by omega
  | k + 1, hk => by
    have ih := bestP_best hp hg h8 k (by omega)
    show Best _ (if (k + 1).testBit g = true then bt (bestP s h party prices g k) _ else bestP s h party prices g k)
    by_cases ho : (k + 1).testBit g = true
    · rw [if_pos ho]
      refine (ih.or (PLs_best hp hg h8 (k + 1) hk)).congr fun z => ?_
      constructor
      · rintro (⟨i, h1, h2, h3⟩ | q)
        · exact ⟨i, by omega, h2, h3⟩
        · exact ⟨k + 1, Nat.le_refl _, by omega, ho, q⟩
      · rintro ⟨i, h1, h2, h3, h4⟩
        by_cases e : i = k + 1
        · subst e; exact .inr h4
        · exact .inl ⟨i, by omega, h2, h3, h4⟩
    · rw [if_neg ho]
      refine ih.congr fun z => ?_
      constructor
      · rintro ⟨i, h1, h2, h3⟩
        exact ⟨i, by omega, h2, h3⟩
      · rintro ⟨i, h1, h2, h3, h4⟩
        by_cases e : i = k + 1
        · subst e; exact absurd h3 ho
        · exact ⟨i, by omega, h2, h3, h4⟩
theorem RG.mask (h8 : (companies s).length ≤ 8) {z : Plan} (r : RG s h party prices target z) : ∃ m, m < 2 ^ (companies s).length ∧ z.members = memb (companies s) m := by
  induction r with
  | start => exact ⟨0, Nat.two_pow_pos _, by simp [memb, emptyPlan]⟩
  | @step y z c p r hn hz e ih =>
    obtain ⟨m, h1, h2⟩ := ih
    obtain ⟨_, e2, _, rfl⟩ := ext_some e
    obtain ⟨i, hi⟩ := List.mem_iff_getElem?.mp (List.of_mem_zip hz).1
    obtain ⟨a, b, _, _⟩ := memb_add (comps_sorted s) h8 h1 hi (by rw [← h2]; exact e2)
    exact ⟨m + 2 ^ i, a, by show putDay c y.members = _; rw [h2, b]⟩
theorem final_best (hp : prices.length = (companies s).length) (hg : (companies s)[g]? = some target) (h8 : (companies s).length ≤ 8) : Best (fun z => Reach s h party prices z ∧ target ∈ z.members) (bestP s h party prices g (2 ^ (companies s).length - 1)) := by
  have hpos := Nat.two_pow_pos (companies s).length
  refine best_cut ((bestP_best hp hg h8 (2 ^ (companies s).length - 1) (by omega)).congr fun z => ?_)
  constructor
  · rintro ⟨m, _, _, h3, r, em⟩
    exact ⟨r, by rw [em]; exact mem_memb.mpr ⟨g, hg, h3⟩⟩
  · rintro ⟨r, hm⟩
    obtain ⟨m, h1, h2⟩ := r.mask h8
    rw [h2] at hm
    obtain ⟨j, j1, j2⟩ := mem_memb.mp hm
    have e := getElem_inj_nd (comps_nodup s) j1 hg
    subst e
    have m0 : 0 < m := by
      rcases Nat.eq_zero_or_pos m with z | z
      · subst z; rw [Nat.zero_testBit] at j2; cases j2
      · exact z
    exact ⟨m, by omega, m0, j2, r, h2⟩
end
end Cr
namespace Cr
open Valdgg

/-- the purchases of a plan, as the program tells them -/
def purP (cs pl : List Nat) : Nat → List Int
  | 0 => []
  | i + 1 => purP cs pl i ++ if pl.getD (i + 1) 0 = 0 then [] else [((cs.getD i 0 : Nat) : Int), ((pl.getD (i + 1) 0 : Nat) : Int)]
theorem purP_le (cs pl : List Nat) : ∀ n, (purP cs pl n).length ≤ 2 * n
  | 0 => Nat.le_refl _
  | n + 1 => by
    have := purP_le cs pl n
    show List.length (purP cs pl n ++ _) ≤ _
    rw [List.length_append]
    by_cases h : pl.getD (n + 1) 0 = 0
    · rw [if_pos h]; simp only [List.length_nil]; omega
    · rw [if_neg h]; simp only [List.length_cons, List.length_nil]; omega
theorem zip_range {cs ps : List Nat} (h : ps.length = cs.length) : cs.zip ps = (List.range cs.length).map fun i => (cs.getD i 0, ps.getD i 0) := by
  apply List.ext_getElem?
  intro i
  simp only [List.zip, List.getElem?_zipWith, List.getElem?_map]
  by_cases hi : i < cs.length
  · rw [List.getElem?_range hi, List.getElem?_eq_getElem hi, List.getElem?_eq_getElem (by omega : i < ps.length)]
    simp [hi, h]
  · rw [List.getElem?_eq_none (l := cs) (by omega), List.getElem?_eq_none (l := List.range cs.length) (by rw [List.length_range]; omega)]; rfl
theorem pur_is {cs ps : List Nat} (c : Nat) (h : ps.length = cs.length) : nats (((cs.zip ps).filter fun y => y.2 != 0).flatMap fun y => [y.1, y.2]) = purP cs (c :: ps) cs.length ∧ (purP cs (c :: ps) cs.length).length = 2 * ((cs.zip ps).filter fun y => y.2 != 0).length := by
  rw [zip_range h]
  generalize cs.length = n
  induction n with
  | zero => exact ⟨rfl, rfl⟩
  | succ n ih =>
    obtain ⟨i1, i2⟩ := ih
    have e : (c :: ps).getD (n + 1) 0 = ps.getD n 0 := by
      rw [List.getD_eq_getElem?_getD, List.getD_eq_getElem?_getD, List.getElem?_cons_succ]
    rw [List.range_succ, List.map_append, List.filter_append, List.flatMap_append]
    unfold nats at i1 ⊢
    rw [List.map_append, i1]
    show _ = purP cs (c :: ps) n ++ _ ∧ (purP cs (c :: ps) n ++ _).length = _
    rw [e, List.length_append, i2, List.length_append]
    show _ ++ List.map _ (List.flatMap _ (List.filter _ [(cs.getD n 0, ps.getD n 0)])) = _ ∧ _ = 2 * (_ + (List.filter _ [(cs.getD n 0, ps.getD n 0)]).length)
    rw [List.filter_cons]
    by_cases z : ps.getD n 0 = 0
    · rw [if_pos z, if_neg (by simp only [bne_iff_ne, ne_eq]; exact fun q => q z)]
      exact ⟨rfl, by simp only [List.filter_nil, List.length_nil]; omega⟩
    · rw [if_neg z, if_pos (by simp only [bne_iff_ne, ne_eq]; exact z)]
      refine ⟨rfl, ?_⟩
      simp only [List.filter_nil, List.length_cons, List.length_nil]
      omega
def planP (s : State) (pl : List Nat) : List Int := if pl = [] then [-9] else [0, ((pl.headD 0 : Nat) : Int), ((purP (comps s.parties) pl (comps s.parties).length).length : Int) / 2] ++ purP (comps s.parties) pl (comps s.parties).length
theorem plan_is (s : State) (d p t : Int) (prices : List Int) : answerOf s (.cheapestControl d p t prices) = if plcode s d p t prices ≠ 0 then [plcode s d p t prices] else planP s ((cheapestPlan s d.toNat p.toNat t.toNat (prices.map Int.toNat)).elim [] key) := by
  show planning s d p t prices = _
  unfold planning plcode
  by_cases h1 : (!(isNumber d && isNumber p && isNumber t && prices.all (within 0 maxPrice))) = true
  · rw [if_pos h1, if_pos h1]; rfl
  rw [if_neg h1, if_neg h1]
  by_cases h2 : prices.length ≠ (companies s).length
  · rw [if_pos (.inr h2), if_pos h2]; rfl
  rw [if_neg h2]
  have e : ∀ X : Answer, (if p = t ∨ prices.length ≠ (companies s).length then ([-2] : Answer) else if (!(hasParty s p && hasParty s t)) = true then [-3] else if (!isCompany s t.toNat) = true then [-4] else X) = if p = t then [-2] else if (!(hasParty s p && hasParty s t)) = true then [-3] else if (!isCompany s t.toNat) = true then [-4] else X := fun X => by
    by_cases h3 : p = t
    · rw [if_pos (.inl h3), if_pos h3]
    · rw [if_neg h3, if_neg]
      rw [not_or]
      exact ⟨h3, h2⟩
  rw [e, bcode_split]
  by_cases h4 : bcode s p t ≠ 0
  · rw [if_pos h4, if_pos h4]
  rw [if_neg h4, if_neg h4]
  cases hz : cheapestPlan s d.toNat p.toNat t.toNat (prices.map Int.toNat) with
  | none => rfl
  | some z =>
    have hl : z.percents.length = (comps s.parties).length := by
      have b := spec_best (s := s) (day := d.toNat) (party := p.toNat) (target := t.toNat) (prices := prices.map Int.toNat)
      rw [hz] at b
      obtain ⟨y, ⟨r, _⟩, ek, _⟩ := b.2 (key_ne z)
      have e1 : y.percents = z.percents := by
        have : y.cost :: y.percents = z.cost :: z.percents := ek
        injection this
      rw [← e1]
      exact r.inv.len
    obtain ⟨a, b⟩ := pur_is z.cost hl
    show planRow s z = planP s (z.cost :: z.percents)
    unfold planRow planP
    rw [if_neg (fun q => by cases q)]
    show 0 :: (z.cost : Int) :: (((((comps s.parties).zip z.percents).filter fun y => y.2 != 0).length : Nat) : Int) :: nats ((((comps s.parties).zip z.percents).filter fun y => y.2 != 0).flatMap fun y => [y.1, y.2]) = _
    rw [a, b, half]; rfl
/-- .. by the program's plans -/
theorem plan_best {s : State} (w : WF s) {d p t : Nat} {prices : List Nat} {g : Nat} (hp : prices.length = (comps s.parties).length) (hg : (comps s.parties)[g]? = some t) : (cheapestPlan s d p t prices).elim [] key = bestP s (tb s d s.records.length) p prices g (2 ^ (comps s.parties).length - 1) := by
  have e : tableOf s d = tb s d s.records.length := by
    rw [tableOf_eq, live_eq, tb, List.take_length]
  have b := spec_best (s := s) (day := d) (party := p) (target := t) (prices := prices)
  rw [e] at b
  exact b.uniq (final_best (s := s) hp hg w.nc)
theorem key_len (z : Plan) : (key z).length = z.percents.length + 1 := rfl
/-- each plan in the list is none, or has a percent for each company -/
theorem bt_or (a b : List Nat) : bt a b = a ∨ bt a b = b := by
  unfold bt
  split
  · exact .inr rfl
  · split
    · exact .inl rfl
    · split
      · exact .inr rfl
      · exact .inl rfl
def Okl (n : Nat) (l : List Nat) : Prop := l = [] ∨ l.length = n + 1
theorem Okl.bt {n : Nat} {a b : List Nat} (ha : Okl n a) (hb : Okl n b) : Okl n (bt a b) := by
  rcases bt_or a b with e | e
  · rw [e]; exact ha
  · rw [e]; exact hb
section
variable {s : State} {h : Table} {party : Nat} {prices : List Nat} {g : Nat}
theorem pbl_ok {P : Nat → List Nat} {m i : Nat} (hP : ∀ b, Okl (companies s).length (P b)) : Okl (companies s).length (pbl s h party prices P m i) := by
  unfold pbl
  by_cases h1 : (companies s).getD i 0 = party ∨ P (m - 2 ^ i) = []
  · rw [if_pos h1]; exact .inl rfl
  rw [if_neg h1]
  split
  · exact .inl rfl
  · right
    rw [List.length_cons, List.length_set, List.length_tail]
    rcases hP (m - 2 ^ i) with q | q
    · exact absurd (.inr q) h1
    · rw [q]; rfl
theorem pfor_ok {P : Nat → List Nat} {m : Nat} (hP : ∀ b, Okl (companies s).length (P b)) : ∀ n, Okl (companies s).length (pfor s h party prices g P m n)
  | 0 => .inl rfl
  | n + 1 => by
    show Okl _ (if okLast g m n = true then bt (pfor s h party prices g P m n) (pbl s h party prices P m n) else pfor s h party prices g P m n)
    by_cases ho : okLast g m n = true
    · rw [if_pos ho]
      exact (pfor_ok hP n).bt (pbl_ok hP)
    · rw [if_neg ho]; exact pfor_ok hP n
theorem PLs_ok : ∀ k b, Okl (companies s).length ((PLs s h party prices g k).getD b [])
  | 0, b => by
    cases b with
    | zero => right; show (0 :: List.replicate _ 0).length = _; simp
    | succ b => left; rfl
  | k + 1, b => by
    by_cases hb : b < k + 1
    · have := PLs_ok k b
      show Okl _ ((PLs s h party prices g k ++ [_]).getD b [])
      rw [List.getD_eq_getElem?_getD, List.getElem?_append_left (by rw [PLs_len]; exact hb), ← List.getD_eq_getElem?_getD]
      exact this
    · by_cases e : b = k + 1
      · subst e
        rw [PLs_last]
        exact pfor_ok (fun b => PLs_ok k b) _
      · left
        rw [List.getD_eq_getElem?_getD, List.getElem?_eq_none (by rw [PLs_len]; omega)]; rfl
theorem bestP_ok : ∀ k, Okl (companies s).length (bestP s h party prices g k)
  | 0 => .inl rfl
  | k + 1 => by
    show Okl _ (if (k + 1).testBit g = true then bt (bestP s h party prices g k) _ else bestP s h party prices g k)
    split
    · exact (bestP_ok k).bt (PLs_ok _ _)
    · exact bestP_ok k
end
end Cr
namespace Cr
open Valdgg

/-! ### valid days, by sums -/
def hsum (ts : List Trade) (d : Nat) (F : List Nat) (c : Nat) : Int := (F.map fun p => hf ts d p c).sum
theorem heldIn_tab {n : Nat} {ts : List Trade} {d : Nat} {F : List Nat} {c : Nat} (hF : ∀ p ∈ F, p < n) (hc : c < n) : heldIn (tabOf n ts d) F c = hsum ts d F c := by
  rw [heldIn_sum]
  unfold hsum
  congr 1
  apply List.map_congr_left
  intro p hp
  exact held_tab ts d (hF p hp) hc
theorem closed_fix {h : Table} : ∀ (k : Nat) (set : List Nat), set.length ≤ k → ∀ c ∈ closedPart h k set, heldIn h (closedPart h k set) c = 100
  | 0, set, hl, c, hc => by
    have : set = [] := List.length_eq_zero_iff.mp (by omega)
    subst this
    cases hc
  | k + 1, set, hl, c, hc => by
    by_cases e : set.filter (fun c => heldIn h set c == whole) = set
    · have fixp : ∀ j, closedPart h j set = set := fun j => by
        induction j with
        | zero => rfl
        | succ j ih =>
          show closedPart h j (set.filter _) = set
          rw [e]; exact ih
      rw [fixp] at hc ⊢
      have := List.filter_eq_self.mp e c hc
      exact beq_iff_eq.mp this
    · have hl2 : (set.filter fun c => heldIn h set c == whole).length ≤ k := by
        have h1 := List.length_filter_le (fun c => heldIn h set c == whole) set
        have h2 : (set.filter fun c => heldIn h set c == whole).length ≠ set.length := fun z => e (List.filter_sublist.eq_of_length z)
        omega
      exact closed_fix k _ hl2 c hc
structure Val (ps : List Bool) (ts : List Trade) (d : Nat) : Prop where
  nn : ∀ c ∈ comps ps, ∀ p, p < ps.length → 0 ≤ hf ts d p c
  le : ∀ c ∈ comps ps, hsum ts d (List.range ps.length) c ≤ 100
  no : ∀ F : List Nat, F.Sublist (comps ps) → F ≠ [] → ∃ c ∈ F, hsum ts d F c ≠ 100
theorem val_iff (ps : List Bool) (ts : List Trade) (d : Nat) : validT ps ts d = true ↔ Val ps ts d := by
  rw [isV_iff]
  have er : ∀ c ∈ comps ps, heldIn (tabOf ps.length ts d) (List.range ps.length) c = hsum ts d (List.range ps.length) c := fun c hc => heldIn_tab (fun p hp => List.mem_range.mp hp) (comps_lt hc)
  have eF : ∀ F : List Nat, F.Sublist (comps ps) → ∀ c ∈ F, heldIn (tabOf ps.length ts d) F c = hsum ts d F c := fun F hF c hc => heldIn_tab (fun p hp => comps_lt (hF.subset hp)) (comps_lt (hF.subset hc))
  constructor
  · rintro ⟨a, b⟩
    refine ⟨fun c hc p hp => (a c hc).1 p hp, fun c hc => by rw [← er c hc]; exact (a c hc).2, fun F hF hne => ?_⟩
    apply Classical.byContradiction
    intro no
    have all : ∀ c ∈ F, heldIn (tabOf ps.length ts d) F c = 100 := fun c hc => by
      rw [eF F hF c hc]
      apply Classical.byContradiction
      intro z
      exact no ⟨c, hc, z⟩
    have hv : validT ps ts d = true := (isV_iff ..).mpr ⟨a, b⟩
    have hs := closed_has (comps ps).length hF (fun c hc p hp => held_pos hv (comps_lt hp) (hF.subset hc)) all fun c hc => held_le hv comps_sub (hF.subset hc)
    rw [b] at hs
    exact hne (List.sublist_nil.mp hs)
  · rintro ⟨a, b, c⟩
    refine ⟨fun x hx => ⟨a x hx, by rw [er x hx]; exact b x hx⟩, ?_⟩
    apply Classical.byContradiction
    intro hne
    have hsub : (closedPart (tabOf ps.length ts d) (comps ps).length (comps ps)).Sublist (comps ps) := by
      have : ∀ (k : Nat) (set : List Nat), (closedPart (tabOf ps.length ts d) k set).Sublist set := fun k => by
        induction k with
        | zero => exact fun set => List.Sublist.refl _
        | succ k ih => exact fun set => (ih _).trans List.filter_sublist
      exact this _ _
    obtain ⟨x, hx, z⟩ := c _ hsub hne
    apply z
    rw [← eF _ hsub x hx]
    exact closed_fix _ _ (Nat.le_refl _) x hx
/-- what is held elsewhere is nothing -/
theorem hf_out {ps : List Bool} {ts : List Trade} (h : InP ps ts) {d p c : Nat} (hp : ps.length ≤ p) : hf ts d p c = 0 := by
  have e : (ts.filter fun t => decide (t.day ≤ d)).filter (fun t => t.owner == p && t.company == c) = [] := by
    rw [List.filter_eq_nil_iff]
    intro t ht z
    rw [Bool.and_eq_true, beq_iff_eq, beq_iff_eq] at z
    have := (h t (List.mem_filter.mp ht).1).1
    omega
  unfold hf
  rw [e]; rfl
theorem comps_snoc (ps : List Bool) (b : Bool) : comps (ps ++ [b]) = comps ps ++ if b then [ps.length] else [] := by
  unfold comps
  rw [List.length_append]
  show List.filter _ (List.range (ps.length + 1)) = _
  rw [List.range_succ, List.filter_append]
  congr 1
  · apply List.filter_congr
    intro p hp
    rw [List.getElem?_append_left (List.mem_range.mp hp)]
  · rw [List.filter_cons]
    have : ((ps ++ [b])[ps.length]?).getD false = b := by simp
    rw [this]
    cases b <;> rfl
theorem val_party {ps : List Bool} {ts : List Trade} {d : Nat} (h : InP ps ts) (v : Val ps ts d) (b : Bool) : Val (ps ++ [b]) ts d := by
  have hN : ∀ c, c = ps.length → ∀ p, hf ts d p c = 0 := fun c hc p => hf_zero h (by rw [hc, List.getElem?_eq_none (Nat.le_refl _)]; intro z; cases z)
  have hc' : ∀ c ∈ comps (ps ++ [b]), c ∈ comps ps ∨ c = ps.length := fun c hc => by
    rw [comps_snoc] at hc
    rcases List.mem_append.mp hc with q | q
    · exact .inl q
    · right
      cases b with
      | true => exact List.mem_singleton.mp q
      | false => cases q
  refine ⟨fun c hc p hp => ?_, fun c hc => ?_, fun F hF hne => ?_⟩
  · rcases hc' c hc with q | q
    · by_cases z : p < ps.length
      · exact v.nn c q p z
      · rw [hf_out h (by omega)]; exact Int.le_refl _
    · rw [hN c q]; exact Int.le_refl _
  · have e : hsum ts d (List.range (ps ++ [b]).length) c = hsum ts d (List.range ps.length) c := by
      rw [List.length_append]
      show hsum ts d (List.range (ps.length + 1)) c = _
      unfold hsum
      rw [List.range_succ, List.map_append, List.sum_append]
      simp [hf_out h (Nat.le_refl ps.length)]
    rw [e]
    rcases hc' c hc with q | q
    · exact v.le c q
    · have : hsum ts d (List.range ps.length) c = 0 := by
        unfold hsum
        have : (List.range ps.length).map (fun p => hf ts d p c) = (List.range ps.length).map fun _ => (0 : Int) := List.map_congr_left fun p _ => hN c q p
        rw [this]
        generalize List.range ps.length = l
        induction l with
        | nil => rfl
        | cons x r ih => rw [List.map_cons, List.sum_cons, ih]; rfl
      rw [this]; decide
  · by_cases hm : ps.length ∈ F
    · refine ⟨_, hm, ?_⟩
      have : hsum ts d F ps.length = 0 := by
        unfold hsum
        have : F.map (fun p => hf ts d p ps.length) = F.map fun _ => (0 : Int) := List.map_congr_left fun p _ => hN _ rfl p
        rw [this]
        clear this hm hne hF
        induction F with
        | nil => rfl
        | cons x r ih => rw [List.map_cons, List.sum_cons, ih]; rfl
      rw [this]; decide
    · refine v.no F ?_ hne
      rw [comps_snoc] at hF
      cases b with
      | false => rwa [if_neg Bool.false_ne_true, List.append_nil] at hF
      | true =>
        rw [if_pos rfl] at hF
        obtain ⟨a, c, e, h1, h2⟩ := List.sublist_append_iff.mp hF
        subst e
        have : c = [] := by
          cases c with
          | nil => rfl
          | cons x r =>
            have : x = ps.length := List.mem_singleton.mp (h2.subset List.mem_cons_self)
            subst this
            exact absurd (List.mem_append_right _ List.mem_cons_self) hm
        subst this
        rw [List.append_nil]; exact h1
/-! ### days between trades -/
theorem hf_days {ts : List Trade} {d d' : Nat} (h : ∀ t ∈ ts, (t.day ≤ d ↔ t.day ≤ d')) (p c : Nat) : hf ts d p c = hf ts d' p c := by
  unfold hf
  have e : ts.filter (fun t => decide (t.day ≤ d)) = ts.filter fun t => decide (t.day ≤ d') := List.filter_congr fun t ht => by
    rw [Bool.eq_iff_iff, decide_eq_true_eq, decide_eq_true_eq]
    exact h t ht
  rw [e]
theorem val_days {ps : List Bool} {ts : List Trade} {d d' : Nat} (h : ∀ t ∈ ts, (t.day ≤ d ↔ t.day ≤ d')) (v : Val ps ts d') : Val ps ts d := by
  have e : hf ts d = hf ts d' := funext fun p => funext fun c => hf_days h p c
  have e2 : hsum ts d = hsum ts d' := funext fun F => funext fun c => by unfold hsum; rw [e]
  obtain ⟨a, b, c⟩ := v
  exact ⟨by rw [e]; exact a, by rw [e2]; exact b, by rw [e2]; exact c⟩
/-- the last of the days up to d -/
theorem last_day : ∀ (l : List Nat) (d : Nat), (∀ x ∈ l, d < x) ∨ ∃ y ∈ l, y ≤ d ∧ ∀ x ∈ l, x ≤ d → x ≤ y
  | [], d => .inl fun _ h => nomatch h
  | a :: l, d => by
    rcases last_day l d with h | ⟨y, h1, h2, h3⟩
    · by_cases ha : a ≤ d
      · refine .inr ⟨a, List.mem_cons_self, ha, fun x hx hd => ?_⟩
        rcases List.mem_cons.mp hx with rfl | hx
        · exact Nat.le_refl _
        · have := h x hx; omega
      · refine .inl fun x hx => ?_
        rcases List.mem_cons.mp hx with rfl | hx
        · omega
        · exact h x hx
    · by_cases ha : a ≤ d ∧ y ≤ a
      · refine .inr ⟨a, List.mem_cons_self, ha.1, fun x hx hd => ?_⟩
        rcases List.mem_cons.mp hx with rfl | hx
        · exact Nat.le_refl _
        · exact Nat.le_trans (h3 x hx hd) ha.2
      · refine .inr ⟨y, List.mem_cons_of_mem _ h1, h2, fun x hx hd => ?_⟩
        rcases List.mem_cons.mp hx with rfl | hx
        · omega
        · exact h3 x hx hd
theorem val_none {ps : List Bool} {ts : List Trade} {d : Nat} (h : ∀ t ∈ ts, d < t.day) : Val ps ts d := by
  have z : ∀ p c, hf ts d p c = 0 := fun p c => by
    unfold hf
    have e : ts.filter (fun t => decide (t.day ≤ d)) = [] := List.filter_eq_nil_iff.mpr fun t ht q => by
      have := h t ht
      have := of_decide_eq_true q
      omega
    rw [e]; rfl
  have z2 : ∀ F c, hsum ts d F c = 0 := fun F c => by
    unfold hsum
    induction F with
    | nil => rfl
    | cons x r ih => rw [List.map_cons, List.sum_cons, z, ih]; rfl
  refine ⟨fun c _ p _ => by rw [z]; exact Int.le_refl _, fun c _ => by rw [z2]; decide, fun F hF hne => ?_⟩
  cases F with
  | nil => exact absurd rfl hne
  | cons x r => exact ⟨x, List.mem_cons_self, by rw [z2]; decide⟩
/-- valid on all days of trades: valid always -/
theorem val_always {ps : List Bool} {ts : List Trade} (h : ∀ t ∈ ts, Val ps ts t.day) (d : Nat) : Val ps ts d := by
  rcases last_day (ts.map fun t => t.day) d with q | ⟨y, h1, h2, h3⟩
  · exact val_none fun t ht => q _ (List.mem_map.mpr ⟨t, ht, rfl⟩)
  · obtain ⟨t, ht, rfl⟩ := List.mem_map.mp h1
    refine val_days (fun u hu => ?_) (h t ht)
    have := h3 u.day (List.mem_map.mpr ⟨u, hu, rfl⟩)
    omega
/-- one trade more: valid before its day as it was, on its day and on later days of trades -/
theorem val_after {ps : List Bool} {ts : List Trade} {t : Trade} (h0 : ∀ d, Val ps ts d) (h1 : Val ps (ts ++ [t]) t.day) (h2 : ∀ u ∈ ts ++ [t], t.day < u.day → Val ps (ts ++ [t]) u.day) (d : Nat) : Val ps (ts ++ [t]) d := by
  by_cases hd : d < t.day
  · have e : hf (ts ++ [t]) d = hf ts d := funext fun p => funext fun c => by
      rw [hf_add, if_neg (fun z => by omega)]
    have e2 : hsum (ts ++ [t]) d = hsum ts d := funext fun F => funext fun c => by unfold hsum; rw [e]
    obtain ⟨a, b, c⟩ := h0 d
    exact ⟨by rw [e]; exact a, by rw [e2]; exact b, by rw [e2]; exact c⟩
  · rcases last_day ((ts ++ [t]).map fun t => t.day) d with q | ⟨y, y1, y2, y3⟩
    · have := q t.day (List.mem_map.mpr ⟨t, List.mem_append_right _ (List.mem_singleton_self t), rfl⟩)
      omega
    · obtain ⟨u, hu, rfl⟩ := List.mem_map.mp y1
      have hle := y3 t.day (List.mem_map.mpr ⟨t, List.mem_append_right _ (List.mem_singleton_self t), rfl⟩) (by omega)
      refine val_days (d' := u.day) (fun x hx => ?_) ?_
      · have := y3 x.day (List.mem_map.mpr ⟨x, hx, rfl⟩)
        omega
      · by_cases e : u.day = t.day
        · rw [e]; exact h1
        · exact h2 u hu (by omega)
/-! ### each step keeps the state well formed -/
theorem wf_start : WF start := by
  refine ⟨by decide, by decide, by decide, fun d o c p h => (by cases h), fun i r h => ?_, fun n d => ?_⟩
  · simp [start] at h
  · rw [val_iff]
    refine val_none fun t ht => ?_
    have : liveOf ((start).records.take n) = [] := by
      show liveOf (([] : List Record).take n) = []
      rw [List.take_nil]; rfl
    rw [this] at ht
    cases ht
theorem wf_party {s : State} (w : WF s) (b : Bool) (h1 : s.parties.length < 12) (h2 : b = true → (comps s.parties).length < 8) : WF { s with parties := s.parties ++ [b] } := by
  have h8 : (comps s.parties).length ≤ 8 := w.nc
  refine ⟨by show (s.parties ++ [b]).length ≤ 12; rw [List.length_append]; exact h1, ?_, w.nr, fun d o c p h => ?_, w.cn, fun n d => ?_⟩
  · show (comps (s.parties ++ [b])).length ≤ 8
    rw [comps_snoc, List.length_append]
    cases b with
    | false => exact h8
    | true => have := h2 rfl; exact this
  · obtain ⟨a1, a2, a3, a4⟩ := w.tr d o c p h
    refine ⟨?_, ?_, ?_, a4⟩
    · show o < (s.parties ++ [b]).length
      rw [List.length_append]; omega
    · show c < (s.parties ++ [b]).length
      rw [List.length_append]; omega
    · show (s.parties ++ [b])[c]? = some true
      rw [List.getElem?_append_left a2]; exact a3
  · rw [val_iff]
    exact val_party (w.inP n) ((val_iff ..).mp (w.vd n d)) b
theorem cn_snoc {rs : List Record} {x : Record} (h : ∀ (i r : Nat), rs[i]? = some (.cancel r) → r < i) (hx : ∀ r, x = .cancel r → r < rs.length) : ∀ (i r : Nat), (rs ++ [x])[i]? = some (.cancel r) → r < i := fun i r e => by
  by_cases hi : i < rs.length
  · rw [List.getElem?_append_left hi] at e
    exact h i r e
  · rw [List.getElem?_append_right (by omega)] at e
    have h0 : i - rs.length = 0 := by
      have := (List.getElem?_eq_some_iff.mp e).1
      simp at this
      omega
    rw [h0] at e
    have := hx r (by simpa using e)
    omega
theorem wf_trade {s : State} (w : WF s) {k d o c p : Int} (hk : k = 0 ∨ k = 1) (hz : rcode s k d o c p = 0) : WF (recorded s (newR k d o c p)) := by
  have hd0 : dcode s d o c p = 0 := by
    unfold rcode at hz
    split at hz
    · rename_i z; exact absurd hz z
    · rename_i z; exact Classical.byContradiction z
  have hd := dcode_0 hd0
  have hv : vcode s.parties (liveOf s.records ++ [newT k d o c p]) d.toNat = 0 := by
    unfold rcode at hz
    rw [if_neg (fun z => z hd0)] at hz
    exact hz
  have hroom := hd.room
  have hin := inP_new w (k := k) hd
  have a1 := hd.o0; have a2 := hd.o1; have a3 := hd.c0; have a4 := hd.c1; have a5 := hd.p0; have a6 := hd.p1
  have hval : ∀ d', Val s.parties (liveOf s.records ++ [newT k d o c p]) d' := by
    unfold vcode at hv
    split at hv
    · cases hv
    · split at hv
      · cases hv
      · rename_i v1 v2
        rw [Bool.not_eq_true, Bool.not_eq_false'] at v1 v2
        refine val_after (fun d' => ?_) ((val_iff ..).mp v1) fun u hu hlt => ?_
        · have := w.vd s.records.length d'
          rw [List.take_length] at this
          exact (val_iff ..).mp this
        · exact (val_iff ..).mp (List.all_eq_true.mp v2 u.day (List.mem_filter.mpr ⟨List.mem_map.mpr ⟨u, hu, rfl⟩, decide_eq_true hlt⟩))
  refine ⟨w.np, w.nc, ?_, fun d' o' c' p' h => ?_, ?_, fun n d' => ?_⟩
  · show (s.records ++ [_]).length ≤ 40
    rw [List.length_append]
    exact hroom
  · rcases List.mem_append.mp h with q | q
    · exact w.tr d' o' c' p' q
    · have q' : Record.trade d' o' c' p' = newR k d o c p := List.mem_singleton.mp q
      unfold newR at q'
      injection q' with q1 q2 q3 q4
      subst q2 q3 q4
      refine ⟨by show o.toNat < s.parties.length; omega, by show c.toNat < s.parties.length; omega, hd.comp, ?_⟩
      rcases hk with rfl | rfl
      · show (1 : Int) * p ≠ 0 ∧ _ ≤ (1 : Int) * p ∧ (1 : Int) * p ≤ _
        omega
      · show (-1 : Int) * p ≠ 0 ∧ _ ≤ (-1 : Int) * p ∧ (-1 : Int) * p ≤ _
        omega
  · exact cn_snoc w.cn fun r e => by cases e
  · show validT s.parties (liveOf ((s.records ++ [newR k d o c p]).take n)) d' = true
    by_cases hn : n ≤ s.records.length
    · rw [List.take_append_of_le_length hn]
      exact w.vd n d'
    · rw [List.take_of_length_le (by rw [List.length_append]; show _ + 1 ≤ n; omega), val_iff]
      have hl : liveOf (s.records ++ [newR k d o c p]) = liveOf s.records ++ [newT k d o c p] := live_snoc w.cn ..
      rw [hl]
      exact hval d'
theorem wf_cancel {s : State} (w : WF s) {r : Int} (hz : kcode s r = 0) : WF (recorded s (.cancel r.toNat)) := by
  unfold kcode at hz
  split at hz
  · cases hz
  · split at hz
    · cases hz
    · split at hz
      · cases hz
      · split at hz
        · cases hz
        · split at hz
          · cases hz
          · rename_i h1 h2 h3 h4 h5
            rw [Bool.not_eq_true, Bool.not_eq_false'] at h1 h5
            have hr := num_nn h1
            have h3' : ¬ 40 ≤ s.records.length := h3
            refine ⟨w.np, w.nc, ?_, fun d' o' c' p' h => ?_, ?_, fun n d' => ?_⟩
            · show (s.records ++ [_]).length ≤ 40
              rw [List.length_append]
              show _ + 1 ≤ 40
              omega
            · rcases List.mem_append.mp h with q | q
              · exact w.tr d' o' c' p' q
              · cases List.mem_singleton.mp q
            · refine cn_snoc w.cn fun q e => ?_
              injection e with e
              omega
            · show validT s.parties (liveOf ((s.records ++ [Record.cancel r.toNat]).take n)) d' = true
              by_cases hn : n ≤ s.records.length
              · rw [List.take_append_of_le_length hn]
                exact w.vd n d'
              · rw [List.take_of_length_le (by rw [List.length_append]; show _ + 1 ≤ n; omega), val_iff]
                exact val_always (fun t ht => (val_iff ..).mp (List.all_eq_true.mp h5 t.day (List.mem_map.mpr ⟨t, ht, rfl⟩))) d'
structure WF2 (s : State) : Prop where
  w : WF s
  ni : (investors s).length ≤ 4
theorem inv_comps (s : State) : (investors s).length + (comps s.parties).length = s.parties.length := by
  have := filter_not_len (isCompany s) (List.range s.parties.length)
  rw [List.length_range] at this
  exact this
theorem wf2_start : WF2 start := ⟨wf_start, by decide⟩
theorem wf2_step {s : State} (v : WF2 s) (k : Call) : WF2 (step s k).1 := by
  obtain ⟨w, ni⟩ := v
  have h8 : (comps s.parties).length ≤ 8 := w.nc
  have e := inv_comps s
  have ei : ∀ b, (investors { s with parties := s.parties ++ [b] }).length = (investors s).length + if b then 0 else 1 := fun b => by
    have e2 := inv_comps { s with parties := s.parties ++ [b] }
    have e3 : (comps (s.parties ++ [b])).length = (comps s.parties).length + if b then 1 else 0 := by
      rw [comps_snoc, List.length_append]
      cases b <;> rfl
    have e4 : (s.parties ++ [b]).length = s.parties.length + 1 := by rw [List.length_append]; rfl
    have e2' : (investors { s with parties := s.parties ++ [b] }).length + (comps (s.parties ++ [b])).length = (s.parties ++ [b]).length := e2
    rw [e3, e4] at e2'
    cases b
    · show _ = _ + 1
      have e2'' : (investors { s with parties := s.parties ++ [false] }).length + ((comps s.parties).length + 0) = s.parties.length + 1 := e2'
      omega
    · show _ = _ + 0
      have e2'' : (investors { s with parties := s.parties ++ [true] }).length + ((comps s.parties).length + 1) = s.parties.length + 1 := e2'
      omega
  cases k with
  | addInvestor =>
    show WF2 (addingInvestor s).1
    unfold addingInvestor
    split
    · exact ⟨w, ni⟩
    · rename_i h
      have h4 : ¬ 4 ≤ (investors s).length := h
      refine ⟨wf_party w false (by omega) fun z => (by cases z), ?_⟩
      have := ei false
      have e5 : (investors { s with parties := s.parties ++ [false] }).length = (investors s).length + 1 := this
      show (investors { s with parties := s.parties ++ [false] }).length ≤ 4
      omega
  | addCompany =>
    show WF2 (addingCompany s).1
    unfold addingCompany
    split
    · exact ⟨w, ni⟩
    · rename_i h
      have h8 : ¬ 8 ≤ (comps s.parties).length := h
      refine ⟨wf_party w true (by omega) fun _ => by omega, ?_⟩
      have e5 : (investors { s with parties := s.parties ++ [true] }).length = (investors s).length + 0 := ei true
      show (investors { s with parties := s.parties ++ [true] }).length ≤ 4
      omega
  | acquire d o c p =>
    show WF2 (trading s (sgn 0) d o c p).1
    unfold trading
    rw [traded_is w]
    by_cases h : rcode s 0 d o c p ≠ 0
    · rw [if_pos h]; exact ⟨w, ni⟩
    · rw [if_neg h]; exact ⟨wf_trade w (.inl rfl) (Classical.byContradiction h), ni⟩
  | dispose d o c p =>
    show WF2 (trading s (sgn 1) d o c p).1
    unfold trading
    rw [traded_is w]
    by_cases h : rcode s 1 d o c p ≠ 0
    · rw [if_pos h]; exact ⟨w, ni⟩
    · rw [if_neg h]; exact ⟨wf_trade w (.inr rfl) (Classical.byContradiction h), ni⟩
  | cancelRecord r =>
    show WF2 (cancelling s r).1
    rw [cancelling_is]
    by_cases h : kcode s r ≠ 0
    · rw [if_pos h]; exact ⟨w, ni⟩
    · rw [if_neg h]; exact ⟨wf_cancel w (Classical.byContradiction h), ni⟩
  | _ => exact ⟨w, ni⟩
end Cr
namespace Cr
open Valdgg

/-- a call as it stands in the list of numbers -/
def enc : Call → List Int
  | .addInvestor => [0]
  | .addCompany => [1]
  | .acquire d o c p => [2, d, o, c, p]
  | .previewAcquire d o c p => [3, d, o, c, p]
  | .dispose d o c p => [4, d, o, c, p]
  | .cancelRecord r => [5, r]
  | .holders d c n => [6, d, c, n]
  | .portfolio d o n => [7, d, o, n]
  | .controls d p n => [8, d, p, n]
  | .controlOrder d p n => [9, d, p, n]
  | .controllers d c n => [10, d, c, n]
  | .controlDays p c n => [11, p, c, n]
  | .interest d p c n => [12, d, p, c, n]
  | .floatInterest d c n => [13, d, c, n]
  | .method d p c n => [14, d, p, c, n]
  | .restated d n m => [15, d, n, m]
  | .cheapestControl d p t l => [16, d, p, t, (l.length : Int)] ++ l
  | .status => [17]
theorem whole_id (c : List (List Int)) : PyValdgg.whole c = c := by
  unfold PyValdgg.whole
  split <;> rfl
theorem len1' {r : List Int} (h : ¬ r.length < 1) : ∃ x q, r = x :: q := match r, h with
  | [], h => absurd (by simp) h
  | x :: q, _ => ⟨x, q, rfl⟩
theorem len3 {r : List Int} (h : ¬ r.length < 3) : ∃ x0 x1 x2 q, r = x0 :: x1 :: x2 :: q := match r, h with
  | [], h => absurd (by simp) h
  | [_], h => absurd (by simp) h
  | [_, _], h => absurd (by simp) h
  | x0 :: x1 :: x2 :: q, _ => ⟨x0, x1, x2, q, rfl⟩
theorem len4 {r : List Int} (h : ¬ r.length < 4) : ∃ x0 x1 x2 x3 q, r = x0 :: x1 :: x2 :: x3 :: q := match r, h with
  | [], h => absurd (by simp) h
  | [_], h => absurd (by simp) h
  | [_, _], h => absurd (by simp) h
  | [_, _, _], h => absurd (by simp) h
  | x0 :: x1 :: x2 :: x3 :: q, _ => ⟨x0, x1, x2, x3, q, rfl⟩
/-- one call, taken from the front -/
theorem call_is {p : Int} {r t : List Int} {c : List (List Int)} (h : PyFlat.call PyValdgg.shape (p :: r) = some (c, t)) : ∃ k, ValdggNeutral.callOf c = some k ∧ p :: r = enc k ++ t := by
  unfold PyFlat.call at h
  dsimp only at h
  unfold PyValdgg.shape at h
  have go0 : ∀ n : Nat, (match (some (n, 0) : Option (Nat × Nat)) with
      | none => none
      | some (n, k) => if r.length < n then none else match PyFlat.rows k (r.drop n) with
        | none => none
        | some (xs, t) => some ((p :: r.take n) :: xs, t)) = some (c, t) → ¬ r.length < n ∧ c = [p :: r.take n] ∧ t = r.drop n := fun n e => by
    dsimp only at e
    split at e
    · cases e
    · rename_i hn
      unfold PyFlat.rows at e
      dsimp only at e
      injection e with e
      injection e with e1 e2
      exact ⟨hn, e1.symm, e2.symm⟩
  by_cases h0 : p = 0
  · subst h0
    obtain ⟨a, rfl, rfl⟩ := go0 0 h
    exact ⟨.addInvestor, rfl, rfl⟩
  rw [if_neg h0] at h
  by_cases h1 : p = 1
  · subst h1
    obtain ⟨a, rfl, rfl⟩ := go0 0 h
    exact ⟨.addCompany, rfl, rfl⟩
  rw [if_neg h1] at h
  by_cases h2 : p = 2
  · subst h2
    obtain ⟨a, rfl, rfl⟩ := go0 4 h
    obtain ⟨x0, x1, x2, x3, q, rfl⟩ := len4 a
    exact ⟨.acquire x0 x1 x2 x3, rfl, rfl⟩
  rw [if_neg h2] at h
  by_cases h3 : p = 3
  · subst h3
    obtain ⟨a, rfl, rfl⟩ := go0 4 h
    obtain ⟨x0, x1, x2, x3, q, rfl⟩ := len4 a
    exact ⟨.previewAcquire x0 x1 x2 x3, rfl, rfl⟩
  rw [if_neg h3] at h
  by_cases h4 : p = 4
  · subst h4
    obtain ⟨a, rfl, rfl⟩ := go0 4 h
    obtain ⟨x0, x1, x2, x3, q, rfl⟩ := len4 a
    exact ⟨.dispose x0 x1 x2 x3, rfl, rfl⟩
  rw [if_neg h4] at h
  by_cases h5 : p = 5
  · subst h5
    obtain ⟨a, rfl, rfl⟩ := go0 1 h
    obtain ⟨x0, r0, rfl⟩ := len1' a
    exact ⟨.cancelRecord x0, rfl, rfl⟩
  rw [if_neg h5] at h
  by_cases h6 : p = 6
  · subst h6
    obtain ⟨a, rfl, rfl⟩ := go0 3 h
    obtain ⟨x0, x1, x2, q, rfl⟩ := len3 a
    exact ⟨.holders x0 x1 x2, rfl, rfl⟩
  rw [if_neg h6] at h
  by_cases h7 : p = 7
  · subst h7
    obtain ⟨a, rfl, rfl⟩ := go0 3 h
    obtain ⟨x0, x1, x2, q, rfl⟩ := len3 a
    exact ⟨.portfolio x0 x1 x2, rfl, rfl⟩
  rw [if_neg h7] at h
  by_cases h8 : p = 8
  · subst h8
    obtain ⟨a, rfl, rfl⟩ := go0 3 h
    obtain ⟨x0, x1, x2, q, rfl⟩ := len3 a
    exact ⟨.controls x0 x1 x2, rfl, rfl⟩
  rw [if_neg h8] at h
  by_cases h9 : p = 9
  · subst h9
    obtain ⟨a, rfl, rfl⟩ := go0 3 h
    obtain ⟨x0, x1, x2, q, rfl⟩ := len3 a
    exact ⟨.controlOrder x0 x1 x2, rfl, rfl⟩
  rw [if_neg h9] at h
  by_cases h10 : p = 10
  · subst h10
    obtain ⟨a, rfl, rfl⟩ := go0 3 h
    obtain ⟨x0, x1, x2, q, rfl⟩ := len3 a
    exact ⟨.controllers x0 x1 x2, rfl, rfl⟩
  rw [if_neg h10] at h
  by_cases h11 : p = 11
  · subst h11
    obtain ⟨a, rfl, rfl⟩ := go0 3 h
    obtain ⟨x0, x1, x2, q, rfl⟩ := len3 a
    exact ⟨.controlDays x0 x1 x2, rfl, rfl⟩
  rw [if_neg h11] at h
  by_cases h12 : p = 12
  · subst h12
    obtain ⟨a, rfl, rfl⟩ := go0 4 h
    obtain ⟨x0, x1, x2, x3, q, rfl⟩ := len4 a
    exact ⟨.interest x0 x1 x2 x3, rfl, rfl⟩
  rw [if_neg h12] at h
  by_cases h13 : p = 13
  · subst h13
    obtain ⟨a, rfl, rfl⟩ := go0 3 h
    obtain ⟨x0, x1, x2, q, rfl⟩ := len3 a
    exact ⟨.floatInterest x0 x1 x2, rfl, rfl⟩
  rw [if_neg h13] at h
  by_cases h14 : p = 14
  · subst h14
    obtain ⟨a, rfl, rfl⟩ := go0 4 h
    obtain ⟨x0, x1, x2, x3, q, rfl⟩ := len4 a
    exact ⟨.method x0 x1 x2 x3, rfl, rfl⟩
  rw [if_neg h14] at h
  by_cases h15 : p = 15
  · subst h15
    obtain ⟨a, rfl, rfl⟩ := go0 3 h
    obtain ⟨x0, x1, x2, q, rfl⟩ := len3 a
    exact ⟨.restated x0 x1 x2, rfl, rfl⟩
  rw [if_neg h15] at h
  by_cases h16 : p = 16
  · subst h16
    rw [if_pos rfl] at h
    dsimp only at h
    split at h
    · cases h
    · rename_i a
      obtain ⟨x0, x1, x2, q, rfl⟩ := len3 a
      have ed : (x0 :: x1 :: x2 :: q).drop 3 = q := rfl
      rw [ed] at h
      cases q with
      | nil => simp [PyFlat.rows, PyFlat.row] at h
      | cons n q =>
        by_cases hn : 0 ≤ n ∧ n.toNat ≤ q.length
        · have er : PyFlat.rows 1 (n :: q) = some ([q.take n.toNat], q.drop n.toNat) := by
            have er0 : PyFlat.row (n :: q) = some (q.take n.toNat, q.drop n.toNat) := if_pos hn
            unfold PyFlat.rows
            rw [er0]
            rfl
          rw [er] at h
          dsimp only at h
          injection h with h
          injection h with e1 e2
          subst e1 e2
          refine ⟨.cheapestControl x0 x1 x2 (q.take n.toNat), rfl, ?_⟩
          show _ = ([16, x0, x1, x2, _] ++ _) ++ _
          rw [List.append_assoc, List.take_append_drop, List.length_take, Nat.min_eq_left hn.2, Int.toNat_of_nonneg hn.1]
          rfl
        · have er : PyFlat.rows 1 (n :: q) = none := by
            have er0 : PyFlat.row (n :: q) = none := if_neg hn
            unfold PyFlat.rows
            rw [er0]
          rw [er] at h
          cases h
  rw [if_neg h16] at h
  by_cases h17 : p = 17
  · subst h17
    obtain ⟨a, rfl, rfl⟩ := go0 0 h
    exact ⟨.status, rfl, rfl⟩
  rw [if_neg h17] at h
  cases h
/-- the calls one after another -/
def flatC (ks : List Call) : List Int := ks.flatMap enc
theorem calls_are : ∀ (f : Nat) {l : List Int} {cs : List (List (List Int))}, PyFlat.calls PyValdgg.shape f l = some cs → ∃ ks : List Call, cs.map ValdggNeutral.callOf = ks.map some ∧ l = flatC ks
  | f, [], cs, h => by
    have : cs = [] := by
      cases f <;> (unfold PyFlat.calls at h; exact (Option.some.inj h).symm)
    subst this
    exact ⟨[], rfl, rfl⟩
  | 0, _ :: _, _, h => by unfold PyFlat.calls at h; cases h
  | f + 1, p :: r, cs, h => by
    unfold PyFlat.calls at h
    split at h
    · cases h
    · rename_i c t hc
      split at h
      · cases h
      · rename_i cs' hcs
        have e : cs = c :: cs' := (Option.some.inj h).symm
        subst e
        obtain ⟨k, k1, k2⟩ := call_is hc
        obtain ⟨ks, s1, s2⟩ := calls_are f hcs
        refine ⟨k :: ks, by rw [List.map_cons, List.map_cons, k1, s1], ?_⟩
        rw [k2, s2]; rfl
/-- the answers, told one after another -/
def outs : State → List Call → List Int
  | _, [] => []
  | s, k :: ks => ((step s k).2.length : Int) :: (step s k).2 ++ outs (step s k).1 ks
def stepN : State → List Call → State
  | s, [] => s
  | s, k :: ks => stepN (step s k).1 ks
theorem told_is : ∀ {cs : List (List (List Int))} {ks : List Call} (s : State), cs.map ValdggNeutral.callOf = ks.map some → PyFlat.told (PyFlat.played ValdggNeutral.step s cs) = outs s ks
  | [], [], _, _ => rfl
  | [], _ :: _, _, h => by simp at h
  | _ :: _, [], _, h => by simp at h
  | c :: cs, k :: ks, s, h => by
    rw [List.map_cons, List.map_cons] at h
    injection h with h1 h2
    have e : ValdggNeutral.step s c = step s k := by
      unfold ValdggNeutral.step
      rw [h1]
    have ih := told_is (cs := cs) (ks := ks) (step s k).1 h2
    show PyFlat.told ((ValdggNeutral.step s c).2 :: PyFlat.played ValdggNeutral.step (ValdggNeutral.step s c).1 cs) = _
    rw [e]
    unfold PyFlat.told at ih ⊢
    rw [List.flatMap_cons, ih]; rfl
theorem outs_snoc : ∀ (s : State) (ks : List Call) (k : Call), outs s (ks ++ [k]) = outs s ks ++ (((step (stepN s ks) k).2.length : Int) :: (step (stepN s ks) k).2)
  | s, [], k => by
    show _ :: _ ++ [] = [] ++ _
    rw [List.append_nil, List.nil_append]; rfl
  | s, x :: ks, k => by
    show _ :: _ ++ outs _ (ks ++ [k]) = (_ :: _ ++ outs _ ks) ++ _
    rw [outs_snoc _ ks k, List.append_assoc]; rfl
theorem stepN_snoc : ∀ (s : State) (ks : List Call) (k : Call), stepN s (ks ++ [k]) = (step (stepN s ks) k).1
  | _, [], _ => rfl
  | s, x :: ks, k => stepN_snoc _ ks k
theorem outs_app : ∀ (s : State) (ks ms : List Call), outs s (ks ++ ms) = outs s ks ++ outs (stepN s ks) ms
  | s, [], ms => rfl
  | s, x :: ks, ms => by
    show _ :: _ ++ outs _ (ks ++ ms) = (_ :: _ ++ outs _ ks) ++ _
    rw [outs_app _ ks ms, List.append_assoc]; rfl
def short (k : Call) : Prop := ∀ d p t l, k = .cheapestControl d p t l → l.length ≤ 200
/-- what is asked, told by calls -/
theorem asked_is {l : List Int} (h : PyValdgg.answers_asked l = true) : ∃ ks : List Call, l = flatC ks ∧ PyValdgg.answers l = outs start ks ∧ (outs start ks).length ≤ 10000000 ∧ ks.length ≤ 120 ∧ ∀ k ∈ ks, short k := by
  unfold PyValdgg.answers_asked at h
  split at h
  · cases h
  · rename_i raw hraw
    obtain ⟨ks, k1, k2⟩ := calls_are _ hraw
    rw [Bool.and_eq_true, Bool.and_eq_true, Bool.and_eq_true, Bool.and_eq_true] at h
    obtain ⟨⟨⟨⟨_, h120⟩, _⟩, hask⟩, hshort⟩ := h
    have ew : raw.map PyValdgg.whole = raw := by
      have : PyValdgg.whole = id := funext whole_id
      rw [this, List.map_id]
    have ea : PyValdgg.answers l = outs start ks := by
      unfold PyValdgg.answers PyValdgg.calls
      rw [hraw]
      dsimp only
      rw [ew]
      exact told_is start k1
    have elen : raw.length = ks.length := by
      have := congrArg List.length k1
      rw [List.length_map, List.length_map] at this
      exact this
    refine ⟨ks, k2, ea, ?_, ?_, fun k hk => ?_⟩
    · unfold PyFlat.short at hshort
      rw [ea] at hshort
      exact of_decide_eq_true hshort
    · unfold PyFlat.atMost at h120
      have := of_decide_eq_true h120
      omega
    · intro d p t pl e
      subst e
      obtain ⟨i, hi⟩ := List.mem_iff_getElem?.mp hk
      have h1 := congrArg (fun l => l[i]?) k1
      simp only [List.getElem?_map, hi, Option.map_some] at h1
      obtain ⟨c, hc, e1⟩ := Option.map_eq_some_iff.mp h1
      rw [ew] at hask
      unfold ValdggNeutral.asked at hask
      rw [Bool.and_eq_true] at hask
      have h2 := List.all_eq_true.mp hask.1 c (List.mem_of_getElem? hc)
      unfold ValdggNeutral.callOf at e1
      split at e1 <;> first | (cases e1; done) | skip
      all_goals (injection e1 with e1; try cases e1)
      have h2 : (ValdggNeutral.whole60 d && (ValdggNeutral.whole60 p && (ValdggNeutral.whole60 t && ValdggNeutral.isList pl))) = true := h2
      rw [Bool.and_eq_true, Bool.and_eq_true, Bool.and_eq_true] at h2
      have h3 := h2.2.2.2
      unfold ValdggNeutral.isList at h3
      rw [Bool.and_eq_true] at h3
      exact of_decide_eq_true h3.2
end Cr
/-! data on the abstract heap; what expressions and statements do, by typed slots -/
namespace Cr
open PySem L2 Evl

/-! ### data -/
def All2 {α : Type} (R : V → α → Prop) (xs : List V) (l : List α) : Prop := xs.length = l.length ∧ ∀ (i : Nat) (x : V) (a : α), xs[i]? = some x → l[i]? = some a → R x a
theorem All2.imp {α : Type} {R R' : V → α → Prop} {xs : List V} {l : List α} (h : All2 R xs l) (f : ∀ x a, R x a → R' x a) : All2 R' xs l := ⟨h.1, fun i x a h1 h2 => f x a (h.2 i x a h1 h2)⟩
theorem All2.nil {α : Type} {R : V → α → Prop} : All2 R [] [] := ⟨rfl, fun i x a h => by simp at h⟩
theorem All2.cons {α : Type} {R : V → α → Prop} {x : V} {a : α} {xs : List V} {l : List α} (h : R x a) (t : All2 R xs l) : All2 R (x :: xs) (a :: l) := by
  refine ⟨by simp [t.1], fun i y b h1 h2 => ?_⟩
  cases i with
  | zero => simp at h1 h2; subst h1; subst h2; exact h
  | succ i => exact t.2 i y b (by simpa using h1) (by simpa using h2)
theorem All2.uncons {α : Type} {R : V → α → Prop} {a : α} {xs : List V} {l : List α} (h : All2 R xs (a :: l)) : ∃ x r, xs = x :: r ∧ R x a ∧ All2 R r l := by
  obtain ⟨h1, h2⟩ := h
  cases xs with
  | nil => simp at h1
  | cons x r => exact ⟨x, r, rfl, h2 0 x a rfl rfl, by simpa using h1, fun i y b e1 e2 => h2 (i + 1) y b (by simpa using e1) (by simpa using e2)⟩
theorem All2.get {α : Type} {R : V → α → Prop} {xs : List V} {l : List α} (h : All2 R xs l) {i : Nat} {a : α} (e : l[i]? = some a) : ∃ x, xs[i]? = some x ∧ R x a := by
  have hi := (List.getElem?_eq_some_iff.mp e).1
  have hx : i < xs.length := by rw [h.1]; exact hi
  exact ⟨xs[i], List.getElem?_eq_getElem hx, h.2 i _ a (List.getElem?_eq_getElem hx) e⟩
theorem All2.getV {α : Type} {R : V → α → Prop} {xs : List V} {l : List α} (h : All2 R xs l) {i : Nat} {x : V} (e : xs[i]? = some x) : ∃ a, l[i]? = some a ∧ R x a := by
  have hi := (List.getElem?_eq_some_iff.mp e).1
  have hx : i < l.length := by rw [← h.1]; exact hi
  exact ⟨l[i], List.getElem?_eq_getElem hx, h.2 i x _ e (List.getElem?_eq_getElem hx)⟩
theorem All2.append {α : Type} {R : V → α → Prop} {xs ys : List V} {l m : List α} (h : All2 R xs l) (t : All2 R ys m) : All2 R (xs ++ ys) (l ++ m) := by
  refine ⟨by simp [h.1, t.1], fun i x a h1 h2 => ?_⟩
  by_cases hi : i < xs.length
  · rw [List.getElem?_append_left hi] at h1
    rw [List.getElem?_append_left (by rw [← h.1]; exact hi)] at h2
    exact h.2 i x a h1 h2
  · rw [List.getElem?_append_right (by omega)] at h1
    rw [List.getElem?_append_right (by rw [← h.1]; omega), ← h.1] at h2
    exact t.2 _ x a h1 h2
theorem All2.set {α : Type} {R : V → α → Prop} {xs : List V} {l : List α} (h : All2 R xs l) (j : Nat) {y : V} {b : α} (hy : R y b) : All2 R (xs.set j y) (l.set j b) := by
  refine ⟨by simp [h.1], fun i x a h1 h2 => ?_⟩
  by_cases e : j = i
  · subst e
    have hj : j < xs.length := by
      have := (List.getElem?_eq_some_iff.mp h1).1
      simpa using this
    rw [List.getElem?_set_self hj] at h1
    rw [List.getElem?_set_self (by rw [← h.1]; exact hj)] at h2
    cases h1; cases h2; exact hy
  · rw [List.getElem?_set_ne e] at h1 h2
    exact h.2 i x a h1 h2
theorem All2.eqMap {α : Type} {f : α → V} {xs : List V} {l : List α} (h : All2 (fun v a => v = f a) xs l) : xs = l.map f := by
  apply List.ext_getElem?
  intro i
  rw [List.getElem?_map]
  by_cases hi : i < l.length
  · obtain ⟨x, e, r⟩ := h.get (List.getElem?_eq_getElem hi)
    rw [e, List.getElem?_eq_getElem hi, r]; rfl
  · rw [List.getElem?_eq_none (by rw [h.1]; omega), List.getElem?_eq_none (by omega)]; rfl
theorem All2.ofMap {α : Type} {f : α → V} {l : List α} : All2 (fun v a => v = f a) (l.map f) l := ⟨by simp, fun i x a h1 h2 => by
  rw [List.getElem?_map, h2] at h1
  exact (Option.some.inj h1).symm⟩

class Rep (α : Type) where
  is : Hp → V → α → Prop
  mono : ∀ {H H' : Hp} {v : V} {a : α}, Ex H H' → is H v a → is H' v a
/-- a tuple of whole numbers -/
structure Tp where
  l : List Int
instance repInt : Rep Int := ⟨fun _ v n => v = .int n, fun _ h => h⟩
instance repNat : Rep Nat := ⟨fun _ v n => v = .int (n : Int), fun _ h => h⟩
instance repBool : Rep Bool := ⟨fun _ v b => v = .bl b, fun _ h => h⟩
instance repTp : Rep Tp := ⟨fun H v t => ∃ p, v = .ref p ∧ H p = some (.tup (t.l.map .int)), fun e ⟨p, h1, h2⟩ => ⟨p, h1, e _ _ h2⟩⟩
instance repList {α : Type} [Rep α] : Rep (List α) := ⟨fun H v l => ∃ p xs, v = .ref p ∧ H p = some (.lst xs) ∧ All2 (Rep.is H) xs l, fun e ⟨p, xs, h1, h2, h3⟩ => ⟨p, xs, h1, e _ _ h2, h3.imp fun _ _ => Rep.mono e⟩⟩
theorem is_int {H : Hp} {v : V} {n : Int} : Rep.is H v n ↔ v = .int n := Iff.rfl
theorem is_nat {H : Hp} {v : V} {n : Nat} : Rep.is H v n ↔ v = .int (n : Int) := Iff.rfl
theorem is_bool {H : Hp} {v : V} {b : Bool} : Rep.is H v b ↔ v = .bl b := Iff.rfl
theorem ints_of {H : Hp} {v : V} {l : List Int} (h : Rep.is H v l) : ∃ p, v = .ref p ∧ H p = some (.lst (l.map .int)) := by
  obtain ⟨p, xs, h1, h2, h3⟩ := h
  rw [All2.eqMap (f := V.int) h3] at h2
  exact ⟨p, h1, h2⟩
theorem nats_of {H : Hp} {v : V} {l : List Nat} (h : Rep.is H v l) : ∃ p, v = .ref p ∧ H p = some (.lst (l.map fun n : Nat => V.int (n : Int))) := by
  obtain ⟨p, xs, h1, h2, h3⟩ := h
  rw [All2.eqMap (f := fun n : Nat => V.int (n : Int)) h3] at h2
  exact ⟨p, h1, h2⟩
theorem bools_of {H : Hp} {v : V} {l : List Bool} (h : Rep.is H v l) : ∃ p, v = .ref p ∧ H p = some (.lst (l.map .bl)) := by
  obtain ⟨p, xs, h1, h2, h3⟩ := h
  rw [All2.eqMap (f := V.bl) h3] at h2
  exact ⟨p, h1, h2⟩
theorem of_ints {H : Hp} {p : Addr} {l : List Int} (h : H p = some (.lst (l.map .int))) : Rep.is H (.ref p) l := ⟨p, _, rfl, h, All2.ofMap (f := V.int)⟩
theorem of_nats {H : Hp} {p : Addr} {l : List Nat} (h : H p = some (.lst (l.map fun n : Nat => V.int (n : Int)))) : Rep.is H (.ref p) l := ⟨p, _, rfl, h, All2.ofMap (f := fun n : Nat => V.int (n : Int))⟩
theorem nats_ints {H : Hp} {v : V} {l : List Nat} : Rep.is H v l ↔ Rep.is H v (l.map fun n : Nat => (n : Int)) := by
  constructor
  · intro h
    obtain ⟨p, rfl, h2⟩ := nats_of h
    exact of_ints (by rw [h2, List.map_map]; rfl)
  · intro h
    obtain ⟨p, rfl, h2⟩ := ints_of h
    exact of_nats (by rw [h2, List.map_map]; rfl)

/-- the heap without p -/
def del (H : Hp) (p : Addr) : Hp := fun b => if b = p then none else H b
theorem del_self {H : Hp} {p : Addr} : del H p p = none := if_pos rfl
theorem del_ne {H : Hp} {p b : Addr} (h : b ≠ p) : del H p b = H b := if_neg h
theorem del_ex {H : Hp} {p : Addr} : Ex (del H p) H := fun b o h => by
  unfold del at h
  split at h
  · cases h
  · exact h
/-- what can't be the list at p -/
class Av (α : Type) extends Rep α where
  av : ∀ {H : Hp} {v : V} {a : α} {p : Addr} {xs : List V}, is H v a → H p = some (.lst xs) → v ≠ .ref p → is (del H p) v a
/-- .. of whatever sort -/
class Im (α : Type) extends Rep α where
  im : ∀ {H : Hp} {v : V} {a : α} {p : Addr} {xs : List V}, is H v a → H p = some (.lst xs) → is (del H p) v a
instance imInt : Im Int := { repInt with im := fun h _ => h }
instance imNat : Im Nat := { repNat with im := fun h _ => h }
instance imBool : Im Bool := { repBool with im := fun h _ => h }
instance imTp : Im Tp := { repTp with im := fun ⟨q, h1, h2⟩ hp => ⟨q, h1, by rw [del_ne (ne_of h2 hp (by intro z; cases z))]; exact h2⟩ }
instance avIm {α : Type} [i : Im α] : Av α := { i.toRep with av := fun h hp _ => i.im h hp }
instance avList {α : Type} [i : Im α] : Av (List α) := { @repList α i.toRep with av := fun ⟨q, ys, h1, h2, h3⟩ hp n => ⟨q, ys, h1, by
    rw [del_ne]
    · exact h2
    · intro e
      exact n (by rw [h1, e]), h3.imp fun _ _ h => i.im h hp⟩ }

/-! ### slots -/
inductive Sl : Type 1 where
  | any
  | sh {α : Type} [Rep α] (a : α)
  | own {α : Type} [Rep α] (l : List α)
def HV (H0 H : Hp) : Sl → Option V → Prop
  | .any, _ => True
  | @Sl.sh _ _ a, o => ∃ v, o = some v ∧ Rep.is H0 v a
  | @Sl.own _ _ l, o => ∃ p xs, o = some (.ref p) ∧ H p = some (.lst xs) ∧ H0 p = none ∧ All2 (Rep.is H0) xs l
def Holds (He : Hp) (S : List Sl) (σ : L2.St) (H : Hp) : Prop := ∃ H0, Ex He H0 ∧ Ex H0 H ∧ S.length = σ.length ∧ ∀ (i : Nat) (s : Sl) (o : Option V), S[i]? = some s → σ[i]? = some o → HV H0 H s o
theorem Holds.mono {He H H1 : Hp} {S : List Sl} {σ : L2.St} (h : Holds He S σ H) (e : Ex H H1) : Holds He S σ H1 := by
  obtain ⟨H0, a, b, c, d⟩ := h
  refine ⟨H0, a, b.trans e, c, fun i s o h1 h2 => ?_⟩
  have q := d i s o h1 h2
  cases s with
  | any => trivial
  | sh x => exact q
  | own l => obtain ⟨p, xs, q1, q2, q3⟩ := q; exact ⟨p, xs, q1, e _ _ q2, q3⟩
theorem Holds.ex {He H : Hp} {S : List Sl} {σ : L2.St} (h : Holds He S σ H) : Ex He H := by
  obtain ⟨H0, a, b, _⟩ := h
  exact a.trans b
theorem Holds.low {He He' H : Hp} {S : List Sl} {σ : L2.St} (h : Holds He' S σ H) (e : Ex He He') : Holds He S σ H := by
  obtain ⟨H0, a, r⟩ := h
  exact ⟨H0, e.trans a, r⟩
theorem Holds.at {He H : Hp} {S : List Sl} {σ : L2.St} (h : Holds He S σ H) {i : Nat} {s : Sl} (e : S[i]? = some s) : ∃ o, σ[i]? = some o := by
  obtain ⟨H0, a, b, c, d⟩ := h
  have hi := (List.getElem?_eq_some_iff.mp e).1
  exact ⟨σ[i], List.getElem?_eq_getElem (by omega)⟩
theorem Holds.sh {He H : Hp} {S : List Sl} {σ : L2.St} (h : Holds He S σ H) {i : Nat} {α : Type} [Rep α] {a : α} (e : S[i]? = some (.sh a)) : ∃ v, σ[i]? = some (some v) ∧ Rep.is H v a := by
  obtain ⟨o, ho⟩ := h.at e
  obtain ⟨H0, _, b, c, d⟩ := h
  obtain ⟨v, rfl, q⟩ := d i _ o e ho
  exact ⟨v, ho, Rep.mono b q⟩
theorem Holds.own {He H : Hp} {S : List Sl} {σ : L2.St} (h : Holds He S σ H) {i : Nat} {α : Type} [Rep α] {l : List α} (e : S[i]? = some (.own l)) : ∃ p xs, σ[i]? = some (some (.ref p)) ∧ H p = some (.lst xs) ∧ He p = none ∧ All2 (Rep.is H) xs l := by
  obtain ⟨o, ho⟩ := h.at e
  obtain ⟨H0, a, b, c, d⟩ := h
  obtain ⟨p, xs, rfl, q1, q2, q3⟩ := d i _ o e ho
  exact ⟨p, xs, ho, q1, fresh_back a q2, q3.imp fun _ _ => Rep.mono b⟩
def notOwn : Sl → Bool
  | @Sl.own _ _ _ => false
  | _ => true
/-- another value in slot i -/
theorem Holds.set {He H : Hp} {S : List Sl} {σ : L2.St} (h : Holds He S σ H) (no : S.all notOwn = true) (i : Nat) {α : Type} [Rep α] {a : α} {v : V} (q : Rep.is H v a) : Holds He (S.set i (.sh a)) (σ.set i (some v)) H := by
  obtain ⟨H0, x, b, c, d⟩ := h
  refine ⟨H, x.trans b, Ex.refl _, by simp [c], fun j s o h1 h2 => ?_⟩
  by_cases e : i = j
  · subst e
    have hi : i < σ.length := by have := (List.getElem?_eq_some_iff.mp h2).1; simpa using this
    rw [List.getElem?_set_self (by omega)] at h1
    rw [List.getElem?_set_self hi] at h2
    cases h1; cases h2
    exact ⟨v, rfl, q⟩
  · rw [List.getElem?_set_ne e] at h1 h2
    have z := d j s o h1 h2
    cases s with
    | any => trivial
    | sh y => obtain ⟨w, z1, z2⟩ := z; exact ⟨w, z1, Rep.mono b z2⟩
    | own l =>
      have := List.all_eq_true.mp no _ (List.mem_of_getElem? h1)
      cases this
/-- .. with a list of one's own beside it: the new value does not lean on that list -/
theorem Holds.setN {He H H1 : Hp} {S : List Sl} {σ : L2.St} (h : Holds He S σ H) (i : Nat) {α : Type} [Av α] {a : α} {v : V} (e1 : Ex H H1) (q : Rep.is H1 v a) (n : ∀ p, v = .ref p → H p = none) (k : Nat) (hk : (S.set k .any).all notOwn = true) :
    Holds He (S.set i (.sh a)) (σ.set i (some v)) H1 := by
  have h' := h
  obtain ⟨H0, x, b, c, d⟩ := h
  by_cases hO : ∃ (β : Type) (r : Rep β) (l : List β), S[k]? = some (@Sl.own β r l)
  · obtain ⟨β, r, l, hO⟩ := hO
    obtain ⟨o, ho⟩ := h'.at hO
    obtain ⟨p, xs, rfl, z1, z2, z3⟩ := d k _ o hO ho
    have e2 : Ex H0 (del H1 p) := fun b' o' hb => by
      rw [del_ne (by intro z; subst z; rw [z2] at hb; cases hb)]
      exact e1 _ _ (b _ _ hb)
    refine ⟨del H1 p, x.trans e2, del_ex, by simp [c], fun j s o h1 h2 => ?_⟩
    by_cases e : i = j
    · subst e
      have hi : i < σ.length := by have := (List.getElem?_eq_some_iff.mp h2).1; simpa using this
      rw [List.getElem?_set_self (by omega)] at h1
      rw [List.getElem?_set_self hi] at h2
      cases h1; cases h2
      exact ⟨v, rfl, Av.av q (e1 _ _ z1) (fun z => by rw [n p z] at z1; cases z1)⟩
    · rw [List.getElem?_set_ne e] at h1 h2
      have z := d j s o h1 h2
      cases s with
      | any => trivial
      | sh y => obtain ⟨w, y1, y2⟩ := z; exact ⟨w, y1, Rep.mono e2 y2⟩
      | own l' =>
        by_cases ek : k = j
        · subst ek
          obtain ⟨p', ys, y1, y2, y3, y4⟩ := z
          rw [ho] at h2
          cases h2
          cases y1
          exact ⟨_, ys, rfl, e1 _ _ y2, del_self, y4.imp fun _ _ => Rep.mono e2⟩
        · have y : (S.set k .any)[j]? = some (.own l') := by rw [List.getElem?_set_ne ek]; exact h1
          have := List.all_eq_true.mp hk _ (List.mem_of_getElem? y)
          cases this
  · have no : S.all notOwn = true := List.all_eq_true.mpr fun s hs => by
      obtain ⟨j, hj, rfl⟩ := List.getElem_of_mem hs
      cases es : S[j] with
      | any => rfl
      | sh _ => rfl
      | own l' =>
        by_cases ek : k = j
        · subst ek
          exact absurd ⟨_, _, l', by rw [List.getElem?_eq_getElem hj, es]⟩ hO
        · have y : (S.set k .any)[j]? = some (.own l') := by rw [List.getElem?_set_ne ek, List.getElem?_eq_getElem hj, es]
          have := List.all_eq_true.mp hk _ (List.mem_of_getElem? y)
          cases this
    exact (h'.mono e1).set no i q
/-- a new list of one's own -/
theorem Holds.new {He H : Hp} {S : List Sl} {σ : L2.St} (h : Holds He S σ H) (no : S.all notOwn = true) (i : Nat) {α : Type} [Rep α] {l : List α} {xs : List V} {p : Addr} (hp : H p = none) (q : All2 (Rep.is H) xs l) :
    Holds He (S.set i (.own l)) (σ.set i (some (.ref p))) (upd H p (.lst xs)) := by
  obtain ⟨H0, x, b, c, d⟩ := h
  refine ⟨H, x.trans b, Ex.new hp, by simp [c], fun j s o h1 h2 => ?_⟩
  by_cases e : i = j
  · subst e
    have hi : i < σ.length := by have := (List.getElem?_eq_some_iff.mp h2).1; simpa using this
    rw [List.getElem?_set_self (by omega)] at h1
    rw [List.getElem?_set_self hi] at h2
    cases h1; cases h2
    exact ⟨p, xs, rfl, upd_same, hp, q⟩
  · rw [List.getElem?_set_ne e] at h1 h2
    have z := d j s o h1 h2
    cases s with
    | any => trivial
    | sh y => obtain ⟨w, z1, z2⟩ := z; exact ⟨w, z1, Rep.mono b z2⟩
    | own l' =>
      have := List.all_eq_true.mp no _ (List.mem_of_getElem? h1)
      cases this
/-- one's own list, changed: the new items do not lean on it -/
theorem Holds.chg {He H H1 : Hp} {S : List Sl} {σ : L2.St} (h : Holds He S σ H) (i : Nat) {α : Type} [Rep α] {l : List α} (hi : S[i]? = some (.own l)) (hk : (S.set i .any).all notOwn = true) (e1 : Ex H H1) :
    ∃ p xs, σ[i]? = some (some (.ref p)) ∧ H1 p = some (.lst xs) ∧ All2 (Rep.is (del H1 p)) xs l ∧ ∀ (ys : List V) (m : List α), All2 (Rep.is (del H1 p)) ys m → Holds He (S.set i (.own m)) σ (upd H1 p (.lst ys)) := by
  have h' := h
  obtain ⟨H0, x, b, c, d⟩ := h
  obtain ⟨o, ho⟩ := h'.at hi
  obtain ⟨p, xs, rfl, z1, z2, z3⟩ := d i _ o hi ho
  have e2 : Ex H0 (del H1 p) := fun b' o' hb => by
    rw [del_ne (by intro z; subst z; rw [z2] at hb; cases hb)]
    exact e1 _ _ (b _ _ hb)
  refine ⟨p, xs, ho, e1 _ _ z1, z3.imp fun _ _ => Rep.mono e2, fun ys m hm => ⟨del H1 p, x.trans e2, ?_, by simp [c], fun j s o h1 h2 => ?_⟩⟩
  · intro b' o' hb
    by_cases ep : b' = p
    · subst ep; rw [del_self] at hb; cases hb
    · rw [upd_ne ep]; rw [del_ne ep] at hb; exact hb
  · by_cases e : i = j
    · subst e
      rw [List.getElem?_set_self (List.getElem?_eq_some_iff.mp hi).1] at h1
      rw [ho] at h2
      cases h1; cases h2
      exact ⟨p, ys, rfl, upd_same, del_self, hm⟩
    · rw [List.getElem?_set_ne e] at h1
      have z := d j s o h1 h2
      cases s with
      | any => trivial
      | sh y => obtain ⟨w, z1, z2⟩ := z; exact ⟨w, z1, Rep.mono e2 z2⟩
      | own l' =>
        have y : (S.set i .any)[j]? = some (.own l') := by rw [List.getElem?_set_ne e]; exact h1
        have := List.all_eq_true.mp hk _ (List.mem_of_getElem? y)
        cases this
/-- less may be known -/
def Weak : List Sl → List Sl → Prop
  | [], [] => True
  | s :: S, t :: T => (t = s ∨ t = .any) ∧ Weak S T
  | _, _ => False
theorem Weak.get : ∀ {S T : List Sl}, Weak S T → S.length = T.length ∧ ∀ (i : Nat) (t : Sl), T[i]? = some t → t = .any ∨ S[i]? = some t
  | [], [], _ => ⟨rfl, fun i t h => by simp at h⟩
  | s :: S, t :: T, ⟨h, r⟩ => by
    obtain ⟨a, b⟩ := r.get
    refine ⟨by simp [a], fun i u e => ?_⟩
    cases i with
    | zero =>
      simp at e; subst e
      rcases h with rfl | rfl
      · exact .inr rfl
      · exact .inl rfl
    | succ i => simpa using b i u (by simpa using e)
  | [], _ :: _, h => h.elim
  | _ :: _, [], h => h.elim
theorem Holds.weak {He H : Hp} {S T : List Sl} {σ : L2.St} (h : Holds He S σ H) (w : Weak S T) : Holds He T σ H := by
  obtain ⟨H0, x, b, c, d⟩ := h
  obtain ⟨w1, w2⟩ := w.get
  refine ⟨H0, x, b, by omega, fun i s o h1 h2 => ?_⟩
  rcases w2 i s h1 with rfl | q
  · exact True.intro
  · exact d i s o q h2
theorem Weak.refl : ∀ S : List Sl, Weak S S
  | [] => trivial
  | _ :: S => ⟨.inl rfl, Weak.refl S⟩

/-! ### arguments, entries -/
def HL (H : Hp) : List Sl → List V → Prop
  | [], vs => vs = []
  | @Sl.sh _ _ a :: L, vs => ∃ v r, vs = v :: r ∧ Rep.is H v a ∧ HL H L r
  | _ :: L, vs => ∃ v r, vs = v :: r ∧ HL H L r
theorem HL.len {H : Hp} : ∀ {L : List Sl} {vs : List V}, HL H L vs → vs.length = L.length
  | [], vs, h => by rw [show vs = [] from h]; rfl
  | @Sl.sh _ _ a :: L, vs, ⟨v, r, e, _, t⟩ => by rw [e, List.length_cons, HL.len t]; rfl
  | .any :: L, vs, ⟨v, r, e, t⟩ => by rw [e, List.length_cons, HL.len t]; rfl
  | @Sl.own _ _ a :: L, vs, ⟨v, r, e, t⟩ => by rw [e, List.length_cons, HL.len t]; rfl
theorem HL.mono {H H' : Hp} (e : Ex H H') : ∀ {L : List Sl} {vs : List V}, HL H L vs → HL H' L vs
  | [], _, h => h
  | @Sl.sh _ _ a :: L, vs, ⟨v, r, e1, q, t⟩ => ⟨v, r, e1, Rep.mono e q, HL.mono e t⟩
  | .any :: L, vs, ⟨v, r, e1, t⟩ => ⟨v, r, e1, HL.mono e t⟩
  | @Sl.own _ _ a :: L, vs, ⟨v, r, e1, t⟩ => ⟨v, r, e1, HL.mono e t⟩
theorem HL.get {H : Hp} : ∀ {L : List Sl} {vs : List V}, HL H L vs → L.all notOwn = true → ∀ (i : Nat) (s : Sl) (v : V), L[i]? = some s → vs[i]? = some v → HV H H s (some v)
  | [], vs, h, _, i, s, v, e1, _ => by simp at e1
  | @Sl.sh _ _ a :: L, vs, ⟨w, r, e, q, t⟩, n, i, s, v, e1, e2 => by
    subst e
    cases i with
    | zero => simp at e1 e2; subst e1; subst e2; exact ⟨w, rfl, q⟩
    | succ i => exact HL.get t (by simpa [notOwn] using n) i s v (by simpa using e1) (by simpa using e2)
  | .any :: L, vs, ⟨w, r, e, t⟩, n, i, s, v, e1, e2 => by
    subst e
    cases i with
    | zero => simp at e1 e2; subst e1; trivial
    | succ i => exact HL.get t (by simpa [notOwn] using n) i s v (by simpa using e1) (by simpa using e2)
  | @Sl.own _ _ a :: L, vs, _, n, _, _, _, _, _ => by simp [notOwn] at n
/-- what a def hands back: its value in a heap that keeps all -/
def Ret {α : Type} [Rep α] (H : Hp) (Q : VK) (a : α) : Prop := ∀ (v : V) (H2 : Hp), Ex H H2 → Rep.is H2 v a → Q v H2
/-- .. a new one -/
def RetN {α : Type} [Rep α] (H : Hp) (Q : VK) (a : α) : Prop := ∀ (v : V) (H2 : Hp), Ex H H2 → (∀ p, v = .ref p → H p = none) → Rep.is H2 v a → Q v H2
theorem Ret.n {α : Type} [Rep α] {H : Hp} {Q : VK} {a : α} (k : Ret H Q a) : RetN H Q a := fun v H2 e _ q => k v H2 e q
theorem Holds.start {H : Hp} {L : List Sl} {vs : List V} {N : List Str} (h : HL H L vs) (n : L.all notOwn = true) (hN : L.length ≤ N.length) : Holds H (L ++ List.replicate (N.length - L.length) .any) (start N vs) H := by
  have hl := h.len
  refine ⟨H, Ex.refl H, Ex.refl H, by simp [L2.start, hl], fun i s o h1 h2 => ?_⟩
  by_cases hi : i < L.length
  · rw [List.getElem?_append_left hi] at h1
    unfold L2.start at h2
    rw [List.getElem?_append_left (by simpa [hl] using hi), List.getElem?_map] at h2
    obtain ⟨v, e, rfl⟩ := Option.map_eq_some_iff.mp h2
    exact h.get n i s v h1 e
  · rw [List.getElem?_append_right (by omega), List.getElem?_replicate] at h1
    split at h1
    · cases h1; trivial
    · cases h1
end Cr
namespace Cr
open PySem L2 Evl

/-! ### expressions: what they give -/
def XD {α : Type} [Rep α] (He : Hp) (S : List Sl) (te : TE) (a : α) : Prop := ∀ (σ : L2.St) (H : Hp), Holds He S σ H → ∀ Q : VK, (∀ v H2, Ex H H2 → Rep.is H2 v a → Q v H2) → te σ H Q
def XN {α : Type} [Rep α] (He : Hp) (S : List Sl) (te : TE) (a : α) : Prop := ∀ (σ : L2.St) (H : Hp), Holds He S σ H → ∀ Q : VK, (∀ v H2, Ex H H2 → (∀ p, v = .ref p → H p = none) → Rep.is H2 v a → Q v H2) → te σ H Q
def XT (He : Hp) (S : List Sl) (tt : TT) (b : Bool) : Prop := ∀ (σ : L2.St) (H : Hp), Holds He S σ H → ∀ Q : Bool → Hp → Prop, (∀ H2, Ex H H2 → Q b H2) → tt σ H Q
def XA (He : Hp) (S : List Sl) (ta : TA) (L : List Sl) : Prop := ∀ (σ : L2.St) (H : Hp), Holds He S σ H → ∀ Q : List V → Hp → Prop, (∀ vs H2, Ex H H2 → HL H2 L vs → Q vs H2) → ta σ H Q
section
variable {He : Hp} {S : List Sl} {K : PySem.W.Frag} {te ta tb tc : TE} {tt tu : TT}
theorem XN.d {α : Type} [Rep α] {a : α} (h : XN He S te a) : XD He S te a := fun σ H hs Q q => h σ H hs Q fun v H2 e _ i => q v H2 e i
theorem XD.eq {α : Type} [Rep α] {a b : α} (h : XD He S te a) (e : a = b) : XD He S te b := e ▸ h
theorem XN.eq {α : Type} [Rep α] {a b : α} (h : XN He S te a) (e : a = b) : XN He S te b := e ▸ h
theorem XT.eq {a b : Bool} (h : XT He S tt a) (e : a = b) : XT He S tt b := e ▸ h
/-- a number, true value: always new -/
theorem XD.int {n : Int} (h : XD He S te n) : XN He S te n := fun σ H hs Q q => h σ H hs Q fun v H2 e i => q v H2 e (fun p z => by rw [is_int.mp i] at z; cases z) i
theorem XD.nat {n : Nat} (h : XD He S te n) : XN He S te n := fun σ H hs Q q => h σ H hs Q fun v H2 e i => q v H2 e (fun p z => by rw [is_nat.mp i] at z; cases z) i
theorem XD.bool {n : Bool} (h : XD He S te n) : XN He S te n := fun σ H hs Q q => h σ H hs Q fun v H2 e i => q v H2 e (fun p z => by rw [is_bool.mp i] at z; cases z) i
theorem XD.up {n : Nat} (h : XD He S te n) : XD He S te (n : Int) := h
theorem XD.dn {z : Int} {n : Nat} (h : XD He S te z) (e : z = (n : Int)) : XD He S te n := by subst e; exact h
theorem XD.ups {l : List Nat} (h : XD He S te l) : XD He S te (l.map fun n : Nat => (n : Int)) := fun σ H hs Q q => h σ H hs Q fun v H2 e i => q v H2 e (nats_ints.mp i)
theorem XN.ups {l : List Nat} (h : XN He S te l) : XN He S te (l.map fun n : Nat => (n : Int)) := fun σ H hs Q q => h σ H hs Q fun v H2 e n i => q v H2 e n (nats_ints.mp i)
theorem XN.dns {l : List Nat} {m : List Int} (h : XN He S te m) (e : m = l.map fun n : Nat => (n : Int)) : XN He S te l := fun σ H hs Q q => h σ H hs Q fun v H2 e1 n i => q v H2 e1 n (nats_ints.mpr (e ▸ i))
theorem x_var {i : Nat} {α : Type} [Rep α] {a : α} (h : S[i]? = some (.sh a)) : XD He S (tVar i) a := fun σ H hs Q q => by
  obtain ⟨v, e, r⟩ := hs.sh h
  exact ⟨v, e, q v H (Ex.refl H) r⟩
theorem x_own {i : Nat} {α : Type} [Rep α] {l : List α} (h : S[i]? = some (.own l)) : XD He S (tVar i) l := fun σ H hs Q q => by
  obtain ⟨p, xs, e, hp, _, r⟩ := hs.own h
  exact ⟨_, e, q _ H (Ex.refl H) ⟨p, xs, rfl, hp, r⟩⟩
theorem x_c {α : Type} [Rep α] {a : α} {v : V} (h : ∀ H, Rep.is H v a) : XD He S (tC v) a := fun σ H hs Q q => q v H (Ex.refl H) (h H)
theorem x_int {n : Int} : XD He S (tC (.int n)) n := x_c fun _ => rfl
theorem x_bool {b : Bool} : XD He S (tC (.bl b)) b := x_c fun _ => rfl
theorem x_I0 {α : Type} [Rep α] {z : α} {g : Int → Int → V} {x y : Int} (h1 : XD He S ta x) (h2 : XD He S tb y) (h : ∀ H, Rep.is H (g x y) z) : XD He S (tOp (rI0 g) ta tb) z := fun σ H hs Q q =>
  h1 σ H hs _ fun v H1 e1 i1 => h2 σ H1 (hs.mono e1) _ fun w H2 e2 i2 => ⟨x, y, i1, i2, q _ H2 (e1.trans e2) (h H2)⟩
theorem x_I {α : Type} [Rep α] {z : α} {C : Int → Int → Prop} {g : Int → Int → V} {x y : Int} (h1 : XD He S ta x) (h2 : XD He S tb y) (hc : C x y) (h : ∀ H, Rep.is H (g x y) z) : XD He S (tOp (rI C g) ta tb) z := fun σ H hs Q q =>
  h1 σ H hs _ fun v H1 e1 i1 => h2 σ H1 (hs.mono e1) _ fun w H2 e2 i2 => ⟨x, y, i1, i2, hc, q _ H2 (e1.trans e2) (h H2)⟩
theorem x_add {x y : Int} (h1 : XD He S ta x) (h2 : XD He S tb y) : XD He S (tOp (rI0 fun i j => .int (i + j)) ta tb) (x + y) := x_I0 h1 h2 fun _ => rfl
theorem x_sub {x y : Int} (h1 : XD He S ta x) (h2 : XD He S tb y) : XD He S (tOp (rI0 fun i j => .int (i - j)) ta tb) (x - y) := x_I0 h1 h2 fun _ => rfl
theorem x_le {x y : Int} (h1 : XD He S ta x) (h2 : XD He S tb y) : XD He S (tOp (rI0 fun i j => .bl (decide (i ≤ j))) ta tb) (decide (x ≤ y)) := x_I0 h1 h2 fun _ => rfl
theorem x_lt {x y : Int} (h1 : XD He S ta x) (h2 : XD He S tb y) : XD He S (tOp (rI0 fun i j => .bl (decide (i < j))) ta tb) (decide (x < y)) := x_I0 h1 h2 fun _ => rfl
theorem x_ge {x y : Int} (h1 : XD He S ta x) (h2 : XD He S tb y) : XD He S (tOp (rI0 fun i j => .bl (decide (j ≤ i))) ta tb) (decide (y ≤ x)) := x_I0 h1 h2 fun _ => rfl
theorem x_gt {x y : Int} (h1 : XD He S ta x) (h2 : XD He S tb y) : XD He S (tOp (rI0 fun i j => .bl (decide (j < i))) ta tb) (decide (y < x)) := x_I0 h1 h2 fun _ => rfl
theorem x_neg {x : Int} (h : XD He S ta x) : XD He S (tUn (rU fun i => .int (-i)) ta) (-x) := fun σ H hs Q q => h σ H hs _ fun v H1 e i => ⟨x, i, q _ H1 e rfl⟩
theorem vint_dec {x y : Int} : decide (V.int x = V.int y) = decide (x = y) := by
  by_cases e : x = y
  · subst e; simp
  · rw [decide_eq_false e, decide_eq_false (fun z => e (V.int.inj z))]
theorem x_eq {x y : Int} (h1 : XD He S ta x) (h2 : XD He S tb y) : XD He S (tOp rEq ta tb) (decide (x = y)) := fun σ H hs Q q =>
  h1 σ H hs _ fun v H1 e1 i1 => h2 σ H1 (hs.mono e1) _ fun w H2 e2 i2 => by
    rw [is_int.mp i1, is_int.mp i2]
    exact ⟨rfl, q _ H2 (e1.trans e2) (by rw [vint_dec]; rfl)⟩
theorem x_ne {x y : Int} (h1 : XD He S ta x) (h2 : XD He S tb y) : XD He S (tOp rNe ta tb) (!decide (x = y)) := fun σ H hs Q q =>
  h1 σ H hs _ fun v H1 e1 i1 => h2 σ H1 (hs.mono e1) _ fun w H2 e2 i2 => by
    rw [is_int.mp i1, is_int.mp i2]
    exact ⟨rfl, q _ H2 (e1.trans e2) (by rw [vint_dec]; rfl)⟩
/-- l[j] -/
theorem x_ix {α : Type} [Rep α] {l : List α} {j : Nat} {a : α} (h1 : XD He S ta l) (h2 : XD He S tb (j : Int)) (h : l[j]? = some a) : XD He S (tOp (rIxL K) ta tb) a := fun σ H hs Q q =>
  h1 σ H hs _ fun v H1 e1 i1 => h2 σ H1 (hs.mono e1) _ fun w H2 e2 i2 => by
    obtain ⟨p, xs, rfl, hp, hx⟩ := Rep.mono e2 i1
    obtain ⟨x, ex, rx⟩ := hx.get h
    exact ⟨p, xs, (j : Int), x, rfl, i2, SqL.of hp, atI_nat ex, q x H2 (e1.trans e2) rx⟩
theorem x_ixT {t : Tp} {j : Nat} {n : Int} (h1 : XD He S ta t) (h2 : XD He S tb (j : Int)) (h : t.l[j]? = some n) : XD He S (tOp (rIxT K) ta tb) n := fun σ H hs Q q =>
  h1 σ H hs _ fun v H1 e1 i1 => h2 σ H1 (hs.mono e1) _ fun w H2 e2 i2 => by
    obtain ⟨p, rfl, hp⟩ := Rep.mono e2 i1
    exact ⟨p, _, (j : Int), .int n, rfl, i2, SqT.of hp, atI_nat (by rw [List.getElem?_map, h]; rfl), q _ H2 (e1.trans e2) rfl⟩
theorem x_len {α : Type} [Rep α] {l : List α} (h : XD He S ta l) : XD He S (tCB (rLenS K) (tCons ta tNil)) (l.length : Int) := fun σ H hs Q q =>
  h σ H hs _ fun v H1 e i => by
    obtain ⟨p, xs, rfl, hp, hx⟩ := i
    exact ⟨p, xs, rfl, Or.inl (SqL.of hp), q _ H1 e (by show V.int _ = V.int _; rw [hx.1])⟩
theorem inV_ints (n : Int) (l : List Int) : inV (.int n) (l.map .int) = decide (n ∈ l) := by
  unfold inV
  induction l with
  | nil => simp
  | cons x r ih =>
    rw [List.map_cons, List.any_cons, ih]
    have e : eqV (V.int x) (V.int n) = (x == n) := rfl
    rw [e]
    by_cases h : x = n
    · subst h; simp
    · have h' : ¬ n = x := fun z => h z.symm
      simp [h, h']
theorem flat_ints (l : List Int) : (l.map V.int).all flatV = true := by
  rw [List.all_map]; exact List.all_eq_true.mpr fun _ _ => rfl
theorem x_in {n : Int} {l : List Int} (h1 : XD He S ta n) (h2 : XD He S tb l) : XD He S (tOp (rIn K false) ta tb) (decide (n ∈ l)) := fun σ H hs Q q =>
  h1 σ H hs _ fun v H1 e1 i1 => h2 σ H1 (hs.mono e1) _ fun w H2 e2 i2 => by
    rw [is_int.mp i1]
    obtain ⟨p, rfl, hp⟩ := ints_of i2
    exact ⟨p, _, rfl, Or.inl (SqL.of hp), rfl, flat_ints l, q _ H2 (e1.trans e2) (by rw [inV_ints]; rfl)⟩
theorem x_notIn {n : Int} {l : List Int} (h1 : XD He S ta n) (h2 : XD He S tb l) : XD He S (tOp (rIn K true) ta tb) (!decide (n ∈ l)) := fun σ H hs Q q =>
  h1 σ H hs _ fun v H1 e1 i1 => h2 σ H1 (hs.mono e1) _ fun w H2 e2 i2 => by
    rw [is_int.mp i1]
    obtain ⟨p, rfl, hp⟩ := ints_of i2
    exact ⟨p, _, rfl, Or.inl (SqL.of hp), rfl, flat_ints l, q _ H2 (e1.trans e2) (by rw [inV_ints]; rfl)⟩
theorem dec_nat {n : Nat} {l : List Nat} : decide ((n : Int) ∈ l.map fun n : Nat => (n : Int)) = decide (n ∈ l) := by
  congr 1
  simp only [List.mem_map, eq_iff_iff]
  constructor
  · rintro ⟨a, h, e⟩
    have : a = n := by omega
    exact this ▸ h
  · intro h
    exact ⟨n, h, rfl⟩
theorem x_inN {n : Nat} {l : List Nat} (h1 : XD He S ta n) (h2 : XD He S tb l) : XD He S (tOp (rIn K false) ta tb) (decide (n ∈ l)) := (x_in h1.up h2.ups).eq dec_nat
theorem x_notInN {n : Nat} {l : List Nat} (h1 : XD He S ta n) (h2 : XD He S tb l) : XD He S (tOp (rIn K true) ta tb) (!decide (n ∈ l)) := (x_notIn h1.up h2.ups).eq (by rw [dec_nat])
/-- a + b of lists -/
theorem x_cat {α : Type} [Rep α] {l m : List α} (h1 : XD He S ta l) (h2 : XD He S tb m) (hz : l.length + m.length ≤ 100000) : XN He S (tOp rCat ta tb) (l ++ m) := fun σ H hs Q q =>
  h1 σ H hs _ fun v H1 e1 i1 => h2 σ H1 (hs.mono e1) _ fun w H2 e2 i2 => by
    obtain ⟨p, xs, rfl, hp, hx⟩ := Rep.mono e2 i1
    obtain ⟨p', ys, rfl, hp', hy⟩ := i2
    refine ⟨p, p', xs, ys, rfl, rfl, hp, hp', sz_of (by rw [hx.1, hy.1]; exact hz), fun r hr => q _ _ ((e1.trans e2).trans (Ex.new hr)) (fun p z => by cases z; exact fresh_back (e1.trans e2) hr) ⟨r, _, rfl, upd_same, ?_⟩⟩
    exact (hx.append hy).imp fun _ _ => Rep.mono (Ex.new hr)
theorem x_sum {l : List Int} (h : XD He S ta l) : XD He S (tCB (rSum K) (tCons ta tNil)) l.sum := fun σ H hs Q q =>
  h σ H hs _ fun v H1 e i => by
    obtain ⟨p, rfl, hp⟩ := ints_of i
    exact ⟨p, l, rfl, SqL.of hp, q _ H1 e rfl⟩
theorem x_all {l : List Bool} (h : XD He S ta l) : XD He S (tCB (rAll K) (tCons ta tNil)) (l.all id) := fun σ H hs Q q =>
  h σ H hs _ fun v H1 e i => by
    obtain ⟨p, rfl, hp⟩ := bools_of i
    exact ⟨p, l, rfl, SqL.of hp, q _ H1 e rfl⟩
/-- sorted(l): s is what is sorted and has the same items -/
theorem x_sorted {l s : List Int} (h : XD He S ta l) (hp : s.Perm l) (ho : s.Pairwise (· ≤ ·)) : XN He S (tCB (rSortedI K) (tCons ta tNil)) s := fun σ H hs Q q =>
  h σ H hs _ fun v H1 e i => by
    obtain ⟨p, rfl, hp1⟩ := ints_of i
    refine ⟨p, l, rfl, SqL.of hp1, fun ns r hn ho' hr => ?_⟩
    have es : ns = s := List.Perm.eq_of_pairwise (le := (· ≤ ·)) (fun a b _ _ x y => Int.le_antisymm x y) ho' ho (hn.trans hp.symm)
    subst es
    exact q _ _ (e.trans (Ex.new hr)) (fun p z => by cases z; exact fresh_back e hr) (of_ints upd_same)
theorem x_list {α : Type} [Rep α] {l : List α} (h : XD He S ta l) : XN He S (tCB (rListS K) (tCons ta tNil)) l := fun σ H hs Q q =>
  h σ H hs _ fun v H1 e i => by
    obtain ⟨p, xs, rfl, hp, hx⟩ := i
    exact ⟨p, xs, rfl, Or.inl (SqL.of hp), fun r hr => q _ _ (e.trans (Ex.new hr)) (fun p z => by cases z; exact fresh_back e hr) ⟨r, xs, rfl, upd_same, hx.imp fun _ _ => Rep.mono (Ex.new hr)⟩⟩
/-! arguments -/
theorem xa_nil : XA He S tNil [] := fun σ H hs Q q => q [] H (Ex.refl H) rfl
theorem xa_cons {α : Type} [Rep α] {a : α} {tr : TA} {L : List Sl} (h : XD He S te a) (t : XA He S tr L) : XA He S (tCons te tr) (.sh a :: L) := fun σ H hs Q q =>
  h σ H hs _ fun v H1 e1 i1 => t σ H1 (hs.mono e1) _ fun vs H2 e2 r => q _ H2 (e1.trans e2) ⟨v, vs, rfl, Rep.mono e2 i1, r⟩
theorem x_call {α : Type} [Rep α] {r : α} {sp : Sp} {E : XK} {tr : TA} {L : List Sl} (h : XA He S tr L) (hf : ∀ (H : Hp) (vs : List V) (Q : VK), Ex He H → HL H L vs → Ret H Q r → sp vs H Q E) : XD He S (tCall sp [] E tr) r := fun σ H hs Q q =>
  h σ H hs _ fun vs H1 e1 i1 => by
    rw [List.append_nil]
    exact hf H1 vs Q (hs.ex.trans e1) i1 fun v H2 e2 i2 => q v H2 (e1.trans e2) i2
theorem x_callN {α : Type} [Rep α] {r : α} {sp : Sp} {E : XK} {tr : TA} {L : List Sl} (h : XA He S tr L) (hf : ∀ (H : Hp) (vs : List V) (Q : VK), Ex He H → HL H L vs → RetN H Q r → sp vs H Q E) : XN He S (tCall sp [] E tr) r := fun σ H hs Q q =>
  h σ H hs _ fun vs H1 e1 i1 => by
    rw [List.append_nil]
    exact hf H1 vs Q (hs.ex.trans e1) i1 fun v H2 e2 n2 i2 => q v H2 (e1.trans e2) (fun p z => fresh_back e1 (n2 p z)) i2
/-- [a, b, ..] -/
theorem hl_ints {H : Hp} : ∀ {l : List Int} {vs : List V}, HL H (l.map fun n => Sl.sh n) vs → vs = l.map .int
  | [], vs, h => h
  | n :: l, vs, ⟨v, r, e, i, t⟩ => by rw [e, is_int.mp i, hl_ints t]; rfl
theorem x_lst {l : List Int} {tr : TA} (h : XA He S tr (l.map fun n => Sl.sh n)) (hz : l.length ≤ 100000 := by first | decide | simp) : XN He S (tLst tr) l := fun σ H hs Q q =>
  h σ H hs _ fun vs H1 e i => by
    have ev := hl_ints i
    subst ev
    exact ⟨sz_of (by rw [List.length_map]; exact hz), fun r hr => q _ _ (e.trans (Ex.new hr)) (fun p z => by cases z; exact fresh_back e hr) (of_ints upd_same)⟩
theorem x_tup {l : List Int} {tr : TA} (h : XA He S tr (l.map fun n => Sl.sh n)) (hz : l.length ≤ 100000 := by first | decide | simp) : XN He S (tTup tr) (Tp.mk l) := fun σ H hs Q q =>
  h σ H hs _ fun vs H1 e i => by
    have ev := hl_ints i
    subst ev
    exact ⟨sz_of (by rw [List.length_map]; exact hz), fun r hr => q _ _ (e.trans (Ex.new hr)) (fun p z => by cases z; exact fresh_back e hr) ⟨r, rfl, upd_same⟩⟩
theorem x_nilL {α : Type} [Rep α] : XN He S (tLst tNil) ([] : List α) := fun σ H hs Q q =>
  ⟨by decide, fun r hr => q _ _ (Ex.new hr) (fun p z => by cases z; exact hr) ⟨r, [], rfl, upd_same, All2.nil⟩⟩
/-! tests -/
theorem t_test {b : Bool} (h : XD He S te b) : XT He S (tTest te) b := fun σ H hs Q q => h σ H hs _ fun v H1 e i => ⟨b, i, q H1 e⟩
theorem t_B {b : Bool} (h : XD He S te b) : XT He S (tB te) b := fun σ H hs Q q => h σ H hs _ fun v H1 e i => ⟨b, i, q H1 e⟩
theorem t_and {a b : Bool} (h1 : XT He S tt a) (h2 : a = true → XT He S tu b) : XT He S (tAnd tt tu) (a && b) := fun σ H hs Q q => h1 σ H hs _ fun H1 e1 => by
  cases a with
  | true => exact h2 rfl σ H1 (hs.mono e1) Q fun H2 e2 => q H2 (e1.trans e2)
  | false => exact q H1 e1
theorem t_or {a b : Bool} (h1 : XT He S tt a) (h2 : a = false → XT He S tu b) : XT He S (tOr tt tu) (a || b) := fun σ H hs Q q => h1 σ H hs _ fun H1 e1 => by
  cases a with
  | true => exact q H1 e1
  | false => exact h2 rfl σ H1 (hs.mono e1) Q fun H2 e2 => q H2 (e1.trans e2)
theorem t_not {a : Bool} (h : XT He S tt a) : XT He S (tNot tt) (!a) := fun σ H hs Q q => h σ H hs _ fun H1 e => q H1 e
theorem t_yes : XT He S tYes true := fun σ H hs Q q => q H (Ex.refl H)
theorem x_andV {a b : Bool} (h1 : XD He S ta a) (h2 : a = true → XD He S tb b) : XD He S (tAndV ta tb) (a && b) := fun σ H hs Q q => h1 σ H hs _ fun v H1 e1 i1 => ⟨a, i1, by
  cases a with
  | true => exact h2 rfl σ H1 (hs.mono e1) Q fun w H2 e2 i2 => q w H2 (e1.trans e2) i2
  | false => exact q _ H1 e1 rfl⟩
end
end Cr
namespace Cr
open PySem L2 Evl

/-! ### statements -/
def Go (He : Hp) (S : List Sl) (t : TS) (D : Ends) : Prop := ∀ (σ : L2.St) (H : Hp), Holds He S σ H → t D σ H
/-- what follows holds wherever the slots are so -/
def Nx (He : Hp) (S : List Sl) (D : Ends) : Prop := ∀ (σ : L2.St) (H : Hp), Holds He S σ H → D.nx σ H
/-- what is returned is wanted -/
def Rt {α : Type} [Rep α] (He : Hp) (D : Ends) (a : α) : Prop := ∀ (v : V) (H : Hp), Ex He H → Rep.is H v a → D.rt v H
def RtN {α : Type} [Rep α] (He : Hp) (D : Ends) (a : α) : Prop := ∀ (v : V) (H : Hp), Ex He H → (∀ p, v = .ref p → He p = none) → Rep.is H v a → D.rt v H
section
variable {He : Hp} {S T : List Sl} {K : PySem.W.Frag} {te ta tb tc : TE} {tt tu : TT} {D : Ends} {ts tz tw : TS}
theorem Rt.n {α : Type} [Rep α] {a : α} (h : Rt He D a) : RtN He D a := fun v H e _ i => h v H e i
theorem Go.low {He' : Hp} (e : Ex He He') (h : Go He S ts D) : Go He' S ts D := fun σ H hs => h σ H (hs.low e)
theorem Nx.low {He' : Hp} (e : Ex He He') (h : Nx He S D) : Nx He' S D := fun σ H hs => h σ H (hs.low e)
theorem Go.weak (w : Weak S T) (h : Go He T ts D) : Go He S ts D := fun σ H hs => h σ H (hs.weak w)
theorem Nx.weak (w : Weak S T) (h : Nx He T D) : Nx He S D := fun σ H hs => h σ H (hs.weak w)
theorem g_seq (h : Go He S ts { D with nx := tz D }) : Go He S (tSeq ts tz) D := h
theorem g_next (h : Nx He S D) : Go He S tNext D := h
theorem g_cont (h : ∀ (σ : L2.St) (H : Hp), Holds He S σ H → D.ct σ H) : Go He S tCont D := h
theorem g_set {i : Nat} {α : Type} [Rep α] {a : α} (h : XD He S te a) (k : Nx He (S.set i (.sh a)) D) (no : S.all notOwn = true := by rfl) : Go He S (tAsg te (gName i)) D := fun σ H hs =>
  h σ H hs _ fun v H1 e1 i1 => k _ _ ((hs.mono e1).set no i i1)
/-- beside a list of one's own, in slot j -/
theorem g_setN (j : Nat) {i : Nat} {α : Type} [Av α] {a : α} (h : XN He S te a) (k : Nx He (S.set i (.sh a)) D) (no : (S.set j .any).all notOwn = true := by rfl) : Go He S (tAsg te (gName i)) D := fun σ H hs =>
  h σ H hs _ fun v H1 e1 n i1 => k _ _ (hs.setN i e1 i1 n j no)
/-- x = [..] of one's own -/
theorem g_own {i : Nat} {l : List Int} {tr : TA} (h : XA He S tr (l.map fun n => Sl.sh n)) (k : Nx He (S.set i (.own l)) D) (hz : l.length ≤ 100000 := by first | decide | simp) (no : S.all notOwn = true := by rfl) : Go He S (tAsg (tLst tr) (gName i)) D := fun σ H hs =>
  h σ H hs _ fun vs H1 e1 i1 => by
    have ev := hl_ints i1
    subst ev
    exact ⟨sz_of (by rw [List.length_map]; exact hz), fun p hp => k _ _ ((hs.mono e1).new no i hp (All2.ofMap (f := V.int)))⟩
theorem g_nil {i : Nat} {α : Type} [Rep α] (k : Nx He (S.set i (.own ([] : List α))) D) (no : S.all notOwn = true := by rfl) : Go He S (tAsg (tLst tNil) (gName i)) D := fun σ H hs =>
  ⟨by decide, fun p hp => k _ _ (hs.new no i hp All2.nil)⟩
/-- out.append(e), out of one's own in slot i -/
theorem g_app {i : Nat} {α : Type} [Im α] {l : List α} {a : α} (hi : S[i]? = some (.own l)) (h : XD He S te a) (hz : l.length < 100000) (k : Nx He (S.set i (.own (l ++ [a]))) D) (no : (S.set i .any).all notOwn = true := by rfl) :
    Go He S (tDrop (tBM K "list" rAppend (tVar i) (tCons te tNil))) D := fun σ H hs => by
  obtain ⟨p, xs, e, hp, _, _⟩ := hs.own hi
  refine ⟨_, e, Or.inl ⟨rfl, xs, SqL.of hp⟩, h σ H hs _ fun v H1 e1 i1 => ?_⟩
  obtain ⟨p', ys, e', hp', hx, c⟩ := hs.chg i hi no e1
  rw [e] at e'
  cases e'
  rw [e1 _ _ hp] at hp'
  cases hp'
  exact ⟨p, xs, v, rfl, rfl, e1 _ _ hp, sz_lt (by rw [hx.1]; exact hz), k _ _ (c _ _ (hx.append (All2.cons (Im.im i1 (e1 _ _ hp)) All2.nil)))⟩
/-- out.extend([..]) -/
theorem g_ext {i : Nat} {α : Type} [Im α] {l m : List α} (hi : S[i]? = some (.own l)) (h : XN He S te m) (hz : l.length + m.length ≤ 100000) (k : Nx He (S.set i (.own (l ++ m))) D) (no : (S.set i .any).all notOwn = true := by rfl) :
    Go He S (tDrop (tBM K "list" rExtend (tVar i) (tCons te tNil))) D := fun σ H hs => by
  obtain ⟨p, xs, e, hp, _, _⟩ := hs.own hi
  refine ⟨_, e, Or.inl ⟨rfl, xs, SqL.of hp⟩, h σ H hs _ fun v H1 e1 n i1 => ?_⟩
  obtain ⟨p', ys, e', hp', hx, c⟩ := hs.chg i hi no e1
  rw [e] at e'
  cases e'
  rw [e1 _ _ hp] at hp'
  cases hp'
  obtain ⟨q, zs, rfl, hq, hy⟩ := i1
  exact ⟨p, q, xs, zs, rfl, rfl, e1 _ _ hp, hq, sz_of (by rw [hx.1, hy.1]; exact hz), k _ _ (c _ _ (hx.append (hy.imp fun _ _ r => Im.im r (e1 _ _ hp))))⟩
/-- out[j] = e -/
theorem g_put {i j : Nat} {α : Type} [Im α] {l : List α} {a : α} (hi : S[i]? = some (.own l)) (h : XD He S te a) (hj : XD He S tb (j : Int)) (hl : j < l.length) (k : Nx He (S.set i (.own (l.set j a))) D) (no : (S.set i .any).all notOwn = true := by rfl) :
    Go He S (tAsg te (gSub (tVar i) tb rSetL)) D := fun σ H hs => by
  obtain ⟨p, xs, e, hp, _, _⟩ := hs.own hi
  refine h σ H hs _ fun v H1 e1 i1 => ⟨_, e, hj σ H1 (hs.mono e1) _ fun w H2 e2 i2 => ?_⟩
  obtain ⟨p', ys, e', hp', hx, c⟩ := hs.chg i hi no (e1.trans e2)
  rw [e] at e'
  cases e'
  have hq := e2 _ _ (e1 _ _ hp)
  rw [hq] at hp'
  cases hp'
  exact ⟨p, xs, (j : Int), j, rfl, i2, hq, ixN_nat (by rw [hx.1]; exact hl), k _ _ (c _ _ (hx.set j (Im.im (Rep.mono e2 i1) hq)))⟩
theorem g_ret {α : Type} [Rep α] {a : α} (h : XD He S te a) (k : Rt He D a) : Go He S (tRet te) D := fun σ H hs => h σ H hs _ fun v H1 e1 i1 => k v H1 (hs.ex.trans e1) i1
theorem g_retN {α : Type} [Rep α] {a : α} (h : XN He S te a) (k : RtN He D a) : Go He S (tRet te) D := fun σ H hs => h σ H hs _ fun v H1 e1 n i1 => k v H1 (hs.ex.trans e1) (fun p z => fresh_back hs.ex (n p z)) i1
theorem g_retO {i : Nat} {α : Type} [Rep α] {l : List α} (hi : S[i]? = some (.own l)) (k : RtN He D l) : Go He S (tRet (tVar i)) D := fun σ H hs => by
  obtain ⟨p, xs, e, hp, n, r⟩ := hs.own hi
  exact ⟨_, e, k _ H hs.ex (fun p' z => by cases z; exact n) ⟨p, xs, rfl, hp, r⟩⟩
theorem g_if {b : Bool} (h : XT He S tt b) (h1 : b = true → Go He S ts D) (h2 : b = false → Go He S tw D) : Go He S (tIfS tt ts tw) D := fun σ H hs => h σ H hs _ fun H1 e1 => by
  cases b with
  | true => exact h1 rfl σ H1 (hs.mono e1)
  | false => exact h2 rfl σ H1 (hs.mono e1)
/-- an if without an else, behind it the rest -/
theorem g_when {b : Bool} (h : XT He S tt b) (h1 : b = true → Go He S ts { D with nx := tz D }) (h2 : b = false → Go He S tz D) : Go He S (tSeq (tIfS tt ts tNext) tz) D := g_if (D := { D with nx := tz D }) h h1 h2
theorem g_drop {α : Type} [Rep α] {a : α} (h : XD He S te a) (k : Nx He S D) : Go He S (tDrop te) D := fun σ H hs => h σ H hs _ fun v H1 e1 i1 => k σ H1 (hs.mono e1)
/-- x += e -/
theorem g_aug {i : Nat} {f : Int → Int → Int} {x y : Int} (hi : S[i]? = some (.sh x)) (h : XD He S te y) (k : Nx He (S.set i (.sh (f x y))) D) (no : S.all notOwn = true := by rfl) : Go He S (tAug i te (ipI f)) D := fun σ H hs => by
  obtain ⟨v, e, r⟩ := hs.sh hi
  exact ⟨v, e, h σ H hs _ fun w H1 e1 i1 => ⟨x, y, r, i1, k _ _ ((hs.mono e1).set no i (Rep.is H1 (.int (f x y)) (f x y) |> fun _ => rfl))⟩⟩

end

/-! ### a value beside what is known -/
section
variable {He H H1 : Hp} {S : List Sl} {σ : L2.St}
theorem Holds.setB (h : Holds He S σ H) (i : Nat) {α : Type} [Rep α] {a : α} {v : V} (q : Rep.is He v a) : Holds He (S.set i (.sh a)) (σ.set i (some v)) H := by
  obtain ⟨H0, x, b, c, d⟩ := h
  refine ⟨H0, x, b, by simp [c], fun j s o h1 h2 => ?_⟩
  by_cases e : i = j
  · subst e
    have hi : i < σ.length := by have := (List.getElem?_eq_some_iff.mp h2).1; simpa using this
    rw [List.getElem?_set_self (by omega)] at h1
    rw [List.getElem?_set_self hi] at h2
    cases h1; cases h2
    exact ⟨v, rfl, Rep.mono x q⟩
  · rw [List.getElem?_set_ne e] at h1 h2
    exact d j s o h1 h2
theorem Holds.splitD (h : Holds He S σ H) (no : S.all notOwn = true) : Holds H S σ H := by
  obtain ⟨H0, x, b, c, d⟩ := h
  refine ⟨H, Ex.refl H, Ex.refl H, c, fun j s o h1 h2 => ?_⟩
  have z := d j s o h1 h2
  cases s with
  | any => trivial
  | sh y => obtain ⟨w, z1, z2⟩ := z; exact ⟨w, z1, Rep.mono b z2⟩
  | own l' =>
    have := List.all_eq_true.mp no _ (List.mem_of_getElem? h1)
    cases this
theorem Holds.splitV (h : Holds He S σ H) {i : Nat} {α : Type} [Rep α] {a : α} (e : S[i]? = some (.sh a)) : ∃ H' v, σ[i]? = some (some v) ∧ Ex He H' ∧ Ex H' H ∧ Holds H' S σ H ∧ Rep.is H' v a := by
  obtain ⟨o, ho⟩ := h.at e
  obtain ⟨H0, x, b, c, d⟩ := h
  obtain ⟨v, rfl, q⟩ := d i _ o e ho
  exact ⟨H0, v, ho, x, b, ⟨H0, Ex.refl _, b, c, d⟩, q⟩
theorem Holds.splitN (h : Holds He S σ H) {α : Type} [Av α] {a : α} {v : V} (e1 : Ex H H1) (q : Rep.is H1 v a) (n : ∀ p, v = .ref p → H p = none) (k : Nat) (hk : (S.set k .any).all notOwn = true) : ∃ H', Ex He H' ∧ Ex H' H1 ∧ Holds H' S σ H1 ∧ Rep.is H' v a := by
  have h2 : Holds He (Sl.any :: S) (none :: σ) H := by
    obtain ⟨H0, x, b, c, d⟩ := h
    refine ⟨H0, x, b, by simp [c], fun j s o h1 h2 => ?_⟩
    cases j with
    | zero => simp at h1; subst h1; trivial
    | succ j => exact d j s o (by simpa using h1) (by simpa using h2)
  have h3 := h2.setN 0 e1 q n (k + 1) (by simpa [notOwn] using hk)
  obtain ⟨H0, x, b, c, d⟩ := h3
  obtain ⟨w, e, r⟩ := d 0 (.sh a) (some v) rfl rfl
  cases e
  exact ⟨H0, x, b, ⟨H0, Ex.refl _, b, by simpa using c, fun j s o h1 h2 => d (j + 1) s o (by simpa using h1) (by simpa using h2)⟩, r⟩
end

/-! ### loops -/
section
variable {He : Hp} {S T : List Sl} {K : PySem.W.Frag} {te ta tb tc : TE} {tt tu : TT} {D : Ends} {ts tz tw : TS}
/-- the slots behind i turns -/
abbrev HP (He : Hp) (S : List Sl) : L2.St → Hp → Prop := fun σ H => Holds He S σ H
theorem g_range {j n : Nat} {tr : TA} (Sv : Nat → List Sl) (h : XA He S tr [.sh (n : Int)]) (hn : n ≤ 100000) (h0 : Weak S (Sv 0))
    (hs : ∀ i, i < n → Go He ((Sv i).set j (.sh i)) ts { D with nx := HP He (Sv (i + 1)), ct := HP He (Sv (i + 1)), bk := D.nx }) (hd : Nx He (Sv n) D) :
    Go He S (tFor (iRng1 tr) (gName j) ts) D := fun σ H h1 => h σ H h1 _ fun vs H1 e1 i1 => by
  obtain ⟨v, r, rfl, q, z⟩ := i1
  have z' : r = [] := z
  subst z'
  rw [is_int.mp q]
  refine ⟨(n : Int), rfl, by omega, by omega, for_range (lo := 0) (n := (n : Int).toNat) (fun i σ H => Holds He (Sv i) σ H) ((h1.mono e1).weak h0) (fun i σ' H' hi p => ?_) fun σ' H' p => hd σ' H' (by simpa using p)⟩
  have e0 : (0 : Int) + (i : Int) = (i : Int) := Int.zero_add _
  show ts _ (σ'.set j (some (.int ((0 : Int) + (i : Int))))) H'
  rw [e0]
  exact hs i (by omega) _ _ (Holds.setB p j (a := i) (v := .int (i : Int)) rfl)
/-- range(lo, hi) -/
theorem g_range2 {j lo n : Nat} {tr : TA} (Sv : Nat → List Sl) (h : XA He S tr [.sh (lo : Int), .sh ((lo + n : Nat) : Int)]) (hn : lo + n ≤ 100000) (h0 : Weak S (Sv 0))
    (hs : ∀ i, i < n → Go He ((Sv i).set j (.sh (lo + i))) ts { D with nx := HP He (Sv (i + 1)), ct := HP He (Sv (i + 1)), bk := D.nx }) (hd : Nx He (Sv n) D) :
    Go He S (tFor (iRng2 tr) (gName j) ts) D := fun σ H h1 => h σ H h1 _ fun vs H1 e1 i1 => by
  obtain ⟨v, r, rfl, q, v2, r2, rfl, q2, z⟩ := i1
  have z' : r2 = [] := z
  subst z'
  rw [is_int.mp q, is_int.mp q2]
  have en : (((lo + n : Nat) : Int) - (lo : Int)).toNat = n := by omega
  refine ⟨(lo : Int), ((lo + n : Nat) : Int), rfl, ⟨by omega, by omega, by omega, by omega⟩, ?_⟩
  rw [en]
  refine for_range (lo := (lo : Int)) (n := n) (fun i σ H => Holds He (Sv i) σ H) ((h1.mono e1).weak h0) (fun i σ' H' hi p => ?_) fun σ' H' p => hd σ' H' p
  have e0 : (lo : Int) + (i : Int) = ((lo + i : Nat) : Int) := by omega
  show ts _ (σ'.set j (some (.int ((lo : Int) + (i : Int))))) H'
  rw [e0]
  exact hs i hi _ _ (Holds.setB p j (a := lo + i) (v := .int ((lo + i : Nat) : Int)) rfl)
/-- over a list, the targets as g tells -/
theorem for_core {He' H1 : Hp} {σ : L2.St} {α : Type} [Rep α] {l : List α} {q : Addr} {g : TG} (Sv : Nat → List Sl) (Tv : Nat → α → List Sl) (hl : Rep.is He' (.ref q) l) (h1 : Holds He' (Sv 0) σ H1)
    (hg : ∀ (i : Nat) (a : α) (x : V) (σ' : L2.St) (H' : Hp) (Q : L2.St → Hp → Prop), l[i]? = some a → Rep.is He' x a → Holds He' (Sv i) σ' H' → (∀ σ2 H2, Holds He' (Tv i a) σ2 H2 → Q σ2 H2) → g x σ' H' Q)
    (hs : ∀ (i : Nat) (a : α), l[i]? = some a → Go He' (Tv i a) ts { D with nx := HP He' (Sv (i + 1)), ct := HP He' (Sv (i + 1)), bk := D.nx }) (hd : ∀ σ H, Holds He' (Sv l.length) σ H → D.nx σ H) :
    ∃ a, V.ref q = .ref a ∧ (∃ xs, SqL K H1 a xs) ∧ ∃ W : Nat → Nat → L2.St → Hp → Prop, (∃ m, W 0 m σ H1) ∧ ∀ i m σ H, W i m σ H →
      ((Itl K a).stop i H ∧ D.nx σ H) ∨ ((Itl K a).go i H ∧ ∃ N : L2.St → Hp → Prop, (∀ σ' H', N σ' H' → ∃ m', m' < m ∧ W (i + 1) m' σ' H') ∧ ∀ x H', (Itl K a).yld i H x H' → g x σ H' fun σ2 H2 => ts { D with nx := N, ct := N, bk := D.nx } σ2 H2) := by
  obtain ⟨q', xs, e, hq, hx⟩ := hl
  cases e
  refine ⟨q, rfl, ⟨xs, SqL.of (h1.ex _ _ hq)⟩, for_list (K := K) (xs := xs) (g := g) (tb := ts) (D := D) (fun i σ H => Holds He' (Sv i) σ H) h1 (fun i σ' H' _ p => SqL.of (p.ex _ _ hq)) (fun i x σ' H' hi p => ?_) fun σ' H' p => hd σ' H' (by rw [← hx.1]; exact p)⟩
  obtain ⟨a, ha, r⟩ := hx.getV hi
  exact hg i a x σ' H' _ ha r p fun σ2 H2 h2 => hs i a ha σ2 H2 h2
theorem name_core {He' : Hp} {α : Type} [Rep α] {j : Nat} (Sv : Nat → List Sl) : ∀ (i : Nat) (a : α) (x : V) (σ' : L2.St) (H' : Hp) (Q : L2.St → Hp → Prop), True → Rep.is He' x a → Holds He' (Sv i) σ' H' → (∀ σ2 H2, Holds He' ((Sv i).set j (.sh a)) σ2 H2 → Q σ2 H2) → gName j x σ' H' Q := fun i a x σ' H' Q _ r p k => k _ _ (p.setB j r)
/-- for x in v, v a name -/
theorem g_forV {m j : Nat} {α : Type} [Rep α] {l : List α} (Sv : Nat → List Sl) (hm : S[m]? = some (.sh l)) (h0 : Weak S (Sv 0))
    (hs : ∀ (He' : Hp), Ex He He' → ∀ (i : Nat) (a : α), l[i]? = some a → Go He' ((Sv i).set j (.sh a)) ts { D with nx := HP He' (Sv (i + 1)), ct := HP He' (Sv (i + 1)), bk := D.nx }) (hd : Nx He (Sv l.length) D) :
    Go He S (tFor (iList K (tVar m)) (gName j) ts) D := fun σ H h1 => by
  obtain ⟨He', v, e, x1, x2, h2, r⟩ := h1.splitV hm
  obtain ⟨q, xs, rfl, hq, hx⟩ := id r
  exact ⟨_, e, for_core Sv (fun i a => (Sv i).set j (.sh a)) r (h2.weak h0) (fun i a x σ' H' Q _ r p k => k _ _ (p.setB j r)) (fun i a ha => hs He' x1 i a ha) fun σ' H' p => hd σ' H' (p.low x1)⟩
/-- over what an expression gives, no list of one's own about -/
theorem g_forD {j : Nat} {α : Type} [Rep α] {l : List α} (Sv : Nat → List Sl) (h : XD He S te l) (h0 : Weak S (Sv 0))
    (hs : ∀ (He' : Hp), Ex He He' → ∀ (i : Nat) (a : α), l[i]? = some a → Go He' ((Sv i).set j (.sh a)) ts { D with nx := HP He' (Sv (i + 1)), ct := HP He' (Sv (i + 1)), bk := D.nx }) (hd : Nx He (Sv l.length) D) (no : S.all notOwn = true := by rfl) :
    Go He S (tFor (iList K te) (gName j) ts) D := fun σ H h1 => h σ H h1 _ fun v H1 e1 r => by
  have h2 := (h1.mono e1).splitD no
  obtain ⟨q, xs, rfl, hq, hx⟩ := id r
  exact for_core Sv (fun i a => (Sv i).set j (.sh a)) r (h2.weak h0) (fun i a x σ' H' Q _ r p k => k _ _ (p.setB j r)) (fun i a ha => hs H1 (h1.ex.trans e1) i a ha) fun σ' H' p => hd σ' H' (p.low (h1.ex.trans e1))
/-- over a new list of numbers, a list of one's own in slot o -/
theorem g_forN (o : Nat) {j : Nat} {α : Type} [Im α] {l : List α} (Sv : Nat → List Sl) (h : XN He S te l) (h0 : Weak S (Sv 0))
    (hs : ∀ (He' : Hp), Ex He He' → ∀ (i : Nat) (a : α), l[i]? = some a → Go He' ((Sv i).set j (.sh a)) ts { D with nx := HP He' (Sv (i + 1)), ct := HP He' (Sv (i + 1)), bk := D.nx }) (hd : Nx He (Sv l.length) D) (no : (S.set o .any).all notOwn = true := by rfl) :
    Go He S (tFor (iList K te) (gName j) ts) D := fun σ H h1 => h σ H h1 _ fun v H1 e1 n r => by
  obtain ⟨He', x1, x2, h2, r'⟩ := h1.splitN e1 r n o no
  obtain ⟨q, xs, rfl, hq, hx⟩ := id r'
  exact for_core Sv (fun i a => (Sv i).set j (.sh a)) r' (h2.weak h0) (fun i a x σ' H' Q _ r p k => k _ _ (p.setB j r)) (fun i a ha => hs He' x1 i a ha) fun σ' H' p => hd σ' H' (p.low x1)
/-- while, by a measure of what the loop carries -/
theorem g_while {α : Type} (Sv : α → List Sl) (m : α → Nat) (c : α → Bool) (s0 : α) (I : α → Prop) (i0 : I s0) (h0 : Weak S (Sv s0)) (ht : ∀ s, I s → XT He (Sv s) tt (c s))
    (hs : ∀ s, I s → c s = true → ∃ s', I s' ∧ m s' < m s ∧ Go He (Sv s) ts { D with nx := HP He (Sv s'), ct := HP He (Sv s'), bk := D.nx }) (hd : ∀ s, I s → c s = false → Nx He (Sv s) D) : Go He S (tWhile tt ts) D := fun σ H h1 => by
  refine ⟨fun k σ' H' => ∃ s, I s ∧ m s = k ∧ Holds He (Sv s) σ' H', ⟨_, s0, i0, rfl, h1.weak h0⟩, ?_⟩
  rintro k σ' H' ⟨s, is, rfl, p⟩
  refine ht s is σ' H' p _ fun H2 e2 => ?_
  cases hc : c s with
  | true =>
    obtain ⟨s', is', lt, go⟩ := hs s is hc
    exact ⟨HP He (Sv s'), fun σ3 H3 h3 => ⟨m s', lt, s', is', rfl, h3⟩, go σ' H2 (p.mono e2)⟩
  | false => exact hd s is hc σ' H2 (p.mono e2)
end

/-! ### comprehensions -/
section
variable {He : Hp} {S : List Sl} {K : PySem.W.Frag} {te ta tb : TE} {tt : TT}
theorem wipe_one (σ : L2.St) (j : Nat) (x : Option V) : wipe ((wipe σ [j]).set j x) [j] = wipe σ [j] := by
  show ((σ.set j none).set j x).set j none = σ.set j none
  rw [List.set_set, List.set_set]
theorem wipe_set (σ : L2.St) (j : Nat) (x : Option V) : (wipe σ [j]).set j x = σ.set j x := by
  show (σ.set j none).set j x = σ.set j x
  rw [List.set_set]
/-- the part of a list that a comprehension has made -/
def lcOf {α β : Type} (l : List α) (f : α → Bool) (g : α → β) : List β := (l.filter f).map g
theorem lc_yes {α β : Type} {l : List α} {f : α → Bool} {g : α → β} {i : Nat} {a : α} (h : l[i]? = some a) (hf : f a = true) : lcOf (l.take (i + 1)) f g = lcOf (l.take i) f g ++ [g a] := by
  unfold lcOf
  rw [List.take_add_one, h, List.filter_append, List.map_append]
  simp [hf]
theorem lc_no {α β : Type} {l : List α} {f : α → Bool} {g : α → β} {i : Nat} {a : α} (h : l[i]? = some a) (hf : f a = false) : lcOf (l.take (i + 1)) f g = lcOf (l.take i) f g := by
  unfold lcOf
  rw [List.take_add_one, h, List.filter_append, List.map_append]
  simp [hf]
theorem lc_len {α β : Type} (l : List α) (f : α → Bool) (g : α → β) (i : Nat) : (lcOf (l.take i) f g).length ≤ l.length := by
  unfold lcOf
  rw [List.length_map]
  exact Nat.le_trans (List.length_filter_le _ _) (by rw [List.length_take]; omega)
/-- the new list at D behind i turns -/
def Mk {β : Type} [Rep β] (H1 : Hp) (D : Addr) (m : List β) (H' : Hp) : Prop := Ex H1 H' ∧ ∃ acc, H' D = some (.lst acc) ∧ All2 (Rep.is (del H' D)) acc m
theorem Mk.up {β : Type} [Rep β] {H1 H' H2 : Hp} {D : Addr} {m : List β} (h : Mk H1 D m H') (e : Ex H' H2) : Mk H1 D m H2 := by
  obtain ⟨a, acc, h1, h2⟩ := h
  refine ⟨a.trans e, acc, e _ _ h1, h2.imp fun _ _ => Rep.mono fun b o hb => ?_⟩
  have nb : b ≠ D := fun z => by subst z; rw [del_self] at hb; cases hb
  rw [del_ne nb] at hb ⊢
  exact e _ _ hb
theorem Mk.push {β : Type} [Av β] {H1 H3 H4 : Hp} {D : Addr} {m : List β} {y : V} {b : β} (hD : H1 D = none) (h : Mk H1 D m H3) (e : Ex H3 H4) (i : Rep.is H4 y b) (n : ∀ p, y = .ref p → H3 p = none) (hz : m.length < 100000) :
    ∃ acc, H4 D = some (.lst acc) ∧ acc.length < sizeLine ∧ Mk H1 D (m ++ [b]) (upd H4 D (.lst (acc ++ [y]))) := by
  obtain ⟨a, acc, h1, h2⟩ := h.up e
  have h3 : ∃ o, H3 D = some o := by obtain ⟨_, acc', q, _⟩ := h; exact ⟨_, q⟩
  have ed : del (upd H4 D (.lst (acc ++ [y]))) D = del H4 D := by
    funext b'
    by_cases z : b' = D
    · subst z; rw [del_self, del_self]
    · rw [del_ne z, del_ne z, upd_ne z]
  refine ⟨acc, h1, sz_lt (by rw [h2.1]; exact hz), a.mut hD, _, upd_same, ?_⟩
  rw [ed]
  exact h2.append (All2.cons (Av.av i h1 fun z => by
    obtain ⟨o, ho⟩ := h3
    rw [n D z] at ho; cases ho) All2.nil)
theorem Mk.fin {β : Type} [Rep β] {H1 H' : Hp} {D : Addr} {m : List β} (h : Mk H1 D m H') : Rep.is H' (.ref D) m := by
  obtain ⟨a, acc, h1, h2⟩ := h
  exact ⟨D, acc, rfl, h1, h2.imp fun _ _ => Rep.mono del_ex⟩
theorem Mk.zero {β : Type} [Rep β] {H1 : Hp} {D : Addr} (hD : H1 D = none) : Mk H1 D ([] : List β) (upd H1 D (.lst [])) := ⟨Ex.new hD, [], upd_same, All2.nil⟩
theorem lc_core' {He' H H1 : Hp} {σ : L2.St} {α β : Type} [Rep α] [Av β] {l : List α} {f : α → Bool} {g : α → β} {q : Addr} {j : Nat} {Q : VK} (hl : Rep.is He' (.ref q) l) (h1 : Holds He' S σ H1) (hz : l.length < 100000)
    (ht : ∀ (i : Nat) (a : α), l[i]? = some a → XT He' (S.set j (.sh a)) tt (f a)) (hg : ∀ (i : Nat) (a : α), l[i]? = some a → f a = true → XN He' (S.set j (.sh a)) te (g a))
    (hQ : ∀ (v : V) (H2 : Hp), Ex H1 H2 → (∀ p, v = .ref p → H1 p = none) → Rep.is H2 v (lcOf l f g) → Q v H2) :
    ∃ a, V.ref q = .ref a ∧ (∃ xs, SqL K H1 a xs) ∧ ∀ D, H1 D = none → ∃ W : Nat → Nat → Hp → Prop, (∃ m, W 0 m (upd H1 D (.lst []))) ∧ ∀ i m H, W i m H →
      ((Itl K a).stop i H ∧ Q (.ref D) H) ∨ ((Itl K a).go i H ∧ ∃ N : Hp → Prop, (∀ H', N H' → ∃ m', m' < m ∧ W (i + 1) m' H') ∧ ∀ x H', (Itl K a).yld i H x H' → gName j x (wipe σ [j]) H' fun σ2 H2 => wipe σ2 [j] = wipe σ [j] ∧ tt σ2 H2 fun b H3 =>
        if b = true then te σ2 H3 fun y H4 => ∃ acc, H4 D = some (.lst acc) ∧ acc.length < sizeLine ∧ N (upd H4 D (.lst (acc ++ [y]))) else N H3) := by
  obtain ⟨q', xs, e, hq, hx⟩ := id hl
  cases e
  refine ⟨q, rfl, ⟨xs, SqL.of (h1.ex _ _ hq)⟩, fun D hD => ?_⟩
  refine lc_list (K := K) (xs := xs) (fun i H' => Mk H1 D (lcOf (l.take i) f g) H') (Mk.zero hD) (fun i H' _ p => SqL.of (p.1 _ _ (h1.ex _ _ hq))) (fun i x H' hi p => ?_) fun H' p => ?_
  · obtain ⟨a, ha, r⟩ := hx.getV hi
    show wipe ((wipe σ [j]).set j (some x)) [j] = wipe σ [j] ∧ tt ((wipe σ [j]).set j (some x)) H' _
    refine ⟨wipe_one σ j _, ?_⟩
    rw [wipe_set]
    have h2 := (h1.mono p.1).setB j r
    refine ht i a ha _ _ h2 _ fun H3 e3 => ?_
    cases hf : f a with
    | true =>
      refine hg i a ha hf _ _ (h2.mono e3) _ fun y H4 e4 n4 i4 => ?_
      obtain ⟨acc, a1, a2, a3⟩ := Mk.push hD (p.up e3) e4 i4 n4 (Nat.lt_of_le_of_lt (lc_len l f g i) hz)
      exact ⟨acc, a1, a2, by rw [lc_yes ha hf]; exact a3⟩
    | false =>
      show Mk H1 D (lcOf (l.take (i + 1)) f g) H3
      rw [lc_no ha hf]
      exact p.up e3
  · have e : l.take xs.length = l := by rw [hx.1, List.take_length]
    rw [e] at p
    exact hQ _ _ p.1 (fun p' z => by cases z; exact hD) p.fin
/-- [e for x in v if t], v a name -/
theorem x_lcV {m j : Nat} {α β : Type} [Rep α] [Av β] {l : List α} (f : α → Bool) (g : α → β) (hm : S[m]? = some (.sh l)) (hz : l.length < 100000)
    (ht : ∀ He' : Hp, Ex He He' → ∀ (i : Nat) (a : α), l[i]? = some a → XT He' (S.set j (.sh a)) tt (f a)) (hg : ∀ He' : Hp, Ex He He' → ∀ (i : Nat) (a : α), l[i]? = some a → f a = true → XN He' (S.set j (.sh a)) te (g a)) :
    XN He S (tLc (iList K (tVar m)) (gName j) tt te [j]) ((l.filter f).map g) := fun σ H h1 Q hQ => by
  obtain ⟨He', v, e, x1, x2, h2, r⟩ := h1.splitV hm
  obtain ⟨q, xs, rfl, hq, hx⟩ := id r
  exact ⟨_, e, lc_core' (H := H) r h2 hz (fun i a ha => ht He' x1 i a ha) (fun i a ha hf => hg He' x1 i a ha hf) hQ⟩
/-- .. over what an expression gives -/
theorem x_lcD {j : Nat} {α β : Type} [Rep α] [Av β] {l : List α} (f : α → Bool) (g : α → β) (h : XD He S ta l) (hz : l.length < 100000)
    (ht : ∀ He' : Hp, Ex He He' → ∀ (i : Nat) (a : α), l[i]? = some a → XT He' (S.set j (.sh a)) tt (f a)) (hg : ∀ He' : Hp, Ex He He' → ∀ (i : Nat) (a : α), l[i]? = some a → f a = true → XN He' (S.set j (.sh a)) te (g a)) (no : S.all notOwn = true := by rfl) :
    XN He S (tLc (iList K ta) (gName j) tt te [j]) ((l.filter f).map g) := fun σ H h1 Q hQ => h σ H h1 _ fun v H1 e1 r => by
  have h2 := (h1.mono e1).splitD no
  obtain ⟨q, xs, rfl, hq, hx⟩ := id r
  exact lc_core' (H := H) r h2 hz (fun i a ha => ht H1 (h1.ex.trans e1) i a ha) (fun i a ha hf => hg H1 (h1.ex.trans e1) i a ha hf) fun v H2 e2 n i => hQ v H2 (e1.trans e2) (fun p z => fresh_back e1 (n p z)) i
/-- [e for i in range(n) if t] -/
theorem x_lcR {j n : Nat} {β : Type} [Av β] {tr : TA} (f : Nat → Bool) (g : Nat → β) (h : XA He S tr [.sh (n : Int)]) (hz : n < 100000)
    (ht : ∀ i, i < n → XT He (S.set j (.sh i)) tt (f i)) (hg : ∀ i, i < n → f i = true → XN He (S.set j (.sh i)) te (g i)) :
    XN He S (tLc (iRng1 tr) (gName j) tt te [j]) (((List.range n).filter f).map g) := fun σ H h0 Q hQ => h σ H h0 _ fun vs H1 e1 i1 => by
  obtain ⟨v, r, rfl, q, z⟩ := i1
  have z' : r = [] := z
  subst z'
  rw [is_int.mp q]
  have h1 := h0.mono e1
  refine ⟨(n : Int), rfl, by omega, by omega, fun D hD => ?_⟩
  refine lc_range (lo := 0) (n := (n : Int).toNat) (fun i H' => Mk H1 D (lcOf ((List.range n).take i) f g) H') (Mk.zero hD) (fun i H' hi p => ?_) fun H' p => ?_
  · have e0 : (0 : Int) + (i : Int) = (i : Int) := Int.zero_add _
    have hi' : i < n := by omega
    have ha : (List.range n)[i]? = some i := by rw [List.getElem?_range hi']
    show wipe ((wipe σ [j]).set j (some (.int ((0 : Int) + (i : Int))))) [j] = wipe σ [j] ∧ tt ((wipe σ [j]).set j (some (.int ((0 : Int) + (i : Int))))) H' _
    refine ⟨wipe_one σ j _, ?_⟩
    rw [wipe_set, e0]
    have h2 := (h1.mono p.1).setB j (a := i) (v := .int (i : Int)) rfl
    refine ht i hi' _ _ h2 _ fun H3 e3 => ?_
    cases hf : f i with
    | true =>
      refine hg i hi' hf _ _ (h2.mono e3) _ fun y H4 e4 n4 i4 => ?_
      obtain ⟨acc, a1, a2, a3⟩ := Mk.push hD (p.up e3) e4 i4 n4 (Nat.lt_of_le_of_lt (lc_len (List.range n) f g i) (by simpa using hz))
      exact ⟨acc, a1, a2, by rw [lc_yes ha hf]; exact a3⟩
    | false =>
      show Mk H1 D (lcOf ((List.range n).take (i + 1)) f g) H3
      rw [lc_no ha hf]
      exact p.up e3
  · have e : (List.range n).take (n : Int).toNat = List.range n := by
      rw [Int.toNat_natCast]
      exact List.take_of_length_le (by simp)
    rw [e] at p
    exact hQ _ _ (e1.trans p.1) (fun p' z => by cases z; exact fresh_back e1 hD) p.fin
end
end Cr
namespace Cr
open PySem L2 Evl
/-! ### loops that carry a fact, too -/
section
variable {He : Hp} {S T : List Sl} {K : PySem.W.Frag} {te ta tb tc : TE} {tt tu : TT} {D : Ends} {ts tz tw : TS}
abbrev HPp (He : Hp) (p : Prop) (S : List Sl) : L2.St → Hp → Prop := fun σ H => p ∧ Holds He S σ H
theorem nxp {p : Prop} (h : p) (w : Weak S T) (e : D.nx = HPp He p T := by rfl) : Nx He S D := fun σ H hs => by rw [e]; exact ⟨h, hs.weak w⟩
theorem g_rangeP {j n : Nat} {tr : TA} (Pv : Nat → Prop) (Sv : Nat → List Sl) (h : XA He S tr [.sh (n : Int)]) (hn : n ≤ 100000) (p0 : Pv 0) (h0 : Weak S (Sv 0))
    (hs : ∀ i, i < n → Pv i → Go He ((Sv i).set j (.sh i)) ts { D with nx := HPp He (Pv (i + 1)) (Sv (i + 1)), ct := HPp He (Pv (i + 1)) (Sv (i + 1)), bk := D.nx }) (hd : Pv n → Nx He (Sv n) D) :
    Go He S (tFor (iRng1 tr) (gName j) ts) D := fun σ H h1 => h σ H h1 _ fun vs H1 e1 i1 => by
  obtain ⟨v, r, rfl, q, z⟩ := i1
  have z' : r = [] := z
  subst z'
  rw [is_int.mp q]
  refine ⟨(n : Int), rfl, by omega, by omega, for_range (lo := 0) (n := (n : Int).toNat) (fun i σ H => HPp He (Pv i) (Sv i) σ H) ⟨p0, (h1.mono e1).weak h0⟩ (fun i σ' H' hi p => ?_) fun σ' H' p => ?_⟩
  · have e0 : (0 : Int) + (i : Int) = (i : Int) := Int.zero_add _
    show ts _ (σ'.set j (some (.int ((0 : Int) + (i : Int))))) H'
    rw [e0]
    exact hs i (by omega) p.1 _ _ (Holds.setB p.2 j (a := i) (v := .int (i : Int)) rfl)
  · rw [Int.toNat_natCast] at p
    exact hd p.1 σ' H' p.2
theorem for_coreP {He' H1 : Hp} {σ : L2.St} {α : Type} [Rep α] {l : List α} {q : Addr} {g : TG} (Pv : Nat → Prop) (Sv : Nat → List Sl) (Tv : Nat → α → List Sl) (hl : Rep.is He' (.ref q) l) (p0 : Pv 0) (h1 : Holds He' (Sv 0) σ H1)
    (hg : ∀ (i : Nat) (a : α) (x : V) (σ' : L2.St) (H' : Hp) (Q : L2.St → Hp → Prop), l[i]? = some a → Rep.is He' x a → Holds He' (Sv i) σ' H' → (∀ σ2 H2, Holds He' (Tv i a) σ2 H2 → Q σ2 H2) → g x σ' H' Q)
    (hs : ∀ (i : Nat) (a : α), l[i]? = some a → Pv i → Go He' (Tv i a) ts { D with nx := HPp He' (Pv (i + 1)) (Sv (i + 1)), ct := HPp He' (Pv (i + 1)) (Sv (i + 1)), bk := D.nx }) (hd : ∀ σ H, Pv l.length → Holds He' (Sv l.length) σ H → D.nx σ H) :
    ∃ a, V.ref q = .ref a ∧ (∃ xs, SqL K H1 a xs) ∧ ∃ W : Nat → Nat → L2.St → Hp → Prop, (∃ m, W 0 m σ H1) ∧ ∀ i m σ H, W i m σ H →
      ((Itl K a).stop i H ∧ D.nx σ H) ∨ ((Itl K a).go i H ∧ ∃ N : L2.St → Hp → Prop, (∀ σ' H', N σ' H' → ∃ m', m' < m ∧ W (i + 1) m' σ' H') ∧ ∀ x H', (Itl K a).yld i H x H' → g x σ H' fun σ2 H2 => ts { D with nx := N, ct := N, bk := D.nx } σ2 H2) := by
  obtain ⟨q', xs, e, hq, hx⟩ := hl
  cases e
  refine ⟨q, rfl, ⟨xs, SqL.of (h1.ex _ _ hq)⟩, for_list (K := K) (xs := xs) (g := g) (tb := ts) (D := D) (fun i σ H => HPp He' (Pv i) (Sv i) σ H) ⟨p0, h1⟩ (fun i σ' H' _ p => SqL.of (p.2.ex _ _ hq)) (fun i x σ' H' hi p => ?_) fun σ' H' p => hd σ' H' (by rw [← hx.1]; exact p.1) (by rw [← hx.1]; exact p.2)⟩
  obtain ⟨a, ha, r⟩ := hx.getV hi
  exact hg i a x σ' H' _ ha r p.2 fun σ2 H2 h2 => hs i a ha p.1 σ2 H2 h2
theorem g_forVP {m j : Nat} {α : Type} [Rep α] {l : List α} (Pv : Nat → Prop) (Sv : Nat → List Sl) (hm : S[m]? = some (.sh l)) (p0 : Pv 0) (h0 : Weak S (Sv 0))
    (hs : ∀ (He' : Hp), Ex He He' → ∀ (i : Nat) (a : α), l[i]? = some a → Pv i → Go He' ((Sv i).set j (.sh a)) ts { D with nx := HPp He' (Pv (i + 1)) (Sv (i + 1)), ct := HPp He' (Pv (i + 1)) (Sv (i + 1)), bk := D.nx }) (hd : Pv l.length → Nx He (Sv l.length) D) :
    Go He S (tFor (iList K (tVar m)) (gName j) ts) D := fun σ H h1 => by
  obtain ⟨He', v, e, x1, x2, h2, r⟩ := h1.splitV hm
  obtain ⟨q, xs, rfl, hq, hx⟩ := id r
  exact ⟨_, e, for_coreP Pv Sv (fun i a => (Sv i).set j (.sh a)) r p0 (h2.weak h0) (fun i a x σ' H' Q _ r p k => k _ _ (p.setB j r)) (fun i a ha => hs He' x1 i a ha) fun σ' H' p0 p => hd p0 σ' H' (p.low x1)⟩
theorem g_forDP {j : Nat} {α : Type} [Rep α] {l : List α} (Pv : Nat → Prop) (Sv : Nat → List Sl) (h : XD He S te l) (p0 : Pv 0) (h0 : Weak S (Sv 0))
    (hs : ∀ (He' : Hp), Ex He He' → ∀ (i : Nat) (a : α), l[i]? = some a → Pv i → Go He' ((Sv i).set j (.sh a)) ts { D with nx := HPp He' (Pv (i + 1)) (Sv (i + 1)), ct := HPp He' (Pv (i + 1)) (Sv (i + 1)), bk := D.nx }) (hd : Pv l.length → Nx He (Sv l.length) D) (no : S.all notOwn = true := by rfl) :
    Go He S (tFor (iList K te) (gName j) ts) D := fun σ H h1 => h σ H h1 _ fun v H1 e1 r => by
  have h2 := (h1.mono e1).splitD no
  obtain ⟨q, xs, rfl, hq, hx⟩ := id r
  exact for_coreP Pv Sv (fun i a => (Sv i).set j (.sh a)) r p0 (h2.weak h0) (fun i a x σ' H' Q _ r p k => k _ _ (p.setB j r)) (fun i a ha => hs H1 (h1.ex.trans e1) i a ha) fun σ' H' p0 p => hd p0 σ' H' (p.low (h1.ex.trans e1))
end
end Cr
namespace Cr
open PySem L2 Evl
/-! ### the same, something behind -/
section
variable {He : Hp} {S T : List Sl} {K : PySem.W.Frag} {te ta tb tc : TE} {tt tu : TT} {D : Ends} {ts tz tw : TS}
theorem q_set {i : Nat} {α : Type} [Rep α] {a : α} (h : XD He S te a) (k : Go He (S.set i (.sh a)) tz D) (no : S.all notOwn = true := by rfl) : Go He S (tSeq (tAsg te (gName i)) tz) D := g_set (D := { D with nx := tz D }) h k no
theorem q_setN (j : Nat) {i : Nat} {α : Type} [Av α] {a : α} (h : XN He S te a) (k : Go He (S.set i (.sh a)) tz D) (no : (S.set j .any).all notOwn = true := by rfl) : Go He S (tSeq (tAsg te (gName i)) tz) D := g_setN (D := { D with nx := tz D }) j h k no
theorem q_own {i : Nat} {l : List Int} {tr : TA} (h : XA He S tr (l.map fun n => Sl.sh n)) (k : Go He (S.set i (.own l)) tz D) (hz : l.length ≤ 100000 := by first | decide | simp) (no : S.all notOwn = true := by rfl) : Go He S (tSeq (tAsg (tLst tr) (gName i)) tz) D := g_own (D := { D with nx := tz D }) h k hz no
theorem q_nil {i : Nat} {α : Type} [Rep α] (k : Go He (S.set i (.own ([] : List α))) tz D) (no : S.all notOwn = true := by rfl) : Go He S (tSeq (tAsg (tLst tNil) (gName i)) tz) D := g_nil (D := { D with nx := tz D }) k no
theorem q_app {i : Nat} {α : Type} [Im α] {l : List α} {a : α} (hi : S[i]? = some (.own l)) (h : XD He S te a) (hz : l.length < 100000) (k : Go He (S.set i (.own (l ++ [a]))) tz D) (no : (S.set i .any).all notOwn = true := by rfl) :
    Go He S (tSeq (tDrop (tBM K "list" rAppend (tVar i) (tCons te tNil))) tz) D := g_app (D := { D with nx := tz D }) hi h hz k no
theorem q_ext {i : Nat} {α : Type} [Im α] {l m : List α} (hi : S[i]? = some (.own l)) (h : XN He S te m) (hz : l.length + m.length ≤ 100000) (k : Go He (S.set i (.own (l ++ m))) tz D) (no : (S.set i .any).all notOwn = true := by rfl) :
    Go He S (tSeq (tDrop (tBM K "list" rExtend (tVar i) (tCons te tNil))) tz) D := g_ext (D := { D with nx := tz D }) hi h hz k no
theorem q_put {i j : Nat} {α : Type} [Im α] {l : List α} {a : α} (hi : S[i]? = some (.own l)) (h : XD He S te a) (hj : XD He S tb (j : Int)) (hl : j < l.length) (k : Go He (S.set i (.own (l.set j a))) tz D) (no : (S.set i .any).all notOwn = true := by rfl) :
    Go He S (tSeq (tAsg te (gSub (tVar i) tb rSetL)) tz) D := g_put (D := { D with nx := tz D }) hi h hj hl k no
theorem q_range {j n : Nat} {tr : TA} (Sv : Nat → List Sl) (h : XA He S tr [.sh (n : Int)]) (hn : n ≤ 100000) (h0 : Weak S (Sv 0))
    (hs : ∀ i, i < n → Go He ((Sv i).set j (.sh i)) ts { D with nx := HP He (Sv (i + 1)), ct := HP He (Sv (i + 1)), bk := tz D }) (hd : Go He (Sv n) tz D) : Go He S (tSeq (tFor (iRng1 tr) (gName j) ts) tz) D := g_range (D := { D with nx := tz D }) Sv h hn h0 hs hd
theorem q_rangeP {j n : Nat} {tr : TA} (Pv : Nat → Prop) (Sv : Nat → List Sl) (h : XA He S tr [.sh (n : Int)]) (hn : n ≤ 100000) (p0 : Pv 0) (h0 : Weak S (Sv 0))
    (hs : ∀ i, i < n → Pv i → Go He ((Sv i).set j (.sh i)) ts { D with nx := HPp He (Pv (i + 1)) (Sv (i + 1)), ct := HPp He (Pv (i + 1)) (Sv (i + 1)), bk := tz D }) (hd : Pv n → Go He (Sv n) tz D) : Go He S (tSeq (tFor (iRng1 tr) (gName j) ts) tz) D := g_rangeP (D := { D with nx := tz D }) Pv Sv h hn p0 h0 hs hd
theorem q_range2 {j lo n : Nat} {tr : TA} (Sv : Nat → List Sl) (h : XA He S tr [.sh (lo : Int), .sh ((lo + n : Nat) : Int)]) (hn : lo + n ≤ 100000) (h0 : Weak S (Sv 0))
    (hs : ∀ i, i < n → Go He ((Sv i).set j (.sh (lo + i))) ts { D with nx := HP He (Sv (i + 1)), ct := HP He (Sv (i + 1)), bk := tz D }) (hd : Go He (Sv n) tz D) : Go He S (tSeq (tFor (iRng2 tr) (gName j) ts) tz) D := g_range2 (D := { D with nx := tz D }) Sv h hn h0 hs hd
theorem q_forV {m j : Nat} {α : Type} [Rep α] {l : List α} (Sv : Nat → List Sl) (hm : S[m]? = some (.sh l)) (h0 : Weak S (Sv 0))
    (hs : ∀ (He' : Hp), Ex He He' → ∀ (i : Nat) (a : α), l[i]? = some a → Go He' ((Sv i).set j (.sh a)) ts { D with nx := HP He' (Sv (i + 1)), ct := HP He' (Sv (i + 1)), bk := tz D }) (hd : Go He (Sv l.length) tz D) : Go He S (tSeq (tFor (iList K (tVar m)) (gName j) ts) tz) D := g_forV (D := { D with nx := tz D }) Sv hm h0 hs hd
theorem q_forVP {m j : Nat} {α : Type} [Rep α] {l : List α} (Pv : Nat → Prop) (Sv : Nat → List Sl) (hm : S[m]? = some (.sh l)) (p0 : Pv 0) (h0 : Weak S (Sv 0))
    (hs : ∀ (He' : Hp), Ex He He' → ∀ (i : Nat) (a : α), l[i]? = some a → Pv i → Go He' ((Sv i).set j (.sh a)) ts { D with nx := HPp He' (Pv (i + 1)) (Sv (i + 1)), ct := HPp He' (Pv (i + 1)) (Sv (i + 1)), bk := tz D }) (hd : Pv l.length → Go He (Sv l.length) tz D) : Go He S (tSeq (tFor (iList K (tVar m)) (gName j) ts) tz) D := g_forVP (D := { D with nx := tz D }) Pv Sv hm p0 h0 hs hd
theorem q_forD {j : Nat} {α : Type} [Rep α] {l : List α} (Sv : Nat → List Sl) (h : XD He S te l) (h0 : Weak S (Sv 0))
    (hs : ∀ (He' : Hp), Ex He He' → ∀ (i : Nat) (a : α), l[i]? = some a → Go He' ((Sv i).set j (.sh a)) ts { D with nx := HP He' (Sv (i + 1)), ct := HP He' (Sv (i + 1)), bk := tz D }) (hd : Go He (Sv l.length) tz D) (no : S.all notOwn = true := by rfl) : Go He S (tSeq (tFor (iList K te) (gName j) ts) tz) D := g_forD (D := { D with nx := tz D }) Sv h h0 hs hd no
theorem q_forDP {j : Nat} {α : Type} [Rep α] {l : List α} (Pv : Nat → Prop) (Sv : Nat → List Sl) (h : XD He S te l) (p0 : Pv 0) (h0 : Weak S (Sv 0))
    (hs : ∀ (He' : Hp), Ex He He' → ∀ (i : Nat) (a : α), l[i]? = some a → Pv i → Go He' ((Sv i).set j (.sh a)) ts { D with nx := HPp He' (Pv (i + 1)) (Sv (i + 1)), ct := HPp He' (Pv (i + 1)) (Sv (i + 1)), bk := tz D }) (hd : Pv l.length → Go He (Sv l.length) tz D) (no : S.all notOwn = true := by rfl) : Go He S (tSeq (tFor (iList K te) (gName j) ts) tz) D := g_forDP (D := { D with nx := tz D }) Pv Sv h p0 h0 hs hd no
theorem q_forN (o : Nat) {j : Nat} {α : Type} [Im α] {l : List α} (Sv : Nat → List Sl) (h : XN He S te l) (h0 : Weak S (Sv 0))
    (hs : ∀ (He' : Hp), Ex He He' → ∀ (i : Nat) (a : α), l[i]? = some a → Go He' ((Sv i).set j (.sh a)) ts { D with nx := HP He' (Sv (i + 1)), ct := HP He' (Sv (i + 1)), bk := tz D }) (hd : Go He (Sv l.length) tz D) (no : (S.set o .any).all notOwn = true := by rfl) : Go He S (tSeq (tFor (iList K te) (gName j) ts) tz) D := g_forN (D := { D with nx := tz D }) o Sv h h0 hs hd no
theorem q_while {α : Type} (Sv : α → List Sl) (m : α → Nat) (c : α → Bool) (s0 : α) (I : α → Prop) (i0 : I s0) (h0 : Weak S (Sv s0)) (ht : ∀ s, I s → XT He (Sv s) tt (c s))
    (hs : ∀ s, I s → c s = true → ∃ s', I s' ∧ m s' < m s ∧ Go He (Sv s) ts { D with nx := HP He (Sv s'), ct := HP He (Sv s'), bk := tz D }) (hd : ∀ s, I s → c s = false → Go He (Sv s) tz D) : Go He S (tSeq (tWhile tt ts) tz) D := g_while (D := { D with nx := tz D }) Sv m c s0 I i0 h0 ht hs hd
/-- if test: return c -/
theorem q_code {b : Bool} {α : Type} [Rep α] {r a : α} (h : XT He S tt b) (h1 : XD He S te a) (e : b = true → a = r) (kr : Rt He D r) (h2 : b = false → Go He S tz D) : Go He S (tSeq (tIfS tt (tRet te) tNext) tz) D :=
  g_when h (fun hb => g_ret (D := { D with nx := tz D }) (h1.eq (e hb)) kr) h2
theorem q_codeN {b : Bool} {α : Type} [Rep α] {r a : α} (h : XT He S tt b) (h1 : XN He S te a) (e : b = true → a = r) (kr : RtN He D r) (h2 : b = false → Go He S tz D) : Go He S (tSeq (tIfS tt (tRet te) tNext) tz) D :=
  g_when h (fun hb => g_retN (D := { D with nx := tz D }) (h1.eq (e hb)) kr) h2
end
end Cr
namespace Cr
open PySem PySem.Spec PyProof.Rows L2 Evl
/-! ### the text's defs by their places -/
def topS (i : Nat) : Stmt := PySem.Challenge.pw_crossholdings_s01_answers.main.body.getD i (.Pass ⟨0, 0, 0, 0⟩)
abbrev s_init : Stmt := inClass (topS 1) 0
theorem sc_init : FnScope ["self"] ["self"] (defScope s_init) := ⟨rfl, rfl, rfl, by decide +kernel, rfl, by decide +kernel, by decide +kernel⟩
abbrev s_add_party : Stmt := inClass (topS 1) 1
theorem sc_add_party : FnScope ["self", "company"] ["self", "company"] (defScope s_add_party) := ⟨rfl, rfl, rfl, by decide +kernel, rfl, by decide +kernel, by decide +kernel⟩
abbrev s_add_record : Stmt := inClass (topS 1) 2
theorem sc_add_record : FnScope ["self", "record"] ["self", "record"] (defScope s_add_record) := ⟨rfl, rfl, rfl, by decide +kernel, rfl, by decide +kernel, by decide +kernel⟩
abbrev s_companies_of : Stmt := topS 2
theorem sc_companies_of : FnScope ["parties", "i"] ["parties"] (defScope s_companies_of) := ⟨rfl, rfl, rfl, by decide +kernel, rfl, by decide +kernel, by decide +kernel⟩
abbrev s_is_cancelled : Stmt := topS 24
theorem sc_is_cancelled : FnScope ["records", "n", "number", "i"] ["records", "n", "number"] (defScope s_is_cancelled) := ⟨rfl, rfl, rfl, by decide +kernel, rfl, by decide +kernel, by decide +kernel⟩
abbrev s_live_records : Stmt := topS 25
theorem sc_live_records : FnScope ["records", "n", "out", "i"] ["records", "n"] (defScope s_live_records) := ⟨rfl, rfl, rfl, by decide +kernel, rfl, by decide +kernel, by decide +kernel⟩
abbrev s_record_days : Stmt := topS 26
theorem sc_record_days : FnScope ["live", "record"] ["live"] (defScope s_record_days) := ⟨rfl, rfl, rfl, by decide +kernel, rfl, by decide +kernel, by decide +kernel⟩
abbrev s_change_of : Stmt := topS 27
theorem sc_change_of : FnScope ["kind", "percent"] ["kind", "percent"] (defScope s_change_of) := ⟨rfl, rfl, rfl, by decide +kernel, rfl, by decide +kernel, by decide +kernel⟩
abbrev s_holdings_on : Stmt := topS 28
theorem sc_holdings_on : FnScope ["parties", "live", "day", "many", "table", "kind", "when", "owner", "company", "percent", "i"] ["parties", "live", "day"] (defScope s_holdings_on) := ⟨rfl, rfl, rfl, by decide +kernel, rfl, by decide +kernel, by decide +kernel⟩
abbrev s_held_table : Stmt := topS 29
theorem sc_held_table : FnScope ["book", "day", "n"] ["book", "day", "n"] (defScope s_held_table) := ⟨rfl, rfl, rfl, by decide +kernel, rfl, by decide +kernel, by decide +kernel⟩
abbrev s_held_in : Stmt := topS 30
theorem sc_held_in : FnScope ["table", "members", "company", "k"] ["table", "members", "company"] (defScope s_held_in) := ⟨rfl, rfl, rfl, by decide +kernel, rfl, by decide +kernel, by decide +kernel⟩
abbrev s_all_held : Stmt := topS 31
theorem sc_all_held : FnScope ["table", "company", "row"] ["table", "company"] (defScope s_all_held) := ⟨rfl, rfl, rfl, by decide +kernel, rfl, by decide +kernel, by decide +kernel⟩
abbrev s_free_float : Stmt := topS 32
theorem sc_free_float : FnScope ["table", "company"] ["table", "company"] (defScope s_free_float) := ⟨rfl, rfl, rfl, by decide +kernel, rfl, by decide +kernel, by decide +kernel⟩
abbrev s_added_companies : Stmt := topS 34
theorem sc_added_companies : FnScope ["table", "companies", "members", "out", "company"] ["table", "companies", "members"] (defScope s_added_companies) := ⟨rfl, rfl, rfl, by decide +kernel, rfl, by decide +kernel, by decide +kernel⟩
abbrev s_control_rows : Stmt := topS 35
theorem sc_control_rows : FnScope ["table", "parties", "party", "companies", "members", "rows", "number", "added", "company"] ["table", "parties", "party"] (defScope s_control_rows) := ⟨rfl, rfl, rfl, by decide +kernel, rfl, by decide +kernel, by decide +kernel⟩
abbrev s_controlled_by : Stmt := topS 36
theorem sc_controlled_by : FnScope ["table", "parties", "party", "row"] ["table", "parties", "party"] (defScope s_controlled_by) := ⟨rfl, rfl, rfl, by decide +kernel, rfl, by decide +kernel, by decide +kernel⟩
abbrev s_within : Stmt := topS 38
theorem sc_within : FnScope ["value", "low", "high"] ["value", "low", "high"] (defScope s_within) := ⟨rfl, rfl, rfl, by decide +kernel, rfl, by decide +kernel, by decide +kernel⟩
abbrev s_is_day : Stmt := topS 39
theorem sc_is_day : FnScope ["day"] ["day"] (defScope s_is_day) := ⟨rfl, rfl, rfl, by decide +kernel, rfl, by decide +kernel, by decide +kernel⟩
abbrev s_is_party : Stmt := topS 40
theorem sc_is_party : FnScope ["party"] ["party"] (defScope s_is_party) := ⟨rfl, rfl, rfl, by decide +kernel, rfl, by decide +kernel, by decide +kernel⟩
abbrev s_is_known : Stmt := topS 41
theorem sc_is_known : FnScope ["book", "n"] ["book", "n"] (defScope s_is_known) := ⟨rfl, rfl, rfl, by decide +kernel, rfl, by decide +kernel, by decide +kernel⟩
abbrev s_party_code : Stmt := topS 42
theorem sc_party_code : FnScope ["book", "day", "party", "n"] ["book", "day", "party", "n"] (defScope s_party_code) := ⟨rfl, rfl, rfl, by decide +kernel, rfl, by decide +kernel, by decide +kernel⟩
abbrev s_company_code : Stmt := topS 43
theorem sc_company_code : FnScope ["book", "day", "company", "n", "code"] ["book", "day", "company", "n"] (defScope s_company_code) := ⟨rfl, rfl, rfl, by decide +kernel, rfl, by decide +kernel, by decide +kernel⟩
abbrev s_both_code : Stmt := topS 44
theorem sc_both_code : FnScope ["book", "party", "company"] ["book", "party", "company"] (defScope s_both_code) := ⟨rfl, rfl, rfl, by decide +kernel, rfl, by decide +kernel, by decide +kernel⟩
abbrev s_pair_code : Stmt := topS 45
theorem sc_pair_code : FnScope ["book", "party", "company", "n"] ["book", "party", "company", "n"] (defScope s_pair_code) := ⟨rfl, rfl, rfl, by decide +kernel, rfl, by decide +kernel, by decide +kernel⟩
abbrev s_pair_day_code : Stmt := topS 46
theorem sc_pair_day_code : FnScope ["book", "day", "party", "company", "n"] ["book", "day", "party", "company", "n"] (defScope s_pair_day_code) := ⟨rfl, rfl, rfl, by decide +kernel, rfl, by decide +kernel, by decide +kernel⟩
abbrev s_are_prices : Stmt := topS 47
theorem sc_are_prices : FnScope ["prices", "price"] ["prices"] (defScope s_are_prices) := ⟨rfl, rfl, rfl, by decide +kernel, rfl, by decide +kernel, by decide +kernel⟩
abbrev s_plan_code : Stmt := topS 48
theorem sc_plan_code : FnScope ["book", "day", "party", "target", "prices"] ["book", "day", "party", "target", "prices"] (defScope s_plan_code) := ⟨rfl, rfl, rfl, by decide +kernel, rfl, by decide +kernel, by decide +kernel⟩
abbrev s_has_negative : Stmt := topS 50
theorem sc_has_negative : FnScope ["table", "row", "percent"] ["table"] (defScope s_has_negative) := ⟨rfl, rfl, rfl, by decide +kernel, rfl, by decide +kernel, by decide +kernel⟩
abbrev s_has_excess : Stmt := topS 51
theorem sc_has_excess : FnScope ["table", "companies", "company"] ["table", "companies"] (defScope s_has_excess) := ⟨rfl, rfl, rfl, by decide +kernel, rfl, by decide +kernel, by decide +kernel⟩
abbrev s_greatest_closed_set : Stmt := topS 52
theorem sc_greatest_closed_set : FnScope ["table", "companies", "closed", "turn", "company"] ["table", "companies"] (defScope s_greatest_closed_set) := ⟨rfl, rfl, rfl, by decide +kernel, rfl, by decide +kernel, by decide +kernel⟩
abbrev s_is_valid : Stmt := topS 53
theorem sc_is_valid : FnScope ["parties", "live", "day", "table", "companies"] ["parties", "live", "day"] (defScope s_is_valid) := ⟨rfl, rfl, rfl, by decide +kernel, rfl, by decide +kernel, by decide +kernel⟩
abbrev s_deed_code : Stmt := topS 55
theorem sc_deed_code : FnScope ["book", "day", "owner", "company", "percent"] ["book", "day", "owner", "company", "percent"] (defScope s_deed_code) := ⟨rfl, rfl, rfl, by decide +kernel, rfl, by decide +kernel, by decide +kernel⟩
abbrev s_days_code : Stmt := topS 56
theorem sc_days_code : FnScope ["parties", "live", "day", "later"] ["parties", "live", "day"] (defScope s_days_code) := ⟨rfl, rfl, rfl, by decide +kernel, rfl, by decide +kernel, by decide +kernel⟩
abbrev s_record_code : Stmt := topS 57
theorem sc_record_code : FnScope ["book", "record", "kind", "day", "owner", "company", "percent", "code", "live"] ["book", "record"] (defScope s_record_code) := ⟨rfl, rfl, rfl, by decide +kernel, rfl, by decide +kernel, by decide +kernel⟩
abbrev s_cancel_code : Stmt := topS 58
theorem sc_cancel_code : FnScope ["book", "number", "records", "live", "day"] ["book", "number"] (defScope s_cancel_code) := ⟨rfl, rfl, rfl, by decide +kernel, rfl, by decide +kernel, by decide +kernel⟩
abbrev s_add_investor : Stmt := topS 60
theorem sc_add_investor : FnScope ["book"] ["book"] (defScope s_add_investor) := ⟨rfl, rfl, rfl, by decide +kernel, rfl, by decide +kernel, by decide +kernel⟩
abbrev s_add_company : Stmt := topS 61
theorem sc_add_company : FnScope ["book"] ["book"] (defScope s_add_company) := ⟨rfl, rfl, rfl, by decide +kernel, rfl, by decide +kernel, by decide +kernel⟩
abbrev s_record_deed : Stmt := topS 62
theorem sc_record_deed : FnScope ["book", "record", "code"] ["book", "record"] (defScope s_record_deed) := ⟨rfl, rfl, rfl, by decide +kernel, rfl, by decide +kernel, by decide +kernel⟩
abbrev s_new_pairs : Stmt := topS 63
theorem sc_new_pairs : FnScope ["parties", "before", "after", "out", "party", "old", "company"] ["parties", "before", "after"] (defScope s_new_pairs) := ⟨rfl, rfl, rfl, by decide +kernel, rfl, by decide +kernel, by decide +kernel⟩
abbrev s_preview_acquire : Stmt := topS 64
theorem sc_preview_acquire : FnScope ["book", "day", "owner", "company", "percent", "record", "code", "live", "before", "after", "pairs"] ["book", "day", "owner", "company", "percent"] (defScope s_preview_acquire) := ⟨rfl, rfl, rfl, by decide +kernel, rfl, by decide +kernel, by decide +kernel⟩
abbrev s_cancel_record : Stmt := topS 65
theorem sc_cancel_record : FnScope ["book", "number", "code"] ["book", "number"] (defScope s_cancel_record) := ⟨rfl, rfl, rfl, by decide +kernel, rfl, by decide +kernel, by decide +kernel⟩
abbrev s_holders : Stmt := topS 67
theorem sc_holders : FnScope ["book", "day", "company", "n", "code", "table", "found", "owner"] ["book", "day", "company", "n"] (defScope s_holders) := ⟨rfl, rfl, rfl, by decide +kernel, rfl, by decide +kernel, by decide +kernel⟩
abbrev s_portfolio : Stmt := topS 68
theorem sc_portfolio : FnScope ["book", "day", "owner", "n", "code", "held", "found", "company"] ["book", "day", "owner", "n"] (defScope s_portfolio) := ⟨rfl, rfl, rfl, by decide +kernel, rfl, by decide +kernel, by decide +kernel⟩
abbrev s_differences : Stmt := topS 69
theorem sc_differences : FnScope ["first", "second", "out", "owner", "company"] ["first", "second"] (defScope s_differences) := ⟨rfl, rfl, rfl, by decide +kernel, rfl, by decide +kernel, by decide +kernel⟩
abbrev s_restated : Stmt := topS 70
theorem sc_restated : FnScope ["book", "day", "first_n", "second_n", "found"] ["book", "day", "first_n", "second_n"] (defScope s_restated) := ⟨rfl, rfl, rfl, by decide +kernel, rfl, by decide +kernel, by decide +kernel⟩
abbrev s_status : Stmt := topS 71
theorem sc_status : FnScope ["book", "companies", "live", "acquisitions", "investors", "record"] ["book"] (defScope s_status) := ⟨rfl, rfl, rfl, by decide +kernel, rfl, by decide +kernel, by decide +kernel⟩
abbrev s_greatest_divisor : Stmt := topS 73
theorem sc_greatest_divisor : FnScope ["first", "second", "a", "b"] ["first", "second"] (defScope s_greatest_divisor) := ⟨rfl, rfl, rfl, by decide +kernel, rfl, by decide +kernel, by decide +kernel⟩
abbrev s_lowest : Stmt := topS 74
theorem sc_lowest : FnScope ["numerator", "denominator", "shared"] ["numerator", "denominator"] (defScope s_lowest) := ⟨rfl, rfl, rfl, by decide +kernel, rfl, by decide +kernel, by decide +kernel⟩
abbrev s_reduced : Stmt := topS 75
theorem sc_reduced : FnScope ["row", "shared", "number"] ["row"] (defScope s_reduced) := ⟨rfl, rfl, rfl, by decide +kernel, rfl, by decide +kernel, by decide +kernel⟩
abbrev s_pivot_place : Stmt := topS 76
theorem sc_pivot_place : FnScope ["rows", "k", "i"] ["rows", "k"] (defScope s_pivot_place) := ⟨rfl, rfl, rfl, by decide +kernel, rfl, by decide +kernel, by decide +kernel⟩
abbrev s_without_column : Stmt := topS 77
theorem sc_without_column : FnScope ["row", "base", "k", "x", "y"] ["row", "base", "k"] (defScope s_without_column) := ⟨rfl, rfl, rfl, by decide +kernel, rfl, by decide +kernel, by decide +kernel⟩
abbrev s_cleared : Stmt := topS 78
theorem sc_cleared : FnScope ["rows", "k", "out", "i"] ["rows", "k"] (defScope s_cleared) := ⟨rfl, rfl, rfl, by decide +kernel, rfl, by decide +kernel, by decide +kernel⟩
abbrev s_solve : Stmt := topS 79
theorem sc_solve : FnScope ["rows", "many", "work", "k", "place", "row"] ["rows"] (defScope s_solve) := ⟨rfl, rfl, rfl, by decide +kernel, rfl, by decide +kernel, by decide +kernel⟩
abbrev s_coefficient : Stmt := topS 81
theorem sc_coefficient : FnScope ["table", "company", "k", "left_out", "whole"] ["table", "company", "k", "left_out"] (defScope s_coefficient) := ⟨rfl, rfl, rfl, by decide +kernel, rfl, by decide +kernel, by decide +kernel⟩
abbrev s_equations : Stmt := topS 82
theorem sc_equations : FnScope ["table", "companies", "own", "left_out", "rows", "company", "row", "k"] ["table", "companies", "own", "left_out"] (defScope s_equations) := ⟨rfl, rfl, rfl, by decide +kernel, rfl, by decide +kernel, by decide +kernel⟩
abbrev s_party_interest : Stmt := topS 83
theorem sc_party_interest : FnScope ["table", "parties", "party", "company", "companies", "found"] ["table", "parties", "party", "company"] (defScope s_party_interest) := ⟨rfl, rfl, rfl, by decide +kernel, rfl, by decide +kernel, by decide +kernel⟩
abbrev s_free_interest : Stmt := topS 84
theorem sc_free_interest : FnScope ["table", "parties", "company", "companies", "own", "found", "j"] ["table", "parties", "company"] (defScope s_free_interest) := ⟨rfl, rfl, rfl, by decide +kernel, rfl, by decide +kernel, by decide +kernel⟩
abbrev s_has : Stmt := topS 86
theorem sc_has : FnScope ["mask", "i"] ["mask", "i"] (defScope s_has) := ⟨rfl, rfl, rfl, by decide +kernel, rfl, by decide +kernel, by decide +kernel⟩
abbrev s_better : Stmt := topS 87
theorem sc_better : FnScope ["first", "second"] ["first", "second"] (defScope s_better) := ⟨rfl, rfl, rfl, by decide +kernel, rfl, by decide +kernel, by decide +kernel⟩
abbrev s_needed : Stmt := topS 88
theorem sc_needed : FnScope ["table", "members", "company"] ["table", "members", "company"] (defScope s_needed) := ⟨rfl, rfl, rfl, by decide +kernel, rfl, by decide +kernel, by decide +kernel⟩
abbrev s_bought : Stmt := topS 89
theorem sc_bought : FnScope ["plan", "i", "percent", "price", "out"] ["plan", "i", "percent", "price"] (defScope s_bought) := ⟨rfl, rfl, rfl, by decide +kernel, rfl, by decide +kernel, by decide +kernel⟩
abbrev s_plan_by_last : Stmt := topS 90
theorem sc_plan_by_last : FnScope ["plans", "mask", "i", "table", "companies", "prices", "party", "before", "members", "percent", "j"] ["plans", "mask", "i", "table", "companies", "prices", "party"] (defScope s_plan_by_last) := ⟨rfl, rfl, rfl, by decide +kernel, rfl, by decide +kernel, by decide +kernel⟩
abbrev s_plan_for : Stmt := topS 91
theorem sc_plan_for : FnScope ["plans", "mask", "goal", "table", "companies", "prices", "party", "best", "i"] ["plans", "mask", "goal", "table", "companies", "prices", "party"] (defScope s_plan_for) := ⟨rfl, rfl, rfl, by decide +kernel, rfl, by decide +kernel, by decide +kernel⟩
abbrev s_cheapest_plan : Stmt := topS 92
theorem sc_cheapest_plan : FnScope ["table", "companies", "prices", "party", "target", "goal", "plans", "best", "mask", "plan"] ["table", "companies", "prices", "party", "target"] (defScope s_cheapest_plan) := ⟨rfl, rfl, rfl, by decide +kernel, rfl, by decide +kernel, by decide +kernel⟩
abbrev s_controls : Stmt := topS 94
theorem sc_controls : FnScope ["book", "day", "party", "n", "code", "found"] ["book", "day", "party", "n"] (defScope s_controls) := ⟨rfl, rfl, rfl, by decide +kernel, rfl, by decide +kernel, by decide +kernel⟩
abbrev s_control_order : Stmt := topS 95
theorem sc_control_order : FnScope ["book", "day", "party", "n", "code", "rows", "answer", "company", "number", "percent"] ["book", "day", "party", "n"] (defScope s_control_order) := ⟨rfl, rfl, rfl, by decide +kernel, rfl, by decide +kernel, by decide +kernel⟩
abbrev s_controllers : Stmt := topS 96
theorem sc_controllers : FnScope ["book", "day", "company", "n", "code", "table", "found", "party"] ["book", "day", "company", "n"] (defScope s_controllers) := ⟨rfl, rfl, rfl, by decide +kernel, rfl, by decide +kernel, by decide +kernel⟩
abbrev s_control_changes : Stmt := topS 97
theorem sc_control_changes : FnScope ["parties", "live", "party", "company", "out", "before", "day", "after"] ["parties", "live", "party", "company"] (defScope s_control_changes) := ⟨rfl, rfl, rfl, by decide +kernel, rfl, by decide +kernel, by decide +kernel⟩
abbrev s_control_days : Stmt := topS 98
theorem sc_control_days : FnScope ["book", "party", "company", "n", "code", "found"] ["book", "party", "company", "n"] (defScope s_control_days) := ⟨rfl, rfl, rfl, by decide +kernel, rfl, by decide +kernel, by decide +kernel⟩
abbrev s_interest : Stmt := topS 99
theorem sc_interest : FnScope ["book", "day", "party", "company", "n", "code", "numerator", "denominator"] ["book", "day", "party", "company", "n"] (defScope s_interest) := ⟨rfl, rfl, rfl, by decide +kernel, rfl, by decide +kernel, by decide +kernel⟩
abbrev s_float_interest : Stmt := topS 100
theorem sc_float_interest : FnScope ["book", "day", "company", "n", "code", "numerator", "denominator"] ["book", "day", "company", "n"] (defScope s_float_interest) := ⟨rfl, rfl, rfl, by decide +kernel, rfl, by decide +kernel, by decide +kernel⟩
abbrev s_method_of : Stmt := topS 101
theorem sc_method_of : FnScope ["book", "day", "party", "company", "n", "code", "table", "controlled", "percent"] ["book", "day", "party", "company", "n"] (defScope s_method_of) := ⟨rfl, rfl, rfl, by decide +kernel, rfl, by decide +kernel, by decide +kernel⟩
abbrev s_purchases : Stmt := topS 102
theorem sc_purchases : FnScope ["companies", "plan", "out", "i"] ["companies", "plan"] (defScope s_purchases) := ⟨rfl, rfl, rfl, by decide +kernel, rfl, by decide +kernel, by decide +kernel⟩
abbrev s_cheapest_control : Stmt := topS 103
theorem sc_cheapest_control : FnScope ["book", "day", "party", "target", "prices", "code", "companies", "plan", "found"] ["book", "day", "party", "target", "prices"] (defScope s_cheapest_control) := ⟨rfl, rfl, rfl, by decide +kernel, rfl, by decide +kernel, by decide +kernel⟩
abbrev s_call_end : Stmt := topS 107
theorem sc_call_end : FnScope ["calls", "at", "end"] ["calls", "at"] (defScope s_call_end) := ⟨rfl, rfl, rfl, by decide +kernel, rfl, by decide +kernel, by decide +kernel⟩
abbrev s_answer_change : Stmt := topS 108
theorem sc_answer_change : FnScope ["book", "call", "deed"] ["book", "call"] (defScope s_answer_change) := ⟨rfl, rfl, rfl, by decide +kernel, rfl, by decide +kernel, by decide +kernel⟩
abbrev s_answer_question : Stmt := topS 109
theorem sc_answer_question : FnScope ["book", "call", "deed"] ["book", "call"] (defScope s_answer_question) := ⟨rfl, rfl, rfl, by decide +kernel, rfl, by decide +kernel, by decide +kernel⟩
abbrev s_answer_call : Stmt := topS 110
theorem sc_answer_call : FnScope ["book", "call", "deed"] ["book", "call"] (defScope s_answer_call) := ⟨rfl, rfl, rfl, by decide +kernel, rfl, by decide +kernel, by decide +kernel⟩
abbrev s_answers : Stmt := topS 111
theorem sc_answers : FnScope ["calls", "book", "out", "at", "end", "answer"] ["calls"] (defScope s_answers) := ⟨rfl, rfl, rfl, by decide +kernel, rfl, by decide +kernel, by decide +kernel⟩
/-- a def as it stands behind the top, called by its name -/
def Tx (K : PySem.W.Frag) (mg : Str → Option Value) (x : Str) (st : Stmt) (ps : List Str) : Prop := ∃ (f : Addr) (fd : FuncData), Fun K x x st f fd ∧ mg x = some (.ref f) ∧ Binds K fd ps []
/-- .. with what it promises -/
def Df (P : Program) (w : World) (K : PySem.W.Frag) (mg : Str → Option Value) (base : Heap) (x : Str) (k : Nat) (ps : List Str) (sp : Sp) : Prop := ∃ (f : Addr) (fd : FuncData), FnOk P w K mg base CX0 k f fd ps sp ∧ mg x = some (.ref f) ∧ PySem.W.keepIn K (.ref f) = true ∧ Binds K fd ps []
theorem pe_df {X : Cx} {x : Str} {k : Nat} {ps : List Str} {sp : Sp} {p pos : Pos} {e : Expr} {es : List Expr} {t : TA} (F : Df X.prog X.w X.K X.mg X.base x k ps sp) (hr : Room k X.A) (hg : Gl X x) (ha : PA X (e :: es) t)
    (hs : starEach (e :: es) X.env = (false, eval e X.env) :: starEach es X.env := by rfl) (hpl : (backTo pos (starEach es X.env)).any (·.1) = false := by rfl) (hn : (x == ("__debug__" : Str)) = false := by decide) : PE X (.Call (.Name x p) (e :: es) [] pos) (tCall sp [] E0 t) := by
  obtain ⟨f, fd, F, hm, hk, hb⟩ := F
  exact pe_call F hr hg hm hk hb .nil pass0 ha hn hs hpl
theorem Tx.ok {P : Program} {w : World} {K : PySem.W.Frag} {mg : Str → Option Value} {base : Heap} {x : Str} {st : Stmt} {N ps : List Str} {k : Nat} {sp : Sp} (F : Tx K mg x st ps) (S : FnScope N ps (defScope st)) (L : ∀ vs H Q E, sp vs H Q E → vs.length = ps.length)
    (hbody : ∀ (f : Addr) (cdv : Value) (A : Around) (outer : List Env) (s : Shared) (H : Hp) (vs : List V) (Q : VK) (E : XK), Room k (A.deeper (envOfC x (defScope st) s.heap.objs.size f cdv)) → sp vs H Q E →
      ∃ t, PSs (cxOf CX0 P w K mg base N x (defScope st) f cdv A outer s H E).nox (defBody st) t ∧ t { nx := fun _ H' => Q .non H', rt := Q } (start N vs) H) : Df P w K mg base x (k + 1) ps sp := by
  obtain ⟨f, fd, F, g, b⟩ := F
  exact ⟨f, fd, F.ok S L (fun cdv A outer s H vs Q E hr h => hbody f cdv A outer s H vs Q E hr h), g, F.kp, b⟩
theorem pe_cst {X : Cx} {x : Str} {n : Int} {pos : Pos} (h : ∃ t, X.mg x = some (Value.int n t)) (hg : Gl X x := by rfl) (hd : (x == ("__debug__" : Str)) = false := by decide) : PE X (.Name x pos) (tC (.int n)) := by
  obtain ⟨t, e⟩ := h
  exact pe_glob hg e ⟨t, rfl⟩ hd
theorem ix_listK {X : Cx} {K : PySem.W.Frag} (h : X.K = K) : IxR X (rIxL K) := h ▸ ix_list
theorem ix_tupK {X : Cx} {K : PySem.W.Frag} (h : X.K = K) : IxR X (rIxT K) := h ▸ ix_tup
theorem call_listK {X : Cx} {K : PySem.W.Frag} (h : X.K = K) : CallR X (.type "list") (rListS K) := h ▸ call_list_of
theorem pt_of {X : Cx} {e : Expr} {t : TT} (h : PW X e t) : PT X e t := h.pt
def rGetL (K : PySem.W.Frag) : V → V → Hp → VK → Prop := fun o i H Q => ∃ (p : Addr) (xs : List V) (j : Nat) (v : V), o = .ref p ∧ i = .int (j : Int) ∧ SqL K H p xs ∧ xs[j]? = some v ∧ Q v H
theorem get_list {X : Cx} {K : PySem.W.Frag} (h : X.K = K := by rfl) : PGet X (rGetL K) := by
  subst h
  intro pins s σ H o i ov iv Q I ro ri q
  obtain ⟨p, xs, j, v, e1, e2, hq, hv, q⟩ := q
  subst e1
  subst e2
  cases ro
  obtain ⟨tk, e3⟩ := ri
  subst e3
  obtain ⟨its, rv, pl, hz⟩ := I.list hq
  obtain ⟨u, hu, ru⟩ := rv.get hv
  have hj : j < xs.length := (List.getElem?_eq_some_iff.mp hv).1
  have hb : (j : Int) < 2 ^ 63 := by
    have := sizeLine_eq
    omega
  exact wpAny_getItem_list pl.isList (Int.natCast_nonneg j) hb (by simpa using hu) ⟨v, H, I, ru, q⟩
/-- what the top has written -/
structure Top (K : PySem.W.Frag) (mg : Str → Option Value) (C : Addr) : Prop where
  cl : Cls K C
  nP : NoAttr K C "parties"
  nR : NoAttr K C "records"
  gC : mg "Book" = some (.ref C)
  mI : ∃ (f : Addr) (fd : FuncData), L2.Mk K C f ∧ Fun K "__init__" "Book.__init__" s_init f fd ∧ Binds K fd ["self"] []
  mP : ∃ (f : Addr) (fd : FuncData), Meth K C "add_party" f ∧ Fun K "add_party" "Book.add_party" s_add_party f fd ∧ Binds K fd ["self", "company"] []
  mR : ∃ (f : Addr) (fd : FuncData), Meth K C "add_record" f ∧ Fun K "add_record" "Book.add_record" s_add_record f fd ∧ Binds K fd ["self", "record"] []
  cA : ∃ a : Addr, mg "ARGUMENTS" = some (.ref a) ∧ ∀ H : Hp, SqT K H a (([0, 0, 4, 4, 4, 1, 3, 3, 3, 3, 3, 3, 4, 3, 4, 3, 3, 0] : List Int).map V.int)
  f_companies_of : Tx K mg "companies_of" s_companies_of ["parties"]
  f_is_cancelled : Tx K mg "is_cancelled" s_is_cancelled ["records", "n", "number"]
  f_live_records : Tx K mg "live_records" s_live_records ["records", "n"]
  f_record_days : Tx K mg "record_days" s_record_days ["live"]
  f_change_of : Tx K mg "change_of" s_change_of ["kind", "percent"]
  f_holdings_on : Tx K mg "holdings_on" s_holdings_on ["parties", "live", "day"]
  f_held_table : Tx K mg "held_table" s_held_table ["book", "day", "n"]
  f_held_in : Tx K mg "held_in" s_held_in ["table", "members", "company"]
  f_all_held : Tx K mg "all_held" s_all_held ["table", "company"]
  f_free_float : Tx K mg "free_float" s_free_float ["table", "company"]
  f_added_companies : Tx K mg "added_companies" s_added_companies ["table", "companies", "members"]
  f_control_rows : Tx K mg "control_rows" s_control_rows ["table", "parties", "party"]
  f_controlled_by : Tx K mg "controlled_by" s_controlled_by ["table", "parties", "party"]
  f_within : Tx K mg "within" s_within ["value", "low", "high"]
  f_is_day : Tx K mg "is_day" s_is_day ["day"]
  f_is_party : Tx K mg "is_party" s_is_party ["party"]
  f_is_known : Tx K mg "is_known" s_is_known ["book", "n"]
  f_party_code : Tx K mg "party_code" s_party_code ["book", "day", "party", "n"]
  f_company_code : Tx K mg "company_code" s_company_code ["book", "day", "company", "n"]
  f_both_code : Tx K mg "both_code" s_both_code ["book", "party", "company"]
  f_pair_code : Tx K mg "pair_code" s_pair_code ["book", "party", "company", "n"]
  f_pair_day_code : Tx K mg "pair_day_code" s_pair_day_code ["book", "day", "party", "company", "n"]
  f_are_prices : Tx K mg "are_prices" s_are_prices ["prices"]
  f_plan_code : Tx K mg "plan_code" s_plan_code ["book", "day", "party", "target", "prices"]
  f_has_negative : Tx K mg "has_negative" s_has_negative ["table"]
  f_has_excess : Tx K mg "has_excess" s_has_excess ["table", "companies"]
  f_greatest_closed_set : Tx K mg "greatest_closed_set" s_greatest_closed_set ["table", "companies"]
  f_is_valid : Tx K mg "is_valid" s_is_valid ["parties", "live", "day"]
  f_deed_code : Tx K mg "deed_code" s_deed_code ["book", "day", "owner", "company", "percent"]
  f_days_code : Tx K mg "days_code" s_days_code ["parties", "live", "day"]
  f_record_code : Tx K mg "record_code" s_record_code ["book", "record"]
  f_cancel_code : Tx K mg "cancel_code" s_cancel_code ["book", "number"]
  f_add_investor : Tx K mg "add_investor" s_add_investor ["book"]
  f_add_company : Tx K mg "add_company" s_add_company ["book"]
  f_record_deed : Tx K mg "record_deed" s_record_deed ["book", "record"]
  f_new_pairs : Tx K mg "new_pairs" s_new_pairs ["parties", "before", "after"]
  f_preview_acquire : Tx K mg "preview_acquire" s_preview_acquire ["book", "day", "owner", "company", "percent"]
  f_cancel_record : Tx K mg "cancel_record" s_cancel_record ["book", "number"]
  f_holders : Tx K mg "holders" s_holders ["book", "day", "company", "n"]
  f_portfolio : Tx K mg "portfolio" s_portfolio ["book", "day", "owner", "n"]
  f_differences : Tx K mg "differences" s_differences ["first", "second"]
  f_restated : Tx K mg "restated" s_restated ["book", "day", "first_n", "second_n"]
  f_status : Tx K mg "status" s_status ["book"]
  f_greatest_divisor : Tx K mg "greatest_divisor" s_greatest_divisor ["first", "second"]
  f_lowest : Tx K mg "lowest" s_lowest ["numerator", "denominator"]
  f_reduced : Tx K mg "reduced" s_reduced ["row"]
  f_pivot_place : Tx K mg "pivot_place" s_pivot_place ["rows", "k"]
  f_without_column : Tx K mg "without_column" s_without_column ["row", "base", "k"]
  f_cleared : Tx K mg "cleared" s_cleared ["rows", "k"]
  f_solve : Tx K mg "solve" s_solve ["rows"]
  f_coefficient : Tx K mg "coefficient" s_coefficient ["table", "company", "k", "left_out"]
  f_equations : Tx K mg "equations" s_equations ["table", "companies", "own", "left_out"]
  f_party_interest : Tx K mg "party_interest" s_party_interest ["table", "parties", "party", "company"]
  f_free_interest : Tx K mg "free_interest" s_free_interest ["table", "parties", "company"]
  f_has : Tx K mg "has" s_has ["mask", "i"]
  f_better : Tx K mg "better" s_better ["first", "second"]
  f_needed : Tx K mg "needed" s_needed ["table", "members", "company"]
  f_bought : Tx K mg "bought" s_bought ["plan", "i", "percent", "price"]
  f_plan_by_last : Tx K mg "plan_by_last" s_plan_by_last ["plans", "mask", "i", "table", "companies", "prices", "party"]
  f_plan_for : Tx K mg "plan_for" s_plan_for ["plans", "mask", "goal", "table", "companies", "prices", "party"]
  f_cheapest_plan : Tx K mg "cheapest_plan" s_cheapest_plan ["table", "companies", "prices", "party", "target"]
  f_controls : Tx K mg "controls" s_controls ["book", "day", "party", "n"]
  f_control_order : Tx K mg "control_order" s_control_order ["book", "day", "party", "n"]
  f_controllers : Tx K mg "controllers" s_controllers ["book", "day", "company", "n"]
  f_control_changes : Tx K mg "control_changes" s_control_changes ["parties", "live", "party", "company"]
  f_control_days : Tx K mg "control_days" s_control_days ["book", "party", "company", "n"]
  f_interest : Tx K mg "interest" s_interest ["book", "day", "party", "company", "n"]
  f_float_interest : Tx K mg "float_interest" s_float_interest ["book", "day", "company", "n"]
  f_method_of : Tx K mg "method_of" s_method_of ["book", "day", "party", "company", "n"]
  f_purchases : Tx K mg "purchases" s_purchases ["companies", "plan"]
  f_cheapest_control : Tx K mg "cheapest_control" s_cheapest_control ["book", "day", "party", "target", "prices"]
  f_call_end : Tx K mg "call_end" s_call_end ["calls", "at"]
  f_answer_change : Tx K mg "answer_change" s_answer_change ["book", "call"]
  f_answer_question : Tx K mg "answer_question" s_answer_question ["book", "call"]
  f_answer_call : Tx K mg "answer_call" s_answer_call ["book", "call"]
  f_answers : Tx K mg "answers" s_answers ["calls"]
  b_abs : mg "abs" = none
  b_all : mg "all" = none
  b_len : mg "len" = none
  b_list : mg "list" = none
  b_max : mg "max" = none
  b_range : mg "range" = none
  b_set : mg "set" = none
  b_sorted : mg "sorted" = none
  b_sum : mg "sum" = none
  b_zip : mg "zip" = none
  c_ACQUISITION : ∃ t, mg "ACQUISITION" = some (Value.int (0) t)
  c_CANCELLATION : ∃ t, mg "CANCELLATION" = some (Value.int (2) t)
  c_CHEAPEST_CONTROL : ∃ t, mg "CHEAPEST_CONTROL" = some (Value.int (16) t)
  c_DAY_NOT_VALID : ∃ t, mg "DAY_NOT_VALID" = some (Value.int (-5) t)
  c_DISPOSAL : ∃ t, mg "DISPOSAL" = some (Value.int (1) t)
  c_FINE : ∃ t, mg "FINE" = some (Value.int (0) t)
  c_MOST_COMPANIES : ∃ t, mg "MOST_COMPANIES" = some (Value.int (8) t)
  c_MOST_INVESTORS : ∃ t, mg "MOST_INVESTORS" = some (Value.int (4) t)
  c_MOST_RECORDS : ∃ t, mg "MOST_RECORDS" = some (Value.int (40) t)
  c_NO_PLAN : ∃ t, mg "NO_PLAN" = some (Value.int (-9) t)
  c_NO_SUCH : ∃ t, mg "NO_SUCH" = some (Value.int (-3) t)
  c_OTHER_DAY_NOT_VALID : ∃ t, mg "OTHER_DAY_NOT_VALID" = some (Value.int (-8) t)
  c_OUT_OF_RANGE : ∃ t, mg "OUT_OF_RANGE" = some (Value.int (-1) t)
  c_SAME_OR_LENGTH : ∃ t, mg "SAME_OR_LENGTH" = some (Value.int (-2) t)
  c_TOO_MANY : ∃ t, mg "TOO_MANY" = some (Value.int (-6) t)
  c_TOP_DAY : ∃ t, mg "TOP_DAY" = some (Value.int (9999) t)
  c_TOP_PARTY : ∃ t, mg "TOP_PARTY" = some (Value.int (9999) t)
  c_TOP_PERCENT : ∃ t, mg "TOP_PERCENT" = some (Value.int (100) t)
  c_TOP_PRICE : ∃ t, mg "TOP_PRICE" = some (Value.int (1000000) t)
  c_TOP_RECORD : ∃ t, mg "TOP_RECORD" = some (Value.int (9999) t)
  c_WRONG_KIND : ∃ t, mg "WRONG_KIND" = some (Value.int (-4) t)

/-- a promise by what is handed in, what is asked of it, and the value that comes back -/
def SpD {ι : Type} (L : ι → List Sl) (pre : ι → Prop) {β : Type} [Rep β] (r : ι → β) : Sp := fun vs H Q _ => ∃ i : ι, HL H (L i) vs ∧ pre i ∧ Ret H Q (r i)
def SpN {ι : Type} (L : ι → List Sl) (pre : ι → Prop) {β : Type} [Rep β] (r : ι → β) : Sp := fun vs H Q _ => ∃ i : ι, HL H (L i) vs ∧ pre i ∧ RetN H Q (r i)
section
variable {P : Program} {w : World} {K : PySem.W.Frag} {mg : Str → Option Value} {base : Heap} {x : Str} {st : Stmt} {N ps : List Str} {k : Nat} {ι : Type} {L : ι → List Sl} {pre : ι → Prop} {β : Type} [Rep β] {r : ι → β}
theorem Tx.okD (F : Tx K mg x st ps) (S : FnScope N ps (defScope st)) (hl : ∀ i, (L i).length = ps.length) (ho : ∀ i, (L i).all notOwn = true)
    (hb : ∀ (i : ι), pre i → ∀ (f : Addr) (cdv : Value) (A : Around) (outer : List Env) (s : Shared) (H : Hp) (Q : VK) (E : XK), Room k (A.deeper (envOfC x (defScope st) s.heap.objs.size f cdv)) →
      ∃ t, PSs (cxOf CX0 P w K mg base N x (defScope st) f cdv A outer s H E).nox (defBody st) t ∧ (Ret H Q (r i) → Go H (L i ++ List.replicate (N.length - (L i).length) .any) t { nx := fun _ H' => Q .non H', rt := Q })) : Df P w K mg base x (k + 1) ps (SpD L pre r) := by
  refine F.ok S (fun vs H Q E h => ?_) fun f cdv A outer s H vs Q E hr h => ?_
  · obtain ⟨i, h1, _⟩ := h
    rw [h1.len]; exact hl i
  · obtain ⟨i, h1, h2, h3⟩ := h
    obtain ⟨t, a, b⟩ := hb i h2 f cdv A outer s H Q E hr
    have hN : ps.length ≤ N.length := by
      have := congrArg List.length S.pre
      rw [List.length_take] at this; omega
    exact ⟨t, a, b h3 _ _ (Holds.start h1 (ho i) (by rw [hl i]; exact hN))⟩
theorem Tx.okN (F : Tx K mg x st ps) (S : FnScope N ps (defScope st)) (hl : ∀ i, (L i).length = ps.length) (ho : ∀ i, (L i).all notOwn = true)
    (hb : ∀ (i : ι), pre i → ∀ (f : Addr) (cdv : Value) (A : Around) (outer : List Env) (s : Shared) (H : Hp) (Q : VK) (E : XK), Room k (A.deeper (envOfC x (defScope st) s.heap.objs.size f cdv)) →
      ∃ t, PSs (cxOf CX0 P w K mg base N x (defScope st) f cdv A outer s H E).nox (defBody st) t ∧ (RetN H Q (r i) → Go H (L i ++ List.replicate (N.length - (L i).length) .any) t { nx := fun _ H' => Q .non H', rt := Q })) : Df P w K mg base x (k + 1) ps (SpN L pre r) := by
  refine F.ok S (fun vs H Q E h => ?_) fun f cdv A outer s H vs Q E hr h => ?_
  · obtain ⟨i, h1, _⟩ := h
    rw [h1.len]; exact hl i
  · obtain ⟨i, h1, h2, h3⟩ := h
    obtain ⟨t, a, b⟩ := hb i h2 f cdv A outer s H Q E hr
    have hN : ps.length ≤ N.length := by
      have := congrArg List.length S.pre
      rw [List.length_take] at this; omega
    exact ⟨t, a, b h3 _ _ (Holds.start h1 (ho i) (by rw [hl i]; exact hN))⟩
end
/-- a call of such a def -/
theorem x_cD {He : Hp} {S : List Sl} {E : XK} {ta : TA} {ι : Type} {L : ι → List Sl} {pre : ι → Prop} {β : Type} [Rep β] {r : ι → β} (i : ι) (h : XA He S ta (L i)) (hp : pre i) : XD He S (tCall (SpD L pre r) [] E ta) (r i) := x_call h fun H vs Q _ hl k => ⟨i, hl, hp, k⟩
theorem x_cN {He : Hp} {S : List Sl} {E : XK} {ta : TA} {ι : Type} {L : ι → List Sl} {pre : ι → Prop} {β : Type} [Rep β] {r : ι → β} (i : ι) (h : XA He S ta (L i)) (hp : pre i) : XN He S (tCall (SpN L pre r) [] E ta) (r i) := x_callN h fun H vs Q _ hl k => ⟨i, hl, hp, k⟩
end Cr
namespace Cr
open PySem PySem.Spec PyProof.Rows L2 Evl
abbrev VS := Valdgg.State
abbrev VT := Valdgg.Table
/-! ### the book -/
structure Bk (C : Addr) where
  parties : List Bool
  records : List Tp
instance repBk {C : Addr} : Rep (Bk C) := ⟨fun H v b => ∃ p dx pa ra, v = .ref p ∧ H p = some (.ins C dx [("parties", .ref pa), ("records", .ref ra)]) ∧ Rep.is H (.ref pa) b.parties ∧ Rep.is H (.ref ra) b.records,
  fun e ⟨p, dx, pa, ra, h1, h2, h3, h4⟩ => ⟨p, dx, pa, ra, h1, e _ _ h2, Rep.mono e h3, Rep.mono e h4⟩⟩
def recT (r : Valdgg.Record) : Tp := ⟨recRow r⟩
def trT (t : Valdgg.Trade) : Tp := ⟨tradeRow t⟩
def bk (C : Addr) (s : VS) : Bk C := ⟨s.parties, s.records.map recT⟩
theorem lk_P {v : V} {r : List (Str × V)} : List.lookup ("parties" : Str) (("parties", v) :: r) = some v := by
  simp only [List.lookup, beq_self_eq_true]
theorem lk_R {u v : V} : List.lookup ("records" : Str) [("parties", u), ("records", v)] = some v := by
  have e : (("records" : Str) == "parties") = false := by decide +kernel
  simp only [List.lookup, e, beq_self_eq_true]
section
variable {P : Program} {w : World} {K : PySem.W.Frag} {mg : Str → Option Value} {base : Heap} {C : Addr}
theorem x_fldP {He : Hp} {S : List Sl} {te : TE} {s : VS} (T : Top K mg C) (h : XD He S te (bk C s)) : XD He S (tFld K te "parties") s.parties := fun σ H hs Q q => h σ H hs _ fun v H1 e1 i1 => by
  obtain ⟨p, dx, pa, ra, h1, h2, h3, h4⟩ := i1
  exact ⟨p, C, dx, _, _, h1, h2, T.cl, T.nP, lk_P, q _ H1 e1 h3⟩
theorem x_fldR {He : Hp} {S : List Sl} {te : TE} {s : VS} (T : Top K mg C) (h : XD He S te (bk C s)) : XD He S (tFld K te "records") (s.records.map recT) := fun σ H hs Q q => h σ H hs _ fun v H1 e1 i1 => by
  obtain ⟨p, dx, pa, ra, h1, h2, h3, h4⟩ := i1
  exact ⟨p, C, dx, _, _, h1, h2, T.cl, T.nR, lk_R, q _ H1 e1 h4⟩
theorem x_nrec {He : Hp} {S : List Sl} {te : TE} {rs : List Valdgg.Record} (h : XD He S te (rs.map recT)) : XD He S (tCB (rLenS K) (tCons te tNil)) (rs.length : Int) := (x_len h).eq (by rw [List.length_map])
/-! ### companies, records, holdings -/
def sp_companies_of : Sp := SpN (ι := List Bool) (fun i => [.sh i]) (fun i => i.length < 100000) fun i => comps i
theorem ok_companies_of (T : Top K mg C) : Df P w K mg base "companies_of" 1 ["parties"] sp_companies_of := by
  refine T.f_companies_of.okN sc_companies_of (fun _ => rfl) (fun _ => rfl) ?_
  intro i hpre f cdv A outer s H Q E hr
  refine ⟨_, (pss_one (ps_ret (pe_lc (own := [("i", 1)]) (g := gName 1) rfl sc_companies_of.nd (pi_range1 rfl T.b_range (pa_cons (pe_callB call_len_seq (by rfl) T.b_len (by decide +kernel) (pa_cons (pv 0) pa_nil)) pa_nil)) (blkOk_by (N := ["parties", "i"]) (sc := defScope s_companies_of) (by decide +kernel)) (fun _ _ _ _ _ => (pg_name (i := 1) sc_companies_of.nd rfl (Or.inl rfl))) (fun _ _ _ _ _ => (pts_one (pt_val (pe_ix (ix_listK rfl) (pv 0) (pv 1) (fun _ _ => rfl))))) (fun _ _ _ _ _ => (pv 1))))), fun k => ?_⟩
  refine g_retN ((x_lcR (fun j => (i[j]?).getD false) (fun j => j) (xa_cons (x_len (x_var rfl)) xa_nil) hpre (fun j hj => t_B (x_ix (x_var rfl) (x_var (a := j) rfl).up ?_)) fun j _ _ => (x_var rfl).nat).eq ?_) k
  · rw [List.getElem?_eq_getElem hj]; rfl
  · rw [List.map_id']; rfl
theorem rec_at {rs : List Valdgg.Record} {j : Nat} {r : Valdgg.Record} (h : rs[j]? = some r) : (rs.map recT)[j]? = some (recT r) := by rw [List.getElem?_map, h]; rfl
def sp_is_cancelled : Sp := SpD (ι := List Valdgg.Record × Nat × Nat) (fun i => [.sh (i.1.map recT), .sh i.2.1, .sh i.2.2]) (fun i => i.2.1 ≤ i.1.length ∧ i.2.1 ≤ 100000) fun i => (i.1.take i.2.1).contains (.cancel i.2.2)
theorem ok_is_cancelled (T : Top K mg C) : Df P w K mg base "is_cancelled" 1 ["records", "n", "number"] sp_is_cancelled := by
  refine T.f_is_cancelled.okD sc_is_cancelled (fun _ => rfl) (fun _ => rfl) ?_
  intro i hpre f cdv A outer s H Q E hr
  refine ⟨_, (pss_cons (ps_for PassesOwn.never rfl (pi_range1 rfl T.b_range (pa_cons (pv 1) pa_nil)) (pg_name (i := 3) sc_is_cancelled.nd rfl (Or.inl rfl)) (pss_one (ps_if (pt_of (pw_and (pt_cmpR op_eq (pe_ix (ix_tupK rfl) (pe_ix (ix_listK rfl) (pv 0) (pv 3) (fun _ _ => rfl)) pe_int (fun _ _ => rfl)) (pe_cst T.c_CANCELLATION) (nomark _)) (pw_and1 (pt_cmpR op_eq (pe_ix (ix_tupK rfl) (pe_ix (ix_listK rfl) (pv 0) (pv 3) (fun _ _ => rfl)) pe_int (fun _ _ => rfl)) (pv 2) (nomark _))))) (pss_one (ps_ret pe_bl)) pss_nil)))
        (pss_one (ps_ret pe_bl))), fun k => ?_⟩
  obtain ⟨rs, n, m⟩ := i
  refine q_rangeP (fun j => (rs.take j).contains (.cancel m) = false) (fun _ => [.sh (rs.map recT), .sh n, .sh m, .any]) (xa_cons (x_var (a := n) rfl).up xa_nil) hpre.2 (by simp) (Weak.refl _) (fun j hj hp => ?_) fun hp => ?_
  · obtain ⟨r, hr⟩ : ∃ r, rs[j]? = some r := ⟨_, List.getElem?_eq_getElem (Nat.lt_of_lt_of_le hj hpre.1)⟩
    have hx : XD H [Sl.sh (rs.map recT), .sh n, .sh m, .sh j] (tOp (rIxL K) (tVar 0) (tVar 3)) (recT r) := x_ix (x_var rfl) (x_var (a := j) rfl).up (rec_at hr)
    refine g_if ((t_and (t_test (x_eq (x_ixT hx x_int (j := 0) (fld_at (r := r) (by decide))) x_int)) fun _ => t_test (x_eq (x_ixT hx x_int (j := 1) (fld_at (r := r) (by decide))) (x_var (a := m) rfl).up)).eq (cancel_is r m)) (fun hb => ?_) fun hb => ?_
    · refine g_ret (x_bool.eq ?_) k
      have e : r = .cancel m := beq_iff_eq.mp hb
      subst e
      exact (List.contains_iff_mem.mpr (List.mem_of_getElem? (i := j) (by rw [List.getElem?_take_of_lt hj]; exact hr))).symm
    · refine g_next fun σ H hs => ⟨?_, hs.weak ⟨.inl rfl, .inl rfl, .inl rfl, .inr rfl, trivial⟩⟩
      rw [List.take_add_one, hr, Bool.eq_false_iff]
      intro z
      rcases List.mem_append.mp (List.contains_iff_mem.mp z) with z | z
      · rw [List.contains_iff_mem.mpr z] at hp; cases hp
      · have z' : Valdgg.Record.cancel m ∈ [r] := z
        rw [List.mem_singleton.mp z'] at hb; simp at hb
  · exact g_ret (x_bool.eq hp.symm) k
def sp_live_records : Sp := SpN (ι := List Valdgg.Record × Nat) (fun i => [.sh (i.1.map recT), .sh i.2]) (fun i => i.2 ≤ i.1.length ∧ i.2 ≤ 10000) fun i => (liveOf (i.1.take i.2)).map trT
theorem ok_live_records (T : Top K mg C) : Df P w K mg base "live_records" 2 ["records", "n"] sp_live_records := by
  have d_is_cancelled := ok_is_cancelled (P := P) (w := w) (base := base) T
  refine T.f_live_records.okN sc_live_records (fun _ => rfl) (fun _ => rfl) ?_
  intro i hpre f cdv A outer s H Q E hr
  refine ⟨_, (pss_cons (ps_set (i := 2) sc_live_records.nd rfl (Or.inl rfl) (pe_lst pa_nil))
        (pss_cons (ps_for PassesOwn.never rfl (pi_range1 rfl T.b_range (pa_cons (pv 1) pa_nil)) (pg_name (i := 3) sc_live_records.nd rfl (Or.inl rfl)) (pss_one (ps_if (pt_of (pw_and (pt_cmpR op_ne (pe_ix (ix_tupK rfl) (pe_ix (ix_listK rfl) (pv 0) (pv 3) (fun _ _ => rfl)) pe_int (fun _ _ => rfl)) (pe_cst T.c_CANCELLATION) (nomark _)) (pw_and1 (pt_not (pt_val (pe_df d_is_cancelled (hr.mono (by decide)) rfl (pa_cons (pv 0) (pa_cons (pv 1) (pa_cons (pv 3) pa_nil))))))))) (pss_one (ps_expr (pe_bm PySem.F.plainAttrs_list PySem.F.slot_list_append PySem.F.type_list_append mt_append (pv 2) (pa_cons (pe_ix (ix_listK rfl) (pv 0) (pv 3) (fun _ _ => rfl)) pa_nil)))) pss_nil)))
        (pss_one (ps_ret (pv 2))))), fun k => ?_⟩
  obtain ⟨rs, n⟩ := i
  have hl : (rs.take n).length = n := by rw [List.length_take]; exact Nat.min_eq_left hpre.1
  refine q_nil (α := Tp) (q_range (fun j => [.sh (rs.map recT), .sh n, .own ((liveTo (rs.take n) j).map trT), .any]) (xa_cons (x_var (a := n) rfl).up xa_nil) (Nat.le_trans hpre.2 (by decide)) (Weak.refl _) (fun j hj => ?_) ?_)
  · obtain ⟨r, hr⟩ : ∃ r, rs[j]? = some r := ⟨_, List.getElem?_eq_getElem (Nat.lt_of_lt_of_le hj hpre.1)⟩
    have hx : ∀ l : List Tp, XD H [Sl.sh (rs.map recT), .sh n, .own l, .sh j] (tOp (rIxL K) (tVar 0) (tVar 3)) (recT r) := fun l => x_ix (x_var rfl) (x_var (a := j) rfl).up (rec_at hr)
    have hr' : (rs.take n)[j]? = some r := by rw [List.getElem?_take_of_lt hj]; exact hr
    have hz : (liveTo (rs.take n) j).length < 100000 := Nat.lt_of_le_of_lt (liveTo_len _ _) (by have := hpre.2; dsimp at this; omega)
    refine g_if ((t_and (t_test (x_ne (x_ixT (hx _) x_int (j := 0) (fld_at (r := r) (by decide))) x_int)) fun _ => t_not (t_B (x_cD (rs, n, j) (xa_cons (x_var rfl) (xa_cons (x_var rfl) (xa_cons (x_var rfl) xa_nil))) ⟨hpre.1, Nat.le_trans hpre.2 (by decide)⟩))).eq (by rw [kind_is])) (fun hb => ?_) fun hb => ?_
    · refine g_app (a := recT r) rfl (hx _) (by rw [List.length_map]; exact hz) fun σ H hs => hs.weak ⟨.inl rfl, .inl rfl, .inl ?_, .inr rfl, trivial⟩
      rw [Bool.and_eq_true, Bool.not_eq_true', Bool.not_eq_true'] at hb
      congr 1
      rw [liveTo_succ, hr', List.map_append]
      congr 1
      cases r with
      | trade d o c p =>
        show List.map trT (Option.toList (if (rs.take n).contains (.cancel j) = true then none else some _)) = _
        rw [hb.2]; rfl
      | cancel z => cases hb.1
    · refine g_next fun σ H hs => hs.weak ⟨.inl rfl, .inl rfl, .inl ?_, .inr rfl, trivial⟩
      congr 1
      rw [liveTo_succ, hr', List.map_append]
      cases r with
      | trade d o c p =>
        have hb' : (rs.take n).contains (.cancel j) = true := by simpa [isCan] using hb
        show _ ++ List.map trT (Option.toList (if (rs.take n).contains (.cancel j) = true then none else some _)) = _
        rw [hb']; simp
      | cancel z => simp [liveAt]
  · refine g_retO rfl ?_
    rw [liveOf_to, hl] at k
    exact k
end
end Cr
namespace Cr
open PySem PySem.Spec PyProof.Rows L2 Evl
section
variable {P : Program} {w : World} {K : PySem.W.Frag} {mg : Str → Option Value} {base : Heap} {C : Addr}
def chg (k p : Int) : Int := if k = 0 then p else -p
def sp_change_of : Sp := SpD (ι := Int × Int) (fun i => [.sh i.1, .sh i.2]) (fun _ => True) fun i => chg i.1 i.2
theorem ok_change_of (T : Top K mg C) : Df P w K mg base "change_of" 1 ["kind", "percent"] sp_change_of := by
  refine T.f_change_of.okD sc_change_of (fun _ => rfl) (fun _ => rfl) ?_
  intro i hpre f cdv A outer s H Q E hr
  refine ⟨_, (pss_cons (ps_if (pt_cmpR op_eq (pv 0) (pe_cst T.c_ACQUISITION) (nomark _)) (pss_one (ps_ret (pv 1))) pss_nil)
        (pss_one (ps_ret (pe_un un_neg (pv 1))))), fun k => ?_⟩
  refine q_code (t_test (x_eq (x_var rfl) x_int)) (x_var rfl) (fun hb => ?_) k fun hb => g_ret (XD.eq (x_neg (x_var rfl)) ?_) k
  · exact (if_pos (of_decide_eq_true hb)).symm
  · exact (if_neg (of_decide_eq_false hb)).symm
/-! ### the table of holdings -/
/-- the slots lean on He alone -/
def HB (He : Hp) (S : List Sl) (σ : L2.St) (H : Hp) : Prop := Ex He H ∧ S.length = σ.length ∧ ∀ (i : Nat) (s : Sl) (o : Option V), S[i]? = some s → σ[i]? = some o → HV He H s o
theorem HB.holds {He H : Hp} {S : List Sl} {σ : L2.St} (h : HB He S σ H) : Holds He S σ H := ⟨He, Ex.refl _, h.1, h.2.1, h.2.2⟩
theorem HB.of {He H : Hp} {S : List Sl} {σ : L2.St} (h : Holds He S σ H) (no : S.all notOwn = true) : HB H S σ H := by
  obtain ⟨H0, x, b, c, d⟩ := h
  refine ⟨Ex.refl H, c, fun j s o h1 h2 => ?_⟩
  have z := d j s o h1 h2
  cases s with
  | any => trivial
  | sh y => obtain ⟨w, z1, z2⟩ := z; exact ⟨w, z1, Rep.mono b z2⟩
  | own l' =>
    have := List.all_eq_true.mp no _ (List.mem_of_getElem? h1)
    cases this
theorem HB.heap {He H H' : Hp} {S : List Sl} {σ : L2.St} (h : HB He S σ H) (no : S.all notOwn = true) (e : Ex He H') : HB He S σ H' := by
  obtain ⟨_, c, d⟩ := h
  refine ⟨e, c, fun j s o h1 h2 => ?_⟩
  have z := d j s o h1 h2
  cases s with
  | any => trivial
  | sh y => exact z
  | own l' =>
    have := List.all_eq_true.mp no _ (List.mem_of_getElem? h1)
    cases this
theorem HB.set {He H : Hp} {S : List Sl} {σ : L2.St} (h : HB He S σ H) (i : Nat) {α : Type} [Rep α] {a : α} {v : V} (q : Rep.is He v a) : HB He (S.set i (.sh a)) (σ.set i (some v)) H := by
  obtain ⟨x, c, d⟩ := h
  refine ⟨x, by simp [c], fun j s o h1 h2 => ?_⟩
  by_cases e : i = j
  · subst e
    have hi : i < σ.length := by have := (List.getElem?_eq_some_iff.mp h2).1; simpa using this
    rw [List.getElem?_set_self (by omega)] at h1
    rw [List.getElem?_set_self hi] at h2
    cases h1; cases h2
    exact ⟨v, rfl, q⟩
  · rw [List.getElem?_set_ne e] at h1 h2
    exact d j s o h1 h2
theorem HB.any {He H : Hp} {S : List Sl} {σ : L2.St} (h : HB He S σ H) (i : Nat) (o : Option V) : HB He (S.set i .any) (σ.set i o) H := by
  obtain ⟨x, c, d⟩ := h
  refine ⟨x, by simp [c], fun j s o h1 h2 => ?_⟩
  by_cases e : i = j
  · subst e
    have hi : i < σ.length := by have := (List.getElem?_eq_some_iff.mp h2).1; simpa using this
    rw [List.getElem?_set_self (by omega)] at h1
    cases h1; trivial
  · rw [List.getElem?_set_ne e] at h1 h2
    exact d j s o h1 h2
theorem HB.weak {He H : Hp} {S T : List Sl} {σ : L2.St} (h : HB He S σ H) (w : Weak S T) : HB He T σ H := by
  obtain ⟨x, c, d⟩ := h
  obtain ⟨w1, w2⟩ := w.get
  refine ⟨x, by omega, fun i s o h1 h2 => ?_⟩
  rcases w2 i s h1 with e | q
  · subst e; exact True.intro
  · exact d i s o q h2
/-- a square of numbers, its rows new lists, each of its own -/
def MatH (He H : Hp) (p : Addr) (n : Nat) (f : Nat → Nat → Int) : Prop := ∃ rs : List Addr, rs.length = n ∧ H p = some (.lst (rs.map .ref)) ∧ He p = none ∧ rs.Nodup ∧ p ∉ rs ∧ ∀ (i : Nat) (r : Addr), rs[i]? = some r → He r = none ∧ H r = some (.lst ((List.range n).map fun c => .int (f i c)))
theorem MatH.mono {He H H' : Hp} {p : Addr} {n : Nat} {f : Nat → Nat → Int} (h : MatH He H p n f) (e : Ex H H') : MatH He H' p n f := by
  obtain ⟨rs, h1, h2, h3, h4, h5, h6⟩ := h
  exact ⟨rs, h1, e _ _ h2, h3, h4, h5, fun i r hr => ⟨(h6 i r hr).1, e _ _ (h6 i r hr).2⟩⟩
theorem MatH.is {He H : Hp} {p : Addr} {n : Nat} {f : Nat → Nat → Int} (h : MatH He H p n f) : Rep.is H (.ref p) (mat n f) := by
  obtain ⟨rs, h1, h2, h3, h4, h5, h6⟩ := h
  refine ⟨p, _, rfl, h2, by simp [mat, h1], fun i x a hx ha => ?_⟩
  rw [List.getElem?_map] at hx
  obtain ⟨r, hr, rfl⟩ := Option.map_eq_some_iff.mp hx
  have hi : i < n := by rw [← h1]; exact (List.getElem?_eq_some_iff.mp hr).1
  rw [mat_row f hi] at ha
  cases ha
  exact of_ints (by rw [(h6 i r hr).2, List.map_map]; rfl)
def putF2 (f : Nat → Nat → Int) (o c : Nat) (x : Int) : Nat → Nat → Int := fun i j => if i = o ∧ j = c then x else f i j
theorem MatH.put {He H : Hp} {p : Addr} {n : Nat} {f : Nat → Nat → Int} (h : MatH He H p n f) {o c : Nat} (ho : o < n) (hc : c < n) (x : Int) : ∃ r rs, H p = some (.lst (List.map V.ref rs)) ∧ rs[o]? = some r ∧ He r = none ∧ H r = some (.lst ((List.range n).map fun c => .int (f o c))) ∧
    MatH He (upd H r (.lst (((List.range n).map fun c => V.int (f o c)).set c (.int x)))) p n (putF2 f o c x) := by
  obtain ⟨rs, h1, h2, h3, h4, h5, h6⟩ := h
  have hr : rs[o]? = some (rs[o]'(by omega)) := List.getElem?_eq_getElem (by omega)
  obtain ⟨a, b⟩ := h6 o _ hr
  have hp : p ≠ rs[o]'(by omega) := fun z => h5 (z ▸ List.getElem_mem (by omega))
  refine ⟨_, rs, h2, hr, a, b, rs, h1, by rw [upd_ne hp]; exact h2, h3, h4, h5, fun i r hi => ?_⟩
  obtain ⟨a', b'⟩ := h6 i r hi
  refine ⟨a', ?_⟩
  by_cases e : i = o
  · subst e
    rw [hr] at hi
    cases hi
    rw [upd_same]
    congr 2
    apply List.ext_getElem?
    intro j
    by_cases hj : c = j
    · subst hj
      rw [List.getElem?_set_self (by simpa using hc)]
      simp [hc, putF2]
    · rw [List.getElem?_set_ne hj]
      by_cases hjn : j < n
      · simp [hjn, putF2, Ne.symm hj]
      · rw [List.getElem?_eq_none (by simpa using hjn), List.getElem?_eq_none (by simpa using hjn)]
  · have ne : r ≠ rs[o]'(by omega) := fun z => by
      subst z
      exact e ((List.getElem?_inj (List.getElem?_eq_some_iff.mp hi).1 h4).mp (by rw [hi, hr]))
    rw [upd_ne ne, b']
    congr 3
    funext j
    unfold putF2
    rw [if_neg (fun z => e z.1)]
theorem flat_rep (n : Nat) (v : V) : (List.replicate n [v]).flatten = (List.range n).map fun _ => v := by
  rw [List.flatten_replicate_singleton]
  apply List.ext_getElem?
  intro j
  rw [List.getElem?_replicate, List.getElem?_map]
  by_cases h : j < n
  · simp [h]
  · simp [h]
def sp_holdings_on : Sp := SpD (ι := List Bool × List Valdgg.Trade × Nat) (fun i => [.sh i.1, .sh (i.2.1.map trT), .sh i.2.2]) (fun i => i.1.length ≤ 1000 ∧ ∀ t ∈ i.2.1, t.owner < i.1.length ∧ t.company < i.1.length) fun i => tabOf i.1.length i.2.1 i.2.2
theorem chg_trade (t : Valdgg.Trade) : chg (fld (.trade t.day t.owner t.company t.percent) 0) (fld (.trade t.day t.owner t.company t.percent) 4) = t.percent := by
  unfold fld recRow chg
  by_cases h : 0 < t.percent
  · simp [h]
  · simp [h]
theorem trade_flds (t : Valdgg.Trade) : tradeRow t = [fld (.trade t.day t.owner t.company t.percent) 0, (t.day : Int), (t.owner : Int), (t.company : Int), fld (.trade t.day t.owner t.company t.percent) 4] := by
  unfold tradeRow fld recRow
  by_cases h : 0 < t.percent
  · simp [h]
  · simp [h]
theorem ok_holdings_on (T : Top K mg C) : Df P w K mg base "holdings_on" 2 ["parties", "live", "day"] sp_holdings_on := by
  have d_change_of := ok_change_of (P := P) (w := w) (base := base) T
  refine T.f_holdings_on.okD sc_holdings_on (fun _ => rfl) (fun _ => rfl) ?_
  intro i hpre f cdv A outer s H Q E hr
  refine ⟨_, (pss_cons (ps_set (i := 3) sc_holdings_on.nd rfl (Or.inr rfl) (pe_callB call_len_seq (by rfl) T.b_len (by decide +kernel) (pa_cons (pv 0) pa_nil)))
        (pss_cons (ps_setLc (i := 4) (own := [("i", 10)]) (g := gName 10) (tt := tYes) rfl sc_holdings_on.nd rfl rfl (sw_true rfl rfl rfl (by decide +kernel)) (pi_range1 rfl T.b_range (pa_cons (pv 3) pa_nil)) (blkOk_by (N := ["parties", "live", "day", "many", "table", "kind", "when", "owner", "company", "percent", "i"]) (sc := defScope s_holdings_on) (by decide +kernel)) (fun _ _ _ _ _ => (pg_name (i := 10) sc_holdings_on.nd rfl (Or.inl rfl))) (fun _ _ _ _ _ => pts_nil) (fun _ _ _ _ _ => (pe_op op_rep (pe_lst (pa_cons pe_int pa_nil)) (pv 3))))
        (pss_cons (ps_for PassesOwn.never rfl (pi_list (pv 1)) (pg_tup rfl (pgs_cons (pg_name (i := 5) sc_holdings_on.nd rfl (Or.inl rfl)) (pgs_cons (pg_name (i := 6) sc_holdings_on.nd rfl (Or.inl rfl)) (pgs_cons (pg_name (i := 7) sc_holdings_on.nd rfl (Or.inl rfl)) (pgs_cons (pg_name (i := 8) sc_holdings_on.nd rfl (Or.inl rfl)) (pgs_cons (pg_name (i := 9) sc_holdings_on.nd rfl (Or.inl rfl)) pgs_nil)))))) (pss_one (ps_if (pt_cmpR op_le (pv 6) (pv 2) (nomark _)) (pss_one (ps_augS (pe_ix (ix_listK rfl) (pv 4) (pv 7) (fun _ _ => rfl)) (pv 8) get_list (pe_df d_change_of (hr.mono (by decide)) rfl (pa_cons (pv 5) (pa_cons (pv 9) pa_nil))) ip_add set_list)) pss_nil)))
        (pss_one (ps_ret (pv 4)))))), fun k => ?_⟩
  obtain ⟨ps, ts, day⟩ := i
  obtain ⟨hn, ht⟩ := hpre
  have hn : ps.length ≤ 1000 := hn
  have ht : ∀ t ∈ ts, t.owner < ps.length ∧ t.company < ps.length := ht
  refine q_set (a := ps.length) (x_len (x_var rfl)) ?_
  intro σ H1 h1
  have b1 : HB H1 [.sh ps, .sh (ts.map trT), .sh day, .sh ps.length, .any, .any, .any, .any, .any, .any, .any] σ H1 := HB.of h1 rfl
  have ex1 : Ex H H1 := h1.ex
  clear h1
  -- table = [[0] * many for i in range(many)]
  obtain ⟨vn, en, rn⟩ := b1.holds.sh (i := 3) (a := ps.length) rfl
  refine ⟨vn, en, (ps.length : Int), by rw [is_nat.mp rn], by omega, by omega, fun D hD => ?_⟩
  refine lc_range (lo := 0) (n := (ps.length : Int).toNat) (fun i H' => Ex H1 H' ∧ ∃ rs : List Addr, rs.length = i ∧ H' D = some (.lst (rs.map .ref)) ∧ rs.Nodup ∧ D ∉ rs ∧ ∀ r ∈ rs, H1 r = none ∧ H' r = some (.lst ((List.range ps.length).map fun _ => .int 0)))
    ⟨Ex.new hD, [], rfl, upd_same, List.nodup_nil, (fun z => nomatch z), fun r z => nomatch z⟩ (fun i H' hi p => ?_) fun H' p => ?_
  · obtain ⟨e1, rs, l1, l2, l3, l4, l5⟩ := p
    show wipe ((wipe σ [10]).set 10 _) [10] = wipe σ [10] ∧ tOp rRep (tLst (tCons (tC (.int 0)) tNil)) (tVar 3) ((wipe σ [10]).set 10 _) H' _
    refine ⟨wipe_one σ 10 _, ?_⟩
    rw [wipe_set]
    refine ⟨by decide, fun q hq => ⟨vn, by rw [List.getElem?_set_ne (by decide)]; exact en, q, (ps.length : Int), [.int 0], rfl, is_nat.mp rn, upd_same, by omega, by omega, by rw [sizeLine_eq]; simp; omega, fun r hr => ?_⟩⟩
    have nr : H' r = none := by
      by_cases z : r = q
      · subst z; exact hq
      · rw [upd_ne z] at hr; exact hr
    have ndr : D ≠ r := fun z => by subst z; rw [nr] at l2; cases l2
    have ndq : D ≠ q := fun z => by subst z; rw [hq] at l2; cases l2
    have nqr : r ≠ q := fun z => by subst z; rw [upd_same] at hr; cases hr
    refine ⟨rs.map .ref, by rw [upd_ne ndr, upd_ne ndq]; exact l2, by rw [List.length_map, l1, sizeLine_eq]; omega, ?_, rs ++ [r], by simp [l1], by rw [upd_same, List.map_append]; rfl, ?_, ?_, fun b hb => ?_⟩
    · refine fun b o hb => ?_
      have z1 : b ≠ D := fun z => by subst z; rw [hD] at hb; cases hb
      have z2 := e1 b o hb
      rw [upd_ne z1, upd_ne (ne_of_none z2 nr), upd_ne (ne_of_none z2 hq)]
      exact z2
    · rw [List.nodup_append]
      refine ⟨l3, by simp, fun a ha b hb z => ?_⟩
      have eb : b = r := List.mem_singleton.mp hb
      subst eb; subst z
      have := (l5 a ha).2
      rw [nr] at this; cases this
    · intro z
      rcases List.mem_append.mp z with z | z
      · exact l4 z
      · exact ndr (List.mem_singleton.mp z)
    · rcases List.mem_append.mp hb with z | z
      · obtain ⟨x1, x2⟩ := l5 b z
        have y1 : b ≠ D := fun z' => by subst z'; exact l4 z
        exact ⟨x1, by rw [upd_ne y1, upd_ne (ne_of_none x2 nr), upd_ne (ne_of_none x2 hq)]; exact x2⟩
      · have eb : b = r := List.mem_singleton.mp z
        subst eb
        refine ⟨fresh_back e1 nr, ?_⟩
        rw [upd_ne (Ne.symm ndr), upd_same]
        congr 2
        rw [Int.toNat_natCast]
        exact flat_rep _ _
  -- for kind, when, owner, company, percent in live
  · obtain ⟨e1, rs, l1, l2, l3, l4, l5⟩ := p
    rw [Int.toNat_natCast] at l1
    have hm : MatH H1 H' D ps.length (hf [] day) := ⟨rs, l1, l2, hD, l3, l4, fun i r hr => l5 r (List.mem_of_getElem? hr)⟩
    show tSeq _ _ _ (σ.set 4 (some (.ref D))) H'
    have b2 := (b1.heap rfl e1).any 4 (some (.ref D))
    have e4 : (σ.set 4 (some (V.ref D)))[4]? = some (some (.ref D)) := List.getElem?_set_self (by have := b1.2.1; simp at this; omega)
    generalize σ.set 4 (some (V.ref D)) = σ1 at b2 e4
    obtain ⟨vl, el, rl⟩ := b2.holds.sh (i := 1) (a := ts.map trT) rfl
    have rl1 : Rep.is H1 vl (ts.map trT) := by
      obtain ⟨w, z1, z2⟩ := b2.2.2 1 _ _ (rfl : _ = some (Sl.sh (ts.map trT))) el
      cases z1; exact z2
    clear rl
    obtain ⟨q, xs, rfl, hq, hx⟩ := rl1
    refine ⟨_, el, q, rfl, ⟨xs, SqL.of (e1 _ _ hq)⟩, for_list (K := K) (xs := xs) (fun i σ' H' => HB H1 [.sh ps, .sh (ts.map trT), .sh day, .sh ps.length, .any, .any, .any, .any, .any, .any, .any] σ' H' ∧ σ'[4]? = some (some (.ref D)) ∧ MatH H1 H' D ps.length (hf (ts.take i) day))
      ⟨b2, e4, hm⟩ (fun i σ' H' _ p => SqL.of (p.1.1 _ _ hq)) (fun i x σ' H' hi p => ?_) fun σ' H' p => ?_⟩
    · obtain ⟨a, ha, r⟩ := hx.getV hi
      obtain ⟨t, hti, rfl⟩ : ∃ t, ts[i]? = some t ∧ trT t = a := by
        rw [List.getElem?_map] at ha
        obtain ⟨t, h1, h2⟩ := Option.map_eq_some_iff.mp ha
        exact ⟨t, h1, h2⟩
      obtain ⟨to, tc⟩ := ht t (List.mem_of_getElem? hti)
      obtain ⟨p1, p2, p3⟩ := p
      obtain ⟨r', rfl, hr'⟩ := r
      have hr'' : H1 r' = some (.tup [.int (fld (.trade t.day t.owner t.company t.percent) 0), .int (t.day : Int), .int (t.owner : Int), .int (t.company : Int), .int (fld (.trade t.day t.owner t.company t.percent) 4)]) := by
        rw [hr']
        show some (HO.tup ((tradeRow t).map V.int)) = _
        rw [trade_flds]; rfl
      refine ⟨r', _, rfl, SqT.of (p1.1 _ _ hr''), rfl, _, _, rfl, _, _, rfl, _, _, rfl, _, _, rfl, _, _, rfl, rfl, ?_⟩
      have b3 := ((((p1.set 5 (a := fld (.trade t.day t.owner t.company t.percent) 0) (v := .int (fld (.trade t.day t.owner t.company t.percent) 0)) rfl).set 6 (a := t.day) (v := .int (t.day : Int)) rfl).set 7 (a := t.owner) (v := .int (t.owner : Int)) rfl).set 8 (a := t.company) (v := .int (t.company : Int)) rfl).set 9 (a := fld (.trade t.day t.owner t.company t.percent) 4) (v := .int (fld (.trade t.day t.owner t.company t.percent) 4)) rfl
      have e5 : (((((σ'.set 5 (some (V.int (fld (.trade t.day t.owner t.company t.percent) 0)))).set 6 (some (V.int (t.day : Int)))).set 7 (some (V.int (t.owner : Int)))).set 8 (some (V.int (t.company : Int)))).set 9 (some (V.int (fld (.trade t.day t.owner t.company t.percent) 4))))[4]? = some (some (.ref D)) := by
        rw [List.getElem?_set_ne (by decide), List.getElem?_set_ne (by decide), List.getElem?_set_ne (by decide), List.getElem?_set_ne (by decide), List.getElem?_set_ne (by decide)]
        exact p2
      have fin : ∀ (H2 : Hp), Ex H1 H2 → MatH H1 H2 D ps.length (hf (ts.take (i + 1)) day) → HB H1 [.sh ps, .sh (ts.map trT), .sh day, .sh ps.length, .any, .any, .any, .any, .any, .any, .any] (((((σ'.set 5 (some (V.int (fld (.trade t.day t.owner t.company t.percent) 0)))).set 6 (some (V.int (t.day : Int)))).set 7 (some (V.int (t.owner : Int)))).set 8 (some (V.int (t.company : Int)))).set 9 (some (V.int (fld (.trade t.day t.owner t.company t.percent) 4)))) H2 ∧ _ ∧ MatH H1 H2 D ps.length (hf (ts.take (i + 1)) day) := fun H2 x y =>
        ⟨(b3.heap rfl x).weak ⟨.inl rfl, .inl rfl, .inl rfl, .inl rfl, .inl rfl, .inr rfl, .inr rfl, .inr rfl, .inr rfl, .inr rfl, .inl rfl, trivial⟩, e5, y⟩
      clear p2
      generalize (((((σ'.set 5 (some (V.int (fld (.trade t.day t.owner t.company t.percent) 0)))).set 6 (some (V.int (t.day : Int)))).set 7 (some (V.int (t.owner : Int)))).set 8 (some (V.int (t.company : Int)))).set 9 (some (V.int (fld (.trade t.day t.owner t.company t.percent) 4)))) = σ2 at b3 e5 fin
      have htk : ts.take (i + 1) = ts.take i ++ [t] := by rw [List.take_add_one, hti]; rfl
      refine t_test (x_le (x_var (i := 6) (a := t.day) rfl).up (x_var (i := 2) (a := day) rfl).up) σ2 H' b3.holds _ fun H2 e2 => ?_
      have b4 := b3.heap rfl (b3.1.trans e2)
      have m4 := p3.mono e2
      by_cases hd : t.day ≤ day
      · rw [if_pos (by simp; exact hd)]
        obtain ⟨r, rs2, y1, y2, y3, y4, y5⟩ := m4.put to tc (hf (ts.take i) day t.owner t.company + t.percent)
        obtain ⟨v7, z7, w7⟩ := b4.holds.sh (i := 7) (a := t.owner) rfl
        obtain ⟨v8, z8, w8⟩ := b4.holds.sh (i := 8) (a := t.company) rfl
        refine ⟨_, e5, _, z7, D, _, (t.owner : Int), .ref r, rfl, is_nat.mp w7, SqL.of y1, atI_nat (by rw [List.getElem?_map, y2]; rfl), _, z8, r, _, t.company, .int (hf (ts.take i) day t.owner t.company), rfl, is_nat.mp w8, SqL.of y4, by rw [List.getElem?_map, List.getElem?_range tc]; rfl, ?_⟩
        refine (x_cD (S := [.sh ps, .sh (ts.map trT), .sh day, .sh ps.length, .any, .sh (fld (.trade t.day t.owner t.company t.percent) 0), .sh t.day, .sh t.owner, .sh t.company, .sh (fld (.trade t.day t.owner t.company t.percent) 4), .any]) (He := H1) (fld (.trade t.day t.owner t.company t.percent) 0, fld (.trade t.day t.owner t.company t.percent) 4) (xa_cons (x_var rfl) (xa_cons (x_var rfl) xa_nil)) trivial) σ2 H2 b4.holds _ fun v H3 e3 i3 => ?_
        have i3' : v = .int t.percent := (is_int.mp i3).trans (by rw [show chg (fld (.trade t.day t.owner t.company t.percent) 0, fld (.trade t.day t.owner t.company t.percent) 4).1 (fld (.trade t.day t.owner t.company t.percent) 0, fld (.trade t.day t.owner t.company t.percent) 4).2 = t.percent from chg_trade t])
        refine ⟨_, _, rfl, i3', r, _, (t.company : Int), t.company, rfl, is_nat.mp w8, e3 _ _ y4, by rw [List.length_map, List.length_range]; exact ixN_nat tc, ?_⟩
        have m5 := m4.mono e3
        obtain ⟨r2, rs3, u1, u2, u3, u4, u5⟩ := m5.put to tc (hf (ts.take i) day t.owner t.company + t.percent)
        have er : r2 = r := by
          have z := e3 _ _ y1
          rw [u1] at z
          have z2 : List.map V.ref rs3 = List.map V.ref rs2 := by injection (Option.some.inj z)
          have z3 := congrArg (fun l => l[t.owner]?) z2
          simp only [List.getElem?_map, u2, y2, Option.map_some] at z3
          injection (Option.some.inj z3)
        subst er
        refine fin _ ((b4.1.trans e3).mut u3) ?_
        have ef : hf (ts.take (i + 1)) day = putF2 (hf (ts.take i) day) t.owner t.company (hf (ts.take i) day t.owner t.company + t.percent) := by
          funext p c
          rw [htk, hf_add]
          unfold putF2
          by_cases c1 : p = t.owner ∧ c = t.company
          · obtain ⟨rfl, rfl⟩ := c1
            rw [if_pos ⟨hd, rfl, rfl⟩, if_pos ⟨rfl, rfl⟩]
          · rw [if_neg c1, if_neg (fun z => c1 ⟨z.2.1.symm, z.2.2.symm⟩)]
        rw [ef]
        exact u5
      · rw [if_neg (by simp; omega)]
        refine fin _ b4.1 ?_
        have ef : hf (ts.take (i + 1)) day = hf (ts.take i) day := by
          funext p c
          rw [htk, hf_add, if_neg (fun z => hd z.1)]
        rw [ef]
        exact m4
    · obtain ⟨p1, p2, p3⟩ := p
      have e : ts.take xs.length = ts := by
        have := hx.1
        rw [List.length_map] at this
        rw [this, List.take_length]
      rw [e] at p3
      exact ⟨_, p2, k _ _ (ex1.trans p1.1) p3.is⟩
end
end Cr
namespace Cr
open PySem PySem.Spec PyProof.Rows L2 Evl
section
variable {P : Program} {w : World} {K : PySem.W.Frag} {mg : Str → Option Value} {base : Heap} {C : Addr}
def sp_held_table (C : Addr) : Sp := SpD (ι := VS × Nat × Nat) (fun i => [.sh (bk C i.1), .sh i.2.1, .sh i.2.2]) (fun i => WF i.1 ∧ i.2.2 ≤ i.1.records.length) fun i => tabOf i.1.parties.length (liveOf (i.1.records.take i.2.2)) i.2.1
theorem ok_held_table (T : Top K mg C) : Df P w K mg base "held_table" 3 ["book", "day", "n"] (sp_held_table C) := by
  have d_holdings_on := ok_holdings_on (P := P) (w := w) (base := base) T
  have d_live_records := ok_live_records (P := P) (w := w) (base := base) T
  refine T.f_held_table.okD sc_held_table (fun _ => rfl) (fun _ => rfl) ?_
  intro i hpre f cdv A outer s H Q E hr
  refine ⟨_, (pss_one (ps_ret (pe_df d_holdings_on (hr.mono (by decide)) rfl (pa_cons (pe_fld (pv 0) rfl) (pa_cons (pe_df d_live_records (hr.mono (by decide)) rfl (pa_cons (pe_fld (pv 0) rfl) (pa_cons (pv 2) pa_nil))) (pa_cons (pv 1) pa_nil)))))), fun k => ?_⟩
  obtain ⟨st, day, n⟩ := i
  obtain ⟨wf, hn⟩ := hpre
  have hn : n ≤ st.records.length := hn
  have h1 : st.parties.length ≤ 12 := wf.np
  have h2 : st.records.length ≤ 40 := wf.nr
  refine g_ret (x_cD (st.parties, liveOf (st.records.take n), day) (xa_cons (x_fldP T (x_var rfl)) (xa_cons (x_cN (st.records, n) (xa_cons (x_fldR T (x_var rfl)) (xa_cons (x_var rfl) xa_nil)) ⟨hn, ?_⟩).d (xa_cons (x_var rfl) xa_nil))) ⟨?_, (wf.inP n).two⟩) k
  · show st.parties.length ≤ 1000; omega
  · show n ≤ 10000; omega
def sp_held_in : Sp := SpD (ι := VT × List Nat × Nat) (fun i => [.sh i.1, .sh i.2.1, .sh i.2.2]) (fun i => Sq i.1 ∧ (∀ k ∈ i.2.1, k < i.1.length) ∧ i.2.2 < i.1.length ∧ i.2.1.length < 100000) fun i => Valdgg.heldIn i.1 i.2.1 i.2.2
theorem ok_held_in (T : Top K mg C) : Df P w K mg base "held_in" 1 ["table", "members", "company"] sp_held_in := by
  refine T.f_held_in.okD sc_held_in (fun _ => rfl) (fun _ => rfl) ?_
  intro i hpre f cdv A outer s H Q E hr
  refine ⟨_, (pss_one (ps_ret (pe_callB (cr_sum rfl) (by rfl) T.b_sum (by decide +kernel) (pa_cons (pe_lc (own := [("k", 3)]) (g := gName 3) (tt := tYes) rfl sc_held_in.nd (pi_list (pv 1)) (blkOk_by (N := ["table", "members", "company", "k"]) (sc := defScope s_held_in) (by decide +kernel)) (fun _ _ _ _ _ => (pg_name (i := 3) sc_held_in.nd rfl (Or.inl rfl))) (fun _ _ _ _ _ => pts_nil) (fun _ _ _ _ _ => (pe_ix (ix_listK rfl) (pe_ix (ix_listK rfl) (pv 0) (pv 3) (fun _ _ => rfl)) (pv 2) (fun _ _ => rfl)))) pa_nil)))), fun k => ?_⟩
  obtain ⟨t, m, c⟩ := i
  obtain ⟨hs, hm, hc, hz⟩ := hpre
  refine g_ret (XD.eq (x_sum (x_lcV (fun _ => true) (fun k => Valdgg.held t k c) (m := 1) rfl hz (fun _ _ _ _ _ => t_yes) fun H' e j a ha _ => ?_).d) ?_) k
  · obtain ⟨row, h1, h2⟩ := row_at hs (hm a (List.mem_of_getElem? ha))
    exact (x_ix (x_ix (x_var (a := t) rfl) (x_var (a := a) rfl).up h1) (x_var (a := c) rfl).up (cell_at h1 (by rw [h2]; exact hc))).int
  · rw [heldIn_sum, List.filter_eq_self.mpr fun _ _ => rfl]
def sp_all_held : Sp := SpD (ι := VT × Nat) (fun i => [.sh i.1, .sh i.2]) (fun i => Sq i.1 ∧ i.2 < i.1.length ∧ i.1.length < 100000) fun i => Valdgg.heldIn i.1 (List.range i.1.length) i.2
theorem ok_all_held (T : Top K mg C) : Df P w K mg base "all_held" 1 ["table", "company"] sp_all_held := by
  refine T.f_all_held.okD sc_all_held (fun _ => rfl) (fun _ => rfl) ?_
  intro i hpre f cdv A outer s H Q E hr
  refine ⟨_, (pss_one (ps_ret (pe_callB (cr_sum rfl) (by rfl) T.b_sum (by decide +kernel) (pa_cons (pe_lc (own := [("row", 2)]) (g := gName 2) (tt := tYes) rfl sc_all_held.nd (pi_list (pv 0)) (blkOk_by (N := ["table", "company", "row"]) (sc := defScope s_all_held) (by decide +kernel)) (fun _ _ _ _ _ => (pg_name (i := 2) sc_all_held.nd rfl (Or.inl rfl))) (fun _ _ _ _ _ => pts_nil) (fun _ _ _ _ _ => (pe_ix (ix_listK rfl) (pv 2) (pv 1) (fun _ _ => rfl)))) pa_nil)))), fun k => ?_⟩
  obtain ⟨t, c⟩ := i
  obtain ⟨hs, hc, hz⟩ := hpre
  refine g_ret (XD.eq (x_sum (x_lcV (fun _ => true) (fun row : List Int => row.getD c 0) (m := 0) rfl hz (fun _ _ _ _ _ => t_yes) fun H' e j a ha _ => ?_).d) ?_) k
  · have hl := hs a (List.mem_of_getElem? ha)
    refine (x_ix (x_var (a := a) rfl) (x_var (a := c) rfl).up ?_).int
    rw [List.getD_eq_getElem?_getD, List.getElem?_eq_getElem (by rw [hl]; exact hc)]; rfl
  · rw [heldIn_sum, List.filter_eq_self.mpr fun _ _ => rfl]
    congr 1
    apply List.ext_getElem?
    intro j
    rw [List.getElem?_map, List.getElem?_map]
    by_cases hj : j < t.length
    · rw [List.getElem?_eq_getElem hj, List.getElem?_range hj]
      simp only [Option.map_some]
      unfold Valdgg.held
      rw [List.getElem?_eq_getElem hj, List.getD_eq_getElem?_getD]; rfl
    · rw [List.getElem?_eq_none (Nat.le_of_not_lt hj), List.getElem?_eq_none (by rw [List.length_range]; exact Nat.le_of_not_lt hj)]; rfl
def sp_free_float : Sp := SpD (ι := VT × Nat) (fun i => [.sh i.1, .sh i.2]) (fun i => Sq i.1 ∧ i.2 < i.1.length ∧ i.1.length < 100000) fun i => (100 : Int) - Valdgg.heldIn i.1 (List.range i.1.length) i.2
theorem ok_free_float (T : Top K mg C) : Df P w K mg base "free_float" 2 ["table", "company"] sp_free_float := by
  have d_all_held := ok_all_held (P := P) (w := w) (base := base) T
  refine T.f_free_float.okD sc_free_float (fun _ => rfl) (fun _ => rfl) ?_
  intro i hpre f cdv A outer s H Q E hr
  refine ⟨_, (pss_one (ps_ret (pe_op op_sub pe_int (pe_df d_all_held (hr.mono (by decide)) rfl (pa_cons (pv 0) (pa_cons (pv 1) pa_nil)))))), fun k => ?_⟩
  exact g_ret (x_sub x_int (x_cD i (xa_cons (x_var rfl) (xa_cons (x_var rfl) xa_nil)) hpre)) k
/-! ### checks -/
def sp_within : Sp := SpD (ι := Int × Int × Int) (fun i => [.sh i.1, .sh i.2.1, .sh i.2.2]) (fun _ => True) fun i => Valdgg.within i.2.1 i.2.2 i.1
theorem ok_within (T : Top K mg C) : Df P w K mg base "within" 1 ["value", "low", "high"] sp_within := by
  refine T.f_within.okD sc_within (fun _ => rfl) (fun _ => rfl) ?_
  intro i hpre f cdv A outer s H Q E hr
  refine ⟨_, (pss_one (ps_ret (pe_and (pe_cmpR op_le (pv 1) (pv 0) (nomark _)) (pe_one (pe_cmpR op_le (pv 0) (pv 2) (nomark _)))))), fun k => ?_⟩
  exact g_ret (x_andV (x_le (x_var rfl) (x_var rfl)) fun _ => x_le (x_var rfl) (x_var rfl)) k
def sp_is_day : Sp := SpD (ι := Int) (fun i => [.sh i]) (fun _ => True) fun i => Valdgg.isNumber i
theorem ok_is_day (T : Top K mg C) : Df P w K mg base "is_day" 2 ["day"] sp_is_day := by
  have d_within := ok_within (P := P) (w := w) (base := base) T
  refine T.f_is_day.okD sc_is_day (fun _ => rfl) (fun _ => rfl) ?_
  intro i hpre f cdv A outer s H Q E hr
  refine ⟨_, (pss_one (ps_ret (pe_df d_within (hr.mono (by decide)) rfl (pa_cons (pv 0) (pa_cons pe_int (pa_cons (pe_cst T.c_TOP_DAY) pa_nil)))))), fun k => ?_⟩
  exact g_ret (x_cD (i, 0, 9999) (xa_cons (x_var rfl) (xa_cons x_int (xa_cons x_int xa_nil))) trivial) k
def sp_is_party : Sp := SpD (ι := Int) (fun i => [.sh i]) (fun _ => True) fun i => Valdgg.isNumber i
theorem ok_is_party (T : Top K mg C) : Df P w K mg base "is_party" 2 ["party"] sp_is_party := by
  have d_within := ok_within (P := P) (w := w) (base := base) T
  refine T.f_is_party.okD sc_is_party (fun _ => rfl) (fun _ => rfl) ?_
  intro i hpre f cdv A outer s H Q E hr
  refine ⟨_, (pss_one (ps_ret (pe_df d_within (hr.mono (by decide)) rfl (pa_cons (pv 0) (pa_cons pe_int (pa_cons (pe_cst T.c_TOP_PARTY) pa_nil)))))), fun k => ?_⟩
  exact g_ret (x_cD (i, 0, 9999) (xa_cons (x_var rfl) (xa_cons x_int (xa_cons x_int xa_nil))) trivial) k
def sp_is_known (C : Addr) : Sp := SpD (ι := VS × Int) (fun i => [.sh (bk C i.1), .sh i.2]) (fun _ => True) fun i => Valdgg.isKnowledge i.1 i.2
theorem ok_is_known (T : Top K mg C) : Df P w K mg base "is_known" 2 ["book", "n"] (sp_is_known C) := by
  have d_within := ok_within (P := P) (w := w) (base := base) T
  refine T.f_is_known.okD sc_is_known (fun _ => rfl) (fun _ => rfl) ?_
  intro i hpre f cdv A outer s H Q E hr
  refine ⟨_, (pss_one (ps_ret (pe_df d_within (hr.mono (by decide)) rfl (pa_cons (pv 1) (pa_cons pe_int (pa_cons (pe_callB call_len_seq (by rfl) T.b_len (by decide +kernel) (pa_cons (pe_fld (pv 0) rfl) pa_nil)) pa_nil)))))), fun k => ?_⟩
  exact g_ret (x_cD (i.2, 0, (i.1.records.length : Int)) (xa_cons (x_var rfl) (xa_cons x_int (xa_cons (x_nrec (x_fldR T (x_var rfl))) xa_nil))) trivial) k
theorem nle {a b : Int} : decide (b ≤ a) = !decide (a < b) := by
  by_cases h : a < b
  · rw [decide_eq_true h, decide_eq_false (by omega)]; rfl
  · rw [decide_eq_false h, decide_eq_true (by omega)]; rfl
theorem ibt {b : Bool} {α : Type} {x y : α} (h : b = true) : (if b = true then x else y) = x := if_pos h
theorem ibf {b : Bool} {α : Type} {x y : α} (h : b = false) : (if b = true then x else y) = y := by rw [h]; rfl
def sp_party_code (C : Addr) : Sp := SpD (ι := VS × Int × Int × Int) (fun i => [.sh (bk C i.1), .sh i.2.1, .sh i.2.2.1, .sh i.2.2.2]) (fun _ => True) fun i => pcode i.1 i.2.1 i.2.2.1 i.2.2.2
theorem t_3 {He : Hp} {S : List Sl} {t u v : TT} {a b c : Bool} (h1 : XT He S t a) (h2 : XT He S u b) (h3 : XT He S v c) : XT He S (tAnd t (tAnd u v)) (a && b && c) := (t_and h1 fun _ => t_and h2 fun _ => h3).eq (by rw [Bool.and_assoc])
theorem t_4 {He : Hp} {S : List Sl} {t u v w' : TT} {a b c d : Bool} (h1 : XT He S t a) (h2 : XT He S u b) (h3 : XT He S v c) (h4 : XT He S w' d) : XT He S (tAnd t (tAnd u (tAnd v w'))) (a && b && c && d) := (t_and h1 fun _ => t_and h2 fun _ => t_and h3 fun _ => h4).eq (by rw [Bool.and_assoc, Bool.and_assoc])
theorem ok_party_code (T : Top K mg C) : Df P w K mg base "party_code" 3 ["book", "day", "party", "n"] (sp_party_code C) := by
  have d_is_day := ok_is_day (P := P) (w := w) (base := base) T
  have d_is_party := ok_is_party (P := P) (w := w) (base := base) T
  have d_is_known := ok_is_known (P := P) (w := w) (base := base) T
  refine T.f_party_code.okD sc_party_code (fun _ => rfl) (fun _ => rfl) ?_
  intro i hpre f cdv A outer s H Q E hr
  refine ⟨_, (pss_cons (ps_if (pt_not (pt_of (pw_and (pt_val (pe_df d_is_day (hr.mono (by decide)) rfl (pa_cons (pv 1) pa_nil))) (pw_and (pt_val (pe_df d_is_party (hr.mono (by decide)) rfl (pa_cons (pv 2) pa_nil))) (pw_and1 (pt_val (pe_df d_is_known (hr.mono (by decide)) rfl (pa_cons (pv 0) (pa_cons (pv 3) pa_nil))))))))) (pss_one (ps_ret (pe_cst T.c_OUT_OF_RANGE))) pss_nil)
        (pss_cons (ps_if (pt_cmpR op_ge (pv 2) (pe_callB call_len_seq (by rfl) T.b_len (by decide +kernel) (pa_cons (pe_fld (pv 0) rfl) pa_nil)) (nomark _)) (pss_one (ps_ret (pe_cst T.c_NO_SUCH))) pss_nil)
        (pss_one (ps_ret (pe_cst T.c_FINE))))), fun k => ?_⟩
  obtain ⟨st, day, p, n⟩ := i
  refine q_code (t_not (t_3 (t_B (x_cD day (xa_cons (x_var rfl) xa_nil) trivial)) (t_B (x_cD p (xa_cons (x_var rfl) xa_nil) trivial)) (t_B (x_cD (st, n) (xa_cons (x_var rfl) (xa_cons (x_var rfl) xa_nil)) trivial)))) x_int (fun hb => (ibt hb).symm) k fun hb => ?_
  refine q_code ((t_test (x_ge (x_var (a := p) rfl) (x_len (x_fldP T (x_var rfl))))).eq nle) x_int (fun hc => ?_) k fun hc => g_ret (x_int.eq ?_) k
  · exact ((ibf hb).trans (ibt hc)).symm
  · exact ((ibf hb).trans (ibf hc)).symm
def sp_company_code (C : Addr) : Sp := SpD (ι := VS × Int × Int × Int) (fun i => [.sh (bk C i.1), .sh i.2.1, .sh i.2.2.1, .sh i.2.2.2]) (fun _ => True) fun i => ccode i.1 i.2.1 i.2.2.1 i.2.2.2
theorem not_of {b : Bool} (h : (!b) = false) : b = true := by simpa using h
theorem x_comp {He : Hp} {S : List Sl} {te tc : TE} {st : VS} {c : Int} (h : XD He S te st.parties) (hc : XD He S tc c) (h0 : 0 ≤ c) (h1 : c < (st.parties.length : Int)) : XD He S (tOp (rIxL K) te tc) (Valdgg.isCompany st c.toNat) :=
  x_ix h (XD.eq hc (by omega : c = ((c.toNat : Nat) : Int))) (comp_at (by omega))
theorem ok_company_code (T : Top K mg C) : Df P w K mg base "company_code" 4 ["book", "day", "company", "n"] (sp_company_code C) := by
  have d_party_code := ok_party_code (P := P) (w := w) (base := base) T
  refine T.f_company_code.okD sc_company_code (fun _ => rfl) (fun _ => rfl) ?_
  intro i hpre f cdv A outer s H Q E hr
  refine ⟨_, (pss_cons (ps_set (i := 4) sc_company_code.nd rfl (Or.inl rfl) (pe_df d_party_code (hr.mono (by decide)) rfl (pa_cons (pv 0) (pa_cons (pv 1) (pa_cons (pv 2) (pa_cons (pv 3) pa_nil))))))
        (pss_cons (ps_if (pt_cmpR op_ne (pv 4) (pe_cst T.c_FINE) (nomark _)) (pss_one (ps_ret (pv 4))) pss_nil)
        (pss_cons (ps_if (pt_not (pt_val (pe_ix (ix_listK rfl) (pe_fld (pv 0) rfl) (pv 2) (fun _ _ => rfl)))) (pss_one (ps_ret (pe_cst T.c_WRONG_KIND))) pss_nil)
        (pss_one (ps_ret (pe_cst T.c_FINE)))))), fun k => ?_⟩
  obtain ⟨st, day, p, n⟩ := i
  refine q_set (x_cD (st, day, p, n) (xa_cons (x_var rfl) (xa_cons (x_var rfl) (xa_cons (x_var rfl) (xa_cons (x_var rfl) xa_nil)))) trivial) ?_
  refine q_code (t_test (x_ne (x_var (a := pcode st day p n) rfl) x_int)) (x_var (a := pcode st day p n) rfl) (fun hb => ?_) k fun hb => ?_
  · exact (if_pos (by simpa using hb)).symm
  · have hz : pcode st day p n = 0 := by simpa using hb
    have hl := (pcode_0 hz).1
    refine q_code (t_not (t_B (x_comp (x_fldP T (x_var rfl)) (x_var (a := p) rfl) hl.1 hl.2))) x_int (fun hc => ?_) k fun hc => g_ret (x_int.eq ?_) k
    · exact ((if_neg (fun z => z hz)).trans (ibt hc)).symm
    · exact ((if_neg (fun z => z hz)).trans (ibf hc)).symm
def sp_both_code (C : Addr) : Sp := SpD (ι := VS × Int × Int) (fun i => [.sh (bk C i.1), .sh i.2.1, .sh i.2.2]) (fun i => 0 ≤ i.2.2) fun i => bcode i.1 i.2.1 i.2.2
theorem ok_both_code (T : Top K mg C) : Df P w K mg base "both_code" 1 ["book", "party", "company"] (sp_both_code C) := by
  refine T.f_both_code.okD sc_both_code (fun _ => rfl) (fun _ => rfl) ?_
  intro i hpre f cdv A outer s H Q E hr
  refine ⟨_, (pss_cons (ps_if (pt_cmpR op_eq (pv 1) (pv 2) (nomark _)) (pss_one (ps_ret (pe_cst T.c_SAME_OR_LENGTH))) pss_nil)
        (pss_cons (ps_if (pt_of (pw_or (pt_cmpR op_ge (pv 1) (pe_callB call_len_seq (by rfl) T.b_len (by decide +kernel) (pa_cons (pe_fld (pv 0) rfl) pa_nil)) (nomark _)) (pw_or1 (pt_cmpR op_ge (pv 2) (pe_callB call_len_seq (by rfl) T.b_len (by decide +kernel) (pa_cons (pe_fld (pv 0) rfl) pa_nil)) (nomark _))))) (pss_one (ps_ret (pe_cst T.c_NO_SUCH))) pss_nil)
        (pss_cons (ps_if (pt_not (pt_val (pe_ix (ix_listK rfl) (pe_fld (pv 0) rfl) (pv 2) (fun _ _ => rfl)))) (pss_one (ps_ret (pe_cst T.c_WRONG_KIND))) pss_nil)
        (pss_one (ps_ret (pe_cst T.c_FINE)))))), fun k => ?_⟩
  obtain ⟨st, p, c⟩ := i
  refine q_code (t_test (x_eq (x_var (a := p) rfl) (x_var (a := c) rfl))) x_int (fun hb => (if_pos (of_decide_eq_true hb)).symm) k fun hb => ?_
  refine q_code ((t_or (t_test (x_ge (x_var (a := p) rfl) (x_len (x_fldP T (x_var rfl))))) fun _ => t_test (x_ge (x_var (a := c) rfl) (x_len (x_fldP T (x_var rfl))))).eq (b := !(Valdgg.hasParty st p && Valdgg.hasParty st c)) ?_) x_int (fun hc => ?_) k fun hc => ?_
  · rw [nle, nle, Bool.not_and]; rfl
  · exact ((if_neg (of_decide_eq_false hb)).trans (ibt hc)).symm
  · have hh := not_of hc
    rw [Bool.and_eq_true] at hh
    refine q_code (t_not (t_B (x_comp (x_fldP T (x_var rfl)) (x_var (a := c) rfl) hpre (has_lt hh.2)))) x_int (fun hd => ?_) k fun hd => g_ret (x_int.eq ?_) k
    · exact ((if_neg (of_decide_eq_false hb)).trans ((ibf hc).trans (ibt hd))).symm
    · exact ((if_neg (of_decide_eq_false hb)).trans ((ibf hc).trans (ibf hd))).symm
def sp_pair_code (C : Addr) : Sp := SpD (ι := VS × Int × Int × Int) (fun i => [.sh (bk C i.1), .sh i.2.1, .sh i.2.2.1, .sh i.2.2.2]) (fun _ => True) fun i => prcode i.1 i.2.1 i.2.2.1 i.2.2.2
theorem ok_pair_code (T : Top K mg C) : Df P w K mg base "pair_code" 3 ["book", "party", "company", "n"] (sp_pair_code C) := by
  have d_is_party := ok_is_party (P := P) (w := w) (base := base) T
  have d_is_known := ok_is_known (P := P) (w := w) (base := base) T
  have d_both_code := ok_both_code (P := P) (w := w) (base := base) T
  refine T.f_pair_code.okD sc_pair_code (fun _ => rfl) (fun _ => rfl) ?_
  intro i hpre f cdv A outer s H Q E hr
  refine ⟨_, (pss_cons (ps_if (pt_not (pt_of (pw_and (pt_val (pe_df d_is_party (hr.mono (by decide)) rfl (pa_cons (pv 1) pa_nil))) (pw_and (pt_val (pe_df d_is_party (hr.mono (by decide)) rfl (pa_cons (pv 2) pa_nil))) (pw_and1 (pt_val (pe_df d_is_known (hr.mono (by decide)) rfl (pa_cons (pv 0) (pa_cons (pv 3) pa_nil))))))))) (pss_one (ps_ret (pe_cst T.c_OUT_OF_RANGE))) pss_nil)
        (pss_one (ps_ret (pe_df d_both_code (hr.mono (by decide)) rfl (pa_cons (pv 0) (pa_cons (pv 1) (pa_cons (pv 2) pa_nil))))))), fun k => ?_⟩
  obtain ⟨st, p, c, n⟩ := i
  refine q_code (t_not (t_3 (t_B (x_cD p (xa_cons (x_var rfl) xa_nil) trivial)) (t_B (x_cD c (xa_cons (x_var rfl) xa_nil) trivial)) (t_B (x_cD (st, n) (xa_cons (x_var rfl) (xa_cons (x_var rfl) xa_nil)) trivial)))) x_int (fun hb => (ibt hb).symm) k fun hb => ?_
  have hh := not_of hb
  rw [Bool.and_eq_true, Bool.and_eq_true] at hh
  exact g_ret ((x_cD (st, p, c) (xa_cons (x_var rfl) (xa_cons (x_var rfl) (xa_cons (x_var rfl) xa_nil))) (num_nn hh.1.2).1).eq (ibf hb).symm) k
def sp_pair_day_code (C : Addr) : Sp := SpD (ι := VS × Int × Int × Int × Int) (fun i => [.sh (bk C i.1), .sh i.2.1, .sh i.2.2.1, .sh i.2.2.2.1, .sh i.2.2.2.2]) (fun _ => True) fun i => pdcode i.1 i.2.1 i.2.2.1 i.2.2.2.1 i.2.2.2.2
theorem ok_pair_day_code (T : Top K mg C) : Df P w K mg base "pair_day_code" 4 ["book", "day", "party", "company", "n"] (sp_pair_day_code C) := by
  have d_is_day := ok_is_day (P := P) (w := w) (base := base) T
  have d_pair_code := ok_pair_code (P := P) (w := w) (base := base) T
  refine T.f_pair_day_code.okD sc_pair_day_code (fun _ => rfl) (fun _ => rfl) ?_
  intro i hpre f cdv A outer s H Q E hr
  refine ⟨_, (pss_cons (ps_if (pt_not (pt_val (pe_df d_is_day (hr.mono (by decide)) rfl (pa_cons (pv 1) pa_nil)))) (pss_one (ps_ret (pe_cst T.c_OUT_OF_RANGE))) pss_nil)
        (pss_one (ps_ret (pe_df d_pair_code (hr.mono (by decide)) rfl (pa_cons (pv 0) (pa_cons (pv 2) (pa_cons (pv 3) (pa_cons (pv 4) pa_nil)))))))), fun k => ?_⟩
  obtain ⟨st, d, p, c, n⟩ := i
  refine q_code (t_not (t_B (x_cD d (xa_cons (x_var rfl) xa_nil) trivial))) x_int (fun hb => (ibt hb).symm) k fun hb => ?_
  exact g_ret ((x_cD (st, p, c, n) (xa_cons (x_var rfl) (xa_cons (x_var rfl) (xa_cons (x_var rfl) (xa_cons (x_var rfl) xa_nil)))) trivial).eq (ibf hb).symm) k
def sp_are_prices : Sp := SpD (ι := List Int) (fun i => [.sh i]) (fun i => i.length < 100000) fun i => i.all (Valdgg.within 0 Valdgg.maxPrice)
theorem ok_are_prices (T : Top K mg C) : Df P w K mg base "are_prices" 2 ["prices"] sp_are_prices := by
  have d_within := ok_within (P := P) (w := w) (base := base) T
  refine T.f_are_prices.okD sc_are_prices (fun _ => rfl) (fun _ => rfl) ?_
  intro i hpre f cdv A outer s H Q E hr
  refine ⟨_, (pss_one (ps_ret (pe_callB (cr_all rfl) (by rfl) T.b_all (by decide +kernel) (pa_cons (pe_lc (own := [("price", 1)]) (g := gName 1) (tt := tYes) rfl sc_are_prices.nd (pi_list (pv 0)) (blkOk_by (N := ["prices", "price"]) (sc := defScope s_are_prices) (by decide +kernel)) (fun _ _ _ _ _ => (pg_name (i := 1) sc_are_prices.nd rfl (Or.inl rfl))) (fun _ _ _ _ _ => pts_nil) (fun _ _ _ _ _ => (pe_df d_within (hr.mono (by decide)) rfl (pa_cons (pv 1) (pa_cons pe_int (pa_cons (pe_cst T.c_TOP_PRICE) pa_nil)))))) pa_nil)))), fun k => ?_⟩
  refine g_ret (XD.eq (x_all (x_lcV (fun _ => true) (fun x : Int => Valdgg.within 0 Valdgg.maxPrice x) (m := 0) rfl hpre (fun _ _ _ _ _ => t_yes) fun H' e j a ha _ => (x_cD (a, 0, 1000000) (xa_cons (x_var rfl) (xa_cons x_int (xa_cons x_int xa_nil))) trivial).bool).d) ?_) k
  rw [List.filter_eq_self.mpr fun _ _ => rfl, List.all_map]
  rfl
def sp_plan_code (C : Addr) : Sp := SpD (ι := VS × Int × Int × Int × List Int) (fun i => [.sh (bk C i.1), .sh i.2.1, .sh i.2.2.1, .sh i.2.2.2.1, .sh i.2.2.2.2]) (fun i => WF i.1 ∧ i.2.2.2.2.length < 100000) fun i => plcode i.1 i.2.1 i.2.2.1 i.2.2.2.1 i.2.2.2.2
theorem ok_plan_code (T : Top K mg C) : Df P w K mg base "plan_code" 3 ["book", "day", "party", "target", "prices"] (sp_plan_code C) := by
  have d_is_day := ok_is_day (P := P) (w := w) (base := base) T
  have d_is_party := ok_is_party (P := P) (w := w) (base := base) T
  have d_are_prices := ok_are_prices (P := P) (w := w) (base := base) T
  have d_companies_of := ok_companies_of (P := P) (w := w) (base := base) T
  have d_both_code := ok_both_code (P := P) (w := w) (base := base) T
  refine T.f_plan_code.okD sc_plan_code (fun _ => rfl) (fun _ => rfl) ?_
  intro i hpre f cdv A outer s H Q E hr
  refine ⟨_, (pss_cons (ps_if (pt_not (pt_of (pw_and (pt_val (pe_df d_is_day (hr.mono (by decide)) rfl (pa_cons (pv 1) pa_nil))) (pw_and (pt_val (pe_df d_is_party (hr.mono (by decide)) rfl (pa_cons (pv 2) pa_nil))) (pw_and (pt_val (pe_df d_is_party (hr.mono (by decide)) rfl (pa_cons (pv 3) pa_nil))) (pw_and1 (pt_val (pe_df d_are_prices (hr.mono (by decide)) rfl (pa_cons (pv 4) pa_nil))))))))) (pss_one (ps_ret (pe_cst T.c_OUT_OF_RANGE))) pss_nil)
        (pss_cons (ps_if (pt_cmpR op_ne (pe_callB call_len_seq (by rfl) T.b_len (by decide +kernel) (pa_cons (pv 4) pa_nil)) (pe_callB call_len_seq (by rfl) T.b_len (by decide +kernel) (pa_cons (pe_df d_companies_of (hr.mono (by decide)) rfl (pa_cons (pe_fld (pv 0) rfl) pa_nil)) pa_nil)) (nomark _)) (pss_one (ps_ret (pe_cst T.c_SAME_OR_LENGTH))) pss_nil)
        (pss_one (ps_ret (pe_df d_both_code (hr.mono (by decide)) rfl (pa_cons (pv 0) (pa_cons (pv 2) (pa_cons (pv 3) pa_nil)))))))), fun k => ?_⟩
  obtain ⟨st, d, p, c, pr⟩ := i
  refine q_code (t_not (t_4 (t_B (x_cD d (xa_cons (x_var rfl) xa_nil) trivial)) (t_B (x_cD p (xa_cons (x_var rfl) xa_nil) trivial)) (t_B (x_cD c (xa_cons (x_var rfl) xa_nil) trivial)) (t_B (x_cD pr (xa_cons (x_var rfl) xa_nil) hpre.2)))) x_int (fun hb => (ibt hb).symm) k fun hb => ?_
  have hh := not_of hb
  rw [Bool.and_eq_true, Bool.and_eq_true, Bool.and_eq_true] at hh
  refine q_code (t_test (x_ne (x_len (x_var (a := pr) rfl)) (x_len (x_cN st.parties (xa_cons (x_fldP T (x_var rfl)) xa_nil) (Nat.lt_of_le_of_lt hpre.1.np (by decide))).d))) x_int (fun hc => ?_) k fun hc => ?_
  · refine ((ibf hb).trans (if_pos ?_)).symm
    intro z
    rw [Bool.not_eq_true', decide_eq_false_iff_not] at hc
    exact hc (congrArg (fun n : Nat => (n : Int)) z)
  · refine g_ret ((x_cD (st, p, c) (xa_cons (x_var rfl) (xa_cons (x_var rfl) (xa_cons (x_var rfl) xa_nil))) (num_nn hh.1.2).1).eq ((ibf hb).trans (if_neg ?_)).symm) k
    intro z
    have hc' := of_decide_eq_true (not_of hc)
    exact z (by exact_mod_cast hc')
end
end Cr
/-! set(l) of a list of whole numbers; a < b of lists of whole numbers -/
namespace Cr
open PySem PySem.Spec PyProof.Rows L2
/-- a set just made -/
abbrev freshSet (w : World) : Obj := { cls := .type "set", dict := none, data := .set #[] 0 (.fresh 0 0 (!w.params.followText "set-order")) }
section
variable {P : Program} {w : World} {A : Around} {E : Value → Shared → Prop} {s : Shared}
theorem call_setL {l : Addr} {items : Array Value} (ns : List Int) {Q : Value → Shared → Prop} (calm : A.handled = none) (lst : s.heap.IsList l items) (hin : IntsAre items.toList ns) (few : ns.length + 1 < scanBound)
    (fin : ∀ (h' : Heap) (tk c : Nat), SetR w h' s.heap.objs.size (fun j => decide (j ∈ ns)) c → c ≤ ns.length → (∀ b o, s.heap.get? b = some o → h'.get? b = some o) → Q (.ref s.heap.objs.size) { s with heap := h', toks := tk }) :
    wpAny (model P w) A (call (.type "set") [.ref l]) Q E s := by
  have hsz : items.size = ns.length := by
    rw [← IntsAre.length hin, Array.length_toList]
  obtain ⟨mc, mt, mro⟩ := F.called_set.mro
  have made := F.called_set.made
  have subs := F.called_set.sub
  refine wpAny_call (codeAny_of_tree ?_)
  show wpAny _ _ (callAny (.type "set") _) _ _ _
  refine wpAny_pure ⟨Code.quiet_builtin _ (by decide +kernel), codeAny_builtin F.entry_type_call ?_⟩
  rw [Around.under_plain (weight_type_call_type "set" [.ref l] []) rfl]
  have nt := F.called_set.notType
  have cc := F.called_set.canCreate
  have tc := F.typeCall_set_1 (.ref l)
  repeat (any_goals first | assumption | wp_step)
  refine codeAny_mono (code_set_led1 (.ref l) (E := E) (Q₁ := fun v s₁ => v = .ref s.heap.objs.size ∧ s₁ = { s with heap := s.heap.push (freshSet w) }) ⟨rfl, rfl⟩) fun r s₁ hr => ?_
  cases r with
  | error e => exact hr
  | ok fl =>
    cases fl with
    | ret v =>
      obtain ⟨rfl, rfl⟩ := hr
      have there : (s.heap.push (freshSet w)).get? s.heap.objs.size = some (freshSet w) := Heap.get?_push_size _ rfl
      have isSet : Shared.TypeIs { s with heap := s.heap.push (freshSet w) } (.ref s.heap.objs.size) "set" := ⟨_, there, rfl⟩
      have look := F.called_set.init.lookup
      have bind := F.called_set.init.bind (.ref s.heap.objs.size)
      repeat (any_goals first | assumption | wp_step)
      refine codeAny_mono (codeAny_call_builtin (R := wants (fun r s₂ => r = .none ∧ ∃ h' tk c, s₂ = { s with heap := h', toks := tk } ∧ SetR w h' s.heap.objs.size (fun j => decide (j ∈ ns)) c ∧ c ≤ ns.length ∧
          ∀ b o, s.heap.get? b = some o → h'.get? b = some o) E) F.called_set.init.plain F.entry_set_init (check_set_init_1 isSet ?_)) fun r₂ s₂ hr₂ => ?_
      · obtain ⟨ol, atl, cl, nl, dl⟩ := lst
        obtain ⟨kc, kd, kx, ks⟩ := ol
        simp only at cl dl
        subst cl; subst dl
        have atl' : (s.heap.push (freshSet w)).get? l = some { cls := .type "list", dict := kd, data := .seq items nl, slots := ks } := Heap.get?_push_of_some _ atl
        have s1 := F.sub_list_set
        have s2 := F.sub_list_frozenset
        have s3 : (Value.type "list" == Value.type "dict") = false := by decide
        have lst1 : (s.heap.push (freshSet w)).IsList l items := ⟨_, atl', rfl, nl, rfl⟩
        unfold Builtin.«set.__init__» noKeywords Builtin.Frozenset.updateFrom
        generalize hPI : pyIter = PI
        wp_walk
        subst hPI
        refine wpAny_pyIter_list lst1 ?_
        refine wpAny_bind (wpAny_runValue ?_)
        have below : l < s.heap.objs.size := Heap.lt_size atl
        have calm3 : A.in1.in1.in1.handled = none := by simp [calm]
        have sz1 : (s.heap.push (freshSet w)).objs.size = s.heap.objs.size + 1 := Heap.size_push ..
        have neIt : l ≠ (s.heap.push (freshSet w)).objs.size := by rw [sz1]; exact Nat.ne_of_lt (Nat.lt_succ_of_lt below)
        have off : s.heap.objs.size ∉ [(s.heap.push (freshSet w)).objs.size, l] := by
          rw [sz1]
          simp only [List.mem_cons, List.mem_singleton, List.not_mem_nil, or_false, not_or]
          exact ⟨Nat.ne_of_lt (Nat.lt_succ_self _), Nat.ne_of_gt below⟩
        have vals : ∀ (i : Nat) (v : Value), items[i]? = some v → ∃ k t, ns[i]? = some k ∧ v = .int k t := fun i v hv => by
          have hi : i < ns.length := by rw [← hsz]; exact (Array.getElem?_eq_some_iff.mp hv).1
          obtain ⟨t, e⟩ := PyProof.Rows.IntsAre.int_at hin i v (by rw [Array.getElem?_toList]; exact hv)
          exact ⟨ns[i], t, List.getElem?_eq_getElem hi, by rw [e, List.getD_eq_getElem?_getD, List.getElem?_eq_getElem hi]; rfl⟩
        refine set_update_ints ((Walks.list calm3 _ l neIt items).toS) s.heap.objs.size off ns hsz few vals (items.size - 0) 0 _ (by omega) (Nat.zero_le _) ⟨⟨_, Heap.get?_push_size _ rfl, rfl, rfl⟩, (lst1.push _)⟩ ⟨0, Nat.le_refl 0, setR_new_at (Heap.get?_push_of_some _ there)⟩ fun s' c' mv hc' hS' => ?_
        obtain ⟨h', g2, d', tk', os'⟩ := s'
        have eg : g2 = s.gens := mv.gens
        have ed : d' = s.drawn := mv.drawn
        have eo : os' = s.os := mv.os
        subst eg; subst ed; subst eo
        show wpAny _ _ _ _ _ _
        refine wpAny_pure ?_
        show wpAny _ _ (ret Value.none) _ _ _
        refine wpAny_pure ⟨rfl, h', tk', c', rfl, hS', by rw [← hsz]; exact hc', fun b o e => ?_⟩
        have b0 : b < s.heap.objs.size := Heap.lt_size e
        refine mv.heap b o ?_ (Heap.get?_push_of_some _ (Heap.get?_push_of_some _ e))
        simp only [List.mem_cons, List.mem_singleton, List.not_mem_nil, or_false, not_or]
        exact ⟨Nat.ne_of_lt b0, by rw [sz1]; exact Nat.ne_of_lt (Nat.lt_succ_of_lt b0)⟩
      · cases r₂ with
        | error e => exact hr₂
        | ok fl₂ =>
          cases fl₂ with
          | ret r =>
            obtain ⟨rfl, h', tk, c', rfl, a1, a2, a3⟩ := hr₂
            repeat (any_goals first | assumption | wp_step)
            exact fin _ _ _ a1 a2 a3
          | _ => exact hr₂.elim
    | _ => exact hr.elim
end
def rSetL' (K : PySem.W.Frag) (w : World) : List V → Hp → VK → Prop := fun xs H Q => ∃ (l : Addr) (ns : List Int), xs = [.ref l] ∧ SqL K H l (ns.map V.int) ∧ ns.length < 64 ∧
  ∀ p c, H p = none → c ≤ ns.length → Q (.ref p) (upd H p (SetO w p (fun k => decide (k ∈ ns)) c))
theorem cr_setL {X : Cx} (hc : X.calm = true) {K : PySem.W.Frag} {w : World} (hK : X.K = K := by rfl) (hw : X.w = w := by rfl) : CallR X (.type "set") (rSetL' K w) := by
  subst hK
  subst hw
  intro pins s σ H xs us Q I r h
  obtain ⟨l, ns, rfl, hl, h64, q⟩ := h
  rw [Vals.ref1 r]
  obtain ⟨its, rv, pl, hz⟩ := I.list hl
  have hi : IntsAre its ns := Vals.ints rv
  refine call_setL ns (I.ok.hd hc) pl.isList (by simpa using hi) (by unfold scanBound; omega) fun h' tk c R hcn k => ?_
  exact ⟨.ref s.heap.objs.size, upd H s.heap.objs.size (SetO X.w s.heap.objs.size (fun j => decide (j ∈ ns)) c), I.laid (t' := tk) k (Nat.le_refl _) (setO_new R), rfl, q _ c (I.hok.fresh (Nat.le_refl _)) hcn⟩
end Cr
/-! a < b of lists of whole numbers -/
namespace Cr
open PySem PySem.Spec PyProof.Rows L2
theorem first_map {e r : Nat → Bool} {fin : Bool} : ∀ l : List Nat, SeqAt.firstLt e r fin (l.map Nat.succ) = SeqAt.firstLt (fun j => e (j + 1)) (fun j => r (j + 1)) fin l
  | [] => rfl
  | j :: l => by
    show (if e (j + 1) = true then SeqAt.firstLt e r fin (l.map Nat.succ) else r (j + 1)) = if e (j + 1) = true then _ else r (j + 1)
    rw [first_map l]
theorem first_lex : ∀ ns ms : List Int, SeqAt.firstLt (fun j => decide (ns.getD j 0 = ms.getD j 0)) (fun j => decide (ns.getD j 0 < ms.getD j 0)) (decide (ns.length < ms.length)) (List.range (min ns.length ms.length)) = HT.lexLt ns ms
  | [], [] => rfl
  | [], m :: ms => by simp [SeqAt.firstLt, HT.lexLt]
  | n :: ns, [] => by simp [SeqAt.firstLt, HT.lexLt]
  | n :: ns, m :: ms => by
    have ih := first_lex ns ms
    have e : min (n :: ns).length (m :: ms).length = min ns.length ms.length + 1 := by simp only [List.length_cons]; omega
    rw [e, List.range_succ_eq_map, HT.lexLt_cons, ← ih]
    show (if decide (n = m) = true then SeqAt.firstLt _ _ _ ((List.range (min ns.length ms.length)).map Nat.succ) else decide (n < m)) = _
    by_cases h : n = m
    · subst h
      rw [if_pos (by simp), if_pos rfl, first_map]
      simp only [List.getD_cons_succ, List.length_cons, Nat.add_lt_add_iff_right]
    · rw [if_neg (by simpa using h), if_neg h]
def rLtL (K : PySem.W.Frag) : R2 := fun x y H Q => ∃ (a b : Addr) (ns ms : List Int), x = .ref a ∧ y = .ref b ∧ SqL K H a (ns.map V.int) ∧ SqL K H b (ms.map V.int) ∧ Q (.bl (HT.lexLt ns ms)) H
theorem op_ltL {X : Cx} (hu : X.A.units < cLine) : OpR X (compareOp .Lt) (rLtL X.K) := by
  intro pins s σ H x y v u Q I rx ry h
  obtain ⟨a, b, ns, ms, e1, e2, ha, hb, q⟩ := h
  subst e1
  subst e2
  cases rx
  cases ry
  obtain ⟨xs, r1, p1, _⟩ := I.list ha
  obtain ⟨ys, r2, p2, _⟩ := I.list hb
  have i1 : IntsAre xs ns := Vals.ints r1
  have i2 : IntsAre ys ms := Vals.ints r2
  have l1 : xs.toArray.size = ns.length := by rw [List.size_toArray]; exact i1.length
  have l2 : ys.toArray.size = ms.length := by rw [List.size_toArray]; exact i2.length
  have a1 : ∀ j (h1 : j < xs.toArray.size), ∃ t, xs.toArray[j] = .int (ns.getD j 0) t := fun j h1 => PyProof.Rows.IntsAre.int_at i1 _ _ (by simp at h1; simp [h1])
  have a2 : ∀ j (h1 : j < ys.toArray.size), ∃ t, ys.toArray[j] = .int (ms.getD j 0) t := fun j h1 => PyProof.Rows.IntsAre.int_at i2 _ _ (by simp at h1; simp [h1])
  have R := SeqAt.RcLt.lists (A := X.A) (s := s) (e := fun j => decide (ns.getD j 0 = ms.getD j 0)) (r := fun j => decide (ns.getD j 0 < ms.getD j 0)) p1.isList p2.isList hu (fun j h1 h2 => by
    obtain ⟨t, et⟩ := a1 j h1
    obtain ⟨t', et'⟩ := a2 j h2
    rw [et, et', ← Bool.beq_eq_decide_eq]
    exact SeqAt.EqAt.int_int _ _ _ _) (fun j h1 h2 _ => by
    obtain ⟨t, et⟩ := a1 j h1
    obtain ⟨t', et'⟩ := a2 j h2
    rw [et, et']
    exact fun _ _ _ _ h => lt_int h)
  rw [l1, l2, first_lex] at R
  have z : wpAny (model X.prog X.w) X.A (compareOp .Lt (.ref a) (.ref b)) (EP X pins σ Q) X.xe s := R X.prog X.w X.xe (EP X pins σ Q) ⟨.bl _, H, I, rfl, q⟩
  exact z
end Cr
namespace Cr
open PySem PySem.Spec PyProof.Rows L2 Evl
theorem Rt.up {α : Type} [Rep α] {He He' : Hp} {D : Ends} {a : α} (k : Rt He D a) (e : Ex He He') : Rt He' D a := fun v H e2 i => k v H (e.trans e2) i
theorem RtN.up {α : Type} [Rep α] {He He' : Hp} {D : Ends} {a : α} (k : RtN He D a) (e : Ex He He') : RtN He' D a := fun v H e2 n i => k v H (e.trans e2) (fun p z => fresh_back e (n p z)) i
theorem ints_ext {a b : List Int} (ha : a.Pairwise (· < ·)) (hb : b.Pairwise (· < ·)) (h : ∀ x, x ∈ a ↔ x ∈ b) : a = b := by
  have na : a.Nodup := ha.imp fun h => Int.ne_of_lt h
  have nb : b.Nodup := hb.imp fun h => Int.ne_of_lt h
  exact List.Perm.eq_of_pairwise (le := (· < ·)) (fun x y _ _ h1 h2 => by omega) ha hb ((List.perm_ext_iff_of_nodup na nb).mpr h)
section
variable {P : Program} {w : World} {K : PySem.W.Frag} {mg : Str → Option Value} {base : Heap} {C : Addr}
/-- sorted(set(l)) -/
theorem x_sset {He : Hp} {S : List Sl} {te : TE} {l s : List Int} (h : XD He S te l) (hz : l.length < 64) (hs : s.Pairwise (· < ·)) (hm : ∀ x, x ∈ s ↔ x ∈ l) : XN He S (tCB (rSortedSet w) (tCons (tCB (rSetL' K w) (tCons te tNil)) tNil)) s := fun σ H h1 Q q =>
  h σ H h1 _ fun v H1 e1 i1 => by
    obtain ⟨p, rfl, hp⟩ := ints_of i1
    refine ⟨p, l, rfl, SqL.of hp, hz, fun r c hr hc => ⟨r, _, c, rfl, upd_same, by omega, fun ns t ho hmem _ ht => ?_⟩⟩
    have es : ns = s := ints_ext ho hs fun x => by rw [hmem, hm]; simp
    subst es
    have ht' : H1 t = none := by
      by_cases z : t = r
      · subst z; exact hr
      · rw [upd_ne z] at ht; exact ht
    exact q _ _ (e1.trans ((Ex.new hr).trans (Ex.new ht))) (fun p z => by cases z; exact fresh_back e1 ht') (of_ints upd_same)
theorem fld_day (t : Valdgg.Trade) : (trT t).l[1]? = some (t.day : Int) := by
  show (tradeRow t)[1]? = _
  rw [trade_flds]; rfl
def sp_record_days : Sp := SpN (ι := List Valdgg.Trade) (fun i => [.sh (i.map trT)]) (fun i => i.length < 64) fun i => daysOf i
theorem tr_at {ts : List Valdgg.Trade} {j : Nat} {a : Tp} (h : (ts.map trT)[j]? = some a) : ∃ t, ts[j]? = some t ∧ a = trT t := by
  rw [List.getElem?_map] at h
  obtain ⟨t, h1, h2⟩ := Option.map_eq_some_iff.mp h
  exact ⟨t, h1, h2.symm⟩
theorem ok_record_days (T : Top K mg C) : Df P w K mg base "record_days" 1 ["live"] sp_record_days := by
  refine T.f_record_days.okN sc_record_days (fun _ => rfl) (fun _ => rfl) ?_
  intro i hpre f cdv A outer s H Q E hr
  refine ⟨_, (pss_one (ps_ret (pe_callB (cr_sortedSet rfl) (by rfl) T.b_sorted (by decide +kernel) (pa_cons (pe_callTy (cr_setL rfl) (by rfl) T.b_set (by decide +kernel) (pa_cons (pe_lc (own := [("record", 1)]) (g := gName 1) (tt := tYes) rfl sc_record_days.nd (pi_list (pv 0)) (blkOk_by (N := ["live", "record"]) (sc := defScope s_record_days) (by decide +kernel)) (fun _ _ _ _ _ => (pg_name (i := 1) sc_record_days.nd rfl (Or.inl rfl))) (fun _ _ _ _ _ => pts_nil) (fun _ _ _ _ _ => (pe_ix (ix_tupK rfl) (pv 1) pe_int (fun _ _ => rfl)))) pa_nil)) pa_nil)))), fun k => ?_⟩
  refine g_retN (XN.dns (x_sset (x_lcV (fun _ => true) (fun a : Tp => a.l.getD 1 0) (m := 0) rfl (by rw [List.length_map]; exact Nat.lt_trans hpre (by decide)) (fun _ _ _ _ _ => t_yes) fun H' e j a ha _ => ?_).d ?_ (s := (daysOf i).map fun n : Nat => (n : Int)) ?_ ?_) rfl) k
  · obtain ⟨t, _, rfl⟩ := tr_at ha
    refine (x_ixT (x_var (a := trT t) rfl) x_int (j := 1) ?_).int
    rw [fld_day, List.getD_eq_getElem?_getD, fld_day]; rfl
  · simp only [List.length_map, List.filter_eq_self.mpr fun _ _ => rfl]
    exact hpre
  · exact List.pairwise_map.mpr ((days_sorted i).imp fun h => by omega)
  · intro x
    rw [List.filter_eq_self.mpr fun _ _ => rfl, List.map_map, List.mem_map, List.mem_map]
    have ed : ∀ t : Valdgg.Trade, ((fun a : Tp => a.l.getD 1 0) ∘ trT) t = (t.day : Int) := fun t => by
      show (trT t).l.getD 1 0 = _
      rw [List.getD_eq_getElem?_getD, fld_day]; rfl
    constructor
    · rintro ⟨n, hn, rfl⟩
      obtain ⟨t, ht, rfl⟩ := List.mem_map.mp (mem_days.mp hn)
      exact ⟨t, ht, ed t⟩
    · rintro ⟨t, ht, rfl⟩
      exact ⟨t.day, mem_days.mpr (List.mem_map.mpr ⟨t, ht, rfl⟩), (ed t).symm⟩
/-! ### valid days -/
theorem take_any {α : Type} {l : List α} {i : Nat} {a : α} (f : α → Bool) (h : l[i]? = some a) (h1 : (l.take i).any f = false) (h2 : f a = false) : (l.take (i + 1)).any f = false := by
  rw [List.take_add_one, h, List.any_append, h1]
  simp [h2]
def sp_has_negative : Sp := SpD (ι := VT) (fun i => [.sh i]) (fun _ => True) fun i => hasNeg i
theorem ok_has_negative (T : Top K mg C) : Df P w K mg base "has_negative" 1 ["table"] sp_has_negative := by
  refine T.f_has_negative.okD sc_has_negative (fun _ => rfl) (fun _ => rfl) ?_
  intro i hpre f cdv A outer s H Q E hr
  refine ⟨_, (pss_cons (ps_for PassesOwn.never rfl (pi_list (pv 0)) (pg_name (i := 1) sc_has_negative.nd rfl (Or.inl rfl)) (pss_one (ps_for PassesOwn.never rfl (pi_list (pv 1)) (pg_name (i := 2) sc_has_negative.nd rfl (Or.inl rfl)) (pss_one (ps_if (pt_cmpR op_lt (pv 2) pe_int (nomark _)) (pss_one (ps_ret pe_bl)) pss_nil)))))
        (pss_one (ps_ret pe_bl))), fun k => ?_⟩
  refine q_forVP (fun j => (i.take j).any (fun row => row.any fun x => decide (x < 0)) = false) (fun _ => [.sh i, .any, .any]) rfl (by simp) (Weak.refl _) (fun H1 e1 j row hr hp => ?_) fun hp => ?_
  · refine g_forVP (m := 1) (l := row) (fun m => (row.take m).any (fun x => decide (x < 0)) = false) (fun _ => [.sh i, .sh row, .any]) rfl (by simp) (Weak.refl _) (fun H2 e2 m x hx hq => ?_) fun hq => ?_
    · refine g_if (t_test (x_lt (x_var (i := 2) (a := x) rfl) x_int)) (fun hb => g_ret (x_bool.eq ?_) (Rt.up (by exact k) (e1.trans e2))) fun hb => g_next fun σ H hs => ⟨take_any _ hx hq hb, hs.weak ⟨.inl rfl, .inl rfl, .inr rfl, trivial⟩⟩
      exact (List.any_eq_true.mpr ⟨row, List.mem_of_getElem? hr, List.any_eq_true.mpr ⟨x, List.mem_of_getElem? hx, hb⟩⟩).symm
    · rw [List.take_length] at hq
      exact fun σ H hs => ⟨take_any _ hr hp hq, hs.weak ⟨.inl rfl, .inr rfl, .inl rfl, trivial⟩⟩
  · rw [List.take_length] at hp
    exact g_ret (x_bool.eq hp.symm) k
def sp_has_excess : Sp := SpD (ι := VT × List Nat) (fun i => [.sh i.1, .sh i.2]) (fun i => Sq i.1 ∧ (∀ c ∈ i.2, c < i.1.length) ∧ i.1.length < 100000) fun i => hasEx i.1 i.2
theorem ok_has_excess (T : Top K mg C) : Df P w K mg base "has_excess" 2 ["table", "companies"] sp_has_excess := by
  have d_all_held := ok_all_held (P := P) (w := w) (base := base) T
  refine T.f_has_excess.okD sc_has_excess (fun _ => rfl) (fun _ => rfl) ?_
  intro i hpre f cdv A outer s H Q E hr
  refine ⟨_, (pss_cons (ps_for PassesOwn.never rfl (pi_list (pv 1)) (pg_name (i := 2) sc_has_excess.nd rfl (Or.inl rfl)) (pss_one (ps_if (pt_cmpR op_gt (pe_df d_all_held (hr.mono (by decide)) rfl (pa_cons (pv 0) (pa_cons (pv 2) pa_nil))) pe_int (nomark _)) (pss_one (ps_ret pe_bl)) pss_nil)))
        (pss_one (ps_ret pe_bl))), fun k => ?_⟩
  obtain ⟨t, cs⟩ := i
  obtain ⟨hs, hc, hz⟩ := hpre
  refine q_forVP (m := 1) (l := cs) (fun j => (cs.take j).any (fun c => decide (100 < Valdgg.heldIn t (List.range t.length) c)) = false) (fun _ => [.sh t, .sh cs, .any]) rfl (by simp) (Weak.refl _) (fun H1 e1 j c hr hp => ?_) fun hp => ?_
  · refine g_if (t_test (x_gt (x_cD (t, c) (xa_cons (x_var rfl) (xa_cons (x_var rfl) xa_nil)) ⟨hs, hc c (List.mem_of_getElem? hr), hz⟩) x_int)) (fun hb => g_ret (x_bool.eq ?_) (Rt.up (by exact k) e1)) fun hb => g_next fun σ H h2 => ⟨take_any _ hr hp hb, h2.weak ⟨.inl rfl, .inl rfl, .inr rfl, trivial⟩⟩
    exact (List.any_eq_true.mpr ⟨c, List.mem_of_getElem? hr, hb⟩).symm
  · rw [List.take_length] at hp
    exact g_ret (x_bool.eq hp.symm) k
def sp_greatest_closed_set : Sp := SpD (ι := VT × List Nat) (fun i => [.sh i.1, .sh i.2]) (fun i => Sq i.1 ∧ (∀ c ∈ i.2, c < i.1.length) ∧ i.2.length < 100000) fun i => Valdgg.closedPart i.1 i.2.length i.2
theorem ok_greatest_closed_set (T : Top K mg C) : Df P w K mg base "greatest_closed_set" 2 ["table", "companies"] sp_greatest_closed_set := by
  have d_held_in := ok_held_in (P := P) (w := w) (base := base) T
  refine T.f_greatest_closed_set.okD sc_greatest_closed_set (fun _ => rfl) (fun _ => rfl) ?_
  intro i hpre f cdv A outer s H Q E hr
  refine ⟨_, (pss_cons (ps_set (i := 2) sc_greatest_closed_set.nd rfl (Or.inr rfl) (pe_callTy (call_listK rfl) (by rfl) T.b_list (by decide +kernel) (pa_cons (pv 1) pa_nil)))
        (pss_cons (ps_for PassesOwn.never rfl (pi_range1 rfl T.b_range (pa_cons (pe_callB call_len_seq (by rfl) T.b_len (by decide +kernel) (pa_cons (pv 1) pa_nil)) pa_nil)) (pg_name (i := 3) sc_greatest_closed_set.nd rfl (Or.inl rfl)) (pss_one (ps_set (i := 2) sc_greatest_closed_set.nd rfl (Or.inr rfl) (pe_lc (own := [("company", 4)]) (g := gName 4) rfl sc_greatest_closed_set.nd (pi_list (pv 2)) (blkOk_by (N := ["table", "companies", "closed", "turn", "company"]) (sc := defScope s_greatest_closed_set) (by decide +kernel)) (fun _ _ _ _ _ => (pg_name (i := 4) sc_greatest_closed_set.nd rfl (Or.inl rfl))) (fun _ _ _ _ _ => (pts_one (pt_cmpR op_eq (pe_df d_held_in (hr.mono (by decide)) rfl (pa_cons (pv 0) (pa_cons (pv 2) (pa_cons (pv 4) pa_nil)))) pe_int (nomark _)))) (fun _ _ _ _ _ => (pv 4))))))
        (pss_one (ps_ret (pv 2))))), fun k => ?_⟩
  obtain ⟨t, cs⟩ := i
  obtain ⟨hs, hc, hz⟩ := hpre
  have hz : cs.length < 100000 := hz
  refine q_set (x_list (x_var (a := cs) rfl)).d (q_range (n := cs.length) (fun j => [.sh t, .sh cs, .sh (Valdgg.closedPart t j cs), .any, .any]) (xa_cons (x_len (x_var (a := cs) rfl)) xa_nil) (Nat.le_of_lt hz) (Weak.refl _) (fun j hj => ?_) (g_ret (x_var rfl) k))
  have hl : (Valdgg.closedPart t j cs).length < 100000 := Nat.lt_of_le_of_lt (closed_len t j cs) hz
  have hsub := closed_sub t j cs
  refine g_set (XD.eq (x_lcV (m := 2) (l := Valdgg.closedPart t j cs) (fun c => decide (Valdgg.heldIn t (Valdgg.closedPart t j cs) c = 100)) (fun c => c) rfl hl (fun H' e m c hm => t_test (x_eq (x_cD (t, Valdgg.closedPart t j cs, c) (xa_cons (x_var rfl) (xa_cons (x_var rfl) (xa_cons (x_var rfl) xa_nil))) ⟨hs, fun k hk => hc k (hsub k hk), hc c (hsub c (List.mem_of_getElem? hm)), hl⟩) x_int)) fun H' e m c hm _ => (x_var (a := c) rfl).nat).d ?_) fun σ H h2 => h2.weak ⟨.inl rfl, .inl rfl, .inl rfl, .inr rfl, .inl rfl, trivial⟩
  rw [List.map_id', closed_succ]
  congr 1
def sp_is_valid : Sp := SpD (ι := List Bool × List Valdgg.Trade × Nat) (fun i => [.sh i.1, .sh (i.2.1.map trT), .sh i.2.2]) (fun i => i.1.length ≤ 1000 ∧ InP i.1 i.2.1) fun i => validT i.1 i.2.1 i.2.2
theorem ok_is_valid (T : Top K mg C) : Df P w K mg base "is_valid" 3 ["parties", "live", "day"] sp_is_valid := by
  have d_holdings_on := ok_holdings_on (P := P) (w := w) (base := base) T
  have d_companies_of := ok_companies_of (P := P) (w := w) (base := base) T
  have d_has_negative := ok_has_negative (P := P) (w := w) (base := base) T
  have d_has_excess := ok_has_excess (P := P) (w := w) (base := base) T
  have d_greatest_closed_set := ok_greatest_closed_set (P := P) (w := w) (base := base) T
  refine T.f_is_valid.okD sc_is_valid (fun _ => rfl) (fun _ => rfl) ?_
  intro i hpre f cdv A outer s H Q E hr
  refine ⟨_, (pss_cons (ps_set (i := 3) sc_is_valid.nd rfl (Or.inl rfl) (pe_df d_holdings_on (hr.mono (by decide)) rfl (pa_cons (pv 0) (pa_cons (pv 1) (pa_cons (pv 2) pa_nil)))))
        (pss_cons (ps_set (i := 4) sc_is_valid.nd rfl (Or.inl rfl) (pe_df d_companies_of (hr.mono (by decide)) rfl (pa_cons (pv 0) pa_nil)))
        (pss_cons (ps_if (pt_val (pe_df d_has_negative (hr.mono (by decide)) rfl (pa_cons (pv 3) pa_nil))) (pss_one (ps_ret pe_bl)) pss_nil)
        (pss_cons (ps_if (pt_val (pe_df d_has_excess (hr.mono (by decide)) rfl (pa_cons (pv 3) (pa_cons (pv 4) pa_nil)))) (pss_one (ps_ret pe_bl)) pss_nil)
        (pss_one (ps_ret (pe_cmpR op_eq (pe_callB call_len_seq (by rfl) T.b_len (by decide +kernel) (pa_cons (pe_df d_greatest_closed_set (hr.mono (by decide)) rfl (pa_cons (pv 3) (pa_cons (pv 4) pa_nil))) pa_nil)) pe_int (nomark _)))))))), fun k => ?_⟩
  obtain ⟨ps, ts, day⟩ := i
  obtain ⟨hn, hi⟩ := hpre
  have hn : ps.length ≤ 1000 := hn
  have hcs : ∀ c ∈ comps ps, c < (tabOf ps.length ts day).length := fun c hc => by rw [tab_len]; exact comps_lt hc
  refine q_set (x_cD (ps, ts, day) (xa_cons (x_var rfl) (xa_cons (x_var rfl) (xa_cons (x_var rfl) xa_nil))) ⟨hn, hi.two⟩) ?_
  refine q_set (x_cN ps (xa_cons (x_var rfl) xa_nil) (by omega)).d ?_
  refine q_code (t_B (x_cD (tabOf ps.length ts day) (xa_cons (x_var rfl) xa_nil) trivial)) x_bool (fun hb => (valid_neg hi hb).symm) k fun hb => ?_
  refine q_code (t_B (x_cD (tabOf ps.length ts day, comps ps) (xa_cons (x_var rfl) (xa_cons (x_var rfl) xa_nil)) ⟨tab_sq _ _ _, hcs, by rw [tab_len]; omega⟩)) x_bool (fun hc => (valid_ex hc).symm) k fun hc => ?_
  refine g_ret (XD.eq (x_eq (x_len (x_cD (tabOf ps.length ts day, comps ps) (xa_cons (x_var rfl) (xa_cons (x_var rfl) xa_nil)) ⟨tab_sq _ _ _, hcs, ?_⟩)) x_int) ?_) k
  · have := comps_len ps
    show (comps ps).length < 100000
    omega
  · refine Eq.trans ?_ (valid_cl hb hc).symm
    congr 1
    rw [eq_iff_iff]
    show ((Valdgg.closedPart (tabOf ps.length ts day) (comps ps).length (comps ps)).length : Int) = 0 ↔ _
    omega
/-! ### control -/
def sp_added_companies : Sp := SpN (ι := VT × List Nat × List Nat) (fun i => [.sh i.1, .sh i.2.1, .sh i.2.2]) (fun i => Sq i.1 ∧ (∀ c ∈ i.2.1, c < i.1.length) ∧ (∀ c ∈ i.2.2, c < i.1.length) ∧ i.2.1.length < 100000 ∧ i.2.2.length < 100000) fun i => newC i.2.1 i.1 i.2.2
theorem ok_added_companies (T : Top K mg C) : Df P w K mg base "added_companies" 2 ["table", "companies", "members"] sp_added_companies := by
  have d_held_in := ok_held_in (P := P) (w := w) (base := base) T
  refine T.f_added_companies.okN sc_added_companies (fun _ => rfl) (fun _ => rfl) ?_
  intro i hpre f cdv A outer s H Q E hr
  refine ⟨_, (pss_cons (ps_set (i := 3) sc_added_companies.nd rfl (Or.inl rfl) (pe_lst pa_nil))
        (pss_cons (ps_for PassesOwn.never rfl (pi_list (pv 1)) (pg_name (i := 4) sc_added_companies.nd rfl (Or.inl rfl)) (pss_one (ps_if (pt_of (pw_and (pt_cmpR op_notIn_seq (pv 4) (pv 2) rfl) (pw_and1 (pt_cmpR op_gt (pe_df d_held_in (hr.mono (by decide)) rfl (pa_cons (pv 0) (pa_cons (pv 2) (pa_cons (pv 4) pa_nil)))) pe_int (nomark _))))) (pss_one (ps_expr (pe_bm PySem.F.plainAttrs_list PySem.F.slot_list_append PySem.F.type_list_append mt_append (pv 3) (pa_cons (pv 4) pa_nil)))) pss_nil)))
        (pss_one (ps_ret (pv 3))))), fun k => ?_⟩
  obtain ⟨t, cs, ms⟩ := i
  obtain ⟨hs, hc, hm, hz, hz2⟩ := hpre
  have hz : cs.length < 100000 := hz
  refine q_nil (α := Nat) (q_forV (m := 1) (l := cs) (fun j => [.sh t, .sh cs, .sh ms, .own (newC (cs.take j) t ms), .any]) rfl (Weak.refl _) (fun H1 e1 j c hr => ?_) (g_retO rfl ?_))
  · have hcc := hc c (List.mem_of_getElem? hr)
    have hlen : (newC (cs.take j) t ms).length < 100000 := Nat.lt_of_le_of_lt (List.length_filter_le _ _) (by rw [List.length_take]; omega)
    refine g_if (b := !ms.contains c && decide (Valdgg.majority < Valdgg.heldIn t ms c)) ((t_and (t_test (x_notInN (x_var (a := c) rfl) (x_var (a := ms) rfl))) fun _ => t_test (x_gt (x_cD (t, ms, c) (xa_cons (x_var rfl) (xa_cons (x_var rfl) (xa_cons (x_var rfl) xa_nil))) ⟨hs, hm, hcc, hz2⟩) x_int)).eq ?_) (fun hb => ?_) fun hb => ?_
    · congr 2
      rw [Bool.eq_iff_iff, decide_eq_true_eq, List.contains_iff_mem]
    · refine g_app (a := c) rfl (x_var rfl) hlen fun σ H h2 => h2.weak ⟨.inl rfl, .inl rfl, .inl rfl, .inl ?_, .inr rfl, trivial⟩
      congr 1
      unfold newC
      rw [List.take_add_one, hr, List.filter_append]
      congr 1
      show List.filter _ [c] = [c]
      rw [List.filter_cons, if_pos hb]; rfl
    · refine g_next fun σ H h2 => h2.weak ⟨.inl rfl, .inl rfl, .inl rfl, .inl ?_, .inr rfl, trivial⟩
      congr 1
      unfold newC
      rw [List.take_add_one, hr, List.filter_append]
      show _ ++ List.filter _ [c] = _
      rw [List.filter_cons, if_neg (by rw [hb]; exact Bool.false_ne_true)]
      exact List.append_nil _
  · rw [List.take_length]; exact k
/-- a row of control_rows -/
def ctT (z : Nat × Nat × Int) : Tp := ⟨[(z.1 : Int), (z.2.1 : Int), z.2.2]⟩
def sp_control_rows : Sp := SpN (ι := VT × List Bool × Nat) (fun i => [.sh i.1, .sh i.2.1, .sh i.2.2]) (fun i => Sq i.1 ∧ i.1.length = i.2.1.length ∧ i.2.2 < i.1.length ∧ i.1.length ≤ 1000) fun i => (ctl i.2.1 i.1 i.2.2).map ctT
theorem ok_control_rows (T : Top K mg C) : Df P w K mg base "control_rows" 3 ["table", "parties", "party"] sp_control_rows := by
  have d_companies_of := ok_companies_of (P := P) (w := w) (base := base) T
  have d_added_companies := ok_added_companies (P := P) (w := w) (base := base) T
  have d_held_in := ok_held_in (P := P) (w := w) (base := base) T
  refine T.f_control_rows.okN sc_control_rows (fun _ => rfl) (fun _ => rfl) ?_
  intro i hpre f cdv A outer s H Q E hr
  refine ⟨_, (pss_cons (ps_set (i := 3) sc_control_rows.nd rfl (Or.inl rfl) (pe_df d_companies_of (hr.mono (by decide)) rfl (pa_cons (pv 1) pa_nil)))
        (pss_cons (ps_set (i := 4) sc_control_rows.nd rfl (Or.inl rfl) (pe_lst (pa_cons (pv 2) pa_nil)))
        (pss_cons (ps_set (i := 5) sc_control_rows.nd rfl (Or.inl rfl) (pe_lst pa_nil))
        (pss_cons (ps_for PassesOwn.never rfl (pi_range2 rfl T.b_range (pa_cons pe_int (pa_cons (pe_op op_add (pe_callB call_len_seq (by rfl) T.b_len (by decide +kernel) (pa_cons (pv 3) pa_nil)) pe_int) pa_nil))) (pg_name (i := 6) sc_control_rows.nd rfl (Or.inl rfl)) (pss_cons (ps_set (i := 7) sc_control_rows.nd rfl (Or.inl rfl) (pe_df d_added_companies (hr.mono (by decide)) rfl (pa_cons (pv 0) (pa_cons (pv 3) (pa_cons (pv 4) pa_nil)))))
        (pss_cons (ps_for PassesOwn.never rfl (pi_list (pv 7)) (pg_name (i := 8) sc_control_rows.nd rfl (Or.inl rfl)) (pss_one (ps_expr (pe_bm PySem.F.plainAttrs_list PySem.F.slot_list_append PySem.F.type_list_append mt_append (pv 5) (pa_cons (pe_tup (pa_cons (pv 8) (pa_cons (pv 6) (pa_cons (pe_df d_held_in (hr.mono (by decide)) rfl (pa_cons (pv 0) (pa_cons (pv 4) (pa_cons (pv 8) pa_nil)))) pa_nil)))) pa_nil)))))
        (pss_one (ps_set (i := 4) sc_control_rows.nd rfl (Or.inl rfl) (pe_op op_cat (pv 4) (pv 7)))))))
        (pss_one (ps_ret (pv 5))))))), fun k => ?_⟩
  obtain ⟨t, ps, p⟩ := i
  obtain ⟨hs, he, hp, hn⟩ := hpre
  have he : t.length = ps.length := he
  have hp : p < t.length := hp
  have hn : t.length ≤ 1000 := hn
  have hcl := comps_len ps
  have hcs : ∀ c ∈ comps ps, c < t.length := fun c hc => by rw [he]; exact comps_lt hc
  have hms : ∀ i, ∀ c ∈ memN (comps ps) t p i, c < t.length := fun i c hc => by
    rcases mem_memN.mp hc with rfl | hc
    · exact hp
    · obtain ⟨z, hz, rfl⟩ := List.mem_map.mp hc
      exact hcs _ (rows_sub hz)
  have hml : ∀ i, (memN (comps ps) t p i).length ≤ 1001 := fun i => by
    have := rows_len (compsL_nodup ps) (h := t) (p := p) i
    rw [memN_len]; omega
  refine q_set (x_cN ps (xa_cons (x_var rfl) xa_nil) (by omega)).d ?_
  refine q_set (a := [p]) (XN.dns (x_lst (l := [(p : Int)]) (xa_cons (x_var (a := p) rfl).up xa_nil)) rfl).d ?_
  refine q_nil (α := Tp) ?_
  refine q_range2 (lo := 1) (n := (comps ps).length) (fun j => [.sh t, .sh ps, .sh p, .sh (comps ps), .sh (memN (comps ps) t p j), .own ((rowN (comps ps) t p j).map ctT), .any, .any, .any]) (xa_cons x_int (xa_cons ((x_add (x_len (x_var (a := comps ps) rfl)) x_int).eq (by show ((comps ps).length : Int) + 1 = ((1 + (comps ps).length : Nat) : Int); omega)) xa_nil)) (by omega) (Weak.refl _) (fun j hj => ?_) (g_retO rfl ?_)
  · have hnl : ∀ m, (newC (comps ps) t m).length ≤ (comps ps).length := fun m => List.length_filter_le _ _
    refine q_setN 5 (x_cN (t, comps ps, memN (comps ps) t p j) (xa_cons (x_var rfl) (xa_cons (x_var rfl) (xa_cons (x_var rfl) xa_nil))) ⟨hs, hcs, hms j, by show (comps ps).length < 100000; omega, Nat.lt_of_le_of_lt (hml j) (by decide)⟩) ?_
    refine q_forV (m := 7) (l := newC (comps ps) t (memN (comps ps) t p j)) (fun m => [.sh t, .sh ps, .sh p, .sh (comps ps), .sh (memN (comps ps) t p j), .own ((rowN (comps ps) t p j ++ ((newC (comps ps) t (memN (comps ps) t p j)).take m).map fun c => (c, j + 1, Valdgg.heldIn t (memN (comps ps) t p j) c)).map ctT), .sh (1 + j), .sh (newC (comps ps) t (memN (comps ps) t p j)), .any]) rfl ⟨.inl rfl, .inl rfl, .inl rfl, .inl rfl, .inl rfl, .inl ?_, .inl rfl, .inl rfl, .inl rfl, trivial⟩ (fun H1 e1 m c hr => ?_) ?_
    · rw [List.take_zero, List.map_nil, List.append_nil]
    · have hcc := hcs c (new_sub (List.mem_of_getElem? hr)).1
      refine g_app (a := ctT (c, j + 1, Valdgg.heldIn t (memN (comps ps) t p j) c)) rfl (XD.eq (x_tup (l := [(c : Int), ((1 + j : Nat) : Int), Valdgg.heldIn t (memN (comps ps) t p j) c]) (xa_cons (x_var (i := 8) (a := c) rfl).up (xa_cons (x_var (i := 6) (a := 1 + j) rfl).up (xa_cons (x_cD (t, memN (comps ps) t p j, c) (xa_cons (x_var rfl) (xa_cons (x_var rfl) (xa_cons (x_var rfl) xa_nil))) ⟨hs, hms j, hcc, Nat.lt_of_le_of_lt (hml j) (by decide)⟩) xa_nil)))).d ?_) ?_ fun σ H h2 => h2.weak ⟨.inl rfl, .inl rfl, .inl rfl, .inl rfl, .inl rfl, .inl ?_, .inl rfl, .inl rfl, .inr rfl, trivial⟩
      · show Tp.mk _ = Tp.mk _
        rw [Nat.add_comm 1 j]
      · rw [List.length_map, List.length_append, List.length_map, List.length_take]
        have h1 := rows_len (compsL_nodup ps) (h := t) (p := p) j
        have h2 := hnl (memN (comps ps) t p j)
        omega
      · congr 1
        rw [List.take_add_one, hr, List.map_append, List.map_append, List.map_append, List.map_append, ← List.append_assoc]; rfl
    · rw [List.take_length]
      refine g_setN 5 (x_cat (x_var (a := memN (comps ps) t p j) rfl) (x_var (a := newC (comps ps) t (memN (comps ps) t p j)) rfl) ?_) fun σ H h2 => h2.weak ⟨.inl rfl, .inl rfl, .inl rfl, .inl rfl, .inl rfl, .inl rfl, .inr rfl, .inr rfl, .inr rfl, trivial⟩
      have h2 := hnl (memN (comps ps) t p j)
      have h3 := hml j
      omega
  · rw [← ctl_eq]; exact k
def sp_controlled_by : Sp := SpN (ι := VT × List Bool × Nat) (fun i => [.sh i.1, .sh i.2.1, .sh i.2.2]) (fun i => Sq i.1 ∧ i.1.length = i.2.1.length ∧ i.2.2 < i.1.length ∧ i.1.length ≤ 1000) fun i => ctlBy i.2.1 i.1 i.2.2
theorem ok_controlled_by (T : Top K mg C) : Df P w K mg base "controlled_by" 4 ["table", "parties", "party"] sp_controlled_by := by
  have d_control_rows := ok_control_rows (P := P) (w := w) (base := base) T
  refine T.f_controlled_by.okN sc_controlled_by (fun _ => rfl) (fun _ => rfl) ?_
  intro i hpre f cdv A outer s H Q E hr
  refine ⟨_, (pss_one (ps_ret (pe_callB cr_sortedI (by rfl) T.b_sorted (by decide +kernel) (pa_cons (pe_lc (own := [("row", 3)]) (g := gName 3) (tt := tYes) rfl sc_controlled_by.nd (pi_list (pe_df d_control_rows (hr.mono (by decide)) rfl (pa_cons (pv 0) (pa_cons (pv 1) (pa_cons (pv 2) pa_nil))))) (blkOk_by (N := ["table", "parties", "party", "row"]) (sc := defScope s_controlled_by) (by decide +kernel)) (fun _ _ _ _ _ => (pg_name (i := 3) sc_controlled_by.nd rfl (Or.inl rfl))) (fun _ _ _ _ _ => pts_nil) (fun _ _ _ _ _ => (pe_ix (ix_tupK rfl) (pv 3) pe_int (fun _ _ => rfl)))) pa_nil)))), fun k => ?_⟩
  obtain ⟨t, ps, p⟩ := i
  have hcl := comps_len ps
  have hn : t.length ≤ 1000 := hpre.2.2.2
  have he : t.length = ps.length := hpre.2.1
  have hl : (ctl ps t p).length ≤ (comps ps).length := by rw [ctl_eq]; exact rows_len (compsL_nodup ps) _
  refine g_retN (XN.dns (x_sorted (x_lcD (fun _ => true) (fun a : Tp => a.l.getD 0 0) (x_cN (t, ps, p) (xa_cons (x_var rfl) (xa_cons (x_var rfl) (xa_cons (x_var rfl) xa_nil))) hpre).d ?_ (fun _ _ _ _ _ => t_yes) fun H' e j a ha _ => ?_).d (s := (ctlBy ps t p).map fun n : Nat => (n : Int)) ?_ ?_) rfl) k
  · show ((ctl ps t p).map ctT).length < 100000
    rw [List.length_map]; omega
  · rw [List.getElem?_map] at ha
    obtain ⟨z, _, rfl⟩ := Option.map_eq_some_iff.mp ha
    exact (x_ixT (x_var (a := ctT z) rfl) x_int (j := 0) rfl).int
  · rw [List.filter_eq_self.mpr fun _ _ => rfl]
    show List.Perm _ (((ctl ps t p).map ctT).map _)
    rw [List.map_map]
    have := (ctlBy_perm ps t p).map fun n : Nat => (n : Int)
    rw [List.map_map] at this
    exact this
  · exact List.pairwise_map.mpr ((ctlBy_sorted ps t p).imp fun h => by omega)
end
end Cr
namespace Cr
open PySem PySem.Spec PyProof.Rows L2 Evl
/-! ### more rules: displays of one thing, tuples taken apart -/
section
variable {He : Hp} {S T : List Sl} {K : PySem.W.Frag} {te ta tb tc : TE} {D : Ends} {ts tz tw : TS}
theorem x_lst1 {α : Type} [Rep α] {a : α} (h : XD He S te a) : XN He S (tLst (tCons te tNil)) [a] := fun σ H hs Q q =>
  h σ H hs _ fun v H1 e i => ⟨by show 1 ≤ sizeLine; decide, fun r hr => q _ _ (e.trans (Ex.new hr)) (fun p z => by cases z; exact fresh_back e hr) ⟨r, [v], rfl, upd_same, All2.cons (Rep.mono (Ex.new hr) i) All2.nil⟩⟩
theorem x_half {n : Nat} (h : XD He S te (n : Int)) : XD He S (tOp (rI CDiv fun i j => .int (i / j)) te (tC (.int 2))) ((n : Int) / 2) := x_I h x_int ⟨by decide, by decide⟩ fun _ => rfl
theorem tup_at {H : Hp} {v : V} {t : Tp} (h : Rep.is H v t) : ∃ a, v = .ref a ∧ SqT K H a (t.l.map .int) := by
  obtain ⟨p, h1, h2⟩ := h
  exact ⟨p, h1, SqT.of h2⟩
/-- a, b = e -/
theorem q_unp2 {i j : Nat} {x y : Int} (h : XD He S te (Tp.mk [x, y])) (k : Go He ((S.set i (.sh x)).set j (.sh y)) tz D) (no : S.all notOwn = true := by rfl) : Go He S (tSeq (tAsg te (gTup K 2 (gCons (gName i) (gCons (gName j) gNil)))) tz) D := fun σ H hs =>
  h σ H hs _ fun v H1 e1 i1 => by
    obtain ⟨a, rfl, ha⟩ := tup_at (K := K) i1
    refine ⟨a, _, rfl, ha, rfl, _, _, rfl, _, _, rfl, rfl, k _ _ ?_⟩
    obtain ⟨H0, x1, x2, x3, x4⟩ := (hs.mono e1).splitD no
    have b : Holds H1 S σ H1 := ⟨H0, x1, x2, x3, x4⟩
    exact ((b.setB i (a := x) (v := .int x) rfl).setB j (a := y) (v := .int y) rfl).low (hs.ex.trans e1)
theorem q_unp5 {m i1 i2 i3 i4 i5 : Nat} {x1 x2 x3 x4 x5 : Int} (hm : S[m]? = some (.sh (Tp.mk [x1, x2, x3, x4, x5]))) (k : Go He (((((S.set i1 (.sh x1)).set i2 (.sh x2)).set i3 (.sh x3)).set i4 (.sh x4)).set i5 (.sh x5)) tz D) :
    Go He S (tSeq (tAsg (tVar m) (gTup K 5 (gCons (gName i1) (gCons (gName i2) (gCons (gName i3) (gCons (gName i4) (gCons (gName i5) gNil))))))) tz) D := fun σ H hs => by
  obtain ⟨He', v, e, y1, y2, h2, r⟩ := hs.splitV hm
  obtain ⟨a, rfl, ha⟩ := tup_at (K := K) (Rep.mono y2 r)
  refine ⟨_, e, a, _, rfl, ha, rfl, _, _, rfl, _, _, rfl, _, _, rfl, _, _, rfl, _, _, rfl, rfl, k _ _ ?_⟩
  exact (((((h2.setB i1 (a := x1) (v := .int x1) rfl).setB i2 (a := x2) (v := .int x2) rfl).setB i3 (a := x3) (v := .int x3) rfl).setB i4 (a := x4) (v := .int x4) rfl).setB i5 (a := x5) (v := .int x5) rfl).low y1
/-- for a, b, c in v -/
theorem q_forT3 {m i1 i2 i3 : Nat} {α : Type} {l : List α} (f : α → Tp) (g1 g2 g3 : α → Int) (hf : ∀ a ∈ l, (f a).l = [g1 a, g2 a, g3 a]) (Sv : Nat → List Sl) (hm : S[m]? = some (.sh (l.map f))) (h0 : Weak S (Sv 0))
    (hs : ∀ (He' : Hp), Ex He He' → ∀ (i : Nat) (a : α), l[i]? = some a → Go He' ((((Sv i).set i1 (.sh (g1 a))).set i2 (.sh (g2 a))).set i3 (.sh (g3 a))) ts { D with nx := HP He' (Sv (i + 1)), ct := HP He' (Sv (i + 1)), bk := tz D }) (hd : Go He (Sv l.length) tz D) :
    Go He S (tSeq (tFor (iList K (tVar m)) (gTup K 3 (gCons (gName i1) (gCons (gName i2) (gCons (gName i3) gNil)))) ts) tz) D := fun σ H h1 => by
  obtain ⟨He', v, e, x1, x2, h2, r⟩ := h1.splitV hm
  obtain ⟨q, xs, rfl, hq, hx⟩ := id r
  have hat : ∀ (i : Nat) (b : Tp), (l.map f)[i]? = some b → ∃ a, l[i]? = some a ∧ b = f a := fun i b hb => by
    rw [List.getElem?_map] at hb
    obtain ⟨a, h1, h2⟩ := Option.map_eq_some_iff.mp hb
    exact ⟨a, h1, h2.symm⟩
  refine ⟨_, e, for_core (D := { D with nx := tz D }) Sv (fun i b => (((Sv i).set i1 (.sh (b.l.getD 0 0))).set i2 (.sh (b.l.getD 1 0))).set i3 (.sh (b.l.getD 2 0))) r (h2.weak h0) (fun i b x σ' H' Q hb r p k => ?_) (fun i b hb => ?_) fun σ' H' p => hd σ' H' (by rw [List.length_map] at p; exact p.low x1)⟩
  · obtain ⟨a, ha, rfl⟩ := hat i b hb
    have hl := hf a (List.mem_of_getElem? ha)
    obtain ⟨a', rfl, ha'⟩ := tup_at (K := K) (Rep.mono p.ex r)
    rw [hl] at ha'
    refine ⟨a', _, rfl, ha', rfl, _, _, rfl, _, _, rfl, _, _, rfl, rfl, k _ _ ?_⟩
    rw [hl]
    exact ((p.setB i1 (a := g1 a) (v := .int (g1 a)) rfl).setB i2 (a := g2 a) (v := .int (g2 a)) rfl).setB i3 (a := g3 a) (v := .int (g3 a)) rfl
  · obtain ⟨a, ha, rfl⟩ := hat i b hb
    rw [hf a (List.mem_of_getElem? ha)]
    exact hs He' x1 i a ha
end
section
variable {P : Program} {w : World} {K : PySem.W.Frag} {mg : Str → Option Value} {base : Heap} {C : Addr}
/-! ### new records -/
def sp_deed_code (C : Addr) : Sp := SpD (ι := VS × Int × Int × Int × Int) (fun i => [.sh (bk C i.1), .sh i.2.1, .sh i.2.2.1, .sh i.2.2.2.1, .sh i.2.2.2.2]) (fun _ => True) fun i => dcode i.1 i.2.1 i.2.2.1 i.2.2.2.1 i.2.2.2.2
theorem ok_deed_code (T : Top K mg C) : Df P w K mg base "deed_code" 3 ["book", "day", "owner", "company", "percent"] (sp_deed_code C) := by
  have d_is_day := ok_is_day (P := P) (w := w) (base := base) T
  have d_is_party := ok_is_party (P := P) (w := w) (base := base) T
  have d_within := ok_within (P := P) (w := w) (base := base) T
  refine T.f_deed_code.okD sc_deed_code (fun _ => rfl) (fun _ => rfl) ?_
  intro i hpre f cdv A outer s H Q E hr
  refine ⟨_, (pss_cons (ps_if (pt_not (pt_of (pw_and (pt_val (pe_df d_is_day (hr.mono (by decide)) rfl (pa_cons (pv 1) pa_nil))) (pw_and (pt_val (pe_df d_is_party (hr.mono (by decide)) rfl (pa_cons (pv 2) pa_nil))) (pw_and (pt_val (pe_df d_is_party (hr.mono (by decide)) rfl (pa_cons (pv 3) pa_nil))) (pw_and1 (pt_val (pe_df d_within (hr.mono (by decide)) rfl (pa_cons (pv 4) (pa_cons pe_int (pa_cons (pe_cst T.c_TOP_PERCENT) pa_nil))))))))))) (pss_one (ps_ret (pe_cst T.c_OUT_OF_RANGE))) pss_nil)
        (pss_cons (ps_if (pt_cmpR op_eq (pv 2) (pv 3) (nomark _)) (pss_one (ps_ret (pe_cst T.c_SAME_OR_LENGTH))) pss_nil)
        (pss_cons (ps_if (pt_of (pw_or (pt_cmpR op_ge (pv 2) (pe_callB call_len_seq (by rfl) T.b_len (by decide +kernel) (pa_cons (pe_fld (pv 0) rfl) pa_nil)) (nomark _)) (pw_or1 (pt_cmpR op_ge (pv 3) (pe_callB call_len_seq (by rfl) T.b_len (by decide +kernel) (pa_cons (pe_fld (pv 0) rfl) pa_nil)) (nomark _))))) (pss_one (ps_ret (pe_cst T.c_NO_SUCH))) pss_nil)
        (pss_cons (ps_if (pt_cmpR op_ge (pe_callB call_len_seq (by rfl) T.b_len (by decide +kernel) (pa_cons (pe_fld (pv 0) rfl) pa_nil)) (pe_cst T.c_MOST_RECORDS) (nomark _)) (pss_one (ps_ret (pe_cst T.c_TOO_MANY))) pss_nil)
        (pss_cons (ps_if (pt_not (pt_val (pe_ix (ix_listK rfl) (pe_fld (pv 0) rfl) (pv 3) (fun _ _ => rfl)))) (pss_one (ps_ret (pe_cst T.c_WRONG_KIND))) pss_nil)
        (pss_one (ps_ret (pe_cst T.c_FINE)))))))), fun k => ?_⟩
  obtain ⟨st, d, o, c, p⟩ := i
  refine q_code (t_not (t_4 (t_B (x_cD d (xa_cons (x_var rfl) xa_nil) trivial)) (t_B (x_cD o (xa_cons (x_var rfl) xa_nil) trivial)) (t_B (x_cD c (xa_cons (x_var rfl) xa_nil) trivial)) (t_B (x_cD (p, 1, 100) (xa_cons (x_var rfl) (xa_cons x_int (xa_cons x_int xa_nil))) trivial)))) x_int (fun hb => (ibt hb).symm) k fun hb => ?_
  have hh := not_of hb
  rw [Bool.and_eq_true, Bool.and_eq_true, Bool.and_eq_true] at hh
  refine q_code (t_test (x_eq (x_var (a := o) rfl) (x_var (a := c) rfl))) x_int (fun h2 => ((ibf hb).trans (if_pos (of_decide_eq_true h2))).symm) k fun h2 => ?_
  have e2 : (if o = c then (-2 : Int) else if (!(Valdgg.hasParty st o && Valdgg.hasParty st c)) = true then (-3 : Int) else if Valdgg.maxRecords ≤ st.records.length then -6 else if (!Valdgg.isCompany st c.toNat) = true then -4 else 0) = (if (!(Valdgg.hasParty st o && Valdgg.hasParty st c)) = true then (-3 : Int) else if Valdgg.maxRecords ≤ st.records.length then -6 else if (!Valdgg.isCompany st c.toNat) = true then -4 else 0) := if_neg (of_decide_eq_false h2)
  refine q_code ((t_or (t_test (x_ge (x_var (a := o) rfl) (x_len (x_fldP T (x_var rfl))))) fun _ => t_test (x_ge (x_var (a := c) rfl) (x_len (x_fldP T (x_var rfl))))).eq (b := !(Valdgg.hasParty st o && Valdgg.hasParty st c)) ?_) x_int (fun h3 => ?_) k fun h3 => ?_
  · rw [nle, nle, Bool.not_and]; rfl
  · exact ((ibf hb).trans (e2.trans (ibt h3))).symm
  refine q_code (t_test (x_ge (x_nrec (x_fldR T (x_var rfl))) x_int)) x_int (fun h4 => ?_) k fun h4 => ?_
  · refine ((ibf hb).trans (e2.trans ((ibf h3).trans (if_pos ?_)))).symm
    have : (40 : Int) ≤ (st.records.length : Int) := of_decide_eq_true h4
    show 40 ≤ st.records.length
    omega
  have e4 : ¬ Valdgg.maxRecords ≤ st.records.length := fun z => by
    have : ¬ (40 : Int) ≤ (st.records.length : Int) := of_decide_eq_false h4
    have z' : 40 ≤ st.records.length := z
    omega
  have h3' := not_of h3
  rw [Bool.and_eq_true] at h3'
  refine q_code (t_not (t_B (x_comp (x_fldP T (x_var rfl)) (x_var (a := c) rfl) (num_nn hh.1.2).1 (has_lt h3'.2)))) x_int (fun h5 => ?_) k fun h5 => g_ret (x_int.eq ?_) k
  · exact ((ibf hb).trans (e2.trans ((ibf h3).trans ((if_neg e4).trans (ibt h5))))).symm
  · exact ((ibf hb).trans (e2.trans ((ibf h3).trans ((if_neg e4).trans (ibf h5))))).symm
def sp_days_code : Sp := SpD (ι := List Bool × List Valdgg.Trade × Nat) (fun i => [.sh i.1, .sh (i.2.1.map trT), .sh i.2.2]) (fun i => i.1.length ≤ 1000 ∧ InP i.1 i.2.1 ∧ i.2.1.length < 64) fun i => vcode i.1 i.2.1 i.2.2
theorem all_not {α : Type} {l : List α} {f : α → Bool} (h : l.any (fun x => !f x) = false) : l.all f = true := by
  rw [List.all_eq_true]
  intro x hx
  cases e : f x with
  | true => rfl
  | false =>
    have : l.any (fun x => !f x) = true := List.any_eq_true.mpr ⟨x, hx, by rw [e]; rfl⟩
    rw [h] at this; cases this
theorem ok_days_code (T : Top K mg C) : Df P w K mg base "days_code" 4 ["parties", "live", "day"] sp_days_code := by
  have d_is_valid := ok_is_valid (P := P) (w := w) (base := base) T
  have d_record_days := ok_record_days (P := P) (w := w) (base := base) T
  refine T.f_days_code.okD sc_days_code (fun _ => rfl) (fun _ => rfl) ?_
  intro i hpre f cdv A outer s H Q E hr
  refine ⟨_, (pss_cons (ps_if (pt_not (pt_val (pe_df d_is_valid (hr.mono (by decide)) rfl (pa_cons (pv 0) (pa_cons (pv 1) (pa_cons (pv 2) pa_nil)))))) (pss_one (ps_ret (pe_cst T.c_DAY_NOT_VALID))) pss_nil)
        (pss_cons (ps_for PassesOwn.never rfl (pi_list (pe_df d_record_days (hr.mono (by decide)) rfl (pa_cons (pv 1) pa_nil))) (pg_name (i := 3) sc_days_code.nd rfl (Or.inl rfl)) (pss_one (ps_if (pt_of (pw_and (pt_cmpR op_gt (pv 3) (pv 2) (nomark _)) (pw_and1 (pt_not (pt_val (pe_df d_is_valid (hr.mono (by decide)) rfl (pa_cons (pv 0) (pa_cons (pv 1) (pa_cons (pv 3) pa_nil))))))))) (pss_one (ps_ret (pe_cst T.c_OTHER_DAY_NOT_VALID))) pss_nil)))
        (pss_one (ps_ret (pe_cst T.c_FINE))))), fun k => ?_⟩
  obtain ⟨ps, ts, day⟩ := i
  obtain ⟨hn, hi, hz⟩ := hpre
  refine q_code (t_not (t_B (x_cD (ps, ts, day) (xa_cons (x_var rfl) (xa_cons (x_var rfl) (xa_cons (x_var rfl) xa_nil))) ⟨hn, hi⟩))) x_int (fun hb => (ibt hb).symm) k fun hb => ?_
  refine q_forDP (l := daysOf ts) (fun j => ((daysOf ts).take j).any (fun d => decide (day < d) && !validT ps ts d) = false) (fun _ => [.sh ps, .sh (ts.map trT), .sh day, .any]) (x_cN ts (xa_cons (x_var rfl) xa_nil) hz).d (by simp) (Weak.refl _) (fun H1 e1 j d hr hp => ?_) fun hp => ?_
  · refine g_if (t_and (t_test (x_gt (x_var (i := 3) (a := d) rfl).up (x_var (i := 2) (a := day) rfl).up)) fun _ => t_not (t_B (x_cD (ps, ts, d) (xa_cons (x_var rfl) (xa_cons (x_var rfl) (xa_cons (x_var rfl) xa_nil))) ⟨hn, hi⟩))) (fun hc => ?_) fun hc => g_next fun σ H h2 => ⟨take_any _ hr hp ?_, h2.weak ⟨.inl rfl, .inl rfl, .inl rfl, .inr rfl, trivial⟩⟩
    · refine g_ret (x_int.eq ?_) (Rt.up (by exact k) e1)
      rw [Bool.and_eq_true] at hc
      refine ((ibf hb).trans (if_pos ?_)).symm
      rw [Bool.not_eq_true']
      rw [Bool.eq_false_iff]
      intro z
      have := List.all_eq_true.mp z d (List.mem_filter.mpr ⟨mem_days.mp (List.mem_of_getElem? hr), decide_eq_true (by have : (day : Int) < (d : Int) := of_decide_eq_true hc.1; show day < d; omega)⟩)
      rw [this] at hc
      cases hc.2
    · rw [← hc]
      congr 2
      rw [eq_iff_iff]
      omega
  · rw [List.take_length] at hp
    refine g_ret (x_int.eq ((ibf hb).trans (if_neg ?_)).symm) k
    rw [Bool.not_eq_true, Bool.not_eq_false', List.all_eq_true]
    intro d hd
    obtain ⟨h1, h2⟩ := List.mem_filter.mp hd
    cases e : validT ps ts d with
    | true => rfl
    | false =>
      have : (daysOf ts).any (fun d => decide (day < d) && !validT ps ts d) = true := List.any_eq_true.mpr ⟨d, mem_days.mpr h1, by rw [h2, e]; rfl⟩
      rw [hp] at this; cases this
def sp_record_code (C : Addr) : Sp := SpD (ι := VS × Int × Int × Int × Int × Int) (fun i => [.sh (bk C i.1), .sh (Tp.mk [i.2.1, i.2.2.1, i.2.2.2.1, i.2.2.2.2.1, i.2.2.2.2.2])]) (fun i => WF i.1 ∧ (i.2.1 = 0 ∨ i.2.1 = 1)) fun i => rcode i.1 i.2.1 i.2.2.1 i.2.2.2.1 i.2.2.2.2.1 i.2.2.2.2.2
theorem new_tup {st : VS} {kd d o c p : Int} (hk : kd = 0 ∨ kd = 1) (h : Deed st d o c p) : Tp.mk [kd, d, o, c, p] = trT (newT kd d o c p) := by
  show _ = Tp.mk (recRow (newR kd d o c p))
  rw [row_new hk h.d0 h.o0 h.c0 h.p0]
theorem ok_record_code (T : Top K mg C) : Df P w K mg base "record_code" 5 ["book", "record"] (sp_record_code C) := by
  have d_deed_code := ok_deed_code (P := P) (w := w) (base := base) T
  have d_live_records := ok_live_records (P := P) (w := w) (base := base) T
  have d_days_code := ok_days_code (P := P) (w := w) (base := base) T
  refine T.f_record_code.okD sc_record_code (fun _ => rfl) (fun _ => rfl) ?_
  intro i hpre f cdv A outer s H Q E hr
  refine ⟨_, (pss_cons (ps_asg (pv 1) (pg_tup rfl (pgs_cons (pg_name (i := 2) sc_record_code.nd rfl (Or.inl rfl)) (pgs_cons (pg_name (i := 3) sc_record_code.nd rfl (Or.inl rfl)) (pgs_cons (pg_name (i := 4) sc_record_code.nd rfl (Or.inl rfl)) (pgs_cons (pg_name (i := 5) sc_record_code.nd rfl (Or.inl rfl)) (pgs_cons (pg_name (i := 6) sc_record_code.nd rfl (Or.inl rfl)) pgs_nil)))))))
        (pss_cons (ps_set (i := 7) sc_record_code.nd rfl (Or.inl rfl) (pe_df d_deed_code (hr.mono (by decide)) rfl (pa_cons (pv 0) (pa_cons (pv 3) (pa_cons (pv 4) (pa_cons (pv 5) (pa_cons (pv 6) pa_nil)))))))
        (pss_cons (ps_if (pt_cmpR op_ne (pv 7) (pe_cst T.c_FINE) (nomark _)) (pss_one (ps_ret (pv 7))) pss_nil)
        (pss_cons (ps_set (i := 8) sc_record_code.nd rfl (Or.inl rfl) (pe_df d_live_records (hr.mono (by decide)) rfl (pa_cons (pe_fld (pv 0) rfl) (pa_cons (pe_callB call_len_seq (by rfl) T.b_len (by decide +kernel) (pa_cons (pe_fld (pv 0) rfl) pa_nil)) pa_nil))))
        (pss_one (ps_ret (pe_df d_days_code (hr.mono (by decide)) rfl (pa_cons (pe_fld (pv 0) rfl) (pa_cons (pe_op op_cat (pv 8) (pe_lst (pa_cons (pv 1) pa_nil))) (pa_cons (pv 3) pa_nil)))))))))), fun k => ?_⟩
  obtain ⟨st, kd, d, o, c, p⟩ := i
  obtain ⟨wf, hk⟩ := hpre
  have wf : WF st := wf
  have hk : kd = 0 ∨ kd = 1 := hk
  have h1 := wf.np
  have h2 := wf.nr
  have h3 := live_len st.records
  refine q_unp5 (m := 1) (x1 := kd) (x2 := d) (x3 := o) (x4 := c) (x5 := p) rfl ?_
  refine q_set (x_cD (st, d, o, c, p) (xa_cons (x_var rfl) (xa_cons (x_var rfl) (xa_cons (x_var rfl) (xa_cons (x_var rfl) (xa_cons (x_var rfl) xa_nil))))) trivial) ?_
  refine q_code (t_test (x_ne (x_var (a := dcode st d o c p) rfl) x_int)) (x_var (a := dcode st d o c p) rfl) (fun hb => (if_pos (by simpa using hb)).symm) k fun hb => ?_
  have hz : dcode st d o c p = 0 := by simpa using hb
  have hd := dcode_0 hz
  refine q_set (x_cN (st.records, st.records.length) (xa_cons (x_fldR T (x_var rfl)) (xa_cons (x_nrec (x_fldR T (x_var rfl))) xa_nil)) ⟨Nat.le_refl _, by show st.records.length ≤ 10000; omega⟩).d ?_
  have hnew : Tp.mk [kd, d, o, c, p] = trT (newT kd d o c p) := new_tup hk hd
  have hlist : (liveOf (st.records.take st.records.length)).map trT ++ [Tp.mk [kd, d, o, c, p]] = (liveOf st.records ++ [newT kd d o c p]).map trT := by
    rw [List.take_length, List.map_append, hnew]; rfl
  refine g_ret (XD.eq (x_cD (st.parties, liveOf st.records ++ [newT kd d o c p], d.toNat) (xa_cons (x_fldP T (x_var rfl)) (xa_cons (XD.eq (x_cat (x_var (i := 8) (a := (liveOf (st.records.take st.records.length)).map trT) rfl) (x_lst1 (x_var (i := 1) (a := Tp.mk [kd, d, o, c, p]) rfl)).d ?_).d hlist) (xa_cons (XD.dn (x_var (i := 3) (a := d) rfl) (by have := hd.d0; show d = ((d.toNat : Nat) : Int); omega)) xa_nil))) ⟨?_, inP_new wf hd, ?_⟩) ?_) k
  · rw [List.length_map, List.take_length]
    show (liveOf st.records).length + 1 ≤ 100000
    omega
  · show st.parties.length ≤ 1000
    omega
  · show (liveOf st.records ++ [newT kd d o c p]).length < 64
    rw [List.length_append]
    show _ + 1 < 64
    omega
  · exact (if_neg (fun z => z hz)).symm
def sp_cancel_code (C : Addr) : Sp := SpD (ι := VS × Int) (fun i => [.sh (bk C i.1), .sh i.2]) (fun i => WF i.1) fun i => kcode i.1 i.2
theorem ok_cancel_code (T : Top K mg C) : Df P w K mg base "cancel_code" 4 ["book", "number"] (sp_cancel_code C) := by
  have d_within := ok_within (P := P) (w := w) (base := base) T
  have d_is_cancelled := ok_is_cancelled (P := P) (w := w) (base := base) T
  have d_live_records := ok_live_records (P := P) (w := w) (base := base) T
  have d_record_days := ok_record_days (P := P) (w := w) (base := base) T
  have d_is_valid := ok_is_valid (P := P) (w := w) (base := base) T
  refine T.f_cancel_code.okD sc_cancel_code (fun _ => rfl) (fun _ => rfl) ?_
  intro i hpre f cdv A outer s H Q E hr
  refine ⟨_, (pss_cons (ps_if (pt_not (pt_val (pe_df d_within (hr.mono (by decide)) rfl (pa_cons (pv 1) (pa_cons pe_int (pa_cons (pe_cst T.c_TOP_RECORD) pa_nil)))))) (pss_one (ps_ret (pe_cst T.c_OUT_OF_RANGE))) pss_nil)
        (pss_cons (ps_if (pt_cmpR op_ge (pv 1) (pe_callB call_len_seq (by rfl) T.b_len (by decide +kernel) (pa_cons (pe_fld (pv 0) rfl) pa_nil)) (nomark _)) (pss_one (ps_ret (pe_cst T.c_NO_SUCH))) pss_nil)
        (pss_cons (ps_if (pt_cmpR op_ge (pe_callB call_len_seq (by rfl) T.b_len (by decide +kernel) (pa_cons (pe_fld (pv 0) rfl) pa_nil)) (pe_cst T.c_MOST_RECORDS) (nomark _)) (pss_one (ps_ret (pe_cst T.c_TOO_MANY))) pss_nil)
        (pss_cons (ps_if (pt_of (pw_or (pt_cmpR op_eq (pe_ix (ix_tupK rfl) (pe_ix (ix_listK rfl) (pe_fld (pv 0) rfl) (pv 1) (fun _ _ => rfl)) pe_int (fun _ _ => rfl)) (pe_cst T.c_CANCELLATION) (nomark _)) (pw_or1 (pt_val (pe_df d_is_cancelled (hr.mono (by decide)) rfl (pa_cons (pe_fld (pv 0) rfl) (pa_cons (pe_callB call_len_seq (by rfl) T.b_len (by decide +kernel) (pa_cons (pe_fld (pv 0) rfl) pa_nil)) (pa_cons (pv 1) pa_nil)))))))) (pss_one (ps_ret (pe_cst T.c_WRONG_KIND))) pss_nil)
        (pss_cons (ps_set (i := 2) sc_cancel_code.nd rfl (Or.inl rfl) (pe_op op_cat (pe_fld (pv 0) rfl) (pe_lst (pa_cons (pe_tup (pa_cons (pe_cst T.c_CANCELLATION) (pa_cons (pv 1) (pa_cons pe_int (pa_cons pe_int (pa_cons pe_int pa_nil)))))) pa_nil))))
        (pss_cons (ps_set (i := 3) sc_cancel_code.nd rfl (Or.inl rfl) (pe_df d_live_records (hr.mono (by decide)) rfl (pa_cons (pv 2) (pa_cons (pe_callB call_len_seq (by rfl) T.b_len (by decide +kernel) (pa_cons (pv 2) pa_nil)) pa_nil))))
        (pss_cons (ps_for PassesOwn.never rfl (pi_list (pe_df d_record_days (hr.mono (by decide)) rfl (pa_cons (pv 3) pa_nil))) (pg_name (i := 4) sc_cancel_code.nd rfl (Or.inl rfl)) (pss_one (ps_if (pt_not (pt_val (pe_df d_is_valid (hr.mono (by decide)) rfl (pa_cons (pe_fld (pv 0) rfl) (pa_cons (pv 3) (pa_cons (pv 4) pa_nil)))))) (pss_one (ps_ret (pe_cst T.c_OTHER_DAY_NOT_VALID))) pss_nil)))
        (pss_one (ps_ret (pe_cst T.c_FINE)))))))))), fun k => ?_⟩
  obtain ⟨st, r⟩ := i
  have wf : WF st := hpre
  have h1 := wf.np
  have h2 := wf.nr
  refine q_code (t_not (t_B (x_cD (r, 0, 9999) (xa_cons (x_var rfl) (xa_cons x_int (xa_cons x_int xa_nil))) trivial))) x_int (fun hb => (ibt hb).symm) k fun hb => ?_
  have hr : 0 ≤ r ∧ r ≤ 9999 := num_nn (not_of hb)
  refine q_code (t_test (x_ge (x_var (a := r) rfl) (x_nrec (x_fldR T (x_var rfl))))) x_int (fun hc => ((ibf hb).trans (if_pos (of_decide_eq_true hc))).symm) k fun hc => ?_
  have hc' : ¬ ((st.records.length : Nat) : Int) ≤ r := of_decide_eq_false hc
  refine q_code (t_test (x_ge (x_nrec (x_fldR T (x_var rfl))) x_int)) x_int (fun h4 => ?_) k fun h4 => ?_
  · refine ((ibf hb).trans ((if_neg hc').trans (if_pos ?_))).symm
    have : (40 : Int) ≤ (st.records.length : Int) := of_decide_eq_true h4
    show 40 ≤ st.records.length
    omega
  have e4 : ¬ Valdgg.maxRecords ≤ st.records.length := fun z => by
    have : ¬ (40 : Int) ≤ (st.records.length : Int) := of_decide_eq_false h4
    have z' : 40 ≤ st.records.length := z
    omega
  obtain ⟨x, hx⟩ : ∃ x, st.records[r.toNat]? = some x := ⟨_, List.getElem?_eq_getElem (by omega)⟩
  have er : ((r.toNat : Nat) : Int) = r := by omega
  have hix : ∀ S : List Sl, S[0]? = some (.sh (bk C st)) → S[1]? = some (.sh r) → XD H S (tOp (rIxL K) (tFld K (tVar 0) "records") (tVar 1)) (recT x) := fun S z1 z2 => x_ix (x_fldR T (x_var z1)) (XD.eq (x_var z2) er.symm) (rec_at hx)
  refine q_code ((t_or (t_test (x_eq (x_ixT (hix _ rfl rfl) x_int (j := 0) (fld_at (r := x) (by decide))) x_int)) fun _ => t_B (x_cD (st.records, st.records.length, r.toNat) (xa_cons (x_fldR T (x_var rfl)) (xa_cons (x_nrec (x_fldR T (x_var rfl))) (xa_cons (XD.dn (x_var (a := r) rfl) er.symm) xa_nil))) ⟨Nat.le_refl _, by show st.records.length ≤ 100000; omega⟩)).eq (b := !Valdgg.isTrade st r.toNat || Valdgg.isCancelled st r.toNat) ?_) x_int (fun h5 => ?_) k fun h5 => ?_
  · rw [kind_is, trade_kind hx]
    show (!Valdgg.isTrade st r.toNat || (st.records.take st.records.length).contains (.cancel r.toNat)) = _
    rw [List.take_length]; rfl
  · exact ((ibf hb).trans ((if_neg hc').trans ((if_neg e4).trans (ibt h5)))).symm
  have hl := live_len (st.records ++ [.cancel r.toNat])
  rw [List.length_append] at hl
  have hl' : (liveOf (st.records ++ [.cancel r.toNat])).length ≤ st.records.length + 1 := hl
  have hrow : Tp.mk [2, r, 0, 0, 0] = recT (.cancel r.toNat) := by
    show _ = Tp.mk [2, ((r.toNat : Nat) : Int), 0, 0, 0]
    rw [er]
  refine q_set (XN.eq (x_cat (x_fldR T (x_var (a := bk C st) rfl)) (x_lst1 (XD.eq (x_tup (l := [2, r, 0, 0, 0]) (xa_cons x_int (xa_cons (x_var rfl) (xa_cons x_int (xa_cons x_int (xa_cons x_int xa_nil)))))).d hrow)).d ?_) (b := (st.records ++ [Valdgg.Record.cancel r.toNat]).map recT) ?_).d ?_
  · rw [List.length_map]
    show st.records.length + 1 ≤ 100000
    omega
  · rw [List.map_append]; rfl
  refine q_set (x_cN (st.records ++ [Valdgg.Record.cancel r.toNat], st.records.length + 1) (xa_cons (x_var rfl) (xa_cons ((x_nrec (x_var (i := 2) rfl)).eq (by rw [List.length_append]; rfl)) xa_nil)) ⟨?_, ?_⟩).d ?_
  rotate_left 1
  · show st.records.length + 1 ≤ (st.records ++ [Valdgg.Record.cancel r.toNat]).length
    rw [List.length_append]; exact Nat.le_refl _
  · show st.records.length + 1 ≤ 10000
    omega
  have etk : (st.records ++ [Valdgg.Record.cancel r.toNat]).take (st.records.length + 1) = st.records ++ [Valdgg.Record.cancel r.toNat] := List.take_of_length_le (by rw [List.length_append]; exact Nat.le_refl _)
  show Go H [.sh (bk C st), .sh r, .sh ((st.records ++ [Valdgg.Record.cancel r.toNat]).map recT), .sh ((liveOf ((st.records ++ [Valdgg.Record.cancel r.toNat]).take (st.records.length + 1))).map trT), .any] _ _
  rw [etk]
  generalize hts : liveOf (st.records ++ [Valdgg.Record.cancel r.toNat]) = ts
  rw [hts] at hl'
  have hin : InP st.parties ts := hts ▸ inP_cancel wf r.toNat
  refine q_forDP (l := daysOf ts) (fun j => ((daysOf ts).take j).any (fun d => !validT st.parties ts d) = false) (fun _ => [.sh (bk C st), .sh r, .sh ((st.records ++ [Valdgg.Record.cancel r.toNat]).map recT), .sh (ts.map trT), .any]) (x_cN ts (xa_cons (x_var rfl) xa_nil) (by show ts.length < 64; omega)).d (by simp) (Weak.refl _) (fun H1 e1 j d hr hp => ?_) fun hp => ?_
  · refine g_if (t_not (t_B (x_cD (st.parties, ts, d) (xa_cons (x_fldP T (x_var rfl)) (xa_cons (x_var rfl) (xa_cons (x_var rfl) xa_nil))) ⟨by show st.parties.length ≤ 1000; omega, hin⟩))) (fun hv => ?_) fun hv => g_next fun σ H h2 => ⟨take_any _ hr hp hv, h2.weak ⟨.inl rfl, .inl rfl, .inl rfl, .inl rfl, .inr rfl, trivial⟩⟩
    refine g_ret (x_int.eq ((ibf hb).trans ((if_neg hc').trans ((if_neg e4).trans ((ibf h5).trans (if_pos ?_))))).symm) (Rt.up (by exact k) e1)
    rw [hts, Bool.not_eq_true', Bool.eq_false_iff]
    intro z
    have := List.all_eq_true.mp z d (mem_days.mp (List.mem_of_getElem? hr))
    rw [this] at hv
    cases hv
  · rw [List.take_length] at hp
    refine g_ret (x_int.eq ((ibf hb).trans ((if_neg hc').trans ((if_neg e4).trans ((ibf h5).trans (if_neg ?_))))).symm) k
    rw [hts, Bool.not_eq_true, Bool.not_eq_false']
    refine all_not ?_
    rw [Bool.eq_false_iff]
    intro z
    obtain ⟨d, hd, hv⟩ := List.any_eq_true.mp z
    have : (daysOf ts).any (fun d => !validT st.parties ts d) = true := List.any_eq_true.mpr ⟨d, mem_days.mpr hd, hv⟩
    rw [hp] at this; cases this
end
end Cr
namespace Cr
open PySem PySem.Spec PyProof.Rows L2 Evl
section
variable {He : Hp} {S T : List Sl} {K : PySem.W.Frag} {te ta tb tc : TE} {D : Ends} {ts tz tw : TS}
theorem q_bad {m : Nat} {c : Int} {r : List Int} (hm : S[m]? = some (.sh c)) (kr : RtN He D r) (hr : c ≠ 0 → r = [c]) (h : c = 0 → Go He S tz D) :
    Go He S (tSeq (tIfS (tTest (tOp rNe (tVar m) (tC (.int 0)))) (tRet (tLst (tCons (tVar m) tNil))) tNext) tz) D :=
  q_codeN (t_test (x_ne (x_var hm) x_int)) (x_lst (l := [c]) (xa_cons (x_var hm) xa_nil)) (fun hb => (hr (by simpa using hb)).symm) kr fun hb => h (by simpa using hb)
theorem x_nat {i n : Nat} (h : S[i]? = some (.sh ((n : Nat) : Int))) : XD He S (tVar i) n := x_var (a := ((n : Nat) : Int)) h
theorem ans_eq {r : List Int} {c : Int} {x : List Int} (e : r = if c ≠ 0 then [c] else x) : (c ≠ 0 → r = [c]) ∧ (c = 0 → x = r) := ⟨fun h => by rw [e, if_pos h], fun h => by rw [e, if_neg (fun z => z h)]⟩
/-- [0, len(x) // k] + x -/
theorem x_tell {m : Nat} {l : List Int} {q : Int} (hx : XD He S te l) (hc : XD He S tc q) (hz : l.length ≤ 90000) : XN He S (tOp rCat (tLst (tCons (tC (.int 0)) (tCons tc tNil))) te) ([0, q] ++ l) := by
  refine x_cat (x_lst (l := [0, q]) (xa_cons x_int (xa_cons hc xa_nil))).d hx ?_
  show 2 + l.length ≤ 100000
  omega
theorem x_half4 {n : Nat} (h : XD He S te (n : Int)) : XD He S (tOp (rI CDiv fun i j => .int (i / j)) te (tC (.int 4))) ((n : Int) / 4) := x_I h x_int ⟨by decide, by decide⟩ fun _ => rfl
theorem Mk.pushI {β : Type} [Im β] {H1 H3 H4 : Hp} {D : Addr} {m : List β} {y : V} {b : β} (hD : H1 D = none) (h : Mk H1 D m H3) (e : Ex H3 H4) (i : Rep.is H4 y b) (hz : m.length < 100000) :
    ∃ acc, H4 D = some (.lst acc) ∧ acc.length < sizeLine ∧ Mk H1 D (m ++ [b]) (upd H4 D (.lst (acc ++ [y]))) := by
  obtain ⟨a, acc, h1, h2⟩ := h.up e
  have ed : del (upd H4 D (.lst (acc ++ [y]))) D = del H4 D := by
    funext b'
    by_cases z : b' = D
    · subst z; rw [del_self, del_self]
    · rw [del_ne z, del_ne z, upd_ne z]
  refine ⟨acc, h1, sz_lt (by rw [h2.1]; exact hz), a.mut hD, _, upd_same, ?_⟩
  rw [ed]
  exact h2.append (All2.cons (Im.im i h1) All2.nil)
/-- [e for x in v if t], e never a list -/
theorem x_lcI {tt : TT} {m j : Nat} {α β : Type} [Rep α] [Im β] {l : List α} (f : α → Bool) (g : α → β) (hm : S[m]? = some (.sh l)) (hz : l.length < 100000)
    (ht : ∀ He' : Hp, Ex He He' → ∀ (i : Nat) (a : α), l[i]? = some a → XT He' (S.set j (.sh a)) tt (f a)) (hg : ∀ He' : Hp, Ex He He' → ∀ (i : Nat) (a : α), l[i]? = some a → f a = true → XD He' (S.set j (.sh a)) te (g a)) :
    XN He S (tLc (iList K (tVar m)) (gName j) tt te [j]) ((l.filter f).map g) := fun σ H h1 Q hQ => by
  obtain ⟨He', v, e, x1, x2, h2, r⟩ := h1.splitV hm
  obtain ⟨q, xs, rfl, hq, hx⟩ := id r
  refine ⟨_, e, q, rfl, ⟨xs, SqL.of (h2.ex _ _ hq)⟩, fun D hD => ?_⟩
  refine lc_list (K := K) (xs := xs) (fun i H' => Mk H D (lcOf (l.take i) f g) H') (Mk.zero hD) (fun i H' _ p => SqL.of (p.1 _ _ (h2.ex _ _ hq))) (fun i x H' hi p => ?_) fun H' p => ?_
  · obtain ⟨a, ha, r⟩ := hx.getV hi
    show wipe ((wipe σ [j]).set j (some x)) [j] = wipe σ [j] ∧ tt ((wipe σ [j]).set j (some x)) H' _
    refine ⟨wipe_one σ j _, ?_⟩
    rw [wipe_set]
    have h3 := (h2.mono p.1).setB j r
    refine ht He' x1 i a ha _ _ h3 _ fun H3 e3 => ?_
    cases hf : f a with
    | true =>
      refine hg He' x1 i a ha hf _ _ (h3.mono e3) _ fun y H4 e4 i4 => ?_
      obtain ⟨acc, a1, a2, a3⟩ := Mk.pushI hD (p.up e3) e4 i4 (Nat.lt_of_le_of_lt (lc_len l f g i) hz)
      exact ⟨acc, a1, a2, by rw [lc_yes ha hf]; exact a3⟩
    | false =>
      show Mk H D (lcOf (l.take (i + 1)) f g) H3
      rw [lc_no ha hf]
      exact p.up e3
  · have e : l.take xs.length = l := by rw [hx.1, List.take_length]
    rw [e] at p
    exact hQ _ _ p.1 (fun p' z => by cases z; exact hD) p.fin
end
section
variable {P : Program} {w : World} {K : PySem.W.Frag} {mg : Str → Option Value} {base : Heap} {C : Addr}
theorem cell_tb {He : Hp} {S : List Sl} {tt to tc : TE} {s : VS} {d n o c : Nat} (ht : XD He S tt (Cr.tb s d n)) (ho : XD He S to o) (hc : XD He S tc c) (h1 : o < s.parties.length) (h2 : c < s.parties.length) : XD He S (tOp (rIxL K) (tOp (rIxL K) tt to) tc) (gh s d n o c) := by
  obtain ⟨row, r1, r2⟩ := row_at (tab_sq s.parties.length (liveOf (s.records.take n)) d) (k := o) (by rw [tab_len]; exact h1)
  refine XD.eq (x_ix (x_ix ht ho.up r1) hc.up (cell_at r1 (by rw [r2, tab_len]; exact h2))) ?_
  exact held_tab _ _ h1 h2
def sp_holders (C : Addr) : Sp := SpN (ι := VS × Int × Int × Int) (fun i => [.sh (bk C i.1), .sh i.2.1, .sh i.2.2.1, .sh i.2.2.2]) (fun i => WF i.1) fun i => Valdgg.answerOf i.1 (.holders i.2.1 i.2.2.1 i.2.2.2)
theorem ok_holders (T : Top K mg C) : Df P w K mg base "holders" 5 ["book", "day", "company", "n"] (sp_holders C) := by
  have d_company_code := ok_company_code (P := P) (w := w) (base := base) T
  have d_held_table := ok_held_table (P := P) (w := w) (base := base) T
  have d_free_float := ok_free_float (P := P) (w := w) (base := base) T
  refine T.f_holders.okN sc_holders (fun _ => rfl) (fun _ => rfl) ?_
  intro i hpre f cdv A outer s H Q E hr
  refine ⟨_, (pss_cons (ps_set (i := 4) sc_holders.nd rfl (Or.inl rfl) (pe_df d_company_code (hr.mono (by decide)) rfl (pa_cons (pv 0) (pa_cons (pv 1) (pa_cons (pv 2) (pa_cons (pv 3) pa_nil))))))
        (pss_cons (ps_if (pt_cmpR op_ne (pv 4) (pe_cst T.c_FINE) (nomark _)) (pss_one (ps_ret (pe_lst (pa_cons (pv 4) pa_nil)))) pss_nil)
        (pss_cons (ps_set (i := 5) sc_holders.nd rfl (Or.inl rfl) (pe_df d_held_table (hr.mono (by decide)) rfl (pa_cons (pv 0) (pa_cons (pv 1) (pa_cons (pv 3) pa_nil)))))
        (pss_cons (ps_set (i := 6) sc_holders.nd rfl (Or.inl rfl) (pe_lst pa_nil))
        (pss_cons (ps_for PassesOwn.never rfl (pi_range1 rfl T.b_range (pa_cons (pe_callB call_len_seq (by rfl) T.b_len (by decide +kernel) (pa_cons (pv 5) pa_nil)) pa_nil)) (pg_name (i := 7) sc_holders.nd rfl (Or.inl rfl)) (pss_one (ps_if (pt_cmpR op_ne (pe_ix (ix_listK rfl) (pe_ix (ix_listK rfl) (pv 5) (pv 7) (fun _ _ => rfl)) (pv 2) (fun _ _ => rfl)) pe_int (nomark _)) (pss_one (ps_expr (pe_bm PySem.F.plainAttrs_list PySem.F.slot_list_extend PySem.F.type_list_extend mt_extend (pv 6) (pa_cons (pe_lst (pa_cons (pv 7) (pa_cons (pe_ix (ix_listK rfl) (pe_ix (ix_listK rfl) (pv 5) (pv 7) (fun _ _ => rfl)) (pv 2) (fun _ _ => rfl)) pa_nil))) pa_nil)))) pss_nil)))
        (pss_one (ps_ret (pe_op op_cat (pe_op op_cat (pe_lst (pa_cons pe_int (pa_cons (pe_op op_fdiv (pe_callB call_len_seq (by rfl) T.b_len (by decide +kernel) (pa_cons (pv 6) pa_nil)) pe_int) pa_nil))) (pv 6)) (pe_lst (pa_cons (pe_df d_free_float (hr.mono (by decide)) rfl (pa_cons (pv 5) (pa_cons (pv 2) pa_nil))) pa_nil)))))))))), fun k => ?_⟩
  obtain ⟨st, d, c, n⟩ := i
  have wf : WF st := hpre
  have h1 := wf.np
  have h2 := wf.nr
  obtain ⟨ea, eb⟩ := ans_eq (holders_is st d c n)
  show Go H [.sh (bk C st), .sh d, .sh c, .sh n, .any, .any, .any, .any] _ _
  refine q_set (x_cD (st, d, c, n) (xa_cons (x_var rfl) (xa_cons (x_var rfl) (xa_cons (x_var rfl) (xa_cons (x_var rfl) xa_nil)))) trivial) (q_bad (c := ccode st d c n) rfl k ea fun hz => ?_)
  have k : RetN H Q (holdP st d.toNat c.toNat n.toNat) := (eb hz).symm ▸ k
  obtain ⟨⟨c0, c1⟩, ⟨d0, d1⟩, n0, n1⟩ := pcode_0 (ccode_0 hz).1
  obtain ⟨d, rfl⟩ := Int.eq_ofNat_of_zero_le d0
  obtain ⟨c, rfl⟩ := Int.eq_ofNat_of_zero_le c0
  obtain ⟨n, rfl⟩ := Int.eq_ofNat_of_zero_le n0
  have hc : c < st.parties.length := by omega
  have hn : n ≤ st.records.length := by omega
  refine q_set (a := Cr.tb st d n) (x_cD (st, d, n) (xa_cons (x_var rfl) (xa_cons (x_nat rfl) (xa_cons (x_nat rfl) xa_nil))) ⟨wf, hn⟩) ?_
  have etl : (Cr.tb st d n).length = st.parties.length := tab_len _ _ _
  refine q_nil (α := Int) (q_range (n := st.parties.length) (fun j => [.sh (bk C st), .sh (d : Int), .sh (c : Int), .sh (n : Int), .sh (ccode st d c n), .sh (Cr.tb st d n), .own (pr (fun p => gh st d n p c) (List.range j)), .any]) (xa_cons ((x_len (x_var (a := Cr.tb st d n) rfl)).eq (by rw [etl])) xa_nil) (by omega) (Weak.refl _) (fun j hj => ?_) ?_)
  · have hx : ∀ l : List Int, XD H [Sl.sh (bk C st), .sh (d : Int), .sh (c : Int), .sh (n : Int), .sh (ccode st d c n), .sh (Cr.tb st d n), .own l, .sh j] (tOp (rIxL K) (tOp (rIxL K) (tVar 5) (tVar 7)) (tVar 2)) (gh st d n j c) := fun l => cell_tb (x_var rfl) (x_var rfl) (x_nat rfl) hj hc
    have hl := pr_le (fun p => gh st d n p c) (List.range j)
    rw [List.length_range] at hl
    refine g_if (t_test (x_ne (hx _) x_int)) (fun hb => ?_) fun hb => ?_
    · refine g_ext rfl (x_lst (l := [(j : Int), gh st d n j c]) (xa_cons (x_var (a := j) rfl).up (xa_cons (hx _) xa_nil))) ?_ fun σ H h2 => h2.weak ⟨.inl rfl, .inl rfl, .inl rfl, .inl rfl, .inl rfl, .inl rfl, .inl ?_, .inr rfl, trivial⟩
      · show _ + 2 ≤ _
        omega
      · congr 1
        rw [List.range_succ, pr_snoc, if_neg (by simpa using hb)]
    · refine g_next fun σ H h2 => h2.weak ⟨.inl rfl, .inl rfl, .inl rfl, .inl rfl, .inl rfl, .inl rfl, .inl ?_, .inr rfl, trivial⟩
      congr 1
      rw [List.range_succ, pr_snoc, if_pos (by simpa using hb), List.append_nil]
  · have hl := pr_le (fun p => gh st d n p c) (List.range st.parties.length)
    rw [List.length_range] at hl
    refine g_retN (x_cat (x_tell (m := 0) (x_own rfl) (x_half (x_len (x_own rfl))) (by omega)).d (x_lst (l := [100 - Valdgg.heldIn (Cr.tb st d n) (List.range (Cr.tb st d n).length) c]) (xa_cons (x_cD (Cr.tb st d n, c) (xa_cons (x_var rfl) (xa_cons (x_nat rfl) xa_nil)) ⟨tab_sq _ _ _, ?_, ?_⟩) xa_nil)).d ?_) k
    · simp only [List.length_append, List.length_cons, List.length_nil]
      omega
    · show c < (Cr.tb st d n).length
      rw [etl]; exact hc
    · show (Cr.tb st d n).length < 100000
      rw [etl]; omega
def sp_portfolio (C : Addr) : Sp := SpN (ι := VS × Int × Int × Int) (fun i => [.sh (bk C i.1), .sh i.2.1, .sh i.2.2.1, .sh i.2.2.2]) (fun i => WF i.1) fun i => Valdgg.answerOf i.1 (.portfolio i.2.1 i.2.2.1 i.2.2.2)
theorem ok_portfolio (T : Top K mg C) : Df P w K mg base "portfolio" 5 ["book", "day", "owner", "n"] (sp_portfolio C) := by
  have d_party_code := ok_party_code (P := P) (w := w) (base := base) T
  have d_held_table := ok_held_table (P := P) (w := w) (base := base) T
  refine T.f_portfolio.okN sc_portfolio (fun _ => rfl) (fun _ => rfl) ?_
  intro i hpre f cdv A outer s H Q E hr
  refine ⟨_, (pss_cons (ps_set (i := 4) sc_portfolio.nd rfl (Or.inl rfl) (pe_df d_party_code (hr.mono (by decide)) rfl (pa_cons (pv 0) (pa_cons (pv 1) (pa_cons (pv 2) (pa_cons (pv 3) pa_nil))))))
        (pss_cons (ps_if (pt_cmpR op_ne (pv 4) (pe_cst T.c_FINE) (nomark _)) (pss_one (ps_ret (pe_lst (pa_cons (pv 4) pa_nil)))) pss_nil)
        (pss_cons (ps_set (i := 5) sc_portfolio.nd rfl (Or.inl rfl) (pe_ix (ix_listK rfl) (pe_df d_held_table (hr.mono (by decide)) rfl (pa_cons (pv 0) (pa_cons (pv 1) (pa_cons (pv 3) pa_nil)))) (pv 2) (fun _ _ => rfl)))
        (pss_cons (ps_set (i := 6) sc_portfolio.nd rfl (Or.inl rfl) (pe_lst pa_nil))
        (pss_cons (ps_for PassesOwn.never rfl (pi_range1 rfl T.b_range (pa_cons (pe_callB call_len_seq (by rfl) T.b_len (by decide +kernel) (pa_cons (pv 5) pa_nil)) pa_nil)) (pg_name (i := 7) sc_portfolio.nd rfl (Or.inl rfl)) (pss_one (ps_if (pt_cmpR op_ne (pe_ix (ix_listK rfl) (pv 5) (pv 7) (fun _ _ => rfl)) pe_int (nomark _)) (pss_one (ps_expr (pe_bm PySem.F.plainAttrs_list PySem.F.slot_list_extend PySem.F.type_list_extend mt_extend (pv 6) (pa_cons (pe_lst (pa_cons (pv 7) (pa_cons (pe_ix (ix_listK rfl) (pv 5) (pv 7) (fun _ _ => rfl)) pa_nil))) pa_nil)))) pss_nil)))
        (pss_one (ps_ret (pe_op op_cat (pe_lst (pa_cons pe_int (pa_cons (pe_op op_fdiv (pe_callB call_len_seq (by rfl) T.b_len (by decide +kernel) (pa_cons (pv 6) pa_nil)) pe_int) pa_nil))) (pv 6))))))))), fun k => ?_⟩
  obtain ⟨st, d, o, n⟩ := i
  have wf : WF st := hpre
  have h1 := wf.np
  have h2 := wf.nr
  obtain ⟨ea, eb⟩ := ans_eq (portfolio_is wf d o n)
  show Go H [.sh (bk C st), .sh d, .sh o, .sh n, .any, .any, .any, .any] _ _
  refine q_set (x_cD (st, d, o, n) (xa_cons (x_var rfl) (xa_cons (x_var rfl) (xa_cons (x_var rfl) (xa_cons (x_var rfl) xa_nil)))) trivial) (q_bad (c := pcode st d o n) rfl k ea fun hz => ?_)
  have k : RetN H Q (portP st d.toNat o.toNat n.toNat) := (eb hz).symm ▸ k
  obtain ⟨⟨c0, c1⟩, ⟨d0, d1⟩, n0, n1⟩ := pcode_0 hz
  obtain ⟨d, rfl⟩ := Int.eq_ofNat_of_zero_le d0
  obtain ⟨o, rfl⟩ := Int.eq_ofNat_of_zero_le c0
  obtain ⟨n, rfl⟩ := Int.eq_ofNat_of_zero_le n0
  have hc : o < st.parties.length := by omega
  have hn : n ≤ st.records.length := by omega
  have er : (Cr.tb st d n)[o]? = some ((List.range st.parties.length).map fun c => gh st d n o c) := mat_row _ hc
  refine q_set (x_ix (a := (List.range st.parties.length).map fun c => gh st d n o c) (x_cD (st, d, n) (xa_cons (x_var rfl) (xa_cons (x_nat rfl) (xa_cons (x_nat rfl) xa_nil))) ⟨wf, hn⟩) (x_nat rfl).up er) ?_
  refine q_nil (α := Int) (q_range (n := st.parties.length) (fun j => [.sh (bk C st), .sh (d : Int), .sh (o : Int), .sh (n : Int), .sh (pcode st d o n), .sh ((List.range st.parties.length).map fun c => gh st d n o c), .own (pr (fun c => gh st d n o c) (List.range j)), .any]) (xa_cons ((x_len (x_var (a := (List.range st.parties.length).map fun c => gh st d n o c) rfl)).eq (by rw [List.length_map, List.length_range])) xa_nil) (by omega) (Weak.refl _) (fun j hj => ?_) ?_)
  · have hx : ∀ l : List Int, XD H [Sl.sh (bk C st), .sh (d : Int), .sh (o : Int), .sh (n : Int), .sh (pcode st d o n), .sh ((List.range st.parties.length).map fun c => gh st d n o c), .own l, .sh j] (tOp (rIxL K) (tVar 5) (tVar 7)) (gh st d n o j) := fun l => x_ix (x_var rfl) (x_var (a := j) rfl).up (by rw [List.getElem?_map, List.getElem?_range hj]; rfl)
    have hl := pr_le (fun c => gh st d n o c) (List.range j)
    rw [List.length_range] at hl
    refine g_if (t_test (x_ne (hx _) x_int)) (fun hb => ?_) fun hb => ?_
    · refine g_ext rfl (x_lst (l := [(j : Int), gh st d n o j]) (xa_cons (x_var (a := j) rfl).up (xa_cons (hx _) xa_nil))) ?_ fun σ H h2 => h2.weak ⟨.inl rfl, .inl rfl, .inl rfl, .inl rfl, .inl rfl, .inl rfl, .inl ?_, .inr rfl, trivial⟩
      · show _ + 2 ≤ _
        omega
      · congr 1
        rw [List.range_succ, pr_snoc, if_neg (by simpa using hb)]
    · refine g_next fun σ H h2 => h2.weak ⟨.inl rfl, .inl rfl, .inl rfl, .inl rfl, .inl rfl, .inl rfl, .inl ?_, .inr rfl, trivial⟩
      congr 1
      rw [List.range_succ, pr_snoc, if_pos (by simpa using hb), List.append_nil]
  · have hl := pr_le (fun c => gh st d n o c) (List.range st.parties.length)
    rw [List.length_range] at hl
    exact g_retN (x_tell (m := 0) (x_own rfl) (x_half (x_len (x_own rfl))) (by omega)) k
/-! ### restated -/
def sp_differences : Sp := SpN (ι := VS × Nat × Nat × Nat) (fun i => [.sh (Cr.tb i.1 i.2.1 i.2.2.1), .sh (Cr.tb i.1 i.2.1 i.2.2.2)]) (fun i => WF i.1) fun i => rest0 i.1 i.2.1 i.2.2.1 i.2.2.2
theorem ok_differences (T : Top K mg C) : Df P w K mg base "differences" 1 ["first", "second"] sp_differences := by
  refine T.f_differences.okN sc_differences (fun _ => rfl) (fun _ => rfl) ?_
  intro i hpre f cdv A outer s H Q E hr
  refine ⟨_, (pss_cons (ps_set (i := 2) sc_differences.nd rfl (Or.inl rfl) (pe_lst pa_nil))
        (pss_cons (ps_for PassesOwn.never rfl (pi_range1 rfl T.b_range (pa_cons (pe_callB call_len_seq (by rfl) T.b_len (by decide +kernel) (pa_cons (pv 0) pa_nil)) pa_nil)) (pg_name (i := 3) sc_differences.nd rfl (Or.inl rfl)) (pss_one (ps_for PassesOwn.never rfl (pi_range1 rfl T.b_range (pa_cons (pe_callB call_len_seq (by rfl) T.b_len (by decide +kernel) (pa_cons (pv 0) pa_nil)) pa_nil)) (pg_name (i := 4) sc_differences.nd rfl (Or.inl rfl)) (pss_one (ps_if (pt_cmpR op_ne (pe_ix (ix_listK rfl) (pe_ix (ix_listK rfl) (pv 0) (pv 3) (fun _ _ => rfl)) (pv 4) (fun _ _ => rfl)) (pe_ix (ix_listK rfl) (pe_ix (ix_listK rfl) (pv 1) (pv 3) (fun _ _ => rfl)) (pv 4) (fun _ _ => rfl)) (nomark _)) (pss_one (ps_expr (pe_bm PySem.F.plainAttrs_list PySem.F.slot_list_extend PySem.F.type_list_extend mt_extend (pv 2) (pa_cons (pe_lst (pa_cons (pv 3) (pa_cons (pv 4) (pa_cons (pe_ix (ix_listK rfl) (pe_ix (ix_listK rfl) (pv 0) (pv 3) (fun _ _ => rfl)) (pv 4) (fun _ _ => rfl)) (pa_cons (pe_ix (ix_listK rfl) (pe_ix (ix_listK rfl) (pv 1) (pv 3) (fun _ _ => rfl)) (pv 4) (fun _ _ => rfl)) pa_nil))))) pa_nil)))) pss_nil)))))
        (pss_one (ps_ret (pv 2))))), fun k => ?_⟩
  obtain ⟨st, d, n, m⟩ := i
  have wf : WF st := hpre
  have h1 := wf.np
  have e1 : (Cr.tb st d n).length = st.parties.length := tab_len _ _ _
  show Go H [.sh (Cr.tb st d n), .sh (Cr.tb st d m), .any, .any, .any] _ _
  refine q_nil (α := Int) (q_range (n := st.parties.length) (fun j => [.sh (Cr.tb st d n), .sh (Cr.tb st d m), .own (d4a (gh st d n) (gh st d m) (List.range j) (List.range st.parties.length)), .any, .any]) (xa_cons ((x_len (x_var (a := Cr.tb st d n) rfl)).eq (by rw [e1])) xa_nil) (by omega) (Weak.refl _) (fun j hj => ?_) (g_retO rfl k))
  have hl := d4a_le (gh st d n) (gh st d m) (List.range st.parties.length) (List.range j)
  rw [List.length_range, List.length_range] at hl
  have hl' : 4 * st.parties.length * j ≤ 4 * st.parties.length * 12 := Nat.mul_le_mul (Nat.le_refl _) (by omega)
  refine g_range (n := st.parties.length) (fun q => [.sh (Cr.tb st d n), .sh (Cr.tb st d m), .own (d4a (gh st d n) (gh st d m) (List.range j) (List.range st.parties.length) ++ d4 (gh st d n) (gh st d m) j (List.range q)), .sh j, .any]) (xa_cons ((x_len (x_var (a := Cr.tb st d n) rfl)).eq (by rw [e1])) xa_nil) (by omega) ⟨.inl rfl, .inl rfl, .inl ?_, .inl rfl, .inl rfl, trivial⟩ (fun q hq => ?_) fun σ H h2 => h2.weak ⟨.inl rfl, .inl rfl, .inl ?_, .inr rfl, .inr rfl, trivial⟩
  · congr 1
    exact List.append_nil _
  · have hx : ∀ l : List Int, XD H [Sl.sh (Cr.tb st d n), .sh (Cr.tb st d m), .own l, .sh j, .sh q] (tOp (rIxL K) (tOp (rIxL K) (tVar 0) (tVar 3)) (tVar 4)) (gh st d n j q) := fun l => cell_tb (x_var rfl) (x_var rfl) (x_var rfl) hj hq
    have hy : ∀ l : List Int, XD H [Sl.sh (Cr.tb st d n), .sh (Cr.tb st d m), .own l, .sh j, .sh q] (tOp (rIxL K) (tOp (rIxL K) (tVar 1) (tVar 3)) (tVar 4)) (gh st d m j q) := fun l => cell_tb (x_var rfl) (x_var rfl) (x_var rfl) hj hq
    have hl2 := d4_le (gh st d n) (gh st d m) j (List.range q)
    rw [List.length_range] at hl2
    refine g_if (t_test (x_ne (hx _) (hy _))) (fun hb => ?_) fun hb => ?_
    · refine g_ext rfl (x_lst (l := [(j : Int), (q : Int), gh st d n j q, gh st d m j q]) (xa_cons (x_var (a := j) rfl).up (xa_cons (x_var (a := q) rfl).up (xa_cons (hx _) (xa_cons (hy _) xa_nil))))) ?_ fun σ H h2 => h2.weak ⟨.inl rfl, .inl rfl, .inl ?_, .inl rfl, .inr rfl, trivial⟩
      · rw [List.length_append]
        show _ + 4 ≤ _
        omega
      · congr 1
        rw [List.append_assoc]
        rw [List.range_succ (n := q), d4_snoc, if_neg (by simpa using hb)]
    · refine g_next fun σ H h2 => h2.weak ⟨.inl rfl, .inl rfl, .inl ?_, .inl rfl, .inr rfl, trivial⟩
      congr 1
      rw [List.range_succ (n := q), d4_snoc, if_pos (by simpa using hb), List.append_nil]
  · congr 1
    rw [List.range_succ (n := j), d4a_snoc]
def sp_restated (C : Addr) : Sp := SpN (ι := VS × Int × Int × Int) (fun i => [.sh (bk C i.1), .sh i.2.1, .sh i.2.2.1, .sh i.2.2.2]) (fun i => WF i.1) fun i => Valdgg.answerOf i.1 (.restated i.2.1 i.2.2.1 i.2.2.2)
theorem ok_restated (T : Top K mg C) : Df P w K mg base "restated" 5 ["book", "day", "first_n", "second_n"] (sp_restated C) := by
  have d_is_day := ok_is_day (P := P) (w := w) (base := base) T
  have d_is_known := ok_is_known (P := P) (w := w) (base := base) T
  have d_differences := ok_differences (P := P) (w := w) (base := base) T
  have d_held_table := ok_held_table (P := P) (w := w) (base := base) T
  refine T.f_restated.okN sc_restated (fun _ => rfl) (fun _ => rfl) ?_
  intro i hpre f cdv A outer s H Q E hr
  refine ⟨_, (pss_cons (ps_if (pt_not (pt_of (pw_and (pt_val (pe_df d_is_day (hr.mono (by decide)) rfl (pa_cons (pv 1) pa_nil))) (pw_and (pt_val (pe_df d_is_known (hr.mono (by decide)) rfl (pa_cons (pv 0) (pa_cons (pv 2) pa_nil)))) (pw_and1 (pt_val (pe_df d_is_known (hr.mono (by decide)) rfl (pa_cons (pv 0) (pa_cons (pv 3) pa_nil))))))))) (pss_one (ps_ret (pe_lst (pa_cons (pe_cst T.c_OUT_OF_RANGE) pa_nil)))) pss_nil)
        (pss_cons (ps_set (i := 4) sc_restated.nd rfl (Or.inl rfl) (pe_df d_differences (hr.mono (by decide)) rfl (pa_cons (pe_df d_held_table (hr.mono (by decide)) rfl (pa_cons (pv 0) (pa_cons (pv 1) (pa_cons (pv 2) pa_nil)))) (pa_cons (pe_df d_held_table (hr.mono (by decide)) rfl (pa_cons (pv 0) (pa_cons (pv 1) (pa_cons (pv 3) pa_nil)))) pa_nil))))
        (pss_one (ps_ret (pe_op op_cat (pe_lst (pa_cons pe_int (pa_cons (pe_op op_fdiv (pe_callB call_len_seq (by rfl) T.b_len (by decide +kernel) (pa_cons (pv 4) pa_nil)) pe_int) pa_nil))) (pv 4)))))), fun k => ?_⟩
  obtain ⟨st, d, n, m⟩ := i
  have wf : WF st := hpre
  have h1 := wf.np
  have h2 := wf.nr
  have ea := restated_is wf d n m
  show Go H [.sh (bk C st), .sh d, .sh n, .sh m, .any] _ _
  refine q_codeN (t_not (t_3 (t_B (x_cD d (xa_cons (x_var rfl) xa_nil) trivial)) (t_B (x_cD (st, n) (xa_cons (x_var rfl) (xa_cons (x_var rfl) xa_nil)) trivial)) (t_B (x_cD (st, m) (xa_cons (x_var rfl) (xa_cons (x_var rfl) xa_nil)) trivial)))) (x_lst (l := [-1]) (xa_cons x_int xa_nil)) (fun hb => (ea.trans (if_pos hb)).symm) k fun hb => ?_
  have eb := ea.trans (if_neg (by rw [hb]; exact Bool.false_ne_true))
  have k : RetN H Q _ := eb ▸ k
  have hh := not_of hb
  rw [Bool.and_eq_true, Bool.and_eq_true] at hh
  have d0 := (num_nn hh.1.1).1
  have kn : ∀ x, Valdgg.isKnowledge st x = true → 0 ≤ x ∧ x ≤ (st.records.length : Int) := fun x h => by
    unfold Valdgg.isKnowledge Valdgg.within at h
    simpa using h
  obtain ⟨n0, n1⟩ := kn _ hh.1.2
  obtain ⟨m0, m1⟩ := kn _ hh.2
  obtain ⟨d, rfl⟩ := Int.eq_ofNat_of_zero_le d0
  obtain ⟨n, rfl⟩ := Int.eq_ofNat_of_zero_le n0
  obtain ⟨m, rfl⟩ := Int.eq_ofNat_of_zero_le m0
  refine q_set (a := rest0 st d n m) (x_cN (st, d, n, m) (xa_cons (x_cD (st, d, n) (xa_cons (x_var rfl) (xa_cons (x_nat rfl) (xa_cons (x_nat rfl) xa_nil))) ⟨wf, by show n ≤ st.records.length; omega⟩) (xa_cons (x_cD (st, d, m) (xa_cons (x_var rfl) (xa_cons (x_nat rfl) (xa_cons (x_nat rfl) xa_nil))) ⟨wf, by show m ≤ st.records.length; omega⟩) xa_nil)) wf).d ?_
  refine g_retN (x_tell (m := 0) (x_var (a := rest0 st d n m) rfl) (x_half4 (x_len (x_var (a := rest0 st d n m) rfl))) ?_) k
  have hl := d4a_le (gh st d n) (gh st d m) (List.range st.parties.length) (List.range st.parties.length)
  rw [List.length_range] at hl
  have hl' : 4 * st.parties.length * st.parties.length ≤ 4 * st.parties.length * 12 := Nat.mul_le_mul (Nat.le_refl _) h1
  show (d4a _ _ _ _).length ≤ _
  omega
/-! ### status -/
def sp_status (C : Addr) : Sp := SpN (ι := VS) (fun i => [.sh (bk C i)]) (fun i => WF i) fun i => Valdgg.answerOf i .status
theorem ok_status (T : Top K mg C) : Df P w K mg base "status" 3 ["book"] (sp_status C) := by
  have d_companies_of := ok_companies_of (P := P) (w := w) (base := base) T
  have d_live_records := ok_live_records (P := P) (w := w) (base := base) T
  refine T.f_status.okN sc_status (fun _ => rfl) (fun _ => rfl) ?_
  intro i hpre f cdv A outer s H Q E hr
  refine ⟨_, (pss_cons (ps_set (i := 1) sc_status.nd rfl (Or.inl rfl) (pe_callB call_len_seq (by rfl) T.b_len (by decide +kernel) (pa_cons (pe_df d_companies_of (hr.mono (by decide)) rfl (pa_cons (pe_fld (pv 0) rfl) pa_nil)) pa_nil)))
        (pss_cons (ps_set (i := 2) sc_status.nd rfl (Or.inl rfl) (pe_df d_live_records (hr.mono (by decide)) rfl (pa_cons (pe_fld (pv 0) rfl) (pa_cons (pe_callB call_len_seq (by rfl) T.b_len (by decide +kernel) (pa_cons (pe_fld (pv 0) rfl) pa_nil)) pa_nil))))
        (pss_cons (ps_set (i := 3) sc_status.nd rfl (Or.inl rfl) (pe_callB call_len_seq (by rfl) T.b_len (by decide +kernel) (pa_cons (pe_lc (own := [("record", 5)]) (g := gName 5) rfl sc_status.nd (pi_list (pv 2)) (blkOk_by (N := ["book", "companies", "live", "acquisitions", "investors", "record"]) (sc := defScope s_status) (by decide +kernel)) (fun _ _ _ _ _ => (pg_name (i := 5) sc_status.nd rfl (Or.inl rfl))) (fun _ _ _ _ _ => (pts_one (pt_cmpR op_eq (pe_ix (ix_tupK rfl) (pv 5) pe_int (fun _ _ => rfl)) (pe_cst T.c_ACQUISITION) (nomark _)))) (fun _ _ _ _ _ => (pv 5))) pa_nil)))
        (pss_cons (ps_set (i := 4) sc_status.nd rfl (Or.inl rfl) (pe_op op_sub (pe_callB call_len_seq (by rfl) T.b_len (by decide +kernel) (pa_cons (pe_fld (pv 0) rfl) pa_nil)) (pv 1)))
        (pss_one (ps_ret (pe_lst (pa_cons pe_int (pa_cons (pv 4) (pa_cons (pv 1) (pa_cons (pe_callB call_len_seq (by rfl) T.b_len (by decide +kernel) (pa_cons (pe_fld (pv 0) rfl) pa_nil)) (pa_cons (pv 3) (pa_cons (pe_op op_sub (pe_callB call_len_seq (by rfl) T.b_len (by decide +kernel) (pa_cons (pv 2) pa_nil)) (pv 3)) pa_nil))))))))))))), fun k => ?_⟩
  have wf : WF i := hpre
  have h1 := wf.np
  have h2 := wf.nr
  have h3 := live_len i.records
  rw [status_is wf] at k
  show Go H [.sh (bk C i), .any, .any, .any, .any, .any] _ _
  refine q_set (a := ((comps i.parties).length : Int)) (x_len (x_cN i.parties (xa_cons (x_fldP T (x_var rfl)) xa_nil) (Nat.lt_of_le_of_lt h1 (by decide))).d) ?_
  refine q_set (a := (liveOf i.records).map trT) (XD.eq (x_cN (i.records, i.records.length) (xa_cons (x_fldR T (x_var rfl)) (xa_cons (x_nrec (x_fldR T (x_var rfl))) xa_nil)) ⟨Nat.le_refl _, by show i.records.length ≤ 10000; omega⟩).d (by show (liveOf (i.records.take i.records.length)).map trT = _; rw [List.take_length])) ?_
  refine q_set (a := (acqs i : Int)) (XD.eq (x_len (x_lcI (m := 2) (l := (liveOf i.records).map trT) (fun a : Tp => decide (a.l.getD 0 0 = 0)) (fun a => a) rfl (by rw [List.length_map]; omega) (fun H' e j a ha => ?_) fun H' e j a ha _ => ?_).d) ?_) ?_
  · obtain ⟨t, _, rfl⟩ := tr_at ha
    refine t_test (x_eq (x_ixT (x_var (a := trT t) rfl) x_int (j := 0) ?_) x_int)
    show (tradeRow t)[0]? = _
    rw [trade_flds]; rfl
  · exact x_var rfl
  · rw [List.map_id']
    congr 1
    unfold acqs
    rw [List.filter_map, List.length_map]
    congr 2
    funext t
    show decide ((tradeRow t).getD 0 0 = 0) = _
    rw [trade_flds]
    show decide (fld _ 0 = 0) = _
    unfold fld recRow
    by_cases h : 0 < t.percent
    · simp [h]
    · simp [h]
  refine q_set (a := (i.parties.length : Int) - ((comps i.parties).length : Int)) (x_sub (x_len (x_fldP T (x_var rfl))) (x_var rfl)) ?_
  exact g_retN (x_lst (l := [0, (i.parties.length : Int) - ((comps i.parties).length : Int), ((comps i.parties).length : Int), (i.records.length : Int), (acqs i : Int), ((liveOf i.records).length : Int) - (acqs i : Int)]) (xa_cons x_int (xa_cons (x_var rfl) (xa_cons (x_var rfl) (xa_cons (x_nrec (x_fldR T (x_var rfl))) (xa_cons (x_var rfl) (xa_cons (x_sub ((x_len (x_var (a := (liveOf i.records).map trT) rfl)).eq (by rw [List.length_map])) (x_var rfl)) xa_nil))))))) k
end
end Cr
namespace Cr
open PySem PySem.Spec PyProof.Rows L2 Evl
section
variable {He : Hp} {S T : List Sl} {tt : TT} {D : Ends} {ts tz tw : TS}
/-- an if without an else: both ways lead to the same slots -/
theorem q_pick (S' : List Sl) {b : Bool} (h : XT He S tt b) (h1 : b = true → Go He S' tz D → Go He S ts { D with nx := tz D }) (h2 : b = false → Weak S S') (k : Go He S' tz D) : Go He S (tSeq (tIfS tt ts tNext) tz) D := g_when h (fun hb => h1 hb k) fun hb => k.weak (h2 hb)
end
section
variable {P : Program} {w : World} {K : PySem.W.Frag} {mg : Str → Option Value} {base : Heap} {C : Addr}
theorem tb_ok {st : VS} (wf : WF st) (d n p : Nat) (hp : p < st.parties.length) : Sq (Cr.tb st d n) ∧ (Cr.tb st d n).length = st.parties.length ∧ p < (Cr.tb st d n).length ∧ (Cr.tb st d n).length ≤ 1000 := by
  have e : (Cr.tb st d n).length = st.parties.length := tab_len _ _ _
  have := wf.np
  exact ⟨tab_sq _ _ _, e, by rw [e]; exact hp, by rw [e]; omega⟩
theorem tab_ok {ps : List Bool} (hn : ps.length ≤ 1000) (ts : List Valdgg.Trade) (d p : Nat) (hp : p < ps.length) : Sq (tabOf ps.length ts d) ∧ (tabOf ps.length ts d).length = ps.length ∧ p < (tabOf ps.length ts d).length ∧ (tabOf ps.length ts d).length ≤ 1000 := by
  have e : (tabOf ps.length ts d).length = ps.length := tab_len _ _ _
  exact ⟨tab_sq _ _ _, e, by rw [e]; exact hp, by rw [e]; omega⟩
def sp_controls (C : Addr) : Sp := SpN (ι := VS × Int × Int × Int) (fun i => [.sh (bk C i.1), .sh i.2.1, .sh i.2.2.1, .sh i.2.2.2]) (fun i => WF i.1) fun i => Valdgg.answerOf i.1 (.controls i.2.1 i.2.2.1 i.2.2.2)
theorem ok_controls (T : Top K mg C) : Df P w K mg base "controls" 5 ["book", "day", "party", "n"] (sp_controls C) := by
  have d_party_code := ok_party_code (P := P) (w := w) (base := base) T
  have d_controlled_by := ok_controlled_by (P := P) (w := w) (base := base) T
  have d_held_table := ok_held_table (P := P) (w := w) (base := base) T
  refine T.f_controls.okN sc_controls (fun _ => rfl) (fun _ => rfl) ?_
  intro i hpre f cdv A outer s H Q E hr
  refine ⟨_, (pss_cons (ps_set (i := 4) sc_controls.nd rfl (Or.inl rfl) (pe_df d_party_code (hr.mono (by decide)) rfl (pa_cons (pv 0) (pa_cons (pv 1) (pa_cons (pv 2) (pa_cons (pv 3) pa_nil))))))
        (pss_cons (ps_if (pt_cmpR op_ne (pv 4) (pe_cst T.c_FINE) (nomark _)) (pss_one (ps_ret (pe_lst (pa_cons (pv 4) pa_nil)))) pss_nil)
        (pss_cons (ps_set (i := 5) sc_controls.nd rfl (Or.inl rfl) (pe_df d_controlled_by (hr.mono (by decide)) rfl (pa_cons (pe_df d_held_table (hr.mono (by decide)) rfl (pa_cons (pv 0) (pa_cons (pv 1) (pa_cons (pv 3) pa_nil)))) (pa_cons (pe_fld (pv 0) rfl) (pa_cons (pv 2) pa_nil)))))
        (pss_one (ps_ret (pe_op op_cat (pe_lst (pa_cons pe_int (pa_cons (pe_callB call_len_seq (by rfl) T.b_len (by decide +kernel) (pa_cons (pv 5) pa_nil)) pa_nil))) (pv 5))))))), fun k => ?_⟩
  obtain ⟨st, d, p, n⟩ := i
  have wf : WF st := hpre
  have h1 := wf.np
  have h2 := wf.nr
  obtain ⟨ea, eb⟩ := ans_eq (controls_is st d p n)
  show Go H [.sh (bk C st), .sh d, .sh p, .sh n, .any, .any] _ _
  refine q_set (x_cD (st, d, p, n) (xa_cons (x_var rfl) (xa_cons (x_var rfl) (xa_cons (x_var rfl) (xa_cons (x_var rfl) xa_nil)))) trivial) (q_bad (c := pcode st d p n) rfl k ea fun hz => ?_)
  have k : RetN H Q _ := (eb hz).symm ▸ k
  obtain ⟨⟨c0, c1⟩, ⟨d0, d1⟩, n0, n1⟩ := pcode_0 hz
  obtain ⟨d, rfl⟩ := Int.eq_ofNat_of_zero_le d0
  obtain ⟨p, rfl⟩ := Int.eq_ofNat_of_zero_le c0
  obtain ⟨n, rfl⟩ := Int.eq_ofNat_of_zero_le n0
  have hn : n ≤ st.records.length := by omega
  refine q_set (a := ctlBy st.parties (Cr.tb st d n) p) (x_cN (Cr.tb st d n, st.parties, p) (xa_cons (x_cD (st, d, n) (xa_cons (x_var rfl) (xa_cons (x_nat rfl) (xa_cons (x_nat rfl) xa_nil))) ⟨wf, hn⟩) (xa_cons (x_fldP T (x_var rfl)) (xa_cons (x_nat rfl) xa_nil))) (tb_ok wf d n p (by omega))).d ?_
  have hl := ctlBy_len st.parties (Cr.tb st d n) p
  exact g_retN (x_tell (m := 0) (XD.ups (x_var (a := ctlBy st.parties (Cr.tb st d n) p) rfl)) (x_len (x_var (a := ctlBy st.parties (Cr.tb st d n) p) rfl)) (by rw [List.length_map]; omega)) k
def sp_control_order (C : Addr) : Sp := SpN (ι := VS × Int × Int × Int) (fun i => [.sh (bk C i.1), .sh i.2.1, .sh i.2.2.1, .sh i.2.2.2]) (fun i => WF i.1) fun i => Valdgg.answerOf i.1 (.controlOrder i.2.1 i.2.2.1 i.2.2.2)
theorem ok_control_order (T : Top K mg C) : Df P w K mg base "control_order" 4 ["book", "day", "party", "n"] (sp_control_order C) := by
  have d_party_code := ok_party_code (P := P) (w := w) (base := base) T
  have d_control_rows := ok_control_rows (P := P) (w := w) (base := base) T
  have d_held_table := ok_held_table (P := P) (w := w) (base := base) T
  refine T.f_control_order.okN sc_control_order (fun _ => rfl) (fun _ => rfl) ?_
  intro i hpre f cdv A outer s H Q E hr
  refine ⟨_, (pss_cons (ps_set (i := 4) sc_control_order.nd rfl (Or.inl rfl) (pe_df d_party_code (hr.mono (by decide)) rfl (pa_cons (pv 0) (pa_cons (pv 1) (pa_cons (pv 2) (pa_cons (pv 3) pa_nil))))))
        (pss_cons (ps_if (pt_cmpR op_ne (pv 4) (pe_cst T.c_FINE) (nomark _)) (pss_one (ps_ret (pe_lst (pa_cons (pv 4) pa_nil)))) pss_nil)
        (pss_cons (ps_set (i := 5) sc_control_order.nd rfl (Or.inl rfl) (pe_df d_control_rows (hr.mono (by decide)) rfl (pa_cons (pe_df d_held_table (hr.mono (by decide)) rfl (pa_cons (pv 0) (pa_cons (pv 1) (pa_cons (pv 3) pa_nil)))) (pa_cons (pe_fld (pv 0) rfl) (pa_cons (pv 2) pa_nil)))))
        (pss_cons (ps_set (i := 6) sc_control_order.nd rfl (Or.inl rfl) (pe_lst (pa_cons pe_int (pa_cons (pe_callB call_len_seq (by rfl) T.b_len (by decide +kernel) (pa_cons (pv 5) pa_nil)) pa_nil))))
        (pss_cons (ps_for PassesOwn.never rfl (pi_list (pv 5)) (pg_tup rfl (pgs_cons (pg_name (i := 7) sc_control_order.nd rfl (Or.inl rfl)) (pgs_cons (pg_name (i := 8) sc_control_order.nd rfl (Or.inl rfl)) (pgs_cons (pg_name (i := 9) sc_control_order.nd rfl (Or.inl rfl)) pgs_nil)))) (pss_one (ps_expr (pe_bm PySem.F.plainAttrs_list PySem.F.slot_list_extend PySem.F.type_list_extend mt_extend (pv 6) (pa_cons (pe_lst (pa_cons (pv 7) (pa_cons (pv 8) (pa_cons (pv 9) pa_nil)))) pa_nil)))))
        (pss_one (ps_ret (pv 6)))))))), fun k => ?_⟩
  obtain ⟨st, d, p, n⟩ := i
  have wf : WF st := hpre
  have h1 := wf.np
  have h2 := wf.nr
  obtain ⟨ea, eb⟩ := ans_eq (order_answer st d p n)
  show Go H [.sh (bk C st), .sh d, .sh p, .sh n, .any, .any, .any, .any, .any, .any] _ _
  refine q_set (x_cD (st, d, p, n) (xa_cons (x_var rfl) (xa_cons (x_var rfl) (xa_cons (x_var rfl) (xa_cons (x_var rfl) xa_nil)))) trivial) (q_bad (c := pcode st d p n) rfl k ea fun hz => ?_)
  have k : RetN H Q _ := (eb hz).symm ▸ k
  obtain ⟨⟨c0, c1⟩, ⟨d0, d1⟩, n0, n1⟩ := pcode_0 hz
  obtain ⟨d, rfl⟩ := Int.eq_ofNat_of_zero_le d0
  obtain ⟨p, rfl⟩ := Int.eq_ofNat_of_zero_le c0
  obtain ⟨n, rfl⟩ := Int.eq_ofNat_of_zero_le n0
  have hn : n ≤ st.records.length := by omega
  have hl : (ctl st.parties (Cr.tb st d n) p).length ≤ st.parties.length := by
    rw [ctl_eq]
    exact Nat.le_trans (rows_len (compsL_nodup st.parties) _) (comps_len _)
  refine q_set (a := (ctl st.parties (Cr.tb st d n) p).map ctT) (x_cN (Cr.tb st d n, st.parties, p) (xa_cons (x_cD (st, d, n) (xa_cons (x_var rfl) (xa_cons (x_nat rfl) (xa_cons (x_nat rfl) xa_nil))) ⟨wf, hn⟩) (xa_cons (x_fldP T (x_var rfl)) (xa_cons (x_nat rfl) xa_nil))) (tb_ok wf d n p (by omega))).d ?_
  refine q_own (l := [0, ((ctl st.parties (Cr.tb st d n) p).length : Int)]) (xa_cons x_int (xa_cons ((x_len (x_var (a := (ctl st.parties (Cr.tb st d n) p).map ctT) rfl)).eq (by rw [List.length_map])) xa_nil)) ?_
  refine q_forT3 (m := 5) (l := ctl st.parties (Cr.tb st d n) p) ctT (fun z => (z.1 : Int)) (fun z => (z.2.1 : Int)) (fun z => z.2.2) (fun _ _ => rfl) (fun j => [.sh (bk C st), .sh (d : Int), .sh (p : Int), .sh (n : Int), .sh (pcode st d p n), .sh ((ctl st.parties (Cr.tb st d n) p).map ctT), .own ([0, ((ctl st.parties (Cr.tb st d n) p).length : Int)] ++ flat3 ((ctl st.parties (Cr.tb st d n) p).take j)), .any, .any, .any]) rfl (Weak.refl _) (fun H1 e1 j z hz => ?_) (g_retO rfl ?_)
  · have hl2 := flat3_len ((ctl st.parties (Cr.tb st d n) p).take j)
    rw [List.length_take] at hl2
    refine g_ext rfl (x_lst (l := [(z.1 : Int), (z.2.1 : Int), z.2.2]) (xa_cons (x_var rfl) (xa_cons (x_var rfl) (xa_cons (x_var rfl) xa_nil)))) ?_ fun σ H h2 => h2.weak ⟨.inl rfl, .inl rfl, .inl rfl, .inl rfl, .inl rfl, .inl rfl, .inl ?_, .inr rfl, .inr rfl, .inr rfl, trivial⟩
    · simp only [List.length_append, List.length_cons, List.length_nil]
      omega
    · congr 1
      rw [List.append_assoc, List.take_add_one, hz]
      show _ = [0, _] ++ (flat3 _ ++ [_, _, _])
      rw [← flat3_snoc]; rfl
  · rw [List.take_length]; exact k
def sp_controllers (C : Addr) : Sp := SpN (ι := VS × Int × Int × Int) (fun i => [.sh (bk C i.1), .sh i.2.1, .sh i.2.2.1, .sh i.2.2.2]) (fun i => WF i.1) fun i => Valdgg.answerOf i.1 (.controllers i.2.1 i.2.2.1 i.2.2.2)
theorem ok_controllers (T : Top K mg C) : Df P w K mg base "controllers" 5 ["book", "day", "company", "n"] (sp_controllers C) := by
  have d_company_code := ok_company_code (P := P) (w := w) (base := base) T
  have d_held_table := ok_held_table (P := P) (w := w) (base := base) T
  have d_controlled_by := ok_controlled_by (P := P) (w := w) (base := base) T
  refine T.f_controllers.okN sc_controllers (fun _ => rfl) (fun _ => rfl) ?_
  intro i hpre f cdv A outer s H Q E hr
  refine ⟨_, (pss_cons (ps_set (i := 4) sc_controllers.nd rfl (Or.inl rfl) (pe_df d_company_code (hr.mono (by decide)) rfl (pa_cons (pv 0) (pa_cons (pv 1) (pa_cons (pv 2) (pa_cons (pv 3) pa_nil))))))
        (pss_cons (ps_if (pt_cmpR op_ne (pv 4) (pe_cst T.c_FINE) (nomark _)) (pss_one (ps_ret (pe_lst (pa_cons (pv 4) pa_nil)))) pss_nil)
        (pss_cons (ps_set (i := 5) sc_controllers.nd rfl (Or.inl rfl) (pe_df d_held_table (hr.mono (by decide)) rfl (pa_cons (pv 0) (pa_cons (pv 1) (pa_cons (pv 3) pa_nil)))))
        (pss_cons (ps_set (i := 6) sc_controllers.nd rfl (Or.inl rfl) (pe_lst pa_nil))
        (pss_cons (ps_for PassesOwn.never rfl (pi_range1 rfl T.b_range (pa_cons (pe_callB call_len_seq (by rfl) T.b_len (by decide +kernel) (pa_cons (pe_fld (pv 0) rfl) pa_nil)) pa_nil)) (pg_name (i := 7) sc_controllers.nd rfl (Or.inl rfl)) (pss_one (ps_if (pt_cmpR op_in_seq (pv 2) (pe_df d_controlled_by (hr.mono (by decide)) rfl (pa_cons (pv 5) (pa_cons (pe_fld (pv 0) rfl) (pa_cons (pv 7) pa_nil)))) rfl) (pss_one (ps_expr (pe_bm PySem.F.plainAttrs_list PySem.F.slot_list_append PySem.F.type_list_append mt_append (pv 6) (pa_cons (pv 7) pa_nil)))) pss_nil)))
        (pss_one (ps_ret (pe_op op_cat (pe_lst (pa_cons pe_int (pa_cons (pe_callB call_len_seq (by rfl) T.b_len (by decide +kernel) (pa_cons (pv 6) pa_nil)) pa_nil))) (pv 6))))))))), fun k => ?_⟩
  obtain ⟨st, d, c, n⟩ := i
  have wf : WF st := hpre
  have h1 := wf.np
  have h2 := wf.nr
  obtain ⟨ea, eb⟩ := ans_eq (controllers_is st d c n)
  show Go H [.sh (bk C st), .sh d, .sh c, .sh n, .any, .any, .any, .any] _ _
  refine q_set (x_cD (st, d, c, n) (xa_cons (x_var rfl) (xa_cons (x_var rfl) (xa_cons (x_var rfl) (xa_cons (x_var rfl) xa_nil)))) trivial) (q_bad (c := ccode st d c n) rfl k ea fun hz => ?_)
  have k : RetN H Q _ := (eb hz).symm ▸ k
  obtain ⟨⟨c0, c1⟩, ⟨d0, d1⟩, n0, n1⟩ := pcode_0 (ccode_0 hz).1
  obtain ⟨d, rfl⟩ := Int.eq_ofNat_of_zero_le d0
  obtain ⟨c, rfl⟩ := Int.eq_ofNat_of_zero_le c0
  obtain ⟨n, rfl⟩ := Int.eq_ofNat_of_zero_le n0
  have hn : n ≤ st.records.length := by omega
  refine q_set (a := Cr.tb st d n) (x_cD (st, d, n) (xa_cons (x_var rfl) (xa_cons (x_nat rfl) (xa_cons (x_nat rfl) xa_nil))) ⟨wf, hn⟩) ?_
  have hl : ∀ j, (ctrP st d c n (List.range j)).length ≤ j := fun j => by
    have := List.length_filter_le (fun p => decide (c ∈ ctlBy st.parties (Cr.tb st d n) p)) (List.range j)
    rw [List.length_range] at this
    exact this
  refine q_nil (α := Nat) (q_range (n := st.parties.length) (fun j => [.sh (bk C st), .sh (d : Int), .sh (c : Int), .sh (n : Int), .sh (ccode st d c n), .sh (Cr.tb st d n), .own (ctrP st d c n (List.range j)), .any]) (xa_cons (x_len (x_fldP T (x_var rfl))) xa_nil) (by omega) (Weak.refl _) (fun j hj => ?_) ?_)
  · have hlj := hl j
    refine g_if (t_test (x_inN (x_nat (n := c) rfl) (x_cN (Cr.tb st d n, st.parties, j) (xa_cons (x_var rfl) (xa_cons (x_fldP T (x_var rfl)) (xa_cons (x_var rfl) xa_nil))) (tb_ok wf d n j hj)).d)) (fun hb => ?_) fun hb => ?_
    · refine g_app (a := j) rfl (x_var rfl) (by omega) fun σ H h2 => h2.weak ⟨.inl rfl, .inl rfl, .inl rfl, .inl rfl, .inl rfl, .inl rfl, .inl ?_, .inr rfl, trivial⟩
      congr 1
      unfold ctrP
      rw [List.range_succ, List.filter_append]
      congr 1
      rw [List.filter_cons, if_pos hb]; rfl
    · refine g_next fun σ H h2 => h2.weak ⟨.inl rfl, .inl rfl, .inl rfl, .inl rfl, .inl rfl, .inl rfl, .inl ?_, .inr rfl, trivial⟩
      congr 1
      unfold ctrP
      rw [List.range_succ, List.filter_append, List.filter_cons, if_neg (by rw [show decide (c ∈ ctlBy st.parties (Cr.tb st d n) j) = false from hb]; exact Bool.false_ne_true)]
      exact List.append_nil _
  · have := hl st.parties.length
    exact g_retN (x_tell (m := 0) (XD.ups (x_own rfl)) (x_len (x_own (l := ctrP st d c n (List.range st.parties.length)) rfl)) (by rw [List.length_map]; omega)) k
theorem bi_ne (a b : Bool) : (!decide (bi a = bi b)) = !(a == b) := by cases a <;> cases b <;> rfl
def sp_control_changes : Sp := SpN (ι := List Bool × List Valdgg.Trade × Nat × Nat) (fun i => [.sh i.1, .sh (i.2.1.map trT), .sh i.2.2.1, .sh i.2.2.2]) (fun i => i.1.length ≤ 1000 ∧ InP i.1 i.2.1 ∧ i.2.1.length < 64 ∧ i.2.2.1 < i.1.length) fun i => chgP i.1 i.2.1 i.2.2.1 i.2.2.2
theorem ok_control_changes (T : Top K mg C) : Df P w K mg base "control_changes" 5 ["parties", "live", "party", "company"] sp_control_changes := by
  have d_record_days := ok_record_days (P := P) (w := w) (base := base) T
  have d_controlled_by := ok_controlled_by (P := P) (w := w) (base := base) T
  have d_holdings_on := ok_holdings_on (P := P) (w := w) (base := base) T
  refine T.f_control_changes.okN sc_control_changes (fun _ => rfl) (fun _ => rfl) ?_
  intro i hpre f cdv A outer s H Q E hr
  refine ⟨_, (pss_cons (ps_set (i := 4) sc_control_changes.nd rfl (Or.inl rfl) (pe_lst pa_nil))
        (pss_cons (ps_set (i := 5) sc_control_changes.nd rfl (Or.inl rfl) pe_int)
        (pss_cons (ps_for PassesOwn.never rfl (pi_list (pe_df d_record_days (hr.mono (by decide)) rfl (pa_cons (pv 1) pa_nil))) (pg_name (i := 6) sc_control_changes.nd rfl (Or.inl rfl)) (pss_cons (ps_set (i := 7) sc_control_changes.nd rfl (Or.inl rfl) pe_int)
        (pss_cons (ps_if (pt_cmpR op_in_seq (pv 3) (pe_df d_controlled_by (hr.mono (by decide)) rfl (pa_cons (pe_df d_holdings_on (hr.mono (by decide)) rfl (pa_cons (pv 0) (pa_cons (pv 1) (pa_cons (pv 6) pa_nil)))) (pa_cons (pv 0) (pa_cons (pv 2) pa_nil)))) rfl) (pss_one (ps_set (i := 7) sc_control_changes.nd rfl (Or.inl rfl) pe_int)) pss_nil)
        (pss_cons (ps_if (pt_cmpR op_ne (pv 7) (pv 5) (nomark _)) (pss_one (ps_expr (pe_bm PySem.F.plainAttrs_list PySem.F.slot_list_extend PySem.F.type_list_extend mt_extend (pv 4) (pa_cons (pe_lst (pa_cons (pv 6) (pa_cons (pv 7) pa_nil))) pa_nil)))) pss_nil)
        (pss_one (ps_set (i := 5) sc_control_changes.nd rfl (Or.inl rfl) (pv 7)))))))
        (pss_one (ps_ret (pv 4)))))), fun k => ?_⟩
  obtain ⟨ps, ts, p, c⟩ := i
  obtain ⟨hn, hi, hz, hp⟩ := hpre
  have hn : ps.length ≤ 1000 := hn
  have hi : InP ps ts := hi
  have hz : ts.length < 64 := hz
  have hp : p < ps.length := hp
  have hdl := days_len ts
  show Go H [.sh ps, .sh (ts.map trT), .sh p, .sh c, .any, .any, .any, .any] _ _
  refine q_nil (α := Int) (q_setN 4 x_int.int (q_forN 4 (l := daysOf ts) (fun j => [.sh ps, .sh (ts.map trT), .sh p, .sh c, .own (flatB (chs ps ts p c false ((daysOf ts).take j))), .sh (bi (lastB ps ts p c false ((daysOf ts).take j))), .any, .any]) (x_cN ts (xa_cons (x_var rfl) xa_nil) hz) (Weak.refl _) (fun H1 e1 j d hd => ?_) (g_retO rfl ?_)))
  · have hl : (flatB (chs ps ts p c false ((daysOf ts).take j))).length ≤ 128 := by
      rw [flatB_len]
      have := chs_len ps ts p c ((daysOf ts).take j) false
      rw [List.length_take] at this
      omega
    have etk : (daysOf ts).take (j + 1) = (daysOf ts).take j ++ [d] := by rw [List.take_add_one, hd]; rfl
    refine q_setN 4 (x_int (n := 0)).int ?_
    refine q_pick [.sh ps, .sh (ts.map trT), .sh p, .sh c, .own (flatB (chs ps ts p c false ((daysOf ts).take j))), .sh (bi (lastB ps ts p c false ((daysOf ts).take j))), .sh d, .sh (bi (ctlD ps ts p c d))] (b := ctlD ps ts p c d) (t_test (x_inN (x_var (a := c) rfl) (x_cN (tabOf ps.length ts d, ps, p) (xa_cons (x_cD (ps, ts, d) (xa_cons (x_var rfl) (xa_cons (x_var rfl) (xa_cons (x_var rfl) xa_nil))) ⟨hn, hi.two⟩) (xa_cons (x_var rfl) (xa_cons (x_var rfl) xa_nil))) (tab_ok hn ts d p hp)).d)) (fun hb k => g_setN 4 (x_int (n := 1)).int fun σ H h2 => ?_) (fun hb => ?_) ?_
    · rw [hb] at k
      exact k σ H h2
    · rw [hb]
      exact Weak.refl _
    · refine g_when (t_test (x_ne (x_var (a := bi (ctlD ps ts p c d)) rfl) (x_var (a := bi (lastB ps ts p c false ((daysOf ts).take j))) rfl))) (fun hb => ?_) fun hb => ?_
      · rw [bi_ne, Bool.not_eq_true'] at hb
        refine g_ext rfl (x_lst (l := [(d : Int), bi (ctlD ps ts p c d)]) (xa_cons (x_var (a := d) rfl).up (xa_cons (x_var rfl) xa_nil))) ?_ (g_setN 4 (x_var (a := bi (ctlD ps ts p c d)) rfl).int fun σ H h2 => h2.weak ⟨.inl rfl, .inl rfl, .inl rfl, .inl rfl, .inl ?_, .inl ?_, .inr rfl, .inr rfl, trivial⟩)
        · simp only [List.length_cons, List.length_nil]
          omega
        · rw [etk, chs_snoc, hb, if_neg Bool.false_ne_true, flatB_snoc]
        · rw [etk, lastB_snoc]
      · rw [bi_ne, Bool.not_eq_false'] at hb
        refine g_setN 4 (x_var (a := bi (ctlD ps ts p c d)) rfl).int fun σ H h2 => h2.weak ⟨.inl rfl, .inl rfl, .inl rfl, .inl rfl, .inl ?_, .inl ?_, .inr rfl, .inr rfl, trivial⟩
        · rw [etk, chs_snoc, hb, if_pos rfl, List.append_nil]
        · rw [etk, lastB_snoc]
  · rw [List.take_length]; exact k
def sp_control_days (C : Addr) : Sp := SpN (ι := VS × Int × Int × Int) (fun i => [.sh (bk C i.1), .sh i.2.1, .sh i.2.2.1, .sh i.2.2.2]) (fun i => WF i.1) fun i => Valdgg.answerOf i.1 (.controlDays i.2.1 i.2.2.1 i.2.2.2)
theorem ok_control_days (T : Top K mg C) : Df P w K mg base "control_days" 6 ["book", "party", "company", "n"] (sp_control_days C) := by
  have d_pair_code := ok_pair_code (P := P) (w := w) (base := base) T
  have d_control_changes := ok_control_changes (P := P) (w := w) (base := base) T
  have d_live_records := ok_live_records (P := P) (w := w) (base := base) T
  refine T.f_control_days.okN sc_control_days (fun _ => rfl) (fun _ => rfl) ?_
  intro i hpre f cdv A outer s H Q E hr
  refine ⟨_, (pss_cons (ps_set (i := 4) sc_control_days.nd rfl (Or.inl rfl) (pe_df d_pair_code (hr.mono (by decide)) rfl (pa_cons (pv 0) (pa_cons (pv 1) (pa_cons (pv 2) (pa_cons (pv 3) pa_nil))))))
        (pss_cons (ps_if (pt_cmpR op_ne (pv 4) (pe_cst T.c_FINE) (nomark _)) (pss_one (ps_ret (pe_lst (pa_cons (pv 4) pa_nil)))) pss_nil)
        (pss_cons (ps_set (i := 5) sc_control_days.nd rfl (Or.inl rfl) (pe_df d_control_changes (hr.mono (by decide)) rfl (pa_cons (pe_fld (pv 0) rfl) (pa_cons (pe_df d_live_records (hr.mono (by decide)) rfl (pa_cons (pe_fld (pv 0) rfl) (pa_cons (pv 3) pa_nil))) (pa_cons (pv 1) (pa_cons (pv 2) pa_nil))))))
        (pss_one (ps_ret (pe_op op_cat (pe_lst (pa_cons pe_int (pa_cons (pe_op op_fdiv (pe_callB call_len_seq (by rfl) T.b_len (by decide +kernel) (pa_cons (pv 5) pa_nil)) pe_int) pa_nil))) (pv 5))))))), fun k => ?_⟩
  obtain ⟨st, p, c, n⟩ := i
  have wf : WF st := hpre
  have h1 := wf.np
  have h2 := wf.nr
  obtain ⟨ea, eb⟩ := ans_eq (days_answer st p c n)
  show Go H [.sh (bk C st), .sh p, .sh c, .sh n, .any, .any] _ _
  refine q_set (x_cD (st, p, c, n) (xa_cons (x_var rfl) (xa_cons (x_var rfl) (xa_cons (x_var rfl) (xa_cons (x_var rfl) xa_nil)))) trivial) (q_bad (c := prcode st p c n) rfl k ea fun hz => ?_)
  have k : RetN H Q _ := (eb hz).symm ▸ k
  obtain ⟨ok, p0, c0, n0, n1⟩ := prcode_0 hz
  have p1 := ok.p0
  obtain ⟨p, rfl⟩ := Int.eq_ofNat_of_zero_le p0
  obtain ⟨c, rfl⟩ := Int.eq_ofNat_of_zero_le c0
  obtain ⟨n, rfl⟩ := Int.eq_ofNat_of_zero_le n0
  have hn : n ≤ st.records.length := by omega
  have hl := live_len (st.records.take n)
  rw [List.length_take] at hl
  refine q_set (a := chgP st.parties (liveOf (st.records.take n)) p c) (x_cN (st.parties, liveOf (st.records.take n), p, c) (xa_cons (x_fldP T (x_var rfl)) (xa_cons (x_cN (st.records, n) (xa_cons (x_fldR T (x_var rfl)) (xa_cons (x_nat rfl) xa_nil)) ⟨hn, by show n ≤ 10000; omega⟩).d (xa_cons (x_nat rfl) (xa_cons (x_nat rfl) xa_nil)))) ⟨by show st.parties.length ≤ 1000; omega, wf.inP n, by show (liveOf (st.records.take n)).length < 64; omega, by show p < st.parties.length; omega⟩).d ?_
  refine g_retN (x_tell (m := 0) (x_var (a := chgP st.parties (liveOf (st.records.take n)) p c) rfl) (x_half (x_len (x_var (a := chgP st.parties (liveOf (st.records.take n)) p c) rfl))) ?_) k
  have h3 := days_len (liveOf (st.records.take n))
  have h4 := chs_len st.parties (liveOf (st.records.take n)) p c (daysOf (liveOf (st.records.take n))) false
  unfold chgP
  rw [flatB_len]
  omega
def sp_method_of (C : Addr) : Sp := SpN (ι := VS × Int × Int × Int × Int) (fun i => [.sh (bk C i.1), .sh i.2.1, .sh i.2.2.1, .sh i.2.2.2.1, .sh i.2.2.2.2]) (fun i => WF i.1) fun i => Valdgg.answerOf i.1 (.method i.2.1 i.2.2.1 i.2.2.2.1 i.2.2.2.2)
theorem ok_method_of (T : Top K mg C) : Df P w K mg base "method_of" 5 ["book", "day", "party", "company", "n"] (sp_method_of C) := by
  have d_pair_day_code := ok_pair_day_code (P := P) (w := w) (base := base) T
  have d_held_table := ok_held_table (P := P) (w := w) (base := base) T
  have d_controlled_by := ok_controlled_by (P := P) (w := w) (base := base) T
  have d_held_in := ok_held_in (P := P) (w := w) (base := base) T
  refine T.f_method_of.okN sc_method_of (fun _ => rfl) (fun _ => rfl) ?_
  intro i hpre f cdv A outer s H Q E hr
  refine ⟨_, (pss_cons (ps_set (i := 5) sc_method_of.nd rfl (Or.inl rfl) (pe_df d_pair_day_code (hr.mono (by decide)) rfl (pa_cons (pv 0) (pa_cons (pv 1) (pa_cons (pv 2) (pa_cons (pv 3) (pa_cons (pv 4) pa_nil)))))))
        (pss_cons (ps_if (pt_cmpR op_ne (pv 5) (pe_cst T.c_FINE) (nomark _)) (pss_one (ps_ret (pe_lst (pa_cons (pv 5) pa_nil)))) pss_nil)
        (pss_cons (ps_set (i := 6) sc_method_of.nd rfl (Or.inl rfl) (pe_df d_held_table (hr.mono (by decide)) rfl (pa_cons (pv 0) (pa_cons (pv 1) (pa_cons (pv 4) pa_nil)))))
        (pss_cons (ps_set (i := 7) sc_method_of.nd rfl (Or.inl rfl) (pe_df d_controlled_by (hr.mono (by decide)) rfl (pa_cons (pv 6) (pa_cons (pe_fld (pv 0) rfl) (pa_cons (pv 2) pa_nil)))))
        (pss_cons (ps_set (i := 8) sc_method_of.nd rfl (Or.inl rfl) (pe_df d_held_in (hr.mono (by decide)) rfl (pa_cons (pv 6) (pa_cons (pe_op op_cat (pe_lst (pa_cons (pv 2) pa_nil)) (pv 7)) (pa_cons (pv 3) pa_nil)))))
        (pss_cons (ps_if (pt_cmpR op_in_seq (pv 3) (pv 7) rfl) (pss_one (ps_ret (pe_lst (pa_cons pe_int (pa_cons pe_int (pa_cons (pv 8) pa_nil)))))) pss_nil)
        (pss_cons (ps_if (pt_cmpR op_ge (pv 8) pe_int (nomark _)) (pss_one (ps_ret (pe_lst (pa_cons pe_int (pa_cons pe_int (pa_cons (pv 8) pa_nil)))))) pss_nil)
        (pss_one (ps_ret (pe_lst (pa_cons pe_int (pa_cons pe_int (pa_cons (pv 8) pa_nil))))))))))))), fun k => ?_⟩
  obtain ⟨st, d, p, c, n⟩ := i
  have wf : WF st := hpre
  have h1 := wf.np
  have h2 := wf.nr
  obtain ⟨ea, eb⟩ := ans_eq (method_is st d p c n)
  show Go H [.sh (bk C st), .sh d, .sh p, .sh c, .sh n, .any, .any, .any, .any] _ _
  refine q_set (x_cD (st, d, p, c, n) (xa_cons (x_var rfl) (xa_cons (x_var rfl) (xa_cons (x_var rfl) (xa_cons (x_var rfl) (xa_cons (x_var rfl) xa_nil))))) trivial) (q_bad (c := pdcode st d p c n) rfl k ea fun hz => ?_)
  have k : RetN H Q (mtP st d.toNat p.toNat c.toNat n.toNat) := (eb hz).symm ▸ k
  obtain ⟨⟨d0, d1⟩, hz'⟩ := pdcode_0 hz
  obtain ⟨ok, p0, c0, n0, n1⟩ := prcode_0 hz'
  have p1 := ok.p0
  have c1 := ok.c1
  obtain ⟨d, rfl⟩ := Int.eq_ofNat_of_zero_le d0
  obtain ⟨p, rfl⟩ := Int.eq_ofNat_of_zero_le p0
  obtain ⟨c, rfl⟩ := Int.eq_ofNat_of_zero_le c0
  obtain ⟨n, rfl⟩ := Int.eq_ofNat_of_zero_le n0
  have hn : n ≤ st.records.length := by omega
  have etl : (Cr.tb st d n).length = st.parties.length := tab_len _ _ _
  refine q_set (a := Cr.tb st d n) (x_cD (st, d, n) (xa_cons (x_var rfl) (xa_cons (x_nat rfl) (xa_cons (x_nat rfl) xa_nil))) ⟨wf, hn⟩) ?_
  refine q_set (a := ctlBy st.parties (Cr.tb st d n) p) (x_cN (Cr.tb st d n, st.parties, p) (xa_cons (x_var rfl) (xa_cons (x_fldP T (x_var rfl)) (xa_cons (x_nat rfl) xa_nil))) (tb_ok wf d n p (by omega))).d ?_
  have hl := ctlBy_len st.parties (Cr.tb st d n) p
  have hsub : ∀ x ∈ p :: ctlBy st.parties (Cr.tb st d n) p, x < st.parties.length := fun x hx => by
    rcases List.mem_cons.mp hx with rfl | hx
    · omega
    · exact comps_lt (List.mem_filter.mp hx).1
  refine q_set (a := Valdgg.heldIn (Cr.tb st d n) (p :: ctlBy st.parties (Cr.tb st d n) p) c) (x_cD (Cr.tb st d n, p :: ctlBy st.parties (Cr.tb st d n) p, c) (xa_cons (x_var rfl) (xa_cons (XN.d (x_cat (l := [p]) (m := ctlBy st.parties (Cr.tb st d n) p) (XN.dns (x_lst (l := [(p : Int)]) (xa_cons (x_var rfl) xa_nil)) rfl).d (x_var rfl) (by show 1 + _ ≤ _; omega))) (xa_cons (x_nat rfl) xa_nil))) ⟨tab_sq _ _ _, fun x hx => by rw [show (Cr.tb st d n, p :: ctlBy st.parties (Cr.tb st d n) p, c).1.length = st.parties.length from etl]; exact hsub x hx, by show c < (Cr.tb st d n).length; omega, by show (ctlBy st.parties (Cr.tb st d n) p).length + 1 < 100000; omega⟩) ?_
  refine q_codeN (t_test (x_inN (x_nat (n := c) rfl) (x_var (a := ctlBy st.parties (Cr.tb st d n) p) rfl))) (x_lst (l := [0, 2, Valdgg.heldIn (Cr.tb st d n) (p :: ctlBy st.parties (Cr.tb st d n) p) c]) (xa_cons x_int (xa_cons x_int (xa_cons (x_var rfl) xa_nil)))) (fun hb => (if_pos (of_decide_eq_true hb)).symm) k fun hb => ?_
  refine q_codeN (t_test (x_ge (x_var (a := Valdgg.heldIn (Cr.tb st d n) (p :: ctlBy st.parties (Cr.tb st d n) p) c) rfl) x_int)) (x_lst (l := [0, 1, Valdgg.heldIn (Cr.tb st d n) (p :: ctlBy st.parties (Cr.tb st d n) p) c]) (xa_cons x_int (xa_cons x_int (xa_cons (x_var rfl) xa_nil)))) (fun hc => ((if_neg (of_decide_eq_false hb)).trans (if_pos (of_decide_eq_true hc))).symm) k fun hc => ?_
  exact g_retN ((x_lst (l := [0, 0, Valdgg.heldIn (Cr.tb st d n) (p :: ctlBy st.parties (Cr.tb st d n) p) c]) (xa_cons x_int (xa_cons x_int (xa_cons (x_var rfl) xa_nil)))).eq ((if_neg (of_decide_eq_false hb)).trans (if_neg (of_decide_eq_false hc))).symm) k
/-! ### preview -/
def sp_new_pairs : Sp := SpN (ι := List Bool × List Valdgg.Trade × List Valdgg.Trade × Nat) (fun i => [.sh i.1, .sh (tabOf i.1.length i.2.1 i.2.2.2), .sh (tabOf i.1.length i.2.2.1 i.2.2.2)]) (fun i => i.1.length ≤ 12) fun i => newP i.1 (tabOf i.1.length i.2.1 i.2.2.2) (tabOf i.1.length i.2.2.1 i.2.2.2) (List.range i.1.length)
theorem ok_new_pairs (T : Top K mg C) : Df P w K mg base "new_pairs" 5 ["parties", "before", "after"] sp_new_pairs := by
  have d_controlled_by := ok_controlled_by (P := P) (w := w) (base := base) T
  refine T.f_new_pairs.okN sc_new_pairs (fun _ => rfl) (fun _ => rfl) ?_
  intro i hpre f cdv A outer s H Q E hr
  refine ⟨_, (pss_cons (ps_set (i := 3) sc_new_pairs.nd rfl (Or.inl rfl) (pe_lst pa_nil))
        (pss_cons (ps_for PassesOwn.never rfl (pi_range1 rfl T.b_range (pa_cons (pe_callB call_len_seq (by rfl) T.b_len (by decide +kernel) (pa_cons (pv 0) pa_nil)) pa_nil)) (pg_name (i := 4) sc_new_pairs.nd rfl (Or.inl rfl)) (pss_cons (ps_set (i := 5) sc_new_pairs.nd rfl (Or.inl rfl) (pe_df d_controlled_by (hr.mono (by decide)) rfl (pa_cons (pv 1) (pa_cons (pv 0) (pa_cons (pv 4) pa_nil)))))
        (pss_one (ps_for PassesOwn.never rfl (pi_list (pe_df d_controlled_by (hr.mono (by decide)) rfl (pa_cons (pv 2) (pa_cons (pv 0) (pa_cons (pv 4) pa_nil))))) (pg_name (i := 6) sc_new_pairs.nd rfl (Or.inl rfl)) (pss_one (ps_if (pt_cmpR op_notIn_seq (pv 6) (pv 5) rfl) (pss_one (ps_expr (pe_bm PySem.F.plainAttrs_list PySem.F.slot_list_extend PySem.F.type_list_extend mt_extend (pv 3) (pa_cons (pe_lst (pa_cons (pv 4) (pa_cons (pv 6) pa_nil))) pa_nil)))) pss_nil))))))
        (pss_one (ps_ret (pv 3))))), fun k => ?_⟩
  obtain ⟨ps, ts, us, d⟩ := i
  have hn : ps.length ≤ 12 := hpre
  have hn' : ps.length ≤ 1000 := by omega
  generalize hB : tabOf ps.length ts d = B
  generalize hA : tabOf ps.length us d = A'
  have k : RetN H Q (newP ps B A' (List.range ps.length)) := hA ▸ hB ▸ k
  have okB : ∀ p, p < ps.length → _ := fun p hp => hB ▸ tab_ok hn' ts d p hp
  have okA : ∀ p, p < ps.length → _ := fun p hp => hA ▸ tab_ok hn' us d p hp
  show Go H [.sh ps, .sh B, .sh A', .any, .any, .any, .any] _ _
  refine q_nil (α := Int) (q_range (n := ps.length) (fun j => [.sh ps, .sh B, .sh A', .own (newP ps B A' (List.range j)), .any, .any, .any]) (xa_cons (x_len (x_var (a := ps) rfl)) xa_nil) (by omega) (Weak.refl _) (fun j hj => ?_) (g_retO rfl k))
  have hl := newP_le ps B A' (List.range j)
  rw [List.length_range] at hl
  have hl' : 2 * ps.length * j ≤ 2 * ps.length * 12 := Nat.mul_le_mul (Nat.le_refl _) (by omega)
  refine q_setN 3 (x_cN (B, ps, j) (xa_cons (x_var rfl) (xa_cons (x_var rfl) (xa_cons (x_var rfl) xa_nil))) (okB j hj)) ?_
  refine g_forN 3 (l := ctlBy ps A' j) (fun q => [.sh ps, .sh B, .sh A', .own (newP ps B A' (List.range j) ++ np1 ps B A' j ((ctlBy ps A' j).take q)), .sh j, .sh (ctlBy ps B j), .any]) (x_cN (A', ps, j) (xa_cons (x_var rfl) (xa_cons (x_var rfl) (xa_cons (x_var rfl) xa_nil))) (okA j hj)) ⟨.inl rfl, .inl rfl, .inl rfl, .inl ?_, .inl rfl, .inl rfl, .inl rfl, trivial⟩ (fun H1 e1 q c hc => ?_) fun σ H h2 => h2.weak ⟨.inl rfl, .inl rfl, .inl rfl, .inl ?_, .inr rfl, .inr rfl, .inr rfl, trivial⟩
  · congr 1
    exact List.append_nil _
  · have hl2 := np1_le ps B A' j ((ctlBy ps A' j).take q)
    have hl3 := ctlBy_len ps A' j
    rw [List.length_take] at hl2
    have etk : (ctlBy ps A' j).take (q + 1) = (ctlBy ps A' j).take q ++ [c] := by rw [List.take_add_one, hc]; rfl
    refine g_if (t_test (x_notInN (x_var (a := c) rfl) (x_var (a := ctlBy ps B j) rfl))) (fun hb => ?_) fun hb => ?_
    · refine g_ext rfl (x_lst (l := [(j : Int), (c : Int)]) (xa_cons (x_var (a := j) rfl).up (xa_cons (x_var (a := c) rfl).up xa_nil))) ?_ fun σ H h2 => h2.weak ⟨.inl rfl, .inl rfl, .inl rfl, .inl ?_, .inl rfl, .inl rfl, .inr rfl, trivial⟩
      · simp only [List.length_append, List.length_cons, List.length_nil]
        omega
      · congr 1
        rw [etk, np1_snoc, if_neg (by simpa using hb), List.append_assoc]
    · refine g_next fun σ H h2 => h2.weak ⟨.inl rfl, .inl rfl, .inl rfl, .inl ?_, .inl rfl, .inl rfl, .inr rfl, trivial⟩
      congr 1
      rw [etk, np1_snoc, if_pos (by simpa using hb), List.append_nil]
  · congr 1
    rw [List.take_length, List.range_succ, newP_snoc]
def sp_preview_acquire (C : Addr) : Sp := SpN (ι := VS × Int × Int × Int × Int) (fun i => [.sh (bk C i.1), .sh i.2.1, .sh i.2.2.1, .sh i.2.2.2.1, .sh i.2.2.2.2]) (fun i => WF i.1) fun i => Valdgg.answerOf i.1 (.previewAcquire i.2.1 i.2.2.1 i.2.2.2.1 i.2.2.2.2)
theorem ok_preview_acquire (T : Top K mg C) : Df P w K mg base "preview_acquire" 6 ["book", "day", "owner", "company", "percent"] (sp_preview_acquire C) := by
  have d_record_code := ok_record_code (P := P) (w := w) (base := base) T
  have d_live_records := ok_live_records (P := P) (w := w) (base := base) T
  have d_holdings_on := ok_holdings_on (P := P) (w := w) (base := base) T
  have d_new_pairs := ok_new_pairs (P := P) (w := w) (base := base) T
  refine T.f_preview_acquire.okN sc_preview_acquire (fun _ => rfl) (fun _ => rfl) ?_
  intro i hpre f cdv A outer s H Q E hr
  refine ⟨_, (pss_cons (ps_set (i := 5) sc_preview_acquire.nd rfl (Or.inl rfl) (pe_tup (pa_cons (pe_cst T.c_ACQUISITION) (pa_cons (pv 1) (pa_cons (pv 2) (pa_cons (pv 3) (pa_cons (pv 4) pa_nil)))))))
        (pss_cons (ps_set (i := 6) sc_preview_acquire.nd rfl (Or.inl rfl) (pe_df d_record_code (hr.mono (by decide)) rfl (pa_cons (pv 0) (pa_cons (pv 5) pa_nil))))
        (pss_cons (ps_if (pt_cmpR op_ne (pv 6) (pe_cst T.c_FINE) (nomark _)) (pss_one (ps_ret (pe_lst (pa_cons (pv 6) pa_nil)))) pss_nil)
        (pss_cons (ps_set (i := 7) sc_preview_acquire.nd rfl (Or.inl rfl) (pe_df d_live_records (hr.mono (by decide)) rfl (pa_cons (pe_fld (pv 0) rfl) (pa_cons (pe_callB call_len_seq (by rfl) T.b_len (by decide +kernel) (pa_cons (pe_fld (pv 0) rfl) pa_nil)) pa_nil))))
        (pss_cons (ps_set (i := 8) sc_preview_acquire.nd rfl (Or.inl rfl) (pe_df d_holdings_on (hr.mono (by decide)) rfl (pa_cons (pe_fld (pv 0) rfl) (pa_cons (pv 7) (pa_cons (pv 1) pa_nil)))))
        (pss_cons (ps_set (i := 9) sc_preview_acquire.nd rfl (Or.inl rfl) (pe_df d_holdings_on (hr.mono (by decide)) rfl (pa_cons (pe_fld (pv 0) rfl) (pa_cons (pe_op op_cat (pv 7) (pe_lst (pa_cons (pv 5) pa_nil))) (pa_cons (pv 1) pa_nil)))))
        (pss_cons (ps_set (i := 10) sc_preview_acquire.nd rfl (Or.inl rfl) (pe_df d_new_pairs (hr.mono (by decide)) rfl (pa_cons (pe_fld (pv 0) rfl) (pa_cons (pv 8) (pa_cons (pv 9) pa_nil)))))
        (pss_one (ps_ret (pe_op op_cat (pe_lst (pa_cons pe_int (pa_cons (pe_op op_fdiv (pe_callB call_len_seq (by rfl) T.b_len (by decide +kernel) (pa_cons (pv 10) pa_nil)) pe_int) pa_nil))) (pv 10))))))))))), fun k => ?_⟩
  obtain ⟨st, d, o, c, p⟩ := i
  have wf : WF st := hpre
  have h1 := wf.np
  have h2 := wf.nr
  have h3 := live_len st.records
  obtain ⟨ea, eb⟩ := ans_eq (preview_is wf d o c p)
  show Go H [.sh (bk C st), .sh d, .sh o, .sh c, .sh p, .any, .any, .any, .any, .any, .any] _ _
  refine q_set (a := Tp.mk [0, d, o, c, p]) (x_tup (l := [0, d, o, c, p]) (xa_cons x_int (xa_cons (x_var rfl) (xa_cons (x_var rfl) (xa_cons (x_var rfl) (xa_cons (x_var rfl) xa_nil)))))).d ?_
  refine q_set (x_cD (st, 0, d, o, c, p) (xa_cons (x_var rfl) (xa_cons (x_var rfl) xa_nil)) ⟨wf, .inl rfl⟩) (q_bad (c := rcode st 0 d o c p) rfl k ea fun hz => ?_)
  have k : RetN H Q _ := (eb hz).symm ▸ k
  have hd0 : dcode st d o c p = 0 := by
    unfold rcode at hz
    split at hz
    · rename_i z; exact absurd hz z
    · rename_i z; exact Classical.byContradiction z
  have hd := dcode_0 hd0
  have ed : d = ((d.toNat : Nat) : Int) := by have := hd.d0; omega
  have hin := inP_new wf (k := 0) hd
  have hnew : Tp.mk [0, d, o, c, p] = trT (newT 0 d o c p) := new_tup (.inl rfl) hd
  refine q_set (a := (liveOf st.records).map trT) (XD.eq (x_cN (st.records, st.records.length) (xa_cons (x_fldR T (x_var rfl)) (xa_cons (x_nrec (x_fldR T (x_var rfl))) xa_nil)) ⟨Nat.le_refl _, by show st.records.length ≤ 10000; omega⟩).d (by show (liveOf (st.records.take st.records.length)).map trT = _; rw [List.take_length])) ?_
  refine q_set (a := tabOf st.parties.length (liveOf st.records) d.toNat) (x_cD (st.parties, liveOf st.records, d.toNat) (xa_cons (x_fldP T (x_var rfl)) (xa_cons (x_var rfl) (xa_cons (XD.dn (x_var (a := d) rfl) ed) xa_nil))) ⟨by show st.parties.length ≤ 1000; omega, wf.inA.two⟩) ?_
  refine q_set (a := tabOf st.parties.length (liveOf st.records ++ [newT 0 d o c p]) d.toNat) (x_cD (st.parties, liveOf st.records ++ [newT 0 d o c p], d.toNat) (xa_cons (x_fldP T (x_var rfl)) (xa_cons (XD.eq (x_cat (x_var (a := (liveOf st.records).map trT) rfl) (x_lst1 (x_var (a := Tp.mk [0, d, o, c, p]) rfl)).d ?_).d ?_) (xa_cons (XD.dn (x_var (a := d) rfl) ed) xa_nil))) ⟨by show st.parties.length ≤ 1000; omega, hin.two⟩) ?_
  · rw [List.length_map]
    show _ + 1 ≤ 100000
    omega
  · rw [List.map_append, hnew]; rfl
  refine q_set (a := prevP st d o c p) (x_cN (st.parties, liveOf st.records, liveOf st.records ++ [newT 0 d o c p], d.toNat) (xa_cons (x_fldP T (x_var rfl)) (xa_cons (x_var rfl) (xa_cons (x_var rfl) xa_nil))) h1).d ?_
  refine g_retN (x_tell (m := 0) (x_var (a := prevP st d o c p) rfl) (x_half (x_len (x_var (a := prevP st d o c p) rfl))) ?_) k
  have hl := newP_le st.parties (tabOf st.parties.length (liveOf st.records) d.toNat) (tabOf st.parties.length (liveOf st.records ++ [newT 0 d o c p]) d.toNat) (List.range st.parties.length)
  rw [List.length_range] at hl
  have hl' : 2 * st.parties.length * st.parties.length ≤ 2 * st.parties.length * 12 := Nat.mul_le_mul (Nat.le_refl _) h1
  show (newP _ _ _ _).length ≤ _
  omega
end
end Cr
namespace Cr
open PySem PySem.Spec PyProof.Rows L2 Evl
/-! ### rules for the linear equations -/
section
variable {He : Hp} {S T : List Sl} {K : PySem.W.Frag} {te ta tb tc tx : TE} {tt : TT} {D : Ends} {ts tz tw : TS}
theorem x_abs {x : Int} (h : XD He S te x) : XD He S (tCB (fun xs H Q => ∃ i, xs = [.int i] ∧ Q (.int (if i < 0 then -i else i)) H) (tCons te tNil)) x.natAbs := fun σ H hs Q q => h σ H hs _ fun v H1 e i =>
  ⟨x, by rw [is_int.mp i], q _ H1 e (by
    show V.int _ = V.int _
    congr 1
    split <;> omega)⟩
/-- a, b = x, y -/
theorem g_par {i j : Nat} {x y : Nat} (h1 : XD He S ta x) (h2 : XD He S tb y) (k : Nx He ((S.set i (.sh x)).set j (.sh y)) D) (no : S.all notOwn = true := by rfl) : Go He S (tPar i j (tCons ta (tCons tb tNil))) D := fun σ H hs =>
  h1 σ H hs _ fun v H1 e1 i1 => h2 σ H1 (hs.mono e1) _ fun w H2 e2 i2 => ⟨v, w, rfl, k _ _ (by
    obtain ⟨H0, x1, x2, x3, x4⟩ := (hs.mono (e1.trans e2)).splitD no
    have b : Holds H2 S σ H2 := ⟨H0, x1, x2, x3, x4⟩
    exact ((b.setB i (Rep.mono e2 i1)).setB j i2).low (hs.ex.trans (e1.trans e2)))⟩
theorem x_mod {x y : Nat} (h1 : XD He S ta x) (h2 : XD He S tb y) (h : 0 < y) : XD He S (tOp (rI (fun _ j => 0 < j) fun i j => .int (i % j)) ta tb) (x % y) := x_I (z := x % y) h1.up h2.up (by omega) fun _ => by
  show V.int _ = V.int _
  rw [Int.natCast_emod]
theorem x_divW {x y : Int} {b : Nat} (h1 : XD He S ta x) (h2 : XD He S tb y) (h : 0 < y) (hb : y.natAbs < 2 ^ b) (h0 : 0 < b := by decide) (h9 : b ≤ 9000 := by decide) : XD He S (tOp (rI CDivW fun i j => .int (i / j)) ta tb) (x / y) := x_I h1 h2 (wide_div h hb h0 h9) fun _ => rfl
theorem x_mulW {x y : Int} {a b : Nat} (h1 : XD He S ta x) (h2 : XD He S tb y) (ha : x.natAbs < 2 ^ a) (hb : y.natAbs < 2 ^ b) (h0 : 0 < a := by decide) (h1' : 0 < b := by decide) (h : a + b ≤ 1000000 := by decide) : XD He S (tOp (rI CMulW fun i j => .int (i * j)) ta tb) (x * y) := x_I h1 h2 (wide_mul ha hb h0 h1' h) fun _ => rfl
/-- range(lo, hi), with a fact carried -/
theorem g_range2P {j lo n : Nat} {tr : TA} (Pv : Nat → Prop) (Sv : Nat → List Sl) (h : XA He S tr [.sh (lo : Int), .sh ((lo + n : Nat) : Int)]) (hn : lo + n ≤ 100000) (p0 : Pv 0) (h0 : Weak S (Sv 0))
    (hs : ∀ i, i < n → Pv i → Go He ((Sv i).set j (.sh (lo + i))) ts { D with nx := HPp He (Pv (i + 1)) (Sv (i + 1)), ct := HPp He (Pv (i + 1)) (Sv (i + 1)), bk := D.nx }) (hd : Pv n → Nx He (Sv n) D) :
    Go He S (tFor (iRng2 tr) (gName j) ts) D := fun σ H h1 => h σ H h1 _ fun vs H1 e1 i1 => by
  obtain ⟨v, r, rfl, q, v2, r2, rfl, q2, z⟩ := i1
  have z' : r2 = [] := z
  subst z'
  rw [is_int.mp q, is_int.mp q2]
  have en : (((lo + n : Nat) : Int) - (lo : Int)).toNat = n := by omega
  refine ⟨(lo : Int), ((lo + n : Nat) : Int), rfl, ⟨by omega, by omega, by omega, by omega⟩, ?_⟩
  rw [en]
  refine for_range (lo := (lo : Int)) (n := n) (fun i σ H => HPp He (Pv i) (Sv i) σ H) ⟨p0, (h1.mono e1).weak h0⟩ (fun i σ' H' hi p => ?_) fun σ' H' p => hd p.1 σ' H' p.2
  have e0 : (lo : Int) + (i : Int) = ((lo + i : Nat) : Int) := by omega
  show ts _ (σ'.set j (some (.int ((lo : Int) + (i : Int))))) H'
  rw [e0]
  exact hs i hi p.1 _ _ (Holds.setB p.2 j (a := lo + i) (v := .int ((lo + i : Nat) : Int)) rfl)
theorem q_range2P {j lo n : Nat} {tr : TA} (Pv : Nat → Prop) (Sv : Nat → List Sl) (h : XA He S tr [.sh (lo : Int), .sh ((lo + n : Nat) : Int)]) (hn : lo + n ≤ 100000) (p0 : Pv 0) (h0 : Weak S (Sv 0))
    (hs : ∀ i, i < n → Pv i → Go He ((Sv i).set j (.sh (lo + i))) ts { D with nx := HPp He (Pv (i + 1)) (Sv (i + 1)), ct := HPp He (Pv (i + 1)) (Sv (i + 1)), bk := tz D }) (hd : Pv n → Go He (Sv n) tz D) : Go He S (tSeq (tFor (iRng2 tr) (gName j) ts) tz) D := g_range2P (D := { D with nx := tz D }) Pv Sv h hn p0 h0 hs hd
theorem wipe_two (σ : L2.St) (i j : Nat) (x y : Option V) (h : i ≠ j) : (((wipe σ [i, j]).set i x).set j y) = (σ.set i x).set j y := by
  show ((((σ.set j none).set i none).set i x).set j y) = _
  rw [List.set_set, List.set_comm (i := i) (j := j) _ _ h, List.set_set, List.set_comm (i := j) (j := i) _ _ (Ne.symm h)]
theorem wipe_two' (σ : L2.St) (i j : Nat) (x y : Option V) (h : i ≠ j) : wipe ((σ.set i x).set j y) [i, j] = wipe σ [i, j] := by
  show ((((σ.set i x).set j y).set j none).set i none) = (σ.set j none).set i none
  rw [List.set_set, List.set_comm (i := i) (j := j) _ _ h, List.set_set]
/-- [e for x, y in zip(l, m)] of numbers -/
theorem x_lcZ {tr : TA} {j1 j2 : Nat} {l m : List Int} (g : Int → Int → Int) (ha : XA He S tr [.sh l, .sh m]) (hlm : l.length = m.length) (hz : l.length < 100000) (hj : j1 ≠ j2)
    (hg : ∀ He' : Hp, Ex He He' → ∀ (i : Nat) (x y : Int), l[i]? = some x → m[i]? = some y → XD He' ((S.set j1 (.sh x)).set j2 (.sh y)) te (g x y)) (no : S.all notOwn = true := by rfl) :
    XN He S (tLc (iZip K tr) (gTup K 2 (gCons (gName j1) (gCons (gName j2) gNil))) tYes te [j1, j2]) ((l.zip m).map fun z => g z.1 z.2) := fun σ H hs Q q => ha σ H hs _ fun vs H1 e1 i1 => by
  obtain ⟨v1, r1, rfl, q1, v2, r2, rfl, q2, z⟩ := i1
  have z' : r2 = [] := z
  subst z'
  obtain ⟨a, rfl, hpa⟩ := ints_of q1
  obtain ⟨b, rfl, hpb⟩ := ints_of q2
  have h2 := (hs.mono e1).splitD no
  refine ⟨a, b, _, _, rfl, SqL.of hpa, SqL.of hpb, fun D hD => ?_⟩
  refine ⟨fun i k H' => k = l.length - i ∧ i ≤ l.length ∧ Mk H1 D (((l.zip m).map fun z => g z.1 z.2).take i) H', ⟨_, rfl, Nat.zero_le _, Mk.zero hD⟩, ?_⟩
  rintro i k H' ⟨rfl, hi, p⟩
  have sa : SqL K H' a (l.map .int) := SqL.of (p.1 _ _ hpa)
  have sb : SqL K H' b (m.map .int) := SqL.of (p.1 _ _ hpb)
  by_cases hlt : i < l.length
  · obtain ⟨x, hx⟩ : ∃ x, l[i]? = some x := ⟨_, List.getElem?_eq_getElem hlt⟩
    obtain ⟨y, hy⟩ : ∃ y, m[i]? = some y := ⟨_, List.getElem?_eq_getElem (by omega)⟩
    have mx : (l.map V.int)[i]? = some (.int x) := by rw [List.getElem?_map, hx]; rfl
    have my : (m.map V.int)[i]? = some (.int y) := by rw [List.getElem?_map, hy]; rfl
    refine .inr ⟨⟨_, _, _, _, sa, sb, mx, my⟩, fun H' => Mk H1 D (((l.zip m).map fun z => g z.1 z.2).take (i + 1)) H', fun H'' p' => ⟨l.length - (i + 1), by omega, rfl, hlt, p'⟩, ?_⟩
    rintro x' H'' ⟨T, x2, y2, rfl, hT, rfl, k1, k2⟩
    have ex2 : x2 = .int x := by
      have := k1 _ sa
      rw [mx] at this
      exact (Option.some.inj this).symm
    have ey2 : y2 = .int y := by
      have := k2 _ sb
      rw [my] at this
      exact (Option.some.inj this).symm
    subst ex2 ey2
    refine ⟨T, _, rfl, SqT.of upd_same, rfl, _, _, rfl, _, _, rfl, rfl, ?_⟩
    show wipe (((wipe σ [j1, j2]).set j1 (some (V.int x))).set j2 (some (V.int y))) [j1, j2] = wipe σ [j1, j2] ∧ tYes (((wipe σ [j1, j2]).set j1 (some (V.int x))).set j2 (some (V.int y))) _ _
    rw [wipe_two _ _ _ _ _ hj]
    refine ⟨wipe_two' _ _ _ _ _ hj, ?_⟩
    have p2 := p.up (Ex.new (o := .tup [.int x, .int y]) hT)
    have h3 := ((h2.mono p2.1).setB j1 (a := x) (v := .int x) rfl).setB j2 (a := y) (v := .int y) rfl
    have eg : ((l.zip m).map fun z => g z.1 z.2)[i]? = some (g x y) := by
      simp only [List.getElem?_map, List.zip, List.getElem?_zipWith, hx, hy, Option.map_some]
    show te _ _ _
    refine hg H1 (hs.ex.trans e1) i x y hx hy _ _ h3 _ fun v H4 e4 i4 => ?_
    obtain ⟨acc, a1, a2, a3⟩ := Mk.pushI hD p2 e4 i4 (by
      rw [List.length_take, List.length_map, List.length_zip]; omega)
    refine ⟨acc, a1, a2, ?_⟩
    rw [List.take_add_one, eg]
    exact a3
  · refine .inl ⟨⟨_, _, sa, sb, .inl (by rw [List.length_map]; omega)⟩, ?_⟩
    have e : ((l.zip m).map fun z => g z.1 z.2).take i = (l.zip m).map fun z => g z.1 z.2 := List.take_of_length_le (by rw [List.length_map, List.length_zip]; omega)
    rw [e] at p
    exact q _ _ (e1.trans p.1) (fun p' z => by cases z; exact fresh_back e1 hD) p.fin
/-! a value that is no list of one's own -/
def XV {α : Type} [Rep α] (He : Hp) (S : List Sl) (te : TE) (a : α) : Prop := ∀ (H0 : Hp), Ex He H0 → ∀ (σ : L2.St) (H : Hp), HB H0 S σ H → ∀ Q : VK, (∀ v H2, Ex H H2 → (∀ p, v = .ref p → H p = none ∨ H0 p ≠ none) → Rep.is H2 v a → Q v H2) → te σ H Q
theorem XN.v {α : Type} [Rep α] {a : α} (h : XN He S te a) : XV He S te a := fun H0 e σ H b Q q => h σ H (b.holds.low e) Q fun v H2 e2 n i => q v H2 e2 (fun p z => .inl (n p z)) i
theorem XV.d {α : Type} [Rep α] {a : α} (h : XV He S te a) : XD He S te a := fun σ H hs Q q => by
  obtain ⟨H0, x, b, c, d⟩ := hs
  exact h H0 x σ H ⟨b, c, d⟩ Q fun v H2 e2 _ i => q v H2 e2 i
theorem rep_in {α : Type} [Rep α] {H0 : Hp} {l : List α} {v : V} (h : Rep.is H0 v l) : ∀ p, v = .ref p → H0 p ≠ none := fun p e => by
  obtain ⟨q, xs, rfl, hq, _⟩ := h
  cases e
  rw [hq]; intro z; cases z
theorem x_varV {i : Nat} {α : Type} [Rep α] {l : List α} (h : S[i]? = some (.sh l)) : XV He S (tVar i) l := fun H0 e σ H b Q q => by
  obtain ⟨o, ho⟩ := b.holds.at h
  obtain ⟨v, rfl, r⟩ := b.2.2 i _ o h ho
  exact ⟨v, ho, q v H (Ex.refl H) (fun p z => .inr (rep_in r p z)) (Rep.mono b.1 r)⟩
/-- l[j], l and j names, its items lists -/
theorem x_ixV {i j : Nat} {α : Type} [Rep α] {l : List (List α)} {a : List α} (h1 : S[i]? = some (.sh l)) (h2 : XD He S tb (j : Int)) (h : l[j]? = some a) : XV He S (tOp (rIxL K) (tVar i) tb) a := fun H0 e σ H b Q q => by
  obtain ⟨o, ho⟩ := b.holds.at h1
  obtain ⟨v, rfl, r⟩ := b.2.2 i _ o h1 ho
  obtain ⟨p, xs, rfl, hp, hx⟩ := r
  obtain ⟨x, ex, rx⟩ := hx.get h
  exact ⟨_, ho, h2 σ H (b.holds.low e) _ fun w H1 e1 rw => ⟨p, xs, (j : Int), x, rfl, rw, SqL.of (e1 _ _ (b.1 _ _ hp)), atI_nat ex, q x H1 e1 (fun p z => .inr (rep_in rx p z)) (Rep.mono (b.1.trans e1) rx)⟩⟩
theorem g_appV {i : Nat} {α : Type} [Av α] {l : List α} {a : α} (hi : S[i]? = some (.own l)) (h : XV He S te a) (hz : l.length < 100000) (k : Nx He (S.set i (.own (l ++ [a]))) D) (no : (S.set i .any).all notOwn = true := by rfl) :
    Go He S (tDrop (tBM K "list" rAppend (tVar i) (tCons te tNil))) D := fun σ H hs => by
  obtain ⟨H0, x, b, c, d⟩ := id hs
  obtain ⟨o, ho⟩ := hs.at hi
  obtain ⟨p, xs, rfl, hp, hp0, _⟩ := d i _ o hi ho
  refine ⟨_, ho, Or.inl ⟨rfl, xs, SqL.of hp⟩, h H0 x σ H ⟨b, c, d⟩ _ fun v H1 e1 n i1 => ?_⟩
  obtain ⟨p', ys, e', hp', hx, cc⟩ := hs.chg i hi no e1
  rw [ho] at e'
  cases e'
  rw [e1 _ _ hp] at hp'
  cases hp'
  refine ⟨p, xs, v, rfl, rfl, e1 _ _ hp, sz_lt (by rw [hx.1]; exact hz), k _ _ (cc _ _ (hx.append (All2.cons (Av.av i1 (e1 _ _ hp) fun z => ?_) All2.nil)))⟩
  rcases n p z with q | q
  · rw [hp] at q; cases q
  · exact q hp0
theorem Holds.anyS {H : Hp} {σ : L2.St} (h : Holds He S σ H) (i : Nat) (o : Option V) : Holds He (S.set i .any) (σ.set i o) H := by
  obtain ⟨H0, x, b, c, d⟩ := h
  have z : HB H0 S σ H := ⟨b, c, d⟩
  exact (z.any i o).holds.low x
/-- x = [..]; x.append(e), x a new list of numbers -/
theorem q_mkapp (k0 : Nat) {i : Nat} {l : List Int} {x : Int} (h : XN He S te l) (hx : XD He (S.set i .any) tx x) (hz : l.length < 100000) (k : Go He (S.set i (.sh (l ++ [x]))) tz D) (no : (S.set k0 .any).all notOwn = true := by rfl) (hi : i < S.length := by decide) :
    Go He S (tSeq (tAsg te (gName i)) (tSeq (tDrop (tBM K "list" rAppend (tVar i) (tCons tx tNil))) tz)) D := fun σ H hs => h σ H hs _ fun v H1 e1 n i1 => by
  obtain ⟨q, rfl, hq⟩ := ints_of i1
  have hq0 := n q rfl
  have hil : i < σ.length := by
    obtain ⟨H0, _, _, c, _⟩ := hs
    omega
  have hv : (σ.set i (some (V.ref q)))[i]? = some (some (.ref q)) := List.getElem?_set_self hil
  refine ⟨_, hv, Or.inl ⟨rfl, _, SqL.of hq⟩, hx _ H1 ((hs.mono e1).anyS i _) _ fun y H2 e2 i2 => ?_⟩
  have hq2 := e2 _ _ hq
  refine ⟨q, _, y, rfl, rfl, hq2, sz_lt (by rw [List.length_map]; exact hz), ?_⟩
  have e3 : Ex H (upd H2 q (.lst (l.map V.int ++ [y]))) := (e1.trans e2).mut hq0
  refine k _ _ (hs.setN i e3 (of_ints ?_) (fun p z => by cases z; exact hq0) k0 no)
  rw [upd_same, is_int.mp i2, List.map_append]; rfl
end
section
variable {P : Program} {w : World} {K : PySem.W.Frag} {mg : Str → Option Value} {base : Heap} {C : Addr}
def sp_greatest_divisor : Sp := SpD (ι := Int × Int) (fun i => [.sh i.1, .sh i.2]) (fun _ => True) fun i => Int.gcd i.1 i.2
theorem ok_greatest_divisor (T : Top K mg C) : Df P w K mg base "greatest_divisor" 1 ["first", "second"] sp_greatest_divisor := by
  refine T.f_greatest_divisor.okD sc_greatest_divisor (fun _ => rfl) (fun _ => rfl) ?_
  intro i hpre f cdv A outer s H Q E hr
  refine ⟨_, (pss_cons (ps_set (i := 2) sc_greatest_divisor.nd rfl (Or.inl rfl) (pe_callB call_abs (by rfl) T.b_abs (by decide +kernel) (pa_cons (pv 0) pa_nil)))
        (pss_cons (ps_set (i := 3) sc_greatest_divisor.nd rfl (Or.inl rfl) (pe_callB call_abs (by rfl) T.b_abs (by decide +kernel) (pa_cons (pv 1) pa_nil)))
        (pss_cons (ps_while PassesOwn.never (pt_cmpR op_gt (pv 3) pe_int (nomark _)) (pss_one (ps_par (i := 2) (j := 3) rfl sc_greatest_divisor.nd rfl rfl (by decide) rfl rfl (pa_cons (pv 3) (pa_cons (pe_op op_mod (pv 2) (pv 3)) pa_nil)) rfl)))
        (pss_one (ps_ret (pv 2)))))), fun k => ?_⟩
  obtain ⟨x, y⟩ := i
  show Go H [.sh x, .sh y, .any, .any] _ _
  refine q_set (x_abs (x_var (a := x) rfl)) (q_set (x_abs (x_var (a := y) rfl)) ?_)
  refine q_while (α := Nat × Nat) (fun s => [.sh x, .sh y, .sh s.1, .sh s.2]) (fun s => s.2) (fun s => decide ((0 : Int) < (s.2 : Int))) (x.natAbs, y.natAbs) (fun s => Nat.gcd s.1 s.2 = Nat.gcd x.natAbs y.natAbs) rfl (Weak.refl _) (fun s _ => t_test (x_gt (x_var (a := s.2) rfl).up x_int)) (fun s is hs => ?_) fun s is hs => ?_
  · have hp : 0 < s.2 := by have := of_decide_eq_true hs; omega
    refine ⟨(s.2, s.1 % s.2), ?_, Nat.mod_lt _ hp, g_par (x_var rfl) (x_mod (x_var (a := s.1) rfl) (x_var (a := s.2) rfl) hp) fun σ H h => h⟩
    show Nat.gcd s.2 (s.1 % s.2) = _
    rw [← is, Nat.gcd_comm s.1 s.2, Nat.gcd_rec s.2 s.1, Nat.gcd_comm]
  · have hp : s.2 = 0 := by have := of_decide_eq_false hs; omega
    refine g_ret ((x_var (a := s.1) rfl).eq ?_) k
    rw [hp, Nat.gcd_zero_right] at is
    exact is
def sp_lowest : Sp := SpN (ι := Int × Int) (fun i => [.sh i.1, .sh i.2]) (fun i => 0 < i.2 ∧ i.2.natAbs < 2 ^ 8500) fun i => Tp.mk (lowP i.1 i.2)
theorem ok_lowest (T : Top K mg C) : Df P w K mg base "lowest" 2 ["numerator", "denominator"] sp_lowest := by
  have d_greatest_divisor := ok_greatest_divisor (P := P) (w := w) (base := base) T
  refine T.f_lowest.okN sc_lowest (fun _ => rfl) (fun _ => rfl) ?_
  intro i hpre f cdv A outer s H Q E hr
  refine ⟨_, (pss_cons (ps_set (i := 2) sc_lowest.nd rfl (Or.inl rfl) (pe_df d_greatest_divisor (hr.mono (by decide)) rfl (pa_cons (pv 0) (pa_cons (pv 1) pa_nil))))
        (pss_cons (ps_if (pt_cmpR op_lt (pv 1) pe_int (nomark _)) (pss_one (ps_ret (pe_tup (pa_cons (pe_op op_fdivW (pe_un un_neg (pv 0)) (pv 2)) (pa_cons (pe_op op_fdivW (pe_un un_neg (pv 1)) (pv 2)) pa_nil))))) pss_nil)
        (pss_one (ps_ret (pe_tup (pa_cons (pe_op op_fdivW (pv 0) (pv 2)) (pa_cons (pe_op op_fdivW (pv 1) (pv 2)) pa_nil))))))), fun k => ?_⟩
  obtain ⟨a, b⟩ := i
  have hb : 0 < b := hpre.1
  have hz : b.natAbs < 2 ^ 8500 := hpre.2
  have hg : 0 < Int.gcd a b := Int.gcd_pos_of_ne_zero_right _ (by omega)
  have hl : Int.gcd a b < 2 ^ 8500 := Nat.lt_of_le_of_lt (Nat.gcd_le_right _ (by omega)) hz
  show Go H [.sh a, .sh b, .any] _ _
  refine q_set (a := Int.gcd a b) (x_cD (a, b) (xa_cons (x_var rfl) (xa_cons (x_var rfl) xa_nil)) trivial) ?_
  refine g_when (t_test (x_lt (x_var (a := b) rfl) x_int)) (fun hc => absurd (of_decide_eq_true hc) (by omega)) fun _ => ?_
  have hg' : (0 : Int) < ((Int.gcd a b : Nat) : Int) := by omega
  have hl' : ((Int.gcd a b : Nat) : Int).natAbs < 2 ^ 8500 := by rw [Int.natAbs_natCast]; exact hl
  exact g_retN (x_tup (l := lowP a b) (xa_cons (x_divW (b := 8500) (x_var (a := a) rfl) (x_var (a := Int.gcd a b) rfl).up hg' hl') (xa_cons (x_divW (b := 8500) (x_var (a := b) rfl) (x_var (a := Int.gcd a b) rfl).up hg' hl') xa_nil)) (by show 2 ≤ _; decide)) k
theorem p8500 : (0 : Nat) < 2 ^ 8500 := Nat.two_pow_pos _
def sp_reduced : Sp := SpN (ι := List Int) (fun i => [.sh i]) (fun i => (∀ x ∈ i, x.natAbs < 2 ^ 8500) ∧ i.length < 100000) fun i => reducedP i
theorem ok_reduced (T : Top K mg C) : Df P w K mg base "reduced" 2 ["row"] sp_reduced := by
  have d_greatest_divisor := ok_greatest_divisor (P := P) (w := w) (base := base) T
  refine T.f_reduced.okN sc_reduced (fun _ => rfl) (fun _ => rfl) ?_
  intro i hpre f cdv A outer s H Q E hr
  refine ⟨_, (pss_cons (ps_set (i := 1) sc_reduced.nd rfl (Or.inr rfl) pe_int)
        (pss_cons (ps_for PassesOwn.never rfl (pi_list (pv 0)) (pg_name (i := 2) sc_reduced.nd rfl (Or.inl rfl)) (pss_one (ps_set (i := 1) sc_reduced.nd rfl (Or.inr rfl) (pe_df d_greatest_divisor (hr.mono (by decide)) rfl (pa_cons (pv 1) (pa_cons (pv 2) pa_nil))))))
        (pss_cons (ps_if (pt_cmpR op_gt (pv 1) pe_int (nomark _)) (pss_one (ps_ret (pe_lc (own := [("number", 2)]) (g := gName 2) (tt := tYes) rfl sc_reduced.nd (pi_list (pv 0)) (blkOk_by (N := ["row", "shared", "number"]) (sc := defScope s_reduced) (by decide +kernel)) (fun _ _ _ _ _ => (pg_name (i := 2) sc_reduced.nd rfl (Or.inl rfl))) (fun _ _ _ _ _ => pts_nil) (fun _ _ _ _ _ => (pe_op op_fdivW (pv 2) (pv 1)))))) pss_nil)
        (pss_one (ps_ret (pe_callTy (call_listK rfl) (by rfl) T.b_list (by decide +kernel) (pa_cons (pv 0) pa_nil))))))), fun k => ?_⟩
  obtain ⟨hb, hz⟩ := hpre
  show Go H [.sh i, .any, .any] _ _
  refine q_set (a := (0 : Int)) x_int (q_forV (m := 0) (l := i) (fun j => [.sh i, .sh (gcdRow (i.take j)), .any]) rfl (Weak.refl _) (fun H1 e1 j x hx => ?_) ?_)
  · refine g_set (a := gcdRow (i.take (j + 1))) ((x_cD (gcdRow (i.take j), x) (xa_cons (x_var rfl) (xa_cons (x_var rfl) xa_nil)) trivial).up.eq ?_) fun σ H h2 => h2.weak ⟨.inl rfl, .inl rfl, .inr rfl, trivial⟩
    unfold gcdRow
    rw [List.take_add_one, hx, List.foldl_append]; rfl
  · rw [List.take_length]
    have hg := gcdRow_le p8500 hb 0 (by rw [Int.natAbs_zero]; exact p8500)
    have hg : (gcdRow i).natAbs < 2 ^ 8500 := hg
    refine g_when (t_test (x_gt (x_var (a := gcdRow i) rfl) x_int)) (fun hc => g_retN ((x_lcV (m := 0) (l := i) (fun _ => true) (fun x => x / gcdRow i) rfl hz (fun _ _ _ _ _ => t_yes) fun H' e j x hx _ => (x_divW (b := 8500) (x_var (a := x) rfl) (x_var (a := gcdRow i) rfl) ?_ hg).int).eq ?_) k) fun hc => g_retN ((x_list (x_var (a := i) rfl)).eq ?_) k
    · have := of_decide_eq_true hc
      omega
    · rw [List.filter_eq_self.mpr fun _ _ => rfl]
      exact (if_pos (of_decide_eq_true hc)).symm
    · exact (if_neg (of_decide_eq_false hc)).symm
def sp_pivot_place : Sp := SpD (ι := Mat × Nat × Nat) (fun i => [.sh i.1, .sh i.2.1]) (fun i => Shape i.2.2 (i.2.2 + 1) i.1 ∧ i.2.1 < i.2.2 ∧ i.2.2 ≤ 1000 ∧ at2 i.1 i.2.1 i.2.1 ≠ 0) fun i => i.2.1
theorem ok_pivot_place (T : Top K mg C) : Df P w K mg base "pivot_place" 1 ["rows", "k"] sp_pivot_place := by
  refine T.f_pivot_place.okD sc_pivot_place (fun _ => rfl) (fun _ => rfl) ?_
  intro i hpre f cdv A outer s H Q E hr
  refine ⟨_, (pss_cons (ps_for PassesOwn.never rfl (pi_range2 rfl T.b_range (pa_cons (pv 1) (pa_cons (pe_callB call_len_seq (by rfl) T.b_len (by decide +kernel) (pa_cons (pv 0) pa_nil)) pa_nil))) (pg_name (i := 2) sc_pivot_place.nd rfl (Or.inl rfl)) (pss_one (ps_if (pt_cmpR op_ne (pe_ix (ix_listK rfl) (pe_ix (ix_listK rfl) (pv 0) (pv 2) (fun _ _ => rfl)) (pv 1) (fun _ _ => rfl)) pe_int (nomark _)) (pss_one (ps_ret (pv 2))) pss_nil)))
        (pss_one (ps_ret (pv 1)))), fun k => ?_⟩
  obtain ⟨rows, q, n⟩ := i
  obtain ⟨hs, hq, hn, hne⟩ := hpre
  have hs : Shape n (n + 1) rows := hs
  have hq : q < n := hq
  have hn : n ≤ 1000 := hn
  have hne : at2 rows q q ≠ 0 := hne
  obtain ⟨r, r1, r2, r3⟩ := row_getD hs hq
  show Go H [.sh rows, .sh q, .any] _ _
  refine q_range2P (lo := q) (n := n - q) (fun j => j = 0) (fun _ => [.sh rows, .sh q, .any]) (xa_cons (x_var (a := q) rfl).up (xa_cons ((x_len (x_var (a := rows) rfl)).eq (by rw [hs.1]; omega)) xa_nil)) (by omega) rfl (Weak.refl _) (fun j hj hp => ?_) fun hp => by omega
  subst hp
  refine g_if (t_test (x_ne (x_ix (x_ix (x_var (a := rows) rfl) (x_var (a := q + 0) rfl).up r1) (x_var (a := q) rfl).up (a := r.getD q 0) (getD_at (by omega))) x_int)) (fun hb => g_ret (x_var (a := q + 0) rfl) k) fun hb => ?_
  exfalso
  apply hne
  unfold at2
  rw [r2]
  simpa using hb
theorem size_sub {a b c d : Int} (ha : a.natAbs < 2 ^ 4000) (hb : b.natAbs < 2 ^ 4000) (hc : c.natAbs < 2 ^ 4000) (hd : d.natAbs < 2 ^ 4000) : (a * b - c * d).natAbs < 2 ^ 8500 := by
  have h1 : (a * b).natAbs < 2 ^ (4000 + 4000) := wide_lt ha hb
  have h2 : (c * d).natAbs < 2 ^ (4000 + 4000) := wide_lt hc hd
  have h3 := Int.natAbs_sub_le (a * b) (c * d)
  have h4 : 2 ^ (4000 + 4000 + 1) ≤ 2 ^ 8500 := Nat.pow_le_pow_right (by decide) (by decide)
  rw [Nat.pow_succ] at h4
  generalize 2 ^ (4000 + 4000) = W at *
  omega
/-- what comes back is the first that was handed in, or new -/
def sp_without_column : Sp := fun vs H Q _ => ∃ (row bs : List Int) (q : Nat), HL H [.sh row, .sh bs, .sh q] vs ∧ (row.length = bs.length ∧ q < row.length ∧ row.length < 1000 ∧ (∀ x ∈ row, x.natAbs < 2 ^ 4000) ∧ ∀ x ∈ bs, x.natAbs < 2 ^ 4000) ∧
  ∀ v H', Ex H H' → (∀ p, v = .ref p → H p = none ∨ vs.head? = some v) → Rep.is H' v (withoutP row bs q) → Q v H'
theorem start_go {H : Hp} {L : List Sl} {vs : List V} {N : List Str} {t : TS} {D : Ends} (h : HL H L vs) (ho : L.all notOwn = true) (hN : L.length ≤ N.length) (g : Go H (L ++ List.replicate (N.length - L.length) .any) t D) : t D (start N vs) H := g _ _ (Holds.start h ho hN)
theorem ok_without_column (T : Top K mg C) : Df P w K mg base "without_column" 3 ["row", "base", "k"] sp_without_column := by
  have d_reduced := ok_reduced (P := P) (w := w) (base := base) T
  refine T.f_without_column.ok sc_without_column ?_ fun f cdv A outer s H vs Q E hr h => ⟨_, (pss_cons (ps_if (pt_cmpR op_eq (pe_ix (ix_listK rfl) (pv 0) (pv 2) (fun _ _ => rfl)) pe_int (nomark _)) (pss_one (ps_ret (pv 0))) pss_nil)
        (pss_one (ps_ret (pe_df d_reduced (hr.mono (by decide)) rfl (pa_cons (pe_lc (own := [("x", 3), ("y", 4)]) (g := gTup K 2 (gCons (gName 3) (gCons (gName 4) gNil))) (tt := tYes) rfl sc_without_column.nd (pi_zip (by rfl) T.b_zip (pa_cons (pv 0) (pa_cons (pv 1) pa_nil))) (blkOk_by (N := ["row", "base", "k", "x", "y"]) (sc := defScope s_without_column) (by decide +kernel)) (fun _ _ _ _ _ => (pg_tup rfl (pgs_cons (pg_name (i := 3) sc_without_column.nd rfl (Or.inl rfl)) (pgs_cons (pg_name (i := 4) sc_without_column.nd rfl (Or.inl rfl)) pgs_nil)))) (fun _ _ _ _ _ => pts_nil) (fun _ _ _ _ _ => (pe_op op_sub (pe_op op_mulW (pe_ix (ix_listK rfl) (pv 1) (pv 2) (fun _ _ => rfl)) (pv 3)) (pe_op op_mulW (pe_ix (ix_listK rfl) (pv 0) (pv 2) (fun _ _ => rfl)) (pv 4))))) pa_nil))))), ?_⟩
  · rintro vs H Q E ⟨row, bs, q, hl, _⟩
    rw [hl.len]; rfl
  obtain ⟨row, bs, q, hl, ⟨h1, h2, h3, h4, h5⟩, k⟩ := h
  obtain ⟨v0, r0, rfl, i0, hl'⟩ := id hl
  have hS : Holds H [.sh row, .sh bs, .sh q, .any, .any] (start ["row", "base", "k", "x", "y"] (v0 :: r0)) H := Holds.start (L := [.sh row, .sh bs, .sh q]) (N := ["row", "base", "k", "x", "y"]) hl rfl (by show 3 ≤ 5; decide)
  have hq0 : row[q]? = some (row.getD q 0) := getD_at h2
  have hq1 : bs[q]? = some (bs.getD q 0) := getD_at (by omega)
  have hb0 : (row.getD q 0).natAbs < 2 ^ 4000 := h4 _ (List.mem_of_getElem? hq0)
  have hb1 : (bs.getD q 0).natAbs < 2 ^ 4000 := h5 _ (List.mem_of_getElem? hq1)
  refine t_test (x_eq (x_ix (x_var (a := row) rfl) (x_var (a := q) rfl).up hq0) x_int) _ _ hS _ fun H1 e1 => ?_
  by_cases hb : row.getD q 0 = 0
  · have e : withoutP row bs q = row := if_pos hb
    rw [if_pos (decide_eq_true hb)]
    exact ⟨v0, rfl, k v0 H1 e1 (fun p z => .inr rfl) (by rw [e]; exact Rep.mono e1 i0)⟩
  · have e : withoutP row bs q = reducedP ((row.zip bs).map fun z => bs.getD q 0 * z.1 - row.getD q 0 * z.2) := if_neg hb
    rw [if_neg (fun z => hb (of_decide_eq_true z))]
    have go : ∀ (t : TS) (D : Ends), Go H [.sh row, .sh bs, .sh q, .any, .any] t D → t D (start ["row", "base", "k", "x", "y"] (v0 :: r0)) H1 := fun t D g => g _ _ (hS.mono e1)
    have hN : ∀ (D : Ends) (σ : L2.St) (H : Hp), D.nx σ H → tNext D σ H := fun _ _ _ h => h
    refine hN _ _ _ ?_
    dsimp only
    refine go _ _ ?_
    refine g_retN (x_cN ((row.zip bs).map fun z => bs.getD q 0 * z.1 - row.getD q 0 * z.2) (xa_cons (x_lcZ (fun x y => bs.getD q 0 * x - row.getD q 0 * y) (xa_cons (x_var (a := row) rfl) (xa_cons (x_var (a := bs) rfl) xa_nil)) h1 (by omega) (by decide) fun H' e' j x y hx hy => x_sub (x_mulW (a := 4000) (b := 4000) (x_ix (x_var (a := bs) rfl) (x_var (a := q) rfl).up hq1) (x_var (a := x) rfl) hb1 (h4 _ (List.mem_of_getElem? hx))) (x_mulW (a := 4000) (b := 4000) (x_ix (x_var (a := row) rfl) (x_var (a := q) rfl).up hq0) (x_var (a := y) rfl) hb0 (h5 _ (List.mem_of_getElem? hy)))).d xa_nil) ⟨fun z hz => ?_, ?_⟩) fun v H' e2 n i => k v H' e2 (fun p z => .inl (n p z)) (e ▸ i)
    · obtain ⟨⟨x, y⟩, hm, rfl⟩ := List.mem_map.mp hz
      have hx := h4 x (List.of_mem_zip hm).1
      have hy := h5 y (List.of_mem_zip hm).2
      exact size_sub hb1 hx hb0 hy
    · show ((row.zip bs).map _).length < 100000
      rw [List.length_map, List.length_zip]
      omega
end
section
variable {He : Hp} {S T : List Sl} {K : PySem.W.Frag} {te ta tb tc tx : TE} {tt : TT} {D : Ends} {ts tz tw : TS}
theorem x_cW {E : XK} {t1 t2 t3 : TE} {row bs : List Int} {q : Nat} (h1 : XV He S t1 row) (h2 : XD He S t2 bs) (h3 : XD He S t3 q) (hp : row.length = bs.length ∧ q < row.length ∧ row.length < 1000 ∧ (∀ x ∈ row, x.natAbs < 2 ^ 4000) ∧ ∀ x ∈ bs, x.natAbs < 2 ^ 4000) :
    XV He S (tCall sp_without_column [] E (tCons t1 (tCons t2 (tCons t3 tNil)))) (withoutP row bs q) := fun H0 e σ H b Q k => h1 H0 e σ H b _ fun v1 H1 e1 n1 i1 => h2 σ H1 ((b.holds.low e).mono e1) _ fun v2 H2 e2 i2 => h3 σ H2 ((b.holds.low e).mono (e1.trans e2)) _ fun v3 H3 e3 i3 => by
  refine ⟨row, bs, q, ⟨v1, _, rfl, Rep.mono (e2.trans e3) i1, v2, _, rfl, Rep.mono e3 i2, v3, _, rfl, i3, rfl⟩, hp, fun v H' e4 al i => k v H' (e1.trans (e2.trans (e3.trans e4))) (fun p z => ?_) i⟩
  rcases al p z with al | al
  · exact .inl (fresh_back (e1.trans (e2.trans e3)) al)
  · have : v1 = v := Option.some.inj al
    exact n1 p (this.trans z)
/-- v[i], v[j] = v[j], v[i] where i = j -/
theorem q_swap {m i j k0 : Nat} {α : Type} [Rep α] {l : List α} {a : α} (hm : S[m]? = some (.sh l)) (hi : S[i]? = some (.sh k0)) (hj : S[j]? = some (.sh k0)) (ha : l[k0]? = some a) (k : Go He S tz D) :
    Go He S (tSeq (tAsg (tTup (tCons (tOp (rIxL K) (tVar m) (tVar j)) (tCons (tOp (rIxL K) (tVar m) (tVar i)) tNil))) (gTup K 2 (gCons (gSub (tVar m) (tVar i) rSetL) (gCons (gSub (tVar m) (tVar j) rSetL) gNil)))) tz) D := fun σ H hs => by
  obtain ⟨v, ev, r⟩ := hs.sh hm
  obtain ⟨vi, ei, ri⟩ := hs.sh hi
  obtain ⟨vj, ej, rj⟩ := hs.sh hj
  obtain ⟨p, xs, rfl, hp, hx⟩ := id r
  obtain ⟨x, ex, rx⟩ := hx.get ha
  have hk : k0 < xs.length := (List.getElem?_eq_some_iff.mp ex).1
  have eset : xs.set k0 x = xs := by
    apply List.ext_getElem?
    intro q
    by_cases z : k0 = q
    · subst z; rw [List.getElem?_set_self hk, ex]
    · rw [List.getElem?_set_ne z]
  refine ⟨_, ev, _, ej, p, xs, (k0 : Int), x, rfl, is_nat.mp rj, SqL.of hp, atI_nat ex, _, ev, _, ei, p, xs, (k0 : Int), x, rfl, is_nat.mp ri, SqL.of hp, atI_nat ex, by show 2 ≤ sizeLine; decide, fun T hT => ?_⟩
  have hp1 : upd H T (.tup [x, x]) p = some (.lst xs) := (Ex.new hT) _ _ hp
  have eupd : upd (upd H T (.tup [x, x])) p (.lst (xs.set k0 x)) = upd H T (.tup [x, x]) := by
    funext b
    by_cases z : b = p
    · subst z; rw [upd_same, eset, hp1]
    · rw [upd_ne z]
  refine ⟨T, _, rfl, SqT.of upd_same, rfl, _, _, rfl, _, ev, _, ei, p, xs, (k0 : Int), k0, rfl, is_nat.mp ri, hp1, ixN_nat hk, ?_⟩
  rw [eupd]
  refine ⟨_, _, rfl, _, ev, _, ej, p, xs, (k0 : Int), k0, rfl, is_nat.mp rj, hp1, ixN_nat hk, ?_⟩
  rw [eupd]
  exact ⟨rfl, k _ _ (hs.mono (Ex.new hT))⟩
end
section
variable {P : Program} {w : World} {K : PySem.W.Frag} {mg : Str → Option Value} {base : Heap} {C : Addr}
def Bnd (rows : Mat) : Prop := ∀ i j, (at2 rows i j).natAbs < 2 ^ 4000
theorem Bnd.row {rows : Mat} (h : Bnd rows) {i : Nat} {r : List Int} (hr : rows[i]? = some r) : ∀ x ∈ r, x.natAbs < 2 ^ 4000 := fun x hx => by
  obtain ⟨j, hj⟩ := List.mem_iff_getElem?.mp hx
  have h := h i j
  have e : rows.getD i [] = r := by rw [List.getD_eq_getElem?_getD, hr]; rfl
  have e2 : r.getD j 0 = x := by rw [List.getD_eq_getElem?_getD, hj]; rfl
  unfold at2 at h
  rw [e, e2] at h
  exact h
def sp_cleared : Sp := SpN (ι := Mat × Nat × Nat) (fun i => [.sh i.1, .sh i.2.1]) (fun i => Shape i.2.2 (i.2.2 + 1) i.1 ∧ i.2.1 < i.2.2 ∧ i.2.2 ≤ 100 ∧ Bnd i.1) fun i => clearedP i.1 i.2.1
theorem ok_cleared (T : Top K mg C) : Df P w K mg base "cleared" 4 ["rows", "k"] sp_cleared := by
  have d_without_column := ok_without_column (P := P) (w := w) (base := base) T
  refine T.f_cleared.okN sc_cleared (fun _ => rfl) (fun _ => rfl) ?_
  intro i hpre f cdv A outer s H Q E hr
  refine ⟨_, (pss_cons (ps_set (i := 2) sc_cleared.nd rfl (Or.inl rfl) (pe_lst pa_nil))
        (pss_cons (ps_for PassesOwn.never rfl (pi_range1 rfl T.b_range (pa_cons (pe_callB call_len_seq (by rfl) T.b_len (by decide +kernel) (pa_cons (pv 0) pa_nil)) pa_nil)) (pg_name (i := 3) sc_cleared.nd rfl (Or.inl rfl)) (pss_one (ps_if (pt_cmpR op_eq (pv 3) (pv 1) (nomark _)) (pss_one (ps_expr (pe_bm PySem.F.plainAttrs_list PySem.F.slot_list_append PySem.F.type_list_append mt_append (pv 2) (pa_cons (pe_ix (ix_listK rfl) (pv 0) (pv 3) (fun _ _ => rfl)) pa_nil)))) (pss_one (ps_expr (pe_bm PySem.F.plainAttrs_list PySem.F.slot_list_append PySem.F.type_list_append mt_append (pv 2) (pa_cons (pe_df d_without_column (hr.mono (by decide)) rfl (pa_cons (pe_ix (ix_listK rfl) (pv 0) (pv 3) (fun _ _ => rfl)) (pa_cons (pe_ix (ix_listK rfl) (pv 0) (pv 1) (fun _ _ => rfl)) (pa_cons (pv 1) pa_nil)))) pa_nil)))))))
        (pss_one (ps_ret (pv 2))))), fun k => ?_⟩
  obtain ⟨rows, q, n⟩ := i
  obtain ⟨hs, hq, hn, hb⟩ := hpre
  have hs : Shape n (n + 1) rows := hs
  have hq : q < n := hq
  have hn : n ≤ 100 := hn
  have hb : Bnd rows := hb
  have hl := hs.1
  obtain ⟨rq, q1, q2, q3⟩ := row_getD hs hq
  show Go H [.sh rows, .sh q, .any, .any] _ _
  refine q_nil (α := List Int) (q_range (n := n) (fun j => [.sh rows, .sh q, .own ((List.range j).map fun i => if i = q then rows.getD i [] else withoutP (rows.getD i []) (rows.getD q []) q), .any]) (xa_cons ((x_len (x_var (a := rows) rfl)).eq (by rw [hl])) xa_nil) (by omega) (Weak.refl _) (fun j hj => ?_) (g_retO rfl ?_))
  · obtain ⟨rj, r1, r2, r3⟩ := row_getD hs hj
    have fin : ∀ a : List Int, a = (if j = q then rows.getD j [] else withoutP (rows.getD j []) (rows.getD q []) q) → Nx H [.sh rows, .sh q, .own (((List.range j).map fun i => if i = q then rows.getD i [] else withoutP (rows.getD i []) (rows.getD q []) q) ++ [a]), .sh j] { nx := HP H [.sh rows, .sh q, .own ((List.range (j + 1)).map fun i => if i = q then rows.getD i [] else withoutP (rows.getD i []) (rows.getD q []) q), .any], rt := Q } := fun a ea σ H2 h2 => by
      refine h2.weak ⟨.inl rfl, .inl rfl, .inl ?_, .inr rfl, trivial⟩
      rw [List.range_succ, List.map_append, ea]; rfl
    refine g_if (t_test (x_eq (x_var (a := j) rfl).up (x_var (a := q) rfl).up)) (fun hc => ?_) fun hc => ?_
    · have ej : j = q := by have := of_decide_eq_true hc; omega
      refine g_appV rfl (x_ixV (l := rows) (j := j) rfl (x_var (a := j) rfl).up r1) (by rw [List.length_map, List.length_range]; omega) ?_
      exact fin _ (by rw [if_pos ej, r2])
    · have ej : ¬ j = q := by have := of_decide_eq_false hc; omega
      refine g_appV rfl (x_cW (x_ixV (l := rows) (j := j) rfl (x_var (a := j) rfl).up r1) (x_ix (x_var (a := rows) rfl) (x_var (a := q) rfl).up q1) (x_var (a := q) rfl) ⟨by rw [r3, q3], by omega, by omega, hb.row r1, hb.row q1⟩) (by rw [List.length_map, List.length_range]; omega) ?_
      exact fin _ (by rw [if_neg ej, r2, q2])
  · show RtN H _ ((List.range n).map _)
    have e : clearedP rows q = (List.range n).map fun i => if i = q then rows.getD i [] else withoutP (rows.getD i []) (rows.getD q []) q := by
      unfold clearedP; rw [hl]
    have k : RetN H Q (clearedP rows q) := k
    rw [e] at k
    exact k
end
end Cr
namespace Cr
open PySem PySem.Spec PyProof.Rows L2 Evl
section
variable {He : Hp} {S T : List Sl} {K : PySem.W.Frag} {te ta tb tc tx : TE} {tt : TT} {D : Ends} {ts tz tw : TS}
theorem eqV_int (x y : Int) : eqV (.int x) (.int y) = (x == y) := rfl
/-- l.index(n), the first place -/
theorem x_index {l : List Nat} {n j : Nat} (h1 : XD He S te l) (h2 : XD He S ta n) (nd : l.Nodup) (hj : l[j]? = some n) : XD He S (tBM K "list" (rIndex K) te (tCons ta tNil)) j := fun σ H hs Q q => h1 σ H hs _ fun v H1 e1 i1 => by
  obtain ⟨p, rfl, hp⟩ := nats_of i1
  refine Or.inl ⟨rfl, _, SqL.of hp⟩ |> fun z => ⟨z, h2 σ H1 (hs.mono e1) _ fun w H2 e2 i2 => ?_⟩
  have hjl := (List.getElem?_eq_some_iff.mp hj).1
  refine ⟨p, _, w, j, .int (n : Int), rfl, rfl, SqL.of (e2 _ _ hp), by rw [is_nat.mp i2]; rfl, ?_, by rw [List.getElem?_map, hj]; rfl, by rw [is_nat.mp i2, eqV_int]; simp, fun m z hm hz => ?_, q _ H2 (e1.trans e2) rfl⟩
  · rw [List.all_map]; exact List.all_eq_true.mpr fun _ _ => rfl
  · rw [List.getElem?_map] at hz
    obtain ⟨a, ha, rfl⟩ := Option.map_eq_some_iff.mp hz
    rw [is_nat.mp i2, eqV_int, beq_eq_false_iff_ne]
    intro z
    have z' : a = n := by omega
    subst z'
    have := (List.getElem?_inj (List.getElem?_eq_some_iff.mp ha).1 nd).mp (ha.trans hj.symm)
    omega
end
section
variable {P : Program} {w : World} {K : PySem.W.Frag} {mg : Str → Option Value} {base : Heap} {C : Addr}
theorem bd_W {n k : Nat} (h : k ≤ 8) : bd k < 2 ^ 4000 := by
  refine Nat.lt_of_lt_of_le (bd_lt k) (Nat.pow_le_pow_right (by decide) ?_)
  have : 2 ^ (k + 3) ≤ 2 ^ 11 := Nat.pow_le_pow_right (by decide) (by omega)
  have e : 2 ^ 11 = 2048 := by decide
  omega
theorem W_up {x : Nat} (h : x < 2 ^ 4000) : x < 2 ^ 8500 := Nat.lt_of_lt_of_le h (Nat.pow_le_pow_right (by decide) (by decide))
def sp_solve : Sp := SpN (ι := Nat × (Nat → Nat → Int)) (fun i => [.sh (RL i.1 i.2)]) (fun i => MM i.1 0 (at2 (RL i.1 i.2)) ∧ (∀ a b, a < i.1 → b < i.1 + 1 → (i.2 a b).natAbs ≤ 100) ∧ i.1 ≤ 8) fun i => (List.range i.1).map fun j => Tp.mk (solR i.1 i.2 j)
theorem ok_solve (T : Top K mg C) : Df P w K mg base "solve" 5 ["rows"] sp_solve := by
  have d_pivot_place := ok_pivot_place (P := P) (w := w) (base := base) T
  have d_cleared := ok_cleared (P := P) (w := w) (base := base) T
  have d_lowest := ok_lowest (P := P) (w := w) (base := base) T
  refine T.f_solve.okN sc_solve (fun _ => rfl) (fun _ => rfl) ?_
  intro i hpre f cdv A outer s H Q E hr
  refine ⟨_, (pss_cons (ps_set (i := 1) sc_solve.nd rfl (Or.inr rfl) (pe_callB call_len_seq (by rfl) T.b_len (by decide +kernel) (pa_cons (pv 0) pa_nil)))
        (pss_cons (ps_set (i := 2) sc_solve.nd rfl (Or.inr rfl) (pe_lc (own := [("row", 5)]) (g := gName 5) (tt := tYes) rfl sc_solve.nd (pi_list (pv 0)) (blkOk_by (N := ["rows", "many", "work", "k", "place", "row"]) (sc := defScope s_solve) (by decide +kernel)) (fun _ _ _ _ _ => (pg_name (i := 5) sc_solve.nd rfl (Or.inl rfl))) (fun _ _ _ _ _ => pts_nil) (fun _ _ _ _ _ => (pe_callTy (call_listK rfl) (by rfl) T.b_list (by decide +kernel) (pa_cons (pv 5) pa_nil)))))
        (pss_cons (ps_for PassesOwn.never rfl (pi_range1 rfl T.b_range (pa_cons (pv 1) pa_nil)) (pg_name (i := 3) sc_solve.nd rfl (Or.inl rfl)) (pss_cons (ps_set (i := 4) sc_solve.nd rfl (Or.inl rfl) (pe_df d_pivot_place (hr.mono (by decide)) rfl (pa_cons (pv 2) (pa_cons (pv 3) pa_nil))))
        (pss_cons (ps_asg (pe_tup (pa_cons (pe_ix (ix_listK rfl) (pv 2) (pv 4) (fun _ _ => rfl)) (pa_cons (pe_ix (ix_listK rfl) (pv 2) (pv 3) (fun _ _ => rfl)) pa_nil))) (pg_tup rfl (pgs_cons (pg_sub (pv 2) (pv 3) set_list) (pgs_cons (pg_sub (pv 2) (pv 4) set_list) pgs_nil))))
        (pss_one (ps_set (i := 2) sc_solve.nd rfl (Or.inr rfl) (pe_df d_cleared (hr.mono (by decide)) rfl (pa_cons (pv 2) (pa_cons (pv 3) pa_nil))))))))
        (pss_one (ps_ret (pe_lc (own := [("k", 3)]) (g := gName 3) (tt := tYes) rfl sc_solve.nd (pi_range1 rfl T.b_range (pa_cons (pv 1) pa_nil)) (blkOk_by (N := ["rows", "many", "work", "k", "place", "row"]) (sc := defScope s_solve) (by decide +kernel)) (fun _ _ _ _ _ => (pg_name (i := 3) sc_solve.nd rfl (Or.inl rfl))) (fun _ _ _ _ _ => pts_nil) (fun _ _ _ _ _ => (pe_df d_lowest (hr.mono (by decide)) rfl (pa_cons (pe_ix (ix_listK rfl) (pe_ix (ix_listK rfl) (pv 2) (pv 3) (fun _ _ => rfl)) (pv 1) (fun _ _ => rfl)) (pa_cons (pe_ix (ix_listK rfl) (pe_ix (ix_listK rfl) (pv 2) (pv 3) (fun _ _ => rfl)) (pv 3) (fun _ _ => rfl)) pa_nil)))))))))), fun k => ?_⟩
  obtain ⟨n, g⟩ := i
  obtain ⟨hm, hb, hn⟩ := hpre
  have hn : n ≤ 8 := hn
  have hm : MM n 0 (at2 (RL n g)) := hm
  have hb : ∀ a b, a < n → b < n + 1 → (g a b).natAbs ≤ 100 := hb
  have hl : (RL n g).length = n := (RL_shape n g).1
  have ru := run hm hb
  show Go H [.sh (RL n g), .any, .any, .any, .any, .any] _ _
  refine q_set (a := n) ((x_len (x_var (a := RL n g) rfl)).eq (by rw [hl])) ?_
  refine q_set (a := RL n g) ((x_lcV (m := 0) (l := RL n g) (fun _ => true) (fun r => r) rfl (by omega) (fun _ _ _ _ _ => t_yes) fun H' e j r hr _ => x_list (x_var (a := r) rfl)).eq (by rw [List.map_id', List.filter_eq_self.mpr fun _ _ => rfl])).d ?_
  refine q_range (n := n) (fun j => [.sh (RL n g), .sh n, .sh (elimP (RL n g) j), .any, .any, .any]) (xa_cons (x_var (a := n) rfl).up xa_nil) (by omega) (Weak.refl _) (fun j hj => ?_) ?_
  · have r := ru j (by omega)
    have hp := r.mm.pivot hj
    obtain ⟨row, r1, r2, r3⟩ := row_getD r.sh hj
    refine q_set (a := j) (x_cD (elimP (RL n g) j, j, n) (xa_cons (x_var rfl) (xa_cons (x_var rfl) xa_nil)) ⟨r.sh, hj, by show n ≤ 1000; omega, by show at2 (elimP (RL n g) j) j j ≠ 0; omega⟩) ?_
    refine q_swap (m := 2) (i := 3) (j := 4) (k0 := j) (l := elimP (RL n g) j) rfl rfl rfl r1 ?_
    refine g_set (a := elimP (RL n g) (j + 1)) (XD.eq (x_cN (elimP (RL n g) j, j, n) (xa_cons (x_var rfl) (xa_cons (x_var rfl) xa_nil)) ⟨r.sh, hj, by show n ≤ 100; omega, fun a b => Nat.lt_of_le_of_lt (r.le a b) (bd_W (n := n) (by omega))⟩).d (elim_succ _ _).symm) fun σ H h2 => h2.weak ⟨.inl rfl, .inl rfl, .inl rfl, .inr rfl, .inr rfl, .inl rfl, trivial⟩
  · have r := ru n (Nat.le_refl n)
    refine g_retN ((x_lcR (n := n) (fun _ => true) (fun j => Tp.mk (solR n g j)) (xa_cons (x_var (a := n) rfl).up xa_nil) (by omega) (fun _ _ => t_yes) fun j hj _ => ?_).eq (by rw [List.filter_eq_self.mpr fun _ _ => rfl])) k
    obtain ⟨row, r1, r2, r3⟩ := row_getD r.sh hj
    have e1 : at2 (elimP (RL n g) n) j n = row.getD n 0 := by unfold at2; rw [r2]
    have e2 : at2 (elimP (RL n g) n) j j = row.getD j 0 := by unfold at2; rw [r2]
    refine x_cN (at2 (elimP (RL n g) n) j n, at2 (elimP (RL n g) n) j j) (xa_cons (XD.eq (x_ix (x_ix (x_var (a := elimP (RL n g) n) rfl) (x_var (a := j) rfl).up r1) (x_var (a := n) rfl).up (getD_at (d := 0) (by omega))) e1.symm) (xa_cons (XD.eq (x_ix (x_ix (x_var (a := elimP (RL n g) n) rfl) (x_var (a := j) rfl).up r1) (x_var (a := j) rfl).up (getD_at (d := 0) (by omega))) e2.symm) xa_nil)) ⟨(solved_is hm hb j hj).1, W_up (Nat.lt_of_le_of_lt (r.le j j) (bd_W (n := n) hn))⟩
def sp_coefficient : Sp := SpD (ι := VT × Nat × Nat × Int) (fun i => [.sh i.1, .sh i.2.1, .sh i.2.2.1, .sh i.2.2.2]) (fun i => Sq i.1 ∧ i.2.1 < i.1.length ∧ i.2.2.1 < i.1.length) fun i => cf i.1 i.2.1 i.2.2.1 i.2.2.2
theorem ok_coefficient (T : Top K mg C) : Df P w K mg base "coefficient" 1 ["table", "company", "k", "left_out"] sp_coefficient := by
  refine T.f_coefficient.okD sc_coefficient (fun _ => rfl) (fun _ => rfl) ?_
  intro i hpre f cdv A outer s H Q E hr
  refine ⟨_, (pss_cons (ps_set (i := 4) sc_coefficient.nd rfl (Or.inl rfl) pe_int)
        (pss_cons (ps_if (pt_cmpR op_eq (pv 2) (pv 1) (nomark _)) (pss_one (ps_set (i := 4) sc_coefficient.nd rfl (Or.inl rfl) pe_int)) pss_nil)
        (pss_cons (ps_if (pt_cmpR op_eq (pv 2) (pv 3) (nomark _)) (pss_one (ps_ret (pv 4))) pss_nil)
        (pss_one (ps_ret (pe_op op_sub (pv 4) (pe_ix (ix_listK rfl) (pe_ix (ix_listK rfl) (pv 0) (pv 2) (fun _ _ => rfl)) (pv 1) (fun _ _ => rfl)))))))), fun k => ?_⟩
  obtain ⟨t, c, q, left⟩ := i
  obtain ⟨hs, hc, hq⟩ := hpre
  have hs : Sq t := hs
  have hc : c < t.length := hc
  have hq : q < t.length := hq
  obtain ⟨row, r1, r2⟩ := row_at hs hq
  show Go H [.sh t, .sh c, .sh q, .sh left, .any] _ _
  refine q_set (a := (0 : Int)) x_int (q_pick [.sh t, .sh c, .sh q, .sh left, .sh (if q = c then (100 : Int) else 0)] (t_test (x_eq (x_var (a := q) rfl).up (x_var (a := c) rfl).up)) (fun hb k => g_set (a := (100 : Int)) x_int fun σ H h2 => ?_) (fun hb => ?_) ?_)
  · have e : q = c := by have := of_decide_eq_true hb; omega
    rw [if_pos e] at k
    exact k σ H h2
  · have e : ¬ q = c := by have := of_decide_eq_false hb; omega
    rw [if_neg e]
    exact Weak.refl _
  · refine q_code (t_test (x_eq (x_var (a := q) rfl).up (x_var (a := left) rfl))) (x_var (a := if q = c then (100 : Int) else 0) rfl) (fun hb => ?_) k fun hb => g_ret ((x_sub (x_var (a := if q = c then (100 : Int) else 0) rfl) (x_ix (x_ix (x_var (a := t) rfl) (x_var (a := q) rfl).up r1) (x_var (a := c) rfl).up (cell_at r1 (by rw [r2]; exact hc)))).eq ?_) k
    · show _ = cf t c q left
      unfold cf
      rw [if_pos (of_decide_eq_true hb)]; omega
    · show _ = cf t c q left
      unfold cf
      rw [if_neg (of_decide_eq_false hb)]
def eqRow (cs : List Nat) (t : VT) (own : List Int) (left : Int) (c : Nat) : List Int := (cs.map fun q => cf t c q left) ++ [own.getD c 0]
def sp_equations : Sp := SpN (ι := VT × List Nat × List Int × Int) (fun i => [.sh i.1, .sh i.2.1, .sh i.2.2.1, .sh i.2.2.2]) (fun i => Sq i.1 ∧ (∀ c ∈ i.2.1, c < i.1.length) ∧ i.2.2.1.length = i.1.length ∧ i.2.1.length < 1000) fun i => RL i.2.1.length (eqL i.2.1 i.1 i.2.2.1 i.2.2.2)
theorem ok_equations (T : Top K mg C) : Df P w K mg base "equations" 2 ["table", "companies", "own", "left_out"] sp_equations := by
  have d_coefficient := ok_coefficient (P := P) (w := w) (base := base) T
  refine T.f_equations.okN sc_equations (fun _ => rfl) (fun _ => rfl) ?_
  intro i hpre f cdv A outer s H Q E hr
  refine ⟨_, (pss_cons (ps_set (i := 4) sc_equations.nd rfl (Or.inl rfl) (pe_lst pa_nil))
        (pss_cons (ps_for PassesOwn.never rfl (pi_list (pv 1)) (pg_name (i := 5) sc_equations.nd rfl (Or.inr rfl)) (pss_cons (ps_setLc (i := 6) (own := [("k", 7)]) (g := gName 7) (tt := tYes) rfl sc_equations.nd rfl rfl (sw_true rfl rfl rfl (by decide +kernel)) (pi_list (pv 1)) (blkOk_by (N := ["table", "companies", "own", "left_out", "rows", "company", "row", "k"]) (sc := defScope s_equations) (by decide +kernel)) (fun _ _ _ _ _ => (pg_name (i := 7) sc_equations.nd rfl (Or.inl rfl))) (fun _ _ _ _ _ => pts_nil) (fun _ _ _ _ _ => (pe_df d_coefficient (hr.mono (by decide)) rfl (pa_cons (pv 0) (pa_cons (pv 5) (pa_cons (pv 7) (pa_cons (pv 3) pa_nil)))))))
        (pss_cons (ps_expr (pe_bm PySem.F.plainAttrs_list PySem.F.slot_list_append PySem.F.type_list_append mt_append (pv 6) (pa_cons (pe_ix (ix_listK rfl) (pv 2) (pv 5) (fun _ _ => rfl)) pa_nil)))
        (pss_one (ps_expr (pe_bm PySem.F.plainAttrs_list PySem.F.slot_list_append PySem.F.type_list_append mt_append (pv 4) (pa_cons (pv 6) pa_nil)))))))
        (pss_one (ps_ret (pv 4))))), fun k => ?_⟩
  obtain ⟨t, cs, own, left⟩ := i
  obtain ⟨hs, hc, ho, hz⟩ := hpre
  have hs : Sq t := hs
  have hc : ∀ c ∈ cs, c < t.length := hc
  have ho : own.length = t.length := ho
  have hz : cs.length < 1000 := hz
  have k : RetN H Q (RL cs.length (eqL cs t own left)) := k
  rw [RL_rows] at k
  show Go H [.sh t, .sh cs, .sh own, .sh left, .any, .any, .any, .any] _ _
  refine q_nil (α := List Int) (q_forV (m := 1) (l := cs) (fun j => [.sh t, .sh cs, .sh own, .sh left, .own ((cs.take j).map (eqRow cs t own left)), .any, .any, .any]) rfl (Weak.refl _) (fun H1 e1 j c hr => ?_) (g_retO rfl ?_))
  · have hcl := hc c (List.mem_of_getElem? hr)
    refine q_mkapp 4 (l := cs.map fun q => cf t c q left) (x := own.getD c 0) ((x_lcV (m := 1) (l := cs) (fun _ => true) (fun q => cf t c q left) rfl (by omega) (fun _ _ _ _ _ => t_yes) fun H' e m q hq _ => (x_cD (t, c, q, left) (xa_cons (x_var rfl) (xa_cons (x_var rfl) (xa_cons (x_var rfl) (xa_cons (x_var rfl) xa_nil)))) ⟨hs, hcl, hc q (List.mem_of_getElem? hq)⟩).int).eq (by rw [List.filter_eq_self.mpr fun _ _ => rfl])) (x_ix (x_var (a := own) rfl) (x_var (a := c) rfl).up (getD_at (by omega))) (by rw [List.length_map]; omega) ?_ rfl (by show 6 < 8; decide)
    refine g_appV rfl (x_varV rfl) (by rw [List.length_map, List.length_take]; omega) fun σ H h2 => h2.weak ⟨.inl rfl, .inl rfl, .inl rfl, .inl rfl, .inl ?_, .inr rfl, .inr rfl, .inl rfl, trivial⟩
    rw [List.take_add_one, hr, List.map_append]; rfl
  · rw [List.take_length]; exact k
theorem at_comp {ps : List Bool} {c : Nat} (h : ps[c]? = some true) : ∃ i : Nat, (comps ps)[i]? = some c := List.mem_iff_getElem?.mp (mem_comps.mpr ⟨(List.getElem?_eq_some_iff.mp h).1, h⟩)
def sp_party_interest : Sp := SpD (ι := VS × Nat × Nat × Nat × Nat) (fun i => [.sh (Cr.tb i.1 i.2.1 i.2.2.1), .sh i.1.parties, .sh i.2.2.2.1, .sh i.2.2.2.2]) (fun i => WF i.1 ∧ i.2.2.2.1 < i.1.parties.length ∧ i.1.parties[i.2.2.2.2]? = some true)
  fun i => Tp.mk (Valdgg.fractionRow (Valdgg.atCompany (Valdgg.knownAfter i.1 i.2.2.1) (Valdgg.interests (Valdgg.knownAfter i.1 i.2.2.1) i.2.1 i.2.2.2.1) i.2.2.2.2))
theorem ok_party_interest (T : Top K mg C) : Df P w K mg base "party_interest" 6 ["table", "parties", "party", "company"] sp_party_interest := by
  have d_companies_of := ok_companies_of (P := P) (w := w) (base := base) T
  have d_solve := ok_solve (P := P) (w := w) (base := base) T
  have d_equations := ok_equations (P := P) (w := w) (base := base) T
  refine T.f_party_interest.okD sc_party_interest (fun _ => rfl) (fun _ => rfl) ?_
  intro i hpre f cdv A outer s H Q E hr
  refine ⟨_, (pss_cons (ps_set (i := 4) sc_party_interest.nd rfl (Or.inl rfl) (pe_df d_companies_of (hr.mono (by decide)) rfl (pa_cons (pv 1) pa_nil)))
        (pss_cons (ps_set (i := 5) sc_party_interest.nd rfl (Or.inl rfl) (pe_df d_solve (hr.mono (by decide)) rfl (pa_cons (pe_df d_equations (hr.mono (by decide)) rfl (pa_cons (pv 0) (pa_cons (pv 4) (pa_cons (pe_ix (ix_listK rfl) (pv 0) (pv 2) (fun _ _ => rfl)) (pa_cons (pv 2) pa_nil))))) pa_nil)))
        (pss_one (ps_ret (pe_ix (ix_listK rfl) (pv 5) (pe_bm PySem.F.plainAttrs_list PySem.F.slot_list_index PySem.F.type_list_index mt_index (pv 4) (pa_cons (pv 3) pa_nil)) (fun _ _ => rfl)))))), fun k => ?_⟩
  obtain ⟨st, d, n, p, c⟩ := i
  obtain ⟨wf, hp, hc⟩ := hpre
  have wf : WF st := wf
  have hp : p < st.parties.length := hp
  have hc : st.parties[c]? = some true := hc
  have h1 := wf.np
  have h8 : (comps st.parties).length ≤ 8 := wf.nc
  have etl : (Cr.tb st d n).length = st.parties.length := tab_len _ _ _
  obtain ⟨row, r1, r2⟩ := row_at (tab_sq st.parties.length (liveOf (st.records.take n)) d) (k := p) (by rw [tab_len]; exact hp)
  have r2 : row.length = (Cr.tb st d n).length := r2
  obtain ⟨j, hj⟩ := at_comp hc
  obtain ⟨m1, m2, m3⟩ := interest_val wf d n hp r1 hj
  have hjl := (List.getElem?_eq_some_iff.mp hj).1
  have k : Ret H Q (Tp.mk (Valdgg.fractionRow (Valdgg.atCompany (Valdgg.knownAfter st n) (Valdgg.interests (Valdgg.knownAfter st n) d p) c))) := k
  rw [m3] at k
  show Go H [.sh (Cr.tb st d n), .sh st.parties, .sh p, .sh c, .any, .any] _ _
  refine q_set (a := comps st.parties) (x_cN st.parties (xa_cons (x_var rfl) xa_nil) (by omega)).d ?_
  refine q_set (a := (List.range (comps st.parties).length).map fun q => Tp.mk (solR (comps st.parties).length (eqL (comps st.parties) (Cr.tb st d n) row (p : Int)) q)) (x_cN ((comps st.parties).length, eqL (comps st.parties) (Cr.tb st d n) row (p : Int)) (xa_cons (x_cN (Cr.tb st d n, comps st.parties, row, (p : Int)) (xa_cons (x_var rfl) (xa_cons (x_var rfl) (xa_cons (x_ix (x_var (a := Cr.tb st d n) rfl) (x_var (a := p) rfl).up r1) (xa_cons (x_var (a := p) rfl).up xa_nil)))) ⟨tab_sq _ _ _, fun c hc => by rw [show (Cr.tb st d n, comps st.parties, row, (p : Int)).1.length = st.parties.length from etl]; exact comps_lt hc, r2, by show (comps st.parties).length < 1000; omega⟩).d xa_nil) ⟨m1, m2, h8⟩).d ?_
  exact g_ret (x_ix (x_var (a := (List.range (comps st.parties).length).map fun q => Tp.mk (solR (comps st.parties).length (eqL (comps st.parties) (Cr.tb st d n) row (p : Int)) q)) rfl) (x_index (x_var (a := comps st.parties) rfl) (x_var (a := c) rfl) (compsL_nodup _) hj).up (by rw [List.getElem?_map, List.getElem?_range hjl]; rfl)) k
def sp_free_interest : Sp := SpD (ι := VS × Nat × Nat × Nat) (fun i => [.sh (Cr.tb i.1 i.2.1 i.2.2.1), .sh i.1.parties, .sh i.2.2.2]) (fun i => WF i.1 ∧ i.1.parties[i.2.2.2]? = some true)
  fun i => Tp.mk (Valdgg.fractionRow (Valdgg.atCompany (Valdgg.knownAfter i.1 i.2.2.1) (Valdgg.floatInterests (Valdgg.knownAfter i.1 i.2.2.1) i.2.1) i.2.2.2))
theorem ok_free_interest (T : Top K mg C) : Df P w K mg base "free_interest" 6 ["table", "parties", "company"] sp_free_interest := by
  have d_companies_of := ok_companies_of (P := P) (w := w) (base := base) T
  have d_free_float := ok_free_float (P := P) (w := w) (base := base) T
  have d_solve := ok_solve (P := P) (w := w) (base := base) T
  have d_equations := ok_equations (P := P) (w := w) (base := base) T
  refine T.f_free_interest.okD sc_free_interest (fun _ => rfl) (fun _ => rfl) ?_
  intro i hpre f cdv A outer s H Q E hr
  refine ⟨_, (pss_cons (ps_set (i := 3) sc_free_interest.nd rfl (Or.inl rfl) (pe_df d_companies_of (hr.mono (by decide)) rfl (pa_cons (pv 1) pa_nil)))
        (pss_cons (ps_setLc (i := 4) (own := [("j", 6)]) (g := gName 6) (tt := tYes) rfl sc_free_interest.nd rfl rfl (sw_true rfl rfl rfl (by decide +kernel)) (pi_range1 rfl T.b_range (pa_cons (pe_callB call_len_seq (by rfl) T.b_len (by decide +kernel) (pa_cons (pv 1) pa_nil)) pa_nil)) (blkOk_by (N := ["table", "parties", "company", "companies", "own", "found", "j"]) (sc := defScope s_free_interest) (by decide +kernel)) (fun _ _ _ _ _ => (pg_name (i := 6) sc_free_interest.nd rfl (Or.inl rfl))) (fun _ _ _ _ _ => pts_nil) (fun _ _ _ _ _ => (pe_df d_free_float (hr.mono (by decide)) rfl (pa_cons (pv 0) (pa_cons (pv 6) pa_nil)))))
        (pss_cons (ps_set (i := 5) sc_free_interest.nd rfl (Or.inl rfl) (pe_df d_solve (hr.mono (by decide)) rfl (pa_cons (pe_df d_equations (hr.mono (by decide)) rfl (pa_cons (pv 0) (pa_cons (pv 3) (pa_cons (pv 4) (pa_cons (pe_un un_neg pe_int) pa_nil))))) pa_nil)))
        (pss_one (ps_ret (pe_ix (ix_listK rfl) (pv 5) (pe_bm PySem.F.plainAttrs_list PySem.F.slot_list_index PySem.F.type_list_index mt_index (pv 3) (pa_cons (pv 2) pa_nil)) (fun _ _ => rfl))))))), fun k => ?_⟩
  obtain ⟨st, d, n, c⟩ := i
  obtain ⟨wf, hc⟩ := hpre
  have wf : WF st := wf
  have hc : st.parties[c]? = some true := hc
  have h1 := wf.np
  have h8 : (comps st.parties).length ≤ 8 := wf.nc
  have etl : (Cr.tb st d n).length = st.parties.length := tab_len _ _ _
  generalize ho : ((List.range st.parties.length).map fun j => (100 : Int) - Valdgg.heldIn (Cr.tb st d n) (List.range (Cr.tb st d n).length) j) = own
  have hol : own.length = (Cr.tb st d n).length := by rw [← ho, List.length_map, List.length_range, etl]
  obtain ⟨j, hj⟩ := at_comp hc
  obtain ⟨m1, m2, m3⟩ := float_val wf d n ho.symm hj
  have hjl := (List.getElem?_eq_some_iff.mp hj).1
  have k : Ret H Q (Tp.mk (Valdgg.fractionRow (Valdgg.atCompany (Valdgg.knownAfter st n) (Valdgg.floatInterests (Valdgg.knownAfter st n) d) c))) := k
  rw [m3] at k
  show Go H [.sh (Cr.tb st d n), .sh st.parties, .sh c, .any, .any, .any, .any] _ _
  refine q_set (a := comps st.parties) (x_cN st.parties (xa_cons (x_var rfl) xa_nil) (by omega)).d ?_
  refine q_set (a := own) (XD.eq (x_lcR (n := st.parties.length) (fun _ => true) (fun q => (100 : Int) - Valdgg.heldIn (Cr.tb st d n) (List.range (Cr.tb st d n).length) q) (xa_cons (x_len (x_var (a := st.parties) rfl)) xa_nil) (by omega) (fun _ _ => t_yes) fun q hq _ => (x_cD (Cr.tb st d n, q) (xa_cons (x_var rfl) (xa_cons (x_var rfl) xa_nil)) ⟨tab_sq _ _ _, by show q < (Cr.tb st d n).length; omega, by show (Cr.tb st d n).length < 100000; omega⟩).int).d (by rw [List.filter_eq_self.mpr fun _ _ => rfl]; exact ho)) ?_
  refine q_set (a := (List.range (comps st.parties).length).map fun q => Tp.mk (solR (comps st.parties).length (eqL (comps st.parties) (Cr.tb st d n) own (-1)) q)) (x_cN ((comps st.parties).length, eqL (comps st.parties) (Cr.tb st d n) own (-1)) (xa_cons (x_cN (Cr.tb st d n, comps st.parties, own, (-1)) (xa_cons (x_var rfl) (xa_cons (x_var rfl) (xa_cons (x_var rfl) (xa_cons (x_neg x_int) xa_nil)))) ⟨tab_sq _ _ _, fun c hc => by rw [show (Cr.tb st d n, comps st.parties, own, (-1 : Int)).1.length = st.parties.length from etl]; exact comps_lt hc, hol, by show (comps st.parties).length < 1000; omega⟩).d xa_nil) ⟨m1, m2, h8⟩).d ?_
  exact g_ret (x_ix (x_var (a := (List.range (comps st.parties).length).map fun q => Tp.mk (solR (comps st.parties).length (eqL (comps st.parties) (Cr.tb st d n) own (-1)) q)) rfl) (x_index (x_var (a := comps st.parties) rfl) (x_var (a := c) rfl) (compsL_nodup _) hj).up (by rw [List.getElem?_map, List.getElem?_range hjl]; rfl)) k
def sp_interest (C : Addr) : Sp := SpN (ι := VS × Int × Int × Int × Int) (fun i => [.sh (bk C i.1), .sh i.2.1, .sh i.2.2.1, .sh i.2.2.2.1, .sh i.2.2.2.2]) (fun i => WF i.1) fun i => Valdgg.answerOf i.1 (.interest i.2.1 i.2.2.1 i.2.2.2.1 i.2.2.2.2)
theorem ok_interest (T : Top K mg C) : Df P w K mg base "interest" 7 ["book", "day", "party", "company", "n"] (sp_interest C) := by
  have d_pair_day_code := ok_pair_day_code (P := P) (w := w) (base := base) T
  have d_party_interest := ok_party_interest (P := P) (w := w) (base := base) T
  have d_held_table := ok_held_table (P := P) (w := w) (base := base) T
  refine T.f_interest.okN sc_interest (fun _ => rfl) (fun _ => rfl) ?_
  intro i hpre f cdv A outer s H Q E hr
  refine ⟨_, (pss_cons (ps_set (i := 5) sc_interest.nd rfl (Or.inl rfl) (pe_df d_pair_day_code (hr.mono (by decide)) rfl (pa_cons (pv 0) (pa_cons (pv 1) (pa_cons (pv 2) (pa_cons (pv 3) (pa_cons (pv 4) pa_nil)))))))
        (pss_cons (ps_if (pt_cmpR op_ne (pv 5) (pe_cst T.c_FINE) (nomark _)) (pss_one (ps_ret (pe_lst (pa_cons (pv 5) pa_nil)))) pss_nil)
        (pss_cons (ps_asg (pe_df d_party_interest (hr.mono (by decide)) rfl (pa_cons (pe_df d_held_table (hr.mono (by decide)) rfl (pa_cons (pv 0) (pa_cons (pv 1) (pa_cons (pv 4) pa_nil)))) (pa_cons (pe_fld (pv 0) rfl) (pa_cons (pv 2) (pa_cons (pv 3) pa_nil))))) (pg_tup rfl (pgs_cons (pg_name (i := 6) sc_interest.nd rfl (Or.inl rfl)) (pgs_cons (pg_name (i := 7) sc_interest.nd rfl (Or.inl rfl)) pgs_nil))))
        (pss_one (ps_ret (pe_lst (pa_cons pe_int (pa_cons (pv 6) (pa_cons (pv 7) pa_nil))))))))), fun k => ?_⟩
  obtain ⟨st, d, p, c, n⟩ := i
  have wf : WF st := hpre
  have h1 := wf.np
  have h2 := wf.nr
  obtain ⟨ea, eb⟩ := ans_eq (interest_is st d p c n)
  show Go H [.sh (bk C st), .sh d, .sh p, .sh c, .sh n, .any, .any, .any] _ _
  refine q_set (x_cD (st, d, p, c, n) (xa_cons (x_var rfl) (xa_cons (x_var rfl) (xa_cons (x_var rfl) (xa_cons (x_var rfl) (xa_cons (x_var rfl) xa_nil))))) trivial) (q_bad (c := pdcode st d p c n) rfl k ea fun hz => ?_)
  have k : RetN H Q _ := (eb hz).symm ▸ k
  obtain ⟨⟨d0, d1⟩, hz'⟩ := pdcode_0 hz
  obtain ⟨ok, p0, c0, n0, n1⟩ := prcode_0 hz'
  have p1 := ok.p0
  have c1 := ok.comp
  obtain ⟨d, rfl⟩ := Int.eq_ofNat_of_zero_le d0
  obtain ⟨p, rfl⟩ := Int.eq_ofNat_of_zero_le p0
  obtain ⟨c, rfl⟩ := Int.eq_ofNat_of_zero_le c0
  obtain ⟨n, rfl⟩ := Int.eq_ofNat_of_zero_le n0
  have hn : n ≤ st.records.length := by omega
  generalize hF : Valdgg.atCompany (Valdgg.knownAfter st n) (Valdgg.interests (Valdgg.knownAfter st n) d p) c = F
  have k : RetN H Q (0 :: Valdgg.fractionRow F) := hF ▸ k
  refine q_unp2 (x := F.numerator) (y := (F.denominator : Int)) (XD.eq (x_cD (st, d, n, p, c) (xa_cons (x_cD (st, d, n) (xa_cons (x_var rfl) (xa_cons (x_nat rfl) (xa_cons (x_nat rfl) xa_nil))) ⟨wf, hn⟩) (xa_cons (x_fldP T (x_var rfl)) (xa_cons (x_nat rfl) (xa_cons (x_nat rfl) xa_nil)))) ⟨wf, by show p < st.parties.length; omega, c1⟩) ?_) ?_
  · show Tp.mk (Valdgg.fractionRow (Valdgg.atCompany (Valdgg.knownAfter st n) (Valdgg.interests (Valdgg.knownAfter st n) d p) c)) = _
    rw [hF]; rfl
  · exact g_retN (x_lst (l := [0, F.numerator, (F.denominator : Int)]) (xa_cons x_int (xa_cons (x_var rfl) (xa_cons (x_var rfl) xa_nil)))) k
def sp_float_interest (C : Addr) : Sp := SpN (ι := VS × Int × Int × Int) (fun i => [.sh (bk C i.1), .sh i.2.1, .sh i.2.2.1, .sh i.2.2.2]) (fun i => WF i.1) fun i => Valdgg.answerOf i.1 (.floatInterest i.2.1 i.2.2.1 i.2.2.2)
theorem ok_float_interest (T : Top K mg C) : Df P w K mg base "float_interest" 7 ["book", "day", "company", "n"] (sp_float_interest C) := by
  have d_company_code := ok_company_code (P := P) (w := w) (base := base) T
  have d_free_interest := ok_free_interest (P := P) (w := w) (base := base) T
  have d_held_table := ok_held_table (P := P) (w := w) (base := base) T
  refine T.f_float_interest.okN sc_float_interest (fun _ => rfl) (fun _ => rfl) ?_
  intro i hpre f cdv A outer s H Q E hr
  refine ⟨_, (pss_cons (ps_set (i := 4) sc_float_interest.nd rfl (Or.inl rfl) (pe_df d_company_code (hr.mono (by decide)) rfl (pa_cons (pv 0) (pa_cons (pv 1) (pa_cons (pv 2) (pa_cons (pv 3) pa_nil))))))
        (pss_cons (ps_if (pt_cmpR op_ne (pv 4) (pe_cst T.c_FINE) (nomark _)) (pss_one (ps_ret (pe_lst (pa_cons (pv 4) pa_nil)))) pss_nil)
        (pss_cons (ps_asg (pe_df d_free_interest (hr.mono (by decide)) rfl (pa_cons (pe_df d_held_table (hr.mono (by decide)) rfl (pa_cons (pv 0) (pa_cons (pv 1) (pa_cons (pv 3) pa_nil)))) (pa_cons (pe_fld (pv 0) rfl) (pa_cons (pv 2) pa_nil)))) (pg_tup rfl (pgs_cons (pg_name (i := 5) sc_float_interest.nd rfl (Or.inl rfl)) (pgs_cons (pg_name (i := 6) sc_float_interest.nd rfl (Or.inl rfl)) pgs_nil))))
        (pss_one (ps_ret (pe_lst (pa_cons pe_int (pa_cons (pv 5) (pa_cons (pv 6) pa_nil))))))))), fun k => ?_⟩
  obtain ⟨st, d, c, n⟩ := i
  have wf : WF st := hpre
  have h1 := wf.np
  have h2 := wf.nr
  obtain ⟨ea, eb⟩ := ans_eq (float_is st d c n)
  show Go H [.sh (bk C st), .sh d, .sh c, .sh n, .any, .any, .any] _ _
  refine q_set (x_cD (st, d, c, n) (xa_cons (x_var rfl) (xa_cons (x_var rfl) (xa_cons (x_var rfl) (xa_cons (x_var rfl) xa_nil)))) trivial) (q_bad (c := ccode st d c n) rfl k ea fun hz => ?_)
  have k : RetN H Q _ := (eb hz).symm ▸ k
  have c1' := (ccode_0 hz).2
  obtain ⟨⟨c0, c1⟩, ⟨d0, d1⟩, n0, n1⟩ := pcode_0 (ccode_0 hz).1
  obtain ⟨d, rfl⟩ := Int.eq_ofNat_of_zero_le d0
  obtain ⟨c, rfl⟩ := Int.eq_ofNat_of_zero_le c0
  obtain ⟨n, rfl⟩ := Int.eq_ofNat_of_zero_le n0
  have hn : n ≤ st.records.length := by omega
  generalize hF : Valdgg.atCompany (Valdgg.knownAfter st n) (Valdgg.floatInterests (Valdgg.knownAfter st n) d) c = F
  have k : RetN H Q (0 :: Valdgg.fractionRow F) := hF ▸ k
  refine q_unp2 (x := F.numerator) (y := (F.denominator : Int)) (XD.eq (x_cD (st, d, n, c) (xa_cons (x_cD (st, d, n) (xa_cons (x_var rfl) (xa_cons (x_nat rfl) (xa_cons (x_nat rfl) xa_nil))) ⟨wf, hn⟩) (xa_cons (x_fldP T (x_var rfl)) (xa_cons (x_nat rfl) xa_nil))) ⟨wf, c1'⟩) ?_) ?_
  · show Tp.mk (Valdgg.fractionRow (Valdgg.atCompany (Valdgg.knownAfter st n) (Valdgg.floatInterests (Valdgg.knownAfter st n) d) c)) = _
    rw [hF]; rfl
  · exact g_retN (x_lst (l := [0, F.numerator, (F.denominator : Int)]) (xa_cons x_int (xa_cons (x_var rfl) (xa_cons (x_var rfl) xa_nil)))) k
end
end Cr
namespace Cr
open PySem PySem.Spec PyProof.Rows L2 Evl
/-- a list of numbers that is none of those of E -/
structure Nw where
  E : Hp
  l : List Nat
instance repNw : Rep Nw := ⟨fun H v a => Rep.is H v a.l ∧ ∀ p, v = .ref p → a.E p = none, fun e ⟨h1, h2⟩ => ⟨Rep.mono e h1, h2⟩⟩
section
variable {He : Hp} {S T : List Sl} {K : PySem.W.Frag} {te ta tb tc tx : TE} {tt : TT} {D : Ends} {ts tz tw : TS}
theorem XD.l {a : Nw} (h : XD He S te a) : XD He S te a.l := fun σ H hs Q q => h σ H hs Q fun v H2 e i => q v H2 e i.1
theorem XN.nw {l : List Nat} (h : XN He S te l) : XD He S te (Nw.mk He l) := fun σ H hs Q q => h σ H hs Q fun v H2 e n i => q v H2 e ⟨i, fun p z => fresh_back hs.ex (n p z)⟩
theorem g_retW {l : List Nat} (h : XD He S te (Nw.mk He l)) (k : RtN He D l) : Go He S (tRet te) D := fun σ H hs => h σ H hs _ fun v H1 e1 i1 => k v H1 (hs.ex.trans e1) i1.2 i1.1
theorem lexLt_nat : ∀ a b : List Nat, HT.lexLt (a.map fun n : Nat => (n : Int)) (b.map fun n : Nat => (n : Int)) = Valdgg.lexLess a b
  | [], [] => rfl
  | [], _ :: _ => rfl
  | _ :: _, [] => rfl
  | x :: a, y :: b => by
    have ih := lexLt_nat a b
    rw [List.map_cons, List.map_cons, HT.lexLt_cons, ih]
    show _ = (decide (x < y) || (x == y && Valdgg.lexLess a b))
    by_cases h : x = y
    · subst h; simp
    · rw [if_neg (by omega)]
      have e : (x == y) = false := by simpa using h
      rw [e, Bool.false_and, Bool.or_false]
      congr 1
      rw [eq_iff_iff]
      omega
theorem x_ltL {a b : List Nat} (h1 : XD He S ta a) (h2 : XD He S tb b) : XD He S (tOp (rLtL K) ta tb) (Valdgg.lexLess a b) := fun σ H hs Q q =>
  h1 σ H hs _ fun v H1 e1 i1 => h2 σ H1 (hs.mono e1) _ fun w H2 e2 i2 => by
    obtain ⟨p, rfl, hp⟩ := ints_of (nats_ints.mp i1)
    obtain ⟨p', rfl, hp'⟩ := ints_of (nats_ints.mp i2)
    exact ⟨p, p', _, _, rfl, rfl, SqL.of (e2 _ _ hp), SqL.of hp', q _ H2 (e1.trans e2) (by rw [lexLt_nat]; rfl)⟩
theorem x_shr {m i : Nat} (h1 : XD He S ta m) (h2 : XD He S tb i) : XD He S (tOp (rI (fun _ j => 0 ≤ j) fun i j => .int (i / 2 ^ j.toNat)) ta tb) (m / 2 ^ i) := x_I (z := m / 2 ^ i) h1.up h2.up (by omega) fun _ => by
  show V.int _ = V.int _
  rw [Int.natCast_ediv, Int.toNat_natCast, Int.natCast_pow]; rfl
theorem x_max0 {x : Int} (h : XD He S te x) : XD He S (tCB (fun xs H Q => ∃ i j, xs = [.int i, .int j] ∧ Q (.int (if j > i then j else i)) H) (tCons (tC (.int 0)) (tCons te tNil))) x.toNat := fun σ H hs Q q => h σ H hs _ fun v H1 e i =>
  ⟨0, x, by rw [is_int.mp i], q _ H1 e (by
    show V.int _ = V.int _
    congr 1
    split <;> omega)⟩
theorem x_mulN {x y : Nat} (h1 : XD He S ta x) (h2 : XD He S tb y) (hy : y < 2 ^ 60) : XD He S (tOp (rI CMul fun i j => .int (i * j)) ta tb) (x * y) := x_I (z := x * y) h1.up h2.up (by
    right
    have : (2 : Nat) ^ 60 < 2 ^ 64 := by decide
    omega) fun _ => by
  show V.int _ = V.int _
  rw [Int.natCast_mul]
theorem x_shl1 {i : Nat} (h : XD He S te i) (hi : i ≤ 1000) : XD He S (tOp (rI CPow fun i j => .int (i * 2 ^ j.toNat)) (tC (.int 1)) te) (2 ^ i) := x_I (z := 2 ^ i) x_int h.up ⟨by omega, by omega, by decide⟩ fun _ => by
  show V.int _ = V.int _
  rw [Int.toNat_natCast, Int.one_mul, Int.natCast_pow]; rfl
theorem x_subN {x y : Nat} (h1 : XD He S ta x) (h2 : XD He S tb y) (h : y ≤ x) : XD He S (tOp (rI0 fun i j => .int (i - j)) ta tb) (x - y) := x_I0 (z := x - y) h1.up h2.up fun _ => by
  show V.int _ = V.int _
  congr 1
  omega
/-- [0] * k -/
theorem x_repZ {k : Nat} (h : XD He S te k) (hk : k ≤ 100000) : XN He S (tOp rRep (tLst (tCons (tC (.int 0)) tNil)) te) (List.replicate k 0) := fun σ H hs Q q => by
  refine ⟨by show 1 ≤ sizeLine; decide, fun p hp => ?_⟩
  refine h σ _ (hs.mono (Ex.new hp)) _ fun w H2 e2 i2 => ?_
  have e0 : Ex H H2 := (Ex.new hp).trans e2
  refine ⟨p, (k : Int), [.int 0], rfl, is_nat.mp i2, e2 _ _ upd_same, by omega, by omega, by rw [sizeLine_eq]; simp only [List.length_cons, List.length_nil, Int.toNat_natCast]; omega, fun r hr => q _ _ (e0.trans (Ex.new hr)) (fun p z => by cases z; exact fresh_back e0 hr) ?_⟩
  refine of_nats (l := List.replicate k 0) ?_
  rw [upd_same, Int.toNat_natCast, List.flatten_replicate_singleton, List.map_replicate]
  rfl
/-- a new list, kept as one's own -/
theorem q_ownN {i : Nat} {α : Type} [Im α] {l : List α} (h : XN He S te l) (k : Go He (S.set i (.own l)) tz D) (no : S.all notOwn = true := by rfl) : Go He S (tSeq (tAsg te (gName i)) tz) D := fun σ H hs => h σ H hs _ fun v H1 e1 n i1 => by
  obtain ⟨p, xs, rfl, hp, hx⟩ := i1
  have hp0 := n p rfl
  refine k _ _ ?_
  obtain ⟨H0, x, b, c, d⟩ := hs.splitD no
  have exd : Ex H (del H1 p) := fun b' o hb => by
    rw [del_ne (by intro z; subst z; rw [hp0] at hb; cases hb)]
    exact e1 _ _ hb
  refine ⟨del H1 p, hs.ex.trans exd, del_ex, by simp [c], fun j s o h1 h2 => ?_⟩
  by_cases e : i = j
  · subst e
    have hi : i < σ.length := by have := (List.getElem?_eq_some_iff.mp h2).1; simpa using this
    rw [List.getElem?_set_self (by omega)] at h1
    rw [List.getElem?_set_self hi] at h2
    cases h1; cases h2
    exact ⟨p, xs, rfl, hp, del_self, hx.imp fun _ _ r => Im.im r hp⟩
  · rw [List.getElem?_set_ne e] at h1 h2
    have z := d j s o h1 h2
    cases s with
    | any => trivial
    | sh y => obtain ⟨w, z1, z2⟩ := z; exact ⟨w, z1, Rep.mono exd (Rep.mono b z2)⟩
    | own l' =>
      have := List.all_eq_true.mp no _ (List.mem_of_getElem? h1)
      cases this
/-- x = [e], e a new list -/
theorem q_own1 {i : Nat} {α : Type} [Rep α] {a : α} (h : XD He S te a) (k : Go He (S.set i (.own [a])) tz D) (no : S.all notOwn = true := by rfl) : Go He S (tSeq (tAsg (tLst (tCons te tNil)) (gName i)) tz) D := fun σ H hs => h σ H hs _ fun v H1 e1 i1 =>
  ⟨by show 1 ≤ sizeLine; decide, fun p hp => k _ _ ((hs.mono e1).new no i hp (All2.cons i1 All2.nil))⟩
/-- out[j] += e -/
theorem q_augS {i j : Nat} {l : List Nat} {x y : Nat} (hi : S[i]? = some (.own l)) (hj : XD He S tb (j : Int)) (hx : l[j]? = some x) (he : XD He S te y) (k : Go He (S.set i (.own (l.set j (x + y)))) tz D) (no : (S.set i .any).all notOwn = true := by rfl) :
    Go He S (tSeq (tAugS (tVar i) tb te (rGetL K) (ipI fun i j => i + j) rSetL) tz) D := fun σ H hs => by
  obtain ⟨p, xs, e, hp, _, hxs⟩ := hs.own hi
  refine ⟨_, e, hj σ H hs _ fun w H1 e1 i1 => ?_⟩
  obtain ⟨v, hv, rv⟩ := hxs.get hx
  refine ⟨p, xs, j, v, rfl, i1, SqL.of (e1 _ _ hp), hv, he σ H1 (hs.mono e1) _ fun u H2 e2 i2 => ⟨(x : Int), (y : Int), is_nat.mp rv, is_nat.mp i2, ?_⟩⟩
  obtain ⟨p', ys, e', hp', hx', c⟩ := hs.chg i hi no (e1.trans e2)
  rw [e] at e'
  cases e'
  have hq := e2 _ _ (e1 _ _ hp)
  rw [hq] at hp'
  cases hp'
  have hl : j < l.length := (List.getElem?_eq_some_iff.mp hx).1
  refine ⟨p, xs, (j : Int), j, rfl, i1, hq, ixN_nat (by rw [hx'.1]; exact hl), k _ _ (c _ _ (hx'.set j ?_))⟩
  show V.int _ = V.int _
  rw [Int.natCast_add]
theorem HB.mono {H0 H H1 : Hp} {σ : L2.St} (h : HB H0 S σ H) (e : Ex H H1) : HB H0 S σ H1 := by
  obtain ⟨a, b, c⟩ := h
  refine ⟨a.trans e, b, fun i s o h1 h2 => ?_⟩
  have z := c i s o h1 h2
  cases s with
  | any => trivial
  | sh y => exact z
  | own l =>
    obtain ⟨p, xs, z1, z2, z3⟩ := z
    exact ⟨p, xs, z1, e _ _ z2, z3⟩
/-- a value that is not one's own list, set beside it -/
theorem HB.setV {H0 H H1 : Hp} {σ : L2.St} (h : HB H0 S σ H) (i : Nat) {α : Type} [Av α] {a : α} {v : V} (e1 : Ex H H1) (q : Rep.is H1 v a) (n : ∀ p, v = .ref p → H p = none ∨ H0 p ≠ none) (k : Nat) (hk : (S.set k .any).all notOwn = true) : Holds H0 (S.set i (.sh a)) (σ.set i (some v)) H1 := by
  have h' := h.holds
  obtain ⟨b, c, d⟩ := h
  by_cases hO : ∃ (β : Type) (r : Rep β) (l : List β), S[k]? = some (@Sl.own β r l)
  · obtain ⟨β, r, l, hO⟩ := hO
    obtain ⟨o, ho⟩ := h'.at hO
    obtain ⟨p, xs, rfl, z1, z2, z3⟩ := d k _ o hO ho
    have e2 : Ex H0 (del H1 p) := fun b' o' hb => by
      rw [del_ne (by intro z; subst z; rw [z2] at hb; cases hb)]
      exact e1 _ _ (b _ _ hb)
    refine ⟨del H1 p, e2, del_ex, by simp [c], fun j s o h1 h2 => ?_⟩
    by_cases e : i = j
    · subst e
      have hi : i < σ.length := by have := (List.getElem?_eq_some_iff.mp h2).1; simpa using this
      rw [List.getElem?_set_self (by omega)] at h1
      rw [List.getElem?_set_self hi] at h2
      cases h1; cases h2
      refine ⟨v, rfl, Av.av q (e1 _ _ z1) fun z => ?_⟩
      rcases n p z with y | y
      · rw [y] at z1; cases z1
      · exact y z2
    · rw [List.getElem?_set_ne e] at h1 h2
      have z := d j s o h1 h2
      cases s with
      | any => trivial
      | sh y => obtain ⟨w, y1, y2⟩ := z; exact ⟨w, y1, Rep.mono e2 y2⟩
      | own l' =>
        by_cases ek : k = j
        · subst ek
          obtain ⟨p', ys, y1, y2, y3, y4⟩ := z
          rw [ho] at h2
          cases h2
          cases y1
          exact ⟨_, ys, rfl, e1 _ _ y2, del_self, y4.imp fun _ _ => Rep.mono e2⟩
        · have y : (S.set k .any)[j]? = some (.own l') := by rw [List.getElem?_set_ne ek]; exact h1
          have := List.all_eq_true.mp hk _ (List.mem_of_getElem? y)
          cases this
  · have no : S.all notOwn = true := List.all_eq_true.mpr fun s hs => by
      obtain ⟨j, hj, rfl⟩ := List.getElem_of_mem hs
      cases es : S[j] with
      | any => rfl
      | sh _ => rfl
      | own l' =>
        by_cases ek : k = j
        · subst ek
          exact absurd ⟨_, _, l', by rw [List.getElem?_eq_getElem hj, es]⟩ hO
        · have y : (S.set k .any)[j]? = some (.own l') := by rw [List.getElem?_set_ne ek, List.getElem?_eq_getElem hj, es]
          have := List.all_eq_true.mp hk _ (List.mem_of_getElem? y)
          cases this
    exact (h'.mono e1).set no i q
theorem g_setV (j : Nat) {i : Nat} {α : Type} [Av α] {a : α} (h : XV He S te a) (k : Nx He (S.set i (.sh a)) D) (no : (S.set j .any).all notOwn = true := by rfl) : Go He S (tAsg te (gName i)) D := fun σ H hs => by
  obtain ⟨H0, x, b, c, d⟩ := hs
  exact h H0 x σ H ⟨b, c, d⟩ _ fun v H1 e1 n i1 => k _ _ ((HB.setV ⟨b, c, d⟩ i e1 i1 n j no).low x)
theorem q_appV {i : Nat} {α : Type} [Av α] {l : List α} {a : α} (hi : S[i]? = some (.own l)) (h : XV He S te a) (hz : l.length < 100000) (k : Go He (S.set i (.own (l ++ [a]))) tz D) (no : (S.set i .any).all notOwn = true := by rfl) :
    Go He S (tSeq (tDrop (tBM K "list" rAppend (tVar i) (tCons te tNil))) tz) D := g_appV (D := { D with nx := tz D }) hi h hz k no
end
section
variable {P : Program} {w : World} {K : PySem.W.Frag} {mg : Str → Option Value} {base : Heap} {C : Addr}
def sp_has : Sp := SpD (ι := Nat × Nat) (fun i => [.sh i.1, .sh i.2]) (fun _ => True) fun i => i.1.testBit i.2
theorem ok_has (T : Top K mg C) : Df P w K mg base "has" 1 ["mask", "i"] sp_has := by
  refine T.f_has.okD sc_has (fun _ => rfl) (fun _ => rfl) ?_
  intro i hpre f cdv A outer s H Q E hr
  refine ⟨_, (pss_one (ps_ret (pe_cmpR op_eq (pe_op op_mod (pe_op op_shr (pv 0) (pv 1)) pe_int) pe_int (nomark _)))), fun k => ?_⟩
  obtain ⟨m, b⟩ := i
  show Go H [.sh m, .sh b] _ _
  refine g_ret ((x_eq (x_mod (x_shr (x_var (a := m) rfl) (x_var (a := b) rfl)) (XD.dn (x_int (n := 2)) rfl) (by decide)).up (x_int (n := 1))).eq ?_) k
  show decide (((m / 2 ^ b % 2 : Nat) : Int) = 1) = m.testBit b
  rw [Nat.testBit_eq_decide_div_mod_eq]
  congr 1
  rw [eq_iff_iff]
  omega
def sp_better : Sp := SpD (ι := Hp × List Nat × List Nat) (fun i => [.sh (Nw.mk i.1 i.2.1), .sh (Nw.mk i.1 i.2.2)]) (fun _ => True) fun i => Nw.mk i.1 (bt i.2.1 i.2.2)
theorem len0 {l : List Nat} (h : decide ((l.length : Int) = 0) = true) : l = [] := List.length_eq_zero_iff.mp (by have := of_decide_eq_true h; omega)
theorem len1 {l : List Nat} (h : decide ((l.length : Int) = 0) = false) : l ≠ [] := fun z => by subst z; simp at h
theorem ok_better (T : Top K mg C) : Df P w K mg base "better" 1 ["first", "second"] sp_better := by
  refine T.f_better.okD sc_better (fun _ => rfl) (fun _ => rfl) ?_
  intro i hpre f cdv A outer s H Q E hr
  refine ⟨_, (pss_cons (ps_if (pt_cmpR op_eq (pe_callB call_len_seq (by rfl) T.b_len (by decide +kernel) (pa_cons (pv 0) pa_nil)) pe_int (nomark _)) (pss_one (ps_ret (pv 1))) pss_nil)
        (pss_cons (ps_if (pt_cmpR op_eq (pe_callB call_len_seq (by rfl) T.b_len (by decide +kernel) (pa_cons (pv 1) pa_nil)) pe_int (nomark _)) (pss_one (ps_ret (pv 0))) pss_nil)
        (pss_cons (ps_if (pt_cmpR (op_ltL hr.units0) (pv 1) (pv 0) (nomark _)) (pss_one (ps_ret (pv 1))) pss_nil)
        (pss_one (ps_ret (pv 0)))))), fun k => ?_⟩
  obtain ⟨E0, a, b⟩ := i
  show Go H [.sh (Nw.mk E0 a), .sh (Nw.mk E0 b)] _ _
  have k : Ret H Q (Nw.mk E0 (bt a b)) := k
  unfold bt at k
  refine g_when (t_test (x_eq (x_len (x_var (a := Nw.mk E0 a) rfl).l) x_int)) (fun hb => ?_) fun hb => ?_
  · rw [if_pos (len0 hb)] at k
    exact g_ret (x_var rfl) k
  rw [if_neg (len1 hb)] at k
  refine g_when (t_test (x_eq (x_len (x_var (a := Nw.mk E0 b) rfl).l) x_int)) (fun hc => ?_) fun hc => ?_
  · rw [if_pos (len0 hc)] at k
    exact g_ret (x_var rfl) k
  rw [if_neg (len1 hc)] at k
  refine g_when (t_test (x_ltL (x_var (a := Nw.mk E0 b) rfl).l (x_var (a := Nw.mk E0 a) rfl).l)) (fun hd => ?_) fun hd => ?_
  · rw [if_pos hd] at k
    exact g_ret (x_var rfl) k
  · rw [if_neg (by rw [show Valdgg.lexLess b a = false from hd]; exact Bool.false_ne_true)] at k
    exact g_ret (x_var rfl) k
/-- beside a list of one's own -/
theorem x_cB {He : Hp} {S : List Sl} {E : XK} {t1 t2 : TE} {a b : List Nat} (h1 : XV He S t1 a) (h2 : XV He S t2 b) : XV He S (tCall sp_better [] E (tCons t1 (tCons t2 tNil))) (bt a b) := fun H0 e σ H hb Q k =>
  h1 H0 e σ H hb _ fun v1 H1 e1 n1 i1 => h2 H0 e σ H1 (hb.mono e1) _ fun v2 H2 e2 n2 i2 => by
    classical
    refine ⟨(fun x => if H x = none ∨ H0 x ≠ none then none else some (.lst []), a, b), ⟨v1, _, rfl, ⟨Rep.mono e2 i1, fun p z => if_pos (n1 p z)⟩, v2, _, rfl, ⟨i2, fun p z => if_pos ?_⟩, rfl⟩, trivial, fun v H' e4 i => k v H' (e1.trans (e2.trans e4)) (fun p z => ?_) i.1⟩
    · rcases n2 p z with q | q
      · exact .inl (fresh_back e1 q)
      · exact .inr q
    · have := i.2 p z
      apply Classical.byContradiction
      intro no
      have h3 : (if H p = none ∨ H0 p ≠ none then none else some (HO.lst [])) = none := this
      rw [if_neg no] at h3
      cases h3
def sp_needed : Sp := SpD (ι := VT × List Nat × Nat) (fun i => [.sh i.1, .sh i.2.1, .sh i.2.2]) (fun i => Sq i.1 ∧ (∀ k ∈ i.2.1, k < i.1.length) ∧ i.2.2 < i.1.length ∧ i.2.1.length < 100000) fun i => Valdgg.need i.1 i.2.1 i.2.2
theorem ok_needed (T : Top K mg C) : Df P w K mg base "needed" 2 ["table", "members", "company"] sp_needed := by
  have d_held_in := ok_held_in (P := P) (w := w) (base := base) T
  refine T.f_needed.okD sc_needed (fun _ => rfl) (fun _ => rfl) ?_
  intro i hpre f cdv A outer s H Q E hr
  refine ⟨_, (pss_one (ps_ret (pe_callB (call_max2 rfl) (by rfl) T.b_max (by decide +kernel) (pa_cons pe_int (pa_cons (pe_op op_sub pe_int (pe_df d_held_in (hr.mono (by decide)) rfl (pa_cons (pv 0) (pa_cons (pv 1) (pa_cons (pv 2) pa_nil))))) pa_nil))))), fun k => ?_⟩
  obtain ⟨t, m, c⟩ := i
  show Go H [.sh t, .sh m, .sh c] _ _
  exact g_ret (x_max0 (x_sub (x_int (n := 51)) (x_cD (t, m, c) (xa_cons (x_var rfl) (xa_cons (x_var rfl) (xa_cons (x_var rfl) xa_nil))) hpre))) k
def sp_bought : Sp := SpN (ι := (Nat × List Nat) × Nat × Nat × Nat) (fun i => [.sh (i.1.1 :: i.1.2), .sh i.2.1, .sh i.2.2.1, .sh i.2.2.2]) (fun i => i.2.1 < i.1.2.length ∧ i.2.2.2 < 2 ^ 60) fun i => (i.1.1 + i.2.2.2 * i.2.2.1) :: i.1.2.set i.2.1 i.2.2.1
theorem ok_bought (T : Top K mg C) : Df P w K mg base "bought" 1 ["plan", "i", "percent", "price"] sp_bought := by
  refine T.f_bought.okN sc_bought (fun _ => rfl) (fun _ => rfl) ?_
  intro i hpre f cdv A outer s H Q E hr
  refine ⟨_, (pss_cons (ps_set (i := 4) sc_bought.nd rfl (Or.inl rfl) (pe_callTy (call_listK rfl) (by rfl) T.b_list (by decide +kernel) (pa_cons (pv 0) pa_nil)))
        (pss_cons (ps_augS (pv 4) pe_int get_list (pe_op op_mul (pv 2) (pv 3)) ip_add set_list)
        (pss_cons (ps_asg (pv 2) (pg_sub (pv 4) (pe_op op_add (pv 1) pe_int) set_list))
        (pss_one (ps_ret (pv 4)))))), fun k => ?_⟩
  obtain ⟨⟨c, r⟩, j, n, p⟩ := i
  obtain ⟨hj, hp⟩ := hpre
  have hj : j < r.length := hj
  have hp : p < 2 ^ 60 := hp
  show Go H [.sh (c :: r), .sh j, .sh n, .sh p, .any] _ _
  refine q_ownN (l := c :: r) (x_list (x_var (a := c :: r) rfl)) ?_
  refine q_augS (i := 4) (j := 0) (l := c :: r) (x := c) (y := n * p) rfl x_int rfl (x_mulN (x_var (a := n) rfl) (x_var (a := p) rfl) hp) ?_
  refine q_put (i := 4) (j := j + 1) (l := (c :: r).set 0 (c + n * p)) (a := n) rfl (x_var (a := n) rfl) ((x_add (x_var (a := j) rfl).up (x_int (n := 1))).eq (by show ((j : Int) + 1) = ((j + 1 : Nat) : Int); omega)) (by rw [List.length_set, List.length_cons]; omega) (g_retO rfl ?_)
  have e : ((c :: r).set 0 (c + n * p)).set (j + 1) n = (c + p * n) :: r.set j n := by
    rw [Nat.mul_comm p n]; rfl
  rw [e]
  exact k
theorem memb_len (cs : List Nat) (m : Nat) : (memb cs m).length ≤ cs.length := by
  unfold memb
  rw [List.length_map]
  refine Nat.le_trans (List.length_filter_le _ _) ?_
  rw [List.length_range]; exact Nat.le_refl _
structure PPre (st : VS) (h : VT) (party : Nat) (prices : List Nat) (plans : List (List Nat)) : Prop where
  sq : Sq h
  ln : h.length = st.parties.length
  np : st.parties.length ≤ 12
  nc : (comps st.parties).length ≤ 8
  pt : party < st.parties.length
  pr : prices.length = (comps st.parties).length
  pz : ∀ p ∈ prices, p < 2 ^ 60
  ok : ∀ b, Okl (comps st.parties).length (plans.getD b [])
def sp_plan_by_last : Sp := SpN (ι := VS × VT × Nat × List Nat × List (List Nat) × Nat × Nat) (fun i => [.sh i.2.2.2.2.1, .sh i.2.2.2.2.2.1, .sh i.2.2.2.2.2.2, .sh i.2.1, .sh (comps i.1.parties), .sh i.2.2.2.1, .sh i.2.2.1])
  (fun i => PPre i.1 i.2.1 i.2.2.1 i.2.2.2.1 i.2.2.2.2.1 ∧ i.2.2.2.2.2.2 < (comps i.1.parties).length ∧ i.2.2.2.2.2.1 < 256 ∧ i.2.2.2.2.2.1.testBit i.2.2.2.2.2.2 = true ∧ i.2.2.2.2.2.1 ≤ i.2.2.2.2.1.length) fun i => pbl i.1 i.2.1 i.2.2.1 i.2.2.2.1 (fun b => i.2.2.2.2.1.getD b []) i.2.2.2.2.2.1 i.2.2.2.2.2.2
theorem ok_plan_by_last (T : Top K mg C) : Df P w K mg base "plan_by_last" 3 ["plans", "mask", "i", "table", "companies", "prices", "party"] sp_plan_by_last := by
  have d_has := ok_has (P := P) (w := w) (base := base) T
  have d_needed := ok_needed (P := P) (w := w) (base := base) T
  have d_free_float := ok_free_float (P := P) (w := w) (base := base) T
  have d_bought := ok_bought (P := P) (w := w) (base := base) T
  refine T.f_plan_by_last.okN sc_plan_by_last (fun _ => rfl) (fun _ => rfl) ?_
  intro i hpre f cdv A outer s H Q E hr
  refine ⟨_, (pss_cons (ps_set (i := 7) sc_plan_by_last.nd rfl (Or.inr rfl) (pe_op op_sub (pv 1) (pe_op op_shl pe_int (pv 2))))
        (pss_cons (ps_if (pt_of (pw_or (pt_cmpR op_eq (pe_ix (ix_listK rfl) (pv 4) (pv 2) (fun _ _ => rfl)) (pv 6) (nomark _)) (pw_or1 (pt_cmpR op_eq (pe_callB call_len_seq (by rfl) T.b_len (by decide +kernel) (pa_cons (pe_ix (ix_listK rfl) (pv 0) (pv 7) (fun _ _ => rfl)) pa_nil)) pe_int (nomark _))))) (pss_one (ps_ret (pe_lst pa_nil))) pss_nil)
        (pss_cons (ps_set (i := 8) sc_plan_by_last.nd rfl (Or.inl rfl) (pe_op op_cat (pe_lst (pa_cons (pv 6) pa_nil)) (pe_lc (own := [("j", 10)]) (g := gName 10) rfl sc_plan_by_last.nd (pi_range1 rfl T.b_range (pa_cons (pe_callB call_len_seq (by rfl) T.b_len (by decide +kernel) (pa_cons (pv 4) pa_nil)) pa_nil)) (blkOk_by (N := ["plans", "mask", "i", "table", "companies", "prices", "party", "before", "members", "percent", "j"]) (sc := defScope s_plan_by_last) (by decide +kernel)) (fun _ _ _ _ _ => (pg_name (i := 10) sc_plan_by_last.nd rfl (Or.inl rfl))) (fun _ _ _ _ _ => (pts_one (pt_val (pe_df d_has (hr.mono (by decide)) rfl (pa_cons (pv 7) (pa_cons (pv 10) pa_nil)))))) (fun _ _ _ _ _ => (pe_ix (ix_listK rfl) (pv 4) (pv 10) (fun _ _ => rfl))))))
        (pss_cons (ps_set (i := 9) sc_plan_by_last.nd rfl (Or.inl rfl) (pe_df d_needed (hr.mono (by decide)) rfl (pa_cons (pv 3) (pa_cons (pv 8) (pa_cons (pe_ix (ix_listK rfl) (pv 4) (pv 2) (fun _ _ => rfl)) pa_nil)))))
        (pss_cons (ps_if (pt_cmpR op_gt (pv 9) (pe_df d_free_float (hr.mono (by decide)) rfl (pa_cons (pv 3) (pa_cons (pe_ix (ix_listK rfl) (pv 4) (pv 2) (fun _ _ => rfl)) pa_nil))) (nomark _)) (pss_one (ps_ret (pe_lst pa_nil))) pss_nil)
        (pss_one (ps_ret (pe_df d_bought (hr.mono (by decide)) rfl (pa_cons (pe_ix (ix_listK rfl) (pv 0) (pv 7) (fun _ _ => rfl)) (pa_cons (pv 2) (pa_cons (pv 9) (pa_cons (pe_ix (ix_listK rfl) (pv 5) (pv 2) (fun _ _ => rfl)) pa_nil)))))))))))), fun k => ?_⟩
  obtain ⟨st, t, party, prices, plans, m, q⟩ := i
  obtain ⟨pp, hq, hm, hb, hl⟩ := hpre
  have pp : PPre st t party prices plans := pp
  have hq : q < (comps st.parties).length := hq
  have hm : m < 256 := hm
  have hb : m.testBit q = true := hb
  have hl : m ≤ plans.length := hl
  have k : RetN H Q (pbl st t party prices (fun b => plans.getD b []) m q) := k
  have h8 := pp.nc
  have hnp := pp.np
  obtain ⟨⟨hlt, hle⟩, hbits⟩ := bit1 m hm q (by omega) hb
  have hc : (comps st.parties)[q]? = some ((comps st.parties).getD q 0) := getD_at hq
  have hcl : (comps st.parties).getD q 0 < st.parties.length := comps_lt (List.mem_of_getElem? hc)
  have hpr : prices[q]? = some (prices.getD q 0) := getD_at (by rw [pp.pr]; exact hq)
  have hpl : plans[m - 2 ^ q]? = some (plans.getD (m - 2 ^ q) []) := getD_at (by omega)
  unfold pbl at k
  dsimp only at k
  show Go H [.sh plans, .sh m, .sh q, .sh t, .sh (comps st.parties), .sh prices, .sh party, .any, .any, .any, .any] _ _
  have ec : (Valdgg.companies st) = comps st.parties := rfl
  rw [ec] at k
  generalize hcc : (comps st.parties).getD q 0 = c at hc hcl k
  generalize hpp : prices.getD q 0 = p at hpr k
  generalize hbf : m - 2 ^ q = b at hpl k
  obtain ⟨pb, hP⟩ : ∃ pb, plans.getD b [] = pb := ⟨_, rfl⟩
  rw [hP] at hpl
  refine q_set (a := b) (XD.eq (x_subN (x_var (a := m) rfl) (x_shl1 (x_var (a := q) rfl) (by omega)) hle) hbf) ?_
  have xc : ∀ S : List Sl, S[4]? = some (.sh (comps st.parties)) → S[2]? = some (.sh q) → XD H S (tOp (rIxL K) (tVar 4) (tVar 2)) c := fun S z1 z2 => x_ix (x_var z1) (x_var (a := q) z2).up hc
  have xp : ∀ S : List Sl, S[0]? = some (.sh plans) → S[7]? = some (.sh b) → XD H S (tOp (rIxL K) (tVar 0) (tVar 7)) pb := fun S z1 z2 => x_ix (x_var z1) (x_var (a := b) z2).up hpl
  refine g_when (t_or (t_test (x_eq (xc _ rfl rfl).up (x_var (a := party) rfl).up)) fun _ => t_test (x_eq (x_len (xp _ rfl rfl)) x_int)) (fun hd => ?_) fun hd => ?_
  · rw [if_pos] at k
    · exact g_retN x_nilL k
    · rw [Bool.or_eq_true] at hd
      rcases hd with z | z
      · left
        have := of_decide_eq_true z
        omega
      · exact .inr (hP.trans (len0 z))
  rw [Bool.or_eq_false_iff] at hd
  have hne : ¬ (c = party ∨ plans.getD b [] = []) := by
    rw [not_or, hP]
    exact ⟨fun z => by have := of_decide_eq_false hd.1; omega, len1 hd.2⟩
  rw [if_neg hne] at k
  have hml := memb_len (comps st.parties) b
  have hsub : ∀ x ∈ party :: memb (comps st.parties) b, x < t.length := fun x hx => by
    rw [pp.ln]
    rcases List.mem_cons.mp hx with rfl | hx
    · exact pp.pt
    · obtain ⟨j, h1, _⟩ := mem_memb.mp hx
      exact comps_lt (List.mem_of_getElem? h1)
  refine q_set (a := party :: memb (comps st.parties) b) (XN.d (x_cat (l := [party]) (m := memb (comps st.parties) b) (XN.dns (x_lst (l := [(party : Int)]) (xa_cons (x_var (a := party) rfl).up xa_nil)) rfl).d (x_lcR (n := (comps st.parties).length) (fun j => b.testBit j) (fun j => (comps st.parties).getD j 0) (xa_cons (x_len (x_var (a := comps st.parties) rfl)) xa_nil) (by omega) (fun j hj => t_B (x_cD (b, j) (xa_cons (x_var rfl) (xa_cons (x_var rfl) xa_nil)) trivial)) fun j hj _ => (x_ix (x_var (a := comps st.parties) rfl) (x_var (a := j) rfl).up (getD_at hj)).nat).d (by show 1 + _ ≤ _; omega))) ?_
  refine q_set (a := Valdgg.need t (party :: memb (comps st.parties) b) c) (x_cD (t, party :: memb (comps st.parties) b, c) (xa_cons (x_var rfl) (xa_cons (x_var rfl) (xa_cons (xc _ rfl rfl) xa_nil))) ⟨pp.sq, hsub, by show c < t.length; rw [pp.ln]; exact hcl, by show (memb _ _).length + 1 < 100000; omega⟩) ?_
  have hff : Valdgg.floatIn st t c = 100 - Valdgg.heldIn t (List.range t.length) c := by
    unfold Valdgg.floatIn Valdgg.allParties
    rw [pp.ln]; rfl
  refine g_when (t_test (x_gt (x_var (a := Valdgg.need t (party :: memb (comps st.parties) b) c) rfl).up (x_cD (t, c) (xa_cons (x_var rfl) (xa_cons (xc _ rfl rfl) xa_nil)) ⟨pp.sq, by show c < t.length; rw [pp.ln]; exact hcl, by show t.length < 100000; rw [pp.ln]; omega⟩))) (fun he => ?_) fun he => ?_
  · rw [if_pos (by rw [hff]; exact of_decide_eq_true he)] at k
    exact g_retN x_nilL k
  · rw [if_neg (by rw [hff]; exact of_decide_eq_false he)] at k
    have hlen : pb.length = (comps st.parties).length + 1 := by
      have := pp.ok b
      rw [hP] at this
      rcases this with z | z
      · exact absurd (.inr (hP.trans z)) hne
      · exact z
    rw [hP] at k
    obtain ⟨c0, r0, rfl⟩ : ∃ c0 r0, pb = c0 :: r0 := by
      cases pb with
      | nil => cases hlen
      | cons a r => exact ⟨a, r, rfl⟩
    exact g_retN (x_cN ((c0, r0), q, Valdgg.need t (party :: memb (comps st.parties) b) c, p) (xa_cons (xp _ rfl rfl) (xa_cons (x_var rfl) (xa_cons (x_var rfl) (xa_cons (x_ix (x_var (a := prices) rfl) (x_var (a := q) rfl).up hpr) xa_nil)))) ⟨by show q < r0.length; rw [List.length_cons] at hlen; omega, pp.pz p (List.mem_of_getElem? hpr)⟩) k
end
end Cr
namespace Cr
open PySem PySem.Spec PyProof.Rows L2 Evl
section
variable {P : Program} {w : World} {K : PySem.W.Frag} {mg : Str → Option Value} {base : Heap} {C : Addr}
def sp_plan_for : Sp := SpN (ι := VS × VT × Nat × List Nat × List (List Nat) × Nat × Nat) (fun i => [.sh i.2.2.2.2.1, .sh i.2.2.2.2.2.1, .sh i.2.2.2.2.2.2, .sh i.2.1, .sh (comps i.1.parties), .sh i.2.2.2.1, .sh i.2.2.1])
  (fun i => PPre i.1 i.2.1 i.2.2.1 i.2.2.2.1 i.2.2.2.2.1 ∧ i.2.2.2.2.2.1 < 256 ∧ i.2.2.2.2.2.1 ≤ i.2.2.2.2.1.length) fun i => pfor i.1 i.2.1 i.2.2.1 i.2.2.2.1 i.2.2.2.2.2.2 (fun b => i.2.2.2.2.1.getD b []) i.2.2.2.2.2.1 (comps i.1.parties).length
theorem ok_plan_for (T : Top K mg C) : Df P w K mg base "plan_for" 4 ["plans", "mask", "goal", "table", "companies", "prices", "party"] sp_plan_for := by
  have d_has := ok_has (P := P) (w := w) (base := base) T
  have d_better := ok_better (P := P) (w := w) (base := base) T
  have d_plan_by_last := ok_plan_by_last (P := P) (w := w) (base := base) T
  refine T.f_plan_for.okN sc_plan_for (fun _ => rfl) (fun _ => rfl) ?_
  intro i hpre f cdv A outer s H Q E hr
  refine ⟨_, (pss_cons (ps_set (i := 7) sc_plan_for.nd rfl (Or.inl rfl) (pe_lst pa_nil))
        (pss_cons (ps_for PassesOwn.never rfl (pi_range1 rfl T.b_range (pa_cons (pe_callB call_len_seq (by rfl) T.b_len (by decide +kernel) (pa_cons (pv 4) pa_nil)) pa_nil)) (pg_name (i := 8) sc_plan_for.nd rfl (Or.inl rfl)) (pss_one (ps_if (pt_of (pw_and (pt_val (pe_df d_has (hr.mono (by decide)) rfl (pa_cons (pv 1) (pa_cons (pv 8) pa_nil)))) (pw_and1 (pt_of (pw_or (pt_cmpR op_eq (pv 8) (pv 2) (nomark _)) (pw_or1 (pt_not (pt_val (pe_df d_has (hr.mono (by decide)) rfl (pa_cons (pv 1) (pa_cons (pv 2) pa_nil))))))))))) (pss_one (ps_set (i := 7) sc_plan_for.nd rfl (Or.inl rfl) (pe_df d_better (hr.mono (by decide)) rfl (pa_cons (pv 7) (pa_cons (pe_df d_plan_by_last (hr.mono (by decide)) rfl (pa_cons (pv 0) (pa_cons (pv 1) (pa_cons (pv 8) (pa_cons (pv 3) (pa_cons (pv 4) (pa_cons (pv 5) (pa_cons (pv 6) pa_nil)))))))) pa_nil))))) pss_nil)))
        (pss_one (ps_ret (pv 7))))), fun k => ?_⟩
  obtain ⟨st, t, party, prices, plans, m, g⟩ := i
  obtain ⟨pp, hm, hl⟩ := hpre
  have pp : PPre st t party prices plans := pp
  have hm : m < 256 := hm
  have hl : m ≤ plans.length := hl
  have h8 := pp.nc
  show Go H [.sh plans, .sh m, .sh g, .sh t, .sh (comps st.parties), .sh prices, .sh party, .any, .any] _ _
  refine q_set (a := Nw.mk H []) (XN.nw x_nilL) ?_
  refine q_range (n := (comps st.parties).length) (fun j => [.sh plans, .sh m, .sh g, .sh t, .sh (comps st.parties), .sh prices, .sh party, .sh (Nw.mk H (pfor st t party prices g (fun b => plans.getD b []) m j)), .any]) (xa_cons (x_len (x_var (a := comps st.parties) rfl)) xa_nil) (by omega) (Weak.refl _) (fun j hj => ?_) (g_retW (x_var rfl) k)
  have fin : ∀ a : List Nat, a = pfor st t party prices g (fun b => plans.getD b []) m (j + 1) → ∀ (σ : L2.St) (H' : Hp), Holds H [.sh plans, .sh m, .sh g, .sh t, .sh (comps st.parties), .sh prices, .sh party, .sh (Nw.mk H a), .sh j] σ H' → HP H [.sh plans, .sh m, .sh g, .sh t, .sh (comps st.parties), .sh prices, .sh party, .sh (Nw.mk H (pfor st t party prices g (fun b => plans.getD b []) m (j + 1))), .any] σ H' := fun a e σ H' h => by
    subst e
    exact h.weak ⟨.inl rfl, .inl rfl, .inl rfl, .inl rfl, .inl rfl, .inl rfl, .inl rfl, .inl rfl, .inr rfl, trivial⟩
  refine g_if (b := okLast g m j) ((t_and (t_B (x_cD (m, j) (xa_cons (x_var rfl) (xa_cons (x_var rfl) xa_nil)) trivial)) fun _ => t_or (t_test (x_eq (x_var (a := j) rfl).up (x_var (a := g) rfl).up)) fun _ => t_not (t_B (x_cD (m, g) (xa_cons (x_var rfl) (xa_cons (x_var rfl) xa_nil)) trivial))).eq ?_) (fun hb => ?_) fun hb => ?_
  · show (m.testBit j && (decide ((j : Int) = (g : Int)) || !m.testBit g)) = okLast g m j
    unfold okLast
    have e : decide ((j : Int) = (g : Int)) = (j == g) := by
      rw [Bool.eq_iff_iff, decide_eq_true_eq, beq_iff_eq]
      omega
    rw [e]
  · have hbj : m.testBit j = true := by
      unfold okLast at hb
      rw [Bool.and_eq_true] at hb
      exact hb.1
    refine g_set (a := Nw.mk H (bt (pfor st t party prices g (fun b => plans.getD b []) m j) (pbl st t party prices (fun b => plans.getD b []) m j))) (x_cD (H, pfor st t party prices g (fun b => plans.getD b []) m j, pbl st t party prices (fun b => plans.getD b []) m j) (xa_cons (x_var rfl) (xa_cons (XN.nw (x_cN (st, t, party, prices, plans, m, j) (xa_cons (x_var rfl) (xa_cons (x_var rfl) (xa_cons (x_var rfl) (xa_cons (x_var rfl) (xa_cons (x_var rfl) (xa_cons (x_var rfl) (xa_cons (x_var rfl) xa_nil))))))) ⟨pp, hj, hm, hbj, hl⟩)) xa_nil)) trivial) (fin _ ?_)
    exact (if_pos hb).symm
  · exact g_next (fin _ (ibf (x := bt _ _) hb).symm)
theorem toNat_ints {l : List Int} (h : ∀ x ∈ l, 0 ≤ x) : l = (l.map Int.toNat).map fun n : Nat => (n : Int) := by
  rw [List.map_map]
  conv => lhs; rw [← List.map_id l]
  apply List.map_congr_left
  intro x hx
  have := h x hx
  show x = ((x.toNat : Nat) : Int)
  omega
def sp_cheapest_plan : Sp := SpD (ι := VS × VT × Nat × List Nat × Nat × Nat) (fun i => [.sh i.2.1, .sh (comps i.1.parties), .sh i.2.2.2.1, .sh i.2.2.1, .sh i.2.2.2.2.1])
  (fun i => PPre i.1 i.2.1 i.2.2.1 i.2.2.2.1 [] ∧ (comps i.1.parties)[i.2.2.2.2.2]? = some i.2.2.2.2.1) fun i => bestP i.1 i.2.1 i.2.2.1 i.2.2.2.1 i.2.2.2.2.2 (2 ^ (comps i.1.parties).length - 1)
theorem ok_cheapest_plan (T : Top K mg C) : Df P w K mg base "cheapest_plan" 5 ["table", "companies", "prices", "party", "target"] sp_cheapest_plan := by
  have d_plan_for := ok_plan_for (P := P) (w := w) (base := base) T
  have d_has := ok_has (P := P) (w := w) (base := base) T
  have d_better := ok_better (P := P) (w := w) (base := base) T
  refine T.f_cheapest_plan.okD sc_cheapest_plan (fun _ => rfl) (fun _ => rfl) ?_
  intro i hpre f cdv A outer s H Q E hr
  refine ⟨_, (pss_cons (ps_set (i := 5) sc_cheapest_plan.nd rfl (Or.inl rfl) (pe_bm PySem.F.plainAttrs_list PySem.F.slot_list_index PySem.F.type_list_index mt_index (pv 1) (pa_cons (pv 4) pa_nil)))
        (pss_cons (ps_set (i := 6) sc_cheapest_plan.nd rfl (Or.inl rfl) (pe_lst (pa_cons (pe_op op_rep (pe_lst (pa_cons pe_int pa_nil)) (pe_op op_add (pe_callB call_len_seq (by rfl) T.b_len (by decide +kernel) (pa_cons (pv 1) pa_nil)) pe_int)) pa_nil)))
        (pss_cons (ps_set (i := 7) sc_cheapest_plan.nd rfl (Or.inl rfl) (pe_lst pa_nil))
        (pss_cons (ps_for PassesOwn.never rfl (pi_range2 rfl T.b_range (pa_cons pe_int (pa_cons (pe_op op_shl pe_int (pe_callB call_len_seq (by rfl) T.b_len (by decide +kernel) (pa_cons (pv 1) pa_nil))) pa_nil))) (pg_name (i := 8) sc_cheapest_plan.nd rfl (Or.inl rfl)) (pss_cons (ps_set (i := 9) sc_cheapest_plan.nd rfl (Or.inl rfl) (pe_df d_plan_for (hr.mono (by decide)) rfl (pa_cons (pv 6) (pa_cons (pv 8) (pa_cons (pv 5) (pa_cons (pv 0) (pa_cons (pv 1) (pa_cons (pv 2) (pa_cons (pv 3) pa_nil)))))))))
        (pss_cons (ps_expr (pe_bm PySem.F.plainAttrs_list PySem.F.slot_list_append PySem.F.type_list_append mt_append (pv 6) (pa_cons (pv 9) pa_nil)))
        (pss_one (ps_if (pt_val (pe_df d_has (hr.mono (by decide)) rfl (pa_cons (pv 8) (pa_cons (pv 5) pa_nil)))) (pss_one (ps_set (i := 7) sc_cheapest_plan.nd rfl (Or.inl rfl) (pe_df d_better (hr.mono (by decide)) rfl (pa_cons (pv 7) (pa_cons (pv 9) pa_nil))))) pss_nil)))))
        (pss_one (ps_ret (pv 7))))))), fun k => ?_⟩
  obtain ⟨st, t, party, prices, target, g⟩ := i
  obtain ⟨pp, hg⟩ := hpre
  have pp : PPre st t party prices [] := pp
  have hg : (comps st.parties)[g]? = some target := hg
  have h8 := pp.nc
  have h256 : 2 ^ (comps st.parties).length ≤ 256 := Nat.pow_le_pow_right (by decide) h8
  have hpos := Nat.two_pow_pos (comps st.parties).length
  show Go H [.sh t, .sh (comps st.parties), .sh prices, .sh party, .sh target, .any, .any, .any, .any, .any] _ _
  refine q_set (a := g) (x_index (x_var (a := comps st.parties) rfl) (x_var (a := target) rfl) (compsL_nodup _) hg) ?_
  refine q_own1 (a := 0 :: List.replicate (comps st.parties).length 0) (XD.eq (x_repZ (k := (comps st.parties).length + 1) ((x_add (x_len (x_var (a := comps st.parties) rfl)) (x_int (n := 1))).dn (by show ((comps st.parties).length : Int) + 1 = _; omega)) (by omega)).d (by rw [List.replicate_succ])) ?_
  refine q_setN 6 (a := ([] : List Nat)) x_nilL ?_
  refine q_range2 (lo := 1) (n := 2 ^ (comps st.parties).length - 1) (fun j => [.sh t, .sh (comps st.parties), .sh prices, .sh party, .sh target, .sh g, .own (PLs st t party prices g j), .sh (bestP st t party prices g j), .any, .any]) (xa_cons x_int (xa_cons ((x_shl1 (i := (comps st.parties).length) ((x_len (x_var (a := comps st.parties) rfl)).dn rfl) (by omega)).up.eq (by omega)) xa_nil)) (by omega) (Weak.refl _) (fun j hj => ?_) (g_ret (x_var rfl) k)
  have pj : PPre st t party prices (PLs st t party prices g j) := { pp with ok := fun b => PLs_ok j b }
  have hPl : (PLs st t party prices g j).length = j + 1 := PLs_len j
  have e1 : 1 + j = j + 1 := Nat.add_comm 1 j
  refine q_setN 6 (a := pfor st t party prices g (fun b => (PLs st t party prices g j).getD b []) (1 + j) (comps st.parties).length) (x_cN (st, t, party, prices, PLs st t party prices g j, 1 + j, g) (xa_cons (x_own rfl) (xa_cons (x_var rfl) (xa_cons (x_var rfl) (xa_cons (x_var rfl) (xa_cons (x_var rfl) (xa_cons (x_var rfl) (xa_cons (x_var rfl) xa_nil))))))) ⟨pj, by show 1 + j < 256; omega, by show 1 + j ≤ (PLs st t party prices g j).length; omega⟩) ?_
  generalize hpl : pfor st t party prices g (fun b => (PLs st t party prices g j).getD b []) (1 + j) (comps st.parties).length = pl
  have hlast : (PLs st t party prices g (j + 1)).getD (j + 1) [] = pl := by rw [PLs_last, ← hpl, e1]; rfl
  have hPs : PLs st t party prices g (j + 1) = PLs st t party prices g j ++ [pl] := by rw [← hpl, e1]; rfl
  refine q_appV (i := 6) (l := PLs st t party prices g j) (a := pl) rfl (x_varV rfl) (by omega) ?_
  have fin : ∀ a : List Nat, a = bestP st t party prices g (j + 1) → ∀ (σ : L2.St) (H' : Hp), Holds H [.sh t, .sh (comps st.parties), .sh prices, .sh party, .sh target, .sh g, .own (PLs st t party prices g j ++ [pl]), .sh a, .sh (1 + j), .sh pl] σ H' → HP H [.sh t, .sh (comps st.parties), .sh prices, .sh party, .sh target, .sh g, .own (PLs st t party prices g (j + 1)), .sh (bestP st t party prices g (j + 1)), .any, .any] σ H' := fun a e σ H' h => by
    subst e
    exact h.weak ⟨.inl rfl, .inl rfl, .inl rfl, .inl rfl, .inl rfl, .inl rfl, .inl (by rw [hPs]), .inl rfl, .inr rfl, .inr rfl, trivial⟩
  have eb : bestP st t party prices g (j + 1) = if (j + 1).testBit g = true then bt (bestP st t party prices g j) pl else bestP st t party prices g j := by
    rw [← hlast]; rfl
  refine g_if (b := (1 + j).testBit g) (t_B (x_cD (1 + j, g) (xa_cons (x_var rfl) (xa_cons (x_var rfl) xa_nil)) trivial)) (fun hb => ?_) fun hb => ?_
  · refine g_setV 6 (a := bt (bestP st t party prices g j) pl) (x_cB (x_varV rfl) (x_varV rfl)) (fin _ ?_)
    rw [eb, if_pos (by rw [← e1]; exact hb)]
  · refine g_next (fin _ ?_)
    rw [eb, if_neg (by rw [← e1, hb]; exact Bool.false_ne_true)]
def sp_purchases : Sp := SpN (ι := List Nat × List Nat) (fun i => [.sh i.1, .sh i.2]) (fun i => i.2.length = i.1.length + 1 ∧ i.1.length ≤ 1000) fun i => purP i.1 i.2 i.1.length
theorem ok_purchases (T : Top K mg C) : Df P w K mg base "purchases" 1 ["companies", "plan"] sp_purchases := by
  refine T.f_purchases.okN sc_purchases (fun _ => rfl) (fun _ => rfl) ?_
  intro i hpre f cdv A outer s H Q E hr
  refine ⟨_, (pss_cons (ps_set (i := 2) sc_purchases.nd rfl (Or.inl rfl) (pe_lst pa_nil))
        (pss_cons (ps_for PassesOwn.never rfl (pi_range1 rfl T.b_range (pa_cons (pe_callB call_len_seq (by rfl) T.b_len (by decide +kernel) (pa_cons (pv 0) pa_nil)) pa_nil)) (pg_name (i := 3) sc_purchases.nd rfl (Or.inl rfl)) (pss_one (ps_if (pt_cmpR op_ne (pe_ix (ix_listK rfl) (pv 1) (pe_op op_add (pv 3) pe_int) (fun _ _ => rfl)) pe_int (nomark _)) (pss_one (ps_expr (pe_bm PySem.F.plainAttrs_list PySem.F.slot_list_extend PySem.F.type_list_extend mt_extend (pv 2) (pa_cons (pe_lst (pa_cons (pe_ix (ix_listK rfl) (pv 0) (pv 3) (fun _ _ => rfl)) (pa_cons (pe_ix (ix_listK rfl) (pv 1) (pe_op op_add (pv 3) pe_int) (fun _ _ => rfl)) pa_nil))) pa_nil)))) pss_nil)))
        (pss_one (ps_ret (pv 2))))), fun k => ?_⟩
  obtain ⟨cs, pl⟩ := i
  obtain ⟨hl, hn⟩ := hpre
  have hl : pl.length = cs.length + 1 := hl
  have hn : cs.length ≤ 1000 := hn
  show Go H [.sh cs, .sh pl, .any, .any] _ _
  refine q_nil (α := Int) (q_range (n := cs.length) (fun j => [.sh cs, .sh pl, .own (purP cs pl j), .any]) (xa_cons (x_len (x_var (a := cs) rfl)) xa_nil) (by omega) (Weak.refl _) (fun j hj => ?_) (g_retO rfl k))
  have hle := purP_le cs pl j
  have hx : ∀ l : List Int, XD H [.sh cs, .sh pl, .own l, .sh j] (tOp (rIxL K) (tVar 1) (tOp (rI0 fun i j => .int (i + j)) (tVar 3) (tC (.int 1)))) (pl.getD (j + 1) 0) := fun l => x_ix (x_var (a := pl) rfl) ((x_add (x_var (a := j) rfl).up (x_int (n := 1))).eq (by show (j : Int) + 1 = ((j + 1 : Nat) : Int); omega)) (getD_at (by omega))
  refine g_if (t_test (x_ne (hx _).up x_int)) (fun hb => ?_) fun hb => ?_
  · have hz : ¬ pl.getD (j + 1) 0 = 0 := fun z => by rw [z] at hb; simp at hb
    refine g_ext rfl (x_lst (l := [((cs.getD j 0 : Nat) : Int), ((pl.getD (j + 1) 0 : Nat) : Int)]) (xa_cons (x_ix (x_var (a := cs) rfl) (x_var (a := j) rfl).up (getD_at hj)).up (xa_cons (hx _).up xa_nil))) ?_ fun σ H h2 => h2.weak ⟨.inl rfl, .inl rfl, .inl ?_, .inr rfl, trivial⟩
    · show _ + 2 ≤ _
      omega
    · congr 1
      show (purP cs pl j ++ if pl.getD (j + 1) 0 = 0 then [] else _) = _
      rw [if_neg hz]
  · have hz : pl.getD (j + 1) 0 = 0 := by
      have h2 : decide (((pl.getD (j + 1) 0 : Nat) : Int) = 0) = true := not_of hb
      have := of_decide_eq_true h2
      omega
    refine g_next fun σ H h2 => h2.weak ⟨.inl rfl, .inl rfl, .inl ?_, .inr rfl, trivial⟩
    congr 1
    show (purP cs pl j ++ if pl.getD (j + 1) 0 = 0 then [] else _) = _
    rw [if_pos hz, List.append_nil]
def sp_cheapest_control (C : Addr) : Sp := SpN (ι := VS × Int × Int × Int × List Int) (fun i => [.sh (bk C i.1), .sh i.2.1, .sh i.2.2.1, .sh i.2.2.2.1, .sh i.2.2.2.2]) (fun i => WF i.1 ∧ i.2.2.2.2.length < 100000) fun i => Valdgg.answerOf i.1 (.cheapestControl i.2.1 i.2.2.1 i.2.2.2.1 i.2.2.2.2)
theorem plcode_0 {s : VS} {d p t : Int} {prices : List Int} (h : plcode s d p t prices = 0) : (0 ≤ d ∧ 0 ≤ p ∧ 0 ≤ t) ∧ (∀ x ∈ prices, 0 ≤ x ∧ x ≤ 1000000) ∧ prices.length = (comps s.parties).length ∧ BothOk s p t := by
  unfold plcode at h
  split at h
  · cases h
  · split at h
    · cases h
    · rename_i h1 h2
      rw [Bool.not_eq_true, Bool.not_eq_false', Bool.and_eq_true, Bool.and_eq_true, Bool.and_eq_true] at h1
      have a := num_nn h1.1.1.1
      have b := num_nn h1.1.1.2
      have c := num_nn h1.1.2
      refine ⟨⟨a.1, b.1, c.1⟩, fun x hx => ?_, Classical.byContradiction h2, bcode_0 c.1 h⟩
      have := List.all_eq_true.mp h1.2 x hx
      unfold Valdgg.within Valdgg.maxPrice at this
      simpa using this
theorem ok_cheapest_control (T : Top K mg C) : Df P w K mg base "cheapest_control" 6 ["book", "day", "party", "target", "prices"] (sp_cheapest_control C) := by
  have d_plan_code := ok_plan_code (P := P) (w := w) (base := base) T
  have d_companies_of := ok_companies_of (P := P) (w := w) (base := base) T
  have d_cheapest_plan := ok_cheapest_plan (P := P) (w := w) (base := base) T
  have d_held_table := ok_held_table (P := P) (w := w) (base := base) T
  have d_purchases := ok_purchases (P := P) (w := w) (base := base) T
  refine T.f_cheapest_control.okN sc_cheapest_control (fun _ => rfl) (fun _ => rfl) ?_
  intro i hpre f cdv A outer s H Q E hr
  refine ⟨_, (pss_cons (ps_set (i := 5) sc_cheapest_control.nd rfl (Or.inl rfl) (pe_df d_plan_code (hr.mono (by decide)) rfl (pa_cons (pv 0) (pa_cons (pv 1) (pa_cons (pv 2) (pa_cons (pv 3) (pa_cons (pv 4) pa_nil)))))))
        (pss_cons (ps_if (pt_cmpR op_ne (pv 5) (pe_cst T.c_FINE) (nomark _)) (pss_one (ps_ret (pe_lst (pa_cons (pv 5) pa_nil)))) pss_nil)
        (pss_cons (ps_set (i := 6) sc_cheapest_control.nd rfl (Or.inl rfl) (pe_df d_companies_of (hr.mono (by decide)) rfl (pa_cons (pe_fld (pv 0) rfl) pa_nil)))
        (pss_cons (ps_set (i := 7) sc_cheapest_control.nd rfl (Or.inl rfl) (pe_df d_cheapest_plan (hr.mono (by decide)) rfl (pa_cons (pe_df d_held_table (hr.mono (by decide)) rfl (pa_cons (pv 0) (pa_cons (pv 1) (pa_cons (pe_callB call_len_seq (by rfl) T.b_len (by decide +kernel) (pa_cons (pe_fld (pv 0) rfl) pa_nil)) pa_nil)))) (pa_cons (pv 6) (pa_cons (pv 4) (pa_cons (pv 2) (pa_cons (pv 3) pa_nil)))))))
        (pss_cons (ps_if (pt_cmpR op_eq (pe_callB call_len_seq (by rfl) T.b_len (by decide +kernel) (pa_cons (pv 7) pa_nil)) pe_int (nomark _)) (pss_one (ps_ret (pe_lst (pa_cons (pe_cst T.c_NO_PLAN) pa_nil)))) pss_nil)
        (pss_cons (ps_set (i := 8) sc_cheapest_control.nd rfl (Or.inl rfl) (pe_df d_purchases (hr.mono (by decide)) rfl (pa_cons (pv 6) (pa_cons (pv 7) pa_nil))))
        (pss_one (ps_ret (pe_op op_cat (pe_lst (pa_cons pe_int (pa_cons (pe_ix (ix_listK rfl) (pv 7) pe_int (fun _ _ => rfl)) (pa_cons (pe_op op_fdiv (pe_callB call_len_seq (by rfl) T.b_len (by decide +kernel) (pa_cons (pv 8) pa_nil)) pe_int) pa_nil)))) (pv 8)))))))))), fun k => ?_⟩
  obtain ⟨st, d, p, t, prices⟩ := i
  obtain ⟨wf, hz100⟩ := hpre
  have wf : WF st := wf
  have h1 := wf.np
  have h2 := wf.nr
  obtain ⟨ea, eb⟩ := ans_eq (plan_is st d p t prices)
  show Go H [.sh (bk C st), .sh d, .sh p, .sh t, .sh prices, .any, .any, .any, .any] _ _
  refine q_set (x_cD (st, d, p, t, prices) (xa_cons (x_var rfl) (xa_cons (x_var rfl) (xa_cons (x_var rfl) (xa_cons (x_var rfl) (xa_cons (x_var rfl) xa_nil))))) ⟨wf, hz100⟩) (q_bad (c := plcode st d p t prices) rfl k ea fun hz => ?_)
  have k : RetN H Q _ := (eb hz).symm ▸ k
  obtain ⟨⟨d0, p0, t0⟩, hpz, hpl, ok⟩ := plcode_0 hz
  have p1 := ok.p0
  have t1 := ok.comp
  obtain ⟨d, rfl⟩ := Int.eq_ofNat_of_zero_le d0
  obtain ⟨p, rfl⟩ := Int.eq_ofNat_of_zero_le p0
  obtain ⟨t, rfl⟩ := Int.eq_ofNat_of_zero_le t0
  have hpi := toNat_ints fun x hx => (hpz x hx).1
  generalize hpn : prices.map Int.toNat = pn at *
  have hpnl : pn.length = (comps st.parties).length := by rw [← hpn, List.length_map]; exact hpl
  have t1 : st.parties[t]? = some true := t1
  obtain ⟨g, hg⟩ := at_comp t1
  have hbest := plan_best (s := st) (t := t) wf (d := d) (p := p) (prices := pn) hpnl hg
  have k : RetN H Q (planP st ((Valdgg.cheapestPlan st d p t pn).elim [] key)) := k
  rw [hbest] at k
  generalize hpb : bestP st (Cr.tb st d st.records.length) p pn g (2 ^ (comps st.parties).length - 1) = pl at k
  have hok : Okl (comps st.parties).length pl := by rw [← hpb]; exact bestP_ok _
  have etl : (Cr.tb st d st.records.length).length = st.parties.length := tab_len _ _ _
  refine q_set (a := comps st.parties) (x_cN st.parties (xa_cons (x_fldP T (x_var rfl)) xa_nil) (by omega)).d ?_
  have xpr : ∀ S : List Sl, S[4]? = some (.sh prices) → XD H S (tVar 4) pn := fun S z σ H1 hs Q q => by
    obtain ⟨v, e, r⟩ := hs.sh z
    rw [hpi] at r
    exact ⟨v, e, q v H1 (Ex.refl _) (nats_ints.mpr r)⟩
  refine q_set (a := pl) (XD.eq (x_cD (st, Cr.tb st d st.records.length, p, pn, t, g) (xa_cons (x_cD (st, d, st.records.length) (xa_cons (x_var rfl) (xa_cons (x_nat rfl) (xa_cons (x_nrec (x_fldR T (x_var rfl))) xa_nil))) ⟨wf, Nat.le_refl _⟩) (xa_cons (x_var rfl) (xa_cons (xpr _ rfl) (xa_cons (x_nat rfl) (xa_cons (x_nat rfl) xa_nil))))) ⟨⟨tab_sq _ _ _, etl, h1, wf.nc, by show p < st.parties.length; omega, hpnl, fun x hx => ?_, fun b => .inl rfl⟩, hg⟩) hpb) ?_
  · rw [← hpn] at hx
    obtain ⟨y, hy, rfl⟩ := List.mem_map.mp hx
    have := hpz y hy
    have h60 : (1000000 : Nat) < 2 ^ 60 := by decide
    omega
  refine q_codeN (t_test (x_eq (x_len (x_var (a := pl) rfl)) x_int)) (x_lst (l := [-9]) (xa_cons x_int xa_nil)) (fun hb => (if_pos (len0 hb)).symm) k fun hb => ?_
  have hne := len1 hb
  have k : RetN H Q (planP st pl) := k
  unfold planP at k
  rw [if_neg hne] at k
  have hlen : pl.length = (comps st.parties).length + 1 := by
    rcases hok with z | z
    · exact absurd z hne
    · exact z
  obtain ⟨c0, r0, rfl⟩ : ∃ c0 r0, pl = c0 :: r0 := by
    cases pl with
    | nil => exact absurd rfl hne
    | cons a r => exact ⟨a, r, rfl⟩
  have h8 := wf.nc
  have h8 : (comps st.parties).length ≤ 8 := h8
  have hpu := purP_le (comps st.parties) (c0 :: r0) (comps st.parties).length
  refine q_set (a := purP (comps st.parties) (c0 :: r0) (comps st.parties).length) (x_cN (comps st.parties, c0 :: r0) (xa_cons (x_var rfl) (xa_cons (x_var rfl) xa_nil)) ⟨hlen, by show (comps st.parties).length ≤ 1000; omega⟩).d ?_
  refine g_retN (x_cat (x_lst (l := [0, (c0 : Int), ((purP (comps st.parties) (c0 :: r0) (comps st.parties).length).length : Int) / 2]) (xa_cons x_int (xa_cons (x_ix (x_var (a := c0 :: r0) rfl) (x_int (n := 0)) (j := 0) rfl).up (xa_cons (x_half (x_len (x_var (a := purP (comps st.parties) (c0 :: r0) (comps st.parties).length) rfl))) xa_nil)))).d (x_var (a := purP (comps st.parties) (c0 :: r0) (comps st.parties).length) rfl) ?_) k
  simp only [List.length_cons, List.length_nil]
  omega
end
end Cr
namespace Cr
open PySem PySem.Spec PyProof.Rows L2 Evl
/-! ### the book, changed -/
structure BkAt (C : Addr) (H : Hp) (p pa ra : Addr) (s : VS) : Prop where
  ne : pa ≠ ra
  ins : ∃ dx, H p = some (.ins C dx [("parties", .ref pa), ("records", .ref ra)])
  pl : H pa = some (.lst (s.parties.map .bl))
  rl : ∃ xs, H ra = some (.lst xs) ∧ All2 (Rep.is H) xs (s.records.map recT)
def Kept (H H' : Hp) (pa ra : Addr) : Prop := ∀ b o, b ≠ pa → b ≠ ra → H b = some o → H' b = some o
section
variable {C : Addr} {H H' H2 : Hp} {p pa ra : Addr} {s : VS}
theorem BkAt.mono (h : BkAt C H p pa ra s) (e : Ex H H') : BkAt C H' p pa ra s := by
  obtain ⟨a, ⟨dx, b⟩, c, xs, d, f⟩ := h
  exact ⟨a, ⟨dx, e _ _ b⟩, e _ _ c, xs, e _ _ d, f.imp fun _ _ => Rep.mono e⟩
theorem BkAt.is (h : BkAt C H p pa ra s) : Rep.is H (.ref p) (bk C s) := by
  obtain ⟨a, ⟨dx, b⟩, c, xs, d, f⟩ := h
  exact ⟨p, dx, pa, ra, rfl, b, ⟨pa, _, rfl, c, All2.ofMap (f := V.bl)⟩, ⟨ra, xs, rfl, d, f⟩⟩
theorem Kept.of (e : Ex H H') : Kept H H' pa ra := fun b o _ _ h => e b o h
theorem Kept.trans (a : Kept H H' pa ra) (b : Kept H' H2 pa ra) : Kept H H2 pa ra := fun x o h1 h2 h => b x o h1 h2 (a x o h1 h2 h)
theorem kept_fresh (a : Kept H H' pa ra) (h : BkAt C H' p pa ra s) {q : Addr} (n : H' q = none) : H q = none := by
  cases e : H q with
  | none => rfl
  | some o =>
    by_cases z1 : q = pa
    · subst z1; rw [h.pl] at n; cases n
    · by_cases z2 : q = ra
      · subst z2
        obtain ⟨xs, d, _⟩ := h.rl
        rw [d] at n; cases n
      · rw [a q o z1 z2 e] at n; cases n
end
structure Bko (C : Addr) where
  p : Addr
  pa : Addr
  ra : Addr
  s : VS
instance repBko {C : Addr} : Rep (Bko C) := ⟨fun H v b => v = .ref b.p ∧ BkAt C H b.p b.pa b.ra b.s, fun e ⟨a, b⟩ => ⟨a, b.mono e⟩⟩
theorem XD.b {C : Addr} {He : Hp} {S : List Sl} {te : TE} {b : Bko C} (h : XD He S te b) : XD He S te (bk C b.s) := fun σ H hs Q q => h σ H hs Q fun v H2 e i => q v H2 e (by rw [i.1]; exact i.2.is)
def RtM (C : Addr) (He : Hp) (D : Ends) (p pa ra : Addr) (r : VS × List Int) : Prop := ∀ v H', Kept He H' pa ra → BkAt C H' p pa ra r.1 → (∀ q, v = .ref q → He q = none) → Rep.is H' v r.2 → D.rt v H'
def SpM (C : Addr) {ι : Type} (L : ι → List Sl) (st : ι → VS) (pre : ι → Prop) (res : ι → VS × List Int) : Sp := fun vs H Q _ => ∃ (i : ι) (p pa ra : Addr) (ws : List V), vs = .ref p :: ws ∧ HL H (L i) ws ∧ BkAt C H p pa ra (st i) ∧ pre i ∧
  ∀ v H', Kept H H' pa ra → BkAt C H' p pa ra (res i).1 → (∀ q, v = .ref q → H q = none) → Rep.is H' v (res i).2 → Q v H'
section
variable {C : Addr} {He : Hp} {S : List Sl} {K : PySem.W.Frag} {te ta tb : TE} {tr : TA} {D : Ends} {ts tz : TS} {p pa ra : Addr} {s : VS} {r : VS × List Int}
theorem RtM.after {H2 : Hp} {s2 : VS} (k : RtM C He D p pa ra r) (kp : Kept He H2 pa ra) (hb : BkAt C H2 p pa ra s2) : RtM C H2 D p pa ra r := fun v H' k2 b n i => k v H' (kp.trans k2) b (fun q z => kept_fresh kp hb (n q z)) i
theorem g_retK {a : List Int} (hb : BkAt C He p pa ra s) (h : XN He S te a) (k : RtM C He D p pa ra (s, a)) : Go He S (tRet te) D := fun σ H hs => h σ H hs _ fun v H1 e1 n i => k v H1 (Kept.of (hs.ex.trans e1)) (hb.mono (hs.ex.trans e1)) (fun q z => fresh_back hs.ex (n q z)) i
theorem g_retM {E : XK} {ι : Type} {L : ι → List Sl} {st : ι → VS} {pre : ι → Prop} {res : ι → VS × List Int} (i : ι) (h0 : S[0]? = some (.sh (Bko.mk (C := C) p pa ra (st i)))) (h : XA He S tr (L i)) (hp : pre i) (k : RtM C He D p pa ra (res i)) : Go He S (tRet (tCall (SpM C L st pre res) [] E (tCons (tVar 0) tr))) D := fun σ H hs => by
  obtain ⟨v0, e0, rfl, b0⟩ := hs.sh h0
  refine ⟨_, e0, h σ H hs _ fun ws H1 e1 i1 => ?_⟩
  show SpM C L st pre res ((V.ref p :: ws) ++ []) H1 D.rt E
  rw [List.append_nil]
  exact ⟨i, p, pa, ra, ws, rfl, i1, b0.mono e1, hp, fun v H' kp b n j => k v H' ((Kept.of (hs.ex.trans e1)).trans kp) b (fun q z => fresh_back (hs.ex.trans e1) (n q z)) j⟩
theorem q_codeK {b : Bool} {a : List Int} {tt : TT} (h : XT He S tt b) (hb : BkAt C He p pa ra s) (h1 : XN He S te a) (k : RtM C He D p pa ra r) (e : b = true → (s, a) = r) (h2 : b = false → Go He S tz D) : Go He S (tSeq (tIfS tt (tRet te) tNext) tz) D :=
  g_when h (fun z => g_retK (D := { D with nx := tz D }) hb h1 (by rw [e z]; exact k)) h2
theorem q_badK {m : Nat} {c : Int} (hm : S[m]? = some (.sh c)) (hb : BkAt C He p pa ra s) (k : RtM C He D p pa ra r) (e : c ≠ 0 → (s, [c]) = r) (h : c = 0 → Go He S tz D) : Go He S (tSeq (tIfS (tTest (tOp rNe (tVar m) (tC (.int 0)))) (tRet (tLst (tCons (tVar m) tNil))) tNext) tz) D :=
  q_codeK (t_test (x_ne (x_var hm) x_int)) hb (x_lst (l := [c]) (xa_cons (x_var hm) xa_nil)) k (fun z => e (by simpa using z)) fun z => h (by simpa using z)
end
section
variable {P : Program} {w : World} {K : PySem.W.Frag} {mg : Str → Option Value} {base : Heap} {x : Str} {st0 : Stmt} {N ps : List Str} {k : Nat} {ι : Type} {L : ι → List Sl} {st : ι → VS} {pre : ι → Prop} {res : ι → VS × List Int} {C : Addr}
theorem Tx.okM (F : Tx K mg x st0 ps) (S : FnScope N ps (defScope st0)) (hl : ∀ i, (L i).length + 1 = ps.length) (ho : ∀ i, (L i).all notOwn = true)
    (hb : ∀ (i : ι), pre i → ∀ (f : Addr) (cdv : Value) (A : Around) (outer : List Env) (s : Shared) (H : Hp) (p pa ra : Addr) (Q : VK) (E : XK), Room k (A.deeper (envOfC x (defScope st0) s.heap.objs.size f cdv)) → BkAt C H p pa ra (st i) →
      ∃ t, PSs (cxOf CX0 P w K mg base N x (defScope st0) f cdv A outer s H E).nox (defBody st0) t ∧ (RtM C H { nx := fun _ H' => Q .non H', rt := Q } p pa ra (res i) → Go H ((.sh (Bko.mk (C := C) p pa ra (st i)) :: L i) ++ List.replicate (N.length - (.sh (Bko.mk (C := C) p pa ra (st i)) :: L i).length) .any) t { nx := fun _ H' => Q .non H', rt := Q })) : Df P w K mg base x (k + 1) ps (SpM C L st pre res) := by
  refine F.ok S (fun vs H Q E h => ?_) fun f cdv A outer s H vs Q E hr h => ?_
  · obtain ⟨i, p, pa, ra, ws, rfl, h1, _⟩ := h
    rw [List.length_cons, h1.len]; exact hl i
  · obtain ⟨i, p, pa, ra, ws, rfl, h1, h2, h3, h4⟩ := h
    obtain ⟨t, a, b⟩ := hb i h3 f cdv A outer s H p pa ra Q E hr h2
    have hN : ps.length ≤ N.length := by
      have := congrArg List.length S.pre
      rw [List.length_take] at this; omega
    refine ⟨t, a, b h4 _ _ (Holds.start (L := .sh (Bko.mk (C := C) p pa ra (st i)) :: L i) ⟨_, _, rfl, ⟨rfl, h2⟩, h1⟩ ?_ (by rw [List.length_cons, hl i]; exact hN))⟩
    rw [List.all_cons, ho i]; rfl
/-! ### the class -/
def sp_init (C : Addr) : Sp := fun vs H Q _ => ∃ (p dx : Addr), vs = [.ref p] ∧ H p = some (.ins C dx []) ∧ ∀ H' pa ra, H pa = none → H ra = none → BkAt C H' p pa ra Valdgg.start → (∀ b o, H b = some o → b ≠ p → H' b = some o) → Q .non H'
theorem putPR (u v : V) : putF "records" v (putF "parties" u []) = ([("parties", u), ("records", v)] : List (Str × V)) := by
  show (if ("parties" : Str) = "records" then ([("parties", v)] : List (Str × V)) else _) = _
  rw [if_neg (by decide +kernel)]; rfl
theorem ok_init {f : Addr} {fd : FuncData} (F : Fun K "__init__" "Book.__init__" s_init f fd) (T : Top K mg C) : FnOk P w K mg base CX0 1 f fd ["self"] (sp_init C) := by
  refine F.ok sc_init (fun vs H Q E h => ?_) (fun cdv A outer s H vs Q E hr h => ⟨_, (pss_cons (ps_fld (pv 0) (pe_lst pa_nil) rfl)
        (pss_one (ps_fld (pv 0) (pe_lst pa_nil) rfl))), ?_⟩)
  · obtain ⟨p, dx, rfl, _⟩ := h
    rfl
  · obtain ⟨p, dx, rfl, hp, k⟩ := h
    refine ⟨by decide, fun pa hpa => ⟨_, rfl, p, C, dx, [], rfl, (Ex.new hpa) _ _ hp, T.cl, T.nP, (by show 0 < 1000; decide), ?_⟩⟩
    have ne1 : pa ≠ p := fun z => by subst z; rw [hpa] at hp; cases hp
    refine ⟨by decide, fun ra hra => ⟨_, rfl, p, C, dx, putF "parties" (.ref pa) [], rfl, ?_, T.cl, T.nR, (by show 1 < 1000; decide), ?_⟩⟩
    · have z : p ≠ ra := fun z => by subst z; rw [upd_same] at hra; cases hra
      rw [upd_ne z, upd_same]
    · have ne2 : ra ≠ p := fun z => by subst z; rw [upd_same] at hra; cases hra
      have ne3 : ra ≠ pa := fun z => by subst z; rw [upd_ne ne1, upd_same] at hra; cases hra
      rw [upd_ne ne2, upd_ne ne3] at hra
      refine k _ pa ra hpa hra ⟨Ne.symm ne3, ⟨dx, by rw [upd_same, putPR]⟩, ?_, [], ?_, All2.nil⟩ fun b o e hb => ?_
      · rw [upd_ne ne1, upd_ne (Ne.symm ne3), upd_ne ne1, upd_same]; rfl
      · rw [upd_ne ne2, upd_same]
      · rw [upd_ne hb, upd_ne (ne_of_none e hra), upd_ne hb, upd_ne (ne_of_none e hpa)]
        exact e
def plusP (s : VS) (b : Bool) : VS := { s with parties := s.parties ++ [b] }
def sp_add_party (C : Addr) : Sp := fun vs H Q _ => ∃ (p pa ra : Addr) (s : VS) (b : Bool), vs = [.ref p, .bl b] ∧ BkAt C H p pa ra s ∧ s.parties.length < 100000 ∧ ∀ H', Kept H H' pa ra → BkAt C H' p pa ra (plusP s b) → Q .non H'
theorem rep_tup_upd {H : Hp} {a : Addr} {xs ys : List V} {l : List Tp} {zs : List V} (ha : H a = some (.lst zs)) (h : All2 (Rep.is H) xs l) : All2 (Rep.is (upd H a (.lst ys))) xs l := h.imp fun v t ⟨q, e, hq⟩ => ⟨q, e, by
  rw [upd_ne (ne_of hq ha (by intro z; cases z))]; exact hq⟩
theorem ok_add_party {f : Addr} {fd : FuncData} (F : Fun K "add_party" "Book.add_party" s_add_party f fd) (T : Top K mg C) : FnOk P w K mg base CX0 1 f fd ["self", "company"] (sp_add_party C) := by
  refine F.ok sc_add_party (fun vs H Q E h => ?_) (fun cdv A outer s H vs Q E hr h => ⟨_, (pss_one (ps_expr (pe_bm PySem.F.plainAttrs_list PySem.F.slot_list_append PySem.F.type_list_append mt_append (pe_fld (pv 0) rfl) (pa_cons (pv 1) pa_nil)))), ?_⟩)
  · obtain ⟨p, pa, ra, s, b, rfl, _⟩ := h
    rfl
  · obtain ⟨p, pa, ra, s, b, rfl, hb, hz, k⟩ := h
    obtain ⟨ne, ⟨dx, hp⟩, hpl, xs, hrl, hx⟩ := hb
    refine ⟨_, rfl, p, C, dx, _, _, rfl, hp, T.cl, T.nP, lk_P, Or.inl ⟨rfl, _, SqL.of hpl⟩, _, rfl, pa, _, _, rfl, rfl, hpl, sz_lt (by rw [List.length_map]; exact hz), ?_⟩
    refine k _ (fun q o h1 h2 h3 => by rw [upd_ne h1]; exact h3) ⟨ne, ⟨dx, ?_⟩, ?_, xs, ?_, rep_tup_upd hpl hx⟩
    · rw [upd_ne (ne_of hp hpl (by intro z; cases z))]; exact hp
    · rw [upd_same]
      show _ = some (HO.lst ((s.parties ++ [b]).map V.bl))
      rw [List.map_append]; rfl
    · rw [upd_ne (Ne.symm ne)]; exact hrl
def plusR (s : VS) (r : Valdgg.Record) : VS := { s with records := s.records ++ [r] }
def sp_add_record (C : Addr) : Sp := fun vs H Q _ => ∃ (p pa ra : Addr) (s : VS) (r : Valdgg.Record) (v : V), vs = [.ref p, v] ∧ Rep.is H v (recT r) ∧ BkAt C H p pa ra s ∧ s.records.length < 100000 ∧ ∀ H', Kept H H' pa ra → BkAt C H' p pa ra (plusR s r) → Q .non H'
theorem ok_add_record {f : Addr} {fd : FuncData} (F : Fun K "add_record" "Book.add_record" s_add_record f fd) (T : Top K mg C) : FnOk P w K mg base CX0 1 f fd ["self", "record"] (sp_add_record C) := by
  refine F.ok sc_add_record (fun vs H Q E h => ?_) (fun cdv A outer s H vs Q E hr h => ⟨_, (pss_one (ps_expr (pe_bm PySem.F.plainAttrs_list PySem.F.slot_list_append PySem.F.type_list_append mt_append (pe_fld (pv 0) rfl) (pa_cons (pv 1) pa_nil)))), ?_⟩)
  · obtain ⟨p, pa, ra, s, r, v, rfl, _⟩ := h
    rfl
  · obtain ⟨p, pa, ra, s, r, v, rfl, hv, hb, hz, k⟩ := h
    obtain ⟨ne, ⟨dx, hp⟩, hpl, xs, hrl, hx⟩ := hb
    refine ⟨_, rfl, p, C, dx, _, _, rfl, hp, T.cl, T.nR, lk_R, Or.inl ⟨rfl, _, SqL.of hrl⟩, _, rfl, ra, _, _, rfl, rfl, hrl, sz_lt (by rw [hx.1, List.length_map]; exact hz), ?_⟩
    refine k _ (fun q o h1 h2 h3 => by rw [upd_ne h2]; exact h3) ⟨ne, ⟨dx, ?_⟩, ?_, _, upd_same, ?_⟩
    · rw [upd_ne (ne_of hp hrl (by intro z; cases z))]; exact hp
    · rw [upd_ne ne]; exact hpl
    · have e : (plusR s r).records.map recT = s.records.map recT ++ [recT r] := by
        show (s.records ++ [r]).map recT = _
        rw [List.map_append]; rfl
      rw [e]
      exact rep_tup_upd hrl (hx.append (All2.cons hv All2.nil))
end
section
variable {C : Addr} {He : Hp} {S : List Sl} {K : PySem.W.Frag} {te ta tb : TE} {tr : TA} {D : Ends} {ts tz : TS} {p pa ra : Addr} {s : VS}
theorem Holds.book {H : Hp} {σ : L2.St} {n : Nat} (hb : BkAt C H p pa ra s) (e : σ[0]? = some (some (.ref p))) (hl : σ.length = n + 1) : Holds H (.sh (Bko.mk (C := C) p pa ra s) :: List.replicate n .any) σ H := by
  refine ⟨H, Ex.refl _, Ex.refl _, by simp [hl], fun i sl o h1 h2 => ?_⟩
  cases i with
  | zero =>
    rw [e] at h2
    cases h1; cases h2
    exact ⟨_, rfl, rfl, hb⟩
  | succ i =>
    have h1' : (List.replicate n Sl.any)[i]? = some sl := by simpa using h1
    rw [List.getElem?_replicate] at h1'
    split at h1'
    · cases h1'; trivial
    · cases h1'
theorem lk_none {u v : V} {f : Str} (h1 : (f == ("parties" : Str)) = false) (h2 : (f == ("records" : Str)) = false) : List.lookup f [(("parties" : Str), u), ("records", v)] = none := by
  simp only [List.lookup, h1, h2]
theorem q_addP {E : XK} {b : Bool} {n : Nat} (h0 : S[0]? = some (.sh (Bko.mk (C := C) p pa ra s))) (hn : S.length = n + 1) (hte : XD He S te b) (hz : s.parties.length < 100000)
    (k : ∀ H2, Kept He H2 pa ra → BkAt C H2 p pa ra (plusP s b) → Go H2 (.sh (Bko.mk (C := C) p pa ra (plusP s b)) :: List.replicate n .any) tz D) : Go He S (tSeq (tDrop (tMeth C "add_party" (sp_add_party C) [] E (tVar 0) (tCons te tNil))) tz) D := fun σ H hs => by
  obtain ⟨v0, e0, rfl, b0⟩ := hs.sh h0
  obtain ⟨dx, hp⟩ := b0.ins
  refine ⟨_, e0, p, dx, _, rfl, hp, lk_none (by decide +kernel) (by decide +kernel), hte σ H hs _ fun v H1 e1 i1 => ?_⟩
  rw [is_bool.mp i1]
  refine ⟨p, pa, ra, s, b, rfl, b0.mono e1, hz, fun H2 kp hb => k H2 ((Kept.of (hs.ex.trans e1)).trans kp) hb _ _ (Holds.book hb e0 ?_)⟩
  obtain ⟨_, _, _, c, _⟩ := hs
  omega
theorem q_addR {E : XK} {r : Valdgg.Record} {n : Nat} (h0 : S[0]? = some (.sh (Bko.mk (C := C) p pa ra s))) (hn : S.length = n + 1) (hte : XD He S te (recT r)) (hz : s.records.length < 100000)
    (k : ∀ H2, Kept He H2 pa ra → BkAt C H2 p pa ra (plusR s r) → Go H2 (.sh (Bko.mk (C := C) p pa ra (plusR s r)) :: List.replicate n .any) tz D) : Go He S (tSeq (tDrop (tMeth C "add_record" (sp_add_record C) [] E (tVar 0) (tCons te tNil))) tz) D := fun σ H hs => by
  obtain ⟨v0, e0, rfl, b0⟩ := hs.sh h0
  obtain ⟨dx, hp⟩ := b0.ins
  refine ⟨_, e0, p, dx, _, rfl, hp, lk_none (by decide +kernel) (by decide +kernel), hte σ H hs _ fun v H1 e1 i1 => ?_⟩
  refine ⟨p, pa, ra, s, r, v, rfl, i1, b0.mono e1, hz, fun H2 kp hb => k H2 ((Kept.of (hs.ex.trans e1)).trans kp) hb _ _ (Holds.book hb e0 ?_)⟩
  obtain ⟨_, _, _, c, _⟩ := hs
  omega
end
section
variable {P : Program} {w : World} {K : PySem.W.Frag} {mg : Str → Option Value} {base : Heap} {C : Addr}
theorem inv_len (s : VS) : ((Valdgg.investors s).length : Int) = (s.parties.length : Int) - ((comps s.parties).length : Int) := by
  have := filter_not_len (Valdgg.isCompany s) (List.range s.parties.length)
  rw [List.length_range] at this
  have e : (Valdgg.investors s).length + (comps s.parties).length = s.parties.length := this
  omega
def sp_add_investor (C : Addr) : Sp := SpM C (ι := VS) (fun _ => []) (fun i => i) (fun i => WF i) fun i => Valdgg.step i .addInvestor
theorem ok_add_investor (T : Top K mg C) : Df P w K mg base "add_investor" 2 ["book"] (sp_add_investor C) := by
  have d_companies_of := ok_companies_of (P := P) (w := w) (base := base) T
  obtain ⟨fP, fdP, m_add_party, F_add_party, b_add_party⟩ := T.mP
  have d_add_party := ok_add_party (P := P) (w := w) (base := base) F_add_party T
  refine T.f_add_investor.okM sc_add_investor (fun _ => rfl) (fun _ => rfl) ?_
  intro i hpre f cdv A outer s H p pa ra Q E hr hbk
  refine ⟨_, (pss_cons (ps_if (pt_cmpR op_ge (pe_op op_sub (pe_callB call_len_seq (by rfl) T.b_len (by decide +kernel) (pa_cons (pe_fld (pv 0) rfl) pa_nil)) (pe_callB call_len_seq (by rfl) T.b_len (by decide +kernel) (pa_cons (pe_df d_companies_of (hr.mono (by decide)) rfl (pa_cons (pe_fld (pv 0) rfl) pa_nil)) pa_nil))) (pe_cst T.c_MOST_INVESTORS) (nomark _)) (pss_one (ps_ret (pe_lst (pa_cons (pe_cst T.c_TOO_MANY) pa_nil)))) pss_nil)
        (pss_cons (ps_expr (pe_meth (pv 0) T.cl m_add_party d_add_party (hr.mono (by decide)) b_add_party .nil pass0 (pa_cons pe_bl pa_nil)))
        (pss_one (ps_ret (pe_lst (pa_cons pe_int (pa_cons (pe_op op_sub (pe_callB call_len_seq (by rfl) T.b_len (by decide +kernel) (pa_cons (pe_fld (pv 0) rfl) pa_nil)) pe_int) pa_nil))))))), fun k => ?_⟩
  have wf : WF i := hpre
  have h1 := wf.np
  have e0 : Valdgg.step i .addInvestor = if 4 ≤ (Valdgg.investors i).length then (i, [-6]) else (plusP i false, [0, (i.parties.length : Int)]) := rfl
  have hcl := comps_len i.parties
  have k : RtM C H _ p pa ra (Valdgg.step i .addInvestor) := k
  show Go H [.sh (Bko.mk (C := C) p pa ra i)] _ _
  refine q_codeK (s := i) (a := [-6]) (t_test (x_ge (x_sub (x_len (x_fldP T (x_var (a := Bko.mk (C := C) p pa ra i) rfl).b)) (x_len (x_cN i.parties (xa_cons (x_fldP T (x_var (a := Bko.mk (C := C) p pa ra i) rfl).b) xa_nil) (by omega)).d)) x_int)) hbk (x_lst (l := [-6]) (xa_cons x_int xa_nil)) k (fun hb => ?_) fun hb => ?_
  · have : (4 : Int) ≤ (i.parties.length : Int) - ((comps i.parties).length : Int) := of_decide_eq_true hb
    rw [← inv_len] at this
    rw [e0, if_pos (by omega)]
  · have : ¬ (4 : Int) ≤ (i.parties.length : Int) - ((comps i.parties).length : Int) := of_decide_eq_false hb
    rw [← inv_len] at this
    rw [e0, if_neg (by omega)] at k
    refine q_addP (n := 0) (b := false) rfl rfl x_bool (by omega) fun H2 kp hb2 => ?_
    refine g_retK hb2 (XN.eq (x_lst (l := [0, ((plusP i false).parties.length : Int) - 1]) (xa_cons x_int (xa_cons (x_sub (x_len (x_fldP T (x_var (a := Bko.mk (C := C) p pa ra (plusP i false)) rfl).b)) x_int) xa_nil))) ?_) (k.after kp hb2)
    have e : (plusP i false).parties.length = i.parties.length + 1 := by
      show (i.parties ++ [false]).length = _
      rw [List.length_append]; rfl
    rw [e]
    congr 2
    omega
def sp_add_company (C : Addr) : Sp := SpM C (ι := VS) (fun _ => []) (fun i => i) (fun i => WF i) fun i => Valdgg.step i .addCompany
theorem ok_add_company (T : Top K mg C) : Df P w K mg base "add_company" 2 ["book"] (sp_add_company C) := by
  have d_companies_of := ok_companies_of (P := P) (w := w) (base := base) T
  obtain ⟨fP, fdP, m_add_party, F_add_party, b_add_party⟩ := T.mP
  have d_add_party := ok_add_party (P := P) (w := w) (base := base) F_add_party T
  refine T.f_add_company.okM sc_add_company (fun _ => rfl) (fun _ => rfl) ?_
  intro i hpre f cdv A outer s H p pa ra Q E hr hbk
  refine ⟨_, (pss_cons (ps_if (pt_cmpR op_ge (pe_callB call_len_seq (by rfl) T.b_len (by decide +kernel) (pa_cons (pe_df d_companies_of (hr.mono (by decide)) rfl (pa_cons (pe_fld (pv 0) rfl) pa_nil)) pa_nil)) (pe_cst T.c_MOST_COMPANIES) (nomark _)) (pss_one (ps_ret (pe_lst (pa_cons (pe_cst T.c_TOO_MANY) pa_nil)))) pss_nil)
        (pss_cons (ps_expr (pe_meth (pv 0) T.cl m_add_party d_add_party (hr.mono (by decide)) b_add_party .nil pass0 (pa_cons pe_bl pa_nil)))
        (pss_one (ps_ret (pe_lst (pa_cons pe_int (pa_cons (pe_op op_sub (pe_callB call_len_seq (by rfl) T.b_len (by decide +kernel) (pa_cons (pe_fld (pv 0) rfl) pa_nil)) pe_int) pa_nil))))))), fun k => ?_⟩
  have wf : WF i := hpre
  have h1 := wf.np
  have e0 : Valdgg.step i .addCompany = if 8 ≤ (comps i.parties).length then (i, [-6]) else (plusP i true, [0, (i.parties.length : Int)]) := rfl
  have k : RtM C H _ p pa ra (Valdgg.step i .addCompany) := k
  show Go H [.sh (Bko.mk (C := C) p pa ra i)] _ _
  refine q_codeK (s := i) (a := [-6]) (t_test (x_ge (x_len (x_cN i.parties (xa_cons (x_fldP T (x_var (a := Bko.mk (C := C) p pa ra i) rfl).b) xa_nil) (by omega)).d) x_int)) hbk (x_lst (l := [-6]) (xa_cons x_int xa_nil)) k (fun hb => ?_) fun hb => ?_
  · have : (8 : Int) ≤ ((comps i.parties).length : Int) := of_decide_eq_true hb
    rw [e0, if_pos (by omega)]
  · have : ¬ (8 : Int) ≤ ((comps i.parties).length : Int) := of_decide_eq_false hb
    rw [e0, if_neg (by omega)] at k
    refine q_addP (n := 0) (b := true) rfl rfl x_bool (by omega) fun H2 kp hb2 => ?_
    refine g_retK hb2 (XN.eq (x_lst (l := [0, ((plusP i true).parties.length : Int) - 1]) (xa_cons x_int (xa_cons (x_sub (x_len (x_fldP T (x_var (a := Bko.mk (C := C) p pa ra (plusP i true)) rfl).b)) x_int) xa_nil))) ?_) (k.after kp hb2)
    have e : (plusP i true).parties.length = i.parties.length + 1 := by
      show (i.parties ++ [true]).length = _
      rw [List.length_append]; rfl
    rw [e]
    congr 2
    omega
def dealR (s : VS) (kd d o c p : Int) : VS × List Int := if rcode s kd d o c p ≠ 0 then (s, [rcode s kd d o c p]) else (plusR s (newR kd d o c p), [0, (s.records.length : Int)])
theorem deal_is {s : VS} (w : WF s) (kd d o c p : Int) : Valdgg.trading s (sgn kd) d o c p = dealR s kd d o c p := by
  unfold Valdgg.trading dealR
  rw [traded_is w]
  by_cases h : rcode s kd d o c p ≠ 0
  · rw [if_pos h, if_pos h]; rfl
  · rw [if_neg h, if_neg h]; rfl
def sp_record_deed (C : Addr) : Sp := SpM C (ι := VS × Int × Int × Int × Int × Int) (fun i => [.sh (Tp.mk [i.2.1, i.2.2.1, i.2.2.2.1, i.2.2.2.2.1, i.2.2.2.2.2])]) (fun i => i.1) (fun i => WF i.1 ∧ (i.2.1 = 0 ∨ i.2.1 = 1)) fun i => dealR i.1 i.2.1 i.2.2.1 i.2.2.2.1 i.2.2.2.2.1 i.2.2.2.2.2
theorem ok_record_deed (T : Top K mg C) : Df P w K mg base "record_deed" 6 ["book", "record"] (sp_record_deed C) := by
  have d_record_code := ok_record_code (P := P) (w := w) (base := base) T
  obtain ⟨fR, fdR, m_add_record, F_add_record, b_add_record⟩ := T.mR
  have d_add_record := ok_add_record (P := P) (w := w) (base := base) F_add_record T
  refine T.f_record_deed.okM sc_record_deed (fun _ => rfl) (fun _ => rfl) ?_
  intro i hpre f cdv A outer s H p pa ra Q E hr hbk
  refine ⟨_, (pss_cons (ps_set (i := 2) sc_record_deed.nd rfl (Or.inl rfl) (pe_df d_record_code (hr.mono (by decide)) rfl (pa_cons (pv 0) (pa_cons (pv 1) pa_nil))))
        (pss_cons (ps_if (pt_cmpR op_ne (pv 2) (pe_cst T.c_FINE) (nomark _)) (pss_one (ps_ret (pe_lst (pa_cons (pv 2) pa_nil)))) pss_nil)
        (pss_cons (ps_expr (pe_meth (pv 0) T.cl m_add_record d_add_record (hr.mono (by decide)) b_add_record .nil pass0 (pa_cons (pv 1) pa_nil)))
        (pss_one (ps_ret (pe_lst (pa_cons pe_int (pa_cons (pe_op op_sub (pe_callB call_len_seq (by rfl) T.b_len (by decide +kernel) (pa_cons (pe_fld (pv 0) rfl) pa_nil)) pe_int) pa_nil)))))))), fun k => ?_⟩
  obtain ⟨st, kd, d, o, c, q⟩ := i
  obtain ⟨wf, hk⟩ := hpre
  have wf : WF st := wf
  have hk : kd = 0 ∨ kd = 1 := hk
  have h2 := wf.nr
  have k : RtM C H _ p pa ra (dealR st kd d o c q) := k
  unfold dealR at k
  show Go H [.sh (Bko.mk (C := C) p pa ra st), .sh (Tp.mk [kd, d, o, c, q]), .any] _ _
  refine q_set (a := rcode st kd d o c q) (x_cD (st, kd, d, o, c, q) (xa_cons (x_var (a := Bko.mk (C := C) p pa ra st) rfl).b (xa_cons (x_var rfl) xa_nil)) ⟨wf, hk⟩) ?_
  refine q_badK (c := rcode st kd d o c q) rfl hbk k (fun hz => (if_pos hz).symm) fun hz => ?_
  rw [if_neg (fun z => z hz)] at k
  have hd0 : dcode st d o c q = 0 := by
    unfold rcode at hz
    split at hz
    · rename_i z; exact absurd hz z
    · rename_i z; exact Classical.byContradiction z
  have hd := dcode_0 hd0
  refine q_addR (n := 2) (r := newR kd d o c q) rfl rfl (XD.eq (x_var (a := Tp.mk [kd, d, o, c, q]) rfl) ?_) (by omega) fun H2 kp hb2 => ?_
  · show _ = Tp.mk (recRow (newR kd d o c q))
    rw [row_new hk hd.d0 hd.o0 hd.c0 hd.p0]
  refine g_retK hb2 (XN.eq (x_lst (l := [0, ((plusR st (newR kd d o c q)).records.length : Int) - 1]) (xa_cons x_int (xa_cons (x_sub (x_nrec (x_fldR T (x_var (a := Bko.mk (C := C) p pa ra (plusR st (newR kd d o c q))) rfl).b)) x_int) xa_nil))) ?_) (k.after kp hb2)
  have e : (plusR st (newR kd d o c q)).records.length = st.records.length + 1 := by
    show (st.records ++ [_]).length = _
    rw [List.length_append]; rfl
  rw [e]
  congr 2
  omega
def sp_cancel_record (C : Addr) : Sp := SpM C (ι := VS × Int) (fun i => [.sh i.2]) (fun i => i.1) (fun i => WF i.1) fun i => Valdgg.step i.1 (.cancelRecord i.2)
theorem ok_cancel_record (T : Top K mg C) : Df P w K mg base "cancel_record" 5 ["book", "number"] (sp_cancel_record C) := by
  have d_cancel_code := ok_cancel_code (P := P) (w := w) (base := base) T
  obtain ⟨fR, fdR, m_add_record, F_add_record, b_add_record⟩ := T.mR
  have d_add_record := ok_add_record (P := P) (w := w) (base := base) F_add_record T
  refine T.f_cancel_record.okM sc_cancel_record (fun _ => rfl) (fun _ => rfl) ?_
  intro i hpre f cdv A outer s H p pa ra Q E hr hbk
  refine ⟨_, (pss_cons (ps_set (i := 2) sc_cancel_record.nd rfl (Or.inl rfl) (pe_df d_cancel_code (hr.mono (by decide)) rfl (pa_cons (pv 0) (pa_cons (pv 1) pa_nil))))
        (pss_cons (ps_if (pt_cmpR op_ne (pv 2) (pe_cst T.c_FINE) (nomark _)) (pss_one (ps_ret (pe_lst (pa_cons (pv 2) pa_nil)))) pss_nil)
        (pss_cons (ps_expr (pe_meth (pv 0) T.cl m_add_record d_add_record (hr.mono (by decide)) b_add_record .nil pass0 (pa_cons (pe_tup (pa_cons (pe_cst T.c_CANCELLATION) (pa_cons (pv 1) (pa_cons pe_int (pa_cons pe_int (pa_cons pe_int pa_nil)))))) pa_nil)))
        (pss_one (ps_ret (pe_lst (pa_cons pe_int (pa_cons (pe_op op_sub (pe_callB call_len_seq (by rfl) T.b_len (by decide +kernel) (pa_cons (pe_fld (pv 0) rfl) pa_nil)) pe_int) pa_nil)))))))), fun k => ?_⟩
  obtain ⟨st, q⟩ := i
  have wf : WF st := hpre
  have h2 := wf.nr
  have e0 : Valdgg.step st (.cancelRecord q) = if kcode st q ≠ 0 then (st, [kcode st q]) else (plusR st (.cancel q.toNat), [0, (st.records.length : Int)]) := cancelling_is st q
  have k : RtM C H _ p pa ra (Valdgg.step st (.cancelRecord q)) := k
  rw [e0] at k
  show Go H [.sh (Bko.mk (C := C) p pa ra st), .sh q, .any] _ _
  refine q_set (a := kcode st q) (x_cD (st, q) (xa_cons (x_var (a := Bko.mk (C := C) p pa ra st) rfl).b (xa_cons (x_var rfl) xa_nil)) wf) ?_
  refine q_badK (c := kcode st q) rfl hbk k (fun hz => (if_pos hz).symm) fun hz => ?_
  rw [if_neg (fun z => z hz)] at k
  have hq : 0 ≤ q := by
    unfold kcode at hz
    split at hz
    · cases hz
    · rename_i z
      rw [Bool.not_eq_true, Bool.not_eq_false'] at z
      exact (num_nn z).1
  refine q_addR (n := 2) (r := .cancel q.toNat) rfl rfl (XD.eq (x_tup (l := [2, q, 0, 0, 0]) (xa_cons x_int (xa_cons (x_var rfl) (xa_cons x_int (xa_cons x_int (xa_cons x_int xa_nil)))))).d ?_) (by omega) fun H2 kp hb2 => ?_
  · show _ = Tp.mk [2, ((q.toNat : Nat) : Int), 0, 0, 0]
    rw [Int.toNat_of_nonneg hq]
  refine g_retK hb2 (XN.eq (x_lst (l := [0, ((plusR st (.cancel q.toNat)).records.length : Int) - 1]) (xa_cons x_int (xa_cons (x_sub (x_nrec (x_fldR T (x_var (a := Bko.mk (C := C) p pa ra (plusR st (.cancel q.toNat))) rfl).b)) x_int) xa_nil))) ?_) (k.after kp hb2)
  have e : (plusR st (.cancel q.toNat)).records.length = st.records.length + 1 := by
    show (st.records ++ [_]).length = _
    rw [List.length_append]; rfl
  rw [e]
  congr 2
  omega
end
end Cr
namespace Cr
open PySem PySem.Spec PyProof.Rows L2 Evl
/-! ### the list handed in -/
structure Cl (K : PySem.W.Frag) where
  l : List Int
theorem SqL.up {K : PySem.W.Frag} {H H' : Hp} {a : Addr} {xs : List V} (h : SqL K H a xs) (e : Ex H H') : SqL K H' a xs := h.elim (fun h => .inl (h.elim (fun h => .inl (e _ _ h)) fun ⟨o, h⟩ => .inr ⟨o, e _ _ h⟩)) fun h => .inr h
instance repCl {K : PySem.W.Frag} : Rep (Cl K) := ⟨fun H v a => ∃ c, v = .ref c ∧ SqL K H c (a.l.map .int), fun e ⟨c, h1, h2⟩ => ⟨c, h1, SqL.up h2 e⟩⟩
section
variable {He : Hp} {S : List Sl} {K : PySem.W.Frag} {te ta tb : TE} {tt : TT} {D : Ends} {ts tz : TS} {l : List Int}
theorem x_lenC (h : XD He S te (Cl.mk (K := K) l)) : XD He S (tCB (rLenS K) (tCons te tNil)) (l.length : Int) := fun σ H hs Q q => h σ H hs _ fun v H1 e i => by
  obtain ⟨c, rfl, hc⟩ := i
  exact ⟨c, _, rfl, Or.inl hc, q _ H1 e (by show V.int _ = V.int _; rw [List.length_map])⟩
theorem x_ixC {j : Nat} {n : Int} (h1 : XD He S ta (Cl.mk (K := K) l)) (h2 : XD He S tb (j : Int)) (h : l[j]? = some n) : XD He S (tOp (rIxL K) ta tb) n := fun σ H hs Q q =>
  h1 σ H hs _ fun v H1 e1 i1 => h2 σ H1 (hs.mono e1) _ fun w H2 e2 i2 => by
    obtain ⟨c, rfl, hc⟩ := Rep.mono e2 i1
    exact ⟨c, _, (j : Int), .int n, rfl, i2, hc, atI_nat (by rw [List.getElem?_map, h]; rfl), q _ H2 (e1.trans e2) rfl⟩
theorem cut_nat (xs : List V) (lo hi : Nat) (h1 : lo ≤ hi) (h2 : hi ≤ xs.length) : cutV xs (some (lo : Int)) (some (hi : Int)) = (xs.drop lo).take (hi - lo) := by
  unfold cutV
  rw [HT.sIx_nat, HT.sIx_nat, Nat.min_eq_left h2, Nat.min_eq_left (Nat.le_trans h1 h2)]
theorem cut_from (xs : List V) (lo : Nat) (h : lo ≤ xs.length) : cutV xs (some (lo : Int)) none = xs.drop lo := by
  unfold cutV
  rw [HT.sIx_nat, HT.sIx_none, Nat.min_eq_left h]
  exact List.take_of_length_le (by rw [List.length_drop]; exact Nat.le_refl _)
/-- l[lo:hi] -/
theorem x_slC {lo hi : Nat} (h : XD He S te (Cl.mk (K := K) l)) (h1 : XD He S ta (lo : Int)) (h2 : XD He S tb (hi : Int)) (h3 : lo ≤ hi) (h4 : hi ≤ l.length) : XN He S (L2.tSl (rSlL K) te (tPart ta) (tPart tb)) ((l.drop lo).take (hi - lo)) := fun σ H hs Q q =>
  h σ H hs _ fun v H1 e1 i => h1 σ H1 (hs.mono e1) _ fun a H2 e2 ia => ⟨(lo : Int), ia, h2 σ H2 (hs.mono (e1.trans e2)) _ fun b H3 e3 ib => ⟨(hi : Int), ib, by
    obtain ⟨c, rfl, hc⟩ := Rep.mono (e2.trans e3) i
    refine ⟨c, _, rfl, hc, fun p hp => q _ _ ((e1.trans (e2.trans e3)).trans (Ex.new hp)) (fun p' z => by cases z; exact fresh_back (e1.trans (e2.trans e3)) hp) (of_ints ?_)⟩
    rw [upd_same, cut_nat _ lo hi h3 (by rw [List.length_map]; exact h4), List.map_take, List.map_drop]⟩⟩
/-- l[lo:] -/
theorem x_slFrom {lo : Nat} (h : XD He S te l) (h1 : XD He S ta (lo : Int)) (h3 : lo ≤ l.length) : XN He S (L2.tSl (rSlL K) te (tPart ta) tNoPart) (l.drop lo) := fun σ H hs Q q =>
  h σ H hs _ fun v H1 e1 i => h1 σ H1 (hs.mono e1) _ fun a H2 e2 ia => ⟨(lo : Int), ia, by
    obtain ⟨c, rfl, hc⟩ := ints_of (Rep.mono e2 i)
    refine ⟨c, _, rfl, SqL.of hc, fun p hp => q _ _ ((e1.trans e2).trans (Ex.new hp)) (fun p' z => by cases z; exact fresh_back (e1.trans e2) hp) (of_ints ?_)⟩
    rw [upd_same, cut_from _ lo (by rw [List.length_map]; exact h3), List.map_drop]⟩
theorem q_skip {b : Bool} (h : XT He S tt b) (hb : b = false) (k : Go He S tz D) : Go He S (tSeq (tIfS tt ts tNext) tz) D := g_when h (fun z => absurd (z.symm.trans hb) (by decide)) fun _ => k
theorem q_take {b : Bool} (h : XT He S tt b) (hb : b = true) (k : Go He S ts { D with nx := tz D }) : Go He S (tSeq (tIfS tt ts tNext) tz) D := g_when h (fun _ => k) fun z => absurd (z.symm.trans hb) (by decide)
/-- deed == n, a number other or the same -/
theorem q_no {m : Nat} {x n : Int} (hm : S[m]? = some (.sh x)) (hb : decide (x = n) = false) (k : Go He S tz D) : Go He S (tSeq (tIfS (tTest (tOp rEq (tVar m) (tC (.int n)))) ts tNext) tz) D := q_skip (t_test (x_eq (x_var hm) x_int)) hb k
theorem q_yes {m : Nat} {x : Int} (hm : S[m]? = some (.sh x)) (k : Go He S ts { D with nx := tz D }) : Go He S (tSeq (tIfS (tTest (tOp rEq (tVar m) (tC (.int x)))) ts tNext) tz) D := q_take (t_test (x_eq (x_var hm) x_int)) (by simp) k
end
/-! ### which call -/
def chg6 : Valdgg.Call → Prop
  | .addInvestor => True
  | .addCompany => True
  | .acquire _ _ _ _ => True
  | .previewAcquire _ _ _ _ => True
  | .dispose _ _ _ _ => True
  | .cancelRecord _ => True
  | _ => False
def ask8 : Valdgg.Call → Prop
  | .holders _ _ _ => True
  | .portfolio _ _ _ => True
  | .controls _ _ _ => True
  | .controlOrder _ _ _ => True
  | .controllers _ _ _ => True
  | .controlDays _ _ _ => True
  | .floatInterest _ _ _ => True
  | .restated _ _ _ => True
  | _ => False
section
variable {P : Program} {w : World} {K : PySem.W.Frag} {mg : Str → Option Value} {base : Heap} {C : Addr}
def sp_answer_change (C : Addr) : Sp := SpM C (ι := VS × Valdgg.Call) (fun i => [.sh (enc i.2)]) (fun i => i.1) (fun i => WF i.1 ∧ chg6 i.2) fun i => Valdgg.step i.1 i.2
theorem ok_answer_change (T : Top K mg C) : Df P w K mg base "answer_change" 7 ["book", "call"] (sp_answer_change C) := by
  have d_add_investor := ok_add_investor (P := P) (w := w) (base := base) T
  have d_add_company := ok_add_company (P := P) (w := w) (base := base) T
  have d_record_deed := ok_record_deed (P := P) (w := w) (base := base) T
  have d_preview_acquire := ok_preview_acquire (P := P) (w := w) (base := base) T
  have d_cancel_record := ok_cancel_record (P := P) (w := w) (base := base) T
  refine T.f_answer_change.okM sc_answer_change (fun _ => rfl) (fun _ => rfl) ?_
  intro i hpre f cdv A outer s H p pa ra Q E hr hbk
  refine ⟨_, (pss_cons (ps_set (i := 2) sc_answer_change.nd rfl (Or.inl rfl) (pe_ix (ix_listK rfl) (pv 1) pe_int (fun _ _ => rfl)))
        (pss_cons (ps_if (pt_cmpR op_eq (pv 2) pe_int (nomark _)) (pss_one (ps_ret (pe_df d_add_investor (hr.mono (by decide)) rfl (pa_cons (pv 0) pa_nil)))) pss_nil)
        (pss_cons (ps_if (pt_cmpR op_eq (pv 2) pe_int (nomark _)) (pss_one (ps_ret (pe_df d_add_company (hr.mono (by decide)) rfl (pa_cons (pv 0) pa_nil)))) pss_nil)
        (pss_cons (ps_if (pt_cmpR op_eq (pv 2) pe_int (nomark _)) (pss_one (ps_ret (pe_df d_record_deed (hr.mono (by decide)) rfl (pa_cons (pv 0) (pa_cons (pe_tup (pa_cons (pe_cst T.c_ACQUISITION) (pa_cons (pe_ix (ix_listK rfl) (pv 1) pe_int (fun _ _ => rfl)) (pa_cons (pe_ix (ix_listK rfl) (pv 1) pe_int (fun _ _ => rfl)) (pa_cons (pe_ix (ix_listK rfl) (pv 1) pe_int (fun _ _ => rfl)) (pa_cons (pe_ix (ix_listK rfl) (pv 1) pe_int (fun _ _ => rfl)) pa_nil)))))) pa_nil))))) pss_nil)
        (pss_cons (ps_if (pt_cmpR op_eq (pv 2) pe_int (nomark _)) (pss_one (ps_ret (pe_df d_preview_acquire (hr.mono (by decide)) rfl (pa_cons (pv 0) (pa_cons (pe_ix (ix_listK rfl) (pv 1) pe_int (fun _ _ => rfl)) (pa_cons (pe_ix (ix_listK rfl) (pv 1) pe_int (fun _ _ => rfl)) (pa_cons (pe_ix (ix_listK rfl) (pv 1) pe_int (fun _ _ => rfl)) (pa_cons (pe_ix (ix_listK rfl) (pv 1) pe_int (fun _ _ => rfl)) pa_nil)))))))) pss_nil)
        (pss_cons (ps_if (pt_cmpR op_eq (pv 2) pe_int (nomark _)) (pss_one (ps_ret (pe_df d_record_deed (hr.mono (by decide)) rfl (pa_cons (pv 0) (pa_cons (pe_tup (pa_cons (pe_cst T.c_DISPOSAL) (pa_cons (pe_ix (ix_listK rfl) (pv 1) pe_int (fun _ _ => rfl)) (pa_cons (pe_ix (ix_listK rfl) (pv 1) pe_int (fun _ _ => rfl)) (pa_cons (pe_ix (ix_listK rfl) (pv 1) pe_int (fun _ _ => rfl)) (pa_cons (pe_ix (ix_listK rfl) (pv 1) pe_int (fun _ _ => rfl)) pa_nil)))))) pa_nil))))) pss_nil)
        (pss_one (ps_ret (pe_df d_cancel_record (hr.mono (by decide)) rfl (pa_cons (pv 0) (pa_cons (pe_ix (ix_listK rfl) (pv 1) pe_int (fun _ _ => rfl)) pa_nil))))))))))), fun k => ?_⟩
  obtain ⟨st, c⟩ := i
  obtain ⟨wf, hc⟩ := hpre
  have wf : WF st := wf
  have hc : chg6 c := hc
  have k : RtM C H _ p pa ra (Valdgg.step st c) := k
  show Go H [.sh (Bko.mk (C := C) p pa ra st), .sh (enc c), .any] _ _
  cases c with
  | addInvestor =>
    refine q_set (a := (0 : Int)) (x_ix (x_var (a := enc .addInvestor) rfl) (x_int (n := 0)) (j := 0) rfl) (q_yes rfl ?_)
    exact g_retM (i := st) rfl xa_nil wf k
  | addCompany =>
    refine q_set (a := (1 : Int)) (x_ix (x_var (a := enc .addCompany) rfl) (x_int (n := 0)) (j := 0) rfl) (q_no rfl (by decide) (q_yes rfl ?_))
    exact g_retM (i := st) rfl xa_nil wf k
  | acquire d o cc q =>
    have hx : ∀ (S : List Sl), S[1]? = some (.sh (enc (.acquire d o cc q))) → ∀ (j : Nat) (n : Int), (enc (.acquire d o cc q))[j]? = some n → XD H S (tOp (rIxL K) (tVar 1) (tC (.int j))) n := fun S z j n e => x_ix (x_var z) x_int e
    refine q_set (a := (2 : Int)) (hx _ rfl 0 _ rfl) (q_no rfl (by decide) (q_no rfl (by decide) (q_yes rfl ?_)))
    have e : Valdgg.step st (.acquire d o cc q) = dealR st 0 d o cc q := deal_is wf 0 d o cc q
    rw [e] at k
    exact g_retM (i := (st, 0, d, o, cc, q)) rfl (xa_cons (x_tup (l := [0, d, o, cc, q]) (xa_cons x_int (xa_cons (hx _ rfl 1 _ rfl) (xa_cons (hx _ rfl 2 _ rfl) (xa_cons (hx _ rfl 3 _ rfl) (xa_cons (hx _ rfl 4 _ rfl) xa_nil)))))).d xa_nil) ⟨wf, .inl rfl⟩ k
  | previewAcquire d o cc q =>
    have hx : ∀ (S : List Sl), S[1]? = some (.sh (enc (.previewAcquire d o cc q))) → ∀ (j : Nat) (n : Int), (enc (.previewAcquire d o cc q))[j]? = some n → XD H S (tOp (rIxL K) (tVar 1) (tC (.int j))) n := fun S z j n e => x_ix (x_var z) x_int e
    refine q_set (a := (3 : Int)) (hx _ rfl 0 _ rfl) (q_no rfl (by decide) (q_no rfl (by decide) (q_no rfl (by decide) (q_yes rfl ?_))))
    exact g_retK hbk (x_cN (st, d, o, cc, q) (xa_cons (x_var (a := Bko.mk (C := C) p pa ra st) rfl).b (xa_cons (hx _ rfl 1 _ rfl) (xa_cons (hx _ rfl 2 _ rfl) (xa_cons (hx _ rfl 3 _ rfl) (xa_cons (hx _ rfl 4 _ rfl) xa_nil))))) wf) k
  | dispose d o cc q =>
    have hx : ∀ (S : List Sl), S[1]? = some (.sh (enc (.dispose d o cc q))) → ∀ (j : Nat) (n : Int), (enc (.dispose d o cc q))[j]? = some n → XD H S (tOp (rIxL K) (tVar 1) (tC (.int j))) n := fun S z j n e => x_ix (x_var z) x_int e
    refine q_set (a := (4 : Int)) (hx _ rfl 0 _ rfl) (q_no rfl (by decide) (q_no rfl (by decide) (q_no rfl (by decide) (q_no rfl (by decide) (q_yes rfl ?_)))))
    have e : Valdgg.step st (.dispose d o cc q) = dealR st 1 d o cc q := deal_is wf 1 d o cc q
    rw [e] at k
    exact g_retM (i := (st, 1, d, o, cc, q)) rfl (xa_cons (x_tup (l := [1, d, o, cc, q]) (xa_cons x_int (xa_cons (hx _ rfl 1 _ rfl) (xa_cons (hx _ rfl 2 _ rfl) (xa_cons (hx _ rfl 3 _ rfl) (xa_cons (hx _ rfl 4 _ rfl) xa_nil)))))).d xa_nil) ⟨wf, .inr rfl⟩ k
  | cancelRecord q =>
    have hx : ∀ (S : List Sl), S[1]? = some (.sh (enc (.cancelRecord q))) → ∀ (j : Nat) (n : Int), (enc (.cancelRecord q))[j]? = some n → XD H S (tOp (rIxL K) (tVar 1) (tC (.int j))) n := fun S z j n e => x_ix (x_var z) x_int e
    refine q_set (a := (5 : Int)) (hx _ rfl 0 _ rfl) (q_no rfl (by decide) (q_no rfl (by decide) (q_no rfl (by decide) (q_no rfl (by decide) (q_no rfl (by decide) ?_)))))
    exact g_retM (i := (st, q)) rfl (xa_cons (hx _ rfl 1 _ rfl) xa_nil) wf k
  | _ => exact hc.elim
theorem x_3 {He : Hp} {S : List Sl} {l : List Int} {a b c : Int} (h : S[1]? = some (.sh l)) (h1 : l[1]? = some a) (h2 : l[2]? = some b) (h3 : l[3]? = some c) : XA He S (tCons (tOp (rIxL K) (tVar 1) (tC (.int 1))) (tCons (tOp (rIxL K) (tVar 1) (tC (.int 2))) (tCons (tOp (rIxL K) (tVar 1) (tC (.int 3))) tNil))) [.sh a, .sh b, .sh c] :=
  xa_cons (x_ix (x_var h) (x_int (n := 1)) (j := 1) h1) (xa_cons (x_ix (x_var h) (x_int (n := 2)) (j := 2) h2) (xa_cons (x_ix (x_var h) (x_int (n := 3)) (j := 3) h3) xa_nil))
def sp_answer_question (C : Addr) : Sp := SpN (ι := VS × Valdgg.Call) (fun i => [.sh (bk C i.1), .sh (enc i.2)]) (fun i => WF i.1 ∧ ask8 i.2) fun i => Valdgg.answerOf i.1 i.2
theorem ok_answer_question (T : Top K mg C) : Df P w K mg base "answer_question" 8 ["book", "call"] (sp_answer_question C) := by
  have d_holders := ok_holders (P := P) (w := w) (base := base) T
  have d_portfolio := ok_portfolio (P := P) (w := w) (base := base) T
  have d_controls := ok_controls (P := P) (w := w) (base := base) T
  have d_control_order := ok_control_order (P := P) (w := w) (base := base) T
  have d_controllers := ok_controllers (P := P) (w := w) (base := base) T
  have d_control_days := ok_control_days (P := P) (w := w) (base := base) T
  have d_float_interest := ok_float_interest (P := P) (w := w) (base := base) T
  have d_restated := ok_restated (P := P) (w := w) (base := base) T
  refine T.f_answer_question.okN sc_answer_question (fun _ => rfl) (fun _ => rfl) ?_
  intro i hpre f cdv A outer s H Q E hr
  refine ⟨_, (pss_cons (ps_set (i := 2) sc_answer_question.nd rfl (Or.inl rfl) (pe_ix (ix_listK rfl) (pv 1) pe_int (fun _ _ => rfl)))
        (pss_cons (ps_if (pt_cmpR op_eq (pv 2) pe_int (nomark _)) (pss_one (ps_ret (pe_df d_holders (hr.mono (by decide)) rfl (pa_cons (pv 0) (pa_cons (pe_ix (ix_listK rfl) (pv 1) pe_int (fun _ _ => rfl)) (pa_cons (pe_ix (ix_listK rfl) (pv 1) pe_int (fun _ _ => rfl)) (pa_cons (pe_ix (ix_listK rfl) (pv 1) pe_int (fun _ _ => rfl)) pa_nil))))))) pss_nil)
        (pss_cons (ps_if (pt_cmpR op_eq (pv 2) pe_int (nomark _)) (pss_one (ps_ret (pe_df d_portfolio (hr.mono (by decide)) rfl (pa_cons (pv 0) (pa_cons (pe_ix (ix_listK rfl) (pv 1) pe_int (fun _ _ => rfl)) (pa_cons (pe_ix (ix_listK rfl) (pv 1) pe_int (fun _ _ => rfl)) (pa_cons (pe_ix (ix_listK rfl) (pv 1) pe_int (fun _ _ => rfl)) pa_nil))))))) pss_nil)
        (pss_cons (ps_if (pt_cmpR op_eq (pv 2) pe_int (nomark _)) (pss_one (ps_ret (pe_df d_controls (hr.mono (by decide)) rfl (pa_cons (pv 0) (pa_cons (pe_ix (ix_listK rfl) (pv 1) pe_int (fun _ _ => rfl)) (pa_cons (pe_ix (ix_listK rfl) (pv 1) pe_int (fun _ _ => rfl)) (pa_cons (pe_ix (ix_listK rfl) (pv 1) pe_int (fun _ _ => rfl)) pa_nil))))))) pss_nil)
        (pss_cons (ps_if (pt_cmpR op_eq (pv 2) pe_int (nomark _)) (pss_one (ps_ret (pe_df d_control_order (hr.mono (by decide)) rfl (pa_cons (pv 0) (pa_cons (pe_ix (ix_listK rfl) (pv 1) pe_int (fun _ _ => rfl)) (pa_cons (pe_ix (ix_listK rfl) (pv 1) pe_int (fun _ _ => rfl)) (pa_cons (pe_ix (ix_listK rfl) (pv 1) pe_int (fun _ _ => rfl)) pa_nil))))))) pss_nil)
        (pss_cons (ps_if (pt_cmpR op_eq (pv 2) pe_int (nomark _)) (pss_one (ps_ret (pe_df d_controllers (hr.mono (by decide)) rfl (pa_cons (pv 0) (pa_cons (pe_ix (ix_listK rfl) (pv 1) pe_int (fun _ _ => rfl)) (pa_cons (pe_ix (ix_listK rfl) (pv 1) pe_int (fun _ _ => rfl)) (pa_cons (pe_ix (ix_listK rfl) (pv 1) pe_int (fun _ _ => rfl)) pa_nil))))))) pss_nil)
        (pss_cons (ps_if (pt_cmpR op_eq (pv 2) pe_int (nomark _)) (pss_one (ps_ret (pe_df d_control_days (hr.mono (by decide)) rfl (pa_cons (pv 0) (pa_cons (pe_ix (ix_listK rfl) (pv 1) pe_int (fun _ _ => rfl)) (pa_cons (pe_ix (ix_listK rfl) (pv 1) pe_int (fun _ _ => rfl)) (pa_cons (pe_ix (ix_listK rfl) (pv 1) pe_int (fun _ _ => rfl)) pa_nil))))))) pss_nil)
        (pss_cons (ps_if (pt_cmpR op_eq (pv 2) pe_int (nomark _)) (pss_one (ps_ret (pe_df d_float_interest (hr.mono (by decide)) rfl (pa_cons (pv 0) (pa_cons (pe_ix (ix_listK rfl) (pv 1) pe_int (fun _ _ => rfl)) (pa_cons (pe_ix (ix_listK rfl) (pv 1) pe_int (fun _ _ => rfl)) (pa_cons (pe_ix (ix_listK rfl) (pv 1) pe_int (fun _ _ => rfl)) pa_nil))))))) pss_nil)
        (pss_one (ps_ret (pe_df d_restated (hr.mono (by decide)) rfl (pa_cons (pv 0) (pa_cons (pe_ix (ix_listK rfl) (pv 1) pe_int (fun _ _ => rfl)) (pa_cons (pe_ix (ix_listK rfl) (pv 1) pe_int (fun _ _ => rfl)) (pa_cons (pe_ix (ix_listK rfl) (pv 1) pe_int (fun _ _ => rfl)) pa_nil))))))))))))))), fun k => ?_⟩
  obtain ⟨st, c⟩ := i
  obtain ⟨wf, hc⟩ := hpre
  have wf : WF st := wf
  have hc : ask8 c := hc
  have k : RetN H Q (Valdgg.answerOf st c) := k
  show Go H [.sh (bk C st), .sh (enc c), .any] _ _
  have hx : ∀ n r, enc c = n :: r → XD H [.sh (bk C st), .sh (enc c), .any] (tOp (rIxL K) (tVar 1) (tC (.int 0))) n := fun n r e => x_ix (x_var rfl) (x_int (n := 0)) (j := 0) (by rw [e]; rfl)
  cases c with
  | holders a b q =>
    refine q_set (hx 6 _ rfl) (q_yes rfl ?_)
    exact g_retN (x_cN (st, a, b, q) (xa_cons (x_var rfl) (x_3 (l := enc (.holders a b q)) rfl rfl rfl rfl)) wf) k
  | portfolio a b q =>
    refine q_set (hx 7 _ rfl) (q_no rfl (by decide) (q_yes rfl ?_))
    exact g_retN (x_cN (st, a, b, q) (xa_cons (x_var rfl) (x_3 (l := enc (.portfolio a b q)) rfl rfl rfl rfl)) wf) k
  | controls a b q =>
    refine q_set (hx 8 _ rfl) (q_no rfl (by decide) (q_no rfl (by decide) (q_yes rfl ?_)))
    exact g_retN (x_cN (st, a, b, q) (xa_cons (x_var rfl) (x_3 (l := enc (.controls a b q)) rfl rfl rfl rfl)) wf) k
  | controlOrder a b q =>
    refine q_set (hx 9 _ rfl) (q_no rfl (by decide) (q_no rfl (by decide) (q_no rfl (by decide) (q_yes rfl ?_))))
    exact g_retN (x_cN (st, a, b, q) (xa_cons (x_var rfl) (x_3 (l := enc (.controlOrder a b q)) rfl rfl rfl rfl)) wf) k
  | controllers a b q =>
    refine q_set (hx 10 _ rfl) (q_no rfl (by decide) (q_no rfl (by decide) (q_no rfl (by decide) (q_no rfl (by decide) (q_yes rfl ?_)))))
    exact g_retN (x_cN (st, a, b, q) (xa_cons (x_var rfl) (x_3 (l := enc (.controllers a b q)) rfl rfl rfl rfl)) wf) k
  | controlDays a b q =>
    refine q_set (hx 11 _ rfl) (q_no rfl (by decide) (q_no rfl (by decide) (q_no rfl (by decide) (q_no rfl (by decide) (q_no rfl (by decide) (q_yes rfl ?_))))))
    exact g_retN (x_cN (st, a, b, q) (xa_cons (x_var rfl) (x_3 (l := enc (.controlDays a b q)) rfl rfl rfl rfl)) wf) k
  | floatInterest a b q =>
    refine q_set (hx 13 _ rfl) (q_no rfl (by decide) (q_no rfl (by decide) (q_no rfl (by decide) (q_no rfl (by decide) (q_no rfl (by decide) (q_no rfl (by decide) (q_yes rfl ?_)))))))
    exact g_retN (x_cN (st, a, b, q) (xa_cons (x_var rfl) (x_3 (l := enc (.floatInterest a b q)) rfl rfl rfl rfl)) wf) k
  | restated a b q =>
    refine q_set (hx 15 _ rfl) (q_no rfl (by decide) (q_no rfl (by decide) (q_no rfl (by decide) (q_no rfl (by decide) (q_no rfl (by decide) (q_no rfl (by decide) (q_no rfl (by decide) ?_)))))))
    exact g_retN (x_cN (st, a, b, q) (xa_cons (x_var rfl) (x_3 (l := enc (.restated a b q)) rfl rfl rfl rfl)) wf) k
  | _ => exact hc.elim
end
end Cr
namespace Cr
open PySem PySem.Spec PyProof.Rows L2 Evl
section
variable {P : Program} {w : World} {K : PySem.W.Frag} {mg : Str → Option Value} {base : Heap} {C : Addr}
theorem x_4 {He : Hp} {S : List Sl} {l : List Int} {a b c d : Int} (h : S[1]? = some (.sh l)) (h1 : l[1]? = some a) (h2 : l[2]? = some b) (h3 : l[3]? = some c) (h4 : l[4]? = some d) : XA He S (tCons (tOp (rIxL K) (tVar 1) (tC (.int 1))) (tCons (tOp (rIxL K) (tVar 1) (tC (.int 2))) (tCons (tOp (rIxL K) (tVar 1) (tC (.int 3))) (tCons (tOp (rIxL K) (tVar 1) (tC (.int 4))) tNil)))) [.sh a, .sh b, .sh c, .sh d] :=
  xa_cons (x_ix (x_var h) (x_int (n := 1)) (j := 1) h1) (xa_cons (x_ix (x_var h) (x_int (n := 2)) (j := 2) h2) (xa_cons (x_ix (x_var h) (x_int (n := 3)) (j := 3) h3) (xa_cons (x_ix (x_var h) (x_int (n := 4)) (j := 4) h4) xa_nil)))
theorem q_gt {He : Hp} {S : List Sl} {D : Ends} {ts tz : TS} {m : Nat} {x n : Int} (hm : S[m]? = some (.sh x)) (hb : decide (x ≤ n) = false) (k : Go He S tz D) : Go He S (tSeq (tIfS (tTest (tOp (rI0 fun i j => .bl (decide (i ≤ j))) (tVar m) (tC (.int n)))) ts tNext) tz) D := q_skip (t_test (x_le (x_var hm) x_int)) hb k
theorem q_le {He : Hp} {S : List Sl} {D : Ends} {ts tz : TS} {m : Nat} {x n : Int} (hm : S[m]? = some (.sh x)) (hb : decide (x ≤ n) = true) (k : Go He S ts { D with nx := tz D }) : Go He S (tSeq (tIfS (tTest (tOp (rI0 fun i j => .bl (decide (i ≤ j))) (tVar m) (tC (.int n)))) ts tNext) tz) D := q_take (t_test (x_le (x_var hm) x_int)) hb k
def sp_answer_call (C : Addr) : Sp := SpM C (ι := VS × Valdgg.Call) (fun i => [.sh (enc i.2)]) (fun i => i.1) (fun i => WF i.1 ∧ short i.2) fun i => Valdgg.step i.1 i.2
theorem ok_answer_call (T : Top K mg C) : Df P w K mg base "answer_call" 9 ["book", "call"] (sp_answer_call C) := by
  have d_answer_change := ok_answer_change (P := P) (w := w) (base := base) T
  have d_interest := ok_interest (P := P) (w := w) (base := base) T
  have d_method_of := ok_method_of (P := P) (w := w) (base := base) T
  have d_cheapest_control := ok_cheapest_control (P := P) (w := w) (base := base) T
  have d_status := ok_status (P := P) (w := w) (base := base) T
  have d_answer_question := ok_answer_question (P := P) (w := w) (base := base) T
  refine T.f_answer_call.okM sc_answer_call (fun _ => rfl) (fun _ => rfl) ?_
  intro i hpre f cdv A outer s H p pa ra Q E hr hbk
  refine ⟨_, (pss_cons (ps_set (i := 2) sc_answer_call.nd rfl (Or.inl rfl) (pe_ix (ix_listK rfl) (pv 1) pe_int (fun _ _ => rfl)))
        (pss_cons (ps_if (pt_cmpR op_le (pv 2) pe_int (nomark _)) (pss_one (ps_ret (pe_df d_answer_change (hr.mono (by decide)) rfl (pa_cons (pv 0) (pa_cons (pv 1) pa_nil))))) pss_nil)
        (pss_cons (ps_if (pt_cmpR op_eq (pv 2) pe_int (nomark _)) (pss_one (ps_ret (pe_df d_interest (hr.mono (by decide)) rfl (pa_cons (pv 0) (pa_cons (pe_ix (ix_listK rfl) (pv 1) pe_int (fun _ _ => rfl)) (pa_cons (pe_ix (ix_listK rfl) (pv 1) pe_int (fun _ _ => rfl)) (pa_cons (pe_ix (ix_listK rfl) (pv 1) pe_int (fun _ _ => rfl)) (pa_cons (pe_ix (ix_listK rfl) (pv 1) pe_int (fun _ _ => rfl)) pa_nil)))))))) pss_nil)
        (pss_cons (ps_if (pt_cmpR op_eq (pv 2) pe_int (nomark _)) (pss_one (ps_ret (pe_df d_method_of (hr.mono (by decide)) rfl (pa_cons (pv 0) (pa_cons (pe_ix (ix_listK rfl) (pv 1) pe_int (fun _ _ => rfl)) (pa_cons (pe_ix (ix_listK rfl) (pv 1) pe_int (fun _ _ => rfl)) (pa_cons (pe_ix (ix_listK rfl) (pv 1) pe_int (fun _ _ => rfl)) (pa_cons (pe_ix (ix_listK rfl) (pv 1) pe_int (fun _ _ => rfl)) pa_nil)))))))) pss_nil)
        (pss_cons (ps_if (pt_cmpR op_eq (pv 2) (pe_cst T.c_CHEAPEST_CONTROL) (nomark _)) (pss_one (ps_ret (pe_df d_cheapest_control (hr.mono (by decide)) rfl (pa_cons (pv 0) (pa_cons (pe_ix (ix_listK rfl) (pv 1) pe_int (fun _ _ => rfl)) (pa_cons (pe_ix (ix_listK rfl) (pv 1) pe_int (fun _ _ => rfl)) (pa_cons (pe_ix (ix_listK rfl) (pv 1) pe_int (fun _ _ => rfl)) (pa_cons (pe_slice sl_list (pv 1) (po_some pe_int) po_none) pa_nil)))))))) pss_nil)
        (pss_cons (ps_if (pt_cmpR op_eq (pv 2) pe_int (nomark _)) (pss_one (ps_ret (pe_df d_status (hr.mono (by decide)) rfl (pa_cons (pv 0) pa_nil)))) pss_nil)
        (pss_one (ps_ret (pe_df d_answer_question (hr.mono (by decide)) rfl (pa_cons (pv 0) (pa_cons (pv 1) pa_nil))))))))))), fun k => ?_⟩
  obtain ⟨st, c⟩ := i
  obtain ⟨wf, hs⟩ := hpre
  have wf : WF st := wf
  have hs : short c := hs
  have k : RtM C H _ p pa ra (Valdgg.step st c) := k
  show Go H [.sh (Bko.mk (C := C) p pa ra st), .sh (enc c), .any] _ _
  have hx : ∀ n r, enc c = n :: r → XD H [.sh (Bko.mk (C := C) p pa ra st), .sh (enc c), .any] (tOp (rIxL K) (tVar 1) (tC (.int 0))) n := fun n r e => x_ix (x_var rfl) (x_int (n := 0)) (j := 0) (by rw [e]; rfl)
  have hbb : ∀ S : List Sl, S[0]? = some (.sh (Bko.mk (C := C) p pa ra st)) → XD H S (tVar 0) (bk C st) := fun S z => (x_var (a := Bko.mk (C := C) p pa ra st) z).b
  have hch : ∀ n r, enc c = n :: r → ∀ tz : TS, decide (n ≤ 5) = true → chg6 c → Go H [.sh (Bko.mk (C := C) p pa ra st), .sh (enc c), .sh n] (tSeq (tIfS (tTest (tOp (rI0 fun i j => .bl (decide (i ≤ j))) (tVar 2) (tC (.int 5)))) (tRet (tCall (sp_answer_change C) [] E0 (tCons (tVar 0) (tCons (tVar 1) tNil)))) tNext) tz) { nx := fun _ H' => Q .non H', rt := Q } := fun n r e tz hb h6 => q_le rfl hb (g_retM (i := (st, c)) rfl (xa_cons (x_var rfl) xa_nil) ⟨wf, h6⟩ k)
  have hqu : ask8 c → ∀ n : Int, Go H [.sh (Bko.mk (C := C) p pa ra st), .sh (enc c), .sh n] (tRet (tCall (sp_answer_question C) [] E0 (tCons (tVar 0) (tCons (tVar 1) tNil)))) { nx := fun _ H' => Q .non H', rt := Q } := fun h8 n => g_retK hbk (x_cN (st, c) (xa_cons (hbb _ rfl) (xa_cons (x_var rfl) xa_nil)) ⟨wf, h8⟩) (by
    have e : Valdgg.step st c = (st, Valdgg.answerOf st c) := by
      cases c <;> first | rfl | exact h8.elim
    rw [e] at k; exact k)
  cases c with
  | addInvestor => exact q_set (hx 0 _ rfl) (hch 0 _ rfl _ (by decide) trivial)
  | addCompany => exact q_set (hx 1 _ rfl) (hch 1 _ rfl _ (by decide) trivial)
  | acquire a b d e => exact q_set (hx 2 _ rfl) (hch 2 _ rfl _ (by decide) trivial)
  | previewAcquire a b d e => exact q_set (hx 3 _ rfl) (hch 3 _ rfl _ (by decide) trivial)
  | dispose a b d e => exact q_set (hx 4 _ rfl) (hch 4 _ rfl _ (by decide) trivial)
  | cancelRecord a => exact q_set (hx 5 _ rfl) (hch 5 _ rfl _ (by decide) trivial)
  | holders a b q => exact q_set (hx 6 _ rfl) (q_gt rfl (by decide) (q_no rfl (by decide) (q_no rfl (by decide) (q_no rfl (by decide) (q_no rfl (by decide) (hqu trivial 6))))))
  | portfolio a b q => exact q_set (hx 7 _ rfl) (q_gt rfl (by decide) (q_no rfl (by decide) (q_no rfl (by decide) (q_no rfl (by decide) (q_no rfl (by decide) (hqu trivial 7))))))
  | controls a b q => exact q_set (hx 8 _ rfl) (q_gt rfl (by decide) (q_no rfl (by decide) (q_no rfl (by decide) (q_no rfl (by decide) (q_no rfl (by decide) (hqu trivial 8))))))
  | controlOrder a b q => exact q_set (hx 9 _ rfl) (q_gt rfl (by decide) (q_no rfl (by decide) (q_no rfl (by decide) (q_no rfl (by decide) (q_no rfl (by decide) (hqu trivial 9))))))
  | controllers a b q => exact q_set (hx 10 _ rfl) (q_gt rfl (by decide) (q_no rfl (by decide) (q_no rfl (by decide) (q_no rfl (by decide) (q_no rfl (by decide) (hqu trivial 10))))))
  | controlDays a b q => exact q_set (hx 11 _ rfl) (q_gt rfl (by decide) (q_no rfl (by decide) (q_no rfl (by decide) (q_no rfl (by decide) (q_no rfl (by decide) (hqu trivial 11))))))
  | floatInterest a b q => exact q_set (hx 13 _ rfl) (q_gt rfl (by decide) (q_no rfl (by decide) (q_no rfl (by decide) (q_no rfl (by decide) (q_no rfl (by decide) (hqu trivial 13))))))
  | restated a b q => exact q_set (hx 15 _ rfl) (q_gt rfl (by decide) (q_no rfl (by decide) (q_no rfl (by decide) (q_no rfl (by decide) (q_no rfl (by decide) (hqu trivial 15))))))
  | interest a b d e =>
    refine q_set (hx 12 _ rfl) (q_gt rfl (by decide) (q_yes rfl ?_))
    exact g_retK hbk (x_cN (st, a, b, d, e) (xa_cons (hbb _ rfl) (x_4 (l := enc (.interest a b d e)) rfl rfl rfl rfl rfl)) wf) k
  | method a b d e =>
    refine q_set (hx 14 _ rfl) (q_gt rfl (by decide) (q_no rfl (by decide) (q_yes rfl ?_)))
    exact g_retK hbk (x_cN (st, a, b, d, e) (xa_cons (hbb _ rfl) (x_4 (l := enc (.method a b d e)) rfl rfl rfl rfl rfl)) wf) k
  | cheapestControl a b d l =>
    have hl := hs a b d l rfl
    refine q_set (hx 16 _ rfl) (q_gt rfl (by decide) (q_no rfl (by decide) (q_no rfl (by decide) (q_yes rfl ?_))))
    refine g_retK hbk (x_cN (st, a, b, d, l) (xa_cons (hbb _ rfl) (xa_cons (x_ix (x_var (a := enc (.cheapestControl a b d l)) rfl) (x_int (n := 1)) (j := 1) rfl) (xa_cons (x_ix (x_var (a := enc (.cheapestControl a b d l)) rfl) (x_int (n := 2)) (j := 2) rfl) (xa_cons (x_ix (x_var (a := enc (.cheapestControl a b d l)) rfl) (x_int (n := 3)) (j := 3) rfl) (xa_cons (XD.eq (x_slFrom (lo := 5) (x_var (a := enc (.cheapestControl a b d l)) rfl) (x_int (n := 5)) ?_).d rfl) xa_nil))))) ⟨wf, ?_⟩) k
    · show 5 ≤ ([16, a, b, d, (l.length : Int)] ++ l).length
      rw [List.length_append]
      show 5 ≤ 5 + _
      omega
    · show l.length < 100000
      omega
  | status =>
    refine q_set (hx 17 _ rfl) (q_gt rfl (by decide) (q_no rfl (by decide) (q_no rfl (by decide) (q_no rfl (by decide) (q_yes rfl ?_)))))
    exact g_retK hbk (x_cN st (xa_cons (hbb _ rfl) xa_nil) wf) k
/-! ### where a call ends -/
def opn : Valdgg.Call → Nat
  | .addInvestor => 0
  | .addCompany => 1
  | .acquire _ _ _ _ => 2
  | .previewAcquire _ _ _ _ => 3
  | .dispose _ _ _ _ => 4
  | .cancelRecord _ => 5
  | .holders _ _ _ => 6
  | .portfolio _ _ _ => 7
  | .controls _ _ _ => 8
  | .controlOrder _ _ _ => 9
  | .controllers _ _ _ => 10
  | .controlDays _ _ _ => 11
  | .interest _ _ _ _ => 12
  | .floatInterest _ _ _ => 13
  | .method _ _ _ _ => 14
  | .restated _ _ _ => 15
  | .cheapestControl _ _ _ _ => 16
  | .status => 17
def argT : List Int := [0, 0, 4, 4, 4, 1, 3, 3, 3, 3, 3, 3, 4, 3, 4, 3, 3, 0]
theorem enc_head (c : Valdgg.Call) : ∃ r, enc c = ((opn c : Nat) : Int) :: r := by
  cases c <;> exact ⟨_, rfl⟩
theorem enc_len (c : Valdgg.Call) (h : opn c ≠ 16) : ∃ n : Nat, argT[opn c]? = some (n : Int) ∧ (enc c).length = 1 + n := by
  cases c <;> first | exact ⟨0, rfl, rfl⟩ | exact ⟨1, rfl, rfl⟩ | exact ⟨3, rfl, rfl⟩ | exact ⟨4, rfl, rfl⟩ | exact absurd rfl h
theorem enc_16 {c : Valdgg.Call} (h : opn c = 16) : ∃ a b d l, c = .cheapestControl a b d l := by
  cases c <;> first | exact ⟨_, _, _, _, rfl⟩ | (simp [opn] at h; done)
theorem enc_pos (c : Valdgg.Call) : 0 < (enc c).length := by
  obtain ⟨r, e⟩ := enc_head c
  rw [e]; exact Nat.succ_pos _
theorem at_app {a b c : List Int} {j : Nat} {n : Int} (h : b[j]? = some n) : (a ++ (b ++ c))[a.length + j]? = some n := by
  have hj := (List.getElem?_eq_some_iff.mp h).1
  rw [List.getElem?_append_right (by omega), Nat.add_sub_cancel_left, List.getElem?_append_left hj]
  exact h
def sp_call_end (K : PySem.W.Frag) : Sp := SpD (ι := List Int × Valdgg.Call × List Int) (fun i => [.sh (Cl.mk (K := K) (i.1 ++ (enc i.2.1 ++ i.2.2))), .sh i.1.length]) (fun _ => True) fun i => i.1.length + (enc i.2.1).length
theorem ok_call_end (T : Top K mg C) : Df P w K mg base "call_end" 1 ["calls", "at"] (sp_call_end K) := by
  obtain ⟨aA, gA, hA⟩ := T.cA
  refine T.f_call_end.okD sc_call_end (fun _ => rfl) (fun _ => rfl) ?_
  intro i hpre f cdv A outer s H Q E hr
  refine ⟨_, (pss_cons (ps_set (i := 2) sc_call_end.nd rfl (Or.inl rfl) (pe_op op_add (pe_op op_add (pv 1) pe_int) (pe_ix (ix_tupK rfl) (pe_glob (v := V.ref aA) rfl gA rfl) (pe_ix (ix_listK rfl) (pv 0) (pv 1) (fun _ _ => rfl)) (fun _ _ => rfl))))
        (pss_cons (ps_if (pt_cmpR op_eq (pe_ix (ix_listK rfl) (pv 0) (pv 1) (fun _ _ => rfl)) (pe_cst T.c_CHEAPEST_CONTROL) (nomark _)) (pss_one (ps_ret (pe_op op_add (pe_op op_add (pv 2) pe_int) (pe_ix (ix_listK rfl) (pv 0) (pv 2) (fun _ _ => rfl))))) pss_nil)
        (pss_one (ps_ret (pv 2))))), fun k => ?_⟩
  obtain ⟨a, c, b⟩ := i
  have k : Ret H Q (a.length + (enc c).length) := k
  show Go H [.sh (Cl.mk (K := K) (a ++ (enc c ++ b))), .sh a.length, .any] _ _
  obtain ⟨r, er⟩ := enc_head c
  have h0 : (a ++ (enc c ++ b))[a.length]? = some ((opn c : Nat) : Int) := at_app (j := 0) (by rw [er]; rfl)
  have hx : ∀ S : List Sl, S[0]? = some (.sh (Cl.mk (K := K) (a ++ (enc c ++ b)))) → S[1]? = some (.sh a.length) → XD H S (tOp (rIxL K) (tVar 0) (tVar 1)) ((opn c : Nat) : Int) := fun S z1 z2 => x_ixC (x_var z1) (x_var (a := a.length) z2).up h0
  have hargs : ∀ (S : List Sl) (te : TE) (n : Int), XD H S te ((opn c : Nat) : Int) → argT[opn c]? = some n → XD H S (tOp (rIxT K) (tC (.ref aA)) te) n := fun S te n h e σ H1 hs Q q => h σ H1 hs _ fun v H2 e2 i2 => ⟨aA, _, ((opn c : Nat) : Int), .int n, rfl, i2, hA H2, atI_nat (by
    show (argT.map V.int)[opn c]? = _
    rw [List.getElem?_map, e]; rfl), q _ H2 e2 rfl⟩
  by_cases h16 : opn c = 16
  · obtain ⟨d, p, t, l, rfl⟩ := enc_16 h16
    refine q_set (a := (a.length : Int) + 1 + 3) (x_add (x_add (x_var (a := a.length) rfl).up (x_int (n := 1))) (hargs _ _ 3 (hx _ rfl rfl) rfl)) ?_
    refine q_take (t_test (x_eq (hx _ rfl rfl) x_int)) (decide_eq_true (by show ((16 : Nat) : Int) = 16; rfl)) ?_
    refine g_ret (XD.dn (x_add (x_add (x_var (a := (a.length : Int) + 1 + 3) rfl) (x_int (n := 1))) (x_ixC (j := a.length + 4) (n := (l.length : Int)) (x_var (a := Cl.mk (K := K) (a ++ (enc (.cheapestControl d p t l) ++ b))) rfl) ((x_var (a := (a.length : Int) + 1 + 3) rfl).eq (by show _ = ((a.length + 4 : Nat) : Int); omega)) (at_app (j := 4) rfl))) ?_) k
    show (a.length : Int) + 1 + 3 + 1 + (l.length : Int) = ((a.length + ([16, d, p, t, (l.length : Int)] ++ l).length : Nat) : Int)
    rw [List.length_append]
    show _ = ((a.length + (5 + l.length) : Nat) : Int)
    omega
  · obtain ⟨n, e1, e2⟩ := enc_len c h16
    refine q_set (a := (a.length : Int) + 1 + (n : Int)) (x_add (x_add (x_var (a := a.length) rfl).up (x_int (n := 1))) (hargs _ _ n (hx _ rfl rfl) e1)) ?_
    refine q_skip (t_test (x_eq (hx _ rfl rfl) x_int)) (decide_eq_false (by omega)) ?_
    exact g_ret (XD.dn (x_var (a := (a.length : Int) + 1 + (n : Int)) rfl) (by rw [e2]; omega)) k
end
end Cr
namespace Cr
open PySem PySem.Spec PyProof.Rows L2 Evl
theorem flatC_app (a b : List Valdgg.Call) : flatC (a ++ b) = flatC a ++ flatC b := List.flatMap_append
theorem flatC_one (c : Valdgg.Call) : flatC [c] = enc c := by
  show enc c ++ [] = enc c
  exact List.append_nil _
theorem wf_steps : ∀ (ks : List Valdgg.Call) {s : VS}, WF2 s → WF2 (stepN s ks)
  | [], _, h => h
  | k :: ks, _, h => wf_steps ks (wf2_step h k)
/-- the loop's turns: what stands behind the first calls -/
structure Turn0 (K : PySem.W.Frag) (C : Addr) (He : Hp) (ks : List Valdgg.Call) (p pa ra o : Addr) (j : Nat) (σ : L2.St) (H : Hp) : Prop where
  le : j ≤ ks.length
  hb : HB He [.sh (Cl.mk (K := K) (flatC ks)), .any, .any, .sh (flatC (ks.take j)).length, .any, .any] σ H
  s1 : σ[1]? = some (some (.ref p))
  s2 : σ[2]? = some (some (.ref o))
  bk : BkAt C H p pa ra (stepN Valdgg.start (ks.take j))
  out : H o = some (.lst ((outs Valdgg.start (ks.take j)).map .int))
section
variable {P : Program} {w : World} {K : PySem.W.Frag} {mg : Str → Option Value} {base : Heap} {C : Addr}
def sp_answers (K : PySem.W.Frag) : Sp := fun vs H Q _ => ∃ (c : Addr) (ks : List Valdgg.Call), vs = [.ref c] ∧ SqL K H c ((flatC ks).map .int) ∧ (outs Valdgg.start ks).length ≤ 10000000 ∧ (∀ k ∈ ks, short k) ∧ ∀ v H', Ex H H' → Rep.is H' v (outs Valdgg.start ks) → Q v H'
theorem ok_answers {f : Addr} {fd : FuncData} (F : Fun K "answers" "answers" s_answers f fd) (T : Top K mg C) : FnOk P w K mg base CX0 10 f fd ["calls"] (sp_answers K) := by
  have d_call_end := ok_call_end (P := P) (w := w) (base := base) T
  have d_answer_call := ok_answer_call (P := P) (w := w) (base := base) T
  obtain ⟨fI, fdI, m_init, F_init, b_init⟩ := T.mI
  have d_init := ok_init (P := P) (w := w) (base := base) F_init T
  refine F.ok sc_answers ?_ fun cdv A outer s H vs Q E hr h => ⟨_, (pss_cons (ps_set (i := 1) sc_answers.nd rfl (Or.inl rfl) (pe_make0 m_init d_init (hr.mono (by decide)) rfl T.gC b_init .nil pass0))
        (pss_cons (ps_set (i := 2) sc_answers.nd rfl (Or.inl rfl) (pe_lst pa_nil))
        (pss_cons (ps_set (i := 3) sc_answers.nd rfl (Or.inl rfl) pe_int)
        (pss_cons (ps_while PassesOwn.never (pt_cmpR op_lt (pv 3) (pe_callB call_len_seq (by rfl) T.b_len (by decide +kernel) (pa_cons (pv 0) pa_nil)) (nomark _)) (pss_cons (ps_set (i := 4) sc_answers.nd rfl (Or.inl rfl) (pe_df d_call_end (hr.mono (by decide)) rfl (pa_cons (pv 0) (pa_cons (pv 3) pa_nil))))
        (pss_cons (ps_set (i := 5) sc_answers.nd rfl (Or.inl rfl) (pe_df d_answer_call (hr.mono (by decide)) rfl (pa_cons (pv 1) (pa_cons (pe_slice sl_list (pv 0) (po_some (pv 3)) (po_some (pv 4))) pa_nil))))
        (pss_cons (ps_expr (pe_bm PySem.F.plainAttrs_list PySem.F.slot_list_append PySem.F.type_list_append mt_append (pv 2) (pa_cons (pe_callB call_len_seq (by rfl) T.b_len (by decide +kernel) (pa_cons (pv 5) pa_nil)) pa_nil)))
        (pss_cons (ps_expr (pe_bm PySem.F.plainAttrs_list PySem.F.slot_list_extend PySem.F.type_list_extend mt_extend (pv 2) (pa_cons (pv 5) pa_nil)))
        (pss_one (ps_set (i := 3) sc_answers.nd rfl (Or.inl rfl) (pv 4))))))))
        (pss_one (ps_ret (pv 2))))))), ?_⟩
  · rintro vs H Q E ⟨c, ks, rfl, _⟩
    rfl
  obtain ⟨c, ks, rfl, hc, hz, hsh, k⟩ := h
  have hlen : HL H [.sh (Cl.mk (K := K) (flatC ks))] [.ref c] := ⟨_, [], rfl, ⟨c, rfl, hc⟩, rfl⟩
  -- book = Book()
  intro x dx hx0 hdx ne
  refine ⟨x, dx, rfl, upd_same, fun H1 pa ra hpa hra bk kp => ⟨rfl, ?_⟩⟩
  have ex1 : Ex H H1 := fun b o e => kp b o (by rw [upd_ne (ne_of_none e hx0), upd_ne (ne_of_none e hdx)]; exact e) (ne_of_none e hx0)
  have fr : ∀ q, upd (upd H dx (.own x)) x (.ins C dx []) q = none → H q = none := fun q e => by
    have z1 : q ≠ x := fun z => by subst z; rw [upd_same] at e; cases e
    rw [upd_ne z1] at e
    have z2 : q ≠ dx := fun z => by subst z; rw [upd_same] at e; cases e
    rw [upd_ne z2] at e
    exact e
  have hpa0 := fr pa hpa
  have hra0 := fr ra hra
  -- out = []; at = 0
  refine ⟨by decide, fun o ho => ?_⟩
  have ho0 : H o = none := fresh_back ex1 ho
  have nopa : o ≠ pa := fun z => by subst z; rw [bk.pl] at ho; cases ho
  have nora : o ≠ ra := fun z => by
    subst z
    obtain ⟨xs, d, _⟩ := bk.rl
    rw [d] at ho; cases ho
  have h0 : HB H [.sh (Cl.mk (K := K) (flatC ks)), .any, .any, .sh (flatC (ks.take 0)).length, .any, .any] [some (.ref c), some (.ref x), some (.ref o), some (.int 0), none, none] (upd H1 o (.lst [])) := by
    refine ⟨ex1.trans (Ex.new ho), rfl, fun i sl v h1 h2 => ?_⟩
    match i, h1, h2 with
    | 0, h1, h2 => cases h1; cases h2; exact ⟨_, rfl, c, rfl, hc⟩
    | 1, h1, h2 => cases h1; trivial
    | 2, h1, h2 => cases h1; trivial
    | 3, h1, h2 => cases h1; cases h2; exact ⟨_, rfl, rfl⟩
    | 4, h1, h2 => cases h1; trivial
    | 5, h1, h2 => cases h1; trivial
    | n + 6, h1, h2 => simp at h1
  have t0 : Turn0 K C H ks x pa ra o 0 [some (.ref c), some (.ref x), some (.ref o), some (.int 0), none, none] (upd H1 o (.lst [])) := ⟨Nat.zero_le _, h0, rfl, rfl, bk.mono (Ex.new ho), upd_same⟩
  show tWhile _ _ _ [some (.ref c), some (.ref x), some (.ref o), some (.int 0), none, none] (upd H1 o (.lst []))
  refine ⟨fun m σ' H' => ∃ j, m = ks.length - j ∧ Turn0 K C H ks x pa ra o j σ' H', ⟨_, 0, rfl, t0⟩, ?_⟩
  rintro m σ H2 ⟨j, rfl, t⟩
  obtain ⟨le, hb, s1, s2, bk2, out⟩ := t
  refine t_test (x_lt (x_var (i := 3) (a := (flatC (ks.take j)).length) rfl).up (x_lenC (x_var (i := 0) (a := Cl.mk (K := K) (flatC ks)) rfl))) σ H2 hb.holds _ fun H3 e3 => ?_
  have hb3 := hb.mono e3
  have bk3 := bk2.mono e3
  have out3 := e3 _ _ out
  have eW : σ.length = 6 := hb.2.1.symm
  by_cases hj : j < ks.length
  · obtain ⟨cc, hcc⟩ : ∃ cc, ks[j]? = some cc := ⟨_, List.getElem?_eq_getElem hj⟩
    have etk : ks.take (j + 1) = ks.take j ++ [cc] := by rw [List.take_add_one, hcc]; rfl
    have hsp : ks = ks.take (j + 1) ++ ks.drop (j + 1) := (List.take_append_drop _ _).symm
    have efl : flatC ks = flatC (ks.take j) ++ (enc cc ++ flatC (ks.drop (j + 1))) := by
      conv => lhs; rw [hsp, etk]
      rw [flatC_app, flatC_app, flatC_one, List.append_assoc]
    have epos := enc_pos cc
    have elen : (flatC ks).length = (flatC (ks.take j)).length + ((enc cc).length + (flatC (ks.drop (j + 1))).length) := by
      rw [efl, List.length_append, List.length_append]
    have elen1 : (flatC (ks.take (j + 1))).length = (flatC (ks.take j)).length + (enc cc).length := by
      rw [etk, flatC_app, flatC_one, List.length_append]
    have wf := (wf_steps (ks.take j) wf2_start).w
    have hout : outs Valdgg.start (ks.take (j + 1)) = outs Valdgg.start (ks.take j) ++ (((Valdgg.step (stepN Valdgg.start (ks.take j)) cc).2.length : Int) :: (Valdgg.step (stepN Valdgg.start (ks.take j)) cc).2) := by
      rw [etk, outs_snoc]
    have hsz : (outs Valdgg.start (ks.take (j + 1))).length ≤ 10000000 := by
      have := congrArg List.length (outs_app Valdgg.start (ks.take (j + 1)) (ks.drop (j + 1)))
      rw [← hsp, List.length_append] at this
      omega
    have hstep : stepN Valdgg.start (ks.take (j + 1)) = (Valdgg.step (stepN Valdgg.start (ks.take j)) cc).1 := by
      rw [etk, stepN_snoc]
    generalize hat : (flatC (ks.take j)).length = at0 at *
    generalize hans : (Valdgg.step (stepN Valdgg.start (ks.take j)) cc).2 = ans at *
    have hsz2 : (outs Valdgg.start (ks.take j)).length + (1 + ans.length) ≤ 10000000 := by
      rw [hout, List.length_append, List.length_cons] at hsz
      omega
    rw [if_pos (decide_eq_true (by omega))]
    refine ⟨fun σ3 H4 => Turn0 K C H ks x pa ra o (j + 1) σ3 H4, fun σ3 H4 t => ⟨_, by omega, j + 1, rfl, t⟩, ?_⟩
    -- end = call_end(calls, at)
    refine (x_cD (S := [.sh (Cl.mk (K := K) (flatC ks)), .any, .any, .sh at0, .any, .any]) (He := H) (flatC (ks.take j), cc, flatC (ks.drop (j + 1))) (xa_cons (XD.eq (x_var (i := 0) (a := Cl.mk (K := K) (flatC ks)) rfl) (by rw [efl])) (xa_cons (XD.eq (x_var (i := 3) (a := at0) rfl) hat.symm) xa_nil)) trivial) σ H3 hb3.holds _ fun v4 H4 e4 i4 => ?_
    have i4 : v4 = .int ((at0 + (enc cc).length : Nat) : Int) := by
      have := is_nat.mp i4
      rw [this]
      show V.int (((flatC (ks.take j)).length + (enc cc).length : Nat) : Int) = _
      rw [hat]
    subst i4
    show tSeq _ _ _ (σ.set 4 (some (.int ((at0 + (enc cc).length : Nat) : Int)))) H4
    have hb4 := (hb3.mono e4).set 4 (a := at0 + (enc cc).length) (v := .int ((at0 + (enc cc).length : Nat) : Int)) rfl
    have p1 : (σ.set 4 (some (V.int ((at0 + (enc cc).length : Nat) : Int))))[1]? = some (some (.ref x)) := by rw [List.getElem?_set_ne (by decide)]; exact s1
    have p2 : (σ.set 4 (some (V.int ((at0 + (enc cc).length : Nat) : Int))))[2]? = some (some (.ref o)) := by rw [List.getElem?_set_ne (by decide)]; exact s2
    have p4 : (σ.set 4 (some (V.int ((at0 + (enc cc).length : Nat) : Int))))[4]? = some (some (V.int ((at0 + (enc cc).length : Nat) : Int))) := List.getElem?_set_self (by omega)
    have pW : (σ.set 4 (some (V.int ((at0 + (enc cc).length : Nat) : Int)))).length = 6 := by rw [List.length_set]; exact eW
    generalize σ.set 4 (some (V.int ((at0 + (enc cc).length : Nat) : Int))) = σ4 at hb4 p1 p2 p4 pW
    -- answer = answer_call(book, calls[at:end])
    refine ⟨_, p1, (x_slC (K := K) (lo := at0) (hi := at0 + (enc cc).length) (x_var (S := [.sh (Cl.mk (K := K) (flatC ks)), .any, .any, .sh at0, .sh (at0 + (enc cc).length), .any]) (He := H) (i := 0) (a := Cl.mk (K := K) (flatC ks)) rfl) (x_var (i := 3) (a := at0) rfl).up (x_var (i := 4) (a := at0 + (enc cc).length) rfl).up (by omega) (by omega)) σ4 H4 hb4.holds _ fun v5 H5 e5 n5 i5 => ?_⟩
    have ecut : ((flatC ks).drop at0).take (at0 + (enc cc).length - at0) = enc cc := by
      rw [efl, ← hat, List.drop_left, Nat.add_sub_cancel_left, List.take_left]
    rw [ecut] at i5
    have hs6 := hsh cc (List.mem_of_getElem? hcc)
    refine ⟨(stepN Valdgg.start (ks.take j), cc), x, pa, ra, [v5], rfl, ⟨v5, [], rfl, i5, rfl⟩, bk3.mono (e4.trans e5), ⟨wf, hs6⟩, fun v6 H6 kp6 bk6 n6 i6 => ?_⟩
    have i6 : Rep.is H6 v6 ans := hans ▸ i6
    have bk6 : BkAt C H6 x pa ra (stepN Valdgg.start (ks.take (j + 1))) := by rw [hstep]; exact bk6
    have out5 := e5 _ _ (e4 _ _ out3)
    have out6 := kp6 o _ nopa nora out5
    obtain ⟨q, rfl, hq⟩ := ints_of i6
    have hqo : q ≠ o := fun z => by
      subst z
      have := n6 _ rfl
      rw [out5] at this; cases this
    have ex6 : Ex H H6 := fun b u e => kp6 b u (ne_of_none e hpa0) (ne_of_none e hra0) ((hb4.1.trans e5) b u e)
    show tSeq _ _ _ (σ4.set 5 (some (.ref q))) H6
    have hb6 := (hb4.heap rfl ex6).any 5 (some (.ref q))
    have r1 : (σ4.set 5 (some (V.ref q)))[1]? = some (some (.ref x)) := by rw [List.getElem?_set_ne (by decide)]; exact p1
    have r2 : (σ4.set 5 (some (V.ref q)))[2]? = some (some (.ref o)) := by rw [List.getElem?_set_ne (by decide)]; exact p2
    have r4 : (σ4.set 5 (some (V.ref q)))[4]? = some (some (V.int ((at0 + (enc cc).length : Nat) : Int))) := by rw [List.getElem?_set_ne (by decide)]; exact p4
    have r5 : (σ4.set 5 (some (V.ref q)))[5]? = some (some (.ref q)) := List.getElem?_set_self (by omega)
    generalize σ4.set 5 (some (V.ref q)) = σ5 at hb6 r1 r2 r4 r5
    -- out.append(len(answer)); out.extend(answer); at = end
    have sz := sizeLine_eq
    refine ⟨_, r2, Or.inl ⟨rfl, _, SqL.of out6⟩, _, r5, q, _, rfl, Or.inl (SqL.of hq), o, _, _, rfl, rfl, out6, by rw [List.length_map]; omega, ?_⟩
    have hq7 : upd H6 o (.lst ((outs Valdgg.start (ks.take j)).map V.int ++ [V.int ((ans.map V.int).length : Int)])) q = some (.lst (ans.map V.int)) := by rw [upd_ne hqo]; exact hq
    refine ⟨_, r2, Or.inl ⟨rfl, _, SqL.of upd_same⟩, _, r5, o, q, _, _, rfl, rfl, upd_same, hq7, by rw [List.length_append, List.length_map, List.length_map]; simp only [List.length_cons, List.length_nil]; omega, ?_⟩
    refine ⟨_, r4, ?_⟩
    have exo : ∀ (HH : Hp) (ys : List V), Ex H HH → Ex H (upd HH o (.lst ys)) := fun HH ys e => e.mut ho0
    have ex8 := exo _ ((outs Valdgg.start (ks.take j)).map V.int ++ [V.int ((ans.map V.int).length : Int)] ++ ans.map V.int) (exo _ ((outs Valdgg.start (ks.take j)).map V.int ++ [V.int ((ans.map V.int).length : Int)]) ex6)
    have bko : ∀ (HH : Hp) (ys zs : List V), HH o = some (.lst zs) → BkAt C HH x pa ra (stepN Valdgg.start (ks.take (j + 1))) → BkAt C (upd HH o (.lst ys)) x pa ra (stepN Valdgg.start (ks.take (j + 1))) := fun HH ys zs hO b => by
      obtain ⟨b1, ⟨dx', b2⟩, b3, xs, b4, b5⟩ := b
      exact ⟨b1, ⟨dx', by rw [upd_ne (ne_of b2 hO (by intro z; cases z))]; exact b2⟩, by rw [upd_ne (Ne.symm nopa)]; exact b3, xs, by rw [upd_ne (Ne.symm nora)]; exact b4, rep_tup_upd hO b5⟩
    have hb8 := (hb6.heap rfl ex8).set 3 (a := at0 + (enc cc).length) (v := .int ((at0 + (enc cc).length : Nat) : Int)) rfl
    refine ⟨hj, ?_, ?_, ?_, bko _ _ _ upd_same (bko _ _ _ out6 bk6), ?_⟩
    · rw [elen1]
      exact hb8.weak ⟨.inl rfl, .inl rfl, .inl rfl, .inl rfl, .inr rfl, .inl rfl, trivial⟩
    · show (σ5.set 3 _)[1]? = _
      rw [List.getElem?_set_ne (by decide)]; exact r1
    · show (σ5.set 3 _)[2]? = _
      rw [List.getElem?_set_ne (by decide)]; exact r2
    · show upd _ o _ o = _
      rw [upd_same, hout, List.length_map, List.map_append, List.map_cons, List.append_assoc]; rfl
  · have ej : j = ks.length := by omega
    subst ej
    rw [if_neg (by simp)]
    refine ⟨_, s2, k _ H3 hb3.1 (of_ints ?_)⟩
    rw [List.take_length] at out3
    exact out3
end
end Cr
namespace Cr
open PySem PySem.Spec PyProof.Rows L2 Evl
/-! ### what the top has written -/
section
variable {K : PySem.W.Frag} {h : Heap} {mg : Str → Option Value}
theorem cst_mk {x : Str} {n : Int} {t : Tok} (X : K.In h) (G : h.Ns mainGlobals mg) (e : PySem.W.nsIn K mainGlobals x = some (some (Value.int n t))) : ∃ t, mg x = some (Value.int n t) := ⟨t, PySem.W.mg_of X G e⟩
theorem args_mk {a : Addr} {od : Option Addr} {n : Nat} {sl : Array (Option Value)} {t0 t1 t2 t3 t4 t5 t6 t7 t8 t9 t10 t11 t12 t13 t14 t15 t16 t17 : Tok} (X : K.In h) (G : h.Ns mainGlobals mg) (e : PySem.W.nsIn K mainGlobals "ARGUMENTS" = some (some (.ref a)))
    (l : K.lookup a = some ⟨.type "tuple", od, .seq #[.int 0 t0, .int 0 t1, .int 4 t2, .int 4 t3, .int 4 t4, .int 1 t5, .int 3 t6, .int 3 t7, .int 3 t8, .int 3 t9, .int 3 t10, .int 3 t11, .int 4 t12, .int 3 t13, .int 4 t14, .int 3 t15, .int 3 t16, .int 0 t17] n, sl⟩) :
    ∃ a : Addr, mg "ARGUMENTS" = some (.ref a) ∧ ∀ H : Hp, SqT K H a (([0, 0, 4, 4, 4, 1, 3, 3, 3, 3, 3, 3, 4, 3, 4, 3, 3, 0] : List Int).map V.int) :=
  ⟨a, PySem.W.mg_of X G e, fun H => .inr ⟨_, _, n, l, rfl, rfl, (by show 18 ≤ sizeLine; decide), .cons ⟨_, rfl⟩ (.cons ⟨_, rfl⟩ (.cons ⟨_, rfl⟩ (.cons ⟨_, rfl⟩ (.cons ⟨_, rfl⟩ (.cons ⟨_, rfl⟩ (.cons ⟨_, rfl⟩ (.cons ⟨_, rfl⟩ (.cons ⟨_, rfl⟩ (.cons ⟨_, rfl⟩ (.cons ⟨_, rfl⟩ (.cons ⟨_, rfl⟩ (.cons ⟨_, rfl⟩ (.cons ⟨_, rfl⟩ (.cons ⟨_, rfl⟩ (.cons ⟨_, rfl⟩ (.cons ⟨_, rfl⟩ (.cons ⟨_, rfl⟩ .nil)))))))))))))))))⟩⟩
theorem tx_companies_of {f : Addr} {od an : Option Addr} {sl : Array (Option Value)} {oc kV doc pm cdv ct : Value} (X : K.In h) (G : h.Ns mainGlobals mg) (a : PySem.W.nsIn K mainGlobals "companies_of" = some (some (.ref f)))
    (l : K.lookup f = some ⟨oc, od, .func (PySem.W.fnOf "companies_of" "companies_of" (defArgs s_companies_of) (defBody s_companies_of) (defScope s_companies_of) .none kV doc pm an cdv ct), sl⟩) (c : PySem.W.codeIn K cdv "companies_of" = true) (k : PySem.W.keepIn K (.ref f) = true) : Tx K mg "companies_of" s_companies_of ["parties"] :=
  ⟨f, _, fun_mk (st := s_companies_of) l c k, PySem.W.mg_of X G a, (fun_mk (st := s_companies_of) l c k).binds (ps := ["parties"]) fun _ _ _ _ _ _ us hl => match us, hl with | [_], _ => rfl⟩
theorem tx_is_cancelled {f : Addr} {od an : Option Addr} {sl : Array (Option Value)} {oc kV doc pm cdv ct : Value} (X : K.In h) (G : h.Ns mainGlobals mg) (a : PySem.W.nsIn K mainGlobals "is_cancelled" = some (some (.ref f)))
    (l : K.lookup f = some ⟨oc, od, .func (PySem.W.fnOf "is_cancelled" "is_cancelled" (defArgs s_is_cancelled) (defBody s_is_cancelled) (defScope s_is_cancelled) .none kV doc pm an cdv ct), sl⟩) (c : PySem.W.codeIn K cdv "is_cancelled" = true) (k : PySem.W.keepIn K (.ref f) = true) : Tx K mg "is_cancelled" s_is_cancelled ["records", "n", "number"] :=
  ⟨f, _, fun_mk (st := s_is_cancelled) l c k, PySem.W.mg_of X G a, (fun_mk (st := s_is_cancelled) l c k).binds (ps := ["records", "n", "number"]) fun _ _ _ _ _ _ us hl => match us, hl with | [_, _, _], _ => rfl⟩
theorem tx_live_records {f : Addr} {od an : Option Addr} {sl : Array (Option Value)} {oc kV doc pm cdv ct : Value} (X : K.In h) (G : h.Ns mainGlobals mg) (a : PySem.W.nsIn K mainGlobals "live_records" = some (some (.ref f)))
    (l : K.lookup f = some ⟨oc, od, .func (PySem.W.fnOf "live_records" "live_records" (defArgs s_live_records) (defBody s_live_records) (defScope s_live_records) .none kV doc pm an cdv ct), sl⟩) (c : PySem.W.codeIn K cdv "live_records" = true) (k : PySem.W.keepIn K (.ref f) = true) : Tx K mg "live_records" s_live_records ["records", "n"] :=
  ⟨f, _, fun_mk (st := s_live_records) l c k, PySem.W.mg_of X G a, (fun_mk (st := s_live_records) l c k).binds (ps := ["records", "n"]) fun _ _ _ _ _ _ us hl => match us, hl with | [_, _], _ => rfl⟩
theorem tx_record_days {f : Addr} {od an : Option Addr} {sl : Array (Option Value)} {oc kV doc pm cdv ct : Value} (X : K.In h) (G : h.Ns mainGlobals mg) (a : PySem.W.nsIn K mainGlobals "record_days" = some (some (.ref f)))
    (l : K.lookup f = some ⟨oc, od, .func (PySem.W.fnOf "record_days" "record_days" (defArgs s_record_days) (defBody s_record_days) (defScope s_record_days) .none kV doc pm an cdv ct), sl⟩) (c : PySem.W.codeIn K cdv "record_days" = true) (k : PySem.W.keepIn K (.ref f) = true) : Tx K mg "record_days" s_record_days ["live"] :=
  ⟨f, _, fun_mk (st := s_record_days) l c k, PySem.W.mg_of X G a, (fun_mk (st := s_record_days) l c k).binds (ps := ["live"]) fun _ _ _ _ _ _ us hl => match us, hl with | [_], _ => rfl⟩
theorem tx_change_of {f : Addr} {od an : Option Addr} {sl : Array (Option Value)} {oc kV doc pm cdv ct : Value} (X : K.In h) (G : h.Ns mainGlobals mg) (a : PySem.W.nsIn K mainGlobals "change_of" = some (some (.ref f)))
    (l : K.lookup f = some ⟨oc, od, .func (PySem.W.fnOf "change_of" "change_of" (defArgs s_change_of) (defBody s_change_of) (defScope s_change_of) .none kV doc pm an cdv ct), sl⟩) (c : PySem.W.codeIn K cdv "change_of" = true) (k : PySem.W.keepIn K (.ref f) = true) : Tx K mg "change_of" s_change_of ["kind", "percent"] :=
  ⟨f, _, fun_mk (st := s_change_of) l c k, PySem.W.mg_of X G a, (fun_mk (st := s_change_of) l c k).binds (ps := ["kind", "percent"]) fun _ _ _ _ _ _ us hl => match us, hl with | [_, _], _ => rfl⟩
theorem tx_holdings_on {f : Addr} {od an : Option Addr} {sl : Array (Option Value)} {oc kV doc pm cdv ct : Value} (X : K.In h) (G : h.Ns mainGlobals mg) (a : PySem.W.nsIn K mainGlobals "holdings_on" = some (some (.ref f)))
    (l : K.lookup f = some ⟨oc, od, .func (PySem.W.fnOf "holdings_on" "holdings_on" (defArgs s_holdings_on) (defBody s_holdings_on) (defScope s_holdings_on) .none kV doc pm an cdv ct), sl⟩) (c : PySem.W.codeIn K cdv "holdings_on" = true) (k : PySem.W.keepIn K (.ref f) = true) : Tx K mg "holdings_on" s_holdings_on ["parties", "live", "day"] :=
  ⟨f, _, fun_mk (st := s_holdings_on) l c k, PySem.W.mg_of X G a, (fun_mk (st := s_holdings_on) l c k).binds (ps := ["parties", "live", "day"]) fun _ _ _ _ _ _ us hl => match us, hl with | [_, _, _], _ => rfl⟩
theorem tx_held_table {f : Addr} {od an : Option Addr} {sl : Array (Option Value)} {oc kV doc pm cdv ct : Value} (X : K.In h) (G : h.Ns mainGlobals mg) (a : PySem.W.nsIn K mainGlobals "held_table" = some (some (.ref f)))
    (l : K.lookup f = some ⟨oc, od, .func (PySem.W.fnOf "held_table" "held_table" (defArgs s_held_table) (defBody s_held_table) (defScope s_held_table) .none kV doc pm an cdv ct), sl⟩) (c : PySem.W.codeIn K cdv "held_table" = true) (k : PySem.W.keepIn K (.ref f) = true) : Tx K mg "held_table" s_held_table ["book", "day", "n"] :=
  ⟨f, _, fun_mk (st := s_held_table) l c k, PySem.W.mg_of X G a, (fun_mk (st := s_held_table) l c k).binds (ps := ["book", "day", "n"]) fun _ _ _ _ _ _ us hl => match us, hl with | [_, _, _], _ => rfl⟩
theorem tx_held_in {f : Addr} {od an : Option Addr} {sl : Array (Option Value)} {oc kV doc pm cdv ct : Value} (X : K.In h) (G : h.Ns mainGlobals mg) (a : PySem.W.nsIn K mainGlobals "held_in" = some (some (.ref f)))
    (l : K.lookup f = some ⟨oc, od, .func (PySem.W.fnOf "held_in" "held_in" (defArgs s_held_in) (defBody s_held_in) (defScope s_held_in) .none kV doc pm an cdv ct), sl⟩) (c : PySem.W.codeIn K cdv "held_in" = true) (k : PySem.W.keepIn K (.ref f) = true) : Tx K mg "held_in" s_held_in ["table", "members", "company"] :=
  ⟨f, _, fun_mk (st := s_held_in) l c k, PySem.W.mg_of X G a, (fun_mk (st := s_held_in) l c k).binds (ps := ["table", "members", "company"]) fun _ _ _ _ _ _ us hl => match us, hl with | [_, _, _], _ => rfl⟩
theorem tx_all_held {f : Addr} {od an : Option Addr} {sl : Array (Option Value)} {oc kV doc pm cdv ct : Value} (X : K.In h) (G : h.Ns mainGlobals mg) (a : PySem.W.nsIn K mainGlobals "all_held" = some (some (.ref f)))
    (l : K.lookup f = some ⟨oc, od, .func (PySem.W.fnOf "all_held" "all_held" (defArgs s_all_held) (defBody s_all_held) (defScope s_all_held) .none kV doc pm an cdv ct), sl⟩) (c : PySem.W.codeIn K cdv "all_held" = true) (k : PySem.W.keepIn K (.ref f) = true) : Tx K mg "all_held" s_all_held ["table", "company"] :=
  ⟨f, _, fun_mk (st := s_all_held) l c k, PySem.W.mg_of X G a, (fun_mk (st := s_all_held) l c k).binds (ps := ["table", "company"]) fun _ _ _ _ _ _ us hl => match us, hl with | [_, _], _ => rfl⟩
theorem tx_free_float {f : Addr} {od an : Option Addr} {sl : Array (Option Value)} {oc kV doc pm cdv ct : Value} (X : K.In h) (G : h.Ns mainGlobals mg) (a : PySem.W.nsIn K mainGlobals "free_float" = some (some (.ref f)))
    (l : K.lookup f = some ⟨oc, od, .func (PySem.W.fnOf "free_float" "free_float" (defArgs s_free_float) (defBody s_free_float) (defScope s_free_float) .none kV doc pm an cdv ct), sl⟩) (c : PySem.W.codeIn K cdv "free_float" = true) (k : PySem.W.keepIn K (.ref f) = true) : Tx K mg "free_float" s_free_float ["table", "company"] :=
  ⟨f, _, fun_mk (st := s_free_float) l c k, PySem.W.mg_of X G a, (fun_mk (st := s_free_float) l c k).binds (ps := ["table", "company"]) fun _ _ _ _ _ _ us hl => match us, hl with | [_, _], _ => rfl⟩
theorem tx_added_companies {f : Addr} {od an : Option Addr} {sl : Array (Option Value)} {oc kV doc pm cdv ct : Value} (X : K.In h) (G : h.Ns mainGlobals mg) (a : PySem.W.nsIn K mainGlobals "added_companies" = some (some (.ref f)))
    (l : K.lookup f = some ⟨oc, od, .func (PySem.W.fnOf "added_companies" "added_companies" (defArgs s_added_companies) (defBody s_added_companies) (defScope s_added_companies) .none kV doc pm an cdv ct), sl⟩) (c : PySem.W.codeIn K cdv "added_companies" = true) (k : PySem.W.keepIn K (.ref f) = true) : Tx K mg "added_companies" s_added_companies ["table", "companies", "members"] :=
  ⟨f, _, fun_mk (st := s_added_companies) l c k, PySem.W.mg_of X G a, (fun_mk (st := s_added_companies) l c k).binds (ps := ["table", "companies", "members"]) fun _ _ _ _ _ _ us hl => match us, hl with | [_, _, _], _ => rfl⟩
theorem tx_control_rows {f : Addr} {od an : Option Addr} {sl : Array (Option Value)} {oc kV doc pm cdv ct : Value} (X : K.In h) (G : h.Ns mainGlobals mg) (a : PySem.W.nsIn K mainGlobals "control_rows" = some (some (.ref f)))
    (l : K.lookup f = some ⟨oc, od, .func (PySem.W.fnOf "control_rows" "control_rows" (defArgs s_control_rows) (defBody s_control_rows) (defScope s_control_rows) .none kV doc pm an cdv ct), sl⟩) (c : PySem.W.codeIn K cdv "control_rows" = true) (k : PySem.W.keepIn K (.ref f) = true) : Tx K mg "control_rows" s_control_rows ["table", "parties", "party"] :=
  ⟨f, _, fun_mk (st := s_control_rows) l c k, PySem.W.mg_of X G a, (fun_mk (st := s_control_rows) l c k).binds (ps := ["table", "parties", "party"]) fun _ _ _ _ _ _ us hl => match us, hl with | [_, _, _], _ => rfl⟩
theorem tx_controlled_by {f : Addr} {od an : Option Addr} {sl : Array (Option Value)} {oc kV doc pm cdv ct : Value} (X : K.In h) (G : h.Ns mainGlobals mg) (a : PySem.W.nsIn K mainGlobals "controlled_by" = some (some (.ref f)))
    (l : K.lookup f = some ⟨oc, od, .func (PySem.W.fnOf "controlled_by" "controlled_by" (defArgs s_controlled_by) (defBody s_controlled_by) (defScope s_controlled_by) .none kV doc pm an cdv ct), sl⟩) (c : PySem.W.codeIn K cdv "controlled_by" = true) (k : PySem.W.keepIn K (.ref f) = true) : Tx K mg "controlled_by" s_controlled_by ["table", "parties", "party"] :=
  ⟨f, _, fun_mk (st := s_controlled_by) l c k, PySem.W.mg_of X G a, (fun_mk (st := s_controlled_by) l c k).binds (ps := ["table", "parties", "party"]) fun _ _ _ _ _ _ us hl => match us, hl with | [_, _, _], _ => rfl⟩
theorem tx_within {f : Addr} {od an : Option Addr} {sl : Array (Option Value)} {oc kV doc pm cdv ct : Value} (X : K.In h) (G : h.Ns mainGlobals mg) (a : PySem.W.nsIn K mainGlobals "within" = some (some (.ref f)))
    (l : K.lookup f = some ⟨oc, od, .func (PySem.W.fnOf "within" "within" (defArgs s_within) (defBody s_within) (defScope s_within) .none kV doc pm an cdv ct), sl⟩) (c : PySem.W.codeIn K cdv "within" = true) (k : PySem.W.keepIn K (.ref f) = true) : Tx K mg "within" s_within ["value", "low", "high"] :=
  ⟨f, _, fun_mk (st := s_within) l c k, PySem.W.mg_of X G a, (fun_mk (st := s_within) l c k).binds (ps := ["value", "low", "high"]) fun _ _ _ _ _ _ us hl => match us, hl with | [_, _, _], _ => rfl⟩
theorem tx_is_day {f : Addr} {od an : Option Addr} {sl : Array (Option Value)} {oc kV doc pm cdv ct : Value} (X : K.In h) (G : h.Ns mainGlobals mg) (a : PySem.W.nsIn K mainGlobals "is_day" = some (some (.ref f)))
    (l : K.lookup f = some ⟨oc, od, .func (PySem.W.fnOf "is_day" "is_day" (defArgs s_is_day) (defBody s_is_day) (defScope s_is_day) .none kV doc pm an cdv ct), sl⟩) (c : PySem.W.codeIn K cdv "is_day" = true) (k : PySem.W.keepIn K (.ref f) = true) : Tx K mg "is_day" s_is_day ["day"] :=
  ⟨f, _, fun_mk (st := s_is_day) l c k, PySem.W.mg_of X G a, (fun_mk (st := s_is_day) l c k).binds (ps := ["day"]) fun _ _ _ _ _ _ us hl => match us, hl with | [_], _ => rfl⟩
theorem tx_is_party {f : Addr} {od an : Option Addr} {sl : Array (Option Value)} {oc kV doc pm cdv ct : Value} (X : K.In h) (G : h.Ns mainGlobals mg) (a : PySem.W.nsIn K mainGlobals "is_party" = some (some (.ref f)))
    (l : K.lookup f = some ⟨oc, od, .func (PySem.W.fnOf "is_party" "is_party" (defArgs s_is_party) (defBody s_is_party) (defScope s_is_party) .none kV doc pm an cdv ct), sl⟩) (c : PySem.W.codeIn K cdv "is_party" = true) (k : PySem.W.keepIn K (.ref f) = true) : Tx K mg "is_party" s_is_party ["party"] :=
  ⟨f, _, fun_mk (st := s_is_party) l c k, PySem.W.mg_of X G a, (fun_mk (st := s_is_party) l c k).binds (ps := ["party"]) fun _ _ _ _ _ _ us hl => match us, hl with | [_], _ => rfl⟩
theorem tx_is_known {f : Addr} {od an : Option Addr} {sl : Array (Option Value)} {oc kV doc pm cdv ct : Value} (X : K.In h) (G : h.Ns mainGlobals mg) (a : PySem.W.nsIn K mainGlobals "is_known" = some (some (.ref f)))
    (l : K.lookup f = some ⟨oc, od, .func (PySem.W.fnOf "is_known" "is_known" (defArgs s_is_known) (defBody s_is_known) (defScope s_is_known) .none kV doc pm an cdv ct), sl⟩) (c : PySem.W.codeIn K cdv "is_known" = true) (k : PySem.W.keepIn K (.ref f) = true) : Tx K mg "is_known" s_is_known ["book", "n"] :=
  ⟨f, _, fun_mk (st := s_is_known) l c k, PySem.W.mg_of X G a, (fun_mk (st := s_is_known) l c k).binds (ps := ["book", "n"]) fun _ _ _ _ _ _ us hl => match us, hl with | [_, _], _ => rfl⟩
theorem tx_party_code {f : Addr} {od an : Option Addr} {sl : Array (Option Value)} {oc kV doc pm cdv ct : Value} (X : K.In h) (G : h.Ns mainGlobals mg) (a : PySem.W.nsIn K mainGlobals "party_code" = some (some (.ref f)))
    (l : K.lookup f = some ⟨oc, od, .func (PySem.W.fnOf "party_code" "party_code" (defArgs s_party_code) (defBody s_party_code) (defScope s_party_code) .none kV doc pm an cdv ct), sl⟩) (c : PySem.W.codeIn K cdv "party_code" = true) (k : PySem.W.keepIn K (.ref f) = true) : Tx K mg "party_code" s_party_code ["book", "day", "party", "n"] :=
  ⟨f, _, fun_mk (st := s_party_code) l c k, PySem.W.mg_of X G a, (fun_mk (st := s_party_code) l c k).binds (ps := ["book", "day", "party", "n"]) fun _ _ _ _ _ _ us hl => match us, hl with | [_, _, _, _], _ => rfl⟩
theorem tx_company_code {f : Addr} {od an : Option Addr} {sl : Array (Option Value)} {oc kV doc pm cdv ct : Value} (X : K.In h) (G : h.Ns mainGlobals mg) (a : PySem.W.nsIn K mainGlobals "company_code" = some (some (.ref f)))
    (l : K.lookup f = some ⟨oc, od, .func (PySem.W.fnOf "company_code" "company_code" (defArgs s_company_code) (defBody s_company_code) (defScope s_company_code) .none kV doc pm an cdv ct), sl⟩) (c : PySem.W.codeIn K cdv "company_code" = true) (k : PySem.W.keepIn K (.ref f) = true) : Tx K mg "company_code" s_company_code ["book", "day", "company", "n"] :=
  ⟨f, _, fun_mk (st := s_company_code) l c k, PySem.W.mg_of X G a, (fun_mk (st := s_company_code) l c k).binds (ps := ["book", "day", "company", "n"]) fun _ _ _ _ _ _ us hl => match us, hl with | [_, _, _, _], _ => rfl⟩
theorem tx_both_code {f : Addr} {od an : Option Addr} {sl : Array (Option Value)} {oc kV doc pm cdv ct : Value} (X : K.In h) (G : h.Ns mainGlobals mg) (a : PySem.W.nsIn K mainGlobals "both_code" = some (some (.ref f)))
    (l : K.lookup f = some ⟨oc, od, .func (PySem.W.fnOf "both_code" "both_code" (defArgs s_both_code) (defBody s_both_code) (defScope s_both_code) .none kV doc pm an cdv ct), sl⟩) (c : PySem.W.codeIn K cdv "both_code" = true) (k : PySem.W.keepIn K (.ref f) = true) : Tx K mg "both_code" s_both_code ["book", "party", "company"] :=
  ⟨f, _, fun_mk (st := s_both_code) l c k, PySem.W.mg_of X G a, (fun_mk (st := s_both_code) l c k).binds (ps := ["book", "party", "company"]) fun _ _ _ _ _ _ us hl => match us, hl with | [_, _, _], _ => rfl⟩
theorem tx_pair_code {f : Addr} {od an : Option Addr} {sl : Array (Option Value)} {oc kV doc pm cdv ct : Value} (X : K.In h) (G : h.Ns mainGlobals mg) (a : PySem.W.nsIn K mainGlobals "pair_code" = some (some (.ref f)))
    (l : K.lookup f = some ⟨oc, od, .func (PySem.W.fnOf "pair_code" "pair_code" (defArgs s_pair_code) (defBody s_pair_code) (defScope s_pair_code) .none kV doc pm an cdv ct), sl⟩) (c : PySem.W.codeIn K cdv "pair_code" = true) (k : PySem.W.keepIn K (.ref f) = true) : Tx K mg "pair_code" s_pair_code ["book", "party", "company", "n"] :=
  ⟨f, _, fun_mk (st := s_pair_code) l c k, PySem.W.mg_of X G a, (fun_mk (st := s_pair_code) l c k).binds (ps := ["book", "party", "company", "n"]) fun _ _ _ _ _ _ us hl => match us, hl with | [_, _, _, _], _ => rfl⟩
theorem tx_pair_day_code {f : Addr} {od an : Option Addr} {sl : Array (Option Value)} {oc kV doc pm cdv ct : Value} (X : K.In h) (G : h.Ns mainGlobals mg) (a : PySem.W.nsIn K mainGlobals "pair_day_code" = some (some (.ref f)))
    (l : K.lookup f = some ⟨oc, od, .func (PySem.W.fnOf "pair_day_code" "pair_day_code" (defArgs s_pair_day_code) (defBody s_pair_day_code) (defScope s_pair_day_code) .none kV doc pm an cdv ct), sl⟩) (c : PySem.W.codeIn K cdv "pair_day_code" = true) (k : PySem.W.keepIn K (.ref f) = true) : Tx K mg "pair_day_code" s_pair_day_code ["book", "day", "party", "company", "n"] :=
  ⟨f, _, fun_mk (st := s_pair_day_code) l c k, PySem.W.mg_of X G a, (fun_mk (st := s_pair_day_code) l c k).binds (ps := ["book", "day", "party", "company", "n"]) fun _ _ _ _ _ _ us hl => match us, hl with | [_, _, _, _, _], _ => rfl⟩
theorem tx_are_prices {f : Addr} {od an : Option Addr} {sl : Array (Option Value)} {oc kV doc pm cdv ct : Value} (X : K.In h) (G : h.Ns mainGlobals mg) (a : PySem.W.nsIn K mainGlobals "are_prices" = some (some (.ref f)))
    (l : K.lookup f = some ⟨oc, od, .func (PySem.W.fnOf "are_prices" "are_prices" (defArgs s_are_prices) (defBody s_are_prices) (defScope s_are_prices) .none kV doc pm an cdv ct), sl⟩) (c : PySem.W.codeIn K cdv "are_prices" = true) (k : PySem.W.keepIn K (.ref f) = true) : Tx K mg "are_prices" s_are_prices ["prices"] :=
  ⟨f, _, fun_mk (st := s_are_prices) l c k, PySem.W.mg_of X G a, (fun_mk (st := s_are_prices) l c k).binds (ps := ["prices"]) fun _ _ _ _ _ _ us hl => match us, hl with | [_], _ => rfl⟩
theorem tx_plan_code {f : Addr} {od an : Option Addr} {sl : Array (Option Value)} {oc kV doc pm cdv ct : Value} (X : K.In h) (G : h.Ns mainGlobals mg) (a : PySem.W.nsIn K mainGlobals "plan_code" = some (some (.ref f)))
    (l : K.lookup f = some ⟨oc, od, .func (PySem.W.fnOf "plan_code" "plan_code" (defArgs s_plan_code) (defBody s_plan_code) (defScope s_plan_code) .none kV doc pm an cdv ct), sl⟩) (c : PySem.W.codeIn K cdv "plan_code" = true) (k : PySem.W.keepIn K (.ref f) = true) : Tx K mg "plan_code" s_plan_code ["book", "day", "party", "target", "prices"] :=
  ⟨f, _, fun_mk (st := s_plan_code) l c k, PySem.W.mg_of X G a, (fun_mk (st := s_plan_code) l c k).binds (ps := ["book", "day", "party", "target", "prices"]) fun _ _ _ _ _ _ us hl => match us, hl with | [_, _, _, _, _], _ => rfl⟩
theorem tx_has_negative {f : Addr} {od an : Option Addr} {sl : Array (Option Value)} {oc kV doc pm cdv ct : Value} (X : K.In h) (G : h.Ns mainGlobals mg) (a : PySem.W.nsIn K mainGlobals "has_negative" = some (some (.ref f)))
    (l : K.lookup f = some ⟨oc, od, .func (PySem.W.fnOf "has_negative" "has_negative" (defArgs s_has_negative) (defBody s_has_negative) (defScope s_has_negative) .none kV doc pm an cdv ct), sl⟩) (c : PySem.W.codeIn K cdv "has_negative" = true) (k : PySem.W.keepIn K (.ref f) = true) : Tx K mg "has_negative" s_has_negative ["table"] :=
  ⟨f, _, fun_mk (st := s_has_negative) l c k, PySem.W.mg_of X G a, (fun_mk (st := s_has_negative) l c k).binds (ps := ["table"]) fun _ _ _ _ _ _ us hl => match us, hl with | [_], _ => rfl⟩
theorem tx_has_excess {f : Addr} {od an : Option Addr} {sl : Array (Option Value)} {oc kV doc pm cdv ct : Value} (X : K.In h) (G : h.Ns mainGlobals mg) (a : PySem.W.nsIn K mainGlobals "has_excess" = some (some (.ref f)))
    (l : K.lookup f = some ⟨oc, od, .func (PySem.W.fnOf "has_excess" "has_excess" (defArgs s_has_excess) (defBody s_has_excess) (defScope s_has_excess) .none kV doc pm an cdv ct), sl⟩) (c : PySem.W.codeIn K cdv "has_excess" = true) (k : PySem.W.keepIn K (.ref f) = true) : Tx K mg "has_excess" s_has_excess ["table", "companies"] :=
  ⟨f, _, fun_mk (st := s_has_excess) l c k, PySem.W.mg_of X G a, (fun_mk (st := s_has_excess) l c k).binds (ps := ["table", "companies"]) fun _ _ _ _ _ _ us hl => match us, hl with | [_, _], _ => rfl⟩
theorem tx_greatest_closed_set {f : Addr} {od an : Option Addr} {sl : Array (Option Value)} {oc kV doc pm cdv ct : Value} (X : K.In h) (G : h.Ns mainGlobals mg) (a : PySem.W.nsIn K mainGlobals "greatest_closed_set" = some (some (.ref f)))
    (l : K.lookup f = some ⟨oc, od, .func (PySem.W.fnOf "greatest_closed_set" "greatest_closed_set" (defArgs s_greatest_closed_set) (defBody s_greatest_closed_set) (defScope s_greatest_closed_set) .none kV doc pm an cdv ct), sl⟩) (c : PySem.W.codeIn K cdv "greatest_closed_set" = true) (k : PySem.W.keepIn K (.ref f) = true) : Tx K mg "greatest_closed_set" s_greatest_closed_set ["table", "companies"] :=
  ⟨f, _, fun_mk (st := s_greatest_closed_set) l c k, PySem.W.mg_of X G a, (fun_mk (st := s_greatest_closed_set) l c k).binds (ps := ["table", "companies"]) fun _ _ _ _ _ _ us hl => match us, hl with | [_, _], _ => rfl⟩
theorem tx_is_valid {f : Addr} {od an : Option Addr} {sl : Array (Option Value)} {oc kV doc pm cdv ct : Value} (X : K.In h) (G : h.Ns mainGlobals mg) (a : PySem.W.nsIn K mainGlobals "is_valid" = some (some (.ref f)))
    (l : K.lookup f = some ⟨oc, od, .func (PySem.W.fnOf "is_valid" "is_valid" (defArgs s_is_valid) (defBody s_is_valid) (defScope s_is_valid) .none kV doc pm an cdv ct), sl⟩) (c : PySem.W.codeIn K cdv "is_valid" = true) (k : PySem.W.keepIn K (.ref f) = true) : Tx K mg "is_valid" s_is_valid ["parties", "live", "day"] :=
  ⟨f, _, fun_mk (st := s_is_valid) l c k, PySem.W.mg_of X G a, (fun_mk (st := s_is_valid) l c k).binds (ps := ["parties", "live", "day"]) fun _ _ _ _ _ _ us hl => match us, hl with | [_, _, _], _ => rfl⟩
theorem tx_deed_code {f : Addr} {od an : Option Addr} {sl : Array (Option Value)} {oc kV doc pm cdv ct : Value} (X : K.In h) (G : h.Ns mainGlobals mg) (a : PySem.W.nsIn K mainGlobals "deed_code" = some (some (.ref f)))
    (l : K.lookup f = some ⟨oc, od, .func (PySem.W.fnOf "deed_code" "deed_code" (defArgs s_deed_code) (defBody s_deed_code) (defScope s_deed_code) .none kV doc pm an cdv ct), sl⟩) (c : PySem.W.codeIn K cdv "deed_code" = true) (k : PySem.W.keepIn K (.ref f) = true) : Tx K mg "deed_code" s_deed_code ["book", "day", "owner", "company", "percent"] :=
  ⟨f, _, fun_mk (st := s_deed_code) l c k, PySem.W.mg_of X G a, (fun_mk (st := s_deed_code) l c k).binds (ps := ["book", "day", "owner", "company", "percent"]) fun _ _ _ _ _ _ us hl => match us, hl with | [_, _, _, _, _], _ => rfl⟩
theorem tx_days_code {f : Addr} {od an : Option Addr} {sl : Array (Option Value)} {oc kV doc pm cdv ct : Value} (X : K.In h) (G : h.Ns mainGlobals mg) (a : PySem.W.nsIn K mainGlobals "days_code" = some (some (.ref f)))
    (l : K.lookup f = some ⟨oc, od, .func (PySem.W.fnOf "days_code" "days_code" (defArgs s_days_code) (defBody s_days_code) (defScope s_days_code) .none kV doc pm an cdv ct), sl⟩) (c : PySem.W.codeIn K cdv "days_code" = true) (k : PySem.W.keepIn K (.ref f) = true) : Tx K mg "days_code" s_days_code ["parties", "live", "day"] :=
  ⟨f, _, fun_mk (st := s_days_code) l c k, PySem.W.mg_of X G a, (fun_mk (st := s_days_code) l c k).binds (ps := ["parties", "live", "day"]) fun _ _ _ _ _ _ us hl => match us, hl with | [_, _, _], _ => rfl⟩
theorem tx_record_code {f : Addr} {od an : Option Addr} {sl : Array (Option Value)} {oc kV doc pm cdv ct : Value} (X : K.In h) (G : h.Ns mainGlobals mg) (a : PySem.W.nsIn K mainGlobals "record_code" = some (some (.ref f)))
    (l : K.lookup f = some ⟨oc, od, .func (PySem.W.fnOf "record_code" "record_code" (defArgs s_record_code) (defBody s_record_code) (defScope s_record_code) .none kV doc pm an cdv ct), sl⟩) (c : PySem.W.codeIn K cdv "record_code" = true) (k : PySem.W.keepIn K (.ref f) = true) : Tx K mg "record_code" s_record_code ["book", "record"] :=
  ⟨f, _, fun_mk (st := s_record_code) l c k, PySem.W.mg_of X G a, (fun_mk (st := s_record_code) l c k).binds (ps := ["book", "record"]) fun _ _ _ _ _ _ us hl => match us, hl with | [_, _], _ => rfl⟩
theorem tx_cancel_code {f : Addr} {od an : Option Addr} {sl : Array (Option Value)} {oc kV doc pm cdv ct : Value} (X : K.In h) (G : h.Ns mainGlobals mg) (a : PySem.W.nsIn K mainGlobals "cancel_code" = some (some (.ref f)))
    (l : K.lookup f = some ⟨oc, od, .func (PySem.W.fnOf "cancel_code" "cancel_code" (defArgs s_cancel_code) (defBody s_cancel_code) (defScope s_cancel_code) .none kV doc pm an cdv ct), sl⟩) (c : PySem.W.codeIn K cdv "cancel_code" = true) (k : PySem.W.keepIn K (.ref f) = true) : Tx K mg "cancel_code" s_cancel_code ["book", "number"] :=
  ⟨f, _, fun_mk (st := s_cancel_code) l c k, PySem.W.mg_of X G a, (fun_mk (st := s_cancel_code) l c k).binds (ps := ["book", "number"]) fun _ _ _ _ _ _ us hl => match us, hl with | [_, _], _ => rfl⟩
theorem tx_add_investor {f : Addr} {od an : Option Addr} {sl : Array (Option Value)} {oc kV doc pm cdv ct : Value} (X : K.In h) (G : h.Ns mainGlobals mg) (a : PySem.W.nsIn K mainGlobals "add_investor" = some (some (.ref f)))
    (l : K.lookup f = some ⟨oc, od, .func (PySem.W.fnOf "add_investor" "add_investor" (defArgs s_add_investor) (defBody s_add_investor) (defScope s_add_investor) .none kV doc pm an cdv ct), sl⟩) (c : PySem.W.codeIn K cdv "add_investor" = true) (k : PySem.W.keepIn K (.ref f) = true) : Tx K mg "add_investor" s_add_investor ["book"] :=
  ⟨f, _, fun_mk (st := s_add_investor) l c k, PySem.W.mg_of X G a, (fun_mk (st := s_add_investor) l c k).binds (ps := ["book"]) fun _ _ _ _ _ _ us hl => match us, hl with | [_], _ => rfl⟩
theorem tx_add_company {f : Addr} {od an : Option Addr} {sl : Array (Option Value)} {oc kV doc pm cdv ct : Value} (X : K.In h) (G : h.Ns mainGlobals mg) (a : PySem.W.nsIn K mainGlobals "add_company" = some (some (.ref f)))
    (l : K.lookup f = some ⟨oc, od, .func (PySem.W.fnOf "add_company" "add_company" (defArgs s_add_company) (defBody s_add_company) (defScope s_add_company) .none kV doc pm an cdv ct), sl⟩) (c : PySem.W.codeIn K cdv "add_company" = true) (k : PySem.W.keepIn K (.ref f) = true) : Tx K mg "add_company" s_add_company ["book"] :=
  ⟨f, _, fun_mk (st := s_add_company) l c k, PySem.W.mg_of X G a, (fun_mk (st := s_add_company) l c k).binds (ps := ["book"]) fun _ _ _ _ _ _ us hl => match us, hl with | [_], _ => rfl⟩
theorem tx_record_deed {f : Addr} {od an : Option Addr} {sl : Array (Option Value)} {oc kV doc pm cdv ct : Value} (X : K.In h) (G : h.Ns mainGlobals mg) (a : PySem.W.nsIn K mainGlobals "record_deed" = some (some (.ref f)))
    (l : K.lookup f = some ⟨oc, od, .func (PySem.W.fnOf "record_deed" "record_deed" (defArgs s_record_deed) (defBody s_record_deed) (defScope s_record_deed) .none kV doc pm an cdv ct), sl⟩) (c : PySem.W.codeIn K cdv "record_deed" = true) (k : PySem.W.keepIn K (.ref f) = true) : Tx K mg "record_deed" s_record_deed ["book", "record"] :=
  ⟨f, _, fun_mk (st := s_record_deed) l c k, PySem.W.mg_of X G a, (fun_mk (st := s_record_deed) l c k).binds (ps := ["book", "record"]) fun _ _ _ _ _ _ us hl => match us, hl with | [_, _], _ => rfl⟩
theorem tx_new_pairs {f : Addr} {od an : Option Addr} {sl : Array (Option Value)} {oc kV doc pm cdv ct : Value} (X : K.In h) (G : h.Ns mainGlobals mg) (a : PySem.W.nsIn K mainGlobals "new_pairs" = some (some (.ref f)))
    (l : K.lookup f = some ⟨oc, od, .func (PySem.W.fnOf "new_pairs" "new_pairs" (defArgs s_new_pairs) (defBody s_new_pairs) (defScope s_new_pairs) .none kV doc pm an cdv ct), sl⟩) (c : PySem.W.codeIn K cdv "new_pairs" = true) (k : PySem.W.keepIn K (.ref f) = true) : Tx K mg "new_pairs" s_new_pairs ["parties", "before", "after"] :=
  ⟨f, _, fun_mk (st := s_new_pairs) l c k, PySem.W.mg_of X G a, (fun_mk (st := s_new_pairs) l c k).binds (ps := ["parties", "before", "after"]) fun _ _ _ _ _ _ us hl => match us, hl with | [_, _, _], _ => rfl⟩
theorem tx_preview_acquire {f : Addr} {od an : Option Addr} {sl : Array (Option Value)} {oc kV doc pm cdv ct : Value} (X : K.In h) (G : h.Ns mainGlobals mg) (a : PySem.W.nsIn K mainGlobals "preview_acquire" = some (some (.ref f)))
    (l : K.lookup f = some ⟨oc, od, .func (PySem.W.fnOf "preview_acquire" "preview_acquire" (defArgs s_preview_acquire) (defBody s_preview_acquire) (defScope s_preview_acquire) .none kV doc pm an cdv ct), sl⟩) (c : PySem.W.codeIn K cdv "preview_acquire" = true) (k : PySem.W.keepIn K (.ref f) = true) : Tx K mg "preview_acquire" s_preview_acquire ["book", "day", "owner", "company", "percent"] :=
  ⟨f, _, fun_mk (st := s_preview_acquire) l c k, PySem.W.mg_of X G a, (fun_mk (st := s_preview_acquire) l c k).binds (ps := ["book", "day", "owner", "company", "percent"]) fun _ _ _ _ _ _ us hl => match us, hl with | [_, _, _, _, _], _ => rfl⟩
theorem tx_cancel_record {f : Addr} {od an : Option Addr} {sl : Array (Option Value)} {oc kV doc pm cdv ct : Value} (X : K.In h) (G : h.Ns mainGlobals mg) (a : PySem.W.nsIn K mainGlobals "cancel_record" = some (some (.ref f)))
    (l : K.lookup f = some ⟨oc, od, .func (PySem.W.fnOf "cancel_record" "cancel_record" (defArgs s_cancel_record) (defBody s_cancel_record) (defScope s_cancel_record) .none kV doc pm an cdv ct), sl⟩) (c : PySem.W.codeIn K cdv "cancel_record" = true) (k : PySem.W.keepIn K (.ref f) = true) : Tx K mg "cancel_record" s_cancel_record ["book", "number"] :=
  ⟨f, _, fun_mk (st := s_cancel_record) l c k, PySem.W.mg_of X G a, (fun_mk (st := s_cancel_record) l c k).binds (ps := ["book", "number"]) fun _ _ _ _ _ _ us hl => match us, hl with | [_, _], _ => rfl⟩
theorem tx_holders {f : Addr} {od an : Option Addr} {sl : Array (Option Value)} {oc kV doc pm cdv ct : Value} (X : K.In h) (G : h.Ns mainGlobals mg) (a : PySem.W.nsIn K mainGlobals "holders" = some (some (.ref f)))
    (l : K.lookup f = some ⟨oc, od, .func (PySem.W.fnOf "holders" "holders" (defArgs s_holders) (defBody s_holders) (defScope s_holders) .none kV doc pm an cdv ct), sl⟩) (c : PySem.W.codeIn K cdv "holders" = true) (k : PySem.W.keepIn K (.ref f) = true) : Tx K mg "holders" s_holders ["book", "day", "company", "n"] :=
  ⟨f, _, fun_mk (st := s_holders) l c k, PySem.W.mg_of X G a, (fun_mk (st := s_holders) l c k).binds (ps := ["book", "day", "company", "n"]) fun _ _ _ _ _ _ us hl => match us, hl with | [_, _, _, _], _ => rfl⟩
theorem tx_portfolio {f : Addr} {od an : Option Addr} {sl : Array (Option Value)} {oc kV doc pm cdv ct : Value} (X : K.In h) (G : h.Ns mainGlobals mg) (a : PySem.W.nsIn K mainGlobals "portfolio" = some (some (.ref f)))
    (l : K.lookup f = some ⟨oc, od, .func (PySem.W.fnOf "portfolio" "portfolio" (defArgs s_portfolio) (defBody s_portfolio) (defScope s_portfolio) .none kV doc pm an cdv ct), sl⟩) (c : PySem.W.codeIn K cdv "portfolio" = true) (k : PySem.W.keepIn K (.ref f) = true) : Tx K mg "portfolio" s_portfolio ["book", "day", "owner", "n"] :=
  ⟨f, _, fun_mk (st := s_portfolio) l c k, PySem.W.mg_of X G a, (fun_mk (st := s_portfolio) l c k).binds (ps := ["book", "day", "owner", "n"]) fun _ _ _ _ _ _ us hl => match us, hl with | [_, _, _, _], _ => rfl⟩
theorem tx_differences {f : Addr} {od an : Option Addr} {sl : Array (Option Value)} {oc kV doc pm cdv ct : Value} (X : K.In h) (G : h.Ns mainGlobals mg) (a : PySem.W.nsIn K mainGlobals "differences" = some (some (.ref f)))
    (l : K.lookup f = some ⟨oc, od, .func (PySem.W.fnOf "differences" "differences" (defArgs s_differences) (defBody s_differences) (defScope s_differences) .none kV doc pm an cdv ct), sl⟩) (c : PySem.W.codeIn K cdv "differences" = true) (k : PySem.W.keepIn K (.ref f) = true) : Tx K mg "differences" s_differences ["first", "second"] :=
  ⟨f, _, fun_mk (st := s_differences) l c k, PySem.W.mg_of X G a, (fun_mk (st := s_differences) l c k).binds (ps := ["first", "second"]) fun _ _ _ _ _ _ us hl => match us, hl with | [_, _], _ => rfl⟩
theorem tx_restated {f : Addr} {od an : Option Addr} {sl : Array (Option Value)} {oc kV doc pm cdv ct : Value} (X : K.In h) (G : h.Ns mainGlobals mg) (a : PySem.W.nsIn K mainGlobals "restated" = some (some (.ref f)))
    (l : K.lookup f = some ⟨oc, od, .func (PySem.W.fnOf "restated" "restated" (defArgs s_restated) (defBody s_restated) (defScope s_restated) .none kV doc pm an cdv ct), sl⟩) (c : PySem.W.codeIn K cdv "restated" = true) (k : PySem.W.keepIn K (.ref f) = true) : Tx K mg "restated" s_restated ["book", "day", "first_n", "second_n"] :=
  ⟨f, _, fun_mk (st := s_restated) l c k, PySem.W.mg_of X G a, (fun_mk (st := s_restated) l c k).binds (ps := ["book", "day", "first_n", "second_n"]) fun _ _ _ _ _ _ us hl => match us, hl with | [_, _, _, _], _ => rfl⟩
theorem tx_status {f : Addr} {od an : Option Addr} {sl : Array (Option Value)} {oc kV doc pm cdv ct : Value} (X : K.In h) (G : h.Ns mainGlobals mg) (a : PySem.W.nsIn K mainGlobals "status" = some (some (.ref f)))
    (l : K.lookup f = some ⟨oc, od, .func (PySem.W.fnOf "status" "status" (defArgs s_status) (defBody s_status) (defScope s_status) .none kV doc pm an cdv ct), sl⟩) (c : PySem.W.codeIn K cdv "status" = true) (k : PySem.W.keepIn K (.ref f) = true) : Tx K mg "status" s_status ["book"] :=
  ⟨f, _, fun_mk (st := s_status) l c k, PySem.W.mg_of X G a, (fun_mk (st := s_status) l c k).binds (ps := ["book"]) fun _ _ _ _ _ _ us hl => match us, hl with | [_], _ => rfl⟩
theorem tx_greatest_divisor {f : Addr} {od an : Option Addr} {sl : Array (Option Value)} {oc kV doc pm cdv ct : Value} (X : K.In h) (G : h.Ns mainGlobals mg) (a : PySem.W.nsIn K mainGlobals "greatest_divisor" = some (some (.ref f)))
    (l : K.lookup f = some ⟨oc, od, .func (PySem.W.fnOf "greatest_divisor" "greatest_divisor" (defArgs s_greatest_divisor) (defBody s_greatest_divisor) (defScope s_greatest_divisor) .none kV doc pm an cdv ct), sl⟩) (c : PySem.W.codeIn K cdv "greatest_divisor" = true) (k : PySem.W.keepIn K (.ref f) = true) : Tx K mg "greatest_divisor" s_greatest_divisor ["first", "second"] :=
  ⟨f, _, fun_mk (st := s_greatest_divisor) l c k, PySem.W.mg_of X G a, (fun_mk (st := s_greatest_divisor) l c k).binds (ps := ["first", "second"]) fun _ _ _ _ _ _ us hl => match us, hl with | [_, _], _ => rfl⟩
theorem tx_lowest {f : Addr} {od an : Option Addr} {sl : Array (Option Value)} {oc kV doc pm cdv ct : Value} (X : K.In h) (G : h.Ns mainGlobals mg) (a : PySem.W.nsIn K mainGlobals "lowest" = some (some (.ref f)))
    (l : K.lookup f = some ⟨oc, od, .func (PySem.W.fnOf "lowest" "lowest" (defArgs s_lowest) (defBody s_lowest) (defScope s_lowest) .none kV doc pm an cdv ct), sl⟩) (c : PySem.W.codeIn K cdv "lowest" = true) (k : PySem.W.keepIn K (.ref f) = true) : Tx K mg "lowest" s_lowest ["numerator", "denominator"] :=
  ⟨f, _, fun_mk (st := s_lowest) l c k, PySem.W.mg_of X G a, (fun_mk (st := s_lowest) l c k).binds (ps := ["numerator", "denominator"]) fun _ _ _ _ _ _ us hl => match us, hl with | [_, _], _ => rfl⟩
theorem tx_reduced {f : Addr} {od an : Option Addr} {sl : Array (Option Value)} {oc kV doc pm cdv ct : Value} (X : K.In h) (G : h.Ns mainGlobals mg) (a : PySem.W.nsIn K mainGlobals "reduced" = some (some (.ref f)))
    (l : K.lookup f = some ⟨oc, od, .func (PySem.W.fnOf "reduced" "reduced" (defArgs s_reduced) (defBody s_reduced) (defScope s_reduced) .none kV doc pm an cdv ct), sl⟩) (c : PySem.W.codeIn K cdv "reduced" = true) (k : PySem.W.keepIn K (.ref f) = true) : Tx K mg "reduced" s_reduced ["row"] :=
  ⟨f, _, fun_mk (st := s_reduced) l c k, PySem.W.mg_of X G a, (fun_mk (st := s_reduced) l c k).binds (ps := ["row"]) fun _ _ _ _ _ _ us hl => match us, hl with | [_], _ => rfl⟩
theorem tx_pivot_place {f : Addr} {od an : Option Addr} {sl : Array (Option Value)} {oc kV doc pm cdv ct : Value} (X : K.In h) (G : h.Ns mainGlobals mg) (a : PySem.W.nsIn K mainGlobals "pivot_place" = some (some (.ref f)))
    (l : K.lookup f = some ⟨oc, od, .func (PySem.W.fnOf "pivot_place" "pivot_place" (defArgs s_pivot_place) (defBody s_pivot_place) (defScope s_pivot_place) .none kV doc pm an cdv ct), sl⟩) (c : PySem.W.codeIn K cdv "pivot_place" = true) (k : PySem.W.keepIn K (.ref f) = true) : Tx K mg "pivot_place" s_pivot_place ["rows", "k"] :=
  ⟨f, _, fun_mk (st := s_pivot_place) l c k, PySem.W.mg_of X G a, (fun_mk (st := s_pivot_place) l c k).binds (ps := ["rows", "k"]) fun _ _ _ _ _ _ us hl => match us, hl with | [_, _], _ => rfl⟩
theorem tx_without_column {f : Addr} {od an : Option Addr} {sl : Array (Option Value)} {oc kV doc pm cdv ct : Value} (X : K.In h) (G : h.Ns mainGlobals mg) (a : PySem.W.nsIn K mainGlobals "without_column" = some (some (.ref f)))
    (l : K.lookup f = some ⟨oc, od, .func (PySem.W.fnOf "without_column" "without_column" (defArgs s_without_column) (defBody s_without_column) (defScope s_without_column) .none kV doc pm an cdv ct), sl⟩) (c : PySem.W.codeIn K cdv "without_column" = true) (k : PySem.W.keepIn K (.ref f) = true) : Tx K mg "without_column" s_without_column ["row", "base", "k"] :=
  ⟨f, _, fun_mk (st := s_without_column) l c k, PySem.W.mg_of X G a, (fun_mk (st := s_without_column) l c k).binds (ps := ["row", "base", "k"]) fun _ _ _ _ _ _ us hl => match us, hl with | [_, _, _], _ => rfl⟩
theorem tx_cleared {f : Addr} {od an : Option Addr} {sl : Array (Option Value)} {oc kV doc pm cdv ct : Value} (X : K.In h) (G : h.Ns mainGlobals mg) (a : PySem.W.nsIn K mainGlobals "cleared" = some (some (.ref f)))
    (l : K.lookup f = some ⟨oc, od, .func (PySem.W.fnOf "cleared" "cleared" (defArgs s_cleared) (defBody s_cleared) (defScope s_cleared) .none kV doc pm an cdv ct), sl⟩) (c : PySem.W.codeIn K cdv "cleared" = true) (k : PySem.W.keepIn K (.ref f) = true) : Tx K mg "cleared" s_cleared ["rows", "k"] :=
  ⟨f, _, fun_mk (st := s_cleared) l c k, PySem.W.mg_of X G a, (fun_mk (st := s_cleared) l c k).binds (ps := ["rows", "k"]) fun _ _ _ _ _ _ us hl => match us, hl with | [_, _], _ => rfl⟩
theorem tx_solve {f : Addr} {od an : Option Addr} {sl : Array (Option Value)} {oc kV doc pm cdv ct : Value} (X : K.In h) (G : h.Ns mainGlobals mg) (a : PySem.W.nsIn K mainGlobals "solve" = some (some (.ref f)))
    (l : K.lookup f = some ⟨oc, od, .func (PySem.W.fnOf "solve" "solve" (defArgs s_solve) (defBody s_solve) (defScope s_solve) .none kV doc pm an cdv ct), sl⟩) (c : PySem.W.codeIn K cdv "solve" = true) (k : PySem.W.keepIn K (.ref f) = true) : Tx K mg "solve" s_solve ["rows"] :=
  ⟨f, _, fun_mk (st := s_solve) l c k, PySem.W.mg_of X G a, (fun_mk (st := s_solve) l c k).binds (ps := ["rows"]) fun _ _ _ _ _ _ us hl => match us, hl with | [_], _ => rfl⟩
theorem tx_coefficient {f : Addr} {od an : Option Addr} {sl : Array (Option Value)} {oc kV doc pm cdv ct : Value} (X : K.In h) (G : h.Ns mainGlobals mg) (a : PySem.W.nsIn K mainGlobals "coefficient" = some (some (.ref f)))
    (l : K.lookup f = some ⟨oc, od, .func (PySem.W.fnOf "coefficient" "coefficient" (defArgs s_coefficient) (defBody s_coefficient) (defScope s_coefficient) .none kV doc pm an cdv ct), sl⟩) (c : PySem.W.codeIn K cdv "coefficient" = true) (k : PySem.W.keepIn K (.ref f) = true) : Tx K mg "coefficient" s_coefficient ["table", "company", "k", "left_out"] :=
  ⟨f, _, fun_mk (st := s_coefficient) l c k, PySem.W.mg_of X G a, (fun_mk (st := s_coefficient) l c k).binds (ps := ["table", "company", "k", "left_out"]) fun _ _ _ _ _ _ us hl => match us, hl with | [_, _, _, _], _ => rfl⟩
theorem tx_equations {f : Addr} {od an : Option Addr} {sl : Array (Option Value)} {oc kV doc pm cdv ct : Value} (X : K.In h) (G : h.Ns mainGlobals mg) (a : PySem.W.nsIn K mainGlobals "equations" = some (some (.ref f)))
    (l : K.lookup f = some ⟨oc, od, .func (PySem.W.fnOf "equations" "equations" (defArgs s_equations) (defBody s_equations) (defScope s_equations) .none kV doc pm an cdv ct), sl⟩) (c : PySem.W.codeIn K cdv "equations" = true) (k : PySem.W.keepIn K (.ref f) = true) : Tx K mg "equations" s_equations ["table", "companies", "own", "left_out"] :=
  ⟨f, _, fun_mk (st := s_equations) l c k, PySem.W.mg_of X G a, (fun_mk (st := s_equations) l c k).binds (ps := ["table", "companies", "own", "left_out"]) fun _ _ _ _ _ _ us hl => match us, hl with | [_, _, _, _], _ => rfl⟩
theorem tx_party_interest {f : Addr} {od an : Option Addr} {sl : Array (Option Value)} {oc kV doc pm cdv ct : Value} (X : K.In h) (G : h.Ns mainGlobals mg) (a : PySem.W.nsIn K mainGlobals "party_interest" = some (some (.ref f)))
    (l : K.lookup f = some ⟨oc, od, .func (PySem.W.fnOf "party_interest" "party_interest" (defArgs s_party_interest) (defBody s_party_interest) (defScope s_party_interest) .none kV doc pm an cdv ct), sl⟩) (c : PySem.W.codeIn K cdv "party_interest" = true) (k : PySem.W.keepIn K (.ref f) = true) : Tx K mg "party_interest" s_party_interest ["table", "parties", "party", "company"] :=
  ⟨f, _, fun_mk (st := s_party_interest) l c k, PySem.W.mg_of X G a, (fun_mk (st := s_party_interest) l c k).binds (ps := ["table", "parties", "party", "company"]) fun _ _ _ _ _ _ us hl => match us, hl with | [_, _, _, _], _ => rfl⟩
theorem tx_free_interest {f : Addr} {od an : Option Addr} {sl : Array (Option Value)} {oc kV doc pm cdv ct : Value} (X : K.In h) (G : h.Ns mainGlobals mg) (a : PySem.W.nsIn K mainGlobals "free_interest" = some (some (.ref f)))
    (l : K.lookup f = some ⟨oc, od, .func (PySem.W.fnOf "free_interest" "free_interest" (defArgs s_free_interest) (defBody s_free_interest) (defScope s_free_interest) .none kV doc pm an cdv ct), sl⟩) (c : PySem.W.codeIn K cdv "free_interest" = true) (k : PySem.W.keepIn K (.ref f) = true) : Tx K mg "free_interest" s_free_interest ["table", "parties", "company"] :=
  ⟨f, _, fun_mk (st := s_free_interest) l c k, PySem.W.mg_of X G a, (fun_mk (st := s_free_interest) l c k).binds (ps := ["table", "parties", "company"]) fun _ _ _ _ _ _ us hl => match us, hl with | [_, _, _], _ => rfl⟩
theorem tx_has {f : Addr} {od an : Option Addr} {sl : Array (Option Value)} {oc kV doc pm cdv ct : Value} (X : K.In h) (G : h.Ns mainGlobals mg) (a : PySem.W.nsIn K mainGlobals "has" = some (some (.ref f)))
    (l : K.lookup f = some ⟨oc, od, .func (PySem.W.fnOf "has" "has" (defArgs s_has) (defBody s_has) (defScope s_has) .none kV doc pm an cdv ct), sl⟩) (c : PySem.W.codeIn K cdv "has" = true) (k : PySem.W.keepIn K (.ref f) = true) : Tx K mg "has" s_has ["mask", "i"] :=
  ⟨f, _, fun_mk (st := s_has) l c k, PySem.W.mg_of X G a, (fun_mk (st := s_has) l c k).binds (ps := ["mask", "i"]) fun _ _ _ _ _ _ us hl => match us, hl with | [_, _], _ => rfl⟩
theorem tx_better {f : Addr} {od an : Option Addr} {sl : Array (Option Value)} {oc kV doc pm cdv ct : Value} (X : K.In h) (G : h.Ns mainGlobals mg) (a : PySem.W.nsIn K mainGlobals "better" = some (some (.ref f)))
    (l : K.lookup f = some ⟨oc, od, .func (PySem.W.fnOf "better" "better" (defArgs s_better) (defBody s_better) (defScope s_better) .none kV doc pm an cdv ct), sl⟩) (c : PySem.W.codeIn K cdv "better" = true) (k : PySem.W.keepIn K (.ref f) = true) : Tx K mg "better" s_better ["first", "second"] :=
  ⟨f, _, fun_mk (st := s_better) l c k, PySem.W.mg_of X G a, (fun_mk (st := s_better) l c k).binds (ps := ["first", "second"]) fun _ _ _ _ _ _ us hl => match us, hl with | [_, _], _ => rfl⟩
theorem tx_needed {f : Addr} {od an : Option Addr} {sl : Array (Option Value)} {oc kV doc pm cdv ct : Value} (X : K.In h) (G : h.Ns mainGlobals mg) (a : PySem.W.nsIn K mainGlobals "needed" = some (some (.ref f)))
    (l : K.lookup f = some ⟨oc, od, .func (PySem.W.fnOf "needed" "needed" (defArgs s_needed) (defBody s_needed) (defScope s_needed) .none kV doc pm an cdv ct), sl⟩) (c : PySem.W.codeIn K cdv "needed" = true) (k : PySem.W.keepIn K (.ref f) = true) : Tx K mg "needed" s_needed ["table", "members", "company"] :=
  ⟨f, _, fun_mk (st := s_needed) l c k, PySem.W.mg_of X G a, (fun_mk (st := s_needed) l c k).binds (ps := ["table", "members", "company"]) fun _ _ _ _ _ _ us hl => match us, hl with | [_, _, _], _ => rfl⟩
theorem tx_bought {f : Addr} {od an : Option Addr} {sl : Array (Option Value)} {oc kV doc pm cdv ct : Value} (X : K.In h) (G : h.Ns mainGlobals mg) (a : PySem.W.nsIn K mainGlobals "bought" = some (some (.ref f)))
    (l : K.lookup f = some ⟨oc, od, .func (PySem.W.fnOf "bought" "bought" (defArgs s_bought) (defBody s_bought) (defScope s_bought) .none kV doc pm an cdv ct), sl⟩) (c : PySem.W.codeIn K cdv "bought" = true) (k : PySem.W.keepIn K (.ref f) = true) : Tx K mg "bought" s_bought ["plan", "i", "percent", "price"] :=
  ⟨f, _, fun_mk (st := s_bought) l c k, PySem.W.mg_of X G a, (fun_mk (st := s_bought) l c k).binds (ps := ["plan", "i", "percent", "price"]) fun _ _ _ _ _ _ us hl => match us, hl with | [_, _, _, _], _ => rfl⟩
theorem tx_plan_by_last {f : Addr} {od an : Option Addr} {sl : Array (Option Value)} {oc kV doc pm cdv ct : Value} (X : K.In h) (G : h.Ns mainGlobals mg) (a : PySem.W.nsIn K mainGlobals "plan_by_last" = some (some (.ref f)))
    (l : K.lookup f = some ⟨oc, od, .func (PySem.W.fnOf "plan_by_last" "plan_by_last" (defArgs s_plan_by_last) (defBody s_plan_by_last) (defScope s_plan_by_last) .none kV doc pm an cdv ct), sl⟩) (c : PySem.W.codeIn K cdv "plan_by_last" = true) (k : PySem.W.keepIn K (.ref f) = true) : Tx K mg "plan_by_last" s_plan_by_last ["plans", "mask", "i", "table", "companies", "prices", "party"] :=
  ⟨f, _, fun_mk (st := s_plan_by_last) l c k, PySem.W.mg_of X G a, (fun_mk (st := s_plan_by_last) l c k).binds (ps := ["plans", "mask", "i", "table", "companies", "prices", "party"]) fun _ _ _ _ _ _ us hl => match us, hl with | [_, _, _, _, _, _, _], _ => rfl⟩
theorem tx_plan_for {f : Addr} {od an : Option Addr} {sl : Array (Option Value)} {oc kV doc pm cdv ct : Value} (X : K.In h) (G : h.Ns mainGlobals mg) (a : PySem.W.nsIn K mainGlobals "plan_for" = some (some (.ref f)))
    (l : K.lookup f = some ⟨oc, od, .func (PySem.W.fnOf "plan_for" "plan_for" (defArgs s_plan_for) (defBody s_plan_for) (defScope s_plan_for) .none kV doc pm an cdv ct), sl⟩) (c : PySem.W.codeIn K cdv "plan_for" = true) (k : PySem.W.keepIn K (.ref f) = true) : Tx K mg "plan_for" s_plan_for ["plans", "mask", "goal", "table", "companies", "prices", "party"] :=
  ⟨f, _, fun_mk (st := s_plan_for) l c k, PySem.W.mg_of X G a, (fun_mk (st := s_plan_for) l c k).binds (ps := ["plans", "mask", "goal", "table", "companies", "prices", "party"]) fun _ _ _ _ _ _ us hl => match us, hl with | [_, _, _, _, _, _, _], _ => rfl⟩
theorem tx_cheapest_plan {f : Addr} {od an : Option Addr} {sl : Array (Option Value)} {oc kV doc pm cdv ct : Value} (X : K.In h) (G : h.Ns mainGlobals mg) (a : PySem.W.nsIn K mainGlobals "cheapest_plan" = some (some (.ref f)))
    (l : K.lookup f = some ⟨oc, od, .func (PySem.W.fnOf "cheapest_plan" "cheapest_plan" (defArgs s_cheapest_plan) (defBody s_cheapest_plan) (defScope s_cheapest_plan) .none kV doc pm an cdv ct), sl⟩) (c : PySem.W.codeIn K cdv "cheapest_plan" = true) (k : PySem.W.keepIn K (.ref f) = true) : Tx K mg "cheapest_plan" s_cheapest_plan ["table", "companies", "prices", "party", "target"] :=
  ⟨f, _, fun_mk (st := s_cheapest_plan) l c k, PySem.W.mg_of X G a, (fun_mk (st := s_cheapest_plan) l c k).binds (ps := ["table", "companies", "prices", "party", "target"]) fun _ _ _ _ _ _ us hl => match us, hl with | [_, _, _, _, _], _ => rfl⟩
theorem tx_controls {f : Addr} {od an : Option Addr} {sl : Array (Option Value)} {oc kV doc pm cdv ct : Value} (X : K.In h) (G : h.Ns mainGlobals mg) (a : PySem.W.nsIn K mainGlobals "controls" = some (some (.ref f)))
    (l : K.lookup f = some ⟨oc, od, .func (PySem.W.fnOf "controls" "controls" (defArgs s_controls) (defBody s_controls) (defScope s_controls) .none kV doc pm an cdv ct), sl⟩) (c : PySem.W.codeIn K cdv "controls" = true) (k : PySem.W.keepIn K (.ref f) = true) : Tx K mg "controls" s_controls ["book", "day", "party", "n"] :=
  ⟨f, _, fun_mk (st := s_controls) l c k, PySem.W.mg_of X G a, (fun_mk (st := s_controls) l c k).binds (ps := ["book", "day", "party", "n"]) fun _ _ _ _ _ _ us hl => match us, hl with | [_, _, _, _], _ => rfl⟩
theorem tx_control_order {f : Addr} {od an : Option Addr} {sl : Array (Option Value)} {oc kV doc pm cdv ct : Value} (X : K.In h) (G : h.Ns mainGlobals mg) (a : PySem.W.nsIn K mainGlobals "control_order" = some (some (.ref f)))
    (l : K.lookup f = some ⟨oc, od, .func (PySem.W.fnOf "control_order" "control_order" (defArgs s_control_order) (defBody s_control_order) (defScope s_control_order) .none kV doc pm an cdv ct), sl⟩) (c : PySem.W.codeIn K cdv "control_order" = true) (k : PySem.W.keepIn K (.ref f) = true) : Tx K mg "control_order" s_control_order ["book", "day", "party", "n"] :=
  ⟨f, _, fun_mk (st := s_control_order) l c k, PySem.W.mg_of X G a, (fun_mk (st := s_control_order) l c k).binds (ps := ["book", "day", "party", "n"]) fun _ _ _ _ _ _ us hl => match us, hl with | [_, _, _, _], _ => rfl⟩
theorem tx_controllers {f : Addr} {od an : Option Addr} {sl : Array (Option Value)} {oc kV doc pm cdv ct : Value} (X : K.In h) (G : h.Ns mainGlobals mg) (a : PySem.W.nsIn K mainGlobals "controllers" = some (some (.ref f)))
    (l : K.lookup f = some ⟨oc, od, .func (PySem.W.fnOf "controllers" "controllers" (defArgs s_controllers) (defBody s_controllers) (defScope s_controllers) .none kV doc pm an cdv ct), sl⟩) (c : PySem.W.codeIn K cdv "controllers" = true) (k : PySem.W.keepIn K (.ref f) = true) : Tx K mg "controllers" s_controllers ["book", "day", "company", "n"] :=
  ⟨f, _, fun_mk (st := s_controllers) l c k, PySem.W.mg_of X G a, (fun_mk (st := s_controllers) l c k).binds (ps := ["book", "day", "company", "n"]) fun _ _ _ _ _ _ us hl => match us, hl with | [_, _, _, _], _ => rfl⟩
theorem tx_control_changes {f : Addr} {od an : Option Addr} {sl : Array (Option Value)} {oc kV doc pm cdv ct : Value} (X : K.In h) (G : h.Ns mainGlobals mg) (a : PySem.W.nsIn K mainGlobals "control_changes" = some (some (.ref f)))
    (l : K.lookup f = some ⟨oc, od, .func (PySem.W.fnOf "control_changes" "control_changes" (defArgs s_control_changes) (defBody s_control_changes) (defScope s_control_changes) .none kV doc pm an cdv ct), sl⟩) (c : PySem.W.codeIn K cdv "control_changes" = true) (k : PySem.W.keepIn K (.ref f) = true) : Tx K mg "control_changes" s_control_changes ["parties", "live", "party", "company"] :=
  ⟨f, _, fun_mk (st := s_control_changes) l c k, PySem.W.mg_of X G a, (fun_mk (st := s_control_changes) l c k).binds (ps := ["parties", "live", "party", "company"]) fun _ _ _ _ _ _ us hl => match us, hl with | [_, _, _, _], _ => rfl⟩
theorem tx_control_days {f : Addr} {od an : Option Addr} {sl : Array (Option Value)} {oc kV doc pm cdv ct : Value} (X : K.In h) (G : h.Ns mainGlobals mg) (a : PySem.W.nsIn K mainGlobals "control_days" = some (some (.ref f)))
    (l : K.lookup f = some ⟨oc, od, .func (PySem.W.fnOf "control_days" "control_days" (defArgs s_control_days) (defBody s_control_days) (defScope s_control_days) .none kV doc pm an cdv ct), sl⟩) (c : PySem.W.codeIn K cdv "control_days" = true) (k : PySem.W.keepIn K (.ref f) = true) : Tx K mg "control_days" s_control_days ["book", "party", "company", "n"] :=
  ⟨f, _, fun_mk (st := s_control_days) l c k, PySem.W.mg_of X G a, (fun_mk (st := s_control_days) l c k).binds (ps := ["book", "party", "company", "n"]) fun _ _ _ _ _ _ us hl => match us, hl with | [_, _, _, _], _ => rfl⟩
theorem tx_interest {f : Addr} {od an : Option Addr} {sl : Array (Option Value)} {oc kV doc pm cdv ct : Value} (X : K.In h) (G : h.Ns mainGlobals mg) (a : PySem.W.nsIn K mainGlobals "interest" = some (some (.ref f)))
    (l : K.lookup f = some ⟨oc, od, .func (PySem.W.fnOf "interest" "interest" (defArgs s_interest) (defBody s_interest) (defScope s_interest) .none kV doc pm an cdv ct), sl⟩) (c : PySem.W.codeIn K cdv "interest" = true) (k : PySem.W.keepIn K (.ref f) = true) : Tx K mg "interest" s_interest ["book", "day", "party", "company", "n"] :=
  ⟨f, _, fun_mk (st := s_interest) l c k, PySem.W.mg_of X G a, (fun_mk (st := s_interest) l c k).binds (ps := ["book", "day", "party", "company", "n"]) fun _ _ _ _ _ _ us hl => match us, hl with | [_, _, _, _, _], _ => rfl⟩
theorem tx_float_interest {f : Addr} {od an : Option Addr} {sl : Array (Option Value)} {oc kV doc pm cdv ct : Value} (X : K.In h) (G : h.Ns mainGlobals mg) (a : PySem.W.nsIn K mainGlobals "float_interest" = some (some (.ref f)))
    (l : K.lookup f = some ⟨oc, od, .func (PySem.W.fnOf "float_interest" "float_interest" (defArgs s_float_interest) (defBody s_float_interest) (defScope s_float_interest) .none kV doc pm an cdv ct), sl⟩) (c : PySem.W.codeIn K cdv "float_interest" = true) (k : PySem.W.keepIn K (.ref f) = true) : Tx K mg "float_interest" s_float_interest ["book", "day", "company", "n"] :=
  ⟨f, _, fun_mk (st := s_float_interest) l c k, PySem.W.mg_of X G a, (fun_mk (st := s_float_interest) l c k).binds (ps := ["book", "day", "company", "n"]) fun _ _ _ _ _ _ us hl => match us, hl with | [_, _, _, _], _ => rfl⟩
theorem tx_method_of {f : Addr} {od an : Option Addr} {sl : Array (Option Value)} {oc kV doc pm cdv ct : Value} (X : K.In h) (G : h.Ns mainGlobals mg) (a : PySem.W.nsIn K mainGlobals "method_of" = some (some (.ref f)))
    (l : K.lookup f = some ⟨oc, od, .func (PySem.W.fnOf "method_of" "method_of" (defArgs s_method_of) (defBody s_method_of) (defScope s_method_of) .none kV doc pm an cdv ct), sl⟩) (c : PySem.W.codeIn K cdv "method_of" = true) (k : PySem.W.keepIn K (.ref f) = true) : Tx K mg "method_of" s_method_of ["book", "day", "party", "company", "n"] :=
  ⟨f, _, fun_mk (st := s_method_of) l c k, PySem.W.mg_of X G a, (fun_mk (st := s_method_of) l c k).binds (ps := ["book", "day", "party", "company", "n"]) fun _ _ _ _ _ _ us hl => match us, hl with | [_, _, _, _, _], _ => rfl⟩
theorem tx_purchases {f : Addr} {od an : Option Addr} {sl : Array (Option Value)} {oc kV doc pm cdv ct : Value} (X : K.In h) (G : h.Ns mainGlobals mg) (a : PySem.W.nsIn K mainGlobals "purchases" = some (some (.ref f)))
    (l : K.lookup f = some ⟨oc, od, .func (PySem.W.fnOf "purchases" "purchases" (defArgs s_purchases) (defBody s_purchases) (defScope s_purchases) .none kV doc pm an cdv ct), sl⟩) (c : PySem.W.codeIn K cdv "purchases" = true) (k : PySem.W.keepIn K (.ref f) = true) : Tx K mg "purchases" s_purchases ["companies", "plan"] :=
  ⟨f, _, fun_mk (st := s_purchases) l c k, PySem.W.mg_of X G a, (fun_mk (st := s_purchases) l c k).binds (ps := ["companies", "plan"]) fun _ _ _ _ _ _ us hl => match us, hl with | [_, _], _ => rfl⟩
theorem tx_cheapest_control {f : Addr} {od an : Option Addr} {sl : Array (Option Value)} {oc kV doc pm cdv ct : Value} (X : K.In h) (G : h.Ns mainGlobals mg) (a : PySem.W.nsIn K mainGlobals "cheapest_control" = some (some (.ref f)))
    (l : K.lookup f = some ⟨oc, od, .func (PySem.W.fnOf "cheapest_control" "cheapest_control" (defArgs s_cheapest_control) (defBody s_cheapest_control) (defScope s_cheapest_control) .none kV doc pm an cdv ct), sl⟩) (c : PySem.W.codeIn K cdv "cheapest_control" = true) (k : PySem.W.keepIn K (.ref f) = true) : Tx K mg "cheapest_control" s_cheapest_control ["book", "day", "party", "target", "prices"] :=
  ⟨f, _, fun_mk (st := s_cheapest_control) l c k, PySem.W.mg_of X G a, (fun_mk (st := s_cheapest_control) l c k).binds (ps := ["book", "day", "party", "target", "prices"]) fun _ _ _ _ _ _ us hl => match us, hl with | [_, _, _, _, _], _ => rfl⟩
theorem tx_call_end {f : Addr} {od an : Option Addr} {sl : Array (Option Value)} {oc kV doc pm cdv ct : Value} (X : K.In h) (G : h.Ns mainGlobals mg) (a : PySem.W.nsIn K mainGlobals "call_end" = some (some (.ref f)))
    (l : K.lookup f = some ⟨oc, od, .func (PySem.W.fnOf "call_end" "call_end" (defArgs s_call_end) (defBody s_call_end) (defScope s_call_end) .none kV doc pm an cdv ct), sl⟩) (c : PySem.W.codeIn K cdv "call_end" = true) (k : PySem.W.keepIn K (.ref f) = true) : Tx K mg "call_end" s_call_end ["calls", "at"] :=
  ⟨f, _, fun_mk (st := s_call_end) l c k, PySem.W.mg_of X G a, (fun_mk (st := s_call_end) l c k).binds (ps := ["calls", "at"]) fun _ _ _ _ _ _ us hl => match us, hl with | [_, _], _ => rfl⟩
theorem tx_answer_change {f : Addr} {od an : Option Addr} {sl : Array (Option Value)} {oc kV doc pm cdv ct : Value} (X : K.In h) (G : h.Ns mainGlobals mg) (a : PySem.W.nsIn K mainGlobals "answer_change" = some (some (.ref f)))
    (l : K.lookup f = some ⟨oc, od, .func (PySem.W.fnOf "answer_change" "answer_change" (defArgs s_answer_change) (defBody s_answer_change) (defScope s_answer_change) .none kV doc pm an cdv ct), sl⟩) (c : PySem.W.codeIn K cdv "answer_change" = true) (k : PySem.W.keepIn K (.ref f) = true) : Tx K mg "answer_change" s_answer_change ["book", "call"] :=
  ⟨f, _, fun_mk (st := s_answer_change) l c k, PySem.W.mg_of X G a, (fun_mk (st := s_answer_change) l c k).binds (ps := ["book", "call"]) fun _ _ _ _ _ _ us hl => match us, hl with | [_, _], _ => rfl⟩
theorem tx_answer_question {f : Addr} {od an : Option Addr} {sl : Array (Option Value)} {oc kV doc pm cdv ct : Value} (X : K.In h) (G : h.Ns mainGlobals mg) (a : PySem.W.nsIn K mainGlobals "answer_question" = some (some (.ref f)))
    (l : K.lookup f = some ⟨oc, od, .func (PySem.W.fnOf "answer_question" "answer_question" (defArgs s_answer_question) (defBody s_answer_question) (defScope s_answer_question) .none kV doc pm an cdv ct), sl⟩) (c : PySem.W.codeIn K cdv "answer_question" = true) (k : PySem.W.keepIn K (.ref f) = true) : Tx K mg "answer_question" s_answer_question ["book", "call"] :=
  ⟨f, _, fun_mk (st := s_answer_question) l c k, PySem.W.mg_of X G a, (fun_mk (st := s_answer_question) l c k).binds (ps := ["book", "call"]) fun _ _ _ _ _ _ us hl => match us, hl with | [_, _], _ => rfl⟩
theorem tx_answer_call {f : Addr} {od an : Option Addr} {sl : Array (Option Value)} {oc kV doc pm cdv ct : Value} (X : K.In h) (G : h.Ns mainGlobals mg) (a : PySem.W.nsIn K mainGlobals "answer_call" = some (some (.ref f)))
    (l : K.lookup f = some ⟨oc, od, .func (PySem.W.fnOf "answer_call" "answer_call" (defArgs s_answer_call) (defBody s_answer_call) (defScope s_answer_call) .none kV doc pm an cdv ct), sl⟩) (c : PySem.W.codeIn K cdv "answer_call" = true) (k : PySem.W.keepIn K (.ref f) = true) : Tx K mg "answer_call" s_answer_call ["book", "call"] :=
  ⟨f, _, fun_mk (st := s_answer_call) l c k, PySem.W.mg_of X G a, (fun_mk (st := s_answer_call) l c k).binds (ps := ["book", "call"]) fun _ _ _ _ _ _ us hl => match us, hl with | [_, _], _ => rfl⟩
theorem tx_answers {f : Addr} {od an : Option Addr} {sl : Array (Option Value)} {oc kV doc pm cdv ct : Value} (X : K.In h) (G : h.Ns mainGlobals mg) (a : PySem.W.nsIn K mainGlobals "answers" = some (some (.ref f)))
    (l : K.lookup f = some ⟨oc, od, .func (PySem.W.fnOf "answers" "answers" (defArgs s_answers) (defBody s_answers) (defScope s_answers) .none kV doc pm an cdv ct), sl⟩) (c : PySem.W.codeIn K cdv "answers" = true) (k : PySem.W.keepIn K (.ref f) = true) : Tx K mg "answers" s_answers ["calls"] :=
  ⟨f, _, fun_mk (st := s_answers) l c k, PySem.W.mg_of X G a, (fun_mk (st := s_answers) l c k).binds (ps := ["calls"]) fun _ _ _ _ _ _ us hl => match us, hl with | [_], _ => rfl⟩
theorem mx_init {f C : Addr} {od an : Option Addr} {sl : Array (Option Value)} {oc kV doc pm cdv ct : Value} (a : PySem.W.findIn K (.ref C) "__init__" = some (some (.ref f))) (i : PySem.W.isFn K (.ref f) = true)
    (l : K.lookup f = some ⟨oc, od, .func (PySem.W.fnOf "__init__" "Book.__init__" (defArgs s_init) (defBody s_init) (defScope s_init) .none kV doc pm an cdv ct), sl⟩) (c : PySem.W.codeIn K cdv "Book.__init__" = true) (k : PySem.W.keepIn K (.ref f) = true) (mk : PySem.W.makesIn K C = true) (kc : PySem.W.keepIn K (.ref C) = true) : ∃ (f : Addr) (fd : FuncData), L2.Mk K C f ∧ Fun K "__init__" "Book.__init__" s_init f fd ∧ Binds K fd ["self"] [] :=
  ⟨f, _, ⟨mk, a, i, kc⟩, fun_mk (st := s_init) l c k, (fun_mk (st := s_init) l c k).binds (ps := ["self"]) fun _ _ _ _ _ _ us hl => match us, hl with | [_], _ => rfl⟩
theorem mx_add_party {f C : Addr} {od an : Option Addr} {sl : Array (Option Value)} {oc kV doc pm cdv ct : Value} (a : PySem.W.findIn K (.ref C) "add_party" = some (some (.ref f))) (i : PySem.W.isFn K (.ref f) = true)
    (l : K.lookup f = some ⟨oc, od, .func (PySem.W.fnOf "add_party" "Book.add_party" (defArgs s_add_party) (defBody s_add_party) (defScope s_add_party) .none kV doc pm an cdv ct), sl⟩) (c : PySem.W.codeIn K cdv "Book.add_party" = true) (k : PySem.W.keepIn K (.ref f) = true) : ∃ (f : Addr) (fd : FuncData), Meth K C "add_party" f ∧ Fun K "add_party" "Book.add_party" s_add_party f fd ∧ Binds K fd ["self", "company"] [] :=
  ⟨f, _, ⟨a, i, k⟩, fun_mk (st := s_add_party) l c k, (fun_mk (st := s_add_party) l c k).binds (ps := ["self", "company"]) fun _ _ _ _ _ _ us hl => match us, hl with | [_, _], _ => rfl⟩
theorem mx_add_record {f C : Addr} {od an : Option Addr} {sl : Array (Option Value)} {oc kV doc pm cdv ct : Value} (a : PySem.W.findIn K (.ref C) "add_record" = some (some (.ref f))) (i : PySem.W.isFn K (.ref f) = true)
    (l : K.lookup f = some ⟨oc, od, .func (PySem.W.fnOf "add_record" "Book.add_record" (defArgs s_add_record) (defBody s_add_record) (defScope s_add_record) .none kV doc pm an cdv ct), sl⟩) (c : PySem.W.codeIn K cdv "Book.add_record" = true) (k : PySem.W.keepIn K (.ref f) = true) : ∃ (f : Addr) (fd : FuncData), Meth K C "add_record" f ∧ Fun K "add_record" "Book.add_record" s_add_record f fd ∧ Binds K fd ["self", "record"] [] :=
  ⟨f, _, ⟨a, i, k⟩, fun_mk (st := s_add_record) l c k, (fun_mk (st := s_add_record) l c k).binds (ps := ["self", "record"]) fun _ _ _ _ _ _ us hl => match us, hl with | [_, _], _ => rfl⟩
theorem top_of (X : K.In h) (T : ∃ C, Top K mg C) : ∃ C, Top K mg C := T
theorem fin_mk {P : Program} {w : World} {C fa f : Addr} {od an : Option Addr} {sl : Array (Option Value)} {oc kV doc pm cdv ct : Value} (X : K.In h) (G : h.Ns mainGlobals mg) (T : Top K mg C) (hmg : mg "answers" = some (.ref fa)) (a : PySem.W.nsIn K mainGlobals "answers" = some (some (.ref f)))
    (l : K.lookup f = some ⟨oc, od, .func (PySem.W.fnOf "answers" "answers" (defArgs s_answers) (defBody s_answers) (defScope s_answers) .none kV doc pm an cdv ct), sl⟩) (c : PySem.W.codeIn K cdv "answers" = true) (k : PySem.W.keepIn K (.ref f) = true) :
    ∃ fd : FuncData, (∀ (s : Shared) (us : List Value), us.length = (["calls"] : List Str).length → BindsTo s fd ⟨us, []⟩ ((["calls"] : List Str).zip us)) ∧ ∀ base : Heap, K.In base → base.Ns mainGlobals mg → FnOk P w K mg base CX0 10 fa fd ["calls"] (sp_answers K) := by
  have e := hmg.symm.trans (PySem.W.mg_of X G a)
  cases e
  exact ⟨PySem.W.fnOf "answers" "answers" (defArgs s_answers) (defBody s_answers) (defScope s_answers) .none kV doc pm an cdv ct, fun s us hu => match us, hu with | [_], _ => .of_eq rfl, fun base _ _ => ok_answers (fun_mk (st := s_answers) l c k) T⟩
theorem fin_ask {H : Hp} {a : Addr} {l : List Int} {Q : VK} {E : XK} (hask : PyValdgg.answers_asked l = true) (hs : SqL K H a (l.map V.int)) (q : ∀ (H' : Hp) (p : Addr), H' p = some (.lst ((PyValdgg.answers l).map V.int)) → Q (.ref p) H') : sp_answers K [.ref a] H Q E := by
  obtain ⟨ks, e1, e2, h3, h4, h5⟩ := asked_is hask
  refine ⟨a, ks, rfl, e1 ▸ hs, h3, h5, fun v H' _ i => ?_⟩
  obtain ⟨p, rfl, hp⟩ := ints_of i
  exact q H' p (by rw [e2]; exact hp)
end
end Cr
open PySem PySem.W PyProof.Rows
set_option maxRecDepth 100000 in
set_option maxHeartbeats 0 in
theorem PySem.Challenge.cw_crossholdings_s01_answers_holds : PySem.Challenge.rw_crossholdings_s01_answers.Holds := by
  w_on; k_headS; (case hw => exact ⟨[.list [.int 17]], by decide +kernel, by decide +kernel⟩)
  k_fillS
  refine L2.walk_specK (r := PySem.Challenge.rw_crossholdings_s01_answers) (k := 10) (CX := L2.CX0) (ps := ["calls"]) (sp := Cr.sp_answers) (by decide +kernel) rfl rfl ⟨rfl, by decide, by decide⟩ (fun w h Y => PySem.W.kIn_of Y) ?F ?S (fun _ _ _ _ z => z)
  case F =>
    intro w mg fa h Y KX G hmg
    have t_companies_of := by refine' Cr.tx_companies_of KX G ?a ?l ?c ?k; (case a => k_is); (case l => k_is); (case c => k_is); (case k => k_is)
    have t_is_cancelled := by refine' Cr.tx_is_cancelled KX G ?a ?l ?c ?k; (case a => k_is); (case l => k_is); (case c => k_is); (case k => k_is)
    have t_live_records := by refine' Cr.tx_live_records KX G ?a ?l ?c ?k; (case a => k_is); (case l => k_is); (case c => k_is); (case k => k_is)
    have t_record_days := by refine' Cr.tx_record_days KX G ?a ?l ?c ?k; (case a => k_is); (case l => k_is); (case c => k_is); (case k => k_is)
    have t_change_of := by refine' Cr.tx_change_of KX G ?a ?l ?c ?k; (case a => k_is); (case l => k_is); (case c => k_is); (case k => k_is)
    have t_holdings_on := by refine' Cr.tx_holdings_on KX G ?a ?l ?c ?k; (case a => k_is); (case l => k_is); (case c => k_is); (case k => k_is)
    have t_held_table := by refine' Cr.tx_held_table KX G ?a ?l ?c ?k; (case a => k_is); (case l => k_is); (case c => k_is); (case k => k_is)
    have t_held_in := by refine' Cr.tx_held_in KX G ?a ?l ?c ?k; (case a => k_is); (case l => k_is); (case c => k_is); (case k => k_is)
    have t_all_held := by refine' Cr.tx_all_held KX G ?a ?l ?c ?k; (case a => k_is); (case l => k_is); (case c => k_is); (case k => k_is)
    have t_free_float := by refine' Cr.tx_free_float KX G ?a ?l ?c ?k; (case a => k_is); (case l => k_is); (case c => k_is); (case k => k_is)
    have t_added_companies := by refine' Cr.tx_added_companies KX G ?a ?l ?c ?k; (case a => k_is); (case l => k_is); (case c => k_is); (case k => k_is)
    have t_control_rows := by refine' Cr.tx_control_rows KX G ?a ?l ?c ?k; (case a => k_is); (case l => k_is); (case c => k_is); (case k => k_is)
    have t_controlled_by := by refine' Cr.tx_controlled_by KX G ?a ?l ?c ?k; (case a => k_is); (case l => k_is); (case c => k_is); (case k => k_is)
    have t_within := by refine' Cr.tx_within KX G ?a ?l ?c ?k; (case a => k_is); (case l => k_is); (case c => k_is); (case k => k_is)
    have t_is_day := by refine' Cr.tx_is_day KX G ?a ?l ?c ?k; (case a => k_is); (case l => k_is); (case c => k_is); (case k => k_is)
    have t_is_party := by refine' Cr.tx_is_party KX G ?a ?l ?c ?k; (case a => k_is); (case l => k_is); (case c => k_is); (case k => k_is)
    have t_is_known := by refine' Cr.tx_is_known KX G ?a ?l ?c ?k; (case a => k_is); (case l => k_is); (case c => k_is); (case k => k_is)
    have t_party_code := by refine' Cr.tx_party_code KX G ?a ?l ?c ?k; (case a => k_is); (case l => k_is); (case c => k_is); (case k => k_is)
    have t_company_code := by refine' Cr.tx_company_code KX G ?a ?l ?c ?k; (case a => k_is); (case l => k_is); (case c => k_is); (case k => k_is)
    have t_both_code := by refine' Cr.tx_both_code KX G ?a ?l ?c ?k; (case a => k_is); (case l => k_is); (case c => k_is); (case k => k_is)
    have t_pair_code := by refine' Cr.tx_pair_code KX G ?a ?l ?c ?k; (case a => k_is); (case l => k_is); (case c => k_is); (case k => k_is)
    have t_pair_day_code := by refine' Cr.tx_pair_day_code KX G ?a ?l ?c ?k; (case a => k_is); (case l => k_is); (case c => k_is); (case k => k_is)
    have t_are_prices := by refine' Cr.tx_are_prices KX G ?a ?l ?c ?k; (case a => k_is); (case l => k_is); (case c => k_is); (case k => k_is)
    have t_plan_code := by refine' Cr.tx_plan_code KX G ?a ?l ?c ?k; (case a => k_is); (case l => k_is); (case c => k_is); (case k => k_is)
    have t_has_negative := by refine' Cr.tx_has_negative KX G ?a ?l ?c ?k; (case a => k_is); (case l => k_is); (case c => k_is); (case k => k_is)
    have t_has_excess := by refine' Cr.tx_has_excess KX G ?a ?l ?c ?k; (case a => k_is); (case l => k_is); (case c => k_is); (case k => k_is)
    have t_greatest_closed_set := by refine' Cr.tx_greatest_closed_set KX G ?a ?l ?c ?k; (case a => k_is); (case l => k_is); (case c => k_is); (case k => k_is)
    have t_is_valid := by refine' Cr.tx_is_valid KX G ?a ?l ?c ?k; (case a => k_is); (case l => k_is); (case c => k_is); (case k => k_is)
    have t_deed_code := by refine' Cr.tx_deed_code KX G ?a ?l ?c ?k; (case a => k_is); (case l => k_is); (case c => k_is); (case k => k_is)
    have t_days_code := by refine' Cr.tx_days_code KX G ?a ?l ?c ?k; (case a => k_is); (case l => k_is); (case c => k_is); (case k => k_is)
    have t_record_code := by refine' Cr.tx_record_code KX G ?a ?l ?c ?k; (case a => k_is); (case l => k_is); (case c => k_is); (case k => k_is)
    have t_cancel_code := by refine' Cr.tx_cancel_code KX G ?a ?l ?c ?k; (case a => k_is); (case l => k_is); (case c => k_is); (case k => k_is)
    have t_add_investor := by refine' Cr.tx_add_investor KX G ?a ?l ?c ?k; (case a => k_is); (case l => k_is); (case c => k_is); (case k => k_is)
    have t_add_company := by refine' Cr.tx_add_company KX G ?a ?l ?c ?k; (case a => k_is); (case l => k_is); (case c => k_is); (case k => k_is)
    have t_record_deed := by refine' Cr.tx_record_deed KX G ?a ?l ?c ?k; (case a => k_is); (case l => k_is); (case c => k_is); (case k => k_is)
    have t_new_pairs := by refine' Cr.tx_new_pairs KX G ?a ?l ?c ?k; (case a => k_is); (case l => k_is); (case c => k_is); (case k => k_is)
    have t_preview_acquire := by refine' Cr.tx_preview_acquire KX G ?a ?l ?c ?k; (case a => k_is); (case l => k_is); (case c => k_is); (case k => k_is)
    have t_cancel_record := by refine' Cr.tx_cancel_record KX G ?a ?l ?c ?k; (case a => k_is); (case l => k_is); (case c => k_is); (case k => k_is)
    have t_holders := by refine' Cr.tx_holders KX G ?a ?l ?c ?k; (case a => k_is); (case l => k_is); (case c => k_is); (case k => k_is)
    have t_portfolio := by refine' Cr.tx_portfolio KX G ?a ?l ?c ?k; (case a => k_is); (case l => k_is); (case c => k_is); (case k => k_is)
    have t_differences := by refine' Cr.tx_differences KX G ?a ?l ?c ?k; (case a => k_is); (case l => k_is); (case c => k_is); (case k => k_is)
    have t_restated := by refine' Cr.tx_restated KX G ?a ?l ?c ?k; (case a => k_is); (case l => k_is); (case c => k_is); (case k => k_is)
    have t_status := by refine' Cr.tx_status KX G ?a ?l ?c ?k; (case a => k_is); (case l => k_is); (case c => k_is); (case k => k_is)
    have t_greatest_divisor := by refine' Cr.tx_greatest_divisor KX G ?a ?l ?c ?k; (case a => k_is); (case l => k_is); (case c => k_is); (case k => k_is)
    have t_lowest := by refine' Cr.tx_lowest KX G ?a ?l ?c ?k; (case a => k_is); (case l => k_is); (case c => k_is); (case k => k_is)
    have t_reduced := by refine' Cr.tx_reduced KX G ?a ?l ?c ?k; (case a => k_is); (case l => k_is); (case c => k_is); (case k => k_is)
    have t_pivot_place := by refine' Cr.tx_pivot_place KX G ?a ?l ?c ?k; (case a => k_is); (case l => k_is); (case c => k_is); (case k => k_is)
    have t_without_column := by refine' Cr.tx_without_column KX G ?a ?l ?c ?k; (case a => k_is); (case l => k_is); (case c => k_is); (case k => k_is)
    have t_cleared := by refine' Cr.tx_cleared KX G ?a ?l ?c ?k; (case a => k_is); (case l => k_is); (case c => k_is); (case k => k_is)
    have t_solve := by refine' Cr.tx_solve KX G ?a ?l ?c ?k; (case a => k_is); (case l => k_is); (case c => k_is); (case k => k_is)
    have t_coefficient := by refine' Cr.tx_coefficient KX G ?a ?l ?c ?k; (case a => k_is); (case l => k_is); (case c => k_is); (case k => k_is)
    have t_equations := by refine' Cr.tx_equations KX G ?a ?l ?c ?k; (case a => k_is); (case l => k_is); (case c => k_is); (case k => k_is)
    have t_party_interest := by refine' Cr.tx_party_interest KX G ?a ?l ?c ?k; (case a => k_is); (case l => k_is); (case c => k_is); (case k => k_is)
    have t_free_interest := by refine' Cr.tx_free_interest KX G ?a ?l ?c ?k; (case a => k_is); (case l => k_is); (case c => k_is); (case k => k_is)
    have t_has := by refine' Cr.tx_has KX G ?a ?l ?c ?k; (case a => k_is); (case l => k_is); (case c => k_is); (case k => k_is)
    have t_better := by refine' Cr.tx_better KX G ?a ?l ?c ?k; (case a => k_is); (case l => k_is); (case c => k_is); (case k => k_is)
    have t_needed := by refine' Cr.tx_needed KX G ?a ?l ?c ?k; (case a => k_is); (case l => k_is); (case c => k_is); (case k => k_is)
    have t_bought := by refine' Cr.tx_bought KX G ?a ?l ?c ?k; (case a => k_is); (case l => k_is); (case c => k_is); (case k => k_is)
    have t_plan_by_last := by refine' Cr.tx_plan_by_last KX G ?a ?l ?c ?k; (case a => k_is); (case l => k_is); (case c => k_is); (case k => k_is)
    have t_plan_for := by refine' Cr.tx_plan_for KX G ?a ?l ?c ?k; (case a => k_is); (case l => k_is); (case c => k_is); (case k => k_is)
    have t_cheapest_plan := by refine' Cr.tx_cheapest_plan KX G ?a ?l ?c ?k; (case a => k_is); (case l => k_is); (case c => k_is); (case k => k_is)
    have t_controls := by refine' Cr.tx_controls KX G ?a ?l ?c ?k; (case a => k_is); (case l => k_is); (case c => k_is); (case k => k_is)
    have t_control_order := by refine' Cr.tx_control_order KX G ?a ?l ?c ?k; (case a => k_is); (case l => k_is); (case c => k_is); (case k => k_is)
    have t_controllers := by refine' Cr.tx_controllers KX G ?a ?l ?c ?k; (case a => k_is); (case l => k_is); (case c => k_is); (case k => k_is)
    have t_control_changes := by refine' Cr.tx_control_changes KX G ?a ?l ?c ?k; (case a => k_is); (case l => k_is); (case c => k_is); (case k => k_is)
    have t_control_days := by refine' Cr.tx_control_days KX G ?a ?l ?c ?k; (case a => k_is); (case l => k_is); (case c => k_is); (case k => k_is)
    have t_interest := by refine' Cr.tx_interest KX G ?a ?l ?c ?k; (case a => k_is); (case l => k_is); (case c => k_is); (case k => k_is)
    have t_float_interest := by refine' Cr.tx_float_interest KX G ?a ?l ?c ?k; (case a => k_is); (case l => k_is); (case c => k_is); (case k => k_is)
    have t_method_of := by refine' Cr.tx_method_of KX G ?a ?l ?c ?k; (case a => k_is); (case l => k_is); (case c => k_is); (case k => k_is)
    have t_purchases := by refine' Cr.tx_purchases KX G ?a ?l ?c ?k; (case a => k_is); (case l => k_is); (case c => k_is); (case k => k_is)
    have t_cheapest_control := by refine' Cr.tx_cheapest_control KX G ?a ?l ?c ?k; (case a => k_is); (case l => k_is); (case c => k_is); (case k => k_is)
    have t_call_end := by refine' Cr.tx_call_end KX G ?a ?l ?c ?k; (case a => k_is); (case l => k_is); (case c => k_is); (case k => k_is)
    have t_answer_change := by refine' Cr.tx_answer_change KX G ?a ?l ?c ?k; (case a => k_is); (case l => k_is); (case c => k_is); (case k => k_is)
    have t_answer_question := by refine' Cr.tx_answer_question KX G ?a ?l ?c ?k; (case a => k_is); (case l => k_is); (case c => k_is); (case k => k_is)
    have t_answer_call := by refine' Cr.tx_answer_call KX G ?a ?l ?c ?k; (case a => k_is); (case l => k_is); (case c => k_is); (case k => k_is)
    have t_answers := by refine' Cr.tx_answers KX G ?a ?l ?c ?k; (case a => k_is); (case l => k_is); (case c => k_is); (case k => k_is)
    have b_abs := PySem.W.mg_none_of KX G (n := "abs") (by k_is)
    have b_all := PySem.W.mg_none_of KX G (n := "all") (by k_is)
    have b_len := PySem.W.mg_none_of KX G (n := "len") (by k_is)
    have b_list := PySem.W.mg_none_of KX G (n := "list") (by k_is)
    have b_max := PySem.W.mg_none_of KX G (n := "max") (by k_is)
    have b_range := PySem.W.mg_none_of KX G (n := "range") (by k_is)
    have b_set := PySem.W.mg_none_of KX G (n := "set") (by k_is)
    have b_sorted := PySem.W.mg_none_of KX G (n := "sorted") (by k_is)
    have b_sum := PySem.W.mg_none_of KX G (n := "sum") (by k_is)
    have b_zip := PySem.W.mg_none_of KX G (n := "zip") (by k_is)
    have c_ACQUISITION := by refine' Cr.cst_mk (x := "ACQUISITION") (n := 0) KX G ?a; (case a => k_is)
    have c_CANCELLATION := by refine' Cr.cst_mk (x := "CANCELLATION") (n := 2) KX G ?a; (case a => k_is)
    have c_CHEAPEST_CONTROL := by refine' Cr.cst_mk (x := "CHEAPEST_CONTROL") (n := 16) KX G ?a; (case a => k_is)
    have c_DAY_NOT_VALID := by refine' Cr.cst_mk (x := "DAY_NOT_VALID") (n := -5) KX G ?a; (case a => k_is)
    have c_DISPOSAL := by refine' Cr.cst_mk (x := "DISPOSAL") (n := 1) KX G ?a; (case a => k_is)
    have c_FINE := by refine' Cr.cst_mk (x := "FINE") (n := 0) KX G ?a; (case a => k_is)
    have c_MOST_COMPANIES := by refine' Cr.cst_mk (x := "MOST_COMPANIES") (n := 8) KX G ?a; (case a => k_is)
    have c_MOST_INVESTORS := by refine' Cr.cst_mk (x := "MOST_INVESTORS") (n := 4) KX G ?a; (case a => k_is)
    have c_MOST_RECORDS := by refine' Cr.cst_mk (x := "MOST_RECORDS") (n := 40) KX G ?a; (case a => k_is)
    have c_NO_PLAN := by refine' Cr.cst_mk (x := "NO_PLAN") (n := -9) KX G ?a; (case a => k_is)
    have c_NO_SUCH := by refine' Cr.cst_mk (x := "NO_SUCH") (n := -3) KX G ?a; (case a => k_is)
    have c_OTHER_DAY_NOT_VALID := by refine' Cr.cst_mk (x := "OTHER_DAY_NOT_VALID") (n := -8) KX G ?a; (case a => k_is)
    have c_OUT_OF_RANGE := by refine' Cr.cst_mk (x := "OUT_OF_RANGE") (n := -1) KX G ?a; (case a => k_is)
    have c_SAME_OR_LENGTH := by refine' Cr.cst_mk (x := "SAME_OR_LENGTH") (n := -2) KX G ?a; (case a => k_is)
    have c_TOO_MANY := by refine' Cr.cst_mk (x := "TOO_MANY") (n := -6) KX G ?a; (case a => k_is)
    have c_TOP_DAY := by refine' Cr.cst_mk (x := "TOP_DAY") (n := 9999) KX G ?a; (case a => k_is)
    have c_TOP_PARTY := by refine' Cr.cst_mk (x := "TOP_PARTY") (n := 9999) KX G ?a; (case a => k_is)
    have c_TOP_PERCENT := by refine' Cr.cst_mk (x := "TOP_PERCENT") (n := 100) KX G ?a; (case a => k_is)
    have c_TOP_PRICE := by refine' Cr.cst_mk (x := "TOP_PRICE") (n := 1000000) KX G ?a; (case a => k_is)
    have c_TOP_RECORD := by refine' Cr.cst_mk (x := "TOP_RECORD") (n := 9999) KX G ?a; (case a => k_is)
    have c_WRONG_KIND := by refine' Cr.cst_mk (x := "WRONG_KIND") (n := -4) KX G ?a; (case a => k_is)
    have cA := by refine' Cr.args_mk KX G ?a ?l; (case a => k_is); (case l => k_is)
    have T := by
      refine' Cr.top_of (mg := mg) KX ⟨?C, ⟨⟨?pg, ?hd, ?po, ?sa⟩, ?nP, ?nR, PySem.W.mg_of KX G ?aC, ?mI, ?mP, ?mR, cA, t_companies_of, t_is_cancelled, t_live_records, t_record_days, t_change_of, t_holdings_on, t_held_table, t_held_in, t_all_held, t_free_float, t_added_companies, t_control_rows, t_controlled_by, t_within, t_is_day, t_is_party, t_is_known, t_party_code, t_company_code, t_both_code, t_pair_code, t_pair_day_code, t_are_prices, t_plan_code, t_has_negative, t_has_excess, t_greatest_closed_set, t_is_valid, t_deed_code, t_days_code, t_record_code, t_cancel_code, t_add_investor, t_add_company, t_record_deed, t_new_pairs, t_preview_acquire, t_cancel_record, t_holders, t_portfolio, t_differences, t_restated, t_status, t_greatest_divisor, t_lowest, t_reduced, t_pivot_place, t_without_column, t_cleared, t_solve, t_coefficient, t_equations, t_party_interest, t_free_interest, t_has, t_better, t_needed, t_bought, t_plan_by_last, t_plan_for, t_cheapest_plan, t_controls, t_control_order, t_controllers, t_control_changes, t_control_days, t_interest, t_float_interest, t_method_of, t_purchases, t_cheapest_control, t_call_end, t_answer_change, t_answer_question, t_answer_call, t_answers, b_abs, b_all, b_len, b_list, b_max, b_range, b_set, b_sorted, b_sum, b_zip, c_ACQUISITION, c_CANCELLATION, c_CHEAPEST_CONTROL, c_DAY_NOT_VALID, c_DISPOSAL, c_FINE, c_MOST_COMPANIES, c_MOST_INVESTORS, c_MOST_RECORDS, c_NO_PLAN, c_NO_SUCH, c_OTHER_DAY_NOT_VALID, c_OUT_OF_RANGE, c_SAME_OR_LENGTH, c_TOO_MANY, c_TOP_DAY, c_TOP_PARTY, c_TOP_PERCENT, c_TOP_PRICE, c_TOP_RECORD, c_WRONG_KIND⟩⟩
      (case aC => k_is)
      (case pg => k_is); (case hd => k_is); (case po => k_is); (case sa => k_is); (case nP => unfold L2.NoAttr; k_is); (case nR => unfold L2.NoAttr; k_is)
      (case mI => refine' Cr.mx_init ?a ?i ?l ?c ?k ?mk ?kc; (case a => k_is); (case i => k_is); (case l => k_is); (case c => k_is); (case k => k_is); (case mk => k_is); (case kc => k_is))
      (case mP => refine' Cr.mx_add_party ?a ?i ?l ?c ?k; (case a => k_is); (case i => k_is); (case l => k_is); (case c => k_is); (case k => k_is))
      (case mR => refine' Cr.mx_add_record ?a ?i ?l ?c ?k; (case a => k_is); (case i => k_is); (case l => k_is); (case c => k_is); (case k => k_is))
    obtain ⟨C, T⟩ := T
    refine' Cr.fin_mk KX G T hmg ?a ?l ?c ?k; (case a => k_is); (case l => k_is); (case c => k_is); (case k => k_is)
  case S =>
    intro K H xs a hO hwi hask hx
    cases hx with
    | cons h1 h2 =>
      cases h2
      cases h1 with
      | lst hs ha =>
        have e := L2.ints_dw a.1 _ ha
        subst e
        exact Cr.fin_ask hask hs fun H' p hp => .lst (L2.SqL.of hp) (L2.dw_ints _)
