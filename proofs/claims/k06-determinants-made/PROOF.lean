import PyProof.Rows.All
import Wide.All
import OpenK.AllK
import Wide.FinOn
import Lean
import KE.KStateDown
import HandS.ForMost
import HandS.ForExc
import HandS.More
import HandS.Defaults
import HandS.Deep
import HandS.Wide
import HandS.IsInst
import HandS.Style
import HandS.Base
import HandS.Call
import HandS.Ends
import HandS.Words
import HandS.WordsExc
import HandS.Head0
import HandS.Head1
import HandS.Head2
import HandS.HeadEnd
import HandS.HeadHook1
import HandS.HeadHook2
import PySem.Challenge.RW_lonewalks_k06_determinants_made
set_option Elab.async false
set_option linter.all false
set_option maxRecDepth 100000
set_option maxHeartbeats 4000000

/-! MDet: determinants by the first row, over any commutative ring -/
namespace MD
open Lean.Grind

section
variable {R : Type} [CommRing R]
def sumN (n : Nat) (f : Nat → R) : R := match n with
  | 0 => 0
  | n + 1 => sumN n f + f n
theorem sumN_zero (f : Nat → R) : sumN 0 f = 0 := rfl
theorem sumN_succ (n : Nat) (f : Nat → R) : sumN (n + 1) f = sumN n f + f n := rfl
theorem sumN_congr {n : Nat} {f g : Nat → R} (h : ∀ j, j < n → f j = g j) : sumN n f = sumN n g := by
  induction n with
  | zero => rfl
  | succ n ih => rw [sumN_succ, sumN_succ, ih fun j hj => h j (by omega), h n (by omega)]
theorem sumN_add {n : Nat} {f g : Nat → R} : sumN n (fun j => f j + g j) = sumN n f + sumN n g := by
  induction n with
  | zero => simp only [sumN_zero]; grind
  | succ n ih => rw [sumN_succ, sumN_succ, sumN_succ, ih]; grind
theorem sumN_mul {n : Nat} {f : Nat → R} {c : R} : sumN n (fun j => c * f j) = c * sumN n f := by
  induction n with
  | zero => simp only [sumN_zero]; grind
  | succ n ih => rw [sumN_succ, sumN_succ, ih]; grind
theorem sumN_zeros {n : Nat} {f : Nat → R} (h : ∀ j, j < n → f j = 0) : sumN n f = 0 := by
  induction n with
  | zero => rfl
  | succ n ih => rw [sumN_succ, ih fun j hj => h j (by omega), h n (by omega)]; grind
theorem sumN_first {n : Nat} {f : Nat → R} : sumN (n + 1) f = f 0 + sumN n (fun j => f (j + 1)) := by
  induction n with
  | zero => rw [sumN_succ, sumN_zero, sumN_zero]; grind
  | succ n ih => rw [sumN_succ, ih, sumN_succ]; grind
theorem sumN_comm {n m : Nat} {f : Nat → Nat → R} : sumN n (fun i => sumN m (fun j => f i j)) = sumN m (fun j => sumN n (fun i => f i j)) := by
  induction n with
  | zero => simp only [sumN_zero]; rw [sumN_zeros fun _ _ => rfl]
  | succ n ih => simp only [sumN_succ]; rw [sumN_add, ih]
theorem sumN_one {n k : Nat} {f : Nat → R} (hk : k < n) (h : ∀ j, j < n → j ≠ k → f j = 0) : sumN n f = f k := by
  induction n with
  | zero => omega
  | succ n ih =>
    rw [sumN_succ]
    by_cases e : k = n
    · subst e
      rw [sumN_zeros fun j hj => h j (by omega) (by omega)]; grind
    · rw [ih (by omega) fun j hj hn => h j (by omega) hn, h n (by omega) (by omega)]; grind

def sg (j : Nat) : R := if j % 2 = 0 then 1 else -1
theorem sg_succ (j : Nat) : (sg (j + 1) : R) = - sg j := by
  unfold sg
  by_cases h : j % 2 = 0
  · rw [if_pos h, if_neg (by omega)]
  · rw [if_neg h, if_pos (by omega)]; grind
def skip (j k : Nat) : Nat := if k < j then k else k + 1
theorem skip_ne {j k : Nat} : skip j k ≠ j := by unfold skip; split <;> omega
theorem skip_lt {j k n : Nat} (h : k < n) (hj : j < n + 1) : skip j k < n + 1 := by unfold skip; split <;> omega
abbrev Mat (R : Type) := Nat → Nat → R
def minor (A : Mat R) (j : Nat) : Mat R := fun i k => A (i + 1) (skip j k)
def det : Nat → Mat R → R
  | 0, _ => 1
  | n + 1, A => sumN (n + 1) fun j => sg j * A 0 j * det n (minor A j)
theorem det_zero (A : Mat R) : det 0 A = 1 := rfl
theorem det_succ (n : Nat) (A : Mat R) : det (n + 1) A = sumN (n + 1) fun j => sg j * A 0 j * det n (minor A j) := rfl
theorem det_congr : ∀ {n : Nat} {A B : Mat R}, (∀ i j, i < n → j < n → A i j = B i j) → det n A = det n B
  | 0, _, _, _ => rfl
  | n + 1, A, B, h => by
    rw [det_succ, det_succ]
    refine sumN_congr fun j hj => ?_
    rw [h 0 j (by omega) hj, det_congr (A := minor A j) (B := minor B j) fun i k hi hk => h (i + 1) (skip j k) (by omega) (skip_lt hk hj)]
/-! linear in each row -/
def setRow (A : Mat R) (r : Nat) (v : Nat → R) : Mat R := fun i j => if i = r then v j else A i j
theorem minor_setRow0 (A : Mat R) (v : Nat → R) (j : Nat) : minor (setRow A 0 v) j = minor A j := by
  funext i k
  unfold minor setRow
  rw [if_neg (by omega)]
theorem minor_setRowS (A : Mat R) (r : Nat) (v : Nat → R) (j : Nat) : minor (setRow A (r + 1) v) j = setRow (minor A j) r (fun k => v (skip j k)) := by
  funext i k
  unfold minor setRow
  by_cases h : i = r
  · rw [if_pos h, if_pos (by omega)]
  · rw [if_neg h, if_neg (by omega)]
theorem det_lin : ∀ {n : Nat} {A : Mat R} {r : Nat} {u v : Nat → R} {c : R}, r < n → det n (setRow A r (fun j => u j + c * v j)) = det n (setRow A r u) + c * det n (setRow A r v)
  | 0, _, _, _, _, _, h => by omega
  | n + 1, A, 0, u, v, c, _ => by
    rw [det_succ, det_succ, det_succ, ← sumN_mul, ← sumN_add]
    refine sumN_congr fun j hj => ?_
    rw [minor_setRow0, minor_setRow0, minor_setRow0]
    show sg j * (if 0 = 0 then u j + c * v j else A 0 j) * _ = sg j * (if 0 = 0 then u j else A 0 j) * _ + c * (sg j * (if 0 = 0 then v j else A 0 j) * _)
    rw [if_pos rfl, if_pos rfl, if_pos rfl]
    grind
  | n + 1, A, r + 1, u, v, c, h => by
    rw [det_succ, det_succ, det_succ, ← sumN_mul, ← sumN_add]
    refine sumN_congr fun j hj => ?_
    rw [minor_setRowS, minor_setRowS, minor_setRowS, det_lin (A := minor A j) (by omega)]
    show sg j * (if 0 = r + 1 then _ else A 0 j) * _ = sg j * (if 0 = r + 1 then _ else A 0 j) * _ + c * (sg j * (if 0 = r + 1 then _ else A 0 j) * _)
    rw [if_neg (by omega), if_neg (by omega), if_neg (by omega)]
    grind
theorem setRow_self (A : Mat R) (r : Nat) : setRow A r (A r) = A := by
  funext i j
  unfold setRow
  by_cases h : i = r
  · rw [if_pos h, h]
  · rw [if_neg h]
/-! equal rows -/
theorem sum_pairs {n : Nat} {f : Nat → Nat → R} (h : ∀ j k, j ≤ k → f (k + 1) j = - f j k) : sumN (n + 1) (fun j => sumN n (fun k => f j k)) = 0 := by
  -- the pairs (j, k) with j ≤ k against (k + 1, j)
  have key : ∀ m, sumN (m + 1) (fun j => sumN m (fun k => f j k)) = 0 := by
    intro m
    induction m with
    | zero => simp only [sumN_succ, sumN_zero]; grind
    | succ m ih =>
      rw [sumN_succ]
      have e1 : sumN (m + 1) (fun j => sumN (m + 1) fun k => f j k) = sumN (m + 1) (fun j => sumN m fun k => f j k) + sumN (m + 1) (fun j => f j m) := by
        rw [← sumN_add]
        exact sumN_congr fun j _ => sumN_succ m _
      have e2 : sumN (m + 1) (fun k => f (m + 1) k) = - sumN (m + 1) (fun j => f j m) := by
        have e3 : sumN (m + 1) (fun k => f (m + 1) k) = sumN (m + 1) (fun j => (-1) * f j m) := sumN_congr fun j hj => by rw [h j m (by omega)]; grind
        rw [e3, sumN_mul]; grind
      rw [e1, ih, e2]; grind
  exact key n
theorem skip_skip {j k c : Nat} (h : j ≤ k) : skip (k + 1) (skip j c) = skip j (skip k c) := by
  unfold skip
  repeat' split
  all_goals omega
theorem det_eq01 {n : Nat} {A : Mat R} (h : ∀ j, j < n + 2 → A 0 j = A 1 j) : det (n + 2) A = 0 := by
  rw [det_succ]
  have e : ∀ j, j < n + 2 → sg j * A 0 j * det (n + 1) (minor A j) = sumN (n + 1) (fun k => sg j * A 0 j * (sg k * A 1 (skip j k) * det n (minor (minor A j) k))) := fun j hj => by
    rw [det_succ, ← sumN_mul]
    rfl
  rw [sumN_congr e]
  have e2 : sumN (n + 2) (fun j => sumN (n + 1) (fun k => sg j * A 0 j * (sg k * A 1 (skip j k) * det n (minor (minor A j) k)))) =
      sumN (n + 2) (fun j => sumN (n + 1) (fun k => sg j * A 1 j * (sg k * A 1 (skip j k) * det n (minor (minor A j) k)))) :=
    sumN_congr fun j hj => sumN_congr fun k hk => by rw [h j hj]
  rw [e2]
  refine sum_pairs fun j k hjk => ?_
  have m : minor (minor A (k + 1)) j = minor (minor A j) k := by
    funext i c
    unfold minor
    rw [skip_skip hjk]
  rw [m, sg_succ]
  have s1 : skip (k + 1) j = j := by unfold skip; rw [if_pos (by omega)]
  have s2 : skip j k = k + 1 := by unfold skip; rw [if_neg (by omega)]
  rw [s1, s2]
  grind
def swapRow (A : Mat R) (r s : Nat) : Mat R := fun i j => A (if i = r then s else if i = s then r else i) j
theorem swap_of_alt {n : Nat} (alt : ∀ (A : Mat R) (r s : Nat), r < n → s < n → r ≠ s → (∀ j, A r j = A s j) → det n A = 0) (A : Mat R) {r s : Nat} (hr : r < n) (hs : s < n) (hn : r ≠ s) : det n (swapRow A r s) = - det n A := by
  let B (u v : Nat → R) : Mat R := setRow (setRow A r u) s v
  have hB : ∀ u u' v, det n (B (fun j => u j + 1 * u' j) v) = det n (B u v) + 1 * det n (B u' v) := fun u u' v => by
    have c : ∀ w, B w v = setRow (setRow A s v) r w := fun w => by
      funext i j
      show setRow (setRow A r w) s v i j = setRow (setRow A s v) r w i j
      unfold setRow
      by_cases h1 : i = s
      · rw [if_pos h1, if_neg (by omega), if_pos h1]
      · rw [if_neg h1]
        by_cases h2 : i = r
        · rw [if_pos h2, if_pos h2]
        · rw [if_neg h2, if_neg h2, if_neg h1]
    rw [c, c, c, det_lin hr]
  have hB2 : ∀ u v v', det n (B u (fun j => v j + 1 * v' j)) = det n (B u v) + 1 * det n (B u v') := fun u v v' => det_lin hs
  have z : ∀ u, det n (B u u) = 0 := fun u => alt _ r s hr hs hn fun j => by
    show setRow (setRow A r u) s u r j = setRow (setRow A r u) s u s j
    unfold setRow
    rw [if_neg hn, if_pos rfl, if_pos rfl]
  have e1 := z (fun j => A r j + 1 * A s j)
  rw [hB, hB2, hB2, z, z] at e1
  have e2 : B (A r) (A s) = A := by
    funext i j
    show setRow (setRow A r (A r)) s (A s) i j = A i j
    rw [setRow_self, setRow_self]
  have e3 : B (A s) (A r) = swapRow A r s := by
    funext i j
    show setRow (setRow A r (A s)) s (A r) i j = swapRow A r s i j
    unfold setRow swapRow
    by_cases h1 : i = s
    · rw [if_pos h1, if_neg (by omega), if_pos h1]
    · rw [if_neg h1]
      by_cases h2 : i = r
      · rw [if_pos h2, if_pos h2]
      · rw [if_neg h2, if_neg h2, if_neg h1]
  rw [e2, e3] at e1
  grind
theorem det_alt : ∀ (n : Nat) (A : Mat R) (r s : Nat), r < n → s < n → r ≠ s → (∀ j, A r j = A s j) → det n A = 0
  | 0, _, _, _, h, _, _, _ => by omega
  | 1, _, r, s, h, h2, hn, _ => by omega
  | n + 2, A, r, s, hr, hs, hn, h => by
    -- rows from 1 on
    have low : ∀ (A : Mat R) (r s : Nat), r < n + 2 → s < n + 2 → r ≠ s → 0 < r → 0 < s → (∀ j, A r j = A s j) → det (n + 2) A = 0 := fun A r s hr hs hn h1 h2 h => by
      rw [det_succ]
      refine sumN_zeros fun j hj => ?_
      rw [det_alt (n + 1) (minor A j) (r - 1) (s - 1) (by omega) (by omega) (by omega) fun k => by
        unfold minor
        rw [show r - 1 + 1 = r by omega, show s - 1 + 1 = s by omega]
        exact h _]
      grind
    have swp : ∀ (A : Mat R) (r s : Nat), r < n + 2 → s < n + 2 → r ≠ s → 0 < r → 0 < s → det (n + 2) (swapRow A r s) = - det (n + 2) A := fun A r s hr hs hn h1 h2 => by
      rw [det_succ, det_succ]
      have e : ∀ j, minor (swapRow A r s) j = swapRow (minor A j) (r - 1) (s - 1) := fun j => by
        funext i k
        show A (if i + 1 = r then s else if i + 1 = s then r else i + 1) (skip j k) = A ((if i = r - 1 then s - 1 else if i = s - 1 then r - 1 else i) + 1) (skip j k)
        have e : (if i + 1 = r then s else if i + 1 = s then r else i + 1) = (if i = r - 1 then s - 1 else if i = s - 1 then r - 1 else i) + 1 := by
          repeat' split
          all_goals omega
        rw [e]
      have e2 : sumN (n + 2) (fun j => sg j * swapRow A r s 0 j * det (n + 1) (minor (swapRow A r s) j)) = sumN (n + 2) (fun j => (-1) * (sg j * A 0 j * det (n + 1) (minor A j))) := sumN_congr fun j hj => by
        rw [e j, swap_of_alt (det_alt (n + 1)) (minor A j) (by omega) (by omega) (by omega)]
        have e3 : swapRow A r s 0 j = A 0 j := by
          unfold swapRow
          rw [if_neg (by omega), if_neg (by omega)]
        rw [e3]; grind
      rw [e2, sumN_mul]; grind
    -- row 0 against s > 0
    have zero : ∀ (A : Mat R) (s : Nat), 0 < s → s < n + 2 → (∀ j, A 0 j = A s j) → det (n + 2) A = 0 := fun A s h1 h2 h => by
      by_cases e : s = 1
      · subst e
        exact det_eq01 fun j _ => h j
      · have e2 := swp A 1 s (by omega) h2 (by omega) (by omega) h1
        have e3 : det (n + 2) (swapRow A 1 s) = 0 := det_eq01 fun j _ => by
          show A (if 0 = 1 then s else if 0 = s then 1 else 0) j = A (if 1 = 1 then s else if 1 = s then 1 else 1) j
          rw [if_neg (by omega), if_neg (by omega), if_pos rfl]
          exact h j
        rw [e3] at e2
        grind
    by_cases hr0 : r = 0
    · subst hr0
      exact zero A s (by omega) hs h
    · by_cases hs0 : s = 0
      · subst hs0
        exact zero A r (by omega) hr fun j => (h j).symm
      · exact low A r s hr hs hn (by omega) (by omega) h
theorem det_swap {n : Nat} (A : Mat R) {r s : Nat} (hr : r < n) (hs : s < n) (hn : r ≠ s) : det n (swapRow A r s) = - det n A := swap_of_alt (det_alt n) A hr hs hn
/-- a multiple of another row added -/
theorem det_addRow {n : Nat} (A : Mat R) {r s : Nat} (hr : r < n) (hs : s < n) (hn : r ≠ s) (c : R) : det n (setRow A r (fun j => A r j + c * A s j)) = det n A := by
  rw [det_lin hr, setRow_self, det_alt n (setRow A r (A s)) r s hr hs hn fun j => by
    unfold setRow
    rw [if_pos rfl, if_neg (by omega)]]
  grind
/-- multiples of row k added to the others -/
theorem det_addRows {n k : Nat} (hk : k < n) (A : Mat R) (q : Nat → R) (h0 : q k = 0) : det n (fun i j => A i j + q i * A k j) = det n A := by
  have key : ∀ m, m ≤ n → det n (fun i j => if i < m then A i j + q i * A k j else A i j) = det n A := by
    intro m
    induction m with
    | zero => intro _; exact det_congr fun i j _ _ => by rw [if_neg (by omega)]
    | succ m ih =>
      intro hm
      by_cases e : m = k
      · rw [← ih (by omega)]
        refine det_congr fun i j _ _ => ?_
        by_cases c : i < m
        · rw [if_pos c, if_pos (by omega)]
        · rw [if_neg c]
          by_cases c2 : i = m
          · rw [if_pos (by omega), c2, e, h0]; grind
          · rw [if_neg (by omega)]
      · rw [← ih (by omega), ← det_addRow (fun i j => if i < m then A i j + q i * A k j else A i j) (r := m) (s := k) (by omega) hk e (q m)]
        refine det_congr fun i j _ _ => ?_
        show (if i < m + 1 then A i j + q i * A k j else A i j) = if i = m then (if m < m then A m j + q m * A k j else A m j) + q m * (if k < m then A k j + q k * A k j else A k j) else (if i < m then A i j + q i * A k j else A i j)
        by_cases c2 : i = m
        · subst c2
          rw [if_pos (by omega), if_pos rfl, if_neg (by omega)]
          by_cases c3 : k < i
          · rw [if_pos c3, h0]; grind
          · rw [if_neg c3]
        · rw [if_neg c2]
          by_cases c : i < m
          · rw [if_pos c, if_pos (by omega)]
          · rw [if_neg c, if_neg (by omega)]
  rw [← key n (Nat.le_refl _)]
  exact det_congr fun i j hi _ => by rw [if_pos hi]
/-- a first column of noughts -/
theorem det_col0 : ∀ {n : Nat} {A : Mat R}, (∀ i, i < n + 1 → A i 0 = 0) → det (n + 1) A = 0
  | n, A, h => by
    rw [det_succ]
    refine sumN_zeros fun j hj => ?_
    by_cases e : j = 0
    · subst e
      rw [h 0 (by omega)]; grind
    · cases n with
      | zero => omega
      | succ n =>
        rw [det_col0 (A := minor A j) fun i hi => by
          unfold minor skip
          rw [if_pos (by omega)]
          exact h (i + 1) (by omega)]
        grind
/-- noughts below the corner -/
theorem det_corner {n : Nat} {A : Mat R} (h : ∀ i, i < n → A (i + 1) 0 = 0) : det (n + 1) A = A 0 0 * det n (fun i j => A (i + 1) (j + 1)) := by
  rw [det_succ, sumN_one (k := 0) (by omega) fun j hj hn => ?_]
  · have e : minor A 0 = fun i j => A (i + 1) (j + 1) := by
      funext i k
      unfold minor skip
      rw [if_neg (by omega)]
    rw [e]
    show (if 0 % 2 = 0 then (1 : R) else -1) * _ * _ = _
    rw [if_pos rfl]; grind
  · cases n with
    | zero => omega
    | succ n =>
      rw [det_col0 (A := minor A j) fun i hi => by
        unfold minor skip
        rw [if_pos (by omega)]
        exact h i (by omega)]
      grind
def prodN (n : Nat) (f : Nat → R) : R := match n with
  | 0 => 1
  | n + 1 => prodN n f * f n
theorem prodN_succ (n : Nat) (f : Nat → R) : prodN (n + 1) f = prodN n f * f n := rfl
theorem prodN_first {n : Nat} {f : Nat → R} : prodN (n + 1) f = f 0 * prodN n (fun j => f (j + 1)) := by
  induction n with
  | zero => show (1 : R) * f 0 = f 0 * 1; grind
  | succ n ih => rw [prodN_succ, ih, prodN_succ]; grind
theorem prodN_congr {n : Nat} {f g : Nat → R} (h : ∀ j, j < n → f j = g j) : prodN n f = prodN n g := by
  induction n with
  | zero => rfl
  | succ n ih => rw [prodN_succ, prodN_succ, ih fun j hj => h j (by omega), h n (by omega)]
/-- noughts below the long line -/
theorem det_upper : ∀ {n : Nat} {A : Mat R}, (∀ i j, i < n → j < i → A i j = 0) → det n A = prodN n (fun i => A i i)
  | 0, _, _ => rfl
  | n + 1, A, h => by
    rw [det_corner fun i hi => h (i + 1) 0 (by omega) (by omega), det_upper fun i j hi hj => h (i + 1) (j + 1) (by omega) (by omega), prodN_first]
end
end MD

/-! MBareiss: the fraction-free elimination reckons the determinant -/
namespace MD
open Lean.Grind

theorem sumN_cast : ∀ {n : Nat} {f : Nat → Int}, sumN n (fun j => ((f j : Int) : Rat)) = ((sumN n f : Int) : Rat)
  | 0, _ => rfl
  | n + 1, f => by rw [sumN_succ, sumN_succ, sumN_cast, Rat.intCast_add]
theorem sg_cast (j : Nat) : (sg j : Rat) = ((sg j : Int) : Rat) := by
  unfold sg
  split <;> rfl
theorem det_cast : ∀ {n : Nat} {A : Mat Int}, det n (fun i j => ((A i j : Int) : Rat)) = ((det n A : Int) : Rat)
  | 0, _ => rfl
  | n + 1, A => by
    rw [det_succ, det_succ, ← sumN_cast]
    refine sumN_congr fun j hj => ?_
    have e : minor (fun i j => ((A i j : Int) : Rat)) j = fun i k => ((minor A j i k : Int) : Rat) := rfl
    rw [e, det_cast, sg_cast, Rat.intCast_mul, Rat.intCast_mul]
theorem det_block0 {R : Type} [CommRing R] : ∀ {k n : Nat} {E : Mat R}, k < n → (∀ i j, i < n → j < k → j < i → E i j = 0) → (∀ i, k ≤ i → i < n → E i k = 0) → det n E = 0
  | 0, 0, _, h, _, _ => by omega
  | 0, n + 1, E, _, _, h => det_col0 fun i hi => h i (by omega) hi
  | k + 1, 0, _, h, _, _ => by omega
  | k + 1, n + 1, E, hk, hu, h => by
    rw [det_corner fun i hi => hu (i + 1) 0 (by omega) (by omega) (by omega), det_block0 (k := k) (n := n) (by omega) (fun i j hi hj hji => hu (i + 1) (j + 1) (by omega) (by omega) (by omega)) fun i h1 h2 => h (i + 1) (by omega) (by omega)]
    grind
/-- the rows 0 .. k - 1 and i, the columns 0 .. k - 1 and j -/
def bord (A : Mat Int) (k i j : Nat) : Mat Int := fun a b => A (if a < k then a else i) (if b < k then b else j)
structure BInv (n k : Nat) (A T : Mat Int) (found ahead : Int) : Prop where
  ex : ∃ (A' : Mat Int) (E : Mat Rat), det n A = found * det n A' ∧ (found = 1 ∨ found = -1) ∧ (∀ i, i < n → ∃ i', i' < n ∧ ∀ j, A' i j = A i' j) ∧
    (∀ i j, i < n → j < k → j < i → E i j = 0) ∧
    (∀ (m : Nat) (ρ c : Nat → Nat), k ≤ m → (∀ t, t < k → ρ t = t) → (∀ t, k ≤ t → t < m → k ≤ ρ t ∧ ρ t < n) → det m (fun a b => E (ρ a) (c b)) = det m (fun a b => ((A' (ρ a) (c b) : Int) : Rat))) ∧
    (ahead : Rat) = prodN k (fun l => E l l) ∧ ahead ≠ 0 ∧
    ∀ i j, k ≤ i → i < n → k ≤ j → j < n → (T i j : Rat) = prodN k (fun l => E l l) * E i j
theorem BInv.start {n : Nat} (A : Mat Int) : BInv n 0 A A 1 1 := ⟨A, fun i j => (A i j : Rat), by grind, .inl rfl, fun i hi => ⟨i, hi, fun _ => rfl⟩, fun _ _ _ h => by omega, fun _ _ _ _ _ _ => rfl, rfl, by decide, fun i j _ _ _ _ => by
  show (A i j : Rat) = 1 * (A i j : Rat)
  grind⟩
theorem castI {a b : Int} (h : (a : Rat) = (b : Rat)) : a = b := Rat.intCast_inj.mp h
/-- what stands at (i, j) is a minor -/
theorem BInv.minor {n k : Nat} {A T : Mat Int} {found ahead : Int} (h : BInv n k A T found ahead) : ∃ A' : Mat Int, (∀ i, i < n → ∃ i', i' < n ∧ ∀ j, A' i j = A i' j) ∧ (∀ i j, k ≤ i → i < n → k ≤ j → j < n → T i j = det (k + 1) (bord A' k i j)) ∧ (k ≤ n → ahead = det k A') := by
  obtain ⟨A', E, h1, h2, h3, h4, h5, h6, h7, h8⟩ := h.ex
  refine ⟨A', h3, fun i j hi hin hj hjn => castI ?_, fun hk => castI ?_⟩
  · rw [h8 i j hi hin hj hjn, ← det_cast]
    have e := h5 (k + 1) (fun t => if t < k then t else i) (fun t => if t < k then t else j) (by omega) (fun t ht => if_pos ht) (fun t h1 h2 => by rw [if_neg (by omega)]; exact ⟨hi, hin⟩)
    show _ = det (k + 1) (fun a b => ((A' (if a < k then a else i) (if b < k then b else j) : Int) : Rat))
    rw [← e, det_upper, prodN_succ, if_neg (by omega), if_neg (by omega)]
    · congr 1
      exact prodN_congr fun l hl => by simp only [if_pos hl]
    · intro a b ha hb
      rw [if_pos (show b < k by omega)]
      refine h4 _ _ ?_ (by omega) ?_
      · split <;> omega
      · split <;> omega
  · rw [h6, ← det_cast]
    have e := h5 k (fun t => t) (fun t => t) (Nat.le_refl _) (fun t _ => rfl) (fun t h1 h2 => by omega)
    rw [← e, det_upper fun a b ha hb => h4 a b (by omega) (by omega) hb]
theorem BInv.swap {n k at_ : Nat} {A T : Mat Int} {found ahead : Int} (h : BInv n k A T found ahead) (hk : k < n) (h1 : k < at_) (h2 : at_ < n) : BInv n k A (swapRow T k at_) (-found) ahead := by
  obtain ⟨A', E, e1, e2, e3, e4, e5, e6, e7, e8⟩ := h.ex
  refine ⟨swapRow A' k at_, swapRow E k at_, ?_, ?_, ?_, ?_, ?_, ?_, e7, ?_⟩
  · rw [det_swap A' hk h2 (by omega), e1]; grind
  · rcases e2 with e | e <;> subst e
    · exact .inr rfl
    · exact .inl (by decide)
  · intro i hi
    show ∃ i', i' < n ∧ ∀ j, A' (if i = k then at_ else if i = at_ then k else i) j = A i' j
    exact e3 _ (by split; omega; split <;> omega)
  · intro i j hi hj hji
    exact e4 _ j (by split; omega; split <;> omega) hj (by split; omega; split <;> omega)
  · intro m ρ c hm r1 r2
    exact e5 m (fun t => if ρ t = k then at_ else if ρ t = at_ then k else ρ t) c hm (fun t ht => by rw [r1 t ht, if_neg (by omega), if_neg (by omega)]) (fun t t1 t2 => by
      obtain ⟨q1, q2⟩ := r2 t t1 t2
      split
      · omega
      · split <;> omega)
  · rw [e6]
    exact prodN_congr fun l hl => by
      show E l l = E (if l = k then at_ else if l = at_ then k else l) l
      rw [if_neg (by omega), if_neg (by omega)]
  · intro i j hi hin hj hjn
    have e9 : prodN k (fun l => swapRow E k at_ l l) = prodN k (fun l => E l l) := prodN_congr fun l hl => by
      show E (if l = k then at_ else if l = at_ then k else l) l = E l l
      rw [if_neg (by omega), if_neg (by omega)]
    rw [e9]
    exact e8 _ j (by split; omega; split <;> omega) (by split; omega; split <;> omega) hj hjn
/-- one turn of the elimination -/
def bStep (k : Nat) (T : Mat Int) (ahead : Int) : Mat Int := fun i j => if k < i ∧ k < j then (T i j * T k k - T i k * T k j).fdiv ahead else T i j
theorem BInv.step {n k : Nat} {A T : Mat Int} {found ahead : Int} (h : BInv n k A T found ahead) (hk : k < n) (hp : T k k ≠ 0) : BInv n (k + 1) A (bStep k T ahead) found (T k k) := by
  obtain ⟨A', E, e1, e2, e3, e4, e5, e6, e7, e8⟩ := h.ex
  have hP : prodN k (fun l => E l l) ≠ 0 := by
    rw [← e6]
    exact fun z => e7 (castI z)
  have hkk := e8 k k (Nat.le_refl _) hk (Nat.le_refl _) hk
  have hE : E k k ≠ 0 := fun z => hp (castI (by rw [hkk, z]; grind))
  let q : Nat → Rat := fun i => if k < i then - (E i k / E k k) else 0
  let E' : Mat Rat := fun i j => E i j + q i * E k j
  have qk : ∀ i, i ≤ k → q i = 0 := fun i hi => if_neg (by omega)
  have El : ∀ i j, i ≤ k → E' i j = E i j := fun i j hi => by
    show E i j + q i * E k j = E i j
    rw [qk i hi]; grind
  have up : ∀ i j, i < n → j < k + 1 → j < i → E' i j = 0 := fun i j hi hj hji => by
    show E i j + q i * E k j = 0
    by_cases c : j < k
    · rw [e4 i j hi c hji]
      by_cases c2 : k ≤ i
      · rw [e4 k j hk c c]; grind
      · rw [qk i (by omega)]; grind
    · have : j = k := by omega
      subst this
      have : q i = - (E i j / E j j) := if_pos hji
      rw [this]
      grind
  have re : ∀ (m : Nat) (ρ c : Nat → Nat), k + 1 ≤ m → (∀ t, t < k + 1 → ρ t = t) → (∀ t, k + 1 ≤ t → t < m → k + 1 ≤ ρ t ∧ ρ t < n) → det m (fun a b => E' (ρ a) (c b)) = det m (fun a b => ((A' (ρ a) (c b) : Int) : Rat)) := fun m ρ c hm r1 r2 => by
    rw [← e5 m ρ c (by omega) (fun t ht => r1 t (by omega)) (fun t t1 t2 => by
      by_cases z : t = k
      · rw [z, r1 k (by omega)]; exact ⟨Nat.le_refl _, hk⟩
      · have := r2 t (by omega) t2; omega)]
    have g := det_addRows (n := m) (k := k) (by omega) (fun a b => E (ρ a) (c b)) (fun a => q (ρ a)) (by show q (ρ k) = 0; rw [r1 k (by omega)]; exact qk k (Nat.le_refl _))
    rw [← g]
    exact det_congr fun a b _ _ => by
      show E (ρ a) (c b) + q (ρ a) * E k (c b) = E (ρ a) (c b) + q (ρ a) * E (ρ k) (c b)
      rw [r1 k (by omega)]
  have pr : prodN (k + 1) (fun l => E' l l) = prodN k (fun l => E l l) * E k k := by
    rw [prodN_succ, El k k (Nat.le_refl _)]
    congr 1
    exact prodN_congr fun l hl => El l l (by omega)
  refine ⟨A', E', e1, e2, e3, up, re, ?_, hp, fun i j hi hin hj hjn => ?_⟩
  · rw [pr, hkk]
  · -- the division is exact
    have key : (T i j * T k k - T i k * T k j : Int) = ahead * det (k + 2) (bord A' (k + 1) i j) := castI (by
      have m : ((det (k + 2) (bord A' (k + 1) i j) : Int) : Rat) = prodN (k + 1) (fun l => E' l l) * E' i j := by
        rw [← det_cast]
        have e := re (k + 2) (fun t => if t < k + 1 then t else i) (fun t => if t < k + 1 then t else j) (by omega) (fun t ht => if_pos ht) (fun t h1 h2 => by rw [if_neg (by omega)]; exact ⟨hi, hin⟩)
        show det (k + 2) (fun a b => ((A' (if a < k + 1 then a else i) (if b < k + 1 then b else j) : Int) : Rat)) = _
        rw [← e, det_upper, prodN_succ, if_neg (by omega), if_neg (by omega)]
        · congr 1
          exact prodN_congr fun l hl => by simp only [if_pos hl]
        · intro a b ha hb
          rw [if_pos (show b < k + 1 by omega)]
          refine up _ _ ?_ (by omega) ?_
          · split <;> omega
          · split <;> omega
      rw [Rat.intCast_sub, Rat.intCast_mul, Rat.intCast_mul, Rat.intCast_mul, m, pr, e8 i j (by omega) hin (by omega) hjn, hkk, e8 i k (by omega) hin (Nat.le_refl _) hk, e8 k j (Nat.le_refl _) hk (by omega) hjn, e6]
      show _ = _ * (_ * (E i j + q i * E k j))
      have : q i = - (E i k / E k k) := if_pos (by omega)
      rw [this]
      grind)
    have ts : bStep k T ahead i j = det (k + 2) (bord A' (k + 1) i j) := by
      unfold bStep
      rw [if_pos ⟨by omega, by omega⟩, key, Int.mul_fdiv_cancel_left _ e7]
    rw [ts]
    rw [← det_cast]
    have e := re (k + 2) (fun t => if t < k + 1 then t else i) (fun t => if t < k + 1 then t else j) (by omega) (fun t ht => if_pos ht) (fun t h1 h2 => by rw [if_neg (by omega)]; exact ⟨hi, hin⟩)
    show det (k + 2) (fun a b => ((A' (if a < k + 1 then a else i) (if b < k + 1 then b else j) : Int) : Rat)) = _
    rw [← e, det_upper, prodN_succ, if_neg (by omega), if_neg (by omega)]
    · congr 1
      exact prodN_congr fun l hl => by simp only [if_pos hl]
    · intro a b ha hb
      rw [if_pos (show b < k + 1 by omega)]
      refine up _ _ ?_ (by omega) ?_
      · split <;> omega
      · split <;> omega
theorem BInv.none {n k : Nat} {A T : Mat Int} {found ahead : Int} (h : BInv n k A T found ahead) (hk : k < n) (hz : ∀ i, k ≤ i → i < n → T i k = 0) : det n A = 0 := by
  obtain ⟨A', E, e1, e2, e3, e4, e5, e6, e7, e8⟩ := h.ex
  have hP : prodN k (fun l => E l l) ≠ 0 := by
    rw [← e6]
    exact fun z => e7 (castI z)
  have z : det n E = 0 := det_block0 hk e4 fun i h1 h2 => by
    have := e8 i k h1 h2 (Nat.le_refl _) hk
    rw [hz i h1 h2] at this
    have z2 : ((0 : Int) : Rat) = 0 := rfl
    rw [z2] at this
    grind
  have e := e5 n (fun t => t) (fun t => t) (by omega) (fun t _ => rfl) (fun t h1 h2 => ⟨h1, h2⟩)
  have e9 : det n A' = 0 := castI (by rw [← det_cast, ← e]; exact z)
  rw [e1, e9]; grind
theorem BInv.done {n : Nat} {A T : Mat Int} {found ahead : Int} (h : BInv n n A T found ahead) : det n A = found * ahead := by
  obtain ⟨A', h3, h4, h5⟩ := h.minor
  obtain ⟨A', E, e1, e2, e3, e4, e5, e6, e7, e8⟩ := h.ex
  have e := e5 n (fun t => t) (fun t => t) (by omega) (fun t _ => rfl) (fun t h1 h2 => ⟨h1, h2⟩)
  have e9 : det n A' = ahead := castI (by rw [← det_cast, ← e, e6]; exact det_upper fun a b ha hb => e4 a b ha (by omega) hb)
  rw [e1, e9]
/-! how great they are -/
theorem natAbs_sumN {n : Nat} {f : Nat → Int} {B : Nat} (h : ∀ j, j < n → (f j).natAbs ≤ B) : (sumN n f).natAbs ≤ n * B := by
  induction n with
  | zero => show (0 : Int).natAbs ≤ _; omega
  | succ n ih =>
    rw [sumN_succ]
    have h1 := ih fun j hj => h j (by omega)
    have h2 := h n (by omega)
    have h3 := Int.natAbs_add_le (sumN n f) (f n)
    have h4 : (n + 1) * B = n * B + B := by rw [Nat.add_mul, Nat.one_mul]
    omega
def fac : Nat → Nat
  | 0 => 1
  | n + 1 => (n + 1) * fac n
theorem natAbs_det {B : Nat} : ∀ {n : Nat} {A : Mat Int}, (∀ i j, i < n → (A i j).natAbs ≤ B) → (det n A).natAbs ≤ fac n * B ^ n
  | 0, _, _ => by show (1 : Int).natAbs ≤ 1 * 1; decide
  | n + 1, A, h => by
    rw [det_succ]
    have e : fac (n + 1) * B ^ (n + 1) = (n + 1) * (B * (fac n * B ^ n)) := by
      show (n + 1) * fac n * B ^ (n + 1) = _
      rw [Nat.pow_succ]
      grind
    rw [e]
    refine natAbs_sumN fun j hj => ?_
    rw [Int.natAbs_mul, Int.natAbs_mul]
    have s : (sg j : Int).natAbs = 1 := by unfold sg; split <;> rfl
    rw [s, Nat.one_mul]
    exact Nat.mul_le_mul (h 0 j (by omega)) (natAbs_det fun i k hi => h (i + 1) _ (by omega))
theorem BInv.small {n k : Nat} {A T : Mat Int} {found ahead : Int} {B : Nat} (h : BInv n k A T found ahead) (hk : k ≤ n) (hA : ∀ i j, i < n → (A i j).natAbs ≤ B) : (∀ i j, k ≤ i → i < n → k ≤ j → j < n → (T i j).natAbs ≤ fac (k + 1) * B ^ (k + 1)) ∧ ahead.natAbs ≤ fac k * B ^ k ∧ ahead ≠ 0 := by
  obtain ⟨A', h3, h4, h5⟩ := h.minor
  have hA' : ∀ i j, i < n → (A' i j).natAbs ≤ B := fun i j hi => by
    obtain ⟨i', hi', e⟩ := h3 i hi
    rw [e]
    exact hA i' j hi'
  refine ⟨fun i j hi hin hj hjn => ?_, ?_, ?_⟩
  · rw [h4 i j hi hin hj hjn]
    exact natAbs_det fun a b ha => hA' _ _ (by split <;> omega)
  · rw [h5 hk]
    exact natAbs_det fun a b ha => hA' _ _ (by omega)
  · obtain ⟨_, _, _, _, _, _, _, _, e7, _⟩ := h.ex
    exact e7
end MD

/-! LWBase: data, what represents it, states told by slots, judgements of expressions -/
namespace LW
open PySem PySem.Spec PyProof.Rows L2

/-! ### data -/
inductive Dt where
  | non
  | bl (b : Bool)
  | int (i : Int)
  | str (x : Str)
  | tup (ds : List Dt)
  | lst (ds : List Dt)
  | dct (ks : List (List Int)) (ds : List Dt)
  | ins (C : Addr) (fs : List Str) (ds : List Dt)
  | scr (ns : List Int)

abbrev ikey (k : List Int) : List Key := k.map Sum.inl
abbrev ikv (ks : List (List Int)) (vs : List V) : List (List Key × V) := (ks.map ikey).zip vs

mutual
def Rep (K : PySem.W.Frag) (F : Hp) : Dt → V → Prop
  | .non, v => v = .non
  | .bl b, v => v = .bl b
  | .int i, v => v = .int i
  | .str x, v => v = .str x
  | .tup ds, v => ∃ a vs, v = .ref a ∧ F a = some (.tup vs) ∧ RepL K F ds vs
  | .lst ds, v => ∃ a vs, v = .ref a ∧ F a = some (.lst vs) ∧ RepL K F ds vs
  | .dct ks ds, v => ∃ a vs, v = .ref a ∧ F a = some (.dT (ikv ks vs)) ∧ ks.length = vs.length ∧ RepL K F ds vs
  | .ins C fs ds, v => ∃ a dx vs, v = .ref a ∧ F a = some (.ins C dx (fs.zip vs)) ∧ fs.length = vs.length ∧ RepL K F ds vs
  | .scr ns, v => ∃ a, v = .ref a ∧ SqL K F a (ns.map V.int)
def RepL (K : PySem.W.Frag) (F : Hp) : List Dt → List V → Prop
  | [], vs => vs = []
  | d :: ds, vs => ∃ v r, vs = v :: r ∧ Rep K F d v ∧ RepL K F ds r
end

section
variable {K : PySem.W.Frag} {F F' : Hp}
mutual
theorem Rep.mono (e : Same F F') : ∀ (d : Dt) (v : V), Rep K F d v → Rep K F' d v
  | .non, _, h => h
  | .bl _, _, h => h
  | .int _, _, h => h
  | .str _, _, h => h
  | .tup ds, _, h => by
    obtain ⟨a, vs, e1, e2, e3⟩ := h
    exact ⟨a, vs, e1, e _ _ e2, RepL.mono e ds vs e3⟩
  | .lst ds, _, h => by
    obtain ⟨a, vs, e1, e2, e3⟩ := h
    exact ⟨a, vs, e1, e _ _ e2, RepL.mono e ds vs e3⟩
  | .dct ks ds, _, h => by
    obtain ⟨a, vs, e1, e2, e4, e3⟩ := h
    exact ⟨a, vs, e1, e _ _ e2, e4, RepL.mono e ds vs e3⟩
  | .ins C fs ds, _, h => by
    obtain ⟨a, dx, vs, e1, e2, e4, e3⟩ := h
    exact ⟨a, dx, vs, e1, e _ _ e2, e4, RepL.mono e ds vs e3⟩
  | .scr ns, _, h => by
    obtain ⟨a, e1, e2⟩ := h
    exact ⟨a, e1, e.seq e2⟩
theorem RepL.mono (e : Same F F') : ∀ (ds : List Dt) (vs : List V), RepL K F ds vs → RepL K F' ds vs
  | [], _, h => h
  | d :: ds, _, h => by
    obtain ⟨v, r, e1, e2, e3⟩ := h
    exact ⟨v, r, e1, Rep.mono e d v e2, RepL.mono e ds r e3⟩
end
theorem RepL.nil : RepL K F [] [] := rfl
theorem RepL.cons {d : Dt} {v : V} {ds : List Dt} {vs : List V} (h : Rep K F d v) (t : RepL K F ds vs) : RepL K F (d :: ds) (v :: vs) := ⟨v, vs, rfl, h, t⟩
theorem RepL.inv {d : Dt} {v : V} {ds : List Dt} {vs : List V} (h : RepL K F (d :: ds) (v :: vs)) : Rep K F d v ∧ RepL K F ds vs := by
  obtain ⟨v', r, e, h1, h2⟩ := h
  cases e
  exact ⟨h1, h2⟩
theorem RepL.len : ∀ {ds : List Dt} {vs : List V}, RepL K F ds vs → ds.length = vs.length
  | [], _, h => by cases h; rfl
  | d :: ds, _, h => by
    obtain ⟨v, r, rfl, _, h2⟩ := h
    show ds.length + 1 = r.length + 1
    rw [h2.len]
theorem RepL.get : ∀ {ds : List Dt} {vs : List V} {i : Nat} {d : Dt}, RepL K F ds vs → ds[i]? = some d → ∃ v, vs[i]? = some v ∧ Rep K F d v
  | [], _, i, d, h, e => by simp at e
  | d :: ds, _, 0, d', h, e => by
    obtain ⟨v, r, rfl, h1, h2⟩ := h
    have e' : d = d' := Option.some.inj e
    exact ⟨v, rfl, e' ▸ h1⟩
  | d :: ds, _, i + 1, d', h, e => by
    obtain ⟨v, r, rfl, h1, h2⟩ := h
    exact h2.get (i := i) e
theorem RepL.app : ∀ {ds es : List Dt} {vs us : List V}, RepL K F ds vs → RepL K F es us → RepL K F (ds ++ es) (vs ++ us)
  | [], _, _, _, h, g => by cases h; exact g
  | d :: ds, _, _, _, h, g => by
    obtain ⟨v, r, rfl, h1, h2⟩ := h
    exact ⟨v, _, rfl, h1, h2.app g⟩
theorem RepL.snoc {ds : List Dt} {d : Dt} {vs : List V} {v : V} (h : RepL K F ds vs) (g : Rep K F d v) : RepL K F (ds ++ [d]) (vs ++ [v]) := h.app (.cons g .nil)
theorem RepL.take : ∀ {ds : List Dt} {vs : List V} (n : Nat), RepL K F ds vs → RepL K F (ds.take n) (vs.take n)
  | _, _, 0, _ => rfl
  | [], _, n + 1, h => by cases h; rfl
  | d :: ds, _, n + 1, h => by
    obtain ⟨v, r, rfl, h1, h2⟩ := h
    exact ⟨v, _, rfl, h1, h2.take n⟩
theorem RepL.drop : ∀ {ds : List Dt} {vs : List V} (n : Nat), RepL K F ds vs → RepL K F (ds.drop n) (vs.drop n)
  | _, _, 0, h => h
  | [], _, n + 1, h => by cases h; rfl
  | d :: ds, _, n + 1, h => by
    obtain ⟨v, r, rfl, h1, h2⟩ := h
    exact h2.drop n
theorem RepL.set : ∀ {ds : List Dt} {vs : List V} {d : Dt} {v : V} (i : Nat), RepL K F ds vs → Rep K F d v → RepL K F (ds.set i d) (vs.set i v)
  | [], _, _, _, i, h, _ => by cases h; rfl
  | d :: ds, _, _, _, 0, h, g => by
    obtain ⟨v, r, rfl, h1, h2⟩ := h
    exact ⟨_, _, rfl, g, h2⟩
  | d :: ds, _, _, _, i + 1, h, g => by
    obtain ⟨v, r, rfl, h1, h2⟩ := h
    exact ⟨_, _, rfl, h1, h2.set i g⟩
theorem RepL.erase : ∀ {ds : List Dt} {vs : List V} (i : Nat), RepL K F ds vs → RepL K F (ds.eraseIdx i) (vs.eraseIdx i)
  | [], _, i, h => by cases h; rfl
  | d :: ds, _, 0, h => by
    obtain ⟨v, r, rfl, h1, h2⟩ := h
    exact h2
  | d :: ds, _, i + 1, h => by
    obtain ⟨v, r, rfl, h1, h2⟩ := h
    exact ⟨_, _, rfl, h1, h2.erase i⟩
theorem RepL.ints : ∀ {ns : List Int} {vs : List V}, RepL K F (ns.map .int) vs → vs = ns.map V.int
  | [], _, h => h
  | n :: ns, _, h => by
    obtain ⟨v, r, rfl, h1, h2⟩ := h
    rw [h2.ints, show v = .int n from h1]
    rfl
theorem RepL.of_ints : ∀ (ns : List Int), RepL K F (ns.map .int) (ns.map V.int)
  | [] => rfl
  | n :: ns => ⟨_, _, rfl, rfl, RepL.of_ints ns⟩
theorem RepL.strs : ∀ {ns : List Str} {vs : List V}, RepL K F (ns.map .str) vs → vs = ns.map V.str
  | [], _, h => h
  | n :: ns, _, h => by
    obtain ⟨v, r, rfl, h1, h2⟩ := h
    rw [h2.strs, show v = .str n from h1]
    rfl
theorem RepL.of_strs : ∀ (ns : List Str), RepL K F (ns.map .str) (ns.map V.str)
  | [] => rfl
  | n :: ns => ⟨_, _, rfl, rfl, RepL.of_strs ns⟩
theorem RepL.bls : ∀ {ns : List Bool} {vs : List V}, RepL K F (ns.map .bl) vs → vs = ns.map V.bl
  | [], _, h => h
  | n :: ns, _, h => by
    obtain ⟨v, r, rfl, h1, h2⟩ := h
    rw [h2.bls, show v = .bl n from h1]
    rfl
end

/-! ### heaps that grow -/
def tupO (o : HO) : Prop := ∃ xs, o = .tup xs
def mutO (o : HO) : Prop := (∃ xs, o = .lst xs) ∨ ∃ kvs, o = .dT kvs
/-- F the part whose objects are never written again, H the whole: both grow; what F gains is new (or a tuple) -/
structure Grow (F H F' H' : Hp) : Prop where
  ff : Same F F'
  hh : Same H H'
  fh : Same F' H'
  nw : ∀ a o, F' a = some o → ∀ u, H a = some u → F a = some o ∨ tupO o
theorem Grow.refl {F H : Hp} (h : Same F H) : Grow F H F H := ⟨Same.refl _, Same.refl _, h, fun _ _ e _ _ => .inl e⟩
theorem Grow.trans {F H F1 H1 F2 H2 : Hp} (a : Grow F H F1 H1) (b : Grow F1 H1 F2 H2) : Grow F H F2 H2 :=
  ⟨a.ff.trans b.ff, a.hh.trans b.hh, b.fh, fun x o e u hu => (b.nw x o e u (a.hh x u hu)).elim (fun e1 => a.nw x o e1 u hu) .inr⟩
theorem same_new {H : Hp} {p : Addr} {o : HO} (h : H p = none) : Same H (upd H p o) := fun a u e => by
  rw [upd_ne (ne_of_none e h)]
  exact e
theorem same_upd2 {F H : Hp} (h : Same F H) (p : Addr) (o : HO) : Same (upd F p o) (upd H p o) := fun a u e => by
  by_cases q : a = p
  · subst q
    rw [upd_same] at e ⊢
    exact e
  · rw [upd_ne q] at e ⊢
    exact h a u e
theorem same_none {F H : Hp} (h : Same F H) {p : Addr} (e : H p = none) : F p = none := h.free e
/-- a new object that is not written again -/
theorem Grow.new {F H : Hp} (h : Same F H) {p : Addr} {o : HO} (e : H p = none) : Grow F H (upd F p o) (upd H p o) :=
  ⟨same_new (same_none h e), same_new e, same_upd2 h p o, fun a u q w hw => by
    rw [upd_ne (ne_of_none hw e)] at q
    exact .inl q⟩
/-- a new object that is ours -/
theorem Grow.own {F H : Hp} (h : Same F H) {p : Addr} {o : HO} (e : H p = none) : Grow F H F (upd H p o) :=
  ⟨Same.refl _, same_new e, h.trans (same_new e), fun _ _ q _ _ => .inl q⟩

/-! ### states -/
inductive Sl where
  | no
  | val (d : Dt)
  | lst (ds : List Dt)
  | dct (ks : List (List Int)) (ds : List Dt)
  | mat (rows : List (List Dt))

abbrev Ow := Addr → Option Nat
def MatOk (K : PySem.W.Frag) (F H : Hp) (ow : Ow) (i : Nat) : List (List Dt) → List Addr → Prop
  | [], as => as = []
  | r :: rs, as => ∃ a t vs, as = a :: t ∧ H a = some (.lst vs) ∧ ow a = some i ∧ RepL K F r vs ∧ MatOk K F H ow i rs t
def SlOk (K : PySem.W.Frag) (F H : Hp) (ow : Ow) (i : Nat) (x : Option V) : Sl → Prop
  | .no => True
  | .val d => ∃ v, x = some v ∧ Rep K F d v
  | .lst ds => ∃ a vs, x = some (.ref a) ∧ H a = some (.lst vs) ∧ ow a = some i ∧ RepL K F ds vs
  | .dct ks ds => ∃ a vs, x = some (.ref a) ∧ H a = some (.dT (ikv ks vs)) ∧ ow a = some i ∧ ks.length = vs.length ∧ RepL K F ds vs
  | .mat rows => ∃ a as, x = some (.ref a) ∧ H a = some (.lst (as.map V.ref)) ∧ ow a = some i ∧ (a :: as).Nodup ∧ MatOk K F H ow i rows as

structure Stt (K : PySem.W.Frag) (F0 H0 F H : Hp) (ow : Ow) (σ : L2.St) (ss : List Sl) : Prop where
  g0 : Grow F0 H0 F H
  own : ∀ a i, ow a = some i → F a = none ∧ H0 a = none ∧ ∃ o, H a = some o ∧ mutO o
  len : σ.length = ss.length
  sl : ∀ i s x, ss[i]? = some s → σ[i]? = some x → SlOk K F H ow i x s

section
variable {K : PySem.W.Frag} {F0 H0 F H F' H' : Hp} {ow : Ow} {σ : L2.St} {ss : List Sl}
theorem not_tup {o : HO} (m : mutO o) : ¬ tupO o := by
  rintro ⟨xs, rfl⟩
  rcases m with ⟨_, e⟩ | ⟨_, e⟩ <;> cases e
theorem own_keep (g : Grow F H F' H') (o : ∀ a i, ow a = some i → F a = none ∧ H0 a = none ∧ ∃ o, H a = some o ∧ mutO o) :
    ∀ a i, ow a = some i → F' a = none ∧ H0 a = none ∧ ∃ o, H' a = some o ∧ mutO o := fun a i e => by
  obtain ⟨e1, e2, u, e3, m⟩ := o a i e
  have e4 := g.hh a u e3
  refine ⟨?_, e2, u, e4, m⟩
  cases q : F' a with
  | none => rfl
  | some x =>
    have e5 := g.fh a x q
    rw [e4] at e5
    cases e5
    rcases g.nw a u q u e3 with z | z
    · rw [e1] at z; cases z
    · exact absurd z (not_tup m)
theorem MatOk.mono (ff : Same F F') (hh : Same H H') {i : Nat} : ∀ {rows : List (List Dt)} {as : List Addr}, MatOk K F H ow i rows as → MatOk K F' H' ow i rows as
  | [], _, h => h
  | r :: rs, _, h => by
    obtain ⟨a, t, vs, e, e1, e2, e3, e4⟩ := h
    exact ⟨a, t, vs, e, hh _ _ e1, e2, RepL.mono ff _ _ e3, e4.mono ff hh⟩
theorem SlOk.mono (ff : Same F F') (hh : Same H H') {i : Nat} {x : Option V} : ∀ {s : Sl}, SlOk K F H ow i x s → SlOk K F' H' ow i x s
  | .no, h => h
  | .val d, h => by
    obtain ⟨v, e, r⟩ := h
    exact ⟨v, e, Rep.mono ff _ _ r⟩
  | .lst ds, h => by
    obtain ⟨a, vs, e, e1, e2, e3⟩ := h
    exact ⟨a, vs, e, hh _ _ e1, e2, RepL.mono ff _ _ e3⟩
  | .dct ks ds, h => by
    obtain ⟨a, vs, e, e1, e2, e4, e3⟩ := h
    exact ⟨a, vs, e, hh _ _ e1, e2, e4, RepL.mono ff _ _ e3⟩
  | .mat rows, h => by
    obtain ⟨a, as, e, e1, e2, e4, e3⟩ := h
    exact ⟨a, as, e, hh _ _ e1, e2, e4, e3.mono ff hh⟩
theorem Stt.grow (S : Stt K F0 H0 F H ow σ ss) (g : Grow F H F' H') : Stt K F0 H0 F' H' ow σ ss :=
  ⟨S.g0.trans g, own_keep g S.own, S.len, fun i s x e1 e2 => (S.sl i s x e1 e2).mono g.ff g.hh⟩
theorem Stt.fh (S : Stt K F0 H0 F H ow σ ss) : Same F H := S.g0.fh
/-- the loop's base: F0 moved to F -/
theorem Stt.rebase (S : Stt K F0 H0 F H ow σ ss) : Stt K F H0 F H ow σ ss :=
  ⟨⟨Same.refl _, S.g0.hh, S.g0.fh, fun _ _ e _ _ => .inl e⟩, S.own, S.len, S.sl⟩
theorem Stt.unbase {F1 : Hp} (a : Same F0 F1) (n : ∀ a o, F1 a = some o → ∀ u, H0 a = some u → F0 a = some o ∨ tupO o) (S : Stt K F1 H0 F H ow σ ss) : Stt K F0 H0 F H ow σ ss :=
  ⟨⟨a.trans S.g0.ff, S.g0.hh, S.g0.fh, fun x o e u hu => (S.g0.nw x o e u hu).elim (fun e1 => n x o e1 u hu) .inr⟩, S.own, S.len, S.sl⟩
/-- what is not written again, and ours -/
def Rr (F H : Hp) (ow : Ow) : Hp := fun a => if (ow a).isSome = true then H a else F a
theorem Rr_f (o : ∀ a i, ow a = some i → F a = none ∧ H0 a = none ∧ ∃ o, H a = some o ∧ mutO o) : Same F (Rr F H ow) := fun a u e => by
  unfold Rr
  split
  · rename_i h
    obtain ⟨i, hi⟩ := Option.isSome_iff_exists.mp h
    rw [(o a i hi).1] at e
    cases e
  · exact e
theorem Rr_h (fh : Same F H) : Same (Rr F H ow) H := fun a u e => by
  unfold Rr at e
  split at e
  · exact e
  · exact fh _ _ e
theorem Rr_mono (ff : Same F F') (hh : Same H H') : Same (Rr F H ow) (Rr F' H' ow) := fun a u e => by
  unfold Rr at e ⊢
  split at e
  · rename_i h
    rw [if_pos h]
    exact hh _ _ e
  · rename_i h
    rw [if_neg h]
    exact ff _ _ e
theorem Rr_grow (g : Grow F0 H0 F H) (o : ∀ a i, ow a = some i → F a = none ∧ H0 a = none ∧ ∃ o, H a = some o ∧ mutO o) : Grow F0 H0 (Rr F H ow) H :=
  ⟨g.ff.trans (Rr_f o), g.hh, Rr_h g.fh, fun a u e w hw => by
    unfold Rr at e
    split at e
    · rename_i h
      obtain ⟨i, hi⟩ := Option.isSome_iff_exists.mp h
      rw [(o a i hi).2.1] at hw
      cases hw
    · exact g.nw a u e w hw⟩
end

/-! ### what is wanted, over the text itself -/
section
variable (X : Cx)
structure wE (e : Expr) (σ : L2.St) (H : Hp) (Q : VK) : Prop where
  go : ∀ pins s, Inv X pins σ H s → wpAny (model X.prog X.w) X.A (eval e X.env) (EP X pins σ Q) X.xe s
structure wT (e : Expr) (σ : L2.St) (H : Hp) (Q : Bool → Hp → Prop) : Prop where
  go : ∀ pins s, Inv X pins σ H s → wpAny (model X.prog X.w) X.A (isTrue e X.env (eval e X.env)) (TP X pins σ Q) X.xe s
structure wA (es : List Expr) (σ : L2.St) (H : Hp) (Q : List V → Hp → Prop) : Prop where
  go : ∀ pos pins s, Inv X pins σ H s → wpAny (model X.prog X.w) X.A (spliced (backTo pos (starEach es X.env))) (AP X pins σ Q) X.xe s
structure wS (st : Stmt) (D : Ends) (σ : L2.St) (H : Hp) : Prop where
  go : ∀ pins s, Inv X pins σ H s → wpAny (model X.prog X.w) X.A (exec st X.env) (SP X pins D) X.xe s
structure wSs (st : List Stmt) (D : Ends) (σ : L2.St) (H : Hp) : Prop where
  go : ∀ pins s, Inv X pins σ H s → wpAny (model X.prog X.w) X.A (execs st X.env) (SP X pins D) X.xe s
end
section
variable {X : Cx}
theorem pE {e : Expr} : PE X e (wE X e) := ⟨fun pins s σ H Q I h => h.go pins s I⟩
theorem pT {e : Expr} : PT X e (wT X e) := ⟨fun pins s σ H Q I h => h.go pins s I⟩
theorem pA {es : List Expr} : PA X es (wA X es) := ⟨fun pos pins s σ H Q I h => h.go pos pins s I⟩
theorem pS {st : Stmt} : PS X st (wS X st) := ⟨fun pins s σ H D I h => h.go pins s I⟩
theorem pSs {st : List Stmt} : PSs X st (wSs X st) := ⟨fun pins s σ H D I h => h.go pins s I⟩
theorem wE_of {e : Expr} {t : TE} {σ : L2.St} {H : Hp} {Q : VK} (h : PE X e t) (q : t σ H Q) : wE X e σ H Q := ⟨fun pins s I => h.run pins s σ H Q I q⟩
theorem wT_of {e : Expr} {t : TT} {σ : L2.St} {H : Hp} {Q : Bool → Hp → Prop} (h : PT X e t) (q : t σ H Q) : wT X e σ H Q := ⟨fun pins s I => h.run pins s σ H Q I q⟩
theorem wA_of {es : List Expr} {t : TA} {σ : L2.St} {H : Hp} {Q : List V → Hp → Prop} (h : PA X es t) (q : t σ H Q) : wA X es σ H Q := ⟨fun pos pins s I => h.run pos pins s σ H Q I q⟩
theorem wS_of {st : Stmt} {t : TS} {σ : L2.St} {H : Hp} {D : Ends} (h : PS X st t) (q : t D σ H) : wS X st D σ H := ⟨fun pins s I => h.run pins s σ H D I q⟩
theorem wSs_of {st : List Stmt} {t : TS} {σ : L2.St} {H : Hp} {D : Ends} (h : PSs X st t) (q : t D σ H) : wSs X st D σ H := ⟨fun pins s I => h.run pins s σ H D I q⟩
end

/-! ### judgements -/
/-- e evaluates to d, which is not written again -/
def EvE (X : Cx) (e : Expr) (ss : List Sl) (d : Dt) : Prop := ∀ F0 H0 F H ow σ, Stt X.K F0 H0 F H ow σ ss → ∀ Q : VK, (∀ v F' H', Grow F H F' H' → Rep X.K F' d v → Q v H') → wE X e σ H Q
/-- e evaluates to d, which may lean on what is ours -/
def EvB (X : Cx) (e : Expr) (ss : List Sl) (d : Dt) : Prop := ∀ F0 H0 F H ow σ, Stt X.K F0 H0 F H ow σ ss → ∀ Q : VK, (∀ v F' H', Grow F H F' H' → Rep X.K (Rr F' H' ow) d v → Q v H') → wE X e σ H Q
/-- e evaluates to a new list of ds -/
def EvL (X : Cx) (e : Expr) (ss : List Sl) (ds : List Dt) : Prop := ∀ F0 H0 F H ow σ, Stt X.K F0 H0 F H ow σ ss → ∀ Q : VK, (∀ p vs F' H', Grow F H F' H' → H p = none → F' p = none → H' p = some (.lst vs) → RepL X.K F' ds vs → Q (.ref p) H') → wE X e σ H Q
def EvT (X : Cx) (e : Expr) (ss : List Sl) (b : Bool) : Prop := ∀ F0 H0 F H ow σ, Stt X.K F0 H0 F H ow σ ss → ∀ Q : Bool → Hp → Prop, (∀ F' H', Grow F H F' H' → Q b H') → wT X e σ H Q
def EvA (X : Cx) (es : List Expr) (ss : List Sl) (ds : List Dt) : Prop := ∀ F0 H0 F H ow σ, Stt X.K F0 H0 F H ow σ ss → ∀ Q : List V → Hp → Prop, (∀ vs F' H', Grow F H F' H' → RepL X.K F' ds vs → Q vs H') → wA X es σ H Q
def EvAB (X : Cx) (es : List Expr) (ss : List Sl) (ds : List Dt) : Prop := ∀ F0 H0 F H ow σ, Stt X.K F0 H0 F H ow σ ss → ∀ Q : List V → Hp → Prop, (∀ vs F' H', Grow F H F' H' → RepL X.K (Rr F' H' ow) ds vs → Q vs H') → wA X es σ H Q

section
variable {X : Cx} {e : Expr} {es : List Expr} {ss : List Sl} {d : Dt} {ds : List Dt}
theorem EvE.b (h : EvE X e ss d) : EvB X e ss d := fun F0 H0 F H ow σ S Q q => h F0 H0 F H ow σ S Q fun v F' H' g r => q v F' H' g (Rep.mono (Rr_f (own_keep g S.own)) _ _ r)
theorem EvA.b (h : EvA X es ss ds) : EvAB X es ss ds := fun F0 H0 F H ow σ S Q q => h F0 H0 F H ow σ S Q fun v F' H' g r => q v F' H' g (RepL.mono (Rr_f (own_keep g S.own)) _ _ r)
theorem EvL.ev (h : EvL X e ss ds) : EvE X e ss (.lst ds) := fun F0 H0 F H ow σ S Q q => h F0 H0 F H ow σ S Q fun p vs F' H' g e1 e2 e3 r =>
  q (.ref p) (upd F' p (.lst vs)) H' ⟨g.ff.trans (same_new e2), g.hh, fun a u ha => by
      by_cases z : a = p
      · subst z
        rw [upd_same] at ha
        cases ha
        exact e3
      · rw [upd_ne z] at ha
        exact g.fh a u ha, fun a u ha w hw => by
      have z : a ≠ p := ne_of_none hw e1
      rw [upd_ne z] at ha
      exact g.nw a u ha w hw⟩ ⟨p, vs, rfl, upd_same, RepL.mono (same_new e2) _ _ r⟩
mutual
/-- immutable all through: tuples and scalars -/
def imm : Dt → Bool
  | .non => true
  | .bl _ => true
  | .int _ => true
  | .str _ => true
  | .tup ds => immL ds
  | _ => false
def immL : List Dt → Bool
  | [] => true
  | d :: ds => imm d && immL ds
end
/-- the tuples of H beside F -/
def tupF (F H : Hp) : Hp := fun a => match F a with
  | some o => some o
  | none => (match H a with
    | some (.tup xs) => some (.tup xs)
    | _ => none)
theorem tupF_f {F H : Hp} : Same F (tupF F H) := fun a o e => by
  unfold tupF
  rw [e]
theorem tupF_h {F H : Hp} (fh : Same F H) : Same (tupF F H) H := fun a o e => by
  unfold tupF at e
  split at e
  · rename_i u hu
    cases e
    exact fh _ _ hu
  · split at e
    · rename_i xs hx
      cases e
      exact hx
    · cases e
theorem tupF_tup {F H G : Hp} (fh : Same F H) (gh : Same G H) {a : Addr} {xs : List V} (e : G a = some (.tup xs)) : tupF F H a = some (.tup xs) := by
  unfold tupF
  have e2 := gh _ _ e
  cases q : F a with
  | none =>
    show (match H a with
    | some (.tup xs) => some (HO.tup xs)
    | _ => none) = _
    rw [e2]
  | some o =>
    have e3 := fh _ _ q
    rw [e2] at e3
    cases e3
    rfl
theorem tupF_grow {F H F' H' : Hp} (g : Grow F H F' H') : Grow F H (tupF F' H') H' :=
  ⟨g.ff.trans tupF_f, g.hh, tupF_h g.fh, fun a u e w hw => by
    unfold tupF at e
    split at e
    · rename_i o ho
      cases e
      exact g.nw a _ ho w hw
    · split at e
      · rename_i xs hx
        cases e
        exact .inr ⟨xs, rfl⟩
      · cases e⟩
mutual
theorem imm_rep {K : PySem.W.Frag} {F H G : Hp} (fh : Same F H) (gh : Same G H) : ∀ (d : Dt) (v : V), imm d = true → Rep K G d v → Rep K (tupF F H) d v
  | .non, _, _, h => h
  | .bl _, _, _, h => h
  | .int _, _, _, h => h
  | .str _, _, _, h => h
  | .tup ds, _, m, h => by
    obtain ⟨a, vs, e1, e2, e3⟩ := h
    exact ⟨a, vs, e1, tupF_tup fh gh e2, immL_rep fh gh ds vs (by simpa [imm] using m) e3⟩
  | .lst _, _, m, _ => by simp [imm] at m
  | .dct _ _, _, m, _ => by simp [imm] at m
  | .ins _ _ _, _, m, _ => by simp [imm] at m
  | .scr _, _, m, _ => by simp [imm] at m
theorem immL_rep {K : PySem.W.Frag} {F H G : Hp} (fh : Same F H) (gh : Same G H) : ∀ (ds : List Dt) (vs : List V), immL ds = true → RepL K G ds vs → RepL K (tupF F H) ds vs
  | [], _, _, h => h
  | d :: ds, _, m, h => by
    obtain ⟨v, r, e, h1, h2⟩ := h
    have m' : imm d = true ∧ immL ds = true := by simpa [immL] using m
    exact ⟨v, r, e, imm_rep fh gh d v m'.1 h1, immL_rep fh gh ds r m'.2 h2⟩
end
theorem EvB.imm (m : LW.imm d = true) (h : EvB X e ss d) : EvE X e ss d := fun F0 H0 F H ow σ S Q q => h F0 H0 F H ow σ S Q fun v F' H' g r =>
  q v (tupF F' H') H' (tupF_grow g) (imm_rep g.fh (Rr_h g.fh) _ _ m r)
end
end LW

/-! LWExpr: rules of expressions -/
namespace LW
open PySem PySem.Spec PyProof.Rows L2

theorem sz {n : Nat} (h : n ≤ 16777216) : n ≤ sizeLine := by rw [sizeLine_eq]; exact h
theorem szl {n : Nat} (h : n < 16777216) : n < sizeLine := by rw [sizeLine_eq]; exact h

section
variable {X : Cx} {a b c e o : Expr} {es : List Expr} {ss : List Sl} {d d1 d2 d3 : Dt} {ds ds2 : List Dt} {pos p : Pos}

theorem Stt.at {K : PySem.W.Frag} {F0 H0 F H : Hp} {ow : Ow} {σ : L2.St} {s : Sl} {i : Nat} (S : Stt K F0 H0 F H ow σ ss) (h : ss[i]? = some s) : ∃ x, σ[i]? = some x ∧ SlOk K F H ow i x s := by
  have l : i < σ.length := by
    rw [S.len]
    exact (List.getElem?_eq_some_iff.mp h).1
  exact ⟨σ[i], List.getElem?_eq_getElem l, S.sl i s _ h (List.getElem?_eq_getElem l)⟩

/-! ### names, constants -/
theorem e_nm (i : Nat) {x : Str} (hN : X.N[i]? = some x := by rfl) (hs : ss[i]? = some (.val d) := by rfl) (hv : Vis X.env.scope x := by first | exact Or.inl rfl | exact Or.inr (Or.inl rfl) | exact Or.inr (Or.inr rfl))
    (hd : (x == ("__debug__" : Str)) = false := by decide) (hcd : (x == ("__classdict__" : Str)) = false := by decide) : EvE X (.Name x pos) ss d := fun F0 H0 F H ow σ S Q q => by
  obtain ⟨y, hy, v, rfl, r⟩ := S.at hs
  exact wE_of (pv i hN hv hd hcd) ⟨v, hy, q v F H (.refl S.fh) r⟩
theorem b_nm (i : Nat) {x : Str} (hN : X.N[i]? = some x := by rfl) (hs : ss[i]? = some (.lst ds) := by rfl) (hv : Vis X.env.scope x := by first | exact Or.inl rfl | exact Or.inr (Or.inl rfl) | exact Or.inr (Or.inr rfl))
    (hd : (x == ("__debug__" : Str)) = false := by decide) (hcd : (x == ("__classdict__" : Str)) = false := by decide) : EvB X (.Name x pos) ss (.lst ds) := fun F0 H0 F H ow σ S Q q => by
  obtain ⟨y, hy, ad, vs, rfl, e1, e2, r⟩ := S.at hs
  refine wE_of (pv i hN hv hd hcd) ⟨_, hy, q _ F H (.refl S.fh) ⟨ad, vs, rfl, ?_, RepL.mono (Rr_f S.own) _ _ r⟩⟩
  unfold Rr
  rw [if_pos (by rw [e2]; rfl)]
  exact e1
theorem b_nmD (i : Nat) {x : Str} {ks : List (List Int)} (hN : X.N[i]? = some x := by rfl) (hs : ss[i]? = some (.dct ks ds) := by rfl) (hv : Vis X.env.scope x := by first | exact Or.inl rfl | exact Or.inr (Or.inl rfl) | exact Or.inr (Or.inr rfl))
    (hd : (x == ("__debug__" : Str)) = false := by decide) (hcd : (x == ("__classdict__" : Str)) = false := by decide) : EvB X (.Name x pos) ss (.dct ks ds) := fun F0 H0 F H ow σ S Q q => by
  obtain ⟨y, hy, ad, vs, rfl, e1, e2, e3, r⟩ := S.at hs
  refine wE_of (pv i hN hv hd hcd) ⟨_, hy, q _ F H (.refl S.fh) ⟨ad, vs, rfl, ?_, e3, RepL.mono (Rr_f S.own) _ _ r⟩⟩
  unfold Rr
  rw [if_pos (by rw [e2]; rfl)]
  exact e1
theorem mat_repl {K : PySem.W.Frag} {F H : Hp} {ow : Ow} {i : Nat} (o : Same F (Rr F H ow)) : ∀ {rows : List (List Dt)} {as : List Addr}, MatOk K F H ow i rows as → RepL K (Rr F H ow) (rows.map Dt.lst) (as.map V.ref)
  | [], _, h => by cases h; rfl
  | r :: rs, _, h => by
    obtain ⟨ad, t, vs, rfl, e1, e2, e3, e4⟩ := h
    refine .cons ⟨ad, vs, rfl, ?_, RepL.mono o _ _ e3⟩ (mat_repl o e4)
    unfold Rr
    rw [if_pos (by rw [e2]; rfl)]
    exact e1
theorem b_nmM (i : Nat) {x : Str} {rows : List (List Dt)} (hN : X.N[i]? = some x := by rfl) (hs : ss[i]? = some (.mat rows) := by rfl) (hv : Vis X.env.scope x := by first | exact Or.inl rfl | exact Or.inr (Or.inl rfl) | exact Or.inr (Or.inr rfl))
    (hd : (x == ("__debug__" : Str)) = false := by decide) (hcd : (x == ("__classdict__" : Str)) = false := by decide) : EvB X (.Name x pos) ss (.lst (rows.map .lst)) := fun F0 H0 F H ow σ S Q q => by
  obtain ⟨y, hy, ad, vs, rfl, e1, e2, e3, r⟩ := S.at hs
  refine wE_of (pv i hN hv hd hcd) ⟨_, hy, q _ F H (.refl S.fh) ⟨ad, _, rfl, ?_, mat_repl (Rr_f S.own) r⟩⟩
  unfold Rr
  rw [if_pos (by rw [e2]; rfl)]
  exact e1
theorem e_int {i : Int} {j : Nat} : EvE X (.Constant (.int i) j pos) ss (.int i) := fun F0 H0 F H ow σ S Q q => wE_of pe_int (q _ F H (.refl S.fh) rfl)
theorem e_bl {i : Bool} {j : Nat} : EvE X (.Constant (.bool i) j pos) ss (.bl i) := fun F0 H0 F H ow σ S Q q => wE_of pe_bl (q _ F H (.refl S.fh) rfl)
theorem e_non {j : Nat} : EvE X (.Constant .none j pos) ss .non := fun F0 H0 F H ow σ S Q q => wE_of pe_non (q _ F H (.refl S.fh) rfl)
theorem e_str {i : Str} {j : Nat} : EvE X (.Constant (.str i) j pos) ss (.str i) := fun F0 H0 F H ow σ S Q q => wE_of pe_str (q _ F H (.refl S.fh) rfl)
/-- a module's int -/
theorem e_gi {x : Str} {i : Int} (hm : ∃ t, X.mg x = some (.int i t)) (hg : Gl X x := by rfl) (hd : (x == ("__debug__" : Str)) = false := by decide) : EvE X (.Name x pos) ss (.int i) := fun F0 H0 F H ow σ S Q q => by
  obtain ⟨t, hm⟩ := hm
  exact wE_of (pe_glob (v := .int i) hg hm ⟨t, rfl⟩ hd) (q _ F H (.refl S.fh) rfl)

/-! ### two-place operations -/
def OpD (X : Cx) (f : Value → Value → Sem Value) (d1 d2 d : Dt) : Prop := ∃ r : R2, OpR X f r ∧ ∀ (F H : Hp) (v1 v2 : V) (Q : VK), Same F H → Rep X.K F d1 v1 → Rep X.K F d2 v2 → (∀ v F' H', Grow F H F' H' → Rep X.K F' d v → Q v H') → r v1 v2 H Q
theorem bin_go {t : TE} {f : Value → Value → Sem Value} (ha : EvE X a ss d1) (hb : EvE X b ss d2) (ho : OpD X f d1 d2 d) (hp : ∀ r, OpR X f r → PE X e (tOp r (wE X a) (wE X b))) : EvE X e ss d := fun F0 H0 F H ow σ S Q q => by
  obtain ⟨r, hr, go⟩ := ho
  refine wE_of (hp r hr) (ha F0 H0 F H ow σ S _ fun v1 F1 H1 g1 r1 => ?_)
  refine hb F0 H0 F1 H1 ow σ (S.grow g1) _ fun v2 F2 H2 g2 r2 => ?_
  exact go F2 H2 v1 v2 Q g2.fh (Rep.mono g2.ff _ _ r1) r2 fun v F' H' g r => q v F' H' ((g1.trans g2).trans g) r
theorem bin_goB {f : Value → Value → Sem Value} (ha : EvB X a ss d1) (hb : EvB X b ss d2) (ho : OpD X f d1 d2 d) (hp : ∀ r, OpR X f r → PE X e (tOp r (wE X a) (wE X b))) (m : imm d = true) : EvE X e ss d := fun F0 H0 F H ow σ S Q q => by
  obtain ⟨r, hr, go⟩ := ho
  refine wE_of (hp r hr) (ha F0 H0 F H ow σ S _ fun v1 F1 H1 g1 r1 => ?_)
  have S1 := S.grow g1
  refine hb F0 H0 F1 H1 ow σ S1 _ fun v2 F2 H2 g2 r2 => ?_
  have S2 := S1.grow g2
  refine go (Rr F2 H2 ow) H2 v1 v2 Q (Rr_h g2.fh) (Rep.mono (Rr_mono g2.ff g2.hh) _ _ r1) r2 fun v F' H' g r => ?_
  have g3 : Grow F2 H2 F2 H' := ⟨same_refl, g.hh, g2.fh.trans g.hh, fun _ _ e _ _ => .inl e⟩
  exact q v (tupF F2 H') H' ((g1.trans g2).trans (tupF_grow g3)) (imm_rep g3.fh g.fh _ _ m r)
where same_refl {H : Hp} : Same H H := Same.refl H
theorem e_bin {op : Operator} (ha : EvE X a ss d1) (hb : EvE X b ss d2) (ho : OpD X (binaryOp op) d1 d2 d) : EvE X (.BinOp a op b pos) ss d := bin_go (t := fun _ _ _ => True) ha hb ho fun r hr => pe_op hr pE pE
theorem e_cmp {op : CmpOp} (ha : EvE X a ss d1) (hb : EvE X b ss d2) (ho : OpD X (compareOp op) d1 d2 d) (hm : behindInMarks op b = false := by first | exact nomark _ | with_unfolding_all rfl) : EvE X (.Compare a [op] [b] pos) ss d := bin_go (t := fun _ _ _ => True) ha hb ho fun r hr => pe_cmpR hr pE pE hm
theorem e_cmpB {op : CmpOp} (ha : EvB X a ss d1) (hb : EvB X b ss d2) (ho : OpD X (compareOp op) d1 d2 d) (hm : behindInMarks op b = false := by first | exact nomark _ | with_unfolding_all rfl) (m : imm d = true := by rfl) : EvE X (.Compare a [op] [b] pos) ss d := bin_goB ha hb ho (fun r hr => pe_cmpR hr pE pE hm) m
theorem t_cmp {op : CmpOp} {k : Bool} (ha : EvE X a ss d1) (hb : EvE X b ss d2) (ho : OpD X (compareOp op) d1 d2 (.bl k)) (hm : behindInMarks op b = false := by first | exact nomark _ | with_unfolding_all rfl) : EvT X (.Compare a [op] [b] pos) ss k := fun F0 H0 F H ow σ S Q q => by
  obtain ⟨r, hr, go⟩ := ho
  refine wT_of (pt_cmpR hr pE pE hm) (ha F0 H0 F H ow σ S _ fun v1 F1 H1 g1 r1 => ?_)
  refine hb F0 H0 F1 H1 ow σ (S.grow g1) _ fun v2 F2 H2 g2 r2 => ?_
  exact go F2 H2 v1 v2 _ g2.fh (Rep.mono g2.ff _ _ r1) r2 fun v F' H' g r => ⟨k, r, q F' H' ((g1.trans g2).trans g)⟩
theorem t_cmpB {op : CmpOp} {k : Bool} (ha : EvB X a ss d1) (hb : EvB X b ss d2) (ho : OpD X (compareOp op) d1 d2 (.bl k)) (hm : behindInMarks op b = false := by first | exact nomark _ | with_unfolding_all rfl) : EvT X (.Compare a [op] [b] pos) ss k := fun F0 H0 F H ow σ S Q q => by
  obtain ⟨r, hr, go⟩ := ho
  refine wT_of (pt_cmpR hr pE pE hm) (ha F0 H0 F H ow σ S _ fun v1 F1 H1 g1 r1 => ?_)
  have S1 := S.grow g1
  refine hb F0 H0 F1 H1 ow σ S1 _ fun v2 F2 H2 g2 r2 => ?_
  refine go (Rr F2 H2 ow) H2 v1 v2 _ (Rr_h g2.fh) (Rep.mono (Rr_mono g2.ff g2.hh) _ _ r1) r2 fun v F' H' g r => ⟨k, r, ?_⟩
  exact q F2 H' ((g1.trans g2).trans ⟨Same.refl _, g.hh, g2.fh.trans g.hh, fun _ _ e _ _ => .inl e⟩)

/-! the operations -/
theorem od_I0 {f : Value → Value → Sem Value} {g : Int → Int → V} {i j : Int} (h : OpR X f (rI0 g)) (hg : ∀ F, Rep X.K F d (g i j)) : OpD X f (.int i) (.int j) d :=
  ⟨_, h, fun F H v1 v2 Q fh r1 r2 q => ⟨i, j, r1, r2, q _ F H (.refl fh) (hg F)⟩⟩
theorem od_I {f : Value → Value → Sem Value} {C : Int → Int → Prop} {g : Int → Int → V} {i j : Int} (h : OpR X f (rI C g)) (hc : C i j) (hg : ∀ F, Rep X.K F d (g i j)) : OpD X f (.int i) (.int j) d :=
  ⟨_, h, fun F H v1 v2 Q fh r1 r2 q => ⟨i, j, r1, r2, hc, q _ F H (.refl fh) (hg F)⟩⟩
theorem od_add {i j : Int} : OpD X (binaryOp .Add) (.int i) (.int j) (.int (i + j)) := od_I0 op_add fun _ => rfl
theorem od_sub {i j : Int} : OpD X (binaryOp .Sub) (.int i) (.int j) (.int (i - j)) := od_I0 op_sub fun _ => rfl
theorem od_mul {i j : Int} (h : CMul i j) : OpD X (binaryOp .Mult) (.int i) (.int j) (.int (i * j)) := od_I op_mul h fun _ => rfl
theorem od_mulW {i j : Int} (h : CMulW i j) : OpD X (binaryOp .Mult) (.int i) (.int j) (.int (i * j)) := od_I op_mulW h fun _ => rfl
theorem od_fdiv {i j : Int} (h : CDiv i j) : OpD X (binaryOp .FloorDiv) (.int i) (.int j) (.int (i / j)) := od_I op_fdiv h fun _ => rfl
def CDivA (_ j : Int) : Prop := j ≠ 0 ∧ j.natAbs.log2 < 9000
theorem op_fdivA : OpR X (binaryOp .FloorDiv) (rI CDivA fun i j => .int (i.fdiv j)) := opI fun i j _ _ _ _ _ hc q => floordiv_int hc.1 q (.inl (PyProof.noPylong_of_log2 hc.2))
theorem od_fdivA {i j : Int} (h : CDivA i j) : OpD X (binaryOp .FloorDiv) (.int i) (.int j) (.int (i.fdiv j)) := od_I op_fdivA h fun _ => rfl
theorem od_mod {i j : Int} (h : 0 < j) : OpD X (binaryOp .Mod) (.int i) (.int j) (.int (i % j)) := od_I op_mod h fun _ => rfl
theorem od_pow {i j : Int} (h : CPow i j) : OpD X (binaryOp .Pow) (.int i) (.int j) (.int (i ^ j.toNat)) := od_I op_pow h fun _ => rfl
theorem od_lt {i j : Int} : OpD X (compareOp .Lt) (.int i) (.int j) (.bl (decide (i < j))) := od_I0 op_lt fun _ => rfl
theorem od_le {i j : Int} : OpD X (compareOp .LtE) (.int i) (.int j) (.bl (decide (i ≤ j))) := od_I0 op_le fun _ => rfl
theorem od_gt {i j : Int} : OpD X (compareOp .Gt) (.int i) (.int j) (.bl (decide (j < i))) := od_I0 op_gt fun _ => rfl
theorem od_ge {i j : Int} : OpD X (compareOp .GtE) (.int i) (.int j) (.bl (decide (j ≤ i))) := od_I0 op_ge fun _ => rfl
theorem od_eqI {i j : Int} : OpD X (compareOp .Eq) (.int i) (.int j) (.bl (decide (i = j))) :=
  ⟨_, op_eq, fun F H v1 v2 Q fh r1 r2 q => by
    cases r1; cases r2
    refine ⟨rfl, q _ F H (.refl fh) ?_⟩
    show V.bl _ = V.bl _
    simp⟩
theorem od_neI {i j : Int} : OpD X (compareOp .NotEq) (.int i) (.int j) (.bl (!decide (i = j))) :=
  ⟨_, op_ne, fun F H v1 v2 Q fh r1 r2 q => by
    cases r1; cases r2
    refine ⟨rfl, q _ F H (.refl fh) ?_⟩
    show V.bl _ = V.bl _
    simp⟩
theorem od_eqS {i j : Str} : OpD X (compareOp .Eq) (.str i) (.str j) (.bl (decide (i = j))) :=
  ⟨_, op_eq, fun F H v1 v2 Q fh r1 r2 q => by
    cases r1; cases r2
    refine ⟨rfl, q _ F H (.refl fh) ?_⟩
    show V.bl _ = V.bl _
    simp⟩
theorem od_neS {i j : Str} : OpD X (compareOp .NotEq) (.str i) (.str j) (.bl (!decide (i = j))) :=
  ⟨_, op_ne, fun F H v1 v2 Q fh r1 r2 q => by
    cases r1; cases r2
    refine ⟨rfl, q _ F H (.refl fh) ?_⟩
    show V.bl _ = V.bl _
    simp⟩
def isNon : Dt → Bool
  | .non => true
  | _ => false
theorem isNon_rep {K : PySem.W.Frag} {F : Hp} {v : V} : ∀ {d : Dt}, Rep K F d v → decide (v = .non) = isNon d
  | .non, h => by cases h; rfl
  | .bl _, h => by cases h; rfl
  | .int _, h => by cases h; rfl
  | .str _, h => by cases h; rfl
  | .tup _, h => by obtain ⟨_, _, rfl, _⟩ := h; rfl
  | .lst _, h => by obtain ⟨_, _, rfl, _⟩ := h; rfl
  | .dct _ _, h => by obtain ⟨_, _, rfl, _⟩ := h; rfl
  | .ins _ _ _, h => by obtain ⟨_, _, _, rfl, _⟩ := h; rfl
  | .scr _, h => by obtain ⟨_, rfl, _⟩ := h; rfl
theorem od_isN : OpD X (compareOp .Is) d .non (.bl (isNon d)) := ⟨_, op_isN, fun F H v1 v2 Q fh r1 r2 q => ⟨r2, q _ F H (.refl fh) (by rw [isNon_rep r1]; rfl)⟩⟩
theorem od_notN : OpD X (compareOp .IsNot) d .non (.bl (!isNon d)) := ⟨_, op_notN, fun F H v1 v2 Q fh r1 r2 q => ⟨r2, q _ F H (.refl fh) (by rw [isNon_rep r1]; rfl)⟩⟩
theorem od_addS {i j : Str} (h : i.length + j.length ≤ sizeLine) : OpD X (binaryOp .Add) (.str i) (.str j) (.str (i ++ j)) := ⟨_, op_add_str, fun F H v1 v2 Q fh r1 r2 q => ⟨i, j, r1, r2, h, q _ F H (.refl fh) rfl⟩⟩
theorem od_inS {i j : Str} : OpD X (compareOp .In) (.str i) (.str j) (.bl (!(Builtin.Str.occurrences j i 0 j.length 1).isEmpty)) := ⟨_, op_in_str, fun F H v1 v2 Q fh r1 r2 q => ⟨i, j, r1, r2, q _ F H (.refl fh) rfl⟩⟩

/-! deep data -/
mutual
def toP : Dt → PyData
  | .non => .none
  | .bl b => .bool b
  | .int i => .int i
  | .str x => .str x
  | .tup ds => .tuple (toPL ds)
  | .lst ds => .list (toPL ds)
  | _ => .none
def toPL : List Dt → List PyData
  | [] => []
  | d :: ds => toP d :: toPL ds
end
mutual
def isP : Dt → Bool
  | .non => true
  | .bl _ => true
  | .int _ => true
  | .str _ => true
  | .tup ds => isPL ds
  | .lst ds => isPL ds
  | _ => false
def isPL : List Dt → Bool
  | [] => true
  | d :: ds => isP d && isPL ds
end
mutual
theorem rep_dp {K : PySem.W.Frag} {F H : Hp} (fh : Same F H) : ∀ (d : Dt) (v : V), isP d = true → Rep K F d v → Dp K H v (toP d)
  | .non, _, _, h => by cases h; exact .non
  | .bl b, _, _, h => by cases h; exact .bl b
  | .int b, _, _, h => by cases h; exact .int b
  | .str b, _, _, h => by cases h; exact .str b
  | .tup ds, _, m, h => by
    obtain ⟨a, vs, rfl, e, r⟩ := h
    exact .tup (SqT.of (fh _ _ e)) (repL_dp fh ds vs (by simpa [isP] using m) r)
  | .lst ds, _, m, h => by
    obtain ⟨a, vs, rfl, e, r⟩ := h
    exact .lst (SqL.of (fh _ _ e)) (repL_dp fh ds vs (by simpa [isP] using m) r)
  | .dct _ _, _, m, _ => by simp [isP] at m
  | .ins _ _ _, _, m, _ => by simp [isP] at m
  | .scr _, _, m, _ => by simp [isP] at m
theorem repL_dp {K : PySem.W.Frag} {F H : Hp} (fh : Same F H) : ∀ (ds : List Dt) (vs : List V), isPL ds = true → RepL K F ds vs → DpAll K H vs (toPL ds)
  | [], _, _, h => by cases h; exact .nil
  | d :: ds, _, m, h => by
    obtain ⟨v, r, rfl, h1, h2⟩ := h
    have m' : isP d = true ∧ isPL ds = true := by simpa [isPL] using m
    exact .cons (rep_dp fh d v m'.1 h1) (repL_dp fh ds r m'.2 h2)
end
structure Shp (d : Dt) : Prop where
  p : isP d = true
  s : SeqAt.shaped (toP d) = true
theorem od_eqD (hu : X.A.units + 64 < cLine) (h1 : Shp d1) (h2 : Shp d2) : OpD X (compareOp .Eq) d1 d2 (.bl (PyData.eqv (toP d1) (toP d2))) := ⟨_, op_eqD hu, fun F H v1 v2 Q fh r1 r2 q =>
  ⟨_, _, rep_dp fh _ _ h1.p r1, rep_dp fh _ _ h2.p r2, h1.s, h2.s, q _ F H (.refl fh) rfl⟩⟩
theorem od_neD (hu : X.A.units + 64 < cLine) (h1 : Shp d1) (h2 : Shp d2) : OpD X (compareOp .NotEq) d1 d2 (.bl (!PyData.eqv (toP d1) (toP d2))) := ⟨_, op_neD hu, fun F H v1 v2 Q fh r1 r2 q =>
  ⟨_, _, rep_dp fh _ _ h1.p r1, rep_dp fh _ _ h2.p r2, h1.s, h2.s, q _ F H (.refl fh) rfl⟩⟩
theorem od_inD (hu : X.A.units + 65 < cLine) (h1 : Shp d) (h2 : Shp (.lst ds)) : OpD X (compareOp .In) d (.lst ds) (.bl ((toPL ds).any fun z => PyData.eqv z (toP d))) := ⟨_, op_inD hu, fun F H v1 v2 Q fh r1 r2 q =>
  ⟨_, _, rep_dp fh _ _ h1.p r1, rep_dp fh _ _ h2.p r2, h1.s, h2.s, q _ F H (.refl fh) rfl⟩⟩
theorem od_notInD (hu : X.A.units + 65 < cLine) (h1 : Shp d) (h2 : Shp (.lst ds)) : OpD X (compareOp .NotIn) d (.lst ds) (.bl (!(toPL ds).any fun z => PyData.eqv z (toP d))) := ⟨_, op_notInD hu, fun F H v1 v2 Q fh r1 r2 q =>
  ⟨_, _, rep_dp fh _ _ h1.p r1, rep_dp fh _ _ h2.p r2, h1.s, h2.s, q _ F H (.refl fh) rfl⟩⟩

/-! ### one place, tests, ands and ors -/
theorem e_neg {i : Int} (h : EvE X a ss (.int i)) : EvE X (.UnaryOp .USub a pos) ss (.int (-i)) := fun F0 H0 F H ow σ S Q q =>
  wE_of (pe_un un_neg pE) (h F0 H0 F H ow σ S _ fun v F1 H1 g r => ⟨i, r, q _ F1 H1 g rfl⟩)
theorem e_not {k : Bool} (h : EvE X a ss (.bl k)) : EvE X (.UnaryOp .Not a pos) ss (.bl (!k)) := fun F0 H0 F H ow σ S Q q =>
  wE_of (pe_not pE) (h F0 H0 F H ow σ S _ fun v F1 H1 g r => ⟨k, r, q _ F1 H1 g rfl⟩)
theorem t_val {k : Bool} (h : EvE X a ss (.bl k)) (he : ∀ whole, isTrue a X.env whole = (do let v ← whole; standAt a.pos; holding [v] (truthy v)) := by intro _; rfl) : EvT X a ss k := fun F0 H0 F H ow σ S Q q =>
  wT_of (pt_val pE he) (h F0 H0 F H ow σ S _ fun v F1 H1 g r => ⟨k, r, q F1 H1 g⟩)
theorem t_not {k : Bool} (h : EvT X a ss k) : EvT X (.UnaryOp .Not a pos) ss (!k) := fun F0 H0 F H ow σ S Q q => wT_of (pt_not pT) (h F0 H0 F H ow σ S _ fun F1 H1 g => q F1 H1 g)
/-- an and, an or, whatever stands around it -/
def EvW (X : Cx) (e : Expr) (ss : List Sl) (b : Bool) : Prop := ∃ t : TT, PW X e t ∧ ∀ F0 H0 F H ow σ, Stt X.K F0 H0 F H ow σ ss → ∀ Q : Bool → Hp → Prop, (∀ F' H', Grow F H F' H' → Q b H') → t σ H Q
theorem w_and1 {k : Bool} (h : EvT X a ss k) : EvW X (.BoolOp .And [a] pos) ss k := ⟨_, pw_and1 pT, h⟩
theorem w_or1 {k : Bool} (h : EvT X a ss k) : EvW X (.BoolOp .Or [a] pos) ss k := ⟨_, pw_or1 pT, h⟩
theorem w_and {k j : Bool} {rest : List Expr} (h : EvT X a ss k) (h2 : k = true → EvW X (.BoolOp .And (b :: rest) pos) ss j) (h3 : ∃ t, PW X (.BoolOp .And (b :: rest) pos) t) : EvW X (.BoolOp .And (a :: b :: rest) pos) ss (k && j) := by
  cases k with
  | true =>
    obtain ⟨t, ht, go⟩ := h2 rfl
    refine ⟨_, pw_and pT ht, fun F0 H0 F H ow σ S Q q => h F0 H0 F H ow σ S _ fun F1 H1 g => ?_⟩
    rw [if_pos rfl]
    exact go F0 H0 F1 H1 ow σ (S.grow g) Q fun F2 H2 g2 => q F2 H2 (g.trans g2)
  | false =>
    obtain ⟨t, ht⟩ := h3
    refine ⟨_, pw_and pT ht, fun F0 H0 F H ow σ S Q q => h F0 H0 F H ow σ S _ fun F1 H1 g => ?_⟩
    rw [if_neg Bool.false_ne_true]
    exact q F1 H1 g
theorem w_or {k j : Bool} {rest : List Expr} (h : EvT X a ss k) (h2 : k = false → EvW X (.BoolOp .Or (b :: rest) pos) ss j) (h3 : ∃ t, PW X (.BoolOp .Or (b :: rest) pos) t) : EvW X (.BoolOp .Or (a :: b :: rest) pos) ss (k || j) := by
  cases k with
  | false =>
    obtain ⟨t, ht, go⟩ := h2 rfl
    refine ⟨_, pw_or pT ht, fun F0 H0 F H ow σ S Q q => h F0 H0 F H ow σ S _ fun F1 H1 g => ?_⟩
    rw [if_neg Bool.false_ne_true]
    exact go F0 H0 F1 H1 ow σ (S.grow g) Q fun F2 H2 g2 => q F2 H2 (g.trans g2)
  | true =>
    obtain ⟨t, ht⟩ := h3
    refine ⟨_, pw_or pT ht, fun F0 H0 F H ow σ S Q q => h F0 H0 F H ow σ S _ fun F1 H1 g => ?_⟩
    rw [if_pos rfl]
    exact q F1 H1 g
theorem pw_ex_and : ∀ (a : Expr) (rest : List Expr) (pos : Pos), ∃ t, PW X (.BoolOp .And (a :: rest) pos) t
  | a, [], pos => ⟨_, pw_and1 pT⟩
  | a, b :: rest, pos => by
    obtain ⟨t, ht⟩ := pw_ex_and b rest pos
    exact ⟨_, pw_and pT ht⟩
theorem pw_ex_or : ∀ (a : Expr) (rest : List Expr) (pos : Pos), ∃ t, PW X (.BoolOp .Or (a :: rest) pos) t
  | a, [], pos => ⟨_, pw_or1 pT⟩
  | a, b :: rest, pos => by
    obtain ⟨t, ht⟩ := pw_ex_or b rest pos
    exact ⟨_, pw_or pT ht⟩
theorem t_and2 {k j : Bool} (h : EvT X a ss k) (h2 : k = true → EvT X b ss j) : EvW X (.BoolOp .And [a, b] pos) ss (k && j) := w_and h (fun e => w_and1 (h2 e)) (pw_ex_and b [] pos)
theorem t_and3 {k j l : Bool} (h : EvT X a ss k) (h2 : k = true → EvT X b ss j) (h3 : k = true → j = true → EvT X c ss l) : EvW X (.BoolOp .And [a, b, c] pos) ss (k && (j && l)) :=
  w_and h (fun e => w_and (h2 e) (fun e2 => w_and1 (h3 e e2)) (pw_ex_and c [] pos)) (pw_ex_and b [c] pos)
theorem t_and4 {e4 : Expr} {k j l m : Bool} (h : EvT X a ss k) (h2 : k = true → EvT X b ss j) (h3 : k = true → j = true → EvT X c ss l) (h4 : k = true → j = true → l = true → EvT X e4 ss m) : EvW X (.BoolOp .And [a, b, c, e4] pos) ss (k && (j && (l && m))) :=
  w_and h (fun e => w_and (h2 e) (fun e2 => w_and (h3 e e2) (fun e3 => w_and1 (h4 e e2 e3)) (pw_ex_and e4 [] pos)) (pw_ex_and c [e4] pos)) (pw_ex_and b [c, e4] pos)
theorem t_or2 {k j : Bool} (h : EvT X a ss k) (h2 : k = false → EvT X b ss j) : EvW X (.BoolOp .Or [a, b] pos) ss (k || j) := w_or h (fun e => w_or1 (h2 e)) (pw_ex_or b [] pos)
theorem t_or3 {k j l : Bool} (h : EvT X a ss k) (h2 : k = false → EvT X b ss j) (h3 : k = false → j = false → EvT X c ss l) : EvW X (.BoolOp .Or [a, b, c] pos) ss (k || (j || l)) :=
  w_or h (fun e => w_or (h2 e) (fun e2 => w_or1 (h3 e e2)) (pw_ex_or c [] pos)) (pw_ex_or b [c] pos)
theorem t_or4 {e4 : Expr} {k j l m : Bool} (h : EvT X a ss k) (h2 : k = false → EvT X b ss j) (h3 : k = false → j = false → EvT X c ss l) (h4 : k = false → j = false → l = false → EvT X e4 ss m) : EvW X (.BoolOp .Or [a, b, c, e4] pos) ss (k || (j || (l || m))) :=
  w_or h (fun e => w_or (h2 e) (fun e2 => w_or (h3 e e2) (fun e3 => w_or1 (h4 e e2 e3)) (pw_ex_or e4 [] pos)) (pw_ex_or c [e4] pos)) (pw_ex_or b [c, e4] pos)
theorem EvW.t {k : Bool} (h : EvW X e ss k) : EvT X e ss k := by
  obtain ⟨t, ht, go⟩ := h
  exact fun F0 H0 F H ow σ S Q q => wT_of ht.pt (go F0 H0 F H ow σ S Q q)
theorem e_one {op : BoolOp} (h : EvE X a ss d) : EvE X (.BoolOp op [a] pos) ss d := fun F0 H0 F H ow σ S Q q => wE_of (pe_one pE) (h F0 H0 F H ow σ S Q q)
theorem e_and {k j : Bool} {rest : List Expr} (h : EvE X a ss (.bl k)) (h2 : k = true → EvE X (.BoolOp .And (b :: rest) pos) ss (.bl j)) : EvE X (.BoolOp .And (a :: b :: rest) pos) ss (.bl (k && j)) := fun F0 H0 F H ow σ S Q q => by
  refine wE_of (pe_and pE pE) (h F0 H0 F H ow σ S _ fun v F1 H1 g r => ⟨k, r, ?_⟩)
  cases k with
  | true =>
    rw [if_pos rfl]
    exact h2 rfl F0 H0 F1 H1 ow σ (S.grow g) Q fun v2 F2 H2 g2 r2 => q v2 F2 H2 (g.trans g2) r2
  | false =>
    rw [if_neg Bool.false_ne_true]
    exact q _ F1 H1 g rfl
theorem e_or {k j : Bool} {rest : List Expr} (h : EvE X a ss (.bl k)) (h2 : k = false → EvE X (.BoolOp .Or (b :: rest) pos) ss (.bl j)) : EvE X (.BoolOp .Or (a :: b :: rest) pos) ss (.bl (k || j)) := fun F0 H0 F H ow σ S Q q => by
  refine wE_of (pe_or pE pE) (h F0 H0 F H ow σ S _ fun v F1 H1 g r => ⟨k, r, ?_⟩)
  cases k with
  | false =>
    rw [if_neg Bool.false_ne_true]
    exact h2 rfl F0 H0 F1 H1 ow σ (S.grow g) Q fun v2 F2 H2 g2 r2 => q v2 F2 H2 (g.trans g2) r2
  | true =>
    rw [if_pos rfl]
    exact q _ F1 H1 g rfl
theorem e_if {k : Bool} (h : EvT X c ss k) (h1 : k = true → EvE X a ss d) (h2 : k = false → EvE X b ss d) : EvE X (.IfExp c a b pos) ss d := fun F0 H0 F H ow σ S Q q => by
  refine wE_of (pe_ifExp pT pE pE) (h F0 H0 F H ow σ S _ fun F1 H1 g => ?_)
  cases k with
  | true =>
    rw [if_pos rfl]
    exact h1 rfl F0 H0 F1 H1 ow σ (S.grow g) Q fun v2 F2 H2 g2 r2 => q v2 F2 H2 (g.trans g2) r2
  | false =>
    rw [if_neg Bool.false_ne_true]
    exact h2 rfl F0 H0 F1 H1 ow σ (S.grow g) Q fun v2 F2 H2 g2 r2 => q v2 F2 H2 (g.trans g2) r2
/-- a op1 b op2 c -/
theorem chain_go {r r' : R2} {k j : Bool} {op op' : CmpOp} (ha : EvE X a ss d1) (hb : EvE X b ss d2) (hc : k = true → EvE X c ss d3)
    (go : ∀ (F H : Hp) (v1 v2 : V) (Q : VK), Same F H → Rep X.K F d1 v1 → Rep X.K F d2 v2 → (∀ v F' H', Grow F H F' H' → Rep X.K F' (.bl k) v → Q v H') → r v1 v2 H Q)
    (go' : k = true → ∀ (F H : Hp) (v1 v2 : V) (Q : VK), Same F H → Rep X.K F d2 v1 → Rep X.K F d3 v2 → (∀ v F' H', Grow F H F' H' → Rep X.K F' (.bl j) v → Q v H') → r' v1 v2 H Q) :
    ∀ F0 H0 F H ow σ, Stt X.K F0 H0 F H ow σ ss → ∀ Q : VK, (∀ v F' H', Grow F H F' H' → Rep X.K F' (.bl (k && j)) v → Q v H') → tChain r r' (wE X a) (wE X b) (wE X c) σ H Q := fun F0 H0 F H ow σ S Q q => by
  refine ha F0 H0 F H ow σ S _ fun v1 F1 H1 g1 r1 => ?_
  refine hb F0 H0 F1 H1 ow σ (S.grow g1) _ fun v2 F2 H2 g2 r2 => ?_
  refine go F2 H2 v1 v2 _ g2.fh (Rep.mono g2.ff _ _ r1) r2 fun v F' H' g r => ⟨k, r, ?_⟩
  cases k with
  | true =>
    rw [if_pos rfl]
    refine hc rfl F0 H0 F' H' ow σ (((S.grow g1).grow g2).grow g) _ fun v3 F3 H3 g3 r3 => ?_
    exact go' rfl F3 H3 v2 v3 Q g3.fh (Rep.mono (g.ff.trans g3.ff) _ _ r2) r3 fun v F' H' g4 r => q v F' H' ((((g1.trans g2).trans g).trans g3).trans g4) r
  | false =>
    rw [if_neg Bool.false_ne_true]
    exact q _ F' H' ((g1.trans g2).trans g) rfl
theorem e_chain {k j : Bool} {op op' : CmpOp} (ha : EvE X a ss d1) (hb : EvE X b ss d2) (hc : EvE X c ss d3) (ho : OpD X (compareOp op) d1 d2 (.bl k)) (ho' : OpD X (compareOp op') d2 d3 (.bl j))
    (hm : lastMarks [op, op'] [b, c] = false := by with_unfolding_all rfl) : EvE X (.Compare a [op, op'] [b, c] pos) ss (.bl (k && j)) := by
  obtain ⟨r, hr, go⟩ := ho
  obtain ⟨r', hr', go'⟩ := ho'
  exact fun F0 H0 F H ow σ S Q q => wE_of (pe_chain hr hr' pE pE pE hm) (chain_go (op := op) (op' := op') ha hb (fun _ => hc) go (fun _ => go') F0 H0 F H ow σ S Q q)
theorem t_chain {k j : Bool} {op op' : CmpOp} (ha : EvE X a ss d1) (hb : EvE X b ss d2) (hc : EvE X c ss d3) (ho : OpD X (compareOp op) d1 d2 (.bl k)) (ho' : OpD X (compareOp op') d2 d3 (.bl j))
    (hm : lastMarks [op, op'] [b, c] = false := by with_unfolding_all rfl) : EvT X (.Compare a [op, op'] [b, c] pos) ss (k && j) := by
  obtain ⟨r, hr, go⟩ := ho
  obtain ⟨r', hr', go'⟩ := ho'
  exact fun F0 H0 F H ow σ S Q q => wT_of (pt_chain hr hr' pE pE pE hm) (chain_go (op := op) (op' := op') ha hb (fun _ => hc) go (fun _ => go') F0 H0 F H ow σ S _ fun v F' H' g r => ⟨_, r, q F' H' g⟩)
theorem e_is {d' : Dt} (h : EvE X e ss d) (he : d = d') : EvE X e ss d' := he ▸ h
theorem t_is {k k' : Bool} (h : EvT X e ss k) (he : k = k') : EvT X e ss k' := he ▸ h
theorem l_is {ds' : List Dt} (h : EvL X e ss ds) (he : ds = ds') : EvL X e ss ds' := he ▸ h
theorem b_is {d' : Dt} (h : EvB X e ss d) (he : d = d') : EvB X e ss d' := he ▸ h

/-! ### argument lists, displays -/
theorem a_nil : EvA X [] ss [] := fun F0 H0 F H ow σ S Q q => wA_of pa_nil (q _ F H (.refl S.fh) .nil)
theorem a_cons (h : EvE X e ss d) (t : EvA X es ss ds) (hs : starEach (e :: es) X.env = (false, eval e X.env) :: starEach es X.env := by rfl) : EvA X (e :: es) ss (d :: ds) := fun F0 H0 F H ow σ S Q q =>
  wA_of (pa_cons pE pA hs) (h F0 H0 F H ow σ S _ fun v F1 H1 g1 r1 => t F0 H0 F1 H1 ow σ (S.grow g1) _ fun vs F2 H2 g2 r2 => q _ F2 H2 (g1.trans g2) (.cons (Rep.mono g2.ff _ _ r1) r2))
theorem ab_cons (h : EvB X e ss d) (t : EvAB X es ss ds) (hs : starEach (e :: es) X.env = (false, eval e X.env) :: starEach es X.env := by rfl) : EvAB X (e :: es) ss (d :: ds) := fun F0 H0 F H ow σ S Q q =>
  wA_of (pa_cons pE pA hs) (h F0 H0 F H ow σ S _ fun v F1 H1 g1 r1 => t F0 H0 F1 H1 ow σ (S.grow g1) _ fun vs F2 H2 g2 r2 => q _ F2 H2 (g1.trans g2) (.cons (Rep.mono (Rr_mono g2.ff g2.hh) _ _ r1) r2))
theorem ab_nil : EvAB X [] ss [] := a_nil.b
theorem e_tup {k : Nat} (h : EvA X es ss ds) (hz : ds.length ≤ 1000 := by decide) : EvE X (.Tuple es k pos) ss (.tup ds) := fun F0 H0 F H ow σ S Q q =>
  wE_of (pe_tup pA) (h F0 H0 F H ow σ S _ fun vs F1 H1 g1 r1 => ⟨by rw [← r1.len]; exact sz (by omega), fun p hp => q (.ref p) (upd F1 p (.tup vs)) _ (g1.trans (.new g1.fh hp)) ⟨p, vs, rfl, upd_same, RepL.mono (same_new (same_none g1.fh hp)) _ _ r1⟩⟩)
theorem l_lst (h : EvA X es ss ds) (hz : ds.length ≤ 1000 := by decide) : EvL X (.List es pos) ss ds := fun F0 H0 F H ow σ S Q q =>
  wE_of (pe_lst pA) (h F0 H0 F H ow σ S _ fun vs F1 H1 g1 r1 => ⟨by rw [← r1.len]; exact sz (by omega), fun p hp => q p vs F1 _ (g1.trans (.own g1.fh hp)) (same_none g1.hh hp) (same_none g1.fh hp) upd_same r1⟩)
end
end LW

/-! LWExpr2: subscripts, fields, slices, calls of built-ins -/
namespace LW
open PySem PySem.Spec PyProof.Rows L2

section
variable {X : Cx} {a b c e o : Expr} {es : List Expr} {ss : List Sl} {d d1 d2 d3 : Dt} {ds ds2 : List Dt} {pos p apos p2 : Pos}

/-! ### a[b] -/
theorem ixN_len {n i} : ∀ {j : Nat}, ixN n i = some j → j < n := fun h => (ixN_seq h).2.1
theorem RepL.atI {K : PySem.W.Frag} {F : Hp} {vs : List V} {i : Int} (h : RepL K F ds vs) (e : L2.atI ds i = some d) : ∃ v, L2.atI vs i = some v ∧ Rep K F d v := by
  unfold L2.atI at e ⊢
  rw [← h.len]
  cases q : ixN ds.length i with
  | none => rw [q] at e; cases e
  | some j =>
    rw [q] at e
    exact h.get (i := j) e
def IxD (X : Cx) (d1 d2 d : Dt) : Prop := ∃ r : R2, IxR X r ∧ ∀ (F H : Hp) (v1 v2 : V) (Q : VK), Same F H → Rep X.K F d1 v1 → Rep X.K F d2 v2 → (∀ v, Rep X.K F d v → Q v H) → r v1 v2 H Q
theorem ix_l {i : Int} (h : atI ds i = some d) : IxD X (.lst ds) (.int i) d := ⟨_, ix_list, fun F H v1 v2 Q fh r1 r2 q => by
  obtain ⟨ad, vs, rfl, e1, r⟩ := r1
  obtain ⟨v, e2, r3⟩ := r.atI h
  exact ⟨ad, vs, i, v, rfl, r2, SqL.of (fh _ _ e1), e2, q v r3⟩⟩
theorem ix_t {i : Int} (h : atI ds i = some d) : IxD X (.tup ds) (.int i) d := ⟨_, ix_tup, fun F H v1 v2 Q fh r1 r2 q => by
  obtain ⟨ad, vs, rfl, e1, r⟩ := r1
  obtain ⟨v, e2, r3⟩ := r.atI h
  exact ⟨ad, vs, i, v, rfl, r2, SqT.of (fh _ _ e1), e2, q v r3⟩⟩
theorem ix_s {i : Int} {z : Str} {k : Nat} (hz : z.length ≤ sizeLine) (h : atI z.cps.toList i = some k) : IxD X (.str z) (.int i) (.str ⟨#[k]⟩) := ⟨_, ix_str, fun F H v1 v2 Q fh r1 r2 q =>
  ⟨z, i, k, r1, r2, hz, h, q _ rfl⟩⟩
theorem ix_scr {i : Int} {n : Int} {ns : List Int} (h : atI ns i = some n) : IxD X (.scr ns) (.int i) (.int n) := ⟨_, ix_list, fun F H v1 v2 Q fh r1 r2 q => by
  obtain ⟨ad, rfl, e1⟩ := r1
  refine ⟨ad, ns.map V.int, i, .int n, rfl, r2, fh.seq e1, ?_, q _ rfl⟩
  unfold atI at h ⊢
  rw [List.length_map]
  cases q : ixN ns.length i with
  | none => rw [q] at h; cases h
  | some j =>
    rw [q] at h
    show (ns.map V.int)[j]? = some (.int n)
    rw [List.getElem?_map, show ns[j]? = some n from h]
    rfl⟩
theorem e_ix (ha : EvE X a ss d1) (hb : EvE X b ss d2) (ho : IxD X d1 d2 d) (hs : PlainIx b := by exact fun _ _ => rfl) : EvE X (.Subscript a b pos) ss d := fun F0 H0 F H ow σ S Q q => by
  obtain ⟨r, hr, go⟩ := ho
  refine wE_of (pe_ix hr pE pE hs) (ha F0 H0 F H ow σ S _ fun v1 F1 H1 g1 r1 => ?_)
  refine hb F0 H0 F1 H1 ow σ (S.grow g1) _ fun v2 F2 H2 g2 r2 => ?_
  exact go F2 H2 v1 v2 Q g2.fh (Rep.mono g2.ff _ _ r1) r2 fun v r => q v F2 H2 (g1.trans g2) r
theorem b_ix (ha : EvB X a ss d1) (hb : EvB X b ss d2) (ho : IxD X d1 d2 d) (hs : PlainIx b := by exact fun _ _ => rfl) : EvB X (.Subscript a b pos) ss d := fun F0 H0 F H ow σ S Q q => by
  obtain ⟨r, hr, go⟩ := ho
  refine wE_of (pe_ix hr pE pE hs) (ha F0 H0 F H ow σ S _ fun v1 F1 H1 g1 r1 => ?_)
  refine hb F0 H0 F1 H1 ow σ (S.grow g1) _ fun v2 F2 H2 g2 r2 => ?_
  exact go (Rr F2 H2 ow) H2 v1 v2 Q (Rr_h g2.fh) (Rep.mono (Rr_mono g2.ff g2.hh) _ _ r1) r2 fun v r => q v F2 H2 (g1.trans g2) r
/-- an item of a list that is ours -/
theorem e_ixO (i : Nat) {x : Str} {k : Int} (hb : EvE X b ss (.int k)) (he : atI ds k = some d) (hN : X.N[i]? = some x := by rfl) (hs : ss[i]? = some (.lst ds) := by rfl) (hv : Vis X.env.scope x := by first | exact Or.inl rfl | exact Or.inr (Or.inl rfl) | exact Or.inr (Or.inr rfl))
    (hp : PlainIx b := by exact fun _ _ => rfl) (hd : (x == ("__debug__" : Str)) = false := by decide) (hcd : (x == ("__classdict__" : Str)) = false := by decide) : EvE X (.Subscript (.Name x p) b pos) ss d := fun F0 H0 F H ow σ S Q q => by
  obtain ⟨y, hy, ad, vs, rfl, e1, e2, r⟩ := S.at hs
  refine wE_of (pe_ix ix_list (pv i hN hv hd hcd) pE hp) ⟨_, hy, hb F0 H0 F H ow σ S _ fun v2 F2 H2 g2 r2 => ?_⟩
  obtain ⟨v, e3, r3⟩ := r.atI he
  exact ⟨ad, vs, k, v, rfl, r2, SqL.of (g2.hh _ _ e1), e3, q v F2 H2 g2 (Rep.mono g2.ff _ _ r3)⟩

/-! ### fields -/
theorem lookup_zip {K : PySem.W.Frag} {F : Hp} : ∀ {fs : List Str} {ds : List Dt} {vs : List V} {f : Str} {d : Dt}, RepL K F ds vs → (fs.zip ds).lookup f = some d → ∃ v, (fs.zip vs).lookup f = some v ∧ Rep K F d v
  | [], _, _, _, _, _, h => by simp at h
  | g :: fs, [], _, _, _, _, h => by simp at h
  | g :: fs, d :: ds, _, f, d', r, h => by
    obtain ⟨v, t, rfl, r1, r2⟩ := r
    rw [List.zip_cons_cons, List.lookup_cons] at h ⊢
    cases q : f == g with
    | true =>
      rw [q] at h
      have e : d = d' := Option.some.inj h
      exact ⟨v, rfl, e ▸ r1⟩
    | false =>
      rw [q] at h
      exact lookup_zip r2 h
theorem e_fld {C : Addr} {fs : List Str} {f : Str} (ha : EvE X a ss (.ins C fs ds)) (c : Cls X.K C) (n : NoAttr X.K C f) (h : (fs.zip ds).lookup f = some d := by rfl) (hb : attributeBase a f X.env (eval a X.env) = eval a X.env := by rfl) : EvE X (.Attribute a f pos) ss d := fun F0 H0 F H ow σ S Q q => by
  refine wE_of (pe_fld pE hb) (ha F0 H0 F H ow σ S _ fun v1 F1 H1 g1 r1 => ?_)
  obtain ⟨ad, dx, vs, rfl, e1, e2, r⟩ := r1
  obtain ⟨v, e3, r3⟩ := lookup_zip r h
  exact ⟨ad, C, dx, _, v, rfl, g1.fh _ _ e1, c, n, e3, q v F1 H1 g1 r3⟩

/-! ### slices -/
def cutL {α : Type} (xs : List α) (lo hi : Option Int) : List α := (xs.drop (HT.sIx xs.length 0 lo)).take (HT.sIx xs.length xs.length hi - HT.sIx xs.length 0 lo)
theorem RepL.cut {K : PySem.W.Frag} {F : Hp} {vs : List V} (h : RepL K F ds vs) (lo hi : Option Int) : RepL K F (cutL ds lo hi) (cutV vs lo hi) := by
  unfold cutL cutV
  rw [← h.len]
  exact (h.drop _).take _
/-- a slice's part -/
def EvO (X : Cx) (e : Option Expr) (ss : List Sl) (k : Option Int) : Prop := ∃ t : TO, PO X e t ∧ ∀ F0 H0 F H ow σ, Stt X.K F0 H0 F H ow σ ss → ∀ Q : Option Int → Hp → Prop, (∀ F' H', Grow F H F' H' → Q k H') → t σ H Q
theorem o_none : EvO X none ss none := ⟨_, po_none, fun F0 H0 F H ow σ S Q q => q F H (.refl S.fh)⟩
theorem o_some {i : Int} (h : EvE X e ss (.int i)) : EvO X (some e) ss (some i) := ⟨_, po_some pE, fun F0 H0 F H ow σ S Q q => h F0 H0 F H ow σ S _ fun v F1 H1 g r => ⟨i, r, q F1 H1 g⟩⟩
theorem l_slice {lo hi : Option Expr} {i j : Option Int} (ha : EvE X a ss (.lst ds)) (hl : EvO X lo ss i) (hu : EvO X hi ss j) : EvL X (.Subscript a (.Slice lo hi none p2) pos) ss (cutL ds i j) := fun F0 H0 F H ow σ S Q q => by
  obtain ⟨tl, pl, gl⟩ := hl
  obtain ⟨tu, pu, gu⟩ := hu
  refine wE_of (pe_slice sl_list pE pl pu) (ha F0 H0 F H ow σ S _ fun v1 F1 H1 g1 r1 => ?_)
  refine gl F0 H0 F1 H1 ow σ (S.grow g1) _ fun F2 H2 g2 => ?_
  refine gu F0 H0 F2 H2 ow σ ((S.grow g1).grow g2) _ fun F3 H3 g3 => ?_
  obtain ⟨ad, vs, rfl, e1, r⟩ := r1
  have g := (g1.trans g2).trans g3
  refine ⟨ad, vs, rfl, SqL.of (g3.fh _ _ ((g2.ff.trans g3.ff) _ _ e1)), fun p hp => q p (cutV vs i j) F3 _ (g.trans (.own g3.fh hp)) (same_none g.hh hp) (same_none g3.fh hp) upd_same ?_⟩
  exact (RepL.mono (g2.ff.trans g3.ff) _ _ r).cut i j
theorem e_sliceS {lo hi : Option Expr} {i j : Option Int} {z : Str} (ha : EvE X a ss (.str z)) (hl : EvO X lo ss i) (hu : EvO X hi ss j) (hz : z.length ≤ sizeLine) : EvE X (.Subscript a (.Slice lo hi none p2) pos) ss (.str (cutS z i j)) := fun F0 H0 F H ow σ S Q q => by
  obtain ⟨tl, pl, gl⟩ := hl
  obtain ⟨tu, pu, gu⟩ := hu
  refine wE_of (pe_slice sl_str pE pl pu) (ha F0 H0 F H ow σ S _ fun v1 F1 H1 g1 r1 => ?_)
  refine gl F0 H0 F1 H1 ow σ (S.grow g1) _ fun F2 H2 g2 => ?_
  refine gu F0 H0 F2 H2 ow σ ((S.grow g1).grow g2) _ fun F3 H3 g3 => ?_
  exact ⟨z, r1, hz, q _ F3 H3 ((g1.trans g2).trans g3) rfl⟩

/-! ### calls of built-ins -/
def CallD (X : Cx) (f : Value) (ds : List Dt) (d : Dt) : Prop := ∃ r, CallR X f r ∧ ∀ (F H : Hp) (vs : List V) (Q : VK), Same F H → RepL X.K F ds vs → (∀ v F' H', Grow F H F' H' → Rep X.K F' d v → Q v H') → r vs H Q
theorem e_cb {x : Str} {id : String} (ha : EvA X (e :: es) ss ds) (hc : CallD X (.builtin id) ds d) (hv : bootBuiltins x = some (.builtin id)) (hm : X.mg x = none := by assumption) (hg : Gl X x := by rfl)
    (hn : x ≠ "__name__" := by decide) (hdb : (x == ("__debug__" : Str)) = false := by decide) (he : starEach (e :: es) X.env = (false, eval e X.env) :: starEach es X.env := by rfl) (hpl : (backTo pos (starEach es X.env)).any (·.1) = false := by rfl) : EvE X (.Call (.Name x p) (e :: es) [] pos) ss d := fun F0 H0 F H ow σ S Q q => by
  obtain ⟨r, hr, go⟩ := hc
  refine wE_of (pe_callB hr hg hm hv pA hn hdb he hpl) (ha F0 H0 F H ow σ S _ fun vs F1 H1 g1 r1 => ?_)
  exact go F1 H1 vs Q g1.fh r1 fun v F' H' g r => q v F' H' (g1.trans g) r
theorem e_cbB {x : Str} {id : String} (ha : EvAB X (e :: es) ss ds) (hc : CallD X (.builtin id) ds d) (hv : bootBuiltins x = some (.builtin id)) (m : imm d = true) (hm : X.mg x = none := by assumption) (hg : Gl X x := by rfl)
    (hn : x ≠ "__name__" := by decide) (hdb : (x == ("__debug__" : Str)) = false := by decide) (he : starEach (e :: es) X.env = (false, eval e X.env) :: starEach es X.env := by rfl) (hpl : (backTo pos (starEach es X.env)).any (·.1) = false := by rfl) : EvE X (.Call (.Name x p) (e :: es) [] pos) ss d := fun F0 H0 F H ow σ S Q q => by
  obtain ⟨r, hr, go⟩ := hc
  refine wE_of (pe_callB hr hg hm hv pA hn hdb he hpl) (ha F0 H0 F H ow σ S _ fun vs F1 H1 g1 r1 => ?_)
  refine go (Rr F1 H1 ow) H1 vs Q (Rr_h g1.fh) r1 fun v F' H' g r => ?_
  have g3 : Grow F1 H1 F1 H' := ⟨Same.refl _, g.hh, g1.fh.trans g.hh, fun _ _ e _ _ => .inl e⟩
  exact q v (tupF F1 H') H' (g1.trans (tupF_grow g3)) (imm_rep g3.fh g.fh _ _ m r)
theorem e_ct {x : Str} {T : String} (ha : EvA X (e :: es) ss ds) (hc : CallD X (.type T) ds d) (hv : bootBuiltins x = some (.type T)) (hm : X.mg x = none := by assumption) (hg : Gl X x := by rfl)
    (hn : x ≠ "__name__" := by decide) (hdb : (x == ("__debug__" : Str)) = false := by decide) (he : starEach (e :: es) X.env = (false, eval e X.env) :: starEach es X.env := by rfl) (hpl : (backTo pos (starEach es X.env)).any (·.1) = false := by rfl) : EvE X (.Call (.Name x p) (e :: es) [] pos) ss d := fun F0 H0 F H ow σ S Q q => by
  obtain ⟨r, hr, go⟩ := hc
  refine wE_of (pe_callTy hr hg hm hv pA hn hdb he hpl) (ha F0 H0 F H ow σ S _ fun vs F1 H1 g1 r1 => ?_)
  exact go F1 H1 vs Q g1.fh r1 fun v F' H' g r => q v F' H' (g1.trans g) r
theorem repL1 {K : PySem.W.Frag} {F : Hp} {vs : List V} (h : RepL K F [d] vs) : ∃ v, vs = [v] ∧ Rep K F d v := by
  obtain ⟨v, r, rfl, h1, h2⟩ := h
  cases h2
  exact ⟨v, rfl, h1⟩
theorem repL2 {K : PySem.W.Frag} {F : Hp} {vs : List V} (h : RepL K F [d1, d2] vs) : ∃ v u, vs = [v, u] ∧ Rep K F d1 v ∧ Rep K F d2 u := by
  obtain ⟨v, r, rfl, h1, h2⟩ := h
  obtain ⟨u, rfl, h3⟩ := repL1 h2
  exact ⟨v, u, rfl, h1, h3⟩
theorem cd_len : CallD X (.builtin "len") [.lst ds] (.int ds.length) := ⟨_, call_len_seq, fun F H vs Q fh r q => by
  obtain ⟨v, rfl, ad, xs, rfl, e1, r1⟩ := repL1 r
  refine ⟨ad, xs, rfl, .inl (SqL.of (fh _ _ e1)), q _ F H (.refl fh) ?_⟩
  rw [r1.len]
  rfl⟩
theorem cd_lenT : CallD X (.builtin "len") [.tup ds] (.int ds.length) := ⟨_, call_len_seq, fun F H vs Q fh r q => by
  obtain ⟨v, rfl, ad, xs, rfl, e1, r1⟩ := repL1 r
  refine ⟨ad, xs, rfl, .inr (SqT.of (fh _ _ e1)), q _ F H (.refl fh) ?_⟩
  rw [r1.len]
  rfl⟩
theorem cd_lenS {z : Str} (hz : z.length ≤ sizeLine) : CallD X (.builtin "len") [.str z] (.int z.length) := ⟨_, call_len_str, fun F H vs Q fh r q => by
  obtain ⟨v, rfl, e⟩ := repL1 r
  exact ⟨z, by rw [show v = .str z from e], hz, q _ F H (.refl fh) rfl⟩⟩
theorem cd_lenScr {ns : List Int} : CallD X (.builtin "len") [.scr ns] (.int ns.length) := ⟨_, call_len_seq, fun F H vs Q fh r q => by
  obtain ⟨v, rfl, ad, rfl, e1⟩ := repL1 r
  refine ⟨ad, _, rfl, .inl (fh.seq e1), q _ F H (.refl fh) ?_⟩
  rw [List.length_map]
  rfl⟩
def maxI (i j : Int) : Int := if j > i then j else i
def minI (i j : Int) : Int := if j < i then j else i
theorem cd_max {i j : Int} (hc : X.calm = true := by rfl) : CallD X (.builtin "max") [.int i, .int j] (.int (maxI i j)) := ⟨_, call_max2 hc, fun F H vs Q fh r q => by
  obtain ⟨v, u, rfl, e1, e2⟩ := repL2 r
  exact ⟨i, j, by rw [show v = .int i from e1, show u = .int j from e2], q _ F H (.refl fh) rfl⟩⟩
theorem cd_min {i j : Int} (hc : X.calm = true := by rfl) : CallD X (.builtin "min") [.int i, .int j] (.int (minI i j)) := ⟨_, call_min2 hc, fun F H vs Q fh r q => by
  obtain ⟨v, u, rfl, e1, e2⟩ := repL2 r
  exact ⟨i, j, by rw [show v = .int i from e1, show u = .int j from e2], q _ F H (.refl fh) rfl⟩⟩
theorem cd_sum {ns : List Int} (hc : X.calm = true := by rfl) : CallD X (.builtin "sum") [.lst (ns.map .int)] (.int ns.sum) := ⟨_, cr_sum hc, fun F H vs Q fh r q => by
  obtain ⟨v, rfl, ad, xs, rfl, e1, r1⟩ := repL1 r
  have e := r1.ints
  subst e
  exact ⟨ad, ns, rfl, SqL.of (fh _ _ e1), q _ F H (.refl fh) rfl⟩⟩
theorem cd_all {bs : List Bool} (hc : X.calm = true := by rfl) : CallD X (.builtin "all") [.lst (bs.map .bl)] (.bl (bs.all id)) := ⟨_, cr_all hc, fun F H vs Q fh r q => by
  obtain ⟨v, rfl, ad, xs, rfl, e1, r1⟩ := repL1 r
  have e := r1.bls
  subst e
  exact ⟨ad, bs, rfl, SqL.of (fh _ _ e1), q _ F H (.refl fh) rfl⟩⟩
theorem cd_intB {k : Bool} : CallD X (.type "int") [.bl k] (.int (if k then 1 else 0)) := ⟨_, call_int1, fun F H vs Q fh r q => by
  obtain ⟨v, rfl, e⟩ := repL1 r
  exact .inr ⟨k, by rw [show v = .bl k from e], q _ F H (.refl fh) rfl⟩⟩
/-- list(x), a new list -/
theorem l_list {x : Str} (hx : x = "list") (ha : EvE X a ss (.lst ds)) (hm : X.mg x = none := by assumption) (hg : Gl X x := by rfl) (he : starEach [a] X.env = (false, eval a X.env) :: starEach [] X.env := by rfl) (hpl : (backTo pos (starEach [] X.env)).any (·.1) = false := by rfl) : EvL X (.Call (.Name x p) [a] [] pos) ss ds := fun F0 H0 F H ow σ S Q q => by
  subst hx
  refine wE_of (pe_callTy call_list_of hg hm (by decide +kernel) pA (by decide) (by decide) he hpl) ((a_cons ha a_nil he) F0 H0 F H ow σ S _ fun vs F1 H1 g1 r1 => ?_)
  obtain ⟨v, rfl, ad, xs, rfl, e1, r⟩ := repL1 r1
  exact ⟨ad, xs, rfl, .inl (SqL.of (g1.fh _ _ e1)), fun l hl => q l xs F1 _ (g1.trans (.own g1.fh hl)) (same_none g1.hh hl) (same_none g1.fh hl) upd_same r⟩

/-! isinstance with a built-in class -/
def tyN : Dt → String
  | .non => "NoneType"
  | .bl _ => "bool"
  | .int _ => "int"
  | .str _ => "str"
  | .tup _ => "tuple"
  | .lst _ => "list"
  | .dct _ _ => "dict"
  | _ => "?"
theorem tyx_of {K : PySem.W.Frag} {F H : Hp} {v : V} (fh : Same F H) : ∀ {d : Dt}, Rep K F d v → tyN d ≠ "?" → TyX K H v (.type (tyN d))
  | .non, h, _ => by cases h; exact .base .non
  | .bl b, h, _ => by cases h; exact .base (.bl b)
  | .int b, h, _ => by cases h; exact .base (.int b)
  | .str b, h, _ => by cases h; exact .base (.str b)
  | .tup _, h, _ => by obtain ⟨_, _, rfl, e, _⟩ := h; exact .base (.tup (fh _ _ e))
  | .lst _, h, _ => by obtain ⟨_, _, rfl, e, _⟩ := h; exact .base (.lst (fh _ _ e))
  | .dct _ _, h, _ => by obtain ⟨_, _, rfl, e, _⟩ := h; exact .base (.dT (fh _ _ e))
  | .ins _ _ _, _, n => absurd rfl n
  | .scr _, _, n => absurd rfl n
/-- isinstance's answer -/
def isiD (d : Dt) (T : String) : Bool := decide (tyN d = T) || (decide (tyN d = "bool") && decide (T = "int"))
theorem isi_kit : ∀ (d : Dt) (T : String), tyN d ≠ "?" → T ∈ ["int", "bool", "str", "list", "tuple"] → kitB (tyN d) T = some (isiD d T) := by
  have key : ∀ s ∈ ["NoneType", "bool", "int", "str", "tuple", "list", "dict"], ∀ T ∈ ["int", "bool", "str", "list", "tuple"], kitB s T = some (decide (s = T) || (decide (s = "bool") && decide (T = "int"))) := by decide +kernel
  intro d T n hT
  refine key (tyN d) ?_ T hT
  cases d <;> first | exact absurd rfl n | simp [tyN]
theorem e_isi (T : String) {x y : Str} {p3 : Pos} (ha : EvB X a ss d) (hx : x = "isinstance" := by rfl) (hy : y = Str.ofString T := by rfl) (hT : T ∈ ["int", "bool", "str", "list", "tuple"] := by decide) (hn : tyN d ≠ "?" := by decide) (hm : X.mg x = none := by assumption) (hm2 : X.mg y = none := by assumption)
    (hv : bootBuiltins y = some (.type T) := by decide +kernel) (hg : Gl X x := by rfl) (hg2 : Gl X y := by rfl) (hn2 : y ≠ "__name__" := by decide) (hd2 : (y == ("__debug__" : Str)) = false := by decide)
    (he : starEach [a, .Name y p3] X.env = (false, eval a X.env) :: starEach [.Name y p3] X.env := by rfl) (he2 : starEach [.Name y p3] X.env = (false, eval (.Name y p3) X.env) :: starEach [] X.env := by rfl) (hpl : (backTo pos (starEach [.Name y p3] X.env)).any (·.1) = false := by rfl) :
    EvE X (.Call (.Name x p) [a, .Name y p3] [] pos) ss (.bl (isiD d T)) := fun F0 H0 F H ow σ S Q q => by
  have hk := isi_kit d T hn hT
  subst hx
  have hb : PE X (.Name y p3) (tC (.ty T)) := pe_bltn hg2 hm2 hv rfl hn2 hd2
  refine wE_of (pe_callB call_isi hg hm (by decide +kernel) (pa_cons pE (pa_cons hb pa_nil he2) he) (by decide) (by decide) he hpl) (ha F0 H0 F H ow σ S _ fun v F1 H1 g1 r1 => ?_)
  exact ⟨v, .ty T, .type (tyN d), .type T, _, rfl, .ty T, tyx_of (Rr_h g1.fh) r1 hn, kit_ty hk, q _ F1 H1 g1 rfl⟩
theorem od_isBl {j k : Bool} : OpD X (compareOp .Is) (.bl j) (.bl k) (.bl (decide (j = k))) := ⟨_, op_isBl, fun F H v1 v2 Q fh r1 r2 q => ⟨j, k, r1, r2, q _ F H (.refl fh) rfl⟩⟩
theorem od_notBl {j k : Bool} : OpD X (compareOp .IsNot) (.bl j) (.bl k) (.bl (!decide (j = k))) := ⟨_, op_notBl, fun F H v1 v2 Q fh r1 r2 q => ⟨j, k, r1, r2, q _ F H (.refl fh) rfl⟩⟩

/-! lists glued, repeated -/
theorem l_cat (ha : EvE X a ss (.lst ds)) (hb : EvE X b ss (.lst ds2)) (hz : ds.length + ds2.length ≤ 1000000) : EvL X (.BinOp a .Add b pos) ss (ds ++ ds2) := fun F0 H0 F H ow σ S Q q => by
  refine wE_of (pe_op op_cat pE pE) (ha F0 H0 F H ow σ S _ fun v1 F1 H1 g1 r1 => ?_)
  refine hb F0 H0 F1 H1 ow σ (S.grow g1) _ fun v2 F2 H2 g2 r2 => ?_
  obtain ⟨ad, xs, rfl, e1, s1⟩ := r1
  obtain ⟨bd, ys, rfl, e2, s2⟩ := r2
  have g := g1.trans g2
  refine ⟨ad, bd, xs, ys, rfl, rfl, g2.fh _ _ (g2.ff _ _ e1), g2.fh _ _ e2, ?_, fun p hp => q p _ F2 _ (g.trans (.own g2.fh hp)) (same_none g.hh hp) (same_none g2.fh hp) upd_same ((RepL.mono g2.ff _ _ s1).app s2)⟩
  rw [← s1.len, ← s2.len]
  exact sz (by omega)
theorem RepL.rep {K : PySem.W.Frag} {F : Hp} {vs : List V} (h : RepL K F ds vs) : ∀ n : Nat, RepL K F (List.replicate n ds).flatten (List.replicate n vs).flatten
  | 0 => rfl
  | n + 1 => by
    rw [List.replicate_succ, List.flatten_cons, List.replicate_succ, List.flatten_cons]
    exact h.app (RepL.rep h n)
theorem l_rep {k : Int} (ha : EvE X a ss (.lst ds)) (hb : EvE X b ss (.int k)) (h1 : -1000000 ≤ k) (h2 : k ≤ 1000000) (hz : ds.length * k.toNat ≤ 1000000) : EvL X (.BinOp a .Mult b pos) ss (List.replicate k.toNat ds).flatten := fun F0 H0 F H ow σ S Q q => by
  refine wE_of (pe_op op_rep pE pE) (ha F0 H0 F H ow σ S _ fun v1 F1 H1 g1 r1 => ?_)
  refine hb F0 H0 F1 H1 ow σ (S.grow g1) _ fun v2 F2 H2 g2 r2 => ?_
  obtain ⟨ad, xs, rfl, e1, s1⟩ := r1
  have g := g1.trans g2
  refine ⟨ad, k, xs, rfl, r2, g2.fh _ _ (g2.ff _ _ e1), by omega, by omega, ?_, fun p hp => q p _ F2 _ (g.trans (.own g2.fh hp)) (same_none g.hh hp) (same_none g2.fh hp) upd_same ((RepL.mono g2.ff _ _ s1).rep _)⟩
  rw [← s1.len]
  exact sz (by omega)
end
end LW

/-! LWIter: what is walked, targets, comprehensions -/
namespace LW
open PySem PySem.Spec PyProof.Rows L2

/-! ### stores into slots -/
section
variable {K : PySem.W.Frag} {F0 H0 F H : Hp} {ow : Ow} {σ : L2.St} {ss : List Sl} {d : Dt} {ds : List Dt}
theorem Stt.put {i : Nat} {v : V} {s : Sl} {ow' : Ow} (S : Stt K F0 H0 F H ow σ ss) (hs : SlOk K F H ow i (some v) s) : Stt K F0 H0 F H ow (σ.set i (some v)) (ss.set i s) := by
  refine ⟨S.g0, S.own, by rw [List.length_set, List.length_set, S.len], fun j t x e1 e2 => ?_⟩
  by_cases q : i = j
  · subst q
    by_cases l : i < ss.length
    · rw [List.getElem?_set_self l] at e1
      rw [List.getElem?_set_self (by rw [S.len]; exact l)] at e2
      cases e1
      cases e2
      exact hs
    · rw [List.getElem?_eq_none (by rw [List.length_set]; omega)] at e1
      cases e1
  · rw [List.getElem?_set_ne q] at e1 e2
    exact S.sl j t x e1 e2
theorem Stt.val {i : Nat} {v : V} (S : Stt K F0 H0 F H ow σ ss) (r : Rep K F d v) : Stt K F0 H0 F H ow (σ.set i (some v)) (ss.set i (.val d)) := S.put (ow' := ow) ⟨v, rfl, r⟩
theorem Stt.drop1 {i : Nat} {x : Option V} (S : Stt K F0 H0 F H ow σ ss) : Stt K F0 H0 F H ow (σ.set i x) (ss.set i .no) := by
  refine ⟨S.g0, S.own, by rw [List.length_set, List.length_set, S.len], fun j t y e1 e2 => ?_⟩
  by_cases q : i = j
  · subst q
    by_cases l : i < ss.length
    · rw [List.getElem?_set_self l] at e1
      cases e1
      trivial
    · rw [List.getElem?_eq_none (by rw [List.length_set]; omega)] at e1
      cases e1
  · rw [List.getElem?_set_ne q] at e1 e2
    exact S.sl j t y e1 e2
def wipeS (ss : List Sl) : List Nat → List Sl
  | [] => ss
  | v :: vs => (wipeS ss vs).set v .no
theorem Stt.wipe (S : Stt K F0 H0 F H ow σ ss) : ∀ vs : List Nat, Stt K F0 H0 F H ow (L2.wipe σ vs) (wipeS ss vs)
  | [] => S
  | v :: vs => (S.wipe vs).drop1
theorem wipe_at {σ : L2.St} {j : Nat} : ∀ {vs : List Nat}, j ∉ vs → (L2.wipe σ vs)[j]? = σ[j]?
  | [], _ => rfl
  | v :: vs, h => by
    show ((L2.wipe σ vs).set v Option.none)[j]? = σ[j]?
    rw [List.getElem?_set_ne (fun e => h (by simp [e]))]
    exact wipe_at fun m => h (List.mem_cons_of_mem _ m)
theorem wipe_in {σ : L2.St} {j : Nat} (hl : j < σ.length) : ∀ {vs : List Nat}, j ∈ vs → (L2.wipe σ vs)[j]? = some Option.none
  | v :: vs, h => by
    show ((L2.wipe σ vs).set v Option.none)[j]? = some Option.none
    by_cases q : v = j
    · subst q
      rw [List.getElem?_set_self (by rw [L2.wipe_length]; exact hl)]
    · rw [List.getElem?_set_ne q]
      exact wipe_in hl ((List.mem_cons.mp h).resolve_left fun e => q e.symm)
theorem wipe_eq {σ σ2 : L2.St} {vs : List Nat} (hl : σ2.length = σ.length) (h : ∀ j, j ∉ vs → σ2[j]? = (L2.wipe σ vs)[j]?) : L2.wipe σ2 vs = L2.wipe σ vs := by
  apply List.ext_getElem?
  intro j
  by_cases q : j ∈ vs
  · by_cases l : j < σ.length
    · rw [wipe_in (by rw [hl]; exact l) q, wipe_in l q]
    · rw [List.getElem?_eq_none (by rw [L2.wipe_length, hl]; omega), List.getElem?_eq_none (by rw [L2.wipe_length]; omega)]
  · rw [wipe_at q, h j q]
end

/-! ### what is walked -/
def ItD (K : PySem.W.Frag) (J : It) (Fs : Hp) (ds : List Dt) : Prop := ∀ (F H : Hp) (i : Nat), Same Fs F → Same F H →
  (i < ds.length → J.go i H) ∧ (ds.length ≤ i → J.stop i H) ∧ ∀ x H' d, J.yld i H x H' → ds[i]? = some d → ∃ F', Grow F H F' H' ∧ Rep K F' d x
def EvI (X : Cx) (tg iter : Expr) (ss : List Sl) (ds : List Dt) : Prop := ∃ wi, PI X tg iter wi ∧ ∀ F0 H0 F H ow σ, Stt X.K F0 H0 F H ow σ ss → ∀ R : It → Hp → Prop, (∀ J F' H', Grow F H F' H' → ItD X.K J F' ds → R J H') → wi σ H R
def enumD : Nat → List Dt → List Dt
  | _, [] => []
  | k, d :: r => .tup [.int (k : Int), d] :: enumD (k + 1) r
def zipD : List Dt → List Dt → List Dt
  | d :: r, e :: t => .tup [d, e] :: zipD r t
  | _, _ => []
theorem enumD_len : ∀ (k : Nat) (ds : List Dt), (enumD k ds).length = ds.length
  | _, [] => rfl
  | k, d :: r => congrArg Nat.succ (enumD_len (k + 1) r)
theorem enumD_get : ∀ (k i : Nat) (ds : List Dt), (enumD k ds)[i]? = (ds[i]?).map fun d => .tup [.int ((k + i : Nat) : Int), d]
  | _, _, [] => by simp [enumD]
  | k, 0, d :: r => rfl
  | k, i + 1, d :: r => by
    show (enumD (k + 1) r)[i]? = (r[i]?).map _
    rw [enumD_get (k + 1) i r, show k + 1 + i = k + (i + 1) by omega]
theorem zipD_len : ∀ (ds es : List Dt), (zipD ds es).length = min ds.length es.length
  | [], es => by simp [zipD]
  | d :: r, [] => by simp [zipD]
  | d :: r, e :: t => by
    show (zipD r t).length + 1 = min (r.length + 1) (t.length + 1)
    rw [zipD_len r t]
    omega
theorem zipD_get : ∀ (i : Nat) (ds es : List Dt) (z : Dt), (zipD ds es)[i]? = some z → ∃ d e, ds[i]? = some d ∧ es[i]? = some e ∧ z = .tup [d, e]
  | _, [], es, z, h => by simp [zipD] at h
  | _, d :: r, [], z, h => by simp [zipD] at h
  | 0, d :: r, e :: t, z, h => ⟨d, e, rfl, rfl, (Option.some.inj h).symm⟩
  | i + 1, d :: r, e :: t, z, h => zipD_get i r t z h
section
variable {X : Cx} {a b c e o tg iter elt : Expr} {es : List Expr} {ss : List Sl} {d d1 d2 d3 : Dt} {ds ds2 : List Dt} {pos p apos p2 : Pos}
theorem i_list (h : EvE X e ss (.lst ds)) : EvI X tg e ss ds := ⟨_, pi_list pE, fun F0 H0 F H ow σ S R q => h F0 H0 F H ow σ S _ fun v F1 H1 g1 r1 => by
  obtain ⟨ad, vs, rfl, e1, r⟩ := r1
  refine ⟨ad, rfl, ⟨vs, SqL.of (g1.fh _ _ e1)⟩, q _ F1 H1 g1 fun F2 H2 i ff fh => ?_⟩
  have hs : SqL X.K H2 ad vs := SqL.of (fh _ _ (ff _ _ e1))
  have hl := r.len
  refine ⟨fun hi => ⟨vs, vs[i]'(by omega), hs, List.getElem?_eq_getElem (by omega)⟩, fun hi => ⟨vs, hs, by omega⟩, fun x H' d y hd => ?_⟩
  obtain ⟨rfl, y⟩ := y
  obtain ⟨v, hv, rv⟩ := r.get hd
  have e2 := y vs hs
  rw [hv] at e2
  cases e2
  exact ⟨F2, .refl fh, Rep.mono ff _ _ rv⟩⟩
def rngD (lo : Int) (n : Nat) : List Dt := (List.range n).map fun (k : Nat) => .int (lo + (k : Int))
theorem rng_it {K : PySem.W.Frag} {lo : Int} {n : Nat} {F : Hp} : ItD K (Itr lo n) F (rngD lo n) := fun F2 H2 i ff fh => by
  unfold rngD
  rw [List.length_map, List.length_range]
  refine ⟨fun h => h, fun h => h, fun x H' d y hd => ?_⟩
  obtain ⟨rfl, rfl⟩ := y
  rw [List.getElem?_map] at hd
  by_cases q : i < n
  · rw [List.getElem?_range q] at hd
    cases hd
    exact ⟨F2, .refl fh, rfl⟩
  · rw [List.getElem?_eq_none (by rw [List.length_range]; omega)] at hd
    cases hd
theorem i_range1 {n : Int} (h : EvE X a ss (.int n)) (hn : -1000000 ≤ n) (hn2 : n ≤ 1000000) (hm : X.mg "range" = none := by assumption) (hg : Gl X "range" := by rfl) (hs : starEach [a] X.env = (false, eval a X.env) :: starEach [] X.env := by rfl) : EvI X tg (.Call (.Name "range" p) [a] [] pos) ss (rngD 0 n.toNat) :=
  ⟨_, pi_range1 hg hm pA hs, fun F0 H0 F H ow σ S R q => (a_cons h a_nil hs) F0 H0 F H ow σ S _ fun vs F1 H1 g1 r1 => by
    obtain ⟨v, rfl, e⟩ := repL1 r1
    cases e
    exact ⟨n, rfl, by omega, by omega, q _ F1 H1 g1 rng_it⟩⟩
theorem i_range2 {m n : Int} (h : EvE X a ss (.int m)) (h2 : EvE X b ss (.int n)) (hn : -1000000 ≤ n ∧ n ≤ 1000000 ∧ -1000000 ≤ m ∧ m ≤ 1000000) (hm : X.mg "range" = none := by assumption) (hg : Gl X "range" := by rfl)
    (hs : starEach [a, b] X.env = (false, eval a X.env) :: starEach [b] X.env := by rfl) (hs2 : starEach [b] X.env = (false, eval b X.env) :: starEach [] X.env := by rfl) : EvI X tg (.Call (.Name "range" p) [a, b] [] pos) ss (rngD m (n - m).toNat) :=
  ⟨_, pi_range2 hg hm pA (hs.trans (congrArg _ hs2)) hs2, fun F0 H0 F H ow σ S R q => (a_cons h (a_cons h2 a_nil hs2) hs) F0 H0 F H ow σ S _ fun vs F1 H1 g1 r1 => by
    obtain ⟨v, u, rfl, e, e2⟩ := repL2 r1
    cases e
    cases e2
    exact ⟨m, n, rfl, ⟨by omega, by omega, by omega, by omega⟩, q _ F1 H1 g1 rng_it⟩⟩
theorem i_str {z : Str} (h : EvE X e ss (.str z)) : EvI X tg e ss (z.cps.toList.map fun k => .str ⟨#[k]⟩) := ⟨_, pi_str pE, fun F0 H0 F H ow σ S R q => h F0 H0 F H ow σ S _ fun v F1 H1 g1 r1 => by
  refine ⟨z, r1, q _ F1 H1 g1 fun F2 H2 i ff fh => ?_⟩
  rw [List.length_map, Array.length_toList]
  refine ⟨fun h => h, fun h => h, fun x H' d y hd => ?_⟩
  obtain ⟨rfl, k, hk, rfl⟩ := y
  rw [List.getElem?_map, Array.getElem?_toList, hk] at hd
  cases hd
  exact ⟨F2, .refl fh, rfl⟩⟩
theorem i_enum {elts : List Expr} {kk : Nat} {tpos : Pos} (h : EvE X e ss (.lst ds)) (hm : X.mg "enumerate" = none := by assumption) (hg : Gl X "enumerate" := by rfl) (hs : starEach [e] X.env = [(false, eval e X.env)] := by rfl) : EvI X (.Tuple elts kk tpos) (.Call (.Name "enumerate" p) [e] [] pos) ss (enumD 0 ds) :=
  ⟨_, pi_enum hg hm pA hs, fun F0 H0 F H ow σ S R q => (a_cons h a_nil hs) F0 H0 F H ow σ S _ fun ws F1 H1 g1 r1 => by
    obtain ⟨v, rfl, ad, vs, rfl, e1, r⟩ := repL1 r1
    refine ⟨ad, vs, rfl, SqL.of (g1.fh _ _ e1), q _ F1 H1 g1 fun F2 H2 i ff fh => ?_⟩
    have hs : SqL X.K H2 ad vs := SqL.of (fh _ _ (ff _ _ e1))
    have hl := r.len
    rw [enumD_len]
    refine ⟨fun hi => ⟨vs, vs[i]'(by omega), hs, List.getElem?_eq_getElem (by omega)⟩, fun hi => ⟨vs, hs, by omega⟩, fun x H' d y hd => ?_⟩
    obtain ⟨T, x', rfl, nT, rfl, y⟩ := y
    rw [enumD_get, Nat.zero_add] at hd
    cases hq : ds[i]? with
    | none => rw [hq] at hd; cases hd
    | some d' =>
      rw [hq] at hd
      cases hd
      obtain ⟨v, hv, rv⟩ := r.get hq
      have e2 := y vs hs
      rw [hv] at e2
      obtain rfl : v = x' := Option.some.inj e2
      exact ⟨_, .new fh nT, T, [.int (i : Int), v], rfl, upd_same, .cons rfl (.cons (Rep.mono (ff.trans (same_new (same_none fh nT))) _ _ rv) .nil)⟩⟩
theorem i_zip {elts : List Expr} {kk : Nat} {tpos : Pos} (h : EvE X a ss (.lst ds)) (h2 : EvE X b ss (.lst ds2)) (hm : X.mg "zip" = none := by assumption) (hg : Gl X "zip" := by rfl) (hs : starEach [a, b] X.env = (false, eval a X.env) :: starEach [b] X.env := by rfl)
    (hs2 : starEach [b] X.env = (false, eval b X.env) :: starEach [] X.env := by rfl) (hpl : (backTo pos (starEach [b] X.env)).any (·.1) = false := by rfl) : EvI X (.Tuple elts kk tpos) (.Call (.Name "zip" p) [a, b] [] pos) ss (zipD ds ds2) :=
  ⟨_, pi_zip hg hm pA hs hpl, fun F0 H0 F H ow σ S R q => (a_cons h (a_cons h2 a_nil hs2) hs) F0 H0 F H ow σ S _ fun ws F1 H1 g1 r1 => by
    obtain ⟨v, u, rfl, ⟨ad, vs, rfl, e1, r⟩, ⟨bd, us, rfl, e2, r'⟩⟩ := repL2 r1
    refine ⟨ad, bd, vs, us, rfl, SqL.of (g1.fh _ _ e1), SqL.of (g1.fh _ _ e2), q _ F1 H1 g1 fun F2 H2 i ff fh => ?_⟩
    have hs : SqL X.K H2 ad vs := SqL.of (fh _ _ (ff _ _ e1))
    have hs' : SqL X.K H2 bd us := SqL.of (fh _ _ (ff _ _ e2))
    have hl := r.len
    have hl' := r'.len
    rw [zipD_len]
    refine ⟨fun hi => ⟨vs, us, vs[i]'(by omega), us[i]'(by omega), hs, hs', List.getElem?_eq_getElem (by omega), List.getElem?_eq_getElem (by omega)⟩, fun hi => ⟨vs, us, hs, hs', by omega⟩, fun x H' d y hd => ?_⟩
    obtain ⟨T, x', y', rfl, nT, rfl, y1, y2⟩ := y
    obtain ⟨d1, d2, h1, h2, rfl⟩ := zipD_get i ds ds2 d hd
    obtain ⟨v, hv, rv⟩ := r.get h1
    obtain ⟨u, hu, ru⟩ := r'.get h2
    have e3 := y1 vs hs
    have e4 := y2 us hs'
    rw [hv] at e3
    rw [hu] at e4
    obtain rfl : v = x' := Option.some.inj e3
    obtain rfl : u = y' := Option.some.inj e4
    have sm := ff.trans (same_new (o := .tup [v, u]) (same_none fh nT))
    exact ⟨_, .new fh nT, T, [v, u], rfl, upd_same, .cons (Rep.mono sm _ _ rv) (.cons (Rep.mono sm _ _ ru) .nil)⟩⟩
theorem i_is {ds' : List Dt} (h : EvI X tg iter ss ds) (e : ds = ds') : EvI X tg iter ss ds' := e ▸ h

/-! ### targets -/
structure wG (X : Cx) (tg : Expr) (v : V) (σ : L2.St) (H : Hp) (Q : L2.St → Hp → Prop) : Prop where
  go : ∀ pins s u, Inv X pins σ H s → RelV v u → wpAny (model X.prog X.w) X.A (assign tg X.env u) (fun _ s' => ∃ σ' H', Inv X pins σ' H' s' ∧ Q σ' H') X.xe s
theorem pG {tg : Expr} : PG X tg (wG X tg) := ⟨fun pins s σ H v u Q I r h => h.go pins s u I r⟩
theorem wG_of {tg : Expr} {g : TG} {v : V} {σ : L2.St} {H : Hp} {Q : L2.St → Hp → Prop} (h : PG X tg g) (q : g v σ H Q) : wG X tg v σ H Q := ⟨fun pins s u I r => h.run pins s σ H v u Q I r q⟩
def EvG (X : Cx) (tg : Expr) (js : List Nat) (d : Dt) (ss ss' : List Sl) : Prop := ∀ F0 H0 F H ow σ, Stt X.K F0 H0 F H ow σ ss → ∀ v, Rep X.K F d v → ∀ Q : L2.St → Hp → Prop, (∀ σ', Stt X.K F0 H0 F H ow σ' ss' → σ'.length = σ.length → (∀ j, j ∉ js → σ'[j]? = σ[j]?) → Q σ' H) → wG X tg v σ H Q
theorem g_nm (i : Nat) {x : Str} (nd : X.N.Nodup := by assumption) (hN : X.N[i]? = some x := by rfl) (hx : Loc X.env.scope x := by first | exact Or.inl rfl | exact Or.inr rfl) (hf : X.fn x = true ∨ X.env.scope.names.lookup x = some .local := by first | exact .inl rfl | exact .inr rfl) : EvG X (.Name x pos) [i] d ss (ss.set i (.val d)) := fun F0 H0 F H ow σ S v r Q q =>
  wG_of (pg_name nd hN hx hf) (q _ (S.val r) List.length_set fun j hj => List.getElem?_set_ne fun e => hj (by simp [e]))
theorem g_tup2 {t1 t2 : Expr} {k : Nat} {js1 js2 : List Nat} {ss1 ss2 : List Sl} (h1 : EvG X t1 js1 d1 ss ss1) (h2 : EvG X t2 js2 d2 ss1 ss2)
    (hs1 : (assignEach [t1, t2] X.env).map (·.2) = assign t1 X.env :: (assignEach [t2] X.env).map (·.2) := by rfl) (hs2 : (assignEach [t2] X.env).map (·.2) = assign t2 X.env :: (assignEach [] X.env).map (·.2) := by rfl)
    (hn : (assignEach [t1, t2] X.env).length = 2 := by rfl) (hst : (assignEach [t1, t2] X.env).findIdx? (·.1) = none := by rfl) (hc : X.calm = true := by rfl) : EvG X (.Tuple [t1, t2] k pos) (js1 ++ js2) (.tup [d1, d2]) ss ss2 := fun F0 H0 F H ow σ S v r Q q => by
  obtain ⟨ad, vs, rfl, e1, r⟩ := r
  obtain ⟨v1, v2, rfl, r1, r2⟩ := repL2 r
  refine wG_of (pg_tup hc (pgs_cons pG (pgs_cons pG pgs_nil hs2) hs1) hn hst) ⟨ad, _, rfl, SqT.of (S.fh _ _ e1), rfl, v1, [v2], rfl, ?_⟩
  refine h1 F0 H0 F H ow σ S v1 r1 _ fun σ1 S1 l1 k1 => ⟨v2, [], rfl, ?_⟩
  refine h2 F0 H0 F H ow σ1 S1 v2 r2 _ fun σ2 S2 l2 k2 => ⟨rfl, q σ2 S2 (l2.trans l1) fun j hj => ?_⟩
  rw [k2 j (fun m => hj (List.mem_append_right _ m)), k1 j (fun m => hj (List.mem_append_left _ m))]
theorem g_tup3 {t1 t2 t3 : Expr} {k : Nat} {js1 js2 js3 : List Nat} {ss1 ss2 ss3 : List Sl} (h1 : EvG X t1 js1 d1 ss ss1) (h2 : EvG X t2 js2 d2 ss1 ss2) (h3 : EvG X t3 js3 d3 ss2 ss3)
    (hs1 : (assignEach [t1, t2, t3] X.env).map (·.2) = assign t1 X.env :: (assignEach [t2, t3] X.env).map (·.2) := by rfl) (hs2 : (assignEach [t2, t3] X.env).map (·.2) = assign t2 X.env :: (assignEach [t3] X.env).map (·.2) := by rfl) (hs3 : (assignEach [t3] X.env).map (·.2) = assign t3 X.env :: (assignEach [] X.env).map (·.2) := by rfl)
    (hn : (assignEach [t1, t2, t3] X.env).length = 3 := by rfl) (hst : (assignEach [t1, t2, t3] X.env).findIdx? (·.1) = none := by rfl) (hc : X.calm = true := by rfl) : EvG X (.Tuple [t1, t2, t3] k pos) (js1 ++ (js2 ++ js3)) (.tup [d1, d2, d3]) ss ss3 := fun F0 H0 F H ow σ S v r Q q => by
  obtain ⟨ad, vs, rfl, e1, r⟩ := r
  obtain ⟨v1, t, rfl, r1, r'⟩ := r
  obtain ⟨v2, v3, rfl, r2, r3⟩ := repL2 r'
  refine wG_of (pg_tup hc (pgs_cons pG (pgs_cons pG (pgs_cons pG pgs_nil hs3) hs2) hs1) hn hst) ⟨ad, _, rfl, SqT.of (S.fh _ _ e1), rfl, v1, [v2, v3], rfl, ?_⟩
  refine h1 F0 H0 F H ow σ S v1 r1 _ fun σ1 S1 l1 k1 => ⟨v2, [v3], rfl, ?_⟩
  refine h2 F0 H0 F H ow σ1 S1 v2 r2 _ fun σ2 S2 l2 k2 => ⟨v3, [], rfl, ?_⟩
  refine h3 F0 H0 F H ow σ2 S2 v3 r3 _ fun σ3 S3 l3 k3 => ⟨rfl, q σ3 S3 (l3.trans (l2.trans l1)) fun j hj => ?_⟩
  rw [k3 j (fun m => hj (List.mem_append_right _ (List.mem_append_right _ m))), k2 j (fun m => hj (List.mem_append_right _ (List.mem_append_left _ m))), k1 j (fun m => hj (List.mem_append_left _ m))]

/-! ### comprehensions -/
theorem grow_no {F H F' H' : Hp} (g : Grow F H F' H') {D : Addr} {o : HO} (e : H D = some o) (m : mutO o) (n : F D = none) : F' D = none := by
  cases q : F' D with
  | none => rfl
  | some x =>
    have e5 := g.fh D x q
    rw [g.hh D o e] at e5
    cases e5
    rcases g.nw D o q o e with z | z
    · rw [n] at z; cases z
    · exact absurd z (not_tup m)
theorem grow_push {F H F1 H1 : Hp} (g : Grow F H F1 H1) {D : Addr} {o : HO} (h : H D = none) (f : F1 D = none) : Grow F H F1 (upd H1 D o) :=
  ⟨g.ff, fun a u e => by rw [upd_ne (ne_of_none e h)]; exact g.hh _ _ e, fun a u e => by rw [upd_ne (ne_of_none e f)]; exact g.fh _ _ e, g.nw⟩
/-- what a comprehension's block asks -/
abbrev Blk (X : Cx) (scope : Scope) (P : Cx → Prop) : Prop := ∀ (s : Shared) (H : Hp) (C : Addr) (cl : List (Str × Addr)) (fp : List Addr), P (X.blk s H scope (compEnvC scope cl C X.env) fp)
def bE (X : Cx) (scope : Scope) (e : Expr) : TE := fun σ H Q => ∀ (s : Shared) (H' : Hp) (C : Addr) (cl : List (Str × Addr)) (fp : List Addr), wE (X.blk s H' scope (compEnvC scope cl C X.env) fp) e σ H Q
def bG (X : Cx) (scope : Scope) (e : Expr) : TG := fun v σ H Q => ∀ (s : Shared) (H' : Hp) (C : Addr) (cl : List (Str × Addr)) (fp : List Addr), wG (X.blk s H' scope (compEnvC scope cl C X.env) fp) e v σ H Q
/-- the tests of a comprehension -/
structure wTs (X : Cx) (ifs : List Expr) (σ : L2.St) (H : Hp) (Q : Bool → Hp → Prop) : Prop where
  go : ∀ pins s, Inv X pins σ H s → wpAny (model X.prog X.w) X.A (forIn ifs true fun c r => if r = true then do let ok ← isTrue c X.env (eval c X.env); pure (ForInStep.yield ok) else pure (ForInStep.yield r)) (TP X pins σ Q) X.xe s
def EvTs (X : Cx) (ifs : List Expr) (ss : List Sl) (b : Bool) : Prop := ∀ F0 H0 F H ow σ, Stt X.K F0 H0 F H ow σ ss → ∀ Q : Bool → Hp → Prop, (∀ F' H', Grow F H F' H' → Q b H') → wTs X ifs σ H Q
theorem ts_nil : EvTs X [] ss true := fun F0 H0 F H ow σ S Q q => ⟨fun pins s I => pts_nil.run pins s σ H Q I (q F H (.refl S.fh))⟩
theorem ts_one {k : Bool} (h : EvT X c ss k) : EvTs X [c] ss k := fun F0 H0 F H ow σ S Q q => ⟨fun pins s I => (pts_one pT).run pins s σ H Q I (h F0 H0 F H ow σ S Q q)⟩
def bTs (X : Cx) (scope : Scope) (e : List Expr) : TT := fun σ H Q => ∀ (s : Shared) (H' : Hp) (C : Addr) (cl : List (Str × Addr)) (fp : List Addr), wTs (X.blk s H' scope (compEnvC scope cl C X.env) fp) e σ H Q
theorem pLc {ifs : List Expr} {scope : Scope} {own : List (Str × Nat)} {wi : TI} (hc : X.calm = true) (hN : X.N.Nodup) (hi : PI X tg iter wi) (ok : BlkOk X.N X.env.scope scope own) (hs : ∀ x, foldedSetIterable iter X.env x = pure x) :
    PE X (.ListComp elt [⟨tg, iter, ifs, 0⟩] scope pos) (tLc wi (bG X scope tg) (bTs X scope ifs) (bE X scope elt) (own.map (·.2))) :=
  pe_lc hc hN hi ok (fun s H C cl fp => ⟨fun pins s' σ H' v u Q I r h => (h s H C cl fp).go pins s' u I r⟩) (fun s H C cl fp => ⟨fun pins s' σ H' Q I h => (h s H C cl fp).go pins s' I⟩) (fun s H C cl fp => ⟨fun pins s' σ H' Q I h => (h s H C cl fp).go pins s' I⟩) hs
/-- what the block does, item by item -/
structure LcD {α : Type} (X : Cx) (tg : Expr) (ifs : List Expr) (elt : Expr) (scope : Scope) (vs : List Nat) (ss : List Sl) (xs : List α) (enc : α → Dt) (cond : α → Bool) (f : α → Dt) : Prop where
  go : ∀ x ∈ xs, ∃ (js : List Nat) (ss' : List Sl), (∀ j ∈ js, j ∈ vs) ∧ Blk X scope (fun B => EvG B tg js (enc x) (wipeS ss vs) ss') ∧ Blk X scope (fun B => EvTs B ifs ss' (cond x)) ∧ (cond x = true → Blk X scope (fun B => EvE B elt ss' (f x)))
theorem lc_go {α : Type} {ifs : List Expr} {scope : Scope} {vs : List Nat} {xs : List α} {enc : α → Dt} {cond : α → Bool} {f : α → Dt} (B : LcD X tg ifs elt scope vs ss xs enc cond f) (hx : xs.length ≤ 1000000)
    {F0 H0 F H : Hp} {ow : Ow} {σ : L2.St} (S : Stt X.K F0 H0 F H ow σ ss) {J : It} (hJ : ItD X.K J F (xs.map enc)) {Q : VK}
    (q : ∀ p vs F' H', Grow F H F' H' → H p = none → F' p = none → H' p = some (.lst vs) → RepL X.K F' ((xs.filter cond).map f) vs → Q (.ref p) H') :
    ∀ D, H D = none → ∃ W : Nat → Nat → Hp → Prop, (∃ m, W 0 m (upd H D (.lst []))) ∧ ∀ i m H, W i m H →
      (J.stop i H ∧ Q (.ref D) H) ∨ (J.go i H ∧ ∃ Nx : Hp → Prop, (∀ H', Nx H' → ∃ m', m' < m ∧ W (i + 1) m' H') ∧ ∀ x H', J.yld i H x H' → bG X scope tg x (L2.wipe σ vs) H' fun σ2 H2 => L2.wipe σ2 vs = L2.wipe σ vs ∧ bTs X scope ifs σ2 H2 fun b H3 =>
        if b = true then bE X scope elt σ2 H3 fun y H4 => ∃ acc, H4 D = some (.lst acc) ∧ acc.length < sizeLine ∧ Nx (upd H4 D (.lst (acc ++ [y]))) else Nx H3) := by
  intro D hD
  have hDF : F D = none := same_none S.fh hD
  let P : Nat → Hp → Prop := fun i H' => ∃ Fi acc, Grow F H Fi H' ∧ Fi D = none ∧ H' D = some (.lst acc) ∧ RepL X.K Fi (((xs.take i).filter cond).map f) acc
  refine ⟨fun i m H' => m = xs.length - i ∧ i ≤ xs.length ∧ P i H', ⟨xs.length, by omega, Nat.zero_le _, F, [], .own S.fh hD, hDF, upd_same, rfl⟩, ?_⟩
  rintro i m H1 ⟨rfl, hi, Fi, acc, g, fD, eD, r⟩
  obtain ⟨j1, j2, j3⟩ := hJ Fi H1 i g.ff g.fh
  rw [List.length_map] at j1 j2
  by_cases hlt : i < xs.length
  · refine .inr ⟨j1 hlt, P (i + 1), fun H' p' => ⟨xs.length - (i + 1), by omega, rfl, hlt, p'⟩, fun x H2 y => ?_⟩
    have hxi : xs[i]? = some xs[i] := List.getElem?_eq_getElem hlt
    obtain ⟨F2, g2, rx⟩ := j3 x H2 (enc xs[i]) y (by rw [List.getElem?_map, hxi]; rfl)
    obtain ⟨js, ss', hjs, bg, bt, be⟩ := B.go xs[i] (List.getElem_mem hlt)
    have gg := g.trans g2
    have fD2 : F2 D = none := grow_no g2 eD (.inl ⟨_, rfl⟩) fD
    have eD2 : H2 D = some (.lst acc) := g2.hh _ _ eD
    have S2 : Stt X.K F0 H0 F2 H2 ow (L2.wipe σ vs) (wipeS ss vs) := (S.grow gg).wipe vs
    intro s0 H00 C cl fp
    refine bg s0 H00 C cl fp F0 H0 F2 H2 ow _ S2 x rx _ fun σ3 S3 l3 k3 => ⟨wipe_eq (l3.trans (L2.wipe_length _ _)) fun j hj => k3 j fun m => hj (hjs j m), ?_⟩
    intro s1 H01 C1 cl1 fp1
    refine bt s1 H01 C1 cl1 fp1 F0 H0 F2 H2 ow _ S3 _ fun F4 H4 g4 => ?_
    have fD4 : F4 D = none := grow_no g4 eD2 (.inl ⟨_, rfl⟩) fD2
    have eD4 : H4 D = some (.lst acc) := g4.hh _ _ eD2
    have r4 : RepL X.K F4 (((xs.take i).filter cond).map f) acc := RepL.mono (g2.ff.trans g4.ff) _ _ r
    have et : xs.take (i + 1) = xs.take i ++ [xs[i]] := by rw [List.take_add_one, hxi]; rfl
    cases hc : cond xs[i] with
    | true =>
      rw [if_pos rfl]
      intro s2 H02 C2 cl2 fp2
      refine be hc s2 H02 C2 cl2 fp2 F0 H0 F4 H4 ow _ (S3.grow g4) _ fun v F5 H5 g5 r5 => ⟨acc, g5.hh _ _ eD4, ?_, F5, acc ++ [v], grow_push ((gg.trans g4).trans g5) hD (grow_no g5 eD4 (.inl ⟨_, rfl⟩) fD4), grow_no g5 eD4 (.inl ⟨_, rfl⟩) fD4, upd_same, ?_⟩
      · rw [← r4.len, List.length_map]
        have h1 := List.length_filter_le cond (xs.take i)
        rw [List.length_take] at h1
        exact szl (by omega)
      · rw [et, List.filter_append, List.map_append, List.filter_cons, if_pos hc]
        exact (RepL.mono g5.ff _ _ r4).snoc r5
    | false =>
      rw [if_neg Bool.false_ne_true]
      refine ⟨F4, acc, gg.trans g4, fD4, eD4, ?_⟩
      rw [et, List.filter_append, List.map_append, List.filter_cons, if_neg (by rw [hc]; decide)]
      show RepL X.K F4 (_ ++ []) acc
      rw [List.append_nil]
      exact r4
  · have e : i = xs.length := by omega
    subst e
    refine .inl ⟨j2 (Nat.le_refl _), q D acc Fi H1 g hD fD eD ?_⟩
    rw [List.take_length] at r
    exact r
theorem l_comp {α : Type} {ifs : List Expr} {scope : Scope} {own : List (Str × Nat)} {xs : List α} {enc : α → Dt} {cond : α → Bool} {f : α → Dt} (ok : BlkOk X.N X.env.scope scope own)
    (hi : EvI X tg iter ss (xs.map enc)) (B : LcD X tg ifs elt scope (own.map (·.2)) ss xs enc cond f) (hx : xs.length ≤ 1000000) (hN : X.N.Nodup := by assumption) (hc : X.calm = true := by rfl) (hs : ∀ x, foldedSetIterable iter X.env x = pure x := by intro _; rfl) :
    EvL X (.ListComp elt [⟨tg, iter, ifs, 0⟩] scope pos) ss ((xs.filter cond).map f) := fun F0 H0 F H ow σ S Q q => by
  obtain ⟨wi, pw, go⟩ := hi
  refine wE_of (pLc hc hN pw ok hs) (go F0 H0 F H ow σ S _ fun J F1 H1 g1 hJ => ?_)
  exact lc_go B hx (S.grow g1) hJ fun p vs F' H' g h1 h2 h3 r => q p vs F' H' (g1.trans g) (same_none g1.hh h1) h2 h3 r
end
end LW

/-! LWStmt: statements, loops, defs and their calls -/
namespace LW
open PySem PySem.Spec PyProof.Rows L2

/-! ### what is wanted behind a statement -/
inductive Res where
  | val (d : Dt)
  | lst (ds : List Dt)
  | err (C : Addr)
structure DE where
  nx : List Sl → Prop
  rt : Res → Prop
  bk : List Sl → Prop := fun _ => False
  ct : List Sl → Prop := fun _ => False
  ex : Addr → List Sl → Prop := fun _ _ => False
def RetOk (K : PySem.W.Frag) (F0 H0 : Hp) : Res → V → Hp → Prop
  | .val d, v, H => ∃ F', Grow F0 H0 F' H ∧ Rep K F' d v
  | .lst ds, v, H => ∃ F' p vs, Grow F0 H0 F' H ∧ v = .ref p ∧ F' p = none ∧ H0 p = none ∧ H p = some (.lst vs) ∧ RepL K F' ds vs
  | .err _, _, _ => False
def Dn (K : PySem.W.Frag) (F0 H0 : Hp) (P : List Sl → Prop) : L2.St → Hp → Prop := fun σ H => ∃ F ow ss, Stt K F0 H0 F H ow σ ss ∧ P ss
def De (K : PySem.W.Frag) (F0 H0 : Hp) (D : DE) : Ends where
  nx := Dn K F0 H0 D.nx
  rt := fun v H => ∃ r, D.rt r ∧ RetOk K F0 H0 r v H
  bk := Dn K F0 H0 D.bk
  ct := Dn K F0 H0 D.ct
def Dex (K : PySem.W.Frag) (F0 H0 : Hp) (P : Addr → List Sl → Prop) : WX := fun cls d σ H => ∃ C F ow ss, cls = .ref C ∧ d = none ∧ Stt K F0 H0 F H ow σ ss ∧ P C ss
def WS (X : Cx) (st : Stmt) (ss : List Sl) (D : DE) : Prop := ∀ F0 H0, Takes X (Dex X.K F0 H0 D.ex) → ∀ F H ow σ, Stt X.K F0 H0 F H ow σ ss → wS X st (De X.K F0 H0 D) σ H
def WSs (X : Cx) (st : List Stmt) (ss : List Sl) (D : DE) : Prop := ∀ F0 H0, Takes X (Dex X.K F0 H0 D.ex) → ∀ F H ow σ, Stt X.K F0 H0 F H ow σ ss → wSs X st (De X.K F0 H0 D) σ H
/-- an expression that raises C -/
def EvX (X : Cx) (e : Expr) (ss : List Sl) (C : Addr) : Prop := ∀ F0 H0 (P : Addr → List Sl → Prop), Takes X (Dex X.K F0 H0 P) → P C ss → ∀ F H ow σ, Stt X.K F0 H0 F H ow σ ss → ∀ Q : VK, wE X e σ H Q

section
variable {X : Cx} {a b c e o tg iter elt : Expr} {es : List Expr} {ss : List Sl} {d d1 d2 d3 : Dt} {ds ds2 : List Dt} {pos p apos p2 : Pos} {D : DE} {st : Stmt} {sts rest : List Stmt}
theorem sp_mono {pins : List (Addr × Obj)} {D D' : Ends} {f : Flow} {s : Shared} (h : SP X pins D f s) (h1 : ∀ σ H, D.nx σ H → D'.nx σ H) (h2 : ∀ v H, D.rt v H → D'.rt v H) (h3 : ∀ σ H, D.bk σ H → D'.bk σ H) (h4 : ∀ σ H, D.ct σ H → D'.ct σ H) : SP X pins D' f s := by
  cases f with
  | next => obtain ⟨σ', H', I, q⟩ := h; exact ⟨σ', H', I, h1 _ _ q⟩
  | brk => obtain ⟨σ', H', I, q⟩ := h; exact ⟨σ', H', I, h3 _ _ q⟩
  | cont => obtain ⟨σ', H', I, q⟩ := h; exact ⟨σ', H', I, h4 _ _ q⟩
  | ret u => obtain ⟨v, σ', H', I, r, q⟩ := h; exact ⟨v, σ', H', I, r, h2 _ _ q⟩
theorem wS_mono {D D' : Ends} {σ : L2.St} {H : Hp} (h : wS X st D σ H) (h1 : ∀ σ H, D.nx σ H → D'.nx σ H) (h2 : ∀ v H, D.rt v H → D'.rt v H) (h3 : ∀ σ H, D.bk σ H → D'.bk σ H) (h4 : ∀ σ H, D.ct σ H → D'.ct σ H) : wS X st D' σ H :=
  ⟨fun pins s I => thn (h.go pins s I) fun f s' q => sp_mono q h1 h2 h3 h4⟩
theorem wSs_mono {D D' : Ends} {σ : L2.St} {H : Hp} (h : wSs X sts D σ H) (h1 : ∀ σ H, D.nx σ H → D'.nx σ H) (h2 : ∀ v H, D.rt v H → D'.rt v H) (h3 : ∀ σ H, D.bk σ H → D'.bk σ H) (h4 : ∀ σ H, D.ct σ H → D'.ct σ H) : wSs X sts D' σ H :=
  ⟨fun pins s I => thn (h.go pins s I) fun f s' q => sp_mono q h1 h2 h3 h4⟩

theorem s_nil (h : D.nx ss) : WSs X [] ss D := fun F0 H0 tk F H ow σ S => wSs_of pss_nil ⟨F, ow, ss, S, h⟩
theorem s_cons (h : WS X st ss { D with nx := fun s => WSs X rest s D }) : WSs X (st :: rest) ss D := fun F0 H0 tk F H ow σ S =>
  wSs_of (pss_cons pS pSs) (wS_mono (h F0 H0 tk F H ow σ S) (fun σ' H' ⟨F', ow', s', S', q⟩ => q F0 H0 tk F' H' ow' σ' S') (fun _ _ q => q) (fun _ _ q => q) (fun _ _ q => q))
theorem s_one (h : WS X st ss D) : WSs X [st] ss D := fun F0 H0 tk F H ow σ S => wSs_of (pss_one pS) (h F0 H0 tk F H ow σ S)
theorem WS.imp {D' : DE} (h : WS X st ss D) (h1 : ∀ s, D.nx s → D'.nx s) (h2 : ∀ r, D.rt r → D'.rt r) (h3 : ∀ s, D.bk s → D'.bk s) (h4 : ∀ s, D.ct s → D'.ct s) (h5 : ∀ C s, D.ex C s → D'.ex C s) : WS X st ss D' := fun F0 H0 tk F H ow σ S =>
  wS_mono (h F0 H0 (tk.imp fun c d σ H ⟨C, F, ow, s, e1, e2, S, q⟩ => ⟨C, F, ow, s, e1, e2, S, h5 C s q⟩) F H ow σ S) (fun _ _ ⟨F, ow, s, S, q⟩ => ⟨F, ow, s, S, h1 s q⟩) (fun _ _ ⟨r, q, z⟩ => ⟨r, h2 r q, z⟩) (fun _ _ ⟨F, ow, s, S, q⟩ => ⟨F, ow, s, S, h3 s q⟩) (fun _ _ ⟨F, ow, s, S, q⟩ => ⟨F, ow, s, S, h4 s q⟩)
theorem WSs.imp {D' : DE} (h : WSs X sts ss D) (h1 : ∀ s, D.nx s → D'.nx s) (h2 : ∀ r, D.rt r → D'.rt r) (h3 : ∀ s, D.bk s → D'.bk s) (h4 : ∀ s, D.ct s → D'.ct s) (h5 : ∀ C s, D.ex C s → D'.ex C s) : WSs X sts ss D' := fun F0 H0 tk F H ow σ S =>
  wSs_mono (h F0 H0 (tk.imp fun c d σ H ⟨C, F, ow, s, e1, e2, S, q⟩ => ⟨C, F, ow, s, e1, e2, S, h5 C s q⟩) F H ow σ S) (fun _ _ ⟨F, ow, s, S, q⟩ => ⟨F, ow, s, S, h1 s q⟩) (fun _ _ ⟨r, q, z⟩ => ⟨r, h2 r q, z⟩) (fun _ _ ⟨F, ow, s, S, q⟩ => ⟨F, ow, s, S, h3 s q⟩) (fun _ _ ⟨F, ow, s, S, q⟩ => ⟨F, ow, s, S, h4 s q⟩)

/-! ### name = e -/
def evE (K : PySem.W.Frag) (t : TE) (ss : List Sl) (d : Dt) : Prop := ∀ F0 H0 F H ow σ, Stt K F0 H0 F H ow σ ss → ∀ Q : VK, (∀ v F' H', Grow F H F' H' → Rep K F' d v → Q v H') → t σ H Q
def evL (K : PySem.W.Frag) (t : TE) (ss : List Sl) (ds : List Dt) : Prop := ∀ F0 H0 F H ow σ, Stt K F0 H0 F H ow σ ss → ∀ Q : VK, (∀ p vs F' H', Grow F H F' H' → H p = none → F' p = none → H' p = some (.lst vs) → RepL K F' ds vs → Q (.ref p) H') → t σ H Q
def MatF (K : PySem.W.Frag) (H F' H' : Hp) : List (List Dt) → List Addr → Prop
  | [], as => as = []
  | r :: rs, as => ∃ a t vs, as = a :: t ∧ H a = none ∧ F' a = none ∧ H' a = some (.lst vs) ∧ RepL K F' r vs ∧ MatF K H F' H' rs t
def evM (K : PySem.W.Frag) (t : TE) (ss : List Sl) (rows : List (List Dt)) : Prop := ∀ F0 H0 F H ow σ, Stt K F0 H0 F H ow σ ss → ∀ Q : VK, (∀ p as F' H', Grow F H F' H' → H p = none → F' p = none → H' p = some (.lst (as.map V.ref)) → (p :: as).Nodup → MatF K H F' H' rows as → Q (.ref p) H') → t σ H Q
def AsgE (X : Cx) (st : Stmt) (i : Nat) (ss : List Sl) (d : Dt) : Prop := ∃ t, PS X st (tAsg t (gName i)) ∧ evE X.K t ss d
def AsgL (X : Cx) (st : Stmt) (i : Nat) (ss : List Sl) (ds : List Dt) : Prop := ∃ t, PS X st (tAsg t (gName i)) ∧ evL X.K t ss ds
def AsgM (X : Cx) (st : Stmt) (i : Nat) (ss : List Sl) (rows : List (List Dt)) : Prop := ∃ t, PS X st (tAsg t (gName i)) ∧ evM X.K t ss rows
theorem evL_e {K : PySem.W.Frag} {t : TE} (h : evL K t ss ds) : evE K t ss (.lst ds) := fun F0 H0 F H ow σ S Q q => h F0 H0 F H ow σ S Q fun p vs F' H' g e1 e2 e3 r =>
  q (.ref p) (upd F' p (.lst vs)) H' ⟨g.ff.trans (same_new e2), g.hh, fun a u ha => by
      by_cases z : a = p
      · subst z
        rw [upd_same] at ha
        cases ha
        exact e3
      · rw [upd_ne z] at ha
        exact g.fh a u ha, fun a u ha w hw => by
      have z : a ≠ p := ne_of_none hw e1
      rw [upd_ne z] at ha
      exact g.nw a u ha w hw⟩ ⟨p, vs, rfl, upd_same, RepL.mono (same_new e2) _ _ r⟩
theorem AsgL.ev {i : Nat} (h : AsgL X st i ss ds) : AsgE X st i ss (.lst ds) := let ⟨t, p, q⟩ := h; ⟨t, p, evL_e q⟩
theorem ae (i : Nat) {x : Str} (h : EvE X e ss d) (nd : X.N.Nodup := by assumption) (hN : X.N[i]? = some x := by rfl) (hx : Loc X.env.scope x := by first | exact Or.inl rfl | exact Or.inr rfl) (hs : swapsWith e (some (.Name x p)) pos.line X.env = pure false := by rfl) (hf : X.fn x = true ∨ X.env.scope.names.lookup x = some .local := by first | exact .inl rfl | exact .inr rfl) :
    AsgE X (.Assign [.Name x p] e pos) i ss d := ⟨_, ps_set nd hN hx pE hs hf, h⟩
theorem al (i : Nat) {x : Str} (h : EvL X e ss ds) (nd : X.N.Nodup := by assumption) (hN : X.N[i]? = some x := by rfl) (hx : Loc X.env.scope x := by first | exact Or.inl rfl | exact Or.inr rfl) (hs : swapsWith e (some (.Name x p)) pos.line X.env = pure false := by rfl) (hf : X.fn x = true ∨ X.env.scope.names.lookup x = some .local := by first | exact .inl rfl | exact .inr rfl) :
    AsgL X (.Assign [.Name x p] e pos) i ss ds := ⟨_, ps_set nd hN hx pE hs hf, h⟩
/-- name = [.. for ..] -/
theorem ac {α : Type} (i : Nat) {y : Str} {py spos : Pos} {ifs : List Expr} {scope : Scope} {own : List (Str × Nat)} {xs : List α} {enc : α → Dt} {cond : α → Bool} {f : α → Dt} (ok : BlkOk X.N X.env.scope scope own)
    (hi : EvI X tg iter ss (xs.map enc)) (B : LcD X tg ifs elt scope (own.map (·.2)) ss xs enc cond f) (hx : xs.length ≤ 1000000) (nd : X.N.Nodup := by assumption) (hc : X.calm = true := by rfl) (hN : X.N[i]? = some y := by rfl) (hyl : X.env.scope.names.lookup y = some .local := by rfl)
    (hsw : swapsWith (.ListComp elt [⟨tg, iter, ifs, 0⟩] scope pos) (some (.Name y py)) spos.line X.env = pure true := by exact sw_true rfl rfl rfl (by kernel_rfl)) (hs : ∀ x, foldedSetIterable iter X.env x = pure x := by intro _; rfl) :
    AsgL X (.Assign [.Name y py] (.ListComp elt [⟨tg, iter, ifs, 0⟩] scope pos) spos) i ss ((xs.filter cond).map f) := by
  obtain ⟨wi, pw, go⟩ := hi
  refine ⟨_, ps_setLc (g := bG X scope tg) (tt := bTs X scope ifs) (te := bE X scope elt) hc nd hN hyl hsw pw ok (fun s H C cl fp => ⟨fun pins s' σ H' v u Q I r h => (h s H C cl fp).go pins s' u I r⟩) (fun s H C cl fp => ⟨fun pins s' σ H' Q I h => (h s H C cl fp).go pins s' I⟩) (fun s H C cl fp => ⟨fun pins s' σ H' Q I h => (h s H C cl fp).go pins s' I⟩) hs, fun F0 H0 F H ow σ S Q q => ?_⟩
  refine go F0 H0 F H ow σ S _ fun J F1 H1 g1 hJ => ?_
  exact lc_go B hx (S.grow g1) hJ fun p vs F' H' g h1 h2 h3 r => q p vs F' H' (g1.trans g) (same_none g1.hh h1) h2 h3 r
theorem s_val {i : Nat} (h : AsgE X st i ss d) (k : D.nx (ss.set i (.val d))) : WS X st ss D := fun F0 H0 tk F H ow σ S => by
  obtain ⟨t, pt, go⟩ := h
  exact wS_of pt (go F0 H0 F H ow σ S _ fun v F1 H1 g1 r1 => ⟨F1, ow, _, (S.grow g1).val r1, k⟩)
/-- more is ours -/
theorem Stt.more {K : PySem.W.Frag} {F0 H0 F H : Hp} {ow : Ow} {σ : L2.St} {q : Addr → Prop} [DecidablePred q] {i : Nat} (S : Stt K F0 H0 F H ow σ ss) (h : ∀ a, q a → F a = none ∧ H0 a = none ∧ ∃ o, H a = some o ∧ mutO o) (n : ∀ a, q a → ow a = none) :
    Stt K F0 H0 F H (fun a => if q a then some i else ow a) σ ss := by
  refine ⟨S.g0, fun a j e => ?_, S.len, fun j t x e1 e2 => ?_⟩
  · by_cases z : q a
    · exact h a z
    · simp only [if_neg z] at e
      exact S.own a j e
  · have k : ∀ a j, ow a = some j → (if q a then some i else ow a) = some j := fun a j e => by
      by_cases z : q a
      · rw [n a z] at e
        cases e
      · rw [if_neg z]
        exact e
    have km : ∀ {rows as}, MatOk K F H ow j rows as → MatOk K F H (fun a => if q a then some i else ow a) j rows as := by
      intro rows
      induction rows with
      | nil => intro as m; exact m
      | cons r rs ih =>
        intro as m
        obtain ⟨a, t, vs, e, e1, e2, e3, e4⟩ := m
        exact ⟨a, t, vs, e, e1, k _ _ e2, e3, ih e4⟩
    have s := S.sl j t x e1 e2
    cases t with
    | no => trivial
    | val d => exact s
    | lst ds => obtain ⟨a, vs, e, e1, e2, e3⟩ := s; exact ⟨a, vs, e, e1, k _ _ e2, e3⟩
    | dct ks ds => obtain ⟨a, vs, e, e1, e2, e3⟩ := s; exact ⟨a, vs, e, e1, k _ _ e2, e3⟩
    | mat rows => obtain ⟨a, as, e, e1, e2, e3, e4⟩ := s; exact ⟨a, as, e, e1, k _ _ e2, e3, km e4⟩
theorem own_no {K : PySem.W.Frag} {F0 H0 F H : Hp} {ow : Ow} {σ : L2.St} (S : Stt K F0 H0 F H ow σ ss) {a : Addr} (h : H a = none) : ow a = none := by
  cases q : ow a with
  | none => rfl
  | some i =>
    obtain ⟨_, _, o, e, _⟩ := S.own a i q
    rw [h] at e
    cases e
theorem Stt.lst {K : PySem.W.Frag} {F0 H0 F H F' H' : Hp} {ow : Ow} {σ : L2.St} {i : Nat} {q : Addr} {vs : List V} (S : Stt K F0 H0 F H ow σ ss) (g : Grow F H F' H') (h1 : H q = none) (h2 : F' q = none) (h3 : H' q = some (.lst vs)) (r : RepL K F' ds vs) :
    Stt K F0 H0 F' H' (fun a => if a = q then some i else ow a) (σ.set i (some (.ref q))) (ss.set i (.lst ds)) :=
  ((S.grow g).more (q := fun a => a = q) (i := i) (fun a e => by subst e; exact ⟨h2, same_none S.g0.hh h1, _, h3, .inl ⟨_, rfl⟩⟩) (fun a e => by subst e; exact own_no S h1)).put (ow' := ow) ⟨q, vs, rfl, h3, by simp, r⟩
theorem s_own {i : Nat} (h : AsgL X st i ss ds) (k : D.nx (ss.set i (.lst ds))) : WS X st ss D := fun F0 H0 tk F H ow σ S => by
  obtain ⟨t, pt, go⟩ := h
  exact wS_of pt (go F0 H0 F H ow σ S _ fun p vs F1 H1 g1 h1 h2 h3 r1 => ⟨F1, _, _, S.lst g1 h1 h2 h3 r1, k⟩)

/-! ### if, return, expressions -/
theorem s_if {k : Bool} {A B : List Stmt} (h : EvT X c ss k) (h1 : k = true → WSs X A ss D) (h2 : k = false → WSs X B ss D) : WS X (.If c A B pos) ss D := fun F0 H0 tk F H ow σ S => by
  refine wS_of (ps_if pT pSs pSs) (h F0 H0 F H ow σ S _ fun F1 H1 g1 => ?_)
  cases k with
  | true =>
    rw [if_pos rfl]
    exact h1 rfl F0 H0 tk F1 H1 ow σ (S.grow g1)
  | false =>
    rw [if_neg Bool.false_ne_true]
    exact h2 rfl F0 H0 tk F1 H1 ow σ (S.grow g1)
theorem s_ret (h : EvE X e ss d) (k : D.rt (.val d)) : WS X (.Return (some e) pos) ss D := fun F0 H0 tk F H ow σ S =>
  wS_of (ps_ret pE) (h F0 H0 F H ow σ S _ fun v F1 H1 g1 r1 => ⟨_, k, F1, S.g0.trans g1, r1⟩)
theorem s_retB (h : EvB X e ss d) (k : D.rt (.val d)) : WS X (.Return (some e) pos) ss D := fun F0 H0 tk F H ow σ S =>
  wS_of (ps_ret pE) (h F0 H0 F H ow σ S _ fun v F1 H1 g1 r1 => ⟨_, k, _, Rr_grow (S.grow g1).g0 (S.grow g1).own, r1⟩)
theorem s_retL (h : EvL X e ss ds) (k : D.rt (.lst ds)) : WS X (.Return (some e) pos) ss D := fun F0 H0 tk F H ow σ S =>
  wS_of (ps_ret pE) (h F0 H0 F H ow σ S _ fun p vs F1 H1 g1 h1 h2 h3 r1 => ⟨_, k, F1, p, vs, S.g0.trans g1, rfl, h2, same_none S.g0.hh h1, h3, r1⟩)
/-- return of a name that holds a list of ours -/
theorem s_retO (i : Nat) {x : Str} (k : D.rt (.lst ds)) (hN : X.N[i]? = some x := by rfl) (hs : ss[i]? = some (.lst ds) := by rfl) (hv : Vis X.env.scope x := by first | exact Or.inl rfl | exact Or.inr (Or.inl rfl) | exact Or.inr (Or.inr rfl))
    (hd : (x == ("__debug__" : Str)) = false := by decide) (hcd : (x == ("__classdict__" : Str)) = false := by decide) : WS X (.Return (some (.Name x p)) pos) ss D := fun F0 H0 tk F H ow σ S => by
  obtain ⟨y, hy, ad, vs, rfl, e1, e2, r⟩ := S.at hs
  obtain ⟨f1, f2, _⟩ := S.own _ _ e2
  exact wS_of (ps_ret (pv i hN hv hd hcd)) ⟨_, hy, _, k, F, ad, vs, S.g0, rfl, f1, f2, e1, r⟩
theorem s_retN (k : D.rt (.val .non)) : WS X (.Return none pos) ss D := fun F0 H0 tk F H ow σ S => wS_of ps_retN ⟨_, k, F, S.g0, rfl⟩
theorem s_expr (h : EvE X e ss d) (k : D.nx ss) (hs : swapsWith e none pos.line X.env = pure false := by rfl) : WS X (.Expr e pos) ss D := fun F0 H0 tk F H ow σ S =>
  wS_of (ps_expr pE hs) (h F0 H0 F H ow σ S _ fun v F1 H1 g1 r1 => ⟨F1, ow, ss, S.grow g1, k⟩)
theorem s_pass (k : D.nx ss) : WS X (.Pass pos) ss D := fun F0 H0 tk F H ow σ S => wS_of ps_pass ⟨F, ow, ss, S, k⟩
theorem s_brk (k : D.bk ss) : WS X (.Break pos) ss D := fun F0 H0 tk F H ow σ S => wS_of ps_break ⟨F, ow, ss, S, k⟩

/-! ### what is ours is changed -/
theorem Stt.chg {K : PySem.W.Frag} {F0 H0 F H : Hp} {ow : Ow} {σ : L2.St} {i : Nat} {q : Addr} {u : HO} (S : Stt K F0 H0 F H ow σ ss) (ho : ow q = some i) (m : mutO u) {x : Option V} (hx : σ[i]? = some x) {s : Sl} (hs : ∀ H', Same F H' → H' = upd H q u → SlOk K F H' ow i x s) :
    Stt K F0 H0 F (upd H q u) ow σ (ss.set i s) := by
  obtain ⟨f1, f2, o, f3, f4⟩ := S.own _ _ ho
  have fh : Same F (upd H q u) := fun a w e => by
    rw [upd_ne (ne_of_none e f1)]
    exact S.fh a w e
  refine ⟨⟨S.g0.ff, fun a w e => ?_, fh, S.g0.nw⟩, fun a j e => ?_, by rw [List.length_set, S.len], fun j t y e1 e2 => ?_⟩
  · rw [upd_ne (ne_of_none e f2)]
    exact S.g0.hh a w e
  · obtain ⟨g1, g2, o, g3, g4⟩ := S.own a j e
    refine ⟨g1, g2, ?_⟩
    by_cases z : a = q
    · subst z
      exact ⟨u, upd_same, m⟩
    · exact ⟨o, by rw [upd_ne z]; exact g3, g4⟩
  · by_cases z : i = j
    · subst z
      rw [hx] at e2
      cases e2
      by_cases l : i < ss.length
      · rw [List.getElem?_set_self l] at e1
        cases e1
        exact hs _ fh rfl
      · rw [List.getElem?_eq_none (by rw [List.length_set]; omega)] at e1
        cases e1
    · rw [List.getElem?_set_ne z] at e1
      have old := S.sl j t y e1 e2
      have ne : ∀ a, ow a = some j → a ≠ q := fun a e w => by
        subst w
        rw [ho] at e
        exact z (Option.some.inj e)
      have km : ∀ {rows as}, MatOk K F H ow j rows as → MatOk K F (upd H q u) ow j rows as := by
        intro rows
        induction rows with
        | nil => intro as m; exact m
        | cons r rs ih =>
          intro as m
          obtain ⟨a, t, vs, e, e1, e2, e3, e4⟩ := m
          exact ⟨a, t, vs, e, by rw [upd_ne (ne _ e2)]; exact e1, e2, e3, ih e4⟩
      cases t with
      | no => trivial
      | val d => exact old
      | lst ds => obtain ⟨a, vs, e, e1, e2, e3⟩ := old; exact ⟨a, vs, e, by rw [upd_ne (ne _ e2)]; exact e1, e2, e3⟩
      | dct ks ds => obtain ⟨a, vs, e, e1, e2, e3⟩ := old; exact ⟨a, vs, e, by rw [upd_ne (ne _ e2)]; exact e1, e2, e3⟩
      | mat rows => obtain ⟨a, as, e, e1, e2, e3, e4⟩ := old; exact ⟨a, as, e, by rw [upd_ne (ne _ e2)]; exact e1, e2, e3, km e4⟩
/-- x.append(e) -/
theorem s_app (i : Nat) {x : Str} (h : EvE X e ss d) (k : D.nx (ss.set i (.lst (ds ++ [d])))) (hz : ds.length < 1000000) (hN : X.N[i]? = some x := by rfl) (hs : ss[i]? = some (.lst ds) := by rfl) (hv : Vis X.env.scope x := by first | exact Or.inl rfl | exact Or.inr (Or.inl rfl) | exact Or.inr (Or.inr rfl))
    (hd : (x == ("__debug__" : Str)) = false := by decide) (hcd : (x == ("__classdict__" : Str)) = false := by decide) (hw : swapsWith (.Call (.Attribute (.Name x p) "append" apos) [e] [] p2) none pos.line X.env = pure false := by rfl)
    (hbase : attributeBase (.Name x p) "append" X.env (eval (.Name x p) X.env) = eval (.Name x p) X.env := by rfl)
    (hfew : ((backTo p2 (starEach [e] X.env)).all (fun x => !x.1) && (backToKw p2 (keywordEach [] X.env)).all (fun x => x.1.isSome) && decide ([e].length + ([] : List Keyword).length + (if ([] : List Keyword).isEmpty then 0 else 1) < 30)) = true := by rfl)
    (hline : (apos.endLine == p2.line) = true := by rfl) (hst : starEach [e] X.env = (false, eval e X.env) :: starEach [] X.env := by rfl) (hplain : (backTo p2 (starEach [] X.env)).any (·.1) = false := by rfl) :
    WS X (.Expr (.Call (.Attribute (.Name x p) "append" apos) [e] [] p2) pos) ss D := fun F0 H0 tk F H ow σ S => by
  obtain ⟨y, hy, ad, vs, rfl, e1, e2, r⟩ := S.at hs
  refine wS_of (ps_expr (pe_bm PySem.F.plainAttrs_list PySem.F.slot_list_append PySem.F.type_list_append mt_append (pv i hN hv hd hcd) pA hbase hfew hline hst hplain) hw) ⟨_, hy, .inl ⟨rfl, _, SqL.of e1⟩, ?_⟩
  refine (a_cons h a_nil hst) F0 H0 F H ow σ S _ fun ws F1 H1 g1 r1 => ?_
  obtain ⟨v, rfl, rv⟩ := repL1 r1
  have e3 := g1.hh _ _ e1
  refine ⟨ad, vs, v, rfl, rfl, e3, by rw [← r.len]; exact szl (by omega), F1, ow, _, (S.grow g1).chg (s := .lst (ds ++ [d])) e2 (.inl ⟨_, rfl⟩) hy fun H' _ he => ⟨ad, vs ++ [v], rfl, by rw [he, upd_same], e2, (RepL.mono g1.ff _ _ r).snoc rv⟩, k⟩

/-! ### loops -/
theorem RetOk.unbase {K : PySem.W.Frag} {F0 F1 H0 H : Hp} {v : V} (a : Same F0 F1) (n : ∀ a o, F1 a = some o → ∀ u, H0 a = some u → F0 a = some o ∨ tupO o) : ∀ {r : Res}, RetOk K F1 H0 r v H → RetOk K F0 H0 r v H
  | .val d, h => by
    obtain ⟨F', g, r⟩ := h
    exact ⟨F', ⟨a.trans g.ff, g.hh, g.fh, fun x o e u hu => (g.nw x o e u hu).elim (fun e1 => n x o e1 u hu) .inr⟩, r⟩
  | .lst ds, h => by
    obtain ⟨F', p, vs, g, r⟩ := h
    exact ⟨F', p, vs, ⟨a.trans g.ff, g.hh, g.fh, fun x o e u hu => (g.nw x o e u hu).elim (fun e1 => n x o e1 u hu) .inr⟩, r⟩
  | .err _, h => h
theorem s_for {body : List Stmt} (hi : EvI X tg iter ss ds) (Iv : Nat → List Sl → Prop) (h0 : Iv 0 ss)
    (hs : ∀ i d s, ds[i]? = some d → Iv i s → ∃ js s', EvG X tg js d s s' ∧ WSs X body s' { D with nx := Iv (i + 1), ct := Iv (i + 1), bk := D.nx }) (hd : ∀ s, Iv ds.length s → D.nx s) (hp : PassesOwn (model X.prog X.w) X.A X.env X.xe := by assumption) (hc : X.calm = true := by rfl) (hfs : ∀ x, foldedSetIterable iter X.env x = pure x := by intro _; rfl) : WS X (.For tg iter body [] pos) ss D := fun F0 H0 tk F H ow σ S => by
  obtain ⟨wi, pw, go⟩ := hi
  refine wS_of (ps_for hp hc pw pG pSs hfs) (go F0 H0 F H ow σ S _ fun J F1 H1 g1 hJ => ?_)
  have S1 := S.grow g1
  have a1 : Same F0 F1 := S1.g0.ff
  have n1 := S1.g0.nw
  refine ⟨fun i m σ' H' => m = ds.length - i ∧ i ≤ ds.length ∧ Dn X.K F1 H0 (Iv i) σ' H', ⟨ds.length, by omega, Nat.zero_le _, F1, ow, ss, S1.rebase, h0⟩, ?_⟩
  rintro i m σ' H' ⟨rfl, hi, F2, ow2, s2, S2, iv⟩
  obtain ⟨j1, j2, j3⟩ := hJ F2 H' i S2.g0.ff S2.g0.fh
  by_cases hlt : i < ds.length
  · refine .inr ⟨j1 hlt, Dn X.K F1 H0 (Iv (i + 1)), fun σ3 H3 q => ⟨ds.length - (i + 1), by omega, rfl, hlt, q⟩, fun x H3 y => ?_⟩
    have hd' : ds[i]? = some ds[i] := List.getElem?_eq_getElem hlt
    obtain ⟨F3, g3, rx⟩ := j3 x H3 _ y hd'
    obtain ⟨js, s', hg, hb⟩ := hs i _ s2 hd' iv
    refine hg F1 H0 F3 H3 ow2 σ' (S2.grow g3) x rx _ fun σ4 S4 _ _ => ?_
    refine wSs_mono (hb F1 H0 (tk.imp fun c d σ H ⟨C, F, ow, s, e1, e2, S, q⟩ => ⟨C, F, ow, s, e1, e2, S.unbase a1 n1, q⟩) F3 H3 ow2 σ4 S4) (fun _ _ q => q) (fun v H ⟨r, q1, q2⟩ => ⟨r, q1, q2.unbase a1 n1⟩) (fun _ _ ⟨F, ow, s, S, q⟩ => ⟨F, ow, s, S.unbase a1 n1, q⟩) (fun _ _ q => q)
  · have e : i = ds.length := by omega
    subst e
    exact .inl ⟨j2 (Nat.le_refl _), F2, ow2, s2, S2.unbase a1 n1, hd s2 iv⟩
theorem s_while {body : List Stmt} (Iv : Nat → List Sl → Prop) (m0 : Nat) (h0 : Iv m0 ss)
    (hs : ∀ m s, Iv m s → ∃ k, EvT X c s k ∧ (k = true → WSs X body s { D with nx := fun s' => ∃ m', m' < m ∧ Iv m' s', ct := fun s' => ∃ m', m' < m ∧ Iv m' s', bk := D.nx }) ∧ (k = false → D.nx s)) (hp : PassesOwn (model X.prog X.w) X.A X.env X.xe := by assumption) : WS X (.While c body [] pos) ss D := fun F0 H0 tk F H ow σ S => by
  refine wS_of (ps_while hp pT pSs) ⟨fun m σ' H' => Dn X.K F0 H0 (Iv m) σ' H', ⟨m0, F, ow, ss, S, h0⟩, ?_⟩
  rintro m σ' H' ⟨F2, ow2, s2, S2, iv⟩
  obtain ⟨k, ht, h1, h2⟩ := hs m s2 iv
  refine ht F0 H0 F2 H' ow2 σ' S2 _ fun F3 H3 g3 => ?_
  cases k with
  | true =>
    rw [if_pos rfl]
    refine ⟨Dn X.K F0 H0 (fun s' => ∃ m', m' < m ∧ Iv m' s'), fun σ4 H4 ⟨F, ow, s, S, m', l, q⟩ => ⟨m', l, F, ow, s, S, q⟩, ?_⟩
    exact wSs_mono (h1 rfl F0 H0 tk F3 H3 ow2 σ' (S2.grow g3)) (fun _ _ q => q) (fun _ _ q => q) (fun _ _ q => q) (fun _ _ q => q)
  | false =>
    rw [if_neg Bool.false_ne_true]
    exact ⟨F3, ow2, s2, S2.grow g3, h2 rfl⟩

/-! ### defs -/
def ResOk (K : PySem.W.Frag) (F H : Hp) : Res → VK → XK → Prop
  | .val d, Q, _ => ∀ v F' H', Grow F H F' H' → Rep K F' d v → Q v H'
  | .lst ds, Q, _ => ∀ p vs F' H', Grow F H F' H' → F' p = none → H p = none → H' p = some (.lst vs) → RepL K F' ds vs → Q (.ref p) H'
  | .err C, _, E => ∀ F' H', Grow F H F' H' → E (.ref C) none H'
abbrev GR := List Dt → Res → Prop
def spD (K : PySem.W.Frag) (G : GR) : Sp := fun vs H Q E => ∃ F ds r, Same F H ∧ RepL K F ds vs ∧ G ds r ∧ ResOk K F H r Q E
def startS (n : Nat) (ds : List Dt) : List Sl := ds.map .val ++ List.replicate (n - ds.length) .no
def goal (r : Res) : DE where
  nx := fun _ => r = .val .non
  rt := fun r' => r' = r
  ex := fun C _ => r = .err C
end
section
variable {P : Program} {w : World} {K : PySem.W.Frag} {mg : Str → Option Value} {base : Heap}
theorem start_stt {F H : Hp} {N : List Str} : ∀ {ds : List Dt} {vs : List V}, RepL K F ds vs → Same F H → Stt K F H F H (fun _ => none) (start N vs) (startS N.length ds) := fun {ds vs} r fh => by
  refine ⟨.refl fh, fun a i e => (nomatch e), ?_, fun i s x e1 e2 => ?_⟩
  · unfold L2.start startS
    rw [List.length_append, List.length_append, List.length_map, List.length_map, List.length_replicate, List.length_replicate, r.len]
  · unfold L2.start at e2
    unfold startS at e1
    have hl := r.len
    by_cases l : i < ds.length
    · rw [List.getElem?_append_left (by rw [List.length_map]; exact l), List.getElem?_map] at e1
      rw [List.getElem?_append_left (by rw [List.length_map]; omega), List.getElem?_map] at e2
      cases q : ds[i]? with
      | none => rw [q] at e1; cases e1
      | some d =>
        rw [q] at e1
        cases e1
        obtain ⟨v, hv, rv⟩ := r.get q
        rw [hv] at e2
        cases e2
        exact ⟨v, rfl, rv⟩
    · rw [List.getElem?_append_right (by rw [List.length_map]; omega), List.getElem?_replicate] at e1
      split at e1
      · cases e1
        trivial
      · cases e1
theorem fn_ok {x qual : Str} {params : Arguments} {body : List Stmt} {scope : Scope} {dvs : List V} {kws : List (Str × V)} {f : Addr} {fd : FuncData} {N ps : List Str} {k : Nat} {G : GR} (F : FunD K x qual params body scope dvs kws f fd) (S : FnScope N ps scope) (len : ∀ ds r, G ds r → ds.length = ps.length)
    (hb : ∀ (cdv : Value) (A : Around) (outer : List Env) (s : Shared) (H : Hp) (E : XK) (ds : List Dt) (r : Res), Room k (A.deeper (envOfC qual scope s.heap.objs.size f cdv)) → G ds r →
      PassesOwn (model P w) (A.deeper (envOfC qual scope s.heap.objs.size f cdv)) (envOfC qual scope s.heap.objs.size f cdv) (cxOf (L2.CX P w) P w K mg base N qual scope f cdv A outer s H E).xe →
      WSs (cxOf (L2.CX P w) P w K mg base N qual scope f cdv A outer s H E) body (startS N.length ds) (goal r)) : FnOk P w K mg base (L2.CX P w) (k + 1) f fd ps (spD K G) := by
  refine F.ok S (fun vs H Q E h => ?_) (fun cdv A outer s H vs Q E hr h => ?_)
  · obtain ⟨F, ds, r, _, rl, g, _⟩ := h
    rw [← rl.len]
    exact len ds r g
  · obtain ⟨F, ds, r, fh, rl, g, ok⟩ := h
    refine ⟨wSs _ body, pSs, ?_⟩
    have tk : Takes (cxOf (L2.CX P w) P w K mg base N qual scope f cdv A outer s H E) (Dex K F H (goal r).ex) := (takes_of rfl rfl rfl rfl).imp fun cls d σ H' z => by
      obtain ⟨C, F', ow, ss, e1, e2, S, q⟩ := z
      have q : r = .err C := q
      subst q e1 e2
      exact ok F' H' S.g0
    refine wSs_mono (hb cdv A outer s H E ds r hr g (passes_of rfl) F H tk F H _ _ (start_stt rl fh)) (fun σ H' ⟨F', ow, ss, S, q⟩ => ?_) (fun v H' ⟨r', q1, q2⟩ => ?_) (fun _ _ ⟨_, _, _, _, q⟩ => q.elim) (fun _ _ ⟨_, _, _, _, q⟩ => q.elim)
    · have q : r = .val .non := q
      subst q
      exact ok .non F' H' S.g0 rfl
    · have q1 : r' = r := q1
      subst q1
      cases r' with
      | val d =>
        obtain ⟨F', g', r⟩ := q2
        exact ok v F' H' g' r
      | lst ds =>
        obtain ⟨F', p, vs, g', rfl, h1, h2, h3, h4⟩ := q2
        exact ok p vs F' H' g' h1 h2 h3 h4
      | err C => exact q2.elim
end
/-- a def of the module and its promise -/
structure Fn (P : Program) (w : World) (K : PySem.W.Frag) (mg : Str → Option Value) (base : Heap) (k : Nat) (x : Str) (G : GR) : Prop where
  ex : ∃ f fd ps, FnOk P w K mg base (L2.CX P w) k f fd ps (spD K G) ∧ mg x = some (.ref f) ∧ PySem.W.keepIn K (.ref f) = true ∧ Binds K fd ps []
theorem Fn.mono {P : Program} {w : World} {K : PySem.W.Frag} {mg : Str → Option Value} {base : Heap} {j k : Nat} {x : Str} {G : GR} (F : Fn P w K mg base j x G) (h : j ≤ k) : Fn P w K mg base k x G :=
  let ⟨f, fd, ps, a, b⟩ := F.ex; ⟨f, fd, ps, a.mono h, b⟩
section
variable {X : Cx} {a b c e o tg iter elt : Expr} {es : List Expr} {ss : List Sl} {d d1 d2 d3 : Dt} {ds ds2 : List Dt} {pos p apos p2 : Pos} {D : DE} {k : Nat} {x : Str} {G : GR}
theorem pass0L (σ : L2.St) : PassesAt (L2.CX X.prog X.w) X σ E0 := fun pins H s e s' I h => (passL (X := X) pins σ H s e s' I h)
theorem e_call (F : Fn X.prog X.w X.K X.mg X.base k x G) (hr : Room k X.A) (ha : EvA X (e :: es) ss ds) (hG : G ds (.val d)) (hg : Gl X x := by rfl) (hdb : (x == ("__debug__" : Str)) = false := by decide) (he : starEach (e :: es) X.env = (false, eval e X.env) :: starEach es X.env := by rfl)
    (hpl : (backTo pos (starEach es X.env)).any (·.1) = false := by rfl) : EvE X (.Call (.Name x p) (e :: es) [] pos) ss d := fun F0 H0 F1 H ow σ S Q q => by
  obtain ⟨f, fd, ps, ok, hm, kp, hb⟩ := F.ex
  refine wE_of (pe_callS (E := fun _ => E0) ok hr hg hm kp hb pass0L pA hdb he hpl) (ha F0 H0 F1 H ow σ S _ fun vs F2 H2 g2 r2 => ?_)
  exact ⟨F2, ds, .val d, g2.fh, r2, hG, fun v F' H' g r => q v F' H' (g2.trans g) r⟩
theorem e_callB (F : Fn X.prog X.w X.K X.mg X.base k x G) (hr : Room k X.A) (ha : EvAB X (e :: es) ss ds) (hG : G ds (.val d)) (m : imm d = true := by rfl) (hg : Gl X x := by rfl) (hdb : (x == ("__debug__" : Str)) = false := by decide) (he : starEach (e :: es) X.env = (false, eval e X.env) :: starEach es X.env := by rfl)
    (hpl : (backTo pos (starEach es X.env)).any (·.1) = false := by rfl) : EvE X (.Call (.Name x p) (e :: es) [] pos) ss d := fun F0 H0 F1 H ow σ S Q q => by
  obtain ⟨f, fd, ps, ok, hm, kp, hb⟩ := F.ex
  refine wE_of (pe_callS (E := fun _ => E0) ok hr hg hm kp hb pass0L pA hdb he hpl) (ha F0 H0 F1 H ow σ S _ fun vs F2 H2 g2 r2 => ?_)
  refine ⟨Rr F2 H2 ow, ds, .val d, Rr_h g2.fh, r2, hG, fun v F' H' g r => ?_⟩
  have g3 : Grow F2 H2 F2 H' := ⟨Same.refl _, g.hh, g2.fh.trans g.hh, fun _ _ e _ _ => .inl e⟩
  exact q v (tupF F2 H') H' (g2.trans (tupF_grow g3)) (imm_rep g3.fh g.fh _ _ m r)
theorem l_call (F : Fn X.prog X.w X.K X.mg X.base k x G) (hr : Room k X.A) (ha : EvA X (e :: es) ss ds) (hG : G ds (.lst ds2)) (hg : Gl X x := by rfl) (hdb : (x == ("__debug__" : Str)) = false := by decide) (he : starEach (e :: es) X.env = (false, eval e X.env) :: starEach es X.env := by rfl)
    (hpl : (backTo pos (starEach es X.env)).any (·.1) = false := by rfl) : EvL X (.Call (.Name x p) (e :: es) [] pos) ss ds2 := fun F0 H0 F1 H ow σ S Q q => by
  obtain ⟨f, fd, ps, ok, hm, kp, hb⟩ := F.ex
  refine wE_of (pe_callS (E := fun _ => E0) ok hr hg hm kp hb pass0L pA hdb he hpl) (ha F0 H0 F1 H ow σ S _ fun vs F2 H2 g2 r2 => ?_)
  exact ⟨F2, ds, .lst ds2, g2.fh, r2, hG, fun p ws F' H' g h1 h2 h3 r => q p ws F' H' (g2.trans g) (same_none g2.hh h2) h1 h3 r⟩
theorem x_call {C : Addr} (F : Fn X.prog X.w X.K X.mg X.base k x G) (hr : Room k X.A) (ha : EvA X (e :: es) ss ds) (hG : G ds (.err C)) (hg : Gl X x := by rfl) (hdb : (x == ("__debug__" : Str)) = false := by decide) (he : starEach (e :: es) X.env = (false, eval e X.env) :: starEach es X.env := by rfl)
    (hpl : (backTo pos (starEach es X.env)).any (·.1) = false := by rfl) : EvX X (.Call (.Name x p) (e :: es) [] pos) ss C := fun F0 H0 P tk hP F1 H ow σ S Q => by
  obtain ⟨f, fd, ps, ok, hm, kp, hb⟩ := F.ex
  refine wE_of (pe_callS (E := WE (Dex X.K F0 H0 P)) ok hr hg hm kp hb (fun σ => passAt tk σ) pA hdb he hpl) (ha F0 H0 F1 H ow σ S _ fun vs F2 H2 g2 r2 => ?_)
  exact ⟨F2, ds, .err C, g2.fh, r2, hG, fun F' H' g => ⟨C, F', ow, ss, rfl, rfl, S.grow (g2.trans g), hP⟩⟩
end
end LW

/-! LWMat: a list of lists that are ours -/
namespace LW
open PySem PySem.Spec PyProof.Rows L2

section
variable {K : PySem.W.Frag} {F H F' H' : Hp} {ow : Ow} {i : Nat}
theorem MatOk.len : ∀ {rows : List (List Dt)} {as : List Addr}, MatOk K F H ow i rows as → as.length = rows.length
  | [], _, h => by cases h; rfl
  | r :: rs, _, h => by
    obtain ⟨a, t, vs, rfl, _, _, _, h⟩ := h
    exact congrArg Nat.succ h.len
theorem MatOk.get : ∀ {rows : List (List Dt)} {as : List Addr} {j : Nat} {r : List Dt}, MatOk K F H ow i rows as → rows[j]? = some r → ∃ a vs, as[j]? = some a ∧ H a = some (.lst vs) ∧ ow a = some i ∧ RepL K F r vs
  | [], _, _, _, _, e => by simp at e
  | r :: rs, _, 0, r', h, e => by
    obtain ⟨a, t, vs, rfl, h1, h2, h3, h⟩ := h
    have e' : r = r' := Option.some.inj e
    exact ⟨a, vs, rfl, h1, h2, e' ▸ h3⟩
  | r :: rs, _, j + 1, r', h, e => by
    obtain ⟨a, t, vs, rfl, h1, h2, h3, h⟩ := h
    exact h.get (j := j) e
theorem MatOk.out {q : Addr} {u : HO} : ∀ {rows : List (List Dt)} {as : List Addr}, MatOk K F H ow i rows as → q ∉ as → MatOk K F (upd H q u) ow i rows as
  | [], _, h, _ => h
  | r :: rs, _, h, n => by
    obtain ⟨a, t, vs, rfl, h1, h2, h3, h⟩ := h
    exact ⟨a, t, vs, rfl, by rw [upd_ne (fun e => n (by simp [e]))]; exact h1, h2, h3, h.out fun m => n (List.mem_cons_of_mem _ m)⟩
/-- the j-th row is written -/
theorem MatOk.row {r : List Dt} {vs : List V} (hr : RepL K F r vs) : ∀ {rows : List (List Dt)} {as : List Addr} {j : Nat} {q : Addr}, MatOk K F H ow i rows as → as.Nodup → as[j]? = some q → MatOk K F (upd H q (.lst vs)) ow i (rows.set j r) as
  | [], _, _, _, h, _, e => by cases h; simp at e
  | r' :: rs, _, 0, q, h, nd, e => by
    obtain ⟨a, t, vs', rfl, h1, h2, h3, h⟩ := h
    have e' : a = q := Option.some.inj e
    subst e'
    exact ⟨a, t, vs, rfl, upd_same, h2, hr, h.out (List.nodup_cons.mp nd).1⟩
  | r' :: rs, _, j + 1, q, h, nd, e => by
    obtain ⟨a, t, vs', rfl, h1, h2, h3, h⟩ := h
    have m : q ∈ t := List.mem_of_getElem? (show t[j]? = some q from e)
    exact ⟨a, t, vs', rfl, by rw [upd_ne (fun z => (List.nodup_cons.mp nd).1 (by rw [z]; exact m))]; exact h1, h2, h3, MatOk.row hr h (List.nodup_cons.mp nd).2 e⟩
theorem MatOk.setA {q : Addr} {r : List Dt} {vs : List V} (h1 : H q = some (.lst vs)) (h2 : ow q = some i) (h3 : RepL K F r vs) : ∀ {rows : List (List Dt)} {as : List Addr} {j : Nat}, MatOk K F H ow i rows as → MatOk K F H ow i (rows.set j r) (as.set j q)
  | [], _, _, h => by cases h; rfl
  | r' :: rs, _, 0, h => by
    obtain ⟨a, t, vs', rfl, g1, g2, g3, h⟩ := h
    exact ⟨q, t, vs, rfl, h1, h2, h3, h⟩
  | r' :: rs, _, j + 1, h => by
    obtain ⟨a, t, vs', rfl, g1, g2, g3, h⟩ := h
    exact ⟨a, _, vs', rfl, g1, g2, g3, MatOk.setA h1 h2 h3 h⟩
theorem ixN_nat {n : Nat} {k : Int} (h0 : 0 ≤ k) (h1 : k < n) : ixN n k = some k.toNat := by
  unfold ixN
  rw [if_pos h0, if_pos h1]
theorem nodup_set {l : List Addr} {j : Nat} {q : Addr} (h : l.Nodup) (n : q ∉ l) : (l.set j q).Nodup := by
  induction l generalizing j with
  | nil => exact h
  | cons a t ih =>
    obtain ⟨h1, h2⟩ := List.nodup_cons.mp h
    cases j with
    | zero => exact List.nodup_cons.mpr ⟨fun m => n (List.mem_cons_of_mem _ m), h2⟩
    | succ j =>
      refine List.nodup_cons.mpr ⟨fun m => ?_, ih h2 fun m => n (List.mem_cons_of_mem _ m)⟩
      rcases List.mem_or_eq_of_mem_set m with m | m
      · exact h1 m
      · exact n (by rw [← m]; exact List.mem_cons_self)
end

section
variable {X : Cx} {a b c e e1 e2 o tg iter elt : Expr} {es : List Expr} {ss : List Sl} {d d1 d2 d3 : Dt} {ds ds2 : List Dt} {pos p apos p1 p2 p3 : Pos} {D : DE} {rows : List (List Dt)}
/-- M[i][j] = e -/
theorem s_setM (m : Nat) {x : Str} {I J : Int} {r : List Dt} (h : EvE X e ss d) (hi : EvE X e1 ss (.int I)) (hj : EvE X e2 ss (.int J)) (hI : 0 ≤ I) (hJ : 0 ≤ J) (hr : rows[I.toNat]? = some r) (hJl : J < r.length) {rows2 : List (List Dt)} (he : rows.set I.toNat (r.set J.toNat d) = rows2) (k : D.nx (ss.set m (.mat rows2)))
    (hN : X.N[m]? = some x := by rfl) (hs : ss[m]? = some (.mat rows) := by rfl) (hv : Vis X.env.scope x := by first | exact Or.inl rfl | exact Or.inr (Or.inl rfl) | exact Or.inr (Or.inr rfl)) (hd : (x == ("__debug__" : Str)) = false := by decide) (hcd : (x == ("__classdict__" : Str)) = false := by decide)
    (hp1 : PlainIx e1 := by exact fun _ _ => rfl) (ha : ∀ v, assign (.Subscript (.Subscript (.Name x p) e1 p1) e2 p2) X.env v = (do
      let ov ← holding [v] (eval (.Subscript (.Name x p) e1 p1) X.env)
      let iv ← holding [v, ov] (eval e2 X.env)
      standAt p2
      holding [v, ov, iv] (setItem ov iv v)
      release [v, ov, iv] []) := by intro _; rfl)
    (hw1 : swapsWithSole [.Subscript (.Subscript (.Name x p) e1 p1) e2 p2] e pos.line X.env = pure false := by rfl) (hw2 : swappedStores [.Subscript (.Subscript (.Name x p) e1 p1) e2 p2] e X.env = pure none := by rfl) (hw3 : (assignEach [.Subscript (.Subscript (.Name x p) e1 p1) e2 p2] X.env).map (·.2) = [assign (.Subscript (.Subscript (.Name x p) e1 p1) e2 p2) X.env] := by rfl) :
    WS X (.Assign [.Subscript (.Subscript (.Name x p) e1 p1) e2 p2] e pos) ss D := fun F0 H0 tk F H ow σ S => by
  subst he
  refine wS_of (ps_asg pE (pg_sub (pe_ix ix_list (pv m hN hv hd hcd) pE hp1) pE set_list ha) hw1 hw2 hw3) (h F0 H0 F H ow σ S _ fun v F1 H1 g1 r1 => ?_)
  have S1 := S.grow g1
  obtain ⟨y, hy, A, as, rfl, q1, q2, nd, mo⟩ := S1.at hs
  refine ⟨_, hy, hi F0 H0 F1 H1 ow σ S1 _ fun vi F2 H2 g2 ri => ?_⟩
  cases ri
  have hlen := mo.len
  have hI2 : I < as.length := by
    have := (List.getElem?_eq_some_iff.mp hr).1
    omega
  obtain ⟨Q, vs, z1, z2, z3, z4⟩ := mo.get hr
  refine ⟨A, as.map V.ref, I, .ref Q, rfl, rfl, SqL.of (g2.hh _ _ q1), ?_, ?_⟩
  · unfold atI
    rw [List.length_map, ixN_nat hI hI2]
    show (as.map V.ref)[I.toNat]? = some (.ref Q)
    rw [List.getElem?_map, z1]
    rfl
  refine hj F0 H0 F2 H2 ow σ (S1.grow g2) _ fun vj F3 H3 g3 rj => ?_
  cases rj
  have S3 := (S1.grow g2).grow g3
  have gg := g2.trans g3
  have e3 : H3 Q = some (.lst vs) := gg.hh _ _ z2
  have hl := z4.len
  refine ⟨Q, vs, J, J.toNat, rfl, rfl, e3, ixN_nat hJ (by omega), F3, ow, _, S3.chg (s := .mat _) z3 (.inl ⟨_, rfl⟩) hy fun H' fh he => ⟨A, as, rfl, ?_, q2, nd, ?_⟩, k⟩
  · have ne : A ≠ Q := fun e => (List.nodup_cons.mp nd).1 (e ▸ List.mem_of_getElem? z1)
    rw [he, upd_ne ne]
    exact gg.hh _ _ q1
  · rw [he]
    exact MatOk.row ((RepL.mono gg.ff _ _ z4).set _ (Rep.mono gg.ff _ _ r1)) (mo.mono gg.ff gg.hh) (List.nodup_cons.mp nd).2 z1
/-- M[i] = a new list -/
theorem s_setR (m : Nat) {x : Str} {I : Int} (h : EvL X e ss ds) (hi : EvE X e1 ss (.int I)) (hI : 0 ≤ I) (hIl : I < rows.length) {rows2 : List (List Dt)} (he : rows.set I.toNat ds = rows2) (k : D.nx (ss.set m (.mat rows2)))
    (hN : X.N[m]? = some x := by rfl) (hs : ss[m]? = some (.mat rows) := by rfl) (hv : Vis X.env.scope x := by first | exact Or.inl rfl | exact Or.inr (Or.inl rfl) | exact Or.inr (Or.inr rfl)) (hd : (x == ("__debug__" : Str)) = false := by decide) (hcd : (x == ("__classdict__" : Str)) = false := by decide)
    (ha : ∀ v, assign (.Subscript (.Name x p) e1 p2) X.env v = (do
      let ov ← holding [v] (eval (.Name x p) X.env)
      let iv ← holding [v, ov] (eval e1 X.env)
      standAt p2
      holding [v, ov, iv] (setItem ov iv v)
      release [v, ov, iv] []) := by intro _; rfl)
    (hw1 : swapsWithSole [.Subscript (.Name x p) e1 p2] e pos.line X.env = pure false := by rfl) (hw2 : swappedStores [.Subscript (.Name x p) e1 p2] e X.env = pure none := by rfl) (hw3 : (assignEach [.Subscript (.Name x p) e1 p2] X.env).map (·.2) = [assign (.Subscript (.Name x p) e1 p2) X.env] := by rfl) :
    WS X (.Assign [.Subscript (.Name x p) e1 p2] e pos) ss D := fun F0 H0 tk F H ow σ S => by
  subst he
  refine wS_of (ps_asg pE (pg_sub (pv m hN hv hd hcd) pE set_list ha) hw1 hw2 hw3) (h F0 H0 F H ow σ S _ fun p vs F1 H1 g1 h1 h2 h3 r1 => ?_)
  have S1 := S.grow g1
  have S1' := S1.more (q := fun a => a = p) (i := m) (fun a e => by subst e; exact ⟨h2, same_none S.g0.hh h1, _, h3, .inl ⟨_, rfl⟩⟩) (fun a e => by subst e; exact own_no S h1)
  obtain ⟨y, hy, A, as, rfl, q1, q2, nd, mo⟩ := S1'.at hs
  obtain ⟨y', hy', A', as', e', q1', q2', nd', mo'⟩ := S.at hs
  rw [hy] at hy'
  cases hy'
  cases e'
  have q1'' := g1.hh _ _ q1'
  rw [q1] at q1''
  have eas : as = as' := by
    have z : as.map V.ref = as'.map V.ref := HO.lst.inj (Option.some.inj q1'')
    exact (List.map_inj_right (fun _ _ e => V.ref.inj e)).mp z
  subst eas
  have pn : p ∉ A :: as := fun hm => by
    rcases List.mem_cons.mp hm with e | hm
    · subst e
      rw [h1] at q1'
      cases q1'
    · obtain ⟨j, hj⟩ := List.mem_iff_getElem?.mp hm
      have hj2 : j < rows.length := by
        have := (List.getElem?_eq_some_iff.mp hj).1
        have := mo'.len
        omega
      obtain ⟨a2, vs2, z1, z2, _, _⟩ := mo'.get (List.getElem?_eq_getElem hj2)
      rw [hj] at z1
      cases z1
      rw [h1] at z2
      cases z2
  refine ⟨_, hy, hi F0 H0 F1 H1 ow σ S1 _ fun vi F2 H2 g2 ri => ?_⟩
  cases ri
  have hlen := mo.len
  refine ⟨A, as.map V.ref, I, I.toNat, rfl, rfl, g2.hh _ _ q1, by rw [List.length_map]; exact ixN_nat hI (by omega), F2, _, _, (S1'.grow g2).chg (s := .mat _) (x := some (.ref A)) q2 (.inl ⟨_, rfl⟩) hy fun H' fh he => ⟨A, as.set I.toNat p, rfl, ?_, q2, ?_, ?_⟩, k⟩
  · rw [he, upd_same, List.map_set]
  · obtain ⟨n1, n2⟩ := List.nodup_cons.mp nd
    refine List.nodup_cons.mpr ⟨fun hm => ?_, nodup_set n2 fun hm => pn (List.mem_cons_of_mem _ hm)⟩
    rcases List.mem_or_eq_of_mem_set hm with hm | hm
    · exact n1 hm
    · exact pn (by rw [← hm]; exact List.mem_cons_self)
  · have ne : p ≠ A := fun e => pn (by rw [e]; exact List.mem_cons_self)
    rw [he]
    refine MatOk.setA (q := p) (vs := vs) ?_ (by simp) (RepL.mono g2.ff _ _ r1) ?_
    · rw [upd_ne ne]
      exact g2.hh _ _ h3
    · exact (mo.mono g2.ff g2.hh).out (List.nodup_cons.mp nd).1
/-- kept = M[i]; M[i] = M[j]; M[j] = kept -/
theorem MatOk.swap {K : PySem.W.Frag} {F H : Hp} {ow : Ow} {i j l : Nat} {as : List Addr} {ri rj : List Dt} {ai aj : Addr} (h : MatOk K F H ow l rows as) (h1 : rows[i]? = some ri) (h2 : rows[j]? = some rj) (h3 : as[i]? = some ai) (h4 : as[j]? = some aj) : MatOk K F H ow l ((rows.set i rj).set j ri) ((as.set i aj).set j ai) := by
  obtain ⟨a, vs, z1, z2, z3, z4⟩ := h.get h1
  obtain ⟨a', vs', y1, y2, y3, y4⟩ := h.get h2
  rw [h3] at z1
  rw [h4] at y1
  cases z1
  cases y1
  exact MatOk.setA z2 z3 z4 (MatOk.setA y2 y3 y4 h)
theorem nodup_swap {l : List Addr} {i j : Nat} {a b : Addr} (nd : l.Nodup) (h1 : l[i]? = some a) (h2 : l[j]? = some b) (hn : i ≠ j) : ((l.set i b).set j a).Nodup := by
  have li := (List.getElem?_eq_some_iff.mp h1).1
  have lj := (List.getElem?_eq_some_iff.mp h2).1
  have at_ : ∀ k, ((l.set i b).set j a)[k]? = l[if k = i then j else if k = j then i else k]? := fun k => by
    by_cases e1 : k = j
    · subst e1
      rw [List.getElem?_set_self (by rw [List.length_set]; exact lj), if_neg (fun e => hn e.symm), if_pos rfl, h1]
    · rw [List.getElem?_set_ne (fun e => e1 e.symm)]
      by_cases e2 : k = i
      · subst e2
        rw [List.getElem?_set_self li, if_pos rfl, h2]
      · rw [List.getElem?_set_ne (fun e => e2 e.symm), if_neg e2, if_neg e1]
  have inj : ∀ u v : Nat, u < l.length → v < l.length → u ≠ v → l[u]? ≠ l[v]? := fun u v hu hv huv e => by
    rw [List.getElem?_eq_getElem hu, List.getElem?_eq_getElem hv] at e
    have e := Option.some.inj e
    have pw := List.pairwise_iff_getElem.mp nd
    rcases Nat.lt_or_gt_of_ne huv with z | z
    · exact pw u v hu hv z e
    · exact pw v u hv hu z e.symm
  refine List.pairwise_iff_getElem.mpr fun k m hk hm hkm e => ?_
  rw [List.length_set, List.length_set] at hk hm
  refine inj (if k = i then j else if k = j then i else k) (if m = i then j else if m = j then i else m) ?_ ?_ ?_ ?_
  · repeat' split
    all_goals omega
  · repeat' split
    all_goals omega
  · repeat' split
    all_goals omega
  · rw [← at_ k, ← at_ m, List.getElem?_eq_getElem (by rw [List.length_set, List.length_set]; exact hk), List.getElem?_eq_getElem (by rw [List.length_set, List.length_set]; exact hm), e]
theorem s_swapM (m t : Nat) {x y : Str} {ea eb ec ed : Expr} {I J : Int} {ri rj : List Dt} {rest : List Stmt} {q1 q2 q3 q4 q5 q6 q7 q8 q9 q10 q11 q12 q13 : Pos}
    (h1 : EvE X ea ss (.int I)) (h2 : EvE X ec (ss.set t .no) (.int J)) (h3 : EvE X eb (ss.set t .no) (.int I)) (h4 : EvE X ed ((ss.set t .no).set m .no) (.int J)) (hI : 0 ≤ I) (hJ : 0 ≤ J) (hn : I ≠ J) (hri : rows[I.toNat]? = some ri) (hrj : rows[J.toNat]? = some rj) {rows2 : List (List Dt)} (he2 : (rows.set I.toNat rj).set J.toNat ri = rows2)
    (k : WSs X rest ((ss.set t .no).set m (.mat rows2)) D) (hmt : m ≠ t := by decide) (htl : ∃ s, ss[t]? = some s := by exact ⟨_, rfl⟩)
    (nd : X.N.Nodup := by assumption) (hN : X.N[m]? = some x := by rfl) (hs : ss[m]? = some (.mat rows) := by rfl) (hv : Vis X.env.scope x := by first | exact Or.inl rfl | exact Or.inr (Or.inl rfl) | exact Or.inr (Or.inr rfl)) (hd : (x == ("__debug__" : Str)) = false := by decide) (hcd : (x == ("__classdict__" : Str)) = false := by decide)
    (hNt : X.N[t]? = some y := by rfl) (hvt : Vis X.env.scope y := by first | exact Or.inl rfl | exact Or.inr (Or.inl rfl) | exact Or.inr (Or.inr rfl)) (hdt : (y == ("__debug__" : Str)) = false := by decide) (hcdt : (y == ("__classdict__" : Str)) = false := by decide) (hxt : Loc X.env.scope y := by first | exact Or.inl rfl | exact Or.inr rfl)
    (hft : X.fn y = true ∨ X.env.scope.names.lookup y = some .local := by first | exact .inl rfl | exact .inr rfl) (hsw : swapsWith (.Subscript (.Name x q2) ea q3) (some (.Name y q1)) q4.line X.env = pure false := by rfl)
    (hp1 : PlainIx ea := by exact fun _ _ => rfl) (hp2 : PlainIx ec := by exact fun _ _ => rfl)
    (ha1 : ∀ v, assign (.Subscript (.Name x q5) eb q6) X.env v = (do
      let ov ← holding [v] (eval (.Name x q5) X.env)
      let iv ← holding [v, ov] (eval eb X.env)
      standAt q6
      holding [v, ov, iv] (setItem ov iv v)
      release [v, ov, iv] []) := by intro _; rfl)
    (ha2 : ∀ v, assign (.Subscript (.Name x q10) ed q11) X.env v = (do
      let ov ← holding [v] (eval (.Name x q10) X.env)
      let iv ← holding [v, ov] (eval ed X.env)
      standAt q11
      holding [v, ov, iv] (setItem ov iv v)
      release [v, ov, iv] []) := by intro _; rfl)
    (hw1 : swapsWithSole [.Subscript (.Name x q5) eb q6] (.Subscript (.Name x q7) ec q8) q9.line X.env = pure false := by rfl) (hw2 : swappedStores [.Subscript (.Name x q5) eb q6] (.Subscript (.Name x q7) ec q8) X.env = pure none := by rfl) (hw3 : (assignEach [.Subscript (.Name x q5) eb q6] X.env).map (·.2) = [assign (.Subscript (.Name x q5) eb q6) X.env] := by rfl)
    (hw4 : swapsWithSole [.Subscript (.Name x q10) ed q11] (.Name y q12) q13.line X.env = pure false := by rfl) (hw5 : swappedStores [.Subscript (.Name x q10) ed q11] (.Name y q12) X.env = pure none := by rfl) (hw6 : (assignEach [.Subscript (.Name x q10) ed q11] X.env).map (·.2) = [assign (.Subscript (.Name x q10) ed q11) X.env] := by rfl) :
    WSs X (.Assign [.Name y q1] (.Subscript (.Name x q2) ea q3) q4 :: .Assign [.Subscript (.Name x q5) eb q6] (.Subscript (.Name x q7) ec q8) q9 :: .Assign [.Subscript (.Name x q10) ed q11] (.Name y q12) q13 :: rest) ss D := fun F0 H0 tk F H ow σ S => by
  subst he2
  refine wSs_of (pss_cons (ps_set nd hNt hxt (pe_ix ix_list (pv m hN hv hd hcd) pE hp1) hsw hft) (pss_cons (ps_asg (pe_ix ix_list (pv m hN hv hd hcd) pE hp2) (pg_sub (pv m hN hv hd hcd) pE set_list ha1) hw1 hw2 hw3) (pss_cons (ps_asg (pv t hNt hvt hdt hcdt) (pg_sub (pv m hN hv hd hcd) pE set_list ha2) hw4 hw5 hw6) pSs))) ?_
  obtain ⟨y0, hy, A, as, rfl, g1, g2, ndA, mo⟩ := S.at hs
  have hlen := mo.len
  have lI := (List.getElem?_eq_some_iff.mp hri).1
  have lJ := (List.getElem?_eq_some_iff.mp hrj).1
  obtain ⟨ai, vi, i1, i2, i3, i4⟩ := mo.get hri
  obtain ⟨aj, vj, j1, j2, j3, j4⟩ := mo.get hrj
  have hat : ∀ (l : List Addr) (k : Int) (z : Addr), 0 ≤ k → k < l.length → l[k.toNat]? = some z → atI (l.map V.ref) k = some (.ref z) := fun l k z h0 hk hz => by
    unfold atI
    rw [List.length_map, ixN_nat h0 hk]
    show (l.map V.ref)[k.toNat]? = some (.ref z)
    rw [List.getElem?_map, hz]
    rfl
  -- kept = M[i]
  refine ⟨_, hy, h1 F0 H0 F H ow σ S _ fun v1 F1 H1 gr1 r1 => ?_⟩
  cases r1
  refine ⟨A, as.map V.ref, I, .ref ai, rfl, rfl, SqL.of (gr1.hh _ _ g1), hat as I ai hI (by omega) i1, ?_⟩
  have S1 : Stt X.K F0 H0 F1 H1 ow (σ.set t (some (.ref ai))) (ss.set t .no) := (S.grow gr1).drop1
  have hy1 : (σ.set t (some (.ref ai)))[m]? = some (some (.ref A)) := by
    rw [List.getElem?_set_ne (fun e => hmt e.symm)]
    exact hy
  have lt : t < σ.length := by
    obtain ⟨s0, hs0⟩ := htl
    rw [S.len]
    exact (List.getElem?_eq_some_iff.mp hs0).1
  -- M[i] = M[j]
  refine ⟨_, hy1, h2 F0 H0 F1 H1 ow _ S1 _ fun v2 F2 H2 gr2 r2 => ?_⟩
  cases r2
  refine ⟨A, as.map V.ref, J, .ref aj, rfl, rfl, SqL.of (gr2.hh _ _ (gr1.hh _ _ g1)), hat as J aj hJ (by omega) j1, ?_⟩
  have S2 := S1.grow gr2
  refine ⟨_, hy1, h3 F0 H0 F2 H2 ow _ S2 _ fun v3 F3 H3 gr3 r3 => ?_⟩
  cases r3
  have S3 := S2.grow gr3
  have eA : H3 A = some (.lst (as.map V.ref)) := gr3.hh _ _ (gr2.hh _ _ (gr1.hh _ _ g1))
  refine ⟨A, as.map V.ref, I, I.toNat, rfl, rfl, eA, by rw [List.length_map]; exact ixN_nat hI (by omega), ?_⟩
  have S4 := S3.chg (u := .lst ((as.map V.ref).set I.toNat (.ref aj))) (s := .no) g2 (.inl ⟨_, rfl⟩) hy1 fun _ _ _ => trivial
  -- M[j] = kept
  refine ⟨_, List.getElem?_set_self lt, _, hy1, h4 F0 H0 F3 _ ow _ S4 _ fun v5 F5 H5 gr5 r5 => ?_⟩
  cases r5
  have S5 := S4.grow gr5
  have e5 : H5 A = some (.lst ((as.map V.ref).set I.toNat (.ref aj))) := gr5.hh _ _ upd_same
  refine ⟨A, _, J, J.toNat, rfl, rfl, e5, by rw [List.length_set, List.length_map]; exact ixN_nat hJ (by omega), ?_⟩
  have gall := (gr1.trans gr2).trans gr3
  refine k F0 H0 tk F5 _ ow _ ?_
  have S6 := S5.chg (u := .lst (((as.map V.ref).set I.toNat (.ref aj)).set J.toNat (.ref ai))) (s := .mat ((rows.set I.toNat rj).set J.toNat ri)) g2 (.inl ⟨_, rfl⟩) hy1 fun H' fh he => ⟨A, (as.set I.toNat aj).set J.toNat ai, rfl, by rw [he, upd_same, List.map_set, List.map_set], g2, ?_, ?_⟩
  · have e : ((ss.set t .no).set m .no).set m (Sl.mat ((rows.set I.toNat rj).set J.toNat ri)) = (ss.set t .no).set m (.mat ((rows.set I.toNat rj).set J.toNat ri)) := List.set_set ..
    rw [e] at S6
    exact S6
  · obtain ⟨n1, n2⟩ := List.nodup_cons.mp ndA
    refine List.nodup_cons.mpr ⟨fun hm => ?_, nodup_swap n2 i1 j1 (by omega)⟩
    rcases List.mem_or_eq_of_mem_set hm with hm | hm
    · rcases List.mem_or_eq_of_mem_set hm with hm | hm
      · exact n1 hm
      · exact n1 (by rw [hm]; exact List.mem_of_getElem? j1)
    · exact n1 (by rw [hm]; exact List.mem_of_getElem? i1)
  · have n1 := (List.nodup_cons.mp ndA).1
    have mo3 : MatOk X.K F3 H3 ow m rows as := mo.mono gall.ff gall.hh
    have mo4 := (mo3.out (u := .lst ((as.map V.ref).set I.toNat (.ref aj))) n1).mono gr5.ff gr5.hh
    rw [he]
    exact (mo4.out n1).swap hri hrj i1 j1
/-- a matrix made by a comprehension of lists -/
structure LmD {α : Type} (X : Cx) (tg elt : Expr) (scope : Scope) (vs : List Nat) (ss : List Sl) (xs : List α) (enc : α → Dt) (f : α → List Dt) : Prop where
  go : ∀ x ∈ xs, ∃ (js : List Nat) (ss' : List Sl), (∀ j ∈ js, j ∈ vs) ∧ Blk X scope (fun B => EvG B tg js (enc x) (wipeS ss vs) ss') ∧ Blk X scope (fun B => EvL B elt ss' (f x))
theorem matF_mono {K : PySem.W.Frag} {H F F' H1 H' : Hp} : ∀ {rows : List (List Dt)} {as : List Addr}, MatF K H F H1 rows as → Same F F' → Same H1 H' → (∀ a o, H1 a = some o → mutO o → F a = none → F' a = none) → MatF K H F' H' rows as
  | [], _, h, _, _, _ => h
  | r :: rs, _, h, ff, hh, n => by
    obtain ⟨a, t, vs, e, h1, h2, h3, h4, h5⟩ := h
    exact ⟨a, t, vs, e, h1, n _ _ h3 (.inl ⟨_, rfl⟩) h2, hh _ _ h3, RepL.mono ff _ _ h4, matF_mono h5 ff hh n⟩
theorem matF_out {K : PySem.W.Frag} {H F H1 : Hp} {q : Addr} {u : HO} : ∀ {rows : List (List Dt)} {as : List Addr}, MatF K H F H1 rows as → q ∉ as → MatF K H F (upd H1 q u) rows as
  | [], _, h, _ => h
  | r :: rs, _, h, n => by
    obtain ⟨a, t, vs, rfl, h1, h2, h3, h4, h5⟩ := h
    exact ⟨a, t, vs, rfl, h1, h2, by rw [upd_ne (fun e => n (by simp [e]))]; exact h3, h4, matF_out h5 fun m => n (List.mem_cons_of_mem _ m)⟩
theorem matF_snoc {K : PySem.W.Frag} {H F H1 : Hp} {r : List Dt} {q : Addr} {vs : List V} (h1 : H q = none) (h2 : F q = none) (h3 : H1 q = some (.lst vs)) (h4 : RepL K F r vs) : ∀ {rows : List (List Dt)} {as : List Addr}, MatF K H F H1 rows as → MatF K H F H1 (rows ++ [r]) (as ++ [q])
  | [], _, h => by cases h; exact ⟨q, [], vs, rfl, h1, h2, h3, h4, rfl⟩
  | r' :: rs, _, h => by
    obtain ⟨a, t, vs', rfl, g1, g2, g3, g4, g5⟩ := h
    exact ⟨a, _, vs', rfl, g1, g2, g3, g4, matF_snoc h1 h2 h3 h4 g5⟩
theorem matF_len {K : PySem.W.Frag} {H F H1 : Hp} : ∀ {rows : List (List Dt)} {as : List Addr}, MatF K H F H1 rows as → as.length = rows.length
  | [], _, h => by cases h; rfl
  | r :: rs, _, h => by
    obtain ⟨a, t, vs, rfl, h1, h2, h3, h4, h5⟩ := h
    exact congrArg Nat.succ (matF_len h5)
theorem matF_in {K : PySem.W.Frag} {H F H1 : Hp} : ∀ {rows : List (List Dt)} {as : List Addr}, MatF K H F H1 rows as → ∀ a ∈ as, H a = none ∧ F a = none ∧ ∃ vs, H1 a = some (.lst vs)
  | [], _, h, a, m => by cases h; cases m
  | r :: rs, _, h, a, m => by
    obtain ⟨a', t, vs, rfl, h1, h2, h3, h4, h5⟩ := h
    rcases List.mem_cons.mp m with rfl | m
    · exact ⟨h1, h2, vs, h3⟩
    · exact matF_in h5 a m
theorem lm_go {α : Type} {scope : Scope} {vs : List Nat} {xs : List α} {enc : α → Dt} {f : α → List Dt} (B : LmD X tg elt scope vs ss xs enc f) (hx : xs.length ≤ 1000000)
    {F0 H0 F H : Hp} {ow : Ow} {σ : L2.St} (S : Stt X.K F0 H0 F H ow σ ss) {J : It} (hJ : ItD X.K J F (xs.map enc)) {Q : VK}
    (q : ∀ p as F' H', Grow F H F' H' → H p = none → F' p = none → H' p = some (.lst (as.map V.ref)) → (p :: as).Nodup → MatF X.K H F' H' (xs.map f) as → Q (.ref p) H') :
    ∀ D, H D = none → ∃ W : Nat → Nat → Hp → Prop, (∃ m, W 0 m (upd H D (.lst []))) ∧ ∀ i m H, W i m H →
      (J.stop i H ∧ Q (.ref D) H) ∨ (J.go i H ∧ ∃ Nx : Hp → Prop, (∀ H', Nx H' → ∃ m', m' < m ∧ W (i + 1) m' H') ∧ ∀ x H', J.yld i H x H' → bG X scope tg x (L2.wipe σ vs) H' fun σ2 H2 => L2.wipe σ2 vs = L2.wipe σ vs ∧ bTs X scope [] σ2 H2 fun b H3 =>
        if b = true then bE X scope elt σ2 H3 fun y H4 => ∃ acc, H4 D = some (.lst acc) ∧ acc.length < sizeLine ∧ Nx (upd H4 D (.lst (acc ++ [y]))) else Nx H3) := by
  intro D hD
  have hDF : F D = none := same_none S.fh hD
  let P : Nat → Hp → Prop := fun i H' => ∃ Fi as, Grow F H Fi H' ∧ Fi D = none ∧ H' D = some (.lst (as.map V.ref)) ∧ (D :: as).Nodup ∧ MatF X.K H Fi H' ((xs.take i).map f) as
  refine ⟨fun i m H' => m = xs.length - i ∧ i ≤ xs.length ∧ P i H', ⟨xs.length, by omega, Nat.zero_le _, F, [], .own S.fh hD, hDF, upd_same, by simp, rfl⟩, ?_⟩
  rintro i m H1 ⟨rfl, hi, Fi, as, g, fD, eD, nd, r⟩
  obtain ⟨j1, j2, j3⟩ := hJ Fi H1 i g.ff g.fh
  rw [List.length_map] at j1 j2
  by_cases hlt : i < xs.length
  · refine .inr ⟨j1 hlt, P (i + 1), fun H' p' => ⟨xs.length - (i + 1), by omega, rfl, hlt, p'⟩, fun x H2 y => ?_⟩
    have hxi : xs[i]? = some xs[i] := List.getElem?_eq_getElem hlt
    obtain ⟨F2, g2, rx⟩ := j3 x H2 (enc xs[i]) y (by rw [List.getElem?_map, hxi]; rfl)
    obtain ⟨js, ss', hjs, bg, be⟩ := B.go xs[i] (List.getElem_mem hlt)
    have gg := g.trans g2
    have fD2 : F2 D = none := grow_no g2 eD (.inl ⟨_, rfl⟩) fD
    have eD2 : H2 D = some (.lst (as.map V.ref)) := g2.hh _ _ eD
    have S2 : Stt X.K F0 H0 F2 H2 ow (L2.wipe σ vs) (wipeS ss vs) := (S.grow gg).wipe vs
    intro s0 H00 C cl fp
    refine bg s0 H00 C cl fp F0 H0 F2 H2 ow _ S2 x rx _ fun σ3 S3 l3 k3 => ⟨wipe_eq (l3.trans (L2.wipe_length _ _)) fun j hj => k3 j fun m => hj (hjs j m), ?_⟩
    intro s1 H01 C1 cl1 fp1
    refine ts_nil (X := X.blk s1 H01 scope (compEnvC scope cl1 C1 X.env) fp1) F0 H0 F2 H2 ow _ S3 _ fun F4 H4 g4 => ?_
    have fD4 : F4 D = none := grow_no g4 eD2 (.inl ⟨_, rfl⟩) fD2
    have eD4 : H4 D = some (.lst (as.map V.ref)) := g4.hh _ _ eD2
    have et : xs.take (i + 1) = xs.take i ++ [xs[i]] := by rw [List.take_add_one, hxi]; rfl
    rw [if_pos rfl]
    intro s2 H02 C2 cl2 fp2
    refine be s2 H02 C2 cl2 fp2 F0 H0 F4 H4 ow _ (S3.grow g4) _ fun p ws F5 H5 g5 n1 n2 n3 r5 => ?_
    have g45 := (g2.trans g4).trans g5
    have gall := g.trans g45
    have r4 : MatF X.K H F5 H5 ((xs.take i).map f) as := matF_mono r g45.ff g45.hh fun a o e m n => grow_no g45 e m n
    have pD : p ≠ D := fun e => by rw [e, eD4] at n1; cases n1
    have pas : p ∉ as := fun hm => by
      obtain ⟨_, _, vs', e⟩ := matF_in r p hm
      rw [g4.hh _ _ (g2.hh _ _ e)] at n1
      cases n1
    have hp0 : H p = none := same_none (gg.hh.trans g4.hh) n1
    refine ⟨as.map V.ref, g5.hh _ _ eD4, ?_, F5, as ++ [p], grow_push gall hD (grow_no g5 eD4 (.inl ⟨_, rfl⟩) fD4), grow_no g5 eD4 (.inl ⟨_, rfl⟩) fD4, by rw [upd_same, List.map_append]; rfl, ?_, ?_⟩
    · rw [List.length_map, matF_len r, List.length_map, List.length_take]
      exact szl (by omega)
    · obtain ⟨m1, m2⟩ := List.nodup_cons.mp nd
      refine List.nodup_cons.mpr ⟨fun hm => ?_, ?_⟩
      · rcases List.mem_append.mp hm with hm | hm
        · exact m1 hm
        · exact pD (List.mem_singleton.mp hm).symm
      · exact nd_snoc m2 pas
    · rw [et, List.map_append]
      refine matF_out (matF_snoc hp0 n2 n3 r5 r4) fun hm => ?_
      rcases List.mem_append.mp hm with hm | hm
      · exact (List.nodup_cons.mp nd).1 hm
      · exact pD (List.mem_singleton.mp hm).symm
  · have e : i = xs.length := by omega
    subst e
    refine .inl ⟨j2 (Nat.le_refl _), q D as Fi H1 g hD fD eD nd ?_⟩
    rw [List.take_length] at r
    exact r
theorem am {α : Type} (i : Nat) {y : Str} {py spos : Pos} {scope : Scope} {own : List (Str × Nat)} {xs : List α} {enc : α → Dt} {f : α → List Dt} (ok : BlkOk X.N X.env.scope scope own)
    (hi : EvI X tg iter ss (xs.map enc)) (B : LmD X tg elt scope (own.map (·.2)) ss xs enc f) (hx : xs.length ≤ 1000000) (nd : X.N.Nodup := by assumption) (hc : X.calm = true := by rfl) (hN : X.N[i]? = some y := by rfl) (hyl : X.env.scope.names.lookup y = some .local := by rfl)
    (hsw : swapsWith (.ListComp elt [⟨tg, iter, [], 0⟩] scope pos) (some (.Name y py)) spos.line X.env = pure true := by exact sw_true rfl rfl rfl (by kernel_rfl)) (hs : ∀ x, foldedSetIterable iter X.env x = pure x := by intro _; rfl) :
    AsgM X (.Assign [.Name y py] (.ListComp elt [⟨tg, iter, [], 0⟩] scope pos) spos) i ss (xs.map f) := by
  obtain ⟨wi, pw, go⟩ := hi
  refine ⟨_, ps_setLc (g := bG X scope tg) (tt := bTs X scope []) (te := bE X scope elt) hc nd hN hyl hsw pw ok (fun s H C cl fp => ⟨fun pins s' σ H' v u Q I r h => (h s H C cl fp).go pins s' u I r⟩) (fun s H C cl fp => ⟨fun pins s' σ H' Q I h => (h s H C cl fp).go pins s' I⟩) (fun s H C cl fp => ⟨fun pins s' σ H' Q I h => (h s H C cl fp).go pins s' I⟩) hs, fun F0 H0 F H ow σ S Q q => ?_⟩
  refine go F0 H0 F H ow σ S _ fun J F1 H1 g1 hJ => ?_
  exact lm_go B hx (S.grow g1) hJ fun p as F' H' g h1 h2 h3 h4 h5 => q p as F' H' (g1.trans g) (same_none g1.hh h1) h2 h3 h4 (by
    have key : ∀ {rows as}, MatF X.K H1 F' H' rows as → MatF X.K H F' H' rows as := by
      intro rows
      induction rows with
      | nil => intro as m; exact m
      | cons r rs ih =>
        intro as m
        obtain ⟨a, t, vs, e, z1, z2, z3, z4, z5⟩ := m
        exact ⟨a, t, vs, e, same_none g1.hh z1, z2, z3, z4, ih z5⟩
    exact key h5)
theorem s_mat {st : Stmt} {i : Nat} (h : AsgM X st i ss rows) (k : D.nx (ss.set i (.mat rows))) : WS X st ss D := fun F0 H0 tk F H ow σ S => by
  obtain ⟨t, pt, go⟩ := h
  refine wS_of pt (go F0 H0 F H ow σ S _ fun p as F1 H1 g1 h1 h2 h3 nd mf => ⟨F1, fun a => if a ∈ p :: as then some i else ow a, _, ?_, k⟩)
  have m1 : ∀ a, a ∈ p :: as → H a = none ∧ F1 a = none ∧ ∃ vs, H1 a = some (.lst vs) := fun a ha => by
    rcases List.mem_cons.mp ha with rfl | ha
    · exact ⟨h1, h2, _, h3⟩
    · exact matF_in mf a ha
  have S1 := (S.grow g1).more (q := fun a => a ∈ p :: as) (i := i) (fun a e => by
    obtain ⟨z1, z2, vs, z3⟩ := m1 a e
    exact ⟨z2, same_none S.g0.hh z1, _, z3, .inl ⟨_, rfl⟩⟩) (fun a e => own_no S (m1 a e).1)
  refine S1.put (ow' := ow) ⟨p, as, rfl, h3, if_pos List.mem_cons_self, nd, ?_⟩
  have key : ∀ {rows as'}, (∀ a ∈ as', a ∈ p :: as) → MatF X.K H F1 H1 rows as' → MatOk X.K F1 H1 (fun a => if a ∈ p :: as then some i else ow a) i rows as' := by
    intro rows
    induction rows with
    | nil => intro as' _ m; exact m
    | cons r rs ih =>
      intro as' hin m
      obtain ⟨a, t, vs, rfl, z1, z2, z3, z4, z5⟩ := m
      exact ⟨a, t, vs, rfl, z3, if_pos (hin a List.mem_cons_self), z4, ih (fun a ha => hin a (List.mem_cons_of_mem _ ha)) z5⟩
  exact key (fun a ha => List.mem_cons_of_mem _ ha) mf
/-- what was ours is not written any more -/
def frF (F H : Hp) (ow : Ow) (i : Nat) : Hp := fun a => if ow a = some i then H a else F a
def frO (ow : Ow) (i : Nat) : Ow := fun a => if ow a = some i then none else ow a
theorem frF_in {F H : Hp} {ow : Ow} {i : Nat} {a : Addr} {o : HO} (h : H a = some o) (e : ow a = some i) : frF F H ow i a = some o := by
  unfold frF
  rw [if_pos e]
  exact h
theorem frO_ne {ow : Ow} {i j : Nat} {a : Addr} (e : ow a = some j) (n : j ≠ i) : frO ow i a = some j := by
  unfold frO
  rw [if_neg (fun z => n (by rw [e] at z; exact Option.some.inj z))]
  exact e
theorem Stt.frz {K : PySem.W.Frag} {F0 H0 F H : Hp} {ow : Ow} {σ : L2.St} {i : Nat} {d : Dt} (S : Stt K F0 H0 F H ow σ ss)
    (hd : ∀ x, σ[i]? = some x → Same F (frF F H ow i) → SlOk K (frF F H ow i) H (frO ow i) i x (.val d)) : Stt K F0 H0 (frF F H ow i) H (frO ow i) σ (ss.set i (.val d)) := by
  have sm : Same F (frF F H ow i) := fun a u e => by
    unfold frF
    split
    · rename_i z
      rw [(S.own a i z).1] at e
      cases e
    · exact e
  have sh : Same (frF F H ow i) H := fun a u e => by
    unfold frF at e
    split at e
    · exact e
    · exact S.fh _ _ e
  refine ⟨⟨S.g0.ff.trans sm, S.g0.hh, sh, fun a o e u hu => ?_⟩, fun a j e => ?_, by rw [S.len, List.length_set], fun j t y e1 e2 => ?_⟩
  · unfold frF at e
    split at e
    · rename_i z
      rw [(S.own a i z).2.1] at hu
      cases hu
    · exact S.g0.nw a o e u hu
  · unfold frO at e
    split at e
    · cases e
    · rename_i z
      obtain ⟨g1, g2, g3⟩ := S.own a j e
      refine ⟨?_, g2, g3⟩
      unfold frF
      rw [if_neg z]
      exact g1
  · by_cases z : i = j
    · subst z
      by_cases l : i < ss.length
      · rw [List.getElem?_set_self l] at e1
        cases e1
        exact hd y e2 sm
      · rw [List.getElem?_eq_none (by rw [List.length_set]; omega)] at e1
        cases e1
    · rw [List.getElem?_set_ne z] at e1
      have old := S.sl j t y e1 e2
      have zj : j ≠ i := fun w => z w.symm
      have km : ∀ {rows as}, MatOk K F H ow j rows as → MatOk K (frF F H ow i) H (frO ow i) j rows as := by
        intro rows
        induction rows with
        | nil => intro as m; exact m
        | cons r rs ih =>
          intro as m
          obtain ⟨a, t, vs, e, e1, e2, e3, e4⟩ := m
          exact ⟨a, t, vs, e, e1, frO_ne e2 zj, RepL.mono sm _ _ e3, ih e4⟩
      cases t with
      | no => trivial
      | val d => obtain ⟨v, e, r⟩ := old; exact ⟨v, e, Rep.mono sm _ _ r⟩
      | lst ds => obtain ⟨a, vs, e, e1, e2, e3⟩ := old; exact ⟨a, vs, e, e1, frO_ne e2 zj, RepL.mono sm _ _ e3⟩
      | dct ks ds => obtain ⟨a, vs, e, e1, e2, e3, e4⟩ := old; exact ⟨a, vs, e, e1, frO_ne e2 zj, e3, RepL.mono sm _ _ e4⟩
      | mat rows => obtain ⟨a, as, e, e1, e2, e3, e4⟩ := old; exact ⟨a, as, e, e1, frO_ne e2 zj, e3, km e4⟩
def frzS : Sl → Sl
  | .lst ds => .val (.lst ds)
  | .dct ks ds => .val (.dct ks ds)
  | .mat rows => .val (.lst (rows.map .lst))
  | s => s
theorem matR {K : PySem.W.Frag} {F F' H : Hp} {ow : Ow} {i : Nat} (sm : Same F F') (hin : ∀ a o, H a = some o → ow a = some i → F' a = some o) : ∀ {rows as}, MatOk K F H ow i rows as → RepL K F' (rows.map .lst) (as.map V.ref)
  | [], _, h => by cases h; rfl
  | r :: rs, _, h => by
    obtain ⟨a, t, vs, rfl, e1, e2, e3, e4⟩ := h
    exact .cons ⟨a, vs, rfl, hin _ _ e1 e2, RepL.mono sm _ _ e3⟩ (matR sm hin e4)
theorem set_same {α : Type} : ∀ {l : List α} {i : Nat} {a : α}, l[i]? = some a → l.set i a = l
  | [], _, _, _ => rfl
  | b :: t, 0, a, h => by
    have e : b = a := Option.some.inj h
    rw [e]
    rfl
  | b :: t, i + 1, a, h => by
    show b :: t.set i a = b :: t
    rw [set_same (l := t) h]
theorem Stt.freeze {K : PySem.W.Frag} {F0 H0 F H : Hp} {ow : Ow} {σ : L2.St} {i : Nat} {s : Sl} (S : Stt K F0 H0 F H ow σ ss) (hs : ss[i]? = some s) : ∃ F' ow', Stt K F0 H0 F' H ow' σ (ss.set i (frzS s)) := by
  cases s with
  | no => exact ⟨F, ow, by show Stt K F0 H0 F H ow σ (ss.set i .no); rw [set_same hs]; exact S⟩
  | val d => exact ⟨F, ow, by show Stt K F0 H0 F H ow σ (ss.set i (.val d)); rw [set_same hs]; exact S⟩
  | lst ds =>
    refine ⟨_, _, S.frz fun x hx sm => ?_⟩
    obtain ⟨a, vs, e, e1, e2, e3⟩ := S.sl i _ x hs hx
    exact ⟨.ref a, e, a, vs, rfl, frF_in e1 e2, RepL.mono sm _ _ e3⟩
  | dct ks ds =>
    refine ⟨_, _, S.frz fun x hx sm => ?_⟩
    obtain ⟨a, vs, e, e1, e2, e3, e4⟩ := S.sl i _ x hs hx
    exact ⟨.ref a, e, a, vs, rfl, frF_in e1 e2, e3, RepL.mono sm _ _ e4⟩
  | mat rows =>
    refine ⟨_, _, S.frz fun x hx sm => ?_⟩
    obtain ⟨a, as, e, e1, e2, e3, e4⟩ := S.sl i _ x hs hx
    exact ⟨.ref a, e, a, as.map V.ref, rfl, frF_in e1 e2, matR sm (fun a o h e => frF_in h e) e4⟩
/-- ours no longer, ahead of what follows -/
theorem fz (i : Nat) {s : Sl} {st : List Stmt} (k : WSs X st (ss.set i (frzS s)) D) (hs : ss[i]? = some s := by rfl) : WSs X st ss D := fun F0 H0 tk F H ow σ S => by
  obtain ⟨F', ow', S'⟩ := S.freeze hs
  exact k F0 H0 tk F' H ow' σ S'
theorem fz1 (i : Nat) {s : Sl} {st : Stmt} (k : WS X st (ss.set i (frzS s)) D) (hs : ss[i]? = some s := by rfl) : WS X st ss D := fun F0 H0 tk F H ow σ S => by
  obtain ⟨F', ow', S'⟩ := S.freeze hs
  exact k F0 H0 tk F' H ow' σ S'
end
end LW

/-! LWTab: square tables of whole numbers as rows -/
namespace LW
open PySem PySem.Spec PyProof.Rows L2 MD
def tabR (n : Nat) (T : Nat → Nat → Int) (i : Nat) : List Dt := (List.range n).map fun j => .int (T i j)
def tab (n : Nat) (T : Nat → Nat → Int) : List (List Dt) := (List.range n).map (tabR n T)
abbrev tabL (n : Nat) (T : Nat → Nat → Int) : List Dt := (tab n T).map .lst
abbrev tabD (n : Nat) (T : Nat → Nat → Int) : Dt := .lst (tabL n T)
section
variable {n : Nat} {T U : Nat → Nat → Int} {i j : Nat}
theorem tabR_len : (tabR n T i).length = n := by simp [tabR]
theorem tab_len : (tab n T).length = n := by simp [tab]
theorem tabL_len : (tabL n T).length = n := by simp [tabL, tab]
theorem tab_get (h : i < n) : (tab n T)[i]? = some (tabR n T i) := by
  unfold tab
  rw [List.getElem?_map, List.getElem?_range h]
  rfl
theorem tabR_get (h : j < n) : (tabR n T i)[j]? = some (.int (T i j)) := by
  unfold tabR
  rw [List.getElem?_map, List.getElem?_range h]
  rfl
theorem tabL_get (h : i < n) : (tabL n T)[i]? = some (.lst (tabR n T i)) := by
  unfold tabL
  rw [List.getElem?_map, tab_get h]
  rfl
theorem atI_of {α : Type} {xs : List α} {i : Nat} {x : α} (h : xs[i]? = some x) : atI xs (i : Int) = some x := atI_nat h
theorem tabL_at (h : i < n) : atI (tabL n T) (i : Int) = some (.lst (tabR n T i)) := atI_of (tabL_get h)
theorem tabR_at (h : j < n) : atI (tabR n T i) (j : Int) = some (.int (T i j)) := atI_of (tabR_get h)
theorem tabR_ext (h : ∀ j, j < n → T i j = U i j) : tabR n T i = tabR n U i := by
  unfold tabR
  refine List.map_congr_left fun j hj => ?_
  rw [h j (List.mem_range.mp hj)]
theorem tab_ext (h : ∀ i j, i < n → j < n → T i j = U i j) : tab n T = tab n U := by
  unfold tab
  refine List.map_congr_left fun i hi => tabR_ext (h i · (List.mem_range.mp hi))
theorem ext_get {α : Type} {xs ys : List α} (h : ∀ i : Nat, xs[i]? = ys[i]?) : xs = ys := List.ext_getElem? h
/-- one entry written -/
theorem tab_set {v : Int} (hi : i < n) (hj : j < n) : (tab n T).set i ((tabR n T i).set j (.int v)) = tab n (fun a b => if a = i ∧ b = j then v else T a b) := by
  refine ext_get fun a => ?_
  by_cases ha : a = i
  · subst ha
    rw [List.getElem?_set_self (by rw [tab_len]; exact hi), tab_get hi]
    congr 1
    refine ext_get fun b => ?_
    by_cases hb : b = j
    · subst hb
      rw [List.getElem?_set_self (by rw [tabR_len]; exact hj), tabR_get hj, if_pos ⟨rfl, rfl⟩]
    · rw [List.getElem?_set_ne (fun e => hb e.symm)]
      by_cases hbn : b < n
      · rw [tabR_get hbn, tabR_get hbn, if_neg (fun e => hb e.2)]
      · rw [List.getElem?_eq_none (by rw [tabR_len]; omega), List.getElem?_eq_none (by rw [tabR_len]; omega)]
  · rw [List.getElem?_set_ne (fun e => ha e.symm)]
    by_cases han : a < n
    · rw [tab_get han, tab_get han]
      congr 1
      exact tabR_ext fun b _ => (if_neg (fun e => ha e.1)).symm
    · rw [List.getElem?_eq_none (by rw [tab_len]; omega), List.getElem?_eq_none (by rw [tab_len]; omega)]
/-- two rows changed about -/
theorem tab_swap (hi : i < n) (hj : j < n) : ((tab n T).set i (tabR n T j)).set j (tabR n T i) = tab n (swapRow T i j) := by
  refine ext_get fun a => ?_
  by_cases han : a < n
  · rw [tab_get han]
    by_cases ha : a = j
    · subst ha
      rw [List.getElem?_set_self (by rw [List.length_set, tab_len]; exact hj)]
      congr 1
      unfold tabR swapRow
      refine List.map_congr_left fun b _ => ?_
      by_cases h : a = i
      · subst h; simp
      · simp [h]
    · rw [List.getElem?_set_ne (fun e => ha e.symm)]
      by_cases h : a = i
      · subst h
        rw [List.getElem?_set_self (by rw [tab_len]; exact hi)]
        congr 1
        unfold tabR swapRow
        simp
      · rw [List.getElem?_set_ne (fun e => h e.symm), tab_get han]
        congr 1
        unfold tabR swapRow
        simp [h, ha]
  · rw [List.getElem?_eq_none (by rw [List.length_set, List.length_set, tab_len]; omega), List.getElem?_eq_none (by rw [tab_len]; omega)]
/-- the first row from k on with a number at k that is not 0 -/
def pivI (n : Nat) (T : Nat → Nat → Int) (k : Nat) : Int := match (List.range (n - k)).find? fun r => decide (T (k + r) k ≠ 0) with
  | some r => ((k + r : Nat) : Int)
  | none => -1
theorem pivI_hit {r : Nat} (h : k + r < n) (hz : ∀ s, s < r → T (k + s) k = 0) (hn : T (k + r) k ≠ 0) : pivI n T k = ((k + r : Nat) : Int) := by
  unfold pivI
  have e : (List.range (n - k)).find? (fun r => decide (T (k + r) k ≠ 0)) = some r := by
    rw [List.find?_range_eq_some]
    refine ⟨decide_eq_true hn, by simp; omega, fun s hs => ?_⟩
    simp [hz s hs]
  rw [e]
theorem pivI_none (hz : ∀ s, k + s < n → T (k + s) k = 0) : pivI n T k = -1 := by
  unfold pivI
  have e : (List.range (n - k)).find? (fun r => decide (T (k + r) k ≠ 0)) = none := by
    rw [List.find?_eq_none]
    intro r hr
    have := List.mem_range.mp hr
    simp [hz r (by omega)]
  rw [e]
theorem pivI_spec (n : Nat) (T : Nat → Nat → Int) (k : Nat) : (pivI n T k = -1 ∧ ∀ i, k ≤ i → i < n → T i k = 0) ∨ ∃ a : Nat, pivI n T k = (a : Int) ∧ k ≤ a ∧ a < n ∧ T a k ≠ 0 := by
  unfold pivI
  cases e : (List.range (n - k)).find? (fun r => decide (T (k + r) k ≠ 0)) with
  | none =>
    refine .inl ⟨rfl, fun i h1 h2 => ?_⟩
    have := List.find?_eq_none.mp e (i - k) (List.mem_range.mpr (by omega))
    have z : k + (i - k) = i := by omega
    rw [z] at this
    simpa using this
  | some r =>
    have h1 := List.find?_some e
    have h2 := List.mem_range.mp (List.mem_of_find?_eq_some e)
    exact .inr ⟨k + r, rfl, by omega, by omega, by simpa using h1⟩
end
theorem cd_lenE {X : Cx} {ds : List Dt} {n : Int} (h : (ds.length : Int) = n) : CallD X (.builtin "len") [.lst ds] (.int n) := h ▸ cd_len
theorem rngD_get {lo : Int} {n i : Nat} {d : Dt} (h : (rngD lo n)[i]? = some d) : i < n ∧ d = .int (lo + (i : Int)) := by
  have hl : i < n := by
    have := (List.getElem?_eq_some_iff.mp h).1
    simpa [rngD] using this
  unfold rngD at h
  rw [List.getElem?_map, List.getElem?_range hl] at h
  exact ⟨hl, (Option.some.inj h).symm⟩
theorem rngD0_get {n i : Nat} {d : Dt} (h : (rngD 0 n)[i]? = some d) : i < n ∧ d = .int (i : Int) := by
  obtain ⟨h1, h2⟩ := rngD_get h
  exact ⟨h1, h2.trans (congrArg _ (by omega))⟩
theorem rngD_len {lo : Int} {n : Nat} : (rngD lo n).length = n := by simp [rngD]
end LW

/-! LWDet: what det's loops do to a table -/
namespace LW
open PySem PySem.Spec PyProof.Rows L2 MD
theorem s_consI {X : Cx} {st : Stmt} {rest : List Stmt} {ss : List Sl} {D : DE} (M : List Sl → Prop) (h : WS X st ss { D with nx := M }) (h2 : ∀ s, M s → WSs X rest s D) : WSs X (st :: rest) ss D :=
  s_cons (h.imp h2 (fun _ q => q) (fun _ q => q) (fun _ q => q) (fun _ _ q => q))
/-- rows below k up to i, in row i up to j, are done -/
def bPart (k : Nat) (T : Mat Int) (ahead : Int) (i j : Nat) : Mat Int := fun a b => if a < i ∨ (a = i ∧ b < j) then bStep k T ahead a b else T a b
variable {k n i j : Nat} {T : Mat Int} {ahead : Int}
theorem bPart_start : tab n (bPart k T ahead (k + 1) 0) = tab n T := tab_ext fun a b _ _ => by
  unfold bPart bStep
  split
  · rw [if_neg (by omega)]
  · rfl
theorem bPart_row : tab n (bPart k T ahead i (k + 1)) = tab n (bPart k T ahead i 0) := tab_ext fun a b _ _ => by
  by_cases h : a < i
  · unfold bPart
    rw [if_pos (.inl h), if_pos (.inl h)]
  · by_cases e : a = i ∧ b < k + 1
    · unfold bPart bStep
      rw [if_pos (.inr e), if_neg (by omega), if_neg (by omega)]
    · unfold bPart
      rw [if_neg (by omega), if_neg (by omega)]
theorem bPart_rowEnd : tab n (bPart k T ahead i n) = tab n (bPart k T ahead (i + 1) 0) := tab_ext fun a b _ hb => by
  unfold bPart
  by_cases h : a < i + 1
  · rw [if_pos (by omega), if_pos (.inl h)]
  · rw [if_neg (by omega), if_neg (by omega)]
theorem bPart_end (h : n ≤ i) : tab n (bPart k T ahead i 0) = tab n (bStep k T ahead) := tab_ext fun a b ha _ => by
  unfold bPart
  rw [if_pos (.inl (by omega))]
theorem bPart_set {v : Int} (hi : i < n) (hj : j < n) (hki : k < i) (hkj : k < j) (hv : v = (T i j * T k k - T i k * T k j).fdiv ahead) : (tab n (bPart k T ahead i j)).set i ((tabR n (bPart k T ahead i j) i).set j (.int v)) = tab n (bPart k T ahead i (j + 1)) := by
  rw [tab_set hi hj]
  refine tab_ext fun a b _ _ => ?_
  by_cases e : a = i ∧ b = j
  · obtain ⟨rfl, rfl⟩ := e
    rw [if_pos ⟨rfl, rfl⟩]
    unfold bPart bStep
    rw [if_pos (.inr ⟨rfl, by omega⟩), if_pos ⟨hki, hkj⟩, hv]
  · rw [if_neg e]
    unfold bPart
    by_cases h : a < i ∨ (a = i ∧ b < j)
    · rw [if_pos h, if_pos (by omega)]
    · rw [if_neg h, if_neg (by omega)]
theorem bPart_no (h : ¬ (a < i ∨ (a = i ∧ b < j))) : bPart k T ahead i j a b = T a b := if_neg h
theorem bPart_up {a b : Nat} (h : a ≤ k ∨ b ≤ k) : bPart k T ahead i j a b = T a b := by
  unfold bPart
  split
  · unfold bStep
    rw [if_neg (by omega)]
  · rfl
theorem log_of {i : Int} {m e : Nat} (h : i.natAbs ≤ m) (hm : m < 2 ^ e) (he : 0 < e) : i.natAbs.log2 < e := by
  by_cases z : i.natAbs = 0
  · rw [z]
    exact he
  · exact (Nat.log2_lt z).mpr (by omega)
theorem fac_le {m n B : Nat} (h : m ≤ n) (hB : 1 ≤ B) : fac m * B ^ m ≤ fac n * B ^ n := by
  induction n with
  | zero =>
    have : m = 0 := by omega
    subst this
    exact Nat.le_refl _
  | succ n ih =>
    by_cases e : m = n + 1
    · subst e
      exact Nat.le_refl _
    · refine Nat.le_trans (ih (by omega)) ?_
      have h1 : fac n ≤ fac (n + 1) := by
        show fac n ≤ (n + 1) * fac n
        exact Nat.le_mul_of_pos_left _ (by omega)
      have h2 : B ^ n ≤ B ^ (n + 1) := Nat.pow_le_pow_right hB (by omega)
      exact Nat.mul_le_mul h1 h2
/-- how large a table's numbers may be -/
structure Szd (n : Nat) (A : Mat Int) : Prop where
  ex : ∃ B : Nat, 1 ≤ B ∧ (∀ i j, i < n → (A i j).natAbs ≤ B) ∧ fac n * B ^ n < 2 ^ 4000
theorem Szd.lt {A : Mat Int} {found : Int} (z : Szd n A) (h : BInv n k A T found ahead) : k ≤ n → (∀ i j, k ≤ i → i < n → k ≤ j → j < n → (T i j).natAbs.log2 < 4000) ∧ ahead.natAbs.log2 < 4000 ∧ ahead ≠ 0 := fun hk => by
  obtain ⟨B, hB, hA, hz⟩ := z.ex
  obtain ⟨h1, h2, h3⟩ := h.small hk hA
  refine ⟨fun i j a b c d => ?_, ?_, h3⟩
  · exact log_of (h1 i j a b c d) (Nat.lt_of_le_of_lt (fac_le (by omega) hB) hz) (by decide)
  · exact log_of h2 (Nat.lt_of_le_of_lt (fac_le hk hB) hz) (by decide)
theorem bsgn {A : Mat Int} {found : Int} (h : BInv n k A T found ahead) : found = 1 ∨ found = -1 := by
  obtain ⟨_, _, _, h, _⟩ := h.ex
  exact h
theorem mulW_of {i j : Int} (h1 : i.natAbs.log2 < 4000) (h2 : j.natAbs.log2 < 4000) : CMulW i j := by
  unfold CMulW
  omega
theorem divA_of {i j : Int} (h1 : j.natAbs.log2 < 4000) (h2 : j ≠ 0) : CDivA i j := ⟨h2, by omega⟩
end LW

/-! LWCell: the numbers that the laws draw; slices -/
namespace LW
open PySem PySem.Spec PyProof.Rows L2 MD
def cellAt (ns : List Int) (k : Int) : Int := if 0 ≤ k then ns.getD k.toNat 0 else 0
def someL : List Int := [48271, 69621, 16807, 39373, 30269, 40014, 40692, 50021, 61687, 71993, 83869, 95561, 30307]
def mixS (k : Int) : Int := someL.getD (k % 13).toNat 0
def mixI (cell k many : Int) : Int := ((((cell % 2147483647 + 12345) * mixS k) * (2 * (k / 13) + 1) + 977 * k) % 1000000007 / 7) % many
theorem mixI_lo {cell k many : Int} (h : 0 < many) : 0 ≤ mixI cell k many := Int.emod_nonneg _ (by omega)
theorem mixI_hi {cell k many : Int} (h : 0 < many) : mixI cell k many < many := Int.emod_lt_of_pos _ h
theorem mod13 (k : Int) : k % 13 = 0 ∨ k % 13 = 1 ∨ k % 13 = 2 ∨ k % 13 = 3 ∨ k % 13 = 4 ∨ k % 13 = 5 ∨ k % 13 = 6 ∨ k % 13 = 7 ∨ k % 13 = 8 ∨ k % 13 = 9 ∨ k % 13 = 10 ∨ k % 13 = 11 ∨ k % 13 = 12 := by omega
theorem mixS_at (k : Int) : atI ([.int 48271, .int 69621, .int 16807, .int 39373, .int 30269, .int 40014, .int 40692, .int 50021, .int 61687, .int 71993, .int 83869, .int 95561, .int 30307] : List Dt) (k % 13) = some (.int (mixS k)) := by
  unfold mixS
  rcases mod13 k with h | h | h | h | h | h | h | h | h | h | h | h | h <;> rw [h] <;> rfl
def wholeD (d : Dt) : Bool := isiD d "int" && !isiD d "bool"
theorem cut_pre {α : Type} (xs : List α) (k : Nat) : cutL xs none (some (k : Int)) = xs.take k := by
  unfold cutL
  rw [HT.sIx_none, HT.sIx_nat, List.drop_zero, Nat.sub_zero]
  by_cases h : k ≤ xs.length
  · rw [Nat.min_eq_left h]
  · rw [Nat.min_eq_right (by omega), List.take_of_length_le (Nat.le_refl _), List.take_of_length_le (by omega)]
theorem cut_suf {α : Type} (xs : List α) (k : Nat) : cutL xs (some (k : Int)) none = xs.drop k := by
  unfold cutL
  rw [HT.sIx_none, HT.sIx_nat]
  by_cases h : k ≤ xs.length
  · rw [Nat.min_eq_left h, List.take_of_length_le (by rw [List.length_drop]; omega)]
  · rw [Nat.min_eq_right (by omega), List.drop_eq_nil_of_le (Nat.le_refl _), List.drop_eq_nil_of_le (by omega)]
    simp
/-- a row without its j-th entry -/
theorem tabR_skip {n j : Nat} {T : Mat Int} {i : Nat} (hj : j < n + 1) : (tabR (n + 1) T (i + 1)).take j ++ (tabR (n + 1) T (i + 1)).drop (j + 1) = tabR n (minor T j) i := by
  refine ext_get fun k => ?_
  by_cases hk : k < n
  · rw [tabR_get hk]
    unfold minor skip
    by_cases h : k < j
    · rw [List.getElem?_append_left (by rw [List.length_take, tabR_len]; omega), List.getElem?_take_of_lt h, tabR_get (by omega), if_pos h]
    · rw [List.getElem?_append_right (by rw [List.length_take, tabR_len]; omega), List.length_take, tabR_len, List.getElem?_drop, if_neg h]
      have e : j + 1 + (k - min j (n + 1)) = k + 1 := by omega
      rw [e, tabR_get (by omega)]
  · rw [List.getElem?_eq_none (by rw [List.length_append, List.length_take, List.length_drop, tabR_len]; omega), List.getElem?_eq_none (by rw [tabR_len]; omega)]
theorem tabL_tail {n : Nat} {T : Mat Int} : (tabL (n + 1) T).drop 1 = (List.range n).map fun i => .lst (tabR (n + 1) T (i + 1)) := by
  refine ext_get fun k => ?_
  rw [List.getElem?_drop]
  by_cases hk : k < n
  · rw [Nat.add_comm 1 k, tabL_get (by omega), List.getElem?_map, List.getElem?_range hk]
    rfl
  · rw [List.getElem?_eq_none (by rw [tabL_len]; omega), List.getElem?_eq_none (by simp; omega)]
def sgI (j : Int) : Int := if j % 2 = 0 then 1 else -1
theorem sg_at (j : Int) : atI ([.int 1, .int (-1)] : List Dt) (j % 2) = some (.int (sgI j)) := by
  have : j % 2 = 0 ∨ j % 2 = 1 := by omega
  unfold sgI
  rcases this with h | h <;> rw [h] <;> rfl
theorem sgI_nat (j : Nat) : sgI (j : Int) = (sg j : Int) := by
  unfold sgI sg
  by_cases h : j % 2 = 0
  · rw [if_pos h, if_pos (by omega)]
  · rw [if_neg h, if_neg (by omega)]
theorem sgI_or (j : Int) : sgI j = 1 ∨ sgI j = -1 := by
  unfold sgI
  split
  · exact .inl rfl
  · exact .inr rfl
theorem Szd.minor {n j : Nat} {T : Mat Int} (z : Szd (n + 1) T) : Szd n (MD.minor T j) := by
  obtain ⟨B, h1, h2, h3⟩ := z.ex
  exact ⟨B, h1, fun i k hi => h2 (i + 1) _ (by omega), Nat.lt_of_le_of_lt (fac_le (by omega) h1) h3⟩
theorem Szd.det {n : Nat} {T : Mat Int} (z : Szd n T) : (MD.det n T).natAbs.log2 < 4000 := by
  obtain ⟨B, h1, h2, h3⟩ := z.ex
  exact log_of (natAbs_det h2) h3 (by decide)
theorem Szd.entry {n : Nat} {T : Mat Int} (z : Szd n T) {i j : Nat} (hi : i < n) : (T i j).natAbs.log2 < 4000 := by
  obtain ⟨B, h1, h2, h3⟩ := z.ex
  have : fac 1 * B ^ 1 ≤ fac n * B ^ n := fac_le (by omega) h1
  have e : fac 1 * B ^ 1 = B := by simp [fac]
  exact log_of (h2 i j hi) (by omega) (by decide)
end LW

/-! LWMore: data that == looks at; more rules -/
namespace LW
open PySem PySem.Spec PyProof.Rows L2 MD
structure ShK (k : Nat) (d : Dt) : Prop where
  p : isP d = true
  c : (toP d).canLay0 = true
  d : (toP d).depth ≤ k
theorem ShK.shp {k : Nat} {d : Dt} (h : ShK k d) (hk : k ≤ 64 := by decide) : Shp d := ⟨h.p, by
  unfold SeqAt.shaped
  rw [h.c, decide_eq_true (Nat.le_trans h.d hk)]
  rfl⟩
theorem ShK.eqv {k : Nat} {d : Dt} (h : ShK k d) : PyData.eqv (toP d) (toP d) = true := SeqAt.eqv_refl _ h.c
theorem shk_int {k : Nat} {i : Int} : ShK k (.int i) := ⟨rfl, rfl, Nat.zero_le _⟩
theorem shk_bl {k : Nat} {i : Bool} : ShK k (.bl i) := ⟨rfl, rfl, Nat.zero_le _⟩
theorem shk_non {k : Nat} : ShK k .non := ⟨rfl, rfl, Nat.zero_le _⟩
theorem shk_str {k : Nat} {x : Str} (h : (PyData.str x).canLay0 = true) : ShK k (.str x) := ⟨rfl, h, Nat.zero_le _⟩
theorem shk_all {k : Nat} : ∀ {ds : List Dt}, (∀ d ∈ ds, ShK k d) → isPL ds = true ∧ PyData.canLayAll0 (toPL ds) = true ∧ PyData.depthAll (toPL ds) ≤ k
  | [], _ => ⟨rfl, rfl, Nat.zero_le _⟩
  | d :: ds, h => by
    obtain ⟨h1, h2, h3⟩ := shk_all (ds := ds) fun d hd => h d (List.mem_cons_of_mem _ hd)
    have h0 := h d List.mem_cons_self
    refine ⟨?_, ?_, ?_⟩
    · show (isP d && isPL ds) = true
      rw [h0.p, h1]; rfl
    · show ((toP d).canLay0 && PyData.canLayAll0 (toPL ds)) = true
      rw [h0.c, h2]; rfl
    · show max (toP d).depth (PyData.depthAll (toPL ds)) ≤ k
      have := h0.d
      omega
theorem shk_lst {k : Nat} {ds : List Dt} (h : ∀ d ∈ ds, ShK k d) : ShK (k + 1) (.lst ds) := by
  obtain ⟨h1, h2, h3⟩ := shk_all h
  exact ⟨h1, h2, by show PyData.depthAll (toPL ds) + 1 ≤ k + 1; omega⟩
theorem shk_tup {k : Nat} {ds : List Dt} (h : ∀ d ∈ ds, ShK k d) : ShK (k + 1) (.tup ds) := by
  obtain ⟨h1, h2, h3⟩ := shk_all h
  exact ⟨h1, h2, by show PyData.depthAll (toPL ds) + 1 ≤ k + 1; omega⟩
theorem shk_tab {n : Nat} {T : Mat Int} : ShK 2 (tabD n T) := shk_lst fun d hd => by
  obtain ⟨r, hr, rfl⟩ := List.mem_map.mp hd
  obtain ⟨i, _, rfl⟩ := List.mem_map.mp hr
  exact shk_lst fun d hd => by
    obtain ⟨j, _, rfl⟩ := List.mem_map.mp hd
    exact shk_int
section
variable {X : Cx} {a b c e o tg iter elt : Expr} {es : List Expr} {ss : List Sl} {d d1 d2 d3 : Dt} {ds ds2 : List Dt} {pos p apos p2 : Pos}
theorem EvL.is (h : EvL X e ss ds) (q : ds = ds2) : EvL X e ss ds2 := q ▸ h
theorem EvE.is (h : EvE X e ss d) (q : d = d2) : EvE X e ss d2 := q ▸ h
theorem AsgL.is {st : Stmt} {i : Nat} (h : AsgL X st i ss ds) (q : ds = ds2) : AsgL X st i ss ds2 := q ▸ h
theorem AsgM.is {st : Stmt} {i : Nat} {r1 r2 : List (List Dt)} (h : AsgM X st i ss r1) (q : r1 = r2) : AsgM X st i ss r2 := q ▸ h
/-- list(what is ours), of values that are not lists of ours -/
theorem imm_repL {K : PySem.W.Frag} {F H G : Hp} (fh : Same F H) (gh : Same G H) : ∀ (ds : List Dt) (vs : List V), (∀ d ∈ ds, imm d = true) → RepL K G ds vs → RepL K (tupF F H) ds vs
  | [], _, _, h => h
  | d :: ds, _, m, h => by
    obtain ⟨v, r, rfl, h1, h2⟩ := h
    exact ⟨v, r, rfl, imm_rep fh gh d v (m d List.mem_cons_self) h1, imm_repL fh gh ds r (fun d hd => m d (List.mem_cons_of_mem _ hd)) h2⟩
theorem l_listB {x : Str} (hx : x = "list") (ha : EvB X a ss (.lst ds)) (m : ∀ d ∈ ds, imm d = true) (hm : X.mg x = none := by assumption) (hg : Gl X x := by rfl) (he : starEach [a] X.env = (false, eval a X.env) :: starEach [] X.env := by rfl) (hpl : (backTo pos (starEach [] X.env)).any (·.1) = false := by rfl) : EvL X (.Call (.Name x p) [a] [] pos) ss ds := fun F0 H0 F H ow σ S Q q => by
  subst hx
  refine wE_of (pe_callTy call_list_of hg hm (by decide +kernel) pA (by decide) (by decide) he hpl) ((ab_cons ha ab_nil he) F0 H0 F H ow σ S _ fun vs F1 H1 g1 r1 => ?_)
  obtain ⟨v, rfl, ad, xs, rfl, e1, r⟩ := repL1 r1
  have gh : Same (Rr F1 H1 ow) H1 := Rr_h g1.fh
  refine ⟨ad, xs, rfl, .inl (SqL.of (gh _ _ e1)), fun l hl => ?_⟩
  have g3 : Grow F1 H1 F1 (upd H1 l (.lst xs)) := .own g1.fh hl
  have g4 := g1.trans (tupF_grow g3)
  have hl0 : F1 l = none := same_none g1.fh hl
  refine q l xs (tupF F1 (upd H1 l (.lst xs))) _ g4 (same_none g1.hh hl) ?_ upd_same (imm_repL g3.fh (gh.trans g3.hh) _ _ m r)
  unfold tupF
  rw [upd_same, hl0]
/-- for x in what is ours, not written in the walk: the walk is over what is ours no longer -/
theorem tabL_eq {n : Nat} {T : Mat Int} : tabL n T = (List.range n).map fun i => .lst (tabR n T i) := by
  unfold tabL tab
  rw [List.map_map]
  rfl
theorem filter_all {α : Type} {xs : List α} {β : Type} {f : α → β} : (xs.filter fun _ => true).map f = xs.map f := by
  rw [List.filter_eq_self.mpr fun _ _ => rfl]
theorem rngD_nat {n : Nat} : rngD 0 ((n : Int)).toNat = (List.range n).map fun (j : Nat) => .int (j : Int) := by
  unfold rngD
  rw [Int.toNat_natCast]
  exact List.map_congr_left fun j _ => congrArg _ (by omega)
theorem cutL_le {α : Type} {xs : List α} {a b : Option Int} : (cutL xs a b).length ≤ xs.length := by
  unfold cutL
  rw [List.length_take, List.length_drop]
  omega
end
end LW

/-! LWEnd: a law's end, for defs that may raise -/
namespace LW
open PySem PySem.Spec PyProof.Rows L2
theorem end_of {lw : PySem.W.OpenLaw} {most lev : Nat} {qq : Program} {ls : List Str} {XQ : (Str → Option Value) → Heap → Prop} {YQ : World → Heap → Prop} {dd : DefRec} {par : Str} {G : GR}
    (e1 : lw.most = some most) (e2 : most ≤ sizeLine) (e3 : dd.params.defaults = []) (rr : Room lev callerA)
    (hG : ∀ ns : List Int, ns.length ≤ most → G [.scr ns] (.val (.bl true)))
    (Fn : ∀ (w : World) (mg : Str → Option Value) (f : Addr) (hp : Heap), YQ w hp → hp.Ns mainGlobals mg → mg dd.name = some (.ref f) →
      ∃ (K : PySem.W.Frag) (fd : FuncData), K.In hp ∧ (∀ (z : Shared) (u : Value), BindsTo z fd ⟨[u], []⟩ [(par, u)]) ∧
        ∀ bs : Heap, K.In bs → bs.Ns mainGlobals mg → FnOk lw.prog w K mg bs (L2.CX lw.prog w) lev f fd [par] (spD K G)) :
    PySem.W.WalkO qq ls XQ YQ lw.row.toRowW dd [] (fun g us => PySem.call g us) := by
  refine Att.attach_call e1 e3 fun w z0 z1 mg mb f o pm cd doc a us ns T Y h1 h2 h3 h4 h5 h6 h7 h8 => ?_
  obtain ⟨K, fd, hK, hb, hF⟩ := Fn w mg f _ Y T.T.g h4
  refine law_call (sp := spD K G) hK T.T.g T.T.b T.T.builtins T.T.nolimit h8 h5 h6 (Nat.le_trans h7 e2) rr hF hb (fun H _ hS => ?_) fun H e s' c => ?_
  · refine ⟨H, [.scr ns], .val (.bl true), Same.refl _, .cons ⟨a, rfl, hS⟩ .nil, hG ns h7, fun v F' H' _ r => r⟩
  · obtain ⟨_, _, _, _, _, _, _, _, _, _, _, _, ff⟩ := c
    exact ff
end LW

/-! LWList: pop, extend -/
namespace LW
open PySem PySem.Spec PyProof.Rows L2 MD
section
variable {X : Cx} {a b c e o tg iter elt : Expr} {es : List Expr} {ss : List Sl} {d d1 d2 d3 : Dt} {ds ds2 : List Dt} {pos p apos p2 p3 apos2 p4 : Pos} {D : DE}
/-- x.append(y.pop(e)) -/
theorem s_popApp (i j : Nat) {x y : Str} {I : Int} (h : EvE X e ss (.int I)) (hI : 0 ≤ I) (hI2 : I < 1000000) (hg : ds2[I.toNat]? = some d) (hz : ds.length < 1000000) (k : D.nx ((ss.set j (.lst (ds2.eraseIdx I.toNat))).set i (.lst (ds ++ [d])))) (hij : i ≠ j := by decide)
    (hN : X.N[i]? = some x := by rfl) (hs : ss[i]? = some (.lst ds) := by rfl) (hv : Vis X.env.scope x := by first | exact Or.inl rfl | exact Or.inr (Or.inl rfl) | exact Or.inr (Or.inr rfl))
    (hd : (x == ("__debug__" : Str)) = false := by decide) (hcd : (x == ("__classdict__" : Str)) = false := by decide)
    (hN2 : X.N[j]? = some y := by rfl) (hs2 : ss[j]? = some (.lst ds2) := by rfl) (hv2 : Vis X.env.scope y := by first | exact Or.inl rfl | exact Or.inr (Or.inl rfl) | exact Or.inr (Or.inr rfl))
    (hd2 : (y == ("__debug__" : Str)) = false := by decide) (hcd2 : (y == ("__classdict__" : Str)) = false := by decide)
    (hw : swapsWith (.Call (.Attribute (.Name x p) "append" apos) [.Call (.Attribute (.Name y p3) "pop" apos2) [e] [] p4] [] p2) none pos.line X.env = pure false := by rfl)
    (hb1 : attributeBase (.Name x p) "append" X.env (eval (.Name x p) X.env) = eval (.Name x p) X.env := by rfl) (hb2 : attributeBase (.Name y p3) "pop" X.env (eval (.Name y p3) X.env) = eval (.Name y p3) X.env := by rfl)
    (hf1 : ((backTo p2 (starEach [.Call (.Attribute (.Name y p3) "pop" apos2) [e] [] p4] X.env)).all (fun x => !x.1) && (backToKw p2 (keywordEach [] X.env)).all (fun x => x.1.isSome) && decide ([Expr.Call (.Attribute (.Name y p3) "pop" apos2) [e] [] p4].length + ([] : List Keyword).length + (if ([] : List Keyword).isEmpty then 0 else 1) < 30)) = true := by rfl)
    (hf2 : ((backTo p4 (starEach [e] X.env)).all (fun x => !x.1) && (backToKw p4 (keywordEach [] X.env)).all (fun x => x.1.isSome) && decide ([e].length + ([] : List Keyword).length + (if ([] : List Keyword).isEmpty then 0 else 1) < 30)) = true := by rfl)
    (hl1 : (apos.endLine == p2.line) = true := by rfl) (hl2 : (apos2.endLine == p4.line) = true := by rfl)
    (ht1 : starEach [.Call (.Attribute (.Name y p3) "pop" apos2) [e] [] p4] X.env = (false, eval (.Call (.Attribute (.Name y p3) "pop" apos2) [e] [] p4) X.env) :: starEach [] X.env := by rfl) (ht2 : starEach [e] X.env = (false, eval e X.env) :: starEach [] X.env := by rfl)
    (hp1 : (backTo p2 (starEach [] X.env)).any (·.1) = false := by rfl) (hp2 : (backTo p4 (starEach [] X.env)).any (·.1) = false := by rfl) :
    WS X (.Expr (.Call (.Attribute (.Name x p) "append" apos) [.Call (.Attribute (.Name y p3) "pop" apos2) [e] [] p4] [] p2) pos) ss D := fun F0 H0 tk F H ow σ S => by
  obtain ⟨q1, hy, ad, vs, rfl, e1, e2, r⟩ := S.at hs
  obtain ⟨q2, hy2, ad2, vs2, rfl, f1, f2, r2⟩ := S.at hs2
  have hne : ad ≠ ad2 := fun z => by
    subst z
    rw [e2] at f2
    exact hij (Option.some.inj f2)
  refine wS_of (ps_expr (pe_bm PySem.F.plainAttrs_list PySem.F.slot_list_append PySem.F.type_list_append mt_append (pv i hN hv hd hcd)
    (pa_cons (pe_bm PySem.F.plainAttrs_list PySem.F.slot_list_pop PySem.F.type_list_pop mt_popAt (pv j hN2 hv2 hd2 hcd2) pA hb2 hf2 hl2 ht2 hp2) pa_nil ht1) hb1 hf1 hl1 ht1 hp1) hw) ⟨_, hy, .inl ⟨rfl, _, SqL.of e1⟩, ?_⟩
  refine ⟨_, hy2, .inl ⟨rfl, _, SqL.of f1⟩, ?_⟩
  refine (a_cons h a_nil ht2) F0 H0 F H ow σ S _ fun ws F1 H1 g1 r1 => ?_
  obtain ⟨v, rfl, rv⟩ := repL1 r1
  cases rv
  have S1 := S.grow g1
  obtain ⟨u, hu, ru⟩ := r2.get hg
  have hlt := (List.getElem?_eq_some_iff.mp hu).1
  have hix : ixN vs2.length I = some I.toNat := ixN_nat hI (by omega)
  have f3 := g1.hh _ _ f1
  refine ⟨ad2, vs2, I, I.toNat, u, rfl, rfl, f3, by omega, by omega, (ixN_seq hix).1, hu, ?_⟩
  have S2 := S1.chg (u := .lst (vs2.eraseIdx I.toNat)) (s := .lst (ds2.eraseIdx I.toNat)) f2 (.inl ⟨_, rfl⟩) hy2 fun H' _ he => ⟨ad2, _, rfl, by rw [he, upd_same], f2, (RepL.mono g1.ff _ _ r2).erase _⟩
  have e3 : upd H1 ad2 (.lst (vs2.eraseIdx I.toNat)) ad = some (.lst vs) := by
    rw [upd_ne hne]
    exact g1.hh _ _ e1
  refine ⟨ad, vs, u, rfl, rfl, e3, by rw [← r.len]; exact szl (by omega), F1, ow, _, S2.chg (s := .lst (ds ++ [d])) e2 (.inl ⟨_, rfl⟩) hy fun H' _ he => ⟨ad, vs ++ [u], rfl, by rw [he, upd_same], e2, (RepL.mono g1.ff _ _ r).snoc (Rep.mono g1.ff _ _ ru)⟩, k⟩
/-- x.extend(e) -/
theorem s_ext (i : Nat) {x : Str} (h : EvE X e ss (.lst ds2)) (hz : ds.length + ds2.length ≤ 1000000) (k : D.nx (ss.set i (.lst (ds ++ ds2)))) (hN : X.N[i]? = some x := by rfl) (hs : ss[i]? = some (.lst ds) := by rfl) (hv : Vis X.env.scope x := by first | exact Or.inl rfl | exact Or.inr (Or.inl rfl) | exact Or.inr (Or.inr rfl))
    (hd : (x == ("__debug__" : Str)) = false := by decide) (hcd : (x == ("__classdict__" : Str)) = false := by decide) (hw : swapsWith (.Call (.Attribute (.Name x p) "extend" apos) [e] [] p2) none pos.line X.env = pure false := by rfl)
    (hbase : attributeBase (.Name x p) "extend" X.env (eval (.Name x p) X.env) = eval (.Name x p) X.env := by rfl)
    (hfew : ((backTo p2 (starEach [e] X.env)).all (fun x => !x.1) && (backToKw p2 (keywordEach [] X.env)).all (fun x => x.1.isSome) && decide ([e].length + ([] : List Keyword).length + (if ([] : List Keyword).isEmpty then 0 else 1) < 30)) = true := by rfl)
    (hline : (apos.endLine == p2.line) = true := by rfl) (hst : starEach [e] X.env = (false, eval e X.env) :: starEach [] X.env := by rfl) (hplain : (backTo p2 (starEach [] X.env)).any (·.1) = false := by rfl) :
    WS X (.Expr (.Call (.Attribute (.Name x p) "extend" apos) [e] [] p2) pos) ss D := fun F0 H0 tk F H ow σ S => by
  obtain ⟨y, hy, ad, vs, rfl, e1, e2, r⟩ := S.at hs
  refine wS_of (ps_expr (pe_bm PySem.F.plainAttrs_list PySem.F.slot_list_extend PySem.F.type_list_extend mt_extend (pv i hN hv hd hcd) pA hbase hfew hline hst hplain) hw) ⟨_, hy, .inl ⟨rfl, _, SqL.of e1⟩, ?_⟩
  refine (a_cons h a_nil hst) F0 H0 F H ow σ S _ fun ws F1 H1 g1 r1 => ?_
  obtain ⟨v, rfl, ad2, vs2, rfl, z1, z2⟩ := repL1 r1
  have e3 := g1.hh _ _ e1
  refine ⟨ad, ad2, vs, vs2, rfl, rfl, e3, g1.fh _ _ z1, by rw [← r.len, ← z2.len]; exact sz (by omega), F1, ow, _, (S.grow g1).chg (s := .lst (ds ++ ds2)) e2 (.inl ⟨_, rfl⟩) hy fun H' _ he => ⟨ad, vs ++ vs2, rfl, by rw [he, upd_same], e2, (RepL.mono g1.ff _ _ r).app z2⟩, k⟩
end
end LW

/-! MPerm: products by a unit lower triangle; rows taken out one by one -/
namespace MD
open Lean.Grind
section
variable {R : Type} [CommRing R]
theorem setRow_setRow (A : Mat R) (r : Nat) (u v : Nat → R) : setRow (setRow A r u) r v = setRow A r v := by
  funext i j
  unfold setRow
  by_cases h : i = r
  · rw [if_pos h, if_pos h]
  · rw [if_neg h, if_neg h, if_neg h]
/-- rows below r added to row r -/
theorem det_addBelow {n : Nat} (A : Mat R) {r : Nat} (hr : r < n) (c : Nat → R) : ∀ u : Nat, u ≤ r → det n (setRow A r (fun j => A r j + sumN u (fun m => c m * A m j))) = det n A
  | 0, _ => by
    refine det_congr fun i j _ _ => ?_
    unfold setRow
    split
    · rename_i h
      subst h
      dsimp only
      rw [sumN_zero]
      grind
    · rfl
  | u + 1, h => by
    rw [← det_addBelow A hr c u (by omega)]
    have e := det_addRow (setRow A r (fun j => A r j + sumN u (fun m => c m * A m j))) hr (s := u) (by omega) (by omega) (c u)
    rw [setRow_setRow] at e
    rw [← e]
    refine det_congr fun i j _ _ => ?_
    unfold setRow
    by_cases hi : i = r
    · rw [if_pos hi, if_pos hi]
      dsimp only
      rw [if_pos rfl, if_neg (show ¬ u = r by omega), sumN_succ]
      grind
    · rw [if_neg hi, if_neg hi]
theorem sumN_cut {n t : Nat} {f : Nat → R} (ht : t < n) (h : ∀ m, t < m → m < n → f m = 0) : sumN n f = sumN (t + 1) f := by
  induction n with
  | zero => omega
  | succ n ih =>
    by_cases e : t = n
    · subst e; rfl
    · rw [sumN_succ, h n (by omega) (by omega), ih (by omega) fun m h1 h2 => h m h1 (by omega)]
      grind
theorem det_lowmul {n : Nat} {L H : Mat R} (h1 : ∀ i, i < n → L i i = 1) (h0 : ∀ i m, i < m → m < n → L i m = 0) : det n (fun i j => sumN n fun m => L i m * H m j) = det n H := by
  have key : ∀ t, t ≤ n → det n (fun i j => if i < t then H i j else sumN n fun m => L i m * H m j) = det n (fun i j => sumN n fun m => L i m * H m j) := by
    intro t
    induction t with
    | zero => intro _; exact det_congr fun i j _ _ => if_neg (by omega)
    | succ t ih =>
      intro ht
      rw [← ih (by omega)]
      have e := det_addBelow (n := n) (fun i j => if i < t + 1 then H i j else sumN n fun m => L i m * H m j) (r := t) (by omega) (L t) t (Nat.le_refl _)
      rw [← e]
      refine det_congr fun i j hi _ => ?_
      unfold setRow
      by_cases hit : i = t
      · subst hit
        rw [if_pos rfl, if_neg (by omega)]
        dsimp only
        rw [if_pos (by omega), sumN_cut (n := n) (t := i) (by omega) (fun m a b => by rw [h0 i m a b]; grind), sumN_succ, h1 i (by omega)]
        have e2 : sumN i (fun m => L i m * (if m < i + 1 then H m j else sumN n fun m_1 => L m m_1 * H m_1 j)) = sumN i (fun m => L i m * H m j) := sumN_congr fun m hm => by rw [if_pos (by omega)]
        rw [e2]
        grind
      · rw [if_neg hit]
        dsimp only
        by_cases hlt : i < t
        · rw [if_pos hlt, if_pos (by omega)]
        · rw [if_neg hlt, if_neg (by omega)]
  have e := key n (Nat.le_refl _)
  rw [← e]
  exact det_congr fun i j hi _ => if_pos hi
/-- a list of rows -/
def lmat (Rs : List (Nat → R)) : Mat R := fun i => Rs.getD i (fun _ => 0)
theorem lmat_adj {A B : List (Nat → R)} {x y : Nat → R} {n : Nat} (hn : A.length + 2 ≤ n) : det n (lmat (A ++ x :: y :: B)) = - det n (lmat (A ++ y :: x :: B)) := by
  have e := det_swap (lmat (A ++ y :: x :: B)) (r := A.length) (s := A.length + 1) (n := n) (by omega) (by omega) (by omega)
  rw [← e]
  refine det_congr fun i j _ _ => ?_
  unfold swapRow lmat
  have at_ : ∀ (x y : Nat → R) (i : Nat), (A ++ x :: y :: B).getD i (fun _ => 0) = if i < A.length then A.getD i (fun _ => 0) else if i = A.length then x else if i = A.length + 1 then y else B.getD (i - A.length - 2) (fun _ => 0) := fun x y i => by
    rw [List.getD_eq_getElem?_getD]
    by_cases h : i < A.length
    · rw [if_pos h, List.getElem?_append_left h, List.getD_eq_getElem?_getD]
    · rw [if_neg h, List.getElem?_append_right (by omega)]
      by_cases h2 : i = A.length
      · rw [if_pos h2, h2, Nat.sub_self]; rfl
      · rw [if_neg h2]
        by_cases h3 : i = A.length + 1
        · rw [if_pos h3, h3, Nat.add_sub_cancel_left]; rfl
        · rw [if_neg h3]
          obtain ⟨k, hk⟩ : ∃ k, i = A.length + 2 + k := ⟨i - A.length - 2, by omega⟩
          subst hk
          rw [show A.length + 2 + k - A.length = k + 2 by omega, show k + 2 - 2 = k by omega, List.getD_eq_getElem?_getD]
          rfl
  have n1 : ¬ A.length < A.length := by omega
  have n2 : ¬ A.length + 1 < A.length := by omega
  have n3 : ¬ A.length + 1 = A.length := by omega
  by_cases h : i = A.length
  · subst h
    rw [if_pos rfl, at_, at_, if_neg n1, if_pos rfl, if_neg n2, if_neg n3, if_pos rfl]
  · rw [if_neg h]
    by_cases h2 : i = A.length + 1
    · rw [if_pos h2, h2, at_, at_, if_neg n2, if_neg n3, if_pos rfl, if_neg n1, if_pos rfl]
    · rw [if_neg h2, at_, at_]
      by_cases h3 : i < A.length
      · rw [if_pos h3, if_pos h3]
      · rw [if_neg h3, if_neg h, if_neg h2, if_neg h3, if_neg h, if_neg h2]
theorem lmat_move {n : Nat} {x : Nat → R} {C : List (Nat → R)} : ∀ {B A : List (Nat → R)}, A.length + B.length + 1 ≤ n → det n (lmat (A ++ (B ++ x :: C))) = sg B.length * det n (lmat (A ++ x :: (B ++ C)))
  | [], A, _ => by
    show _ = sg 0 * _
    unfold sg
    simp
    grind
  | y :: B, A, h => by
    rw [List.length_cons] at h
    have e1 : A ++ (y :: B ++ x :: C) = (A ++ [y]) ++ (B ++ x :: C) := by simp
    rw [e1, lmat_move (A := A ++ [y]) (B := B) (by simp; omega), List.length_cons, sg_succ]
    have e2 : (A ++ [y]) ++ x :: (B ++ C) = A ++ y :: x :: (B ++ C) := by simp
    rw [e2, lmat_adj (by omega)]
    show _ = - sg B.length * det n (lmat (A ++ x :: (y :: (B ++ C))))
    grind
theorem sg_sq (a : Nat) : (sg a : R) * sg a = 1 := by
  unfold sg
  split <;> grind
/-- the row at place a of the rest is put behind what is drawn -/
theorem lmat_pop {n a : Nat} {D S : List (Nat → R)} {x : Nat → R} (h : D.length + S.length ≤ n) (ha : S[a]? = some x) : det n (lmat (D ++ [x] ++ S.eraseIdx a)) = det n (lmat (D ++ S)) * sg a := by
  have hl := (List.getElem?_eq_some_iff.mp ha).1
  have e : S = S.take a ++ x :: S.drop (a + 1) := by
    have h2 := (List.getElem?_eq_some_iff.mp ha).2
    rw [← h2, ← List.drop_eq_getElem_cons hl, List.take_append_drop]
  have e2 : S.eraseIdx a = S.take a ++ S.drop (a + 1) := List.eraseIdx_eq_take_drop_succ ..
  have hlen : (S.take a).length = a := by rw [List.length_take]; omega
  have key := lmat_move (n := n) (x := x) (C := S.drop (a + 1)) (B := S.take a) (A := D) (by rw [hlen]; omega)
  rw [hlen, ← e] at key
  rw [key, e2]
  have e3 : D ++ [x] ++ (S.take a ++ S.drop (a + 1)) = D ++ x :: (S.take a ++ S.drop (a + 1)) := by simp
  rw [e3]
  have := sg_sq (R := R) a
  grind
theorem det_lmat {n : Nat} (A : Mat R) : det n (lmat ((List.range n).map A)) = det n A := det_congr fun i j hi _ => by
  unfold lmat
  rw [List.getD_eq_getElem?_getD, List.getElem?_map, List.getElem?_range hi]
  rfl
end
theorem sum_range {n : Nat} {f : Nat → Int} : ((List.range n).map f).sum = sumN n f := by
  induction n with
  | zero => rfl
  | succ n ih => rw [List.range_succ, List.map_append, List.sum_append, ih, sumN_succ]; simp
end MD

namespace LW
open PySem PySem.Spec PyProof.Rows L2 MD
/-! the tactic rows -/
local macro_rules | `(tactic| walk_at "sz") => `(tactic| first | assumption | (show _ ≤ sizeLine; rw [sizeLine_eq]; first | decide | omega | (simp; done)) | omega | decide)
local macro_rules | `(tactic| walk_at "side") => `(tactic| first | assumption | omega | exact .inl ⟨by omega, by omega⟩ | exact .inr ⟨by omega, by omega⟩ | exact ⟨by omega, by omega⟩ | exact ⟨by decide, by decide, by decide⟩ | walk_at "sz" | decide | rfl)
local macro_rules | `(tactic| walk_at "nm") => `(tactic| first | exact e_nm 0 | exact e_nm 1 | exact e_nm 2 | exact e_nm 3 | exact e_nm 4 | exact e_nm 5 | exact e_nm 6 | exact e_nm 7 | exact e_nm 8 | exact e_nm 9 | exact e_nm 10 | exact e_nm 11 | exact e_nm 12 | exact e_nm 13 | exact e_nm 14 | exact e_nm 15)
local macro_rules | `(tactic| walk_at "nmB") => `(tactic| first | exact b_nm 0 | exact b_nm 1 | exact b_nm 2 | exact b_nm 3 | exact b_nm 4 | exact b_nm 5 | exact b_nm 6 | exact b_nm 7 | exact b_nm 8 | exact b_nm 9 | exact b_nm 10 | exact b_nm 11 | exact b_nm 12 | exact b_nmM 0 | exact b_nmM 1 | exact b_nmM 2 | exact b_nmM 3 | exact b_nmM 4 | exact b_nmM 5 | exact b_nmM 6 | exact b_nmM 7 | exact b_nmM 8 | exact b_nmM 9 | exact b_nmM 10 | exact b_nmM 11 | exact b_nmM 12 | exact b_nmD 0 | exact b_nmD 1 | exact b_nmD 2 | exact b_nmD 3 | exact b_nmD 4 | exact b_nmD 5 | exact b_nmD 6 | exact b_nmD 7 | exact b_nmD 8 | exact b_nmD 9 | exact b_nmD 10 | exact b_nmD 11 | exact b_nmD 12)
local macro_rules | `(tactic| walk_at "od") => `(tactic| first
  | with_reducible exact od_add | with_reducible exact od_sub | with_reducible exact od_lt | with_reducible exact od_le | with_reducible exact od_gt | with_reducible exact od_ge | with_reducible exact od_eqI | with_reducible exact od_neI | with_reducible exact od_eqS | with_reducible exact od_neS | with_reducible exact od_isN | with_reducible exact od_notN | with_reducible exact od_isBl | with_reducible exact od_notBl
  | ((with_reducible refine' od_mulW ?hh); (case hh => assumption)) | ((with_reducible refine' od_fdivA ?hh); (case hh => assumption))
  | ((with_reducible refine' od_mul ?hh); (case hh => walk_at "side")) | ((with_reducible refine' od_mod ?hh); (case hh => walk_at "side")) | ((with_reducible refine' od_fdiv ?hh); (case hh => walk_at "side")) | ((with_reducible refine' od_pow ?hh); (case hh => walk_at "side")) | ((with_reducible refine' od_addS ?hh); (case hh => walk_at "side")) | with_reducible exact od_inS)
local macro_rules | `(tactic| walk_at "ix") => `(tactic| first | (refine' ix_l ?hh; (case hh => walk_at "at")) | (refine' ix_t ?hh; (case hh => walk_at "at")) | (refine' ix_scr ?hh; (case hh => walk_at "at")) | (refine' ix_s ?hz ?hh; (case hz => walk_at "side"); (case hh => walk_at "at")))
local macro_rules | `(tactic| walk_at "at") => `(tactic| first | assumption | rfl)
local macro_rules | `(tactic| walk_at "es") => `(tactic| first | exact a_nil | (refine' a_cons ?ha ?hb; (case ha => walk_at "e"); (case hb => walk_at "es")))
local macro_rules | `(tactic| walk_at "esB") => `(tactic| first | exact ab_nil | (refine' ab_cons ?ha ?hb; (case ha => walk_at "eB"); (case hb => walk_at "esB")))
local macro_rules | `(tactic| walk_at "eB") => `(tactic| first | (refine' EvE.b ?ha; (case ha => walk_at "nm")) | walk_at "nmB" | (refine' b_ix ?ha ?hb ?ho; (case ha => walk_at "eB"); (case hb => walk_at "eB"); (case ho => walk_at "ix")) | (refine' EvE.b ?ha; (case ha => walk_at "e")))
local macro_rules | `(tactic| walk_at "cd") => `(tactic| first | exact cd_lenE (by assumption) | exact cd_len | exact cd_lenScr | exact cd_lenT | exact cd_max | exact cd_min | exact cd_intB | exact cd_sum | exact cd_all | (refine' cd_lenS ?hh; (case hh => walk_at "sz")))
local macro_rules | `(tactic| walk_at "room") => `(tactic| first | assumption | exact Room.mono (by assumption) (by decide))
local macro_rules | `(tactic| walk_at "G") => `(tactic| (constructor <;> walk_at "side"))
local macro_rules | `(tactic| walk_at "o") => `(tactic| first | exact o_none | (refine' o_some ?ha; (case ha => walk_at "e")))
local macro_rules | `(tactic| walk_at "e") => `(tactic| first
  | exact e_int | exact e_str | exact e_bl | exact e_non
  | walk_at "nm"
  | (refine' e_bin ?ha ?hb ?ho; (case ha => walk_at "e"); (case hb => walk_at "e"); (case ho => walk_at "od"))
  | (refine' e_cmp ?ha ?hb ?ho; (case ha => walk_at "e"); (case hb => walk_at "e"); (case ho => walk_at "od"))
  | (refine' e_ix ?ha ?hb ?ho; (case ha => walk_at "e"); (case hb => walk_at "e"); (case ho => walk_at "ix"))
  | (refine' e_tup ?ha; (case ha => walk_at "es"))
  | (refine' EvL.ev (l_lst ?ha ?hz); (case ha => walk_at "es"); (case hz => decide))
  | (refine' e_neg ?ha; (case ha => walk_at "e"))
  | (refine' e_not ?ha; (case ha => walk_at "e"))
  | (refine' e_cb ?ha ?ho ?hv; (case ha => walk_at "es"); (case ho => walk_at "cd"); (case hv => decide +kernel))
  | (refine' e_cbB ?ha ?ho ?hv ?hm; (case ha => walk_at "esB"); (case ho => walk_at "cd"); (case hv => decide +kernel); (case hm => rfl))
  | (refine' e_ct ?ha ?ho ?hv; (case ha => walk_at "es"); (case ho => walk_at "cd"); (case hv => decide +kernel))
  | (refine' e_isi "int" ?ha; (case ha => walk_at "eB")) | (refine' e_isi "bool" ?ha; (case ha => walk_at "eB")) | (refine' e_isi "str" ?ha; (case ha => walk_at "eB")) | (refine' e_isi "list" ?ha; (case ha => walk_at "eB")) | (refine' e_isi "tuple" ?ha; (case ha => walk_at "eB"))
  | (refine' e_and ?ha ?hb; (case ha => walk_at "e"); (case hb => (intro _; walk_at "e")))
  | (refine' e_or ?ha ?hb; (case ha => walk_at "e"); (case hb => (intro _; walk_at "e")))
  | (refine' e_one ?ha; (case ha => walk_at "e"))
  | (refine' e_chain ?ha ?hb ?hc ?ho ?ho2; (case ha => walk_at "e"); (case hb => walk_at "e"); (case hc => walk_at "e"); (case ho => walk_at "od"); (case ho2 => walk_at "od"))
  | (refine' e_call (by assumption) (by walk_at "room") ?ha ?hG; (case ha => walk_at "es"); (case hG => walk_at "G"))
  | (refine' EvB.imm ?hm (b_ix ?ha ?hb ?ho); (case ha => walk_at "eB"); (case hb => walk_at "eB"); (case ho => walk_at "ix"); (case hm => rfl))
  | (refine' EvL.ev ?ha; (case ha => walk_at "l")))
local macro_rules | `(tactic| walk_at "l") => `(tactic| first
  | (refine' l_lst ?ha ?hz; (case ha => walk_at "es"); (case hz => decide))
  | (refine' l_list rfl ?ha; (case ha => walk_at "e"))
  | (refine' l_slice ?ha ?hb ?hc; (case ha => walk_at "e"); (case hb => walk_at "o"); (case hc => walk_at "o"))
  | (refine' l_cat ?ha ?hb ?hc; (case ha => walk_at "e"); (case hb => walk_at "e"); (case hc => walk_at "side"))
  | (refine' l_call (by assumption) (by walk_at "room") ?ha ?hG; (case ha => walk_at "es"); (case hG => walk_at "G")))
local macro_rules | `(tactic| walk_at "t") => `(tactic| first
  | (refine' t_cmp ?ha ?hb ?ho; (case ha => walk_at "e"); (case hb => walk_at "e"); (case ho => walk_at "od"))
  | (refine' t_chain ?ha ?hb ?hc ?ho ?ho2; (case ha => walk_at "e"); (case hb => walk_at "e"); (case hc => walk_at "e"); (case ho => walk_at "od"); (case ho2 => walk_at "od"))
  | (refine' t_not ?ha; (case ha => walk_at "t"))
  | (refine' EvW.t (t_and2 ?ha ?hb); (case ha => walk_at "t"); (case hb => (intro _; walk_at "t")))
  | (refine' EvW.t (t_or2 ?ha ?hb); (case ha => walk_at "t"); (case hb => (intro _; walk_at "t")))
  | (refine' EvW.t (t_and3 ?ha ?hb ?hc); (case ha => walk_at "t"); (case hb => (intro _; walk_at "t")); (case hc => (intro _ _; walk_at "t")))
  | (refine' EvW.t (t_or3 ?ha ?hb ?hc); (case ha => walk_at "t"); (case hb => (intro _; walk_at "t")); (case hc => (intro _ _; walk_at "t")))
  | (refine' t_val ?ha ?he; (case ha => walk_at "e"); (case he => (intro _; rfl))))
local macro_rules | `(tactic| walk_at "=0") => `(tactic| refine' s_val (ae 0 ?he) ?_)
local macro_rules | `(tactic| walk_at "eLen") => `(tactic| (refine' e_cbB ?ha ?ho ?hv ?hm; (case ha => walk_at "esB"); (case ho => exact cd_lenE (by assumption)); (case hv => decide +kernel); (case hm => rfl)))

def top (i : Nat) : Stmt := PySem.Challenge.pw_lonewalks_k06_determinants_made.main.body.getD i (.Pass ⟨0, 0, 0, 0⟩)
abbrev FnP (K : PySem.W.Frag) (x : Str) (st : Stmt) (f : Addr) (fd : FuncData) : Prop := FunD K x x (defArgs st) (defBody st) (defScope st) [] [] f fd

section
variable {P : Program} {w : World} {K : PySem.W.Frag} {mg : Str → Option Value} {base : Heap} {f : Addr} {fd : FuncData}
abbrev N_cell_at : List Str := ["script", "k"]
abbrev s_cell_at : Stmt := top 4
theorem sc_cell_at : FnScope N_cell_at ["script", "k"] (defScope s_cell_at) := ⟨rfl, rfl, rfl, by decide +kernel, rfl, by decide +kernel, by decide +kernel⟩
inductive GCell : GR
  | mk (ns : List Int) (k : Int) (h : 0 ≤ k) : GCell [.scr ns, .int k] (.val (.int (cellAt ns k)))
theorem ok_cell_at (F : FnP K "_law_cell_at" s_cell_at f fd) (ml : mg "len" = none) : FnOk P w K mg base (L2.CX P w) 1 f fd ["script", "k"] (spD K GCell) := by
  refine fn_ok F sc_cell_at (by intro ds r g; cases g; rfl) fun cdv A outer s H E ds r hr g hp => ?_
  have nd : N_cell_at.Nodup := sc_cell_at.nd
  cases g with
  | mk ns k h =>
    refine s_cons (s_if (by walk_at "t") (fun e => ?_) fun e => ?_)
    · have hk : k < (ns.length : Int) := of_decide_eq_true e
      have ha : atI ns k = some (cellAt ns k) := by
        obtain ⟨j, rfl⟩ := Int.eq_ofNat_of_zero_le h
        have hj : j < ns.length := by omega
        rw [atI_nat (List.getElem?_eq_getElem hj)]
        unfold cellAt
        rw [if_pos h, Int.toNat_natCast, List.getD_eq_getElem?_getD, List.getElem?_eq_getElem hj]
        rfl
      refine s_one (s_ret (by walk_at "e") ?_)
      rfl
    · have hk : ¬ k < (ns.length : Int) := of_decide_eq_false e
      refine s_nil ?_
      refine s_one (s_ret e_int ?_)
      show Res.val (.int 0) = .val (.int (cellAt ns k))
      unfold cellAt
      rw [if_pos h, List.getD_eq_getElem?_getD, List.getElem?_eq_none (by omega)]
      rfl
abbrev N_mix : List Str := ["cell", "k", "many", "some", "number"]
abbrev s_mix : Stmt := top 5
theorem sc_mix : FnScope N_mix ["cell", "k", "many"] (defScope s_mix) := ⟨rfl, rfl, rfl, by decide +kernel, rfl, by decide +kernel, by decide +kernel⟩
inductive GMix : GR
  | mk (cell k many : Int) (h0 : 0 ≤ k) (h1 : k ≤ 1000000) (hm : 0 < many) : GMix [.int cell, .int k, .int many] (.val (.int (mixI cell k many)))
theorem ok_mix (F : FnP K "_law_mix" s_mix f fd) : FnOk P w K mg base (L2.CX P w) 1 f fd ["cell", "k", "many"] (spD K GMix) := by
  refine fn_ok F sc_mix (by intro ds r g; cases g; rfl) fun cdv A outer s H E ds r hr g hp => ?_
  have nd : N_mix.Nodup := sc_mix.nd
  cases g with
  | mk cell k many h0 h1 hm =>
    have hs := mixS_at k
    refine s_cons (s_val (ae 3 (by walk_at "e")) (s_cons (s_val (ae 4 (by walk_at "e")) ?_)))
    refine s_cons (s_val (ae 4 (by walk_at "e")) (s_one (s_ret (by walk_at "e") ?_)))
    rfl
end

section
variable {P : Program} {w : World} {K : PySem.W.Frag} {mg : Str → Option Value} {base : Heap} {f : Addr} {fd : FuncData}
abbrev N_whole : List Str := ["found"]
abbrev s_whole : Stmt := top 6
theorem sc_whole : FnScope N_whole ["found"] (defScope s_whole) := ⟨rfl, rfl, rfl, by decide +kernel, rfl, by decide +kernel, by decide +kernel⟩
inductive GWhole : GR
  | mk (d : Dt) (h : tyN d ≠ "?") : GWhole [d] (.val (.bl (wholeD d)))
theorem ok_whole (F : FnP K "_law_whole" s_whole f fd) (mi : mg "isinstance" = none) (mt : mg "int" = none) (mb : mg "bool" = none) : FnOk P w K mg base (L2.CX P w) 1 f fd ["found"] (spD K GWhole) := by
  refine fn_ok F sc_whole (by intro ds r g; cases g; rfl) fun cdv A outer s H E ds r hr g hp => ?_
  have nd : N_whole.Nodup := sc_whole.nd
  cases g with
  | mk d h =>
    exact s_one (s_ret (e_and (e_isi "int" (e_nm 0).b (hn := h)) fun _ => e_one (e_not (e_isi "bool" (e_nm 0).b (hn := h)))) rfl)
end

section
variable {P : Program} {w : World} {K : PySem.W.Frag} {mg : Str → Option Value} {base : Heap} {f : Addr} {fd : FuncData}
abbrev N_pivot : List Str := ["rows", "k", "at"]
abbrev s_pivot : Stmt := top 1
theorem sc_pivot : FnScope N_pivot ["rows", "k"] (defScope s_pivot) := ⟨rfl, rfl, rfl, by decide +kernel, rfl, by decide +kernel, by decide +kernel⟩
inductive GPivot : GR
  | mk (n : Nat) (T : Nat → Nat → Int) (k : Nat) (hk : k < n) (hn : n ≤ 1000) : GPivot [tabD n T, .int (k : Int)] (.val (.int (pivI n T k)))
theorem ok_pivot (F : FnP K "pivot" s_pivot f fd) (ml : mg "len" = none) (mr : mg "range" = none) : FnOk P w K mg base (L2.CX P w) 1 f fd ["rows", "k"] (spD K GPivot) := by
  refine fn_ok F sc_pivot (by intro ds r g; cases g; rfl) fun cdv A outer s H E ds r hr g hp => ?_
  have nd : N_pivot.Nodup := sc_pivot.nd
  cases g with
  | mk n T k hk hn =>
    have hl : ((tabL n T).length : Int) = n := congrArg _ tabL_len
    refine s_cons (s_for (i_range2 (m := (k : Int)) (n := (n : Int)) (by walk_at "e") (by walk_at "e") (by omega)) (fun i ss => (∃ x, ss = [.val (tabD n T), .val (.int k), x]) ∧ ∀ s, s < i → T (k + s) k = 0) ⟨⟨_, rfl⟩, by intro s hs; omega⟩ (fun i d s hd hI => ?_) (fun s hI => ?_))
    · obtain ⟨⟨x, rfl⟩, hz⟩ := hI
      obtain ⟨hi, rfl⟩ := rngD_get hd
      have h1 : atI (tabL n T) ((k : Int) + (i : Int)) = some (.lst (tabR n T (k + i))) := tabL_at (i := k + i) (by omega)
      have h2 : atI (tabR n T (k + i)) (k : Int) = some (.int (T (k + i) k)) := tabR_at hk
      refine ⟨[2], _, g_nm 2, s_one (s_if (by walk_at "t") (fun e => ?_) fun e => ?_)⟩
      · refine s_one (s_ret (by walk_at "e") ?_)
        have e : T (k + i) k ≠ 0 := by simpa using e
        show Res.val (.int ((k : Int) + (i : Int))) = .val (.int (pivI n T k))
        rw [pivI_hit (by omega) hz e]
        rfl
      · have e : T (k + i) k = 0 := by simpa using e
        refine s_nil ⟨⟨_, rfl⟩, fun s hs => ?_⟩
        by_cases z : s = i
        · rw [z]; exact e
        · exact hz s (by omega)
    · obtain ⟨⟨x, rfl⟩, hz⟩ := hI
      rw [rngD_len] at hz
      refine s_one (s_ret (by walk_at "e") ?_)
      show Res.val (.int (-1)) = .val (.int (pivI n T k))
      rw [pivI_none fun s hs => hz s (by omega)]
end
section
variable {P : Program} {w : World} {K : PySem.W.Frag} {mg : Str → Option Value} {base : Heap} {f : Addr} {fd : FuncData}
abbrev N_det : List Str := ["square", "rows", "found", "ahead", "k", "at", "kept", "i", "j", "row"]
abbrev s_det : Stmt := top 2
theorem sc_det : FnScope N_det ["square"] (defScope s_det) := ⟨rfl, rfl, rfl, by decide +kernel, rfl, by decide +kernel, by decide +kernel⟩
inductive GDet : GR
  | mk (n : Nat) (T : Nat → Nat → Int) (hn : n ≤ 1000) (hz : Szd n T) : GDet [tabD n T] (.val (.int (det n T)))
theorem ok_det (F : FnP K "det" s_det f fd) (ml : mg "len" = none) (mr : mg "range" = none) (mli : mg "list" = none) (fp : Fn P w K mg base 1 "pivot" GPivot) : FnOk P w K mg base (L2.CX P w) 2 f fd ["square"] (spD K GDet) := by
  refine fn_ok F sc_det (by intro ds r g; cases g; rfl) fun cdv A outer s H E ds r hr g hp => ?_
  have nd : N_det.Nodup := sc_det.nd
  have fp : Fn (cxOf (L2.CX P w) P w K mg base N_det "det" (defScope s_det) f cdv A outer s H E).prog w K mg base 1 "pivot" GPivot := fp
  cases g with
  | mk n A0 hn hz =>
    have hl : ∀ T, ((tabL n T).length : Int) = n := fun T => congrArg _ tabL_len
    refine s_cons (s_mat (am 1 (own := [("row", 9)]) (xs := tab n A0) (enc := .lst) (f := id) (ok := blkOk_by (by kernel_rfl)) (i_list (by walk_at "e")) ⟨fun r hr => ⟨[9], _, by simp, fun _ _ _ _ _ => g_nm 9, fun _ _ _ _ _ => l_list rfl (e_nm 9)⟩⟩ (by rw [tab_len]; omega)) ?_)
    rw [List.map_id]
    refine s_cons (s_val (ae 2 (by walk_at "e")) (s_cons (s_val (ae 3 (by walk_at "e")) ?_)))
    have hl0 := hl A0
    refine s_consI (fun ss => ∃ T found ahead x4 x5 x6 x7 x8 x9, ss = [.val (tabD n A0), .mat (tab n T), .val (.int found), .val (.int ahead), x4, x5, x6, x7, x8, x9] ∧ BInv n n A0 T found ahead)
      (s_for (i_range1 (n := (n : Int)) (by walk_at "eLen") (by omega) (by omega)) (fun k ss => ∃ T found ahead x4 x5 x6 x7 x8 x9, ss = [.val (tabD n A0), .mat (tab n T), .val (.int found), .val (.int ahead), x4, x5, x6, x7, x8, x9] ∧ BInv n k A0 T found ahead)
        ⟨A0, 1, 1, _, _, _, _, _, _, rfl, .start A0⟩ (fun k d s hd hI => ?_) (fun s hI => ?_)) (fun s hI => ?_)
    · obtain ⟨T, found, ahead, x4, x5, x6, x7, x8, x9, rfl, h⟩ := hI
      obtain ⟨hk, rfl⟩ := rngD0_get hd
      have hk : k < n := by omega
      refine ⟨[4], _, g_nm 4, s_cons (s_val (ae 5 (e_callB fp hr (ab_cons (b_nmM 1) (ab_cons (e_nm 4).b ab_nil)) (.mk n T k hk hn))) ?_)⟩
      obtain ⟨z1, z2, z3⟩ := hz.lt h (by omega)
      rcases pivI_spec n T k with ⟨ep, h0⟩ | ⟨a, ep, h1, h2, h3⟩
      · rw [ep]
        refine s_cons (s_if (by walk_at "t") (fun e => ?_) fun e => ?_)
        · refine s_one (s_ret (by walk_at "e") ?_)
          show Res.val (.int 0) = .val (.int (det n A0))
          rw [h.none hk h0]
        · cases e
      · rw [ep]
        refine s_cons (s_if (by walk_at "t") (fun e => ?_) fun e => ?_)
        · have := of_decide_eq_true e
          omega
        refine s_nil ?_
        refine s_consI (fun ss => ∃ T found x6 x7 x8 x9, ss = [.val (tabD n A0), .mat (tab n T), .val (.int found), .val (.int ahead), .val (.int k), .val (.int a), x6, x7, x8, x9] ∧ BInv n k A0 T found ahead ∧ T k k ≠ 0)
          (s_if (by walk_at "t") (fun e => ?_) fun e => ?_) (fun s hI => ?_)
        · have e : a ≠ k := by
            intro z
            subst z
            simp at e
          refine s_swapM 1 6 (e_nm 4) (e_nm 5) (e_nm 4) (e_nm 5) (by omega) (by omega) (by omega) (tab_get hk) (tab_get h2) (rows2 := tab n (swapRow T k a)) (tab_swap hk h2) ?_
          refine s_cons (s_val (ae 2 (by walk_at "e")) (s_nil ⟨_, _, _, _, _, _, rfl, h.swap hk (by omega) h2, ?_⟩))
          unfold swapRow
          rw [if_pos rfl]
          exact h3
        · have e : a = k := by
            have : (a : Int) = k := by simpa using e
            omega
          subst e
          exact s_nil ⟨_, _, _, _, _, _, rfl, h, h3⟩
        · obtain ⟨T, found, x6, x7, x8, x9, rfl, h, hp0⟩ := hI
          obtain ⟨z1, z2, z3⟩ := hz.lt h (by omega)
          have hlT := hl T
          refine s_consI (fun ss => ∃ x6 x7 x8 x9, ss = [.val (tabD n A0), .mat (tab n (bStep k T ahead)), .val (.int found), .val (.int ahead), .val (.int k), .val (.int a), x6, x7, x8, x9])
            (s_for (i_range2 (m := (k : Int) + 1) (n := (n : Int)) (by walk_at "e") (by walk_at "eLen") (by omega)) (fun r ss => ∃ x6 x7 x8 x9, ss = [.val (tabD n A0), .mat (tab n (bPart k T ahead (k + 1 + r) 0)), .val (.int found), .val (.int ahead), .val (.int k), .val (.int a), x6, x7, x8, x9])
              ⟨x6, x7, x8, x9, by rw [Nat.add_zero, bPart_start]⟩ (fun r d s hd hI => ?_) (fun s hI => ?_)) (fun s hI => ?_)
          · obtain ⟨x6, x7, x8, x9, rfl⟩ := hI
            obtain ⟨hri, ed⟩ := rngD_get hd
            obtain ⟨i, ei⟩ : ∃ i, i = k + 1 + r := ⟨_, rfl⟩
            have ed : d = .int (i : Int) := ed.trans (congrArg _ (by omega))
            subst ed
            rw [← ei]
            have hin : i < n := by omega
            have hki : k < i := by omega
            have hlR := hl (bPart k T ahead i 0)
            refine ⟨[7], _, g_nm 7, s_one (s_for (i_range2 (m := (k : Int) + 1) (n := (n : Int)) (by walk_at "e") (by walk_at "eLen") (by omega)) (fun r ss => ∃ x8 x9, ss = [.val (tabD n A0), .mat (tab n (bPart k T ahead i (k + 1 + r))), .val (.int found), .val (.int ahead), .val (.int k), .val (.int a), x6, .val (.int i), x8, x9])
              ⟨x8, x9, by rw [Nat.add_zero, bPart_row]; rfl⟩ (fun r d s hd hI => ?_) (fun s hI => ?_))⟩
            · obtain ⟨x8, x9, rfl⟩ := hI
              obtain ⟨hrj, ed⟩ := rngD_get hd
              obtain ⟨j, ej⟩ : ∃ j, j = k + 1 + r := ⟨_, rfl⟩
              have ed : d = .int (j : Int) := ed.trans (congrArg _ (by omega))
              subst ed
              rw [← ej]
              have hjn : j < n := by omega
              have hkj : k < j := by omega
              have e4 : k + 1 + (r + 1) = j + 1 := by omega
              have m1 : CMulW (T i j) (T k k) := mulW_of (z1 i j (by omega) hin (by omega) hjn) (z1 k k (by omega) hk (by omega) hk)
              have m2 : CMulW (T i k) (T k j) := mulW_of (z1 i k (by omega) hin (by omega) hk) (z1 k j (by omega) hk (by omega) hjn)
              have m3 : CDivA (T i j * T k k - T i k * T k j) ahead := divA_of z2 z3
              have f1 : atI (tabL n (bPart k T ahead i j)) (i : Int) = some (.lst (tabR n (bPart k T ahead i j) i)) := tabL_at hin
              have f2 : atI (tabL n (bPart k T ahead i j)) (k : Int) = some (.lst (tabR n (bPart k T ahead i j) k)) := tabL_at hk
              have f3 : atI (tabR n (bPart k T ahead i j) i) (j : Int) = some (.int (T i j)) := (tabR_at hjn).trans (by rw [bPart_no (by omega)])
              have f4 : atI (tabR n (bPart k T ahead i j) i) (k : Int) = some (.int (T i k)) := (tabR_at hk).trans (by rw [bPart_up (by omega)])
              have f5 : atI (tabR n (bPart k T ahead i j) k) (j : Int) = some (.int (T k j)) := (tabR_at hjn).trans (by rw [bPart_up (by omega)])
              have f6 : atI (tabR n (bPart k T ahead i j) k) (k : Int) = some (.int (T k k)) := (tabR_at hk).trans (by rw [bPart_up (by omega)])
              refine ⟨[8], _, g_nm 8, s_one (s_setM 1 (d := .int ((T i j * T k k - T i k * T k j).fdiv ahead)) (I := (i : Int)) (J := (j : Int)) (e_bin (e_bin (e_bin (EvB.imm rfl (b_ix (b_ix (b_nmM 1) (e_nm 7).b (ix_l f1)) (e_nm 8).b (ix_l f3))) (EvB.imm rfl (b_ix (b_ix (b_nmM 1) (e_nm 4).b (ix_l f2)) (e_nm 4).b (ix_l f6))) (od_mulW m1)) (e_bin (EvB.imm rfl (b_ix (b_ix (b_nmM 1) (e_nm 7).b (ix_l f1)) (e_nm 4).b (ix_l f4))) (EvB.imm rfl (b_ix (b_ix (b_nmM 1) (e_nm 4).b (ix_l f2)) (e_nm 8).b (ix_l f5))) (od_mulW m2)) od_sub) (e_nm 3) (od_fdivA m3)) (e_nm 7) (e_nm 8) (by omega) (by omega) (tab_get hin) (by rw [tabR_len]; omega) (bPart_set hin hjn hki hkj rfl) ?_)⟩
              exact ⟨_, _, by rw [e4]; rfl⟩
            · obtain ⟨x8, x9, rfl⟩ := hI
              rw [rngD_len]
              have e5 : k + 1 + ((n : Int) - ((k : Int) + 1)).toNat = n := by omega
              rw [e5, bPart_rowEnd]
              exact ⟨_, _, _, _, by rw [ei]; rfl⟩
          · obtain ⟨x6, x7, x8, x9, rfl⟩ := hI
            rw [rngD_len]
            rw [bPart_end (by omega)]
            exact ⟨_, _, _, _, rfl⟩
          · obtain ⟨x6, x7, x8, x9, rfl⟩ := hI
            have f2 : atI (tabL n (bStep k T ahead)) (k : Int) = some (.lst (tabR n (bStep k T ahead) k)) := tabL_at hk
            have f6 : atI (tabR n (bStep k T ahead) k) (k : Int) = some (.int (T k k)) := (tabR_at hk).trans (by unfold bStep; rw [if_neg (by omega)])
            refine s_one (s_val (ae 3 (EvB.imm rfl (b_ix (b_ix (b_nmM 1) (e_nm 4).b (ix_l f2)) (e_nm 4).b (ix_l f6)))) ⟨_, _, _, _, _, _, _, _, _, rfl, h.step hk hp0⟩)
    · obtain ⟨T, found, ahead, x4, x5, x6, x7, x8, x9, rfl, h⟩ := hI
      rw [rngD_len] at h
      exact ⟨T, found, ahead, x4, x5, x6, x7, x8, x9, rfl, h⟩
    · obtain ⟨T, found, ahead, x4, x5, x6, x7, x8, x9, rfl, h⟩ := hI
      obtain ⟨_, l1, l2⟩ := hz.lt h (Nat.le_refl n)
      have hm : CMulW found ahead := mulW_of (by rcases bsgn h with e | e <;> subst e <;> decide) l1
      refine s_one (s_ret (by walk_at "e") ?_)
      show Res.val (.int (found * ahead)) = .val (.int (det n A0))
      rw [h.done]
end

section
variable {P : Program} {w : World} {K : PySem.W.Frag} {mg : Str → Option Value} {base : Heap} {f : Addr} {fd : FuncData}
def lowI (cell j k : Int) : Int := if j = k then 1 else if j < k then 0 else mixI cell (9 * j + k) 5 - 2
def highI (cell j k : Int) : Int := if j = k then mixI cell (200 + j) 8 - 2 else if k < j then 0 else mixI cell (100 + 9 * j + k) 5 - 2
abbrev N_low : List Str := ["cell", "j", "k"]
abbrev s_low : Stmt := top 7
theorem sc_low : FnScope N_low ["cell", "j", "k"] (defScope s_low) := ⟨rfl, rfl, rfl, by decide +kernel, rfl, by decide +kernel, by decide +kernel⟩
inductive GLow : GR
  | mk (cell j k : Int) (h0 : 0 ≤ j) (h1 : j ≤ 100) (h2 : 0 ≤ k) (h3 : k ≤ 100) : GLow [.int cell, .int j, .int k] (.val (.int (lowI cell j k)))
theorem ok_low (F : FnP K "_law_low" s_low f fd) (fm : Fn P w K mg base 1 "_law_mix" GMix) : FnOk P w K mg base (L2.CX P w) 2 f fd ["cell", "j", "k"] (spD K GLow) := by
  refine fn_ok F sc_low (by intro ds r g; cases g; rfl) fun cdv A outer s H E ds r hr g hp => ?_
  have nd : N_low.Nodup := sc_low.nd
  cases g with
  | mk cell j k h0 h1 h2 h3 =>
    refine s_cons (s_if (by walk_at "t") (fun e => ?_) fun e => s_nil ?_)
    · refine s_one (s_ret (by walk_at "e") ?_)
      show Res.val _ = .val (.int (lowI cell j k))
      unfold lowI
      rw [if_pos (of_decide_eq_true e)]
    refine s_cons (s_if (by walk_at "t") (fun e2 => ?_) fun e2 => s_nil ?_)
    · refine s_one (s_ret (by walk_at "e") ?_)
      show Res.val _ = .val (.int (lowI cell j k))
      unfold lowI
      rw [if_neg (of_decide_eq_false e), if_pos (of_decide_eq_true e2)]
    · refine s_one (s_ret (by walk_at "e") ?_)
      show Res.val _ = .val (.int (lowI cell j k))
      unfold lowI
      rw [if_neg (of_decide_eq_false e), if_neg (of_decide_eq_false e2)]
abbrev N_high : List Str := ["cell", "j", "k"]
abbrev s_high : Stmt := top 8
theorem sc_high : FnScope N_high ["cell", "j", "k"] (defScope s_high) := ⟨rfl, rfl, rfl, by decide +kernel, rfl, by decide +kernel, by decide +kernel⟩
inductive GHigh : GR
  | mk (cell j k : Int) (h0 : 0 ≤ j) (h1 : j ≤ 100) (h2 : 0 ≤ k) (h3 : k ≤ 100) : GHigh [.int cell, .int j, .int k] (.val (.int (highI cell j k)))
theorem ok_high (F : FnP K "_law_high" s_high f fd) (fm : Fn P w K mg base 1 "_law_mix" GMix) : FnOk P w K mg base (L2.CX P w) 2 f fd ["cell", "j", "k"] (spD K GHigh) := by
  refine fn_ok F sc_high (by intro ds r g; cases g; rfl) fun cdv A outer s H E ds r hr g hp => ?_
  have nd : N_high.Nodup := sc_high.nd
  cases g with
  | mk cell j k h0 h1 h2 h3 =>
    refine s_cons (s_if (by walk_at "t") (fun e => ?_) fun e => s_nil ?_)
    · refine s_one (s_ret (by walk_at "e") ?_)
      show Res.val _ = .val (.int (highI cell j k))
      unfold highI
      rw [if_pos (of_decide_eq_true e)]
    refine s_cons (s_if (by walk_at "t") (fun e2 => ?_) fun e2 => s_nil ?_)
    · refine s_one (s_ret (by walk_at "e") ?_)
      show Res.val _ = .val (.int (highI cell j k))
      unfold highI
      rw [if_neg (of_decide_eq_false e), if_pos (of_decide_eq_true e2)]
    · refine s_one (s_ret (by walk_at "e") ?_)
      show Res.val _ = .val (.int (highI cell j k))
      unfold highI
      rw [if_neg (of_decide_eq_false e), if_neg (of_decide_eq_false e2)]
/-! law -/
theorem lowI_b (c j k : Int) : -2 ≤ lowI c j k ∧ lowI c j k ≤ 2 := by
  unfold lowI
  have h1 := mixI_lo (cell := c) (k := 9 * j + k) (many := 5) (by decide)
  have h2 := mixI_hi (cell := c) (k := 9 * j + k) (many := 5) (by decide)
  split
  · omega
  · split <;> omega
theorem highI_b (c j k : Int) : -2 ≤ highI c j k ∧ highI c j k ≤ 5 := by
  unfold highI
  have h1 := mixI_lo (cell := c) (k := 200 + j) (many := 8) (by decide)
  have h2 := mixI_hi (cell := c) (k := 200 + j) (many := 8) (by decide)
  have h3 := mixI_lo (cell := c) (k := 100 + 9 * j + k) (many := 5) (by decide)
  have h4 := mixI_hi (cell := c) (k := 100 + 9 * j + k) (many := 5) (by decide)
  split
  · omega
  · split <;> omega
theorem natAbs_mul_le {a b : Int} {m n : Nat} (h1 : a.natAbs ≤ m) (h2 : b.natAbs ≤ n) : (a * b).natAbs ≤ m * n := by
  rw [Int.natAbs_mul]
  exact Nat.mul_le_mul h1 h2
def rowV (n : Nat) (v : Nat → Int) : Dt := .lst ((List.range n).map fun j => .int (v j))
theorem tabL_rows {n : Nat} {Rs : List (Nat → Int)} (h : Rs.length = n) : Rs.map (rowV n) = tabL n (lmat Rs) := by
  refine ext_get fun i => ?_
  by_cases hi : i < n
  · rw [tabL_get hi, List.getElem?_map, List.getElem?_eq_getElem (by omega)]
    show some (rowV n Rs[i]) = some (.lst (tabR n (lmat Rs) i))
    unfold rowV tabR lmat
    rw [List.getD_eq_getElem?_getD, List.getElem?_eq_getElem (by omega)]
    rfl
  · rw [List.getElem?_eq_none (by rw [List.length_map]; omega), List.getElem?_eq_none (by rw [tabL_len]; omega)]
abbrev N_law : List Str := ["script", "size", "low", "high", "due", "square", "j", "drawn", "k", "at", "found", "m"]
abbrev s_law : Stmt := top 9
theorem sc_law : FnScope N_law ["script"] (defScope s_law) := ⟨rfl, rfl, rfl, by decide +kernel, rfl, by decide +kernel, by decide +kernel⟩
inductive GLaw : GR
  | mk (ns : List Int) : GLaw [.scr ns] (.val (.bl true))
theorem eraseIdx_map {α β : Type} (g : α → β) : ∀ (xs : List α) (a : Nat), (xs.eraseIdx a).map g = (xs.map g).eraseIdx a
  | [], _ => rfl
  | _ :: _, 0 => rfl
  | x :: xs, a + 1 => congrArg (g x :: ·) (eraseIdx_map g xs a)
theorem small8 {n : Nat} (hn : n ≤ 8) {T : Nat → Nat → Int} (h : ∀ i j, (T i j).natAbs ≤ 80) : Szd n T := by
  refine ⟨80, by decide, fun i j _ => h i j, ?_⟩
  have h1 := fac_le (B := 80) hn (by decide)
  exact Nat.lt_of_le_of_lt h1 (by decide +kernel)
theorem ok_law (F : FnP K "law" s_law f fd) (ml : mg "len" = none) (mr : mg "range" = none) (ms : mg "sum" = none) (fc : Fn P w K mg base 1 "_law_cell_at" GCell) (fm : Fn P w K mg base 1 "_law_mix" GMix) (flo : Fn P w K mg base 2 "_law_low" GLow) (fhi : Fn P w K mg base 2 "_law_high" GHigh) (fw : Fn P w K mg base 1 "_law_whole" GWhole)
    (fdet : Fn P w K mg base 2 "det" GDet) : FnOk P w K mg base (L2.CX P w) 3 f fd ["script"] (spD K GLaw) := by
  refine fn_ok F sc_law (by intro ds r g; cases g; rfl) fun cdv A outer s H E ds r hr g hp => ?_
  have nd : N_law.Nodup := sc_law.nd
  have hr1 : Room 1 (A.deeper (envOfC "law" (defScope s_law) s.heap.objs.size f cdv)) := hr.mono (by decide)
  cases g with
  | mk ns =>
    refine s_cons (s_val (ae 1 (by walk_at "e")) ?_)
    obtain ⟨n, hn⟩ : ∃ n : Nat, 1 + cellAt ns 0 % 8 = (n : Int) := by
      have := Int.emod_nonneg (cellAt ns 0) (b := 8) (by decide)
      exact ⟨(1 + cellAt ns 0 % 8).toNat, by omega⟩
    have hn8 : n ≤ 8 ∧ 1 ≤ n := by
      have := Int.emod_lt_of_pos (cellAt ns 0) (b := 8) (by decide)
      have := Int.emod_nonneg (cellAt ns 0) (b := 8) (by decide)
      omega
    rw [hn]
    refine s_consI (fun ss => ∃ L x3 x4 x5 x6 x7 x8 x9 x10 x11, ss = [.val (.scr ns), .val (.int n), .val (tabD n L), x3, x4, x5, x6, x7, x8, x9, x10, x11] ∧ (∀ i, L i i = 1) ∧ (∀ i j, i < j → L i j = 0) ∧ ∀ i j, -2 ≤ L i j ∧ L i j ≤ 2)
      (s_val (ae 2 (EvL.ev (EvL.is (l_comp (own := [("j", 6)]) (xs := List.range n) (enc := fun (j : Nat) => .int (j : Int)) (cond := fun _ => true) (f := fun j => .lst (tabR n (fun i k => lowI (cellAt ns 1) (i : Int) (k : Int)) j)) (ok := blkOk_by (by kernel_rfl))
        (i_is (i_range1 (n := (n : Int)) (e_nm 1) (by omega) (by omega)) rngD_nat)
        ⟨fun j hj => ⟨[6], _, by simp, fun _ _ _ _ _ => g_nm 6, fun _ _ _ _ _ => ts_nil, fun _ _ _ _ _ _ => (EvL.is (l_comp (own := [("k", 8)]) (xs := List.range n) (enc := fun (k : Nat) => .int (k : Int)) (cond := fun _ => true) (f := fun (k : Nat) => .int (lowI (cellAt ns 1) (j : Int) (k : Int))) (ok := blkOk_by (by kernel_rfl))
          (i_is (i_range1 (n := (n : Int)) (e_nm 1) (by omega) (by omega)) rngD_nat)
          ⟨fun k hk => ⟨[8], _, by simp, fun _ _ _ _ _ => g_nm 8, fun _ _ _ _ _ => ts_nil, fun _ _ _ _ _ _ => by
            have := List.mem_range.mp hj
            have := List.mem_range.mp hk
            walk_at "e"⟩⟩ (by rw [List.length_range]; omega)) filter_all).ev⟩⟩ (by rw [List.length_range]; omega)) (filter_all.trans tabL_eq.symm)))) ⟨_, _, _, _, _, _, _, _, _, _, rfl, fun i => ?_, fun i j h => ?_, fun i j => lowI_b _ _ _⟩) (fun s hI => ?_)
    · show lowI _ _ _ = 1
      unfold lowI
      rw [if_pos rfl]
    · show lowI _ _ _ = 0
      unfold lowI
      rw [if_neg (by omega), if_pos (by omega)]
    obtain ⟨L, x3, x4, x5, x6, x7, x8, x9, x10, x11, rfl, hL1, hL0, hLb⟩ := hI
    refine s_consI (fun ss => ∃ U x4 x5 x6 x7 x8 x9 x10 x11, ss = [.val (.scr ns), .val (.int n), .val (tabD n L), .val (tabD n U), x4, x5, x6, x7, x8, x9, x10, x11] ∧ (∀ i j, j < i → U i j = 0) ∧ ∀ i j, -2 ≤ U i j ∧ U i j ≤ 5)
      (s_val (ae 3 (EvL.ev (EvL.is (l_comp (own := [("j", 6)]) (xs := List.range n) (enc := fun (j : Nat) => .int (j : Int)) (cond := fun _ => true) (f := fun j => .lst (tabR n (fun i k => highI (cellAt ns 2) (i : Int) (k : Int)) j)) (ok := blkOk_by (by kernel_rfl))
        (i_is (i_range1 (n := (n : Int)) (e_nm 1) (by omega) (by omega)) rngD_nat)
        ⟨fun j hj => ⟨[6], _, by simp, fun _ _ _ _ _ => g_nm 6, fun _ _ _ _ _ => ts_nil, fun _ _ _ _ _ _ => (EvL.is (l_comp (own := [("k", 8)]) (xs := List.range n) (enc := fun (k : Nat) => .int (k : Int)) (cond := fun _ => true) (f := fun (k : Nat) => .int (highI (cellAt ns 2) (j : Int) (k : Int))) (ok := blkOk_by (by kernel_rfl))
          (i_is (i_range1 (n := (n : Int)) (e_nm 1) (by omega) (by omega)) rngD_nat)
          ⟨fun k hk => ⟨[8], _, by simp, fun _ _ _ _ _ => g_nm 8, fun _ _ _ _ _ => ts_nil, fun _ _ _ _ _ _ => by
            have := List.mem_range.mp hj
            have := List.mem_range.mp hk
            walk_at "e"⟩⟩ (by rw [List.length_range]; omega)) filter_all).ev⟩⟩ (by rw [List.length_range]; omega)) (filter_all.trans tabL_eq.symm)))) ⟨_, _, _, _, _, _, _, _, _, rfl, fun i j h => ?_, fun i j => highI_b _ _ _⟩) (fun s hI => ?_)
    · show highI _ _ _ = 0
      unfold highI
      rw [if_neg (by omega), if_pos (by omega)]
    obtain ⟨U, x4, x5, x6, x7, x8, x9, x10, x11, rfl, hU0, hUb⟩ := hI
    obtain ⟨Pm, hP⟩ : ∃ Pm : Nat → Nat → Int, Pm = fun i j => sumN n fun m => L i m * U m j := ⟨_, rfl⟩
    refine s_cons (s_val (ae 4 e_int) (s_cons (s_own (al 5 (l_lst a_nil)) ?_)))
    refine s_consI (fun ss => ∃ x6 x7 x8 x9 x10 x11, ss = [.val (.scr ns), .val (.int n), .val (tabD n L), .val (tabD n U), .val (.int (prodN n fun i => U i i)), .lst (((List.range n).map Pm).map (rowV n)), x6, x7, x8, x9, x10, x11])
      (s_for (i_range1 (n := (n : Int)) (e_nm 1) (by omega) (by omega)) (fun j ss => ∃ x6 x7 x8 x9 x10 x11, ss = [.val (.scr ns), .val (.int n), .val (tabD n L), .val (tabD n U), .val (.int (prodN j fun i => U i i)), .lst (((List.range j).map Pm).map (rowV n)), x6, x7, x8, x9, x10, x11])
        ⟨_, _, _, _, _, _, rfl⟩ (fun j d s hd hI => ?_) (fun s hI => ?_)) (fun s hI => ?_)
    · obtain ⟨x6, x7, x8, x9, x10, x11, rfl⟩ := hI
      obtain ⟨hj, rfl⟩ := rngD0_get hd
      have hj : j < n := by omega
      have f1 : atI (tabL n U) (j : Int) = some (.lst (tabR n U j)) := tabL_at hj
      have f2 : atI (tabR n U j) (j : Int) = some (.int (U j j)) := tabR_at hj
      have hu := hUb j j
      refine ⟨[6], _, g_nm 6, s_cons (s_val (ae 4 (by walk_at "e")) ?_)⟩
      refine s_one (s_app 5 (EvL.ev (EvL.is (l_comp (own := [("k", 8)]) (xs := List.range n) (enc := fun (k : Nat) => .int (k : Int)) (cond := fun _ => true) (f := fun (k : Nat) => .int (Pm j k)) (ok := blkOk_by (by kernel_rfl))
          (i_is (i_range1 (n := (n : Int)) (e_nm 1) (by omega) (by omega)) rngD_nat)
          ⟨fun k hk => ⟨[8], _, by simp, fun _ _ _ _ _ => g_nm 8, fun _ _ _ _ _ => ts_nil, fun _ _ _ _ _ _ =>
            EvE.is (e_cb (a_cons (EvL.ev (EvL.is (l_comp (own := [("m", 11)]) (xs := List.range n) (enc := fun (m : Nat) => .int (m : Int)) (cond := fun _ => true) (f := fun (m : Nat) => .int (L j m * U m k)) (ok := blkOk_by (by kernel_rfl))
              (i_is (i_range1 (n := (n : Int)) (e_nm 1) (by omega) (by omega)) rngD_nat)
              ⟨fun m hm => ⟨[11], _, by simp, fun _ _ _ _ _ => g_nm 11, fun _ _ _ _ _ => ts_nil, fun _ _ _ _ _ _ => by
                have hk := List.mem_range.mp hk
                have hm := List.mem_range.mp hm
                have q1 : atI (tabL n L) (j : Int) = some (.lst (tabR n L j)) := tabL_at hj
                have q2 : atI (tabR n L j) (m : Int) = some (.int (L j m)) := tabR_at hm
                have q3 : atI (tabL n U) (m : Int) = some (.lst (tabR n U m)) := tabL_at hm
                have q4 : atI (tabR n U m) (k : Int) = some (.int (U m k)) := tabR_at hk
                have q5 := hLb j m
                walk_at "e"⟩⟩ (by rw [List.length_range]; omega)) (ds2 := ((List.range n).map fun m => L j m * U m k).map .int) (filter_all.trans (by rw [List.map_map]; rfl)))) a_nil) cd_sum (by decide +kernel)) (by rw [sum_range, hP])⟩⟩ (by rw [List.length_range]; omega)) filter_all))
          ⟨_, _, _, _, _, _, by rw [List.range_succ, List.map_append, List.map_append, prodN_succ]; rfl⟩ (by rw [List.length_map, List.length_map, List.length_range]; omega))
    · obtain ⟨x6, x7, x8, x9, x10, x11, rfl⟩ := hI
      rw [rngD_len]
      exact ⟨_, _, _, _, _, _, rfl⟩
    obtain ⟨x6, x7, x8, x9, x10, x11, rfl⟩ := hI
    have hdue : (prodN n fun i => U i i) = det n (lmat ([] ++ (List.range n).map Pm)) := by
      rw [List.nil_append, det_lmat, hP, det_lowmul (fun i _ => hL1 i) (fun i m h _ => hL0 i m h), det_upper fun i j _ h => hU0 i j h]
    have hPb : ∀ v ∈ ([] ++ (List.range n).map Pm : List (Nat → Int)), ∀ j, (v j).natAbs ≤ 80 := fun v hv j => by
      rw [List.nil_append] at hv
      obtain ⟨i, _, rfl⟩ := List.mem_map.mp hv
      rw [hP]
      refine Nat.le_trans (natAbs_sumN (B := 10) fun m _ => ?_) (by omega)
      have h1 := hLb i m
      have h2 := hUb m j
      exact natAbs_mul_le (m := 2) (n := 5) (by omega) (by omega)
    have hRl : ([] ++ (List.range n).map Pm : List (Nat → Int)).length = n := by simp
    refine s_cons (s_own (al 7 (l_lst a_nil)) ?_)
    refine s_consI (fun ss => ∃ Rs : List (Nat → Int), ∃ x6 x8 x9 x10 x11, ss = [.val (.scr ns), .val (.int n), .val (tabD n L), .val (tabD n U), .val (.int (det n (lmat Rs))), .lst [], x6, .lst (Rs.map (rowV n)), x8, x9, x10, x11] ∧ Rs.length = n ∧ ∀ v ∈ Rs, ∀ j, (v j).natAbs ≤ 80)
      (s_for (i_range1 (n := (n : Int)) (e_nm 1) (by omega) (by omega)) (fun k ss => ∃ Ds Ss : List (Nat → Int), ∃ x6 x8 x9 x10 x11, ss = [.val (.scr ns), .val (.int n), .val (tabD n L), .val (tabD n U), .val (.int (det n (lmat (Ds ++ Ss)))), .lst (Ss.map (rowV n)), x6, .lst (Ds.map (rowV n)), x8, x9, x10, x11] ∧ Ds.length = k ∧ Ds.length + Ss.length = n ∧ ∀ v ∈ Ds ++ Ss, ∀ j, (v j).natAbs ≤ 80)
        ⟨[], (List.range n).map Pm, _, _, _, _, _, by rw [← hdue]; rfl, rfl, by simp, hPb⟩ (fun k d s hd hI => ?_) (fun s hI => ?_)) (fun s hI => ?_)
    · obtain ⟨Ds, Ss, x6, x8, x9, x10, x11, rfl, hDk, hDS, hb⟩ := hI
      obtain ⟨hk, rfl⟩ := rngD0_get hd
      have hk : k < n := by omega
      have hl : ((Ss.map (rowV n)).length : Int) = ((n - k : Nat) : Int) := by rw [List.length_map]; omega
      refine ⟨[8], _, g_nm 8, s_cons (s_val (ae 9 (e_call fm hr1 (a_cons (by walk_at "e") (a_cons (e_nm 8) (a_cons (by walk_at "eLen") a_nil))) (.mk _ _ ((n - k : Nat) : Int) (by omega) (by omega) (by omega)))) ?_)⟩
      obtain ⟨a, ha⟩ := Int.eq_ofNat_of_zero_le (mixI_lo (cell := cellAt ns 3) (k := (k : Int)) (many := ((n - k : Nat) : Int)) (by omega))
      have ha2 : a < Ss.length := by
        have := mixI_hi (cell := cellAt ns 3) (k := (k : Int)) (many := ((n - k : Nat) : Int)) (by omega)
        omega
      rw [ha]
      have hs := sg_at (a : Int)
      have hsb := sgI_or (a : Int)
      have hb2 : -(2 ^ 64) < sgI (a : Int) ∧ sgI (a : Int) < 2 ^ 64 := by omega
      refine s_cons (s_val (ae 4 (e_bin (e_nm 4) (by walk_at "e") (od_mul (.inr hb2)))) ?_)
      have hx : Ss[a]? = some Ss[a] := List.getElem?_eq_getElem ha2
      refine s_one (s_popApp 7 5 (d := rowV n Ss[a]) (ds := Ds.map (rowV n)) (ds2 := Ss.map (rowV n)) (e_nm 9) (by omega) (by omega) (by rw [Int.toNat_natCast, List.getElem?_map, hx]; rfl) (by rw [List.length_map]; omega) ⟨Ds ++ [Ss[a]], Ss.eraseIdx a, _, _, _, _, _, by rw [lmat_pop (by omega) hx, sgI_nat, Int.toNat_natCast, List.map_append, eraseIdx_map]; rfl, by rw [List.length_append]; simp; omega, ?_, fun v hv => ?_⟩)
      · rw [List.length_append, List.length_eraseIdx_of_lt ha2]
        simp
        omega
      · refine hb v ?_
        rcases List.mem_append.mp hv with hv | hv
        · rcases List.mem_append.mp hv with hv | hv
          · exact List.mem_append_left _ hv
          · rw [List.mem_singleton.mp hv]
            exact List.mem_append_right _ (List.getElem_mem ha2)
        · exact List.mem_append_right _ (List.mem_of_mem_eraseIdx hv)
    · obtain ⟨Ds, Ss, x6, x8, x9, x10, x11, rfl, hDk, hDS, hb⟩ := hI
      rw [rngD_len] at hDk
      have : Ss = [] := List.length_eq_zero_iff.mp (by omega)
      subst this
      rw [List.append_nil] at hb ⊢
      exact ⟨Ds, _, _, _, _, _, rfl, by omega, hb⟩
    obtain ⟨Rs, x6, x8, x9, x10, x11, rfl, hRl, hRb⟩ := hI
    rw [tabL_rows hRl]
    have hz : Szd n (lmat Rs) := small8 hn8.1 fun i j => by
      unfold lmat
      rw [List.getD_eq_getElem?_getD]
      by_cases hi : i < Rs.length
      · rw [List.getElem?_eq_getElem hi]
        exact hRb _ (List.getElem_mem hi) j
      · rw [List.getElem?_eq_none (by omega)]
        show (0 : Int).natAbs ≤ 80
        decide
    refine s_cons (s_val (ae 10 (e_callB fdet (hr.mono (by decide)) (ab_cons (b_nm 7) ab_nil) (.mk n (lmat Rs) (by omega) hz))) ?_)
    refine s_one (s_ret (e_and (e_call fw hr1 (a_cons (e_nm 10) a_nil) (.mk (.int (det n (lmat Rs))) (by show "int" ≠ "?"; decide))) fun _ => e_one (e_cmp (e_nm 10) (e_nm 4) od_eqI)) ?_)
    show Res.val (.bl (wholeD (.int _) && decide (det n (lmat Rs) = det n (lmat Rs)))) = .val (.bl true)
    rw [decide_eq_true rfl]
    rfl
end

set_option maxHeartbeats 0

/-! the head -/
def D_pivot : He.DefD := ⟨("pivot", none), "pivot", "pivot", defArgs (top 1), defBody (top 1), defScope (top 1), [], []⟩
def D_det : He.DefD := ⟨("det", none), "det", "det", defArgs (top 2), defBody (top 2), defScope (top 2), [], []⟩
def D_cell_at : He.DefD := ⟨("_law_cell_at", none), "_law_cell_at", "_law_cell_at", defArgs (top 4), defBody (top 4), defScope (top 4), [], []⟩
def D_mix : He.DefD := ⟨("_law_mix", none), "_law_mix", "_law_mix", defArgs (top 5), defBody (top 5), defScope (top 5), [], []⟩
def D_whole : He.DefD := ⟨("_law_whole", none), "_law_whole", "_law_whole", defArgs (top 6), defBody (top 6), defScope (top 6), [], []⟩
def D_low : He.DefD := ⟨("_law_low", none), "_law_low", "_law_low", defArgs (top 7), defBody (top 7), defScope (top 7), [], []⟩
def D_high : He.DefD := ⟨("_law_high", none), "_law_high", "_law_high", defArgs (top 8), defBody (top 8), defScope (top 8), [], []⟩
def D_law : He.DefD := ⟨("law", none), "law", "law", defArgs (top 9), defBody (top 9), defScope (top 9), [], []⟩
def hfn : List He.DefD := [D_pivot, D_det, D_cell_at, D_mix, D_whole, D_low, D_high, D_law]
def hfa : List He.Fa := [.glo "pivot", .glo "det", .glo "_law_cell_at", .glo "_law_mix", .glo "_law_whole", .glo "_law_low", .glo "_law_high", .glo "law", .free "len", .free "range", .free "list", .free "isinstance", .free "int", .free "bool", .free "sum"]
abbrev RO : PySem.W.OpenRow := PySem.W.OpenLaw.row PySem.Challenge.rw_lonewalks_k06_determinants_made
abbrev hk : PySem.W.Hook := He.hookD 4 hfa hfn
def ob (s : PySem.W.SharedT) : He.AlD := He.obsDG 4 hfa hfn (HandSHeadRun.getT s)
theorem ob_eq (s : PySem.W.SharedT) : ob s = hk.obs s.abs := He.obsDG_eq (HandSHeadRun.getT_eq s)
def loose : List Str := (["pivot", "det", "_law_cell_at", "_law_mix", "_law_whole", "_law_low", "_law_high"] : List Str)
theorem run (w : World) : HandSHeadRun.RunEq RO (PySem.W.view RO.prog [9]) hk ob 6000 loose w := by
  intro os
  kernel_rfl
theorem facts {P : Program} {w : World} {K : PySem.W.Frag} {h : Heap} {mg : Str → Option Value} {f : Addr} (X : K.In h) (G : h.Ns mainGlobals mg) (hf : mg ("law" : Str) = some (.ref f)) (c : He.SaysD hfa hfn K) :
    ∃ fd : FuncData, (∀ (s : Shared) (v : Value), BindsTo s fd ⟨[v], []⟩ [("script", v)]) ∧ ∀ base : Heap, K.In base → base.Ns mainGlobals mg → FnOk P w K mg base (L2.CX P w) 3 f fd ["script"] (spD K GLaw) := by
  have g_len := He.free_ok X G (c.fact 8 (f := .free "len") rfl)
  have g_range := He.free_ok X G (c.fact 9 (f := .free "range") rfl)
  have g_list := He.free_ok X G (c.fact 10 (f := .free "list") rfl)
  have g_isinstance := He.free_ok X G (c.fact 11 (f := .free "isinstance") rfl)
  have g_int := He.free_ok X G (c.fact 12 (f := .free "int") rfl)
  have g_bool := He.free_ok X G (c.fact 13 (f := .free "bool") rfl)
  have g_sum := He.free_ok X G (c.fact 14 (f := .free "sum") rfl)
  have m_pivot := He.glo_ok X G (c.fact 0 (f := .glo "pivot") rfl)
  obtain ⟨fd_pivot, F_pivot⟩ := c.def_ 0 (d := D_pivot) rfl
  have b_pivot := F_pivot.bindsN (ps := ["rows", "k"]) fun _ _ _ _ _ _ us hl => match us, hl with | [_, _], _ => rfl
  have m_det := He.glo_ok X G (c.fact 1 (f := .glo "det") rfl)
  obtain ⟨fd_det, F_det⟩ := c.def_ 1 (d := D_det) rfl
  have b_det := F_det.bindsN (ps := ["square"]) fun _ _ _ _ _ _ us hl => match us, hl with | [_], _ => rfl
  have m_cell_at := He.glo_ok X G (c.fact 2 (f := .glo "_law_cell_at") rfl)
  obtain ⟨fd_cell_at, F_cell_at⟩ := c.def_ 2 (d := D_cell_at) rfl
  have b_cell_at := F_cell_at.bindsN (ps := ["script", "k"]) fun _ _ _ _ _ _ us hl => match us, hl with | [_, _], _ => rfl
  have m_mix := He.glo_ok X G (c.fact 3 (f := .glo "_law_mix") rfl)
  obtain ⟨fd_mix, F_mix⟩ := c.def_ 3 (d := D_mix) rfl
  have b_mix := F_mix.bindsN (ps := ["cell", "k", "many"]) fun _ _ _ _ _ _ us hl => match us, hl with | [_, _, _], _ => rfl
  have m_whole := He.glo_ok X G (c.fact 4 (f := .glo "_law_whole") rfl)
  obtain ⟨fd_whole, F_whole⟩ := c.def_ 4 (d := D_whole) rfl
  have b_whole := F_whole.bindsN (ps := ["found"]) fun _ _ _ _ _ _ us hl => match us, hl with | [_], _ => rfl
  have m_low := He.glo_ok X G (c.fact 5 (f := .glo "_law_low") rfl)
  obtain ⟨fd_low, F_low⟩ := c.def_ 5 (d := D_low) rfl
  have b_low := F_low.bindsN (ps := ["cell", "j", "k"]) fun _ _ _ _ _ _ us hl => match us, hl with | [_, _, _], _ => rfl
  have m_high := He.glo_ok X G (c.fact 6 (f := .glo "_law_high") rfl)
  obtain ⟨fd_high, F_high⟩ := c.def_ 6 (d := D_high) rfl
  have b_high := F_high.bindsN (ps := ["cell", "j", "k"]) fun _ _ _ _ _ _ us hl => match us, hl with | [_, _, _], _ => rfl
  obtain ⟨fd, F⟩ := c.def_ 7 (d := D_law) rfl
  have e := hf.symm.trans (He.glo_ok X G (c.fact 7 (f := .glo "law") rfl))
  cases e
  have b := FunD.bindsA (ps := ["script"]) F fun _ _ _ _ _ _ us hl => match us, hl with | [_], _ => rfl
  refine ⟨fd, fun s v => b s [v] rfl, fun base KB GB => ?_⟩
  have n_cell_at : Fn P w K mg base 1 "_law_cell_at" GCell := ⟨_, _, _, ok_cell_at F_cell_at g_len, m_cell_at, F_cell_at.kp, b_cell_at⟩
  have n_mix : Fn P w K mg base 1 "_law_mix" GMix := ⟨_, _, _, ok_mix F_mix , m_mix, F_mix.kp, b_mix⟩
  have n_whole : Fn P w K mg base 1 "_law_whole" GWhole := ⟨_, _, _, ok_whole F_whole g_isinstance g_int g_bool, m_whole, F_whole.kp, b_whole⟩
  have n_pivot : Fn P w K mg base 1 "pivot" GPivot := ⟨_, _, _, ok_pivot F_pivot g_len g_range, m_pivot, F_pivot.kp, b_pivot⟩
  have n_det : Fn P w K mg base 2 "det" GDet := ⟨_, _, _, ok_det F_det g_len g_range g_list n_pivot, m_det, F_det.kp, b_det⟩
  have n_low : Fn P w K mg base 2 "_law_low" GLow := ⟨_, _, _, ok_low F_low n_mix, m_low, F_low.kp, b_low⟩
  have n_high : Fn P w K mg base 2 "_law_high" GHigh := ⟨_, _, _, ok_high F_high n_mix, m_high, F_high.kp, b_high⟩
  exact ok_law F g_len g_range g_sum n_cell_at n_mix n_low n_high n_whole n_det
end LW
open PySem PySem.W PySem.Calls PyProof.Rows LW
theorem PySem.Challenge.cw_lonewalks_k06_determinants_made_holds : PySem.Challenge.rw_lonewalks_k06_determinants_made.Holds := by
  w_on; o_law
  refine HandSHeadRun.head_any (r := RO) (q := PySem.W.view RO.prog [9]) (H := hk) (ob := ob) (M := 6000) (loose := loose) (d := HandSHeadRun.topDef RO.prog 9) (kwd := []) LW.ob_eq
    (by kernel_rfl) (fun s => by kernel_rfl) LW.run (by kernel_rfl) (by kernel_rfl) (by kernel_rfl) (by rfl) (by first | assumption | decide +kernel) (by decide +kernel) ⟨rfl, rfl, rfl, rfl, rfl, by decide +kernel⟩ ?hw ?hc
  case hw => w_witness2
  case hc =>
    refine end_of (lw := PySem.Challenge.rw_lonewalks_k06_determinants_made) (most := 63) (lev := 3) (par := "script") (G := GLaw) rfl (by decide) (by kernel_rfl) ⟨rfl, by decide, by decide⟩ (fun ns _ => .mk ns) ?F
    intro w mg fa h Y G hm0
    obtain ⟨K, KX, c⟩ := Y
    have hm : mg ("law" : PySem.Str) = some (.ref fa) := by
      have e : (HandSHeadRun.topDef RO.prog 9).name = ("law" : PySem.Str) := by kernel_rfl
      rw [← e]
      exact hm0
    obtain ⟨fd, hb, hF⟩ := facts (P := (PySem.Challenge.rw_lonewalks_k06_determinants_made).prog) (w := w) KX G hm c
    exact ⟨K, fd, KX, hb, hF⟩
