import PyProof.Rows.All
import Wide.All
import OpenK.AllK
import Wide.FinOn
import HandS.ForMost
import HandS.Codes
import HandS.Defaults
import HandS.IsInst
import HandS.HeadHook4
import KE.KStateDown
import Lean
import HandS.Base
import HandS.Call
import HandS.Ends
import HandS.Head0
import HandS.Head1
import HandS.Head2
import HandS.HeadEnd
import HandS.Flow
import HandS.Conv
import HandS.Style
import HandS.Wide
import HandS.DictComp
import HandS.ListItems
import HandS.Small
import HandS.TupAny
import HandS.Zip
import HandS.Star
import HandS.Sort
import HandS.SortRule
import HandS.RaiseMore
import HandS.Walk
import KE.GoesEnum
import KE.KDictCopyH
import HandS.RevTup
import KE.GoesZip
import KE.GoesMore
import PyProof.ListStr
import PyProof.StrBlock2
import KE.KItemsList
import HandS.MapObj
import PySem.Challenge.RW_ballchutes_k11_whole_far_courses
section
/-! M1: fraction-free elimination of matrices of at most four rows. Plain Lean. -/
set_option linter.all false
namespace Ch

/-- the table and the last pivot behind k steps -/
def el (T : Nat → Nat → Int) : Nat → (Nat → Nat → Int) × Int
  | 0 => (T, 1)
  | k + 1 => (fun i j => if i = k then (el T k).1 i j else ((el T k).1 k k * (el T k).1 i j - (el T k).1 i k * (el T k).1 k j) / (el T k).2, (el T k).1 k k)

abbrev elM (T : Nat → Nat → Int) (k i j : Nat) : Int := (el T k).1 i j
/-- the pivots: dv T 0 = 1, dv T (k + 1) the leading minor of size k + 1 -/
abbrev dv (T : Nat → Nat → Int) (k : Nat) : Int := (el T k).2
theorem elM_zero (T : Nat → Nat → Int) (i j : Nat) : elM T 0 i j = T i j := rfl
theorem dv_zero (T : Nat → Nat → Int) : dv T 0 = 1 := rfl
theorem dv_succ (T : Nat → Nat → Int) (k : Nat) : dv T (k + 1) = elM T k k k := rfl
theorem elM_same (T : Nat → Nat → Int) (k j : Nat) : elM T (k + 1) k j = elM T k k j := by simp [elM, el]
theorem elM_succ (T : Nat → Nat → Int) {k i : Nat} (j : Nat) (h : i ≠ k) :
    elM T (k + 1) i j = (elM T k k k * elM T k i j - elM T k i k * elM T k k j) / dv T k := by simp [elM, el, h]

def det2 (a b c d : Int) : Int := a * d - b * c
def det3 (a b c d e f g h i : Int) : Int := a * det2 e f h i - d * det2 b c h i + g * det2 b c e f
/-- rows by columns: the Laplace development along the first column, as the law's own reckons it -/
def det4 (a b c d e f g h i j k l m n o p : Int) : Int :=
  a * det3 f g h j k l n o p - e * det3 b c d j k l n o p + i * det3 b c d f g h n o p - m * det3 b c d f g h j k l

theorem ediv_of {a b q : Int} (hb : b ≠ 0) (h : a = b * q) : a / b = q := by rw [h]; exact Int.mul_ediv_cancel_left q hb

variable {T : Nat → Nat → Int}
theorem el1 {i : Nat} (j : Nat) (hi : i ≠ 0) : elM T 1 i j = T 0 0 * T i j - T i 0 * T 0 j := by
  rw [elM_succ T j hi, dv_zero, Int.ediv_one]; rfl
theorem el1' (j : Nat) : elM T 1 0 j = T 0 j := elM_same T 0 j
theorem dv1 : dv T 1 = T 0 0 := rfl
theorem dv2 : dv T 2 = det2 (T 0 0) (T 0 1) (T 1 0) (T 1 1) := by
  rw [dv_succ, el1 1 (by decide)]; unfold det2; grind
theorem el2 {i : Nat} (j : Nat) (hi : 2 ≤ i) (h1 : dv T 1 ≠ 0) :
    elM T 2 i j = det3 (T 0 0) (T 0 1) (T 0 j) (T 1 0) (T 1 1) (T 1 j) (T i 0) (T i 1) (T i j) := by
  rw [elM_succ T j (show i ≠ 1 by omega), el1 1 (by decide), el1 j (show i ≠ 0 by omega), el1 1 (show i ≠ 0 by omega), el1 j (by decide)]
  refine ediv_of h1 ?_
  rw [dv1]; unfold det3 det2; grind
theorem el2_1 (j : Nat) : elM T 2 1 j = det2 (T 0 0) (T 0 j) (T 1 0) (T 1 j) := by
  rw [elM_same, el1 j (by decide)]; unfold det2; grind
theorem el2_0 (j : Nat) (h1 : dv T 1 ≠ 0) : elM T 2 0 j = det2 (T 0 j) (T 0 1) (T 1 j) (T 1 1) := by
  rw [elM_succ T j (show (0 : Nat) ≠ 1 by decide), el1 1 (by decide), el1', el1', el1 j (by decide)]
  refine ediv_of h1 ?_
  rw [dv1]; unfold det2; grind
theorem dv3 (h1 : dv T 1 ≠ 0) : dv T 3 = det3 (T 0 0) (T 0 1) (T 0 2) (T 1 0) (T 1 1) (T 1 2) (T 2 0) (T 2 1) (T 2 2) := by
  rw [dv_succ, el2 2 (by decide) h1]
theorem el3 {i : Nat} (j : Nat) (hi : 3 ≤ i) (h1 : dv T 1 ≠ 0) (h2 : dv T 2 ≠ 0) :
    elM T 3 i j = det4 (T 0 0) (T 0 1) (T 0 2) (T 0 j) (T 1 0) (T 1 1) (T 1 2) (T 1 j) (T 2 0) (T 2 1) (T 2 2) (T 2 j) (T i 0) (T i 1) (T i 2) (T i j) := by
  rw [elM_succ T j (show i ≠ 2 by omega), el2 2 (by decide) h1, el2 j (show 2 ≤ i by omega) h1, el2 2 (show 2 ≤ i by omega) h1, el2 j (by decide) h1]
  refine ediv_of h2 ?_
  rw [dv2]; unfold det4 det3 det2; grind
theorem el3_2 (j : Nat) (h1 : dv T 1 ≠ 0) : elM T 3 2 j = det3 (T 0 0) (T 0 1) (T 0 j) (T 1 0) (T 1 1) (T 1 j) (T 2 0) (T 2 1) (T 2 j) := by
  rw [elM_same, el2 j (by decide) h1]
theorem el3_1 (j : Nat) (h1 : dv T 1 ≠ 0) (h2 : dv T 2 ≠ 0) : elM T 3 1 j = det3 (T 0 0) (T 0 j) (T 0 2) (T 1 0) (T 1 j) (T 1 2) (T 2 0) (T 2 j) (T 2 2) := by
  rw [elM_succ T j (show (1 : Nat) ≠ 2 by decide), el2 2 (by decide) h1, el2_1, el2_1, el2 j (by decide) h1]
  refine ediv_of h2 ?_
  rw [dv2]; unfold det3 det2; grind
theorem el3_0 (j : Nat) (h1 : dv T 1 ≠ 0) (h2 : dv T 2 ≠ 0) : elM T 3 0 j = det3 (T 0 j) (T 0 1) (T 0 2) (T 1 j) (T 1 1) (T 1 2) (T 2 j) (T 2 1) (T 2 2) := by
  rw [elM_succ T j (show (0 : Nat) ≠ 2 by decide), el2 2 (by decide) h1, el2_0 _ h1, el2_0 _ h1, el2 j (by decide) h1]
  refine ediv_of h2 ?_
  rw [dv2]; unfold det3 det2; grind
theorem dv4 (h1 : dv T 1 ≠ 0) (h2 : dv T 2 ≠ 0) : dv T 4 = det4 (T 0 0) (T 0 1) (T 0 2) (T 0 3) (T 1 0) (T 1 1) (T 1 2) (T 1 3) (T 2 0) (T 2 1) (T 2 2) (T 2 3) (T 3 0) (T 3 1) (T 3 2) (T 3 3) := by
  rw [dv_succ, el3 3 (by decide) h1 h2]
theorem el4_3 (j : Nat) (h1 : dv T 1 ≠ 0) (h2 : dv T 2 ≠ 0) : elM T 4 3 j = det4 (T 0 0) (T 0 1) (T 0 2) (T 0 j) (T 1 0) (T 1 1) (T 1 2) (T 1 j) (T 2 0) (T 2 1) (T 2 2) (T 2 j) (T 3 0) (T 3 1) (T 3 2) (T 3 j) := by
  rw [elM_same, el3 j (by decide) h1 h2]
theorem el4_2 (j : Nat) (h1 : dv T 1 ≠ 0) (h2 : dv T 2 ≠ 0) (h3 : dv T 3 ≠ 0) : elM T 4 2 j = det4 (T 0 0) (T 0 1) (T 0 j) (T 0 3) (T 1 0) (T 1 1) (T 1 j) (T 1 3) (T 2 0) (T 2 1) (T 2 j) (T 2 3) (T 3 0) (T 3 1) (T 3 j) (T 3 3) := by
  rw [elM_succ T j (show (2 : Nat) ≠ 3 by decide), el3 3 (by decide) h1 h2, el3_2 _ h1, el3_2 _ h1, el3 j (by decide) h1 h2]
  refine ediv_of h3 ?_
  rw [dv3 h1]; unfold det4 det3 det2; grind
theorem el4_1 (j : Nat) (h1 : dv T 1 ≠ 0) (h2 : dv T 2 ≠ 0) (h3 : dv T 3 ≠ 0) : elM T 4 1 j = det4 (T 0 0) (T 0 j) (T 0 2) (T 0 3) (T 1 0) (T 1 j) (T 1 2) (T 1 3) (T 2 0) (T 2 j) (T 2 2) (T 2 3) (T 3 0) (T 3 j) (T 3 2) (T 3 3) := by
  rw [elM_succ T j (show (1 : Nat) ≠ 3 by decide), el3 3 (by decide) h1 h2, el3_1 _ h1 h2, el3_1 _ h1 h2, el3 j (by decide) h1 h2]
  refine ediv_of h3 ?_
  rw [dv3 h1]; unfold det4 det3 det2; grind
theorem el4_0 (j : Nat) (h1 : dv T 1 ≠ 0) (h2 : dv T 2 ≠ 0) (h3 : dv T 3 ≠ 0) : elM T 4 0 j = det4 (T 0 j) (T 0 1) (T 0 2) (T 0 3) (T 1 j) (T 1 1) (T 1 2) (T 1 3) (T 2 j) (T 2 1) (T 2 2) (T 2 3) (T 3 j) (T 3 1) (T 3 2) (T 3 3) := by
  rw [elM_succ T j (show (0 : Nat) ≠ 3 by decide), el3 3 (by decide) h1 h2, el3_0 _ h1 h2, el3_0 _ h1 h2, el3 j (by decide) h1 h2]
  refine ediv_of h3 ?_
  rw [dv3 h1]; unfold det4 det3 det2; grind

/-- the sum of the first n of some numbers -/
def sumN : Nat → (Nat → Int) → Int
  | 0, _ => 0
  | n + 1, f => sumN n f + f n

/-- Cramer: what the table's column c tells solves the system -/
theorem cramer {n : Nat} (hn : 1 ≤ n) (hn4 : n ≤ 4) (hp : ∀ k, 1 ≤ k → k < n → dv T k ≠ 0) (c i : Nat) (hi : i < n) :
    sumN n (fun l => T i l * elM T n l c) = dv T n * T i c := by
  have c4 : n = 1 ∨ n = 2 ∨ n = 3 ∨ n = 4 := by omega
  rcases c4 with rfl | rfl | rfl | rfl
  · have : i = 0 := by omega
    subst this
    simp only [sumN, el1', dv1]; grind
  · have h1 := hp 1 (by decide) (by decide)
    simp only [sumN, el2_1, el2_0 _ h1, dv2]
    have ci : i = 0 ∨ i = 1 := by omega
    rcases ci with rfl | rfl <;> (unfold det2; grind)
  · have h1 := hp 1 (by decide) (by decide)
    have h2 := hp 2 (by decide) (by decide)
    simp only [sumN, el3_2 _ h1, el3_1 _ h1 h2, el3_0 _ h1 h2, dv3 h1]
    have ci : i = 0 ∨ i = 1 ∨ i = 2 := by omega
    rcases ci with rfl | rfl | rfl <;> (unfold det3 det2; grind)
  · have h1 := hp 1 (by decide) (by decide)
    have h2 := hp 2 (by decide) (by decide)
    have h3 := hp 3 (by decide) (by decide)
    simp only [sumN, el4_3 _ h1 h2, el4_2 _ h1 h2 h3, el4_1 _ h1 h2 h3, el4_0 _ h1 h2 h3, dv4 h1 h2]
    have ci : i = 0 ∨ i = 1 ∨ i = 2 ∨ i = 3 := by omega
    rcases ci with rfl | rfl | rfl | rfl <;> (unfold det4 det3 det2; grind)

/-! ### signs -/
theorem ediv_nonpos {a b : Int} (hb : 0 < b) (h : a ≤ 0) : a / b ≤ 0 := by
  have := Int.ediv_le_ediv hb h
  simpa using this
theorem el_signs {n : Nat} (hd : ∀ i j, i < n → j < n → i ≠ j → T i j ≤ 0) : ∀ k, k ≤ n → (∀ l, l ≤ k → 0 < dv T l) → ∀ i, i < n →
    (∀ j, k ≤ j → j < n → i ≠ j → elM T k i j ≤ 0)
  | 0, _, _, i, hi, j, _, hj, hij => hd i j hi hj hij
  | k + 1, hk, hp, i, hi, j, hkj, hj, hij => by
    have ih := el_signs hd k (by omega) (fun l hl => hp l (by omega))
    by_cases e : i = k
    · subst e
      rw [elM_same]
      exact ih i hi j (by omega) hj hij
    · rw [elM_succ T j e]
      have p : 0 < elM T k k k := hp (k + 1) (by omega)
      have b : 0 < dv T k := hp k (by omega)
      refine ediv_nonpos b ?_
      have h1 := ih i hi j (by omega) hj hij
      have h2 := ih i hi k (by omega) (by omega) e
      have h3 := ih k (by omega) j (by omega) hj (by omega)
      have h4 : elM T k k k * elM T k i j ≤ 0 := Int.mul_nonpos_of_nonneg_of_nonpos (by omega) h1
      have h5 : 0 ≤ elM T k i k * elM T k k j := Int.mul_nonneg_of_nonpos_of_nonpos h2 h3
      omega
theorem el_nonneg {n c : Nat} (hd : ∀ i j, i < n → j < n → i ≠ j → T i j ≤ 0) (hc : ∀ i, i < n → 0 ≤ T i c) : ∀ k, k ≤ n → (∀ l, l ≤ k → 0 < dv T l) → ∀ i, i < n → 0 ≤ elM T k i c
  | 0, _, _, i, hi => hc i hi
  | k + 1, hk, hp, i, hi => by
    have ih := el_nonneg hd hc k (by omega) (fun l hl => hp l (by omega))
    by_cases e : i = k
    · subst e
      rw [elM_same]
      exact ih i hi
    · rw [elM_succ T c e]
      have p : 0 < elM T k k k := hp (k + 1) (by omega)
      have b : 0 < dv T k := hp k (by omega)
      refine Int.ediv_nonneg ?_ (by omega)
      have h1 := ih i hi
      have h2 := el_signs hd k (by omega) (fun l hl => hp l (by omega)) i hi k (Nat.le_refl _) (by omega) e
      have h3 := ih k (by omega)
      have h4 : 0 ≤ elM T k k k * elM T k i c := Int.mul_nonneg (by omega) h1
      have h5 : elM T k i k * elM T k k c ≤ 0 := Int.mul_nonpos_of_nonpos_of_nonneg h2 h3
      omega

/-! ### sizes -/
theorem natAbs_ediv_le {a b : Int} (hb : 0 < b) : (a / b).natAbs ≤ a.natAbs := by
  rcases Int.lt_or_le a 0 with h | h
  · have h1 : a / b < 0 := Int.ediv_neg_of_neg_of_pos h hb
    have h2 : a ≤ a / b := by
      have h3 : b * (a / b) + a % b = a := Int.mul_ediv_add_emod a b
      have h4 : 0 ≤ a % b := Int.emod_nonneg a (by omega)
      have h5 : a % b < b := Int.emod_lt_of_pos a hb
      have h6 : b * (a / b) ≤ 1 * (a / b) := Int.mul_le_mul_of_nonpos_right (by omega) (by omega)
      by_cases h7 : b = 1
      · subst h7; simp
      · have h8 : b * (a / b) ≤ 2 * (a / b) := Int.mul_le_mul_of_nonpos_right (by omega) (by omega)
        rcases Int.lt_or_le (a / b) a with h9 | h9
        · exfalso
          have h10 : b * (a / b) ≤ b * (a - 1) := Int.mul_le_mul_of_nonneg_left (by omega) (by omega)
          have h11 : b * (a - 1) = b * a - b := by rw [Int.mul_sub, Int.mul_one]
          have h12 : b * a ≤ 1 * a := Int.mul_le_mul_of_nonpos_right (by omega) (by omega)
          omega
        · exact h9
    omega
  · have h1 : 0 ≤ a / b := Int.ediv_nonneg h (by omega)
    have h2 : a / b ≤ a := Int.ediv_le_self b h
    omega
/-- bounds: 2 b b, step by step -/
def bnd (b : Nat) : Nat → Nat
  | 0 => b
  | k + 1 => bnd b k + 2 * (bnd b k * bnd b k)
theorem bnd_mono (b : Nat) : ∀ {k l : Nat}, k ≤ l → bnd b k ≤ bnd b l := by
  intro k l h
  induction h with
  | refl => exact Nat.le_refl _
  | step _ ih => exact Nat.le_trans ih (Nat.le_add_right _ _)
theorem el_size {n b : Nat} (J : Nat → Prop) (hJ : ∀ k, k < n → J k) (hT : ∀ i j, i < n → J j → (T i j).natAbs ≤ b) : ∀ k, k ≤ n → (∀ l, l ≤ k → 0 < dv T l) → ∀ i j, i < n → J j → (elM T k i j).natAbs ≤ bnd b k
  | 0, _, _, i, j, hi, hj => hT i j hi hj
  | k + 1, hk, hp, i, j, hi, hj => by
    have ih := el_size J hJ hT k (by omega) (fun l hl => hp l (by omega))
    by_cases e : i = k
    · subst e
      rw [elM_same]
      exact Nat.le_trans (ih i j hi hj) (Nat.le_add_right _ _)
    · rw [elM_succ T j e]
      refine Nat.le_trans (natAbs_ediv_le (hp k (by omega))) ?_
      have kn : k < n := by omega
      have h1 := Nat.mul_le_mul (ih k k kn (hJ k kn)) (ih i j hi hj)
      have h2 := Nat.mul_le_mul (ih i k hi (hJ k kn)) (ih k j kn hj)
      rw [← Int.natAbs_mul] at h1 h2
      show _ ≤ bnd b k + 2 * (bnd b k * bnd b k)
      omega
end Ch
end
section
/-! M2: nets of at most four knots; what settles; all orders alike. Plain Lean. -/
set_option linter.all false
namespace Ch

/-- a knot: the drops of its front and its turn; targets: 0 .. 3 the knots, 4 and 5 the outlets -/
structure Kn where
  fr : List (List Nat)
  tu : List (List Nat)
abbrev Nt := List Kn
def kn (N : Nt) (v : Nat) : Kn := N.getD v ⟨[], [[]]⟩
namespace Kn
def ds (k : Kn) : List (List Nat) := k.fr ++ k.tu
def len (k : Kn) : Nat := k.fr.length + k.tu.length
abbrev per (k : Kn) : Nat := k.tu.length
end Kn
/-- how often a target stands in some drops -/
def cts (l : List (List Nat)) (u : Nat) : Nat := (l.map (·.count u)).sum
abbrev Kn.cnt (k : Kn) (u : Nat) : Nat := cts k.tu u
theorem cts_nil (u : Nat) : cts [] u = 0 := rfl
theorem cts_cons (d : List Nat) (l : List (List Nat)) (u : Nat) : cts (d :: l) u = d.count u + cts l u := by simp [cts]
theorem cts_append (l m : List (List Nat)) (u : Nat) : cts (l ++ m) u = cts l u + cts m u := by simp [cts]
theorem cts_one (d : List Nat) (u : Nat) : cts [d] u = d.count u := by simp [cts]

def dr (k : Kn) (p : Nat) : List Nat := k.ds.getD p []
def nx (k : Kn) (p : Nat) : Nat := if p + 1 < k.len then p + 1 else k.fr.length
def plc (k : Kn) (p : Nat) : Nat → Nat
  | 0 => p
  | x + 1 => nx k (plc k p x)
/-- how many balls fall to u for so many balls, from a place on -/
def fall (k : Kn) (p u : Nat) : Nat → Nat
  | 0 => 0
  | x + 1 => fall k p u x + (dr k (plc k p x)).count u
theorem plc_zero (k : Kn) (p : Nat) : plc k p 0 = p := rfl
theorem fall_zero (k : Kn) (p u : Nat) : fall k p u 0 = 0 := rfl

section
variable {k : Kn} {p u : Nat}
theorem plc_add (x : Nat) : ∀ y, plc k p (x + y) = plc k (plc k p x) y
  | 0 => rfl
  | y + 1 => by
    show nx k (plc k p (x + y)) = nx k (plc k (plc k p x) y)
    rw [plc_add x y]
theorem fall_add (x : Nat) : ∀ y, fall k p u (x + y) = fall k p u x + fall k (plc k p x) u y
  | 0 => rfl
  | y + 1 => by
    show fall k p u (x + y) + (dr k (plc k p (x + y))).count u = fall k p u x + (fall k (plc k p x) u y + (dr k (plc k (plc k p x) y)).count u)
    rw [fall_add x y, plc_add x y]; omega
theorem fall_mono {x y : Nat} (h : x ≤ y) : fall k p u x ≤ fall k p u y := by
  obtain ⟨d, rfl⟩ := Nat.le.dest h
  rw [fall_add]; omega
theorem nx_lt (ht : k.tu ≠ []) : nx k p < k.len := by
  have : 0 < k.tu.length := List.length_pos_iff.mpr ht
  unfold nx Kn.len at *; split <;> omega
theorem plc_lt (ht : k.tu ≠ []) (hp : p < k.len) : ∀ x, plc k p x < k.len
  | 0 => hp
  | x + 1 => nx_lt ht
theorem nx_ge (h : k.fr.length ≤ p) : k.fr.length ≤ nx k p := by unfold nx; split <;> omega
theorem plc_ge (h : k.fr.length ≤ p) : ∀ x, k.fr.length ≤ plc k p x
  | 0 => h
  | x + 1 => nx_ge (plc_ge h x)
theorem plc_lin : ∀ x, p + x < k.len → plc k p x = p + x
  | 0, _ => rfl
  | x + 1, h => by
    show nx k (plc k p x) = p + (x + 1)
    rw [plc_lin x (by omega)]; unfold nx; rw [if_pos (by omega)]; omega
theorem plc_end (hp : p < k.len) : plc k p (k.len - p) = k.fr.length := by
  have e : k.len - p = (k.len - p - 1) + 1 := by omega
  rw [e]
  show nx k (plc k p (k.len - p - 1)) = _
  rw [plc_lin _ (by omega)]; unfold nx; rw [if_neg (by omega)]
theorem ds_length : k.ds.length = k.len := by simp [Kn.ds, Kn.len]
theorem fall_lin : ∀ x, p + x ≤ k.len → fall k p u x = cts ((k.ds.drop p).take x) u
  | 0, _ => by simp [cts, fall]
  | x + 1, h => by
    show fall k p u x + (dr k (plc k p x)).count u = _
    rw [fall_lin x (by omega), plc_lin x (by omega)]
    have hl : x < (k.ds.drop p).length := by rw [List.length_drop, ds_length]; omega
    rw [List.take_succ, cts_append]
    congr 1
    have e : (k.ds.drop p)[x]? = some (dr k (p + x)) := by
      rw [List.getElem?_drop]
      unfold dr
      rw [List.getD_eq_getElem?_getD]
      have : p + x < k.ds.length := by rw [ds_length]; omega
      rw [List.getElem?_eq_getElem this]; rfl
    rw [e]; exact (cts_one _ _).symm
theorem drop_fr : k.ds.drop k.fr.length = k.tu := by simp [Kn.ds]
theorem plc_fr_per (ht : k.tu ≠ []) : plc k k.fr.length k.per = k.fr.length := by
  have h0 : 0 < k.tu.length := List.length_pos_iff.mpr ht
  have := plc_end (k := k) (p := k.fr.length) (by unfold Kn.len; omega)
  rw [show k.len - k.fr.length = k.per by unfold Kn.len; simp] at this
  exact this
theorem fall_fr_per : fall k k.fr.length u k.per = k.cnt u := by
  rw [fall_lin _ (by unfold Kn.len; simp), drop_fr, List.take_of_length_le (Nat.le_refl _)]
theorem fr_mul (ht : k.tu ≠ []) : ∀ q, plc k k.fr.length (q * k.per) = k.fr.length ∧ fall k k.fr.length u (q * k.per) = q * k.cnt u
  | 0 => by rw [Nat.zero_mul, Nat.zero_mul]; exact ⟨rfl, rfl⟩
  | q + 1 => by
    obtain ⟨h1, h2⟩ := fr_mul ht q
    rw [Nat.succ_mul, plc_add, fall_add, h1, h2, plc_fr_per ht, fall_fr_per, Nat.succ_mul]
    exact ⟨rfl, rfl⟩
/-- in the turn: a whole turn leads back, and lets fall what stands in it -/
theorem turn_one (ht : k.tu ≠ []) (h1 : k.fr.length ≤ p) (h2 : p < k.len) : plc k p k.per = p ∧ fall k p u k.per = k.cnt u := by
  have e : plc k k.fr.length (p - k.fr.length) = p := by rw [plc_lin _ (by omega)]; omega
  have a1 : plc k k.fr.length ((p - k.fr.length) + k.per) = plc k k.fr.length (k.per + (p - k.fr.length)) := by rw [Nat.add_comm]
  rw [plc_add, plc_add, plc_fr_per ht, e] at a1
  have a2 : fall k k.fr.length u ((p - k.fr.length) + k.per) = fall k k.fr.length u (k.per + (p - k.fr.length)) := by rw [Nat.add_comm]
  rw [fall_add, fall_add, plc_fr_per ht, e, fall_fr_per] at a2
  exact ⟨a1, by omega⟩
theorem turn_mul (ht : k.tu ≠ []) (h1 : k.fr.length ≤ p) (h2 : p < k.len) : ∀ q, plc k p (q * k.per) = p ∧ fall k p u (q * k.per) = q * k.cnt u
  | 0 => by rw [Nat.zero_mul, Nat.zero_mul]; exact ⟨rfl, rfl⟩
  | q + 1 => by
    obtain ⟨a, b⟩ := turn_mul ht h1 h2 q
    obtain ⟨c, d⟩ := turn_one (u := u) ht h1 h2
    rw [Nat.succ_mul, plc_add, fall_add, a, b, c, d, Nat.succ_mul]
    exact ⟨rfl, rfl⟩
/-- back at the same place of the turn: whole turns -/
theorem turn_of (ht : k.tu ≠ []) (h1 : k.fr.length ≤ p) (h2 : p < k.len) {x : Nat} (h : plc k p x = p) : ∃ q, x = q * k.per := by
  have hp : 0 < k.per := List.length_pos_iff.mpr ht
  refine ⟨x / k.per, ?_⟩
  have e : x = (x / k.per) * k.per + x % k.per := by rw [Nat.mul_comm]; exact (Nat.div_add_mod x k.per).symm
  have hr : x % k.per < k.per := Nat.mod_lt _ hp
  rw [e, plc_add, (turn_mul (u := 0) ht h1 h2 _).1] at h
  suffices x % k.per = 0 by omega
  by_cases c : p + x % k.per < k.len
  · rw [plc_lin _ c] at h; omega
  · exfalso
    -- past the end: place fr + (p + r - len)
    have e2 : x % k.per = (k.len - p) + (p + x % k.per - k.len) := by omega
    have hl : k.len = k.fr.length + k.per := rfl
    rw [e2, plc_add, plc_end h2, plc_lin _ (by omega)] at h
    omega
/-- the closed form -/
theorem plc_closed (ht : k.tu ≠ []) (hp : p < k.len) (x : Nat) : plc k p x = if p + x < k.len then p + x else k.fr.length + (p + x - k.fr.length) % k.per := by
  have h0 : 0 < k.per := List.length_pos_iff.mpr ht
  have hl : k.len = k.fr.length + k.per := rfl
  split
  · exact plc_lin x (by assumption)
  · rename_i h
    obtain ⟨y, rfl⟩ : ∃ y, x = (k.len - p) + y := ⟨x - (k.len - p), by omega⟩
    rw [plc_add, plc_end hp]
    have e : y = (y / k.per) * k.per + y % k.per := by rw [Nat.mul_comm]; exact (Nat.div_add_mod y k.per).symm
    have hr : y % k.per < k.per := Nat.mod_lt _ h0
    have e2 : p + (k.len - p + y) - k.fr.length = y + k.per := by omega
    rw [e2, Nat.add_mod_right]
    conv => lhs; rw [e]
    rw [plc_add, (fr_mul (u := 0) ht _).1, plc_lin _ (by omega)]
/-- what falls behind the end of the row -/
theorem fall_split (hp : p < k.len) {x : Nat} (h : k.len - p ≤ x) : fall k p u x = cts (k.ds.drop p) u + fall k k.fr.length u (x - (k.len - p)) := by
  obtain ⟨y, rfl⟩ : ∃ y, x = (k.len - p) + y := ⟨x - (k.len - p), by omega⟩
  rw [fall_add, plc_end hp, fall_lin _ (by omega), List.take_of_length_le (by rw [List.length_drop, ds_length]; omega)]
  congr 2; omega
theorem fall_fr (ht : k.tu ≠ []) (x : Nat) : fall k k.fr.length u x = (x / k.per) * k.cnt u + cts (k.tu.take (x % k.per)) u := by
  have h0 : 0 < k.per := List.length_pos_iff.mpr ht
  have e : x = (x / k.per) * k.per + x % k.per := by rw [Nat.mul_comm]; exact (Nat.div_add_mod x k.per).symm
  have hr : x % k.per < k.per := Nat.mod_lt _ h0
  have hl : k.len = k.fr.length + k.per := rfl
  conv => lhs; rw [e]
  rw [fall_add, (fr_mul (u := u) ht _).1, (fr_mul ht _).2, fall_lin _ (by omega), drop_fr]
end

/-! ### nets -/
def S4 (f : Nat → Nat) : Nat := f 0 + f 1 + f 2 + f 3
theorem S4_le {f g : Nat → Nat} (h : ∀ v, v < 4 → f v ≤ g v) : S4 f ≤ S4 g := by
  unfold S4
  have := h 0 (by decide); have := h 1 (by decide); have := h 2 (by decide); have := h 3 (by decide)
  omega
theorem S4_congr {f g : Nat → Nat} (h : ∀ v, v < 4 → f v = g v) : S4 f = S4 g := by
  unfold S4
  rw [h 0 (by decide), h 1 (by decide), h 2 (by decide), h 3 (by decide)]
theorem S4_add (f g : Nat → Nat) : S4 (fun v => f v + g v) = S4 f + S4 g := by simp only [S4]; omega
theorem S4_mul (c : Nat) (f : Nat → Nat) : S4 (fun v => c * f v) = c * S4 f := by unfold S4; grind
theorem lt4 {v : Nat} (h : v < 4) : v = 0 ∨ v = 1 ∨ v = 2 ∨ v = 3 := by omega
theorem S4_at_le {f : Nat → Nat} {v : Nat} (h : v < 4) : f v ≤ S4 f := by
  rcases lt4 h with rfl | rfl | rfl | rfl <;> (unfold S4; omega)

/-- what falls to u if each knot v takes x v balls, from s on -/
def inn (N : Nt) (s x : Nat → Nat) (u : Nat) : Nat := S4 fun v => fall (kn N v) (s v) u (x v)
def aft (N : Nt) (s x : Nat → Nat) : Nat → Nat := fun v => plc (kn N v) (s v) (x v)
abbrev per (N : Nt) (v : Nat) : Nat := (kn N v).per
abbrev cnt (N : Nt) (v u : Nat) : Nat := (kn N v).cnt u

/-- a standing: places of all knots -/
def Stg (N : Nt) (s : Nat → Nat) : Prop := ∀ v, s v < (kn N v).len
/-- no turn is empty, and so many knots -/
structure Sound (N : Nt) : Prop where
  n1 : 1 ≤ N.length
  n4 : N.length ≤ 4
  tu : ∀ v, (kn N v).tu ≠ []
theorem kn_out {N : Nt} {v : Nat} (h : N.length ≤ v) : kn N v = ⟨[], [[]]⟩ := by
  unfold kn; rw [List.getD_eq_getElem?_getD, List.getElem?_eq_none h]; rfl
section
variable {N : Nt} {s b x y z : Nat → Nat}
theorem Sound.per (S : Sound N) (v : Nat) : 0 < per N v := List.length_pos_iff.mpr (S.tu v)
theorem Stg.out (h : Stg N s) {v : Nat} (hv : N.length ≤ v) : s v = 0 := by
  have := h v
  rw [kn_out hv] at this
  simpa [Kn.len] using this
theorem Stg.aft (S : Sound N) (h : Stg N s) : Stg N (aft N s x) := fun v => plc_lt (S.tu v) (h v) _
theorem stg_ext (h : Stg N s) (h' : Stg N x) (e : ∀ v, v < N.length → s v = x v) : s = x := by
  funext v
  by_cases c : v < N.length
  · exact e v c
  · rw [h.out (by omega), h'.out (by omega)]
theorem cnt_out {v u : Nat} (h : N.length ≤ v) : cnt N v u = 0 := by
  unfold cnt Kn.cnt; rw [kn_out h]; rfl
theorem per_out {v : Nat} (h : N.length ≤ v) : per N v = 1 := by unfold per; rw [kn_out h]; rfl
theorem fall_out {v p u : Nat} (h : N.length ≤ v) : ∀ x, fall (kn N v) p u x = 0
  | 0 => rfl
  | x + 1 => by
    show fall (kn N v) p u x + (dr (kn N v) _).count u = 0
    rw [fall_out h x, kn_out h]
    unfold dr Kn.ds
    rw [List.getD_eq_getElem?_getD]
    cases plc _ p x with
    | zero => rfl
    | succ j => rfl
theorem aft_out (h : Stg N s) (S : Sound N) {v : Nat} (hv : N.length ≤ v) : aft N s x v = 0 := (h.aft S).out hv
theorem aft_congr (S : Sound N) (h : Stg N s) (e : ∀ u, u < 4 → x u = y u) : aft N s x = aft N s y := by
  refine stg_ext (h.aft S) (h.aft S) fun v hv => ?_
  have n4 := S.n4
  unfold aft; rw [e v (by omega)]
theorem inn_congr (e : ∀ u, u < 4 → x u = y u) (u : Nat) : inn N s x u = inn N s y u := S4_congr fun v hv => by rw [e v hv]
theorem inn_mono (e : ∀ u, u < 4 → x u ≤ y u) (u : Nat) : inn N s x u ≤ inn N s y u := S4_le fun v hv => fall_mono (e v hv)
theorem inn_add (u : Nat) : inn N s (fun v => x v + y v) u = inn N s x u + inn N (aft N s x) y u := by
  unfold inn
  rw [← S4_add]
  exact S4_congr fun v _ => fall_add _ _
theorem aft_add : aft N s (fun v => x v + y v) = aft N (aft N s x) y := by
  funext v; exact plc_add _ _
theorem inn_zero (u : Nat) : inn N s (fun _ => 0) u = 0 := by unfold inn S4; simp [fall]
theorem aft_zero : aft N s (fun _ => 0) = s := rfl

/-! ### what settles -/
def Sol (N : Nt) (s b z : Nat → Nat) : Prop := ∀ u, u < 4 → b u + inn N s z u ≤ z u
structure Lst (N : Nt) (s b x : Nat → Nat) : Prop where
  bal : ∀ u, u < 4 → b u + inn N s x u = x u
  min : ∀ z, Sol N s b z → ∀ u, u < 4 → x u ≤ z u
theorem Lst.sol (h : Lst N s b x) : Sol N s b x := fun u hu => Nat.le_of_eq (h.bal u hu)
theorem Lst.uniq (h : Lst N s b x) (h' : Lst N s b y) : ∀ u, u < 4 → x u = y u := fun u hu =>
  Nat.le_antisymm (h.min y h'.sol u hu) (h'.min x h.sol u hu)
/-- no more than in any end: what an order takes -/
def Below (N : Nt) (s b y : Nat → Nat) : Prop := ∀ z, Sol N s b z → ∀ u, u < 4 → y u ≤ z u
theorem below_zero : Below N s b (fun _ => 0) := fun _ _ _ _ => Nat.zero_le _
def put (y : Nat → Nat) (v m : Nat) : Nat → Nat := fun u => if u = v then m else y u
theorem put_same (y : Nat → Nat) (v m : Nat) : put y v m v = m := by simp [put]
theorem put_ne (y : Nat → Nat) {v m u : Nat} (h : u ≠ v) : put y v m u = y u := by simp [put, h]
theorem below_take (h : Below N s b y) {v m : Nat} (hv : v < 4) (hm : y v + m ≤ b v + inn N s y v) : Below N s b (put y v (y v + m)) := fun z hz u hu => by
  by_cases e : u = v
  · subst e
    rw [put_same]
    refine Nat.le_trans hm (Nat.le_trans ?_ (hz u hu))
    exact Nat.add_le_add_left (inn_mono (fun w hw => h z hz w hw) u) _
  · rw [put_ne y e]; exact h z hz u hu
theorem Below.lst (h : Below N s b y) (e : ∀ u, u < 4 → b u + inn N s y u = y u) : Lst N s b y := ⟨e, h⟩
/-- more balls to v: what falls grows -/
theorem inn_put {v m : Nat} (hm : y v ≤ m) (u : Nat) : inn N s y u ≤ inn N s (put y v m) u := inn_mono (fun w _ => by
  by_cases e : w = v
  · subst e; rw [put_same]; exact hm
  · rw [put_ne y e]; exact Nat.le_refl _) u
theorem S4_put {v m : Nat} (hv : v < 4) : S4 (put y v m) + y v = S4 y + m := by
  rcases lt4 hv with rfl | rfl | rfl | rfl <;> (simp [S4, put]; omega)
theorem lst_ex (hz : Sol N s b z) : ∀ (g : Nat) (y : Nat → Nat), S4 z - S4 y ≤ g → Below N s b y → (∀ u, u < 4 → y u ≤ b u + inn N s y u) → ∃ x, Lst N s b x
  | g, y, hg, hb, hw => by
    by_cases c : ∀ u, u < 4 → b u + inn N s y u = y u
    · exact ⟨y, hb.lst c⟩
    · have : ∃ u, u < 4 ∧ y u < b u + inn N s y u := by
        refine Classical.byContradiction fun hn => c fun u hu => ?_
        refine Nat.le_antisymm ?_ (hw u hu)
        exact Nat.le_of_not_lt fun hl => hn ⟨u, hu, hl⟩
      obtain ⟨v, hv, hl⟩ := this
      have hb' := below_take (m := 1) hb hv (by omega)
      have h1 := S4_put (y := y) (v := v) (m := y v + 1) hv
      have h2 : S4 (put y v (y v + 1)) ≤ S4 z := S4_le fun u hu => hb' z hz u hu
      cases g with
      | zero => omega
      | succ g =>
        refine lst_ex hz g (put y v (y v + 1)) (by omega) hb' fun u hu => ?_
        have h3 := inn_put (N := N) (s := s) (y := y) (v := v) (m := y v + 1) (by omega) u
        by_cases e : u = v
        · subst e; rw [put_same]; omega
        · rw [put_ne y e]; have := hw u hu; omega
  termination_by g => g
theorem Sol.ex (hz : Sol N s b z) : ∃ x, Lst N s b x := lst_ex hz _ (fun _ => 0) (Nat.le_refl _) below_zero fun u _ => Nat.zero_le _
/-- one behind the other -/
theorem Lst.comp {b' x' : Nat → Nat} (h : Lst N s b x) (h' : Lst N (aft N s x) b' x') : Lst N s (fun u => b u + b' u) (fun u => x u + x' u) where
  bal := fun u hu => by
    rw [inn_add]
    have := h.bal u hu
    have := h'.bal u hu
    omega
  min := fun z hz u hu => by
    have h1 : ∀ u, u < 4 → x u ≤ z u := h.min z fun u hu => by have := hz u hu; simp only at this; omega
    have h2 : Sol N (aft N s x) b' (fun u => z u - x u) := fun w hw => by
      have e : inn N s z w = inn N s x w + inn N (aft N s x) (fun u => z u - x u) w := by
        rw [← inn_add]
        exact inn_congr (fun v hv => by have := h1 v hv; omega) w
      have := hz w hw
      have := h.bal w hw
      have := h1 w hw
      simp only at *
      omega
    have := h'.min _ h2 u hu
    have := h1 u hu
    omega
theorem Lst.zero : Lst N s (fun _ => 0) (fun _ => 0) := ⟨fun u _ => by rw [inn_zero], fun _ _ _ _ => Nat.zero_le _⟩
theorem Lst.of_b {b' : Nat → Nat} (h : Lst N s b x) (e : ∀ u, u < 4 → b u = b' u) : Lst N s b' x := ⟨fun u hu => by rw [← e u hu]; exact h.bal u hu, fun z hz => h.min z fun u hu => by rw [e u hu]; exact hz u hu⟩
end

/-- all balls settle, and whole turns are told by what they take -/
structure Nice (N : Nt) : Prop extends Sound N where
  wt : ∃ k : Nat → Nat, ∀ u, u < 4 → 1 + S4 (fun v => k v * cnt N v u) ≤ k u * per N u
  ns : ∀ w w' : Nat → Nat, (∀ u, u < 4 → w u * per N u + S4 (fun v => w' v * cnt N v u) = w' u * per N u + S4 (fun v => w v * cnt N v u)) → ∀ u, u < 4 → w u = w' u
  /-- each knot is met from the first one -/
  met : ∀ v, v + 1 < N.length → 1 ≤ cnt N v (v + 1)

section
variable {N : Nt} {s b x y z t : Nat → Nat}
/-- all knots stand in their turns -/
def InT (N : Nt) (s : Nat → Nat) : Prop := ∀ v, (kn N v).fr.length ≤ s v
theorem InT.aft (h : InT N s) : InT N (aft N s x) := fun v => plc_ge (h v) _
theorem inn_turns (S : Sound N) (hs : Stg N s) (h : InT N s) (t : Nat → Nat) (u : Nat) : inn N s (fun v => t v * per N v) u = S4 fun v => t v * cnt N v u :=
  S4_congr fun v _ => (turn_mul (S.tu v) (h v) (hs v) (t v)).2
theorem aft_turns (S : Sound N) (hs : Stg N s) (h : InT N s) (t : Nat → Nat) : aft N s (fun v => t v * per N v) = s := by
  funext v; exact (turn_mul (u := 0) (S.tu v) (h v) (hs v) (t v)).1
theorem Nice.sol (C : Nice N) (hs : Stg N s) (b : Nat → Nat) : ∃ z, Sol N s b z := by
  obtain ⟨k, hk⟩ := C.wt
  -- first the fronts
  let r : Nat → Nat := fun v => (kn N v).fr.length - s v
  have hr : InT N (aft N s r) := fun v => by
    show (kn N v).fr.length ≤ plc (kn N v) (s v) ((kn N v).fr.length - s v)
    have h0 := C.per v
    rw [plc_lin _ (by have := hs v; have : (kn N v).len = (kn N v).fr.length + per N v := rfl; omega)]
    omega
  let c : Nat := S4 fun u => b u + inn N s r u
  refine ⟨fun v => r v + (c * k v) * per N v, fun u hu => ?_⟩
  rw [inn_add, inn_turns C.toSound (hs.aft C.toSound) hr]
  have e : S4 (fun v => c * k v * cnt N v u) = c * S4 (fun v => k v * cnt N v u) := by
    rw [← S4_mul]; exact S4_congr fun v _ => Nat.mul_assoc _ _ _
  rw [e]
  have h1 : b u + inn N s r u ≤ c := S4_at_le (f := fun u => b u + inn N s r u) hu
  have h2 := Nat.mul_le_mul_left c (hk u hu)
  rw [Nat.mul_add, Nat.mul_one, ← Nat.mul_assoc] at h2
  show b u + (inn N s r u + c * S4 (fun v => k v * cnt N v u)) ≤ r u + c * k u * per N u
  omega
theorem Nice.lst (C : Nice N) (hs : Stg N s) (b : Nat → Nat) : ∃ x, Lst N s b x := (C.sol hs b).elim fun _ h => h.ex

/-! ### the odometer and the standing behind balls -/
open Classical in
noncomputable def odo (N : Nt) (s b : Nat → Nat) : Nat → Nat := if h : ∃ x, Lst N s b x then h.choose else fun _ => 0
noncomputable def E (N : Nt) (s b : Nat → Nat) : Nat → Nat := aft N s (odo N s b)
/-- what comes out -/
noncomputable def outs (N : Nt) (s b : Nat → Nat) (u : Nat) : Nat := inn N s (odo N s b) u
theorem Nice.lstO (C : Nice N) (hs : Stg N s) (b : Nat → Nat) : Lst N s b (odo N s b) := by
  have h := C.lst hs b
  unfold Ch.odo
  rw [dif_pos h]
  exact h.choose_spec
theorem Nice.stgE (C : Nice N) (hs : Stg N s) (b : Nat → Nat) : Stg N (E N s b) := hs.aft C.toSound
theorem Nice.E_of (C : Nice N) (hs : Stg N s) (h : Lst N s b x) : E N s b = aft N s x := aft_congr C.toSound hs ((C.lstO hs b).uniq h)
theorem Nice.outs_of (C : Nice N) (hs : Stg N s) (h : Lst N s b x) (u : Nat) : outs N s b u = inn N s x u := inn_congr ((C.lstO hs b).uniq h) u
def pl (b b' : Nat → Nat) : Nat → Nat := fun u => b u + b' u
theorem Nice.add (C : Nice N) (hs : Stg N s) (b b' : Nat → Nat) : (∀ u, u < 4 → odo N s (pl b b') u = odo N s b u + odo N (E N s b) b' u) ∧ E N s (pl b b') = E N (E N s b) b' ∧ (∀ u, outs N s (pl b b') u = outs N s b u + outs N (E N s b) b' u) := by
  have h1 := C.lstO hs b
  have h2 := C.lstO (C.stgE hs b) b'
  have h3 : Lst N s (pl b b') (fun u => odo N s b u + odo N (E N s b) b' u) := h1.comp h2
  refine ⟨(C.lstO hs _).uniq h3, ?_, fun u => ?_⟩
  · rw [C.E_of hs h3, aft_add]; rfl
  · rw [C.outs_of hs h3, inn_add]; rfl
theorem Nice.E_zero (C : Nice N) (hs : Stg N s) : E N s (fun _ => 0) = s := by rw [C.E_of hs Lst.zero, aft_zero]
theorem Nice.outs_zero (C : Nice N) (hs : Stg N s) (u : Nat) : outs N s (fun _ => 0) u = 0 := by rw [C.outs_of hs Lst.zero, inn_zero]
/-- balls of m times b -/
def mu (m : Nat) (b : Nat → Nat) : Nat → Nat := fun u => m * b u
theorem mu_one (b : Nat → Nat) : mu 1 b = b := by funext u; simp [mu]
theorem mu_zero (b : Nat → Nat) : mu 0 b = fun _ => 0 := by funext u; simp [mu]
theorem mu_succ (m : Nat) (b : Nat → Nat) : mu (m + 1) b = pl (mu m b) b := by funext u; simp [mu, pl, Nat.succ_mul]
theorem mu_add (m l : Nat) (b : Nat → Nat) : mu (m + l) b = pl (mu m b) (mu l b) := by funext u; simp [mu, pl, Nat.add_mul]
theorem mu_mul (m l : Nat) (b : Nat → Nat) : mu (m * l) b = mu m (mu l b) := by funext u; simp [mu, Nat.mul_assoc]
theorem pl_comm (b b' : Nat → Nat) : pl b b' = pl b' b := by funext u; simp [pl, Nat.add_comm]
theorem Nice.comm (C : Nice N) (hs : Stg N s) (b b' : Nat → Nat) : E N (E N s b) b' = E N (E N s b') b := by
  rw [← (C.add hs b b').2.1, pl_comm, (C.add hs b' b).2.1]
theorem Nice.fixmul (C : Nice N) (hs : Stg N s) (h : E N s b = s) : ∀ m, E N s (mu m b) = s
  | 0 => by rw [mu_zero]; exact C.E_zero hs
  | m + 1 => by rw [mu_succ, (C.add hs _ _).2.1, C.fixmul hs h m, h]
end
end Ch
end
section
/-! M3: what comes back. Plain Lean. -/
set_option linter.all false
namespace Ch

theorem S4_lt {f g : Nat → Nat} (h : ∀ v, v < 4 → f v ≤ g v) {v : Nat} (hv : v < 4) (e : S4 f = S4 g) : f v = g v := by
  have h0 := h 0 (by decide); have h1 := h 1 (by decide); have h2 := h 2 (by decide); have h3 := h 3 (by decide)
  unfold S4 at e
  rcases lt4 hv with rfl | rfl | rfl | rfl <;> omega

section
variable {N : Nt} {s B t : Nat → Nat}
/-- turns t that take just B -/
def Tak (N : Nt) (B t : Nat → Nat) : Prop := ∀ u, u < 4 → t u * per N u = B u + S4 (fun v => t v * cnt N v u)
theorem Tak.sol (S : Sound N) (h : Tak N B t) (hs : Stg N s) (ht : InT N s) : Sol N s B (fun v => t v * per N v) := fun u hu => by
  rw [inn_turns S hs ht]; have := h u hu; simp only; omega
theorem Tak.le (C : Nice N) (h : Tak N B t) (hs : Stg N s) (ht : InT N s) : ∀ u, u < 4 → odo N s B u ≤ t u * per N u :=
  (C.lstO hs B).min _ (h.sol C.toSound hs ht)
theorem InT.E (C : Nice N) (ht : InT N s) (b : Nat → Nat) : InT N (E N s b) := ht.aft
theorem Tak.le_mul (C : Nice N) (h : Tak N B t) : ∀ (j : Nat) {s : Nat → Nat}, Stg N s → InT N s → ∀ u, u < 4 → odo N s (mu j B) u ≤ j * (t u * per N u)
  | 0, s, hs, _, u, hu => by
    rw [mu_zero, (C.lstO hs _).uniq Lst.zero u hu]; exact Nat.zero_le _
  | j + 1, s, hs, ht, u, hu => by
    rw [mu_succ, (C.add hs _ _).1 u hu, Nat.succ_mul]
    exact Nat.add_le_add (h.le_mul C j hs ht u hu) (h.le C (C.stgE hs _) (ht.E C _) u hu)
/-- back again behind whole turns: they are told -/
theorem turns_of (C : Nice N) (hs : Stg N s) (ht : InT N s) {b : Nat → Nat} (h : E N s b = s) : ∃ q : Nat → Nat, (∀ u, odo N s b u = q u * per N u) ∧ Tak N b q := by
  have h1 : ∀ v, ∃ q, odo N s b v = q * per N v := fun v => turn_of (C.tu v) (ht v) (hs v) (show plc (kn N v) (s v) (odo N s b v) = s v from congrFun h v)
  refine ⟨fun v => (h1 v).choose, fun v => (h1 v).choose_spec, fun u hu => ?_⟩
  have e : ∀ v, odo N s b v = (h1 v).choose * per N v := fun v => (h1 v).choose_spec
  have bal := (C.lstO hs b).bal u hu
  have e2 : odo N s b = fun v => (h1 v).choose * per N v := funext e
  rw [e2] at bal
  rw [inn_turns C.toSound hs ht (fun v => (h1 v).choose)] at bal
  exact bal.symm
theorem Tak.uniq (C : Nice N) {t' : Nat → Nat} (h : Tak N B t) (h' : Tak N B t') : ∀ u, u < 4 → t u = t' u :=
  C.ns t t' fun u hu => by have := h u hu; have := h' u hu; omega
theorem Tak.mul (h : Tak N B t) (j : Nat) : Tak N (mu j B) (fun v => j * t v) := fun u hu => by
  have e : S4 (fun v => j * t v * cnt N v u) = j * S4 (fun v => t v * cnt N v u) := by
    rw [← S4_mul]; exact S4_congr fun v _ => Nat.mul_assoc _ _ _
  rw [e, Nat.mul_assoc, h u hu, Nat.mul_add]; rfl
theorem Tak.fix (C : Nice N) (h : Tak N B t) (hs : Stg N s) (ht : InT N s) {j : Nat} (hj : 1 ≤ j) (hc : E N s (mu j B) = s) : E N s B = s ∧ ∀ u, u < 4 → odo N s B u = t u * per N u := by
  obtain ⟨q, hq, hT⟩ := turns_of C hs ht hc
  have e1 := hT.uniq C (h.mul j)
  obtain ⟨i, rfl⟩ : ∃ i, j = i + 1 := ⟨j - 1, by omega⟩
  have e2 : ∀ u, u < 4 → odo N s B u = t u * per N u := fun u hu => by
    have a1 := hq u
    rw [e1 u hu, mu_succ, pl_comm, (C.add hs _ _).1 u hu, Nat.mul_assoc, Nat.succ_mul] at a1
    have a2 := h.le C hs ht u hu
    have a3 := h.le_mul C i (C.stgE hs B) (ht.E C B) u hu
    omega
  refine ⟨?_, e2⟩
  have e3 : E N s B = aft N s (fun v => t v * per N v) := aft_congr C.toSound hs e2
  rw [e3, aft_turns C.toSound hs ht]

/-! ### finitely many standings -/
theorem pigeonM : ∀ (M : Nat) (f : Nat → Nat), (∀ i, i ≤ M → f i < M) → ∃ i j, i < j ∧ j ≤ M ∧ f i = f j
  | 0, f, h => absurd (h 0 (Nat.le_refl _)) (Nat.not_lt_zero _)
  | M + 1, f, h => by
    by_cases c : ∃ i, i ≤ M ∧ f i = f (M + 1)
    · obtain ⟨i, hi, e⟩ := c
      exact ⟨i, M + 1, by omega, Nat.le_refl _, e⟩
    · have c' : ∀ i, i ≤ M → f i ≠ f (M + 1) := fun i hi e => c ⟨i, hi, e⟩
      obtain ⟨i, j, h1, h2, e⟩ := pigeonM M (fun i => if f i = M then f (M + 1) else f i) fun i hi => by
        have a := h i (by omega)
        have b := h (M + 1) (Nat.le_refl _)
        have d := c' i hi
        show (if f i = M then f (M + 1) else f i) < M
        split <;> omega
      refine ⟨i, j, h1, by omega, ?_⟩
      have d1 := c' i (by omega)
      have d2 := c' j h2
      split at e <;> split at e <;> omega
theorem pigeon {M : Nat} {f : Nat → Nat} (h : ∀ i, f i < M) : ∃ i j, 1 ≤ j ∧ f i = f (i + j) := by
  obtain ⟨i, j, h1, _, e⟩ := pigeonM M f fun i _ => h i
  exact ⟨i, j - i, by omega, by rw [e]; congr 1; omega⟩
/-- a standing as a number -/
def code (L : Nat) (s : Nat → Nat) : Nat := s 0 + L * (s 1 + L * (s 2 + L * s 3))
theorem digit {L a b a' b' : Nat} (ha : a < L) (ha' : a' < L) (e : a + L * b = a' + L * b') : a = a' ∧ b = b' := by
  have h1 : a = a' := by
    have := congrArg (· % L) e
    simpa [Nat.add_mul_mod_self_left, Nat.mod_eq_of_lt ha, Nat.mod_eq_of_lt ha'] using this
  subst h1
  exact ⟨rfl, Nat.eq_of_mul_eq_mul_left (by omega) (Nat.add_left_cancel e)⟩
theorem code_inj {L : Nat} {s s' : Nat → Nat} (h : ∀ v, v < 4 → s v < L) (h' : ∀ v, v < 4 → s' v < L) (e : code L s = code L s') : ∀ v, v < 4 → s v = s' v := fun v hv => by
  unfold code at e
  obtain ⟨e0, e⟩ := digit (h 0 (by decide)) (h' 0 (by decide)) e
  obtain ⟨e1, e⟩ := digit (h 1 (by decide)) (h' 1 (by decide)) e
  obtain ⟨e2, e⟩ := digit (h 2 (by decide)) (h' 2 (by decide)) e
  have e3 : s 3 = s' 3 := e
  rcases lt4 hv with rfl | rfl | rfl | rfl <;> assumption
theorem code_lt {L : Nat} {s : Nat → Nat} (h : ∀ v, v < 4 → s v < L) : code L s < L * (L * (L * L)) := by
  have step : ∀ {a b K : Nat}, a < L → b < K → a + L * b < L * K := fun {a b K} ha hb => by
    have : L * (b + 1) ≤ L * K := Nat.mul_le_mul_left L hb
    rw [Nat.mul_add, Nat.mul_one] at this
    omega
  exact step (h 0 (by decide)) (step (h 1 (by decide)) (step (h 2 (by decide)) (h 3 (by decide))))
theorem stg_bound (hs : Stg N s) : ∃ L, ∀ s, Stg N s → ∀ v, v < 4 → s v < L :=
  ⟨(kn N 0).len + (kn N 1).len + (kn N 2).len + (kn N 3).len, fun s hs v hv => by
    have := hs 0; have := hs 1; have := hs 2; have := hs 3
    rcases lt4 hv with rfl | rfl | rfl | rfl <;> omega⟩
/-- a walk through standings meets one again -/
theorem meets (S : Sound N) {f : Nat → Nat → Nat} (h : ∀ i, Stg N (f i)) : ∃ i j, 1 ≤ j ∧ f i = f (i + j) := by
  obtain ⟨L, hL⟩ := stg_bound (h 0)
  obtain ⟨i, j, hj, e⟩ := pigeon (f := fun i => code L (f i)) fun i => code_lt (hL _ (h i))
  have n4 := S.n4
  exact ⟨i, j, hj, stg_ext (h i) (h _) fun v hv => code_inj (hL _ (h i)) (hL _ (h _)) e v (by omega)⟩

/-! ### one ball after another at the first knot -/
def e1 : Nat → Nat := fun u => if u = 0 then 1 else 0
def Cyc (N : Nt) (s : Nat → Nat) : Prop := ∃ j, 1 ≤ j ∧ E N s (mu j e1) = s
theorem plc_up {k : Kn} (ht : k.tu ≠ []) {p x : Nat} (hp : p < k.fr.length) (hx : 1 ≤ x) : plc k p x ≠ p := by
  have h0 : 0 < k.per := List.length_pos_iff.mpr ht
  have hl : k.len = k.fr.length + k.per := rfl
  rw [plc_closed ht (by omega)]
  split <;> omega
theorem taken_turn (C : Nice N) {b : Nat → Nat} (h : E N s b = s) {v : Nat} (hx : 1 ≤ odo N s b v) : (kn N v).fr.length ≤ s v := by
  refine Nat.le_of_not_lt fun hl => ?_
  exact plc_up (C.tu v) hl hx (congrFun h v)
theorem inT_of (h : ∀ v, v < N.length → (kn N v).fr.length ≤ s v) : InT N s := fun v => by
  by_cases c : v < N.length
  · exact h v c
  · rw [kn_out (by omega)]; exact Nat.zero_le _
theorem Cyc.inT (C : Nice N) (hs : Stg N s) (h : Cyc N s) : InT N s := by
  obtain ⟨j, hj, hc⟩ := h
  have n4 := C.n4
  have key : ∀ v, v < N.length → 1 ≤ odo N s (mu j e1) v := fun v => by
    induction v with
    | zero =>
      intro _
      have := (C.lstO hs (mu j e1)).bal 0 (by decide)
      simp [mu, e1] at this
      omega
    | succ v ih =>
      intro hv
      have i1 := ih (by omega)
      have i2 := taken_turn C hc i1
      obtain ⟨q, hq⟩ := turn_of (C.tu v) i2 (hs v) (show plc (kn N v) (s v) (odo N s (mu j e1) v) = s v from congrFun hc v)
      have q1 : 1 ≤ q := by
        rcases Nat.eq_zero_or_pos q with z | z
        · rw [z, Nat.zero_mul] at hq; omega
        · exact z
      have f1 : fall (kn N v) (s v) (v + 1) (odo N s (mu j e1) v) = q * cnt N v (v + 1) := by rw [hq]; exact (turn_mul (C.tu v) i2 (hs v) q).2
      have f2 : 1 ≤ q * cnt N v (v + 1) := Nat.mul_pos q1 (C.met v hv)
      have f3 : fall (kn N v) (s v) (v + 1) (odo N s (mu j e1) v) ≤ inn N s (odo N s (mu j e1)) (v + 1) := S4_at_le (f := fun v' => fall (kn N v') (s v') (v + 1) (odo N s (mu j e1) v')) (by omega)
      have := (C.lstO hs (mu j e1)).bal (v + 1) (by omega)
      omega
  exact inT_of fun v hv => taken_turn C hc (key v hv)
/-- the round at the first knot: many balls, by turns t -/
structure Rnd (N : Nt) (m : Nat) (t : Nat → Nat) : Prop where
  m1 : 1 ≤ m
  tak : Tak N (mu m e1) t
theorem Rnd.pos (C : Nice N) {m : Nat} (R : Rnd N m t) : ∀ v, v < N.length → 1 ≤ t v := fun v => by
  have n4 := C.n4
  induction v with
  | zero =>
    intro _
    have a := R.tak 0 (by decide)
    have a2 := R.m1
    simp only [mu, e1, if_true, Nat.mul_one] at a
    rcases Nat.eq_zero_or_pos (t 0) with z | z
    · rw [z, Nat.zero_mul] at a; omega
    · exact z
  | succ v ih =>
    intro hv
    have a := R.tak (v + 1) (by omega)
    have b : t v * cnt N v (v + 1) ≤ S4 (fun v' => t v' * cnt N v' (v + 1)) := S4_at_le (f := fun v' => t v' * cnt N v' (v + 1)) (by omega)
    have c : 1 ≤ t v * cnt N v (v + 1) := Nat.mul_pos (ih (by omega)) (C.met v hv)
    rcases Nat.eq_zero_or_pos (t (v + 1)) with z | z
    · rw [z, Nat.zero_mul] at a; omega
    · exact z
theorem Cyc.round (C : Nice N) (hs : Stg N s) (h : Cyc N s) {m : Nat} (R : Rnd N m t) (J : Nat) : E N s (mu J (mu m e1)) = s ∧ ∀ u, u < 4 → odo N s (mu J (mu m e1)) u = J * (t u * per N u) := by
  have ht := h.inT C hs
  obtain ⟨j, hj, hc⟩ := h
  have h1 : E N s (mu j (mu m e1)) = s := by
    have := C.fixmul hs hc m
    rw [← mu_mul, Nat.mul_comm, mu_mul] at this
    exact this
  obtain ⟨h2, h3⟩ := R.tak.fix C hs ht hj h1
  refine ⟨C.fixmul hs h2 J, ?_⟩
  induction J with
  | zero => intro u hu; rw [mu_zero, (C.lstO hs _).uniq Lst.zero u hu, Nat.zero_mul]
  | succ J ih =>
    intro u hu
    rw [mu_succ, (C.add hs _ _).1 u hu, ih u hu, C.fixmul hs h2 J, h3 u hu, Nat.succ_mul]
/-- balls at all knots that bring a standing back: then it comes back by balls at the first knot -/
theorem cyc_of_fix (C : Nice N) (hs : Stg N s) (hB : 1 ≤ B 0) (h : E N s B = s) : Cyc N s := by
  obtain ⟨i, j, hj, e⟩ := meets C.toSound (f := fun i => E N s (mu i e1)) fun i => C.stgE hs _
  refine ⟨j, hj, ?_⟩
  have h1 : E N s (mu i B) = s := C.fixmul hs h i
  let D : Nat → Nat := fun u => i * B u - i * e1 u
  have h2 : mu i B = pl (mu i e1) D := by
    funext u
    show i * B u = i * e1 u + (i * B u - i * e1 u)
    have : i * e1 u ≤ i * B u := Nat.mul_le_mul_left i (by unfold e1; split <;> (try subst u) <;> omega)
    omega
  rw [h2, (C.add hs _ _).2.1] at h1
  have e' : E N (E N s (mu i e1)) (mu j e1) = E N s (mu i e1) := by
    rw [← (C.add hs _ _).2.1, ← mu_add]; exact e.symm
  have h3 := C.comm (C.stgE hs (mu i e1)) D (mu j e1)
  rw [e', h1] at h3
  exact h3
/-- .. and the other way -/
theorem Cyc.fix (C : Nice N) (hs : Stg N s) (h : Cyc N s) {m : Nat} {τ : Nat → Nat} (R : Rnd N m τ) (hT : Tak N B t) (h0 : ∀ u, N.length ≤ u → u < 4 → t u = 0) : E N s B = s := by
  have ht := h.inT C hs
  have hle := hT.le C hs ht
  -- behind the balls
  have hs2 := C.stgE hs B
  have h2 : Cyc N (E N s B) := by
    obtain ⟨j, hj, hc⟩ := h
    exact ⟨j, hj, by rw [C.comm hs, hc]⟩
  let z : Nat → Nat := fun u => t u * per N u - odo N s B u
  have hz : ∀ u, u < 4 → odo N s B u + z u = t u * per N u := fun u hu => by have := hle u hu; simp only [z]; omega
  have ez : ∀ u, inn N s (odo N s B) u + inn N (E N s B) z u = S4 (fun v => t v * cnt N v u) := fun u => by
    rw [← inn_turns C.toSound hs ht t, show E N s B = aft N s (odo N s B) from rfl, ← inn_add]
    exact inn_congr hz u
  have ez2 : ∀ u, u < 4 → inn N (E N s B) z u = z u := fun u hu => by
    have a1 := ez u
    have a2 := (C.lstO hs B).bal u hu
    have a3 := hT u hu
    have a4 := hz u hu
    omega
  have az : aft N (E N s B) z = s := by
    rw [show E N s B = aft N s (odo N s B) from rfl, ← aft_add]
    exact (aft_congr C.toSound hs hz).trans (aft_turns C.toSound hs ht t)
  -- many rounds
  let J : Nat := S4 z
  let Y : Nat → Nat := fun u => J * (τ u * per N u)
  have hY : ∀ u, u < 4 → z u ≤ Y u := fun u hu => by
    by_cases c : u < N.length
    · have a1 : z u ≤ J := S4_at_le hu
      have a2 : 1 ≤ τ u * per N u := Nat.mul_pos (R.pos C u c) (C.per u)
      calc z u ≤ J * 1 := by omega
        _ ≤ J * (τ u * per N u) := Nat.mul_le_mul_left J a2
    · have a3 : z u = 0 := by simp only [z]; rw [h0 u (by omega) hu, Nat.zero_mul, Nat.zero_sub]
      rw [a3]; exact Nat.zero_le _
  obtain ⟨_, o1⟩ := h.round C hs R J
  obtain ⟨_, o2⟩ := h2.round C hs2 R J
  have w1 : Sol N s (mu J (mu m e1)) (fun u => Y u - z u) := fun u hu => by
    have b := (C.lstO hs2 (mu J (mu m e1))).bal u hu
    rw [o2 u hu] at b
    have c : inn N (E N s B) (odo N (E N s B) (mu J (mu m e1))) u = inn N (E N s B) z u + inn N s (fun u => Y u - z u) u := by
      conv => rhs; rw [← az]
      rw [az, show inn N s (fun u => Y u - z u) u = inn N (aft N (E N s B) z) (fun u => Y u - z u) u by rw [az], ← inn_add]
      refine inn_congr (fun v hv => ?_) u
      rw [o2 v hv]
      have := hY v hv
      show Y v = z v + (Y v - z v)
      omega
    rw [c, ez2 u hu] at b
    have := hY u hu
    show mu J (mu m e1) u + inn N s (fun u => Y u - z u) u ≤ Y u - z u
    have : Y u = J * (τ u * per N u) := rfl
    omega
  have zz : ∀ u, u < 4 → z u = 0 := fun u hu => by
    have a := (C.lstO hs (mu J (mu m e1))).min _ w1 u hu
    rw [o1 u hu] at a
    have a' : Y u ≤ Y u - z u := a
    have := hY u hu
    omega
  have e3 : E N s B = aft N s (fun v => t v * per N v) := aft_congr C.toSound hs fun u hu => by
    have := hz u hu; rw [zz u hu] at this; omega
  rw [e3, aft_turns C.toSound hs ht]
/-- from any standing, balls at all knots again and again lead to one that they bring back -/
theorem back_ex (C : Nice N) (hs : Stg N s) (hB : ∀ u, u < N.length → 1 ≤ B u) (hT : Tak N B t) : ∃ k, E N (E N s (mu k B)) B = E N s (mu k B) := by
  obtain ⟨i, j, hj, e⟩ := meets C.toSound (f := fun i => E N s (mu i B)) fun i => C.stgE hs _
  refine ⟨i, ?_⟩
  have hr := C.stgE hs (mu i B)
  have e' : E N (E N s (mu i B)) (mu j B) = E N s (mu i B) := by
    rw [← (C.add hs _ _).2.1, ← mu_add]; exact e.symm
  have n4 := C.n4
  have ht : InT N (E N s (mu i B)) := inT_of fun v hv => taken_turn C e' (by
    have a := (C.lstO hr (mu j B)).bal v (by omega)
    have b : 1 ≤ mu j B v := Nat.mul_pos hj (hB v hv)
    omega)
  exact (hT.fix C hr ht hj e').1
end
end Ch
end
section
/-! M4: rows ball by ball: a front, then a period; the shortest ones. Plain Lean. -/
set_option linter.all false
namespace Ch

/-! ### sequences told by a front and a period -/
section
variable {α : Type}
def told (f p : List α) (k : Nat) : Option α := if k < f.length then f[k]? else p[(k - f.length) % p.length]?
structure Tells (r : Nat → α) (f p : List α) : Prop where
  ne : p ≠ []
  at_ : ∀ k, told f p k = some (r k)
theorem Tells.front {r : Nat → α} {f p : List α} (h : Tells r f p) {k : Nat} (hk : k < f.length) : f[k]? = some (r k) := by
  have := h.at_ k; unfold told at this; rw [if_pos hk] at this; exact this
theorem Tells.pos {r : Nat → α} {f p : List α} (h : Tells r f p) : 0 < p.length := List.length_pos_iff.mpr h.ne
theorem Tells.per {r : Nat → α} {f p : List α} (h : Tells r f p) (k : Nat) : p[k % p.length]? = some (r (f.length + k)) := by
  have := h.at_ (f.length + k); unfold told at this; rw [if_neg (by omega), Nat.add_sub_cancel_left] at this; exact this
theorem Tells.again {r : Nat → α} {f p : List α} (h : Tells r f p) {k : Nat} (hk : f.length ≤ k) : r (k + p.length) = r k := by
  obtain ⟨j, rfl⟩ := Nat.le.dest hk
  have a := h.per j
  have b := h.per (j + p.length)
  rw [Nat.add_mod_right, a, ← Nat.add_assoc] at b
  exact (Option.some.inj b).symm
theorem Tells.again_mul {r : Nat → α} {f p : List α} (h : Tells r f p) {k : Nat} (hk : f.length ≤ k) : ∀ q, r (k + q * p.length) = r k
  | 0 => by rw [Nat.zero_mul]; rfl
  | q + 1 => by rw [Nat.succ_mul, ← Nat.add_assoc, h.again (by omega), h.again_mul hk q]
/-- a walk's rows: to the first place met again, and around -/
theorem tells_of {r : Nat → α} {a l : Nat} (hl : a < l) (h : ∀ k, a ≤ k → r (k + (l - a)) = r k) : Tells r (((List.range l).map r).take a) (((List.range l).map r).drop a) where
  ne := by
    rw [← List.length_pos_iff, List.length_drop, List.length_map, List.length_range]; omega
  at_ := fun k => by
    have lf : (((List.range l).map r).take a).length = a := by rw [List.length_take, List.length_map, List.length_range]; omega
    have lp : (((List.range l).map r).drop a).length = l - a := by rw [List.length_drop, List.length_map, List.length_range]
    have hm : ∀ (q k : Nat), a ≤ k → r (k + q * (l - a)) = r k := fun q => by
      induction q with
      | zero => intro k _; rw [Nat.zero_mul]; rfl
      | succ q ih => intro k hk; rw [Nat.succ_mul, ← Nat.add_assoc, h _ (by omega), ih k hk]
    unfold told
    rw [lf, lp]
    split
    · rw [List.getElem?_take_of_lt (by assumption), List.getElem?_map, List.getElem?_range (by omega)]; rfl
    · have hr : (k - a) % (l - a) < l - a := Nat.mod_lt _ (by omega)
      rw [List.getElem?_drop, List.getElem?_map, List.getElem?_range (by omega)]
      have e : a + (k - a) % (l - a) + ((k - a) / (l - a)) * (l - a) = k := by
        have := Nat.mod_add_div (k - a) (l - a)
        rw [Nat.mul_comm] at this
        omega
      have := hm ((k - a) / (l - a)) (a + (k - a) % (l - a)) (by omega)
      rw [e] at this
      rw [this]; rfl

/-! ### the shortest period -/
/-- p is its first d again and again -/
def Rep (p : List α) (d : Nat) : Prop := p.length % d = 0 ∧ p = (List.replicate (p.length / d) (p.take d)).flatten
theorem rep_get {q : List α} (hq : q ≠ []) : ∀ (m i : Nat), i < m * q.length → ((List.replicate m q).flatten)[i]? = q[i % q.length]?
  | 0, i, h => by omega
  | m + 1, i, h => by
    have h0 : 0 < q.length := List.length_pos_iff.mpr hq
    rw [List.replicate_succ, List.flatten_cons]
    by_cases c : i < q.length
    · rw [List.getElem?_append_left c, Nat.mod_eq_of_lt c]
    · rw [List.getElem?_append_right (by omega), rep_get hq m (i - q.length) (by rw [Nat.succ_mul] at h; omega)]
      congr 1
      conv => rhs; rw [show i = (i - q.length) + q.length by omega, Nat.add_mod_right]
theorem rep_length (q : List α) (m : Nat) : ((List.replicate m q).flatten).length = m * q.length := by simp
theorem Rep.get {p : List α} {d : Nat} (hd : 1 ≤ d) (hl : d ≤ p.length) (h : Rep p d) {i : Nat} (hi : i < p.length) : p[i]? = (p.take d)[i % d]? := by
  obtain ⟨h1, h2⟩ := h
  have lt : (p.take d).length = d := by rw [List.length_take]; omega
  have ne : p.take d ≠ [] := by rw [← List.length_pos_iff]; omega
  have e : p.length / d * d = p.length := Nat.div_mul_cancel (Nat.dvd_of_mod_eq_zero h1)
  have := rep_get ne (p.length / d) i (by rw [lt, e]; exact hi)
  rw [← h2, lt] at this
  exact this
theorem Rep.of {p : List α} {d : Nat} (hd : 1 ≤ d) (hl : d ≤ p.length) (h1 : p.length % d = 0) (h : ∀ i, i < p.length → p[i]? = p[i % d]?) : Rep p d := by
  refine ⟨h1, ?_⟩
  have lt : (p.take d).length = d := by rw [List.length_take]; omega
  have ne : p.take d ≠ [] := by rw [← List.length_pos_iff]; omega
  have e : p.length / d * d = p.length := Nat.div_mul_cancel (Nat.dvd_of_mod_eq_zero h1)
  refine List.ext_getElem? fun i => ?_
  by_cases c : i < p.length
  · rw [rep_get ne _ i (by rw [lt, e]; exact c), lt, h i c, List.getElem?_take_of_lt (Nat.mod_lt _ (by omega))]
  · rw [List.getElem?_eq_none (by omega), List.getElem?_eq_none (by rw [rep_length, lt, e]; omega)]
theorem Tells.cut {r : Nat → α} {f p : List α} (h : Tells r f p) {d : Nat} (hd : 1 ≤ d) (hl : d ≤ p.length) (hr : Rep p d) : Tells r f (p.take d) := by
  have lt : (p.take d).length = d := by rw [List.length_take]; omega
  refine ⟨by rw [← List.length_pos_iff]; omega, fun k => ?_⟩
  have a := h.at_ k
  unfold told at *
  split
  · rename_i c; rw [if_pos c] at a; exact a
  · rename_i c
    rw [if_neg c] at a
    rw [lt]
    have hp := h.pos
    have b := hr.get hd hl (Nat.mod_lt (k - f.length) hp)
    rw [a] at b
    rw [b, Nat.mod_mod_of_dvd _ (Nat.dvd_of_mod_eq_zero hr.1)]
/-- sums of steps -/
theorem per_gcd {r : Nat → α} {a : Nat} : ∀ (n x y : Nat), x + y ≤ n → 1 ≤ x → 1 ≤ y → (∀ k, a ≤ k → r (k + x) = r k) → (∀ k, a ≤ k → r (k + y) = r k) → ∀ k, a ≤ k → r (k + Nat.gcd x y) = r k
  | 0, x, y, h, hx, _, _, _, _, _ => by omega
  | n + 1, x, y, h, hx, hy, h1, h2, k, hk => by
    rcases Nat.lt_trichotomy x y with c | c | c
    · have e : Nat.gcd x y = Nat.gcd x (y - x) := by
        rw [← Nat.gcd_add_self_right x (y - x), Nat.sub_add_cancel (Nat.le_of_lt c)]
      rw [e]
      refine per_gcd n x (y - x) (by omega) hx (by omega) h1 (fun j hj => ?_) k hk
      rw [← h1 (j + (y - x)) (by omega), show j + (y - x) + x = j + y by omega, h2 j hj]
    · subst c; rw [Nat.gcd_self]; exact h1 k hk
    · have e : Nat.gcd x y = Nat.gcd (x - y) y := by
        rw [← Nat.gcd_add_self_left y (x - y), Nat.sub_add_cancel (Nat.le_of_lt c)]
      rw [e]
      refine per_gcd n (x - y) y (by omega) (by omega) hy (fun j hj => ?_) h2 k hk
      rw [← h2 (j + (x - y)) (by omega), show j + (x - y) + y = j + x by omega, h1 j hj]
/-- both as short as can be -/
structure Crs (r : Nat → α) (f p : List α) : Prop extends Tells r f p where
  minP : ∀ q m, 1 ≤ q → (∀ k, m ≤ k → r (k + q) = r k) → p.length ∣ q
  minF : ∀ q, 1 ≤ q → (∀ k, r (k + q) = r k) → f = []
theorem Tells.minP {r : Nat → α} {f p : List α} (h : Tells r f p) {d : Nat} (hd : 1 ≤ d) (hl : d ≤ p.length) (hr : Rep p d) (least : ∀ d', 1 ≤ d' → d' < d → ¬ Rep p d')
    (q m : Nat) (hq : 1 ≤ q) (hp : ∀ k, m ≤ k → r (k + q) = r k) : d ∣ q := by
  have hpos := h.pos
  have hc := h.cut hd hl hr
  have lt : (p.take d).length = d := by rw [List.length_take]; omega
  -- from the front on q is a period
  have pq : ∀ k, f.length ≤ k → r (k + q) = r k := fun k hk => by
    have a := h.again_mul hk m
    have b := h.again_mul (k := k + q) (by omega) m
    have c := hp (k + m * p.length) (by
      have : m * 1 ≤ m * p.length := Nat.mul_le_mul_left m hpos
      omega)
    rw [a] at c
    rw [← b, show k + q + m * p.length = k + m * p.length + q by omega, c]
  have pd : ∀ k, f.length ≤ k → r (k + d) = r k := fun k hk => by have := hc.again hk; rw [lt] at this; exact this
  have pg := per_gcd (d + q) d q (Nat.le_refl _) hd hq pd pq
  have g1 : 1 ≤ Nat.gcd d q := Nat.gcd_pos_of_pos_left q hd
  have g2 : Nat.gcd d q ∣ d := Nat.gcd_dvd_left d q
  have g3 : Nat.gcd d q ≤ d := Nat.le_of_dvd hd g2
  have g4 : Nat.gcd d q ∣ p.length := Nat.dvd_trans g2 (Nat.dvd_of_mod_eq_zero hr.1)
  have pgm : ∀ (j k : Nat), f.length ≤ k → r (k + j * Nat.gcd d q) = r k := fun j => by
    induction j with
    | zero => intro k _; rw [Nat.zero_mul]; rfl
    | succ j ih => intro k hk; rw [Nat.succ_mul, ← Nat.add_assoc, pg _ (by omega), ih k hk]
  have rg : Rep p (Nat.gcd d q) := Rep.of g1 (by omega) (Nat.mod_eq_zero_of_dvd g4) fun i hi => by
    have a := h.per i
    have b := h.per (i % Nat.gcd d q)
    have hi2 : i % Nat.gcd d q < p.length := Nat.lt_of_lt_of_le (Nat.mod_lt _ g1) (by omega)
    rw [Nat.mod_eq_of_lt hi] at a
    rw [Nat.mod_eq_of_lt hi2] at b
    rw [a, b]
    congr 1
    have e : f.length + i = f.length + i % Nat.gcd d q + (i / Nat.gcd d q) * Nat.gcd d q := by
      have := Nat.mod_add_div i (Nat.gcd d q)
      rw [Nat.mul_comm] at this
      omega
    rw [e, pgm _ _ (by omega)]
  have g5 : Nat.gcd d q = d := by
    rcases Nat.lt_or_ge (Nat.gcd d q) d with c | c
    · exact absurd rg (least _ g1 c)
    · omega
  rw [← g5]; exact Nat.gcd_dvd_right d q
/-- the last of the front is the period's last: both turn -/
theorem Tells.turn {r : Nat → α} {f p : List α} {x : α} (h : Tells r (f ++ [x]) (p ++ [x])) : Tells r f (x :: p) := by
  refine ⟨List.cons_ne_nil _ _, fun k => ?_⟩
  have a := h.at_ k
  unfold told at *
  rw [List.length_append, List.length_append, List.length_singleton] at a
  rw [List.length_cons]
  by_cases c : k < f.length
  · rw [if_pos (by omega), List.getElem?_append_left c] at a
    rw [if_pos c]; exact a
  · rw [if_neg c]
    by_cases c2 : k < f.length + 1
    · rw [if_pos c2, List.getElem?_append_right (by omega), show k - f.length = 0 by omega] at a
      rw [show k - f.length = 0 by omega, Nat.zero_mod]; exact a
    · rw [if_neg c2] at a
      -- k - f = j + 1
      obtain ⟨j, hj⟩ : ∃ j, k - f.length = j + 1 := ⟨k - f.length - 1, by omega⟩
      rw [show k - (f.length + 1) = j by omega] at a
      rw [hj]
      have hm : j % (p.length + 1) < p.length + 1 := Nat.mod_lt _ (by omega)
      by_cases c3 : j % (p.length + 1) < p.length
      · have e : (j + 1) % (p.length + 1) = j % (p.length + 1) + 1 := by
          rw [Nat.add_mod, Nat.mod_eq_of_lt (show j % (p.length + 1) + 1 % (p.length + 1) < p.length + 1 by
            rcases Nat.eq_zero_or_pos p.length with z | z
            · omega
            · rw [Nat.mod_eq_of_lt (show 1 < p.length + 1 by omega)]; omega)]
          rcases Nat.eq_zero_or_pos p.length with z | z
          · omega
          · rw [Nat.mod_eq_of_lt (show 1 < p.length + 1 by omega)]
        rw [e, List.getElem?_cons_succ]
        rw [List.getElem?_append_left c3] at a
        exact a
      · have e1 : j % (p.length + 1) = p.length := by omega
        have e : (j + 1) % (p.length + 1) = 0 := by
          have h1 := Nat.mod_add_div j (p.length + 1)
          rw [e1] at h1
          have h2 : j + 1 = (p.length + 1) * (j / (p.length + 1) + 1) := by rw [Nat.mul_add, Nat.mul_one]; omega
          rw [h2, Nat.mul_mod_right]
        rw [e]
        rw [e1, List.getElem?_append_right (Nat.le_refl _), Nat.sub_self] at a
        exact a
/-- where the lasts differ, the front is as short as can be -/
theorem Tells.minF {r : Nat → α} {f p : List α} (h : Tells r f p) (hp : ∀ q m, 1 ≤ q → (∀ k, m ≤ k → r (k + q) = r k) → p.length ∣ q)
    (hlast : f = [] ∨ f.getLast? ≠ p.getLast?) (q : Nat) (hq : 1 ≤ q) (hr : ∀ k, r (k + q) = r k) : f = [] := by
  rcases hlast with e | e
  · exact e
  · refine Classical.byContradiction fun hn => e ?_
    have h0 : 0 < f.length := List.length_pos_iff.mpr hn
    have hpos := h.pos
    obtain ⟨c, rfl⟩ := hp q 0 hq fun k _ => hr k
    have c1 : 1 ≤ c := by
      rcases Nat.eq_zero_or_pos c with z | z
      · subst z; omega
      · exact z
    rw [List.getLast?_eq_getElem?, List.getLast?_eq_getElem?, h.front (by omega), ← hr (f.length - 1)]
    have b := h.per (p.length * c - 1)
    have e2 : f.length + (p.length * c - 1) = f.length - 1 + p.length * c := by omega
    have e3 : (p.length * c - 1) % p.length = p.length - 1 := by
      obtain ⟨c', rfl⟩ : ∃ c', c = c' + 1 := ⟨c - 1, by omega⟩
      rw [Nat.mul_add, Nat.mul_one, show p.length * c' + p.length - 1 = (p.length - 1) + p.length * c' by omega, Nat.add_mul_mod_self_left, Nat.mod_eq_of_lt (by omega)]
    rw [e2, e3] at b
    exact b.symm
end

/-! ### sums -/
def sumTo : Nat → (Nat → Nat) → Nat
  | 0, _ => 0
  | m + 1, g => sumTo m g + g m
theorem sumTo_add (g : Nat → Nat) (m : Nat) : ∀ l, sumTo (m + l) g = sumTo m g + sumTo l (fun k => g (m + k))
  | 0 => rfl
  | l + 1 => by
    show sumTo (m + l) g + g (m + l) = sumTo m g + (sumTo l (fun k => g (m + k)) + g (m + l))
    rw [sumTo_add g m l]; omega
theorem sumTo_congr {g h : Nat → Nat} : ∀ {m : Nat}, (∀ k, k < m → g k = h k) → sumTo m g = sumTo m h
  | 0, _ => rfl
  | m + 1, e => by
    show sumTo m g + g m = sumTo m h + h m
    rw [sumTo_congr fun k hk => e k (by omega), e m (by omega)]
theorem sumTo_front (g : Nat → Nat) (n : Nat) : sumTo (n + 1) g = g 0 + sumTo n (fun k => g (k + 1)) := by
  rw [Nat.add_comm, sumTo_add]
  have e : sumTo 1 g = g 0 := Nat.zero_add _
  rw [e]
  congr 1
  exact sumTo_congr fun k _ => by rw [Nat.add_comm]
theorem sumTo_list : ∀ {l : List Nat} {g : Nat → Nat}, (∀ k, k < l.length → l[k]? = some (g k)) → l.sum = sumTo l.length g
  | [], _, _ => rfl
  | x :: l, g, h => by
    rw [List.sum_cons, List.length_cons, sumTo_front, sumTo_list (l := l) (g := fun k => g (k + 1)) fun k hk => by
      have := h (k + 1) (by rw [List.length_cons]; omega)
      rw [List.getElem?_cons_succ] at this; exact this]
    have : x = g 0 := by have := h 0 (by simp); simpa using this
    omega
theorem sumTo_rounds {g : Nat → Nat} {d a : Nat} (h : ∀ k, a ≤ k → g (k + d) = g k) : ∀ q, sumTo (q * d) (fun k => g (a + k)) = q * sumTo d (fun k => g (a + k))
  | 0 => by rw [Nat.zero_mul, Nat.zero_mul]; rfl
  | q + 1 => by
    have hm : ∀ (q k : Nat), a ≤ k → g (k + q * d) = g k := fun q => by
      induction q with
      | zero => intro k _; rw [Nat.zero_mul]; rfl
      | succ q ih => intro k hk; rw [Nat.succ_mul, ← Nat.add_assoc, h _ (by omega), ih k hk]
    rw [Nat.succ_mul, sumTo_add, sumTo_rounds h q, Nat.succ_mul]
    congr 1
    exact sumTo_congr fun k _ => by
      show g (a + (q * d + k)) = g (a + k)
      rw [show a + (q * d + k) = a + k + q * d by omega, hm q _ (by omega)]
/-- the sum over a round does not depend on where it begins -/
theorem sumTo_shift {g : Nat → Nat} {d a : Nat} (h : ∀ k, a ≤ k → g (k + d) = g k) : ∀ i, sumTo d (fun k => g (a + i + k)) = sumTo d (fun k => g (a + k))
  | 0 => rfl
  | i + 1 => by
    rw [← sumTo_shift h i]
    have e1 : sumTo (1 + d) (fun k => g (a + i + k)) = sumTo (d + 1) (fun k => g (a + i + k)) := by rw [Nat.add_comm]
    rw [sumTo_add] at e1
    have e2 : sumTo (d + 1) (fun k => g (a + i + k)) = sumTo d (fun k => g (a + i + k)) + g (a + i + d) := rfl
    have e3 : sumTo 1 (fun k => g (a + i + k)) = g (a + i) := by show 0 + g (a + i + 0) = _; rw [Nat.zero_add]; rfl
    have e4 := h (a + i) (by omega)
    have e5 : sumTo d (fun k => g (a + i + (1 + k))) = sumTo d (fun k => g (a + (i + 1) + k)) := sumTo_congr fun k _ => by congr 1; omega
    rw [← e5]
    omega

/-! ### the rows of balls at the first knot -/
section
variable {N : Nt} {s : Nat → Nat}
noncomputable def st (N : Nt) (s : Nat → Nat) (k : Nat) : Nat → Nat := E N s (mu k e1)
noncomputable def row (N : Nt) (s : Nat → Nat) (k : Nat) : Nat × Nat := (outs N (st N s k) e1 4, outs N (st N s k) e1 5)
theorem stg_st (C : Nice N) (hs : Stg N s) (k : Nat) : Stg N (st N s k) := C.stgE hs _
theorem st_zero (C : Nice N) (hs : Stg N s) : st N s 0 = s := by unfold st; rw [mu_zero]; exact C.E_zero hs
theorem st_succ (C : Nice N) (hs : Stg N s) (k : Nat) : st N s (k + 1) = E N (st N s k) e1 := by
  unfold st; rw [mu_succ, (C.add hs _ _).2.1]
theorem st_st (C : Nice N) (hs : Stg N s) (i k : Nat) : st N (st N s i) k = st N s (i + k) := by
  unfold st; rw [mu_add, (C.add hs _ _).2.1]
theorem row_st (C : Nice N) (hs : Stg N s) (i k : Nat) : row N (st N s i) k = row N s (i + k) := by
  unfold row; rw [st_st C hs]
theorem outs_sum (C : Nice N) (hs : Stg N s) (u : Nat) : ∀ m, outs N s (mu m e1) u = sumTo m (fun k => outs N (st N s k) e1 u)
  | 0 => by rw [mu_zero]; exact C.outs_zero hs u
  | m + 1 => by rw [mu_succ, (C.add hs _ _).2.2, outs_sum C hs u m]; rfl
theorem row_per (C : Nice N) (hs : Stg N s) {a q : Nat} (h : st N s (a + q) = st N s a) : ∀ k, a ≤ k → row N s (k + q) = row N s k := fun k hk => by
  obtain ⟨j, rfl⟩ := Nat.le.dest hk
  rw [← row_st C hs a j, ← h, row_st C hs, show a + q + j = a + j + q by omega]
theorem Cyc.st (C : Nice N) (hs : Stg N s) (h : Cyc N s) (k : Nat) : Cyc N (st N s k) := by
  obtain ⟨j, hj, hc⟩ := h
  exact ⟨j, hj, by unfold Ch.st; rw [C.comm hs, hc]⟩
theorem cyc_of_st (C : Nice N) (hs : Stg N s) {a l : Nat} (hl : a < l) (e : st N s l = st N s a) : Cyc N (st N s a) := by
  refine ⟨l - a, by omega, ?_⟩
  have := st_st C hs a (l - a)
  rw [show a + (l - a) = l by omega, e] at this
  exact this
theorem cyc_from (C : Nice N) (hs : Stg N s) {a : Nat} (h : Cyc N (Ch.st N s a)) {k : Nat} (hk : a ≤ k) : Cyc N (Ch.st N s k) := by
  obtain ⟨j, rfl⟩ := Nat.le.dest hk
  rw [← st_st C hs a j]
  exact h.st C (stg_st C hs a) j
theorem Cyc.round1 (C : Nice N) (hs : Stg N s) (h : Cyc N s) {m : Nat} {t : Nat → Nat} (R : Rnd N m t) : E N s (mu m e1) = s := by
  have := (h.round C hs R 1).1
  rw [mu_one] at this
  exact this
theorem st_round (C : Nice N) (hs : Stg N s) {a : Nat} (h : Cyc N (Ch.st N s a)) {m : Nat} {t : Nat → Nat} (R : Rnd N m t) {k : Nat} (hk : a ≤ k) : Ch.st N s (k + m) = Ch.st N s k := by
  have h1 := (cyc_from C hs h hk).round1 C (stg_st C hs k) R
  have h2 := st_st C hs k m
  rw [← h2]; exact h1
theorem cyc_ex (C : Nice N) (hs : Stg N s) : ∃ a, Cyc N (Ch.st N s a) := by
  obtain ⟨i, j, hj, e⟩ := meets C.toSound (f := fun i => Ch.st N s i) fun i => stg_st C hs i
  exact ⟨i, cyc_of_st C hs (a := i) (l := i + j) (by omega) e.symm⟩
end
end Ch
end
section
/-! M5: worths and heights: what comes out is told by shares and places. Plain Lean. -/
set_option linter.all false
namespace Ch
def S4i (f : Nat → Int) : Int := f 0 + f 1 + f 2 + f 3
theorem S4i_congr {f g : Nat → Int} (h : ∀ v, v < 4 → f v = g v) : S4i f = S4i g := by
  unfold S4i; rw [h 0 (by decide), h 1 (by decide), h 2 (by decide), h 3 (by decide)]
theorem S4i_add (f g : Nat → Int) : S4i (fun v => f v + g v) = S4i f + S4i g := by simp only [S4i]; omega
theorem S4i_sub (f g : Nat → Int) : S4i (fun v => f v - g v) = S4i f - S4i g := by simp only [S4i]; omega
theorem S4i_mul (c : Int) (f : Nat → Int) : S4i (fun v => c * f v) = c * S4i f := by simp only [S4i]; grind
theorem S4i_mulr (c : Int) (f : Nat → Int) : S4i (fun v => f v * c) = S4i f * c := by simp only [S4i]; grind
theorem S4i_cast (f : Nat → Nat) : ((S4 f : Nat) : Int) = S4i (fun v => (f v : Int)) := by simp only [S4, S4i]; omega
/-- two sums changed over -/
theorem S4i_comm (f : Nat → Nat → Int) : S4i (fun v => S4i fun u => f v u) = S4i (fun u => S4i fun v => f v u) := by simp only [S4i]; omega

/-- what a drop is worth, D times -/
def wth (num : Nat → Int) (D : Int) (o : Nat) (d : List Nat) : Int := S4i (fun u => (d.count u : Int) * num u) + D * (d.count o : Int)
/-- the height of a place, D times -/
def hgt (k : Kn) (nv : Int) (W : List Nat → Int) : Nat → Int
  | 0 => 0
  | p + 1 => hgt k nv W p + (nv - W (dr k p))
/-- what so many drops are worth -/
def wsum (k : Kn) (W : List Nat → Int) (p : Nat) : Nat → Int
  | 0 => 0
  | x + 1 => wsum k W p x + W (dr k (plc k p x))
theorem wsum_eq {k : Kn} {num : Nat → Int} {D : Int} {o p : Nat} : ∀ x, wsum k (wth num D o) p x = S4i (fun u => (fall k p u x : Int) * num u) + D * (fall k p o x : Int)
  | 0 => by simp [wsum, fall, S4i]
  | x + 1 => by
    show wsum k (wth num D o) p x + wth num D o (dr k (plc k p x)) = S4i (fun u => ((fall k p u x + (dr k (plc k p x)).count u : Nat) : Int) * num u) + D * ((fall k p o x + (dr k (plc k p x)).count o : Nat) : Int)
    rw [wsum_eq x]
    unfold wth
    simp only [S4i]
    push_cast
    grind
theorem wsum_add {k : Kn} {W : List Nat → Int} {p : Nat} (x : Nat) : ∀ y, wsum k W p (x + y) = wsum k W p x + wsum k W (plc k p x) y
  | 0 => by show wsum k W p x = wsum k W p x + 0; omega
  | y + 1 => by
    show wsum k W p (x + y) + W (dr k (plc k p (x + y))) = wsum k W p x + (wsum k W (plc k p x) y + W (dr k (plc k (plc k p x) y)))
    rw [wsum_add x y, plc_add]; omega
theorem hgt_lin {k : Kn} {nv : Int} {W : List Nat → Int} {p : Nat} : ∀ x, p + x ≤ k.len → hgt k nv W (p + x) = hgt k nv W p + (x * nv - wsum k W p x)
  | 0, _ => by show hgt k nv W p = hgt k nv W p + ((0 : Nat) * nv - 0); simp
  | x + 1, h => by
    show hgt k nv W (p + x) + (nv - W (dr k (p + x))) = hgt k nv W p + ((x + 1 : Nat) * nv - (wsum k W p x + W (dr k (plc k p x))))
    rw [hgt_lin x (by omega), plc_lin x (by omega)]
    push_cast
    rw [Int.add_mul]; omega
/-- the turn is worth what it takes -/
def Fair (k : Kn) (nv : Int) (W : List Nat → Int) : Prop := (k.per : Int) * nv = wsum k W k.fr.length k.per
theorem hgt_end {k : Kn} {nv : Int} {W : List Nat → Int} (h : Fair k nv W) : hgt k nv W k.len = hgt k nv W k.fr.length := by
  have := hgt_lin (k := k) (nv := nv) (W := W) (p := k.fr.length) k.per (Nat.le_refl _)
  have e : k.fr.length + k.per = k.len := rfl
  rw [e] at this
  rw [this, h]; omega
theorem hgt_nx {k : Kn} {nv : Int} {W : List Nat → Int} (h : Fair k nv W) {p : Nat} (hp : p < k.len) : hgt k nv W (nx k p) = hgt k nv W p + (nv - W (dr k p)) := by
  unfold nx
  split
  · rfl
  · have e : p + 1 = k.len := by omega
    rw [← hgt_end h, ← e]; rfl
theorem hgt_plc {k : Kn} {nv : Int} {W : List Nat → Int} (ht : k.tu ≠ []) (h : Fair k nv W) {p : Nat} (hp : p < k.len) : ∀ x, hgt k nv W (plc k p x) = hgt k nv W p + (x * nv - wsum k W p x)
  | 0 => by show hgt k nv W p = hgt k nv W p + ((0 : Nat) * nv - 0); simp
  | x + 1 => by
    show hgt k nv W (nx k (plc k p x)) = hgt k nv W p + ((x + 1 : Nat) * nv - (wsum k W p x + W (dr k (plc k p x))))
    rw [hgt_nx h (plc_lt ht hp x), hgt_plc ht h hp x]
    push_cast
    rw [Int.add_mul]; omega

/-! ### the net -/
/-- num over D: the worths for the outlet o -/
structure Wor (N : Nt) (num : Nat → Int) (D : Int) (o : Nat) : Prop where
  pos : 0 < D
  eq : ∀ v, v < 4 → (per N v : Int) * num v = S4i (fun u => (cnt N v u : Int) * num u) + D * (cnt N v o : Int)
section
variable {N : Nt} {s b x : Nat → Nat} {num : Nat → Int} {D : Int} {o : Nat}
theorem Wor.fair (w : Wor N num D o) {v : Nat} (hv : v < 4) : Fair (kn N v) (num v) (wth num D o) := by
  unfold Fair
  rw [wsum_eq]
  have := w.eq v hv
  rw [fall_fr_per]
  rw [this]
  congr 1
  exact S4i_congr fun u _ => by rw [fall_fr_per]
/-- a standing's height, D times -/
def lev (N : Nt) (num : Nat → Int) (D : Int) (o : Nat) (s : Nat → Nat) : Int := S4i fun v => hgt (kn N v) (num v) (wth num D o) (s v)
theorem lev_aft (S : Sound N) (w : Wor N num D o) (hs : Stg N s) (h : ∀ u, u < 4 → b u + inn N s x u = x u) :
    D * (inn N s x o : Int) = S4i (fun u => (b u : Int) * num u) - (lev N num D o (aft N s x) - lev N num D o s) := by
  have e1 : lev N num D o (aft N s x) - lev N num D o s = S4i (fun v => (x v : Int) * num v - wsum (kn N v) (wth num D o) (s v) (x v)) := by
    unfold lev
    rw [← S4i_sub]
    refine S4i_congr fun v hv => ?_
    have := hgt_plc (S.tu v) (w.fair hv) (hs v) (x v)
    show hgt (kn N v) (num v) (wth num D o) (plc (kn N v) (s v) (x v)) - _ = _
    rw [this]; omega
  rw [e1, S4i_sub]
  have e2 : S4i (fun v => wsum (kn N v) (wth num D o) (s v) (x v)) = S4i (fun u => (inn N s x u : Int) * num u) + D * (inn N s x o : Int) := by
    have : ∀ v, v < 4 → wsum (kn N v) (wth num D o) (s v) (x v) = S4i (fun u => (fall (kn N v) (s v) u (x v) : Int) * num u) + D * (fall (kn N v) (s v) o (x v) : Int) := fun v _ => wsum_eq _
    rw [S4i_congr this, S4i_add, S4i_comm, S4i_mul]
    unfold inn
    rw [S4i_cast]
    congr 1
    refine S4i_congr fun u _ => ?_
    rw [S4i_mulr, S4i_cast]
  rw [e2]
  have e3 : S4i (fun v => (x v : Int) * num v) = S4i (fun u => (b u : Int) * num u) + S4i (fun u => (inn N s x u : Int) * num u) := by
    rw [← S4i_add]
    refine S4i_congr fun u hu => ?_
    rw [← h u hu]; push_cast; rw [Int.add_mul]
  rw [e3]; omega
theorem Nice.worth (C : Nice N) (w : Wor N num D o) (hs : Stg N s) (b : Nat → Nat) :
    D * (outs N s b o : Int) = S4i (fun u => (b u : Int) * num u) - (lev N num D o (E N s b) - lev N num D o s) := lev_aft C.toSound w hs (C.lstO hs b).bal
theorem worth_e1 (m : Nat) : S4i (fun u => (mu m e1 u : Int) * num u) = m * num 0 := by simp [S4i, mu, e1]
/-- a round: what comes out is the share -/
theorem Nice.gain (C : Nice N) (w : Wor N num D o) (hs : Stg N s) {m : Nat} (h : E N s (mu m e1) = s) : D * (outs N s (mu m e1) o : Int) = m * num 0 := by
  rw [C.worth w hs, h, worth_e1]; omega
end
end Ch
end
section
/-! M6: drawn nets: the lattice, its systems solved; a net that ends is nice. Plain Lean. -/
set_option linter.all false
namespace Ch

/-- a net as it is drawn -/
structure Drawn (N : Nt) : Prop where
  n1 : 1 ≤ N.length
  n4 : N.length ≤ 4
  tu : ∀ v, v < N.length → (kn N v).tu ≠ []
  tg : ∀ v, v < N.length → ∀ d ∈ (kn N v).ds, ∀ t ∈ d, t < N.length ∨ t = 4 ∨ t = 5
  met : ∀ v, v + 1 < N.length → 1 ≤ cnt N v (v + 1)
  fr2 : ∀ v, v < N.length → (kn N v).fr.length ≤ 2
  tu5 : ∀ v, v < N.length → (kn N v).tu.length ≤ 5
  dr2 : ∀ v, v < N.length → ∀ d ∈ (kn N v).ds, d.length ≤ 2
  sm : ∀ v, v < N.length → S4 (fun u => cnt N v u) ≤ 7
section
variable {N : Nt}
theorem Drawn.sound (d : Drawn N) : Sound N := ⟨d.n1, d.n4, fun v => by
  by_cases c : v < N.length
  · exact d.tu v c
  · rw [kn_out (by omega)]; exact List.cons_ne_nil _ _⟩
theorem cts_zero {l : List (List Nat)} {u : Nat} (h : ∀ d ∈ l, u ∉ d) : cts l u = 0 := by
  induction l with
  | nil => rfl
  | cons d l ih =>
    rw [cts_cons, ih fun e he => h e (List.mem_cons_of_mem _ he), List.count_eq_zero_of_not_mem (h d (List.mem_cons_self ..))]
theorem Drawn.cnt0 (d : Drawn N) (v : Nat) {u : Nat} (h1 : N.length ≤ u) (h2 : u < 4) : cnt N v u = 0 := by
  by_cases c : v < N.length
  · refine cts_zero fun e he hu => ?_
    have := d.tg v c e (List.mem_append_right _ he) u hu
    omega
  · exact cnt_out (by omega)
theorem cts_le {l : List (List Nat)} {u b : Nat} (h : ∀ d ∈ l, d.length ≤ b) : cts l u ≤ b * l.length := by
  induction l with
  | nil => simp [cts]
  | cons d l ih =>
    rw [cts_cons, List.length_cons, Nat.mul_add, Nat.mul_one]
    have h1 := ih fun e he => h e (List.mem_cons_of_mem _ he)
    have h2 : d.count u ≤ b := Nat.le_trans (List.count_le_length) (h d (List.mem_cons_self ..))
    omega
theorem Drawn.cnt10 (d : Drawn N) {v : Nat} (hv : v < N.length) (u : Nat) : cnt N v u ≤ 10 := by
  have h1 := cts_le (u := u) (b := 2) (l := (kn N v).tu) fun e he => d.dr2 v hv e (List.mem_append_right _ he)
  have h2 := d.tu5 v hv
  show cts (kn N v).tu u ≤ 10
  omega
theorem Drawn.len7 (d : Drawn N) (v : Nat) : (kn N v).len ≤ 7 := by
  by_cases c : v < N.length
  · have := d.fr2 v c; have := d.tu5 v c; unfold Kn.len; omega
  · rw [kn_out (by omega)]; decide

/-- what whole turns of a knot take, less what they let fall -/
def latt (N : Nt) (v u : Nat) : Int := (if v = u then (per N v : Int) else 0) - (cnt N v u : Int)
theorem Drawn.latt10 (d : Drawn N) {v : Nat} (hv : v < N.length) (u : Nat) : (latt N v u).natAbs ≤ 10 := by
  have h1 := d.cnt10 hv u
  have h2 := d.tu5 v hv
  have h3 : per N v = (kn N v).tu.length := rfl
  unfold latt; split <;> omega
theorem latt_off {v u : Nat} (h : v ≠ u) : latt N v u ≤ 0 := by unfold latt; rw [if_neg h]; omega
theorem latt_out {v u : Nat} (h : N.length ≤ v) (hu : v ≠ u) : latt N v u = 0 := by unfold latt; rw [if_neg hu, cnt_out h]; rfl
/-- the net ends: all leading minors are positive -/
def EndsN (N : Nt) : Prop := ∀ k, k ≤ N.length → 0 < dv (latt N) k

/-! ### tables with a right side -/
/-- by columns: solved(lattice, r) -/
def tabT (N : Nt) (r : Nat → Int) (i j : Nat) : Int := if j = N.length then r i else latt N j i
/-- by rows: solved(the columns of the lattice, r) -/
def tabR (N : Nt) (r : Nat → Int) (i j : Nat) : Int := if j = N.length then r i else latt N i j
theorem dv_congr {T T' : Nat → Nat → Int} {n : Nat} (hn : n ≤ 4) (h : ∀ i j, i < n → j < n → T i j = T' i j) (hp : ∀ k, k ≤ n → 0 < dv T k) (hp' : ∀ k, k < n → dv T' k = dv T k) : dv T' n = dv T n := by
  have c4 : n = 0 ∨ n = 1 ∨ n = 2 ∨ n = 3 ∨ n = 4 := by omega
  rcases c4 with rfl | rfl | rfl | rfl | rfl
  · rfl
  · rw [dv1, dv1, h 0 0 (by decide) (by decide)]
  · rw [dv2, dv2, h 0 0 (by decide) (by decide), h 0 1 (by decide) (by decide), h 1 0 (by decide) (by decide), h 1 1 (by decide) (by decide)]
  · have a1 := hp 1 (by decide)
    have b1 := hp' 1 (by decide)
    rw [dv3 (by omega), dv3 (by omega)]
    simp only [h 0 0 (by decide) (by decide), h 0 1 (by decide) (by decide), h 0 2 (by decide) (by decide), h 1 0 (by decide) (by decide), h 1 1 (by decide) (by decide), h 1 2 (by decide) (by decide), h 2 0 (by decide) (by decide), h 2 1 (by decide) (by decide), h 2 2 (by decide) (by decide)]
  · have a1 := hp 1 (by decide)
    have a2 := hp 2 (by decide)
    have b1 := hp' 1 (by decide)
    have b2 := hp' 2 (by decide)
    rw [dv4 (by omega) (by omega), dv4 (by omega) (by omega)]
    simp only [h 0 0 (by decide) (by decide), h 0 1 (by decide) (by decide), h 0 2 (by decide) (by decide), h 0 3 (by decide) (by decide), h 1 0 (by decide) (by decide), h 1 1 (by decide) (by decide), h 1 2 (by decide) (by decide), h 1 3 (by decide) (by decide), h 2 0 (by decide) (by decide), h 2 1 (by decide) (by decide), h 2 2 (by decide) (by decide), h 2 3 (by decide) (by decide), h 3 0 (by decide) (by decide), h 3 1 (by decide) (by decide), h 3 2 (by decide) (by decide), h 3 3 (by decide) (by decide)]
theorem dv_trans {T T' : Nat → Nat → Int} {n : Nat} (hn : n ≤ 4) (h : ∀ i j, i < n → j < n → T i j = T' j i) (hp : ∀ k, k ≤ n → 0 < dv T k) (hp' : ∀ k, k < n → dv T' k = dv T k) : dv T' n = dv T n := by
  have c4 : n = 0 ∨ n = 1 ∨ n = 2 ∨ n = 3 ∨ n = 4 := by omega
  rcases c4 with rfl | rfl | rfl | rfl | rfl
  · rfl
  · rw [dv1, dv1, h 0 0 (by decide) (by decide)]
  · rw [dv2, dv2, h 0 0 (by decide) (by decide), h 0 1 (by decide) (by decide), h 1 0 (by decide) (by decide), h 1 1 (by decide) (by decide)]
    unfold det2; grind
  · have a1 := hp 1 (by decide)
    have b1 := hp' 1 (by decide)
    rw [dv3 (by omega), dv3 (by omega)]
    simp only [h 0 0 (by decide) (by decide), h 0 1 (by decide) (by decide), h 0 2 (by decide) (by decide), h 1 0 (by decide) (by decide), h 1 1 (by decide) (by decide), h 1 2 (by decide) (by decide), h 2 0 (by decide) (by decide), h 2 1 (by decide) (by decide), h 2 2 (by decide) (by decide)]
    unfold det3 det2; grind
  · have a1 := hp 1 (by decide)
    have a2 := hp 2 (by decide)
    have b1 := hp' 1 (by decide)
    have b2 := hp' 2 (by decide)
    rw [dv4 (by omega) (by omega), dv4 (by omega) (by omega)]
    simp only [h 0 0 (by decide) (by decide), h 0 1 (by decide) (by decide), h 0 2 (by decide) (by decide), h 0 3 (by decide) (by decide), h 1 0 (by decide) (by decide), h 1 1 (by decide) (by decide), h 1 2 (by decide) (by decide), h 1 3 (by decide) (by decide), h 2 0 (by decide) (by decide), h 2 1 (by decide) (by decide), h 2 2 (by decide) (by decide), h 2 3 (by decide) (by decide), h 3 0 (by decide) (by decide), h 3 1 (by decide) (by decide), h 3 2 (by decide) (by decide), h 3 3 (by decide) (by decide)]
    unfold det4 det3 det2; grind
theorem dv_tabR (d : Drawn N) (e : EndsN N) (r : Nat → Int) : ∀ n, n ≤ N.length → ∀ k, k ≤ n → dv (tabR N r) k = dv (latt N) k
  | 0, _, k, hk => by rw [show k = 0 by omega]; rfl
  | n + 1, hn, k, hk => by
    have ih := dv_tabR d e r n (by omega)
    by_cases c : k ≤ n
    · exact ih k c
    · have n4 := d.n4
      rw [show k = n + 1 by omega]
      exact dv_congr (by omega) (fun i j hi hj => by unfold tabR; rw [if_neg (by omega)]) (fun l hl => e l (by omega)) fun l hl => ih l (by omega)
theorem dv_tabT (d : Drawn N) (e : EndsN N) (r : Nat → Int) : ∀ n, n ≤ N.length → ∀ k, k ≤ n → dv (tabT N r) k = dv (latt N) k
  | 0, _, k, hk => by rw [show k = 0 by omega]; rfl
  | n + 1, hn, k, hk => by
    have ih := dv_tabT d e r n (by omega)
    by_cases c : k ≤ n
    · exact ih k c
    · have n4 := d.n4
      rw [show k = n + 1 by omega]
      exact dv_trans (by omega) (fun i j hi hj => by unfold tabT; rw [if_neg (by omega)]) (fun l hl => e l (by omega)) fun l hl => ih l (by omega)
/-- the determinant -/
def dt (N : Nt) : Int := dv (latt N) N.length
theorem EndsN.dt (e : EndsN N) : 0 < dt N := e _ (Nat.le_refl _)
/-- the solutions -/
def solT (N : Nt) (r : Nat → Int) (l : Nat) : Int := if l < N.length then elM (tabT N r) N.length l N.length else 0
def solR (N : Nt) (r : Nat → Int) (l : Nat) : Int := if l < N.length then elM (tabR N r) N.length l N.length else 0
theorem sumN_S4i {n : Nat} (hn : n ≤ 4) {f : Nat → Int} (h : ∀ v, n ≤ v → v < 4 → f v = 0) : sumN n f = S4i f := by
  have c4 : n = 0 ∨ n = 1 ∨ n = 2 ∨ n = 3 ∨ n = 4 := by omega
  rcases c4 with rfl | rfl | rfl | rfl | rfl <;> simp only [sumN, S4i]
  · rw [h 0 (by decide) (by decide), h 1 (by decide) (by decide), h 2 (by decide) (by decide), h 3 (by decide) (by decide)]; rfl
  · rw [h 1 (by decide) (by decide), h 2 (by decide) (by decide), h 3 (by decide) (by decide)]; omega
  · rw [h 2 (by decide) (by decide), h 3 (by decide) (by decide)]; omega
  · rw [h 3 (by decide) (by decide)]; omega
  · omega
theorem sumN_congr : ∀ {n : Nat} {f g : Nat → Int}, (∀ v, v < n → f v = g v) → sumN n f = sumN n g
  | 0, _, _, _ => rfl
  | n + 1, f, g, h => by show sumN n f + f n = sumN n g + g n; rw [sumN_congr fun v hv => h v (by omega), h n (by omega)]
theorem solT_eq (d : Drawn N) (e : EndsN N) (r : Nat → Int) {i : Nat} (hi : i < N.length) : S4i (fun l => latt N l i * solT N r l) = dt N * r i := by
  have n4 := d.n4
  have hp := dv_tabT d e r N.length (Nat.le_refl _)
  have h := cramer (T := tabT N r) d.n1 n4 (fun k _ hk => by rw [hp k (by omega)]; have := e k (by omega); omega) N.length i hi
  rw [hp _ (Nat.le_refl _)] at h
  have e1 : tabT N r i N.length = r i := by unfold tabT; rw [if_pos rfl]
  rw [e1] at h
  rw [← sumN_S4i n4 (fun v hv _ => by unfold solT; rw [if_neg (by omega), Int.mul_zero])]
  rw [show dt N * r i = dv (latt N) N.length * r i from rfl, ← h]
  refine sumN_congr fun l hl => ?_
  unfold solT tabT
  rw [if_pos hl, if_neg (by omega)]
theorem solR_eq (d : Drawn N) (e : EndsN N) (r : Nat → Int) {i : Nat} (hi : i < N.length) : S4i (fun l => latt N i l * solR N r l) = dt N * r i := by
  have n4 := d.n4
  have hp := dv_tabR d e r N.length (Nat.le_refl _)
  have h := cramer (T := tabR N r) d.n1 n4 (fun k _ hk => by rw [hp k (by omega)]; have := e k (by omega); omega) N.length i hi
  rw [hp _ (Nat.le_refl _)] at h
  have e1 : tabR N r i N.length = r i := by unfold tabR; rw [if_pos rfl]
  rw [e1] at h
  rw [← sumN_S4i n4 (fun v hv _ => by unfold solR; rw [if_neg (by omega), Int.mul_zero])]
  rw [show dt N * r i = dv (latt N) N.length * r i from rfl, ← h]
  refine sumN_congr fun l hl => ?_
  unfold solR tabR
  rw [if_pos hl, if_neg (by omega)]
theorem solT_nn (d : Drawn N) (e : EndsN N) {r : Nat → Int} (hr : ∀ i, i < N.length → 0 ≤ r i) (l : Nat) : 0 ≤ solT N r l := by
  have hp := dv_tabT d e r N.length (Nat.le_refl _)
  unfold solT
  split
  · refine el_nonneg (T := tabT N r) (n := N.length) (fun i j hi hj hij => ?_) (fun i hi => ?_) N.length (Nat.le_refl _) (fun k hk => by rw [hp k hk]; exact e k hk) l (by assumption)
    · unfold tabT; rw [if_neg (by omega)]; exact latt_off (fun q => hij q.symm)
    · unfold tabT; rw [if_pos rfl]; exact hr i hi
  · exact Int.le_refl _

/-! ### a drawn net that ends is nice -/
theorem latt_sum (f : Nat → Int) {u : Nat} (hu : u < 4) : S4i (fun l => latt N l u * f l) = (per N u : Int) * f u - S4i (fun l => (cnt N l u : Int) * f l) := by
  rcases lt4 hu with rfl | rfl | rfl | rfl <;> simp [S4i, latt] <;> grind
theorem latt_sumR (f : Nat → Int) {u : Nat} (hu : u < 4) : S4i (fun l => latt N u l * f l) = (per N u : Int) * f u - S4i (fun l => (cnt N u l : Int) * f l) := by
  rcases lt4 hu with rfl | rfl | rfl | rfl <;> simp [S4i, latt] <;> grind
theorem S4_zero {f : Nat → Nat} (h : ∀ v, v < 4 → f v = 0) : S4 f = 0 := by
  unfold S4; rw [h 0 (by decide), h 1 (by decide), h 2 (by decide), h 3 (by decide)]
theorem Drawn.wt (d : Drawn N) (e : EndsN N) : ∃ k : Nat → Nat, ∀ u, u < 4 → 1 + S4 (fun v => k v * cnt N v u) ≤ k u * per N u := by
  refine ⟨fun v => if v < N.length then (solT N (fun _ => 1) v).toNat else 1, fun u hu => ?_⟩
  by_cases c : u < N.length
  · have h := solT_eq d e (fun _ => 1) c
    rw [latt_sum _ hu] at h
    have nn := solT_nn d e (r := fun _ => 1) (fun _ _ => by decide)
    have dp := e.dt
    have e1 : ((S4 (fun v => (if v < N.length then (solT N (fun _ => 1) v).toNat else 1) * cnt N v u) : Nat) : Int) = S4i (fun l => (cnt N l u : Int) * solT N (fun _ => 1) l) := by
      rw [S4i_cast]
      refine S4i_congr fun v _ => ?_
      by_cases c2 : v < N.length
      · rw [if_pos c2]; push_cast; rw [Int.toNat_of_nonneg (nn v), Int.mul_comm]
      · rw [if_neg c2, cnt_out (by omega)]; simp
    have e2 : (((if u < N.length then (solT N (fun _ => 1) u).toNat else 1) * per N u : Nat) : Int) = (per N u : Int) * solT N (fun _ => 1) u := by
      rw [if_pos c]; push_cast; rw [Int.toNat_of_nonneg (nn u), Int.mul_comm]
    simp only at e1 e2 ⊢
    omega
  · simp only [if_neg c]
    rw [per_out (by omega), S4_zero fun v _ => by rw [d.cnt0 v (by omega) hu, Nat.mul_zero]]
    decide
theorem Drawn.ns (d : Drawn N) (e : EndsN N) (w w' : Nat → Nat) (h : ∀ u, u < 4 → w u * per N u + S4 (fun v => w' v * cnt N v u) = w' u * per N u + S4 (fun v => w v * cnt N v u)) : ∀ u, u < 4 → w u = w' u := fun j hj => by
  by_cases c : j < N.length
  · -- d times the difference is nothing
    let δ : Nat → Int := fun v => (w v : Int) - (w' v : Int)
    have hz : ∀ u, u < 4 → S4i (fun l => latt N l u * δ l) = 0 := fun u hu => by
      rw [latt_sum _ hu]
      have a := h u hu
      have b1 : S4i (fun l => (cnt N l u : Int) * δ l) = ((S4 (fun v => w v * cnt N v u) : Nat) : Int) - ((S4 (fun v => w' v * cnt N v u) : Nat) : Int) := by
        rw [S4i_cast, S4i_cast, ← S4i_sub]
        exact S4i_congr fun v _ => by push_cast; simp only [δ]; rw [Int.mul_sub, Int.mul_comm, Int.mul_comm (w' v : Int)]
      rw [b1]
      have b2 : (per N u : Int) * δ u = ((w u * per N u : Nat) : Int) - ((w' u * per N u : Nat) : Int) := by
        push_cast; simp only [δ]; rw [Int.mul_sub, Int.mul_comm, Int.mul_comm (w' u : Int)]
      rw [b2]; omega
    let r : Nat → Int := fun i => if i = j then 1 else 0
    have hy : ∀ v, v < 4 → S4i (fun l => latt N v l * solR N r l) = if v = j then dt N else 0 := fun v hv => by
      by_cases c2 : v < N.length
      · rw [solR_eq d e r c2]
        simp only [r]; split <;> simp
      · rw [if_neg (by omega)]
        have : ∀ l, l < 4 → latt N v l * solR N r l = 0 := fun l _ => by
          by_cases c3 : v = l
          · unfold solR; rw [if_neg (by omega), Int.mul_zero]
          · rw [latt_out (by omega) c3, Int.zero_mul]
        rw [S4i_congr this]; rfl
    have key : S4i (fun v => δ v * S4i (fun l => latt N v l * solR N r l)) = S4i (fun l => S4i (fun v => latt N v l * δ v) * solR N r l) := by
      simp only [S4i]; grind
    have k1 : S4i (fun l => S4i (fun v => latt N v l * δ v) * solR N r l) = 0 := by
      have : ∀ l, l < 4 → S4i (fun v => latt N v l * δ v) * solR N r l = 0 := fun l hl => by rw [hz l hl, Int.zero_mul]
      rw [S4i_congr this]; rfl
    have k2 : S4i (fun v => δ v * S4i (fun l => latt N v l * solR N r l)) = δ j * dt N := by
      have : ∀ v, v < 4 → δ v * S4i (fun l => latt N v l * solR N r l) = if v = j then δ j * dt N else 0 := fun v hv => by
        rw [hy v hv]; split
        · rename_i q; rw [q]
        · exact Int.mul_zero _
      rw [S4i_congr this]
      rcases lt4 hj with rfl | rfl | rfl | rfl <;> simp [S4i]
    rw [k1, k2] at key
    have dp := e.dt
    rcases Int.mul_eq_zero.mp key with z | z
    · simp only [δ] at z; omega
    · omega
  · have a := h j hj
    rw [S4_zero fun v _ => by rw [d.cnt0 v (by omega) hj, Nat.mul_zero], S4_zero fun v _ => by rw [d.cnt0 v (by omega) hj, Nat.mul_zero], per_out (by omega)] at a
    omega
theorem Drawn.nice (d : Drawn N) (e : EndsN N) : Nice N := { d.sound with wt := d.wt e, ns := d.ns e, met := d.met }

/-! ### rounds, worths -/
/-- turns, of all of which a number of balls is taken: solved, less a common divisor -/
theorem tak_of (d : Drawn N) (e : EndsN N) {r : Nat → Nat} {g : Nat} (hg : 1 ≤ g) (hd : (g : Int) ∣ dt N) (hn : ∀ l, l < N.length → (g : Int) ∣ solT N (fun i => (r i : Int)) l) :
    Tak N (fun u => if u < N.length then (dt N).toNat / g * r u else 0) (fun l => (solT N (fun i => (r i : Int)) l).toNat / g) := fun u hu => by
  have nn := solT_nn d e (r := fun i => (r i : Int)) (fun _ _ => Int.natCast_nonneg _)
  have dp := e.dt
  have ex : ∀ l, ((solT N (fun i => (r i : Int)) l).toNat / g) * g = (solT N (fun i => (r i : Int)) l).toNat := fun l => Nat.div_mul_cancel (by
    by_cases c : l < N.length
    · have := hn l c
      exact Int.natCast_dvd_natCast.mp (by rw [Int.toNat_of_nonneg (nn l)]; exact this)
    · unfold solT; rw [if_neg c]; exact Nat.dvd_zero g)
  have ed : ((dt N).toNat / g) * g = (dt N).toNat := Nat.div_mul_cancel (Int.natCast_dvd_natCast.mp (by rw [Int.toNat_of_nonneg (by omega)]; exact hd))
  by_cases c : u < N.length
  · simp only [if_pos c]
    have h := solT_eq d e (fun i => (r i : Int)) c
    rw [latt_sum _ hu] at h
    -- times g
    refine Nat.eq_of_mul_eq_mul_right hg ?_
    have e1 : S4 (fun v => (solT N (fun i => (r i : Int)) v).toNat / g * cnt N v u) * g = S4 (fun v => (solT N (fun i => (r i : Int)) v).toNat * cnt N v u) := by
      rw [Nat.mul_comm, ← S4_mul]
      refine S4_congr fun v _ => ?_
      rw [← Nat.mul_assoc, Nat.mul_comm g, ex v]
    have e2 : ((S4 (fun v => (solT N (fun i => (r i : Int)) v).toNat * cnt N v u) : Nat) : Int) = S4i (fun l => (cnt N l u : Int) * solT N (fun i => (r i : Int)) l) := by
      rw [S4i_cast]
      exact S4i_congr fun v _ => by push_cast; rw [Int.toNat_of_nonneg (nn v), Int.mul_comm]
    have e3 : (((solT N (fun i => (r i : Int)) u).toNat * per N u : Nat) : Int) = (per N u : Int) * solT N (fun i => (r i : Int)) u := by
      push_cast; rw [Int.toNat_of_nonneg (nn u), Int.mul_comm]
    have e4 : (((dt N).toNat * r u : Nat) : Int) = dt N * (r u : Int) := by
      push_cast; rw [Int.toNat_of_nonneg (by omega)]
    have l1 : (solT N (fun i => (r i : Int)) u).toNat / g * per N u * g = (solT N (fun i => (r i : Int)) u).toNat * per N u := by
      rw [Nat.mul_right_comm, ex u]
    have l2 : ((dt N).toNat / g * r u + S4 (fun v => (solT N (fun i => (r i : Int)) v).toNat / g * cnt N v u)) * g = (dt N).toNat * r u + S4 (fun v => (solT N (fun i => (r i : Int)) v).toNat * cnt N v u) := by
      rw [Nat.add_mul, e1, Nat.mul_right_comm, ed]
    rw [l1, l2]
    omega
  · simp only [if_neg c]
    rw [S4_zero fun v _ => by rw [d.cnt0 v (by omega) hu, Nat.mul_zero]]
    unfold solT
    rw [if_neg c]
    simp
theorem wor_of (d : Drawn N) (e : EndsN N) (o : Nat) : Wor N (solR N fun i => (cnt N i o : Int)) (dt N) o := ⟨e.dt, fun v hv => by
  by_cases c : v < N.length
  · have h := solR_eq d e (fun i => (cnt N i o : Int)) c
    rw [latt_sumR _ hv] at h
    omega
  · have e0 : ∀ u, u < 4 → (cnt N v u : Int) * solR N (fun i => (cnt N i o : Int)) u = 0 := fun u _ => by rw [cnt_out (by omega)]; simp
    rw [S4i_congr e0, cnt_out (by omega)]
    have : solR N (fun i => (cnt N i o : Int)) v = 0 := by unfold solR; rw [if_neg c]
    rw [this]; simp [S4i]⟩
end
end Ch
end
section
/-! M7: what the law asks, of a net that is nice. Plain Lean. -/
set_option linter.all false
namespace Ch
/-! ### common divisors -/
def foldG (b : Int) (l : List Int) : Int := l.foldl (fun s x => (Int.gcd s x : Int)) b
theorem foldG_pos : ∀ {l : List Int} {b : Int}, 0 < b → 0 < foldG b l
  | [], _, h => h
  | x :: l, b, h => by
    show 0 < foldG (Int.gcd b x : Int) l
    refine foldG_pos ?_
    have : 0 < Int.gcd b x := Int.gcd_pos_of_ne_zero_left x (by omega)
    omega
theorem foldG_dvd : ∀ {l : List Int} {b : Int}, foldG b l ∣ b ∧ ∀ x ∈ l, foldG b l ∣ x
  | [], b => ⟨Int.dvd_refl _, fun x hx => by cases hx⟩
  | x :: l, b => by
    obtain ⟨h1, h2⟩ := foldG_dvd (l := l) (b := (Int.gcd b x : Int))
    refine ⟨Int.dvd_trans h1 (Int.gcd_dvd_left ..), fun y hy => ?_⟩
    rcases List.mem_cons.mp hy with e | e
    · subst e; exact Int.dvd_trans h1 (Int.gcd_dvd_right ..)
    · exact h2 y e
/-- the solutions for a right side, as a list -/
def nums (N : Nt) (r : Nat → Nat) : List Int := (List.range N.length).map fun l => solT N (fun i => (r i : Int)) l
def cdiv (N : Nt) (r : Nat → Nat) : Nat := (foldG (dt N) (nums N r)).toNat
/-- the least number of times that takes whole turns alone -/
def rmany (N : Nt) (r : Nat → Nat) : Nat := (dt N).toNat / cdiv N r
def rturn (N : Nt) (r : Nat → Nat) (l : Nat) : Nat := (solT N (fun i => (r i : Int)) l).toNat / cdiv N r
section
variable {N : Nt} {s : Nat → Nat}
theorem cdiv_eq (e : EndsN N) (r : Nat → Nat) : (cdiv N r : Int) = foldG (dt N) (nums N r) := Int.toNat_of_nonneg (Int.le_of_lt (foldG_pos e.dt))
theorem cdiv_pos (e : EndsN N) (r : Nat → Nat) : 1 ≤ cdiv N r := by
  have h1 := cdiv_eq e r
  have h2 := foldG_pos (l := nums N r) e.dt
  omega
theorem cdiv_dvd (e : EndsN N) (r : Nat → Nat) : (cdiv N r : Int) ∣ dt N := by rw [cdiv_eq e]; exact foldG_dvd.1
theorem cdiv_dvd_num (e : EndsN N) (r : Nat → Nat) {l : Nat} (hl : l < N.length) : (cdiv N r : Int) ∣ solT N (fun i => (r i : Int)) l := by
  rw [cdiv_eq e]; exact foldG_dvd.2 _ (List.mem_map.mpr ⟨l, List.mem_range.mpr hl, rfl⟩)
theorem rmany_mul (e : EndsN N) (r : Nat → Nat) : rmany N r * cdiv N r = (dt N).toNat := Nat.div_mul_cancel (Int.natCast_dvd_natCast.mp (by rw [Int.toNat_of_nonneg (Int.le_of_lt e.dt)]; exact cdiv_dvd e r))
theorem rmany_pos (e : EndsN N) (r : Nat → Nat) : 1 ≤ rmany N r := by
  have h := rmany_mul e r
  have := e.dt
  rcases Nat.eq_zero_or_pos (rmany N r) with z | z
  · rw [z, Nat.zero_mul] at h; omega
  · exact z
theorem rmany_le (r : Nat → Nat) : rmany N r ≤ (dt N).toNat := Nat.div_le_self _ _
theorem rmany_int (e : EndsN N) (r : Nat → Nat) : dt N / foldG (dt N) (nums N r) = (rmany N r : Int) := by
  rw [← cdiv_eq e]
  unfold rmany
  have := e.dt
  rw [Int.natCast_ediv, Int.toNat_of_nonneg (by omega)]
theorem tak_r (d : Drawn N) (e : EndsN N) (r : Nat → Nat) : Tak N (fun u => if u < N.length then rmany N r * r u else 0) (rturn N r) :=
  tak_of d e (cdiv_pos e r) (cdiv_dvd e r) fun l hl => cdiv_dvd_num e r hl
theorem rnd_e1 (d : Drawn N) (e : EndsN N) : Rnd N (rmany N e1) (rturn N e1) := ⟨rmany_pos e e1, by
  have h := tak_r d e e1
  have : (fun u => if u < N.length then rmany N e1 * e1 u else 0) = mu (rmany N e1) e1 := by
    funext u
    unfold mu e1
    have := d.n1
    by_cases c : u = 0
    · subst c; rw [if_pos (by omega)]
    · rw [if_neg c]; simp
  rw [this] at h; exact h⟩
/-- so many balls at each knot -/
def allB (N : Nt) (m : Nat) : Nat → Nat := fun u => if u < N.length then m else 0
def ones : Nat → Nat := fun _ => 1
theorem tak_all (d : Drawn N) (e : EndsN N) : Tak N (allB N (rmany N ones)) (rturn N ones) := by
  have h := tak_r d e ones
  unfold ones at h
  simp only [Nat.mul_one] at h
  exact h
theorem rturn_out {r : Nat → Nat} {u : Nat} (h : N.length ≤ u) : rturn N r u = 0 := by
  unfold rturn solT; rw [if_neg (by omega)]; simp

/-! ### the law's words -/
/-- what the outlet gets of a row -/
def comp (o : Nat) (x : Nat × Nat) : Nat := if o = 4 then x.1 else x.2
theorem comp_row {o : Nat} (ho : o = 4 ∨ o = 5) (k : Nat) : comp o (row N s k) = outs N (st N s k) e1 o := by
  rcases ho with rfl | rfl <;> rfl
variable {num : Nat → Int} {D : Int} {o : Nat} {f p : List (Nat × Nat)} {m : Nat} {t : Nat → Nat}
theorem outs_rows (C : Nice N) (hs : Stg N s) (ho : o = 4 ∨ o = 5) (j : Nat) : outs N s (mu j e1) o = sumTo j (fun k => comp o (row N s k)) := by
  rw [outs_sum C hs]
  exact sumTo_congr fun k _ => (comp_row ho k).symm
/-- the period divides the round -/
theorem per_dvd (C : Nice N) (hs : Stg N s) (c : Crs (row N s) f p) (R : Rnd N m t) : p.length ∣ m := by
  obtain ⟨a, ha⟩ := cyc_ex C hs
  exact c.minP m a R.m1 (row_per C hs (st_round C hs ha R (Nat.le_refl a)))
/-- behind the front, a round's rows come again -/
theorem Crs.again_round (C : Nice N) (hs : Stg N s) (c : Crs (row N s) f p) (R : Rnd N m t) : ∀ k, f.length ≤ k → row N s (k + m) = row N s k := fun k hk => by
  obtain ⟨q, rfl⟩ := per_dvd C hs c R
  rw [Nat.mul_comm]; exact c.again_mul hk q
/-- from wherever, behind the front: what a round brings out is the share -/
theorem round_sum (C : Nice N) (hs : Stg N s) (c : Crs (row N s) f p) (R : Rnd N m t) (w : Wor N num D o) (ho : o = 4 ∨ o = 5) {a : Nat} (ha : f.length ≤ a) :
    D * (sumTo m (fun k => comp o (row N s (a + k))) : Int) = m * num 0 := by
  obtain ⟨b, hb⟩ := cyc_ex C hs
  have h1 : ∀ k, f.length ≤ k → comp o (row N s (k + m)) = comp o (row N s k) := fun k hk => by rw [c.again_round C hs R k hk]
  have h2 : sumTo m (fun k => comp o (row N s (a + k))) = sumTo m (fun k => comp o (row N s (a + b + k))) :=
    (sumTo_shift (g := fun k => comp o (row N s k)) (d := m) (a := a) (fun k hk => h1 k (by omega)) b).symm
  have cy := cyc_from C hs hb (k := a + b) (by omega)
  have h3 := C.gain w (stg_st C hs (a + b)) (cy.round1 C (stg_st C hs _) R)
  rw [outs_rows C (stg_st C hs _) ho] at h3
  have h4 : sumTo m (fun k => comp o (row N (st N s (a + b)) k)) = sumTo m (fun k => comp o (row N s (a + b + k))) := sumTo_congr fun k _ => by rw [row_st C hs]
  rw [h4, ← h2] at h3
  exact h3
theorem map_sum (c : Tells (row N s) f p) : (p.map (comp o)).sum = sumTo p.length (fun k => comp o (row N s (f.length + k))) := by
  have := sumTo_list (l := p.map (comp o)) (g := fun k => comp o (row N s (f.length + k))) fun k hk => by
    rw [List.length_map] at hk
    have := c.per k
    rw [Nat.mod_eq_of_lt hk] at this
    rw [List.getElem?_map, this]; rfl
  rw [this, List.length_map]
theorem period_sum (C : Nice N) (hs : Stg N s) (c : Crs (row N s) f p) (R : Rnd N m t) (w : Wor N num D o) (ho : o = 4 ∨ o = 5) :
    D * (((p.map (comp o)).sum * (m / p.length) : Nat) : Int) = m * num 0 := by
  have h := round_sum C hs c R w ho (Nat.le_refl f.length)
  obtain ⟨q, hq⟩ := per_dvd C hs c R
  have hp := c.pos
  rw [map_sum c.toTells]
  have e1 : m / p.length = q := by rw [hq, Nat.mul_comm]; exact Nat.mul_div_cancel _ hp
  have e2 := sumTo_rounds (g := fun k => comp o (row N s k)) (d := p.length) (a := f.length) (fun k hk => by rw [c.again hk]) q
  rw [Nat.mul_comm q, ← hq] at e2
  rw [e1, Nat.mul_comm, ← e2]
  exact h
/-- .. far out -/
theorem far_sum (C : Nice N) (hs : Stg N s) (c : Crs (row N s) f p) (R : Rnd N m t) (w : Wor N num D o) (ho : o = 4 ∨ o = 5) {far : Nat} (hf : f.length ≤ far) (j : Nat) :
    ∃ G : Nat, D * (G : Int) = m * num 0 ∧ sumTo (far + m * j) (fun k => comp o (row N s k)) = sumTo far (fun k => comp o (row N s k)) + G * j := by
  refine ⟨_, round_sum C hs c R w ho hf, ?_⟩
  rw [sumTo_add, Nat.mul_comm m, sumTo_rounds (g := fun k => comp o (row N s k)) (d := m) (a := far) (fun k hk => by rw [c.again_round C hs R k (by omega)]) j, Nat.mul_comm]
/-- from a standing that comes back -/
theorem back_front (C : Nice N) (hs : Stg N s) (h : Cyc N s) (c : Crs (row N s) f p) (R : Rnd N m t) : f = [] :=
  c.minF m R.m1 fun k => row_per C hs (a := 0) (by rw [Nat.zero_add, st_zero C hs]; exact h.round1 C hs R) k (Nat.zero_le _)
theorem back_same (C : Nice N) (hs : Stg N s) {B T : Nat → Nat} (hT : Tak N B T) (h0 : ∀ u, N.length ≤ u → u < 4 → T u = 0) {i : Nat} {f' p' : List (Nat × Nat)}
    (R : Rnd N m t) (c : Crs (row N s) f p) (c' : Crs (row N (E N s (mu i B))) f' p') (hf : f = []) (hf' : f' = []) (hp : p.length = m) (hp' : p'.length = m) : p' = p := by
  obtain ⟨a, ha⟩ := cyc_ex C hs
  subst hf hf'
  have hr := C.stgE hs (mu i B)
  -- far out the two walks are one
  have far : st N (E N s (mu i B)) a = st N s a := by
    have h1 : E N (st N s a) B = st N s a := ha.fix C (stg_st C hs a) R hT h0
    unfold st
    rw [C.comm hs (mu i B) (mu a e1)]
    exact C.fixmul (stg_st C hs a) h1 i
  have rows : ∀ k, row N (E N s (mu i B)) (a + k) = row N s (a + k) := fun k => by
    rw [← row_st C hr, far, row_st C hs]
  have m1 := R.m1
  refine List.ext_getElem? fun k => ?_
  by_cases hk : k < m
  · have a1 := c.per k
    have a2 := c'.per k
    rw [hp, Nat.mod_eq_of_lt hk, List.length_nil, Nat.zero_add] at a1
    rw [hp', Nat.mod_eq_of_lt hk, List.length_nil, Nat.zero_add] at a2
    rw [a1, a2]
    have b1 := c.again_mul (k := k) (Nat.zero_le _) a
    have b2 := c'.again_mul (k := k) (Nat.zero_le _) a
    rw [hp] at b1
    rw [hp'] at b2
    have e : ∃ l, k + a * m = a + l := ⟨k + a * m - a, by
      have : a * 1 ≤ a * m := Nat.mul_le_mul_left a m1
      omega⟩
    obtain ⟨l, e⟩ := e
    rw [← b1, ← b2, e, rows l]
  · rw [List.getElem?_eq_none (by omega), List.getElem?_eq_none (by omega)]
end
end Ch
end
section
/-! M8: how many balls knots take at most. Plain Lean. -/
set_option linter.all false
namespace Ch
/-! ### cofactors of small matrices with few balls -/
def aO (la lb lc ba bc ca cb db dc : Nat) : Int := (la : Int) * (db * dc - bc * cb) + lb * ba * dc + lc * ca * db + lb * bc * ca + lc * cb * ba
theorem aO_le {la lb lc ba bc ca cb db dc : Nat} (h1 : la + lb + lc ≤ 7) (h2 : ba + bc ≤ 7) (h3 : ca + cb ≤ 7) (h4 : db ≤ 5) (h5 : dc ≤ 5) : aO la lb lc ba bc ca cb db dc ≤ 343 := by
  have a1 : la * (db * dc) ≤ la * 49 := Nat.mul_le_mul (Nat.le_refl _) (Nat.le_trans (Nat.mul_le_mul h4 h5) (by decide))
  have a2 : ba * dc + bc * ca ≤ 49 := by
    have := Nat.mul_le_mul (Nat.le_refl ba) (show dc ≤ 7 by omega)
    have := Nat.mul_le_mul (Nat.le_refl bc) (show ca ≤ 7 by omega)
    omega
  have a3 : ca * db + cb * ba ≤ 49 := by
    have := Nat.mul_le_mul (Nat.le_refl ca) (show db ≤ 7 by omega)
    have := Nat.mul_le_mul (Nat.le_refl cb) (show ba ≤ 7 by omega)
    omega
  have a4 := Nat.mul_le_mul (Nat.le_refl lb) a2
  have a5 := Nat.mul_le_mul (Nat.le_refl lc) a3
  have e : aO la lb lc ba bc ca cb db dc = ((la * (db * dc) + lb * (ba * dc + bc * ca) + lc * (ca * db + cb * ba) : Nat) : Int) - ((la * (bc * cb) : Nat) : Int) := by
    unfold aO; push_cast; grind
  rw [e]
  have : la * (db * dc) + lb * (ba * dc + bc * ca) + lc * (ca * db + cb * ba) ≤ 343 := by
    have : (la + lb + lc) * 49 ≤ 7 * 49 := Nat.mul_le_mul h1 (Nat.le_refl _)
    rw [Nat.add_mul, Nat.add_mul] at this
    omega
  omega
def aD (p q r pq pr qp qr rp rq : Nat) : Int := det3 (p : Int) (-pq) (-pr) (-qp) q (-qr) (-rp) (-rq) r
theorem aD_le {p q r pq pr qp qr rp rq : Nat} (h1 : p ≤ 5) (h2 : q ≤ 5) (h3 : r ≤ 5) : aD p q r pq pr qp qr rp rq ≤ 125 := by
  have a1 : p * (q * r) ≤ 5 * (5 * 5) := Nat.mul_le_mul h1 (Nat.mul_le_mul h2 h3)
  have e : aD p q r pq pr qp qr rp rq = ((p * (q * r) : Nat) : Int) - ((p * (qr * rq) + q * (pr * rp) + r * (pq * qp) + pq * (qr * rp) + pr * (rq * qp) : Nat) : Int) := by
    unfold aD det3 det2; push_cast; grind
  rw [e]; omega
theorem w4_0 {d0 d1 d2 d3 a b c e f g h i j k l m : Nat} (h0 : d0 ≤ 5) (h1 : d1 ≤ 5) (h2 : d2 ≤ 5) (h3 : d3 ≤ 5) (r0 : a + b + c ≤ 7) (r1 : e + f + g ≤ 7) (r2 : h + i + j ≤ 7) (r3 : k + l + m ≤ 7) :
    det4 1 (-a) (-b) (-c) 1 (d1 : Int) (-f) (-g) 1 (-i) d2 (-j) 1 (-l) (-m) d3 ≤ 1154 := by
  have e1 : det4 1 (-(a : Int)) (-b) (-c) 1 (d1 : Int) (-f) (-g) 1 (-i) d2 (-j) 1 (-l) (-m) d3 = aD d1 d2 d3 f g i j l m + aO a b c i j l m d2 d3 + aO b a c f g m l d1 d3 + aO c a b g f j i d1 d2 := by
    unfold aD aO det4 det3 det2; grind
  rw [e1]
  have := aD_le (pq := f) (pr := g) (qp := i) (qr := j) (rp := l) (rq := m) h1 h2 h3
  have := aO_le (la := a) (lb := b) (lc := c) (ba := i) (bc := j) (ca := l) (cb := m) (db := d2) (dc := d3) (by omega) (by omega) (by omega) h2 h3
  have := aO_le (la := b) (lb := a) (lc := c) (ba := f) (bc := g) (ca := m) (cb := l) (db := d1) (dc := d3) (by omega) (by omega) (by omega) h1 h3
  have := aO_le (la := c) (lb := a) (lc := b) (ba := g) (bc := f) (ca := j) (cb := i) (db := d1) (dc := d2) (by omega) (by omega) (by omega) h1 h2
  omega
theorem w4_1 {d0 d1 d2 d3 a b c e f g h i j k l m : Nat} (h0 : d0 ≤ 5) (h1 : d1 ≤ 5) (h2 : d2 ≤ 5) (h3 : d3 ≤ 5) (r0 : a + b + c ≤ 7) (r1 : e + f + g ≤ 7) (r2 : h + i + j ≤ 7) (r3 : k + l + m ≤ 7) :
    det4 (d0 : Int) 1 (-b) (-c) (-e) 1 (-f) (-g) (-h) 1 d2 (-j) (-k) 1 (-m) d3 ≤ 1154 := by
  have e1 : det4 (d0 : Int) 1 (-b) (-c) (-e) 1 (-f) (-g) (-h) 1 d2 (-j) (-k) 1 (-m) d3 = det4 1 (-e) (-f) (-g) 1 (d0 : Int) (-b) (-c) 1 (-h) d2 (-j) 1 (-k) (-m) d3 := by unfold det4 det3 det2; grind
  rw [e1]
  exact w4_0 (e := a) (h := i) (k := l) h1 h0 h2 h3 r1 r0 (by omega) (by omega)
theorem w4_2 {d0 d1 d2 d3 a b c e f g h i j k l m : Nat} (h0 : d0 ≤ 5) (h1 : d1 ≤ 5) (h2 : d2 ≤ 5) (h3 : d3 ≤ 5) (r0 : a + b + c ≤ 7) (r1 : e + f + g ≤ 7) (r2 : h + i + j ≤ 7) (r3 : k + l + m ≤ 7) :
    det4 (d0 : Int) (-a) 1 (-c) (-e) d1 1 (-g) (-h) (-i) 1 (-j) (-k) (-l) 1 d3 ≤ 1154 := by
  have e1 : det4 (d0 : Int) (-a) 1 (-c) (-e) d1 1 (-g) (-h) (-i) 1 (-j) (-k) (-l) 1 d3 = det4 1 (-i) (-h) (-j) 1 (d1 : Int) (-e) (-g) 1 (-a) d0 (-c) 1 (-l) (-k) d3 := by unfold det4 det3 det2; grind
  rw [e1]
  exact w4_0 (e := f) (h := b) (k := m) h2 h1 h0 h3 (by omega) (by omega) (by omega) (by omega)
theorem w4_3 {d0 d1 d2 d3 a b c e f g h i j k l m : Nat} (h0 : d0 ≤ 5) (h1 : d1 ≤ 5) (h2 : d2 ≤ 5) (h3 : d3 ≤ 5) (r0 : a + b + c ≤ 7) (r1 : e + f + g ≤ 7) (r2 : h + i + j ≤ 7) (r3 : k + l + m ≤ 7) :
    det4 (d0 : Int) (-a) (-b) 1 (-e) d1 (-f) 1 (-h) (-i) d2 1 (-k) (-l) (-m) 1 ≤ 1154 := by
  have e1 : det4 (d0 : Int) (-a) (-b) 1 (-e) d1 (-f) 1 (-h) (-i) d2 1 (-k) (-l) (-m) 1 = det4 1 (-l) (-m) (-k) 1 (d1 : Int) (-f) (-e) 1 (-i) d2 (-h) 1 (-a) (-b) d0 := by unfold det4 det3 det2; grind
  rw [e1]
  exact w4_0 (e := g) (h := j) (k := c) h3 h1 h2 h0 (by omega) (by omega) (by omega) (by omega)
theorem w3 {d0 d1 d2 a b e f h i : Nat} (h0 : d0 ≤ 5) (h1 : d1 ≤ 5) (h2 : d2 ≤ 5) (r0 : a + b ≤ 7) (r1 : e + f ≤ 7) (r2 : h + i ≤ 7) :
    det3 1 (-a) (-b) 1 (d1 : Int) (-f) 1 (-i) d2 ≤ 1154 ∧ det3 (d0 : Int) 1 (-b) (-e) 1 (-f) (-h) 1 d2 ≤ 1154 ∧ det3 (d0 : Int) (-a) 1 (-e) d1 1 (-h) (-i) 1 ≤ 1154 := by
  refine ⟨?_, ?_, ?_⟩
  · have e1 : det3 1 (-(a : Int)) (-b) 1 (d1 : Int) (-f) 1 (-i) d2 = det4 1 (-a) (-b) (-(0 : Nat)) 1 (d1 : Int) (-f) (-(0 : Nat)) 1 (-i) d2 (-(0 : Nat)) 1 (-(0 : Nat)) (-(0 : Nat)) ((1 : Nat) : Int) := by unfold det4 det3 det2; grind
    rw [e1]
    exact w4_0 (e := e) (h := h) (k := 0) h0 h1 h2 (by decide) (by omega) (by omega) (by omega) (by omega)
  · have e1 : det3 (d0 : Int) 1 (-b) (-e) 1 (-f) (-h) 1 d2 = det4 (d0 : Int) 1 (-b) (-(0 : Nat)) (-e) 1 (-f) (-(0 : Nat)) (-h) 1 d2 (-(0 : Nat)) (-(0 : Nat)) 1 (-(0 : Nat)) ((1 : Nat) : Int) := by unfold det4 det3 det2; grind
    rw [e1]
    exact w4_1 (a := a) (i := i) (l := 0) h0 h1 h2 (by decide) (by omega) (by omega) (by omega) (by omega)
  · have e1 : det3 (d0 : Int) (-a) 1 (-e) d1 1 (-h) (-i) 1 = det4 (d0 : Int) (-a) 1 (-(0 : Nat)) (-e) d1 1 (-(0 : Nat)) (-h) (-i) 1 (-(0 : Nat)) (-(0 : Nat)) (-(0 : Nat)) 1 ((1 : Nat) : Int) := by unfold det4 det3 det2; grind
    rw [e1]
    exact w4_2 (b := b) (f := f) (m := 0) h0 h1 h2 (by decide) (by omega) (by omega) (by omega) (by omega)
/-! ### the weights of a net that ends -/
section
variable {N : Nt}
theorem diag_pos (d : Drawn N) (e : EndsN N) {i : Nat} (hi : i < N.length) : 0 < latt N i i := by
  have h : ∀ j, j ≤ i → 0 < elM (latt N) (i - j) i i := fun j => by
    induction j with
    | zero => intro _; exact e (i + 1) hi
    | succ j ih =>
      intro hj
      have h1 := ih (by omega)
      obtain ⟨k, hk⟩ : ∃ k, i - j = k + 1 := ⟨i - j - 1, by omega⟩
      rw [hk, elM_succ _ _ (by omega)] at h1
      rw [show i - (j + 1) = k by omega]
      have hb : 0 < dv (latt N) k := e k (by omega)
      have hp : 0 < elM (latt N) k k k := e (k + 1) (by omega)
      have s1 := el_signs (T := latt N) (n := N.length) (fun i j _ _ h => latt_off h) k (by omega) (fun l hl => e l (by omega))
      have s2 := s1 i hi k (Nat.le_refl _) (by omega) (by omega)
      have s3 := s1 k (by omega) i (by omega) hi (by omega)
      have s4 : 0 ≤ elM (latt N) k i k * elM (latt N) k k i := Int.mul_nonneg_of_nonpos_of_nonpos s2 s3
      refine Int.lt_of_not_ge fun hx => ?_
      have s5 : elM (latt N) k k k * elM (latt N) k i i ≤ 0 := Int.mul_nonpos_of_nonneg_of_nonpos (by omega) hx
      have := ediv_nonpos hb (show elM (latt N) k k k * elM (latt N) k i i - elM (latt N) k i k * elM (latt N) k k i ≤ 0 by omega)
      omega
  have := h i (Nat.le_refl _)
  rw [Nat.sub_self] at this
  exact this
theorem solR_nn (d : Drawn N) (e : EndsN N) {r : Nat → Int} (hr : ∀ i, i < N.length → 0 ≤ r i) (l : Nat) : 0 ≤ solR N r l := by
  have hp := dv_tabR d e r N.length (Nat.le_refl _)
  unfold solR
  split
  · refine el_nonneg (T := tabR N r) (n := N.length) (fun i j hi hj hij => ?_) (fun i hi => ?_) N.length (Nat.le_refl _) (fun k hk => by rw [hp k hk]; exact e k hk) l (by assumption)
    · unfold tabR; rw [if_neg (by omega)]; exact latt_off hij
    · unfold tabR; rw [if_pos rfl]; exact hr i hi
  · exact Int.le_refl _
theorem latt_d (d : Drawn N) (e : EndsN N) {i : Nat} (hi : i < N.length) : ∃ a : Nat, latt N i i = (a : Int) ∧ a ≤ 5 := by
  have h1 := diag_pos d e hi
  have h2 : latt N i i ≤ 5 := by
    have := d.tu5 i hi
    have h3 : per N i = (kn N i).tu.length := rfl
    unfold latt; rw [if_pos rfl]; omega
  exact ⟨(latt N i i).toNat, by omega, by omega⟩
theorem latt_c {i j : Nat} (h : i ≠ j) : latt N i j = -((cnt N i j : Nat) : Int) := by unfold latt; rw [if_neg h]; omega
theorem solR_le (d : Drawn N) (e : EndsN N) (l : Nat) : solR N (fun _ => 1) l ≤ 1154 := by
  unfold solR
  split
  · rename_i hl
    have hp := dv_tabR d e (fun _ => 1) N.length (Nat.le_refl _)
    have pz : ∀ k, k ≤ N.length → dv (tabR N fun _ => 1) k ≠ 0 := fun k hk => by rw [hp k hk]; have := e k hk; omega
    have n4 := d.n4
    have n1 := d.n1
    have sm := d.sm
    have t1 : ∀ i, tabR N (fun _ => 1) i N.length = 1 := fun i => by unfold tabR; rw [if_pos rfl]
    have t2 : ∀ i j, j < N.length → tabR N (fun _ => 1) i j = latt N i j := fun i j hj => by unfold tabR; rw [if_neg (by omega)]
    have c4 : N.length = 1 ∨ N.length = 2 ∨ N.length = 3 ∨ N.length = 4 := by omega
    rcases c4 with c | c | c | c
    · have hl0 : l = 0 := by omega
      have := t1 0
      rw [c] at this ⊢
      rw [hl0, el1', this]; decide
    · obtain ⟨a0, q0, b0⟩ := latt_d d e (i := 0) (by omega)
      obtain ⟨a1, q1, b1⟩ := latt_d d e (i := 1) (by omega)
      have m0 := sm 0 (by omega)
      have m1 := sm 1 (by omega)
      simp only [S4] at m0 m1
      have z0 := t1 0
      have z1 := t1 1
      rw [c] at z0 z1 ⊢
      have hl' : l = 0 ∨ l = 1 := by omega
      rcases hl' with rfl | rfl
      · rw [el2_0 _ (pz 1 (by omega)), z0, z1, t2 0 1 (by omega), t2 1 1 (by omega), latt_c (i := 0) (j := 1) (by decide), q1]; unfold det2; omega
      · rw [el2_1, z0, z1, t2 0 0 (by omega), t2 1 0 (by omega), latt_c (i := 1) (j := 0) (by decide), q0]; unfold det2; omega
    · obtain ⟨a0, q0, b0⟩ := latt_d d e (i := 0) (by omega)
      obtain ⟨a1, q1, b1⟩ := latt_d d e (i := 1) (by omega)
      obtain ⟨a2, q2, b2⟩ := latt_d d e (i := 2) (by omega)
      have m0 := sm 0 (by omega)
      have m1 := sm 1 (by omega)
      have m2 := sm 2 (by omega)
      simp only [S4] at m0 m1 m2
      have z0 := t1 0
      have z1 := t1 1
      have z2 := t1 2
      rw [c] at z0 z1 z2 ⊢
      have W := w3 (d0 := a0) (d1 := a1) (d2 := a2) (a := cnt N 0 1) (b := cnt N 0 2) (e := cnt N 1 0) (f := cnt N 1 2) (h := cnt N 2 0) (i := cnt N 2 1) b0 b1 b2 (by omega) (by omega) (by omega)
      have hl' : l = 0 ∨ l = 1 ∨ l = 2 := by omega
      have f01 := t2 0 1 (by omega); have f02 := t2 0 2 (by omega); have f10 := t2 1 0 (by omega); have f12 := t2 1 2 (by omega); have f20 := t2 2 0 (by omega); have f21 := t2 2 1 (by omega)
      have f00 := t2 0 0 (by omega); have f11 := t2 1 1 (by omega); have f22 := t2 2 2 (by omega)
      rw [latt_c (by decide)] at f01 f02 f10 f12 f20 f21
      rw [q0] at f00; rw [q1] at f11; rw [q2] at f22
      rcases hl' with rfl | rfl | rfl
      · rw [el3_0 _ (pz 1 (by omega)) (pz 2 (by omega)), z0, z1, z2, f01, f02, f11, f12, f21, f22]; exact W.1
      · rw [el3_1 _ (pz 1 (by omega)) (pz 2 (by omega)), z0, z1, z2, f00, f02, f10, f12, f20, f22]; exact W.2.1
      · rw [el3_2 _ (pz 1 (by omega)), z0, z1, z2, f00, f01, f10, f11, f20, f21]; exact W.2.2
    · obtain ⟨a0, q0, b0⟩ := latt_d d e (i := 0) (by omega)
      obtain ⟨a1, q1, b1⟩ := latt_d d e (i := 1) (by omega)
      obtain ⟨a2, q2, b2⟩ := latt_d d e (i := 2) (by omega)
      obtain ⟨a3, q3, b3⟩ := latt_d d e (i := 3) (by omega)
      have m0 := sm 0 (by omega)
      have m1 := sm 1 (by omega)
      have m2 := sm 2 (by omega)
      have m3 := sm 3 (by omega)
      simp only [S4] at m0 m1 m2 m3
      have z0 := t1 0
      have z1 := t1 1
      have z2 := t1 2
      have z3 := t1 3
      rw [c] at z0 z1 z2 z3 ⊢
      have hl' : l = 0 ∨ l = 1 ∨ l = 2 ∨ l = 3 := by omega
      have f01 := t2 0 1 (by omega); have f02 := t2 0 2 (by omega); have f03 := t2 0 3 (by omega); have f10 := t2 1 0 (by omega); have f12 := t2 1 2 (by omega); have f13 := t2 1 3 (by omega); have f20 := t2 2 0 (by omega); have f21 := t2 2 1 (by omega); have f23 := t2 2 3 (by omega); have f30 := t2 3 0 (by omega); have f31 := t2 3 1 (by omega); have f32 := t2 3 2 (by omega)
      have f00 := t2 0 0 (by omega); have f11 := t2 1 1 (by omega); have f22 := t2 2 2 (by omega); have f33 := t2 3 3 (by omega)
      rw [latt_c (by decide)] at f01 f02 f03 f10 f12 f13 f20 f21 f23 f30 f31 f32
      rw [q0] at f00; rw [q1] at f11; rw [q2] at f22; rw [q3] at f33
      have p1 := pz 1 (by omega)
      have p2 := pz 2 (by omega)
      have p3 := pz 3 (by omega)
      rcases hl' with rfl | rfl | rfl | rfl
      · rw [el4_0 _ p1 p2 p3, z0, z1, z2, z3, f01, f02, f03, f11, f12, f13, f21, f22, f23, f31, f32, f33]
        exact w4_0 (e := cnt N 1 0) (h := cnt N 2 0) (k := cnt N 3 0) b0 b1 b2 b3 (by omega) (by omega) (by omega) (by omega)
      · rw [el4_1 _ p1 p2 p3, z0, z1, z2, z3, f00, f02, f03, f10, f12, f13, f20, f22, f23, f30, f32, f33]
        exact w4_1 (a := cnt N 0 1) (i := cnt N 2 1) (l := cnt N 3 1) b0 b1 b2 b3 (by omega) (by omega) (by omega) (by omega)
      · rw [el4_2 _ p1 p2 p3, z0, z1, z2, z3, f00, f01, f03, f10, f11, f13, f20, f21, f23, f30, f31, f33]
        exact w4_2 (b := cnt N 0 2) (f := cnt N 1 2) (m := cnt N 3 2) b0 b1 b2 b3 (by omega) (by omega) (by omega) (by omega)
      · rw [el4_3 _ p1 p2, z0, z1, z2, z3, f00, f01, f02, f10, f11, f12, f20, f21, f22, f30, f31, f32]
        exact w4_3 (c := cnt N 0 3) (g := cnt N 1 3) (j := cnt N 2 3) b0 b1 b2 b3 (by omega) (by omega) (by omega) (by omega)
  · decide
end
end Ch
end
section
/-! M9: how many passes a settling takes at most. Plain Lean. -/
set_option linter.all false
namespace Ch
theorem S4_one_if (x : Nat) : S4 (fun u => if x = u then 1 else 0) ≤ 1 := by
  simp only [S4]
  repeat' split
  all_goals omega
theorem count4 : ∀ d : List Nat, S4 (fun u => d.count u) ≤ d.length
  | [] => by simp [S4]
  | x :: d => by
    have ih := count4 d
    have e : (fun u => (x :: d).count u) = fun u => d.count u + if x = u then 1 else 0 := by
      funext u
      rw [List.count_cons]
      by_cases c : x = u
      · subst c; simp
      · simp [c]
    rw [e, S4_add, List.length_cons]
    have := S4_one_if x
    omega
theorem cts4 : ∀ {l : List (List Nat)}, (∀ d ∈ l, d.length ≤ 2) → S4 (fun u => cts l u) ≤ 2 * l.length
  | [], _ => by simp [S4, cts]
  | d :: l, h => by
    have ih := cts4 (l := l) fun e he => h e (List.mem_cons_of_mem _ he)
    have e : (fun u => cts (d :: l) u) = fun u => d.count u + cts l u := by funext u; rw [cts_cons]
    rw [e, S4_add, List.length_cons]
    change S4 (cts l) ≤ _ at ih
    change S4 (fun u => List.count u d) + S4 (cts l) ≤ _
    have := count4 d
    have := h d (List.mem_cons_self ..)
    omega
theorem wcts {w : Nat → Nat} {W : Nat} (hw : ∀ u, w u ≤ W) {l : List (List Nat)} (h : ∀ d ∈ l, d.length ≤ 2) : S4 (fun u => w u * cts l u) ≤ W * (2 * l.length) := by
  refine Nat.le_trans (S4_le (g := fun u => W * cts l u) fun u _ => Nat.mul_le_mul (hw u) (Nat.le_refl _)) ?_
  rw [S4_mul]
  exact Nat.mul_le_mul (Nat.le_refl _) (cts4 h)
theorem fall_none {k : Kn} {u : Nat} (h : ∀ d ∈ k.ds, u ∉ d) (p : Nat) : ∀ x, fall k p u x = 0
  | 0 => rfl
  | x + 1 => by
    show fall k p u x + (dr k (plc k p x)).count u = 0
    rw [fall_none h p x]
    have : (dr k (plc k p x)).count u = 0 := by
      unfold dr
      by_cases c : plc k p x < k.ds.length
      · rw [List.getD_eq_getElem?_getD, List.getElem?_eq_getElem c]
        exact List.count_eq_zero_of_not_mem (h _ (List.getElem_mem c))
      · rw [List.getD_eq_getElem?_getD, List.getElem?_eq_none (by omega)]; rfl
    omega
section
variable {N : Nt} {s b x y : Nat → Nat}
theorem Drawn.inn0 (d : Drawn N) {u : Nat} (h1 : N.length ≤ u) (h2 : u < 4) : inn N s x u = 0 := by
  unfold inn
  refine S4_zero fun v _ => ?_
  by_cases c : v < N.length
  · refine fall_none (fun e he hu => ?_) _ _
    have := d.tg v c e he u hu
    omega
  · exact fall_out (by omega) _
/-- the weights -/
def wgt (N : Nt) (v : Nat) : Nat := (solR N (fun _ => 1) v).toNat
theorem wgt_le (d : Drawn N) (e : EndsN N) (v : Nat) : wgt N v ≤ 1154 := by
  have := solR_le d e v
  unfold wgt; omega
theorem wgt_row (d : Drawn N) (e : EndsN N) {v : Nat} (hv : v < N.length) : S4 (fun u => wgt N u * cnt N v u) + 1 ≤ per N v * wgt N v := by
  have n4 := d.n4
  have h := solR_eq d e (fun _ => 1) hv
  rw [latt_sumR _ (by omega)] at h
  have nn := solR_nn d e (r := fun _ => 1) (fun _ _ => by decide)
  have dp := e.dt
  have e1 : ((S4 (fun u => wgt N u * cnt N v u) : Nat) : Int) = S4i (fun l => (cnt N v l : Int) * solR N (fun _ => 1) l) := by
    rw [S4i_cast]
    refine S4i_congr fun u _ => ?_
    unfold wgt; push_cast; rw [Int.toNat_of_nonneg (nn u), Int.mul_comm]
  have e2 : ((per N v * wgt N v : Nat) : Int) = (per N v : Int) * solR N (fun _ => 1) v := by
    unfold wgt; push_cast; rw [Int.toNat_of_nonneg (nn v)]
  omega
theorem fallW (d : Drawn N) (e : EndsN N) {v p : Nat} (hv : v < N.length) (hp : p < (kn N v).len) (x : Nat) :
    S4 (fun u => wgt N u * fall (kn N v) p u x) ≤ (x / per N v) * S4 (fun u => wgt N u * cnt N v u) + 27696 := by
  have h7 := d.len7 v
  have h5 := d.tu5 v hv
  have hw := wgt_le d e
  have d2 := d.dr2 v hv
  have l1 : ((kn N v).ds.drop p).length ≤ 7 := by rw [List.length_drop, ds_length]; omega
  have w1 := wcts hw (l := (kn N v).ds.drop p) fun q hq => d2 q (List.mem_of_mem_drop hq)
  have w1' : S4 (fun u => wgt N u * cts ((kn N v).ds.drop p) u) ≤ 1154 * 14 := Nat.le_trans w1 (Nat.mul_le_mul (Nat.le_refl _) (by omega))
  by_cases c : (kn N v).len - p ≤ x
  · have w2 := wcts hw (l := (kn N v).tu) fun q hq => d2 q (List.mem_append_right _ hq)
    have w2' : S4 (fun u => wgt N u * cts (kn N v).tu u) ≤ 1154 * 10 := Nat.le_trans w2 (Nat.mul_le_mul (Nat.le_refl _) (by omega))
    have hx : ∀ u, fall (kn N v) p u x ≤ cts ((kn N v).ds.drop p) u + (x / per N v) * cnt N v u + cts (kn N v).tu u := fun u => by
      rw [fall_split hp c, fall_fr (d.tu v hv)]
      have a1 : (x - ((kn N v).len - p)) / (kn N v).per ≤ x / per N v := Nat.div_le_div_right (by omega)
      have a2 := Nat.mul_le_mul a1 (Nat.le_refl ((kn N v).cnt u))
      have a3 : cts ((kn N v).tu.take ((x - ((kn N v).len - p)) % (kn N v).per)) u ≤ cts (kn N v).tu u := by
        conv => rhs; rw [← List.take_append_drop ((x - ((kn N v).len - p)) % (kn N v).per) (kn N v).tu, cts_append]
        omega
      have a4 : cnt N v u = (kn N v).cnt u := rfl
      rw [a4]; omega
    have hs : S4 (fun u => wgt N u * fall (kn N v) p u x) ≤ S4 (fun u => wgt N u * cts ((kn N v).ds.drop p) u + (x / per N v) * (wgt N u * cnt N v u) + wgt N u * cts (kn N v).tu u) := S4_le fun u _ => by
      have := Nat.mul_le_mul (Nat.le_refl (wgt N u)) (hx u)
      rw [Nat.mul_add, Nat.mul_add] at this
      have e3 : wgt N u * (x / per N v * cnt N v u) = x / per N v * (wgt N u * cnt N v u) := by
        rw [← Nat.mul_assoc, ← Nat.mul_assoc, Nat.mul_comm (wgt N u)]
      omega
    rw [S4_add, S4_add, S4_mul] at hs
    omega
  · have hs : S4 (fun u => wgt N u * fall (kn N v) p u x) ≤ S4 (fun u => wgt N u * cts ((kn N v).ds.drop p) u) := S4_le fun u _ => by
      refine Nat.mul_le_mul (Nat.le_refl _) ?_
      rw [fall_lin x (by omega)]
      conv => rhs; rw [← List.take_append_drop x ((kn N v).ds.drop p), cts_append]
      omega
    omega
theorem S4_swap (f : Nat → Nat → Nat) : S4 (fun u => S4 fun v => f v u) = S4 (fun v => S4 fun u => f v u) := by simp only [S4]; omega
theorem take_le (d : Drawn N) (e : EndsN N) (hs : Stg N s) (h : Lst N s b x) (hb : ∀ u, N.length ≤ u → u < 4 → b u = 0) : S4 x ≤ 5770 * S4 b + 553936 := by
  have hx0 : ∀ u, N.length ≤ u → u < 4 → x u = 0 := fun u h1 h2 => by
    have := h.bal u h2
    rw [hb u h1 h2, d.inn0 h1 h2] at this; omega
  let G : Nat → Nat := fun v => S4 fun u => wgt N u * fall (kn N v) (s v) u (x v)
  have hG : S4 (fun u => wgt N u * inn N s x u) = S4 G := by
    show _ = S4 (fun v => S4 fun u => wgt N u * fall (kn N v) (s v) u (x v))
    rw [← S4_swap]
    refine S4_congr fun u _ => ?_
    unfold inn
    rw [S4_mul]
  have hbal : S4 (fun u => wgt N u * b u) + S4 G = S4 (fun u => wgt N u * x u) := by
    rw [← hG, ← S4_add]
    refine S4_congr fun u hu => ?_
    rw [← Nat.mul_add, h.bal u hu]
  have hv : ∀ v, v < 4 → G v + x v / per N v ≤ wgt N v * x v + 27696 := fun v h4 => by
    by_cases c : v < N.length
    · have f := fallW d e c (hs v) (x v)
      have r := wgt_row d e c
      have m := Nat.mul_le_mul (Nat.le_refl (x v / per N v)) r
      rw [Nat.mul_add, Nat.mul_one] at m
      have m2 : x v / per N v * (per N v * wgt N v) ≤ wgt N v * x v := by
        rw [← Nat.mul_assoc, Nat.mul_comm (wgt N v)]
        exact Nat.mul_le_mul (Nat.div_mul_le_self _ _) (Nat.le_refl _)
      show S4 (fun u => wgt N u * fall (kn N v) (s v) u (x v)) + _ ≤ _
      omega
    · have hz : x v = 0 := hx0 v (by omega) h4
      have g0 : G v = 0 := S4_zero fun u _ => by rw [fall_out (by omega)]; rfl
      rw [g0, hz]; simp
  have hsum : S4 G + S4 (fun v => x v / per N v) ≤ S4 (fun v => wgt N v * x v) + 110784 := by
    have := S4_le (f := fun v => G v + x v / per N v) (g := fun v => wgt N v * x v + 27696) hv
    rw [S4_add, S4_add] at this
    have e4 : S4 (fun _ => 27696) = 110784 := rfl
    omega
  have hwb : S4 (fun u => wgt N u * b u) ≤ 1154 * S4 b := by
    rw [← S4_mul]
    exact S4_le fun u _ => Nat.mul_le_mul (wgt_le d e u) (Nat.le_refl _)
  have hx5 : S4 x ≤ S4 (fun v => 5 * (x v / per N v) + 4) := S4_le fun v h4 => by
    by_cases c : v < N.length
    · have h5 := d.tu5 v c
      have hp : 0 < per N v := List.length_pos_iff.mpr (d.tu v c)
      have h6 : per N v ≤ 5 := h5
      have m1 := Nat.div_add_mod (x v) (per N v)
      have m2 := Nat.mod_lt (x v) hp
      have m3 := Nat.mul_le_mul h6 (Nat.le_refl (x v / per N v))
      omega
    · rw [hx0 v (by omega) h4]; exact Nat.zero_le _
  rw [S4_add, S4_mul] at hx5
  have e4 : S4 (fun _ => 4) = 16 := rfl
  omega
/-! ### on the way -/
structure Mid (N : Nt) (s b y : Nat → Nat) : Prop where
  below : Below N s b y
  up : ∀ u, u < 4 → y u ≤ b u + inn N s y u
theorem Mid.zero : Mid N s b fun _ => 0 := ⟨below_zero, fun _ _ => Nat.zero_le _⟩
theorem Mid.step (h : Mid N s b y) {v m : Nat} (hv : v < 4) (hm : y v + m = b v + inn N s y v) : Mid N s b (put y v (y v + m)) := by
  refine ⟨below_take h.below hv (by omega), fun u hu => ?_⟩
  have h3 := inn_put (N := N) (s := s) (y := y) (v := v) (m := y v + m) (by omega) u
  by_cases e : u = v
  · subst e; rw [put_same]; omega
  · rw [put_ne y e]; have := h.up u hu; omega
theorem Mid.done (d : Drawn N) (h : Mid N s b y) (hb : ∀ u, N.length ≤ u → u < 4 → b u = 0) (hd : ∀ u, u < N.length → b u + inn N s y u ≤ y u) : Lst N s b y := h.below.lst fun u hu => by
  have h1 := h.up u hu
  by_cases c : u < N.length
  · have := hd u c; omega
  · have h2 := hb u (by omega) hu
    have h3 : inn N s y u = 0 := d.inn0 (by omega) hu
    omega
/-- what waits -/
def wai (N : Nt) (s b y : Nat → Nat) (u : Nat) : Nat := b u + inn N s y u - y u
theorem Mid.rest (d : Drawn N) (e : EndsN N) (hs : Stg N s) (h : Mid N s b y) (hb : ∀ u, N.length ≤ u → u < 4 → b u = 0) : S4 (odo N s b) ≤ S4 y + 5770 * S4 (wai N s b y) + 553936 := by
  have C := d.nice e
  have hs' := hs.aft C.toSound (x := y)
  have L := C.lstO hs' (wai N s b y)
  have hw0 : ∀ u, N.length ≤ u → u < 4 → wai N s b y u = 0 := fun u h1 h2 => by
    have h3 : inn N s y u = 0 := d.inn0 h1 h2
    unfold wai; rw [hb u h1 h2, h3]; omega
  have t := take_le d e hs' L hw0
  have hsol : Sol N s b (fun u => y u + odo N (aft N s y) (wai N s b y) u) := fun u hu => by
    have h1 := L.bal u hu
    have h2 := h.up u hu
    have h3 : wai N s b y u = b u + inn N s y u - y u := rfl
    show b u + inn N s (fun u => y u + odo N (aft N s y) (wai N s b y) u) u ≤ y u + odo N (aft N s y) (wai N s b y) u
    rw [inn_add]
    rw [h3] at h1
    omega
  have hz : S4 (odo N s b) ≤ S4 (fun u => y u + odo N (aft N s y) (wai N s b y) u) := S4_le fun u hu => (C.lstO hs b).min _ hsol u hu
  rw [S4_add] at hz
  have : S4 (fun u => y u) = S4 y := rfl
  have : S4 (fun u => odo N (aft N s y) (wai N s b y) u) = S4 (odo N (aft N s y) (wai N s b y)) := rfl
  omega
/-- the number of passes -/
def CntOk (N : Nt) (s b : Nat → Nat) (p : Nat) (y : Nat → Nat) : Prop := 100 * p ≤ S4 y ∨ ∃ p0 y0, 100 * p0 ≤ y0 ∧ y0 ≤ S4 y ∧ p ≤ p0 + (S4 y - y0) ∧ S4 (odo N s b) ≤ y0 + 1130936
theorem CntOk.zero : CntOk N s b 0 y := .inl (Nat.zero_le _)
theorem CntOk.step {p : Nat} {y' : Nat → Nat} (d : Drawn N) (e : EndsN N) (hs : Stg N s) (h : Mid N s b y) (hb : ∀ u, N.length ≤ u → u < 4 → b u = 0) (c : CntOk N s b p y) (h1 : 1 ≤ S4 (wai N s b y)) (h2 : S4 y + S4 (wai N s b y) ≤ S4 y') : CntOk N s b (p + 1) y' := by
  have r := h.rest d e hs hb
  rcases c with c | ⟨p0, y0, c1, c2, c3, c4⟩
  · by_cases hw : 100 ≤ S4 (wai N s b y)
    · exact .inl (by omega)
    · exact .inr ⟨p, S4 y, c, by omega, by omega, by omega⟩
  · exact .inr ⟨p0, y0, c1, by omega, by omega, c4⟩
theorem Mid.le (d : Drawn N) (e : EndsN N) (hs : Stg N s) (h : Mid N s b y) : S4 y ≤ S4 (odo N s b) := S4_le fun u hu => h.below _ (((d.nice e).lstO hs b).sol) u hu
theorem CntOk.le {p : Nat} (d : Drawn N) (e : EndsN N) (hs : Stg N s) (h : Mid N s b y) (hb : ∀ u, N.length ≤ u → u < 4 → b u = 0) (hB : S4 b ≤ 11000) (c : CntOk N s b p y) : p ≤ 1800000 := by
  have t := take_le d e hs ((d.nice e).lstO hs b) hb
  have l := h.le d e hs
  rcases c with c | ⟨p0, y0, c1, c2, c3, c4⟩ <;> omega
end
end Ch
end
section
/-! M10: a course added up. Plain Lean. -/
set_option linter.all false
namespace Ch
theorem sumTo_mul (c : Nat) (g : Nat → Nat) : ∀ m, sumTo m (fun k => c * g k) = c * sumTo m g
  | 0 => rfl
  | m + 1 => by show sumTo m (fun k => c * g k) + c * g m = c * (sumTo m g + g m); rw [sumTo_mul c g m, Nat.mul_add]
theorem sumTo_plus (g h : Nat → Nat) : ∀ m, sumTo m (fun k => g k + h k) = sumTo m g + sumTo m h
  | 0 => rfl
  | m + 1 => by show sumTo m (fun k => g k + h k) + (g m + h m) = sumTo m g + g m + (sumTo m h + h m); rw [sumTo_plus g h m]; omega
theorem sumTo_zero (m : Nat) : sumTo m (fun _ => 0) = 0 := by
  induction m with
  | zero => rfl
  | succ m ih => show sumTo m (fun _ => 0) + 0 = 0; rw [ih]
theorem sumTo_le {g h : Nat → Nat} : ∀ {m : Nat}, (∀ k, k < m → g k ≤ h k) → sumTo m g ≤ sumTo m h
  | 0, _ => Nat.le_refl _
  | m + 1, e => Nat.add_le_add (sumTo_le fun k hk => e k (by omega)) (e m (by omega))
theorem sumTo_cut (h : Nat → Nat) {last : Nat} : ∀ {d : Nat}, last ≤ d → sumTo d (fun k => if k < last then h k else 0) = sumTo last h := fun {d} hd => by
  obtain ⟨c, rfl⟩ := Nat.le.dest hd
  rw [sumTo_add, sumTo_congr (h := h) (fun k hk => if_pos hk), sumTo_congr (m := c) (h := fun _ => 0) (fun k hk => if_neg (by omega)), sumTo_zero, Nat.add_zero]
/-- how often a row of the list counts -/
def tms (many lf lp k : Nat) : Nat := if k < min many lf then 1 else (many - lf) / lp + if k - min many lf < (many - lf) % lp then 1 else 0
/-- the rows that are added up -/
def tot {α : Type} (f p : List α) (many : Nat) : List α := f.take many ++ p
theorem tot_len {α : Type} (f p : List α) (many : Nat) : (tot f p many).length = min many f.length + p.length := by unfold tot; rw [List.length_append, List.length_take]
theorem tot_sum {r : Nat → Nat × Nat} {f p : List (Nat × Nat)} (t : Tells r f p) (c : Nat × Nat → Nat) (many : Nat) :
    sumTo (tot f p many).length (fun k => tms many f.length p.length k * c ((tot f p many).getD k (0, 0))) = sumTo many (fun k => c (r k)) := by
  have hp := t.pos
  have g1 : ∀ k, k < min many f.length → (tot f p many).getD k (0, 0) = r k := fun k hk => by
    unfold tot
    rw [List.getD_eq_getElem?_getD, List.getElem?_append_left (by rw [List.length_take]; exact hk), List.getElem?_take_of_lt (by omega), t.front (by omega)]; rfl
  have g2 : ∀ j, j < p.length → (tot f p many).getD (min many f.length + j) (0, 0) = r (f.length + j) := fun j hj => by
    unfold tot
    have := t.per j
    rw [Nat.mod_eq_of_lt hj] at this
    rw [List.getD_eq_getElem?_getD, List.getElem?_append_right (by rw [List.length_take]; omega), List.length_take, Nat.add_sub_cancel_left, this]; rfl
  rw [tot_len, sumTo_add]
  have a1 : sumTo (min many f.length) (fun k => tms many f.length p.length k * c ((tot f p many).getD k (0, 0))) = sumTo (min many f.length) (fun k => c (r k)) := sumTo_congr fun k hk => by
    unfold tms; rw [if_pos hk, g1 k hk, Nat.one_mul]
  have a2 : sumTo p.length (fun k => tms many f.length p.length (min many f.length + k) * c ((tot f p many).getD (min many f.length + k) (0, 0)))
      = (many - f.length) / p.length * sumTo p.length (fun k => c (r (f.length + k))) + sumTo ((many - f.length) % p.length) (fun k => c (r (f.length + k))) := by
    rw [← sumTo_cut (fun k => c (r (f.length + k))) (Nat.le_of_lt (Nat.mod_lt (many - f.length) hp)), ← sumTo_mul, ← sumTo_plus]
    refine sumTo_congr fun k hk => ?_
    unfold tms
    rw [if_neg (by omega), g2 k hk, Nat.add_sub_cancel_left, Nat.add_mul]
    split
    · rw [Nat.one_mul]
    · rw [Nat.zero_mul]
  rw [a1, a2]
  by_cases h : many ≤ f.length
  · rw [Nat.min_eq_left h, Nat.sub_eq_zero_of_le h, Nat.zero_div, Nat.zero_mod, Nat.zero_mul]
    show _ + (0 + 0) = _
    omega
  · rw [Nat.min_eq_right (by omega)]
    have e1 : many = f.length + ((many - f.length) / p.length * p.length + (many - f.length) % p.length) := by
      have := Nat.div_add_mod (many - f.length) p.length
      rw [Nat.mul_comm] at this
      omega
    conv => rhs; rw [e1, sumTo_add, sumTo_add]
    rw [sumTo_rounds (g := fun k => c (r k)) (d := p.length) (a := f.length) (fun k hk => by rw [t.again hk])]
    congr 2
    refine sumTo_congr fun k _ => ?_
    have := t.again_mul (k := f.length + k) (by omega) ((many - f.length) / p.length)
    rw [show f.length + ((many - f.length) / p.length * p.length + k) = f.length + k + (many - f.length) / p.length * p.length by omega, this]
end Ch
end
section
/-! M11: the determinant by its first column. Plain Lean. -/
set_option linter.all false
namespace Ch
/-- without row i and the first column -/
def less (T : Nat → Nat → Int) (i r c : Nat) : Int := T (if r < i then r else r + 1) (c + 1)
def sgn (i : Nat) : Int := if i % 2 = 0 then 1 else -1
def ldet : Nat → (Nat → Nat → Int) → Int
  | 0, _ => 1
  | n + 1, T => sumN (n + 1) fun i => sgn i * T i 0 * ldet n (less T i)
def lb : Nat → Nat
  | 0 => 1
  | n + 1 => (n + 1) * (10 * lb n)
theorem less_bd {n : Nat} {T : Nat → Nat → Int} (h : ∀ i j, i < n + 1 → j < n + 1 → (T i j).natAbs ≤ 10) (k : Nat) : ∀ i j, i < n → j < n → (less T k i j).natAbs ≤ 10 := fun i j hi hj => by
  unfold less; split
  · exact h _ _ (by omega) (by omega)
  · exact h _ _ (by omega) (by omega)
theorem term_bd {n : Nat} {T : Nat → Nat → Int} {i : Nat} (h1 : (T i 0).natAbs ≤ 10) {d : Int} {b : Nat} (hd : d.natAbs ≤ b) : (sgn i * T i 0 * d).natAbs ≤ 10 * b := by
  have e : (sgn i).natAbs = 1 := by unfold sgn; split <;> rfl
  rw [Int.natAbs_mul, Int.natAbs_mul, e, Nat.one_mul]
  exact Nat.mul_le_mul h1 hd
theorem sumN_bd {f : Nat → Int} {b : Nat} : ∀ m, (∀ i, i < m → (f i).natAbs ≤ b) → (sumN m f).natAbs ≤ m * b
  | 0, _ => by simp [sumN]
  | m + 1, h => by
    have h1 := sumN_bd m fun i hi => h i (by omega)
    have h2 := h m (by omega)
    unfold sumN
    rw [Nat.add_mul, Nat.one_mul]
    omega
theorem ldet_bd : ∀ (n : Nat) {T : Nat → Nat → Int}, (∀ i j, i < n → j < n → (T i j).natAbs ≤ 10) → (ldet n T).natAbs ≤ lb n
  | 0, _, _ => (by show (1 : Int).natAbs ≤ 1; decide)
  | n + 1, T, h => by
    unfold ldet lb
    exact sumN_bd (n + 1) fun i hi => term_bd (n := n) (h i 0 hi (by omega)) (ldet_bd n (less_bd h i))
theorem lb_mono {m n : Nat} (h : m ≤ n) : lb m ≤ lb n := by
  induction h with
  | refl => exact Nat.le_refl _
  | step _ ih =>
    refine Nat.le_trans ih ?_
    show _ ≤ (_ + 1) * (10 * lb _)
    rename_i m _
    have : 1 * (10 * lb m) ≤ (m + 1) * (10 * lb m) := Nat.mul_le_mul_right _ (by omega)
    omega
theorem lb4 {n : Nat} (h : n ≤ 4) : lb n ≤ 240000 := Nat.le_trans (lb_mono h) (by decide)
theorem ldet1 (T : Nat → Nat → Int) : ldet 1 T = T 0 0 := by simp [ldet, sumN, sgn]
theorem ldet2 (T : Nat → Nat → Int) : ldet 2 T = det2 (T 0 0) (T 0 1) (T 1 0) (T 1 1) := by
  simp [ldet, sumN, sgn, less, det2]; grind
theorem ldet3 (T : Nat → Nat → Int) : ldet 3 T = det3 (T 0 0) (T 0 1) (T 0 2) (T 1 0) (T 1 1) (T 1 2) (T 2 0) (T 2 1) (T 2 2) := by
  unfold ldet
  simp only [sumN, ldet2]
  simp [sgn, less, det3, det2]; grind
theorem ldet4 (T : Nat → Nat → Int) : ldet 4 T = det4 (T 0 0) (T 0 1) (T 0 2) (T 0 3) (T 1 0) (T 1 1) (T 1 2) (T 1 3) (T 2 0) (T 2 1) (T 2 2) (T 2 3) (T 3 0) (T 3 1) (T 3 2) (T 3 3) := by
  unfold ldet
  simp only [sumN, ldet3]
  simp [sgn, less, det4, det3, det2]; grind
theorem dv_ldet {n : Nat} {T : Nat → Nat → Int} (hn : n ≤ 4) (h : ∀ k, 1 ≤ k → k ≤ n → 0 < ldet k T) : ∀ k, k ≤ n → 0 < dv T k := fun k hk => by
  have h1 : 1 ≤ n → 0 < dv T 1 := fun c => by have e := dv1 (T := T); rw [e, ← ldet1 T]; exact h 1 (by omega) c
  have h2 : 2 ≤ n → 0 < dv T 2 := fun c => by rw [dv2, ← ldet2]; exact h 2 (by omega) c
  have h3 : 3 ≤ n → 0 < dv T 3 := fun c => by rw [dv3 (by have := h1 (by omega); omega), ← ldet3]; exact h 3 (by omega) c
  have h4 : 4 ≤ n → 0 < dv T 4 := fun c => by rw [dv4 (by have := h1 (by omega); omega) (by have := h2 (by omega); omega), ← ldet4]; exact h 4 (by omega) c
  have : k = 0 ∨ k = 1 ∨ k = 2 ∨ k = 3 ∨ k = 4 := by omega
  rcases this with rfl | rfl | rfl | rfl | rfl
  · rw [dv_zero]; decide
  · exact h1 hk
  · exact h2 hk
  · exact h3 hk
  · exact h4 hk
end Ch
end
section
/-! M12: the rows of a course are small. Plain Lean. -/
set_option linter.all false
namespace Ch
section
variable {N : Nt} {s : Nat → Nat}
theorem dr_le {k : Kn} (h : ∀ d ∈ k.ds, d.length ≤ 2) (p u : Nat) : (dr k p).count u ≤ 2 := by
  unfold dr
  rw [List.getD_eq_getElem?_getD]
  cases e : k.ds[p]? with
  | none => simp
  | some d => exact Nat.le_trans List.count_le_length (h d (List.mem_of_getElem? e))
theorem fall_le2 {k : Kn} (h : ∀ d ∈ k.ds, d.length ≤ 2) (p u : Nat) : ∀ x, fall k p u x ≤ 2 * x
  | 0 => Nat.zero_le _
  | x + 1 => by
    have h1 := fall_le2 h p u x
    have h2 := dr_le h (plc k p x) u
    have : fall k p u (x + 1) = fall k p u x + (dr k (plc k p x)).count u := rfl
    omega
theorem Drawn.dr2' (d : Drawn N) (v : Nat) : ∀ e ∈ (kn N v).ds, e.length ≤ 2 := by
  by_cases c : v < N.length
  · exact d.dr2 v c
  · rw [kn_out (by omega)]; intro e he; simp [Kn.ds] at he; rw [he]; decide
theorem S4_e1 : S4 e1 = 1 := rfl
theorem outs_small (d : Drawn N) (e : EndsN N) (hs : Stg N s) (u : Nat) : outs N s e1 u < 2 ^ 60 := by
  have n1 := d.n1
  have h := (d.nice e).lstO hs e1
  have t := take_le d e hs h fun u h1 h2 => by unfold e1; rw [if_neg (by omega)]
  rw [S4_e1] at t
  have h2 : outs N s e1 u ≤ 2 * S4 (odo N s e1) := by
    unfold outs inn
    rw [← S4_mul]
    exact S4_le fun v _ => fall_le2 (d.dr2' v) _ _ _
  have : (2 : Nat) ^ 60 = 1152921504606846976 := by decide
  omega
theorem row_small (d : Drawn N) (e : EndsN N) (hs : Stg N s) (k : Nat) : (row N s k).1 < 2 ^ 60 ∧ (row N s k).2 < 2 ^ 60 :=
  ⟨outs_small d e (stg_st (d.nice e) hs k) 4, outs_small d e (stg_st (d.nice e) hs k) 5⟩
theorem Tells.mem {α : Type} {r : Nat → α} {f p : List α} (h : Tells r f p) : ∀ x ∈ f ++ p, ∃ k, x = r k := fun x hx => by
  rcases List.mem_append.mp hx with g | g
  · obtain ⟨i, hi⟩ := List.getElem?_of_mem g
    have := h.front (List.getElem?_eq_some_iff.mp hi).1
    rw [hi] at this
    exact ⟨i, Option.some.inj this⟩
  · obtain ⟨i, hi⟩ := List.getElem?_of_mem g
    have := h.per i
    rw [Nat.mod_eq_of_lt (List.getElem?_eq_some_iff.mp hi).1, hi] at this
    exact ⟨_, Option.some.inj this⟩
theorem stg0 (d : Drawn N) : Stg N fun _ => 0 := fun v => by
  have := d.sound.tu v
  have := List.length_pos_iff.mpr this
  show 0 < (kn N v).len
  unfold Kn.len; omega
end
end Ch
end
section
set_option Elab.async false
set_option linter.all false
set_option maxRecDepth 100000
/-! K0: the defs of the text by places, and what the head is to tell (printed by gen.py). -/
namespace K11
open PySem PySem.Spec PyProof.Rows L2
def top (i : Nat) : Stmt := PySem.Challenge.pw_ballchutes_k11_whole_far_courses.main.body.getD i (.Pass ⟨0, 0, 0, 0⟩)
abbrev s_minors_of : Stmt := top 11
abbrev s_solved : Stmt := top 12
abbrev s_common : Stmt := top 13
abbrev s_lowered : Stmt := top 14
abbrev s_is_number : Stmt := top 20
abbrev s_is_name : Stmt := top 21
abbrev s_is_row : Stmt := top 22
abbrev s_is_knot : Stmt := top 23
abbrev s_first_wrong : Stmt := top 24
abbrev s_Net_init : Stmt := inClass (top 25) 0
abbrev s_Net_met : Stmt := inClass (top 25) 4
abbrev s_Net_start : Stmt := inClass (top 25) 5
abbrev s_Net_front : Stmt := inClass (top 25) 6
abbrev s_Net_period : Stmt := inClass (top 25) 7
abbrev s_Net_turned : Stmt := inClass (top 25) 8
abbrev s_Net_check_standing : Stmt := inClass (top 25) 9
abbrev s_Net_place_behind : Stmt := inClass (top 25) 10
abbrev s_Net_dropped : Stmt := inClass (top 25) 11
abbrev s_count : Stmt := top 26
abbrev s_check_net : Stmt := top 27
abbrev s_lattice : Stmt := top 29
abbrev s_ends : Stmt := top 30
abbrev s_check_balls : Stmt := top 32
abbrev s_Board_init : Stmt := inClass (top 33) 0
abbrev s_Board_take : Stmt := inClass (top 33) 1
abbrev s_Board_first_waiting : Stmt := inClass (top 33) 2
abbrev s_Settled_init : Stmt := inClass (top 34) 0
abbrev s_begun : Stmt := top 35
abbrev s_settle : Stmt := top 36
abbrev s_Course_init : Stmt := inClass (top 39) 0
abbrev s_Course_total : Stmt := inClass (top 39) 4
abbrev s_check_entry : Stmt := top 40
abbrev s_shortest : Stmt := top 41
abbrev s_course : Stmt := top 42
abbrev s_check_ends : Stmt := top 44
abbrev s_knot_of : Stmt := top 45
abbrev s_standing_behind : Stmt := top 46
abbrev s_whole_round : Stmt := top 47
abbrev s_first_back : Stmt := top 48
abbrev s_Round_init : Stmt := inClass (top 49) 0
abbrev s_round_of : Stmt := top 50
abbrev s_Shares_init : Stmt := inClass (top 52) 0
abbrev s_check_outlet : Stmt := top 53
abbrev s_shares : Stmt := top 54
abbrev s_share_of : Stmt := top 55
abbrev s_gained : Stmt := top 56
abbrev s_drops_of : Stmt := top 58
abbrev s_worth_of : Stmt := top 59
abbrev s_Levels_init : Stmt := inClass (top 60) 0
abbrev s_levels : Stmt := top 61
abbrev s_lag : Stmt := top 62
abbrev s_w_draw : Stmt := top 64
abbrev s_w_knots : Stmt := top 65
abbrev s_w_inlets : Stmt := top 66
abbrev s_w_falls : Stmt := top 67
abbrev s_w_det : Stmt := top 68
abbrev s_w_matrix : Stmt := top 69
abbrev s_w_does_end : Stmt := top 70
abbrev s_w_rounds_for : Stmt := top 71
abbrev s_w_is_quick : Stmt := top 72
abbrev s_law : Stmt := top 73
def d_minors_of : He.DefD := ⟨("minors_of", none), "minors_of", "minors_of", defArgs s_minors_of, defBody s_minors_of, defScope s_minors_of, [], []⟩
def d_solved : He.DefD := ⟨("solved", none), "solved", "solved", defArgs s_solved, defBody s_solved, defScope s_solved, [], []⟩
def d_common : He.DefD := ⟨("common", none), "common", "common", defArgs s_common, defBody s_common, defScope s_common, [], []⟩
def d_lowered : He.DefD := ⟨("lowered", none), "lowered", "lowered", defArgs s_lowered, defBody s_lowered, defScope s_lowered, [], []⟩
def d_is_number : He.DefD := ⟨("is_number", none), "is_number", "is_number", defArgs s_is_number, defBody s_is_number, defScope s_is_number, [], []⟩
def d_is_name : He.DefD := ⟨("is_name", none), "is_name", "is_name", defArgs s_is_name, defBody s_is_name, defScope s_is_name, [], []⟩
def d_is_row : He.DefD := ⟨("is_row", none), "is_row", "is_row", defArgs s_is_row, defBody s_is_row, defScope s_is_row, [], []⟩
def d_is_knot : He.DefD := ⟨("is_knot", none), "is_knot", "is_knot", defArgs s_is_knot, defBody s_is_knot, defScope s_is_knot, [], []⟩
def d_first_wrong : He.DefD := ⟨("first_wrong", none), "first_wrong", "first_wrong", defArgs s_first_wrong, defBody s_first_wrong, defScope s_first_wrong, [], []⟩
def d_Net_init : He.DefD := ⟨("Net", some "__init__"), "__init__", "Net.__init__", defArgs s_Net_init, defBody s_Net_init, defScope s_Net_init, [], []⟩
def d_Net_met : He.DefD := ⟨("Net", some "met"), "met", "Net.met", defArgs s_Net_met, defBody s_Net_met, defScope s_Net_met, [], []⟩
def d_Net_start : He.DefD := ⟨("Net", some "start"), "start", "Net.start", defArgs s_Net_start, defBody s_Net_start, defScope s_Net_start, [], []⟩
def d_Net_front : He.DefD := ⟨("Net", some "front"), "front", "Net.front", defArgs s_Net_front, defBody s_Net_front, defScope s_Net_front, [], []⟩
def d_Net_period : He.DefD := ⟨("Net", some "period"), "period", "Net.period", defArgs s_Net_period, defBody s_Net_period, defScope s_Net_period, [], []⟩
def d_Net_turned : He.DefD := ⟨("Net", some "turned"), "turned", "Net.turned", defArgs s_Net_turned, defBody s_Net_turned, defScope s_Net_turned, [], []⟩
def d_Net_check_standing : He.DefD := ⟨("Net", some "check_standing"), "check_standing", "Net.check_standing", defArgs s_Net_check_standing, defBody s_Net_check_standing, defScope s_Net_check_standing, [], []⟩
def d_Net_place_behind : He.DefD := ⟨("Net", some "place_behind"), "place_behind", "Net.place_behind", defArgs s_Net_place_behind, defBody s_Net_place_behind, defScope s_Net_place_behind, [], []⟩
def d_Net_dropped : He.DefD := ⟨("Net", some "dropped"), "dropped", "Net.dropped", defArgs s_Net_dropped, defBody s_Net_dropped, defScope s_Net_dropped, [], []⟩
def d_count : He.DefD := ⟨("count", none), "count", "count", defArgs s_count, defBody s_count, defScope s_count, [], []⟩
def d_check_net : He.DefD := ⟨("check_net", none), "check_net", "check_net", defArgs s_check_net, defBody s_check_net, defScope s_check_net, [], []⟩
def d_lattice : He.DefD := ⟨("lattice", none), "lattice", "lattice", defArgs s_lattice, defBody s_lattice, defScope s_lattice, [], []⟩
def d_ends : He.DefD := ⟨("ends", none), "ends", "ends", defArgs s_ends, defBody s_ends, defScope s_ends, [], []⟩
def d_check_balls : He.DefD := ⟨("check_balls", none), "check_balls", "check_balls", defArgs s_check_balls, defBody s_check_balls, defScope s_check_balls, [], []⟩
def d_Board_init : He.DefD := ⟨("Board", some "__init__"), "__init__", "Board.__init__", defArgs s_Board_init, defBody s_Board_init, defScope s_Board_init, [], []⟩
def d_Board_take : He.DefD := ⟨("Board", some "take"), "take", "Board.take", defArgs s_Board_take, defBody s_Board_take, defScope s_Board_take, [], []⟩
def d_Board_first_waiting : He.DefD := ⟨("Board", some "first_waiting"), "first_waiting", "Board.first_waiting", defArgs s_Board_first_waiting, defBody s_Board_first_waiting, defScope s_Board_first_waiting, [], []⟩
def d_Settled_init : He.DefD := ⟨("Settled", some "__init__"), "__init__", "Settled.__init__", defArgs s_Settled_init, defBody s_Settled_init, defScope s_Settled_init, [], []⟩
def d_begun : He.DefD := ⟨("begun", none), "begun", "begun", defArgs s_begun, defBody s_begun, defScope s_begun, [], []⟩
def d_settle : He.DefD := ⟨("settle", none), "settle", "settle", defArgs s_settle, defBody s_settle, defScope s_settle, [.non], []⟩
def d_Course_init : He.DefD := ⟨("Course", some "__init__"), "__init__", "Course.__init__", defArgs s_Course_init, defBody s_Course_init, defScope s_Course_init, [], []⟩
def d_Course_total : He.DefD := ⟨("Course", some "total"), "total", "Course.total", defArgs s_Course_total, defBody s_Course_total, defScope s_Course_total, [], []⟩
def d_check_entry : He.DefD := ⟨("check_entry", none), "check_entry", "check_entry", defArgs s_check_entry, defBody s_check_entry, defScope s_check_entry, [], []⟩
def d_shortest : He.DefD := ⟨("shortest", none), "shortest", "shortest", defArgs s_shortest, defBody s_shortest, defScope s_shortest, [], []⟩
def d_course : He.DefD := ⟨("course", none), "course", "course", defArgs s_course, defBody s_course, defScope s_course, [.non], []⟩
def d_check_ends : He.DefD := ⟨("check_ends", none), "check_ends", "check_ends", defArgs s_check_ends, defBody s_check_ends, defScope s_check_ends, [], []⟩
def d_knot_of : He.DefD := ⟨("knot_of", none), "knot_of", "knot_of", defArgs s_knot_of, defBody s_knot_of, defScope s_knot_of, [], []⟩
def d_standing_behind : He.DefD := ⟨("standing_behind", none), "standing_behind", "standing_behind", defArgs s_standing_behind, defBody s_standing_behind, defScope s_standing_behind, [], []⟩
def d_whole_round : He.DefD := ⟨("whole_round", none), "whole_round", "whole_round", defArgs s_whole_round, defBody s_whole_round, defScope s_whole_round, [], []⟩
def d_first_back : He.DefD := ⟨("first_back", none), "first_back", "first_back", defArgs s_first_back, defBody s_first_back, defScope s_first_back, [], []⟩
def d_Round_init : He.DefD := ⟨("Round", some "__init__"), "__init__", "Round.__init__", defArgs s_Round_init, defBody s_Round_init, defScope s_Round_init, [], []⟩
def d_round_of : He.DefD := ⟨("round_of", none), "round_of", "round_of", defArgs s_round_of, defBody s_round_of, defScope s_round_of, [], []⟩
def d_Shares_init : He.DefD := ⟨("Shares", some "__init__"), "__init__", "Shares.__init__", defArgs s_Shares_init, defBody s_Shares_init, defScope s_Shares_init, [], []⟩
def d_check_outlet : He.DefD := ⟨("check_outlet", none), "check_outlet", "check_outlet", defArgs s_check_outlet, defBody s_check_outlet, defScope s_check_outlet, [], []⟩
def d_shares : He.DefD := ⟨("shares", none), "shares", "shares", defArgs s_shares, defBody s_shares, defScope s_shares, [], []⟩
def d_share_of : He.DefD := ⟨("share_of", none), "share_of", "share_of", defArgs s_share_of, defBody s_share_of, defScope s_share_of, [], []⟩
def d_gained : He.DefD := ⟨("gained", none), "gained", "gained", defArgs s_gained, defBody s_gained, defScope s_gained, [], []⟩
def d_drops_of : He.DefD := ⟨("drops_of", none), "drops_of", "drops_of", defArgs s_drops_of, defBody s_drops_of, defScope s_drops_of, [], []⟩
def d_worth_of : He.DefD := ⟨("worth_of", none), "worth_of", "worth_of", defArgs s_worth_of, defBody s_worth_of, defScope s_worth_of, [], []⟩
def d_Levels_init : He.DefD := ⟨("Levels", some "__init__"), "__init__", "Levels.__init__", defArgs s_Levels_init, defBody s_Levels_init, defScope s_Levels_init, [], []⟩
def d_levels : He.DefD := ⟨("levels", none), "levels", "levels", defArgs s_levels, defBody s_levels, defScope s_levels, [], []⟩
def d_lag : He.DefD := ⟨("lag", none), "lag", "lag", defArgs s_lag, defBody s_lag, defScope s_lag, [], []⟩
def d_w_draw : He.DefD := ⟨("_law_draw", none), "_law_draw", "_law_draw", defArgs s_w_draw, defBody s_w_draw, defScope s_w_draw, [], []⟩
def d_w_knots : He.DefD := ⟨("_law_knots", none), "_law_knots", "_law_knots", defArgs s_w_knots, defBody s_w_knots, defScope s_w_knots, [], []⟩
def d_w_inlets : He.DefD := ⟨("_law_inlets", none), "_law_inlets", "_law_inlets", defArgs s_w_inlets, defBody s_w_inlets, defScope s_w_inlets, [], []⟩
def d_w_falls : He.DefD := ⟨("_law_falls", none), "_law_falls", "_law_falls", defArgs s_w_falls, defBody s_w_falls, defScope s_w_falls, [], []⟩
def d_w_det : He.DefD := ⟨("_law_det", none), "_law_det", "_law_det", defArgs s_w_det, defBody s_w_det, defScope s_w_det, [], []⟩
def d_w_matrix : He.DefD := ⟨("_law_matrix", none), "_law_matrix", "_law_matrix", defArgs s_w_matrix, defBody s_w_matrix, defScope s_w_matrix, [], []⟩
def d_w_does_end : He.DefD := ⟨("_law_does_end", none), "_law_does_end", "_law_does_end", defArgs s_w_does_end, defBody s_w_does_end, defScope s_w_does_end, [], []⟩
def d_w_rounds_for : He.DefD := ⟨("_law_rounds_for", none), "_law_rounds_for", "_law_rounds_for", defArgs s_w_rounds_for, defBody s_w_rounds_for, defScope s_w_rounds_for, [], []⟩
def d_w_is_quick : He.DefD := ⟨("_law_is_quick", none), "_law_is_quick", "_law_is_quick", defArgs s_w_is_quick, defBody s_w_is_quick, defScope s_w_is_quick, [], []⟩
def d_law : He.DefD := ⟨("law", none), "law", "law", defArgs s_law, defBody s_law, defScope s_law, [], []⟩
def fn : List He.DefD := [d_minors_of, d_solved, d_common, d_lowered, d_is_number, d_is_name, d_is_row, d_is_knot, d_first_wrong, d_Net_init, d_Net_met, d_Net_start, d_Net_front, d_Net_period, d_Net_turned, d_Net_check_standing, d_Net_place_behind, d_Net_dropped, d_count, d_check_net, d_lattice, d_ends, d_check_balls, d_Board_init, d_Board_take, d_Board_first_waiting, d_Settled_init, d_begun, d_settle, d_Course_init, d_Course_total, d_check_entry, d_shortest, d_course, d_check_ends, d_knot_of, d_standing_behind, d_whole_round, d_first_back, d_Round_init, d_round_of, d_Shares_init, d_check_outlet, d_shares, d_share_of, d_gained, d_drops_of, d_worth_of, d_Levels_init, d_levels, d_lag, d_w_draw, d_w_knots, d_w_inlets, d_w_falls, d_w_det, d_w_matrix, d_w_does_end, d_w_rounds_for, d_w_is_quick, d_law]
def fa : List He.Fa := [.glo "minors_of", .glo "solved", .glo "common", .glo "lowered", .glo "is_number", .glo "is_name", .glo "is_row", .glo "is_knot", .glo "first_wrong", .glo "count", .glo "check_net", .glo "lattice", .glo "ends", .glo "check_balls", .glo "begun", .glo "settle", .glo "check_entry", .glo "shortest", .glo "course", .glo "check_ends", .glo "knot_of", .glo "standing_behind", .glo "whole_round", .glo "first_back", .glo "round_of", .glo "check_outlet", .glo "shares", .glo "share_of", .glo "gained", .glo "drops_of", .glo "worth_of", .glo "levels", .glo "lag", .glo "_law_draw", .glo "_law_knots", .glo "_law_inlets", .glo "_law_falls", .glo "_law_det", .glo "_law_matrix", .glo "_law_does_end", .glo "_law_rounds_for", .glo "_law_is_quick", .glo "law", .glo "Net", .glo "Board", .glo "Settled", .glo "Course", .glo "Round", .glo "Shares", .glo "Levels", .free "isinstance", .free "len", .free "range", .free "list", .free "zip", .free "sorted", .free "all", .free "any", .free "sum", .free "min", .free "max", .free "abs", .free "int", .free "str", .free "dict", .free "tuple", .free "bool", .free "enumerate", .int "MOST_KNOTS" 12, .int "MOST_DROPS" 12, .int "MOST_TARGETS" 4, .int "MOST_SIGNS" 16, .int "MOST_BALLS" 3000, .cls "Net", .mkr "Net", .noat "Net" "knots", .noat "Net" "inlets", .noat "Net" "outlets", .noat "Net" "names", .meth "Net" "met", .meth "Net" "start", .meth "Net" "front", .meth "Net" "period", .meth "Net" "turned", .meth "Net" "check_standing", .meth "Net" "place_behind", .meth "Net" "dropped", .cls "Board", .mkr "Board", .noat "Board" "net", .noat "Board" "standing", .noat "Board" "waiting", .noat "Board" "out", .noat "Board" "taken", .meth "Board" "take", .meth "Board" "first_waiting", .cls "Settled", .mkr "Settled", .noat "Settled" "taken", .noat "Settled" "out", .noat "Settled" "standing", .noat "Settled" "order", .cls "Course", .mkr "Course", .noat "Course" "front", .noat "Course" "period", .meth "Course" "total", .cls "Round", .mkr "Round", .noat "Round" "many", .noat "Round" "turns", .cls "Shares", .mkr "Shares", .noat "Shares" "worths", .cls "Levels", .mkr "Levels", .noat "Levels" "worths", .noat "Levels" "heights"]
end K11
end
section
set_option Elab.async false
set_option linter.all false
set_option maxRecDepth 100000
set_option maxHeartbeats 0
/-! K1: the head. -/
namespace K11
open PySem PySem.Spec PyProof.Rows L2
def names0 : List PySem.Str := ["_wall", "ChuteError", "BadNet", "BadStanding", "BadBalls", "BadOrder", "NeverEnds", "NoPart", "TooLarge", "minors_of", "solved", "common", "lowered", "MOST_KNOTS", "MOST_DROPS", "MOST_TARGETS", "MOST_SIGNS", "is_number", "is_name", "is_row", "is_knot", "first_wrong", "Net", "count", "check_net", "lattice", "ends", "check_balls", "Board"]
def names1 : List PySem.Str := ["Settled", "begun", "settle", "MOST_BALLS", "Course", "check_entry", "shortest", "course", "check_ends", "knot_of", "standing_behind", "whole_round", "first_back", "Round", "round_of", "Shares", "check_outlet", "shares", "share_of", "gained", "drops_of", "worth_of", "Levels", "levels", "lag", "_law_draw", "_law_knots", "_law_inlets", "_law_falls", "_law_det"]
def names2 : List PySem.Str := ["_law_matrix", "_law_does_end", "_law_rounds_for", "_law_is_quick"]
abbrev names : List PySem.Str := names0 ++ names1 ++ names2
abbrev RW : PySem.W.OpenRow := PySem.W.OpenLaw.row PySem.Challenge.rw_ballchutes_k11_whole_far_courses
/-- isinstance of the own class x -/
def inscB (x : Str) (K : PySem.W.Frag) : Bool :=
  He.eqO (PySem.W.findIn K (.ref (He.ga K x)) "__class__") (some (some (.builtin "object.__class__"))) &&
  (He.eqO (PySem.W.specialIn K (.builtin "object.__class__") "__get__") (some (some (.builtin "getset_descriptor.__get__"))) &&
  (decide (PySem.W.takesIn K (.builtin "object.__class__") = some true) &&
  (decide (PySem.W.mroIn K (He.ga K x) (.type "object") = some true) &&
  decide (PySem.W.kitOne K (.ref (He.ga K x)) (.ref (He.ga K x)) = some true))))
/-- all objects behind the top -/
def asR : List Addr := (List.range 800).reverse
abbrev AlR : Type := He.AlD × Bool
def obsR (g : Addr → Option Obj) : AlR := (He.obsD fa fn (He.frG g asR), inscB "Net" (He.frG g asR))
def hk : PySem.W.Hook where
  α := AlR
  obs := fun s => obsR s.heap.get?
  val := fun _ => (He.valD fn, true)
  says := fun _ h => ∃ K : PySem.W.Frag, K.In h ∧ He.SaysD fa fn K ∧ inscB "Net" K = true
  of := fun _ _ e => ⟨_, He.frG_in, congrArg Prod.fst e, congrArg Prod.snd e⟩
  keeps := fun _ _ _ ⟨K, hK, c⟩ k => ⟨K, PySem.W.Frag.In.keeps hK k, c⟩
def ob (s : PySem.W.SharedT) : AlR := obsR (HandSHeadRun.getT s)
theorem ob_eq (s : PySem.W.SharedT) : ob s = hk.obs s.abs := by
  have e : HandSHeadRun.getT s = s.abs.heap.get? := funext (HandSHeadRun.getT_eq s)
  unfold ob
  rw [e]
  rfl
theorem run (w : World) : HandSHeadRun.RunEq RW (PySem.W.view RW.prog [73]) hk ob 7000 names w := by
  intro os
  kernel_rfl
end K11
end
section
set_option Elab.async false
set_option linter.all false
set_option maxRecDepth 100000
/-! K2: the facts of the top by names (printed by gen.py). -/
namespace K11
open PySem PySem.Spec PyProof.Rows L2
structure Txt (K : PySem.W.Frag) (mg : Str → Option Value) : Prop where
  c : He.SaysD fa fn K
  ci : inscB "Net" K = true
  kin : ∃ h : Heap, K.In h ∧ h.Ns mainGlobals mg
section
variable {K : PySem.W.Frag} {mg : Str → Option Value}
abbrev Fd (K : PySem.W.Frag) (d : He.DefD) (fd : FuncData) : Prop := FunD K d.name d.qual d.params d.body d.scope (d.dvs K) (d.kws K) (He.fAd K d.at_) fd
theorem Txt.glo (T : Txt K mg) (i : Nat) {x : Str} (h : fa[i]? = some (.glo x)) : mg x = some (.ref (He.ga K x)) := by
  obtain ⟨hp, h1, h2⟩ := T.kin
  exact He.glo_ok h1 h2 (T.c.fact i h)
theorem Txt.free (T : Txt K mg) (i : Nat) {x : Str} (h : fa[i]? = some (.free x)) : mg x = none := by
  obtain ⟨hp, h1, h2⟩ := T.kin
  exact He.free_ok h1 h2 (T.c.fact i h)
theorem Txt.int (T : Txt K mg) (i : Nat) {x : Str} {v : Int} (h : fa[i]? = some (.int x v)) : ∃ u, mg x = some u ∧ RelV (.int v) u := by
  obtain ⟨hp, h1, h2⟩ := T.kin
  obtain ⟨t, e⟩ := He.int_ok h1 h2 (T.c.fact i h)
  exact ⟨_, e, t, rfl⟩
theorem Txt.g_minors_of (T : Txt K mg) : mg "minors_of" = some (.ref (He.ga K "minors_of")) := T.glo 0 rfl
theorem Txt.g_solved (T : Txt K mg) : mg "solved" = some (.ref (He.ga K "solved")) := T.glo 1 rfl
theorem Txt.g_common (T : Txt K mg) : mg "common" = some (.ref (He.ga K "common")) := T.glo 2 rfl
theorem Txt.g_lowered (T : Txt K mg) : mg "lowered" = some (.ref (He.ga K "lowered")) := T.glo 3 rfl
theorem Txt.g_is_number (T : Txt K mg) : mg "is_number" = some (.ref (He.ga K "is_number")) := T.glo 4 rfl
theorem Txt.g_is_name (T : Txt K mg) : mg "is_name" = some (.ref (He.ga K "is_name")) := T.glo 5 rfl
theorem Txt.g_is_row (T : Txt K mg) : mg "is_row" = some (.ref (He.ga K "is_row")) := T.glo 6 rfl
theorem Txt.g_is_knot (T : Txt K mg) : mg "is_knot" = some (.ref (He.ga K "is_knot")) := T.glo 7 rfl
theorem Txt.g_first_wrong (T : Txt K mg) : mg "first_wrong" = some (.ref (He.ga K "first_wrong")) := T.glo 8 rfl
theorem Txt.g_count (T : Txt K mg) : mg "count" = some (.ref (He.ga K "count")) := T.glo 9 rfl
theorem Txt.g_check_net (T : Txt K mg) : mg "check_net" = some (.ref (He.ga K "check_net")) := T.glo 10 rfl
theorem Txt.g_lattice (T : Txt K mg) : mg "lattice" = some (.ref (He.ga K "lattice")) := T.glo 11 rfl
theorem Txt.g_ends (T : Txt K mg) : mg "ends" = some (.ref (He.ga K "ends")) := T.glo 12 rfl
theorem Txt.g_check_balls (T : Txt K mg) : mg "check_balls" = some (.ref (He.ga K "check_balls")) := T.glo 13 rfl
theorem Txt.g_begun (T : Txt K mg) : mg "begun" = some (.ref (He.ga K "begun")) := T.glo 14 rfl
theorem Txt.g_settle (T : Txt K mg) : mg "settle" = some (.ref (He.ga K "settle")) := T.glo 15 rfl
theorem Txt.g_check_entry (T : Txt K mg) : mg "check_entry" = some (.ref (He.ga K "check_entry")) := T.glo 16 rfl
theorem Txt.g_shortest (T : Txt K mg) : mg "shortest" = some (.ref (He.ga K "shortest")) := T.glo 17 rfl
theorem Txt.g_course (T : Txt K mg) : mg "course" = some (.ref (He.ga K "course")) := T.glo 18 rfl
theorem Txt.g_check_ends (T : Txt K mg) : mg "check_ends" = some (.ref (He.ga K "check_ends")) := T.glo 19 rfl
theorem Txt.g_knot_of (T : Txt K mg) : mg "knot_of" = some (.ref (He.ga K "knot_of")) := T.glo 20 rfl
theorem Txt.g_standing_behind (T : Txt K mg) : mg "standing_behind" = some (.ref (He.ga K "standing_behind")) := T.glo 21 rfl
theorem Txt.g_whole_round (T : Txt K mg) : mg "whole_round" = some (.ref (He.ga K "whole_round")) := T.glo 22 rfl
theorem Txt.g_first_back (T : Txt K mg) : mg "first_back" = some (.ref (He.ga K "first_back")) := T.glo 23 rfl
theorem Txt.g_round_of (T : Txt K mg) : mg "round_of" = some (.ref (He.ga K "round_of")) := T.glo 24 rfl
theorem Txt.g_check_outlet (T : Txt K mg) : mg "check_outlet" = some (.ref (He.ga K "check_outlet")) := T.glo 25 rfl
theorem Txt.g_shares (T : Txt K mg) : mg "shares" = some (.ref (He.ga K "shares")) := T.glo 26 rfl
theorem Txt.g_share_of (T : Txt K mg) : mg "share_of" = some (.ref (He.ga K "share_of")) := T.glo 27 rfl
theorem Txt.g_gained (T : Txt K mg) : mg "gained" = some (.ref (He.ga K "gained")) := T.glo 28 rfl
theorem Txt.g_drops_of (T : Txt K mg) : mg "drops_of" = some (.ref (He.ga K "drops_of")) := T.glo 29 rfl
theorem Txt.g_worth_of (T : Txt K mg) : mg "worth_of" = some (.ref (He.ga K "worth_of")) := T.glo 30 rfl
theorem Txt.g_levels (T : Txt K mg) : mg "levels" = some (.ref (He.ga K "levels")) := T.glo 31 rfl
theorem Txt.g_lag (T : Txt K mg) : mg "lag" = some (.ref (He.ga K "lag")) := T.glo 32 rfl
theorem Txt.g__law_draw (T : Txt K mg) : mg "_law_draw" = some (.ref (He.ga K "_law_draw")) := T.glo 33 rfl
theorem Txt.g__law_knots (T : Txt K mg) : mg "_law_knots" = some (.ref (He.ga K "_law_knots")) := T.glo 34 rfl
theorem Txt.g__law_inlets (T : Txt K mg) : mg "_law_inlets" = some (.ref (He.ga K "_law_inlets")) := T.glo 35 rfl
theorem Txt.g__law_falls (T : Txt K mg) : mg "_law_falls" = some (.ref (He.ga K "_law_falls")) := T.glo 36 rfl
theorem Txt.g__law_det (T : Txt K mg) : mg "_law_det" = some (.ref (He.ga K "_law_det")) := T.glo 37 rfl
theorem Txt.g__law_matrix (T : Txt K mg) : mg "_law_matrix" = some (.ref (He.ga K "_law_matrix")) := T.glo 38 rfl
theorem Txt.g__law_does_end (T : Txt K mg) : mg "_law_does_end" = some (.ref (He.ga K "_law_does_end")) := T.glo 39 rfl
theorem Txt.g__law_rounds_for (T : Txt K mg) : mg "_law_rounds_for" = some (.ref (He.ga K "_law_rounds_for")) := T.glo 40 rfl
theorem Txt.g__law_is_quick (T : Txt K mg) : mg "_law_is_quick" = some (.ref (He.ga K "_law_is_quick")) := T.glo 41 rfl
theorem Txt.g_law (T : Txt K mg) : mg "law" = some (.ref (He.ga K "law")) := T.glo 42 rfl
theorem Txt.g_Net (T : Txt K mg) : mg "Net" = some (.ref (He.ga K "Net")) := T.glo 43 rfl
theorem Txt.g_Board (T : Txt K mg) : mg "Board" = some (.ref (He.ga K "Board")) := T.glo 44 rfl
theorem Txt.g_Settled (T : Txt K mg) : mg "Settled" = some (.ref (He.ga K "Settled")) := T.glo 45 rfl
theorem Txt.g_Course (T : Txt K mg) : mg "Course" = some (.ref (He.ga K "Course")) := T.glo 46 rfl
theorem Txt.g_Round (T : Txt K mg) : mg "Round" = some (.ref (He.ga K "Round")) := T.glo 47 rfl
theorem Txt.g_Shares (T : Txt K mg) : mg "Shares" = some (.ref (He.ga K "Shares")) := T.glo 48 rfl
theorem Txt.g_Levels (T : Txt K mg) : mg "Levels" = some (.ref (He.ga K "Levels")) := T.glo 49 rfl
theorem Txt.f_isinstance (T : Txt K mg) : mg "isinstance" = none := T.free 50 rfl
theorem Txt.f_len (T : Txt K mg) : mg "len" = none := T.free 51 rfl
theorem Txt.f_range (T : Txt K mg) : mg "range" = none := T.free 52 rfl
theorem Txt.f_list (T : Txt K mg) : mg "list" = none := T.free 53 rfl
theorem Txt.f_zip (T : Txt K mg) : mg "zip" = none := T.free 54 rfl
theorem Txt.f_sorted (T : Txt K mg) : mg "sorted" = none := T.free 55 rfl
theorem Txt.f_all (T : Txt K mg) : mg "all" = none := T.free 56 rfl
theorem Txt.f_any (T : Txt K mg) : mg "any" = none := T.free 57 rfl
theorem Txt.f_sum (T : Txt K mg) : mg "sum" = none := T.free 58 rfl
theorem Txt.f_min (T : Txt K mg) : mg "min" = none := T.free 59 rfl
theorem Txt.f_max (T : Txt K mg) : mg "max" = none := T.free 60 rfl
theorem Txt.f_abs (T : Txt K mg) : mg "abs" = none := T.free 61 rfl
theorem Txt.f_int (T : Txt K mg) : mg "int" = none := T.free 62 rfl
theorem Txt.f_str (T : Txt K mg) : mg "str" = none := T.free 63 rfl
theorem Txt.f_dict (T : Txt K mg) : mg "dict" = none := T.free 64 rfl
theorem Txt.f_tuple (T : Txt K mg) : mg "tuple" = none := T.free 65 rfl
theorem Txt.f_bool (T : Txt K mg) : mg "bool" = none := T.free 66 rfl
theorem Txt.f_enumerate (T : Txt K mg) : mg "enumerate" = none := T.free 67 rfl
theorem Txt.i_MOST_KNOTS (T : Txt K mg) : ∃ u, mg "MOST_KNOTS" = some u ∧ RelV (.int 12) u := T.int 68 rfl
theorem Txt.i_MOST_DROPS (T : Txt K mg) : ∃ u, mg "MOST_DROPS" = some u ∧ RelV (.int 12) u := T.int 69 rfl
theorem Txt.i_MOST_TARGETS (T : Txt K mg) : ∃ u, mg "MOST_TARGETS" = some u ∧ RelV (.int 4) u := T.int 70 rfl
theorem Txt.i_MOST_SIGNS (T : Txt K mg) : ∃ u, mg "MOST_SIGNS" = some u ∧ RelV (.int 16) u := T.int 71 rfl
theorem Txt.i_MOST_BALLS (T : Txt K mg) : ∃ u, mg "MOST_BALLS" = some u ∧ RelV (.int 3000) u := T.int 72 rfl
theorem Txt.c_Net (T : Txt K mg) : Cls K (He.ga K "Net") := He.cls_ok (T.c.fact 73 rfl)
theorem Txt.m_Net (T : Txt K mg) : Mk K (He.ga K "Net") (He.ma K (He.ga K "Net") "__init__") := He.mkr_ok (T.c.fact 74 rfl)
theorem Txt.n_Net_knots (T : Txt K mg) : NoAttr K (He.ga K "Net") "knots" := He.noat_ok (T.c.fact 75 rfl)
theorem Txt.n_Net_inlets (T : Txt K mg) : NoAttr K (He.ga K "Net") "inlets" := He.noat_ok (T.c.fact 76 rfl)
theorem Txt.n_Net_outlets (T : Txt K mg) : NoAttr K (He.ga K "Net") "outlets" := He.noat_ok (T.c.fact 77 rfl)
theorem Txt.n_Net_names (T : Txt K mg) : NoAttr K (He.ga K "Net") "names" := He.noat_ok (T.c.fact 78 rfl)
theorem Txt.t_Net_met (T : Txt K mg) : Meth K (He.ga K "Net") "met" (He.ma K (He.ga K "Net") "met") := He.meth_ok (T.c.fact 79 rfl)
theorem Txt.t_Net_start (T : Txt K mg) : Meth K (He.ga K "Net") "start" (He.ma K (He.ga K "Net") "start") := He.meth_ok (T.c.fact 80 rfl)
theorem Txt.t_Net_front (T : Txt K mg) : Meth K (He.ga K "Net") "front" (He.ma K (He.ga K "Net") "front") := He.meth_ok (T.c.fact 81 rfl)
theorem Txt.t_Net_period (T : Txt K mg) : Meth K (He.ga K "Net") "period" (He.ma K (He.ga K "Net") "period") := He.meth_ok (T.c.fact 82 rfl)
theorem Txt.t_Net_turned (T : Txt K mg) : Meth K (He.ga K "Net") "turned" (He.ma K (He.ga K "Net") "turned") := He.meth_ok (T.c.fact 83 rfl)
theorem Txt.t_Net_check_standing (T : Txt K mg) : Meth K (He.ga K "Net") "check_standing" (He.ma K (He.ga K "Net") "check_standing") := He.meth_ok (T.c.fact 84 rfl)
theorem Txt.t_Net_place_behind (T : Txt K mg) : Meth K (He.ga K "Net") "place_behind" (He.ma K (He.ga K "Net") "place_behind") := He.meth_ok (T.c.fact 85 rfl)
theorem Txt.t_Net_dropped (T : Txt K mg) : Meth K (He.ga K "Net") "dropped" (He.ma K (He.ga K "Net") "dropped") := He.meth_ok (T.c.fact 86 rfl)
theorem Txt.c_Board (T : Txt K mg) : Cls K (He.ga K "Board") := He.cls_ok (T.c.fact 87 rfl)
theorem Txt.m_Board (T : Txt K mg) : Mk K (He.ga K "Board") (He.ma K (He.ga K "Board") "__init__") := He.mkr_ok (T.c.fact 88 rfl)
theorem Txt.n_Board_net (T : Txt K mg) : NoAttr K (He.ga K "Board") "net" := He.noat_ok (T.c.fact 89 rfl)
theorem Txt.n_Board_standing (T : Txt K mg) : NoAttr K (He.ga K "Board") "standing" := He.noat_ok (T.c.fact 90 rfl)
theorem Txt.n_Board_waiting (T : Txt K mg) : NoAttr K (He.ga K "Board") "waiting" := He.noat_ok (T.c.fact 91 rfl)
theorem Txt.n_Board_out (T : Txt K mg) : NoAttr K (He.ga K "Board") "out" := He.noat_ok (T.c.fact 92 rfl)
theorem Txt.n_Board_taken (T : Txt K mg) : NoAttr K (He.ga K "Board") "taken" := He.noat_ok (T.c.fact 93 rfl)
theorem Txt.t_Board_take (T : Txt K mg) : Meth K (He.ga K "Board") "take" (He.ma K (He.ga K "Board") "take") := He.meth_ok (T.c.fact 94 rfl)
theorem Txt.t_Board_first_waiting (T : Txt K mg) : Meth K (He.ga K "Board") "first_waiting" (He.ma K (He.ga K "Board") "first_waiting") := He.meth_ok (T.c.fact 95 rfl)
theorem Txt.c_Settled (T : Txt K mg) : Cls K (He.ga K "Settled") := He.cls_ok (T.c.fact 96 rfl)
theorem Txt.m_Settled (T : Txt K mg) : Mk K (He.ga K "Settled") (He.ma K (He.ga K "Settled") "__init__") := He.mkr_ok (T.c.fact 97 rfl)
theorem Txt.n_Settled_taken (T : Txt K mg) : NoAttr K (He.ga K "Settled") "taken" := He.noat_ok (T.c.fact 98 rfl)
theorem Txt.n_Settled_out (T : Txt K mg) : NoAttr K (He.ga K "Settled") "out" := He.noat_ok (T.c.fact 99 rfl)
theorem Txt.n_Settled_standing (T : Txt K mg) : NoAttr K (He.ga K "Settled") "standing" := He.noat_ok (T.c.fact 100 rfl)
theorem Txt.n_Settled_order (T : Txt K mg) : NoAttr K (He.ga K "Settled") "order" := He.noat_ok (T.c.fact 101 rfl)
theorem Txt.c_Course (T : Txt K mg) : Cls K (He.ga K "Course") := He.cls_ok (T.c.fact 102 rfl)
theorem Txt.m_Course (T : Txt K mg) : Mk K (He.ga K "Course") (He.ma K (He.ga K "Course") "__init__") := He.mkr_ok (T.c.fact 103 rfl)
theorem Txt.n_Course_front (T : Txt K mg) : NoAttr K (He.ga K "Course") "front" := He.noat_ok (T.c.fact 104 rfl)
theorem Txt.n_Course_period (T : Txt K mg) : NoAttr K (He.ga K "Course") "period" := He.noat_ok (T.c.fact 105 rfl)
theorem Txt.t_Course_total (T : Txt K mg) : Meth K (He.ga K "Course") "total" (He.ma K (He.ga K "Course") "total") := He.meth_ok (T.c.fact 106 rfl)
theorem Txt.c_Round (T : Txt K mg) : Cls K (He.ga K "Round") := He.cls_ok (T.c.fact 107 rfl)
theorem Txt.m_Round (T : Txt K mg) : Mk K (He.ga K "Round") (He.ma K (He.ga K "Round") "__init__") := He.mkr_ok (T.c.fact 108 rfl)
theorem Txt.n_Round_many (T : Txt K mg) : NoAttr K (He.ga K "Round") "many" := He.noat_ok (T.c.fact 109 rfl)
theorem Txt.n_Round_turns (T : Txt K mg) : NoAttr K (He.ga K "Round") "turns" := He.noat_ok (T.c.fact 110 rfl)
theorem Txt.c_Shares (T : Txt K mg) : Cls K (He.ga K "Shares") := He.cls_ok (T.c.fact 111 rfl)
theorem Txt.m_Shares (T : Txt K mg) : Mk K (He.ga K "Shares") (He.ma K (He.ga K "Shares") "__init__") := He.mkr_ok (T.c.fact 112 rfl)
theorem Txt.n_Shares_worths (T : Txt K mg) : NoAttr K (He.ga K "Shares") "worths" := He.noat_ok (T.c.fact 113 rfl)
theorem Txt.c_Levels (T : Txt K mg) : Cls K (He.ga K "Levels") := He.cls_ok (T.c.fact 114 rfl)
theorem Txt.m_Levels (T : Txt K mg) : Mk K (He.ga K "Levels") (He.ma K (He.ga K "Levels") "__init__") := He.mkr_ok (T.c.fact 115 rfl)
theorem Txt.n_Levels_worths (T : Txt K mg) : NoAttr K (He.ga K "Levels") "worths" := He.noat_ok (T.c.fact 116 rfl)
theorem Txt.n_Levels_heights (T : Txt K mg) : NoAttr K (He.ga K "Levels") "heights" := He.noat_ok (T.c.fact 117 rfl)
theorem Txt.d_minors_of (T : Txt K mg) : ∃ fd, Fd K d_minors_of fd := T.c.def_ 0 rfl
theorem Txt.d_solved (T : Txt K mg) : ∃ fd, Fd K d_solved fd := T.c.def_ 1 rfl
theorem Txt.d_common (T : Txt K mg) : ∃ fd, Fd K d_common fd := T.c.def_ 2 rfl
theorem Txt.d_lowered (T : Txt K mg) : ∃ fd, Fd K d_lowered fd := T.c.def_ 3 rfl
theorem Txt.d_is_number (T : Txt K mg) : ∃ fd, Fd K d_is_number fd := T.c.def_ 4 rfl
theorem Txt.d_is_name (T : Txt K mg) : ∃ fd, Fd K d_is_name fd := T.c.def_ 5 rfl
theorem Txt.d_is_row (T : Txt K mg) : ∃ fd, Fd K d_is_row fd := T.c.def_ 6 rfl
theorem Txt.d_is_knot (T : Txt K mg) : ∃ fd, Fd K d_is_knot fd := T.c.def_ 7 rfl
theorem Txt.d_first_wrong (T : Txt K mg) : ∃ fd, Fd K d_first_wrong fd := T.c.def_ 8 rfl
theorem Txt.d_Net_init (T : Txt K mg) : ∃ fd, Fd K d_Net_init fd := T.c.def_ 9 rfl
theorem Txt.d_Net_met (T : Txt K mg) : ∃ fd, Fd K d_Net_met fd := T.c.def_ 10 rfl
theorem Txt.d_Net_start (T : Txt K mg) : ∃ fd, Fd K d_Net_start fd := T.c.def_ 11 rfl
theorem Txt.d_Net_front (T : Txt K mg) : ∃ fd, Fd K d_Net_front fd := T.c.def_ 12 rfl
theorem Txt.d_Net_period (T : Txt K mg) : ∃ fd, Fd K d_Net_period fd := T.c.def_ 13 rfl
theorem Txt.d_Net_turned (T : Txt K mg) : ∃ fd, Fd K d_Net_turned fd := T.c.def_ 14 rfl
theorem Txt.d_Net_check_standing (T : Txt K mg) : ∃ fd, Fd K d_Net_check_standing fd := T.c.def_ 15 rfl
theorem Txt.d_Net_place_behind (T : Txt K mg) : ∃ fd, Fd K d_Net_place_behind fd := T.c.def_ 16 rfl
theorem Txt.d_Net_dropped (T : Txt K mg) : ∃ fd, Fd K d_Net_dropped fd := T.c.def_ 17 rfl
theorem Txt.d_count (T : Txt K mg) : ∃ fd, Fd K d_count fd := T.c.def_ 18 rfl
theorem Txt.d_check_net (T : Txt K mg) : ∃ fd, Fd K d_check_net fd := T.c.def_ 19 rfl
theorem Txt.d_lattice (T : Txt K mg) : ∃ fd, Fd K d_lattice fd := T.c.def_ 20 rfl
theorem Txt.d_ends (T : Txt K mg) : ∃ fd, Fd K d_ends fd := T.c.def_ 21 rfl
theorem Txt.d_check_balls (T : Txt K mg) : ∃ fd, Fd K d_check_balls fd := T.c.def_ 22 rfl
theorem Txt.d_Board_init (T : Txt K mg) : ∃ fd, Fd K d_Board_init fd := T.c.def_ 23 rfl
theorem Txt.d_Board_take (T : Txt K mg) : ∃ fd, Fd K d_Board_take fd := T.c.def_ 24 rfl
theorem Txt.d_Board_first_waiting (T : Txt K mg) : ∃ fd, Fd K d_Board_first_waiting fd := T.c.def_ 25 rfl
theorem Txt.d_Settled_init (T : Txt K mg) : ∃ fd, Fd K d_Settled_init fd := T.c.def_ 26 rfl
theorem Txt.d_begun (T : Txt K mg) : ∃ fd, Fd K d_begun fd := T.c.def_ 27 rfl
theorem Txt.d_settle (T : Txt K mg) : ∃ fd, Fd K d_settle fd := T.c.def_ 28 rfl
theorem Txt.d_Course_init (T : Txt K mg) : ∃ fd, Fd K d_Course_init fd := T.c.def_ 29 rfl
theorem Txt.d_Course_total (T : Txt K mg) : ∃ fd, Fd K d_Course_total fd := T.c.def_ 30 rfl
theorem Txt.d_check_entry (T : Txt K mg) : ∃ fd, Fd K d_check_entry fd := T.c.def_ 31 rfl
theorem Txt.d_shortest (T : Txt K mg) : ∃ fd, Fd K d_shortest fd := T.c.def_ 32 rfl
theorem Txt.d_course (T : Txt K mg) : ∃ fd, Fd K d_course fd := T.c.def_ 33 rfl
theorem Txt.d_check_ends (T : Txt K mg) : ∃ fd, Fd K d_check_ends fd := T.c.def_ 34 rfl
theorem Txt.d_knot_of (T : Txt K mg) : ∃ fd, Fd K d_knot_of fd := T.c.def_ 35 rfl
theorem Txt.d_standing_behind (T : Txt K mg) : ∃ fd, Fd K d_standing_behind fd := T.c.def_ 36 rfl
theorem Txt.d_whole_round (T : Txt K mg) : ∃ fd, Fd K d_whole_round fd := T.c.def_ 37 rfl
theorem Txt.d_first_back (T : Txt K mg) : ∃ fd, Fd K d_first_back fd := T.c.def_ 38 rfl
theorem Txt.d_Round_init (T : Txt K mg) : ∃ fd, Fd K d_Round_init fd := T.c.def_ 39 rfl
theorem Txt.d_round_of (T : Txt K mg) : ∃ fd, Fd K d_round_of fd := T.c.def_ 40 rfl
theorem Txt.d_Shares_init (T : Txt K mg) : ∃ fd, Fd K d_Shares_init fd := T.c.def_ 41 rfl
theorem Txt.d_check_outlet (T : Txt K mg) : ∃ fd, Fd K d_check_outlet fd := T.c.def_ 42 rfl
theorem Txt.d_shares (T : Txt K mg) : ∃ fd, Fd K d_shares fd := T.c.def_ 43 rfl
theorem Txt.d_share_of (T : Txt K mg) : ∃ fd, Fd K d_share_of fd := T.c.def_ 44 rfl
theorem Txt.d_gained (T : Txt K mg) : ∃ fd, Fd K d_gained fd := T.c.def_ 45 rfl
theorem Txt.d_drops_of (T : Txt K mg) : ∃ fd, Fd K d_drops_of fd := T.c.def_ 46 rfl
theorem Txt.d_worth_of (T : Txt K mg) : ∃ fd, Fd K d_worth_of fd := T.c.def_ 47 rfl
theorem Txt.d_Levels_init (T : Txt K mg) : ∃ fd, Fd K d_Levels_init fd := T.c.def_ 48 rfl
theorem Txt.d_levels (T : Txt K mg) : ∃ fd, Fd K d_levels fd := T.c.def_ 49 rfl
theorem Txt.d_lag (T : Txt K mg) : ∃ fd, Fd K d_lag fd := T.c.def_ 50 rfl
theorem Txt.d_w_draw (T : Txt K mg) : ∃ fd, Fd K d_w_draw fd := T.c.def_ 51 rfl
theorem Txt.d_w_knots (T : Txt K mg) : ∃ fd, Fd K d_w_knots fd := T.c.def_ 52 rfl
theorem Txt.d_w_inlets (T : Txt K mg) : ∃ fd, Fd K d_w_inlets fd := T.c.def_ 53 rfl
theorem Txt.d_w_falls (T : Txt K mg) : ∃ fd, Fd K d_w_falls fd := T.c.def_ 54 rfl
theorem Txt.d_w_det (T : Txt K mg) : ∃ fd, Fd K d_w_det fd := T.c.def_ 55 rfl
theorem Txt.d_w_matrix (T : Txt K mg) : ∃ fd, Fd K d_w_matrix fd := T.c.def_ 56 rfl
theorem Txt.d_w_does_end (T : Txt K mg) : ∃ fd, Fd K d_w_does_end fd := T.c.def_ 57 rfl
theorem Txt.d_w_rounds_for (T : Txt K mg) : ∃ fd, Fd K d_w_rounds_for fd := T.c.def_ 58 rfl
theorem Txt.d_w_is_quick (T : Txt K mg) : ∃ fd, Fd K d_w_is_quick fd := T.c.def_ 59 rfl
theorem Txt.d_law (T : Txt K mg) : ∃ fd, Fd K d_law fd := T.c.def_ 60 rfl
theorem inscB_ok {x : Str} (c : Cls K (He.ga K x)) (h : inscB x K = true) : C8.InsC K (He.ga K x) := by
  obtain ⟨h1, h⟩ := He.ba h
  obtain ⟨h2, h⟩ := He.ba h
  obtain ⟨h3, h⟩ := He.ba h
  obtain ⟨h4, h5⟩ := He.ba h
  exact ⟨c, He.eqO_ok h1, He.eqO_ok h2, of_decide_eq_true h3, of_decide_eq_true h4, of_decide_eq_true h5⟩
theorem Txt.insNet (T : Txt K mg) : C8.InsC K (He.ga K "Net") := inscB_ok T.c_Net T.ci
end
end K11
end
section
set_option Elab.async false
set_option linter.all false
set_option maxRecDepth 100000
/-! K3: the rule for a def of the text. -/
namespace K11
open PySem PySem.Spec PyProof.Rows L2
open C8 (Cal Met Mak)
section
variable {P : Program} {w : World} {K : PySem.W.Frag} {mg : Str → Option Value} {base : Heap}
abbrev BindN (d : He.DefD) (ps : List Str) : Prop := ∀ (kV doc pm : Value) (an : Option Addr) (cdv ct : Value) (us : List Value), us.length = ps.length → bindArgs (PySem.W.fnOf d.name d.qual d.params d.body d.scope .none kV doc pm an cdv ct) ⟨us, []⟩ = pure (ps.zip us)
abbrev BodyOk (P : Program) (w : World) (K : PySem.W.Frag) (mg : Str → Option Value) (base : Heap) (d : He.DefD) (N : List Str) (k : Nat) (sp : Sp) : Prop :=
  ∀ (cdv : Value) (A : Around) (outer : List Env) (s : Shared) (H : Hp) (vs : List V) (Q : VK) (E : XK), Room k (A.deeper (envOfC d.qual d.scope s.heap.objs.size (He.fAd K d.at_) cdv)) → sp vs H Q E →
      ∃ t, PSs (cxOf CX0 P w K mg base N d.qual d.scope (He.fAd K d.at_) cdv A outer s H E).nox d.body t ∧ t { nx := fun _ H' => Q .non H', rt := Q } (start N vs) H
theorem fn_mk {d : He.DefD} {N ps : List Str} {k : Nat} {sp : Sp} {fd : FuncData} (F : Fd K d fd) (S : FnScope N ps d.scope)
    (len : ∀ vs H Q E, sp vs H Q E → vs.length = ps.length) (hbody : BodyOk P w K mg base d N k sp) : FnOk P w K mg base CX0 (k + 1) (He.fAd K d.at_) fd ps sp :=
  FunD.ok F S len fun cdv A outer s H vs Q E hr h => (hbody cdv A outer s H vs Q E hr h).elim fun t z => ⟨t, z.1.nox, z.2⟩
theorem cal_mk (d : He.DefD) {x : Str} {N ps : List Str} {k : Nat} {sp : Sp} (F : ∃ fd, Fd K d fd) (g : mg x = some (.ref (He.ga K x))) (S : FnScope N ps d.scope)
    (len : ∀ vs H Q E, sp vs H Q E → vs.length = ps.length) (b : BindN d ps) (hbody : BodyOk P w K mg base d N k sp) (hat : d.at_ = (x, none) := by rfl) (hd : d.dfl = [] := by rfl) (hk : d.kwd = [] := by rfl) : Cal P w K mg base (k + 1) x sp [] := by
  obtain ⟨fd, F⟩ := F
  have e : He.fAd K d.at_ = He.ga K x := by rw [hat]; rfl
  have F' : FunD K d.name d.qual d.params d.body d.scope [] [] (He.fAd K d.at_) fd := by
    have e1 : d.dvs K = [] := by unfold He.DefD.dvs; rw [hd]; rfl
    have e2 : d.kws K = [] := by unfold He.DefD.kws; rw [hk]; rfl
    rw [← e1, ← e2]; exact F
  refine ⟨He.fAd K d.at_, fd, ps, [], fn_mk F S len hbody, by rw [e]; exact g, F.kp, FunD.bindsN F' b, .nil⟩
theorem met_mk (d : He.DefD) {c m : Str} {N ps : List Str} {k : Nat} {sp : Sp} (F : ∃ fd, Fd K d fd) (cl : Cls K (He.ga K c)) (me : Meth K (He.ga K c) m (He.ma K (He.ga K c) m)) (S : FnScope N ps d.scope)
    (len : ∀ vs H Q E, sp vs H Q E → vs.length = ps.length) (b : BindN d ps) (hbody : BodyOk P w K mg base d N k sp) (hat : d.at_ = (c, some m) := by rfl) (hd : d.dfl = [] := by rfl) (hk : d.kwd = [] := by rfl) : Met P w K mg base (k + 1) (He.ga K c) m sp [] := by
  obtain ⟨fd, F⟩ := F
  have e : He.fAd K d.at_ = He.ma K (He.ga K c) m := by rw [hat]; rfl
  have F' : FunD K d.name d.qual d.params d.body d.scope [] [] (He.fAd K d.at_) fd := by
    have e1 : d.dvs K = [] := by unfold He.DefD.dvs; rw [hd]; rfl
    have e2 : d.kws K = [] := by unfold He.DefD.kws; rw [hk]; rfl
    rw [← e1, ← e2]; exact F
  exact ⟨He.fAd K d.at_, fd, ps, [], cl, by rw [e]; exact me, fn_mk F S len hbody, FunD.bindsN F' b, .nil⟩
theorem mak_mk (d : He.DefD) {c : Str} {N ps : List Str} {k : Nat} {sp : Sp} (F : ∃ fd, Fd K d fd) (M : Mk K (He.ga K c) (He.ma K (He.ga K c) "__init__")) (g : mg c = some (.ref (He.ga K c))) (S : FnScope N ps d.scope)
    (len : ∀ vs H Q E, sp vs H Q E → vs.length = ps.length) (b : BindN d ps) (hbody : BodyOk P w K mg base d N k sp) (hat : d.at_ = (c, some ("__init__" : Str)) := by rfl) (hd : d.dfl = [] := by rfl) (hk : d.kwd = [] := by rfl) : Mak P w K mg base (k + 1) c (He.ga K c) sp [] := by
  obtain ⟨fd, F⟩ := F
  have e : He.fAd K d.at_ = He.ma K (He.ga K c) "__init__" := by rw [hat]; rfl
  have F' : FunD K d.name d.qual d.params d.body d.scope [] [] (He.fAd K d.at_) fd := by
    have e1 : d.dvs K = [] := by unfold He.DefD.dvs; rw [hd]; rfl
    have e2 : d.kws K = [] := by unfold He.DefD.kws; rw [hk]; rfl
    rw [← e1, ← e2]; exact F
  exact ⟨He.fAd K d.at_, fd, ps, [], by rw [e]; exact M, fn_mk F S len hbody, g, FunD.bindsN F' b, .nil⟩
end

end K11
end
section
set_option Elab.async false
set_option linter.all false
set_option maxRecDepth 100000
/-! K4: names, dicts by names, what stands where. -/
namespace K11
open PySem PySem.Spec PyProof.Rows L2
open C8 (Cal Met Mak)
/-! ### names -/
def nmc (n : Nat) : Nat := if n < 4 then 97 + n else if n = 4 then 111 else if n = 5 then 112 else if n = 6 then 105 else if n = 7 then 106 else 1000 + n
def nm (n : Nat) : Str := ⟨#[nmc n]⟩
theorem nmc_inj {a b : Nat} (h : nmc a = nmc b) : a = b := by unfold nmc at h; (repeat' split at h) <;> omega
theorem nm_inj {a b : Nat} (h : nm a = nm b) : a = b := by
  have h1 : (#[nmc a] : Array Nat) = #[nmc b] := congrArg Str.cps h
  have h2 : nmc a = nmc b := by simpa using h1
  exact nmc_inj h2
theorem nm_a : ("a" : Str) = nm 0 := by decide +kernel
theorem nm_b : ("b" : Str) = nm 1 := by decide +kernel
theorem nm_c : ("c" : Str) = nm 2 := by decide +kernel
theorem nm_d : ("d" : Str) = nm 3 := by decide +kernel
theorem nm_o : ("o" : Str) = nm 4 := by decide +kernel
theorem nm_p : ("p" : Str) = nm 5 := by decide +kernel
theorem nm_i : ("i" : Str) = nm 6 := by decide +kernel
theorem nm_j : ("j" : Str) = nm 7 := by decide +kernel
abbrev vn (t : Nat) : V := V.str (nm t)
theorem vn_inj {a b : Nat} (h : vn a = vn b) : a = b := nm_inj (V.str.inj h)
theorem vn_eq (a b : Nat) : decide (vn a = vn b) = decide (a = b) := by
  by_cases c : a = b
  · subst c; simp
  · rw [decide_eq_false c, decide_eq_false fun h => c (vn_inj h)]
abbrev ky (t : Nat) : Key := Sum.inr (nm t)
theorem ky_inj {a b : Nat} (h : ky a = ky b) : a = b := nm_inj (Sum.inr.inj h)
/-- a dict by names: its keys in order, its values -/
def dk (ks : List Nat) (f : Nat → V) : List (Key × V) := ks.map fun t => (ky t, f t)
theorem dk_len (ks : List Nat) (f : Nat → V) : (dk ks f).length = ks.length := by simp [dk]
theorem dk_val (ks : List Nat) (f : Nat → V) (u : Nat) : valV (dk ks f) (ky u) = if u ∈ ks then some (f u) else none := by
  induction ks with
  | nil => rfl
  | cons t ks ih =>
    by_cases c : t = u
    · subst c
      rw [if_pos (List.mem_cons_self ..)]
      exact valV_pos (p := (ky t, f t)) rfl
    · have : valV (dk (t :: ks) f) (ky u) = valV (dk ks f) (ky u) := valV_neg (p := (ky t, f t)) fun h => c (ky_inj h)
      rw [this, ih]
      by_cases d : u ∈ ks
      · rw [if_pos d, if_pos (List.mem_cons_of_mem _ d)]
      · rw [if_neg d, if_neg fun h => (List.mem_cons.mp h).elim (fun e => c e.symm) d]
theorem dk_congr {ks : List Nat} {f g : Nat → V} (h : ∀ t ∈ ks, f t = g t) : dk ks f = dk ks g := List.map_congr_left fun t ht => by rw [h t ht]
def fput (f : Nat → V) (u : Nat) (v : V) : Nat → V := fun t => if t = u then v else f t
theorem dk_put_in {ks : List Nat} {f : Nat → V} {u : Nat} {v : V} (h : u ∈ ks) : putK (dk ks f) (ky u) v = dk ks (fput f u v) := by
  unfold putK
  rw [if_pos (by rw [valV_any, dk_val, if_pos h]; rfl)]
  unfold dk
  rw [List.map_map]
  refine List.map_congr_left fun t _ => ?_
  show (if ky t = ky u then (ky t, v) else (ky t, f t)) = (ky t, fput f u v t)
  unfold fput
  by_cases c : t = u
  · subst c; rw [if_pos rfl, if_pos rfl]
  · rw [if_neg c, if_neg fun h => c (ky_inj h)]
theorem dk_put_new {ks : List Nat} {f : Nat → V} {u : Nat} {v : V} (h : u ∉ ks) : putK (dk ks f) (ky u) v = dk (ks ++ [u]) (fput f u v) := by
  rw [putK_new v (by rw [dk_val, if_neg h])]
  unfold dk
  rw [List.map_append]
  congr 1
  · refine List.map_congr_left fun t ht => ?_
    show (ky t, f t) = (ky t, fput f u v t)
    unfold fput
    rw [if_neg fun e : t = u => h (e ▸ ht)]
  · show [(ky u, v)] = [(ky u, fput f u v u)]
    unfold fput; rw [if_pos rfl]
/-- the keys behind a store -/
def kput (ks : List Nat) (u : Nat) : List Nat := if u ∈ ks then ks else ks ++ [u]
theorem dk_put (ks : List Nat) (f : Nat → V) (u : Nat) (v : V) : putK (dk ks f) (ky u) v = dk (kput ks u) (fput f u v) := by
  unfold kput
  split
  · exact dk_put_in (by assumption)
  · exact dk_put_new (by assumption)
theorem mem_kput {ks : List Nat} {u t : Nat} : t ∈ kput ks u ↔ t ∈ ks ∨ t = u := by
  unfold kput
  split
  · constructor
    · exact .inl
    · rintro (h | h)
      · exact h
      · rw [h]; assumption
  · simp
theorem nd_kput {ks : List Nat} {u : Nat} (h : ks.Nodup) : (kput ks u).Nodup := by
  unfold kput
  split
  · exact h
  · exact nd_snoc h (by assumption)
theorem nodup_le {ks : List Nat} {n : Nat} (h : ks.Nodup) (hn : ∀ t ∈ ks, t < n) : ks.length ≤ n := by
  induction n generalizing ks with
  | zero => cases ks with
    | nil => exact Nat.le_refl _
    | cons t ks => exact absurd (hn t (List.mem_cons_self ..)) (Nat.not_lt_zero _)
  | succ n ih =>
    have h1 := ih (ks := ks.filter (fun t => decide (t ≠ n))) (h.filter _) fun t ht => by
      obtain ⟨a, b⟩ := List.mem_filter.mp ht
      have := hn t a
      have : t ≠ n := of_decide_eq_true b
      omega
    have h2 : ks.length ≤ (ks.filter (fun t => decide (t ≠ n))).length + 1 := by
      clear ih h1 hn
      induction ks with
      | nil => exact Nat.zero_le _
      | cons t ks ih =>
        obtain ⟨a, b⟩ := List.nodup_cons.mp h
        by_cases c : t = n
        · subst c
          have e : (ks.filter (fun x => decide (x ≠ t))) = ks := List.filter_eq_self.mpr fun x hx => decide_eq_true fun e => a (e ▸ hx)
          rw [List.filter_cons, if_neg (by simp), e]; exact Nat.le_refl _
        · rw [List.filter_cons, if_pos (by simp [c]), List.length_cons, List.length_cons]
          have := ih b; omega
    omega
theorem DGet.n {H : Hp} {a : Addr} {ks : List Nat} {f : Nat → V} (e : H a = some (.dK (dk ks f))) (u : Nat) : DGet H a (vn u) (if u ∈ ks then some (f u) else none) := by
  have := DGet.k (k := ky u) e
  rw [dk_val] at this
  exact this
theorem DGet.in_ {H : Hp} {a : Addr} {ks : List Nat} {f : Nat → V} (e : H a = some (.dK (dk ks f))) {u : Nat} (h : u ∈ ks) : DGet H a (vn u) (some (f u)) := by
  have := DGet.n e u
  rw [if_pos h] at this
  exact this
theorem DPut.n {H : Hp} {a : Addr} {ks : List Nat} {f : Nat → V} (e : H a = some (.dK (dk ks f))) (u : Nat) (v : V) (hl : ks.length ≤ 1000) : DPut H a (vn u) v (upd H a (.dK (dk (kput ks u) (fput f u v)))) := by
  have := DPut.k (k := ky u) (v := v) e (by rw [dk_len]; exact small1000 hl)
  rw [dk_put] at this
  exact this
theorem isD {H : Hp} {a : Addr} {kvs : List (Key × V)} (e : H a = some (.dK kvs)) : IsD H a := .inl ⟨kvs, .inl e⟩

/-! ### heaps -/
theorem upd_self {H : Hp} {a : Addr} {o : HO} (h : H a = some o) : upd H a o = H := by
  funext b; unfold upd; split
  · rename_i e; rw [e, h]
  · rfl
theorem _root_.L2.Same.new {H : Hp} {p : Addr} {o : HO} (h : H p = none) : Same H (upd H p o) := fun b u e => by
  rw [upd_ne (ne_of_none e h)]; exact e
theorem _root_.L2.Same.mut {H0 H : Hp} {p : Addr} {o : HO} (s : Same H0 H) (h : H0 p = none) : Same H0 (upd H p o) := fun b u e => by
  rw [upd_ne (ne_of_none e h)]; exact s b u e
/-- as before, but at p -/
def SameX (p : Addr) (H H' : Hp) : Prop := ∀ b o, b ≠ p → H b = some o → H' b = some o
theorem SameX.refl (p : Addr) (H : Hp) : SameX p H H := fun _ _ _ h => h
theorem SameX.trans {p : Addr} {H H1 H2 : Hp} (a : SameX p H H1) (b : SameX p H1 H2) : SameX p H H2 := fun c o hc h => b c o hc (a c o hc h)
theorem SameX.upd {p : Addr} {H : Hp} {o : HO} : SameX p H (upd H p o) := fun b u hb e => by rw [upd_ne hb]; exact e
theorem _root_.L2.Same.x {p : Addr} {H H' : Hp} (s : Same H H') : SameX p H H' := fun b o _ h => s b o h

/-! ### what stands where -/
/-- a drop -/
def DropAt (H : Hp) (a : Addr) (d : List Nat) : Prop := H a = some (.tup (d.map vn))
def RowAt (H : Hp) (a : Addr) (r : List (List Nat)) : Prop := ∃ as : Nat → Addr, H a = some (.tup ((List.range r.length).map fun i => V.ref (as i))) ∧ ∀ i d, r[i]? = some d → DropAt H (as i) d
def KnotAt (H : Hp) (a : Addr) (k : Ch.Kn) : Prop := ∃ f t : Addr, H a = some (.tup [.ref f, .ref t]) ∧ RowAt H f k.fr ∧ RowAt H t k.tu
/-- a dict of knots -/
def KnotsAt (H : Hp) (a : Addr) (N : Ch.Nt) : Prop := ∃ ks : Nat → Addr, H a = some (.dK (dk (List.range N.length) fun v => .ref (ks v))) ∧ ∀ v, v < N.length → KnotAt H (ks v) (Ch.kn N v)
theorem DropAt.mono {H H' : Hp} {a : Addr} {d : List Nat} (s : Same H H') (h : DropAt H a d) : DropAt H' a d := s _ _ h
theorem RowAt.mono {H H' : Hp} {a : Addr} {r : List (List Nat)} (s : Same H H') (h : RowAt H a r) : RowAt H' a r := let ⟨as, h1, h2⟩ := h; ⟨as, s _ _ h1, fun i d e => (h2 i d e).mono s⟩
theorem KnotAt.mono {H H' : Hp} {a : Addr} {k : Ch.Kn} (s : Same H H') (h : KnotAt H a k) : KnotAt H' a k := let ⟨f, t, h1, h2, h3⟩ := h; ⟨f, t, s _ _ h1, h2.mono s, h3.mono s⟩
theorem KnotsAt.mono {H H' : Hp} {a : Addr} {N : Ch.Nt} (s : Same H H') (h : KnotsAt H a N) : KnotsAt H' a N := let ⟨ks, h1, h2⟩ := h; ⟨ks, s _ _ h1, fun v hv => (h2 v hv).mono s⟩
/-- a dict of ints by names; the keys that lack count 0 -/
structure DI (H : Hp) (a : Addr) (ks : List Nat) (g : Nat → Int) : Prop where
  at_ : H a = some (.dK (dk ks fun t => .int (g t)))
  nd : ks.Nodup
  lt : ∀ t ∈ ks, t < 8
  zero : ∀ t, t ∉ ks → g t = 0
theorem DI.len {H : Hp} {a : Addr} {ks : List Nat} {g : Nat → Int} (h : DI H a ks g) : ks.length ≤ 1000 := Nat.le_trans (nodup_le h.nd h.lt) (by decide)
theorem DI.get {H : Hp} {a : Addr} {ks : List Nat} {g : Nat → Int} (h : DI H a ks g) (u : Nat) : ∃ o, DGet H a (vn u) o ∧ o.getD (.int 0) = .int (g u) := by
  refine ⟨_, DGet.n h.at_ u, ?_⟩
  split
  · rfl
  · rw [h.zero u (by assumption)]; rfl
def gput (g : Nat → Int) (u : Nat) (i : Int) : Nat → Int := fun t => if t = u then i else g t
theorem DI.fput (g : Nat → Int) (u : Nat) (i : Int) : fput (fun t => V.int (g t)) u (.int i) = fun t => V.int (gput g u i t) := by
  funext t; unfold K11.fput gput; split <;> rfl
theorem DI.put {H : Hp} {a : Addr} {ks : List Nat} {g : Nat → Int} (h : DI H a ks g) {u : Nat} (hu : u < 8) (i : Int) :
    ∃ H', DPut H a (vn u) (.int i) H' ∧ H' = upd H a (.dK (dk (kput ks u) fun t => .int (gput g u i t))) ∧ DI H' a (kput ks u) (gput g u i) := by
  refine ⟨_, DPut.n h.at_ u (.int i) h.len, by rw [DI.fput], ?_⟩
  refine ⟨by rw [DI.fput]; exact upd_same, nd_kput h.nd, fun t ht => ?_, fun t ht => ?_⟩
  · rcases mem_kput.mp ht with e | e
    · exact h.lt t e
    · rw [e]; exact hu
  · have e1 : t ∉ ks := fun e => ht (mem_kput.mpr (.inl e))
    have e2 : t ≠ u := fun e => ht (mem_kput.mpr (.inr e))
    unfold gput; rw [if_neg e2]; exact h.zero t e1
theorem DI.sx {H H' : Hp} {a b : Addr} {ks : List Nat} {g : Nat → Int} (s : SameX b H H') (hb : a ≠ b) (h : DI H a ks g) : DI H' a ks g := ⟨s _ _ hb h.at_, h.nd, h.lt, h.zero⟩
theorem DI.mono {H H' : Hp} {a : Addr} {ks : List Nat} {g : Nat → Int} (s : Same H H') (h : DI H a ks g) : DI H' a ks g := ⟨s _ _ h.at_, h.nd, h.lt, h.zero⟩
theorem DI.new {H : Hp} {a : Addr} : DI (upd H a (.dK [])) a [] fun _ => 0 := ⟨upd_same, List.nodup_nil, fun _ h => (by cases h), fun _ _ => rfl⟩

/-! ### slots -/
/-- a while, by a word and a number that falls -/
theorem wh {c : TT} {tb : TS} {D : Ends} {σ : L2.St} {H : Hp} (W : Nat → L2.St → Hp → Prop) (m0 : Nat) (h0 : W m0 σ H)
    (hs : ∀ m σ H, W m σ H → c σ H fun b H1 => if b = true then ∃ N : L2.St → Hp → Prop, (∀ σ' H', N σ' H' → ∃ m', m' < m ∧ W m' σ' H') ∧ tb { D with nx := N, ct := N, bk := D.nx } σ H1 else D.nx σ H1) : tWhile c tb D σ H := ⟨W, ⟨m0, h0⟩, hs⟩
end K11
end
section
set_option Elab.async false
set_option linter.all false
set_option maxRecDepth 100000
/-! K5: comprehensions whose items are known, or told by a word; the net as an object. -/
namespace K11
open PySem PySem.Spec PyProof.Rows L2
open C8 (Cal Met Mak)
section
variable {J : It} {n : Nat} {G : Hp → Prop} {Y : Nat → Hp → V → Hp → Prop} {g : TG} {te tk tv : TE} {vs : List Nat} {σ : L2.St} {H1 : Hp}
theorem sz5 {k : Nat} (h : k ≤ 100000) : k < sizeLine := Nat.lt_of_le_of_lt h (by decide)
theorem sz5' {k : Nat} (h : k ≤ 100000) : k ≤ sizeLine := Nat.le_of_lt (sz5 h)
/-- items told by a word P that outlasts the list's growth; done D ys H' -/
theorem lc_pred (w : Walk J n G Y) (Pe : Nat → V → Hp → Prop) (hz : n ≤ 100000) (hG : ∀ H, Same H1 H → G H)
    (turn : ∀ D i x H H' acc (R : V → Hp → Prop), i < n → H1 D = none → Same H1 H → H D = some (.lst acc) → Y i H x H' → (∀ y H4, Same H H4 → (∀ H5, SameX D H4 H5 → Pe i y H5) → R y H4) →
      g x (wipe σ vs) H' fun σ2 H2 => wipe σ2 vs = wipe σ vs ∧ te σ2 H2 R)
    {Q : Addr → Hp → Prop} (done : ∀ D ys H', H1 D = none → Same H1 H' → H' D = some (.lst ys) → ys.length = n → (∀ i y, ys[i]? = some y → Pe i y H') → Q D H') :
    ∀ D, H1 D = none → ∃ W : Nat → Nat → Hp → Prop, (∃ m, W 0 m (upd H1 D (.lst []))) ∧ ∀ i m H, W i m H →
    (J.stop i H ∧ Q D H) ∨ (J.go i H ∧ ∃ Nx : Hp → Prop, (∀ H', Nx H' → ∃ m', m' < m ∧ W (i + 1) m' H') ∧ ∀ x H', J.yld i H x H' → g x (wipe σ vs) H' fun σ2 H2 => wipe σ2 vs = wipe σ vs ∧ tYes σ2 H2 fun b H3 =>
      if b = true then te σ2 H3 fun y H4 => ∃ acc, H4 D = some (.lst acc) ∧ acc.length < sizeLine ∧ Nx (upd H4 D (.lst (acc ++ [y]))) else Nx H3) := fun D hD => by
  refine lc_it w (Qd := fun H => Q D H) (fun i H => Same H1 H ∧ ∃ acc, H D = some (.lst acc) ∧ acc.length = i ∧ ∀ k y, acc[k]? = some y → ∀ H5, SameX D H H5 → Pe k y H5) ?_ (fun i H _ p => hG H p.1) ?_ ?_
  · exact ⟨Same.new hD, [], upd_same, rfl, fun k y h => by simp at h⟩
  · rintro i x H H' hi ⟨s, acc, ha, hl, hp⟩ hy
    refine turn D i x H H' acc _ hi hD s ha hy fun y H4 s4 py => ?_
    have ha4 := s4 _ _ ha
    refine ⟨acc, ha4, sz5 (by omega), (s.trans s4).mut hD, acc ++ [y], upd_same, by simp [hl], fun k z hk H5 s5 => ?_⟩
    have s45 : SameX D H4 H5 := SameX.upd.trans s5
    rcases Nat.lt_or_ge k acc.length with c | c
    · rw [List.getElem?_append_left c] at hk
      exact hp k z hk H5 (s4.x.trans s45)
    · rw [List.getElem?_append_right c] at hk
      have e : k = acc.length := by
        rcases Nat.eq_or_lt_of_le c with e | e
        · exact e.symm
        · rw [List.getElem?_eq_none (by simp; omega)] at hk; cases hk
      subst e
      rw [Nat.sub_self] at hk
      cases hk
      rw [hl]; exact py H5 s45
  · rintro H ⟨s, acc, ha, hl, hp⟩
    exact done D acc H hD s ha hl fun i y h => hp i y h H (SameX.refl _ _)
/-- items known: v -/
theorem lc_vals (w : Walk J n G Y) (v : Nat → V) (hz : n ≤ 100000) (hG : ∀ H, Same H1 H → G H)
    (turn : ∀ i x H H' (R : V → Hp → Prop), i < n → Same H1 H → Y i H x H' → (∀ H4, Same H H4 → R (v i) H4) → g x (wipe σ vs) H' fun σ2 H2 => wipe σ2 vs = wipe σ vs ∧ te σ2 H2 R)
    {Q : Addr → Hp → Prop} (done : ∀ D H', H1 D = none → Same H1 H' → H' D = some (.lst ((List.range n).map v)) → Q D H') :
    ∀ D, H1 D = none → ∃ W : Nat → Nat → Hp → Prop, (∃ m, W 0 m (upd H1 D (.lst []))) ∧ ∀ i m H, W i m H →
    (J.stop i H ∧ Q D H) ∨ (J.go i H ∧ ∃ Nx : Hp → Prop, (∀ H', Nx H' → ∃ m', m' < m ∧ W (i + 1) m' H') ∧ ∀ x H', J.yld i H x H' → g x (wipe σ vs) H' fun σ2 H2 => wipe σ2 vs = wipe σ vs ∧ tYes σ2 H2 fun b H3 =>
      if b = true then te σ2 H3 fun y H4 => ∃ acc, H4 D = some (.lst acc) ∧ acc.length < sizeLine ∧ Nx (upd H4 D (.lst (acc ++ [y]))) else Nx H3) :=
  lc_pred w (fun i y _ => y = v i) hz hG (fun D i x H H' acc R hi _ s _ hy k => turn i x H H' R hi s hy fun H4 s4 => k (v i) H4 s4 fun _ _ => rfl)
    (fun D ys H' hD s e hl h => done D H' hD s (by
      rw [e]; congr 2
      refine List.ext_getElem? fun i => ?_
      by_cases c : i < n
      · have c' : i < ys.length := by omega
        rw [List.getElem?_map, List.getElem?_range c, List.getElem?_eq_getElem c']
        exact congrArg some (h i _ (List.getElem?_eq_getElem c'))
      · rw [List.getElem?_eq_none (by omega), List.getElem?_eq_none (by simp; omega)]))
/-- a dict's comprehension over a walk -/
theorem dc_it (w : Walk J n G Y) {tt : TT} {D : Addr} {Qd : Hp → Prop} (Pv : Nat → Hp → Prop) (h0 : Pv 0 (upd H1 D (.dK []))) (hG : ∀ i H, i ≤ n → Pv i H → G H)
    (hs : ∀ i x H H', i < n → Pv i H → Y i H x H' → g x (wipe σ vs) H' fun σ2 H2 => wipe σ2 vs = wipe σ vs ∧ tt σ2 H2 fun b H3 =>
      if b = true then tk σ2 H3 fun y H4 => tv σ2 H4 fun z H5 => ∃ kvs k, y = kV k ∧ H5 D = some (.dK kvs) ∧ kvs.length < sizeLine ∧ Pv (i + 1) (upd H5 D (.dK (putK kvs k z))) else Pv (i + 1) H3) (hd : ∀ H, Pv n H → Qd H) :
    ∃ W : Nat → Nat → Hp → Prop, (∃ m, W 0 m (upd H1 D (.dK []))) ∧ ∀ i m H, W i m H →
      (J.stop i H ∧ Qd H) ∨ (J.go i H ∧ ∃ Nx : Hp → Prop, (∀ H', Nx H' → ∃ m', m' < m ∧ W (i + 1) m' H') ∧ ∀ x H', J.yld i H x H' → g x (wipe σ vs) H' fun σ2 H2 => wipe σ2 vs = wipe σ vs ∧ tt σ2 H2 fun b H3 =>
        if b = true then tk σ2 H3 fun y H4 => tv σ2 H4 fun z H5 => ∃ kvs k, y = kV k ∧ H5 D = some (.dK kvs) ∧ kvs.length < sizeLine ∧ Nx (upd H5 D (.dK (putK kvs k z))) else Nx H3) := by
  refine ⟨fun i m H => m = n - i ∧ i ≤ n ∧ Pv i H, ⟨n, by simp, Nat.zero_le _, h0⟩, ?_⟩
  rintro i m H ⟨rfl, hi, p⟩
  have q := hG i H hi p
  by_cases hlt : i < n
  · exact .inr ⟨w.goes i H hlt q, Pv (i + 1), fun H' p' => ⟨n - (i + 1), by omega, rfl, hlt, p'⟩, fun x H' y => hs i x H H' hlt p (w.yields i H x H' hlt q y)⟩
  · have e : i = n := by omega
    subst e
    exact .inl ⟨w.stops H q, hd H p⟩
theorem mem_keys {k : Nat → Nat} {n u : Nat} : u ∈ (List.range n).map k ↔ ∃ i, i < n ∧ k i = u := by simp
/-- keys k 0, k 1, .., all different; values told by a word -/
theorem dc_pred (w : Walk J n G Y) (k : Nat → Nat) (hk : ∀ i j, i < n → j < n → k i = k j → i = j) (Pe : Nat → V → Hp → Prop) (hz : n ≤ 1000) (hG : ∀ H, Same H1 H → G H)
    (turn : ∀ D i x H H' kvs (R : V → V → Hp → Prop), i < n → H1 D = none → Same H1 H → H D = some (.dK kvs) → Y i H x H' → (∀ z H5, Same H H5 → (∀ H6, SameX D H5 H6 → Pe i z H6) → R (vn (k i)) z H5) →
      g x (wipe σ vs) H' fun σ2 H2 => wipe σ2 vs = wipe σ vs ∧ tk σ2 H2 fun y H4 => tv σ2 H4 fun z H5 => R y z H5)
    {Q : Addr → Hp → Prop} (done : ∀ D f H', H1 D = none → Same H1 H' → H' D = some (.dK (dk ((List.range n).map k) f)) → (∀ i, i < n → Pe i (f (k i)) H') → Q D H') :
    ∀ D, H1 D = none → ∃ W : Nat → Nat → Hp → Prop, (∃ m, W 0 m (upd H1 D (.dK []))) ∧ ∀ i m H, W i m H →
      (J.stop i H ∧ Q D H) ∨ (J.go i H ∧ ∃ Nx : Hp → Prop, (∀ H', Nx H' → ∃ m', m' < m ∧ W (i + 1) m' H') ∧ ∀ x H', J.yld i H x H' → g x (wipe σ vs) H' fun σ2 H2 => wipe σ2 vs = wipe σ vs ∧ tYes σ2 H2 fun b H3 =>
        if b = true then tk σ2 H3 fun y H4 => tv σ2 H4 fun z H5 => ∃ kvs k, y = kV k ∧ H5 D = some (.dK kvs) ∧ kvs.length < sizeLine ∧ Nx (upd H5 D (.dK (putK kvs k z))) else Nx H3) := fun D hD => by
  refine dc_it w (Qd := fun H => Q D H) (fun i H => Same H1 H ∧ ∃ f, H D = some (.dK (dk ((List.range i).map k) f)) ∧ ∀ j, j < i → ∀ H5, SameX D H H5 → Pe j (f (k j)) H5) ?_ (fun i H _ p => hG H p.1) ?_ ?_
  · exact ⟨Same.new hD, fun _ => .non, upd_same, fun j h => absurd h (Nat.not_lt_zero _)⟩
  · rintro i x H H' hi ⟨s, f, hf, hp⟩ hy
    refine turn D i x H H' _ (fun y z H5 => ∃ kvs k, y = kV k ∧ H5 D = some (.dK kvs) ∧ kvs.length < sizeLine ∧ _) hi hD s hf hy fun z H5 s5 pz => ?_
    have hf5 := s5 _ _ hf
    refine ⟨_, ky (k i), rfl, hf5, by rw [dk_len, List.length_map, List.length_range]; exact small1000 (by omega), (s.trans s5).mut hD, fput f (k i) z, ?_, fun j hj H6 s6 => ?_⟩
    · rw [upd_same, dk_put_new (by rw [mem_keys]; rintro ⟨j, hj, e⟩; have := hk j i (by omega) hi e; omega), List.range_succ, List.map_append]; rfl
    · have s56 : SameX D H5 H6 := SameX.upd.trans s6
      unfold fput
      by_cases c : j = i
      · subst c; rw [if_pos rfl]; exact pz H6 s56
      · rw [if_neg fun e => c (hk j i (by omega) hi e)]
        exact hp j (by omega) H6 (s5.x.trans s56)
  · rintro H ⟨s, f, hf, hp⟩
    exact done D f H hD s hf fun i hi => hp i hi H (SameX.refl _ _)
theorem dc_vals (w : Walk J n G Y) (k : Nat → Nat) (hk : ∀ i j, i < n → j < n → k i = k j → i = j) (f : Nat → V) (hz : n ≤ 1000) (hG : ∀ H, Same H1 H → G H)
    (turn : ∀ i x H H' (R : V → V → Hp → Prop), i < n → Same H1 H → Y i H x H' → (∀ H5, Same H H5 → R (vn (k i)) (f (k i)) H5) →
      g x (wipe σ vs) H' fun σ2 H2 => wipe σ2 vs = wipe σ vs ∧ tk σ2 H2 fun y H4 => tv σ2 H4 fun z H5 => R y z H5)
    {Q : Addr → Hp → Prop} (done : ∀ D H', H1 D = none → Same H1 H' → H' D = some (.dK (dk ((List.range n).map k) f)) → Q D H') :
    ∀ D, H1 D = none → ∃ W : Nat → Nat → Hp → Prop, (∃ m, W 0 m (upd H1 D (.dK []))) ∧ ∀ i m H, W i m H →
      (J.stop i H ∧ Q D H) ∨ (J.go i H ∧ ∃ Nx : Hp → Prop, (∀ H', Nx H' → ∃ m', m' < m ∧ W (i + 1) m' H') ∧ ∀ x H', J.yld i H x H' → g x (wipe σ vs) H' fun σ2 H2 => wipe σ2 vs = wipe σ vs ∧ tYes σ2 H2 fun b H3 =>
        if b = true then tk σ2 H3 fun y H4 => tv σ2 H4 fun z H5 => ∃ kvs k, y = kV k ∧ H5 D = some (.dK kvs) ∧ kvs.length < sizeLine ∧ Nx (upd H5 D (.dK (putK kvs k z))) else Nx H3) :=
  dc_pred w k hk (fun i z _ => z = f (k i)) hz hG (fun D i x H H' kvs R hi _ s _ hy q => turn i x H H' R hi s hy fun H5 s5 => q _ H5 s5 fun _ _ => rfl)
    (fun D f' H' hD s e h => done D H' hD s (by
      rw [e]; congr 2
      exact dk_congr fun t ht => by
        obtain ⟨i, hi, e⟩ := mem_keys.mp ht
        rw [← e]; exact h i hi))
end

/-! ### a for over a walk -/
theorem fr_it {J : It} {n : Nat} {G : Hp → Prop} {Y : Nat → Hp → V → Hp → Prop} (w : Walk J n G Y) {g : TG} {tb : TS} {D : Ends} {σ : L2.St} {H : Hp} (Pv : Nat → L2.St → Hp → Prop) (h0 : Pv 0 σ H) (hG : ∀ i σ H, i ≤ n → Pv i σ H → G H)
    (hs : ∀ i x σ H H', i < n → Pv i σ H → Y i H x H' → g x σ H' fun σ2 H2 => tb { D with nx := Pv (i + 1), ct := Pv (i + 1), bk := D.nx } σ2 H2) (hd : ∀ σ H, Pv n σ H → D.nx σ H) :
    ∃ W : Nat → Nat → L2.St → Hp → Prop, (∃ m, W 0 m σ H) ∧ ∀ i m σ H, W i m σ H →
      (J.stop i H ∧ D.nx σ H) ∨ (J.go i H ∧ ∃ N : L2.St → Hp → Prop, (∀ σ' H', N σ' H' → ∃ m', m' < m ∧ W (i + 1) m' σ' H') ∧ ∀ x H', J.yld i H x H' → g x σ H' fun σ2 H2 => tb { D with nx := N, ct := N, bk := D.nx } σ2 H2) := for_it w Pv h0 hG hs hd

/-! ### the net -/
def netFs (kd id ot nl : Addr) : List (Str × V) := [("knots", .ref kd), ("inlets", .ref id), ("outlets", .ref ot), ("names", .ref nl)]
structure NetO (K : PySem.W.Frag) (H : Hp) (a : Addr) (N : Ch.Nt) (jk : Nat) (dx kd id ot nl : Addr) : Prop where
  ob : H a = some (.ins (He.ga K "Net") dx (netFs kd id ot nl))
  kn : KnotsAt H kd N
  il : H id = some (.dK (dk [6, 7] fun t => vn (if t = 6 then 0 else jk)))
  ol : H ot = some (.tup [vn 4, vn 5])
  nl : H nl = some (.lst ((List.range N.length).map vn))
theorem NetO.mono {K : PySem.W.Frag} {H H' : Hp} {a : Addr} {N : Ch.Nt} {jk : Nat} {dx kd id ot nl : Addr} (s : Same H H') (h : NetO K H a N jk dx kd id ot nl) : NetO K H' a N jk dx kd id ot nl :=
  ⟨s _ _ h.ob, h.kn.mono s, s _ _ h.il, s _ _ h.ol, s _ _ h.nl⟩
def NetAt (K : PySem.W.Frag) (H : Hp) (a : Addr) (N : Ch.Nt) : Prop := ∃ jk dx kd id ot nl, NetO K H a N jk dx kd id ot nl
theorem NetAt.mono {K : PySem.W.Frag} {H H' : Hp} {a : Addr} {N : Ch.Nt} (s : Same H H') (h : NetAt K H a N) : NetAt K H' a N := let ⟨j, a, b, c, d, e, q⟩ := h; ⟨j, a, b, c, d, e, q.mono s⟩
/-- the knot's tuple, its rows -/
theorem KnotsAt.get {H : Hp} {a : Addr} {N : Ch.Nt} (h : KnotsAt H a N) {v : Nat} (hv : v < N.length) : ∃ kv f t : Addr, DGet H a (vn v) (some (.ref kv)) ∧ H kv = some (.tup [.ref f, .ref t]) ∧ RowAt H f (Ch.kn N v).fr ∧ RowAt H t (Ch.kn N v).tu := by
  obtain ⟨ks, h1, h2⟩ := h
  obtain ⟨f, t, h3, h4, h5⟩ := h2 v hv
  exact ⟨ks v, f, t, DGet.in_ h1 (List.mem_range.mpr hv), h3, h4, h5⟩
theorem at0 {x y : V} : atI [x, y] 0 = some x := rfl
theorem at1 {x y : V} : atI [x, y] 1 = some y := rfl
/-- a standing: the places by names -/
def StdAt (H : Hp) (a : Addr) (n : Nat) (s : Nat → Nat) : Prop := H a = some (.dK (dk (List.range n) fun v => .int (s v : Nat)))
theorem StdAt.mono {H H' : Hp} {a : Addr} {n : Nat} {st : Nat → Nat} (s : Same H H') (h : StdAt H a n st) : StdAt H' a n st := s _ _ h
theorem StdAt.get {H : Hp} {a : Addr} {n : Nat} {st : Nat → Nat} (h : StdAt H a n st) {v : Nat} (hv : v < n) : DGet H a (vn v) (some (.int (st v : Nat))) := DGet.in_ h (List.mem_range.mpr hv)
theorem dk_id (n : Nat) : (List.range n).map (fun i => i) = List.range n := List.map_id' _
end K11
end
section
set_option Elab.async false
set_option linter.all false
set_option maxRecDepth 100000
namespace K11
open PySem PySem.Spec PyProof.Rows L2
open C8 (Cal Met Mak)
section
variable {P : Program} {w : World} {K : PySem.W.Frag} {mg : Str → Option Value} {base : Heap}
/-! ### common, lowered -/
def sp_common : Sp := fun vs H Q _ => ∃ a b : Int, vs = [.int a, .int b] ∧ 0 ≤ b ∧ Q (.int (Int.gcd a b)) H
theorem sc_common : FnScope ["one", "other"] ["one", "other"] d_common.scope := ⟨rfl, rfl, rfl, by decide +kernel, rfl, by decide +kernel, by decide +kernel⟩
theorem gcd_step {a b : Int} : Int.gcd b (a % b) = Int.gcd a b := by
  rw [Int.emod_def, Int.gcd_sub_mul_left_right, Int.gcd_comm]
theorem ok_common (T : Txt K mg) : Cal P w K mg base 1 "common" sp_common [] := by
  refine cal_mk d_common T.d_common T.g_common sc_common (fun vs H Q E h => ?_) (fun _ _ _ _ _ _ us hl => match us, hl with | [_, _], _ => rfl) (fun cdv A outer s H vs Q E hr h => ?_)
  · obtain ⟨a, b, rfl, _⟩ := h
    rfl
  · obtain ⟨a, b, rfl, hb, k⟩ := h
    refine ⟨_, pss_cons (ps_while PassesOwn.never (pt_cmpR op_ne (pv 1) pe_int (nomark _))
        (pss_one (ps_par (i := 0) (j := 1) rfl sc_common.nd rfl rfl (by decide) rfl rfl (pa_cons (pv 1) (pa_cons (pe_op op_mod (pv 0) (pv 1)) pa_nil)) (by rfl))))
      (pss_one (ps_ret (pe_callB call_abs (by rfl) T.f_abs (by decide +kernel) (pa_cons (pv 0) pa_nil)))), ?_⟩
    refine wh (fun m σ H' => ∃ x y : Int, σ = [some (.int x), some (.int y)] ∧ 0 ≤ y ∧ Int.gcd x y = Int.gcd a b ∧ H' = H ∧ m = y.toNat) _ ⟨a, b, rfl, hb, rfl, rfl, rfl⟩ ?_
    rintro m σ H' ⟨x, y, rfl, hy, hg, rfl, rfl⟩
    refine ⟨_, rfl, rfl, _, rfl, ?_⟩
    by_cases c : y = 0
    · subst c
      rw [decide_eq_true rfl]
      refine iteF ⟨_, rfl, _, rfl, ?_⟩
      have e : (if x < 0 then -x else x) = (Int.gcd a b : Int) := by rw [← hg, Int.gcd_zero_right]; split <;> omega
      rw [e]; exact k
    · rw [decide_eq_false (fun h => c (V.int.inj h))]
      have h1 : 0 ≤ x % y := Int.emod_nonneg x c
      have h2 : x % y < y := Int.emod_lt_of_pos x (by omega)
      refine iteT ⟨_, fun σ' H' h => ⟨_, ?_, h⟩, _, rfl, _, rfl, _, rfl, _, _, rfl, rfl, (by show 0 < y; omega), _, _, rfl, y, x % y, rfl, h1, gcd_step.trans hg, rfl, rfl⟩
      omega
/-- above / below with below > 0 -/
def sp_lowered : Sp := fun vs H Q _ => ∃ a b : Int, vs = [.int a, .int b] ∧ 0 < b ∧ b.natAbs < 2 ^ 8000 ∧ ∀ (c d : Int) (p : Addr), 0 < d → d ≤ b → c.natAbs ≤ a.natAbs → c * b = a * d → H p = none → Q (.ref p) (upd H p (.tup [.int c, .int d]))
theorem sc_lowered : FnScope ["above", "below", "shared"] ["above", "below"] d_lowered.scope := ⟨rfl, rfl, rfl, by decide +kernel, rfl, by decide +kernel, by decide +kernel⟩
theorem ok_lowered (T : Txt K mg) (c_common : Cal P w K mg base 1 "common" sp_common []) : Cal P w K mg base 2 "lowered" sp_lowered [] := by
  refine cal_mk d_lowered T.d_lowered T.g_lowered sc_lowered (fun vs H Q E h => ?_) (fun _ _ _ _ _ _ us hl => match us, hl with | [_, _], _ => rfl) (fun cdv A outer s H vs Q E hr h => ?_)
  · obtain ⟨a, b, rfl, _⟩ := h
    rfl
  · have hu := hu_of hr
    obtain ⟨a, b, rfl, hb, hz, k⟩ := h
    refine ⟨_, (pss_cons (ps_set (i := 2) sc_lowered.nd rfl (Or.inl rfl) (pe_ifExp (pt_cmpR op_ne (pv 0) pe_int (nomark _)) (C8.pe_c c_common hr (by decide) rfl (pa_cons (pv 0) (pa_cons (pv 1) pa_nil))) (pv 1)))
      (pss_cons (ps_set (i := 2) sc_lowered.nd rfl (Or.inl rfl) (pe_ifExp (pt_cmpR op_gt (pv 1) pe_int (nomark _)) (pv 2) (pe_un un_neg (pe_callB call_abs (by rfl) T.f_abs (by decide +kernel) (pa_cons (pv 2) pa_nil)))))
      (pss_one (ps_ret (pe_tup (pa_cons (pe_op op_fdivW (pv 0) (pv 2)) (pa_cons (pe_op op_fdivW (pv 1) (pv 2)) pa_nil))))))), ?_⟩
    -- the divisor
    have go : ∀ g : Int, 0 < g → g ∣ a → g ∣ b → (Q' : VK) → (∀ (c d : Int) (p : Addr), 0 < d → d ≤ b → c.natAbs ≤ a.natAbs → c * b = a * d → H p = none → Q' (.ref p) (upd H p (.tup [.int c, .int d]))) →
        tSeq (tAsg (tIf (tTest (tOp (rI0 fun i j => .bl (decide (j < i))) (tVar 1) (tC (.int 0)))) (tVar 2) (tUn (rU fun i => .int (-i)) (tCB (fun xs H Q => ∃ i, xs = [V.int i] ∧ Q (V.int (if i < 0 then -i else i)) H) (tCons (tVar 2) tNil)))) (gName 2))
          (tRet (tTup (tCons (tOp (rI CDivW fun i j => .int (i / j)) (tVar 0) (tVar 2)) (tCons (tOp (rI CDivW fun i j => .int (i / j)) (tVar 1) (tVar 2)) tNil)))) { nx := fun _ H' => Q' .non H', rt := Q' } [some (.int a), some (.int b), some (.int g)] H := by
      intro g hg ga gb Q' k'
      refine ⟨_, rfl, _, _, rfl, rfl, _, rfl, ?_⟩
      rw [decide_eq_true hb]
      have gz : CDivW a g := wide_div hg (Nat.lt_of_le_of_lt (by have := Int.le_of_dvd hb gb; omega) hz) (by decide) (by decide)
      have gz2 : CDivW b g := wide_div hg (Nat.lt_of_le_of_lt (by have := Int.le_of_dvd hb gb; omega) hz) (by decide) (by decide)
      refine iteT ⟨_, rfl, _, rfl, _, rfl, _, _, rfl, rfl, gz, _, rfl, _, rfl, _, _, rfl, rfl, gz2, (by show 2 ≤ sizeLine; decide), fun p hp => ?_⟩
      obtain ⟨a', rfl⟩ := ga
      obtain ⟨b', rfl⟩ := gb
      have e1 : g * a' / g = a' := Int.mul_ediv_cancel_left a' (by omega)
      have e2 : g * b' / g = b' := Int.mul_ediv_cancel_left b' (by omega)
      have hb' : 0 < b' := by
        rcases Int.lt_or_le 0 b' with h | h
        · exact h
        · have := Int.mul_nonpos_of_nonneg_of_nonpos (Int.le_of_lt hg) h
          omega
      have hle : b' ≤ g * b' := by
        have : 1 * b' ≤ g * b' := Int.mul_le_mul_of_nonneg_right (by omega) (by omega)
        omega
      have hla : a'.natAbs ≤ (g * a').natAbs := by
        rw [Int.natAbs_mul]
        have : 1 * a'.natAbs ≤ g.natAbs * a'.natAbs := Nat.mul_le_mul_right _ (by omega)
        omega
      have := k' a' b' p hb' hle hla (by grind) hp
      show Q' (.ref p) (upd H p (.tup [.int (g * a' / g), .int (g * b' / g)]))
      rw [e1, e2]; exact this
    refine ⟨_, rfl, rfl, _, rfl, ?_⟩
    by_cases c : a = 0
    · subst c
      rw [decide_eq_true rfl]
      refine iteF ⟨_, rfl, ?_⟩
      exact go b hb (Int.dvd_zero b) (Int.dvd_refl b) Q k
    · rw [decide_eq_false (fun h => c (V.int.inj h))]
      refine iteT ⟨_, rfl, _, rfl, a, b, rfl, by omega, ?_⟩
      have hg : 0 < Int.gcd a b := Int.gcd_pos_of_ne_zero_left b c
      exact go (Int.gcd a b) (by omega) (Int.gcd_dvd_left ..) (Int.gcd_dvd_right ..) Q k
end
end K11
end
section
set_option Elab.async false
set_option linter.all false
set_option maxRecDepth 100000
namespace K11
open PySem PySem.Spec PyProof.Rows L2
open C8 (Cal Met Mak)
section
variable {P : Program} {w : World} {K : PySem.W.Frag} {mg : Str → Option Value} {base : Heap}
/-! ### the net's small methods -/
def sp_Net_front (K : PySem.W.Frag) : Sp := fun vs H Q _ => ∃ (a : Addr) (N : Ch.Nt) (v : Nat), vs = [.ref a, vn v] ∧ NetAt K H a N ∧ v < N.length ∧ Q (.int ((Ch.kn N v).fr.length : Nat)) H
theorem sc_Net_front : FnScope ["self", "name"] ["self", "name"] d_Net_front.scope := ⟨rfl, rfl, rfl, by decide +kernel, rfl, by decide +kernel, by decide +kernel⟩
theorem ok_Net_front (T : Txt K mg)  : Met P w K mg base 1 (He.ga K "Net") "front" (sp_Net_front K) [] := by
  refine met_mk d_Net_front T.d_Net_front T.c_Net T.t_Net_front sc_Net_front (fun vs H Q E h => ?_) (fun _ _ _ _ _ _ us hl => match us, hl with | [_, _], _ => rfl) (fun cdv A outer s H vs Q E hr h => ?_)
  · obtain ⟨_, _, _, rfl, _⟩ := h
    rfl
  · have hu := hu_of hr
    obtain ⟨a, N, v, rfl, ⟨j, dx, kd, id, ot, nl, O⟩, hv, k⟩ := h
    obtain ⟨kv, f, t, g1, g2, g3, g4⟩ := O.kn.get hv
    obtain ⟨as, g5, _⟩ := g3
    refine ⟨_, (pss_one (ps_ret (pe_callB call_len_seq (by rfl) T.f_len (by decide +kernel) (pa_cons (pe_ix ix_tup (pe_dget hu (pe_fld (pv 0) rfl) (pv 1) (fun _ _ => rfl)) pe_int (fun _ _ => rfl)) pa_nil)))), ?_⟩
    refine ⟨_, rfl, a, _, dx, _, _, rfl, O.ob, T.c_Net, T.n_Net_knots, rfl, _, rfl, kd, _, rfl, g1, kv, _, _, _, rfl, rfl, SqT.of g2, at0, f, _, rfl, .inr (SqT.of g5), ?_⟩
    rw [List.length_map, List.length_range]
    exact k
def sp_Net_period (K : PySem.W.Frag) : Sp := fun vs H Q _ => ∃ (a : Addr) (N : Ch.Nt) (v : Nat), vs = [.ref a, vn v] ∧ NetAt K H a N ∧ v < N.length ∧ Q (.int (Ch.per N v : Nat)) H
theorem sc_Net_period : FnScope ["self", "name"] ["self", "name"] d_Net_period.scope := ⟨rfl, rfl, rfl, by decide +kernel, rfl, by decide +kernel, by decide +kernel⟩
theorem ok_Net_period (T : Txt K mg)  : Met P w K mg base 1 (He.ga K "Net") "period" (sp_Net_period K) [] := by
  refine met_mk d_Net_period T.d_Net_period T.c_Net T.t_Net_period sc_Net_period (fun vs H Q E h => ?_) (fun _ _ _ _ _ _ us hl => match us, hl with | [_, _], _ => rfl) (fun cdv A outer s H vs Q E hr h => ?_)
  · obtain ⟨_, _, _, rfl, _⟩ := h
    rfl
  · have hu := hu_of hr
    obtain ⟨a, N, v, rfl, ⟨j, dx, kd, id, ot, nl, O⟩, hv, k⟩ := h
    obtain ⟨kv, f, t, g1, g2, g3, g4⟩ := O.kn.get hv
    obtain ⟨as, g5, _⟩ := g4
    refine ⟨_, (pss_one (ps_ret (pe_callB call_len_seq (by rfl) T.f_len (by decide +kernel) (pa_cons (pe_ix ix_tup (pe_dget hu (pe_fld (pv 0) rfl) (pv 1) (fun _ _ => rfl)) pe_int (fun _ _ => rfl)) pa_nil)))), ?_⟩
    refine ⟨_, rfl, a, _, dx, _, _, rfl, O.ob, T.c_Net, T.n_Net_knots, rfl, _, rfl, kd, _, rfl, g1, kv, _, _, _, rfl, rfl, SqT.of g2, at1, t, _, rfl, .inr (SqT.of g5), ?_⟩
    rw [List.length_map, List.length_range]
    exact k
def sp_Net_place_behind (K : PySem.W.Frag) : Sp := fun vs H Q _ => ∃ (a : Addr) (N : Ch.Nt) (v p x : Nat), vs = [.ref a, vn v, .int (p : Nat), .int (x : Nat)] ∧ NetAt K H a N ∧ v < N.length ∧ (Ch.kn N v).tu ≠ [] ∧ p < (Ch.kn N v).len ∧ Q (.int (Ch.plc (Ch.kn N v) p x : Nat)) H
theorem sc_Net_place_behind : FnScope ["self", "name", "place", "many", "late", "front", "period"] ["self", "name", "place", "many"] d_Net_place_behind.scope := ⟨rfl, rfl, rfl, by decide +kernel, rfl, by decide +kernel, by decide +kernel⟩
theorem ok_Net_place_behind (T : Txt K mg) (c_Net_period : Met P w K mg base 1 (He.ga K "Net") "period" (sp_Net_period K) []) (c_Net_front : Met P w K mg base 1 (He.ga K "Net") "front" (sp_Net_front K) []) : Met P w K mg base 2 (He.ga K "Net") "place_behind" (sp_Net_place_behind K) [] := by
  refine met_mk d_Net_place_behind T.d_Net_place_behind T.c_Net T.t_Net_place_behind sc_Net_place_behind (fun vs H Q E h => ?_) (fun _ _ _ _ _ _ us hl => match us, hl with | [_, _, _, _], _ => rfl) (fun cdv A outer s H vs Q E hr h => ?_)
  · obtain ⟨_, _, _, _, _, rfl, _⟩ := h
    rfl
  · have hu := hu_of hr
    obtain ⟨a, N, v, p, x, rfl, hN, hv, ht, hp, k⟩ := h
    obtain ⟨j, dx, kd, id, ot, nl, O⟩ := id hN
    refine ⟨_, (pss_cons (ps_set (i := 4) sc_Net_place_behind.nd rfl (Or.inl rfl) (pe_op op_add (pv 2) (pv 3)))
      (pss_cons (ps_par (i := 5) (j := 6) rfl sc_Net_place_behind.nd rfl rfl (by decide) rfl rfl (pa_cons (C8.pe_mt c_Net_front hr (by decide) (pv 0) (pa_cons (pv 1) pa_nil)) (pa_cons (C8.pe_mt c_Net_period hr (by decide) (pv 0) (pa_cons (pv 1) pa_nil)) pa_nil)) (by rfl))
      (pss_one (ps_ret (pe_ifExp (pt_cmpR op_lt (pv 4) (pe_op op_add (pv 5) (pv 6)) (nomark _)) (pv 4) (pe_op op_add (pv 5) (pe_op op_mod (pe_op op_sub (pv 4) (pv 5)) (pv 6)))))))), ?_⟩
    refine ⟨_, rfl, _, rfl, _, _, rfl, rfl, _, rfl, a, dx, _, rfl, O.ob, rfl, _, rfl, a, N, v, rfl, hN, hv, _, rfl, a, dx, _, rfl, O.ob, rfl, _, rfl, a, N, v, rfl, hN, hv, _, _, rfl, ?_⟩
    refine ⟨_, rfl, _, rfl, _, rfl, _, _, rfl, rfl, _, _, rfl, rfl, _, rfl, ?_⟩
    have hc := Ch.plc_closed ht hp x
    have h0 : 0 < (Ch.kn N v).per := List.length_pos_iff.mpr ht
    have hl : (Ch.kn N v).len = (Ch.kn N v).fr.length + (Ch.kn N v).per := rfl
    have hpe : Ch.per N v = (Ch.kn N v).per := rfl
    refine ite2 (fun c => ?_) (fun c => ?_)
    · have c' : (p : Int) + x < ((Ch.kn N v).fr.length : Nat) + (Ch.per N v : Nat) := of_decide_eq_true c
      refine ⟨_, rfl, ?_⟩
      rw [if_pos (by omega)] at hc
      have e : ((p : Int) + x) = (Ch.plc (Ch.kn N v) p x : Nat) := by rw [hc]; omega
      show Q (.int ((p : Int) + x)) H
      rw [e]; exact k
    · have c' : ¬ (p : Int) + x < ((Ch.kn N v).fr.length : Nat) + (Ch.per N v : Nat) := fun z => c (decide_eq_true z)
      refine ⟨_, rfl, _, rfl, _, rfl, _, _, rfl, rfl, _, rfl, _, _, rfl, rfl, (by show (0 : Int) < (Ch.per N v : Nat); omega), _, _, rfl, rfl, ?_⟩
      rw [if_neg (by omega)] at hc
      have e : (((Ch.kn N v).fr.length : Nat) : Int) + ((p : Int) + x - ((Ch.kn N v).fr.length : Nat)) % (Ch.per N v : Nat) = (Ch.plc (Ch.kn N v) p x : Nat) := by
        rw [hc]
        have e1 : ((p : Int) + x - ((Ch.kn N v).fr.length : Nat)) = ((p + x - (Ch.kn N v).fr.length : Nat) : Int) := by omega
        rw [e1, hpe]; push_cast; rfl
      show Q (.int ((((Ch.kn N v).fr.length : Nat) : Int) + ((p : Int) + x - ((Ch.kn N v).fr.length : Nat)) % (Ch.per N v : Nat))) H
      rw [e]; exact k
def sp_Net_start (K : PySem.W.Frag) : Sp := fun vs H Q _ => ∃ (a : Addr) (N : Ch.Nt), vs = [.ref a] ∧ NetAt K H a N ∧ N.length ≤ 4 ∧ ∀ p H', H p = none → Same H H' → StdAt H' p N.length (fun _ => 0) → Q (.ref p) H'
theorem sc_Net_start : FnScope ["self", "name"] ["self"] d_Net_start.scope := ⟨rfl, rfl, rfl, by decide +kernel, rfl, by decide +kernel, by decide +kernel⟩
theorem ok_Net_start (T : Txt K mg)  : Met P w K mg base 1 (He.ga K "Net") "start" (sp_Net_start K) [] := by
  refine met_mk d_Net_start T.d_Net_start T.c_Net T.t_Net_start sc_Net_start (fun vs H Q E h => ?_) (fun _ _ _ _ _ _ us hl => match us, hl with | [_], _ => rfl) (fun cdv A outer s H vs Q E hr h => ?_)
  · obtain ⟨_, _, rfl, _⟩ := h
    rfl
  · have hu := hu_of hr
    obtain ⟨a, N, rfl, ⟨j, dx, kd, id, ot, nl, O⟩, h4, k⟩ := h
    refine ⟨_, (pss_one (ps_ret (pe_dc (own := [("name", 1)]) (by rfl) sc_Net_start.nd (pi_list (pe_fld (pv 0) rfl)) (blkOk_by (own := [("name", 1)]) (by rfl)) (fun _ _ _ _ _ => (pg_name (i := 1) sc_Net_start.nd rfl (Or.inl rfl))) (fun _ _ _ _ _ => pts_nil) (fun _ _ _ _ _ => (pv 1)) (fun _ _ _ _ _ => pe_int)))), ?_⟩
    refine ⟨_, rfl, a, _, dx, _, _, rfl, O.ob, T.c_Net, T.n_Net_names, rfl, nl, rfl, ⟨_, SqL.of O.nl⟩, ?_⟩
    refine dc_vals (walk_list (xs := (List.range N.length).map vn)) (fun i => i) (fun i j _ _ e => e) (fun _ => .int (0 : Nat)) (by rw [List.length_map, List.length_range]; omega) (fun H' s => SqL.of (s _ _ O.nl)) ?_ ?_
    · rintro i x H' H'' R hi s ⟨rfl, hy⟩ k
      rw [List.length_map, List.length_range] at hi
      rw [List.getElem?_map, List.getElem?_range hi] at hy
      cases hy
      exact ⟨rfl, _, rfl, k _ (Same.refl _)⟩
    · intro D H' hD s e
      rw [List.length_map, List.length_range, dk_id] at e
      exact k D H' hD s e
end
end K11
end
section
set_option Elab.async false
set_option linter.all false
set_option maxRecDepth 100000
namespace K11
open PySem PySem.Spec PyProof.Rows L2
open C8 (Cal Met Mak)
section
variable {P : Program} {w : World} {K : PySem.W.Frag} {mg : Str → Option Value} {base : Heap}
/-! ### count -/
/-- what a dict of ints is made of -/
structure DIk (ks : List Nat) (g : Nat → Int) : Prop where
  nd : ks.Nodup
  lt : ∀ t ∈ ks, t < 8
  zero : ∀ t, t ∉ ks → g t = 0
theorem DIk.at_ {H : Hp} {a : Addr} {ks : List Nat} {g : Nat → Int} (h : DIk ks g) (e : H a = some (.dK (dk ks fun t => .int (g t)))) : DI H a ks g := ⟨e, h.nd, h.lt, h.zero⟩
theorem DI.k {H : Hp} {a : Addr} {ks : List Nat} {g : Nat → Int} (h : DI H a ks g) : DIk ks g := ⟨h.nd, h.lt, h.zero⟩
theorem DIk.nil : DIk [] fun _ => 0 := ⟨List.nodup_nil, fun _ h => (by cases h), fun _ _ => rfl⟩
def sp_count : Sp := fun vs H Q _ => ∃ (d t : Addr) (ks dr : List Nat) (g : Nat → Int) (m : Int), vs = [.ref d, .ref t, .int m] ∧ H d = some (.dK (dk ks fun t => .int (g t))) ∧ DIk ks g ∧ DropAt H t dr ∧ (∀ x ∈ dr, x < 8) ∧
  ∀ ks', (∀ t, t ∈ ks' ↔ t ∈ ks ∨ t ∈ dr) → DIk ks' (fun t => g t + m * (dr.count t : Nat)) → Q .non (upd H d (.dK (dk ks' fun t => .int (g t + m * (dr.count t : Nat)))))
theorem sc_count : FnScope ["found", "drop", "many", "target"] ["found", "drop", "many"] d_count.scope := ⟨rfl, rfl, rfl, by decide +kernel, rfl, by decide +kernel, by decide +kernel⟩
theorem ok_count (T : Txt K mg)  : Cal P w K mg base 1 "count" sp_count [] := by
  refine cal_mk d_count T.d_count T.g_count sc_count (fun vs H Q E h => ?_) (fun _ _ _ _ _ _ us hl => match us, hl with | [_, _, _], _ => rfl) (fun cdv A outer s H vs Q E hr h => ?_)
  · obtain ⟨_, _, _, _, _, _, rfl, _⟩ := h
    rfl
  · have hu := hu_of hr
    obtain ⟨d, t, ks, dr, g, m, rfl, hd, hk, ht, hlt, k⟩ := h
    have ndt : d ≠ t := ne_of hd ht (by intro z; cases z)
    refine ⟨_, (pss_one (ps_for PassesOwn.never rfl (pi_tup (pv 1)) (pg_name (i := 3) sc_count.nd rfl (Or.inl rfl))
      (pss_one (ps_dput hu (pv 0) (pv 3) (pe_op op_add (pe_dget2 hu (pv 0) (pv 3) pe_int ⟨rfl, rfl, rfl, rfl⟩) (pv 2)) rfl)))), ?_⟩
    refine ⟨_, rfl, t, rfl, ⟨_, SqT.of ht⟩, for_tup (K := K) (a := t) (xs := dr.map vn) (fun i σ H' => ∃ ks' g' v, σ = [some (.ref d), some (.ref t), some (.int m), v] ∧ H' = upd H d (.dK (dk ks' fun t => .int (g' t))) ∧ DIk ks' g' ∧ (∀ t, t ∈ ks' ↔ t ∈ ks ∨ t ∈ dr.take i) ∧ ∀ t, g' t = g t + m * ((dr.take i).count t : Nat)) ?_ ?_ ?_ ?_⟩
    · exact ⟨ks, g, none, rfl, (upd_self hd).symm, hk, fun t => by simp, fun t => by simp⟩
    · rintro i σ H' _ ⟨ks', g', v, rfl, rfl, _⟩
      exact SqT.of (by rw [upd_ne ndt.symm]; exact ht)
    · rintro i x σ H' hx ⟨ks', g', v, rfl, rfl, hk', hm, hg⟩
      rw [List.getElem?_map] at hx
      cases hi : dr[i]? with
      | none => rw [hi] at hx; cases hx
      | some u =>
        rw [hi] at hx
        cases hx
        have hu8 : u < 8 := hlt u (List.mem_of_getElem? hi)
        have D := hk'.at_ (H := upd H d (.dK (dk ks' fun t => .int (g' t)))) (a := d) upd_same
        obtain ⟨o, e1, e2⟩ := D.get u
        obtain ⟨H3, p1, p2, p3⟩ := D.put hu8 (g' u + m)
        refine ⟨_, rfl, d, rfl, isD D.at_, _, rfl, o, e1, _, rfl, g' u, m, e2, rfl, ?_⟩
        refine ⟨_, rfl, _, rfl, d, H3, rfl, p1, ?_⟩
        have ht1 : dr.take (i + 1) = dr.take i ++ [u] := by rw [List.take_succ, hi]; rfl
        refine ⟨_, _, _, rfl, by rw [p2, upd_upd], p3.k, fun t => ?_, fun t => ?_⟩
        · rw [mem_kput, hm, ht1, List.mem_append, List.mem_singleton, or_assoc]
        · rw [ht1, List.count_append]
          unfold gput
          by_cases c : t = u
          · subst c
            rw [if_pos rfl, hg]
            simp [Int.mul_add]; omega
          · rw [if_neg c, hg, List.count_eq_zero_of_not_mem (a := t) (l := [u]) (by simp [c])]
            simp
    · rintro σ H' ⟨ks', g', v, rfl, rfl, hk', hm, hg⟩
      have e : g' = fun t => g t + m * (dr.count t : Nat) := by
        funext t
        rw [hg, List.length_map, List.take_of_length_le (Nat.le_refl _)]
      subst e
      exact k ks' (fun t => by rw [hm, List.length_map, List.take_of_length_le (Nat.le_refl _)]) hk'
/-! ### turned -/
/-- the drops of a row, one by one -/
theorem RowAt.get {H : Hp} {a : Addr} {r : List (List Nat)} (h : RowAt H a r) : ∃ as : Nat → Addr, H a = some (.tup ((List.range r.length).map fun i => V.ref (as i))) ∧ ∀ i d, r[i]? = some d → DropAt H (as i) d := h
theorem cts_succ (r : List (List Nat)) (i : Nat) (d : List Nat) (h : r[i]? = some d) (t : Nat) : Ch.cts (r.take (i + 1)) t = Ch.cts (r.take i) t + d.count t := by
  rw [List.take_succ, h, Ch.cts_append]; simp [Ch.cts]
def sp_Net_turned (K : PySem.W.Frag) : Sp := fun vs H Q _ => ∃ (a : Addr) (N : Ch.Nt) (v : Nat), vs = [.ref a, vn v] ∧ NetAt K H a N ∧ v < N.length ∧ (∀ d ∈ (Ch.kn N v).tu, ∀ x ∈ d, x < 8) ∧
  ∀ p ks H', H p = none → Same H H' → DI H' p ks (fun t => (Ch.cnt N v t : Nat)) → Q (.ref p) H'
theorem sc_Net_turned : FnScope ["self", "name", "found", "drop", "target"] ["self", "name"] d_Net_turned.scope := ⟨rfl, rfl, rfl, by decide +kernel, rfl, by decide +kernel, by decide +kernel⟩
theorem ok_Net_turned (T : Txt K mg)  : Met P w K mg base 1 (He.ga K "Net") "turned" (sp_Net_turned K) [] := by
  refine met_mk d_Net_turned T.d_Net_turned T.c_Net T.t_Net_turned sc_Net_turned (fun vs H Q E h => ?_) (fun _ _ _ _ _ _ us hl => match us, hl with | [_, _], _ => rfl) (fun cdv A outer s H vs Q E hr h => ?_)
  · obtain ⟨_, _, _, rfl, _⟩ := h
    rfl
  · have hu := hu_of hr
    obtain ⟨a, N, v, rfl, hN, hv, h8, k⟩ := h
    obtain ⟨j, dx, kd, id, ot, nl, O⟩ := hN
    obtain ⟨kv, f, tu, g1, g2, g3, g4⟩ := O.kn.get hv
    obtain ⟨as, g5, g6⟩ := g4
    refine ⟨_, (pss_cons (ps_set (i := 2) sc_Net_turned.nd rfl (Or.inl rfl) pe_dnewK)
      (pss_cons (ps_for PassesOwn.never rfl (pi_tup (pe_ix ix_tup (pe_dget hu (pe_fld (pv 0) rfl) (pv 1) (fun _ _ => rfl)) pe_int (fun _ _ => rfl))) (pg_name (i := 3) sc_Net_turned.nd rfl (Or.inl rfl))
      (pss_one (ps_for PassesOwn.never rfl (pi_tup (pv 3)) (pg_name (i := 4) sc_Net_turned.nd rfl (Or.inl rfl))
        (pss_one (ps_dput hu (pv 2) (pv 4) (pe_op op_add (pe_dget2 hu (pv 2) (pv 4) pe_int ⟨rfl, rfl, rfl, rfl⟩) pe_int) rfl)))))
      (pss_one (ps_ret (pv 2))))), ?_⟩
    intro p hp
    have s0 : Same H (upd H p (.dK [])) := Same.new hp
    have g1' : DGet (upd H p (.dK [])) kd (vn v) (some (.ref kv)) := by
      obtain ⟨ks0, q1, _⟩ := O.kn
      rcases g1 with ⟨kvs, kk, r1, r2, r3⟩ | ⟨kvs, kk, b, r1, r2, r3, r4⟩
      · exact .inl ⟨kvs, kk, by rcases r1 with r1 | ⟨o, r1⟩; exact .inl (s0 _ _ r1); exact .inr ⟨o, s0 _ _ r1⟩, r2, r3⟩
      · cases r2
    refine ⟨_, rfl, a, _, dx, _, _, rfl, s0 _ _ O.ob, T.c_Net, T.n_Net_knots, rfl, _, rfl, kd, _, rfl, g1', kv, _, _, _, rfl, rfl, SqT.of (s0 _ _ g2), at1, tu, rfl, ⟨_, SqT.of (s0 _ _ g5)⟩, ?_⟩
    refine for_tup (K := K) (a := tu) (xs := (List.range (Ch.kn N v).tu.length).map fun i => V.ref (as i)) (fun i σ H' => ∃ ks g v3 v4, σ = [some (.ref a), some (vn v), some (.ref p), v3, v4] ∧ Same H H' ∧ DI H' p ks g ∧ ∀ t, g t = (Ch.cts ((Ch.kn N v).tu.take i) t : Nat)) ?_ ?_ ?_ ?_
    · exact ⟨[], fun _ => 0, none, none, rfl, s0, DI.new, fun t => by simp [Ch.cts]⟩
    · rintro i σ H' _ ⟨_, _, _, _, _, s, _⟩
      exact SqT.of (s _ _ g5)
    · rintro i x σ H' hx ⟨ks, g, v3, v4, rfl, s, D, hg⟩
      have hi : i < (Ch.kn N v).tu.length := by
        have := (List.getElem?_eq_some_iff.mp hx).1
        rw [List.length_map, List.length_range] at this; exact this
      rw [List.getElem?_map, List.getElem?_range hi] at hx
      cases hx
      obtain ⟨dr, hdr⟩ : ∃ dr, (Ch.kn N v).tu[i]? = some dr := ⟨_, List.getElem?_eq_getElem hi⟩
      have hd := (g6 i dr hdr).mono s
      have hlt := h8 dr (List.mem_of_getElem? hdr)
      have npa : as i ≠ p := ne_of hd D.at_ (by intro z; cases z)
      refine ⟨_, rfl, as i, rfl, ⟨_, SqT.of hd⟩, for_tup (K := K) (a := as i) (xs := dr.map vn) (fun l σ H' => ∃ ks g v4, σ = [some (.ref a), some (vn v), some (.ref p), some (.ref (as i)), v4] ∧ Same H H' ∧ DropAt H' (as i) dr ∧ DI H' p ks g ∧ ∀ t, g t = (Ch.cts ((Ch.kn N v).tu.take i) t : Nat) + ((dr.take l).count t : Nat)) ?_ ?_ ?_ ?_⟩
      · exact ⟨ks, g, v4, rfl, s, hd, D, fun t => by rw [hg]; simp⟩
      · rintro l σ H2 _ ⟨_, _, _, _, _, hd2, _⟩
        exact SqT.of hd2
      · rintro l x σ H2 hx ⟨ks, g, v4, rfl, s2, hd2, D2, hg2⟩
        rw [List.getElem?_map] at hx
        cases hl : dr[l]? with
        | none => rw [hl] at hx; cases hx
        | some u =>
          rw [hl] at hx
          cases hx
          have hu8 : u < 8 := hlt u (List.mem_of_getElem? hl)
          obtain ⟨o, e1, e2⟩ := D2.get u
          obtain ⟨H3, p1, p2, p3⟩ := D2.put hu8 (g u + 1)
          refine ⟨_, rfl, p, rfl, isD D2.at_, _, rfl, o, e1, g u, 1, e2, rfl, ?_⟩
          refine ⟨_, rfl, _, rfl, p, H3, rfl, p1, ?_⟩
          have ht1 : dr.take (l + 1) = dr.take l ++ [u] := by rw [List.take_succ, hl]; rfl
          refine ⟨_, _, _, rfl, by rw [p2]; exact s2.mut hp, by rw [p2]; unfold DropAt; rw [upd_ne npa]; exact hd2, p3, fun t => ?_⟩
          rw [ht1, List.count_append]
          unfold gput
          by_cases c : t = u
          · subst c
            rw [if_pos rfl, hg2]
            simp; omega
          · rw [if_neg c, hg2, List.count_eq_zero_of_not_mem (a := t) (l := [u]) (by simp [c])]
            simp
      · rintro σ H2 ⟨ks, g, v4, rfl, s2, hd2, D2, hg2⟩
        refine ⟨_, _, _, _, rfl, s2, D2, fun t => ?_⟩
        rw [hg2, cts_succ _ _ _ hdr, List.length_map, List.take_of_length_le (Nat.le_refl _)]
        push_cast; rfl
    · rintro σ H' ⟨ks, g, v3, v4, rfl, s, D, hg⟩
      have e : g = fun t => ((Ch.cnt N v t : Nat) : Int) := by
        funext t
        rw [hg, List.length_map, List.length_range, List.take_of_length_le (Nat.le_refl _)]
      subst e
      exact ⟨_, rfl, k p ks H' hp s D⟩
end
end K11
end
section
set_option Elab.async false
set_option linter.all false
set_option maxRecDepth 100000
/-! R1: rules that the hand layer lacks: enumerate of a tuple, of a text; dicts starred in a display; list(d.values()), tuple(d.values()); text * int; list(text). -/
namespace PySem
open Sem (wp)
set_option maxHeartbeats 1000000 in
theorem k11_enumerate_newT (l : Addr) (items : Array Value) :
    Meets (Builtin.«enumerate.__new__» ⟨[.type "enumerate", .ref l], []⟩) (fun _ R s => s.heap.IsTuple l items ∧
      R (.ok (.ret (.ref (s.heap.push { cls := .type "tuple_iterator", data := .fields #[.ref l, .int 0 0] }).objs.size)))
        { s with heap := (s.heap.push { cls := .type "tuple_iterator", data := .fields #[.ref l, .int 0 0] }).push { cls := .type "enumerate", data := .fields #[.none, .bool false, .ref s.heap.objs.size, rawInt 0, .none, .none] } }) :=
  .of_wp fun prog w A R s h => by
    obtain ⟨hp, g, d, tk, os⟩ := s; obtain ⟨hl, h⟩ := h
    have hsub := sub_enumerate
    have hL : Heap.IsTuple (Shared.heap ⟨hp, g, d, tk, os⟩) l items := hl
    have q1 : ∀ {A' : Around} {E : Value → Shared → Prop} {Q : Value → Shared → Prop}, Q (.ref hp.objs.size) ⟨hp.push { cls := .type "tuple_iterator", data := .fields #[.ref l, .int 0 0] }, g, d, tk, os⟩ → wpAny (model prog w) A' (pyIter (.ref l)) Q E ⟨hp, g, d, tk, os⟩ :=
      fun q => wpAny_pyIter_tuple hL q
    wp_walk using q1
    refine wpAny_stack_any fun st => wpAny_pure ?_
    split
    · rename_i c _ _ _ _ _
      cases (c == Value.type "enumerate")
      · wp_walk using q1
        exact ⟨_, rfl, h⟩
      · wp_walk using q1
        exact ⟨_, rfl, h⟩
    · wp_walk using q1
      exact ⟨_, rfl, h⟩
theorem k11_call_enumerate_tuple {prog : Program} {w : World} {A : Around} {E : Value → Shared → Prop} {s : Shared} {l : Addr} {items : Array Value} {Q : Value → Shared → Prop} (hL : s.heap.IsTuple l items)
    (h : ∀ h', IsEnum h' (s.heap.objs.size + 1) s.heap.objs.size 0 .none → h'.IsTupleIter s.heap.objs.size l 0 → h'.objs.size = s.heap.objs.size + 2 →
      (∀ b o, s.heap.get? b = some o → h'.get? b = some o) → Q (.ref (s.heap.objs.size + 1)) { s with heap := h' }) :
    wpAny (model prog w) A (call (.type "enumerate") [.ref l]) Q E s := by
  refine callType_new F.called_enumerate (by decide) (F.typeCall_enumerate_1 _) (F.newCall_enumerate_1 _) (fun obj => F.args_object_init_2 obj _) F.entry_enumerate_new
    (k11_enumerate_newT l items) ⟨hL, ?_⟩
  have hz : (s.heap.push { cls := .type "tuple_iterator", data := .fields #[.ref l, .int 0 0] }).objs.size = s.heap.objs.size + 1 := Heap.size_push ..
  show _ ∧ _
  rw [hz]
  have he : IsEnum ((s.heap.push { cls := .type "tuple_iterator", data := .fields #[.ref l, .int 0 0] }).push
      { cls := .type "enumerate", data := .fields #[.none, .bool false, .ref s.heap.objs.size, rawInt 0, .none, .none] }) (s.heap.objs.size + 1) s.heap.objs.size 0 .none := by
    have := Heap.get?_push_size (s.heap.push { cls := .type "tuple_iterator", data := .fields #[.ref l, .int 0 0] })
      (o := { cls := .type "enumerate", data := .fields #[.none, .bool false, .ref s.heap.objs.size, rawInt 0, .none, .none] }) rfl
    rw [hz] at this; exact this
  refine ⟨⟨_, he, rfl⟩, h _ he ⟨_, Heap.get?_push_of_some _ (Heap.get?_push_size _ rfl), rfl, rfl⟩ (by rw [Heap.size_push, hz]) fun b o x => Heap.get?_push_of_some _ (Heap.get?_push_of_some _ x)⟩
end PySem
namespace K11
open PySem PySem.Spec PyProof.Rows L2
open C8 (Cal Met Mak)
/-! ### enumerate(tuple), enumerate(text) -/
def IteT (K : PySem.W.Frag) (a : Addr) : It :=
  ⟨fun i H => ∃ (xs : List V) (x : V), SqT K H a xs ∧ xs[i]? = some x, fun i H v H' => ∃ T x, v = .ref T ∧ H T = none ∧ H' = upd H T (.tup [.int (i : Nat), x]) ∧ ∀ xs, SqT K H a xs → xs[i]? = some x, fun i H => ∃ xs : List V, SqT K H a xs ∧ xs.length ≤ i⟩
def IteS (z : Str) : It :=
  ⟨fun i _ => i < z.cps.size, fun i H v H' => ∃ T c, v = .ref T ∧ H T = none ∧ H' = upd H T (.tup [.int (i : Nat), .str ⟨#[c]⟩]) ∧ z.cps[i]? = some c, fun i _ => i = z.cps.size⟩
theorem enum_cast (i : Nat) : (0 : Int) + (i : Int) = ((i : Nat) : Int) := Int.zero_add _
theorem enum_item {X : Cx} {pins : List (Addr × Obj)} {s : Shared} {σ : L2.St} {H : Hp} {E : Value → Shared → Prop} {elts : List Expr} {kk : Nat} {tpos : Pos} {e it : Addr} {fp : List Addr} {n i : Nat} {Pd : Nat → Value → Prop} {St : Nat → Heap → Prop} {old : Value} {tn : Heap → Prop} {yl : V → Hp → Prop}
    (I : Inv X pins σ H s) (hf : ∀ b ∈ [e, it], FpOk X pins H b) (D : Draws X.prog X.w X.A.in1 it fp n Pd St) (he : IsEnum s.heap e it ((i : Nat) : Int) old) (hst : St i s.heap) (hlt : i < n) (hne : e ≠ it) (hef : e ∉ fp)
    (hx : ∀ u, Pd i u → ∃ x, RelV x u ∧ ∀ T, H T = none → yl (.ref T) (upd H T (.tup [.int (i : Nat), x])))
    (htn : ∀ h', (∃ old, IsEnum h' e it (((i + 1 : Nat) : Nat) : Int) old) → St (i + 1) h' → tn h') (hilt : it < s.heap.objs.size) :
    wpAny (model X.prog X.w) X.A (pyNext (.ref e)) (fun r s1 => ∃ u, r = some u ∧
      wpAny (model X.prog X.w) X.A (letOwnedTupleGo (.Tuple elts kk tpos) (.ref e) u) (fun _ s2 => ∃ x H', Inv X pins σ H' s2 ∧ RelV x u ∧ yl x H' ∧ tn s2.heap ∧ ∀ b ∈ [e, it], H' b = none) E s1) E s := by
  have hel : e < s.heap.objs.size := Heap.lt_size he
  refine wpAny_pyNext_enum_itemC D he hst hlt hne hef fun u h' tk hP ho hs' hT hsz hk => ?_
  obtain ⟨x, ru, hy⟩ := hx u hP
  refine ⟨_, rfl, wpAny_letOwnedTupleGo_enum (s := { s with heap := h', toks := tk + 1 }) ho fun h'' he' sb => ?_⟩
  have hT2 : h''.get? s.heap.objs.size = some { cls := .type "tuple", data := .seq #[.int ((i : Nat) : Int) tk, u] } := (sb.2 _ (Nat.ne_of_gt hel)).trans hT
  have new : ObjOk X.prog X.w (upd H s.heap.objs.size (.tup [.int (i : Nat), x])) h'' s.heap.objs.size (.tup [.int (i : Nat), x]) :=
    ⟨by show 2 ≤ sizeLine; decide, [.int ((i : Nat) : Int) tk, u], .cons ⟨_, rfl⟩ (.cons ru .nil), ⟨_, hT2, rfl, _, rfl⟩⟩
  have I1 : Inv X pins σ (upd H s.heap.objs.size (.tup [.int (i : Nat), x])) { s with heap := h'', toks := tk + 1 } :=
    I.turnedNew (ch := [e, it]) (fun b ob hb q => (sb.2 b (fun z => hb (by simp [z]))).trans (hk b ob (fun z => hb (by simp [z])) (fun z => hb (by simp [z])) q)) hf (Nat.le_refl _) new
  refine ⟨.ref s.heap.objs.size, _, I1, rfl, hy _ (I.hok.fresh (Nat.le_refl _)), htn _ ⟨u, ?_⟩ (D.frame _ _ _ hs' fun b hb o y => (sb.2 b fun q => hef (q ▸ hb)).trans y), fun b hb => ?_⟩
  · have e1 : ((i + 1 : Nat) : Int) = (i : Int) + 1 := by omega
    rw [e1]; exact he'
  · have hb' : b < s.heap.objs.size := by
      have e' : b = e ∨ b = it := by simpa using hb
      rcases e' with z | z
      · rw [z]; exact hel
      · rw [z]; exact hilt
    rw [upd_ne (Nat.ne_of_lt hb')]
    exact (hf b hb).1
theorem turn_enumT {P : Program} {w : World} {K : PySem.W.Frag} {elts : List Expr} {kk : Nat} {tpos : Pos} (a e it : Addr) :
    Turn P w K (.Tuple elts kk tpos) (IteT K a) [e, it] e (fun i h => (∃ old, IsEnum h e it ((i : Nat) : Int) old) ∧ h.IsTupleIter it a i ∧ e ≠ it) where
  mem := by simp
  obj := fun i h st b hb => by
    obtain ⟨⟨old, he⟩, ⟨o, ho, hc, hd⟩, _⟩ := st
    have e' : b = e ∨ b = it := by simpa using hb
    rcases e' with z | z
    · rw [z]; exact ⟨_, he, fun v q => nomatch q⟩
    · rw [z]; exact ⟨o, ho, fun v q => by rw [hd] at q; cases q⟩
  keep := fun i h h' st k => let ⟨⟨old, he⟩, hi, hne⟩ := st; ⟨⟨old, k e (by simp) _ he⟩, hi.at fun o q => k it (by simp) o q, hne⟩
  item := by
    intro X hP hw hK hc i pins s σ H E I hf st hg
    subst hP hw hK
    obtain ⟨⟨old, he⟩, hit, hne⟩ := st
    obtain ⟨xs, x, hq, hx⟩ := hg
    obtain ⟨its, rv, p, hz⟩ := I.tuple hq
    have p' : s.heap.IsTuple a its.toArray := p
    obtain ⟨u, hu, ru⟩ := rv.get hx
    have hil : it < s.heap.objs.size := by obtain ⟨_, q, _⟩ := hit; exact Heap.lt_size q
    have hea : e ≠ a := fun z => by
      obtain ⟨o, ho, hc, _⟩ := p'
      rw [← z] at ho
      have q : ({ cls := .type "enumerate", dict := Option.none, data := .fields #[.none, .bool false, .ref it, rawInt ((i : Nat) : Int), .none, old], slots := #[] } : Obj) = o := Option.some.inj (he.symm.trans ho)
      rw [← q] at hc
      injection hc with hc
      exact absurd hc (by decide)
    have hai : a ≠ it := fun z => by
      obtain ⟨o, ho, hc, _⟩ := p'
      obtain ⟨o2, ho2, hc2, _⟩ := hit
      rw [z] at ho
      rw [ho] at ho2
      cases ho2
      rw [hc] at hc2
      injection hc2 with hc2
      exact absurd hc2 (by decide)
    have hi : i < its.toArray.size := by
      have := (List.getElem?_eq_some_iff.mp hu).1
      simpa using this
    exact enum_item (elts := elts) (kk := kk) (tpos := tpos) (tn := fun h => (∃ old, IsEnum h e it ((i + 1 : Nat) : Int) old) ∧ h.IsTupleIter it a (i + 1) ∧ e ≠ it) (yl := (IteT X.K a).yld i H) I hf (Draws.tuple (show X.A.in1.handled = Option.none from I.ok.hd hc) it a hai its.toArray) he ⟨hit, p'⟩ hi hne (by simp [hne, hea]) (fun v hv => by
      have e1 : v = u := by
        have : its[i]? = some v := by simpa using hv
        rw [hu] at this; exact (Option.some.inj this).symm
      subst e1
      exact ⟨x, ru, fun T hT => ⟨T, x, rfl, hT, rfl, fun ys hy => by rw [I.tuple_inj hy hq]; exact hx⟩⟩) (fun h' h1 h2 => ⟨h1, h2.1, hne⟩) hil
  done := by
    intro X hP hw hK hc i pins s σ H E I hf st hg
    subst hP hw hK
    obtain ⟨⟨old, he⟩, hit, hne⟩ := st
    obtain ⟨xs, hq, hx⟩ := hg
    obtain ⟨its, rv, p, hz⟩ := I.tuple hq
    have p' : s.heap.IsTuple a its.toArray := p
    obtain ⟨f0, f1, f2, f3, f4, f5⟩ := hf it (by simp)
    have hl := rv.length
    unfold pyNext
    have hT : s.TypeIs (.ref e) "enumerate" := ⟨_, he, rfl⟩
    refine wpAny_bind (wpAny_attempt (wpAny_callSpecial?_slot (name := Str.ofString "__next__") hT PySem.F.slot_enumerate_next
      (wpAny_call_entry PySem.F.slot_enumerate_next hT PySem.F.entry_enumerate_next ?_ (PySem.F.args_enumerate_next_1 _))))
    show wpAny _ _ (field (.ref e) 2 >>= _) _ _ _
    refine wpAny_bind (wpAny_field he rfl (x := .ref it) rfl ?_)
    refine wpAny_bind (wpAny_nextOf_tuple_end (I.ok.hd hc) hit p' (by simp; omega) fun h' x he' hx' => ?_)
    obtain ⟨o, ho, hc⟩ := hx'
    refine wpAny_bind (wpAny_isInstance (T := "StopIteration") (b := true) ⟨o, ho, hc⟩ isSubtype_stop ?_)
    exact wpAny_pure ⟨rfl, I.turned (t' := s.toks) (fun b o hb q => he' b o hb q) f0 f1 f3 f4 f5⟩
  self := fun A i s Q E st h => let ⟨⟨_, he⟩, _⟩ := st; wpAny_pyIter_enum he h
theorem turn_enumS {P : Program} {w : World} {K : PySem.W.Frag} {elts : List Expr} {kk : Nat} {tpos : Pos} (z : Str) (t : Tok) (e it : Addr) :
    Turn P w K (.Tuple elts kk tpos) (IteS z) [e, it] e (fun i h => (∃ old, IsEnum h e it ((i : Nat) : Int) old) ∧ h.IsStrIter it (strIterType z) z t i ∧ e ≠ it) where
  mem := by simp
  obj := fun i h st b hb => by
    obtain ⟨⟨old, he⟩, ⟨o, ho, hc, hd⟩, _⟩ := st
    have e' : b = e ∨ b = it := by simpa using hb
    rcases e' with z | z
    · rw [z]; exact ⟨_, he, fun v q => nomatch q⟩
    · rw [z]; exact ⟨o, ho, fun v q => by rw [hd] at q; cases q⟩
  keep := fun i h h' st k => let ⟨⟨old, he⟩, hi, hne⟩ := st; ⟨⟨old, k e (by simp) _ he⟩, (let ⟨o, ho, r⟩ := hi; ⟨o, k it (by simp) o ho, r⟩), hne⟩
  item := by
    intro X hP hw hK hc i pins s σ H E I hf st hg
    subst hP hw hK
    obtain ⟨⟨old, he⟩, hit, hne⟩ := st
    have hil : it < s.heap.objs.size := by obtain ⟨_, q, _⟩ := hit; exact Heap.lt_size q
    exact enum_item (elts := elts) (kk := kk) (tpos := tpos) (tn := fun h => (∃ old, IsEnum h e it ((i + 1 : Nat) : Int) old) ∧ h.IsStrIter it (strIterType z) z t (i + 1) ∧ e ≠ it) (yl := (IteS z).yld i H) I hf (Draws.text (show X.A.in1.handled = Option.none from I.ok.hd hc) it z t) he hit hg hne (by simp [hne]) (fun v ⟨c, u, hcx, ev⟩ => by
      subst ev
      exact ⟨.str ⟨#[c]⟩, ⟨u, rfl⟩, fun T hT => ⟨T, c, rfl, hT, rfl, hcx⟩⟩) (fun h' h1 h2 => ⟨h1, h2, hne⟩) hil
  done := by
    intro X hP hw hK hc i pins s σ H E I hf st hg
    subst hP hw hK
    obtain ⟨⟨old, he⟩, hit, hne⟩ := st
    obtain ⟨f0, f1, f2, f3, f4, f5⟩ := hf it (by simp)
    have hi : i = z.cps.size := hg
    subst hi
    exact wpAny_pyNext_enum_endD (Draws.text (show X.A.in1.handled = Option.none from I.ok.hd hc) it z t) he hit fun h' eb => ⟨rfl, I.turned (t' := s.toks) (fun b o hb q => eb b o hb q) f0 f1 f3 f4 f5⟩
  self := fun A i s Q E st h => let ⟨⟨_, he⟩, _⟩ := st; wpAny_pyIter_enum he h
/-- for i, x in enumerate(t), t a tuple -/
def iEnumT (K : PySem.W.Frag) (ta : TA) : TI := fun σ H R => ta σ H fun vs H1 => ∃ a xs, vs = [.ref a] ∧ SqT K H1 a xs ∧ R (IteT K a) H1
theorem pi_enumT {X : Cx} {e : Expr} {ta : TA} {p pos tpos : Pos} {elts : List Expr} {kk : Nat} (hg : Gl X "enumerate") (hm : X.mg "enumerate" = none) (ha : PA X [e] ta) (hs : starEach [e] X.env = [(false, eval e X.env)] := by rfl) :
    PI X (.Tuple elts kk tpos) (.Call (.Name "enumerate" p) [e] [] pos) (iEnumT X.K ta) := by
  refine ⟨fun pins s σ H R I h => ?_⟩
  refine Call_ (ld_blt I hg hm boot_enumerate (PyProof.Rows.callWith_type1 (thn (ha.run pos pins s σ H _ I h) fun us s1 ⟨vs, H1, I1, r1, q1⟩ => ?_) hs rfl))
  obtain ⟨a, xs, ex, hq, q⟩ := q1
  subst ex
  cases r1 with
  | cons r rr =>
    cases rr
    cases r
    obtain ⟨its, rv, p', hz⟩ := I1.tuple hq
    refine k11_call_enumerate_tuple (show s1.heap.IsTuple a its.toArray from p') fun h' he hit hsz hk => wpAny_pyIter_enum he ?_
    have I2 : Inv X pins σ H1 { s1 with heap := h' } := I1.kept (t' := s1.toks) hk
    refine ⟨s1.heap.objs.size + 1, [s1.heap.objs.size + 1, s1.heap.objs.size], _, _, H1, rfl, I2, turn_enumT a (s1.heap.objs.size + 1) s1.heap.objs.size, ⟨⟨.none, he⟩, hit, Nat.succ_ne_self _⟩, fun b hb => ?_, q⟩
    have e' : b = s1.heap.objs.size + 1 ∨ b = s1.heap.objs.size := by simpa using hb
    have hle : s1.heap.objs.size ≤ b := by
      rcases e' with z | z
      · rw [z]; exact Nat.le_add_right _ _
      · rw [z]; exact Nat.le_refl _
    exact I1.fpOk hle (I1.hok.fresh hle)
/-- for i, x in enumerate(z), z a text -/
def iEnumS (ta : TA) : TI := fun σ H R => ta σ H fun vs H1 => ∃ z, vs = [.str z] ∧ R (IteS z) H1
theorem pi_enumS {X : Cx} {e : Expr} {ta : TA} {p pos tpos : Pos} {elts : List Expr} {kk : Nat} (hg : Gl X "enumerate") (hm : X.mg "enumerate" = none) (ha : PA X [e] ta) (hs : starEach [e] X.env = [(false, eval e X.env)] := by rfl) :
    PI X (.Tuple elts kk tpos) (.Call (.Name "enumerate" p) [e] [] pos) (iEnumS ta) := by
  refine ⟨fun pins s σ H R I h => ?_⟩
  refine Call_ (ld_blt I hg hm boot_enumerate (PyProof.Rows.callWith_type1 (thn (ha.run pos pins s σ H _ I h) fun us s1 ⟨vs, H1, I1, r1, q1⟩ => ?_) hs rfl))
  obtain ⟨z, ex, q⟩ := q1
  subst ex
  cases r1 with
  | cons r rr =>
    cases rr
    obtain ⟨t, rfl⟩ := r
    refine call_enumerate_str fun h' he hit hsz hk => wpAny_pyIter_enum he ?_
    have I2 : Inv X pins σ H1 { s1 with heap := h' } := I1.kept (t' := s1.toks) hk
    refine ⟨s1.heap.objs.size + 1, [s1.heap.objs.size + 1, s1.heap.objs.size], _, _, H1, rfl, I2, turn_enumS z t (s1.heap.objs.size + 1) s1.heap.objs.size, ⟨⟨.none, he⟩, hit, Nat.succ_ne_self _⟩, fun b hb => ?_, q⟩
    have e' : b = s1.heap.objs.size + 1 ∨ b = s1.heap.objs.size := by simpa using hb
    have hle : s1.heap.objs.size ≤ b := by
      rcases e' with z | z
      · rw [z]; exact Nat.le_add_right _ _
      · rw [z]; exact Nat.le_refl _
    exact I1.fpOk hle (I1.hok.fresh hle)
theorem walk_enumT {K : PySem.W.Frag} {a : Addr} {xs : List V} : Walk (IteT K a) xs.length (fun H => SqT K H a xs) (YPair (fun i => some (.int (i : Nat))) (fun i => xs[i]?)) where
  goes := fun i H hi h => ⟨xs, xs[i], h, by simp [hi]⟩
  stops := fun H h => ⟨xs, h, Nat.le_refl _⟩
  yields := fun i H x H' hi h ⟨T, y, e1, e2, e3, e4⟩ => ⟨T, _, y, e1, e2, e3, rfl, e4 xs h⟩
theorem walk_enumS {z : Str} : Walk (IteS z) z.cps.size (fun _ => True) (YPair (fun i => some (.int (i : Nat))) (fun i => z.cps[i]?.map fun c => V.str ⟨#[c]⟩)) where
  goes := fun i H hi _ => hi
  stops := fun H _ => rfl
  yields := fun i H x H' hi _ ⟨T, c, e1, e2, e3, e4⟩ => ⟨T, _, _, e1, e2, e3, rfl, by simp only [e4]; rfl⟩
end K11
end
section
set_option Elab.async false
set_option linter.all false
set_option maxRecDepth 100000
/-! R2: dicts starred in a display; list(d.values()), tuple(d.values()). -/
namespace PySem.W
open PySem PySem.Calls PyProof.Rows PyProof.V PySem.Spec
section
variable {prog : Program} {w : World} {A : Around} {E : Value → Shared → Prop} {s : Shared} {T : String} {r d : Addr} {n : Nat} {Pv : Nat → Value → Prop} {OK : Heap → Prop}
theorem k11_collect {Q : List Value → Shared → Prop} (K : KdlSrc prog w T r d n Pv OK) (hh : A.handled = none) (hok : OK s.heap) (hn : n ≤ sizeLine)
    (hQ : ∀ (h' : Heap) (tk : Nat) (acc : Array Value), (∀ b o, s.heap.get? b = some o → h'.get? b = some o) → ItemsOf Pv acc n → Q acc.toList { s with heap := h', toks := tk }) :
    wpAny (model prog w) A (collect (.ref r)) Q E s := by
  have hlt := K.there _ hok
  have hSr : s.heap.objs.size ≠ r := Nat.ne_of_gt hlt.1
  have hSd : s.heap.objs.size ≠ d := Nat.ne_of_gt hlt.2
  unfold collect
  refine wpAny_bind (wpAny_runValue (codeAny_builtin PySem.F.entry_proto_collect ?_))
  rw [Around.under_plainId PySem.F.plain_proto_collect _]
  show wpAny _ A.in1 (newList [] >>= fun l => again (.builtin "list.__iadd__" ⟨[l, .ref r], []⟩)) _ _ s
  refine wpAny_bind (wpAny_newObj_type ?_)
  refine wpAny_pure ⟨plainId_quiet PySem.F.plain_list_iadd _, codeAny_builtin PySem.F.entry_list_iadd ?_⟩
  rw [Around.under_plainId PySem.F.plain_list_iadd _]
  show wpAny _ A.in1 (Builtin.List.listExtendWith (.ref s.heap.objs.size) (.ref r) (.ref s.heap.objs.size)) _ _ _
  have hS : (s.heap.push { cls := .type "list", data := .seq ([] : List Value).toArray }).get? s.heap.objs.size = some { cls := .type "list", data := .seq #[] 0 } := Heap.get?_push_size _ rfl
  have fin' : ∀ (h' : Heap) (tk : Nat) (acc : Array Value) (c : Nat), (∀ b o, b ≠ s.heap.objs.size → (s.heap.push { cls := .type "list", data := .seq ([] : List Value).toArray }).get? b = some o → h'.get? b = some o) →
      h'.get? s.heap.objs.size = some { cls := .type "list", dict := Option.none, data := .seq acc c, slots := #[] } → ItemsOf Pv acc n → wpAny (model prog w) A (match Value.ref s.heap.objs.size with
      | Value.ref a => do
        match (← load a).data with
          | Data.seq xs _ => pure xs.toList
          | _ => unsupported "internal:collect"
      | _ => unsupported "internal:collect") Q E { s with heap := h', toks := tk } := fun h' tk acc c hk hS' hacc => by
    show wpAny _ A (load s.heap.objs.size >>= _) _ _ _
    refine wpAny_bind (wpAny_load hS' ?_)
    exact wpAny_pure (hQ h' tk acc (fun b o e => hk b o (Nat.ne_of_lt (Heap.lt_size e)) (Heap.get?_push_of_some _ e)) hacc)
  refine wpAny_mono (kdl_extend (A := A) (R := fun r s' => r = .ok (.ret (.ref s.heap.objs.size)) ∧ ∃ h' tk acc c, s' = { s with heap := h', toks := tk } ∧ (∀ b o, b ≠ s.heap.objs.size → (s.heap.push { cls := .type "list", data := .seq ([] : List Value).toArray }).get? b = some o → h'.get? b = some o) ∧
      h'.get? s.heap.objs.size = some { cls := .type "list", dict := Option.none, data := .seq acc c, slots := #[] } ∧ ItemsOf Pv acc n)
    (s := { s with heap := s.heap.push { cls := .type "list", data := .seq ([] : List Value).toArray } }) K hh (K.keep _ _ hok fun b _ o e => Heap.get?_push_of_some _ e) s.heap.objs.size hSr hSd (.ref s.heap.objs.size) 0 hS (fun h' tk acc' c' hk hS' hacc => ⟨rfl, h', tk, acc', c', rfl, hk, hS', hacc⟩) hn) (fun fin s' h => ?_) (fun e s' h => ?_)
  · cases fin with
    | done f =>
      obtain ⟨e, h', tk, acc, c, rfl, hk, hS', hacc⟩ := h
      cases e
      exact fin' h' tk acc c hk hS' hacc
    | again c' => exact ⟨h.1, codeAny_mono h.2 fun r s'' hr => by obtain ⟨rfl, h', tk, acc, c, rfl, hk, hS', hacc⟩ := hr; exact fin' h' tk acc c hk hS' hacc⟩
  · exact absurd h.1 (by simp)
theorem k11_code_tuple_new {Q₁ : Value → Shared → Prop} (K : KdlSrc prog w T r d n Pv OK) (hT : T = "dict_values") (hh : A.handled = none) (hok : OK s.heap) (hn : n ≤ sizeLine)
    (h : ∀ (h' : Heap) (tk : Nat) (acc : Array Value), (∀ b o, s.heap.get? b = some o → h'.get? b = some o) → ItemsOf Pv acc n →
      Q₁ (.ref h'.objs.size) { s with heap := h'.push { cls := .type "tuple", data := .seq acc }, toks := tk }) :
    codeAny (model prog w) A (.call (.builtin "tuple.__new__") ⟨[.type "tuple", .ref r], []⟩) (wants Q₁ E) s := by
  subst hT
  refine codeAny_of_tree ?_
  show wpAny _ A.in1 (do checkBuiltinCall "tuple.__new__" ⟨[.type "tuple", .ref r], []⟩; again (.builtin "tuple.__new__" ⟨[.type "tuple", .ref r], []⟩)) _ _ s
  refine wpAny_bind (wpAny_of_eq (PySem.F.newCall_tuple_1 _) (wpAny_pure ⟨plainId_quiet PySem.F.plain_tuple_new _, codeAny_builtin PySem.F.entry_tuple_new ?_⟩))
  rw [Around.under_plainId PySem.F.plain_tuple_new _]
  have hsub := sub_tuple_self
  have hinit := init_tuple_lookup
  have hmh := madeHere_tuple
  have hTI : s.TypeIs (.ref r) "dict_values" := K.type s hok
  have hh1 : A.in1.handled = none := hh
  wp_walk using wpAny_typeOf hTI, k11_collect (A := A.in1) K hh1 hok hn
  intro h' tk acc hk hacc
  show wpAny _ _ (Builtin.Tuple.tupleExact acc.toList.toArray >>= fun v => ret v) _ _ _
  unfold Builtin.Tuple.tupleExact
  refine wpAny_bind (wpAny_newObj_type ?_ (by show acc.toList.toArray.size ≤ sizeLine; simp only [Array.toArray_toList]; rw [hacc.1]; exact hn))
  refine wpAny_pure ?_
  have e : acc.toList.toArray = acc := by simp
  rw [e]
  exact h h' tk acc hk hacc
theorem k11_call_tuple {Q : Value → Shared → Prop} (K : KdlSrc prog w T r d n Pv OK) (hT : T = "dict_values") (hh : A.handled = none) (hok : OK s.heap) (hn : n ≤ sizeLine)
    (hQ : ∀ (h' : Heap) (tk : Nat) (acc : Array Value), (∀ b o, s.heap.get? b = some o → h'.get? b = some o) → ItemsOf Pv acc n →
      Q (.ref h'.objs.size) { s with heap := h'.push { cls := .type "tuple", data := .seq acc }, toks := tk }) :
    wpAny (model prog w) A (call (.type "tuple") [.ref r]) Q E s := by
  refine callType_codes (Q₁ := fun obj s₁ => s₁.TypeIs obj "tuple" ∧ Q obj s₁) PySem.F.called_tuple (PySem.F.typeCall_tuple_1 _) PySem.F.entry_object_init
    (k11_code_tuple_new (A := A.in1) K hT hh hok hn fun h' tk acc hk hacc => ⟨⟨_, Heap.get?_push_size _ rfl, rfl⟩, hQ h' tk acc hk hacc⟩) fun obj s₁ h₁ => ?_
  exact ⟨h₁.1, PySem.F.args_object_init_2 obj _, object_init_meets PySem.F.called_tuple.init.lookup PySem.F.called_tuple.made (by decide) prog w A.in1 _ s₁ ⟨h₁.1, rfl, h₁.2⟩⟩
end
end PySem.W
namespace K11
open PySem PySem.Spec PyProof.Rows L2
open C8 (Cal Met Mak)
section
variable {X : Cx} {pins : List (Addr × Obj)} {σ : L2.St} {H : Hp} {s : Shared}
/-- the keys' values -/
def keysV (kvs : List (Key × V)) : List V := kvs.map fun kv => kV kv.1
def valsV (kvs : List (Key × V)) : List V := kvs.map (·.2)
theorem star_dk {a : Addr} {kvs : List (Key × V)} {E : Value → Shared → Prop} {Q : List Value → Shared → Prop} (hc : X.calm = true) (I : Inv X pins σ H s) (h : Rd H a (.dK kvs)) (hQ : ∀ us s', Inv X pins σ H s' → Vals (keysV kvs) us → Q us s') : PySem.W.StarOf (model X.prog X.w) X.A E (.ref a) Q s := by
  obtain ⟨z, lo, vs, rel, dd⟩ := dk_rd I.hok h
  obtain ⟨ep, hat⟩ := dd.dictAt
  have ek : (kvs.map fun kv => kV kv.1) = vs.map fun p => kV p.1 := by
    have e := congrArg (List.map kV) rel.keys
    rw [List.map_map, List.map_map] at e
    exact e
  have hT : s.TypeIs (.ref a) "dict" := dd.typeIs
  have q : wpAny (model X.prog X.w) X.A (collect (.ref a)) Q E s := by
    refine PySem.W.k11_collect (PySem.W.kdl_dict (knd := mixKind X.prog X.w) (kvs := vs) (ep := ep) lo) (I.ok.hd hc) hat (by rw [← rel.length]; exact z) fun h' tk acc hk hacc => ?_
    have hv : Vals (vs.map fun p => kV p.1) acc.toList := keys_at (by rw [Array.length_toList]; exact hacc.1) fun j v e => hacc.2 j v (by rw [← Array.getElem?_toList]; exact e)
    exact hQ _ _ (I.kept (t' := tk) hk) (by unfold keysV; rw [ek]; exact hv)
  unfold PySem.W.StarOf notIterableAtAll
  exact wpAny_bind (wpAny_specialOf hT PySem.F.slot_dict_iter.lookup (wpAny_pure ⟨rfl, q⟩))
/-- *e in a display, e a dict: its keys -/
def tStarD (te : TE) (t : TA) : TA := fun σ H Q => te σ H fun x H1 => ∃ a kvs, x = V.ref a ∧ Rd H1 a (.dK kvs) ∧ t σ H1 fun ys H2 => Q (keysV kvs ++ ys) H2
theorem pa_starD {e : Expr} {es : List Expr} {te : TE} {t : TA} {p : Pos} (hc : X.calm = true) (he : PE X e te) (hr : PA X es t) (hs : starEach (.Starred e p :: es) X.env = (true, eval e X.env) :: starEach es X.env := by rfl) : PA X (.Starred e p :: es) (tStarD te t) := by
  refine ⟨fun pos pins s σ H Q I h => ?_⟩
  refine PySem.W.items_star (thn (he.run pins s σ H _ I h) fun v s1 ⟨y, H1, I1, ry, a, xs, ey, hx, q⟩ => ?_) hs
  subst ey
  obtain rfl : v = Value.ref a := ry
  refine star_dk hc I1 hx fun us s2 I2 rv => ?_
  exact thn (hr.run pos pins s2 σ H1 _ I2 q) fun ws s3 ⟨vs, H3, I3, r3, q3⟩ => ⟨keysV xs ++ vs, H3, I3, rv.append r3, q3⟩

/-! ### list(d.values()), tuple(d.values()) -/
theorem vals_at {kvs : List (Key × V)} {vs : List (Key × Value)} (kv : KV kvs vs) : ∀ {us : List Value}, us.length = vs.length → (∀ (j : Nat) (v : Value), us[j]? = some v → ∃ k, vs[j]? = some (k, v)) → Vals (valsV kvs) us := by
  unfold KV at kv
  induction kv with
  | nil =>
    intro us h _
    cases us with
    | nil => exact .nil
    | cons u us => simp at h
  | @cons p q ps qs r t ih =>
    intro us h hj
    cases us with
    | nil => simp at h
    | cons u us =>
      obtain ⟨k, e⟩ := hj 0 u rfl
      have e' : q = (k, u) := Option.some.inj e
      have r2 : RelV p.2 u := by have := r.2; rw [e'] at this; exact this
      exact .cons r2 (ih (by simpa using h) fun j v e => hj (j + 1) v (by simpa using e))
def tListVals (te : TE) : TE := fun σ H Q => te σ H fun x H1 => ∃ (d : Addr) (kvs : List (Key × V)), x = .ref d ∧ H1 d = some (.dK kvs) ∧ ∀ p, H1 p = none → Q (.ref p) (upd H1 p (.lst (valsV kvs)))
def tTupVals (te : TE) : TE := fun σ H Q => te σ H fun x H1 => ∃ (d : Addr) (kvs : List (Key × V)), x = .ref d ∧ H1 d = some (.dK kvs) ∧ ∀ p, H1 p = none → Q (.ref p) (upd H1 p (.tup (valsV kvs)))
variable {e : Expr} {te : TE} {p apos cpos pos : Pos}
theorem pe_listVals (hc : X.calm = true) (he : PE X e te) (hg : Gl X "list") (hm : X.mg "list" = none) (hbase : attributeBase e "values" X.env (eval e X.env) = eval e X.env := by rfl) (hline : (apos.endLine == cpos.line) = true := by rfl)
    (hs : starEach [.Call (.Attribute e "values" apos) [] [] cpos] X.env = (false, eval (.Call (.Attribute e "values" apos) [] [] cpos) X.env) :: starEach [] X.env := by rfl) :
    PE X (.Call (.Name "list" p) [.Call (.Attribute e "values" apos) [] [] cpos] [] pos) (tListVals te) := by
  refine ⟨fun pins s σ H Q I hq => ?_⟩
  refine wpAny_Call_Name_kw (ld_blt I hg hm (show bootBuiltins "list" = some (.type "list") by decide +kernel) ?_)
  refine PyProof.Rows.callWith_type1 ?_ hs rfl
  rw [hs]
  show wpAny _ _ (spliced ((false, eval (.Call (.Attribute e "values" apos) [] [] cpos) X.env) :: backTo pos (starEach [] X.env))) _ _ s
  refine Calls.spliced_cons ?_
  refine wpAny_Call_method (T := "dict") (id := "dict.values") hbase rfl hline PySem.F.plainAttrs_dict PySem.F.slot_dict_values PySem.F.type_dict_values (thn (he.run pins s σ H _ I hq) fun u s1 ⟨x, H1, I1, rx, d, kvs, ex, hd, q⟩ => ?_)
  subst ex
  obtain rfl : u = Value.ref d := rx
  obtain ⟨hz, hs0, vs, kv, hdo⟩ := I1.hok d _ hd
  obtain ⟨ep, hat⟩ := hdo.dictAt
  have lk : kvs.length = vs.length := Paired.length kv
  have I2 : Inv X pins σ H1 { s1 with heap := s1.heap.push { cls := .type "dict_values", data := .fields #[.ref d] } } := I1.kept (t' := s1.toks) fun b ob q => Heap.get?_push_of_some _ q
  refine ⟨hdo.typeIs, hdo.mapOf.noDict, ?_⟩
  show wpAny _ _ (callWith cpos (.builtin "dict.values") [.ref d] [] []) _ X.xe s1
  refine method_meetsIn PySem.F.slot_dict_values PySem.F.entry_dict_values rfl (PySem.evalArgs_none ⟨rfl, hdo.typeIs, PySem.F.args_dict_values_1 _, _, meets_dict_values (mixKind X.prog X.w) d hs0, ⟨vs, hdo⟩, ?_⟩)
  refine Calls.spliced_nil ?_
  refine PySem.W.kdl_call (PySem.W.kdl_values (knd := mixKind X.prog X.w) (kvs := vs) (ep := ep)) (I1.ok.hd hc) ⟨⟨_, Heap.get?_push_size _ rfl, rfl, rfl⟩, hat.push _⟩ (by omega) fun h' tk acc c' hk hD hacc => ?_
  have hv : Vals (valsV kvs) acc.toList := vals_at kv (by rw [Array.length_toList]; exact hacc.1) fun j v e => hacc.2 j v (by rw [← Array.getElem?_toList]; exact e)
  exact ⟨.ref _, _, I2.laid (t' := tk) hk (Nat.le_refl _) (show ObjOk X.prog X.w _ _ _ (.lst (valsV kvs)) from ⟨by unfold valsV; rw [List.length_map]; exact hz, acc.toList, c', hv, by rw [Array.toArray_toList]; exact hD⟩), rfl, q _ (I2.hok.fresh (Nat.le_refl _))⟩
theorem pe_tupVals (hc : X.calm = true) (he : PE X e te) (hg : Gl X "tuple") (hm : X.mg "tuple" = none) (hbase : attributeBase e "values" X.env (eval e X.env) = eval e X.env := by rfl) (hline : (apos.endLine == cpos.line) = true := by rfl)
    (hs : starEach [.Call (.Attribute e "values" apos) [] [] cpos] X.env = (false, eval (.Call (.Attribute e "values" apos) [] [] cpos) X.env) :: starEach [] X.env := by rfl) :
    PE X (.Call (.Name "tuple" p) [.Call (.Attribute e "values" apos) [] [] cpos] [] pos) (tTupVals te) := by
  refine ⟨fun pins s σ H Q I hq => ?_⟩
  refine wpAny_Call_Name_kw (ld_blt I hg hm (show bootBuiltins "tuple" = some (.type "tuple") by decide +kernel) ?_)
  refine PyProof.Rows.callWith_type1 ?_ hs rfl
  rw [hs]
  show wpAny _ _ (spliced ((false, eval (.Call (.Attribute e "values" apos) [] [] cpos) X.env) :: backTo pos (starEach [] X.env))) _ _ s
  refine Calls.spliced_cons ?_
  refine wpAny_Call_method (T := "dict") (id := "dict.values") hbase rfl hline PySem.F.plainAttrs_dict PySem.F.slot_dict_values PySem.F.type_dict_values (thn (he.run pins s σ H _ I hq) fun u s1 ⟨x, H1, I1, rx, d, kvs, ex, hd, q⟩ => ?_)
  subst ex
  obtain rfl : u = Value.ref d := rx
  obtain ⟨hz, hs0, vs, kv, hdo⟩ := I1.hok d _ hd
  obtain ⟨ep, hat⟩ := hdo.dictAt
  have lk : kvs.length = vs.length := Paired.length kv
  have I2 : Inv X pins σ H1 { s1 with heap := s1.heap.push { cls := .type "dict_values", data := .fields #[.ref d] } } := I1.kept (t' := s1.toks) fun b ob q => Heap.get?_push_of_some _ q
  refine ⟨hdo.typeIs, hdo.mapOf.noDict, ?_⟩
  show wpAny _ _ (callWith cpos (.builtin "dict.values") [.ref d] [] []) _ X.xe s1
  refine method_meetsIn PySem.F.slot_dict_values PySem.F.entry_dict_values rfl (PySem.evalArgs_none ⟨rfl, hdo.typeIs, PySem.F.args_dict_values_1 _, _, meets_dict_values (mixKind X.prog X.w) d hs0, ⟨vs, hdo⟩, ?_⟩)
  refine Calls.spliced_nil ?_
  refine PySem.W.k11_call_tuple (s := { s1 with heap := s1.heap.push { cls := .type "dict_values", data := .fields #[.ref d] } }) (PySem.W.kdl_values (knd := mixKind X.prog X.w) (kvs := vs) (ep := ep)) rfl (I1.ok.hd hc) ⟨⟨_, Heap.get?_push_size _ rfl, rfl, rfl⟩, hat.push _⟩ (by omega) fun h' tk acc hk hacc => ?_
  have hv : Vals (valsV kvs) acc.toList := vals_at kv (by rw [Array.length_toList]; exact hacc.1) fun j v e => hacc.2 j v (by rw [← Array.getElem?_toList]; exact e)
  have I3 : Inv X pins σ H1 { s1 with heap := h', toks := tk } := I2.kept (t' := tk) hk
  refine ⟨.ref h'.objs.size, upd H1 h'.objs.size (.tup (valsV kvs)), I3.laid (t' := tk) (fun c o e => Heap.get?_push_of_some _ e) (Nat.le_refl _) (show ObjOk X.prog X.w _ _ _ (.tup (valsV kvs)) from ⟨by unfold valsV; rw [List.length_map]; exact hz, acc.toList, hv, ?_⟩), rfl, q _ (I3.hok.fresh (Nat.le_refl _))⟩
  rw [Array.toArray_toList]
  exact IsTup.new _ _
end
end K11
end
section
set_option Elab.async false
set_option linter.all false
set_option maxRecDepth 100000
namespace K11
open PySem PySem.Spec PyProof.Rows L2
open C8 (Cal Met Mak)
section
variable {P : Program} {w : World} {K : PySem.W.Frag} {mg : Str → Option Value} {base : Heap}
/-! ### dropped -/
theorem cts_take_succ (r : List (List Nat)) (p i : Nat) (d : List Nat) (h : r[p + i]? = some d) (t : Nat) : Ch.cts ((r.drop p).take (i + 1)) t = Ch.cts ((r.drop p).take i) t + d.count t :=
  cts_succ (r.drop p) i d (by rw [List.getElem?_drop]; exact h) t
/-- the drops of a knot, front and turn, one address each -/
theorem ds_addr {H : Hp} {f t : Addr} {k : Ch.Kn} (g3 : RowAt H f k.fr) (g4 : RowAt H t k.tu) :
    ∃ (xs ys : List V) (A : Nat → Addr), H f = some (.tup xs) ∧ H t = some (.tup ys) ∧ xs.length = k.fr.length ∧ ys.length = k.tu.length ∧ xs ++ ys = (List.range k.len).map (fun i => V.ref (A i)) ∧ (∀ i, ys[i]? = if i < k.tu.length then some (V.ref (A (k.fr.length + i))) else none) ∧ ∀ i d, k.ds[i]? = some d → DropAt H (A i) d := by
  obtain ⟨as, a1, a2⟩ := g3
  obtain ⟨bs, b1, b2⟩ := g4
  refine ⟨_, _, fun i => if i < k.fr.length then as i else bs (i - k.fr.length), a1, b1, by simp, by simp, ?_, fun i => ?_, fun i d h => ?_⟩
  · refine List.ext_getElem? fun i => ?_
    unfold Ch.Kn.len
    by_cases c : i < k.fr.length
    · rw [List.getElem?_append_left (by simpa using c), List.getElem?_map, List.getElem?_map, List.getElem?_range c, List.getElem?_range (by omega)]
      simp [c]
    · by_cases c2 : i < k.fr.length + k.tu.length
      · rw [List.getElem?_append_right (by simpa using c), List.getElem?_map, List.getElem?_map, List.getElem?_range c2, List.length_map, List.length_range, List.getElem?_range (by omega)]
        simp [c]
      · rw [List.getElem?_eq_none (by simp; omega), List.getElem?_eq_none (by simp; omega)]
  · by_cases c : i < k.tu.length
    · rw [List.getElem?_map, List.getElem?_range c, if_pos c]
      simp
      intro h; omega
    · rw [if_neg c, List.getElem?_eq_none (by simpa using c)]
  · unfold Ch.Kn.ds at h
    by_cases c : i < k.fr.length
    · rw [List.getElem?_append_left c] at h
      simp only [if_pos c]; exact a2 i d h
    · rw [List.getElem?_append_right (by omega)] at h
      simp only [if_neg c]; exact b2 _ d h
theorem cut_take {xs : List V} {p x : Nat} (hp : p ≤ xs.length) : cutV xs (some (p : Nat)) (some ((p : Int) + (x : Nat))) = (xs.drop p).take x := by
  have e1 : ((p : Int) + (x : Nat)) = ((p + x : Nat) : Int) := by omega
  unfold cutV
  rw [e1]
  have h1 : HT.sIx xs.length 0 (some ((p : Nat) : Int)) = min p xs.length := HT.sIx_nat _ _ _
  have h2 : HT.sIx xs.length xs.length (some ((p + x : Nat) : Int)) = min (p + x) xs.length := HT.sIx_nat _ _ _
  rw [h1, h2, Nat.min_eq_left hp]
  refine List.ext_getElem? fun i => ?_
  by_cases c : i < x ∧ p + i < xs.length
  · rw [List.getElem?_take_of_lt (by omega), List.getElem?_take_of_lt (by omega)]
  · rw [List.getElem?_eq_none (by rw [List.length_take, List.length_drop]; omega), List.getElem?_eq_none (by rw [List.length_take, List.length_drop]; omega)]
def sp_Net_dropped (K : PySem.W.Frag) : Sp := fun vs H Q _ => ∃ (a : Addr) (N : Ch.Nt) (v p x : Nat), vs = [.ref a, vn v, .int (p : Nat), .int (x : Nat)] ∧ NetAt K H a N ∧ v < N.length ∧ (Ch.kn N v).tu ≠ [] ∧ p < (Ch.kn N v).len ∧ (Ch.kn N v).len ≤ 100 ∧ (∀ d ∈ (Ch.kn N v).ds, ∀ x ∈ d, x < 8) ∧
  ∀ q ks H', H q = none → Same H H' → DI H' q ks (fun t => (Ch.fall (Ch.kn N v) p t x : Nat)) → (∀ t ∈ ks, ∃ d ∈ (Ch.kn N v).ds, t ∈ d) → Q (.ref q) H'
theorem sc_Net_dropped : FnScope ["self", "name", "place", "many", "rows", "drop", "left", "front", "turn", "found", "whole", "rest", "at"] ["self", "name", "place", "many"] d_Net_dropped.scope := ⟨rfl, rfl, rfl, by decide +kernel, rfl, by decide +kernel, by decide +kernel⟩
theorem ok_Net_dropped (T : Txt K mg) (c_count : Cal P w K mg base 1 "count" sp_count []) : Met P w K mg base 2 (He.ga K "Net") "dropped" (sp_Net_dropped K) [] := by
  refine met_mk d_Net_dropped T.d_Net_dropped T.c_Net T.t_Net_dropped sc_Net_dropped (fun vs H Q E h => ?_) (fun _ _ _ _ _ _ us hl => match us, hl with | [_, _, _, _], _ => rfl) (fun cdv A outer s H vs Q E hr h => ?_)
  · obtain ⟨_, _, _, _, _, rfl, _⟩ := h
    rfl
  · have hu := hu_of hr
    obtain ⟨a, N, v, p, x, rfl, hN, hv, ht, hp, h100, h8, k⟩ := h
    obtain ⟨j, dx, kd, id, ot, nl, O⟩ := id hN
    obtain ⟨kv, f, tu, g1, g2, g3, g4⟩ := O.kn.get hv
    obtain ⟨xs, ys, A', a1, a2, a3, a4, a5, a6, a7⟩ := ds_addr g3 g4
    generalize hkn : Ch.kn N v = kn at *
    have hl : kn.len = kn.fr.length + kn.per := rfl
    have h0 : 0 < kn.per := List.length_pos_iff.mpr ht
    have hpe : kn.per = kn.tu.length := rfl
    have dsl : kn.ds.length = kn.len := Ch.ds_length
    refine ⟨_, (pss_cons (ps_asg (pe_dget hu (pe_fld (pv 0) rfl) (pv 1) (fun _ _ => rfl)) (pg_tup rfl (pgs_cons (pg_name (i := 7) sc_Net_dropped.nd rfl (Or.inl rfl)) (pgs_cons (pg_name (i := 8) sc_Net_dropped.nd rfl (Or.inl rfl)) pgs_nil))))
      (pss_cons (ps_par (i := 9) (j := 6) rfl sc_Net_dropped.nd rfl rfl (by decide) rfl rfl (pa_cons pe_dnewK (pa_cons (pv 3) pa_nil)) (by rfl))
      (pss_cons (ps_set (i := 4) sc_Net_dropped.nd rfl (Or.inl rfl) (pe_slice sl_list (pe_lst (StX.pa_star (pv 7) (StX.pa_star (pv 8) pa_nil))) (po_some (pv 2)) (po_some (pe_op op_add (pv 2) (pv 3)))))
      (pss_cons (ps_for PassesOwn.never rfl (pi_list (pv 4)) (pg_name (i := 5) sc_Net_dropped.nd rfl (Or.inl rfl))
      (pss_one (ps_expr (C8.pe_c c_count hr (by decide) rfl (pa_cons (pv 9) (pa_cons (pv 5) (pa_cons pe_int pa_nil)))))))
      (pss_cons (ps_set (i := 6) sc_Net_dropped.nd rfl (Or.inl rfl) (pe_op op_sub (pv 3) (pe_callB call_len_seq (by rfl) T.f_len (by decide +kernel) (pa_cons (pv 4) pa_nil))))
      (pss_cons (ps_if (pt_cmpR op_gt (pv 6) pe_int (nomark _))
      (pss_cons (ps_par (i := 10) (j := 11) rfl sc_Net_dropped.nd rfl rfl (by decide) rfl rfl (pa_cons (pe_op op_fdivW (pv 6) (pe_callB call_len_seq (by rfl) T.f_len (by decide +kernel) (pa_cons (pv 8) pa_nil))) (pa_cons (pe_op op_mod (pv 6) (pe_callB call_len_seq (by rfl) T.f_len (by decide +kernel) (pa_cons (pv 8) pa_nil))) pa_nil)) (by rfl))
        (pss_one (ps_for PassesOwn.never rfl (pi_enumT rfl T.f_enumerate (pa_cons (pv 8) pa_nil)) (pg_tup rfl (pgs_cons (pg_name (i := 12) sc_Net_dropped.nd rfl (Or.inl rfl)) (pgs_cons (pg_name (i := 5) sc_Net_dropped.nd rfl (Or.inl rfl)) pgs_nil)))
        (pss_one (ps_expr (C8.pe_c c_count hr (by decide) rfl (pa_cons (pv 9) (pa_cons (pv 5) (pa_cons (pe_op op_add (pv 10) (pe_ifExp (pt_cmpR op_lt (pv 12) (pv 11) (nomark _)) pe_int pe_int)) pa_nil)))))))))
      pss_nil)
      (pss_one (ps_ret (pv 9))))))))), ?_⟩
    -- front, turn = self.knots[name]; found, left = {}, many
    refine ⟨_, rfl, a, _, dx, _, _, rfl, O.ob, T.c_Net, T.n_Net_knots, rfl, _, rfl, kd, _, rfl, g1, kv, _, rfl, SqT.of g2, rfl, _, _, rfl, _, _, rfl, rfl, fun q hq => ⟨_, rfl, _, _, rfl, ?_⟩⟩
    have s0 : Same H (upd H q (.dK [])) := Same.new hq
    -- rows = [*front, *turn][place:place + many]
    refine ⟨_, rfl, f, _, rfl, .inl (SqT.of (s0 _ _ a1)), _, rfl, tu, _, rfl, .inl (SqT.of (s0 _ _ a2)), ?_⟩
    refine ⟨by rw [List.append_nil, a5, List.length_map, List.length_range]; exact sz5' (by omega), fun l1 hl1 => ⟨_, rfl, (p : Nat), rfl, _, rfl, _, rfl, _, _, rfl, rfl, (p : Int) + (x : Nat), rfl, l1, _, rfl, SqL.of upd_same, fun l2 hl2 => ?_⟩⟩
    rw [List.append_nil, a5, cut_take (by rw [List.length_map, List.length_range]; omega)]
    have nl1 : q ≠ l1 := fun e => by rw [← e, upd_same] at hl1; cases hl1
    -- the rows
    generalize hrw : (((List.range kn.len).map fun i => V.ref (A' i)).drop p).take x = rw' at *
    have rl : rw'.length = min x (kn.len - p) := by rw [← hrw, List.length_take, List.length_drop, List.length_map, List.length_range]
    have rget : ∀ i, i < rw'.length → rw'[i]? = some (V.ref (A' (p + i))) := fun i hi => by
      rw [← hrw, List.getElem?_take_of_lt (by omega), List.getElem?_drop, List.getElem?_map, List.getElem?_range (by omega)]; rfl
    have nq2 : q ≠ l2 := fun e => by
      rw [← e, upd_ne nl1, upd_same] at hl2; cases hl2
    have n12 : l1 ≠ l2 := fun e => by
      rw [← e, upd_same] at hl2; cases hl2
    have hl20 : H l2 = none := by
      rw [upd_ne n12.symm, upd_ne nq2.symm] at hl2; exact hl2
    have hl10 : H l1 = none := by
      rw [upd_ne nl1.symm] at hl1; exact hl1
    generalize hH2 : upd (upd (upd H q (.dK [])) l1 _) l2 (.lst rw') = H2 at *
    have s2 : Same H H2 := by rw [← hH2]; exact (((Same.refl H).mut hq).mut hl10).mut hl20
    have e2 : H2 l2 = some (.lst rw') := by rw [← hH2, upd_same]
    have d2 : H2 q = some (.dK (dk [] fun t => .int ((fun _ => 0 : Nat → Int) t))) := by rw [← hH2, upd_ne nq2, upd_ne nl1, upd_same]; rfl
    clear hH2
    -- for drop in rows
    refine ⟨_, rfl, l2, rfl, ⟨_, SqL.of e2⟩, for_list (K := K) (a := l2) (xs := rw') (fun i σ H' => ∃ ks g v5, σ = [some (.ref a), some (vn v), some (.int (p : Nat)), some (.int (x : Nat)), some (.ref l2), v5, some (.int (x : Nat)), some (.ref f), some (.ref tu), some (.ref q), none, none, none] ∧ Same H H' ∧ H' l2 = some (.lst rw') ∧ DI H' q ks g ∧ (∀ t, g t = (Ch.cts ((kn.ds.drop p).take i) t : Nat)) ∧ ∀ t ∈ ks, ∃ d ∈ kn.ds, t ∈ d) ?_ ?_ ?_ ?_⟩
    · exact ⟨[], fun _ => 0, none, rfl, s2, e2, DIk.nil.at_ d2, fun t => by simp [Ch.cts], fun t h => by cases h⟩
    · rintro i σ H' _ ⟨_, _, _, _, _, e, _⟩
      exact SqL.of e
    · rintro i y σ H' hy ⟨ks, g, v5, rfl, s', e', D, hg, hks⟩
      have hi : i < rw'.length := (List.getElem?_eq_some_iff.mp hy).1
      rw [rget i hi] at hy
      cases hy
      have hpi : p + i < kn.ds.length := by rw [dsl]; omega
      obtain ⟨d, hd⟩ : ∃ d, kn.ds[p + i]? = some d := ⟨_, List.getElem?_eq_getElem hpi⟩
      have hdm := List.mem_of_getElem? hd
      have hD := (a7 _ _ hd).mono s'
      have nq : A' (p + i) ≠ q := ne_of hD D.at_ (by intro z; cases z)
      refine ⟨_, rfl, _, rfl, q, A' (p + i), ks, d, g, 1, rfl, D.at_, D.k, hD, h8 d hdm, fun ks' hm hk' => ?_⟩
      refine ⟨ks', _, _, rfl, s'.mut hq, by rw [upd_ne nq2.symm]; exact e', hk'.at_ upd_same, fun t => ?_, fun t ht => ?_⟩
      · rw [hg, cts_take_succ _ _ _ _ hd]; push_cast; omega
      · rcases (hm t).mp ht with h | h
        · exact hks t h
        · exact ⟨d, hdm, h⟩
    · rintro σ H' ⟨ks, g, v5, rfl, s', e', D, hg, hks⟩
      -- left = many - len(rows)
      refine ⟨_, rfl, _, rfl, l2, _, rfl, .inl (SqL.of e'), _, _, rfl, rfl, ?_⟩
      refine ⟨_, rfl, _, _, rfl, rfl, _, rfl, ?_⟩
      refine ite2 (fun c => ?_) (fun c => ?_)
      · have c' : (0 : Int) < (x : Nat) - (rw'.length : Nat) := of_decide_eq_true c
        have hrl : rw'.length = kn.len - p := by omega
        let lf : Int := ((x : Nat) : Int) - (rw'.length : Nat)
        have hlf' : lf = ((x - (kn.len - p) : Nat) : Int) := by show ((x : Nat) : Int) - (rw'.length : Nat) = _; omega
        have y0 : (0 : Int) < ((ys.length : Nat) : Int) := by omega
        have y10 : ((ys.length : Nat) : Int).natAbs < 2 ^ 10 := by rw [a4]; omega
        refine ⟨_, rfl, _, rfl, tu, _, rfl, .inr (SqT.of (s' _ _ a2)), lf, ((ys.length : Nat) : Int), rfl, rfl, wide_div (b := 10) y0 y10 (by decide) (by decide), _, rfl, _, rfl, tu, _, rfl, .inr (SqT.of (s' _ _ a2)), lf, ((ys.length : Nat) : Int), rfl, rfl, y0, _, _, rfl, ?_⟩
        refine ⟨_, rfl, tu, _, rfl, SqT.of (s' _ _ a2), ?_⟩
        let W : Int := lf / (ys.length : Nat)
        let R : Int := lf % (ys.length : Nat)
        have hW : W = (((x - (kn.len - p)) / kn.per : Nat) : Int) := by show lf / (ys.length : Nat) = _; rw [hlf', a4]; push_cast; rfl
        have hR : R = (((x - (kn.len - p)) % kn.per : Nat) : Int) := by show lf % (ys.length : Nat) = _; rw [hlf', a4]; push_cast; rfl
        refine fr_it (walk_enumT (K := K) (a := tu) (xs := ys)) (fun i σ H' => ∃ ks g v5 v12, σ = [some (.ref a), some (vn v), some (.int (p : Nat)), some (.int (x : Nat)), some (.ref l2), v5, some (.int lf), some (.ref f), some (.ref tu), some (.ref q), some (.int W), some (.int R), v12] ∧ Same H H' ∧ DI H' q ks g ∧ (∀ t, g t = (Ch.cts (kn.ds.drop p) t : Nat) + W * (Ch.cts (kn.tu.take i) t : Nat) + (Ch.cts (kn.tu.take (min i R.toNat)) t : Nat)) ∧ ∀ t ∈ ks, ∃ d ∈ kn.ds, t ∈ d) ?_ ?_ ?_ ?_
        · refine ⟨ks, g, v5, none, rfl, s', D, fun t => ?_, hks⟩
          rw [hg, List.take_of_length_le (by rw [List.length_drop]; omega)]
          simp [Ch.cts]
        · rintro i σ H' _ ⟨_, _, _, _, _, s', _⟩
          exact SqT.of (s' _ _ a2)
        · rintro i y σ H4 H5 hi ⟨ks, g, v5, v12, rfl, s4, D, hg, hks⟩ ⟨T', y1, y2, rfl, hT, rfl, e1, e3⟩
          cases e1
          replace e3 : ys[i]? = some _ := e3
          rw [a6, if_pos (by omega)] at e3
          cases e3
          have hki : kn.fr.length + i < kn.ds.length := by rw [dsl]; omega
          obtain ⟨d, hd⟩ : ∃ d, kn.tu[i]? = some d := ⟨_, List.getElem?_eq_getElem (show i < kn.tu.length by omega)⟩
          have hd2 : kn.ds[kn.fr.length + i]? = some d := by unfold Ch.Kn.ds; rw [List.getElem?_append_right (by omega), Nat.add_sub_cancel_left]; exact hd
          have hdm := List.mem_of_getElem? hd2
          have sT : Same H4 (upd H4 T' (.tup [.int (i : Nat), .ref (A' (kn.fr.length + i))])) := Same.new hT
          have D' := D.mono sT
          have hD := ((a7 _ _ hd2).mono s4).mono sT
          have nq : A' (kn.fr.length + i) ≠ q := ne_of hD D'.at_ (by intro z; cases z)
          refine ⟨T', _, rfl, SqT.of upd_same, rfl, _, _, rfl, _, _, rfl, rfl, ?_⟩
          refine ⟨_, rfl, _, rfl, _, rfl, _, rfl, _, rfl, _, _, rfl, rfl, _, rfl, ?_⟩
          have go : ∀ z : Int, z = (if i < R.toNat then 1 else 0) → sp_count [.ref q, .ref (A' (kn.fr.length + i)), .int (W + z)] (upd H4 T' (.tup [.int (i : Nat), .ref (A' (kn.fr.length + i))]))
              (fun _ H6 => ∃ ks g v5 v12, [some (V.ref a), some (vn v), some (.int (p : Nat)), some (.int (x : Nat)), some (.ref l2), some (.ref (A' (kn.fr.length + i))), some (.int lf), some (.ref f), some (.ref tu), some (.ref q), some (.int W), some (.int R), some (.int (i : Nat))] = [some (V.ref a), some (vn v), some (.int (p : Nat)), some (.int (x : Nat)), some (.ref l2), v5, some (.int lf), some (.ref f), some (.ref tu), some (.ref q), some (.int W), some (.int R), v12] ∧ Same H H6 ∧ DI H6 q ks g ∧ (∀ t, g t = (Ch.cts (kn.ds.drop p) t : Nat) + W * (Ch.cts (kn.tu.take (i + 1)) t : Nat) + (Ch.cts (kn.tu.take (min (i + 1) R.toNat)) t : Nat)) ∧ ∀ t ∈ ks, ∃ d ∈ kn.ds, t ∈ d) (fun _ _ _ => False) := fun z hz => by
            refine ⟨q, A' (kn.fr.length + i), ks, d, g, W + z, rfl, D'.at_, D'.k, hD, h8 d hdm, fun ks' hm hk' => ?_⟩
            refine ⟨ks', _, _, _, rfl, (s4.trans sT).mut hq, hk'.at_ upd_same, fun t => ?_, fun t ht => ?_⟩
            · rw [hg, cts_succ _ _ _ hd, hz]
              by_cases c : i < R.toNat
              · rw [if_pos c, Nat.min_eq_left (show i ≤ R.toNat by omega), Nat.min_eq_left (show i + 1 ≤ R.toNat by omega), cts_succ _ _ _ hd]
                push_cast; grind
              · rw [if_neg c, Nat.min_eq_right (show R.toNat ≤ i by omega), Nat.min_eq_right (show R.toNat ≤ i + 1 by omega)]
                push_cast; grind
            · rcases (hm t).mp ht with h | h
              · exact hks t h
              · exact ⟨d, hdm, h⟩
          have hR0 : 0 ≤ R := by rw [hR]; omega
          refine ite2 (fun c => ?_) (fun c => ?_)
          · have c' : ((i : Nat) : Int) < R := of_decide_eq_true c
            exact ⟨W, 1, rfl, rfl, go 1 (by rw [if_pos (by omega)])⟩
          · have c' : ¬ ((i : Nat) : Int) < R := fun z => c (decide_eq_true z)
            exact ⟨W, 0, rfl, rfl, go 0 (by rw [if_neg (by omega)])⟩
        · rintro σ H4 ⟨ks, g, v5, v12, rfl, s4, D, hg, hks⟩
          refine ⟨_, rfl, k q ks H4 hq s4 ?_ hks⟩
          have e : g = fun t => ((Ch.fall kn p t x : Nat) : Int) := by
            funext t
            have f1 := Ch.fall_split (k := kn) (p := p) (u := t) hp (x := x) (by omega)
            have f2 := Ch.fall_fr (k := kn) (u := t) ht (x - (kn.len - p))
            have hRl : R.toNat ≤ ys.length := by
              have : (x - (kn.len - p)) % kn.per < kn.per := Nat.mod_lt _ h0
              omega
            rw [hg, f1, f2, hW, List.take_of_length_le (by omega), Nat.min_eq_right hRl]
            have e3 : R.toNat = (x - (kn.len - p)) % kn.per := by rw [hR]; exact Int.toNat_natCast _
            rw [e3]
            show _ = ((Ch.cts (kn.ds.drop p) t + ((x - (kn.len - p)) / kn.per * Ch.cts kn.tu t + Ch.cts (kn.tu.take ((x - (kn.len - p)) % kn.per)) t) : Nat) : Int)
            push_cast; omega
          rw [← e]; exact D
      · have c' : ¬ (0 : Int) < (x : Nat) - (rw'.length : Nat) := fun z => c (decide_eq_true z)
        have hrl : rw'.length = x := by omega
        refine ⟨_, rfl, k q ks H' hq s' ?_ hks⟩
        have e : g = fun t => ((Ch.fall kn p t x : Nat) : Int) := by
          funext t
          rw [hg, Ch.fall_lin _ (by omega), hrl]
        rw [← e]; exact D
end
end K11
end
section
set_option Elab.async false
set_option linter.all false
set_option maxRecDepth 100000
namespace K11
open PySem PySem.Spec PyProof.Rows L2
open C8 (Cal Met Mak)
section
variable {P : Program} {w : World} {K : PySem.W.Frag} {mg : Str → Option Value} {base : Heap}
/-! ### matrices -/
def IRow (H : Hp) (a : Addr) (m : Nat) (x : Nat → Int) : Prop := H a = some (.lst ((List.range m).map fun j => .int (x j)))
def rws (n : Nat) (as : Nat → Addr) : List V := (List.range n).map fun i => V.ref (as i)
def MatOf (H : Hp) (a : Addr) (n m : Nat) (as : Nat → Addr) (T : Nat → Nat → Int) : Prop := H a = some (.lst (rws n as)) ∧ ∀ i, i < n → IRow H (as i) m (T i)
def MatAt (H : Hp) (a : Addr) (n m : Nat) (T : Nat → Nat → Int) : Prop := ∃ as : Nat → Addr, MatOf H a n m as T
theorem IRow.mono {H H' : Hp} {a : Addr} {m : Nat} {x : Nat → Int} (s : Same H H') (h : IRow H a m x) : IRow H' a m x := s _ _ h
theorem MatOf.mono {H H' : Hp} {a : Addr} {n m : Nat} {as : Nat → Addr} {T : Nat → Nat → Int} (s : Same H H') (h : MatOf H a n m as T) : MatOf H' a n m as T := ⟨s _ _ h.1, fun i hi => (h.2 i hi).mono s⟩
theorem MatAt.mono {H H' : Hp} {a : Addr} {n m : Nat} {T : Nat → Nat → Int} (s : Same H H') (h : MatAt H a n m T) : MatAt H' a n m T := let ⟨as, q⟩ := h; ⟨as, q.mono s⟩
theorem rws_len (n : Nat) (as : Nat → Addr) : (rws n as).length = n := by simp [rws]
theorem rws_get {n i : Nat} (as : Nat → Addr) (hi : i < n) : (rws n as)[i]? = some (.ref (as i)) := by unfold rws; rw [List.getElem?_map, List.getElem?_range hi]; rfl
theorem mget {α : Type} {n i : Nat} (f : Nat → α) (hi : i < n) : ((List.range n).map f)[i]? = some (f i) := by rw [List.getElem?_map, List.getElem?_range hi]; rfl
theorem mlen {α : Type} (n : Nat) (f : Nat → α) : ((List.range n).map f).length = n := by simp
theorem rws_set {n i : Nat} (as : Nat → Addr) (q : Addr) : (rws n as).set i (.ref q) = rws n (fun j => if j = i then q else as j) := by
  refine List.ext_getElem? fun j => ?_
  rw [List.getElem?_set]
  by_cases c : j < n
  · rw [rws_get _ c, rws_get _ c, rws_len]
    by_cases d : i = j
    · subst d; rw [if_pos rfl, if_pos c, if_pos rfl]
    · rw [if_neg d, if_neg fun e => d e.symm]
  · rw [List.getElem?_eq_none (by rw [rws_len]; omega), List.getElem?_eq_none (by rw [rws_len]; omega)]
    by_cases d : i = j
    · subst d; rw [if_pos rfl, if_neg (by rw [rws_len]; omega)]
    · rw [if_neg d]
theorem ixn {n j : Nat} (hj : j < n) : ixN n (j : Int) = some j := by
  unfold ixN
  rw [if_pos (by omega), if_pos (by omega)]
  simp
/-- a row put at its place -/
theorem MatOf.set {H H1 : Hp} {a q : Addr} {n m i : Nat} {as : Nat → Addr} {T : Nat → Nat → Int} {x : Nat → Int} (h : MatOf H a n m as T) (s : Same H H1) (hq : IRow H1 q m x) (hm : 1 ≤ n) :
    MatOf (upd H1 a (.lst ((rws n as).set i (.ref q)))) a n m (fun j => if j = i then q else as j) (fun j => if j = i then x else T j) := by
  have ne : ∀ b l, IRow H1 b m l → H1 a = some (.lst (rws n as)) → b ≠ a := fun b l e e2 z => by
    subst z
    have e3 := e.symm.trans e2
    injection e3 with e3; injection e3 with e3
    have l1 := congrArg (fun z : List V => z[0]?) e3
    simp only [rws_get _ hm] at l1
    by_cases c : 0 < m
    · rw [mget _ c] at l1; cases l1
    · rw [List.getElem?_eq_none (by rw [mlen]; omega)] at l1; cases l1
  have ha := s _ _ h.1
  refine ⟨by rw [rws_set]; exact upd_same, fun j hj => ?_⟩
  by_cases c : j = i
  · simp only [if_pos c]; unfold IRow; rw [upd_ne (ne _ _ hq ha)]; exact hq
  · simp only [if_neg c]; have := (h.2 j hj).mono s; unfold IRow; rw [upd_ne (ne _ _ this ha)]; exact this
theorem bnd10 {k : Nat} (h : k ≤ 4) : Ch.bnd 10 k < 2 ^ 80 := Nat.lt_of_le_of_lt (Ch.bnd_mono 10 h) (by decide)
theorem wide80 {i j : Int} (h1 : i.natAbs < 2 ^ 80) (h2 : j.natAbs < 2 ^ 80) : CMulW i j := wide_mul h1 h2 (by decide) (by decide) (by decide)
def rListOf (K : PySem.W.Frag) : List V → Hp → VK → Prop := fun xs H Q => ∃ p ys, xs = [.ref p] ∧ (SqL K H p ys ∨ SqT K H p ys) ∧ ∀ l, H l = none → Q (.ref l) (upd H l (.lst ys))
def sp_minors_of : Sp := fun vs H Q _ => ∃ (a : Addr) (n : Nat) (T : Nat → Nat → Int), vs = [.ref a] ∧ MatAt H a n n T ∧ 1 ≤ n ∧ n ≤ 4 ∧ (∀ i j, i < n → j < n → (T i j).natAbs ≤ 10) ∧
  ∀ p H' (init : List Int) (last : Int), H p = none → Same H H' → H' p = some (.lst ((init ++ [last]).map V.int)) → (0 < last ↔ ∀ k, k ≤ n → 0 < Ch.dv T k) → Q (.ref p) H'
theorem sc_minors_of : FnScope ["rows", "at", "told", "before", "found", "pivot", "low", "factor", "row", "here", "there"] ["rows"] d_minors_of.scope := ⟨rfl, rfl, rfl, by decide +kernel, rfl, by decide +kernel, by decide +kernel⟩
theorem ok_minors_of (T : Txt K mg)  : Cal P w K mg base 1 "minors_of" sp_minors_of [] := by
  refine cal_mk d_minors_of T.d_minors_of T.g_minors_of sc_minors_of (fun vs H Q E h => ?_) (fun _ _ _ _ _ _ us hl => match us, hl with | [_], _ => rfl) (fun cdv A outer s H vs Q E hr h => ?_)
  · obtain ⟨_, _, _, rfl, _⟩ := h
    rfl
  · have hu := hu_of hr
    obtain ⟨a, n, M, rfl, ⟨as0, hM⟩, n1, n4, hb, k⟩ := h
    refine ⟨_, (pss_cons (ps_asg (pe_tup (pa_cons (pe_lc (te := tCB (rListOf K) (tCons (tVar 8) tNil)) (own := [("row", 8)]) (by rfl) sc_minors_of.nd (pi_list (pv 0)) (blkOk_by (own := [("row", 8)]) (by rfl)) (fun _ _ _ _ _ => (pg_name (i := 8) sc_minors_of.nd rfl (Or.inl rfl))) (fun _ _ _ _ _ => pts_nil) (fun _ _ _ _ _ => (pe_callTy call_list_of (by rfl) T.f_list boot_list (pa_cons (pv 8) pa_nil)))) (pa_cons pe_int (pa_cons (pe_lst pa_nil) pa_nil)))) (pg_tup rfl (pgs_cons (pg_name (i := 2) sc_minors_of.nd rfl (Or.inl rfl)) (pgs_cons (pg_name (i := 3) sc_minors_of.nd rfl (Or.inr rfl)) (pgs_cons (pg_name (i := 4) sc_minors_of.nd rfl (Or.inl rfl)) pgs_nil)))))
      (pss_cons (ps_for PassesOwn.never rfl (pi_range1 rfl T.f_range (pa_cons (pe_callB call_len_seq (by rfl) T.f_len (by decide +kernel) (pa_cons (pv 2) pa_nil)) pa_nil)) (pg_name (i := 1) sc_minors_of.nd rfl (Or.inl rfl))
      (pss_cons (ps_set (i := 5) sc_minors_of.nd rfl (Or.inr rfl) (pe_ix ix_list (pe_ix ix_list (pv 2) (pv 1) (fun _ _ => rfl)) (pv 1) (fun _ _ => rfl)))
        (pss_cons (ps_expr (pe_bm PySem.F.plainAttrs_list PySem.F.slot_list_append PySem.F.type_list_append mt_append (pv 4) (pa_cons (pv 5) pa_nil)))
        (pss_cons (ps_if (pt_cmpR op_le (pv 5) pe_int (nomark _))
        (pss_one (ps_ret (pv 4)))
        pss_nil)
        (pss_cons (ps_for PassesOwn.never rfl (pi_range2 rfl T.f_range (pa_cons (pe_op op_add (pv 1) pe_int) (pa_cons (pe_callB call_len_seq (by rfl) T.f_len (by decide +kernel) (pa_cons (pv 2) pa_nil)) pa_nil))) (pg_name (i := 6) sc_minors_of.nd rfl (Or.inl rfl))
        (pss_cons (ps_set (i := 7) sc_minors_of.nd rfl (Or.inr rfl) (pe_ix ix_list (pe_ix ix_list (pv 2) (pv 6) (fun _ _ => rfl)) (pv 1) (fun _ _ => rfl)))
          (pss_one (ps_asg (pe_lc (g := gTup K 2 (gCons (gName 9) (gCons (gName 10) gNil))) (own := [("here", 9), ("there", 10)]) (by rfl) sc_minors_of.nd (pi_zip rfl T.f_zip (pa_cons (pe_ix ix_list (pv 2) (pv 6) (fun _ _ => rfl)) (pa_cons (pe_ix ix_list (pv 2) (pv 1) (fun _ _ => rfl)) pa_nil))) (blkOk_by (own := [("here", 9), ("there", 10)]) (by rfl)) (fun _ _ _ _ _ => (pg_tup rfl (pgs_cons (pg_name (i := 9) sc_minors_of.nd rfl (Or.inl rfl)) (pgs_cons (pg_name (i := 10) sc_minors_of.nd rfl (Or.inl rfl)) pgs_nil)))) (fun _ _ _ _ _ => pts_nil) (fun _ _ _ _ _ => (pe_op op_fdivW (pe_op op_sub (pe_op op_mulW (pv 5) (pv 9)) (pe_op op_mulW (pv 7) (pv 10))) (pv 3)))) (pg_sub (pv 2) (pv 6) set_list)))))
        (pss_one (ps_set (i := 3) sc_minors_of.nd rfl (Or.inr rfl) (pv 5))))))))
      (pss_one (ps_ret (pv 4))))), ?_⟩
    refine ⟨_, rfl, a, rfl, ⟨_, SqL.of hM.1⟩, ?_⟩
    have hbd : ∀ k, k ≤ 4 → (∀ l, l ≤ k → l ≤ n → 0 < Ch.dv M l) → k ≤ n → ∀ i j, i < n → j < n → (Ch.elM M k i j).natAbs < 2 ^ 80 := fun k hk hp kn i j hi hj =>
      Nat.lt_of_le_of_lt (Ch.el_size (n := n) (b := 10) (fun j => j < n) (fun k hk => hk) (fun i j hi hj => hb i j hi hj) k kn (fun l hl => hp l hl (by omega)) i j hi hj) (bnd10 hk)
    refine lc_pred (walk_list (xs := rws n as0)) (fun i y H => ∃ q, y = .ref q ∧ IRow H q n (M i)) (by rw [rws_len]; omega) (fun H' s => SqL.of (s _ _ hM.1)) ?_ ?_
    · rintro D i x H' H'' acc R hi hD s ha ⟨rfl, hy⟩ kk
      rw [rws_len] at hi
      rw [rws_get _ hi] at hy
      cases hy
      refine ⟨rfl, _, rfl, as0 i, _, rfl, .inl (SqL.of ((hM.2 i hi).mono s)), fun l hl => ?_⟩
      have nl : l ≠ D := fun z => by rw [z] at hl; rw [hl] at ha; cases ha
      refine kk _ _ (Same.new hl) fun H5 s5 => ⟨l, rfl, s5 _ _ nl upd_same⟩
    intro D ys H1 hD s1 e1 hl1 hy1
    rw [rws_len] at hl1
    obtain ⟨as1, has1⟩ : ∃ as : Nat → Addr, ∀ i, i < n → ys[i]? = some (.ref (as i)) ∧ IRow H1 (as i) n (M i) := by
      refine ⟨fun i => match ys[i]? with | some (.ref q) => q | _ => 0, fun i hi => ?_⟩
      have h1 : ys[i]? = some (ys[i]'(by omega)) := List.getElem?_eq_getElem (by omega)
      obtain ⟨q, h2, h3⟩ := hy1 i _ h1
      rw [h2] at h1
      simp only [h1]
      exact ⟨trivial, h3⟩
    have ey : ys = rws n as1 := by
      refine List.ext_getElem? fun i => ?_
      by_cases c : i < n
      · rw [(has1 i c).1, rws_get _ c]
      · rw [List.getElem?_eq_none (by omega), List.getElem?_eq_none (by rw [rws_len]; omega)]
    subst ey
    refine ⟨(by show 0 ≤ sizeLine; exact Nat.zero_le _), fun p hp => ?_⟩
    have s2 : Same H1 (upd H1 p (.lst [])) := Same.new hp
    have hp0 : H p = none := s1.free hp
    have hDn : H D = none := hD
    have ndp : D ≠ p := fun z => by rw [z] at e1; rw [hp] at e1; cases e1
    refine ⟨(by show 3 ≤ sizeLine; decide), fun tq htq => ?_⟩
    have ntp : tq ≠ p := fun z => by rw [z, upd_same] at htq; cases htq
    have hDn2 : upd H1 p (.lst []) D = some (.lst (rws n as1)) := s2 _ _ e1
    have s3 : Same (upd H1 p (.lst [])) (upd (upd H1 p (.lst [])) tq (.tup [.ref D, .int 1, .ref p])) := Same.new htq
    generalize hH3 : upd (upd H1 p (.lst [])) tq (.tup [.ref D, .int 1, .ref p]) = H3 at *
    have s03 : Same H H3 := (s1.trans s2).trans s3
    have hp3 : H3 p = some (.lst []) := s3 _ _ upd_same
    have hM3 : MatOf H3 D n n as1 M := ⟨(s2.trans s3) _ _ e1, fun i hi => ((has1 i hi).2.mono s2).mono s3⟩
    have hp3' : ∀ r, r < n → as1 r ≠ p := fun r hr z => by
      have := (has1 r hr).2; unfold IRow at this; rw [z, hp] at this; cases this
    refine ⟨tq, _, rfl, SqT.of (by rw [← hH3, upd_same]), rfl, _, _, rfl, _, _, rfl, _, _, rfl, rfl, ?_⟩
    clear hH3
    refine ⟨_, rfl, D, _, rfl, .inl (SqL.of hM3.1), (n : Nat), by rw [rws_len], by omega, by omega, ?_⟩
    refine for_range (fun i σ H' => ∃ v1 v5 v6 v7 as U init, σ = [some (.ref a), v1, some (.ref D), some (.int (Ch.dv M i)), some (.ref p), v5, v6, v7, none, none, none] ∧ Same H H' ∧ MatOf H' D n n as U ∧ (∀ r, r < n → as r ≠ p) ∧ (∀ r j, i ≤ r → r < n → j < n → U r j = Ch.elM M i r j) ∧ H' p = some (.lst ((init : List Int).map V.int)) ∧ (∀ k, k ≤ i → 0 < Ch.dv M k) ∧ init.length = i ∧ (0 < i → ∃ init', init = init' ++ [Ch.dv M i])) ?_ ?_ ?_
    · exact ⟨none, none, none, none, as1, M, [], rfl, s03, hM3, hp3', fun _ _ _ _ _ => rfl, hp3, fun k hk => by rw [show k = 0 by omega]; exact Int.one_pos, rfl, fun h => absurd h (Nat.lt_irrefl _)⟩
    · rintro i σ H' hi ⟨v1, v5, v6, v7, as, U, init, rfl, s', hU, hap, hel, hpp, hdv, hil0, hin⟩
      have hin' : i < n := by rw [Int.toNat_natCast] at hi; exact hi
      have e0 : ((0 : Int) + (i : Nat)) = ((i : Nat) : Int) := Int.zero_add _
      rw [e0]
      -- pivot = told[at][at]
      refine ⟨_, rfl, _, rfl, D, _, _, _, rfl, rfl, SqL.of hU.1, atI_nat (rws_get as hin'), _, rfl, _, _, _, _, rfl, rfl, SqL.of (hU.2 i hin'), atI_nat (mget _ hin'), ?_⟩
      have epv : U i i = Ch.dv M (i + 1) := by rw [hel i i (Nat.le_refl _) hin' hin']; rfl
      rw [epv]
      -- found.append(pivot)
      have hil : (init.map V.int).length < sizeLine := sz5 (by rw [List.length_map]; omega)
      refine ⟨_, rfl, .inl ⟨rfl, _, SqL.of hpp⟩, _, rfl, p, _, _, rfl, rfl, hpp, hil, ?_⟩
      have hU2 : MatOf (upd H' p (.lst (init.map V.int ++ [.int (Ch.dv M (i + 1))]))) D n n as U := ⟨by rw [upd_ne ndp]; exact hU.1, fun r hr => by unfold IRow; rw [upd_ne (hap r hr)]; exact hU.2 r hr⟩
      have hp2 : upd H' p (.lst (init.map V.int ++ [.int (Ch.dv M (i + 1))])) p = some (.lst ((init ++ [Ch.dv M (i + 1)]).map V.int)) := by rw [upd_same, List.map_append]; rfl
      have s2' : Same H (upd H' p (.lst (init.map V.int ++ [.int (Ch.dv M (i + 1))]))) := s'.mut hp0
      generalize hH2 : upd H' p (.lst (init.map V.int ++ [.int (Ch.dv M (i + 1))])) = H2 at *
      clear hH2
      refine ⟨_, rfl, _, _, rfl, rfl, _, rfl, ?_⟩
      refine ite2 (fun c => ?_) (fun c => ?_)
      · have c' : Ch.dv M (i + 1) ≤ 0 := of_decide_eq_true c
        exact ⟨_, rfl, k p H2 init _ hp0 s2' hp2 ⟨fun h => absurd h (by omega), fun h => h (i + 1) hin'⟩⟩
      · have c' : ¬ Ch.dv M (i + 1) ≤ 0 := fun z => c (decide_eq_true z)
        have hdv' : ∀ k, k ≤ i + 1 → 0 < Ch.dv M k := fun k hk => by
          rcases Nat.lt_or_ge i k with h | h
          · rw [show k = i + 1 by omega]; omega
          · exact hdv k h
        have hpv : (Ch.dv M (i + 1)).natAbs < 2 ^ 80 := hbd i (by omega) (fun l hl _ => hdv l hl) (by omega) i i hin' hin'
        -- for low in range(at + 1, len(told))
        refine ⟨_, rfl, _, _, rfl, rfl, _, rfl, D, _, rfl, .inl (SqL.of hU2.1), _, _, rfl, ⟨by omega, by omega, by omega, by rw [rws_len]; omega⟩, ?_⟩
        refine for_range (fun l σ H' => ∃ v6 v7 as U, σ = [some (.ref a), some (.int (i : Nat)), some (.ref D), some (.int (Ch.dv M i)), some (.ref p), some (.int (Ch.dv M (i + 1))), v6, v7, none, none, none] ∧ Same H H' ∧ MatOf H' D n n as U ∧ (∀ r, r < n → as r ≠ p) ∧ (∀ r j, i ≤ r → r < n → j < n → U r j = if i < r ∧ r < i + 1 + l then Ch.elM M (i + 1) r j else Ch.elM M i r j) ∧ H' p = some (.lst ((init ++ [Ch.dv M (i + 1)]).map V.int))) ?_ ?_ ?_
        · exact ⟨v6, v7, as, U, rfl, s2', hU2, hap, fun r j h1 h2 h3 => by rw [if_neg (by omega)]; exact hel r j h1 h2 h3, hp2⟩
        · rintro l σ H4 hl ⟨v6, v7, as, U, rfl, s4, hU4, hap4, hel4, hpp4⟩
          have hln : i + 1 + l < n := by rw [rws_len] at hl; omega
          have el0 : ((i : Nat) : Int) + 1 + (l : Nat) = ((i + 1 + l : Nat) : Int) := by omega
          show gName 6 (.int (((i : Nat) : Int) + 1 + (l : Nat))) _ _ _
          rw [el0]
          have f1 : U (i + 1 + l) = fun j => U (i + 1 + l) j := rfl
          have u1 : ∀ j, j < n → U (i + 1 + l) j = Ch.elM M i (i + 1 + l) j := fun j hj => by rw [hel4 _ j (by omega) hln hj, if_neg (by omega)]
          have u2 : ∀ j, j < n → U i j = Ch.elM M i i j := fun j hj => by rw [hel4 i j (Nat.le_refl _) hin' hj, if_neg (by omega)]
          refine ⟨_, rfl, _, rfl, D, _, _, _, rfl, rfl, SqL.of hU4.1, atI_nat (rws_get as hln), _, rfl, _, _, _, _, rfl, rfl, SqL.of (hU4.2 _ hln), atI_nat (mget _ hin'), ?_⟩
          refine ⟨_, rfl, _, rfl, D, _, _, _, rfl, rfl, SqL.of hU4.1, atI_nat (rws_get as hln), _, rfl, _, rfl, D, _, _, _, rfl, rfl, SqL.of hU4.1, atI_nat (rws_get as hin'), _, _, _, _, rfl, SqL.of (hU4.2 _ hln), SqL.of (hU4.2 _ hin'), ?_⟩
          have hsz : ∀ r j, i ≤ r → r < n → j < n → (Ch.elM M i r j).natAbs < 2 ^ 80 := fun r j h1 h2 h3 => hbd i (by omega) (fun l hl _ => hdv l hl) (by omega) r j h2 h3
          refine lc_vals (walk_zip (n := n) (by rw [mlen, mlen, Nat.min_self])) (fun j => .int (Ch.elM M (i + 1) (i + 1 + l) j)) (by omega) (fun H' s => ⟨SqL.of (s _ _ (hU4.2 _ hln)), SqL.of (s _ _ (hU4.2 _ hin'))⟩) ?_ ?_
          · rintro j x H5 H6 R hj s5 ⟨T', x1, y1, rfl, hT, rfl, e1, e2⟩ kk
            simp only [mget _ hj] at e1 e2
            cases e1
            cases e2
            refine ⟨T', _, rfl, SqT.of upd_same, rfl, _, _, rfl, _, _, rfl, rfl, ?_⟩
            refine ⟨rfl, ?_⟩
            have w1 : CMulW (Ch.dv M (i + 1)) (U (i + 1 + l) j) := wide80 hpv (by rw [u1 j hj]; exact hsz _ j (by omega) hln hj)
            have w2 : CMulW (U (i + 1 + l) i) (U i j) := wide80 (by rw [u1 i hin']; exact hsz _ i (by omega) hln hin') (by rw [u2 j hj]; exact hsz i j (Nat.le_refl _) hin' hj)
            have w3 : ∀ z, CDivW z (Ch.dv M i) := fun z => wide_div (b := 80) (hdv i (Nat.le_refl _)) (by
              cases i with
              | zero => show (1 : Int).natAbs < 2 ^ 80; decide
              | succ i => exact hbd i (by omega) (fun l hl _ => hdv l (by omega)) (by omega) i i (by omega) (by omega)) (by decide) (by decide)
            refine ⟨_, rfl, _, rfl, _, _, rfl, rfl, w1, _, rfl, _, rfl, _, _, rfl, rfl, w2, _, _, rfl, rfl, _, rfl, _, _, rfl, rfl, w3 _, ?_⟩
            have q := kk (upd H5 T' (.tup [.int (U (i + 1 + l) j), .int (U i j)])) (Same.new hT)
            rw [Ch.elM_succ M j (show i + 1 + l ≠ i by omega), ← u1 j hj, ← u1 i hin', ← u2 j hj] at q
            exact q
          · intro q H5 hq s5 e5
            have e6 : IRow H5 q n (fun j => Ch.elM M (i + 1) (i + 1 + l) j) := e5
            have nq : q ≠ p := fun z => by rw [z, hpp4] at hq; cases hq
            refine ⟨_, rfl, _, rfl, D, _, _, i + 1 + l, rfl, rfl, s5 _ _ hU4.1, ixn (by rw [rws_len]; exact hln), ?_⟩
            refine ⟨_, _, fun r => if r = i + 1 + l then q else as r, _, rfl, (s4.trans s5).mut hDn, MatOf.set (i := i + 1 + l) hU4 s5 e6 n1, fun r hr => ?_, fun r j h1 h2 h3 => ?_, by rw [upd_ne ndp.symm]; exact s5 _ _ hpp4⟩
            · simp only; split
              · exact nq
              · exact hap4 r hr
            · by_cases c : r = i + 1 + l
              · subst c; rw [if_pos rfl, if_pos (by omega)]
              · rw [if_neg c, hel4 r j h1 h2 h3]
                by_cases d : i < r ∧ r < i + 1 + l
                · rw [if_pos d, if_pos (by omega)]
                · rw [if_neg d, if_neg (by omega)]
        · rintro σ H4 ⟨v6, v7, as, U, rfl, s4, hU4, hap4, hel4, hpp4⟩
          have hl : (((rws n as0).length : Int) - (((i : Nat) : Int) + 1)).toNat = n - (i + 1) := by rw [rws_len]; omega
          refine ⟨_, rfl, some (.int (i : Nat)), some (.int (Ch.dv M (i + 1))), v6, v7, as, U, init ++ [Ch.dv M (i + 1)], rfl, s4, hU4, hap4, fun r j h1 h2 h3 => ?_, hpp4, hdv', by rw [List.length_append, hil0]; rfl, fun _ => ⟨init, rfl⟩⟩
          rw [hel4 r j (by omega) h2 h3, if_pos]
          refine ⟨by omega, ?_⟩
          rw [rws_len]; omega
    · rintro σ H' ⟨v1, v5, v6, v7, as, U, init, rfl, s', hU, hap, hel, hpp, hdv, hil0, hin⟩
      rw [Int.toNat_natCast] at *
      obtain ⟨init', rfl⟩ := hin (by omega)
      exact ⟨_, rfl, k p H' init' _ hp0 s' hpp ⟨fun _ => hdv, fun h => h n (Nat.le_refl _)⟩⟩
end
end K11
end
section
set_option Elab.async false
set_option linter.all false
set_option maxRecDepth 100000
namespace K11
open PySem PySem.Spec PyProof.Rows L2
open C8 (Cal Met Mak)
section
variable {P : Program} {w : World} {K : PySem.W.Frag} {mg : Str → Option Value} {base : Heap}
/-! ### solved -/
theorem rows_of {ys : List V} {n : Nat} {H : Hp} {m : Nat} {T : Nat → Nat → Int} (hl : ys.length = n) (h : ∀ i y, ys[i]? = some y → ∃ q, y = .ref q ∧ IRow H q m (T i)) : ∃ as, ys = rws n as ∧ ∀ i, i < n → IRow H (as i) m (T i) := by
  have h2 : ∀ i, ∃ q, i < n → ys[i]? = some (.ref q) ∧ IRow H q m (T i) := fun i => by
    by_cases c : i < n
    · have h1 : ys[i]? = some (ys[i]'(by omega)) := List.getElem?_eq_getElem (by omega)
      obtain ⟨q, h2, h3⟩ := h i _ h1
      exact ⟨q, fun _ => ⟨by rw [h1, h2], h3⟩⟩
    · exact ⟨0, fun d => absurd d c⟩
  refine ⟨fun i => (h2 i).choose, List.ext_getElem? fun i => ?_, fun i hi => ((h2 i).choose_spec hi).2⟩
  by_cases c : i < n
  · rw [((h2 i).choose_spec c).1, rws_get _ c]
  · rw [List.getElem?_eq_none (by omega), List.getElem?_eq_none (by rw [rws_len]; omega)]
def tabS (n : Nat) (M : Nat → Nat → Int) (r : Nat → Int) (i j : Nat) : Int := if j = n then r i else M j i
def sp_solved : Sp := fun vs H Q _ => ∃ (a b : Addr) (n : Nat) (M : Nat → Nat → Int) (r : Nat → Int), vs = [.ref a, .ref b] ∧ MatAt H a n n M ∧ IRow H b n r ∧ 1 ≤ n ∧ n ≤ 4 ∧ (∀ i j, i < n → j < n → (M i j).natAbs ≤ 10) ∧ (∀ i, i < n → (r i).natAbs ≤ 10) ∧ (∀ k, k ≤ n → 0 < Ch.dv (tabS n M r) k) ∧
  ∀ p l H', H l = none → H p = none → Same H H' → IRow H' l n (fun i => Ch.elM (tabS n M r) n i n) → H' p = some (.tup [.ref l, .int (Ch.dv (tabS n M r) n)]) → Q (.ref p) H'
theorem sc_solved : FnScope ["rows", "right", "size", "told", "before", "at", "pivot", "low", "spot", "factor", "here", "there"] ["rows", "right"] d_solved.scope := ⟨rfl, rfl, rfl, by decide +kernel, rfl, by decide +kernel, by decide +kernel⟩
theorem ok_solved (T : Txt K mg)  : Cal P w K mg base 1 "solved" sp_solved [] := by
  refine cal_mk d_solved T.d_solved T.g_solved sc_solved (fun vs H Q E h => ?_) (fun _ _ _ _ _ _ us hl => match us, hl with | [_, _], _ => rfl) (fun cdv A outer s H vs Q E hr h => ?_)
  · obtain ⟨_, _, _, _, _, rfl, _⟩ := h
    rfl
  · have hu := hu_of hr
    obtain ⟨a, b, n, M0, r, rfl, ⟨as0, hM⟩, hR, n1, n4, hb, hrb, hdv, k⟩ := h
    refine ⟨_, (pss_cons (ps_set (i := 2) sc_solved.nd rfl (Or.inr rfl) (pe_callB call_len_seq (by rfl) T.f_len (by decide +kernel) (pa_cons (pv 0) pa_nil)))
      (pss_cons (ps_set (i := 3) sc_solved.nd rfl (Or.inr rfl) (pe_lc (te := tOp rCat (tLc (iRng1 (tCons (tVar 2) tNil)) (gName 5) tYes (tOp (rIxL K) (tOp (rIxL K) (tVar 0) (tVar 5)) (tVar 8)) [5]) (tLst (tCons (tOp (rIxL K) (tVar 1) (tVar 8)) tNil))) (own := [("spot", 8)]) (by rfl) sc_solved.nd (pi_range1 rfl T.f_range (pa_cons (pv 2) pa_nil)) (blkOk_by (own := [("spot", 8)]) (by rfl)) (fun _ _ _ _ _ => (pg_name (i := 8) sc_solved.nd rfl (Or.inr rfl))) (fun _ _ _ _ _ => pts_nil) (fun _ _ _ _ _ => (pe_op op_cat (pe_lc (te := tOp (rIxL K) (tOp (rIxL K) (tVar 0) (tVar 5)) (tVar 8)) (own := [("at", 5)]) (by rfl) sc_solved.nd (pi_range1 rfl T.f_range (pa_cons (pv 2) pa_nil)) (blkOk_by (own := [("at", 5)]) (by rfl)) (fun _ _ _ _ _ => (pg_name (i := 5) sc_solved.nd rfl (Or.inl rfl))) (fun _ _ _ _ _ => pts_nil) (fun _ _ _ _ _ => (pe_ix ix_list (pe_ix ix_list (pv 0) (pv 5) (fun _ _ => rfl)) (pv 8) (fun _ _ => rfl)))) (pe_lst (pa_cons (pe_ix ix_list (pv 1) (pv 8) (fun _ _ => rfl)) pa_nil))))))
      (pss_cons (ps_set (i := 4) sc_solved.nd rfl (Or.inr rfl) pe_int)
      (pss_cons (ps_for PassesOwn.never rfl (pi_range1 rfl T.f_range (pa_cons (pv 2) pa_nil)) (pg_name (i := 5) sc_solved.nd rfl (Or.inl rfl))
      (pss_cons (ps_set (i := 6) sc_solved.nd rfl (Or.inr rfl) (pe_ix ix_list (pe_ix ix_list (pv 3) (pv 5) (fun _ _ => rfl)) (pv 5) (fun _ _ => rfl)))
        (pss_cons (ps_for PassesOwn.never rfl (pi_range1 rfl T.f_range (pa_cons (pv 2) pa_nil)) (pg_name (i := 7) sc_solved.nd rfl (Or.inl rfl))
        (pss_one (ps_if (pt_cmpR op_ne (pv 7) (pv 5) (nomark _))
          (pss_cons (ps_set (i := 9) sc_solved.nd rfl (Or.inr rfl) (pe_ix ix_list (pe_ix ix_list (pv 3) (pv 7) (fun _ _ => rfl)) (pv 5) (fun _ _ => rfl)))
            (pss_one (ps_asg (pe_lc (g := gTup K 2 (gCons (gName 10) (gCons (gName 11) gNil))) (own := [("here", 10), ("there", 11)]) (by rfl) sc_solved.nd (pi_zip rfl T.f_zip (pa_cons (pe_ix ix_list (pv 3) (pv 7) (fun _ _ => rfl)) (pa_cons (pe_ix ix_list (pv 3) (pv 5) (fun _ _ => rfl)) pa_nil))) (blkOk_by (own := [("here", 10), ("there", 11)]) (by rfl)) (fun _ _ _ _ _ => (pg_tup rfl (pgs_cons (pg_name (i := 10) sc_solved.nd rfl (Or.inl rfl)) (pgs_cons (pg_name (i := 11) sc_solved.nd rfl (Or.inl rfl)) pgs_nil)))) (fun _ _ _ _ _ => pts_nil) (fun _ _ _ _ _ => (pe_op op_fdivW (pe_op op_sub (pe_op op_mulW (pv 6) (pv 10)) (pe_op op_mulW (pv 9) (pv 11))) (pv 4)))) (pg_sub (pv 3) (pv 7) set_list))))
          pss_nil)))
        (pss_one (ps_set (i := 4) sc_solved.nd rfl (Or.inr rfl) (pv 6))))))
      (pss_one (ps_ret (pe_tup (pa_cons (pe_lc (te := tOp (rIxL K) (tOp (rIxL K) (tVar 3) (tVar 5)) (tVar 2)) (own := [("at", 5)]) (by rfl) sc_solved.nd (pi_range1 rfl T.f_range (pa_cons (pv 2) pa_nil)) (blkOk_by (own := [("at", 5)]) (by rfl)) (fun _ _ _ _ _ => (pg_name (i := 5) sc_solved.nd rfl (Or.inl rfl))) (fun _ _ _ _ _ => pts_nil) (fun _ _ _ _ _ => (pe_ix ix_list (pe_ix ix_list (pv 3) (pv 5) (fun _ _ => rfl)) (pv 2) (fun _ _ => rfl)))) (pa_cons (pv 4) pa_nil))))))))), ?_⟩
    have hbd : ∀ k, k ≤ n → ∀ i j, i < n → j ≤ n → (Ch.elM (tabS n M0 r) k i j).natAbs < 2 ^ 80 := fun k kn i j hi hj =>
      Nat.lt_of_le_of_lt (Ch.el_size (n := n) (b := 10) (fun j => j ≤ n) (fun k hk => Nat.le_of_lt hk) (fun i j hi hj => by
        unfold tabS; split
        · exact hrb i hi
        · exact hb j i (by omega) hi) k kn (fun l hl => hdv l (by omega)) i j hi hj) (bnd10 (by omega))
    generalize hM' : tabS n M0 r = M at *
    refine ⟨_, rfl, a, _, rfl, .inl (SqL.of hM.1), ?_⟩
    rw [rws_len]
    refine ⟨_, rfl, (n : Nat), rfl, by omega, by omega, ?_⟩
    rw [Int.toNat_natCast]
    refine lc_pred (walk_range (n := n)) (fun i y H => ∃ q, y = .ref q ∧ IRow H q (n + 1) (M i)) (by omega) (fun H' s => trivial) ?_ ?_
    · rintro D i x H' H'' acc R hi hD s ha ⟨rfl, rfl⟩ kk
      have e0 : ((0 : Int) + (i : Nat)) = ((i : Nat) : Int) := Int.zero_add _
      simp only [e0]
      refine ⟨rfl, _, rfl, (n : Nat), rfl, by omega, by omega, ?_⟩
      rw [Int.toNat_natCast]
      refine lc_vals (walk_range (n := n)) (fun l => .int (M i l)) (by omega) (fun H' s => trivial) ?_ ?_
      · rintro l x H4 H5 R2 hl s4 ⟨rfl, rfl⟩ k2
        have e0 : ((0 : Int) + (l : Nat)) = ((l : Nat) : Int) := Int.zero_add _
        simp only [e0]
        have hM4 := (hM.mono s).mono s4
        have q := k2 H5 (Same.refl _)
        rw [← hM'] at q
        unfold tabS at q
        rw [if_neg (by omega)] at q
        exact ⟨rfl, _, rfl, _, rfl, a, _, _, _, rfl, rfl, SqL.of hM4.1, atI_nat (rws_get as0 hl), _, rfl, _, _, _, _, rfl, rfl, SqL.of (hM4.2 l hl), atI_nat (mget _ hi), q⟩
      · intro l1 H5 hl1 s5 e5
        have hR5 := (hR.mono s).mono s5
        refine ⟨_, rfl, _, rfl, b, _, _, _, rfl, rfl, SqL.of hR5, atI_nat (mget _ hi), ?_⟩
        refine ⟨(by show 1 ≤ sizeLine; decide), fun l2 hl2 => ?_⟩
        have s6 : Same H5 (upd H5 l2 (.lst [.int (r i)])) := Same.new hl2
        refine ⟨l1, l2, _, _, rfl, rfl, s6 _ _ e5, upd_same, by rw [mlen]; exact sz5' (by show n + 1 ≤ _; omega), fun l3 hl3 => ?_⟩
        have nl : l3 ≠ D := fun z => by
          have := s6 _ _ (s5 _ _ ha); rw [← z, hl3] at this; cases this
        refine kk _ _ ((s5.trans s6).trans (Same.new hl3)) fun H7 s7 => ⟨l3, rfl, s7 _ _ nl ?_⟩
        have ex : ((List.range n).map fun l => V.int (M i l)) ++ [V.int (r i)] = (List.range (n + 1)).map fun j => V.int (M i j) := by
          rw [List.range_succ, List.map_append]
          have : M i n = r i := by rw [← hM']; unfold tabS; rw [if_pos rfl]
          rw [← this]; rfl
        rw [upd_same, ex]
    intro D ys H1 hD s1 e1 hl1 hy1
    obtain ⟨as1, rfl, has1⟩ := rows_of hl1 hy1
    refine ⟨_, rfl, (n : Nat), rfl, by omega, by omega, ?_⟩
    rw [Int.toNat_natCast]
    refine for_range (fun i σ H' => ∃ v5 v6 v7 v9 as U, σ = [some (.ref a), some (.ref b), some (.int (n : Nat)), some (.ref D), some (.int (Ch.dv M i)), v5, v6, v7, none, v9, none, none] ∧ Same H H' ∧ MatOf H' D n (n + 1) as U ∧ (∀ r j, r < n → j ≤ n → U r j = Ch.elM M i r j)) ?_ ?_ ?_
    · exact ⟨none, none, none, none, as1, M, rfl, s1, ⟨e1, has1⟩, fun _ _ _ _ => rfl⟩
    · rintro i σ H' hi ⟨v5, v6, v7, v9, as, U, rfl, s', hU, hel⟩
      have e0 : ((0 : Int) + (i : Nat)) = ((i : Nat) : Int) := Int.zero_add _
      rw [e0]
      refine ⟨_, rfl, _, rfl, D, _, _, _, rfl, rfl, SqL.of hU.1, atI_nat (rws_get as hi), _, rfl, _, _, _, _, rfl, rfl, SqL.of (hU.2 i hi), atI_nat (mget _ (by omega)), ?_⟩
      have epv : U i i = Ch.dv M (i + 1) := by rw [hel i i hi (by omega)]; rfl
      rw [epv]
      have hpv : (Ch.dv M (i + 1)).natAbs < 2 ^ 80 := hbd i (by omega) i i hi (by omega)
      refine ⟨_, rfl, (n : Nat), rfl, by omega, by omega, ?_⟩
      rw [Int.toNat_natCast]
      refine for_range (fun l σ H' => ∃ v7 v9 as U, σ = [some (.ref a), some (.ref b), some (.int (n : Nat)), some (.ref D), some (.int (Ch.dv M i)), some (.int (i : Nat)), some (.int (Ch.dv M (i + 1))), v7, none, v9, none, none] ∧ Same H H' ∧ MatOf H' D n (n + 1) as U ∧ (∀ r j, r < n → j ≤ n → U r j = if r < l then Ch.elM M (i + 1) r j else Ch.elM M i r j)) ?_ ?_ ?_
      · exact ⟨v7, v9, as, U, rfl, s', hU, fun r j h2 h3 => by rw [if_neg (by omega)]; exact hel r j h2 h3⟩
      · rintro l σ H4 hl ⟨v7, v9, as, U, rfl, s4, hU4, hel4⟩
        have e0 : ((0 : Int) + (l : Nat)) = ((l : Nat) : Int) := Int.zero_add _
        rw [e0]
        refine ⟨_, rfl, _, rfl, rfl, _, rfl, ?_⟩
        refine ite2 (fun c => ?_) (fun c => ?_)
        · have c' : l ≠ i := fun z => by
            have c2 : ((l : Nat) : Int) ≠ (i : Nat) := by simpa using c
            exact c2 (by rw [z])
          have u1 : ∀ j, j ≤ n → U l j = Ch.elM M i l j := fun j hj => by rw [hel4 _ j hl hj, if_neg (by omega)]
          have u2 : ∀ j, j ≤ n → U i j = Ch.elM M i i j := fun j hj => by
            rw [hel4 i j hi hj]; split
            · exact Ch.elM_same M i j
            · rfl
          refine ⟨_, rfl, _, rfl, D, _, _, _, rfl, rfl, SqL.of hU4.1, atI_nat (rws_get as hl), _, rfl, _, _, _, _, rfl, rfl, SqL.of (hU4.2 _ hl), atI_nat (mget _ (show i < n + 1 by omega)), ?_⟩
          refine ⟨_, rfl, _, rfl, D, _, _, _, rfl, rfl, SqL.of hU4.1, atI_nat (rws_get as hl), _, rfl, _, rfl, D, _, _, _, rfl, rfl, SqL.of hU4.1, atI_nat (rws_get as hi), _, _, _, _, rfl, SqL.of (hU4.2 _ hl), SqL.of (hU4.2 _ hi), ?_⟩
          refine lc_vals (walk_zip (n := n + 1) (by rw [mlen, mlen, Nat.min_self])) (fun j => .int (Ch.elM M (i + 1) l j)) (by omega) (fun H' s => ⟨SqL.of (s _ _ (hU4.2 _ hl)), SqL.of (s _ _ (hU4.2 _ hi))⟩) ?_ ?_
          · rintro j x H5 H6 R hj s5 ⟨T', x1, y1, rfl, hT, rfl, e1, e2⟩ kk
            simp only [mget _ hj] at e1 e2
            cases e1
            cases e2
            refine ⟨T', _, rfl, SqT.of upd_same, rfl, _, _, rfl, _, _, rfl, rfl, ?_⟩
            refine ⟨rfl, ?_⟩
            have w1 : CMulW (Ch.dv M (i + 1)) (U l j) := wide80 hpv (by rw [u1 j (by omega)]; exact hbd i (by omega) l j hl (by omega))
            have w2 : CMulW (U l i) (U i j) := wide80 (by rw [u1 i (by omega)]; exact hbd i (by omega) l i hl (by omega)) (by rw [u2 j (by omega)]; exact hbd i (by omega) i j hi (by omega))
            have w3 : ∀ z, CDivW z (Ch.dv M i) := fun z => wide_div (b := 80) (hdv i (by omega)) (by
              cases i with
              | zero => show (1 : Int).natAbs < 2 ^ 80; decide
              | succ i => exact hbd i (by omega) i i (by omega) (by omega)) (by decide) (by decide)
            refine ⟨_, rfl, _, rfl, _, _, rfl, rfl, w1, _, rfl, _, rfl, _, _, rfl, rfl, w2, _, _, rfl, rfl, _, rfl, _, _, rfl, rfl, w3 _, ?_⟩
            have q := kk (upd H5 T' (.tup [.int (U l j), .int (U i j)])) (Same.new hT)
            rw [Ch.elM_succ M j c', ← u1 j (by omega), ← u1 i (by omega), ← u2 j (by omega)] at q
            exact q
          · intro q H5 hq s5 e5
            have e6 : IRow H5 q (n + 1) (fun j => Ch.elM M (i + 1) l j) := e5
            refine ⟨_, rfl, _, rfl, D, _, _, l, rfl, rfl, s5 _ _ hU4.1, ixn (by rw [rws_len]; exact hl), ?_⟩
            refine ⟨_, _, fun r => if r = l then q else as r, _, rfl, (s4.trans s5).mut hD, MatOf.set (i := l) hU4 s5 e6 n1, fun r j h2 h3 => ?_⟩
            by_cases c : r = l
            · subst c; rw [if_pos rfl, if_pos (by omega)]
            · rw [if_neg c, hel4 r j h2 h3]
              by_cases d : r < l
              · rw [if_pos d, if_pos (by omega)]
              · rw [if_neg d, if_neg (by omega)]
        · have c' : l = i := by
            have c2 : ((l : Nat) : Int) = (i : Nat) := by simpa using c
            omega
          refine ⟨_, _, as, U, rfl, s4, hU4, fun r j h2 h3 => ?_⟩
          rw [hel4 r j h2 h3]
          by_cases d : r < l
          · rw [if_pos d, if_pos (by omega)]
          · rw [if_neg d]
            by_cases e : r < l + 1
            · rw [if_pos e, show r = i by omega, Ch.elM_same]
            · rw [if_neg e]
      · rintro σ H4 ⟨v7, v9, as, U, rfl, s4, hU4, hel4⟩
        refine ⟨_, rfl, some (.int (i : Nat)), some (.int (Ch.dv M (i + 1))), v7, v9, as, U, rfl, s4, hU4, fun r j h2 h3 => ?_⟩
        rw [hel4 r j h2 h3, if_pos h2]
    · rintro σ H' ⟨v5, v6, v7, v9, as, U, rfl, s', hU, hel⟩
      refine ⟨_, rfl, (n : Nat), rfl, by omega, by omega, ?_⟩
      rw [Int.toNat_natCast]
      refine lc_vals (walk_range (n := n)) (fun i => .int (Ch.elM M n i n)) (by omega) (fun H' s => trivial) ?_ ?_
      · rintro i x H4 H5 R hi s4 ⟨rfl, rfl⟩ kk
        have e0 : ((0 : Int) + (i : Nat)) = ((i : Nat) : Int) := Int.zero_add _
        simp only [e0]
        have hU4 := hU.mono s4
        have q := kk H5 (Same.refl _)
        rw [← hel i n hi (Nat.le_refl _)] at q
        exact ⟨rfl, _, rfl, _, rfl, D, _, _, _, rfl, rfl, SqL.of hU4.1, atI_nat (rws_get as hi), _, rfl, _, _, _, _, rfl, rfl, SqL.of (hU4.2 i hi), atI_nat (mget _ (show n < n + 1 by omega)), q⟩
      · intro l H5 hl s5 e5
        refine ⟨_, rfl, (by show 2 ≤ sizeLine; decide), fun p hp => ?_⟩
        have s6 : Same H5 (upd H5 p (.tup [.ref l, .int (Ch.dv M n)])) := Same.new hp
        exact k p l _ (s'.free hl) ((s'.trans s5).free hp) ((s'.trans s5).trans s6) (s6 _ _ e5) upd_same
end
end K11
end
section
set_option Elab.async false
set_option linter.all false
set_option maxRecDepth 100000
namespace K11
open PySem PySem.Spec PyProof.Rows L2
open C8 (Cal Met Mak)
section
variable {P : Program} {w : World} {K : PySem.W.Frag} {mg : Str → Option Value} {base : Heap}
/-! ### is_number, is_name, is_row, is_knot, first_wrong -/
def sp_is_number : Sp := fun vs H Q _ => ∃ i : Int, vs = [.int i] ∧ Q (.bl true) H
theorem sc_is_number : FnScope ["thing"] ["thing"] d_is_number.scope := ⟨rfl, rfl, rfl, by decide +kernel, rfl, by decide +kernel, by decide +kernel⟩
theorem ok_is_number (T : Txt K mg)  : Cal P w K mg base 1 "is_number" sp_is_number [] := by
  refine cal_mk d_is_number T.d_is_number T.g_is_number sc_is_number (fun vs H Q E h => ?_) (fun _ _ _ _ _ _ us hl => match us, hl with | [_], _ => rfl) (fun cdv A outer s H vs Q E hr h => ?_)
  · obtain ⟨_, rfl, _⟩ := h
    rfl
  · have hu := hu_of hr
    obtain ⟨i, rfl, k⟩ := h
    refine ⟨_, (pss_one (ps_ret (pe_and (pe_callB call_isi (by rfl) T.f_isinstance (by decide +kernel) (pa_cons (pv 0) (pa_cons (pe_bltn (v := .ty "int") rfl T.f_int (by decide +kernel) rfl) pa_nil))) (pe_one (pe_not (pe_callB call_isi (by rfl) T.f_isinstance (by decide +kernel) (pa_cons (pv 0) (pa_cons (pe_bltn (v := .ty "bool") rfl T.f_bool (by decide +kernel) rfl) pa_nil)))))))), ?_⟩
    refine ⟨_, rfl, _, _, _, _, true, rfl, .ty _, .base (.int i), rfl, true, rfl, iteT ?_⟩
    exact ⟨_, rfl, _, _, _, _, false, rfl, .ty _, .base (.int i), rfl, false, rfl, k⟩
theorem nm_len (t : Nat) : (nm t).length = 1 := rfl
theorem nm_lo {t : Nat} (h : t < 8) : decide ((nm t).cps.toList < ("a" : Str).cps.toList) = false := (by decide +kernel : ∀ t, t < 8 → decide ((nm t).cps.toList < ("a" : Str).cps.toList) = false) t h
theorem nm_hi {t : Nat} (h : t < 8) : decide (("z" : Str).cps.toList < (nm t).cps.toList) = false := (by decide +kernel : ∀ t, t < 8 → decide (("z" : Str).cps.toList < (nm t).cps.toList) = false) t h
def sp_is_name : Sp := fun vs H Q _ => ∃ t : Nat, vs = [vn t] ∧ t < 8 ∧ ∀ H', Same H H' → Q (.bl true) H'
theorem sc_is_name : FnScope ["thing", "sign"] ["thing"] d_is_name.scope := ⟨rfl, rfl, rfl, by decide +kernel, rfl, by decide +kernel, by decide +kernel⟩
theorem ok_is_name (T : Txt K mg)  : Cal P w K mg base 1 "is_name" sp_is_name [] := by
  refine cal_mk d_is_name T.d_is_name T.g_is_name sc_is_name (fun vs H Q E h => ?_) (fun _ _ _ _ _ _ us hl => match us, hl with | [_], _ => rfl) (fun cdv A outer s H vs Q E hr h => ?_)
  · obtain ⟨_, rfl, _⟩ := h
    rfl
  · have hu := hu_of hr
    obtain ⟨t, rfl, ht, k⟩ := h
    refine ⟨_, (pss_cons (ps_if (PW.pt (pw_or (pt_not (pt_val (pe_callB call_isi (by rfl) T.f_isinstance (by decide +kernel) (pa_cons (pv 0) (pa_cons (pe_bltn (v := .ty "str") rfl T.f_str (by decide +kernel) rfl) pa_nil))))) (pw_or (pt_not (pt_chain op_le op_le pe_int (pe_callB call_len_str (by rfl) T.f_len (by decide +kernel) (pa_cons (pv 0) pa_nil)) (C8.pe_gc rfl T.i_MOST_SIGNS))) (pw_or1 (pt_not (pt_chain op_le_str op_le_str pe_str (pe_ix ix_str (pv 0) pe_int (fun _ _ => rfl)) pe_str))))))
      (pss_one (ps_ret pe_bl))
      pss_nil)
      (pss_one (ps_ret (pe_callB (cr_all rfl) (by rfl) T.f_all (by decide +kernel) (pa_cons (pe_lc (own := [("sign", 1)]) (by rfl) sc_is_name.nd (pi_str (pv 0)) (blkOk_by (own := [("sign", 1)]) (by rfl)) (fun _ _ _ _ _ => (pg_name (i := 1) sc_is_name.nd rfl (Or.inl rfl))) (fun _ _ _ _ _ => pts_nil) (fun _ _ _ _ _ => (pe_or (pe_chain op_le_str op_le_str pe_str (pv 1) pe_str) (pe_or (pe_chain op_le_str op_le_str pe_str (pv 1) pe_str) (pe_one (pe_cmpR op_eq (pv 1) pe_str (nomark _))))))) pa_nil))))), ?_⟩
    refine ⟨_, rfl, _, _, _, _, true, rfl, .ty _, .base (.str _), rfl, true, rfl, iteF ?_⟩
    refine ⟨_, rfl, _, rfl, (by rw [nm_len]; decide), _, _, rfl, rfl, true, (by rw [nm_len]; rfl), iteT ?_⟩
    refine ⟨_, _, rfl, rfl, true, (by rw [nm_len]; rfl), iteF ?_⟩
    refine ⟨_, rfl, nm t, _, nmc t, rfl, rfl, (by rw [nm_len]; decide), rfl, _, _, rfl, rfl, true, ?_, iteT ?_⟩
    · rw [show (⟨#[nmc t]⟩ : Str) = nm t from rfl, nm_lo ht]; rfl
    refine ⟨_, _, rfl, rfl, true, (by rw [show (⟨#[nmc t]⟩ : Str) = nm t from rfl, nm_hi ht]; rfl), iteF ?_⟩
    refine ⟨_, rfl, nm t, rfl, ?_⟩
    refine lc_vals (walk_str (z := nm t)) (fun _ => .bl true) (by show 1 ≤ 100000; decide) (fun _ _ => trivial) ?_ ?_
    · rintro i x H' H'' R hi s ⟨rfl, c, hc, rfl⟩ kk
      have hi0 : i = 0 := by have : i < 1 := hi; omega
      subst hi0
      have hc' : c = nmc t := (Option.some.inj hc).symm
      subst hc'
      refine ⟨rfl, ?_⟩
      refine ⟨_, rfl, _, _, rfl, rfl, true, (by rw [show (⟨#[nmc t]⟩ : Str) = nm t from rfl, nm_lo ht]; rfl), iteT ?_⟩
      refine ⟨_, _, rfl, rfl, true, (by rw [show (⟨#[nmc t]⟩ : Str) = nm t from rfl, nm_hi ht]; rfl), iteT (kk _ (Same.refl _))⟩
    · intro D H' hD s e
      exact ⟨D, [true], rfl, SqL.of e, k H' s⟩
theorem RowAt.drop {H : Hp} {as : Nat → Addr} {r : List (List Nat)} {i : Nat} {x : V} (hx : ((List.range r.length).map fun i => V.ref (as i))[i]? = some x) (h : ∀ i d, r[i]? = some d → DropAt H (as i) d) : ∃ d, r[i]? = some d ∧ x = .ref (as i) ∧ DropAt H (as i) d := by
  have hi : i < r.length := by
    have := (List.getElem?_eq_some_iff.mp hx).1
    rw [List.length_map, List.length_range] at this; exact this
  rw [mget _ hi] at hx
  cases hx
  exact ⟨r[i], List.getElem?_eq_getElem hi, rfl, h i _ (List.getElem?_eq_getElem hi)⟩
def sp_is_row : Sp := fun vs H Q _ => ∃ (a kd : Addr) (r : List (List Nat)) (ks : List Nat), vs = [.ref a, .ref kd] ∧ RowAt H a r ∧ H kd = some (.dK (dk ks fun _ => .bl true)) ∧ r.length ≤ 12 ∧ (∀ d ∈ r, d.length ≤ 4 ∧ ∀ t ∈ d, t ∈ ks) ∧ ∀ H', Same H H' → Q (.bl true) H'
theorem sc_is_row : FnScope ["thing", "known", "drop", "target"] ["thing", "known"] d_is_row.scope := ⟨rfl, rfl, rfl, by decide +kernel, rfl, by decide +kernel, by decide +kernel⟩
theorem ok_is_row (T : Txt K mg)  : Cal P w K mg base 1 "is_row" sp_is_row [] := by
  refine cal_mk d_is_row T.d_is_row T.g_is_row sc_is_row (fun vs H Q E h => ?_) (fun _ _ _ _ _ _ us hl => match us, hl with | [_, _], _ => rfl) (fun cdv A outer s H vs Q E hr h => ?_)
  · obtain ⟨_, _, _, _, rfl, _⟩ := h
    rfl
  · have hu := hu_of hr
    obtain ⟨a, kd, r, ks, rfl, ⟨as, g1, g2⟩, hk, h12, hd, k⟩ := h
    refine ⟨_, (pss_cons (ps_if (PW.pt (pw_or (pt_not (pt_val (pe_callB call_isi (by rfl) T.f_isinstance (by decide +kernel) (pa_cons (pv 0) (pa_cons (pe_bltn (v := .ty "tuple") rfl T.f_tuple (by decide +kernel) rfl) pa_nil))))) (pw_or1 (pt_cmpR op_gt (pe_callB call_len_seq (by rfl) T.f_len (by decide +kernel) (pa_cons (pv 0) pa_nil)) (C8.pe_gc rfl T.i_MOST_DROPS) (nomark _)))))
      (pss_one (ps_ret pe_bl))
      pss_nil)
      (pss_cons (ps_for PassesOwn.never rfl (pi_tup (pv 0)) (pg_name (i := 2) sc_is_row.nd rfl (Or.inl rfl))
      (pss_cons (ps_if (PW.pt (pw_or (pt_not (pt_val (pe_callB call_isi (by rfl) T.f_isinstance (by decide +kernel) (pa_cons (pv 2) (pa_cons (pe_bltn (v := .ty "tuple") rfl T.f_tuple (by decide +kernel) rfl) pa_nil))))) (pw_or1 (pt_cmpR op_gt (pe_callB call_len_seq (by rfl) T.f_len (by decide +kernel) (pa_cons (pv 2) pa_nil)) (C8.pe_gc rfl T.i_MOST_TARGETS) (nomark _)))))
        (pss_one (ps_ret pe_bl))
        pss_nil)
        (pss_one (ps_if (pt_not (pt_val (pe_callB (cr_all rfl) (by rfl) T.f_all (by decide +kernel) (pa_cons (pe_lc (te := tAndV (tCB (rIsi K) (tCons (tVar 3) (tCons (tC (.ty "str")) tNil))) (tDIn (tVar 3) (tVar 1))) (own := [("target", 3)]) (by rfl) sc_is_row.nd (pi_tup (pv 2)) (blkOk_by (own := [("target", 3)]) (by rfl)) (fun _ _ _ _ _ => (pg_name (i := 3) sc_is_row.nd rfl (Or.inl rfl))) (fun _ _ _ _ _ => pts_nil) (fun _ _ _ _ _ => (pe_and (pe_callB call_isi (by rfl) T.f_isinstance boot_isinstance (pa_cons (pv 3) (pa_cons (pe_bltn (v := .ty "str") rfl T.f_str boot_str rfl) pa_nil))) (pe_one (pe_cmp (pc_din hu (pv 3) (pv 1))))))) pa_nil))))
        (pss_one (ps_ret pe_bl))
        pss_nil))))
      (pss_one (ps_ret pe_bl)))), ?_⟩
    refine ⟨_, rfl, _, _, _, _, true, rfl, .ty _, .base (.tup g1), rfl, true, rfl, iteF ?_⟩
    refine ⟨_, rfl, a, _, rfl, .inr (SqT.of g1), _, _, rfl, rfl, _, rfl, ?_⟩
    rw [mlen, decide_eq_false (show ¬ (12 : Int) < (r.length : Nat) by omega)]
    refine iteF ?_
    refine ⟨_, rfl, a, rfl, ⟨_, SqT.of g1⟩, ?_⟩
    refine for_tup (K := K) (a := a) (xs := (List.range r.length).map fun i => V.ref (as i)) (fun i σ H' => ∃ v2, σ = [some (.ref a), some (.ref kd), v2, none] ∧ Same H H') ?_ ?_ ?_ ?_
    · exact ⟨none, rfl, Same.refl _⟩
    · rintro i σ H' _ ⟨_, _, s'⟩
      exact SqT.of (s' _ _ g1)
    · rintro i x σ H' hx ⟨v2, rfl, s'⟩
      obtain ⟨d, hdi, rfl, hda⟩ := RowAt.drop hx g2
      obtain ⟨d4, dks⟩ := hd d (List.mem_of_getElem? hdi)
      have hda' := hda.mono s'
      refine ⟨_, rfl, _, _, _, _, true, rfl, .ty _, .base (.tup hda'), rfl, true, rfl, iteF ?_⟩
      refine ⟨_, rfl, as i, _, rfl, .inr (SqT.of hda'), _, _, rfl, rfl, _, rfl, ?_⟩
      rw [List.length_map, decide_eq_false (show ¬ (4 : Int) < (d.length : Nat) by omega)]
      refine iteF ?_
      refine ⟨_, rfl, as i, rfl, ⟨_, SqT.of hda'⟩, ?_⟩
      refine lc_vals (walk_tup (xs := d.map vn)) (fun _ => .bl true) (by rw [List.length_map]; omega) (fun H' s => SqT.of (s _ _ hda')) ?_ ?_
      · rintro l x H4 H5 R hl s4 ⟨rfl, hx⟩ kk
        rw [List.getElem?_map] at hx
        cases hdl : d[l]? with
        | none => rw [hdl] at hx; cases hx
        | some t =>
          rw [hdl] at hx
          cases hx
          refine ⟨rfl, _, rfl, _, _, _, _, true, rfl, .ty _, .base (.str _), rfl, true, rfl, iteT ?_⟩
          exact ⟨_, rfl, _, rfl, kd, _, rfl, DGet.in_ (s4 _ _ (s' _ _ hk)) (dks t (List.mem_of_getElem? hdl)), kk _ (Same.refl _)⟩
      · intro D H4 hD s4 e4
        refine ⟨D, List.replicate (d.map vn).length true, rfl, SqL.of (by rw [e4]; congr 2; simp [List.map_const']), ?_⟩
        have : (List.replicate (d.map vn).length true).all id = true := by simp
        rw [this]
        exact ⟨true, rfl, iteF ⟨_, rfl, s'.trans s4⟩⟩
    · rintro σ H' ⟨v2, rfl, s'⟩
      exact k H' s'
def dropD (d : List Nat) : PyData := .tuple (d.map fun t => .str (nm t))
def rowD (r : List (List Nat)) : PyData := .tuple (r.map dropD)
theorem DpAll.map {α : Type} {H : Hp} {f : α → V} {g : α → PyData} : ∀ {l : List α}, (∀ x ∈ l, Dp K H (f x) (g x)) → DpAll K H (l.map f) (l.map g)
  | [], _ => .nil
  | x :: l, h => .cons (h x (List.mem_cons_self ..)) (DpAll.map fun y hy => h y (List.mem_cons_of_mem _ hy))
theorem drop_dp {H : Hp} {a : Addr} {d : List Nat} (h : DropAt H a d) : Dp K H (.ref a) (dropD d) := .tup (SqT.of h) (DpAll.map fun t _ => .str _)
theorem rng_map {α β : Type} (f : α → β) (l : List α) (g : Nat → β) (h : ∀ i x, l[i]? = some x → g i = f x) : (List.range l.length).map g = l.map f := by
  refine List.ext_getElem? fun i => ?_
  by_cases c : i < l.length
  · rw [mget _ c, List.getElem?_map, List.getElem?_eq_getElem c]
    exact congrArg some (h i _ (List.getElem?_eq_getElem c))
  · rw [List.getElem?_eq_none (by rw [mlen]; omega), List.getElem?_eq_none (by rw [List.length_map]; omega)]
theorem row_dp {H : Hp} {a : Addr} {r : List (List Nat)} (h : RowAt H a r) : Dp K H (.ref a) (rowD r) := by
  obtain ⟨as, h1, h2⟩ := h
  refine .tup (SqT.of h1) ?_
  have e : r.map dropD = (List.range r.length).map fun i => dropD (r.getD i []) := (rng_map dropD r _ fun i x hx => by rw [List.getD_eq_getElem?_getD, hx]; rfl).symm
  rw [e]
  refine DpAll.map fun i hi => drop_dp (h2 i _ ?_)
  have hi' := List.mem_range.mp hi
  rw [List.getD_eq_getElem?_getD, List.getElem?_eq_getElem hi']; rfl
theorem shape_mk {d : PyData} (h1 : d.canLay0 = true) (h2 : d.depth ≤ 64) : SeqAt.shaped d = true := by
  show (d.canLay0 && decide (d.depth ≤ 64)) = true
  rw [Bool.and_eq_true]; exact ⟨h1, decide_eq_true h2⟩
theorem nm_ok {t : Nat} (h : t < 8) : PyData.strOk (nm t) = true := (by decide +kernel : ∀ t, t < 8 → PyData.strOk (nm t) = true) t h
theorem lay_map {α : Type} {g : α → PyData} : ∀ {l : List α}, (∀ x ∈ l, (g x).canLay0 = true) → PyData.canLayAll0 (l.map g) = true
  | [], _ => rfl
  | x :: l, h => by
    rw [List.map_cons, PyData.canLayAll0, h x (List.mem_cons_self ..), lay_map fun y hy => h y (List.mem_cons_of_mem _ hy)]; rfl
theorem depth_map {α : Type} {g : α → PyData} {n : Nat} : ∀ {l : List α}, (∀ x ∈ l, (g x).depth ≤ n) → PyData.depthAll (l.map g) ≤ n
  | [], _ => Nat.zero_le _
  | x :: l, h => by
    rw [List.map_cons, PyData.depthAll]
    exact Nat.max_le.mpr ⟨h x (List.mem_cons_self ..), depth_map fun y hy => h y (List.mem_cons_of_mem _ hy)⟩
theorem rowD_shaped {r : List (List Nat)} (h : ∀ d ∈ r, ∀ t ∈ d, t < 8) : SeqAt.shaped (rowD r) = true := by
  refine shape_mk ?_ ?_
  · show PyData.canLay0 (.tuple _) = true
    rw [PyData.canLay0]
    refine lay_map fun d hd => ?_
    show PyData.canLay0 (.tuple _) = true
    rw [PyData.canLay0]
    exact lay_map fun t ht => by rw [PyData.canLay0]; exact nm_ok (h d hd t ht)
  · show PyData.depth (.tuple _) ≤ 64
    rw [PyData.depth]
    have : PyData.depthAll (r.map dropD) ≤ 1 := depth_map fun d _ => by
      show PyData.depth (.tuple _) ≤ 1
      rw [PyData.depth]
      have : PyData.depthAll (d.map fun t => PyData.str (nm t)) ≤ 0 := depth_map fun t _ => by rw [PyData.depth]; exact Nat.le_refl _
      omega
    omega
def sp_is_knot : Sp := fun vs H Q _ => ∃ (a kd : Addr) (kn : Ch.Kn) (ks : List Nat), vs = [.ref a, .ref kd] ∧ KnotAt H a kn ∧ H kd = some (.dK (dk ks fun _ => .bl true)) ∧ kn.tu ≠ [] ∧ kn.fr.length ≤ 12 ∧ kn.tu.length ≤ 12 ∧ (∀ t ∈ ks, t < 8) ∧ (∀ d ∈ kn.ds, d.length ≤ 4 ∧ ∀ t ∈ d, t ∈ ks) ∧ ∀ H', Same H H' → Q (.bl true) H'
theorem sc_is_knot : FnScope ["thing", "known"] ["thing", "known"] d_is_knot.scope := ⟨rfl, rfl, rfl, by decide +kernel, rfl, by decide +kernel, by decide +kernel⟩
theorem ok_is_knot (T : Txt K mg) (c_is_row : Cal P w K mg base 1 "is_row" sp_is_row []) : Cal P w K mg base 2 "is_knot" sp_is_knot [] := by
  refine cal_mk d_is_knot T.d_is_knot T.g_is_knot sc_is_knot (fun vs H Q E h => ?_) (fun _ _ _ _ _ _ us hl => match us, hl with | [_, _], _ => rfl) (fun cdv A outer s H vs Q E hr h => ?_)
  · obtain ⟨_, _, _, _, rfl, _⟩ := h
    rfl
  · have hu := hu_of hr
    obtain ⟨a, kd, kn, ks, rfl, ⟨f, t, g1, g2, g3⟩, hk, ht, h12, h12', hk8, hd, k⟩ := h
    refine ⟨_, (pss_cons (ps_if (PW.pt (pw_or (pt_not (pt_val (pe_callB call_isi (by rfl) T.f_isinstance (by decide +kernel) (pa_cons (pv 0) (pa_cons (pe_bltn (v := .ty "tuple") rfl T.f_tuple (by decide +kernel) rfl) pa_nil))))) (pw_or (pt_cmpR op_ne (pe_callB call_len_seq (by rfl) T.f_len (by decide +kernel) (pa_cons (pv 0) pa_nil)) pe_int (nomark _)) (pw_or1 (pt_not (pt_val (C8.pe_c c_is_row hr (by decide) rfl (pa_cons (pe_ix ix_tup (pv 0) pe_int (fun _ _ => rfl)) (pa_cons (pv 1) pa_nil)))))))))
      (pss_one (ps_ret pe_bl))
      pss_nil)
      (pss_one (ps_ret (pe_and (C8.pe_c c_is_row hr (by decide) rfl (pa_cons (pe_ix ix_tup (pv 0) pe_int (fun _ _ => rfl)) (pa_cons (pv 1) pa_nil))) (pe_one (pe_cmpR (op_neD hr.units) (pe_ix ix_tup (pv 0) pe_int (fun _ _ => rfl)) (pe_tup pa_nil) (nomark _))))))), ?_⟩
    refine ⟨_, rfl, _, _, _, _, true, rfl, .ty _, .base (.tup g1), rfl, true, rfl, iteF ?_⟩
    refine ⟨_, rfl, a, _, rfl, .inr (SqT.of g1), rfl, _, rfl, iteF ?_⟩
    refine ⟨_, rfl, a, _, _, _, rfl, rfl, SqT.of g1, at0, _, rfl, f, kd, kn.fr, ks, rfl, g2, hk, h12, fun d h => hd d (List.mem_append_left _ h), fun H1 s1 => ⟨true, rfl, iteF ?_⟩⟩
    refine ⟨_, rfl, a, _, _, _, rfl, rfl, SqT.of (s1 _ _ g1), at1, _, rfl, t, kd, kn.tu, ks, rfl, g3.mono s1, s1 _ _ hk, h12', fun d h => hd d (List.mem_append_right _ h), fun H2 s2 => ⟨true, rfl, iteT ?_⟩⟩
    refine ⟨_, rfl, a, _, _, _, rfl, rfl, SqT.of (s2 _ _ (s1 _ _ g1)), at1, (by show 0 ≤ sizeLine; exact Nat.zero_le _), fun p hp => ?_⟩
    have s3 : Same H2 (upd H2 p (.tup [])) := Same.new hp
    have g4 := ((g3.mono s1).mono s2).mono s3
    have q := row_dp (K := K) g4
    refine ⟨_, _, q, .tup (SqT.of upd_same) .nil, rowD_shaped fun d h t ht => hk8 t ((hd d (List.mem_append_right _ h)).2 t ht), rfl, ?_⟩
    have e : PyData.eqv (rowD kn.tu) (.tuple []) = false := by
      unfold rowD
      cases hh : kn.tu with
      | nil => exact absurd hh ht
      | cons x xs => rfl
    rw [e]
    exact k _ ((s1.trans s2).trans s3)
theorem nd_take {ks : List Nat} {i t : Nat} (hnd : ks.Nodup) (hi : ks[i]? = some t) : t ∉ ks.take i := fun hm => by
  obtain ⟨hil, hie⟩ := List.getElem?_eq_some_iff.mp hi
  have e : ks = ks.take i ++ t :: ks.drop (i + 1) := by
    conv => lhs; rw [← List.take_append_drop i ks, List.drop_eq_getElem_cons hil, hie]
  rw [e] at hnd
  exact (List.nodup_append.mp hnd).2.2 t hm t (List.mem_cons_self ..) rfl
def sp_first_wrong : Sp := fun vs H Q _ => ∃ (a : Addr) (ks : List Nat), vs = [.ref a] ∧ H a = some (.lst (ks.map vn)) ∧ ks.Nodup ∧ (∀ t ∈ ks, t < 8) ∧ ∀ p H', H p = none → Same H H' → H' p = some (.lst []) → Q (.ref p) H'
theorem sc_first_wrong : FnScope ["names", "seen", "name"] ["names"] d_first_wrong.scope := ⟨rfl, rfl, rfl, by decide +kernel, rfl, by decide +kernel, by decide +kernel⟩
theorem ok_first_wrong (T : Txt K mg) (c_is_name : Cal P w K mg base 1 "is_name" sp_is_name []) : Cal P w K mg base 2 "first_wrong" sp_first_wrong [] := by
  refine cal_mk d_first_wrong T.d_first_wrong T.g_first_wrong sc_first_wrong (fun vs H Q E h => ?_) (fun _ _ _ _ _ _ us hl => match us, hl with | [_], _ => rfl) (fun cdv A outer s H vs Q E hr h => ?_)
  · obtain ⟨_, _, rfl, _⟩ := h
    rfl
  · have hu := hu_of hr
    obtain ⟨a, ks, rfl, ha, hnd, h8, k⟩ := h
    refine ⟨_, (pss_cons (ps_set (i := 1) sc_first_wrong.nd rfl (Or.inl rfl) pe_dnewK)
      (pss_cons (ps_for PassesOwn.never rfl (pi_list (pv 0)) (pg_name (i := 2) sc_first_wrong.nd rfl (Or.inl rfl))
      (pss_cons (ps_if (PW.pt (pw_or (pt_not (pt_val (C8.pe_c c_is_name hr (by decide) rfl (pa_cons (pv 2) pa_nil)))) (pw_or1 (pt_cmp (pc_din hu (pv 2) (pv 1))))))
        (pss_one (ps_ret (pe_lst (pa_cons (pe_ifExp (pt_val (pe_callB call_isi (by rfl) T.f_isinstance (by decide +kernel) (pa_cons (pv 2) (pa_cons (pe_bltn (v := .ty "str") rfl T.f_str (by decide +kernel) rfl) pa_nil)))) (pv 2) pe_non) pa_nil))))
        pss_nil)
        (pss_one (ps_dput hu (pv 1) (pv 2) pe_bl rfl))))
      (pss_one (ps_ret (pe_lst pa_nil))))), ?_⟩
    intro d hd
    have s0 : Same H (upd H d (.dK [])) := Same.new hd
    refine ⟨_, rfl, a, rfl, ⟨_, SqL.of (s0 _ _ ha)⟩, ?_⟩
    refine for_list (K := K) (a := a) (xs := ks.map vn) (fun i σ H' => ∃ v2, σ = [some (.ref a), some (.ref d), v2] ∧ Same H H' ∧ H' d = some (.dK (dk (ks.take i) fun _ => .bl true))) ?_ ?_ ?_ ?_
    · exact ⟨none, rfl, s0, upd_same⟩
    · rintro i σ H' _ ⟨_, _, s', _⟩
      exact SqL.of (s' _ _ ha)
    · rintro i x σ H' hx ⟨v2, rfl, s', e'⟩
      rw [List.getElem?_map] at hx
      cases hi : ks[i]? with
      | none => rw [hi] at hx; cases hx
      | some t =>
        rw [hi] at hx
        cases hx
        have htk := List.mem_of_getElem? hi
        have hnt : t ∉ ks.take i := nd_take hnd hi
        refine ⟨_, rfl, t, rfl, h8 t htk, fun H1 s1 => ⟨true, rfl, iteF ?_⟩⟩
        have e1 := s1 _ _ e'
        have g := DGet.n e1 t
        rw [if_neg hnt] at g
        refine ⟨_, rfl, _, rfl, d, _, rfl, g, false, rfl, iteF ?_⟩
        have l8 : (ks.take i).length ≤ 1000 := by
          have := nodup_le hnd h8
          rw [List.length_take]; omega
        refine ⟨_, rfl, _, rfl, d, _, rfl, DPut.n e1 t (.bl true) l8, ?_⟩
        refine ⟨_, rfl, (s'.trans s1).mut hd, ?_⟩
        rw [upd_same]
        have e3 : kput (ks.take i) t = ks.take (i + 1) := by
          unfold kput
          rw [if_neg hnt, List.take_succ, hi]; rfl
        rw [e3]
        congr 2
        exact dk_congr fun u _ => by unfold fput; split <;> rfl
    · rintro σ H' ⟨v2, rfl, s', e'⟩
      refine ⟨(by show 0 ≤ sizeLine; exact Nat.zero_le _), fun p hp => ?_⟩
      exact k p _ (s'.free hp) (s'.trans (Same.new hp)) upd_same
end
end K11
end
section
set_option Elab.async false
set_option linter.all false
set_option maxRecDepth 100000
/-! R3: sorted of a tuple of texts; sorted texts are one list only. -/
namespace K11
open PySem PySem.Spec PyProof.Rows L2
open C8 (Cal Met Mak)
section
variable {X : Cx}
def rSortedTS (K : PySem.W.Frag) : List V → Hp → VK → Prop := fun vs H Q => ∃ (a : Addr) (xs : List Str), vs = [V.ref a] ∧ SqT K H a (xs.map V.str) ∧ xs.length < 64 ∧
  ∀ (ys : List Str) (p : Addr), ys.Perm xs → sortedS ys = true → H p = none → Q (.ref p) (upd H p (.lst (ys.map V.str)))
theorem cr_sortedTS : CallR X (.builtin "sorted") (rSortedTS X.K) := by
  intro pins s σ H xs us Q I r q
  obtain ⟨a, ks, ex, hq, h64, q⟩ := q
  subst ex
  rw [Vals.ref1 r]
  obtain ⟨its, rv, pl, hz⟩ := I.tuple hq
  obtain ⟨o, ho, hc, n, hd⟩ := id pl
  have hS : StrsAre its ks := rv.strs
  have hal : its.length = ks.length := by rw [← rv.length, List.length_map]
  refine Calls.call_function_entry PyProof.Rows.kind_sorted PyProof.Rows.plain_sorted PyProof.Rows.entry_sorted (PyProof.Rows.args_sorted1 _) ?_
  unfold Builtin.«sorted»
  refine wpAny_bind (m := checkCount "sorted" 1 1 _) (wpAny_pure ?_)
  refine wpAny_bind (wpAny_collect_seq a (.inr rfl) ho hc hd (fun h' hk => ?_) (by rw [List.size_toArray, hal, sizeLine_eq]; omega))
  have e : its.toArray.toList = its := by simp
  rw [e]
  have I1 : Inv X pins σ H { s with heap := h' } := I.kept (t' := s.toks) hk
  refine wpAny_bind (wpAny_newList ?_ (by rw [hal, sizeLine_eq]; omega))
  have hoL : (h'.push (seqObj "list" its.toArray 0)).get? h'.objs.size = some (seqObj "list" its.toArray 0) := Heap.get?_push_size _ rfl
  show wpAny _ _ _ _ _ { s with heap := h'.push (seqObj "list" its.toArray 0) }
  refine wpAny_bind (wpAny_holding (wpAny_call_entry PyProof.Rows.slot_list_sort ⟨_, hoL, rfl⟩ PyProof.Rows.entry_list_sort
    (list_sort_treeK strKind_oneLt (s := { s with heap := h'.push (seqObj "list" its.toArray 0) }) hoL hS.keysOf (fun v₁ v₂ rest e => keyKind_strs (by rw [← e]; exact hS)) (by rw [hal]; exact h64) fun st' hp hs => ⟨_, rfl, ?_⟩)
    (PyProof.Rows.args_list_sort _)))
  obtain ⟨ys, g1, g2, g3⟩ := sorted_out_str hS hp hs
  obtain ⟨e', he'⟩ := PyProof.Rows.sortedHeap_at (vs := its) (out := (arrOf st').map (·.2)) hoL
  have hlen : (ys.map V.str).length ≤ sizeLine := by
    rw [List.length_map, g2.length_eq]
    exact Nat.le_trans (Nat.le_of_lt h64) (by decide)
  refine wpAny_pure ⟨_, rfl, .ref h'.objs.size, upd H h'.objs.size (.lst (ys.map V.str)), I1.laid (t' := s.toks) (fun b u e => ?_) (Nat.le_refl _)
    (show ObjOk X.prog X.w _ _ _ (.lst (ys.map V.str)) from ⟨hlen, ((arrOf st').map (·.2)).toList, e', vals_of_strs g1, by rw [Array.toArray_toList]; exact he'⟩), rfl, q ys _ g2 g3 (I1.hok.fresh (Nat.le_refl _))⟩
  have hb : b < h'.objs.size := Heap.lt_size e
  rw [PyProof.Rows.sortedHeap_old (Nat.ne_of_lt hb) (by rw [size_push']; exact Nat.lt_succ_of_lt hb)]
  exact Heap.get?_push_of_some _ e
/-! ### one sorted list only -/
def leS (x y : Str) : Prop := ltCps y.cps.toList x.cps.toList = false
/-- names are told apart by one sign -/
theorem lt_nm (a b : Nat) : ltCps (nm a).cps.toList (nm b).cps.toList = decide (nmc a < nmc b) := by
  show ltCps [nmc a] [nmc b] = _
  unfold ltCps
  by_cases h1 : nmc a < nmc b
  · simp [h1]
  · by_cases h2 : nmc b < nmc a
    · simp [h1, h2]
      intro _; rfl
    · have : nmc a = nmc b := by omega
      simp [this]
      rfl
theorem sorted_pw : ∀ {l : List Nat}, sortedS (l.map nm) = true → l.Pairwise fun a b => nmc a ≤ nmc b
  | [], _ => List.Pairwise.nil
  | x :: l, h => by
    have go : ∀ (l : List Nat) (p : Nat), risingS (nm p) (l.map nm) = true → (∀ y ∈ l, nmc p ≤ nmc y) ∧ l.Pairwise fun a b => nmc a ≤ nmc b := fun l => by
      induction l with
      | nil => exact fun p _ => ⟨fun y h => (nomatch h), List.Pairwise.nil⟩
      | cons y l ih =>
        intro p h
        have h' : (!ltCps (nm y).cps.toList (nm p).cps.toList && risingS (nm y) (l.map nm)) = true := h
        rw [Bool.and_eq_true, lt_nm] at h'
        obtain ⟨h1, h2⟩ := h'
        have h3 : ¬ nmc y < nmc p := fun z => by rw [decide_eq_true z] at h1; cases h1
        obtain ⟨i1, i2⟩ := ih y h2
        refine ⟨fun z hz => ?_, List.pairwise_cons.mpr ⟨i1, i2⟩⟩
        rcases List.mem_cons.mp hz with e | e
        · rw [e]; omega
        · have := i1 z e; omega
    obtain ⟨a, b⟩ := go l x h
    exact List.pairwise_cons.mpr ⟨a, b⟩
theorem sorted_one {ys : List Str} {l : List Nat} (hp : ys.Perm (l.map nm)) (hs : sortedS ys = true) (hl : l.Pairwise fun a b => nmc a ≤ nmc b) : ys = l.map nm := by
  have : ∃ m : List Nat, ys = m.map nm := by
    have h : ∀ y ∈ ys, ∃ t, y = nm t := fun y hy => by
      obtain ⟨t, _, e⟩ := List.mem_map.mp (hp.mem_iff.mp hy)
      exact ⟨t, e.symm⟩
    clear hp hs
    induction ys with
    | nil => exact ⟨[], rfl⟩
    | cons y ys ih =>
      obtain ⟨t, e⟩ := h y (List.mem_cons_self ..)
      obtain ⟨m, em⟩ := ih fun z hz => h z (List.mem_cons_of_mem _ hz)
      exact ⟨t :: m, by rw [List.map_cons, e, em]⟩
  obtain ⟨m, rfl⟩ := this
  have hp' : m.Perm l := by
    let g : Str → Nat := fun s => Classical.epsilon fun t => nm t = s
    have e : ∀ l : List Nat, (l.map nm).map g = l := fun l => by
      rw [List.map_map]
      conv => rhs; rw [← List.map_id l]
      refine List.map_congr_left fun t _ => ?_
      exact nm_inj (Classical.epsilon_spec (p := fun u => nm u = nm t) ⟨t, rfl⟩)
    have := hp.map g
    rw [e, e] at this
    exact this
  rw [List.Perm.eq_of_pairwise (fun a b _ _ h1 h2 => nmc_inj (Nat.le_antisymm h1 h2)) (sorted_pw hs) hl hp']
end
end K11
end
section
set_option Elab.async false
set_option linter.all false
set_option maxRecDepth 100000
/-! K6: comprehensions with a test. -/
namespace K11
open PySem PySem.Spec PyProof.Rows L2
open C8 (Cal Met Mak)
section
variable {J : It} {n : Nat} {G : Hp → Prop} {Y : Nat → Hp → V → Hp → Prop} {g : TG} {te : TE} {tt : TT} {vs : List Nat} {σ : L2.St} {H1 : Hp}
/-- items v i for the i that pass c -/
theorem lc_filt (w : Walk J n G Y) (c : Nat → Bool) (v : Nat → V) (hz : n ≤ 100000) (hG : ∀ H, Same H1 H → G H)
    (turn : ∀ i x H H' (R : Bool → L2.St → Hp → Prop), i < n → Same H1 H → Y i H x H' → (∀ σ2 H4, Same H H4 → (c i = true → te σ2 H4 fun y H5 => y = v i ∧ Same H4 H5) → R (c i) σ2 H4) → g x (wipe σ vs) H' fun σ2 H2 => wipe σ2 vs = wipe σ vs ∧ tt σ2 H2 fun b H3 => R b σ2 H3)
    (mono : ∀ σ H (R R' : V → Hp → Prop), te σ H R → (∀ y H', R y H' → R' y H') → te σ H R')
    {Q : Addr → Hp → Prop} (done : ∀ D H', H1 D = none → Same H1 H' → H' D = some (.lst (((List.range n).filter c).map v)) → Q D H') :
    ∀ D, H1 D = none → ∃ W : Nat → Nat → Hp → Prop, (∃ m, W 0 m (upd H1 D (.lst []))) ∧ ∀ i m H, W i m H →
    (J.stop i H ∧ Q D H) ∨ (J.go i H ∧ ∃ Nx : Hp → Prop, (∀ H', Nx H' → ∃ m', m' < m ∧ W (i + 1) m' H') ∧ ∀ x H', J.yld i H x H' → g x (wipe σ vs) H' fun σ2 H2 => wipe σ2 vs = wipe σ vs ∧ tt σ2 H2 fun b H3 =>
      if b = true then te σ2 H3 fun y H4 => ∃ acc, H4 D = some (.lst acc) ∧ acc.length < sizeLine ∧ Nx (upd H4 D (.lst (acc ++ [y]))) else Nx H3) := fun D hD => by
  refine lc_it w (Qd := fun H => Q D H) (fun i H => Same H1 H ∧ H D = some (.lst (((List.range i).filter c).map v))) ?_ (fun i H _ p => hG H p.1) ?_ ?_
  · exact ⟨Same.new hD, upd_same⟩
  · rintro i x H H' hi ⟨s, ha⟩ hy
    refine turn i x H H' (fun b σ2 H3 => if b = true then te σ2 H3 fun y H4 => ∃ acc, H4 D = some (.lst acc) ∧ acc.length < sizeLine ∧ _ else _) hi s hy fun σ2 H4 s4 k => ?_
    have ha4 := s4 _ _ ha
    have e : (List.range (i + 1)).filter c = (List.range i).filter c ++ (if c i = true then [i] else []) := by
      rw [List.range_succ, List.filter_append]
      congr 1
      by_cases h : c i = true
      · rw [if_pos h, List.filter_cons, if_pos h]; rfl
      · rw [if_neg h, List.filter_cons, if_neg h]; rfl
    have hl : (((List.range i).filter c).map v).length ≤ i := by
      rw [List.length_map]
      have := List.length_filter_le c (List.range i)
      rw [List.length_range] at this; exact this
    by_cases h : c i = true
    · rw [h]
      refine iteT (mono _ _ _ _ (k h) fun y H5 ⟨ey, s5⟩ => ?_)
      refine ⟨_, s5 _ _ ha4, sz5 (by omega), ((s.trans s4).trans s5).mut hD, ?_⟩
      rw [upd_same, e, if_pos h, List.map_append, ey]; rfl
    · have h' : c i = false := by cases hh : c i; rfl; exact absurd hh h
      rw [h']
      refine iteF ⟨s.trans s4, ?_⟩
      rw [ha4, e, h']
      simp
  · rintro H ⟨s, ha⟩
    exact done D H hD s ha
end
end K11
end
section
set_option Elab.async false
set_option linter.all false
set_option maxRecDepth 100000
namespace K11
open PySem PySem.Spec PyProof.Rows L2
open C8 (Cal Met Mak)
section
variable {P : Program} {w : World} {K : PySem.W.Frag} {mg : Str → Option Value} {base : Heap}
/-! ### Net.met -/
theorem filt_list {l : List Nat} (p : Nat → Bool) (f : Nat → V) : ((List.range l.length).filter fun i => p (l.getD i 0)).map (fun i => f (l.getD i 0)) = (l.filter p).map f := by
  have e : (List.range l.length).map (fun i => l.getD i 0) = l := by
    conv => rhs; rw [← List.map_id l]
    exact rng_map id l _ fun i x h => by rw [List.getD_eq_getElem?_getD, h]; rfl
  conv => rhs; rw [← e, List.filter_map, List.map_map]
  rfl
theorem strD_shaped {l : List Nat} (h : ∀ t ∈ l, t < 8) : SeqAt.shaped (.list (l.map fun t => .str (nm t))) = true := by
  refine shape_mk ?_ ?_
  · rw [PyData.canLay0]
    exact lay_map fun t ht => by rw [PyData.canLay0]; exact nm_ok (h t ht)
  · rw [PyData.depth]
    have : PyData.depthAll (l.map fun t => PyData.str (nm t)) ≤ 0 := depth_map fun t _ => by rw [PyData.depth]; exact Nat.le_refl _
    omega
def extN (n : Nat) (r : List (List Nat)) : List Nat := r.flatMap fun d => d.filter fun t => decide (t < n)
theorem extN_len {n b : Nat} : ∀ {r : List (List Nat)}, (∀ d ∈ r, d.length ≤ b) → (extN n r).length ≤ b * r.length
  | [], _ => by simp [extN]
  | d :: r, h => by
    have ih := extN_len (n := n) (b := b) (r := r) fun e he => h e (List.mem_cons_of_mem _ he)
    unfold extN at ih ⊢
    rw [List.flatMap_cons, List.length_append, List.length_cons, Nat.mul_add, Nat.mul_one]
    have h1 : (d.filter fun t => decide (t < n)).length ≤ d.length := List.length_filter_le _ _
    have h2 := h d (List.mem_cons_self ..)
    omega
def sp_Net_met (K : PySem.W.Frag) : Sp := fun vs H Q _ => ∃ (a : Addr) (N : Ch.Nt) (jk : Nat) (dx kd id ot nl : Addr), vs = [.ref a] ∧ NetO K H a N jk dx kd id ot nl ∧ jk < N.length ∧ Ch.Drawn N ∧
  ∀ p ks H', H p = none → Same H H' → H' p = some (.dK (dk ks fun _ => .bl true)) → (∀ v, v < N.length → v ∈ ks) → Q (.ref p) H'
theorem sc_Net_met : FnScope ["self", "found", "rest", "name", "drop", "target"] ["self"] d_Net_met.scope := ⟨rfl, rfl, rfl, by decide +kernel, rfl, by decide +kernel, by decide +kernel⟩
theorem ok_Net_met (T : Txt K mg)  : Met P w K mg base 1 (He.ga K "Net") "met" (sp_Net_met K) [] := by
  refine met_mk d_Net_met T.d_Net_met T.c_Net T.t_Net_met sc_Net_met (fun vs H Q E h => ?_) (fun _ _ _ _ _ _ us hl => match us, hl with | [_], _ => rfl) (fun cdv A outer s H vs Q E hr h => ?_)
  · obtain ⟨_, _, _, _, _, _, _, _, rfl, _⟩ := h
    rfl
  · have hu := hu_of hr
    obtain ⟨a, N, jk, dx, kd, id, ot, nl, rfl, O, hj, D, k⟩ := h
    have n1 := D.n1
    have n4 := D.n4
    refine ⟨_, (pss_cons (ps_par (i := 1) (j := 2) rfl sc_Net_met.nd rfl rfl (by decide) rfl rfl (pa_cons pe_dnewK (pa_cons (pe_listVals rfl (pe_fld (pv 0) rfl) (by rfl) T.f_list) pa_nil)) (by rfl))
      (pss_cons (ps_while PassesOwn.never (pt_cmpR (op_neD hr.units) (pv 2) (pe_lst pa_nil) (nomark _))
      (pss_cons (ps_set (i := 3) sc_Net_met.nd rfl (Or.inl rfl) (pe_bm0 PySem.F.plainAttrs_list PySem.F.slot_list_pop PySem.F.type_list_pop mt_pop (pv 2)))
        (pss_one (ps_if (pt_cmp (pc_dnotin hu (pv 3) (pv 1)))
        (pss_cons (ps_dput hu (pv 1) (pv 3) pe_bl rfl)
          (pss_one (ps_for PassesOwn.never rfl (pi_tup (pe_ix ix_tup (pe_dget hu (pe_fld (pv 0) rfl) (pv 3) (fun _ _ => rfl)) pe_int (fun _ _ => rfl))) (pg_name (i := 4) sc_Net_met.nd rfl (Or.inl rfl))
          (pss_one (ps_expr (pe_bm PySem.F.plainAttrs_list PySem.F.slot_list_extend PySem.F.type_list_extend mt_extend (pv 2) (pa_cons (pe_lc (tt := tB (tDIn (tVar 5) (tFld K (tVar 0) "knots"))) (own := [("target", 5)]) (by rfl) sc_Net_met.nd (pi_tup (pv 4)) (blkOk_by (own := [("target", 5)]) (by rfl)) (fun _ _ _ _ _ => (pg_name (i := 5) sc_Net_met.nd rfl (Or.inl rfl))) (fun _ _ _ _ _ => (pts_one (pt_cmp (pc_din hu (pv 5) (pe_fld (pv 0) rfl))))) (fun _ _ _ _ _ => (pv 5))) pa_nil)))))))
        pss_nil))))
      (pss_one (ps_ret (pv 1))))), ?_⟩
    intro d hd
    have s0 : Same H (upd H d (.dK [])) := Same.new hd
    refine ⟨_, rfl, a, _, dx, _, _, rfl, s0 _ _ O.ob, T.c_Net, T.n_Net_inlets, rfl, id, _, rfl, s0 _ _ O.il, fun l hl => ?_⟩
    refine ⟨_, _, rfl, ?_⟩
    have ndl : d ≠ l := fun z => by rw [← z, upd_same] at hl; cases hl
    have hl0 : H l = none := s0.free hl
    have s1 : Same H (upd (upd H d (.dK [])) l (.lst (valsV (dk [6, 7] fun t => vn (if t = 6 then 0 else jk))))) := s0.trans (Same.new hl)
    refine wh (fun m σ H' => ∃ (ks R : List Nat) (v3 v4 : Option V), σ = [some (.ref a), some (.ref d), some (.ref l), v3, v4, none] ∧ Same H H' ∧ H' d = some (.dK (dk ks fun _ => .bl true)) ∧ H' l = some (.lst (R.map vn)) ∧ ks.Nodup ∧ (∀ t ∈ ks, t < N.length) ∧ (∀ t ∈ R, t < N.length) ∧ (0 ∈ ks ∨ 0 ∈ R) ∧ (∀ v ∈ ks, ∀ u, u < N.length → 1 ≤ Ch.cnt N v u → u ∈ ks ∨ u ∈ R) ∧ m = (4 - ks.length) * 20 + R.length ∧ R.length ≤ 2 + 10 * ks.length) 82 ?_ ?_
    · refine ⟨[], [0, jk], none, none, rfl, s1, by rw [upd_ne ndl, upd_same]; rfl, by rw [upd_same]; rfl, List.nodup_nil, fun _ h => (nomatch h), fun t ht => ?_, .inr (List.mem_cons_self ..), fun _ h => (nomatch h), rfl, Nat.le_refl 2⟩
      rcases List.mem_cons.mp ht with e | e
      · omega
      · rw [List.mem_singleton.mp e]; exact hj
    · rintro m σ H' ⟨ks, R, v3, v4, rfl, s', e1, e2, hnd, hks, hR, h0, hcl, rfl, hRl⟩
      refine ⟨_, rfl, (by show 0 ≤ sizeLine; exact Nat.zero_le _), fun p hp => ?_⟩
      have s2 : Same H' (upd H' p (.lst [])) := Same.new hp
      have e1' := s2 _ _ e1
      have e2' := s2 _ _ e2
      have s'' := s'.trans s2
      have hdp : Dp K (upd H' p (.lst [])) (.ref l) (.list (R.map fun t => .str (nm t))) := .lst (SqL.of e2') (DpAll.map fun t _ => .str _)
      refine ⟨_, _, hdp, .lst (SqL.of upd_same) .nil, strD_shaped fun t ht => by have := hR t ht; omega, rfl, ?_⟩
      generalize upd H' p (.lst []) = H2 at *
      cases hRe : R with
      | nil =>
        subst hRe
        refine ⟨false, rfl, ?_⟩
        refine iteF ⟨_, rfl, k d ks H2 hd s'' e1' fun v hv => ?_⟩
        have h0' : 0 ∈ ks := h0.elim (fun h => h) fun h => by cases h
        induction v with
        | zero => exact h0'
        | succ v ih =>
          exact (hcl v (ih (by omega)) (v + 1) hv (D.met v hv)).elim (fun h => h) fun h => by cases h
      | cons r0 rs =>
        have hne : R ≠ [] := by rw [hRe]; exact List.cons_ne_nil _ _
        rw [← hRe]
        refine ⟨true, by rw [hRe]; rfl, ?_⟩
        obtain ⟨R', t, hRt⟩ : ∃ R' t, R = R' ++ [t] := ⟨R.dropLast, R.getLast hne, (List.dropLast_concat_getLast hne).symm⟩
        subst hRt
        clear hRe hne
        have htn : t < N.length := hR t (by simp)
        have e2d : ((R' ++ [t]).map vn).dropLast = R'.map vn := by rw [List.map_append]; exact List.dropLast_concat
        refine iteT ⟨fun σ H' => ∃ m', m' < (4 - ks.length) * 20 + (R' ++ [t]).length ∧ _, fun σ' H' h => h, ?_⟩
        refine ⟨_, rfl, .inl ⟨rfl, _, SqL.of e2'⟩, l, _, vn t, rfl, rfl, e2', by rw [List.map_append, List.length_append]; simp, ?_⟩
        rw [e2d]
        have s3 : Same H (upd H2 l (.lst (R'.map vn))) := s''.mut hl0
        have e1'' : upd H2 l (.lst (R'.map vn)) d = some (.dK (dk ks fun _ => .bl true)) := by rw [upd_ne ndl]; exact e1'
        have e3 : upd H2 l (.lst (R'.map vn)) l = some (.lst (R'.map vn)) := upd_same
        generalize upd H2 l (.lst (R'.map vn)) = H3 at *
        have g := DGet.n e1'' t
        refine ⟨_, rfl, _, rfl, d, _, rfl, g, _, rfl, ?_⟩
        have kl4 : ks.length ≤ N.length := nodup_le hnd hks
        by_cases c : t ∈ ks
        · rw [if_pos c]
          refine iteF ?_
          refine ⟨(4 - ks.length) * 20 + R'.length, by rw [List.length_append]; simp, ks, R', _, v4, rfl, s3, e1'', e3, hnd, hks, fun u hu => hR u (List.mem_append_left _ hu), ?_, fun v hv u hu hc => ?_, rfl, by rw [List.length_append] at hRl; omega⟩
          · rcases h0 with h | h
            · exact .inl h
            · rcases List.mem_append.mp h with h | h
              · exact .inr h
              · rw [List.mem_singleton.mp h]; exact .inl c
          · rcases hcl v hv u hu hc with h | h
            · exact .inl h
            · rcases List.mem_append.mp h with h | h
              · exact .inr h
              · rw [List.mem_singleton.mp h]; exact .inl c
        · rw [if_neg c]
          refine iteT ?_
          refine ⟨_, rfl, _, rfl, d, _, rfl, DPut.n e1'' t (.bl true) (by omega), ?_⟩
          have ekp : kput ks t = ks ++ [t] := by unfold kput; rw [if_neg c]
          have efp : fput (fun _ => V.bl true) t (.bl true) = fun _ => V.bl true := by funext u; unfold fput; split <;> rfl
          rw [ekp, efp]
          have s4 : Same H (upd H3 d (.dK (dk (ks ++ [t]) fun _ => .bl true))) := s3.mut hd
          have e5 : upd H3 d (.dK (dk (ks ++ [t]) fun _ => .bl true)) d = some (.dK (dk (ks ++ [t]) fun _ => .bl true)) := upd_same
          have e6 : upd H3 d (.dK (dk (ks ++ [t]) fun _ => .bl true)) l = some (.lst (R'.map vn)) := by rw [upd_ne ndl.symm]; exact e3
          generalize upd H3 d (.dK (dk (ks ++ [t]) fun _ => .bl true)) = H4 at *
          have O4 := O.mono s4
          obtain ⟨kv, f, tu, g1, g2, g3, g4⟩ := O4.kn.get htn
          obtain ⟨as, g5, g6⟩ := g4
          have hkd := O.kn
          obtain ⟨kns, hk1, _⟩ := O.kn
          refine ⟨_, rfl, a, _, dx, _, _, rfl, O4.ob, T.c_Net, T.n_Net_knots, rfl, _, rfl, kd, _, rfl, g1, kv, _, _, _, rfl, rfl, SqT.of g2, at1, tu, rfl, ⟨_, SqT.of g5⟩, ?_⟩
          have d2 : ∀ e ∈ (Ch.kn N t).tu, e.length ≤ 2 := fun e he => D.dr2 t htn e (List.mem_append_right _ he)
          have t5 := D.tu5 t htn
          refine for_tup (K := K) (a := tu) (xs := (List.range (Ch.kn N t).tu.length).map fun i => V.ref (as i)) (fun i σ H' => ∃ v4, σ = [some (.ref a), some (.ref d), some (.ref l), some (vn t), v4, none] ∧ SameX l H4 H' ∧ Same H H' ∧ H' l = some (.lst ((R' ++ extN N.length ((Ch.kn N t).tu.take i)).map vn))) ?_ ?_ ?_ ?_
          · exact ⟨v4, rfl, SameX.refl _ _, s4, by rw [e6]; simp [extN]⟩
          · rintro i σ H' _ ⟨v4, _, sx, _, e⟩
            exact SqT.of (sx tu _ (ne_of g5 e6 (by intro z; cases z)) g5)
          · rintro i x σ H' hx ⟨v4, rfl, sx, sH, e⟩
            obtain ⟨dr, hdi, rfl, hda⟩ := RowAt.drop hx g6
            have hda' : DropAt H' (as i) dr := sx (as i) _ (ne_of hda e6 (by intro z; cases z)) hda
            have dl := d2 dr (List.mem_of_getElem? hdi)
            have O5 := O.mono sH
            refine ⟨_, rfl, .inl ⟨rfl, _, SqL.of e⟩, _, rfl, as i, rfl, ⟨_, SqT.of hda'⟩, ?_⟩
            refine lc_filt (walk_tup (xs := dr.map vn)) (fun i => decide (dr.getD i 0 < N.length)) (fun i => vn (dr.getD i 0)) (by rw [List.length_map]; omega) (fun H' s => SqT.of (s _ _ hda')) ?_ ?_ ?_
            · rintro z x H5 _ Rr hz s5 ⟨rfl, hx⟩ kk
              rw [List.getElem?_map] at hx
              cases hdl : dr[z]? with
              | none => rw [hdl] at hx; cases hx
              | some u =>
                rw [hdl] at hx
                cases hx
                have eg : dr.getD z 0 = u := by rw [List.getD_eq_getElem?_getD, hdl]; rfl
                have O6 := O5.mono s5
                obtain ⟨kns, hk1, _⟩ := O6.kn
                refine ⟨rfl, ?_⟩
                refine ⟨_, rfl, _, rfl, a, _, dx, _, _, rfl, O6.ob, T.c_Net, T.n_Net_knots, rfl, kd, _, rfl, DGet.n hk1 u, _, rfl, ?_⟩
                have eb : (if u ∈ List.range N.length then some (V.ref (kns u)) else none).isSome = decide (dr.getD z 0 < N.length) := by
                  rw [eg]
                  by_cases cu : u < N.length
                  · rw [if_pos (List.mem_range.mpr cu), decide_eq_true cu]; rfl
                  · rw [if_neg fun h => cu (List.mem_range.mp h), decide_eq_false cu]; rfl
                rw [eb]
                exact kk _ _ (Same.refl _) fun _ => ⟨_, rfl, by rw [eg], Same.refl _⟩
            · rintro σ H R R' ⟨y, e, h⟩ hh
              exact ⟨y, e, hh _ _ h⟩
            · intro q H5 hq s5 e7
              rw [List.length_map, filt_list (l := dr) (fun t => decide (t < N.length)) vn] at e7
              have e8 := s5 _ _ e
              have ex : (Ch.kn N t).tu.take (i + 1) = (Ch.kn N t).tu.take i ++ [dr] := by rw [List.take_succ, hdi]; rfl
              have ee : R' ++ extN N.length ((Ch.kn N t).tu.take (i + 1)) = (R' ++ extN N.length ((Ch.kn N t).tu.take i)) ++ dr.filter (fun t => decide (t < N.length)) := by
                rw [ex]; unfold extN; rw [List.flatMap_append, List.append_assoc]; simp
              have hlen : (extN N.length ((Ch.kn N t).tu.take i)).length ≤ 2 * 5 := Nat.le_trans (extN_len (b := 2) fun e he => d2 e (List.mem_of_mem_take he)) (Nat.mul_le_mul (Nat.le_refl _) (by rw [List.length_take]; omega))
              have hfl : (dr.filter fun t => decide (t < N.length)).length ≤ dr.length := List.length_filter_le _ _
              refine ⟨l, q, _, _, rfl, rfl, e8, e7, ?_, ?_⟩
              · rw [List.length_map, List.length_map, List.length_append]
                rw [List.length_append] at hRl
                exact sz5' (by omega)
              · refine ⟨some (.ref (as i)), rfl, ?_, ?_, ?_⟩
                · exact sx.trans (s5.x.trans SameX.upd)
                · exact (sH.trans s5).mut hl0
                · rw [upd_same, ee, List.map_append (l₁ := R' ++ _)]
          · rintro σ H' ⟨v4, rfl, sx, sH, e⟩
            rw [mlen, List.take_of_length_le (Nat.le_refl _)] at e
            have hlen : (extN N.length (Ch.kn N t).tu).length ≤ 2 * 5 := Nat.le_trans (extN_len (b := 2) fun e he => d2 e he) (Nat.mul_le_mul (Nat.le_refl _) t5)
            have hn2 := nd_snoc hnd c
            have hl2 : (ks ++ [t]).length ≤ N.length := nodup_le hn2 fun u hu => (List.mem_append.mp hu).elim (hks u) fun h => by rw [List.mem_singleton.mp h]; exact htn
            rw [List.length_append, List.length_singleton] at hl2 hRl
            refine ⟨(4 - (ks ++ [t]).length) * 20 + (R' ++ extN N.length (Ch.kn N t).tu).length, ?_, ks ++ [t], R' ++ extN N.length (Ch.kn N t).tu, some (vn t), v4, rfl, sH, sx d _ ndl e5, e, hn2, fun u hu => (List.mem_append.mp hu).elim (hks u) fun h => by rw [List.mem_singleton.mp h]; exact htn, fun u hu => ?_, ?_, fun v hv u hu hc => ?_, rfl, ?_⟩
            · simp only [List.length_append, List.length_singleton]; omega
            · rcases List.mem_append.mp hu with h | h
              · exact hR u (List.mem_append_left _ h)
              · unfold extN at h
                obtain ⟨e, _, h2⟩ := List.mem_flatMap.mp h
                exact of_decide_eq_true (List.mem_filter.mp h2).2
            · rcases h0 with h | h
              · exact .inl (List.mem_append_left _ h)
              · rcases List.mem_append.mp h with h | h
                · exact .inr (List.mem_append_left _ h)
                · exact .inl (List.mem_append_right _ h)
            · rcases List.mem_append.mp hv with hv | hv
              · rcases hcl v hv u hu hc with h | h
                · exact .inl (List.mem_append_left _ h)
                · rcases List.mem_append.mp h with h | h
                  · exact .inr (List.mem_append_left _ h)
                  · exact .inl (List.mem_append_right _ h)
              · rw [List.mem_singleton.mp hv] at hc
                refine .inr (List.mem_append_right _ ?_)
                refine Classical.byContradiction fun hno => ?_
                have : Ch.cts (Ch.kn N t).tu u = 0 := Ch.cts_zero fun e he hue => hno (List.mem_flatMap.mpr ⟨e, he, List.mem_filter.mpr ⟨hue, decide_eq_true hu⟩⟩)
                have h2 : Ch.cnt N t u = Ch.cts (Ch.kn N t).tu u := rfl
                omega
            · simp only [List.length_append, List.length_singleton]; omega
end
end K11
end
section
set_option Elab.async false
set_option linter.all false
set_option maxRecDepth 100000
/-! R4: dicts compared: of other lengths; of one set of keys with ints. -/
namespace K11
open PySem PySem.Spec PyProof.Rows L2
open C8 (Cal Met Mak)
section
variable {X : Cx}
def rEqDL : R2 := fun x y H Q => ∃ a b ks ls, x = .ref a ∧ y = .ref b ∧ H a = some (.dK ks) ∧ H b = some (.dK ls) ∧ ks.length ≠ ls.length ∧ Q (.bl false) H
theorem op_eqDL (hu : X.A.units < cLine) : OpR X (compareOp .Eq) rEqDL := by
  intro pins s σ H x y v u Q I rx ry h
  obtain ⟨a, b, ks, ls, rfl, rfl, ea, eb, hlen, q⟩ := h
  obtain rfl : v = Value.ref a := rx
  obtain rfl : u = Value.ref b := ry
  obtain ⟨_, ya, va, ra, da⟩ := (show ObjOk X.prog X.w H s.heap a (.dK ks) from I.hok a _ ea)
  obtain ⟨_, yb, vb, rb, db⟩ := (show ObjOk X.prog X.w H s.heap b (.dK ls) from I.hok b _ eb)
  have hl : va.length ≠ vb.length := by rw [← ra.length, ← rb.length]; exact hlen
  exact PySem.W.keq_eq (knd := mixKind X.prog X.w) (r := true) ya yb da db hu (fun e => absurd e hl) (fin_bl I q (by simp [hl]))
def rNeDI : R2 := fun x y H Q => ∃ (a b : Addr) (ks : List Nat) (f g : Nat → Int), x = .ref a ∧ y = .ref b ∧ H a = some (.dK (dk ks fun t => .int (f t))) ∧ H b = some (.dK (dk ks fun t => .int (g t))) ∧ Q (.bl (!ks.all fun t => f t == g t)) H
theorem hits_int {A : Around} {s : Shared} {ks : List Nat} {f g : Nat → Int} {vb : List (Key × Value)} (rb : KV (dk ks fun t => .int (g t)) vb) : ∀ {l : List Nat} {va : List (Key × Value)}, (∀ t ∈ l, t ∈ ks) → KV (dk l fun t => .int (f t)) va → PySem.W.KeqHits A s vb va (l.all fun t => f t == g t) := by
  intro l
  induction l with
  | nil =>
    intro va _ ra
    unfold KV dk at ra
    cases ra
    exact .nil
  | cons t l ih =>
    intro va hs ra
    unfold KV dk at ra
    cases ra with
    | @cons p q ps qs h t' =>
      obtain ⟨k, v⟩ := q
      obtain ⟨h1, h2⟩ := h
      have h1' : ky t = k := h1
      subst h1'
      obtain ⟨t1, e1⟩ := (show ∃ tk, v = Value.int (f t) tk from h2)
      subst e1
      have rr := rb.val (ky t)
      rw [dk_val, if_pos (hs t (List.mem_cons_self ..))] at rr
      obtain ⟨y, hy, ry⟩ := rr.some_of
      obtain ⟨t2, e2⟩ := (show ∃ tk, y = Value.int (g t) tk from ry)
      subst e2
      exact .hit hy (SeqAt.EqAt.int_int (f t) t1 (g t) t2) (ih (fun u hu => hs u (List.mem_cons_of_mem _ hu)) t')
theorem op_neDI (hu : X.A.units < cLine) : OpR X (compareOp .NotEq) rNeDI := by
  intro pins s σ H x y v u Q I rx ry h
  obtain ⟨a, b, ks, f, g, rfl, rfl, ea, eb, q⟩ := h
  obtain rfl : v = Value.ref a := rx
  obtain rfl : u = Value.ref b := ry
  obtain ⟨_, ya, va, ra, da⟩ := (show ObjOk X.prog X.w H s.heap a (.dK _) from I.hok a _ ea)
  obtain ⟨_, yb, vb, rb, db⟩ := (show ObjOk X.prog X.w H s.heap b (.dK _) from I.hok b _ eb)
  have hl : va.length = vb.length := by rw [← ra.length, ← rb.length, dk_len, dk_len]
  exact PySem.W.keq_ne (knd := mixKind X.prog X.w) ya yb da db hu (fun _ => hits_int rb (fun _ h => h) ra) (fin_bl I q (by simp [hl]))
end
end K11
end
section
set_option Elab.async false
set_option linter.all false
set_option maxRecDepth 100000
/-! R5: name = {..} on one line, the name a local. -/
namespace K11
open PySem PySem.Spec PyProof.Rows L2
open C8 (Cal Met Mak)
section
variable {X : Cx}
theorem ps_setDc {i : Nat} {y : Str} {py : Pos} {kx vx tg iter : Expr} {ifs : List Expr} {scope : Scope} {own : List (Str × Nat)} {pos spos : Pos} {wi : TI} {g : TG} {tt : TT} {tk tv : TE} (hc : X.calm = true) (hN : X.N.Nodup) (hy : X.N[i]? = some y) (hyl : X.env.scope.names.lookup y = some .local)
    (hsw : swapsWith (.DictComp kx vx [⟨tg, iter, ifs, 0⟩] scope pos) (some (.Name y py)) spos.line X.env = pure true) (hi : PI X tg iter wi) (ok : BlkOk X.N X.env.scope scope own)
    (hg : ∀ (s : Shared) (H : Hp) (C : Addr) (cl : List (Str × Addr)) (fp : List Addr), PG (X.blk s H scope (compEnvC scope cl C X.env) fp) tg g) (ht : ∀ (s : Shared) (H : Hp) (C : Addr) (cl : List (Str × Addr)) (fp : List Addr), PTs (X.blk s H scope (compEnvC scope cl C X.env) fp) ifs tt)
    (hk : ∀ (s : Shared) (H : Hp) (C : Addr) (cl : List (Str × Addr)) (fp : List Addr), PE (X.blk s H scope (compEnvC scope cl C X.env) fp) kx tk)
    (he : ∀ (s : Shared) (H : Hp) (C : Addr) (cl : List (Str × Addr)) (fp : List Addr), PE (X.blk s H scope (compEnvC scope cl C X.env) fp) vx tv) (hs : ∀ x, foldedSetIterable iter X.env x = pure x := by intro _; rfl) :
    PS X (.Assign [.Name y py] (.DictComp kx vx [⟨tg, iter, ifs, 0⟩] scope pos) spos) (tAsg (tDc wi g tt tk tv (own.map (·.2))) (gName i)) := by
  refine ⟨fun pins s σ H D I h => ?_⟩
  rw [exec_Assign_Name_used _ _ _ _ hsw]
  refine wpAny_bind (wpAny_standAt (wpAny_bind ?_))
  show wpAny _ X.A (do let _ ← comprehension (.DictComp kx vx [⟨tg, iter, ifs, 0⟩] scope pos) scope X.env (firstIterPos [⟨tg, iter, ifs, 0⟩] pos) newDict false (eval iter X.env) (some (assign (.Name y py) X.env))) _ _ s
  have h : tDc wi g tt tk tv (own.map (·.2)) σ H (fun x H1 => gName i x σ H1 D.nx) := h
  refine wpAny_bind (thn (dc_core (Qf := fun _ s' => SP X pins D .next s') hc hN I hi ok hg ht hk he hs h fun L C s' m H' I' q hn f => ?_) fun _ s' hq => wpAny_pure (wpAny_pure hq))
  show wpAny _ _ (assign (.Name y py) X.env (.ref L)) _ _ _
  refine wpAny_assign_Name (store_ok2 (v := V.ref L) I' hN hy (.inl hyl) rfl (fun s2 I2 ⟨a, sb, ha⟩ => ?_) (.inr hyl))
  obtain ⟨f0, f1, f2, f3, f4, f5⟩ := f
  have haC : C ≠ a := by
    rcases ha with z | z
    · rw [z]; exact f1
    · exact fun e => f4 y a z e.symm
  refine ⟨m, hn.sameBut sb haC, fun h3 sb3 => ?_⟩
  exact ⟨_, H', I2.turned (t' := s2.toks) (fun b o hb e => (sb3.2 b hb).trans e) f0 f1 f3 f4 f5, q⟩
theorem sw_trueD {kx vx : Expr} {gs : List Comprehension} {scope : Scope} {pos py : Pos} {y : Str} {l : Nat} {env : Env} (hk : env.scope.kind = .function) (hy : env.scope.names.lookup y = some .local) (hl : (py.line == pos.line) = true)
    (ha : (scope.names.any fun (n, k) => n == y && (k == .local || k == .cell)) = false) : swapsWith (.DictComp kx vx gs scope pos) (some (.Name y py)) l env = pure true := by
  have ky : env.kindOf y = some .local := hy
  have hb : env.blockKind = .function := by unfold Env.blockKind; rw [hk]; rfl
  unfold swapsWith
  simp only [hb, ky, ha, Expr.pos, hl]
  rfl
end
end K11
end
section
set_option Elab.async false
set_option linter.all false
set_option maxRecDepth 100000
namespace K11
open PySem PySem.Spec PyProof.Rows L2
open C8 (Cal Met Mak)
section
variable {P : Program} {w : World} {K : PySem.W.Frag} {mg : Str → Option Value} {base : Heap}
/-! ### Net.__init__ -/
theorem keysV_dk (ks : List Nat) (f : Nat → V) : keysV (dk ks f) = ks.map vn := by unfold keysV dk; rw [List.map_map]; rfl
theorem valsV_dk (ks : List Nat) (f : Nat → V) : valsV (dk ks f) = ks.map f := by unfold valsV dk; rw [List.map_map]; rfl
theorem dk_fst (ks : List Nat) (f : Nat → V) : (dk ks f).map (·.1) = (ks.map nm).map Sum.inr := by unfold dk; rw [List.map_map, List.map_map]; rfl
theorem vn_map (l : List Nat) : (l.map nm).map V.str = l.map vn := by rw [List.map_map]; rfl
theorem lst_get (l : List Nat) : l = (List.range l.length).map fun i => l.getD i 0 := by
  conv => lhs; rw [← List.map_id l]
  exact (rng_map id l _ fun i x h => by rw [List.getD_eq_getElem?_getD, h]; rfl).symm
theorem range_sorted {n : Nat} (h : n ≤ 4) : (List.range n).Pairwise fun a b => nmc a ≤ nmc b := by
  have c : n = 0 ∨ n = 1 ∨ n = 2 ∨ n = 3 ∨ n = 4 := by omega
  rcases c with rfl | rfl | rfl | rfl | rfl <;> decide
theorem nd8 {n : Nat} (h : n ≤ 4) : (List.range n ++ ([4, 5] ++ [6, 7])).Nodup ∧ ∀ t ∈ List.range n ++ ([4, 5] ++ [6, 7]), t < 8 := by
  have c : n = 0 ∨ n = 1 ∨ n = 2 ∨ n = 3 ∨ n = 4 := by omega
  rcases c with rfl | rfl | rfl | rfl | rfl <;> decide
theorem walk_keysN {d : Addr} {o : Obj} {ks : List Nat} {f : Nat → V} : Walk (Itk d o (dk ks f)) ks.length (fun H => H d = some (.frz o (.dK (dk ks f)))) (fun i H x H' => H' = H ∧ ∃ t, ks[i]? = some t ∧ x = vn t) := by
  have := walk_keys (d := d) (o := o) (kvs := dk ks f)
  rw [dk_len] at this
  refine this.mono (fun _ h => h) fun i H x H' hi h ⟨e, k, v, h1, h2⟩ => ⟨e, ?_⟩
  unfold dk at h1
  rw [List.getElem?_map] at h1
  cases hh : ks[i]? with
  | none => rw [hh] at h1; cases h1
  | some t =>
    rw [hh] at h1
    refine ⟨t, rfl, ?_⟩
    have : (ky t, f t) = (k, v) := Option.some.inj h1
    rw [h2, ← (Prod.mk.inj this).1]; rfl
def sp_Net_init (K : PySem.W.Frag) : Sp := fun vs H Q _ => ∃ (a dx kd id ot : Addr) (N : Ch.Nt) (jk : Nat), vs = [.ref a, .ref kd, .ref id, .ref ot] ∧ H a = some (.ins (He.ga K "Net") dx []) ∧ KnotsAt H kd N ∧ H id = some (.dK (dk [6, 7] fun t => vn (if t = 6 then 0 else jk))) ∧ H ot = some (.tup [vn 4, vn 5]) ∧ Ch.Drawn N ∧ jk < N.length ∧
  ∀ H' kd' id' ot' nl', SameX a H H' → NetO K H' a N jk dx kd' id' ot' nl' → Q .non H'
theorem sc_Net_init : FnScope ["self", "knots", "inlets", "outlets", "wrong", "known", "name", "met"] ["self", "knots", "inlets", "outlets"] d_Net_init.scope := ⟨rfl, rfl, rfl, by decide +kernel, rfl, by decide +kernel, by decide +kernel⟩
set_option maxHeartbeats 1000000 in
theorem ok_Net_init (T : Txt K mg) (c_Net_met : Met P w K mg base 1 (He.ga K "Net") "met" (sp_Net_met K) []) (c_is_knot : Cal P w K mg base 2 "is_knot" sp_is_knot []) (c_first_wrong : Cal P w K mg base 2 "first_wrong" sp_first_wrong []) : Mak P w K mg base 3 "Net" (He.ga K "Net") (sp_Net_init K) [] := by
  refine mak_mk d_Net_init T.d_Net_init T.m_Net T.g_Net sc_Net_init (fun vs H Q E h => ?_) (fun _ _ _ _ _ _ us hl => match us, hl with | [_, _, _, _], _ => rfl) (fun cdv A outer s H vs Q E hr h => ?_)
  · obtain ⟨_, _, _, _, _, _, _, rfl, _⟩ := h
    rfl
  · have hu := hu_of hr
    obtain ⟨a, dx, kd, id, ot, N, jk, rfl, hob, hkn, hil, hol, D, hj, k⟩ := h
    have n1 := D.n1
    have n4 := D.n4
    refine ⟨_, (pss_cons (ps_if (PW.pt (pw_or (pt_not (pt_val (pe_callB call_isi (by rfl) T.f_isinstance (by decide +kernel) (pa_cons (pv 1) (pa_cons (pe_bltn (v := .ty "dict") rfl T.f_dict (by decide +kernel) rfl) pa_nil))))) (pw_or (pt_not (pt_chain op_le op_le pe_int (pe_callB call_lenD (by rfl) T.f_len (by decide +kernel) (pa_cons (pv 1) pa_nil)) (C8.pe_gc rfl T.i_MOST_KNOTS))) (pw_or1 (pt_not (pt_val (pe_callB call_isi (by rfl) T.f_isinstance (by decide +kernel) (pa_cons (pv 2) (pa_cons (pe_bltn (v := .ty "dict") rfl T.f_dict (by decide +kernel) rfl) pa_nil)))))))))
      (pss_one ps_never)
      pss_nil)
      (pss_cons (ps_if (PW.pt (pw_or (pt_not (pt_val (pe_callB call_isiT (by rfl) T.f_isinstance (by decide +kernel) (pa_cons (pv 3) (pa_cons (pe_tup (pa_cons (pe_bltn (v := .ty "list") rfl T.f_list (by decide +kernel) rfl) (pa_cons (pe_bltn (v := .ty "tuple") rfl T.f_tuple (by decide +kernel) rfl) pa_nil))) pa_nil))))) (pw_or1 (pt_cmpR (op_eqDL (Nat.lt_of_succ_lt hu)) (pv 2) pe_dnewK (nomark _)))))
      (pss_one ps_never)
      pss_nil)
      (pss_cons (ps_set (i := 4) sc_Net_init.nd rfl (Or.inl rfl) (C8.pe_c c_first_wrong hr (by decide) rfl (pa_cons (pe_lst (pa_starD rfl (pv 1) (StX.pa_star (pv 3) (pa_starD rfl (pv 2) pa_nil)))) pa_nil)))
      (pss_cons (ps_if (pt_cmpR (op_neD hr.units) (pv 4) (pe_lst pa_nil) (nomark _))
      (pss_one ps_never)
      pss_nil)
      (pss_cons (ps_setDc (i := 5) (own := [("name", 6)]) (by rfl) sc_Net_init.nd rfl rfl (sw_trueD rfl rfl rfl rfl) (pi_list (pe_lst (pa_starD rfl (pv 1) (StX.pa_star (pv 3) pa_nil)))) (blkOk_by (own := [("name", 6)]) (by rfl)) (fun _ _ _ _ _ => (pg_name (i := 6) sc_Net_init.nd rfl (Or.inl rfl))) (fun _ _ _ _ _ => pts_nil) (fun _ _ _ _ _ => (pv 6)) (fun _ _ _ _ _ => pe_bl))
      (pss_cons (ps_for PassesOwn.never rfl (pi_list (pe_callB (call_sortedD rfl) (by rfl) T.f_sorted (by decide +kernel) (pa_cons (pv 1) pa_nil))) (pg_name (i := 6) sc_Net_init.nd rfl (Or.inl rfl))
      (pss_one (ps_if (pt_not (pt_val (C8.pe_c c_is_knot hr (by decide) rfl (pa_cons (pe_dget hu (pv 1) (pv 6) (fun _ _ => rfl)) (pa_cons (pv 5) pa_nil)))))
        (pss_one ps_never)
        pss_nil)))
      (pss_cons (ps_lock (ps_for PassesOwn.never rfl (pi_keys (pv 2)) (pg_name (i := 6) sc_Net_init.nd rfl (Or.inl rfl))
      (pss_one (ps_if (PW.pt (pw_or (pt_not (pt_val (pe_callB call_isi (by rfl) T.f_isinstance (by decide +kernel) (pa_cons (pe_dget hu (pv 2) (pv 6) (fun _ _ => rfl)) (pa_cons (pe_bltn (v := .ty "str") rfl T.f_str (by decide +kernel) rfl) pa_nil))))) (pw_or1 (pt_cmp (pc_dnotin hu (pe_dget hu (pv 2) (pv 6) (fun _ _ => rfl)) (pv 1))))))
        (pss_one ps_never)
        pss_nil))))
      (pss_cons (ps_fld (pv 0) (pe_dc (own := [("name", 6)]) (by rfl) sc_Net_init.nd (pi_list (pe_callB (call_sortedD rfl) (by rfl) T.f_sorted (by decide +kernel) (pa_cons (pv 1) pa_nil))) (blkOk_by (own := [("name", 6)]) (by rfl)) (fun _ _ _ _ _ => (pg_name (i := 6) sc_Net_init.nd rfl (Or.inl rfl))) (fun _ _ _ _ _ => pts_nil) (fun _ _ _ _ _ => (pv 6)) (fun _ _ _ _ _ => (pe_dget hu (pv 1) (pv 6) (fun _ _ => rfl)))) rfl)
      (pss_cons (ps_fld (pv 0) (pe_dc (own := [("name", 6)]) (by rfl) sc_Net_init.nd (pi_list (pe_callB (call_sortedD rfl) (by rfl) T.f_sorted (by decide +kernel) (pa_cons (pv 2) pa_nil))) (blkOk_by (own := [("name", 6)]) (by rfl)) (fun _ _ _ _ _ => (pg_name (i := 6) sc_Net_init.nd rfl (Or.inl rfl))) (fun _ _ _ _ _ => pts_nil) (fun _ _ _ _ _ => (pv 6)) (fun _ _ _ _ _ => (pe_dget hu (pv 2) (pv 6) (fun _ _ => rfl)))) rfl)
      (pss_cons (ps_fld (pv 0) (pe_callTy call_tuple_of (by rfl) T.f_tuple (by decide +kernel) (pa_cons (pe_callB cr_sortedTS (by rfl) T.f_sorted (by decide +kernel) (pa_cons (pv 3) pa_nil)) pa_nil)) rfl)
      (pss_cons (ps_fld (pv 0) (pe_callTy (call_listD rfl) (by rfl) T.f_list (by decide +kernel) (pa_cons (pe_fld (pv 0) rfl) pa_nil)) rfl)
      (pss_cons (ps_set (i := 7) sc_Net_init.nd rfl (Or.inl rfl) (C8.pe_mt0 c_Net_met hr (by decide) (pv 0)))
      (pss_one (ps_for PassesOwn.never rfl (pi_list (pe_fld (pv 0) rfl)) (pg_name (i := 6) sc_Net_init.nd rfl (Or.inl rfl))
      (pss_one (ps_if (pt_cmp (pc_dnotin hu (pv 6) (pv 7)))
        (pss_one ps_never)
        pss_nil)))))))))))))))), ?_⟩
    obtain ⟨kns, hk1, hk2⟩ := hkn
    have hlr : ((dk (List.range N.length) fun v => V.ref (kns v)).length : Int) = (N.length : Nat) := by rw [dk_len, List.length_range]
    -- the tests
    refine ⟨_, rfl, _, _, _, _, true, rfl, .ty _, .base (.dK hk1), rfl, true, rfl, iteF ?_⟩
    refine ⟨_, rfl, kd, _, rfl, hk1, _, _, rfl, rfl, true, (by rw [hlr]; show V.bl (decide ((1 : Int) ≤ (N.length : Nat))) = _; rw [decide_eq_true (show (1 : Int) ≤ (N.length : Nat) by omega)]), iteT ?_⟩
    refine ⟨_, _, rfl, rfl, true, (by rw [hlr]; show V.bl (decide (((N.length : Nat) : Int) ≤ 12)) = _; rw [decide_eq_true (show ((N.length : Nat) : Int) ≤ 12 by omega)]), iteF ?_⟩
    refine ⟨_, rfl, _, _, _, _, true, rfl, .ty _, .base (.dK hil), rfl, true, rfl, iteF ?_⟩
    refine ⟨_, rfl, (by show 2 ≤ sizeLine; decide), fun tp htp => ?_⟩
    have s1 : Same H (upd H tp (.tup [.ty "list", .ty "tuple"])) := Same.new htp
    refine ⟨_, tp, _, _, _, true, rfl, upd_same, .cons (.ty _) (.cons (.ty _) .nil), .base (.tup (s1 _ _ hol)), rfl, true, rfl, iteF ?_⟩
    refine ⟨_, rfl, fun p hp => ?_⟩
    have s2 := s1.trans (Same.new (o := .dK []) hp)
    refine ⟨id, p, _, _, rfl, rfl, s2 _ _ hil, upd_same, by rw [dk_len]; decide, false, rfl, iteF ?_⟩
    generalize upd (upd H tp (.tup [.ty "list", .ty "tuple"])) p (.dK []) = H1 at *
    clear s1 htp hp
    -- wrong = first_wrong([*knots, *outlets, *inlets])
    refine ⟨_, rfl, kd, _, rfl, .of (s2 _ _ hk1), _, rfl, ot, _, rfl, .inl (SqT.of (s2 _ _ hol)), _, rfl, id, _, rfl, .of (s2 _ _ hil), ?_⟩
    dsimp only [tNil]
    rw [keysV_dk, keysV_dk, List.append_nil]
    obtain ⟨q1, q2⟩ := nd8 n4
    have e8 : (List.range N.length).map vn ++ ([vn 4, vn 5] ++ [6, 7].map vn) = (List.range N.length ++ ([4, 5] ++ [6, 7])).map vn := by simp
    rw [e8]
    refine ⟨by simp; exact sz5' (by omega), fun l hl => ?_⟩
    refine ⟨l, _, rfl, upd_same, q1, q2, fun wr H2 hwr s3 e3 => ?_⟩
    have s4 : Same H H2 := (s2.trans (Same.new hl)).trans s3
    refine ⟨_, rfl, (by show 0 ≤ sizeLine; exact Nat.zero_le _), fun p hp => ?_⟩
    have s5 := s4.trans (Same.new (o := .lst []) hp)
    refine ⟨_, _, .lst (SqL.of (Same.new hp _ _ e3)) .nil, .lst (SqL.of upd_same) .nil, rfl, rfl, false, rfl, iteF ?_⟩
    generalize upd H2 p (.lst []) = H3 at *
    clear hp e3 s3 s4 hwr hl
    -- known
    refine ⟨_, rfl, kd, _, rfl, .of (s5 _ _ hk1), _, rfl, ot, _, rfl, .inl (SqT.of (s5 _ _ hol)), ?_⟩
    dsimp only [tNil]
    rw [keysV_dk, List.append_nil]
    have e6 : (List.range N.length).map vn ++ [vn 4, vn 5] = (List.range N.length ++ [4, 5]).map vn := by simp
    rw [e6]
    refine ⟨by simp; exact sz5' (by omega), fun l hl => ⟨l, rfl, ⟨_, SqL.of upd_same⟩, ?_⟩⟩
    have s6 := s5.trans (Same.new (o := .lst ((List.range N.length ++ [4, 5]).map vn)) hl)
    have el : upd H3 l (.lst ((List.range N.length ++ [4, 5]).map vn)) l = some (.lst ((List.range N.length ++ [4, 5]).map vn)) := upd_same
    generalize upd H3 l (.lst ((List.range N.length ++ [4, 5]).map vn)) = H4 at *
    have hks : (List.range N.length ++ [4, 5]).length = N.length + 2 := by simp
    have ndk : (List.range N.length ++ [4, 5]).Nodup := by
      have : List.range N.length ++ ([4, 5] ++ [6, 7]) = (List.range N.length ++ [4, 5]) ++ [6, 7] := by simp
      rw [this] at q1
      exact (List.nodup_append.mp q1).1
    refine dc_vals (walk_list (xs := (List.range N.length ++ [4, 5]).map vn)) (fun i => (List.range N.length ++ [4, 5]).getD i 0) (fun i j hi hj e => ?_) (fun _ => .bl true) (by rw [List.length_map, hks]; omega) (fun H' s => SqL.of (s _ _ el)) ?_ ?_
    · rw [List.length_map] at hi hj
      have e1 := congrArg some e
      simp only [List.getD_eq_getElem?_getD, List.getElem?_eq_getElem hi, List.getElem?_eq_getElem hj, Option.getD_some] at e1
      exact (List.getElem_inj ndk).mp (Option.some.inj e1)
    · rintro i x H' H'' R hi s ⟨rfl, hy⟩ kk
      rw [List.getElem?_map] at hy
      rw [List.length_map] at hi
      rw [List.getElem?_eq_getElem hi] at hy
      cases hy
      refine ⟨rfl, _, rfl, ?_⟩
      have q := kk _ (Same.refl _)
      rw [List.getD_eq_getElem?_getD, List.getElem?_eq_getElem hi] at q
      exact q
    intro kno H5 hkno s7 e7
    rw [List.length_map, ← lst_get] at e7
    have s8 := s6.trans s7
    clear s7 el hkno hl s6 s5 s2
    -- for name in sorted(knots)
    have hsz : ((List.range N.length).map nm).length < 64 := by rw [List.length_map, List.length_range]; omega
    refine ⟨_, rfl, kd, _, _, rfl, .of (s8 _ _ hk1), dk_fst _ _, hsz, fun ys p hys hso hp => ?_⟩
    have eys := sorted_one hys hso (range_sorted n4)
    subst eys
    rw [vn_map]
    have s9 := s8.trans (Same.new (o := .lst ((List.range N.length).map vn)) hp)
    have ep : upd H5 p (.lst ((List.range N.length).map vn)) p = some (.lst ((List.range N.length).map vn)) := upd_same
    have e9 : upd H5 p (.lst ((List.range N.length).map vn)) kno = some (.dK (dk (List.range N.length ++ [4, 5]) fun _ => .bl true)) := Same.new hp _ _ e7
    generalize upd H5 p (.lst ((List.range N.length).map vn)) = H6 at *
    clear hys hso hp e7
    refine ⟨p, rfl, ⟨_, SqL.of ep⟩, ?_⟩
    refine for_list (K := K) (a := p) (xs := (List.range N.length).map vn) (fun i σ H' => ∃ v6, σ = [some (.ref a), some (.ref kd), some (.ref id), some (.ref ot), some (.ref wr), some (.ref kno), v6, none] ∧ Same H6 H') ?_ ?_ ?_ ?_
    · exact ⟨none, rfl, Same.refl _⟩
    · rintro i σ H' _ ⟨_, _, s'⟩
      exact SqL.of (s' _ _ ep)
    · rintro i x σ H' hx ⟨v6, rfl, s'⟩
      have hi : i < N.length := by
        have := (List.getElem?_eq_some_iff.mp hx).1
        rw [List.length_map, List.length_range] at this; exact this
      rw [mget _ hi] at hx
      cases hx
      have s9' := s9.trans s'
      refine ⟨_, rfl, _, rfl, kd, _, rfl, DGet.in_ (s9' _ _ hk1) (List.mem_range.mpr hi), _, rfl, kns i, kno, Ch.kn N i, _, rfl, (hk2 i hi).mono s9', s' _ _ e9, D.tu i hi, by have := D.fr2 i hi; omega, by have := D.tu5 i hi; omega, fun t ht => q2 t (by simp at ht ⊢; omega), fun d hd => ⟨by have := D.dr2 i hi d hd; omega, fun t ht => ?_⟩, fun H7 s10 => ⟨true, rfl, iteF ⟨_, rfl, s'.trans s10⟩⟩⟩
      have := D.tg i hi d hd t ht
      simp; omega
    rintro σ H7 ⟨v6, rfl, s10⟩
    have s11 := s9.trans s10
    clear s10 e9 ep s9 s8
    -- for name in inlets
    refine ⟨id, _, s11 _ _ hil, trivial, fun od => ?_⟩
    have kx : upd H7 id (.frz od (.dK (dk [6, 7] fun t => vn (if t = 6 then 0 else jk)))) kd = some (.dK (dk (List.range N.length) fun v => .ref (kns v))) := by
      rw [upd_ne (fun z => by
        have e := s11 _ _ hk1
        rw [z, s11 _ _ hil] at e
        injection e with e; injection e with e
        have := congrArg List.length e
        have e2 := congrArg (fun l : List (Key × V) => l.map (·.1)) e
        simp only [dk_fst] at e2
        have e3 := List.map_inj_right (fun a b h => Sum.inr.inj h) |>.mp e2
        have e4 : (6 : Nat) ∈ List.range N.length := by
          have : nm 6 ∈ (List.range N.length).map nm := by rw [← e3]; exact List.mem_cons_self ..
          obtain ⟨t, h1, h2⟩ := List.mem_map.mp this
          rw [← nm_inj h2]; exact h1
        have := List.mem_range.mp e4
        omega)]
      exact s11 _ _ hk1
    have fx : upd H7 id (.frz od (.dK (dk [6, 7] fun t => vn (if t = 6 then 0 else jk)))) id = some (.frz od (.dK (dk [6, 7] fun t => vn (if t = 6 then 0 else jk)))) := upd_same
    refine ⟨_, rfl, id, od, rfl, .inl ⟨_, fx, ?_⟩⟩
    refine fr_it (walk_keysN (d := id) (o := od) (ks := [6, 7]) (f := fun t => vn (if t = 6 then 0 else jk))) (fun i σ H' => ∃ v6, σ = [some (.ref a), some (.ref kd), some (.ref id), some (.ref ot), some (.ref wr), some (.ref kno), v6, none] ∧ H' = upd H7 id (.frz od (.dK (dk [6, 7] fun t => vn (if t = 6 then 0 else jk))))) ?_ ?_ ?_ ?_
    · exact ⟨v6, rfl, rfl⟩
    · rintro i σ H' _ ⟨_, _, rfl⟩
      exact fx
    · rintro i x σ H' H'' hi ⟨v6, rfl, rfl⟩ ⟨rfl, t, ht, rfl⟩
      have htm : t ∈ [6, 7] := List.mem_of_getElem? ht
      have g : DGet (upd H7 id (.frz od (.dK (dk [6, 7] fun t => vn (if t = 6 then 0 else jk))))) id (vn t) (some (vn (if t = 6 then 0 else jk))) := .inl ⟨_, ky t, .inr ⟨od, fx⟩, rfl, by rw [dk_val, if_pos htm]⟩
      have hlt : (if t = 6 then 0 else jk) < N.length := by split <;> omega
      refine ⟨_, rfl, _, rfl, id, _, rfl, g, _, _, _, _, true, rfl, .ty _, .base (.str _), rfl, true, rfl, iteF ?_⟩
      refine ⟨_, rfl, _, rfl, id, _, rfl, g, _, rfl, kd, _, rfl, DGet.in_ kx (List.mem_range.mpr hlt), false, rfl, iteF ⟨_, rfl, rfl⟩⟩
    rintro σ H' ⟨v6', rfl, rfl⟩
    refine ⟨fx, ?_⟩
    rw [upd_upd, upd_self (s11 _ _ hil)]
    clear kx fx v6
    -- self.knots
    have ha7 := s11 _ _ hob
    refine ⟨_, rfl, kd, _, _, rfl, .of (s11 _ _ hk1), dk_fst _ _, hsz, fun ys p hys hso hp => ?_⟩
    have eys := sorted_one hys hso (range_sorted n4)
    subst eys
    rw [vn_map]
    refine ⟨p, rfl, ⟨_, SqL.of upd_same⟩, ?_⟩
    have s12 := s11.trans (Same.new (o := .lst ((List.range N.length).map vn)) hp)
    have ep : upd H7 p (.lst ((List.range N.length).map vn)) p = some (.lst ((List.range N.length).map vn)) := upd_same
    generalize upd H7 p (.lst ((List.range N.length).map vn)) = H8 at *
    refine dc_vals (walk_list (xs := (List.range N.length).map vn)) (fun i => i) (fun i j _ _ e => e) (fun v => .ref (kns v)) (by rw [mlen]; omega) (fun H' s => SqL.of (s _ _ ep)) ?_ ?_
    · rintro i x H' H'' R hi s ⟨rfl, hy⟩ kk
      rw [mlen] at hi
      rw [mget _ hi] at hy
      cases hy
      exact ⟨rfl, _, rfl, _, rfl, _, rfl, kd, _, rfl, DGet.in_ (s _ _ (s12 _ _ hk1)) (List.mem_range.mpr hi), kk _ (Same.refl _)⟩
    intro kd' H9 hkd' s13 e13
    rw [mlen, dk_id] at e13
    have s14 := s12.trans s13
    refine ⟨_, rfl, a, _, dx, _, rfl, s14 _ _ hob, T.c_Net, T.n_Net_knots, by decide, ?_⟩
    have nak : kd' ≠ a := ne_of e13 (s14 _ _ hob) (by intro z; cases z)
    have x1 : SameX a H (upd H9 a (.ins (He.ga K "Net") dx (putF "knots" (.ref kd') []))) := s14.x.trans SameX.upd
    have k1 : upd H9 a (.ins (He.ga K "Net") dx (putF "knots" (.ref kd') [])) kd' = _ := (upd_ne nak).trans e13
    have b1 : upd H9 a (.ins (He.ga K "Net") dx (putF "knots" (.ref kd') [])) a = some (.ins (He.ga K "Net") dx (putF "knots" (.ref kd') [])) := upd_same
    generalize upd H9 a (.ins (He.ga K "Net") dx (putF "knots" (.ref kd') [])) = H10 at *
    clear s14 s13 e13 ep s12 hp hys hso hkd'
    -- self.inlets
    have nai : id ≠ a := ne_of hil hob (by intro z; cases z)
    have nao : ot ≠ a := ne_of hol hob (by intro z; cases z)
    refine ⟨_, rfl, id, _, _, rfl, .of (x1 _ _ nai hil), dk_fst _ _, by decide, fun ys p hys hso hp => ?_⟩
    have eys := sorted_one hys hso (by decide)
    subst eys
    rw [vn_map]
    refine ⟨p, rfl, ⟨_, SqL.of upd_same⟩, ?_⟩
    have s12 : Same H10 (upd H10 p (.lst ([6, 7].map vn))) := Same.new hp
    have ep : upd H10 p (.lst ([6, 7].map vn)) p = some (.lst ([6, 7].map vn)) := upd_same
    generalize upd H10 p (.lst ([6, 7].map vn)) = H11 at *
    refine dc_vals (walk_list (xs := [6, 7].map vn)) (fun i => [6, 7].getD i 0) (fun i j hi hj e => ?_) (fun t => vn (if t = 6 then 0 else jk)) (by show 2 ≤ 1000; decide) (fun H' s => SqL.of (s _ _ ep)) ?_ ?_
    · have hi' : i < 2 := hi
      have hj' : j < 2 := hj
      have ci : i = 0 ∨ i = 1 := by omega
      have cj : j = 0 ∨ j = 1 := by omega
      rcases ci with rfl | rfl <;> rcases cj with rfl | rfl <;> first | rfl | (revert e; decide)
    · rintro i x H' H'' R hi s ⟨rfl, hy⟩ kk
      rw [List.getElem?_map] at hy
      rw [List.length_map] at hi
      rw [List.getElem?_eq_getElem hi] at hy
      cases hy
      have hm : [6, 7][i] ∈ [6, 7] := List.getElem_mem hi
      have q := kk _ (Same.refl _)
      rw [List.getD_eq_getElem?_getD, List.getElem?_eq_getElem hi] at q
      exact ⟨rfl, _, rfl, _, rfl, _, rfl, id, _, rfl, DGet.in_ (s _ _ (s12 _ _ (x1 _ _ nai hil))) hm, q⟩
    intro id' H12 hid' s13 e13
    rw [List.length_map, ← lst_get] at e13
    have s14 := s12.trans s13
    refine ⟨_, rfl, a, _, dx, _, rfl, s14 _ _ b1, T.c_Net, T.n_Net_inlets, (by show 1 < 1000; decide), ?_⟩
    have nid : id' ≠ a := ne_of e13 (s14 _ _ b1) (by intro z; cases z)
    generalize hfs2 : putF "inlets" (.ref id') (putF "knots" (.ref kd') []) = fs2
    have x2 : SameX a H (upd H12 a (.ins (He.ga K "Net") dx fs2)) := (x1.trans s14.x).trans SameX.upd
    have k2 : upd H12 a (.ins (He.ga K "Net") dx fs2) kd' = _ := (upd_ne nak).trans (s14 _ _ k1)
    have i2 : upd H12 a (.ins (He.ga K "Net") dx fs2) id' = _ := (upd_ne nid).trans e13
    have b2 : upd H12 a (.ins (He.ga K "Net") dx fs2) a = some (.ins (He.ga K "Net") dx fs2) := upd_same
    generalize upd H12 a (.ins (He.ga K "Net") dx fs2) = H13 at *
    clear s14 s13 e13 ep s12 hp hys hso hid'
    -- self.outlets
    refine ⟨_, rfl, ot, [nm 4, nm 5], rfl, SqT.of (x2 _ _ nao hol), by decide, fun ys p hys hso hp => ?_⟩
    have eys := sorted_one (l := [4, 5]) hys hso (by decide)
    subst eys
    rw [vn_map]
    refine ⟨p, _, rfl, .inl ⟨SqL.of upd_same, fun ot' hot' => ?_⟩⟩
    have s14 := (Same.new (o := .lst ([4, 5].map vn)) hp).trans (Same.new (o := .tup ([4, 5].map vn)) hot')
    have e13 : upd (upd H13 p (.lst ([4, 5].map vn))) ot' (.tup ([4, 5].map vn)) ot' = some (.tup ([4, 5].map vn)) := upd_same
    generalize upd (upd H13 p (.lst ([4, 5].map vn))) ot' (.tup ([4, 5].map vn)) = H14 at *
    refine ⟨_, rfl, a, _, dx, _, rfl, s14 _ _ b2, T.c_Net, T.n_Net_outlets, (by rw [← hfs2]; show 2 < 1000; decide), ?_⟩
    have nio : ot' ≠ a := ne_of e13 (s14 _ _ b2) (by intro z; cases z)
    generalize hfs3 : putF "outlets" (.ref ot') fs2 = fs3
    have x3 : SameX a H (upd H14 a (.ins (He.ga K "Net") dx fs3)) := (x2.trans s14.x).trans SameX.upd
    have k3 : upd H14 a (.ins (He.ga K "Net") dx fs3) kd' = _ := (upd_ne nak).trans (s14 _ _ k2)
    have i3 : upd H14 a (.ins (He.ga K "Net") dx fs3) id' = _ := (upd_ne nid).trans (s14 _ _ i2)
    have o3 : upd H14 a (.ins (He.ga K "Net") dx fs3) ot' = _ := (upd_ne nio).trans e13
    have b3 : upd H14 a (.ins (He.ga K "Net") dx fs3) a = some (.ins (He.ga K "Net") dx fs3) := upd_same
    generalize upd H14 a (.ins (He.ga K "Net") dx fs3) = H15 at *
    clear s14 e13 hp hys hso hot'
    -- self.names
    have hfs3' : fs3 = ([("knots", V.ref kd'), ("inlets", V.ref id'), ("outlets", V.ref ot')] : List (Str × V)) := by rw [← hfs3, ← hfs2]; rfl
    subst hfs3'
    refine ⟨_, rfl, a, _, dx, _, _, rfl, b3, T.c_Net, T.n_Net_knots, rfl, kd', _, rfl, .of k3, fun nl' hnl' => ?_⟩
    have s14 := Same.new (o := .lst ((dk (List.range N.length) fun v => V.ref (kns v)).map fun kv => kV kv.1)) hnl'
    have e13 : upd H15 nl' (.lst ((dk (List.range N.length) fun v => V.ref (kns v)).map fun kv => kV kv.1)) nl' = some (.lst ((List.range N.length).map vn)) := by rw [upd_same]; exact congrArg (fun z => some (HO.lst z)) (keysV_dk _ _)
    generalize upd H15 nl' (.lst ((dk (List.range N.length) fun v => V.ref (kns v)).map fun kv => kV kv.1)) = H16 at *
    refine ⟨_, rfl, a, _, dx, _, rfl, s14 _ _ b3, T.c_Net, T.n_Net_names, (by show 3 < 1000; decide), ?_⟩
    have nin : nl' ≠ a := ne_of e13 (s14 _ _ b3) (by intro z; cases z)
    have efs : putF "names" (.ref nl') ([("knots", V.ref kd'), ("inlets", V.ref id'), ("outlets", V.ref ot')] : List (Str × V)) = netFs kd' id' ot' nl' := rfl
    rw [efs]
    have x4 : SameX a H (upd H16 a (.ins (He.ga K "Net") dx (netFs kd' id' ot' nl'))) := (x3.trans s14.x).trans SameX.upd
    have O4 : NetO K (upd H16 a (.ins (He.ga K "Net") dx (netFs kd' id' ot' nl'))) a N jk dx kd' id' ot' nl' := by
      have inst : H a = some (.ins (He.ga K "Net") dx []) := hob
      refine ⟨upd_same, ⟨kns, (upd_ne nak).trans (s14 _ _ k3), fun v hv => ?_⟩, (upd_ne nid).trans (s14 _ _ i3), (upd_ne nio).trans (s14 _ _ o3), (upd_ne nin).trans e13⟩
      obtain ⟨f, t, q1, ⟨as, q2, q3⟩, ⟨bs, q4, q5⟩⟩ := hk2 v hv
      have go : ∀ b xs, H b = some (.tup xs) → (upd H16 a (.ins (He.ga K "Net") dx (netFs kd' id' ot' nl'))) b = some (.tup xs) := fun b xs e => x4 b _ (ne_of e hob (by intro z; cases z)) e
      exact ⟨f, t, go _ _ q1, ⟨as, go _ _ q2, fun i d h => go _ _ (q3 i d h)⟩, ⟨bs, go _ _ q4, fun i d h => go _ _ (q5 i d h)⟩⟩
    generalize upd H16 a (.ins (He.ga K "Net") dx (netFs kd' id' ot' nl')) = H17 at *
    clear s14 e13 hnl'
    -- met
    refine ⟨_, rfl, a, dx, _, rfl, O4.ob, rfl, a, N, jk, dx, kd', id', ot', nl', rfl, O4, hj, D, fun mt ks H18 hmt s18 e18 hall => ?_⟩
    have O5 := O4.mono s18
    refine ⟨_, rfl, a, _, dx, _, _, rfl, O5.ob, T.c_Net, T.n_Net_names, rfl, nl', rfl, ⟨_, SqL.of O5.nl⟩, ?_⟩
    refine for_list (K := K) (a := nl') (xs := (List.range N.length).map vn) (fun i σ H' => H' = H18 ∧ ∃ v6, σ = [some (.ref a), some (.ref kd), some (.ref id), some (.ref ot), some (.ref wr), some (.ref kno), v6, some (.ref mt)]) ?_ ?_ ?_ ?_
    · exact ⟨rfl, _, rfl⟩
    · rintro i σ H' _ ⟨rfl, _⟩
      exact SqL.of O5.nl
    · rintro i x σ H' hx ⟨rfl, v6, rfl⟩
      have hi : i < N.length := by
        have := (List.getElem?_eq_some_iff.mp hx).1
        rw [List.length_map, List.length_range] at this; exact this
      rw [mget _ hi] at hx
      cases hx
      exact ⟨_, rfl, _, rfl, mt, _, rfl, DGet.in_ e18 (hall i hi), false, rfl, iteF ⟨rfl, _, rfl⟩⟩
    · rintro σ H' ⟨rfl, v6, rfl⟩
      exact k H' kd' id' ot' nl' (x4.trans s18.x) O5
end
end K11
end
section
set_option Elab.async false
set_option linter.all false
set_option maxRecDepth 100000
namespace K11
open PySem PySem.Spec PyProof.Rows L2
open C8 (Cal Met Mak)
section
variable {P : Program} {w : World} {K : PySem.W.Frag} {mg : Str → Option Value} {base : Heap}
/-! ### check_net, lattice, ends -/
def sp_check_net (K : PySem.W.Frag) : Sp := fun vs H Q _ => ∃ (a : Addr) (N : Ch.Nt), vs = [.ref a] ∧ NetAt K H a N ∧ Q .non H
theorem sc_check_net : FnScope ["thing"] ["thing"] d_check_net.scope := ⟨rfl, rfl, rfl, by decide +kernel, rfl, by decide +kernel, by decide +kernel⟩
theorem ok_check_net (T : Txt K mg)  : Cal P w K mg base 1 "check_net" (sp_check_net K) [] := by
  refine cal_mk d_check_net T.d_check_net T.g_check_net sc_check_net (fun vs H Q E h => ?_) (fun _ _ _ _ _ _ us hl => match us, hl with | [_], _ => rfl) (fun cdv A outer s H vs Q E hr h => ?_)
  · obtain ⟨_, _, rfl, _⟩ := h
    rfl
  · have hu := hu_of hr
    obtain ⟨a, N, rfl, ⟨j, dx, kd, id, ot, nl, O⟩, k⟩ := h
    refine ⟨_, (pss_one (ps_if (pt_not (pt_val (pe_callB (C8.call_isC T.insNet) (by rfl) T.f_isinstance (by decide +kernel) (pa_cons (pv 0) (pa_cons (pe_glob (v := .ref (He.ga K "Net")) rfl T.g_Net rfl) pa_nil)))))
      (pss_one ps_never)
      pss_nil)), ?_⟩
    exact ⟨_, rfl, a, dx, _, rfl, O.ob, true, rfl, iteF k⟩
def sp_lattice (K : PySem.W.Frag) : Sp := fun vs H Q _ => ∃ (a : Addr) (N : Ch.Nt), vs = [.ref a] ∧ NetAt K H a N ∧ Ch.Drawn N ∧ ∀ p H', H p = none → Same H H' → MatAt H' p N.length N.length (Ch.latt N) → Q (.ref p) H'
theorem sc_lattice : FnScope ["net", "rows", "name", "told", "other"] ["net"] d_lattice.scope := ⟨rfl, rfl, rfl, by decide +kernel, rfl, by decide +kernel, by decide +kernel⟩
theorem Drawn8 {N : Ch.Nt} (D : Ch.Drawn N) {v : Nat} (hv : v < N.length) : ∀ d ∈ (Ch.kn N v).ds, ∀ x ∈ d, x < 8 := fun d hd x hx => by
  have := D.tg v hv d hd x hx
  have := D.n4
  omega
theorem ok_lattice (T : Txt K mg) (c_Net_period : Met P w K mg base 1 (He.ga K "Net") "period" (sp_Net_period K) []) (c_Net_turned : Met P w K mg base 1 (He.ga K "Net") "turned" (sp_Net_turned K) []) : Cal P w K mg base 2 "lattice" (sp_lattice K) [] := by
  refine cal_mk d_lattice T.d_lattice T.g_lattice sc_lattice (fun vs H Q E h => ?_) (fun _ _ _ _ _ _ us hl => match us, hl with | [_], _ => rfl) (fun cdv A outer s H vs Q E hr h => ?_)
  · obtain ⟨_, _, rfl, _⟩ := h
    rfl
  · have hu := hu_of hr
    obtain ⟨a, N, rfl, ⟨j, dx, kd, id, ot, nl, O⟩, D, k⟩ := h
    have n4 := D.n4
    refine ⟨_, (pss_cons (ps_set (i := 1) sc_lattice.nd rfl (Or.inl rfl) (pe_lst pa_nil))
      (pss_cons (ps_for PassesOwn.never rfl (pi_list (pe_fld (pv 0) rfl)) (pg_name (i := 2) sc_lattice.nd rfl (Or.inr rfl))
      (pss_cons (ps_set (i := 3) sc_lattice.nd rfl (Or.inr rfl) (C8.pe_mt c_Net_turned hr (by decide) (pv 0) (pa_cons (pv 2) pa_nil)))
        (pss_one (ps_expr (pe_bm PySem.F.plainAttrs_list PySem.F.slot_list_append PySem.F.type_list_append mt_append (pv 1) (pa_cons (pe_lc (own := [("other", 4)]) (by rfl) sc_lattice.nd (pi_list (pe_fld (pv 0) rfl)) (blkOk_by (own := [("other", 4)]) (by rfl)) (fun _ _ _ _ _ => (pg_name (i := 4) sc_lattice.nd rfl (Or.inl rfl))) (fun _ _ _ _ _ => pts_nil) (fun _ _ _ _ _ => (pe_op op_sub (pe_ifExp (pt_cmpR op_eq (pv 2) (pv 4) (nomark _)) (C8.pe_mt c_Net_period hr (by decide) (pv 0) (pa_cons (pv 2) pa_nil)) pe_int) (pe_dget2 hu (pv 3) (pv 4) pe_int ⟨rfl, rfl, rfl, rfl⟩)))) pa_nil))))))
      (pss_one (ps_ret (pv 1))))), ?_⟩
    refine ⟨(by show 0 ≤ sizeLine; exact Nat.zero_le _), fun p hp => ?_⟩
    have s0 : Same H (upd H p (.lst [])) := Same.new hp
    have O0 := O.mono s0
    refine ⟨_, rfl, a, _, dx, _, _, rfl, O0.ob, T.c_Net, T.n_Net_names, rfl, nl, rfl, ⟨_, SqL.of O0.nl⟩, ?_⟩
    refine for_list (K := K) (a := nl) (xs := (List.range N.length).map vn) (fun i σ H' => ∃ (v2 v3 : Option V) (as : Nat → Addr), σ = [some (.ref a), some (.ref p), v2, v3, none] ∧ Same H H' ∧ H' p = some (.lst (rws i as)) ∧ ∀ r, r < i → as r ≠ p ∧ IRow H' (as r) N.length (Ch.latt N r)) ?_ ?_ ?_ ?_
    · exact ⟨none, none, fun _ => 0, rfl, s0, upd_same, fun r h => absurd h (Nat.not_lt_zero _)⟩
    · rintro i σ H' _ ⟨_, _, _, _, s', _⟩
      exact SqL.of (s' _ _ O.nl)
    · rintro i x σ H' hx ⟨v2, v3, as, rfl, s', e', hr'⟩
      have hi : i < N.length := by
        have := (List.getElem?_eq_some_iff.mp hx).1
        rw [mlen] at this; exact this
      rw [mget _ hi] at hx
      cases hx
      have O1 := O.mono s'
      refine ⟨_, rfl, a, dx, _, rfl, O1.ob, rfl, _, rfl, a, N, i, rfl, ⟨j, dx, kd, id, ot, nl, O1⟩, hi, fun d hd => Drawn8 D hi d (List.mem_append_right _ hd), fun q ks H2 hq s2 DD => ?_⟩
      have e2 := s2 _ _ e'
      have O2 := O1.mono s2
      refine ⟨_, rfl, .inl ⟨rfl, _, SqL.of e2⟩, _, rfl, a, _, dx, _, _, rfl, O2.ob, T.c_Net, T.n_Net_names, rfl, nl, rfl, ⟨_, SqL.of O2.nl⟩, ?_⟩
      refine lc_vals (walk_list (xs := (List.range N.length).map vn)) (fun u => .int (Ch.latt N i u)) (by rw [mlen]; omega) (fun H' s => SqL.of (s _ _ O2.nl)) ?_ ?_
      · rintro u x H3 H4 R hu' s3 ⟨rfl, hx⟩ kk
        rw [mlen] at hu'
        rw [mget _ hu'] at hx
        cases hx
        have O3 := O2.mono s3
        have DD3 := DD.mono s3
        have q0 := kk _ (Same.refl _)
        obtain ⟨o, g1, g2⟩ := DD3.get u
        refine ⟨rfl, _, rfl, _, rfl, rfl, _, rfl, ?_⟩
        rw [vn_eq]
        refine ite2 (fun c => ?_) (fun c => ?_)
        · have c' : i = u := of_decide_eq_true c
          refine ⟨_, rfl, a, dx, _, rfl, O3.ob, rfl, _, rfl, a, N, i, rfl, ⟨j, dx, kd, id, ot, nl, O3⟩, hi, ?_⟩
          refine ⟨_, rfl, q, rfl, isD DD3.at_, _, rfl, o, g1, _, _, rfl, g2, ?_⟩
          unfold Ch.latt at q0
          rw [if_pos c'] at q0
          exact q0
        · have c' : ¬ i = u := fun z => c (decide_eq_true z)
          refine ⟨_, rfl, q, rfl, isD DD3.at_, _, rfl, o, g1, _, _, rfl, g2, ?_⟩
          unfold Ch.latt at q0
          rw [if_neg c'] at q0
          exact q0
      · intro l H3 hl s3 e3
        rw [mlen] at e3
        have e4 := s3 _ _ e2
        have nl' : l ≠ p := fun z => by rw [z, e2] at hl; cases hl
        refine ⟨p, _, _, rfl, rfl, e4, by rw [rws_len]; exact sz5 (by omega), ?_⟩
        refine ⟨some (vn i), some (.ref q), fun r => if r = i then l else as r, rfl, ((s'.trans s2).trans s3).mut hp, ?_, fun r hr2 => ?_⟩
        · rw [upd_same]
          have : rws (i + 1) (fun r => if r = i then l else as r) = rws i as ++ [.ref l] := by
            unfold rws
            rw [List.range_succ, List.map_append]
            congr 1
            · exact List.map_congr_left fun t ht => by simp only [if_neg (Nat.ne_of_lt (List.mem_range.mp ht))]
            · simp
          rw [this]
        · by_cases c : r = i
          · subst c
            show (if r = r then l else as r) ≠ p ∧ IRow _ (if r = r then l else as r) _ _
            rw [if_pos rfl]
            exact ⟨nl', by unfold IRow; rw [upd_ne nl']; exact e3⟩
          · obtain ⟨h1, h2⟩ := hr' r (by omega)
            simp only [if_neg c]
            exact ⟨h1, by unfold IRow; rw [upd_ne h1]; exact s3 _ _ (s2 _ _ h2)⟩
    · rintro σ H' ⟨v2, v3, as, rfl, s', e', hr'⟩
      rw [mlen] at e' hr'
      exact ⟨_, rfl, k p H' hp s' ⟨as, e', fun r h => (hr' r h).2⟩⟩
def sp_ends (K : PySem.W.Frag) : Sp := fun vs H Q _ => ∃ (a : Addr) (N : Ch.Nt), vs = [.ref a] ∧ NetAt K H a N ∧ Ch.Drawn N ∧ Ch.EndsN N ∧ ∀ H', Same H H' → Q (.bl true) H'
theorem sc_ends : FnScope ["net"] ["net"] d_ends.scope := ⟨rfl, rfl, rfl, by decide +kernel, rfl, by decide +kernel, by decide +kernel⟩
theorem ok_ends (T : Txt K mg) (c_minors_of : Cal P w K mg base 1 "minors_of" sp_minors_of []) (c_lattice : Cal P w K mg base 2 "lattice" (sp_lattice K) []) (c_check_net : Cal P w K mg base 1 "check_net" (sp_check_net K) []) : Cal P w K mg base 3 "ends" (sp_ends K) [] := by
  refine cal_mk d_ends T.d_ends T.g_ends sc_ends (fun vs H Q E h => ?_) (fun _ _ _ _ _ _ us hl => match us, hl with | [_], _ => rfl) (fun cdv A outer s H vs Q E hr h => ?_)
  · obtain ⟨_, _, rfl, _⟩ := h
    rfl
  · have hu := hu_of hr
    obtain ⟨a, N, rfl, hN, D, e, k⟩ := h
    refine ⟨_, (pss_cons (ps_expr (C8.pe_c c_check_net hr (by decide) rfl (pa_cons (pv 0) pa_nil)))
      (pss_one (ps_ret (pe_cmpR op_gt (pe_ix ix_list (C8.pe_c c_minors_of hr (by decide) rfl (pa_cons (C8.pe_c c_lattice hr (by decide) rfl (pa_cons (pv 0) pa_nil)) pa_nil)) (pe_un un_neg pe_int) (fun _ _ => rfl)) pe_int (nomark _))))), ?_⟩
    refine ⟨_, rfl, a, N, rfl, hN, ?_⟩
    refine ⟨_, rfl, a, N, rfl, hN, D, fun p H1 hp s1 m1 => ?_⟩
    refine ⟨p, N.length, _, rfl, m1, D.n1, D.n4, fun i j hi _ => D.latt10 hi j, fun q H2 init last hq s2 e2 hl => ?_⟩
    refine ⟨1, rfl, q, _, _, _, rfl, rfl, SqL.of e2, by rw [List.map_append]; exact atI_last _ _, ?_⟩
    refine ⟨_, _, rfl, rfl, ?_⟩
    have := hl.mpr e
    show Q (.bl (decide (0 < last))) H2
    rw [decide_eq_true this]
    exact k H2 (s1.trans s2)
/-! ### check_standing -/
def sp_Net_check_standing (K : PySem.W.Frag) : Sp := fun vs H Q _ => ∃ (a st : Addr) (N : Ch.Nt) (s : Nat → Nat), vs = [.ref a, .ref st] ∧ NetAt K H a N ∧ StdAt H st N.length s ∧ (∀ v, v < N.length → s v < (Ch.kn N v).len) ∧ Q .non H
theorem sc_Net_check_standing : FnScope ["self", "standing", "name"] ["self", "standing"] d_Net_check_standing.scope := ⟨rfl, rfl, rfl, by decide +kernel, rfl, by decide +kernel, by decide +kernel⟩
theorem ok_Net_check_standing (T : Txt K mg) (c_Net_front : Met P w K mg base 1 (He.ga K "Net") "front" (sp_Net_front K) []) (c_Net_period : Met P w K mg base 1 (He.ga K "Net") "period" (sp_Net_period K) []) (c_is_number : Cal P w K mg base 1 "is_number" sp_is_number []) : Met P w K mg base 2 (He.ga K "Net") "check_standing" (sp_Net_check_standing K) [] := by
  refine met_mk d_Net_check_standing T.d_Net_check_standing T.c_Net T.t_Net_check_standing sc_Net_check_standing (fun vs H Q E h => ?_) (fun _ _ _ _ _ _ us hl => match us, hl with | [_, _], _ => rfl) (fun cdv A outer s H vs Q E hr h => ?_)
  · obtain ⟨_, _, _, _, rfl, _⟩ := h
    rfl
  · have hu := hu_of hr
    obtain ⟨a, st, N, sf, rfl, ⟨j, dx, kd, id, ot, nl, O⟩, hs, hb, k⟩ := h
    refine ⟨_, (pss_cons (ps_if (PW.pt (pw_or (pt_not (pt_val (pe_callB call_isi (by rfl) T.f_isinstance (by decide +kernel) (pa_cons (pv 1) (pa_cons (pe_bltn (v := .ty "dict") rfl T.f_dict (by decide +kernel) rfl) pa_nil))))) (pw_or1 (pt_cmpR op_ne (pe_callB call_lenD (by rfl) T.f_len (by decide +kernel) (pa_cons (pv 1) pa_nil)) (pe_callB call_lenD (by rfl) T.f_len (by decide +kernel) (pa_cons (pe_fld (pv 0) rfl) pa_nil)) (nomark _)))))
      (pss_one ps_never)
      pss_nil)
      (pss_one (ps_for PassesOwn.never rfl (pi_list (pe_fld (pv 0) rfl)) (pg_name (i := 2) sc_Net_check_standing.nd rfl (Or.inl rfl))
      (pss_cons (ps_if (PW.pt (pw_or (pt_cmp (pc_dnotin hu (pv 2) (pv 1))) (pw_or1 (pt_not (pt_val (C8.pe_c c_is_number hr (by decide) rfl (pa_cons (pe_dget hu (pv 1) (pv 2) (fun _ _ => rfl)) pa_nil)))))))
        (pss_one ps_never)
        pss_nil)
        (pss_one (ps_if (pt_not (pt_chain op_le op_lt pe_int (pe_dget hu (pv 1) (pv 2) (fun _ _ => rfl)) (pe_op op_add (C8.pe_mt c_Net_front hr (by decide) (pv 0) (pa_cons (pv 2) pa_nil)) (C8.pe_mt c_Net_period hr (by decide) (pv 0) (pa_cons (pv 2) pa_nil)))))
        (pss_one ps_never)
        pss_nil)))))), ?_⟩
    have hN : NetAt K H a N := ⟨j, dx, kd, id, ot, nl, O⟩
    obtain ⟨kns, hk1, _⟩ := O.kn
    refine ⟨_, rfl, _, _, _, _, true, rfl, .ty _, .base (.dK hs), rfl, true, rfl, iteF ?_⟩
    refine ⟨_, rfl, st, _, rfl, hs, _, rfl, a, _, dx, _, _, rfl, O.ob, T.c_Net, T.n_Net_knots, rfl, kd, _, rfl, hk1, rfl, false, ?_, iteF ?_⟩
    · rw [dk_len, dk_len]; simp
    refine ⟨_, rfl, a, _, dx, _, _, rfl, O.ob, T.c_Net, T.n_Net_names, rfl, nl, rfl, ⟨_, SqL.of O.nl⟩, ?_⟩
    refine for_list (K := K) (a := nl) (xs := (List.range N.length).map vn) (fun i σ H' => H' = H ∧ ∃ v2, σ = [some (.ref a), some (.ref st), v2]) ?_ ?_ ?_ ?_
    · exact ⟨rfl, none, rfl⟩
    · rintro i σ H' _ ⟨rfl, _⟩
      exact SqL.of O.nl
    · rintro i x σ H' hx ⟨rfl, v2, rfl⟩
      have hi : i < N.length := by
        have := (List.getElem?_eq_some_iff.mp hx).1
        rw [mlen] at this; exact this
      rw [mget _ hi] at hx
      cases hx
      have g := hs.get hi
      refine ⟨_, rfl, _, rfl, st, _, rfl, g, false, rfl, iteF ?_⟩
      refine ⟨_, rfl, _, rfl, st, _, rfl, g, _, rfl, true, rfl, iteF ?_⟩
      refine ⟨_, rfl, _, rfl, st, _, rfl, g, _, _, rfl, rfl, true, ?_, iteT ?_⟩
      · show V.bl (decide ((0 : Int) ≤ (sf i : Nat))) = _
        rw [decide_eq_true (by omega)]
      refine ⟨_, rfl, a, dx, _, rfl, O.ob, rfl, _, rfl, a, N, i, rfl, hN, hi, _, rfl, a, dx, _, rfl, O.ob, rfl, _, rfl, a, N, i, rfl, hN, hi, _, _, rfl, rfl, _, _, rfl, rfl, true, ?_, iteF ⟨rfl, _, rfl⟩⟩
      have := hb i hi
      unfold Ch.Kn.len at this
      show V.bl (decide (((sf i : Nat) : Int) < ((Ch.kn N i).fr.length : Nat) + (Ch.per N i : Nat))) = _
      rw [decide_eq_true (by show ((sf i : Nat) : Int) < ((Ch.kn N i).fr.length : Nat) + ((Ch.kn N i).tu.length : Nat); omega)]
    · rintro σ H' ⟨rfl, v2, rfl⟩
      exact k
end
end K11
end
section
set_option Elab.async false
set_option linter.all false
set_option maxRecDepth 100000
/-! R6: a dict that is new, locked from then on; the board as an object. -/
namespace K11
open PySem PySem.Spec PyProof.Rows L2
open C8 (Cal Met Mak)
section
variable {X : Cx}
def tLk (te : TE) : TE := fun σ H Q => te σ H fun x H1 => ∃ d u, x = .ref d ∧ H1 d = some u ∧ Mut (some u) ∧ ∀ od, Q (.ref d) (upd H1 d (.frz od u))
theorem pe_lk {e : Expr} {te : TE} (h : PE X e te) : PE X e (tLk te) := by
  refine ⟨fun pins s σ H Q I hw => thn (h.run pins s σ H _ I hw) fun v s1 ⟨x, H1, I1, r, d, u, ex, hd, mu, q⟩ => ?_⟩
  obtain ⟨od, I2⟩ := I1.lock hd mu
  subst ex
  exact ⟨.ref d, _, I2, r, q od⟩
theorem walk_itemsN {d : Addr} {o : Obj} {ks : List Nat} {f : Nat → V} : Walk (Iti d o (dk ks f)) ks.length (fun H => H d = some (.frz o (.dK (dk ks f)))) (fun i H v H' => ∃ T t, ks[i]? = some t ∧ v = .ref T ∧ H T = none ∧ H' = upd H T (.tup [vn t, f t])) := by
  have := walk_items (d := d) (o := o) (kvs := dk ks f)
  rw [dk_len] at this
  refine this.mono (fun _ h => h) fun i H x H' hi h ⟨T, x1, y1, h1, h2, h3, h4, h5⟩ => ?_
  unfold dk at h4 h5
  cases hh : ks[i]? with
  | none => simp [List.getElem?_map, hh] at h4
  | some t =>
    simp only [List.getElem?_map, hh] at h4 h5
    cases h4
    cases h5
    exact ⟨T, t, rfl, h1, h2, h3⟩
end
/-! ### int dicts with fixed keys -/
def ID (H : Hp) (a : Addr) (ks : List Nat) (f : Nat → Int) : Prop := H a = some (.dK (dk ks fun t => .int (f t)))
theorem ID.get {H : Hp} {a : Addr} {ks : List Nat} {f : Nat → Int} (h : ID H a ks f) {u : Nat} (hu : u ∈ ks) : DGet H a (vn u) (some (.int (f u))) := DGet.in_ h hu
theorem ID.put {H : Hp} {a : Addr} {ks : List Nat} {f : Nat → Int} (h : ID H a ks f) {u : Nat} (hu : u ∈ ks) (i : Int) (hl : ks.length ≤ 1000) : DPut H a (vn u) (.int i) (upd H a (.dK (dk ks fun t => .int (gput f u i t)))) := by
  have := DPut.n h u (.int i) hl
  rw [DI.fput] at this
  have e : kput ks u = ks := by unfold kput; rw [if_pos hu]
  rw [e] at this
  exact this
theorem ID.congr {H : Hp} {a : Addr} {ks : List Nat} {f g : Nat → Int} (h : ID H a ks f) (e : ∀ t ∈ ks, f t = g t) : ID H a ks g := by
  have : dk ks (fun t => V.int (f t)) = dk ks (fun t => V.int (g t)) := dk_congr fun t ht => by rw [e t ht]
  unfold ID at h ⊢
  rw [← this]; exact h
theorem ID.mono' {H H' : Hp} {a : Addr} {ks : List Nat} {f : Nat → Int} (h : ID H a ks f) (s : Same H H') : ID H' a ks f := s _ _ h
theorem StdAt.id {H : Hp} {a : Addr} {n : Nat} {s : Nat → Nat} (h : StdAt H a n s) : ID H a (List.range n) fun v => (s v : Nat) := h
/-! ### the board -/
def brdFs (a sd wd od td : Addr) : List (Str × V) := [("net", .ref a), ("standing", .ref sd), ("waiting", .ref wd), ("out", .ref od), ("taken", .ref td)]
def Fr4 (sd wd od td : Addr) (H H' : Hp) : Prop := ∀ c o, c ≠ sd → c ≠ wd → c ≠ od → c ≠ td → H c = some o → H' c = some o
theorem Fr4.refl {sd wd od td : Addr} (H : Hp) : Fr4 sd wd od td H H := fun _ _ _ _ _ _ h => h
theorem Fr4.trans {sd wd od td : Addr} {H H1 H2 : Hp} (a : Fr4 sd wd od td H H1) (b : Fr4 sd wd od td H1 H2) : Fr4 sd wd od td H H2 := fun c o h1 h2 h3 h4 h => b c o h1 h2 h3 h4 (a c o h1 h2 h3 h4 h)
theorem _root_.L2.Same.f4 {sd wd od td : Addr} {H H' : Hp} (s : Same H H') : Fr4 sd wd od td H H' := fun c o _ _ _ _ h => s c o h
theorem Fr4.u1 {sd wd od td : Addr} {H : Hp} {u : HO} : Fr4 sd wd od td H (upd H sd u) := fun c o h1 _ _ _ h => by rw [upd_ne h1]; exact h
theorem Fr4.u2 {sd wd od td : Addr} {H : Hp} {u : HO} : Fr4 sd wd od td H (upd H wd u) := fun c o _ h1 _ _ h => by rw [upd_ne h1]; exact h
theorem Fr4.u3 {sd wd od td : Addr} {H : Hp} {u : HO} : Fr4 sd wd od td H (upd H od u) := fun c o _ _ h1 _ h => by rw [upd_ne h1]; exact h
theorem Fr4.u4 {sd wd od td : Addr} {H : Hp} {u : HO} : Fr4 sd wd od td H (upd H td u) := fun c o _ _ _ h1 h => by rw [upd_ne h1]; exact h
structure BrdG (K : PySem.W.Frag) (H0 H : Hp) (b dx a sd wd od td : Addr) (N : Ch.Nt) (st : Nat → Int) (ks : List Nat) (g o tk : Nat → Int) : Prop where
  ob : H b = some (.ins (He.ga K "Board") dx (brdFs a sd wd od td))
  sm : Same H0 H
  nt : NetAt K H0 a N
  f1 : H0 sd = none
  f2 : H0 wd = none
  f3 : H0 od = none
  f4 : H0 td = none
  d12 : sd ≠ wd
  d13 : sd ≠ od
  d14 : sd ≠ td
  d23 : wd ≠ od
  d24 : wd ≠ td
  d34 : od ≠ td
  sa : ID H sd (List.range N.length) st
  wa : DI H wd ks g
  wk : ∀ t ∈ ks, t < N.length
  oa : ID H od [4, 5] o
  ta : ID H td (List.range N.length) tk
section
variable {K : PySem.W.Frag} {H0 H : Hp} {b dx a sd wd od td : Addr} {N : Ch.Nt} {st : Nat → Int} {ks : List Nat} {g o tk : Nat → Int}
theorem BrdG.mono {H' : Hp} (s : Same H H') (B : BrdG K H0 H b dx a sd wd od td N st ks g o tk) : BrdG K H0 H' b dx a sd wd od td N st ks g o tk :=
  ⟨s _ _ B.ob, B.sm.trans s, B.nt, B.f1, B.f2, B.f3, B.f4, B.d12, B.d13, B.d14, B.d23, B.d24, B.d34, s _ _ B.sa, B.wa.mono s, B.wk, s _ _ B.oa, s _ _ B.ta⟩
theorem BrdG.nb {c : Addr} {l : List (Key × V)} (B : BrdG K H0 H b dx a sd wd od td N st ks g o tk) (h : H c = some (.dK l)) : b ≠ c := ne_of B.ob h (by intro z; cases z)
theorem BrdG.stPut (B : BrdG K H0 H b dx a sd wd od td N st ks g o tk) (u : Nat) (i : Int) : BrdG K H0 (upd H sd (.dK (dk (List.range N.length) fun t => .int (gput st u i t)))) b dx a sd wd od td N (gput st u i) ks g o tk :=
  ⟨by rw [upd_ne (B.nb B.sa)]; exact B.ob, B.sm.mut B.f1, B.nt, B.f1, B.f2, B.f3, B.f4, B.d12, B.d13, B.d14, B.d23, B.d24, B.d34, upd_same, B.wa.sx SameX.upd B.d12.symm, B.wk, SameX.upd _ _ B.d13.symm B.oa, SameX.upd _ _ B.d14.symm B.ta⟩
theorem BrdG.tkPut (B : BrdG K H0 H b dx a sd wd od td N st ks g o tk) (u : Nat) (i : Int) : BrdG K H0 (upd H td (.dK (dk (List.range N.length) fun t => .int (gput tk u i t)))) b dx a sd wd od td N st ks g o (gput tk u i) :=
  ⟨by rw [upd_ne (B.nb B.ta)]; exact B.ob, B.sm.mut B.f4, B.nt, B.f1, B.f2, B.f3, B.f4, B.d12, B.d13, B.d14, B.d23, B.d24, B.d34, SameX.upd _ _ B.d14 B.sa, B.wa.sx SameX.upd B.d24, B.wk, SameX.upd _ _ B.d34 B.oa, upd_same⟩
theorem BrdG.oPut (B : BrdG K H0 H b dx a sd wd od td N st ks g o tk) (u : Nat) (i : Int) : BrdG K H0 (upd H od (.dK (dk [4, 5] fun t => .int (gput o u i t)))) b dx a sd wd od td N st ks g (gput o u i) tk :=
  ⟨by rw [upd_ne (B.nb B.oa)]; exact B.ob, B.sm.mut B.f3, B.nt, B.f1, B.f2, B.f3, B.f4, B.d12, B.d13, B.d14, B.d23, B.d24, B.d34, SameX.upd _ _ B.d13 B.sa, B.wa.sx SameX.upd B.d23, B.wk, upd_same, SameX.upd _ _ B.d34.symm B.ta⟩
theorem BrdG.wPut (B : BrdG K H0 H b dx a sd wd od td N st ks g o tk) {u : Nat} (hu : u < N.length) (h8 : u < 8) (i : Int) : DPut H wd (vn u) (.int i) (upd H wd (.dK (dk (kput ks u) fun t => .int (gput g u i t)))) ∧ BrdG K H0 (upd H wd (.dK (dk (kput ks u) fun t => .int (gput g u i t)))) b dx a sd wd od td N st (kput ks u) (gput g u i) o tk := by
  obtain ⟨H', p1, p2, p3⟩ := B.wa.put h8 i
  subst p2
  exact ⟨p1, by rw [upd_ne (B.nb B.wa.at_)]; exact B.ob, B.sm.mut B.f2, B.nt, B.f1, B.f2, B.f3, B.f4, B.d12, B.d13, B.d14, B.d23, B.d24, B.d34, SameX.upd _ _ B.d12 B.sa, p3, fun t ht => (mem_kput.mp ht).elim (B.wk t) fun e => e ▸ hu, SameX.upd _ _ B.d23.symm B.oa, SameX.upd _ _ B.d24.symm B.ta⟩
theorem BrdG.congr {st' o' tk' : Nat → Int} (B : BrdG K H0 H b dx a sd wd od td N st ks g o tk) (h1 : ∀ v, v < N.length → st v = st' v) (h2 : o 4 = o' 4 ∧ o 5 = o' 5) (h3 : ∀ v, v < N.length → tk v = tk' v) : BrdG K H0 H b dx a sd wd od td N st' ks g o' tk' :=
  { B with sa := B.sa.congr fun t ht => h1 t (List.mem_range.mp ht), oa := B.oa.congr fun t ht => by rcases List.mem_cons.mp ht with e | e; rw [e]; exact h2.1; rw [List.mem_singleton.mp e]; exact h2.2, ta := B.ta.congr fun t ht => h3 t (List.mem_range.mp ht) }
end
end K11
end
section
set_option Elab.async false
set_option linter.all false
set_option maxRecDepth 100000
namespace Ch
theorem inn_putadd {N : Nt} {s y : Nat → Nat} {v m : Nat} (hv : v < 4) (u : Nat) : inn N s (put y v (y v + m)) u = inn N s y u + fall (kn N v) (aft N s y v) u m := by
  have h : ∀ w, w < 4 → fall (kn N w) (s w) u (put y v (y v + m) w) = fall (kn N w) (s w) u (y w) + (if w = v then fall (kn N v) (aft N s y v) u m else 0) := fun w _ => by
    by_cases c : w = v
    · subst c; rw [put_same, if_pos rfl, fall_add]; rfl
    · rw [put_ne y c, if_neg c, Nat.add_zero]
  unfold inn
  rw [S4_congr h, S4_add]
  congr 1
  rcases lt4 hv with rfl | rfl | rfl | rfl <;> simp [S4]
theorem aft_putadd {N : Nt} {s y : Nat → Nat} {v m : Nat} (w : Nat) : aft N s (put y v (y v + m)) w = if w = v then plc (kn N v) (aft N s y v) m else aft N s y w := by
  unfold aft
  by_cases c : w = v
  · subst c; rw [put_same, if_pos rfl, plc_add]
  · rw [put_ne y c, if_neg c]
end Ch
namespace K11
open PySem PySem.Spec PyProof.Rows L2
open C8 (Cal Met Mak)
section
variable {P : Program} {w : World} {K : PySem.W.Frag} {mg : Str → Option Value} {base : Heap}
def Brd (K : PySem.W.Frag) (H0 H : Hp) (b dx a sd wd od td : Addr) (N : Ch.Nt) (s0 bal y : Nat → Nat) : Prop :=
  ∃ ks g, BrdG K H0 H b dx a sd wd od td N (fun v => (Ch.aft N s0 y v : Nat)) ks g (fun t => (Ch.inn N s0 y t : Nat)) (fun v => (y v : Nat)) ∧ ∀ u, u < N.length → g u = ((bal u + Ch.inn N s0 y u : Nat) : Int) - (y u : Nat)
theorem Brd.mono {H0 H H' : Hp} {b dx a sd wd od td : Addr} {N : Ch.Nt} {s0 bal y : Nat → Nat} (s : Same H H') (B : Brd K H0 H b dx a sd wd od td N s0 bal y) : Brd K H0 H' b dx a sd wd od td N s0 bal y := let ⟨ks, g, B, h⟩ := B; ⟨ks, g, B.mono s, h⟩
/-! ### Board.take -/
def sp_Board_take (K : PySem.W.Frag) : Sp := fun vs H Q _ => ∃ (H0 : Hp) (b dx a sd wd od td : Addr) (N : Ch.Nt) (s0 bal y : Nat → Nat) (v m : Nat), vs = [.ref b, vn v, .int (m : Nat)] ∧ Brd K H0 H b dx a sd wd od td N s0 bal y ∧ v < N.length ∧ Ch.Drawn N ∧ Ch.Stg N s0 ∧
  ∀ H', Fr4 sd wd od td H H' → Brd K H0 H' b dx a sd wd od td N s0 bal (Ch.put y v (y v + m)) → Q .non H'
theorem sc_Board_take : FnScope ["self", "name", "many", "place", "target", "number"] ["self", "name", "many"] d_Board_take.scope := ⟨rfl, rfl, rfl, by decide +kernel, rfl, by decide +kernel, by decide +kernel⟩
theorem mem45 {t : Nat} : t ∈ [4, 5] ↔ t = 4 ∨ t = 5 := by simp
set_option maxHeartbeats 1000000 in
theorem ok_Board_take (T : Txt K mg) (c_Net_place_behind : Met P w K mg base 2 (He.ga K "Net") "place_behind" (sp_Net_place_behind K) []) (c_Net_dropped : Met P w K mg base 2 (He.ga K "Net") "dropped" (sp_Net_dropped K) []) : Met P w K mg base 3 (He.ga K "Board") "take" (sp_Board_take K) [] := by
  refine met_mk d_Board_take T.d_Board_take T.c_Board T.t_Board_take sc_Board_take (fun vs H Q E h => ?_) (fun _ _ _ _ _ _ us hl => match us, hl with | [_, _, _], _ => rfl) (fun cdv A outer s H vs Q E hr h => ?_)
  · obtain ⟨_, _, _, _, _, _, _, _, _, _, _, _, _, _, rfl, _⟩ := h
    rfl
  · have hu := hu_of hr
    obtain ⟨H0, b, dx, a, sd, wd, od, td, N, s0, bal, y, v, m, rfl, ⟨ks0, g0, B, hg0⟩, hv, D, hs0, k⟩ := h
    have n4 := D.n4
    refine ⟨_, (pss_cons (ps_set (i := 3) sc_Board_take.nd rfl (Or.inl rfl) (pe_dget hu (pe_fld (pv 0) rfl) (pv 1) (fun _ _ => rfl)))
      (pss_cons (ps_for PassesOwn.never rfl (pi_items (pe_lk (C8.pe_mt c_Net_dropped hr (by decide) (pe_fld (pv 0) rfl) (pa_cons (pv 1) (pa_cons (pv 3) (pa_cons (pv 2) pa_nil)))))) (pg_tup rfl (pgs_cons (pg_name (i := 4) sc_Board_take.nd rfl (Or.inl rfl)) (pgs_cons (pg_name (i := 5) sc_Board_take.nd rfl (Or.inl rfl)) pgs_nil)))
      (pss_one (ps_if (pt_cmp (pc_din hu (pv 4) (pe_fld (pv 0) rfl)))
        (pss_one (ps_daug hu (pe_fld (pv 0) rfl) (pv 4) (pv 5) in_add (fun _ _ _ => rfl)))
        (pss_one (ps_dput hu (pe_fld (pv 0) rfl) (pv 4) (pe_op op_add (pe_dget2 hu (pe_fld (pv 0) rfl) (pv 4) pe_int ⟨rfl, rfl, rfl, rfl⟩) (pv 5)) rfl)))))
      (pss_cons (ps_dput hu (pe_fld (pv 0) rfl) (pv 1) (pe_op op_sub (pe_dget2 hu (pe_fld (pv 0) rfl) (pv 1) pe_int ⟨rfl, rfl, rfl, rfl⟩) (pv 2)) rfl)
      (pss_cons (ps_dput hu (pe_fld (pv 0) rfl) (pv 1) (C8.pe_mt c_Net_place_behind hr (by decide) (pe_fld (pv 0) rfl) (pa_cons (pv 1) (pa_cons (pv 3) (pa_cons (pv 2) pa_nil)))) rfl)
      (pss_one (ps_daug hu (pe_fld (pv 0) rfl) (pv 1) (pv 2) in_add (fun _ _ _ => rfl))))))), ?_⟩
    have hvm : v ∈ List.range N.length := List.mem_range.mpr hv
    have hpl : Ch.aft N s0 y v < (Ch.kn N v).len := hs0.aft D.sound v
    have h7 := D.len7 v
    refine ⟨_, rfl, b, _, dx, _, _, rfl, B.ob, T.c_Board, T.n_Board_standing, rfl, _, rfl, sd, _, rfl, B.sa.get hvm, ?_⟩
    obtain ⟨jk, dxn, kd, id, ot, nl, O⟩ := B.nt
    have O1 := O.mono B.sm
    refine ⟨_, rfl, b, _, dx, _, _, rfl, B.ob, T.c_Board, T.n_Board_net, rfl, a, dxn, _, rfl, O1.ob, rfl, _, rfl, _, rfl, _, rfl, ?_⟩
    refine ⟨a, N, v, Ch.aft N s0 y v, m, rfl, ⟨jk, dxn, kd, id, ot, nl, O1⟩, hv, D.tu v hv, hpl, by omega, Drawn8 D hv, fun q ks H1 hq s1 DI1 hks => ?_⟩
    obtain ⟨fl, hfl'⟩ : ∃ fl : Nat → Nat, ∀ t, Ch.fall (Ch.kn N v) (Ch.aft N s0 y v) t m = fl t := ⟨_, fun _ => rfl⟩
    simp only [hfl'] at DI1
    refine ⟨q, _, rfl, DI1.at_, trivial, fun oq => ?_⟩
    have B1 := B.mono s1
    -- the new dict, locked
    have n0 : ∀ c o, H c = some o → c ≠ q := fun c o e z => by rw [z, hq] at e; cases e
    have B2 : BrdG K H0 (upd H1 q (.frz oq (.dK (dk ks fun t => .int (fl t : Nat))))) b dx a sd wd od td N (fun v => (Ch.aft N s0 y v : Nat)) ks0 g0 (fun t => (Ch.inn N s0 y t : Nat)) (fun v => (y v : Nat)) :=
      ⟨by rw [upd_ne (n0 _ _ B.ob)]; exact B1.ob, B1.sm.mut (B.sm.free hq), B.nt, B.f1, B.f2, B.f3, B.f4, B.d12, B.d13, B.d14, B.d23, B.d24, B.d34, SameX.upd _ _ (n0 _ _ B.sa) B1.sa, B1.wa.sx SameX.upd (n0 _ _ B.wa.at_), B.wk, SameX.upd _ _ (n0 _ _ B.oa) B1.oa, SameX.upd _ _ (n0 _ _ B.ta) B1.ta⟩
    have fr2 : Fr4 sd wd od td H (upd H1 q (.frz oq (.dK (dk ks fun t => .int (fl t : Nat))))) := fun c o _ _ _ _ e => by rw [upd_ne (n0 _ _ e)]; exact s1 _ _ e
    have eq2 : upd H1 q (.frz oq (.dK (dk ks fun t => .int (fl t : Nat)))) q = some (.frz oq (.dK (dk ks fun t => .int (fl t : Nat)))) := upd_same
    have hq1 : q ≠ sd := (n0 _ _ B.sa).symm
    have hq2 : q ≠ wd := (n0 _ _ B.wa.at_).symm
    have hq3 : q ≠ od := (n0 _ _ B.oa).symm
    have hq4 : q ≠ td := (n0 _ _ B.ta).symm
    refine ⟨q, oq, _, rfl, eq2, ?_⟩
    generalize upd H1 q (.frz oq (.dK (dk ks fun t => .int (fl t : Nat)))) = H2 at *
    have htar : ∀ t ∈ ks, t < N.length ∨ t = 4 ∨ t = 5 := fun t ht => by
      obtain ⟨d, h1, h2⟩ := hks t ht
      exact D.tg v hv d h1 t h2
    refine fr_it (walk_itemsN (d := q) (o := oq) (ks := ks) (f := fun t => .int (fl t : Nat))) (fun i σ H' => ∃ (v4 v5 : Option V) (ks' : List Nat) (g o : Nat → Int), σ = [some (.ref b), some (vn v), some (.int (m : Nat)), some (.int (Ch.aft N s0 y v : Nat)), v4, v5] ∧ Fr4 sd wd od td H2 H' ∧ BrdG K H0 H' b dx a sd wd od td N (fun v => (Ch.aft N s0 y v : Nat)) ks' g o (fun v => (y v : Nat)) ∧ (∀ u, u < N.length → g u = g0 u + if u ∈ ks.take i then (fl u : Int) else 0) ∧ ∀ t, t = 4 ∨ t = 5 → o t = (Ch.inn N s0 y t : Nat) + if t ∈ ks.take i then (fl t : Int) else 0) ?_ ?_ ?_ ?_
    · exact ⟨none, none, ks0, g0, _, rfl, Fr4.refl _, B2, fun u _ => by simp, fun t _ => by simp⟩
    · rintro i σ H' _ ⟨_, _, _, _, _, _, fr, _⟩
      exact fr q _ hq1 hq2 hq3 hq4 eq2
    · rintro i x σ H' H'' hi ⟨v4, v5, ks', g, o, rfl, fr, B3, hg, ho⟩ ⟨T', t, ht, rfl, hT, rfl⟩
      have sT : Same H' (upd H' T' (.tup [vn t, .int (fl t : Nat)])) := Same.new hT
      have B4 := B3.mono sT
      have eT : upd H' T' (.tup [vn t, .int (fl t : Nat)]) T' = some (.tup [vn t, .int (fl t : Nat)]) := upd_same
      have fr4 := fr.trans sT.f4
      generalize upd H' T' (.tup [vn t, .int (fl t : Nat)]) = H4 at *
      have htk := List.mem_of_getElem? ht
      have htn := nd_take DI1.nd ht
      have etk : ∀ u, u ∈ ks.take (i + 1) ↔ u ∈ ks.take i ∨ u = t := fun u => by rw [List.take_succ, ht]; simp
      refine ⟨T', _, rfl, SqT.of eT, rfl, _, _, rfl, _, _, rfl, rfl, ?_⟩
      refine ⟨_, rfl, _, rfl, b, _, dx, _, _, rfl, B4.ob, T.c_Board, T.n_Board_out, rfl, od, _, rfl, DGet.n B4.oa t, _, rfl, ?_⟩
      by_cases c : t ∈ [4, 5]
      · rw [if_pos c]
        refine iteT ?_
        refine ⟨_, rfl, b, _, dx, _, _, rfl, B4.ob, T.c_Board, T.n_Board_out, rfl, _, rfl, od, _, rfl, B4.oa.get c, _, rfl, _, _, rfl, rfl, _, B4.oa.put c _ (by decide), ?_⟩
        refine ⟨_, _, ks', g, _, rfl, fr4.trans Fr4.u3, B4.oPut t _, fun u hu => ?_, fun t' ht' => ?_⟩
        · rw [hg u hu]
          have : u ≠ t := fun z => by have := mem45.mp c; omega
          simp only [etk, this, or_false]
        · unfold gput
          by_cases e : t' = t
          · subst e
            rw [if_pos rfl, ho t' ht', if_neg htn, if_pos ((etk t').mpr (.inr rfl))]; omega
          · rw [if_neg e, ho t' ht']
            simp only [etk, e, or_false]
      · rw [if_neg c]
        refine iteF ?_
        have htN : t < N.length := by
          rcases htar t htk with h | h
          · exact h
          · exact absurd (mem45.mpr h) c
        obtain ⟨oo, g1, g2⟩ := B4.wa.get t
        obtain ⟨p1, p2⟩ := B4.wPut htN (DI1.lt t htk) (g t + (fl t : Nat))
        refine ⟨_, rfl, b, _, dx, _, _, rfl, B4.ob, T.c_Board, T.n_Board_waiting, rfl, wd, rfl, isD B4.wa.at_, _, rfl, oo, g1, _, rfl, g t, _, g2, rfl, ?_⟩
        refine ⟨_, rfl, b, _, dx, _, _, rfl, B4.ob, T.c_Board, T.n_Board_waiting, rfl, _, rfl, wd, _, rfl, p1, ?_⟩
        refine ⟨_, _, _, _, o, rfl, fr4.trans Fr4.u2, p2, fun u hu => ?_, fun t' ht' => ?_⟩
        · unfold gput
          by_cases e : u = t
          · subst e
            rw [if_pos rfl, hg u hu, if_neg htn, if_pos ((etk u).mpr (.inr rfl))]; omega
          · rw [if_neg e, hg u hu]
            simp only [etk, e, or_false]
        · rw [ho t' ht']
          have : t' ≠ t := fun z => by omega
          simp only [etk, this, or_false]
    rintro σ H3 ⟨v4, v5, ks', g, o, rfl, fr, B3, hg, ho⟩
    rw [List.take_of_length_le (Nat.le_refl _)] at hg ho
    have hz : ∀ t, t ∉ ks → (fl t : Int) = 0 := fun t ht => DI1.zero t ht
    have hg' : ∀ u, u < N.length → g u = g0 u + (fl u : Int) := fun u hu => by
      rw [hg u hu]
      by_cases c : u ∈ ks
      · rw [if_pos c]
      · rw [if_neg c, hz u c]
    have ho' : ∀ t, t = 4 ∨ t = 5 → o t = (Ch.inn N s0 y t : Nat) + (fl t : Int) := fun t ht => by
      rw [ho t ht]
      by_cases c : t ∈ ks
      · rw [if_pos c]
      · rw [if_neg c, hz t c]
    -- waiting[name] -= many
    obtain ⟨oo, g1, g2⟩ := B3.wa.get v
    obtain ⟨p1, p2⟩ := B3.wPut hv (by omega) (g v - (m : Nat))
    refine ⟨_, rfl, b, _, dx, _, _, rfl, B3.ob, T.c_Board, T.n_Board_waiting, rfl, wd, rfl, isD B3.wa.at_, _, rfl, oo, g1, _, rfl, g v, _, g2, rfl, ?_⟩
    refine ⟨_, rfl, b, _, dx, _, _, rfl, B3.ob, T.c_Board, T.n_Board_waiting, rfl, _, rfl, wd, _, rfl, p1, ?_⟩
    have fr5 := (fr2.trans fr).trans (Fr4.u2 (u := .dK (dk (kput ks' v) fun t => .int (gput g v (g v - (m : Nat)) t))))
    generalize upd H3 wd (.dK (dk (kput ks' v) fun t => .int (gput g v (g v - (m : Nat)) t))) = H5 at *
    -- standing[name] = place_behind
    have O5 := O.mono p2.sm
    refine ⟨_, rfl, b, _, dx, _, _, rfl, p2.ob, T.c_Board, T.n_Board_net, rfl, a, dxn, _, rfl, O5.ob, rfl, _, rfl, _, rfl, _, rfl, a, N, v, _, m, rfl, ⟨jk, dxn, kd, id, ot, nl, O5⟩, hv, D.tu v hv, hpl, ?_⟩
    refine ⟨_, rfl, b, _, dx, _, _, rfl, p2.ob, T.c_Board, T.n_Board_standing, rfl, _, rfl, sd, _, rfl, p2.sa.put hvm _ (by rw [List.length_range]; omega), ?_⟩
    have p3 := p2.stPut v (Ch.plc (Ch.kn N v) (Ch.aft N s0 y v) m : Nat)
    have fr6 := fr5.trans (Fr4.u1 (u := .dK (dk (List.range N.length) fun t => .int (gput (fun v => (Ch.aft N s0 y v : Nat)) v (Ch.plc (Ch.kn N v) (Ch.aft N s0 y v) m : Nat) t))))
    generalize upd H5 sd (.dK (dk (List.range N.length) fun t => .int (gput (fun v => (Ch.aft N s0 y v : Nat)) v (Ch.plc (Ch.kn N v) (Ch.aft N s0 y v) m : Nat) t))) = H6 at *
    -- taken[name] += many
    refine ⟨_, rfl, b, _, dx, _, _, rfl, p3.ob, T.c_Board, T.n_Board_taken, rfl, _, rfl, td, _, rfl, p3.ta.get hvm, _, rfl, _, _, rfl, rfl, _, p3.ta.put hvm _ (by rw [List.length_range]; omega), ?_⟩
    have p4 := p3.tkPut v ((y v : Nat) + (m : Nat))
    refine k _ (fr6.trans Fr4.u4) ⟨_, _, p4.congr (fun u hu => ?_) ⟨?_, ?_⟩ (fun u hu => ?_), fun u hu => ?_⟩
    · unfold gput
      rw [Ch.aft_putadd]
      by_cases c : u = v
      · subst c; rw [if_pos rfl, if_pos rfl]
      · rw [if_neg c, if_neg c]
    · rw [ho' 4 (.inl rfl), Ch.inn_putadd (by omega), hfl']; push_cast; rfl
    · rw [ho' 5 (.inr rfl), Ch.inn_putadd (by omega), hfl']; push_cast; rfl
    · unfold gput
      by_cases c : u = v
      · subst c; rw [if_pos rfl, Ch.put_same]; push_cast; rfl
      · rw [if_neg c, Ch.put_ne y c]
    · have e1 := hg' u hu
      have e2 := hg0 u hu
      rw [Ch.inn_putadd (by omega), hfl']
      unfold gput
      by_cases c : u = v
      · subst c; rw [if_pos rfl, Ch.put_same]; push_cast; omega
      · rw [if_neg c, Ch.put_ne y c]; push_cast; omega
end
end K11
end
section
set_option Elab.async false
set_option linter.all false
set_option maxRecDepth 100000
namespace K11
open PySem PySem.Spec PyProof.Rows L2
open C8 (Cal Met Mak)
section
variable {P : Program} {w : World} {K : PySem.W.Frag} {mg : Str → Option Value} {base : Heap}
/-! ### Board.first_waiting -/
def sp_Board_first_waiting (K : PySem.W.Frag) : Sp := fun vs H Q _ => ∃ (H0 : Hp) (b dx a sd wd od td : Addr) (N : Ch.Nt) (st : Nat → Int) (ks : List Nat) (g o tk : Nat → Int), vs = [.ref b] ∧ BrdG K H0 H b dx a sd wd od td N st ks g o tk ∧
  ∀ r, ((r = .non ∧ ∀ u, u < N.length → g u ≤ 0) ∨ ∃ v, v < N.length ∧ r = vn v ∧ 0 < g v) → Q r H
theorem sc_Board_first_waiting : FnScope ["self", "name"] ["self"] d_Board_first_waiting.scope := ⟨rfl, rfl, rfl, by decide +kernel, rfl, by decide +kernel, by decide +kernel⟩
theorem ok_Board_first_waiting (T : Txt K mg)  : Met P w K mg base 1 (He.ga K "Board") "first_waiting" (sp_Board_first_waiting K) [] := by
  refine met_mk d_Board_first_waiting T.d_Board_first_waiting T.c_Board T.t_Board_first_waiting sc_Board_first_waiting (fun vs H Q E h => ?_) (fun _ _ _ _ _ _ us hl => match us, hl with | [_], _ => rfl) (fun cdv A outer s H vs Q E hr h => ?_)
  · obtain ⟨_, _, _, _, _, _, _, _, _, _, _, _, _, _, rfl, _⟩ := h
    rfl
  · have hu := hu_of hr
    obtain ⟨H0, b, dx, a, sd, wd, od, td, N, st, ks, g, o, tk, rfl, B, k⟩ := h
    refine ⟨_, (pss_cons (ps_for PassesOwn.never rfl (pi_list (pe_fld (pe_fld (pv 0) rfl) rfl)) (pg_name (i := 1) sc_Board_first_waiting.nd rfl (Or.inl rfl))
      (pss_one (ps_if (pt_cmpR op_gt (pe_dget2 hu (pe_fld (pv 0) rfl) (pv 1) pe_int ⟨rfl, rfl, rfl, rfl⟩) pe_int (nomark _))
        (pss_one (ps_ret (pv 1)))
        pss_nil)))
      (pss_one (ps_ret pe_non))), ?_⟩
    obtain ⟨jk, dxn, kd, id, ot, nl, O⟩ := B.nt
    have O1 := O.mono B.sm
    refine ⟨_, rfl, b, _, dx, _, _, rfl, B.ob, T.c_Board, T.n_Board_net, rfl, a, _, dxn, _, _, rfl, O1.ob, T.c_Net, T.n_Net_names, rfl, nl, rfl, ⟨_, SqL.of O1.nl⟩, ?_⟩
    refine for_list (K := K) (a := nl) (xs := (List.range N.length).map vn) (fun i σ H' => H' = H ∧ (∃ v1, σ = [some (.ref b), v1]) ∧ ∀ u, u < i → g u ≤ 0) ?_ ?_ ?_ ?_
    · exact ⟨rfl, ⟨none, rfl⟩, fun u h => absurd h (Nat.not_lt_zero _)⟩
    · rintro i σ H' _ ⟨rfl, _⟩
      exact SqL.of O1.nl
    · rintro i x σ H' hx ⟨rfl, ⟨v1, rfl⟩, hz⟩
      have hi : i < N.length := by
        have := (List.getElem?_eq_some_iff.mp hx).1
        rw [mlen] at this; exact this
      rw [mget _ hi] at hx
      cases hx
      obtain ⟨oo, g1, g2⟩ := B.wa.get i
      refine ⟨_, rfl, b, _, dx, _, _, rfl, B.ob, T.c_Board, T.n_Board_waiting, rfl, wd, rfl, isD B.wa.at_, _, rfl, oo, g1, _, _, g2, rfl, _, rfl, ?_⟩
      refine ite2 (fun c => ?_) (fun c => ?_)
      · exact ⟨_, rfl, k _ (.inr ⟨i, hi, rfl, of_decide_eq_true c⟩)⟩
      · have c' : ¬ 0 < g i := fun z => c (decide_eq_true z)
        exact ⟨rfl, ⟨_, rfl⟩, fun u hu => by
          rcases Nat.lt_or_ge u i with h | h
          · exact hz u h
          · rw [show u = i by omega]; omega⟩
    · rintro σ H' ⟨rfl, ⟨v1, rfl⟩, hz⟩
      exact k _ (.inl ⟨rfl, fun u hu => hz u (by rw [mlen]; exact hu)⟩)
/-! ### Board.__init__ -/
def sp_Board_init (K : PySem.W.Frag) : Sp := fun vs H Q _ => ∃ (b dx a st wt : Addr) (N : Ch.Nt) (f g : Nat → Int) (ks : List Nat), vs = [.ref b, .ref a, .ref st, .ref wt] ∧ H b = some (.ins (He.ga K "Board") dx []) ∧ NetAt K H a N ∧ N.length ≤ 4 ∧ ID H st (List.range N.length) f ∧ DI H wt ks g ∧
  ∀ H' sd wd od td, SameX b H H' → H sd = none → H wd = none → H od = none → H td = none → sd ≠ wd → sd ≠ od → sd ≠ td → wd ≠ od → wd ≠ td → od ≠ td → H' b = some (.ins (He.ga K "Board") dx (brdFs a sd wd od td)) →
    ID H' sd (List.range N.length) f → DI H' wd ks g → ID H' od [4, 5] (fun _ => 0) → ID H' td (List.range N.length) (fun _ => 0) → Q .non H'
theorem sc_Board_init : FnScope ["self", "net", "standing", "waiting", "name"] ["self", "net", "standing", "waiting"] d_Board_init.scope := ⟨rfl, rfl, rfl, by decide +kernel, rfl, by decide +kernel, by decide +kernel⟩
theorem SameX.none {p c : Addr} {H H' : Hp} (s : SameX p H H') (hp : ∃ o, H p = some o) (h : H' c = none) (h2 : ∃ o, H' p = some o) : H c = none := by
  cases hh : H c with
  | none => rfl
  | some o =>
    by_cases e : c = p
    · subst e; obtain ⟨o2, h2⟩ := h2; rw [h] at h2; cases h2
    · rw [s c o e hh] at h; cases h
set_option maxHeartbeats 1000000 in
theorem ok_Board_init (T : Txt K mg)  : Mak P w K mg base 1 "Board" (He.ga K "Board") (sp_Board_init K) [] := by
  refine mak_mk d_Board_init T.d_Board_init T.m_Board T.g_Board sc_Board_init (fun vs H Q E h => ?_) (fun _ _ _ _ _ _ us hl => match us, hl with | [_, _, _, _], _ => rfl) (fun cdv A outer s H vs Q E hr h => ?_)
  · obtain ⟨_, _, _, _, _, _, _, _, _, rfl, _⟩ := h
    rfl
  · have hu := hu_of hr
    obtain ⟨b, dx, a, st, wt, N, f, g, ks, rfl, hob, ⟨jk, dxn, kd, id, ot, nl, O⟩, n4, hs, hw, k⟩ := h
    refine ⟨_, (pss_cons (ps_fld (pv 0) (pv 1) rfl)
      (pss_cons (ps_fld (pv 0) (pe_dc (own := [("name", 4)]) (by rfl) sc_Board_init.nd (pi_list (pe_fld (pv 1) rfl)) (blkOk_by (own := [("name", 4)]) (by rfl)) (fun _ _ _ _ _ => (pg_name (i := 4) sc_Board_init.nd rfl (Or.inl rfl))) (fun _ _ _ _ _ => pts_nil) (fun _ _ _ _ _ => (pv 4)) (fun _ _ _ _ _ => (pe_dget hu (pv 2) (pv 4) (fun _ _ => rfl)))) rfl)
      (pss_cons (ps_fld (pv 0) (pe_callTy call_dictD (by rfl) T.f_dict (by decide +kernel) (pa_cons (pv 3) pa_nil)) rfl)
      (pss_cons (ps_fld (pv 0) (pe_dc (own := [("name", 4)]) (by rfl) sc_Board_init.nd (pi_tup (pe_fld (pv 1) rfl)) (blkOk_by (own := [("name", 4)]) (by rfl)) (fun _ _ _ _ _ => (pg_name (i := 4) sc_Board_init.nd rfl (Or.inl rfl))) (fun _ _ _ _ _ => pts_nil) (fun _ _ _ _ _ => (pv 4)) (fun _ _ _ _ _ => pe_int)) rfl)
      (pss_one (ps_fld (pv 0) (pe_dc (own := [("name", 4)]) (by rfl) sc_Board_init.nd (pi_list (pe_fld (pv 1) rfl)) (blkOk_by (own := [("name", 4)]) (by rfl)) (fun _ _ _ _ _ => (pg_name (i := 4) sc_Board_init.nd rfl (Or.inl rfl))) (fun _ _ _ _ _ => pts_nil) (fun _ _ _ _ _ => (pv 4)) (fun _ _ _ _ _ => pe_int)) rfl)))))), ?_⟩
    have nb : ∀ {c : Addr} {o : HO}, H c = some o → (∀ C d fs, o ≠ .ins C d fs ∨ C ≠ He.ga K "Board") → c ≠ b := fun {c o} e h z => by
      subst z; rw [hob] at e; cases e
      rcases h _ _ _ with h | h <;> exact h rfl
    -- self.net
    refine ⟨_, rfl, _, rfl, b, _, dx, _, rfl, hob, T.c_Board, T.n_Board_net, (by show 0 < 1000; decide), ?_⟩
    have x1 : SameX b H (upd H b (.ins (He.ga K "Board") dx (putF "net" (.ref a) []))) := SameX.upd
    have b1 : upd H b (.ins (He.ga K "Board") dx (putF "net" (.ref a) [])) b = _ := upd_same
    have hne : b ≠ a := fun z => by
      have := O.ob; rw [← z, hob] at this
      injection this with this; injection this with e1 e2 e3; cases e3
    generalize upd H b (.ins (He.ga K "Board") dx (putF "net" (.ref a) [])) = H1 at *
    have na : H1 a = _ := x1 _ _ hne.symm O.ob
    have nlb : nl ≠ b := nb O.nl fun _ _ _ => .inl (by intro z; cases z)
    have otb : ot ≠ b := nb O.ol fun _ _ _ => .inl (by intro z; cases z)
    have stb : st ≠ b := nb hs fun _ _ _ => .inl (by intro z; cases z)
    have wtb : wt ≠ b := nb hw.at_ fun _ _ _ => .inl (by intro z; cases z)
    -- self.standing
    refine ⟨_, rfl, a, _, dxn, _, _, rfl, na, T.c_Net, T.n_Net_names, rfl, nl, rfl, ⟨_, SqL.of (x1 _ _ nlb O.nl)⟩, ?_⟩
    refine dc_vals (walk_list (xs := (List.range N.length).map vn)) (fun i => i) (fun i j _ _ e => e) (fun v => .int (f v)) (by rw [mlen]; omega) (fun H' s => SqL.of (s _ _ (x1 _ _ nlb O.nl))) ?_ ?_
    · rintro i x H' H'' R hi s ⟨rfl, hy⟩ kk
      rw [mlen] at hi
      rw [mget _ hi] at hy
      cases hy
      exact ⟨rfl, _, rfl, _, rfl, _, rfl, st, _, rfl, ID.get (ks := List.range N.length) (f := f) (s _ _ (x1 _ _ stb hs)) (List.mem_range.mpr hi), kk _ (Same.refl _)⟩
    intro sd H2 hsd s2 e2
    rw [mlen, dk_id] at e2
    have hsd0 : H sd = none := x1.none ⟨_, hob⟩ hsd ⟨_, b1⟩
    have b2 := s2 _ _ b1
    have x2 := x1.trans s2.x
    refine ⟨_, rfl, b, _, dx, _, rfl, b2, T.c_Board, T.n_Board_standing, (by show 1 < 1000; decide), ?_⟩
    have sdb : sd ≠ b := fun z => by rw [z, hob] at hsd0; cases hsd0
    generalize hfs2 : putF "standing" (.ref sd) (putF "net" (.ref a) []) = fs2
    have x3 : SameX b H (upd H2 b (.ins (He.ga K "Board") dx fs2)) := x2.trans SameX.upd
    have b3 : upd H2 b (.ins (He.ga K "Board") dx fs2) b = _ := upd_same
    have e3 : ID (upd H2 b (.ins (He.ga K "Board") dx fs2)) sd (List.range N.length) f := (upd_ne sdb).trans e2
    generalize upd H2 b (.ins (He.ga K "Board") dx fs2) = H3 at *
    clear x2 b2 e2 s2 hsd x1 b1 na
    -- self.waiting
    refine ⟨_, rfl, wt, _, rfl, .of (x3 _ _ wtb hw.at_), fun wd hwd => ?_⟩
    have s4 := Same.new (o := .dK (dk ks fun t => V.int (g t))) hwd
    have hwd0 : H wd = none := x3.none ⟨_, hob⟩ hwd ⟨_, b3⟩
    have d12 : sd ≠ wd := fun z => by rw [← z] at hwd; rw [e3] at hwd; cases hwd
    have e4 : upd H3 wd (.dK (dk ks fun t => V.int (g t))) wd = _ := upd_same
    refine ⟨_, rfl, b, _, dx, _, rfl, s4 _ _ b3, T.c_Board, T.n_Board_waiting, (by rw [← hfs2]; show 2 < 1000; decide), ?_⟩
    have wdb : wd ≠ b := fun z => by rw [z, hob] at hwd0; cases hwd0
    generalize hfs3 : putF "waiting" (.ref wd) fs2 = fs3
    have x5 : SameX b H (upd (upd H3 wd (.dK (dk ks fun t => V.int (g t)))) b (.ins (He.ga K "Board") dx fs3)) := (x3.trans s4.x).trans SameX.upd
    have b5 : upd (upd H3 wd (.dK (dk ks fun t => V.int (g t)))) b (.ins (He.ga K "Board") dx fs3) b = _ := upd_same
    have e5 : ID (upd (upd H3 wd (.dK (dk ks fun t => V.int (g t)))) b (.ins (He.ga K "Board") dx fs3)) sd (List.range N.length) f := (upd_ne sdb).trans (s4 _ _ e3)
    have w5 : ID (upd (upd H3 wd (.dK (dk ks fun t => V.int (g t)))) b (.ins (He.ga K "Board") dx fs3)) wd ks g := (upd_ne wdb).trans e4
    generalize upd (upd H3 wd (.dK (dk ks fun t => V.int (g t)))) b (.ins (He.ga K "Board") dx fs3) = H5 at *
    clear x3 b3 e3 s4 hwd e4
    -- self.out
    have na5 : H5 a = _ := x5 _ _ hne.symm O.ob
    refine ⟨_, rfl, a, _, dxn, _, _, rfl, na5, T.c_Net, T.n_Net_outlets, rfl, ot, rfl, ⟨_, SqT.of (x5 _ _ otb O.ol)⟩, ?_⟩
    refine dc_vals (walk_tup (xs := [vn 4, vn 5])) (fun i => i + 4) (fun i j _ _ e => by have e2 : i + 4 = j + 4 := e; omega) (fun _ => .int 0) (by show 2 ≤ 1000; decide) (fun H' s => SqT.of (s _ _ (x5 _ _ otb O.ol))) ?_ ?_
    · rintro i x H' H'' R hi s ⟨rfl, hy⟩ kk
      have hi' : i < 2 := hi
      have ci : i = 0 ∨ i = 1 := by omega
      rcases ci with rfl | rfl
      · cases hy; exact ⟨rfl, _, rfl, kk _ (Same.refl _)⟩
      · cases hy; exact ⟨rfl, _, rfl, kk _ (Same.refl _)⟩
    intro od H6 hod s6 e6
    have e6' : ID H6 od [4, 5] (fun _ => 0) := e6
    have hod0 : H od = none := x5.none ⟨_, hob⟩ hod ⟨_, b5⟩
    have d13 : sd ≠ od := fun z => by rw [← z] at hod; rw [e5] at hod; cases hod
    have d23 : wd ≠ od := fun z => by rw [← z] at hod; rw [w5] at hod; cases hod
    refine ⟨_, rfl, b, _, dx, _, rfl, s6 _ _ b5, T.c_Board, T.n_Board_out, (by rw [← hfs3, ← hfs2]; show 3 < 1000; decide), ?_⟩
    have odb : od ≠ b := fun z => by rw [z, hob] at hod0; cases hod0
    generalize hfs4 : putF "out" (.ref od) fs3 = fs4
    have x7 : SameX b H (upd H6 b (.ins (He.ga K "Board") dx fs4)) := (x5.trans s6.x).trans SameX.upd
    have b7 : upd H6 b (.ins (He.ga K "Board") dx fs4) b = _ := upd_same
    have e7 : ID (upd H6 b (.ins (He.ga K "Board") dx fs4)) sd (List.range N.length) f := (upd_ne sdb).trans (s6 _ _ e5)
    have w7 : ID (upd H6 b (.ins (He.ga K "Board") dx fs4)) wd ks g := (upd_ne wdb).trans (s6 _ _ w5)
    have o7 : ID (upd H6 b (.ins (He.ga K "Board") dx fs4)) od [4, 5] (fun _ => 0) := (upd_ne odb).trans e6'
    generalize upd H6 b (.ins (He.ga K "Board") dx fs4) = H7 at *
    clear x5 b5 e5 w5 s6 hod e6 e6' na5
    -- self.taken
    have na7 : H7 a = _ := x7 _ _ hne.symm O.ob
    refine ⟨_, rfl, a, _, dxn, _, _, rfl, na7, T.c_Net, T.n_Net_names, rfl, nl, rfl, ⟨_, SqL.of (x7 _ _ nlb O.nl)⟩, ?_⟩
    refine dc_vals (walk_list (xs := (List.range N.length).map vn)) (fun i => i) (fun i j _ _ e => e) (fun v => .int 0) (by rw [mlen]; omega) (fun H' s => SqL.of (s _ _ (x7 _ _ nlb O.nl))) ?_ ?_
    · rintro i x H' H'' R hi s ⟨rfl, hy⟩ kk
      rw [mlen] at hi
      rw [mget _ hi] at hy
      cases hy
      exact ⟨rfl, _, rfl, kk _ (Same.refl _)⟩
    intro td H8 htd s8 e8
    rw [mlen, dk_id] at e8
    have htd0 : H td = none := x7.none ⟨_, hob⟩ htd ⟨_, b7⟩
    have d14 : sd ≠ td := fun z => by rw [← z] at htd; rw [e7] at htd; cases htd
    have d24 : wd ≠ td := fun z => by rw [← z] at htd; rw [w7] at htd; cases htd
    have d34 : od ≠ td := fun z => by rw [← z] at htd; rw [o7] at htd; cases htd
    have hfs4' : fs4 = ([("net", V.ref a), ("standing", V.ref sd), ("waiting", V.ref wd), ("out", V.ref od)] : List (Str × V)) := by rw [← hfs4, ← hfs3, ← hfs2]; rfl
    subst hfs4'
    refine ⟨_, rfl, b, _, dx, _, rfl, s8 _ _ b7, T.c_Board, T.n_Board_taken, (by show 4 < 1000; decide), ?_⟩
    have tdb : td ≠ b := fun z => by rw [z, hob] at htd0; cases htd0
    refine k _ sd wd od td ((x7.trans s8.x).trans SameX.upd) hsd0 hwd0 hod0 htd0 d12 d13 d14 d23 d24 d34 ?_ ((upd_ne sdb).trans (s8 _ _ e7)) ⟨(upd_ne wdb).trans (s8 _ _ w7), hw.nd, hw.lt, hw.zero⟩ ((upd_ne odb).trans (s8 _ _ o7)) ((upd_ne tdb).trans e8)
    rw [upd_same]; rfl
end
end K11
end
section
set_option Elab.async false
set_option linter.all false
set_option maxRecDepth 100000
namespace K11
open PySem PySem.Spec PyProof.Rows L2
open C8 (Cal Met Mak)
section
variable {P : Program} {w : World} {K : PySem.W.Frag} {mg : Str → Option Value} {base : Heap}
/-! ### Settled.__init__ -/
def setFs (t o s l : Addr) : List (Str × V) := [("taken", .ref t), ("out", .ref o), ("standing", .ref s), ("order", .ref l)]
structure SetAt (K : PySem.W.Frag) (H : Hp) (p : Addr) (n : Nat) (o s : Nat → Nat) (oa sa : Addr) : Prop where
  ob : ∃ dx t l, H p = some (.ins (He.ga K "Settled") dx (setFs t oa sa l))
  out : ID H oa [4, 5] fun t => (o t : Nat)
  std : StdAt H sa n s
theorem SetAt.mono {H H' : Hp} {p : Addr} {n : Nat} {o s : Nat → Nat} {oa sa : Addr} (x : Same H H') (h : SetAt K H p n o s oa sa) : SetAt K H' p n o s oa sa := ⟨let ⟨dx, t, l, e⟩ := h.ob; ⟨dx, t, l, x _ _ e⟩, x _ _ h.out, x _ _ h.std⟩
def sp_Settled_init (K : PySem.W.Frag) : Sp := fun vs H Q _ => ∃ (p dx t o s l : Addr) (n : Nat) (ks : List Nat) (f : Nat → Int) (of sf : Nat → Nat) (ys : List V), vs = [.ref p, .ref t, .ref o, .ref s, .ref l] ∧ H p = some (.ins (He.ga K "Settled") dx []) ∧ ID H t ks f ∧ ID H o [4, 5] (fun t => (of t : Nat)) ∧ StdAt H s n sf ∧ H l = some (.lst ys) ∧
  ∀ H' oa sa, SameX p H H' → SetAt K H' p n of sf oa sa → Q .non H'
theorem sc_Settled_init : FnScope ["self", "taken", "out", "standing", "order"] ["self", "taken", "out", "standing", "order"] d_Settled_init.scope := ⟨rfl, rfl, rfl, by decide +kernel, rfl, by decide +kernel, by decide +kernel⟩
theorem ok_Settled_init (T : Txt K mg)  : Mak P w K mg base 1 "Settled" (He.ga K "Settled") (sp_Settled_init K) [] := by
  refine mak_mk d_Settled_init T.d_Settled_init T.m_Settled T.g_Settled sc_Settled_init (fun vs H Q E h => ?_) (fun _ _ _ _ _ _ us hl => match us, hl with | [_, _, _, _, _], _ => rfl) (fun cdv A outer s H vs Q E hr h => ?_)
  · obtain ⟨_, _, _, _, _, _, _, _, _, _, _, _, rfl, _⟩ := h
    rfl
  · have hu := hu_of hr
    obtain ⟨p, dx, t, o, sd, l, n, ks, f, of, sf, ys, rfl, hob, ht, ho, hs, hl, k⟩ := h
    refine ⟨_, (pss_cons (ps_fld (pv 0) (pe_callTy call_dictD (by rfl) T.f_dict (by decide +kernel) (pa_cons (pv 1) pa_nil)) rfl)
      (pss_cons (ps_fld (pv 0) (pe_callTy call_dictD (by rfl) T.f_dict (by decide +kernel) (pa_cons (pv 2) pa_nil)) rfl)
      (pss_cons (ps_fld (pv 0) (pe_callTy call_dictD (by rfl) T.f_dict (by decide +kernel) (pa_cons (pv 3) pa_nil)) rfl)
      (pss_one (ps_fld (pv 0) (pe_callTy call_list_of (by rfl) T.f_list (by decide +kernel) (pa_cons (pv 4) pa_nil)) rfl))))), ?_⟩
    have nt : t ≠ p := ne_of ht hob (by intro z; cases z)
    have no : o ≠ p := ne_of ho hob (by intro z; cases z)
    have nsd : sd ≠ p := ne_of hs hob (by intro z; cases z)
    have nl : l ≠ p := ne_of hl hob (by intro z; cases z)
    refine ⟨_, rfl, t, _, rfl, .of ht, fun t' ht' => ?_⟩
    have s1 := Same.new (o := .dK (dk ks fun t => V.int (f t))) ht'
    refine ⟨_, rfl, p, _, dx, _, rfl, s1 _ _ hob, T.c_Settled, T.n_Settled_taken, (by show 0 < 1000; decide), ?_⟩
    generalize hfs1 : putF "taken" (.ref t') [] = fs1
    have x1 : SameX p H (upd (upd H t' (.dK (dk ks fun t => V.int (f t)))) p (.ins (He.ga K "Settled") dx fs1)) := s1.x.trans SameX.upd
    have b1 : upd (upd H t' (.dK (dk ks fun t => V.int (f t)))) p (.ins (He.ga K "Settled") dx fs1) p = _ := upd_same
    generalize upd (upd H t' (.dK (dk ks fun t => V.int (f t)))) p (.ins (He.ga K "Settled") dx fs1) = H1 at *
    refine ⟨_, rfl, o, _, rfl, .of (x1 _ _ no ho), fun o' ho' => ?_⟩
    have s2 := Same.new (o := .dK (dk [4, 5] fun t => V.int (of t : Nat))) ho'
    have e2 : upd H1 o' (.dK (dk [4, 5] fun t => V.int (of t : Nat))) o' = _ := upd_same
    refine ⟨_, rfl, p, _, dx, _, rfl, s2 _ _ b1, T.c_Settled, T.n_Settled_out, (by rw [← hfs1]; show 1 < 1000; decide), ?_⟩
    have no' : o' ≠ p := fun z => by rw [z, b1] at ho'; cases ho'
    generalize hfs2 : putF "out" (.ref o') fs1 = fs2
    have x2 : SameX p H (upd (upd H1 o' (.dK (dk [4, 5] fun t => V.int (of t : Nat)))) p (.ins (He.ga K "Settled") dx fs2)) := (x1.trans s2.x).trans SameX.upd
    have b2 : upd (upd H1 o' (.dK (dk [4, 5] fun t => V.int (of t : Nat)))) p (.ins (He.ga K "Settled") dx fs2) p = _ := upd_same
    have o2 : ID (upd (upd H1 o' (.dK (dk [4, 5] fun t => V.int (of t : Nat)))) p (.ins (He.ga K "Settled") dx fs2)) o' [4, 5] (fun t => (of t : Nat)) := (upd_ne no').trans e2
    generalize upd (upd H1 o' (.dK (dk [4, 5] fun t => V.int (of t : Nat)))) p (.ins (He.ga K "Settled") dx fs2) = H2 at *
    refine ⟨_, rfl, sd, _, rfl, .of (x2 _ _ nsd hs), fun s' hs' => ?_⟩
    have s3 := Same.new (o := .dK (dk (List.range n) fun v => V.int (sf v : Nat))) hs'
    have e3 : upd H2 s' (.dK (dk (List.range n) fun v => V.int (sf v : Nat))) s' = _ := upd_same
    refine ⟨_, rfl, p, _, dx, _, rfl, s3 _ _ b2, T.c_Settled, T.n_Settled_standing, (by rw [← hfs2, ← hfs1]; show 2 < 1000; decide), ?_⟩
    have ns' : s' ≠ p := fun z => by rw [z, b2] at hs'; cases hs'
    generalize hfs3 : putF "standing" (.ref s') fs2 = fs3
    have x3 : SameX p H (upd (upd H2 s' (.dK (dk (List.range n) fun v => V.int (sf v : Nat)))) p (.ins (He.ga K "Settled") dx fs3)) := (x2.trans s3.x).trans SameX.upd
    have b3 : upd (upd H2 s' (.dK (dk (List.range n) fun v => V.int (sf v : Nat)))) p (.ins (He.ga K "Settled") dx fs3) p = _ := upd_same
    have o3 : ID (upd (upd H2 s' (.dK (dk (List.range n) fun v => V.int (sf v : Nat)))) p (.ins (He.ga K "Settled") dx fs3)) o' [4, 5] (fun t => (of t : Nat)) := (upd_ne no').trans (s3 _ _ o2)
    have d3 : StdAt (upd (upd H2 s' (.dK (dk (List.range n) fun v => V.int (sf v : Nat)))) p (.ins (He.ga K "Settled") dx fs3)) s' n sf := (upd_ne ns').trans e3
    generalize upd (upd H2 s' (.dK (dk (List.range n) fun v => V.int (sf v : Nat)))) p (.ins (He.ga K "Settled") dx fs3) = H3 at *
    refine ⟨_, rfl, l, ys, rfl, .inl (SqL.of (x3 _ _ nl hl)), fun l' hl' => ?_⟩
    have s4 := Same.new (o := .lst ys) hl'
    have hfs3' : fs3 = ([("taken", V.ref t'), ("out", V.ref o'), ("standing", V.ref s')] : List (Str × V)) := by rw [← hfs3, ← hfs2, ← hfs1]; rfl
    subst hfs3'
    refine ⟨_, rfl, p, _, dx, _, rfl, s4 _ _ b3, T.c_Settled, T.n_Settled_order, (by show 3 < 1000; decide), ?_⟩
    refine k _ o' s' ((x3.trans s4.x).trans SameX.upd) ⟨⟨dx, t', l', ?_⟩, (upd_ne no').trans (s4 _ _ o3), (upd_ne ns').trans (s4 _ _ d3)⟩
    rw [upd_same]; rfl
/-! ### check_balls -/
def BalAt (H : Hp) (bd : Addr) (bal : Nat → Nat) : Prop := (H bd = some (.dK (dk [] fun _ => .non)) ∧ bal = fun _ => 0) ∨ ∃ m : Nat, H bd = some (.dK (dk [6] fun _ => .int (m : Nat))) ∧ bal = Ch.mu m Ch.e1
def sp_check_balls (K : PySem.W.Frag) : Sp := fun vs H Q _ => ∃ (a bd : Addr) (N : Ch.Nt) (bal : Nat → Nat), vs = [.ref a, .ref bd] ∧ NetAt K H a N ∧ 1 ≤ N.length ∧ BalAt H bd bal ∧
  ∀ p ks H', H p = none → Same H H' → DI H' p ks (fun u => (bal u : Nat)) → (∀ t ∈ ks, t < N.length) → Q (.ref p) H'
theorem sc_check_balls : FnScope ["net", "balls", "found", "name", "knot", "one"] ["net", "balls"] d_check_balls.scope := ⟨rfl, rfl, rfl, by decide +kernel, rfl, by decide +kernel, by decide +kernel⟩
def rStrS : List V → Hp → VK → Prop := fun xs H Q => ∃ a, xs = [.str a] ∧ Q (.str a) H
theorem ok_check_balls (T : Txt K mg) (c_is_number : Cal P w K mg base 1 "is_number" sp_is_number []) : Cal P w K mg base 2 "check_balls" (sp_check_balls K) [] := by
  refine cal_mk d_check_balls T.d_check_balls T.g_check_balls sc_check_balls (fun vs H Q E h => ?_) (fun _ _ _ _ _ _ us hl => match us, hl with | [_, _], _ => rfl) (fun cdv A outer s H vs Q E hr h => ?_)
  · obtain ⟨_, _, _, _, rfl, _⟩ := h
    rfl
  · have hu := hu_of hr
    obtain ⟨a, bd, N, bal, rfl, ⟨jk, dxn, kd, id, ot, nl, O⟩, n1, hbal, k⟩ := h
    refine ⟨_, (pss_cons (ps_if (pt_not (pt_val (pe_callB call_isi (by rfl) T.f_isinstance (by decide +kernel) (pa_cons (pv 1) (pa_cons (pe_bltn (v := .ty "dict") rfl T.f_dict (by decide +kernel) rfl) pa_nil)))))
      (pss_one ps_never)
      pss_nil)
      (pss_cons (ps_set (i := 2) sc_check_balls.nd rfl (Or.inl rfl) pe_dnewK)
      (pss_cons (ps_for PassesOwn.never rfl (pi_list (pe_callB cr_sortedS (by rfl) T.f_sorted (by decide +kernel) (pa_cons (pe_lock (pe_lc (te := tCB rStrS (tCons (tVar 5) tNil)) (own := [("one", 5)]) (by rfl) sc_check_balls.nd (pi_keys (pv 1)) (blkOk_by (own := [("one", 5)]) (by rfl)) (fun _ _ _ _ _ => (pg_name (i := 5) sc_check_balls.nd rfl (Or.inl rfl))) (fun _ _ _ _ _ => pts_nil) (fun _ _ _ _ _ => (pe_callTy SkE.call_str_str (by rfl) T.f_str boot_str (pa_cons (pv 5) pa_nil))))) pa_nil))) (pg_name (i := 3) sc_check_balls.nd rfl (Or.inl rfl))
      (pss_cons (ps_if (PW.pt (pw_or (pt_cmp (pc_dnotin hu (pv 3) (pv 1))) (pw_or1 (PW.pt (pw_and (pt_cmp (pc_dnotin hu (pv 3) (pe_fld (pv 0) rfl))) (pw_and1 (pt_cmp (pc_dnotin hu (pv 3) (pe_fld (pv 0) rfl)))))))))
        (pss_one ps_never)
        pss_nil)
        (pss_cons (ps_if (PW.pt (pw_or (pt_not (pt_val (C8.pe_c c_is_number hr (by decide) rfl (pa_cons (pe_dget hu (pv 1) (pv 3) (fun _ _ => rfl)) pa_nil)))) (pw_or1 (pt_cmpR op_lt (pe_dget hu (pv 1) (pv 3) (fun _ _ => rfl)) pe_int (nomark _)))))
        (pss_one ps_never)
        pss_nil)
        (pss_cons (ps_set (i := 4) sc_check_balls.nd rfl (Or.inl rfl) (pe_ifExp (pt_cmp (pc_din hu (pv 3) (pe_fld (pv 0) rfl))) (pe_dget hu (pe_fld (pv 0) rfl) (pv 3) (fun _ _ => rfl)) (pv 3)))
        (pss_one (ps_dput hu (pv 2) (pv 4) (pe_op op_add (pe_dget2 hu (pv 2) (pv 4) pe_int ⟨rfl, rfl, rfl, rfl⟩) (pe_dget hu (pv 1) (pv 3) (fun _ _ => rfl))) rfl))))))
      (pss_one (ps_ret (pv 2)))))), ?_⟩
    obtain ⟨bl, vf, hbd, hbl⟩ : ∃ (bl : List Nat) (vf : Nat → V), H bd = some (.dK (dk bl vf)) ∧ ((bl = [] ∧ bal = fun _ => 0) ∨ ∃ m : Nat, bl = [6] ∧ vf = (fun _ => .int (m : Nat)) ∧ bal = Ch.mu m Ch.e1) := by
      rcases hbal with ⟨h1, h2⟩ | ⟨m, h1, h2⟩
      · exact ⟨[], _, h1, .inl ⟨rfl, h2⟩⟩
      · exact ⟨[6], _, h1, .inr ⟨m, rfl, rfl, h2⟩⟩
    have hlen : bl.length ≤ 1 := by rcases hbl with ⟨rfl, _⟩ | ⟨_, rfl, _⟩ <;> decide
    refine ⟨_, rfl, _, _, _, _, true, rfl, .ty _, .base (.dK hbd), rfl, true, rfl, iteF ?_⟩
    intro p hp
    have s1 : Same H (upd H p (.dK [])) := Same.new hp
    have e1 : upd H p (.dK []) p = some (.dK []) := upd_same
    generalize upd H p (.dK []) = H1 at *
    refine ⟨bd, _, s1 _ _ hbd, trivial, fun od => ?_⟩
    have ebd : upd H1 bd (.frz od (.dK (dk bl vf))) bd = some (.frz od (.dK (dk bl vf))) := upd_same
    refine ⟨_, rfl, bd, od, rfl, .inl ⟨_, ebd, ?_⟩⟩
    refine lc_vals (walk_keysN (d := bd) (o := od) (ks := bl) (f := vf)) (fun i => vn (bl.getD i 0)) (by omega) (fun H' s => s _ _ ebd) ?_ ?_
    · rintro i x H' H'' R hi s ⟨rfl, t, ht, rfl⟩ kk
      have q := kk _ (Same.refl _)
      rw [List.getD_eq_getElem?_getD, ht] at q
      exact ⟨rfl, _, rfl, _, rfl, q⟩
    intro l H2 hl s2 e2
    have e2' : H2 l = some (.lst (bl.map vn)) := by
      have := lst_get bl
      rw [e2]; congr 2
      conv => rhs; rw [this, List.map_map]
      rfl
    refine ⟨s2 _ _ ebd, ?_⟩
    have nlb : l ≠ bd := fun z => by rw [z, ebd] at hl; cases hl
    -- unlocked
    have s3 : Same H1 (upd H2 bd (.dK (dk bl vf))) := fun c o h => by
      by_cases z : c = bd
      · subst z; rw [upd_same, ← h, s1 _ _ hbd]
      · rw [upd_ne z]; exact s2 _ _ (by rw [upd_ne z]; exact h)
    have e3 : upd H2 bd (.dK (dk bl vf)) l = some (.lst (bl.map vn)) := by rw [upd_ne nlb]; exact e2'
    generalize upd H2 bd (.dK (dk bl vf)) = H3 at *
    refine ⟨l, bl.map nm, rfl, SqL.of (by rw [vn_map]; exact e3), by rw [List.length_map]; omega, fun ys q hys hso hq => ?_⟩
    have eys := sorted_one hys hso (by rcases hbl with ⟨rfl, _⟩ | ⟨_, rfl, _⟩ <;> decide)
    subst eys
    rw [vn_map]
    have s4 := s3.trans (Same.new (o := .lst (bl.map vn)) hq)
    have e4 : upd H3 q (.lst (bl.map vn)) q = some (.lst (bl.map vn)) := upd_same
    have p4 : upd H3 q (.lst (bl.map vn)) p = some (.dK []) := s4 _ _ e1
    have s5 : Same H (upd H3 q (.lst (bl.map vn))) := s1.trans s4
    generalize upd H3 q (.lst (bl.map vn)) = H4 at *
    refine ⟨q, rfl, ⟨_, SqL.of e4⟩, ?_⟩
    rcases hbl with ⟨rfl, rfl⟩ | ⟨m, rfl, rfl, rfl⟩
    · refine for_list (K := K) (a := q) (xs := []) (fun i σ H' => H' = H4 ∧ σ = [some (.ref a), some (.ref bd), some (.ref p), none, none, none]) ⟨rfl, rfl⟩ (fun i σ H' _ h => by rw [h.1]; exact SqL.of e4) (fun i x σ H' hx => by cases hx) ?_
      rintro σ H' ⟨rfl, rfl⟩
      exact ⟨_, rfl, k p [] H' hp s5 ⟨p4, List.nodup_nil, fun _ h => (nomatch h), fun _ _ => rfl⟩ fun _ h => (nomatch h)⟩
    · refine for_list (K := K) (a := q) (xs := [vn 6]) (fun i σ H' => (i = 0 ∧ H' = H4 ∧ σ = [some (.ref a), some (.ref bd), some (.ref p), none, none, none]) ∨ (i = 1 ∧ (∃ v3 v4, σ = [some (.ref a), some (.ref bd), some (.ref p), v3, v4, none]) ∧ H' = upd H4 p (.dK (dk [0] fun t => .int (gput (fun _ => 0) 0 (0 + (m : Nat)) t))))) (.inl ⟨rfl, rfl, rfl⟩) (fun i σ H' _ h => ?_) ?_ ?_
      · rcases h with ⟨_, rfl, _⟩ | ⟨_, _, rfl⟩
        · exact SqL.of e4
        · exact SqL.of (by rw [upd_ne (ne_of e4 p4 (by intro z; cases z))]; exact e4)
      · rintro i x σ H' hx (⟨rfl, rfl, rfl⟩ | ⟨rfl, _⟩)
        · cases hx
          have O5 := O.mono s5
          have b5 := s5 _ _ hbd
          obtain ⟨kns, hk1, _⟩ := O5.kn
          have g1 : DGet H' bd (vn 6) (some (.int (m : Nat))) := DGet.in_ b5 (List.mem_cons_self ..)
          have g2 : DGet H' id (vn 6) (some (vn 0)) := DGet.in_ O5.il (List.mem_cons_self ..)
          refine ⟨_, rfl, _, rfl, bd, _, rfl, g1, false, rfl, iteF ?_⟩
          refine ⟨_, rfl, _, rfl, a, _, dxn, _, _, rfl, O5.ob, T.c_Net, T.n_Net_inlets, rfl, id, _, rfl, g2, false, rfl, iteF (iteF ?_)⟩
          refine ⟨_, rfl, _, rfl, bd, _, rfl, g1, _, rfl, true, rfl, iteF ?_⟩
          refine ⟨_, rfl, _, rfl, bd, _, rfl, g1, _, _, rfl, rfl, false, ?_, iteF ?_⟩
          · show V.bl (decide (((m : Nat) : Int) < 0)) = _
            rw [decide_eq_false (by omega)]
          refine ⟨_, rfl, _, rfl, a, _, dxn, _, _, rfl, O5.ob, T.c_Net, T.n_Net_inlets, rfl, id, _, rfl, g2, true, rfl, iteT ?_⟩
          refine ⟨_, rfl, a, _, dxn, _, _, rfl, O5.ob, T.c_Net, T.n_Net_inlets, rfl, _, rfl, id, _, rfl, g2, ?_⟩
          have DD : DI H' p [] (fun _ => 0) := ⟨p4, List.nodup_nil, fun _ h => (nomatch h), fun _ _ => rfl⟩
          obtain ⟨oo, h1, h2⟩ := DD.get 0
          obtain ⟨H6, q1, q2, q3⟩ := DD.put (u := 0) (by decide) (0 + (m : Nat))
          subst q2
          refine ⟨_, rfl, p, rfl, isD p4, _, rfl, oo, h1, _, rfl, _, rfl, bd, _, rfl, g1, _, _, h2, rfl, ?_⟩
          exact ⟨_, rfl, _, rfl, p, _, rfl, q1, .inr ⟨rfl, ⟨_, _, rfl⟩, rfl⟩⟩
        · cases hx
      · rintro σ H' (⟨h, _⟩ | ⟨_, ⟨v3, v4, rfl⟩, rfl⟩)
        · cases h
        · have ef : gput (fun _ => 0) 0 (0 + (m : Nat)) = fun u => ((Ch.mu m Ch.e1 u : Nat) : Int) := by
            funext u
            unfold gput Ch.mu Ch.e1
            by_cases c : u = 0
            · rw [if_pos c, if_pos c, Nat.mul_one, Int.zero_add]
            · rw [if_neg c, if_neg c]; simp
          refine ⟨_, rfl, k p [0] _ hp (s5.mut hp) ⟨?_, by decide, by decide, fun t ht => ?_⟩ fun t ht => by rw [List.mem_singleton.mp ht]; exact n1⟩
          · rw [upd_same, ef]
          · unfold Ch.mu Ch.e1
            rw [if_neg (fun z => ht (by rw [z]; exact List.mem_cons_self ..))]; simp
end
end K11
end
section
set_option Elab.async false
set_option linter.all false
set_option maxRecDepth 100000
namespace K11
open PySem PySem.Spec PyProof.Rows L2
open C8 (Cal Met Mak)
section
variable {P : Program} {w : World} {K : PySem.W.Frag} {mg : Str → Option Value} {base : Heap}
theorem BalAt.mono {H H' : Hp} {bd : Addr} {bal : Nat → Nat} (s : Same H H') (h : BalAt H bd bal) : BalAt H' bd bal := by
  rcases h with ⟨h1, h2⟩ | ⟨m, h1, h2⟩
  · exact .inl ⟨s _ _ h1, h2⟩
  · exact .inr ⟨m, s _ _ h1, h2⟩
/-- the caller's heap behind a new object -/
theorem made {K : PySem.W.Frag} {H H' : Hp} {x dx C : Addr} {u : HO} (hx : H x = none) (hdx : H dx = none) (hne : dx ≠ x) (s : SameX x (upd (upd H dx u) x (.ins C dx [])) H') : Same H H' := fun c o e => by
  have n1 : c ≠ x := ne_of_none e hx
  have n2 : c ≠ dx := ne_of_none e hdx
  exact s c o n1 (by rw [upd_ne n1, upd_ne n2]; exact e)
theorem made0 {H : Hp} {x dx C : Addr} {u : HO} (hx : H x = none) (hdx : H dx = none) : Same H (upd (upd H dx u) x (.ins C dx [])) := fun c o e => by
  rw [upd_ne (ne_of_none e hx), upd_ne (ne_of_none e hdx)]; exact e
/-! ### begun -/
def sp_begun (K : PySem.W.Frag) : Sp := fun vs H Q _ => ∃ (a bd : Addr) (sv : V) (N : Ch.Nt) (bal s0 : Nat → Nat), vs = [.ref a, .ref bd, sv] ∧ NetAt K H a N ∧ Ch.Drawn N ∧ BalAt H bd bal ∧ ((sv = .non ∧ s0 = fun _ => 0) ∨ ∃ st, sv = .ref st ∧ StdAt H st N.length s0) ∧ Ch.Stg N s0 ∧
  ∀ H' b dx sd wd od td, Same H H' → Brd K H H' b dx a sd wd od td N s0 bal (fun _ => 0) → Q (.ref b) H'
theorem sc_begun : FnScope ["net", "balls", "standing", "told"] ["net", "balls", "standing"] d_begun.scope := ⟨rfl, rfl, rfl, by decide +kernel, rfl, by decide +kernel, by decide +kernel⟩
theorem BrdG.start {H H1 H' : Hp} {b dx a sd wd od td : Addr} {N : Ch.Nt} {s0 bal : Nat → Nat} {ks : List Nat} (h1 : Same H H') (hN : NetAt K H a N) (z1 : H sd = none) (z2 : H wd = none) (z3 : H od = none) (z4 : H td = none) (d12 : sd ≠ wd) (d13 : sd ≠ od) (d14 : sd ≠ td) (d23 : wd ≠ od) (d24 : wd ≠ td) (d34 : od ≠ td)
    (ob : H' b = some (.ins (He.ga K "Board") dx (brdFs a sd wd od td))) (sa : ID H' sd (List.range N.length) fun v => (s0 v : Nat)) (wa : DI H' wd ks fun u => (bal u : Nat)) (wk : ∀ t ∈ ks, t < N.length) (oa : ID H' od [4, 5] fun _ => 0) (ta : ID H' td (List.range N.length) fun _ => 0) :
    Brd K H H' b dx a sd wd od td N s0 bal (fun _ => 0) :=
  ⟨ks, _, ⟨ob, h1, hN, z1, z2, z3, z4, d12, d13, d14, d23, d24, d34, sa, wa, wk, oa.congr fun t _ => by rw [Ch.inn_zero]; rfl, ta⟩, fun u _ => by rw [Ch.inn_zero]; simp⟩
theorem ok_begun (T : Txt K mg) (c_Board_init : Mak P w K mg base 1 "Board" (He.ga K "Board") (sp_Board_init K) []) (c_Net_start : Met P w K mg base 1 (He.ga K "Net") "start" (sp_Net_start K) []) (c_Net_check_standing : Met P w K mg base 2 (He.ga K "Net") "check_standing" (sp_Net_check_standing K) []) (c_check_balls : Cal P w K mg base 2 "check_balls" (sp_check_balls K) []) (c_check_net : Cal P w K mg base 1 "check_net" (sp_check_net K) []) : Cal P w K mg base 3 "begun" (sp_begun K) [] := by
  refine cal_mk d_begun T.d_begun T.g_begun sc_begun (fun vs H Q E h => ?_) (fun _ _ _ _ _ _ us hl => match us, hl with | [_, _, _], _ => rfl) (fun cdv A outer s H vs Q E hr h => ?_)
  · obtain ⟨_, _, _, _, _, _, rfl, _⟩ := h
    rfl
  · have hu := hu_of hr
    obtain ⟨a, bd, sv, N, bal, s0, rfl, hN, D, hb, hsv, hs0, k⟩ := h
    refine ⟨_, (pss_cons (ps_expr (C8.pe_c c_check_net hr (by decide) rfl (pa_cons (pv 0) pa_nil)))
      (pss_cons (ps_set (i := 3) sc_begun.nd rfl (Or.inl rfl) (C8.pe_c c_check_balls hr (by decide) rfl (pa_cons (pv 0) (pa_cons (pv 1) pa_nil))))
      (pss_cons (ps_if (pt_cmpR op_notN (pv 2) pe_non (nomark _))
      (pss_one (ps_expr (C8.pe_mt c_Net_check_standing hr (by decide) (pv 0) (pa_cons (pv 2) pa_nil))))
      pss_nil)
      (pss_one (ps_ret (C8.pe_mk c_Board_init hr (by decide) rfl (pa_cons (pv 0) (pa_cons (pe_ifExp (pt_cmpR op_isN (pv 2) pe_non (nomark _)) (C8.pe_mt0 c_Net_start hr (by decide) (pv 0)) (pv 2)) (pa_cons (pv 3) pa_nil))))))))), ?_⟩
    refine ⟨_, rfl, a, N, rfl, hN, ?_⟩
    refine ⟨_, rfl, _, rfl, a, bd, N, bal, rfl, hN, D.n1, hb, fun p ks H1 hp s1 DI1 hks => ?_⟩
    have hN1 := hN.mono s1
    obtain ⟨jk, dxn, kd, id, ot, nl, O⟩ := id hN1
    -- Board(..)
    have fin : ∀ (st : Addr) (H2 : Hp), Same H1 H2 → StdAt H2 st N.length s0 → ∀ x dx, H2 x = none → H2 dx = none → dx ≠ x →
        sp_Board_init K [.ref x, .ref a, .ref st, .ref p] (upd (upd H2 dx (.own x)) x (.ins (He.ga K "Board") dx [])) (fun v H3 => v = .non ∧ Q (.ref x) H3) E0 := fun st H2 s2 hst x dx hx hdx hne => by
      have m0 := made0 (C := He.ga K "Board") (u := .own x) hx hdx
      refine ⟨x, dx, a, st, p, N, _, _, ks, rfl, upd_same, (hN1.mono s2).mono m0, D.n4, (hst.id : ID H2 st _ _).mono' m0, (DI1.mono s2).mono m0, fun H' sd wd od td sx z1 z2 z3 z4 d12 d13 d14 d23 d24 d34 ob sa wa oa ta => ⟨rfl, ?_⟩⟩
      have sm : Same H H' := (s1.trans s2).trans (made (K := K) hx hdx hne sx)
      have go : ∀ c, upd (upd H2 dx (.own x)) x (.ins (He.ga K "Board") dx []) c = none → H c = none := fun c h => ((s1.trans s2).trans m0).free h
      exact k H' x dx sd wd od td sm (BrdG.start (H1 := H1) sm hN (go _ z1) (go _ z2) (go _ z3) (go _ z4) d12 d13 d14 d23 d24 d34 ob sa wa hks oa ta)
    rcases hsv with ⟨rfl, rfl⟩ | ⟨st, rfl, hst⟩
    · refine ⟨_, rfl, rfl, _, rfl, iteNS rfl ?_⟩
      refine ⟨_, rfl, _, rfl, rfl, _, rfl, ?_⟩
      refine ite2 (fun _ => ?_) (fun h => absurd (decide_eq_true rfl) h)
      refine ⟨_, rfl, a, dxn, _, rfl, O.ob, rfl, a, N, rfl, hN1, D.n4, fun st H2 hst s2 e2 => ?_⟩
      exact ⟨_, rfl, fun x dx hx hdx hne => fin st H2 s2 e2 x dx hx hdx hne⟩
    · have hst1 := hst.mono s1
      refine ⟨_, rfl, rfl, _, rfl, ?_⟩
      refine ite2 (fun _ => ?_) (fun h => absurd (by simp) h)
      refine ⟨_, rfl, a, dxn, _, rfl, O.ob, rfl, _, rfl, a, st, N, s0, rfl, hN1, hst1, fun v hv => hs0 v, ?_⟩
      refine ⟨_, rfl, _, rfl, rfl, _, rfl, ?_⟩
      refine ite2 (fun h => absurd h (by simp)) (fun _ => ?_)
      exact ⟨_, rfl, _, rfl, fun x dx hx hdx hne => fin st H1 (Same.refl _) hst1 x dx hx hdx hne⟩
end
end K11
end
section
set_option Elab.async false
set_option linter.all false
set_option maxRecDepth 100000
/-! K7: the rule for a def of the text with one default, None. -/
namespace K11
open PySem PySem.Spec PyProof.Rows L2
open C8 (Cal Met Mak)
section
variable {P : Program} {w : World} {K : PySem.W.Frag} {mg : Str → Option Value} {base : Heap}
abbrev BindD (d : He.DefD) (ps : List Str) (n j : Nat) : Prop := ∀ (T : Addr) (kV doc pm : Value) (an : Option Addr) (cdv ct : Value) (us its : List Value), us.length = n → its.length = 1 →
  ∃ k, bindArgs (PySem.W.fnOf d.name d.qual d.params d.body d.scope (.ref T) kV doc pm an cdv ct) ⟨us, []⟩ = seqItems? (.ref T) >>= k ∧ k (some its.toArray) = pure (ps.zip (us ++ its.drop j))
theorem cal_mk1 (d : He.DefD) {x : Str} {N ps : List Str} {k : Nat} {sp : Sp} (n : Nat) (F : ∃ fd, Fd K d fd) (g : mg x = some (.ref (He.ga K x))) (S : FnScope N ps d.scope)
    (len : ∀ vs H Q E, sp vs H Q E → vs.length = ps.length) (b1 : BindD d ps (n + 1) 1) (b0 : BindD d ps n 0) (hbody : BodyOk P w K mg base d N k sp) (hn : n + 1 = ps.length := by rfl) (hat : d.at_ = (x, none) := by rfl) (hd : d.dfl = [.non] := by rfl) (hk : d.kwd = [] := by rfl) :
    Cal P w K mg base (k + 1) x sp [] ∧ Cal P w K mg base (k + 1) x sp [.non] := by
  obtain ⟨fd, F⟩ := F
  have e : He.fAd K d.at_ = He.ga K x := by rw [hat]; rfl
  have F' : FunD K d.name d.qual d.params d.body d.scope [.non] [] (He.fAd K d.at_) fd := by
    have e1 : d.dvs K = [.non] := by unfold He.DefD.dvs; rw [hd]; rfl
    have e2 : d.kws K = [] := by unfold He.DefD.kws; rw [hk]; rfl
    rw [← e1, ← e2]; exact F
  obtain ⟨ds1, r1, c1⟩ := FunD.binds1 F' (n + 1) 1 (by simp) (by simpa using hn) b1
  obtain ⟨ds0, r0, c0⟩ := FunD.binds1 F' n 0 (by simp) (by simpa using hn) b0
  exact ⟨⟨He.fAd K d.at_, fd, ps, ds1, fn_mk F S len hbody, by rw [e]; exact g, F.kp, c1, r1⟩, ⟨He.fAd K d.at_, fd, ps, ds0, fn_mk F S len hbody, by rw [e]; exact g, F.kp, c0, r0⟩⟩
theorem bd_settle1 : BindD d_settle ["net", "balls", "standing"] 3 1 := fun T kV doc pm an cdv ct us its l1 l2 => match us, its, l1, l2 with | [_, _, _], [_], _, _ => ⟨_, rfl, rfl⟩
theorem bd_settle0 : BindD d_settle ["net", "balls", "standing"] 2 0 := fun T kV doc pm an cdv ct us its l1 l2 => match us, its, l1, l2 with | [_, _], [_], _, _ => ⟨_, rfl, rfl⟩
theorem bd_course1 : BindD d_course ["net", "name", "standing"] 3 1 := fun T kV doc pm an cdv ct us its l1 l2 => match us, its, l1, l2 with | [_, _, _], [_], _, _ => ⟨_, rfl, rfl⟩
theorem bd_course0 : BindD d_course ["net", "name", "standing"] 2 0 := fun T kV doc pm an cdv ct us its l1 l2 => match us, its, l1, l2 with | [_, _], [_], _, _ => ⟨_, rfl, rfl⟩
end
end K11
end
section
set_option Elab.async false
set_option linter.all false
set_option maxRecDepth 100000
namespace K11
open PySem PySem.Spec PyProof.Rows L2
open C8 (Cal Met Mak)
section
variable {P : Program} {w : World} {K : PySem.W.Frag} {mg : Str → Option Value} {base : Heap}
theorem BrdG.other {H0 H : Hp} {b dx a sd wd od td l : Addr} {N : Ch.Nt} {st : Nat → Int} {ks : List Nat} {g o tk : Nat → Int} {ys zs : List V} (B : BrdG K H0 H b dx a sd wd od td N st ks g o tk) (h0 : H0 l = none) (hl : H l = some (.lst ys)) :
    BrdG K H0 (upd H l (.lst zs)) b dx a sd wd od td N st ks g o tk := by
  have n1 : b ≠ l := ne_of B.ob hl (by intro z; cases z)
  have n2 : sd ≠ l := ne_of B.sa hl (by intro z; cases z)
  have n3 : wd ≠ l := ne_of B.wa.at_ hl (by intro z; cases z)
  have n4 : od ≠ l := ne_of B.oa hl (by intro z; cases z)
  have n5 : td ≠ l := ne_of B.ta hl (by intro z; cases z)
  exact ⟨(upd_ne n1).trans B.ob, B.sm.mut h0, B.nt, B.f1, B.f2, B.f3, B.f4, B.d12, B.d13, B.d14, B.d23, B.d24, B.d34, (upd_ne n2).trans B.sa, B.wa.sx SameX.upd n3, B.wk, (upd_ne n4).trans B.oa, (upd_ne n5).trans B.ta⟩
theorem Brd.other {H0 H : Hp} {b dx a sd wd od td l : Addr} {N : Ch.Nt} {s0 bal y : Nat → Nat} {ys zs : List V} (B : Brd K H0 H b dx a sd wd od td N s0 bal y) (h0 : H0 l = none) (hl : H l = some (.lst ys)) :
    Brd K H0 (upd H l (.lst zs)) b dx a sd wd od td N s0 bal y := let ⟨ks, g, B, h⟩ := B; ⟨ks, g, B.other h0 hl, h⟩
theorem Brd.fr {H0 H H' : Hp} {b dx a sd wd od td l : Addr} {N : Ch.Nt} {s0 bal y : Nat → Nat} {ys : List V} (B : Brd K H0 H b dx a sd wd od td N s0 bal y) (f : Fr4 sd wd od td H H') (hl : H l = some (.lst ys)) : H' l = some (.lst ys) := by
  obtain ⟨ks, g, B, _⟩ := B
  exact f l _ (ne_of hl B.sa (by intro z; cases z)) (ne_of hl B.wa.at_ (by intro z; cases z)) (ne_of hl B.oa (by intro z; cases z)) (ne_of hl B.ta (by intro z; cases z)) hl
theorem BalAt.zero {H : Hp} {bd : Addr} {bal : Nat → Nat} (h : BalAt H bd bal) {u : Nat} (hu : 1 ≤ u) : bal u = 0 := by
  rcases h with ⟨_, rfl⟩ | ⟨m, _, rfl⟩
  · rfl
  · unfold Ch.mu Ch.e1; rw [if_neg (by omega)]; rfl
/-- the first name at which balls wait -/
def NameOk (N : Ch.Nt) (s0 bal y : Nat → Nat) (nv : V) : Prop := (nv = .non ∧ ∀ u, u < N.length → bal u + Ch.inn N s0 y u ≤ y u) ∨ ∃ v, v < N.length ∧ nv = vn v ∧ y v < bal v + Ch.inn N s0 y v
theorem NameOk.of {N : Ch.Nt} {s0 bal y : Nat → Nat} {nv : V} {g : Nat → Int} (hg : ∀ u, u < N.length → g u = ((bal u + Ch.inn N s0 y u : Nat) : Int) - (y u : Nat)) (h : (nv = .non ∧ ∀ u, u < N.length → g u ≤ 0) ∨ ∃ v, v < N.length ∧ nv = vn v ∧ 0 < g v) : NameOk N s0 bal y nv := by
  rcases h with ⟨h1, h2⟩ | ⟨v, h1, h2, h3⟩
  · exact .inl ⟨h1, fun u hu => by have := h2 u hu; rw [hg u hu] at this; omega⟩
  · exact .inr ⟨v, h1, h2, by rw [hg v h1] at h3; omega⟩
/-! ### settle -/
def sp_settle (K : PySem.W.Frag) : Sp := fun vs H Q _ => ∃ (a bd : Addr) (sv : V) (N : Ch.Nt) (bal s0 : Nat → Nat), vs = [.ref a, .ref bd, sv] ∧ NetAt K H a N ∧ Ch.Drawn N ∧ Ch.EndsN N ∧ BalAt H bd bal ∧ Ch.S4 bal ≤ 11000 ∧ ((sv = .non ∧ s0 = fun _ => 0) ∨ ∃ st, sv = .ref st ∧ StdAt H st N.length s0) ∧ Ch.Stg N s0 ∧
  ∀ H' p oa sa, Same H H' → SetAt K H' p N.length (Ch.outs N s0 bal) (Ch.E N s0 bal) oa sa → Q (.ref p) H'
theorem sc_settle : FnScope ["net", "balls", "standing", "board", "order", "name", "knot", "many"] ["net", "balls", "standing"] d_settle.scope := ⟨rfl, rfl, rfl, by decide +kernel, rfl, by decide +kernel, by decide +kernel⟩
set_option maxHeartbeats 1000000 in
theorem ok_settle (T : Txt K mg) (c_Settled_init : Mak P w K mg base 1 "Settled" (He.ga K "Settled") (sp_Settled_init K) []) (c_Board_first_waiting : Met P w K mg base 1 (He.ga K "Board") "first_waiting" (sp_Board_first_waiting K) []) (c_Board_take : Met P w K mg base 3 (He.ga K "Board") "take" (sp_Board_take K) []) (c_begun : Cal P w K mg base 3 "begun" (sp_begun K) []) (c_ends : Cal P w K mg base 3 "ends" (sp_ends K) []) (c_check_net : Cal P w K mg base 1 "check_net" (sp_check_net K) []) :
    Cal P w K mg base 4 "settle" (sp_settle K) [] ∧ Cal P w K mg base 4 "settle" (sp_settle K) [.non] := by
  refine cal_mk1 d_settle 2 T.d_settle T.g_settle sc_settle (fun vs H Q E h => ?_) bd_settle1 bd_settle0 (fun cdv A outer s H vs Q E hr h => ?_)
  · obtain ⟨_, _, _, _, _, _, rfl, _⟩ := h
    rfl
  · have hu := hu_of hr
    obtain ⟨a, bd, sv, N, bal, s0, rfl, hN, D, e, hb, hB, hsv, hs0, k⟩ := h
    refine ⟨_, (pss_cons (ps_expr (C8.pe_c c_check_net hr (by decide) rfl (pa_cons (pv 0) pa_nil)))
      (pss_cons (ps_if (pt_not (pt_val (C8.pe_c c_ends hr (by decide) rfl (pa_cons (pv 0) pa_nil))))
      (pss_one ps_never)
      pss_nil)
      (pss_cons (ps_set (i := 3) sc_settle.nd rfl (Or.inl rfl) (C8.pe_c c_begun hr (by decide) rfl (pa_cons (pv 0) (pa_cons (pv 1) (pa_cons (pv 2) pa_nil)))))
      (pss_cons (ps_par (i := 4) (j := 5) rfl sc_settle.nd rfl rfl (by decide) rfl rfl (pa_cons (pe_lst pa_nil) (pa_cons (C8.pe_mt0 c_Board_first_waiting hr (by decide) (pv 3)) pa_nil)) (by rfl))
      (pss_cons (ps_while PassesOwn.never (pt_cmpR op_notN (pv 5) pe_non (nomark _))
      (pss_cons (ps_for PassesOwn.never rfl (pi_list (pe_fld (pv 0) rfl)) (pg_name (i := 6) sc_settle.nd rfl (Or.inl rfl))
        (pss_cons (ps_set (i := 7) sc_settle.nd rfl (Or.inl rfl) (pe_dget2 hu (pe_fld (pv 3) rfl) (pv 6) pe_int ⟨rfl, rfl, rfl, rfl⟩))
          (pss_one (ps_if (pt_cmpR op_gt (pv 7) pe_int (nomark _))
          (pss_cons (ps_expr (pe_bm PySem.F.plainAttrs_list PySem.F.slot_list_append PySem.F.type_list_append mt_append (pv 4) (pa_cons (pe_tup (pa_cons (pv 6) (pa_cons (pv 7) pa_nil))) pa_nil)))
            (pss_one (ps_expr (C8.pe_mt c_Board_take hr (by decide) (pv 3) (pa_cons (pv 6) (pa_cons (pv 7) pa_nil))))))
          pss_nil))))
        (pss_one (ps_set (i := 5) sc_settle.nd rfl (Or.inl rfl) (C8.pe_mt0 c_Board_first_waiting hr (by decide) (pv 3))))))
      (pss_one (ps_ret (C8.pe_mk c_Settled_init hr (by decide) rfl (pa_cons (pe_fld (pv 3) rfl) (pa_cons (pe_fld (pv 3) rfl) (pa_cons (pe_fld (pv 3) rfl) (pa_cons (pv 4) pa_nil)))))))))))), ?_⟩
    have n1 := D.n1
    have n4 := D.n4
    have C := D.nice e
    have hb0 : ∀ u, N.length ≤ u → u < 4 → bal u = 0 := fun u h1 _ => hb.zero (by omega)
    refine ⟨_, rfl, a, N, rfl, hN, ?_⟩
    refine ⟨_, rfl, a, N, rfl, hN, D, e, fun H1 s1 => ⟨true, rfl, iteF ?_⟩⟩
    have hsv1 : (sv = .non ∧ s0 = fun _ => 0) ∨ ∃ st, sv = .ref st ∧ StdAt H1 st N.length s0 := by
      rcases hsv with h | ⟨st, h1, h2⟩
      · exact .inl h
      · exact .inr ⟨st, h1, h2.mono s1⟩
    refine ⟨_, rfl, _, rfl, _, rfl, a, bd, sv, N, bal, s0, rfl, hN.mono s1, D, hb.mono s1, hsv1, hs0, fun H2 b dx sd wd od td s2 B => ?_⟩
    refine ⟨(by show 0 ≤ sizeLine; exact Nat.zero_le _), fun l hl => ?_⟩
    have hl1 : H1 l = none := s2.free hl
    have hl0 : H l = none := s1.free hl1
    have B3 := B.mono (Same.new (o := .lst []) hl)
    have e3 : upd H2 l (.lst []) l = some (.lst []) := upd_same
    have s3 : Same H (upd H2 l (.lst [])) := (s1.trans s2).trans (Same.new hl)
    generalize upd H2 l (.lst []) = H3 at *
    obtain ⟨ks3, g3, BG3, hg3⟩ := id B3
    refine ⟨_, rfl, b, dx, _, rfl, BG3.ob, rfl, H1, b, dx, a, sd, wd, od, td, N, _, _, _, _, _, rfl, BG3, fun nv hnv => ?_⟩
    refine ⟨_, _, rfl, ?_⟩
    let z := Ch.odo N s0 bal
    refine wh (fun m σ H' => ∃ (y : Nat → Nat) (p : Nat) (nv : V) (v6 v7 : Option V) (ys : List V), σ = [some (.ref a), some (.ref bd), some sv, some (.ref b), some (.ref l), some nv, v6, v7] ∧ Same H H' ∧ Brd K H1 H' b dx a sd wd od td N s0 bal y ∧ Ch.Mid N s0 bal y ∧ Ch.CntOk N s0 bal p y ∧ H' l = some (.lst ys) ∧ ys.length ≤ 4 * p ∧ NameOk N s0 bal y nv ∧ m = Ch.S4 z - Ch.S4 y) (Ch.S4 z - Ch.S4 fun _ => 0) ?_ ?_
    · exact ⟨fun _ => 0, 0, nv, none, none, [], rfl, s3, B3, Ch.Mid.zero, Ch.CntOk.zero, e3, Nat.le_refl _, NameOk.of hg3 hnv, rfl⟩
    · rintro m σ H' ⟨y, p, nv, v6, v7, ys, rfl, s', B', M, hC, hly, hyl, hnv, rfl⟩
      refine ⟨_, rfl, rfl, _, rfl, ?_⟩
      rcases hnv with ⟨rfl, hall⟩ | ⟨v, hv, rfl, hlt⟩
      · refine iteNS rfl ?_
        have L := M.done D hb0 hall
        have eE : Ch.E N s0 bal = Ch.aft N s0 y := C.E_of hs0 L
        have eO : ∀ u, Ch.outs N s0 bal u = Ch.inn N s0 y u := fun u => C.outs_of hs0 L u
        obtain ⟨ks, g, BG, hg⟩ := B'
        refine ⟨_, rfl, b, _, dx, _, _, rfl, BG.ob, T.c_Board, T.n_Board_taken, rfl, _, rfl, b, _, dx, _, _, rfl, BG.ob, T.c_Board, T.n_Board_out, rfl, _, rfl, b, _, dx, _, _, rfl, BG.ob, T.c_Board, T.n_Board_standing, rfl, _, rfl, fun x dx' hx hdx hne => ?_⟩
        have m0 := made0 (C := He.ga K "Settled") (u := .own x) hx hdx
        refine ⟨x, dx', td, od, sd, l, N.length, _, _, Ch.outs N s0 bal, Ch.E N s0 bal, ys, rfl, upd_same, BG.ta.mono' m0, (BG.oa.congr fun t _ => by rw [eO]).mono' m0, ?_, m0 _ _ hly, fun H5 oa sa sx st => ⟨rfl, k H5 x oa sa (s'.trans (made (K := K) hx hdx hne sx)) st⟩⟩
        rw [eE]; exact m0 _ _ BG.sa
      · refine ite2 (fun _ => ?_) (fun h => absurd (by simp) h)
        refine ⟨fun σ' H'' => ∃ m', m' < Ch.S4 z - Ch.S4 y ∧ _, fun σ' H'' h => h, ?_⟩
        obtain ⟨jk, dxn, kd, idd, ot, nl, O⟩ := hN
        have O' := O.mono s'
        have hp := hC.le D e hs0 M hb0 hB
        refine ⟨_, rfl, a, _, dxn, _, _, rfl, O'.ob, T.c_Net, T.n_Net_names, rfl, nl, rfl, ⟨_, SqL.of O'.nl⟩, ?_⟩
        refine for_list (K := K) (a := nl) (xs := (List.range N.length).map vn) (fun i σ H' => ∃ (y' : Nat → Nat) (v6 v7 : Option V) (ys' : List V), σ = [some (.ref a), some (.ref bd), some sv, some (.ref b), some (.ref l), some (vn v), v6, v7] ∧ Same H H' ∧ Brd K H1 H' b dx a sd wd od td N s0 bal y' ∧ Ch.Mid N s0 bal y' ∧ (∀ u, y u ≤ y' u) ∧ (∀ u, u < i → bal u + Ch.inn N s0 y u ≤ y' u) ∧ H' l = some (.lst ys') ∧ ys'.length ≤ 4 * p + i) ?_ ?_ ?_ ?_
        · exact ⟨y, v6, v7, ys, rfl, s', B', M, fun _ => Nat.le_refl _, fun u h => absurd h (Nat.not_lt_zero _), hly, hyl⟩
        · rintro i σ H4 _ ⟨_, _, _, _, _, s4, _⟩
          exact SqL.of (s4 _ _ O.nl)
        · rintro i x σ H4 hx ⟨y', v6, v7, ys', rfl, s4, B4, M4, hyy, hdone, hl4, hyl4⟩
          have hi : i < N.length := by
            have := (List.getElem?_eq_some_iff.mp hx).1
            rw [mlen] at this; exact this
          rw [mget _ hi] at hx
          cases hx
          obtain ⟨ks, g, BG, hg⟩ := id B4
          obtain ⟨oo, g1, g2⟩ := BG.wa.get i
          refine ⟨_, rfl, b, _, dx, _, _, rfl, BG.ob, T.c_Board, T.n_Board_waiting, rfl, wd, rfl, isD BG.wa.at_, _, rfl, oo, g1, ?_⟩
          rw [g2]
          refine ⟨_, rfl, _, _, rfl, rfl, _, rfl, ?_⟩
          have gi := hg i hi
          have up := M4.up i (by omega)
          have mono : Ch.inn N s0 y i ≤ Ch.inn N s0 y' i := Ch.inn_mono (fun u _ => hyy u) i
          refine ite2 (fun c => ?_) (fun c => ?_)
          · have c' : 0 < g i := of_decide_eq_true c
            obtain ⟨q, hq⟩ : ∃ q : Nat, y' i + q = bal i + Ch.inn N s0 y' i := ⟨bal i + Ch.inn N s0 y' i - y' i, by omega⟩
            have gq : g i = (q : Nat) := by omega
            rw [gq]
            have hsz : ys'.length < sizeLine := by rw [sizeLine_eq]; omega
            refine ⟨_, rfl, .inl ⟨rfl, _, SqL.of hl4⟩, _, rfl, _, rfl, (by show 2 ≤ sizeLine; decide), fun tq htq => ?_⟩
            have sT := Same.new (o := .tup [vn i, .int (q : Nat)]) htq
            have B5 := B4.mono sT
            have l5 := sT _ _ hl4
            have s5 := s4.trans sT
            generalize upd H4 tq (.tup [vn i, .int (q : Nat)]) = H5 at *
            refine ⟨l, ys', _, rfl, rfl, l5, hsz, ?_⟩
            have B6 := B5.other (zs := ys' ++ [.ref tq]) hl1 l5
            have l6 : upd H5 l (.lst (ys' ++ [.ref tq])) l = some (.lst (ys' ++ [.ref tq])) := upd_same
            have s6 : Same H (upd H5 l (.lst (ys' ++ [.ref tq]))) := s5.mut hl0
            generalize upd H5 l (.lst (ys' ++ [.ref tq])) = H6 at *
            obtain ⟨_, _, BG6, _⟩ := id B6
            refine ⟨_, rfl, b, dx, _, rfl, BG6.ob, rfl, _, rfl, _, rfl, H1, b, dx, a, sd, wd, od, td, N, s0, bal, y', i, q, rfl, B6, hi, D, hs0, fun H7 f7 B7 => ?_⟩
            have s7 : Same H H7 := by
              obtain ⟨_, _, BG7, _⟩ := id B7
              exact s1.trans BG7.sm
            refine ⟨_, _, _, ys' ++ [.ref tq], rfl, s7, B7, M4.step (by omega) hq, fun u => ?_, fun u hu => ?_, B6.fr f7 l6, by rw [List.length_append, List.length_singleton]; omega⟩
            · unfold Ch.put; split
              · rename_i h; have := hyy u; rw [h] at this ⊢; omega
              · exact hyy u
            · unfold Ch.put; split
              · rename_i h; rw [h]; omega
              · exact hdone u (by omega)
          · have c' : ¬ 0 < g i := fun z => c (decide_eq_true z)
            refine ⟨y', _, _, ys', rfl, s4, B4, M4, hyy, fun u hu => ?_, hl4, by omega⟩
            rcases Nat.lt_or_ge u i with h | h
            · exact hdone u h
            · rw [show u = i by omega]; omega
        · rintro σ H4 ⟨y', v6, v7, ys', rfl, s4, B4, M4, hyy, hdone, hl4, hyl4⟩
          rw [mlen] at hdone hyl4
          obtain ⟨ks, g, BG, hg⟩ := id B4
          refine ⟨_, rfl, b, dx, _, rfl, BG.ob, rfl, H1, b, dx, a, sd, wd, od, td, N, _, _, _, _, _, rfl, BG, fun nv' hnv' => ?_⟩
          have w1 : 1 ≤ Ch.S4 (Ch.wai N s0 bal y) := by
            have : Ch.wai N s0 bal y v ≤ Ch.S4 (Ch.wai N s0 bal y) := Ch.S4_at_le (by omega)
            have : Ch.wai N s0 bal y v = bal v + Ch.inn N s0 y v - y v := rfl
            omega
          have w2 : Ch.S4 y + Ch.S4 (Ch.wai N s0 bal y) ≤ Ch.S4 y' := by
            have h1 := Ch.S4_le (f := fun u => y u + Ch.wai N s0 bal y u) (g := y') fun u hu => by
              have h2 : Ch.wai N s0 bal y u = bal u + Ch.inn N s0 y u - y u := rfl
              have h3 := M.up u hu
              by_cases c : u < N.length
              · have := hdone u c; omega
              · have h4 := hb0 u (by omega) hu
                have h5 : Ch.inn N s0 y u = 0 := D.inn0 (by omega) hu
                have := hyy u
                omega
            rw [Ch.S4_add] at h1
            exact h1
          have w3 := M4.le D e hs0
          refine ⟨Ch.S4 z - Ch.S4 y', ?_, y', p + 1, nv', v6, v7, ys', rfl, s4, B4, M4, hC.step D e hs0 M hb0 w1 w2, hl4, by omega, NameOk.of hg hnv', rfl⟩
          show Ch.S4 (Ch.odo N s0 bal) - _ < Ch.S4 (Ch.odo N s0 bal) - _
          omega
end
end K11
end
section
set_option Elab.async false
set_option linter.all false
set_option maxRecDepth 100000
namespace K11
open PySem PySem.Spec PyProof.Rows L2
open C8 (Cal Met Mak)
section
variable {P : Program} {w : World} {K : PySem.W.Frag} {mg : Str → Option Value} {base : Heap}
/-! ### check_ends, knot_of, check_entry, standing_behind -/
def sp_check_ends (K : PySem.W.Frag) : Sp := fun vs H Q _ => ∃ (a : Addr) (N : Ch.Nt), vs = [.ref a] ∧ NetAt K H a N ∧ Ch.Drawn N ∧ Ch.EndsN N ∧ ∀ H', Same H H' → Q .non H'
theorem sc_check_ends : FnScope ["net"] ["net"] d_check_ends.scope := ⟨rfl, rfl, rfl, by decide +kernel, rfl, by decide +kernel, by decide +kernel⟩
theorem ok_check_ends (T : Txt K mg) (c_ends : Cal P w K mg base 3 "ends" (sp_ends K) []) (c_check_net : Cal P w K mg base 1 "check_net" (sp_check_net K) []) : Cal P w K mg base 4 "check_ends" (sp_check_ends K) [] := by
  refine cal_mk d_check_ends T.d_check_ends T.g_check_ends sc_check_ends (fun vs H Q E h => ?_) (fun _ _ _ _ _ _ us hl => match us, hl with | [_], _ => rfl) (fun cdv A outer s H vs Q E hr h => ?_)
  · obtain ⟨_, _, rfl, _⟩ := h
    rfl
  · have hu := hu_of hr
    obtain ⟨a, N, rfl, hN, D, e, k⟩ := h
    refine ⟨_, (pss_cons (ps_expr (C8.pe_c c_check_net hr (by decide) rfl (pa_cons (pv 0) pa_nil)))
      (pss_one (ps_if (pt_not (pt_val (C8.pe_c c_ends hr (by decide) rfl (pa_cons (pv 0) pa_nil))))
      (pss_one ps_never)
      pss_nil))), ?_⟩
    exact ⟨_, rfl, a, N, rfl, hN, _, rfl, a, N, rfl, hN, D, e, fun H1 s1 => ⟨true, rfl, iteF (k H1 s1)⟩⟩
def sp_knot_of (K : PySem.W.Frag) : Sp := fun vs H Q _ => ∃ (a : Addr) (N : Ch.Nt), vs = [.ref a, vn 6] ∧ NetAt K H a N ∧ Q (vn 0) H
theorem sc_knot_of : FnScope ["net", "name"] ["net", "name"] d_knot_of.scope := ⟨rfl, rfl, rfl, by decide +kernel, rfl, by decide +kernel, by decide +kernel⟩
theorem ok_knot_of (T : Txt K mg)  : Cal P w K mg base 1 "knot_of" (sp_knot_of K) [] := by
  refine cal_mk d_knot_of T.d_knot_of T.g_knot_of sc_knot_of (fun vs H Q E h => ?_) (fun _ _ _ _ _ _ us hl => match us, hl with | [_, _], _ => rfl) (fun cdv A outer s H vs Q E hr h => ?_)
  · obtain ⟨_, _, rfl, _⟩ := h
    rfl
  · have hu := hu_of hr
    obtain ⟨a, N, rfl, ⟨j, dx, kd, id, ot, nl, O⟩, k⟩ := h
    refine ⟨_, (pss_cons (ps_if (PW.pt (pw_and (pt_val (pe_callB call_isi (by rfl) T.f_isinstance (by decide +kernel) (pa_cons (pv 1) (pa_cons (pe_bltn (v := .ty "str") rfl T.f_str (by decide +kernel) rfl) pa_nil)))) (pw_and1 (pt_cmp (pc_din hu (pv 1) (pe_fld (pv 0) rfl))))))
      (pss_one (ps_ret (pe_dget hu (pe_fld (pv 0) rfl) (pv 1) (fun _ _ => rfl))))
      pss_nil)
      (pss_cons (ps_if (PW.pt (pw_and (pt_val (pe_callB call_isi (by rfl) T.f_isinstance (by decide +kernel) (pa_cons (pv 1) (pa_cons (pe_bltn (v := .ty "str") rfl T.f_str (by decide +kernel) rfl) pa_nil)))) (pw_and1 (pt_cmp (pc_din hu (pv 1) (pe_fld (pv 0) rfl))))))
      (pss_one (ps_ret (pv 1)))
      pss_nil)
      (pss_one ps_never))), ?_⟩
    have g2 : DGet H id (vn 6) (some (vn 0)) := DGet.in_ O.il (List.mem_cons_self ..)
    refine ⟨_, rfl, _, _, _, _, true, rfl, .ty _, .base (.str _), rfl, true, rfl, iteT ?_⟩
    refine ⟨_, rfl, _, rfl, a, _, dx, _, _, rfl, O.ob, T.c_Net, T.n_Net_inlets, rfl, id, _, rfl, g2, true, rfl, iteT ?_⟩
    exact ⟨_, rfl, a, _, dx, _, _, rfl, O.ob, T.c_Net, T.n_Net_inlets, rfl, _, rfl, id, _, rfl, g2, k⟩
def sp_check_entry (K : PySem.W.Frag) : Sp := fun vs H Q _ => ∃ (a : Addr) (N : Ch.Nt), vs = [.ref a, vn 6] ∧ NetAt K H a N ∧ N.length ≤ 4 ∧ Q .non H
theorem sc_check_entry : FnScope ["net", "name"] ["net", "name"] d_check_entry.scope := ⟨rfl, rfl, rfl, by decide +kernel, rfl, by decide +kernel, by decide +kernel⟩
theorem ok_check_entry (T : Txt K mg)  : Cal P w K mg base 1 "check_entry" (sp_check_entry K) [] := by
  refine cal_mk d_check_entry T.d_check_entry T.g_check_entry sc_check_entry (fun vs H Q E h => ?_) (fun _ _ _ _ _ _ us hl => match us, hl with | [_, _], _ => rfl) (fun cdv A outer s H vs Q E hr h => ?_)
  · obtain ⟨_, _, rfl, _⟩ := h
    rfl
  · have hu := hu_of hr
    obtain ⟨a, N, rfl, ⟨j, dx, kd, id, ot, nl, O⟩, n4, k⟩ := h
    refine ⟨_, (pss_one (ps_if (PW.pt (pw_or (pt_not (pt_val (pe_callB call_isi (by rfl) T.f_isinstance (by decide +kernel) (pa_cons (pv 1) (pa_cons (pe_bltn (v := .ty "str") rfl T.f_str (by decide +kernel) rfl) pa_nil))))) (pw_or1 (PW.pt (pw_and (pt_cmp (pc_dnotin hu (pv 1) (pe_fld (pv 0) rfl))) (pw_and1 (pt_cmp (pc_dnotin hu (pv 1) (pe_fld (pv 0) rfl)))))))))
      (pss_one ps_never)
      pss_nil)), ?_⟩
    have g2 : DGet H id (vn 6) (some (vn 0)) := DGet.in_ O.il (List.mem_cons_self ..)
    obtain ⟨kns, hk1, _⟩ := O.kn
    have g1 := DGet.n hk1 6
    rw [if_neg (by rw [List.mem_range]; omega)] at g1
    refine ⟨_, rfl, _, _, _, _, true, rfl, .ty _, .base (.str _), rfl, true, rfl, iteF ?_⟩
    refine ⟨_, rfl, _, rfl, a, _, dx, _, _, rfl, O.ob, T.c_Net, T.n_Net_knots, rfl, kd, _, rfl, g1, true, rfl, iteT ?_⟩
    exact ⟨_, rfl, _, rfl, a, _, dx, _, _, rfl, O.ob, T.c_Net, T.n_Net_inlets, rfl, id, _, rfl, g2, false, rfl, iteF k⟩
def sp_standing_behind (K : PySem.W.Frag) : Sp := fun vs H Q _ => ∃ (a st bd : Addr) (N : Ch.Nt) (bal s0 : Nat → Nat) (ks : List Nat), vs = [.ref a, .ref st, .ref bd] ∧ NetAt K H a N ∧ Ch.Drawn N ∧ Ch.EndsN N ∧ StdAt H st N.length s0 ∧ Ch.Stg N s0 ∧ DI H bd ks (fun u => (bal u : Nat)) ∧ (∀ t ∈ ks, t < N.length) ∧
  ∀ H' p sd td od, Same H H' → H' p = some (.tup [.ref sd, .ref td, .ref od]) → StdAt H' sd N.length (Ch.E N s0 bal) → Q (.ref p) H'
theorem sc_standing_behind : FnScope ["net", "standing", "balls", "board", "name", "many"] ["net", "standing", "balls"] d_standing_behind.scope := ⟨rfl, rfl, rfl, by decide +kernel, rfl, by decide +kernel, by decide +kernel⟩
set_option maxHeartbeats 1000000 in
theorem ok_standing_behind (T : Txt K mg) (c_Board_first_waiting : Met P w K mg base 1 (He.ga K "Board") "first_waiting" (sp_Board_first_waiting K) []) (c_Board_take : Met P w K mg base 3 (He.ga K "Board") "take" (sp_Board_take K) []) (c_Board_init : Mak P w K mg base 1 "Board" (He.ga K "Board") (sp_Board_init K) []) : Cal P w K mg base 4 "standing_behind" (sp_standing_behind K) [] := by
  refine cal_mk d_standing_behind T.d_standing_behind T.g_standing_behind sc_standing_behind (fun vs H Q E h => ?_) (fun _ _ _ _ _ _ us hl => match us, hl with | [_, _, _], _ => rfl) (fun cdv A outer s H vs Q E hr h => ?_)
  · obtain ⟨_, _, _, _, _, _, _, rfl, _⟩ := h
    rfl
  · have hu := hu_of hr
    obtain ⟨a, st, bd, N, bal, s0, ks0, rfl, hN, D, e, hst, hs0, hbd, hks0, k⟩ := h
    refine ⟨_, (pss_cons (ps_set (i := 3) sc_standing_behind.nd rfl (Or.inl rfl) (C8.pe_mk c_Board_init hr (by decide) rfl (pa_cons (pv 0) (pa_cons (pv 1) (pa_cons (pv 2) pa_nil)))))
      (pss_cons (ps_while PassesOwn.never (pt_cmpR op_notN (C8.pe_mt0 c_Board_first_waiting hr (by decide) (pv 3)) pe_non (nomark _))
      (pss_one (ps_for PassesOwn.never rfl (pi_list (pe_fld (pv 0) rfl)) (pg_name (i := 4) sc_standing_behind.nd rfl (Or.inl rfl))
        (pss_cons (ps_set (i := 5) sc_standing_behind.nd rfl (Or.inl rfl) (pe_dget2 hu (pe_fld (pv 3) rfl) (pv 4) pe_int ⟨rfl, rfl, rfl, rfl⟩))
          (pss_one (ps_if (pt_cmpR op_gt (pv 5) pe_int (nomark _))
          (pss_one (ps_expr (C8.pe_mt c_Board_take hr (by decide) (pv 3) (pa_cons (pv 4) (pa_cons (pv 5) pa_nil)))))
          pss_nil))))))
      (pss_one (ps_ret (pe_tup (pa_cons (pe_fld (pv 3) rfl) (pa_cons (pe_fld (pv 3) rfl) (pa_cons (pe_fld (pv 3) rfl) pa_nil)))))))), ?_⟩
    have n1 := D.n1
    have n4 := D.n4
    have C := D.nice e
    have hb0 : ∀ u, N.length ≤ u → u < 4 → bal u = 0 := fun u h1 _ => by
      have := hbd.zero u fun hm => by have := hks0 u hm; omega
      omega
    refine ⟨_, rfl, _, rfl, _, rfl, fun x dx hx hdx hne => ?_⟩
    have m0 := made0 (C := He.ga K "Board") (u := .own x) hx hdx
    refine ⟨x, dx, a, st, bd, N, _, _, ks0, rfl, upd_same, hN.mono m0, n4, hst.id.mono' m0, hbd.mono m0, fun H1 sd wd od td sx z1 z2 z3 z4 d12 d13 d14 d23 d24 d34 ob sa wa oa ta => ⟨rfl, ?_⟩⟩
    have s1 : Same H H1 := made (K := K) hx hdx hne sx
    have B0 : Brd K H H1 x dx a sd wd od td N s0 bal (fun _ => 0) := BrdG.start (H1 := H1) s1 hN (m0.free z1) (m0.free z2) (m0.free z3) (m0.free z4) d12 d13 d14 d23 d24 d34 ob sa wa hks0 oa ta
    let z := Ch.odo N s0 bal
    refine wh (fun m σ H' => ∃ (y : Nat → Nat) (v4 v5 : Option V), σ = [some (.ref a), some (.ref st), some (.ref bd), some (.ref x), v4, v5] ∧ Brd K H H' x dx a sd wd od td N s0 bal y ∧ Ch.Mid N s0 bal y ∧ m = Ch.S4 z - Ch.S4 y) (Ch.S4 z - Ch.S4 fun _ => 0) ?_ ?_
    · exact ⟨fun _ => 0, none, none, rfl, B0, Ch.Mid.zero, rfl⟩
    · rintro m σ H' ⟨y, v4, v5, rfl, B', M, rfl⟩
      obtain ⟨ks, g, BG, hg⟩ := id B'
      refine ⟨_, rfl, x, dx, _, rfl, BG.ob, rfl, H, x, dx, a, sd, wd, od, td, N, _, _, _, _, _, rfl, BG, fun nv hnv => ?_⟩
      have hnv' := NameOk.of hg hnv
      refine ⟨rfl, _, rfl, ?_⟩
      rcases hnv' with ⟨rfl, hall⟩ | ⟨v, hv, rfl, hlt⟩
      · refine iteNS rfl ?_
        have L := M.done D hb0 hall
        have eE : Ch.E N s0 bal = Ch.aft N s0 y := C.E_of hs0 L
        refine ⟨_, rfl, x, _, dx, _, _, rfl, BG.ob, T.c_Board, T.n_Board_standing, rfl, _, rfl, x, _, dx, _, _, rfl, BG.ob, T.c_Board, T.n_Board_taken, rfl, _, rfl, x, _, dx, _, _, rfl, BG.ob, T.c_Board, T.n_Board_out, rfl, (by show 3 ≤ sizeLine; decide), fun p hp => ?_⟩
        have s2 := Same.new (o := .tup [.ref sd, .ref td, .ref od]) hp
        refine k _ p sd td od (BG.sm.trans s2) upd_same ?_
        rw [eE]; exact s2 _ _ BG.sa
      · refine ite2 (fun _ => ?_) (fun h => absurd (by simp) h)
        refine ⟨fun σ' H'' => ∃ m', m' < Ch.S4 z - Ch.S4 y ∧ _, fun σ' H'' h => h, ?_⟩
        obtain ⟨jk, dxn, kd, idd, ot, nl, O⟩ := hN
        have O' := O.mono BG.sm
        refine ⟨_, rfl, a, _, dxn, _, _, rfl, O'.ob, T.c_Net, T.n_Net_names, rfl, nl, rfl, ⟨_, SqL.of O'.nl⟩, ?_⟩
        refine for_list (K := K) (a := nl) (xs := (List.range N.length).map vn) (fun i σ H' => ∃ (y' : Nat → Nat) (v4 v5 : Option V), σ = [some (.ref a), some (.ref st), some (.ref bd), some (.ref x), v4, v5] ∧ Brd K H H' x dx a sd wd od td N s0 bal y' ∧ Ch.Mid N s0 bal y' ∧ (∀ u, y u ≤ y' u) ∧ (∀ u, u < i → bal u + Ch.inn N s0 y u ≤ y' u)) ?_ ?_ ?_ ?_
        · exact ⟨y, v4, v5, rfl, B', M, fun _ => Nat.le_refl _, fun u h => absurd h (Nat.not_lt_zero _)⟩
        · rintro i σ H4 _ ⟨_, _, _, _, ⟨_, _, BG4, _⟩, _⟩
          exact SqL.of (BG4.sm _ _ O.nl)
        · rintro i x' σ H4 hx' ⟨y', v4, v5, rfl, B4, M4, hyy, hdone⟩
          have hi : i < N.length := by
            have := (List.getElem?_eq_some_iff.mp hx').1
            rw [mlen] at this; exact this
          rw [mget _ hi] at hx'
          cases hx'
          obtain ⟨ks, g, BG, hg⟩ := id B4
          obtain ⟨oo, g1, g2⟩ := BG.wa.get i
          refine ⟨_, rfl, x, _, dx, _, _, rfl, BG.ob, T.c_Board, T.n_Board_waiting, rfl, wd, rfl, isD BG.wa.at_, _, rfl, oo, g1, ?_⟩
          rw [g2]
          refine ⟨_, rfl, _, _, rfl, rfl, _, rfl, ?_⟩
          have gi := hg i hi
          have up := M4.up i (by omega)
          have mono : Ch.inn N s0 y i ≤ Ch.inn N s0 y' i := Ch.inn_mono (fun u _ => hyy u) i
          refine ite2 (fun c => ?_) (fun c => ?_)
          · have c' : 0 < g i := of_decide_eq_true c
            obtain ⟨q, hq⟩ : ∃ q : Nat, y' i + q = bal i + Ch.inn N s0 y' i := ⟨bal i + Ch.inn N s0 y' i - y' i, by omega⟩
            have gq : g i = (q : Nat) := by omega
            rw [gq]
            refine ⟨_, rfl, x, dx, _, rfl, BG.ob, rfl, _, rfl, _, rfl, H, x, dx, a, sd, wd, od, td, N, s0, bal, y', i, q, rfl, B4, hi, D, hs0, fun H7 f7 B7 => ?_⟩
            refine ⟨_, _, _, rfl, B7, M4.step (by omega) hq, fun u => ?_, fun u hu => ?_⟩
            · unfold Ch.put; split
              · rename_i h; have := hyy u; rw [h] at this ⊢; omega
              · exact hyy u
            · unfold Ch.put; split
              · rename_i h; rw [h]; omega
              · exact hdone u (by omega)
          · have c' : ¬ 0 < g i := fun z => c (decide_eq_true z)
            refine ⟨y', _, _, rfl, B4, M4, hyy, fun u hu => ?_⟩
            rcases Nat.lt_or_ge u i with h | h
            · exact hdone u h
            · rw [show u = i by omega]; omega
        · rintro σ H4 ⟨y', v4, v5, rfl, B4, M4, hyy, hdone⟩
          rw [mlen] at hdone
          have w2 : Ch.S4 y + 1 ≤ Ch.S4 y' := by
            have h0 := hdone v hv
            have : Ch.S4 (Ch.put y v (y v + 1)) ≤ Ch.S4 y' := Ch.S4_le fun u _ => by
              unfold Ch.put; split
              · rename_i h; rw [h]; omega
              · exact hyy u
            have h3 := Ch.S4_put (y := y) (v := v) (m := y v + 1) (by omega)
            omega
          have w3 := M4.le D e hs0
          refine ⟨Ch.S4 z - Ch.S4 y', ?_, y', v4, v5, rfl, B4, M4, rfl⟩
          show Ch.S4 (Ch.odo N s0 bal) - _ < Ch.S4 (Ch.odo N s0 bal) - _
          omega
end
end K11
end
section
set_option Elab.async false
set_option linter.all false
set_option maxRecDepth 100000
namespace Ch
theorem foldG_succ {b : Int} {l : List Int} {i : Nat} {x : Int} (h : l[i]? = some x) : foldG b (l.take (i + 1)) = (Int.gcd (foldG b (l.take i)) x : Int) := by
  rw [List.take_succ, h]; simp [foldG, List.foldl_append]
theorem foldG_take_pos {b : Int} (hb : 0 < b) (l : List Int) (i : Nat) : 0 < foldG b (l.take i) := foldG_pos hb
theorem foldG_le {b : Int} (hb : 0 < b) (l : List Int) : foldG b l ≤ b := Int.le_of_dvd hb foldG_dvd.1
theorem dt_small {N : Nt} (d : Drawn N) (e : EndsN N) : (dt N).natAbs < 2 ^ 80 := by
  have n1 := d.n1
  have n4 := d.n4
  obtain ⟨k, hk⟩ : ∃ k, N.length = k + 1 := ⟨N.length - 1, by omega⟩
  have h := el_size (T := latt N) (n := N.length) (b := 10) (fun j => j < N.length) (fun k hk => hk) (fun i j hi _ => d.latt10 hi j) k (by omega) (fun l hl => e l (by omega)) k k (by omega) (by omega)
  have : dt N = elM (latt N) k k k := by unfold dt; rw [hk]; exact dv_succ _ _
  rw [this]
  exact Nat.lt_of_le_of_lt h (Nat.lt_of_le_of_lt (bnd_mono 10 (show k ≤ 4 by omega)) (by decide))
end Ch
namespace K11
open PySem PySem.Spec PyProof.Rows L2
open C8 (Cal Met Mak)
section
variable {P : Program} {w : World} {K : PySem.W.Frag} {mg : Str → Option Value} {base : Heap}
theorem tabS_T (N : Ch.Nt) (r : Nat → Int) : tabS N.length (Ch.latt N) r = Ch.tabT N r := rfl
theorem tabS_pos {N : Ch.Nt} (D : Ch.Drawn N) (e : Ch.EndsN N) (r : Nat → Int) : ∀ k, k ≤ N.length → 0 < Ch.dv (tabS N.length (Ch.latt N) r) k := fun k hk => by
  rw [tabS_T, Ch.dv_tabT D e r N.length (Nat.le_refl _) k hk]; exact e k hk
theorem nums_row {H : Hp} {l : Addr} {N : Ch.Nt} {r : Nat → Nat} (h : IRow H l N.length fun i => Ch.elM (tabS N.length (Ch.latt N) fun i => (r i : Nat)) N.length i N.length) : H l = some (.lst ((Ch.nums N r).map V.int)) := by
  unfold IRow at h
  rw [h]; congr 2
  unfold Ch.nums
  rw [List.map_map]
  refine List.map_congr_left fun i hi => ?_
  show V.int _ = V.int (Ch.solT N (fun i => (r i : Int)) i)
  unfold Ch.solT
  rw [if_pos (List.mem_range.mp hi)]; rfl
theorem nums_len (N : Ch.Nt) (r : Nat → Nat) : (Ch.nums N r).length = N.length := by unfold Ch.nums; simp
theorem nums_nn {N : Ch.Nt} (D : Ch.Drawn N) (e : Ch.EndsN N) (r : Nat → Nat) {i : Nat} {x : Int} (h : (Ch.nums N r)[i]? = some x) : 0 ≤ x := by
  have := List.mem_of_getElem? h
  obtain ⟨l, _, e2⟩ := List.mem_map.mp this
  rw [← e2]
  exact Ch.solT_nn D e (fun i _ => by omega) l
/-! ### whole_round -/
def sp_whole_round (K : PySem.W.Frag) : Sp := fun vs H Q _ => ∃ (a : Addr) (N : Ch.Nt), vs = [.ref a] ∧ NetAt K H a N ∧ Ch.Drawn N ∧ Ch.EndsN N ∧
  ∀ p H', H p = none → Same H H' → DI H' p (List.range N.length) (fun u => (Ch.allB N (Ch.rmany N Ch.ones) u : Nat)) → Q (.ref p) H'
theorem sc_whole_round : FnScope ["net", "shared", "number", "numbers", "below", "name"] ["net"] d_whole_round.scope := ⟨rfl, rfl, rfl, by decide +kernel, rfl, by decide +kernel, by decide +kernel⟩
theorem ok_whole_round (T : Txt K mg) (c_common : Cal P w K mg base 1 "common" sp_common []) (c_solved : Cal P w K mg base 1 "solved" sp_solved []) (c_lattice : Cal P w K mg base 2 "lattice" (sp_lattice K) []) : Cal P w K mg base 3 "whole_round" (sp_whole_round K) [] := by
  refine cal_mk d_whole_round T.d_whole_round T.g_whole_round sc_whole_round (fun vs H Q E h => ?_) (fun _ _ _ _ _ _ us hl => match us, hl with | [_], _ => rfl) (fun cdv A outer s H vs Q E hr h => ?_)
  · obtain ⟨_, _, rfl, _⟩ := h
    rfl
  · have hu := hu_of hr
    obtain ⟨a, N, rfl, hN, D, e, k⟩ := h
    have n1 := D.n1
    have n4 := D.n4
    refine ⟨_, (pss_cons (ps_asg (C8.pe_c c_solved hr (by decide) rfl (pa_cons (C8.pe_c c_lattice hr (by decide) rfl (pa_cons (pv 0) pa_nil)) (pa_cons (pe_lc (own := [("name", 5)]) (by rfl) sc_whole_round.nd (pi_list (pe_fld (pv 0) rfl)) (blkOk_by (own := [("name", 5)]) (by rfl)) (fun _ _ _ _ _ => (pg_name (i := 5) sc_whole_round.nd rfl (Or.inl rfl))) (fun _ _ _ _ _ => pts_nil) (fun _ _ _ _ _ => pe_int)) pa_nil))) (pg_tup rfl (pgs_cons (pg_name (i := 3) sc_whole_round.nd rfl (Or.inl rfl)) (pgs_cons (pg_name (i := 4) sc_whole_round.nd rfl (Or.inr rfl)) pgs_nil))))
      (pss_cons (ps_set (i := 1) sc_whole_round.nd rfl (Or.inr rfl) (pv 4))
      (pss_cons (ps_for PassesOwn.never rfl (pi_list (pv 3)) (pg_name (i := 2) sc_whole_round.nd rfl (Or.inl rfl))
      (pss_one (ps_set (i := 1) sc_whole_round.nd rfl (Or.inr rfl) (C8.pe_c c_common hr (by decide) rfl (pa_cons (pv 1) (pa_cons (pv 2) pa_nil))))))
      (pss_one (ps_ret (pe_dc (own := [("name", 5)]) (by rfl) sc_whole_round.nd (pi_list (pe_fld (pv 0) rfl)) (blkOk_by (own := [("name", 5)]) (by rfl)) (fun _ _ _ _ _ => (pg_name (i := 5) sc_whole_round.nd rfl (Or.inl rfl))) (fun _ _ _ _ _ => pts_nil) (fun _ _ _ _ _ => (pv 5)) (fun _ _ _ _ _ => (pe_op op_fdivW (pv 4) (pv 1))))))))), ?_⟩
    obtain ⟨j, dx, kd, id, ot, nl, O⟩ := hN
    refine ⟨_, rfl, a, N, rfl, ⟨j, dx, kd, id, ot, nl, O⟩, D, fun pm H1 hpm s1 M1 => ?_⟩
    have O1 := O.mono s1
    refine ⟨_, rfl, a, _, dx, _, _, rfl, O1.ob, T.c_Net, T.n_Net_names, rfl, nl, rfl, ⟨_, SqL.of O1.nl⟩, ?_⟩
    refine lc_vals (walk_list (xs := (List.range N.length).map vn)) (fun i => .int ((Ch.ones i : Nat) : Int)) (by rw [mlen]; omega) (fun H' s => SqL.of (s _ _ O1.nl)) ?_ ?_
    · rintro i x H' H'' R hi s ⟨rfl, hy⟩ kk
      exact ⟨rfl, kk _ (Same.refl _)⟩
    intro rl H2 hrl s2 e2
    rw [mlen] at e2
    refine ⟨pm, rl, N.length, _, _, rfl, M1.mono s2, e2, n1, n4, fun i j hi _ => D.latt10 hi j, fun i hi => by show ((1 : Nat) : Int).natAbs ≤ 10; decide, tabS_pos D e _, fun p l H3 hl hp s3 e3 ep => ?_⟩
    have hnum := nums_row e3
    rw [tabS_T, Ch.dv_tabT D e _ N.length (Nat.le_refl _) _ (Nat.le_refl _)] at ep
    change H3 p = some (.tup [.ref l, .int (Ch.dt N)]) at ep
    have s03 : Same H H3 := (s1.trans s2).trans s3
    refine ⟨p, _, rfl, SqT.of ep, rfl, _, _, rfl, _, _, rfl, rfl, ?_⟩
    refine ⟨_, rfl, _, rfl, l, rfl, ⟨_, SqL.of hnum⟩, ?_⟩
    refine for_list (K := K) (a := l) (xs := (Ch.nums N Ch.ones).map V.int) (fun i σ H' => H' = H3 ∧ ∃ v2, σ = [some (.ref a), some (.int (Ch.foldG (Ch.dt N) ((Ch.nums N Ch.ones).take i))), v2, some (.ref l), some (.int (Ch.dt N)), none]) ?_ ?_ ?_ ?_
    · exact ⟨rfl, none, rfl⟩
    · rintro i σ H' _ ⟨rfl, _⟩
      exact SqL.of hnum
    · rintro i x σ H' hx ⟨rfl, v2, rfl⟩
      rw [List.getElem?_map] at hx
      cases hh : (Ch.nums N Ch.ones)[i]? with
      | none => rw [hh] at hx; cases hx
      | some y =>
        rw [hh] at hx
        cases hx
        refine ⟨_, rfl, _, rfl, _, y, rfl, nums_nn D e _ hh, ?_⟩
        rw [Ch.foldG_succ hh]
        exact ⟨rfl, _, rfl⟩
    · rintro σ H' ⟨rfl, v2, rfl⟩
      rw [List.length_map, List.take_of_length_le (Nat.le_refl _)]
      have O3 := O.mono s03
      have gp := Ch.foldG_pos (l := Ch.nums N Ch.ones) e.dt
      have gl := Ch.foldG_le e.dt (Ch.nums N Ch.ones)
      have ds := Ch.dt_small D e
      refine ⟨_, rfl, a, _, dx, _, _, rfl, O3.ob, T.c_Net, T.n_Net_names, rfl, nl, rfl, ⟨_, SqL.of O3.nl⟩, ?_⟩
      refine dc_vals (walk_list (xs := (List.range N.length).map vn)) (fun i => i) (fun i j _ _ e => e) (fun u => .int ((Ch.rmany N Ch.ones : Nat) : Int)) (by rw [mlen]; omega) (fun H' s => SqL.of (s _ _ O3.nl)) ?_ ?_
      · rintro i x H4 H5 R hi s ⟨rfl, hy⟩ kk
        rw [mlen] at hi
        rw [mget _ hi] at hy
        cases hy
        have q := kk _ (Same.refl _)
        rw [← Ch.rmany_int e] at q
        exact ⟨rfl, _, rfl, _, rfl, _, rfl, _, _, rfl, rfl, wide_div (b := 80) gp (by omega) (by decide) (by decide), q⟩
      · intro p2 H4 hp2 s4 e4
        rw [mlen, dk_id] at e4
        refine k p2 H4 (s03.free hp2) (s03.trans s4) ⟨?_, List.nodup_range, fun t ht => by have := List.mem_range.mp ht; omega, fun t ht => ?_⟩
        · rw [e4]; congr 2
          exact dk_congr fun t ht => by unfold Ch.allB; rw [if_pos (List.mem_range.mp ht)]
        · unfold Ch.allB; rw [if_neg fun h => ht (List.mem_range.mpr h)]; rfl
/-! ### first_back -/
def sp_first_back (K : PySem.W.Frag) : Sp := fun vs H Q _ => ∃ (a st : Addr) (N : Ch.Nt) (s0 : Nat → Nat), vs = [.ref a, .ref st] ∧ NetAt K H a N ∧ Ch.Drawn N ∧ Ch.EndsN N ∧ StdAt H st N.length s0 ∧ Ch.Stg N s0 ∧
  ∀ H' p i, Same H H' → StdAt H' p N.length (Ch.E N s0 (Ch.mu i (Ch.allB N (Ch.rmany N Ch.ones)))) → Ch.E N (Ch.E N s0 (Ch.mu i (Ch.allB N (Ch.rmany N Ch.ones)))) (Ch.allB N (Ch.rmany N Ch.ones)) = Ch.E N s0 (Ch.mu i (Ch.allB N (Ch.rmany N Ch.ones))) → Q (.ref p) H'
theorem sc_first_back : FnScope ["net", "standing", "late", "balls", "now", "name"] ["net", "standing"] d_first_back.scope := ⟨rfl, rfl, rfl, by decide +kernel, rfl, by decide +kernel, by decide +kernel⟩
theorem ok_first_back (T : Txt K mg) (c_standing_behind : Cal P w K mg base 4 "standing_behind" (sp_standing_behind K) []) (c_whole_round : Cal P w K mg base 3 "whole_round" (sp_whole_round K) []) (c_Net_check_standing : Met P w K mg base 2 (He.ga K "Net") "check_standing" (sp_Net_check_standing K) []) (c_check_ends : Cal P w K mg base 4 "check_ends" (sp_check_ends K) []) : Cal P w K mg base 5 "first_back" (sp_first_back K) [] := by
  refine cal_mk d_first_back T.d_first_back T.g_first_back sc_first_back (fun vs H Q E h => ?_) (fun _ _ _ _ _ _ us hl => match us, hl with | [_, _], _ => rfl) (fun cdv A outer s H vs Q E hr h => ?_)
  · obtain ⟨_, _, _, _, rfl, _⟩ := h
    rfl
  · have hu := hu_of hr
    obtain ⟨a, st, N, s0, rfl, hN, D, e, hst, hs0, k⟩ := h
    have n4 := D.n4
    have C := D.nice e
    refine ⟨_, (pss_cons (ps_expr (C8.pe_c c_check_ends hr (by decide) rfl (pa_cons (pv 0) pa_nil)))
      (pss_cons (ps_expr (C8.pe_mt c_Net_check_standing hr (by decide) (pv 0) (pa_cons (pv 1) pa_nil)))
      (pss_cons (ps_par (i := 3) (j := 4) rfl sc_first_back.nd rfl rfl (by decide) rfl rfl (pa_cons (C8.pe_c c_whole_round hr (by decide) rfl (pa_cons (pv 0) pa_nil)) (pa_cons (pe_dc (own := [("name", 5)]) (by rfl) sc_first_back.nd (pi_list (pe_fld (pv 0) rfl)) (blkOk_by (own := [("name", 5)]) (by rfl)) (fun _ _ _ _ _ => (pg_name (i := 5) sc_first_back.nd rfl (Or.inl rfl))) (fun _ _ _ _ _ => pts_nil) (fun _ _ _ _ _ => (pv 5)) (fun _ _ _ _ _ => (pe_dget hu (pv 1) (pv 5) (fun _ _ => rfl)))) pa_nil)) (by rfl))
      (pss_cons (ps_set (i := 2) sc_first_back.nd rfl (Or.inl rfl) (pe_ix ix_tup (C8.pe_c c_standing_behind hr (by decide) rfl (pa_cons (pv 0) (pa_cons (pv 4) (pa_cons (pv 3) pa_nil)))) pe_int (fun _ _ => rfl)))
      (pss_cons (ps_while PassesOwn.never (pt_cmpR (op_neDI (Nat.lt_of_succ_lt hu)) (pv 2) (pv 4) (nomark _))
      (pss_one (ps_par (i := 4) (j := 2) rfl sc_first_back.nd rfl rfl (by decide) rfl rfl (pa_cons (pv 2) (pa_cons (pe_ix ix_tup (C8.pe_c c_standing_behind hr (by decide) rfl (pa_cons (pv 0) (pa_cons (pv 2) (pa_cons (pv 3) pa_nil)))) pe_int (fun _ _ => rfl)) pa_nil)) (by rfl))))
      (pss_one (ps_ret (pv 4)))))))), ?_⟩
    refine ⟨_, rfl, a, N, rfl, hN, D, e, fun H1 s1 => ?_⟩
    obtain ⟨j, dx, kd, id, ot, nl, O⟩ := hN
    have hN' : ∀ {H'}, Same H H' → NetAt K H' a N := fun s => ⟨j, dx, kd, id, ot, nl, O.mono s⟩
    have O1 := O.mono s1
    refine ⟨_, rfl, a, dx, _, rfl, O1.ob, rfl, _, rfl, a, st, N, s0, rfl, hN' s1, hst.mono s1, fun v _ => hs0 v, ?_⟩
    refine ⟨_, rfl, a, N, rfl, hN' s1, D, e, fun bd H2 hbd s2 DI2 => ?_⟩
    have O2 := O1.mono s2
    have hst2 := (hst.mono s1).mono s2
    refine ⟨_, rfl, a, _, dx, _, _, rfl, O2.ob, T.c_Net, T.n_Net_names, rfl, nl, rfl, ⟨_, SqL.of O2.nl⟩, ?_⟩
    refine dc_vals (walk_list (xs := (List.range N.length).map vn)) (fun i => i) (fun i j _ _ e => e) (fun u => .int ((s0 u : Nat) : Int)) (by rw [mlen]; omega) (fun H' s => SqL.of (s _ _ O2.nl)) ?_ ?_
    · rintro i x H4 H5 R hi s ⟨rfl, hy⟩ kk
      rw [mlen] at hi
      rw [mget _ hi] at hy
      cases hy
      exact ⟨rfl, _, rfl, _, rfl, _, rfl, st, _, rfl, (hst2.mono s).get hi, kk _ (Same.refl _)⟩
    intro now H3 hnow s3 e3
    rw [mlen, dk_id] at e3
    have hnow' : StdAt H3 now N.length s0 := e3
    have s03 : Same H H3 := (s1.trans s2).trans s3
    have DI3 := DI2.mono s3
    have hks : ∀ t ∈ List.range N.length, t < N.length := fun t ht => List.mem_range.mp ht
    refine ⟨_, _, rfl, ?_⟩
    refine ⟨_, rfl, _, rfl, _, rfl, a, now, bd, N, _, s0, _, rfl, hN' s03, D, e, hnow', hs0, DI3, hks, fun H4 p sd td od s4 ep esd => ?_⟩
    refine ⟨p, _, _, _, rfl, rfl, SqT.of ep, rfl, ?_⟩
    let B := Ch.allB N (Ch.rmany N Ch.ones)
    have hB : ∀ u, u < N.length → 1 ≤ B u := fun u hu => by
      show 1 ≤ Ch.allB N (Ch.rmany N Ch.ones) u
      unfold Ch.allB; rw [if_pos hu]; exact Ch.rmany_pos e _
    obtain ⟨i0, hi0⟩ := Ch.back_ex C hs0 hB (Ch.tak_all D e)
    refine wh (fun m σ H' => ∃ (i : Nat) (nw lt : Addr), σ = [some (.ref a), some (.ref st), some (.ref lt), some (.ref bd), some (.ref nw), none] ∧ Same H H' ∧ DI H' bd (List.range N.length) (fun u => (B u : Nat)) ∧ StdAt H' nw N.length (Ch.E N s0 (Ch.mu i B)) ∧ StdAt H' lt N.length (Ch.E N (Ch.E N s0 (Ch.mu i B)) B) ∧ i ≤ i0 ∧ m = i0 - i) i0 ?_ ?_
    · refine ⟨0, now, sd, rfl, s03.trans s4, DI3.mono s4, ?_, ?_, Nat.zero_le _, rfl⟩
      · rw [Ch.mu_zero, C.E_zero hs0]; exact hnow'.mono s4
      · rw [Ch.mu_zero, C.E_zero hs0]; exact esd
    · rintro m σ H' ⟨i, nw, lt, rfl, s', DI', hnw, hlt, hi, rfl⟩
      have gs := C.stgE hs0 (Ch.mu i B)
      refine ⟨_, rfl, _, rfl, lt, nw, List.range N.length, _, _, rfl, rfl, hlt, hnw, _, rfl, ?_⟩
      by_cases c : Ch.E N (Ch.E N s0 (Ch.mu i B)) B = Ch.E N s0 (Ch.mu i B)
      · have hal : ((List.range N.length).all fun t => ((Ch.E N (Ch.E N s0 (Ch.mu i B)) B t : Nat) : Int) == ((Ch.E N s0 (Ch.mu i B) t : Nat) : Int)) = true := by
          rw [c]; simp
        rw [hal]
        exact iteF ⟨_, rfl, k H' nw i s' hnw c⟩
      · have hal : ((List.range N.length).all fun t => ((Ch.E N (Ch.E N s0 (Ch.mu i B)) B t : Nat) : Int) == ((Ch.E N s0 (Ch.mu i B) t : Nat) : Int)) = false := by
          cases hh : ((List.range N.length).all fun t => ((Ch.E N (Ch.E N s0 (Ch.mu i B)) B t : Nat) : Int) == ((Ch.E N s0 (Ch.mu i B) t : Nat) : Int)) with
          | false => rfl
          | true =>
            refine absurd (Ch.stg_ext (C.stgE gs B) gs fun v hv => ?_) c
            have := List.all_eq_true.mp hh v (List.mem_range.mpr hv)
            have := beq_iff_eq.mp this
            omega
        rw [hal]
        have hlt' : i < i0 := by
          rcases Nat.lt_or_ge i i0 with h | h
          · exact h
          · have : i = i0 := by omega
            subst this; exact absurd hi0 c
        refine iteT ⟨fun σ' H'' => ∃ m', m' < i0 - i ∧ _, fun σ' H'' h => h, ?_⟩
        refine ⟨_, rfl, _, rfl, _, rfl, _, rfl, a, lt, bd, N, _, _, _, rfl, hN' s', D, e, hlt, C.stgE gs B, DI', hks, fun H5 p5 sd5 td5 od5 s5 ep5 esd5 => ?_⟩
        refine ⟨p5, _, _, _, rfl, rfl, SqT.of ep5, rfl, _, _, rfl, ?_⟩
        have em : Ch.E N (Ch.E N s0 (Ch.mu i B)) B = Ch.E N s0 (Ch.mu (i + 1) B) := by
          rw [Ch.mu_succ]; exact (C.add hs0 _ _).2.1.symm
        rw [em] at hlt esd5
        exact ⟨i0 - (i + 1), by omega, i + 1, lt, sd5, rfl, s'.trans s5, DI'.mono s5, hlt.mono s5, esd5, by omega, rfl⟩
end
end K11
end
section
set_option Elab.async false
set_option linter.all false
set_option maxRecDepth 100000
namespace K11
open PySem PySem.Spec PyProof.Rows L2
open C8 (Cal Met Mak)
section
variable {P : Program} {w : World} {K : PySem.W.Frag} {mg : Str → Option Value} {base : Heap}
/-! ### Round.__init__, round_of -/
def RndAt (K : PySem.W.Frag) (H : Hp) (p : Addr) (m : Nat) : Prop := ∃ dx td, H p = some (.ins (He.ga K "Round") dx [("many", .int (m : Nat)), ("turns", .ref td)])
def sp_Round_init (K : PySem.W.Frag) : Sp := fun vs H Q _ => ∃ (p dx t : Addr) (m : Nat) (kvs : List (Key × V)), vs = [.ref p, .int (m : Nat), .ref t] ∧ H p = some (.ins (He.ga K "Round") dx []) ∧ H t = some (.dK kvs) ∧ ∀ H', SameX p H H' → RndAt K H' p m → Q .non H'
theorem sc_Round_init : FnScope ["self", "many", "turns"] ["self", "many", "turns"] d_Round_init.scope := ⟨rfl, rfl, rfl, by decide +kernel, rfl, by decide +kernel, by decide +kernel⟩
theorem ok_Round_init (T : Txt K mg)  : Mak P w K mg base 1 "Round" (He.ga K "Round") (sp_Round_init K) [] := by
  refine mak_mk d_Round_init T.d_Round_init T.m_Round T.g_Round sc_Round_init (fun vs H Q E h => ?_) (fun _ _ _ _ _ _ us hl => match us, hl with | [_, _, _], _ => rfl) (fun cdv A outer s H vs Q E hr h => ?_)
  · obtain ⟨_, _, _, _, _, rfl, _⟩ := h
    rfl
  · have hu := hu_of hr
    obtain ⟨p, dx, t, m, kvs, rfl, hob, ht, k⟩ := h
    refine ⟨_, (pss_cons (ps_fld (pv 0) (pv 1) rfl)
      (pss_one (ps_fld (pv 0) (pe_callTy call_dictD (by rfl) T.f_dict (by decide +kernel) (pa_cons (pv 2) pa_nil)) rfl))), ?_⟩
    have nt : t ≠ p := ne_of ht hob (by intro z; cases z)
    refine ⟨_, rfl, _, rfl, p, _, dx, _, rfl, hob, T.c_Round, T.n_Round_many, (by show 0 < 1000; decide), ?_⟩
    have x1 : SameX p H (upd H p (.ins (He.ga K "Round") dx (putF "many" (.int (m : Nat)) []))) := SameX.upd
    have b1 : upd H p (.ins (He.ga K "Round") dx (putF "many" (.int (m : Nat)) [])) p = _ := upd_same
    generalize upd H p (.ins (He.ga K "Round") dx (putF "many" (.int (m : Nat)) [])) = H1 at *
    refine ⟨_, rfl, t, kvs, rfl, .of (x1 _ _ nt ht), fun t' ht' => ?_⟩
    have s2 := Same.new (o := .dK kvs) ht'
    refine ⟨_, rfl, p, _, dx, _, rfl, s2 _ _ b1, T.c_Round, T.n_Round_turns, (by show 1 < 1000; decide), ?_⟩
    refine k _ ((x1.trans s2.x).trans SameX.upd) ⟨dx, t', ?_⟩
    rw [upd_same]; rfl
def sp_round_of (K : PySem.W.Frag) : Sp := fun vs H Q _ => ∃ (a : Addr) (N : Ch.Nt), vs = [.ref a, vn 6] ∧ NetAt K H a N ∧ Ch.Drawn N ∧ Ch.EndsN N ∧ ∀ p H', Same H H' → RndAt K H' p (Ch.rmany N Ch.e1) → Q (.ref p) H'
theorem sc_round_of : FnScope ["net", "name", "knot", "shared", "number", "numbers", "below", "one"] ["net", "name"] d_round_of.scope := ⟨rfl, rfl, rfl, by decide +kernel, rfl, by decide +kernel, by decide +kernel⟩
theorem ok_round_of (T : Txt K mg) (c_Round_init : Mak P w K mg base 1 "Round" (He.ga K "Round") (sp_Round_init K) []) (c_common : Cal P w K mg base 1 "common" sp_common []) (c_solved : Cal P w K mg base 1 "solved" sp_solved []) (c_lattice : Cal P w K mg base 2 "lattice" (sp_lattice K) []) (c_knot_of : Cal P w K mg base 1 "knot_of" (sp_knot_of K) []) (c_check_ends : Cal P w K mg base 4 "check_ends" (sp_check_ends K) []) : Cal P w K mg base 5 "round_of" (sp_round_of K) [] := by
  refine cal_mk d_round_of T.d_round_of T.g_round_of sc_round_of (fun vs H Q E h => ?_) (fun _ _ _ _ _ _ us hl => match us, hl with | [_, _], _ => rfl) (fun cdv A outer s H vs Q E hr h => ?_)
  · obtain ⟨_, _, rfl, _⟩ := h
    rfl
  · have hu := hu_of hr
    obtain ⟨a, N, rfl, hN, D, e, k⟩ := h
    have n1 := D.n1
    have n4 := D.n4
    refine ⟨_, (pss_cons (ps_expr (C8.pe_c c_check_ends hr (by decide) rfl (pa_cons (pv 0) pa_nil)))
      (pss_cons (ps_set (i := 2) sc_round_of.nd rfl (Or.inr rfl) (C8.pe_c c_knot_of hr (by decide) rfl (pa_cons (pv 0) (pa_cons (pv 1) pa_nil))))
      (pss_cons (ps_asg (C8.pe_c c_solved hr (by decide) rfl (pa_cons (C8.pe_c c_lattice hr (by decide) rfl (pa_cons (pv 0) pa_nil)) (pa_cons (pe_lc (own := [("one", 7)]) (by rfl) sc_round_of.nd (pi_list (pe_fld (pv 0) rfl)) (blkOk_by (own := [("one", 7)]) (by rfl)) (fun _ _ _ _ _ => (pg_name (i := 7) sc_round_of.nd rfl (Or.inl rfl))) (fun _ _ _ _ _ => pts_nil) (fun _ _ _ _ _ => (pe_ifExp (pt_cmpR op_eq (pv 7) (pv 2) (nomark _)) pe_int pe_int))) pa_nil))) (pg_tup rfl (pgs_cons (pg_name (i := 5) sc_round_of.nd rfl (Or.inl rfl)) (pgs_cons (pg_name (i := 6) sc_round_of.nd rfl (Or.inl rfl)) pgs_nil))))
      (pss_cons (ps_set (i := 3) sc_round_of.nd rfl (Or.inr rfl) (pv 6))
      (pss_cons (ps_for PassesOwn.never rfl (pi_list (pv 5)) (pg_name (i := 4) sc_round_of.nd rfl (Or.inl rfl))
      (pss_one (ps_set (i := 3) sc_round_of.nd rfl (Or.inr rfl) (C8.pe_c c_common hr (by decide) rfl (pa_cons (pv 3) (pa_cons (pv 4) pa_nil))))))
      (pss_one (ps_ret (C8.pe_mk c_Round_init hr (by decide) rfl (pa_cons (pe_op op_fdivW (pv 6) (pv 3)) (pa_cons (pe_dc (g := gTup K 2 (gCons (gName 7) (gCons (gName 4) gNil))) (own := [("one", 7), ("number", 4)]) (by rfl) sc_round_of.nd (pi_zip rfl T.f_zip (pa_cons (pe_fld (pv 0) rfl) (pa_cons (pv 5) pa_nil))) (blkOk_by (own := [("one", 7), ("number", 4)]) (by rfl)) (fun _ _ _ _ _ => (pg_tup rfl (pgs_cons (pg_name (i := 7) sc_round_of.nd rfl (Or.inl rfl)) (pgs_cons (pg_name (i := 4) sc_round_of.nd rfl (Or.inl rfl)) pgs_nil)))) (fun _ _ _ _ _ => pts_nil) (fun _ _ _ _ _ => (pv 7)) (fun _ _ _ _ _ => (pe_op op_fdivW (pv 4) (pv 3)))) pa_nil)))))))))), ?_⟩
    refine ⟨_, rfl, a, N, rfl, hN, D, e, fun H0 s0 => ?_⟩
    obtain ⟨j, dx, kd, id, ot, nl, O⟩ := hN
    have hN' : ∀ {H'}, Same H H' → NetAt K H' a N := fun s => ⟨j, dx, kd, id, ot, nl, O.mono s⟩
    refine ⟨_, rfl, _, rfl, a, N, rfl, hN' s0, ?_⟩
    refine ⟨_, rfl, a, N, rfl, hN' s0, D, fun pm H1 hpm s1 M1 => ?_⟩
    have O1 := (O.mono s0).mono s1
    refine ⟨_, rfl, a, _, dx, _, _, rfl, O1.ob, T.c_Net, T.n_Net_names, rfl, nl, rfl, ⟨_, SqL.of O1.nl⟩, ?_⟩
    refine lc_vals (walk_list (xs := (List.range N.length).map vn)) (fun i => .int ((Ch.e1 i : Nat) : Int)) (by rw [mlen]; omega) (fun H' s => SqL.of (s _ _ O1.nl)) ?_ ?_
    · rintro i x H' H'' R hi s ⟨rfl, hy⟩ kk
      rw [mlen] at hi
      rw [mget _ hi] at hy
      cases hy
      have q := kk _ (Same.refl _)
      refine ⟨rfl, _, rfl, _, rfl, rfl, _, rfl, ?_⟩
      rw [vn_eq]
      unfold Ch.e1 at q
      refine ite2 (fun c => ?_) (fun c => ?_)
      · rw [if_pos (of_decide_eq_true c)] at q; exact q
      · rw [if_neg (fun z => c (decide_eq_true z))] at q; exact q
    intro rl H2 hrl s2 e2
    rw [mlen] at e2
    refine ⟨pm, rl, N.length, _, _, rfl, M1.mono s2, e2, n1, n4, fun i j hi _ => D.latt10 hi j, fun i hi => by show (((Ch.e1 i : Nat) : Int)).natAbs ≤ 10; unfold Ch.e1; split <;> decide, tabS_pos D e _, fun p l H3 hl hp s3 e3 ep => ?_⟩
    have hnum := nums_row e3
    rw [tabS_T, Ch.dv_tabT D e _ N.length (Nat.le_refl _) _ (Nat.le_refl _)] at ep
    change H3 p = some (.tup [.ref l, .int (Ch.dt N)]) at ep
    have s03 : Same H H3 := ((s0.trans s1).trans s2).trans s3
    refine ⟨p, _, rfl, SqT.of ep, rfl, _, _, rfl, _, _, rfl, rfl, ?_⟩
    refine ⟨_, rfl, _, rfl, l, rfl, ⟨_, SqL.of hnum⟩, ?_⟩
    refine for_list (K := K) (a := l) (xs := (Ch.nums N Ch.e1).map V.int) (fun i σ H' => H' = H3 ∧ ∃ v4, σ = [some (.ref a), some (vn 6), some (vn 0), some (.int (Ch.foldG (Ch.dt N) ((Ch.nums N Ch.e1).take i))), v4, some (.ref l), some (.int (Ch.dt N)), none]) ?_ ?_ ?_ ?_
    · exact ⟨rfl, none, rfl⟩
    · rintro i σ H' _ ⟨rfl, _⟩
      exact SqL.of hnum
    · rintro i x σ H' hx ⟨rfl, v4, rfl⟩
      rw [List.getElem?_map] at hx
      cases hh : (Ch.nums N Ch.e1)[i]? with
      | none => rw [hh] at hx; cases hx
      | some y =>
        rw [hh] at hx
        cases hx
        refine ⟨_, rfl, _, rfl, _, y, rfl, nums_nn D e _ hh, ?_⟩
        rw [Ch.foldG_succ hh]
        exact ⟨rfl, _, rfl⟩
    · rintro σ H' ⟨rfl, v4, rfl⟩
      rw [List.length_map, List.take_of_length_le (Nat.le_refl _)]
      have O3 := O.mono s03
      have gp := Ch.foldG_pos (l := Ch.nums N Ch.e1) e.dt
      have gl := Ch.foldG_le e.dt (Ch.nums N Ch.e1)
      have ds := Ch.dt_small D e
      have wd : ∀ z, CDivW z (Ch.foldG (Ch.dt N) (Ch.nums N Ch.e1)) := fun z => wide_div (b := 80) gp (by omega) (by decide) (by decide)
      refine ⟨_, rfl, _, rfl, _, _, rfl, rfl, wd _, _, rfl, a, _, dx, _, _, rfl, O3.ob, T.c_Net, T.n_Net_names, rfl, _, rfl, nl, l, _, _, rfl, SqL.of O3.nl, SqL.of hnum, ?_⟩
      refine dc_vals (walk_zip (n := N.length) (by rw [mlen, List.length_map, nums_len, Nat.min_self])) (fun i => i) (fun i j _ _ e => e) (fun i => .int ((Ch.nums N Ch.e1).getD i 0 / Ch.foldG (Ch.dt N) (Ch.nums N Ch.e1))) (by omega) (fun H' s => ⟨SqL.of (s _ _ O3.nl), SqL.of (s _ _ hnum)⟩) ?_ ?_
      · rintro i x H4 H5 R hi s4 ⟨T', x1, y1, rfl, hT, rfl, e1', e2'⟩ kk
        simp only [mget _ hi, List.getElem?_map] at e1' e2'
        cases e1'
        cases hh : (Ch.nums N Ch.e1)[i]? with
        | none => rw [hh] at e2'; cases e2'
        | some y =>
          rw [hh] at e2'
          cases e2'
          refine ⟨T', _, rfl, SqT.of upd_same, rfl, _, _, rfl, _, _, rfl, rfl, ?_⟩
          have q := kk (upd H4 T' (.tup [vn i, .int y])) (Same.new hT)
          rw [List.getD_eq_getElem?_getD, hh] at q
          exact ⟨rfl, _, rfl, _, rfl, _, rfl, _, _, rfl, rfl, wd _, q⟩
      · intro td H4 htd s4 e4
        intro x dx' hx hdx hne
        have m0 := made0 (C := He.ga K "Round") (u := .own x) hx hdx
        exact ⟨x, dx', td, Ch.rmany N Ch.e1, _, (by show [V.ref x, V.int (Ch.dt N / Ch.foldG (Ch.dt N) (Ch.nums N Ch.e1)), V.ref td] = _; rw [Ch.rmany_int e]), upd_same, m0 _ _ e4, fun H5 sx r => ⟨rfl, k x H5 ((s03.trans s4).trans (made (K := K) hx hdx hne sx)) r⟩⟩
end
end K11
end
section
set_option Elab.async false
set_option linter.all false
set_option maxRecDepth 100000
namespace K11
open PySem PySem.Spec PyProof.Rows L2
open C8 (Cal Met Mak)
section
variable {P : Program} {w : World} {K : PySem.W.Frag} {mg : Str → Option Value} {base : Heap}
/-! ### courses: rows -/
def prV (x : Nat × Nat) : List V := [.int (x.1 : Nat), .int (x.2 : Nat)]
def PrOf (H : Hp) (ys : List V) (ps : List (Nat × Nat)) : Prop := ys.length = ps.length ∧ ∀ (i : Nat) (x : Nat × Nat), ps[i]? = some x → ∃ q : Addr, ys[i]? = some (V.ref q) ∧ H q = some (.tup (prV x))
def PrsAt (H : Hp) (a : Addr) (ps : List (Nat × Nat)) : Prop := ∃ ys, H a = some (.lst ys) ∧ PrOf H ys ps
theorem PrOf.mono {H H' : Hp} {ys : List V} {ps : List (Nat × Nat)} (s : Same H H') (h : PrOf H ys ps) : PrOf H' ys ps := ⟨h.1, fun i x e => let ⟨q, a, b⟩ := h.2 i x e; ⟨q, a, s _ _ b⟩⟩
theorem PrsAt.mono {H H' : Hp} {a : Addr} {ps : List (Nat × Nat)} (s : Same H H') (h : PrsAt H a ps) : PrsAt H' a ps := let ⟨ys, e, q⟩ := h; ⟨ys, s _ _ e, q.mono s⟩
theorem PrOf.tupx {H H' : Hp} {ys : List V} {ps : List (Nat × Nat)} (s : ∀ c xs, H c = some (.tup xs) → H' c = some (.tup xs)) (h : PrOf H ys ps) : PrOf H' ys ps := ⟨h.1, fun i x e => let ⟨q, a, b⟩ := h.2 i x e; ⟨q, a, s _ _ b⟩⟩
theorem PrOf.get {H : Hp} {ys : List V} {ps : List (Nat × Nat)} (h : PrOf H ys ps) {i : Nat} {y : V} (e : ys[i]? = some y) : ∃ (x : Nat × Nat) (q : Addr), ps[i]? = some x ∧ y = .ref q ∧ H q = some (.tup (prV x)) := by
  have hi : i < ps.length := by rw [← h.1]; exact (List.getElem?_eq_some_iff.mp e).1
  obtain ⟨q, a, b⟩ := h.2 i _ (List.getElem?_eq_getElem hi)
  rw [a] at e
  exact ⟨_, q, List.getElem?_eq_getElem hi, (Option.some.inj e).symm, b⟩
def CrsAt (K : PySem.W.Frag) (H : Hp) (p : Addr) (f per : List (Nat × Nat)) : Prop := ∃ dx fa pa, H p = some (.ins (He.ga K "Course") dx [("front", .ref fa), ("period", .ref pa)]) ∧ PrsAt H fa f ∧ PrsAt H pa per
theorem CrsAt.mono {H H' : Hp} {p : Addr} {f per : List (Nat × Nat)} (s : Same H H') (h : CrsAt K H p f per) : CrsAt K H' p f per := let ⟨dx, fa, pa, a, b, c⟩ := h; ⟨dx, fa, pa, s _ _ a, b.mono s, c.mono s⟩
/-! ### Course.__init__ -/
def rTupOf (K : PySem.W.Frag) : List V → Hp → VK → Prop := fun xs H Q => ∃ p ys, xs = [.ref p] ∧ ((SqL K H p ys ∧ ∀ l, H l = none → Q (.ref l) (upd H l (.tup ys))) ∨ (SqT K H p ys ∧ Q (.ref p) H))
def sp_Course_init (K : PySem.W.Frag) : Sp := fun vs H Q _ => ∃ (p dx fa pa : Addr) (f per : List (Nat × Nat)), vs = [.ref p, .ref fa, .ref pa] ∧ H p = some (.ins (He.ga K "Course") dx []) ∧ PrsAt H fa f ∧ PrsAt H pa per ∧ f.length ≤ 5000 ∧ per.length ≤ 5000 ∧ ∀ H', SameX p H H' → CrsAt K H' p f per → Q .non H'
theorem sc_Course_init : FnScope ["self", "front", "period", "row"] ["self", "front", "period"] d_Course_init.scope := ⟨rfl, rfl, rfl, by decide +kernel, rfl, by decide +kernel, by decide +kernel⟩
theorem vals_list (ys : List V) : (List.range ys.length).map (fun i => ys.getD i .non) = ys := by
  conv => rhs; rw [← List.map_id ys]
  exact rng_map id ys _ fun i x h => by rw [List.getD_eq_getElem?_getD, h]; rfl
theorem ok_Course_init (T : Txt K mg)  : Mak P w K mg base 1 "Course" (He.ga K "Course") (sp_Course_init K) [] := by
  refine mak_mk d_Course_init T.d_Course_init T.m_Course T.g_Course sc_Course_init (fun vs H Q E h => ?_) (fun _ _ _ _ _ _ us hl => match us, hl with | [_, _, _], _ => rfl) (fun cdv A outer s H vs Q E hr h => ?_)
  · obtain ⟨_, _, _, _, _, _, rfl, _⟩ := h
    rfl
  · have hu := hu_of hr
    obtain ⟨p, dx, fa, pa, f, per, rfl, hob, ⟨ys, hf, pf⟩, ⟨zs, hp, pp⟩, lf, lp, k⟩ := h
    refine ⟨_, (pss_cons (ps_fld (pv 0) (pe_lc (te := tCB (rTupOf K) (tCons (tVar 3) tNil)) (own := [("row", 3)]) (by rfl) sc_Course_init.nd (pi_list (pv 1)) (blkOk_by (own := [("row", 3)]) (by rfl)) (fun _ _ _ _ _ => (pg_name (i := 3) sc_Course_init.nd rfl (Or.inl rfl))) (fun _ _ _ _ _ => pts_nil) (fun _ _ _ _ _ => (pe_callTy call_tuple_of (by rfl) T.f_tuple boot_tuple (pa_cons (pv 3) pa_nil)))) rfl)
      (pss_one (ps_fld (pv 0) (pe_lc (te := tCB (rTupOf K) (tCons (tVar 3) tNil)) (own := [("row", 3)]) (by rfl) sc_Course_init.nd (pi_list (pv 2)) (blkOk_by (own := [("row", 3)]) (by rfl)) (fun _ _ _ _ _ => (pg_name (i := 3) sc_Course_init.nd rfl (Or.inl rfl))) (fun _ _ _ _ _ => pts_nil) (fun _ _ _ _ _ => (pe_callTy call_tuple_of (by rfl) T.f_tuple boot_tuple (pa_cons (pv 3) pa_nil)))) rfl))), ?_⟩
    have nf : fa ≠ p := ne_of hf hob (by intro z; cases z)
    have np : pa ≠ p := ne_of hp hob (by intro z; cases z)
    have ntup : ∀ c xs, H c = some (.tup xs) → c ≠ p := fun c xs h => ne_of h hob (by intro z; cases z)
    refine ⟨_, rfl, fa, rfl, ⟨_, SqL.of hf⟩, ?_⟩
    refine lc_vals (walk_list (xs := ys)) (fun i => ys.getD i .non) (by rw [pf.1]; omega) (fun H' s => SqL.of (s _ _ hf)) ?_ ?_
    · rintro i x H' H'' R hi s ⟨rfl, hy⟩ kk
      obtain ⟨z, q, h1, rfl, h3⟩ := pf.get hy
      have qq := kk _ (Same.refl _)
      rw [List.getD_eq_getElem?_getD, hy] at qq
      exact ⟨rfl, _, rfl, q, _, rfl, .inr ⟨SqT.of (s _ _ h3), qq⟩⟩
    intro fa' H1 hfa' s1 e1
    rw [vals_list] at e1
    have nf' : fa' ≠ p := fun z => by rw [z, hob] at hfa'; cases hfa'
    refine ⟨_, rfl, p, _, dx, _, rfl, s1 _ _ hob, T.c_Course, T.n_Course_front, (by show 0 < 1000; decide), ?_⟩
    have x1 : SameX p H (upd H1 p (.ins (He.ga K "Course") dx (putF "front" (.ref fa') []))) := s1.x.trans SameX.upd
    have b1 : upd H1 p (.ins (He.ga K "Course") dx (putF "front" (.ref fa') [])) p = _ := upd_same
    have f1 : upd H1 p (.ins (He.ga K "Course") dx (putF "front" (.ref fa') [])) fa' = some (.lst ys) := (upd_ne nf').trans e1
    generalize upd H1 p (.ins (He.ga K "Course") dx (putF "front" (.ref fa') [])) = H2 at *
    refine ⟨_, rfl, pa, rfl, ⟨_, SqL.of (x1 _ _ np hp)⟩, ?_⟩
    refine lc_vals (walk_list (xs := zs)) (fun i => zs.getD i .non) (by rw [pp.1]; omega) (fun H' s => SqL.of (s _ _ (x1 _ _ np hp))) ?_ ?_
    · rintro i x H' H'' R hi s ⟨rfl, hy⟩ kk
      obtain ⟨z, q, h1, rfl, h3⟩ := pp.get hy
      have qq := kk _ (Same.refl _)
      rw [List.getD_eq_getElem?_getD, hy] at qq
      exact ⟨rfl, _, rfl, q, _, rfl, .inr ⟨SqT.of (s _ _ (x1 _ _ (ntup _ _ h3) h3)), qq⟩⟩
    intro pa' H3 hpa' s3 e3
    rw [vals_list] at e3
    have np' : pa' ≠ p := fun z => by rw [z, b1] at hpa'; cases hpa'
    refine ⟨_, rfl, p, _, dx, _, rfl, s3 _ _ b1, T.c_Course, T.n_Course_period, (by show 1 < 1000; decide), ?_⟩
    have x4 := (x1.trans s3.x).trans (SameX.upd (p := p) (H := H3) (o := .ins (He.ga K "Course") dx (putF "period" (.ref pa') (putF "front" (.ref fa') []))))
    have tx : ∀ c xs, H c = some (.tup xs) → upd H3 p (.ins (He.ga K "Course") dx (putF "period" (.ref pa') (putF "front" (.ref fa') []))) c = some (.tup xs) := fun c xs h => x4 _ _ (ntup _ _ h) h
    refine k _ x4 ⟨dx, fa', pa', ?_, ⟨ys, (upd_ne nf').trans (s3 _ _ f1), pf.tupx tx⟩, ⟨zs, (upd_ne np').trans e3, pp.tupx tx⟩⟩
    rw [upd_same]; rfl
end
end K11
end
section
set_option Elab.async false
set_option linter.all false
set_option maxRecDepth 100000
namespace K11
open PySem PySem.Spec PyProof.Rows L2
open C8 (Cal Met Mak)
section
variable {P : Program} {w : World} {K : PySem.W.Frag} {mg : Str → Option Value} {base : Heap}
/-! ### shortest -/
def pairD (x : Nat × Nat) : PyData := .tuple [.int (x.1 : Nat), .int (x.2 : Nat)]
def pairsD (ps : List (Nat × Nat)) : PyData := .list (ps.map pairD)
theorem pair_dp {H : Hp} {q : Addr} {x : Nat × Nat} (h : H q = some (.tup (prV x))) : Dp K H (.ref q) (pairD x) := .tup (SqT.of h) (.cons (.int _) (.cons (.int _) .nil))
theorem pairs_all {H : Hp} : ∀ {ys : List V} {ps : List (Nat × Nat)}, PrOf H ys ps → DpAll K H ys (ps.map pairD)
  | [], [], _ => .nil
  | [], _ :: _, h => by have := h.1; simp at this
  | _ :: _, [], h => by have := h.1; simp at this
  | y :: ys, x :: ps, h => by
    obtain ⟨q, h1, h2⟩ := h.2 0 x rfl
    cases h1
    exact .cons (pair_dp h2) (pairs_all ⟨by have := h.1; simpa using this, fun i z e => h.2 (i + 1) z e⟩)
theorem pairs_dp {H : Hp} {a : Addr} {ys : List V} {ps : List (Nat × Nat)} (e : H a = some (.lst ys)) (h : PrOf H ys ps) : Dp K H (.ref a) (pairsD ps) := .lst (SqL.of e) (pairs_all h)
theorem pair_lay (x : Nat × Nat) : (pairD x).canLay0 = true := by simp [pairD, PyData.canLay0, PyData.canLayAll0]
theorem pair_depth (x : Nat × Nat) : (pairD x).depth ≤ 1 := by simp [pairD, PyData.depth, PyData.depthAll]
theorem pair_shaped (x : Nat × Nat) : SeqAt.shaped (pairD x) = true := shape_mk (pair_lay x) (Nat.le_trans (pair_depth x) (by decide))
theorem pairs_shaped (ps : List (Nat × Nat)) : SeqAt.shaped (pairsD ps) = true := by
  refine shape_mk ?_ ?_
  · show PyData.canLay0 (.list _) = true
    rw [PyData.canLay0]; exact lay_map fun x _ => pair_lay x
  · show PyData.depth (.list _) ≤ 64
    rw [PyData.depth]
    have : PyData.depthAll (ps.map pairD) ≤ 1 := depth_map fun x _ => pair_depth x
    omega
theorem pair_eqv (x y : Nat × Nat) : PyData.eqv (pairD x) (pairD y) = decide (x = y) := by
  obtain ⟨a, b⟩ := x
  obtain ⟨c, d⟩ := y
  have e : PyData.eqv (pairD (a, b)) (pairD (c, d)) = (((a : Int) == (c : Int)) && (((b : Int) == (d : Int)) && true)) := by simp only [pairD, PyData.eqv, PyData.eqvAll]
  rw [e]
  by_cases h : ((a, b) : Nat × Nat) = (c, d)
  · cases h; simp
  · rw [decide_eq_false h]
    by_cases h1 : a = c
    · subst h1
      have h2 : b ≠ d := fun z => h (by rw [z])
      have : ((b : Int) == (d : Int)) = false := beq_eq_false_iff_ne.mpr (by omega)
      rw [this]; simp
    · have : ((a : Int) == (c : Int)) = false := beq_eq_false_iff_ne.mpr (by omega)
      rw [this]; simp
theorem pairs_eqvAll : ∀ ps qs : List (Nat × Nat), PyData.eqvAll (ps.map pairD) (qs.map pairD) = decide (ps = qs)
  | [], [] => rfl
  | [], _ :: _ => by rw [decide_eq_false (by simp)]; rfl
  | _ :: _, [] => by rw [decide_eq_false (by simp)]; rfl
  | x :: ps, y :: qs => by
    rw [List.map_cons, List.map_cons, PyData.eqvAll, pair_eqv, pairs_eqvAll ps qs]
    by_cases h1 : x = y
    · by_cases h2 : ps = qs
      · rw [decide_eq_true h1, decide_eq_true h2, decide_eq_true (by rw [h1, h2])]; rfl
      · rw [decide_eq_true h1, decide_eq_false h2, decide_eq_false (fun z => h2 (List.cons.inj z).2)]; rfl
    · rw [decide_eq_false h1, decide_eq_false (fun z => h1 (List.cons.inj z).1)]; rfl
theorem pairs_eqv (ps qs : List (Nat × Nat)) : PyData.eqv (pairsD ps) (pairsD qs) = decide (ps = qs) := by
  show PyData.eqv (.list _) (.list _) = _
  rw [PyData.eqv]; exact pairs_eqvAll ps qs
/-! lists of pairs, cut and put together -/
theorem PrOf.take {H : Hp} {ys : List V} {ps : List (Nat × Nat)} (h : PrOf H ys ps) (n : Nat) : PrOf H (ys.take n) (ps.take n) := by
  refine ⟨by rw [List.length_take, List.length_take, h.1], fun i x e => ?_⟩
  have hi : i < n := by
    have := (List.getElem?_eq_some_iff.mp e).1
    rw [List.length_take] at this; omega
  rw [List.getElem?_take_of_lt hi] at e ⊢
  exact h.2 i x e
theorem PrOf.drop {H : Hp} {ys : List V} {ps : List (Nat × Nat)} (h : PrOf H ys ps) (n : Nat) : PrOf H (ys.drop n) (ps.drop n) := by
  refine ⟨by rw [List.length_drop, List.length_drop, h.1], fun i x e => ?_⟩
  rw [List.getElem?_drop] at e ⊢
  exact h.2 _ x e
theorem PrOf.append {H : Hp} {ys zs : List V} {ps qs : List (Nat × Nat)} (h : PrOf H ys ps) (h' : PrOf H zs qs) : PrOf H (ys ++ zs) (ps ++ qs) := by
  refine ⟨by rw [List.length_append, List.length_append, h.1, h'.1], fun i x e => ?_⟩
  by_cases c : i < ps.length
  · rw [List.getElem?_append_left c] at e
    rw [List.getElem?_append_left (by rw [h.1]; exact c)]
    exact h.2 i x e
  · rw [List.getElem?_append_right (by omega)] at e
    rw [List.getElem?_append_right (by rw [h.1]; omega), h.1]
    exact h'.2 _ x e
theorem PrOf.nil {H : Hp} : PrOf H [] [] := ⟨rfl, fun i x e => by simp at e⟩
theorem PrOf.rep {H : Hp} {ys : List V} {ps : List (Nat × Nat)} (h : PrOf H ys ps) : ∀ m, PrOf H (List.replicate m ys).flatten (List.replicate m ps).flatten
  | 0 => PrOf.nil
  | m + 1 => by rw [List.replicate_succ, List.replicate_succ, List.flatten_cons, List.flatten_cons]; exact h.append (h.rep m)
theorem PrOf.one {H : Hp} {q : Addr} {x : Nat × Nat} (h : H q = some (.tup (prV x))) : PrOf H [.ref q] [x] := ⟨rfl, fun i z e => by
  cases i with
  | zero => cases e; exact ⟨q, rfl, h⟩
  | succ i => simp at e⟩
theorem cut_to {xs : List V} {m : Nat} (hm : m ≤ xs.length) : cutV xs none (some (m : Nat)) = xs.take m := by
  unfold cutV
  have h2 : HT.sIx xs.length xs.length (some ((m : Nat) : Int)) = min m xs.length := HT.sIx_nat _ _ _
  rw [h2, Nat.min_eq_left hm]
  simp [HT.sIx]
theorem cut_from {xs : List V} {m : Nat} (hm : m ≤ xs.length) : cutV xs (some (m : Nat)) none = xs.drop m := by
  unfold cutV
  have h2 : HT.sIx xs.length 0 (some ((m : Nat) : Int)) = min m xs.length := HT.sIx_nat _ _ _
  rw [h2, Nat.min_eq_left hm]
  simp [HT.sIx]
  exact List.take_of_length_le (by rw [List.length_drop]; omega)
theorem cut_last {xs : List V} (hm : 1 ≤ xs.length) : cutV xs none (some (-1)) = xs.take (xs.length - 1) := by
  unfold cutV
  have h2 : HT.sIx xs.length xs.length (some (-1)) = xs.length - 1 := by
    unfold HT.sIx
    simp only
    rw [if_pos (by decide)]; omega
  rw [h2]
  simp [HT.sIx]
end
end K11
end
section
set_option Elab.async false
set_option linter.all false
set_option maxRecDepth 100000
namespace Ch
theorem Rep.self {α : Type} {p : List α} (h : p ≠ []) : Rep p p.length := by
  have h0 : 0 < p.length := List.length_pos_iff.mpr h
  exact ⟨Nat.mod_self _, by rw [Nat.div_self h0, List.take_of_length_le (Nat.le_refl _)]; simp⟩
end Ch
namespace K11
open PySem PySem.Spec PyProof.Rows L2
open C8 (Cal Met Mak)
section
variable {P : Program} {w : World} {K : PySem.W.Frag} {mg : Str → Option Value} {base : Heap}
def sp_shortest : Sp := fun vs H Q _ => ∃ (fa pa : Addr) (f p : List (Nat × Nat)) (r : Nat → Nat × Nat), vs = [.ref fa, .ref pa] ∧ PrsAt H fa f ∧ PrsAt H pa p ∧ Ch.Tells r f p ∧ f.length ≤ 3000 ∧ p.length ≤ 3000 ∧
  ∀ H' t fa' pa' f' p', Same H H' → H' t = some (.tup [.ref fa', .ref pa']) → PrsAt H' fa' f' → PrsAt H' pa' p' → Ch.Crs r f' p' → f'.length ≤ 3000 → p'.length ≤ 3000 → Q (.ref t) H'
theorem sc_shortest : FnScope ["front", "period", "many"] ["front", "period"] d_shortest.scope := ⟨rfl, rfl, rfl, by decide +kernel, rfl, by decide +kernel, by decide +kernel⟩
theorem last_split {α : Type} {l : List α} (h : l ≠ []) : ∃ l' x, l = l' ++ [x] := ⟨l.dropLast, l.getLast h, (List.dropLast_concat_getLast h).symm⟩
set_option maxHeartbeats 1000000 in
theorem ok_shortest (T : Txt K mg)  : Cal P w K mg base 1 "shortest" sp_shortest [] := by
  refine cal_mk d_shortest T.d_shortest T.g_shortest sc_shortest (fun vs H Q E h => ?_) (fun _ _ _ _ _ _ us hl => match us, hl with | [_, _], _ => rfl) (fun cdv A outer s H vs Q E hr h => ?_)
  · obtain ⟨_, _, _, _, _, rfl, _⟩ := h
    rfl
  · have hu := hu_of hr
    obtain ⟨fa, pa, f, p, r, rfl, hf, ⟨zs, hp, pp⟩, ht, lf, lp, k⟩ := h
    refine ⟨_, (pss_cons (ps_for PassesOwn.never rfl (pi_range2 rfl T.f_range (pa_cons pe_int (pa_cons (pe_op op_add (pe_callB call_len_seq (by rfl) T.f_len (by decide +kernel) (pa_cons (pv 1) pa_nil)) pe_int) pa_nil))) (pg_name (i := 2) sc_shortest.nd rfl (Or.inl rfl))
      (pss_one (ps_if (PW.pt (pw_and (pt_cmpR op_eq (pe_op op_mod (pe_callB call_len_seq (by rfl) T.f_len (by decide +kernel) (pa_cons (pv 1) pa_nil)) (pv 2)) pe_int (nomark _)) (pw_and1 (pt_cmpR (op_eqD hr.units) (pv 1) (pe_op op_rep (pe_slice sl_list (pv 1) po_none (po_some (pv 2))) (pe_op op_fdivW (pe_callB call_len_seq (by rfl) T.f_len (by decide +kernel) (pa_cons (pv 1) pa_nil)) (pv 2))) (nomark _)))))
        (pss_cons (ps_set (i := 1) sc_shortest.nd rfl (Or.inl rfl) (pe_slice sl_list (pv 1) po_none (po_some (pv 2))))
          (pss_one ps_break))
        pss_nil)))
      (pss_cons (ps_while PassesOwn.never (PW.pt (pw_and (pt_cmpR (op_neD hr.units) (pv 0) (pe_lst pa_nil) (nomark _)) (pw_and1 (pt_cmpR (op_eqD hr.units) (pe_ix ix_list (pv 0) (pe_un un_neg pe_int) (fun _ _ => rfl)) (pe_ix ix_list (pv 1) (pe_un un_neg pe_int) (fun _ _ => rfl)) (nomark _)))))
      (pss_one (ps_par (i := 0) (j := 1) rfl sc_shortest.nd rfl rfl (by decide) rfl rfl (pa_cons (pe_slice sl_list (pv 0) po_none (po_some (pe_un un_neg pe_int))) (pa_cons (pe_lst (pa_cons (pe_ix ix_list (pv 1) (pe_un un_neg pe_int) (fun _ _ => rfl)) (StX.pa_star (pe_slice sl_list (pv 1) po_none (po_some (pe_un un_neg pe_int))) pa_nil))) pa_nil)) (by rfl))))
      (pss_one (ps_ret (pe_tup (pa_cons (pv 0) (pa_cons (pv 1) pa_nil))))))), ?_⟩
    have hpos := ht.pos
    have hne : p ≠ [] := ht.ne
    refine ⟨_, rfl, pa, _, rfl, .inl (SqL.of hp), _, _, rfl, rfl, _, _, rfl, ⟨by decide, by decide, by omega, by rw [pp.1]; omega⟩, ?_⟩
    refine for_range (fun i σ H' => ∃ v2, σ = [some (.ref fa), some (.ref pa), v2] ∧ Same H H' ∧ ∀ d, 1 ≤ d → d < 1 + i → ¬ Ch.Rep p d) ?_ ?_ ?_
    · exact ⟨none, rfl, Same.refl _, fun d h1 h2 => by omega⟩
    · rintro i σ H' hi ⟨v2, rfl, s', hno⟩
      have hi' : 1 + i ≤ p.length := by rw [pp.1] at hi; omega
      have e1 : (1 : Int) + (i : Nat) = ((1 + i : Nat) : Int) := by omega
      rw [e1]
      have hp' := s' _ _ hp
      have pp' := pp.mono s'
      have hzl := pp.1
      refine ⟨_, rfl, pa, _, rfl, .inl (SqL.of hp'), _, rfl, _, _, rfl, rfl, (by show (0 : Int) < ((1 + i : Nat) : Int); omega), rfl, _, rfl, ?_⟩
      have em : decide (V.int (((zs.length : Nat) : Int) % ((1 + i : Nat) : Int)) = V.int 0) = decide (p.length % (1 + i) = 0) := by
        rw [hzl]
        by_cases c : p.length % (1 + i) = 0
        · rw [decide_eq_true c, decide_eq_true]
          have : ((p.length : Nat) : Int) % ((1 + i : Nat) : Int) = ((p.length % (1 + i) : Nat) : Int) := (Int.natCast_emod _ _).symm
          rw [this, c]; rfl
        · rw [decide_eq_false c, decide_eq_false]
          intro z
          have z' := V.int.inj z
          have : ((p.length : Nat) : Int) % ((1 + i : Nat) : Int) = ((p.length % (1 + i) : Nat) : Int) := (Int.natCast_emod _ _).symm
          rw [this] at z'
          omega
      show if decide (V.int (((zs.length : Nat) : Int) % ((1 + i : Nat) : Int)) = V.int 0) = true then _ else _
      rw [em]
      have nope : ¬ Ch.Rep p (1 + i) → ∀ d, 1 ≤ d → d < 1 + (i + 1) → ¬ Ch.Rep p d := fun hn d h1 h2 => by
        rcases Nat.lt_or_ge d (1 + i) with h | h
        · exact hno d h1 h
        · rw [show d = 1 + i by omega]; exact hn
      refine ite2 (fun c => ?_) (fun c => ?_)
      · have c' : p.length % (1 + i) = 0 := of_decide_eq_true c
        have hdl : 1 + i ≤ zs.length := by omega
        refine ⟨_, rfl, _, rfl, _, rfl, _, rfl, pa, _, rfl, SqL.of hp', fun l1 hl1 => ?_⟩
        rw [cut_to hdl]
        have s1 := Same.new (o := .lst (zs.take (1 + i))) hl1
        have el1 : upd H' l1 (.lst (zs.take (1 + i))) l1 = some (.lst (zs.take (1 + i))) := upd_same
        have p1 := pp'.mono s1
        have hp1 := s1 _ _ hp'
        have s01 := s'.trans s1
        generalize upd H' l1 (.lst (zs.take (1 + i))) = H1 at *
        refine ⟨_, rfl, pa, _, rfl, .inl (SqL.of hp1), _, rfl, _, _, rfl, rfl, wide_div (b := 20) (by omega) (by omega) (by decide) (by decide), ?_⟩
        have ed : ((zs.length : Nat) : Int) / ((1 + i : Nat) : Int) = ((p.length / (1 + i) : Nat) : Int) := by rw [hzl]; exact (Int.natCast_ediv _ _).symm
        have hmul : (1 + i) * (p.length / (1 + i)) = p.length := Nat.mul_div_cancel' (Nat.dvd_of_mod_eq_zero c')
        have hdle : p.length / (1 + i) ≤ p.length := Nat.div_le_self _ _
        refine ⟨l1, _, _, rfl, rfl, el1, by show -(2 ^ 63) ≤ ((zs.length : Nat) : Int) / ((1 + i : Nat) : Int); rw [ed]; exact Int.le_trans (by decide) (Int.natCast_nonneg _), by show ((zs.length : Nat) : Int) / ((1 + i : Nat) : Int) < 2 ^ 63; rw [ed]; exact Int.lt_of_le_of_lt (Int.ofNat_le.mpr hdle) (by omega), ?_, fun l2 hl2 => ?_⟩
        · show (zs.take (1 + i)).length * (((zs.length : Nat) : Int) / ((1 + i : Nat) : Int)).toNat ≤ sizeLine
          rw [ed, Int.toNat_natCast, List.length_take, Nat.min_eq_left hdl, hmul]; exact sz5' (by omega)
        have er : (((zs.length : Nat) : Int) / ((1 + i : Nat) : Int)).toNat = p.length / (1 + i) := by rw [ed, Int.toNat_natCast]
        have s2 := Same.new (o := .lst (List.replicate (((zs.length : Nat) : Int) / ((1 + i : Nat) : Int)).toNat (zs.take (1 + i))).flatten) hl2
        have el2 : upd H1 l2 (.lst (List.replicate (((zs.length : Nat) : Int) / ((1 + i : Nat) : Int)).toNat (zs.take (1 + i))).flatten) l2 = some (.lst (List.replicate (p.length / (1 + i)) (zs.take (1 + i))).flatten) := by rw [upd_same, er]
        have p2 := p1.mono s2
        have hp2 := s2 _ _ hp1
        have s02 := s01.trans s2
        refine ⟨_, _, pairs_dp hp2 p2, pairs_dp el2 ((p2.take (1 + i)).rep (p.length / (1 + i))), pairs_shaped _, pairs_shaped _, _, rfl, ?_⟩
        generalize upd H1 l2 (.lst (List.replicate (((zs.length : Nat) : Int) / ((1 + i : Nat) : Int)).toNat (zs.take (1 + i))).flatten) = H2 at *
        rw [pairs_eqv]
        refine ite2 (fun c2 => ?_) (fun c2 => ?_)
        · have hrep : Ch.Rep p (1 + i) := ⟨c', of_decide_eq_true c2⟩
          refine ⟨_, rfl, _, rfl, _, rfl, pa, _, rfl, SqL.of hp2, fun l3 hl3 => ?_⟩
          rw [cut_to hdl]
          have s3 := Same.new (o := .lst (zs.take (1 + i))) hl3
          have el3 : upd H2 l3 (.lst (zs.take (1 + i))) l3 = some (.lst (zs.take (1 + i))) := upd_same
          have p3 := (p2.mono s3).take (1 + i)
          have s03 := s02.trans s3
          generalize upd H2 l3 (.lst (zs.take (1 + i))) = H3 at *
          have T1 := ht.cut (by omega) hi' hrep
          have lt1 : (p.take (1 + i)).length = 1 + i := by rw [List.length_take]; omega
          have hmin : ∀ q m, 1 ≤ q → (∀ k, m ≤ k → r (k + q) = r k) → 1 + i ∣ q := ht.minP (by omega) hi' hrep hno
          -- the turns
          refine wh (fun m σ H' => ∃ (fa' pa' : Addr) (f' p' : List (Nat × Nat)) (v2 : Option V), σ = [some (.ref fa'), some (.ref pa'), v2] ∧ Same H H' ∧ PrsAt H' fa' f' ∧ PrsAt H' pa' p' ∧ Ch.Tells r f' p' ∧ p'.length = 1 + i ∧ f'.length ≤ 3000 ∧ m = f'.length) f.length ?_ ?_
          · exact ⟨fa, l3, f, p.take (1 + i), _, rfl, s03, hf.mono s03, ⟨_, el3, p3⟩, T1, lt1, lf, rfl⟩
          · rintro m σ H4 ⟨fa', pa', f', p', v2', rfl, s4, ⟨fy, ef, pf⟩, ⟨py, ep, ppy⟩, T2, lp', lf', rfl⟩
            have fin : (f' = [] ∨ f'.getLast? ≠ p'.getLast?) → ∀ H5, Same H4 H5 → tRet (tTup (tCons (tVar 0) (tCons (tVar 1) tNil))) { nx := fun _ H' => Q .non H', rt := Q } [some (.ref fa'), some (.ref pa'), v2'] H5 := fun hl H5 s5 => by
              refine ⟨_, rfl, _, rfl, (by show 2 ≤ sizeLine; decide), fun t htt => ?_⟩
              have s6 := Same.new (o := .tup [.ref fa', .ref pa']) htt
              exact k _ t fa' pa' f' p' ((s4.trans s5).trans s6) upd_same ((show PrsAt H4 fa' f' from ⟨fy, ef, pf⟩).mono (s5.trans s6)) ((show PrsAt H4 pa' p' from ⟨py, ep, ppy⟩).mono (s5.trans s6))
                { T2 with minP := fun q m hq hh => by rw [lp']; exact hmin q m hq hh, minF := T2.minF (fun q m hq hh => by rw [lp']; exact hmin q m hq hh) hl } lf' (by omega)
            refine ⟨_, rfl, (by show 0 ≤ sizeLine; exact Nat.zero_le _), fun l5 hl5 => ?_⟩
            have s5 := Same.new (o := .lst []) hl5
            have el5 : upd H4 l5 (.lst []) l5 = some (.lst []) := upd_same
            have ef5 := s5 _ _ ef
            have ep5 := s5 _ _ ep
            have pf5 := pf.mono s5
            have pp5 := ppy.mono s5
            refine ⟨_, _, pairs_dp ef5 pf5, pairs_dp el5 PrOf.nil, pairs_shaped _, pairs_shaped _, _, rfl, ?_⟩
            generalize upd H4 l5 (.lst []) = H5 at *
            rw [pairs_eqv]
            by_cases cf : f' = []
            · rw [decide_eq_true cf]
              exact iteF (iteF (fin (.inl cf) H5 s5))
            · rw [decide_eq_false cf]
              refine iteT ?_
              obtain ⟨f2, x, hf2⟩ := last_split cf
              have cp : p' ≠ [] := T2.ne
              obtain ⟨p2', x2, hp2'⟩ := last_split cp
              subst hf2 hp2'
              obtain ⟨qx, gx1, gx2⟩ := pf5.2 f2.length x (by rw [List.getElem?_append_right (Nat.le_refl _), Nat.sub_self]; rfl)
              obtain ⟨qy, gy1, gy2⟩ := pp5.2 p2'.length x2 (by rw [List.getElem?_append_right (Nat.le_refl _), Nat.sub_self]; rfl)
              have fyl : fy.length = f2.length + 1 := by rw [pf.1]; simp
              have pyl : py.length = p2'.length + 1 := by rw [ppy.1]; simp
              have at1 : ∀ {ys : List V} {n : Nat} {v : V}, ys.length = n + 1 → ys[n]? = some v → atI ys (-1) = some v := fun {ys n v} hl hv => by
                have hy : ys = ys.take n ++ [v] := by
                  conv => lhs; rw [← List.take_append_drop n ys]
                  congr 1
                  refine List.ext_getElem? fun i => ?_
                  rw [List.getElem?_drop]
                  cases i with
                  | zero => rw [Nat.add_zero, hv]; rfl
                  | succ i => rw [List.getElem?_eq_none (by omega)]; rfl
                rw [hy]; exact atI_last _ _
              refine ⟨_, rfl, 1, rfl, fa', _, _, _, rfl, rfl, SqL.of ef5, at1 fyl gx1, _, rfl, 1, rfl, pa', _, _, _, rfl, rfl, SqL.of ep5, at1 pyl gy1, ?_⟩
              refine ⟨_, _, pair_dp gx2, pair_dp gy2, pair_shaped _, pair_shaped _, _, rfl, ?_⟩
              rw [pair_eqv]
              by_cases cx : x = x2
              · subst cx
                rw [decide_eq_true rfl]
                refine iteT ⟨fun σ' H'' => ∃ m', m' < (f2 ++ [x]).length ∧ _, fun σ' H'' h => h, ?_⟩
                refine ⟨_, rfl, 1, rfl, _, rfl, fa', _, rfl, SqL.of ef5, fun l6 hl6 => ?_⟩
                rw [cut_last (by omega)]
                have s6 := Same.new (o := .lst (fy.take (fy.length - 1))) hl6
                have el6 : upd H5 l6 (.lst (fy.take (fy.length - 1))) l6 = some (.lst (fy.take (fy.length - 1))) := upd_same
                have ep6 := s6 _ _ ep5
                have pf6 := pf5.mono s6
                have pp6 := pp5.mono s6
                have gy6 := s6 _ _ gy2
                have s56 := s5.trans s6
                generalize upd H5 l6 (.lst (fy.take (fy.length - 1))) = H6 at *
                refine ⟨_, rfl, 1, rfl, pa', _, _, _, rfl, rfl, SqL.of ep6, at1 pyl gy1, _, rfl, 1, rfl, _, rfl, pa', _, rfl, SqL.of ep6, fun l7 hl7 => ?_⟩
                rw [cut_last (by omega)]
                have s7 := Same.new (o := .lst (py.take (py.length - 1))) hl7
                have el7 : upd H6 l7 (.lst (py.take (py.length - 1))) l7 = some (.lst (py.take (py.length - 1))) := upd_same
                have el6' := s7 _ _ el6
                have pf7 := pf6.mono s7
                have pp7 := pp6.mono s7
                have gy7 := s7 _ _ gy6
                have s57 := s56.trans s7
                generalize upd H6 l7 (.lst (py.take (py.length - 1))) = H7 at *
                have hlz : ([V.ref qy] ++ (py.take (py.length - 1) ++ [])).length ≤ sizeLine := by
                  simp only [List.length_append, List.length_take, List.length_cons, List.length_nil]
                  exact sz5' (by rw [List.length_append, List.length_singleton] at lp'; omega)
                refine ⟨l7, _, rfl, .inr (SqL.of el7), hlz, fun l8 hl8 => ?_⟩
                have s8 := Same.new (o := .lst (V.ref qy :: (py.take (py.length - 1) ++ []))) hl8
                have el8 : upd H7 l8 (.lst (V.ref qy :: (py.take (py.length - 1) ++ []))) l8 = some (.lst ([V.ref qy] ++ py.take (py.length - 1))) := by rw [upd_same, List.append_nil]; rfl
                have ft : (f2 ++ [x]).take (fy.length - 1) = f2 := by rw [fyl, Nat.add_sub_cancel, List.take_left]
                have pt' : (p2' ++ [x]).take (py.length - 1) = p2' := by rw [pyl, Nat.add_sub_cancel, List.take_left]
                have q1 := (pf7.mono s8).take (fy.length - 1)
                rw [ft] at q1
                have q2 := (PrOf.one (s8 _ _ gy7)).append ((pp7.mono s8).take (py.length - 1))
                rw [pt'] at q2
                rw [List.length_append, List.length_singleton] at lp' lf'
                exact ⟨_, _, rfl, f2.length, by simp, l6, l8, f2, [x] ++ p2', v2', rfl, (s4.trans s57).trans s8, ⟨_, s8 _ _ el6', q1⟩, ⟨_, el8, q2⟩, T2.turn, by simp; omega, by omega, rfl⟩
              · rw [decide_eq_false cx]
                refine iteF (fin (.inr ?_) H5 s5)
                rw [List.getLast?_append, List.getLast?_append]
                intro z
                exact cx (Option.some.inj z)
        · have hn : ¬ Ch.Rep p (1 + i) := fun z => c2 (decide_eq_true z.2)
          exact ⟨_, rfl, s02, nope hn⟩
      · have hn : ¬ Ch.Rep p (1 + i) := fun z => c (decide_eq_true z.1)
        exact ⟨_, rfl, s', nope hn⟩
    · rintro σ H' ⟨v2, rfl, s', hno⟩
      exact absurd (Ch.Rep.self hne) (hno p.length hpos (by rw [pp.1]; omega))
end
end K11
end
section
set_option Elab.async false
set_option linter.all false
set_option maxRecDepth 100000
namespace Ch
theorem stg7 {N : Nt} (D : Drawn N) {s : Nat → Nat} (hs : Stg N s) : ∀ v, v < 4 → s v < 7 := fun v _ => Nat.lt_of_lt_of_le (hs v) (D.len7 v)
/-- so many standings at most -/
theorem few {N : Nt} (D : Drawn N) {f : Nat → Nat → Nat} {k : Nat} (hs : ∀ i, i < k → Stg N (f i)) (hd : ∀ i j, i < k → j < k → f i = f j → i = j) : k ≤ 2401 := by
  have nd : ((List.range k).map fun i => code 7 (f i)).Nodup := by
    rw [List.nodup_iff_pairwise_ne, List.pairwise_map]
    refine List.Pairwise.imp_of_mem ?_ (List.nodup_iff_pairwise_ne.mp List.nodup_range)
    intro i j hi hj hne e
    have hi' := List.mem_range.mp hi
    have hj' := List.mem_range.mp hj
    refine hne (hd i j hi' hj' (stg_ext (hs i hi') (hs j hj') fun v hv => ?_))
    exact code_inj (stg7 D (hs i hi')) (stg7 D (hs j hj')) e v (Nat.lt_of_lt_of_le hv D.n4)
  have := K11.nodup_le nd (n := 2401) fun t ht => by
    obtain ⟨i, hi, e⟩ := List.mem_map.mp ht
    rw [← e]
    exact Nat.lt_of_lt_of_le (code_lt (stg7 D (hs i (List.mem_range.mp hi)))) (by decide)
  simpa using this
end Ch
namespace K11
open PySem PySem.Spec PyProof.Rows L2
open C8 (Cal Met Mak)
section
variable {P : Program} {w : World} {K : PySem.W.Frag} {mg : Str → Option Value} {base : Heap}
/-! ### course -/
def tk (n : Nat) (s : Nat → Nat) : List Key := (List.range n).map fun v => Sum.inl ((s v : Nat) : Int)
theorem tk_vals (n : Nat) (s : Nat → Nat) : valsV (dk (List.range n) fun v => .int ((s v : Nat) : Int)) = (tk n s).map kV := by
  rw [valsV_dk]; unfold tk; rw [List.map_map]; rfl
theorem tk_inj {n : Nat} {s s' : Nat → Nat} (h : tk n s = tk n s') : ∀ v, v < n → s v = s' v := fun v hv => by
  have := congrArg (fun l : List Key => l[v]?) h
  simp only [tk, mget _ hv] at this
  have := Sum.inl.inj (Option.some.inj this)
  omega
def seenL (n : Nat) (f : Nat → Nat → Nat) (k : Nat) : List (List Key × V) := (List.range k).map fun i => (tk n (f i), .int (i : Nat))
theorem seen_val (n : Nat) (f : Nat → Nat → Nat) (key : List Key) : ∀ k, (valV (seenL n f k) key = none ∧ ∀ i, i < k → tk n (f i) ≠ key) ∨ ∃ i, i < k ∧ tk n (f i) = key ∧ valV (seenL n f k) key = some (.int (i : Nat))
  | 0 => .inl ⟨rfl, fun i h => absurd h (Nat.not_lt_zero _)⟩
  | k + 1 => by
    have e : seenL n f (k + 1) = seenL n f k ++ [(tk n (f k), .int (k : Nat))] := by unfold seenL; rw [List.range_succ, List.map_append]; rfl
    have ha : ∀ (l : List (List Key × V)) (m : List (List Key × V)), valV (l ++ m) key = (valV l key).or (valV m key) := fun l m => by
      unfold valV
      rw [List.find?_append]
      cases List.find? (fun kv => decide (kv.1 = key)) l <;> rfl
    rw [e, ha]
    rcases seen_val n f key k with ⟨h1, h2⟩ | ⟨i, h1, h2, h3⟩
    · rw [h1]
      by_cases c : tk n (f k) = key
      · refine .inr ⟨k, Nat.lt_succ_self _, c, ?_⟩
        exact valV_pos (p := (tk n (f k), V.int (k : Nat))) c
      · refine .inl ⟨valV_neg (p := (tk n (f k), V.int (k : Nat))) c, fun i hi => ?_⟩
        rcases Nat.lt_or_ge i k with h | h
        · exact h2 i h
        · rw [show i = k by omega]; exact c
    · rw [h3]
      exact .inr ⟨i, by omega, h2, rfl⟩
def sp_course (K : PySem.W.Frag) : Sp := fun vs H Q _ => ∃ (a : Addr) (sv : V) (N : Ch.Nt) (s0 : Nat → Nat), vs = [.ref a, vn 6, sv] ∧ NetAt K H a N ∧ Ch.Drawn N ∧ Ch.EndsN N ∧ ((sv = .non ∧ s0 = fun _ => 0) ∨ ∃ st, sv = .ref st ∧ StdAt H st N.length s0) ∧ Ch.Stg N s0 ∧
  ∀ H' p f per, Same H H' → CrsAt K H' p f per → Ch.Crs (Ch.row N s0) f per → f.length ≤ 3000 → per.length ≤ 3000 → Q (.ref p) H'
theorem sc_course : FnScope ["net", "name", "standing", "found", "at", "now", "seen", "rows", "front", "period"] ["net", "name", "standing"] d_course.scope := ⟨rfl, rfl, rfl, by decide +kernel, rfl, by decide +kernel, by decide +kernel⟩
set_option maxHeartbeats 1000000 in
theorem ok_course (T : Txt K mg) (c_Course_init : Mak P w K mg base 1 "Course" (He.ga K "Course") (sp_Course_init K) []) (c_shortest : Cal P w K mg base 1 "shortest" sp_shortest []) (c_settle : Cal P w K mg base 4 "settle" (sp_settle K) []) (c_check_entry : Cal P w K mg base 1 "check_entry" (sp_check_entry K) []) :
    Cal P w K mg base 5 "course" (sp_course K) [] ∧ Cal P w K mg base 5 "course" (sp_course K) [.non] := by
  refine cal_mk1 d_course 2 T.d_course T.g_course sc_course (fun vs H Q E h => ?_) bd_course1 bd_course0 (fun cdv A outer s H vs Q E hr h => ?_)
  · obtain ⟨_, _, _, _, rfl, _⟩ := h
    rfl
  · have hu := hu_of hr
    obtain ⟨a, sv, N, s0, rfl, hN, D, e, hsv, hs0, k⟩ := h
    refine ⟨_, (pss_cons (ps_set (i := 3) sc_course.nd rfl (Or.inl rfl) (C8.pe_c c_settle hr (by decide) rfl (pa_cons (pv 0) (pa_cons pe_dnewK (pa_cons (pv 2) pa_nil)))))
      (pss_cons (ps_expr (C8.pe_c c_check_entry hr (by decide) rfl (pa_cons (pv 0) (pa_cons (pv 1) pa_nil))))
      (pss_cons (ps_par3 (i := 5) (j := 6) (l := 7) rfl sc_course.nd rfl rfl rfl (by decide) (by decide) (by decide) rfl rfl rfl (pa_cons (pe_fld (pv 3) rfl) (pa_cons pe_dnewT (pa_cons (pe_lst pa_nil) pa_nil))) (by rfl))
      (pss_cons (ps_while PassesOwn.never (pt_cmp (pc_dnotin hu (pe_tupVals rfl (pv 5) (by rfl) T.f_tuple) (pv 6)))
      (pss_cons (ps_if (pt_cmpR op_eq (pe_callB call_len_seq (by rfl) T.f_len (by decide +kernel) (pa_cons (pv 7) pa_nil)) (C8.pe_gc rfl T.i_MOST_BALLS) (nomark _))
        (pss_one ps_never)
        pss_nil)
        (pss_cons (ps_dput hu (pv 6) (pe_tupVals rfl (pv 5) (by rfl) T.f_tuple) (pe_callB call_len_seq (by rfl) T.f_len (by decide +kernel) (pa_cons (pv 7) pa_nil)) rfl)
        (pss_cons (ps_set (i := 3) sc_course.nd rfl (Or.inl rfl) (C8.pe_c c_settle hr (by decide) rfl (pa_cons (pv 0) (pa_cons (pe_disp (pps_cons (pv 1) pe_int pps_nil) (by rfl) (by rfl) (fun z => by cases z) (by decide)) (pa_cons (pv 5) pa_nil)))))
        (pss_cons (ps_expr (pe_bm PySem.F.plainAttrs_list PySem.F.slot_list_append PySem.F.type_list_append mt_append (pv 7) (pa_cons (pe_tupVals rfl (pe_fld (pv 3) rfl) (by rfl) T.f_tuple) pa_nil)))
        (pss_one (ps_set (i := 5) sc_course.nd rfl (Or.inl rfl) (pe_fld (pv 3) rfl))))))))
      (pss_cons (ps_set (i := 4) sc_course.nd rfl (Or.inl rfl) (pe_dget hu (pv 6) (pe_tupVals rfl (pv 5) (by rfl) T.f_tuple) (fun _ _ => rfl)))
      (pss_cons (ps_asg (C8.pe_c c_shortest hr (by decide) rfl (pa_cons (pe_slice sl_list (pv 7) po_none (po_some (pv 4))) (pa_cons (pe_slice sl_list (pv 7) (po_some (pv 4)) po_none) pa_nil))) (pg_tup rfl (pgs_cons (pg_name (i := 8) sc_course.nd rfl (Or.inl rfl)) (pgs_cons (pg_name (i := 9) sc_course.nd rfl (Or.inl rfl)) pgs_nil))))
      (pss_one (ps_ret (C8.pe_mk c_Course_init hr (by decide) rfl (pa_cons (pv 8) (pa_cons (pv 9) pa_nil))))))))))), ?_⟩
    have n1 := D.n1
    have n4 := D.n4
    have C := D.nice e
    have stg : ∀ i, Ch.Stg N (Ch.st N s0 i) := fun i => Ch.stg_st C hs0 i
    obtain ⟨jk, dxn, kd, idd, ot, nl, O⟩ := hN
    have hN' : ∀ {H'}, Same H H' → NetAt K H' a N := fun s => ⟨jk, dxn, kd, idd, ot, nl, O.mono s⟩
    refine ⟨_, rfl, fun d0 hd0 => ?_⟩
    have sd0 := Same.new (o := .dK []) hd0
    have hsv1 : (sv = .non ∧ s0 = fun _ => 0) ∨ ∃ st, sv = .ref st ∧ StdAt (upd H d0 (.dK [])) st N.length s0 := by
      rcases hsv with h | ⟨st, h1, h2⟩
      · exact .inl h
      · exact .inr ⟨st, h1, h2.mono sd0⟩
    refine ⟨_, rfl, a, d0, sv, N, fun _ => 0, s0, rfl, hN' sd0, D, e, .inl ⟨upd_same, rfl⟩, (by decide), hsv1, hs0, fun H1 p1 oa sa s1 S1 => ?_⟩
    have s01 := sd0.trans s1
    refine ⟨_, rfl, _, rfl, a, N, rfl, hN' s01, n4, ?_⟩
    obtain ⟨dx1, t1, l1, ob1⟩ := S1.ob
    have std1 := S1.std
    rw [C.E_zero hs0] at std1
    refine ⟨_, rfl, p1, _, dx1, _, _, rfl, ob1, T.c_Settled, T.n_Settled_standing, rfl, fun sn hsn => ?_⟩
    have s2 := Same.new (o := .dT []) hsn
    have esn : upd H1 sn (.dT []) sn = some (.dT []) := upd_same
    have std2 := std1.mono s2
    have s02 := s01.trans s2
    have hsn0 := s01.free hsn
    generalize upd H1 sn (.dT []) = H2 at *
    refine ⟨(by show 0 ≤ sizeLine; exact Nat.zero_le _), fun rl hrl => ?_⟩
    have s3 := Same.new (o := .lst []) hrl
    have erl : upd H2 rl (.lst []) rl = some (.lst []) := upd_same
    have esn3 := s3 _ _ esn
    have std3 := std2.mono s3
    have s03 := s02.trans s3
    have hrl0 := s02.free hrl
    have nsr : sn ≠ rl := ne_of esn3 erl (by intro z; cases z)
    generalize upd H2 rl (.lst []) = H3 at *
    refine ⟨_, _, _, rfl, ?_⟩
    refine wh (fun m σ H' => ∃ (i : Nat) (nw : Addr) (v3 : Option V) (ys : List V), σ = [some (.ref a), some (vn 6), some sv, v3, none, some (.ref nw), some (.ref sn), some (.ref rl), none, none] ∧ Same H H' ∧ StdAt H' nw N.length (Ch.st N s0 i) ∧ H' sn = some (.dT (seenL N.length (Ch.st N s0) i)) ∧ H' rl = some (.lst ys) ∧ PrOf H' ys ((List.range i).map (Ch.row N s0)) ∧ (∀ x y, x < i → y < i → Ch.st N s0 x = Ch.st N s0 y → x = y) ∧ m = 2402 - i) 2402 ?_ ?_
    · refine ⟨0, sa, _, [], rfl, s03, ?_, esn3, erl, PrOf.nil, fun x y h => absurd h (Nat.not_lt_zero _), rfl⟩
      rw [Ch.st_zero C hs0]; exact std3
    · rintro m σ H' ⟨i, nw, v3, ys, rfl, s', hnw, hsnE, hrlE, hys, hdis, rfl⟩
      have ylen : ys.length = i := by rw [hys.1]; simp
      have hfew : i ≤ 2401 := Ch.few D (fun j _ => stg j) hdis
      refine ⟨_, rfl, nw, _, rfl, hnw, fun tp htp => ?_⟩
      rw [tk_vals]
      have sT := Same.new (o := .tup ((tk N.length (Ch.st N s0 i)).map kV)) htp
      have eT : upd H' tp (.tup ((tk N.length (Ch.st N s0 i)).map kV)) tp = some (.tup ((tk N.length (Ch.st N s0 i)).map kV)) := upd_same
      have s4 := s'.trans sT
      have hnw4 := hnw.mono sT
      have hsn4 := sT _ _ hsnE
      have hrl4 := sT _ _ hrlE
      have hys4 := hys.mono sT
      generalize upd H' tp (.tup ((tk N.length (Ch.st N s0 i)).map kV)) = H4 at *
      refine ⟨_, rfl, sn, _, rfl, .inr ⟨_, tk N.length (Ch.st N s0 i), tp, .of hsn4, rfl, eT, rfl⟩, _, rfl, ?_⟩
      rcases seen_val N.length (Ch.st N s0) (tk N.length (Ch.st N s0 i)) i with ⟨v1, v2⟩ | ⟨j, v1, v2, v4⟩
      · rw [v1]
        refine iteT ⟨fun σ' H'' => ∃ m', m' < 2402 - i ∧ _, fun σ' H'' h => h, ?_⟩
        have hdis' : ∀ x y, x < i + 1 → y < i + 1 → Ch.st N s0 x = Ch.st N s0 y → x = y := fun x y hx hy he => by
          rcases Nat.lt_or_ge x i with h1 | h1
          · rcases Nat.lt_or_ge y i with h2 | h2
            · exact hdis x y h1 h2 he
            · have : y = i := by omega
              subst this
              exact absurd (by rw [he]) (v2 x h1)
          · have hxi : x = i := by omega
            rcases Nat.lt_or_ge y i with h2 | h2
            · subst hxi
              exact absurd (by rw [he]) (v2 y h2)
            · omega
        have hfew' : i + 1 ≤ 2401 := Ch.few D (fun j _ => stg j) hdis'
        refine ⟨_, rfl, rl, _, rfl, .inl (SqL.of hrl4), rfl, _, rfl, ?_⟩
        rw [decide_eq_false (fun z => by have := V.int.inj z; omega)]
        refine iteF ?_
        refine ⟨_, rfl, rl, _, rfl, .inl (SqL.of hrl4), _, rfl, _, rfl, nw, _, rfl, hnw4, fun tp2 htp2 => ?_⟩
        rw [tk_vals]
        have sT2 := Same.new (o := .tup ((tk N.length (Ch.st N s0 i)).map kV)) htp2
        have eT2 : upd H4 tp2 (.tup ((tk N.length (Ch.st N s0 i)).map kV)) tp2 = some (.tup ((tk N.length (Ch.st N s0 i)).map kV)) := upd_same
        have s5 := s4.trans sT2
        have hnw5 := hnw4.mono sT2
        have hsn5 := sT2 _ _ hsn4
        have hrl5 := sT2 _ _ hrl4
        have hys5 := hys4.mono sT2
        generalize upd H4 tp2 (.tup ((tk N.length (Ch.st N s0 i)).map kV)) = H5 at *
        have slen : (seenL N.length (Ch.st N s0) i).length < sizeLine := by unfold seenL; rw [mlen]; exact sz5 (by omega)
        refine ⟨sn, _, rfl, .inr ⟨_, tk N.length (Ch.st N s0 i), tp2, hsn5, rfl, eT2, slen, rfl⟩, ?_⟩
        have eput : putK (seenL N.length (Ch.st N s0) i) (tk N.length (Ch.st N s0 i)) (.int (ys.length : Nat)) = seenL N.length (Ch.st N s0) (i + 1) := by
          rw [putK_new _ v1, ylen]; unfold seenL; rw [List.range_succ, List.map_append]; rfl
        rw [eput]
        have nw_sn : nw ≠ sn := ne_of hnw5 hsn5 (by intro z; cases z)
        have s6 : Same H (upd H5 sn (.dT (seenL N.length (Ch.st N s0) (i + 1)))) := s5.mut hsn0
        have hnw6 : StdAt (upd H5 sn (.dT (seenL N.length (Ch.st N s0) (i + 1)))) nw N.length (Ch.st N s0 i) := (upd_ne nw_sn).trans hnw5
        have hsn6 : upd H5 sn (.dT (seenL N.length (Ch.st N s0) (i + 1))) sn = some (.dT (seenL N.length (Ch.st N s0) (i + 1))) := upd_same
        have hrl6 : upd H5 sn (.dT (seenL N.length (Ch.st N s0) (i + 1))) rl = some (.lst ys) := (upd_ne nsr.symm).trans hrl5
        have hys6 : PrOf (upd H5 sn (.dT (seenL N.length (Ch.st N s0) (i + 1)))) ys ((List.range i).map (Ch.row N s0)) := hys5.tupx fun c xs h => by rw [upd_ne (ne_of h hsn5 (by intro z; cases z))]; exact h
        generalize upd H5 sn (.dT (seenL N.length (Ch.st N s0) (i + 1))) = H6 at *
        refine ⟨_, rfl, fun bd hbd => ⟨_, rfl, upd_same, [(ky 6, .int 1)], rfl, (by decide), ?_⟩⟩
        have s7 : Same H6 (upd (upd H6 bd (.dK [])) bd (.dK (mergeK [] [(ky 6, .int 1)]))) := by rw [upd_upd]; exact Same.new hbd
        have ebd : upd (upd H6 bd (.dK [])) bd (.dK (mergeK [] [(ky 6, .int 1)])) bd = some (.dK (dk [6] fun _ => .int ((1 : Nat) : Int))) := by rw [upd_same]; rfl
        have s07 := s6.trans s7
        have hnw7 := hnw6.mono s7
        have hsn7 := s7 _ _ hsn6
        have hrl7 := s7 _ _ hrl6
        have hys7 := hys6.mono s7
        generalize upd (upd H6 bd (.dK [])) bd (.dK (mergeK [] [(ky 6, .int 1)])) = H7 at *
        refine ⟨_, rfl, a, bd, .ref nw, N, Ch.mu 1 Ch.e1, Ch.st N s0 i, rfl, hN' s07, D, e, .inr ⟨1, ebd, rfl⟩, (by decide), .inr ⟨nw, rfl, hnw7⟩, stg i, fun H8 p8 oa8 sa8 s8 S8 => ?_⟩
        obtain ⟨dx8, t8, l8, ob8⟩ := S8.ob
        have out8 := S8.out
        have std8 := S8.std
        have hsn8 := s8 _ _ hsn7
        have hrl8 := s8 _ _ hrl7
        have hys8 := hys7.mono s8
        have s08 := s07.trans s8
        refine ⟨_, rfl, .inl ⟨rfl, _, SqL.of hrl8⟩, _, rfl, p8, _, dx8, _, _, rfl, ob8, T.c_Settled, T.n_Settled_out, rfl, oa8, _, rfl, out8, fun tq htq => ?_⟩
        rw [valsV_dk]
        have erow : [4, 5].map (fun t => V.int ((Ch.outs N (Ch.st N s0 i) (Ch.mu 1 Ch.e1) t : Nat) : Int)) = prV (Ch.row N s0 i) := by
          rw [Ch.mu_one]; rfl
        rw [erow]
        have s9 := Same.new (o := .tup (prV (Ch.row N s0 i))) htq
        have etq : upd H8 tq (.tup (prV (Ch.row N s0 i))) tq = some (.tup (prV (Ch.row N s0 i))) := upd_same
        have hsn9 := s9 _ _ hsn8
        have hrl9 := s9 _ _ hrl8
        have hys9 := hys8.mono s9
        have ob9 := s9 _ _ ob8
        have std9 := std8.mono s9
        have s09 := s08.trans s9
        generalize upd H8 tq (.tup (prV (Ch.row N s0 i))) = H9 at *
        refine ⟨rl, ys, _, rfl, rfl, hrl9, by rw [ylen]; exact sz5 (by omega), ?_⟩
        have s010 : Same H (upd H9 rl (.lst (ys ++ [.ref tq]))) := s09.mut hrl0
        have tx : ∀ c xs, H9 c = some (.tup xs) → upd H9 rl (.lst (ys ++ [.ref tq])) c = some (.tup xs) := fun c xs h => by rw [upd_ne (ne_of h hrl9 (by intro z; cases z))]; exact h
        have ob10 : upd H9 rl (.lst (ys ++ [.ref tq])) p8 = _ := (upd_ne (ne_of ob9 hrl9 (by intro z; cases z))).trans ob9
        have std10 : StdAt (upd H9 rl (.lst (ys ++ [.ref tq]))) sa8 N.length (Ch.st N s0 (i + 1)) := by
          rw [Ch.st_succ C hs0]
          rw [Ch.mu_one] at std9
          exact (upd_ne (ne_of std9 hrl9 (by intro z; cases z))).trans std9
        have hsn10 : upd H9 rl (.lst (ys ++ [.ref tq])) sn = _ := (upd_ne nsr).trans hsn9
        have hys10 : PrOf (upd H9 rl (.lst (ys ++ [.ref tq]))) (ys ++ [.ref tq]) ((List.range (i + 1)).map (Ch.row N s0)) := by
          rw [List.range_succ, List.map_append]
          exact (hys9.tupx tx).append (PrOf.one (tx _ _ etq))
        have hrl10 : upd H9 rl (.lst (ys ++ [.ref tq])) rl = some (.lst (ys ++ [.ref tq])) := upd_same
        generalize upd H9 rl (.lst (ys ++ [.ref tq])) = H10 at *
        refine ⟨_, rfl, p8, _, dx8, _, _, rfl, ob10, T.c_Settled, T.n_Settled_standing, rfl, ?_⟩
        exact ⟨2402 - (i + 1), by omega, i + 1, sa8, _, _, rfl, s010, std10, hsn10, hrl10, hys10, hdis', rfl⟩
      · rw [v4]
        refine iteF ?_
        have ej : Ch.st N s0 i = Ch.st N s0 j := (Ch.stg_ext (stg j) (stg i) (tk_inj v2)).symm
        have hT : Ch.Tells (Ch.row N s0) (((List.range i).map (Ch.row N s0)).take j) (((List.range i).map (Ch.row N s0)).drop j) := Ch.tells_of v1 fun q hq => Ch.row_per C hs0 (by rw [show j + (i - j) = i by omega]; exact ej) q hq
        refine ⟨_, rfl, _, rfl, nw, _, rfl, hnw4, fun tp2 htp2 => ?_⟩
        rw [tk_vals]
        have sT2 := Same.new (o := .tup ((tk N.length (Ch.st N s0 i)).map kV)) htp2
        have eT2 : upd H4 tp2 (.tup ((tk N.length (Ch.st N s0 i)).map kV)) tp2 = some (.tup ((tk N.length (Ch.st N s0 i)).map kV)) := upd_same
        have s5 := s4.trans sT2
        have hsn5 := sT2 _ _ hsn4
        have hrl5 := sT2 _ _ hrl4
        have hys5 := hys4.mono sT2
        generalize upd H4 tp2 (.tup ((tk N.length (Ch.st N s0 i)).map kV)) = H5 at *
        refine ⟨sn, _, rfl, .inr ⟨_, tk N.length (Ch.st N s0 i), tp2, .of hsn5, rfl, eT2, v4.symm⟩, ?_⟩
        refine ⟨_, rfl, _, rfl, _, rfl, rl, _, rfl, SqL.of hrl5, fun f1 hf1 => ?_⟩
        rw [cut_to (by omega)]
        have s6 := Same.new (o := .lst (ys.take j)) hf1
        have ef1 : upd H5 f1 (.lst (ys.take j)) f1 = some (.lst (ys.take j)) := upd_same
        have hrl6 := s6 _ _ hrl5
        have hys6 := hys5.mono s6
        have s06 := s5.trans s6
        generalize upd H5 f1 (.lst (ys.take j)) = H6 at *
        refine ⟨_, rfl, _, rfl, _, rfl, rl, _, rfl, SqL.of hrl6, fun f2 hf2 => ?_⟩
        rw [cut_from (by omega)]
        have s7 := Same.new (o := .lst (ys.drop j)) hf2
        have ef2 : upd H6 f2 (.lst (ys.drop j)) f2 = some (.lst (ys.drop j)) := upd_same
        have ef17 := s7 _ _ ef1
        have hys7 := hys6.mono s7
        have s07 := s06.trans s7
        generalize upd H6 f2 (.lst (ys.drop j)) = H7 at *
        refine ⟨f1, f2, _, _, Ch.row N s0, rfl, ⟨_, ef17, hys7.take j⟩, ⟨_, ef2, hys7.drop j⟩, hT, ?_, ?_, fun H8 t fa' pa' f' p' s8 et hfa hpa CC lf lp => ?_⟩
        · rw [List.length_take]; simp; omega
        · rw [List.length_drop]; simp; omega
        refine ⟨t, _, rfl, SqT.of et, rfl, _, _, rfl, _, _, rfl, rfl, ?_⟩
        refine ⟨_, rfl, _, rfl, fun x dx hx hdx hne => ?_⟩
        have m0 := made0 (C := He.ga K "Course") (u := .own x) hx hdx
        exact ⟨x, dx, fa', pa', f', p', rfl, upd_same, hfa.mono m0, hpa.mono m0, by omega, by omega, fun H9 sx cc => ⟨rfl, k H9 x f' p' ((s07.trans s8).trans (made (K := K) hx hdx hne sx)) cc CC lf lp⟩⟩
end
end K11
end
section
set_option Elab.async false
set_option linter.all false
set_option maxRecDepth 100000
/-! R7: zip of a list and a tuple. -/
namespace K11
open PySem PySem.Spec PyProof.Rows L2
open C8 (Cal Met Mak)
abbrev zmH1 (h : Heap) (l1 : Addr) : Heap := h.push { cls := .type "list_iterator", data := .fields #[.ref l1, .int 0 0] }
abbrev zmH2 (h : Heap) (l1 l2 : Addr) : Heap := (zmH1 h l1).push { cls := .type "tuple_iterator", data := .fields #[.ref l2, .int 0 0] }
abbrev zmH3 (h : Heap) (l1 l2 : Addr) : Heap := (zmH2 h l1 l2).push { cls := .type "tuple", data := .seq #[.ref h.objs.size, .ref (zmH1 h l1).objs.size] }
abbrev zmH4 (h : Heap) (l1 l2 : Addr) : Heap := (zmH3 h l1 l2).push { cls := .type "tuple", data := .seq #[.none, .none] }
abbrev zmH5 (h : Heap) (l1 l2 : Addr) : Heap := (zmH4 h l1 l2).push { cls := .type "zip", data := .fields #[.none, .bool false, .bool false, .ref (zmH2 h l1 l2).objs.size, .ref (zmH3 h l1 l2).objs.size] }
theorem meets_zipM_new (l1 l2 : Addr) (xs ys : Array Value) :
    Meets (Builtin.«zip.__new__» ⟨[.type "zip", .ref l1, .ref l2], []⟩) (fun _ R s => s.heap.IsList l1 xs ∧ s.heap.IsTuple l2 ys ∧
      R (.ok (.ret (.ref (zmH4 s.heap l1 l2).objs.size))) { s with heap := zmH5 s.heap l1 l2 }) :=
  .of_wp fun prog w A R s h => by
    obtain ⟨hp, g, d, tk, os⟩ := s; obtain ⟨hl1, hl2, h⟩ := h
    have hsub := sub_zip
    have hL1 : Heap.IsList (Shared.heap ⟨hp, g, d, tk, os⟩) l1 xs := hl1
    have hL2 : Heap.IsTuple (Shared.heap ⟨hp.push { cls := .type "list_iterator", data := .fields #[.ref l1, .int 0 0] }, g, d, tk, os⟩) l2 ys := Heap.IsTuple.push hl2 _
    wp_walk using wpAny_pyIter_list hL1, wpAny_pyIter_tuple hL2
    exact ⟨_, rfl, h⟩
section
variable {prog : Program} {w : World} {A : Around} {E : Value → Shared → Prop} {s : Shared}
theorem call_zipM {l1 l2 : Addr} {xs ys : Array Value} {Q : Value → Shared → Prop} (hl1 : s.heap.IsList l1 xs) (hl2 : s.heap.IsTuple l2 ys)
    (h : ∀ h', IsZip h' (s.heap.objs.size + 4) (s.heap.objs.size + 2) (s.heap.objs.size + 3) .none → IsPair h' (s.heap.objs.size + 2) (.ref s.heap.objs.size) (.ref (s.heap.objs.size + 1)) →
      IsPair h' (s.heap.objs.size + 3) .none .none → h'.IsListIter s.heap.objs.size l1 0 → h'.IsTupleIter (s.heap.objs.size + 1) l2 0 → h'.objs.size = s.heap.objs.size + 5 →
      (∀ c o, s.heap.get? c = some o → h'.get? c = some o) → Q (.ref (s.heap.objs.size + 4)) { s with heap := h' }) :
    wpAny (model prog w) A (call (.type "zip") [.ref l1, .ref l2]) Q E s := by
  refine callType_new F.called_zip (by decide) (F.typeCall_zip_2 _ _) (F.newCall_zip_2 _ _) (fun obj => F.args_object_init_3 obj _ _) F.entry_zip_new
    (meets_zipM_new l1 l2 xs ys) ⟨hl1, hl2, ?_⟩
  have z1 : (zmH1 s.heap l1).objs.size = s.heap.objs.size + 1 := Heap.size_push ..
  have z2 : (zmH2 s.heap l1 l2).objs.size = s.heap.objs.size + 2 := by rw [Heap.size_push, z1]
  have z3 : (zmH3 s.heap l1 l2).objs.size = s.heap.objs.size + 3 := by rw [Heap.size_push, z2]
  have z4 : (zmH4 s.heap l1 l2).objs.size = s.heap.objs.size + 4 := by rw [Heap.size_push, z3]
  have z5 : (zmH5 s.heap l1 l2).objs.size = s.heap.objs.size + 5 := by rw [Heap.size_push, z4]
  have g5 : (zmH5 s.heap l1 l2).get? (zmH4 s.heap l1 l2).objs.size = some _ := Heap.get?_push_size _ rfl
  have g4 : (zmH5 s.heap l1 l2).get? (zmH3 s.heap l1 l2).objs.size = some _ := Heap.get?_push_of_some _ (Heap.get?_push_size _ rfl)
  have g3 : (zmH5 s.heap l1 l2).get? (zmH2 s.heap l1 l2).objs.size = some _ := Heap.get?_push_of_some _ (Heap.get?_push_of_some _ (Heap.get?_push_size _ rfl))
  have g2 : (zmH5 s.heap l1 l2).get? (zmH1 s.heap l1).objs.size = some _ := Heap.get?_push_of_some _ (Heap.get?_push_of_some _ (Heap.get?_push_of_some _ (Heap.get?_push_size _ rfl)))
  have g1 : (zmH5 s.heap l1 l2).get? s.heap.objs.size = some _ := Heap.get?_push_of_some _ (Heap.get?_push_of_some _ (Heap.get?_push_of_some _ (Heap.get?_push_of_some _ (Heap.get?_push_size _ rfl))))
  show _ ∧ _
  rw [z2, z3, z4] at g5
  rw [z1, z2] at g3
  rw [z3] at g4
  rw [z1] at g2
  rw [z4]
  exact ⟨⟨_, g5, rfl⟩, h _ g5 g3 g4 ⟨_, g1, rfl, rfl⟩ ⟨_, g2, rfl, rfl⟩ z5 fun c o x =>
    Heap.get?_push_of_some _ (Heap.get?_push_of_some _ (Heap.get?_push_of_some _ (Heap.get?_push_of_some _ (Heap.get?_push_of_some _ x))))⟩
end
/-- the list at a, the tuple at b, the items in new pairs -/
def ItzM (K : PySem.W.Frag) (a b : Addr) : It :=
  ⟨fun i H => ∃ (xs ys : List V) (x y : V), SqL K H a xs ∧ SqT K H b ys ∧ xs[i]? = some x ∧ ys[i]? = some y,
    fun i H v H' => ∃ T x y, v = .ref T ∧ H T = none ∧ H' = upd H T (.tup [x, y]) ∧ (∀ xs, SqL K H a xs → xs[i]? = some x) ∧ ∀ ys, SqT K H b ys → ys[i]? = some y,
    fun i H => ∃ xs ys : List V, SqL K H a xs ∧ SqT K H b ys ∧ i ≤ xs.length ∧ i ≤ ys.length ∧ (xs.length = i ∨ ys.length = i)⟩
theorem turn_zipM {P : Program} {w : World} {K : PySem.W.Frag} {elts : List Expr} {kk : Nat} {tpos : Pos} {a b z TI TO i1 i2 : Addr} (D : ZipSep2 z TI TO i1 i2 [i1, a] [i2, b]) :
    Turn P w K (.Tuple elts kk tpos) (ItzM K a b) [z, TI, TO, i1, i2] z (fun i h => IsZip h z TI TO .none ∧ IsTupOf2 h TI (.ref i1) (.ref i2) ∧ (∃ x y, IsTupOf2 h TO x y) ∧ h.IsListIter i1 a i ∧ h.IsTupleIter i2 b i) where
  mem := by simp
  obj := fun i h st c hc => by
    obtain ⟨hz, hTI, ⟨x, y, hTO⟩, ⟨o1, e1, _, d1⟩, ⟨o2, e2, _, d2⟩⟩ := st
    have e' : c = z ∨ c = TI ∨ c = TO ∨ c = i1 ∨ c = i2 := by simpa using hc
    rcases e' with q | q | q | q | q
    · rw [q]; exact ⟨_, hz, fun v q => nomatch q⟩
    · rw [q]; exact ⟨_, hTI, fun v q => nomatch q⟩
    · rw [q]; exact ⟨_, hTO, fun v q => nomatch q⟩
    · rw [q]; exact ⟨o1, e1, fun v q => by rw [d1] at q; cases q⟩
    · rw [q]; exact ⟨o2, e2, fun v q => by rw [d2] at q; cases q⟩
  keep := fun i h h' st k => by
    obtain ⟨hz, hTI, ⟨x, y, hTO⟩, h1, h2⟩ := st
    exact ⟨k z (by simp) _ hz, k TI (by simp) _ hTI, ⟨x, y, k TO (by simp) _ hTO⟩, h1.at fun o q => k i1 (by simp) o q, h2.at fun o q => k i2 (by simp) o q⟩
  item := by
    intro X hP hw hK hc i pins s σ H E I hf st hg
    subst hP hw hK
    obtain ⟨hz, hTI, ⟨x0, y0, hTO⟩, h1, h2⟩ := st
    obtain ⟨xs, ys, x, y, hqx, hqy, hx, hy⟩ := hg
    obtain ⟨its, rv, p, _⟩ := I.list hqx
    obtain ⟨its2, rv2, p2, _⟩ := I.tuple hqy
    obtain ⟨u, hu, ru⟩ := rv.get hx
    obtain ⟨u2, hu2, ru2⟩ := rv2.get hy
    have hzl : z < s.heap.objs.size := Heap.lt_size hz
    have hh : X.A.in1.handled = Option.none := I.ok.hd hc
    have a1 : a ≠ i1 := fun q => by
      obtain ⟨o, ho, hc1, _⟩ := p.isList
      obtain ⟨o2, ho2, hc2, _⟩ := h1
      rw [q] at ho; rw [ho] at ho2; cases ho2
      rw [hc1] at hc2; injection hc2 with hc2; exact absurd hc2 (by decide)
    have b2 : b ≠ i2 := fun q => by
      obtain ⟨o, ho, hc1, _⟩ := (show s.heap.IsTuple b its2.toArray from p2)
      obtain ⟨o2, ho2, hc2, _⟩ := h2
      rw [q] at ho; rw [ho] at ho2; cases ho2
      rw [hc1] at hc2; injection hc2 with hc2; exact absurd hc2 (by decide)
    refine wpAny_pyNext_zipD2_item (A := X.A) D (Draws.list hh i1 a a1 its.toArray) (Draws.tuple hh i2 b b2 its2.toArray) hz hTI hTO ⟨h1, p.isList⟩ ⟨h2, p2⟩ (by have := (List.getElem?_eq_some_iff.mp hu).1; simpa using this) (by have := (List.getElem?_eq_some_iff.mp hu2).1; simpa using this) fun u' u2' h' tk e1 e2 z' TO' h1' h2' hT hsz hk => ?_
    have eu : u' = u := by
      have : its[i]? = some u' := by simpa using e1
      rw [hu] at this; exact (Option.some.inj this).symm
    have eu2 : u2' = u2 := by
      have : its2[i]? = some u2' := by simpa using e2
      rw [hu2] at this; exact (Option.some.inj this).symm
    subst eu eu2
    refine ⟨_, rfl, wpAny_letOwnedTupleGo_zip (s := { s with heap := h', toks := tk }) z' fun h'' z'' sb => ?_⟩
    have hT2 : h''.get? s.heap.objs.size = some { cls := .type "tuple", data := .seq #[u', u2'] } := (sb.2 _ (Nat.ne_of_gt hzl)).trans hT
    have new : ObjOk X.prog X.w (upd H s.heap.objs.size (.tup [x, y])) h'' s.heap.objs.size (.tup [x, y]) :=
      ⟨by show 2 ≤ sizeLine; decide, [u', u2'], .cons ru (.cons ru2 .nil), ⟨_, hT2, rfl, _, rfl⟩⟩
    have I1 : Inv X pins σ (upd H s.heap.objs.size (.tup [x, y])) { s with heap := h'', toks := tk } :=
      I.turnedNew (t' := tk) (ch := [z, TI, TO, i1, i2]) (fun c o hb q => (sb.2 c (fun q' => hb (by simp [q']))).trans (hk c o (fun q' => hb (by simp [q'])) (fun q' => hb (by simp [q'])) (fun q' => hb (by simp [q'])) (fun q' => hb (by simp [q'])) q)) hf (Nat.le_refl _) new
    refine ⟨.ref s.heap.objs.size, _, I1, rfl, ⟨_, x, y, rfl, I.hok.fresh (Nat.le_refl _), rfl, fun l hl => by rw [I.list_inj hl hqx]; exact hx, fun l hl => by rw [I.tuple_inj hl hqy]; exact hy⟩, ⟨z'', ?_, ⟨u', u2', ?_⟩, ?_, ?_⟩, fun c hcm => ?_⟩
    · exact (sb.2 _ D.TIz).trans (hk _ _ D.TIz D.TITO D.TIi1 D.TIi2 hTI)
    · exact (sb.2 _ D.TOz).trans TO'
    · exact h1'.1.at fun o q => (sb.2 _ (D.zi1).symm).trans q
    · exact h2'.1.at fun o q => (sb.2 _ (D.zi2).symm).trans q
    · have hlt : c < s.heap.objs.size := by
        have e' : c = z ∨ c = TI ∨ c = TO ∨ c = i1 ∨ c = i2 := by simpa using hcm
        rcases e' with q | q | q | q | q
        · rw [q]; exact hzl
        · rw [q]; exact Heap.lt_size hTI
        · rw [q]; exact Heap.lt_size hTO
        · rw [q]; obtain ⟨_, e1, _⟩ := h1; exact Heap.lt_size e1
        · rw [q]; obtain ⟨_, e2, _⟩ := h2; exact Heap.lt_size e2
      rw [upd_ne (Nat.ne_of_lt hlt)]
      exact (hf c hcm).1
  done := by
    intro X hP hw hK hc i pins s σ H E I hf st hg
    subst hP hw hK
    obtain ⟨hz, hTI, ⟨x0, y0, hTO⟩, h1, h2⟩ := st
    obtain ⟨xs, ys, hqx, hqy, l1, l2, hend⟩ := hg
    obtain ⟨its, rv, p, _⟩ := I.list hqx
    obtain ⟨its2, rv2, p2, _⟩ := I.tuple hqy
    have r1 := rv.length
    have r2 := rv2.length
    have hh : X.A.in1.handled = Option.none := I.ok.hd hc
    have a1 : a ≠ i1 := fun q => by
      obtain ⟨o, ho, hc1, _⟩ := p.isList
      obtain ⟨o2, ho2, hc2, _⟩ := h1
      rw [q] at ho; rw [ho] at ho2; cases ho2
      rw [hc1] at hc2; injection hc2 with hc2; exact absurd hc2 (by decide)
    have b2 : b ≠ i2 := fun q => by
      obtain ⟨o, ho, hc1, _⟩ := (show s.heap.IsTuple b its2.toArray from p2)
      obtain ⟨o2, ho2, hc2, _⟩ := h2
      rw [q] at ho; rw [ho] at ho2; cases ho2
      rw [hc1] at hc2; injection hc2 with hc2; exact absurd hc2 (by decide)
    refine wpAny_pyNext_zipD2_end (A := X.A) D (Draws.list hh i1 a a1 its.toArray) (Draws.tuple hh i2 b b2 its2.toArray) hz hTI hTO ⟨h1, p.isList⟩ ⟨h2, p2⟩ (by rw [List.size_toArray]; omega) (by rw [List.size_toArray]; omega) (by rw [List.size_toArray, List.size_toArray]; omega) fun h' tk hk => ⟨rfl, I.turnedL (t' := tk) (ch := [z, TI, TO, i1, i2]) (fun c o hb q =>
      hk c o (fun q' => hb (by simp [q'])) (fun q' => hb (by simp [q'])) (fun q' => hb (by simp [q'])) (fun q' => hb (by simp [q'])) q) hf⟩
  self := fun A i s Q E st h => wpAny_pyIter_zip st.1 h
theorem sep_ok (n a b : Nat) (la : a < n) (lb : b < n) : ZipSep2 (n + 4) (n + 2) (n + 3) n (n + 1) [n, a] [n + 1, b] where
  TIz := show ¬ (n + 2 = n + 4) by omega
  TOz := show ¬ (n + 3 = n + 4) by omega
  TITO := show ¬ (n + 2 = n + 3) by omega
  TIi1 := show ¬ (n + 2 = n) by omega
  mem1 := List.mem_cons_self ..
  zf1 := fun h => by rcases List.mem_cons.mp h with h | h; exact absurd h (show ¬ (n + 4 = n) by omega); exact absurd (List.mem_singleton.mp h) (show ¬ (n + 4 = a) by omega)
  Tf1 := fun h => by rcases List.mem_cons.mp h with h | h; exact absurd h (show ¬ (n + 3 = n) by omega); exact absurd (List.mem_singleton.mp h) (show ¬ (n + 3 = a) by omega)
  TIi2 := show ¬ (n + 2 = n + 1) by omega
  mem2 := List.mem_cons_self ..
  zf2 := fun h => by rcases List.mem_cons.mp h with h | h; exact absurd h (show ¬ (n + 4 = n + 1) by omega); exact absurd (List.mem_singleton.mp h) (show ¬ (n + 4 = b) by omega)
  Tf2 := fun h => by rcases List.mem_cons.mp h with h | h; exact absurd h (show ¬ (n + 3 = n + 1) by omega); exact absurd (List.mem_singleton.mp h) (show ¬ (n + 3 = b) by omega)
  sep1_2 := fun h => by rcases List.mem_cons.mp h with h | h; exact absurd h (show ¬ (n = n + 1) by omega); exact absurd (List.mem_singleton.mp h) (show ¬ (n = b) by omega)
  sep2_1 := fun h => by rcases List.mem_cons.mp h with h | h; exact absurd h (show ¬ (n + 1 = n) by omega); exact absurd (List.mem_singleton.mp h) (show ¬ (n + 1 = a) by omega)
def iZipM (K : PySem.W.Frag) (ta : TA) : TI := fun σ H R => ta σ H fun vs H1 => ∃ a b xs ys, vs = [.ref a, .ref b] ∧ SqL K H1 a xs ∧ SqT K H1 b ys ∧ R (ItzM K a b) H1
theorem pi_zipM {X : Cx} {e e2 : Expr} {ta : TA} {p pos tpos : Pos} {elts : List Expr} {kk : Nat} (hg : Gl X "zip") (hm : X.mg "zip" = none) (ha : PA X [e, e2] ta)
    (hs : starEach [e, e2] X.env = (false, eval e X.env) :: starEach [e2] X.env := by rfl) (hpl : (backTo pos (starEach [e2] X.env)).any (·.1) = false := by rfl) :
    PI X (.Tuple elts kk tpos) (.Call (.Name "zip" p) [e, e2] [] pos) (iZipM X.K ta) := by
  refine ⟨fun pins s σ H R I h => ?_⟩
  refine Call_ (ld_blt I hg hm PyProof.Rows.boot_zip (PyProof.Rows.callWith_type1 (thn (ha.run pos pins s σ H _ I h) fun us s1 ⟨vs, H1, I1, r1, q1⟩ => ?_) hs hpl))
  obtain ⟨a, b, xs, ys, ex, hqx, hqy, q⟩ := q1
  subst ex
  cases r1 with
  | cons r rr =>
    cases rr with
    | cons r' rr =>
      cases rr
      cases r
      cases r'
      have fresh5 : ∀ c, c ∈ [s1.heap.objs.size + 4, s1.heap.objs.size + 2, s1.heap.objs.size + 3, s1.heap.objs.size, s1.heap.objs.size + 1] → FpOk X pins H1 c := fun c hcm => by
        have e' : c = s1.heap.objs.size + 4 ∨ c = s1.heap.objs.size + 2 ∨ c = s1.heap.objs.size + 3 ∨ c = s1.heap.objs.size ∨ c = s1.heap.objs.size + 1 := by simpa using hcm
        have hle : s1.heap.objs.size ≤ c := by
          rcases e' with z | z | z | z | z
          · rw [z]; exact Nat.le_add_right _ _
          · rw [z]; exact Nat.le_add_right _ _
          · rw [z]; exact Nat.le_add_right _ _
          · rw [z]; exact Nat.le_refl _
          · rw [z]; exact Nat.le_add_right _ _
        exact I1.fpOk hle (I1.hok.fresh hle)
      obtain ⟨its, rv, p1, _⟩ := I1.list hqx
      obtain ⟨its2, rv2, p2, _⟩ := I1.tuple hqy
      obtain ⟨o2, ho2, _⟩ := id p2
      have la : a < s1.heap.objs.size := p1.lt
      have lb : b < s1.heap.objs.size := Heap.lt_size ho2
      refine call_zipM p1.isList (show s1.heap.IsTuple b its2.toArray from p2) fun h' hz hTI hTO h1 h2 hsz hk => wpAny_pyIter_zip hz ?_
      have I2 : Inv X pins σ H1 { s1 with heap := h' } := I1.kept (t' := s1.toks) hk
      have S : ZipSep2 (s1.heap.objs.size + 4) (s1.heap.objs.size + 2) (s1.heap.objs.size + 3) s1.heap.objs.size (s1.heap.objs.size + 1) [s1.heap.objs.size, a] [s1.heap.objs.size + 1, b] := by
        exact sep_ok _ _ _ la lb
      exact ⟨s1.heap.objs.size + 4, [s1.heap.objs.size + 4, s1.heap.objs.size + 2, s1.heap.objs.size + 3, s1.heap.objs.size, s1.heap.objs.size + 1], _, _, H1, rfl, I2, turn_zipM S, ⟨hz, hTI, ⟨_, _, hTO⟩, h1, h2⟩, fresh5, q⟩
theorem walk_zipM {K : PySem.W.Frag} {a b : Addr} {xs ys : List V} {n : Nat} (hx : n = xs.length) (hy : n = ys.length) : Walk (ItzM K a b) n (fun H => SqL K H a xs ∧ SqT K H b ys) (YPair (fun i => xs[i]?) (fun i => ys[i]?)) := by
  refine ⟨fun i _ hi q => ?_, fun _ q => ⟨xs, ys, q.1, q.2, by omega, by omega, by omega⟩, fun i H v H' _ q y => ?_⟩
  · have h1 : i < xs.length := by omega
    have h2 : i < ys.length := by omega
    exact ⟨xs, ys, xs[i], ys[i], q.1, q.2, by simp [h1], by simp [h2]⟩
  · obtain ⟨T, x, z, h1, h2, h3, h4, h5⟩ := y
    exact ⟨T, x, z, h1, h2, h3, h4 xs q.1, h5 ys q.2⟩
end K11
end
section
set_option Elab.async false
set_option linter.all false
set_option maxRecDepth 100000
namespace K11
open PySem PySem.Spec PyProof.Rows L2
open C8 (Cal Met Mak)
section
variable {P : Program} {w : World} {K : PySem.W.Frag} {mg : Str → Option Value} {base : Heap}
/-! ### Course.total -/
def big (x : Nat × Nat) : Prop := x.1 < 2 ^ 60 ∧ x.2 < 2 ^ 60
def prI (x y : Nat) : List V := [.int (x : Nat), .int (y : Nat)]
def sp_Course_total (K : PySem.W.Frag) : Sp := fun vs H Q _ => ∃ (c : Addr) (many : Nat) (f per : List (Nat × Nat)) (r : Nat → Nat × Nat), vs = [.ref c, .int (many : Nat)] ∧ CrsAt K H c f per ∧ Ch.Tells r f per ∧ f.length ≤ 3000 ∧ per.length ≤ 3000 ∧ (∀ x ∈ f ++ per, big x) ∧ many < 2 ^ 200 ∧
  ∀ H' t, Same H H' → H' t = some (.tup (prI (Ch.sumTo many fun k => (r k).1) (Ch.sumTo many fun k => (r k).2))) → Q (.ref t) H'
theorem sc_Course_total : FnScope ["self", "many", "found", "rest", "whole", "last", "at", "row", "times", "one", "more"] ["self", "many"] d_Course_total.scope := ⟨rfl, rfl, rfl, by decide +kernel, rfl, by decide +kernel, by decide +kernel⟩
set_option maxHeartbeats 1000000 in
theorem ok_Course_total (T : Txt K mg)  : Met P w K mg base 1 (He.ga K "Course") "total" (sp_Course_total K) [] := by
  refine met_mk d_Course_total T.d_Course_total T.c_Course T.t_Course_total sc_Course_total (fun vs H Q E h => ?_) (fun _ _ _ _ _ _ us hl => match us, hl with | [_, _], _ => rfl) (fun cdv A outer s H vs Q E hr h => ?_)
  · obtain ⟨_, _, _, _, _, rfl, _⟩ := h
    rfl
  · have hu := hu_of hr
    obtain ⟨c, many, f, per, r, rfl, ⟨dx, fa, pa, ob, ⟨fy, ef, pf⟩, ⟨py, ep, pp⟩⟩, ht, lf, lp, hbig, hmany, k⟩ := h
    refine ⟨_, (pss_cons (ps_set (i := 2) sc_Course_total.nd rfl (Or.inl rfl) (pe_op op_rep (pe_lst (pa_cons pe_int pa_nil)) (pe_callB call_len_seq (by rfl) T.f_len (by decide +kernel) (pa_cons (pe_ix ix_list (pe_fld (pv 0) rfl) pe_int (fun _ _ => rfl)) pa_nil))))
      (pss_cons (ps_set (i := 3) sc_Course_total.nd rfl (Or.inl rfl) (pe_callB (call_max2 rfl) (by rfl) T.f_max (by decide +kernel) (pa_cons pe_int (pa_cons (pe_op op_sub (pv 1) (pe_callB call_len_seq (by rfl) T.f_len (by decide +kernel) (pa_cons (pe_fld (pv 0) rfl) pa_nil))) pa_nil))))
      (pss_cons (ps_par (i := 4) (j := 5) rfl sc_Course_total.nd rfl rfl (by decide) rfl rfl (pa_cons (pe_op op_fdivW (pv 3) (pe_callB call_len_seq (by rfl) T.f_len (by decide +kernel) (pa_cons (pe_fld (pv 0) rfl) pa_nil))) (pa_cons (pe_op op_mod (pv 3) (pe_callB call_len_seq (by rfl) T.f_len (by decide +kernel) (pa_cons (pe_fld (pv 0) rfl) pa_nil))) pa_nil)) (by rfl))
      (pss_cons (ps_for PassesOwn.never rfl (pi_enum rfl T.f_enumerate (pa_cons (pe_lst (StX.pa_star (pe_slice sl_list (pe_fld (pv 0) rfl) po_none (po_some (pv 1))) (StX.pa_star (pe_fld (pv 0) rfl) pa_nil))) pa_nil)) (pg_tup rfl (pgs_cons (pg_name (i := 6) sc_Course_total.nd rfl (Or.inl rfl)) (pgs_cons (pg_name (i := 7) sc_Course_total.nd rfl (Or.inl rfl)) pgs_nil)))
      (pss_cons (ps_set (i := 8) sc_Course_total.nd rfl (Or.inr rfl) pe_int)
        (pss_cons (ps_if (pt_cmpR op_ge (pv 6) (pe_callB call_len_seq (by rfl) T.f_len (by decide +kernel) (pa_cons (pe_slice sl_list (pe_fld (pv 0) rfl) po_none (po_some (pv 1))) pa_nil)) (nomark _))
        (pss_one (ps_set (i := 8) sc_Course_total.nd rfl (Or.inr rfl) (pe_op op_add (pv 4) (pe_ifExp (pt_cmpR op_lt (pe_op op_sub (pv 6) (pe_callB call_len_seq (by rfl) T.f_len (by decide +kernel) (pa_cons (pe_slice sl_list (pe_fld (pv 0) rfl) po_none (po_some (pv 1))) pa_nil))) (pv 5) (nomark _)) pe_int pe_int))))
        pss_nil)
        (pss_one (ps_setLc (i := 2) (g := gTup K 2 (gCons (gName 9) (gCons (gName 10) gNil))) (own := [("one", 9), ("more", 10)]) (by rfl) sc_Course_total.nd rfl rfl (sw_true rfl rfl rfl (by decide +kernel)) (pi_zipM rfl T.f_zip (pa_cons (pv 2) (pa_cons (pv 7) pa_nil))) (blkOk_by (own := [("one", 9), ("more", 10)]) (by rfl)) (fun _ _ _ _ _ => (pg_tup rfl (pgs_cons (pg_name (i := 9) sc_Course_total.nd rfl (Or.inl rfl)) (pgs_cons (pg_name (i := 10) sc_Course_total.nd rfl (Or.inl rfl)) pgs_nil)))) (fun _ _ _ _ _ => pts_nil) (fun _ _ _ _ _ => (pe_op op_add (pv 9) (pe_op op_mulW (pv 8) (pv 10)))))))))
      (pss_one (ps_ret (pe_callTy call_tuple_of (by rfl) T.f_tuple (by decide +kernel) (pa_cons (pv 2) pa_nil)))))))), ?_⟩
    have hp0 := ht.pos
    have fl := pf.1
    have pl := pp.1
    obtain ⟨x0, hx0⟩ : ∃ x, per[0]? = some x := ⟨_, List.getElem?_eq_getElem hp0⟩
    obtain ⟨q0, g0, t0⟩ := pp.2 0 _ hx0
    -- found
    refine ⟨(by show 1 ≤ sizeLine; decide), fun z hz => ?_⟩
    have s1 := Same.new (o := .lst [.int 0]) hz
    have ez : upd H z (.lst [.int 0]) z = some (.lst [.int 0]) := upd_same
    generalize upd H z (.lst [.int 0]) = H1 at *
    have ob1 := s1 _ _ ob
    refine ⟨_, rfl, c, _, dx, _, _, rfl, ob1, T.c_Course, T.n_Course_period, rfl, pa, _, _, _, rfl, rfl, SqL.of (s1 _ _ ep), atI_nat (j := 0) g0, q0, _, rfl, .inr (SqT.of (s1 _ _ t0)), ?_⟩
    refine ⟨z, 2, _, rfl, rfl, ez, by decide, by decide, (by show 1 * 2 ≤ sizeLine; decide), fun l0 hl0 => ?_⟩
    have s2 := s1.trans (Same.new (o := .lst (List.replicate (2 : Int).toNat [V.int 0]).flatten) hl0)
    have el0 : upd H1 l0 (.lst (List.replicate (2 : Int).toNat [V.int 0]).flatten) l0 = some (.lst (prI 0 0)) := upd_same
    generalize upd H1 l0 (.lst (List.replicate (2 : Int).toNat [V.int 0]).flatten) = H2 at *
    have ob2 := s2 _ _ ob
    have ef2 := s2 _ _ ef
    have ep2 := s2 _ _ ep
    -- rest, whole, last
    refine ⟨_, rfl, _, rfl, c, _, dx, _, _, rfl, ob2, T.c_Course, T.n_Course_front, rfl, fa, _, rfl, .inl (SqL.of ef2), _, _, rfl, rfl, _, _, rfl, ?_⟩
    have hrest : (if ((many : Nat) : Int) - (fy.length : Nat) > 0 then ((many : Nat) : Int) - (fy.length : Nat) else 0) = ((many - f.length : Nat) : Int) := by
      rw [fl]; split <;> omega
    rw [hrest]
    have cw : ∀ z, CDivW z ((py.length : Nat) : Int) := fun z => wide_div (b := 20) (by omega) (by omega) (by decide) (by decide)
    refine ⟨_, rfl, _, rfl, c, _, dx, _, _, rfl, ob2, T.c_Course, T.n_Course_period, rfl, pa, _, rfl, .inl (SqL.of ep2), _, _, rfl, rfl, cw _, _, rfl, _, rfl, c, _, dx, _, _, rfl, ob2, T.c_Course, T.n_Course_period, rfl, pa, _, rfl, .inl (SqL.of ep2), _, _, rfl, rfl, (by show (0 : Int) < ((py.length : Nat) : Int); omega), _, _, rfl, ?_⟩
    have hwh : ((many - f.length : Nat) : Int) / ((py.length : Nat) : Int) = (((many - f.length) / per.length : Nat) : Int) := by rw [pl]; exact (Int.natCast_ediv _ _).symm
    have hla : ((many - f.length : Nat) : Int) % ((py.length : Nat) : Int) = (((many - f.length) % per.length : Nat) : Int) := by rw [pl]; exact (Int.natCast_emod _ _).symm
    -- the list that is gone through
    let lm := min many f.length
    have cutT : cutV fy none (some (many : Nat)) = fy.take many := by
      by_cases cm : many ≤ fy.length
      · exact cut_to cm
      · unfold cutV
        have h2 : HT.sIx fy.length fy.length (some ((many : Nat) : Int)) = min many fy.length := HT.sIx_nat _ _ _
        rw [h2, Nat.min_eq_right (by omega), List.take_of_length_le (l := fy) (by omega)]
        simp [HT.sIx]
    refine ⟨_, rfl, c, _, dx, _, _, rfl, ob2, T.c_Course, T.n_Course_front, rfl, _, rfl, _, rfl, fa, _, rfl, SqL.of ef2, fun l1 hl1 => ?_⟩
    rw [cutT]
    have s3 := s2.trans (Same.new (o := .lst (fy.take many)) hl1)
    have el1 : upd H2 l1 (.lst (fy.take many)) l1 = some (.lst (fy.take many)) := upd_same
    have el0' : upd H2 l1 (.lst (fy.take many)) l0 = some (.lst (prI 0 0)) := Same.new hl1 _ _ el0
    generalize upd H2 l1 (.lst (fy.take many)) = H3 at *
    have hL : (fy.take many ++ (py ++ [])).length ≤ sizeLine := by
      rw [List.append_nil, List.length_append, List.length_take]; exact sz5' (by omega)
    refine ⟨l1, _, rfl, .inr (SqL.of el1), _, rfl, c, _, dx, _, _, rfl, s3 _ _ ob, T.c_Course, T.n_Course_period, rfl, pa, _, rfl, .inr (SqL.of (s3 _ _ ep)), hL, fun L hLn => ?_⟩
    have s4 := s3.trans (Same.new (o := .lst (fy.take many ++ (py ++ []))) hLn)
    have eL : upd H3 L (.lst (fy.take many ++ (py ++ []))) L = some (.lst (fy.take many ++ py)) := by rw [upd_same, List.append_nil]
    have el0'' : upd H3 L (.lst (fy.take many ++ (py ++ []))) l0 = some (.lst (prI 0 0)) := Same.new hLn _ _ el0'
    generalize upd H3 L (.lst (fy.take many ++ (py ++ []))) = H4 at *
    refine ⟨L, _, rfl, SqL.of eL, ?_⟩
    have pL : PrOf H4 (fy.take many ++ py) (Ch.tot f per many) := ((pf.take many).append pp).mono s4
    have lL : (fy.take many ++ py).length = (Ch.tot f per many).length := pL.1
    let S1 := fun i => Ch.sumTo i (fun k => Ch.tms many f.length per.length k * ((Ch.tot f per many).getD k (0, 0)).1)
    let S2 := fun i => Ch.sumTo i (fun k => Ch.tms many f.length per.length k * ((Ch.tot f per many).getD k (0, 0)).2)
    let W : Int := ((many - f.length : Nat) : Int) / ((py.length : Nat) : Int)
    let LA : Int := ((many - f.length : Nat) : Int) % ((py.length : Nat) : Int)
    refine fr_it (walk_enum (K := K) (a := L) (xs := fy.take many ++ py)) (fun i σ H' => ∃ (l : Addr) (v6 v7 v8 : Option V), σ = [some (.ref c), some (.int (many : Nat)), some (.ref l), some (.int ((many - f.length : Nat) : Int)), some (.int W), some (.int LA), v6, v7, v8, none, none] ∧ Same H4 H' ∧ H' l = some (.lst (prI (S1 i) (S2 i)))) ?_ ?_ ?_ ?_
    · exact ⟨l0, none, none, none, rfl, Same.refl _, el0''⟩
    · rintro i σ H' _ ⟨_, _, _, _, _, s', _⟩
      exact SqL.of (s' _ _ eL)
    · rintro i x' σ H5 H6 hi ⟨l, v6, v7, v8, rfl, s5, el5⟩ ⟨T', x1, y1, rfl, hT, rfl, e1, e2⟩
      cases e1
      obtain ⟨x, q, hx, rfl, tq⟩ := pL.get e2
      have hil : i < (Ch.tot f per many).length := by rw [← lL]; exact hi
      have sT := Same.new (o := .tup [.int (i : Nat), .ref q]) hT
      have eT : upd H5 T' (.tup [.int (i : Nat), .ref q]) T' = some (.tup [.int (i : Nat), .ref q]) := upd_same
      have s6 := s5.trans sT
      have el6 := sT _ _ el5
      generalize upd H5 T' (.tup [.int (i : Nat), .ref q]) = H6 at *
      have hxm : x ∈ f ++ per := by
        have := List.mem_of_getElem? hx
        unfold Ch.tot at this
        rcases List.mem_append.mp this with h | h
        · exact List.mem_append_left _ (List.mem_of_mem_take h)
        · exact List.mem_append_right _ h
      obtain ⟨hb1, hb2⟩ := hbig x hxm
      have gx : (Ch.tot f per many).getD i (0, 0) = x := by rw [List.getD_eq_getElem?_getD, hx]; rfl
      have tle : Ch.tms many f.length per.length i ≤ many + 1 := by
        unfold Ch.tms
        have : (many - f.length) / per.length ≤ many - f.length := Nat.div_le_self _ _
        repeat' split
        all_goals omega
      have es : ∀ tv : Int, tv = (Ch.tms many f.length per.length i : Nat) → ((S1 i : Nat) : Int) + tv * (x.1 : Nat) = ((S1 (i + 1) : Nat) : Int) ∧ ((S2 i : Nat) : Int) + tv * (x.2 : Nat) = ((S2 (i + 1) : Nat) : Int) ∧ tv.natAbs < 2 ^ 201 := fun tv htv => by
        have f1 : S1 (i + 1) = S1 i + Ch.tms many f.length per.length i * x.1 := by show S1 i + _ * ((Ch.tot f per many).getD i (0, 0)).1 = _; rw [gx]
        have f2 : S2 (i + 1) = S2 i + Ch.tms many f.length per.length i * x.2 := by show S2 i + _ * ((Ch.tot f per many).getD i (0, 0)).2 = _; rw [gx]
        rw [f1, f2, htv]
        exact ⟨by push_cast; rfl, by push_cast; rfl, by omega⟩
      refine ⟨T', _, rfl, SqT.of eT, rfl, _, _, rfl, _, _, rfl, rfl, ?_⟩
      have ob6 := s6 _ _ (s4 _ _ ob)
      have ef6 := s6 _ _ (s4 _ _ ef)
      refine ⟨_, rfl, _, rfl, c, _, dx, _, _, rfl, ob6, T.c_Course, T.n_Course_front, rfl, _, rfl, _, rfl, fa, _, rfl, SqL.of ef6, fun l2 hl2 => ?_⟩
      rw [cutT]
      have sl2 := Same.new (o := .lst (fy.take many)) hl2
      have el2 : upd H6 l2 (.lst (fy.take many)) l2 = some (.lst (fy.take many)) := upd_same
      have s7 := s6.trans sl2
      have el7 := sl2 _ _ el6
      generalize upd H6 l2 (.lst (fy.take many)) = H7 at *
      refine ⟨l2, _, rfl, .inl (SqL.of el2), _, _, rfl, rfl, _, rfl, ?_⟩
      have ltk : ((fy.take many).length : Int) = ((min many f.length : Nat) : Int) := by rw [List.length_take, fl]
      refine ite2 (fun cc => ?_) (fun cc => ?_)
      · have cc' : min many f.length ≤ i := by
          have : (((fy.take many).length : Nat) : Int) ≤ (i : Nat) := of_decide_eq_true cc
          omega
        have ob7 := s7 _ _ (s4 _ _ ob)
        have ef7 := s7 _ _ (s4 _ _ ef)
        refine ⟨_, rfl, _, rfl, _, rfl, c, _, dx, _, _, rfl, ob7, T.c_Course, T.n_Course_front, rfl, _, rfl, _, rfl, fa, _, rfl, SqL.of ef7, fun l3 hl3 => ?_⟩
        rw [cutT]
        have sl3 := Same.new (o := .lst (fy.take many)) hl3
        have el3 : upd H7 l3 (.lst (fy.take many)) l3 = some (.lst (fy.take many)) := upd_same
        have s7 := s7.trans sl3
        have el7 := sl3 _ _ el7
        generalize upd H7 l3 (.lst (fy.take many)) = H7 at *
        have tq7 := s7 _ _ tq
        refine ⟨l3, _, rfl, .inl (SqL.of el3), _, _, rfl, rfl, _, rfl, _, _, rfl, rfl, _, rfl, ?_⟩
        refine ite2 (fun cd => ?_) (fun cd => ?_)
        · have cd' : ((i : Nat) : Int) - ((fy.take many).length : Nat) < LA := of_decide_eq_true cd
          have cd2 : i - min many f.length < (many - f.length) % per.length := by
            have : LA = (((many - f.length) % per.length : Nat) : Int) := hla
            omega
          have htv : W + 1 = (Ch.tms many f.length per.length i : Nat) := by
            have hW : W = (((many - f.length) / per.length : Nat) : Int) := hwh
            unfold Ch.tms; rw [if_neg (by omega), if_pos cd2, hW]; push_cast; rfl
          obtain ⟨es1, es2, tvw⟩ := es (W + 1) htv
          refine ⟨_, _, rfl, rfl, ?_⟩
          refine ⟨_, rfl, _, rfl, l, q, _, _, rfl, SqL.of el7, SqT.of tq7, ?_⟩
          refine lc_vals (walk_zipM (n := 2) rfl rfl) (fun j => if j = 0 then .int ((S1 (i + 1) : Nat) : Int) else .int ((S2 (i + 1) : Nat) : Int)) (by decide) (fun H' s => ⟨SqL.of (s _ _ el7), SqT.of (s _ _ tq7)⟩) ?_ ?_
          · rintro j xx H8 H9 R hj s8 ⟨T2, x2, y2, rfl, hT2, rfl, e1', e2'⟩ kk
            have cj : j = 0 ∨ j = 1 := by omega
            rcases cj with rfl | rfl
            · cases e1'
              cases e2'
              refine ⟨T2, _, rfl, SqT.of upd_same, rfl, _, _, rfl, _, _, rfl, rfl, rfl, ?_⟩
              have qq := kk (upd H8 T2 (.tup [.int (S1 i : Nat), .int (x.1 : Nat)])) (Same.new hT2)
              rw [if_pos rfl, ← es1] at qq
              exact ⟨_, rfl, _, rfl, _, rfl, _, _, rfl, rfl, wide_mul (a := 201) (b := 60) tvw (by omega) (by decide) (by decide) (by decide), _, _, rfl, rfl, qq⟩
            · cases e1'
              cases e2'
              refine ⟨T2, _, rfl, SqT.of upd_same, rfl, _, _, rfl, _, _, rfl, rfl, rfl, ?_⟩
              have qq := kk (upd H8 T2 (.tup [.int (S2 i : Nat), .int (x.2 : Nat)])) (Same.new hT2)
              rw [if_neg (by decide), ← es2] at qq
              exact ⟨_, rfl, _, rfl, _, rfl, _, _, rfl, rfl, wide_mul (a := 201) (b := 60) tvw (by omega) (by decide) (by decide) (by decide), _, _, rfl, rfl, qq⟩
          · intro l' H8 hl' s8 e8
            exact ⟨l', _, _, _, rfl, s7.trans s8, e8⟩
        · have cd' : ¬ ((i : Nat) : Int) - ((fy.take many).length : Nat) < LA := fun z => cd (decide_eq_true z)
          have cd2 : ¬ i - min many f.length < (many - f.length) % per.length := by
            have : LA = (((many - f.length) % per.length : Nat) : Int) := hla
            omega
          have htv : W + 0 = (Ch.tms many f.length per.length i : Nat) := by
            have hW : W = (((many - f.length) / per.length : Nat) : Int) := hwh
            unfold Ch.tms; rw [if_neg (by omega), if_neg cd2, hW]; push_cast; rfl
          obtain ⟨es1, es2, tvw⟩ := es (W + 0) htv
          refine ⟨_, _, rfl, rfl, ?_⟩
          refine ⟨_, rfl, _, rfl, l, q, _, _, rfl, SqL.of el7, SqT.of tq7, ?_⟩
          refine lc_vals (walk_zipM (n := 2) rfl rfl) (fun j => if j = 0 then .int ((S1 (i + 1) : Nat) : Int) else .int ((S2 (i + 1) : Nat) : Int)) (by decide) (fun H' s => ⟨SqL.of (s _ _ el7), SqT.of (s _ _ tq7)⟩) ?_ ?_
          · rintro j xx H8 H9 R hj s8 ⟨T2, x2, y2, rfl, hT2, rfl, e1', e2'⟩ kk
            have cj : j = 0 ∨ j = 1 := by omega
            rcases cj with rfl | rfl
            · cases e1'
              cases e2'
              refine ⟨T2, _, rfl, SqT.of upd_same, rfl, _, _, rfl, _, _, rfl, rfl, rfl, ?_⟩
              have qq := kk (upd H8 T2 (.tup [.int (S1 i : Nat), .int (x.1 : Nat)])) (Same.new hT2)
              rw [if_pos rfl, ← es1] at qq
              exact ⟨_, rfl, _, rfl, _, rfl, _, _, rfl, rfl, wide_mul (a := 201) (b := 60) tvw (by omega) (by decide) (by decide) (by decide), _, _, rfl, rfl, qq⟩
            · cases e1'
              cases e2'
              refine ⟨T2, _, rfl, SqT.of upd_same, rfl, _, _, rfl, _, _, rfl, rfl, rfl, ?_⟩
              have qq := kk (upd H8 T2 (.tup [.int (S2 i : Nat), .int (x.2 : Nat)])) (Same.new hT2)
              rw [if_neg (by decide), ← es2] at qq
              exact ⟨_, rfl, _, rfl, _, rfl, _, _, rfl, rfl, wide_mul (a := 201) (b := 60) tvw (by omega) (by decide) (by decide) (by decide), _, _, rfl, rfl, qq⟩
          · intro l' H8 hl' s8 e8
            exact ⟨l', _, _, _, rfl, s7.trans s8, e8⟩
      · have cc' : i < min many f.length := by
          have : ¬ (((fy.take many).length : Nat) : Int) ≤ (i : Nat) := fun z => cc (decide_eq_true z)
          omega
        have tq7 := s7 _ _ tq
        have htv : (1 : Int) = (Ch.tms many f.length per.length i : Nat) := by unfold Ch.tms; rw [if_pos cc']; rfl
        obtain ⟨es1, es2, tvw⟩ := es 1 htv
        refine ⟨_, rfl, _, rfl, l, q, _, _, rfl, SqL.of el7, SqT.of tq7, ?_⟩
        refine lc_vals (walk_zipM (n := 2) rfl rfl) (fun j => if j = 0 then .int ((S1 (i + 1) : Nat) : Int) else .int ((S2 (i + 1) : Nat) : Int)) (by decide) (fun H' s => ⟨SqL.of (s _ _ el7), SqT.of (s _ _ tq7)⟩) ?_ ?_
        · rintro j xx H8 H9 R hj s8 ⟨T2, x2, y2, rfl, hT2, rfl, e1', e2'⟩ kk
          have cj : j = 0 ∨ j = 1 := by omega
          rcases cj with rfl | rfl
          · cases e1'
            cases e2'
            refine ⟨T2, _, rfl, SqT.of upd_same, rfl, _, _, rfl, _, _, rfl, rfl, rfl, ?_⟩
            have qq := kk (upd H8 T2 (.tup [.int (S1 i : Nat), .int (x.1 : Nat)])) (Same.new hT2)
            rw [if_pos rfl, ← es1] at qq
            exact ⟨_, rfl, _, rfl, _, rfl, _, _, rfl, rfl, wide_mul (a := 201) (b := 60) tvw (by omega) (by decide) (by decide) (by decide), _, _, rfl, rfl, qq⟩
          · cases e1'
            cases e2'
            refine ⟨T2, _, rfl, SqT.of upd_same, rfl, _, _, rfl, _, _, rfl, rfl, rfl, ?_⟩
            have qq := kk (upd H8 T2 (.tup [.int (S2 i : Nat), .int (x.2 : Nat)])) (Same.new hT2)
            rw [if_neg (by decide), ← es2] at qq
            exact ⟨_, rfl, _, rfl, _, rfl, _, _, rfl, rfl, wide_mul (a := 201) (b := 60) tvw (by omega) (by decide) (by decide) (by decide), _, _, rfl, rfl, qq⟩
        · intro l' H8 hl' s8 e8
          exact ⟨l', _, _, _, rfl, s7.trans s8, e8⟩
    · rintro σ H5 ⟨l, v6, v7, v8, rfl, s5, el5⟩
      rw [lL] at el5
      refine ⟨_, rfl, l, _, rfl, .inl ⟨SqL.of el5, fun t htt => ?_⟩⟩
      have e1 := Ch.tot_sum ht (·.1) many
      have e2 := Ch.tot_sum ht (·.2) many
      refine k _ t ((s4.trans s5).trans (Same.new htt)) ?_
      rw [upd_same]
      show some (HO.tup (prI (Ch.sumTo _ _) (Ch.sumTo _ _))) = _
      rw [e1, e2]
end
end K11
end
section
set_option Elab.async false
set_option linter.all false
set_option maxRecDepth 100000
namespace K11
open PySem PySem.Spec PyProof.Rows L2
open C8 (Cal Met Mak)
section
variable {P : Program} {w : World} {K : PySem.W.Frag} {mg : Str → Option Value} {base : Heap}
/-! ### fractions; Shares.__init__, drops_of -/
def FrAt (H : Hp) (q : Addr) (num D : Int) : Prop := ∃ c d : Int, H q = some (.tup [.int c, .int d]) ∧ 0 < d ∧ d ≤ D ∧ c.natAbs ≤ num.natAbs ∧ c * D = num * d
theorem FrAt.mono {H H' : Hp} {q : Addr} {num D : Int} (s : Same H H') (h : FrAt H q num D) : FrAt H' q num D := let ⟨c, d, a, r⟩ := h; ⟨c, d, s _ _ a, r⟩
/-- a dict of fractions by knots -/
def FrsAt (H : Hp) (a : Addr) (n : Nat) (num : Nat → Int) (D : Int) : Prop := ∃ qs : Nat → Addr, H a = some (.dK (dk (List.range n) fun v => .ref (qs v))) ∧ ∀ v, v < n → FrAt H (qs v) (num v) D
theorem FrsAt.mono {H H' : Hp} {a : Addr} {n : Nat} {num : Nat → Int} {D : Int} (s : Same H H') (h : FrsAt H a n num D) : FrsAt H' a n num D := let ⟨qs, h1, h2⟩ := h; ⟨qs, s _ _ h1, fun v hv => (h2 v hv).mono s⟩
def ShrAt (K : PySem.W.Frag) (H : Hp) (p : Addr) (n : Nat) (num : Nat → Int) (D : Int) : Prop := ∃ dx wd, H p = some (.ins (He.ga K "Shares") dx [("worths", .ref wd)]) ∧ FrsAt H wd n num D
theorem ShrAt.mono {H H' : Hp} {p : Addr} {n : Nat} {num : Nat → Int} {D : Int} (s : Same H H') (h : ShrAt K H p n num D) : ShrAt K H' p n num D := let ⟨dx, wd, h1, h2⟩ := h; ⟨dx, wd, s _ _ h1, h2.mono s⟩
def sp_Shares_init (K : PySem.W.Frag) : Sp := fun vs H Q _ => ∃ (p dx wd : Addr) (n : Nat) (num : Nat → Int) (D : Int), vs = [.ref p, .ref wd] ∧ H p = some (.ins (He.ga K "Shares") dx []) ∧ FrsAt H wd n num D ∧ ∀ H', SameX p H H' → ShrAt K H' p n num D → Q .non H'
theorem sc_Shares_init : FnScope ["self", "worths"] ["self", "worths"] d_Shares_init.scope := ⟨rfl, rfl, rfl, by decide +kernel, rfl, by decide +kernel, by decide +kernel⟩
theorem ok_Shares_init (T : Txt K mg)  : Mak P w K mg base 1 "Shares" (He.ga K "Shares") (sp_Shares_init K) [] := by
  refine mak_mk d_Shares_init T.d_Shares_init T.m_Shares T.g_Shares sc_Shares_init (fun vs H Q E h => ?_) (fun _ _ _ _ _ _ us hl => match us, hl with | [_, _], _ => rfl) (fun cdv A outer s H vs Q E hr h => ?_)
  · obtain ⟨_, _, _, _, _, _, rfl, _⟩ := h
    rfl
  · have hu := hu_of hr
    obtain ⟨p, dx, wd, n, num, D, rfl, hob, ⟨qs, hw, hq⟩, k⟩ := h
    refine ⟨_, (pss_one (ps_fld (pv 0) (pe_callTy call_dictD (by rfl) T.f_dict (by decide +kernel) (pa_cons (pv 1) pa_nil)) rfl)), ?_⟩
    refine ⟨_, rfl, wd, _, rfl, .of hw, fun w' hw' => ?_⟩
    have s1 := Same.new (o := .dK (dk (List.range n) fun v => V.ref (qs v))) hw'
    have nw : w' ≠ p := fun z => by rw [z, hob] at hw'; cases hw'
    refine ⟨_, rfl, p, _, dx, _, rfl, s1 _ _ hob, T.c_Shares, T.n_Shares_worths, (by show 0 < 1000; decide), ?_⟩
    refine k _ (s1.x.trans SameX.upd) ⟨dx, w', by rw [upd_same]; rfl, qs, (upd_ne nw).trans upd_same, fun v hv => ?_⟩
    obtain ⟨c, d, h1, h2⟩ := hq v hv
    exact ⟨c, d, (upd_ne (ne_of h1 hob (by intro z; cases z))).trans (s1 _ _ h1), h2⟩
def sp_drops_of (K : PySem.W.Frag) : Sp := fun vs H Q _ => ∃ (a : Addr) (N : Ch.Nt) (v : Nat), vs = [.ref a, vn v] ∧ NetAt K H a N ∧ v < N.length ∧ (Ch.kn N v).len ≤ 100 ∧
  ∀ p (A : Nat → Addr) H', H p = none → Same H H' → H' p = some (.lst (rws (Ch.kn N v).len A)) → (∀ i d, (Ch.kn N v).ds[i]? = some d → DropAt H' (A i) d) → Q (.ref p) H'
theorem sc_drops_of : FnScope ["net", "name"] ["net", "name"] d_drops_of.scope := ⟨rfl, rfl, rfl, by decide +kernel, rfl, by decide +kernel, by decide +kernel⟩
theorem ok_drops_of (T : Txt K mg)  : Cal P w K mg base 1 "drops_of" (sp_drops_of K) [] := by
  refine cal_mk d_drops_of T.d_drops_of T.g_drops_of sc_drops_of (fun vs H Q E h => ?_) (fun _ _ _ _ _ _ us hl => match us, hl with | [_, _], _ => rfl) (fun cdv A outer s H vs Q E hr h => ?_)
  · obtain ⟨_, _, _, rfl, _⟩ := h
    rfl
  · have hu := hu_of hr
    obtain ⟨a, N, v, rfl, ⟨j, dx, kd, id, ot, nl, O⟩, hv, h100, k⟩ := h
    obtain ⟨kv, f, tu, g1, g2, g3, g4⟩ := O.kn.get hv
    obtain ⟨xs, ys, A', a1, a2, a3, a4, a5, a6, a7⟩ := ds_addr g3 g4
    refine ⟨_, (pss_one (ps_ret (pe_lst (StX.pa_star (pe_ix ix_tup (pe_dget hu (pe_fld (pv 0) rfl) (pv 1) (fun _ _ => rfl)) pe_int (fun _ _ => rfl)) (StX.pa_star (pe_ix ix_tup (pe_dget hu (pe_fld (pv 0) rfl) (pv 1) (fun _ _ => rfl)) pe_int (fun _ _ => rfl)) pa_nil))))), ?_⟩
    have hl : (xs ++ (ys ++ [])).length ≤ sizeLine := by
      rw [List.append_nil, a5, List.length_map, List.length_range]; exact sz5' (by omega)
    refine ⟨_, rfl, a, _, dx, _, _, rfl, O.ob, T.c_Net, T.n_Net_knots, rfl, _, rfl, kd, _, rfl, g1, kv, _, _, _, rfl, rfl, SqT.of g2, at0, f, _, rfl, .inl (SqT.of a1), _, rfl, a, _, dx, _, _, rfl, O.ob, T.c_Net, T.n_Net_knots, rfl, _, rfl, kd, _, rfl, g1, kv, _, _, _, rfl, rfl, SqT.of g2, at1, tu, _, rfl, .inl (SqT.of a2), hl, fun p hp => ?_⟩
    have s1 := Same.new (o := .lst (xs ++ (ys ++ []))) hp
    exact k p A' _ hp s1 (by rw [upd_same, List.append_nil, a5]; rfl) fun i d h => (a7 i d h).mono s1
end
end K11
end
section
set_option Elab.async false
set_option linter.all false
set_option maxRecDepth 100000
namespace K11
open PySem PySem.Spec PyProof.Rows L2
open C8 (Cal Met Mak)
section
variable {P : Program} {w : World} {K : PySem.W.Frag} {mg : Str → Option Value} {base : Heap}
/-! ### share_of, gained (over shares) -/
abbrev wnum (N : Ch.Nt) (o : Nat) : Nat → Int := Ch.solR N fun i => (Ch.cnt N i o : Int)
def sp_shares (K : PySem.W.Frag) : Sp := fun vs H Q _ => ∃ (a : Addr) (N : Ch.Nt) (o : Nat), vs = [.ref a, vn o] ∧ (o = 4 ∨ o = 5) ∧ NetAt K H a N ∧ Ch.Drawn N ∧ Ch.EndsN N ∧ ∀ p H', Same H H' → ShrAt K H' p N.length (wnum N o) (Ch.dt N) → Q (.ref p) H'
def sp_share_of (K : PySem.W.Frag) : Sp := fun vs H Q _ => ∃ (a : Addr) (N : Ch.Nt) (o : Nat), vs = [.ref a, vn 6, vn o] ∧ (o = 4 ∨ o = 5) ∧ NetAt K H a N ∧ Ch.Drawn N ∧ Ch.EndsN N ∧ ∀ q H', Same H H' → FrAt H' q (wnum N o 0) (Ch.dt N) → Q (.ref q) H'
theorem sc_share_of : FnScope ["net", "inlet", "outlet", "knot"] ["net", "inlet", "outlet"] d_share_of.scope := ⟨rfl, rfl, rfl, by decide +kernel, rfl, by decide +kernel, by decide +kernel⟩
theorem ok_share_of (T : Txt K mg) (c_shares : Cal P w K mg base 5 "shares" (sp_shares K) []) (c_knot_of : Cal P w K mg base 1 "knot_of" (sp_knot_of K) []) (c_check_ends : Cal P w K mg base 4 "check_ends" (sp_check_ends K) []) : Cal P w K mg base 6 "share_of" (sp_share_of K) [] := by
  refine cal_mk d_share_of T.d_share_of T.g_share_of sc_share_of (fun vs H Q E h => ?_) (fun _ _ _ _ _ _ us hl => match us, hl with | [_, _, _], _ => rfl) (fun cdv A outer s H vs Q E hr h => ?_)
  · obtain ⟨_, _, _, rfl, _⟩ := h
    rfl
  · have hu := hu_of hr
    obtain ⟨a, N, o, rfl, ho, hN, D, e, k⟩ := h
    refine ⟨_, (pss_cons (ps_expr (C8.pe_c c_check_ends hr (by decide) rfl (pa_cons (pv 0) pa_nil)))
      (pss_cons (ps_set (i := 3) sc_share_of.nd rfl (Or.inl rfl) (C8.pe_c c_knot_of hr (by decide) rfl (pa_cons (pv 0) (pa_cons (pv 1) pa_nil))))
      (pss_one (ps_ret (pe_dget hu (pe_fld (C8.pe_c c_shares hr (by decide) rfl (pa_cons (pv 0) (pa_cons (pv 2) pa_nil))) rfl) (pv 3) (fun _ _ => rfl)))))), ?_⟩
    refine ⟨_, rfl, a, N, rfl, hN, D, e, fun H1 s1 => ?_⟩
    refine ⟨_, rfl, _, rfl, a, N, rfl, hN.mono s1, ?_⟩
    refine ⟨_, rfl, _, rfl, a, N, o, rfl, ho, hN.mono s1, D, e, fun p H2 s2 ⟨dx, wd, ep, qs, ew, hq⟩ => ?_⟩
    refine ⟨p, _, dx, _, _, rfl, ep, T.c_Shares, T.n_Shares_worths, rfl, _, rfl, wd, _, rfl, DGet.in_ ew (List.mem_range.mpr D.n1), ?_⟩
    exact k _ H2 (s1.trans s2) (hq 0 D.n1)
def sp_gained (K : PySem.W.Frag) : Sp := fun vs H Q _ => ∃ (a : Addr) (N : Ch.Nt) (o : Nat), vs = [.ref a, vn 6, vn o] ∧ (o = 4 ∨ o = 5) ∧ NetAt K H a N ∧ Ch.Drawn N ∧ Ch.EndsN N ∧ (∀ v, (wnum N o v).natAbs < 2 ^ 200) ∧
  ∀ p (g : Int) H', Same H H' → (∀ G : Int, Ch.dt N * G = (Ch.rmany N Ch.e1 : Nat) * wnum N o 0 → g = G) → H' p = some (.tup [.int g, .int (Ch.rmany N Ch.e1 : Nat)]) → Q (.ref p) H'
theorem sc_gained : FnScope ["net", "inlet", "outlet", "many", "above", "below"] ["net", "inlet", "outlet"] d_gained.scope := ⟨rfl, rfl, rfl, by decide +kernel, rfl, by decide +kernel, by decide +kernel⟩
theorem ok_gained (T : Txt K mg) (c_round_of : Cal P w K mg base 5 "round_of" (sp_round_of K) []) (c_share_of : Cal P w K mg base 6 "share_of" (sp_share_of K) []) : Cal P w K mg base 7 "gained" (sp_gained K) [] := by
  refine cal_mk d_gained T.d_gained T.g_gained sc_gained (fun vs H Q E h => ?_) (fun _ _ _ _ _ _ us hl => match us, hl with | [_, _, _], _ => rfl) (fun cdv A outer s H vs Q E hr h => ?_)
  · obtain ⟨_, _, _, rfl, _⟩ := h
    rfl
  · have hu := hu_of hr
    obtain ⟨a, N, o, rfl, ho, hN, D, e, hw, k⟩ := h
    refine ⟨_, (pss_cons (ps_asg (C8.pe_c c_share_of hr (by decide) rfl (pa_cons (pv 0) (pa_cons (pv 1) (pa_cons (pv 2) pa_nil)))) (pg_tup rfl (pgs_cons (pg_name (i := 4) sc_gained.nd rfl (Or.inl rfl)) (pgs_cons (pg_name (i := 5) sc_gained.nd rfl (Or.inl rfl)) pgs_nil))))
      (pss_cons (ps_set (i := 3) sc_gained.nd rfl (Or.inl rfl) (pe_fld (C8.pe_c c_round_of hr (by decide) rfl (pa_cons (pv 0) (pa_cons (pv 1) pa_nil))) rfl))
      (pss_one (ps_ret (pe_tup (pa_cons (pe_op op_fdivW (pe_op op_mulW (pv 4) (pv 3)) (pv 5)) (pa_cons (pv 3) pa_nil))))))), ?_⟩
    refine ⟨_, rfl, _, rfl, _, rfl, a, N, o, rfl, ho, hN, D, e, fun q H1 s1 ⟨c, d, eq, d0, dD, cN, cd⟩ => ?_⟩
    refine ⟨q, _, rfl, SqT.of eq, rfl, _, _, rfl, _, _, rfl, rfl, ?_⟩
    refine ⟨_, rfl, _, rfl, a, N, rfl, hN.mono s1, D, e, fun p H2 s2 ⟨dx, td, ep⟩ => ?_⟩
    refine ⟨p, _, dx, _, _, rfl, ep, T.c_Round, T.n_Round_many, rfl, ?_⟩
    have ds := Ch.dt_small D e
    have dp := e.dt
    have rl := Ch.rmany_le (N := N) Ch.e1
    have w1 : CMulW c ((Ch.rmany N Ch.e1 : Nat) : Int) := wide_mul (a := 200) (b := 80) (Nat.lt_of_le_of_lt cN (hw 0)) (by omega) (by decide) (by decide) (by decide)
    have w2 : ∀ z, CDivW z d := fun z => wide_div (b := 80) d0 (by omega) (by decide) (by decide)
    refine ⟨_, rfl, _, rfl, _, _, rfl, rfl, w1, _, rfl, _, _, rfl, rfl, w2 _, _, rfl, (by show 2 ≤ sizeLine; decide), fun t htt => ?_⟩
    refine k t _ _ ((s1.trans s2).trans (Same.new htt)) (fun G hG => ?_) upd_same
    have e1 : c * ((Ch.rmany N Ch.e1 : Nat) : Int) = d * G := by
      have h1 : Ch.dt N * (c * ((Ch.rmany N Ch.e1 : Nat) : Int)) = Ch.dt N * (d * G) := by
        have a1 : Ch.dt N * (c * ((Ch.rmany N Ch.e1 : Nat) : Int)) = (c * Ch.dt N) * ((Ch.rmany N Ch.e1 : Nat) : Int) := by
          rw [← Int.mul_assoc, Int.mul_comm (Ch.dt N) c]
        rw [a1, cd]
        have a2 : Ch.dt N * (d * G) = d * (Ch.dt N * G) := by rw [← Int.mul_assoc, Int.mul_comm (Ch.dt N) d, Int.mul_assoc]
        rw [a2, hG]
        generalize ((Ch.rmany N Ch.e1 : Nat) : Int) = m
        generalize wnum N o 0 = x
        rw [Int.mul_comm x d, Int.mul_assoc, Int.mul_comm x m]
      exact Int.eq_of_mul_eq_mul_left (by omega) h1
    show c * ((Ch.rmany N Ch.e1 : Nat) : Int) / d = G
    rw [e1]
    exact Int.mul_ediv_cancel_left _ (by omega)
end
end K11
end
section
set_option Elab.async false
set_option linter.all false
set_option maxRecDepth 100000
namespace K11
open PySem PySem.Spec PyProof.Rows L2
open C8 (Cal Met Mak)
section
variable {P : Program} {w : World} {K : PySem.W.Frag} {mg : Str → Option Value} {base : Heap}
/-! ### check_outlet -/
def sp_check_outlet (K : PySem.W.Frag) : Sp := fun vs H Q _ => ∃ (a : Addr) (N : Ch.Nt) (o : Nat), vs = [.ref a, vn o] ∧ (o = 4 ∨ o = 5) ∧ NetAt K H a N ∧ Q .non H
theorem sc_check_outlet : FnScope ["net", "outlet"] ["net", "outlet"] d_check_outlet.scope := ⟨rfl, rfl, rfl, by decide +kernel, rfl, by decide +kernel, by decide +kernel⟩
theorem ok_check_outlet (T : Txt K mg)  : Cal P w K mg base 1 "check_outlet" (sp_check_outlet K) [] := by
  refine cal_mk d_check_outlet T.d_check_outlet T.g_check_outlet sc_check_outlet (fun vs H Q E h => ?_) (fun _ _ _ _ _ _ us hl => match us, hl with | [_, _], _ => rfl) (fun cdv A outer s H vs Q E hr h => ?_)
  · obtain ⟨_, _, _, rfl, _⟩ := h
    rfl
  · have hu := hu_of hr
    obtain ⟨a, N, o, rfl, ho, ⟨j, dx, kd, id, ot, nl, O⟩, k⟩ := h
    refine ⟨_, (pss_one (ps_if (PW.pt (pw_or (pt_not (pt_val (pe_callB call_isi (by rfl) T.f_isinstance (by decide +kernel) (pa_cons (pv 1) (pa_cons (pe_bltn (v := .ty "str") rfl T.f_str (by decide +kernel) rfl) pa_nil))))) (pw_or1 (pt_cmpR op_notIn_seq (pv 1) (pe_fld (pv 0) rfl) rfl))))
      (pss_one ps_never)
      pss_nil)), ?_⟩
    refine ⟨_, rfl, _, _, _, _, true, rfl, .ty _, .base (.str _), rfl, true, rfl, iteF ?_⟩
    refine ⟨_, rfl, _, rfl, a, _, dx, _, _, rfl, O.ob, T.c_Net, T.n_Net_outlets, rfl, ot, _, rfl, .inr (SqT.of O.ol), rfl, rfl, false, ?_, iteF k⟩
    rcases ho with rfl | rfl
    · have : inV (vn 4) [vn 4, vn 5] = true := by decide +kernel
      rw [this]; rfl
    · have : inV (vn 5) [vn 4, vn 5] = true := by decide +kernel
      rw [this]; rfl
end
end K11
end
section
set_option Elab.async false
set_option linter.all false
set_option maxRecDepth 100000
namespace K11
open PySem PySem.Spec PyProof.Rows L2
open C8 (Cal Met Mak)
section
variable {P : Program} {w : World} {K : PySem.W.Frag} {mg : Str → Option Value} {base : Heap}
/-! ### the law's draw -/
def intsD (ns : List Int) : PyData := .list (ns.map PyData.int)
theorem ints_dp {H : Hp} {a : Addr} {ns : List Int} (h : SqL K H a (ns.map V.int)) : Dp K H (.ref a) (intsD ns) := .lst h (DpAll.map fun i _ => .int i)
theorem ints_shaped (ns : List Int) : SeqAt.shaped (intsD ns) = true := by
  refine shape_mk ?_ ?_
  · show PyData.canLay0 (.list _) = true
    rw [PyData.canLay0]; exact lay_map fun x _ => by rw [PyData.canLay0]
  · show PyData.depth (.list _) ≤ 64
    rw [PyData.depth]
    have : PyData.depthAll (ns.map PyData.int) ≤ 0 := depth_map fun x _ => by rw [PyData.depth]; exact Nat.le_refl _
    omega
def sp_w_draw (K : PySem.W.Frag) : Sp := fun vs H Q _ => ∃ (a : Addr) (ns : List Int) (at_ m : Nat), vs = [.ref a, .int (at_ : Nat), .int (m : Nat)] ∧ SqL K H a (ns.map V.int) ∧ ns.length ≤ 63 ∧ 1 ≤ m ∧ at_ ≤ 10000 ∧ ∀ (d : Nat) H', Same H H' → d < m → Q (.int (d : Nat)) H'
theorem sc_w_draw : FnScope ["_law_script", "_law_at", "_law_many", "_law_row", "_law_mixed", "_law_cell", "_law_turn", "_law_step"] ["_law_script", "_law_at", "_law_many"] d_w_draw.scope := ⟨rfl, rfl, rfl, by decide +kernel, rfl, by decide +kernel, by decide +kernel⟩
theorem ok_w_draw (T : Txt K mg)  : Cal P w K mg base 1 "_law_draw" (sp_w_draw K) [] := by
  refine cal_mk d_w_draw T.d_w_draw T.g__law_draw sc_w_draw (fun vs H Q E h => ?_) (fun _ _ _ _ _ _ us hl => match us, hl with | [_, _, _], _ => rfl) (fun cdv A outer s H vs Q E hr h => ?_)
  · obtain ⟨_, _, _, _, rfl, _⟩ := h
    rfl
  · have hu := hu_of hr
    obtain ⟨a, ns, at_, m, rfl, ha, hn, hm, hat, k⟩ := h
    refine ⟨_, (pss_cons (ps_set (i := 3) sc_w_draw.nd rfl (Or.inl rfl) (pe_ifExp (pt_cmpR (op_neD hr.units) (pv 0) (pe_lst pa_nil) (nomark _)) (pe_slice sl_list (pv 0) po_none (po_some pe_int)) (pe_lst (pa_cons pe_int pa_nil))))
      (pss_cons (ps_par (i := 5) (j := 6) rfl sc_w_draw.nd rfl rfl (by decide) rfl rfl (pa_cons (pe_ix ix_list (pv 3) (pe_op op_mod (pv 1) (pe_callB call_len_seq (by rfl) T.f_len (by decide +kernel) (pa_cons (pv 3) pa_nil))) (fun _ _ => rfl)) (pa_cons (pe_op op_fdivW (pv 1) (pe_callB call_len_seq (by rfl) T.f_len (by decide +kernel) (pa_cons (pv 3) pa_nil))) pa_nil)) (by rfl))
      (pss_cons (ps_if (pt_cmpR op_ge (pv 5) (pe_op op_pow pe_int pe_int) (nomark _))
      (pss_cons (ps_set (i := 5) sc_w_draw.nd rfl (Or.inl rfl) (pe_op op_mod (pe_callTy call_int1 (by rfl) T.f_int (by decide +kernel) (pa_cons (pv 5) pa_nil)) (pe_op op_pow pe_int pe_int)))
        (pss_cons (ps_for PassesOwn.never rfl (pi_range1 rfl T.f_range (pa_cons (pe_op op_mod (pv 6) pe_int) pa_nil)) (pg_name (i := 7) sc_w_draw.nd rfl (Or.inl rfl))
        (pss_one (ps_set (i := 5) sc_w_draw.nd rfl (Or.inl rfl) (pe_op op_fdivW (pv 5) pe_int))))
        (pss_one (ps_ret (pe_op op_mod (pe_op op_mod (pe_callTy call_int1 (by rfl) T.f_int (by decide +kernel) (pa_cons (pv 5) pa_nil)) pe_int) (pv 2))))))
      pss_nil)
      (pss_cons (ps_set (i := 4) sc_w_draw.nd rfl (Or.inl rfl) (pe_op op_add (pe_op op_mulW (pe_op op_add (pe_op op_add (pe_op op_mod (pe_callTy call_int1 (by rfl) T.f_int (by decide +kernel) (pa_cons (pe_op op_add (pv 5) (pe_op op_mulW pe_int (pv 6))) pa_nil)) pe_int) (pe_op op_mulW pe_int (pv 1))) pe_int) pe_int) (pe_op op_mod (pe_callTy call_int1 (by rfl) T.f_int (by decide +kernel) (pa_cons (pe_op op_fdivW (pv 5) pe_int) pa_nil)) pe_int)))
      (pss_one (ps_ret (pe_op op_mod (pe_callTy call_int1 (by rfl) T.f_int (by decide +kernel) (pa_cons (pe_op op_mod (pe_op op_mulW (pe_op op_mod (pv 4) pe_int) pe_int) pe_int) pa_nil)) (pv 2)))))))), ?_⟩
    have md : ∀ z : Int, ∃ d : Nat, z % (m : Nat) = (d : Nat) ∧ d < m := fun z => by
      have h1 := Int.emod_nonneg z (b := (m : Nat)) (by omega)
      have h2 := Int.emod_lt_of_pos z (b := ((m : Nat) : Int)) (by omega)
      exact ⟨(z % (m : Nat)).toNat, by omega, by omega⟩
    refine (fun rest : (∀ (l : Addr) (rs : List Int) (H2 : Hp), Same H H2 → SqL K H2 l (rs.map V.int) → 1 ≤ rs.length → rs.length ≤ 63 → (?G : Addr → Hp → Prop) l H2) => ?A) ?B
    case A =>
      refine ⟨_, rfl, (by show 0 ≤ sizeLine; exact Nat.zero_le _), fun z hz => ?_⟩
      have s1 := Same.new (o := .lst []) hz
      refine ⟨_, _, ints_dp (s1.seq ha), .lst (SqL.of upd_same) .nil, ints_shaped _, rfl, _, rfl, ?_⟩
      have ha1 := s1.seq ha
      generalize upd H z (.lst []) = H1 at *
      refine ite2 (fun c => ?_) (fun c => ?_)
      · have hne : ns ≠ [] := fun e => by rw [e] at c; exact absurd c (by decide)
        have hpos : 0 < ns.length := List.length_pos_iff.mpr hne
        refine ⟨_, rfl, 60, rfl, a, _, rfl, ha1, fun p hp => ?_⟩
        have s2 := s1.trans (Same.new (o := .lst (cutV (ns.map V.int) none (some 60))) hp)
        have ep : upd H1 p (.lst (cutV (ns.map V.int) none (some 60))) p = some (.lst ((ns.take 60).map V.int)) := by
          rw [upd_same]; congr 2
          unfold cutV
          have h2 : HT.sIx (ns.map V.int).length (ns.map V.int).length (some ((60 : Nat) : Int)) = min 60 (ns.map V.int).length := HT.sIx_nat _ _ _
          have h3 : (some (60 : Int)) = some ((60 : Nat) : Int) := rfl
          rw [h3, h2]
          have h4 : HT.sIx (ns.map V.int).length 0 none = 0 := rfl
          rw [h4, List.drop_zero, Nat.sub_zero, ← List.map_take]
          congr 1
          rw [List.length_map]
          by_cases h : 60 ≤ ns.length
          · rw [Nat.min_eq_left h]
          · rw [Nat.min_eq_right (by omega), List.take_of_length_le (Nat.le_refl _), List.take_of_length_le (by omega)]
        generalize upd H1 p (.lst (cutV (ns.map V.int) none (some 60))) = H2 at *
        exact rest p (ns.take 60) H2 s2 (SqL.of ep) (by rw [List.length_take]; omega) (by rw [List.length_take]; omega)
      · refine ⟨(by show 1 ≤ sizeLine; decide), fun p hp => ?_⟩
        have s2 := s1.trans (Same.new (o := .lst [.int 7]) hp)
        have ep : upd H1 p (.lst [.int 7]) p = some (.lst ([7].map V.int)) := by rw [upd_same]; rfl
        generalize upd H1 p (.lst [.int 7]) = H2 at *
        exact rest p [7] H2 s2 (SqL.of ep) (by decide) (by decide)
    case B =>
      intro l rs H2 s2 hl l1 l63
      have hlen : ((rs.map V.int).length : Int) = (rs.length : Nat) := by rw [List.length_map]
      obtain ⟨j, hj1, hj2⟩ : ∃ j : Nat, ((at_ : Nat) : Int) % (((rs.map V.int).length : Nat) : Int) = (j : Nat) ∧ j < rs.length := by
        rw [hlen]
        have h1 := Int.emod_nonneg ((at_ : Nat) : Int) (b := ((rs.length : Nat) : Int)) (by omega)
        have h2 := Int.emod_lt_of_pos ((at_ : Nat) : Int) (b := ((rs.length : Nat) : Int)) (by omega)
        exact ⟨(((at_ : Nat) : Int) % ((rs.length : Nat) : Int)).toNat, by omega, by omega⟩
      obtain ⟨t, ht1, ht2⟩ : ∃ t : Nat, ((at_ : Nat) : Int) / (((rs.map V.int).length : Nat) : Int) = (t : Nat) ∧ t ≤ 10000 := by
        rw [hlen]
        refine ⟨at_ / rs.length, (Int.natCast_ediv _ _).symm, Nat.le_trans (Nat.div_le_self _ _) hat⟩
      obtain ⟨cell, hc⟩ : ∃ c, rs[j]? = some c := ⟨_, List.getElem?_eq_getElem hj2⟩
      have hcell : atI (rs.map V.int) (((at_ : Nat) : Int) % (((rs.map V.int).length : Nat) : Int)) = some (.int cell) := by
        rw [hj1]; exact atI_nat (by rw [List.getElem?_map, hc]; rfl)
      refine ⟨_, rfl, _, rfl, _, rfl, l, _, rfl, .inl hl, _, _, rfl, rfl, (by show (0 : Int) < (((rs.map V.int).length : Nat) : Int); rw [hlen]; omega), l, _, _, _, rfl, rfl, hl, hcell, _, rfl, _, rfl, l, _, rfl, .inl hl, _, _, rfl, rfl, wide_div (b := 10) (by rw [hlen]; omega) (by rw [hlen]; omega) (by decide) (by decide), _, _, rfl, ?_⟩
      have cp1 : CPow 10 18 := ⟨by decide, by decide, by decide⟩
      have cp2 : CPow 97 40 := ⟨by decide, by decide, by decide⟩
      refine ⟨_, rfl, _, _, rfl, rfl, cp1, _, _, rfl, rfl, _, rfl, ?_⟩
      refine ite2 (fun c => ?_) (fun c => ?_)
      · refine ⟨_, rfl, .inl ⟨_, rfl, _, _, rfl, rfl, cp2, _, _, rfl, rfl, (by show (0 : Int) < 97 ^ (40 : Int).toNat; decide), ?_⟩⟩
        have tb : -(2 ^ 62) ≤ (((at_ : Nat) : Int) / (((rs.map V.int).length : Nat) : Int)) % 40 ∧ (((at_ : Nat) : Int) / (((rs.map V.int).length : Nat) : Int)) % 40 < 2 ^ 62 := by rw [ht1]; omega
        refine ⟨_, rfl, _, _, rfl, rfl, (by show (0:Int) < 40; decide), _, rfl, tb.1, tb.2, ?_⟩
        refine for_range (fun i σ H' => H' = H2 ∧ ∃ (cc : Int) (v7 : Option V), σ = [some (.ref a), some (.int (at_ : Nat)), some (.int (m : Nat)), some (.ref l), none, some (.int cc), some (.int (((at_ : Nat) : Int) / (((rs.map V.int).length : Nat) : Int))), v7]) ?_ ?_ ?_
        · exact ⟨rfl, _, none, rfl⟩
        · rintro i σ H' hi ⟨rfl, cc, v7, rfl⟩
          exact ⟨_, rfl, _, _, rfl, rfl, wide_div (b := 10) (by decide) (by decide) (by decide) (by decide), rfl, _, _, rfl⟩
        · rintro σ H' ⟨rfl, cc, v7, rfl⟩
          obtain ⟨d, hd1, hd2⟩ := md (cc % 97)
          refine ⟨_, rfl, .inl ⟨_, rfl, _, _, rfl, rfl, (by show (0:Int) < 97; decide), _, rfl, _, _, rfl, rfl, (by show (0 : Int) < (m : Nat); omega), ?_⟩⟩
          show Q (.int (cc % 97 % (m : Nat))) H'
          rw [hd1]; exact k d H' s2 hd2
      · have w1 : CMulW 31 (((at_ : Nat) : Int) / (((rs.map V.int).length : Nat) : Int)) := by rw [ht1]; exact wide_mul (a := 10) (b := 20) (by decide) (by omega) (by decide) (by decide) (by decide)
        have w2 : CMulW 977 ((at_ : Nat) : Int) := wide_mul (a := 10) (b := 20) (by decide) (by omega) (by decide) (by decide) (by decide)
        have w3 : ∀ z : Int, CMulW (z % 1000003 + 977 * (at_ : Nat) + 13) 48271 := fun z => wide_mul (a := 40) (b := 20) (by
          have h1 := Int.emod_nonneg z (b := 1000003) (by decide)
          have h2 := Int.emod_lt_of_pos z (b := 1000003) (by decide)
          omega) (by decide) (by decide) (by decide) (by decide)
        have w4 : ∀ z : Int, CMulW (z % 2147483647) 65537 := fun z => wide_mul (a := 40) (b := 20) (by
          have h1 := Int.emod_nonneg z (b := 2147483647) (by decide)
          have h2 := Int.emod_lt_of_pos z (b := 2147483647) (by decide)
          omega) (by decide) (by decide) (by decide) (by decide)
        refine ⟨_, rfl, _, rfl, _, _, rfl, rfl, w1, _, _, rfl, rfl, .inl ⟨_, rfl, _, _, rfl, rfl, (by show (0:Int) < 1000003; decide), _, rfl, _, _, rfl, rfl, w2, _, _, rfl, rfl, _, _, rfl, rfl, _, _, rfl, rfl, w3 _, _, rfl, _, _, rfl, rfl, wide_div (b := 30) (by decide) (by decide) (by decide) (by decide), .inl ⟨_, rfl, _, _, rfl, rfl, (by show (0:Int) < 999983; decide), _, _, rfl, rfl, ?_⟩⟩⟩
        refine ⟨_, rfl, _, _, rfl, rfl, (by show (0:Int) < 2147483647; decide), _, _, rfl, rfl, w4 _, _, _, rfl, rfl, (by show (0:Int) < 4294967291; decide), .inl ⟨_, rfl, _, rfl, _, _, rfl, rfl, (by show (0 : Int) < (m : Nat); omega), ?_⟩⟩
        obtain ⟨d, hd1, hd2⟩ := md _
        exact Eq.mpr (congrArg (fun z => Q (.int z) H2) hd1) (k d H2 s2 hd2)
end
end K11
end
section
set_option Elab.async false
set_option linter.all false
set_option maxRecDepth 100000
namespace K11
open PySem PySem.Spec PyProof.Rows L2
open C8 (Cal Met Mak)
section
variable {P : Program} {w : World} {K : PySem.W.Frag} {mg : Str → Option Value} {base : Heap}
/-! ### worth_of -/
/-- a dict of fractions by knots, above and below told -/
def WrsAt (H : Hp) (wd : Addr) (n : Nat) (c d : Nat → Int) : Prop := ∃ qs : Nat → Addr, H wd = some (.dK (dk (List.range n) fun v => .ref (qs v))) ∧ ∀ v, v < n → H (qs v) = some (.tup [.int (c v), .int (d v)])
/-- what a ball at a target is worth, times a whole number -/
def wth (o n : Nat) (c d : Nat → Int) (whole : Int) (t : Nat) : Int := if t = o then whole else if t < n then c t * (whole / d t) else 0
def sp_worth_of (K : PySem.W.Frag) : Sp := fun vs H Q _ => ∃ (q wd : Addr) (dr : List Nat) (o n : Nat) (c d : Nat → Int) (whole : Int), vs = [.ref q, vn o, .ref wd, .int whole] ∧ o < 8 ∧ n ≤ o ∧ (∀ t ∈ dr, t < 8) ∧ DropAt H q dr ∧ WrsAt H wd n c d ∧ (∀ v, v < n → CDivW whole (d v) ∧ CMulW (c v) (whole / d v)) ∧ Q (.int (dr.map (wth o n c d whole)).sum) H
theorem sc_worth_of : FnScope ["drop", "outlet", "worths", "whole", "found", "target"] ["drop", "outlet", "worths", "whole"] d_worth_of.scope := ⟨rfl, rfl, rfl, by decide +kernel, rfl, by decide +kernel, by decide +kernel⟩
theorem str_shaped (u : Nat) (h : u < 8) : SeqAt.shaped (.str (nm u)) = true := by
  have : ∀ u : Fin 8, PyData.strOk (nm u.1) = true := by decide +kernel
  refine shape_mk ?_ ?_
  · show PyData.canLay0 (.str _) = true
    rw [PyData.canLay0]; exact this ⟨u, h⟩
  · show PyData.depth (.str _) ≤ 64
    rw [PyData.depth]; exact Nat.zero_le _
theorem ok_worth_of (T : Txt K mg)  : Cal P w K mg base 1 "worth_of" (sp_worth_of K) [] := by
  refine cal_mk d_worth_of T.d_worth_of T.g_worth_of sc_worth_of (fun vs H Q E h => ?_) (fun _ _ _ _ _ _ us hl => match us, hl with | [_, _, _, _], _ => rfl) (fun cdv A outer s H vs Q E hr h => ?_)
  · obtain ⟨_, _, _, _, _, _, _, _, rfl, _⟩ := h
    rfl
  · have hu := hu_of hr
    obtain ⟨q, wd, dr, o, n, c, d, whole, rfl, ho, hno, h8, hq, ⟨qs, hw1, hw2⟩, hcd, k⟩ := h
    refine ⟨_, (pss_cons (ps_set (i := 4) sc_worth_of.nd rfl (Or.inl rfl) pe_int)
      (pss_cons (ps_for PassesOwn.never rfl (pi_tup (pv 0)) (pg_name (i := 5) sc_worth_of.nd rfl (Or.inl rfl))
        (pss_one (ps_if (pt_cmpR (op_eqD hr.units) (pv 5) (pv 1) (nomark _))
          (pss_one (ps_aug (i := 4) sc_worth_of.nd rfl (Or.inl rfl) (pv 3) ip_add))
          (pss_one (ps_if (pt_cmp (pc_din hu (pv 5) (pv 2)))
            (pss_one (ps_aug (i := 4) sc_worth_of.nd rfl (Or.inl rfl) (pe_op op_mulW (pe_ix ix_tup (pe_dget hu (pv 2) (pv 5) (fun _ _ => rfl)) pe_int (fun _ _ => rfl)) (pe_op op_fdivW (pv 3) (pe_ix ix_tup (pe_dget hu (pv 2) (pv 5) (fun _ _ => rfl)) pe_int (fun _ _ => rfl)))) ip_add))
            pss_nil)))))
      (pss_one (ps_ret (pv 4))))), ?_⟩
    refine ⟨_, rfl, q, rfl, ⟨_, SqT.of hq⟩, for_tup (K := K) (a := q) (xs := dr.map vn) (fun i σ H' => H' = H ∧ ∃ v5, σ = [some (.ref q), some (vn o), some (.ref wd), some (.int whole), some (.int ((dr.take i).map (wth o n c d whole)).sum), v5]) ?_ ?_ ?_ ?_⟩
    · exact ⟨rfl, none, rfl⟩
    · rintro i σ H' _ ⟨rfl, v5, rfl⟩
      exact SqT.of hq
    · rintro i x σ H' hx ⟨rfl, v5, rfl⟩
      rw [List.getElem?_map] at hx
      cases hi : dr[i]? with
      | none => rw [hi] at hx; cases hx
      | some u =>
        rw [hi] at hx
        cases hx
        have ht1 : ((dr.take (i + 1)).map (wth o n c d whole)).sum = ((dr.take i).map (wth o n c d whole)).sum + wth o n c d whole u := by
          rw [List.take_succ, hi]
          simp [List.sum_append]
        refine ⟨_, rfl, _, rfl, _, _, .str _, .str _, str_shaped u (h8 u (List.mem_of_getElem? hi)), str_shaped o ho, _, rfl, ?_⟩
        have ev : PyData.eqv (.str (nm u)) (.str (nm o)) = decide (u = o) := by
          have := vn_eq u o
          simp only [vn, V.str.injEq] at this
          rw [← this]
          simp [PyData.eqv]
          try rfl
        rw [ev]
        refine ite2 (fun e => ?_) (fun e => ?_)
        · have e' : u = o := of_decide_eq_true e
          have hw : wth o n c d whole u = whole := if_pos e'
          refine ⟨_, rfl, _, rfl, _, _, rfl, rfl, rfl, some (vn u), ?_⟩
          rw [ht1, hw]; rfl
        · have e' : ¬ u = o := fun z => e (decide_eq_true z)
          have g := DGet.n hw1 u
          by_cases un : u < n
          · have hw : wth o n c d whole u = c u * (whole / d u) := by unfold wth; rw [if_neg e', if_pos un]
            rw [if_pos (List.mem_range.mpr un)] at g
            have hq2 := hw2 u un
            obtain ⟨hc1, hc2⟩ := hcd u un
            refine ⟨_, rfl, _, rfl, wd, _, rfl, g, true, rfl, iteT ?_⟩
            refine ⟨_, rfl, _, rfl, _, rfl, wd, _, rfl, g, qs u, _, _, _, rfl, rfl, SqT.of hq2, at0, _, rfl, _, rfl, _, rfl, wd, _, rfl, g, qs u, _, _, _, rfl, rfl, SqT.of hq2, rfl, _, _, rfl, rfl, hc1, _, _, rfl, rfl, hc2, _, _, rfl, rfl, rfl, some (vn u), ?_⟩
            rw [ht1, hw]; rfl
          · have hw : wth o n c d whole u = 0 := by unfold wth; rw [if_neg e', if_neg un]
            rw [if_neg (by rw [List.mem_range]; exact un)] at g
            refine ⟨_, rfl, _, rfl, wd, _, rfl, g, false, rfl, iteF ?_⟩
            refine ⟨rfl, some (vn u), ?_⟩
            rw [ht1, hw, Int.add_zero]; rfl
    · rintro σ H' ⟨rfl, v5, rfl⟩
      rw [List.length_map, List.take_of_length_le (Nat.le_refl _)]
      exact ⟨_, rfl, k⟩
end
end K11
end
section
set_option Elab.async false
set_option linter.all false
set_option maxRecDepth 100000
namespace K11
open PySem PySem.Spec PyProof.Rows L2
open C8 (Cal Met Mak)
section
variable {P : Program} {w : World} {K : PySem.W.Frag} {mg : Str → Option Value} {base : Heap}
/-! ### the law's falls -/
def sp_w_falls (K : PySem.W.Frag) : Sp := fun vs H Q _ => ∃ (a : Addr) (N : Ch.Nt) (v : Nat), vs = [.ref a, vn v] ∧ KnotsAt H a N ∧ v < N.length ∧ (∀ d ∈ (Ch.kn N v).tu, ∀ x ∈ d, x < 8) ∧
  ∀ p ks H', H p = none → Same H H' → DI H' p ks (fun t => (Ch.cnt N v t : Nat)) → Q (.ref p) H'
theorem sc_w_falls : FnScope ["_law_knots_here", "_law_name", "_law_found", "_law_drop", "_law_target"] ["_law_knots_here", "_law_name"] d_w_falls.scope := ⟨rfl, rfl, rfl, by decide +kernel, rfl, by decide +kernel, by decide +kernel⟩
theorem ok_w_falls (T : Txt K mg)  : Cal P w K mg base 1 "_law_falls" (sp_w_falls K) [] := by
  refine cal_mk d_w_falls T.d_w_falls T.g__law_falls sc_w_falls (fun vs H Q E h => ?_) (fun _ _ _ _ _ _ us hl => match us, hl with | [_, _], _ => rfl) (fun cdv A outer s H vs Q E hr h => ?_)
  · obtain ⟨_, _, _, rfl, _⟩ := h
    rfl
  · have hu := hu_of hr
    obtain ⟨a, N, v, rfl, hN, hv, h8, k⟩ := h
    have Okn := hN
    obtain ⟨kv, f, tu, g1, g2, g3, g4⟩ := Okn.get hv
    obtain ⟨as, g5, g6⟩ := g4
    refine ⟨_, (pss_cons (ps_set (i := 2) sc_w_falls.nd rfl (Or.inl rfl) pe_dnewK)
      (pss_cons (ps_for PassesOwn.never rfl (pi_tup (pe_ix ix_tup (pe_dget hu (pv 0) (pv 1) (fun _ _ => rfl)) pe_int (fun _ _ => rfl))) (pg_name (i := 3) sc_w_falls.nd rfl (Or.inl rfl))
      (pss_one (ps_for PassesOwn.never rfl (pi_tup (pv 3)) (pg_name (i := 4) sc_w_falls.nd rfl (Or.inl rfl))
        (pss_one (ps_dput hu (pv 2) (pv 4) (pe_op op_add (pe_dget2 hu (pv 2) (pv 4) pe_int ⟨rfl, rfl, rfl, rfl⟩) pe_int) rfl)))))
      (pss_one (ps_ret (pv 2))))), ?_⟩
    intro p hp
    have s0 : Same H (upd H p (.dK [])) := Same.new hp
    have g1' : DGet (upd H p (.dK [])) a (vn v) (some (.ref kv)) := by
      obtain ⟨ks0, q1, _⟩ := Okn
      rcases g1 with ⟨kvs, kk, r1, r2, r3⟩ | ⟨kvs, kk, b, r1, r2, r3, r4⟩
      · exact .inl ⟨kvs, kk, by rcases r1 with r1 | ⟨o, r1⟩; exact .inl (s0 _ _ r1); exact .inr ⟨o, s0 _ _ r1⟩, r2, r3⟩
      · cases r2
    refine ⟨_, rfl, _, rfl, a, _, rfl, g1', kv, _, _, _, rfl, rfl, SqT.of (s0 _ _ g2), at1, tu, rfl, ⟨_, SqT.of (s0 _ _ g5)⟩, ?_⟩
    refine for_tup (K := K) (a := tu) (xs := (List.range (Ch.kn N v).tu.length).map fun i => V.ref (as i)) (fun i σ H' => ∃ ks g v3 v4, σ = [some (.ref a), some (vn v), some (.ref p), v3, v4] ∧ Same H H' ∧ DI H' p ks g ∧ ∀ t, g t = (Ch.cts ((Ch.kn N v).tu.take i) t : Nat)) ?_ ?_ ?_ ?_
    · exact ⟨[], fun _ => 0, none, none, rfl, s0, DI.new, fun t => by simp [Ch.cts]⟩
    · rintro i σ H' _ ⟨_, _, _, _, _, s, _⟩
      exact SqT.of (s _ _ g5)
    · rintro i x σ H' hx ⟨ks, g, v3, v4, rfl, s, D, hg⟩
      have hi : i < (Ch.kn N v).tu.length := by
        have := (List.getElem?_eq_some_iff.mp hx).1
        rw [List.length_map, List.length_range] at this; exact this
      rw [List.getElem?_map, List.getElem?_range hi] at hx
      cases hx
      obtain ⟨dr, hdr⟩ : ∃ dr, (Ch.kn N v).tu[i]? = some dr := ⟨_, List.getElem?_eq_getElem hi⟩
      have hd := (g6 i dr hdr).mono s
      have hlt := h8 dr (List.mem_of_getElem? hdr)
      have npa : as i ≠ p := ne_of hd D.at_ (by intro z; cases z)
      refine ⟨_, rfl, as i, rfl, ⟨_, SqT.of hd⟩, for_tup (K := K) (a := as i) (xs := dr.map vn) (fun l σ H' => ∃ ks g v4, σ = [some (.ref a), some (vn v), some (.ref p), some (.ref (as i)), v4] ∧ Same H H' ∧ DropAt H' (as i) dr ∧ DI H' p ks g ∧ ∀ t, g t = (Ch.cts ((Ch.kn N v).tu.take i) t : Nat) + ((dr.take l).count t : Nat)) ?_ ?_ ?_ ?_⟩
      · exact ⟨ks, g, v4, rfl, s, hd, D, fun t => by rw [hg]; simp⟩
      · rintro l σ H2 _ ⟨_, _, _, _, _, hd2, _⟩
        exact SqT.of hd2
      · rintro l x σ H2 hx ⟨ks, g, v4, rfl, s2, hd2, D2, hg2⟩
        rw [List.getElem?_map] at hx
        cases hl : dr[l]? with
        | none => rw [hl] at hx; cases hx
        | some u =>
          rw [hl] at hx
          cases hx
          have hu8 : u < 8 := hlt u (List.mem_of_getElem? hl)
          obtain ⟨o, e1, e2⟩ := D2.get u
          obtain ⟨H3, p1, p2, p3⟩ := D2.put hu8 (g u + 1)
          refine ⟨_, rfl, p, rfl, isD D2.at_, _, rfl, o, e1, g u, 1, e2, rfl, ?_⟩
          refine ⟨_, rfl, _, rfl, p, H3, rfl, p1, ?_⟩
          have ht1 : dr.take (l + 1) = dr.take l ++ [u] := by rw [List.take_succ, hl]; rfl
          refine ⟨_, _, _, rfl, by rw [p2]; exact s2.mut hp, by rw [p2]; unfold DropAt; rw [upd_ne npa]; exact hd2, p3, fun t => ?_⟩
          rw [ht1, List.count_append]
          unfold gput
          by_cases c : t = u
          · subst c
            rw [if_pos rfl, hg2]
            simp; omega
          · rw [if_neg c, hg2, List.count_eq_zero_of_not_mem (a := t) (l := [u]) (by simp [c])]
            simp
      · rintro σ H2 ⟨ks, g, v4, rfl, s2, hd2, D2, hg2⟩
        refine ⟨_, _, _, _, rfl, s2, D2, fun t => ?_⟩
        rw [hg2, cts_succ _ _ _ hdr, List.length_map, List.take_of_length_le (Nat.le_refl _)]
        push_cast; rfl
    · rintro σ H' ⟨ks, g, v3, v4, rfl, s, D, hg⟩
      have e : g = fun t => ((Ch.cnt N v t : Nat) : Int) := by
        funext t
        rw [hg, List.length_map, List.length_range, List.take_of_length_le (Nat.le_refl _)]
      subst e
      exact ⟨_, rfl, k p ks H' hp s D⟩
end
end K11
end
section
set_option Elab.async false
set_option linter.all false
set_option maxRecDepth 100000
namespace K11
open PySem PySem.Spec PyProof.Rows L2
open C8 (Cal Met Mak)
section
variable {P : Program} {w : World} {K : PySem.W.Frag} {mg : Str → Option Value} {base : Heap}
/-! ### the law's inlets -/
def sp_w_inlets (K : PySem.W.Frag) : Sp := fun vs H Q _ => ∃ (a kd : Addr) (ns : List Int) (at_ : Nat) (N : Ch.Nt), vs = [.ref a, .int (at_ : Nat), .ref kd] ∧ SqL K H a (ns.map V.int) ∧ ns.length ≤ 63 ∧ at_ ≤ 10000 ∧ KnotsAt H kd N ∧ 1 ≤ N.length ∧ N.length ≤ 4 ∧ ∀ (p : Addr) (j : Nat) H', Same H H' → j < N.length → H' p = some (.dK (dk [6, 7] fun t => vn (if t = 6 then 0 else j))) → Q (.ref p) H'
theorem sc_w_inlets : FnScope ["_law_script", "_law_at", "_law_knots_here"] ["_law_script", "_law_at", "_law_knots_here"] d_w_inlets.scope := ⟨rfl, rfl, rfl, by decide +kernel, rfl, by decide +kernel, by decide +kernel⟩
theorem ok_w_inlets (T : Txt K mg) (c_w_draw : Cal P w K mg base 1 "_law_draw" (sp_w_draw K) []) : Cal P w K mg base 2 "_law_inlets" (sp_w_inlets K) [] := by
  refine cal_mk d_w_inlets T.d_w_inlets T.g__law_inlets sc_w_inlets (fun vs H Q E h => ?_) (fun _ _ _ _ _ _ us hl => match us, hl with | [_, _, _], _ => rfl) (fun cdv A outer s H vs Q E hr h => ?_)
  · obtain ⟨_, _, _, _, _, rfl, _⟩ := h
    rfl
  · have hu := hu_of hr
    obtain ⟨a, kd, ns, at_, N, rfl, ha, hn, hat, hk, h1, h4, k⟩ := h
    refine ⟨_, (pss_one (ps_ret (pe_disp (pps_cons pe_str pe_str (pps_cons pe_str (pe_ix ix_list (pe_callB cr_sortedS (by rfl) T.f_sorted (by decide +kernel) (pa_cons (pe_callTy (call_list_dK rfl) (by rfl) T.f_list (by decide +kernel) (pa_cons (pv 2) pa_nil)) pa_nil)) (C8.pe_c c_w_draw hr (by decide) rfl (pa_cons (pv 0) (pa_cons (pv 1) (pa_cons (pe_callB call_lenD (by rfl) T.f_len (by decide +kernel) (pa_cons (pv 2) pa_nil)) pa_nil)))) (fun _ _ => rfl)) pps_nil)) (by rfl) (by rfl) (fun z => by cases z) (by decide)))), ?_⟩
    intro p hp
    obtain ⟨ks, q1, q2⟩ := hk
    have s0 : Same H (upd H p (.dK [])) := Same.new hp
    have e0 : upd H p (.dK []) p = some (.dK []) := upd_same
    generalize upd H p (.dK []) = H0 at *
    refine ⟨_, rfl, kd, _, rfl, s0 _ _ q1, fun q hq => ?_⟩
    have ek : (dk (List.range N.length) fun v => V.ref (ks v)).map (fun kv => kV kv.1) = ((List.range N.length).map nm).map V.str := by
      rw [vn_map]; exact keysV_dk _ _
    rw [ek]
    have s1 := Same.new (o := .lst (((List.range N.length).map nm).map V.str)) hq
    have e1 : upd H0 q (.lst (((List.range N.length).map nm).map V.str)) q = some (.lst (((List.range N.length).map nm).map V.str)) := upd_same
    generalize upd H0 q (.lst (((List.range N.length).map nm).map V.str)) = H1 at *
    refine ⟨q, _, rfl, SqL.of e1, (by rw [List.length_map, List.length_range]; omega), fun ys l perm _ hl => ?_⟩
    have s2 := Same.new (o := .lst (ys.map V.str)) hl
    have e2 : upd H1 l (.lst (ys.map V.str)) l = some (.lst (ys.map V.str)) := upd_same
    generalize upd H1 l (.lst (ys.map V.str)) = H2 at *
    have s02 := (s0.trans s1).trans s2
    have hln : (dk (List.range N.length) fun v => V.ref (ks v)).length = N.length := by rw [dk_len, List.length_range]
    refine ⟨_, rfl, _, rfl, _, rfl, kd, _, rfl, s02 _ _ q1, a, ns, at_, _, rfl, s02.seq ha, hn, by rw [hln]; exact h1, hat, fun d H3 s3 hd => ?_⟩
    rw [hln] at hd
    have yl : ys.length = N.length := by rw [perm.length_eq, List.length_map, List.length_range]
    obtain ⟨y, hy⟩ : ∃ y, ys[d]? = some y := ⟨_, List.getElem?_eq_getElem (by omega)⟩
    obtain ⟨j, hj, rfl⟩ := List.mem_map.mp (perm.mem_iff.mp (List.mem_of_getElem? hy))
    refine ⟨l, _, _, _, rfl, rfl, SqL.of (s3 _ _ e2), atI_nat (by rw [List.getElem?_map, hy]; rfl), ?_⟩
    refine ⟨s3 _ _ (s2 _ _ (s1 _ _ e0)), [(ky 6, vn 0), (ky 7, vn j)], rfl, (by show 2 ≤ 15; decide), ?_⟩
    refine k p j _ ((s02.trans s3).mut hp) (List.mem_range.mp hj) ?_
    rw [upd_same]; rfl
end
end K11
end
section
set_option Elab.async false
set_option linter.all false
set_option maxRecDepth 100000
namespace K11
open PySem PySem.Spec PyProof.Rows L2
open C8 (Cal Met Mak)
section
variable {P : Program} {w : World} {K : PySem.W.Frag} {mg : Str → Option Value} {base : Heap}
/-! ### the law's matrix -/
def rLenSeq (K : PySem.W.Frag) : List V → Hp → VK → Prop := fun xs H Q => ∃ p ys, xs = [.ref p] ∧ (SqL K H p ys ∨ SqT K H p ys) ∧ Q (.int ys.length) H
/-- sorted(list(d)), d a dict by knots -/
theorem srt_keys {te : TE} {σ : L2.St} {H : Hp} {a : Addr} {n : Nat} {f : Nat → V} {Q : VK} (hn : n ≤ 4) (ha : H a = some (.dK (dk (List.range n) f)))
    (hi : ∀ R : V → Hp → Prop, R (.ref a) H → te σ H R) (k : ∀ p H', H p = none → Same H H' → H' p = some (.lst ((List.range n).map vn)) → Q (.ref p) H') : tCB (rSortedS K) (tCons (tCB rListD (tCons te tNil)) tNil) σ H Q := by
  refine hi _ ⟨a, _, rfl, ha, fun q hq => ?_⟩
  have ek : (dk (List.range n) f).map (fun kv => kV kv.1) = ((List.range n).map nm).map V.str := by
    rw [vn_map]; exact keysV_dk _ _
  rw [ek]
  have s1 := Same.new (o := .lst (((List.range n).map nm).map V.str)) hq
  have e1 : upd H q (.lst (((List.range n).map nm).map V.str)) q = some (.lst (((List.range n).map nm).map V.str)) := upd_same
  generalize upd H q (.lst (((List.range n).map nm).map V.str)) = H1 at *
  refine ⟨q, _, rfl, SqL.of e1, (by rw [List.length_map, List.length_range]; omega), fun ys l perm so hl => ?_⟩
  have eys := sorted_one perm so (range_sorted hn)
  subst eys
  rw [vn_map]
  have hl' : H l = none := by
    cases c : H l with
    | none => rfl
    | some o => rw [s1 _ _ c] at hl; cases hl
  exact k l _ hl' (s1.trans (Same.new hl)) upd_same
def sp_w_matrix (K : PySem.W.Frag) : Sp := fun vs H Q _ => ∃ (a : Addr) (N : Ch.Nt), vs = [.ref a] ∧ KnotsAt H a N ∧ N.length ≤ 4 ∧ (∀ v, v < N.length → ∀ d ∈ (Ch.kn N v).tu, ∀ x ∈ d, x < 8) ∧
  ∀ p H', Same H H' → MatAt H' p N.length N.length (Ch.latt N) → Q (.ref p) H'
theorem sc_w_matrix : FnScope ["_law_knots_here", "_law_names", "_law_name", "_law_other"] ["_law_knots_here"] d_w_matrix.scope := ⟨rfl, rfl, rfl, by decide +kernel, rfl, by decide +kernel, by decide +kernel⟩
theorem ok_w_matrix (T : Txt K mg) (c__law_falls : Cal P w K mg base 1 "_law_falls" (sp_w_falls K) []) : Cal P w K mg base 2 "_law_matrix" (sp_w_matrix K) [] := by
  refine cal_mk d_w_matrix T.d_w_matrix T.g__law_matrix sc_w_matrix (fun vs H Q E h => ?_) (fun _ _ _ _ _ _ us hl => match us, hl with | [_], _ => rfl) (fun cdv A outer s H vs Q E hr h => ?_)
  · obtain ⟨_, _, rfl, _⟩ := h
    rfl
  · have hu := hu_of hr
    obtain ⟨a, N, rfl, hk, n4, h8, k⟩ := h
    refine ⟨_, (pss_cons (ps_set (i := 1) sc_w_matrix.nd rfl (Or.inr rfl) (pe_callB cr_sortedS (by rfl) T.f_sorted (by decide +kernel) (pa_cons (pe_callTy (call_list_dK rfl) (by rfl) T.f_list (by decide +kernel) (pa_cons (pv 0) pa_nil)) pa_nil)))
      (pss_one (ps_ret (pe_lc (te := tLc (iList K (tVar 1)) (gName 3) tYes (tOp _ (tIf _ (tCB (rLenSeq K) (tCons (tOp (rIxT K) _ _) tNil)) _) _) [3]) (own := [("_law_name", 2)]) (by rfl) sc_w_matrix.nd (pi_list (pv 1)) (blkOk_by (own := [("_law_name", 2)]) (by rfl)) (fun _ _ _ _ _ => (pg_name (i := 2) sc_w_matrix.nd rfl (Or.inr rfl))) (fun _ _ _ _ _ => pts_nil) (fun _ _ _ _ _ => (pe_lc (te := tOp _ (tIf _ (tCB (rLenSeq K) (tCons (tOp (rIxT K) _ _) tNil)) _) _) (own := [("_law_other", 3)]) (by rfl) sc_w_matrix.nd (pi_list (pv 1)) (blkOk_by (own := [("_law_other", 3)]) (by rfl)) (fun _ _ _ _ _ => (pg_name (i := 3) sc_w_matrix.nd rfl (Or.inl rfl))) (fun _ _ _ _ _ => pts_nil) (fun _ _ _ _ _ => (pe_op op_sub (pe_ifExp (pt_cmpR op_eq (pv 2) (pv 3) (nomark _)) (pe_callB call_len_seq (by rfl) T.f_len (by decide +kernel) (pa_cons (pe_ix ix_tup (pe_dget hu (pv 0) (pv 2) (fun _ _ => rfl)) pe_int (fun _ _ => rfl)) pa_nil)) pe_int) (pe_dget2 hu (C8.pe_c c__law_falls hr (by decide) rfl (pa_cons (pv 0) (pa_cons (pv 2) pa_nil))) (pv 3) pe_int ⟨rfl, rfl, rfl, rfl⟩))))))))), ?_⟩
    obtain ⟨ks, q1, q2⟩ := id hk
    refine srt_keys n4 q1 (fun R r => ⟨_, rfl, r⟩) fun p H1 hp s1 e1 => ?_
    refine ⟨_, rfl, p, rfl, ⟨_, SqL.of e1⟩, ?_⟩
    refine lc_pred (walk_list (xs := (List.range N.length).map vn)) (fun i y H => ∃ q, y = .ref q ∧ IRow H q N.length (Ch.latt N i)) (by rw [mlen]; omega) (fun H' s => SqL.of (s _ _ e1)) ?_ ?_
    · rintro D i x H2 H2' acc R hi hD s2 ha ⟨rfl, hx⟩ kk
      rw [mlen] at hi
      rw [mget _ hi] at hx
      cases hx
      refine ⟨rfl, _, rfl, p, rfl, ⟨_, SqL.of (s2 _ _ e1)⟩, ?_⟩
      refine lc_vals (walk_list (xs := (List.range N.length).map vn)) (fun u => .int (Ch.latt N i u)) (by rw [mlen]; omega) (fun H' s => SqL.of (s _ _ (s2 _ _ e1))) ?_ ?_
      · rintro u x H3 H4 R3 hu' s3 ⟨rfl, hx⟩ k3
        rw [mlen] at hu'
        rw [mget _ hu'] at hx
        cases hx
        have s13 := (s1.trans s2).trans s3
        have hkm := hk.mono s13
        have fin : ∀ z : Int, (∀ (q : Addr) ks H5, H4 q = none → Same H4 H5 → DI H5 q ks (fun t => (Ch.cnt N i t : Nat)) → z - (Ch.cnt N i u : Nat) = Ch.latt N i u → ∃ o, DGet H5 q (vn u) o ∧ o.getD (.int 0) = .int (Ch.cnt N i u : Nat) ∧ R3 (.int (z - (Ch.cnt N i u : Nat))) H5) := fun z q ks H5 hq s5 DD ez => by
          obtain ⟨o, g1, g2⟩ := DD.get u
          refine ⟨o, g1, g2, ?_⟩
          rw [ez]; exact k3 H5 s5
        refine ⟨rfl, _, rfl, _, rfl, rfl, _, rfl, ?_⟩
        rw [vn_eq]
        refine ite2 (fun c => ?_) (fun c => ?_)
        · have c' : i = u := of_decide_eq_true c
          obtain ⟨kv, f, tu, g1, g2, g3, g4⟩ := hkm.get hi
          obtain ⟨as, g5, g6⟩ := g4
          refine ⟨_, rfl, _, rfl, a, _, rfl, g1, kv, _, _, _, rfl, rfl, SqT.of g2, at1, tu, _, rfl, .inr (SqT.of g5), ?_⟩
          refine ⟨_, rfl, _, rfl, a, N, i, rfl, hkm, hi, h8 i hi, fun q ks H5 hq s5 DD => ?_⟩
          have ez : (((List.range (Ch.kn N i).tu.length).map fun i => V.ref (as i)).length : Int) - (Ch.cnt N i u : Nat) = Ch.latt N i u := by
            rw [mlen]; unfold Ch.latt; rw [if_pos c']
          obtain ⟨o, g7, g8, g9⟩ := fin _ q ks H5 hq s5 DD ez
          exact ⟨q, rfl, isD DD.at_, _, rfl, o, g7, _, _, rfl, g8, g9⟩
        · have c' : ¬ i = u := fun z => c (decide_eq_true z)
          refine ⟨_, rfl, _, rfl, a, N, i, rfl, hkm, hi, h8 i hi, fun q ks H5 hq s5 DD => ?_⟩
          have ez : (0 : Int) - (Ch.cnt N i u : Nat) = Ch.latt N i u := by
            unfold Ch.latt; rw [if_neg c']
          obtain ⟨o, g7, g8, g9⟩ := fin _ q ks H5 hq s5 DD ez
          exact ⟨q, rfl, isD DD.at_, _, rfl, o, g7, _, _, rfl, g8, g9⟩
      · intro l H3 hl s3 e3
        rw [mlen] at e3
        have nl : l ≠ D := fun z => by rw [z, ha] at hl; cases hl
        exact kk _ _ s3 fun H5 s5 => ⟨l, rfl, s5 _ _ nl e3⟩
    · intro D ys H2 hD s2 e2 hl hy
      rw [mlen] at hl
      obtain ⟨as, rfl, has⟩ := rows_of hl hy
      exact k D H2 (s1.trans s2) ⟨as, e2, has⟩
end
end K11
end
section
set_option Elab.async false
set_option linter.all false
set_option maxRecDepth 100000
/-! K8: comprehensions with a test whose items are told by a word. -/
namespace K11
open PySem PySem.Spec PyProof.Rows L2
open C8 (Cal Met Mak)
section
variable {J : It} {n : Nat} {G : Hp → Prop} {Y : Nat → Hp → V → Hp → Prop} {g : TG} {te : TE} {tt : TT} {vs : List Nat} {σ : L2.St} {H1 : Hp}
theorem filt_succ (c : Nat → Bool) (i : Nat) : (List.range (i + 1)).filter c = (List.range i).filter c ++ (if c i = true then [i] else []) := by
  rw [List.range_succ, List.filter_append]
  congr 1
  by_cases h : c i = true
  · rw [if_pos h, List.filter_cons, if_pos h]; rfl
  · rw [if_neg h, List.filter_cons, if_neg h]; rfl
/-- items told by a word, for the i that pass c -/
theorem lc_filtp (w : Walk J n G Y) (c : Nat → Bool) (Pe : Nat → V → Hp → Prop) (hz : n ≤ 100000) (hG : ∀ H, Same H1 H → G H)
    (turn : ∀ D i x H H' acc (R : Bool → L2.St → Hp → Prop), i < n → H1 D = none → Same H1 H → H D = some (.lst acc) → Y i H x H' →
      (∀ σ2 H4, Same H H4 → (c i = true → te σ2 H4 fun y H5 => Same H4 H5 ∧ ∀ H6, SameX D H5 H6 → Pe i y H6) → R (c i) σ2 H4) → g x (wipe σ vs) H' fun σ2 H2 => wipe σ2 vs = wipe σ vs ∧ tt σ2 H2 fun b H3 => R b σ2 H3)
    (mono : ∀ σ H (R R' : V → Hp → Prop), te σ H R → (∀ y H', R y H' → R' y H') → te σ H R')
    {Q : Addr → Hp → Prop} (done : ∀ (D : Addr) (ys : List V) (H' : Hp), H1 D = none → Same H1 H' → H' D = some (.lst ys) → ys.length = ((List.range n).filter c).length → (∀ (k i : Nat), ((List.range n).filter c)[k]? = some i → ∃ y, ys[k]? = some y ∧ Pe i y H') → Q D H') :
    ∀ D, H1 D = none → ∃ W : Nat → Nat → Hp → Prop, (∃ m, W 0 m (upd H1 D (.lst []))) ∧ ∀ i m H, W i m H →
    (J.stop i H ∧ Q D H) ∨ (J.go i H ∧ ∃ Nx : Hp → Prop, (∀ H', Nx H' → ∃ m', m' < m ∧ W (i + 1) m' H') ∧ ∀ x H', J.yld i H x H' → g x (wipe σ vs) H' fun σ2 H2 => wipe σ2 vs = wipe σ vs ∧ tt σ2 H2 fun b H3 =>
      if b = true then te σ2 H3 fun y H4 => ∃ acc, H4 D = some (.lst acc) ∧ acc.length < sizeLine ∧ Nx (upd H4 D (.lst (acc ++ [y]))) else Nx H3) := fun D hD => by
  refine lc_it w (Qd := fun H => Q D H) (fun i H => Same H1 H ∧ ∃ acc : List V, H D = some (.lst acc) ∧ acc.length = ((List.range i).filter c).length ∧ ∀ (k j : Nat), ((List.range i).filter c)[k]? = some j → ∃ y, acc[k]? = some y ∧ ∀ H5, SameX D H H5 → Pe j y H5) ?_ (fun i H _ p => hG H p.1) ?_ ?_
  · exact ⟨Same.new hD, [], upd_same, rfl, fun k j h => by simp at h⟩
  · rintro i x H H' hi ⟨s, acc, ha, hl, hp⟩ hy
    refine turn D i x H H' acc (fun b σ2 H3 => if b = true then te σ2 H3 fun y H4 => ∃ acc, H4 D = some (.lst acc) ∧ acc.length < sizeLine ∧ _ else _) hi hD s ha hy fun σ2 H4 s4 k => ?_
    have ha4 := s4 _ _ ha
    have hle : ((List.range i).filter c).length ≤ i := by
      have := List.length_filter_le c (List.range i)
      rw [List.length_range] at this; exact this
    by_cases h : c i = true
    · rw [h]
      refine iteT (mono _ _ _ _ (k h) fun y H5 ⟨s5, py⟩ => ?_)
      refine ⟨acc, s5 _ _ ha4, sz5 (by omega), ((s.trans s4).trans s5).mut hD, acc ++ [y], upd_same, ?_, fun r j hr => ?_⟩
      · rw [filt_succ, if_pos h, List.length_append, List.length_append, hl]; rfl
      · rw [filt_succ, if_pos h] at hr
        rcases Nat.lt_or_ge r ((List.range i).filter c).length with d | d
        · rw [List.getElem?_append_left d] at hr
          obtain ⟨z, hz1, hz2⟩ := hp r j hr
          refine ⟨z, by rw [List.getElem?_append_left (by omega)]; exact hz1, fun H6 s6 => hz2 H6 ?_⟩
          exact ((s4.trans s5).x.trans SameX.upd).trans s6
        · rw [List.getElem?_append_right d] at hr
          have e : r = ((List.range i).filter c).length := by
            rcases Nat.eq_or_lt_of_le d with e | e
            · exact e.symm
            · rw [List.getElem?_eq_none (by simp; omega)] at hr; cases hr
          subst e
          rw [Nat.sub_self] at hr
          cases hr
          refine ⟨y, by rw [List.getElem?_append_right (by omega), hl, Nat.sub_self]; rfl, fun H6 s6 => py H6 (SameX.upd.trans s6)⟩
    · have h' : c i = false := by cases hh : c i; rfl; exact absurd hh h
      rw [h']
      refine iteF ⟨s.trans s4, acc, ha4, ?_, fun r j hr => ?_⟩
      · rw [filt_succ, if_neg h, List.append_nil]; exact hl
      · rw [filt_succ, if_neg h, List.append_nil] at hr
        obtain ⟨z, hz1, hz2⟩ := hp r j hr
        exact ⟨z, hz1, fun H6 s6 => hz2 H6 (s4.x.trans s6)⟩
  · rintro H ⟨s, acc, ha, hl, hp⟩
    exact done D acc H hD s ha hl fun k i h => by
      obtain ⟨y, h1, h2⟩ := hp k i h
      exact ⟨y, h1, h2 H (SameX.refl _ _)⟩
/-- all but one -/
theorem filt_ne {m a : Nat} (ha : a < m + 1) : (List.range (m + 1)).filter (fun i => !decide (i = a)) = (List.range m).map fun r => if r < a then r else r + 1 := by
  have key : ∀ n, (List.range n).filter (fun i => !decide (i = a)) = if n ≤ a then List.range n else (List.range (n - 1)).map fun r => if r < a then r else r + 1 := fun n => by
    induction n with
    | zero => simp
    | succ n ih =>
      rw [filt_succ, ih]
      by_cases c : n + 1 ≤ a
      · rw [if_pos (by omega), if_pos c, if_pos (by simp; omega), List.range_succ]
      · rw [if_neg c]
        by_cases e : n = a
        · subst e
          rw [if_pos (Nat.le_refl _), if_neg (by simp), List.append_nil, Nat.add_sub_cancel]
          conv => lhs; rw [← List.map_id (List.range n)]
          exact List.map_congr_left fun r hr => by rw [if_pos (List.mem_range.mp hr)]; rfl
        · rw [if_neg (by omega), if_pos (by simp [e]), Nat.add_sub_cancel]
          obtain ⟨k, rfl⟩ : ∃ k, n = k + 1 := ⟨n - 1, by omega⟩
          rw [Nat.add_sub_cancel, List.range_succ, List.map_append, List.map_singleton, if_neg (by omega)]
  rw [key, if_neg (by omega), Nat.add_sub_cancel]
end
end K11
end
section
set_option Elab.async false
set_option linter.all false
set_option maxRecDepth 100000
namespace K11
open PySem PySem.Spec PyProof.Rows L2
open C8 (Cal Met Mak)
section
variable {P : Program} {w : World} {K : PySem.W.Frag} {mg : Str → Option Value} {base : Heap}
/-! ### the law's determinant -/
def irowD (m : Nat) (x : Nat → Int) : PyData := .list ((List.range m).map fun j => .int (x j))
def matD (n m : Nat) (T : Nat → Nat → Int) : PyData := .list ((List.range n).map fun i => irowD m (T i))
theorem irow_dp {H : Hp} {a : Addr} {m : Nat} {x : Nat → Int} (h : IRow H a m x) : Dp K H (.ref a) (irowD m x) := .lst (SqL.of h) (DpAll.map fun i _ => .int _)
theorem mat_dp {H : Hp} {a : Addr} {n m : Nat} {T : Nat → Nat → Int} (h : MatAt H a n m T) : Dp K H (.ref a) (matD n m T) := by
  obtain ⟨as, h1, h2⟩ := h
  exact .lst (SqL.of h1) (DpAll.map fun i hi => irow_dp (h2 i (List.mem_range.mp hi)))
theorem irow_lay (m : Nat) (x : Nat → Int) : (irowD m x).canLay0 = true := by
  show PyData.canLay0 (.list _) = true
  rw [PyData.canLay0]; exact lay_map fun j _ => by rw [PyData.canLay0]
theorem irow_depth (m : Nat) (x : Nat → Int) : (irowD m x).depth ≤ 1 := by
  show PyData.depth (.list _) ≤ 1
  rw [PyData.depth]
  have : PyData.depthAll ((List.range m).map fun j => PyData.int (x j)) ≤ 0 := depth_map fun j _ => by rw [PyData.depth]; exact Nat.le_refl _
  omega
theorem mat_shaped (n m : Nat) (T : Nat → Nat → Int) : SeqAt.shaped (matD n m T) = true := by
  refine shape_mk ?_ ?_
  · show PyData.canLay0 (.list _) = true
    rw [PyData.canLay0]; exact lay_map fun i _ => irow_lay m (T i)
  · show PyData.depth (.list _) ≤ 64
    rw [PyData.depth]
    have : PyData.depthAll ((List.range n).map fun i => irowD m (T i)) ≤ 1 := depth_map fun i _ => irow_depth m (T i)
    omega
theorem mat_nil (n m : Nat) (T : Nat → Nat → Int) : PyData.eqv (matD n m T) (.list []) = decide (n = 0) := by
  show PyData.eqv (.list _) (.list _) = _
  rw [PyData.eqv]
  cases n with
  | zero => rfl
  | succ n => rw [List.range_succ_eq_map, decide_eq_false (by omega)]; rfl
theorem cut_from1 {m : Nat} {f : Nat → V} : cutV ((List.range (m + 1)).map f) (some 1) none = (List.range m).map fun j => f (j + 1) := by
  unfold cutV
  have h2 : HT.sIx ((List.range (m + 1)).map f).length 0 (some ((1 : Nat) : Int)) = min 1 ((List.range (m + 1)).map f).length := HT.sIx_nat _ _ _
  have h3 : HT.sIx ((List.range (m + 1)).map f).length ((List.range (m + 1)).map f).length none = ((List.range (m + 1)).map f).length := rfl
  have h4 : (some (1 : Int)) = some ((1 : Nat) : Int) := rfl
  rw [h4, h2, h3, mlen, Nat.min_eq_left (by omega), List.range_succ_eq_map, List.map_cons, List.map_map]
  rw [List.drop_succ_cons, List.drop_zero, Nat.add_sub_cancel, List.take_of_length_le (by simp)]
  rfl
/-- the promise by depth -/
def spd (K : PySem.W.Frag) (k : Nat) : Sp := fun vs H Q _ => ∃ (n : Nat) (a : Addr) (M : Nat → Nat → Int), n < k ∧ vs = [.ref a] ∧ MatAt H a n n M ∧ n ≤ 4 ∧ (∀ i j, i < n → j < n → (M i j).natAbs ≤ 10) ∧ ∀ H', Same H H' → Q (.int (Ch.ldet n M)) H'
theorem sc_w_det : FnScope ["_law_rows", "_law_found", "_law_at", "_law_row", "_law_less", "_law_spot", "_law_one"] ["_law_rows"] d_w_det.scope := ⟨rfl, rfl, rfl, by decide +kernel, rfl, by decide +kernel, by decide +kernel⟩
theorem det_base (T : Txt K mg) : Cal P w K mg base 1 "_law_det" (spd K 0) [] := by
  refine cal_mk d_w_det T.d_w_det T.g__law_det sc_w_det (fun vs H Q E h => ?_) (fun _ _ _ _ _ _ us hl => match us, hl with | [_], _ => rfl) (fun cdv A outer s H vs Q E hr h => ?_)
  · obtain ⟨_, _, _, h, _⟩ := h
    exact absurd h (Nat.not_lt_zero _)
  · obtain ⟨_, _, _, h, _⟩ := h
    exact absurd h (Nat.not_lt_zero _)
theorem det_step (T : Txt K mg) {l k : Nat} (c__law_det : Cal P w K mg base l "_law_det" (spd K k) []) : Cal P w K mg base (l + 1) "_law_det" (spd K (k + 1)) [] := by
  refine cal_mk d_w_det T.d_w_det T.g__law_det sc_w_det (fun vs H Q E h => ?_) (fun _ _ _ _ _ _ us hl => match us, hl with | [_], _ => rfl) (fun cdv A outer s H vs Q E hr h => ?_)
  · obtain ⟨_, _, _, _, rfl, _⟩ := h
    rfl
  · have hu := hu_of hr
    obtain ⟨n, a, M, hn, rfl, hM, n4, hb, q⟩ := h
    refine ⟨_, (pss_cons (ps_if (pt_cmpR (op_eqD hr.units) (pv 0) (pe_lst pa_nil) (nomark _))
      (pss_one (ps_ret pe_int))
      pss_nil)
      (pss_cons (ps_set (i := 1) sc_w_det.nd rfl (Or.inl rfl) pe_int)
      (pss_cons (ps_for PassesOwn.never rfl (pi_enum rfl T.f_enumerate (pa_cons (pv 0) pa_nil)) (pg_tup rfl (pgs_cons (pg_name (i := 2) sc_w_det.nd rfl (Or.inr rfl)) (pgs_cons (pg_name (i := 3) sc_w_det.nd rfl (Or.inl rfl)) pgs_nil)))
      (pss_one (ps_if (pt_cmpR op_ne (pe_ix ix_list (pv 3) pe_int (fun _ _ => rfl)) pe_int (nomark _))
        (pss_cons (ps_setLc (i := 4) (te := tSl (rSlL K) _ _ _) (g := gTup K 2 (gCons (gName 5) (gCons (gName 6) gNil))) (own := [("_law_spot", 5), ("_law_one", 6)]) (by rfl) sc_w_det.nd rfl rfl (sw_true rfl rfl rfl (by decide +kernel)) (pi_enum rfl T.f_enumerate (pa_cons (pv 0) pa_nil)) (blkOk_by (own := [("_law_spot", 5), ("_law_one", 6)]) (by rfl)) (fun _ _ _ _ _ => (pg_tup rfl (pgs_cons (pg_name (i := 5) sc_w_det.nd rfl (Or.inl rfl)) (pgs_cons (pg_name (i := 6) sc_w_det.nd rfl (Or.inl rfl)) pgs_nil)))) (fun _ _ _ _ _ => (pts_one (pt_cmpR op_ne (pv 5) (pv 2) (nomark _)))) (fun _ _ _ _ _ => (pe_slice sl_list (pv 6) (po_some pe_int) po_none)))
          (pss_one (ps_set (i := 1) sc_w_det.nd rfl (Or.inl rfl) (pe_op op_add (pv 1) (pe_op op_mulW (pe_op op_mulW (pe_ifExp (pt_cmpR op_eq (pe_op op_mod (pv 2) pe_int) pe_int (nomark _)) pe_int (pe_un un_neg pe_int)) (pe_ix ix_list (pv 3) pe_int (fun _ _ => rfl))) (C8.pe_c c__law_det hr (Nat.le_refl _) rfl (pa_cons (pv 4) pa_nil)))))))
        pss_nil)))
      (pss_one (ps_ret (pv 1)))))), ?_⟩
    refine ⟨_, rfl, (by show 0 ≤ sizeLine; exact Nat.zero_le _), fun z hz => ?_⟩
    have s1 := Same.new (o := .lst []) hz
    refine ⟨_, _, mat_dp (hM.mono s1), .lst (SqL.of upd_same) .nil, mat_shaped _ _ _, rfl, _, rfl, ?_⟩
    rw [mat_nil]
    generalize upd H z (.lst []) = H1 at *
    refine ite2 (fun c => ?_) (fun c => ?_)
    · have e : n = 0 := of_decide_eq_true c
      subst e
      exact q H1 s1
    obtain ⟨m, rfl⟩ : ∃ m, n = m + 1 := ⟨n - 1, by have : ¬ n = 0 := fun e => c (decide_eq_true e); omega⟩
    obtain ⟨as, hM1, hM2⟩ := hM
    refine ⟨_, rfl, a, _, rfl, SqL.of (s1 _ _ hM1), ?_⟩
    refine fr_it (walk_enum (K := K) (a := a) (xs := rws (m + 1) as)) (fun i σ H' => ∃ (v2 v3 v4 : Option V), σ = [some (.ref a), some (.int (Ch.sumN i fun i => Ch.sgn i * M i 0 * Ch.ldet m (Ch.less M i))), v2, v3, v4, none, none] ∧ Same H H') ?_ ?_ ?_ ?_
    · exact ⟨none, none, none, rfl, s1⟩
    · rintro i σ H' _ ⟨_, _, _, rfl, s⟩
      exact SqL.of (s _ _ hM1)
    · rintro i x σ H2 H2' hi ⟨v2, v3, v4, rfl, s2⟩ ⟨T', x1, y1, rfl, hT, rfl, e1, e2⟩
      rw [rws_len] at hi
      simp only [rws_get as hi] at e2
      cases e1
      cases e2
      have s3 := s2.trans (Same.new (o := .tup [.int (i : Nat), .ref (as i)]) hT)
      refine ⟨T', _, rfl, SqT.of upd_same, rfl, _, _, rfl, _, _, rfl, rfl, ?_⟩
      generalize upd H2 T' (.tup [.int (i : Nat), .ref (as i)]) = H3 at *
      have row := s3 _ _ (hM2 i hi)
      have term : ∀ d : Int, d = Ch.ldet m (Ch.less M i) → (Ch.sumN i fun i => Ch.sgn i * M i 0 * Ch.ldet m (Ch.less M i)) + Ch.sgn i * M i 0 * d = Ch.sumN (i + 1) fun i => Ch.sgn i * M i 0 * Ch.ldet m (Ch.less M i) := fun d e => by rw [e]; rfl
      refine ⟨_, rfl, as i, _, _, _, rfl, rfl, SqL.of row, atI_nat (j := 0) (mget _ (by omega)), ?_⟩
      refine ⟨rfl, _, rfl, ?_⟩
      refine ite2 (fun c => ?_) (fun c => ?_)
      · refine ⟨_, rfl, a, _, rfl, SqL.of (s3 _ _ hM1), ?_⟩
        refine lc_filtp (walk_enum (K := K) (a := a) (xs := rws (m + 1) as)) (fun r => !decide (r = i)) (fun r y H => ∃ q, y = .ref q ∧ IRow H q m fun j => M r (j + 1)) (by rw [rws_len]; omega) (fun H' s => SqL.of (s _ _ (s3 _ _ hM1))) ?_ ?_ ?_
        · rintro D r x H4 H4' acc R hr4 hD s4 ha ⟨T2, x2, y2, rfl, hT2, rfl, e3, e4⟩ kk
          rw [rws_len] at hr4
          simp only [rws_get as hr4] at e4
          cases e3
          cases e4
          refine ⟨T2, _, rfl, SqT.of upd_same, rfl, _, _, rfl, _, _, rfl, rfl, rfl, _, rfl, _, rfl, rfl, _, rfl, ?_⟩
          have row4 : IRow (upd H4 T2 (.tup [.int (r : Nat), .ref (as r)])) (as r) (m + 1) (M r) := Same.new hT2 _ _ (s4 _ _ (s3 _ _ (hM2 r hr4)))
          have ec : (!decide (V.int ((r : Nat) : Int) = V.int ((i : Nat) : Int))) = !decide (r = i) := by
            by_cases e : r = i
            · subst e; simp
            · rw [decide_eq_false e, decide_eq_false (fun z => e (by have := V.int.inj z; omega))]
          rw [ec]
          refine kk _ _ (Same.new hT2) fun _ => ⟨_, rfl, _, rfl, as r, _, rfl, SqL.of row4, fun p hp => ?_⟩
          rw [cut_from1]
          have nl : p ≠ D := fun z => by
            have := Same.new (o := .tup [.int (r : Nat), .ref (as r)]) hT2 _ _ ha
            rw [← z, hp] at this; cases this
          exact ⟨Same.new hp, fun H6 s6 => ⟨p, rfl, s6 _ _ nl upd_same⟩⟩
        · intro σ H R R' h1 h2
          obtain ⟨v, e, j, ej, b, xs, e1, e2, k2⟩ := h1
          exact ⟨v, e, j, ej, b, xs, e1, e2, fun p hp => h2 _ _ (k2 p hp)⟩
        · intro D ys H4 hD s4 e4 hl hp
          rw [rws_len, filt_ne hi] at hl hp
          have hpr : ∀ r y, ys[r]? = some y → ∃ q, y = .ref q ∧ IRow H4 q m (Ch.less M i r) := fun r y hy => by
            have hr : r < m := by
              have := (List.getElem?_eq_some_iff.mp hy).1
              rw [hl, mlen] at this; exact this
            obtain ⟨y', h1, q, h2, h3⟩ := hp r _ (mget _ hr)
            rw [hy] at h1
            cases h1
            exact ⟨q, h2, h3⟩
          rw [mlen] at hl
          obtain ⟨as', rfl, has⟩ := rows_of hl hpr
          have s14 := s3.trans s4
          have hbl := Ch.less_bd hb i
          have hld := Ch.ldet_bd m hbl
          have hl4 := Ch.lb4 (n := m) (by omega)
          have hb0 := hb i 0 hi (by omega)
          have hsg : (Ch.sgn i).natAbs = 1 := by unfold Ch.sgn; split <;> rfl
          refine ⟨_, rfl, _, rfl, _, _, rfl, rfl, (by show (0 : Int) < 2; decide), rfl, _, rfl, ?_⟩
          refine ite2 (fun c => ?_) (fun c => ?_)
          · have es : Ch.sgn i = 1 := by
              have := of_decide_eq_true c
              have h2 : ((i : Nat) : Int) % 2 = 0 := V.int.inj this
              unfold Ch.sgn; rw [if_pos (by omega)]
            refine ⟨_, rfl, as i, _, _, _, rfl, rfl, SqL.of (s4 _ _ row), atI_nat (j := 0) (mget _ (by omega)), _, _, rfl, rfl, wide_mul (a := 20) (b := 20) (by decide) (by omega) (by decide) (by decide) (by decide), ?_⟩
            refine ⟨_, rfl, m, D, _, by omega, rfl, ⟨as', e4, has⟩, by omega, hbl, fun H5 s5 => ⟨_, _, rfl, rfl, wide_mul (a := 20) (b := 20) (by rw [Int.one_mul]; omega) (by omega) (by decide) (by decide) (by decide), _, _, rfl, rfl, some (.int (i : Nat)), some (.ref (as i)), some (.ref D), ?_, s14.trans s5⟩⟩
            rw [← term _ rfl, es]; rfl
          · have es : Ch.sgn i = -1 := by
              have h2 : ¬ ((i : Nat) : Int) % 2 = 0 := fun z => c (decide_eq_true (congrArg V.int z))
              unfold Ch.sgn; rw [if_neg (by omega)]
            refine ⟨_, rfl, _, rfl, as i, _, _, _, rfl, rfl, SqL.of (s4 _ _ row), atI_nat (j := 0) (mget _ (by omega)), _, _, rfl, rfl, wide_mul (a := 20) (b := 20) (by decide) (by omega) (by decide) (by decide) (by decide), ?_⟩
            refine ⟨_, rfl, m, D, _, by omega, rfl, ⟨as', e4, has⟩, by omega, hbl, fun H5 s5 => ⟨_, _, rfl, rfl, wide_mul (a := 20) (b := 20) (by rw [Int.neg_one_mul, Int.natAbs_neg]; omega) (by omega) (by decide) (by decide) (by decide), _, _, rfl, rfl, some (.int (i : Nat)), some (.ref (as i)), some (.ref D), ?_, s14.trans s5⟩⟩
            rw [← term _ rfl, es]; rfl
      · have e0 : M i 0 = 0 := by
          have h : ¬ (!decide (V.int (M i 0) = V.int 0)) = true := c
          by_cases z : M i 0 = 0
          · exact z
          · exact absurd (by rw [decide_eq_false (fun y => z (V.int.inj y))]; rfl) h
        refine ⟨some (.int (i : Nat)), some (.ref (as i)), v4, ?_, s3⟩
        rw [← term _ rfl, e0]; simp
    · rintro σ H' ⟨_, _, _, rfl, s⟩
      rw [rws_len]
      exact ⟨_, rfl, q H' s⟩
theorem ok_w_det (T : Txt K mg) : Cal P w K mg base 6 "_law_det" (spd K 5) [] := det_step T (det_step T (det_step T (det_step T (det_step T (det_base T)))))
end
end K11
end
section
set_option Elab.async false
set_option linter.all false
set_option maxRecDepth 100000
namespace K11
open PySem PySem.Spec PyProof.Rows L2
open C8 (Cal Met Mak)
section
variable {P : Program} {w : World} {K : PySem.W.Frag} {mg : Str → Option Value} {base : Heap}
/-! ### the law's does_end -/
theorem take_map {n k : Nat} (hk : k ≤ n) (f : Nat → V) : ((List.range n).map f).take k = (List.range k).map f := by
  rw [← List.map_take, List.take_range, Nat.min_eq_left hk]
def sp_w_does_end (K : PySem.W.Frag) : Sp := fun vs H Q _ => ∃ (a : Addr) (N : Ch.Nt), vs = [.ref a] ∧ KnotsAt H a N ∧ Ch.Drawn N ∧ ∀ b H', Same H H' → (b = true → Ch.EndsN N) → Q (.bl b) H'
theorem sc_w_does_end : FnScope ["_law_knots_here", "_law_rows", "_law_size", "_law_row"] ["_law_knots_here"] d_w_does_end.scope := ⟨rfl, rfl, rfl, by decide +kernel, rfl, by decide +kernel, by decide +kernel⟩
theorem ok_w_does_end (T : Txt K mg) (c__law_det : Cal P w K mg base 6 "_law_det" (spd K 5) []) (c__law_matrix : Cal P w K mg base 2 "_law_matrix" (sp_w_matrix K) []) : Cal P w K mg base 7 "_law_does_end" (sp_w_does_end K) [] := by
  refine cal_mk d_w_does_end T.d_w_does_end T.g__law_does_end sc_w_does_end (fun vs H Q E h => ?_) (fun _ _ _ _ _ _ us hl => match us, hl with | [_], _ => rfl) (fun cdv A outer s H vs Q E hr h => ?_)
  · obtain ⟨_, _, rfl, _⟩ := h
    rfl
  · have hu := hu_of hr
    obtain ⟨a, N, rfl, hk, D, k⟩ := h
    refine ⟨_, (pss_cons (ps_set (i := 1) sc_w_does_end.nd rfl (Or.inr rfl) (C8.pe_c c__law_matrix hr (by decide) rfl (pa_cons (pv 0) pa_nil)))
      (pss_one (ps_ret (pe_cmpR op_gt (pe_callB (cr_min rfl) (by rfl) T.f_min (by decide +kernel) (pa_cons (pe_lc (te := tCall (spd K 5) [] C8.E0 (tCons (tLc (iList K (tSl (rSlL K) (tVar 1) tNoPart (tPart (tVar 2)))) (gName 3) tYes (tSl (rSlL K) (tVar 3) tNoPart (tPart (tVar 2))) [3]) tNil)) (own := [("_law_size", 2)]) (by rfl) sc_w_does_end.nd (pi_range2 rfl T.f_range (pa_cons pe_int (pa_cons (pe_op op_add (pe_callB call_len_seq (by rfl) T.f_len (by decide +kernel) (pa_cons (pv 1) pa_nil)) pe_int) pa_nil))) (blkOk_by (own := [("_law_size", 2)]) (by rfl)) (fun _ _ _ _ _ => (pg_name (i := 2) sc_w_does_end.nd rfl (Or.inr rfl))) (fun _ _ _ _ _ => pts_nil) (fun _ _ _ _ _ => (C8.pe_c c__law_det hr (by decide) rfl (pa_cons (pe_lc (te := tSl (rSlL K) (tVar 3) tNoPart (tPart (tVar 2))) (own := [("_law_row", 3)]) (by rfl) sc_w_does_end.nd (pi_list (pe_slice sl_list (pv 1) po_none (po_some (pv 2)))) (blkOk_by (own := [("_law_row", 3)]) (by rfl)) (fun _ _ _ _ _ => (pg_name (i := 3) sc_w_does_end.nd rfl (Or.inl rfl))) (fun _ _ _ _ _ => pts_nil) (fun _ _ _ _ _ => (pe_slice sl_list (pv 3) po_none (po_some (pv 2))))) pa_nil)))) pa_nil)) pe_int (nomark _))))), ?_⟩
    have n1 := D.n1
    have n4 := D.n4
    refine ⟨_, rfl, a, N, rfl, hk, n4, fun v hv d hd => Drawn8 D hv d (List.mem_append_right _ hd), fun p H1 s1 ⟨as, hM1, hM2⟩ => ?_⟩
    have hb : ∀ i j, i < N.length → j < N.length → (Ch.latt N i j).natAbs ≤ 10 := fun i j hi _ => D.latt10 hi j
    generalize hT : Ch.latt N = M at *
    refine ⟨_, rfl, p, _, rfl, .inl (SqL.of hM1), _, _, rfl, rfl, _, _, rfl, ?_, ?_⟩
    · rw [rws_len]; omega
    have e0 : (((rws N.length as).length : Nat) : Int) + 1 - 1 = (N.length : Nat) := by rw [rws_len]; omega
    rw [e0, Int.toNat_natCast]
    refine lc_vals (walk_range (lo := 1) (n := N.length)) (fun i => .int (Ch.ldet (i + 1) M)) (by omega) (fun H' s => trivial) ?_ ?_
    · rintro i x H2 H2' R hi s2 ⟨rfl, rfl⟩ kk
      have e1 : ((1 : Int) + (i : Nat)) = ((i + 1 : Nat) : Int) := by omega
      simp only [e1]
      refine ⟨rfl, _, rfl, _, rfl, _, rfl, p, _, rfl, SqL.of (s2 _ _ hM1), fun q hq => ?_⟩
      rw [cut_to (by rw [rws_len]; omega)]
      have s3 := s2.trans (Same.new (o := .lst ((rws N.length as).take (i + 1))) hq)
      have eq : upd H2' q (.lst ((rws N.length as).take (i + 1))) q = some (.lst (rws (i + 1) as)) := by
        rw [upd_same]; unfold rws; rw [take_map (by omega)]
      have s23 : Same H2' (upd H2' q (.lst ((rws N.length as).take (i + 1)))) := Same.new hq
      generalize upd H2' q (.lst ((rws N.length as).take (i + 1))) = H3 at *
      refine ⟨q, rfl, ⟨_, SqL.of eq⟩, ?_⟩
      refine lc_pred (walk_list (xs := rws (i + 1) as)) (fun r y H => ∃ q, y = .ref q ∧ IRow H q (i + 1) (M r)) (by rw [rws_len]; omega) (fun H' s => SqL.of (s _ _ eq)) ?_ ?_
      · rintro D2 r x H4 H4' acc R4 hr4 hD s4 ha ⟨rfl, hx⟩ k4
        rw [rws_len] at hr4
        rw [rws_get as hr4] at hx
        cases hx
        refine ⟨rfl, _, rfl, _, rfl, _, rfl, as r, _, rfl, SqL.of (s4 _ _ (s3 _ _ (hM2 r (by omega)))), fun q2 hq2 => ?_⟩
        rw [cut_to (by rw [mlen]; omega), take_map (by omega)]
        have nl : q2 ≠ D2 := fun z => by rw [z, ha] at hq2; cases hq2
        exact k4 _ _ (Same.new hq2) fun H6 s6 => ⟨q2, rfl, s6 _ _ nl upd_same⟩
      · intro D2 ys H4 hD s4 e4 hl hy
        rw [rws_len] at hl
        obtain ⟨as', rfl, has⟩ := rows_of hl hy
        exact ⟨i + 1, D2, M, by omega, rfl, ⟨as', e4, has⟩, by omega, fun i j hi hj => hb i j (by omega) (by omega), fun H5 s5 => kk H5 ((s23.trans s4).trans s5)⟩
    · intro L H2 hL s2 e2
      refine ⟨L, (List.range N.length).map fun i => Ch.ldet (i + 1) M, rfl, SqL.of (by rw [List.map_map]; exact e2), by rw [mlen]; omega, fun m hm hle => ⟨_, _, rfl, rfl, k _ _ (s1.trans s2) fun hb => ?_⟩⟩
      have hpos : 0 < m := of_decide_eq_true hb
      unfold Ch.EndsN
      rw [hT]
      exact Ch.dv_ldet n4 fun l h1 h2 => by
        have := hle (Ch.ldet l M) (List.mem_map.mpr ⟨l - 1, List.mem_range.mpr (by omega), by rw [Nat.sub_add_cancel h1]⟩)
        omega
end
end K11
end
section
set_option Elab.async false
set_option linter.all false
set_option maxRecDepth 100000
namespace K11
open PySem PySem.Spec PyProof.Rows L2
open C8 (Cal Met Mak)
section
variable {P : Program} {w : World} {K : PySem.W.Frag} {mg : Str → Option Value} {base : Heap}
/-! ### dict(list(d.items())) -/
def rDictP (K : PySem.W.Frag) : List V → Hp → VK → Prop := fun xs H Q => ∃ (a : Addr) (ps : List Addr) (kvs : List (Key × V)), xs = [.ref a] ∧ SqL K H a (ps.map V.ref) ∧ Paired (fun p kv => SqT K H p [kV kv.1, kv.2]) ps kvs ∧
    ∀ p, H p = none → Q (.ref p) (upd H p (.dK (mergeK [] kvs)))
theorem fput_self (f : Nat → V) (u : Nat) : fput f u (f u) = f := by
  funext t; unfold fput; split
  · rename_i e; rw [e]
  · rfl
theorem merge_dk (f : Nat → V) : ∀ (ks ls : List Nat), (ls ++ ks).Nodup → mergeK (dk ls f) (dk ks f) = dk (ls ++ ks) f
  | [], ls, _ => by rw [List.append_nil]; rfl
  | t :: ks, ls, h => by
    have ht : t ∉ ls := fun z => (List.nodup_append.mp h).2.2 _ z _ (List.mem_cons_self ..) rfl
    have e : mergeK (dk ls f) (dk (t :: ks) f) = mergeK (putK (dk ls f) (ky t) (f t)) (dk ks f) := rfl
    rw [e, dk_put_new ht, fput_self, merge_dk f ks (ls ++ [t]) (by rw [List.append_assoc]; exact h), List.append_assoc]; rfl
theorem merge_nil {ks : List Nat} (h : ks.Nodup) (f : Nat → V) : mergeK [] (dk ks f) = dk ks f := merge_dk f ks [] h
theorem paired_sq {H' : Hp} {xs : List Addr} {ys : List (Key × V)} (h : Paired (fun (t : Addr) (q : Key × V) => H' t = some (.tup [kV q.1, q.2])) xs ys) : Paired (fun p kv => SqT K H' p [kV kv.1, kv.2]) xs ys := by
  induction h with
  | nil => exact .nil
  | cons h _ ih => exact .cons (SqT.of h) ih
theorem walk_valsN {d : Addr} {o : Obj} {ks : List Nat} {f : Nat → V} : Walk (Itd d o (dk ks f)) ks.length (fun H => H d = some (.frz o (.dK (dk ks f)))) (fun i H x H' => H' = H ∧ ∃ t, ks[i]? = some t ∧ x = f t) := by
  have w := walk_values (d := d) (o := o) (kvs := dk ks f)
  rw [dk_len] at w
  refine w.mono (fun _ h => h) fun i H x H' _ _ ⟨e, k, h⟩ => ⟨e, ?_⟩
  unfold dk at h
  rw [List.getElem?_map] at h
  cases c : ks[i]? with
  | none => rw [c] at h; cases h
  | some t => rw [c] at h; cases h; exact ⟨t, rfl, rfl⟩
theorem walk_itemsN' {d : Addr} {o : Obj} {ks : List Nat} {f : Nat → V} : Walk (Iti d o (dk ks f)) ks.length (fun H => H d = some (.frz o (.dK (dk ks f)))) (fun i H v H' => ∃ T t, ks[i]? = some t ∧ v = .ref T ∧ H T = none ∧ H' = upd H T (.tup [vn t, f t])) := walk_itemsN
/-! ### rounds: what stands where -/
structure RI (H0 H : Hp) (n : Nat) (pd nd ld : Addr) (o : HO) : Prop where
  sm : Same H0 H
  nw : H nd = some o
  pl : ∃ f : Nat → Nat, ID H pd (List.range n) fun v => ((f v : Nat) : Int)
  lt : ∃ ks g, DI H ld ks g ∧ ∀ t ∈ ks, t < n
theorem RI.mono {H0 H H' : Hp} {n : Nat} {pd nd ld : Addr} {o : HO} (h : RI H0 H n pd nd ld o) (s : Same H H') : RI H0 H' n pd nd ld o :=
  ⟨h.sm.trans s, s _ _ h.nw, let ⟨f, q⟩ := h.pl; ⟨f, s _ _ q⟩, let ⟨ks, g, q, r⟩ := h.lt; ⟨ks, g, q.mono s, r⟩⟩
structure RD (H0 : Hp) (pd nd ld : Addr) : Prop where
  p0 : H0 pd = none
  n0 : H0 nd = none
  l0 : H0 ld = none
  pn : pd ≠ nd
  pl : pd ≠ ld
  nl : nd ≠ ld
theorem RI.late {H0 H : Hp} {n : Nat} {pd nd ld : Addr} {o : HO} (h : RI H0 H n pd nd ld o) (d : RD H0 pd nd ld) {u : Nat} (hu : u < n) (h8 : u < 8) : IsD H ld ∧ ∃ og gu, DGet H ld (vn u) og ∧ og.getD (.int 0) = .int gu ∧ ∀ z : Int, ∃ H3, DPut H ld (vn u) (.int (gu + z)) H3 ∧ RI H0 H3 n pd nd ld o := by
  obtain ⟨ks, g, D, hk⟩ := h.lt
  obtain ⟨og, e1, e2⟩ := D.get u
  refine ⟨isD D.at_, og, g u, e1, e2, fun z => ?_⟩
  obtain ⟨H3, p1, p2, p3⟩ := D.put h8 (g u + z)
  refine ⟨H3, p1, ?_⟩
  obtain ⟨f, hf⟩ := h.pl
  refine ⟨by rw [p2]; exact h.sm.mut d.l0, by rw [p2, upd_ne d.nl]; exact h.nw, ⟨f, by rw [p2]; unfold ID; rw [upd_ne d.pl]; exact hf⟩, _, _, p3, fun t ht => ?_⟩
  rcases mem_kput.mp ht with e | e
  · exact hk t e
  · rw [e]; exact hu
theorem RI.place {H0 H : Hp} {n : Nat} {pd nd ld : Addr} {o : HO} (h : RI H0 H n pd nd ld o) (d : RD H0 pd nd ld) (hn : n ≤ 4) {u : Nat} (hu : u < n) (z : Nat) : ∃ H3, DPut H pd (vn u) (.int (z : Nat)) H3 ∧ RI H0 H3 n pd nd ld o := by
  obtain ⟨f, hf⟩ := h.pl
  obtain ⟨ks, g, D, hk⟩ := h.lt
  refine ⟨_, hf.put (List.mem_range.mpr hu) (z : Nat) (by rw [List.length_range]; omega), h.sm.mut d.p0, by rw [upd_ne d.pn.symm]; exact h.nw, ⟨fun t => if t = u then z else f t, ?_⟩, ks, g, ⟨by rw [upd_ne d.pl.symm]; exact D.at_, D.nd, D.lt, D.zero⟩, hk⟩
  unfold ID
  rw [upd_same]
  congr 2
  exact dk_congr fun t _ => by
    show V.int (gput _ u _ t) = V.int (((if t = u then z else f t : Nat)) : Int)
    unfold gput
    by_cases c : t = u
    · rw [if_pos c, if_pos c]
    · rw [if_neg c, if_neg c]
end
end K11
end
section
set_option Elab.async false
set_option linter.all false
set_option maxRecDepth 100000
namespace K11
open PySem PySem.Spec PyProof.Rows L2
open C8 (Cal Met Mak)
section
variable {P : Program} {w : World} {K : PySem.W.Frag} {mg : Str → Option Value} {base : Heap}
/-! ### the law's rounds_for: it answers -/
def sp_w_rounds_for (K : PySem.W.Frag) : Sp := fun vs H Q _ => ∃ (a st wt : Addr) (N : Ch.Nt) (s0 : Nat → Nat) (ks : List Nat) (g : Nat → Int) (most : Nat), vs = [.ref a, .ref st, .ref wt, .int (most : Nat)] ∧ KnotsAt H a N ∧ Ch.Drawn N ∧
  StdAt H st N.length s0 ∧ H wt = some (.dK (dk ks fun t => .int (g t))) ∧ ks.Nodup ∧ (∀ t ∈ ks, t < N.length) ∧ ∀ v H', Same H H' → (v = .non ∨ ∃ i : Int, v = .int i) → Q v H'
theorem sc_w_rounds_for : FnScope ["_law_knots_here", "_law_standing", "_law_waiting", "_law_most", "_law_places", "_law_now", "_law_found", "_law_late", "_law_name", "_law_many", "_law_at", "_law_front", "_law_turn", "_law_place", "_law_left", "_law_target", "_law_whole", "_law_rest", "_law_step", "_law_drop", "_law_times"] ["_law_knots_here", "_law_standing", "_law_waiting", "_law_most"] d_w_rounds_for.scope := ⟨rfl, rfl, rfl, by decide +kernel, rfl, by decide +kernel, by decide +kernel⟩
theorem ite_tC {b : Bool} {σ : L2.St} {H : Hp} {Q : V → Hp → Prop} {x y : Int} (h : ∀ z : Int, Q (.int z) H) : if b = true then tC (.int x) σ H Q else tC (.int y) σ H Q := by
  split
  · exact h x
  · exact h y
set_option maxHeartbeats 2000000 in
theorem ok_w_rounds_for (T : Txt K mg)  : Cal P w K mg base 1 "_law_rounds_for" (sp_w_rounds_for K) [] := by
  refine cal_mk d_w_rounds_for T.d_w_rounds_for T.g__law_rounds_for sc_w_rounds_for (fun vs H Q E h => ?_) (fun _ _ _ _ _ _ us hl => match us, hl with | [_, _, _, _], _ => rfl) (fun cdv A outer s H vs Q E hr h => ?_)
  · obtain ⟨_, _, _, _, _, _, _, _, rfl, _⟩ := h
    rfl
  · have hu := hu_of hr
    obtain ⟨a, st, wt, N, s0, ks0, g0, most, rfl, hk, D, hst, hwt, hnd, hlt, k⟩ := h
    refine ⟨_, (pss_cons (ps_par3 (i := 4) (j := 5) (l := 6) rfl sc_w_rounds_for.nd rfl rfl rfl (by decide) (by decide) (by decide) rfl rfl rfl (pa_cons (pe_callTy (call_dictP rfl) (by rfl) T.f_dict (by decide +kernel) (pa_cons (LiI.pe_listItems rfl (pv 1) (by rfl) T.f_list (by decide +kernel)) pa_nil)) (pa_cons (pe_callTy (call_dictP rfl) (by rfl) T.f_dict (by decide +kernel) (pa_cons (LiI.pe_listItems rfl (pv 2) (by rfl) T.f_list (by decide +kernel)) pa_nil)) (pa_cons pe_int pa_nil))) (by rfl))
      (pss_cons (ps_while PassesOwn.never (pt_val (pe_callB (cr_any rfl) (by rfl) T.f_any (by decide +kernel) (pa_cons (pe_lock (pe_lc (own := [("_law_many", 9)]) (by rfl) sc_w_rounds_for.nd (pi_values (pv 5)) (blkOk_by (own := [("_law_many", 9)]) (by rfl)) (fun _ _ _ _ _ => (pg_name (i := 9) sc_w_rounds_for.nd rfl (Or.inl rfl))) (fun _ _ _ _ _ => pts_nil) (fun _ _ _ _ _ => (pe_cmpR op_gt (pv 9) pe_int (nomark _))))) pa_nil)))
      (pss_cons (ps_par (i := 7) (j := 6) rfl sc_w_rounds_for.nd rfl rfl (by decide) rfl rfl (pa_cons pe_dnewK (pa_cons (pe_op op_add (pv 6) pe_int) pa_nil)) (by rfl))
        (pss_cons (ps_if (pt_cmpR op_gt (pv 6) (pv 3) (nomark _))
        (pss_one (ps_ret pe_non))
        pss_nil)
        (pss_cons (ps_lock (ps_for PassesOwn.never rfl (pi_items (pv 5)) (pg_tup rfl (pgs_cons (pg_name (i := 8) sc_w_rounds_for.nd rfl (Or.inl rfl)) (pgs_cons (pg_name (i := 9) sc_w_rounds_for.nd rfl (Or.inl rfl)) pgs_nil)))
        (pss_cons (ps_asg (pe_dget hu (pv 0) (pv 8) (fun _ _ => rfl)) (pg_tup rfl (pgs_cons (pg_name (i := 11) sc_w_rounds_for.nd rfl (Or.inl rfl)) (pgs_cons (pg_name (i := 12) sc_w_rounds_for.nd rfl (Or.inl rfl)) pgs_nil))))
          (pss_cons (ps_par (i := 13) (j := 14) rfl sc_w_rounds_for.nd rfl rfl (by decide) rfl rfl (pa_cons (pe_dget hu (pv 4) (pv 8) (fun _ _ => rfl)) (pa_cons (pv 9) pa_nil)) (by rfl))
          (pss_cons (ps_while PassesOwn.never (PW.pt (pw_and (pt_cmpR op_gt (pv 14) pe_int (nomark _)) (pw_and1 (pt_cmpR op_lt (pv 13) (pe_callB call_len_seq (by rfl) T.f_len (by decide +kernel) (pa_cons (pv 11) pa_nil)) (nomark _)))))
          (pss_cons (ps_for PassesOwn.never rfl (pi_tup (pe_ix ix_tup (pv 11) (pv 13) (fun _ _ => rfl))) (pg_name (i := 15) sc_w_rounds_for.nd rfl (Or.inl rfl))
            (pss_one (ps_if (pt_cmp (pc_din hu (pv 15) (pv 0)))
              (pss_one (ps_dput hu (pv 7) (pv 15) (pe_op op_add (pe_dget2 hu (pv 7) (pv 15) pe_int ⟨rfl, rfl, rfl, rfl⟩) pe_int) rfl))
              pss_nil)))
            (pss_one (ps_par (i := 13) (j := 14) rfl sc_w_rounds_for.nd rfl rfl (by decide) rfl rfl (pa_cons (pe_op op_add (pv 13) pe_int) (pa_cons (pe_op op_sub (pv 14) pe_int) pa_nil)) (by rfl)))))
          (pss_cons (ps_par (i := 16) (j := 17) rfl sc_w_rounds_for.nd rfl rfl (by decide) rfl rfl (pa_cons (pe_op op_fdivW (pv 14) (pe_callB call_len_seq (by rfl) T.f_len (by decide +kernel) (pa_cons (pv 12) pa_nil))) (pa_cons (pe_op op_mod (pe_callTy call_int1 (by rfl) T.f_int (by decide +kernel) (pa_cons (pv 14) pa_nil)) (pe_callB call_len_seq (by rfl) T.f_len (by decide +kernel) (pa_cons (pv 12) pa_nil))) pa_nil)) (by rfl))
          (pss_cons (ps_set (i := 10) sc_w_rounds_for.nd rfl (Or.inl rfl) (pe_callB (call_max2 rfl) (by rfl) T.f_max (by decide +kernel) (pa_cons (pe_op op_sub (pv 13) (pe_callB call_len_seq (by rfl) T.f_len (by decide +kernel) (pa_cons (pv 11) pa_nil))) (pa_cons pe_int pa_nil))))
          (pss_cons (ps_for PassesOwn.never rfl (pi_enumT rfl T.f_enumerate (pa_cons (pv 12) pa_nil)) (pg_tup rfl (pgs_cons (pg_name (i := 18) sc_w_rounds_for.nd rfl (Or.inl rfl)) (pgs_cons (pg_name (i := 19) sc_w_rounds_for.nd rfl (Or.inl rfl)) pgs_nil)))
          (pss_cons (ps_set (i := 20) sc_w_rounds_for.nd rfl (Or.inl rfl) (pe_op op_add (pv 16) (pe_ifExp (pt_cmpR op_lt (pe_op op_mod (pe_callTy call_int1 (by rfl) T.f_int (by decide +kernel) (pa_cons (pe_op op_sub (pv 18) (pv 10)) pa_nil)) (pe_callB call_len_seq (by rfl) T.f_len (by decide +kernel) (pa_cons (pv 12) pa_nil))) (pv 17) (nomark _)) pe_int pe_int)))
            (pss_one (ps_for PassesOwn.never rfl (pi_tup (pv 19)) (pg_name (i := 15) sc_w_rounds_for.nd rfl (Or.inl rfl))
            (pss_one (ps_if (pt_cmp (pc_din hu (pv 15) (pv 0)))
              (pss_one (ps_dput hu (pv 7) (pv 15) (pe_op op_add (pe_dget2 hu (pv 7) (pv 15) pe_int ⟨rfl, rfl, rfl, rfl⟩) (pv 20)) rfl))
              pss_nil))))))
          (pss_one (ps_dput hu (pv 4) (pv 8) (pe_ifExp (pt_cmpR op_lt (pv 13) (pe_callB call_len_seq (by rfl) T.f_len (by decide +kernel) (pa_cons (pv 11) pa_nil)) (nomark _)) (pv 13) (pe_op op_add (pe_callB call_len_seq (by rfl) T.f_len (by decide +kernel) (pa_cons (pv 11) pa_nil)) (pe_op op_mod (pe_callTy call_int1 (by rfl) T.f_int (by decide +kernel) (pa_cons (pe_op op_add (pv 10) (pv 14)) pa_nil)) (pe_callB call_len_seq (by rfl) T.f_len (by decide +kernel) (pa_cons (pv 12) pa_nil))))) rfl))))))))))
        (pss_one (ps_set (i := 5) sc_w_rounds_for.nd rfl (Or.inl rfl) (pv 7)))))))
      (pss_one (ps_ret (pv 6))))), ?_⟩
    have n4 := D.n4
    refine ⟨_, rfl, st, _, rfl, hst, fun Hx p ts hs hp hts hpt hl hpr => ⟨p, ts, _, rfl, SqL.of hl, paired_sq hpr, fun pd hpd0 => ?_⟩⟩
    rw [merge_nil List.nodup_range]
    have s1 : Same H (upd Hx pd (.dK (dk (List.range N.length) fun v => .int (s0 v : Nat)))) := Same.trans hs (Same.new hpd0)
    have hpd : H pd = none := Same.free hs hpd0
    have epd : upd Hx pd (.dK (dk (List.range N.length) fun v => .int (s0 v : Nat))) pd = some (.dK (dk (List.range N.length) fun v => .int (s0 v : Nat))) := upd_same
    clear hpr hl hpt hts hp hs
    generalize upd Hx pd (.dK (dk (List.range N.length) fun v => .int (s0 v : Nat))) = H1 at *
    clear hpd0 Hx
    refine ⟨_, rfl, wt, _, rfl, s1 _ _ hwt, fun Hx p ts hs hp hts hpt hl hpr => ⟨p, ts, _, rfl, SqL.of hl, paired_sq hpr, fun nd0 hnd1 => ?_⟩⟩
    rw [merge_nil hnd]
    have s2 : Same H1 (upd Hx nd0 (.dK (dk ks0 fun t => .int (g0 t)))) := Same.trans hs (Same.new hnd1)
    have hnd0 : H1 nd0 = none := Same.free hs hnd1
    have end0 : upd Hx nd0 (.dK (dk ks0 fun t => .int (g0 t))) nd0 = some (.dK (dk ks0 fun t => .int (g0 t))) := upd_same
    clear hpr hl hpt hts hp hs
    generalize upd Hx nd0 (.dK (dk ks0 fun t => .int (g0 t))) = H2 at *
    clear hnd1 Hx
    have epd2 := s2 _ _ epd
    have s02 := s1.trans s2
    have hpn : pd ≠ nd0 := fun z => by rw [← z, epd] at hnd0; cases hnd0
    have hn00 : H nd0 = none := by
      cases c : H nd0 with
      | none => rfl
      | some o => rw [s1 _ _ c] at hnd0; cases hnd0
    refine ⟨_, _, _, rfl, ?_⟩
    refine wh (fun m σ H' => ∃ (nd : Addr) (ks : List Nat) (g : Nat → Int) (fd : Nat) (v7 v8 v9 v10 v11 v12 v13 v14 v15 v16 v17 v18 v19 v20 : Option V),
      σ = [some (.ref a), some (.ref st), some (.ref wt), some (.int (most : Nat)), some (.ref pd), some (.ref nd), some (.int (fd : Nat)), v7, v8, v9, v10, v11, v12, v13, v14, v15, v16, v17, v18, v19, v20] ∧
      m + fd = most + 1 ∧ Same H H' ∧ H nd = none ∧ pd ≠ nd ∧ H' nd = some (.dK (dk ks fun t => .int (g t))) ∧ ks.Nodup ∧ (∀ t ∈ ks, t < N.length) ∧ ∃ f : Nat → Nat, ID H' pd (List.range N.length) fun v => ((f v : Nat) : Int)) (most + 1) ?_ ?_
    · exact ⟨nd0, ks0, g0, 0, none, none, none, none, none, none, none, none, none, none, none, none, none, none, rfl, rfl, s02, hn00, hpn, end0, hnd, hlt, s0, epd2⟩
    rintro m σ H3 ⟨nd, ks, g, fd, v7, v8, v9, v10, v11, v12, v13, v14, v15, v16, v17, v18, v19, v20, rfl, hm, s3, hn0, hpn, en3, knd, klt, f, ef3⟩
    have k8 : ks.length ≤ 8 := nodup_le knd fun t ht => by have := klt t ht; omega
    -- any
    refine ⟨nd, _, en3, trivial, fun ond => ?_⟩
    have f3 : upd H3 nd (.frz ond (.dK (dk ks fun t => .int (g t)))) nd = some (.frz ond (.dK (dk ks fun t => .int (g t)))) := upd_same
    refine ⟨_, rfl, nd, ond, _, rfl, f3, ?_⟩
    refine lc_vals (walk_valsN (d := nd) (o := ond) (ks := ks) (f := fun t => .int (g t))) (fun i => .bl (decide (0 < g (ks.getD i 0)))) (by omega) (fun H' s => s _ _ f3) ?_ ?_
    · rintro i x H' H'' R hi s ⟨rfl, t, ht, rfl⟩ kk
      have q := kk _ (Same.refl _)
      rw [List.getD_eq_getElem?_getD, ht] at q
      exact ⟨rfl, _, rfl, _, _, rfl, rfl, q⟩
    intro L H4 hL s4 e4
    refine ⟨s4 _ _ f3, ?_⟩
    have nL : L ≠ nd := fun z => by rw [z, f3] at hL; cases hL
    have s34 : Same H3 (upd H4 nd (.dK (dk ks fun t => .int (g t)))) := fun c o h => by
      by_cases z : c = nd
      · subst z; rw [upd_same, ← h, en3]
      · rw [upd_ne z]; exact s4 _ _ (by rw [upd_ne z]; exact h)
    have e5 : upd H4 nd (.dK (dk ks fun t => .int (g t))) L = some (.lst (((List.range ks.length).map fun i => decide (0 < g (ks.getD i 0))).map V.bl)) := by
      rw [upd_ne nL, e4, List.map_map]; rfl
    have s5 := s3.trans s34
    have en5 := s34 _ _ en3
    have ef5 : ID (upd H4 nd (.dK (dk ks fun t => .int (g t)))) pd (List.range N.length) fun v => ((f v : Nat) : Int) := s34 _ _ ef3
    generalize upd H4 nd (.dK (dk ks fun t => .int (g t))) = H5 at *
    clear s34 e4 s4 hL f3 nL en3 ef3 s3
    refine ⟨L, _, rfl, SqL.of e5, _, rfl, ?_⟩
    refine ite2 (fun c => ?_) (fun c => ?_)
    case refine_2 => exact ⟨_, rfl, k _ _ s5 (.inr ⟨_, rfl⟩)⟩
    refine ⟨_, fun _ _ h => h, ?_⟩
    intro ld hld
    have s6 := s5.trans (Same.new (o := .dK []) hld)
    have eld : upd H5 ld (.dK []) ld = some (.dK []) := upd_same
    have en6 := Same.new (o := .dK []) hld _ _ en5
    have ef6 : ID (upd H5 ld (.dK [])) pd (List.range N.length) fun v => ((f v : Nat) : Int) := Same.new (o := .dK []) hld _ _ ef5
    have hnl : nd ≠ ld := fun z => by rw [z, hld] at en5; cases en5
    have hpl : pd ≠ ld := fun z => by
      have : H5 pd = some _ := ef5
      rw [z, hld] at this; cases this
    have hl0 : H ld = none := s5.free hld
    have rd : RD H pd nd ld := ⟨hpd, hn0, hl0, hpn, hpl, hnl⟩
    have DD : DI (upd H5 ld (.dK [])) ld [] fun _ => 0 := DI.new
    generalize upd H5 ld (.dK []) = H6 at *
    clear s5 en5 ef5 hld e5
    refine ⟨_, rfl, _, _, rfl, rfl, _, _, rfl, ?_⟩
    refine ⟨_, rfl, _, rfl, _, _, rfl, rfl, _, rfl, ?_⟩
    refine ite2 (fun c => ?_) (fun c => ?_)
    · exact k _ _ s6 (.inl rfl)
    have hfd : ¬ ((most : Nat) : Int) < (fd : Nat) + 1 := fun z => c (decide_eq_true z)
    -- the knots at which balls wait
    refine ⟨nd, _, en6, trivial, fun od => ?_⟩
    have R0 : RI H (upd H6 nd (.frz od (.dK (dk ks fun t => .int (g t))))) N.length pd nd ld (.frz od (.dK (dk ks fun t => .int (g t)))) :=
      ⟨s6.mut hn0, upd_same, ⟨f, by unfold ID; rw [upd_ne hpn]; exact ef6⟩, [], fun _ => 0, ⟨by rw [upd_ne hnl.symm]; exact DD.at_, DD.nd, DD.lt, DD.zero⟩, fun _ h => (nomatch h)⟩
    refine ⟨_, rfl, nd, od, _, rfl, upd_same, ?_⟩
    generalize upd H6 nd (.frz od (.dK (dk ks fun t => .int (g t)))) = H7 at *
    clear s6 en6 ef6 DD eld
    obtain ⟨kns, hk1, hk2⟩ := hk
    refine fr_it (walk_itemsN' (d := nd) (o := od) (ks := ks) (f := fun t => .int (g t))) (fun i σ H' => ∃ (v8 v9 v10 v11 v12 v13 v14 v15 v16 v17 v18 v19 v20 : Option V),
      σ = [some (.ref a), some (.ref st), some (.ref wt), some (.int (most : Nat)), some (.ref pd), some (.ref nd), some (.int ((fd : Nat) + 1)), some (.ref ld), v8, v9, v10, v11, v12, v13, v14, v15, v16, v17, v18, v19, v20] ∧ RI H H' N.length pd nd ld (.frz od (.dK (dk ks fun t => .int (g t))))) ?_ ?_ ?_ ?_
    · exact ⟨v8, v9, v10, v11, v12, v13, v14, v15, v16, v17, v18, v19, v20, rfl, R0⟩
    · rintro i σ H' _ ⟨_, _, _, _, _, _, _, _, _, _, _, _, _, _, R⟩
      exact R.nw
    · rintro i x σ H8 H8' hi ⟨v8, v9, v10, v11, v12, v13, v14, v15, v16, v17, v18, v19, v20, rfl, R⟩ ⟨T', t, ht, rfl, hT, rfl⟩
      have htn := klt t (List.mem_of_getElem? ht)
      have R1 := R.mono (Same.new (o := .tup [vn t, .int (g t)]) hT)
      refine ⟨T', _, rfl, SqT.of upd_same, rfl, _, _, rfl, _, _, rfl, rfl, ?_⟩
      generalize upd H8 T' (.tup [vn t, .int (g t)]) = H9 at *
      obtain ⟨fa, ta, h1, ⟨as, f1, f2⟩, ⟨bs, t1, t2⟩⟩ := hk2 t htn
      refine ⟨_, rfl, _, rfl, a, _, rfl, DGet.in_ (R1.sm _ _ hk1) (List.mem_range.mpr htn), kns t, _, rfl, SqT.of (R1.sm _ _ h1), rfl, _, _, rfl, _, _, rfl, rfl, ?_⟩
      obtain ⟨fp, hfp⟩ := R1.pl
      refine ⟨_, rfl, _, rfl, pd, _, rfl, hfp.get (List.mem_range.mpr htn), _, rfl, _, _, rfl, ?_⟩
      have d8 : ∀ d ∈ (Ch.kn N t).ds, ∀ x ∈ d, x < 8 := Drawn8 D htn
      have lfr := D.fr2 t htn
      have ltu := D.tu5 t htn
      have ntu : 0 < (Ch.kn N t).tu.length := List.length_pos_iff.mpr (D.tu t htn)
      have addl : ∀ {Hz : Hp}, Same H Hz → ∀ u < 8, ∃ o, DGet Hz a (vn u) o ∧ (o = none ∨ (u < N.length)) := fun {Hz} R u hu => by
        refine ⟨_, DGet.n (R _ _ hk1) u, ?_⟩
        by_cases c : u < N.length
        · exact .inr c
        · left; rw [if_neg (by rw [List.mem_range]; exact c)]
      -- the front, ball by ball
      refine (fun rest : (∀ (p : Nat) (l : Int) (v15 : Option V) (H9 : Hp), RI H H9 N.length pd nd ld (.frz od (.dK (dk ks fun t => .int (g t)))) → (?G : Nat → Int → Option V → Hp → Prop) p l v15 H9) => ?A) ?B
      case A =>
        refine wh (fun m σ H' => ∃ (p : Nat) (l : Int) (v15 : Option V), σ = [some (.ref a), some (.ref st), some (.ref wt), some (.int (most : Nat)), some (.ref pd), some (.ref nd), some (.int ((fd : Nat) + 1)), some (.ref ld), some (vn t), some (.int (g t)), v10, some (.ref fa), some (.ref ta), some (.int (p : Nat)), some (.int l), v15, v16, v17, v18, v19, v20] ∧
          m = (Ch.kn N t).fr.length - p ∧ RI H H' N.length pd nd ld (.frz od (.dK (dk ks fun t => .int (g t))))) ((Ch.kn N t).fr.length - fp t) ?_ ?_
        · exact ⟨fp t, g t, v15, rfl, rfl, R1⟩
        · rintro m σ H10 ⟨p, l, v15, rfl, rfl, R2⟩
          refine ⟨_, rfl, _, _, rfl, rfl, _, rfl, ?_⟩
          refine ite2 (fun c1 => ?_) (fun c1 => ?_)
          · refine ⟨_, rfl, _, rfl, fa, _, rfl, .inr (SqT.of (R2.sm _ _ f1)), _, _, rfl, rfl, _, rfl, ?_⟩
            rw [mlen]
            refine ite2 (fun c2 => ?_) (fun c2 => ?_)
            · have hp : p < (Ch.kn N t).fr.length := by have := of_decide_eq_true c2; omega
              refine ⟨_, fun _ _ h => h, ?_⟩
              obtain ⟨dr, hdr⟩ : ∃ dr, (Ch.kn N t).fr[p]? = some dr := ⟨_, List.getElem?_eq_getElem hp⟩
              have hd := f2 p dr hdr
              have hlt := d8 dr (List.mem_append_left _ (List.mem_of_getElem? hdr))
              refine ⟨_, rfl, _, rfl, fa, _, _, _, rfl, rfl, SqT.of (R2.sm _ _ f1), atI_nat (mget _ hp), as p, rfl, ⟨_, SqT.of (R2.sm _ _ hd)⟩, ?_⟩
              refine for_tup (K := K) (a := as p) (xs := dr.map vn) (fun i σ H' => ∃ (v15 : Option V), σ = [some (.ref a), some (.ref st), some (.ref wt), some (.int (most : Nat)), some (.ref pd), some (.ref nd), some (.int ((fd : Nat) + 1)), some (.ref ld), some (vn t), some (.int (g t)), v10, some (.ref fa), some (.ref ta), some (.int (p : Nat)), some (.int l), v15, v16, v17, v18, v19, v20] ∧
                RI H H' N.length pd nd ld (.frz od (.dK (dk ks fun t => .int (g t))))) ⟨v15, rfl, R2⟩ (fun i σ H' _ ⟨_, _, R⟩ => SqT.of (R.sm _ _ hd)) ?_ ?_
              · rintro j x σ H11 hx ⟨v15, rfl, R3⟩
                rw [List.getElem?_map] at hx
                cases hj : dr[j]? with
                | none => rw [hj] at hx; cases hx
                | some u =>
                  rw [hj] at hx
                  cases hx
                  have hu8 : u < 8 := hlt u (List.mem_of_getElem? hj)
                  obtain ⟨o, g1, g2⟩ := addl R3.sm u hu8
                  refine ⟨_, rfl, _, rfl, a, _, rfl, g1, _, rfl, ?_⟩
                  refine ite2 (fun c3 => ?_) (fun c3 => ?_)
                  · have hun : u < N.length := by
                      rcases g2 with rfl | h
                      · cases c3
                      · exact h
                    obtain ⟨hi3, og, gu, q1, q2, q3⟩ := R3.late rd hun hu8
                    obtain ⟨H12, q4, q5⟩ := q3 1
                    exact ⟨_, rfl, ld, rfl, hi3, _, rfl, og, q1, gu, 1, q2, rfl, _, rfl, _, rfl, ld, H12, rfl, q4, some (vn u), rfl, q5⟩
                  · exact ⟨some (vn u), rfl, R3⟩
              · rintro σ H11 ⟨v15, rfl, R3⟩
                refine ⟨_, rfl, _, _, rfl, rfl, _, rfl, _, _, rfl, rfl, _, _, rfl, (Ch.kn N t).fr.length - (p + 1), by omega, p + 1, l - 1, v15, rfl, rfl, R3⟩
            · exact rest p l v15 H10 R2
          · refine iteF ?_
            exact rest p l v15 H10 R2
      case B =>
        intro p l v15 H10 R2
        have cw : ∀ z : Int, CDivW z (((Ch.kn N t).tu.length : Nat) : Int) := fun z => wide_div (b := 10) (by omega) (by omega) (by decide) (by decide)
        refine ⟨_, rfl, _, rfl, ta, _, rfl, .inr (SqT.of (R2.sm _ _ t1)), _, _, rfl, rfl, by rw [mlen]; exact cw _, _, rfl, .inl ⟨_, rfl, _, rfl, ta, _, rfl, .inr (SqT.of (R2.sm _ _ t1)), _, _, rfl, rfl, (by show (0 : Int) < ((_ : Nat) : Int); rw [mlen]; omega), _, _, rfl, ?_⟩⟩
        refine ⟨_, rfl, _, rfl, fa, _, rfl, .inr (SqT.of (R2.sm _ _ f1)), _, _, rfl, rfl, _, _, rfl, ?_⟩
        have tpos : ∀ H' : Hp, (0 : Int) < ((((List.range (Ch.kn N t).tu.length).map fun i => V.ref (bs i)).length : Nat) : Int) := fun _ => by rw [mlen]; omega
        refine ⟨_, rfl, ta, _, rfl, SqT.of (R2.sm _ _ t1), ?_⟩
        refine fr_it (walk_enumT (K := K) (a := ta) (xs := (List.range (Ch.kn N t).tu.length).map fun i => V.ref (bs i))) (fun i σ H' => ∃ (at' W RR : Int) (v15 v18 v19 v20 : Option V), σ = [some (.ref a), some (.ref st), some (.ref wt), some (.int (most : Nat)), some (.ref pd), some (.ref nd), some (.int ((fd : Nat) + 1)), some (.ref ld), some (vn t), some (.int (g t)), some (.int at'), some (.ref fa), some (.ref ta), some (.int (p : Nat)), some (.int l), v15, some (.int W), some (.int RR), v18, v19, v20] ∧
          RI H H' N.length pd nd ld (.frz od (.dK (dk ks fun t => .int (g t))))) ?_ ?_ ?_ ?_
        · exact ⟨_, _, _, v15, v18, v19, v20, rfl, R2⟩
        · rintro j σ H' _ ⟨_, _, _, _, _, _, _, _, R⟩
          exact SqT.of (R.sm _ _ t1)
        · rintro j x σ H11 H11' hj ⟨at', W, RR, v15, v18, v19, v20, rfl, R3⟩ ⟨T2, y1, y2, rfl, hT2, rfl, e1, e2⟩
          rw [mlen] at hj
          simp only [mget _ hj] at e2
          cases e1
          cases e2
          have R4 := R3.mono (Same.new (o := .tup [.int (j : Nat), .ref (bs j)]) hT2)
          refine ⟨T2, _, rfl, SqT.of upd_same, rfl, _, _, rfl, _, _, rfl, rfl, ?_⟩
          generalize upd H11 T2 (.tup [.int (j : Nat), .ref (bs j)]) = H12 at *
          refine ⟨_, rfl, _, rfl, _, rfl, _, _, rfl, rfl, .inl ⟨_, rfl, _, rfl, ta, _, rfl, .inr (SqT.of (R4.sm _ _ t1)), _, _, rfl, rfl, tpos H, _, rfl, _, _, rfl, rfl, _, rfl, ite_tC fun z => ⟨_, _, rfl, rfl, ?_⟩⟩⟩
          obtain ⟨dr, hdr⟩ : ∃ dr, (Ch.kn N t).tu[j]? = some dr := ⟨_, List.getElem?_eq_getElem hj⟩
          have hd := t2 j dr hdr
          have hlt := d8 dr (List.mem_append_right _ (List.mem_of_getElem? hdr))
          refine ⟨_, rfl, bs j, rfl, ⟨_, SqT.of (R4.sm _ _ hd)⟩, ?_⟩
          refine for_tup (K := K) (a := bs j) (xs := dr.map vn) (fun i σ H' => ∃ (tm : Int) (v15 : Option V), σ = [some (.ref a), some (.ref st), some (.ref wt), some (.int (most : Nat)), some (.ref pd), some (.ref nd), some (.int ((fd : Nat) + 1)), some (.ref ld), some (vn t), some (.int (g t)), some (.int at'), some (.ref fa), some (.ref ta), some (.int (p : Nat)), some (.int l), v15, some (.int W), some (.int RR), some (.int (j : Nat)), some (.ref (bs j)), some (.int tm)] ∧
            RI H H' N.length pd nd ld (.frz od (.dK (dk ks fun t => .int (g t))))) ⟨_, v15, rfl, R4⟩ (fun i σ H' _ ⟨_, _, _, R⟩ => SqT.of (R.sm _ _ hd)) ?_ ?_
          · rintro r x σ H13 hx ⟨tm, v15, rfl, R5⟩
            rw [List.getElem?_map] at hx
            cases hr : dr[r]? with
            | none => rw [hr] at hx; cases hx
            | some u =>
              rw [hr] at hx
              cases hx
              have hu8 : u < 8 := hlt u (List.mem_of_getElem? hr)
              obtain ⟨o, g1, g2⟩ := addl R5.sm u hu8
              refine ⟨_, rfl, _, rfl, a, _, rfl, g1, _, rfl, ?_⟩
              refine ite2 (fun c3 => ?_) (fun c3 => ?_)
              · have hun : u < N.length := by
                  rcases g2 with rfl | h
                  · cases c3
                  · exact h
                obtain ⟨hi3, og, gu, q1, q2, q3⟩ := R5.late rd hun hu8
                obtain ⟨H14, q4, q5⟩ := q3 tm
                exact ⟨_, rfl, ld, rfl, hi3, _, rfl, og, q1, _, rfl, gu, tm, q2, rfl, _, rfl, _, rfl, ld, H14, rfl, q4, tm, some (vn u), rfl, q5⟩
              · exact ⟨tm, some (vn u), rfl, R5⟩
          · rintro σ H13 ⟨tm, v15, rfl, R5⟩
            exact ⟨at', W, RR, v15, _, _, _, rfl, R5⟩
        · rintro σ H11 ⟨at', W, RR, v15, v18, v19, v20, rfl, R3⟩
          refine ⟨_, rfl, _, rfl, fa, _, rfl, .inr (SqT.of (R3.sm _ _ f1)), _, _, rfl, rfl, _, rfl, ?_⟩
          refine ite2 (fun c4 => ?_) (fun c4 => ?_)
          · obtain ⟨H12, q4, q5⟩ := R3.place rd n4 htn p
            exact ⟨_, rfl, _, rfl, _, rfl, pd, H12, rfl, q4, _, _, _, _, _, _, _, _, _, _, _, _, _, rfl, q5⟩
          · obtain ⟨z, ez⟩ : ∃ z : Nat, ((((List.range (Ch.kn N t).fr.length).map fun i => V.ref (as i)).length : Nat) : Int) + (at' + l) % ((((List.range (Ch.kn N t).tu.length).map fun i => V.ref (bs i)).length : Nat) : Int) = (z : Int) := by
              have := Int.emod_nonneg (at' + l) (b := ((((List.range (Ch.kn N t).tu.length).map fun i => V.ref (bs i)).length : Nat) : Int)) (by have := tpos H; omega)
              exact ⟨(((((List.range (Ch.kn N t).fr.length).map fun i => V.ref (as i)).length : Nat) : Int) + (at' + l) % ((((List.range (Ch.kn N t).tu.length).map fun i => V.ref (bs i)).length : Nat) : Int)).toNat, by omega⟩
            obtain ⟨H12, q4, q5⟩ := R3.place rd n4 htn z
            rw [← ez] at q4
            exact ⟨_, rfl, fa, _, rfl, .inr (SqT.of (R3.sm _ _ f1)), _, rfl, _, rfl, _, _, rfl, rfl, .inl ⟨_, rfl, _, rfl, ta, _, rfl, .inr (SqT.of (R3.sm _ _ t1)), _, _, rfl, rfl, tpos H, _, _, rfl, rfl, _, rfl, _, rfl, pd, H12, rfl, q4, _, _, _, _, _, _, _, _, _, _, _, _, _, rfl, q5⟩⟩
    · rintro σ H8 ⟨v8, v9, v10, v11, v12, v13, v14, v15, v16, v17, v18, v19, v20, rfl, R⟩
      refine ⟨R.nw, ?_⟩
      obtain ⟨f', hf'⟩ := R.pl
      obtain ⟨ks', g', D', hk'⟩ := R.lt
      refine ⟨_, rfl, m - 1, by omega, ld, ks', g', fd + 1, some (.ref ld), v8, v9, v10, v11, v12, v13, v14, v15, v16, v17, v18, v19, v20, rfl, by omega, R.sm.mut hn0, hl0, hpl, by rw [upd_ne hnl.symm]; exact D'.at_, D'.nd, hk', f', ?_⟩
      unfold ID; rw [upd_ne hpn]; exact hf'
end
end K11
end
section
set_option Elab.async false
set_option linter.all false
set_option maxRecDepth 100000
namespace K11
open PySem PySem.Spec PyProof.Rows L2
open C8 (Cal Met Mak)
section
variable {P : Program} {w : World} {K : PySem.W.Frag} {mg : Str → Option Value} {base : Heap}
/-! ### the law's is_quick: it answers -/
theorem refs_of {ys : List V} {n : Nat} {F : Nat → Addr → Prop} (hl : ys.length = n) (h : ∀ i y, ys[i]? = some y → ∃ q, y = .ref q ∧ F i q) : ∃ as, ys = rws n as ∧ ∀ i, i < n → F i (as i) := by
  refine ⟨fun i => match ys[i]? with | some (.ref q) => q | _ => 0, ?_, fun i hi => ?_⟩
  · refine List.ext_getElem? fun i => ?_
    by_cases c : i < n
    · rw [rws_get _ c]
      obtain ⟨q, e, _⟩ := h i _ (List.getElem?_eq_getElem (show i < ys.length by omega))
      rw [List.getElem?_eq_getElem (show i < ys.length by omega), e]
    · rw [List.getElem?_eq_none (by omega), List.getElem?_eq_none (by rw [rws_len]; omega)]
  · obtain ⟨q, e, h2⟩ := h i _ (List.getElem?_eq_getElem (show i < ys.length by omega))
    simp only [List.getElem?_eq_getElem (show i < ys.length by omega), e]
    exact h2
theorem rws_map (n : Nat) (as : Nat → Addr) : rws n as = ((List.range n).map as).map V.ref := by unfold rws; rw [List.map_map]; rfl
theorem paired_map {α β γ : Type} {F : α → β → Prop} {f : γ → α} {g : γ → β} : ∀ {l : List γ}, (∀ x ∈ l, F (f x) (g x)) → Paired F (l.map f) (l.map g)
  | [], _ => .nil
  | x :: l, h => .cons (h x (List.mem_cons_self ..)) (paired_map fun y hy => h y (List.mem_cons_of_mem _ hy))
theorem bools_of : ∀ {ys : List V}, (∀ y ∈ ys, ∃ b, y = V.bl b) → ∃ bs : List Bool, ys = bs.map V.bl
  | [], _ => ⟨[], rfl⟩
  | y :: ys, h => by
    obtain ⟨b, e⟩ := h y (List.mem_cons_self ..)
    obtain ⟨bs, es⟩ := bools_of fun z hz => h z (List.mem_cons_of_mem _ hz)
    exact ⟨b :: bs, by rw [e, es]; rfl⟩
/-- a dict of ints by some knots -/
def WtAt (H : Hp) (n : Nat) (y : V) : Prop := ∃ (wt : Addr) (ks : List Nat) (g : Nat → Int), y = .ref wt ∧ H wt = some (.dK (dk ks fun t => .int (g t))) ∧ ks.Nodup ∧ ∀ t ∈ ks, t < n
theorem WtAt.mono {H H' : Hp} {n : Nat} {y : V} (s : Same H H') (h : WtAt H n y) : WtAt H' n y := let ⟨wt, ks, g, a, b, c⟩ := h; ⟨wt, ks, g, a, s _ _ b, c⟩
def sp_w_is_quick (K : PySem.W.Frag) : Sp := fun vs H Q _ => ∃ (a : Addr) (N : Ch.Nt), vs = [.ref a] ∧ KnotsAt H a N ∧ Ch.Drawn N ∧ ∀ b H', Same H H' → Q (.bl b) H'
theorem sc_w_is_quick : FnScope ["_law_knots_here", "_law_start", "_law_last", "_law_standing", "_law_many", "_law_waits", "_law_name", "_law_waiting"] ["_law_knots_here"] d_w_is_quick.scope := ⟨rfl, rfl, rfl, by decide +kernel, rfl, by decide +kernel, by decide +kernel⟩
set_option maxHeartbeats 2000000 in
theorem ok_w_is_quick (T : Txt K mg) (c__law_rounds_for : Cal P w K mg base 1 "_law_rounds_for" (sp_w_rounds_for K) []) : Cal P w K mg base 2 "_law_is_quick" (sp_w_is_quick K) [] := by
  refine cal_mk d_w_is_quick T.d_w_is_quick T.g__law_is_quick sc_w_is_quick (fun vs H Q E h => ?_) (fun _ _ _ _ _ _ us hl => match us, hl with | [_], _ => rfl) (fun cdv A outer s H vs Q E hr h => ?_)
  · obtain ⟨_, _, rfl, _⟩ := h
    rfl
  · have hu := hu_of hr
    obtain ⟨a, N, rfl, hk, D, k⟩ := h
    refine ⟨_, (pss_cons (ps_set (i := 1) sc_w_is_quick.nd rfl (Or.inl rfl) (pe_callTy (call_dictP rfl) (by rfl) T.f_dict (by decide +kernel) (pa_cons (pe_lc (own := [("_law_name", 6)]) (by rfl) sc_w_is_quick.nd (pi_list (pe_callB cr_sortedS (by rfl) T.f_sorted (by decide +kernel) (pa_cons (pe_callTy (call_list_dK rfl) (by rfl) T.f_list (by decide +kernel) (pa_cons (pv 0) pa_nil)) pa_nil))) (blkOk_by (own := [("_law_name", 6)]) (by rfl)) (fun _ _ _ _ _ => (pg_name (i := 6) sc_w_is_quick.nd rfl (Or.inl rfl))) (fun _ _ _ _ _ => pts_nil) (fun _ _ _ _ _ => (pe_tup (pa_cons (pv 6) (pa_cons pe_int pa_nil))))) pa_nil)))
      (pss_cons (ps_set (i := 2) sc_w_is_quick.nd rfl (Or.inl rfl) (pe_callTy (call_dictP rfl) (by rfl) T.f_dict (by decide +kernel) (pa_cons (pe_lc (te := tTup (tCons (tVar 6) (tCons (tOp _ (tOp _ (tCB (rLenSeq K) (tCons (tOp (rIxT K) _ _) tNil)) (tCB (rLenSeq K) (tCons (tOp (rIxT K) _ _) tNil))) _) tNil))) (own := [("_law_name", 6)]) (by rfl) sc_w_is_quick.nd (pi_list (pe_callB cr_sortedS (by rfl) T.f_sorted (by decide +kernel) (pa_cons (pe_callTy (call_list_dK rfl) (by rfl) T.f_list (by decide +kernel) (pa_cons (pv 0) pa_nil)) pa_nil))) (blkOk_by (own := [("_law_name", 6)]) (by rfl)) (fun _ _ _ _ _ => (pg_name (i := 6) sc_w_is_quick.nd rfl (Or.inl rfl))) (fun _ _ _ _ _ => pts_nil) (fun _ _ _ _ _ => (pe_tup (pa_cons (pv 6) (pa_cons (pe_op op_sub (pe_op op_add (pe_callB call_len_seq (by rfl) T.f_len (by decide +kernel) (pa_cons (pe_ix ix_tup (pe_dget hu (pv 0) (pv 6) (fun _ _ => rfl)) pe_int (fun _ _ => rfl)) pa_nil)) (pe_callB call_len_seq (by rfl) T.f_len (by decide +kernel) (pa_cons (pe_ix ix_tup (pe_dget hu (pv 0) (pv 6) (fun _ _ => rfl)) pe_int (fun _ _ => rfl)) pa_nil))) pe_int) pa_nil))))) pa_nil)))
      (pss_cons (ps_for PassesOwn.never rfl (pi_tup (pe_tup (pa_cons (pv 1) (pa_cons (pv 2) pa_nil)))) (pg_name (i := 3) sc_w_is_quick.nd rfl (Or.inr rfl))
      (pss_one (ps_for PassesOwn.never rfl (pi_tup (pe_tup (pa_cons pe_int (pa_cons pe_int (pa_cons (pe_op op_pow pe_int pe_int) pa_nil))))) (pg_name (i := 4) sc_w_is_quick.nd rfl (Or.inr rfl))
        (pss_cons (ps_set (i := 5) sc_w_is_quick.nd rfl (Or.inl rfl) (pe_op op_cat (pe_lc (own := [("_law_name", 6)]) (by rfl) sc_w_is_quick.nd (pi_list (pe_callB cr_sortedS (by rfl) T.f_sorted (by decide +kernel) (pa_cons (pe_callTy (call_list_dK rfl) (by rfl) T.f_list (by decide +kernel) (pa_cons (pv 0) pa_nil)) pa_nil))) (blkOk_by (own := [("_law_name", 6)]) (by rfl)) (fun _ _ _ _ _ => (pg_name (i := 6) sc_w_is_quick.nd rfl (Or.inl rfl))) (fun _ _ _ _ _ => pts_nil) (fun _ _ _ _ _ => (pe_disp (pps_cons (pv 6) (pv 4) pps_nil) (by rfl) (by rfl) (fun z => by cases z) (by decide)))) (pe_lst (pa_cons (pe_callTy (call_dictP rfl) (by rfl) T.f_dict (by decide +kernel) (pa_cons (pe_lc (own := [("_law_name", 6)]) (by rfl) sc_w_is_quick.nd (pi_list (pe_callB cr_sortedS (by rfl) T.f_sorted (by decide +kernel) (pa_cons (pe_callTy (call_list_dK rfl) (by rfl) T.f_list (by decide +kernel) (pa_cons (pv 0) pa_nil)) pa_nil))) (blkOk_by (own := [("_law_name", 6)]) (by rfl)) (fun _ _ _ _ _ => (pg_name (i := 6) sc_w_is_quick.nd rfl (Or.inl rfl))) (fun _ _ _ _ _ => pts_nil) (fun _ _ _ _ _ => (pe_tup (pa_cons (pv 6) (pa_cons (pv 4) pa_nil))))) pa_nil)) pa_nil))))
          (pss_one (ps_if (pt_val (pe_callB (cr_any rfl) (by rfl) T.f_any (by decide +kernel) (pa_cons (pe_lc (own := [("_law_waiting", 7)]) (by rfl) sc_w_is_quick.nd (pi_list (pv 5)) (blkOk_by (own := [("_law_waiting", 7)]) (by rfl)) (fun _ _ _ _ _ => (pg_name (i := 7) sc_w_is_quick.nd rfl (Or.inl rfl))) (fun _ _ _ _ _ => pts_nil) (fun _ _ _ _ _ => (pe_cmpR op_isN (C8.pe_c c__law_rounds_for hr (by decide) rfl (pa_cons (pv 0) (pa_cons (pv 3) (pa_cons (pv 7) (pa_cons pe_int pa_nil))))) pe_non (nomark _)))) pa_nil)))
          (pss_one (ps_ret pe_bl))
          pss_nil))))))
      (pss_one (ps_ret pe_bl))))), ?_⟩
    have n4 := D.n4
    have n1 := D.n1
    obtain ⟨kns, hk1, hk2⟩ := id hk
    -- start
    refine srt_keys (K := K) (te := tVar 0) n4 hk1 ?_ ?_
    · exact fun R r => ⟨_, rfl, r⟩
    intro p H1 hp s1 e1
    refine ⟨p, rfl, ⟨_, SqL.of e1⟩, ?_⟩
    refine lc_pred (walk_list (xs := (List.range N.length).map vn)) (fun i y H => ∃ T, y = .ref T ∧ H T = some (.tup [vn i, .int ((0 : Nat) : Int)])) (by rw [mlen]; omega) (fun H' s => SqL.of (s _ _ e1)) ?_ ?_
    · rintro D' i x H2 H2' acc R hi hD s2 ha ⟨rfl, hx⟩ kk
      rw [mlen] at hi
      rw [mget _ hi] at hx
      cases hx
      refine ⟨rfl, _, rfl, (by show 2 ≤ sizeLine; decide), fun T hT => ?_⟩
      have nT : T ≠ D' := fun z => by rw [z, ha] at hT; cases hT
      exact kk _ _ (Same.new hT) fun H6 s6 => ⟨T, rfl, s6 _ _ nT upd_same⟩
    intro D1 ys H2 hD1 s2 e2 hl hy
    rw [mlen] at hl
    obtain ⟨Ts, rfl, hTs⟩ := refs_of hl hy
    refine ⟨D1, (List.range N.length).map Ts, dk (List.range N.length) (fun _ => .int ((0 : Nat) : Int)), rfl, SqL.of (by rw [← rws_map]; exact e2), paired_map fun i hi => SqT.of (hTs i (List.mem_range.mp hi)), fun sd hsd => ?_⟩
    rw [merge_nil List.nodup_range]
    have s3 := (s1.trans s2).trans (Same.new (o := .dK (dk (List.range N.length) (fun _ => .int ((0 : Nat) : Int)))) hsd)
    have esd : StdAt (upd H2 sd (.dK (dk (List.range N.length) (fun _ => .int ((0 : Nat) : Int))))) sd N.length (fun _ => 0) := upd_same
    generalize upd H2 sd (.dK (dk (List.range N.length) (fun _ => .int ((0 : Nat) : Int)))) = H3 at *
    clear hsd hTs hy hl e2 s2 e1 s1 hp hD1
    -- last
    refine srt_keys (K := K) (te := tVar 0) n4 (s3 _ _ hk1) ?_ ?_
    · exact fun R r => ⟨_, rfl, r⟩
    intro p H4 hp s4 e4
    refine ⟨p, rfl, ⟨_, SqL.of e4⟩, ?_⟩
    refine lc_pred (walk_list (xs := (List.range N.length).map vn)) (fun i y H => ∃ T, y = .ref T ∧ H T = some (.tup [vn i, .int (((Ch.kn N i).fr.length + (Ch.kn N i).tu.length - 1 : Nat) : Int)])) (by rw [mlen]; omega) (fun H' s => SqL.of (s _ _ e4)) ?_ ?_
    · rintro D' i x H5 H5' acc R hi hD s5 ha ⟨rfl, hx⟩ kk
      rw [mlen] at hi
      rw [mget _ hi] at hx
      cases hx
      have s35 := (s3.trans s4).trans s5
      obtain ⟨fa, ta, h1, ⟨as, f1, f2⟩, ⟨bs, t1, t2⟩⟩ := hk2 i hi
      have g := DGet.in_ (s35 _ _ hk1) (List.mem_range.mpr hi)
      have ntu : 0 < (Ch.kn N i).tu.length := List.length_pos_iff.mpr (D.tu i hi)
      refine ⟨rfl, _, rfl, _, rfl, _, rfl, a, _, rfl, g, kns i, _, _, _, rfl, rfl, SqT.of (s35 _ _ h1), at0, fa, _, rfl, .inr (SqT.of (s35 _ _ f1)), _, rfl, _, rfl, a, _, rfl, g, kns i, _, _, _, rfl, rfl, SqT.of (s35 _ _ h1), at1, ta, _, rfl, .inr (SqT.of (s35 _ _ t1)), _, _, rfl, rfl, _, _, rfl, rfl, (by show 2 ≤ sizeLine; decide), fun T hT => ?_⟩
      have nT : T ≠ D' := fun z => by rw [z, ha] at hT; cases hT
      have ez : ((((List.range (Ch.kn N i).fr.length).map fun i => V.ref (as i)).length : Nat) : Int) + ((((List.range (Ch.kn N i).tu.length).map fun i => V.ref (bs i)).length : Nat) : Int) - 1 = (((Ch.kn N i).fr.length + (Ch.kn N i).tu.length - 1 : Nat) : Int) := by
        rw [mlen, mlen]; omega
      refine kk _ _ (Same.new hT) fun H6 s6 => ⟨T, rfl, s6 _ _ nT ?_⟩
      rw [upd_same, ← ez]
    intro D1 ys H5 hD1 s5 e5 hl hy
    rw [mlen] at hl
    obtain ⟨Ts, rfl, hTs⟩ := refs_of hl hy
    refine ⟨D1, (List.range N.length).map Ts, dk (List.range N.length) (fun i => .int (((Ch.kn N i).fr.length + (Ch.kn N i).tu.length - 1 : Nat) : Int)), rfl, SqL.of (by rw [← rws_map]; exact e5), paired_map fun i hi => SqT.of (hTs i (List.mem_range.mp hi)), fun ld hld => ?_⟩
    rw [merge_nil List.nodup_range]
    have s45 := (s4.trans s5).trans (Same.new (o := .dK (dk (List.range N.length) (fun i => .int (((Ch.kn N i).fr.length + (Ch.kn N i).tu.length - 1 : Nat) : Int)))) hld)
    have eld : StdAt (upd H5 ld (.dK (dk (List.range N.length) (fun i => .int (((Ch.kn N i).fr.length + (Ch.kn N i).tu.length - 1 : Nat) : Int))))) ld N.length (fun i => (Ch.kn N i).fr.length + (Ch.kn N i).tu.length - 1) := upd_same
    generalize upd H5 ld (.dK (dk (List.range N.length) (fun i => .int (((Ch.kn N i).fr.length + (Ch.kn N i).tu.length - 1 : Nat) : Int)))) = H6 at *
    have s6 := s3.trans s45
    have esd6 := esd.mono s45
    clear hld hTs hy hl e5 s5 e4 s4 hp s45 s3 esd hD1
    -- the two standings
    refine ⟨_, rfl, _, rfl, (by show 2 ≤ sizeLine; decide), fun q hq => ?_⟩
    have s7 := s6.trans (Same.new (o := .tup [.ref sd, .ref ld]) hq)
    have eq7 : upd H6 q (.tup [.ref sd, .ref ld]) q = some (.tup [.ref sd, .ref ld]) := upd_same
    have esd7 := esd6.mono (Same.new (o := .tup [.ref sd, .ref ld]) hq)
    have eld7 := eld.mono (Same.new (o := .tup [.ref sd, .ref ld]) hq)
    generalize upd H6 q (.tup [.ref sd, .ref ld]) = H7 at *
    clear hq eld esd6 s6
    refine ⟨q, rfl, ⟨_, SqT.of eq7⟩, ?_⟩
    refine for_tup (K := K) (a := q) (xs := [.ref sd, .ref ld]) (fun i σ H' => ∃ (v3 v4 v5 : Option V), σ = [some (.ref a), some (.ref sd), some (.ref ld), v3, v4, v5, none, none] ∧ Same H7 H') ⟨none, none, none, rfl, Same.refl _⟩ (fun i σ H' _ ⟨_, _, _, _, s⟩ => SqT.of (s _ _ eq7)) ?_ ?_
    case refine_2 =>
      rintro σ H8 ⟨v3, v4, v5, rfl, s8⟩
      exact k true H8 (s7.trans s8)
    rintro i x σ H8 hx ⟨v3, v4, v5, rfl, s8⟩
    obtain ⟨st, s0, rfl, hst⟩ : ∃ st s0, x = .ref st ∧ StdAt H8 st N.length s0 := by
      rcases i with _ | _ | i
      · cases hx; exact ⟨sd, _, rfl, esd7.mono s8⟩
      · cases hx; exact ⟨ld, _, rfl, eld7.mono s8⟩
      · cases hx
    have cp : CPow 10 34 := ⟨by decide, by decide, by decide⟩
    refine ⟨_, _, rfl, rfl, cp, (by show 3 ≤ sizeLine; decide), fun q2 hq2 => ?_⟩
    have s9 : Same H8 (upd H8 q2 (.tup [.int 1, .int 200, .int ((10 : Int) ^ (34 : Int).toNat)])) := Same.new hq2
    have eq9 : upd H8 q2 (.tup [.int 1, .int 200, .int ((10 : Int) ^ (34 : Int).toNat)]) q2 = some (.tup ([1, 200, (10 : Int) ^ (34 : Int).toNat].map V.int)) := upd_same
    generalize upd H8 q2 (.tup [.int 1, .int 200, .int ((10 : Int) ^ (34 : Int).toNat)]) = H9 at *
    refine ⟨q2, rfl, ⟨_, SqT.of eq9⟩, ?_⟩
    have hst9 := hst.mono s9
    have s79 := s8.trans s9
    clear hst s9 s8 hq2
    generalize ([1, 200, (10 : Int) ^ (34 : Int).toNat] : List Int) = zs at *
    refine for_tup (K := K) (a := q2) (xs := zs.map V.int) (fun i σ H' => ∃ (v4 v5 : Option V), σ = [some (.ref a), some (.ref sd), some (.ref ld), some (.ref st), v4, v5, none, none] ∧ Same H9 H') ⟨v4, v5, rfl, Same.refl _⟩ (fun i σ H' _ ⟨_, _, _, s⟩ => SqT.of (s _ _ eq9)) ?_ ?_
    case refine_2 =>
      rintro σ H10 ⟨v4, v5, rfl, s10⟩
      exact ⟨_, _, _, rfl, s79.trans s10⟩
    rintro j x σ H10 hx ⟨v4, v5, rfl, s10⟩
    obtain ⟨z, rfl⟩ : ∃ z : Int, x = .int z := by
      rw [List.getElem?_map] at hx
      cases c : zs[j]? with
      | none => rw [c] at hx; cases hx
      | some z => rw [c] at hx; cases hx; exact ⟨z, rfl⟩
    have s010 := (s7.trans s79).trans s10
    -- waits
    refine srt_keys (K := K) (te := tVar 0) n4 (s010 _ _ hk1) ?_ ?_
    · exact fun R r => ⟨_, rfl, r⟩
    intro p H11 hp s11 e11
    refine ⟨p, rfl, ⟨_, SqL.of e11⟩, ?_⟩
    refine lc_pred (walk_list (xs := (List.range N.length).map vn)) (fun i y H => WtAt H N.length y) (by rw [mlen]; omega) (fun H' s => SqL.of (s _ _ e11)) ?_ ?_
    · rintro D' i x H5 H5' acc R hi hD s5 ha ⟨rfl, hx⟩ kk
      rw [mlen] at hi
      rw [mget _ hi] at hx
      cases hx
      refine ⟨rfl, fun T hT => ?_⟩
      have nT : T ≠ D' := fun z => by rw [z, ha] at hT; cases hT
      refine ⟨_, rfl, _, rfl, upd_same, [(ky i, .int z)], rfl, (by show 1 ≤ 15; decide), ?_⟩
      refine kk _ _ ((Same.new hT).mut hT) fun H6 s6 => ⟨T, [i], fun _ => z, rfl, s6 _ _ nT ?_, by simp, fun t ht => ?_⟩
      · rw [upd_same]; rfl
      · rw [List.mem_singleton.mp ht]; exact hi
    intro L1 ys1 H12 hL1 s12 e12 hl1 hy1
    rw [mlen] at hl1
    refine srt_keys (K := K) (te := tVar 0) n4 (s12 _ _ (s11 _ _ (s010 _ _ hk1))) ?_ ?_
    · exact fun R r => ⟨_, rfl, r⟩
    intro p2 H13 hp2 s13 e13
    refine ⟨p2, rfl, ⟨_, SqL.of e13⟩, ?_⟩
    refine lc_pred (walk_list (xs := (List.range N.length).map vn)) (fun i y H => ∃ T, y = .ref T ∧ H T = some (.tup [vn i, .int z])) (by rw [mlen]; omega) (fun H' s => SqL.of (s _ _ e13)) ?_ ?_
    · rintro D' i x H5 H5' acc R hi hD s5 ha ⟨rfl, hx⟩ kk
      rw [mlen] at hi
      rw [mget _ hi] at hx
      cases hx
      refine ⟨rfl, _, rfl, _, rfl, (by show 2 ≤ sizeLine; decide), fun T hT => ?_⟩
      have nT : T ≠ D' := fun z => by rw [z, ha] at hT; cases hT
      exact kk _ _ (Same.new hT) fun H6 s6 => ⟨T, rfl, s6 _ _ nT upd_same⟩
    intro D1 ys H14 hD1 s14 e14 hl hy
    rw [mlen] at hl
    obtain ⟨Ts, rfl, hTs⟩ := refs_of hl hy
    refine ⟨D1, (List.range N.length).map Ts, dk (List.range N.length) (fun _ => .int z), rfl, SqL.of (by rw [← rws_map]; exact e14), paired_map fun i hi => SqT.of (hTs i (List.mem_range.mp hi)), fun wd hwd => ?_⟩
    rw [merge_nil List.nodup_range]
    have s15 := (s13.trans s14).trans (Same.new (o := .dK (dk (List.range N.length) (fun _ => .int z))) hwd)
    have ewd : WtAt (upd H14 wd (.dK (dk (List.range N.length) (fun _ => .int z)))) N.length (.ref wd) := ⟨wd, _, _, rfl, upd_same, List.nodup_range, fun t ht => List.mem_range.mp ht⟩
    generalize upd H14 wd (.dK (dk (List.range N.length) (fun _ => .int z))) = H15 at *
    clear hwd hTs hy hl e14 s14 e13 s13 hp2 hD1
    refine ⟨(by show 1 ≤ sizeLine; decide), fun l2 hl2 => ?_⟩
    have s16 := s15.trans (Same.new (o := .lst [.ref wd]) hl2)
    have ewd16 := ewd.mono (Same.new (o := .lst [.ref wd]) hl2)
    have el2 : upd H15 l2 (.lst [.ref wd]) l2 = some (.lst [.ref wd]) := upd_same
    generalize upd H15 l2 (.lst [.ref wd]) = H16 at *
    refine ⟨L1, l2, _, _, rfl, rfl, s16 _ _ e12, el2, (by rw [hl1]; exact sz5' (by show N.length + 1 ≤ _; omega)), fun ws hws => ?_⟩
    have s17 : Same H16 (upd H16 ws (.lst (ys1 ++ [.ref wd]))) := Same.new hws
    have ews : upd H16 ws (.lst (ys1 ++ [.ref wd])) ws = some (.lst (ys1 ++ [.ref wd])) := upd_same
    have wall : ∀ (i : Nat) (y : V), (ys1 ++ [.ref wd])[i]? = some y → WtAt (upd H16 ws (.lst (ys1 ++ [.ref wd]))) N.length y := fun i y h => by
      by_cases c : i < ys1.length
      · rw [List.getElem?_append_left c] at h
        exact (hy1 i y h).mono (s16.trans s17)
      · rw [List.getElem?_append_right (by omega)] at h
        have : i - ys1.length = 0 := by
          cases e : i - ys1.length with
          | zero => rfl
          | succ n => rw [e] at h; cases h
        rw [this] at h
        cases h
        exact ewd16.mono s17
    generalize upd H16 ws (.lst (ys1 ++ [.ref wd])) = H17 at *
    have sfin := (((s11.trans s12).trans s16).trans s17)
    have s1017 := s10.trans sfin
    have hst17 := hst9.mono s1017
    have hk17 := hk.mono ((s7.trans s79).trans s1017)
    clear ewd ewd16 el2 hl2 s16 s15 s17 s12 s11 hy1 e12 hL1 e11 hp s010 hx s10
    have len17 : (ys1 ++ [V.ref wd]).length ≤ 5 := by rw [List.length_append, hl1]; show N.length + 1 ≤ 5; omega
    generalize ys1 ++ [V.ref wd] = wl at *
    -- any
    refine ⟨_, rfl, ws, rfl, ⟨_, SqL.of ews⟩, ?_⟩
    refine lc_pred (walk_list (xs := wl)) (fun i y H => ∃ b, y = .bl b) (by omega) (fun H' s => SqL.of (s _ _ ews)) ?_ ?_
    · rintro D' i x H5 H5' acc R hi hD s5 ha ⟨rfl, hx⟩ kk
      obtain ⟨wt, wks, wg, rfl, h1, h2, h3⟩ := (wall i x hx).mono s5
      refine ⟨rfl, _, rfl, _, rfl, _, rfl, ?_⟩
      refine ⟨a, st, wt, N, s0, wks, wg, 2000, rfl, hk17.mono s5, D, hst17.mono s5, h1, h2, h3, fun v H6 s6 hv => ?_⟩
      exact ⟨rfl, kk _ _ s6 fun H7 s7 => ⟨_, rfl⟩⟩
    · intro L2 ys2 H18 hL2 s18 e18 hl2 hy2
      obtain ⟨bs, rfl⟩ := bools_of fun y hy => by
        obtain ⟨i, hi⟩ := List.getElem?_of_mem hy
        exact hy2 i y hi
      refine ⟨L2, bs, rfl, SqL.of e18, _, rfl, ?_⟩
      have sall := (s7.trans s79).trans (s1017.trans s18)
      refine ite2 (fun c => ?_) (fun c => ?_)
      · exact k false H18 sall
      · exact ⟨_, _, rfl, s1017.trans s18⟩
end
end K11
end
section
set_option Elab.async false
set_option linter.all false
set_option maxRecDepth 100000
/-! R8: list(text), text * int. -/
namespace K11
open PySem PySem.Spec PyProof.Rows L2
open C8 (Cal Met Mak)
section
variable {X : Cx}
def signs (z : Str) : List V := z.cps.toList.map fun c => V.str ⟨#[c]⟩
theorem signs_at (z : Str) (i : Nat) : (signs z)[i]? = z.cps[i]?.map fun c => V.str ⟨#[c]⟩ := by unfold signs; rw [List.getElem?_map, Array.getElem?_toList]
theorem vals_signs {z : Str} {its : List Value} (h1 : its.length = z.cps.size) (h2 : ∀ (j : Nat) (v : Value), its[j]? = some v → SignAt z j v) : Vals (signs z) its := by
  have gen : ∀ (xs : List V) (us : List Value), xs.length = us.length → (∀ (j : Nat) (x : V) (u : Value), xs[j]? = some x → us[j]? = some u → RelV x u) → Vals xs us := fun xs => by
    induction xs with
    | nil =>
      intro us hl _
      cases us with
      | nil => exact .nil
      | cons _ _ => cases hl
    | cons x xs ih =>
      intro us hl h
      cases us with
      | nil => cases hl
      | cons u us => exact .cons (h 0 x u rfl rfl) (ih us (Nat.succ.inj hl) fun j y v e1 e2 => h (j + 1) y v e1 e2)
  refine gen _ _ (by unfold signs; simp [h1]) fun j x u e1 e2 => ?_
  obtain ⟨c, t, g1, rfl⟩ := h2 j u e2
  rw [signs_at, g1] at e1
  cases e1
  exact ⟨t, rfl⟩
def rListS : List V → Hp → VK → Prop := fun xs H Q => ∃ z, xs = [.str z] ∧ z.cps.size ≤ sizeLine ∧ ∀ l, H l = none → Q (.ref l) (upd H l (.lst (signs z)))
theorem call_listS (hc : X.calm = true) : CallR X (.type "list") rListS := by
  intro pins s σ H xs us Q I r h
  obtain ⟨z, rfl, hz, q⟩ := h
  obtain ⟨u, rfl, rx⟩ := vals1 r
  obtain ⟨t, rfl⟩ := rx
  refine call_list_str (I.ok.hd hc) z t (fun h' tk acc' c' kp e it => ?_) hz
  refine ⟨.ref s.heap.objs.size, _, I.laid (t' := tk) (o := .lst (signs z)) kp (Nat.le_refl _) ?_, rfl, q _ (I.hok.fresh (Nat.le_refl _))⟩
  refine ⟨by unfold signs; simpa using hz, acc'.toList, c', vals_signs (by simpa using it.1) (fun j v g => it.2 j v (by rw [← Array.getElem?_toList]; exact g)), ?_⟩
  simpa using e
/-- text * int -/
def rRepS : R2 := fun x y H Q => ∃ z n, x = .str z ∧ y = .int n ∧ MulOk z n ∧ Q (.str (Txt.mul z n)) H
theorem op_rep_str : OpR X (binaryOp .Mult) rRepS := by
  intro pins s σ H x y v u Q I rx ry h
  obtain ⟨z, n, rfl, rfl, hz, q⟩ := h
  obtain ⟨t, rfl⟩ := rx
  obtain ⟨t', rfl⟩ := ry
  exact SB.mul hz fun t' tk => ⟨.str (Txt.mul z n), H, I.tok _, ⟨_, rfl⟩, q⟩
end
end K11
end
section
set_option Elab.async false
set_option linter.all false
set_option maxRecDepth 100000
namespace Ch
/-- a knot as it is drawn, the v-th of n -/
structure KnOk (n v : Nat) (k : Kn) : Prop where
  tu : k.tu ≠ []
  tg : ∀ d ∈ k.ds, ∀ t ∈ d, t < n ∨ t = 4 ∨ t = 5
  met : v + 1 < n → 1 ≤ k.cnt (v + 1)
  fr2 : k.fr.length ≤ 2
  tu5 : k.tu.length ≤ 5
  dr2 : ∀ d ∈ k.ds, d.length ≤ 2
  sm : S4 (fun u => k.cnt u) ≤ 7
/-- a drawn row -/
structure RwOk (n : Nat) (r : List (List Nat)) : Prop where
  tg : ∀ d ∈ r, ∀ t ∈ d, t < n ∨ t = 4 ∨ t = 5
  dr2 : ∀ d ∈ r, d.length ≤ 2
theorem RwOk.nil (n : Nat) : RwOk n [] := ⟨fun _ h => (nomatch h), fun _ h => (nomatch h)⟩
theorem RwOk.snoc {n : Nat} {r : List (List Nat)} {d : List Nat} (h : RwOk n r) (h1 : ∀ t ∈ d, t < n ∨ t = 4 ∨ t = 5) (h2 : d.length ≤ 2) : RwOk n (r ++ [d]) :=
  ⟨fun e he => by
    rcases List.mem_append.mp he with g | g
    · exact h.tg e g
    · rw [List.mem_singleton.mp g]; exact h1, fun e he => by
    rcases List.mem_append.mp he with g | g
    · exact h.dr2 e g
    · rw [List.mem_singleton.mp g]; exact h2⟩
/-- what stands behind the drawn turn: the next knot, if there is one; then o -/
def lst (n v : Nat) : List (List Nat) := if v + 1 < n then [[v + 1]] else []
theorem S4_one (x : Nat) : S4 (fun u => [x].count u) ≤ 1 := by
  have : S4 (fun u => [x].count u) = S4 (fun u => if x = u then 1 else 0) := S4_congr fun u _ => by
    by_cases c : x = u
    · subst c; simp
    · rw [if_neg c]; exact List.count_eq_zero_of_not_mem (by simp [Ne.symm c])
  rw [this]; exact S4_one_if x
theorem knOk {n v : Nat} {fr tu : List (List Nat)} (hn : n ≤ 4) (hv : v < n) (h1 : RwOk n fr) (h2 : RwOk n tu) (l1 : fr.length ≤ 2) (l2 : 1 ≤ tu.length) (l3 : tu.length ≤ 3) : KnOk n v ⟨fr, tu ++ lst n v ++ [[4]]⟩ := by
  have hl : (lst n v).length ≤ 1 := by unfold lst; split <;> simp
  have hlm : ∀ d ∈ lst n v, d = [v + 1] ∧ v + 1 < n := fun d hd => by
    unfold lst at hd
    split at hd
    · exact ⟨List.mem_singleton.mp hd, by assumption⟩
    · cases hd
  have hmem : ∀ d ∈ (⟨fr, tu ++ lst n v ++ [[4]]⟩ : Kn).ds, d ∈ fr ∨ d ∈ tu ∨ (d = [v + 1] ∧ v + 1 < n) ∨ d = [4] := fun d hd => by
    unfold Kn.ds at hd
    simp only [List.mem_append, List.mem_singleton] at hd
    rcases hd with h | (h | h) | h
    · exact .inl h
    · exact .inr (.inl h)
    · exact .inr (.inr (.inl (hlm d h)))
    · exact .inr (.inr (.inr h))
  refine ⟨by simp, fun d hd t ht => ?_, fun hv1 => ?_, l1, ?_, fun d hd => ?_, ?_⟩
  · rcases hmem d hd with h | h | ⟨rfl, h⟩ | rfl
    · exact h1.tg d h t ht
    · exact h2.tg d h t ht
    · rw [List.mem_singleton.mp ht]; exact .inl h
    · rw [List.mem_singleton.mp ht]; exact .inr (.inl rfl)
  · show 1 ≤ cts (tu ++ lst n v ++ [[4]]) (v + 1)
    rw [cts_append, cts_append]
    have : cts (lst n v) (v + 1) = 1 := by unfold lst; rw [if_pos hv1, cts_one]; simp
    omega
  · show (tu ++ lst n v ++ [[4]]).length ≤ 5
    rw [List.length_append, List.length_append]
    simp; omega
  · rcases hmem d hd with h | h | ⟨rfl, h⟩ | rfl
    · exact h1.dr2 d h
    · exact h2.dr2 d h
    · simp
    · simp
  · show S4 (fun u => cts (tu ++ lst n v ++ [[4]]) u) ≤ 7
    have e : S4 (fun u => cts (tu ++ lst n v ++ [[4]]) u) = S4 (fun u => cts tu u) + S4 (fun u => cts (lst n v) u) + S4 (fun u => cts [[4]] u) := by
      simp only [cts_append, S4]; omega
    rw [e]
    have a := cts4 (l := tu) h2.dr2
    have b : S4 (fun u => cts (lst n v) u) ≤ 1 := by
      unfold lst; split
      · simp only [cts_one]; exact S4_one (v + 1)
      · simp [S4, cts_nil]
    have c : S4 (fun u => cts [[4]] u) = 0 := by simp only [cts_one]; decide
    omega
theorem drawn_of {n : Nat} {kf : Nat → Kn} (h1 : 1 ≤ n) (h4 : n ≤ 4) (h : ∀ v, v < n → KnOk n v (kf v)) : Drawn ((List.range n).map kf) ∧ ((List.range n).map kf).length = n ∧ ∀ v, v < n → kn ((List.range n).map kf) v = kf v := by
  have e : ((List.range n).map kf).length = n := by simp
  have k : ∀ v, v < n → kn ((List.range n).map kf) v = kf v := fun v hv => by
    unfold kn; rw [List.getD_eq_getElem?_getD, List.getElem?_map, List.getElem?_range hv]; rfl
  refine ⟨⟨by omega, by omega, fun v hv => ?_, fun v hv => ?_, fun v hv => ?_, fun v hv => ?_, fun v hv => ?_, fun v hv => ?_, fun v hv => ?_⟩, e, k⟩ <;> rw [e] at hv
  · rw [k v hv]; exact (h v hv).tu
  · rw [k v hv, e]; exact (h v hv).tg
  · show 1 ≤ (kn _ v).cnt (v + 1)
    rw [k v (by omega)]; exact (h v (by omega)).met hv
  · rw [k v hv]; exact (h v hv).fr2
  · rw [k v hv]; exact (h v hv).tu5
  · rw [k v hv]; exact (h v hv).dr2
  · have : ∀ u, cnt ((List.range n).map kf) v u = (kf v).cnt u := fun u => by show (kn _ v).cnt u = _; rw [k v hv]
    rw [S4_congr fun u _ => this u]; exact (h v hv).sm
end Ch
namespace K11
open PySem PySem.Spec PyProof.Rows L2
open C8 (Cal Met Mak)
/-! ### what is made of tuples outlasts stores to lists and dicts -/
def SameT (H H' : Hp) : Prop := ∀ b xs, H b = some (.tup xs) → H' b = some (.tup xs)
theorem SameT.refl (H : Hp) : SameT H H := fun _ _ h => h
theorem SameT.trans {H H1 H2 : Hp} (a : SameT H H1) (b : SameT H1 H2) : SameT H H2 := fun c xs h => b c xs (a c xs h)
theorem _root_.L2.Same.t {H H' : Hp} (s : Same H H') : SameT H H' := fun b xs h => s b _ h
theorem SameT.lst {H : Hp} {l : Addr} {ys zs : List V} (h : H l = some (.lst ys)) : SameT H (upd H l (.lst zs)) := fun b xs e => by
  rw [upd_ne (ne_of e h (by intro z; cases z))]; exact e
theorem SameT.dk {H : Hp} {l : Addr} {ks ls : List (Key × V)} (h : H l = some (.dK ks)) : SameT H (upd H l (.dK ls)) := fun b xs e => by
  rw [upd_ne (ne_of e h (by intro z; cases z))]; exact e
theorem DropAt.mt {H H' : Hp} {a : Addr} {d : List Nat} (s : SameT H H') (h : DropAt H a d) : DropAt H' a d := s _ _ h
theorem RowAt.mt {H H' : Hp} {a : Addr} {r : List (List Nat)} (s : SameT H H') (h : RowAt H a r) : RowAt H' a r := let ⟨as, h1, h2⟩ := h; ⟨as, s _ _ h1, fun i d e => (h2 i d e).mt s⟩
theorem KnotAt.mt {H H' : Hp} {a : Addr} {k : Ch.Kn} (s : SameT H H') (h : KnotAt H a k) : KnotAt H' a k := let ⟨f, t, h1, h2, h3⟩ := h; ⟨f, t, s _ _ h1, h2.mt s, h3.mt s⟩
/-- refs to drops -/
def DrsOf (H : Hp) (ys : List V) (r : List (List Nat)) : Prop := ys.length = r.length ∧ ∀ (i : Nat) (d : List Nat), r[i]? = some d → ∃ q : Addr, ys[i]? = some (V.ref q) ∧ DropAt H q d
theorem DrsOf.mt {H H' : Hp} {ys : List V} {r : List (List Nat)} (s : SameT H H') (h : DrsOf H ys r) : DrsOf H' ys r := ⟨h.1, fun i d e => let ⟨q, a, b⟩ := h.2 i d e; ⟨q, a, b.mt s⟩⟩
theorem DrsOf.nil (H : Hp) : DrsOf H [] [] := ⟨rfl, fun i d e => by simp at e⟩
theorem DrsOf.app {H : Hp} {ys zs : List V} {r q : List (List Nat)} (h : DrsOf H ys r) (h' : DrsOf H zs q) : DrsOf H (ys ++ zs) (r ++ q) := by
  refine ⟨by rw [List.length_append, List.length_append, h.1, h'.1], fun i d e => ?_⟩
  by_cases c : i < r.length
  · rw [List.getElem?_append_left c] at e
    rw [List.getElem?_append_left (by rw [h.1]; exact c)]
    exact h.2 i d e
  · rw [List.getElem?_append_right (by omega)] at e
    rw [List.getElem?_append_right (by rw [h.1]; omega), h.1]
    exact h'.2 _ d e
theorem DrsOf.one {H : Hp} {q : Addr} {d : List Nat} (h : DropAt H q d) : DrsOf H [.ref q] [d] := ⟨rfl, fun i e he => by
  rcases i with _ | i
  · cases he; exact ⟨q, rfl, h⟩
  · simp at he⟩
theorem RowAt.of {H : Hp} {a : Addr} {ys : List V} {r : List (List Nat)} (h : H a = some (.tup ys)) (hd : DrsOf H ys r) : RowAt H a r := by
  have hp : ∀ (i : Nat) (y : V), ys[i]? = some y → ∃ q : Addr, y = V.ref q ∧ ∀ d, r[i]? = some d → DropAt H q d := fun i y e => by
    have hi : i < r.length := by have := (List.getElem?_eq_some_iff.mp e).1; rw [hd.1] at this; exact this
    obtain ⟨q, e1, e2⟩ := hd.2 i _ (List.getElem?_eq_getElem hi)
    rw [e] at e1
    cases e1
    exact ⟨q, rfl, fun d ed => by rw [List.getElem?_eq_getElem hi] at ed; cases ed; exact e2⟩
  obtain ⟨as, e, h2⟩ := refs_of hd.1 hp
  subst e
  exact ⟨as, h, fun i d ed => h2 i (List.getElem?_eq_some_iff.mp ed).1 d ed⟩
theorem RowAt.to {H : Hp} {a : Addr} {r : List (List Nat)} (h : RowAt H a r) : ∃ ys, H a = some (.tup ys) ∧ DrsOf H ys r := by
  obtain ⟨as, h1, h2⟩ := h
  exact ⟨_, h1, by simp, fun i d e => ⟨as i, mget _ (List.getElem?_eq_some_iff.mp e).1, h2 i d e⟩⟩
theorem names_of (P : Nat → Prop) : ∀ {ys : List V}, (∀ (i : Nat) (y : V), ys[i]? = some y → ∃ t, y = vn t ∧ P t) → ∃ ts : List Nat, ys = ts.map vn ∧ ∀ t ∈ ts, P t
  | [], _ => ⟨[], rfl, fun _ h => (nomatch h)⟩
  | y :: ys, h => by
    obtain ⟨t, e, p⟩ := h 0 y rfl
    obtain ⟨ts, es, ps⟩ := names_of P fun i z hz => h (i + 1) z hz
    refine ⟨t :: ts, by rw [e, es]; rfl, fun u hu => ?_⟩
    rcases List.mem_cons.mp hu with rfl | hu
    · exact p
    · exact ps u hu
/-- the names of n knots as a text -/
def abc (n : Nat) : Str := ⟨((List.range n).map nmc).toArray⟩
theorem abc_cut : ∀ d, d < 4 → cutS "abcd" none (some (1 + ((d : Nat) : Int))) = abc (d + 1) := by
  intro d hd
  have : d = 0 ∨ d = 1 ∨ d = 2 ∨ d = 3 := by omega
  rcases this with rfl | rfl | rfl | rfl <;> decide +kernel
theorem abc_size (n : Nat) : (abc n).cps.size = n := by simp [abc]
theorem abc_at {n i : Nat} (h : i < n) : (abc n).cps[i]? = some (nmc i) := by simp [abc, h]
theorem abc_signs (n : Nat) : signs (abc n) = (List.range n).map vn := by
  unfold signs abc
  simp only [List.map_map]
  rfl
end K11
end
section
set_option Elab.async false
set_option linter.all false
set_option maxRecDepth 100000
namespace K11
open PySem PySem.Spec PyProof.Rows L2
open C8 (Cal Met Mak)
section
variable {P : Program} {w : World} {K : PySem.W.Frag} {mg : Str → Option Value} {base : Heap}
/-! ### the law's knots -/
abbrev tgs (n : Nat) : List V := (List.range n ++ [4, 5]).map vn
theorem tgs_len (n : Nat) : (tgs n).length = n + 2 := by simp
theorem tgs_at {n d : Nat} (h : d < n + 2) : ∃ t, (tgs n)[d]? = some (vn t) ∧ (t < n ∨ t = 4 ∨ t = 5) := by
  obtain ⟨t, ht⟩ : ∃ t, (List.range n ++ [4, 5])[d]? = some t := ⟨_, List.getElem?_eq_getElem (by simp; omega)⟩
  refine ⟨t, by rw [List.getElem?_map, ht]; rfl, ?_⟩
  have := List.mem_of_getElem? ht
  simp at this
  omega
structure KB (H0 H : Hp) (kd tg : Addr) (n i : Nat) (ks : Nat → Addr) (kf : Nat → Ch.Kn) : Prop where
  sm : Same H0 H
  tgt : H tg = some (.lst (tgs n))
  kdt : H kd = some (.dK (dk (List.range i) fun v => .ref (ks v)))
  kn : ∀ v, v < i → KnotAt H (ks v) (kf v) ∧ Ch.KnOk n v (kf v)
theorem KB.mono {H0 H H' : Hp} {kd tg : Addr} {n i : Nat} {ks : Nat → Addr} {kf : Nat → Ch.Kn} (h : KB H0 H kd tg n i ks kf) (s : Same H H') : KB H0 H' kd tg n i ks kf :=
  ⟨h.sm.trans s, s _ _ h.tgt, s _ _ h.kdt, fun v hv => ⟨(h.kn v hv).1.mono s, (h.kn v hv).2⟩⟩
theorem KB.app {H0 H : Hp} {kd tg l : Addr} {n i : Nat} {ks : Nat → Addr} {kf : Nat → Ch.Kn} {ys zs : List V} (h : KB H0 H kd tg n i ks kf) (l0 : H0 l = none) (lt : l ≠ tg) (e : H l = some (.lst ys)) : KB H0 (upd H l (.lst zs)) kd tg n i ks kf :=
  ⟨h.sm.mut l0, by rw [upd_ne lt.symm]; exact h.tgt, by rw [upd_ne (ne_of h.kdt e (by intro z; cases z))]; exact h.kdt, fun v hv => ⟨(h.kn v hv).1.mt (SameT.lst e), (h.kn v hv).2⟩⟩
theorem KB.put {H0 H : Hp} {kd tg kv : Addr} {n i : Nat} {ks : Nat → Addr} {kf : Nat → Ch.Kn} {k : Ch.Kn} (h : KB H0 H kd tg n i ks kf) (k0 : H0 kd = none) (kt : kd ≠ tg) (hi : i ≤ 4) (hk : KnotAt H kv k) (ok : Ch.KnOk n i k) :
    ∃ H', DPut H kd (vn i) (.ref kv) H' ∧ KB H0 H' kd tg n (i + 1) (fun v => if v = i then kv else ks v) (fun v => if v = i then k else kf v) := by
  have mt : ∀ l, SameT H (upd H kd (.dK l)) := fun l => SameT.dk h.kdt
  refine ⟨_, DPut.n h.kdt i (.ref kv) (by rw [List.length_range]; omega), h.sm.mut k0, by rw [upd_ne kt.symm]; exact h.tgt, ?_, fun v hv => ?_⟩
  · have e : kput (List.range i) i = List.range (i + 1) := by
      unfold kput
      rw [if_neg (by rw [List.mem_range]; omega), List.range_succ]
    rw [upd_same, e]
    congr 2
    exact dk_congr fun t _ => by
      unfold fput
      by_cases c : t = i
      · rw [if_pos c, if_pos c]
      · rw [if_neg c, if_neg c]
  · by_cases c : v = i
    · subst c
      simp only [if_pos]
      exact ⟨hk.mt (mt _), ok⟩
    · simp only [if_neg c]
      exact ⟨(h.kn v (by omega)).1.mt (mt _), (h.kn v (by omega)).2⟩
def RowsOk (H : Hp) (n p : Nat) (ys : List V) : Prop := (p = 0 ∧ ys = []) ∨ (p = 1 ∧ ∃ f fr, ys = [.ref f] ∧ RowAt H f fr ∧ Ch.RwOk n fr ∧ fr.length ≤ 2) ∨
  (p = 2 ∧ ∃ f fr t tu, ys = [.ref f, .ref t] ∧ RowAt H f fr ∧ Ch.RwOk n fr ∧ fr.length ≤ 2 ∧ RowAt H t tu ∧ Ch.RwOk n tu ∧ 1 ≤ tu.length ∧ tu.length ≤ 3)
theorem RowsOk.mt {H H' : Hp} {n p : Nat} {ys : List V} (s : SameT H H') (h : RowsOk H n p ys) : RowsOk H' n p ys := by
  rcases h with h | ⟨h, f, fr, a, b, c, d⟩ | ⟨h, f, fr, t, tu, a, b, c, d, e, g⟩
  · exact .inl h
  · exact .inr (.inl ⟨h, f, fr, a, b.mt s, c, d⟩)
  · exact .inr (.inr ⟨h, f, fr, t, tu, a, b.mt s, c, d, e.mt s, g⟩)
def sp_w_knots (K : PySem.W.Frag) : Sp := fun vs H Q _ => ∃ (a : Addr) (ns : List Int) (at_ : Nat), vs = [.ref a, .int (at_ : Nat), .bl true] ∧ SqL K H a (ns.map V.int) ∧ ns.length ≤ 63 ∧ at_ ≤ 100 ∧
  ∀ p N H', Same H H' → Ch.Drawn N → KnotsAt H' p N → Q (.ref p) H'
theorem sc_w_knots : FnScope ["_law_script", "_law_at", "_law_lossy", "_law_names", "_law_knots_here", "_law_targets", "_law_spot", "_law_name", "_law_rows", "_law_part", "_law_last", "_law_turn", "_law_row", "_law_first", "_law_many", "_law_one"] ["_law_script", "_law_at", "_law_lossy"] d_w_knots.scope := ⟨rfl, rfl, rfl, by decide +kernel, rfl, by decide +kernel, by decide +kernel⟩
set_option maxHeartbeats 2000000 in
theorem ok_w_knots (T : Txt K mg) (c__law_draw : Cal P w K mg base 1 "_law_draw" (sp_w_draw K) []) : Cal P w K mg base 2 "_law_knots" (sp_w_knots K) [] := by
  refine cal_mk d_w_knots T.d_w_knots T.g__law_knots sc_w_knots (fun vs H Q E h => ?_) (fun _ _ _ _ _ _ us hl => match us, hl with | [_, _, _], _ => rfl) (fun cdv A outer s H vs Q E hr h => ?_)
  · obtain ⟨_, _, _, rfl, _⟩ := h
    rfl
  · have hu := hu_of hr
    obtain ⟨a, ns, at_, rfl, ha, hn, hat, k⟩ := h
    refine ⟨_, (pss_cons (ps_set (i := 3) sc_w_knots.nd rfl (Or.inl rfl) (pe_slice sl_str pe_str po_none (po_some (pe_op op_add pe_int (C8.pe_c c__law_draw hr (by decide) rfl (pa_cons (pv 0) (pa_cons (pv 1) (pa_cons pe_int pa_nil))))))))
      (pss_cons (ps_asg (pe_tup (pa_cons pe_dnewK (pa_cons (pe_op op_cat (pe_callTy (call_listS rfl) (by rfl) T.f_list (by decide +kernel) (pa_cons (pv 3) pa_nil)) (pe_lst (pa_cons pe_str (pa_cons pe_str pa_nil)))) pa_nil))) (pg_tup rfl (pgs_cons (pg_name (i := 4) sc_w_knots.nd rfl (Or.inl rfl)) (pgs_cons (pg_name (i := 5) sc_w_knots.nd rfl (Or.inr rfl)) pgs_nil))))
      (pss_cons (ps_for PassesOwn.never rfl (pi_enumS rfl T.f_enumerate (pa_cons (pv 3) pa_nil)) (pg_tup rfl (pgs_cons (pg_name (i := 6) sc_w_knots.nd rfl (Or.inl rfl)) (pgs_cons (pg_name (i := 7) sc_w_knots.nd rfl (Or.inl rfl)) pgs_nil)))
      (pss_cons (ps_set (i := 8) sc_w_knots.nd rfl (Or.inl rfl) (pe_lst pa_nil))
        (pss_cons (ps_for PassesOwn.never rfl (pi_range1 rfl T.f_range (pa_cons pe_int pa_nil)) (pg_name (i := 9) sc_w_knots.nd rfl (Or.inl rfl))
        (pss_cons (ps_asg (pe_tup (pa_cons (pe_lst pa_nil) (pa_cons (pe_op op_add (pe_op op_add (pe_op op_add (pv 1) pe_int) (pe_op op_mulW pe_int (pv 6))) (pe_op op_mulW pe_int (pv 9))) pa_nil))) (pg_tup rfl (pgs_cons (pg_name (i := 12) sc_w_knots.nd rfl (Or.inl rfl)) (pgs_cons (pg_name (i := 13) sc_w_knots.nd rfl (Or.inr rfl)) pgs_nil))))
          (pss_cons (ps_for PassesOwn.never rfl (pi_range1 rfl T.f_range (pa_cons (pe_ifExp (pt_cmpR op_eq (pv 9) pe_int (nomark _)) (C8.pe_c c__law_draw hr (by decide) rfl (pa_cons (pv 0) (pa_cons (pv 13) (pa_cons pe_int pa_nil)))) (pe_op op_add pe_int (C8.pe_c c__law_draw hr (by decide) rfl (pa_cons (pv 0) (pa_cons (pv 13) (pa_cons pe_int pa_nil)))))) pa_nil)) (pg_name (i := 11) sc_w_knots.nd rfl (Or.inr rfl))
          (pss_cons (ps_set (i := 14) sc_w_knots.nd rfl (Or.inl rfl) (pe_ix ix_tup (pe_tup (pa_cons pe_int (pa_cons pe_int (pa_cons pe_int (pa_cons pe_int (pa_cons pe_int pa_nil)))))) (C8.pe_c c__law_draw hr (by decide) rfl (pa_cons (pv 0) (pa_cons (pe_op op_add (pe_op op_add (pv 13) pe_int) (pe_op op_mulW pe_int (pv 11))) (pa_cons pe_int pa_nil)))) (fun _ _ => rfl)))
            (pss_one (ps_expr (pe_bm PySem.F.plainAttrs_list PySem.F.slot_list_append PySem.F.type_list_append mt_append (pv 12) (pa_cons (pe_callTy call_tuple_of (by rfl) T.f_tuple (by decide +kernel) (pa_cons (pe_lc (te := tOp (rIxL K) (tVar 5) (tCall (sp_w_draw K) [] C8.E0 (tCons (tVar 0) (tCons _ (tCons (tCB (rLenSeq K) (tCons (tVar 5) tNil)) tNil))))) (own := [("_law_one", 15)]) (by rfl) sc_w_knots.nd (pi_range1 rfl T.f_range (pa_cons (pv 14) pa_nil)) (blkOk_by (own := [("_law_one", 15)]) (by rfl)) (fun _ _ _ _ _ => (pg_name (i := 15) sc_w_knots.nd rfl (Or.inl rfl))) (fun _ _ _ _ _ => pts_nil) (fun _ _ _ _ _ => (pe_ix ix_list (pv 5) (C8.pe_c c__law_draw hr (by decide) rfl (pa_cons (pv 0) (pa_cons (pe_op op_add (pe_op op_add (pe_op op_add (pv 13) pe_int) (pe_op op_mulW pe_int (pv 11))) (pv 15)) (pa_cons (pe_callB call_len_seq (by rfl) T.f_len (by decide +kernel) (pa_cons (pv 5) pa_nil)) pa_nil)))) (fun _ _ => rfl)))) pa_nil)) pa_nil))))))
          (pss_one (ps_expr (pe_bm PySem.F.plainAttrs_list PySem.F.slot_list_append PySem.F.type_list_append mt_append (pv 8) (pa_cons (pe_callTy call_tuple_of (by rfl) T.f_tuple (by decide +kernel) (pa_cons (pv 12) pa_nil)) pa_nil)))))))
        (pss_cons (ps_set (i := 10) sc_w_knots.nd rfl (Or.inl rfl) (pe_ifExp (pt_cmpR op_lt (pe_op op_add (pv 6) pe_int) (pe_callB call_len_str (by rfl) T.f_len (by decide +kernel) (pa_cons (pv 3) pa_nil)) (nomark _)) (pe_tup (pa_cons (pe_tup (pa_cons (pe_ix ix_str (pv 3) (pe_op op_add (pv 6) pe_int) (fun _ _ => rfl)) pa_nil)) pa_nil)) (pe_tup pa_nil)))
        (pss_one (ps_dput hu (pv 4) (pv 7) (pe_tup (pa_cons (pe_ix ix_list (pv 8) pe_int (fun _ _ => rfl)) (pa_cons (pe_op op_catT (pe_op op_catT (pe_ix ix_list (pv 8) pe_int (fun _ _ => rfl)) (pv 10)) (pe_ifExp (pt_val (pv 2)) (pe_tup (pa_cons (pe_tup (pa_cons pe_str pa_nil)) pa_nil)) (pe_tup pa_nil))) pa_nil))) rfl))))))
      (pss_one (ps_ret (pv 4)))))), ?_⟩
    -- names
    refine ⟨_, rfl, _, rfl, a, ns, at_, 4, rfl, ha, hn, by decide, by omega, fun d H1 s1 hd => ⟨_, _, rfl, rfl, _, rfl, _, rfl, sz5' (by decide), ?_⟩⟩
    rw [abc_cut d hd]
    obtain ⟨n, hn'⟩ : ∃ n, n = d + 1 := ⟨_, rfl⟩
    rw [← hn']
    have n1 : 1 ≤ n := by omega
    have n4 : n ≤ 4 := by omega
    clear hn' hd
    -- knots_here, targets
    intro kd hkd
    have s2 := s1.trans (Same.new (o := .dK []) hkd)
    have ekd : upd H1 kd (.dK []) kd = some (.dK []) := upd_same
    generalize upd H1 kd (.dK []) = H2 at *
    refine ⟨_, rfl, _, rfl, (by rw [abc_size]; exact sz5' (by omega)), fun l1 hl1 => ⟨(by show 2 ≤ sizeLine; decide), fun l2 hl2 => ?_⟩⟩
    have s3 := Same.new (o := .lst (signs (abc n))) hl1
    have e3 : upd H2 l1 (.lst (signs (abc n))) l1 = some (.lst ((List.range n).map vn)) := by rw [upd_same, abc_signs]
    generalize upd H2 l1 (.lst (signs (abc n))) = H3 at *
    have s4 := Same.new (o := .lst [.str "o", .str "p"]) hl2
    have e4 : upd H3 l2 (.lst [.str "o", .str "p"]) l2 = some (.lst [vn 4, vn 5]) := upd_same
    generalize upd H3 l2 (.lst [.str "o", .str "p"]) = H4 at *
    refine ⟨l1, l2, _, _, rfl, rfl, s4 _ _ e3, e4, (by rw [mlen]; exact sz5' (by show n + 2 ≤ _; omega)), fun tg htg => ⟨(by show 2 ≤ sizeLine; decide), fun q hq => ?_⟩⟩
    have s5 := Same.new (o := .lst ((List.range n).map vn ++ [vn 4, vn 5])) htg
    have e5 : upd H4 tg (.lst ((List.range n).map vn ++ [vn 4, vn 5])) tg = some (.lst (tgs n)) := by rw [upd_same]; unfold tgs; rw [List.map_append]; rfl
    generalize upd H4 tg (.lst ((List.range n).map vn ++ [vn 4, vn 5])) = H5 at *
    have s24 := (s3.trans s4)
    have htg0 : H tg = none := (s2.trans s24).free htg
    have hkd0 : H kd = none := s1.free hkd
    have s6 := Same.new (o := .tup [.ref kd, .ref tg]) hq
    refine ⟨q, _, rfl, SqT.of upd_same, rfl, _, _, rfl, _, _, rfl, rfl, ?_⟩
    have B0 : KB H (upd H5 q (.tup [.ref kd, .ref tg])) kd tg n 0 (fun _ => 0) (fun _ => ⟨[], []⟩) :=
      ⟨((s2.trans s24).trans s5).trans s6, s6 _ _ e5, s6 _ _ (s5 _ _ (s24 _ _ ekd)), fun v hv => absurd hv (Nat.not_lt_zero _)⟩
    generalize upd H5 q (.tup [.ref kd, .ref tg]) = H6 at *
    clear s6 hq s24 e5 s5 htg e4 s4 hl2 e3 s3 hl1 ekd s2 hkd s1
    refine ⟨_, rfl, _, rfl, ?_⟩
    refine fr_it (walk_enumS (z := abc n)) (fun i σ H' => ∃ (ks : Nat → Addr) (kf : Nat → Ch.Kn) (v6 v7 v8 v9 v10 v11 v12 v13 v14 : Option V), σ = [some (.ref a), some (.int (at_ : Nat)), some (.bl true), some (.str (abc n)), some (.ref kd), some (.ref tg), v6, v7, v8, v9, v10, v11, v12, v13, v14, none] ∧ KB H H' kd tg n i ks kf) ?_ ?_ ?_ ?_
    · exact ⟨_, _, none, none, none, none, none, none, none, none, none, rfl, B0⟩
    · exact fun _ _ _ _ _ => trivial
    · rintro i x σ H7 H7' hi ⟨ks, kf, v6, v7, v8, v9, v10, v11, v12, v13, v14, rfl, B⟩ ⟨T', y1, y2, rfl, hT, rfl, e1, e2⟩
      rw [abc_size] at hi
      simp only [abc_at hi] at e2
      cases e1
      have e3 : y2 = vn i := (Option.some.inj e2).symm
      subst e3
      clear e2
      have B1 := B.mono (Same.new (o := .tup [.int (i : Nat), vn i]) hT)
      refine ⟨T', _, rfl, SqT.of upd_same, rfl, _, _, rfl, _, _, rfl, rfl, ?_⟩
      generalize upd H7 T' (.tup [.int (i : Nat), vn i]) = H8 at *
      clear hT B
      -- rows
      refine ⟨(by show 0 ≤ sizeLine; exact Nat.zero_le _), fun rl hrl => ?_⟩
      have B2 := B1.mono (Same.new (o := .lst []) hrl)
      have hrl0 : H rl = none := B1.sm.free hrl
      have rt : rl ≠ tg := (ne_of_none B1.tgt hrl).symm
      have erl : upd H8 rl (.lst []) rl = some (.lst []) := upd_same
      generalize upd H8 rl (.lst []) = H9 at *
      clear hrl B1
      refine ⟨2, rfl, by decide, by decide, ?_⟩
      refine for_range (fun p σ H' => ∃ (ys : List V) (v9 v10 v11 v12 v13 v14 : Option V), σ = [some (.ref a), some (.int (at_ : Nat)), some (.bl true), some (.str (abc n)), some (.ref kd), some (.ref tg), some (.int (i : Nat)), some (vn i), some (.ref rl), v9, v10, v11, v12, v13, v14, none] ∧ KB H H' kd tg n i ks kf ∧ H' rl = some (.lst ys) ∧ RowsOk H' n p ys) ?_ ?_ ?_
      · exact ⟨[], v9, v10, v11, v12, v13, v14, rfl, B2, erl, .inl ⟨rfl, rfl⟩⟩
      · rintro p σ H10 hp ⟨ys, v9, v10, v11, v12, v13, v14, rfl, B3, erl3, ro3⟩
        have hp2 : p < 2 := hp
        have e0 : ((0 : Int) + (p : Nat)) = ((p : Nat) : Int) := Int.zero_add _
        rw [e0]
        -- row, first
        refine ⟨(by show 0 ≤ sizeLine; exact Nat.zero_le _), fun l hl => ?_⟩
        have s4 := Same.new (o := .lst []) hl
        have B4 := B3.mono s4
        have hl0 : H l = none := B3.sm.free hl
        have lt : l ≠ tg := (ne_of_none B3.tgt hl).symm
        have lr : l ≠ rl := (ne_of_none erl3 hl).symm
        have el4 : upd H10 l (.lst []) l = some (.lst []) := upd_same
        have erl4 := s4 _ _ erl3
        have ro4 := ro3.mt s4.t
        generalize upd H10 l (.lst []) = H11 at *
        have cm : ∀ z : Int, CMulW z ((i : Nat) : Int) → True := fun _ _ => trivial
        have w1 : CMulW 40 ((i : Nat) : Int) := wide_mul (a := 10) (b := 20) (by decide) (by omega) (by decide) (by decide) (by decide)
        have w2 : CMulW 12 ((p : Nat) : Int) := wide_mul (a := 10) (b := 20) (by decide) (by omega) (by decide) (by decide) (by decide)
        refine ⟨_, rfl, _, _, rfl, rfl, _, rfl, _, _, rfl, rfl, w1, _, _, rfl, rfl, _, rfl, _, _, rfl, rfl, w2, _, _, rfl, rfl, (by show 2 ≤ sizeLine; decide), fun q hq => ?_⟩
        obtain ⟨fst, hfst⟩ : ∃ f : Nat, f = at_ + 10 + 40 * i + 12 * p := ⟨_, rfl⟩
        have ef : ((at_ : Nat) : Int) + 10 + 40 * ((i : Nat) : Int) + 12 * ((p : Nat) : Int) = (fst : Int) := by omega
        have hf1000 : fst ≤ 1000 := by omega
        have s5 := Same.new (o := .tup [.ref l, .int (((at_ : Nat) : Int) + 10 + 40 * ((i : Nat) : Int) + 12 * ((p : Nat) : Int))]) hq
        refine ⟨q, [.ref l, .int (fst : Nat)], rfl, SqT.of (upd_same.trans (congrArg (fun z => some (HO.tup [V.ref l, V.int z])) ef)), rfl, _, _, rfl, _, _, rfl, rfl, ?_⟩
        have B5 := B4.mono s5
        have el5 := s5 _ _ el4
        have erl5 := s5 _ _ erl4
        have ro5 := ro4.mt s5.t
        generalize upd H11 q (.tup [.ref l, .int (((at_ : Nat) : Int) + 10 + 40 * ((i : Nat) : Int) + 12 * ((p : Nat) : Int))]) = H12 at *
        clear s5 hq el4 erl4 ro4 B4 s4 hl B3 erl3 ro3
        refine (fun rest : (∀ (c : Nat) (H9 : Hp), Same H12 H9 → (p = 0 → c ≤ 2) → (p = 1 → 1 ≤ c) → c ≤ 3 → (?G : Nat → Hp → Prop) c H9) => ?A) ?B
        case A =>
          refine ⟨_, rfl, rfl, _, rfl, ?_⟩
          refine ite2 (fun c => ?_) (fun c => ?_)
          · have hp0 : p = 0 := by
              have := of_decide_eq_true c
              have := V.int.inj this
              omega
            refine ⟨_, rfl, _, rfl, a, ns, fst, 3, rfl, B5.sm.seq ha, hn, by decide, by omega, fun d H13 s13 hd => ?_⟩
            exact rest d H13 s13 (fun _ => by omega) (fun e => by omega) (by omega)
          · have hp0 : p = 1 := by
              have : ¬ p = 0 := fun z => c (decide_eq_true (by rw [z]; rfl))
              omega
            refine ⟨_, rfl, _, rfl, a, ns, fst, 3, rfl, B5.sm.seq ha, hn, by decide, by omega, fun d H13 s13 hd => ⟨_, _, rfl, rfl, ?_⟩⟩
            exact rest (1 + d) H13 s13 (fun _ => by omega) (fun e => by omega) (by omega)
        case B =>
          intro c H13 s13 c0 c1 c3
          have B6 := B5.mono s13
          have el6 := s13 _ _ el5
          have erl6 := s13 _ _ erl5
          have ro6 := ro5.mt s13.t
          clear s13 ro5 erl5 el5 B5
          refine ⟨(c : Nat), rfl, by omega, by omega, ?_⟩
          rw [Int.toNat_natCast]
          refine for_range (fun t σ H' => ∃ (ys' : List V) (r : List (List Nat)) (v11 v14 : Option V), σ = [some (.ref a), some (.int (at_ : Nat)), some (.bl true), some (.str (abc n)), some (.ref kd), some (.ref tg), some (.int (i : Nat)), some (vn i), some (.ref rl), some (.int (p : Nat)), v10, v11, some (.ref l), some (.int (fst : Nat)), v14, none] ∧ KB H H' kd tg n i ks kf ∧ H' rl = some (.lst ys) ∧ RowsOk H' n p ys ∧ H' l = some (.lst ys') ∧ DrsOf H' ys' r ∧ Ch.RwOk n r ∧ r.length = t) ?_ ?_ ?_
          · exact ⟨[], [], v11, v14, rfl, B6, erl6, ro6, el6, DrsOf.nil _, Ch.RwOk.nil n, rfl⟩
          · rintro t σ H14 ht ⟨ys', r, v11, v14, rfl, B7, erl7, ro7, el7, dr7, rw7, hrt⟩
            have e0 : ((0 : Int) + (t : Nat)) = ((t : Nat) : Int) := Int.zero_add _
            rw [e0]
            have w3 : CMulW 5 ((t : Nat) : Int) := wide_mul (a := 10) (b := 20) (by decide) (by omega) (by decide) (by decide) (by decide)
            refine ⟨(by show 5 ≤ sizeLine; decide), fun q hq => ?_⟩
            have s8 := Same.new (o := .tup [.int 1, .int 1, .int 1, .int 0, .int 2]) hq
            have eq8 : upd H14 q (.tup [.int 1, .int 1, .int 1, .int 0, .int 2]) q = some (.tup [.int 1, .int 1, .int 1, .int 0, .int 2]) := upd_same
            generalize upd H14 q (.tup [.int 1, .int 1, .int 1, .int 0, .int 2]) = H15 at *
            refine ⟨_, rfl, _, rfl, _, _, rfl, rfl, _, rfl, _, _, rfl, rfl, w3, _, _, rfl, rfl, a, ns, fst + 4 + 5 * t, 5, ?_, (B7.sm.trans s8).seq ha, hn, by decide, by omega, fun d H16 s16 hd => ?_⟩
            · exact congrArg (fun z => [V.ref a, V.int z, V.int 5]) (by omega)
            obtain ⟨m, hm, hv⟩ : ∃ m : Nat, m ≤ 2 ∧ ([.int 1, .int 1, .int 1, .int 0, .int 2] : List V)[d]? = some (.int (m : Nat)) := by
              have : d = 0 ∨ d = 1 ∨ d = 2 ∨ d = 3 ∨ d = 4 := by omega
              rcases this with rfl | rfl | rfl | rfl | rfl
              · exact ⟨1, by decide, rfl⟩
              · exact ⟨1, by decide, rfl⟩
              · exact ⟨1, by decide, rfl⟩
              · exact ⟨0, by decide, rfl⟩
              · exact ⟨2, by decide, rfl⟩
            refine ⟨q, _, _, _, rfl, rfl, SqT.of (s16 _ _ eq8), atI_nat hv, ?_⟩
            have s17 := s8.trans s16
            have B8 := B7.mono s17
            have el8 := s17 _ _ el7
            have erl8 := s17 _ _ erl7
            have ro8 := ro7.mt s17.t
            have dr8 := dr7.mt s17.t
            clear s17 s16 eq8 s8 hq dr7 ro7 erl7 el7 B7
            refine ⟨_, rfl, .inl ⟨rfl, _, SqL.of el8⟩, ?_⟩
            refine ⟨_, rfl, (m : Nat), rfl, by omega, by omega, ?_⟩
            rw [Int.toNat_natCast]
            refine lc_pred (walk_range (lo := 0) (n := m)) (fun j y _ => ∃ t, y = vn t ∧ (t < n ∨ t = 4 ∨ t = 5)) (by omega) (fun H' s => trivial) ?_ ?_
            · rintro D' j x H17 H17' acc R hj hD s17 hacc ⟨rfl, rfl⟩ kk
              have e0 : ((0 : Int) + (j : Nat)) = ((j : Nat) : Int) := Int.zero_add _
              simp only [e0]
              have B9 := B8.mono s17
              refine ⟨rfl, _, rfl, _, rfl, _, rfl, _, _, rfl, rfl, _, rfl, _, _, rfl, rfl, w3, _, _, rfl, rfl, _, rfl, _, _, rfl, rfl, _, rfl, tg, _, rfl, .inl (SqL.of B9.tgt), a, ns, fst + 5 + 5 * t + j, n + 2, ?_, B9.sm.seq ha, hn, by omega, by omega, fun d H18 s18 hd => ?_⟩
              · rw [tgs_len]
                exact congrArg (fun z => [V.ref a, V.int z, V.int ((n + 2 : Nat) : Int)]) (by omega)
              obtain ⟨u, hu1, hu2⟩ := tgs_at hd
              exact ⟨tg, _, _, _, rfl, rfl, SqL.of (s18 _ _ B9.tgt), atI_nat hu1, kk _ _ s18 fun _ _ => ⟨u, rfl, hu2⟩⟩
            intro D' ys2 H17 hD s17 eD hl2 hy2
            obtain ⟨ts, rfl, hts⟩ := names_of _ hy2
            rw [List.length_map] at hl2
            refine ⟨D', _, rfl, .inl ⟨SqL.of eD, fun dq hdq => ?_⟩⟩
            have s18 := s17.trans (Same.new (o := .tup (ts.map vn)) hdq)
            have edq : DropAt (upd H17 dq (.tup (ts.map vn))) dq ts := upd_same
            generalize upd H17 dq (.tup (ts.map vn)) = H18 at *
            have B9 := B8.mono s18
            have el9 := s18 _ _ el8
            have erl9 := s18 _ _ erl8
            have ro9 := ro8.mt s18.t
            have dr9 := dr8.mt s18.t
            have mt : SameT H18 (upd H18 l (.lst (ys' ++ [.ref dq]))) := SameT.lst el9
            refine ⟨l, _, _, rfl, rfl, el9, (by rw [dr9.1]; exact sz5 (by omega)), ?_⟩
            refine ⟨ys' ++ [.ref dq], r ++ [ts], some (.int (t : Nat)), some (.int (m : Nat)), rfl, B9.app hl0 lt el9, by rw [upd_ne lr.symm]; exact erl9, ro9.mt mt, upd_same, (dr9.mt mt).app (DrsOf.one (edq.mt mt)), rw7.snoc hts (by omega), by rw [List.length_append, hrt]; rfl⟩
          · rintro σ H14 ⟨ys', r, v11, v14, rfl, B7, erl7, ro7, el7, dr7, rw7, hrt⟩
            refine ⟨_, rfl, .inl ⟨rfl, _, SqL.of erl7⟩, _, rfl, l, _, rfl, .inl ⟨SqL.of el7, fun f hf => ?_⟩⟩
            have s8 := Same.new (o := .tup ys') hf
            have B8 := B7.mono s8
            have erl8 := s8 _ _ erl7
            have ro8 := ro7.mt s8.t
            have rf : RowAt (upd H14 f (.tup ys')) f r := RowAt.of upd_same (dr7.mt s8.t)
            generalize upd H14 f (.tup ys') = H15 at *
            have hys : ys.length = p := by
              rcases ro8 with ⟨h, e⟩ | ⟨h, f', fr, e, _⟩ | ⟨h, _⟩
              · rw [h, e]; rfl
              · rw [h, e]; rfl
              · omega
            have mt : SameT H15 (upd H15 rl (.lst (ys ++ [.ref f]))) := SameT.lst erl8
            refine ⟨rl, _, _, rfl, rfl, erl8, (by rw [hys]; exact sz5 (by omega)), ?_⟩
            refine ⟨ys ++ [.ref f], _, _, _, _, _, _, rfl, B8.app hrl0 rt erl8, upd_same, ?_⟩
            rcases ro8 with ⟨h, e⟩ | ⟨h, f', fr, e, g1, g2, g3⟩ | ⟨h, _⟩
            · right; left
              refine ⟨by omega, f, r, by rw [e]; rfl, rf.mt mt, rw7, ?_⟩
              rw [hrt]; exact c0 h
            · right; right
              refine ⟨by omega, f', fr, f, r, by rw [e]; rfl, g1.mt mt, g2, g3, rf.mt mt, rw7, ?_, ?_⟩
              · rw [hrt]; exact c1 h
              · rw [hrt]; exact c3
            · omega
      · rintro σ H10 ⟨ys, v9, v10, v11, v12, v13, v14, rfl, B3, erl3, ro3⟩
        obtain ⟨f, fr, t, tu, rfl, rf, rwf, lf, rtu, rwt, lt1, lt3⟩ : ∃ f fr t tu, ys = [.ref f, .ref t] ∧ RowAt H10 f fr ∧ Ch.RwOk n fr ∧ fr.length ≤ 2 ∧ RowAt H10 t tu ∧ Ch.RwOk n tu ∧ 1 ≤ tu.length ∧ tu.length ≤ 3 := by
          rcases ro3 with ⟨h, _⟩ | ⟨h, _⟩ | ⟨_, h⟩
          · cases h
          · cases h
          · exact h
        have kt : kd ≠ tg := fun z => by
          have := B3.kdt
          rw [z, B3.tgt] at this; cases this
        have hlst : (Ch.lst n i).length ≤ 1 := by unfold Ch.lst; split <;> simp
        -- last
        refine (fun rest : (∀ (la : Addr) (ls : List V) (H11 : Hp), Same H10 H11 → H11 la = some (.tup ls) → DrsOf H11 ls (Ch.lst n i) → (?G1 : Addr → Hp → Prop) la H11) => ?A1) ?B1
        case A1 =>
          have hlen : (abc n).length ≤ sizeLine := sz5' (by show (abc n).cps.size ≤ _; rw [abc_size]; omega)
          refine ⟨_, rfl, _, _, rfl, rfl, _, rfl, _, rfl, hlen, _, _, rfl, rfl, _, rfl, ?_⟩
          refine ite2 (fun c => ?_) (fun c => ?_)
          · have hv1 : i + 1 < n := by
              have h1 : ((i : Nat) : Int) + 1 < (((abc n).cps.size : Nat) : Int) := of_decide_eq_true c
              rw [abc_size] at h1; omega
            have ex : atI (abc n).cps.toList (((i : Nat) : Int) + 1) = some (nmc (i + 1)) := by
              have e : ((i : Nat) : Int) + 1 = ((i + 1 : Nat) : Int) := by omega
              rw [e]
              exact atI_nat (by rw [Array.getElem?_toList]; exact abc_at hv1)
            refine ⟨_, rfl, _, rfl, _, _, rfl, rfl, _, _, _, rfl, rfl, hlen, ex, (by show 1 ≤ sizeLine; decide), fun q1 hq1 => ⟨(by show 1 ≤ sizeLine; decide), fun q2 hq2 => ?_⟩⟩
            have s1 := Same.new (o := .tup [.str ⟨#[nmc (i + 1)]⟩]) hq1
            have e1 : DropAt (upd H10 q1 (.tup [.str ⟨#[nmc (i + 1)]⟩])) q1 [i + 1] := upd_same
            have s2 : Same (upd H10 q1 (.tup [.str ⟨#[nmc (i + 1)]⟩])) (upd (upd H10 q1 (.tup [.str ⟨#[nmc (i + 1)]⟩])) q2 (.tup [.ref q1])) := Same.new hq2
            have e2 : upd (upd H10 q1 (.tup [.str ⟨#[nmc (i + 1)]⟩])) q2 (.tup [.ref q1]) q2 = some (.tup [.ref q1]) := upd_same
            have e3 := e1.mono s2
            have s12 := s1.trans s2
            generalize upd (upd H10 q1 (.tup [.str ⟨#[nmc (i + 1)]⟩])) q2 (.tup [.ref q1]) = H11 at *
            have d3 : DrsOf H11 [.ref q1] (Ch.lst n i) := by unfold Ch.lst; rw [if_pos hv1]; exact DrsOf.one e3
            generalize [V.ref q1] = ls at *
            exact rest q2 ls H11 s12 e2 d3
          · have hv1 : ¬ i + 1 < n := fun z => c (decide_eq_true (by
              show ((i : Nat) : Int) + 1 < (((abc n).cps.size : Nat) : Int)
              rw [abc_size]; omega))
            refine ⟨(by show 0 ≤ sizeLine; exact Nat.zero_le _), fun q2 hq2 => ?_⟩
            have s1 := Same.new (o := .tup []) hq2
            have e1 : upd H10 q2 (.tup []) q2 = some (.tup []) := upd_same
            generalize upd H10 q2 (.tup []) = H11 at *
            have d3 : DrsOf H11 [] (Ch.lst n i) := by unfold Ch.lst; rw [if_neg hv1]; exact DrsOf.nil _
            obtain ⟨ls, hls⟩ : ∃ ls : List V, ls = [] := ⟨_, rfl⟩
            rw [← hls] at e1 d3
            exact rest q2 ls H11 s1 e1 d3
        case B1 =>
          intro la ls H11 s11 ela dl
          obtain ⟨zs, ezs, dzs⟩ := (rtu.mono s11).to
          have zne : zs ≠ [] := fun z => by have := dzs.1; rw [z] at this; simp at this; omega
          have e11 := s11 _ _ erl3
          refine (fun rest2 : (∀ (tz : Addr) (zs2 : List V) (H12 : Hp), Same H11 H12 → H12 tz = some (.tup zs2) → DrsOf H12 zs2 (tu ++ Ch.lst n i) → (?G2 : Addr → Hp → Prop) tz H12) => ?A2) ?B2
          case A2 =>
            refine ⟨_, rfl, rl, _, _, _, rfl, rfl, SqL.of e11, at0, _, rfl, rl, _, _, _, rfl, rfl, SqL.of e11, at1, _, rfl, t, la, zs, ls, rfl, rfl, SqT.of ezs, SqT.of ela, zne, (by rw [dzs.1, dl.1]; exact sz5' (by omega)), ?e1, ?e2⟩
            case e2 =>
              intro _ p hp
              have s1 := Same.new (o := .tup (zs ++ ls)) hp
              have e1 : upd H11 p (.tup (zs ++ ls)) p = some (.tup (zs ++ ls)) := upd_same
              have d1 := (dzs.mt s1.t).app (dl.mt s1.t)
              generalize upd H11 p (.tup (zs ++ ls)) = H12 at *
              generalize zs ++ ls = zl at *
              exact rest2 p zl H12 s1 e1 d1
            case e1 =>
              intro e
              refine rest2 t zs H11 (Same.refl _) ezs ?_
              have := dl.1
              rw [e] at this
              have : Ch.lst n i = [] := List.length_eq_zero_iff.mp this.symm
              rw [this, List.append_nil]; exact dzs
          case B2 =>
            intro tz zs2 H12 s12 etz dz
            have zne2 : zs2 ≠ [] := fun z => by have := dz.1; rw [z, List.length_append] at this; simp at this; omega
            refine ⟨_, rfl, true, rfl, iteT ⟨(by show 1 ≤ sizeLine; decide), fun q3 hq3 => ⟨(by show 1 ≤ sizeLine; decide), fun q4 hq4 => ?_⟩⟩⟩
            have s3 := Same.new (o := .tup [.str "o"]) hq3
            have e3 : DropAt (upd H12 q3 (.tup [.str "o"])) q3 [4] := upd_same
            generalize upd H12 q3 (.tup [.str "o"]) = H13 at *
            have s4 := Same.new (o := .tup [.ref q3]) hq4
            have e4 : upd H13 q4 (.tup [.ref q3]) q4 = some (.tup [.ref q3]) := upd_same
            generalize upd H13 q4 (.tup [.ref q3]) = H14 at *
            have s34 := s3.trans s4
            have dz4 := dz.mt s34.t
            refine ⟨tz, q4, zs2, _, rfl, rfl, SqT.of (s34 _ _ etz), SqT.of e4, zne2, (by rw [dz.1, List.length_append]; exact sz5' (by show _ + 1 ≤ _; omega)), fun e => absurd e (by simp), fun _ t2 ht2 => ⟨(by show 2 ≤ sizeLine; decide), fun kv hkv => ?_⟩⟩
            have s5 := Same.new (o := .tup (zs2 ++ [.ref q3])) ht2
            have e5 : RowAt (upd H14 t2 (.tup (zs2 ++ [.ref q3]))) t2 (tu ++ Ch.lst n i ++ [[4]]) := RowAt.of upd_same ((dz4.mt s5.t).app ((DrsOf.one (e3.mono s4)).mt s5.t))
            generalize upd H14 t2 (.tup (zs2 ++ [.ref q3])) = H15 at *
            have s6 := Same.new (o := .tup [.ref f, .ref t2]) hkv
            have e6 : upd H15 kv (.tup [.ref f, .ref t2]) kv = some (.tup [.ref f, .ref t2]) := upd_same
            generalize upd H15 kv (.tup [.ref f, .ref t2]) = H16 at *
            have s16 := (((s11.trans s12).trans s34).trans s5).trans s6
            have B4 := B3.mono s16
            obtain ⟨H17, g1, g2⟩ := B4.put hkd0 kt (by omega) (kv := kv) (k := ⟨fr, tu ++ Ch.lst n i ++ [[4]]⟩) ⟨f, t2, e6, rf.mono s16, e5.mono s6⟩ (Ch.knOk n4 hi rwf rwt lf lt1 lt3)
            exact ⟨_, rfl, _, rfl, kd, H17, rfl, g1, _, _, _, _, _, _, _, _, _, _, _, rfl, g2⟩
    · rintro σ H7 ⟨ks, kf, v6, v7, v8, v9, v10, v11, v12, v13, v14, rfl, B⟩
      rw [abc_size] at B
      obtain ⟨d1, d2, d3⟩ := Ch.drawn_of n1 n4 fun v hv => (B.kn v hv).2
      refine ⟨_, rfl, k kd _ H7 B.sm d1 ⟨ks, by rw [d2]; exact B.kdt, fun v hv => ?_⟩⟩
      rw [d2] at hv
      rw [d3 v hv]; exact (B.kn v hv).1
end
end K11
end
section
set_option Elab.async false
set_option linter.all false
set_option maxRecDepth 100000
/-! R9: zip(*rows), rows a list of lists; a name as the target. -/
namespace K11
open PySem PySem.Spec PyProof.Rows L2
open C8 (Cal Met Mak)
open Sem (wp)
section
variable {prog : Program} {w : World} {A : Around} {E : Value → Shared → Prop} {s : Shared}
abbrev IsZipG (h : Heap) (z : Addr) (f0 : Value) (b : Bool) (TI TO : Addr) : Prop :=
  h.get? z = some { cls := .type "zip", dict := none, data := .fields #[f0, .bool b, .bool false, .ref TI, .ref TO], slots := #[] }
abbrev IsTupA (h : Heap) (T : Addr) (vs : Array Value) : Prop := h.get? T = some { cls := .type "tuple", data := .seq vs }
theorem alive_any {a : Addr} {Q : Option Obj → Shared → Prop} (h : Q (s.heap.get? a) s) : wpAny (model prog w) A (loadIfAlive a) Q E s := fun _ _ _ => h
theorem free_zip {z TI TO : Addr} {f0 : Value} {b : Bool} {Q : Bool → Shared → Prop} (hz : IsZipG s.heap z f0 b TI TO) (hf : f0 = .none ∨ ∃ T : Nat, f0 = rawInt T)
    (h1 : Q true s) (h2 : ∀ h', IsZipG h' z f0 true TI TO → Heap.SameBut z s.heap h' → Q false { s with heap := h' }) : wpAny (model prog w) A (Builtin.SmallTypes.ownedTupleIsFree (.ref z)) Q E s := by
  unfold Builtin.SmallTypes.ownedTupleIsFree
  rcases hf with rfl | ⟨T, rfl⟩
  · refine wpAny_bind (wpAny_field hz rfl (x := .none) rfl (wpAny_pure ?_))
    exact h1
  refine wpAny_bind (wpAny_field hz rfl (x := rawInt T) rfl ?_)
  show wpAny _ _ (loadIfAlive ((T : Int).toNat) >>= _) _ _ _
  rw [Int.toNat_natCast]
  refine wpAny_bind (alive_any ?_)
  cases hT : s.heap.get? T with
  | none =>
    simp only [Option.isNone_none, if_true]
    exact wpAny_pure h1
  | some oT =>
    simp only [Option.isNone_some, Bool.false_eq_true, if_false]
    refine wpAny_bind (wpAny_field hz rfl (x := .bool b) rfl ?_)
    cases b with
    | true =>
      rw [if_neg (show ¬ ((Value.bool true != Value.bool true) = true) from Bool.false_ne_true)]
      exact wpAny_pure (h2 s.heap hz (Heap.SameBut.refl _ _))
    | false =>
      rw [if_pos (show (Value.bool false != Value.bool true) = true from rfl)]
      exact wpAny_bind (wpAny_setField_rec hz (by simp) fun h₁ hz₁ hs₁ => wpAny_pure (h2 h₁ hz₁ hs₁))
/-- the iterators' refs -/
def itsOf (b0 n : Nat) : List Value := (List.range n).map fun j => .ref (b0 + j)
theorem itsOf_len (b0 n : Nat) : (itsOf b0 n).length = n := by simp [itsOf]
theorem itsOf_at {b0 n j : Nat} (h : j < n) : (itsOf b0 n)[j]? = some (.ref (b0 + j)) := by simp [itsOf, h]
/-- behind j draws: everything else as before -/
structure ZI (h0 g : Heap) (b0 n i : Nat) (as : List Addr) (f0 : Value) (b : Bool) (j : Nat) : Prop where
  z : IsZipG g (b0 + n + 2) f0 b (b0 + n) (b0 + n + 1)
  ti : IsTupA g (b0 + n) (itsOf b0 n).toArray
  it : ∀ (k : Nat) (a : Addr), as[k]? = some a → g.IsListIter (b0 + k) a (if k < j then i + 1 else i)
  sz : g.objs.size = h0.objs.size
  fr : ∀ (c : Nat) (o : Obj), (c < b0 ∨ b0 + n + 2 < c) → h0.get? c = some o → g.get? c = some o
theorem ZI.next {h0 g g' : Heap} {b0 n i j : Nat} {as : List Addr} {f0 : Value} {b : Bool} {a : Addr} (Z : ZI h0 g b0 n i as f0 b j) (hl : as.length = n) (ha : as[j]? = some a) (hj : j < n) (h1 : g'.IsListIter (b0 + j) a (i + 1)) (hs : Heap.SameBut (b0 + j) g g') : ZI h0 g' b0 n i as f0 b (j + 1) := by
  refine ⟨hs.extBut _ _ (by show b0 + n + 2 ≠ b0 + j; omega) Z.z, hs.extBut _ _ (by show b0 + n ≠ b0 + j; omega) Z.ti, fun k c hk => ?_, by rw [hs.1]; exact Z.sz, fun c o hc e => hs.extBut _ _ (by show c ≠ b0 + j; omega) (Z.fr c o hc e)⟩
  by_cases e : k = j
  · subst e
    rw [ha] at hk; cases hk
    rw [if_pos (Nat.lt_succ_self k)]; exact h1
  · have := (Z.it k c hk).at fun o e' => hs.extBut _ _ (by show b0 + k ≠ b0 + j; omega) e'
    by_cases d : k < j
    · rw [if_pos d] at this; rw [if_pos (Nat.lt_succ_of_lt d)]; exact this
    · rw [if_neg d] at this; rw [if_neg (show ¬ k < j + 1 by omega)]; exact this
theorem ZI.wr {h0 g g' : Heap} {b0 n i j : Nat} {as : List Addr} {f0 : Value} {b : Bool} (Z : ZI h0 g b0 n i as f0 b j) (hl : as.length = n) (hs : Heap.SameBut (b0 + n + 1) g g') : ZI h0 g' b0 n i as f0 b j :=
  ⟨hs.extBut _ _ (by show b0 + n + 2 ≠ b0 + n + 1; omega) Z.z, hs.extBut _ _ (by show b0 + n ≠ b0 + n + 1; omega) Z.ti, fun k c hk => (Z.it k c hk).at fun o e' => hs.extBut _ _ (by
      have := (List.getElem?_eq_some_iff.mp hk).1
      show b0 + k ≠ b0 + n + 1; omega) e', by rw [hs.1]; exact Z.sz, fun c o hc e => hs.extBut _ _ (by show c ≠ b0 + n + 1; omega) (Z.fr c o hc e)⟩
theorem ZI.zed {h0 g g' : Heap} {b0 n i j : Nat} {as : List Addr} {f0 f1 : Value} {b b1 : Bool} (Z : ZI h0 g b0 n i as f0 b j) (hl : as.length = n) (hs : Heap.SameBut (b0 + n + 2) g g') (hz : IsZipG g' (b0 + n + 2) f1 b1 (b0 + n) (b0 + n + 1)) : ZI h0 g' b0 n i as f1 b1 j :=
  ⟨hz, hs.extBut _ _ (by show b0 + n ≠ b0 + n + 2; omega) Z.ti, fun k c hk => (Z.it k c hk).at fun o e' => hs.extBut _ _ (by
      have := (List.getElem?_eq_some_iff.mp hk).1
      show b0 + k ≠ b0 + n + 2; omega) e', by rw [hs.1]; exact Z.sz, fun c o hc e => hs.extBut _ _ (by show c ≠ b0 + n + 2; omega) (Z.fr c o hc e)⟩
/-- what the draw behind i gives -/
structure ZCol (h0 : Heap) (b0 i : Nat) (as : List Addr) (vals : List Value) : Prop where
  lt : ∀ (k : Nat) (a : Addr), as[k]? = some a → a < b0
  at_ : ∀ (k : Nat) (a : Addr), as[k]? = some a → ∃ items x, h0.IsList a items ∧ items[i]? = some x ∧ vals[k]? = some x
structure ZS (h : Heap) (b0 n i : Nat) (as : List Addr) : Prop where
  z : ∃ f0 b, (f0 = .none ∨ ∃ T : Nat, f0 = rawInt T) ∧ IsZipG h (b0 + n + 2) f0 b (b0 + n) (b0 + n + 1)
  ti : IsTupA h (b0 + n) (itsOf b0 n).toArray
  to : ∃ vs : Array Value, vs.size = n ∧ IsTupA h (b0 + n + 1) vs
  it : ∀ (k : Nat) (a : Addr), as[k]? = some a → h.IsListIter (b0 + k) a i
theorem ZI.fin {h0 g h' : Heap} {b0 n i : Nat} {as : List Addr} {f0 f1 : Value} {b b1 : Bool} {vs : Array Value} (Z : ZI h0 g b0 n i as f0 b n) (hl : as.length = n) (hT : IsTupA g (b0 + n + 1) vs) (hsz : vs.size = n)
    (up : ∀ (c : Nat) (o : Obj), c ≠ b0 + n + 2 → g.get? c = some o → h'.get? c = some o) (hz : IsZipG h' (b0 + n + 2) f1 b1 (b0 + n) (b0 + n + 1)) (hf : f1 = .none ∨ ∃ T : Nat, f1 = rawInt T) :
    ZS h' b0 n (i + 1) as ∧ ∀ (c : Nat) (o : Obj), (c < b0 ∨ b0 + n + 2 < c) → h0.get? c = some o → h'.get? c = some o := by
  refine ⟨⟨⟨f1, b1, hf, hz⟩, up _ _ (by omega) Z.ti, ⟨vs, hsz, up _ _ (by omega) hT⟩, fun k a ha => ?_⟩, fun c o hc e => up c o (by omega) (Z.fr c o hc e)⟩
  have hk : k < n := by have := (List.getElem?_eq_some_iff.mp ha).1; omega
  have := Z.it k a ha
  rw [if_pos hk] at this
  exact this.at fun o e => up _ o (by show b0 + k ≠ b0 + n + 2; omega) e
theorem zipS_item {b0 n i : Nat} {as : List Addr} {f0 : Value} {b : Bool} {vals : List Value} {vs0 : Array Value} {Q : Value → Shared → Prop} (hl : as.length = n) (hn : 1 ≤ n) (hn4 : n ≤ 1000) (hv : vals.length = n)
    (Z : ZI s.heap s.heap b0 n i as f0 b 0) (hf : f0 = .none ∨ ∃ T : Nat, f0 = rawInt T) (hTO : IsTupA s.heap (b0 + n + 1) vs0) (h0 : vs0.size = n) (C : ZCol s.heap b0 i as vals)
    (hQ : ∀ h', ZS h' b0 n (i + 1) as → IsTupA h' s.heap.objs.size vals.toArray → h'.objs.size = s.heap.objs.size + 1 → (∀ (c : Nat) (o : Obj), (c < b0 ∨ b0 + n + 2 < c) → s.heap.get? c = some o → h'.get? c = some o) → Q (.ref s.heap.objs.size) { s with heap := h' }) :
    wpAny (model prog w) A (Builtin.«zip.__next__» ⟨[.ref (b0 + n + 2)], []⟩) (fun fin s' => ∃ v, fin = .done (.ret v) ∧ Q v s') E s := by
  have hz := Z.z
  have hTI := Z.ti
  show wpAny _ _ (field (.ref (b0 + n + 2)) 2 >>= _) _ _ _
  refine wpAny_bind (wpAny_field hz rfl (x := .bool false) rfl ?_)
  show wpAny _ _ (field (.ref (b0 + n + 2)) 3 >>= _) _ _ _
  refine wpAny_bind (wpAny_field hz rfl (x := .ref (b0 + n)) rfl ?_)
  refine wpAny_bind (wpAny_seqItems hTI rfl ?_)
  have e1 : (itsOf b0 n).toArray.isEmpty = false := by
    obtain ⟨m, rfl⟩ : ∃ m, n = m + 1 := ⟨n - 1, by omega⟩
    unfold itsOf; rw [List.range_succ_eq_map]; rfl
  simp only [e1, Bool.false_eq_true, if_false]
  show wpAny _ _ (Builtin.SmallTypes.ownedTupleIsFree (.ref (b0 + n + 2)) >>= _) _ _ _
  refine wpAny_bind (free_zip hz hf ?_ fun h' hz' hs => ?_)
  · simp only [if_true]
    refine wpAny_bind (wpAny_rule ?_)
    refine wpAny_bind (wpAny_field hz rfl (x := .ref (b0 + n + 1)) rfl ?_)
    refine wpAny_bind (wpAny_setField_rec hz (by simp) fun g0 hz0 hs0 => ?_)
    replace hz0 : IsZipG g0 (b0 + n + 2) .ellipsis b (b0 + n) (b0 + n + 1) := hz0
    replace hs0 : Heap.SameBut (b0 + n + 2) s.heap g0 := hs0
    have Z0 := Z.zed hl hs0 hz0
    have hTO0 : IsTupA g0 (b0 + n + 1) vs0 := hs0.extBut _ _ (by show b0 + n + 1 ≠ b0 + n + 2; omega) hTO
    refine wpAny_bind (wpAny_forIn_list _ (fun rest r s' => ∃ j g vs, rest = (itsOf b0 n).zipIdx.drop j ∧ r = (none, ()) ∧ j ≤ n ∧ s' = { s with heap := g } ∧ ZI s.heap g b0 n i as .ellipsis b j ∧ IsTupA g (b0 + n + 1) vs ∧ vs.size = n ∧ ∀ k, k < j → vs[k]? = vals[k]?) _ ?_ ?_ _ _ ⟨0, g0, vs0, rfl, rfl, Nat.zero_le _, rfl, Z0, hTO0, h0, fun k hk => absurd hk (Nat.not_lt_zero _)⟩)
    · rintro x rest r s' ⟨j, g, vs, hr, rfl, hj, rfl, Zj, hT, hsz, hvs⟩
      have hj' : j < n := by
        rcases Nat.lt_or_ge j n with h | h
        · exact h
        · rw [List.drop_eq_nil_of_le (by simp [itsOf_len]; omega)] at hr; cases hr
      have hx : x = (.ref (b0 + j), j) ∧ rest = (itsOf b0 n).zipIdx.drop (j + 1) := by
        rw [List.drop_eq_getElem_cons (by simp [itsOf_len]; exact hj')] at hr
        obtain ⟨h1, h2⟩ := List.cons.inj hr
        refine ⟨?_, h2⟩
        rw [h1]
        simp [itsOf]
      obtain ⟨rfl, rfl⟩ := hx
      obtain ⟨a, ha⟩ : ∃ a, as[j]? = some a := ⟨_, List.getElem?_eq_getElem (by omega)⟩
      have la := C.lt j a ha
      obtain ⟨items, x, l1, l2, l3⟩ := C.at_ j a ha
      have it := Zj.it j a ha
      rw [if_neg (Nat.lt_irrefl j)] at it
      have lst := l1.at fun o e => Zj.fr a o (.inl la) e
      refine wpAny_bind (wpAny_onRaise ?_)
      show wpAny _ _ (Builtin.SmallTypes.nextOf (.ref (b0 + j)) >>= _) _ _ _
      refine wpAny_bind (wpAny_nextOf_list_item (s := { s with heap := g }) it lst l2 fun g1 hi hs1 => wpAny_pure ?_)
      replace hs1 : Heap.SameBut (b0 + j) g g1 := hs1
      have Z1 := Zj.next hl ha hj' hi hs1
      have hT1 : IsTupA g1 (b0 + n + 1) vs := hs1.extBut _ _ (by show b0 + n + 1 ≠ b0 + j; omega) hT
      refine wpAny_bind (wpAny_seqItems (s := { s with heap := g1 }) hT1 rfl ?_)
      refine wpAny_bind (wpAny_updateSeq (s := { s with heap := g1 }) hT1 rfl ?_ (hz := sz5' (by omega)) (_hz' := by have := sz5' (k := n) (by omega); simp [hsz]; omega))
      have hs2 : Heap.SameBut (b0 + n + 1) g1 (g1.update (b0 + n + 1) (Obj.mapSeq (·.setIfInBounds j x))) := Heap.SameBut.update ..
      have hT2 : IsTupA (g1.update (b0 + n + 1) (Obj.mapSeq (·.setIfInBounds j x))) (b0 + n + 1) (vs.setIfInBounds j x) := by
        show Heap.get? _ _ = _
        rw [Heap.get?_update_self _ hT1 rfl]
        simp [Obj.mapSeq]
      refine wpAny_bind (wpAny_letGo (wpAny_pure ?_))
      refine ⟨j + 1, _, vs.setIfInBounds j x, rfl, rfl, hj', rfl, Z1.wr hl hs2, hT2, by simpa using hsz, fun k hk => ?_⟩
      by_cases e : k = j
      · subst e
        rw [l3]; simp [hsz, hj']
      · rw [Array.getElem?_setIfInBounds_ne (by omega)]; exact hvs k (by omega)
    · rintro r s' ⟨j, g, vs, hr, rfl, hj, rfl, Zj, hT, hsz, hvs⟩
      have hjn : j = n := by
        rcases Nat.lt_or_ge j n with h | h
        · have := congrArg List.length hr
          simp [itsOf_len] at this
          omega
        · omega
      subst hjn
      have ev : vs.toList = vals := by
        refine List.ext_getElem? fun k => ?_
        rw [Array.getElem?_toList]
        rcases Nat.lt_or_ge k j with h | h
        · exact hvs k h
        · rw [Array.getElem?_eq_none (by omega), List.getElem?_eq_none (by omega)]
      simp only
      refine wpAny_bind (wpAny_seqItems (s := { s with heap := g }) hT rfl ?_)
      simp only
      refine wpAny_bind (wpAny_newTuple ?_ (hsz := by rw [Array.length_toList, hsz]; exact sz5' (by omega)))
      show wpAny _ _ (Builtin.SmallTypes.ownedTupleHandOut (.ref (b0 + j + 2)) (.ref g.objs.size) >>= _) _ _ { s with heap := g.push { cls := .type "tuple", data := .seq vs.toList.toArray } }
      refine wpAny_bind ?_
      unfold Builtin.SmallTypes.ownedTupleHandOut
      have hz6 : IsZipG (g.push { cls := .type "tuple", data := .seq vs.toList.toArray }) (b0 + j + 2) .ellipsis b (b0 + j) (b0 + j + 1) := Heap.get?_push_of_some _ Zj.z
      refine wpAny_bind (wpAny_setField_rec hz6 (by simp) fun h7 hz7 hs7 => ?_)
      replace hz7 : IsZipG h7 (b0 + j + 2) (rawInt g.objs.size) b (b0 + j) (b0 + j + 1) := hz7
      refine wpAny_setField_rec hz7 (by simp) fun h8 hz8 hs8 => ?_
      replace hz8 : IsZipG h8 (b0 + j + 2) (rawInt g.objs.size) false (b0 + j) (b0 + j + 1) := hz8
      have hT8 : IsTupA h8 g.objs.size vs.toList.toArray := by
        have g0 : (g.push { cls := .type "tuple", data := .seq vs.toList.toArray }).get? g.objs.size = some _ := Heap.get?_push_size _ rfl
        have hlt : b0 + j + 2 < g.objs.size := Heap.lt_size Zj.z
        exact hs8.extBut _ _ (Nat.ne_of_gt hlt) (hs7.extBut _ _ (Nat.ne_of_gt hlt) g0)
      have up : ∀ (c : Nat) (o : Obj), c ≠ b0 + j + 2 → g.get? c = some o → h8.get? c = some o := fun c o c1 e => hs8.extBut _ _ c1 (hs7.extBut _ _ c1 (Heap.get?_push_of_some _ e))
      obtain ⟨F1, F2⟩ := Zj.fin hl hT hsz up hz8 (.inr ⟨_, rfl⟩)
      have z8 : h8.objs.size = s.heap.objs.size + 1 := by rw [hs8.1, hs7.1, Heap.size_push, Zj.sz]
      refine wpAny_pure ⟨_, rfl, ?_⟩
      show Q (.ref g.objs.size) { s with heap := h8 }
      rw [Zj.sz]
      refine hQ h8 F1 ?_ z8 F2
      rw [← Zj.sz, ← ev]; exact hT8
  · simp only [Bool.false_eq_true, if_false]
    have Z0 := Z.zed hl hs hz'
    have hTO0 : IsTupA h' (b0 + n + 1) vs0 := hs.extBut _ _ (by show b0 + n + 1 ≠ b0 + n + 2; omega) hTO
    rw [← Array.forIn_toList]
    refine wpAny_bind (wpAny_forIn_list _ (fun rest r s' => ∃ j g, rest = (itsOf b0 n).drop j ∧ r = (none, (vals.take j).toArray) ∧ j ≤ n ∧ s' = { s with heap := g } ∧ ZI s.heap g b0 n i as f0 true j ∧ IsTupA g (b0 + n + 1) vs0) _ ?_ ?_ _ _ ⟨0, h', rfl, rfl, Nat.zero_le _, rfl, Z0, hTO0⟩)
    · rintro x rest r s' ⟨j, g, hr, rfl, hj, rfl, Zj, hT⟩
      have hj' : j < n := by
        rcases Nat.lt_or_ge j n with h | h
        · exact h
        · rw [List.drop_eq_nil_of_le (by rw [itsOf_len]; omega)] at hr; cases hr
      have hx : x = .ref (b0 + j) ∧ rest = (itsOf b0 n).drop (j + 1) := by
        rw [List.drop_eq_getElem_cons (by rw [itsOf_len]; exact hj')] at hr
        obtain ⟨h1, h2⟩ := List.cons.inj hr
        refine ⟨?_, h2⟩
        rw [h1]
        simp [itsOf]
      obtain ⟨rfl, rfl⟩ := hx
      obtain ⟨a, ha⟩ : ∃ a, as[j]? = some a := ⟨_, List.getElem?_eq_getElem (by omega)⟩
      have la := C.lt j a ha
      obtain ⟨items, x, l1, l2, l3⟩ := C.at_ j a ha
      have it := Zj.it j a ha
      rw [if_neg (Nat.lt_irrefl j)] at it
      have lst := l1.at fun o e => Zj.fr a o (.inl la) e
      refine wpAny_bind (wpAny_holding ?_)
      show wpAny _ _ (Builtin.SmallTypes.nextOf (.ref (b0 + j)) >>= _) _ _ _
      refine wpAny_bind (wpAny_nextOf_list_item (s := { s with heap := g }) it lst l2 fun g1 hi hs1 => wpAny_pure ?_)
      replace hs1 : Heap.SameBut (b0 + j) g g1 := hs1
      have Z1 := Zj.next hl ha hj' hi hs1
      have hT1 : IsTupA g1 (b0 + n + 1) vs0 := hs1.extBut _ _ (by show b0 + n + 1 ≠ b0 + j; omega) hT
      refine wpAny_pure ?_
      refine ⟨j + 1, g1, rfl, ?_, hj', rfl, Z1, hT1⟩
      have : vals.take (j + 1) = vals.take j ++ [x] := by rw [List.take_succ, l3]; rfl
      rw [this]; simp
    · rintro r s' ⟨j, g, hr, rfl, hj, rfl, Zj, hT⟩
      have hjn : j = n := by
        rcases Nat.lt_or_ge j n with h | h
        · have := congrArg List.length hr
          simp [itsOf_len] at this
          omega
        · omega
      subst hjn
      simp only
      have ev : vals.take j = vals := List.take_of_length_le (by omega)
      rw [ev]
      refine wpAny_bind (wpAny_newTuple ?_ (hsz := by rw [hv]; exact sz5' (by omega)))
      refine wpAny_pure ⟨_, rfl, ?_⟩
      obtain ⟨F1, F2⟩ := Zj.fin (h' := g.push { cls := .type "tuple", data := .seq vals.toArray }) hl hT h0 (fun c o _ e => Heap.get?_push_of_some _ e) (Heap.get?_push_of_some _ Zj.z) hf
      have g0 : (g.push { cls := .type "tuple", data := .seq vals.toArray }).get? g.objs.size = some _ := Heap.get?_push_size _ rfl
      show Q (.ref g.objs.size) { s with heap := g.push { cls := .type "tuple", data := .seq vals.toArray } }
      rw [Zj.sz] at g0 ⊢
      exact hQ _ F1 g0 (by rw [Heap.size_push, Zj.sz]) F2
theorem zipS_end {b0 n i : Nat} {as : List Addr} {f0 : Value} {b : Bool} {a : Addr} {items : Array Value} {Q : Fin → Shared → Prop} (hh : A.handled = none) (hl : as.length = n) (hn : 1 ≤ n)
    (Z : ZI s.heap s.heap b0 n i as f0 b 0) (hf : f0 = .none ∨ ∃ T : Nat, f0 = rawInt T) (ha : as[0]? = some a) (la : a < b0) (hL : s.heap.IsList a items) (hx : items[i]? = none)
    (hE : ∀ h' e, (∀ (c : Nat) (o : Obj), (c < b0 ∨ b0 + n + 2 < c) → s.heap.get? c = some o → h'.get? c = some o) → (∃ o, h'.get? e = some o ∧ o.cls = .type "StopIteration") → E (.ref e) { s with heap := h' }) :
    wpAny (model prog w) A (Builtin.«zip.__next__» ⟨[.ref (b0 + n + 2)], []⟩) Q E s := by
  have hz := Z.z
  have hTI := Z.ti
  show wpAny _ _ (field (.ref (b0 + n + 2)) 2 >>= _) _ _ _
  refine wpAny_bind (wpAny_field hz rfl (x := .bool false) rfl ?_)
  show wpAny _ _ (field (.ref (b0 + n + 2)) 3 >>= _) _ _ _
  refine wpAny_bind (wpAny_field hz rfl (x := .ref (b0 + n)) rfl ?_)
  refine wpAny_bind (wpAny_seqItems hTI rfl ?_)
  obtain ⟨m, rfl⟩ : ∃ m, n = m + 1 := ⟨n - 1, by omega⟩
  have ei : itsOf b0 (m + 1) = .ref (b0 + 0) :: (List.range m).map fun j => .ref (b0 + (j + 1)) := by
    unfold itsOf; rw [List.range_succ_eq_map, List.map_cons, List.map_map]; rfl
  have e1 : (itsOf b0 (m + 1)).toArray.isEmpty = false := by rw [ei]; rfl
  simp only [e1, Bool.false_eq_true, if_false]
  show wpAny _ _ (Builtin.SmallTypes.ownedTupleIsFree (.ref (b0 + (m + 1) + 2)) >>= _) _ _ _
  have it := Z.it 0 a ha
  rw [if_neg (Nat.lt_irrefl 0)] at it
  refine wpAny_bind (free_zip hz hf ?_ fun h' hz' hs => ?_)
  · simp only [if_true]
    refine wpAny_bind (wpAny_rule ?_)
    refine wpAny_bind (wpAny_field hz rfl (x := .ref (b0 + (m + 1) + 1)) rfl ?_)
    refine wpAny_bind (wpAny_setField_rec hz (by simp) fun g0 hz0 hs0 => ?_)
    replace hz0 : IsZipG g0 (b0 + (m + 1) + 2) .ellipsis b (b0 + (m + 1)) (b0 + (m + 1) + 1) := hz0
    replace hs0 : Heap.SameBut (b0 + (m + 1) + 2) s.heap g0 := hs0
    have Z0 := Z.zed hl hs0 hz0
    have it0 := Z0.it 0 a ha
    rw [if_neg (Nat.lt_irrefl 0)] at it0
    have lst := hL.at fun o e => Z0.fr a o (.inl la) e
    rw [ei, List.zipIdx_cons, List.forIn_cons]
    refine wpAny_bind (wpAny_bind (wpAny_bind (wpAny_onRaise ?_)))
    show wpAny _ _ (Builtin.SmallTypes.nextOf (.ref (b0 + 0)) >>= _) _ _ _
    refine wpAny_bind (wpAny_nextOf_list_end (s := { s with heap := g0 }) hh it0 lst hx fun q e hq he => ?_)
    replace hq : Heap.ExtBut (b0 + 0) g0 q := hq
    obtain ⟨oe, hoe, hce⟩ := he
    have hzq : IsZipG q (b0 + (m + 1) + 2) .ellipsis b (b0 + (m + 1)) (b0 + (m + 1) + 1) := hq _ _ (by show b0 + (m + 1) + 2 ≠ b0 + 0; omega) hz0
    have hez : e ≠ b0 + (m + 1) + 2 := fun x => by subst x; rw [hzq] at hoe; cases hoe; simp at hce
    refine wpAny_setField_rec (s := { s with heap := q }) hzq (by simp) fun q' _ hq' => ?_
    replace hq' : Heap.SameBut (b0 + (m + 1) + 2) q q' := hq'
    exact hE q' e (fun c o hc x => hq'.extBut _ _ (by show c ≠ b0 + (m + 1) + 2; omega) (hq _ _ (by show c ≠ b0 + 0; omega) (Z0.fr c o hc x))) ⟨oe, hq'.extBut _ _ hez hoe, hce⟩
  · simp only [Bool.false_eq_true, if_false]
    have Z0 := Z.zed hl hs hz'
    have it0 := Z0.it 0 a ha
    rw [if_neg (Nat.lt_irrefl 0)] at it0
    have lst := hL.at fun o e => Z0.fr a o (.inl la) e
    rw [← Array.forIn_toList, List.toList_toArray, ei, List.forIn_cons]
    refine wpAny_bind (wpAny_bind (wpAny_bind (wpAny_holding ?_)))
    show wpAny _ _ (Builtin.SmallTypes.nextOf (.ref (b0 + 0)) >>= _) _ _ _
    refine wpAny_bind (wpAny_nextOf_list_end (s := { s with heap := h' }) hh it0 lst hx fun q e hq he => ?_)
    exact hE q e (fun c o hc x => hq _ _ (by show c ≠ b0 + 0; omega) (Z0.fr c o hc x)) he
theorem ZS.zi {h : Heap} {b0 n i : Nat} {as : List Addr} (S : ZS h b0 n i as) : ∃ f0 b, (f0 = .none ∨ ∃ T : Nat, f0 = rawInt T) ∧ ZI h h b0 n i as f0 b 0 := by
  obtain ⟨f0, b, hf, hz⟩ := S.z
  exact ⟨f0, b, hf, hz, S.ti, fun k a ha => by rw [if_neg (Nat.not_lt_zero _)]; exact S.it k a ha, rfl, fun _ _ _ e => e⟩
theorem pyNext_zipS_item {b0 n i : Nat} {as : List Addr} {vals : List Value} {Q : Option Value → Shared → Prop} (hl : as.length = n) (hn : 1 ≤ n) (hn4 : n ≤ 1000) (hv : vals.length = n) (S : ZS s.heap b0 n i as) (C : ZCol s.heap b0 i as vals)
    (hQ : ∀ h', ZS h' b0 n (i + 1) as → IsTupA h' s.heap.objs.size vals.toArray → h'.objs.size = s.heap.objs.size + 1 → (∀ (c : Nat) (o : Obj), (c < b0 ∨ b0 + n + 2 < c) → s.heap.get? c = some o → h'.get? c = some o) → Q (some (.ref s.heap.objs.size)) { s with heap := h' }) :
    wpAny (model prog w) A (pyNext (.ref (b0 + n + 2))) Q E s := by
  obtain ⟨f0, b, hf, Z⟩ := S.zi
  obtain ⟨vs, h0, hTO⟩ := S.to
  have hT : s.TypeIs (.ref (b0 + n + 2)) "zip" := ⟨_, Z.z, rfl⟩
  unfold pyNext
  exact wpAny_bind (wpAny_attempt (wpAny_callSpecial?_slot (name := Str.ofString "__next__") hT PySem.F.slot_zip_next
    (wpAny_call_entry PySem.F.slot_zip_next hT PySem.F.entry_zip_next
      (zipS_item hl hn hn4 hv Z hf hTO h0 C fun h' a1 a2 a3 a4 => wpAny_pure (hQ h' a1 a2 a3 a4)) (PySem.F.args_zip_next_1 _))))
theorem pyNext_zipS_end {b0 n i : Nat} {as : List Addr} {a : Addr} {items : Array Value} {Q : Option Value → Shared → Prop} (hh : A.in1.handled = none) (hl : as.length = n) (hn : 1 ≤ n) (S : ZS s.heap b0 n i as) (ha : as[0]? = some a) (la : a < b0) (hL : s.heap.IsList a items) (hx : items[i]? = none)
    (hQ : ∀ h', (∀ (c : Nat) (o : Obj), (c < b0 ∨ b0 + n + 2 < c) → s.heap.get? c = some o → h'.get? c = some o) → Q none { s with heap := h' }) : wpAny (model prog w) A (pyNext (.ref (b0 + n + 2))) Q E s := by
  obtain ⟨f0, b, hf, Z⟩ := S.zi
  have hT : s.TypeIs (.ref (b0 + n + 2)) "zip" := ⟨_, Z.z, rfl⟩
  unfold pyNext
  refine wpAny_bind (wpAny_attempt (wpAny_callSpecial?_slot (name := Str.ofString "__next__") hT PySem.F.slot_zip_next
    (wpAny_call_entry PySem.F.slot_zip_next hT PySem.F.entry_zip_next (zipS_end hh hl hn Z hf ha la hL hx fun h' e hk he => ?_) (PySem.F.args_zip_next_1 _))))
  obtain ⟨o, ho, hc⟩ := he
  refine wpAny_bind (wpAny_isInstance (T := "StopIteration") (b := true) ⟨o, ho, hc⟩ isSubtype_stop ?_)
  exact wpAny_pure (hQ _ hk)
end
end K11
end
section
set_option Elab.async false
set_option linter.all false
set_option maxRecDepth 100000
/-! R10: zip(*rows): the call, the walk. -/
namespace K11
open PySem PySem.Spec PyProof.Rows L2
open C8 (Cal Met Mak)
open Sem (wp)
/-! ### zip(l0, .., ln) of up to four lists -/
theorem newClass_zipS (vs : List Value) : Builtin.SmallTypes.newClass "zip" ⟨.type "zip" :: vs, []⟩ = pure (.type "zip", vs) := by
  unfold Builtin.SmallTypes.newClass
  simp only [isType, PySem.sub_zip, pure_bind, Bool.not_true, Bool.false_eq_true, if_false]
theorem typeCall_zipS : ∀ vs : List Value, 1 ≤ vs.length → vs.length ≤ 4 → checkTypeCall "zip" ⟨vs, []⟩ = pure ()
  | [_], _, _ => by kernel_rfl
  | [_, _], _, _ => by kernel_rfl
  | [_, _, _], _, _ => by kernel_rfl
  | [_, _, _, _], _, _ => by kernel_rfl
  | [], h, _ => absurd h (by decide)
  | _ :: _ :: _ :: _ :: _ :: _, _, h => absurd h (by simp)
theorem newCall_zipS : ∀ vs : List Value, 1 ≤ vs.length → vs.length ≤ 4 → checkBuiltinCall "zip.__new__" ⟨.type "zip" :: vs, []⟩ = pure ()
  | [_], _, _ => by kernel_rfl
  | [_, _], _, _ => by kernel_rfl
  | [_, _, _], _, _ => by kernel_rfl
  | [_, _, _, _], _, _ => by kernel_rfl
  | [], h, _ => absurd h (by decide)
  | _ :: _ :: _ :: _ :: _ :: _, _, h => absurd h (by simp)
theorem args_objS (o : Value) : ∀ vs : List Value, 1 ≤ vs.length → vs.length ≤ 4 → argsOk "object.__init__" ⟨o :: vs, []⟩
  | [_], _, _ => by unfold argsOk; rw [signature?_of (id := "object.__init__") (n := ['_', '_', 't', 'i', 'n', 'i', '_', '_']) (o := ['t', 'c', 'e', 'j', 'b', 'o']) (by kernel_rfl) PySem.F.owner_object]; kernel_rfl
  | [_, _], _, _ => by unfold argsOk; rw [signature?_of (id := "object.__init__") (n := ['_', '_', 't', 'i', 'n', 'i', '_', '_']) (o := ['t', 'c', 'e', 'j', 'b', 'o']) (by kernel_rfl) PySem.F.owner_object]; kernel_rfl
  | [_, _, _], _, _ => by unfold argsOk; rw [signature?_of (id := "object.__init__") (n := ['_', '_', 't', 'i', 'n', 'i', '_', '_']) (o := ['t', 'c', 'e', 'j', 'b', 'o']) (by kernel_rfl) PySem.F.owner_object]; kernel_rfl
  | [_, _, _, _], _, _ => by unfold argsOk; rw [signature?_of (id := "object.__init__") (n := ['_', '_', 't', 'i', 'n', 'i', '_', '_']) (o := ['t', 'c', 'e', 'j', 'b', 'o']) (by kernel_rfl) PySem.F.owner_object]; kernel_rfl
  | [], h, _ => absurd h (by decide)
  | _ :: _ :: _ :: _ :: _ :: _, _, h => absurd h (by simp)
section
variable {prog : Program} {w : World} {A : Around} {E : Value → Shared → Prop} {s : Shared}
theorem new_zipS (as : List Addr) (hn : 1 ≤ as.length) (hn4 : as.length ≤ 4) : MeetsIn prog w (Builtin.«zip.__new__» ⟨.type "zip" :: as.map Value.ref, []⟩)
    (fun A R s => (∀ (k : Nat) (a : Addr), as[k]? = some a → ∃ items, s.heap.IsList a items) ∧ ∀ h', ZS h' s.heap.objs.size as.length 0 as → (∀ (c : Nat) (o : Obj), s.heap.get? c = some o → h'.get? c = some o) → R (.ok (.ret (.ref (s.heap.objs.size + as.length + 2)))) { s with heap := h' }) :=
  .of_wp fun A R s ⟨hL, hR⟩ => by
    unfold Builtin.«zip.__new__»
    refine wpAny_bind (wpAny_of_eq (newClass_zipS _) ?_)
    try dsimp only
    show wpAny _ _ (Builtin.SmallTypes.iterAll (as.map Value.ref) >>= _) _ _ _
    refine wpAny_bind ?_
    unfold Builtin.SmallTypes.iterAll
    refine wpAny_bind (wpAny_forIn_list _ (fun rest r s' => ∃ j g, rest = (as.map Value.ref).drop j ∧ r = (itsOf s.heap.objs.size j).toArray ∧ j ≤ as.length ∧ s' = { s with heap := g } ∧ g.objs.size = s.heap.objs.size + j ∧
      (∀ (c : Nat) (o : Obj), s.heap.get? c = some o → g.get? c = some o) ∧ ∀ (k : Nat) (a : Addr), k < j → as[k]? = some a → g.IsListIter (s.heap.objs.size + k) a 0) _ ?_ ?_ _ _ ⟨0, s.heap, rfl, rfl, Nat.zero_le _, rfl, rfl, fun _ _ e => e, fun k _ hk => absurd hk (Nat.not_lt_zero _)⟩)
    · rintro x rest r s' ⟨j, g, hr, rfl, hj, rfl, gz, gf, gi⟩
      have hj' : j < as.length := by
        rcases Nat.lt_or_ge j as.length with h | h
        · exact h
        · rw [List.drop_eq_nil_of_le (by simp; omega)] at hr; cases hr
      obtain ⟨a, ha⟩ : ∃ a, as[j]? = some a := ⟨_, List.getElem?_eq_getElem hj'⟩
      have hx : x = .ref a ∧ rest = (as.map Value.ref).drop (j + 1) := by
        rw [List.drop_eq_getElem_cons (by simpa using hj')] at hr
        obtain ⟨h1, h2⟩ := List.cons.inj hr
        refine ⟨?_, h2⟩
        rw [h1]
        have := (List.getElem?_eq_some_iff.mp ha).2
        simp [this]
      obtain ⟨rfl, rfl⟩ := hx
      obtain ⟨items, lst⟩ := hL j a ha
      have lst' := lst.at fun o e => gf a o e
      refine wpAny_bind (wpAny_holding (wpAny_pyIter_list (s := { s with heap := g }) lst' (wpAny_pure ?_)))
      have g0 : (g.push { cls := .type "list_iterator", data := .fields #[.ref a, .int 0 0] }).get? g.objs.size = some _ := Heap.get?_push_size _ rfl
      refine ⟨j + 1, _, rfl, ?_, hj', rfl, by rw [Heap.size_push, gz]; rfl, fun c o e => Heap.get?_push_of_some _ (gf c o e), fun k c hk hc => ?_⟩
      · show ((itsOf s.heap.objs.size j).toArray.push (.ref g.objs.size)) = _
        rw [gz]
        unfold itsOf
        rw [List.range_succ, List.map_append]
        simp
      · by_cases e : k = j
        · subst e
          rw [ha] at hc; cases hc
          rw [← gz]
          exact ⟨_, g0, rfl, rfl⟩
        · exact (gi k c (by omega) hc).at fun o e => Heap.get?_push_of_some _ e
    · rintro r s' ⟨j, g, hr, rfl, hj, rfl, gz, gf, gi⟩
      have hjn : j = as.length := by
        rcases Nat.lt_or_ge j as.length with h | h
        · have := congrArg List.length hr
          simp at this
          omega
        · omega
      subst hjn
      refine wpAny_pure ?_
      have hsz : (itsOf s.heap.objs.size as.length).length ≤ sizeLine := by rw [itsOf_len]; exact sz5' (by omega)
      show wpAny _ _ (newTuple (itsOf s.heap.objs.size as.length) >>= _) _ _ { s with heap := g }
      refine wpAny_bind (wpAny_newTuple ?_ hsz)
      refine wpAny_bind (wpAny_newTuple ?_ (by rw [List.length_map]; exact hsz))
      show wpAny _ _ (newObj (.type "zip") (.fields #[.none, .bool false, .bool false, .ref g.objs.size, .ref (g.push { cls := .type "tuple", data := .seq (itsOf s.heap.objs.size as.length).toArray }).objs.size]) >>= _) _ _ { s with heap := (g.push { cls := .type "tuple", data := .seq (itsOf s.heap.objs.size as.length).toArray }).push { cls := .type "tuple", data := .seq ((itsOf s.heap.objs.size as.length).map fun _ => Value.none).toArray } }
      refine wpAny_bind (wpAny_newObj_type ?_)
      have z1 : (g.push { cls := .type "tuple", data := .seq (itsOf s.heap.objs.size as.length).toArray }).objs.size = s.heap.objs.size + as.length + 1 := by rw [Heap.size_push, gz]
      have g1 : (g.push { cls := .type "tuple", data := .seq (itsOf s.heap.objs.size as.length).toArray }).get? g.objs.size = some _ := Heap.get?_push_size _ rfl
      have f1 : ∀ (c : Nat) (o : Obj), g.get? c = some o → (g.push { cls := .type "tuple", data := .seq (itsOf s.heap.objs.size as.length).toArray }).get? c = some o := fun c o e => Heap.get?_push_of_some _ e
      rw [gz] at g1
      rw [gz, z1]
      generalize g.push { cls := .type "tuple", data := .seq (itsOf s.heap.objs.size as.length).toArray } = G1 at *
      have z2 : (G1.push { cls := .type "tuple", data := .seq ((itsOf s.heap.objs.size as.length).map fun _ => Value.none).toArray }).objs.size = s.heap.objs.size + as.length + 2 := by rw [Heap.size_push, z1]
      have g2 : (G1.push { cls := .type "tuple", data := .seq ((itsOf s.heap.objs.size as.length).map fun _ => Value.none).toArray }).get? G1.objs.size = some _ := Heap.get?_push_size _ rfl
      have f2 : ∀ (c : Nat) (o : Obj), G1.get? c = some o → (G1.push { cls := .type "tuple", data := .seq ((itsOf s.heap.objs.size as.length).map fun _ => Value.none).toArray }).get? c = some o := fun c o e => Heap.get?_push_of_some _ e
      rw [z1] at g2
      generalize G1.push { cls := .type "tuple", data := .seq ((itsOf s.heap.objs.size as.length).map fun _ => Value.none).toArray } = G2 at *
      have g3 : (G2.push { cls := .type "zip", data := .fields #[.none, .bool false, .bool false, .ref (s.heap.objs.size + as.length), .ref (s.heap.objs.size + as.length + 1)] }).get? G2.objs.size = some _ := Heap.get?_push_size _ rfl
      have f3 : ∀ (c : Nat) (o : Obj), G2.get? c = some o → (G2.push { cls := .type "zip", data := .fields #[.none, .bool false, .bool false, .ref (s.heap.objs.size + as.length), .ref (s.heap.objs.size + as.length + 1)] }).get? c = some o := fun c o e => Heap.get?_push_of_some _ e
      rw [z2] at g3
      show wpAny _ _ (ret (.ref G2.objs.size)) _ _ { s with heap := G2.push { cls := .type "zip", data := .fields #[.none, .bool false, .bool false, .ref (s.heap.objs.size + as.length), .ref (s.heap.objs.size + as.length + 1)] } }
      rw [z2]
      refine wpAny_pure ⟨_, rfl, hR _ ⟨⟨_, _, .inl rfl, g3⟩, f3 _ _ (f2 _ _ g1), ⟨_, by simp [itsOf_len], f3 _ _ g2⟩, fun k a ha => ?_⟩ fun c o e => f3 _ _ (f2 _ _ (f1 _ _ (gf c o e)))⟩
      exact (gi k a (List.getElem?_eq_some_iff.mp ha).1 ha).at fun o e => f3 _ _ (f2 _ _ (f1 _ _ e))
theorem call_zipS (as : List Addr) (hn : 1 ≤ as.length) (hn4 : as.length ≤ 4) {Q : Value → Shared → Prop} (hL : ∀ (k : Nat) (a : Addr), as[k]? = some a → ∃ items, s.heap.IsList a items)
    (h : ∀ h', ZS h' s.heap.objs.size as.length 0 as → (∀ (c : Nat) (o : Obj), s.heap.get? c = some o → h'.get? c = some o) → Q (.ref (s.heap.objs.size + as.length + 2)) { s with heap := h' }) :
    wpAny (model prog w) A (call (.type "zip") (as.map Value.ref)) Q E s := by
  refine callType_newIn PySem.F.called_zip (by decide) (typeCall_zipS _ (by simpa using hn) (by simpa using hn4)) (newCall_zipS _ (by simpa using hn) (by simpa using hn4)) (fun obj => args_objS obj _ (by simpa using hn) (by simpa using hn4)) PySem.F.entry_zip_new (new_zipS as hn hn4) ?_
  refine ⟨hL, fun h' S k => ?_⟩
  obtain ⟨f0, b, _, hz⟩ := S.z
  exact ⟨⟨_, hz, rfl⟩, h h' S k⟩
end
/-! ### the walk -/
/-- the i-th items of the lists at as, in a new tuple -/
def ItzS (K : PySem.W.Frag) (as : List Addr) : It :=
  ⟨fun i H => ∃ ys : List V, ys.length = as.length ∧ ∀ (k : Nat) (a : Addr), as[k]? = some a → ∃ xs x, SqL K H a xs ∧ xs[i]? = some x ∧ ys[k]? = some x,
    fun i H v H' => ∃ (T : Addr) (ys : List V), v = .ref T ∧ H T = none ∧ H' = upd H T (.tup ys) ∧ ys.length = as.length ∧ ∀ (k : Nat) (a : Addr) (xs : List V), as[k]? = some a → SqL K H a xs → ∃ x, xs[i]? = some x ∧ ys[k]? = some x,
    fun i H => ∃ (a : Addr) (xs : List V), as[0]? = some a ∧ SqL K H a xs ∧ xs.length ≤ i⟩
def fpS (b0 n : Nat) : List Addr := (List.range (n + 3)).map (b0 + ·)
theorem mem_fpS {b0 n c : Nat} : c ∈ fpS b0 n ↔ b0 ≤ c ∧ c ≤ b0 + n + 2 := by
  unfold fpS
  rw [List.mem_map]
  constructor
  · rintro ⟨j, hj, rfl⟩
    have := List.mem_range.mp hj
    omega
  · rintro ⟨h1, h2⟩
    exact ⟨c - b0, List.mem_range.mpr (by omega), by omega⟩
theorem fp_cases {b0 n c : Nat} (h : c ∈ fpS b0 n) : c = b0 + n + 2 ∨ c = b0 + n + 1 ∨ c = b0 + n ∨ ∃ k, k < n ∧ c = b0 + k := by
  have := mem_fpS.mp h
  by_cases c1 : c = b0 + n + 2
  · exact .inl c1
  by_cases c2 : c = b0 + n + 1
  · exact .inr (.inl c2)
  by_cases c3 : c = b0 + n
  · exact .inr (.inr (.inl c3))
  · exact .inr (.inr (.inr ⟨c - b0, by omega, by omega⟩))
theorem not_fpS {b0 n c : Nat} (h : c ∉ fpS b0 n) : c < b0 ∨ b0 + n + 2 < c := by
  have : ¬ (b0 ≤ c ∧ c ≤ b0 + n + 2) := fun z => h (mem_fpS.mpr z)
  omega
theorem vals_get : ∀ {xs : List V} {us : List Value}, xs.length = us.length → (∀ (j : Nat) (x : V) (u : Value), xs[j]? = some x → us[j]? = some u → RelV x u) → Vals xs us
  | [], [], _, _ => .nil
  | [], _ :: _, h, _ => by cases h
  | _ :: _, [], h, _ => by cases h
  | x :: xs, u :: us, hl, h => .cons (h 0 x u rfl rfl) (vals_get (Nat.succ.inj hl) fun j y v e1 e2 => h (j + 1) y v e1 e2)
theorem turn_zipS {P : Program} {w : World} {K : PySem.W.Frag} {x : Str} {xp : Pos} {b0 n : Nat} {as : List Addr} (hl : as.length = n) (hn : 1 ≤ n) (hn4 : n ≤ 4) (hlt : ∀ (k : Nat) (a : Addr), as[k]? = some a → a < b0) :
    Turn P w K (.Name x xp) (ItzS K as) (fpS b0 n) (b0 + n + 2) (fun i h => ZS h b0 n i as) where
  mem := mem_fpS.mpr ⟨by omega, Nat.le_refl _⟩
  obj := fun i h st c hc => by
    obtain ⟨f0, b, _, hz⟩ := st.z
    obtain ⟨vs, _, hT⟩ := st.to
    rcases fp_cases hc with e | e | e | ⟨k, hk', hk⟩
    · rw [e]; exact ⟨_, hz, fun v q => nomatch q⟩
    · rw [e]; exact ⟨_, hT, fun v q => nomatch q⟩
    · rw [e]; exact ⟨_, st.ti, fun v q => nomatch q⟩
    ·
      obtain ⟨a, ha⟩ : ∃ a, as[k]? = some a := ⟨_, List.getElem?_eq_getElem (by omega)⟩
      obtain ⟨o, e, _, d⟩ := st.it k a ha
      rw [hk]; exact ⟨o, e, fun v q => by rw [d] at q; cases q⟩
  keep := fun i h h' st k => by
    obtain ⟨f0, b, hf, hz⟩ := st.z
    obtain ⟨vs, hv, hT⟩ := st.to
    refine ⟨⟨f0, b, hf, k _ (mem_fpS.mpr ⟨by omega, by omega⟩) _ hz⟩, k _ (mem_fpS.mpr ⟨by omega, by omega⟩) _ st.ti, ⟨vs, hv, k _ (mem_fpS.mpr ⟨by omega, by omega⟩) _ hT⟩, fun j a ha => (st.it j a ha).at fun o e => k _ (mem_fpS.mpr ⟨by omega, ?_⟩) o e⟩
    have := (List.getElem?_eq_some_iff.mp ha).1
    omega
  item := by
    intro X hP hw hK hc i pins s σ H E I hf st hg
    subst hP hw hK
    obtain ⟨ys, hyl, hy⟩ := hg
    have hex : ∀ k, ∃ u : Value, k < n → ∃ a items, as[k]? = some a ∧ s.heap.IsList a items ∧ items[i]? = some u ∧ ∃ y, ys[k]? = some y ∧ RelV y u := fun k => by
      by_cases hk : k < n
      · obtain ⟨a, ha⟩ : ∃ a, as[k]? = some a := ⟨_, List.getElem?_eq_getElem (by omega)⟩
        obtain ⟨xs, y, h1, h2, h3⟩ := hy k a ha
        obtain ⟨its, rv, p, _⟩ := I.list h1
        obtain ⟨u, hu, ru⟩ := rv.get h2
        exact ⟨u, fun _ => ⟨a, its.toArray, ha, p.isList, by simpa using hu, y, h3, ru⟩⟩
      · exact ⟨.none, fun h => absurd h hk⟩
    obtain ⟨vf, hvf⟩ : ∃ vf : Nat → Value, ∀ k, k < n → ∃ a items, as[k]? = some a ∧ s.heap.IsList a items ∧ items[i]? = some (vf k) ∧ ∃ y, ys[k]? = some y ∧ RelV y (vf k) := ⟨fun k => (hex k).choose, fun k => (hex k).choose_spec⟩
    have C : ZCol s.heap b0 i as ((List.range n).map vf) := ⟨hlt, fun k a ha => by
      have hk : k < n := by have := (List.getElem?_eq_some_iff.mp ha).1; omega
      obtain ⟨a', items, h1, h2, h3, _⟩ := hvf k hk
      rw [ha] at h1; cases h1
      exact ⟨items, vf k, h2, h3, mget _ hk⟩⟩
    obtain ⟨f0, b, _, hz⟩ := id st.z
    have hzl : b0 + n + 2 < s.heap.objs.size := Heap.lt_size hz
    have rv : Vals ys ((List.range n).map vf) := vals_get (by rw [mlen]; omega) fun k y u e1 e2 => by
      have hk : k < n := by have := (List.getElem?_eq_some_iff.mp e1).1; omega
      rw [mget _ hk] at e2
      cases e2
      obtain ⟨_, _, _, _, _, y', h1, h2⟩ := hvf k hk
      rw [e1] at h1; cases h1
      exact h2
    refine pyNext_zipS_item hl hn (by omega) (mlen _ _) st C fun h' F1 F2 F3 F4 => ?_
    refine ⟨_, rfl, ?_⟩
    unfold letOwnedTupleGo
    refine wpAny_pure ?_
    have new : ObjOk X.prog X.w (upd H s.heap.objs.size (.tup ys)) h' s.heap.objs.size (.tup ys) :=
      ⟨by rw [hyl]; exact sz5' (by omega), _, rv, ⟨_, F2, rfl, _, rfl⟩⟩
    have I1 : Inv X pins σ (upd H s.heap.objs.size (.tup ys)) { s with heap := h' } :=
      I.turnedNew (t' := s.toks) (ch := fpS b0 n) (fun c o hb q => F4 c o (not_fpS hb) q) hf (Nat.le_refl _) new
    refine ⟨.ref s.heap.objs.size, _, I1, rfl, ⟨_, ys, rfl, I.hok.fresh (Nat.le_refl _), rfl, hyl, fun k a xs ha hx => ?_⟩, F1, fun c hcm => ?_⟩
    · obtain ⟨xs', y, h1, h2, h3⟩ := hy k a ha
      rw [I.list_inj hx h1]
      exact ⟨y, h2, h3⟩
    · have := mem_fpS.mp hcm
      rw [upd_ne (show c ≠ s.heap.objs.size from Nat.ne_of_lt (by omega))]
      exact (hf c hcm).1
  done := by
    intro X hP hw hK hc i pins s σ H E I hf st hg
    subst hP hw hK
    obtain ⟨a, xs, ha, hx, hle⟩ := hg
    obtain ⟨its, rv, p, _⟩ := I.list hx
    have r1 := rv.length
    refine pyNext_zipS_end (A := X.A) (I.ok.hd hc) hl hn st ha (hlt 0 a ha) p.isList (by rw [Array.getElem?_eq_none]; rw [List.size_toArray]; omega) fun h' F => ⟨rfl, ?_⟩
    exact I.turnedL (t' := s.toks) (ch := fpS b0 n) (fun c o hb q => F c o (not_fpS hb) q) hf
  self := fun A i s Q E st h => by
    obtain ⟨f0, b, _, hz⟩ := st.z
    have hT : s.TypeIs (.ref (b0 + n + 2)) "zip" := ⟨_, hz, rfl⟩
    refine wpAny_pyIter_slot hT PySem.F.slot_zip_iter (wpAny_call_entry PySem.F.slot_zip_iter hT PySem.F.entry_zip_iter ?_ (PySem.F.args_zip_iter_1 _))
    show wpAny _ _ (ret (.ref (b0 + n + 2))) _ _ s
    exact wpAny_pure ⟨_, rfl, "zip", _, hT, PySem.F.slot_zip_next.lookup, h⟩
/-- for x in zip(*rows) -/
def iZipS (K : PySem.W.Frag) (te : TE) : TI := fun σ H R => te σ H fun v H1 => ∃ (q : Addr) (as : List Addr), v = .ref q ∧ SqL K H1 q (as.map V.ref) ∧ 1 ≤ as.length ∧ as.length ≤ 4 ∧ (∀ (k : Nat) (a : Addr), as[k]? = some a → ∃ xs, SqL K H1 a xs) ∧ R (ItzS K as) H1
theorem pi_zipS {X : Cx} {e : Expr} {te : TE} {x : Str} {xp p sp pos : Pos} (hg : Gl X "zip") (hm : X.mg "zip" = none) (he : PE X e te)
    (hs : starEach [.Starred e sp] X.env = [(true, eval e X.env)] := by rfl) :
    PI X (.Name x xp) (.Call (.Name "zip" p) [.Starred e sp] [] pos) (iZipS X.K te) := by
  refine ⟨fun pins s σ H R I h => ?_⟩
  refine Call_ (ld_blt I hg hm PyProof.Rows.boot_zip ?_)
  rw [hs]
  refine PySem.W.ks_call (P := fun _ => True) rfl (fun _ _ => ⟨.machine, .inr (.inl rfl), PySem.W.Looks.of_pure rfl⟩) (PySem.W.ks_lone (thn (he.run pins s σ H _ I h) fun v s1 ⟨y, H1, I1, ry, q, as, ey, hq, n1, n4, hr, k⟩ => ?_))
  subst ey
  obtain rfl : v = Value.ref q := ry
  refine StX.star_lst I1 hq fun us s2 I2 rv => ⟨trivial, ?_⟩
  have eus : us = as.map Value.ref := by
    have : ∀ (l : List Addr) (us : List Value), Vals (l.map V.ref) us → us = l.map Value.ref := fun l => by
      induction l with
      | nil => intro us r; cases r; rfl
      | cons a l ih =>
        intro us r
        cases r with
        | cons r1 r2 =>
          cases r1
          rw [ih _ r2]; rfl
    exact this as us rv
  subst eus
  refine call_zipS as n1 n4 (fun k a ha => ?_) fun h' S hk => ?_
  · obtain ⟨xs, hx⟩ := hr k a ha
    obtain ⟨its, _, p, _⟩ := I2.list hx
    exact ⟨_, p.isList⟩
  · have hlt : ∀ (k : Nat) (a : Addr), as[k]? = some a → a < s2.heap.objs.size := fun j a ha => by
      obtain ⟨xs, hx⟩ := hr j a ha
      obtain ⟨its, _, p, _⟩ := I2.list hx
      exact p.lt
    have T := turn_zipS (P := X.prog) (w := X.w) (K := X.K) (x := x) (xp := xp) (b0 := s2.heap.objs.size) rfl n1 n4 hlt
    refine T.self _ 0 { s2 with heap := h' } _ _ S ?_
    have I3 : Inv X pins σ H1 { s2 with heap := h' } := I2.kept (t' := s2.toks) hk
    refine ⟨s2.heap.objs.size + as.length + 2, fpS s2.heap.objs.size as.length, _, _, H1, rfl, I3, T, S, fun c hc => ?_, k⟩
    have := mem_fpS.mp hc
    exact I2.fpOk this.1 (I2.hok.fresh this.1)
theorem walk_zipS {K : PySem.W.Frag} {as : List Addr} {m : Nat} {col : Nat → List V} (hn : 1 ≤ as.length) {xs : Nat → List V} (hxl : ∀ k, k < as.length → (xs k).length = m) (hcl : ∀ i, i < m → (col i).length = as.length) (hc : ∀ i k, i < m → k < as.length → ∃ x, (xs k)[i]? = some x ∧ (col i)[k]? = some x) :
    Walk (ItzS K as) m (fun H => ∀ (k : Nat) (a : Addr), as[k]? = some a → SqL K H a (xs k)) (fun i H v H' => ∃ T, v = .ref T ∧ H T = none ∧ H' = upd H T (.tup (col i))) := by
  refine ⟨fun i H hi q => ?_, fun H q => ?_, fun i H v H' hi q y => ?_⟩
  · refine ⟨col i, hcl i hi, fun k a ha => ?_⟩
    obtain ⟨x, h1, h2⟩ := hc i k hi (List.getElem?_eq_some_iff.mp ha).1
    exact ⟨xs k, x, q k a ha, h1, h2⟩
  · obtain ⟨a, ha⟩ : ∃ a, as[0]? = some a := ⟨_, List.getElem?_eq_getElem (by omega)⟩
    exact ⟨a, xs 0, ha, q 0 a ha, by rw [hxl 0 (by omega)]; exact Nat.le_refl _⟩
  · obtain ⟨T, ys, h1, h2, h3, h4, h5⟩ := y
    have e : ys = col i := List.ext_getElem? fun k => by
      by_cases hk : k < as.length
      · obtain ⟨a, ha⟩ : ∃ a, as[k]? = some a := ⟨_, List.getElem?_eq_getElem hk⟩
        obtain ⟨x, e1, e2⟩ := h5 k a _ ha (q k a ha)
        obtain ⟨x', e3, e4⟩ := hc i k hi hk
        rw [e1] at e3; cases e3
        rw [e2, e4]
      · rw [List.getElem?_eq_none (by omega), List.getElem?_eq_none (by rw [hcl i hi]; omega)]
    subst e
    exact ⟨T, h1, h2, h3⟩
end K11
end
section
set_option Elab.async false
set_option linter.all false
set_option maxRecDepth 100000
namespace K11
open PySem PySem.Spec PyProof.Rows L2
open C8 (Cal Met Mak)
section
variable {P : Program} {w : World} {K : PySem.W.Frag} {mg : Str → Option Value} {base : Heap}
/-! ### shares -/
theorem tabS_R (N : Ch.Nt) (r : Nat → Int) : tabS N.length (fun i j => Ch.latt N j i) r = Ch.tabR N r := rfl
theorem tabSR_pos {N : Ch.Nt} (D : Ch.Drawn N) (e : Ch.EndsN N) (r : Nat → Int) : ∀ k, k ≤ N.length → 0 < Ch.dv (tabS N.length (fun i j => Ch.latt N j i) r) k := fun k hk => by
  rw [tabS_R, Ch.dv_tabR D e r N.length (Nat.le_refl _) k hk]; exact e k hk
theorem sc_shares : FnScope ["net", "outlet", "rows", "right", "numbers", "below", "name", "column", "above"] ["net", "outlet"] d_shares.scope := ⟨rfl, rfl, rfl, by decide +kernel, rfl, by decide +kernel, by decide +kernel⟩
theorem ok_shares (T : Txt K mg) (c_Shares_init : Mak P w K mg base 1 "Shares" (He.ga K "Shares") (sp_Shares_init K) []) (c_lowered : Cal P w K mg base 2 "lowered" sp_lowered []) (c_solved : Cal P w K mg base 1 "solved" sp_solved []) (c_Net_turned : Met P w K mg base 1 (He.ga K "Net") "turned" (sp_Net_turned K) []) (c_lattice : Cal P w K mg base 2 "lattice" (sp_lattice K) []) (c_check_outlet : Cal P w K mg base 1 "check_outlet" (sp_check_outlet K) []) (c_check_ends : Cal P w K mg base 4 "check_ends" (sp_check_ends K) []) : Cal P w K mg base 5 "shares" (sp_shares K) [] := by
  refine cal_mk d_shares T.d_shares T.g_shares sc_shares (fun vs H Q E h => ?_) (fun _ _ _ _ _ _ us hl => match us, hl with | [_, _], _ => rfl) (fun cdv A outer s H vs Q E hr h => ?_)
  · obtain ⟨_, _, _, rfl, _⟩ := h
    rfl
  · have hu := hu_of hr
    obtain ⟨a, N, o, rfl, ho, hN, D, e, k⟩ := h
    have n1 := D.n1
    have n4 := D.n4
    refine ⟨_, (pss_cons (ps_expr (C8.pe_c c_check_ends hr (by decide) rfl (pa_cons (pv 0) pa_nil)))
      (pss_cons (ps_expr (C8.pe_c c_check_outlet hr (by decide) rfl (pa_cons (pv 0) (pa_cons (pv 1) pa_nil))))
      (pss_cons (ps_set (i := 2) sc_shares.nd rfl (Or.inl rfl) (C8.pe_c c_lattice hr (by decide) rfl (pa_cons (pv 0) pa_nil)))
      (pss_cons (ps_setLc (i := 3) (own := [("name", 6)]) (by rfl) sc_shares.nd rfl rfl (sw_true rfl rfl rfl (by decide +kernel)) (pi_list (pe_fld (pv 0) rfl)) (blkOk_by (own := [("name", 6)]) (by rfl)) (fun _ _ _ _ _ => (pg_name (i := 6) sc_shares.nd rfl (Or.inl rfl))) (fun _ _ _ _ _ => pts_nil) (fun _ _ _ _ _ => (pe_dget2 hu (C8.pe_mt c_Net_turned hr (by decide) (pv 0) (pa_cons (pv 6) pa_nil)) (pv 1) pe_int ⟨rfl, rfl, rfl, rfl⟩)))
      (pss_cons (ps_asg (C8.pe_c c_solved hr (by decide) rfl (pa_cons (pe_lc (te := tCB (rListOf K) (tCons (tVar 7) tNil)) (own := [("column", 7)]) (by rfl) sc_shares.nd (pi_zipS rfl T.f_zip (pv 2)) (blkOk_by (own := [("column", 7)]) (by rfl)) (fun _ _ _ _ _ => (pg_name (i := 7) sc_shares.nd rfl (Or.inl rfl))) (fun _ _ _ _ _ => pts_nil) (fun _ _ _ _ _ => (pe_callTy call_list_of (by rfl) T.f_list (by decide +kernel) (pa_cons (pv 7) pa_nil)))) (pa_cons (pv 3) pa_nil))) (pg_tup rfl (pgs_cons (pg_name (i := 4) sc_shares.nd rfl (Or.inl rfl)) (pgs_cons (pg_name (i := 5) sc_shares.nd rfl (Or.inr rfl)) pgs_nil))))
      (pss_one (ps_ret (C8.pe_mk c_Shares_init hr (by decide) rfl (pa_cons (pe_dc (g := gTup K 2 (gCons (gName 6) (gCons (gName 8) gNil))) (own := [("name", 6), ("above", 8)]) (by rfl) sc_shares.nd (pi_zip rfl T.f_zip (pa_cons (pe_fld (pv 0) rfl) (pa_cons (pv 4) pa_nil))) (blkOk_by (own := [("name", 6), ("above", 8)]) (by rfl)) (fun _ _ _ _ _ => (pg_tup rfl (pgs_cons (pg_name (i := 6) sc_shares.nd rfl (Or.inl rfl)) (pgs_cons (pg_name (i := 8) sc_shares.nd rfl (Or.inl rfl)) pgs_nil)))) (fun _ _ _ _ _ => pts_nil) (fun _ _ _ _ _ => (pv 6)) (fun _ _ _ _ _ => (C8.pe_c c_lowered hr (by decide) rfl (pa_cons (pv 8) (pa_cons (pv 5) pa_nil))))) pa_nil))))))))), ?_⟩
    refine ⟨_, rfl, a, N, rfl, hN, D, e, fun H0 s0 => ?_⟩
    obtain ⟨j, dx, kd, id, ot, nl, O⟩ := hN
    have hN' : ∀ {H'}, Same H H' → NetAt K H' a N := fun s => ⟨j, dx, kd, id, ot, nl, O.mono s⟩
    refine ⟨_, rfl, _, rfl, a, N, o, rfl, ho, hN' s0, ?_⟩
    refine ⟨_, rfl, a, N, rfl, hN' s0, D, fun pm H1 hpm s1 ⟨as, hM1, hM2⟩ => ?_⟩
    have s01 := s0.trans s1
    have O1 := O.mono s01
    -- right
    refine ⟨_, rfl, a, _, dx, _, _, rfl, O1.ob, T.c_Net, T.n_Net_names, rfl, nl, rfl, ⟨_, SqL.of O1.nl⟩, ?_⟩
    refine lc_vals (walk_list (xs := (List.range N.length).map vn)) (fun i => .int ((Ch.cnt N i o : Nat) : Int)) (by rw [mlen]; omega) (fun H' s => SqL.of (s _ _ O1.nl)) ?_ ?_
    · rintro i x H' H'' R hi s ⟨rfl, hy⟩ kk
      rw [mlen] at hi
      rw [mget _ hi] at hy
      cases hy
      have O2 := O1.mono s
      refine ⟨rfl, _, rfl, a, dx, _, rfl, O2.ob, rfl, _, rfl, a, N, i, rfl, ⟨j, dx, kd, id, ot, nl, O2⟩, hi, fun d hd => Drawn8 D hi d (List.mem_append_right _ hd), fun q ks H2 hq s2 DD => ?_⟩
      obtain ⟨ov, g1, g2⟩ := DD.get o
      exact ⟨q, rfl, isD DD.at_, _, rfl, ov, g1, Eq.mpr (congrArg (fun z => R z H2) g2) (kk H2 s2)⟩
    intro rl H2 hrl s2 e2
    rw [mlen] at e2
    -- columns
    refine ⟨_, rfl, pm, (List.range N.length).map as, rfl, SqL.of (by rw [← rws_map]; exact s2 _ _ hM1), by rw [mlen]; exact n1, by rw [mlen]; exact n4, fun k a ha => ?_, ?_⟩
    · have hk : k < N.length := by have := (List.getElem?_eq_some_iff.mp ha).1; rw [mlen] at this; exact this
      rw [mget _ hk] at ha
      cases ha
      exact ⟨_, SqL.of (s2 _ _ (hM2 k hk))⟩
    refine lc_pred (walk_zipS (m := N.length) (col := fun i => (List.range N.length).map fun k => V.int (Ch.latt N k i)) (xs := fun k => (List.range N.length).map fun j => V.int (Ch.latt N k j)) (by rw [mlen]; exact n1) (fun k _ => mlen _ _) (fun i _ => by rw [mlen, mlen]) (fun i k hi hk => by
      rw [mlen] at hk
      exact ⟨V.int (Ch.latt N k i), mget _ hi, mget _ hk⟩)) (fun i y H => ∃ q, y = .ref q ∧ IRow H q N.length fun k => Ch.latt N k i) (by omega) (fun H' s k a ha => ?_) ?_ ?_
    · have hk : k < N.length := by have := (List.getElem?_eq_some_iff.mp ha).1; rw [mlen] at this; exact this
      rw [mget _ hk] at ha
      cases ha
      exact SqL.of (s _ _ (s2 _ _ (hM2 k hk)))
    · rintro D' i x H3 H3' acc R hi hD s3 ha ⟨T', rfl, hT, rfl⟩ kk
      refine ⟨rfl, _, rfl, T', _, rfl, .inr (SqT.of upd_same), fun l hl => ?_⟩
      have s4 : Same H3 (upd (upd H3 T' (.tup ((List.range N.length).map fun k => V.int (Ch.latt N k i)))) l (.lst ((List.range N.length).map fun k => V.int (Ch.latt N k i)))) := Same.trans (Same.new hT) (Same.new hl)
      have nl2 : l ≠ D' := fun z => by
        have := Same.new (o := .tup ((List.range N.length).map fun k => V.int (Ch.latt N k i))) hT _ _ ha
        rw [← z, hl] at this; cases this
      exact kk _ _ s4 fun H6 s6 => ⟨l, rfl, s6 _ _ nl2 upd_same⟩
    intro pc ys H3 hpc s3 e3 hl3 hy3
    obtain ⟨cs, rfl, hcs⟩ := refs_of hl3 hy3
    have s13 := s2.trans s3
    refine ⟨_, rfl, pc, rl, N.length, fun i j => Ch.latt N j i, _, rfl, ⟨cs, e3, hcs⟩, s3 _ _ e2, n1, n4, fun i j _ hj => D.latt10 hj i, fun i hi => by have := D.cnt10 hi o; show (((Ch.cnt N i o : Nat) : Int)).natAbs ≤ 10; omega, tabSR_pos D e _, fun p l H4 hl hp s4 e4 ep => ?_⟩
    rw [tabS_R] at e4 ep
    rw [Ch.dv_tabR D e _ N.length (Nat.le_refl _) _ (Nat.le_refl _)] at ep
    change H4 p = some (.tup [.ref l, .int (Ch.dt N)]) at ep
    have s04 : Same H H4 := (s01.trans s13).trans s4
    have O4 := O.mono s04
    refine ⟨p, _, rfl, SqT.of ep, rfl, _, _, rfl, _, _, rfl, rfl, ?_⟩
    refine ⟨_, rfl, a, _, dx, _, _, rfl, O4.ob, T.c_Net, T.n_Net_names, rfl, _, rfl, nl, l, _, _, rfl, SqL.of O4.nl, SqL.of e4, ?_⟩
    have ds := Ch.dt_small D e
    have dp := e.dt
    refine dc_pred (walk_zip (n := N.length) (by rw [mlen, mlen, Nat.min_self])) (fun i => i) (fun i j _ _ e => e) (fun i y H => ∃ q, y = .ref q ∧ FrAt H q (wnum N o i) (Ch.dt N)) (by omega) (fun H' s => ⟨SqL.of (s _ _ O4.nl), SqL.of (s _ _ e4)⟩) ?_ ?_
    · rintro D' i x H5 H5' kvs R hi hD s5 ha ⟨T', x1, y1, rfl, hT, rfl, e1', e2'⟩ kk
      simp only [mget _ hi] at e1' e2'
      cases e1'
      cases e2'
      have hw : wnum N o i = Ch.elM (Ch.tabR N fun i => (Ch.cnt N i o : Int)) N.length i N.length := by
        show Ch.solR N _ i = _
        unfold Ch.solR; rw [if_pos hi]
      refine ⟨T', _, rfl, SqT.of upd_same, rfl, _, _, rfl, _, _, rfl, rfl, rfl, _, rfl, _, rfl, _, rfl, _, Ch.dt N, rfl, dp, Nat.lt_trans ds (Nat.pow_lt_pow_right (by decide) (by decide)), fun c d q d0 dle cle ceq hq => ?_⟩
      have s6 := Same.new (o := .tup [vn i, .int (Ch.elM (Ch.tabR N fun i => (Ch.cnt N i o : Int)) N.length i N.length)]) hT
      have nq : q ≠ D' := fun z => by
        have := s6 _ _ ha
        rw [← z, hq] at this; cases this
      refine kk _ _ (Same.trans s6 (Same.new hq)) fun H6 s7 => ⟨q, rfl, c, d, s7 _ _ nq upd_same, d0, dle, ?_, ?_⟩
      · rw [hw]; exact cle
      · rw [hw]; exact ceq
    · intro wd f H5 hwd s5 e5 hf
      rw [dk_id] at e5
      have hq : ∀ i, ∃ q, i < N.length → f i = .ref q ∧ FrAt H5 q (wnum N o i) (Ch.dt N) := fun i => by
        by_cases c : i < N.length
        · obtain ⟨q, h1, h2⟩ := hf i c
          exact ⟨q, fun _ => ⟨h1, h2⟩⟩
        · exact ⟨0, fun d => absurd d c⟩
      have efr : FrsAt H5 wd N.length (wnum N o) (Ch.dt N) := by
        refine ⟨fun i => (hq i).choose, ?_, fun v hv => ((hq v).choose_spec hv).2⟩
        rw [e5]; congr 2
        exact dk_congr fun t ht => ((hq t).choose_spec (List.mem_range.mp ht)).1
      intro x dx' hx hdx hne
      have m0 := made0 (C := He.ga K "Shares") (u := .own x) hx hdx
      exact ⟨x, dx', wd, N.length, _, _, rfl, upd_same, efr.mono m0, fun H6 sx r => ⟨rfl, k x H6 ((s04.trans s5).trans (made (K := K) hx hdx hne sx)) r⟩⟩
end
end K11
end
section
set_option Elab.async false
set_option linter.all false
set_option maxRecDepth 100000
namespace K11
open PySem PySem.Spec PyProof.Rows L2
open C8 (Cal Met Mak)
/-! ### what a drop is worth, plain -/
theorem wnum_small {N : Ch.Nt} (D : Ch.Drawn N) (e : Ch.EndsN N) {o : Nat} (v : Nat) : (wnum N o v).natAbs < 2 ^ 80 := by
  show (Ch.solR N _ v).natAbs < 2 ^ 80
  unfold Ch.solR
  split
  · rename_i hv
    refine Nat.lt_of_le_of_lt (Ch.el_size (n := N.length) (b := 10) (fun j => j ≤ N.length) (fun k hk => Nat.le_of_lt hk) (fun i j hi hj => ?_) N.length (Nat.le_refl _) (fun l hl => ?_) v N.length hv (Nat.le_refl _)) (bnd10 D.n4)
    · unfold Ch.tabR; split
      · have := D.cnt10 hi o; show (((Ch.cnt N i o : Nat) : Int)).natAbs ≤ 10; omega
      · exact D.latt10 hi j
    · rw [Ch.dv_tabR D e _ N.length (Nat.le_refl _) l hl]; exact e l hl
  · decide
theorem sum_bd {f : Nat → Int} {B : Nat} : ∀ {l : List Nat}, (∀ t ∈ l, (f t).natAbs ≤ B) → ((l.map f).sum).natAbs ≤ l.length * B
  | [], _ => by simp
  | t :: l, h => by
    have h1 := sum_bd (l := l) fun u hu => h u (List.mem_cons_of_mem _ hu)
    have h2 := h t (List.mem_cons_self ..)
    rw [List.map_cons, List.sum_cons, List.length_cons, Nat.add_mul, Nat.one_mul]
    omega
theorem count_one (t u : Nat) : ((t :: l : List Nat).count u : Int) = (l.count u : Int) + (if t = u then 1 else 0) := by
  rw [List.count_cons]
  by_cases c : t = u
  · subst c; simp
  · rw [if_neg c]; simp [c]
theorem S4i_at {f : Nat → Int} {t : Nat} (h : t < 4) : Ch.S4i (fun u => (if t = u then 1 else 0) * f u) = f t := by
  rcases Ch.lt4 h with rfl | rfl | rfl | rfl <;> simp [Ch.S4i]
theorem S4i_off {f : Nat → Int} {t : Nat} (h : 4 ≤ t) : Ch.S4i (fun u => (if t = u then 1 else 0) * f u) = 0 := by
  have : Ch.S4i (fun u => (if t = u then 1 else 0) * f u) = Ch.S4i fun _ => 0 := Ch.S4i_congr fun u hu => by rw [if_neg (by omega), Int.zero_mul]
  rw [this]; simp [Ch.S4i]
theorem wth_sum {n o : Nat} {c d num : Nat → Int} {D W : Int} (n4 : n ≤ 4) (ho : 4 ≤ o) (hc : ∀ v, v < n → c v * D = num v * d v) (hd : ∀ v, v < n → d v ∣ W ∧ 0 < d v) : ∀ {dr : List Nat}, (∀ t ∈ dr, t < n ∨ t = 4 ∨ t = 5) → D * (dr.map (wth o n c d W)).sum = W * Ch.wth num D o dr
  | [], _ => by simp [Ch.wth, Ch.S4i]
  | t :: dr, h => by
    have ih := wth_sum n4 ho hc hd (dr := dr) fun u hu => h u (List.mem_cons_of_mem _ hu)
    have ht := h t (List.mem_cons_self ..)
    rw [List.map_cons, List.sum_cons, Int.mul_add, ih]
    have e1 : Ch.wth num D o (t :: dr) = Ch.wth num D o dr + (Ch.S4i (fun u => (if t = u then 1 else 0) * num u) + D * (if t = o then 1 else 0)) := by
      unfold Ch.wth
      rw [count_one]
      have : Ch.S4i (fun u => ((t :: dr : List Nat).count u : Int) * num u) = Ch.S4i (fun u => (dr.count u : Int) * num u) + Ch.S4i (fun u => (if t = u then 1 else 0) * num u) := by
        rw [← Ch.S4i_add]
        exact Ch.S4i_congr fun u _ => by rw [count_one, Int.add_mul]
      rw [this, Int.mul_add]; omega
    rw [e1, Int.mul_add, Int.add_comm]
    congr 1
    unfold wth
    by_cases c1 : t = o
    · rw [if_pos c1, if_pos c1, S4i_off (by omega)]
      rw [Int.mul_one, Int.zero_add, Int.mul_comm]
    · rw [if_neg c1, if_neg c1, Int.mul_zero, Int.add_zero]
      by_cases c2 : t < n
      · rw [if_pos c2, S4i_at (by omega)]
        obtain ⟨⟨k, hk⟩, d0⟩ := hd t c2
        rw [hk, Int.mul_ediv_cancel_left _ (by omega), ← Int.mul_assoc, Int.mul_comm D, hc t c2, Int.mul_comm (num t), Int.mul_assoc, Int.mul_assoc, Int.mul_comm (num t)]
      · rw [if_neg c2, S4i_off (by omega)]; simp
end K11
end
section
set_option Elab.async false
set_option linter.all false
set_option maxRecDepth 100000
namespace K11
open PySem PySem.Spec PyProof.Rows L2
open C8 (Cal Met Mak)
section
variable {P : Program} {w : World} {K : PySem.W.Frag} {mg : Str → Option Value} {base : Heap}
/-! ### Levels.__init__ -/
/-- a dict of lists by knots -/
def LsAt (H : Hp) (hd : Addr) (n : Nat) (ms : Nat → List V) : Prop := ∃ ls : Nat → Addr, H hd = some (.dK (dk (List.range n) fun v => .ref (ls v))) ∧ ∀ v, v < n → H (ls v) = some (.lst (ms v))
theorem LsAt.mono {H H' : Hp} {hd : Addr} {n : Nat} {ms : Nat → List V} (s : Same H H') (h : LsAt H hd n ms) : LsAt H' hd n ms := let ⟨ls, a, b⟩ := h; ⟨ls, s _ _ a, fun v hv => s _ _ (b v hv)⟩
def LvAt (K : PySem.W.Frag) (H : Hp) (p : Addr) (n : Nat) (ms : Nat → List V) : Prop := ∃ dx wd hd, H p = some (.ins (He.ga K "Levels") dx [("worths", .ref wd), ("heights", .ref hd)]) ∧ LsAt H hd n ms
def sp_Levels_init (K : PySem.W.Frag) : Sp := fun vs H Q _ => ∃ (p dx wd hd : Addr) (n : Nat) (f : Nat → V) (ms : Nat → List V), vs = [.ref p, .ref wd, .ref hd] ∧ H p = some (.ins (He.ga K "Levels") dx []) ∧ H wd = some (.dK (dk (List.range n) f)) ∧ LsAt H hd n ms ∧ n ≤ 4 ∧ (∀ v, v < n → (ms v).length ≤ 100) ∧
  ∀ H', SameX p H H' → LvAt K H' p n ms → Q .non H'
theorem sc_Levels_init : FnScope ["self", "worths", "heights", "name", "told"] ["self", "worths", "heights"] d_Levels_init.scope := ⟨rfl, rfl, rfl, by decide +kernel, rfl, by decide +kernel, by decide +kernel⟩
theorem ok_Levels_init (T : Txt K mg)  : Mak P w K mg base 1 "Levels" (He.ga K "Levels") (sp_Levels_init K) [] := by
  refine mak_mk d_Levels_init T.d_Levels_init T.m_Levels T.g_Levels sc_Levels_init (fun vs H Q E h => ?_) (fun _ _ _ _ _ _ us hl => match us, hl with | [_, _, _], _ => rfl) (fun cdv A outer s H vs Q E hr h => ?_)
  · obtain ⟨_, _, _, _, _, _, _, rfl, _⟩ := h
    rfl
  · have hu := hu_of hr
    obtain ⟨p, dx, wd, hd, n, f, ms, rfl, hob, hw, ⟨ls, hl1, hl2⟩, n4, hms, k⟩ := h
    refine ⟨_, (pss_cons (ps_fld (pv 0) (pe_callTy call_dictD (by rfl) T.f_dict (by decide +kernel) (pa_cons (pv 1) pa_nil)) rfl)
      (pss_one (ps_fld (pv 0) (pe_lock (pe_dc (g := gTup K 2 (gCons (gName 3) (gCons (gName 4) gNil))) (tv := tCB (rListOf K) (tCons (tVar 4) tNil)) (own := [("name", 3), ("told", 4)]) (by rfl) sc_Levels_init.nd (pi_items (pv 2)) (blkOk_by (own := [("name", 3), ("told", 4)]) (by rfl)) (fun _ _ _ _ _ => (pg_tup rfl (pgs_cons (pg_name (i := 3) sc_Levels_init.nd rfl (Or.inl rfl)) (pgs_cons (pg_name (i := 4) sc_Levels_init.nd rfl (Or.inl rfl)) pgs_nil)))) (fun _ _ _ _ _ => pts_nil) (fun _ _ _ _ _ => (pv 3)) (fun _ _ _ _ _ => (pe_callTy call_list_of (by rfl) T.f_list (by decide +kernel) (pa_cons (pv 4) pa_nil))))) rfl))), ?_⟩
    refine ⟨_, rfl, wd, _, rfl, .of hw, fun w' hw' => ?_⟩
    have s1 := Same.new (o := .dK (dk (List.range n) f)) hw'
    have b1 := s1 _ _ hob
    have hl1' := s1 _ _ hl1
    have hl2' : ∀ v, v < n → upd H w' (.dK (dk (List.range n) f)) (ls v) = some (.lst (ms v)) := fun v hv => s1 _ _ (hl2 v hv)
    generalize upd H w' (.dK (dk (List.range n) f)) = H1 at *
    refine ⟨_, rfl, p, _, dx, _, rfl, b1, T.c_Levels, T.n_Levels_worths, (by show 0 < 1000; decide), ?_⟩
    have x2 : SameX p H1 (upd H1 p (.ins (He.ga K "Levels") dx (putF "worths" (.ref w') []))) := SameX.upd
    have b2 : upd H1 p (.ins (He.ga K "Levels") dx (putF "worths" (.ref w') [])) p = some (.ins (He.ga K "Levels") dx [("worths", .ref w')]) := by rw [upd_same]; rfl
    have npd : hd ≠ p := ne_of hl1' b1 (by intro z; cases z)
    have h2 := x2 _ _ npd hl1'
    have l2 : ∀ v, v < n → upd H1 p (.ins (He.ga K "Levels") dx (putF "worths" (.ref w') [])) (ls v) = some (.lst (ms v)) := fun v hv => x2 _ _ (ne_of (hl2' v hv) b1 (by intro z; cases z)) (hl2' v hv)
    generalize upd H1 p (.ins (He.ga K "Levels") dx (putF "worths" (.ref w') [])) = H2 at *
    refine ⟨hd, _, h2, trivial, fun od => ?_⟩
    have fx : upd H2 hd (.frz od (.dK (dk (List.range n) fun v => .ref (ls v)))) hd = some (.frz od (.dK (dk (List.range n) fun v => .ref (ls v)))) := upd_same
    have l3 : ∀ v, v < n → upd H2 hd (.frz od (.dK (dk (List.range n) fun v => .ref (ls v)))) (ls v) = some (.lst (ms v)) := fun v hv => by rw [upd_ne (ne_of (l2 v hv) h2 (by intro z; cases z))]; exact l2 v hv
    refine ⟨_, rfl, hd, od, _, rfl, fx, ?_⟩
    refine dc_pred (walk_itemsN' (d := hd) (o := od) (ks := List.range n) (f := fun v => .ref (ls v))) (fun i => i) (fun i j _ _ e => e) (fun i y H => ∃ q, y = .ref q ∧ H q = some (.lst (ms i))) (by rw [List.length_range]; omega) (fun H' s => s _ _ fx) ?_ ?_
    · rintro D' i x H3 H3' kvs R hi hD s3 ha ⟨T', t, ht, rfl, hT, rfl⟩ kk
      rw [List.length_range] at hi
      rw [List.getElem?_range hi] at ht
      cases ht
      have s4 := Same.new (o := .tup [vn i, .ref (ls i)]) hT
      refine ⟨T', _, rfl, SqT.of upd_same, rfl, _, _, rfl, _, _, rfl, rfl, rfl, _, rfl, _, rfl, ls i, _, rfl, .inl (SqL.of (s4 _ _ (s3 _ _ (l3 i hi)))), fun l hl => ?_⟩
      have nq : l ≠ D' := fun z => by
        have := s4 _ _ ha
        rw [← z, hl] at this; cases this
      exact kk _ _ (s4.trans (Same.new hl)) fun H6 s6 => ⟨l, rfl, s6 _ _ nq upd_same⟩
    · intro hd' g H3 hhd s3 e3 hg
      rw [List.length_range, dk_id] at e3
      rw [List.length_range] at hg
      refine ⟨s3 _ _ fx, ?_⟩
      have nhd : hd' ≠ hd := fun z => by rw [z, fx] at hhd; cases hhd
      have hq : ∀ i, ∃ q, i < n → g i = .ref q ∧ H3 q = some (.lst (ms i)) := fun i => by
        by_cases c : i < n
        · obtain ⟨q, h1, h2⟩ := hg i c
          exact ⟨q, fun _ => ⟨h1, h2⟩⟩
        · exact ⟨0, fun d => absurd d c⟩
      obtain ⟨qs, hqs⟩ : ∃ qs : Nat → Addr, ∀ i, i < n → g i = .ref (qs i) ∧ H3 (qs i) = some (.lst (ms i)) := ⟨fun i => (hq i).choose, fun i => (hq i).choose_spec⟩
      have e4 : upd H3 hd (.dK (dk (List.range n) fun v => .ref (ls v))) hd' = some (.dK (dk (List.range n) fun v => .ref (qs v))) := by
        rw [upd_ne nhd, e3]; congr 2
        exact dk_congr fun t ht => (hqs t (List.mem_range.mp ht)).1
      have q4 : ∀ i, i < n → upd H3 hd (.dK (dk (List.range n) fun v => .ref (ls v))) (qs i) = some (.lst (ms i)) := fun i hi => by
        rw [upd_ne (ne_of (hqs i hi).2 (s3 _ _ fx) (by intro z; cases z))]; exact (hqs i hi).2
      have s24 : Same H2 (upd H3 hd (.dK (dk (List.range n) fun v => .ref (ls v)))) := fun c o h => by
        by_cases z : c = hd
        · subst z; rw [upd_same, ← h, h2]
        · rw [upd_ne z]; exact s3 _ _ (by rw [upd_ne z]; exact h)
      generalize upd H3 hd (.dK (dk (List.range n) fun v => .ref (ls v))) = H4 at *
      have b4 := s24 _ _ b2
      refine ⟨_, rfl, p, _, dx, _, rfl, b4, T.c_Levels, T.n_Levels_heights, (by show 1 < 1000; decide), ?_⟩
      refine k _ (((s1.x.trans x2).trans s24.x).trans SameX.upd) ⟨dx, w', hd', by rw [upd_same]; rfl, qs, ?_, fun v hv => ?_⟩
      · rw [upd_ne (ne_of e4 b4 (by intro z; cases z))]; exact e4
      · rw [upd_ne (ne_of (q4 v hv) b4 (by intro z; cases z))]; exact q4 v hv
end
end K11
end
section
set_option Elab.async false
set_option linter.all false
set_option maxRecDepth 100000
set_option exponentiation.threshold 10000
namespace K11
open PySem PySem.Spec PyProof.Rows L2
open C8 (Cal Met Mak)
section
variable {P : Program} {w : World} {K : PySem.W.Frag} {mg : Str → Option Value} {base : Heap}
/-! ### levels -/
def FrL (H : Hp) (q : Addr) (num D : Int) : Prop := ∃ c d : Int, H q = some (.tup [.int c, .int d]) ∧ 0 < d ∧ d.natAbs < 2 ^ 321 ∧ c.natAbs < 2 ^ 410 ∧ c * D = num * d
theorem FrL.mt {H H' : Hp} {q : Addr} {num D : Int} (s : SameT H H') (h : FrL H q num D) : FrL H' q num D := let ⟨c, d, a, r⟩ := h; ⟨c, d, s _ _ a, r⟩
abbrev hgtN (N : Ch.Nt) (o v p : Nat) : Int := Ch.hgt (Ch.kn N v) (wnum N o v) (Ch.wth (wnum N o) (Ch.dt N) o) p
def HtsOf (H : Hp) (N : Ch.Nt) (o v r : Nat) (ys : List V) : Prop := ys.length = r ∧ ∀ p, p < r → ∃ q : Addr, ys[p]? = some (V.ref q) ∧ FrL H q (hgtN N o v p) (Ch.dt N)
theorem HtsOf.mt {H H' : Hp} {N : Ch.Nt} {o v r : Nat} {ys : List V} (s : SameT H H') (h : HtsOf H N o v r ys) : HtsOf H' N o v r ys := ⟨h.1, fun p hp => let ⟨q, a, b⟩ := h.2 p hp; ⟨q, a, b.mt s⟩⟩
def sp_levels (K : PySem.W.Frag) : Sp := fun vs H Q _ => ∃ (a : Addr) (N : Ch.Nt) (o : Nat), vs = [.ref a, vn o] ∧ (o = 4 ∨ o = 5) ∧ NetAt K H a N ∧ Ch.Drawn N ∧ Ch.EndsN N ∧
  ∀ p ms H', Same H H' → LvAt K H' p N.length ms → (∀ v, v < N.length → HtsOf H' N o v (Ch.kn N v).len (ms v)) → Q (.ref p) H'
theorem sc_levels : FnScope ["net", "outlet", "worths", "whole", "heights", "name", "above", "below", "drop", "own", "high", "found"] ["net", "outlet"] d_levels.scope := ⟨rfl, rfl, rfl, by decide +kernel, rfl, by decide +kernel, by decide +kernel⟩
/-- what stands behind the heights of i knots -/
structure LI (H0 H : Hp) (N : Ch.Nt) (o : Nat) (hd : Addr) (i : Nat) (ls : Nat → Addr) (ms : Nat → List V) : Prop where
  sm : Same H0 H
  hd_ : H hd = some (.dK (dk (List.range i) fun v => .ref (ls v)))
  ls_ : ∀ v, v < i → H (ls v) = some (.lst (ms v)) ∧ HtsOf H N o v (Ch.kn N v).len (ms v)
theorem LI.mono {H0 H H' : Hp} {N : Ch.Nt} {o i : Nat} {hd : Addr} {ls : Nat → Addr} {ms : Nat → List V} (s : Same H H') (h : LI H0 H N o hd i ls ms) : LI H0 H' N o hd i ls ms :=
  ⟨h.sm.trans s, s _ _ h.hd_, fun v hv => ⟨s _ _ (h.ls_ v hv).1, (h.ls_ v hv).2.mt s.t⟩⟩
theorem LI.app {H0 H : Hp} {N : Ch.Nt} {o i : Nat} {hd l : Addr} {ls : Nat → Addr} {ms : Nat → List V} {ys zs : List V} (h : LI H0 H N o hd i ls ms) (l0 : H0 l = none) (e : H l = some (.lst ys)) (hn : ∀ v, v < i → ls v ≠ l) : LI H0 (upd H l (.lst zs)) N o hd i ls ms :=
  ⟨h.sm.mut l0, by rw [upd_ne (ne_of h.hd_ e (by intro z; cases z))]; exact h.hd_, fun v hv => ⟨by rw [upd_ne (hn v hv)]; exact (h.ls_ v hv).1, (h.ls_ v hv).2.mt (SameT.lst e)⟩⟩
theorem LI.put {H0 H : Hp} {N : Ch.Nt} {o i : Nat} {hd l : Addr} {ls : Nat → Addr} {ms : Nat → List V} {ys : List V} (h : LI H0 H N o hd i ls ms) (d0 : H0 hd = none) (hi : i ≤ 4) (e : H l = some (.lst ys)) (hy : HtsOf H N o i (Ch.kn N i).len ys) :
    ∃ H', DPut H hd (vn i) (.ref l) H' ∧ LI H0 H' N o hd (i + 1) (fun v => if v = i then l else ls v) (fun v => if v = i then ys else ms v) := by
  refine ⟨_, DPut.n h.hd_ i (.ref l) (by rw [List.length_range]; omega), h.sm.mut d0, ?_, fun v hv => ?_⟩
  · have e : kput (List.range i) i = List.range (i + 1) := by
      unfold kput
      rw [if_neg (by rw [List.mem_range]; omega), List.range_succ]
    rw [upd_same, e]
    congr 2
    exact dk_congr fun t _ => by
      unfold fput
      by_cases c : t = i
      · rw [if_pos c, if_pos c]
      · rw [if_neg c, if_neg c]
  · have mt : ∀ l, SameT H (upd H hd (.dK l)) := fun l => SameT.dk h.hd_
    by_cases c : v = i
    · subst c
      simp only [if_pos]
      exact ⟨by rw [upd_ne (ne_of e h.hd_ (by intro z; cases z))]; exact e, hy.mt (mt _)⟩
    · simp only [if_neg c]
      exact ⟨by rw [upd_ne (ne_of (h.ls_ v (by omega)).1 h.hd_ (by intro z; cases z))]; exact (h.ls_ v (by omega)).1, (h.ls_ v (by omega)).2.mt (mt _)⟩
set_option maxHeartbeats 2000000 in
theorem ok_levels (T : Txt K mg) (c_Levels_init : Mak P w K mg base 1 "Levels" (He.ga K "Levels") (sp_Levels_init K) []) (c_drops_of : Cal P w K mg base 1 "drops_of" (sp_drops_of K) []) (c_worth_of : Cal P w K mg base 1 "worth_of" (sp_worth_of K) []) (c_lowered : Cal P w K mg base 2 "lowered" sp_lowered []) (c_shares : Cal P w K mg base 5 "shares" (sp_shares K) []) : Cal P w K mg base 6 "levels" (sp_levels K) [] := by
  refine cal_mk d_levels T.d_levels T.g_levels sc_levels (fun vs H Q E h => ?_) (fun _ _ _ _ _ _ us hl => match us, hl with | [_, _], _ => rfl) (fun cdv A outer s H vs Q E hr h => ?_)
  · obtain ⟨_, _, _, rfl, _⟩ := h
    rfl
  · have hu := hu_of hr
    obtain ⟨a, N, o, rfl, ho, hN, D, e, k⟩ := h
    have n1 := D.n1
    have n4 := D.n4
    refine ⟨_, (pss_cons (ps_set (i := 2) sc_levels.nd rfl (Or.inl rfl) (pe_fld (C8.pe_c c_shares hr (by decide) rfl (pa_cons (pv 0) (pa_cons (pv 1) pa_nil))) rfl))
      (pss_cons (ps_set (i := 3) sc_levels.nd rfl (Or.inl rfl) pe_int)
      (pss_cons (ps_lock (ps_for PassesOwn.never rfl (pi_values (pv 2)) (pg_tup rfl (pgs_cons (pg_name (i := 6) sc_levels.nd rfl (Or.inl rfl)) (pgs_cons (pg_name (i := 7) sc_levels.nd rfl (Or.inl rfl)) pgs_nil)))
      (pss_one (ps_set (i := 3) sc_levels.nd rfl (Or.inl rfl) (pe_ifExp (pt_cmpR op_eq (pe_op op_mod (pv 3) (pv 7)) pe_int (nomark _)) (pv 3) (pe_op op_mulW (pv 3) (pv 7)))))))
      (pss_cons (ps_set (i := 4) sc_levels.nd rfl (Or.inl rfl) pe_dnewK)
      (pss_cons (ps_for PassesOwn.never rfl (pi_list (pe_fld (pv 0) rfl)) (pg_name (i := 5) sc_levels.nd rfl (Or.inl rfl))
      (pss_cons (ps_par3 (i := 9) (j := 10) (l := 11) rfl sc_levels.nd rfl rfl rfl (by decide) (by decide) (by decide) rfl rfl rfl (pa_cons (pe_op op_mulW (pe_ix ix_tup (pe_dget hu (pv 2) (pv 5) (fun _ _ => rfl)) pe_int (fun _ _ => rfl)) (pe_op op_fdivW (pv 3) (pe_ix ix_tup (pe_dget hu (pv 2) (pv 5) (fun _ _ => rfl)) pe_int (fun _ _ => rfl)))) (pa_cons pe_int (pa_cons (pe_lst pa_nil) pa_nil))) (by rfl))
        (pss_cons (ps_for PassesOwn.never rfl (pi_list (C8.pe_c c_drops_of hr (by decide) rfl (pa_cons (pv 0) (pa_cons (pv 5) pa_nil)))) (pg_name (i := 8) sc_levels.nd rfl (Or.inl rfl))
        (pss_cons (ps_expr (pe_bm PySem.F.plainAttrs_list PySem.F.slot_list_append PySem.F.type_list_append mt_append (pv 11) (pa_cons (C8.pe_c c_lowered hr (by decide) rfl (pa_cons (pv 10) (pa_cons (pv 3) pa_nil))) pa_nil)))
          (pss_one (ps_aug (i := 10) sc_levels.nd rfl (Or.inl rfl) (pe_op op_sub (pv 9) (C8.pe_c c_worth_of hr (by decide) rfl (pa_cons (pv 8) (pa_cons (pv 1) (pa_cons (pv 2) (pa_cons (pv 3) pa_nil)))))) ip_add))))
        (pss_one (ps_dput hu (pv 4) (pv 5) (pv 11) rfl)))))
      (pss_one (ps_ret (C8.pe_mk c_Levels_init hr (by decide) rfl (pa_cons (pv 2) (pa_cons (pv 4) pa_nil)))))))))), ?_⟩
    refine ⟨_, rfl, _, rfl, a, N, o, rfl, ho, hN, D, e, fun ps H1 s1 ⟨dxs, wd, eps, qs, ew, hq⟩ => ?_⟩
    obtain ⟨j, dx, kd, id, ot, nl, O⟩ := hN
    refine ⟨ps, _, dxs, _, _, rfl, eps, T.c_Shares, T.n_Shares_worths, rfl, ?_⟩
    have dp := e.dt
    have ds := Ch.dt_small D e
    -- the fractions
    have hcd : ∀ v, ∃ cd : Int × Int, v < N.length → H1 (qs v) = some (.tup [.int cd.1, .int cd.2]) ∧ 0 < cd.2 ∧ cd.2 ≤ Ch.dt N ∧ cd.1.natAbs ≤ (wnum N o v).natAbs ∧ cd.1 * Ch.dt N = wnum N o v * cd.2 := fun v => by
      by_cases hv : v < N.length
      · obtain ⟨c, d, h⟩ := hq v hv
        exact ⟨(c, d), fun _ => h⟩
      · exact ⟨(0, 0), fun z => absurd z hv⟩
    obtain ⟨c, hc⟩ : ∃ c : Nat → Int, ∃ d : Nat → Int, ∀ v, v < N.length → H1 (qs v) = some (.tup [.int (c v), .int (d v)]) ∧ 0 < d v ∧ d v ≤ Ch.dt N ∧ (c v).natAbs ≤ (wnum N o v).natAbs ∧ c v * Ch.dt N = wnum N o v * d v := ⟨fun v => ((hcd v).choose).1, fun v => ((hcd v).choose).2, fun v => (hcd v).choose_spec⟩
    obtain ⟨d, hc⟩ := hc
    have c80 : ∀ v, v < N.length → (c v).natAbs < 2 ^ 80 := fun v hv => Nat.lt_of_le_of_lt (hc v hv).2.2.2.1 (wnum_small D e v)
    have d80 : ∀ v, v < N.length → (d v).natAbs < 2 ^ 80 := fun v hv => by have := (hc v hv).2.1; have := (hc v hv).2.2.1; omega
    -- whole
    refine ⟨wd, _, ew, trivial, fun od => ?_⟩
    have fx : upd H1 wd (.frz od (.dK (dk (List.range N.length) fun v => .ref (qs v)))) wd = some (.frz od (.dK (dk (List.range N.length) fun v => .ref (qs v)))) := upd_same
    refine ⟨_, rfl, wd, od, _, rfl, fx, ?_⟩
    refine fr_it (walk_valsN (d := wd) (o := od) (ks := List.range N.length) (f := fun v => .ref (qs v))) (fun i σ H' => H' = upd H1 wd (.frz od (.dK (dk (List.range N.length) fun v => .ref (qs v)))) ∧ ∃ (W : Int) (v6 v7 : Option V), σ = [some (.ref a), some (vn o), some (.ref wd), some (.int W), none, none, v6, v7, none, none, none, none] ∧ 0 < W ∧ W.natAbs < 2 ^ (80 * i + 1) ∧ ∀ v, v < i → d v ∣ W) ?_ ?_ ?_ ?_
    · exact ⟨rfl, 1, none, none, rfl, by decide, by decide, fun v hv => absurd hv (Nat.not_lt_zero _)⟩
    · rintro i σ H' _ ⟨rfl, _⟩
      exact fx
    · rintro i x σ H' H'' hi ⟨rfl, W, v6, v7, rfl, W0, Wb, Wd⟩ ⟨rfl, t, ht, rfl⟩
      rw [List.length_range] at hi
      rw [List.getElem?_range hi] at ht
      cases ht
      obtain ⟨e1, d0, _⟩ := hc i hi
      have e2 : upd H1 wd (.frz od (.dK (dk (List.range N.length) fun v => .ref (qs v)))) (qs i) = some (.tup [.int (c i), .int (d i)]) := by rw [upd_ne (ne_of e1 ew (by intro z; cases z))]; exact e1
      refine ⟨qs i, _, rfl, SqT.of e2, rfl, _, _, rfl, _, _, rfl, rfl, ?_⟩
      refine ⟨_, rfl, _, rfl, _, _, rfl, rfl, d0, rfl, _, rfl, ?_⟩
      refine ite2 (fun cc => ?_) (fun cc => ?_)
      · have hm : W % d i = 0 := V.int.inj (of_decide_eq_true cc)
        refine ⟨_, rfl, rfl, W, _, _, rfl, W0, Nat.lt_of_lt_of_le Wb (Nat.pow_le_pow_right (by decide) (by omega)), fun v hv => ?_⟩
        by_cases z : v = i
        · subst z; exact Int.dvd_of_emod_eq_zero hm
        · exact Wd v (by omega)
      · refine ⟨_, rfl, _, rfl, _, _, rfl, rfl, wide_mul Wb (d80 i hi) (by omega) (by decide) (by omega), rfl, W * d i, _, _, rfl, Int.mul_pos W0 d0, ?_, fun v hv => ?_⟩
        · have := wide_lt Wb (d80 i hi)
          have e : 80 * i + 1 + 80 = 80 * (i + 1) + 1 := by omega
          rw [e] at this; exact this
        · by_cases z : v = i
          · subst z; exact Int.dvd_mul_left _ _
          · exact Int.dvd_trans (Wd v (by omega)) (Int.dvd_mul_right _ _)
    rintro σ H' ⟨rfl, W, v6, v7, rfl, W0, Wb, Wd⟩
    rw [List.length_range] at Wb Wd
    replace Wb : W.natAbs < 2 ^ 321 := Nat.lt_of_lt_of_le Wb (Nat.pow_le_pow_right (by decide) (by omega))
    refine ⟨fx, ?_⟩
    rw [upd_upd, upd_self ew]
    clear fx
    -- heights
    intro hd hhd
    have s2 := Same.new (o := .dK []) hhd
    have L0 : LI H1 (upd H1 hd (.dK [])) N o hd 0 (fun _ => 0) (fun _ => []) := ⟨s2, upd_same, fun v hv => absurd hv (Nat.not_lt_zero _)⟩
    have O1 := O.mono s1
    have O2 := O1.mono s2
    generalize upd H1 hd (.dK []) = H2 at *
    refine ⟨_, rfl, a, _, dx, _, _, rfl, O2.ob, T.c_Net, T.n_Net_names, rfl, nl, rfl, ⟨_, SqL.of O2.nl⟩, ?_⟩
    refine for_list (K := K) (a := nl) (xs := (List.range N.length).map vn) (fun i σ H' => ∃ (ls : Nat → Addr) (ms : Nat → List V) (v5 v8 v9 v10 v11 : Option V), σ = [some (.ref a), some (vn o), some (.ref wd), some (.int W), some (.ref hd), v5, v6, v7, v8, v9, v10, v11] ∧ LI H1 H' N o hd i ls ms) ?_ ?_ ?_ ?_
    · exact ⟨_, _, none, none, none, none, none, rfl, L0⟩
    · rintro i σ H' _ ⟨_, _, _, _, _, _, _, _, L⟩
      exact SqL.of (L.sm _ _ O1.nl)
    · rintro i x σ H3 hx ⟨ls, ms, v5, v8, v9, v10, v11, rfl, L⟩
      have hi : i < N.length := by
        have := (List.getElem?_eq_some_iff.mp hx).1
        rw [mlen] at this; exact this
      rw [mget _ hi] at hx
      cases hx
      obtain ⟨e1, d0, _, _, ceq⟩ := hc i hi
      obtain ⟨wi, hwi⟩ := Wd i hi
      have ew3 := L.sm _ _ ew
      have eq3 := L.sm _ _ e1
      have g3 := DGet.in_ ew3 (List.mem_range.mpr hi)
      have wq : (W / d i).natAbs < 2 ^ 321 := Nat.lt_of_le_of_lt (Ch.natAbs_ediv_le d0) Wb
      have cW : ∀ v, v < N.length → CDivW W (d v) := fun v hv => wide_div (b := 80) (hc v hv).2.1 (d80 v hv) (by decide) (by decide)
      have cM : ∀ v, v < N.length → CMulW (c v) (W / d v) := fun v hv => wide_mul (c80 v hv) (Nat.lt_of_le_of_lt (Ch.natAbs_ediv_le (hc v hv).2.1) Wb) (by decide) (by decide) (by decide)
      refine ⟨_, rfl, _, rfl, wd, _, rfl, g3, qs i, _, _, _, rfl, rfl, SqT.of eq3, at0, _, rfl, _, rfl, _, rfl, wd, _, rfl, g3, qs i, _, _, _, rfl, rfl, SqT.of eq3, at1, _, _, rfl, rfl, cW i hi, _, _, rfl, rfl, cM i hi, (by show 0 ≤ sizeLine; exact Nat.zero_le _), fun l hl => ⟨_, _, _, rfl, ?_⟩⟩
      have s4 := Same.new (o := .lst []) hl
      have L4 := L.mono s4
      have hl1 : H1 l = none := L.sm.free hl
      have el4 : upd H3 l (.lst []) l = some (.lst []) := upd_same
      have hnl : ∀ v, v < i → ls v ≠ l := fun v hv => ne_of_none (L.ls_ v hv).1 hl
      generalize upd H3 l (.lst []) = H4 at *
      have O4 := O1.mono L4.sm
      have k100 : (Ch.kn N i).len ≤ 100 := by have := D.len7 i; omega
      refine ⟨_, rfl, _, rfl, a, N, i, rfl, ⟨j, dx, kd, id, ot, nl, O4⟩, hi, k100, fun p A H5 hp s5 e5 hA => ?_⟩
      have L5 := L4.mono s5
      have el5 := s5 _ _ el4
      have npl : p ≠ l := fun z => by rw [z, el4] at hp; cases hp
      -- own
      obtain ⟨own, hown⟩ : ∃ own : Int, own = c i * (W / d i) := ⟨_, rfl⟩
      have ownb : own.natAbs < 2 ^ 401 := by rw [hown]; exact wide_lt (c80 i hi) wq
      have owneq : Ch.dt N * own = W * wnum N o i := by
        rw [hown, hwi, Int.mul_ediv_cancel_left _ (by omega), ← Int.mul_assoc, Int.mul_comm (Ch.dt N), ceq, Int.mul_comm (wnum N o i), Int.mul_assoc, Int.mul_assoc, Int.mul_comm (wnum N o i)]
      have wthb : ∀ dr : List Nat, dr.length ≤ 2 → ((dr.map (wth o N.length c d W)).sum).natAbs ≤ 2 * 2 ^ 401 := fun dr hdr => by
        refine Nat.le_trans (sum_bd (B := 2 ^ 401) fun t ht => ?_) (Nat.mul_le_mul_right _ hdr)
        unfold wth
        split
        · exact Nat.le_of_lt (Nat.lt_of_lt_of_le Wb (Nat.pow_le_pow_right (by decide) (by decide)))
        · split
          · rename_i _ htn
            exact Nat.le_of_lt (wide_lt (c80 t htn) (Nat.lt_of_le_of_lt (Ch.natAbs_ediv_le (hc t htn).2.1) Wb))
          · exact Nat.zero_le _
      refine ⟨p, rfl, ⟨_, SqL.of e5⟩, ?_⟩
      refine for_list (K := K) (a := p) (xs := rws (Ch.kn N i).len A) (fun r σ H' => ∃ (hg : Int) (ys : List V) (v8 : Option V), σ = [some (.ref a), some (vn o), some (.ref wd), some (.int W), some (.ref hd), some (vn i), v6, v7, v8, some (.int own), some (.int hg), some (.ref l)] ∧
        LI H1 H' N o hd i ls ms ∧ H' p = some (.lst (rws (Ch.kn N i).len A)) ∧ (∀ i' dr, (Ch.kn N i).ds[i']? = some dr → DropAt H' (A i') dr) ∧ H' l = some (.lst ys) ∧ HtsOf H' N o i r ys ∧ Ch.dt N * hg = W * hgtN N o i r ∧ hg.natAbs ≤ r * 2 ^ 404) ?_ ?_ ?_ ?_
      · refine ⟨0, [], v8, by rw [hown]; rfl, L5, e5, hA, el5, ⟨rfl, fun p hp => absurd hp (Nat.not_lt_zero _)⟩, ?_, by simp⟩
        show Ch.dt N * 0 = W * 0
        simp
      · rintro r σ H' _ ⟨_, _, _, _, _, e, _⟩
        exact SqL.of e
      · rintro r x σ H6 hx ⟨hg, ys, v8, rfl, L6, e6, hA6, el6, hts, heq, hgb⟩
        have hr : r < (Ch.kn N i).len := by
          have := (List.getElem?_eq_some_iff.mp hx).1
          rw [rws_len] at this; exact this
        rw [rws_get A hr] at hx
        cases hx
        have hr7 : r < 7 := by have := D.len7 i; omega
        obtain ⟨dr, hdr⟩ : ∃ dr, (Ch.kn N i).ds[r]? = some dr := ⟨_, List.getElem?_eq_getElem (by rw [Ch.ds_length]; exact hr)⟩
        have hmem := List.mem_of_getElem? hdr
        refine ⟨_, rfl, .inl ⟨rfl, _, SqL.of el6⟩, _, rfl, _, rfl, hg, W, rfl, W0, Nat.lt_trans Wb (Nat.pow_lt_pow_right (by decide) (by decide)), fun c' d' q d'0 d'le c'le c'eq hq' => ?_⟩
        have s7 := Same.new (o := .tup [.int c', .int d']) hq'
        have eq7 : upd H6 q (.tup [.int c', .int d']) q = some (.tup [.int c', .int d']) := upd_same
        have L7 := L6.mono s7
        have el7 := s7 _ _ el6
        have e7 := s7 _ _ e6
        have hA7 := (hA6 r dr hdr).mono s7
        have hts7 := hts.mt s7.t
        have hAall7 : ∀ i' dr, (Ch.kn N i).ds[i']? = some dr → DropAt (upd H6 q (.tup [.int c', .int d'])) (A i') dr := fun i' dr h => (hA6 i' dr h).mono s7
        have fr : FrL (upd H6 q (.tup [.int c', .int d'])) q (hgtN N o i r) (Ch.dt N) := by
          refine ⟨c', d', eq7, d'0, Nat.lt_of_le_of_lt (by omega) Wb, ?_, ?_⟩
          · refine Nat.lt_of_le_of_lt (Nat.le_trans c'le hgb) ?_
            calc r * 2 ^ 404 ≤ 7 * 2 ^ 404 := Nat.mul_le_mul_right _ (by omega)
              _ < 2 ^ 410 := by decide
          · have : W * (c' * Ch.dt N) = W * (hgtN N o i r * d') := by
              calc W * (c' * Ch.dt N) = (c' * W) * Ch.dt N := by rw [← Int.mul_assoc, Int.mul_comm W c']
                _ = (hg * d') * Ch.dt N := by rw [c'eq]
                _ = (Ch.dt N * hg) * d' := by rw [Int.mul_comm (hg * d'), Int.mul_assoc]
                _ = W * (hgtN N o i r * d') := by rw [heq, Int.mul_assoc]
            exact Int.eq_of_mul_eq_mul_left (by omega) this
        generalize upd H6 q (.tup [.int c', .int d']) = H7 at *
        have mt : SameT H7 (upd H7 l (.lst (ys ++ [.ref q]))) := SameT.lst el7
        refine ⟨l, _, _, rfl, rfl, el7, (by rw [hts7.1]; exact sz5 (by omega)), ?_⟩
        have L8 := L7.app (zs := ys ++ [.ref q]) hl1 el7 hnl
        have e8 : upd H7 l (.lst (ys ++ [.ref q])) p = some (.lst (rws (Ch.kn N i).len A)) := by rw [upd_ne npl]; exact e7
        refine ⟨_, rfl, _, rfl, _, rfl, _, rfl, _, rfl, _, rfl, A r, wd, dr, o, N.length, c, d, W, rfl, by omega, by omega, fun t ht => Drawn8 D hi dr hmem t ht, hA7.mt mt, ⟨qs, L8.sm _ _ ew, fun v hv => L8.sm _ _ (hc v hv).1⟩, fun v hv => ⟨cW v hv, cM v hv⟩, ?_⟩
        have hsum := wth_sum (n := N.length) (o := o) (c := c) (d := d) (num := wnum N o) (D := Ch.dt N) (W := W) n4 (by omega) (fun v hv => (hc v hv).2.2.2.2) (fun v hv => ⟨Wd v hv, (hc v hv).2.1⟩) (dr := dr) (fun t ht => D.tg i hi dr hmem t ht)
        have hsb := wthb dr (D.dr2 i hi dr hmem)
        have edr : Ch.dr (Ch.kn N i) r = dr := by
          unfold Ch.dr; rw [List.getD_eq_getElem?_getD, hdr]; rfl
        generalize (dr.map (wth o N.length c d W)).sum = sw at *
        refine ⟨_, _, rfl, rfl, _, _, rfl, rfl, hg + (own - sw), ys ++ [.ref q], some (.ref (A r)), rfl, L8, e8, fun i' dr' h => (hAall7 i' dr' h).mt mt, upd_same, ⟨by rw [List.length_append, hts7.1]; rfl, fun p' hp' => ?_⟩, ?_, ?_⟩
        · by_cases z : p' = r
          · subst z
            exact ⟨q, by rw [List.getElem?_append_right (by rw [hts7.1]; exact Nat.le_refl _), hts7.1, Nat.sub_self]; rfl, fr.mt mt⟩
          · obtain ⟨q', h1, h2⟩ := hts7.2 p' (by omega)
            exact ⟨q', by rw [List.getElem?_append_left (by rw [hts7.1]; omega)]; exact h1, h2.mt mt⟩
        · show Ch.dt N * (hg + (own - sw)) = W * (Ch.hgt _ _ _ r + (wnum N o i - Ch.wth (wnum N o) (Ch.dt N) o (Ch.dr (Ch.kn N i) r)))
          rw [edr, Int.mul_add, Int.mul_sub, Int.mul_add, Int.mul_sub, heq, owneq, hsum]
        · have : 2 ^ 401 + 2 * 2 ^ 401 ≤ 2 ^ 404 := by decide
          have e1 : (r + 1) * 2 ^ 404 = r * 2 ^ 404 + 2 ^ 404 := by rw [Nat.add_mul, Nat.one_mul]
          rw [e1]
          generalize 2 ^ 404 = B4 at *
          generalize 2 ^ 401 = B1 at *
          generalize r * B4 = rB at *
          omega
      · rintro σ H6 ⟨hg, ys, v8, rfl, L6, e6, hA6, el6, hts, heq, hgb⟩
        rw [rws_len] at hts
        have hhd1 : H1 hd = none := hhd
        obtain ⟨H7, g7, L7⟩ := L6.put hhd1 (by omega) el6 hts
        exact ⟨_, rfl, _, rfl, _, rfl, hd, H7, rfl, g7, _, _, _, _, _, _, _, rfl, L7⟩
    · rintro σ H3 ⟨ls, ms, v5, v8, v9, v10, v11, rfl, L⟩
      rw [mlen] at L
      refine ⟨_, rfl, _, rfl, fun x dx' hx hdx hne => ?_⟩
      have m0 := made0 (C := He.ga K "Levels") (u := .own x) hx hdx
      have LS : LsAt H3 hd N.length ms := ⟨ls, L.hd_, fun v hv => (L.ls_ v hv).1⟩
      refine ⟨x, dx', wd, hd, N.length, _, ms, rfl, upd_same, m0 _ _ (L.sm _ _ ew), LS.mono m0, n4, fun v hv => ?_, fun H6 sx r => ⟨rfl, ?_⟩⟩
      · have := (L.ls_ v hv).2.1
        have := D.len7 v
        omega
      · have sm := made (K := K) hx hdx hne sx
        exact k x ms H6 ((s1.trans L.sm).trans sm) r fun v hv => (L.ls_ v hv).2.mt sm.t
end
end K11
end
section
set_option Elab.async false
set_option linter.all false
set_option maxRecDepth 100000
set_option exponentiation.threshold 10000
namespace K11
open PySem PySem.Spec PyProof.Rows L2
open C8 (Cal Met Mak)
section
variable {P : Program} {w : World} {K : PySem.W.Frag} {mg : Str → Option Value} {base : Heap}
/-! ### lag -/
abbrev levN (N : Ch.Nt) (o : Nat) (s : Nat → Nat) : Int := Ch.lev N (wnum N o) (Ch.dt N) o s
theorem lev_sum {N : Ch.Nt} (D : Ch.Drawn N) {o : Nat} {s : Nat → Nat} (hs : Ch.Stg N s) : Ch.sumN N.length (fun v => hgtN N o v (s v)) = levN N o s := by
  show _ = Ch.S4i _
  refine Ch.sumN_S4i D.n4 fun v h1 _ => ?_
  rw [hs.out h1]; rfl
theorem pow_ab {k : Nat} : 2 ^ (412 * k + 1 + 321) + 2 ^ (410 + (412 * k + 1)) ≤ 2 ^ (412 * (k + 1) + 1) := by
  have e1 : 2 ^ (412 * k + 1 + 321) ≤ 2 ^ (412 * k + 411) := Nat.pow_le_pow_right (by decide) (by omega)
  have e2 : 2 ^ (410 + (412 * k + 1)) = 2 ^ (412 * k + 411) := by congr 1; omega
  have e3 : 2 ^ (412 * (k + 1) + 1) = 2 ^ (412 * k + 411) * 4 := by
    have : 412 * (k + 1) + 1 = 412 * k + 411 + 2 := by omega
    rw [this, Nat.pow_add]
  rw [e2, e3]
  generalize 2 ^ (412 * k + 411) = B at *
  generalize 2 ^ (412 * k + 1 + 321) = B' at *
  omega
def sp_lag (K : PySem.W.Frag) : Sp := fun vs H Q _ => ∃ (a s1 s2 : Addr) (N : Ch.Nt) (o : Nat) (f1 f2 : Nat → Nat), vs = [.ref a, vn o, .ref s1, .ref s2] ∧ (o = 4 ∨ o = 5) ∧ NetAt K H a N ∧ Ch.Drawn N ∧ Ch.EndsN N ∧ StdAt H s1 N.length f1 ∧ StdAt H s2 N.length f2 ∧ Ch.Stg N f1 ∧ Ch.Stg N f2 ∧
  ∀ p (c d : Int) H', Same H H' → H' p = some (.tup [.int c, .int d]) → 0 < d → d.natAbs < 2 ^ 3300 → c.natAbs < 2 ^ 3300 → c * Ch.dt N = (levN N o f2 - levN N o f1) * d → Q (.ref p) H'
theorem sc_lag : FnScope ["net", "outlet", "one", "other", "told", "name", "above", "below", "standing", "sign", "more"] ["net", "outlet", "one", "other"] d_lag.scope := ⟨rfl, rfl, rfl, by decide +kernel, rfl, by decide +kernel, by decide +kernel⟩
set_option maxHeartbeats 2000000 in
theorem ok_lag (T : Txt K mg) (c_lowered : Cal P w K mg base 2 "lowered" sp_lowered []) (c_Net_check_standing : Met P w K mg base 2 (He.ga K "Net") "check_standing" (sp_Net_check_standing K) []) (c_levels : Cal P w K mg base 6 "levels" (sp_levels K) []) : Cal P w K mg base 7 "lag" (sp_lag K) [] := by
  refine cal_mk d_lag T.d_lag T.g_lag sc_lag (fun vs H Q E h => ?_) (fun _ _ _ _ _ _ us hl => match us, hl with | [_, _, _, _], _ => rfl) (fun cdv A outer s H vs Q E hr h => ?_)
  · obtain ⟨_, _, _, _, _, _, _, rfl, _⟩ := h
    rfl
  · have hu := hu_of hr
    obtain ⟨a, s1, s2, N, o, f1, f2, rfl, ho, hN, D, e, hs1, hs2, st1, st2, k⟩ := h
    have n1 := D.n1
    have n4 := D.n4
    refine ⟨_, (pss_cons (ps_set (i := 4) sc_lag.nd rfl (Or.inl rfl) (C8.pe_c c_levels hr (by decide) rfl (pa_cons (pv 0) (pa_cons (pv 1) pa_nil))))
      (pss_cons (ps_expr (C8.pe_mt c_Net_check_standing hr (by decide) (pv 0) (pa_cons (pv 2) pa_nil)))
      (pss_cons (ps_expr (C8.pe_mt c_Net_check_standing hr (by decide) (pv 0) (pa_cons (pv 3) pa_nil)))
      (pss_cons (ps_asg (pe_tup (pa_cons pe_int (pa_cons pe_int pa_nil))) (pg_tup rfl (pgs_cons (pg_name (i := 6) sc_lag.nd rfl (Or.inl rfl)) (pgs_cons (pg_name (i := 7) sc_lag.nd rfl (Or.inl rfl)) pgs_nil))))
      (pss_cons (ps_for PassesOwn.never rfl (pi_list (pe_fld (pv 0) rfl)) (pg_name (i := 5) sc_lag.nd rfl (Or.inl rfl))
      (pss_one (ps_for PassesOwn.never rfl (pi_tup (pe_tup (pa_cons (pe_tup (pa_cons (pv 3) (pa_cons pe_int pa_nil))) (pa_cons (pe_tup (pa_cons (pv 2) (pa_cons (pe_un un_neg pe_int) pa_nil))) pa_nil)))) (pg_tup rfl (pgs_cons (pg_name (i := 8) sc_lag.nd rfl (Or.inl rfl)) (pgs_cons (pg_name (i := 9) sc_lag.nd rfl (Or.inl rfl)) pgs_nil)))
        (pss_cons (ps_set (i := 10) sc_lag.nd rfl (Or.inl rfl) (pe_ix ix_list (pe_dget hu (pe_fld (pv 4) rfl) (pv 5) (fun _ _ => rfl)) (pe_dget hu (pv 8) (pv 5) (fun _ _ => rfl)) (fun _ _ => rfl)))
          (pss_one (ps_asg (C8.pe_c c_lowered hr (by decide) rfl (pa_cons (pe_op op_add (pe_op op_mulW (pv 6) (pe_ix ix_tup (pv 10) pe_int (fun _ _ => rfl))) (pe_op op_mulW (pe_op op_mulW (pv 9) (pe_ix ix_tup (pv 10) pe_int (fun _ _ => rfl))) (pv 7))) (pa_cons (pe_op op_mulW (pv 7) (pe_ix ix_tup (pv 10) pe_int (fun _ _ => rfl))) pa_nil))) (pg_tup rfl (pgs_cons (pg_name (i := 6) sc_lag.nd rfl (Or.inl rfl)) (pgs_cons (pg_name (i := 7) sc_lag.nd rfl (Or.inl rfl)) pgs_nil)))))))))
      (pss_one (ps_ret (pe_tup (pa_cons (pv 6) (pa_cons (pv 7) pa_nil)))))))))), ?_⟩
    refine ⟨_, rfl, _, rfl, a, N, o, rfl, ho, hN, D, e, fun pl ms H1 s01 ⟨dxl, wd, hd, epl, ls, ehd, els⟩ hts => ?_⟩
    obtain ⟨j, dx, kd, id, ot, nl, O⟩ := hN
    have O1 := O.mono s01
    have hs1' := hs1.mono s01
    have hs2' := hs2.mono s01
    refine ⟨_, rfl, a, dx, _, rfl, O1.ob, rfl, _, rfl, a, s1, N, f1, rfl, ⟨j, dx, kd, id, ot, nl, O1⟩, hs1', fun v _ => st1 v, ?_⟩
    refine ⟨_, rfl, a, dx, _, rfl, O1.ob, rfl, _, rfl, a, s2, N, f2, rfl, ⟨j, dx, kd, id, ot, nl, O1⟩, hs2', fun v _ => st2 v, ?_⟩
    refine ⟨(by show 2 ≤ sizeLine; decide), fun q0 hq0 => ⟨q0, _, rfl, SqT.of upd_same, rfl, _, _, rfl, _, _, rfl, rfl, ?_⟩⟩
    have sq := Same.new (o := .tup [.int 0, .int 1]) hq0
    have els' : ∀ v, v < N.length → upd H1 q0 (.tup [.int 0, .int 1]) (ls v) = some (.lst (ms v)) := fun v hv => sq _ _ (els v hv)
    have hts' : ∀ v, v < N.length → HtsOf (upd H1 q0 (.tup [.int 0, .int 1])) N o v (Ch.kn N v).len (ms v) := fun v hv => (hts v hv).mt sq.t
    replace epl := sq _ _ epl
    replace ehd := sq _ _ ehd
    replace O1 := O1.mono sq
    replace hs1' := hs1'.mono sq
    replace hs2' := hs2'.mono sq
    replace s01 := s01.trans sq
    clear els hts hq0 sq
    generalize upd H1 q0 (.tup [.int 0, .int 1]) = H1' at *
    refine ⟨_, rfl, a, _, dx, _, _, rfl, O1.ob, T.c_Net, T.n_Net_names, rfl, nl, rfl, ⟨_, SqL.of O1.nl⟩, ?_⟩
    have dp := e.dt
    refine for_list (K := K) (a := nl) (xs := (List.range N.length).map vn) (fun i σ H' => ∃ (c d : Int) (v5 v8 v9 v10 : Option V), σ = [some (.ref a), some (vn o), some (.ref s1), some (.ref s2), some (.ref pl), v5, some (.int c), some (.int d), v8, v9, v10] ∧ Same H1' H' ∧ 0 < d ∧ d.natAbs < 2 ^ (412 * (2 * i) + 1) ∧ c.natAbs < 2 ^ (412 * (2 * i) + 1) ∧
      c * Ch.dt N = (Ch.sumN i (fun v => hgtN N o v (f2 v)) - Ch.sumN i (fun v => hgtN N o v (f1 v))) * d) ?_ ?_ ?_ ?_
    · exact ⟨0, 1, none, none, none, none, rfl, Same.refl _, by decide, by decide, by decide, by simp [Ch.sumN]⟩
    · rintro i σ H' _ ⟨_, _, _, _, _, _, _, s', _⟩
      exact SqL.of (s' _ _ O1.nl)
    · rintro i x σ H2 hx ⟨c, d, v5, v8, v9, v10, rfl, s12, d0, db, cb, ceq⟩
      have hi : i < N.length := by
        have := (List.getElem?_eq_some_iff.mp hx).1
        rw [mlen] at this; exact this
      rw [mget _ hi] at hx
      cases hx
      refine ⟨_, rfl, (by show 2 ≤ sizeLine; decide), fun t1 ht1 => ⟨_, rfl, _, rfl, (by show 2 ≤ sizeLine; decide), fun t2 ht2 => ⟨(by show 2 ≤ sizeLine; decide), fun tt htt => ?_⟩⟩⟩
      have s3 := Same.new (o := .tup [.ref s2, .int 1]) ht1
      have e3 : upd H2 t1 (.tup [.ref s2, .int 1]) t1 = some (.tup [.ref s2, .int 1]) := upd_same
      generalize upd H2 t1 (.tup [.ref s2, .int 1]) = H3 at *
      have s4 := Same.new (o := .tup [.ref s1, .int (-1)]) ht2
      have e4 : upd H3 t2 (.tup [.ref s1, .int (-1)]) t2 = some (.tup [.ref s1, .int (-1)]) := upd_same
      generalize upd H3 t2 (.tup [.ref s1, .int (-1)]) = H4 at *
      have s5 := Same.new (o := .tup [.ref t1, .ref t2]) htt
      have e5 : upd H4 tt (.tup [.ref t1, .ref t2]) tt = some (.tup [.ref t1, .ref t2]) := upd_same
      generalize upd H4 tt (.tup [.ref t1, .ref t2]) = H5 at *
      have s15 := ((s12.trans s3).trans s4).trans s5
      have e35 := s5 _ _ (s4 _ _ e3)
      have e45 := s5 _ _ e4
      refine ⟨tt, rfl, ⟨_, SqT.of e5⟩, ?_⟩
      obtain ⟨S, hS⟩ : ∃ S : Int, S = Ch.sumN i (fun v => hgtN N o v (f2 v)) - Ch.sumN i (fun v => hgtN N o v (f1 v)) := ⟨_, rfl⟩
      rw [← hS] at ceq
      refine for_tup (K := K) (a := tt) (xs := [.ref t1, .ref t2]) (fun r σ H' => ∃ (c d : Int) (v8 v9 v10 : Option V), σ = [some (.ref a), some (vn o), some (.ref s1), some (.ref s2), some (.ref pl), some (vn i), some (.int c), some (.int d), v8, v9, v10] ∧ Same H5 H' ∧ 0 < d ∧ d.natAbs < 2 ^ (412 * (2 * i + r) + 1) ∧ c.natAbs < 2 ^ (412 * (2 * i + r) + 1) ∧
        c * Ch.dt N = (S + (if 1 ≤ r then hgtN N o i (f2 i) else 0) - (if 2 ≤ r then hgtN N o i (f1 i) else 0)) * d) ?_ ?_ ?_ ?_
      · exact ⟨c, d, v8, v9, v10, rfl, Same.refl _, d0, db, cb, by rw [ceq]; simp⟩
      · rintro r σ H' _ ⟨_, _, _, _, _, _, s', _⟩
        exact SqT.of (s' _ _ e5)
      · rintro r x σ H6 hx ⟨c, d, v8, v9, v10, rfl, s6, d0, db, cb, ceq⟩
        obtain ⟨t, st, sg, sf, rfl, et, hst, hsf, hsg, hT, hr2⟩ : ∃ (t st : Addr) (sg : Int) (sf : Nat → Nat), x = .ref t ∧ H6 t = some (.tup [.ref st, .int sg]) ∧ StdAt H6 st N.length sf ∧ Ch.Stg N sf ∧ (sg = 1 ∨ sg = -1) ∧
            S + (if 1 ≤ r + 1 then hgtN N o i (f2 i) else 0) - (if 2 ≤ r + 1 then hgtN N o i (f1 i) else 0) = S + (if 1 ≤ r then hgtN N o i (f2 i) else 0) - (if 2 ≤ r then hgtN N o i (f1 i) else 0) + sg * hgtN N o i (sf i) ∧ r < 2 := by
          rcases r with _ | _ | r
          · cases hx
            exact ⟨t1, s2, 1, f2, rfl, s6 _ _ e35, (hs2'.mono s15).mono s6, st2, .inl rfl, by simp, by decide⟩
          · cases hx
            refine ⟨t2, s1, -1, f1, rfl, s6 _ _ e45, (hs1'.mono s15).mono s6, st1, .inr rfl, ?_, by decide⟩
            simp; omega
          · cases hx
        rw [hT]
        obtain ⟨hv, hhv⟩ : ∃ hv : Int, hv = hgtN N o i (sf i) := ⟨_, rfl⟩
        obtain ⟨q, hq1, m0, m1, hq2, m10, m1b, m0b, meq⟩ := (hts' i hi).2 (sf i) (hsf i)
        rw [← hhv] at meq
        have s16 := s15.trans s6
        have hq6 := s16 _ _ hq2
        refine ⟨t, _, rfl, SqT.of et, rfl, _, _, rfl, _, _, rfl, rfl, ?_⟩
        refine ⟨_, rfl, pl, _, dxl, _, _, rfl, s16 _ _ epl, T.c_Levels, T.n_Levels_heights, rfl, _, rfl, hd, _, rfl, DGet.in_ (s16 _ _ ehd) (List.mem_range.mpr hi), _, rfl, _, rfl, st, _, rfl, hst.get hi, ls i, _, _, _, rfl, rfl, SqL.of (s16 _ _ (els' i hi)), atI_nat hq1, ?_⟩
        have hsg1 : sg.natAbs < 2 ^ 1 := by rcases hsg with rfl | rfl <;> decide
        have w1 := wide_lt cb m1b
        have w2 : (sg * m0).natAbs < 2 ^ 410 := by
          have : (sg * m0).natAbs = m0.natAbs := by rw [Int.natAbs_mul]; rcases hsg with rfl | rfl <;> simp
          rw [this]; exact m0b
        have w3 := wide_lt w2 db
        have w4 := wide_lt db m1b
        have pa := pow_ab (k := 2 * i + r)
        have k8 : 412 * (2 * i + r) + 1 ≤ 4000 := by omega
        refine ⟨_, rfl, _, rfl, q, _, _, _, rfl, rfl, SqT.of hq6, at1, _, _, rfl, rfl, wide_mul cb m1b (by omega) (by decide) (by omega), _, rfl, _, rfl, q, _, _, _, rfl, rfl, SqT.of hq6, at0, _, _, rfl, rfl, wide_mul hsg1 m0b (by decide) (by decide) (by decide), _, rfl, _, _, rfl, rfl, wide_mul w2 db (by decide) (by omega) (by omega), _, _, rfl, rfl, _, rfl, _, rfl, q, _, _, _, rfl, rfl, SqT.of hq6, at1, _, _, rfl, rfl, wide_mul db m1b (by omega) (by decide) (by omega), ?_⟩
        refine ⟨_, _, rfl, Int.mul_pos d0 m10, Nat.lt_of_lt_of_le w4 (Nat.pow_le_pow_right (by decide) (by omega)), fun c' d' p d'0 d'le c'le c'eq hp => ?_⟩
        have dm0 : 0 < d * m1 := Int.mul_pos d0 m10
        refine ⟨p, _, rfl, SqT.of upd_same, rfl, _, _, rfl, _, _, rfl, rfl, c', d', some (.ref st), some (.int sg), some (.ref q), rfl, s6.trans (Same.new hp), d'0, ?_, ?_, ?_⟩
        · have : d'.natAbs ≤ (d * m1).natAbs := by omega
          refine Nat.lt_of_le_of_lt this (Nat.lt_of_lt_of_le w4 ?_)
          exact Nat.pow_le_pow_right (by decide) (by omega)
        · refine Nat.lt_of_le_of_lt c'le (Nat.lt_of_lt_of_le ?_ pa)
          have := Int.natAbs_add_le (c * m1) (sg * m0 * d)
          omega
        · generalize S + (if 1 ≤ r then hgtN N o i (f2 i) else 0) - (if 2 ≤ r then hgtN N o i (f1 i) else 0) = X at *
          rw [← hhv]
          generalize Ch.dt N = DD at *
          have : (d * m1) * (c' * DD) = (d * m1) * ((X + sg * hv) * d') := by
            calc (d * m1) * (c' * DD) = (c' * (d * m1)) * DD := by rw [← Int.mul_assoc, Int.mul_comm (d * m1) c']
              _ = ((c * m1 + sg * m0 * d) * d') * DD := by rw [c'eq]
              _ = ((c * DD) * m1 + sg * (m0 * DD) * d) * d' := by grind
              _ = ((X * d) * m1 + sg * (hv * m1) * d) * d' := by rw [ceq, meq]
              _ = (d * m1) * ((X + sg * hv) * d') := by grind
          exact Int.eq_of_mul_eq_mul_left (by omega) this
      · rintro σ H6 ⟨c, d, v8, v9, v10, rfl, s6, d0, db, cb, ceq⟩
        refine ⟨c, d, _, v8, v9, v10, rfl, s15.trans s6, d0, ?_, ?_, ?_⟩
        · have : 412 * (2 * (i + 1)) + 1 = 412 * (2 * i + [V.ref t1, V.ref t2].length) + 1 := by show _ = 412 * (2 * i + 2) + 1; omega
          rw [this]; exact db
        · have : 412 * (2 * (i + 1)) + 1 = 412 * (2 * i + [V.ref t1, V.ref t2].length) + 1 := by show _ = 412 * (2 * i + 2) + 1; omega
          rw [this]; exact cb
        · rw [ceq, hS]
          show (_ + hgtN N o i (f2 i) - hgtN N o i (f1 i)) * d = (Ch.sumN i _ + hgtN N o i (f2 i) - (Ch.sumN i _ + hgtN N o i (f1 i))) * d
          congr 1; omega
    · rintro σ H2 ⟨c, d, v5, v8, v9, v10, rfl, s12, d0, db, cb, ceq⟩
      rw [mlen] at db cb ceq
      refine ⟨_, rfl, _, rfl, (by show 2 ≤ sizeLine; decide), fun p hp => ?_⟩
      have le : 2 ^ (412 * (2 * N.length) + 1) ≤ 2 ^ 3300 := Nat.pow_le_pow_right (by decide) (by omega)
      refine k p c d _ ((s01.trans s12).trans (Same.new hp)) upd_same d0 (Nat.lt_of_lt_of_le db le) (Nat.lt_of_lt_of_le cb le) ?_
      rw [ceq, lev_sum D st2, lev_sum D st1]
end
end K11
end
section
set_option Elab.async false
set_option linter.all false
set_option maxRecDepth 100000
/-! F45: sorted lists of pairs: one list only. -/
namespace K11
open PySem PySem.Spec PyProof.Rows L2
open C8 (Cal Met Mak)
section
variable {K : PySem.W.Frag}
/-- the two numbers of a pair in the heap -/
def prk (H : Hp) : V → Int × Int
  | .ref t => match H t with
    | some (.tup [.int a, .int b]) => (a, b)
    | _ => (0, 0)
  | _ => (0, 0)
def pk2 (x : Nat × Nat) : Int × Int := ((x.1 : Nat), (x.2 : Nat))
theorem pk2_inj {ps qs : List (Nat × Nat)} (h : ps.map pk2 = qs.map pk2) : ps = qs := by
  induction ps generalizing qs with
  | nil =>
    cases qs with
    | nil => rfl
    | cons _ _ => cases h
  | cons x ps ih =>
    cases qs with
    | nil => cases h
    | cons y qs =>
      obtain ⟨h1, h2⟩ := List.cons.inj h
      rw [ih h2]
      obtain ⟨a, b⟩ := x
      obtain ⟨c, d⟩ := y
      have h3 : ((a : Nat) : Int) = (c : Nat) := congrArg Prod.fst h1
      have h4 : ((b : Nat) : Int) = (d : Nat) := congrArg Prod.snd h1
      have h5 : a = c := by omega
      have h6 : b = d := by omega
      rw [h5, h6]
theorem prk_at {H : Hp} {q : Addr} {x : Nat × Nat} (h : H q = some (.tup (prV x))) : prk H (.ref q) = pk2 x := by
  unfold prk
  show (match H q with | some (.tup [.int a, .int b]) => (a, b) | _ => (0, 0)) = _
  rw [h]; rfl
theorem prs_mem {H : Hp} {ys : List V} {ps : List (Nat × Nat)} (h : PrOf H ys ps) {y : V} (hy : y ∈ ys) : ∃ (x : Nat × Nat) (q : Addr), y = .ref q ∧ H q = some (.tup (prV x)) := by
  obtain ⟨i, hi, rfl⟩ := List.mem_iff_getElem.mp hy
  obtain ⟨x, q, _, e2, e3⟩ := h.get (List.getElem?_eq_getElem hi)
  exact ⟨x, q, e2, e3⟩
theorem prs_key {H : Hp} {ys : List V} {ps : List (Nat × Nat)} (h : PrOf H ys ps) : ∀ x ∈ ys, ∃ t, x = V.ref t ∧ H t = some (.tup [.int (prk H x).1, .int (prk H x).2]) := fun y hy => by
  obtain ⟨x, q, rfl, e⟩ := prs_mem h hy
  exact ⟨q, rfl, by rw [prk_at e]; exact e⟩
theorem prs_map {H : Hp} {ys : List V} {ps : List (Nat × Nat)} (h : PrOf H ys ps) : ys.map (prk H) = ps.map pk2 := by
  apply List.ext_getElem?
  intro i
  rw [List.getElem?_map, List.getElem?_map]
  cases e : ys[i]? with
  | none =>
    have h1 := List.getElem?_eq_none_iff.mp e
    have h2 : ps[i]? = none := List.getElem?_eq_none_iff.mpr (by rw [← h.1]; exact h1)
    rw [h2]; rfl
  | some y =>
    obtain ⟨x, q, e1, e2, e3⟩ := h.get e
    rw [e1, e2]
    show some (prk H (.ref q)) = _
    rw [prk_at e3]; rfl
theorem prs_of {H : Hp} : ∀ {ys : List V}, (∀ y ∈ ys, ∃ (x : Nat × Nat) (q : Addr), y = .ref q ∧ H q = some (.tup (prV x))) → ∃ ps, PrOf H ys ps
  | [], _ => ⟨[], PrOf.nil⟩
  | y :: ys, h => by
    obtain ⟨ps, hp⟩ := prs_of (ys := ys) fun z hz => h z (List.mem_cons_of_mem _ hz)
    obtain ⟨x, q, rfl, e⟩ := h y (List.mem_cons_self ..)
    exact ⟨[x] ++ ps, (PrOf.one e).append hp⟩
theorem lexB_swo : SrtO.Swo SrtO.lexB := by
  refine ⟨fun x y h => ?_, fun x y z h1 h2 => ?_⟩
  · have a := SrtO.lexB_iff.mp h
    refine SrtO.lexB_no.mpr ?_
    omega
  · have a := SrtO.lexB_no.mp h1
    have b := SrtO.lexB_no.mp h2
    refine SrtO.lexB_no.mpr ?_
    omega
/-- what sorted makes of a list of pairs -/
def SrtOf (H : Hp) (ys : List V) (ps : List (Nat × Nat)) : Prop := ∃ qs, PrOf H ys qs ∧ SrtO.Srtd SrtO.lexB (qs.map pk2) ∧ SrtO.Stb SrtO.lexB (qs.map pk2) (ps.map pk2)
theorem srt_of {H : Hp} {ys zs : List V} {ps : List (Nat × Nat)} (h : PrOf H ys ps) (hs : SrtO.Srtd (ltP (prk H)) zs) (hb : SrtO.Stb (ltP (prk H)) zs ys) : SrtOf H zs ps := by
  obtain ⟨qs, hq⟩ := prs_of (H := H) (ys := zs) fun z hz => prs_mem h (hb.perm.mem_iff.mp hz)
  refine ⟨qs, hq, ?_, ?_⟩
  · rw [← prs_map hq]
    exact List.pairwise_map.mpr hs
  · rw [← prs_map hq, ← prs_map h]
    exact SrtO.Stb.map lexB_swo (prk H) hb
theorem srt_one {ps : List (Nat × Nat)} {qs rs : List (Nat × Nat)} (h1 : SrtO.Srtd SrtO.lexB (qs.map pk2)) (h2 : SrtO.Stb SrtO.lexB (qs.map pk2) (ps.map pk2)) (h3 : SrtO.Srtd SrtO.lexB (rs.map pk2)) (h4 : SrtO.Stb SrtO.lexB (rs.map pk2) (ps.map pk2)) : qs = rs :=
  pk2_inj (SrtO.stb_uniq lexB_swo h1 h3 (h2.trans ⟨h4.perm.symm, fun x => (h4.cls x).symm⟩))
end
end K11
end
section
set_option Elab.async false
set_option linter.all false
set_option maxRecDepth 100000
set_option exponentiation.threshold 10000
namespace Ch
/-! ### the law, plain -/
section
variable {N : Nt} {f p : List (Nat × Nat)}
/-- what comes out of so many balls from the start -/
noncomputable def tt (N : Nt) (s : Nat → Nat) (o j : Nat) : Nat := sumTo j fun k => comp o (row N s k)
abbrev z0 : Nat → Nat := fun _ => 0
theorem sumTo_bd {g : Nat → Nat} {B : Nat} (h : ∀ k, g k ≤ B) : ∀ j, sumTo j g ≤ j * B
  | 0 => Nat.zero_le _
  | j + 1 => by
    have h1 := sumTo_bd h j
    have h2 := h j
    show sumTo j g + g j ≤ _
    rw [Nat.add_mul, Nat.one_mul]; omega
theorem comp_small (d : Drawn N) (e : EndsN N) {s : Nat → Nat} (hs : Stg N s) (o k : Nat) : comp o (row N s k) ≤ 2 ^ 60 := by
  have := row_small d e hs k
  unfold comp; split <;> omega
theorem tt_bd (d : Drawn N) (e : EndsN N) {s : Nat → Nat} (hs : Stg N s) (o j : Nat) : tt N s o j ≤ j * 2 ^ 60 := sumTo_bd (comp_small d e hs o) j
end
end Ch
namespace K11
open PySem PySem.Spec PyProof.Rows L2
open C8 (Cal Met Mak)
abbrev gg (N : Ch.Nt) (p : List (Nat × Nat)) (o : Nat) : Nat := (p.map (Ch.comp o)).sum * (Ch.rmany N Ch.e1 / p.length)
theorem gg_bd {N : Ch.Nt} (D : Ch.Drawn N) (e : Ch.EndsN N) {o G : Nat} (h : Ch.dt N * ((G : Nat) : Int) = (Ch.rmany N Ch.e1 : Nat) * wnum N o 0) : G < 2 ^ 160 := by
  have ds := Ch.dt_small D e
  have dp := e.dt
  have rl := Ch.rmany_le (N := N) Ch.e1
  have w0 := wnum_small D e (o := o) 0
  have h1 : (Ch.dt N * ((G : Nat) : Int)).natAbs < 2 ^ (80 + 80) := by
    rw [h]
    exact wide_lt (a := 80) (b := 80) (by show (((Ch.rmany N Ch.e1 : Nat) : Int)).natAbs < _; omega) w0
  rw [Int.natAbs_mul] at h1
  have h2 : 1 * G ≤ (Ch.dt N).natAbs * G := Nat.mul_le_mul_right _ (by omega)
  have : (((G : Nat) : Int)).natAbs = G := rfl
  rw [this] at h1
  omega
theorem ne_no {x y : V} (h : x = y) (c : (!decide (x = y)) = true) : False := by subst h; simp at c
theorem ne_no' {x y : Nat × Nat} (h : x = y) (c : (!decide (x = y)) = true) : False := by subst h; simp at c
theorem prI_at {g : Nat → Nat} {i : Nat} (h : i < 2) : atI (prI (g 4) (g 5)) ((i : Nat) : Int) = some (.int (g (4 + i) : Nat)) := by
  have : i = 0 ∨ i = 1 := by omega
  rcases this with rfl | rfl <;> rfl
theorem prV_at {x : Nat × Nat} {i : Nat} (h : i < 2) : atI (prV x) ((i : Nat) : Int) = some (.int (Ch.comp (4 + i) x : Nat)) := by
  have : i = 0 ∨ i = 1 := by omega
  rcases this with rfl | rfl <;> rfl
theorem mul0_ok : ∀ d : Fin 16, MulOk "0" (d.1 : Int) := by
  intro d
  refine ⟨?_, ?_, ?_⟩
  · revert d; decide +kernel
  · revert d; decide +kernel
  · revert d; decide +kernel
theorem int10 : ∀ d : Fin 16, PySem.intText? ("1" ++ Txt.mul "0" (d.1 : Int)) = some (((10 ^ d.1 : Nat)) : Int) ∧ ("1" ++ Txt.mul "0" (d.1 : Int)).length ≤ 640 ∧ (("1" : Str).length + (Txt.mul "0" (d.1 : Int)).length ≤ sizeLine) := by decide +kernel
theorem sum_cast {α : Type} (g : α → Nat) : ∀ l : List α, (l.map fun x => ((g x : Nat) : Int)).sum = ((l.map g).sum : Nat)
  | [] => rfl
  | x :: l => by rw [List.map_cons, List.sum_cons, List.map_cons, List.sum_cons, sum_cast g l]; push_cast; rfl
theorem sum_le {α : Type} {g : α → Nat} {B : Nat} : ∀ {l : List α}, (∀ x ∈ l, g x ≤ B) → (l.map g).sum ≤ l.length * B
  | [], _ => by simp
  | x :: l, h => by
    have h1 := sum_le (l := l) fun y hy => h y (List.mem_cons_of_mem _ hy)
    have h2 := h x (List.mem_cons_self ..)
    rw [List.map_cons, List.sum_cons, List.length_cons, Nat.add_mul, Nat.one_mul]; omega
theorem Nice_tt {N : Ch.Nt} {s : Nat → Nat} (C : Ch.Nice N) (D : Ch.Drawn N) (e : Ch.EndsN N) (hs : Ch.Stg N s) {o : Nat} (ho : o = 4 ∨ o = 5) (j : Nat) : Ch.dt N * ((Ch.tt N s o j : Nat) : Int) = (j : Int) * wnum N o 0 - (levN N o (Ch.E N s (Ch.mu j Ch.e1)) - levN N o s) := by
  have h := C.worth (Ch.wor_of D e o) hs (Ch.mu j Ch.e1)
  rw [Ch.worth_e1, Ch.outs_rows C hs ho j] at h
  exact h
theorem fin_eq {D T far num L cs dsv c d : Int} (hD : 0 < D) (h1 : D * T = far * num - L) (h2 : cs * D = num * dsv) (h3 : c * D = L * d) : T * dsv * d = cs * far * d - c * dsv := by
  refine Int.eq_of_mul_eq_mul_left (Int.ne_of_gt hD) ?_
  have e1 : D * (T * dsv * d) = (D * T) * (dsv * d) := by ac_rfl
  have e2 : D * (cs * far * d - c * dsv) = (cs * D) * (far * d) - (c * D) * dsv := by
    rw [Int.mul_sub]; congr 1 <;> ac_rfl
  rw [e1, e2, h1, h2, h3, Int.sub_mul]
  congr 1 <;> ac_rfl
section
variable {P : Program} {w : World} {K : PySem.W.Frag} {mg : Str → Option Value} {base : Heap}
/-! ### the law -/
def sp_law (K : PySem.W.Frag) : Sp := fun vs H Q _ => ∃ (a : Addr) (ns : List Int), vs = [.ref a] ∧ SqL K H a (ns.map V.int) ∧ ns.length ≤ 63 ∧ ∀ H', Q (.bl true) H'
theorem sc_law : FnScope ["_law_script", "_law_knots_here", "_law_net", "_law_size", "_law_far", "_law_found", "_law_more", "_law_start", "_law_back", "_law_told", "_law_many", "_law_at", "_law_outlet", "_law_got", "_law_balls", "_law_share", "_law_behind", "_law_row"] ["_law_script"] d_law.scope := ⟨rfl, rfl, rfl, by decide +kernel, rfl, by decide +kernel, by decide +kernel⟩
set_option maxHeartbeats 4000000 in
theorem law_body (T : Txt K mg) (c_Course_total : Met P w K mg base 1 (He.ga K "Course") "total" (sp_Course_total K) []) (c_gained : Cal P w K mg base 7 "gained" (sp_gained K) []) (c_course1 : Cal P w K mg base 5 "course" (sp_course K) []) (c_course : Cal P w K mg base 5 "course" (sp_course K) [.non]) (c_first_back : Cal P w K mg base 5 "first_back" (sp_first_back K) []) (c_Net_start : Met P w K mg base 1 (He.ga K "Net") "start" (sp_Net_start K) []) (c_lag : Cal P w K mg base 7 "lag" (sp_lag K) []) (c_share_of : Cal P w K mg base 6 "share_of" (sp_share_of K) []) (c__law_draw : Cal P w K mg base 1 "_law_draw" (sp_w_draw K) []) (c_settle : Cal P w K mg base 4 "settle" (sp_settle K) [.non]) (c_round_of : Cal P w K mg base 5 "round_of" (sp_round_of K) []) (c_Net_init : Mak P w K mg base 3 "Net" (He.ga K "Net") (sp_Net_init K) []) (c__law_inlets : Cal P w K mg base 2 "_law_inlets" (sp_w_inlets K) []) (c__law_does_end : Cal P w K mg base 7 "_law_does_end" (sp_w_does_end K) []) (c__law_det : Cal P w K mg base 6 "_law_det" (spd K 5) []) (c__law_matrix : Cal P w K mg base 2 "_law_matrix" (sp_w_matrix K) []) (c__law_is_quick : Cal P w K mg base 2 "_law_is_quick" (sp_w_is_quick K) []) (c__law_knots : Cal P w K mg base 2 "_law_knots" (sp_w_knots K) []) : BodyOk P w K mg base d_law ["_law_script", "_law_knots_here", "_law_net", "_law_size", "_law_far", "_law_found", "_law_more", "_law_start", "_law_back", "_law_told", "_law_many", "_law_at", "_law_outlet", "_law_got", "_law_balls", "_law_share", "_law_behind", "_law_row"] 39 (sp_law K) := by
  intro cdv A outer s H vs Q E hr h
  · have hu := hu_of hr
    obtain ⟨a, ns, rfl, ha, hn, k⟩ := h
    refine ⟨_, (pss_cons (ps_set (i := 1) sc_law.nd rfl (Or.inl rfl) (C8.pe_c c__law_knots hr (by decide) rfl (pa_cons (pv 0) (pa_cons pe_int (pa_cons pe_bl pa_nil)))))
      (pss_cons (ps_if (PW.pt (pw_or (pt_not (pt_val (C8.pe_c c__law_does_end hr (by decide) rfl (pa_cons (pv 1) pa_nil)))) (pw_or (pt_cmpR op_gt (C8.pe_c c__law_det hr (by decide) rfl (pa_cons (C8.pe_c c__law_matrix hr (by decide) rfl (pa_cons (pv 1) pa_nil)) pa_nil)) pe_int (nomark _)) (pw_or1 (pt_not (pt_val (C8.pe_c c__law_is_quick hr (by decide) rfl (pa_cons (pv 1) pa_nil))))))))
      (pss_one (ps_ret pe_bl))
      pss_nil)
      (pss_cons (ps_set (i := 2) sc_law.nd rfl (Or.inr rfl) (C8.pe_mk c_Net_init hr (by decide) rfl (pa_cons (pv 1) (pa_cons (C8.pe_c c__law_inlets hr (by decide) rfl (pa_cons (pv 0) (pa_cons pe_int (pa_cons (pv 1) pa_nil)))) (pa_cons (pe_tup (pa_cons pe_str (pa_cons pe_str pa_nil))) pa_nil)))))
      (pss_cons (ps_par (i := 9) (j := 10) rfl sc_law.nd rfl rfl (by decide) rfl rfl (pa_cons (C8.pe_c c_course hr (by decide) rfl (pa_cons (pv 2) (pa_cons pe_str pa_nil))) (pa_cons (pe_fld (C8.pe_c c_round_of hr (by decide) rfl (pa_cons (pv 2) (pa_cons pe_str pa_nil))) rfl) pa_nil)) (by rfl))
      (pss_cons (ps_set (i := 3) sc_law.nd rfl (Or.inl rfl) (pe_callB call_len_seq (by rfl) T.f_len (by decide +kernel) (pa_cons (pe_fld (pv 9) rfl) pa_nil)))
      (pss_cons (ps_if (pt_cmpR op_ne (pe_op op_mod (pv 10) (pv 3)) pe_int (nomark _))
      (pss_one (ps_ret pe_bl))
      pss_nil)
      (pss_cons (ps_for PassesOwn.never rfl (pi_enumT rfl T.f_enumerate (pa_cons (pe_fld (pv 2) rfl) pa_nil)) (pg_tup rfl (pgs_cons (pg_name (i := 11) sc_law.nd rfl (Or.inr rfl)) (pgs_cons (pg_name (i := 12) sc_law.nd rfl (Or.inl rfl)) pgs_nil)))
      (pss_cons (ps_asg (C8.pe_c c_gained hr (by decide) rfl (pa_cons (pv 2) (pa_cons pe_str (pa_cons (pv 12) pa_nil)))) (pg_tup rfl (pgs_cons (pg_name (i := 13) sc_law.nd rfl (Or.inl rfl)) (pgs_cons (pg_name (i := 14) sc_law.nd rfl (Or.inl rfl)) pgs_nil))))
        (pss_one (ps_if (pt_cmpR op_ne (pe_op op_mulW (pe_callB (cr_sum rfl) (by rfl) T.f_sum (by decide +kernel) (pa_cons (pe_lc (te := tOp (rIxT K) (tVar 17) (tVar 11)) (own := [("_law_row", 17)]) (by rfl) sc_law.nd (pi_list (pe_fld (pv 9) rfl)) (blkOk_by (own := [("_law_row", 17)]) (by rfl)) (fun _ _ _ _ _ => (pg_name (i := 17) sc_law.nd rfl (Or.inl rfl))) (fun _ _ _ _ _ => pts_nil) (fun _ _ _ _ _ => (pe_ix ix_tup (pv 17) (pv 11) (fun _ _ => rfl)))) pa_nil)) (pe_op op_fdivW (pv 14) (pv 3))) (pv 13) (nomark _))
        (pss_one (ps_ret pe_bl))
        pss_nil))))
      (pss_cons (ps_set (i := 4) sc_law.nd rfl (Or.inl rfl) (pe_op op_add (pe_callTy call_int_str (by rfl) T.f_int (by decide +kernel) (pa_cons (pe_op op_add_str pe_str (pe_op op_rep_str pe_str (C8.pe_c c__law_draw hr (by decide) rfl (pa_cons (pv 0) (pa_cons pe_int (pa_cons pe_int pa_nil)))))) pa_nil)) (C8.pe_c c__law_draw hr (by decide) rfl (pa_cons (pv 0) (pa_cons pe_int (pa_cons pe_int pa_nil))))))
      (pss_cons (ps_set (i := 5) sc_law.nd rfl (Or.inl rfl) (C8.pe_c c_settle hr (by decide) rfl (pa_cons (pv 2) (pa_cons (pe_disp (pps_cons pe_str (pv 4) pps_nil) (by rfl) (by rfl) (fun z => by cases z) (by decide)) pa_nil))))
      (pss_cons (ps_if (pt_cmpR (op_neD hr.units) (C8.pe_mt c_Course_total hr (by decide) (pv 9) (pa_cons (pv 4) pa_nil)) (pe_tup (pa_cons (pe_dget hu (pe_fld (pv 5) rfl) pe_str (fun _ _ => rfl)) (pa_cons (pe_dget hu (pe_fld (pv 5) rfl) pe_str (fun _ _ => rfl)) pa_nil))) (nomark _))
      (pss_one (ps_ret pe_bl))
      pss_nil)
      (pss_cons (ps_set (i := 6) sc_law.nd rfl (Or.inl rfl) (pe_op op_add (pv 4) (pe_op op_mulW (pv 10) (pe_callTy call_int_str (by rfl) T.f_int (by decide +kernel) (pa_cons (pe_op op_add_str pe_str (pe_op op_rep_str pe_str (pe_op op_add pe_int (C8.pe_c c__law_draw hr (by decide) rfl (pa_cons (pv 0) (pa_cons pe_int (pa_cons pe_int pa_nil))))))) pa_nil)))))
      (pss_cons (ps_for PassesOwn.never rfl (pi_enumT rfl T.f_enumerate (pa_cons (pe_fld (pv 2) rfl) pa_nil)) (pg_tup rfl (pgs_cons (pg_name (i := 11) sc_law.nd rfl (Or.inr rfl)) (pgs_cons (pg_name (i := 12) sc_law.nd rfl (Or.inl rfl)) pgs_nil)))
      (pss_cons (ps_asg (C8.pe_c c_gained hr (by decide) rfl (pa_cons (pv 2) (pa_cons pe_str (pa_cons (pv 12) pa_nil)))) (pg_tup rfl (pgs_cons (pg_name (i := 13) sc_law.nd rfl (Or.inl rfl)) (pgs_cons (pg_name (i := 14) sc_law.nd rfl (Or.inl rfl)) pgs_nil))))
        (pss_cons (ps_if (PW.pt (pw_and (pt_cmpR op_ge (pv 4) (pe_callB call_len_seq (by rfl) T.f_len (by decide +kernel) (pa_cons (pe_fld (pv 9) rfl) pa_nil)) (nomark _)) (pw_and1 (pt_cmpR op_ne (pe_ix ix_tup (C8.pe_mt c_Course_total hr (by decide) (pv 9) (pa_cons (pv 6) pa_nil)) (pv 11) (fun _ _ => rfl)) (pe_op op_add (pe_ix ix_tup (C8.pe_mt c_Course_total hr (by decide) (pv 9) (pa_cons (pv 4) pa_nil)) (pv 11) (fun _ _ => rfl)) (pe_op op_mulW (pv 13) (pe_op op_fdivW (pe_op op_sub (pv 6) (pv 4)) (pv 10)))) (nomark _)))))
        (pss_one (ps_ret pe_bl))
        pss_nil)
        (pss_cons (ps_par (i := 15) (j := 16) rfl sc_law.nd rfl rfl (by decide) rfl rfl (pa_cons (C8.pe_c c_share_of hr (by decide) rfl (pa_cons (pv 2) (pa_cons pe_str (pa_cons (pv 12) pa_nil)))) (pa_cons (C8.pe_c c_lag hr (by decide) rfl (pa_cons (pv 2) (pa_cons (pv 12) (pa_cons (C8.pe_mt0 c_Net_start hr (by decide) (pv 2)) (pa_cons (pe_fld (pv 5) rfl) pa_nil))))) pa_nil)) (by rfl))
        (pss_one (ps_if (pt_cmpR op_ne (pe_op op_mulW (pe_op op_mulW (pe_ix ix_tup (C8.pe_mt c_Course_total hr (by decide) (pv 9) (pa_cons (pv 4) pa_nil)) (pv 11) (fun _ _ => rfl)) (pe_ix ix_tup (pv 15) pe_int (fun _ _ => rfl))) (pe_ix ix_tup (pv 16) pe_int (fun _ _ => rfl))) (pe_op op_sub (pe_op op_mulW (pe_op op_mulW (pe_ix ix_tup (pv 15) pe_int (fun _ _ => rfl)) (pv 4)) (pe_ix ix_tup (pv 16) pe_int (fun _ _ => rfl))) (pe_op op_mulW (pe_ix ix_tup (pv 16) pe_int (fun _ _ => rfl)) (pe_ix ix_tup (pv 15) pe_int (fun _ _ => rfl)))) (nomark _))
        (pss_one (ps_ret pe_bl))
        pss_nil))))))
      (pss_cons (ps_set (i := 7) sc_law.nd rfl (Or.inl rfl) (C8.pe_c c_first_back hr (by decide) rfl (pa_cons (pv 2) (pa_cons (C8.pe_mt0 c_Net_start hr (by decide) (pv 2)) pa_nil))))
      (pss_cons (ps_set (i := 8) sc_law.nd rfl (Or.inl rfl) (C8.pe_c c_course1 hr (by decide) rfl (pa_cons (pv 2) (pa_cons pe_str (pa_cons (pv 7) pa_nil)))))
      (pss_cons (ps_if (PW.pt (pw_or (pt_cmpR (op_neD hr.units) (pe_fld (pv 8) rfl) (pe_lst pa_nil) (nomark _)) (pw_or1 (PW.pt (pw_and (pt_cmpR (op_neD hr.units) (pe_callB cr_sortedPO (by rfl) T.f_sorted (by decide +kernel) (pa_cons (pe_fld (pv 8) rfl) pa_nil)) (pe_callB cr_sortedPO (by rfl) T.f_sorted (by decide +kernel) (pa_cons (pe_fld (pv 9) rfl) pa_nil)) (nomark _)) (pw_and (pt_cmpR op_eq (pe_callB call_len_seq (by rfl) T.f_len (by decide +kernel) (pa_cons (pe_fld (pv 8) rfl) pa_nil)) (pv 3) (nomark _)) (pw_and (pt_cmpR op_eq (pv 10) (pv 3) (nomark _)) (pw_and1 (pt_cmpR (op_eqD hr.units) (pe_fld (pv 9) rfl) (pe_lst pa_nil) (nomark _))))))))))
      (pss_one (ps_ret pe_bl))
      pss_nil)
      (pss_one (ps_ret (pe_cmpR (op_eqD hr.units) (C8.pe_mt c_Course_total hr (by decide) (pv 8) (pa_cons (pv 10) pa_nil)) (pe_callTy call_tuple_of (by rfl) T.f_tuple (by decide +kernel) (pa_cons (pe_lc (te := tOp (rIxT K) _ _) (own := [("_law_outlet", 12)]) (by rfl) sc_law.nd (pi_tup (pe_fld (pv 2) rfl)) (blkOk_by (own := [("_law_outlet", 12)]) (by rfl)) (fun _ _ _ _ _ => (pg_name (i := 12) sc_law.nd rfl (Or.inl rfl))) (fun _ _ _ _ _ => pts_nil) (fun _ _ _ _ _ => (pe_ix ix_tup (C8.pe_c c_gained hr (by decide) rfl (pa_cons (pv 2) (pa_cons pe_str (pa_cons (pv 12) pa_nil)))) pe_int (fun _ _ => rfl)))) pa_nil)) (nomark _))))))))))))))))))), ?_⟩
    refine ⟨_, rfl, a, ns, 0, rfl, ha, hn, by decide, fun kd N H1 s1 D hK => ?_⟩
    have n1 := D.n1
    have n4 := D.n4
    -- does it end
    refine ⟨_, rfl, kd, N, rfl, hK, D, fun b H2 s2 hb => ⟨b, rfl, ?_⟩⟩
    cases b with
    | false => exact iteT (iteT (k _))
    | true =>
    have e : Ch.EndsN N := hb rfl
    refine iteF ?_
    have hK2 := hK.mono s2
    refine ⟨_, rfl, kd, N, rfl, hK2, n4, fun v hv d hd => Drawn8 D hv d (List.mem_append_right _ hd), fun pm H3 s3 hM => ?_⟩
    refine ⟨N.length, pm, Ch.latt N, by omega, rfl, hM, n4, fun i j hi _ => D.latt10 hi j, fun H4 s4 => ⟨_, _, rfl, rfl, _, rfl, ?_⟩⟩
    refine ite2 (fun c => iteT (k _)) (fun c => ?_)
    have s24 := s3.trans s4
    refine ⟨_, rfl, kd, N, rfl, hK2.mono s24, D, fun b H5 s5 => ⟨b, rfl, ?_⟩⟩
    cases b with
    | false => exact iteT (k _)
    | true =>
    refine iteF ?_
    have s15 := ((s1.trans s2).trans s24).trans s5
    have hK5 := hK2.mono (s24.trans s5)
    -- the net
    refine ⟨_, rfl, _, rfl, _, rfl, a, kd, ns, 5, N, rfl, s15.seq ha, hn, by decide, hK5, n1, n4, fun idd j H6 s6 hj e6 => ?_⟩
    refine ⟨(by show 2 ≤ sizeLine; decide), fun ot hot => ?_⟩
    have s7 := Same.new (o := .tup [.str "o", .str "p"]) hot
    have e7 : upd H6 ot (.tup [.str "o", .str "p"]) ot = some (.tup [vn 4, vn 5]) := upd_same
    have e67 := s7 _ _ e6
    generalize upd H6 ot (.tup [.str "o", .str "p"]) = H7 at *
    intro x dxn hx hdx hne
    have m0 := made0 (C := He.ga K "Net") (u := .own x) hx hdx
    refine ⟨x, dxn, kd, idd, ot, N, j, rfl, upd_same, (hK5.mono (s6.trans s7)).mono m0, m0 _ _ e67, m0 _ _ e7, D, hj, fun H8 kd' id' ot' nl' sx O => ⟨rfl, ?_⟩⟩
    have s78 := made (K := K) hx hdx hne sx
    have s08 := ((s15.trans s6).trans s7).trans s78
    have hN : ∀ {H'}, Same H8 H' → NetAt K H' x N := fun s => ⟨j, dxn, kd', id', ot', nl', O.mono s⟩
    clear m0 e67 e7 e6 hot hx hdx hne sx
    -- course, round
    refine ⟨_, rfl, x, .non, N, Ch.z0, (by rw [nm_i]; rfl), hN (Same.refl _), D, e, .inl ⟨rfl, rfl⟩, Ch.stg0 D, fun H9 tc f p s9 hC hcr lf lp => ?_⟩
    refine ⟨_, rfl, x, N, (by rw [nm_i]; rfl), hN s9, D, e, fun pr H10 s10 ⟨dxr, tdr, er⟩ => ⟨pr, _, dxr, _, _, rfl, er, T.c_Round, T.n_Round_many, rfl, _, _, rfl, ?_⟩⟩
    have C := D.nice e
    have hs0 := Ch.stg0 D
    have R := Ch.rnd_e1 D e
    have ds := Ch.dt_small D e
    have dp := e.dt
    obtain ⟨m, hm⟩ : ∃ m, m = Ch.rmany N Ch.e1 := ⟨_, rfl⟩
    have m1 : 1 ≤ m := by rw [hm]; exact R.m1
    have mle : m ≤ (Ch.dt N).toNat := by rw [hm]; exact Ch.rmany_le Ch.e1
    have m80 : m < 2 ^ 80 := by omega
    have hC10 := hC.mono s10
    have hN10 : ∀ {H'}, Same H10 H' → NetAt K H' x N := fun s => hN ((s9.trans s10).trans s)
    have O10 := (O.mono s9).mono s10
    rw [← hm] at er
    obtain ⟨dxc, fa, pa, ec, ⟨fy, ef, pf⟩, ⟨py, ep, pp⟩⟩ := hC10
    have ho : ∀ i, i < 2 → 4 + i = 4 ∨ 4 + i = 5 := fun i hi => by omega
    have hper : ∀ o, o = 4 ∨ o = 5 → Ch.dt N * (((p.map (Ch.comp o)).sum * (m / p.length) : Nat) : Int) = m * wnum N o 0 := fun o ho => by
      have := Ch.period_sum C hs0 hcr R (Ch.wor_of D e o) ho
      rw [hm]; exact this
    obtain ⟨g0, hg0⟩ : ∃ g0 : Nat → Nat, ∀ o, g0 o = (p.map (Ch.comp o)).sum * (m / p.length) := ⟨_, fun _ => rfl⟩
    have hgd : ∀ o, o = 4 ∨ o = 5 → Ch.dt N * ((g0 o : Nat) : Int) = m * wnum N o 0 := fun o ho => by rw [hg0]; exact hper o ho
    have hgb : ∀ o, o = 4 ∨ o = 5 → g0 o < 2 ^ 160 := fun o ho => gg_bd D e (by rw [← hm]; exact hgd o ho)
    have plen := pp.1
    have flen := pf.1
    have ppos := hcr.toTells.pos
    have hdvd : p.length ∣ m := by rw [hm]; exact Ch.per_dvd C hs0 hcr R
    have hwb : ∀ o v, (wnum N o v).natAbs < 2 ^ 200 := fun o v => Nat.lt_trans (wnum_small D e v) (by decide)
    -- size
    refine ⟨_, rfl, tc, _, dxc, _, _, rfl, ec, T.c_Course, T.n_Course_period, rfl, pa, _, rfl, .inl (SqL.of ep), ?_⟩
    rw [plen]
    refine ⟨_, rfl, _, rfl, _, _, rfl, rfl, (by show (0 : Int) < (p.length : Nat); omega), rfl, _, rfl, ?_⟩
    refine ite2 (fun c => (ne_no ?_ c).elim) (fun _ => ?_)
    · show V.int (((Ch.rmany N Ch.e1 : Nat) : Int) % ((p.length : Nat) : Int)) = V.int 0
      rw [← hm]
      obtain ⟨q, hq⟩ := hdvd
      rw [hq]; congr 1
      rw [Int.natCast_mul]
      exact Int.mul_emod_right _ _
    -- the outlets, once
    refine ⟨_, rfl, x, _, dxn, _, _, rfl, O10.ob, T.c_Net, T.n_Net_outlets, rfl, ot', _, rfl, SqT.of O10.ol, ?_⟩
    refine fr_it (walk_enumT (K := K) (a := ot') (xs := [vn 4, vn 5])) (fun i σ H' => ∃ (v11 v12 v13 v14 : Option V), σ = [some (.ref a), some (.ref kd), some (.ref x), some (.int (p.length : Nat)), none, none, none, none, none, some (.ref tc), some (.int (m : Nat)), v11, v12, v13, v14, none, none, none] ∧ Same H10 H') ?_ ?_ ?_ ?_
    · exact ⟨none, none, none, none, by rw [hm]; rfl, Same.refl _⟩
    · rintro i σ H' _ ⟨_, _, _, _, _, s'⟩
      exact SqT.of (s' _ _ O10.ol)
    · rintro i y σ H11 H11' hi ⟨v11, v12, v13, v14, rfl, s11⟩ ⟨T', y1, y2, rfl, hT, rfl, e1, e2⟩
      replace hi : i < 2 := hi
      cases e1
      have e3 : y2 = vn (4 + i) := by
        have : i = 0 ∨ i = 1 := by omega
        rcases this with rfl | rfl <;> exact (Option.some.inj e2).symm
      subst e3
      clear e2
      have s12 := s11.trans (Same.new (o := .tup [.int (i : Nat), vn (4 + i)]) hT)
      refine ⟨T', _, rfl, SqT.of upd_same, rfl, _, _, rfl, _, _, rfl, rfl, ?_⟩
      generalize upd H11 T' (.tup [.int (i : Nat), vn (4 + i)]) = H12 at *
      refine ⟨_, rfl, _, rfl, x, N, 4 + i, (by rw [nm_i]; rfl), ho i hi, hN10 s12, D, e, hwb _, fun q g H13 s13 hg eq => ?_⟩
      have hgg : g = ((g0 (4 + i) : Nat) : Int) := hg _ (by rw [← hm]; exact hgd _ (ho i hi))
      subst hgg
      rw [← hm] at eq
      refine ⟨q, _, rfl, SqT.of eq, rfl, _, _, rfl, _, _, rfl, rfl, ?_⟩
      have s113 := s12.trans s13
      refine ⟨_, rfl, tc, _, dxc, _, _, rfl, s113 _ _ ec, T.c_Course, T.n_Course_period, rfl, pa, rfl, ⟨_, SqL.of (s113 _ _ ep)⟩, ?_⟩
      refine lc_vals (walk_list (xs := py)) (fun l => .int ((Ch.comp (4 + i) (p.getD l (0, 0)) : Nat) : Int)) (by rw [plen]; omega) (fun H' s => SqL.of (s _ _ (s113 _ _ ep))) ?_ ?_
      · rintro l z H14 H14' Rr hl s14 ⟨rfl, hz⟩ kk
        rw [plen] at hl
        obtain ⟨prx, hprx⟩ : ∃ prx, p[l]? = some prx := ⟨_, List.getElem?_eq_getElem hl⟩
        obtain ⟨qq, g1, g2⟩ := pp.2 l prx hprx
        rw [hz] at g1
        cases g1
        have qk := kk _ (Same.refl _)
        rw [List.getD_eq_getElem?_getD, hprx] at qk
        exact ⟨rfl, _, rfl, _, rfl, qq, _, _, _, rfl, rfl, SqT.of (s14 _ _ (s113 _ _ g2)), prV_at hi, qk⟩
      intro L H14 hL s14 e14
      rw [plen] at e14
      have eL : H14 L = some (.lst ((p.map fun x => ((Ch.comp (4 + i) x : Nat) : Int)).map V.int)) := by
        rw [e14, List.map_map]; congr 2
        exact rng_map _ p _ fun i' x hx => by rw [List.getD_eq_getElem?_getD, hx]; rfl
      have hsb : (p.map (Ch.comp (4 + i))).sum ≤ p.length * 2 ^ 60 := sum_le fun x hx => by
        obtain ⟨k', rfl⟩ := hcr.toTells.mem x (List.mem_append_right _ hx)
        exact Ch.comp_small D e hs0 _ _
      refine ⟨L, _, rfl, SqL.of eL, ?_⟩
      rw [sum_cast]
      have hs80 : (p.map (Ch.comp (4 + i))).sum < 2 ^ 80 := by
        have : p.length * 2 ^ 60 ≤ 3000 * 2 ^ 60 := Nat.mul_le_mul_right _ lp
        have : (3000 : Nat) * 2 ^ 60 < 2 ^ 80 := by decide
        omega
      have hq80 : m / p.length < 2 ^ 80 := Nat.lt_of_le_of_lt (Nat.div_le_self _ _) m80
      have ediv : ((m : Nat) : Int) / ((p.length : Nat) : Int) = ((m / p.length : Nat) : Int) := (Int.natCast_ediv _ _).symm
      refine ⟨_, rfl, _, rfl, _, _, rfl, rfl, wide_div (b := 20) (by omega) (by omega) (by decide) (by decide), _, _, rfl, rfl, wide_mul (a := 80) (b := 80) (by show (((_ : Nat) : Int)).natAbs < _; exact hs80) (by rw [ediv]; exact hq80) (by decide) (by decide) (by decide), _, rfl, rfl, _, rfl, ?_⟩
      refine ite2 (fun c => (ne_no ?_ c).elim) (fun _ => ?_)
      · show V.int (_ * (((m : Nat) : Int) / ((p.length : Nat) : Int))) = V.int ((g0 (4 + i) : Nat) : Int)
        rw [ediv, hg0]; congr 1
      · exact ⟨_, _, _, _, rfl, s113.trans s14⟩
    rintro σ H11 ⟨v11, v12, v13, v14, rfl, s11⟩
    have s011 := ((s08.trans s9).trans s10).trans s11
    -- far
    refine ⟨_, rfl, a, ns, 300, 5, rfl, s011.seq ha, hn, by decide, by decide, fun d1 H12 s12 hd1 => ?_⟩
    obtain ⟨i1, i2, i3⟩ := int10 ⟨d1, by omega⟩
    refine ⟨_, _, rfl, rfl, mul0_ok ⟨d1, by omega⟩, _, _, rfl, rfl, i3, _, _, rfl, i1, i2, ?_⟩
    refine ⟨_, rfl, a, ns, 301, 1000, rfl, (s011.trans s12).seq ha, hn, by decide, by decide, fun d2 H13 s13 hd2 => ⟨_, _, rfl, rfl, ?_⟩⟩
    have s113 := (s11.trans s12).trans s13
    have d4 : 10 ^ d1 ≤ 10000 := Nat.le_trans (Nat.pow_le_pow_right (by decide) (show d1 ≤ 4 by omega)) (by decide)
    -- settle
    refine ⟨_, rfl, fun bd hbd => ⟨_, rfl, upd_same, [(ky 6, .int ((10 ^ d1 + d2 : Nat) : Int))], rfl, (by show 1 ≤ 15; decide), ?_⟩⟩
    rw [upd_upd]
    have s14 := Same.new (o := .dK (mergeK [] [(ky 6, V.int ((10 ^ d1 + d2 : Nat) : Int))])) hbd
    have ebd : upd H13 bd (.dK (mergeK [] [(ky 6, V.int ((10 ^ d1 + d2 : Nat) : Int))])) bd = some (.dK (dk [6] fun _ => .int ((10 ^ d1 + d2 : Nat) : Int))) := upd_same
    generalize upd H13 bd (.dK (mergeK [] [(ky 6, V.int ((10 ^ d1 + d2 : Nat) : Int))])) = H14 at *
    obtain ⟨far, hfar⟩ : ∃ far, far = 10 ^ d1 + d2 := ⟨_, rfl⟩
    have hf11 : far ≤ 11000 := by omega
    have s1014 := s113.trans s14
    refine ⟨x, bd, .non, N, Ch.mu far Ch.e1, Ch.z0, rfl, hN10 s1014, D, e, .inr ⟨far, by rw [hfar]; exact ebd, rfl⟩, ?_, .inl ⟨rfl, rfl⟩, hs0, fun H15 ps oa sa s15 hS => ?_⟩
    · have : Ch.S4 (Ch.mu far Ch.e1) = far * Ch.S4 Ch.e1 := Ch.S4_mul _ _
      rw [this, Ch.S4_e1]; omega
    obtain ⟨⟨dxs, ts, lsx, eps⟩, eout, estd⟩ := hS
    have s1015 := s1014.trans s15
    have hbig : ∀ z ∈ f ++ p, big z := fun z hz => by
      obtain ⟨k', rfl⟩ := hcr.toTells.mem z hz
      exact Ch.row_small D e hs0 k'
    have hCx : ∀ {H'}, Same H10 H' → CrsAt K H' tc f p := fun s => ⟨dxc, fa, pa, s _ _ ec, ⟨fy, s _ _ ef, pf.mono s⟩, ⟨py, s _ _ ep, pp.mono s⟩⟩
    have hout : ∀ o, o = 4 ∨ o = 5 → Ch.outs N Ch.z0 (Ch.mu far Ch.e1) o = Ch.tt N Ch.z0 o far := fun o ho => Ch.outs_rows C hs0 ho far
    have f200 : far < 2 ^ 200 := Nat.lt_of_le_of_lt hf11 (by decide)
    -- what settles
    refine ⟨_, rfl, tc, dxc, _, rfl, s1015 _ _ ec, rfl, _, rfl, tc, far, f, p, Ch.row N Ch.z0, (by rw [hfar]; rfl), hCx s1015, hcr.toTells, lf, lp, hbig, f200, fun H16 t1 s16 et1 => ?_⟩
    have go : DGet H16 oa (vn 4) (some (.int ((Ch.outs N Ch.z0 (Ch.mu far Ch.e1) 4 : Nat)))) := DGet.in_ (s16 _ _ eout) (u := 4) (by decide)
    have gp : DGet H16 oa (vn 5) (some (.int ((Ch.outs N Ch.z0 (Ch.mu far Ch.e1) 5 : Nat)))) := DGet.in_ (s16 _ _ eout) (u := 5) (by decide)
    refine ⟨_, rfl, ps, _, dxs, _, _, rfl, s16 _ _ eps, T.c_Settled, T.n_Settled_out, rfl, oa, _, rfl, by rw [nm_o]; exact go, ?_⟩
    refine ⟨_, rfl, ps, _, dxs, _, _, rfl, s16 _ _ eps, T.c_Settled, T.n_Settled_out, rfl, oa, _, rfl, by rw [nm_p]; exact gp, ?_⟩
    refine ⟨(by show 2 ≤ sizeLine; decide), fun t2 ht2 => ?_⟩
    have s17 := Same.new (o := .tup [.int ((Ch.outs N Ch.z0 (Ch.mu far Ch.e1) 4 : Nat)), .int ((Ch.outs N Ch.z0 (Ch.mu far Ch.e1) 5 : Nat))]) ht2
    have e17 : upd H16 t2 (.tup [.int ((Ch.outs N Ch.z0 (Ch.mu far Ch.e1) 4 : Nat)), .int ((Ch.outs N Ch.z0 (Ch.mu far Ch.e1) 5 : Nat))]) t2 = some _ := upd_same
    refine ⟨_, _, pair_dp (x := (Ch.tt N Ch.z0 4 far, Ch.tt N Ch.z0 5 far)) (s17 _ _ et1), pair_dp (x := (Ch.outs N Ch.z0 (Ch.mu far Ch.e1) 4, Ch.outs N Ch.z0 (Ch.mu far Ch.e1) 5)) e17, pair_shaped _, pair_shaped _, _, rfl, ?_⟩
    rw [pair_eqv]
    refine ite2 (fun c => (ne_no' (by rw [hout 4 (.inl rfl), hout 5 (.inr rfl)]) c).elim) (fun _ => ?_)
    have s1017 := (s1015.trans s16).trans s17
    have eps17 := s17 _ _ (s16 _ _ eps)
    have estd17 := (estd.mono s16).mono s17
    have s017 := (((((s08.trans s9).trans s10).trans s1014).trans s15).trans s16).trans s17
    clear e17
    generalize upd H16 t2 (.tup [.int ((Ch.outs N Ch.z0 (Ch.mu far Ch.e1) 4 : Nat)), .int ((Ch.outs N Ch.z0 (Ch.mu far Ch.e1) 5 : Nat))]) = H17 at *
    -- more
    refine ⟨_, rfl, _, rfl, _, rfl, a, ns, 302, 14, rfl, s017.seq ha, hn, by decide, by decide, fun d3 H18 s18 hd3 => ?_⟩
    obtain ⟨j1, j2, j3⟩ := int10 ⟨2 + d3, by omega⟩
    refine ⟨_, _, rfl, rfl, ⟨_, _, rfl, rfl, mul0_ok ⟨2 + d3, by omega⟩, ⟨_, _, rfl, rfl, j3, ⟨_, _, rfl, j1, j2, ?_⟩⟩⟩⟩
    have s1018 := s1017.trans s18
    have hj80 : 10 ^ (2 + d3) < 2 ^ 60 := Nat.lt_of_le_of_lt (Nat.pow_le_pow_right (by decide) (show 2 + d3 ≤ 15 by omega)) (by decide)
    obtain ⟨J, hJ⟩ : ∃ J, J = 10 ^ (2 + d3) := ⟨_, rfl⟩
    refine ⟨_, _, rfl, rfl, wide_mul (a := 80) (b := 60) (by show (((_ : Nat) : Int)).natAbs < _; exact m80) hj80 (by decide) (by decide) (by decide), _, _, rfl, rfl, ?_⟩
    have hmJ : m * J < 2 ^ 140 := by
      have h0 := wide_lt (i := ((m : Nat) : Int)) (j := ((J : Nat) : Int)) (a := 80) (b := 60) m80 (by rw [hJ]; exact hj80)
      rw [← Int.natCast_mul] at h0
      exact h0
    obtain ⟨mo, hmo⟩ : ∃ mo, mo = far + m * J := ⟨_, rfl⟩
    have mo200 : mo < 2 ^ 200 := by
      have : (2 : Nat) ^ 140 + 11000 < 2 ^ 200 := by decide
      omega
    have eps18 := s18 _ _ eps17
    have estd18 := estd17.mono s18
    have O18 := O10.mono s1018
    -- the outlets, twice
    refine ⟨_, rfl, x, _, dxn, _, _, rfl, O18.ob, T.c_Net, T.n_Net_outlets, rfl, ot', _, rfl, SqT.of O18.ol, ?_⟩
    refine fr_it (walk_enumT (K := K) (a := ot') (xs := [vn 4, vn 5])) (fun i σ H' => ∃ (v11 v12 v13 v14 v15 v16 : Option V), σ = [some (.ref a), some (.ref kd), some (.ref x), some (.int (p.length : Nat)), some (.int (far : Nat)), some (.ref ps), some (.int (mo : Nat)), none, none, some (.ref tc), some (.int (m : Nat)), v11, v12, v13, v14, v15, v16, none] ∧ Same H18 H') ?_ ?_ ?_ ?_
    · refine ⟨v11, v12, v13, v14, none, none, ?_, Same.refl _⟩
      rw [hmo, hfar, hJ, hm]; rfl
    · rintro i σ H' _ ⟨_, _, _, _, _, _, _, s'⟩
      exact SqT.of (s' _ _ O18.ol)
    · clear v11 v12 v13 v14
      rintro i y σ H20 H20' hi ⟨v11, v12, v13, v14, v15, v16, rfl, s20⟩ ⟨T', y1, y2, rfl, hT, rfl, e1, e2⟩
      replace hi : i < 2 := hi
      cases e1
      have e3 : y2 = vn (4 + i) := by
        have : i = 0 ∨ i = 1 := by omega
        rcases this with rfl | rfl <;> exact (Option.some.inj e2).symm
      subst e3
      clear e2
      have s21 := s20.trans (Same.new (o := .tup [.int (i : Nat), vn (4 + i)]) hT)
      refine ⟨T', _, rfl, SqT.of upd_same, rfl, _, _, rfl, _, _, rfl, rfl, ?_⟩
      generalize upd H20 T' (.tup [.int (i : Nat), vn (4 + i)]) = H21 at *
      have ox := s1018.trans s21
      refine ⟨_, rfl, _, rfl, x, N, 4 + i, (by rw [nm_i]; rfl), ho i hi, hN10 ox, D, e, hwb _, fun q g H22 s22 hg eq => ?_⟩
      have hgg : g = ((g0 (4 + i) : Nat) : Int) := hg _ (by rw [← hm]; exact hgd _ (ho i hi))
      subst hgg
      rw [← hm] at eq
      refine ⟨q, _, rfl, SqT.of eq, rfl, _, _, rfl, _, _, rfl, rfl, ?_⟩
      have ox2 := ox.trans s22
      have s1822 := s21.trans s22
      clear ox s21 s20 hT s22 eq
      obtain ⟨o, hoo⟩ : ∃ o, o = 4 + i := ⟨_, rfl⟩
      have h45 : o = 4 ∨ o = 5 := by rw [hoo]; exact ho i hi
      refine (fun rest : (∀ (H23 : Hp), Same H22 H23 → (?G1 : Hp → Prop) H23) => ?A1) ?B1
      case A1 =>
        refine ⟨_, rfl, _, rfl, tc, _, dxc, _, _, rfl, ox2 _ _ ec, T.c_Course, T.n_Course_front, rfl, fa, _, rfl, .inl (SqL.of (ox2 _ _ ef)), ?_⟩
        rw [flen]
        refine ⟨_, _, rfl, rfl, _, rfl, ?_⟩
        refine ite2 (fun c => ?_) (fun _ => ?_)
        rotate_left
        · refine iteF ?_
          exact rest H22 (Same.refl H22)
        have hfl : f.length ≤ far := by
          have h1 : ((f.length : Nat) : Int) ≤ ((far : Nat) : Int) := of_decide_eq_true c
          omega
        refine ⟨_, rfl, tc, dxc, _, rfl, ox2 _ _ ec, rfl, _, rfl, tc, mo, f, p, Ch.row N Ch.z0, rfl, hCx ox2, hcr.toTells, lf, lp, hbig, mo200, fun H23 t1 s23 et1 => ?_⟩
        have ox3 := ox2.trans s23
        refine ⟨_, rfl, t1, _, _, _, rfl, rfl, SqT.of et1, prI_at (g := fun o => Ch.tt N Ch.z0 o mo) hi, ?_⟩
        refine ⟨_, rfl, tc, dxc, _, rfl, ox3 _ _ ec, rfl, _, rfl, tc, far, f, p, Ch.row N Ch.z0, rfl, hCx ox3, hcr.toTells, lf, lp, hbig, f200, fun H24 t2 s24 et2 => ?_⟩
        refine ⟨_, rfl, t2, _, _, _, rfl, rfl, SqT.of et2, prI_at (g := fun o => Ch.tt N Ch.z0 o far) hi, ?_⟩
        have hdJ : (((mo : Nat) : Int) - ((far : Nat) : Int)) / ((m : Nat) : Int) = ((J : Nat) : Int) := by
          have : ((mo : Nat) : Int) - ((far : Nat) : Int) = ((m : Nat) : Int) * ((J : Nat) : Int) := by
            rw [hmo]; push_cast; omega
          rw [this]
          exact Int.mul_ediv_cancel_left _ (by omega)
        refine ⟨_, rfl, _, rfl, _, rfl, _, _, rfl, rfl, _, rfl, _, _, rfl, rfl, wide_div (b := 80) (by omega) (by show (((m : Nat) : Int)).natAbs < _; exact m80) (by decide) (by decide), _, _, rfl, rfl, wide_mul (a := 160) (b := 60) (by exact hgb _ (ho i hi)) (by rw [hdJ, hJ]; exact hj80) (by decide) (by decide) (by decide), _, _, rfl, rfl, rfl, _, rfl, ?_⟩
        refine ite2 (fun c => (ne_no ?_ c).elim) (fun _ => ?_)
        · show V.int ((Ch.tt N Ch.z0 (4 + i) mo : Nat) : Int) = V.int (((Ch.tt N Ch.z0 (4 + i) far : Nat) : Int) + ((g0 (4 + i) : Nat) : Int) * ((((mo : Nat) : Int) - ((far : Nat) : Int)) / ((m : Nat) : Int)))
          rw [hdJ, ← hoo]
          obtain ⟨G, hG, hS⟩ := Ch.far_sum C hs0 hcr R (Ch.wor_of D e o) h45 hfl J
          have hGg : G = g0 o := by
            have h1 := hgd o h45
            rw [hm, ← hG] at h1
            have h2 := Int.eq_of_mul_eq_mul_left (Int.ne_of_gt dp) h1
            omega
          rw [← hm, ← hmo, hGg] at hS
          congr 1
          show ((Ch.sumTo mo _ : Nat) : Int) = _
          rw [hS]; push_cast; rfl
        · exact rest H24 (s23.trans s24)
      case B1 =>
        intro H23 s23
        have ox3 := ox2.trans s23
        have s1823 := s1822.trans s23
        refine ⟨_, rfl, _, rfl, x, N, 4 + i, (by rw [nm_i]; rfl), ho i hi, hN10 ox3, D, e, fun q2 H24 s24 hq2 => ?_⟩
        have ox4 := ox3.trans s24
        refine ⟨_, rfl, _, rfl, _, rfl, x, dxn, _, rfl, (O10.mono ox4).ob, rfl, x, N, rfl, hN10 ox4, n4, fun st0 H25 _ s25 est0 => ?_⟩
        have ox5 := ox4.trans s25
        have s1825 := (s1823.trans s24).trans s25
        refine ⟨_, rfl, ps, _, dxs, _, _, rfl, s1825 _ _ eps18, T.c_Settled, T.n_Settled_standing, rfl, ?_⟩
        refine ⟨x, st0, sa, N, 4 + i, _, _, rfl, ho i hi, hN10 ox5, D, e, est0, estd18.mono s1825, hs0, C.stgE hs0 _, fun q3 c d H26 s26 eq3 d0 db cb hcd => ?_⟩
        obtain ⟨cs, dsv, eq2, dsv0, dsvD, csb, hcs⟩ := hq2
        refine ⟨_, _, rfl, ?_⟩
        have ox6 := ox5.trans s26
        have eq26 := s26 _ _ (s25 _ _ eq2)
        refine ⟨_, rfl, tc, dxc, _, rfl, ox6 _ _ ec, rfl, _, rfl, tc, far, f, p, Ch.row N Ch.z0, rfl, hCx ox6, hcr.toTells, lf, lp, hbig, f200, fun H27 t2 s27 et2 => ?_⟩
        have eq27 := s27 _ _ eq26
        have eq37 := s27 _ _ eq3
        have hT80 : Ch.tt N Ch.z0 (4 + i) far < 2 ^ 80 := by
          have h1 := Ch.tt_bd D e hs0 (4 + i) far
          have h2 : far * 2 ^ 60 ≤ 11000 * 2 ^ 60 := Nat.mul_le_mul_right _ hf11
          have h3 : (11000 : Nat) * 2 ^ 60 < 2 ^ 80 := by decide
          exact Nat.lt_of_le_of_lt (Nat.le_trans h1 h2) h3
        have ds80 : dsv.natAbs < 2 ^ 80 := by omega
        have cs80 : cs.natAbs < 2 ^ 80 := Nat.lt_of_le_of_lt csb (wnum_small D e 0)
        have hw1 := wide_lt (i := ((Ch.tt N Ch.z0 (4 + i) far : Nat) : Int)) (j := dsv) (a := 80) (b := 80) hT80 ds80
        have hf80 : (((far : Nat) : Int)).natAbs < 2 ^ 80 := by
          show far < 2 ^ 80
          exact Nat.lt_of_le_of_lt hf11 (by decide)
        have hw2 := wide_lt (i := cs) (j := ((far : Nat) : Int)) (a := 80) (b := 80) cs80 hf80
        refine ⟨_, rfl, t2, _, _, _, rfl, rfl, SqT.of et2, prI_at (g := fun o => Ch.tt N Ch.z0 o far) hi, _, rfl, q2, _, _, _, rfl, rfl, SqT.of eq27, at1, _, _, rfl, rfl, wide_mul (a := 80) (b := 80) (by exact hT80) ds80 (by decide) (by decide) (by decide), _, rfl, q3, _, _, _, rfl, rfl, SqT.of eq37, at1, _, _, rfl, rfl, wide_mul (a := 160) (b := 3300) (by exact hw1) db (by decide) (by decide) (by decide), ?_⟩
        refine ⟨_, rfl, q2, _, _, _, rfl, rfl, SqT.of eq27, at0, _, rfl, _, _, rfl, rfl, wide_mul (a := 80) (b := 80) cs80 (by exact hf80) (by decide) (by decide) (by decide), _, rfl, q3, _, _, _, rfl, rfl, SqT.of eq37, at1, _, _, rfl, rfl, wide_mul (a := 160) (b := 3300) (by exact hw2) db (by decide) (by decide) (by decide), _, rfl, q3, _, _, _, rfl, rfl, SqT.of eq37, at0, _, rfl, q2, _, _, _, rfl, rfl, SqT.of eq27, at1, _, _, rfl, rfl, wide_mul (a := 3300) (b := 80) cb ds80 (by decide) (by decide) (by decide), _, _, rfl, rfl, rfl, _, rfl, ?_⟩
        refine ite2 (fun cc => (ne_no ?_ cc).elim) (fun _ => ?_)
        · show V.int (((Ch.tt N Ch.z0 (4 + i) far : Nat) : Int) * dsv * d) = V.int (cs * ((far : Nat) : Int) * d - c * dsv)
          have hwo := Nice_tt C D e hs0 (ho i hi) far
          congr 1
          exact fin_eq dp hwo hcs hcd
        · exact ⟨_, _, _, _, _, _, rfl, ((s1825.trans s26).trans s27)⟩
    clear v11 v12 v13 v14
    rintro σ H28 ⟨v11, v12, v13, v14, v15, v16, rfl, s28⟩
    have ox8 := s1018.trans s28
    -- first_back
    refine ⟨_, rfl, _, rfl, x, dxn, _, rfl, (O10.mono ox8).ob, rfl, x, N, rfl, hN10 ox8, n4, fun st0 H29 _ s29 est0 => ?_⟩
    have ox9 := ox8.trans s29
    refine ⟨x, st0, N, Ch.z0, rfl, hN10 ox9, D, e, est0, hs0, fun H30 pb i s30 estb fix => ?_⟩
    have oxa := ox9.trans s30
    obtain ⟨B, hB⟩ : ∃ B, B = Ch.allB N (Ch.rmany N Ch.ones) := ⟨_, rfl⟩
    rw [← hB] at estb fix
    have gsB := C.stgE hs0 (Ch.mu i B)
    have B0 : 1 ≤ B 0 := by
      rw [hB]; unfold Ch.allB
      rw [if_pos (by omega)]
      exact Ch.rmany_pos e _
    have cyc := Ch.cyc_of_fix C gsB B0 fix
    refine ⟨_, rfl, _, rfl, x, .ref pb, N, _, (by rw [nm_i]; rfl), hN10 oxa, D, e, .inr ⟨pb, rfl, estb⟩, gsB, fun H31 tb f' p' s31 hCb hcb lfb lpb => ?_⟩
    have oxb := oxa.trans s31
    have hf' : f' = [] := Ch.back_front C gsB cyc hcb R
    subst hf'
    obtain ⟨dxb, fb, pb2, eb, ⟨fyb, efb, pfb⟩, ⟨pyb, epb, ppb⟩⟩ := id hCb
    have hbb : ∀ z ∈ [] ++ p', big z := fun z hz => by
      obtain ⟨k', rfl⟩ := hcb.toTells.mem z hz
      exact Ch.row_small D e gsB k'
    -- front of the way back
    refine ⟨_, rfl, tb, _, dxb, _, _, rfl, eb, T.c_Course, T.n_Course_front, rfl, (by show 0 ≤ sizeLine; exact Nat.zero_le _), fun l1 hl1 => ?_⟩
    have s32 := Same.new (o := .lst []) hl1
    have e32 : upd H31 l1 (.lst []) l1 = some (.lst []) := upd_same
    generalize upd H31 l1 (.lst []) = H32 at *
    refine ⟨_, _, pairs_dp (s32 _ _ efb) (pfb.mono s32), pairs_dp e32 PrOf.nil, pairs_shaped _, pairs_shaped _, _, rfl, ?_⟩
    rw [pairs_eqv]
    refine ite2 (fun c => by simp at c) (fun _ => ?_)
    have oxc := oxb.trans s32
    refine (fun rest : (∀ (H33 : Hp), Same H32 H33 → (?G2 : Hp → Prop) H33) => ?A2) ?B2
    case A2 =>
      refine ⟨_, rfl, tb, _, dxb, _, _, rfl, s32 _ _ eb, T.c_Course, T.n_Course_period, rfl, pb2, pyb, prk H32, rfl, SqL.of (s32 _ _ epb), prs_key (ppb.mono s32), fun zs1 l2 hz1 hz2 hl2 => ?_⟩
      have o1 := srt_of (ppb.mono s32) hz1 hz2
      have s33 := Same.new (o := .lst zs1) hl2
      have e33 : upd H32 l2 (.lst zs1) l2 = some (.lst zs1) := upd_same
      generalize upd H32 l2 (.lst zs1) = H33 at *
      have oxd := oxc.trans s33
      refine ⟨_, rfl, tc, _, dxc, _, _, rfl, oxd _ _ ec, T.c_Course, T.n_Course_period, rfl, pa, py, prk H33, rfl, SqL.of (oxd _ _ ep), prs_key (pp.mono oxd), fun zs2 l3 hz3 hz4 hl3 => ?_⟩
      have o2 := srt_of (pp.mono oxd) hz3 hz4
      have s34 := Same.new (o := .lst zs2) hl3
      have e34 : upd H33 l3 (.lst zs2) l3 = some (.lst zs2) := upd_same
      generalize upd H33 l3 (.lst zs2) = H34 at *
      have oxe := oxd.trans s34
      obtain ⟨q1, pq1, r1, b1⟩ := o1
      obtain ⟨q2, pq2, r2, b2⟩ := o2
      have s3234 := s33.trans s34
      refine ⟨_, _, pairs_dp (s34 _ _ e33) (pq1.mono s3234), pairs_dp e34 (pq2.mono s34), pairs_shaped _, pairs_shaped _, _, rfl, ?_⟩
      rw [pairs_eqv]
      refine ite2 (fun cd => ?_) (fun _ => ?_)
      rotate_left
      · refine iteF ?_
        exact rest H34 s3234
      refine ⟨_, rfl, tb, _, dxb, _, _, rfl, s3234 _ _ (s32 _ _ eb), T.c_Course, T.n_Course_period, rfl, pb2, _, rfl, .inl (SqL.of (s3234 _ _ (s32 _ _ epb))), ?_⟩
      rw [ppb.1]
      refine ⟨_, rfl, rfl, _, rfl, ?_⟩
      refine ite2 (fun c1 => ?_) (fun _ => ?_)
      rotate_left
      · refine iteF ?_
        exact rest H34 s3234
      refine ⟨_, rfl, _, rfl, rfl, _, rfl, ?_⟩
      refine ite2 (fun c2 => ?_) (fun _ => ?_)
      rotate_left
      · refine iteF ?_
        exact rest H34 s3234
      refine ⟨_, rfl, tc, _, dxc, _, _, rfl, oxe _ _ ec, T.c_Course, T.n_Course_front, rfl, (by show 0 ≤ sizeLine; exact Nat.zero_le _), fun l4 hl4 => ?_⟩
      have s35 := Same.new (o := .lst []) hl4
      have e35 : upd H34 l4 (.lst []) l4 = some (.lst []) := upd_same
      generalize upd H34 l4 (.lst []) = H35 at *
      have oxf := oxe.trans s35
      refine ⟨_, _, pairs_dp (oxf _ _ ef) (pf.mono oxf), pairs_dp e35 PrOf.nil, pairs_shaped _, pairs_shaped _, _, rfl, ?_⟩
      rw [pairs_eqv]
      refine ite2 (fun c3 => ?_) (fun _ => ?_)
      rotate_left
      · exact rest H35 (s3234.trans s35)
      exfalso
      have h1 : p'.length = p.length := by
        have := V.int.inj (of_decide_eq_true c1)
        omega
      have h2 : m = p.length := by
        have := V.int.inj (of_decide_eq_true c2)
        omega
      have h3 : f = [] := of_decide_eq_true c3
      have hpp : p' = p := Ch.back_same C hs0 (B := B) (T := Ch.rturn N Ch.ones) (by rw [hB]; exact Ch.tak_all D e) (fun u hu _ => Ch.rturn_out hu) R hcr hcb h3 rfl (by rw [← hm]; exact h2.symm) (by rw [← hm, h1]; exact h2.symm)
      rw [hpp] at b1
      have := srt_one r1 b1 r2 b2
      rw [this] at cd
      simp at cd
    case B2 =>
      intro H33 s33
      have oxd := oxc.trans s33
      have hCb33 : CrsAt K H33 tb [] p' := ⟨dxb, fb, pb2, s33 _ _ (s32 _ _ eb), ⟨fyb, s33 _ _ (s32 _ _ efb), (pfb.mono s32).mono s33⟩, ⟨pyb, s33 _ _ (s32 _ _ epb), (ppb.mono s32).mono s33⟩⟩
      have m200 : m < 2 ^ 200 := Nat.lt_trans m80 (by decide)
      have hbk : ∀ o, o = 4 ∨ o = 5 → Ch.tt N (Ch.E N Ch.z0 (Ch.mu i B)) o m = g0 o := fun o ho => by
        have h1 := C.gain (Ch.wor_of D e o) gsB (cyc.round1 C gsB R)
        rw [Ch.outs_rows C gsB ho, ← hm] at h1
        have h2 := hgd o ho
        have h3 := h1.trans h2.symm
        have h4 := Int.eq_of_mul_eq_mul_left (Int.ne_of_gt dp) h3
        have h5 : ((Ch.tt N (Ch.E N Ch.z0 (Ch.mu i B)) o m : Nat) : Int) = ((g0 o : Nat) : Int) := h4
        omega
      refine ⟨_, rfl, tb, dxb, _, rfl, s33 _ _ (s32 _ _ eb), rfl, _, rfl, tb, m, [], p', Ch.row N (Ch.E N Ch.z0 (Ch.mu i B)), rfl, hCb33, hcb.toTells, by simp, lpb, hbb, m200, fun H36 t1 s36 et1 => ?_⟩
      have oxe := oxd.trans s36
      have O36 := O10.mono oxe
      refine ⟨_, rfl, x, _, dxn, _, _, rfl, O36.ob, T.c_Net, T.n_Net_outlets, rfl, ot', rfl, ⟨_, SqT.of O36.ol⟩, ?_⟩
      refine lc_vals (walk_tup (xs := [vn 4, vn 5])) (fun l => .int ((g0 (4 + l) : Nat) : Int)) (by decide) (fun H' s => SqT.of (s _ _ O36.ol)) ?_ ?_
      · rintro l z H37 H37' Rr hl s37 ⟨rfl, hz⟩ kk
        replace hl : l < 2 := hl
        have e3 : z = vn (4 + l) := by
          have : l = 0 ∨ l = 1 := by omega
          rcases this with rfl | rfl <;> exact (Option.some.inj hz).symm
        subst e3
        refine ⟨rfl, _, rfl, _, rfl, x, N, 4 + l, (by rw [nm_i]; rfl), ho l hl, hN10 (oxe.trans s37), D, e, hwb _, fun q g H38 s38 hg eq => ?_⟩
        have hgg : g = ((g0 (4 + l) : Nat) : Int) := hg _ (by rw [← hm]; exact hgd _ (ho l hl))
        subst hgg
        exact ⟨q, _, _, _, rfl, rfl, SqT.of eq, at0, kk _ s38⟩
      intro L H37 hL s37 e37
      refine ⟨L, _, rfl, .inl ⟨SqL.of e37, fun t2 ht2 => ?_⟩⟩
      have s38 := Same.new (o := .tup ((List.range 2).map fun l => V.int ((g0 (4 + l) : Nat) : Int))) ht2
      have e38 : upd H37 t2 (.tup ((List.range 2).map fun l => V.int ((g0 (4 + l) : Nat) : Int))) t2 = some _ := upd_same
      refine ⟨_, _, pair_dp (x := (Ch.tt N (Ch.E N Ch.z0 (Ch.mu i B)) 4 m, Ch.tt N (Ch.E N Ch.z0 (Ch.mu i B)) 5 m)) (s38 _ _ (s37 _ _ et1)), pair_dp (x := (g0 4, g0 5)) e38, pair_shaped _, pair_shaped _, ?_⟩
      rw [pair_eqv, hbk 4 (.inl rfl), hbk 5 (.inr rfl), decide_eq_true rfl]
      exact k _
end
end K11
end
section
set_option Elab.async false
set_option linter.all false
set_option maxRecDepth 100000
/-! F46: all promises, one after another; the law's def at every heap. -/
namespace K11
open PySem PySem.Spec PyProof.Rows L2
open C8 (Cal Met Mak)
section
variable {P : Program} {w : World} {K : PySem.W.Frag} {mg : Str → Option Value}
theorem law_all_body (T : Txt K mg) (base : Heap) : BodyOk P w K mg base d_law ["_law_script", "_law_knots_here", "_law_net", "_law_size", "_law_far", "_law_found", "_law_more", "_law_start", "_law_back", "_law_told", "_law_many", "_law_at", "_law_outlet", "_law_got", "_law_balls", "_law_share", "_law_behind", "_law_row"] 39 (sp_law K) := by
  have h_Course_total := ok_Course_total (P := P) (w := w) (base := base) T 
  have h_Round_init := ok_Round_init (P := P) (w := w) (base := base) T 
  have h_common := ok_common (P := P) (w := w) (base := base) T 
  have h_solved := ok_solved (P := P) (w := w) (base := base) T 
  have h_Net_period := ok_Net_period (P := P) (w := w) (base := base) T 
  have h_Net_turned := ok_Net_turned (P := P) (w := w) (base := base) T 
  have h_lattice := ok_lattice (P := P) (w := w) (base := base) T (c_Net_period := h_Net_period) (c_Net_turned := h_Net_turned)
  have h_knot_of := ok_knot_of (P := P) (w := w) (base := base) T 
  have h_minors_of := ok_minors_of (P := P) (w := w) (base := base) T 
  have h_check_net := ok_check_net (P := P) (w := w) (base := base) T 
  have h_ends := ok_ends (P := P) (w := w) (base := base) T (c_minors_of := h_minors_of) (c_lattice := h_lattice) (c_check_net := h_check_net)
  have h_check_ends := ok_check_ends (P := P) (w := w) (base := base) T (c_ends := h_ends) (c_check_net := h_check_net)
  have h_round_of := ok_round_of (P := P) (w := w) (base := base) T (c_Round_init := h_Round_init) (c_common := h_common) (c_solved := h_solved) (c_lattice := h_lattice) (c_knot_of := h_knot_of) (c_check_ends := h_check_ends)
  have h_Shares_init := ok_Shares_init (P := P) (w := w) (base := base) T 
  have h_lowered := ok_lowered (P := P) (w := w) (base := base) T (c_common := h_common)
  have h_check_outlet := ok_check_outlet (P := P) (w := w) (base := base) T 
  have h_shares := ok_shares (P := P) (w := w) (base := base) T (c_Shares_init := h_Shares_init) (c_lowered := h_lowered) (c_solved := h_solved) (c_Net_turned := h_Net_turned) (c_lattice := h_lattice) (c_check_outlet := h_check_outlet) (c_check_ends := h_check_ends)
  have h_share_of := ok_share_of (P := P) (w := w) (base := base) T (c_shares := h_shares) (c_knot_of := h_knot_of) (c_check_ends := h_check_ends)
  have h_gained := ok_gained (P := P) (w := w) (base := base) T (c_round_of := h_round_of) (c_share_of := h_share_of)
  have h_Course_init := ok_Course_init (P := P) (w := w) (base := base) T 
  have h_shortest := ok_shortest (P := P) (w := w) (base := base) T 
  have h_Settled_init := ok_Settled_init (P := P) (w := w) (base := base) T 
  have h_Board_first_waiting := ok_Board_first_waiting (P := P) (w := w) (base := base) T 
  have h_Net_front := ok_Net_front (P := P) (w := w) (base := base) T 
  have h_Net_place_behind := ok_Net_place_behind (P := P) (w := w) (base := base) T (c_Net_period := h_Net_period) (c_Net_front := h_Net_front)
  have h_count := ok_count (P := P) (w := w) (base := base) T 
  have h_Net_dropped := ok_Net_dropped (P := P) (w := w) (base := base) T (c_count := h_count)
  have h_Board_take := ok_Board_take (P := P) (w := w) (base := base) T (c_Net_place_behind := h_Net_place_behind) (c_Net_dropped := h_Net_dropped)
  have h_Board_init := ok_Board_init (P := P) (w := w) (base := base) T 
  have h_Net_start := ok_Net_start (P := P) (w := w) (base := base) T 
  have h_is_number := ok_is_number (P := P) (w := w) (base := base) T 
  have h_Net_check_standing := ok_Net_check_standing (P := P) (w := w) (base := base) T (c_Net_front := h_Net_front) (c_Net_period := h_Net_period) (c_is_number := h_is_number)
  have h_check_balls := ok_check_balls (P := P) (w := w) (base := base) T (c_is_number := h_is_number)
  have h_begun := ok_begun (P := P) (w := w) (base := base) T (c_Board_init := h_Board_init) (c_Net_start := h_Net_start) (c_Net_check_standing := h_Net_check_standing) (c_check_balls := h_check_balls) (c_check_net := h_check_net)
  have h_settle := ok_settle (P := P) (w := w) (base := base) T (c_Settled_init := h_Settled_init) (c_Board_first_waiting := h_Board_first_waiting) (c_Board_take := h_Board_take) (c_begun := h_begun) (c_ends := h_ends) (c_check_net := h_check_net)
  have h_check_entry := ok_check_entry (P := P) (w := w) (base := base) T 
  have h_course := ok_course (P := P) (w := w) (base := base) T (c_Course_init := h_Course_init) (c_shortest := h_shortest) (c_settle := h_settle.1) (c_check_entry := h_check_entry)
  have h_standing_behind := ok_standing_behind (P := P) (w := w) (base := base) T (c_Board_first_waiting := h_Board_first_waiting) (c_Board_take := h_Board_take) (c_Board_init := h_Board_init)
  have h_whole_round := ok_whole_round (P := P) (w := w) (base := base) T (c_common := h_common) (c_solved := h_solved) (c_lattice := h_lattice)
  have h_first_back := ok_first_back (P := P) (w := w) (base := base) T (c_standing_behind := h_standing_behind) (c_whole_round := h_whole_round) (c_Net_check_standing := h_Net_check_standing) (c_check_ends := h_check_ends)
  have h_Levels_init := ok_Levels_init (P := P) (w := w) (base := base) T 
  have h_drops_of := ok_drops_of (P := P) (w := w) (base := base) T 
  have h_worth_of := ok_worth_of (P := P) (w := w) (base := base) T 
  have h_levels := ok_levels (P := P) (w := w) (base := base) T (c_Levels_init := h_Levels_init) (c_drops_of := h_drops_of) (c_worth_of := h_worth_of) (c_lowered := h_lowered) (c_shares := h_shares)
  have h_lag := ok_lag (P := P) (w := w) (base := base) T (c_lowered := h_lowered) (c_Net_check_standing := h_Net_check_standing) (c_levels := h_levels)
  have h_w_draw := ok_w_draw (P := P) (w := w) (base := base) T 
  have h_Net_met := ok_Net_met (P := P) (w := w) (base := base) T 
  have h_is_row := ok_is_row (P := P) (w := w) (base := base) T 
  have h_is_knot := ok_is_knot (P := P) (w := w) (base := base) T (c_is_row := h_is_row)
  have h_is_name := ok_is_name (P := P) (w := w) (base := base) T 
  have h_first_wrong := ok_first_wrong (P := P) (w := w) (base := base) T (c_is_name := h_is_name)
  have h_Net_init := ok_Net_init (P := P) (w := w) (base := base) T (c_Net_met := h_Net_met) (c_is_knot := h_is_knot) (c_first_wrong := h_first_wrong)
  have h_w_inlets := ok_w_inlets (P := P) (w := w) (base := base) T (c_w_draw := h_w_draw)
  have h_w_det := ok_w_det (P := P) (w := w) (base := base) T 
  have h_w_falls := ok_w_falls (P := P) (w := w) (base := base) T 
  have h_w_matrix := ok_w_matrix (P := P) (w := w) (base := base) T (c__law_falls := h_w_falls)
  have h_w_does_end := ok_w_does_end (P := P) (w := w) (base := base) T (c__law_det := h_w_det) (c__law_matrix := h_w_matrix)
  have h_w_rounds_for := ok_w_rounds_for (P := P) (w := w) (base := base) T 
  have h_w_is_quick := ok_w_is_quick (P := P) (w := w) (base := base) T (c__law_rounds_for := h_w_rounds_for)
  have h_w_knots := ok_w_knots (P := P) (w := w) (base := base) T (c__law_draw := h_w_draw)
  exact law_body T (c_Course_total := h_Course_total) (c_gained := h_gained) (c_course1 := h_course.1) (c_course := h_course.2) (c_first_back := h_first_back) (c_Net_start := h_Net_start) (c_lag := h_lag) (c_share_of := h_share_of) (c__law_draw := h_w_draw) (c_settle := h_settle.2) (c_round_of := h_round_of) (c_Net_init := h_Net_init) (c__law_inlets := h_w_inlets) (c__law_does_end := h_w_does_end) (c__law_det := h_w_det) (c__law_matrix := h_w_matrix) (c__law_is_quick := h_w_is_quick) (c__law_knots := h_w_knots)
theorem law_fn (T : Txt K mg) : ∃ fd : FuncData, (∀ (s : Shared) (v : Value), BindsTo s fd ⟨[v], []⟩ [("_law_script", v)]) ∧ ∀ base : Heap, FnOk P w K mg base CX0 40 (He.fAd K d_law.at_) fd ["_law_script"] (sp_law K) := by
  obtain ⟨fd, F⟩ := T.d_law
  have F' : FunD K d_law.name d_law.qual d_law.params d_law.body d_law.scope [] [] (He.fAd K d_law.at_) fd := F
  refine ⟨fd, fun s v => FunD.bindsA (ps := ["_law_script"]) F' (fun _ _ _ _ _ _ us hl => match us, hl with | [_], _ => rfl) s [v] rfl, fun base => fn_mk F sc_law (fun vs H Q E h => ?_) (law_all_body T base)⟩
  obtain ⟨_, _, rfl, _⟩ := h
  rfl
end
end K11
end
set_option Elab.async false
set_option linter.all false
set_option maxRecDepth 100000
set_option maxHeartbeats 0
namespace K11
open PySem PySem.Spec PyProof.Rows L2
open C8 (Cal Met Mak)
def spLaw (K : PySem.W.Frag) : Sp := fun vs H Q _ => ∃ (a : Addr) (ns : List Int), vs = [.ref a] ∧ SqL K H a (ns.map V.int) ∧ ns.length ≤ 63 ∧ ∀ H', Q (.bl true) H'
theorem law_all {P : Program} {w : World} {K : PySem.W.Frag} {h : Heap} {mg : Str → Option Value} {f : Addr} (X : K.In h) (G : h.Ns mainGlobals mg) (hfa : mg ("law" : Str) = some (.ref f)) (c : He.SaysD fa fn K) (ci : inscB "Net" K = true) :
    ∃ fd : FuncData, (∀ (s : Shared) (v : Value), BindsTo s fd ⟨[v], []⟩ [("_law_script", v)]) ∧ ∀ base : Heap, K.In base → base.Ns mainGlobals mg → FnOk P w K mg base CX0 40 f fd ["_law_script"] (spLaw K) := by
  have T : Txt K mg := ⟨c, ci, h, X, G⟩
  obtain ⟨fd, hb, hF⟩ := law_fn (P := P) (w := w) T
  have g := T.g_law
  rw [hfa] at g
  have e : f = He.ga K "law" := Value.ref.inj (Option.some.inj g)
  subst e
  exact ⟨fd, hb, fun base _ _ => hF base⟩
end K11
open PySem PySem.W PySem.Calls PyProof.Rows
theorem PySem.Challenge.cw_ballchutes_k11_whole_far_courses_holds : PySem.Challenge.rw_ballchutes_k11_whole_far_courses.Holds := by
  w_on; o_law
  refine HandSHeadRun.head_any (r := OpenLaw.row PySem.Challenge.rw_ballchutes_k11_whole_far_courses) (q := view (OpenLaw.row PySem.Challenge.rw_ballchutes_k11_whole_far_courses).prog [73]) (H := K11.hk) (ob := K11.ob) (M := 7000) (loose := K11.names) (d := HandSHeadRun.topDef (OpenLaw.row PySem.Challenge.rw_ballchutes_k11_whole_far_courses).prog 73) (kwd := []) K11.ob_eq
    (by kernel_rfl) (fun s => by kernel_rfl) K11.run (by kernel_rfl) (by kernel_rfl) (by kernel_rfl) (by rfl) (by first | assumption | decide +kernel) (by decide +kernel) ⟨rfl, rfl, rfl, rfl, rfl, by decide +kernel⟩ ?hw ?hc
  case hw => w_witness2
  case hc =>
    refine L2.walk_ofE (l := PySem.Challenge.rw_ballchutes_k11_whole_far_courses) (n := 63) (k := 40) (x := "_law_script") (CX := L2.CX0) rfl (by decide) (by kernel_rfl) ⟨rfl, by decide, by decide⟩ ?F (fun _ _ _ _ z => z)
    intro w mg fa h Y G hmg0
    obtain ⟨K, KX, c, ci⟩ := Y
    have hmg : mg ("law" : PySem.Str) = some (.ref fa) := by
      have e : (HandSHeadRun.topDef (OpenLaw.row PySem.Challenge.rw_ballchutes_k11_whole_far_courses).prog 73).name = ("law" : PySem.Str) := by kernel_rfl
      rw [← e]
      exact hmg0
    obtain ⟨fd, hb, hF⟩ := K11.law_all (P := (PySem.Challenge.rw_ballchutes_k11_whole_far_courses).prog) (w := w) KX G hmg c ci
    exact ⟨K, fd, K11.spLaw K, KX, hb, fun H a ns hl _ hS => ⟨a, ns, rfl, hS, hl, fun _ => rfl⟩, hF⟩
