import PyProof.Rows.All
import Wide.All
import OpenK.AllK
import Wide.FinOn
import HandS.ForMost
import HandS.ForExc
import HandS.IsInst
import HandS.DictComp
import HandS.Walk
import HandS.Style
import HandS.Conv
import HandS.Codes
import HandS.Defaults
import HandS.Small
import HandS.RaiseMore
import HandS.TupAny
import HandS.ListItems
import HandS.Star
import KE.GoesEnum
import HandS.ExcField
import HandS.ExcInit
import KE.KExcSuper
import HandS.DeepEq
import PyProof.MeetsIn
import HandS.SlotsOwn
import HandS.CallSlots
import HandS.GenCall
import HandS.GenList
import KE.KDictList
import KE.KEqSeq
import PyProof.ListStr
import HandS.HeadEnd
import HandS.HeadHook1
import HandS.HeadHook2
import HandS.Head0
import HandS.Head1
import HandS.Head2
import KE.KStateDown
import PySem.Challenge.RW_ballchutes_k18_whole_settled_things
set_option Elab.async false
set_option autoImplicit false
set_option linter.all false
/-! M0a: Bareiss and Laplace on matrices of at most four rows. -/
namespace Bal

/-- the rows of a matrix -/
def tabOf (n : Nat) (a : Nat → Nat → Int) : List (List Int) := (List.range n).map fun i => (List.range n).map fun j => a i j

/-! ### Laplace, as the law reckons -/
def less (i : Nat) (rows : List (List Int)) : List (List Int) := (rows.eraseIdx i).map (·.drop 1)
def hd0 (rows : List (List Int)) (i : Nat) : Int := (rows.getD i []).getD 0 0
def sgn (i : Nat) : Int := if i % 2 = 0 then 1 else -1
mutual
def detL : Nat → List (List Int) → Int
  | 0, _ => 1
  | m + 1, rows => if rows = [] then 1 else detS m rows rows.length
def detS : Nat → List (List Int) → Nat → Int
  | _, _, 0 => 0
  | m, rows, i + 1 => detS m rows i + sgn i * hd0 rows i * detL m (less i rows)
end
def lead (k : Nat) (rows : List (List Int)) : List (List Int) := (rows.take k).map (·.take k)
/-- the leading minors -/
def minor (rows : List (List Int)) (k : Nat) : Int := detL k (lead k rows)

/-! ### Bareiss, as the program reckons -/
def cell (tab : List (List Int)) (i j : Nat) : Int := (tab.getD i []).getD j 0
def brow (p f b : Int) (rl ra : List Int) : List Int := List.zipWith (fun h t => (p * h - f * t) / b) rl ra
/-- the rows behind at, so many of them -/
def bcols (at_ : Nat) (b : Int) (tab : List (List Int)) : Nat → List (List Int)
  | 0 => tab
  | m + 1 => let t := bcols at_ b tab m
    t.set (at_ + 1 + m) (brow (cell tab at_ at_) (cell t (at_ + 1 + m) at_) b (t.getD (at_ + 1 + m) []) (t.getD at_ []))
/-- the pivots from at on, r rows left -/
def brun : Nat → Nat → Int → List (List Int) → List Int
  | 0, _, _, _ => []
  | r + 1, at_, b, tab => if cell tab at_ at_ ≤ 0 then [cell tab at_ at_] else cell tab at_ at_ :: brun r (at_ + 1) (cell tab at_ at_) (bcols at_ b tab r)

section
variable (a : Nat → Nat → Int)
abbrev m1 : Int := a 0 0
abbrev m2 (i j : Nat) : Int := a 0 0 * a i j - a i 0 * a 0 j
abbrev m3 (i j : Nat) : Int := a 0 0 * (a 1 1 * a i j - a 1 j * a i 1) - a 0 1 * (a 1 0 * a i j - a 1 j * a i 0) + a 0 j * (a 1 0 * a i 1 - a 1 1 * a i 0)
abbrev m4 : Int := a 0 0 * (a 1 1 * (a 2 2 * a 3 3 - a 2 3 * a 3 2) - a 1 2 * (a 2 1 * a 3 3 - a 2 3 * a 3 1) + a 1 3 * (a 2 1 * a 3 2 - a 2 2 * a 3 1))
  - a 0 1 * (a 1 0 * (a 2 2 * a 3 3 - a 2 3 * a 3 2) - a 1 2 * (a 2 0 * a 3 3 - a 2 3 * a 3 0) + a 1 3 * (a 2 0 * a 3 2 - a 2 2 * a 3 0))
  + a 0 2 * (a 1 0 * (a 2 1 * a 3 3 - a 2 3 * a 3 1) - a 1 1 * (a 2 0 * a 3 3 - a 2 3 * a 3 0) + a 1 3 * (a 2 0 * a 3 1 - a 2 1 * a 3 0))
  - a 0 3 * (a 1 0 * (a 2 1 * a 3 2 - a 2 2 * a 3 1) - a 1 1 * (a 2 0 * a 3 2 - a 2 2 * a 3 0) + a 1 2 * (a 2 0 * a 3 1 - a 2 1 * a 3 0))

theorem m2_m3 (i j : Nat) : m2 a 1 1 * m2 a i j - m2 a i 1 * m2 a 1 j = a 0 0 * m3 a i j := by
  simp only [m2, m3]; grind
theorem m3_m4 : m3 a 2 2 * m3 a 3 3 - m3 a 3 2 * m3 a 2 3 = m2 a 1 1 * m4 a := by
  simp only [m2, m3, m4]; grind

theorem range1 : List.range 1 = [0] := rfl
theorem range2 : List.range 2 = [0, 1] := rfl
theorem range3 : List.range 3 = [0, 1, 2] := rfl
theorem range4 : List.range 4 = [0, 1, 2, 3] := rfl

theorem minor1 (n : Nat) (h : 1 ≤ n ∧ n ≤ 4) : minor (tabOf n a) 1 = m1 a := by
  obtain ⟨h1, h2⟩ := h
  have : n = 1 ∨ n = 2 ∨ n = 3 ∨ n = 4 := by omega
  rcases this with rfl | rfl | rfl | rfl <;>
    simp [minor, tabOf, lead, range1, range2, range3, range4, detL, detS, less, hd0, sgn, m1]
theorem minor2 (n : Nat) (h : 2 ≤ n ∧ n ≤ 4) : minor (tabOf n a) 2 = m2 a 1 1 := by
  obtain ⟨h1, h2⟩ := h
  have : n = 2 ∨ n = 3 ∨ n = 4 := by omega
  rcases this with rfl | rfl | rfl <;>
    (simp [minor, tabOf, lead, range1, range2, range3, range4, detL, detS, less, hd0, sgn, m2]; try grind)
theorem minor3 (n : Nat) (h : 3 ≤ n ∧ n ≤ 4) : minor (tabOf n a) 3 = m3 a 2 2 := by
  obtain ⟨h1, h2⟩ := h
  have : n = 3 ∨ n = 4 := by omega
  rcases this with rfl | rfl <;>
    (simp [minor, tabOf, lead, range1, range2, range3, range4, detL, detS, less, hd0, sgn, m3]; try grind)
theorem minor4 : minor (tabOf 4 a) 4 = m4 a := by
  simp [minor, tabOf, lead, range1, range2, range3, range4, detL, detS, less, hd0, sgn, m4]; try grind

theorem exact_div {x y z b : Int} (h : x - y = b * z) (hb : 0 < b) : (x - y) / b = z := by
  rw [h]; exact Int.mul_ediv_cancel_left _ (by omega)

theorem brun1 (h1 : 0 < m1 a) : brun 1 0 1 (tabOf 1 a) = [m1 a] := by
  have n1 : ¬ (a 0 0 ≤ 0) := by simp only [m1] at h1; omega
  simp [brun, tabOf, range1, cell, n1, m1]
theorem brun2 (h1 : 0 < m1 a) (h2 : 0 < m2 a 1 1) : brun 2 0 1 (tabOf 2 a) = [m1 a, m2 a 1 1] := by
  have n1 : ¬ (a 0 0 ≤ 0) := by simp only [m1] at h1; omega
  have n2 : ¬ (a 0 0 * a 1 1 - a 1 0 * a 0 1 ≤ 0) := by simp only [m2] at h2; omega
  simp [brun, bcols, brow, tabOf, range2, cell, n1, n2, m1, m2]
theorem brun3 (h1 : 0 < m1 a) (h2 : 0 < m2 a 1 1) (h3 : 0 < m3 a 2 2) : brun 3 0 1 (tabOf 3 a) = [m1 a, m2 a 1 1, m3 a 2 2] := by
  have n1 : ¬ (a 0 0 ≤ 0) := by simp only [m1] at h1; omega
  have n2 : ¬ (a 0 0 * a 1 1 - a 1 0 * a 0 1 ≤ 0) := by simp only [m2] at h2; omega
  have e := exact_div (m2_m3 a 2 2) h1
  have n3 : ¬ (m3 a 2 2 ≤ 0) := by omega
  simp only [m2] at e
  simp [brun, bcols, brow, tabOf, range3, cell, n1, n2, e, n3]
theorem brun4 (h1 : 0 < m1 a) (h2 : 0 < m2 a 1 1) (h3 : 0 < m3 a 2 2) (h4 : 0 < m4 a) : brun 4 0 1 (tabOf 4 a) = [m1 a, m2 a 1 1, m3 a 2 2, m4 a] := by
  have n1 : ¬ (a 0 0 ≤ 0) := by simp only [m1] at h1; omega
  have n2 : ¬ (a 0 0 * a 1 1 - a 1 0 * a 0 1 ≤ 0) := by simp only [m2] at h2; omega
  have e22 := exact_div (m2_m3 a 2 2) h1
  have e23 := exact_div (m2_m3 a 2 3) h1
  have e32 := exact_div (m2_m3 a 3 2) h1
  have e33 := exact_div (m2_m3 a 3 3) h1
  have n3 : ¬ (m3 a 2 2 ≤ 0) := by omega
  have e4 := exact_div (m3_m4 a) h2
  have n4 : ¬ (m4 a ≤ 0) := by omega
  simp only [m2] at e22 e23 e32 e33 e4
  simp [brun, bcols, brow, tabOf, range4, cell, n1, n2, e22, e23, e32, e33, n3, e4, n4]
/-- all leading minors positive: so many pivots, the last one positive -/
theorem brun_pos (n : Nat) (h : 1 ≤ n ∧ n ≤ 4) (hm : ∀ k, 1 ≤ k → k ≤ n → 0 < minor (tabOf n a) k) : ∃ l z, brun n 0 1 (tabOf n a) = l ++ [z] ∧ 0 < z ∧ l.length + 1 = n := by
  have g1 := hm 1 (by omega) (by omega)
  rw [minor1 a n (by omega)] at g1
  by_cases c2 : 2 ≤ n
  · have g2 := hm 2 (by omega) (by omega)
    rw [minor2 a n (by omega)] at g2
    by_cases c3 : 3 ≤ n
    · have g3 := hm 3 (by omega) (by omega)
      rw [minor3 a n (by omega)] at g3
      by_cases c4 : 4 ≤ n
      · have e : n = 4 := by omega
        subst e
        have g4 := hm 4 (by omega) (by omega)
        rw [minor4 a] at g4
        exact ⟨[m1 a, m2 a 1 1, m3 a 2 2], m4 a, brun4 a g1 g2 g3 g4, g4, rfl⟩
      · have e : n = 3 := by omega
        subst e
        exact ⟨[m1 a, m2 a 1 1], m3 a 2 2, brun3 a g1 g2 g3, g3, rfl⟩
    · have e : n = 2 := by omega
      subst e
      exact ⟨[m1 a], m2 a 1 1, brun2 a g1 g2, g2, rfl⟩
  · have e : n = 1 := by omega
    subst e
    exact ⟨[], m1 a, brun1 a g1, g1, rfl⟩

/-! ### padding to four rows -/
def pad (n : Nat) (i j : Nat) : Int := if i < n ∧ j < n then a i j else if i = j then 1 else 0
theorem pad_pos (n : Nat) (h : 1 ≤ n ∧ n ≤ 4) (hm : ∀ k, 1 ≤ k → k ≤ n → 0 < minor (tabOf n a) k) :
    0 < m1 (pad a n) ∧ 0 < m2 (pad a n) 1 1 ∧ 0 < m3 (pad a n) 2 2 ∧ 0 < m4 (pad a n) := by
  have g1 := hm 1 (by omega) (by omega)
  rw [minor1 a n (by omega)] at g1
  by_cases c2 : 2 ≤ n
  · have g2 := hm 2 (by omega) (by omega)
    rw [minor2 a n (by omega)] at g2
    by_cases c3 : 3 ≤ n
    · have g3 := hm 3 (by omega) (by omega)
      rw [minor3 a n (by omega)] at g3
      by_cases c4 : 4 ≤ n
      · have e : n = 4 := by omega
        subst e
        have g4 := hm 4 (by omega) (by omega)
        rw [minor4 a] at g4
        simp only [m1, m2, m3, m4] at g1 g2 g3 g4
        refine ⟨?_, ?_, ?_, ?_⟩ <;> simp [m1, m2, m3, m4, pad] <;> grind
      · have e : n = 3 := by omega
        subst e
        simp only [m1, m2, m3] at g1 g2 g3
        refine ⟨?_, ?_, ?_, ?_⟩ <;> simp [m1, m2, m3, m4, pad] <;> grind
    · have e : n = 2 := by omega
      subst e
      simp only [m1, m2] at g1 g2
      refine ⟨?_, ?_, ?_, ?_⟩ <;> simp [m1, m2, m3, m4, pad] <;> grind
  · have e : n = 1 := by omega
    subst e
    simp only [m1] at g1
    refine ⟨?_, ?_, ?_, ?_⟩ <;> simp [m1, m2, m3, m4, pad] <;> grind

/-! ### weights -/
theorem sch_le {x y u v : Int} (hx : 0 < x) (hy : y ≤ 0) (hu : u ≤ 0) (hv : v ≤ 0) : x * y - u * v ≤ 0 := by
  have e1 : 0 ≤ x * (-y) := Int.mul_nonneg (by omega) (by omega)
  have e2 : 0 ≤ (-u) * (-v) := Int.mul_nonneg (by omega) (by omega)
  have e3 : x * (-y) = -(x * y) := by grind
  have e4 : (-u) * (-v) = u * v := by grind
  omega
theorem sch_pos {x y u v : Int} (hx : 0 < x) (hy : 0 < y) (hu : u ≤ 0) (hv : 0 < v) : 0 < x * y - u * v := by
  have e1 : 0 < x * y := Int.mul_pos hx hy
  have e2 : 0 ≤ (-u) * v := Int.mul_nonneg (by omega) (by omega)
  have e4 : (-u) * v = -(u * v) := by grind
  omega
theorem back_nn {D p : Int} (hD : 0 < D) (hp : 0 < p) {x y z u v w : Int} (hx : x ≤ 0) (hy : y ≤ 0) (hz : z ≤ 0) (hu : 0 ≤ u) (hv : 0 ≤ v) (hw : 0 ≤ w) : 0 ≤ D * p - x * u - y * v - z * w := by
  have e1 : 0 < D * p := Int.mul_pos hD hp
  have e2 : 0 ≤ (-x) * u := Int.mul_nonneg (by omega) hu
  have e3 : 0 ≤ (-y) * v := Int.mul_nonneg (by omega) hv
  have e4 : 0 ≤ (-z) * w := Int.mul_nonneg (by omega) hw
  have f2 : (-x) * u = -(x * u) := by grind
  have f3 : (-y) * v = -(y * v) := by grind
  have f4 : (-z) * w = -(z * w) := by grind
  omega
theorem wts2 {a b c d p q : Int} (ha : 0 < a) (hs : 0 < a * d - c * b) (hb : b ≤ 0) (hc : c ≤ 0) (hp : 0 < p) (hq : 0 < q) :
    ∃ D x y : Int, 0 < D ∧ 0 ≤ x ∧ 0 ≤ y ∧ a * x + b * y = D * p ∧ c * x + d * y = D * q := by
  have q1 := sch_pos ha hq hc hp
  refine ⟨a * (a * d - c * b), (a * d - c * b) * p - b * (a * q - c * p), a * (a * q - c * p), Int.mul_pos ha hs, ?_, Int.le_of_lt (Int.mul_pos ha q1), by grind, by grind⟩
  have e := back_nn hs hp hb (y := 0) (z := 0) (by omega) (by omega) (Int.le_of_lt q1) (v := 0) (w := 0) (by omega) (by omega)
  omega
theorem wts3 {a b c d e f g h i p q r : Int} (ha : 0 < a) (h2 : 0 < a * e - d * b) (h3 : 0 < (a * e - d * b) * (a * i - g * c) - (a * h - g * b) * (a * f - d * c))
    (hb : b ≤ 0) (hc : c ≤ 0) (hd : d ≤ 0) (hf : f ≤ 0) (hg : g ≤ 0) (hh : h ≤ 0) (hp : 0 < p) (hq : 0 < q) (hr : 0 < r) :
    ∃ D x y z : Int, 0 < D ∧ 0 ≤ x ∧ 0 ≤ y ∧ 0 ≤ z ∧ a * x + b * y + c * z = D * p ∧ d * x + e * y + f * z = D * q ∧ g * x + h * y + i * z = D * r := by
  obtain ⟨D, y, z, hD, hy, hz, e1, e2⟩ := wts2 h2 h3 (sch_le ha hf hd hc) (sch_le ha hh hg hb) (sch_pos ha hq hd hp) (sch_pos ha hr hg hp)
  refine ⟨a * D, D * p - b * y - c * z, a * y, a * z, Int.mul_pos ha hD, ?_, Int.mul_nonneg (by omega) hy, Int.mul_nonneg (by omega) hz, by grind, by grind, by grind⟩
  have e := back_nn hD hp hb hc (z := 0) (by omega) hy hz (w := 0) (by omega)
  omega
/-- a matrix with no positive entry off its diagonal and positive leading minors: weights -/
theorem weights (p : Nat → Int) (hz : ∀ i j, i < 4 → j < 4 → i ≠ j → a i j ≤ 0) (h1 : 0 < m1 a) (h2 : 0 < m2 a 1 1) (h3 : 0 < m3 a 2 2) (h4 : 0 < m4 a) (hp : ∀ i, i < 4 → 0 < p i) :
    ∃ D w0 w1 w2 w3 : Int, 0 < D ∧ 0 ≤ w0 ∧ 0 ≤ w1 ∧ 0 ≤ w2 ∧ 0 ≤ w3 ∧ a 0 0 * w0 + a 0 1 * w1 + a 0 2 * w2 + a 0 3 * w3 = D * p 0 ∧ a 1 0 * w0 + a 1 1 * w1 + a 1 2 * w2 + a 1 3 * w3 = D * p 1 ∧
      a 2 0 * w0 + a 2 1 * w1 + a 2 2 * w2 + a 2 3 * w3 = D * p 2 ∧ a 3 0 * w0 + a 3 1 * w1 + a 3 2 * w2 + a 3 3 * w3 = D * p 3 := by
  have z : ∀ i j, i < 4 → j < 4 → i ≠ j → a i j ≤ 0 := hz
  have ha : 0 < a 0 0 := h1
  have k2 : 0 < a 0 0 * a 1 1 - a 1 0 * a 0 1 := h2
  have q2 : 0 < m2 a 1 1 * m2 a 2 2 - m2 a 2 1 * m2 a 1 2 := by
    rw [m2_m3]; exact Int.mul_pos ha h3
  have q3 : 0 < (m2 a 1 1 * m2 a 2 2 - m2 a 2 1 * m2 a 1 2) * (m2 a 1 1 * m2 a 3 3 - m2 a 3 1 * m2 a 1 3) - (m2 a 1 1 * m2 a 3 2 - m2 a 3 1 * m2 a 1 2) * (m2 a 1 1 * m2 a 2 3 - m2 a 2 1 * m2 a 1 3) := by
    rw [m2_m3, m2_m3, m2_m3, m2_m3]
    have e : a 0 0 * m3 a 2 2 * (a 0 0 * m3 a 3 3) - a 0 0 * m3 a 3 2 * (a 0 0 * m3 a 2 3) = a 0 0 * a 0 0 * (m3 a 2 2 * m3 a 3 3 - m3 a 3 2 * m3 a 2 3) := by
      generalize m3 a 2 2 = x; generalize m3 a 3 3 = y; generalize m3 a 3 2 = u; generalize m3 a 2 3 = v
      grind
    rw [e, m3_m4]
    exact Int.mul_pos (Int.mul_pos ha ha) (Int.mul_pos h2 h4)
  have sl : ∀ i j, 1 ≤ i → 1 ≤ j → i < 4 → j < 4 → i ≠ j → m2 a i j ≤ 0 := fun i j c1 c2 c3 c4 c5 => sch_le ha (z i j c3 c4 c5) (z i 0 c3 (by omega) (by omega)) (z 0 j (by omega) c4 (by omega))
  have sp : ∀ i, 1 ≤ i → i < 4 → 0 < a 0 0 * p i - a i 0 * p 0 := fun i c1 c2 => sch_pos ha (hp i c2) (z i 0 c2 (by omega) (by omega)) (hp 0 (by omega))
  obtain ⟨D, x, y, w, hD, hx, hy, hw, e1, e2, e3⟩ := wts3 (a := m2 a 1 1) (b := m2 a 1 2) (c := m2 a 1 3) (d := m2 a 2 1) (e := m2 a 2 2) (f := m2 a 2 3) (g := m2 a 3 1) (h := m2 a 3 2) (i := m2 a 3 3) h2 q2 q3
    (sl 1 2 (by omega) (by omega) (by omega) (by omega) (by omega)) (sl 1 3 (by omega) (by omega) (by omega) (by omega) (by omega)) (sl 2 1 (by omega) (by omega) (by omega) (by omega) (by omega))
    (sl 2 3 (by omega) (by omega) (by omega) (by omega) (by omega)) (sl 3 1 (by omega) (by omega) (by omega) (by omega) (by omega)) (sl 3 2 (by omega) (by omega) (by omega) (by omega) (by omega))
    (sp 1 (by omega) (by omega)) (sp 2 (by omega) (by omega)) (sp 3 (by omega) (by omega))
  have z1 := z 0 1 (by omega) (by omega) (by omega)
  have z2 := z 0 2 (by omega) (by omega) (by omega)
  have z3 := z 0 3 (by omega) (by omega) (by omega)
  refine ⟨a 0 0 * D, D * p 0 - a 0 1 * x - a 0 2 * y - a 0 3 * w, a 0 0 * x, a 0 0 * y, a 0 0 * w, Int.mul_pos ha hD, back_nn hD (hp 0 (by omega)) z1 z2 z3 hx hy hw, Int.mul_nonneg (by omega) hx, Int.mul_nonneg (by omega) hy, Int.mul_nonneg (by omega) hw, ?_, ?_, ?_, ?_⟩
  · grind
  · simp only [m2] at e1
    grind
  · simp only [m2] at e2
    grind
  · simp only [m2] at e3
    grind
/-- so heavy at most: by the rows of the adjugate -/
theorem mul_abs_le {x y B C : Int} (hx : -B ≤ x ∧ x ≤ B) (hy : -C ≤ y ∧ y ≤ C) (hB : 0 ≤ B) (hC : 0 ≤ C) : -(B * C) ≤ x * y ∧ x * y ≤ B * C := by
  have e : x.natAbs * y.natAbs ≤ B.natAbs * C.natAbs := Nat.mul_le_mul (by omega) (by omega)
  have e2 : (x * y).natAbs ≤ (B * C).natAbs := by rw [Int.natAbs_mul, Int.natAbs_mul]; exact e
  have e3 : 0 ≤ B * C := Int.mul_nonneg hB hC
  omega
/-- a minor of three rows and columns -/
abbrev d3 (x11 x12 x13 x21 x22 x23 x31 x32 x33 : Int) : Int := x11 * (x22 * x33 - x23 * x32) - x12 * (x21 * x33 - x23 * x31) + x13 * (x21 * x32 - x22 * x31)
theorem d3_le {x11 x12 x13 x21 x22 x23 x31 x32 x33 : Int} (h : ∀ x ∈ [x11, x12, x13, x21, x22, x23, x31, x32, x33], -7 ≤ x ∧ x ≤ 7) : -2058 ≤ d3 x11 x12 x13 x21 x22 x23 x31 x32 x33 ∧ d3 x11 x12 x13 x21 x22 x23 x31 x32 x33 ≤ 2058 := by
  simp only [List.mem_cons, List.not_mem_nil, or_false, forall_eq_or_imp, forall_eq] at h
  obtain ⟨g11, g12, g13, g21, g22, g23, g31, g32, g33⟩ := h
  have b2 : ∀ {x y u v : Int}, (-7 ≤ x ∧ x ≤ 7) → (-7 ≤ y ∧ y ≤ 7) → (-7 ≤ u ∧ u ≤ 7) → (-7 ≤ v ∧ v ≤ 7) → -98 ≤ x * y - u * v ∧ x * y - u * v ≤ 98 := fun hx hy hu hv => by
    have e1 := mul_abs_le hx hy (by omega) (by omega)
    have e2 := mul_abs_le hu hv (by omega) (by omega)
    omega
  have f1 := mul_abs_le g11 (b2 g22 g33 g23 g32) (by omega) (by omega)
  have f2 := mul_abs_le g12 (b2 g21 g33 g23 g31) (by omega) (by omega)
  have f3 := mul_abs_le g13 (b2 g21 g32 g22 g31) (by omega) (by omega)
  simp only [d3]
  omega
theorem weight_le {w d D p0 p1 p2 p3 u0 u1 u2 u3 : Int} (hd : 0 < d) (hw : 0 ≤ w) (hD : 0 < D) (he : d * w = D * (u0 * p0 + u1 * p1 + u2 * p2 + u3 * p3))
    (b0 : -2058 ≤ u0 ∧ u0 ≤ 2058) (b1 : -2058 ≤ u1 ∧ u1 ≤ 2058) (b2 : -2058 ≤ u2 ∧ u2 ≤ 2058) (b3 : -2058 ≤ u3 ∧ u3 ≤ 2058)
    (g0 : 0 < p0 ∧ p0 ≤ 5) (g1 : 0 < p1 ∧ p1 ≤ 5) (g2 : 0 < p2 ∧ p2 ≤ 5) (g3 : 0 < p3 ∧ p3 ≤ 5) : w ≤ 41160 * D := by
  have f0 := mul_abs_le b0 (show -5 ≤ p0 ∧ p0 ≤ 5 by omega) (by omega) (by omega)
  have f1 := mul_abs_le b1 (show -5 ≤ p1 ∧ p1 ≤ 5 by omega) (by omega) (by omega)
  have f2 := mul_abs_le b2 (show -5 ≤ p2 ∧ p2 ≤ 5 by omega) (by omega) (by omega)
  have f3 := mul_abs_le b3 (show -5 ≤ p3 ∧ p3 ≤ 5 by omega) (by omega) (by omega)
  have s : u0 * p0 + u1 * p1 + u2 * p2 + u3 * p3 ≤ 41160 := by omega
  have e1 : D * (u0 * p0 + u1 * p1 + u2 * p2 + u3 * p3) ≤ D * 41160 := Int.mul_le_mul_of_nonneg_left s (by omega)
  have e2 : 1 * w ≤ d * w := Int.mul_le_mul_of_nonneg_right (by omega) hw
  omega
end
end Bal
set_option autoImplicit false
set_option linter.all false
/-! M0b: nets, what knots let fall, orders, the potential. Targets: 0, 1, 2, 3 the knots, 4, 5 the outlets. -/
namespace Bal

structure NetM where
  n : Nat
  fr : Nat → List (List Nat)
  tu : Nat → List (List Nat)

namespace NetM
variable (N : NetM)
def f (k : Nat) : Nat := (N.fr k).length
def q (k : Nat) : Nat := (N.tu k).length
def rows (k : Nat) : List (List Nat) := N.fr k ++ N.tu k
/-- how often a target stands in the turn of a knot -/
def falls (k t : Nat) : Nat := ((N.tu k).map (·.count t)).sum
def mat (i j : Nat) : Int := (if i = j then (N.q i : Int) else 0) - (N.falls i j : Int)
structure Good : Prop where
  n1 : 1 ≤ N.n
  n4 : N.n ≤ 4
  fr2 : ∀ k, k < N.n → (N.fr k).length ≤ 2
  tu1 : ∀ k, k < N.n → 1 ≤ (N.tu k).length
  tu5 : ∀ k, k < N.n → (N.tu k).length ≤ 5
  fal : ∀ k, k < N.n → ∀ t, N.falls k t ≤ 7
  tg : ∀ k, k < N.n → ∀ d ∈ N.rows k, d.length ≤ 2 ∧ ∀ t ∈ d, t < N.n ∨ t = 4 ∨ t = 5
  nx : ∀ k, k + 1 < N.n → [k + 1] ∈ N.tu k
/-- the place behind so many balls -/
def behind (k p m : Nat) : Nat := if p + m < N.f k + N.q k then p + m else N.f k + (p + m - N.f k) % N.q k
def sumC (t : Nat) (rows : List (List Nat)) : Nat := (rows.map (·.count t)).sum
/-- whole turns and a rest, spread over a turn from its place s on -/
def spread (t L q : Nat) : Nat → List (List Nat) → Nat
  | _, [] => 0
  | s, d :: r => (L / q + if s < L % q then 1 else 0) * d.count t + spread t L q (s + 1) r
/-- as the program reckons it -/
def fallC (k p m t : Nat) : Nat :=
  sumC t (((N.rows k).drop p).take m) + (if m > (((N.rows k).drop p).take m).length then spread t (m - (((N.rows k).drop p).take m).length) (N.q k) 0 (N.tu k) else 0)
/-- one by one -/
def fall (k p : Nat) : Nat → Nat → Nat
  | 0, _ => 0
  | m + 1, t => fall k p m t + ((N.rows k).getD (N.behind k p m) []).count t
end NetM
open NetM

theorem sumC_append (t : Nat) (a b : List (List Nat)) : sumC t (a ++ b) = sumC t a + sumC t b := by simp [sumC]
theorem sumC_take_succ (t : Nat) (l : List (List Nat)) (m : Nat) (h : m < l.length) : sumC t (l.take (m + 1)) = sumC t (l.take m) + (l.getD m []).count t := by
  rw [List.take_succ_eq_append_getElem h, sumC_append]
  simp [sumC, List.getD, h]
theorem spread_zero (t q : Nat) (hq : 0 < q) : ∀ (l : List (List Nat)) (s : Nat), spread t 0 q s l = 0
  | [], _ => rfl
  | d :: r, s => by simp [spread, spread_zero t q hq r]
theorem spread_same (t L L' q : Nat) (hd : L / q = L' / q) : ∀ (l : List (List Nat)) (s : Nat), (∀ i, s ≤ i → (i < L % q ↔ i < L' % q)) → spread t L q s l = spread t L' q s l
  | [], _, _ => rfl
  | d :: r, s, h => by
    have e := h s (Nat.le_refl _)
    simp only [spread, hd, spread_same t L L' q hd r (s + 1) fun i hi => h i (by omega)]
    congr 2
    by_cases c : s < L % q
    · rw [if_pos c, if_pos (e.mp c)]
    · rw [if_neg c, if_neg fun z => c (e.mpr z)]
/-- one ball more, within a turn: the drop at its place -/
theorem spread_in (t L q : Nat) (hr : L % q + 1 < q) : ∀ (l : List (List Nat)) (s : Nat), s ≤ L % q → L % q < s + l.length → spread t (L + 1) q s l = spread t L q s l + (l.getD (L % q - s) []).count t
  | [], s, h1, h2 => by simp at h2; omega
  | d :: r, s, h1, h2 => by
    have hq : 0 < q := by omega
    have em : (L + 1) % q = L % q + 1 := by
      rw [Nat.add_mod, Nat.mod_eq_of_lt (show 1 < q by omega), Nat.mod_eq_of_lt hr]
    have ed : (L + 1) / q = L / q := by
      have a1 := Nat.div_add_mod L q
      have a2 := Nat.div_add_mod (L + 1) q
      rw [em] at a2
      have a3 : q * ((L + 1) / q) = q * (L / q) := by omega
      exact Nat.eq_of_mul_eq_mul_left hq a3
    by_cases c : s = L % q
    · subst c
      have e1 := spread_same t (L + 1) L q ed r (L % q + 1) fun i hi => by rw [em]; omega
      simp only [spread, ed, em, e1]
      simp
      rw [Nat.add_mul, Nat.one_mul]
      omega
    · have ih := spread_in t L q hr r (s + 1) (by omega) (by simp at h2; omega)
      simp only [spread, ed, ih]
      have c1 : s < (L + 1) % q := by omega
      have c2 : s < L % q := by omega
      rw [if_pos c1, if_pos c2]
      have e3 : L % q - s = (L % q - (s + 1)) + 1 := by omega
      rw [e3]
      simp [List.getD]
      omega
/-- the last one of a turn -/
theorem spread_wrap (t L q : Nat) (hq : 0 < q) (hr : L % q + 1 = q) : ∀ (l : List (List Nat)) (s : Nat), s + l.length = q → l ≠ [] → spread t (L + 1) q s l = spread t L q s l + (l.getD (L % q - s) []).count t
  | [], s, h1, h2 => absurd rfl h2
  | d :: r, s, h1, h2 => by
    have a1 := Nat.div_add_mod L q
    have em : (L + 1) % q = 0 := by
      have : L + 1 = q * (L / q + 1) := by rw [Nat.mul_add]; omega
      rw [this]; exact Nat.mul_mod_right _ _
    have ed : (L + 1) / q = L / q + 1 := by
      have : L + 1 = q * (L / q + 1) := by rw [Nat.mul_add]; omega
      rw [this]; exact Nat.mul_div_cancel_left _ hq
    simp at h1
    by_cases c : r = []
    · subst c
      simp at h1
      have e : s = L % q := by omega
      have c1 : ¬ s < L % q := by omega
      simp only [spread, em, ed, if_neg c1]
      simp [e, Nat.add_mul]
    · have ih := spread_wrap t L q hq hr r (s + 1) (by omega) c
      have : r.length ≠ 0 := fun z => c (List.length_eq_zero_iff.mp z)
      have c1 : s < L % q := by omega
      simp only [spread, ih, em, ed, if_pos c1]
      have e3 : L % q - s = (L % q - (s + 1)) + 1 := by omega
      rw [e3]
      simp [List.getD]
      omega
theorem spread_succ (t L : Nat) (l : List (List Nat)) (hl : l ≠ []) : spread t (L + 1) l.length 0 l = spread t L l.length 0 l + (l.getD (L % l.length) []).count t := by
  have hq : 0 < l.length := by
    have : l.length ≠ 0 := fun z => hl (List.length_eq_zero_iff.mp z)
    omega
  have h := Nat.mod_lt L hq
  by_cases c : L % l.length + 1 < l.length
  · have e := spread_in t L l.length c l 0 (by omega) (by omega)
    simpa using e
  · have e := spread_wrap t L l.length hq (by omega) l 0 (by omega) hl
    simpa using e

section
variable {N : NetM} {k p : Nat}
theorem rows_len : (N.rows k).length = N.f k + N.q k := by simp [rows, f, q]
theorem behind_lt (hq : 0 < N.q k) (m : Nat) : N.behind k p m < N.f k + N.q k := by
  unfold behind
  split
  · assumption
  · have := Nat.mod_lt (p + m - N.f k) hq
    omega
/-- the program's reckoning is: one by one -/
theorem fallC_eq (hq : 0 < N.q k) (hp : p < N.f k + N.q k) (t : Nat) : ∀ m, N.fallC k p m t = N.fall k p m t
  | 0 => by simp [fallC, fall, sumC]
  | m + 1 => by
    have ih := fallC_eq hq hp t m
    have hl := rows_len (N := N) (k := k)
    rw [fall, ← ih]
    by_cases c : p + m < N.f k + N.q k
    · have e1 : (((N.rows k).drop p).take m).length = m := by simp; omega
      have e2 : (((N.rows k).drop p).take (m + 1)).length = m + 1 := by simp; omega
      have e3 : N.behind k p m = p + m := if_pos c
      unfold fallC
      rw [e1, e2, if_neg (by omega), if_neg (by omega), e3, sumC_take_succ t _ m (by simp; omega)]
      simp [List.getD]
    · have e1 : ((N.rows k).drop p).take m = (N.rows k).drop p := List.take_of_length_le (by simp; omega)
      have e2 : ((N.rows k).drop p).take (m + 1) = (N.rows k).drop p := List.take_of_length_le (by simp; omega)
      have e4 : ((N.rows k).drop p).length = N.f k + N.q k - p := by simp; omega
      have e3 : N.behind k p m = N.f k + (p + m - N.f k) % N.q k := if_neg c
      have hne : N.tu k ≠ [] := fun z => by unfold q at hq; rw [z] at hq; simp at hq
      have e5 : (p + m - N.f k) % N.q k = (m - (N.f k + N.q k - p)) % N.q k := by
        have : p + m - N.f k = (m - (N.f k + N.q k - p)) + N.q k := by omega
        rw [this, Nat.add_mod_right]
      have e6 : m + 1 - (N.f k + N.q k - p) = (m - (N.f k + N.q k - p)) + 1 := by omega
      have s := spread_succ t (m - (N.f k + N.q k - p)) (N.tu k) hne
      have z := spread_zero t (N.q k) hq (N.tu k) 0
      have e7 : (N.rows k).getD (N.f k + (m - (N.f k + N.q k - p)) % N.q k) [] = (N.tu k).getD ((m - (N.f k + N.q k - p)) % N.q k) [] := by
        unfold rows f
        simp [List.getD, List.getElem?_append_right]
      unfold fallC
      rw [e1, e2, e4, if_pos (by omega), e3, e5, e6, e7]
      change _ + spread t (_ + 1) (N.tu k).length 0 (N.tu k) = _
      rw [s]
      by_cases g : m > N.f k + N.q k - p
      · rw [if_pos g]
        show _ = _ + spread t _ (N.tu k).length 0 (N.tu k) + _
        unfold q
        omega
      · rw [if_neg g]
        have : m - (N.f k + N.q k - p) = 0 := by omega
        rw [this]
        unfold q at z ⊢
        rw [z]
        omega
theorem behind_zero (hp : p < N.f k + N.q k) : N.behind k p 0 = p := if_pos hp
theorem behind_add (hq : 0 < N.q k) (hp : p < N.f k + N.q k) (m j : Nat) : N.behind k (N.behind k p m) j = N.behind k p (m + j) := by
  unfold behind
  by_cases c : p + m < N.f k + N.q k
  · rw [if_pos c, Nat.add_assoc]
  · rw [if_neg c]
    have hm := Nat.mod_lt (p + m - N.f k) hq
    have c2 : ¬ p + (m + j) < N.f k + N.q k := by omega
    rw [if_neg c2]
    have e : p + (m + j) - N.f k = (p + m - N.f k) + j := by omega
    by_cases d : N.f k + (p + m - N.f k) % N.q k + j < N.f k + N.q k
    · rw [if_pos d, e, ← Nat.mod_add_mod, Nat.mod_eq_of_lt (a := (p + m - N.f k) % N.q k + j) (by omega)]
      omega
    · rw [if_neg d, e]
      have : N.f k + (p + m - N.f k) % N.q k + j - N.f k = (p + m - N.f k) % N.q k + j := by omega
      rw [this, Nat.mod_add_mod]
theorem fall_add (hq : 0 < N.q k) (hp : p < N.f k + N.q k) (m t : Nat) : ∀ j, N.fall k p (m + j) t = N.fall k p m t + N.fall k (N.behind k p m) j t
  | 0 => by simp [fall]
  | j + 1 => by
    have ih := fall_add hq hp m t j
    show N.fall k p (m + j) t + ((N.rows k).getD (N.behind k p (m + j)) []).count t = _
    rw [ih, ← behind_add hq hp]
    show _ = N.fall k p m t + (N.fall k (N.behind k p m) j t + _)
    omega
end
end Bal
set_option autoImplicit false
set_option linter.all false
/-! M0c: the weights of a net, the potential, how many balls are taken at most. -/
namespace Bal
open NetM

theorem adj_rows (a : Nat → Nat → Int) (D p0 p1 p2 p3 w0 w1 w2 w3 : Int) (e0 : a 0 0 * w0 + a 0 1 * w1 + a 0 2 * w2 + a 0 3 * w3 = D * p0) (e1 : a 1 0 * w0 + a 1 1 * w1 + a 1 2 * w2 + a 1 3 * w3 = D * p1)
    (e2 : a 2 0 * w0 + a 2 1 * w1 + a 2 2 * w2 + a 2 3 * w3 = D * p2) (e3 : a 3 0 * w0 + a 3 1 * w1 + a 3 2 * w2 + a 3 3 * w3 = D * p3) :
    m4 a * w0 = D * (d3 (a 1 1) (a 1 2) (a 1 3) (a 2 1) (a 2 2) (a 2 3) (a 3 1) (a 3 2) (a 3 3) * p0 + -d3 (a 0 1) (a 0 2) (a 0 3) (a 2 1) (a 2 2) (a 2 3) (a 3 1) (a 3 2) (a 3 3) * p1
      + d3 (a 0 1) (a 0 2) (a 0 3) (a 1 1) (a 1 2) (a 1 3) (a 3 1) (a 3 2) (a 3 3) * p2 + -d3 (a 0 1) (a 0 2) (a 0 3) (a 1 1) (a 1 2) (a 1 3) (a 2 1) (a 2 2) (a 2 3) * p3) ∧
    m4 a * w1 = D * (-d3 (a 1 0) (a 1 2) (a 1 3) (a 2 0) (a 2 2) (a 2 3) (a 3 0) (a 3 2) (a 3 3) * p0 + d3 (a 0 0) (a 0 2) (a 0 3) (a 2 0) (a 2 2) (a 2 3) (a 3 0) (a 3 2) (a 3 3) * p1
      + -d3 (a 0 0) (a 0 2) (a 0 3) (a 1 0) (a 1 2) (a 1 3) (a 3 0) (a 3 2) (a 3 3) * p2 + d3 (a 0 0) (a 0 2) (a 0 3) (a 1 0) (a 1 2) (a 1 3) (a 2 0) (a 2 2) (a 2 3) * p3) ∧
    m4 a * w2 = D * (d3 (a 1 0) (a 1 1) (a 1 3) (a 2 0) (a 2 1) (a 2 3) (a 3 0) (a 3 1) (a 3 3) * p0 + -d3 (a 0 0) (a 0 1) (a 0 3) (a 2 0) (a 2 1) (a 2 3) (a 3 0) (a 3 1) (a 3 3) * p1
      + d3 (a 0 0) (a 0 1) (a 0 3) (a 1 0) (a 1 1) (a 1 3) (a 3 0) (a 3 1) (a 3 3) * p2 + -d3 (a 0 0) (a 0 1) (a 0 3) (a 1 0) (a 1 1) (a 1 3) (a 2 0) (a 2 1) (a 2 3) * p3) ∧
    m4 a * w3 = D * (-d3 (a 1 0) (a 1 1) (a 1 2) (a 2 0) (a 2 1) (a 2 2) (a 3 0) (a 3 1) (a 3 2) * p0 + d3 (a 0 0) (a 0 1) (a 0 2) (a 2 0) (a 2 1) (a 2 2) (a 3 0) (a 3 1) (a 3 2) * p1
      + -d3 (a 0 0) (a 0 1) (a 0 2) (a 1 0) (a 1 1) (a 1 2) (a 3 0) (a 3 1) (a 3 2) * p2 + d3 (a 0 0) (a 0 1) (a 0 2) (a 1 0) (a 1 1) (a 1 2) (a 2 0) (a 2 1) (a 2 2) * p3) := by
  have dist : ∀ u0 u1 u2 u3 : Int, D * (u0 * p0 + u1 * p1 + u2 * p2 + u3 * p3) = u0 * (D * p0) + u1 * (D * p1) + u2 * (D * p2) + u3 * (D * p3) := by intros; grind
  rw [dist, dist, dist, dist, ← e0, ← e1, ← e2, ← e3]
  simp only [m4, d3]
  refine ⟨?_, ?_, ?_, ?_⟩ <;> grind

/-- a sum below n -/
def sumN : Nat → (Nat → Int) → Int
  | 0, _ => 0
  | n + 1, g => sumN n g + g n
theorem sumN_congr {g h : Nat → Int} : ∀ {n : Nat}, (∀ i, i < n → g i = h i) → sumN n g = sumN n h
  | 0, _ => rfl
  | n + 1, e => by simp only [sumN]; rw [sumN_congr fun i hi => e i (by omega), e n (by omega)]
theorem sumN_add (g h : Nat → Int) : ∀ n, sumN n (fun i => g i + h i) = sumN n g + sumN n h
  | 0 => rfl
  | n + 1 => by simp only [sumN, sumN_add g h n]; omega
theorem sumN_one (c : Int) (k : Nat) : ∀ n, sumN n (fun i => if i = k then c else 0) = if k < n then c else 0
  | 0 => rfl
  | n + 1 => by
    simp only [sumN, sumN_one c k n]
    by_cases h1 : k < n
    · rw [if_pos h1, if_neg (show ¬ n = k by omega), if_pos (show k < n + 1 by omega)]; omega
    · rw [if_neg h1]
      by_cases h2 : n = k
      · rw [if_pos h2, if_pos (show k < n + 1 by omega)]; omega
      · rw [if_neg h2, if_neg (show ¬ k < n + 1 by omega)]; omega
theorem sumN_nonneg {g : Nat → Int} : ∀ {n : Nat}, (∀ i, i < n → 0 ≤ g i) → 0 ≤ sumN n g
  | 0, _ => Int.le_refl _
  | n + 1, h => by
    simp only [sumN]
    have := sumN_nonneg (n := n) fun i hi => h i (by omega)
    have := h n (by omega)
    omega
theorem sumN_le {g h : Nat → Int} : ∀ {n : Nat}, (∀ i, i < n → g i ≤ h i) → sumN n g ≤ sumN n h
  | 0, _ => Int.le_refl _
  | n + 1, e => by
    simp only [sumN]
    have := sumN_le (n := n) fun i hi => e i (by omega)
    have := e n (by omega)
    omega
theorem sumN_mul (c : Int) (g : Nat → Int) : ∀ n, sumN n (fun i => c * g i) = c * sumN n g
  | 0 => by simp [sumN]
  | n + 1 => by simp only [sumN, sumN_mul c g n, Int.mul_add]
theorem sumN_const (c : Int) : ∀ n : Nat, sumN n (fun _ => c) = n * c
  | 0 => by simp [sumN]
  | n + 1 => by simp only [sumN, sumN_const c n]; rw [Int.natCast_add, Int.add_mul]; simp
theorem sumN_single {g : Nat → Int} {k : Nat} : ∀ {n : Nat}, k < n → (∀ i, i < n → 0 ≤ g i) → g k ≤ sumN n g
  | 0, h, _ => by omega
  | n + 1, h, e => by
    simp only [sumN]
    by_cases c : k = n
    · subst c
      have := sumN_nonneg (n := k) fun i hi => e i (by omega)
      omega
    · have := sumN_single (n := n) (k := k) (by omega) fun i hi => e i (by omega)
      have := e n (by omega)
      omega

/-- weights of a net -/
structure Wts (N : NetM) (W : Nat → Int) (D : Int) : Prop where
  D0 : 0 < D
  lo : ∀ k, k < N.n → D ≤ W k
  hi : ∀ k, k < N.n → W k ≤ 41160 * D
  out : ∀ t, N.n ≤ t → W t = 0
  eq : ∀ k, k < N.n → (N.q k : Int) * W k - sumN N.n (fun j => (N.falls k j : Int) * W j) = D * N.q k

theorem wts_of {N : NetM} (G : N.Good) (hm : ∀ k, 1 ≤ k → k ≤ N.n → 0 < minor (tabOf N.n N.mat) k) : ∃ W D, Wts N W D := by
  obtain ⟨h1, h2, h3, h4⟩ := pad_pos N.mat N.n ⟨G.n1, G.n4⟩ hm
  have entry : ∀ i j, i < N.n → -7 ≤ N.mat i j ∧ N.mat i j ≤ 7 := fun i j hi => by
    have a1 := G.fal i hi j
    have a2 := G.tu5 i hi
    unfold mat q
    split <;> omega
  have off : ∀ i j, i ≠ j → N.mat i j ≤ 0 := fun i j hij => by
    unfold mat
    rw [if_neg hij]
    omega
  have pe : ∀ i j, -7 ≤ pad N.mat N.n i j ∧ pad N.mat N.n i j ≤ 7 := fun i j => by
    unfold pad
    split
    · exact entry i j (by omega)
    · split <;> omega
  have po : ∀ i j, i ≠ j → pad N.mat N.n i j ≤ 0 := fun i j hij => by
    unfold pad
    split
    · exact off i j hij
    · first | omega | (rw [if_neg hij]; omega)
  have pp : ∀ i, 0 < (if i < N.n then (N.q i : Int) else 1) ∧ (if i < N.n then (N.q i : Int) else 1) ≤ 5 := fun i => by
    split
    · rename_i hi
      have a1 := G.tu1 i hi
      have a2 := G.tu5 i hi
      unfold q
      omega
    · omega
  obtain ⟨D, w0, w1, w2, w3, hD, g0, g1, g2, g3, e0, e1, e2, e3⟩ := weights (pad N.mat N.n) (fun i => if i < N.n then (N.q i : Int) else 1) (fun i j _ _ h => po i j h) h1 h2 h3 h4 (fun i _ => (pp i).1)
  obtain ⟨r0, r1, r2, r3⟩ := adj_rows (pad N.mat N.n) D _ _ _ _ w0 w1 w2 w3 e0 e1 e2 e3
  have d3b : ∀ i1 i2 i3 j1 j2 j3 : Nat, -2058 ≤ d3 (pad N.mat N.n i1 j1) (pad N.mat N.n i1 j2) (pad N.mat N.n i1 j3) (pad N.mat N.n i2 j1) (pad N.mat N.n i2 j2) (pad N.mat N.n i2 j3) (pad N.mat N.n i3 j1) (pad N.mat N.n i3 j2) (pad N.mat N.n i3 j3) ∧
      d3 (pad N.mat N.n i1 j1) (pad N.mat N.n i1 j2) (pad N.mat N.n i1 j3) (pad N.mat N.n i2 j1) (pad N.mat N.n i2 j2) (pad N.mat N.n i2 j3) (pad N.mat N.n i3 j1) (pad N.mat N.n i3 j2) (pad N.mat N.n i3 j3) ≤ 2058 := fun i1 i2 i3 j1 j2 j3 => d3_le fun x hx => by
    simp only [List.mem_cons, List.not_mem_nil, or_false] at hx
    rcases hx with rfl | rfl | rfl | rfl | rfl | rfl | rfl | rfl | rfl <;> exact pe _ _
  have neg : ∀ {x : Int}, -2058 ≤ x ∧ x ≤ 2058 → -2058 ≤ -x ∧ -x ≤ 2058 := fun h => by omega
  have b0 : w0 ≤ 41160 * D := weight_le h4 g0 hD r0 (d3b 1 2 3 1 2 3) (neg (d3b 0 2 3 1 2 3)) (d3b 0 1 3 1 2 3) (neg (d3b 0 1 2 1 2 3)) (pp 0) (pp 1) (pp 2) (pp 3)
  have b1 : w1 ≤ 41160 * D := weight_le h4 g1 hD r1 (neg (d3b 1 2 3 0 2 3)) (d3b 0 2 3 0 2 3) (neg (d3b 0 1 3 0 2 3)) (d3b 0 1 2 0 2 3) (pp 0) (pp 1) (pp 2) (pp 3)
  have b2 : w2 ≤ 41160 * D := weight_le h4 g2 hD r2 (d3b 1 2 3 0 1 3) (neg (d3b 0 2 3 0 1 3)) (d3b 0 1 3 0 1 3) (neg (d3b 0 1 2 0 1 3)) (pp 0) (pp 1) (pp 2) (pp 3)
  have b3 : w3 ≤ 41160 * D := weight_le h4 g3 hD r3 (neg (d3b 1 2 3 0 1 2)) (d3b 0 2 3 0 1 2) (neg (d3b 0 1 3 0 1 2)) (d3b 0 1 2 0 1 2) (pp 0) (pp 1) (pp 2) (pp 3)
  let W : Nat → Int := fun i => if i < N.n then (if i = 0 then w0 else if i = 1 then w1 else if i = 2 then w2 else w3) else 0
  have hnn : ∀ k, 0 ≤ W k := fun k => by
    show 0 ≤ (if k < N.n then (if k = 0 then w0 else if k = 1 then w1 else if k = 2 then w2 else w3) else 0)
    repeat (first | split | omega)
  have heq : ∀ k, k < N.n → (N.q k : Int) * W k - sumN N.n (fun j => (N.falls k j : Int) * W j) = D * N.q k := fun k hk => by
    have hn1 := G.n1
    have hn4 := G.n4
    have hn : N.n = 1 ∨ N.n = 2 ∨ N.n = 3 ∨ N.n = 4 := by omega
    rcases hn with e | e | e | e
    · have : k = 0 := by omega
      subst this
      simp only [pad, e, mat] at e0
      simp [W, e, sumN] at e0 ⊢
      grind
    · have : k = 0 ∨ k = 1 := by omega
      simp only [pad, e, mat] at e0 e1
      rcases this with rfl | rfl <;> simp [W, e, sumN] at e0 e1 ⊢ <;> grind
    · have : k = 0 ∨ k = 1 ∨ k = 2 := by omega
      simp only [pad, e, mat] at e0 e1 e2
      rcases this with rfl | rfl | rfl <;> simp [W, e, sumN] at e0 e1 e2 ⊢ <;> grind
    · have : k = 0 ∨ k = 1 ∨ k = 2 ∨ k = 3 := by omega
      simp only [pad, e, mat] at e0 e1 e2 e3
      rcases this with rfl | rfl | rfl | rfl <;> simp [W, e, sumN] at e0 e1 e2 e3 ⊢ <;> grind
  refine ⟨W, D, hD, fun k hk => ?_, fun k hk => ?_, fun t ht => ?_, heq⟩
  · have h := heq k hk
    have s : 0 ≤ sumN N.n (fun j => (N.falls k j : Int) * W j) := sumN_nonneg fun i _ => Int.mul_nonneg (by omega) (hnn i)
    have hq := G.tu1 k hk
    have h2 : (N.q k : Int) * D ≤ (N.q k : Int) * W k := by
      rw [Int.mul_comm (N.q k : Int) D]
      omega
    exact Int.le_of_mul_le_mul_left h2 (by unfold q; omega)
  · show (if k < N.n then (if k = 0 then w0 else if k = 1 then w1 else if k = 2 then w2 else w3) else 0) ≤ 41160 * D
    rw [if_pos hk]
    repeat (first | split | assumption)
  · show (if t < N.n then _ else (0 : Int)) = 0
    rw [if_neg (by omega)]

/-! ### the potential -/
structure BdM where
  w : Nat → Nat
  out : Nat → Nat
  tk : Nat → Nat
  pl : Nat → Nat
def take (N : NetM) (s : BdM) (k m : Nat) : BdM where
  w := fun i => if i < N.n then s.w i + N.fall k (s.pl k) m i - (if i = k then m else 0) else s.w i
  out := fun i => s.out i + N.fall k (s.pl k) m i
  tk := fun i => if i = k then s.tk i + m else s.tk i
  pl := fun i => if i = k then N.behind k (s.pl k) m else s.pl i
def worth (W : Nat → Int) (d : List Nat) : Int := (d.map W).sum
theorem worth_count {n : Nat} {W : Nat → Int} (hW : ∀ t, n ≤ t → W t = 0) : ∀ d : List Nat, sumN n (fun i => W i * (d.count i : Int)) = worth W d
  | [] => by
    have : sumN n (fun i => W i * (([] : List Nat).count i : Int)) = sumN n (fun _ => 0) := sumN_congr fun i _ => by simp
    rw [this, sumN_const]
    simp [worth]
  | t :: r => by
    have ih := worth_count hW r
    have e : sumN n (fun i => W i * ((t :: r).count i : Int)) = sumN n (fun i => W i * (r.count i : Int) + if i = t then W t else 0) := sumN_congr fun i _ => by
      rw [List.count_cons]
      by_cases c : i = t
      · subst c
        simp [Int.mul_add]
      · rw [if_neg c, if_neg (by simp; omega)]
        simp
    rw [e, sumN_add, ih, sumN_one]
    simp only [worth, List.map_cons, List.sum_cons]
    split
    · omega
    · rename_i h
      rw [hW t (by omega)]
      omega
/-- the height of a place -/
def hgt (N : NetM) (W : Nat → Int) (D : Int) (k : Nat) : Nat → Int
  | 0 => 0
  | p + 1 => hgt N W D k p + (W k - D - worth W ((N.rows k).getD p []))
theorem sumC_worth (W : Nat → Int) (D c : Int) : ∀ l : List (List Nat), (l.map fun d => c - D - worth W d).sum = l.length * (c - D) - (l.map (worth W)).sum
  | [] => by simp
  | d :: r => by
    simp only [List.map_cons, List.sum_cons, List.length_cons, sumC_worth W D c r]
    rw [Int.natCast_add, Int.add_mul]
    omega
theorem turn_worth {N : NetM} {W : Nat → Int} {D : Int} (T : Wts N W D) (k : Nat) (hk : k < N.n) : ((N.tu k).map (worth W)).sum = (N.q k : Int) * W k - D * N.q k := by
  have e := T.eq k hk
  have h : ∀ l : List (List Nat), (l.map (worth W)).sum = sumN N.n (fun j => (((l.map (·.count j)).sum : Nat) : Int) * W j) := by
    intro l
    induction l with
    | nil => simp; rw [sumN_const]; simp
    | cons d r ih =>
      simp only [List.map_cons, List.sum_cons, ih]
      rw [← worth_count T.out d, ← sumN_add]
      refine sumN_congr fun i _ => ?_
      rw [Int.natCast_add, Int.add_mul, Int.mul_comm]
  have h2 := h (N.tu k)
  show _ = _
  rw [h2]
  have : sumN N.n (fun j => (((((N.tu k).map (·.count j)).sum : Nat)) : Int) * W j) = sumN N.n (fun j => (N.falls k j : Int) * W j) := rfl
  rw [this]
  omega
theorem hgt_eq (N : NetM) (W : Nat → Int) (D : Int) (k : Nat) : ∀ p, p ≤ (N.rows k).length → hgt N W D k p = (((N.rows k).take p).map fun d => W k - D - worth W d).sum
  | 0, _ => by simp [hgt]
  | p + 1, h => by
    rw [hgt, hgt_eq N W D k p (by omega), List.take_succ_eq_append_getElem (by omega), List.map_append, List.sum_append]
    simp [List.getD, show p < (N.rows k).length by omega]
theorem hgt_turn {N : NetM} {W : Nat → Int} {D : Int} (T : Wts N W D) (k : Nat) (hk : k < N.n) : hgt N W D k (N.f k + N.q k) = hgt N W D k (N.f k) := by
  have hl := rows_len (N := N) (k := k)
  rw [hgt_eq N W D k _ (by omega), hgt_eq N W D k _ (by omega), List.take_of_length_le (by omega)]
  have e : (N.rows k).take (N.f k) = N.fr k := by simp [rows, f]
  rw [e]
  show ((N.fr k ++ N.tu k).map _).sum = _
  rw [List.map_append, List.sum_append, sumC_worth W D (W k) (N.tu k), turn_worth T k hk]
  have : ((N.tu k).length : Int) * (W k - D) = (N.q k : Int) * W k - D * N.q k := by
    unfold q
    rw [Int.mul_sub, Int.mul_comm D]
  omega
theorem hgt_step {N : NetM} {W : Nat → Int} {D : Int} (T : Wts N W D) (k : Nat) (hk : k < N.n) (hq : 0 < N.q k) (x : Nat) (hx : x < N.f k + N.q k) :
    hgt N W D k (N.behind k x 1) = hgt N W D k x + (W k - D - worth W ((N.rows k).getD x [])) := by
  by_cases c : x + 1 < N.f k + N.q k
  · rw [show N.behind k x 1 = x + 1 from if_pos c]
    rfl
  · have e : x + 1 = N.f k + N.q k := by omega
    have e2 : N.behind k x 1 = N.f k := by
      unfold behind
      rw [if_neg c, e]
      have : N.f k + N.q k - N.f k = N.q k := by omega
      rw [this, Nat.mod_self]
      rfl
    rw [e2, ← hgt_turn T k hk, ← e]
    rfl
/-- so many balls at a knot: the potential falls by D each -/
theorem fall_worth {N : NetM} {W : Nat → Int} {D : Int} (T : Wts N W D) (k : Nat) (hk : k < N.n) (hq : 0 < N.q k) (p : Nat) (hp : p < N.f k + N.q k) :
    ∀ m : Nat, sumN N.n (fun i => W i * (N.fall k p m i : Int)) - W k * m + hgt N W D k (N.behind k p m) = hgt N W D k p - D * m
  | 0 => by
    rw [behind_zero hp]
    have : sumN N.n (fun i => W i * (N.fall k p 0 i : Int)) = sumN N.n (fun _ => 0) := sumN_congr fun i _ => by simp [fall]
    rw [this, sumN_const]
    simp
  | m + 1 => by
    have ih := fall_worth T k hk hq p hp m
    have hb := behind_lt (N := N) (k := k) (p := p) hq m
    have s := hgt_step T k hk hq (N.behind k p m) hb
    rw [behind_add hq hp] at s
    have e : sumN N.n (fun i => W i * (N.fall k p (m + 1) i : Int)) = sumN N.n (fun i => W i * (N.fall k p m i : Int) + W i * (((N.rows k).getD (N.behind k p m) []).count i : Int)) := sumN_congr fun i _ => by
      rw [fall, Int.natCast_add, Int.mul_add]
    rw [e, sumN_add, worth_count T.out, s]
    have e1 : W k * ((m + 1 : Nat) : Int) = W k * m + W k := by rw [Int.natCast_add, Int.mul_add]; simp
    have e2 : D * ((m + 1 : Nat) : Int) = D * m + D := by rw [Int.natCast_add, Int.mul_add]; simp
    rw [e1, e2]
    omega
def phi (N : NetM) (W : Nat → Int) (D : Int) (s : BdM) : Int := sumN N.n (fun i => W i * (s.w i : Int)) + sumN N.n (fun i => hgt N W D i (s.pl i))
theorem phi_take {N : NetM} {W : Nat → Int} {D : Int} (T : Wts N W D) {s : BdM} {k m : Nat} (hk : k < N.n) (hq : 0 < N.q k) (hp : s.pl k < N.f k + N.q k) (hm : m ≤ s.w k) :
    phi N W D (take N s k m) = phi N W D s - D * m := by
  have fw := fall_worth T k hk hq (s.pl k) hp m
  have e1 : sumN N.n (fun i => W i * ((take N s k m).w i : Int)) = sumN N.n (fun i => W i * (s.w i : Int)) + sumN N.n (fun i => W i * (N.fall k (s.pl k) m i : Int)) - W k * m := by
    have : sumN N.n (fun i => W i * ((take N s k m).w i : Int)) = sumN N.n (fun i => (W i * (s.w i : Int) + W i * (N.fall k (s.pl k) m i : Int)) + if i = k then -(W k * m) else 0) := sumN_congr fun i hi => by
      show W i * ((if i < N.n then s.w i + N.fall k (s.pl k) m i - (if i = k then m else 0) else s.w i : Nat) : Int) = _
      rw [if_pos hi]
      by_cases c : i = k
      · subst c
        rw [if_pos rfl, if_pos rfl, Int.natCast_sub (by omega), Int.natCast_add, Int.mul_sub, Int.mul_add]
        omega
      · rw [if_neg c, if_neg c, Nat.sub_zero, Int.natCast_add, Int.mul_add]
        omega
    rw [this, sumN_add, sumN_add, sumN_one, if_pos hk]
    omega
  have e2 : sumN N.n (fun i => hgt N W D i ((take N s k m).pl i)) = sumN N.n (fun i => hgt N W D i (s.pl i)) + (hgt N W D k (N.behind k (s.pl k) m) - hgt N W D k (s.pl k)) := by
    have : sumN N.n (fun i => hgt N W D i ((take N s k m).pl i)) = sumN N.n (fun i => hgt N W D i (s.pl i) + if i = k then hgt N W D k (N.behind k (s.pl k) m) - hgt N W D k (s.pl k) else 0) := sumN_congr fun i hi => by
      show hgt N W D i (if i = k then N.behind k (s.pl k) m else s.pl i) = _
      by_cases c : i = k
      · subst c
        rw [if_pos rfl, if_pos rfl]
        omega
      · rw [if_neg c, if_neg c]
        omega
    rw [this, sumN_add, sumN_one, if_pos hk]
  unfold phi
  rw [e1, e2]
  omega
end Bal
set_option autoImplicit false
set_option linter.all false
/-! M0d: orders, how many balls they take at most, the last step of one behind which all rest. -/
namespace Bal
open NetM

def Runs (N : NetM) : BdM → List (Nat × Nat) → BdM → Prop
  | s, [], s' => s' = s
  | s, (k, m) :: r, s' => (k < N.n ∧ 1 ≤ m ∧ m ≤ s.w k) ∧ Runs N (take N s k m) r s'
def total (l : List (Nat × Nat)) : Nat := (l.map (·.2)).sum
def Placed (N : NetM) (s : BdM) : Prop := ∀ k, k < N.n → s.pl k < N.f k + N.q k
theorem total_append (a b : List (Nat × Nat)) : total (a ++ b) = total a + total b := by simp [total]
theorem runs_append {N : NetM} : ∀ {a b : List (Nat × Nat)} {s s2 : BdM}, Runs N s (a ++ b) s2 ↔ ∃ s1, Runs N s a s1 ∧ Runs N s1 b s2
  | [], b, s, s2 => ⟨fun h => ⟨s, rfl, h⟩, fun ⟨s1, h1, h2⟩ => by have e : s1 = s := h1; subst e; exact h2⟩
  | (k, m) :: r, b, s, s2 => by
    show ((_ ∧ Runs N _ (r ++ b) s2) ↔ _)
    rw [runs_append (a := r)]
    constructor
    · rintro ⟨h, s1, h1, h2⟩
      exact ⟨s1, ⟨h, h1⟩, h2⟩
    · rintro ⟨s1, ⟨h, h1⟩, h2⟩
      exact ⟨h, s1, h1, h2⟩
theorem runs_one {N : NetM} {k m : Nat} {s s2 : BdM} : Runs N s [(k, m)] s2 ↔ (k < N.n ∧ 1 ≤ m ∧ m ≤ s.w k) ∧ s2 = take N s k m := Iff.rfl
theorem runs_snoc {N : NetM} {a : List (Nat × Nat)} {k m : Nat} {s s1 : BdM} (h : Runs N s a s1) (hk : k < N.n) (h1 : 1 ≤ m) (h2 : m ≤ s1.w k) : Runs N s (a ++ [(k, m)]) (take N s1 k m) :=
  runs_append.mpr ⟨s1, h, runs_one.mpr ⟨⟨hk, h1, h2⟩, rfl⟩⟩
theorem placed_take {N : NetM} (G : N.Good) {s : BdM} {k m : Nat} (hk : k < N.n) (h : Placed N s) : Placed N (take N s k m) := fun j hj => by
  show (if j = k then N.behind k (s.pl k) m else s.pl j) < _
  by_cases c : j = k
  · subst c
    rw [if_pos rfl]
    exact behind_lt (G.tu1 j hj) m
  · rw [if_neg c]
    exact h j hj
theorem placed_runs {N : NetM} (G : N.Good) : ∀ {l : List (Nat × Nat)} {s s' : BdM}, Runs N s l s' → Placed N s → Placed N s'
  | [], s, s', h, p => by have e : s' = s := h; subst e; exact p
  | (k, m) :: r, s, s', ⟨⟨hk, _, _⟩, h⟩, p => placed_runs G h (placed_take G hk p)
theorem phi_runs {N : NetM} {W : Nat → Int} {D : Int} (G : N.Good) (T : Wts N W D) : ∀ {l : List (Nat × Nat)} {s s' : BdM}, Runs N s l s' → Placed N s → phi N W D s' = phi N W D s - D * (total l : Int)
  | [], s, s', h, p => by have e : s' = s := h; subst e; simp [total]
  | (k, m) :: r, s, s', ⟨⟨hk, h1, h2⟩, h⟩, p => by
    have ih := phi_runs G T h (placed_take G hk p)
    rw [ih, phi_take T hk (G.tu1 k hk) (p k hk) h2]
    have : total ((k, m) :: r) = m + total r := by simp [total]
    rw [this, Int.natCast_add, Int.mul_add]
    omega
theorem worth_le {N : NetM} {W : Nat → Int} {D : Int} (T : Wts N W D) : ∀ d : List Nat, worth W d ≤ (d.length : Int) * (41160 * D) := fun d => by
  have hW : ∀ t, W t ≤ 41160 * D := fun t => by
    by_cases c : t < N.n
    · exact T.hi t c
    · rw [T.out t (by omega)]
      have := T.D0
      omega
  induction d with
  | nil => simp [worth]
  | cons t r ih =>
    have : worth W (t :: r) = W t + worth W r := by simp [worth]
    rw [this, List.length_cons, Int.natCast_add, Int.add_mul]
    have := hW t
    omega
theorem hgt_low {N : NetM} {W : Nat → Int} {D : Int} (G : N.Good) (T : Wts N W D) (k : Nat) (hk : k < N.n) : ∀ p, p ≤ N.f k + N.q k → -((p : Int) * (2 * (41160 * D))) ≤ hgt N W D k p
  | 0, _ => by simp [hgt]
  | p + 1, h => by
    have ih := hgt_low G T k hk p (by omega)
    have hd : ((N.rows k).getD p []).length ≤ 2 := by
      have hp : p < (N.rows k).length := by rw [rows_len]; omega
      have e : (N.rows k).getD p [] = (N.rows k)[p] := by simp [List.getD, hp]
      rw [e]
      exact (G.tg k hk _ (List.getElem_mem hp)).1
    have w := worth_le T ((N.rows k).getD p [])
    have lo := T.lo k hk
    have D0 := T.D0
    have w2 : (((N.rows k).getD p []).length : Int) * (41160 * D) ≤ 2 * (41160 * D) := Int.mul_le_mul_of_nonneg_right (by omega) (by omega)
    show _ ≤ hgt N W D k p + (W k - D - worth W ((N.rows k).getD p []))
    rw [Int.natCast_add, Int.add_mul]
    omega
theorem phi_low {N : NetM} {W : Nat → Int} {D : Int} (G : N.Good) (T : Wts N W D) {s : BdM} (p : Placed N s) : -(56 * (41160 * D)) ≤ phi N W D s := by
  have D0 := T.D0
  have h1 : 0 ≤ sumN N.n (fun i => W i * (s.w i : Int)) := sumN_nonneg fun i hi => Int.mul_nonneg (by have := T.lo i hi; omega) (by omega)
  have h2 : sumN N.n (fun _ => -(14 * (41160 * D))) ≤ sumN N.n (fun i => hgt N W D i (s.pl i)) := sumN_le fun i hi => by
    have a := hgt_low G T i hi (s.pl i) (by have := p i hi; omega)
    have b := G.fr2 i hi
    have c := G.tu5 i hi
    have d := p i hi
    have e : (s.pl i : Int) * (2 * (41160 * D)) ≤ 7 * (2 * (41160 * D)) := Int.mul_le_mul_of_nonneg_right (by unfold f q at d; omega) (by omega)
    omega
  rw [sumN_const] at h2
  have h3 : (N.n : Int) * (14 * (41160 * D)) ≤ 4 * (14 * (41160 * D)) := Int.mul_le_mul_of_nonneg_right (by have := G.n4; omega) (by omega)
  have h4 : (N.n : Int) * -(14 * (41160 * D)) = -((N.n : Int) * (14 * (41160 * D))) := by rw [Int.mul_neg]
  unfold phi
  omega
/-- the start, with so many balls in all -/
structure Begun (N : NetM) (s : BdM) (b : Nat) : Prop where
  pl : ∀ k, k < N.n → s.pl k = 0
  w : sumN N.n (fun i => (s.w i : Int)) ≤ b
theorem Begun.placed {N : NetM} {s : BdM} {b : Nat} (G : N.Good) (h : Begun N s b) : Placed N s := fun k hk => by
  rw [h.pl k hk]
  have := G.tu1 k hk
  unfold q
  omega
theorem phi_start {N : NetM} {W : Nat → Int} {D : Int} (T : Wts N W D) {s : BdM} {b : Nat} (h : Begun N s b) : phi N W D s ≤ (41160 * D) * b := by
  have D0 := T.D0
  have h1 : sumN N.n (fun i => W i * (s.w i : Int)) ≤ sumN N.n (fun i => (41160 * D) * (s.w i : Int)) := sumN_le fun i hi => Int.mul_le_mul_of_nonneg_right (T.hi i hi) (by omega)
  rw [sumN_mul] at h1
  have h2 : sumN N.n (fun i => hgt N W D i (s.pl i)) = sumN N.n (fun _ => 0) := sumN_congr fun i hi => by rw [h.pl i hi]; rfl
  rw [sumN_const] at h2
  have h3 : (41160 * D) * sumN N.n (fun i => (s.w i : Int)) ≤ (41160 * D) * b := Int.mul_le_mul_of_nonneg_left h.w (by omega)
  unfold phi
  omega
/-- no order of the net with at most 8 balls takes more -/
theorem runs_most {N : NetM} {W : Nat → Int} {D : Int} (G : N.Good) (T : Wts N W D) {l : List (Nat × Nat)} {s s' : BdM} (h : Begun N s 8) (r : Runs N s l s') : total l ≤ 2634240 := by
  have e := phi_runs G T r (h.placed G)
  have a := phi_start T h
  have b := phi_low G T (placed_runs G r (h.placed G))
  have D0 := T.D0
  have c : D * (total l : Int) ≤ D * 2634240 := by omega
  have := Int.le_of_mul_le_mul_left c D0
  omega
theorem runs_len {N : NetM} : ∀ {l : List (Nat × Nat)} {s s' : BdM}, Runs N s l s' → l.length ≤ total l
  | [], _, _, _ => by simp
  | (k, m) :: r, s, s', ⟨⟨_, h1, _⟩, h⟩ => by
    have ih := runs_len h
    simp only [List.length_cons, total, List.map_cons, List.sum_cons] at *
    omega
theorem runs_mem {N : NetM} : ∀ {l : List (Nat × Nat)} {s s' : BdM}, Runs N s l s' → ∀ x ∈ l, x.1 < N.n ∧ 1 ≤ x.2
  | [], _, _, _, x, hx => by simp at hx
  | (k, m) :: r, s, s', ⟨⟨hk, h1, _⟩, h⟩, x, hx => by
    rcases List.mem_cons.mp hx with rfl | hx
    · exact ⟨hk, h1⟩
    · exact runs_mem h x hx
def Rest (N : NetM) (s : BdM) : Prop := ∀ i, i < N.n → s.w i = 0
/-- the last step -/
theorem last_step {N : NetM} {s : BdM} {k m : Nat} (hk : k < N.n) (hm : m ≤ s.w k) (h : Rest N (take N s k m)) : s.w k = m ∧ ∀ i, i < N.n → N.fall k (s.pl k) m i = 0 := by
  have e : ∀ i, i < N.n → s.w i + N.fall k (s.pl k) m i - (if i = k then m else 0) = 0 := fun i hi => by
    have := h i hi
    have z : (take N s k m).w i = s.w i + N.fall k (s.pl k) m i - (if i = k then m else 0) := if_pos hi
    omega
  have ek := e k hk
  rw [if_pos rfl] at ek
  refine ⟨by omega, fun i hi => ?_⟩
  have ei := e i hi
  by_cases c : i = k
  · subst c
    omega
  · rw [if_neg c] at ei
    omega
theorem take_zero {N : NetM} {s : BdM} {k : Nat} (hp : s.pl k < N.f k + N.q k) : take N s k 0 = s := by
  obtain ⟨w, out, tk, pl⟩ := s
  have e1 : (fun i => if i < N.n then w i + N.fall k (pl k) 0 i - (if i = k then 0 else 0) else w i) = w := funext fun i => by
    show (if i < N.n then w i + 0 - (if i = k then 0 else 0) else w i) = w i
    split
    · split <;> omega
    · rfl
  have e3 : (fun i => if i = k then tk i + 0 else tk i) = tk := funext fun i => by split <;> rfl
  have e4 : (fun i => if i = k then N.behind k (pl k) 0 else pl i) = pl := funext fun i => by
    split
    · rename_i c
      rw [behind_zero hp, c]
    · rfl
  show BdM.mk _ _ _ _ = _
  rw [e1, e3, e4]
  rfl
theorem take_add {N : NetM} {s : BdM} {k m j : Nat} (hq : 0 < N.q k) (hp : s.pl k < N.f k + N.q k) (hm : m ≤ s.w k) : take N (take N s k m) k j = take N s k (m + j) := by
  have ep : (take N s k m).pl k = N.behind k (s.pl k) m := if_pos rfl
  have ew : (take N (take N s k m) k j).w = (take N s k (m + j)).w := funext fun i => by
    show (if i < N.n then (if i < N.n then s.w i + N.fall k (s.pl k) m i - (if i = k then m else 0) else s.w i) + N.fall k ((take N s k m).pl k) j i - (if i = k then j else 0) else (if i < N.n then _ else s.w i))
      = if i < N.n then s.w i + N.fall k (s.pl k) (m + j) i - (if i = k then m + j else 0) else s.w i
    rw [ep, fall_add hq hp]
    by_cases c : i < N.n
    · rw [if_pos c, if_pos c, if_pos c]
      by_cases d : i = k
      · subst d
        rw [if_pos rfl, if_pos rfl, if_pos rfl]
        omega
      · rw [if_neg d, if_neg d, if_neg d]
        omega
    · rw [if_neg c, if_neg c, if_neg c]
  have eo : (take N (take N s k m) k j).out = (take N s k (m + j)).out := funext fun i => by
    show s.out i + N.fall k (s.pl k) m i + N.fall k ((take N s k m).pl k) j i = s.out i + N.fall k (s.pl k) (m + j) i
    rw [ep, fall_add hq hp]
    omega
  have et : (take N (take N s k m) k j).tk = (take N s k (m + j)).tk := funext fun i => by
    show (if i = k then (if i = k then s.tk i + m else s.tk i) + j else (if i = k then _ else s.tk i)) = if i = k then s.tk i + (m + j) else s.tk i
    by_cases d : i = k
    · rw [if_pos d, if_pos d, if_pos d]
      omega
    · rw [if_neg d, if_neg d, if_neg d]
  have el : (take N (take N s k m) k j).pl = (take N s k (m + j)).pl := funext fun i => by
    show (if i = k then N.behind k ((take N s k m).pl k) j else (if i = k then _ else s.pl i)) = if i = k then N.behind k (s.pl k) (m + j) else s.pl i
    rw [ep, behind_add hq hp]
    by_cases d : i = k
    · rw [if_pos d, if_pos d]
    · rw [if_neg d, if_neg d, if_neg d]
  generalize take N (take N s k m) k j = x at *
  generalize take N s k (m + j) = y at *
  obtain ⟨a, b, c, d⟩ := x
  obtain ⟨a', b', c', d'⟩ := y
  dsimp only at ew eo et el
  rw [ew, eo, et, el]
/-- one by one -/
theorem runs_singles {N : NetM} {s : BdM} {k : Nat} (hk : k < N.n) (hq : 0 < N.q k) (hp : s.pl k < N.f k + N.q k) : ∀ m, m ≤ s.w k → Runs N s (List.replicate m (k, 1)) (take N s k m)
  | 0, _ => by rw [take_zero hp]; rfl
  | m + 1, h => by
    have ih := runs_singles hk hq hp m (by omega)
    rw [List.replicate_succ', ← take_add hq hp (by omega)]
    refine runs_snoc ih hk (Nat.le_refl _) ?_
    have : (take N s k m).w k = s.w k + N.fall k (s.pl k) m k - (if k = k then m else 0) := if_pos hk
    rw [this, if_pos rfl]
    omega
end Bal
set_option autoImplicit true
set_option Elab.async false
set_option linter.all false
set_option maxRecDepth 100000
set_option maxHeartbeats 4000000
/-! W0: the text by places, bundles of facts about a def, the data as it stands in the heap. -/
namespace Bal
open PySem L2
/-! ### the text -/
def top (i : Nat) : Stmt := PySem.Challenge.pw_ballchutes_k18_whole_settled_things.main.body.getD i (.Pass ⟨0, 0, 0, 0⟩)
abbrev s_minors_of : Stmt := top 1
abbrev s_solved : Stmt := top 2
abbrev s_common : Stmt := top 3
abbrev s_lowered : Stmt := top 4
abbrev s_BadNet_init : Stmt := inClass (top 7) 0
abbrev s_BadOrder_init : Stmt := inClass (top 10) 0
abbrev s_is_number : Stmt := top 17
abbrev s_is_name : Stmt := top 18
abbrev s_is_row : Stmt := top 19
abbrev s_is_knot : Stmt := top 20
abbrev s_first_wrong : Stmt := top 21
abbrev s_Net_init : Stmt := inClass (top 22) 0
abbrev s_Net_eq : Stmt := inClass (top 22) 1
abbrev s_Net_len : Stmt := inClass (top 22) 2
abbrev s_Net_has : Stmt := inClass (top 22) 3
abbrev s_Net_met : Stmt := inClass (top 22) 4
abbrev s_Net_start : Stmt := inClass (top 22) 5
abbrev s_Net_front : Stmt := inClass (top 22) 6
abbrev s_Net_period : Stmt := inClass (top 22) 7
abbrev s_Net_turned : Stmt := inClass (top 22) 8
abbrev s_Net_check_standing : Stmt := inClass (top 22) 9
abbrev s_Net_place_behind : Stmt := inClass (top 22) 10
abbrev s_Net_dropped : Stmt := inClass (top 22) 11
abbrev s_count : Stmt := top 23
abbrev s_check_net : Stmt := top 24
abbrev s_lattice : Stmt := top 26
abbrev s_ends : Stmt := top 27
abbrev s_Ends_init : Stmt := inClass (top 28) 0
abbrev s_Ends_eq : Stmt := inClass (top 28) 1
abbrev s_Ends_bool : Stmt := inClass (top 28) 2
abbrev s_Ends_shows : Stmt := inClass (top 28) 3
abbrev s_Never_init : Stmt := inClass (top 29) 0
abbrev s_Never_eq : Stmt := inClass (top 29) 1
abbrev s_Never_bool : Stmt := inClass (top 29) 2
abbrev s_Never_shows : Stmt := inClass (top 29) 3
abbrev s_Waiting_init : Stmt := inClass (top 30) 0
abbrev s_Waiting_add : Stmt := inClass (top 30) 1
abbrev s_Waiting_follow : Stmt := inClass (top 30) 2
abbrev s_judge_ends : Stmt := top 31
abbrev s_turning : Stmt := top 32
abbrev s_never : Stmt := top 33
abbrev s_supply : Stmt := top 34
abbrev s_first_ways : Stmt := top 35
abbrev s_check_balls : Stmt := top 37
abbrev s_Board_init : Stmt := inClass (top 38) 0
abbrev s_Board_take : Stmt := inClass (top 38) 1
abbrev s_Board_first_waiting : Stmt := inClass (top 38) 2
abbrev s_Board_follow : Stmt := inClass (top 38) 3
abbrev s_Settled_init : Stmt := inClass (top 39) 0
abbrev s_Settled_eq : Stmt := inClass (top 39) 1
abbrev s_Settled_shows : Stmt := inClass (top 39) 2
abbrev s_begun : Stmt := top 40
abbrev s_settle : Stmt := top 41
abbrev s_played : Stmt := top 42
abbrev s_knots_in_turn : Stmt := top 43
abbrev s_l_draw : Stmt := top 45
abbrev s_l_knots : Stmt := top 46
abbrev s_l_inlets : Stmt := top 47
abbrev s_l_falls : Stmt := top 48
abbrev s_l_det : Stmt := top 49
abbrev s_l_matrix : Stmt := top 50
abbrev s_l_does_end : Stmt := top 51
abbrev s_l_rounds_for : Stmt := top 52
abbrev s_l_is_quick : Stmt := top 53
abbrev s_l_asked : Stmt := top 54
abbrev s_l_refused : Stmt := top 55
abbrev s_law : Stmt := top 56

/-! ### bundles: a def by its name, a method, a class -/
section
variable (P : Program) (w : World) (K : PySem.W.Frag) (mg : Str → Option Value) (base : Heap)
structure FnG (CX : CXT) (k : Nat) (x : Str) (sp : Sp) (dvs : List V) : Prop where
  ex : ∃ (f : Addr) (fd : FuncData) (ps : List Str) (ds : List Value), FnOk P w K mg base CX k f fd ps sp ∧ mg x = some (.ref f) ∧ PySem.W.keepIn K (.ref f) = true ∧ Binds K fd ps ds ∧ Vals dvs ds
structure MtG (CX : CXT) (k : Nat) (C : Addr) (m : Str) (sp : Sp) (dvs : List V) : Prop where
  ex : ∃ (f : Addr) (fd : FuncData) (ps : List Str) (ds : List Value), Cls K C ∧ Meth K C m f ∧ FnOk P w K mg base CX k f fd ps sp ∧ Binds K fd ps ds ∧ Vals dvs ds
structure MkG (CX : CXT) (k : Nat) (x : Str) (C : Addr) (sp : Sp) (dvs : List V) : Prop where
  ex : ∃ (f : Addr) (fd : FuncData) (ps : List Str) (ds : List Value), Mk K C f ∧ FnOk P w K mg base CX k f fd ps sp ∧ mg x = some (.ref C) ∧ Binds K fd ps ds ∧ Vals dvs ds
end
section
variable {X : Cx} {CX : CXT} {k j : Nat} {C : Addr} {x m : Str} {sp : Sp} {dvs : List V} {E : XK} {p pos apos : Pos} {e o : Expr} {es : List Expr} {ta : TE} {t : TA}
theorem pe_f (c : FnG X.prog X.w X.K X.mg X.base CX k x sp dvs) (hr : Room j X.A) (hk : k ≤ j) (hg : Gl X x) (hx : Passes CX X E) (ha : PA X (e :: es) t)
    (hdb : (x == ("__debug__" : Str)) = false := by decide) (he : starEach (e :: es) X.env = (false, eval e X.env) :: starEach es X.env := by rfl) (hpl : (backTo pos (starEach es X.env)).any (·.1) = false := by rfl) :
    PE X (.Call (.Name x p) (e :: es) [] pos) (tCall sp dvs E t) := by
  obtain ⟨f, fd, ps, ds, F, hm, kp, b, d⟩ := c.ex
  exact pe_call F (hr.mono hk) hg hm kp b d hx ha hdb he hpl
theorem pe_k (c : MkG X.prog X.w X.K X.mg X.base CX k x C sp dvs) (hr : Room j X.A) (hk : k + 1 ≤ j) (hg : Gl X x) (hx : Passes CX X E) (ha : PA X (e :: es) t)
    (hdb : (x == ("__debug__" : Str)) = false := by decide) (he : starEach (e :: es) X.env = (false, eval e X.env) :: starEach es X.env := by rfl) (hpl : (backTo pos (starEach es X.env)).any (·.1) = false := by rfl) :
    PE X (.Call (.Name x p) (e :: es) [] pos) (tMake C sp dvs E t) := by
  obtain ⟨f, fd, ps, ds, M, F, hm, b, d⟩ := c.ex
  exact pe_make M F (hr.mono hk) hg hm b d hx ha hdb he hpl
theorem pe_m {pl : Sem Bool} (c : MtG X.prog X.w X.K X.mg X.base CX k C m sp dvs) (hr : Room j X.A) (hk : k ≤ j) (hx : Passes CX X E) (he : PE X o ta) (ha : PA X (e :: es) t)
    (hst : starEach (e :: es) X.env = (false, eval e X.env) :: starEach es X.env := by rfl) (hpl : (backTo pos (starEach es X.env)).any (·.1) = false := by rfl)
    (ht : eval (.Call (.Attribute o m apos) (e :: es) [] pos) X.env = (do
      let ov ← eval o X.env
      standAt apos.atName
      let (f, first) ← holding [ov] (getMethod ov m pl)
      callWith pos f first (backTo pos (starEach (e :: es) X.env)) (backToKw pos (keywordEach [] X.env))) := by rfl) :
    PE X (.Call (.Attribute o m apos) (e :: es) [] pos) (tMeth C m sp dvs E ta t) := by
  obtain ⟨f, fd, ps, ds, hc, hm, F, b, d⟩ := c.ex
  exact pe_meth (pl := pl) he hc hm F (hr.mono hk) b d hx ha hst hpl ht
theorem pe_m0 {pl : Sem Bool} (c : MtG X.prog X.w X.K X.mg X.base CX k C m sp dvs) (hr : Room j X.A) (hk : k ≤ j) (hx : Passes CX X E) (he : PE X o ta)
    (ht : eval (.Call (.Attribute o m apos) [] [] pos) X.env = (do
      let ov ← eval o X.env
      standAt apos.atName
      let (f, first) ← holding [ov] (getMethod ov m pl)
      callWith pos f first (backTo pos (starEach [] X.env)) (backToKw pos (keywordEach [] X.env))) := by rfl) :
    PE X (.Call (.Attribute o m apos) [] [] pos) (tMeth C m sp dvs E ta tNil) := by
  obtain ⟨f, fd, ps, ds, hc, hm, F, b, d⟩ := c.ex
  exact pe_meth0 (pl := pl) he hc hm F (hr.mono hk) b d hx ht
end

/-! ### what the top has left: names, classes -/
structure Txt (K : PySem.W.Frag) (mg : Str → Option Value) (CN CB CS : Addr) : Prop where
  cN : Cls K CN
  cB : Cls K CB
  cS : Cls K CS
  iN : C8.InsC K CN
  iS : C8.InsC K CS
  gNet : mg "Net" = some (.ref CN)
  gBoard : mg "Board" = some (.ref CB)
  gSettled : mg "Settled" = some (.ref CS)
  nNk : NoAttr K CN "knots"
  nNi : NoAttr K CN "inlets"
  nNo : NoAttr K CN "outlets"
  nNn : NoAttr K CN "names"
  nBn : NoAttr K CB "net"
  nBs : NoAttr K CB "standing"
  nBw : NoAttr K CB "waiting"
  nBo : NoAttr K CB "out"
  nBt : NoAttr K CB "taken"
  nSt : NoAttr K CS "taken"
  nSo : NoAttr K CS "out"
  nSs : NoAttr K CS "standing"
  nSr : NoAttr K CS "order"
  int : mg "int" = none
  bool : mg "bool" = none
  str : mg "str" = none
  tuple : mg "tuple" = none
  list : mg "list" = none
  dict : mg "dict" = none
  len : mg "len" = none
  isinstance : mg "isinstance" = none
  sorted : mg "sorted" = none
  all : mg "all" = none
  any : mg "any" = none
  min : mg "min" = none
  max : mg "max" = none
  range : mg "range" = none
  zip : mg "zip" = none
  enumerate : mg "enumerate" = none
  MOST_KNOTS : ∃ u, mg "MOST_KNOTS" = some u ∧ RelV (.int 12) u
  MOST_DROPS : ∃ u, mg "MOST_DROPS" = some u ∧ RelV (.int 12) u
  MOST_TARGETS : ∃ u, mg "MOST_TARGETS" = some u ∧ RelV (.int 4) u
  MOST_SIGNS : ∃ u, mg "MOST_SIGNS" = some u ∧ RelV (.int 16) u

/-! ### targets as texts; dicts over them -/
def tg : Nat → Str
  | 0 => "a" | 1 => "b" | 2 => "c" | 3 => "d" | 4 => "o" | _ => "p"
theorem tg_inj : ∀ i, i < 6 → ∀ j, j < 6 → tg i = tg j → i = j := by decide +kernel
/-- targets with values, in their order -/
def tkv (is : List Nat) (v : Nat → V) : List (Key × V) := is.map fun i => (Sum.inr (tg i), v i)
theorem tkv_len (is : List Nat) (v : Nat → V) : (tkv is v).length = is.length := by simp [tkv]
theorem tkv_nil (v : Nat → V) : tkv [] v = [] := rfl
theorem tkv_congr {is : List Nat} {v v' : Nat → V} (h : ∀ i ∈ is, v i = v' i) : tkv is v = tkv is v' := List.map_congr_left fun i hi => by rw [h i hi]
theorem tkey_ne {i j : Nat} (hi : i < 6) (hj : j < 6) (h : i ≠ j) : ¬ (Sum.inr (tg i) : Key) = Sum.inr (tg j) := fun e => h (tg_inj i hi j hj (Sum.inr.inj e))
theorem tkv_val {v : Nat → V} {k : Nat} (hk : k < 6) : ∀ {is : List Nat}, (∀ i ∈ is, i < 6) → valV (tkv is v) (Sum.inr (tg k) : Key) = if k ∈ is then some (v k) else none
  | [], _ => rfl
  | i :: r, h => by
    show valV ((Sum.inr (tg i), v i) :: tkv r v) _ = _
    by_cases c : i = k
    · subst c
      rw [valV_pos rfl, if_pos (List.mem_cons_self ..)]
    · rw [valV_neg (tkey_ne (h i (List.mem_cons_self ..)) hk c), tkv_val hk fun j hj => h j (List.mem_cons_of_mem _ hj)]
      by_cases d : k ∈ r
      · rw [if_pos d, if_pos (List.mem_cons_of_mem _ d)]
      · rw [if_neg d, if_neg fun z => (List.mem_cons.mp z).elim (fun e => c e.symm) d]
/-- another text is no key -/
theorem tkv_not {v : Nat → V} {x : Str} (hx : ∀ i, i < 6 → tg i ≠ x) : ∀ {is : List Nat}, (∀ i ∈ is, i < 6) → valV (tkv is v) (Sum.inr x : Key) = none
  | [], _ => rfl
  | i :: r, h => by
    show valV ((Sum.inr (tg i), v i) :: tkv r v) _ = _
    rw [valV_neg fun e => hx i (h i (List.mem_cons_self ..)) (Sum.inr.inj e), tkv_not hx fun j hj => h j (List.mem_cons_of_mem _ hj)]
def addI (is : List Nat) (k : Nat) : List Nat := if k ∈ is then is else is ++ [k]
def setF (v : Nat → V) (k : Nat) (y : V) : Nat → V := fun i => if i = k then y else v i
theorem setF_same {v : Nat → V} {k : Nat} {y : V} : setF v k y k = y := if_pos rfl
theorem setF_ne {v : Nat → V} {k i : Nat} {y : V} (h : i ≠ k) : setF v k y i = v i := if_neg h
theorem tkv_put {v : Nat → V} {k : Nat} {y : V} (hk : k < 6) {is : List Nat} (h : ∀ i ∈ is, i < 6) : putK (tkv is v) (Sum.inr (tg k) : Key) y = tkv (addI is k) (setF v k y) := by
  have hv := tkv_val (v := v) hk h
  by_cases c : k ∈ is
  · rw [if_pos c] at hv
    have q : ((tkv is v).any fun kv => decide (kv.1 = (Sum.inr (tg k) : Key))) = true := by rw [valV_any, hv]; rfl
    unfold putK addI
    rw [if_pos q, if_pos c]
    unfold tkv
    rw [List.map_map]
    refine List.map_congr_left fun i hi => ?_
    show (if (Sum.inr (tg i) : Key) = Sum.inr (tg k) then _ else _) = _
    by_cases d : i = k
    · subst d
      rw [if_pos rfl, setF_same]
    · rw [if_neg (tkey_ne (h i hi) hk d), setF_ne d]
  · rw [if_neg c] at hv
    rw [putK_new y hv]
    unfold addI
    rw [if_neg c]
    show _ = List.map _ (is ++ [k])
    rw [List.map_append]
    congr 1
    · refine List.map_congr_left fun i hi => ?_
      have ne : i ≠ k := fun e => c (by rw [← e]; exact hi)
      rw [setF_ne ne]
    · show _ = [(_, _)]
      rw [setF_same]
theorem addI_lt {is : List Nat} {k : Nat} (h : ∀ i ∈ is, i < 6) (hk : k < 6) : ∀ i ∈ addI is k, i < 6 := fun i hi => by
  unfold addI at hi
  split at hi
  · exact h i hi
  · rcases List.mem_append.mp hi with z | z
    · exact h i z
    · rw [List.mem_singleton.mp z]; exact hk
theorem addI_mem {is : List Nat} {k i : Nat} : i ∈ addI is k ↔ i ∈ is ∨ i = k := by
  unfold addI
  split
  · rename_i c
    exact ⟨.inl, fun z => z.elim id fun e => by rw [e]; exact c⟩
  · rw [List.mem_append, List.mem_singleton]
theorem addI_nodup {is : List Nat} {k : Nat} (h : is.Nodup) : (addI is k).Nodup := by
  unfold addI
  split
  · exact h
  · rename_i c
    exact nd_snoc h c
theorem addI_of {is : List Nat} {k : Nat} (h : k ∈ is) : addI is k = is := if_pos h
theorem nodup_le : ∀ {n : Nat} {is : List Nat}, is.Nodup → (∀ i ∈ is, i < n) → is.length ≤ n
  | 0, [], _, _ => Nat.le_refl _
  | 0, i :: r, _, h => absurd (h i (List.mem_cons_self ..)) (Nat.not_lt_zero _)
  | n + 1, is, hd, h => by
    have h1 := nodup_le (n := n) (is := is.erase n) (hd.erase n) fun i hi => by
      have a := (hd.mem_erase_iff.mp hi)
      have b := h i a.2
      have c := a.1
      omega
    by_cases c : n ∈ is
    · rw [List.length_erase_of_mem c] at h1
      omega
    · rw [List.erase_of_not_mem c] at h1
      omega
theorem lenSmall {n : Nat} (h : n ≤ 1000) : n ≤ sizeLine := Nat.le_trans h (by decide)
end Bal
set_option autoImplicit true
set_option Elab.async false
set_option linter.all false
set_option maxRecDepth 100000
set_option maxHeartbeats 4000000
/-! WR1: enumerate(tuple), enumerate(text) as things that are walked. -/
namespace Bal
open PySem PySem.Spec PyProof.Rows L2
set_option maxHeartbeats 2000000 in
theorem meets_enum1 {v : Value} {o : Obj} {Z : Heap → Prop} (B : Begins v o Z) :
    Meets (Builtin.«enumerate.__new__» ⟨[.type "enumerate", v], []⟩) (fun _ R s => Z s.heap ∧
      R (.ok (.ret (.ref (s.heap.push o).objs.size))) { s with heap := (s.heap.push o).push { cls := .type "enumerate", data := .fields #[.none, .bool false, .ref s.heap.objs.size, rawInt 0, .none, .none] } }) :=
  .of_wp fun prog w A R s hyp => by
    obtain ⟨hp, gs, dr, tk, os⟩ := s
    obtain ⟨z, fin⟩ := hyp
    have sube := sub_enumerate
    have goes : ∀ {A2 : Around} {E2 : Value → Shared → Prop} {Q2 : Value → Shared → Prop}, Q2 (.ref hp.objs.size) ⟨hp.push o, gs, dr, tk, os⟩ → wpAny (model prog w) A2 (pyIter v) Q2 E2 ⟨hp, gs, dr, tk, os⟩ :=
      fun y => B.iter prog w _ _ ⟨hp, gs, dr, tk, os⟩ _ z y
    wp_walk using goes
    refine wpAny_stack_any fun _ => wpAny_pure ?_
    split
    · rename_i cl _ _ _ _ _
      cases (cl == Value.type "enumerate") <;> (wp_walk using goes; exact ⟨_, rfl, fin⟩)
    · wp_walk using goes
      exact ⟨_, rfl, fin⟩
theorem call_enum1 {prog : Program} {w : World} {A : Around} {E : Value → Shared → Prop} {s : Shared} {v : Value} {o : Obj} {Z : Heap → Prop} {Q : Value → Shared → Prop} (B : Begins v o Z) (z : Z s.heap)
    (fin : ∀ h', IsEnum h' (s.heap.objs.size + 1) s.heap.objs.size 0 .none → h'.get? s.heap.objs.size = some o → (∀ b ob, s.heap.get? b = some ob → h'.get? b = some ob) → Q (.ref (s.heap.objs.size + 1)) { s with heap := h' }) :
    wpAny (model prog w) A (call (.type "enumerate") [v]) Q E s := by
  refine callType_new F.called_enumerate (by decide) (F.typeCall_enumerate_1 _) (F.newCall_enumerate_1 _) (fun obj => F.args_object_init_2 obj _) F.entry_enumerate_new (meets_enum1 B) ⟨z, ?_⟩
  have sz : (s.heap.push o).objs.size = s.heap.objs.size + 1 := Heap.size_push ..
  show _ ∧ _
  rw [sz]
  have en : IsEnum ((s.heap.push o).push { cls := .type "enumerate", data := .fields #[.none, .bool false, .ref s.heap.objs.size, rawInt 0, .none, .none] }) (s.heap.objs.size + 1) s.heap.objs.size 0 .none := by
    have y := Heap.get?_push_size (s.heap.push o) (o := { cls := .type "enumerate", data := .fields #[.none, .bool false, .ref s.heap.objs.size, rawInt 0, .none, .none] }) rfl
    rw [sz] at y
    exact y
  exact ⟨⟨_, en, rfl⟩, fin _ en (Heap.get?_push_of_some _ (Heap.get?_push_size _ B.free)) fun b ob x => Heap.get?_push_of_some _ (Heap.get?_push_of_some _ x)⟩
/-- numbered items of anything: n of them, G stands, the i-th as item says -/
def IteG (n : Nat) (G : Hp → Prop) (item : Nat → V → Prop) : It :=
  ⟨fun i H => i < n ∧ G H, fun i H v H' => ∃ T x, v = .ref T ∧ H T = none ∧ H' = upd H T (.tup [.int (i : Nat), x]) ∧ item i x, fun i H => i = n ∧ G H⟩
theorem walk_enumG {n : Nat} {G : Hp → Prop} {item : Nat → V → Prop} : Walk (IteG n G item) n G (fun i H v H' => ∃ T x, v = .ref T ∧ H T = none ∧ H' = upd H T (.tup [.int (i : Nat), x]) ∧ item i x) :=
  ⟨fun _ _ hi q => ⟨hi, q⟩, fun _ q => ⟨rfl, q⟩, fun _ _ _ _ _ _ y => y⟩
/-- its turns: cells e and it; what the source's iterator does is told, at each turn anew, by what it draws -/
theorem turn_enumG {P : Program} {w : World} {K : PySem.W.Frag} {elts : List Expr} {kk : Nat} {tpos : Pos} {n : Nat} {G : Hp → Prop} {item : Nat → V → Prop} {e it : Addr} {tn0 : Nat → Heap → Prop} (hne : e ≠ it)
    (cell : ∀ i h, tn0 i h → ∃ o vs, h.get? it = some o ∧ o.data = .fields vs) (keep0 : ∀ i h h', tn0 i h → (∀ o, h.get? it = some o → h'.get? it = some o) → tn0 i h')
    (link : ∀ (X : Cx) (pins : List (Addr × Obj)) (σ : L2.St) (H : Hp) (s : Shared) (i : Nat) (A : Around), Inv X pins σ H s → X.K = K → G H → tn0 i s.heap → (∃ oe, s.heap.get? e = some oe ∧ oe.cls = .type "enumerate") → A.handled = none →
      ∃ (fpd : List Addr) (Pv : Nat → Value → Prop) (Sd : Nat → Heap → Prop), Draws P w A it fpd n Pv Sd ∧ Sd i s.heap ∧ e ∉ fpd ∧ (∀ u, Pv i u → ∃ x, RelV x u ∧ item i x) ∧ ∀ h, Sd (i + 1) h → tn0 (i + 1) h) :
    Turn P w K (.Tuple elts kk tpos) (IteG n G item) [e, it] e (fun i h => (∃ old, IsEnum h e it ((i : Nat) : Int) old) ∧ tn0 i h) where
  mem := by simp
  obj := fun i h st b hb => by
    obtain ⟨⟨old, he⟩, t0⟩ := st
    obtain ⟨o, vs, ho, hd⟩ := cell i h t0
    have z : b = e ∨ b = it := by simpa using hb
    rcases z with z | z
    · rw [z]; exact ⟨_, he, fun v q => nomatch q⟩
    · rw [z]; exact ⟨o, ho, fun v q => by rw [hd] at q; cases q⟩
  keep := fun i h h' st k => let ⟨⟨old, he⟩, t0⟩ := st; ⟨⟨old, k e (by simp) _ he⟩, keep0 i h h' t0 fun o q => k it (by simp) o q⟩
  item := by
    intro X hP hw hK hc i pins s σ H E I hf st hg
    subst hP hw
    obtain ⟨⟨old, he⟩, t0⟩ := st
    obtain ⟨hi, hG⟩ := hg
    obtain ⟨fpd, Pv, Sd, D, hs, hef, hx, unlink⟩ := link X pins σ H s i X.A.in1 I hK hG t0 ⟨_, he, rfl⟩ (I.ok.hd hc)
    have hel : e < s.heap.objs.size := Heap.lt_size he
    have hil : it < s.heap.objs.size := by obtain ⟨o, _, ho, _⟩ := cell i _ t0; exact Heap.lt_size ho
    refine wpAny_pyNext_enum_itemC D he hs hi hne hef fun u h' tk hP' ho hst' hT hsz hk => ?_
    obtain ⟨x, ru, ix⟩ := hx u hP'
    refine ⟨_, rfl, wpAny_letOwnedTupleGo_enum (s := { s with heap := h', toks := tk + 1 }) ho fun h'' he' sb => ?_⟩
    have hT2 : h''.get? s.heap.objs.size = some { cls := .type "tuple", data := .seq #[.int i tk, u] } := (sb.2 _ (Nat.ne_of_gt hel)).trans hT
    have new : ObjOk X.prog X.w (upd H s.heap.objs.size (.tup [.int (i : Nat), x])) h'' s.heap.objs.size (.tup [.int (i : Nat), x]) :=
      ⟨by show 2 ≤ sizeLine; decide, [.int i tk, u], .cons ⟨_, rfl⟩ (.cons ru .nil), ⟨_, hT2, rfl, _, rfl⟩⟩
    have I1 : Inv X pins σ (upd H s.heap.objs.size (.tup [.int (i : Nat), x])) { s with heap := h'', toks := tk + 1 } :=
      I.turnedNew (ch := [e, it]) (fun b ob hb q => (sb.2 b (fun z => hb (by simp [z]))).trans (hk b ob (fun z => hb (by simp [z])) (fun z => hb (by simp [z])) q)) hf (Nat.le_refl _) new
    refine ⟨.ref s.heap.objs.size, _, I1, rfl, ⟨_, x, rfl, I.hok.fresh (Nat.le_refl _), rfl, ix⟩, ⟨⟨u, ?_⟩, keep0 _ _ _ (unlink _ hst') fun o q => (sb.2 it (Ne.symm hne)).trans q⟩, fun b hb => ?_⟩
    · have e1 : ((i + 1 : Nat) : Int) = (i : Int) + 1 := by omega
      rw [e1]; exact he'
    · have hb' : b < s.heap.objs.size := by
        have z : b = e ∨ b = it := by simpa using hb
        rcases z with z | z
        · rw [z]; exact hel
        · rw [z]; exact hil
      rw [upd_ne (Nat.ne_of_lt hb')]
      exact (hf b hb).1
  done := by
    intro X hP hw hK hc i pins s σ H E I hf st hg
    subst hP hw
    obtain ⟨⟨old, he⟩, t0⟩ := st
    obtain ⟨hi, hG⟩ := hg
    subst hi
    obtain ⟨fpd, Pv, Sd, D, hs, _, _, _⟩ := link X pins σ H s _ X.A.in1 I hK hG t0 ⟨_, he, rfl⟩ (I.ok.hd hc)
    obtain ⟨f0, f1, f2, f3, f4, f5⟩ := hf it (by simp)
    exact wpAny_pyNext_enum_endD D he hs fun h' eb => ⟨rfl, I.turned (t' := s.toks) (fun b o hb q => eb b o hb q) f0 f1 f3 f4 f5⟩
  self := fun A i s Q E st h => let ⟨⟨_, he⟩, _⟩ := st; wpAny_pyIter_enum he h
section
variable {X : Cx} {e : Expr} {ta : TA} {p pos tpos : Pos} {elts : List Expr} {kk : Nat}
def iEnumT (K : PySem.W.Frag) (ta : TA) : TI := fun σ H R => ta σ H fun vs H1 => ∃ a xs, vs = [.ref a] ∧ SqT K H1 a xs ∧ R (IteG xs.length (fun H => SqT K H a xs) fun i x => xs[i]? = some x) H1
theorem pi_enumT (hg : Gl X "enumerate") (hm : X.mg "enumerate" = none) (ha : PA X [e] ta) (hs : starEach [e] X.env = [(false, eval e X.env)] := by rfl) :
    PI X (.Tuple elts kk tpos) (.Call (.Name "enumerate" p) [e] [] pos) (iEnumT X.K ta) := by
  refine ⟨fun pins s σ H R I h => ?_⟩
  refine Call_ (ld_blt I hg hm PyProof.Rows.boot_enumerate (PyProof.Rows.callWith_type1 (thn (ha.run pos pins s σ H _ I h) fun us s1 ⟨vs, H1, I1, r1, q1⟩ => ?_) hs rfl))
  obtain ⟨a, xs, ex, hq, q⟩ := q1
  subst ex
  cases r1 with
  | cons r rr =>
    cases rr
    cases r
    obtain ⟨its, rv, p', hz⟩ := I1.tuple hq
    refine call_enum1 (begins_tuple a its.toArray) (show s1.heap.IsTuple a its.toArray from p') fun h' he hit hk => wpAny_pyIter_enum he ?_
    have I2 : Inv X pins σ H1 { s1 with heap := h' } := I1.kept (t' := s1.toks) hk
    refine ⟨s1.heap.objs.size + 1, [s1.heap.objs.size + 1, s1.heap.objs.size], _, _, H1, rfl, I2,
      turn_enumG (n := xs.length) (e := s1.heap.objs.size + 1) (it := s1.heap.objs.size) (tn0 := fun i h => h.IsTupleIter s1.heap.objs.size a i) (Nat.succ_ne_self _) (fun i h t => ?_) (fun i h h2 t k => t.at fun o q => k o q)
        (fun X' pins' σ' H' s' i A' I' hK hG t hoe hh => ?_), ⟨⟨.none, he⟩, ⟨_, hit, rfl, rfl⟩⟩, fun b hb => ?_, q⟩
    · obtain ⟨o, ho, hc, hd⟩ := t
      exact ⟨o, _, ho, hd⟩
    · have hG' : SqT X'.K H' a xs := by rw [hK]; exact hG
      obtain ⟨its2, rv2, p2, _⟩ := I'.tuple hG'
      have hsize : its2.toArray.size = xs.length := by simp [rv2.length]
      have ait : a ≠ s1.heap.objs.size := fun z => by
        obtain ⟨o, ho, hc, hd⟩ := t
        obtain ⟨o2, ho2, hc2, _⟩ := p2
        rw [← z, ho2] at ho
        cases ho
        rw [hc2] at hc
        injection hc with y
        exact absurd y (by decide)
      have D := Draws.tuple (prog := X.prog) (w := X.w) hh s1.heap.objs.size a ait its2.toArray
      rw [hsize] at D
      refine ⟨_, _, _, D, ⟨t, p2⟩, fun m => ?_, fun u hu => ?_, fun h z => z.1⟩
      · simp only [List.mem_cons, List.not_mem_nil, or_false] at m
        rcases m with m | m
        · exact Nat.succ_ne_self _ m
        · obtain ⟨oe, ho, hc⟩ := hoe
          obtain ⟨o2, ho2, hc2, _⟩ := p2
          rw [m, ho2] at ho
          cases ho
          rw [hc2] at hc
          injection hc with y
          exact absurd y (by decide)
      · have hu' : its2[i]? = some u := by simpa using hu
        have hl : i < xs.length := by
          have := (List.getElem?_eq_some_iff.mp hu').1
          rw [← rv2.length] at this
          exact this
        obtain ⟨u2, h2, r2⟩ := rv2.get (show xs[i]? = some xs[i] by simp [hl])
        rw [hu'] at h2
        cases h2
        exact ⟨xs[i], r2, by simp [hl]⟩
    · have z : b = s1.heap.objs.size + 1 ∨ b = s1.heap.objs.size := by simpa using hb
      have hle : s1.heap.objs.size ≤ b := by
        rcases z with z | z
        · rw [z]; exact Nat.le_add_right _ _
        · rw [z]; exact Nat.le_refl _
      exact I1.fpOk hle (I1.hok.fresh hle)
def iEnumS (ta : TA) : TI := fun σ H R => ta σ H fun vs H1 => ∃ z : Str, vs = [.str z] ∧ R (IteG z.cps.size (fun _ => True) fun i x => ∃ c, z.cps[i]? = some c ∧ x = .str ⟨#[c]⟩) H1
theorem pi_enumS (hg : Gl X "enumerate") (hm : X.mg "enumerate" = none) (ha : PA X [e] ta) (hs : starEach [e] X.env = [(false, eval e X.env)] := by rfl) :
    PI X (.Tuple elts kk tpos) (.Call (.Name "enumerate" p) [e] [] pos) (iEnumS ta) := by
  refine ⟨fun pins s σ H R I h => ?_⟩
  refine Call_ (ld_blt I hg hm PyProof.Rows.boot_enumerate (PyProof.Rows.callWith_type1 (thn (ha.run pos pins s σ H _ I h) fun us s1 ⟨vs, H1, I1, r1, q1⟩ => ?_) hs rfl))
  obtain ⟨z, ex, q⟩ := q1
  subst ex
  cases r1 with
  | cons r rr =>
    cases rr
    obtain ⟨t, rfl⟩ := r
    refine call_enum1 (begins_text z t) trivial fun h' he hit hk => wpAny_pyIter_enum he ?_
    have I2 : Inv X pins σ H1 { s1 with heap := h' } := I1.kept (t' := s1.toks) hk
    refine ⟨s1.heap.objs.size + 1, [s1.heap.objs.size + 1, s1.heap.objs.size], _, _, H1, rfl, I2,
      turn_enumG (n := z.cps.size) (e := s1.heap.objs.size + 1) (it := s1.heap.objs.size) (tn0 := fun i h => h.IsStrIter s1.heap.objs.size (strIterType z) z t i) (Nat.succ_ne_self _) (fun i h t => ?_) (fun i h h2 t k => let ⟨o, ho, r⟩ := t; ⟨o, k o ho, r⟩)
        (fun X' pins' σ' H' s' i A' I' hK hG t0 hoe hh => ?_), ⟨⟨.none, he⟩, ⟨_, hit, rfl, rfl⟩⟩, fun b hb => ?_, q⟩
    · obtain ⟨o, ho, hc, hd⟩ := t
      exact ⟨o, _, ho, hd⟩
    · refine ⟨_, _, _, Draws.text (prog := X.prog) (w := X.w) hh s1.heap.objs.size z t, t0, fun m => ?_, fun u hu => ?_, fun h y => y⟩
      · simp only [List.mem_cons, List.not_mem_nil, or_false] at m
        exact Nat.succ_ne_self _ m
      · obtain ⟨c, u', h1, h2⟩ := hu
        exact ⟨.str ⟨#[c]⟩, ⟨u', h2⟩, c, h1, rfl⟩
    · have y : b = s1.heap.objs.size + 1 ∨ b = s1.heap.objs.size := by simpa using hb
      have hle : s1.heap.objs.size ≤ b := by
        rcases y with y | y
        · rw [y]; exact Nat.le_add_right _ _
        · rw [y]; exact Nat.le_refl _
      exact I1.fpOk hle (I1.hok.fresh hle)
end
end Bal
set_option autoImplicit true
set_option Elab.async false
set_option linter.all false
set_option maxRecDepth 100000
set_option maxHeartbeats 4000000
/-! W1: small defs. -/
namespace Bal
open PySem L2
section
variable {P : Program} {w : World} {K : PySem.W.Frag} {mg : Str → Option Value} {base : Heap} {CN CB CS : Addr}
def isNum : V → Bool
  | .int _ => true
  | _ => false
/-- None, a bool, an int, a text -/
def plain4 : V → Prop
  | .non => True
  | .bl _ => True
  | .int _ => True
  | .str _ => True
  | _ => False
def tyN : V → String
  | .non => "NoneType"
  | .bl _ => "bool"
  | .int _ => "int"
  | _ => "str"
theorem plain_ty {H : Hp} {x : V} (h : plain4 x) : TyX K H x (.type (tyN x)) := by
  cases x <;> first | exact h.elim | exact .base .non | exact .base (.bl _) | exact .base (.int _) | exact .base (.str _)
def isI : V → Bool
  | .int _ => true
  | .bl _ => true
  | _ => false
def isB : V → Bool
  | .bl _ => true
  | _ => false
def isS : V → Bool
  | .str _ => true
  | _ => false
theorem kit4 {x : V} (h : plain4 x) : PySem.W.kitOne K (.type (tyN x)) (.type "int") = some (isI x) ∧ PySem.W.kitOne K (.type (tyN x)) (.type "bool") = some (isB x) ∧
    PySem.W.kitOne K (.type (tyN x)) (.type "str") = some (isS x) ∧ PySem.W.kitOne K (.type (tyN x)) (.type "dict") = some false ∧ PySem.W.kitOne K (.type (tyN x)) (.type "tuple") = some false ∧ PySem.W.kitOne K (.type (tyN x)) (.type "list") = some false := by
  have k1 : kitB "NoneType" "int" = some false ∧ kitB "NoneType" "bool" = some false ∧ kitB "NoneType" "str" = some false ∧ kitB "NoneType" "dict" = some false ∧ kitB "NoneType" "tuple" = some false ∧ kitB "NoneType" "list" = some false := by decide +kernel
  have k2 : kitB "bool" "int" = some true ∧ kitB "bool" "bool" = some true ∧ kitB "bool" "str" = some false ∧ kitB "bool" "dict" = some false ∧ kitB "bool" "tuple" = some false ∧ kitB "bool" "list" = some false := by decide +kernel
  have k3 : kitB "int" "int" = some true ∧ kitB "int" "bool" = some false ∧ kitB "int" "str" = some false ∧ kitB "int" "dict" = some false ∧ kitB "int" "tuple" = some false ∧ kitB "int" "list" = some false := by decide +kernel
  have k4 : kitB "str" "int" = some false ∧ kitB "str" "bool" = some false ∧ kitB "str" "str" = some true ∧ kitB "str" "dict" = some false ∧ kitB "str" "tuple" = some false ∧ kitB "str" "list" = some false := by decide +kernel
  cases x <;> first | exact h.elim | exact k1 | exact k2 | exact k3 | exact k4
def spNum : Sp := fun vs H Q _ => ∃ x, vs = [x] ∧ plain4 x ∧ Q (.bl (isNum x)) H
theorem sc_is_number : FnScope ["thing"] ["thing"] (defScope s_is_number) := ⟨rfl, rfl, rfl, by decide +kernel, rfl, by decide +kernel, by decide +kernel⟩
theorem ok_is_number {f : Addr} {fd : FuncData} (F : Fun K "is_number" "is_number" s_is_number f fd) (T : Txt K mg CN CB CS) : FnOk P w K mg base CX0 1 f fd ["thing"] spNum := by
  refine F.ok sc_is_number (fun vs H Q E h => ?_) (fun cdv A outer s H vs Q E hr h => ?_)
  · obtain ⟨x, rfl, _⟩ := h
    rfl
  · obtain ⟨x, rfl, hx, k⟩ := h
    refine ⟨_, (pss_one (ps_ret (pe_and (pe_callB call_isi (by rfl) T.isinstance (by decide +kernel) (pa_cons (pv 0) (pa_cons (pe_bltn (v := .ty "int") (by rfl) T.int (by decide +kernel) rfl) pa_nil))) (pe_one (pe_not (pe_callB call_isi (by rfl) T.isinstance (by decide +kernel) (pa_cons (pv 0) (pa_cons (pe_bltn (v := .ty "bool") (by rfl) T.bool (by decide +kernel) rfl) pa_nil)))))))), ?_⟩
    obtain ⟨k1, k2, _⟩ := kit4 (K := K) hx
    refine ⟨x, rfl, x, .ty "int", _, _, _, rfl, .ty _, plain_ty hx, k1, _, rfl, ?_⟩
    cases x with
    | int i => exact iteT ⟨_, rfl, _, _, _, _, _, rfl, .ty _, plain_ty hx, k2, _, rfl, k⟩
    | bl i => exact iteT ⟨_, rfl, _, _, _, _, _, rfl, .ty _, plain_ty hx, k2, _, rfl, k⟩
    | non => exact iteF k
    | str _ => exact iteF k
    | _ => exact hx.elim
end
end Bal
set_option autoImplicit true
set_option Elab.async false
set_option linter.all false
set_option maxRecDepth 100000
set_option maxHeartbeats 4000000
/-! W2: a net as it stands; its small methods. -/
namespace Bal
open PySem L2
/-! ### dicts over targets, read and written -/
theorem dget_tkv {H : Hp} {d : Addr} {is : List Nat} {v : Nat → V} {k : Nat} (h : H d = some (.dK (tkv is v))) (hk : k < 6) (hi : ∀ i ∈ is, i < 6) : DGet H d (.str (tg k)) (if k ∈ is then some (v k) else none) := by
  have q := DGet.k (k := Sum.inr (tg k)) h
  rw [tkv_val hk hi] at q
  exact q
theorem dget_in {H : Hp} {d : Addr} {is : List Nat} {v : Nat → V} {k : Nat} (h : H d = some (.dK (tkv is v))) (hk : k ∈ is) (hi : ∀ i ∈ is, i < 6) : DGet H d (.str (tg k)) (some (v k)) := by
  have q := dget_tkv h (hi k hk) hi
  rw [if_pos hk] at q
  exact q
theorem dput_tkv {H : Hp} {d : Addr} {is : List Nat} {v : Nat → V} {k : Nat} {y : V} (h : H d = some (.dK (tkv is v))) (hk : k < 6) (hi : ∀ i ∈ is, i < 6) (hl : is.length ≤ 1000) : DPut H d (.str (tg k)) y (upd H d (.dK (tkv (addI is k) (setF v k y)))) := by
  have q := DPut.k (k := Sum.inr (tg k)) (v := y) h (by rw [tkv_len]; exact small1000 hl)
  rw [tkv_put hk hi] at q
  exact q
theorem rng_lt {n : Nat} (h : n ≤ 4) : ∀ i ∈ List.range n, i < 6 := fun i hi => by have := List.mem_range.mp hi; omega

/-! ### a net -/
/-- a drop -/
def DropAt (H : Hp) (d : List Nat) (x : V) : Prop := ∃ a, x = .ref a ∧ H a = some (.tup (d.map fun t => .str (tg t)))
/-- a row of drops -/
def RowAt (H : Hp) (r : List (List Nat)) (x : V) : Prop := ∃ a ps, x = .ref a ∧ H a = some (.tup ps) ∧ Paired (fun p d => DropAt H d p) ps r
def KnotAt (H : Hp) (f t : List (List Nat)) (x : V) : Prop := ∃ a y z, x = .ref a ∧ H a = some (.tup [y, z]) ∧ RowAt H f y ∧ RowAt H t z
theorem DropAt.same {H H' : Hp} (s : Same H H') {d : List Nat} {x : V} (h : DropAt H d x) : DropAt H' d x := let ⟨a, e, q⟩ := h; ⟨a, e, s _ _ q⟩
theorem RowAt.same {H H' : Hp} (s : Same H H') {r : List (List Nat)} {x : V} (h : RowAt H r x) : RowAt H' r x := let ⟨a, ps, e, q, p⟩ := h; ⟨a, ps, e, s _ _ q, Paired.mapP p fun _ _ z => z.same s⟩
theorem KnotAt.same {H H' : Hp} (s : Same H H') {f t : List (List Nat)} {x : V} (h : KnotAt H f t x) : KnotAt H' f t x := let ⟨a, y, z, e, q, p1, p2⟩ := h; ⟨a, y, z, e, s _ _ q, p1.same s, p2.same s⟩
/-- the knots' dict -/
structure KnotsAt (H : Hp) (N : NetM) (d : Addr) (v : Nat → V) : Prop where
  dc : H d = some (.dK (tkv (List.range N.n) v))
  kn : ∀ k, k < N.n → KnotAt H (N.fr k) (N.tu k) (v k)
theorem KnotsAt.same {H H' : Hp} (s : Same H H') {N : NetM} {d : Addr} {v : Nat → V} (h : KnotsAt H N d v) : KnotsAt H' N d v := ⟨s _ _ h.dc, fun k hk => (h.kn k hk).same s⟩
structure NetA where
  p : Addr
  dx : Addr
  kd : Addr
  id : Addr
  ot : Addr
  nl : Addr
  v : Nat → V
def netF (kd id ot nl : Addr) : List (Str × V) := [("knots", .ref kd), ("inlets", .ref id), ("outlets", .ref ot), ("names", .ref nl)]
theorem netF_k {kd id ot nl : Addr} : (netF kd id ot nl).lookup ("knots" : Str) = some (.ref kd) := by rfl
theorem netF_i {kd id ot nl : Addr} : (netF kd id ot nl).lookup ("inlets" : Str) = some (.ref id) := by rfl
theorem netF_o {kd id ot nl : Addr} : (netF kd id ot nl).lookup ("outlets" : Str) = some (.ref ot) := by rfl
theorem netF_n {kd id ot nl : Addr} : (netF kd id ot nl).lookup ("names" : Str) = some (.ref nl) := by rfl
def inl (J : Nat) : List (Key × V) := [(Sum.inr "i", .str (tg 0)), (Sum.inr "j", .str (tg J))]
def namesV (n : Nat) : List V := (List.range n).map fun k => .str (tg k)
structure NetAt (CN : Addr) (H : Hp) (N : NetM) (J : Nat) (a : NetA) : Prop where
  ob : H a.p = some (.ins CN a.dx (netF a.kd a.id a.ot a.nl))
  kn : KnotsAt H N a.kd a.v
  id : H a.id = some (.dK (inl J))
  ot : H a.ot = some (.tup [.str (tg 4), .str (tg 5)])
  nl : H a.nl = some (.lst (namesV N.n))
theorem NetAt.same {CN : Addr} {H H' : Hp} (s : Same H H') {N : NetM} {J : Nat} {a : NetA} (h : NetAt CN H N J a) : NetAt CN H' N J a := ⟨s _ _ h.ob, h.kn.same s, s _ _ h.id, s _ _ h.ot, s _ _ h.nl⟩
theorem same_upd {H H' : Hp} (s : Same H H') {p : Addr} {o : HO} (h : H' p = none) : Same H (upd H' p o) := fun b u e => by
  rw [upd_ne (ne_of_none (s b u e) h)]
  exact s b u e
theorem same_upd0 {H : Hp} {p : Addr} {o : HO} (h : H p = none) : Same H (upd H p o) := same_upd (Same.refl H) h
section
variable {P : Program} {w : World} {K : PySem.W.Frag} {mg : Str → Option Value} {base : Heap} {CN CB CS : Addr}
/-! ### front, period -/
def spFront (CN : Addr) : Sp := fun vs H Q _ => ∃ N J a k, vs = [.ref a.p, .str (tg k)] ∧ NetAt CN H N J a ∧ N.n ≤ 4 ∧ k < N.n ∧ Q (.int (N.f k)) H
def spPeriod (CN : Addr) : Sp := fun vs H Q _ => ∃ N J a k, vs = [.ref a.p, .str (tg k)] ∧ NetAt CN H N J a ∧ N.n ≤ 4 ∧ k < N.n ∧ Q (.int (N.q k)) H
theorem sc_Net_front : FnScope ["self", "name"] ["self", "name"] (defScope s_Net_front) := ⟨rfl, rfl, rfl, by decide +kernel, rfl, by decide +kernel, by decide +kernel⟩
theorem sc_Net_period : FnScope ["self", "name"] ["self", "name"] (defScope s_Net_period) := ⟨rfl, rfl, rfl, by decide +kernel, rfl, by decide +kernel, by decide +kernel⟩
theorem ok_front {f : Addr} {fd : FuncData} (F : Fun K "front" "Net.front" s_Net_front f fd) (T : Txt K mg CN CB CS) : FnOk P w K mg base CX0 1 f fd ["self", "name"] (spFront CN) := by
  refine F.ok sc_Net_front (fun vs H Q E h => ?_) (fun cdv A outer s H vs Q E hr h => ?_)
  · obtain ⟨N, J, a, k, rfl, _⟩ := h
    rfl
  · obtain ⟨N, J, a, k, rfl, A1, hn, hk, kq⟩ := h
    have hu := hu_of hr
    refine ⟨_, (pss_one (ps_ret (pe_callB call_len_seq (by rfl) T.len (by decide +kernel) (pa_cons (pe_ix ix_tup (pe_dget hu (pe_fld (pv 0) rfl) (pv 1) (fun _ _ => rfl)) pe_int (fun _ _ => rfl)) pa_nil)))), ?_⟩
    obtain ⟨b, y, z, e, q, ⟨c, ps, e2, q2, p2⟩, r2⟩ := A1.kn.kn k hk
    refine ⟨_, rfl, a.p, CN, a.dx, _, _, rfl, A1.ob, T.cN, T.nNk, netF_k, _, rfl, a.kd, _, rfl, dget_in A1.kn.dc (List.mem_range.mpr hk) (rng_lt hn), ?_⟩
    rw [e]
    refine ⟨_, _, _, _, rfl, rfl, SqT.of q, rfl, ?_⟩
    rw [e2]
    refine ⟨_, _, rfl, .inr (SqT.of q2), ?_⟩
    have : (N.f k : Int) = (ps.length : Int) := by rw [p2.length]; rfl
    rw [← this]
    exact kq
theorem ok_period {f : Addr} {fd : FuncData} (F : Fun K "period" "Net.period" s_Net_period f fd) (T : Txt K mg CN CB CS) : FnOk P w K mg base CX0 1 f fd ["self", "name"] (spPeriod CN) := by
  refine F.ok sc_Net_period (fun vs H Q E h => ?_) (fun cdv A outer s H vs Q E hr h => ?_)
  · obtain ⟨N, J, a, k, rfl, _⟩ := h
    rfl
  · obtain ⟨N, J, a, k, rfl, A1, hn, hk, kq⟩ := h
    have hu := hu_of hr
    refine ⟨_, (pss_one (ps_ret (pe_callB call_len_seq (by rfl) T.len (by decide +kernel) (pa_cons (pe_ix ix_tup (pe_dget hu (pe_fld (pv 0) rfl) (pv 1) (fun _ _ => rfl)) pe_int (fun _ _ => rfl)) pa_nil)))), ?_⟩
    obtain ⟨b, y, z, e, q, r2, ⟨c, ps, e2, q2, p2⟩⟩ := A1.kn.kn k hk
    refine ⟨_, rfl, a.p, CN, a.dx, _, _, rfl, A1.ob, T.cN, T.nNk, netF_k, _, rfl, a.kd, _, rfl, dget_in A1.kn.dc (List.mem_range.mpr hk) (rng_lt hn), ?_⟩
    rw [e]
    refine ⟨_, _, _, _, rfl, rfl, SqT.of q, rfl, ?_⟩
    rw [e2]
    refine ⟨_, _, rfl, .inr (SqT.of q2), ?_⟩
    have : (N.q k : Int) = (ps.length : Int) := by rw [p2.length]; rfl
    rw [← this]
    exact kq
/-! ### place_behind -/
def spBehind (CN : Addr) : Sp := fun vs H Q _ => ∃ N J a k, ∃ p m : Nat, vs = [.ref a.p, .str (tg k), .int (p : Int), .int (m : Int)] ∧ NetAt CN H N J a ∧ N.n ≤ 4 ∧ k < N.n ∧ 0 < N.q k ∧ Q (.int (N.behind k p m : Nat)) H
theorem sc_Net_place_behind : FnScope ["self", "name", "place", "many", "late", "front", "period"] ["self", "name", "place", "many"] (defScope s_Net_place_behind) := ⟨rfl, rfl, rfl, by decide +kernel, rfl, by decide +kernel, by decide +kernel⟩
theorem ok_behind {f : Addr} {fd : FuncData} (F : Fun K "place_behind" "Net.place_behind" s_Net_place_behind f fd) (T : Txt K mg CN CB CS) (G_front : MtG P w K mg base CX0 1 CN "front" (spFront CN) []) (G_period : MtG P w K mg base CX0 1 CN "period" (spPeriod CN) []) :
    FnOk P w K mg base CX0 2 f fd ["self", "name", "place", "many"] (spBehind CN) := by
  refine F.ok sc_Net_place_behind (fun vs H Q E h => ?_) (fun cdv A outer s H vs Q E hr h => ?_)
  · obtain ⟨N, J, a, k, p, m, rfl, _⟩ := h
    rfl
  · obtain ⟨N, J, a, k, p, m, rfl, A1, hn, hk, hq, kq⟩ := h
    have hu := hu_of hr
    refine ⟨_, (pss_cons (ps_set (i := 4) sc_Net_place_behind.nd rfl (by first | exact Or.inl rfl | exact Or.inr rfl) (pe_op op_add (pv 2) (pv 3)))
  (pss_cons (ps_par (i := 5) (j := 6) rfl sc_Net_place_behind.nd rfl rfl (by decide) rfl rfl (pa_cons (pe_m G_front hr (by decide) pass0 (pv 0) (pa_cons (pv 1) pa_nil)) (pa_cons (pe_m G_period hr (by decide) pass0 (pv 0) (pa_cons (pv 1) pa_nil)) pa_nil)) (by rfl))
  (pss_one (ps_ret (pe_ifExp (pt_cmpR op_lt (pv 4) (pe_op op_add (pv 5) (pv 6)) (nomark _)) (pv 4) (pe_op op_add (pv 5) (pe_op op_mod (pe_op op_sub (pv 4) (pv 5)) (pv 6)))))))), ?_⟩
    refine ⟨_, rfl, _, rfl, _, _, rfl, rfl, ?_⟩
    refine ⟨_, rfl, a.p, _, _, rfl, A1.ob, rfl, _, rfl, N, J, a, k, rfl, A1, hn, hk, ?_⟩
    refine ⟨_, rfl, a.p, _, _, rfl, A1.ob, rfl, _, rfl, N, J, a, k, rfl, A1, hn, hk, ?_⟩
    refine ⟨_, _, rfl, ?_⟩
    refine ⟨_, rfl, _, rfl, _, rfl, _, _, rfl, rfl, _, _, rfl, rfl, _, rfl, ?_⟩
    refine ite2 (fun c => ?_) (fun c => ?_)
    · refine ⟨_, rfl, ?_⟩
      have c2 : p + m < N.f k + N.q k := by
        have := of_decide_eq_true c
        omega
      rw [show N.behind k p m = p + m from if_pos c2] at kq
      exact kq
    · have c2 : ¬ p + m < N.f k + N.q k := fun z => c (decide_eq_true (by omega))
      refine ⟨_, rfl, _, rfl, _, rfl, _, _, rfl, rfl, _, rfl, _, _, rfl, rfl, (by show (0 : Int) < _; omega), _, _, rfl, rfl, ?_⟩
      have e : (N.behind k p m : Int) = (N.f k : Int) + ((p : Int) + m - N.f k) % (N.q k : Int) := by
        rw [show N.behind k p m = N.f k + (p + m - N.f k) % N.q k from if_neg c2]
        have : (p : Int) + m - N.f k = ((p + m - N.f k : Nat) : Int) := by omega
        rw [this]
        rfl
      rw [e] at kq
      exact kq
/-! ### start -/
def spStart (CN : Addr) : Sp := fun vs H Q _ => ∃ N J a, vs = [.ref a.p] ∧ NetAt CN H N J a ∧ N.n ≤ 4 ∧ ∀ d H', H d = none → Same H H' → H' d = some (.dK (tkv (List.range N.n) fun _ => .int 0)) → Q (.ref d) H'
theorem sc_Net_start : FnScope ["self", "name"] ["self"] (defScope s_Net_start) := ⟨rfl, rfl, rfl, by decide +kernel, rfl, by decide +kernel, by decide +kernel⟩
theorem rng_succ (v : Nat → V) (i : Nat) : tkv (addI (List.range i) i) (setF v i (v i)) = tkv (List.range (i + 1)) v := by
  have h : ¬ i ∈ List.range i := fun z => Nat.lt_irrefl _ (List.mem_range.mp z)
  unfold addI
  rw [if_neg h, ← List.range_succ]
  refine tkv_congr fun j _ => ?_
  unfold setF
  split
  · rename_i e; rw [e]
  · rfl
theorem names_at {n i : Nat} {x : V} (h : (namesV n)[i]? = some x) : i < n ∧ x = .str (tg i) := by
  have hl : i < (namesV n).length := (List.getElem?_eq_some_iff.mp h).1
  unfold namesV at h hl
  rw [List.length_map, List.length_range] at hl
  rw [List.getElem?_map, List.getElem?_range hl] at h
  exact ⟨hl, (Option.some.inj h).symm⟩
theorem names_len (n : Nat) : (namesV n).length = n := by unfold namesV; rw [List.length_map, List.length_range]
/-- a dict comprehension over anything that is walked: Pv by the turn and the heap (the new dict at D within) -/
theorem dc_it {J : It} {n : Nat} {G : Hp → Prop} {Y : Nat → Hp → V → Hp → Prop} (w : Walk J n G Y) {g : TG} {tt : TT} {tk tv : TE} {vs : List Nat} {σ : L2.St} {H1 : Hp} {D : Addr} {Qd : Hp → Prop} (Pv : Nat → Hp → Prop) (h0 : Pv 0 (upd H1 D (.dK []))) (hG : ∀ i H, i ≤ n → Pv i H → G H)
    (hs : ∀ i x H H', i < n → Pv i H → Y i H x H' → g x (wipe σ vs) H' fun σ2 H2 => wipe σ2 vs = wipe σ vs ∧ tt σ2 H2 fun b H3 =>
      if b = true then tk σ2 H3 fun y H4 => tv σ2 H4 fun z H5 => ∃ kvs k, y = kV k ∧ H5 D = some (.dK kvs) ∧ kvs.length < sizeLine ∧ Pv (i + 1) (upd H5 D (.dK (putK kvs k z))) else Pv (i + 1) H3) (hd : ∀ H, Pv n H → Qd H) :
    ∃ W : Nat → Nat → Hp → Prop, (∃ m, W 0 m (upd H1 D (.dK []))) ∧ ∀ i m H, W i m H →
      (J.stop i H ∧ Qd H) ∨ (J.go i H ∧ ∃ Nx : Hp → Prop, (∀ H', Nx H' → ∃ m', m' < m ∧ W (i + 1) m' H') ∧ ∀ x H', J.yld i H x H' → g x (wipe σ vs) H' fun σ2 H2 => wipe σ2 vs = wipe σ vs ∧ tt σ2 H2 fun b H3 =>
        if b = true then tk σ2 H3 fun y H4 => tv σ2 H4 fun z H5 => ∃ kvs k, y = kV k ∧ H5 D = some (.dK kvs) ∧ kvs.length < sizeLine ∧ Nx (upd H5 D (.dK (putK kvs k z))) else Nx H3) := by
  refine ⟨fun i m H => m = n - i ∧ i ≤ n ∧ Pv i H, ⟨n, by simp, Nat.zero_le _, h0⟩, ?_⟩
  rintro i m H ⟨rfl, hi, p⟩
  have q := hG i H hi p
  by_cases hlt : i < n
  · exact .inr ⟨w.goes i H hlt q, Pv (i + 1), fun H' p' => ⟨n - (i + 1), by omega, rfl, hlt, p'⟩, fun x H' y => hs i x H H' hlt p (w.yields i H x H' hlt q y)⟩
  · have e : i = n := by omega
    subst e
    exact .inl ⟨w.stops H q, hd H p⟩
theorem ok_start {f : Addr} {fd : FuncData} (F : Fun K "start" "Net.start" s_Net_start f fd) (T : Txt K mg CN CB CS) : FnOk P w K mg base CX0 1 f fd ["self"] (spStart CN) := by
  refine F.ok sc_Net_start (fun vs H Q E h => ?_) (fun cdv A outer s H vs Q E hr h => ?_)
  · obtain ⟨N, J, a, rfl, _⟩ := h
    rfl
  · obtain ⟨N, J, a, rfl, A1, hn, kq⟩ := h
    have hu := hu_of hr
    refine ⟨_, (pss_one (ps_ret (pe_dc (own := [("name", 1)]) rfl sc_Net_start.nd (pi_list (pe_fld (pv 0) rfl)) (blkOk_by (by kernel_rfl)) (fun _ _ _ _ _ => (pg_name (i := 1) sc_Net_start.nd rfl (by first | exact Or.inl rfl | exact Or.inr rfl))) (fun _ _ _ _ _ => pts_nil) (fun _ _ _ _ _ => (pv 1)) (fun _ _ _ _ _ => pe_int)))), ?_⟩
    refine ⟨_, rfl, a.p, CN, a.dx, _, _, rfl, A1.ob, T.cN, T.nNn, netF_n, ?_⟩
    refine ⟨_, rfl, ⟨_, SqL.of A1.nl⟩, fun D hD => dc_it (walk_list (xs := namesV N.n)) (fun i H' => H D = none ∧ Same H H' ∧ H' D = some (.dK (tkv (List.range i) fun _ => .int 0))) ⟨hD, same_upd0 hD, upd_same⟩ (fun i H' _ p => SqL.of (p.2.1 _ _ A1.nl)) ?_ ?_⟩
    · rintro i x H1 _ hi ⟨p0, p1, p2⟩ ⟨rfl, hx⟩
      rw [names_len] at hi
      obtain ⟨_, rfl⟩ := names_at hx
      refine ⟨rfl, ?_⟩
      refine ⟨_, rfl, _, Sum.inr (tg i), rfl, p2, by rw [tkv_len, List.length_range]; exact small1000 (by omega), p0, fun b o e => ?_, ?_⟩
      · rw [upd_ne (ne_of_none e p0)]
        exact p1 b o e
      · rw [upd_same, tkv_put (by omega) (rng_lt (n := i) (by omega)), rng_succ]
    · rintro H1 ⟨p0, p1, p2⟩
      rw [names_len] at p2
      exact kq D H1 p0 p1 p2
end
end Bal
set_option autoImplicit true
set_option Elab.async false
set_option linter.all false
set_option maxRecDepth 100000
set_option maxHeartbeats 4000000
/-! W3: count, turned, dropped. -/
namespace Bal
open PySem L2
/-- a dict of targets with numbers -/
structure IntI (is : List Nat) (g : Nat → Int) : Prop where
  lt : ∀ i ∈ is, i < 6
  nd : is.Nodup
  z : ∀ i, ¬ i ∈ is → g i = 0
abbrev ikv (is : List Nat) (g : Nat → Int) : List (Key × V) := tkv is fun i => .int (g i)
theorem IntI.len {is : List Nat} {g : Nat → Int} (h : IntI is g) : is.length ≤ 6 := nodup_le h.nd h.lt
theorem IntI.nil : IntI [] (fun _ => 0) := ⟨fun _ h => absurd h (by simp), List.nodup_nil, fun _ _ => rfl⟩
theorem IntI.add {is : List Nat} {g : Nat → Int} (h : IntI is g) {k : Nat} (hk : k < 6) (z : Int) : IntI (addI is k) (fun i => if i = k then z else g i) := by
  refine ⟨addI_lt h.lt hk, addI_nodup h.nd, fun i hi => ?_⟩
  have e : ¬ i = k := fun e => hi (addI_mem.mpr (.inr e))
  rw [if_neg e]
  exact h.z i fun m => hi (addI_mem.mpr (.inl m))
theorem setF_int (g : Nat → Int) (k : Nat) (z : Int) : setF (fun i => V.int (g i)) k (.int z) = fun i => V.int (if i = k then z else g i) := by
  funext i
  unfold setF
  split <;> rfl
/-- get(k, 0) -/
theorem iget {is : List Nat} {g : Nat → Int} (h : IntI is g) (k : Nat) : (if k ∈ is then some (V.int (g k)) else none).getD (.int 0) = .int (g k) := by
  split
  · rfl
  · rename_i c
    rw [h.z k c]
    rfl
theorem iput {H : Hp} {d : Addr} {is : List Nat} {g : Nat → Int} (h : IntI is g) (e : H d = some (.dK (ikv is g))) {k : Nat} (hk : k < 6) (z : Int) :
    DPut H d (.str (tg k)) (.int z) (upd H d (.dK (ikv (addI is k) fun i => if i = k then z else g i))) := by
  have q := dput_tkv (y := .int z) e hk h.lt (by have := h.len; omega)
  rw [setF_int] at q
  exact q
def cntI (d : List Nat) (m : Int) (g : Nat → Int) : Nat → Int := fun t => g t + (d.count t : Int) * m
theorem cntI_snoc (d : List Nat) (m : Int) (g : Nat → Int) (k : Nat) : (fun i => if i = k then cntI d m g k + m else cntI d m g i) = cntI (d ++ [k]) m g := by
  funext i
  unfold cntI
  rw [List.count_append]
  by_cases c : i = k
  · subst c
    rw [if_pos rfl]
    simp [Int.add_mul]
    omega
  · rw [if_neg c]
    have : List.count i [k] = 0 := by simp [List.count_cons]; omega
    rw [this]
    simp
theorem take_at {α : Type} {l : List α} {i : Nat} {x : α} (h : l[i]? = some x) : l.take (i + 1) = l.take i ++ [x] := by
  obtain ⟨hl, e⟩ := List.getElem?_eq_some_iff.mp h
  rw [List.take_succ_eq_append_getElem hl, e]
section
variable {P : Program} {w : World} {K : PySem.W.Frag} {mg : Str → Option Value} {base : Heap} {CN CB CS : Addr}
def spCount : Sp := fun vs H Q _ => ∃ (d : Addr) (x : V) (m : Int) (dr is : List Nat) (g : Nat → Int), vs = [.ref d, x, .int m] ∧ H d = some (.dK (ikv is g)) ∧ IntI is g ∧ DropAt H dr x ∧ (∀ t ∈ dr, t < 6) ∧
  ∀ is', IntI is' (cntI dr m g) → (∀ i ∈ is', i ∈ is ∨ i ∈ dr) → Q .non (upd H d (.dK (ikv is' (cntI dr m g))))
theorem sc_count : FnScope ["found", "drop", "many", "target"] ["found", "drop", "many"] (defScope s_count) := ⟨rfl, rfl, rfl, by decide +kernel, rfl, by decide +kernel, by decide +kernel⟩
theorem ok_count {f : Addr} {fd : FuncData} (F : Fun K "count" "count" s_count f fd) (T : Txt K mg CN CB CS) : FnOk P w K mg base CX0 1 f fd ["found", "drop", "many"] spCount := by
  refine F.ok sc_count (fun vs H Q E h => ?_) (fun cdv A outer s H vs Q E hr h => ?_)
  · obtain ⟨d, x, m, dr, is, g, rfl, _⟩ := h
    rfl
  · obtain ⟨d, x, m, dr, is, g, rfl, hd, hI, ⟨a, rfl, ha⟩, ht, kq⟩ := h
    have hu := hu_of hr
    refine ⟨_, (pss_one (ps_for PassesOwn.never rfl (pi_tup (pv 1)) (pg_name (i := 3) sc_count.nd rfl (by first | exact Or.inl rfl | exact Or.inr rfl))
  (pss_one (ps_dput hu (pv 0) (pv 3) (pe_op op_add (pe_dget2 hu (pv 0) (pv 3) pe_int ⟨rfl, rfl, rfl, rfl⟩) (pv 2)) rfl)))), ?_⟩
    have nad : a ≠ d := ne_of ha hd (by intro z; cases z)
    refine ⟨_, rfl, a, rfl, ⟨_, SqT.of ha⟩, for_it (walk_tup (xs := dr.map fun t => .str (tg t))) (fun i σ H' => ∃ (is' : List Nat) (v : Option V), σ = [some (.ref d), some (.ref a), some (.int m), v] ∧ (IntI is' (cntI (dr.take i) m g) ∧ ∀ i ∈ is', i ∈ is ∨ i ∈ dr) ∧ H' = upd H d (.dK (ikv is' (cntI (dr.take i) m g))))
      ⟨is, none, rfl, ?_, ?_⟩ (fun i σ H' _ p => ?_) ?_ ?_⟩
    · have e : cntI (dr.take 0) m g = g := by funext t; simp [cntI]
      rw [e]
      exact ⟨hI, fun i hi => .inl hi⟩
    · have e : cntI (dr.take 0) m g = g := by funext t; simp [cntI]
      rw [e]
      funext b
      by_cases c : b = d
      · rw [c, upd_same, hd]
      · rw [upd_ne c]
    · obtain ⟨_, _, _, _, rfl⟩ := p
      exact SqT.of (by rw [upd_ne nad]; exact ha)
    · rintro i x σ H1 _ hi ⟨is', v, rfl, ⟨hI', hm⟩, rfl⟩ ⟨rfl, hx⟩
      rw [List.getElem?_map] at hx
      obtain ⟨t, e1, e2⟩ := Option.map_eq_some_iff.mp hx
      subst e2
      have htd := List.mem_of_getElem? e1
      have htm : t < 6 := ht t htd
      have hd2 : (upd H d (.dK (ikv is' (cntI (dr.take i) m g)))) d = some (.dK (ikv is' (cntI (dr.take i) m g))) := upd_same
      refine ⟨_, rfl, d, rfl, .inl ⟨_, .inl hd2⟩, _, rfl, _, dget_tkv hd2 htm hI'.lt, ?_⟩
      rw [iget hI']
      refine ⟨_, rfl, _, _, rfl, rfl, _, rfl, _, rfl, d, _, rfl, iput hI' hd2 htm _, ?_⟩
      refine ⟨addI is' t, _, rfl, ?_, ?_⟩
      · have q := hI'.add htm (cntI (dr.take i) m g t + m)
        rw [cntI_snoc, ← take_at e1] at q
        exact ⟨q, fun i hi => (addI_mem.mp hi).elim (hm i) fun e => .inr (e ▸ htd)⟩
      · rw [upd_upd, cntI_snoc, ← take_at e1]
    · rintro σ H1 ⟨is', v, rfl, ⟨hI', hm⟩, rfl⟩
      rw [List.length_map, List.take_length] at hI' ⊢
      exact kq is' hI' hm
/-- for target in drop: found[target] = found.get(target, 0) + 1 -/
theorem loop_count {σ : L2.St} {H : Hp} {D : Ends} {fi di ti : Nat} {d a : Addr} {dr is : List Nat} {g : Nat → Int} (hf : σ[fi]? = some (some (.ref d))) (hdi : σ[di]? = some (some (.ref a))) (hne : fi ≠ ti) (htl : ti < σ.length)
    (ha : H a = some (.tup (dr.map fun t => .str (tg t)))) (hd : H d = some (.dK (ikv is g))) (hI : IntI is g) (ht : ∀ t ∈ dr, t < 6)
    (k : ∀ is' σ', (σ' = σ ∨ ∃ v, σ' = σ.set ti (some v)) → IntI is' (cntI dr 1 g) → D.nx σ' (upd H d (.dK (ikv is' (cntI dr 1 g))))) :
    tFor (iTup K (tVar di)) (gName ti) (sDPut (tVar fi) (tVar ti) (tOp (rI0 fun i j => V.int (i + j)) (tDGet2 (tVar fi) (tVar ti) (tC (.int 0))) (tC (.int 1)))) D σ H := by
  have nad : a ≠ d := ne_of ha hd (by intro z; cases z)
  refine ⟨_, hdi, a, rfl, ⟨_, SqT.of ha⟩, for_it (walk_tup (xs := dr.map fun t => .str (tg t))) (fun i σ' H' => ∃ is', (σ' = σ ∨ ∃ v, σ' = σ.set ti (some v)) ∧ IntI is' (cntI (dr.take i) 1 g) ∧ H' = upd H d (.dK (ikv is' (cntI (dr.take i) 1 g))))
    ⟨is, .inl rfl, ?_, ?_⟩ (fun i σ H' _ p => ?_) ?_ ?_⟩
  · have e : cntI (dr.take 0) 1 g = g := by funext t; simp [cntI]
    rw [e]
    exact hI
  · have e : cntI (dr.take 0) 1 g = g := by funext t; simp [cntI]
    rw [e]
    funext b
    by_cases c : b = d
    · rw [c, upd_same, hd]
    · rw [upd_ne c]
  · obtain ⟨_, _, _, rfl⟩ := p
    exact SqT.of (by rw [upd_ne nad]; exact ha)
  · rintro i x σ1 H1 _ hi ⟨is', hσ, hI', rfl⟩ ⟨rfl, hx⟩
    rw [List.getElem?_map] at hx
    obtain ⟨t, e1, e2⟩ := Option.map_eq_some_iff.mp hx
    subst e2
    have htm : t < 6 := ht t (List.mem_of_getElem? e1)
    have hd2 : (upd H d (.dK (ikv is' (cntI (dr.take i) 1 g)))) d = some (.dK (ikv is' (cntI (dr.take i) 1 g))) := upd_same
    have eσ : σ1.set ti (some (.str (tg t))) = σ.set ti (some (.str (tg t))) := by
      rcases hσ with rfl | ⟨v, rfl⟩
      · rfl
      · rw [List.set_set]
    show sDPut _ _ _ _ (σ1.set ti (some (.str (tg t)))) _
    rw [eσ]
    have s1 : (σ.set ti (some (V.str (tg t))))[fi]? = some (some (.ref d)) := by rw [List.getElem?_set_ne (Ne.symm hne)]; exact hf
    have s2 : (σ.set ti (some (V.str (tg t))))[ti]? = some (some (.str (tg t))) := by rw [List.getElem?_set_self htl]
    refine ⟨_, s1, d, rfl, .inl ⟨_, .inl hd2⟩, _, s2, _, dget_tkv hd2 htm hI'.lt, ?_⟩
    rw [iget hI']
    refine ⟨_, _, rfl, rfl, _, s1, _, s2, d, _, rfl, iput hI' hd2 htm _, ?_⟩
    refine ⟨addI is' t, .inr ⟨_, rfl⟩, ?_, ?_⟩
    · have q := hI'.add htm (cntI (dr.take i) 1 g t + 1)
      rw [cntI_snoc, ← take_at e1] at q
      exact q
    · rw [upd_upd, cntI_snoc, ← take_at e1]
  · rintro σ1 H1 ⟨is', hσ, hI', rfl⟩
    rw [List.length_map, List.take_length] at hI' ⊢
    exact k is' σ1 hσ hI'
def sumI (r : List (List Nat)) : Nat → Int := fun t => (NetM.sumC t r : Int)
theorem sumI_nil : sumI [] = fun _ => 0 := by funext t; simp [sumI, NetM.sumC]
theorem sumI_snoc (r : List (List Nat)) (d : List Nat) : cntI d 1 (sumI r) = sumI (r ++ [d]) := by
  funext t
  unfold cntI sumI
  rw [sumC_append]
  simp [NetM.sumC]
theorem paired_at {α β : Type} {F : α → β → Prop} : ∀ {l : List α} {r : List β} {i : Nat} {x : α}, Paired F l r → l[i]? = some x → ∃ y, r[i]? = some y ∧ F x y
  | _, _, i, _, .nil, h => by simp at h
  | _, _, 0, x, .cons h _, e => by simp at e; subst e; exact ⟨_, rfl, h⟩
  | _, _, i + 1, x, .cons _ t, e => by
    obtain ⟨y, h1, h2⟩ := paired_at (i := i) t (by simpa using e)
    exact ⟨y, by simpa using h1, h2⟩
def spTurned (CN : Addr) : Sp := fun vs H Q _ => ∃ N J a k, vs = [.ref a.p, .str (tg k)] ∧ NetAt CN H N J a ∧ N.n ≤ 4 ∧ k < N.n ∧ (∀ d ∈ N.tu k, ∀ t ∈ d, t < 6) ∧
  ∀ d is H', H d = none → Same H H' → IntI is (sumI (N.tu k)) → H' d = some (.dK (ikv is (sumI (N.tu k)))) → Q (.ref d) H'
theorem sc_Net_turned : FnScope ["self", "name", "found", "drop", "target"] ["self", "name"] (defScope s_Net_turned) := ⟨rfl, rfl, rfl, by decide +kernel, rfl, by decide +kernel, by decide +kernel⟩
theorem ok_turned {f : Addr} {fd : FuncData} (F : Fun K "turned" "Net.turned" s_Net_turned f fd) (T : Txt K mg CN CB CS) : FnOk P w K mg base CX0 1 f fd ["self", "name"] (spTurned CN) := by
  refine F.ok sc_Net_turned (fun vs H Q E h => ?_) (fun cdv A outer s H vs Q E hr h => ?_)
  · obtain ⟨N, J, a, k, rfl, _⟩ := h
    rfl
  · obtain ⟨N, J, a, k, rfl, A1, hn, hk, ht, kq⟩ := h
    have hu := hu_of hr
    refine ⟨_, (pss_cons (ps_set (i := 2) sc_Net_turned.nd rfl (by first | exact Or.inl rfl | exact Or.inr rfl) pe_dnewK)
  (pss_cons (ps_for PassesOwn.never rfl (pi_tup (pe_ix ix_tup (pe_dget hu (pe_fld (pv 0) rfl) (pv 1) (fun _ _ => rfl)) pe_int (fun _ _ => rfl))) (pg_name (i := 3) sc_Net_turned.nd rfl (by first | exact Or.inl rfl | exact Or.inr rfl))
  (pss_one (ps_for PassesOwn.never rfl (pi_tup (pv 3)) (pg_name (i := 4) sc_Net_turned.nd rfl (by first | exact Or.inl rfl | exact Or.inr rfl))
  (pss_one (ps_dput hu (pv 2) (pv 4) (pe_op op_add (pe_dget2 hu (pv 2) (pv 4) pe_int ⟨rfl, rfl, rfl, rfl⟩) pe_int) rfl)))))
  (pss_one (ps_ret (pv 2))))), ?_⟩
    intro d hd
    have s1 : Same H (upd H d (.dK [])) := same_upd0 hd
    have A2 := A1.same s1
    obtain ⟨b, y, z, e, q, r2, ⟨c, ps, e2, q2, p2⟩⟩ := A2.kn.kn k hk
    have ncd : c ≠ d := by
      rintro rfl
      rw [upd_same] at q2
      cases q2
    refine ⟨_, rfl, a.p, CN, a.dx, _, _, rfl, A2.ob, T.cN, T.nNk, netF_k, _, rfl, a.kd, _, rfl, dget_in A2.kn.dc (List.mem_range.mpr hk) (rng_lt hn), ?_⟩
    rw [e]
    refine ⟨_, _, _, _, rfl, rfl, SqT.of q, rfl, ?_⟩
    refine ⟨c, e2, ⟨_, SqT.of q2⟩, for_it (walk_tup (xs := ps)) (fun i σ H' => ∃ (is : List Nat) (v1 v2 : Option V), σ = [some (.ref a.p), some (.str (tg k)), some (.ref d), v1, v2] ∧ IntI is (sumI ((N.tu k).take i)) ∧ H' = upd H d (.dK (ikv is (sumI ((N.tu k).take i)))))
      ⟨[], none, none, rfl, ?_, ?_⟩ (fun i σ H' _ p => ?_) ?_ ?_⟩
    · rw [List.take_zero, sumI_nil]
      exact .nil
    · rfl
    · obtain ⟨_, _, _, _, _, rfl⟩ := p
      rw [upd_ne ncd] at q2
      exact SqT.of (by rw [upd_ne ncd]; exact q2)
    · rintro i x σ H1 _ hi ⟨is, v1, v2, rfl, hI, rfl⟩ ⟨rfl, hx⟩
      obtain ⟨dr, hdr, b2, rfl, hb2⟩ := paired_at p2 hx
      have nb : b2 ≠ d := by
        rintro rfl
        rw [upd_same] at hb2
        cases hb2
      rw [upd_ne nb] at hb2
      refine loop_count (d := d) (a := b2) (dr := dr) (is := is) (g := sumI ((N.tu k).take i)) rfl rfl (by decide) (by show 4 < 5; decide) (by rw [upd_ne nb]; exact hb2) upd_same hI (ht dr (List.mem_of_getElem? hdr)) fun is' σ' hσ hI' => ?_
      rw [sumI_snoc, ← take_at hdr] at hI' ⊢
      rw [upd_upd]
      rcases hσ with rfl | ⟨v, rfl⟩
      · exact ⟨is', _, _, rfl, hI', rfl⟩
      · exact ⟨is', _, _, rfl, hI', rfl⟩
    · rintro σ H1 ⟨is, v1, v2, rfl, hI, rfl⟩
      rw [p2.length, List.take_length] at hI ⊢
      exact ⟨_, rfl, kq d is _ hd (same_upd0 hd) hI upd_same⟩
/-! ### dropped -/
theorem paired_drop {α β : Type} {F : α → β → Prop} : ∀ {l : List α} {r : List β} (n : Nat), Paired F l r → Paired F (l.drop n) (r.drop n)
  | _, _, 0, h => h
  | _, _, _ + 1, .nil => .nil
  | _, _, n + 1, .cons _ t => paired_drop n t
theorem paired_take {α β : Type} {F : α → β → Prop} : ∀ {l : List α} {r : List β} (n : Nat), Paired F l r → Paired F (l.take n) (r.take n)
  | _, _, 0, _ => .nil
  | _, _, _ + 1, .nil => .nil
  | _, _, n + 1, .cons h t => .cons h (paired_take n t)
theorem paired_append {α β : Type} {F : α → β → Prop} : ∀ {l : List α} {r : List β} {l2 : List α} {r2 : List β}, Paired F l r → Paired F l2 r2 → Paired F (l ++ l2) (r ++ r2)
  | _, _, _, _, .nil, h => h
  | _, _, _, _, .cons h t, h2 => .cons h (paired_append t h2)
theorem cutV_nat (xs : List V) {p m : Nat} (hp : p ≤ xs.length) : cutV xs (some (p : Int)) (some ((p : Int) + (m : Int))) = (xs.drop p).take m := by
  unfold cutV
  have e : (p : Int) + (m : Int) = ((p + m : Nat) : Int) := by omega
  rw [e, HT.sIx_nat, HT.sIx_nat, Nat.min_eq_left hp]
  by_cases c : p + m ≤ xs.length
  · rw [Nat.min_eq_left c]
    congr 1
    omega
  · rw [Nat.min_eq_right (by omega), List.take_of_length_le (by simp), List.take_of_length_le (by simp; omega)]
theorem spread_snoc (t L q : Nat) (d : List Nat) : ∀ (l : List (List Nat)) (s : Nat), NetM.spread t L q s (l ++ [d]) = NetM.spread t L q s l + (L / q + if s + l.length < L % q then 1 else 0) * d.count t
  | [], s => by simp [NetM.spread]
  | c :: r, s => by
    show _ + NetM.spread t L q (s + 1) (r ++ [d]) = _ + NetM.spread t L q (s + 1) r + _
    rw [spread_snoc t L q d r (s + 1)]
    have e : s + 1 + r.length = s + (c :: r).length := by simp; omega
    rw [e]
    omega
theorem same_out {H H' : Hp} (s : Same H H') {p : Addr} {o : HO} (h : H p = none) : Same H (upd H' p o) := fun b u e => by
  rw [upd_ne (ne_of_none e h)]
  exact s b u e
def spDropped (CN : Addr) : Sp := fun vs H Q _ => ∃ N J a k, ∃ p m : Nat, vs = [.ref a.p, .str (tg k), .int (p : Int), .int (m : Int)] ∧ NetAt CN H N J a ∧ N.Good ∧ k < N.n ∧ p < N.f k + N.q k ∧
  ∀ d is H', H d = none → Same H H' → IntI is (fun t => (N.fall k p m t : Int)) → (∀ i ∈ is, i < N.n ∨ i = 4 ∨ i = 5) → H' d = some (.dK (ikv is fun t => (N.fall k p m t : Int))) → Q (.ref d) H'
theorem sc_Net_dropped : FnScope ["self", "name", "place", "many", "front", "turn", "found", "left", "rows", "drop", "whole", "rest", "at"] ["self", "name", "place", "many"] (defScope s_Net_dropped) := ⟨rfl, rfl, rfl, by decide +kernel, rfl, by decide +kernel, by decide +kernel⟩
theorem ok_dropped {f : Addr} {fd : FuncData} (F : Fun K "dropped" "Net.dropped" s_Net_dropped f fd) (T : Txt K mg CN CB CS) (G_count : FnG P w K mg base CX0 1 "count" spCount []) : FnOk P w K mg base CX0 2 f fd ["self", "name", "place", "many"] (spDropped CN) := by
  refine F.ok sc_Net_dropped (fun vs H Q E h => ?_) (fun cdv A outer s H vs Q E hr h => ?_)
  · obtain ⟨N, J, a, k, p, m, rfl, _⟩ := h
    rfl
  · obtain ⟨N, J, a, k, p, m, rfl, A1, G, hk, hp, kq⟩ := h
    have hu := hu_of hr
    have hn := G.n4
    have hq1 : 1 ≤ N.q k := G.tu1 k hk
    have hq5 : N.q k ≤ 5 := G.tu5 k hk
    have hf2 : N.f k ≤ 2 := G.fr2 k hk
    have htg : ∀ d ∈ N.rows k, ∀ t ∈ d, t < N.n ∨ t = 4 ∨ t = 5 := fun d hd => (G.tg k hk d hd).2
    have h6 : ∀ d ∈ N.rows k, ∀ t ∈ d, t < 6 := fun d hd t ht => by
      have := htg d hd t ht
      omega
    refine ⟨_, (pss_cons (ps_asg (pe_dget hu (pe_fld (pv 0) rfl) (pv 1) (fun _ _ => rfl)) (pg_tup rfl (pgs_cons (pg_name (i := 4) sc_Net_dropped.nd rfl (by first | exact Or.inl rfl | exact Or.inr rfl)) (pgs_cons (pg_name (i := 5) sc_Net_dropped.nd rfl (by first | exact Or.inl rfl | exact Or.inr rfl)) pgs_nil))))
  (pss_cons (ps_par (i := 6) (j := 7) rfl sc_Net_dropped.nd rfl rfl (by decide) rfl rfl (pa_cons pe_dnewK (pa_cons (pv 3) pa_nil)) (by rfl))
  (pss_cons (ps_set (i := 8) sc_Net_dropped.nd rfl (by first | exact Or.inl rfl | exact Or.inr rfl) (pe_slice sl_list (pe_lst (StX.pa_star (pv 4) (StX.pa_star (pv 5) pa_nil))) (po_some (pv 2)) (po_some (pe_op op_add (pv 2) (pv 3)))))
  (pss_cons (ps_for PassesOwn.never rfl (pi_list (pv 8)) (pg_name (i := 9) sc_Net_dropped.nd rfl (by first | exact Or.inl rfl | exact Or.inr rfl))
  (pss_one (ps_expr (pe_f G_count hr (by decide) (by rfl) pass0 (pa_cons (pv 6) (pa_cons (pv 9) (pa_cons pe_int pa_nil)))))))
  (pss_cons (ps_set (i := 7) sc_Net_dropped.nd rfl (by first | exact Or.inl rfl | exact Or.inr rfl) (pe_op op_sub (pv 3) (pe_callB call_len_seq (by rfl) T.len (by decide +kernel) (pa_cons (pv 8) pa_nil))))
  (pss_cons (ps_if (pt_cmpR op_gt (pv 7) pe_int (nomark _)) (pss_cons (ps_par (i := 10) (j := 11) rfl sc_Net_dropped.nd rfl rfl (by decide) rfl rfl (pa_cons (pe_op op_fdiv (pv 7) (pe_callB call_len_seq (by rfl) T.len (by decide +kernel) (pa_cons (pv 5) pa_nil))) (pa_cons (pe_op op_mod (pv 7) (pe_callB call_len_seq (by rfl) T.len (by decide +kernel) (pa_cons (pv 5) pa_nil))) pa_nil)) (by rfl))
  (pss_one (ps_for PassesOwn.never rfl (pi_enumT (by rfl) T.enumerate (pa_cons (pv 5) pa_nil)) (pg_tup rfl (pgs_cons (pg_name (i := 12) sc_Net_dropped.nd rfl (by first | exact Or.inl rfl | exact Or.inr rfl)) (pgs_cons (pg_name (i := 9) sc_Net_dropped.nd rfl (by first | exact Or.inl rfl | exact Or.inr rfl)) pgs_nil)))
  (pss_one (ps_expr (pe_f G_count hr (by decide) (by rfl) pass0 (pa_cons (pv 6) (pa_cons (pv 9) (pa_cons (pe_op op_add (pv 10) (pe_ifExp (pt_cmpR op_lt (pv 12) (pv 11) (nomark _)) pe_int pe_int)) pa_nil))))))))) pss_nil)
  (pss_one (ps_ret (pv 6))))))))), ?_⟩
    obtain ⟨b, y, z, e, q, ⟨c1, ps1, e1, q1, p1⟩, ⟨c2, ps2, e2, q2, p2⟩⟩ := A1.kn.kn k hk
    -- front, turn
    refine ⟨_, rfl, a.p, CN, a.dx, _, _, rfl, A1.ob, T.cN, T.nNk, netF_k, _, rfl, a.kd, _, rfl, dget_in A1.kn.dc (List.mem_range.mpr hk) (rng_lt hn), ?_⟩
    subst e1 e2
    rw [e]
    refine ⟨b, _, rfl, SqT.of q, rfl, _, _, rfl, _, _, rfl, rfl, ?_⟩
    -- found, left = {}, many
    intro d hd
    refine ⟨_, rfl, _, _, rfl, ?_⟩
    have s1 : Same H (upd H d (.dK [])) := same_upd0 hd
    -- rows
    have r1 := s1 _ _ q1
    have r2 := s1 _ _ q2
    refine ⟨_, rfl, c1, ps1, rfl, .inl (SqT.of r1), _, rfl, c2, ps2, rfl, .inl (SqT.of r2), ?_⟩
    have hl1 : ps1.length = N.f k := p1.length
    have hl2 : ps2.length = N.q k := p2.length
    refine ⟨by simp; exact lenSmall (by omega), fun l hl => ?_⟩
    refine ⟨_, rfl, _, rfl, _, rfl, _, rfl, _, _, rfl, rfl, _, rfl, l, _, rfl, SqL.of upd_same, fun rw_ hrw => ?_⟩
    have epick : cutV (ps1 ++ (ps2 ++ [])) (some (p : Int)) (some ((p : Int) + (m : Int))) = ((ps1 ++ ps2).drop p).take m := by
      rw [List.append_nil]
      exact cutV_nat _ (by simp; omega)
    rw [epick]
    have nld : l ≠ d := by
      rintro rfl
      rw [upd_same] at hl
      cases hl
    have hH0 : ∃ H0, H0 = upd (upd (upd H d (HO.dK [])) l (HO.lst (ps1 ++ (ps2 ++ [])))) rw_ (HO.lst (List.take m (List.drop p (ps1 ++ ps2)))) := ⟨_, rfl⟩
    obtain ⟨H0, eH0⟩ := hH0
    have nrd : rw_ ≠ d := by
      rintro rfl
      rw [upd_ne (Ne.symm nld), upd_same] at hrw
      cases hrw
    have s0 : Same H H0 := by rw [eH0]; exact same_upd (same_upd s1 hl) hrw
    have h0d : H0 d = some (.dK []) := by rw [eH0, upd_ne (Ne.symm nrd), upd_ne (Ne.symm nld), upd_same]
    have h0r : H0 rw_ = some (HO.lst (List.take m (List.drop p (ps1 ++ ps2)))) := by rw [eH0, upd_same]
    rw [← eH0]
    clear eH0 hrw hl s1 r1 r2
    have hpk := paired_take m (paired_drop p (paired_append p1 p2))
    have hRl := hpk.length
    have hsub : ∀ x ∈ ((N.fr k ++ N.tu k).drop p).take m, x ∈ N.rows k := fun x hx => List.mem_of_mem_drop (List.mem_of_mem_take hx)
    -- for drop in rows
    refine ⟨_, rfl, rw_, rfl, ⟨_, SqL.of h0r⟩, for_it (walk_list (xs := List.take m (List.drop p (ps1 ++ ps2)))) (fun i σ H' => ∃ (is : List Nat) (v1 : Option V), σ = [some (.ref a.p), some (.str (tg k)), some (.int (p : Int)), some (.int (m : Int)), some (.ref c1), some (.ref c2), some (.ref d), some (.int (m : Int)), some (.ref rw_), v1, none, none, none] ∧ IntI is (sumI ((((N.fr k ++ N.tu k).drop p).take m).take i)) ∧ (∀ j ∈ is, j < N.n ∨ j = 4 ∨ j = 5) ∧ H' = upd H0 d (.dK (ikv is (sumI ((((N.fr k ++ N.tu k).drop p).take m).take i)))))
      ⟨[], none, rfl, ?_, (by intro j hj; cases hj), ?_⟩ (fun i σ H' _ p => ?_) ?_ ?_⟩
    · rw [List.take_zero, sumI_nil]
      exact .nil
    · funext b
      by_cases c : b = d
      · rw [c, upd_same, h0d]; rfl
      · rw [upd_ne c]
    · obtain ⟨_, _, _, _, _, rfl⟩ := p
      exact SqL.of (by rw [upd_ne nrd]; exact h0r)
    · rintro i x σ H1 _ hi ⟨is, v1, rfl, hI, hm, rfl⟩ ⟨rfl, hx⟩
      obtain ⟨dr, hdr, b2, rfl, hb2⟩ := paired_at hpk hx
      have hmem := hsub dr (List.mem_of_getElem? hdr)
      have nb : b2 ≠ d := by
        rintro rfl
        rw [hd] at hb2
        cases hb2
      refine ⟨_, rfl, _, rfl, d, .ref b2, 1, dr, is, _, rfl, upd_same, hI, ⟨b2, rfl, by rw [upd_ne nb]; exact s0 _ _ hb2⟩, h6 dr hmem, fun is' hI' hm' => ?_⟩
      rw [sumI_snoc, ← take_at hdr] at hI' ⊢
      rw [upd_upd]
      exact ⟨is', _, rfl, hI', fun j hj => (hm' j hj).elim (hm j) (htg dr hmem j), rfl⟩
    · rintro σ H1 ⟨is, v1, rfl, hI, hm, rfl⟩
      rw [hRl, List.take_length] at hI ⊢
      have hlen : ((List.take m (List.drop p (ps1 ++ ps2))).length : Int) = ((((N.fr k ++ N.tu k).drop p).take m).length : Int) := by rw [hRl]
      -- left = many - len(rows)
      refine ⟨_, rfl, _, rfl, rw_, _, rfl, .inl (SqL.of (by rw [upd_ne nrd]; exact h0r)), _, _, rfl, rfl, ?_⟩
      rw [hlen]
      have hle : (((N.fr k ++ N.tu k).drop p).take m).length ≤ m := by rw [List.length_take]; omega
      have hfc : ∀ t, N.fallC k p m t = N.fall k p m t := fun t => fallC_eq (N := N) hq1 hp t m
      refine ⟨_, rfl, _, _, rfl, rfl, _, rfl, ?_⟩
      refine ite2 (fun c => ?_) (fun c => ?_)
      · have hlt : (((N.fr k ++ N.tu k).drop p).take m).length < m := by
          have := of_decide_eq_true c
          omega
        obtain ⟨L, hL⟩ : ∃ L, L = m - (((N.fr k ++ N.tu k).drop p).take m).length := ⟨_, rfl⟩
        have hLi : (m : Int) - ((((N.fr k ++ N.tu k).drop p).take m).length : Int) = (L : Int) := by omega
        have hps2 : (ps2.length : Int) = (N.q k : Int) := by rw [hl2]
        have sA : Same H (upd H0 d (.dK (ikv is (sumI (((N.fr k ++ N.tu k).drop p).take m))))) := same_out s0 hd
        -- whole, rest
        refine ⟨_, rfl, _, rfl, c2, ps2, rfl, .inr (SqT.of (sA _ _ q2)), (L : Int), _, congrArg V.int hLi, rfl, ⟨by omega, by omega⟩, _, rfl, _, rfl, c2, ps2, rfl, .inr (SqT.of (sA _ _ q2)), (L : Int), _, congrArg V.int hLi, rfl, (by show (0 : Int) < _; omega), _, _, rfl, ?_⟩
        -- for at, drop in enumerate(turn)
        have eF : ∀ i, ∃ g : Nat → Int, g = fun t => ((NetM.sumC t (((N.fr k ++ N.tu k).drop p).take m) + NetM.spread t L (N.q k) 0 ((N.tu k).take i) : Nat) : Int) := fun i => ⟨_, rfl⟩
        refine ⟨_, rfl, c2, ps2, rfl, SqT.of (sA _ _ q2), for_it walk_enumG (fun i σ H' => ∃ (is : List Nat) (v7 v1 v2 : Option V), σ = [some (.ref a.p), some (.str (tg k)), some (.int (p : Int)), some (.int (m : Int)), some (.ref c1), some (.ref c2), some (.ref d), v7, some (.ref rw_), v1, some (.int ((L : Int) / (ps2.length : Int))), some (.int ((L : Int) % (ps2.length : Int))), v2] ∧ Same H H' ∧ IntI is (fun t => ((NetM.sumC t (((N.fr k ++ N.tu k).drop p).take m) + NetM.spread t L (N.q k) 0 ((N.tu k).take i) : Nat) : Int)) ∧ (∀ j ∈ is, j < N.n ∨ j = 4 ∨ j = 5) ∧ H' d = some (.dK (ikv is (fun t => ((NetM.sumC t (((N.fr k ++ N.tu k).drop p).take m) + NetM.spread t L (N.q k) 0 ((N.tu k).take i) : Nat) : Int)))))
          ⟨is, _, _, _, rfl, sA, ?_, hm, ?_⟩ (fun i σ H' _ p => ?_) ?_ ?_⟩
        · have e : (fun t => ((NetM.sumC t (((N.fr k ++ N.tu k).drop p).take m) + NetM.spread t L (N.q k) 0 ((N.tu k).take 0) : Nat) : Int)) = sumI (((N.fr k ++ N.tu k).drop p).take m) := by funext t; simp [sumI, NetM.spread]
          rw [e]
          exact hI
        · have e : (fun t => ((NetM.sumC t (((N.fr k ++ N.tu k).drop p).take m) + NetM.spread t L (N.q k) 0 ((N.tu k).take 0) : Nat) : Int)) = sumI (((N.fr k ++ N.tu k).drop p).take m) := by funext t; simp [sumI, NetM.spread]
          rw [e]
          exact upd_same
        · obtain ⟨_, _, _, _, _, s9, _⟩ := p
          exact SqT.of (s9 _ _ q2)
        · rintro i x σ H1 H2 hi ⟨is9, v7, v1, v2, rfl, s9, hI9, hm9, hd9⟩ ⟨T9, x9, rfl, hT, rfl, hx⟩
          obtain ⟨dr, hdr, b2, rfl, hb2⟩ := paired_at p2 hx
          have hmem : dr ∈ N.rows k := List.mem_append.mpr (.inr (List.mem_of_getElem? hdr))
          have nT : T9 ≠ d := by
            rintro rfl
            rw [hd9] at hT
            cases hT
          have sT : Same H (upd H1 T9 (.tup [.int (i : Nat), .ref b2])) := same_upd s9 hT
          refine ⟨T9, _, rfl, SqT.of upd_same, rfl, _, _, rfl, _, _, rfl, rfl, ?_⟩
          refine ⟨_, rfl, _, rfl, _, rfl, _, rfl, _, rfl, _, _, rfl, rfl, _, rfl, ?_⟩
          have hil : i < N.q k := by rw [← hl2]; exact hi
          have hd9' : (upd H1 T9 (.tup [.int (i : Nat), .ref b2])) d = _ := (upd_ne (Ne.symm nT)).trans hd9
          have key : ∀ z : Int, z = (if i < L % N.q k then 1 else 0) → cntI dr ((L : Int) / (ps2.length : Int) + z) (fun t => ((NetM.sumC t (((N.fr k ++ N.tu k).drop p).take m) + NetM.spread t L (N.q k) 0 ((N.tu k).take i) : Nat) : Int)) = fun t => ((NetM.sumC t (((N.fr k ++ N.tu k).drop p).take m) + NetM.spread t L (N.q k) 0 ((N.tu k).take (i + 1)) : Nat) : Int) := by
            rintro z rfl
            funext t
            have hlt1 : ((N.tu k).take i).length = i := by rw [List.length_take]; exact Nat.min_eq_left (Nat.le_of_lt hil)
            rw [take_at hdr, spread_snoc, hlt1, hps2]
            show ((_ : Nat) : Int) + (dr.count t : Int) * _ = _
            rw [Nat.zero_add]
            by_cases c : i < L % N.q k
            · rw [if_pos c, if_pos c]
              push_cast
              rw [Int.mul_comm]
              omega
            · rw [if_neg c, if_neg c]
              push_cast
              rw [Int.mul_comm]
              omega
          have fin : ∀ z : Int, z = (if i < L % N.q k then 1 else 0) → ∀ is', IntI is' (cntI dr ((L : Int) / (ps2.length : Int) + z) (fun t => ((NetM.sumC t (((N.fr k ++ N.tu k).drop p).take m) + NetM.spread t L (N.q k) 0 ((N.tu k).take i) : Nat) : Int))) → (∀ i ∈ is', i ∈ is9 ∨ i ∈ dr) →
              Same H (upd (upd H1 T9 (.tup [.int (i : Nat), .ref b2])) d (.dK (ikv is' (cntI dr ((L : Int) / (ps2.length : Int) + z) (fun t => ((NetM.sumC t (((N.fr k ++ N.tu k).drop p).take m) + NetM.spread t L (N.q k) 0 ((N.tu k).take i) : Nat) : Int)))))) ∧
              IntI is' (fun t => ((NetM.sumC t (((N.fr k ++ N.tu k).drop p).take m) + NetM.spread t L (N.q k) 0 ((N.tu k).take (i + 1)) : Nat) : Int)) ∧ (∀ j ∈ is', j < N.n ∨ j = 4 ∨ j = 5) ∧
              (upd (upd H1 T9 (.tup [.int (i : Nat), .ref b2])) d (.dK (ikv is' (cntI dr ((L : Int) / (ps2.length : Int) + z) (fun t => ((NetM.sumC t (((N.fr k ++ N.tu k).drop p).take m) + NetM.spread t L (N.q k) 0 ((N.tu k).take i) : Nat) : Int)))))) d = some (.dK (ikv is' (fun t => ((NetM.sumC t (((N.fr k ++ N.tu k).drop p).take m) + NetM.spread t L (N.q k) 0 ((N.tu k).take (i + 1)) : Nat) : Int)))) := by
            intro z hz is' hI' hm'
            have e := key z hz
            rw [e] at hI' ⊢
            exact ⟨same_out sT hd, hI', fun j hj => (hm' j hj).elim (hm9 j) (htg dr hmem j), upd_same⟩
          refine ite2 (fun c => ?_) (fun c => ?_)
          · have c2 : i < L % N.q k := by
              have := of_decide_eq_true c
              rw [hps2] at this
              omega
            exact ⟨_, _, rfl, rfl, d, .ref b2, _, dr, is9, _, rfl, hd9', hI9, ⟨b2, rfl, sT _ _ hb2⟩, h6 dr hmem, fun is' hI' hm' => ⟨is', _, _, _, rfl, fin 1 (by rw [if_pos c2]) is' hI' hm'⟩⟩
          · have c2 : ¬ i < L % N.q k := fun z => c (decide_eq_true (by rw [hps2]; omega))
            exact ⟨_, _, rfl, rfl, d, .ref b2, _, dr, is9, _, rfl, hd9', hI9, ⟨b2, rfl, sT _ _ hb2⟩, h6 dr hmem, fun is' hI' hm' => ⟨is', _, _, _, rfl, fin 0 (by rw [if_neg c2]) is' hI' hm'⟩⟩
        · rintro σ H1 ⟨is9, v7, v1, v2, rfl, s9, hI9, hm9, hd9⟩
          have hlq : (N.tu k).take ps2.length = N.tu k := by rw [hl2]; exact List.take_length
          rw [hlq] at hI9 hd9
          have e : (fun t => ((NetM.sumC t (((N.fr k ++ N.tu k).drop p).take m) + NetM.spread t L (N.q k) 0 (N.tu k) : Nat) : Int)) = fun t => (N.fall k p m t : Int) := by
            funext t
            rw [← hfc t]
            unfold NetM.fallC NetM.rows
            rw [if_pos hlt, ← hL]
          rw [e] at hI9 hd9
          exact ⟨_, rfl, kq d is9 _ hd s9 hI9 hm9 hd9⟩
      · have hge : ¬ (((N.fr k ++ N.tu k).drop p).take m).length < m := fun z => c (decide_eq_true (by omega))
        have e : sumI (((N.fr k ++ N.tu k).drop p).take m) = fun t => (N.fall k p m t : Int) := by
          funext t
          rw [← hfc t]
          unfold NetM.fallC NetM.rows sumI
          rw [if_neg hge]
          rfl
        rw [e] at hI ⊢
        exact ⟨_, rfl, kq d is _ hd (same_out s0 hd) hI hm upd_same⟩
end
end Bal
set_option autoImplicit true
set_option Elab.async false
set_option linter.all false
set_option maxRecDepth 100000
set_option maxHeartbeats 4000000
/-! W4: a board; take, first_waiting. -/
namespace Bal
open PySem L2
/-- what an expression gives is locked from here on -/
def tLk (td : TE) : TE := fun σ H Q => td σ H fun x H1 => ∃ d u, x = .ref d ∧ H1 d = some u ∧ Mut (some u) ∧ ∀ o, Q x (upd H1 d (.frz o u))
theorem pe_lk {X : Cx} {e : Expr} {td : TE} (h : PE X e td) : PE X e (tLk td) := ⟨fun pins s σ H Q I hw => thn (h.run pins s σ H _ I hw) fun v s1 ⟨x, H1, I1, r, d, u, ex, hd, mu, q⟩ => by
  obtain ⟨od, I2⟩ := I1.lock hd mu
  exact ⟨x, _, I2, r, q od⟩⟩
/-! ### a board -/
structure BdA where
  p : Addr
  dx : Addr
  sd : Addr
  wd : Addr
  od : Addr
  td : Addr
def bdF (a : NetA) (b : BdA) : List (Str × V) := [("net", .ref a.p), ("standing", .ref b.sd), ("waiting", .ref b.wd), ("out", .ref b.od), ("taken", .ref b.td)]
theorem bdF_n {a : NetA} {b : BdA} : (bdF a b).lookup ("net" : Str) = some (.ref a.p) := by rfl
theorem bdF_s {a : NetA} {b : BdA} : (bdF a b).lookup ("standing" : Str) = some (.ref b.sd) := by rfl
theorem bdF_w {a : NetA} {b : BdA} : (bdF a b).lookup ("waiting" : Str) = some (.ref b.wd) := by rfl
theorem bdF_o {a : NetA} {b : BdA} : (bdF a b).lookup ("out" : Str) = some (.ref b.od) := by rfl
theorem bdF_t {a : NetA} {b : BdA} : (bdF a b).lookup ("taken" : Str) = some (.ref b.td) := by rfl
def wInt (N : NetM) (S : BdM) : Nat → Int := fun i => if i < N.n then (S.w i : Int) else 0
/-- the board as it stands now; H0: the heap ahead of it -/
structure BoardAt (CN CB : Addr) (H0 H : Hp) (N : NetM) (J : Nat) (a : NetA) (b : BdA) (S : BdM) : Prop where
  net : NetAt CN H0 N J a
  same : Same H0 H
  n1 : H0 b.sd = none
  n2 : H0 b.wd = none
  n3 : H0 b.od = none
  n4 : H0 b.td = none
  ob : H b.p = some (.ins CB b.dx (bdF a b))
  st : H b.sd = some (.dK (ikv (List.range N.n) fun i => (S.pl i : Int)))
  wa : ∃ is, IntI is (wInt N S) ∧ H b.wd = some (.dK (ikv is (wInt N S)))
  ou : H b.od = some (.dK (ikv [4, 5] fun i => (S.out i : Int)))
  ta : H b.td = some (.dK (ikv (List.range N.n) fun i => (S.tk i : Int)))
  d1 : b.sd ≠ b.wd
  d2 : b.sd ≠ b.od
  d3 : b.sd ≠ b.td
  d4 : b.wd ≠ b.od
  d5 : b.wd ≠ b.td
  d6 : b.od ≠ b.td
theorem BoardAt.now {CN CB : Addr} {H0 H : Hp} {N : NetM} {J : Nat} {a : NetA} {b : BdA} {S : BdM} (h : BoardAt CN CB H0 H N J a b S) : NetAt CN H N J a := h.net.same h.same
/-- everything else stands as it did -/
def SameX (H H' : Hp) (b : BdA) : Prop := ∀ p o, H p = some o → p ≠ b.sd → p ≠ b.wd → p ≠ b.od → p ≠ b.td → H' p = some o
theorem SameX.refl {H : Hp} {b : BdA} : SameX H H b := fun _ _ e _ _ _ _ => e
theorem SameX.trans {H H' H'' : Hp} {b : BdA} (h : SameX H H' b) (h' : SameX H' H'' b) : SameX H H'' b := fun p o e a1 a2 a3 a4 => h' p o (h p o e a1 a2 a3 a4) a1 a2 a3 a4
theorem BoardAt.keep {CN CB : Addr} {H0 H H' : Hp} {N : NetM} {J : Nat} {a : NetA} {b : BdA} {S : BdM} (h : BoardAt CN CB H0 H N J a b S) (s : Same H H') : BoardAt CN CB H0 H' N J a b S :=
  { net := h.net, same := fun p o e => s _ _ (h.same _ _ e), n1 := h.n1, n2 := h.n2, n3 := h.n3, n4 := h.n4, ob := s _ _ h.ob, st := s _ _ h.st, wa := let ⟨is, i, q⟩ := h.wa; ⟨is, i, s _ _ q⟩, ou := s _ _ h.ou, ta := s _ _ h.ta, d1 := h.d1, d2 := h.d2, d3 := h.d3, d4 := h.d4, d5 := h.d5, d6 := h.d6 }
theorem ikv_in {is : List Nat} {g : Nat → Int} {k : Nat} {H : Hp} {d : Addr} (e : H d = some (.dK (ikv is g))) (hk : k ∈ is) (h : ∀ i ∈ is, i < 6) : DGet H d (.str (tg k)) (some (.int (g k))) := dget_in e hk h
theorem ikv_put {H : Hp} {d : Addr} {is : List Nat} {g : Nat → Int} (h : ∀ i ∈ is, i < 6) (hl : is.length ≤ 1000) (e : H d = some (.dK (ikv is g))) {k : Nat} (hk : k ∈ is) (z : Int) :
    DPut H d (.str (tg k)) (.int z) (upd H d (.dK (ikv is fun i => if i = k then z else g i))) := by
  have q := dput_tkv (y := .int z) e (h k hk) h hl
  rw [setF_int, addI_of hk] at q
  exact q
/-- parts of a count that are told so far -/
def partI (l : List Nat) (g : Nat → Int) (b : Nat → Int) : Nat → Int := fun t => b t + if t ∈ l then g t else 0
theorem partI_nil (g b : Nat → Int) : partI [] g b = b := by funext t; simp [partI]
theorem partI_snoc {l : List Nat} {g b : Nat → Int} {k : Nat} (h : k ∉ l) : (fun i => if i = k then partI l g b k + g k else partI l g b i) = partI (l ++ [k]) g b := by
  funext i
  unfold partI
  by_cases c : i = k
  · subst c
    simp [h]
  · simp [c]
theorem nodup_take {l : List Nat} (h : l.Nodup) {i k : Nat} (e : l[i]? = some k) : k ∉ l.take i := fun m => by
  have e2 := take_at e
  have : (l.take (i + 1)).Nodup := h.sublist (List.take_sublist ..)
  rw [e2] at this
  exact (List.nodup_append.mp this).2.2 k m k (List.mem_singleton.mpr rfl) rfl
theorem partI_put {l : List Nat} {g b : Nat → Int} {k : Nat} {z : Int} (h : k ∉ l) (e : g k = z) : (fun i => if i = k then partI l g b k + z else partI l g b i) = partI (l ++ [k]) g b := by
  rw [← e]
  exact partI_snoc h
theorem ikv_at {is : List Nat} {g : Nat → Int} {i : Nat} {x y : V} (h1 : (ikv is g)[i]?.map (fun kv => kV kv.1) = some x) (h2 : (ikv is g)[i]?.map Prod.snd = some y) : ∃ t, is[i]? = some t ∧ x = .str (tg t) ∧ y = .int (g t) := by
  unfold ikv tkv at h1 h2
  rw [List.getElem?_map] at h1 h2
  cases e : is[i]? with
  | none => rw [e] at h1; cases h1
  | some t =>
    rw [e] at h1 h2
    cases h1
    cases h2
    exact ⟨t, rfl, rfl, rfl⟩
theorem lt45 : ∀ i ∈ [4, 5], i < 6 := by decide
theorem partI_zero {l : List Nat} {g b : Nat → Int} {k : Nat} (h : g k = 0) : partI (l ++ [k]) g b = partI l g b := by
  funext i
  unfold partI
  by_cases c : i = k
  · subst c
    simp [h]
  · simp [c]
def gW (N : NetM) (k p m : Nat) : Nat → Int := fun t => if t < N.n then (N.fall k p m t : Int) else 0
def gO (N : NetM) (k p m : Nat) : Nat → Int := fun t => if t < N.n then 0 else (N.fall k p m t : Int)
section
variable {P : Program} {w : World} {K : PySem.W.Frag} {mg : Str → Option Value} {base : Heap} {CN CB CS : Addr}
def spTake (CN CB : Addr) : Sp := fun vs H Q _ => ∃ H0 N J a b S k, ∃ m : Nat, vs = [.ref b.p, .str (tg k), .int (m : Int)] ∧ BoardAt CN CB H0 H N J a b S ∧ N.Good ∧ k < N.n ∧ m ≤ S.w k ∧ S.pl k < N.f k + N.q k ∧
  ∀ H', BoardAt CN CB H0 H' N J a b (take N S k m) → SameX H H' b → Q .non H'
theorem sc_Board_take : FnScope ["self", "name", "many", "place", "target", "number"] ["self", "name", "many"] (defScope s_Board_take) := ⟨rfl, rfl, rfl, by decide +kernel, rfl, by decide +kernel, by decide +kernel⟩
theorem ok_take {f : Addr} {fd : FuncData} (F : Fun K "take" "Board.take" s_Board_take f fd) (T : Txt K mg CN CB CS) (G_dropped : MtG P w K mg base CX0 2 CN "dropped" (spDropped CN) []) (G_behind : MtG P w K mg base CX0 2 CN "place_behind" (spBehind CN) []) :
    FnOk P w K mg base CX0 3 f fd ["self", "name", "many"] (spTake CN CB) := by
  refine F.ok sc_Board_take (fun vs H Q E h => ?_) (fun cdv A outer s H vs Q E hr h => ?_)
  · obtain ⟨H0, N, J, a, b, S, k, m, rfl, _⟩ := h
    rfl
  · obtain ⟨H0, N, J, a, b, S, k, m, rfl, B, G, hk, hm, hp, kq⟩ := h
    have hu := hu_of hr
    have hn := G.n4
    have hk6 : k < 6 := by omega
    refine ⟨_, (pss_cons (ps_set (i := 3) sc_Board_take.nd rfl (by first | exact Or.inl rfl | exact Or.inr rfl) (pe_dget hu (pe_fld (pv 0) rfl) (pv 1) (fun _ _ => rfl)))
  (pss_cons (ps_for PassesOwn.never rfl (pi_items (pe_lk (pe_m G_dropped hr (by decide) pass0 (pe_fld (pv 0) rfl) (pa_cons (pv 1) (pa_cons (pv 3) (pa_cons (pv 2) pa_nil)))))) (pg_tup rfl (pgs_cons (pg_name (i := 4) sc_Board_take.nd rfl (by first | exact Or.inl rfl | exact Or.inr rfl)) (pgs_cons (pg_name (i := 5) sc_Board_take.nd rfl (by first | exact Or.inl rfl | exact Or.inr rfl)) pgs_nil)))
  (pss_one (ps_if (pt_cmp (pc_din hu (pv 4) (pe_fld (pv 0) rfl))) (pss_one (ps_daug hu (pe_fld (pv 0) rfl) (pv 4) (pv 5) in_add (fun _ _ _ => rfl))) (pss_one (ps_dput hu (pe_fld (pv 0) rfl) (pv 4) (pe_op op_add (pe_dget2 hu (pe_fld (pv 0) rfl) (pv 4) pe_int ⟨rfl, rfl, rfl, rfl⟩) (pv 5)) rfl)))))
  (pss_cons (ps_dput hu (pe_fld (pv 0) rfl) (pv 1) (pe_op op_sub (pe_dget2 hu (pe_fld (pv 0) rfl) (pv 1) pe_int ⟨rfl, rfl, rfl, rfl⟩) (pv 2)) rfl)
  (pss_cons (ps_dput hu (pe_fld (pv 0) rfl) (pv 1) (pe_m G_behind hr (by decide) pass0 (pe_fld (pv 0) rfl) (pa_cons (pv 1) (pa_cons (pv 3) (pa_cons (pv 2) pa_nil)))) rfl)
  (pss_one (ps_daug hu (pe_fld (pv 0) rfl) (pv 1) (pv 2) in_add (fun _ _ _ => rfl))))))), ?_⟩
    have hkr : k ∈ List.range N.n := List.mem_range.mpr hk
    -- place
    refine ⟨_, rfl, b.p, CB, b.dx, _, _, rfl, B.ob, T.cB, T.nBs, bdF_s, _, rfl, b.sd, _, rfl, ikv_in B.st hkr (rng_lt hn), ?_⟩
    -- for target, number in ..
    refine ⟨_, rfl, b.p, CB, b.dx, _, _, rfl, B.ob, T.cB, T.nBn, bdF_n, a.p, _, _, rfl, B.now.ob, rfl, _, rfl, _, rfl, _, rfl, N, J, a, k, S.pl k, m, rfl, B.now, G, hk, hp, fun d is H1 hd s1 hI htg hd1 => ?_⟩
    refine ⟨d, _, rfl, hd1, trivial, fun o => ⟨d, o, _, rfl, upd_same, ?_⟩⟩
    obtain ⟨isw0, hIw0, hw0⟩ := B.wa
    have ndw : d ≠ b.wd := by rintro rfl; rw [hd] at hw0; cases hw0
    have ndo : d ≠ b.od := by rintro e; rw [e, B.ou] at hd; cases hd
    have nbw : b.p ≠ b.wd := ne_of B.ob hw0 (by intro z; cases z)
    have nbo : b.p ≠ b.od := ne_of B.ob B.ou (by intro z; cases z)
    obtain ⟨HF, eHF⟩ : ∃ HF, HF = upd H1 d (.frz o (.dK (ikv is fun t => (N.fall k (S.pl k) m t : Int)))) := ⟨_, rfl⟩
    have sF : Same H HF := by rw [eHF]; exact same_out s1 hd
    have hdF : HF d = some (.frz o (.dK (ikv is fun t => (N.fall k (S.pl k) m t : Int)))) := by rw [eHF, upd_same]
    rw [← eHF]
    refine for_it walk_items (fun i σ H' => ∃ (v4 v5 : Option V) (isw : List Nat), σ = [some (.ref b.p), some (.str (tg k)), some (.int (m : Int)), some (.int (S.pl k : Int)), v4, v5] ∧
      (∀ p u, HF p = some u → p ≠ b.wd → p ≠ b.od → H' p = some u) ∧ (IntI isw (partI (is.take i) (gW N k (S.pl k) m) (wInt N S)) ∧ H' b.wd = some (.dK (ikv isw (partI (is.take i) (gW N k (S.pl k) m) (wInt N S))))) ∧ H' b.od = some (.dK (ikv [4, 5] (partI (is.take i) (gO N k (S.pl k) m) fun i => (S.out i : Int)))))
      ⟨_, _, isw0, rfl, fun p u e _ _ => e, ?_, ?_⟩ (fun i σ H' _ p => ?_) ?_ ?_
    · rw [List.take_zero, partI_nil]
      exact ⟨hIw0, sF _ _ hw0⟩
    · rw [List.take_zero, partI_nil]
      exact sF _ _ B.ou
    · obtain ⟨_, _, _, _, sx, _⟩ := p
      exact sx _ _ hdF ndw ndo
    · rintro i x σ H2 H3 hi ⟨v4, v5, isw, rfl, sx, ⟨hIw, hw⟩, ho⟩ ⟨T9, x1, x2, rfl, hT, rfl, hk1, hk2⟩
      obtain ⟨t, et, rfl, rfl⟩ := ikv_at hk1 hk2
      have htm := List.mem_of_getElem? et
      have ht6 := hI.lt t htm
      have hnt := nodup_take hI.nd et
      have nTd : T9 ≠ b.od := by rintro rfl; rw [ho] at hT; cases hT
      have nTw : T9 ≠ b.wd := by rintro rfl; rw [hw] at hT; cases hT
      have sx2 : ∀ p u, HF p = some u → p ≠ b.wd → p ≠ b.od → (upd H2 T9 (.tup [.str (tg t), .int (N.fall k (S.pl k) m t : Int)])) p = some u := fun p u e a1 a2 => by
        have q := sx p u e a1 a2
        rw [upd_ne (ne_of_none q hT)]
        exact q
      have ho2 := (upd_ne (H := H2) (o := .tup [.str (tg t), .int (N.fall k (S.pl k) m t : Int)]) (Ne.symm nTd)).trans ho
      have hw2 := (upd_ne (H := H2) (o := .tup [.str (tg t), .int (N.fall k (S.pl k) m t : Int)]) (Ne.symm nTw)).trans hw
      have ob2 := sx2 _ _ (sF _ _ B.ob) nbw nbo
      refine ⟨T9, _, rfl, SqT.of upd_same, rfl, _, _, rfl, _, _, rfl, rfl, ?_⟩
      have c45 : t < N.n ∨ t ∈ [4, 5] := (htg t htm).elim .inl fun z => .inr (by rcases z with rfl | rfl <;> simp)
      rcases c45 with c | c
      · have c5 : t ∉ [4, 5] := fun z => by simp at z; omega
        have q := dget_tkv ho2 ht6 lt45
        rw [if_neg c5] at q
        refine ⟨_, rfl, _, rfl, b.p, CB, b.dx, _, _, rfl, ob2, T.cB, T.nBo, bdF_o, b.od, _, rfl, q, _, rfl, ?_⟩
        refine ⟨_, rfl, b.p, CB, b.dx, _, _, rfl, ob2, T.cB, T.nBw, bdF_w, b.wd, rfl, .inl ⟨_, .inl hw2⟩, _, rfl, _, dget_tkv hw2 ht6 hIw.lt, ?_⟩
        rw [iget hIw]
        have eg : gW N k (S.pl k) m t = (N.fall k (S.pl k) m t : Int) := if_pos c
        have ego : gO N k (S.pl k) m t = 0 := if_pos c
        refine ⟨_, rfl, _, _, rfl, rfl, _, rfl, b.p, CB, b.dx, _, _, rfl, ob2, T.cB, T.nBw, bdF_w, _, rfl, b.wd, _, rfl, iput hIw hw2 ht6 _, ?_⟩
        refine ⟨_, _, addI isw t, rfl, fun p u e a1 a2 => ?_, ?_, ?_⟩
        · rw [upd_ne a1]
          exact sx2 p u e a1 a2
        · have q2 := hIw.add ht6 (partI (is.take i) (gW N k (S.pl k) m) (wInt N S) t + (N.fall k (S.pl k) m t : Int))
          rw [partI_put hnt eg] at q2
          rw [take_at et, upd_same, partI_put hnt eg]
          exact ⟨q2, rfl⟩
        · rw [take_at et, partI_zero ego]
          exact (upd_ne (Ne.symm B.d4)).trans ho2
      · have eg : gO N k (S.pl k) m t = (N.fall k (S.pl k) m t : Int) := if_neg (by simp at c; omega)
        have egw : gW N k (S.pl k) m t = 0 := if_neg (by simp at c; omega)
        refine ⟨_, rfl, _, rfl, b.p, CB, b.dx, _, _, rfl, ob2, T.cB, T.nBo, bdF_o, b.od, _, rfl, ikv_in ho2 c lt45, _, rfl, ?_⟩
        refine ⟨_, rfl, b.p, CB, b.dx, _, _, rfl, ob2, T.cB, T.nBo, bdF_o, _, rfl, b.od, _, rfl, ikv_in ho2 c lt45, _, rfl, _, _, rfl, rfl, _, ikv_put lt45 (by decide) ho2 c _, ?_⟩
        refine ⟨_, _, isw, rfl, fun p u e a1 a2 => ?_, ?_, ?_⟩
        · rw [upd_ne a2]
          exact sx2 p u e a1 a2
        · rw [take_at et, partI_zero egw]
          exact ⟨hIw, (upd_ne B.d4).trans hw2⟩
        · rw [upd_same, take_at et, partI_put hnt eg]
    · rintro σ H2 ⟨v4, v5, isw, rfl, sx, ⟨hIw, hw⟩, ho⟩
      have hl : (ikv is fun t => (N.fall k (S.pl k) m t : Int)).length = is.length := tkv_len ..
      rw [hl, List.take_length] at hIw hw ho
      have hwk : partI is (gW N k (S.pl k) m) (wInt N S) k = (S.w k : Int) + (N.fall k (S.pl k) m k : Int) := by
        unfold partI wInt gW
        rw [if_pos hk, if_pos hk]
        by_cases c : k ∈ is
        · rw [if_pos c]
        · have z := hI.z k c
          rw [if_neg c, z]
      have ob2 := sx _ _ (sF _ _ B.ob) nbw nbo
      refine ⟨_, rfl, b.p, CB, b.dx, _, _, rfl, ob2, T.cB, T.nBw, bdF_w, b.wd, rfl, .inl ⟨_, .inl hw⟩, _, rfl, _, dget_tkv hw hk6 hIw.lt, ?_⟩
      rw [iget hIw]
      refine ⟨_, rfl, _, _, rfl, rfl, _, rfl, b.p, CB, b.dx, _, _, rfl, ob2, T.cB, T.nBw, bdF_w, _, rfl, b.wd, _, rfl, iput hIw hw hk6 _, ?_⟩
      have q2 := hIw.add hk6 (partI is (gW N k (S.pl k) m) (wInt N S) k - (m : Int))
      have ew : (fun i => if i = k then partI is (gW N k (S.pl k) m) (wInt N S) k - (m : Int) else partI is (gW N k (S.pl k) m) (wInt N S) i) = wInt N (take N S k m) := by
        funext i
        by_cases c : i = k
        · subst c
          rw [if_pos rfl, hwk]
          unfold wInt take
          simp only []
          rw [if_pos hk, if_pos hk, if_pos trivial]
          omega
        · rw [if_neg c]
          unfold partI wInt gW take
          simp only []
          by_cases cn : i < N.n
          · rw [if_pos cn, if_pos cn, if_pos cn, if_pos cn, if_neg c]
            by_cases ci : i ∈ is
            · rw [if_pos ci]; omega
            · have z : (N.fall k (S.pl k) m i : Int) = 0 := hI.z i ci
              rw [if_neg ci]; omega
          · rw [if_neg cn, if_neg cn, if_neg cn]
            simp
      rw [ew] at q2 ⊢
      have ob3 := (upd_ne (o := .dK (ikv (addI isw k) (wInt N (take N S k m)))) nbw).trans ob2
      have sH : ∀ p u, H p = some u → p ≠ b.wd → p ≠ b.od → (upd H2 b.wd (.dK (ikv (addI isw k) (wInt N (take N S k m))))) p = some u := fun p u e a1 a2 => by
        rw [upd_ne a1]
        exact sx p u (sF _ _ e) a1 a2
      have net3 : NetAt CN (upd H2 b.wd (.dK (ikv (addI isw k) (wInt N (take N S k m))))) N J a := B.net.same fun p u e => sH p u (B.same _ _ e) (ne_of_none e B.n2) (ne_of_none e B.n3)
      have st3 := sH _ _ B.st B.d1 B.d2
      have ta3 := sH _ _ B.ta (Ne.symm B.d5) (Ne.symm B.d6)
      have nbs : b.p ≠ b.sd := ne_of B.ob B.st (by intro z; cases z)
      -- standing
      refine ⟨_, rfl, b.p, CB, b.dx, _, _, rfl, ob3, T.cB, T.nBn, bdF_n, a.p, _, _, rfl, net3.ob, rfl, _, rfl, _, rfl, _, rfl, N, J, a, k, S.pl k, m, rfl, net3, hn, hk, by have := G.tu1 k hk; exact this, ?_⟩
      refine ⟨_, rfl, b.p, CB, b.dx, _, _, rfl, ob3, T.cB, T.nBs, bdF_s, _, rfl, b.sd, _, rfl, ikv_put (rng_lt hn) (by simp; omega) st3 hkr _, ?_⟩
      have ob4 := (upd_ne (o := .dK (ikv (List.range N.n) fun i => if i = k then (N.behind k (S.pl k) m : Int) else (S.pl i : Int))) nbs).trans ob3
      have ta4 := (upd_ne (o := .dK (ikv (List.range N.n) fun i => if i = k then (N.behind k (S.pl k) m : Int) else (S.pl i : Int))) (Ne.symm B.d3)).trans ta3
      -- taken
      refine ⟨_, rfl, b.p, CB, b.dx, _, _, rfl, ob4, T.cB, T.nBt, bdF_t, _, rfl, b.td, _, rfl, ikv_in ta4 hkr (rng_lt hn), _, rfl, _, _, rfl, rfl, _, ikv_put (rng_lt hn) (by simp; omega) ta4 hkr _, ?_⟩
      have est : (fun i => if i = k then (N.behind k (S.pl k) m : Int) else (S.pl i : Int)) = fun i => ((take N S k m).pl i : Int) := by
        funext i
        show _ = ((if i = k then N.behind k (S.pl k) m else S.pl i : Nat) : Int)
        split <;> rfl
      have eta : (fun i => if i = k then (S.tk k : Int) + (m : Int) else (S.tk i : Int)) = fun i => ((take N S k m).tk i : Int) := by
        funext i
        show _ = ((if i = k then S.tk i + m else S.tk i : Nat) : Int)
        split
        · rename_i e; rw [e]; rfl
        · rfl
      rw [est] at ob4 ta4 ⊢
      rw [eta]
      have eou : (ikv [4, 5] (partI is (gO N k (S.pl k) m) fun i => (S.out i : Int))) = ikv [4, 5] fun i => ((take N S k m).out i : Int) := by
        refine tkv_congr fun i hi => ?_
        show V.int _ = V.int ((S.out i + N.fall k (S.pl k) m i : Nat) : Int)
        have : ¬ i < N.n := by simp at hi; omega
        unfold partI gO
        rw [if_neg this]
        by_cases ci : i ∈ is
        · rw [if_pos ci]; rfl
        · have z : (N.fall k (S.pl k) m i : Int) = 0 := hI.z i ci
          rw [if_neg ci, Int.natCast_add, z]
      have nbt : b.p ≠ b.td := ne_of B.ob B.ta (by intro z; cases z)
      have all5 : ∀ p u, H p = some u → p ≠ b.sd → p ≠ b.wd → p ≠ b.od → p ≠ b.td → (upd (upd (upd H2 b.wd (.dK (ikv (addI isw k) (wInt N (take N S k m))))) b.sd (.dK (ikv (List.range N.n) fun i => ((take N S k m).pl i : Int)))) b.td (.dK (ikv (List.range N.n) fun i => ((take N S k m).tk i : Int)))) p = some u := fun p u e a1 a2 a3 a4 => by
        rw [upd_ne a4, upd_ne a1]
        exact sH p u e a2 a3
      refine kq _ { net := B.net, same := fun p u e => all5 p u (B.same _ _ e) (ne_of_none e B.n1) (ne_of_none e B.n2) (ne_of_none e B.n3) (ne_of_none e B.n4), n1 := B.n1, n2 := B.n2, n3 := B.n3, n4 := B.n4, ob := (upd_ne nbt).trans ob4, st := ?_, wa := ⟨_, q2, ?_⟩, ou := ?_, ta := upd_same, d1 := B.d1, d2 := B.d2, d3 := B.d3, d4 := B.d4, d5 := B.d5, d6 := B.d6 } all5
      · rw [upd_ne B.d3, upd_same]
      · rw [upd_ne B.d5, upd_ne (Ne.symm B.d1), upd_same]
      · rw [upd_ne B.d6, upd_ne (Ne.symm B.d2), upd_ne (Ne.symm B.d4), ho, eou]
end
end Bal
set_option autoImplicit true
set_option Elab.async false
set_option linter.all false
set_option maxRecDepth 100000
set_option maxHeartbeats 4000000
/-! WX: own errors over ValueError whose __init__ calls super().__init__(text) and stores one field. -/
namespace Bal
namespace SX
open PySem PySem.W PySem.Calls PyProof.Rows PySem.HandSPX
def xA (fl : Str) (p1 p2 : Pos) : Arguments := { posonlyargs := [], args := [⟨"self", none, p1⟩, ⟨fl, none, p2⟩], vararg := none, kwonlyargs := [], kw_defaults := [], kwarg := none, defaults := [] }
def xS (fl : Str) : Scope := { kind := .function, names := [("self", .local), (fl, .local), ("__class__", .free), ("super", .globalImplicit)], isGenerator := false, isCoroutine := false, more := [] }
def xB (fl msg : Str) (r0 r1 r2 r3 r4 r5 q1 q2 q3 q4 : Pos) : List Stmt :=
  [.Expr (.Call (.Attribute (.Call (.Name "super" r0) [] [] r1) "__init__" r2) [.Constant (.str msg) 0 r3] [] r4) r5, .Assign [.Attribute (.Name "self" q1) fl q2] (.Name fl q3) q4]
/-- what is written of such a class at C, its __init__ at fI -/
structure SupTxt (prog : Program) (K : Frag) (mg : Str → Option Value) (nm fl msg : Str) (C fI : Addr) : Prop where
  gC : mg nm = some (.ref C)
  fl1 : ((fl == ("self" : Str)) = false) ∧ ((fl == ("__class__" : Str)) = false) ∧ ((fl == ("super" : Str)) = false) ∧ ((fl == ("__debug__" : Str)) = false)
  cls : ∃ nn q N bs bm sn sub ab col dd k0 k1 k2 k3 k5, K.lookup C = some (excClassObj nn q C N bs bm true sn sub ab col dd k0 k1 k2 k3 k5 "ValueError.__new__") ∧ refsVE bm = true
  sa : findIn K (.ref C) "__setattr__" = some (some (.builtin "object.__setattr__"))
  noN : findIn K (.ref C) fl = some none
  iC : findIn K (.ref C) "__init__" = some (some (.ref fI))
  tC : typeIn K (.ref fI) = some (.type "function")
  kC : keepIn K (.ref C) = true
  exC : subIn K (.ref C) (.type "BaseException") = some true
  veC : subIn K (.ref C) (.type "ValueError") = some true
  tyC : typeIn K (.ref C) = some (.type "type")
  sup : ks_superIn K C C "__init__" = some (some (.builtin "ValueError.__init__"))
  slf : mroIn K C (.ref C) = some true
  opq : nsIn K cStatics "thirdparty.any" = some none
  top : (prog.main.scope.names.lookup ("super" : Str)).isSome = false
  noS : mg "super" = none
  fn : ∃ (oc : Value) (od : Option Addr) (doc pm : Value) (an : Option Addr) (cda : Addr) (ct : Value) (osl : Array (Option Value)) (p1 p2 r0 r1 r2 r3 r4 r5 q1 q2 q3 q4 : Pos) (qual : Str) (cc : Addr),
    K.lookup fI = some ⟨oc, od, .func (ksFn "__init__" qual (xA fl p1 p2) (xB fl msg r0 r1 r2 r3 r4 r5 q1 q2 q3 q4) (xS fl) .none .none doc pm an (.ref cda) ct cc), osl⟩ ∧ codeIn K (.ref cda) qual = true ∧
    (∀ (s : Shared) (x v : Value), BindsTo s (ksFn "__init__" qual (xA fl p1 p2) (xB fl msg r0 r1 r2 r3 r4 r5 q1 q2 q3 q4) (xS fl) .none .none doc pm an (.ref cda) ct cc) ⟨[x, v], []⟩ [("self", x), (fl, v)]) ∧
    (∀ env : Env, ∃ pl : Sem Bool, eval (.Call (.Attribute (.Call (.Name "super" r0) [] [] r1) "__init__" r2) [.Constant (.str msg) 0 r3] [] r4) env = (do
      let ov ← attributeBase (.Call (.Name "super" r0) [] [] r1) "__init__" env (eval (.Call (.Name "super" r0) [] [] r1) env)
      standAt r2.atName
      let (f, first) ← holding [ov] (getMethod ov "__init__" pl)
      callWith r4 f first (backTo r4 (starEach [.Constant (.str msg) 0 r3] env)) [])) ∧
    (∃ cl cld csl, K.lookup cc = some ⟨cl, cld, .cell (some (.ref C)), csl⟩) ∧ ∃ ccl cdd vs ccs file tf, K.lookup cda = some ⟨ccl, cdd, .fields vs, ccs⟩ ∧ vs[2]? = some (.str file tf) ∧ ((prog.main.file : Str) == file) = true
/-- the globals and the built-ins as they stand -/
structure GNow (mg : Str → Option Value) (h : Heap) : Prop where
  g : h.Ns mainGlobals mg
  b : ∃ mb, h.Ns builtinsNs mb ∧ ∀ x : Str, x ≠ "__name__" → mb x = bootBuiltins x
theorem GNow.keeps {mg : Str → Option Value} {h h' : Heap} (G : GNow mg h) (k : ∀ b o, h.get? b = some o → h'.get? b = some o) : GNow mg h' :=
  ⟨G.g.keeps k, let ⟨mb, x, y⟩ := G.b; ⟨mb, x.keeps k, y⟩⟩
structure Done (h h' : Heap) (x C dx t1 : Addr) (fl : Str) (v : Value) : Prop where
  keep : ∀ b o, b ≠ x → h.get? b = some o → h'.get? b = some o
  obj : h'.get? x = some { cls := .ref C, dict := some dx, data := .fields #[.ref t1, .none, .none, .none, .bool false, .none] }
  dbig : h.objs.size ≤ dx
  dne : dx ≠ x
  ns : h'.Ns1 dx (fun y => if y = fl then some v else none)
section
variable {prog : Program} {w : World} {A : Around} {E : Value → Shared → Prop} {R : Result → Shared → Prop} {s : Shared} {K : Frag} {mg : Str → Option Value} {nm fl msg : Str} {C fI : Addr}
theorem one_le (v : Value) : [v].length ≤ sizeLine := by rw [sizeLine_eq]; exact Nat.le_of_ble_eq_true rfl
/-- the bound built-in __init__, called -/
theorem call_mw {x u t0 : Addr} {h : Heap} {g : Array GenState} {d : Drawn} {t : Nat} {os : OsState} {rest : List Value} {Q : Value → Shared → Prop} {nn q : Str} {N : Addr} {bs bm : List Value} {hdct : Bool} {sn : List Str} {sub : List Value} {ab : Bool} {col : Option Bool} {dd : Option Addr} {k0 k1 k2 k3 k5 : Option Value}
    (hC : h.get? C = some (excClassObj nn q C N bs bm hdct sn sub ab col dd k0 k1 k2 k3 k5 "ValueError.__new__")) (he : h.get? x = some (excO C t0)) (hu : h.get? u = some (kxs_mw "ValueError.__init__" x)) (hz : rest.length ≤ sizeLine)
    (fin : ∀ h', (∀ b o, b ≠ x → h.get? b = some o → h'.get? b = some o) → h'.get? x = some (excO C h.objs.size) → Q .none ⟨h', g, d, t, os⟩) :
    wpAny (model prog w) A (call (.ref u) rest) Q E ⟨h, g, d, t, os⟩ := by
  refine wpAny_call (codeAny_of_tree ?_)
  show wpAny _ A.in1 (callAny (.ref u) ⟨rest, []⟩) _ _ _
  simp only [callAny]
  refine wpAny_bind (wpAny_load hu ?_)
  simp only [kxs_mw, show (Value.type "method-wrapper" == Value.type "method" || Value.type "method-wrapper" == Value.type "builtin_function_or_method" || Value.type "method-wrapper" == Value.type "method-wrapper") = true by decide, if_true]
  refine KFB.if_so (by decide) ?_
  refine wpAny_bind (check_bound_init F.excBase_ValueError.toExcCallFacts hC he rfl ?_)
  refine wpAny_bind (wpAny_pure (wpAny_pure ?_))
  refine ⟨plainId_quiet F.excBase_ValueError.init.plain _, codeAny_builtin F.excBase_ValueError.initEntry ?_⟩
  exact exc_init_tree (cls := .ref C) (t0 := t0) (dv := none) (c2 := .none) (c3 := .none) (b4 := .bool false) he hz fun h' k e' _ => fin h' k e'
theorem sup_init (T : SupTxt prog K mg nm fl msg C fI) {x t0 : Addr} {v : Value} (X : K.In s.heap) (G : GNow mg s.heap) (hlim : s.heap.NoLimit) (hx : s.heap.get? x = some (excO C t0)) (hnx : K.lookup x = none) (hroom : A.depth < recursionLimit)
    (hq : ∀ h' tk dx t1, Done s.heap h' x C dx t1 fl v → R (.ok (.ret .none)) { s with heap := h', toks := tk }) :
    codeAny (model prog w) A (.call (.ref fI) ⟨[.ref x, v], []⟩) R s := by
  obtain ⟨oc, od, doc, pm, an, cda, ct, osl, p1, p2, r0, r1, r2, r3, r4, r5, q1, q2, q3, q4, qual, cc, ho, hcd, hbind, heval, ⟨cl, cld, csl, hcell⟩, ccl, cdd, vs, ccs, file, tf, hcode, hvs, hfile⟩ := T.fn
  obtain ⟨nn, q, N, bs, bm, sn, sub, ab, col, dd, k0, k1, k2, k3, k5, hC, hbm⟩ := T.cls
  obtain ⟨f1, f2, f3, f4⟩ := T.fl1
  have hcl : clsIn K C = some { name := nn, bases := bs, mro := .ref C :: bm, ns := N, qualname := q, hasDict := true, slotNames := sn, subclasses := sub, abstract := ab, collection := col, hasDel := false } := by unfold clsIn; rw [hC] <;> rfl
  have ka : (xS fl).names.lookup ("self" : Str) = some .local := by rfl
  have kf : (xS fl).names.lookup fl = some .local := by
    show List.lookup fl [(("self" : Str), NameKind.local), (fl, .local), ("__class__", .free), ("super", .globalImplicit)] = _
    rw [List.lookup_cons, f1, List.lookup_cons, beq_self_eq_true]
  have kb : ∀ y : Str, (fl == y) = false → (y == fl) = false := fun y e => by
    rw [beq_eq_false_iff_ne] at e ⊢
    exact Ne.symm e
  have kc : (xS fl).names.lookup ("__class__" : Str) = some .free := by
    show List.lookup ("__class__" : Str) [(("self" : Str), NameKind.local), (fl, .local), ("__class__", .free), ("super", .globalImplicit)] = _
    rw [List.lookup_cons, show (("__class__" : Str) == ("self" : Str)) = false by decide, List.lookup_cons, kb _ f2]
    rfl
  have ks : (xS fl).names.lookup ("super" : Str) = some .globalImplicit := by
    show List.lookup ("super" : Str) [(("self" : Str), NameKind.local), (fl, .local), ("__class__", .free), ("super", .globalImplicit)] = _
    rw [List.lookup_cons, show (("super" : Str) == ("self" : Str)) = false by decide, List.lookup_cons, kb _ f3]
    rfl
  obtain ⟨hp, g, d, tk, os⟩ := s
  refine ks_codeAny_call_defAt (binds := [("self", .ref x), (fl, v)]) (body := xB fl msg r0 r1 r2 r3 r4 r5 q1 q2 q3 q4) hroom (X _ _ ho) rfl hlim (codeRec_of X hcd) rfl (hbind _ _ _) ?_ ?_ (fun h₁ hn k => ?_)
  · intro y hy
    rcases List.mem_cons.mp hy with rfl | hy
    · intro z; cases z
    rcases List.mem_cons.mp hy with rfl | hy
    · intro z; cases z
    rcases List.mem_cons.mp hy with rfl | hy
    · intro z; cases z
    rcases List.mem_cons.mp hy with rfl | hy
    · intro z; cases z
    cases hy
  · intro y hy
    rcases List.mem_cons.mp hy with rfl | hy
    · exact ka
    rcases List.mem_cons.mp hy with rfl | hy
    · exact kf
    cases hy
  have X1 : K.In h₁ := X.keeps k
  have G1 : GNow mg h₁ := G.keeps k
  have hx1 := k _ _ hx
  have hxL : hp.objs.size ≠ x := Nat.ne_of_gt (Heap.lt_size hx)
  have nsl : ∀ y : Str, (List.reverse [(("self" : Str), Value.ref x), (fl, v)]).lookup y = if y == fl then some v else if y == ("self" : Str) then some (.ref x) else none := fun y => by
    show List.lookup y [(fl, v), (("self" : Str), Value.ref x)] = _
    rw [List.lookup_cons, List.lookup_cons]
    cases y == fl
    · cases y == ("self" : Str) <;> rfl
    · rfl
  have vself : (List.reverse [(("self" : Str), Value.ref x), (fl, v)]).lookup ("self" : Str) = some (.ref x) := by
    rw [nsl, kb _ f1, if_neg (by simp), if_pos (by rfl)]
  have vfl : (List.reverse [(("self" : Str), Value.ref x), (fl, v)]).lookup fl = some v := by
    rw [nsl, beq_self_eq_true, if_pos rfl]
  obtain ⟨oD, hD1, hD2⟩ : ∃ oD, h₁.get? C = some oD ∧ oD.data = .cls { name := nn, bases := bs, mro := .ref C :: bm, ns := N, qualname := q, hasDict := true, slotNames := sn, subclasses := sub, abstract := ab, collection := col, hasDel := false } := ⟨_, X1 _ _ hC, rfl⟩
  have I1 : InstAt h₁ x (excO C t0) C none := ⟨hx1, rfl, rfl, trivial⟩
  -- super()
  obtain ⟨pl, hpl⟩ := heval (ksEnv qual (xS fl) hp.objs.size fI (.ref cda) cc)
  refine ks_wpAt_execs_cons (ks_wpAt_Expr_any (ks_wpAt_MethodCall ?_ hpl))
  · refine ks_wpAt_super_base (env := ksEnv qual (xS fl) hp.objs.size fI (.ref cda) cc) ks kc (by decide) rfl (X1 _ _ ho) rfl rfl rfl (X1 _ _ hcode) rfl hvs hfile T.top ?_
    obtain ⟨mb, hb1, hb2⟩ := G1.b
    refine ks_loadName_global (by rfl) ks (loadGlobal_builtin (env := ksEnv qual (xS fl) hp.objs.size fI (.ref cda) cc) G1.g T.noS hb1 ((hb2 _ (by decide)).trans (by first | boot_by_name | rfl | kernel_rfl)) ⟨rfl, ?_⟩)
    refine wpAny_loadName_free (by rfl) kc rfl ⟨_, X1 _ _ hcell, rfl⟩ ?_
    refine wpAny_loadName_local (by rfl) ka hn vself ?_
    refine ks_wpAny_isType_cls hD1 hD2 ⟨rfl, ?_⟩
    refine ks_wpAny_call_super hD1 hD2 I1.at_ I1.cls (fun c e => by cases e) (looks_mroIn X1 T.slf) (fun h2 hso k2 => ?_)
    have X2 : K.In h2 := X1.keeps k2
    have I2 : InstAt h2 x (excO C t0) C none := ⟨k2 _ _ hx1, rfl, rfl, trivial⟩
    have hal : alongIn K "__init__" (((Value.ref C :: bm).dropWhile (· != .ref C)).drop 1) = some (some (.builtin "ValueError.__init__")) := by
      have q := T.sup
      unfold ks_superIn at q
      rw [hcl] at q
      exact q
    refine kxs_getMethod kxs_ValueError hso (looks_opaque X2 T.opq) (l₀ := .ref C :: bm) (fun A Q E s k q => wpAny_bind ((looks_clsIn X2 hcl) A _ E s k (wpAny_pure q))) rfl X2 hal (I2.type.andThen (looks_subIn X2 T.veC)) (ks_ne X2 I2 hcl) (by decide) ?_
    refine kxs_callWith (i := "ValueError.__init__") (x := x) (by rfl) (evalArgs_plain (spliced_cons ?_))
    show wpAny _ _ (eval (.Constant (.str msg) 0 r3) _) _ _ _
    refine wpAny_Constant_str ?_
    refine spliced_nil ⟨by show (h2.push (kxs_mw "ValueError.__init__" x)).get? h2.objs.size = _; exact Heap.get?_push_at rfl rfl, ?_⟩
    show wpAny _ _ (call (.ref h2.objs.size) [.str msg _]) _ _ _
    have k3 : ∀ b o, h2.get? b = some o → (h2.push (kxs_mw "ValueError.__init__" x)).get? b = some o := fun b o e => Heap.get?_push_of_some _ e
    refine call_mw (k3 _ _ (X2 _ _ hC)) (k3 _ _ I2.at_) (Heap.get?_push_at rfl rfl) (one_le _) fun h4 k4 hx4 => ?_
    have old : ∀ b o, b ≠ x → hp.get? b = some o → h4.get? b = some o := fun b o hb e => k4 b o hb (k3 b o (k2 b o (k b o e)))
    have X4 : K.In h4 := fun b o e => old b o (fun z => by rw [z, hnx] at e; cases e) (X b o e)
    have hn4 : h4.Ns hp.objs.size (fun y => (List.reverse [(("self" : Str), Value.ref x), (fl, v)]).lookup y) := hn.at fun o e => k4 _ o hxL (k3 _ o (k2 _ o e))
    -- self.f = f
    refine wpAt_of_wpAny ?_
    show wpAny _ _ (execs _ _) _ _ _
    refine wpAny_execs_cons (plainObj_wpAny_Assign_Attribute ?_)
    refine wpAny_Name (wpAny_loadName_local (by rfl) kf hn4 vfl (wpAny_Name (wpAny_loadName_local (by rfl) ka hn4 vself ?_) (by decide))) f4
    refine set_plain X4 (ox := excO C _) (od := none) ⟨hx4, rfl, rfl, trivial⟩ T.sa ?_
    refine exc_osa X4 hx4 hcl (show refsVE (.ref C :: bm) = true from hbm) rfl T.noN (fun h5 tk5 dx k5 dn dne hx5 hn5 => ?_)
    show wpAny _ _ (execs _ _) _ _ _
    have z : hp.objs.size < h4.objs.size := hn4.lt
    exact wpAny_execs_nil (hq h5 tk5 dx _ ⟨fun b o hb e => k5 b o hb (old b o hb e), hx5, Nat.le_of_lt (Nat.lt_of_lt_of_le z dn), dne, hn5⟩)
/-- such an error, made -/
structure Made (h h' : Heap) (e C d : Addr) (fl : Str) (v : Value) : Prop where
  keep : ∀ b o, h.get? b = some o → h'.get? b = some o
  new : h.objs.size ≤ e
  obj : ∃ oe vs, h'.get? e = some oe ∧ oe.cls = .ref C ∧ oe.dict = some d ∧ oe.data = .fields vs ∧ vs[1]? = some .none
  dbig : h.objs.size ≤ d
  dne : d ≠ e
  ns : h'.Ns1 d (fun y => if y = fl then some v else none)
theorem sup_made (T : SupTxt prog K mg nm fl msg C fI) {v : Value} (X : K.In s.heap) (G : GNow mg s.heap) (hlim : s.heap.NoLimit) (hroom : A.depth + 1 < recursionLimit)
    (hq : ∀ h' tk e d, Made s.heap h' e C d fl v → R (.ok (.ret (.ref e))) { s with heap := h', toks := tk }) :
    codeAny (model prog w) A (.call (.ref C) ⟨[v], []⟩) R s := by
  obtain ⟨nn, q, N, bs, bm, sn, sub, ab, col, dd, k0, k1, k2, k3, k5, hC, hbm⟩ := T.cls
  obtain ⟨hp, g, dr, tk, os⟩ := s
  have k : ∀ b o, hp.get? b = some o → ((hp.push (kdv_tup [v])).push (excO C hp.objs.size)).get? b = some o := fun b o e => Heap.get?_push_of_some _ (Heap.get?_push_of_some _ e)
  have hget : ((hp.push (kdv_tup [v])).push (excO C hp.objs.size)).get? (hp.objs.size + 1) = some (excO C hp.objs.size) := by heap_get
  have hnx : K.lookup (hp.objs.size + 1) = none := by
    cases e : K.lookup (hp.objs.size + 1) with
    | none => rfl
    | some o => exact absurd (Nat.lt_of_succ_lt (Heap.lt_size (show hp.get? (hp.objs.size + 1) = some o from X _ _ e))) (Nat.lt_irrefl _)
  refine call_own F.excBase_ValueError (fun X => refsVE_contains X bm hbm) (X _ _ hC) (looks_findIn X T.iC) (fun self => bind_fn X self T.tC) (one_le v) ?_
  refine sup_init (s := ⟨(hp.push (kdv_tup [v])).push (excO C hp.objs.size), g, dr, tk, os⟩) T (X.keeps k) (G.keeps k) (hlim.keeps k) hget hnx hroom fun h' tk' dx t1 D => ?_
  have old : ∀ b o, hp.get? b = some o → h'.get? b = some o := fun b o e => D.keep b o (Nat.ne_of_lt (Nat.lt_succ_of_lt (Heap.lt_size e))) (k b o e)
  have z : hp.objs.size + 1 + 1 ≤ dx := by
    have q := D.dbig
    first
      | exact q
      | (rw [Heap.size_push, Heap.size_push] at q; exact q)
      | (simpa only [Heap.size_push] using q)
  exact ⟨rfl, hq h' tk' (hp.objs.size + 1) dx ⟨old, Nat.le_succ _, ⟨_, _, D.obj, rfl, rfl, rfl, rfl⟩, Nat.le_trans (Nat.le_trans (Nat.le_succ _) (Nat.le_succ _)) z, D.dne, D.ns⟩⟩
end
end SX
end Bal
namespace Bal
open PySem PySem.Spec PyProof.Rows L2
section
variable {X : Cx} {nm fl msg : Str} {C fI : Addr}
theorem relO_fl {v : V} {v' : Value} {fl : Str} (r : RelV v v') (f : Str) : RelO (List.lookup f [(fl, v)]) (if f = fl then some v' else none) := by
  by_cases e : f = fl
  · rw [e, if_pos rfl, List.lookup_cons, beq_self_eq_true]
    exact r
  · have q : (f == fl) = false := by simpa using e
    rw [if_neg e, List.lookup_cons, q]
    trivial
/-- such a class, called with one value -/
def tSup (C : Addr) (fl : Str) (ta : TA) : L2.St → Hp → XK → Prop := fun σ H Q => ta σ H fun vs H1 => ∃ v, vs = [v] ∧ ∀ d, H1 d = none → Q (.ref C) (some d) (upd H1 d (.xd [(fl, v)]))
theorem pmk_sup {a : Expr} {ta : TA} {p pos : Pos} {k : Nat} (T : SX.SupTxt X.prog X.K X.mg nm fl msg C fI) (hr : Room k X.A) (hk : 1 ≤ k) (ha : PA X [a] ta) (hg : Gl X nm := by rfl) (hdb : (nm == ("__debug__" : Str)) = false := by decide)
    (he : starEach (a :: []) X.env = (false, eval a X.env) :: starEach [] X.env := by rfl) (hpl : (backTo pos (starEach [] X.env)).any (·.1) = false := by rfl) :
    PMk X (.Call (.Name nm p) [a] [] pos) (tSup C fl ta) := by
  intro pins s σ H Q I h
  refine wpAny_Call_Name_kw (ld_glob I hg T.gC ?_ hdb)
  refine PySem.W.callWith_K (h₀ := X.base) I.ok.mod.kin T.kC (thn (ha.run pos pins s σ H _ I h) fun us s1 hh => ?_) he hpl
  obtain ⟨vs, H1, I1, r1, v, ev, q1⟩ := hh
  subst ev
  refine ⟨I1.kIn, ?_⟩
  cases r1 with
  | @cons _ v' _ us' rv rn =>
    cases rn
    have hlim := I1.nolimit
    have G1 : SX.GNow X.mg s1.heap := ⟨I1.mod.glob.keeps I1.bk, let ⟨mb, x, y⟩ := I1.mod.blt; ⟨mb, x.keeps I1.bk, y⟩⟩
    show wpAny _ _ (call (.ref C) [v']) _ _ _
    obtain ⟨hp, g, dr, tk, os⟩ := s1
    refine wpAny_call (SX.sup_made T I1.kIn G1 hlim (by have := hr.dp; omega) fun h' tk' e d M => ?_)
    show MkP X pins σ Q (.ref e) ⟨h', g, dr, tk', os⟩
    obtain ⟨oe, fv, hoe, hc, hd, hdat, h1⟩ := M.obj
    obtain ⟨G', g1, g2⟩ := restrict h' fun b => decide (b ≠ e)
    have gk : ∀ b, b ≠ e → G'.get? b = h'.get? b := fun b hb => g1 b (decide_eq_true hb)
    have ge : G'.get? e = none := g2 e (by simp)
    have J : Inv X pins σ (upd H1 d (.xd [(fl, v)])) ⟨G', g, dr, tk', os⟩ :=
      I1.laid (t' := tk') (fun b o q => (gk b (Nat.ne_of_lt (Nat.lt_of_lt_of_le (Heap.lt_size q) M.new))).trans (M.keep b o q)) M.dbig ⟨_, M.ns.at (fun o q => (gk d M.dne).trans q), fun f => relO_fl rv f⟩
    refine ⟨e, oe, fv, ⟨G', g, dr, tk', os⟩, _, .ref C, some d, rfl, J, fun b o q => ?_, ge, hoe, ⟨hc, hd⟩, hdat, h1, (upd_ne (Ne.symm M.dne)).trans (I1.hok.fresh M.new), rfl, I1.bare, raises_own T.exC T.tyC, q1 d (I1.hok.fresh M.dbig)⟩
    by_cases hb : b = e
    · rw [hb] at q
      exact absurd (ge.symm.trans q) (by simp)
    · exact (gk b hb).symm.trans q
end
end Bal
set_option autoImplicit true
set_option Elab.async false
set_option linter.all false
set_option maxRecDepth 100000
set_option maxHeartbeats 4000000
/-! W5: first_waiting, Board.__init__, follow. -/
namespace Bal
open PySem L2
theorem same_none {H H' : Hp} (s : Same H H') {p : Addr} (h : H' p = none) : H p = none := by
  cases e : H p with
  | none => rfl
  | some o => exact absurd ((s p o e).symm.trans h) (by simp)
theorem wInt_at {N : NetM} {S : BdM} {k : Nat} (h : k < N.n) : wInt N S k = (S.w k : Int) := if_pos h
section
variable {P : Program} {w : World} {K : PySem.W.Frag} {mg : Str → Option Value} {base : Heap} {CN CB CS : Addr}
def spFirst (CN CB : Addr) : Sp := fun vs H Q _ => ∃ H0 N J a b S, vs = [.ref b.p] ∧ BoardAt CN CB H0 H N J a b S ∧ N.n ≤ 4 ∧
  (∀ k, k < N.n → 0 < S.w k → (∀ j, j < k → S.w j = 0) → Q (.str (tg k)) H) ∧ (Rest N S → Q .non H)
theorem sc_Board_first_waiting : FnScope ["self", "name"] ["self"] (defScope s_Board_first_waiting) := ⟨rfl, rfl, rfl, by decide +kernel, rfl, by decide +kernel, by decide +kernel⟩
theorem ok_first {f : Addr} {fd : FuncData} (F : Fun K "first_waiting" "Board.first_waiting" s_Board_first_waiting f fd) (T : Txt K mg CN CB CS) : FnOk P w K mg base CX0 1 f fd ["self"] (spFirst CN CB) := by
  refine F.ok sc_Board_first_waiting (fun vs H Q E h => ?_) (fun cdv A outer s H vs Q E hr h => ?_)
  · obtain ⟨H0, N, J, a, b, S, rfl, _⟩ := h
    rfl
  · obtain ⟨H0, N, J, a, b, S, rfl, B, hn, k1, k2⟩ := h
    have hu := hu_of hr
    refine ⟨_, (pss_cons (ps_for PassesOwn.never rfl (pi_list (pe_fld (pe_fld (pv 0) rfl) rfl)) (pg_name (i := 1) sc_Board_first_waiting.nd rfl (by first | exact Or.inl rfl | exact Or.inr rfl))
  (pss_one (ps_if (pt_cmpR op_gt (pe_dget2 hu (pe_fld (pv 0) rfl) (pv 1) pe_int ⟨rfl, rfl, rfl, rfl⟩) pe_int (nomark _)) (pss_one (ps_ret (pv 1))) pss_nil)))
  (pss_one (ps_ret pe_non))), ?_⟩
    refine ⟨_, rfl, b.p, CB, b.dx, _, _, rfl, B.ob, T.cB, T.nBn, bdF_n, a.p, CN, a.dx, _, _, rfl, B.now.ob, T.cN, T.nNn, netF_n, a.nl, rfl, ⟨_, SqL.of B.now.nl⟩, for_it (walk_list (xs := namesV N.n)) (fun i σ H' => ∃ v, σ = [some (.ref b.p), v] ∧ H' = H ∧ ∀ j, j < i → S.w j = 0) ⟨_, rfl, rfl, fun j hj => absurd hj (Nat.not_lt_zero _)⟩ (fun i σ H' _ p => ?_) ?_ ?_⟩
    · obtain ⟨_, _, rfl, _⟩ := p
      exact SqL.of B.now.nl
    · rintro i x σ H1 _ hi ⟨v, rfl, rfl, hz⟩ ⟨rfl, hx⟩
      obtain ⟨hi2, rfl⟩ := names_at hx
      obtain ⟨isw, hI, hw⟩ := B.wa
      refine ⟨_, rfl, b.p, CB, b.dx, _, _, rfl, B.ob, T.cB, T.nBw, bdF_w, b.wd, rfl, .inl ⟨_, .inl hw⟩, _, rfl, _, dget_tkv hw (by omega) hI.lt, ?_⟩
      rw [iget hI, wInt_at hi2]
      refine ⟨_, _, rfl, rfl, _, rfl, ?_⟩
      refine ite2 (fun c => ?_) (fun c => ?_)
      · exact ⟨_, rfl, k1 i hi2 (by have := of_decide_eq_true c; omega) hz⟩
      · refine ⟨_, rfl, rfl, fun j hj => ?_⟩
        by_cases e : j = i
        · subst e
          have : ¬ (0 : Int) < (S.w j : Int) := fun z => c (decide_eq_true z)
          omega
        · exact hz j (by omega)
    · rintro σ H1 ⟨v, rfl, rfl, hz⟩
      rw [names_len] at hz
      exact k2 fun i hi => hz i hi
/-! ### a board, made -/
def spBoard (CN CB : Addr) : Sp := fun vs H Q _ => ∃ H0 N J a x dx sd wd pl is, ∃ wt : Nat → Nat, vs = [.ref x, .ref a.p, .ref sd, .ref wd] ∧ NetAt CN H0 N J a ∧ Same H0 H ∧ H0 x = none ∧ N.n ≤ 4 ∧ H x = some (.ins CB dx []) ∧
  H0 sd = some (.dK (ikv (List.range N.n) fun i => (pl i : Int))) ∧ IntI is (wInt N ⟨wt, fun _ => 0, fun _ => 0, pl⟩) ∧ H0 wd = some (.dK (ikv is (wInt N ⟨wt, fun _ => 0, fun _ => 0, pl⟩))) ∧
  ∀ b H', b.p = x → BoardAt CN CB H0 H' N J a b ⟨wt, fun _ => 0, fun _ => 0, pl⟩ → Q .non H'
theorem sc_Board_init : FnScope ["self", "net", "standing", "waiting", "name"] ["self", "net", "standing", "waiting"] (defScope s_Board_init) := ⟨rfl, rfl, rfl, by decide +kernel, rfl, by decide +kernel, by decide +kernel⟩
theorem ok_board {f : Addr} {fd : FuncData} (F : Fun K "__init__" "Board.__init__" s_Board_init f fd) (T : Txt K mg CN CB CS) : FnOk P w K mg base CX0 1 f fd ["self", "net", "standing", "waiting"] (spBoard CN CB) := by
  refine F.ok sc_Board_init (fun vs H Q E h => ?_) (fun cdv A outer s H vs Q E hr h => ?_)
  · obtain ⟨H0, N, J, a, x, dx, sd, wd, pl, is, wt, rfl, _⟩ := h
    rfl
  · obtain ⟨H0, N, J, a, x, dx, sd, wd, pl, is, wt, rfl, A0, s0, x0, hn, hx, hsd, hI, hwd, kq⟩ := h
    have hu := hu_of hr
    refine ⟨_, (pss_cons (ps_fld (pv 0) (pv 1) rfl)
  (pss_cons (ps_fld (pv 0) (pe_dc (own := [("name", 4)]) rfl sc_Board_init.nd (pi_list (pe_fld (pv 1) rfl)) (blkOk_by (by kernel_rfl)) (fun _ _ _ _ _ => (pg_name (i := 4) sc_Board_init.nd rfl (by first | exact Or.inl rfl | exact Or.inr rfl))) (fun _ _ _ _ _ => pts_nil) (fun _ _ _ _ _ => (pv 4)) (fun _ _ _ _ _ => (by exact (pe_dget hu (pv 2) (pv 4) (fun _ _ => rfl))))) rfl)
  (pss_cons (ps_fld (pv 0) (pe_callTy call_dictD (by rfl) T.dict (by decide +kernel) (pa_cons (pv 3) pa_nil)) rfl)
  (pss_cons (ps_fld (pv 0) (pe_dc (own := [("name", 4)]) rfl sc_Board_init.nd (pi_tup (pe_fld (pv 1) rfl)) (blkOk_by (by kernel_rfl)) (fun _ _ _ _ _ => (pg_name (i := 4) sc_Board_init.nd rfl (by first | exact Or.inl rfl | exact Or.inr rfl))) (fun _ _ _ _ _ => pts_nil) (fun _ _ _ _ _ => (pv 4)) (fun _ _ _ _ _ => pe_int)) rfl)
  (pss_one (ps_fld (pv 0) (pe_dc (own := [("name", 4)]) rfl sc_Board_init.nd (pi_list (pe_fld (pv 1) rfl)) (blkOk_by (by kernel_rfl)) (fun _ _ _ _ _ => (pg_name (i := 4) sc_Board_init.nd rfl (by first | exact Or.inl rfl | exact Or.inr rfl))) (fun _ _ _ _ _ => pts_nil) (fun _ _ _ _ _ => (pv 4)) (fun _ _ _ _ _ => pe_int)) rfl)))))), ?_⟩
    -- self.net
    refine ⟨_, rfl, _, rfl, x, CB, dx, _, rfl, hx, T.cB, T.nBn, (by decide), ?_⟩
    obtain ⟨H1, e1⟩ : ∃ H1, H1 = upd H x (.ins CB dx [("net", .ref a.p)]) := ⟨_, rfl⟩
    have s1 : Same H0 H1 := by rw [e1]; exact same_out s0 x0
    have hx1 : H1 x = some (.ins CB dx [("net", .ref a.p)]) := by rw [e1, upd_same]
    show tSeq _ _ _ _ (upd H x (.ins CB dx [("net", .ref a.p)]))
    rw [← e1]
    clear e1 hx
    have A1 := A0.same s1
    -- self.standing
    refine ⟨_, rfl, a.p, CN, a.dx, _, _, rfl, A1.ob, T.cN, T.nNn, netF_n, ?_⟩
    refine ⟨_, rfl, ⟨_, SqL.of A1.nl⟩, fun D1 hD1 => dc_it (walk_list (xs := namesV N.n)) (fun i H' => H' = upd H1 D1 (.dK (ikv (List.range i) fun i => (pl i : Int)))) rfl (fun i H' _ p => by rw [p]; exact SqL.of ((same_upd0 hD1) _ _ A1.nl)) ?_ ?_⟩
    · rintro i x2 H2 _ hi rfl ⟨rfl, hx2⟩
      rw [names_len] at hi
      obtain ⟨_, rfl⟩ := names_at hx2
      refine ⟨rfl, ?_⟩
      refine ⟨_, rfl, _, rfl, _, rfl, sd, _, rfl, ikv_in ((same_upd0 hD1) _ _ (s1 _ _ hsd)) (List.mem_range.mpr hi) (rng_lt hn), _, Sum.inr (tg i), rfl, upd_same, by rw [ikv, tkv_len, List.length_range]; exact small1000 (by omega), ?_⟩
      rw [upd_upd, ikv, tkv_put (by omega) (rng_lt (n := i) (by omega))]
      exact congrArg (fun q => upd H1 D1 (.dK q)) (rng_succ (fun i => V.int (pl i : Int)) i)
    rintro H2 rfl
    rw [names_len]
    have nx1 : x ≠ D1 := by rintro rfl; rw [hD1] at hx1; cases hx1
    refine ⟨_, rfl, x, CB, dx, _, rfl, (upd_ne nx1).trans hx1, T.cB, T.nBs, (by show 1 < 1000; decide), ?_⟩
    obtain ⟨H3, e3⟩ : ∃ H3, H3 = upd (upd H1 D1 (.dK (ikv (List.range N.n) fun i => (pl i : Int)))) x (.ins CB dx [("net", .ref a.p), ("standing", .ref D1)]) := ⟨_, rfl⟩
    have z1 : H0 D1 = none := same_none s1 hD1
    have s3 : Same H0 H3 := by rw [e3]; exact same_out (same_out s1 z1) x0
    have hx3 : H3 x = some (.ins CB dx [("net", .ref a.p), ("standing", .ref D1)]) := by rw [e3, upd_same]
    have hs3 : H3 D1 = some (.dK (ikv (List.range N.n) fun i => (pl i : Int))) := by rw [e3, upd_ne (Ne.symm nx1), upd_same]
    show tSeq _ _ _ _ (upd (upd H1 D1 (.dK (ikv (List.range N.n) fun i => (pl i : Int)))) x (.ins CB dx [("net", .ref a.p), ("standing", .ref D1)]))
    rw [← e3]
    clear e3 hx1 hD1
    -- self.waiting
    refine ⟨_, rfl, wd, _, rfl, .inl (s3 _ _ hwd), fun D2 hD2 => ?_⟩
    have nx2 : x ≠ D2 := by rintro rfl; rw [hD2] at hx3; cases hx3
    have n12 : D1 ≠ D2 := by rintro rfl; rw [hD2] at hs3; cases hs3
    have z2 : H0 D2 = none := same_none s3 hD2
    refine ⟨_, rfl, x, CB, dx, _, rfl, (upd_ne nx2).trans hx3, T.cB, T.nBw, (by show 2 < 1000; decide), ?_⟩
    obtain ⟨H4, e4⟩ : ∃ H4, H4 = upd (upd H3 D2 (.dK (ikv is (wInt N ⟨wt, fun _ => 0, fun _ => 0, pl⟩)))) x (.ins CB dx [("net", .ref a.p), ("standing", .ref D1), ("waiting", .ref D2)]) := ⟨_, rfl⟩
    have s4 : Same H0 H4 := by rw [e4]; exact same_out (same_out s3 z2) x0
    have hx4 : H4 x = some (.ins CB dx [("net", .ref a.p), ("standing", .ref D1), ("waiting", .ref D2)]) := by rw [e4, upd_same]
    have hs4 : H4 D1 = some (.dK (ikv (List.range N.n) fun i => (pl i : Int))) := by rw [e4, upd_ne (Ne.symm nx1), upd_ne n12]; exact hs3
    have hw4 : H4 D2 = some (.dK (ikv is (wInt N ⟨wt, fun _ => 0, fun _ => 0, pl⟩))) := by rw [e4, upd_ne (Ne.symm nx2), upd_same]
    show tSeq _ _ _ _ (upd (upd H3 D2 (.dK (ikv is (wInt N ⟨wt, fun _ => 0, fun _ => 0, pl⟩)))) x (.ins CB dx [("net", .ref a.p), ("standing", .ref D1), ("waiting", .ref D2)]))
    rw [← e4]
    clear e4 hx3 hD2
    have A4 := A0.same s4
    -- self.out
    refine ⟨_, rfl, a.p, CN, a.dx, _, _, rfl, A4.ob, T.cN, T.nNo, netF_o, ?_⟩
    refine ⟨_, rfl, ⟨_, SqT.of A4.ot⟩, fun D3 hD3 => dc_it (walk_tup (xs := [.str (tg 4), .str (tg 5)])) (fun i H' => H' = upd H4 D3 (.dK (ikv ([4, 5].take i) fun _ => 0))) rfl (fun i H' _ p => by rw [p]; exact SqT.of ((same_upd0 hD3) _ _ A4.ot)) ?_ ?_⟩
    · rintro i x2 H2 _ hi rfl ⟨rfl, hx2⟩
      refine ⟨rfl, ?_⟩
      match i, hi with
      | 0, _ =>
        cases hx2
        refine ⟨_, rfl, _, Sum.inr (tg 4), rfl, upd_same, by simp [ikv, tkv]; exact small1000 (by decide), ?_⟩
        rw [upd_upd]
        rfl
      | 1, _ =>
        cases hx2
        refine ⟨_, rfl, _, Sum.inr (tg 5), rfl, upd_same, by simp [ikv, tkv]; exact small1000 (by decide), ?_⟩
        rw [upd_upd]
        rfl
    intro H2 eH2
    have eH2 : H2 = upd H4 D3 (.dK (ikv [4, 5] fun _ => 0)) := eH2
    subst eH2
    have nx3 : x ≠ D3 := by rintro rfl; rw [hD3] at hx4; cases hx4
    have n13 : D1 ≠ D3 := by rintro rfl; rw [hD3] at hs4; cases hs4
    have n23 : D2 ≠ D3 := by rintro rfl; rw [hD3] at hw4; cases hw4
    have z3 : H0 D3 = none := same_none s4 hD3
    refine ⟨_, rfl, x, CB, dx, _, rfl, (upd_ne nx3).trans hx4, T.cB, T.nBo, (by show 3 < 1000; decide), ?_⟩
    obtain ⟨H5, e5⟩ : ∃ H5, H5 = upd (upd H4 D3 (.dK (ikv [4, 5] fun _ => 0))) x (.ins CB dx [("net", .ref a.p), ("standing", .ref D1), ("waiting", .ref D2), ("out", .ref D3)]) := ⟨_, rfl⟩
    have s5 : Same H0 H5 := by rw [e5]; exact same_out (same_out s4 z3) x0
    have hx5 : H5 x = some (.ins CB dx [("net", .ref a.p), ("standing", .ref D1), ("waiting", .ref D2), ("out", .ref D3)]) := by rw [e5, upd_same]
    have hs5 : H5 D1 = some (.dK (ikv (List.range N.n) fun i => (pl i : Int))) := by rw [e5, upd_ne (Ne.symm nx1), upd_ne n13]; exact hs4
    have hw5 : H5 D2 = some (.dK (ikv is (wInt N ⟨wt, fun _ => 0, fun _ => 0, pl⟩))) := by rw [e5, upd_ne (Ne.symm nx2), upd_ne n23]; exact hw4
    have ho5 : H5 D3 = some (.dK (ikv [4, 5] fun _ => 0)) := by rw [e5, upd_ne (Ne.symm nx3), upd_same]
    subst e5
    have A5 := A0.same s5
    -- self.taken
    refine ⟨_, rfl, a.p, CN, a.dx, _, _, rfl, A5.ob, T.cN, T.nNn, netF_n, ?_⟩
    refine ⟨_, rfl, ⟨_, SqL.of A5.nl⟩, fun D4 hD4 => dc_it (walk_list (xs := namesV N.n)) (fun i H' => H' = upd (upd (upd H4 D3 (.dK (ikv [4, 5] fun _ => 0))) x (.ins CB dx [("net", .ref a.p), ("standing", .ref D1), ("waiting", .ref D2), ("out", .ref D3)])) D4 (.dK (ikv (List.range i) fun i => 0))) rfl (fun i H' _ p => by rw [p]; exact SqL.of ((same_upd0 hD4) _ _ A5.nl)) ?_ ?_⟩
    · rintro i x2 H2 _ hi rfl ⟨rfl, hx2⟩
      rw [names_len] at hi
      obtain ⟨_, rfl⟩ := names_at hx2
      refine ⟨rfl, ?_⟩
      refine ⟨_, rfl, _, Sum.inr (tg i), rfl, upd_same, by rw [ikv, tkv_len, List.length_range]; exact small1000 (by omega), ?_⟩
      rw [upd_upd, ikv, tkv_put (by omega) (rng_lt (n := i) (by omega))]
      exact congrArg (fun q => upd _ D4 (.dK q)) (rng_succ (fun i => V.int 0) i)
    rintro H2 rfl
    rw [names_len]
    have nx4 : x ≠ D4 := ne_of_none hx5 hD4
    have n14 : D1 ≠ D4 := ne_of_none hs5 hD4
    have n24 : D2 ≠ D4 := ne_of_none hw5 hD4
    have n34 : D3 ≠ D4 := ne_of_none ho5 hD4
    have z4 : H0 D4 = none := same_none s5 hD4
    refine ⟨_, rfl, x, CB, dx, _, rfl, (upd_ne nx4).trans hx5, T.cB, T.nBt, (by show 4 < 1000; decide), ?_⟩
    refine kq ⟨x, dx, D1, D2, D3, D4⟩ _ rfl { net := A0, same := same_out (same_out s5 z4) x0, n1 := z1, n2 := z2, n3 := z3, n4 := z4, ob := upd_same, st := ?_, wa := ⟨is, hI, ?_⟩, ou := ?_, ta := ?_, d1 := n12, d2 := n13, d3 := n14, d4 := n23, d5 := n24, d6 := n34 }
    · rw [upd_ne (Ne.symm nx1), upd_ne n14]; exact hs5
    · rw [upd_ne (Ne.symm nx2), upd_ne n24]; exact hw5
    · rw [upd_ne (Ne.symm nx3), upd_ne n34]; exact ho5
    · rw [upd_ne (Ne.symm nx4), upd_same]; rfl
end
end Bal
set_option autoImplicit true
set_option Elab.async false
set_option linter.all false
set_option maxRecDepth 100000
set_option maxHeartbeats 4000000
/-! W6: follow. -/
namespace Bal
open PySem L2
/-- things of known built-in types -/
inductive Thing (H : Hp) : V → String → Prop where
  | non : Thing H .non "NoneType"
  | bl (b : Bool) : Thing H (.bl b) "bool"
  | int (i : Int) : Thing H (.int i) "int"
  | str (s : Str) : Thing H (.str s) "str"
  | lst {a : Addr} {xs : List V} (e : H a = some (.lst xs)) : Thing H (.ref a) "list"
  | tup {a : Addr} {xs : List V} (e : H a = some (.tup xs)) : Thing H (.ref a) "tuple"
  | dK {a : Addr} {kvs : List (Key × V)} (e : H a = some (.dK kvs)) : Thing H (.ref a) "dict"
theorem Thing.ty {K : PySem.W.Frag} {H : Hp} {x : V} {n : String} (t : Thing H x n) : TyX K H x (.type n) := by
  cases t with
  | non => exact .base .non
  | bl b => exact .base (.bl b)
  | int i => exact .base (.int i)
  | str s => exact .base (.str s)
  | lst e => exact .base (.lst e)
  | tup e => exact .base (.tup e)
  | dK e => exact .base (.dK e)
theorem Thing.same {H H' : Hp} (s : Same H H') {x : V} {n : String} (t : Thing H x n) : Thing H' x n := by
  cases t with
  | non => exact .non
  | bl b => exact .bl b
  | int i => exact .int i
  | str s => exact .str s
  | lst e => exact .lst (s _ _ e)
  | tup e => exact .tup (s _ _ e)
  | dK e => exact .dK (s _ _ e)
theorem Thing.kit {K : PySem.W.Frag} {H : Hp} {x : V} {n : String} (t : Thing H x n) : PySem.W.kitOne K (.type n) (.type "list") = some (n == "list") ∧ PySem.W.kitOne K (.type n) (.type "tuple") = some (n == "tuple") ∧ PySem.W.kitOne K (.type n) (.type "dict") = some (n == "dict") ∧
    PySem.W.kitOne K (.type n) (.type "str") = some (n == "str") := by
  cases t <;> exact ⟨kit_ty (by decide +kernel), kit_ty (by decide +kernel), kit_ty (by decide +kernel), kit_ty (by decide +kernel)⟩
theorem Thing.kit2 {K : PySem.W.Frag} {H : Hp} {x : V} {n : String} (t : Thing H x n) : PySem.W.kitAny K (.type n) [.type "list", .type "tuple"] = some (n == "list" || n == "tuple") := by
  obtain ⟨k1, k2, _⟩ := t.kit (K := K)
  refine kitAny_cons k1 (fun c => ?_) fun c => by rw [c]; rfl
  refine kitAny_cons k2 (fun c2 => ?_) fun c2 => by rw [c2]; cases n == "list" <;> rfl
  rw [c, c2]
  exact kitAny_nil
/-- a step of an order: some knot and number, or what is no step -/
inductive Stp (H : Hp) (N : NetM) : V → Option (Nat × Nat) → Prop where
  | good {a : Addr} {k m : Nat} (e : H a = some (.tup [.str (tg k), .int (m : Int)])) (hk : k < N.n) (hm : 1 ≤ m) : Stp H N (.ref a) (some (k, m))
  | non : Stp H N .non none
  | lst {a : Addr} {xs : List V} (e : H a = some (.lst xs)) : Stp H N (.ref a) none
  | len {a : Addr} {xs : List V} (e : H a = some (.tup xs)) (hl : xs.length ≠ 2) : Stp H N (.ref a) none
  | num {a : Addr} {c d : V} (e : H a = some (.tup [c, d])) (hd : plain4 d) (hn : ∀ z, d = .int z → z < 1) : Stp H N (.ref a) none
  | out {a : Addr} {z : Str} {m : Int} (e : H a = some (.tup [.str z, .int m])) (hm : 1 ≤ m) (hz : ∀ i, i < N.n → tg i ≠ z) : Stp H N (.ref a) none
theorem tkv_not2 {v : Nat → V} {x : Str} : ∀ {is : List Nat}, (∀ i ∈ is, tg i ≠ x) → valV (tkv is v) (Sum.inr x : Key) = none
  | [], _ => rfl
  | i :: r, h => by
    show valV ((Sum.inr (tg i), v i) :: tkv r v) _ = _
    rw [valV_neg fun e => h i (List.mem_cons_self ..) (Sum.inr.inj e), tkv_not2 fun j hj => h j (List.mem_cons_of_mem _ hj)]
theorem dget_out {H : Hp} {d : Addr} {is : List Nat} {v : Nat → V} {x : Str} (h : H d = some (.dK (tkv is v))) (hx : ∀ i ∈ is, tg i ≠ x) : DGet H d (.str x) none := by
  have q := DGet.k (k := Sum.inr x) h
  rw [tkv_not2 hx] at q
  exact q
def fol (N : NetM) : BdM → List (Option (Nat × Nat)) → Nat → BdM × Option Nat
  | S, [], _ => (S, none)
  | S, none :: _, i => (S, some i)
  | S, some (k, m) :: r, i => if S.w k < m then (S, some i) else fol N (take N S k m) r (i + 1)
theorem SameX.keepT {H H' : Hp} {b : BdA} {CN CB : Addr} {H0 : Hp} {N : NetM} {J : Nat} {a : NetA} {S : BdM} (h : SameX H H' b) (B : BoardAt CN CB H0 H N J a b S) {p : Addr} {o : HO} (e : H p = some o) (hd : ∀ kvs, o ≠ .dK kvs) : H' p = some o := by
  obtain ⟨isw, _, hw⟩ := B.wa
  refine h p o e ?_ ?_ ?_ ?_
  · rintro rfl; rw [B.st] at e; cases e; exact hd _ rfl
  · rintro rfl; rw [hw] at e; cases e; exact hd _ rfl
  · rintro rfl; rw [B.ou] at e; cases e; exact hd _ rfl
  · rintro rfl; rw [B.ta] at e; cases e; exact hd _ rfl
theorem SameX.same {H H' H'' : Hp} {b : BdA} (h : SameX H H' b) (s : Same H' H'') : SameX H H'' b := fun p o e a1 a2 a3 a4 => s _ _ (h p o e a1 a2 a3 a4)
section
variable {P : Program} {w : World} {K : PySem.W.Frag} {mg : Str → Option Value} {base : Heap} {CN CB CS CO fO : Addr}
def spFollow (CN CB CO : Addr) : Sp := fun vs H Q E => ∃ H0 N J a b S x, vs = [.ref b.p, x] ∧ BoardAt CN CB H0 H N J a b S ∧ N.Good ∧ Placed N S ∧
  ((∃ n, Thing H x n ∧ n ≠ "list" ∧ n ≠ "tuple" ∧ ∀ H', Same H H' → ∀ d, H' d = none → E (.ref CO) (some d) (upd H' d (.xd [("place", .non)]))) ∨
   ∃ l xs os, x = .ref l ∧ H l = some (.lst xs) ∧ Paired (Stp H N) xs os ∧
    (∀ H' S', fol N S os 0 = (S', none) → BoardAt CN CB H0 H' N J a b S' → SameX H H' b → Q .non H') ∧
    ∀ H' S' i d, fol N S os 0 = (S', some i) → BoardAt CN CB H0 H' N J a b S' → SameX H H' b → H' d = none → E (.ref CO) (some d) (upd H' d (.xd [("place", .int (i : Nat))])))
theorem sc_Board_follow : FnScope ["self", "order", "place", "step"] ["self", "order"] (defScope s_Board_follow) := ⟨rfl, rfl, rfl, by decide +kernel, rfl, by decide +kernel, by decide +kernel⟩
theorem ok_follow {f : Addr} {fd : FuncData} (F : Fun K "follow" "Board.follow" s_Board_follow f fd) (T : Txt K mg CN CB CS) (XBadOrder : SX.SupTxt P K mg "BadOrder" "place" "not such an order" CO fO)
    (G_take : MtG P w K mg base CX0 3 CB "take" (spTake CN CB) []) (G_is_number : FnG P w K mg base CX0 1 "is_number" spNum []) : FnOk P w K mg base (L2.CX P w) 4 f fd ["self", "order"] (spFollow CN CB CO) := by
  refine F.okX sc_Board_follow (fun vs H Q E h => ?_) (fun cdv A outer s H vs Q E hr h => ?_)
  · obtain ⟨H0, N, J, a, b, S, x, rfl, _⟩ := h
    rfl
  · obtain ⟨H0, N, J, a, b, S, x, rfl, B, G, pS, h⟩ := h
    have hu := hu_of hr
    refine ⟨_, (pss_cons (ps_if (pt_not (pt_val (pe_callB call_isiT (by rfl) T.isinstance (by decide +kernel) (pa_cons (pv 1) (pa_cons (pe_tup (pa_cons (pe_bltn (v := .ty "list") (by rfl) T.list (by decide +kernel) rfl) (pa_cons (pe_bltn (v := .ty "tuple") (by rfl) T.tuple (by decide +kernel) rfl) pa_nil))) pa_nil))))) (pss_one (ps_raise rfl (takes_of rfl rfl rfl rfl) (pmk_sup XBadOrder hr (by decide) (pa_cons pe_non pa_nil)))) pss_nil)
  (pss_one (ps_for (passes_of rfl) rfl (pi_enum (by rfl) T.enumerate (pa_cons (pv 1) pa_nil)) (pg_tup rfl (pgs_cons (pg_name (i := 2) sc_Board_follow.nd rfl (by first | exact Or.inl rfl | exact Or.inr rfl)) (pgs_cons (pg_name (i := 3) sc_Board_follow.nd rfl (by first | exact Or.inl rfl | exact Or.inr rfl)) pgs_nil)))
  (pss_cons (ps_if (PW.pt (pw_or (pt_not (pt_val (pe_callB call_isi (by rfl) T.isinstance (by decide +kernel) (pa_cons (pv 3) (pa_cons (pe_bltn (v := .ty "tuple") (by rfl) T.tuple (by decide +kernel) rfl) pa_nil))))) (pw_or (pt_cmpR op_ne (pe_callB call_len_seq (by rfl) T.len (by decide +kernel) (pa_cons (pv 3) pa_nil)) pe_int (nomark _)) (pw_or (pt_not (pt_val (pe_f G_is_number hr (by decide) (by rfl) pass0 (pa_cons (pe_ix ix_tup (pv 3) pe_int (fun _ _ => rfl)) pa_nil)))) (pw_or1 (pt_cmpR op_lt (pe_ix ix_tup (pv 3) pe_int (fun _ _ => rfl)) pe_int (nomark _))))))) (pss_one (ps_raise rfl (takes_of rfl rfl rfl rfl) (pmk_sup XBadOrder hr (by decide) (pa_cons (pv 2) pa_nil)))) pss_nil)
  (pss_cons (ps_if (PW.pt (pw_or (pt_not (pt_val (pe_callB call_isi (by rfl) T.isinstance (by decide +kernel) (pa_cons (pe_ix ix_tup (pv 3) pe_int (fun _ _ => rfl)) (pa_cons (pe_bltn (v := .ty "str") (by rfl) T.str (by decide +kernel) rfl) pa_nil))))) (pw_or1 (pt_cmp (pc_dnotin hu (pe_ix ix_tup (pv 3) pe_int (fun _ _ => rfl)) (pe_fld (pe_fld (pv 0) rfl) rfl)))))) (pss_one (ps_raise rfl (takes_of rfl rfl rfl rfl) (pmk_sup XBadOrder hr (by decide) (pa_cons (pv 2) pa_nil)))) pss_nil)
  (pss_cons (ps_if (pt_cmpR op_lt (pe_dget2 hu (pe_fld (pv 0) rfl) (pe_ix ix_tup (pv 3) pe_int (fun _ _ => rfl)) pe_int ⟨rfl, rfl, rfl, rfl⟩) (pe_ix ix_tup (pv 3) pe_int (fun _ _ => rfl)) (nomark _)) (pss_one (ps_raise rfl (takes_of rfl rfl rfl rfl) (pmk_sup XBadOrder hr (by decide) (pa_cons (pv 2) pa_nil)))) pss_nil)
  (pss_one (ps_expr (pe_m G_take hr (by decide) pass0 (pv 0) (pa_cons (pe_ix ix_tup (pv 3) pe_int (fun _ _ => rfl)) (pa_cons (pe_ix ix_tup (pv 3) pe_int (fun _ _ => rfl)) pa_nil))))))))))), ?_⟩
    refine ⟨_, rfl, (by show 2 ≤ sizeLine; decide), fun p hp => ?_⟩
    have s1 := same_upd0 (o := .tup [.ty "list", .ty "tuple"]) hp
    rcases h with ⟨n, t, n1, n2, kE⟩ | ⟨l, xs, os, rfl, hl, hos, kq, kE⟩
    · have q := t.kit2 (K := K)
      have hb : (n == "list" || n == "tuple") = false := by simp [n1, n2]
      rw [hb] at q
      refine ⟨x, p, _, _, _, _, rfl, upd_same, .cons (.ty _) (.cons (.ty _) .nil), (t.same s1).ty, q, _, rfl, ?_⟩
      exact ⟨_, rfl, fun d hd => kE _ s1 d hd⟩
    · have t : Thing H (.ref l) "list" := .lst hl
      refine ⟨_, p, _, _, _, _, rfl, upd_same, .cons (.ty _) (.cons (.ty _) .nil), (t.same s1).ty, t.kit2 (K := K), _, rfl, ?_⟩
      have hol := hos.length
      refine ⟨_, rfl, l, xs, rfl, SqL.of (s1 _ _ hl), for_it (walk_enum (xs := xs)) (fun i σ H' => ∃ v2 v3 S', σ = [some (.ref b.p), some (.ref l), v2, v3] ∧ fol N S os 0 = fol N S' (os.drop i) i ∧ Placed N S' ∧ BoardAt CN CB H0 H' N J a b S' ∧ SameX H H' b)
        ⟨_, _, S, rfl, rfl, pS, B.keep s1, fun p o e _ _ _ _ => s1 _ _ e⟩ (fun i σ H' _ p => ?_) ?_ ?_⟩
      · obtain ⟨_, _, _, _, _, _, B', sx⟩ := p
        exact SqL.of (sx.keepT B hl (by intro _ z; cases z))
      · rintro i x σ H1 H2 hi ⟨v2, v3, S', rfl, ef, pS', B1, sx1⟩ ⟨T9, x1, x2, rfl, hT, rfl, hx1, hx2⟩
        cases hx1
        have s2 := same_upd0 (o := .tup [.int (i : Nat), x2]) hT
        have B2 := B1.keep s2
        have sx2 := sx1.same s2
        obtain ⟨o, ho, hs⟩ := paired_at hos hx2
        have hdrop : os.drop i = o :: os.drop (i + 1) := by
          obtain ⟨hlt, e⟩ := List.getElem?_eq_some_iff.mp ho
          rw [List.drop_eq_getElem_cons hlt, e]
        rw [hdrop] at ef
        refine ⟨T9, _, rfl, SqT.of upd_same, rfl, _, _, rfl, _, _, rfl, rfl, ?_⟩
        have fail : o = none → ∀ H' d, SameX H H' b → BoardAt CN CB H0 H' N J a b S' → H' d = none → E (.ref CO) (some d) (upd H' d (.xd [("place", .int (i : Nat))])) := fun e H' d sx' B' hd => by
          rw [e] at ef
          exact kE H' S' i d ef B' sx' hd
        cases hs with
        | non =>
          obtain ⟨_, k2, _⟩ := (Thing.non (H := H)).kit (K := K)
          refine ⟨_, rfl, _, _, _, _, _, rfl, .ty _, .base .non, k2, _, rfl, ?_⟩
          exact iteT (iteT ⟨_, rfl, _, rfl, fun d hd => fail rfl _ d sx2 B2 hd⟩)
        | lst e =>
          have t := Thing.lst (sx2.keepT B e (by intro _ z; cases z))
          obtain ⟨_, k2, _⟩ := t.kit (K := K)
          refine ⟨_, rfl, _, _, _, _, _, rfl, .ty _, t.ty, k2, _, rfl, ?_⟩
          exact iteT (iteT ⟨_, rfl, _, rfl, fun d hd => fail rfl _ d sx2 B2 hd⟩)
        | @len a2 xs2 e hl2 =>
          have e2 := sx2.keepT B e (by intro _ z; cases z)
          have t := Thing.tup e2
          obtain ⟨_, k2, _⟩ := t.kit (K := K)
          refine ⟨_, rfl, _, _, _, _, _, rfl, .ty _, t.ty, k2, _, rfl, ?_⟩
          refine iteF ⟨_, rfl, _, _, rfl, .inr (SqT.of e2), rfl, _, rfl, ?_⟩
          refine ite2 (fun c => iteT ⟨_, rfl, _, rfl, fun d hd => fail rfl _ d sx2 B2 hd⟩) (fun c => ?_)
          refine absurd ?_ c
          have : ¬ V.int (xs2.length : Int) = V.int 2 := fun z => hl2 (by injection z with z; omega)
          rw [decide_eq_false this]
          rfl
        | @num a2 c2 d2 e hd hn =>
          have e2 := sx2.keepT B e (by intro _ z; cases z)
          have t := Thing.tup e2
          obtain ⟨_, k2, _⟩ := t.kit (K := K)
          refine ⟨_, rfl, _, _, _, _, _, rfl, .ty _, t.ty, k2, _, rfl, ?_⟩
          refine iteF ⟨_, rfl, _, _, rfl, .inr (SqT.of e2), rfl, _, rfl, ?_⟩
          refine iteF ⟨_, rfl, _, _, 1, _, rfl, rfl, SqT.of e2, rfl, _, rfl, hd, _, rfl, ?_⟩
          cases d2 with
          | int z =>
            refine iteF ⟨_, rfl, _, _, 1, _, rfl, rfl, SqT.of e2, rfl, _, _, rfl, rfl, _, rfl, ?_⟩
            have hz := hn z rfl
            exact ite2 (fun c => ⟨_, rfl, _, rfl, fun d hd => fail rfl _ d sx2 B2 hd⟩) (fun c => absurd (decide_eq_true hz) c)
          | non => exact iteT (iteT ⟨_, rfl, _, rfl, fun d hd => fail rfl _ d sx2 B2 hd⟩)
          | bl _ => exact iteT (iteT ⟨_, rfl, _, rfl, fun d hd => fail rfl _ d sx2 B2 hd⟩)
          | str _ => exact iteT (iteT ⟨_, rfl, _, rfl, fun d hd => fail rfl _ d sx2 B2 hd⟩)
          | _ => exact hd.elim
        | @out a2 z m e hm hz =>
          have e2 := sx2.keepT B e (by intro _ z; cases z)
          have t := Thing.tup e2
          obtain ⟨_, k2, _⟩ := t.kit (K := K)
          refine ⟨_, rfl, _, _, _, _, _, rfl, .ty _, t.ty, k2, _, rfl, ?_⟩
          refine iteF ⟨_, rfl, _, _, rfl, .inr (SqT.of e2), rfl, _, rfl, ?_⟩
          refine iteF ⟨_, rfl, _, _, 1, _, rfl, rfl, SqT.of e2, rfl, _, rfl, trivial, _, rfl, ?_⟩
          refine iteF ⟨_, rfl, _, _, 1, _, rfl, rfl, SqT.of e2, rfl, _, _, rfl, rfl, _, rfl, ?_⟩
          refine ite2 (fun c => absurd (of_decide_eq_true c) (by omega)) (fun _ => ?_)
          have ts : Thing H (.str z) "str" := .str z
          refine ⟨_, rfl, _, _, 0, _, rfl, rfl, SqT.of e2, rfl, _, _, _, _, _, rfl, .ty _, .base (.str z), (ts.kit (K := K)).2.2.2, _, rfl, ?_⟩
          refine iteF ⟨_, rfl, a2, _, 0, _, rfl, rfl, SqT.of e2, rfl, _, rfl, b.p, CB, b.dx, _, _, rfl, B2.ob, T.cB, T.nBn, bdF_n, a.p, CN, a.dx, _, _, rfl, B2.now.ob, T.cN, T.nNk, netF_k, a.kd, _, rfl, dget_out B2.now.kn.dc (fun i hi => hz i (List.mem_range.mp hi)), _, rfl, ?_⟩
          exact iteT ⟨_, rfl, _, rfl, fun d hd => fail rfl _ d sx2 B2 hd⟩
        | @good a2 k m e hk hm =>
          have e2 := sx2.keepT B e (by intro _ z; cases z)
          have t := Thing.tup e2
          obtain ⟨_, k2, _⟩ := t.kit (K := K)
          have hk6 : k < 6 := by have := G.n4; omega
          refine ⟨_, rfl, _, _, _, _, _, rfl, .ty _, t.ty, k2, _, rfl, ?_⟩
          refine iteF ⟨_, rfl, _, _, rfl, .inr (SqT.of e2), rfl, _, rfl, ?_⟩
          refine iteF ⟨_, rfl, _, _, 1, _, rfl, rfl, SqT.of e2, rfl, _, rfl, trivial, _, rfl, ?_⟩
          refine iteF ⟨_, rfl, _, _, 1, _, rfl, rfl, SqT.of e2, rfl, _, _, rfl, rfl, _, rfl, ?_⟩
          refine ite2 (fun c => absurd (of_decide_eq_true c) (by omega)) (fun _ => ?_)
          have ts : Thing H (.str (tg k)) "str" := .str _
          refine ⟨_, rfl, _, _, 0, _, rfl, rfl, SqT.of e2, rfl, _, _, _, _, _, rfl, .ty _, .base (.str _), (ts.kit (K := K)).2.2.2, _, rfl, ?_⟩
          refine iteF ⟨_, rfl, a2, _, 0, _, rfl, rfl, SqT.of e2, rfl, _, rfl, b.p, CB, b.dx, _, _, rfl, B2.ob, T.cB, T.nBn, bdF_n, a.p, CN, a.dx, _, _, rfl, B2.now.ob, T.cN, T.nNk, netF_k, a.kd, _, rfl, dget_in B2.now.kn.dc (List.mem_range.mpr hk) (rng_lt G.n4), _, rfl, ?_⟩
          refine iteF ?_
          obtain ⟨isw, hI, hw⟩ := B2.wa
          refine ⟨_, rfl, b.p, CB, b.dx, _, _, rfl, B2.ob, T.cB, T.nBw, bdF_w, b.wd, rfl, .inl ⟨_, .inl hw⟩, _, rfl, a2, _, 0, _, rfl, rfl, SqT.of e2, rfl, _, dget_tkv hw hk6 hI.lt, ?_⟩
          rw [iget hI, wInt_at hk]
          refine ⟨_, rfl, a2, _, 1, _, rfl, rfl, SqT.of e2, rfl, _, _, rfl, rfl, _, rfl, ?_⟩
          refine ite2 (fun c => ?_) (fun c => ?_)
          · have c2 : S'.w k < m := by have := of_decide_eq_true c; omega
            have ef2 : fol N S os 0 = (S', some i) := by rw [ef]; exact if_pos c2
            exact ⟨_, rfl, _, rfl, fun d hd => kE _ S' i d ef2 B2 sx2 hd⟩
          · have c2 : ¬ S'.w k < m := fun z => c (decide_eq_true (by omega))
            have ef2 : fol N S os 0 = fol N (take N S' k m) (os.drop (i + 1)) (i + 1) := by rw [ef]; exact if_neg c2
            refine ⟨_, rfl, b.p, _, _, rfl, B2.ob, rfl, _, rfl, a2, _, 0, _, rfl, rfl, SqT.of e2, rfl, _, rfl, a2, _, 1, _, rfl, rfl, SqT.of e2, rfl, H0, N, J, a, b, S', k, m, rfl, B2, G, hk, by omega, pS' k hk, fun H3 B3 sx3 => ?_⟩
            exact ⟨_, _, take N S' k m, rfl, ef2, placed_take G hk pS', B3, sx2.trans sx3⟩
      · rintro σ H1 ⟨v2, v3, S', rfl, ef, pS', B1, sx1⟩
        rw [hol, List.drop_length] at ef
        exact kq H1 S' ef B1 sx1
end
end Bal
set_option autoImplicit true
set_option Elab.async false
set_option linter.all false
set_option maxRecDepth 100000
set_option maxHeartbeats 4000000
/-! W7: check_net, check_standing, check_balls. -/
namespace Bal
section
open PySem PySem.Spec PyProof.Rows
theorem le_iff (x y : Str) : ltCps y.cps.toList x.cps.toList = false ↔ x.cps.toList ≤ y.cps.toList := by
  rw [ltCps_eq, decide_eq_false_iff_not]
  exact List.not_lt
theorem rise_pw : ∀ (r : List Str) (x : Str), risingS x r = true → (x :: r).Pairwise (fun a b => a.cps.toList ≤ b.cps.toList)
  | [], x, _ => List.pairwise_singleton ..
  | y :: r, x, h => by
    have h' : (!ltCps y.cps.toList x.cps.toList && risingS y r) = true := h
    rw [Bool.and_eq_true, Bool.not_eq_true'] at h'
    have p := rise_pw r y h'.2
    have xy := (le_iff x y).mp h'.1
    refine List.pairwise_cons.mpr ⟨fun z hz => ?_, p⟩
    rcases List.mem_cons.mp hz with rfl | hz
    · exact xy
    · exact List.le_trans xy ((List.pairwise_cons.mp p).1 z hz)
theorem sorted_pw {l : List Str} (h : sortedS l = true) : l.Pairwise (fun a b => a.cps.toList ≤ b.cps.toList) := by
  cases l with
  | nil => exact .nil
  | cons x r => exact rise_pw r x h
theorem str_cps {x y : Str} (h : x.cps.toList = y.cps.toList) : x = y := by
  cases x; cases y
  have := Array.ext' h
  simp_all
theorem sorted_uniq {xs ys : List Str} (h : ys.Perm xs) (hx : sortedS xs = true) (hy : sortedS ys = true) : ys = xs :=
  h.eq_of_pairwise (fun a b _ _ h1 h2 => str_cps (List.le_antisymm h1 h2)) (sorted_pw hy) (sorted_pw hx)
end
open PySem L2
open PyProof.Rows (sortedS)
/-- what is written of an own error without __init__ -/
structure OwnTxt (K : PySem.W.Frag) (mg : Str → Option Value) (nm : Str) (C : Addr) : Prop where
  q : PySem.W.excIn K C [.type "ValueError", .type "Exception", .type "BaseException", .type "object"] "ValueError.__new__" = true
  g : mg nm = some (.ref C)
  k : PySem.W.keepIn K (.ref C) = true
  b : PySem.W.subIn K (.ref C) (.type "BaseException") = some true
  t : PySem.W.typeIn K (.ref C) = some (.type "type")
theorem same_lock {H H' : Hp} {d : Addr} {u : HO} {od : Obj} (hd : H d = some u) (s : Same (upd H d (.frz od u)) H') : Same H (upd H' d u) := fun p o e => by
  by_cases c : p = d
  · rw [c, upd_same, ← hd, ← c, e]
  · rw [upd_ne c]
    exact s p o (by rw [upd_ne c]; exact e)
section
variable {P : Program} {w : World} {K : PySem.W.Frag} {mg : Str → Option Value} {base : Heap} {CN CB CS CO fO CNt fNt CBs CBb : Addr}
/-! ### check_net -/
def spCheckNet (CN CNt : Addr) : Sp := fun vs H Q E => ∃ x, vs = [x] ∧ ((∃ a dx fs, x = .ref a ∧ H a = some (.ins CN dx fs) ∧ Q .non H) ∨
  ∃ n, Thing H x n ∧ n ∈ ["NoneType", "int", "dict", "str"] ∧ ∀ d, H d = none → E (.ref CNt) (some d) (upd H d (.xd [("name", .non)])))
theorem sc_check_net : FnScope ["thing"] ["thing"] (defScope s_check_net) := ⟨rfl, rfl, rfl, by decide +kernel, rfl, by decide +kernel, by decide +kernel⟩
theorem ok_check_net {f : Addr} {fd : FuncData} (F : Fun K "check_net" "check_net" s_check_net f fd) (T : Txt K mg CN CB CS) (XBadNet : SX.SupTxt P K mg "BadNet" "name" "not a net" CNt fNt)
    (noNet : ∀ n ∈ ["NoneType", "int", "dict", "str"], PySem.W.kitOne K (.type n) (.ref CN) = some false) : FnOk P w K mg base (L2.CX P w) 2 f fd ["thing"] (spCheckNet CN CNt) := by
  refine F.okX sc_check_net (fun vs H Q E h => ?_) (fun cdv A outer s H vs Q E hr h => ?_)
  · obtain ⟨x, rfl, _⟩ := h
    rfl
  · obtain ⟨x, rfl, h⟩ := h
    have hu := hu_of hr
    refine ⟨_, (pss_one (ps_if (pt_not (pt_val (pe_callB call_isi (by rfl) T.isinstance (by decide +kernel) (pa_cons (pv 0) (pa_cons (pe_glob (v := .ref _) (by rfl) T.gNet rfl) pa_nil))))) (pss_one (ps_raise rfl (takes_of rfl rfl rfl rfl) (pmk_sup XBadNet hr (by decide) (pa_cons pe_non pa_nil)))) pss_nil)), ?_⟩
    rcases h with ⟨a, dx, fs, rfl, ha, kq⟩ | ⟨n, t, hn, kE⟩
    · refine ⟨_, rfl, _, _, _, _, _, rfl, .own _, .base (.ins ha T.iN.cl T.iN.ha T.iN.hn T.iN.htk T.iN.hm), T.iN.me, _, rfl, ?_⟩
      exact kq
    · refine ⟨_, rfl, _, _, _, _, _, rfl, .own _, t.ty, noNet n hn, _, rfl, ?_⟩
      exact ⟨_, rfl, fun d hd => kE d hd⟩
/-! ### check_standing -/
inductive BadSt (H : Hp) (N : NetM) : V → Prop where
  | thing {x : V} {n : String} (t : Thing H x n) (h : n ≠ "dict") : BadSt H N x
  | len {d : Addr} {kvs : List (Key × V)} (e : H d = some (.dK kvs)) (h : kvs.length ≠ N.n) : BadSt H N (.ref d)
  | place {d : Addr} {v : Nat → V} (e : H d = some (.dK (tkv (List.range N.n) v))) (p : plain4 (v 0)) (h : ∀ z, v 0 = .int z → ¬ (0 ≤ z ∧ z < N.f 0 + N.q 0)) : BadSt H N (.ref d)
def spStanding (CN CBs : Addr) : Sp := fun vs H Q E => ∃ N J a x, vs = [.ref a.p, x] ∧ NetAt CN H N J a ∧ N.n ≤ 4 ∧ 1 ≤ N.n ∧ BadSt H N x ∧ E (.ref CBs) none H
theorem sc_Net_check_standing : FnScope ["self", "standing", "name"] ["self", "standing"] (defScope s_Net_check_standing) := ⟨rfl, rfl, rfl, by decide +kernel, rfl, by decide +kernel, by decide +kernel⟩
theorem ok_standing {f : Addr} {fd : FuncData} (F : Fun K "check_standing" "Net.check_standing" s_Net_check_standing f fd) (T : Txt K mg CN CB CS) (XBadStanding : OwnTxt K mg "BadStanding" CBs)
    (G_front : MtG P w K mg base CX0 1 CN "front" (spFront CN) []) (G_period : MtG P w K mg base CX0 1 CN "period" (spPeriod CN) []) (G_is_number : FnG P w K mg base CX0 1 "is_number" spNum []) : FnOk P w K mg base (L2.CX P w) 2 f fd ["self", "standing"] (spStanding CN CBs) := by
  refine F.okX sc_Net_check_standing (fun vs H Q E h => ?_) (fun cdv A outer s H vs Q E hr h => ?_)
  · obtain ⟨N, J, a, x, rfl, _⟩ := h
    rfl
  · obtain ⟨N, J, a, x, rfl, A1, hn, hn1, hb, kE⟩ := h
    have hu := hu_of hr
    refine ⟨_, (pss_cons (ps_if (PW.pt (pw_or (pt_not (pt_val (pe_callB call_isi (by rfl) T.isinstance (by decide +kernel) (pa_cons (pv 1) (pa_cons (pe_bltn (v := .ty "dict") (by rfl) T.dict (by decide +kernel) rfl) pa_nil))))) (pw_or1 (pt_cmpR op_ne (pe_callB call_lenD (by rfl) T.len (by decide +kernel) (pa_cons (pv 1) pa_nil)) (pe_callB call_lenD (by rfl) T.len (by decide +kernel) (pa_cons (pe_fld (pv 0) rfl) pa_nil)) (nomark _))))) (pss_one (ps_raise rfl (takes_of rfl rfl rfl rfl) (pmk_own PySem.F.excBase_ValueError XBadStanding.q XBadStanding.g XBadStanding.k (raises_own XBadStanding.b XBadStanding.t) (by rfl)))) pss_nil)
  (pss_one (ps_for (passes_of rfl) rfl (pi_list (pe_fld (pv 0) rfl)) (pg_name (i := 2) sc_Net_check_standing.nd rfl (by first | exact Or.inl rfl | exact Or.inr rfl))
  (pss_cons (ps_if (PW.pt (pw_or (pt_cmp (pc_dnotin hu (pv 2) (pv 1))) (pw_or1 (pt_not (pt_val (pe_f G_is_number hr (by decide) (by rfl) pass0 (pa_cons (pe_dget hu (pv 1) (pv 2) (fun _ _ => rfl)) pa_nil))))))) (pss_one (ps_raise rfl (takes_of rfl rfl rfl rfl) (pmk_own PySem.F.excBase_ValueError XBadStanding.q XBadStanding.g XBadStanding.k (raises_own XBadStanding.b XBadStanding.t) (by rfl)))) pss_nil)
  (pss_one (ps_if (pt_not (pt_chain op_le op_lt pe_int (pe_dget hu (pv 1) (pv 2) (fun _ _ => rfl)) (pe_op op_add (pe_m G_front hr (by decide) pass0 (pv 0) (pa_cons (pv 2) pa_nil)) (pe_m G_period hr (by decide) pass0 (pv 0) (pa_cons (pv 2) pa_nil))))) (pss_one (ps_raise rfl (takes_of rfl rfl rfl rfl) (pmk_own PySem.F.excBase_ValueError XBadStanding.q XBadStanding.g XBadStanding.k (raises_own XBadStanding.b XBadStanding.t) (by rfl)))) pss_nil)))))), ?_⟩
    have hk0 : 0 < N.n := by omega
    cases hb with
    | thing t h =>
      obtain ⟨_, _, k3, _⟩ := t.kit (K := K)
      have e : (_ == "dict") = false := beq_eq_false_iff_ne.mpr h
      rw [e] at k3
      refine ⟨_, rfl, _, _, _, _, _, rfl, .ty _, t.ty, k3, _, rfl, ?_⟩
      exact iteT kE
    | len e h =>
      have t := Thing.dK e
      obtain ⟨_, _, k3, _⟩ := t.kit (K := K)
      refine ⟨_, rfl, _, _, _, _, _, rfl, .ty _, t.ty, k3, _, rfl, ?_⟩
      refine iteF ⟨_, rfl, _, _, rfl, e, _, rfl, a.p, CN, a.dx, _, _, rfl, A1.ob, T.cN, T.nNk, netF_k, a.kd, _, rfl, A1.kn.dc, rfl, _, rfl, ?_⟩
      refine ite2 (fun c => kE) (fun c => absurd ?_ c)
      rw [tkv_len, List.length_range]
      have : ¬ V.int ((_ : Nat) : Int) = V.int (N.n : Int) := fun z => h (by injection z with z; exact Int.ofNat.inj z)
      rw [decide_eq_false this]
      rfl
    | @place d v e p h =>
      have t := Thing.dK e
      obtain ⟨_, _, k3, _⟩ := t.kit (K := K)
      refine ⟨_, rfl, _, _, _, _, _, rfl, .ty _, t.ty, k3, _, rfl, ?_⟩
      refine iteF ⟨_, rfl, _, _, rfl, e, _, rfl, a.p, CN, a.dx, _, _, rfl, A1.ob, T.cN, T.nNk, netF_k, a.kd, _, rfl, A1.kn.dc, rfl, _, rfl, ?_⟩
      rw [tkv_len, tkv_len, List.length_range]
      refine ite2 (fun c => kE) (fun _ => ?_)
      refine ⟨_, rfl, a.p, CN, a.dx, _, _, rfl, A1.ob, T.cN, T.nNn, netF_n, a.nl, rfl, ⟨_, SqL.of A1.nl⟩, for_it (walk_list (xs := namesV N.n)) (fun i σ H' => ∃ v, σ = [some (.ref a.p), some (.ref d), v] ∧ H' = H ∧ i = 0) ⟨_, rfl, rfl, rfl⟩ (fun i σ H' _ p => ?_) ?_ ?_⟩
      · obtain ⟨_, _, rfl, _⟩ := p
        exact SqL.of A1.nl
      · rintro i x2 σ H1 _ hi ⟨v1, rfl, rfl, rfl⟩ ⟨rfl, hx2⟩
        obtain ⟨_, rfl⟩ := names_at hx2
        have dg := dget_in e (List.mem_range.mpr hk0) (rng_lt hn)
        refine ⟨_, rfl, _, rfl, d, _, rfl, dg, _, rfl, ?_⟩
        refine iteF ⟨_, rfl, _, rfl, d, _, rfl, dg, _, rfl, p, _, rfl, ?_⟩
        cases ev : v 0 with
        | int z =>
          have hz := h z ev
          refine iteF ?_
          rw [ev] at dg
          obtain ⟨b1, y1, z1, e1, q1, ⟨c1, ps1, e2, q2, p2⟩, r2⟩ := A1.kn.kn 0 hk0
          refine ⟨_, rfl, _, rfl, d, _, rfl, dg, _, _, rfl, rfl, _, rfl, ?_⟩
          refine ite2 (fun c => ?_) (fun c => ?_)
          · refine ⟨_, rfl, a.p, _, _, rfl, A1.ob, rfl, _, rfl, N, J, a, 0, rfl, A1, hn, hk0, ?_⟩
            refine ⟨_, rfl, a.p, _, _, rfl, A1.ob, rfl, _, rfl, N, J, a, 0, rfl, A1, hn, hk0, ?_⟩
            refine ⟨_, _, rfl, rfl, _, _, rfl, rfl, _, rfl, ?_⟩
            refine ite2 (fun _ => kE) (fun c2 => absurd ?_ c2)
            have z0 : 0 ≤ z := of_decide_eq_true c
            rw [decide_eq_false fun c3 => hz ⟨z0, c3⟩]
            rfl
          · exact ⟨_, rfl, iteT kE⟩
        | non => exact iteT kE
        | bl _ => exact iteT kE
        | str _ => exact iteT kE
        | _ => rw [ev] at p; exact p.elim
      · rintro σ H1 ⟨v1, rfl, rfl, e0⟩
        rw [names_len] at e0
        omega
/-! ### check_balls -/
/-- entries: a name, its knot, its balls -/
def entB (es : List (Str × Nat × Nat)) : List (Key × V) := es.map fun e => (Sum.inr e.1, .int (e.2.2 : Int))
def sumB (es : List (Str × Nat × Nat)) : Nat → Nat := fun t => (es.map fun e => if e.2.1 = t then e.2.2 else 0).sum
theorem sumB_snoc (es : List (Str × Nat × Nat)) (e : Str × Nat × Nat) (t : Nat) : sumB (es ++ [e]) t = sumB es t + if e.2.1 = t then e.2.2 else 0 := by simp [sumB]
def Good1 (N : NetM) (J : Nat) (e : Str × Nat × Nat) : Prop := e.2.1 < N.n ∧ ((e.1 = "i" ∧ e.2.1 = 0) ∨ (e.1 = "j" ∧ e.2.1 = J) ∨ e.1 = "a" ∧ e.2.1 = 0)
inductive BadB (H : Hp) (N : NetM) : V → Prop where
  | thing {x : V} {n : String} (t : Thing H x n) (h : n ≠ "dict") : BadB H N x
  | no {d : Addr} {z : Str} {v : V} (e : H d = some (.dK [(Sum.inr z, v)])) (h1 : z ≠ "i") (h2 : z ≠ "j") (h : ∀ i, i < N.n → tg i ≠ z) : BadB H N (.ref d)
  | one {d : Addr} {z : Str} {v : V} (e : H d = some (.dK [(Sum.inr z, v)])) (h : z = "i" ∨ z = "a") (p : plain4 v) (hv : ∀ y, v = .int y → y < 0) : BadB H N (.ref d)
  | two {d : Addr} (e : H d = some (.dK [(Sum.inr "i", .int 1), (Sum.inr "a", .non)])) : BadB H N (.ref d)
/-- what the loop over the names meets -/
inductive Bad1 (N : NetM) (z : Str) (v : V) : Prop where
  | no (h1 : z ≠ "i") (h2 : z ≠ "j") (h : ∀ i, i < N.n → tg i ≠ z)
  | one (h : z = "i" ∨ z = "a") (p : plain4 v) (hv : ∀ y, v = .int y → y < 0)
theorem inl_get {H : Hp} {d : Addr} {J : Nat} (h : H d = some (.dK (inl J))) (z : Str) : DGet H d (.str z) (if z = "i" then some (.str (tg 0)) else if z = "j" then some (.str (tg J)) else none) := by
  have q := DGet.k (k := Sum.inr z) h
  have e : valV (inl J) (Sum.inr z : Key) = if z = "i" then some (.str (tg 0)) else if z = "j" then some (.str (tg J)) else none := by
    by_cases c : z = "i"
    · subst c
      rfl
    · rw [if_neg c]
      show valV (((Sum.inr ("i" : Str) : Key), V.str (tg 0)) :: [((Sum.inr ("j" : Str) : Key), V.str (tg J))]) _ = _
      rw [valV_neg fun e => c (Sum.inr.inj e).symm]
      by_cases c2 : z = "j"
      · subst c2
        rfl
      · rw [if_neg c2, valV_neg fun e => c2 (Sum.inr.inj e).symm]
        rfl
  rw [e] at q
  exact q
theorem entB_val : ∀ {es : List (Str × Nat × Nat)} {i : Nat} {e : Str × Nat × Nat}, (es.map (·.1)).Nodup → es[i]? = some e → valV (entB es) (Sum.inr e.1 : Key) = some (.int (e.2.2 : Int))
  | [], _, _, _, h => by simp at h
  | f :: r, 0, e, _, h => by
    simp at h
    subst h
    exact valV_pos rfl
  | f :: r, i + 1, e, hd, h => by
    have h' : r[i]? = some e := by simpa using h
    have hd' := List.nodup_cons.mp hd
    have hm : e.1 ∈ r.map (·.1) := List.mem_map_of_mem (List.mem_of_getElem? h')
    show valV ((Sum.inr f.1, V.int (f.2.2 : Int)) :: entB r) _ = _
    rw [valV_neg fun z => hd'.1 (by show f.1 ∈ _; rw [Sum.inr.inj z]; exact hm)]
    exact entB_val hd'.2 h'
def spBalls (CN CBb : Addr) : Sp := fun vs H Q E => ∃ N J a x, vs = [.ref a.p, x] ∧ NetAt CN H N J a ∧ N.n ≤ 4 ∧ 1 ≤ N.n ∧
  ((BadB H N x ∧ ∀ H', Same H H' → E (.ref CBb) none H') ∨
   ∃ d es, x = .ref d ∧ H d = some (.dK (entB es)) ∧ es.length ≤ 2 ∧ sortedS (es.map (·.1)) = true ∧ (es.map (·.1)).Nodup ∧ (∀ e ∈ es, Good1 N J e) ∧
     ∀ d' is H', H d' = none → Same H H' → IntI is (fun t => (sumB es t : Int)) → H' d' = some (.dK (ikv is fun t => (sumB es t : Int))) → Q (.ref d') H')
theorem sc_check_balls : FnScope ["net", "balls", "found", "name", "knot", "one"] ["net", "balls"] (defScope s_check_balls) := ⟨rfl, rfl, rfl, by decide +kernel, rfl, by decide +kernel, by decide +kernel⟩
theorem ok_balls {f : Addr} {fd : FuncData} (F : Fun K "check_balls" "check_balls" s_check_balls f fd) (T : Txt K mg CN CB CS) (XBadBalls : OwnTxt K mg "BadBalls" CBb) (G_is_number : FnG P w K mg base CX0 1 "is_number" spNum []) :
    FnOk P w K mg base (L2.CX P w) 2 f fd ["net", "balls"] (spBalls CN CBb) := by
  refine F.okX sc_check_balls (fun vs H Q E h => ?_) (fun cdv A outer s H vs Q E hr h => ?_)
  · obtain ⟨N, J, a, x, rfl, _⟩ := h
    rfl
  · obtain ⟨N, J, a, x, rfl, A1, hn, hn1, h⟩ := h
    have hu := hu_of hr
    refine ⟨_, (pss_cons (ps_if (pt_not (pt_val (pe_callB call_isi (by rfl) T.isinstance (by decide +kernel) (pa_cons (pv 1) (pa_cons (pe_bltn (v := .ty "dict") (by rfl) T.dict (by decide +kernel) rfl) pa_nil))))) (pss_one (ps_raise rfl (takes_of rfl rfl rfl rfl) (pmk_own PySem.F.excBase_ValueError XBadBalls.q XBadBalls.g XBadBalls.k (raises_own XBadBalls.b XBadBalls.t) (by rfl)))) pss_nil)
  (pss_cons (ps_set (i := 2) sc_check_balls.nd rfl (by first | exact Or.inl rfl | exact Or.inr rfl) pe_dnewK)
  (pss_cons (ps_for (passes_of rfl) rfl (pi_list (pe_callB cr_sortedS (by rfl) T.sorted (by decide +kernel) (pa_cons (pe_lock (pe_lc (own := [("one", 5)]) rfl sc_check_balls.nd (pi_keys (pv 1)) (blkOk_by (by kernel_rfl)) (fun _ _ _ _ _ => (pg_name (i := 5) sc_check_balls.nd rfl (by first | exact Or.inl rfl | exact Or.inr rfl))) (fun _ _ _ _ _ => pts_nil) (fun _ _ _ _ _ => (by exact (pe_callTy SkE.call_str_str (by rfl) T.str (by decide +kernel) (pa_cons (pv 5) pa_nil)))))) pa_nil))) (pg_name (i := 3) sc_check_balls.nd rfl (by first | exact Or.inl rfl | exact Or.inr rfl))
  (pss_cons (ps_if (PW.pt (pw_or (pt_cmp (pc_dnotin hu (pv 3) (pv 1))) (pw_or1 (PW.pt (pw_and (pt_cmp (pc_dnotin hu (pv 3) (pe_fld (pv 0) rfl))) (pw_and1 (pt_cmp (pc_dnotin hu (pv 3) (pe_fld (pv 0) rfl))))))))) (pss_one (ps_raise rfl (takes_of rfl rfl rfl rfl) (pmk_own PySem.F.excBase_ValueError XBadBalls.q XBadBalls.g XBadBalls.k (raises_own XBadBalls.b XBadBalls.t) (by rfl)))) pss_nil)
  (pss_cons (ps_if (PW.pt (pw_or (pt_not (pt_val (pe_f G_is_number hr (by decide) (by rfl) pass0 (pa_cons (pe_dget hu (pv 1) (pv 3) (fun _ _ => rfl)) pa_nil)))) (pw_or1 (pt_cmpR op_lt (pe_dget hu (pv 1) (pv 3) (fun _ _ => rfl)) pe_int (nomark _))))) (pss_one (ps_raise rfl (takes_of rfl rfl rfl rfl) (pmk_own PySem.F.excBase_ValueError XBadBalls.q XBadBalls.g XBadBalls.k (raises_own XBadBalls.b XBadBalls.t) (by rfl)))) pss_nil)
  (pss_cons (ps_set (i := 4) sc_check_balls.nd rfl (by first | exact Or.inl rfl | exact Or.inr rfl) (pe_ifExp (pt_cmp (pc_din hu (pv 3) (pe_fld (pv 0) rfl))) (pe_dget hu (pe_fld (pv 0) rfl) (pv 3) (fun _ _ => rfl)) (pv 3)))
  (pss_one (ps_dput hu (pv 2) (pv 4) (pe_op op_add (pe_dget2 hu (pv 2) (pv 4) pe_int ⟨rfl, rfl, rfl, rfl⟩) (pe_dget hu (pv 1) (pv 3) (fun _ _ => rfl))) rfl))))))
  (pss_one (ps_ret (pv 2)))))), ?_⟩
    refine ⟨_, rfl, ?_⟩
    have cases2 : (∃ n, Thing H x n ∧ n ≠ "dict" ∧ E (.ref CBb) none H) ∨ ∃ d kvs ks zs, x = .ref d ∧ H d = some (.dK kvs) ∧ kvs.map (·.1) = ks.map Sum.inr ∧ ks.length ≤ 2 ∧ zs.Perm ks ∧ sortedS zs = true ∧
        ((∃ z rest v, zs = z :: rest ∧ valV kvs (Sum.inr z) = some v ∧ Bad1 N z v ∧ ∀ H', Same H H' → E (.ref CBb) none H') ∨
          ∃ es, kvs = entB es ∧ zs = es.map (·.1) ∧ (es.map (·.1)).Nodup ∧ (∀ e ∈ es, Good1 N J e) ∧
            ∀ d' is H', H d' = none → Same H H' → IntI is (fun t => (sumB es t : Int)) → H' d' = some (.dK (ikv is fun t => (sumB es t : Int))) → Q (.ref d') H') := by
      rcases h with ⟨hb, kE⟩ | ⟨d, es, rfl, hd, hl, hs, hnd, hg, kq⟩
      · cases hb with
        | thing t h => exact .inl ⟨_, t, h, kE _ (Same.refl H)⟩
        | @no d z v e h1 h2 h => exact .inr ⟨d, _, [z], [z], rfl, e, rfl, Nat.le_of_ble_eq_true rfl, .refl _, rfl, .inl ⟨z, [], v, rfl, valV_pos rfl, .no h1 h2 h, kE⟩⟩
        | @one d z v e h p hv => exact .inr ⟨d, _, [z], [z], rfl, e, rfl, Nat.le_of_ble_eq_true rfl, .refl _, rfl, .inl ⟨z, [], v, rfl, valV_pos rfl, .one h p hv, kE⟩⟩
        | @two d e => exact .inr ⟨d, _, ["i", "a"], ["a", "i"], rfl, e, rfl, by decide, .swap _ _ _, by decide +kernel, .inl ⟨"a", ["i"], .non, rfl, by rfl, .one (.inr rfl) trivial (fun _ z => by cases z), kE⟩⟩
      · refine .inr ⟨d, entB es, es.map (·.1), es.map (·.1), rfl, hd, ?_, by rw [List.length_map]; exact hl, .refl _, hs, .inr ⟨es, rfl, rfl, hnd, hg, kq⟩⟩
        unfold entB
        rw [List.map_map, List.map_map]
        rfl
    rcases cases2 with ⟨n, t, hn2, kE⟩ | ⟨d, kvs, ks, zs, rfl, hd, hks, hkl, hperm, hsrt, hcase⟩
    · obtain ⟨_, _, k3, _⟩ := t.kit (K := K)
      rw [beq_eq_false_iff_ne.mpr hn2] at k3
      refine ⟨_, _, _, _, _, rfl, .ty _, t.ty, k3, _, rfl, ?_⟩
      exact kE
    have t := Thing.dK hd
    obtain ⟨_, _, k3, _⟩ := t.kit (K := K)
    refine ⟨_, _, _, _, _, rfl, .ty _, t.ty, k3, _, rfl, ?_⟩
    -- found = {}
    intro F hF
    have s1 : Same H (upd H F (.dK [])) := same_upd0 hF
    have hd1 := s1 _ _ hd
    obtain ⟨H1, eH1⟩ : ∃ H1, H1 = upd H F (.dK []) := ⟨_, rfl⟩
    have hF1 : H1 F = some (.dK []) := by rw [eH1, upd_same]
    rw [← eH1] at s1 hd1 ⊢
    have nFd : F ≠ d := (ne_of_none hd hF).symm
    -- sorted([str(one) for one in balls])
    refine ⟨d, _, hd1, trivial, fun od => ?_⟩
    refine ⟨_, rfl, d, od, rfl, .inl ⟨kvs, upd_same, fun D hD => lc_it walk_keys (fun i H' => H' = upd (upd H1 d (.frz od (.dK kvs))) D (.lst ((ks.take i).map .str))) rfl (fun i H' _ p => ?_) ?_ ?_⟩⟩
    · rw [p, upd_ne (ne_of_none upd_same hD), upd_same]
    · rintro i x H2 H3 hi rfl ⟨rfl, k, v, hkv, rfl⟩
      have hk2 : ∃ q, ks[i]? = some q ∧ k = Sum.inr q := by
        have e : (kvs.map (·.1))[i]? = some k := by rw [List.getElem?_map, hkv]; rfl
        rw [hks, List.getElem?_map] at e
        obtain ⟨q, h1, h2⟩ := Option.map_eq_some_iff.mp e
        exact ⟨q, h1, h2.symm⟩
      obtain ⟨q, hq, rfl⟩ := hk2
      refine ⟨rfl, ?_⟩
      refine ⟨_, rfl, _, rfl, _, upd_same, ?_, ?_⟩
      · rw [List.length_map]
        have : (ks.take i).length ≤ 2 := by rw [List.length_take]; omega
        exact Nat.lt_of_le_of_lt this (by decide)
      · rw [upd_upd, take_at hq, List.map_append]
        rfl
    rintro H2 rfl
    refine ⟨by rw [upd_ne (ne_of_none upd_same hD), upd_same], ?_⟩
    have hlen : kvs.length = ks.length := by
      have := congrArg List.length hks
      rw [List.length_map, List.length_map] at this
      exact this
    have sL : Same H1 (upd (upd (upd H1 d (.frz od (.dK kvs))) D (.lst ((ks.take kvs.length).map .str))) d (.dK kvs)) := same_lock hd1 (same_upd0 hD)
    have hD3 : (upd (upd (upd H1 d (.frz od (.dK kvs))) D (.lst ((ks.take kvs.length).map .str))) d (.dK kvs)) D = some (.lst (ks.map .str)) := by
      rw [upd_ne (ne_of_none upd_same hD).symm, upd_same, hlen, List.take_length]
    refine ⟨D, ks, rfl, SqL.of hD3, by omega, fun ys p perm srt hp => ?_⟩
    have eys : ys = zs := sorted_uniq (perm.trans hperm.symm) hsrt srt
    subst eys
    obtain ⟨H4, eH4⟩ : ∃ H4, H4 = upd (upd (upd (upd H1 d (.frz od (.dK kvs))) D (.lst ((ks.take kvs.length).map .str))) d (.dK kvs)) p (.lst (ys.map .str)) := ⟨_, rfl⟩
    have s4 : Same H1 H4 := by rw [eH4]; exact same_upd sL hp
    have hp4 : H4 p = some (.lst (ys.map .str)) := by rw [eH4, upd_same]
    rw [← eH4]
    clear eH4 hp hD3 sL hD
    have hF4 := s4 _ _ hF1
    have sH4 : Same H H4 := fun q o e => s4 _ _ (s1 _ _ e)
    have nFp : F ≠ p := by rintro rfl; rw [hF4] at hp4; cases hp4
    have A4 := A1.same sH4
    have hd4 := sH4 _ _ hd
    refine ⟨p, rfl, ⟨_, SqL.of hp4⟩, ?_⟩
    rcases hcase with ⟨z, rest, v, rfl, hv, hb, kE⟩ | ⟨es, rfl, rfl, hnd, hg, kq⟩
    · refine for_it (walk_list (xs := (z :: rest).map .str)) (fun i σ H' => σ = [some (.ref a.p), some (.ref d), some (.ref F), none, none, none] ∧ H' = H4 ∧ i = 0) ⟨rfl, rfl, rfl⟩ (fun i σ H' _ q => ?_) ?_ ?_
      · rw [q.2.1]
        exact SqL.of hp4
      · rintro i x2 σ H5 H6 hi ⟨rfl, e5, rfl⟩ ⟨e6, hx2⟩
        subst H6
        subst H5
        cases hx2
        have dv : DGet H4 d (.str z) (some v) := by
          have q := DGet.k (k := Sum.inr z) hd4
          rw [hv] at q
          exact q
        refine ⟨_, rfl, _, rfl, d, _, rfl, dv, _, rfl, ?_⟩
        have ig := inl_get A4.id z
        cases hb with
        | no h1 h2 h =>
          rw [if_neg h1, if_neg h2] at ig
          refine iteF ⟨_, rfl, _, rfl, a.p, CN, a.dx, _, _, rfl, A4.ob, T.cN, T.nNi, netF_i, a.id, _, rfl, ig, _, rfl, ?_⟩
          refine iteT ⟨_, rfl, _, rfl, a.p, CN, a.dx, _, _, rfl, A4.ob, T.cN, T.nNk, netF_k, a.kd, _, rfl, dget_out A4.kn.dc (fun i hi => h i (List.mem_range.mp hi)), _, rfl, ?_⟩
          exact kE _ sH4
        | one h pv hv2 =>
          have next : ∀ D σ, σ = [some (.ref a.p), some (.ref d), some (.ref F), some (.str z), none, none] → ∀ u : TS, tSeq (tIfS (tOr (tNot (tB (tCall spNum [] E0 (tCons (tDGet (tVar 1) (tVar 3)) tNil)))) (tTest (tOp (rI0 fun i j => V.bl (decide (i < j))) (tDGet (tVar 1) (tVar 3)) (tC (V.int 0))))) (fun x σ H => (fun cls d H' => E cls d H') (Value.ref CBb) none H) tNext) u D σ H4 := by
            rintro D σ rfl u
            refine ⟨_, rfl, _, rfl, d, _, rfl, dv, v, rfl, pv, _, rfl, ?_⟩
            cases v with
            | int y =>
              refine iteF ⟨_, rfl, _, rfl, d, _, rfl, dv, _, _, rfl, rfl, _, rfl, ?_⟩
              exact ite2 (fun _ => kE _ sH4) (fun c => absurd (decide_eq_true (hv2 y rfl)) c)
            | non => exact iteT (kE _ sH4)
            | bl _ => exact iteT (kE _ sH4)
            | str _ => exact iteT (kE _ sH4)
            | _ => exact pv.elim
          rcases h with rfl | rfl
          · rw [if_pos rfl] at ig
            refine iteF ⟨_, rfl, _, rfl, a.p, CN, a.dx, _, _, rfl, A4.ob, T.cN, T.nNi, netF_i, a.id, _, rfl, ig, _, rfl, ?_⟩
            exact iteF (next _ _ rfl _)
          · rw [if_neg (by decide), if_neg (by decide)] at ig
            refine iteF ⟨_, rfl, _, rfl, a.p, CN, a.dx, _, _, rfl, A4.ob, T.cN, T.nNi, netF_i, a.id, _, rfl, ig, _, rfl, ?_⟩
            refine iteT ⟨_, rfl, _, rfl, a.p, CN, a.dx, _, _, rfl, A4.ob, T.cN, T.nNk, netF_k, a.kd, _, rfl, dget_in A4.kn.dc (k := 0) (List.mem_range.mpr (by omega)) (rng_lt hn), _, rfl, ?_⟩
            exact next _ _ rfl _
      · rintro σ H5 ⟨_, _, e⟩
        cases e
    · refine for_it (walk_list (xs := (es.map (·.1)).map .str)) (fun i σ H' => ∃ v3 v4 is, σ = [some (.ref a.p), some (.ref d), some (.ref F), v3, v4, none] ∧ IntI is (fun t => (sumB (es.take i) t : Int)) ∧ H' = upd H4 F (.dK (ikv is fun t => (sumB (es.take i) t : Int)))) ⟨_, _, [], rfl, ?_, ?_⟩ (fun i σ H' _ q => ?_) ?_ ?_
      · rw [List.take_zero]
        exact .nil
      · funext q
        by_cases c : q = F
        · rw [c, upd_same, hF4]
          rfl
        · rw [upd_ne c]
      · obtain ⟨_, _, _, _, _, rfl⟩ := q
        exact SqL.of ((upd_ne (Ne.symm nFp)).trans hp4)
      · rintro i x2 σ H5 _ hi ⟨v3, v4, is, rfl, hI, rfl⟩ ⟨rfl, hx2⟩
        rw [List.getElem?_map, List.getElem?_map] at hx2
        obtain ⟨e, he, rfl⟩ : ∃ e, es[i]? = some e ∧ V.str e.1 = x2 := by
          cases q : es[i]? with
          | none => rw [q] at hx2; cases hx2
          | some e => rw [q] at hx2; cases hx2; exact ⟨e, rfl, rfl⟩
        obtain ⟨ek, eg⟩ := hg e (List.mem_of_getElem? he)
        have hFn : H4 F ≠ none := by rw [hF4]; simp
        have up : ∀ {q : Addr} {o : HO}, q ≠ F → H4 q = some o → (upd H4 F (.dK (ikv is fun t => (sumB (es.take i) t : Int)))) q = some o := fun c o => (upd_ne c).trans o
        obtain ⟨H5, eH5⟩ : ∃ H5, H5 = upd H4 F (.dK (ikv is fun t => (sumB (es.take i) t : Int))) := ⟨_, rfl⟩
        have hF5 : H5 F = some (.dK (ikv is fun t => (sumB (es.take i) t : Int))) := by rw [eH5, upd_same]
        have nF : ∀ {q : Addr} {o : HO}, H q = some o → q ≠ F := fun h => ne_of_none h hF
        have s5 : Same H H5 := by rw [eH5]; exact same_out sH4 hF
        have A5 := A1.same s5
        have dv : DGet H5 d (.str e.1) (some (.int (e.2.2 : Int))) := by
          have q := DGet.k (k := Sum.inr e.1) (s5 _ _ hd)
          rw [entB_val hnd he] at q
          exact q
        have ig := inl_get A5.id e.1
        have hk6 : e.2.1 < 6 := by omega
        have fin : ∀ σ, σ = [some (.ref a.p), some (.ref d), some (.ref F), some (.str e.1), some (.str (tg e.2.1)), none] → ∃ (v3 v4 : Option V) (is' : List Nat), σ = [some (.ref a.p), some (.ref d), some (.ref F), v3, v4, none] ∧ IntI is' (fun t => (sumB (es.take (i + 1)) t : Int)) ∧
            upd H5 F (.dK (ikv (addI is e.2.1) fun t => if t = e.2.1 then (sumB (es.take i) e.2.1 : Int) + (e.2.2 : Int) else (sumB (es.take i) t : Int))) = upd H4 F (.dK (ikv is' fun t => (sumB (es.take (i + 1)) t : Int))) := by
          rintro σ rfl
          have q2 := hI.add hk6 ((sumB (es.take i) e.2.1 : Int) + (e.2.2 : Int))
          have e3 : (fun t => if t = e.2.1 then (sumB (es.take i) e.2.1 : Int) + (e.2.2 : Int) else (sumB (es.take i) t : Int)) = fun t => (sumB (es.take (i + 1)) t : Int) := by
            funext t
            rw [take_at he, sumB_snoc]
            by_cases c : t = e.2.1
            · rw [if_pos c, if_pos c.symm, c]; rfl
            · rw [if_neg c, if_neg fun z => c z.symm]; rfl
          rw [e3] at q2 ⊢
          exact ⟨_, _, _, rfl, q2, by rw [eH5, upd_upd]⟩
        have inA : (e.1 = "i" ∨ e.1 = "j") ∨ ¬ (e.1 = "i" ∨ e.1 = "j") := Classical.em _
        rw [← eH5]
        rcases inA with c | c
        · have ig2 : DGet H5 a.id (.str e.1) (some (.str (tg e.2.1))) := by
            rcases eg with ⟨e1, e2⟩ | ⟨e1, e2⟩ | ⟨e1, e2⟩
            · rw [if_pos e1, ← e2] at ig; exact ig
            · rw [if_neg (by rw [e1]; decide), if_pos e1, ← e2] at ig; exact ig
            · rw [e1] at c; exact absurd c (by decide)
          refine ⟨_, rfl, _, rfl, d, _, rfl, dv, _, rfl, ?_⟩
          refine iteF ⟨_, rfl, _, rfl, a.p, CN, a.dx, _, _, rfl, A5.ob, T.cN, T.nNi, netF_i, a.id, _, rfl, ig2, _, rfl, ?_⟩
          refine iteF ⟨_, rfl, _, rfl, d, _, rfl, dv, _, rfl, trivial, _, rfl, ?_⟩
          refine iteF ⟨_, rfl, _, rfl, d, _, rfl, dv, _, _, rfl, rfl, _, rfl, ?_⟩
          refine ite2 (fun c => absurd (of_decide_eq_true c) (by omega)) (fun _ => ?_)
          refine ⟨_, rfl, _, rfl, a.p, CN, a.dx, _, _, rfl, A5.ob, T.cN, T.nNi, netF_i, a.id, _, rfl, ig2, _, rfl, ?_⟩
          refine iteT ⟨_, rfl, a.p, CN, a.dx, _, _, rfl, A5.ob, T.cN, T.nNi, netF_i, _, rfl, a.id, _, rfl, ig2, ?_⟩
          refine ⟨_, rfl, F, rfl, .inl ⟨_, .inl hF5⟩, _, rfl, _, dget_tkv hF5 hk6 hI.lt, ?_⟩
          rw [iget hI]
          exact ⟨_, rfl, _, rfl, d, _, rfl, dv, _, _, rfl, rfl, _, rfl, _, rfl, F, _, rfl, iput hI hF5 hk6 _, fin _ rfl⟩
        · have ig2 : DGet H5 a.id (.str e.1) none := by
            rw [if_neg fun z => c (.inl z), if_neg fun z => c (.inr z)] at ig
            exact ig
          have ea : e.1 = tg e.2.1 := by
            rcases eg with ⟨e1, e2⟩ | ⟨e1, e2⟩ | ⟨e1, e2⟩
            · exact absurd (.inl e1) c
            · exact absurd (.inr e1) c
            · rw [e1, e2]; rfl
          refine ⟨_, rfl, _, rfl, d, _, rfl, dv, _, rfl, ?_⟩
          refine iteF ⟨_, rfl, _, rfl, a.p, CN, a.dx, _, _, rfl, A5.ob, T.cN, T.nNi, netF_i, a.id, _, rfl, ig2, _, rfl, ?_⟩
          have kg := dget_in A5.kn.dc (List.mem_range.mpr ek) (rng_lt hn)
          rw [← ea] at kg
          refine iteT ⟨_, rfl, _, rfl, a.p, CN, a.dx, _, _, rfl, A5.ob, T.cN, T.nNk, netF_k, a.kd, _, rfl, kg, _, rfl, ?_⟩
          refine iteF ⟨_, rfl, _, rfl, d, _, rfl, dv, _, rfl, trivial, _, rfl, ?_⟩
          refine iteF ⟨_, rfl, _, rfl, d, _, rfl, dv, _, _, rfl, rfl, _, rfl, ?_⟩
          refine ite2 (fun c => absurd (of_decide_eq_true c) (by omega)) (fun _ => ?_)
          refine ⟨_, rfl, _, rfl, a.p, CN, a.dx, _, _, rfl, A5.ob, T.cN, T.nNi, netF_i, a.id, _, rfl, ig2, _, rfl, ?_⟩
          refine iteF ⟨_, rfl, ?_⟩
          have gF := dget_tkv hF5 hk6 hI.lt
          rw [← ea] at gF
          refine ⟨_, rfl, F, rfl, .inl ⟨_, .inl hF5⟩, _, rfl, _, gF, ?_⟩
          rw [iget hI]
          have pF := iput hI hF5 hk6 ((sumB (es.take i) e.2.1 : Int) + (e.2.2 : Int))
          rw [← ea] at pF
          exact ⟨_, rfl, _, rfl, d, _, rfl, dv, _, _, rfl, rfl, _, rfl, _, rfl, F, _, rfl, pF, fin _ (by rw [← ea]; rfl)⟩
      · rintro σ H5 ⟨v3, v4, is, rfl, hI, rfl⟩
        rw [List.length_map, List.length_map, List.take_length] at hI ⊢
        refine ⟨_, rfl, kq F is _ hF ?_ hI upd_same⟩
        exact same_out sH4 hF
end
end Bal
set_option autoImplicit true
set_option Elab.async false
set_option linter.all false
set_option maxRecDepth 100000
set_option maxHeartbeats 4000000
/-! WE: == of tuples, lists, dicts, nested, either answer. -/
namespace Bal
namespace EQ
open PySem PySem.SeqAt
open AutoSeq1 (wpAny_loadPart')
open MeetsSeq MeetsSeq2 MeetsSeq3 SeqRoads2
variable {prog : Program} {w : World}
theorem tup_in (a b : Addr) (xs ys : Array Value) (n m : Nat) (da db : Option Addr) (sa sb : Array (Option Value)) (hz : xs.size = ys.size) (e : Nat → Bool) :
    MeetsIn prog w (Builtin.«tuple.__eq__» ⟨[.ref a, .ref b], []⟩)
      (fun A R s => s.heap.get? a = some { cls := .type "tuple", dict := da, data := .seq xs n, slots := sa } ∧ s.heap.get? b = some { cls := .type "tuple", dict := db, data := .seq ys m, slots := sb } ∧
        (∀ j (h1 : j < xs.size) (h2 : j < ys.size), EqP prog w A.in1 s xs[j] ys[j] (e j)) ∧ R (.ok (.ret (.bool ((List.range xs.size).all e)))) s) := by
  intro A R s hyp
  obtain ⟨heap, gs, dr, tk, os⟩ := s
  obtain ⟨ha, hb, he, hR⟩ := hyp
  have sub2 := AutoSeq1.sub_tuple_tuple
  have zl : (xs.toList.zip ys.toList).length = xs.size := by simp [← hz]
  wp_walk using wpAny_loadPart' ha, wpAny_loadPart' hb, wpAny_forIn_list _ (fun rest b s' => b.1 = none ∧ s' = ⟨heap, gs, dr, tk, os⟩ ∧ ∃ i, rest = (xs.toList.zip ys.toList).drop i ∧
    R (.ok (.ret (.bool (((List.range xs.size).drop i).all e)))) ⟨heap, gs, dr, tk, os⟩) _
  case turn =>
    rintro ⟨u, v⟩ rest b s' ⟨hb', rfl, i, ez, q⟩
    have il : i < (xs.toList.zip ys.toList).length := by
      apply Nat.lt_of_not_le
      intro c
      rw [List.drop_of_length_le c] at ez
      cases ez
    have ix : i < xs.size := zl ▸ il
    have iy : i < ys.size := hz ▸ ix
    rw [List.drop_eq_getElem_cons il] at ez
    injection ez with euv erest
    have eu : u = xs[i] := by have := congrArg Prod.fst euv; simpa using this
    have ev : v = ys[i] := by have := congrArg Prod.snd euv; simpa using this
    subst eu ev
    have edrop : (List.range xs.size).drop i = i :: (List.range xs.size).drop (i + 1) := by simp [List.drop_eq_getElem_cons, ix]
    rw [edrop, List.all_cons] at q
    refine wpAny_bind (he i ix iy _ _ ?_)
    cases c : e i with
    | true =>
      rw [c] at q
      wp_walk
      exact ⟨rfl, rfl, i + 1, erest, by simpa using q⟩
    | false =>
      rw [c] at q
      wp_walk
      simpa using q
  case fin =>
    rintro ⟨b1, b2⟩ s' ⟨hb', rfl, i, ez, q⟩
    simp only at hb'
    subst hb'
    have il : xs.size ≤ i := by
      apply Nat.le_of_not_lt
      intro c
      rw [List.drop_eq_getElem_cons (by rw [zl]; exact c)] at ez
      cases ez
    rw [List.drop_of_length_le (by simpa using il)] at q
    wp_walk
    simpa [Builtin.Tuple.tupleCompareSizes, hz] using q
  case h =>
    exact ⟨rfl, rfl, 0, rfl, by simpa using hR⟩
theorem rc_tups {A : Around} {s : Shared} {a b : Addr} {xs ys : Array Value} {e : Nat → Bool} (ha : s.heap.IsTuple a xs) (hb : s.heap.IsTuple b ys) (hz : xs.size = ys.size) (hu : A.units < cLine)
    (he : ∀ j (h1 : j < xs.size) (h2 : j < ys.size), EqP prog w A.in1 s xs[j] ys[j] (e j)) (E Q : Value → Shared → Prop) (h : Q (.bool ((List.range xs.size).all e)) s) : wpAny (model prog w) A (richCompare .Eq (.ref a) (.ref b)) Q E s := by
  obtain ⟨⟨c1, d1, t1, s1⟩, o1, e1, n, f1⟩ := id ha
  obtain ⟨⟨c2, d2, t2, s2⟩, o2, e2, m, f2⟩ := id hb
  simp only at e1 f1 e2 f2
  subst e1 f1 e2 f2
  have ta : s.TypeIs (.ref a) "tuple" := ⟨_, o1, rfl⟩
  have tb : s.TypeIs (.ref b) "tuple" := ⟨_, o2, rfl⟩
  exact wpAny_richCompare_same_room (op := .Eq) ta tb F.slot_tuple_eq (call_meetsIn F.slot_tuple_eq ta F.entry_tuple_eq (F.args_tuple_eq_2 _ _) (tup_in a b xs ys n m d1 d2 s1 s2 hz e)
    ⟨o1, o2, he, show Value.bool _ ≠ Value.notImplemented ∧ Q (.bool _) s from ⟨(fun z => nomatch z), h⟩⟩) hu
end EQ
open PySem PySem.Spec PyProof.Rows L2
/-- how the values of ks, each against that of its key in ls, compare -/
inductive HitB (F : V → V → Bool → Prop) (ls : List (Key × V)) : List (Key × V) → Bool → Prop where
  | nil : HitB F ls [] true
  | miss {k : Key} {v : V} {r : List (Key × V)} (h : valV ls k = none) : HitB F ls ((k, v) :: r) false
  | hit {k : Key} {v y : V} {r : List (Key × V)} {e b : Bool} (h : valV ls k = some y) (f : F v y e) (t : HitB F ls r b) : HitB F ls ((k, v) :: r) (e && b)
def EqC (K : PySem.W.Frag) (H : Hp) (F : V → V → Bool → Prop) (x y : V) (b : Bool) : Prop :=
  (∃ p q xs ys e, x = .ref p ∧ y = .ref q ∧ SqL K H p xs ∧ SqL K H q ys ∧ xs.length = ys.length ∧ (∀ (j : Nat) (u v : V), xs[j]? = some u → ys[j]? = some v → F u v (e j)) ∧ b = (List.range xs.length).all e) ∨
  (∃ p q xs ys, x = .ref p ∧ y = .ref q ∧ SqL K H p xs ∧ SqL K H q ys ∧ xs.length ≠ ys.length ∧ b = false) ∨
  (∃ p q xs ys e, x = .ref p ∧ y = .ref q ∧ SqT K H p xs ∧ SqT K H q ys ∧ xs.length = ys.length ∧ (∀ (j : Nat) (u v : V), xs[j]? = some u → ys[j]? = some v → F u v (e j)) ∧ b = (List.range xs.length).all e) ∨
  ∃ p q ks ls r, x = .ref p ∧ y = .ref q ∧ H p = some (.dK ks) ∧ H q = some (.dK ls) ∧ (ks.length = ls.length → HitB F ls ks r) ∧ b = (ks.length == ls.length && r)
/-- how two values compare, of nesting up to n -/
def EqB (K : PySem.W.Frag) (H : Hp) : Nat → V → V → Bool → Prop
  | 0 => fun x y b => flatV x = true ∧ flatV y = true ∧ b = eqV x y
  | n + 1 => fun x y b => (flatV x = true ∧ flatV y = true ∧ b = eqV x y) ∨ (∃ a, x = .ref a ∧ y = .ref a ∧ b = true) ∨ ((∃ p q, x = .ref p ∧ y = .ref q ∧ p ≠ q) ∧ EqC K H (EqB K H n) x y b)
section
variable {X : Cx} {pins : List (Addr × Obj)} {σ : L2.St} {H : Hp} {s : Shared}
theorem items_at {P : Program} {w : World} {A : Around} {s : Shared} {F : V → V → Bool → Prop} (ih : ∀ x y b v u, F x y b → RelV x v → RelV y u → SeqAt.EqP P w A s v u b) {xs ys : List V} {e : Nat → Bool}
    (h : ∀ (j : Nat) (u v : V), xs[j]? = some u → ys[j]? = some v → F u v (e j)) {us ws : List Value} (r1 : Vals xs us) (r2 : Vals ys ws) (j : Nat) (h1 : j < us.toArray.size) (h2 : j < ws.toArray.size) : SeqAt.EqP P w A s us.toArray[j] ws.toArray[j] (e j) := by
  have l1 : j < us.length := by simpa using h1
  have l2 : j < ws.length := by simpa using h2
  have m1 : j < xs.length := by rw [r1.length]; exact l1
  have m2 : j < ys.length := by rw [r2.length]; exact l2
  obtain ⟨u, e1, ru⟩ := r1.get (show xs[j]? = some xs[j] by simp [m1])
  obtain ⟨v, e2, rv⟩ := r2.get (show ys[j]? = some ys[j] by simp [m2])
  have := ih _ _ _ u v (h j _ _ (by simp [m1]) (by simp [m2])) ru rv
  simp [l1] at e1
  simp [l2] at e2
  simpa [e1, e2] using this
theorem hits_at {P : Program} {w : World} {A : Around} {s : Shared} {F : V → V → Bool → Prop} (ih : ∀ x y b v u, F x y b → RelV x v → RelV y u → SeqAt.EqP P w A s v u b) {ls : List (Key × V)} {vb : List (Key × Value)} (rb : KV ls vb) :
    ∀ {ks : List (Key × V)} {r : Bool} {va : List (Key × Value)}, HitB F ls ks r → KV ks va → PySem.W.KeqHitsP P w A s vb va r
  | _, _, _, .nil, ra => by
    cases ra
    exact .nil
  | _, _, _, @HitB.miss _ _ kk _ _ h, ra => by
    cases ra with
    | @cons _ q ps qs hh t =>
      obtain ⟨h1, h2⟩ := hh
      obtain ⟨key, v⟩ := q
      cases (show _ = key from h1)
      have rr : RelO (valV ls kk) (PySem.valueAt vb kk) := rb.val kk
      refine .miss ?_
      rw [h] at rr
      cases e : PySem.valueAt vb kk with
      | none => rfl
      | some z => rw [e] at rr; exact rr.elim
  | _, _, _, @HitB.hit _ _ kk _ y0 _ _ _ h f t, ra => by
    cases ra with
    | @cons _ q ps qs hh tt =>
      obtain ⟨h1, h2⟩ := hh
      obtain ⟨key, v⟩ := q
      cases (show _ = key from h1)
      have rr : RelO (some y0) (PySem.valueAt vb kk) := by rw [← h]; exact rb.val _
      obtain ⟨y, hy, ry⟩ := rr.some_of
      exact .hit hy (ih _ _ _ _ _ f h2 ry) (hits_at ih rb t tt)
theorem eqC_run (I : Inv X pins σ H s) {A : Around} {F : V → V → Bool → Prop} (hu : A.units < cLine) (ih : ∀ x y b v u, F x y b → RelV x v → RelV y u → SeqAt.EqP X.prog X.w A.in1 s v u b) {x y : V} {b : Bool} {v u : Value} (h : EqC X.K H F x y b) (rx : RelV x v) (ry : RelV y u)
    (E Q : Value → Shared → Prop) (q : Q (.bool b) s) : wpAny (model X.prog X.w) A (richCompare .Eq v u) Q E s := by
  rcases h with ⟨p, p2, xs, ys, e, rfl, rfl, ha, hb, hl, hp, rfl⟩ | ⟨p, p2, xs, ys, rfl, rfl, ha, hb, hl, rfl⟩ | ⟨p, p2, xs, ys, e, rfl, rfl, ha, hb, hl, hp, rfl⟩ | ⟨p, p2, ks, ls, r, rfl, rfl, ha, hb, hh, rfl⟩
  · cases (show v = Value.ref p from rx)
    cases (show u = Value.ref p2 from ry)
    obtain ⟨us, r1, p1, _⟩ := I.list ha
    obtain ⟨ws, r2, p2, _⟩ := I.list hb
    have hsz : us.toArray.size = ws.toArray.size := by
      rw [List.size_toArray, List.size_toArray, ← r1.length, ← r2.length]
      exact hl
    refine SeqAt.rcP_lists (e := e) p1.isList p2.isList hsz hu (fun j h1 h2 => items_at ih hp r1 r2 j h1 h2) E Q ?_
    have : us.toArray.size = xs.length := by rw [List.size_toArray, ← r1.length]
    rw [this]
    exact q
  · cases (show v = Value.ref p from rx)
    cases (show u = Value.ref p2 from ry)
    obtain ⟨us, r1, p1, _⟩ := I.list ha
    obtain ⟨ws, r2, p2, _⟩ := I.list hb
    refine SeqAt.RcAt.lists_lengths p1.isList p2.isList ?_ hu X.prog X.w E Q q
    rw [List.size_toArray, List.size_toArray, ← r1.length, ← r2.length]
    simpa using hl
  · cases (show v = Value.ref p from rx)
    cases (show u = Value.ref p2 from ry)
    obtain ⟨us, r1, p1, _⟩ := I.tuple ha
    obtain ⟨ws, r2, p2, _⟩ := I.tuple hb
    have hsz : us.toArray.size = ws.toArray.size := by
      rw [List.size_toArray, List.size_toArray, ← r1.length, ← r2.length]
      exact hl
    refine EQ.rc_tups (e := e) p1 p2 hsz hu (fun j h1 h2 => items_at ih hp r1 r2 j h1 h2) E Q ?_
    have : us.toArray.size = xs.length := by rw [List.size_toArray, ← r1.length]
    rw [this]
    exact q
  · cases (show v = Value.ref p from rx)
    cases (show u = Value.ref p2 from ry)
    obtain ⟨_, ya, va, ra, da⟩ := (show ObjOk X.prog X.w H s.heap p (.dK ks) from I.hok p _ ha)
    obtain ⟨_, yb, vb, rb, db⟩ := (show ObjOk X.prog X.w H s.heap p2 (.dK ls) from I.hok p2 _ hb)
    have e1 : ks.length = va.length := Paired.length ra
    have e2 : ls.length = vb.length := Paired.length rb
    refine PySem.W.rcP_dicts (knd := mixKind X.prog X.w) (r := r) ya yb da db hu (fun c => hits_at ih rb (hh (by rw [e1, e2]; exact c)) ra) E Q ?_
    rw [← e1, ← e2]
    exact q
theorem eqB_run (I : Inv X pins σ H s) : ∀ (n : Nat) (A : Around), A.units + n < cLine → ∀ (x y : V) (b : Bool) (v u : Value), EqB X.K H n x y b → RelV x v → RelV y u → SeqAt.EqP X.prog X.w A s v u b
  | 0, A, hu, x, y, b, v, u, ⟨f1, f2, e⟩, rx, ry => by
    rw [e]
    exact (eqAt_V rx ry f1 f2).eqP
  | n + 1, A, hu, x, y, b, v, u, h, rx, ry => by
    rcases h with ⟨f1, f2, e⟩ | ⟨a, rfl, rfl, rfl⟩ | ⟨⟨p, q, rfl, rfl, ne⟩, h⟩
    · rw [e]
      exact (eqAt_V rx ry f1 f2).eqP
    · cases (show v = Value.ref a from rx)
      cases (show u = Value.ref a from ry)
      exact (SeqAt.EqAt.same _).eqP
    · have step := eqC_run I (A := A) (by omega) (eqB_run I n A.in1 (by show A.units + 1 + n < cLine; omega)) h rx ry
      cases (show v = Value.ref p from rx)
      cases (show u = Value.ref q from ry)
      exact SeqAt.eqP_refs ne step
end
section
variable {X : Cx}
/-- a == b, two lists, two tuples, two dicts -/
def rEqB (K : PySem.W.Frag) : R2 := fun x y H Q => ∃ n b, n ≤ 60 ∧ EqC K H (EqB K H n) x y b ∧ Q (.bl b) H
theorem op_eqB (hu : X.A.units + 64 < cLine) : OpR X (compareOp .Eq) (rEqB X.K) := by
  intro pins s σ H x y v u Q I rx ry h
  obtain ⟨n, b, hn, h, q⟩ := h
  exact eqC_run I (A := X.A) (by omega) (eqB_run I n X.A.in1 (by show X.A.units + 1 + n < cLine; omega)) h rx ry _ _ ⟨.bl b, H, I, rfl, q⟩
end
/-! ### dicts of ints over the same targets -/
theorem hitB_ikv {F : V → V → Bool → Prop} (hF : ∀ i j, F (.int i) (.int j) (i == j)) {js : List Nat} (hj : ∀ i ∈ js, i < 6) {g g' : Nat → Int} : ∀ {is : List Nat}, (∀ i ∈ is, i ∈ js) → HitB F (ikv js g') (ikv is g) (is.all fun i => g i == g' i)
  | [], _ => .nil
  | i :: r, h => by
    have m := h i (List.mem_cons_self ..)
    have q := tkv_val (v := fun i => V.int (g' i)) (hj i m) hj
    rw [if_pos m] at q
    exact .hit q (hF _ _) (hitB_ikv hF hj fun k hk => h k (List.mem_cons_of_mem _ hk))
theorem eqC_ikv {K : PySem.W.Frag} {H : Hp} {n : Nat} {p q : Addr} {is : List Nat} {g g' : Nat → Int} (hi : ∀ i ∈ is, i < 6) (hp : H p = some (.dK (ikv is g))) (hq : H q = some (.dK (ikv is g'))) : EqC K H (EqB K H n) (.ref p) (.ref q) (is.all fun i => g i == g' i) := by
  refine .inr (.inr (.inr ⟨p, q, _, _, _, rfl, rfl, hp, hq, fun _ => hitB_ikv (F := EqB K H n) (fun i j => ?_) hi fun _ h => h, ?_⟩))
  · cases n with
    | zero => exact ⟨rfl, rfl, rfl⟩
    | succ n => exact .inl ⟨rfl, rfl, rfl⟩
  · have e : ((ikv is g).length == (ikv is g').length) = true := by simp [ikv, tkv_len]
    rw [e, Bool.true_and]
end Bal
set_option autoImplicit true
set_option Elab.async false
set_option linter.all false
set_option maxRecDepth 100000
set_option maxHeartbeats 4000000
/-! WO: == and != by an own __eq__ (no own __ne__). -/
namespace Bal
namespace OQ
open PySem PySem.W PySem.Calls PyProof.Rows
section
variable {prog : Program} {w : World} {A : Around} {E : Value → Shared → Prop} {s : Shared} {K : Frag} {x C L f : Addr} {h₀ : Heap} {m : Str → Option Value} {ox : Obj} {od : Option Obj} {b tb : Value}
/-- a comparison whose first try answers -/
theorem rich_try {op : CmpOp} {Q : Value → Shared → Prop} (hu : A.units < cLine) (X : K.In s.heap) (I : InstAt s.heap x ox C od) (hb : Looks (model prog w) s.heap (typeOf b) tb) (hn : notFirst K C tb = true)
    (one : wpAny (model prog w) A (tryCompare (.ref x) (cmpInfo op).2.1 b) (fun r s' => ∃ v, r = some v ∧ Q v s') E s) : wpAny (model prog w) A (richCompare op (.ref x) b) Q E s := by
  have last : ∀ (r : Option Value) (s' : Shared), (∃ v, r = some v ∧ Q v s') → ∃ v, r = some v ∧ Q v s' := fun _ _ z => z
  unfold richCompare
  simp only [oneThing_ref]
  refine wpAny_holding (wpAny_bind (wpAny_cRoomFor hu (wpAny_bind (I.type.here (wpAny_bind (hb.here ?_))))))
  split
  · rename_i q
    have e : subIn K tb (.ref C) = some false := by
      unfold notFirst at hn
      rw [Bool.or_eq_true] at hn
      rcases hn with e | e
      · rw [beq_iff_eq.mp e] at q
        simp at q
      · exact beq_iff_eq.mp e
    refine wpAny_bind ((looks_subIn X e).here ?_)
    simp only [Bool.false_eq_true, if_false]
    refine wpAny_bind (wpAny_mono one (fun r s' z => ?_) fun _ _ z => z)
    obtain ⟨v, rfl, hv⟩ := z
    exact wpAny_pure hv
  · refine wpAny_bind (wpAny_pure ?_)
    simp only [Bool.false_eq_true, if_false]
    refine wpAny_bind (wpAny_mono one (fun r s' z => ?_) fun _ _ z => z)
    obtain ⟨v, rfl, hv⟩ := z
    exact wpAny_pure hv
/-- a built-in slot's function bound -/
theorem bound_slot {M : Model} {name : Str} {id : String} {args : List Value} {Q : Option Value → Shared → Prop} (X : K.In s.heap) (I : InstAt s.heap x ox C od) (hs : findIn K (.ref C) name = some (some (.builtin id))) (S : Slot "object" name id)
    (h : wpAny M A (call (.builtin id) (.ref x :: args)) (fun v => Q (some v)) E s) : wpAny M A (callSpecialIfBound? (.ref x) name args) Q E s := by
  have fin : wpAny M A (call (.builtin id) ([.ref x] ++ args) >>= fun v => pure (some v)) Q E s := wpAny_bind (wpAny_mono h (fun _ _ z => wpAny_pure z) fun _ _ z => z)
  simp only [callSpecialIfBound?, bindSpecialIfBound?]
  refine wpAny_holding (wpAny_bind (wpAny_bind (wpAny_bind (I.type.here ((looks_findIn X hs).here ?_)))))
  simp only [S.bind]
  refine wpAny_bind (wpAny_askSetting (wpAny_ite ?_))
  split
  · exact wpAny_bind (wpAny_pure (wpAny_pure fin))
  · exact wpAny_tryCatch (wpAny_bind (wpAny_pure (wpAny_pure fin)))
theorem try_ne {Q : Option Value → Shared → Prop} (X : K.In s.heap) (I : InstAt s.heap x ox C od) (hu : A.units + 1 < cLine) (hne : findIn K (.ref C) "__ne__" = some (some (.builtin "object.__ne__"))) (hob : mroIn K C (.type "object") = some true)
    (hs : findIn K (.ref C) "__eq__" = some (some (.ref f))) (hf : isFn K (.ref f) = true)
    (h : wpAny (model prog w) A.in1 (call (.ref f) [.ref x, b]) (fun v s' => ∃ r, v = .bool r ∧ Q (some (.bool (!r))) s') E s) : wpAny (model prog w) A (tryCompare (.ref x) "__ne__" b) Q E s := by
  have sub : Looks (model prog w) s.heap (isInstance (.ref x) (.type "object")) true := I.type.andThen (looks_mroIn X hob)
  have body : wpAny (model prog w) A (call (.builtin "object.__ne__") [.ref x, b]) (fun v s' => ∃ r : Bool, v = .bool r ∧ Q (some v) s') E s := by
    refine wpAny_call (codeAny_call_builtin F.cmp_object.ne.plain F.cmpEntry_ne (check_slot F.cmpKind_ne F.cmpSplit_ne sub (F.cmpArgs_ne _ _) ?_))
    unfold Builtin.«object.__ne__»
    have hu1 : A.in1.units < cLine := hu
    repeat (first | with_reducible refine wpAny_cRoomFor hu1 ?_ | (refine wpAny_bind (m := callSpecialIfBound? (.ref x) (Str.ofString "__eq__") [b]) (ifBound_K X I hs hf (wpAny_mono h (fun v s' z => ?_) fun _ _ z => z))) | wp_step)
    obtain ⟨r, rfl, q⟩ := z
    refine wpAny_bind (m := truthy (.bool r)) (wpAny_truthy_bool ?_)
    exact wpAny_pure ⟨_, rfl, q⟩
  simp only [tryCompare]
  refine wpAny_bind (bound_slot X I hne F.cmp_object.ne (wpAny_mono body (fun v s' z => ?_) fun _ _ z => z))
  obtain ⟨r, rfl, q⟩ := z
  exact wpAny_pure q
end
end OQ
open PySem PySem.Spec PyProof.Rows L2
section
variable {X : Cx} {CX : CXT} {k : Nat} {C : Addr} {sp : Sp} {E : XK}
def rOwnEq (C : Addr) (sp : Sp) (E : XK) : R2 := fun x y H Q => ∃ a dx fs, x = .ref a ∧ H a = some (.ins C dx fs) ∧ ((∃ b dy gs, y = .ref b ∧ H b = some (.ins C dy gs)) ∨ ∃ i, y = .int i) ∧ sp [x, y] H Q E
def rOwnNe (C : Addr) (sp : Sp) (E : XK) : R2 := fun x y H Q => ∃ a dx fs b dy gs, x = .ref a ∧ H a = some (.ins C dx fs) ∧ y = .ref b ∧ H b = some (.ins C dy gs) ∧ sp [x, y] H (fun v H' => ∃ r, v = .bl r ∧ Q (.bl (!r)) H') E
/-- the callee, run a step further in -/
theorem run_in1 {f : Addr} {fd : FuncData} {ps : List Str} {pins : List (Addr × Obj)} {σ : L2.St} {H : Hp} {s : Shared} {Q : VK} {us : List Value} {vs : List V} (F : FnOk X.prog X.w X.K X.mg X.base CX k f fd ps sp) (hr : Room (k + 1) X.A) (hb : Binds X.K fd ps []) (hx : Passes CX X E)
    (I : Inv X pins σ H s) (r : Vals vs us) (h : sp vs H Q E) : wpAny (model X.prog X.w) X.A.in1 (call (.ref f) us) (EP X pins σ Q) X.xe s := by
  have hl : (us ++ []).length = ps.length := by rw [List.append_nil, ← r.length]; exact F.len _ _ _ _ h
  refine wpAny_call (codeAny_mono (F.run X.A.in1 X.stack s H ⟨us, []⟩ (us ++ []) vs Q E hr.in1 I.env0.in1 (hb s us I.kIn hl) (by rw [List.append_nil]; exact r) h) fun r s' hq => ?_)
  cases r with
  | error e => exact hx pins σ H s e s' I hq
  | ok fl =>
    cases fl with
    | ret u => exact I.after hq
    | next => exact False.elim hq
    | brk => exact False.elim hq
    | cont => exact False.elim hq
theorem op_ownEq (c : MtG X.prog X.w X.K X.mg X.base CX k C "__eq__" sp []) (hr : Room k X.A) (hn : PySem.W.notFirst X.K C (.type "int") = true) (hx : Passes CX X E) : OpR X (compareOp .Eq) (rOwnEq C sp E) := by
  obtain ⟨f, fd, ps, ds, hc, hm, F, hb, hd⟩ := c.ex
  cases hd
  intro pins s σ H x y v u Q I rx ry h
  obtain ⟨a, dx, fs, rfl, ha, hy, q⟩ := h
  cases (show v = Value.ref a from rx)
  obtain ⟨mA, O, _⟩ := ins_get I.hok ha
  obtain ⟨od, J, _⟩ := O.look
  obtain ⟨m, hF⟩ := I.fr
  have fin : wpAny (model X.prog X.w) X.A (call (.ref f) [.ref a, u]) (PySem.W.CmpBack (EP X pins σ Q)) X.xe s :=
    wpAny_mono (run_fn (us := [.ref a, u]) (vs := [.ref a, y]) F hr hb .nil hx I (.cons rx (.cons ry .nil)) q) (fun w s' z => by
      obtain ⟨z', H', I', rz, qz⟩ := z
      exact SlX.cmpback rz ⟨z', H', I', rz, qz⟩) fun _ _ z => z
  show wpAny _ _ (richCompare .Eq (.ref a) u) _ _ _
  rcases hy with ⟨b, dy, gs, rfl, hb2⟩ | ⟨i, rfl⟩
  · cases (show u = Value.ref b from ry)
    obtain ⟨mB, O2, _⟩ := ins_get I.hok hb2
    obtain ⟨od2, J2, _⟩ := O2.look
    exact PySem.W.cmp_K (op := .Eq) (tb := .ref C) hr.units0 hF I.ok.mod.kin J J2.type (by unfold PySem.W.notFirst; simp) hm.at_ hm.fn fin
  · obtain ⟨t, rfl⟩ := (show ∃ t, u = Value.int i t from ry)
    exact PySem.W.cmp_K (op := .Eq) (tb := .type "int") hr.units0 hF I.ok.mod.kin J .now hn hm.at_ hm.fn fin
theorem op_ownNe (c : MtG X.prog X.w X.K X.mg X.base CX k C "__eq__" sp []) (hr : Room (k + 1) X.A) (hu : X.A.units + 1 < cLine) (hne : PySem.W.findIn X.K (.ref C) "__ne__" = some (some (.builtin "object.__ne__"))) (hob : PySem.W.mroIn X.K C (.type "object") = some true) (hx : Passes CX X E) : OpR X (compareOp .NotEq) (rOwnNe C sp E) := by
  obtain ⟨f, fd, ps, ds, hc, hm, F, hb, hd⟩ := c.ex
  cases hd
  intro pins s σ H x y v u Q I rx ry h
  obtain ⟨a, dx, fs, b, dy, gs, rfl, ha, rfl, hb2, q⟩ := h
  cases (show v = Value.ref a from rx)
  cases (show u = Value.ref b from ry)
  obtain ⟨mA, O, _⟩ := ins_get I.hok ha
  obtain ⟨od, J, _⟩ := O.look
  obtain ⟨mB, O2, _⟩ := ins_get I.hok hb2
  obtain ⟨od2, J2, _⟩ := O2.look
  show wpAny _ _ (richCompare .NotEq (.ref a) (.ref b)) _ _ _
  refine OQ.rich_try (op := .NotEq) hr.units0 I.kIn J J2.type (by unfold PySem.W.notFirst; simp) ?_
  refine OQ.try_ne I.kIn J hu hne hob hm.at_ hm.fn ?_
  refine wpAny_mono (run_in1 (us := [.ref a, .ref b]) (vs := [.ref a, .ref b]) F hr hb hx I (.cons rfl (.cons rfl .nil)) q) (fun w s' z => ?_) fun _ _ z => z
  obtain ⟨z', H', I', rz, r, rfl, qz⟩ := z
  cases (show w = Value.bool r from rz)
  exact ⟨r, rfl, _, rfl, .bl (!r), H', I', rfl, qz⟩
end
end Bal
set_option autoImplicit true
set_option Elab.async false
set_option linter.all false
set_option maxRecDepth 100000
set_option maxHeartbeats 4000000
/-! WS: [*d, ..] of a dict. -/
namespace Bal
open PySem PySem.Spec PyProof.Rows L2
section
variable {X : Cx} {pins : List (Addr × Obj)} {σ : L2.St} {H : Hp} {s : Shared}
theorem star_dict {a : Addr} {kvs : List (Key × V)} {E : Value → Shared → Prop} {Q : List Value → Shared → Prop} (I : Inv X pins σ H s) (hcalm : X.calm = true) (hd : Rd H a (.dK kvs))
    (hQ : ∀ us s', Inv X pins σ H s' → Vals (kvs.map fun kv => kV kv.1) us → Q us s') : PySem.W.StarOf (model X.prog X.w) X.A E (.ref a) Q s := by
  obtain ⟨z, lo, vs, rel, dd⟩ := dk_rd I.hok hd
  obtain ⟨ep, hat⟩ := dd.dictAt
  have ek : (kvs.map fun kv => kV kv.1) = vs.map fun p => kV p.1 := by
    have e := congrArg (List.map kV) rel.keys
    rw [List.map_map, List.map_map] at e
    exact e
  have h16 : vs.length ≤ sizeLine := by rw [← rel.length]; exact z
  have hT : s.TypeIs (.ref a) "dict" := dd.typeIs
  have all : wpAny (model X.prog X.w) X.A (collect (.ref a)) Q E s := by
    refine PySem.W.kdu_collect (PySem.W.kdl_dict (knd := mixKind X.prog X.w) (kvs := vs) (ep := ep) lo) (I.ok.hd hcalm) hat h16 fun h' tk acc hk hacc => ?_
    have hv : Vals (vs.map fun p => kV p.1) acc.toList := keys_at (by rw [Array.length_toList]; exact hacc.1) fun j v e => hacc.2 j v (by rw [← Array.getElem?_toList]; exact e)
    rw [← ek] at hv
    exact hQ _ _ (I.kept (t' := tk) hk) hv
  unfold PySem.W.StarOf notIterableAtAll
  exact wpAny_bind (wpAny_specialOf hT PySem.F.slot_dict_iter.lookup (wpAny_pure ⟨rfl, all⟩))
end
def tStarD (te : TE) (t : TA) : TA := fun σ H Q => te σ H fun x H1 => ∃ d kvs, x = .ref d ∧ Rd H1 d (.dK kvs) ∧ t σ H1 fun ys H2 => Q ((kvs.map fun kv => kV kv.1) ++ ys) H2
theorem pa_starD {X : Cx} {e : Expr} {es : List Expr} {te : TE} {t : TA} {p : Pos} (hcalm : X.calm = true) (he : PE X e te) (hr : PA X es t) (hs : starEach (.Starred e p :: es) X.env = (true, eval e X.env) :: starEach es X.env := by rfl) : PA X (.Starred e p :: es) (tStarD te t) := by
  refine ⟨fun pos pins s σ H Q I h => ?_⟩
  refine PySem.W.items_star (thn (he.run pins s σ H _ I h) fun v s1 ⟨y, H1, I1, ry, d, kvs, ey, hd, q⟩ => ?_) hs
  subst ey
  obtain rfl : v = Value.ref d := ry
  refine star_dict I1 hcalm hd fun us s2 I2 rv => ?_
  exact thn (hr.run pos pins s2 σ H1 _ I2 q) fun ws s3 ⟨vs, H3, I3, r3, q3⟩ => ⟨_, H3, I3, rv.append r3, q3⟩
end Bal
set_option autoImplicit true
set_option Elab.async false
set_option linter.all false
set_option maxRecDepth 100000
set_option maxHeartbeats 4000000
/-! W8: Settled: made, compared. -/
namespace Bal
open PySem L2
structure StA where
  p : Addr
  dx : Addr
  td : Addr
  od : Addr
  sd : Addr
  ol : Addr
def stF (z : StA) : List (Str × V) := [("taken", .ref z.td), ("out", .ref z.od), ("standing", .ref z.sd), ("order", .ref z.ol)]
theorem stF_t {z : StA} : (stF z).lookup ("taken" : Str) = some (.ref z.td) := by rfl
theorem stF_o {z : StA} : (stF z).lookup ("out" : Str) = some (.ref z.od) := by rfl
theorem stF_s {z : StA} : (stF z).lookup ("standing" : Str) = some (.ref z.sd) := by rfl
theorem stF_r {z : StA} : (stF z).lookup ("order" : Str) = some (.ref z.ol) := by rfl
structure SetAt (CS : Addr) (H : Hp) (z : StA) (kt ko ks : List (Key × V)) (xs : List V) : Prop where
  ob : H z.p = some (.ins CS z.dx (stF z))
  ta : H z.td = some (.dK kt)
  ou : H z.od = some (.dK ko)
  st : H z.sd = some (.dK ks)
  ol : H z.ol = some (.lst xs)
theorem SetAt.same {CS : Addr} {H H' : Hp} (s : Same H H') {z : StA} {kt ko ks : List (Key × V)} {xs : List V} (h : SetAt CS H z kt ko ks xs) : SetAt CS H' z kt ko ks xs := ⟨s _ _ h.ob, s _ _ h.ta, s _ _ h.ou, s _ _ h.st, s _ _ h.ol⟩
/-- its parts are new, and four -/
structure SetNew (H : Hp) (z : StA) : Prop where
  t : H z.td = none
  o : H z.od = none
  s : H z.sd = none
  r : H z.ol = none
  d1 : z.td ≠ z.od
  d2 : z.td ≠ z.sd
  d3 : z.od ≠ z.sd
def SameN (x : Addr) (H H' : Hp) : Prop := ∀ p o, p ≠ x → H p = some o → H' p = some o
section
variable {P : Program} {w : World} {K : PySem.W.Frag} {mg : Str → Option Value} {base : Heap} {CN CB CS : Addr}
def spSettled (CS : Addr) : Sp := fun vs H Q _ => ∃ x dx t o s r kt ko ks xs, vs = [.ref x, .ref t, .ref o, .ref s, .ref r] ∧ H x = some (.ins CS dx []) ∧ H t = some (.dK kt) ∧ H o = some (.dK ko) ∧ H s = some (.dK ks) ∧ (H r = some (.lst xs) ∨ H r = some (.tup xs)) ∧
  ∀ z H', z.p = x → z.dx = dx → SetAt CS H' z kt ko ks xs → SetNew H z → SameN x H H' → Q .non H'
theorem sc_Settled_init : FnScope ["self", "taken", "out", "standing", "order"] ["self", "taken", "out", "standing", "order"] (defScope s_Settled_init) := ⟨rfl, rfl, rfl, by decide +kernel, rfl, by decide +kernel, by decide +kernel⟩
theorem ok_settled {f : Addr} {fd : FuncData} (F : Fun K "__init__" "Settled.__init__" s_Settled_init f fd) (T : Txt K mg CN CB CS) : FnOk P w K mg base CX0 1 f fd ["self", "taken", "out", "standing", "order"] (spSettled CS) := by
  refine F.ok sc_Settled_init (fun vs H Q E h => ?_) (fun cdv A outer s H vs Q E hr h => ?_)
  · obtain ⟨x, dx, t, o, s, r, kt, ko, ks, xs, rfl, _⟩ := h
    rfl
  · obtain ⟨x, dx, t, o, sd, r, kt, ko, ks, xs, rfl, hx, ht, ho, hs, hr2, kq⟩ := h
    have hu := hu_of hr
    refine ⟨_, (pss_cons (ps_fld (pv 0) (pe_callTy call_dictD (by rfl) T.dict (by decide +kernel) (pa_cons (pv 1) pa_nil)) rfl)
  (pss_cons (ps_fld (pv 0) (pe_callTy call_dictD (by rfl) T.dict (by decide +kernel) (pa_cons (pv 2) pa_nil)) rfl)
  (pss_cons (ps_fld (pv 0) (pe_callTy call_dictD (by rfl) T.dict (by decide +kernel) (pa_cons (pv 3) pa_nil)) rfl)
  (pss_one (ps_fld (pv 0) (pe_callTy call_list_of (by rfl) T.list (by decide +kernel) (pa_cons (pv 4) pa_nil)) rfl))))), ?_⟩
    have nt : t ≠ x := ne_of ht hx (by intro z; cases z)
    have no : o ≠ x := ne_of ho hx (by intro z; cases z)
    have ns : sd ≠ x := ne_of hs hx (by intro z; cases z)
    have nr : r ≠ x := by rcases hr2 with h | h <;> exact ne_of h hx (by intro z; cases z)
    -- taken
    refine ⟨_, rfl, t, _, rfl, .inl ht, fun D1 h1 => ?_⟩
    have n1 : x ≠ D1 := ne_of_none hx h1
    refine ⟨_, rfl, x, CS, dx, _, rfl, (upd_ne n1).trans hx, T.cS, T.nSt, (by show 0 < 1000; decide), ?_⟩
    obtain ⟨H1, e1⟩ : ∃ H1, H1 = upd (upd H D1 (.dK kt)) x (.ins CS dx [("taken", .ref D1)]) := ⟨_, rfl⟩
    have s1 : SameN x H H1 := fun p u c e => by rw [e1, upd_ne c, upd_ne (ne_of_none e h1)]; exact e
    have x1 : H1 x = some (.ins CS dx [("taken", .ref D1)]) := by rw [e1, upd_same]
    have a1 : H1 D1 = some (.dK kt) := by rw [e1, upd_ne (Ne.symm n1), upd_same]
    show tSeq _ _ _ _ (upd (upd H D1 (.dK kt)) x (.ins CS dx [("taken", .ref D1)]))
    rw [← e1]
    clear e1
    -- out
    refine ⟨_, rfl, o, _, rfl, .inl (s1 _ _ no ho), fun D2 h2 => ?_⟩
    have n2 : x ≠ D2 := ne_of_none x1 h2
    have n12 : D1 ≠ D2 := ne_of_none a1 h2
    refine ⟨_, rfl, x, CS, dx, _, rfl, (upd_ne n2).trans x1, T.cS, T.nSo, (by show 1 < 1000; decide), ?_⟩
    obtain ⟨H2, e2⟩ : ∃ H2, H2 = upd (upd H1 D2 (.dK ko)) x (.ins CS dx [("taken", .ref D1), ("out", .ref D2)]) := ⟨_, rfl⟩
    have s12 : SameN x H1 H2 := fun p u c e => by rw [e2, upd_ne c, upd_ne (ne_of_none e h2)]; exact e
    have s2 : SameN x H H2 := fun p u c e => s12 p u c (s1 p u c e)
    have x2 : H2 x = some (.ins CS dx [("taken", .ref D1), ("out", .ref D2)]) := by rw [e2, upd_same]
    have a2 : H2 D2 = some (.dK ko) := by rw [e2, upd_ne (Ne.symm n2), upd_same]
    have a12 : H2 D1 = some (.dK kt) := s12 _ _ (Ne.symm n1) a1
    show tSeq _ _ _ _ (upd (upd H1 D2 (.dK ko)) x (.ins CS dx [("taken", .ref D1), ("out", .ref D2)]))
    rw [← e2]
    clear e2
    -- standing
    refine ⟨_, rfl, sd, _, rfl, .inl (s2 _ _ ns hs), fun D3 h3 => ?_⟩
    have n3 : x ≠ D3 := ne_of_none x2 h3
    have n13 : D1 ≠ D3 := ne_of_none a12 h3
    have n23 : D2 ≠ D3 := ne_of_none a2 h3
    refine ⟨_, rfl, x, CS, dx, _, rfl, (upd_ne n3).trans x2, T.cS, T.nSs, (by show 2 < 1000; decide), ?_⟩
    have s23 : SameN x H2 (upd (upd H2 D3 (.dK ks)) x (.ins CS dx [("taken", .ref D1), ("out", .ref D2), ("standing", .ref D3)])) := fun p u c e => by rw [upd_ne c, upd_ne (ne_of_none e h3)]; exact e
    have s3 : SameN x H (upd (upd H2 D3 (.dK ks)) x (.ins CS dx [("taken", .ref D1), ("out", .ref D2), ("standing", .ref D3)])) := fun p u c e => s23 p u c (s2 p u c e)
    have x3 : (upd (upd H2 D3 (.dK ks)) x (.ins CS dx [("taken", .ref D1), ("out", .ref D2), ("standing", .ref D3)])) x = some (.ins CS dx [("taken", .ref D1), ("out", .ref D2), ("standing", .ref D3)]) := upd_same
    have a3 : (upd (upd H2 D3 (.dK ks)) x (.ins CS dx [("taken", .ref D1), ("out", .ref D2), ("standing", .ref D3)])) D3 = some (.dK ks) := by rw [upd_ne (Ne.symm n3), upd_same]
    -- order
    refine ⟨_, rfl, r, xs, rfl, ?_, fun D4 h4 => ?_⟩
    · rcases hr2 with h | h
      · exact .inl (SqL.of (s3 _ _ nr h))
      · exact .inr (SqT.of (s3 _ _ nr h))
    have n4 : x ≠ D4 := ne_of_none x3 h4
    refine ⟨_, rfl, x, CS, dx, _, rfl, (upd_ne n4).trans x3, T.cS, T.nSr, (by show 3 < 1000; decide), ?_⟩
    have z : ∀ {H' : Hp} {D : Addr}, SameN x H H' → x ≠ D → H' D = none → H D = none := fun {H' D} s n h => by
      cases e : H D with
      | none => rfl
      | some u => exact absurd ((s D u (Ne.symm n) e).symm.trans h) (by simp)
    have n14 : D1 ≠ D4 := ne_of_none (s23 _ _ (Ne.symm n1) a12) h4
    have n24 : D2 ≠ D4 := ne_of_none (s23 _ _ (Ne.symm n2) a2) h4
    have n34 : D3 ≠ D4 := ne_of_none a3 h4
    refine kq ⟨x, dx, D1, D2, D3, D4⟩ _ rfl rfl ⟨upd_same, ?_, ?_, ?_, ?_⟩ ⟨h1, z s1 n2 h2, z s2 n3 h3, z s3 n4 h4, n12, n13, n23⟩ fun p u c e => ?_
    · exact (upd_ne (Ne.symm n1)).trans ((upd_ne n14).trans (s23 _ _ (Ne.symm n1) a12))
    · exact (upd_ne (Ne.symm n2)).trans ((upd_ne n24).trans (s23 _ _ (Ne.symm n2) a2))
    · exact (upd_ne (Ne.symm n3)).trans ((upd_ne n34).trans a3)
    · exact (upd_ne (Ne.symm n4)).trans upd_same
    · exact (upd_ne c).trans ((upd_ne (ne_of_none (s3 _ _ c e) h4)).trans (s3 _ _ c e))
/-! ### __eq__ -/
def spSetEq (K : PySem.W.Frag) (CS : Addr) : Sp := fun vs H Q _ => ∃ z x kt ko ks xs, vs = [.ref z.p, x] ∧ SetAt CS H z kt ko ks xs ∧ ((∃ i, x = .int i ∧ Q (.bl false) H) ∨
  ∃ z2 kt2 ko2 ks2 xs2, x = .ref z2.p ∧ SetAt CS H z2 kt2 ko2 ks2 xs2 ∧ ∃ e : Nat → Bool, EqB K H 5 (.ref z.td) (.ref z2.td) (e 0) ∧ EqB K H 5 (.ref z.od) (.ref z2.od) (e 1) ∧ EqB K H 5 (.ref z.sd) (.ref z2.sd) (e 2) ∧ EqB K H 5 (.ref z.ol) (.ref z2.ol) (e 3) ∧
    ∀ H', Same H H' → Q (.bl ((List.range 4).all e)) H')
theorem same_seqT {K : PySem.W.Frag} {H H' : Hp} {a : Addr} {xs : List V} (s : Same H H') (h : SqT K H a xs) : SqT K H' a xs := by
  rcases h with (h | ⟨o, h⟩) | h
  · exact .inl (.inl (s _ _ h))
  · exact .inl (.inr ⟨o, s _ _ h⟩)
  · exact .inr h
theorem EqB.same {K : PySem.W.Frag} {H H' : Hp} (s : Same H H') : ∀ {n : Nat} {x y : V} {b : Bool}, EqB K H n x y b → EqB K H' n x y b
  | 0, _, _, _, h => h
  | n + 1, x, y, b, h => by
    rcases h with h | h | ⟨ne, h⟩
    · exact .inl h
    · exact .inr (.inl h)
    · refine .inr (.inr ⟨ne, ?_⟩)
      rcases h with ⟨p, q, xs, ys, e, e1, e2, ha, hb, hl, hp, hr⟩ | ⟨p, q, xs, ys, e1, e2, ha, hb, hl, hr⟩ | ⟨p, q, xs, ys, e, e1, e2, ha, hb, hl, hp, hr⟩ | ⟨p, q, ks, ls, r, e1, e2, ha, hb, hh, hr⟩
      · exact .inl ⟨p, q, xs, ys, e, e1, e2, Same.seq s ha, Same.seq s hb, hl, fun j u v h1 h2 => EqB.same s (hp j u v h1 h2), hr⟩
      · exact .inr (.inl ⟨p, q, xs, ys, e1, e2, Same.seq s ha, Same.seq s hb, hl, hr⟩)
      · exact .inr (.inr (.inl ⟨p, q, xs, ys, e, e1, e2, same_seqT s ha, same_seqT s hb, hl, fun j u v h1 h2 => EqB.same s (hp j u v h1 h2), hr⟩))
      · refine .inr (.inr (.inr ⟨p, q, ks, ls, r, e1, e2, s _ _ ha, s _ _ hb, fun c => ?_, hr⟩))
        have hit := hh c
        clear hh hr e1 e2 ha hb c ne
        induction hit with
        | nil => exact .nil
        | miss h => exact .miss h
        | hit h f _ ih => exact .hit h (EqB.same s f) ih
theorem sc_Settled_eq : FnScope ["self", "other", "mine"] ["self", "other"] (defScope s_Settled_eq) := ⟨rfl, rfl, rfl, by decide +kernel, rfl, by decide +kernel, by decide +kernel⟩
theorem ok_setEq {f : Addr} {fd : FuncData} (F : Fun K "__eq__" "Settled.__eq__" s_Settled_eq f fd) (T : Txt K mg CN CB CS) (noSet : PySem.W.kitOne K (.type "int") (.ref CS) = some false) : FnOk P w K mg base CX0 1 f fd ["self", "other"] (spSetEq K CS) := by
  refine F.ok sc_Settled_eq (fun vs H Q E h => ?_) (fun cdv A outer s H vs Q E hr h => ?_)
  · obtain ⟨z, x, kt, ko, ks, xs, rfl, _⟩ := h
    rfl
  · obtain ⟨z, x, kt, ko, ks, xs, rfl, A1, h⟩ := h
    have hu := hu_of hr
    refine ⟨_, (pss_cons (ps_if (pt_not (pt_val (pe_callB call_isi (by rfl) T.isinstance (by decide +kernel) (pa_cons (pv 1) (pa_cons (pe_glob (v := .ref _) (by rfl) T.gSettled rfl) pa_nil))))) (pss_one (ps_ret pe_bl)) pss_nil)
  (pss_cons (ps_set (i := 2) sc_Settled_eq.nd rfl (by first | exact Or.inl rfl | exact Or.inr rfl) (pe_tup (pa_cons (pe_fld (pv 0) rfl) (pa_cons (pe_fld (pv 0) rfl) (pa_cons (pe_fld (pv 0) rfl) (pa_cons (pe_fld (pv 0) rfl) pa_nil))))))
  (pss_one (ps_ret (pe_cmpR (op_eqB hr.units) (pv 2) (pe_tup (pa_cons (pe_fld (pv 1) rfl) (pa_cons (pe_fld (pv 1) rfl) (pa_cons (pe_fld (pv 1) rfl) (pa_cons (pe_fld (pv 1) rfl) pa_nil))))) (nomark _)))))), ?_⟩
    rcases h with ⟨i, rfl, kq⟩ | ⟨z2, kt2, ko2, ks2, xs2, rfl, A2, e, e1, e2, e3, e4, kq⟩
    · refine ⟨_, rfl, _, _, _, _, _, rfl, .own _, .base (.int i), noSet, _, rfl, ?_⟩
      exact kq
    · refine ⟨_, rfl, _, _, _, _, _, rfl, .own _, .base (.ins A2.ob T.iS.cl T.iS.ha T.iS.hn T.iS.htk T.iS.hm), T.iS.me, _, rfl, ?_⟩
      refine ⟨_, rfl, z.p, CS, z.dx, _, _, rfl, A1.ob, T.cS, T.nSt, stF_t, _, rfl, z.p, CS, z.dx, _, _, rfl, A1.ob, T.cS, T.nSo, stF_o, _, rfl, z.p, CS, z.dx, _, _, rfl, A1.ob, T.cS, T.nSs, stF_s, _, rfl, z.p, CS, z.dx, _, _, rfl, A1.ob, T.cS, T.nSr, stF_r, (by show 4 ≤ sizeLine; decide), fun p hp => ?_⟩
      have s1 := same_upd0 (o := .tup [.ref z.td, .ref z.od, .ref z.sd, .ref z.ol]) hp
      have B2 := A2.same s1
      refine ⟨_, rfl, _, rfl, z2.p, CS, z2.dx, _, _, rfl, B2.ob, T.cS, T.nSt, stF_t, _, rfl, z2.p, CS, z2.dx, _, _, rfl, B2.ob, T.cS, T.nSo, stF_o, _, rfl, z2.p, CS, z2.dx, _, _, rfl, B2.ob, T.cS, T.nSs, stF_s, _, rfl, z2.p, CS, z2.dx, _, _, rfl, B2.ob, T.cS, T.nSr, stF_r, (by show 4 ≤ sizeLine; decide), fun q hq => ?_⟩
      have s2 : Same H (upd (upd H p (.tup [.ref z.td, .ref z.od, .ref z.sd, .ref z.ol])) q (.tup [.ref z2.td, .ref z2.od, .ref z2.sd, .ref z2.ol])) := same_upd s1 hq
      refine ⟨5, (List.range 4).all e, by decide, .inr (.inr (.inl ⟨p, q, [.ref z.td, .ref z.od, .ref z.sd, .ref z.ol], [.ref z2.td, .ref z2.od, .ref z2.sd, .ref z2.ol], e, rfl, rfl, SqT.of ?_, SqT.of upd_same, rfl, ?_, rfl⟩)), kq _ s2⟩
      · exact (upd_ne (ne_of_none upd_same hq)).trans upd_same
      · intro j u v h1 h2
        match j with
        | 0 => cases h1; cases h2; exact e1.same s2
        | 1 => cases h1; cases h2; exact e2.same s2
        | 2 => cases h1; cases h2; exact e3.same s2
        | 3 => cases h1; cases h2; exact e4.same s2
        | j + 4 => simp at h1
end
end Bal
set_option autoImplicit true
set_option Elab.async false
set_option linter.all false
set_option maxRecDepth 100000
set_option maxHeartbeats 4000000
/-! W9: begun. -/
namespace Bal
open PySem L2
open PyProof.Rows (sortedS)
def Ends (N : NetM) : Prop := ∀ k, 1 ≤ k → k ≤ N.n → 0 < minor (tabOf N.n N.mat) k
structure GoodB (H : Hp) (N : NetM) (J : Nat) (y : V) (es : List (Str × Nat × Nat)) : Prop where
  at_ : ∃ d, y = .ref d ∧ H d = some (.dK (entB es))
  len : es.length ≤ 2
  srt : sortedS (es.map (·.1)) = true
  nd : (es.map (·.1)).Nodup
  ok : ∀ e ∈ es, Good1 N J e
theorem GoodB.same {H H' : Hp} (s : Same H H') {N : NetM} {J : Nat} {y : V} {es : List (Str × Nat × Nat)} (h : GoodB H N J y es) : GoodB H' N J y es := ⟨let ⟨d, e, q⟩ := h.at_; ⟨d, e, s _ _ q⟩, h.len, h.srt, h.nd, h.ok⟩
theorem BadB.same {H H' : Hp} (s : Same H H') {N : NetM} {x : V} (h : BadB H N x) : BadB H' N x := by
  cases h with
  | thing t h => exact .thing (t.same s) h
  | no e h1 h2 h => exact .no (s _ _ e) h1 h2 h
  | one e h p hv => exact .one (s _ _ e) h p hv
  | two e => exact .two (s _ _ e)
theorem BadSt.same {H H' : Hp} (s : Same H H') {N : NetM} {x : V} (h : BadSt H N x) : BadSt H' N x := by
  cases h with
  | thing t h => exact .thing (t.same s) h
  | len e h => exact .len (s _ _ e) h
  | place e p h => exact .place (s _ _ e) p h
def stB (es : List (Str × Nat × Nat)) : BdM := ⟨sumB es, fun _ => 0, fun _ => 0, fun _ => 0⟩
theorem sumB_out {N : NetM} {J : Nat} : ∀ {es : List (Str × Nat × Nat)}, (∀ e ∈ es, Good1 N J e) → ∀ t, ¬ t < N.n → sumB es t = 0
  | [], _, _, _ => rfl
  | e :: r, h, t, ht => by
    have ih := sumB_out (fun f hf => h f (List.mem_cons_of_mem _ hf)) t ht
    have h1 := (h e (List.mem_cons_self ..)).1
    show (if e.2.1 = t then e.2.2 else 0) + sumB r t = 0
    rw [ih, if_neg (by omega)]
theorem wInt_stB {N : NetM} {J : Nat} {es : List (Str × Nat × Nat)} (h : ∀ e ∈ es, Good1 N J e) : wInt N (stB es) = fun t => (sumB es t : Int) := by
  funext t
  unfold wInt
  split
  · rfl
  · rename_i c
    rw [sumB_out h t c]
    rfl
structure Errs where
  nt : Addr
  bb : Addr
  bs : Addr
  bo : Addr
/-- what is refused: the net, the balls, the standing -/
def Refused (CN : Addr) (er : Errs) (H : Hp) (E : XK) (x y z : V) : Prop :=
  (∃ n, Thing H x n ∧ n ∈ ["NoneType", "int", "dict", "str"] ∧ ∀ H' d, Same H H' → H' d = none → E (.ref er.nt) (some d) (upd H' d (.xd [("name", .non)]))) ∨
  ∃ N J a, x = .ref a.p ∧ NetAt CN H N J a ∧ N.Good ∧ Ends N ∧ ((BadB H N y ∧ ∀ H', Same H H' → E (.ref er.bb) none H') ∨
    (∃ es, GoodB H N J y es) ∧ z ≠ .non ∧ BadSt H N z ∧ ∀ H', Same H H' → E (.ref er.bs) none H')
theorem Refused.same {CN : Addr} {er : Errs} {H H' : Hp} (s : Same H H') {E : XK} {x y z : V} (h : Refused CN er H E x y z) : Refused CN er H' E x y z := by
  have tr : ∀ {H2 : Hp}, Same H' H2 → Same H H2 := fun s2 p o e => s2 _ _ (s _ _ e)
  rcases h with ⟨n, t, hn, k⟩ | ⟨N, J, a, e, A, G, En, h⟩
  · exact .inl ⟨n, t.same s, hn, fun H2 d s2 hd => k H2 d (tr s2) hd⟩
  · refine .inr ⟨N, J, a, e, A.same s, G, En, ?_⟩
    rcases h with ⟨b, k⟩ | ⟨⟨es, g⟩, hz, b, k⟩
    · exact .inl ⟨b.same s, fun H2 s2 => k H2 (tr s2)⟩
    · exact .inr ⟨⟨es, g.same s⟩, hz, b.same s, fun H2 s2 => k H2 (tr s2)⟩
section
variable {P : Program} {w : World} {K : PySem.W.Frag} {mg : Str → Option Value} {base : Heap} {CN CB CS : Addr} {er : Errs}
def spBegun (CN CB : Addr) (er : Errs) : Sp := fun vs H Q E => ∃ x y z, vs = [x, y, z] ∧ (Refused CN er H E x y z ∨
  ∃ N J a es, x = .ref a.p ∧ NetAt CN H N J a ∧ N.Good ∧ GoodB H N J y es ∧ z = .non ∧ ∀ H0 b H', Same H H0 → BoardAt CN CB H0 H' N J a b (stB es) → Q (.ref b.p) H')
theorem sc_begun : FnScope ["net", "balls", "standing", "told"] ["net", "balls", "standing"] (defScope s_begun) := ⟨rfl, rfl, rfl, by decide +kernel, rfl, by decide +kernel, by decide +kernel⟩
theorem ok_begun {f : Addr} {fd : FuncData} (F : Fun K "begun" "begun" s_begun f fd) (T : Txt K mg CN CB CS) (G_check_net : FnG P w K mg base (L2.CX P w) 2 "check_net" (spCheckNet CN er.nt) []) (G_check_balls : FnG P w K mg base (L2.CX P w) 2 "check_balls" (spBalls CN er.bb) [])
    (G_standing : MtG P w K mg base (L2.CX P w) 2 CN "check_standing" (spStanding CN er.bs) []) (G_start : MtG P w K mg base CX0 1 CN "start" (spStart CN) []) (G_Board : MkG P w K mg base CX0 1 "Board" CB (spBoard CN CB) []) :
    FnOk P w K mg base (L2.CX P w) 3 f fd ["net", "balls", "standing"] (spBegun CN CB er) := by
  refine F.okX sc_begun (fun vs H Q E h => ?_) (fun cdv A outer s H vs Q E hr h => ?_)
  · obtain ⟨x, y, z, rfl, _⟩ := h
    rfl
  · obtain ⟨x, y, z, rfl, h⟩ := h
    have hu := hu_of hr
    refine ⟨_, (pss_cons (ps_expr (pe_f G_check_net hr (by decide) (by rfl) (passes_call (takes_of rfl rfl rfl rfl) (fun _ _ _ _ h => h)) (pa_cons (pv 0) pa_nil)))
  (pss_cons (ps_set (i := 3) sc_begun.nd rfl (by first | exact Or.inl rfl | exact Or.inr rfl) (pe_f G_check_balls hr (by decide) (by rfl) (passes_call (takes_of rfl rfl rfl rfl) (fun _ _ _ _ h => h)) (pa_cons (pv 0) (pa_cons (pv 1) pa_nil))))
  (pss_cons (ps_if (pt_cmp (pc_notN (pv 2)) rfl) (pss_one (ps_expr (pe_m G_standing hr (by decide) (passes_call (takes_of rfl rfl rfl rfl) (fun _ _ _ _ h => h)) (pv 0) (pa_cons (pv 2) pa_nil)))) pss_nil)
  (pss_one (ps_ret (pe_k G_Board hr (by decide) (by rfl) pass0 (pa_cons (pv 0) (pa_cons (pe_ifExp (pt_cmp (pc_isN (pv 2)) rfl) (pe_m0 G_start hr (by decide) pass0 (pv 0)) (pv 2)) (pa_cons (pv 3) pa_nil))))))))), ?_⟩
    rcases h with (⟨n, t, hn, kE⟩ | ⟨N, J, a, rfl, A1, G, En, h⟩) | ⟨N, J, a, es, rfl, A1, G, gb, rfl, kq⟩
    · exact ⟨_, rfl, x, rfl, .inr ⟨n, t, hn, fun d hd => kE H d (Same.refl H) hd⟩⟩
    · have hn1 := G.n1
      have hn4 := G.n4
      refine ⟨_, rfl, _, rfl, .inl ⟨a.p, _, _, rfl, A1.ob, ?_⟩⟩
      rcases h with ⟨b, kE⟩ | ⟨⟨es, gb⟩, hz, b, kE⟩
      · exact ⟨_, rfl, _, rfl, N, J, a, y, rfl, A1, hn4, hn1, .inl ⟨b, kE⟩⟩
      · obtain ⟨d, rfl, hd⟩ := gb.at_
        refine ⟨_, rfl, _, rfl, N, J, a, _, rfl, A1, hn4, hn1, .inr ⟨d, es, rfl, hd, gb.len, gb.srt, gb.nd, gb.ok, fun d' is H' _ s' hI hd' => ?_⟩⟩
        refine ⟨_, rfl, _, rfl, ?_⟩
        refine ite2 (fun _ => ?_) (fun c => absurd ?_ c)
        · exact ⟨_, rfl, a.p, _, _, rfl, (s' _ _ A1.ob), rfl, _, rfl, N, J, a, z, rfl, A1.same s', hn4, hn1, b.same s', kE _ s'⟩
        · rw [decide_eq_false hz]
          rfl
    · have hn1 := G.n1
      have hn4 := G.n4
      obtain ⟨d, rfl, hd⟩ := gb.at_
      refine ⟨_, rfl, _, rfl, .inl ⟨a.p, _, _, rfl, A1.ob, ?_⟩⟩
      refine ⟨_, rfl, _, rfl, N, J, a, _, rfl, A1, hn4, hn1, .inr ⟨d, es, rfl, hd, gb.len, gb.srt, gb.nd, gb.ok, fun d' is H1 _ s1 hI hd' => ?_⟩⟩
      refine ⟨_, rfl, _, rfl, ?_⟩
      refine iteF ?_
      refine ⟨_, rfl, _, rfl, _, rfl, ?_⟩
      refine iteT ⟨_, rfl, a.p, _, _, rfl, s1 _ _ A1.ob, rfl, N, J, a, rfl, A1.same s1, hn4, fun sd H2 hsd s2 hsd2 => ?_⟩
      refine ⟨_, rfl, fun x dx hx hdx ne => ?_⟩
      have s12 : Same H H2 := fun p o e => s2 _ _ (s1 _ _ e)
      have hI2 : IntI is (wInt N (stB es)) := by rw [wInt_stB gb.ok]; exact hI
      have hw2 : H2 d' = some (.dK (ikv is (wInt N (stB es)))) := by rw [wInt_stB gb.ok]; exact s2 _ _ hd'
      refine ⟨H2, N, J, a, x, dx, sd, d', fun _ => 0, is, sumB es, rfl, A1.same s12, same_upd (same_upd0 hdx) ((upd_ne (Ne.symm ne)).trans hx), hx, hn4, upd_same, hsd2, hI2, hw2, fun b H3 eb B => ⟨rfl, ?_⟩⟩
      rw [← eb]
      exact kq H2 b H3 s12 B
end
end Bal
set_option autoImplicit true
set_option Elab.async false
set_option linter.all false
set_option maxRecDepth 100000
set_option maxHeartbeats 4000000
/-! W10: shows. -/
namespace Bal
open PySem L2
/-- a def with defaults, as it stands -/
structure FunA (K : PySem.W.Frag) (x qual : Str) (st : Stmt) (f : Addr) (fd : FuncData) : Prop where
  ex : ∃ (oc : Value) (od : Option Addr) (dV kV doc pm : Value) (an : Option Addr) (cdv ct : Value) (osl : Array (Option Value)),
    fd = PySem.W.fnOf x qual (defArgs st) (defBody st) (defScope st) dV kV doc pm an cdv ct ∧ K.lookup f = some ⟨oc, od, .func fd, osl⟩ ∧ PySem.W.codeIn K cdv qual = true
section
variable {P : Program} {w : World} {K : PySem.W.Frag} {mg : Str → Option Value} {base : Heap} {x qual : Str} {st : Stmt} {f : Addr} {fd : FuncData} {N ps : List Str} {k : Nat} {sp : Sp}
theorem FunA.ok (F : FunA K x qual st f fd) (S : FnScope N ps (defScope st)) (len : ∀ vs H Q E, sp vs H Q E → vs.length = ps.length)
    (hb : ∀ cdv A outer (s : Shared) H vs Q E, Room k (A.deeper (PyProof.Rows.envOfC qual (defScope st) s.heap.objs.size f cdv)) → sp vs H Q E →
      ∃ t, PSs (cxOf CX0 P w K mg base N qual (defScope st) f cdv A outer s H E).nox (defBody st) t ∧ t { nx := fun _ H' => Q .non H', rt := Q } (L2.start N vs) H) : FnOk P w K mg base CX0 (k + 1) f fd ps sp := by
  obtain ⟨oc, od, dV, kV, doc, pm, an, cdv, ct, osl, rfl, lk, hcd⟩ := F.ex
  refine fn_of lk hcd S len fun A outer s H vs Q E hr hsp => ?_
  obtain ⟨t, h, q⟩ := hb cdv A outer s H vs Q E hr hsp
  exact ⟨t, h.nox, q⟩
theorem FunA.okX (F : FunA K x qual st f fd) (S : FnScope N ps (defScope st)) (len : ∀ vs H Q E, sp vs H Q E → vs.length = ps.length)
    (hb : ∀ cdv A outer (s : Shared) H vs Q E, Room k (A.deeper (PyProof.Rows.envOfC qual (defScope st) s.heap.objs.size f cdv)) → sp vs H Q E →
      ∃ t, PSs (cxOf (L2.CX P w) P w K mg base N qual (defScope st) f cdv A outer s H E) (defBody st) t ∧ t { nx := fun _ H' => Q .non H', rt := Q } (L2.start N vs) H) : FnOk P w K mg base (L2.CX P w) (k + 1) f fd ps sp := by
  obtain ⟨oc, od, dV, kV, doc, pm, an, cdv, ct, osl, rfl, lk, hcd⟩ := F.ex
  exact fn_of lk hcd S len fun A outer s H vs Q E hr hsp => hb cdv A outer s H vs Q E hr hsp
end
section
variable {X : Cx} {CX : CXT} {k j : Nat} {C : Addr} {x m : Str} {sp : Sp} {dvs : List V} {E : L2.St → XK} {p pos apos : Pos} {e o : Expr} {es : List Expr} {ta : TE} {t : TA}
theorem pe_fS (c : FnG X.prog X.w X.K X.mg X.base CX k x sp dvs) (hr : Room j X.A) (hk : k ≤ j) (hg : Gl X x) (hx : ∀ σ, PassesAt CX X σ (E σ)) (ha : PA X (e :: es) t)
    (hdb : (x == ("__debug__" : Str)) = false := by decide) (he : starEach (e :: es) X.env = (false, eval e X.env) :: starEach es X.env := by rfl) (hpl : (backTo pos (starEach es X.env)).any (·.1) = false := by rfl) :
    PE X (.Call (.Name x p) (e :: es) [] pos) (tCallSD sp dvs E t) := by
  obtain ⟨f, fd, ps, ds, F, hm, kp, b, d⟩ := c.ex
  exact pe_callSD F (hr.mono hk) hg hm kp b d hx ha hdb he hpl
theorem pe_fldK {K : PySem.W.Frag} {f : Str} (hK : X.K = K) (he : PE X o ta) (hb : attributeBase o f X.env (eval o X.env) = eval o X.env := by rfl) : PE X (.Attribute o f pos) (tFld K ta f) := by
  rw [← hK]
  exact pe_fld he hb
def tMethSD (C : Addr) (m : Str) (sp : Sp) (dvs : List V) (E : L2.St → XK) (ta : TE) (t : TA) : TE := fun σ H Q => ta σ H fun x H1 => ∃ a dx fs, x = .ref a ∧ H1 a = some (.ins C dx fs) ∧ fs.lookup m = none ∧
  t σ H1 fun vs H2 => sp (x :: (vs ++ dvs)) H2 Q (E σ)
theorem pe_mS {pl : Sem Bool} (c : MtG X.prog X.w X.K X.mg X.base CX k C m sp dvs) (hr : Room j X.A) (hk : k ≤ j) (hx : ∀ σ, PassesAt CX X σ (E σ)) (he : PE X o ta) (ha : PA X (e :: es) t)
    (hst : starEach (e :: es) X.env = (false, eval e X.env) :: starEach es X.env := by rfl) (hpl : (backTo pos (starEach es X.env)).any (·.1) = false := by rfl)
    (ht : eval (.Call (.Attribute o m apos) (e :: es) [] pos) X.env = (do
      let ov ← eval o X.env
      standAt apos.atName
      let (f, first) ← holding [ov] (getMethod ov m pl)
      callWith pos f first (backTo pos (starEach (e :: es) X.env)) (backToKw pos (keywordEach [] X.env))) := by rfl) :
    PE X (.Call (.Attribute o m apos) (e :: es) [] pos) (tMethSD C m sp dvs E ta t) := by
  obtain ⟨f, fd, ps, ds, hc, hm, F, b, d⟩ := c.ex
  refine ⟨fun pins s σ H Q I h => ?_⟩
  refine PySem.W.methodCall_KW (pl := pl) (thn (he.run pins s σ H _ I h) fun u s1 hh => ?_) ht
  obtain ⟨y, H1, I1, ry, a, dx, fs, ey, ea, l, q⟩ := hh
  subst ey
  obtain rfl : u = Value.ref a := ry
  refine getmeth_ok I1 ea hc hm l ?_
  refine PySem.W.callWith_K (first := [.ref a]) (h₀ := X.base) I.ok.mod.kin hm.kp (thn (ha.run pos pins s1 σ H1 _ I1 q) fun us s2 gg => ?_) hst hpl
  obtain ⟨vs, H2, I2, r, q2⟩ := gg
  exact ⟨I2.kIn, run_fnSD (us := .ref a :: us) (vs := .ref a :: vs) F (hr.mono hk) b d (hx σ) I2 (.cons rfl r) q2⟩
end
section
variable {P : Program} {w : World} {K : PySem.W.Frag} {mg : Str → Option Value} {base : Heap} {CN CB CS fO : Addr} {er : Errs}
theorem Stp.same {H H' : Hp} (s : Same H H') {N : NetM} {x : V} {o : Option (Nat × Nat)} (h : Stp H N x o) : Stp H' N x o := by
  cases h with
  | good e hk hm => exact .good (s _ _ e) hk hm
  | non => exact .non
  | lst e => exact .lst (s _ _ e)
  | len e hl => exact .len (s _ _ e) hl
  | num e hd hn => exact .num (s _ _ e) hd hn
  | out e hm hz => exact .out (s _ _ e) hm hz
theorem placed_stB {N : NetM} (G : N.Good) (es : List (Str × Nat × Nat)) : Placed N (stB es) := fun k hk => by
  have := G.tu1 k hk
  show 0 < N.f k + N.q k
  unfold NetM.q
  omega
theorem sameX_same {H0 H : Hp} {CN CB : Addr} {N : NetM} {J : Nat} {a : NetA} {b : BdA} {S : BdM} (B : BoardAt CN CB H0 H N J a b S) {H' : Hp} (sx : SameX H H' b) : Same H0 H' := fun p o e => sx p o (B.same _ _ e) (ne_of_none e B.n1) (ne_of_none e B.n2) (ne_of_none e B.n3) (ne_of_none e B.n4)
def spShows (CN CS : Addr) : Sp := fun vs H Q _ => ∃ z N J a y es g1 g2 g3 xs os, vs = [.ref z.p, .ref a.p, y, .non] ∧ SetAt CS H z (ikv (List.range N.n) g1) (ikv [4, 5] g2) (ikv (List.range N.n) g3) xs ∧ NetAt CN H N J a ∧ N.Good ∧ GoodB H N J y es ∧ Paired (Stp H N) xs os ∧
  ∃ S' o, fol N (stB es) os 0 = (S', o) ∧ ∃ b : Bool, (b = true ↔ o = none ∧ Rest N S' ∧ (∀ i, i < N.n → g1 i = (S'.tk i : Int) ∧ g3 i = (S'.pl i : Int)) ∧ g2 4 = (S'.out 4 : Int) ∧ g2 5 = (S'.out 5 : Int)) ∧ ∀ H', Same H H' → Q (.bl b) H'
theorem sc_Settled_shows : FnScope ["self", "net", "balls", "standing", "board"] ["self", "net", "balls", "standing"] (defScope s_Settled_shows) := ⟨rfl, rfl, rfl, by decide +kernel, rfl, by decide +kernel, by decide +kernel⟩
theorem ok_shows {f : Addr} {fd : FuncData} (F : FunA K "shows" "Settled.shows" s_Settled_shows f fd) (T : Txt K mg CN CB CS) (XBadOrder : SX.SupTxt P K mg "BadOrder" "place" "not such an order" er.bo fO) (teO : PySem.W.exmOne K (.ref er.bo) (.ref er.bo) = some true)
    (G_begun : FnG P w K mg base (L2.CX P w) 3 "begun" (spBegun CN CB er) []) (G_follow : MtG P w K mg base (L2.CX P w) 4 CB "follow" (spFollow CN CB er.bo) []) (G_first : MtG P w K mg base CX0 1 CB "first_waiting" (spFirst CN CB) []) :
    FnOk P w K mg base CX0 5 f fd ["self", "net", "balls", "standing"] (spShows CN CS) := by
  refine F.ok sc_Settled_shows (fun vs H Q E h => ?_) (fun cdv A outer s H vs Q E hr h => ?_)
  · obtain ⟨z, N, J, a, y, es, g1, g2, g3, xs, os, rfl, _⟩ := h
    rfl
  · obtain ⟨z, N, J, a, y, es, g1, g2, g3, xs, os, rfl, A1, B1, G, gb, hos, S', o, ef, b, hb, kq⟩ := h
    have hu := hu_of hr
    refine ⟨_, (pss_cons (ps_set (i := 4) sc_Settled_shows.nd rfl (by first | exact Or.inl rfl | exact Or.inr rfl) (pe_f G_begun hr (by decide) (by rfl) (passes_call takes0 (fun _ _ _ _ h => h)) (pa_cons (pv 1) (pa_cons (pv 2) (pa_cons (pv 3) pa_nil)))))
  (pss_cons (ps_try_only rfl rfl ⟨rfl, by decide, .inl XBadOrder.gC⟩ takes0 (fun W pn xe tk _ => (pss_one (ps_expr (by exact (by exact (pe_mS G_follow hr (by decide) (fun σ => passAt tk σ) (by exact (pv 4)) (by exact (pa_cons (by exact (pe_fldK (K := K) rfl (pv 0))) pa_nil))))))))
  (fun a oe cls d pn hz hf => (pss_one (ps_ret pe_bl))))
  (pss_cons (ps_if (pt_cmp (pc_notN (pe_m0 G_first hr (by decide) pass0 (pv 4))) rfl) (pss_one (ps_ret pe_bl)) pss_nil)
  (pss_one (ps_ret (pe_cmpR (op_eqB hr.units) (pe_tup (pa_cons (pe_fld (pv 4) rfl) (pa_cons (pe_fld (pv 4) rfl) (pa_cons (pe_fld (pv 4) rfl) pa_nil)))) (pe_tup (pa_cons (pe_fld (pv 0) rfl) (pa_cons (pe_fld (pv 0) rfl) (pa_cons (pe_fld (pv 0) rfl) pa_nil)))) (nomark _))))))), ?_⟩
    -- board = begun(..)
    refine ⟨_, rfl, _, rfl, _, rfl, _, _, _, rfl, .inr ⟨N, J, a, es, rfl, B1, G, gb, rfl, fun H0 bd H1 s0 Bd => ?_⟩⟩
    have sH1 : Same H H1 := fun p o e => Bd.same _ _ (s0 _ _ e)
    have Z1 := A1.same sH1
    -- board.follow(self.order)
    refine ⟨_, rfl, bd.p, _, _, rfl, Bd.ob, rfl, _, rfl, z.p, CS, z.dx, _, _, rfl, Z1.ob, T.cS, T.nSr, stF_r, H0, N, J, a, bd, stB es, _, rfl, Bd, G, placed_stB G es, .inr ⟨z.ol, xs, os, rfl, Z1.ol, Paired.mapP hos fun _ _ h => h.same sH1, fun H2 S2 e2 B2 sx => ?_, fun H2 S2 i d e2 B2 sx hd => ?_⟩⟩
    · rw [ef] at e2
      obtain ⟨rfl, rfl⟩ := Prod.mk.inj e2
      have s2 : Same H H2 := fun p o e => sameX_same Bd sx p o (s0 _ _ e)
      have Z2 := A1.same s2
      refine ⟨_, rfl, bd.p, _, _, rfl, B2.ob, rfl, H0, N, J, a, bd, S', rfl, B2, G.n4, fun k hk hw _ => ?_, fun hrest => ?_⟩
      · refine ⟨_, rfl, ?_⟩
        refine iteT ?_
        have e : b = false := by
          cases b with
          | false => rfl
          | true =>
            have := (hb.mp rfl).2.1 k hk
            omega
        rw [e] at kq
        exact kq H2 s2
      · refine ⟨_, rfl, ?_⟩
        refine iteF ?_
        refine ⟨_, rfl, bd.p, CB, bd.dx, _, _, rfl, B2.ob, T.cB, T.nBt, bdF_t, _, rfl, bd.p, CB, bd.dx, _, _, rfl, B2.ob, T.cB, T.nBo, bdF_o, _, rfl, bd.p, CB, bd.dx, _, _, rfl, B2.ob, T.cB, T.nBs, bdF_s, (by show 3 ≤ sizeLine; decide), fun p hp => ?_⟩
        have sp := same_upd0 (o := .tup [.ref bd.td, .ref bd.od, .ref bd.sd]) hp
        have Z3 := Z2.same sp
        have B3 := B2.keep sp
        refine ⟨_, rfl, z.p, CS, z.dx, _, _, rfl, Z3.ob, T.cS, T.nSt, stF_t, _, rfl, z.p, CS, z.dx, _, _, rfl, Z3.ob, T.cS, T.nSo, stF_o, _, rfl, z.p, CS, z.dx, _, _, rfl, Z3.ob, T.cS, T.nSs, stF_s, (by show 3 ≤ sizeLine; decide), fun q hq => ?_⟩
        have sq := same_upd0 (o := .tup [.ref z.td, .ref z.od, .ref z.sd]) hq
        have Z4 := Z3.same sq
        have B4 := B3.keep sq
        have ne1 : bd.td ≠ z.td := (ne_of_none (s0 _ _ A1.ta) Bd.n4).symm
        have ne2 : bd.od ≠ z.od := (ne_of_none (s0 _ _ A1.ou) Bd.n3).symm
        have ne3 : bd.sd ≠ z.sd := (ne_of_none (s0 _ _ A1.st) Bd.n1).symm
        obtain ⟨e, e0⟩ : ∃ e : Nat → Bool, e = fun j => match j with | 0 => (List.range N.n).all fun i => (S'.tk i : Int) == g1 i | 1 => [4, 5].all fun i => (S'.out i : Int) == g2 i | _ => (List.range N.n).all fun i => (S'.pl i : Int) == g3 i := ⟨_, rfl⟩
        have eb : (List.range 3).all e = b := by
          rw [Bool.eq_iff_iff, hb]
          have l3 : List.range 3 = [0, 1, 2] := rfl
          rw [l3, e0]
          simp only [List.all_cons, List.all_nil, Bool.and_true, Bool.and_eq_true, List.all_eq_true, List.mem_range, beq_iff_eq]
          constructor
          · rintro ⟨h1, ⟨h4, h5⟩, h3⟩
            exact ⟨trivial, hrest, fun i hi => ⟨(h1 i hi).symm, (h3 i hi).symm⟩, h4.symm, h5.symm⟩
          · rintro ⟨_, _, h, h4, h5⟩
            exact ⟨fun i hi => (h i hi).1.symm, ⟨h4.symm, h5.symm⟩, fun i hi => (h i hi).2.symm⟩
        refine ⟨5, (List.range 3).all e, by decide, .inr (.inr (.inl ⟨p, q, [.ref bd.td, .ref bd.od, .ref bd.sd], [.ref z.td, .ref z.od, .ref z.sd], e, rfl, rfl, SqT.of ?_, SqT.of upd_same, rfl, ?_, rfl⟩)), ?_⟩
        · exact (upd_ne (ne_of_none upd_same hq)).trans upd_same
        · intro j u v h1 h2
          match j with
          | 0 =>
            cases h1; cases h2
            rw [e0]
            exact .inr (.inr ⟨⟨_, _, rfl, rfl, ne1⟩, eqC_ikv (rng_lt G.n4) B4.ta Z4.ta⟩)
          | 1 =>
            cases h1; cases h2
            rw [e0]
            exact .inr (.inr ⟨⟨_, _, rfl, rfl, ne2⟩, eqC_ikv lt45 B4.ou Z4.ou⟩)
          | 2 =>
            cases h1; cases h2
            rw [e0]
            exact .inr (.inr ⟨⟨_, _, rfl, rfl, ne3⟩, eqC_ikv (rng_lt G.n4) B4.st Z4.st⟩)
          | j + 3 => simp at h1
        · rw [eb]
          exact kq _ fun p o e => sq _ _ (sp _ _ (s2 _ _ e))
    · rw [ef] at e2
      obtain ⟨rfl, rfl⟩ := Prod.mk.inj e2
      have s2 : Same H H2 := fun p o e => sameX_same Bd sx p o (s0 _ _ e)
      have e : b = false := by
        cases b with
        | false => rfl
        | true => exact absurd (hb.mp rfl).1 (by simp)
      rw [e] at kq
      exact ⟨true, teO, fun _ _ _ => kq _ (same_upd s2 hd), fun q => nomatch q⟩
end
end Bal
set_option autoImplicit true
set_option Elab.async false
set_option linter.all false
set_option maxRecDepth 100000
set_option maxHeartbeats 4000000
/-! W11: lattice. -/
namespace Bal
open PySem L2
/-- a list of lists of ints -/
structure TabAt (H : Hp) (t : Addr) (ps : List Addr) (tab : List (List Int)) : Prop where
  at_ : H t = some (.lst (ps.map V.ref))
  rows : Paired (fun p row => H p = some (.lst (row.map V.int)) ∧ p ≠ t) ps tab
theorem TabAt.same {H H' : Hp} (s : Same H H') {t : Addr} {ps : List Addr} {tab : List (List Int)} (h : TabAt H t ps tab) : TabAt H' t ps tab := ⟨s _ _ h.at_, Paired.mapP h.rows fun _ _ z => ⟨s _ _ z.1, z.2⟩⟩
section
variable {P : Program} {w : World} {K : PySem.W.Frag} {mg : Str → Option Value} {base : Heap} {CN CB CS : Addr}
def spLattice (CN : Addr) : Sp := fun vs H Q _ => ∃ N J a, vs = [.ref a.p] ∧ NetAt CN H N J a ∧ N.Good ∧ ∀ t ps H', Same H H' → TabAt H' t ps (tabOf N.n N.mat) → Q (.ref t) H'
theorem sc_lattice : FnScope ["net", "rows", "name", "told", "other"] ["net"] (defScope s_lattice) := ⟨rfl, rfl, rfl, by decide +kernel, rfl, by decide +kernel, by decide +kernel⟩
theorem ok_lattice {f : Addr} {fd : FuncData} (F : Fun K "lattice" "lattice" s_lattice f fd) (T : Txt K mg CN CB CS) (G_period : MtG P w K mg base CX0 1 CN "period" (spPeriod CN) []) (G_turned : MtG P w K mg base CX0 1 CN "turned" (spTurned CN) []) :
    FnOk P w K mg base CX0 2 f fd ["net"] (spLattice CN) := by
  refine F.ok sc_lattice (fun vs H Q E h => ?_) (fun cdv A outer s H vs Q E hr h => ?_)
  · obtain ⟨N, J, a, rfl, _⟩ := h
    rfl
  · obtain ⟨N, J, a, rfl, A1, G, kq⟩ := h
    have hu := hu_of hr
    have hn := G.n4
    refine ⟨_, (pss_cons (ps_set (i := 1) sc_lattice.nd rfl (by first | exact Or.inl rfl | exact Or.inr rfl) (pe_lst pa_nil))
  (pss_cons (ps_for PassesOwn.never rfl (pi_list (pe_fld (pv 0) rfl)) (pg_name (i := 2) sc_lattice.nd rfl (by first | exact Or.inl rfl | exact Or.inr rfl))
  (pss_cons (ps_set (i := 3) sc_lattice.nd rfl (by first | exact Or.inl rfl | exact Or.inr rfl) (pe_m G_turned hr (by decide) pass0 (pv 0) (pa_cons (pv 2) pa_nil)))
  (pss_one (ps_expr (pe_bm PySem.F.plainAttrs_list PySem.F.slot_list_append PySem.F.type_list_append mt_append (pv 1) (pa_cons (pe_lc (own := [("other", 4)]) rfl sc_lattice.nd (pi_list (pe_fld (pv 0) rfl)) (blkOk_by (by kernel_rfl)) (fun _ _ _ _ _ => (pg_name (i := 4) sc_lattice.nd rfl (by first | exact Or.inl rfl | exact Or.inr rfl))) (fun _ _ _ _ _ => pts_nil) (fun _ _ _ _ _ => (by exact (pe_op op_sub (by exact (pe_ifExp (pt_cmpR op_eq (pv 2) (pv 4) (nomark _)) (by exact (pe_m G_period hr (by decide) pass0 (pv 0) (pa_cons (pv 2) pa_nil))) pe_int)) (by exact (pe_dget2 hu (pv 3) (pv 4) pe_int ⟨rfl, rfl, rfl, rfl⟩)))))) pa_nil))))))
  (pss_one (ps_ret (pv 1))))), ?_⟩
    refine ⟨by show 0 ≤ sizeLine; decide, fun R hR => ?_⟩
    have h6 : ∀ k, k < N.n → ∀ d ∈ N.tu k, ∀ t ∈ d, t < 6 := fun k hk d hd t ht => by
      have := (G.tg k hk d (List.mem_append.mpr (.inr hd))).2 t ht
      omega
    refine ⟨_, rfl, a.p, CN, a.dx, _, _, rfl, (same_upd0 hR) _ _ A1.ob, T.cN, T.nNn, netF_n, a.nl, rfl, ⟨_, SqL.of ((same_upd0 hR) _ _ A1.nl)⟩, for_it (walk_list (xs := namesV N.n)) (fun i σ H' => ∃ v2 v3 ps, σ = [some (.ref a.p), some (.ref R), v2, v3, none] ∧ Same H H' ∧ TabAt H' R ps ((List.range i).map fun k => (List.range N.n).map fun j => N.mat k j))
      ⟨_, _, [], rfl, same_upd0 hR, ⟨upd_same, .nil⟩⟩ (fun i σ H' _ p => ?_) ?_ ?_⟩
    · obtain ⟨_, _, _, _, s1, _⟩ := p
      exact SqL.of (s1 _ _ A1.nl)
    · rintro i x σ H1 H2 hi ⟨v2, v3, ps, rfl, s1, tb⟩ ⟨eH, hx⟩
      subst H2
      rw [names_len] at hi
      obtain ⟨_, rfl⟩ := names_at hx
      have A2 := A1.same s1
      refine ⟨_, rfl, a.p, _, _, rfl, A2.ob, rfl, _, rfl, N, J, a, i, rfl, A2, hn, hi, h6 i hi, fun d is H3 hd s3 hI hd3 => ?_⟩
      have s13 : Same H H3 := fun p o e => s3 _ _ (s1 _ _ e)
      have A3 := A1.same s13
      have tb3 := tb.same s3
      -- rows.append([..])
      refine ⟨_, rfl, .inl ⟨rfl, _, SqL.of tb3.at_⟩, ?_⟩
      refine ⟨_, rfl, a.p, CN, a.dx, _, _, rfl, A3.ob, T.cN, T.nNn, netF_n, a.nl, rfl, ⟨_, SqL.of A3.nl⟩, fun D hD => lc_it (walk_list (xs := namesV N.n)) (fun j H' => H' = upd H3 D (.lst (((List.range j).map fun j => N.mat i j).map V.int))) rfl (fun j H' _ p => by rw [p]; exact SqL.of ((same_upd0 hD) _ _ A3.nl)) ?_ ?_⟩
      · rintro j x2 H4 H5 hj ej ⟨e5, hx2⟩
        subst H5
        subst H4
        rw [names_len] at hj
        obtain ⟨_, rfl⟩ := names_at hx2
        refine ⟨rfl, ?_⟩
        have hd4 := (same_upd0 (o := .lst (((List.range j).map fun j => N.mat i j).map V.int)) hD) _ _ hd3
        have A4 := A3.same (same_upd0 (o := .lst (((List.range j).map fun j => N.mat i j).map V.int)) hD)
        refine ⟨_, rfl, _, rfl, rfl, _, rfl, ?_⟩
        have fin : ∀ z : Int, z = (if i = j then (N.q i : Int) else 0) - sumI (N.tu i) j → ∃ acc, upd H3 D (.lst (((List.range j).map fun j => N.mat i j).map V.int)) D = some (.lst acc) ∧ acc.length < sizeLine ∧ upd (upd H3 D (.lst (((List.range j).map fun j => N.mat i j).map V.int))) D (.lst (acc ++ [.int z])) = upd H3 D (.lst (((List.range (j + 1)).map fun j => N.mat i j).map V.int)) := by
          rintro z rfl
          refine ⟨_, upd_same, by rw [List.length_map, List.length_map, List.length_range]; exact Nat.lt_of_lt_of_le hj (Nat.le_trans hn (by decide)), ?_⟩
          rw [upd_upd, List.range_succ, List.map_append, List.map_append]
          rfl
        refine ite2 (fun c => ?_) (fun c => ?_)
        · have c2 : i = j := tg_inj i (by omega) j (by omega) (by injection (of_decide_eq_true c))
          refine ⟨_, rfl, a.p, _, _, rfl, A4.ob, rfl, _, rfl, N, J, a, i, rfl, A4, hn, hi, ?_⟩
          refine ⟨_, rfl, d, rfl, .inl ⟨_, .inl hd4⟩, _, rfl, _, dget_tkv hd4 (by omega) hI.lt, ?_⟩
          rw [iget hI]
          exact ⟨_, _, rfl, rfl, fin _ (by rw [if_pos c2])⟩
        · have c2 : ¬ i = j := fun e => c (decide_eq_true (by rw [e]))
          refine ⟨_, rfl, d, rfl, .inl ⟨_, .inl hd4⟩, _, rfl, _, dget_tkv hd4 (by omega) hI.lt, ?_⟩
          rw [iget hI]
          exact ⟨_, _, rfl, rfl, fin _ (by rw [if_neg c2])⟩
      · rintro H4 e4
        rw [names_len] at e4
        subst H4
        have nRD : R ≠ D := ne_of_none tb3.at_ hD
        have hRD : (upd H3 D (.lst (((List.range N.n).map fun j => N.mat i j).map V.int))) R = some (.lst (ps.map V.ref)) := (upd_ne nRD).trans tb3.at_
        refine ⟨R, _, _, rfl, rfl, hRD, ?_, ?_⟩
        · rw [List.length_map, Paired.length tb3.rows, List.length_map, List.length_range]
          exact Nat.lt_of_lt_of_le hi (Nat.le_trans hn (by decide))
        · refine ⟨_, _, ps ++ [D], rfl, same_out (same_upd s13 hD) hR, ⟨?_, ?_⟩⟩
          · rw [upd_same, List.map_append]
            rfl
          · rw [List.range_succ, List.map_append]
            refine paired_append (Paired.mapP tb3.rows fun p row z => ⟨?_, z.2⟩) (.cons ⟨?_, Ne.symm nRD⟩ .nil)
            · rw [upd_ne z.2, upd_ne (ne_of_none z.1 hD)]
              exact z.1
            · rw [upd_ne (Ne.symm nRD), upd_same]
    · rintro σ H1 ⟨v2, v3, ps, rfl, s1, tb⟩
      rw [names_len] at tb
      exact ⟨_, rfl, kq R ps H1 s1 tb⟩
end
end Bal
set_option autoImplicit true
set_option Elab.async false
set_option linter.all false
set_option maxRecDepth 100000
set_option maxHeartbeats 4000000
/-! WK: rules with the written part named (for places where the context is bound). -/
namespace Bal
open PySem L2
section
variable {X : Cx} {K : PySem.W.Frag} {tg : Expr}
theorem ix_tupK (hK : X.K = K) : IxR X (rIxT K) := by subst hK; exact ix_tup
theorem ix_listK (hK : X.K = K) : IxR X (rIxL K) := by subst hK; exact ix_list
theorem sl_listK (hK : X.K = K) : SlR X (rSlL K) := by subst hK; exact sl_list
theorem pi_listK (hK : X.K = K) {l : Expr} {tl : TE} (hl : PE X l tl) : PI X tg l (iList K tl) := by subst hK; exact pi_list hl
theorem pi_tupK (hK : X.K = K) {l : Expr} {tl : TE} (hl : PE X l tl) : PI X tg l (iTup K tl) := by subst hK; exact pi_tup hl
theorem pi_zipK (hK : X.K = K) {e e2 : Expr} {ta : TA} {p pos tpos : Pos} {elts : List Expr} {kk : Nat} (hg : Gl X "zip") (hm : X.mg "zip" = none) (ha : PA X [e, e2] ta)
    (hs : starEach [e, e2] X.env = (false, eval e X.env) :: starEach [e2] X.env := by rfl) (hpl : (backTo pos (starEach [e2] X.env)).any (·.1) = false := by rfl) :
    PI X (.Tuple elts kk tpos) (.Call (.Name "zip" p) [e, e2] [] pos) (iZip K ta) := by subst hK; exact pi_zip hg hm ha hs hpl
theorem pi_enumK (hK : X.K = K) {e : Expr} {ta : TA} {p pos tpos : Pos} {elts : List Expr} {kk : Nat} (hg : Gl X "enumerate") (hm : X.mg "enumerate" = none) (ha : PA X [e] ta) (hs : starEach [e] X.env = [(false, eval e X.env)] := by rfl) :
    PI X (.Tuple elts kk tpos) (.Call (.Name "enumerate" p) [e] [] pos) (iEnum K ta) := by subst hK; exact pi_enum hg hm ha hs
theorem pg_tupK (hK : X.K = K) {es : List Expr} {k : Nat} {t : TGs} {n : Nat} {pos : Pos} (hc : X.calm = true) (h : PGs X es t)
    (hn : (assignEach es X.env).length = n := by rfl) (hst : (assignEach es X.env).findIdx? (·.1) = none := by rfl) : PG X (.Tuple es k pos) (gTup K n t) := by subst hK; exact pg_tup hc h hn hst
def rLen (K : PySem.W.Frag) : List V → Hp → VK → Prop := fun xs H Q => ∃ p ys, xs = [.ref p] ∧ (SqL K H p ys ∨ SqT K H p ys) ∧ Q (.int ys.length) H
theorem call_lenK (hK : X.K = K) : CallR X (.builtin "len") (rLen K) := by subst hK; exact call_len_seq
theorem call_isiW (hK : X.K = K) : CallR X (.builtin "isinstance") (rIsi K) := by subst hK; exact call_isi
def rListOf (K : PySem.W.Frag) : List V → Hp → VK → Prop := fun xs H Q => ∃ p ys, xs = [.ref p] ∧ (SqL K H p ys ∨ SqT K H p ys) ∧ ∀ l, H l = none → Q (.ref l) (upd H l (.lst ys))
theorem call_listK (hK : X.K = K) : CallR X (.type "list") (rListOf K) := by subst hK; exact call_list_of
end
end Bal
set_option autoImplicit false
set_option linter.all false
/-! M1a: shapes and bounds along the elimination. -/
namespace Bal
structure Sq (n : Nat) (tab : List (List Int)) : Prop where
  len : tab.length = n
  row : ∀ i, i < n → (tab.getD i []).length = n
def BdT (n : Nat) (B : Int) (tab : List (List Int)) : Prop := ∀ i, i < n → ∀ x ∈ tab.getD i [], -B ≤ x ∧ x ≤ B
theorem getD_set_eq {l : List (List Int)} {i : Nat} {x : List Int} (h : i < l.length) : (l.set i x).getD i [] = x := by simp [List.getD, h]
theorem getD_set_ne {l : List (List Int)} {i j : Nat} {x : List Int} (h : i ≠ j) : (l.set i x).getD j [] = l.getD j [] := by simp [List.getD, List.getElem?_set, h]
theorem brow_length (p f b : Int) (rl ra : List Int) : (brow p f b rl ra).length = min rl.length ra.length := by simp [brow]
theorem bcols_len (at_ : Nat) (b : Int) (tab : List (List Int)) : ∀ m, (bcols at_ b tab m).length = tab.length
  | 0 => rfl
  | m + 1 => by
    show (List.set _ _ _).length = _
    rw [List.length_set]
    exact bcols_len at_ b tab m
theorem bcols_get (at_ : Nat) (b : Int) (tab : List (List Int)) : ∀ (m i : Nat), (i ≤ at_ ∨ at_ + 1 + m ≤ i) → (bcols at_ b tab m).getD i [] = tab.getD i []
  | 0, _, _ => rfl
  | m + 1, i, h => by
    show (List.set _ _ _).getD i [] = _
    rw [getD_set_ne (by omega)]
    exact bcols_get at_ b tab m i (by omega)
theorem bcols_sq {n at_ : Nat} {b : Int} {tab : List (List Int)} (s : Sq n tab) : ∀ m, at_ + 1 + m ≤ n → Sq n (bcols at_ b tab m)
  | 0, _ => s
  | m + 1, h => by
    have ih := bcols_sq (at_ := at_) (b := b) s m (by omega)
    refine ⟨by rw [bcols_len]; exact s.len, fun i hi => ?_⟩
    show ((List.set _ _ _).getD i []).length = n
    by_cases c : at_ + 1 + m = i
    · subst c
      rw [getD_set_eq (by rw [ih.len]; exact hi), brow_length, ih.row _ hi, ih.row _ (by omega), Nat.min_self]
    · rw [getD_set_ne c]
      exact ih.row i hi
theorem ediv_le {x b C : Int} (hb : 0 < b) (h : -C ≤ x ∧ x ≤ C) (hC : 0 ≤ C) : -C ≤ x / b ∧ x / b ≤ C := by
  constructor
  · have h1 : -C * b ≤ x := by
      have : C * 1 ≤ C * b := Int.mul_le_mul_of_nonneg_left (by omega) hC
      have e : -C * b = -(C * b) := Int.neg_mul ..
      omega
    exact Int.le_ediv_of_mul_le hb h1
  · have h1 : x ≤ C * b := by
      have : C * 1 ≤ C * b := Int.mul_le_mul_of_nonneg_left (by omega) hC
      omega
    exact Int.ediv_le_of_le_mul hb h1
theorem brow_bd {p f b B : Int} {rl ra : List Int} (hb : 0 < b) (hB : 0 ≤ B) (hp : -B ≤ p ∧ p ≤ B) (hf : -B ≤ f ∧ f ≤ B) (h1 : ∀ x ∈ rl, -B ≤ x ∧ x ≤ B) (h2 : ∀ x ∈ ra, -B ≤ x ∧ x ≤ B) :
    ∀ x ∈ brow p f b rl ra, -(2 * (B * B)) ≤ x ∧ x ≤ 2 * (B * B) := by
  have hBB : 0 ≤ B * B := Int.mul_nonneg hB hB
  induction rl generalizing ra with
  | nil => intro x hx; simp [brow] at hx
  | cons u rl ih =>
    cases ra with
    | nil => intro x hx; simp [brow] at hx
    | cons v ra =>
      intro x hx
      have hx : x = (p * u - f * v) / b ∨ x ∈ brow p f b rl ra := by simpa [brow] using hx
      rcases hx with rfl | hx
      · have a1 := mul_abs_le hp (h1 u (List.mem_cons_self ..)) hB hB
        have a2 := mul_abs_le hf (h2 v (List.mem_cons_self ..)) hB hB
        exact ediv_le hb (by omega) (by omega)
      · exact ih (fun x hx => h1 x (List.mem_cons_of_mem _ hx)) (fun x hx => h2 x (List.mem_cons_of_mem _ hx)) x hx
theorem cell_bd {n : Nat} {B : Int} {tab : List (List Int)} (s : Sq n tab) (h : BdT n B tab) {i j : Nat} (hi : i < n) (hj : j < n) : -B ≤ cell tab i j ∧ cell tab i j ≤ B := by
  have l := s.row i hi
  refine h i hi _ ?_
  unfold cell
  have : j < (tab.getD i []).length := by omega
  have e : (tab.getD i []).getD j 0 = (tab.getD i [])[j] := by
    rw [List.getD_eq_getElem?_getD (l := tab.getD i []), List.getElem?_eq_getElem this]
    rfl
  rw [e]
  exact List.getElem_mem this
theorem le_sq2 {B : Int} (hB : 1 ≤ B) : B ≤ 2 * (B * B) := by
  have : B * 1 ≤ B * B := Int.mul_le_mul_of_nonneg_left hB (by omega)
  omega
theorem bcols_bd {n at_ : Nat} {b B : Int} {tab : List (List Int)} (s : Sq n tab) (hb : 0 < b) (hB : 1 ≤ B) (h : BdT n B tab) : ∀ m, at_ + 1 + m ≤ n → BdT n (2 * (B * B)) (bcols at_ b tab m)
  | 0, _ => fun i hi x hx => by
    have a := h i hi x hx
    have := le_sq2 hB
    exact ⟨by omega, by omega⟩
  | m + 1, hm => by
    have ih := bcols_bd (at_ := at_) (b := b) s hb hB h m (by omega)
    have sq := bcols_sq (at_ := at_) (b := b) s m (by omega)
    intro i hi x hx
    have hx : x ∈ (List.set _ _ _).getD i [] := hx
    by_cases c : at_ + 1 + m = i
    · subst c
      rw [getD_set_eq (by rw [sq.len]; exact hi)] at hx
      have e1 := bcols_get at_ b tab m (at_ + 1 + m) (.inr (Nat.le_refl _))
      have e2 := bcols_get at_ b tab m at_ (.inl (Nat.le_refl _))
      have e3 : cell (bcols at_ b tab m) (at_ + 1 + m) at_ = cell tab (at_ + 1 + m) at_ := by unfold cell; rw [e1]
      rw [e1, e2, e3] at hx
      exact brow_bd hb (by omega) (cell_bd s h (by omega) (by omega)) (cell_bd s h hi (by omega)) (h _ hi) (h _ (by omega)) x hx
    · rw [getD_set_ne c] at hx
      exact ih i hi x hx
theorem tabOf_get {n : Nat} {a : Nat → Nat → Int} {i : Nat} (hi : i < n) : (tabOf n a).getD i [] = (List.range n).map fun j => a i j := by
  unfold tabOf
  simp [List.getD, hi]
theorem tabOf_sq (n : Nat) (a : Nat → Nat → Int) : Sq n (tabOf n a) := ⟨by simp [tabOf], fun i hi => by rw [tabOf_get hi]; simp⟩
theorem tabOf_bd {n : Nat} {a : Nat → Nat → Int} {B : Int} (h : ∀ i j, i < n → j < n → -B ≤ a i j ∧ a i j ≤ B) : BdT n B (tabOf n a) := fun i hi x hx => by
  rw [tabOf_get hi] at hx
  obtain ⟨j, hj, rfl⟩ := List.mem_map.mp hx
  exact h i j hi (List.mem_range.mp hj)
def bSeq : Nat → Int
  | 0 => 12
  | 1 => 288
  | _ => 165888
theorem bSeq_step (i : Nat) (hi : i < 2) : 2 * (bSeq i * bSeq i) = bSeq (i + 1) := by
  match i, hi with
  | 0, _ => rfl
  | 1, _ => rfl
theorem bSeq_pos (i : Nat) : 1 ≤ bSeq i ∧ bSeq i ≤ 165888 := by
  match i with
  | 0 => exact ⟨by decide, by decide⟩
  | 1 => exact ⟨by decide, by decide⟩
  | _ + 2 => exact ⟨by show (1 : Int) ≤ 165888; decide, Int.le_refl _⟩
end Bal
set_option autoImplicit true
set_option Elab.async false
set_option linter.all false
set_option maxRecDepth 100000
set_option maxHeartbeats 4000000
/-! W12: minors_of, ends. -/
namespace Bal
open PySem L2
section
variable {P : Program} {w : World} {K : PySem.W.Frag} {mg : Str → Option Value} {base : Heap} {CN CB CS : Addr}
theorem ixN_nat {n j : Nat} (h : j < n) : ixN n (j : Int) = some j := by
  unfold ixN
  rw [if_pos (by omega), if_pos (by omega)]
  simp
theorem paired_set {α β : Type} {F : α → β → Prop} : ∀ {l : List α} {r : List β} {i : Nat} {x : α} {y : β}, Paired F l r → F x y → Paired F (l.set i x) (r.set i y)
  | _, _, _, _, _, .nil, _ => .nil
  | _, _, 0, _, _, .cons _ t, h => .cons h t
  | _, _, i + 1, _, _, .cons g t, h => .cons g (paired_set t h)
theorem paired_right {α β : Type} {F : α → β → Prop} : ∀ {l : List α} {r : List β} {i : Nat} {y : β}, Paired F l r → r[i]? = some y → ∃ x, l[i]? = some x ∧ F x y
  | _, _, i, _, .nil, h => by simp at h
  | _, _, 0, y, .cons h _, e => by simp at e; subst e; exact ⟨_, rfl, h⟩
  | _, _, i + 1, y, .cons _ t, e => by
    obtain ⟨x, h1, h2⟩ := paired_right (i := i) t (by simpa using e)
    exact ⟨x, by simpa using h1, h2⟩
/-- a row, and a cell of it -/
theorem TabAt.get {H : Hp} {t : Addr} {ps : List Addr} {tab : List (List Int)} (h : TabAt H t ps tab) {n i j : Nat} (s : Sq n tab) (hi : i < n) (hj : j < n) :
    ∃ p, atI (ps.map V.ref) ((i : Nat) : Int) = some (.ref p) ∧ H p = some (.lst ((tab.getD i []).map V.int)) ∧ p ≠ t ∧ atI ((tab.getD i []).map V.int) ((j : Nat) : Int) = some (.int (cell tab i j)) := by
  have hl : i < tab.length := by rw [s.len]; exact hi
  have e : tab[i]? = some (tab.getD i []) := by simp [List.getD, hl]
  obtain ⟨p, e1, e2, e3⟩ := paired_right h.rows e
  refine ⟨p, atI_nat (by rw [List.getElem?_map, e1]; rfl), e2, e3, atI_nat ?_⟩
  have hj2 : j < (tab.getD i []).length := by rw [s.row i hi]; exact hj
  rw [List.getElem?_map, List.getElem?_eq_getElem hj2]
  unfold cell
  rw [List.getD_eq_getElem?_getD (l := tab.getD i []), List.getElem?_eq_getElem hj2]
  rfl
theorem small62 {n : Nat} (h : n ≤ 1000) : -(2 ^ 62) ≤ (n : Int) ∧ (n : Int) < 2 ^ 62 := by omega
def spMinors (K : PySem.W.Frag) : Sp := fun vs H Q _ => ∃ t ps n a, vs = [.ref t] ∧ TabAt H t ps (tabOf n a) ∧ n ≤ 4 ∧ (∀ i j, -12 ≤ a i j ∧ a i j ≤ 12) ∧ ∀ q H', Same H H' → H' q = some (.lst ((brun n 0 1 (tabOf n a)).map V.int)) → Q (.ref q) H'
theorem sc_minors_of : FnScope ["rows", "told", "before", "found", "at", "pivot", "low", "factor", "row", "here", "there"] ["rows"] (defScope s_minors_of) := ⟨rfl, rfl, rfl, by decide +kernel, rfl, by decide +kernel, by decide +kernel⟩
theorem ok_minors {f : Addr} {fd : FuncData} (F : Fun K "minors_of" "minors_of" s_minors_of f fd) (T : Txt K mg CN CB CS) : FnOk P w K mg base CX0 1 f fd ["rows"] (spMinors K) := by
  refine F.ok sc_minors_of (fun vs H Q E h => ?_) (fun cdv A outer s H vs Q E hr h => ?_)
  · obtain ⟨t, ps, n, a, rfl, _⟩ := h
    rfl
  · obtain ⟨t, ps, n, a, rfl, tb, hn, ha, kq⟩ := h
    have hu := hu_of hr
    refine ⟨_, (pss_cons (ps_asg (pe_tup (pa_cons (pe_lc (own := [("row", 8)]) rfl sc_minors_of.nd (pi_list (pv 0)) (blkOk_by (by kernel_rfl)) (fun _ _ _ _ _ => (pg_name (i := 8) sc_minors_of.nd rfl (by first | exact Or.inl rfl | exact Or.inr rfl))) (fun _ _ _ _ _ => pts_nil) (fun _ _ _ _ _ => (by exact (pe_callTy (call_listK (K := K) (by rfl)) (by rfl) T.list (by decide +kernel) (pa_cons (pv 8) pa_nil))))) (pa_cons pe_int (pa_cons (pe_lst pa_nil) pa_nil)))) (pg_tup rfl (pgs_cons (pg_name (i := 1) sc_minors_of.nd rfl (by first | exact Or.inl rfl | exact Or.inr rfl)) (pgs_cons (pg_name (i := 2) sc_minors_of.nd rfl (by first | exact Or.inl rfl | exact Or.inr rfl)) (pgs_cons (pg_name (i := 3) sc_minors_of.nd rfl (by first | exact Or.inl rfl | exact Or.inr rfl)) pgs_nil)))))
  (pss_cons (ps_for PassesOwn.never rfl (pi_range1 (by rfl) T.range (pa_cons (pe_callB call_len_seq (by rfl) T.len (by decide +kernel) (pa_cons (pv 1) pa_nil)) pa_nil)) (pg_name (i := 4) sc_minors_of.nd rfl (by first | exact Or.inl rfl | exact Or.inr rfl))
  (pss_cons (ps_set (i := 5) sc_minors_of.nd rfl (by first | exact Or.inl rfl | exact Or.inr rfl) (pe_ix ix_list (pe_ix ix_list (pv 1) (pv 4) (fun _ _ => rfl)) (pv 4) (fun _ _ => rfl)))
  (pss_cons (ps_expr (pe_bm PySem.F.plainAttrs_list PySem.F.slot_list_append PySem.F.type_list_append mt_append (pv 3) (pa_cons (pv 5) pa_nil)))
  (pss_cons (ps_if (pt_cmpR op_le (pv 5) pe_int (nomark _)) (pss_one (ps_ret (pv 3))) pss_nil)
  (pss_cons (ps_for PassesOwn.never rfl (pi_range2 (by rfl) T.range (pa_cons (pe_op op_add (pv 4) pe_int) (pa_cons (pe_callB call_len_seq (by rfl) T.len (by decide +kernel) (pa_cons (pv 1) pa_nil)) pa_nil))) (pg_name (i := 6) sc_minors_of.nd rfl (by first | exact Or.inl rfl | exact Or.inr rfl))
  (pss_cons (ps_set (i := 7) sc_minors_of.nd rfl (by first | exact Or.inl rfl | exact Or.inr rfl) (pe_ix ix_list (pe_ix ix_list (pv 1) (pv 6) (fun _ _ => rfl)) (pv 4) (fun _ _ => rfl)))
  (pss_one (ps_asg (pe_lc (own := [("here", 9), ("there", 10)]) rfl sc_minors_of.nd (pi_zip (by rfl) T.zip (pa_cons (pe_ix ix_list (pv 1) (pv 6) (fun _ _ => rfl)) (pa_cons (pe_ix ix_list (pv 1) (pv 4) (fun _ _ => rfl)) pa_nil))) (blkOk_by (by kernel_rfl)) (fun _ _ _ _ _ => (pg_tupK (K := K) (n := 2) (by rfl) rfl (pgs_cons (pg_name (i := 9) sc_minors_of.nd rfl (by first | exact Or.inl rfl | exact Or.inr rfl)) (pgs_cons (pg_name (i := 10) sc_minors_of.nd rfl (by first | exact Or.inl rfl | exact Or.inr rfl)) pgs_nil)))) (fun _ _ _ _ _ => pts_nil) (fun _ _ _ _ _ => (by exact (pe_op op_fdiv (by exact (pe_op op_sub (by exact (pe_op op_mul (pv 5) (pv 9))) (by exact (pe_op op_mul (pv 7) (pv 10))))) (pv 2))))) (pg_sub (pv 1) (pv 6) set_list)))))
  (pss_one (ps_set (i := 2) sc_minors_of.nd rfl (by first | exact Or.inl rfl | exact Or.inr rfl) (pv 5))))))))
  (pss_one (ps_ret (pv 3))))), ?_⟩
    have sq0 := tabOf_sq n a
    have ln : ps.length = n := by rw [Paired.length tb.rows]; exact sq0.len
    -- told, before, found
    refine ⟨_, rfl, t, rfl, ⟨_, SqL.of tb.at_⟩, fun D hD => lc_it (walk_list (xs := ps.map V.ref)) (fun i H' => ∃ qs, Same H H' ∧ H' D = some (.lst (qs.map V.ref)) ∧ Paired (fun q row => H' q = some (.lst (row.map V.int)) ∧ q ≠ D) qs ((tabOf n a).take i)) ⟨[], same_upd0 hD, upd_same, .nil⟩ (fun i H' _ p => ?_) ?_ ?_⟩
    · obtain ⟨_, s1, _⟩ := p
      exact SqL.of (s1 _ _ tb.at_)
    · rintro i x H1 H2 hi ⟨qs, s1, hD1, hq⟩ ⟨e2, hx⟩
      subst H2
      rw [List.getElem?_map] at hx
      obtain ⟨p, hp, rfl⟩ := Option.map_eq_some_iff.mp hx
      obtain ⟨row, hrow, hp2, _⟩ := paired_at tb.rows hp
      refine ⟨rfl, ?_⟩
      refine ⟨_, rfl, p, _, rfl, .inl (SqL.of (s1 _ _ hp2)), fun q hq1 => ?_⟩
      have nD : D ≠ q := ne_of_none hD1 hq1
      refine ⟨_, (upd_ne nD).trans hD1, ?_, qs ++ [q], ?_, ?_, ?_⟩
      · rw [List.length_map, hq.length, List.length_take]
        have : (tabOf n a).length = n := sq0.len
        exact Nat.lt_of_le_of_lt (show _ ≤ 4 by omega) (by decide)
      · exact same_out (same_upd s1 hq1) hD
      · rw [upd_same, List.map_append]
        rfl
      · rw [take_at hrow]
        refine paired_append (Paired.mapP hq fun u r z => ⟨?_, z.2⟩) (.cons ⟨?_, Ne.symm nD⟩ .nil)
        · rw [upd_ne z.2, upd_ne (ne_of_none z.1 hq1)]
          exact z.1
        · rw [upd_ne (Ne.symm nD), upd_same]
    rintro H1 ⟨qs, s1, hD1, hq⟩
    have lt : (ps.map V.ref).length = (tabOf n a).length := by rw [List.length_map, ln, sq0.len]
    rw [lt, List.take_length] at hq
    refine ⟨by show 0 ≤ sizeLine; decide, fun F hF => ⟨by show 3 ≤ sizeLine; decide, fun p hp => ⟨p, _, rfl, SqT.of upd_same, rfl, _, _, rfl, _, _, rfl, _, _, rfl, rfl, ?_⟩⟩⟩
    have nDF : D ≠ F := ne_of_none hD1 hF
    have sF := same_upd0 (o := .lst []) hF
    have sp := same_upd0 (o := .tup [.ref D, .int 1, .ref F]) hp
    have HF0 : H F = none := same_none s1 hF
    have hFp : F ≠ p := ne_of_none upd_same hp
    refine ⟨_, rfl, D, _, rfl, .inl (SqL.of (sp _ _ (sF _ _ hD1))), (n : Int), ?_, (small62 (by omega)).1, (small62 (by omega)).2, ?_⟩
    · rw [List.length_map, hq.length, sq0.len]
    have tI : TabAt (upd (upd H1 F (.lst [])) p (.tup [.ref D, .int 1, .ref F])) D qs (tabOf n a) := ⟨sp _ _ (sF _ _ hD1), Paired.mapP hq fun u r z => ⟨sp _ _ (sF _ _ z.1), z.2⟩⟩
    refine for_it walk_range (fun i σ H' => ∃ b tb qs fs v4 v5 v6 v7, σ = [some (.ref t), some (.ref D), some (.int b), some (.ref F), v4, v5, v6, v7, none, none, none] ∧ Same H H' ∧ TabAt H' D qs tb ∧ H' F = some (.lst (fs.map V.int)) ∧ Sq n tb ∧ (i ≤ 2 → BdT n (bSeq i) tb ∧ b ≤ 165888) ∧ 0 < b ∧ fs.length = i ∧ (∀ q ∈ qs, q ≠ F) ∧ brun n 0 1 (tabOf n a) = fs ++ brun (n - i) i b tb)
      ⟨1, tabOf n a, qs, [], _, _, _, _, rfl, same_upd (same_upd s1 hF) hp, tI, (upd_ne hFp).trans upd_same, sq0, fun _ => ⟨tabOf_bd fun i j _ _ => ha i j, by decide⟩, by decide, rfl, fun q m => ?_, rfl⟩ (fun _ _ _ _ _ => trivial) ?_ ?_
    · obtain ⟨j, hj⟩ := List.getElem?_of_mem m
      obtain ⟨row, _, h1, _⟩ := paired_at hq hj
      exact ne_of_none h1 hF
    · rintro i x σ H2 H3 hi ⟨b, tb2, qs2, fs, v4, v5, v6, v7, rfl, s2, t2, hF2, sq, hbd, hb, hfl, hqF, hrun⟩ ⟨e3, hx⟩
      subst H3
      have hi : i < n := by simpa using hi
      have hx : x = .int (0 + (i : Int)) := hx
      rw [Int.zero_add] at hx
      subst hx
      obtain ⟨p1, g1, g2, g3, g4⟩ := t2.get sq hi hi
      -- pivot
      refine ⟨_, rfl, _, rfl, D, _, _, _, rfl, rfl, SqL.of t2.at_, g1, _, rfl, p1, _, _, _, rfl, rfl, SqL.of g2, g4, ?_⟩
      -- found.append(pivot)
      refine ⟨_, rfl, .inl ⟨rfl, _, SqL.of hF2⟩, _, rfl, F, _, _, rfl, rfl, hF2, by rw [List.length_map, hfl]; exact Nat.lt_of_lt_of_le hi (Nat.le_trans hn (by decide)), ?_⟩
      obtain ⟨H3, e3⟩ : ∃ H3, H3 = upd H2 F (.lst (fs.map V.int ++ [.int (cell tb2 i i)])) := ⟨_, rfl⟩
      have s3 : Same H H3 := by rw [e3]; exact same_out s2 HF0
      have hF3 : H3 F = some (.lst ((fs ++ [cell tb2 i i]).map V.int)) := by rw [e3, upd_same, List.map_append]; rfl
      have nDF2 : D ≠ F := nDF
      have t3 : TabAt H3 D qs2 tb2 := by
        rw [e3]
        refine ⟨(upd_ne nDF).trans t2.at_, ?_⟩
        have key : ∀ {l : List Addr} {r : List (List Int)}, (∀ q ∈ l, q ≠ F) → Paired (fun p row => H2 p = some (.lst (row.map V.int)) ∧ p ≠ D) l r → Paired (fun p row => (upd H2 F (.lst (fs.map V.int ++ [.int (cell tb2 i i)]))) p = some (.lst (row.map V.int)) ∧ p ≠ D) l r := by
          intro l r h1 h2
          induction h2 with
          | nil => exact .nil
          | cons h _ ih => exact .cons ⟨(upd_ne (h1 _ (List.mem_cons_self ..))).trans h.1, h.2⟩ (ih fun q m => h1 q (List.mem_cons_of_mem _ m))
        exact key hqF t2.rows
      rw [← e3]
      clear e3
      have hr1 : n - i = (n - i - 1) + 1 := by omega
      rw [hr1] at hrun
      refine ⟨_, rfl, _, _, rfl, rfl, _, rfl, ?_⟩
      refine ite2 (fun c => ?_) (fun c => ?_)
      · have c2 : cell tb2 i i ≤ 0 := of_decide_eq_true c
        have e : brun n 0 1 (tabOf n a) = fs ++ [cell tb2 i i] := by rw [hrun]; exact congrArg _ (if_pos c2)
        rw [← e] at hF3
        exact ⟨_, rfl, kq F H3 s3 hF3⟩
      have c2 : ¬ cell tb2 i i ≤ 0 := fun z => c (decide_eq_true z)
      have e : brun n 0 1 (tabOf n a) = (fs ++ [cell tb2 i i]) ++ brun (n - i - 1) (i + 1) (cell tb2 i i) (bcols i b tb2 (n - i - 1)) := by
        rw [hrun, List.append_assoc]
        exact congrArg _ (if_neg c2)
      have lq : (qs2.map V.ref).length = n := by rw [List.length_map, Paired.length t3.rows, sq.len]
      -- for low
      refine ⟨_, rfl, _, _, rfl, rfl, _, rfl, D, _, rfl, .inl (SqL.of t3.at_), ((i + 1 : Nat) : Int), (n : Int), ?_, ⟨(small62 (by omega)).1, (small62 (by omega)).2, (small62 (by omega)).1, (small62 (by omega)).2⟩, ?_⟩
      · rw [lq]
        rfl
      have en : ((n : Int) - ((i + 1 : Nat) : Int)).toNat = n - i - 1 := by omega
      rw [en]
      refine for_it walk_range (fun j σ H' => ∃ qs v6 v7, σ = [some (.ref t), some (.ref D), some (.int b), some (.ref F), some (.int (i : Int)), some (.int (cell tb2 i i)), v6, v7, none, none, none] ∧ Same H H' ∧ TabAt H' D qs (bcols i b tb2 j) ∧ H' F = some (.lst ((fs ++ [cell tb2 i i]).map V.int)) ∧ (∀ q ∈ qs, q ≠ F))
        ⟨qs2, _, _, rfl, s3, t3, hF3, hqF⟩ (fun _ _ _ _ _ => trivial) ?_ ?_
      · rintro j x σ H4 H5 hj ⟨qs4, v6, v7, rfl, s4, t4, hF4, hq4⟩ ⟨e5, hx⟩
        subst H5
        have hx : x = .int (((i + 1 : Nat) : Int) + (j : Int)) := hx
        rw [← Int.natCast_add] at hx
        subst hx
        have hi2 : i ≤ 2 := by omega
        obtain ⟨bd, b16⟩ := hbd hi2
        have sqj := bcols_sq (at_ := i) (b := b) sq j (by omega)
        have el := bcols_get i b tb2 j (i + 1 + j) (.inr (Nat.le_refl _))
        have ei := bcols_get i b tb2 j i (.inl (Nat.le_refl _))
        obtain ⟨p2, k1, k2, k3, k4⟩ := t4.get sqj (show i + 1 + j < n by omega) hi
        obtain ⟨p3, l1, l2, l3, l4⟩ := t4.get sqj hi hi
        refine ⟨_, rfl, _, rfl, D, _, _, _, rfl, rfl, SqL.of t4.at_, k1, _, rfl, p2, _, _, _, rfl, rfl, SqL.of k2, k4, ?_⟩
        have ll := sqj.row (i + 1 + j) (by omega)
        have la := sqj.row i hi
        have pb := cell_bd sq bd hi hi
        have fb : -(bSeq i) ≤ cell (bcols i b tb2 j) (i + 1 + j) i ∧ cell (bcols i b tb2 j) (i + 1 + j) i ≤ bSeq i := by
          have e : cell (bcols i b tb2 j) (i + 1 + j) i = cell tb2 (i + 1 + j) i := by unfold cell; rw [el]
          rw [e]
          exact cell_bd sq bd (by omega) hi
        have bq := (bSeq_pos i).2
        obtain ⟨rl, erl⟩ : ∃ rl, rl = (bcols i b tb2 j).getD (i + 1 + j) [] := ⟨_, rfl⟩
        obtain ⟨ra, era⟩ : ∃ ra, ra = (bcols i b tb2 j).getD i [] := ⟨_, rfl⟩
        obtain ⟨ff, eff⟩ : ∃ ff, ff = cell (bcols i b tb2 j) (i + 1 + j) i := ⟨_, rfl⟩
        rw [← erl] at ll k2
        rw [← era] at la l2
        rw [← eff] at fb ⊢
        have hbl : (brow (cell tb2 i i) ff b rl ra).length = n := by rw [brow_length, ll, la, Nat.min_self]
        refine ⟨_, rfl, _, rfl, D, _, _, _, rfl, rfl, SqL.of t4.at_, k1, _, rfl, _, rfl, D, _, _, _, rfl, rfl, SqL.of t4.at_, l1, p2, p3, _, _, rfl, SqL.of k2, SqL.of l2, fun D2 hD2 => lc_it (walk_zip (n := n) ?_) (fun k H' => Same H4 H' ∧ H' D2 = some (.lst (((brow (cell tb2 i i) ff b rl ra).take k).map V.int))) ⟨same_upd0 hD2, upd_same⟩ (fun k H' _ q => ⟨SqL.of (q.1 _ _ k2), SqL.of (q.1 _ _ l2)⟩) ?_ ?_⟩
        · rw [List.length_map, List.length_map, ll, la, Nat.min_self]
        · rintro k x Ha Hb hk ⟨sa, ha2⟩ ⟨T9, x1, x2, rfl, hT, rfl, g5, g6⟩
          have g5 : (rl.map V.int)[k]? = some x1 := g5
          have g6 : (ra.map V.int)[k]? = some x2 := g6
          rw [List.getElem?_map] at g5 g6
          obtain ⟨u, hu5, rfl⟩ := Option.map_eq_some_iff.mp g5
          obtain ⟨v, hv6, rfl⟩ := Option.map_eq_some_iff.mp g6
          have hbr : (brow (cell tb2 i i) ff b rl ra)[k]? = some ((cell tb2 i i * u - ff * v) / b) := by
            unfold brow
            rw [List.getElem?_zipWith, hu5, hv6]
          have nT : D2 ≠ T9 := ne_of_none ha2 hT
          refine ⟨T9, _, rfl, SqT.of upd_same, rfl, _, _, rfl, _, _, rfl, rfl, rfl, ?_⟩
          refine ⟨_, rfl, _, rfl, _, _, rfl, rfl, .inl ⟨by omega, by omega⟩, _, rfl, _, rfl, _, _, rfl, rfl, .inl ⟨by omega, by omega⟩, _, _, rfl, rfl, _, rfl, _, _, rfl, rfl, ⟨by omega, by omega⟩, ?_⟩
          refine ⟨_, (upd_ne nT).trans ha2, ?_, ?_, ?_⟩
          · rw [List.length_map, List.length_take, hbl]
            exact Nat.lt_of_le_of_lt (show _ ≤ 4 by omega) (by decide)
          · exact same_out (same_upd sa hT) hD2
          · rw [upd_same, take_at hbr, List.map_append]
            rfl
        · rintro Ha ⟨sa, ha2⟩
          rw [show n = (brow (cell tb2 i i) ff b rl ra).length from hbl.symm, List.take_length] at ha2
          have hat := sa _ _ t4.at_
          have lq4 : (qs4.map V.ref).length = n := by rw [List.length_map, Paired.length t4.rows, sqj.len]
          have nD2 : D ≠ D2 := ne_of_none t4.at_ hD2
          have nF2 : F ≠ D2 := ne_of_none hF4 hD2
          refine ⟨_, rfl, _, rfl, D, _, _, _, rfl, rfl, hat, ixN_nat (by rw [lq4]; omega), ?_⟩
          refine ⟨qs4.set (i + 1 + j) D2, _, _, rfl, same_out (fun q o e => sa _ _ (s4 _ _ e)) hD, ⟨?_, ?_⟩, ?_, ?_⟩
          · rw [upd_same, List.map_set]
          · have er : bcols i b tb2 (j + 1) = (bcols i b tb2 j).set (i + 1 + j) (brow (cell tb2 i i) ff b rl ra) := by
              rw [erl, era, eff]
              rfl
            rw [er]
            refine paired_set (Paired.mapP t4.rows fun u r z => ⟨?_, z.2⟩) ⟨?_, Ne.symm nD2⟩
            · exact (upd_ne z.2).trans (sa _ _ z.1)
            · exact (upd_ne (Ne.symm nD2)).trans ha2
          · exact (upd_ne (Ne.symm nDF2)).trans (sa _ _ hF4)
          · intro q hq
            rcases List.mem_or_eq_of_mem_set hq with h | h
            · exact hq4 q h
            · rw [h]; exact Ne.symm nF2
      · rintro σ H4 ⟨qs4, v6, v7, rfl, s4, t4, hF4, hq4⟩
        refine ⟨_, rfl, _, bcols i b tb2 (n - i - 1), qs4, fs ++ [cell tb2 i i], _, _, _, _, rfl, s4, t4, hF4, bcols_sq sq _ (by omega), fun h2 => ?_, by omega, by rw [List.length_append, hfl]; rfl, hq4, ?_⟩
        · obtain ⟨bd, b16⟩ := hbd (by omega)
          have b1 := bcols_bd (at_ := i) (b := b) sq hb (bSeq_pos i).1 bd (n - i - 1) (by omega)
          rw [bSeq_step i (by omega)] at b1
          have := cell_bd sq bd hi hi
          have := (bSeq_pos i).2
          exact ⟨b1, by omega⟩
        · rw [e]
          congr 2
    · rintro σ H2 ⟨b, tb2, qs2, fs, v4, v5, v6, v7, rfl, s2, t2, hF2, sq, hbd, hb, hfl, hqF, hrun⟩
      have e : n - (Int.toNat (n : Int)) = 0 := by simp
      rw [e] at hrun
      have hrun : brun n 0 1 (tabOf n a) = fs ++ [] := hrun
      rw [List.append_nil] at hrun
      rw [← hrun] at hF2
      exact ⟨_, rfl, kq F H2 s2 hF2⟩
end
end Bal
set_option autoImplicit true
set_option Elab.async false
set_option linter.all false
set_option maxRecDepth 100000
set_option maxHeartbeats 4000000
/-! W13: ends. -/
namespace Bal
open PySem L2
theorem mat_bd {N : NetM} (G : N.Good) {i : Nat} (hi : i < N.n) (j : Nat) : -7 ≤ N.mat i j ∧ N.mat i j ≤ 5 := by
  have h1 := G.tu5 i hi
  have h2 := G.fal i hi j
  unfold NetM.mat NetM.q
  split <;> omega
theorem tabOf_congr {n : Nat} {a b : Nat → Nat → Int} (h : ∀ i j, i < n → j < n → a i j = b i j) : tabOf n a = tabOf n b := by
  unfold tabOf
  refine List.map_congr_left fun i hi => List.map_congr_left fun j hj => h i j (List.mem_range.mp hi) (List.mem_range.mp hj)
section
variable {P : Program} {w : World} {K : PySem.W.Frag} {mg : Str → Option Value} {base : Heap} {CN CB CS : Addr} {er : Errs}
def spEnds (CN : Addr) (er : Errs) : Sp := fun vs H Q E => ∃ x, vs = [x] ∧ ((∃ n, Thing H x n ∧ n ∈ ["NoneType", "int", "dict", "str"] ∧ ∀ d, H d = none → E (.ref er.nt) (some d) (upd H d (.xd [("name", .non)]))) ∨
  ∃ N J a, x = .ref a.p ∧ NetAt CN H N J a ∧ N.Good ∧ Ends N ∧ ∀ H', Same H H' → Q (.bl true) H')
theorem sc_ends : FnScope ["net"] ["net"] (defScope s_ends) := ⟨rfl, rfl, rfl, by decide +kernel, rfl, by decide +kernel, by decide +kernel⟩
theorem ok_ends {f : Addr} {fd : FuncData} (F : Fun K "ends" "ends" s_ends f fd) (T : Txt K mg CN CB CS) (G_check_net : FnG P w K mg base (L2.CX P w) 2 "check_net" (spCheckNet CN er.nt) []) (G_lattice : FnG P w K mg base CX0 2 "lattice" (spLattice CN) []) (G_minors_of : FnG P w K mg base CX0 1 "minors_of" (spMinors K) []) :
    FnOk P w K mg base (L2.CX P w) 3 f fd ["net"] (spEnds CN er) := by
  refine F.okX sc_ends (fun vs H Q E h => ?_) (fun cdv A outer s H vs Q E hr h => ?_)
  · obtain ⟨x, rfl, _⟩ := h
    rfl
  · obtain ⟨x, rfl, h⟩ := h
    have hu := hu_of hr
    refine ⟨_, (pss_cons (ps_expr (pe_f G_check_net hr (by decide) (by rfl) (passes_call (takes_of rfl rfl rfl rfl) (fun _ _ _ _ h => h)) (pa_cons (pv 0) pa_nil)))
  (pss_one (ps_ret (pe_cmpR op_gt (pe_ix ix_list (pe_f G_minors_of hr (by decide) (by rfl) pass0 (pa_cons (pe_f G_lattice hr (by decide) (by rfl) pass0 (pa_cons (pv 0) pa_nil)) pa_nil)) (pe_un un_neg pe_int) (fun _ _ => rfl)) pe_int (nomark _))))), ?_⟩
    rcases h with ⟨n, t, hn, kE⟩ | ⟨N, J, a, rfl, A1, G, En, kq⟩
    · exact ⟨_, rfl, x, rfl, .inr ⟨n, t, hn, kE⟩⟩
    · refine ⟨_, rfl, _, rfl, .inl ⟨a.p, _, _, rfl, A1.ob, ?_⟩⟩
      refine ⟨_, rfl, N, J, a, rfl, A1, G, fun t ps H1 s1 tb => ?_⟩
      have n4 := G.n4
      obtain ⟨c, ec⟩ : ∃ c : Nat → Nat → Int, c = fun i j => if i < N.n then N.mat i j else 0 := ⟨_, rfl⟩
      have et : tabOf N.n N.mat = tabOf N.n c := tabOf_congr fun i j hi _ => by rw [ec]; exact (if_pos hi).symm
      rw [et] at tb
      refine ⟨t, ps, N.n, c, rfl, tb, n4, fun i j => ?_, fun q H2 s2 hq => ?_⟩
      · rw [ec]
        show -12 ≤ (if i < N.n then N.mat i j else 0) ∧ _
        by_cases h : i < N.n
        · have := mat_bd G h j
          rw [if_pos h]
          show -12 ≤ _ ∧ (if i < N.n then N.mat i j else 0) ≤ 12
          rw [if_pos h]
          omega
        · rw [if_neg h]
          show -12 ≤ (0 : Int) ∧ (if i < N.n then N.mat i j else 0) ≤ 12
          rw [if_neg h]
          decide
      · rw [← et] at hq
        obtain ⟨l, z, e, hz, _⟩ := brun_pos N.mat N.n ⟨G.n1, n4⟩ fun k h1 h2 => En k h1 h2
        rw [e, List.map_append] at hq
        refine ⟨1, rfl, q, _, _, _, rfl, rfl, SqL.of hq, atI_last _ _, z, _, rfl, rfl, ?_⟩
        have : decide ((0 : Int) < z) = true := decide_eq_true hz
        show Q (.bl (decide ((0 : Int) < z))) H2
        rw [this]
        exact kq H2 fun p o e => s2 _ _ (s1 _ _ e)
end
end Bal
set_option autoImplicit true
set_option Elab.async false
set_option linter.all false
set_option maxRecDepth 100000
set_option maxHeartbeats 4000000
/-! W14: settle. -/
namespace Bal
open PySem L2
def ItemAt (H : Hp) (x : V) (p : Nat × Nat) : Prop := ∃ a, x = .ref a ∧ H a = some (.tup [.str (tg p.1), .int (p.2 : Int)])
theorem ItemAt.same {H H' : Hp} (s : Same H H') {x : V} {p : Nat × Nat} (h : ItemAt H x p) : ItemAt H' x p := let ⟨a, e, q⟩ := h; ⟨a, e, s _ _ q⟩
theorem BoardAt.updL {CN CB : Addr} {H0 H : Hp} {N : NetM} {J : Nat} {a : NetA} {b : BdA} {S : BdM} (h : BoardAt CN CB H0 H N J a b S) {o : Addr} {xs ys : List V} (ho : H o = some (.lst xs)) (h0 : H0 o = none) : BoardAt CN CB H0 (upd H o (.lst ys)) N J a b S := by
  have k : ∀ {p : Addr} {u : HO}, H p = some u → (∀ l, u ≠ .lst l) → (upd H o (.lst ys)) p = some u := fun {p u} e hn => by
    rw [upd_ne (fun z => by rw [z, ho] at e; cases e; exact hn _ rfl)]
    exact e
  obtain ⟨is, i, q⟩ := h.wa
  exact { net := h.net, same := same_out h.same h0, n1 := h.n1, n2 := h.n2, n3 := h.n3, n4 := h.n4, ob := k h.ob (by intro l z; cases z), st := k h.st (by intro l z; cases z), wa := ⟨is, i, k q (by intro l z; cases z)⟩, ou := k h.ou (by intro l z; cases z), ta := k h.ta (by intro l z; cases z), d1 := h.d1, d2 := h.d2, d3 := h.d3, d4 := h.d4, d5 := h.d5, d6 := h.d6 }
section
variable {P : Program} {w : World} {K : PySem.W.Frag} {mg : Str → Option Value} {base : Heap} {CN CB CS : Addr} {er : Errs}
/-- what first_waiting gives -/
def NameOf (N : NetM) (S : BdM) (nm : V) : Prop := (∃ k, k < N.n ∧ 0 < S.w k ∧ nm = .str (tg k)) ∨ (Rest N S ∧ nm = .non)
theorem first_of {H0 H : Hp} {N : NetM} {J : Nat} {a : NetA} {b : BdA} {S : BdM} {Q : VK} {E : XK} (B : BoardAt CN CB H0 H N J a b S) (n4 : N.n ≤ 4) (kk : ∀ nm, NameOf N S nm → Q nm H) : spFirst CN CB [.ref b.p] H Q E :=
  ⟨H0, N, J, a, b, S, rfl, B, n4, fun k hk hw _ => kk _ (.inl ⟨k, hk, hw, rfl⟩), fun r => kk _ (.inr ⟨r, rfl⟩)⟩
theorem tNil_of {σ : L2.St} {H : Hp} {Q : List V → Hp → Prop} (h : Q [] H) : tNil σ H Q := h
def lenAt (H : Hp) (o : Addr) : Nat := match H o with
  | some (.lst xs) => xs.length
  | _ => 0
theorem lenAt_of {H : Hp} {o : Addr} {xs : List V} (h : H o = some (.lst xs)) : lenAt H o = xs.length := by unfold lenAt; rw [h]
theorem SetNew.mono {H H' : Hp} {z : StA} (s : Same H H') (h : SetNew H' z) : SetNew H z := ⟨same_none s h.t, same_none s h.o, same_none s h.s, same_none s h.r, h.d1, h.d2, h.d3⟩
def spSettle (CN CS : Addr) (er : Errs) : Sp := fun vs H Q E => ∃ x y z, vs = [x, y, z] ∧ (Refused CN er H E x y z ∨
  ∃ N J a es, x = .ref a.p ∧ NetAt CN H N J a ∧ N.Good ∧ Ends N ∧ GoodB H N J y es ∧ Begun N (stB es) 8 ∧ z = .non ∧
    ∀ l S xs zz H', Runs N (stB es) l S → Rest N S → Paired (ItemAt H') xs l → SetAt CS H' zz (ikv (List.range N.n) fun i => (S.tk i : Int)) (ikv [4, 5] fun i => (S.out i : Int)) (ikv (List.range N.n) fun i => (S.pl i : Int)) xs → SetNew H zz → Same H H' → Q (.ref zz.p) H')
theorem sc_settle : FnScope ["net", "balls", "standing", "board", "order", "name", "knot", "many"] ["net", "balls", "standing"] (defScope s_settle) := ⟨rfl, rfl, rfl, by decide +kernel, rfl, by decide +kernel, by decide +kernel⟩
theorem ok_settle {f : Addr} {fd : FuncData} (F : FunA K "settle" "settle" s_settle f fd) (T : Txt K mg CN CB CS) (G_check_net : FnG P w K mg base (L2.CX P w) 2 "check_net" (spCheckNet CN er.nt) []) (G_ends : FnG P w K mg base (L2.CX P w) 3 "ends" (spEnds CN er) [])
    (G_begun : FnG P w K mg base (L2.CX P w) 3 "begun" (spBegun CN CB er) []) (G_first : MtG P w K mg base CX0 1 CB "first_waiting" (spFirst CN CB) []) (G_take : MtG P w K mg base CX0 3 CB "take" (spTake CN CB) []) (G_Settled : MkG P w K mg base CX0 1 "Settled" CS (spSettled CS) []) :
    FnOk P w K mg base (L2.CX P w) 4 f fd ["net", "balls", "standing"] (spSettle CN CS er) := by
  refine F.okX sc_settle (fun vs H Q E h => ?_) (fun cdv A outer s H vs Q E hr h => ?_)
  · obtain ⟨x, y, z, rfl, _⟩ := h
    rfl
  · obtain ⟨x, y, z, rfl, h⟩ := h
    have hu := hu_of hr
    refine ⟨_, (pss_cons (ps_expr (pe_f G_check_net hr (by decide) (by rfl) (passes_call (takes_of rfl rfl rfl rfl) (fun _ _ _ _ h => h)) (pa_cons (pv 0) pa_nil)))
  (pss_cons (ps_if (pt_not (pt_val (pe_f G_ends hr (by decide) (by rfl) (passes_call (takes_of rfl rfl rfl rfl) (fun _ _ _ _ h => h)) (pa_cons (pv 0) pa_nil)))) (pss_one ps_never) pss_nil)
  (pss_cons (ps_set (i := 3) sc_settle.nd rfl (by first | exact Or.inl rfl | exact Or.inr rfl) (pe_f G_begun hr (by decide) (by rfl) (passes_call (takes_of rfl rfl rfl rfl) (fun _ _ _ _ h => h)) (pa_cons (pv 0) (pa_cons (pv 1) (pa_cons (pv 2) pa_nil)))))
  (pss_cons (ps_par (i := 4) (j := 5) rfl sc_settle.nd rfl rfl (by decide) rfl rfl (pa_cons (pe_lst pa_nil) (pa_cons (pe_m0 G_first hr (by decide) pass0 (pv 3)) pa_nil)) (by rfl))
  (pss_cons (ps_while (passes_of rfl) (pt_cmp (pc_notN (pv 5)) rfl) (pss_cons (ps_for (passes_of rfl) rfl (pi_list (pe_fld (pv 0) rfl)) (pg_name (i := 6) sc_settle.nd rfl (by first | exact Or.inl rfl | exact Or.inr rfl))
  (pss_cons (ps_set (i := 7) sc_settle.nd rfl (by first | exact Or.inl rfl | exact Or.inr rfl) (pe_dget2 hu (pe_fld (pv 3) rfl) (pv 6) pe_int ⟨rfl, rfl, rfl, rfl⟩))
  (pss_one (ps_if (pt_cmpR op_gt (pv 7) pe_int (nomark _)) (pss_cons (ps_expr (pe_bm PySem.F.plainAttrs_list PySem.F.slot_list_append PySem.F.type_list_append mt_append (pv 4) (pa_cons (pe_tup (pa_cons (pv 6) (pa_cons (pv 7) pa_nil))) pa_nil)))
  (pss_one (ps_expr (pe_m G_take hr (by decide) pass0 (pv 3) (pa_cons (pv 6) (pa_cons (pv 7) pa_nil)))))) pss_nil))))
  (pss_one (ps_set (i := 5) sc_settle.nd rfl (by first | exact Or.inl rfl | exact Or.inr rfl) (pe_m0 G_first hr (by decide) pass0 (pv 3))))))
  (pss_one (ps_ret (pe_k G_Settled hr (by decide) (by rfl) pass0 (pa_cons (pe_fld (pv 3) rfl) (pa_cons (pe_fld (pv 3) rfl) (pa_cons (pe_fld (pv 3) rfl) (pa_cons (pv 4) pa_nil)))))))))))), ?_⟩
    rcases h with (⟨n, t, hn, kE⟩ | ⟨N, J, a, rfl, A1, G, En, h⟩) | ⟨N, J, a, es, rfl, A1, G, En, gb, hb8, rfl, kq⟩
    · exact ⟨_, rfl, x, rfl, .inr ⟨n, t, hn, fun d hd => kE H d (Same.refl H) hd⟩⟩
    · refine ⟨_, rfl, _, rfl, .inl ⟨a.p, _, _, rfl, A1.ob, ?_⟩⟩
      refine ⟨_, rfl, _, rfl, .inr ⟨N, J, a, rfl, A1, G, En, fun H1 s1 => ?_⟩⟩
      refine ⟨_, rfl, ?_⟩
      refine iteF ?_
      exact ⟨_, rfl, _, rfl, _, rfl, _, _, _, rfl, .inl (Refused.same s1 (.inr ⟨N, J, a, rfl, A1, G, En, h⟩))⟩
    · refine ⟨_, rfl, _, rfl, .inl ⟨a.p, _, _, rfl, A1.ob, ?_⟩⟩
      refine ⟨_, rfl, _, rfl, .inr ⟨N, J, a, rfl, A1, G, En, fun H1 s1 => ?_⟩⟩
      have n4 := G.n4
      obtain ⟨W, D, wt⟩ := wts_of G En
      have most : ∀ {l : List (Nat × Nat)} {S : BdM}, Runs N (stB es) l S → l.length ≤ 2634240 := fun r => Nat.le_trans (runs_len r) (runs_most G wt hb8 r)
      refine ⟨_, rfl, ?_⟩
      refine iteF ?_
      refine ⟨_, rfl, _, rfl, _, rfl, _, _, _, rfl, .inr ⟨N, J, a, es, rfl, A1.same s1, G, gb.same s1, rfl, fun H0 b H2 s2 B => ?_⟩⟩
      have s0 : Same H H0 := fun p o e => s2 _ _ (s1 _ _ e)
      refine ⟨by show 0 ≤ sizeLine; decide, fun O hO => ?_⟩
      have hO0 : H0 O = none := same_none B.same hO
      have B1 := B.keep (same_upd0 (o := .lst []) hO)
      refine ⟨_, rfl, b.p, _, _, rfl, B1.ob, rfl, ?_⟩
      refine tNil_of (first_of B1 n4 fun nm hnm => ⟨_, _, rfl, ?_⟩)
      refine while_by (fun σ H' => ∃ nm l S xs v6 v7, σ = [some (.ref a.p), some y, some .non, some (.ref b.p), some (.ref O), some nm, v6, v7] ∧ BoardAt CN CB H0 H' N J a b S ∧ Runs N (stB es) l S ∧ NameOf N S nm ∧ H' O = some (.lst xs) ∧ Paired (ItemAt H') xs l)
        (fun _ H' => 2634241 - lenAt H' O) ⟨nm, [], stB es, [], _, _, rfl, B1, rfl, hnm, upd_same, .nil⟩ ?_ (fun σ H Q Q' h ⟨v, e, c, e2, q⟩ => ⟨v, e, c, e2, h _ _ q⟩)
      rintro σ H3 ⟨nm, l, S, xs, v6, v7, rfl, B3, hr3, hnm, hO3, hx3⟩
      refine ⟨_, rfl, _, rfl, ?_⟩
      refine ite2 (fun c => ?_) (fun c => ?_)
      · -- a round
        have hk : ∃ k, k < N.n ∧ 0 < S.w k := by
          rcases hnm with ⟨k, h1, h2, _⟩ | ⟨_, rfl⟩
          · exact ⟨k, h1, h2⟩
          · exact absurd c (by simp)
        have A3 := B3.now
        refine ⟨_, rfl, a.p, CN, a.dx, _, _, rfl, A3.ob, T.cN, T.nNn, netF_n, a.nl, rfl, ⟨_, SqL.of A3.nl⟩, for_it (walk_list (xs := namesV N.n)) (fun i σ H' => ∃ l' S' xs' v6 v7, σ = [some (.ref a.p), some y, some .non, some (.ref b.p), some (.ref O), some nm, v6, v7] ∧ BoardAt CN CB H0 H' N J a b S' ∧ Runs N (stB es) l' S' ∧ H' O = some (.lst xs') ∧ Paired (ItemAt H') xs' l' ∧ (l.length < l'.length ∨ (S' = S ∧ l' = l ∧ ∀ j, j < i → S.w j = 0)))
          ⟨l, S, xs, _, _, rfl, B3, hr3, hO3, hx3, .inr ⟨rfl, rfl, fun j hj => absurd hj (Nat.not_lt_zero _)⟩⟩ (fun i σ H' _ p => ?_) ?_ ?_⟩
        · obtain ⟨_, _, _, _, _, _, B', _⟩ := p
          exact SqL.of B'.now.nl
        · rintro i x σ H4 H5 hi ⟨l', S', xs', u6, u7, rfl, B4, hr4, hO4, hx4, pg⟩ ⟨e5, hx⟩
          subst H5
          rw [names_len] at hi
          obtain ⟨_, rfl⟩ := names_at hx
          obtain ⟨isw, hI, hw⟩ := B4.wa
          refine ⟨_, rfl, b.p, CB, b.dx, _, _, rfl, B4.ob, T.cB, T.nBw, bdF_w, b.wd, rfl, .inl ⟨_, .inl hw⟩, _, rfl, _, dget_tkv hw (by omega) hI.lt, ?_⟩
          rw [iget hI, wInt_at hi]
          refine ⟨_, rfl, _, _, rfl, rfl, _, rfl, ?_⟩
          refine ite2 (fun c => ?_) (fun c => ?_)
          · have hpos : 1 ≤ S'.w i := by have := of_decide_eq_true c; omega
            have hsz : xs'.length < sizeLine := by
              rw [hx4.length]
              exact Nat.lt_of_le_of_lt (most hr4) (by decide)
            refine ⟨_, rfl, .inl ⟨rfl, _, SqL.of hO4⟩, _, rfl, _, rfl, (by show 2 ≤ sizeLine; decide), fun Tp hT => ?_⟩
            have st := same_upd0 (o := .tup [.str (tg i), .int (S'.w i : Int)]) hT
            refine ⟨O, xs', .ref Tp, rfl, rfl, st _ _ hO4, hsz, ?_⟩
            have B5 := (B4.keep st).updL (ys := xs' ++ [.ref Tp]) (st _ _ hO4) hO0
            have nTO : Tp ≠ O := (ne_of_none hO4 hT).symm
            have hT5 : (upd (upd H4 Tp (.tup [.str (tg i), .int (S'.w i : Int)])) O (.lst (xs' ++ [.ref Tp]))) Tp = some (.tup [.str (tg i), .int (S'.w i : Int)]) := (upd_ne nTO).trans upd_same
            have hx5 : Paired (ItemAt (upd (upd H4 Tp (.tup [.str (tg i), .int (S'.w i : Int)])) O (.lst (xs' ++ [.ref Tp])))) (xs' ++ [.ref Tp]) (l' ++ [(i, S'.w i)]) := by
              refine paired_append (Paired.mapP hx4 fun u p ⟨q, e1, e2⟩ => ⟨q, e1, ?_⟩) (.cons ⟨Tp, rfl, hT5⟩ .nil)
              rw [upd_ne (fun z => by rw [z, hO4] at e2; cases e2)]
              exact st _ _ e2
            have pl := placed_runs G hr4 (placed_stB G es)
            refine ⟨_, rfl, b.p, _, _, rfl, B5.ob, rfl, _, rfl, _, rfl, H0, N, J, a, b, S', i, S'.w i, rfl, B5, G, hi, Nat.le_refl _, pl i hi, fun H6 B6 sx => ?_⟩
            refine ⟨l' ++ [(i, S'.w i)], take N S' i (S'.w i), xs' ++ [.ref Tp], _, _, rfl, B6, runs_snoc hr4 hi hpos (Nat.le_refl _), sx.keepT B5 upd_same (by intro _ z; cases z), Paired.mapP hx5 fun u p ⟨q, e1, e2⟩ => ⟨q, e1, sx.keepT B5 e2 (by intro _ z; cases z)⟩, .inl ?_⟩
            rw [List.length_append]
            rcases pg with h | ⟨_, rfl, _⟩
            · exact Nat.lt_of_lt_of_le h (Nat.le_add_right _ _)
            · exact Nat.lt_succ_self _
          · have hz : S'.w i = 0 := by
              have : ¬ (0 : Int) < (S'.w i : Int) := fun z => c (decide_eq_true z)
              omega
            refine ⟨l', S', xs', _, _, rfl, B4, hr4, hO4, hx4, ?_⟩
            rcases pg with h | ⟨rfl, rfl, h⟩
            · exact .inl h
            · refine .inr ⟨rfl, rfl, fun j hj => ?_⟩
              by_cases e : j = i
              · rw [e]; exact hz
              · exact h j (by omega)
        · rintro σ H4 ⟨l', S', xs', u6, u7, rfl, B4, hr4, hO4, hx4, pg⟩
          have pg2 : l.length < l'.length := by
            rcases pg with h | ⟨_, _, h⟩
            · exact h
            · obtain ⟨k, h1, h2⟩ := hk
              rw [names_len] at h
              have := h k h1
              omega
          refine ⟨_, rfl, b.p, _, _, rfl, B4.ob, rfl, ?_⟩
          refine tNil_of (first_of B4 n4 fun nm2 hnm2 => ?_)
          refine ⟨⟨nm2, l', S', xs', _, _, rfl, B4, hr4, hnm2, hO4, hx4⟩, ?_⟩
          rw [lenAt_of hO4, lenAt_of hO3, hx4.length, hx3.length]
          have := most hr4
          omega
      · -- all rest
        have hrest : Rest N S := by
          rcases hnm with ⟨k, _, _, rfl⟩ | ⟨h, _⟩
          · exact absurd (by rfl) c
          · exact h
        have sH3 : Same H H3 := fun p o e => B3.same _ _ (s0 _ _ e)
        refine ⟨_, rfl, b.p, CB, b.dx, _, _, rfl, B3.ob, T.cB, T.nBt, bdF_t, _, rfl, b.p, CB, b.dx, _, _, rfl, B3.ob, T.cB, T.nBo, bdF_o, _, rfl, b.p, CB, b.dx, _, _, rfl, B3.ob, T.cB, T.nBs, bdF_s, _, rfl, fun x dx hx hdx ne => ?_⟩
        have sx : Same H3 (upd (upd H3 dx (.own x)) x (.ins CS dx [])) := same_upd (same_upd0 hdx) ((upd_ne (Ne.symm ne)).trans hx)
        refine ⟨x, dx, b.td, b.od, b.sd, O, _, _, _, xs, rfl, upd_same, sx _ _ B3.ta, sx _ _ B3.ou, sx _ _ B3.st, .inl (sx _ _ hO3), fun zz H5 e1 e2 A5 nw sn => ⟨rfl, ?_⟩⟩
        rw [← e1]
        have s5 : Same H H5 := fun p o e => sn p o (ne_of_none (sH3 _ _ e) hx) (sx _ _ (sH3 _ _ e))
        have hx5 : Paired (ItemAt H5) xs l := Paired.mapP hx3 fun u p ⟨q, h1, h2⟩ => ⟨q, h1, sn q _ (ne_of_none h2 hx) (sx _ _ h2)⟩
        exact kq l S xs zz H5 hr3 hrest hx5 A5 (SetNew.mono (fun p o e => sx _ _ (sH3 _ _ e)) nw) s5
end
end Bal
set_option autoImplicit true
set_option Elab.async false
set_option linter.all false
set_option maxRecDepth 100000
set_option maxHeartbeats 4000000
/-! WD: name = {.. for ..}. -/
namespace Bal
open PySem PySem.Spec PyProof.Rows L2
section
variable {X : Cx}
abbrev BX (X : Cx) (scope : Scope) (s : Shared) (H : Hp) (C : Addr) (cl : List (Str × Addr)) (fp : List Addr) : Cx := X.blk s H scope (compEnvC scope cl C X.env) fp
theorem sw_dict {kx vx : Expr} {gs : List Comprehension} {scope : Scope} {pos py : Pos} {y : Str} {l : Nat} {env : Env} (hk : env.scope.kind = .function) (hy : env.scope.names.lookup y = some .local) (hl : (py.line == pos.line) = true)
    (ha : (scope.names.any fun (n, k) => n == y && (k == .local || k == .cell)) = false) : swapsWith (.DictComp kx vx gs scope pos) (some (.Name y py)) l env = pure true := by
  have kind : env.kindOf y = some .local := hy
  have blk : env.blockKind = .function := by
    unfold Env.blockKind
    rw [hk]
    rfl
  unfold swapsWith
  simp only [blk, kind, ha, Expr.pos, hl]
  rfl
theorem ps_setDc {i : Nat} {y : Str} {py pos spos : Pos} {kx vx tg iter : Expr} {ifs : List Expr} {scope : Scope} {own : List (Str × Nat)} {wi : TI} {g : TG} {tt : TT} {tk tv : TE} (hc : X.calm = true) (hN : X.N.Nodup) (hy : X.N[i]? = some y) (hyl : X.env.scope.names.lookup y = some .local)
    (hsw : swapsWith (.DictComp kx vx [⟨tg, iter, ifs, 0⟩] scope pos) (some (.Name y py)) spos.line X.env = pure true) (hi : PI X tg iter wi) (ok : BlkOk X.N X.env.scope scope own)
    (hg : ∀ s H C cl fp, PG (BX X scope s H C cl fp) tg g) (ht : ∀ s H C cl fp, PTs (BX X scope s H C cl fp) ifs tt) (hk : ∀ s H C cl fp, PE (BX X scope s H C cl fp) kx tk) (hv : ∀ s H C cl fp, PE (BX X scope s H C cl fp) vx tv)
    (hs : ∀ x, foldedSetIterable iter X.env x = pure x := by intro _; rfl) :
    PS X (.Assign [.Name y py] (.DictComp kx vx [⟨tg, iter, ifs, 0⟩] scope pos) spos) (tAsg (tDc wi g tt tk tv (own.map (·.2))) (gName i)) := by
  refine ⟨fun pins s σ H D I hd => ?_⟩
  have hd : tDc wi g tt tk tv (own.map (·.2)) σ H (fun x H1 => gName i x σ H1 D.nx) := hd
  rw [exec_Assign_Name_used _ _ _ _ hsw]
  refine wpAny_bind (wpAny_standAt (wpAny_bind ?_))
  show wpAny _ X.A (do let _ ← comprehension (.DictComp kx vx [⟨tg, iter, ifs, 0⟩] scope pos) scope X.env (firstIterPos [⟨tg, iter, ifs, 0⟩] pos) newDict false (eval iter X.env) (some (assign (.Name y py) X.env))) _ _ s
  refine wpAny_bind (thn (dc_core (Qf := fun _ s' => SP X pins D .next s') hc hN I hi ok hg ht hk hv hs hd fun L C s' m H' I' q hn fp => ?_) fun _ s' hq => wpAny_pure (wpAny_pure hq))
  show wpAny _ _ (assign (.Name y py) X.env (.ref L)) _ _ _
  obtain ⟨f0, f1, f2, f3, f4, f5⟩ := fp
  refine wpAny_assign_Name (store_ok2 (v := V.ref L) I' hN hy (.inl hyl) rfl (fun s2 I2 ⟨a, sb, ha⟩ => ?_) (.inr hyl))
  have ne : C ≠ a := ha.elim (fun z => z ▸ f1) fun z e => f4 y a z e.symm
  exact ⟨m, hn.sameBut sb ne, fun h3 sb3 => ⟨_, H', I2.turned (t' := s2.toks) (fun b o hb e => (sb3.2 b hb).trans e) f0 f1 f3 f4 f5, q⟩⟩
end
end Bal
set_option autoImplicit true
set_option Elab.async false
set_option linter.all false
set_option maxRecDepth 100000
set_option maxHeartbeats 4000000
/-! W15: played. -/
namespace Bal
open PySem L2
theorem tgs_of : ∀ {ys : List Str} {is : List Nat}, (∀ y ∈ ys, y ∈ is.map tg) → (∀ i ∈ is, i < 6) → ∃ zs : List Nat, ys = zs.map tg ∧ ∀ i ∈ zs, i < 6
  | [], _, _, _ => ⟨[], rfl, fun _ h => nomatch h⟩
  | y :: r, is, h, h6 => by
    obtain ⟨zs, e, hz⟩ := tgs_of (ys := r) (fun u hu => h u (List.mem_cons_of_mem _ hu)) h6
    obtain ⟨i, hi, ei⟩ := List.mem_map.mp (h y (List.mem_cons_self ..))
    exact ⟨i :: zs, by rw [e, ← ei]; rfl, fun j hj => by
      rcases List.mem_cons.mp hj with rfl | hj
      · exact h6 _ hi
      · exact hz j hj⟩
section
variable {P : Program} {w : World} {K : PySem.W.Frag} {mg : Str → Option Value} {base : Heap} {CN CB CS : Addr} {er : Errs}
def spPlayed (CN : Addr) (er : Errs) : Sp := fun vs H Q E => ∃ x y o z, vs = [x, y, o, z] ∧ (Refused CN er H E x y z ∨
  ∃ N J a es, x = .ref a.p ∧ NetAt CN H N J a ∧ N.Good ∧ GoodB H N J y es ∧ z = .non ∧
    ((∃ n, Thing H o n ∧ n ≠ "list" ∧ n ≠ "tuple" ∧ ∀ H' d, Same H H' → H' d = none → E (.ref er.bo) (some d) (upd H' d (.xd [("place", .non)]))) ∨
     ∃ l xs os S' r, o = .ref l ∧ H l = some (.lst xs) ∧ Paired (Stp H N) xs os ∧ fol N (stB es) os 0 = (S', r) ∧
       (∀ i, r = some i → ∀ H' d, Same H H' → H' d = none → E (.ref er.bo) (some d) (upd H' d (.xd [("place", .int (i : Nat))]))) ∧
       (r = none → ∀ p wd od sd js v H', Same H H' → H' p = some (.tup [.ref wd, .ref od, .ref sd]) → H' wd = some (.dK (tkv js v)) → (∀ k, k < N.n → 0 < S'.w k → k ∈ js) → H' od = some (.dK (ikv [4, 5] fun i => (S'.out i : Int))) → H' sd = some (.dK (ikv (List.range N.n) fun i => (S'.pl i : Int))) → H p = none → Q (.ref p) H')))
theorem sc_played : FnScope ["net", "balls", "order", "standing", "board", "waiting", "name"] ["net", "balls", "order", "standing"] (defScope s_played) := ⟨rfl, rfl, rfl, by decide +kernel, rfl, by decide +kernel, by decide +kernel⟩
theorem ok_played {f : Addr} {fd : FuncData} (F : FunA K "played" "played" s_played f fd) (T : Txt K mg CN CB CS) (G_begun : FnG P w K mg base (L2.CX P w) 3 "begun" (spBegun CN CB er) []) (G_follow : MtG P w K mg base (L2.CX P w) 4 CB "follow" (spFollow CN CB er.bo) []) :
    FnOk P w K mg base (L2.CX P w) 5 f fd ["net", "balls", "order", "standing"] (spPlayed CN er) := by
  refine F.okX sc_played (fun vs H Q E h => ?_) (fun cdv A outer s H vs Q E hr h => ?_)
  · obtain ⟨x, y, o, z, rfl, _⟩ := h
    rfl
  · obtain ⟨x, y, o, z, rfl, h⟩ := h
    have hu := hu_of hr
    refine ⟨_, (pss_cons (ps_set (i := 4) sc_played.nd rfl (by first | exact Or.inl rfl | exact Or.inr rfl) (pe_f G_begun hr (by decide) (by rfl) (passes_call (takes_of rfl rfl rfl rfl) (fun _ _ _ _ h => h)) (pa_cons (pv 0) (pa_cons (pv 1) (pa_cons (pv 3) pa_nil)))))
  (pss_cons (ps_expr (pe_m G_follow hr (by decide) (passes_call (takes_of rfl rfl rfl rfl) (fun _ _ _ _ h => h)) (pv 4) (pa_cons (pv 2) pa_nil)))
  (pss_cons (ps_setDc (i := 5) (own := [("name", 6)]) rfl sc_played.nd rfl rfl (sw_dict rfl rfl rfl (by decide +kernel)) (pi_list (pe_callB (call_sortedD rfl) (by rfl) T.sorted (by decide +kernel) (pa_cons (pe_fld (pv 4) rfl) pa_nil))) (blkOk_by (by kernel_rfl)) (fun _ _ _ _ _ => (pg_name (i := 6) sc_played.nd rfl (by first | exact Or.inl rfl | exact Or.inr rfl))) (fun _ _ _ _ _ => (pts_one (pt_cmpR op_gt (by exact (pe_dget hu (by exact (pe_fldK (K := K) rfl (pv 4))) (pv 6) (fun _ _ => rfl))) pe_int (nomark _)))) (fun _ _ _ _ _ => (pv 6)) (fun _ _ _ _ _ => (by exact (pe_dget hu (by exact (pe_fldK (K := K) rfl (pv 4))) (pv 6) (fun _ _ => rfl)))))
  (pss_one (ps_ret (pe_tup (pa_cons (pv 5) (pa_cons (pe_fld (pv 4) rfl) (pa_cons (pe_fld (pv 4) rfl) pa_nil))))))))), ?_⟩
    rcases h with h | ⟨N, J, a, es, rfl, A1, G, gb, rfl, h⟩
    · exact ⟨_, rfl, _, rfl, _, rfl, _, _, _, rfl, .inl h⟩
    · have n4 := G.n4
      refine ⟨_, rfl, _, rfl, _, rfl, _, _, _, rfl, .inr ⟨N, J, a, es, rfl, A1, G, gb, rfl, fun H0 b H1 s0 B => ?_⟩⟩
      have sH1 : Same H H1 := fun p o e => B.same _ _ (s0 _ _ e)
      rcases h with ⟨n, t, n1, n2, kE⟩ | ⟨l, xs, os, S', r, rfl, hl, hos, ef, kE, kq⟩
      · exact ⟨_, rfl, b.p, _, _, rfl, B.ob, rfl, _, rfl, H0, N, J, a, b, stB es, _, rfl, B, G, placed_stB G es, .inl ⟨n, t.same sH1, n1, n2, fun H2 s2 d hd => kE H2 d (fun p o e => s2 _ _ (sH1 _ _ e)) hd⟩⟩
      · refine ⟨_, rfl, b.p, _, _, rfl, B.ob, rfl, _, rfl, H0, N, J, a, b, stB es, _, rfl, B, G, placed_stB G es, .inr ⟨l, xs, os, rfl, sH1 _ _ hl, Paired.mapP hos fun _ _ h => h.same sH1, fun H2 S2 e2 B2 sx => ?_, fun H2 S2 i d e2 B2 sx hd => ?_⟩⟩
        · rw [ef] at e2
          obtain ⟨rfl, rfl⟩ := Prod.mk.inj e2
          have s2 : Same H H2 := fun p o e => sameX_same B sx p o (s0 _ _ e)
          obtain ⟨isw, hI, hw⟩ := B2.wa
          refine ⟨_, rfl, b.p, CB, b.dx, _, _, rfl, B2.ob, T.cB, T.nBw, bdF_w, b.wd, _, isw.map tg, rfl, .inl hw, ?_, ?_, fun ys p perm srt hp => ?_⟩
          · unfold ikv tkv
            rw [List.map_map, List.map_map]
            rfl
          · rw [List.length_map]
            have := hI.len
            omega
          obtain ⟨zs, rfl, hz6⟩ := tgs_of (fun y hy => perm.mem_iff.mp hy) hI.lt
          have hzl : zs.length ≤ 6 := by
            have := perm.length_eq
            rw [List.length_map, List.length_map] at this
            have := hI.len
            omega
          have hzm : ∀ k, k < N.n → 0 < S'.w k → k ∈ zs := fun k hk hw => by
            have h1 : k ∈ isw := Classical.byContradiction fun c => by
              have := hI.z k c
              rw [wInt_at hk] at this
              omega
            have h2 : tg k ∈ zs.map tg := perm.mem_iff.mpr (List.mem_map_of_mem h1)
            obtain ⟨i, hi, e⟩ := List.mem_map.mp h2
            rw [← tg_inj i (hz6 i hi) k (by omega) e]
            exact hi
          have sp := same_upd0 (o := .lst ((zs.map tg).map .str)) hp
          have B3 := B2.keep sp
          refine ⟨p, rfl, ⟨_, SqL.of upd_same⟩, fun D hD => dc_it (walk_list (xs := (zs.map tg).map .str)) (fun i H' => ∃ js v, (∀ j ∈ js, j < 6) ∧ js.length ≤ i ∧ (∀ k, k < N.n → 0 < S'.w k → k ∈ zs.take i → k ∈ js) ∧ H' = upd (upd H2 p (.lst ((zs.map tg).map .str))) D (.dK (tkv js v))) ⟨[], fun _ => .non, (fun _ h => nomatch h), Nat.le_refl _, (fun _ _ _ h => nomatch h), rfl⟩ (fun i H' _ q => ?_) ?_ ?_⟩
          · obtain ⟨_, _, _, _, _, rfl⟩ := q
            exact SqL.of ((same_upd0 hD) _ _ upd_same)
          · rintro i x2 H4 H5 hi ⟨js, v, hj6, hjl, hjm, rfl⟩ ⟨e5, hx⟩
            subst H5
            rw [List.getElem?_map, List.getElem?_map] at hx
            obtain ⟨t, ht, rfl⟩ : ∃ t, zs[i]? = some t ∧ V.str (tg t) = x2 := by
              cases q : zs[i]? with
              | none => rw [q] at hx; cases hx
              | some t => rw [q] at hx; cases hx; exact ⟨t, rfl, rfl⟩
            have htm := List.mem_of_getElem? ht
            have ht6 := hz6 t htm
            have B4 := B3.keep (same_upd0 (o := .dK (tkv js v)) hD)
            have htw : t ∈ isw := by
              have := perm.mem_iff.mp (List.mem_map_of_mem htm)
              obtain ⟨i', hi', e⟩ := List.mem_map.mp this
              rw [← tg_inj i' (hI.lt i' hi') t ht6 e]
              exact hi'
            have hw4 : (upd (upd H2 p (.lst ((zs.map tg).map .str))) D (.dK (tkv js v))) b.wd = some (.dK (ikv isw (wInt N S'))) := (same_upd0 (o := .dK (tkv js v)) hD) _ _ (sp _ _ hw)
            have dg := ikv_in hw4 htw hI.lt
            refine ⟨rfl, ?_⟩
            refine ⟨_, rfl, b.p, CB, b.dx, _, _, rfl, B4.ob, T.cB, T.nBw, bdF_w, _, rfl, b.wd, _, rfl, dg, _, _, rfl, rfl, _, rfl, ?_⟩
            refine ite2 (fun c => ?_) (fun c => ?_)
            · refine ⟨_, rfl, _, rfl, b.p, CB, b.dx, _, _, rfl, B4.ob, T.cB, T.nBw, bdF_w, _, rfl, b.wd, _, rfl, dg, _, Sum.inr (tg t), rfl, upd_same, ?_, addI js t, setF v t (.int (wInt N S' t)), addI_lt hj6 ht6, ?_, ?_, ?_⟩
              · rw [tkv_len]
                have hi : i < zs.length := by simpa using hi
                exact Nat.lt_of_le_of_lt (show _ ≤ 6 by omega) (by decide)
              · unfold addI
                split
                · omega
                · rw [List.length_append]
                  simp
                  omega
              · intro k hk hw hm
                rw [take_at ht] at hm
                rcases List.mem_append.mp hm with h | h
                · exact addI_mem.mpr (.inl (hjm k hk hw h))
                · exact addI_mem.mpr (.inr (List.mem_singleton.mp h))
              · rw [upd_upd, tkv_put ht6 hj6]
            · refine ⟨js, v, hj6, by omega, ?_, rfl⟩
              intro k hk hw hm
              rw [take_at ht] at hm
              rcases List.mem_append.mp hm with h | h
              · exact hjm k hk hw h
              · rw [List.mem_singleton.mp h] at hw hk
                exact absurd (decide_eq_true (by rw [wInt_at hk]; omega)) c
          · rintro H4 ⟨js, v, hj6, hjl, hjm, rfl⟩
            rw [List.length_map, List.length_map, List.take_length] at hjm
            have B4 := B3.keep (same_upd0 (o := .dK (tkv js v)) hD)
            refine ⟨_, rfl, _, rfl, b.p, CB, b.dx, _, _, rfl, B4.ob, T.cB, T.nBo, bdF_o, _, rfl, b.p, CB, b.dx, _, _, rfl, B4.ob, T.cB, T.nBs, bdF_s, (by show 3 ≤ sizeLine; decide), fun q hq => ?_⟩
            have sD := same_upd0 (o := .dK (tkv js v)) hD
            have sq := same_upd0 (o := .tup [.ref D, .ref b.od, .ref b.sd]) hq
            have s6 : Same H (upd (upd (upd H2 p (.lst ((zs.map tg).map .str))) D (.dK (tkv js v))) q (.tup [.ref D, .ref b.od, .ref b.sd])) := fun u o e => sq _ _ (sD _ _ (sp _ _ (s2 _ _ e)))
            exact kq rfl q D b.od b.sd js v _ s6 upd_same (sq _ _ upd_same) (fun k hk hw => hjm k hk hw (hzm k hk hw)) (sq _ _ B4.ou) (sq _ _ B4.st) (same_none (H := H) (p := q) (fun u o e => sD _ _ (sp _ _ (s2 _ _ e))) hq)
        · rw [ef] at e2
          obtain ⟨rfl, rfl⟩ := Prod.mk.inj e2
          exact kE i rfl H2 d (fun p o e => sameX_same B sx p o (s0 _ _ e)) hd
end
end Bal
set_option autoImplicit true
set_option Elab.async false
set_option linter.all false
set_option maxRecDepth 100000
set_option maxHeartbeats 4000000
/-! W16: knots_in_turn where it is refused, judge_ends of what is no net, l_asked. -/
namespace Bal
open PySem L2
/-- only the three -/
def OnlyX (er : Errs) (E : XK) : XK := fun cls d H => E cls d H ∧ (cls = .ref er.nt ∨ cls = .ref er.bb ∨ cls = .ref er.bs)
theorem Refused.only {CN : Addr} {er : Errs} {H : Hp} {E : XK} {x y z : V} (h : Refused CN er H E x y z) : Refused CN er H (OnlyX er E) x y z := by
  rcases h with ⟨n, t, hn, k⟩ | ⟨N, J, a, e, A, G, En, h⟩
  · exact .inl ⟨n, t, hn, fun H' d s hd => ⟨k H' d s hd, .inl rfl⟩⟩
  · refine .inr ⟨N, J, a, e, A, G, En, ?_⟩
    rcases h with ⟨b, k⟩ | ⟨g, hz, b, k⟩
    · exact .inl ⟨b, fun H' s => ⟨k H' s, .inr (.inl rfl)⟩⟩
    · exact .inr ⟨g, hz, b, fun H' s => ⟨k H' s, .inr (.inr rfl)⟩⟩
section
variable {P : Program} {w : World} {K : PySem.W.Frag} {mg : Str → Option Value} {base : Heap} {CN CB CS : Addr} {er : Errs}
def spKit (CN : Addr) (er : Errs) : SpG := fun vs H _ E => ∃ x y z, vs = [x, y, z] ∧ Refused CN er H E x y z
theorem gsc_kit : GScope ["net", "balls", "standing", "board", "name"] ["net", "balls", "standing"] (defScope s_knots_in_turn) := ⟨rfl, rfl, rfl, by decide +kernel, rfl, by decide +kernel, by decide +kernel⟩
theorem ok_kit {f : Addr} {fd : FuncData} (F : FunA K "knots_in_turn" "knots_in_turn" s_knots_in_turn f fd) (T : Txt K mg CN CB CS) (G_check_net : FnG P w K mg base (L2.CX P w) 2 "check_net" (spCheckNet CN er.nt) []) (G_ends : FnG P w K mg base (L2.CX P w) 3 "ends" (spEnds CN er) [])
    (G_begun : FnG P w K mg base (L2.CX P w) 3 "begun" (spBegun CN CB er) []) : GFn P w K mg base 4 f fd ["net", "balls", "standing"] (spKit CN er) := by
  obtain ⟨oc, od, dV, kV, doc, pm, an, cdv, ct, osl, rfl, lk, hcd⟩ := F.ex
  refine gfn_of lk hcd gsc_kit (fun vs H Q E h => ?_) (fun A outer s H vs Q E pn hr h => ?_)
  · obtain ⟨x, y, z, rfl, _⟩ := h
    rfl
  · obtain ⟨x, y, z, rfl, h⟩ := h
    have hu := hu_of hr
    have pass : ∀ {E' : XK}, (∀ cls d H, E' cls d H → E cls d H) → Passes (L2.CX P w) (gcxOf P w K mg base ["net", "balls", "standing", "board", "name"] "knots_in_turn" (defScope s_knots_in_turn) f cdv A outer s H E pn) E' := fun h => passes_call takes_gcx fun cls d _ H q => h cls d H q
    refine ⟨_, gss_pss (pss_cons (ps_expr (pe_f G_check_net hr (by decide) (by rfl) (pass fun _ _ _ h => h) (pa_cons (pv 0) pa_nil)))
      (pss_cons (ps_if (pt_not (pt_val (pe_f G_ends hr (by decide) (by rfl) (pass fun _ _ _ h => h) (pa_cons (pv 0) pa_nil)))) (pss_one ps_never) pss_nil)
      (pss_cons (ps_set (i := 3) gsc_kit.nd rfl (.inl rfl) (pe_f G_begun hr (by decide) (by rfl) (pass fun _ _ _ h => h) (pa_cons (pv 0) (pa_cons (pv 1) (pa_cons (pv 2) pa_nil))))) pss_never))), ?_⟩
    rcases h with ⟨n, t, hn, kE⟩ | ⟨N, J, a, rfl, A1, G, En, h⟩
    · exact ⟨_, rfl, x, rfl, .inr ⟨n, t, hn, fun d hd => kE H d (Same.refl H) hd⟩⟩
    · refine ⟨_, rfl, _, rfl, .inl ⟨a.p, _, _, rfl, A1.ob, ?_⟩⟩
      refine ⟨_, rfl, _, rfl, .inr ⟨N, J, a, rfl, A1, G, En, fun H1 s1 => ?_⟩⟩
      refine ⟨_, rfl, ?_⟩
      refine iteF ?_
      exact ⟨_, rfl, _, rfl, _, rfl, _, _, _, rfl, .inl (Refused.same s1 (.inr ⟨N, J, a, rfl, A1, G, En, h⟩))⟩
/-! ### judge_ends -/
def spJudge (er : Errs) : Sp := fun vs H _ E => ∃ x n, vs = [x] ∧ Thing H x n ∧ n ∈ ["NoneType", "int", "dict", "str"] ∧ ∀ d, H d = none → E (.ref er.nt) (some d) (upd H d (.xd [("name", .non)]))
theorem sc_judge_ends : FnScope ["net", "rows", "found", "numbers", "below", "column", "name", "above"] ["net"] (defScope s_judge_ends) := ⟨rfl, rfl, rfl, by decide +kernel, rfl, by decide +kernel, by decide +kernel⟩
theorem ok_judge {f : Addr} {fd : FuncData} (F : Fun K "judge_ends" "judge_ends" s_judge_ends f fd) (G_check_net : FnG P w K mg base (L2.CX P w) 2 "check_net" (spCheckNet CN er.nt) []) : FnOk P w K mg base (L2.CX P w) 3 f fd ["net"] (spJudge er) := by
  refine F.okX sc_judge_ends (fun vs H Q E h => ?_) (fun cdv A outer s H vs Q E hr h => ?_)
  · obtain ⟨x, n, rfl, _⟩ := h
    rfl
  · obtain ⟨x, n, rfl, t, hn, kE⟩ := h
    refine ⟨_, pss_cons (ps_expr (pe_f G_check_net hr (by decide) (by rfl) (passes_call (takes_of rfl rfl rfl rfl) (fun _ _ _ _ h => h)) (pa_cons (pv 0) pa_nil))) pss_never, ?_⟩
    exact ⟨_, rfl, x, rfl, .inr ⟨n, t, hn, kE⟩⟩
end
end Bal
set_option autoImplicit true
set_option Elab.async false
set_option linter.all false
set_option maxRecDepth 100000
set_option maxHeartbeats 4000000
/-! W17: is_name, is_row, is_knot, first_wrong. -/
namespace Bal
open PySem L2
section
variable {P : Program} {w : World} {K : PySem.W.Frag} {mg : Str → Option Value} {base : Heap} {CN CB CS : Addr} {er : Errs}
theorem lt1 (c d : Nat) : (decide (([c] : List Nat) < [d])) = decide (c < d) := by
  rw [decide_eq_decide]
  constructor
  · intro h
    cases h with
    | rel h => exact h
    | cons h => cases h
  · exact fun h => .rel h
/-! ### is_name -/
def spName : Sp := fun vs H Q _ => ∃ c : Nat, vs = [.str ⟨#[c]⟩] ∧ 97 ≤ c ∧ c ≤ 122 ∧ ∀ H', Same H H' → Q (.bl true) H'
theorem sc_is_name : FnScope ["thing", "sign"] ["thing"] (defScope s_is_name) := ⟨rfl, rfl, rfl, by decide +kernel, rfl, by decide +kernel, by decide +kernel⟩
theorem ok_is_name {f : Addr} {fd : FuncData} (F : Fun K "is_name" "is_name" s_is_name f fd) (T : Txt K mg CN CB CS) : FnOk P w K mg base CX0 1 f fd ["thing"] spName := by
  refine F.ok sc_is_name (fun vs H Q E h => ?_) (fun cdv A outer s H vs Q E hr h => ?_)
  · obtain ⟨c, rfl, _⟩ := h
    rfl
  · obtain ⟨c, rfl, c1, c2, kq⟩ := h
    have hu := hu_of hr
    refine ⟨_, (pss_cons (ps_if (PW.pt (pw_or (pt_not (pt_val (pe_callB call_isi (by rfl) T.isinstance (by decide +kernel) (pa_cons (pv 0) (pa_cons (pe_bltn (v := .ty "str") (by rfl) T.str (by decide +kernel) rfl) pa_nil))))) (pw_or (pt_not (pt_chain op_le op_le pe_int (pe_callB call_len_str (by rfl) T.len (by decide +kernel) (pa_cons (pv 0) pa_nil)) (C8.pe_gc (by rfl) T.MOST_SIGNS))) (pw_or1 (pt_not (pt_chain op_le_str op_le_str pe_str (pe_ix ix_str (pv 0) pe_int (fun _ _ => rfl)) pe_str)))))) (pss_one (ps_ret pe_bl)) pss_nil)
  (pss_one (ps_ret (pe_callB (cr_all rfl) (by rfl) T.all (by decide +kernel) (pa_cons (pe_lc (own := [("sign", 1)]) rfl sc_is_name.nd (pi_str (pv 0)) (blkOk_by (by kernel_rfl)) (fun _ _ _ _ _ => (pg_name (i := 1) sc_is_name.nd rfl (by first | exact Or.inl rfl | exact Or.inr rfl))) (fun _ _ _ _ _ => pts_nil) (fun _ _ _ _ _ => (by exact (pe_or (by exact (pe_chain op_le_str op_le_str pe_str (pv 1) pe_str)) (pe_or (by exact (pe_chain op_le_str op_le_str pe_str (pv 1) pe_str)) (pe_one (by exact (pe_cmpR op_eq (pv 1) pe_str (nomark _))))))))) pa_nil))))), ?_⟩
    have ea : ("a" : Str).cps.toList = [97] := by decide +kernel
    have ez : ("z" : Str).cps.toList = [122] := by decide +kernel
    have h1 : (!decide (([c] : List Nat) < ("a" : Str).cps.toList)) = true := by rw [ea, lt1, decide_eq_false (by omega)]; rfl
    have h2 : (!decide (("z" : Str).cps.toList < ([c] : List Nat))) = true := by rw [ez, lt1, decide_eq_false (by omega)]; rfl
    have t : Thing H (.str ⟨#[c]⟩) "str" := .str _
    refine ⟨_, rfl, _, _, _, _, _, rfl, .ty _, t.ty, t.kit.2.2.2, _, rfl, ?_⟩
    refine iteF ⟨_, rfl, _, rfl, (by show 1 ≤ sizeLine; decide), _, _, rfl, rfl, _, rfl, ?_⟩
    refine ite2 (fun _ => ?_) (fun c => absurd rfl c)
    refine ⟨_, _, rfl, rfl, _, rfl, ?_⟩
    refine iteF ⟨_, rfl, _, _, c, rfl, rfl, (by show 1 ≤ sizeLine; decide), rfl, _, _, rfl, rfl, true, congrArg V.bl h1, ?_⟩
    refine iteT ⟨_, _, rfl, rfl, true, congrArg V.bl h2, ?_⟩
    refine iteF ?_
    refine ⟨_, rfl, _, rfl, fun D hD => lc_it (walk_str (z := ⟨#[c]⟩)) (fun i H' => H' = upd H D (.lst (List.replicate i (.bl true)))) rfl (fun _ _ _ _ => trivial) ?_ ?_⟩
    · rintro i x H1 H2 hi e ⟨e2, d, hd, rfl⟩
      subst H2
      subst H1
      have hi : i < 1 := hi
      have hd2 : d = c := by
        have : i = 0 := by omega
        subst this
        exact (Option.some.inj hd).symm
      subst hd2
      refine ⟨rfl, ?_⟩
      refine ⟨_, rfl, _, _, rfl, rfl, true, congrArg V.bl h1, ?_⟩
      refine iteT ⟨_, _, rfl, rfl, ?_⟩
      refine ⟨true, congrArg V.bl h2, iteT ⟨_, upd_same, by rw [List.length_replicate]; exact Nat.lt_of_lt_of_le hi (show 1 ≤ sizeLine by decide), ?_⟩⟩
      rw [upd_upd, List.replicate_succ']
    · rintro H1 rfl
      exact ⟨D, [true], rfl, SqL.of upd_same, kq _ (same_upd0 hD)⟩
/-! ### is_row -/
/-- the known targets -/
structure KnownAt (H : Hp) (d : Addr) (is : List Nat) : Prop where
  at_ : H d = some (.dK (tkv is fun _ => .bl true))
  lt : ∀ i ∈ is, i < 6
theorem KnownAt.same {H H' : Hp} (s : Same H H') {d : Addr} {is : List Nat} (h : KnownAt H d is) : KnownAt H' d is := ⟨s _ _ h.at_, h.lt⟩
def spRow : Sp := fun vs H Q _ => ∃ x d r is, vs = [x, .ref d] ∧ RowAt H r x ∧ KnownAt H d is ∧ r.length ≤ 12 ∧ (∀ e ∈ r, e.length ≤ 4 ∧ ∀ t ∈ e, t ∈ is) ∧ ∀ H', Same H H' → Q (.bl true) H'
theorem sc_is_row : FnScope ["thing", "known", "drop", "target"] ["thing", "known"] (defScope s_is_row) := ⟨rfl, rfl, rfl, by decide +kernel, rfl, by decide +kernel, by decide +kernel⟩
theorem ok_is_row {f : Addr} {fd : FuncData} (F : Fun K "is_row" "is_row" s_is_row f fd) (T : Txt K mg CN CB CS) : FnOk P w K mg base CX0 1 f fd ["thing", "known"] spRow := by
  refine F.ok sc_is_row (fun vs H Q E h => ?_) (fun cdv A outer s H vs Q E hr h => ?_)
  · obtain ⟨x, d, r, is, rfl, _⟩ := h
    rfl
  · obtain ⟨x, d, r, is, rfl, ⟨a, ps, rfl, ha, hps⟩, kn, hl, he, kq⟩ := h
    have hu := hu_of hr
    refine ⟨_, (pss_cons (ps_if (PW.pt (pw_or (pt_not (pt_val (pe_callB call_isi (by rfl) T.isinstance (by decide +kernel) (pa_cons (pv 0) (pa_cons (pe_bltn (v := .ty "tuple") (by rfl) T.tuple (by decide +kernel) rfl) pa_nil))))) (pw_or1 (pt_cmpR op_gt (pe_callB call_len_seq (by rfl) T.len (by decide +kernel) (pa_cons (pv 0) pa_nil)) (C8.pe_gc (by rfl) T.MOST_DROPS) (nomark _))))) (pss_one (ps_ret pe_bl)) pss_nil)
  (pss_cons (ps_for PassesOwn.never rfl (pi_tup (pv 0)) (pg_name (i := 2) sc_is_row.nd rfl (by first | exact Or.inl rfl | exact Or.inr rfl))
  (pss_cons (ps_if (PW.pt (pw_or (pt_not (pt_val (pe_callB call_isi (by rfl) T.isinstance (by decide +kernel) (pa_cons (pv 2) (pa_cons (pe_bltn (v := .ty "tuple") (by rfl) T.tuple (by decide +kernel) rfl) pa_nil))))) (pw_or1 (pt_cmpR op_gt (pe_callB call_len_seq (by rfl) T.len (by decide +kernel) (pa_cons (pv 2) pa_nil)) (C8.pe_gc (by rfl) T.MOST_TARGETS) (nomark _))))) (pss_one (ps_ret pe_bl)) pss_nil)
  (pss_one (ps_if (pt_not (pt_val (pe_callB (cr_all rfl) (by rfl) T.all (by decide +kernel) (pa_cons (pe_lc (own := [("target", 3)]) rfl sc_is_row.nd (pi_tup (pv 2)) (blkOk_by (by kernel_rfl)) (fun _ _ _ _ _ => (pg_name (i := 3) sc_is_row.nd rfl (by first | exact Or.inl rfl | exact Or.inr rfl))) (fun _ _ _ _ _ => pts_nil) (fun _ _ _ _ _ => (by exact (pe_and (by exact (pe_callB (call_isiW (K := K) (by rfl)) (by rfl) T.isinstance (by decide +kernel) (pa_cons (pv 3) (pa_cons (pe_bltn (v := .ty "str") (by rfl) T.str (by decide +kernel) rfl) pa_nil)))) (pe_one (by exact (pe_cmp (pc_din hu (pv 3) (pv 1))))))))) pa_nil)))) (pss_one (ps_ret pe_bl)) pss_nil))))
  (pss_one (ps_ret pe_bl)))), ?_⟩
    have t : Thing H (.ref a) "tuple" := .tup ha
    refine ⟨_, rfl, _, _, _, _, _, rfl, .ty _, t.ty, t.kit.2.1, _, rfl, ?_⟩
    refine iteF ⟨_, rfl, _, _, rfl, .inr (SqT.of ha), _, _, rfl, rfl, _, rfl, ?_⟩
    have hpl := hps.length
    refine ite2 (fun c => absurd (of_decide_eq_true c) (by omega)) (fun _ => ?_)
    refine ⟨_, rfl, a, rfl, ⟨_, SqT.of ha⟩, for_it (walk_tup (xs := ps)) (fun i σ H' => ∃ v, σ = [some (.ref a), some (.ref d), v, none] ∧ Same H H') ⟨_, rfl, Same.refl H⟩ (fun i σ H' _ p => ?_) ?_ ?_⟩
    · obtain ⟨_, _, s1⟩ := p
      exact SqT.of (s1 _ _ ha)
    · rintro i x σ H1 H2 hi ⟨v, rfl, s1⟩ ⟨eH, hx⟩
      subst H2
      obtain ⟨dr, hdr, b, rfl, hb⟩ := paired_at hps hx
      obtain ⟨hd4, hdk⟩ := he dr (List.mem_of_getElem? hdr)
      have hb1 := s1 _ _ hb
      have kn1 := kn.same s1
      have t2 : Thing H1 (.ref b) "tuple" := .tup hb1
      refine ⟨_, rfl, _, _, _, _, _, rfl, .ty _, t2.ty, t2.kit.2.1, _, rfl, ?_⟩
      refine iteF ⟨_, rfl, _, _, rfl, .inr (SqT.of hb1), _, _, rfl, rfl, _, rfl, ?_⟩
      rw [List.length_map]
      refine ite2 (fun c => absurd (of_decide_eq_true c) (by omega)) (fun _ => ?_)
      refine ⟨_, rfl, b, rfl, ⟨_, SqT.of hb1⟩, fun D hD => lc_it (walk_tup (xs := dr.map fun t => .str (tg t))) (fun i H' => H' = upd H1 D (.lst (List.replicate i (.bl true)))) rfl (fun _ _ _ p => by rw [p]; exact SqT.of ((same_upd0 hD) _ _ hb1)) ?_ ?_⟩
      · rintro j x H3 H4 hj e3 ⟨e4, hx2⟩
        subst H4
        subst H3
        rw [List.getElem?_map] at hx2
        obtain ⟨q, hq, rfl⟩ := Option.map_eq_some_iff.mp hx2
        have hqk := hdk q (List.mem_of_getElem? hq)
        have kn2 := kn1.same (same_upd0 (o := .lst (List.replicate j (.bl true))) hD)
        have t3 : Thing H (.str (tg q)) "str" := .str _
        refine ⟨rfl, ?_⟩
        refine ⟨_, rfl, _, _, _, _, _, rfl, .ty _, .base (.str _), t3.kit.2.2.2, _, rfl, ?_⟩
        refine iteT ⟨_, rfl, _, rfl, d, _, rfl, dget_in kn2.at_ hqk kn2.lt, _, upd_same, ?_, ?_⟩
        · rw [List.length_replicate]
          have hj : j < (dr.map fun t => V.str (tg t)).length := hj
          rw [List.length_map] at hj
          exact Nat.lt_of_lt_of_le hj (Nat.le_trans hd4 (by decide))
        · rw [upd_upd, List.replicate_succ']
          rfl
      · rintro H3 rfl
        have e : (List.replicate (dr.map fun t => V.str (tg t)).length (V.bl true)) = (List.replicate dr.length true).map V.bl := by rw [List.length_map, List.map_replicate]
        rw [e]
        refine ⟨D, _, rfl, SqL.of upd_same, _, rfl, ?_⟩
        have e2 : (List.replicate dr.length true).all id = true := by simp
        rw [e2]
        exact ⟨_, rfl, same_upd s1 hD⟩
    · rintro σ H1 ⟨v, rfl, s1⟩
      exact kq H1 s1
/-! ### is_knot -/
def rowD (r : List (List Nat)) : PyData := .tuple (r.map fun d => .tuple (d.map fun t => .str (tg t)))
theorem dp_strs {H : Hp} : ∀ (d : List Nat), DpAll K H (d.map fun t => .str (tg t)) (d.map fun t => .str (tg t))
  | [] => .nil
  | _ :: r => .cons (.str _) (dp_strs r)
theorem dp_row {H : Hp} {r : List (List Nat)} {x : V} (h : RowAt H r x) : Dp K H x (rowD r) := by
  obtain ⟨a, ps, rfl, ha, hp⟩ := h
  refine .tup (SqT.of ha) ?_
  clear ha
  induction hp with
  | nil => exact .nil
  | cons h _ ih =>
    obtain ⟨b, rfl, hb⟩ := h
    exact .cons (.tup (SqT.of hb) (dp_strs _)) ih
theorem strOk_tg : ∀ t, PyData.strOk (tg t) = true
  | 0 => by decide +kernel
  | 1 => by decide +kernel
  | 2 => by decide +kernel
  | 3 => by decide +kernel
  | 4 => by decide +kernel
  | _ + 5 => by show PyData.strOk ("p" : Str) = true; decide +kernel
theorem lay_strs : ∀ d : List Nat, PyData.canLayAll0 (d.map fun t => PyData.str (tg t)) = true
  | [] => rfl
  | t :: r => by
    show (PyData.strOk (tg t) && PyData.canLayAll0 (r.map fun t => PyData.str (tg t))) = true
    rw [strOk_tg, lay_strs r]
    rfl
theorem lay_rows : ∀ r : List (List Nat), PyData.canLayAll0 (r.map fun d => PyData.tuple (d.map fun t => PyData.str (tg t))) = true
  | [] => rfl
  | d :: r => by
    show (PyData.canLayAll0 (d.map fun t => PyData.str (tg t)) && _) = true
    rw [lay_strs d]
    exact lay_rows r
theorem dep_strs : ∀ d : List Nat, PyData.depthAll (d.map fun t => PyData.str (tg t)) ≤ 1
  | [] => by simp [PyData.depthAll]
  | t :: r => by
    have ih := dep_strs r
    simp only [List.map_cons, PyData.depthAll, PyData.depth]
    omega
theorem dep_rows : ∀ r : List (List Nat), PyData.depthAll (r.map fun d => PyData.tuple (d.map fun t => PyData.str (tg t))) ≤ 3
  | [] => by simp [PyData.depthAll]
  | d :: r => by
    have ih := dep_rows r
    have := dep_strs d
    simp only [List.map_cons, PyData.depthAll, PyData.depth]
    omega
theorem shaped_row (r : List (List Nat)) : SeqAt.shaped (rowD r) = true := by
  unfold SeqAt.shaped
  rw [Bool.and_eq_true]
  refine ⟨lay_rows r, decide_eq_true ?_⟩
  have := dep_rows r
  unfold rowD
  simp only [PyData.depth]
  omega
def spKnot : Sp := fun vs H Q _ => ∃ x d r1 r2 is, vs = [x, .ref d] ∧ KnotAt H r1 r2 x ∧ KnownAt H d is ∧ r1.length ≤ 12 ∧ r2.length ≤ 12 ∧ 1 ≤ r2.length ∧ (∀ e ∈ r1 ++ r2, e.length ≤ 4 ∧ ∀ t ∈ e, t ∈ is) ∧ ∀ H', Same H H' → Q (.bl true) H'
theorem sc_is_knot : FnScope ["thing", "known"] ["thing", "known"] (defScope s_is_knot) := ⟨rfl, rfl, rfl, by decide +kernel, rfl, by decide +kernel, by decide +kernel⟩
theorem ok_is_knot {f : Addr} {fd : FuncData} (F : Fun K "is_knot" "is_knot" s_is_knot f fd) (T : Txt K mg CN CB CS) (G_is_row : FnG P w K mg base CX0 1 "is_row" spRow []) : FnOk P w K mg base CX0 2 f fd ["thing", "known"] spKnot := by
  refine F.ok sc_is_knot (fun vs H Q E h => ?_) (fun cdv A outer s H vs Q E hr h => ?_)
  · obtain ⟨x, d, r1, r2, is, rfl, _⟩ := h
    rfl
  · obtain ⟨x, d, r1, r2, is, rfl, ⟨a, y, z, rfl, ha, h1, h2⟩, kn, l1, l2, l3, he, kq⟩ := h
    have hu := hu_of hr
    refine ⟨_, (pss_cons (ps_if (PW.pt (pw_or (pt_not (pt_val (pe_callB call_isi (by rfl) T.isinstance (by decide +kernel) (pa_cons (pv 0) (pa_cons (pe_bltn (v := .ty "tuple") (by rfl) T.tuple (by decide +kernel) rfl) pa_nil))))) (pw_or (pt_cmpR op_ne (pe_callB call_len_seq (by rfl) T.len (by decide +kernel) (pa_cons (pv 0) pa_nil)) pe_int (nomark _)) (pw_or1 (pt_not (pt_val (pe_f G_is_row hr (by decide) (by rfl) pass0 (pa_cons (pe_ix ix_tup (pv 0) pe_int (fun _ _ => rfl)) (pa_cons (pv 1) pa_nil))))))))) (pss_one (ps_ret pe_bl)) pss_nil)
  (pss_one (ps_ret (pe_and (pe_f G_is_row hr (by decide) (by rfl) pass0 (pa_cons (pe_ix ix_tup (pv 0) pe_int (fun _ _ => rfl)) (pa_cons (pv 1) pa_nil))) (pe_one (pe_cmpR (op_neD hr.units) (pe_ix ix_tup (pv 0) pe_int (fun _ _ => rfl)) (pe_tup pa_nil) (nomark _))))))), ?_⟩
    have t : Thing H (.ref a) "tuple" := .tup ha
    refine ⟨_, rfl, _, _, _, _, _, rfl, .ty _, t.ty, t.kit.2.1, _, rfl, ?_⟩
    refine iteF ⟨_, rfl, _, _, rfl, .inr (SqT.of ha), rfl, _, rfl, ?_⟩
    refine iteF ⟨_, rfl, a, _, 0, _, rfl, rfl, SqT.of ha, rfl, _, rfl, _, d, r1, is, rfl, h1, kn, l1, fun e m => he e (List.mem_append.mpr (.inl m)), fun H1 s1 => ?_⟩
    refine ⟨_, rfl, ?_⟩
    refine iteF ?_
    have ha1 := s1 _ _ ha
    refine ⟨_, rfl, a, _, 1, _, rfl, rfl, SqT.of ha1, rfl, _, rfl, _, d, r2, is, rfl, h2.same s1, kn.same s1, l2, fun e m => he e (List.mem_append.mpr (.inr m)), fun H2 s2 => ?_⟩
    refine ⟨_, rfl, ?_⟩
    refine iteT ?_
    have s12 : Same H H2 := fun p o e => s2 _ _ (s1 _ _ e)
    refine ⟨_, rfl, a, _, 1, _, rfl, rfl, SqT.of (s12 _ _ ha), rfl, ?_⟩
    refine ⟨by show 0 ≤ sizeLine; decide, fun q hq => ?_⟩
    have s3 := same_upd0 (o := .tup []) hq
    have dz := dp_row (K := K) (h2.same fun p o e => s3 _ _ (s12 _ _ e))
    refine ⟨rowD r2, .tuple [], dz, .tup (SqT.of upd_same) .nil, ?_, rfl, ?_⟩
    · exact shaped_row r2
    · have e : PyData.eqv (rowD r2) (.tuple []) = false := by
        cases r2 with
        | nil => simp at l3
        | cons d r => rfl
      show Q (.bl (!PyData.eqv (rowD r2) (.tuple []))) _
      rw [e]
      exact kq _ fun p o e => s3 _ _ (s12 _ _ e)
end
end Bal
set_option autoImplicit true
set_option Elab.async false
set_option linter.all false
set_option maxRecDepth 100000
set_option maxHeartbeats 4000000
/-! WV: list(d.values()). -/
namespace Bal
open PySem PySem.Spec PyProof.Rows L2
theorem snd_at {kvs : List (Key × V)} {vs : List (Key × Value)} (kv : KV kvs vs) : ∀ {us : List Value}, us.length = vs.length → (∀ (j : Nat) (v : Value), us[j]? = some v → ∃ k, vs[j]? = some (k, v)) → Vals (kvs.map Prod.snd) us := by
  unfold KV at kv
  induction kv with
  | nil =>
    intro us hl _
    cases us with
    | nil => exact .nil
    | cons _ _ => simp at hl
  | @cons p q ps qs h _ ih =>
    intro us hl hu
    cases us with
    | nil => simp at hl
    | cons u us =>
      obtain ⟨k, e⟩ := hu 0 u rfl
      have e : q = (k, u) := Option.some.inj e
      refine .cons ?_ (ih (by simpa using hl) fun j v hj => ?_)
      · have r := h.2
        rw [e] at r
        exact r
      · obtain ⟨k2, e2⟩ := hu (j + 1) v (by simpa using hj)
        exact ⟨k2, by simpa using e2⟩
def tListVals (te : TE) : TE := fun σ H Q => te σ H fun x H1 => ∃ d kvs, x = .ref d ∧ H1 d = some (.dK kvs) ∧ ∀ p, H1 p = none → Q (.ref p) (upd H1 p (.lst (kvs.map Prod.snd)))
section
variable {X : Cx} {e : Expr} {te : TE} {p apos cpos pos : Pos}
theorem pe_listVals (calm : X.calm = true) (he : PE X e te) (hg : Gl X "list") (hm : X.mg "list" = none) (hv : bootBuiltins "list" = some (.type "list")) (hb : attributeBase e "values" X.env (eval e X.env) = eval e X.env := by rfl) (hl : (apos.endLine == cpos.line) = true := by rfl)
    (hs : starEach [.Call (.Attribute e "values" apos) [] [] cpos] X.env = (false, eval (.Call (.Attribute e "values" apos) [] [] cpos) X.env) :: starEach [] X.env := by rfl) :
    PE X (.Call (.Name "list" p) [.Call (.Attribute e "values" apos) [] [] cpos] [] pos) (tListVals te) := by
  refine ⟨fun pins s σ H Q I hw => wpAny_Call_Name_kw (ld_blt I hg hm hv (PyProof.Rows.callWith_type1 ?_ hs rfl))⟩
  rw [hs]
  show wpAny _ _ (spliced ((false, eval (.Call (.Attribute e "values" apos) [] [] cpos) X.env) :: backTo pos (starEach [] X.env))) _ _ s
  refine Calls.spliced_cons (wpAny_Call_method (T := "dict") (id := "dict.values") hb rfl hl F.plainAttrs_dict F.slot_dict_values F.type_dict_values (thn (he.run pins s σ H _ I hw) fun u s1 hh => ?_))
  obtain ⟨x, H1, I1, rx, d, kvs, ex, hd, q⟩ := hh
  subst ex
  obtain rfl : u = Value.ref d := rx
  obtain ⟨hz, sysd, vs, kv, hdo⟩ := I1.hok d _ hd
  obtain ⟨ep, hat⟩ := hdo.dictAt
  have len : kvs.length = vs.length := Paired.length kv
  have I2 : Inv X pins σ H1 { s1 with heap := s1.heap.push { cls := .type "dict_values", data := .fields #[.ref d] } } := I1.kept (t' := s1.toks) fun b ob z => Heap.get?_push_of_some _ z
  refine ⟨hdo.typeIs, hdo.mapOf.noDict, ?_⟩
  show wpAny _ _ (callWith cpos (.builtin "dict.values") [.ref d] [] []) _ X.xe s1
  refine method_meetsIn F.slot_dict_values F.entry_dict_values rfl (PySem.evalArgs_none ⟨rfl, hdo.typeIs, F.args_dict_values_1 _, _, meets_dict_values (mixKind X.prog X.w) d sysd, ⟨vs, hdo⟩, Calls.spliced_nil ?_⟩)
  refine PySem.W.kdl_call (PySem.W.kdl_values (knd := mixKind X.prog X.w) (kvs := vs) (ep := ep)) (I1.ok.hd calm) ⟨⟨_, Heap.get?_push_size _ rfl, rfl, rfl⟩, hat.push _⟩ (by rw [← len]; exact hz) fun h' tk acc c' hk hL hacc => ?_
  have rv : Vals (kvs.map Prod.snd) acc.toList := snd_at kv (by rw [Array.length_toList]; exact hacc.1) fun j v z => hacc.2 j v (by rw [← Array.getElem?_toList]; exact z)
  refine ⟨.ref _, _, I2.laid (t' := tk) hk (Nat.le_refl _) (show ObjOk X.prog X.w _ _ _ (.lst (kvs.map Prod.snd)) from ⟨by rw [List.length_map]; exact hz, acc.toList, c', rv, by rw [Array.toArray_toList]; exact hL⟩), rfl, q _ (I2.hok.fresh (Nat.le_refl _))⟩
end
end Bal
set_option autoImplicit true
set_option Elab.async false
set_option linter.all false
set_option maxRecDepth 100000
set_option maxHeartbeats 4000000
/-! W18: first_wrong, met. -/
namespace Bal
open PySem L2
/-- texts as keys -/
def skv (zs : List Str) : List (Key × V) := zs.map fun z => (Sum.inr z, .bl true)
theorem skv_val {z : Str} : ∀ {zs : List Str}, z ∉ zs → valV (skv zs) (Sum.inr z : Key) = none
  | [], _ => rfl
  | y :: r, h => by
    show valV ((Sum.inr y, V.bl true) :: skv r) _ = _
    rw [valV_neg fun e => h (by rw [Sum.inr.inj e]; exact List.mem_cons_self ..), skv_val fun m => h (List.mem_cons_of_mem _ m)]
section
variable {P : Program} {w : World} {K : PySem.W.Frag} {mg : Str → Option Value} {base : Heap} {CN CB CS : Addr} {er : Errs}
def spWrong : Sp := fun vs H Q _ => ∃ l, ∃ cs : List Nat, vs = [.ref l] ∧ H l = some (.lst (cs.map fun c => .str ⟨#[c]⟩)) ∧ cs.Nodup ∧ (∀ c ∈ cs, 97 ≤ c ∧ c ≤ 122) ∧ cs.length ≤ 100 ∧ ∀ p H', Same H H' → H' p = some (.lst []) → Q (.ref p) H'
theorem sc_first_wrong : FnScope ["names", "seen", "name"] ["names"] (defScope s_first_wrong) := ⟨rfl, rfl, rfl, by decide +kernel, rfl, by decide +kernel, by decide +kernel⟩
theorem ok_wrong {f : Addr} {fd : FuncData} (F : Fun K "first_wrong" "first_wrong" s_first_wrong f fd) (T : Txt K mg CN CB CS) (G_is_name : FnG P w K mg base CX0 1 "is_name" spName []) : FnOk P w K mg base CX0 2 f fd ["names"] spWrong := by
  refine F.ok sc_first_wrong (fun vs H Q E h => ?_) (fun cdv A outer s H vs Q E hr h => ?_)
  · obtain ⟨l, cs, rfl, _⟩ := h
    rfl
  · obtain ⟨l, cs, rfl, hl, hnd, hc, hlen, kq⟩ := h
    have hu := hu_of hr
    refine ⟨_, pss_cons (ps_set (i := 1) sc_first_wrong.nd rfl (by first | exact Or.inl rfl | exact Or.inr rfl) pe_dnewK)
      (pss_cons (ps_for PassesOwn.never rfl (pi_list (pv 0)) (pg_name (i := 2) sc_first_wrong.nd rfl (by first | exact Or.inl rfl | exact Or.inr rfl))
        (pss_cons (ps_if (PW.pt (pw_or (pt_not (pt_val (pe_f G_is_name hr (by decide) (by rfl) pass0 (pa_cons (pv 2) pa_nil)))) (pw_or1 (pt_cmp (pc_din hu (pv 2) (pv 1)))))) (pss_one ps_never) pss_nil)
          (pss_one (ps_dput hu (pv 1) (pv 2) pe_bl rfl))))
      (pss_one (ps_ret (pe_lst pa_nil)))), ?_⟩
    intro S hS
    have chI : ∀ {a b : Nat}, (⟨#[a]⟩ : Str) = ⟨#[b]⟩ → a = b := fun h => by
      injection h with h
      have := congrArg Array.toList h
      injection this
    refine ⟨_, rfl, l, rfl, ⟨_, SqL.of ((same_upd0 hS) _ _ hl)⟩, for_it (walk_list (xs := cs.map fun c => .str ⟨#[c]⟩)) (fun i σ H' => ∃ v, σ = [some (.ref l), some (.ref S), v] ∧ Same H H' ∧ H' S = some (.dK (skv ((cs.take i).map fun c => ⟨#[c]⟩)))) ⟨_, rfl, same_upd0 hS, upd_same⟩ (fun i σ H' _ p => ?_) ?_ ?_⟩
    · obtain ⟨_, _, s1, _⟩ := p
      exact SqL.of (s1 _ _ hl)
    · rintro i x σ H1 H2 hi ⟨v, rfl, s1, hS1⟩ ⟨e2, hx⟩
      subst H2
      rw [List.getElem?_map] at hx
      obtain ⟨c, hcc, rfl⟩ := Option.map_eq_some_iff.mp hx
      have hcm := hc c (List.mem_of_getElem? hcc)
      have hnm : c ∉ cs.take i := nodup_take hnd hcc
      have hnz : (⟨#[c]⟩ : Str) ∉ (cs.take i).map (fun c => (⟨#[c]⟩ : Str)) := fun m => by
        obtain ⟨b, hb, e⟩ := List.mem_map.mp m
        rw [chI e] at hb
        exact hnm hb
      refine ⟨_, rfl, c, rfl, hcm.1, hcm.2, fun H2 s2 => ?_⟩
      refine ⟨_, rfl, ?_⟩
      have hS2 := s2 _ _ hS1
      have dg : DGet H2 S (.str ⟨#[c]⟩) none := by
        have q := DGet.k (k := Sum.inr (⟨#[c]⟩ : Str)) hS2
        rw [skv_val hnz] at q
        exact q
      refine iteF ⟨_, rfl, _, rfl, S, _, rfl, dg, _, rfl, ?_⟩
      refine iteF ?_
      have s12 : Same H H2 := fun p o e => s2 _ _ (s1 _ _ e)
      have dp := DPut.k (k := Sum.inr (⟨#[c]⟩ : Str)) (v := .bl true) hS2 (by
        unfold skv
        rw [List.length_map, List.length_map, List.length_take]
        exact small1000 (by omega))
      rw [putK_new _ (skv_val hnz)] at dp
      refine ⟨_, rfl, _, rfl, S, _, rfl, dp, ?_⟩
      refine ⟨_, rfl, same_out s12 hS, ?_⟩
      rw [upd_same, take_at hcc, List.map_append]
      unfold skv
      rw [List.map_append]
      rfl
    · rintro σ H1 ⟨v, rfl, s1, hS1⟩
      exact ⟨by show 0 ≤ sizeLine; decide, fun p hp => kq p _ (same_upd s1 hp) upd_same⟩
/-! ### met -/
theorem shaped_strs (l : List Nat) : SeqAt.shaped (.list (l.map fun t => PyData.str (tg t))) = true := by
  have := dep_strs l
  unfold SeqAt.shaped
  rw [Bool.and_eq_true]
  refine ⟨lay_strs l, decide_eq_true ?_⟩
  simp only [PyData.depth]
  omega
def dLen (H : Hp) (o : Addr) : Nat := match H o with
  | some (.dK kvs) => kvs.length
  | _ => 0
theorem dLen_of {H : Hp} {o : Addr} {kvs : List (Key × V)} (h : H o = some (.dK kvs)) : dLen H o = kvs.length := by unfold dLen; rw [h]
def tgV (l : List Nat) : List V := l.map fun t => .str (tg t)
theorem reach_all {N : NetM} (G : N.Good) {fs : List Nat} (h0 : 0 ∈ fs) (hc : ∀ k ∈ fs, ∀ d ∈ N.tu k, ∀ t ∈ d, t < N.n → t ∈ fs) : ∀ k, k < N.n → k ∈ fs
  | 0, _ => h0
  | k + 1, h => hc k (reach_all G h0 hc k (by omega)) [k + 1] (G.nx k h) (k + 1) (List.mem_singleton.mpr rfl) h
def spMet (CN : Addr) : Sp := fun vs H Q _ => ∃ N J a, vs = [.ref a.p] ∧ NetAt CN H N J a ∧ N.Good ∧ J < N.n ∧ ∀ d is H', Same H H' → H' d = some (.dK (tkv is fun _ => .bl true)) → (∀ i ∈ is, i < 6) → (∀ k, k < N.n → k ∈ is) → Q (.ref d) H'
theorem sc_Net_met : FnScope ["self", "found", "rest", "name", "drop", "target"] ["self"] (defScope s_Net_met) := ⟨rfl, rfl, rfl, by decide +kernel, rfl, by decide +kernel, by decide +kernel⟩
theorem ok_met {f : Addr} {fd : FuncData} (F : Fun K "met" "Net.met" s_Net_met f fd) (T : Txt K mg CN CB CS) : FnOk P w K mg base CX0 1 f fd ["self"] (spMet CN) := by
  refine F.ok sc_Net_met (fun vs H Q E h => ?_) (fun cdv A outer s H vs Q E hr h => ?_)
  · obtain ⟨N, J, a, rfl, _⟩ := h
    rfl
  · obtain ⟨N, J, a, rfl, A1, G, hJ, kq⟩ := h
    have hu := hu_of hr
    refine ⟨_, (pss_cons (ps_par (i := 1) (j := 2) rfl sc_Net_met.nd rfl rfl (by decide) rfl rfl (pa_cons pe_dnewK (pa_cons (pe_listVals rfl (pe_fld (pv 0) rfl) (by rfl) T.list (by decide +kernel)) pa_nil)) (by rfl))
  (pss_cons (ps_while PassesOwn.never (pt_cmpR (op_neD hr.units) (pv 2) (pe_lst pa_nil) (nomark _)) (pss_cons (ps_set (i := 3) sc_Net_met.nd rfl (by first | exact Or.inl rfl | exact Or.inr rfl) (pe_bm0 PySem.F.plainAttrs_list PySem.F.slot_list_pop PySem.F.type_list_pop mt_pop (pv 2)))
  (pss_one (ps_if (pt_cmp (pc_dnotin hu (pv 3) (pv 1))) (pss_cons (ps_dput hu (pv 1) (pv 3) pe_bl rfl)
  (pss_one (ps_for PassesOwn.never rfl (pi_tup (pe_ix ix_tup (pe_dget hu (pe_fld (pv 0) rfl) (pv 3) (fun _ _ => rfl)) pe_int (fun _ _ => rfl))) (pg_name (i := 4) sc_Net_met.nd rfl (by first | exact Or.inl rfl | exact Or.inr rfl))
  (pss_one (ps_expr (pe_bm PySem.F.plainAttrs_list PySem.F.slot_list_extend PySem.F.type_list_extend mt_extend (pv 2) (pa_cons (pe_lc (own := [("target", 5)]) rfl sc_Net_met.nd (pi_tup (pv 4)) (blkOk_by (by kernel_rfl)) (fun _ _ _ _ _ => (pg_name (i := 5) sc_Net_met.nd rfl (by first | exact Or.inl rfl | exact Or.inr rfl))) (fun _ _ _ _ _ => (pts_one (pt_cmp (pc_din hu (pv 5) (by exact (pe_fldK (K := K) rfl (pv 0))))))) (fun _ _ _ _ _ => (pv 5))) pa_nil))))))) pss_nil))))
  (pss_one (ps_ret (pv 1))))), ?_⟩
    have n4 := G.n4
    intro F hF
    have s1 := same_upd0 (o := .dK []) hF
    refine ⟨_, rfl, a.p, CN, a.dx, _, _, rfl, s1 _ _ A1.ob, T.cN, T.nNi, netF_i, a.id, _, rfl, s1 _ _ A1.id, fun R hR => ⟨_, _, rfl, ?_⟩⟩
    have nFR : F ≠ R := ne_of_none upd_same hR
    have hR0 : H R = none := same_none s1 hR
    refine while_by (fun σ H' => ∃ (fs rs : List Nat) (v3 v4 : Option V), σ = [some (.ref a.p), some (.ref F), some (.ref R), v3, v4, none] ∧ Same H H' ∧ H' F = some (.dK (tkv fs fun _ => .bl true)) ∧ H' R = some (.lst (tgV rs)) ∧ fs.Nodup ∧ (∀ k ∈ fs, k < N.n) ∧ (∀ k ∈ rs, k < N.n) ∧ rs.length ≤ 2 + 10 * fs.length ∧ (0 ∈ fs ∨ 0 ∈ rs) ∧
        ∀ k ∈ fs, ∀ d ∈ N.tu k, ∀ t ∈ d, t < N.n → t ∈ fs ∨ t ∈ rs)
      (fun _ H' => (4 - dLen H' F) * 100 + lenAt H' R) ⟨[], [0, J], _, _, rfl, same_upd s1 hR, (upd_ne nFR).trans upd_same, upd_same, .nil, (fun _ h => nomatch h), ?_, by simp, .inr (by simp), fun _ h => nomatch h⟩ ?_
      (fun σ H Q Q' h ⟨v, e, sz, k⟩ => ⟨v, e, sz, fun p hp => let ⟨d, e', h1, h2, s1, s2, b, eb, q⟩ := k p hp; ⟨d, e', h1, h2, s1, s2, b, eb, h _ _ q⟩⟩)
    · intro k hk
      rcases List.mem_cons.mp hk with rfl | hk
      · exact G.n1
      · rw [List.mem_singleton.mp hk]; exact hJ
    rintro σ H1 ⟨fs, rs, v3, v4, rfl, sH, hF1, hR1, hnd, hfn, hrn, hrl, h0, hcl⟩
    have fl : fs.length ≤ 4 := Nat.le_trans (nodup_le hnd hfn) n4
    refine ⟨_, rfl, by show 0 ≤ sizeLine; decide, fun q hq => ?_⟩
    have sq := same_upd0 (o := .lst []) hq
    refine ⟨.list (rs.map fun t => PyData.str (tg t)), .list [], .lst (SqL.of (sq _ _ hR1)) (dp_strs rs), .lst (SqL.of upd_same) .nil, shaped_strs rs, rfl, _, rfl, ?_⟩
    have s2 : Same H (upd H1 q (.lst [])) := same_upd sH hq
    have hF2 := sq _ _ hF1
    have hR2 := sq _ _ hR1
    rcases List.eq_nil_or_concat rs with rfl | ⟨l, t, rfl⟩
    · -- nothing is left
      refine iteF ?_
      refine ⟨_, rfl, kq F fs _ s2 hF2 (fun k hk => by have := hfn k hk; omega) fun k hk => ?_⟩
      refine reach_all G (h0.elim id fun h => nomatch h) (fun k hk d hd t ht htn => (hcl k hk d hd t ht htn).elim id fun h => nomatch h) k hk
    · have hne : (!PyData.eqv (.list ((l.concat t).map fun t => PyData.str (tg t))) (.list [])) = true := by
        cases l <;> rfl
      rw [List.concat_eq_append] at *
      rw [hne]
      refine iteT ?_
      have htn : t < N.n := hrn t (by simp)
      have ht6 : t < 6 := by omega
      have hxl : (tgV (l ++ [t]))[(tgV (l ++ [t])).length - 1]? = some (.str (tg t)) := by simp [tgV]
      have hdl : (tgV (l ++ [t])).dropLast = tgV l := by simp [tgV]
      refine ⟨_, rfl, .inl ⟨rfl, _, SqL.of hR2⟩, R, _, _, rfl, rfl, hR2, hxl, ?_⟩
      rw [hdl]
      obtain ⟨H3, e3⟩ : ∃ H3, H3 = upd (upd H1 q (.lst [])) R (.lst (tgV l)) := ⟨_, rfl⟩
      have s3 : Same H H3 := by rw [e3]; exact same_out s2 hR0
      have hF3 : H3 F = some (.dK (tkv fs fun _ => .bl true)) := by rw [e3, upd_ne nFR]; exact hF2
      have hR3 : H3 R = some (.lst (tgV l)) := by rw [e3, upd_same]
      have m1 : lenAt H1 R = l.length + 1 := by rw [lenAt_of hR1]; simp [tgV]
      have m2 : dLen H1 F = fs.length := by rw [dLen_of hF1, tkv_len]
      rw [← e3]
      clear e3
      have hf6 : ∀ i ∈ fs, i < 6 := fun k hk => by have := hfn k hk; omega
      have dg := dget_tkv hF3 ht6 hf6
      by_cases hm : t ∈ fs
      · rw [if_pos hm] at dg
        refine ⟨_, rfl, _, rfl, F, _, rfl, dg, _, rfl, ?_⟩
        refine iteF ?_
        refine ⟨⟨fs, l, _, _, rfl, s3, hF3, hR3, hnd, hfn, fun k hk => hrn k (by simp [hk]), by simp at hrl; omega, ?_, ?_⟩, ?_⟩
        · rcases h0 with h | h
          · exact .inl h
          · rcases List.mem_append.mp h with h | h
            · exact .inr h
            · rw [← List.mem_singleton.mp h] at hm
              exact .inl hm
        · intro k hk d hd t' ht' htn'
          rcases hcl k hk d hd t' ht' htn' with h | h
          · exact .inl h
          · rcases List.mem_append.mp h with h | h
            · exact .inr h
            · rw [← List.mem_singleton.mp h] at hm
              exact .inl hm
        · show (4 - dLen H3 F) * 100 + lenAt H3 R < (4 - dLen H1 F) * 100 + lenAt H1 R
          rw [dLen_of hF3, tkv_len, lenAt_of hR3, m1, m2]
          simp [tgV]
      · rw [if_neg hm] at dg
        refine ⟨_, rfl, _, rfl, F, _, rfl, dg, _, rfl, ?_⟩
        refine iteT ?_
        have dp := dput_tkv (y := .bl true) hF3 ht6 hf6 (by omega)
        have ea : addI fs t = fs ++ [t] := if_neg hm
        have ef : setF (fun _ => V.bl true) t (.bl true) = fun _ => V.bl true := by
          funext i
          unfold setF
          split <;> rfl
        rw [ea, ef] at dp
        refine ⟨_, rfl, _, rfl, F, _, rfl, dp, ?_⟩
        have s4 : Same H (upd H3 F (.dK (tkv (fs ++ [t]) fun _ => .bl true))) := same_out s3 hF
        have A4 := A1.same s4
        have hR4 : (upd H3 F (.dK (tkv (fs ++ [t]) fun _ => .bl true))) R = some (.lst (tgV l)) := (upd_ne (Ne.symm nFR)).trans hR3
        obtain ⟨b, y, z, e, q4, r2, ⟨c, ps, e2, q2, p2⟩⟩ := A1.kn.kn t htn
        refine ⟨_, rfl, a.p, CN, a.dx, _, _, rfl, A4.ob, T.cN, T.nNk, netF_k, _, rfl, a.kd, _, rfl, dget_in A4.kn.dc (List.mem_range.mpr htn) (rng_lt n4), ?_⟩
        rw [e]
        refine ⟨_, _, _, _, rfl, rfl, SqT.of (s4 _ _ q4), rfl, ?_⟩
        refine ⟨c, e2, ⟨_, SqT.of (s4 _ _ q2)⟩, for_it (walk_tup (xs := ps)) (fun i σ H' => ∃ (rs' : List Nat) (v4 : Option V), σ = [some (.ref a.p), some (.ref F), some (.ref R), some (.str (tg t)), v4, none] ∧ Same H H' ∧ H' F = some (.dK (tkv (fs ++ [t]) fun _ => .bl true)) ∧ H' R = some (.lst (tgV rs')) ∧ (∀ k ∈ rs', k < N.n) ∧ rs'.length ≤ l.length + 2 * i ∧ (∀ k ∈ l, k ∈ rs') ∧ ∀ j, j < i → ∀ d, (N.tu t)[j]? = some d → ∀ t' ∈ d, t' < N.n → t' ∈ rs')
          ⟨l, _, rfl, s4, upd_same, hR4, fun k hk => hrn k (by simp [hk]), Nat.le_refl _, fun k hk => hk, fun j hj => absurd hj (Nat.not_lt_zero _)⟩ (fun i σ H' _ p => ?_) ?_ ?_⟩
        · obtain ⟨_, _, _, s5, _⟩ := p
          exact SqT.of (s5 _ _ q2)
        · rintro i x σ H5 H6 hi ⟨rs', u4, rfl, s5, hF5, hR5, hrn5, hrl5, hl5, hj5⟩ ⟨e6, hx⟩
          subst H6
          obtain ⟨dr, hdr, b2, rfl, hb2⟩ := paired_at p2 hx
          have hb5 := s5 _ _ hb2
          have A5 := A1.same s5
          have htg := fun u hu => (G.tg t htn dr (List.mem_append.mpr (.inr (List.mem_of_getElem? hdr)))).2 u hu
          have hd2 : dr.length ≤ 2 := (G.tg t htn dr (List.mem_append.mpr (.inr (List.mem_of_getElem? hdr)))).1
          refine ⟨_, rfl, .inl ⟨rfl, _, SqL.of hR5⟩, _, rfl, b2, rfl, ⟨_, SqT.of hb5⟩, fun D hD => lc_it (walk_tup (xs := dr.map fun t => .str (tg t))) (fun j H' => H' = upd H5 D (.lst (tgV ((dr.take j).filter fun x => decide (x < N.n))))) rfl (fun _ _ _ p => by rw [p]; exact SqT.of ((same_upd0 hD) _ _ hb5)) ?_ ?_⟩
          · rintro j x H7 H8 hj e7 ⟨e8, hx2⟩
            subst H8
            subst H7
            rw [List.getElem?_map] at hx2
            obtain ⟨u, hu2, rfl⟩ := Option.map_eq_some_iff.mp hx2
            have hum := htg u (List.mem_of_getElem? hu2)
            have A7 := A5.same (same_upd0 (o := .lst (tgV ((dr.take j).filter fun x => decide (x < N.n)))) hD)
            have dg2 := dget_tkv A7.kn.dc (show u < 6 by omega) (rng_lt n4)
            have lf : (tgV ((dr.take j).filter fun x => decide (x < N.n))).length ≤ 2 := by
              unfold tgV
              rw [List.length_map]
              refine Nat.le_trans (List.length_filter_le _ _) ?_
              rw [List.length_take]
              omega
            refine ⟨rfl, ?_⟩
            by_cases hun : u < N.n
            · rw [if_pos (List.mem_range.mpr hun)] at dg2
              refine ⟨_, rfl, _, rfl, a.p, CN, a.dx, _, _, rfl, A7.ob, T.cN, T.nNk, netF_k, a.kd, _, rfl, dg2, _, rfl, ?_⟩
              refine iteT ⟨_, rfl, _, upd_same, Nat.lt_of_le_of_lt lf (by decide), ?_⟩
              rw [upd_upd, take_at hu2, List.filter_append]
              unfold tgV
              rw [List.map_append]
              have e : List.filter (fun x => decide (x < N.n)) [u] = [u] := by simp [hun]
              rw [e]
              rfl
            · rw [if_neg fun h => hun (List.mem_range.mp h)] at dg2
              refine ⟨_, rfl, _, rfl, a.p, CN, a.dx, _, _, rfl, A7.ob, T.cN, T.nNk, netF_k, a.kd, _, rfl, dg2, _, rfl, ?_⟩
              refine iteF ?_
              rw [take_at hu2, List.filter_append]
              have e : List.filter (fun x => decide (x < N.n)) [u] = [] := by simp [hun]
              rw [e, List.append_nil]
          · rintro H7 e7
            rw [List.length_map, List.take_length] at e7
            subst H7
            have lf : (dr.filter fun x => decide (x < N.n)).length ≤ 2 := Nat.le_trans (List.length_filter_le _ _) hd2
            have nRD : R ≠ D := ne_of_none hR5 hD
            have nFD : F ≠ D := ne_of_none hF5 hD
            have il : i < 5 := by
              have hi : i < ps.length := hi
              rw [p2.length] at hi
              exact Nat.lt_of_lt_of_le hi (G.tu5 t htn)
            refine ⟨R, D, _, _, rfl, rfl, (upd_ne nRD).trans hR5, upd_same, ?_, ?_⟩
            · unfold tgV
              rw [List.length_map, List.length_map]
              simp at hrl
              exact Nat.le_trans (show _ ≤ 100 by omega) (by decide)
            · refine ⟨rs' ++ (dr.filter fun x => decide (x < N.n)), _, rfl, same_out (same_upd s5 hD) hR0, ?_, ?_, ?_, ?_, ?_, ?_⟩
              · exact (upd_ne nFR).trans ((upd_ne nFD).trans hF5)
              · rw [upd_same]
                unfold tgV
                rw [List.map_append]
              · intro k hk
                rcases List.mem_append.mp hk with h | h
                · exact hrn5 k h
                · exact of_decide_eq_true (List.mem_filter.mp h).2
              · rw [List.length_append]
                omega
              · exact fun k hk => List.mem_append.mpr (.inl (hl5 k hk))
              · intro j hj d hd t' ht' htn'
                by_cases c : j < i
                · exact List.mem_append.mpr (.inl (hj5 j c d hd t' ht' htn'))
                · have e : j = i := by omega
                  rw [e, hdr] at hd
                  rw [← Option.some.inj hd] at ht'
                  exact List.mem_append.mpr (.inr (List.mem_filter.mpr ⟨ht', decide_eq_true htn'⟩))
        · rintro σ H5 ⟨rs', u4, rfl, s5, hF5, hR5, hrn5, hrl5, hl5, hj5⟩
          have pl : ps.length ≤ 5 := by rw [p2.length]; exact G.tu5 t htn
          simp at hrl
          have fn2 : (fs ++ [t]).length ≤ 4 := Nat.le_trans (nodup_le (nd_snoc hnd hm) fun k hk => by
            rcases List.mem_append.mp hk with h | h
            · exact hfn k h
            · rw [List.mem_singleton.mp h]; exact htn) n4
          simp at fn2
          refine ⟨⟨fs ++ [t], rs', _, _, rfl, s5, hF5, hR5, nd_snoc hnd hm, ?_, hrn5, by simp; omega, ?_, ?_⟩, ?_⟩
          · intro k hk
            rcases List.mem_append.mp hk with h | h
            · exact hfn k h
            · rw [List.mem_singleton.mp h]; exact htn
          · rcases h0 with h | h
            · exact .inl (by simp [h])
            · rcases List.mem_append.mp h with h | h
              · exact .inr (hl5 0 h)
              · exact .inl (by simp [List.mem_singleton.mp h])
          · intro k hk d hd t' ht' htn'
            rcases List.mem_append.mp hk with h | h
            · rcases hcl k h d hd t' ht' htn' with h | h
              · exact .inl (by simp [h])
              · rcases List.mem_append.mp h with h | h
                · exact .inr (hl5 t' h)
                · exact .inl (by simp [List.mem_singleton.mp h])
            · rw [List.mem_singleton.mp h] at hd
              obtain ⟨j, hj⟩ := List.getElem?_of_mem hd
              have jl := (List.getElem?_eq_some_iff.mp hj).1
              exact .inr (hj5 j (by rw [p2.length]; exact jl) d hj t' ht' htn')
          · show (4 - dLen H5 F) * 100 + lenAt H5 R < (4 - dLen H1 F) * 100 + lenAt H1 R
            rw [dLen_of hF5, tkv_len, lenAt_of hR5, m1, m2]
            simp [tgV]
            omega
end
end Bal
set_option autoImplicit true
set_option Elab.async false
set_option linter.all false
set_option maxRecDepth 100000
set_option maxHeartbeats 4000000
/-! W19: Net.__init__. -/
namespace Bal
open PySem L2
open PyProof.Rows (sortedS)
/-- the signs of a net's names -/
def code : Nat → Nat := fun k => [97, 98, 99, 100, 111, 112].getD k 0
theorem tg_code : ∀ k, k < 6 → tg k = ⟨#[code k]⟩ := by decide +kernel
def netC (n : Nat) : List Nat := (List.range n).map code ++ [111, 112, 105, 106]
theorem netC_nd : ∀ n, n < 5 → (netC n).Nodup := by decide +kernel
theorem netC_rng : ∀ n, n < 5 → ∀ c ∈ netC n, 97 ≤ c ∧ c ≤ 122 := by decide +kernel
theorem netC_len : ∀ n, n < 5 → (netC n).length ≤ 100 := by decide +kernel
theorem sorted_rng : ∀ n, n < 5 → sortedS ((List.range n).map tg) = true := by decide +kernel
theorem names_code {n : Nat} (h : n ≤ 4) : namesV n ++ [.str "o", .str "p", .str "i", .str "j"] = (netC n).map fun c => .str ⟨#[c]⟩ := by
  unfold namesV netC
  rw [List.map_append, List.map_map]
  refine congr (congrArg _ (List.map_congr_left fun k hk => ?_)) ?_
  · rw [tg_code k (by have := List.mem_range.mp hk; omega)]
    rfl
  · show [V.str "o", .str "p", .str "i", .str "j"] = [.str ⟨#[111]⟩, .str ⟨#[112]⟩, .str ⟨#[105]⟩, .str ⟨#[106]⟩]
    rw [show ("o" : Str) = ⟨#[111]⟩ by decide +kernel, show ("p" : Str) = ⟨#[112]⟩ by decide +kernel, show ("i" : Str) = ⟨#[105]⟩ by decide +kernel, show ("j" : Str) = ⟨#[106]⟩ by decide +kernel]
/-- the targets of a net, the knots first -/
def tgs (n : Nat) : List Nat := List.range n ++ [4, 5]
theorem tgs_lt {n : Nat} (h : n ≤ 4) : ∀ i ∈ tgs n, i < 6 := fun i hi => by
  rcases List.mem_append.mp hi with h1 | h1
  · have := List.mem_range.mp h1; omega
  · simp at h1; omega
theorem tgs_nd : ∀ n, n < 5 → (tgs n).Nodup := by decide +kernel
theorem tgs_len (n : Nat) : (tgs n).length = n + 2 := by simp [tgs]
theorem keys_tkv {is : List Nat} {v : Nat → V} : (tkv is v).map (fun kv => kV kv.1) = is.map fun k => .str (tg k) := by
  unfold tkv
  rw [List.map_map]
  rfl
theorem keys_tkv1 {is : List Nat} {v : Nat → V} : (tkv is v).map (·.1) = (is.map tg).map Sum.inr := by
  unfold tkv
  rw [List.map_map, List.map_map]
  rfl
theorem inl_at {J i : Nat} {k : Key} {v : V} (h : (inl J)[i]? = some (k, v)) : ∃ t, (t = 0 ∨ t = J) ∧ v = .str (tg t) ∧ valV (inl J) k = some (.str (tg t)) := by
  match i, h with
  | 0, h => cases h; exact ⟨0, .inl rfl, rfl, by rfl⟩
  | 1, h => cases h; exact ⟨J, .inr rfl, rfl, by rfl⟩
section
variable {P : Program} {w : World} {K : PySem.W.Frag} {mg : Str → Option Value} {base : Heap} {CN CB CS : Addr}
def spNet (CN : Addr) : Sp := fun vs H Q _ => ∃ H0 N J x dx kd id ol v, vs = [.ref x, .ref kd, .ref id, .ref ol] ∧ H x = some (.ins CN dx []) ∧ H0 x = none ∧ Same H0 H ∧ KnotsAt H0 N kd v ∧ H0 id = some (.dK (inl J)) ∧ H0 ol = some (.lst [.str "o", .str "p"]) ∧ N.Good ∧ J < N.n ∧
  ∀ a H', a.p = x → NetAt CN H' N J a → Same H0 H' → Q .non H'
theorem sc_Net_init : FnScope ["self", "knots", "inlets", "outlets", "wrong", "known", "name", "met"] ["self", "knots", "inlets", "outlets"] (defScope s_Net_init) := ⟨rfl, rfl, rfl, by decide +kernel, rfl, by decide +kernel, by decide +kernel⟩
theorem ok_net {f : Addr} {fd : FuncData} (F : Fun K "__init__" "Net.__init__" s_Net_init f fd) (T : Txt K mg CN CB CS) (G_first_wrong : FnG P w K mg base CX0 2 "first_wrong" spWrong []) (G_is_knot : FnG P w K mg base CX0 2 "is_knot" spKnot []) (G_met : MtG P w K mg base CX0 1 CN "met" (spMet CN) []) :
    FnOk P w K mg base CX0 3 f fd ["self", "knots", "inlets", "outlets"] (spNet CN) := by
  refine F.ok sc_Net_init (fun vs H Q E h => ?_) (fun cdv A outer s H vs Q E hr h => ?_)
  · obtain ⟨H0, N, J, x, dx, kd, id, ol, v, rfl, _⟩ := h
    rfl
  · obtain ⟨H0, N, J, x, dx, kd, id, ol, v, rfl, hx, x0, s0, kn, hid, hol, G, hJ, kq⟩ := h
    have hu := hu_of hr
    have n4 := G.n4
    have n1 := G.n1
    refine ⟨_, (pss_cons (ps_if (PW.pt (pw_or (pt_not (pt_val (pe_callB call_isi (by rfl) T.isinstance (by decide +kernel) (pa_cons (pv 1) (pa_cons (pe_bltn (v := .ty "dict") (by rfl) T.dict (by decide +kernel) rfl) pa_nil))))) (pw_or (pt_not (pt_chain op_le op_le pe_int (pe_callB call_lenD (by rfl) T.len (by decide +kernel) (pa_cons (pv 1) pa_nil)) (C8.pe_gc (by rfl) T.MOST_KNOTS))) (pw_or1 (pt_not (pt_val (pe_callB call_isi (by rfl) T.isinstance (by decide +kernel) (pa_cons (pv 2) (pa_cons (pe_bltn (v := .ty "dict") (by rfl) T.dict (by decide +kernel) rfl) pa_nil))))))))) (pss_one ps_never) pss_nil)
  (pss_cons (ps_if (PW.pt (pw_or (pt_not (pt_val (pe_callB call_isiT (by rfl) T.isinstance (by decide +kernel) (pa_cons (pv 3) (pa_cons (pe_tup (pa_cons (pe_bltn (v := .ty "list") (by rfl) T.list (by decide +kernel) rfl) (pa_cons (pe_bltn (v := .ty "tuple") (by rfl) T.tuple (by decide +kernel) rfl) pa_nil))) pa_nil))))) (pw_or1 (pt_cmpR (op_eqB hr.units) (pv 2) pe_dnewK (nomark _))))) (pss_one ps_never) pss_nil)
  (pss_cons (ps_set (i := 4) sc_Net_init.nd rfl (by first | exact Or.inl rfl | exact Or.inr rfl) (pe_f G_first_wrong hr (by decide) (by rfl) pass0 (pa_cons (pe_lst (pa_starD rfl (pv 1) (StX.pa_star (pv 3) (pa_starD rfl (pv 2) pa_nil)))) pa_nil)))
  (pss_cons (ps_if (pt_cmpR (op_neD hr.units) (pv 4) (pe_lst pa_nil) (nomark _)) (pss_one ps_never) pss_nil)
  (pss_cons (ps_setDc (i := 5) (own := [("name", 6)]) rfl sc_Net_init.nd rfl rfl (sw_dict rfl rfl rfl (by decide +kernel)) (pi_list (pe_lst (pa_starD rfl (pv 1) (StX.pa_star (pv 3) pa_nil)))) (blkOk_by (by kernel_rfl)) (fun _ _ _ _ _ => (pg_name (i := 6) sc_Net_init.nd rfl (by first | exact Or.inl rfl | exact Or.inr rfl))) (fun _ _ _ _ _ => pts_nil) (fun _ _ _ _ _ => (pv 6)) (fun _ _ _ _ _ => pe_bl))
  (pss_cons (ps_for PassesOwn.never rfl (pi_list (pe_callB (call_sortedD rfl) (by rfl) T.sorted (by decide +kernel) (pa_cons (pv 1) pa_nil))) (pg_name (i := 6) sc_Net_init.nd rfl (by first | exact Or.inl rfl | exact Or.inr rfl))
  (pss_one (ps_if (pt_not (pt_val (pe_f G_is_knot hr (by decide) (by rfl) pass0 (pa_cons (pe_dget hu (pv 1) (pv 6) (fun _ _ => rfl)) (pa_cons (pv 5) pa_nil))))) (pss_one ps_never) pss_nil)))
  (pss_cons (ps_lock (ps_for PassesOwn.never rfl (pi_keys (pv 2)) (pg_name (i := 6) sc_Net_init.nd rfl (by first | exact Or.inl rfl | exact Or.inr rfl))
  (pss_one (ps_if (PW.pt (pw_or (pt_not (pt_val (pe_callB call_isi (by rfl) T.isinstance (by decide +kernel) (pa_cons (pe_dget hu (pv 2) (pv 6) (fun _ _ => rfl)) (pa_cons (pe_bltn (v := .ty "str") (by rfl) T.str (by decide +kernel) rfl) pa_nil))))) (pw_or1 (pt_cmp (pc_dnotin hu (pe_dget hu (pv 2) (pv 6) (fun _ _ => rfl)) (pv 1)))))) (pss_one ps_never) pss_nil))))
  (pss_cons (ps_fld (pv 0) (pe_dc (own := [("name", 6)]) rfl sc_Net_init.nd (pi_list (pe_callB (call_sortedD rfl) (by rfl) T.sorted (by decide +kernel) (pa_cons (pv 1) pa_nil))) (blkOk_by (by kernel_rfl)) (fun _ _ _ _ _ => (pg_name (i := 6) sc_Net_init.nd rfl (by first | exact Or.inl rfl | exact Or.inr rfl))) (fun _ _ _ _ _ => pts_nil) (fun _ _ _ _ _ => (pv 6)) (fun _ _ _ _ _ => (by exact (pe_dget hu (pv 1) (pv 6) (fun _ _ => rfl))))) rfl)
  (pss_cons (ps_fld (pv 0) (pe_dc (own := [("name", 6)]) rfl sc_Net_init.nd (pi_list (pe_callB (call_sortedD rfl) (by rfl) T.sorted (by decide +kernel) (pa_cons (pv 2) pa_nil))) (blkOk_by (by kernel_rfl)) (fun _ _ _ _ _ => (pg_name (i := 6) sc_Net_init.nd rfl (by first | exact Or.inl rfl | exact Or.inr rfl))) (fun _ _ _ _ _ => pts_nil) (fun _ _ _ _ _ => (pv 6)) (fun _ _ _ _ _ => (by exact (pe_dget hu (pv 2) (pv 6) (fun _ _ => rfl))))) rfl)
  (pss_cons (ps_fld (pv 0) (pe_callTy call_tuple_of (by rfl) T.tuple (by decide +kernel) (pa_cons (pe_callB cr_sortedS (by rfl) T.sorted (by decide +kernel) (pa_cons (pv 3) pa_nil)) pa_nil)) rfl)
  (pss_cons (ps_fld (pv 0) (pe_callTy (call_listD rfl) (by rfl) T.list (by decide +kernel) (pa_cons (pe_fld (pv 0) rfl) pa_nil)) rfl)
  (pss_cons (ps_set (i := 7) sc_Net_init.nd rfl (by first | exact Or.inl rfl | exact Or.inr rfl) (pe_m0 G_met hr (by decide) pass0 (pv 0)))
  (pss_one (ps_for PassesOwn.never rfl (pi_list (pe_fld (pv 0) rfl)) (pg_name (i := 6) sc_Net_init.nd rfl (by first | exact Or.inl rfl | exact Or.inr rfl))
  (pss_one (ps_if (pt_cmp (pc_dnotin hu (pv 6) (pv 7))) (pss_one ps_never) pss_nil)))))))))))))))), ?_⟩
    have tk : Thing H (.ref kd) "dict" := .dK (s0 _ _ kn.dc)
    have ti : Thing H (.ref id) "dict" := .dK (s0 _ _ hid)
    have tl : Thing H (.ref ol) "list" := .lst (s0 _ _ hol)
    refine ⟨_, rfl, _, _, _, _, _, rfl, .ty _, tk.ty, tk.kit.2.2.1, _, rfl, ?_⟩
    refine iteF ⟨_, rfl, _, _, rfl, s0 _ _ kn.dc, _, _, rfl, rfl, _, rfl, ?_⟩
    rw [tkv_len, List.length_range]
    refine ite2 (fun _ => ?_) (fun c => absurd (decide_eq_true (by omega)) c)
    refine ⟨_, _, rfl, rfl, _, rfl, ?_⟩
    refine ite2 (fun c => ?_) (fun _ => ?_)
    · have c2 : (!decide ((N.n : Int) ≤ 12)) = true := c
      rw [decide_eq_true (show (N.n : Int) ≤ 12 by omega)] at c2
      cases c2
    refine ⟨_, rfl, _, _, _, _, _, rfl, .ty _, ti.ty, ti.kit.2.2.1, _, rfl, ?_⟩
    refine iteF ?_
    -- the outlets, the inlets
    refine ⟨_, rfl, (by show 2 ≤ sizeLine; decide), fun p hp => ?_⟩
    have s1 := same_upd0 (o := .tup [.ty "list", .ty "tuple"]) hp
    refine ⟨_, p, _, _, _, _, rfl, upd_same, .cons (.ty _) (.cons (.ty _) .nil), (tl.same s1).ty, tl.kit2 (K := K), _, rfl, ?_⟩
    obtain ⟨H1, e1⟩ : ∃ H1, H1 = upd H p (.tup [.ty "list", .ty "tuple"]) := ⟨_, rfl⟩
    rw [← e1] at s1 ⊢
    clear e1
    have hx1 := s1 _ _ hx
    have t1 : Same H0 H1 := fun p o e => s1 _ _ (s0 _ _ e)
    refine iteF ⟨_, rfl, fun q hq => ⟨1, false, by decide, .inr (.inr (.inr ⟨id, q, inl J, [], true, rfl, rfl, (same_upd0 hq) _ _ (t1 _ _ hid), upd_same, (fun h => nomatch h), rfl⟩)), _, rfl, ?_⟩⟩
    refine iteF ?_
    have t2 := same_upd t1 (o := .dK []) hq
    have hx2 := same_upd0 (o := .dK []) hq _ _ hx1
    generalize upd H1 q (.dK []) = H2 at t2 hx2 ⊢
    -- the first wrong name
    refine ⟨_, rfl, kd, _, rfl, .inl (t2 _ _ kn.dc), _, rfl, ol, _, rfl, .inr (SqL.of (t2 _ _ hol)), _, rfl, id, _, rfl, .inl (t2 _ _ hid), ?_⟩
    have eL : ((tkv (List.range N.n) v).map fun kv => kV kv.1) ++ ([V.str "o", .str "p"] ++ (((inl J).map fun kv => kV kv.1) ++ [])) = (netC N.n).map fun c => .str ⟨#[c]⟩ := by
      rw [← names_code n4, keys_tkv]
      rfl
    have lL : ((netC N.n).map fun c => V.str ⟨#[c]⟩).length ≤ sizeLine := by
      rw [List.length_map]
      exact Nat.le_trans (netC_len _ (by omega)) (by decide)
    refine ⟨?_, fun l hl => ⟨l, netC N.n, rfl, ?_, netC_nd _ (by omega), netC_rng _ (by omega), netC_len _ (by omega), fun W H3 s3 hW => ?_⟩⟩
    · rw [eL]
      exact lL
    · rw [eL, upd_same]
    have t3 : Same H0 H3 := fun p o e => s3 _ _ (same_upd t2 hl _ _ e)
    have hx3 := s3 _ _ (same_upd0 hl _ _ hx2)
    clear hx hx1 hx2 t1 s1 s3 hl hp hq t2
    refine ⟨_, rfl, (by show 0 ≤ sizeLine; decide), fun q hq => ?_⟩
    have sq := same_upd0 (o := .lst []) hq
    refine ⟨.list [], .list [], .lst (SqL.of (sq _ _ hW)) .nil, .lst (SqL.of upd_same) .nil, rfl, rfl, _, rfl, ?_⟩
    refine iteF ?_
    have t4 : Same H0 (upd H3 q (.lst [])) := fun p o e => sq _ _ (t3 _ _ e)
    have hx4 := sq _ _ hx3
    clear sq hx3 hW t3
    generalize upd H3 q (.lst []) = H4 at t4 hx4 ⊢
    -- the known targets
    refine ⟨_, rfl, kd, _, rfl, .inl (t4 _ _ kn.dc), _, rfl, ol, _, rfl, .inr (SqL.of (t4 _ _ hol)), ?_⟩
    have eT : ((tkv (List.range N.n) v).map fun kv => kV kv.1) ++ ([V.str "o", .str "p"] ++ []) = (tgs N.n).map fun k => .str (tg k) := by
      rw [keys_tkv]
      unfold tgs
      rw [List.map_append]
      rfl
    have lT : ((tgs N.n).map fun k => V.str (tg k)).length ≤ 6 := by
      rw [List.length_map, tgs_len]
      omega
    refine ⟨?_, fun l hl => ⟨l, rfl, ⟨_, SqL.of upd_same⟩, fun D hD => dc_it (walk_list (xs := (tgs N.n).map fun k => .str (tg k))) (fun i H' => Same H0 H' ∧ H' x = some (.ins CN dx []) ∧ H' l = some (.lst ((tgs N.n).map fun k => .str (tg k))) ∧ H' D = some (.dK (tkv ((tgs N.n).take i) fun _ => .bl true))) ?_ (fun i H' _ p => SqL.of p.2.2.1) ?_ ?_⟩⟩
    · rw [eT]
      exact Nat.le_trans lT (by decide)
    · refine ⟨same_upd (same_upd t4 hl) hD, same_upd0 hD _ _ (same_upd0 hl _ _ hx4), ?_, upd_same⟩
      rw [← eT]
      exact same_upd0 hD _ _ upd_same
    · rintro i z H5 H6 hi ⟨t5, hx5, hl5, hD5⟩ ⟨e6, hz⟩
      subst H6
      rw [List.getElem?_map] at hz
      obtain ⟨k, hk, rfl⟩ := Option.map_eq_some_iff.mp hz
      have hk6 := tgs_lt n4 k (List.mem_of_getElem? hk)
      have hn : k ∉ (tgs N.n).take i := nodup_take (tgs_nd _ (by omega)) hk
      have h6 : ∀ j ∈ (tgs N.n).take i, j < 6 := fun j hj => tgs_lt n4 j (List.mem_of_mem_take hj)
      have tl6 : ((tgs N.n).take i).length ≤ 6 := by
        rw [List.length_take, tgs_len]
        omega
      refine ⟨rfl, _, rfl, _, Sum.inr (tg k), rfl, hD5, by rw [tkv_len]; exact Nat.lt_of_le_of_lt tl6 (by decide), ?_⟩
      rw [tkv_put hk6 h6]
      have ea : addI ((tgs N.n).take i) k = (tgs N.n).take (i + 1) := (if_neg hn).trans (take_at hk).symm
      have ef : setF (fun _ => V.bl true) k (.bl true) = fun _ => V.bl true := by
        funext i
        unfold setF
        split <;> rfl
      rw [ea, ef]
      have nDl : l ≠ D := ne_of hl5 hD5 (by intro z; cases z)
      have nDx : x ≠ D := ne_of hx5 hD5 (by intro z; cases z)
      have zD : H0 D = none := same_none (same_upd t4 hl) hD
      exact ⟨same_out t5 zD, (upd_ne nDx).trans hx5, (upd_ne nDl).trans hl5, upd_same⟩
    rintro H5 ⟨t5, hx5, hl5, hD5⟩
    rw [List.length_map, List.take_length] at hD5
    have kk : KnownAt H5 D (tgs N.n) := ⟨hD5, tgs_lt n4⟩
    clear hl hl5 hx4 t4 hD hD5
    -- the knots
    refine ⟨_, rfl, kd, _, (List.range N.n).map tg, rfl, .inl (t5 _ _ kn.dc), keys_tkv1, by rw [List.length_map, List.length_range]; omega, fun ys p perm srt hp => ?_⟩
    have eys : ys = (List.range N.n).map tg := sorted_uniq perm (sorted_rng _ (by omega)) srt
    subst eys
    have eV : (((List.range N.n).map tg).map V.str) = namesV N.n := by
      rw [List.map_map]
      rfl
    rw [eV]
    have kk6 := kk.same (same_upd0 (o := .lst (namesV N.n)) hp)
    have t6 := same_upd t5 (o := .lst (namesV N.n)) hp
    have hx6 := same_upd0 (o := .lst (namesV N.n)) hp _ _ hx5
    have hp6 : (upd H5 p (.lst (namesV N.n))) p = some (.lst (namesV N.n)) := upd_same
    clear hp srt perm
    generalize upd H5 p (.lst (namesV N.n)) = H6 at kk6 t6 hx6 hp6 ⊢
    clear kk hx5 t5
    refine ⟨p, rfl, ⟨_, SqL.of hp6⟩, for_it (walk_list (xs := namesV N.n)) (fun i σ H' => ∃ u, σ = [some (.ref x), some (.ref kd), some (.ref id), some (.ref ol), some (.ref W), some (.ref D), u, none] ∧ Same H6 H') ⟨_, rfl, Same.refl H6⟩ (fun i σ H' _ p => ?_) ?_ ?_⟩
    · obtain ⟨_, _, s7⟩ := p
      exact SqL.of (s7 _ _ hp6)
    · rintro i z σ H7 H8 hi ⟨u, rfl, s7⟩ ⟨e8, hz⟩
      subst H8
      obtain ⟨hi2, rfl⟩ := names_at hz
      have t7 : Same H0 H7 := fun p o e => s7 _ _ (t6 _ _ e)
      have kn7 := kn.same t7
      refine ⟨_, rfl, _, rfl, kd, _, rfl, dget_in kn7.dc (List.mem_range.mpr hi2) (rng_lt n4), _, rfl, _, D, N.fr i, N.tu i, tgs N.n, rfl, kn7.kn i hi2, kk6.same s7, Nat.le_trans (G.fr2 i hi2) (by decide), Nat.le_trans (G.tu5 i hi2) (by decide), G.tu1 i hi2, fun e he => ?_, fun H8 s8 => ?_⟩
      · obtain ⟨h1, h2⟩ := G.tg i hi2 e he
        refine ⟨Nat.le_trans h1 (by decide), fun t ht => ?_⟩
        unfold tgs
        rcases h2 t ht with h | h | h <;> simp [h]
      · refine ⟨_, rfl, ?_⟩
        refine iteF ?_
        exact ⟨_, rfl, fun p o e => s8 _ _ (s7 _ _ e)⟩
    rintro σ H7 ⟨u, rfl, s7⟩
    have t7 : Same H0 H7 := fun p o e => s7 _ _ (t6 _ _ e)
    have hx7 := s7 _ _ hx6
    have kk7 := kk6.same s7
    clear hx6 t6 s7 hp6 kk6
    -- the inlets
    have nki : kd ≠ id := fun e => by
      have h1 := kn.dc
      rw [e, hid] at h1
      injection h1 with h1
      injection h1 with h1
      obtain ⟨m, hm⟩ : ∃ m, N.n = m + 1 := ⟨N.n - 1, by omega⟩
      rw [hm, List.range_succ_eq_map] at h1
      have h2 : (Sum.inr ("i" : Str) : Key) = Sum.inr (tg 0) := congrArg Prod.fst (List.cons.inj h1).1
      exact absurd (Sum.inr.inj h2) (by decide +kernel)
    refine ⟨id, _, t7 _ _ hid, trivial, fun od => ?_⟩
    refine ⟨_, rfl, id, od, rfl, .inl ⟨_, upd_same, for_it walk_keys (fun i σ H' => ∃ u, σ = [some (.ref x), some (.ref kd), some (.ref id), some (.ref ol), some (.ref W), some (.ref D), u, none] ∧ Same (upd H7 id (.frz od (.dK (inl J)))) H') ⟨_, rfl, Same.refl _⟩ (fun i σ H' _ p => ?_) ?_ ?_⟩⟩
    · obtain ⟨_, _, s8⟩ := p
      exact s8 _ _ upd_same
    · rintro i z σ H8 H9 hi ⟨u, rfl, s8⟩ ⟨e9, k, v9, hk, rfl⟩
      subst H9
      obtain ⟨t, ht, rfl, hv⟩ := inl_at hk
      have htn : t < N.n := by rcases ht with rfl | rfl; exact n1; exact hJ
      have hi8 := s8 _ _ upd_same
      have hk8 := s8 _ _ ((upd_ne nki).trans (t7 _ _ kn.dc))
      have dg : DGet H8 id (kV k) (some (.str (tg t))) := .inl ⟨inl J, k, .inr ⟨od, hi8⟩, rfl, hv.symm⟩
      have tt : Thing H (.str (tg t)) "str" := .str _
      refine ⟨_, rfl, _, rfl, id, _, rfl, dg, _, _, _, _, _, rfl, .ty _, .base (.str _), tt.kit.2.2.2, _, rfl, ?_⟩
      refine iteF ⟨_, rfl, _, rfl, id, _, rfl, dg, _, rfl, kd, _, rfl, dget_in hk8 (List.mem_range.mpr htn) (rng_lt n4), _, rfl, ?_⟩
      refine iteF ?_
      exact ⟨_, rfl, s8⟩
    rintro σ H8 ⟨u, rfl, s8⟩
    refine ⟨s8 _ _ upd_same, ?_⟩
    have s8' : Same H7 (upd H8 id (.dK (inl J))) := same_lock (t7 _ _ hid) s8
    have t8 : Same H0 (upd H8 id (.dK (inl J))) := fun p o e => s8' _ _ (t7 _ _ e)
    have hx8 := s8' _ _ hx7
    generalize upd H8 id (.dK (inl J)) = H9 at t8 hx8 ⊢
    clear s8' s8 hx7 t7 kk7 eL lL eT lT
    -- self.knots
    refine ⟨_, rfl, kd, _, (List.range N.n).map tg, rfl, .inl (t8 _ _ kn.dc), keys_tkv1, by rw [List.length_map, List.length_range]; omega, fun ys p perm srt hp => ?_⟩
    have eys : ys = (List.range N.n).map tg := sorted_uniq perm (sorted_rng _ (by omega)) srt
    subst eys
    rw [eV]
    have t9 := same_upd t8 (o := .lst (namesV N.n)) hp
    have hx9 := same_upd0 (o := .lst (namesV N.n)) hp _ _ hx8
    have hp9 : (upd H9 p (.lst (namesV N.n))) p = some (.lst (namesV N.n)) := upd_same
    clear hp srt perm
    generalize upd H9 p (.lst (namesV N.n)) = HA at t9 hx9 hp9 ⊢
    clear hx8 t8
    refine ⟨p, rfl, ⟨_, SqL.of hp9⟩, fun D1 hD1 => dc_it (walk_list (xs := namesV N.n)) (fun i H' => H' = upd HA D1 (.dK (tkv (List.range i) v))) rfl (fun i H' _ p => by rw [p]; exact SqL.of ((same_upd0 hD1) _ _ hp9)) ?_ ?_⟩
    · rintro i x2 H2 H3 hi e2 ⟨e3, hx2⟩
      subst H3
      subst H2
      rw [names_len] at hi
      obtain ⟨_, rfl⟩ := names_at hx2
      refine ⟨rfl, ?_⟩
      refine ⟨_, rfl, _, rfl, _, rfl, kd, _, rfl, dget_in ((same_upd0 hD1) _ _ (t9 _ _ kn.dc)) (List.mem_range.mpr hi) (rng_lt n4), _, Sum.inr (tg i), rfl, upd_same, by rw [tkv_len, List.length_range]; exact small1000 (by omega), ?_⟩
      rw [upd_upd, tkv_put (by omega) (rng_lt (n := i) (by omega))]
      exact congrArg (fun q => upd HA D1 (.dK q)) (rng_succ v i)
    rintro HB rfl
    rw [names_len]
    have nx1 : x ≠ D1 := ne_of_none hx9 hD1
    have z1 : H0 D1 = none := same_none t9 hD1
    refine ⟨_, rfl, x, CN, dx, _, rfl, (upd_ne nx1).trans hx9, T.cN, T.nNk, (by show 0 < 1000; decide), ?_⟩
    obtain ⟨HC, eC⟩ : ∃ HC, HC = upd (upd HA D1 (.dK (tkv (List.range N.n) v))) x (.ins CN dx [("knots", .ref D1)]) := ⟨_, rfl⟩
    have tC : Same H0 HC := by rw [eC]; exact same_out (same_out t9 z1) x0
    have hxC : HC x = some (.ins CN dx [("knots", .ref D1)]) := by rw [eC, upd_same]
    have h1C : HC D1 = some (.dK (tkv (List.range N.n) v)) := by rw [eC, upd_ne (Ne.symm nx1), upd_same]
    show tSeq _ _ _ _ (upd (upd HA D1 (.dK (tkv (List.range N.n) v))) x (.ins CN dx [("knots", .ref D1)]))
    rw [← eC]
    clear eC hx9 hD1 hp9 t9
    -- self.inlets
    refine ⟨_, rfl, id, _, [("i" : Str), "j"], rfl, .inl (tC _ _ hid), rfl, by decide, fun ys p perm srt hp => ?_⟩
    have eys : ys = [("i" : Str), "j"] := sorted_uniq perm (by decide +kernel) srt
    subst eys
    have nxp : x ≠ p := ne_of_none hxC hp
    have n1p : D1 ≠ p := ne_of_none h1C hp
    have zp : H0 p = none := same_none tC hp
    obtain ⟨HD, eD⟩ : ∃ HD, HD = upd HC p (.lst [.str "i", .str "j"]) := ⟨_, rfl⟩
    have tD : Same H0 HD := by rw [eD]; exact same_out tC zp
    have hpD : HD p = some (.lst [.str "i", .str "j"]) := by rw [eD, upd_same]
    have hxD : HD x = some (.ins CN dx [("knots", .ref D1)]) := by rw [eD, upd_ne nxp]; exact hxC
    have h1D : HD D1 = some (.dK (tkv (List.range N.n) v)) := by rw [eD, upd_ne n1p]; exact h1C
    have eV2 : (List.map V.str [("i" : Str), "j"]) = [.str "i", .str "j"] := rfl
    rw [eV2, ← eD]
    refine ⟨p, rfl, ⟨_, SqL.of hpD⟩, ?_⟩
    clear eD hp hxC h1C tC nxp n1p zp
    refine fun D2 hD2 => dc_it (walk_list (xs := [.str "i", .str "j"])) (fun i H' => H' = upd HD D2 (.dK ((inl J).take i))) rfl (fun i H' _ p => by rw [p]; exact SqL.of ((same_upd0 hD2) _ _ hpD)) ?_ ?_
    · rintro i x2 H2 H3 hi e2 ⟨e3, hx2⟩
      subst H3
      subst H2
      have hid2 := (same_upd0 hD2 (o := .dK ((inl J).take i))) _ _ (tD _ _ hid)
      refine ⟨rfl, ?_⟩
      match i, hi with
      | 0, _ =>
        cases hx2
        refine ⟨_, rfl, _, rfl, _, rfl, id, _, rfl, DGet.k (k := Sum.inr "i") hid2, _, Sum.inr "i", rfl, upd_same, small1000 (by show 0 ≤ 1000; decide), ?_⟩
        rw [upd_upd]
        rfl
      | 1, _ =>
        cases hx2
        refine ⟨_, rfl, _, rfl, _, rfl, id, _, rfl, DGet.k (k := Sum.inr "j") hid2, _, Sum.inr "j", rfl, upd_same, small1000 (by show 1 ≤ 1000; decide), ?_⟩
        rw [upd_upd]
        rfl
    intro H2 e2
    have e2 : H2 = upd HD D2 (.dK (inl J)) := e2
    subst e2
    have nx2 : x ≠ D2 := ne_of_none hxD hD2
    have n12 : D1 ≠ D2 := ne_of_none h1D hD2
    have z2 : H0 D2 = none := same_none tD hD2
    refine ⟨_, rfl, x, CN, dx, _, rfl, (upd_ne nx2).trans hxD, T.cN, T.nNi, (by show 1 < 1000; decide), ?_⟩
    obtain ⟨HE, eE⟩ : ∃ HE, HE = upd (upd HD D2 (.dK (inl J))) x (.ins CN dx [("knots", .ref D1), ("inlets", .ref D2)]) := ⟨_, rfl⟩
    have tE : Same H0 HE := by rw [eE]; exact same_out (same_out tD z2) x0
    have hxE : HE x = some (.ins CN dx [("knots", .ref D1), ("inlets", .ref D2)]) := by rw [eE, upd_same]
    have h1E : HE D1 = some (.dK (tkv (List.range N.n) v)) := by rw [eE, upd_ne (Ne.symm nx1), upd_ne n12]; exact h1D
    have h2E : HE D2 = some (.dK (inl J)) := by rw [eE, upd_ne (Ne.symm nx2), upd_same]
    show tSeq _ _ _ _ (upd (upd HD D2 (.dK (inl J))) x (.ins CN dx [("knots", .ref D1), ("inlets", .ref D2)]))
    rw [← eE]
    clear eE hxD h1D hD2 hpD tD
    -- self.outlets
    refine ⟨_, rfl, ol, [("o" : Str), "p"], rfl, SqL.of (tE _ _ hol), by decide, fun ys p3 perm srt hp => ?_⟩
    have eys : ys = [("o" : Str), "p"] := sorted_uniq perm (by decide +kernel) srt
    subst eys
    have nx3 : x ≠ p3 := ne_of_none hxE hp
    have n13 : D1 ≠ p3 := ne_of_none h1E hp
    have n23 : D2 ≠ p3 := ne_of_none h2E hp
    have z3 : H0 p3 = none := same_none tE hp
    refine ⟨p3, _, rfl, .inl ⟨SqL.of upd_same, fun p4 hp4 => ?_⟩⟩
    have tE2 : Same H0 (upd HE p3 (.lst (List.map V.str [("o" : Str), "p"]))) := same_out tE z3
    have hxE2 := (upd_ne nx3 (o := .lst (List.map V.str [("o" : Str), "p"]))).trans hxE
    have h1E2 := (upd_ne n13 (o := .lst (List.map V.str [("o" : Str), "p"]))).trans h1E
    have h2E2 := (upd_ne n23 (o := .lst (List.map V.str [("o" : Str), "p"]))).trans h2E
    generalize upd HE p3 (.lst (List.map V.str [("o" : Str), "p"])) = HF at tE2 hxE2 h1E2 h2E2 hp4 ⊢
    clear hp nx3 n13 n23 z3 hxE h1E h2E tE
    have nx4 : x ≠ p4 := ne_of_none hxE2 hp4
    have n14 : D1 ≠ p4 := ne_of_none h1E2 hp4
    have n24 : D2 ≠ p4 := ne_of_none h2E2 hp4
    have z4 : H0 p4 = none := same_none tE2 hp4
    refine ⟨_, rfl, x, CN, dx, _, rfl, (upd_ne nx4).trans hxE2, T.cN, T.nNo, (by show 2 < 1000; decide), ?_⟩
    obtain ⟨HG, eG⟩ : ∃ HG, HG = upd (upd HF p4 (.tup [.str (tg 4), .str (tg 5)])) x (.ins CN dx [("knots", .ref D1), ("inlets", .ref D2), ("outlets", .ref p4)]) := ⟨_, rfl⟩
    have tG : Same H0 HG := by rw [eG]; exact same_out (same_out tE2 z4) x0
    have hxG : HG x = some (.ins CN dx [("knots", .ref D1), ("inlets", .ref D2), ("outlets", .ref p4)]) := by rw [eG, upd_same]
    have h1G : HG D1 = some (.dK (tkv (List.range N.n) v)) := by rw [eG, upd_ne (Ne.symm nx1), upd_ne n14]; exact h1E2
    have h2G : HG D2 = some (.dK (inl J)) := by rw [eG, upd_ne (Ne.symm nx2), upd_ne n24]; exact h2E2
    have h4G : HG p4 = some (.tup [.str (tg 4), .str (tg 5)]) := by rw [eG, upd_ne (Ne.symm nx4), upd_same]
    show tSeq _ _ _ _ (upd (upd HF p4 (.tup [.str (tg 4), .str (tg 5)])) x (.ins CN dx [("knots", .ref D1), ("inlets", .ref D2), ("outlets", .ref p4)]))
    rw [← eG]
    clear eG hxE2 h1E2 h2E2 hp4 tE2
    -- self.names
    refine ⟨_, rfl, x, CN, dx, _, _, rfl, hxG, T.cN, T.nNk, rfl, D1, _, rfl, .inl h1G, fun p5 hp5 => ?_⟩
    rw [keys_tkv]
    have nx5 : x ≠ p5 := ne_of_none hxG hp5
    have n15 : D1 ≠ p5 := ne_of_none h1G hp5
    have n25 : D2 ≠ p5 := ne_of_none h2G hp5
    have n45 : p4 ≠ p5 := ne_of_none h4G hp5
    have z5 : H0 p5 = none := same_none tG hp5
    refine ⟨_, rfl, x, CN, dx, _, rfl, (upd_ne nx5).trans hxG, T.cN, T.nNn, (by show 3 < 1000; decide), ?_⟩
    have A : NetAt CN (upd (upd HG p5 (.lst (namesV N.n))) x (.ins CN dx (netF D1 D2 p4 p5))) N J ⟨x, dx, D1, D2, p4, p5, v⟩ := by
      have ts : Same H0 (upd (upd HG p5 (.lst (namesV N.n))) x (.ins CN dx (netF D1 D2 p4 p5))) := same_out (same_out tG z5) x0
      refine ⟨upd_same, ⟨?_, fun k hk => (kn.kn k hk).same ts⟩, ?_, ?_, ?_⟩
      · show upd _ _ _ D1 = _
        rw [upd_ne (Ne.symm nx1), upd_ne n15]; exact h1G
      · show upd _ _ _ D2 = _
        rw [upd_ne (Ne.symm nx2), upd_ne n25]; exact h2G
      · show upd _ _ _ p4 = _
        rw [upd_ne (Ne.symm nx4), upd_ne n45]; exact h4G
      · show upd _ _ _ p5 = _
        rw [upd_ne (Ne.symm nx5), upd_same]
    obtain ⟨HI, eI⟩ : ∃ HI, HI = upd (upd HG p5 (.lst (namesV N.n))) x (.ins CN dx (netF D1 D2 p4 p5)) := ⟨_, rfl⟩
    have tI : Same H0 HI := by rw [eI]; exact same_out (same_out tG z5) x0
    show tSeq _ _ _ _ (upd (upd HG p5 (.lst (namesV N.n))) x (.ins CN dx (netF D1 D2 p4 p5)))
    rw [← eI] at A ⊢
    clear eI hxG h1G h2G h4G hp5 tG
    -- met
    refine ⟨_, rfl, x, _, _, rfl, A.ob, rfl, N, J, _, rfl, A, G, hJ, fun dm is HJ sJ hdm h6 hall => ?_⟩
    have AJ := A.same sJ
    refine ⟨_, rfl, x, CN, dx, _, _, rfl, AJ.ob, T.cN, T.nNn, netF_n, p5, rfl, ⟨_, SqL.of AJ.nl⟩, for_it (walk_list (xs := namesV N.n)) (fun i σ H' => ∃ u, σ = [some (.ref x), some (.ref kd), some (.ref id), some (.ref ol), some (.ref W), some (.ref D), u, some (.ref dm)] ∧ Same HJ H') ⟨_, rfl, Same.refl HJ⟩ (fun i σ H' _ p => ?_) ?_ ?_⟩
    · obtain ⟨_, _, s7⟩ := p
      exact SqL.of (s7 _ _ AJ.nl)
    · rintro i z σ H7 H8 hi ⟨u, rfl, s7⟩ ⟨e8, hz⟩
      subst H8
      obtain ⟨hi2, rfl⟩ := names_at hz
      refine ⟨_, rfl, _, rfl, dm, _, rfl, dget_in (s7 _ _ hdm) (hall i hi2) h6, _, rfl, ?_⟩
      refine iteF ?_
      exact ⟨_, rfl, s7⟩
    rintro σ H7 ⟨u, rfl, s7⟩
    exact kq _ H7 rfl (AJ.same s7) fun p o e => s7 _ _ (sJ _ _ (tI _ _ e))
end
end Bal
set_option autoImplicit true
set_option Elab.async false
set_option linter.all false
set_option maxRecDepth 100000
set_option maxHeartbeats 4000000
/-! W20: the law's draw. -/
namespace Bal
open PySem L2
section
variable {P : Program} {w : World} {K : PySem.W.Frag} {mg : Str → Option Value} {base : Heap} {CN CB CS : Addr}
def spDraw (K : PySem.W.Frag) : Sp := fun vs H Q _ => ∃ (s : Addr) (ns : List Int) (p m : Int), vs = [.ref s, .int p, .int m] ∧ SqL K H s (ns.map .int) ∧ ns.length ≤ 1000 ∧ 0 ≤ p ∧ 0 < m ∧ ∀ r H', 0 ≤ r → r < m → Same H H' → Q (.int r) H'
theorem dp_ints {K : PySem.W.Frag} {H : Hp} : ∀ (ns : List Int), DpAll K H (ns.map V.int) (ns.map PyData.int)
  | [] => .nil
  | _ :: r => .cons (.int _) (dp_ints r)
theorem atI_mod {α : Type} {xs : List α} {p : Int} (h : 0 < xs.length) : ∃ x ∈ xs, atI xs (p % (xs.length : Int)) = some x := by
  have h0 : 0 ≤ p % (xs.length : Int) := Int.emod_nonneg _ (by omega)
  have h1 : p % (xs.length : Int) < xs.length := Int.emod_lt_of_pos _ (by omega)
  obtain ⟨j, hj⟩ := Int.eq_ofNat_of_zero_le h0
  rw [hj] at h1 ⊢
  have hl : j < xs.length := by omega
  refine ⟨xs[j], List.getElem_mem hl, ?_⟩
  unfold atI
  rw [ixN_nat hl]
  simp [hl]
theorem sc_l_draw : FnScope ["_law_script", "_law_at", "_law_many", "_law_row", "_law_cell", "_law_turn", "_law_step", "_law_mixed"] ["_law_script", "_law_at", "_law_many"] (defScope s_l_draw) := ⟨rfl, rfl, rfl, by decide +kernel, rfl, by decide +kernel, by decide +kernel⟩
theorem ok_draw {f : Addr} {fd : FuncData} (F : Fun K "_law_draw" "_law_draw" s_l_draw f fd) (T : Txt K mg CN CB CS) : FnOk P w K mg base CX0 1 f fd ["_law_script", "_law_at", "_law_many"] (spDraw K) := by
  refine F.ok sc_l_draw (fun vs H Q E h => ?_) (fun cdv A outer s H vs Q E hr h => ?_)
  · obtain ⟨s, ns, p, m, rfl, _⟩ := h
    rfl
  · obtain ⟨a, ns, p, m, rfl, hs, hl, hp, hm, kq⟩ := h
    have hu := hu_of hr
    refine ⟨_, (pss_cons (ps_set (i := 3) sc_l_draw.nd rfl (by first | exact Or.inl rfl | exact Or.inr rfl) (pe_ifExp (pt_cmpR (op_neD hr.units) (pv 0) (pe_lst pa_nil) (nomark _)) (pe_slice sl_list (pv 0) po_none (po_some pe_int)) (pe_lst (pa_cons pe_int pa_nil))))
  (pss_cons (ps_par (i := 4) (j := 5) rfl sc_l_draw.nd rfl rfl (by decide) rfl rfl (pa_cons (pe_ix ix_list (pv 3) (pe_op op_mod (pv 1) (pe_callB call_len_seq (by rfl) T.len (by decide +kernel) (pa_cons (pv 3) pa_nil))) (fun _ _ => rfl)) (pa_cons (pe_op op_fdiv (pv 1) (pe_callB call_len_seq (by rfl) T.len (by decide +kernel) (pa_cons (pv 3) pa_nil))) pa_nil)) (by rfl))
  (pss_cons (ps_if (pt_cmpR op_ge (pv 4) (pe_op op_pow pe_int pe_int) (nomark _)) (pss_cons (ps_set (i := 4) sc_l_draw.nd rfl (by first | exact Or.inl rfl | exact Or.inr rfl) (pe_op op_mod (pe_callTy call_int1 (by rfl) T.int (by decide +kernel) (pa_cons (pv 4) pa_nil)) (pe_op op_pow pe_int pe_int)))
  (pss_cons (ps_for PassesOwn.never rfl (pi_range1 (by rfl) T.range (pa_cons (pe_op op_mod (pv 5) pe_int) pa_nil)) (pg_name (i := 6) sc_l_draw.nd rfl (by first | exact Or.inl rfl | exact Or.inr rfl))
  (pss_one (ps_set (i := 4) sc_l_draw.nd rfl (by first | exact Or.inl rfl | exact Or.inr rfl) (pe_op op_fdiv (pv 4) pe_int))))
  (pss_one (ps_ret (pe_op op_mod (pe_op op_mod (pe_callTy call_int1 (by rfl) T.int (by decide +kernel) (pa_cons (pv 4) pa_nil)) pe_int) (pv 2)))))) pss_nil)
  (pss_cons (ps_set (i := 7) sc_l_draw.nd rfl (by first | exact Or.inl rfl | exact Or.inr rfl) (pe_op op_add (pe_op op_mul (pe_op op_add (pe_op op_add (pe_op op_mod (pe_callTy call_int1 (by rfl) T.int (by decide +kernel) (pa_cons (pe_op op_add (pv 4) (pe_op op_mul pe_int (pv 5))) pa_nil)) pe_int) (pe_op op_mul pe_int (pv 1))) pe_int) pe_int) (pe_op op_mod (pe_callTy call_int1 (by rfl) T.int (by decide +kernel) (pa_cons (pe_op op_fdiv (pv 4) pe_int) pa_nil)) pe_int)))
  (pss_one (ps_ret (pe_op op_mod (pe_callTy call_int1 (by rfl) T.int (by decide +kernel) (pa_cons (pe_op op_mod (pe_op op_mul (pe_op op_mod (pv 7) pe_int) pe_int) pe_int) pa_nil)) (pv 2)))))))), ?_⟩
    refine ⟨_, rfl, (by show 0 ≤ sizeLine; decide), fun q hq => ?_⟩
    have s1 := same_upd0 (o := .lst []) hq
    refine ⟨.list (ns.map PyData.int), .list [], .lst (Same.seq s1 hs) (dp_ints ns), .lst (SqL.of upd_same) .nil, PySem.W.ke_shaped_ints ns, rfl, _, rfl, ?_⟩
    have sl : Same H (upd H q (.lst [])) := s1
    refine ite2 (fun c => ⟨_, rfl, _, rfl, _, _, rfl, Same.seq s1 hs, fun r hr2 => ?g1⟩) (fun c => ⟨by show 1 ≤ sizeLine; decide, fun r hr2 => ?g2⟩)
    case' g1 =>
      have e : cutV (ns.map V.int) none (some 60) = (ns.take 60).map V.int := by
        show cutV (ns.map V.int) none (some ((60 : Nat) : Int)) = _
        unfold cutV
        rw [HT.sIx_nat, List.map_take]
        show List.take (min 60 (ns.map V.int).length - 0) (List.drop 0 (ns.map V.int)) = _
        rw [List.drop_zero, Nat.sub_zero, ← List.take_take, List.take_length]
      have hk : 0 < (ns.take 60).length := by
        cases ns with
        | nil => cases c
        | cons x l => simp
      have hk2 : (ns.take 60).length ≤ 1000 := by rw [List.length_take]; omega
      obtain ⟨ks, hks⟩ : ∃ ks, ks = ns.take 60 := ⟨_, rfl⟩
      rw [e]
      rw [← hks] at hk hk2 ⊢
    case' g2 =>
      have hk : 0 < [(7 : Int)].length := by decide
      have hk2 : [(7 : Int)].length ≤ 1000 := by decide
      have e : [V.int 7] = [(7 : Int)].map V.int := rfl
      rw [e]
      obtain ⟨ks, hks⟩ : ∃ ks, ks = [(7 : Int)] := ⟨_, rfl⟩
      rw [← hks] at hk hk2 ⊢
    all_goals
      have s2 : Same H (upd (upd H q (.lst [])) r (.lst (ks.map V.int))) := same_upd s1 hr2
      have hrw : (upd (upd H q (.lst [])) r (.lst (ks.map V.int))) r = some (.lst (ks.map V.int)) := upd_same
      generalize upd (upd H q (.lst [])) r (.lst (ks.map V.int)) = H1 at s2 hrw ⊢
      clear s1 sl hr2 hq c e hks
      have hkl : (ks.map V.int).length = ks.length := List.length_map ..
      obtain ⟨x, hx, ex⟩ := atI_mod (xs := ks.map V.int) (p := p) (by omega)
      obtain ⟨cell, _, rfl⟩ := List.mem_map.mp hx
      have hkp : (0 : Int) < ((ks.map V.int).length : Int) := by omega
      have hks : ((ks.map V.int).length : Int) < 1073741824 := by omega
      refine ⟨_, rfl, _, rfl, _, rfl, _, _, rfl, .inl (SqL.of hrw), _, _, rfl, rfl, hkp, _, _, _, _, rfl, rfl, SqL.of hrw, ex, ?_⟩
      refine ⟨_, rfl, _, rfl, _, _, rfl, .inl (SqL.of hrw), _, _, rfl, rfl, ⟨hkp, hks⟩, _, _, rfl, ?_⟩
      refine ⟨_, rfl, _, _, rfl, rfl, ⟨by decide, by decide, by decide⟩, _, _, rfl, rfl, _, rfl, ?_⟩
      refine ite2 (fun c => ?_) (fun c => ?_)
      · refine ⟨_, rfl, .inl ⟨_, rfl, _, _, rfl, rfl, ⟨by decide, by decide, by decide⟩, _, _, rfl, rfl, (by show (0 : Int) < 97 ^ 40; decide), ?_⟩⟩
        refine ⟨_, rfl, _, _, rfl, rfl, (by show (0 : Int) < 40; decide), _, rfl, (by show -(2 ^ 62) ≤ p / ((ks.map V.int).length : Int) % 40; omega), (by show p / ((ks.map V.int).length : Int) % 40 < 2 ^ 62; omega), for_range (fun i σ H' => ∃ (y : Int) (v : Option V), σ = [some (.ref a), some (.int p), some (.int m), some (.ref r), some (.int y), some (.int (p / ((ks.map V.int).length : Int))), v, none] ∧ H' = H1) ⟨_, _, rfl, rfl⟩ ?_ ?_⟩
        · rintro i σ H2 hi ⟨y, v, rfl, rfl⟩
          refine ⟨_, rfl, _, _, rfl, rfl, ⟨by decide, by decide⟩, _, _, rfl, rfl⟩
        · rintro σ H2 ⟨y, v, rfl, rfl⟩
          refine ⟨_, rfl, .inl ⟨_, rfl, _, _, rfl, rfl, (by show (0 : Int) < 97; decide), _, rfl, _, _, rfl, rfl, hm, ?_⟩⟩
          exact kq _ H2 (Int.emod_nonneg _ (by omega)) (Int.emod_lt_of_pos _ hm) s2
      · refine ⟨_, rfl, _, rfl, _, _, rfl, rfl, .inl ⟨by decide, by decide⟩, _, _, rfl, rfl, .inl ⟨_, rfl, _, _, rfl, rfl, (by show (0 : Int) < 1000003; decide), ?_⟩⟩
        refine ⟨_, rfl, _, _, rfl, rfl, .inl ⟨by decide, by decide⟩, _, _, rfl, rfl, _, _, rfl, rfl, _, _, rfl, rfl, .inr ⟨by decide, by decide⟩, ?_⟩
        refine ⟨_, rfl, _, _, rfl, rfl, ⟨by decide, by decide⟩, .inl ⟨_, rfl, _, _, rfl, rfl, (by show (0 : Int) < 999983; decide), _, _, rfl, rfl, ?_⟩⟩
        refine ⟨_, rfl, _, _, rfl, rfl, (by show (0 : Int) < 2147483647; decide), _, _, rfl, rfl, .inr ⟨by decide, by decide⟩, _, _, rfl, rfl, (by show (0 : Int) < 4294967291; decide), .inl ⟨_, rfl, _, rfl, _, _, rfl, rfl, hm, ?_⟩⟩
        exact kq _ H1 (Int.emod_nonneg _ (by omega)) (Int.emod_lt_of_pos _ hm) s2
end
end Bal
set_option autoImplicit true
set_option Elab.async false
set_option linter.all false
set_option maxRecDepth 100000
set_option maxHeartbeats 4000000
/-! WL: list(text). -/
namespace Bal
open PySem PySem.Spec PyProof.Rows L2
def chV (z : Str) : List V := z.cps.toList.map fun c => .str ⟨#[c]⟩
theorem vals_signs {acc : List Value} : ∀ {cs : List Nat}, acc.length = cs.length → (∀ (j : Nat) (v : Value), acc[j]? = some v → ∃ c u, cs[j]? = some c ∧ v = .str ⟨#[c]⟩ u) → Vals (cs.map fun c => V.str ⟨#[c]⟩) acc := by
  intro cs
  induction cs generalizing acc with
  | nil =>
    intro hl _
    cases acc with
    | nil => exact .nil
    | cons _ _ => simp at hl
  | cons c r ih =>
    intro hl h
    cases acc with
    | nil => simp at hl
    | cons v t =>
      obtain ⟨c', u, e1, e2⟩ := h 0 v rfl
      cases e1
      refine .cons ⟨u, e2⟩ (ih (by simpa using hl) fun j v hj => ?_)
      obtain ⟨c', u, e1, e2⟩ := h (j + 1) v (by simpa using hj)
      exact ⟨c', u, by simpa using e1, e2⟩
theorem call_listS {X : Cx} (hcalm : X.calm = true) : CallR X (.type "list") (fun xs H Q => ∃ z : Str, xs = [.str z] ∧ z.cps.size ≤ sizeLine ∧ ∀ p, H p = none → Q (.ref p) (upd H p (.lst (chV z)))) := by
  intro pins s σ H xs us Q I r q
  obtain ⟨z, ex, hz, q⟩ := q
  subst ex
  obtain ⟨u, eu, rx⟩ := vals1 r
  subst eu
  obtain ⟨t, rfl⟩ := rx
  refine call_list_str (I.ok.hd hcalm) z t (fun h' tk acc c' hk hD hacc => ?_) hz
  have hv : Vals (chV z) acc.toList := vals_signs (by rw [Array.length_toList, Array.length_toList]; exact hacc.1) fun j v e => by
    obtain ⟨c, u, e1, e2⟩ := hacc.2 j v (by rw [← Array.getElem?_toList]; exact e)
    exact ⟨c, u, by rw [Array.getElem?_toList]; exact e1, e2⟩
  refine ⟨.ref s.heap.objs.size, upd H s.heap.objs.size (.lst (chV z)), I.laid (t' := tk) hk (Nat.le_refl _)
    (show ObjOk X.prog X.w _ _ _ (.lst (chV z)) from ⟨by unfold chV; rw [List.length_map, Array.length_toList]; exact hz, acc.toList, c', hv, by rw [Array.toArray_toList]; exact hD⟩), rfl, q _ (I.hok.fresh (Nat.le_refl _))⟩
end Bal
set_option autoImplicit true
set_option Elab.async false
set_option linter.all false
set_option maxRecDepth 100000
set_option maxHeartbeats 4000000
/-! W21: the law's knots. -/
namespace Bal
open PySem L2
def spKnots (K : PySem.W.Frag) : Sp := fun vs H Q _ => ∃ (s : Addr) (ns : List Int) (p : Int), vs = [.ref s, .int p, .bl true] ∧ SqL K H s (ns.map .int) ∧ ns.length ≤ 1000 ∧ 0 ≤ p ∧ ∀ N d v H', N.Good → KnotsAt H' N d v → Same H H' → Q (.ref d) H'
/-- a drawn row -/
structure Drawn (n m : Nat) (r : List (List Nat)) : Prop where
  lo : m ≤ r.length
  hi : r.length ≤ m + 2
  ok : ∀ e ∈ r, e.length ≤ 2 ∧ ∀ t ∈ e, t ∈ tgs n
/-- the turn behind what was drawn -/
def lastR (n k : Nat) : List (List Nat) := if k + 1 < n then [[k + 1]] else []
def tgsV (n : Nat) : List V := (tgs n).map fun t => .str (tg t)
theorem tgsV_len (n : Nat) : (tgsV n).length = n + 2 := by unfold tgsV; rw [List.length_map, tgs_len]
theorem atI_tgs {n : Nat} {r : Int} (h0 : 0 ≤ r) (h1 : r < ((tgsV n).length : Int)) : ∃ t ∈ tgs n, atI (tgsV n) r = some (.str (tg t)) := by
  obtain ⟨j, rfl⟩ := Int.eq_ofNat_of_zero_le h0
  have hl : j < (tgsV n).length := by omega
  have hl2 : j < (tgs n).length := by rw [tgs_len]; rw [tgsV_len] at hl; exact hl
  refine ⟨(tgs n)[j], List.getElem_mem hl2, ?_⟩
  unfold atI
  rw [ixN_nat hl]
  unfold tgsV
  simp [hl2]
/-- the name of the first n knots, one text -/
def nmS (n : Nat) : Str := ⟨((List.range n).map code).toArray⟩
theorem nmS_cut : ∀ n : Nat, n < 5 → cutS "abcd" none (some (n : Int)) = nmS n := by
  intro n h
  match n, h with
  | 0, _ => decide +kernel
  | 1, _ => decide +kernel
  | 2, _ => decide +kernel
  | 3, _ => decide +kernel
  | 4, _ => decide +kernel
theorem nmS_size (n : Nat) : (nmS n).cps.size = n := by simp [nmS]
theorem nmS_at {n k : Nat} (h : k < n) (h4 : n ≤ 4) : (nmS n).cps[k]? = some (code k) := by simp [nmS, h]
theorem nmS_ch {n : Nat} (h4 : n ≤ 4) : chV (nmS n) = namesV n := by
  unfold chV nmS namesV
  rw [List.map_map]
  refine List.map_congr_left fun k hk => ?_
  rw [tg_code k (by have := List.mem_range.mp hk; omega)]
  rfl
/-- tuples stay -/
def SameT (H H' : Hp) : Prop := ∀ p xs, H p = some (.tup xs) → H' p = some (.tup xs)
theorem SameT.of {H H' : Hp} (s : Same H H') : SameT H H' := fun p xs e => s _ _ e
theorem SameT.trans {H H' H'' : Hp} (s : SameT H H') (t : SameT H' H'') : SameT H H'' := fun p xs e => t _ _ (s _ _ e)
theorem SameT.upd {H : Hp} {p : Addr} {o u : HO} (h : H p = some u) (hu : ∀ xs, u ≠ .tup xs) : SameT H (upd H p o) := fun q xs e => by
  rw [upd_ne (fun z => by rw [z, h] at e; exact hu xs (Option.some.inj e))]
  exact e
theorem DropAt.sameT {H H' : Hp} (s : SameT H H') {d : List Nat} {x : V} (h : DropAt H d x) : DropAt H' d x := let ⟨a, e, q⟩ := h; ⟨a, e, s _ _ q⟩
theorem RowAt.sameT {H H' : Hp} (s : SameT H H') {r : List (List Nat)} {x : V} (h : RowAt H r x) : RowAt H' r x := let ⟨a, ps, e, q, p⟩ := h; ⟨a, ps, e, s _ _ q, Paired.mapP p fun _ _ z => z.sameT s⟩
theorem KnotAt.sameT {H H' : Hp} (s : SameT H H') {f t : List (List Nat)} {x : V} (h : KnotAt H f t x) : KnotAt H' f t x := let ⟨a, y, z, e, q, p1, p2⟩ := h; ⟨a, y, z, e, s _ _ q, p1.sameT s, p2.sameT s⟩
theorem paired_snoc {α β : Type} {F : α → β → Prop} {l : List α} {r : List β} {x : α} {y : β} (h : Paired F l r) (h2 : F x y) : Paired F (l ++ [x]) (r ++ [y]) := paired_append h (.cons h2 .nil)
theorem cat_row {K : PySem.W.Frag} {H : Hp} {r r' : List (List Nat)} {x y : V} {Q : VK} (h : RowAt H r x) (h' : RowAt H r' y) (hr : r ≠ []) (hl : r.length + r'.length ≤ 100) (q : ∀ z H', Same H H' → RowAt H' (r ++ r') z → Q z H') : rCatT K x y H Q := by
  obtain ⟨a, ps, rfl, ha, hp⟩ := h
  obtain ⟨b, qs, rfl, hb, hq⟩ := h'
  have e1 := hp.length
  have e2 := hq.length
  refine ⟨a, b, ps, qs, rfl, rfl, SqT.of ha, SqT.of hb, fun z => ?_, Nat.le_trans (show _ ≤ 100 by omega) (by decide), fun z => ?_, fun _ p np => ?_⟩
  · subst z
    exact hr (List.length_eq_zero_iff.mp e1.symm)
  · subst z
    have : r' = [] := List.length_eq_zero_iff.mp e2.symm
    subst this
    rw [List.append_nil] at q
    exact q _ H (Same.refl H) ⟨a, ps, rfl, ha, hp⟩
  · have sp := same_upd0 (o := .tup (ps ++ qs)) np
    exact q _ _ sp ⟨p, ps ++ qs, rfl, upd_same, paired_append (Paired.mapP hp fun _ _ z => z.same sp) (Paired.mapP hq fun _ _ z => z.same sp)⟩
theorem atI_many {r : Int} (h0 : 0 ≤ r) (h1 : r < 5) : ∃ m : Nat, m ≤ 2 ∧ atI [V.int 1, .int 1, .int 1, .int 0, .int 2] r = some (.int (m : Int)) := by
  obtain ⟨j, rfl⟩ := Int.eq_ofNat_of_zero_le h0
  match j, h1 with
  | 0, _ => exact ⟨1, by decide, by rfl⟩
  | 1, _ => exact ⟨1, by decide, by rfl⟩
  | 2, _ => exact ⟨1, by decide, by rfl⟩
  | 3, _ => exact ⟨0, by decide, by rfl⟩
  | 4, _ => exact ⟨2, by decide, by rfl⟩
theorem cnt_le (t : Nat) : ∀ (r : List (List Nat)), (∀ e ∈ r, e.length ≤ 2) → (r.map (·.count t)).sum ≤ 2 * r.length
  | [], _ => Nat.le_refl _
  | e :: r, h => by
    have ih := cnt_le t r fun x hx => h x (List.mem_cons_of_mem _ hx)
    have h1 : e.count t ≤ e.length := List.count_le_length
    have h2 := h e (List.mem_cons_self ..)
    simp only [List.map_cons, List.sum_cons, List.length_cons]
    omega
theorem net_of {n : Nat} (n1 : 1 ≤ n) (n4 : n ≤ 4) {H : Hp} {v : Nat → V} (h : ∀ k, k < n → ∃ f t, Drawn n 0 f ∧ Drawn n 1 t ∧ KnotAt H f (t ++ lastR n k ++ [[4]]) (v k)) :
    ∃ N : NetM, N.n = n ∧ N.Good ∧ ∀ k, k < N.n → KnotAt H (N.fr k) (N.tu k) (v k) := by
  have h2 : ∀ k, ∃ p : List (List Nat) × List (List Nat), k < n → Drawn n 0 p.1 ∧ Drawn n 1 p.2 ∧ KnotAt H p.1 (p.2 ++ lastR n k ++ [[4]]) (v k) := fun k => by
    by_cases c : k < n
    · obtain ⟨f, t, h1, h2, h3⟩ := h k c
      exact ⟨(f, t), fun _ => ⟨h1, h2, h3⟩⟩
    · exact ⟨([], []), fun z => absurd z c⟩
  obtain ⟨g, hg⟩ := Classical.axiomOfChoice h2
  have ll : ∀ k, (lastR n k).length ≤ 1 := fun k => by
    unfold lastR
    split <;> simp
  refine ⟨⟨n, fun k => (g k).1, fun k => (g k).2 ++ lastR n k ++ [[4]]⟩, rfl, ⟨n1, n4, fun k hk => ?_, fun k hk => ?_, fun k hk => ?_, fun k hk t => ?_, fun k hk d hd => ?_, fun k hk => ?_⟩, fun k hk => (hg k hk).2.2⟩
  · exact (hg k hk).1.hi
  · show 1 ≤ ((g k).2 ++ lastR n k ++ [[4]]).length
    simp
    omega
  · show ((g k).2 ++ lastR n k ++ [[4]]).length ≤ 5
    have h1 : (g k).2.length ≤ 1 + 2 := (hg k hk).2.1.hi
    have := ll k
    simp
    omega
  · show (((g k).2 ++ lastR n k ++ [[4]]).map (fun d : List Nat => d.count t)).sum ≤ 7
    have h1 : (g k).2.length ≤ 1 + 2 := (hg k hk).2.1.hi
    have h2 := cnt_le t (g k).2 fun e he => ((hg k hk).2.1.ok e he).1
    rw [List.map_append, List.map_append, List.sum_append, List.sum_append]
    have h3 : ((lastR n k).map (fun d : List Nat => d.count t)).sum + (([[4]] : List (List Nat)).map (fun d : List Nat => d.count t)).sum ≤ 1 := by
      unfold lastR
      split
      · rename_i c
        have ne : (k + 1 == t) = true → (4 == t) = false := fun z => by
          have := eq_of_beq z
          rw [beq_eq_false_iff_ne]
          omega
        show ([k + 1].count t + 0) + ([4].count t + 0) ≤ 1
        rw [List.count_singleton, List.count_singleton]
        cases e1 : (k + 1 == t)
        · cases (4 == t) <;> decide
        · rw [ne e1]; decide
      · show 0 + ([4].count t + 0) ≤ 1
        rw [List.count_singleton]
        cases (4 == t) <;> decide
    omega
  · have hd : d ∈ (g k).1 ++ ((g k).2 ++ lastR n k ++ [[4]]) := hd
    have inT : ∀ {t}, t ∈ tgs n → t < n ∨ t = 4 ∨ t = 5 := fun {t} h => by
      rcases List.mem_append.mp h with h | h
      · exact .inl (List.mem_range.mp h)
      · simp at h; exact .inr h
    rcases List.mem_append.mp hd with h | h
    · obtain ⟨h1, h2⟩ := (hg k hk).1.ok d h
      exact ⟨h1, fun t ht => inT (h2 t ht)⟩
    · rcases List.mem_append.mp h with h | h
      · rcases List.mem_append.mp h with h | h
        · obtain ⟨h1, h2⟩ := (hg k hk).2.1.ok d h
          exact ⟨h1, fun t ht => inT (h2 t ht)⟩
        · unfold lastR at h
          split at h
          · rename_i c
            rw [List.mem_singleton.mp h]
            exact ⟨by simp, fun t ht => .inl (by rw [List.mem_singleton.mp ht]; exact c)⟩
          · cases h
      · rw [List.mem_singleton.mp h]
        exact ⟨by simp, fun t ht => .inr (.inl (List.mem_singleton.mp ht))⟩
  · show [k + 1] ∈ (g k).2 ++ lastR n k ++ [[4]]
    have : lastR n k = [[k + 1]] := if_pos hk
    rw [this]
    simp
section
variable {P : Program} {w : World} {K : PySem.W.Frag} {mg : Str → Option Value} {base : Heap} {CN CB CS : Addr}
theorem sc_l_knots : FnScope ["_law_script", "_law_at", "_law_lossy", "_law_names", "_law_knots_here", "_law_targets", "_law_spot", "_law_name", "_law_rows", "_law_part", "_law_row", "_law_first", "_law_turn", "_law_many", "_law_last", "_law_one"] ["_law_script", "_law_at", "_law_lossy"] (defScope s_l_knots) := ⟨rfl, rfl, rfl, by decide +kernel, rfl, by decide +kernel, by decide +kernel⟩
theorem ok_knots {f : Addr} {fd : FuncData} (F : Fun K "_law_knots" "_law_knots" s_l_knots f fd) (T : Txt K mg CN CB CS) (G_l_draw : FnG P w K mg base CX0 1 "_law_draw" (spDraw K) []) : FnOk P w K mg base CX0 2 f fd ["_law_script", "_law_at", "_law_lossy"] (spKnots K) := by
  refine F.ok sc_l_knots (fun vs H Q E h => ?_) (fun cdv A outer s H vs Q E hr h => ?_)
  · obtain ⟨s, ns, p, rfl, _⟩ := h
    rfl
  · obtain ⟨a, ns, p, rfl, hs, hl, hp, kq⟩ := h
    have hu := hu_of hr
    refine ⟨_, (pss_cons (ps_set (i := 3) sc_l_knots.nd rfl (by first | exact Or.inl rfl | exact Or.inr rfl) (pe_slice sl_str pe_str po_none (po_some (pe_op op_add pe_int (pe_f G_l_draw hr (by decide) (by rfl) pass0 (pa_cons (pv 0) (pa_cons (pv 1) (pa_cons pe_int pa_nil))))))))
  (pss_cons (ps_asg (pe_tup (pa_cons pe_dnewK (pa_cons (pe_op op_cat (pe_callTy (call_listS rfl) (by rfl) T.list (by decide +kernel) (pa_cons (pv 3) pa_nil)) (pe_lst (pa_cons pe_str (pa_cons pe_str pa_nil)))) pa_nil))) (pg_tup rfl (pgs_cons (pg_name (i := 4) sc_l_knots.nd rfl (by first | exact Or.inl rfl | exact Or.inr rfl)) (pgs_cons (pg_name (i := 5) sc_l_knots.nd rfl (by first | exact Or.inl rfl | exact Or.inr rfl)) pgs_nil))))
  (pss_cons (ps_for PassesOwn.never rfl (pi_enumS (by rfl) T.enumerate (pa_cons (pv 3) pa_nil)) (pg_tup rfl (pgs_cons (pg_name (i := 6) sc_l_knots.nd rfl (by first | exact Or.inl rfl | exact Or.inr rfl)) (pgs_cons (pg_name (i := 7) sc_l_knots.nd rfl (by first | exact Or.inl rfl | exact Or.inr rfl)) pgs_nil)))
  (pss_cons (ps_set (i := 8) sc_l_knots.nd rfl (by first | exact Or.inl rfl | exact Or.inr rfl) (pe_lst pa_nil))
  (pss_cons (ps_for PassesOwn.never rfl (pi_range1 (by rfl) T.range (pa_cons pe_int pa_nil)) (pg_name (i := 9) sc_l_knots.nd rfl (by first | exact Or.inl rfl | exact Or.inr rfl))
  (pss_cons (ps_asg (pe_tup (pa_cons (pe_lst pa_nil) (pa_cons (pe_op op_add (pe_op op_add (pe_op op_add (pv 1) pe_int) (pe_op op_mul pe_int (pv 6))) (pe_op op_mul pe_int (pv 9))) pa_nil))) (pg_tup rfl (pgs_cons (pg_name (i := 10) sc_l_knots.nd rfl (by first | exact Or.inl rfl | exact Or.inr rfl)) (pgs_cons (pg_name (i := 11) sc_l_knots.nd rfl (by first | exact Or.inl rfl | exact Or.inr rfl)) pgs_nil))))
  (pss_cons (ps_for PassesOwn.never rfl (pi_range1 (by rfl) T.range (pa_cons (pe_ifExp (pt_cmpR op_eq (pv 9) pe_int (nomark _)) (pe_f G_l_draw hr (by decide) (by rfl) pass0 (pa_cons (pv 0) (pa_cons (pv 11) (pa_cons pe_int pa_nil)))) (pe_op op_add pe_int (pe_f G_l_draw hr (by decide) (by rfl) pass0 (pa_cons (pv 0) (pa_cons (pv 11) (pa_cons pe_int pa_nil)))))) pa_nil)) (pg_name (i := 12) sc_l_knots.nd rfl (by first | exact Or.inl rfl | exact Or.inr rfl))
  (pss_cons (ps_set (i := 13) sc_l_knots.nd rfl (by first | exact Or.inl rfl | exact Or.inr rfl) (pe_ix ix_tup (pe_tup (pa_cons pe_int (pa_cons pe_int (pa_cons pe_int (pa_cons pe_int (pa_cons pe_int pa_nil)))))) (pe_f G_l_draw hr (by decide) (by rfl) pass0 (pa_cons (pv 0) (pa_cons (pe_op op_add (pe_op op_add (pv 11) pe_int) (pe_op op_mul pe_int (pv 12))) (pa_cons pe_int pa_nil)))) (fun _ _ => rfl)))
  (pss_one (ps_expr (pe_bm PySem.F.plainAttrs_list PySem.F.slot_list_append PySem.F.type_list_append mt_append (pv 10) (pa_cons (pe_callTy call_tuple_of (by rfl) T.tuple (by decide +kernel) (pa_cons (pe_lc (own := [("_law_one", 15)]) rfl sc_l_knots.nd (pi_range1 (by rfl) T.range (pa_cons (pv 13) pa_nil)) (blkOk_by (by kernel_rfl)) (fun _ _ _ _ _ => (pg_name (i := 15) sc_l_knots.nd rfl (by first | exact Or.inl rfl | exact Or.inr rfl))) (fun _ _ _ _ _ => pts_nil) (fun _ _ _ _ _ => (by exact (pe_ix (ix_listK (K := K) (by rfl)) (pv 5) (by exact (pe_f G_l_draw hr (by decide) (by rfl) pass0 (pa_cons (pv 0) (pa_cons (by exact (pe_op op_add (by exact (pe_op op_add (by exact (pe_op op_add (pv 11) pe_int)) (by exact (pe_op op_mul pe_int (pv 12))))) (pv 15))) (pa_cons (by exact (pe_callB (call_lenK (K := K) (by rfl)) (by rfl) T.len (by decide +kernel) (pa_cons (pv 5) pa_nil))) pa_nil))))) (fun _ _ => rfl))))) pa_nil)) pa_nil))))))
  (pss_one (ps_expr (pe_bm PySem.F.plainAttrs_list PySem.F.slot_list_append PySem.F.type_list_append mt_append (pv 8) (pa_cons (pe_callTy call_tuple_of (by rfl) T.tuple (by decide +kernel) (pa_cons (pv 10) pa_nil)) pa_nil)))))))
  (pss_cons (ps_set (i := 14) sc_l_knots.nd rfl (by first | exact Or.inl rfl | exact Or.inr rfl) (pe_ifExp (pt_cmpR op_lt (pe_op op_add (pv 6) pe_int) (pe_callB call_len_str (by rfl) T.len (by decide +kernel) (pa_cons (pv 3) pa_nil)) (nomark _)) (pe_tup (pa_cons (pe_tup (pa_cons (pe_ix ix_str (pv 3) (pe_op op_add (pv 6) pe_int) (fun _ _ => rfl)) pa_nil)) pa_nil)) (pe_tup pa_nil)))
  (pss_one (ps_dput hu (pv 4) (pv 7) (pe_tup (pa_cons (pe_ix ix_list (pv 8) pe_int (fun _ _ => rfl)) (pa_cons (pe_op op_catT (pe_op op_catT (pe_ix ix_list (pv 8) pe_int (fun _ _ => rfl)) (pv 14)) (pe_ifExp (pt_val (pv 2)) (pe_tup (pa_cons (pe_tup (pa_cons pe_str pa_nil)) pa_nil)) (pe_tup pa_nil))) pa_nil))) rfl))))))
  (pss_one (ps_ret (pv 4)))))), ?_⟩
    refine ⟨_, rfl, _, rfl, a, ns, p, 4, rfl, hs, hl, hp, by decide, fun r H1 r0 r4 s1 => ?_⟩
    obtain ⟨n, hn⟩ : ∃ n : Nat, 1 + r = (n : Int) := ⟨(1 + r).toNat, by omega⟩
    have n1 : 1 ≤ n := by omega
    have n4 : n ≤ 4 := by omega
    refine ⟨_, _, rfl, rfl, _, rfl, _, rfl, by decide, ?_⟩
    rw [hn, nmS_cut n (by omega)]
    refine fun d hd => ⟨_, rfl, _, rfl, by rw [nmS_size]; exact Nat.le_trans n4 (by decide), fun l1 hl1 => ⟨by show 2 ≤ sizeLine; decide, fun l2 hl2 => ?_⟩⟩
    rw [nmS_ch n4] at hl2 ⊢
    have t1 := same_upd s1 (o := .dK []) hd
    have hd1 : (upd H1 d (.dK [])) d = some (.dK []) := upd_same
    generalize upd H1 d (.dK []) = H2 at hl1 hl2 t1 hd1 ⊢
    have n1 : l1 ≠ d := (ne_of_none hd1 hl1).symm
    have hl3 : (upd (upd H2 l1 (.lst (namesV n))) l2 (.lst [.str "o", .str "p"])) l1 = some (.lst (namesV n)) := same_upd0 hl2 _ _ upd_same
    have t2 : Same H (upd (upd H2 l1 (.lst (namesV n))) l2 (.lst [.str "o", .str "p"])) := same_upd (same_upd t1 hl1) hl2
    have hd2 : (upd (upd H2 l1 (.lst (namesV n))) l2 (.lst [.str "o", .str "p"])) d = some (.dK []) := same_upd0 hl2 _ _ (same_upd0 hl1 _ _ hd1)
    refine ⟨l1, l2, _, _, rfl, rfl, hl3, upd_same, ?_, fun L hL => ?_⟩
    · unfold namesV
      rw [List.length_map, List.length_range]
      exact Nat.le_trans (show n + 2 ≤ 6 by omega) (by decide)
    have eL : namesV n ++ [.str "o", .str "p"] = tgsV n := by
      unfold namesV tgsV tgs
      rw [List.map_append]
      rfl
    rw [eL]
    have z0 : H d = none := same_none s1 hd
    have t3 := same_upd t2 (o := .lst (tgsV n)) hL
    have hL3 : (upd (upd (upd H2 l1 (.lst (namesV n))) l2 (.lst [.str "o", .str "p"])) L (.lst (tgsV n))) L = some (.lst (tgsV n)) := upd_same
    have hd3 := same_upd0 (o := .lst (tgsV n)) hL _ _ hd2
    generalize upd (upd (upd H2 l1 (.lst (namesV n))) l2 (.lst [.str "o", .str "p"])) L (.lst (tgsV n)) = H3 at t3 hL3 hd3 ⊢
    clear hL t2 hd2 hl3 hl1 hl2 t1 hd1 s1 hd n1 eL
    refine ⟨by show 2 ≤ sizeLine; decide, fun T9 hT => ⟨T9, _, rfl, SqT.of upd_same, rfl, _, _, rfl, _, _, rfl, rfl, ?_⟩⟩
    have t4 := same_upd t3 (o := .tup [.ref d, .ref L]) hT
    have hL4 := same_upd0 (o := .tup [.ref d, .ref L]) hT _ _ hL3
    have hd4 := same_upd0 (o := .tup [.ref d, .ref L]) hT _ _ hd3
    generalize upd H3 T9 (.tup [.ref d, .ref L]) = H4 at t4 hL4 hd4 ⊢
    clear hL3 hd3 t3 hT
    have nLd : L ≠ d := ne_of hL4 hd4 (by intro z; cases z)
    have kp : ∀ {H' : Hp} {o : HO}, Same H H' → Same H (upd H' d o) := fun s => same_out s z0
    refine ⟨_, rfl, nmS n, rfl, for_it walk_enumG (fun i σ H' => ∃ (v : Nat → V) (v6 v7 v8 v9 v10 v11 v12 v13 v14 : Option V), σ = [some (.ref a), some (.int p), some (.bl true), some (.str (nmS n)), some (.ref d), some (.ref L), v6, v7, v8, v9, v10, v11, v12, v13, v14, none] ∧ Same H H' ∧ H' L = some (.lst (tgsV n)) ∧ H' d = some (.dK (tkv (List.range i) v)) ∧ ∀ k, k < i → ∃ f t, Drawn n 0 f ∧ Drawn n 1 t ∧ KnotAt H' f (t ++ lastR n k ++ [[4]]) (v k))
      ⟨fun _ => .non, _, _, _, _, _, _, _, _, _, rfl, t4, hL4, hd4, fun k hk => absurd hk (Nat.not_lt_zero _)⟩ (fun i σ H' _ p => trivial) ?_ ?_⟩
    · rintro i x σ H5 H6 hi ⟨v, v6, v7, v8, v9, v10, v11, v12, v13, v14, rfl, t5, hL5, hd5, hkn⟩ ⟨T5, x5, rfl, hT5, rfl, c, hc, rfl⟩
      rw [nmS_size] at hi
      rw [nmS_at hi n4] at hc
      obtain rfl := Option.some.inj hc
      rw [← tg_code i (by omega)]
      refine ⟨T5, _, rfl, SqT.of upd_same, rfl, _, _, rfl, _, _, rfl, rfl, ?_⟩
      have sT := same_upd0 (o := .tup [.int (i : Nat), .str (tg i)]) hT5
      have t6 := same_upd t5 (o := .tup [.int (i : Nat), .str (tg i)]) hT5
      have hL6 := sT _ _ hL5
      have hd6 := sT _ _ hd5
      have hkn6 : ∀ k, k < i → ∃ f t, Drawn n 0 f ∧ Drawn n 1 t ∧ KnotAt (upd H5 T5 (.tup [.int (i : Nat), .str (tg i)])) f (t ++ lastR n k ++ [[4]]) (v k) := fun k hk => let ⟨f, t, h1, h2, h3⟩ := hkn k hk; ⟨f, t, h1, h2, h3.same sT⟩
      generalize upd H5 T5 (.tup [.int (i : Nat), .str (tg i)]) = H6 at t6 hL6 hd6 hkn6 ⊢
      clear sT t5 hL5 hd5 hkn hT5 hc
      -- rows
      refine ⟨by show 0 ≤ sizeLine; decide, fun W hW => ?_⟩
      refine ⟨2, rfl, by decide, by decide, for_range (n := 2) (fun j σ H' => ∃ (v9 v10 v11 v12 v13 v14 : Option V) (rs : List (List (List Nat))) (xs : List V), σ = [some (.ref a), some (.int p), some (.bl true), some (.str (nmS n)), some (.ref d), some (.ref L), some (.int (i : Nat)), some (.str (tg i)), some (.ref W), v9, v10, v11, v12, v13, v14, none] ∧
          Same H6 H' ∧ rs.length = j ∧ H' W = some (.lst xs) ∧ Paired (fun x r => RowAt H' r x) xs rs ∧ ∀ m r, rs[m]? = some r → Drawn n m r)
        ⟨_, _, _, _, _, _, [], [], rfl, same_upd0 hW, rfl, upd_same, .nil, fun m r h => nomatch h⟩ ?_ ?_⟩
      · rintro j σ HA hj ⟨u9, u10, u11, u12, u13, u14, rs, xs, rfl, sA, hrs, hWA, hpr, hdr⟩
        refine ⟨by show 0 ≤ sizeLine; decide, fun R hR => ⟨_, rfl, _, _, rfl, rfl, _, rfl, _, _, rfl, rfl, .inl ⟨by decide, by decide⟩, _, _, rfl, rfl, _, rfl, _, _, rfl, rfl, .inl ⟨by decide, by decide⟩, _, _, rfl, rfl, ?_⟩⟩
        refine ⟨by show 2 ≤ sizeLine; decide, fun T7 hT7 => ⟨T7, _, rfl, SqT.of upd_same, rfl, _, _, rfl, _, _, rfl, rfl, ?_⟩⟩
        obtain ⟨q, hq⟩ : ∃ q : Int, q = p + 10 + 40 * (i : Int) + 12 * (0 + (j : Int)) := ⟨_, rfl⟩
        have q0 : 0 ≤ q := by omega
        have sB : Same HA (upd (upd HA R (.lst [])) T7 (.tup [.ref R, .int (p + 10 + 40 * (i : Int) + 12 * (0 + (j : Int)))])) := same_upd (same_upd0 hR) hT7
        have hRB : (upd (upd HA R (.lst [])) T7 (.tup [.ref R, .int (p + 10 + 40 * (i : Int) + 12 * (0 + (j : Int)))])) R = some (.lst []) := same_upd0 hT7 _ _ upd_same
        generalize upd (upd HA R (.lst [])) T7 (.tup [.ref R, .int (p + 10 + 40 * (i : Int) + 12 * (0 + (j : Int)))]) = HB at sB hRB ⊢
        clear hT7
        have tA : Same H HA := fun b o e => sA _ _ (t6 _ _ e)
        have tB : Same H HB := fun b o e => sB _ _ (tA _ _ e)
        have sqB : SqL K HB a (ns.map V.int) := Same.seq tB hs
        have bd : ∀ m : Nat, m ≤ j + 2 → -(2 ^ 62) ≤ (m : Int) ∧ (m : Int) < 2 ^ 62 := fun m h => ⟨by omega, by omega⟩
        refine ⟨_, rfl, rfl, _, rfl, ite2 (fun c => ?g1) (fun c => ?g2)⟩
        case' g1 =>
          have cj : j = 0 := by
            have := of_decide_eq_true c
            injection this with this
            omega
          refine ⟨_, rfl, _, rfl, a, ns, _, 3, rfl, sqB, hl, (by show 0 ≤ p + 10 + 40 * (i : Int) + 12 * (0 + (j : Int)); omega), by decide, fun r7 HC r0 r3 sC => ?_⟩
          obtain ⟨m, rfl⟩ := Int.eq_ofNat_of_zero_le r0
          have mlo : j ≤ m := by omega
          have mhi : m ≤ j + 2 := by omega
          refine ⟨(m : Int), rfl, (bd m mhi).1, (bd m mhi).2, ?_⟩
        case' g2 =>
          have cj : j = 1 := by
            have : j ≠ 0 := fun z => c (by rw [z]; rfl)
            omega
          refine ⟨_, rfl, _, rfl, a, ns, _, 3, rfl, sqB, hl, (by show 0 ≤ p + 10 + 40 * (i : Int) + 12 * (0 + (j : Int)); omega), by decide, fun r7 HC r0 r3 sC => ⟨_, _, rfl, rfl, ?_⟩⟩
          obtain ⟨m, hm⟩ : ∃ m : Nat, 1 + r7 = (m : Int) := ⟨(1 + r7).toNat, by omega⟩
          have mlo : j ≤ m := by omega
          have mhi : m ≤ j + 2 := by omega
          refine ⟨1 + r7, rfl, by omega, by omega, ?_⟩
          rw [hm]
          clear hm r0 r3
        all_goals
          have tC : Same HA HC := fun b o e => sC _ _ (sB _ _ e)
          have hRC := sC _ _ hRB
          clear sC sB hRB c tB sqB
          refine for_range (lo := 0) (n := m) (fun t σ H' => ∃ (v12 v13 : Option V) (ds : List (List Nat)) (ps : List V), σ = [some (.ref a), some (.int p), some (.bl true), some (.str (nmS n)), some (.ref d), some (.ref L), some (.int (i : Nat)), some (.str (tg i)), some (.ref W), some (.int (0 + (j : Int))), some (.ref R), some (.int (p + 10 + 40 * (i : Int) + 12 * (0 + (j : Int)))), v12, v13, u14, none] ∧
              Same HA H' ∧ ds.length = t ∧ H' R = some (.lst ps) ∧ Paired (fun x e => DropAt H' e x) ps ds ∧ ∀ e ∈ ds, e.length ≤ 2 ∧ ∀ t ∈ e, t ∈ tgs n)
            ⟨_, _, [], [], rfl, tC, rfl, hRC, .nil, fun e h => nomatch h⟩ ?_ ?_
          · rintro t σ HD ht ⟨w12, w13, ds, ps, rfl, sD, hds, hRD, hpd, hok⟩
            refine ⟨by show 5 ≤ sizeLine; decide, fun T2 hT2 => ?_⟩
            have tD : Same H HD := fun b o e => sD _ _ (tA _ _ e)
            have sE := same_upd0 (o := .tup [.int 1, .int 1, .int 1, .int 0, .int 2]) hT2
            have hTE : (upd HD T2 (.tup [.int 1, .int 1, .int 1, .int 0, .int 2])) T2 = some (.tup [.int 1, .int 1, .int 1, .int 0, .int 2]) := upd_same
            generalize upd HD T2 (.tup [.int 1, .int 1, .int 1, .int 0, .int 2]) = HE at sE hTE ⊢
            clear hT2
            refine ⟨_, rfl, _, rfl, _, _, rfl, rfl, _, rfl, _, _, rfl, rfl, .inl ⟨by decide, by decide⟩, _, _, rfl, rfl, a, ns, _, 5, rfl, Same.seq (fun b o e => sE _ _ (tD _ _ e)) hs, hl, (by show 0 ≤ p + 10 + 40 * (i : Int) + 12 * (0 + (j : Int)) + 4 + 5 * (0 + (t : Int)); omega), by decide, fun r8 HF r0 r5 sF => ?_⟩
            obtain ⟨mm, mm2, emm⟩ := atI_many r0 r5
            refine ⟨T2, _, _, _, rfl, rfl, SqT.of (sF _ _ hTE), emm, ?_⟩
            have sG : Same HD HF := fun b o e => sF _ _ (sE _ _ e)
            have hRF := sG _ _ hRD
            have sAF : Same HA HF := fun b o e => sG _ _ (sD _ _ e)
            have tF : Same H HF := fun b o e => sAF _ _ (tA _ _ e)
            have hLF := sAF _ _ (sA _ _ hL6)
            clear sF hTE sE emm r0 r5
            refine ⟨_, rfl, .inl ⟨rfl, _, SqL.of hRF⟩, _, rfl, (mm : Int), rfl, by omega, by omega, fun D hD => lc_range (lo := 0) (n := mm) (fun u H' => ∃ dr : List Nat, dr.length = u ∧ (∀ t ∈ dr, t ∈ tgs n) ∧ Same HF H' ∧ H' D = some (.lst (dr.map fun t => .str (tg t)))) ⟨[], rfl, (fun _ h => nomatch h), same_upd0 hD, upd_same⟩ ?_ ?_⟩
            · rintro u HG hu2 ⟨dr, hdl, hdt, sG2, hDG⟩
              refine ⟨rfl, ?_⟩
              refine ⟨_, rfl, _, rfl, _, rfl, _, _, rfl, rfl, _, rfl, _, _, rfl, rfl, .inl ⟨by decide, by decide⟩, _, _, rfl, rfl, _, rfl, _, _, rfl, rfl, _, rfl, _, _, rfl, .inl (SqL.of (sG2 _ _ hLF)), ?_⟩
              refine ⟨a, ns, _, _, rfl, Same.seq (fun b o e => sG2 _ _ (tF _ _ e)) hs, hl, (by show 0 ≤ p + 10 + 40 * (i : Int) + 12 * (0 + (j : Int)) + 5 + 5 * (0 + (t : Int)) + (0 + (u : Int)); omega), (by rw [tgsV_len]; omega), fun r9 HI r0 r5 sI => ?_⟩
              obtain ⟨tt, htt, ett⟩ := atI_tgs r0 r5
              refine ⟨L, _, _, _, rfl, rfl, SqL.of (sI _ _ (sG2 _ _ hLF)), ett, _, sI _ _ hDG, ?_, dr ++ [tt], ?_, ?_, ?_, ?_⟩
              · rw [List.length_map]
                exact Nat.lt_of_le_of_lt (show _ ≤ 2 by omega) (by decide)
              · rw [List.length_append, hdl]
                rfl
              · intro y hy
                rcases List.mem_append.mp hy with h | h
                · exact hdt y h
                · rw [List.mem_singleton.mp h]; exact htt
              · exact same_out (fun b o e => sI _ _ (sG2 _ _ e)) hD
              · rw [upd_same, List.map_append]
                rfl
            · rintro HG ⟨dr, hdl, hdt, sG2, hDG⟩
              refine ⟨D, _, rfl, .inl ⟨SqL.of hDG, fun T3 hT3 => ?_⟩⟩
              have sI := same_upd0 (o := .tup (dr.map fun t => .str (tg t))) hT3
              have hTI : (upd HG T3 (.tup (dr.map fun t => .str (tg t)))) T3 = some (.tup (dr.map fun t => .str (tg t))) := upd_same
              generalize upd HG T3 (.tup (dr.map fun t => .str (tg t))) = HI at sI hTI ⊢
              have sFI : Same HF HI := fun b o e => sI _ _ (sG2 _ _ e)
              have hRI := sFI _ _ hRF
              have hpl := hpd.length
              refine ⟨R, _, _, rfl, rfl, hRI, Nat.lt_of_le_of_lt (show _ ≤ 10 by omega) (by decide), ?_⟩
              have sT : SameT HI (upd HI R (.lst (ps ++ [.ref T3]))) := SameT.upd hRI (by intro _ z; cases z)
              have sDI : SameT HD HI := SameT.of fun b o e => sFI _ _ (sG _ _ e)
              refine ⟨_, _, ds ++ [dr], ps ++ [.ref T3], rfl, same_out (fun b o e => sFI _ _ (sAF _ _ e)) hR, by rw [List.length_append, hds]; rfl, upd_same, paired_snoc (Paired.mapP hpd fun _ _ z => z.sameT (sDI.trans sT)) ⟨T3, rfl, sT _ _ hTI⟩, ?_⟩
              intro e he
              rcases List.mem_append.mp he with h | h
              · exact hok e h
              · rw [List.mem_singleton.mp h]
                exact ⟨by omega, hdt⟩
          · rintro σ HD ⟨w12, w13, ds, ps, rfl, sD, hds, hRD, hpd, hok⟩
            have hWD := sD _ _ hWA
            refine ⟨_, rfl, .inl ⟨rfl, _, SqL.of hWD⟩, _, rfl, R, _, rfl, .inl ⟨SqL.of hRD, fun T4 hT4 => ?_⟩⟩
            have sI := same_upd0 (o := .tup ps) hT4
            have hTI : (upd HD T4 (.tup ps)) T4 = some (.tup ps) := upd_same
            generalize upd HD T4 (.tup ps) = HI at sI hTI ⊢
            have hWI := sI _ _ hWD
            have hxl := hpr.length
            refine ⟨W, _, _, rfl, rfl, hWI, Nat.lt_of_le_of_lt (show _ ≤ 10 by omega) (by decide), ?_⟩
            have sT : SameT HI (upd HI W (.lst (xs ++ [.ref T4]))) := SameT.upd hWI (by intro _ z; cases z)
            have sAI : Same HA HI := fun b o e => sI _ _ (sD _ _ e)
            refine ⟨_, _, _, _, _, _, rs ++ [ds], xs ++ [.ref T4], rfl, same_out (fun b o e => sAI _ _ (sA _ _ e)) hW, by rw [List.length_append, hrs]; rfl, upd_same, paired_snoc (Paired.mapP hpr fun _ _ z => z.sameT ((SameT.of sAI).trans sT)) ⟨T4, ps, rfl, sT _ _ hTI, Paired.mapP hpd fun _ _ z => z.sameT ((SameT.of sI).trans sT)⟩, ?_⟩
            intro k r hk
            rcases Nat.lt_or_ge k rs.length with h | h
            · rw [List.getElem?_append_left h] at hk
              exact hdr k r hk
            · rw [List.getElem?_append_right h] at hk
              have : k - rs.length = 0 := by
                have := (List.getElem?_eq_some_iff.mp hk).1
                simp at this
                omega
              rw [this] at hk
              obtain rfl := Option.some.inj hk
              have ek : k = j := by omega
              exact ⟨by omega, by omega, hok⟩
      · rintro σ HA ⟨u9, u10, u11, u12, u13, u14, rs, xs, rfl, sA, hrs, hWA, hpr, hdr⟩
        obtain ⟨rf, rt, rfl⟩ : ∃ rf rt, rs = [rf, rt] := by
          match rs, hrs with
          | [x, y], _ => exact ⟨x, y, rfl⟩
        obtain ⟨xf, xt, rfl⟩ : ∃ xf xt, xs = [xf, xt] := by
          match xs, hpr.length with
          | [x, y], _ => exact ⟨x, y, rfl⟩
        have hf : Drawn n 0 rf := hdr 0 rf rfl
        have ht : Drawn n 1 rt := hdr 1 rt rfl
        obtain ⟨pf, pt⟩ : RowAt HA rf xf ∧ RowAt HA rt xt := by
          cases hpr with
          | cons h1 h2 =>
            cases h2 with
            | cons h2 _ => exact ⟨h1, h2⟩
        have hnl : ((nmS n).length : Int) = (n : Int) := by
          show ((nmS n).cps.size : Int) = _
          rw [nmS_size]
        have htl : 1 ≤ rt.length := ht.lo
        have htl2 : rt.length ≤ 3 := ht.hi
        -- the last drop
        refine ⟨_, rfl, _, _, rfl, rfl, _, rfl, _, rfl, (by show (nmS n).cps.size ≤ sizeLine; rw [nmS_size]; exact Nat.le_trans n4 (by decide)), _, _, rfl, rfl, _, rfl, ite2 (fun c => ?k1) (fun c => ?k2)⟩
        case' k1 =>
          have c2 : i + 1 < n := by
            have := of_decide_eq_true c
            omega
          have eat : atI (nmS n).cps.toList ((i : Int) + 1) = some (code (i + 1)) := by
            unfold atI
            rw [show ((i : Int) + 1) = ((i + 1 : Nat) : Int) by omega, ixN_nat (by rw [Array.length_toList, nmS_size]; exact c2)]
            show (nmS n).cps.toList[i + 1]? = _
            rw [Array.getElem?_toList]
            exact nmS_at c2 n4
          refine ⟨_, rfl, _, rfl, _, _, rfl, rfl, nmS n, _, _, rfl, rfl, (by show (nmS n).cps.size ≤ sizeLine; rw [nmS_size]; exact Nat.le_trans n4 (by decide)), eat, by show 1 ≤ sizeLine; decide, fun TA hTA => ⟨by show 1 ≤ sizeLine; decide, fun TB hTB => ?_⟩⟩
          rw [← tg_code (i + 1) (by omega)] at hTB ⊢
          have sA1 := same_upd0 (o := .tup [.str (tg (i + 1))]) hTA
          have sA2 := same_upd0 (o := .tup [.ref TA]) hTB
          have rl : RowAt (upd (upd HA TA (.tup [.str (tg (i + 1))])) TB (.tup [.ref TA])) (lastR n i) (.ref TB) := by
            unfold lastR
            rw [if_pos c2]
            exact ⟨TB, _, rfl, upd_same, .cons ⟨TA, rfl, sA2 _ _ upd_same⟩ .nil⟩
          have sB : Same HA (upd (upd HA TA (.tup [.str (tg (i + 1))])) TB (.tup [.ref TA])) := fun b o e => sA2 _ _ (sA1 _ _ e)
          generalize upd (upd HA TA (.tup [.str (tg (i + 1))])) TB (.tup [.ref TA]) = HB at sB rl ⊢
          clear sA1 sA2 hTA hTB
        case' k2 =>
          have c2 : ¬ i + 1 < n := fun z => c (decide_eq_true (by omega))
          refine ⟨by show 0 ≤ sizeLine; decide, fun TB hTB => ?_⟩
          have sB : Same HA (upd HA TB (.tup [])) := same_upd0 hTB
          have rl : RowAt (upd HA TB (.tup [])) (lastR n i) (.ref TB) := by
            unfold lastR
            rw [if_neg c2]
            exact ⟨TB, _, rfl, upd_same, .nil⟩
          generalize upd HA TB (.tup []) = HB at sB rl ⊢
          clear hTB
        all_goals
          have hWB := sB _ _ hWA
          have ll : (lastR n i).length ≤ 1 := by
            unfold lastR
            split <;> simp
          refine ⟨_, rfl, W, _, 0, _, rfl, rfl, SqL.of hWB, rfl, _, rfl, W, _, 1, _, rfl, rfl, SqL.of hWB, rfl, _, rfl, ?_⟩
          refine cat_row (pt.same sB) rl (by intro z; rw [z] at htl; simp at htl) (by omega) fun z HC sC rz => ?_
          refine ⟨_, rfl, _, rfl, iteT ⟨by show 1 ≤ sizeLine; decide, fun TC hTC => ⟨by show 1 ≤ sizeLine; decide, fun TD hTD => ?_⟩⟩⟩
          have sC1 := same_upd0 (o := .tup [.str "o"]) hTC
          have sC2 := same_upd0 (o := .tup [.ref TC]) hTD
          have ro : RowAt (upd (upd HC TC (.tup [.str "o"])) TD (.tup [.ref TC])) [[4]] (.ref TD) := ⟨TD, _, rfl, upd_same, .cons ⟨TC, rfl, sC2 _ _ upd_same⟩ .nil⟩
          have sD : Same HC (upd (upd HC TC (.tup [.str "o"])) TD (.tup [.ref TC])) := fun b o e => sC2 _ _ (sC1 _ _ e)
          generalize upd (upd HC TC (.tup [.str "o"])) TD (.tup [.ref TC]) = HD at sD ro ⊢
          clear sC1 sC2 hTC hTD
          refine cat_row (rz.same sD) ro (by intro z; have := congrArg List.length z; simp at this; rw [this.1] at htl; simp at htl) (by rw [List.length_append]; show _ + 1 ≤ 100; omega) fun y HE sE ry => ?_
          have sAE : Same HA HE := fun b o e => sE _ _ (sD _ _ (sC _ _ (sB _ _ e)))
          refine ⟨by show 2 ≤ sizeLine; decide, fun TK hTK => ?_⟩
          have sK := same_upd0 (o := .tup [xf, y]) hTK
          have hTK2 : (upd HE TK (.tup [xf, y])) TK = some (.tup [xf, y]) := upd_same
          generalize upd HE TK (.tup [xf, y]) = HF at sK hTK2 ⊢
          clear hTK
          have sAF : Same HA HF := fun b o e => sK _ _ (sAE _ _ e)
          have s6F : Same H6 HF := fun b o e => sAF _ _ (sA _ _ e)
          have hdF := s6F _ _ hd6
          refine ⟨_, rfl, _, rfl, d, _, rfl, dput_tkv hdF (by omega) (rng_lt (by omega)) (by rw [List.length_range]; omega), ?_⟩
          have en : ¬ i ∈ List.range i := fun z => Nat.lt_irrefl _ (List.mem_range.mp z)
          have ea : addI (List.range i) i = List.range (i + 1) := by
            unfold addI
            rw [if_neg en, ← List.range_succ]
          rw [ea]
          have sT : SameT HF (upd HF d (.dK (tkv (List.range (i + 1)) (setF v i (.ref TK))))) := SameT.upd hdF (by intro _ z; cases z)
          refine ⟨setF v i (.ref TK), _, _, _, _, _, _, _, _, _, rfl, kp fun b o e => s6F _ _ (t6 _ _ e), (upd_ne nLd).trans (s6F _ _ hL6), upd_same, fun k hk => ?_⟩
          rcases Nat.lt_or_ge k i with h | h
          · obtain ⟨f', t', h1, h2, h3⟩ := hkn6 k h
            rw [setF_ne (show k ≠ i by omega)]
            exact ⟨f', t', h1, h2, h3.sameT ((SameT.of s6F).trans sT)⟩
          · have ek : k = i := by omega
            subst ek
            rw [setF_same]
            exact ⟨rf, rt, hf, ht, TK, xf, y, rfl, sT _ _ hTK2, (pf.same sAF).sameT sT, (ry.same sK).sameT sT⟩
    · rintro σ H5 ⟨v, v6, v7, v8, v9, v10, v11, v12, v13, v14, rfl, t5, hL5, hd5, hkn⟩
      rw [nmS_size] at hd5 hkn
      obtain ⟨N, hN, G, kn⟩ := net_of n1 n4 hkn
      refine ⟨_, rfl, kq N d v H5 G ⟨by rw [hN]; exact hd5, kn⟩ t5⟩
end
end Bal
set_option autoImplicit true
set_option Elab.async false
set_option linter.all false
set_option maxRecDepth 100000
set_option maxHeartbeats 4000000
/-! W22: the law's inlets, falls. -/
namespace Bal
open PySem L2
section
variable {P : Program} {w : World} {K : PySem.W.Frag} {mg : Str → Option Value} {base : Heap} {CN CB CS : Addr}
def spInlets (K : PySem.W.Frag) : Sp := fun vs H Q _ => ∃ (s : Addr) (ns : List Int) (p : Int) (d : Addr) (N : NetM) (v : Nat → V), vs = [.ref s, .int p, .ref d] ∧ SqL K H s (ns.map .int) ∧ ns.length ≤ 1000 ∧ 0 ≤ p ∧ KnotsAt H N d v ∧ N.Good ∧
  ∀ J i H', J < N.n → H' i = some (.dK (inl J)) → Same H H' → Q (.ref i) H'
theorem sc_l_inlets : FnScope ["_law_script", "_law_at", "_law_knots_here"] ["_law_script", "_law_at", "_law_knots_here"] (defScope s_l_inlets) := ⟨rfl, rfl, rfl, by decide +kernel, rfl, by decide +kernel, by decide +kernel⟩
theorem ok_inlets {f : Addr} {fd : FuncData} (F : Fun K "_law_inlets" "_law_inlets" s_l_inlets f fd) (T : Txt K mg CN CB CS) (G_l_draw : FnG P w K mg base CX0 1 "_law_draw" (spDraw K) []) : FnOk P w K mg base CX0 2 f fd ["_law_script", "_law_at", "_law_knots_here"] (spInlets K) := by
  refine F.ok sc_l_inlets (fun vs H Q E h => ?_) (fun cdv A outer s H vs Q E hr h => ?_)
  · obtain ⟨s, ns, p, d, N, v, rfl, _⟩ := h
    rfl
  · obtain ⟨a, ns, p, d, N, v, rfl, hs, hl, hp, kn, G, kq⟩ := h
    have hu := hu_of hr
    have n4 := G.n4
    have n1 := G.n1
    refine ⟨_, (pss_one (ps_ret (pe_disp (pps_cons pe_str pe_str (pps_cons pe_str (pe_ix ix_list (pe_callB cr_sortedS (by rfl) T.sorted (by decide +kernel) (pa_cons (pe_callTy (call_listD rfl) (by rfl) T.list (by decide +kernel) (pa_cons (pv 2) pa_nil)) pa_nil)) (pe_f G_l_draw hr (by decide) (by rfl) pass0 (pa_cons (pv 0) (pa_cons (pv 1) (pa_cons (pe_callB call_lenD (by rfl) T.len (by decide +kernel) (pa_cons (pv 2) pa_nil)) pa_nil)))) (fun _ _ => rfl)) pps_nil)) (by rfl) (by rfl) (fun z => by cases z) (by decide)))), ?_⟩
    intro D hD
    have s1 : Same H (upd H D (.dK [])) := same_upd0 hD
    have hD1 : (upd H D (.dK [])) D = some (.dK []) := upd_same
    generalize upd H D (.dK []) = H1 at s1 hD1 ⊢
    refine ⟨_, rfl, d, _, rfl, .inl (s1 _ _ kn.dc), fun l hl2 => ?_⟩
    rw [keys_tkv]
    refine ⟨l, (List.range N.n).map tg, rfl, SqL.of (by rw [upd_same, List.map_map]; rfl), by rw [List.length_map, List.length_range]; omega, fun ys q perm srt hq => ?_⟩
    have eys : ys = (List.range N.n).map tg := sorted_uniq perm (sorted_rng _ (by omega)) srt
    subst eys
    have eV : (((List.range N.n).map tg).map V.str) = namesV N.n := by
      rw [List.map_map]
      rfl
    rw [eV]
    have s2 := same_upd (same_upd0 (o := .lst ((List.range N.n).map fun k => .str (tg k))) hl2) (o := .lst (namesV N.n)) hq
    have hq2 : (upd (upd H1 l (.lst ((List.range N.n).map fun k => .str (tg k)))) q (.lst (namesV N.n))) q = some (.lst (namesV N.n)) := upd_same
    generalize upd (upd H1 l (.lst ((List.range N.n).map fun k => .str (tg k)))) q (.lst (namesV N.n)) = H2 at s2 hq2 ⊢
    have t2 : Same H H2 := fun b o e => s2 _ _ (s1 _ _ e)
    refine ⟨_, rfl, _, rfl, _, rfl, d, _, rfl, t2 _ _ kn.dc, a, ns, p, _, rfl, Same.seq t2 hs, hl, hp, (by rw [tkv_len, List.length_range]; omega), fun r H3 r0 r1 s3 => ?_⟩
    rw [tkv_len, List.length_range] at r1
    obtain ⟨J, rfl⟩ := Int.eq_ofNat_of_zero_le r0
    have hJ : J < N.n := by omega
    refine ⟨q, _, _, .str (tg J), rfl, rfl, SqL.of (s3 _ _ hq2), ?_, ?_⟩
    · unfold atI
      rw [names_len, ixN_nat hJ]
      unfold namesV
      simp [hJ]
    · have hD3 := s3 _ _ (s2 _ _ hD1)
      refine ⟨hD3, inl J, rfl, by show 2 ≤ 15; decide, ?_⟩
      refine kq J D _ hJ ?_ (same_out (fun b o e => s3 _ _ (t2 _ _ e)) hD)
      rw [upd_same]
      rfl
def spFalls : Sp := fun vs H Q _ => ∃ N dd v k, vs = [.ref dd, .str (tg k)] ∧ KnotsAt H N dd v ∧ N.n ≤ 4 ∧ k < N.n ∧ (∀ d ∈ N.tu k, ∀ t ∈ d, t < 6) ∧
  ∀ d is H', H d = none → Same H H' → IntI is (sumI (N.tu k)) → H' d = some (.dK (ikv is (sumI (N.tu k)))) → Q (.ref d) H'
theorem sc_l_falls : FnScope ["_law_knots_here", "_law_name", "_law_found", "_law_drop", "_law_target"] ["_law_knots_here", "_law_name"] (defScope s_l_falls) := ⟨rfl, rfl, rfl, by decide +kernel, rfl, by decide +kernel, by decide +kernel⟩
theorem ok_falls {f : Addr} {fd : FuncData} (F : Fun K "_law_falls" "_law_falls" s_l_falls f fd) (T : Txt K mg CN CB CS) : FnOk P w K mg base CX0 1 f fd ["_law_knots_here", "_law_name"] spFalls := by
  refine F.ok sc_l_falls (fun vs H Q E h => ?_) (fun cdv A outer s H vs Q E hr h => ?_)
  · obtain ⟨N, dd, v, k, rfl, _⟩ := h
    rfl
  · obtain ⟨N, dd, v, k, rfl, A1, hn, hk, ht, kq⟩ := h
    have hu := hu_of hr
    refine ⟨_, (pss_cons (ps_set (i := 2) sc_l_falls.nd rfl (by first | exact Or.inl rfl | exact Or.inr rfl) pe_dnewK)
  (pss_cons (ps_for PassesOwn.never rfl (pi_tup (pe_ix ix_tup (pe_dget hu (pv 0) (pv 1) (fun _ _ => rfl)) pe_int (fun _ _ => rfl))) (pg_name (i := 3) sc_l_falls.nd rfl (by first | exact Or.inl rfl | exact Or.inr rfl))
  (pss_one (ps_for PassesOwn.never rfl (pi_tup (pv 3)) (pg_name (i := 4) sc_l_falls.nd rfl (by first | exact Or.inl rfl | exact Or.inr rfl))
  (pss_one (ps_dput hu (pv 2) (pv 4) (pe_op op_add (pe_dget2 hu (pv 2) (pv 4) pe_int ⟨rfl, rfl, rfl, rfl⟩) pe_int) rfl)))))
  (pss_one (ps_ret (pv 2))))), ?_⟩
    intro d hd
    have s1 : Same H (upd H d (.dK [])) := same_upd0 hd
    have A2 := A1.same s1
    obtain ⟨b, y, z, e, q, r2, ⟨c, ps, e2, q2, p2⟩⟩ := A2.kn k hk
    have ncd : c ≠ d := by
      rintro rfl
      rw [upd_same] at q2
      cases q2
    refine ⟨_, rfl, _, rfl, dd, _, rfl, dget_in A2.dc (List.mem_range.mpr hk) (rng_lt hn), ?_⟩
    rw [e]
    refine ⟨_, _, _, _, rfl, rfl, SqT.of q, rfl, ?_⟩
    refine ⟨c, e2, ⟨_, SqT.of q2⟩, for_it (walk_tup (xs := ps)) (fun i σ H' => ∃ (is : List Nat) (v1 v2 : Option V), σ = [some (.ref dd), some (.str (tg k)), some (.ref d), v1, v2] ∧ IntI is (sumI ((N.tu k).take i)) ∧ H' = upd H d (.dK (ikv is (sumI ((N.tu k).take i)))))
      ⟨[], none, none, rfl, ?_, ?_⟩ (fun i σ H' _ p => ?_) ?_ ?_⟩
    · rw [List.take_zero, sumI_nil]
      exact .nil
    · rfl
    · obtain ⟨_, _, _, _, _, rfl⟩ := p
      rw [upd_ne ncd] at q2
      exact SqT.of (by rw [upd_ne ncd]; exact q2)
    · rintro i x σ H1 _ hi ⟨is, v1, v2, rfl, hI, rfl⟩ ⟨rfl, hx⟩
      obtain ⟨dr, hdr, b2, rfl, hb2⟩ := paired_at p2 hx
      have nb : b2 ≠ d := by
        rintro rfl
        rw [upd_same] at hb2
        cases hb2
      rw [upd_ne nb] at hb2
      refine loop_count (d := d) (a := b2) (dr := dr) (is := is) (g := sumI ((N.tu k).take i)) rfl rfl (by decide) (by show 4 < 5; decide) (by rw [upd_ne nb]; exact hb2) upd_same hI (ht dr (List.mem_of_getElem? hdr)) fun is' σ' hσ hI' => ?_
      rw [sumI_snoc, ← take_at hdr] at hI' ⊢
      rw [upd_upd]
      rcases hσ with rfl | ⟨v, rfl⟩
      · exact ⟨is', _, _, rfl, hI', rfl⟩
      · exact ⟨is', _, _, rfl, hI', rfl⟩
    · rintro σ H1 ⟨is, v1, v2, rfl, hI, rfl⟩
      rw [p2.length, List.take_length] at hI ⊢
      exact ⟨_, rfl, kq d is _ hd (same_upd0 hd) hI upd_same⟩
end
end Bal
set_option autoImplicit true
set_option Elab.async false
set_option linter.all false
set_option maxRecDepth 100000
set_option maxHeartbeats 4000000
/-! W23: the law's determinant. -/
namespace Bal
open PySem L2
/-- a list of lists of ints -/
def MatAt (H : Hp) (t : Addr) (tab : List (List Int)) : Prop := ∃ ps : List Addr, H t = some (.lst (ps.map V.ref)) ∧ Paired (fun p row => H p = some (.lst (row.map V.int))) ps tab
theorem MatAt.same {H H' : Hp} (s : Same H H') {t : Addr} {tab : List (List Int)} (h : MatAt H t tab) : MatAt H' t tab := let ⟨ps, e, p⟩ := h; ⟨ps, s _ _ e, Paired.mapP p fun _ _ z => s _ _ z⟩
/-- a square one, of small numbers -/
def SmallM (k : Nat) (tab : List (List Int)) : Prop := tab.length = k ∧ ∀ row ∈ tab, row.length = k ∧ ∀ x ∈ row, -100 ≤ x ∧ x ≤ 100
theorem small_less {m i : Nat} {tab : List (List Int)} (h : SmallM (m + 1) tab) (hi : i < m + 1) : SmallM m (less i tab) := by
  refine ⟨?_, fun row hr => ?_⟩
  · unfold less
    rw [List.length_map, List.length_eraseIdx, if_pos (by rw [h.1]; exact hi), h.1]
    rfl
  · unfold less at hr
    obtain ⟨r, hr2, rfl⟩ := List.mem_map.mp hr
    obtain ⟨h1, h2⟩ := h.2 r (List.mem_of_mem_eraseIdx hr2)
    exact ⟨by rw [List.length_drop, h1]; rfl, fun x hx => h2 x (List.mem_of_mem_drop hx)⟩
theorem erase_step {α : Type} {l : List α} {i j : Nat} {x : α} (h : l[j]? = some x) : (l.take (j + 1)).eraseIdx i = if j = i then (l.take j).eraseIdx i else (l.take j).eraseIdx i ++ [x] := by
  have hl := (List.getElem?_eq_some_iff.mp h).1
  have ht : (l.take j).length = j := by rw [List.length_take]; omega
  rw [take_at h]
  by_cases c : j = i
  · rw [if_pos c]
    subst c
    rw [List.eraseIdx_append_of_length_le (by omega), ht]
    simp
    rw [List.eraseIdx_of_length_le (by omega)]
  · rw [if_neg c]
    rcases Nat.lt_or_ge i j with d | d
    · rw [List.eraseIdx_append_of_lt_length (by omega)]
    · rw [List.eraseIdx_append_of_length_le (by omega), ht, List.eraseIdx_of_length_le (by simp; omega), List.eraseIdx_of_length_le (by omega)]
theorem detL0 (tab : List (List Int)) : detL 0 tab = 1 := by rw [detL]
theorem detS0 (m : Nat) (tab : List (List Int)) : detS m tab 0 = 0 := by rw [detS]
theorem detSs (m i : Nat) (tab : List (List Int)) : detS m tab (i + 1) = detS m tab i + sgn i * hd0 tab i * detL m (less i tab) := by rw [detS]
theorem detLs (m : Nat) {tab : List (List Int)} (h : tab ≠ []) : detL (m + 1) tab = detS m tab tab.length := by rw [detL, if_neg h]
theorem sgn_le (i : Nat) (x : Int) (h : -100 ≤ x ∧ x ≤ 100) : -100 ≤ sgn i * x ∧ sgn i * x ≤ 100 := by
  unfold sgn
  split <;> omega
section
variable {P : Program} {w : World} {K : PySem.W.Frag} {mg : Str → Option Value} {base : Heap} {CN CB CS : Addr}
def spDet (k : Nat) : Sp := fun vs H Q _ => ∃ t tab, vs = [.ref t] ∧ MatAt H t tab ∧ SmallM k tab ∧ k ≤ 4 ∧ ∀ H', Same H H' → Q (.int (detL k tab)) H'
def spNone : Sp := fun _ _ _ _ => False
theorem sc_l_det : FnScope ["_law_rows", "_law_found", "_law_at", "_law_row", "_law_less", "_law_spot", "_law_one"] ["_law_rows"] (defScope s_l_det) := ⟨rfl, rfl, rfl, by decide +kernel, rfl, by decide +kernel, by decide +kernel⟩
theorem det_step {f : Addr} {fd : FuncData} {k j : Nat} {sp : Sp} (F : Fun K "_law_det" "_law_det" s_l_det f fd) (T : Txt K mg CN CB CS) (G_l_det : FnG P w K mg base CX0 j "_law_det" sp []) (hsp : ∀ m, k = m + 1 → ∀ vs H Q E, spDet m vs H Q E → sp vs H Q E) :
    FnOk P w K mg base CX0 (j + 1) f fd ["_law_rows"] (spDet k) := by
  refine F.ok sc_l_det (fun vs H Q E h => ?_) (fun cdv A outer s H vs Q E hr h => ?_)
  · obtain ⟨t, tab, rfl, _⟩ := h
    rfl
  · obtain ⟨t, tab, rfl, ⟨ps, ht, hp⟩, sm, k4, kq⟩ := h
    have hu := hu_of hr
    refine ⟨_, (pss_cons (ps_if (pt_cmpR (op_eqB hr.units) (pv 0) (pe_lst pa_nil) (nomark _)) (pss_one (ps_ret pe_int)) pss_nil)
  (pss_cons (ps_set (i := 1) sc_l_det.nd rfl (by first | exact Or.inl rfl | exact Or.inr rfl) pe_int)
  (pss_cons (ps_for PassesOwn.never rfl (pi_enum (by rfl) T.enumerate (pa_cons (pv 0) pa_nil)) (pg_tup rfl (pgs_cons (pg_name (i := 2) sc_l_det.nd rfl (by first | exact Or.inl rfl | exact Or.inr rfl)) (pgs_cons (pg_name (i := 3) sc_l_det.nd rfl (by first | exact Or.inl rfl | exact Or.inr rfl)) pgs_nil)))
  (pss_one (ps_if (pt_cmpR op_ne (pe_ix ix_list (pv 3) pe_int (fun _ _ => rfl)) pe_int (nomark _)) (pss_cons (ps_setLc (i := 4) (own := [("_law_spot", 5), ("_law_one", 6)]) rfl sc_l_det.nd rfl rfl (sw_true rfl rfl rfl (by decide +kernel)) (pi_enum (by rfl) T.enumerate (pa_cons (pv 0) pa_nil)) (blkOk_by (by kernel_rfl)) (fun _ _ _ _ _ => (pg_tupK (K := K) (n := 2) (by rfl) rfl (pgs_cons (pg_name (i := 5) sc_l_det.nd rfl (by first | exact Or.inl rfl | exact Or.inr rfl)) (pgs_cons (pg_name (i := 6) sc_l_det.nd rfl (by first | exact Or.inl rfl | exact Or.inr rfl)) pgs_nil)))) (fun _ _ _ _ _ => (pts_one (pt_cmpR op_ne (pv 5) (pv 2) (nomark _)))) (fun _ _ _ _ _ => (by exact (pe_slice (sl_listK (K := K) (by rfl)) (pv 6) (po_some pe_int) po_none))))
  (pss_one (ps_set (i := 1) sc_l_det.nd rfl (by first | exact Or.inl rfl | exact Or.inr rfl) (pe_op op_add (pv 1) (pe_op op_mul (pe_op op_mul (pe_ifExp (pt_cmpR op_eq (pe_op op_mod (pv 2) pe_int) pe_int (nomark _)) pe_int (pe_un un_neg pe_int)) (pe_ix ix_list (pv 3) pe_int (fun _ _ => rfl))) (pe_f G_l_det hr (Nat.le_refl _) (by rfl) pass0 (pa_cons (pv 4) pa_nil))))))) pss_nil)))
  (pss_one (ps_ret (pv 1)))))), ?_⟩
    refine ⟨_, rfl, by show 0 ≤ sizeLine; decide, fun q hq => ?_⟩
    have s1 := same_upd0 (o := .lst []) hq
    have hq1 : (upd H q (.lst [])) q = some (.lst []) := upd_same
    generalize upd H q (.lst []) = H1 at s1 hq1 ⊢
    have hpl := hp.length
    cases k with
    | zero =>
      have e0 : tab = [] := List.length_eq_zero_iff.mp sm.1
      subst e0
      have e1 : ps = [] := List.length_eq_zero_iff.mp hpl
      subst e1
      refine ⟨1, true, by decide, .inl ⟨t, q, [], [], fun _ => true, rfl, rfl, SqL.of (s1 _ _ ht), SqL.of hq1, rfl, (fun j u v h => nomatch h), rfl⟩, _, rfl, ?_⟩
      rw [detL0] at kq
      exact iteT (kq _ s1)
    | succ m =>
      have e0 : tab.length = m + 1 := sm.1
      refine ⟨1, false, by decide, .inr (.inl ⟨t, q, _, [], rfl, rfl, SqL.of (s1 _ _ ht), SqL.of hq1, by rw [List.length_map, hpl, e0]; exact fun z => (nomatch z), rfl⟩), _, rfl, ?_⟩
      refine iteF ?_
      refine ⟨_, rfl, t, _, rfl, SqL.of (s1 _ _ ht), for_it (walk_enum (xs := ps.map V.ref)) (fun i σ H' => ∃ v2 v3 v4, σ = [some (.ref t), some (.int (detS m tab i)), v2, v3, v4, none, none] ∧ Same H H') ⟨_, _, _, by rw [detS0]; rfl, s1⟩ (fun i σ H' _ p => ?_) ?_ ?_⟩
      · obtain ⟨_, _, _, _, s2⟩ := p
        exact SqL.of (s2 _ _ ht)
      · rintro i x σ H2 H3 hi ⟨v2, v3, v4, rfl, s2⟩ ⟨T9, x1, x2, rfl, hT, rfl, hx1, hx2⟩
        cases hx1
        rw [List.length_map, hpl, e0] at hi
        have hx2 : (ps.map V.ref)[i]? = some x2 := hx2
        rw [List.getElem?_map] at hx2
        obtain ⟨p, hpi, rfl⟩ := Option.map_eq_some_iff.mp hx2
        obtain ⟨row, hrow, hrp⟩ := paired_at hp hpi
        have s3 := same_upd s2 (o := .tup [.int (i : Nat), .ref p]) hT
        refine ⟨T9, _, rfl, SqT.of upd_same, rfl, _, _, rfl, _, _, rfl, rfl, ?_⟩
        generalize upd H2 T9 (.tup [.int (i : Nat), .ref p]) = H3 at s3 ⊢
        obtain ⟨hrl, hrb⟩ := sm.2 row (List.mem_of_getElem? hrow)
        obtain ⟨y, rest, rfl⟩ : ∃ y rest, row = y :: rest := by
          cases row with
          | nil => simp at hrl
          | cons y r => exact ⟨y, r, rfl⟩
        have hy := hrb y (List.mem_cons_self ..)
        have eh : hd0 tab i = y := by
          unfold hd0
          simp [List.getD, hrow]
        have rp3 := s3 _ _ hrp
        have eat : atI ((y :: rest).map V.int) 0 = some (V.int y) := by
          unfold atI
          rw [show (0 : Int) = ((0 : Nat) : Int) from rfl, ixN_nat (by simp)]
          rfl
        refine ⟨_, rfl, p, _, 0, _, rfl, rfl, SqL.of rp3, eat, rfl, _, rfl, ?_⟩
        refine ite2 (fun c => ?_) (fun c => ?_)
        · refine ⟨_, rfl, t, _, rfl, SqL.of (s3 _ _ ht), fun D hD => lc_it (walk_enum (xs := ps.map V.ref)) (fun j H' => ∃ ps' : List Addr, Same H3 H' ∧ H' D = some (.lst (ps'.map V.ref)) ∧ Paired (fun p row => H' p = some (.lst (row.map V.int)) ∧ p ≠ D) ps' (((tab.take j).eraseIdx i).map (·.drop 1))) ⟨[], same_upd0 hD, upd_same, by rw [List.take_zero]; exact .nil⟩ (fun j H' _ p => ?_) ?_ ?_⟩
          · obtain ⟨_, s4, _⟩ := p
            exact SqL.of (s4 _ _ (s3 _ _ ht))
          · rintro j x H4 H5 hj ⟨ps', s4, hD4, hp4⟩ ⟨T8, y1, y2, rfl, hT8, rfl, hy1, hy2⟩
            cases hy1
            have hy2 : (ps.map V.ref)[j]? = some y2 := hy2
            rw [List.getElem?_map] at hy2
            obtain ⟨p2, hpj, rfl⟩ := Option.map_eq_some_iff.mp hy2
            obtain ⟨row2, hrow2, hrp2⟩ := paired_at hp hpj
            refine ⟨T8, _, rfl, SqT.of upd_same, rfl, _, _, rfl, _, _, rfl, rfl, rfl, ?_⟩
            have s5 := same_upd0 (o := .tup [.int (j : Nat), .ref p2]) hT8
            generalize upd H4 T8 (.tup [.int (j : Nat), .ref p2]) = H5 at s5 ⊢
            have hD5 := s5 _ _ hD4
            have s35 : Same H3 H5 := fun b o e => s5 _ _ (s4 _ _ e)
            refine ⟨_, rfl, _, rfl, rfl, _, rfl, ?_⟩
            refine ite2 (fun c2 => ?_) (fun c2 => ?_)
            · have cj : ¬ j = i := fun z => by
                subst z
                exact absurd c2 (by simp)
              refine ⟨_, rfl, _, rfl, p2, _, rfl, SqL.of (s35 _ _ (s3 _ _ hrp2)), fun p3 hp3 => ?_⟩
              have ecut : cutV (row2.map V.int) (some 1) none = (row2.drop 1).map V.int := by
                obtain ⟨hl2, _⟩ := sm.2 row2 (List.mem_of_getElem? hrow2)
                obtain ⟨y2, rest2, rfl⟩ : ∃ y rest, row2 = y :: rest := by
                  cases row2 with
                  | nil => simp at hl2
                  | cons y r => exact ⟨y, r, rfl⟩
                show cutV _ (some ((1 : Nat) : Int)) none = _
                unfold cutV
                rw [HT.sIx_nat]
                show List.take ((List.map V.int (y2 :: rest2)).length - min 1 (List.map V.int (y2 :: rest2)).length) _ = _
                simp
                rw [List.take_of_length_le (by simp)]
              rw [ecut]
              have nDp : D ≠ p3 := ne_of_none hD5 hp3
              have s6 := same_upd0 (o := .lst ((row2.drop 1).map V.int)) hp3
              have hpl4 := hp4.length
              refine ⟨_, s6 _ _ hD5, ?_, ps' ++ [p3], ?_, ?_, ?_⟩
              · rw [List.length_map, hpl4, List.length_map]
                have : ((tab.take j).eraseIdx i).length ≤ 4 := Nat.le_trans (List.length_eraseIdx_le ..) (by rw [List.length_take]; omega)
                exact Nat.lt_of_le_of_lt this (by decide)
              · exact same_out (same_upd s35 hp3) hD
              · rw [upd_same, List.map_append]
                rfl
              · rw [erase_step hrow2, if_neg cj, List.map_append]
                refine paired_append (Paired.mapP hp4 fun a b z => ⟨?_, z.2⟩) (.cons ⟨?_, Ne.symm nDp⟩ .nil)
                · rw [upd_ne z.2]
                  exact s6 _ _ (s5 _ _ z.1)
                · rw [upd_ne (Ne.symm nDp), upd_same]
            · have cj : j = i := Classical.byContradiction fun z => c2 (by simp; exact fun e => z (by exact_mod_cast e))
              refine ⟨ps', s35, hD5, ?_⟩
              rw [erase_step hrow2, if_pos cj]
              exact Paired.mapP hp4 fun a b z => ⟨s5 _ _ z.1, z.2⟩
          · rintro H4 ⟨ps', s4, hD4, hp4⟩
            rw [List.length_map, hpl, List.take_length] at hp4
            have ml : MatAt H4 D (less i tab) := ⟨ps', hD4, Paired.mapP hp4 fun _ _ z => z.1⟩
            have s04 : Same H H4 := fun b o e => s4 _ _ (s3 _ _ e)
            have rp4 := s4 _ _ rp3
            have fin : ∀ H5, Same H4 H5 → ∃ v2 v3 v4 : Option V, ([some (V.ref t), some (V.int (detS m tab i + sgn i * y * detL m (less i tab))), some (V.int (i : Nat)), some (V.ref p), some (V.ref D), none, none] : List (Option V)) = [some (V.ref t), some (V.int (detS m tab (i + 1))), v2, v3, v4, none, none] ∧ Same H H5 := fun H5 s5 => ⟨_, _, _, by rw [detSs, eh], fun b o e => s5 _ _ (s04 _ _ e)⟩
            have hb := sgn_le i y hy
            refine ⟨_, rfl, _, rfl, _, _, rfl, rfl, (by show (0 : Int) < 2; decide), rfl, _, rfl, ite2 (fun c => ?g1) (fun c => ?g2)⟩
            case' g1 =>
              have es : sgn i = 1 := if_pos (by
                have := of_decide_eq_true c
                injection this with this
                omega)
              rw [es] at hb fin
              refine ⟨_, rfl, p, _, 0, _, rfl, rfl, SqL.of rp4, eat, _, _, rfl, rfl, .inl ⟨by decide, by decide⟩, ?_⟩
            case' g2 =>
              have es : sgn i = -1 := if_neg (fun z => c (decide_eq_true (by
                show V.int ((i : Int) % 2) = V.int 0
                congr 1
                omega)))
              rw [es] at hb fin
              refine ⟨1, rfl, _, rfl, p, _, 0, _, rfl, rfl, SqL.of rp4, eat, _, _, rfl, rfl, .inl ⟨by decide, by decide⟩, ?_⟩
            all_goals
              refine ⟨_, rfl, hsp m rfl _ _ _ _ ⟨D, less i tab, rfl, ml, small_less sm hi, by omega, fun H5 s5 => ?_⟩⟩
              refine ⟨_, _, rfl, rfl, .inl ⟨by omega, by omega⟩, _, _, rfl, rfl, ?_⟩
              exact fin H5 s5
        · have y0 : y = 0 := Classical.byContradiction fun z => c (by simp; exact z)
          have : detS m tab i = detS m tab (i + 1) := by
            rw [detSs, eh, y0]
            simp
          exact ⟨some (V.int (i : Nat)), some (.ref p), v4, by rw [← this]; rfl, s3⟩
      · rintro σ H2 ⟨v2, v3, v4, rfl, s2⟩
        rw [List.length_map, hpl]
        have e : detL (m + 1) tab = detS m tab tab.length := detLs m fun z => by
          rw [z] at e0
          simp at e0
        rw [e] at kq
        exact ⟨_, rfl, kq _ s2⟩
theorem ok_det {f : Addr} {fd : FuncData} (F : Fun K "_law_det" "_law_det" s_l_det f fd) (T : Txt K mg CN CB CS) (hm : mg "_law_det" = some (.ref f)) (b : Binds K fd ["_law_rows"] []) : ∀ k, FnOk P w K mg base CX0 (k + 1) f fd ["_law_rows"] (spDet k)
  | 0 => det_step F T ⟨f, fd, _, _, ⟨fun _ _ _ _ h => h.elim, fun _ _ _ _ _ _ _ _ _ _ _ _ _ h => h.elim⟩, hm, F.kp, b, .nil⟩ (sp := spNone) (fun _ h => nomatch h)
  | k + 1 => det_step F T ⟨f, fd, _, _, ok_det F T hm b k, hm, F.kp, b, .nil⟩ (fun m e vs H Q E h => by cases e; exact h)
end
end Bal
set_option autoImplicit true
set_option Elab.async false
set_option linter.all false
set_option maxRecDepth 100000
set_option maxHeartbeats 4000000
/-! W24: the law's matrix; whether a net ends. -/
namespace Bal
open PySem L2
section
variable {P : Program} {w : World} {K : PySem.W.Frag} {mg : Str → Option Value} {base : Heap} {CN CB CS : Addr}
def spMatrix : Sp := fun vs H Q _ => ∃ N d v, vs = [.ref d] ∧ KnotsAt H N d v ∧ N.Good ∧ ∀ t H', Same H H' → MatAt H' t (tabOf N.n N.mat) → Q (.ref t) H'
theorem sc_l_matrix : FnScope ["_law_knots_here", "_law_names", "_law_name", "_law_other"] ["_law_knots_here"] (defScope s_l_matrix) := ⟨rfl, rfl, rfl, by decide +kernel, rfl, by decide +kernel, by decide +kernel⟩
theorem ok_matrix {f : Addr} {fd : FuncData} (F : Fun K "_law_matrix" "_law_matrix" s_l_matrix f fd) (T : Txt K mg CN CB CS) (G_l_falls : FnG P w K mg base CX0 1 "_law_falls" spFalls []) : FnOk P w K mg base CX0 2 f fd ["_law_knots_here"] spMatrix := by
  refine F.ok sc_l_matrix (fun vs H Q E h => ?_) (fun cdv A outer s H vs Q E hr h => ?_)
  · obtain ⟨N, d, v, rfl, _⟩ := h
    rfl
  · obtain ⟨N, d, v, rfl, kn, G, kq⟩ := h
    have hu := hu_of hr
    refine ⟨_, (pss_cons (ps_set (i := 1) sc_l_matrix.nd rfl (by first | exact Or.inl rfl | exact Or.inr rfl) (pe_callB cr_sortedS (by rfl) T.sorted (by decide +kernel) (pa_cons (pe_callTy (call_listD rfl) (by rfl) T.list (by decide +kernel) (pa_cons (pv 0) pa_nil)) pa_nil)))
  (pss_one (ps_ret (pe_lc (own := [("_law_name", 2)]) rfl sc_l_matrix.nd (pi_list (pv 1)) (blkOk_by (by kernel_rfl)) (fun _ _ _ _ _ => (pg_name (i := 2) sc_l_matrix.nd rfl (by first | exact Or.inl rfl | exact Or.inr rfl))) (fun _ _ _ _ _ => pts_nil) (fun _ _ _ _ _ => (by exact (pe_lc (own := [("_law_other", 3)]) rfl sc_l_matrix.nd (pi_listK (K := K) (by rfl) (pv 1)) (blkOk_by (by kernel_rfl)) (fun _ _ _ _ _ => (pg_name (i := 3) sc_l_matrix.nd rfl (by first | exact Or.inl rfl | exact Or.inr rfl))) (fun _ _ _ _ _ => pts_nil) (fun _ _ _ _ _ => (by exact (pe_op op_sub (by exact (pe_ifExp (pt_cmpR op_eq (pv 2) (pv 3) (nomark _)) (by exact (pe_callB (call_lenK (K := K) (by rfl)) (by rfl) T.len (by decide +kernel) (pa_cons (by exact (pe_ix (ix_tupK (K := K) (by rfl)) (by exact (pe_dget hu (pv 0) (pv 2) (fun _ _ => rfl))) pe_int (fun _ _ => rfl))) pa_nil))) pe_int)) (by exact (pe_dget2 hu (by exact (pe_f G_l_falls hr (by decide) (by rfl) pass0 (pa_cons (pv 0) (pa_cons (pv 2) pa_nil)))) (pv 3) pe_int ⟨rfl, rfl, rfl, rfl⟩)))))))))))), ?_⟩
    have n4 := G.n4
    refine ⟨_, rfl, d, _, rfl, .inl kn.dc, fun l hl => ?_⟩
    rw [keys_tkv]
    refine ⟨l, (List.range N.n).map tg, rfl, SqL.of (by rw [upd_same, List.map_map]; rfl), by rw [List.length_map, List.length_range]; omega, fun ys q perm srt hq => ?_⟩
    have eys : ys = (List.range N.n).map tg := sorted_uniq perm (sorted_rng _ (by omega)) srt
    subst eys
    have eV : (((List.range N.n).map tg).map V.str) = namesV N.n := by
      rw [List.map_map]
      rfl
    rw [eV]
    have s2 := same_upd (same_upd0 (o := .lst ((List.range N.n).map fun k => .str (tg k))) hl) (o := .lst (namesV N.n)) hq
    have hq2 : (upd (upd H l (.lst ((List.range N.n).map fun k => .str (tg k)))) q (.lst (namesV N.n))) q = some (.lst (namesV N.n)) := upd_same
    generalize upd (upd H l (.lst ((List.range N.n).map fun k => .str (tg k)))) q (.lst (namesV N.n)) = H2 at s2 hq2 ⊢
    refine ⟨_, rfl, q, rfl, ⟨_, SqL.of hq2⟩, fun D hD => lc_it (walk_list (xs := namesV N.n)) (fun i H' => Same H2 H' ∧ ∃ ps : List Addr, H' D = some (.lst (ps.map V.ref)) ∧ Paired (fun p row => H' p = some (.lst (row.map V.int)) ∧ p ≠ D) ps ((List.range i).map fun k => (List.range N.n).map fun j => N.mat k j)) ⟨same_upd0 hD, [], upd_same, .nil⟩ (fun i H' _ p => SqL.of (p.1 _ _ hq2)) ?_ ?_⟩
    · rintro i x H3 H4 hi ⟨s3, ps, hD3, hp3⟩ ⟨e4, hx⟩
      subst H4
      rw [names_len] at hi
      obtain ⟨_, rfl⟩ := names_at hx
      refine ⟨rfl, ?_⟩
      refine ⟨_, rfl, q, rfl, ⟨_, SqL.of (s3 _ _ hq2)⟩, fun D2 hD2 => lc_it (walk_list (xs := namesV N.n)) (fun j H' => Same H3 H' ∧ H' D2 = some (.lst (((List.range j).map fun j => N.mat i j).map V.int))) ⟨same_upd0 hD2, upd_same⟩ (fun i H' _ p => SqL.of (p.1 _ _ (s3 _ _ hq2))) ?_ ?_⟩
      · rintro j x2 H5 H6 hj ⟨s5, hD5⟩ ⟨e6, hx2⟩
        subst H6
        rw [names_len] at hj
        obtain ⟨_, rfl⟩ := names_at hx2
        have t5 : Same H H5 := fun b o e => s5 _ _ (s3 _ _ (s2 _ _ e))
        have kn5 := kn.same t5
        refine ⟨rfl, ?_⟩
        refine ⟨_, rfl, _, rfl, rfl, _, rfl, ?_⟩
        have h6 : ∀ d ∈ N.tu i, ∀ t ∈ d, t < 6 := fun d hd t ht => by
          have := (G.tg i hi d (List.mem_append.mpr (.inr hd))).2 t ht
          omega
        have fin : ∀ (z : Int) (dd : Addr) (is : List Nat) H6, Same H5 H6 → IntI is (sumI (N.tu i)) → H6 dd = some (.dK (ikv is (sumI (N.tu i)))) → z = (if i = j then (N.q i : Int) else 0) → ∃ acc, H6 D2 = some (.lst acc) ∧ acc.length < sizeLine ∧ Same H3 (upd H6 D2 (.lst (acc ++ [.int (z - sumI (N.tu i) j)]))) ∧ upd H6 D2 (.lst (acc ++ [.int (z - sumI (N.tu i) j)])) D2 = some (.lst (((List.range (j + 1)).map fun j => N.mat i j).map V.int)) := by
          rintro z dd is H6 s6 hI hd6 rfl
          refine ⟨_, s6 _ _ hD5, by rw [List.length_map, List.length_map, List.length_range]; exact Nat.lt_of_lt_of_le hj (Nat.le_trans n4 (by decide)), same_out (fun b o e => s6 _ _ (s5 _ _ e)) hD2, ?_⟩
          rw [upd_same, List.range_succ, List.map_append, List.map_append]
          rfl
        refine ite2 (fun c => ?_) (fun c => ?_)
        · have c2 : i = j := tg_inj i (by omega) j (by omega) (by injection (of_decide_eq_true c))
          obtain ⟨b, y, z, e, q4, r1, ⟨c3, ps3, e2, q2, p2⟩⟩ := kn5.kn i hi
          refine ⟨_, rfl, _, rfl, d, _, rfl, dget_in kn5.dc (List.mem_range.mpr hi) (rng_lt n4), b, _, _, _, e, rfl, SqT.of q4, rfl, c3, ps3, by rw [e2], .inr (SqT.of q2), ?_⟩
          refine ⟨_, rfl, _, rfl, N, d, v, i, rfl, kn5, n4, hi, h6, fun dd is H6 hdd s6 hI hd6 => ⟨dd, rfl, .inl ⟨_, .inl hd6⟩, _, rfl, _, dget_tkv hd6 (by omega) hI.lt, ?_⟩⟩
          rw [iget hI]
          exact ⟨_, _, rfl, rfl, fin _ dd is H6 s6 hI hd6 (by rw [if_pos c2, p2.length]; rfl)⟩
        · have c2 : ¬ i = j := fun e => c (decide_eq_true (by rw [e]))
          refine ⟨_, rfl, _, rfl, N, d, v, i, rfl, kn5, n4, hi, h6, fun dd is H6 hdd s6 hI hd6 => ⟨dd, rfl, .inl ⟨_, .inl hd6⟩, _, rfl, _, dget_tkv hd6 (by omega) hI.lt, ?_⟩⟩
          rw [iget hI]
          exact ⟨_, _, rfl, rfl, fin _ dd is H6 s6 hI hd6 (by rw [if_neg c2])⟩
      · rintro H5 ⟨s5, hD5⟩
        rw [names_len] at hD5
        have nDD : D ≠ D2 := ne_of_none hD3 hD2
        have hpl := hp3.length
        rw [List.length_map, List.length_range] at hpl
        refine ⟨_, s5 _ _ hD3, by rw [List.length_map, hpl]; exact Nat.lt_of_lt_of_le hi (Nat.le_trans n4 (by decide)), ?_, ps ++ [D2], ?_, ?_⟩
        · exact same_out (fun b o e => s5 _ _ (s3 _ _ e)) hD
        · rw [upd_same, List.map_append]
          rfl
        · rw [List.range_succ, List.map_append]
          refine paired_append (Paired.mapP hp3 fun p row z => ⟨?_, z.2⟩) (.cons ⟨?_, Ne.symm nDD⟩ .nil)
          · rw [upd_ne z.2]
            exact s5 _ _ z.1
          · rw [upd_ne (Ne.symm nDD)]
            exact hD5
    · rintro H3 ⟨s3, ps, hD3, hp3⟩
      rw [names_len] at hp3
      exact kq D H3 (fun b o e => s3 _ _ (s2 _ _ e)) ⟨ps, hD3, Paired.mapP hp3 fun _ _ z => z.1⟩
/-! ### does it end -/
def spDetA : Sp := fun vs H Q E => ∃ k, k ≤ 4 ∧ spDet k vs H Q E
theorem ok_detA {f : Addr} {fd : FuncData} (h : ∀ k, FnOk P w K mg base CX0 (k + 1) f fd ["_law_rows"] (spDet k)) : FnOk P w K mg base CX0 5 f fd ["_law_rows"] spDetA :=
  ⟨fun vs H Q E ⟨k, _, q⟩ => (h k).len vs H Q E q, fun A outer s H args us vs Q E hr he hb hv ⟨k, k4, q⟩ => ((h k).mono (by omega)).run A outer s H args us vs Q E hr he hb hv q⟩
def spDoesEnd : Sp := fun vs H Q _ => ∃ N d v, vs = [.ref d] ∧ KnotsAt H N d v ∧ N.Good ∧ ∀ b H', Same H H' → (b = true → Ends N) → Q (.bl b) H'
theorem good_small {N : NetM} (G : N.Good) {k : Nat} (hk : k ≤ N.n) : SmallM k (lead k (tabOf N.n N.mat)) := by
  refine ⟨by unfold lead tabOf; simp; omega, fun row hr => ?_⟩
  unfold lead tabOf at hr
  obtain ⟨r, hr2, rfl⟩ := List.mem_map.mp hr
  obtain ⟨i, hi, rfl⟩ := List.mem_map.mp (List.mem_of_mem_take hr2)
  have hi := List.mem_range.mp hi
  refine ⟨by simp; omega, fun x hx => ?_⟩
  obtain ⟨j, hj, rfl⟩ := List.mem_map.mp (List.mem_of_mem_take hx)
  have h1 := G.fal i hi j
  have h2 : N.q i ≤ 5 := G.tu5 i hi
  show -100 ≤ (if i = j then (N.q i : Int) else 0) - (N.falls i j : Int) ∧ (if i = j then (N.q i : Int) else 0) - (N.falls i j : Int) ≤ 100
  split <;> omega
theorem cutV_take (xs : List V) (m : Nat) : cutV xs none (some (m : Int)) = xs.take m := by
  unfold cutV
  rw [HT.sIx_nat]
  show List.take (min m xs.length - 0) (List.drop 0 xs) = _
  rw [List.drop_zero, Nat.sub_zero, ← List.take_take, List.take_length]
theorem sc_l_does_end : FnScope ["_law_knots_here", "_law_rows", "_law_size", "_law_row"] ["_law_knots_here"] (defScope s_l_does_end) := ⟨rfl, rfl, rfl, by decide +kernel, rfl, by decide +kernel, by decide +kernel⟩
theorem ok_does_end {f : Addr} {fd : FuncData} (F : Fun K "_law_does_end" "_law_does_end" s_l_does_end f fd) (T : Txt K mg CN CB CS) (G_l_matrix : FnG P w K mg base CX0 2 "_law_matrix" spMatrix []) (G_l_det : FnG P w K mg base CX0 5 "_law_det" spDetA []) : FnOk P w K mg base CX0 6 f fd ["_law_knots_here"] spDoesEnd := by
  refine F.ok sc_l_does_end (fun vs H Q E h => ?_) (fun cdv A outer s H vs Q E hr h => ?_)
  · obtain ⟨N, d, v, rfl, _⟩ := h
    rfl
  · obtain ⟨N, d, v, rfl, kn, G, kq⟩ := h
    have hu := hu_of hr
    refine ⟨_, (pss_cons (ps_set (i := 1) sc_l_does_end.nd rfl (by first | exact Or.inl rfl | exact Or.inr rfl) (pe_f G_l_matrix hr (by decide) (by rfl) pass0 (pa_cons (pv 0) pa_nil)))
  (pss_one (ps_ret (pe_cmpR op_gt (pe_callB (cr_min rfl) (by rfl) T.min (by decide +kernel) (pa_cons (pe_lc (own := [("_law_size", 2)]) rfl sc_l_does_end.nd (pi_range2 (by rfl) T.range (pa_cons pe_int (pa_cons (pe_op op_add (pe_callB call_len_seq (by rfl) T.len (by decide +kernel) (pa_cons (pv 1) pa_nil)) pe_int) pa_nil))) (blkOk_by (by kernel_rfl)) (fun _ _ _ _ _ => (pg_name (i := 2) sc_l_does_end.nd rfl (by first | exact Or.inl rfl | exact Or.inr rfl))) (fun _ _ _ _ _ => pts_nil) (fun _ _ _ _ _ => (by exact (pe_f G_l_det hr (by decide) (by rfl) pass0 (pa_cons (by exact (pe_lc (own := [("_law_row", 3)]) rfl sc_l_does_end.nd (pi_listK (K := K) (by rfl) (by exact (pe_slice (sl_listK (K := K) (by rfl)) (pv 1) po_none (po_some (pv 2))))) (blkOk_by (by kernel_rfl)) (fun _ _ _ _ _ => (pg_name (i := 3) sc_l_does_end.nd rfl (by first | exact Or.inl rfl | exact Or.inr rfl))) (fun _ _ _ _ _ => pts_nil) (fun _ _ _ _ _ => (by exact (pe_slice (sl_listK (K := K) (by rfl)) (pv 3) po_none (po_some (pv 2))))))) pa_nil))))) pa_nil)) pe_int (nomark _))))), ?_⟩
    have n4 := G.n4
    have n1 := G.n1
    refine ⟨_, rfl, N, d, v, rfl, kn, G, fun t H1 s1 ⟨ps, ht, hp⟩ => ?_⟩
    have hpl : ps.length = N.n := by
      rw [hp.length]
      simp [tabOf]
    have hlen : (ps.map V.ref).length = N.n := by rw [List.length_map, hpl]
    refine ⟨_, rfl, t, _, rfl, .inl (SqL.of ht), _, _, rfl, rfl, 1, _, rfl, ⟨by decide, by decide, by omega, by omega⟩, fun D hD => ?_⟩
    have eN : (((ps.map V.ref).length : Int) + 1 - 1).toNat = N.n := by omega
    rw [eN]
    refine lc_range (lo := 1) (n := N.n) (fun i H' => Same H1 H' ∧ H' D = some (.lst (((List.range i).map fun s => minor (tabOf N.n N.mat) (s + 1)).map V.int))) ⟨same_upd0 hD, upd_same⟩ ?_ ?_
    · rintro i H2 hi ⟨s2, hD2⟩
      refine ⟨rfl, ?_⟩
      have ek : (1 : Int) + (i : Int) = ((i + 1 : Nat) : Int) := by omega
      rw [ek]
      refine ⟨_, rfl, _, rfl, _, rfl, t, _, rfl, SqL.of (s2 _ _ ht), fun q hq => ?_⟩
      rw [cutV_take, ← List.map_take]
      have s3 := same_upd0 (o := .lst ((ps.take (i + 1)).map V.ref)) hq
      have hq3 : (upd H2 q (.lst ((ps.take (i + 1)).map V.ref))) q = some (.lst ((ps.take (i + 1)).map V.ref)) := upd_same
      generalize upd H2 q (.lst ((ps.take (i + 1)).map V.ref)) = H3 at s3 hq3 ⊢
      clear hq
      have hp3 : Paired (fun p row => H3 p = some (.lst (row.map V.int))) (ps.take (i + 1)) ((tabOf N.n N.mat).take (i + 1)) := paired_take (i + 1) (Paired.mapP hp fun _ _ z => s3 _ _ (s2 _ _ z))
      refine ⟨q, rfl, ⟨_, SqL.of hq3⟩, fun D2 hE => lc_it (walk_list (xs := (ps.take (i + 1)).map V.ref)) (fun j H' => ∃ ps' : List Addr, Same H3 H' ∧ H' D2 = some (.lst (ps'.map V.ref)) ∧ Paired (fun p row => H' p = some (.lst (row.map V.int)) ∧ p ≠ D2) ps' ((((tabOf N.n N.mat).take (i + 1)).take j).map (·.take (i + 1)))) ⟨[], same_upd0 hE, upd_same, by rw [List.take_zero]; exact .nil⟩ (fun j H' _ p => ?_) ?_ ?_⟩
      · obtain ⟨_, s4, _⟩ := p
        exact SqL.of (s4 _ _ hq3)
      · rintro j x H4 H5 hj ⟨ps', s4, hD4, hp4⟩ ⟨e5, hx⟩
        subst H5
        rw [List.getElem?_map] at hx
        obtain ⟨p2, hpj, rfl⟩ := Option.map_eq_some_iff.mp hx
        obtain ⟨row2, hrow2, hrp2⟩ := paired_at hp3 hpj
        refine ⟨rfl, ?_⟩
        refine ⟨_, rfl, _, rfl, _, rfl, p2, _, rfl, SqL.of (s4 _ _ hrp2), fun p3 hp3' => ?_⟩
        rw [cutV_take, ← List.map_take]
        have nDp : D2 ≠ p3 := ne_of_none hD4 hp3'
        have s6 := same_upd0 (o := .lst ((row2.take (i + 1)).map V.int)) hp3'
        have hpl4 := hp4.length
        refine ⟨_, s6 _ _ hD4, ?_, ps' ++ [p3], ?_, ?_, ?_⟩
        · rw [List.length_map, hpl4, List.length_map, List.length_take, List.length_take]
          exact Nat.lt_of_le_of_lt (show _ ≤ 4 by omega) (by decide)
        · exact same_out (same_upd s4 hp3') hE
        · rw [upd_same, List.map_append]
          rfl
        · rw [take_at hrow2, List.map_append]
          refine paired_append (Paired.mapP hp4 fun a b z => ⟨?_, z.2⟩) (.cons ⟨?_, Ne.symm nDp⟩ .nil)
          · rw [upd_ne z.2]
            exact s6 _ _ z.1
          · rw [upd_ne (Ne.symm nDp), upd_same]
      · rintro H4 ⟨ps', s4, hD4, hp4⟩
        have e6 : ((tabOf N.n N.mat).take (i + 1)).take ((ps.take (i + 1)).map V.ref).length = (tabOf N.n N.mat).take (i + 1) := by
          rw [List.length_map, hp3.length, List.take_length]
        rw [e6] at hp4
        refine ⟨i + 1, by omega, D2, lead (i + 1) (tabOf N.n N.mat), rfl, ⟨ps', hD4, Paired.mapP hp4 fun _ _ z => z.1⟩, good_small G hi, by omega, fun H5 s5 => ?_⟩
        have s25 : Same H2 H5 := fun b o e => s5 _ _ (s4 _ _ (s3 _ _ e))
        refine ⟨_, s25 _ _ hD2, ?_, same_out (fun b o e => s25 _ _ (s2 _ _ e)) hD, ?_⟩
        · rw [List.length_map, List.length_map, List.length_range]
          exact Nat.lt_of_lt_of_le hi (Nat.le_trans n4 (by decide))
        · rw [upd_same, List.range_succ, List.map_append, List.map_append]
          rfl
    · rintro H2 ⟨s2, hD2⟩
      refine ⟨D, _, rfl, SqL.of hD2, by rw [List.length_map, List.length_range]; omega, fun m hm hle => ⟨_, _, rfl, rfl, ?_⟩⟩
      refine kq _ H2 (fun b o e => s2 _ _ (s1 _ _ e)) fun hb k k1 kn => ?_
      have hpos : (0 : Int) < m := of_decide_eq_true hb
      obtain ⟨k', rfl⟩ : ∃ k', k = k' + 1 := ⟨k - 1, by omega⟩
      have := hle _ (List.mem_map.mpr ⟨k', List.mem_range.mpr kn, rfl⟩)
      omega
end
end Bal
set_option autoImplicit true
set_option Elab.async false
set_option linter.all false
set_option maxRecDepth 100000
set_option maxHeartbeats 4000000
/-! W25: the law's rounds (kinds of things alone). -/
namespace Bal
open PySem L2
theorem val_none {kvs : List (Key × V)} {k : Key} (h : k ∉ kvs.map (·.1)) : valV kvs k = none := by
  induction kvs with
  | nil => rfl
  | cons p r ih =>
    obtain ⟨k', v⟩ := p
    rw [valV_neg fun e => h (by rw [← e]; exact List.mem_cons_self ..)]
    exact ih fun m => h (List.mem_cons_of_mem _ m)
theorem merge_new : ∀ {kvs acc : List (Key × V)}, ((acc ++ kvs).map (·.1)).Nodup → mergeK acc kvs = acc ++ kvs
  | [], acc, _ => by
    rw [List.append_nil]
    rfl
  | (k, v) :: r, acc, h => by
    have hk : k ∉ acc.map (·.1) := fun m => by
      rw [List.map_append] at h
      exact (List.nodup_append.mp h).2.2 _ m _ (List.mem_cons_self ..) rfl
    show mergeK (putK acc k v) r = _
    rw [putK_new _ (val_none hk), merge_new (by rw [List.append_assoc]; exact h), List.append_assoc]
    rfl
theorem merge_self {kvs : List (Key × V)} (h : (kvs.map (·.1)).Nodup) : mergeK [] kvs = kvs := merge_new h
theorem tkv_nd {is : List Nat} {v : Nat → V} (h : is.Nodup) (h6 : ∀ i ∈ is, i < 6) : ((tkv is v).map (·.1)).Nodup := by
  unfold tkv
  rw [List.map_map]
  induction is with
  | nil => exact .nil
  | cons i r ih =>
    obtain ⟨h1, h2⟩ := List.nodup_cons.mp h
    refine List.nodup_cons.mpr ⟨fun m => ?_, ih h2 fun j hj => h6 j (List.mem_cons_of_mem _ hj)⟩
    obtain ⟨j, hj, e⟩ := List.mem_map.mp m
    have : j = i := tg_inj j (h6 j (List.mem_cons_of_mem _ hj)) i (h6 i (List.mem_cons_self ..)) (Sum.inr.inj e)
    subst this
    exact h1 hj
/-- balls at knots -/
def OKd (H : Hp) (L : Addr) (n : Nat) : Prop := ∃ (is : List Nat) (g : Nat → Int), is.Nodup ∧ (∀ i ∈ is, i < n) ∧ H L = some (.dK (ikv is g))
/-- places -/
def PLat (H : Hp) (P : Addr) (n : Nat) : Prop := ∃ pl : Nat → Nat, H P = some (.dK (ikv (List.range n) fun i => (pl i : Int)))
theorem OKd.get {H : Hp} {L : Addr} {n k : Nat} (h : OKd H L n) (hk : k < n) (n4 : n ≤ 4) : ∃ o z, DGet H L (.str (tg k)) o ∧ o.getD (.int 0) = .int z := by
  obtain ⟨is, g, _, h2, e⟩ := h
  refine ⟨_, if k ∈ is then g k else 0, dget_tkv e (by omega) fun i hi => by have := h2 i hi; omega, ?_⟩
  split <;> rfl
theorem OKd.put {H : Hp} {L : Addr} {n k : Nat} (h : OKd H L n) (hk : k < n) (n4 : n ≤ 4) (z : Int) : ∃ o, DPut H L (.str (tg k)) (.int z) (upd H L o) ∧ OKd (upd H L o) L n := by
  obtain ⟨is, g, h1, h2, e⟩ := h
  have h6 : ∀ i ∈ is, i < 6 := fun i hi => by have := h2 i hi; omega
  have hl := nodup_le h1 h2
  refine ⟨_, dput_tkv e (by omega) h6 (by omega), addI is k, _, addI_nodup h1, fun i hi => ?_, by rw [upd_same, setF_int]⟩
  rcases addI_mem.mp hi with m | m
  · exact h2 i m
  · rw [m]; exact hk
theorem PLat.put {H : Hp} {P : Addr} {n k : Nat} (h : PLat H P n) (hk : k < n) (n4 : n ≤ 4) (z : Nat) : ∃ o, DPut H P (.str (tg k)) (.int (z : Int)) (upd H P o) ∧ PLat (upd H P o) P n := by
  obtain ⟨pl, e⟩ := h
  have ea : addI (List.range n) k = List.range n := if_pos (List.mem_range.mpr hk)
  refine ⟨_, dput_tkv e (by omega) (rng_lt n4) (by rw [List.length_range]; omega), fun i => if i = k then z else pl i, ?_⟩
  rw [upd_same, ea, setF_int]
  congr 2
  refine tkv_congr fun i _ => ?_
  show V.int (if i = k then (z : Int) else (pl i : Int)) = V.int (((if i = k then z else pl i : Nat)) : Int)
  split <;> rfl
theorem OKd.ne {H H' : Hp} {L p : Addr} {n : Nat} {o : HO} (h : OKd H L n) (hn : L ≠ p) : OKd (upd H p o) L n := let ⟨is, g, h1, h2, e⟩ := h; ⟨is, g, h1, h2, (upd_ne hn).trans e⟩
theorem PLat.ne {H H' : Hp} {P p : Addr} {n : Nat} {o : HO} (h : PLat H P n) (hn : P ≠ p) : PLat (upd H p o) P n := let ⟨pl, e⟩ := h; ⟨pl, (upd_ne hn).trans e⟩
theorem OKd.same {H H' : Hp} (s : Same H H') {L : Addr} {n : Nat} (h : OKd H L n) : OKd H' L n := let ⟨is, g, h1, h2, e⟩ := h; ⟨is, g, h1, h2, s _ _ e⟩
theorem PLat.same {H H' : Hp} (s : Same H H') {P : Addr} {n : Nat} (h : PLat H P n) : PLat H' P n := let ⟨pl, e⟩ := h; ⟨pl, s _ _ e⟩
theorem atI_nat' {α : Type} {xs : List α} {i : Nat} (h : i < xs.length) : atI xs (i : Int) = some xs[i] := by
  unfold atI
  rw [ixN_nat h]
  simp [h]
section
variable {P : Program} {w : World} {K : PySem.W.Frag} {mg : Str → Option Value} {base : Heap} {CN CB CS : Addr}
def spRounds : Sp := fun vs H Q _ => ∃ N kd v st wt, ∃ most : Nat, vs = [.ref kd, .ref st, .ref wt, .int (most : Int)] ∧ KnotsAt H N kd v ∧ N.Good ∧ PLat H st N.n ∧ OKd H wt N.n ∧ ∀ x H', Same H H' → (x = .non ∨ ∃ i, x = .int i) → Q x H'
/-- how many rounds are left -/
def muR (most : Nat) : L2.St → Hp → Nat := fun σ _ => match (σ[6]? : Option (Option V)) with
  | some (some (V.int f)) => ((most : Int) + 1 - f).toNat
  | _ => 0
/-- how many places of a front are left -/
def muP (l : Nat) : L2.St → Hp → Nat := fun σ _ => match (σ[12]? : Option (Option V)) with
  | some (some (V.int p)) => ((l : Int) - p).toNat
  | _ => 0
theorem sc_l_rounds_for : FnScope ["_law_knots_here", "_law_standing", "_law_waiting", "_law_most", "_law_places", "_law_now", "_law_found", "_law_late", "_law_name", "_law_many", "_law_front", "_law_turn", "_law_place", "_law_left", "_law_target", "_law_whole", "_law_rest", "_law_at", "_law_step", "_law_drop", "_law_times"] ["_law_knots_here", "_law_standing", "_law_waiting", "_law_most"] (defScope s_l_rounds_for) := ⟨rfl, rfl, rfl, by decide +kernel, rfl, by decide +kernel, by decide +kernel⟩
theorem ok_rounds {f : Addr} {fd : FuncData} (F : Fun K "_law_rounds_for" "_law_rounds_for" s_l_rounds_for f fd) (T : Txt K mg CN CB CS) : FnOk P w K mg base CX0 1 f fd ["_law_knots_here", "_law_standing", "_law_waiting", "_law_most"] spRounds := by
  refine F.ok sc_l_rounds_for (fun vs H Q E h => ?_) (fun cdv A outer s H vs Q E hr h => ?_)
  · obtain ⟨N, kd, v, st, wt, most, rfl, _⟩ := h
    rfl
  · obtain ⟨N, kd, v, st, wt, most, rfl, kn, G, ⟨pl0, hst⟩, ⟨is0, g0, nd0, lt0, hwt⟩, kq⟩ := h
    have hu := hu_of hr
    have n4 := G.n4
    have n1 := G.n1
    refine ⟨_, (pss_cons (ps_par3 (i := 4) (j := 5) (l := 6) rfl sc_l_rounds_for.nd rfl rfl rfl (by decide) (by decide) (by decide) rfl rfl rfl (pa_cons (pe_callTy (call_dictP rfl) (by rfl) T.dict (by decide +kernel) (pa_cons (LiI.pe_listItems rfl (pv 1) (by rfl) T.list (by decide +kernel)) pa_nil)) (pa_cons (pe_callTy (call_dictP rfl) (by rfl) T.dict (by decide +kernel) (pa_cons (LiI.pe_listItems rfl (pv 2) (by rfl) T.list (by decide +kernel)) pa_nil)) (pa_cons pe_int pa_nil))) (by rfl))
  (pss_cons (ps_while PassesOwn.never (pt_val (pe_callB (cr_any rfl) (by rfl) T.any (by decide +kernel) (pa_cons (pe_lock (pe_lc (own := [("_law_many", 9)]) rfl sc_l_rounds_for.nd (pi_values (pv 5)) (blkOk_by (by kernel_rfl)) (fun _ _ _ _ _ => (pg_name (i := 9) sc_l_rounds_for.nd rfl (by first | exact Or.inl rfl | exact Or.inr rfl))) (fun _ _ _ _ _ => pts_nil) (fun _ _ _ _ _ => (by exact (pe_cmpR op_gt (pv 9) pe_int (nomark _)))))) pa_nil))) (pss_cons (ps_par (i := 7) (j := 6) rfl sc_l_rounds_for.nd rfl rfl (by decide) rfl rfl (pa_cons pe_dnewK (pa_cons (pe_op op_add (pv 6) pe_int) pa_nil)) (by rfl))
  (pss_cons (ps_if (pt_cmpR op_gt (pv 6) (pv 3) (nomark _)) (pss_one (ps_ret pe_non)) pss_nil)
  (pss_cons (ps_lock (ps_for PassesOwn.never rfl (pi_items (pv 5)) (pg_tup rfl (pgs_cons (pg_name (i := 8) sc_l_rounds_for.nd rfl (by first | exact Or.inl rfl | exact Or.inr rfl)) (pgs_cons (pg_name (i := 9) sc_l_rounds_for.nd rfl (by first | exact Or.inl rfl | exact Or.inr rfl)) pgs_nil)))
  (pss_cons (ps_asg (pe_dget hu (pv 0) (pv 8) (fun _ _ => rfl)) (pg_tup rfl (pgs_cons (pg_name (i := 10) sc_l_rounds_for.nd rfl (by first | exact Or.inl rfl | exact Or.inr rfl)) (pgs_cons (pg_name (i := 11) sc_l_rounds_for.nd rfl (by first | exact Or.inl rfl | exact Or.inr rfl)) pgs_nil))))
  (pss_cons (ps_par (i := 12) (j := 13) rfl sc_l_rounds_for.nd rfl rfl (by decide) rfl rfl (pa_cons (pe_dget hu (pv 4) (pv 8) (fun _ _ => rfl)) (pa_cons (pv 9) pa_nil)) (by rfl))
  (pss_cons (ps_while PassesOwn.never (PW.pt (pw_and (pt_cmpR op_gt (pv 13) pe_int (nomark _)) (pw_and1 (pt_cmpR op_lt (pv 12) (pe_callB call_len_seq (by rfl) T.len (by decide +kernel) (pa_cons (pv 10) pa_nil)) (nomark _))))) (pss_cons (ps_for PassesOwn.never rfl (pi_tup (pe_ix ix_tup (pv 10) (pv 12) (fun _ _ => rfl))) (pg_name (i := 14) sc_l_rounds_for.nd rfl (by first | exact Or.inl rfl | exact Or.inr rfl))
  (pss_one (ps_if (pt_cmp (pc_din hu (pv 14) (pv 0))) (pss_one (ps_dput hu (pv 7) (pv 14) (pe_op op_add (pe_dget2 hu (pv 7) (pv 14) pe_int ⟨rfl, rfl, rfl, rfl⟩) pe_int) rfl)) pss_nil)))
  (pss_one (ps_par (i := 12) (j := 13) rfl sc_l_rounds_for.nd rfl rfl (by decide) rfl rfl (pa_cons (pe_op op_add (pv 12) pe_int) (pa_cons (pe_op op_sub (pv 13) pe_int) pa_nil)) (by rfl)))))
  (pss_cons (ps_par (i := 15) (j := 16) rfl sc_l_rounds_for.nd rfl rfl (by decide) rfl rfl (pa_cons (pe_op op_fdiv (pv 13) (pe_callB call_len_seq (by rfl) T.len (by decide +kernel) (pa_cons (pv 11) pa_nil))) (pa_cons (pe_op op_mod (pe_callTy call_int1 (by rfl) T.int (by decide +kernel) (pa_cons (pv 13) pa_nil)) (pe_callB call_len_seq (by rfl) T.len (by decide +kernel) (pa_cons (pv 11) pa_nil))) pa_nil)) (by rfl))
  (pss_cons (ps_set (i := 17) sc_l_rounds_for.nd rfl (by first | exact Or.inl rfl | exact Or.inr rfl) (pe_callB (call_max2 rfl) (by rfl) T.max (by decide +kernel) (pa_cons (pe_op op_sub (pv 12) (pe_callB call_len_seq (by rfl) T.len (by decide +kernel) (pa_cons (pv 10) pa_nil))) (pa_cons pe_int pa_nil))))
  (pss_cons (ps_for PassesOwn.never rfl (pi_enumT (by rfl) T.enumerate (pa_cons (pv 11) pa_nil)) (pg_tup rfl (pgs_cons (pg_name (i := 18) sc_l_rounds_for.nd rfl (by first | exact Or.inl rfl | exact Or.inr rfl)) (pgs_cons (pg_name (i := 19) sc_l_rounds_for.nd rfl (by first | exact Or.inl rfl | exact Or.inr rfl)) pgs_nil)))
  (pss_cons (ps_set (i := 20) sc_l_rounds_for.nd rfl (by first | exact Or.inl rfl | exact Or.inr rfl) (pe_op op_add (pv 15) (pe_ifExp (pt_cmpR op_lt (pe_op op_mod (pe_callTy call_int1 (by rfl) T.int (by decide +kernel) (pa_cons (pe_op op_sub (pv 18) (pv 17)) pa_nil)) (pe_callB call_len_seq (by rfl) T.len (by decide +kernel) (pa_cons (pv 11) pa_nil))) (pv 16) (nomark _)) pe_int pe_int)))
  (pss_one (ps_for PassesOwn.never rfl (pi_tup (pv 19)) (pg_name (i := 14) sc_l_rounds_for.nd rfl (by first | exact Or.inl rfl | exact Or.inr rfl))
  (pss_one (ps_if (pt_cmp (pc_din hu (pv 14) (pv 0))) (pss_one (ps_dput hu (pv 7) (pv 14) (pe_op op_add (pe_dget2 hu (pv 7) (pv 14) pe_int ⟨rfl, rfl, rfl, rfl⟩) (pv 20)) rfl)) pss_nil))))))
  (pss_one (ps_dput hu (pv 4) (pv 8) (pe_ifExp (pt_cmpR op_lt (pv 12) (pe_callB call_len_seq (by rfl) T.len (by decide +kernel) (pa_cons (pv 10) pa_nil)) (nomark _)) (pv 12) (pe_op op_add (pe_callB call_len_seq (by rfl) T.len (by decide +kernel) (pa_cons (pv 10) pa_nil)) (pe_op op_mod (pe_callTy call_int1 (by rfl) T.int (by decide +kernel) (pa_cons (pe_op op_add (pv 17) (pv 13)) pa_nil)) (pe_callB call_len_seq (by rfl) T.len (by decide +kernel) (pa_cons (pv 11) pa_nil))))) rfl))))))))))
  (pss_one (ps_set (i := 5) sc_l_rounds_for.nd rfl (by first | exact Or.inl rfl | exact Or.inr rfl) (pv 7)))))))
  (pss_one (ps_ret (pv 6))))), ?_⟩
    have e1 : mergeK [] (ikv (List.range N.n) fun i => (pl0 i : Int)) = ikv (List.range N.n) fun i => (pl0 i : Int) := merge_self (tkv_nd List.nodup_range (rng_lt n4))
    have e2 : mergeK [] (ikv is0 g0) = ikv is0 g0 := merge_self (tkv_nd nd0 fun i hi => by have := lt0 i hi; omega)
    refine ⟨_, rfl, st, _, rfl, hst, fun H1 p ts s1 _ _ _ hp1 hts => ⟨p, ts, _, rfl, SqL.of hp1, Paired.mapP hts fun _ _ z => SqT.of z, fun PP hP => ?_⟩⟩
    rw [e1]
    have t1 : Same H (upd H1 PP (.dK (ikv (List.range N.n) fun i => (pl0 i : Int)))) := same_upd s1 hP
    have hP0 : H PP = none := same_none s1 hP
    have hP1 : (upd H1 PP (.dK (ikv (List.range N.n) fun i => (pl0 i : Int)))) PP = some (.dK (ikv (List.range N.n) fun i => (pl0 i : Int))) := upd_same
    generalize upd H1 PP (.dK (ikv (List.range N.n) fun i => (pl0 i : Int))) = H2 at t1 hP1 ⊢
    clear hP hts hp1 s1
    refine ⟨_, rfl, wt, _, rfl, t1 _ _ hwt, fun H3 p ts s3 _ _ _ hp1 hts => ⟨p, ts, _, rfl, SqL.of hp1, Paired.mapP hts fun _ _ z => SqT.of z, fun W hW => ⟨_, _, _, rfl, ?_⟩⟩⟩
    rw [e2]
    have t3 : Same H H3 := fun b o e => s3 _ _ (t1 _ _ e)
    have hW0 : H W = none := same_none t3 hW
    have hP3 := s3 _ _ hP1
    have nPW : PP ≠ W := ne_of_none hP3 hW
    refine while_by (fun σ H' => ∃ (W : Addr) (f : Int) (v7 v8 v9 v10 v11 v12 v13 v14 v15 v16 v17 v18 v19 v20 : Option V), σ = [some (.ref kd), some (.ref st), some (.ref wt), some (.int (most : Int)), some (.ref PP), some (.ref W), some (.int f), v7, v8, v9, v10, v11, v12, v13, v14, v15, v16, v17, v18, v19, v20] ∧ Same H H' ∧ PLat H' PP N.n ∧ OKd H' W N.n ∧ H W = none ∧ PP ≠ W) (muR most)
      ⟨W, _, _, _, _, _, _, _, _, _, _, _, _, _, _, _, rfl, same_upd t3 hW, PLat.ne (H' := H) ⟨pl0, hP3⟩ nPW, ⟨is0, g0, nd0, lt0, upd_same⟩, hW0, nPW⟩ ?_
      (fun σ H Q Q' h ⟨d, u, e1, mu, k⟩ => ⟨d, u, e1, mu, fun od => let ⟨v, e, d', o, kvs, ex, hd, k2⟩ := k od; ⟨v, e, d', o, kvs, ex, hd, fun D hD => let ⟨W, w0, ws⟩ := k2 D hD; ⟨W, w0, fun i m H hw => (ws i m H hw).elim (fun ⟨st, fr, a, bs, ea, sq, b, eb, q⟩ => .inl ⟨st, fr, a, bs, ea, sq, b, eb, h _ _ q⟩) .inr⟩⟩⟩)
    rintro σ H4 ⟨W, fnd, v7, v8, v9, v10, v11, v12, v13, v14, v15, v16, v17, v18, v19, v20, rfl, s4, hP4, ⟨is, g, nd, lt, hW4⟩, hW0, nPW⟩
    refine ⟨W, _, hW4, trivial, fun od => ⟨_, rfl, W, od, _, rfl, upd_same, fun D hD => lc_it walk_values (fun i H' => ∃ bs : List Bool, bs.length = i ∧ H' = upd (upd H4 W (.frz od (.dK (ikv is g)))) D (.lst (bs.map V.bl))) ⟨[], rfl, rfl⟩ (fun i H' _ p => ?_) ?_ ?_⟩⟩
    · obtain ⟨_, _, rfl⟩ := p
      exact same_upd0 hD _ _ upd_same
    · rintro i x H5 H6 hi ⟨bs, hbl, rfl⟩ ⟨e6, k, hk⟩
      subst H6
      obtain ⟨z, rfl⟩ : ∃ z, x = V.int z := by
        have hk : ((is.map fun i => ((Sum.inr (tg i) : Key), V.int (g i))))[i]? = some (k, x) := hk
        rw [List.getElem?_map] at hk
        obtain ⟨j, _, e⟩ := Option.map_eq_some_iff.mp hk
        cases e
        exact ⟨_, rfl⟩
      refine ⟨rfl, _, rfl, _, _, rfl, rfl, _, upd_same, ?_, bs ++ [decide (0 < z)], by rw [List.length_append, hbl]; rfl, ?_⟩
      · have hl := nodup_le nd lt
        have : (ikv is g).length = is.length := tkv_len ..
        rw [List.length_map, hbl]
        exact Nat.lt_of_lt_of_le hi (by rw [this]; exact Nat.le_trans hl (Nat.le_trans n4 (by decide)))
      · rw [upd_upd, List.map_append]
        rfl
    rintro H5 ⟨bs, _, rfl⟩
    have nWD : W ≠ D := ne_of_none upd_same hD
    refine ⟨(upd_ne nWD).trans upd_same, ?_⟩
    have sD : Same H4 (upd (upd (upd H4 W (.frz od (.dK (ikv is g)))) D (.lst (bs.map V.bl))) W (.dK (ikv is g))) := same_lock hW4 (same_upd0 hD)
    have hD5 : (upd (upd (upd H4 W (.frz od (.dK (ikv is g)))) D (.lst (bs.map V.bl))) W (.dK (ikv is g))) D = some (.lst (bs.map V.bl)) := (upd_ne (Ne.symm nWD)).trans upd_same
    generalize upd (upd (upd H4 W (.frz od (.dK (ikv is g)))) D (.lst (bs.map V.bl))) W (.dK (ikv is g)) = H5 at sD hD5 ⊢
    have s5 : Same H H5 := fun b o e => sD _ _ (s4 _ _ e)
    refine ⟨D, bs, rfl, SqL.of hD5, _, rfl, ?_⟩
    have hP5 := hP4.same sD
    have hW5 := sD _ _ hW4
    clear hD hD5 sD nWD hW4 hP4
    refine ite2 (fun _ => ?_) (fun _ => ⟨_, rfl, kq _ H5 s5 (.inr ⟨_, rfl⟩)⟩)
    -- one round
    intro L hL
    refine ⟨_, rfl, _, _, rfl, rfl, _, _, rfl, ?_⟩
    have s6 := same_upd s5 (o := .dK []) hL
    have hL0 : H L = none := same_none s5 hL
    have hP6 := hP5.same (same_upd0 (o := .dK []) hL)
    have hW6 := same_upd0 (o := .dK []) hL _ _ hW5
    have nPL : PP ≠ L := let ⟨_, e⟩ := hP5; ne_of_none e hL
    have nWL : W ≠ L := ne_of_none hW5 hL
    have hL6 : OKd (upd H5 L (.dK [])) L N.n := ⟨[], fun _ => 0, .nil, (fun _ h => nomatch h), upd_same⟩
    generalize upd H5 L (.dK []) = H6 at s6 hP6 hW6 hL6 ⊢
    clear hL s5 hP5 hW5
    refine ⟨_, rfl, _, rfl, _, _, rfl, rfl, _, rfl, ?_⟩
    refine ite2 (fun _ => kq _ H6 s6 (.inl rfl)) (fun c => ?_)
    have hfnd : fnd + 1 ≤ most := Int.not_lt.mp fun z => c (decide_eq_true z)
    refine ⟨W, _, hW6, trivial, fun od => ?_⟩
    have hWz : (upd H6 W (.frz od (.dK (ikv is g)))) W = some (.frz od (.dK (ikv is g))) := upd_same
    have s7 : Same H (upd H6 W (.frz od (.dK (ikv is g)))) := same_out s6 hW0
    have hP7 : PLat (upd H6 W (.frz od (.dK (ikv is g)))) PP N.n := PLat.ne (H' := H) hP6 nPW
    have hL7 : OKd (upd H6 W (.frz od (.dK (ikv is g)))) L N.n := OKd.ne (H' := H) hL6 (Ne.symm nWL)
    generalize upd H6 W (.frz od (.dK (ikv is g))) = H7 at s7 hWz hP7 hL7 ⊢
    clear s6 hP6 hL6 hW6
    refine ⟨_, rfl, W, od, _, rfl, hWz, for_it walk_items (fun i σ H' => ∃ (v8 v9 v10 v11 v12 v13 v14 v15 v16 v17 v18 v19 v20 : Option V), σ = [some (.ref kd), some (.ref st), some (.ref wt), some (.int (most : Int)), some (.ref PP), some (.ref W), some (.int (fnd + 1)), some (.ref L), v8, v9, v10, v11, v12, v13, v14, v15, v16, v17, v18, v19, v20] ∧ Same H H' ∧ PLat H' PP N.n ∧ OKd H' L N.n ∧ H' W = some (.frz od (.dK (ikv is g))))
      ⟨_, _, _, _, _, _, _, _, _, _, _, _, _, rfl, s7, hP7, hL7, hWz⟩ (fun i σ H' _ p => ?_) ?_ ?_⟩
    · obtain ⟨_, _, _, _, _, _, _, _, _, _, _, _, _, _, _, _, _, h⟩ := p
      exact h
    · rintro i x σ H8 H9 hi ⟨v8, v9, v10, v11, v12, v13, v14, v15, v16, v17, v18, v19, v20, rfl, s8, hP8, hL8, hW8⟩ ⟨T9, x1, x2, rfl, hT, rfl, hx1, hx2⟩
      obtain ⟨t, ht, rfl, rfl⟩ : ∃ t, is[i]? = some t ∧ x1 = .str (tg t) ∧ x2 = .int (g t) := by
        have hx1 : (ikv is g)[i]?.map (fun kv => kV kv.1) = some x1 := hx1
        have hx2 : (ikv is g)[i]?.map Prod.snd = some x2 := hx2
        have e : (ikv is g)[i]? = is[i]?.map fun i => ((Sum.inr (tg i) : Key), V.int (g i)) := List.getElem?_map ..
        rw [e] at hx1 hx2
        cases q : is[i]? with
        | none => rw [q] at hx1; cases hx1
        | some t => rw [q] at hx1 hx2; cases hx1; cases hx2; exact ⟨t, rfl, rfl, rfl⟩
      have htn : t < N.n := lt t (List.mem_of_getElem? ht)
      have s9 := same_upd s8 (o := .tup [.str (tg t), .int (g t)]) hT
      have sT := same_upd0 (o := .tup [.str (tg t), .int (g t)]) hT
      have hP9 := hP8.same sT
      have hL9 := hL8.same sT
      have hW9 := sT _ _ hW8
      refine ⟨T9, _, rfl, SqT.of upd_same, rfl, _, _, rfl, _, _, rfl, rfl, ?_⟩
      generalize upd H8 T9 (.tup [.str (tg t), .int (g t)]) = H9 at s9 hP9 hL9 hW9 ⊢
      clear sT s8 hP8 hL8 hW8 hT
      have kn9 := kn.same s9
      obtain ⟨b, _, _, e, q4, ⟨c1, ps1, rfl, q1, p1⟩, ⟨c2, ps2, rfl, q2, p2⟩⟩ := kn.kn t htn
      have hl1 := p1.length
      have hl2 := p2.length
      have hq2 : (0 : Int) < (ps2.length : Int) := by have := G.tu1 t htn; omega
      have hs2 : (ps2.length : Int) < 1073741824 := by have := G.tu5 t htn; omega
      refine ⟨_, rfl, _, rfl, kd, _, rfl, dget_in kn9.dc (List.mem_range.mpr htn) (rng_lt n4), ?_⟩
      rw [e]
      refine ⟨b, _, rfl, SqT.of (s9 _ _ q4), rfl, _, _, rfl, _, _, rfl, rfl, ?_⟩
      obtain ⟨pl, epl⟩ := id hP9
      refine ⟨_, rfl, _, rfl, PP, _, rfl, dget_in epl (List.mem_range.mpr htn) (rng_lt n4), _, rfl, _, _, rfl, ?_⟩
      refine while_by (fun σ H' => ∃ (pv : Nat) (lf : Int) (v14 : Option V), σ = [some (.ref kd), some (.ref st), some (.ref wt), some (.int (most : Int)), some (.ref PP), some (.ref W), some (.int (fnd + 1)), some (.ref L), some (.str (tg t)), some (.int (g t)), some (.ref c1), some (.ref c2), some (.int (pv : Int)), some (.int lf), v14, v15, v16, v17, v18, v19, v20] ∧ Same H H' ∧ PLat H' PP N.n ∧ OKd H' L N.n ∧ H' W = some (.frz od (.dK (ikv is g)))) (muP ps1.length)
        ⟨_, _, _, rfl, s9, hP9, hL9, hW9⟩ ?_ ?_
      · rintro σ HA ⟨pv, lf, w14, rfl, sA, hPA, hLA, hWA⟩
        refine ⟨_, rfl, _, _, rfl, rfl, _, rfl, ?_⟩
        refine ite2 (fun _ => ?a) (fun _ => ?b)
        case' a =>
          refine ⟨_, rfl, _, rfl, c1, _, rfl, .inr (SqT.of (sA _ _ q1)), _, _, rfl, rfl, _, rfl, ?_⟩
          refine ite2 (fun c => ?_) (fun _ => ?_)
          · have hpv : pv < ps1.length := by have := of_decide_eq_true c; omega
            obtain ⟨x, hx⟩ : ∃ x, ps1[pv]? = some x := ⟨ps1[pv], by simp [hpv]⟩
            obtain ⟨dr, hdr, bb, rfl, hbb⟩ := paired_at p1 hx
            have eat : atI ps1 (pv : Int) = some (.ref bb) := by
              rw [atI_nat' hpv]
              have := (List.getElem?_eq_some_iff.mp hx).2
              rw [this]
            have htg : ∀ u ∈ dr, u < 6 := fun u hu => by
              have := (G.tg t htn dr (List.mem_append.mpr (.inl (List.mem_of_getElem? hdr)))).2 u hu
              omega
            refine ⟨_, rfl, _, rfl, c1, _, _, _, rfl, rfl, SqT.of (sA _ _ q1), eat, bb, rfl, ⟨_, SqT.of (sA _ _ hbb)⟩, for_it (walk_tup (xs := dr.map fun t => .str (tg t))) (fun j σ H' => ∃ (v14 : Option V), σ = [some (.ref kd), some (.ref st), some (.ref wt), some (.int (most : Int)), some (.ref PP), some (.ref W), some (.int (fnd + 1)), some (.ref L), some (.str (tg t)), some (.int (g t)), some (.ref c1), some (.ref c2), some (.int (pv : Int)), some (.int lf), v14, v15, v16, v17, v18, v19, v20] ∧ Same H H' ∧ PLat H' PP N.n ∧ OKd H' L N.n ∧ H' W = some (.frz od (.dK (ikv is g))))
              ⟨_, rfl, sA, hPA, hLA, hWA⟩ (fun i σ H' _ p => ?_) ?_ ?_⟩
            · obtain ⟨_, _, s9, _⟩ := p
              exact SqT.of (s9 _ _ hbb)
            · rintro j x σ HB HC hj ⟨u14, rfl, sB, hPB, hLB, hWB⟩ ⟨eC, hx⟩
              subst HC
              rw [List.getElem?_map] at hx
              obtain ⟨u, hu2, rfl⟩ := Option.map_eq_some_iff.mp hx
              have hu6 := htg u (List.mem_of_getElem? hu2)
              have dg := dget_tkv (kn.same sB).dc hu6 (rng_lt n4)
              refine ⟨_, rfl, _, rfl, kd, _, rfl, dg, _, rfl, ?_⟩
              by_cases hun : u < N.n
              · rw [if_pos (List.mem_range.mpr hun)]
                obtain ⟨o, z, dg2, ez⟩ := hLB.get hun n4
                obtain ⟨o2, dp, hL2⟩ := hLB.put hun n4 (z + 1)
                refine iteT ⟨_, rfl, L, rfl, .inl (let ⟨is, g, _, _, e⟩ := hLB; ⟨_, .inl e⟩), _, rfl, o, dg2, ?_⟩
                rw [ez]
                exact ⟨_, _, rfl, rfl, _, rfl, _, rfl, L, _, rfl, dp, _, rfl, same_out sB hL0, PLat.ne (H' := H) hPB nPL, hL2, (upd_ne nWL).trans hWB⟩
              · rw [if_neg fun z => hun (List.mem_range.mp z)]
                exact iteF ⟨_, rfl, sB, hPB, hLB, hWB⟩
            · rintro σ HB ⟨u14, rfl, sB, hPB, hLB, hWB⟩
              refine ⟨_, rfl, _, _, rfl, rfl, _, rfl, _, _, rfl, rfl, _, _, rfl, ⟨pv + 1, lf - 1, _, rfl, sB, hPB, hLB, hWB⟩, ?_⟩
              show ((ps1.length : Int) - ((pv : Int) + 1)).toNat < ((ps1.length : Int) - (pv : Int)).toNat
              omega
        case' b => refine iteF ?_
        all_goals
          clear hP9 hL9 hW9 s9 epl
          have q2A := sA _ _ q2
          have q1A := sA _ _ q1
          refine ⟨_, rfl, _, rfl, c2, _, rfl, .inr (SqT.of q2A), _, _, rfl, rfl, ⟨hq2, hs2⟩, _, rfl, .inl ⟨_, rfl, _, rfl, c2, _, rfl, .inr (SqT.of q2A), _, _, rfl, rfl, hq2, _, _, rfl, ?_⟩⟩
          refine ⟨_, rfl, _, rfl, c1, _, rfl, .inr (SqT.of q1A), _, _, rfl, rfl, _, _, rfl, ?_⟩
          refine ⟨_, rfl, c2, ps2, rfl, SqT.of q2A, for_it walk_enumG (fun j σ H' => ∃ (v14 v18 v19 v20 : Option V), σ = [some (.ref kd), some (.ref st), some (.ref wt), some (.int (most : Int)), some (.ref PP), some (.ref W), some (.int (fnd + 1)), some (.ref L), some (.str (tg t)), some (.int (g t)), some (.ref c1), some (.ref c2), some (.int (pv : Int)), some (.int lf), v14, some (.int (lf / (ps2.length : Int))), some (.int (lf % (ps2.length : Int))), some (.int (if (0 : Int) > (pv : Int) - (ps1.length : Int) then 0 else (pv : Int) - (ps1.length : Int))), v18, v19, v20] ∧ Same H H' ∧ PLat H' PP N.n ∧ OKd H' L N.n ∧ H' W = some (.frz od (.dK (ikv is g))))
            ⟨_, _, _, _, rfl, sA, hPA, hLA, hWA⟩ (fun i σ H' _ p => ?_) ?_ ?_⟩
          · obtain ⟨_, _, _, _, _, s9, _⟩ := p
            exact SqT.of (s9 _ _ q2)
          · rintro j x σ HB HC hj ⟨u14, u18, u19, u20, rfl, sB, hPB, hLB, hWB⟩ ⟨T8, x8, rfl, hT8, rfl, hx8⟩
            obtain ⟨dr, hdr, bb, rfl, hbb⟩ := paired_at p2 hx8
            have htg : ∀ u ∈ dr, u < 6 := fun u hu => by
              have := (G.tg t htn dr (List.mem_append.mpr (.inr (List.mem_of_getElem? hdr)))).2 u hu
              omega
            have sC := same_upd sB (o := .tup [.int (j : Nat), .ref bb]) hT8
            have sT := same_upd0 (o := .tup [.int (j : Nat), .ref bb]) hT8
            have hPC := hPB.same sT
            have hLC := hLB.same sT
            have hWC := sT _ _ hWB
            refine ⟨T8, _, rfl, SqT.of upd_same, rfl, _, _, rfl, _, _, rfl, rfl, ?_⟩
            generalize upd HB T8 (.tup [.int (j : Nat), .ref bb]) = HC at sC hPC hLC hWC ⊢
            refine ⟨_, rfl, _, rfl, _, rfl, _, _, rfl, rfl, .inl ⟨_, rfl, _, rfl, c2, _, rfl, .inr (SqT.of (sC _ _ q2)), _, _, rfl, rfl, hq2, _, rfl, _, _, rfl, rfl, _, rfl, ite2 (fun c => ⟨_, _, rfl, rfl, ?_⟩) (fun c => ⟨_, _, rfl, rfl, ?_⟩)⟩⟩
            all_goals
              refine ⟨_, rfl, bb, rfl, ⟨_, SqT.of (sC _ _ hbb)⟩, for_it (walk_tup (xs := dr.map fun t => .str (tg t))) (fun j2 σ H' => ∃ (v14 : Option V) (z : Int), σ = [some (.ref kd), some (.ref st), some (.ref wt), some (.int (most : Int)), some (.ref PP), some (.ref W), some (.int (fnd + 1)), some (.ref L), some (.str (tg t)), some (.int (g t)), some (.ref c1), some (.ref c2), some (.int (pv : Int)), some (.int lf), v14, some (.int (lf / (ps2.length : Int))), some (.int (lf % (ps2.length : Int))), some (.int (if (0 : Int) > (pv : Int) - (ps1.length : Int) then 0 else (pv : Int) - (ps1.length : Int))), some (.int (j : Nat)), some (.ref bb), some (.int z)] ∧ Same H H' ∧ PLat H' PP N.n ∧ OKd H' L N.n ∧ H' W = some (.frz od (.dK (ikv is g))))
                ⟨_, _, rfl, sC, hPC, hLC, hWC⟩ (fun i σ H' _ p => ?_) ?_ ?_⟩
              · obtain ⟨_, _, _, s9, _⟩ := p
                exact SqT.of (s9 _ _ hbb)
              · rintro j2 x σ HB HC hj ⟨u14, zz, rfl, sB, hPB, hLB, hWB⟩ ⟨eC, hx⟩
                subst HC
                rw [List.getElem?_map] at hx
                obtain ⟨u, hu2, rfl⟩ := Option.map_eq_some_iff.mp hx
                have hu6 := htg u (List.mem_of_getElem? hu2)
                have dg := dget_tkv (kn.same sB).dc hu6 (rng_lt n4)
                refine ⟨_, rfl, _, rfl, kd, _, rfl, dg, _, rfl, ?_⟩
                by_cases hun : u < N.n
                · rw [if_pos (List.mem_range.mpr hun)]
                  obtain ⟨o, z, dg2, ez⟩ := hLB.get hun n4
                  obtain ⟨o2, dp, hL2⟩ := hLB.put hun n4 (z + zz)
                  refine iteT ⟨_, rfl, L, rfl, .inl (let ⟨is, g, _, _, e⟩ := hLB; ⟨_, .inl e⟩), _, rfl, o, dg2, ?_⟩
                  rw [ez]
                  exact ⟨_, rfl, _, _, rfl, rfl, _, rfl, _, rfl, L, _, rfl, dp, _, _, rfl, same_out sB hL0, PLat.ne (H' := H) hPB nPL, hL2, (upd_ne nWL).trans hWB⟩
                · rw [if_neg fun z => hun (List.mem_range.mp z)]
                  exact iteF ⟨_, _, rfl, sB, hPB, hLB, hWB⟩
              · rintro σ HB ⟨u14, zz, rfl, sB, hPB, hLB, hWB⟩
                exact ⟨_, _, _, _, rfl, sB, hPB, hLB, hWB⟩
          · rintro σ HB ⟨u14, u18, u19, u20, rfl, sB, hPB, hLB, hWB⟩
            have q2B := sB _ _ q2
            have q1B := sB _ _ q1
            have fin : ∀ z : Nat, ∃ o, DPut HB PP (.str (tg t)) (.int (z : Int)) (upd HB PP o) ∧ Same H (upd HB PP o) ∧ PLat (upd HB PP o) PP N.n ∧ OKd (upd HB PP o) L N.n ∧ upd HB PP o W = some (.frz od (.dK (ikv is g))) := fun z =>
              let ⟨o, h1, h2⟩ := hPB.put htn n4 z
              ⟨o, h1, same_out sB hP0, h2, OKd.ne (H' := H) hLB (Ne.symm nPL), (upd_ne (Ne.symm nPW)).trans hWB⟩
            refine ⟨_, rfl, _, rfl, c1, _, rfl, .inr (SqT.of q1B), _, _, rfl, rfl, _, rfl, ite2 (fun c => ?_) (fun c => ?_)⟩
            · obtain ⟨o, dp, f1, f2, f3, f4⟩ := fin pv
              exact ⟨_, rfl, _, rfl, _, rfl, PP, _, rfl, dp, _, _, _, _, _, _, _, _, _, _, _, _, _, rfl, f1, f2, f3, f4⟩
            · refine ⟨_, rfl, c1, _, rfl, .inr (SqT.of q1B), _, rfl, _, rfl, _, _, rfl, rfl, .inl ⟨_, rfl, _, rfl, c2, _, rfl, .inr (SqT.of q2B), _, _, rfl, rfl, hq2, _, _, rfl, rfl, ?_⟩⟩
              obtain ⟨zz, hzz⟩ : ∃ zz : Int, zz = (ps1.length : Int) + ((if (0 : Int) > (pv : Int) - (ps1.length : Int) then 0 else (pv : Int) - (ps1.length : Int)) + lf) % (ps2.length : Int) := ⟨_, rfl⟩
              have hz0 : 0 ≤ zz := by
                have := Int.emod_nonneg ((if (0 : Int) > (pv : Int) - (ps1.length : Int) then 0 else (pv : Int) - (ps1.length : Int)) + lf) (show (ps2.length : Int) ≠ 0 by omega)
                omega
              obtain ⟨zn, hzn⟩ := Int.eq_ofNat_of_zero_le hz0
              obtain ⟨o, dp, f1, f2, f3, f4⟩ := fin zn
              rw [← hzn, hzz] at dp
              exact ⟨_, rfl, _, rfl, PP, _, rfl, dp, _, _, _, _, _, _, _, _, _, _, _, _, _, rfl, f1, f2, f3, f4⟩
      · intro σ H Q Q' h
        rintro ⟨v, e, x, y, ex, ey, b, eb, k⟩
        refine ⟨v, e, x, y, ex, ey, b, eb, ?_⟩
        cases b with
        | false => exact h _ _ k
        | true =>
          obtain ⟨v, e, v2, e2, a, xs, ea, sq, x, y, ex, ey, b, eb, k⟩ := k
          exact ⟨v, e, v2, e2, a, xs, ea, sq, x, y, ex, ey, b, eb, h _ _ k⟩
    · rintro σ H8 ⟨v8, v9, v10, v11, v12, v13, v14, v15, v16, v17, v18, v19, v20, rfl, s8, hP8, hL8, hW8⟩
      refine ⟨hW8, ?_⟩
      refine ⟨_, rfl, ⟨L, fnd + 1, _, _, _, _, _, _, _, _, _, _, _, _, _, _, rfl, same_out s8 hW0, PLat.ne (H' := H) hP8 nPW, OKd.ne (H' := H) hL8 (Ne.symm nWL), hL0, nPL⟩, ?_⟩
      show ((most : Int) + 1 - (fnd + 1)).toNat < ((most : Int) + 1 - fnd).toNat
      omega
end
end Bal
set_option autoImplicit true
set_option Elab.async false
set_option linter.all false
set_option maxRecDepth 100000
set_option maxHeartbeats 4000000
/-! W26: whether the law's net is quick (a truth value). -/
namespace Bal
open PySem L2
/-- pairs of names and values, in a list -/
def PairsL (H : Hp) (D : Addr) (kvs : List (Key × V)) : Prop := ∃ ps : List Addr, H D = some (.lst (ps.map V.ref)) ∧ Paired (fun p kv => H p = some (.tup [kV kv.1, kv.2])) ps kvs
theorem PairsL.snoc {H : Hp} {D T : Addr} {kvs : List (Key × V)} {k : Key} {x : V} (h : PairsL H D kvs) (hT : H T = some (.tup [kV k, x])) : ∃ acc, H D = some (.lst acc) ∧ acc.length = kvs.length ∧ PairsL (upd H D (.lst (acc ++ [.ref T]))) D (kvs ++ [(k, x)]) := by
  obtain ⟨ps, e, p⟩ := h
  have sT : SameT H (upd H D (.lst (ps.map V.ref ++ [.ref T]))) := SameT.upd e (by intro _ z; cases z)
  refine ⟨_, e, by rw [List.length_map, p.length], ps ++ [T], ?_, paired_snoc (Paired.mapP p fun _ _ z => sT _ _ z) (sT _ _ hT)⟩
  rw [upd_same, List.map_append]
  rfl
theorem PairsL.same {H H' : Hp} (s : Same H H') {D : Addr} {kvs : List (Key × V)} (h : PairsL H D kvs) : PairsL H' D kvs := let ⟨ps, e, p⟩ := h; ⟨ps, s _ _ e, Paired.mapP p fun _ _ z => s _ _ z⟩
theorem tkv_snoc {i : Nat} {v : Nat → V} : tkv (List.range (i + 1)) v = tkv (List.range i) v ++ [(Sum.inr (tg i), v i)] := by
  unfold tkv
  rw [List.range_succ, List.map_append]
  rfl
section
variable {P : Program} {w : World} {K : PySem.W.Frag} {mg : Str → Option Value} {base : Heap} {CN CB CS : Addr}
def spQuick : Sp := fun vs H Q _ => ∃ N kd v, vs = [.ref kd] ∧ KnotsAt H N kd v ∧ N.Good ∧ ∀ b H', Same H H' → Q (.bl b) H'
theorem sc_l_is_quick : FnScope ["_law_knots_here", "_law_start", "_law_last", "_law_standing", "_law_many", "_law_waits", "_law_name", "_law_waiting"] ["_law_knots_here"] (defScope s_l_is_quick) := ⟨rfl, rfl, rfl, by decide +kernel, rfl, by decide +kernel, by decide +kernel⟩
theorem ok_quick {f : Addr} {fd : FuncData} (F : Fun K "_law_is_quick" "_law_is_quick" s_l_is_quick f fd) (T : Txt K mg CN CB CS) (G_l_rounds_for : FnG P w K mg base CX0 1 "_law_rounds_for" spRounds []) : FnOk P w K mg base CX0 2 f fd ["_law_knots_here"] spQuick := by
  refine F.ok sc_l_is_quick (fun vs H Q E h => ?_) (fun cdv A outer s H vs Q E hr h => ?_)
  · obtain ⟨N, kd, v, rfl, _⟩ := h
    rfl
  · obtain ⟨N, kd, v, rfl, kn, G, kq⟩ := h
    have hu := hu_of hr
    have n4 := G.n4
    have n1 := G.n1
    refine ⟨_, (pss_cons (ps_set (i := 1) sc_l_is_quick.nd rfl (by first | exact Or.inl rfl | exact Or.inr rfl) (pe_callTy (call_dictP rfl) (by rfl) T.dict (by decide +kernel) (pa_cons (pe_lc (own := [("_law_name", 6)]) rfl sc_l_is_quick.nd (pi_list (pe_callB cr_sortedS (by rfl) T.sorted (by decide +kernel) (pa_cons (pe_callTy (call_listD rfl) (by rfl) T.list (by decide +kernel) (pa_cons (pv 0) pa_nil)) pa_nil))) (blkOk_by (by kernel_rfl)) (fun _ _ _ _ _ => (pg_name (i := 6) sc_l_is_quick.nd rfl (by first | exact Or.inl rfl | exact Or.inr rfl))) (fun _ _ _ _ _ => pts_nil) (fun _ _ _ _ _ => (by exact (pe_tup (pa_cons (pv 6) (pa_cons pe_int pa_nil)))))) pa_nil)))
  (pss_cons (ps_set (i := 2) sc_l_is_quick.nd rfl (by first | exact Or.inl rfl | exact Or.inr rfl) (pe_callTy (call_dictP rfl) (by rfl) T.dict (by decide +kernel) (pa_cons (pe_lc (own := [("_law_name", 6)]) rfl sc_l_is_quick.nd (pi_list (pe_callB cr_sortedS (by rfl) T.sorted (by decide +kernel) (pa_cons (pe_callTy (call_listD rfl) (by rfl) T.list (by decide +kernel) (pa_cons (pv 0) pa_nil)) pa_nil))) (blkOk_by (by kernel_rfl)) (fun _ _ _ _ _ => (pg_name (i := 6) sc_l_is_quick.nd rfl (by first | exact Or.inl rfl | exact Or.inr rfl))) (fun _ _ _ _ _ => pts_nil) (fun _ _ _ _ _ => (by exact (pe_tup (pa_cons (pv 6) (pa_cons (by exact (pe_op op_sub (by exact (pe_op op_add (by exact (pe_callB (call_lenK (K := K) (by rfl)) (by rfl) T.len (by decide +kernel) (pa_cons (by exact (pe_ix (ix_tupK (K := K) (by rfl)) (by exact (pe_dget hu (pv 0) (pv 6) (fun _ _ => rfl))) pe_int (fun _ _ => rfl))) pa_nil))) (by exact (pe_callB (call_lenK (K := K) (by rfl)) (by rfl) T.len (by decide +kernel) (pa_cons (by exact (pe_ix (ix_tupK (K := K) (by rfl)) (by exact (pe_dget hu (pv 0) (pv 6) (fun _ _ => rfl))) pe_int (fun _ _ => rfl))) pa_nil))))) pe_int)) pa_nil)))))) pa_nil)))
  (pss_cons (ps_for PassesOwn.never rfl (pi_tup (pe_tup (pa_cons (pv 1) (pa_cons (pv 2) pa_nil)))) (pg_name (i := 3) sc_l_is_quick.nd rfl (by first | exact Or.inl rfl | exact Or.inr rfl))
  (pss_one (ps_for PassesOwn.never rfl (pi_tup (pe_tup (pa_cons pe_int (pa_cons pe_int (pa_cons (pe_op op_pow pe_int pe_int) pa_nil))))) (pg_name (i := 4) sc_l_is_quick.nd rfl (by first | exact Or.inl rfl | exact Or.inr rfl))
  (pss_cons (ps_set (i := 5) sc_l_is_quick.nd rfl (by first | exact Or.inl rfl | exact Or.inr rfl) (pe_op op_cat (pe_lc (own := [("_law_name", 6)]) rfl sc_l_is_quick.nd (pi_list (pe_callB cr_sortedS (by rfl) T.sorted (by decide +kernel) (pa_cons (pe_callTy (call_listD rfl) (by rfl) T.list (by decide +kernel) (pa_cons (pv 0) pa_nil)) pa_nil))) (blkOk_by (by kernel_rfl)) (fun _ _ _ _ _ => (pg_name (i := 6) sc_l_is_quick.nd rfl (by first | exact Or.inl rfl | exact Or.inr rfl))) (fun _ _ _ _ _ => pts_nil) (fun _ _ _ _ _ => (by exact (pe_disp (pps_cons (pv 6) (pv 4) pps_nil) (by rfl) (by rfl) (fun z => by cases z) (by decide))))) (pe_lst (pa_cons (pe_callTy (call_dictP rfl) (by rfl) T.dict (by decide +kernel) (pa_cons (pe_lc (own := [("_law_name", 6)]) rfl sc_l_is_quick.nd (pi_list (pe_callB cr_sortedS (by rfl) T.sorted (by decide +kernel) (pa_cons (pe_callTy (call_listD rfl) (by rfl) T.list (by decide +kernel) (pa_cons (pv 0) pa_nil)) pa_nil))) (blkOk_by (by kernel_rfl)) (fun _ _ _ _ _ => (pg_name (i := 6) sc_l_is_quick.nd rfl (by first | exact Or.inl rfl | exact Or.inr rfl))) (fun _ _ _ _ _ => pts_nil) (fun _ _ _ _ _ => (by exact (pe_tup (pa_cons (pv 6) (pa_cons (pv 4) pa_nil)))))) pa_nil)) pa_nil))))
  (pss_one (ps_if (pt_val (pe_callB (cr_any rfl) (by rfl) T.any (by decide +kernel) (pa_cons (pe_lc (own := [("_law_waiting", 7)]) rfl sc_l_is_quick.nd (pi_list (pv 5)) (blkOk_by (by kernel_rfl)) (fun _ _ _ _ _ => (pg_name (i := 7) sc_l_is_quick.nd rfl (by first | exact Or.inl rfl | exact Or.inr rfl))) (fun _ _ _ _ _ => pts_nil) (fun _ _ _ _ _ => (by exact (pe_cmp (pc_isN (by exact (pe_f G_l_rounds_for hr (by decide) (by rfl) pass0 (pa_cons (pv 0) (pa_cons (pv 3) (pa_cons (pv 7) (pa_cons pe_int pa_nil))))))) rfl)))) pa_nil))) (pss_one (ps_ret pe_bl)) pss_nil))))))
  (pss_one (ps_ret pe_bl))))), ?_⟩
    have eV : (((List.range N.n).map tg).map V.str) = namesV N.n := by
      rw [List.map_map]
      rfl
    have em : ∀ v : Nat → V, mergeK [] (tkv (List.range N.n) v) = tkv (List.range N.n) v := fun v => merge_self (tkv_nd List.nodup_range (rng_lt n4))
    have small : ∀ {i : Nat} {v : Nat → V}, i < (namesV N.n).length → (tkv (List.range i) v).length < sizeLine := fun {i v} h => by
      rw [names_len] at h
      rw [tkv_len, List.length_range]
      exact Nat.lt_of_lt_of_le h (Nat.le_trans n4 (by decide))
    -- start
    refine ⟨_, rfl, kd, _, rfl, .inl (kn).dc, fun l hl => ⟨l, (List.range N.n).map tg, rfl, SqL.of (by rw [upd_same, keys_tkv, List.map_map]; rfl), by rw [List.length_map, List.length_range]; omega, fun ys q perm srt hqn => ?_⟩⟩
    have eys : ys = (List.range N.n).map tg := sorted_uniq perm (sorted_rng _ (by omega)) srt
    subst eys
    rw [eV]
    have s1 := same_upd (same_upd0 hl) (o := .lst (namesV N.n)) hqn
    have hq : (upd (upd H l (.lst ((tkv (List.range N.n) v).map fun kv => kV kv.1))) q (.lst (namesV N.n))) q = some (.lst (namesV N.n)) := upd_same
    generalize upd (upd H l (.lst ((tkv (List.range N.n) v).map fun kv => kV kv.1))) q (.lst (namesV N.n)) = H1 at s1 hq ⊢
    clear hqn hl perm srt
    refine ⟨q, rfl, ⟨_, SqL.of hq⟩, fun D hD => lc_it (walk_list (xs := namesV N.n)) (fun i H' => Same H1 H' ∧ PairsL H' D (tkv (List.range i) fun _ => .int 0)) ⟨same_upd0 hD, [], upd_same, .nil⟩ (fun i H' _ p => SqL.of (p.1 _ _ hq)) ?_ ?_⟩
    · rintro i x H2 H3 hi ⟨s2, p2⟩ ⟨e3, hx⟩
      subst H3
      obtain ⟨hin, rfl⟩ := names_at hx
      refine ⟨rfl, _, rfl, by show 2 ≤ sizeLine; decide, fun T9 hT => ?_⟩
      have sT := same_upd0 (o := .tup [.str (tg i), .int 0]) hT
      obtain ⟨acc, h1, h2, h3⟩ := (p2.same sT).snoc (k := Sum.inr (tg i)) (x := .int 0) (T := T9) upd_same
      refine ⟨acc, h1, by rw [h2]; exact small hi, same_out (fun b o e => sT _ _ (s2 _ _ e)) hD, ?_⟩
      rw [tkv_snoc]
      exact h3
    rintro H2 ⟨s2, ps, hD2, hps⟩
    rw [names_len] at hps
    refine ⟨D, ps, _, rfl, SqL.of hD2, Paired.mapP hps fun _ _ z => SqT.of z, fun St hSt => ?_⟩
    rw [em]
    have t2 : Same H H2 := fun b o e => s2 _ _ (s1 _ _ e)
    have t3 := same_upd t2 (o := .dK (tkv (List.range N.n) fun _ => .int 0)) hSt
    have hS3 : PLat (upd H2 St (.dK (tkv (List.range N.n) fun _ => .int 0))) St N.n := ⟨fun _ => 0, upd_same⟩
    generalize upd H2 St (.dK (tkv (List.range N.n) fun _ => .int 0)) = H3 at t3 hS3 ⊢
    clear hSt hps hD2 s2 t2 hD hq s1
    -- last
    refine ⟨_, rfl, kd, _, rfl, .inl (kn.same t3).dc, fun l hl => ⟨l, (List.range N.n).map tg, rfl, SqL.of (by rw [upd_same, keys_tkv, List.map_map]; rfl), by rw [List.length_map, List.length_range]; omega, fun ys q perm srt hqn => ?_⟩⟩
    have eys : ys = (List.range N.n).map tg := sorted_uniq perm (sorted_rng _ (by omega)) srt
    subst eys
    rw [eV]
    have s4 := same_upd (same_upd0 hl) (o := .lst (namesV N.n)) hqn
    have hq : (upd (upd H3 l (.lst ((tkv (List.range N.n) v).map fun kv => kV kv.1))) q (.lst (namesV N.n))) q = some (.lst (namesV N.n)) := upd_same
    generalize upd (upd H3 l (.lst ((tkv (List.range N.n) v).map fun kv => kV kv.1))) q (.lst (namesV N.n)) = H4 at s4 hq ⊢
    clear hqn hl perm srt
    have t4 : Same H H4 := fun b o e => s4 _ _ (t3 _ _ e)
    refine ⟨q, rfl, ⟨_, SqL.of hq⟩, fun D hD => lc_it (walk_list (xs := namesV N.n)) (fun i H' => Same H4 H' ∧ PairsL H' D (tkv (List.range i) fun i => .int ((N.f i + N.q i - 1 : Nat) : Int))) ⟨same_upd0 hD, [], upd_same, .nil⟩ (fun i H' _ p => SqL.of (p.1 _ _ hq)) ?_ ?_⟩
    · rintro i x H5 H6 hi ⟨s5, p5⟩ ⟨e6, hx⟩
      subst H6
      obtain ⟨hin, rfl⟩ := names_at hx
      have t5 : Same H H5 := fun b o e => s5 _ _ (t4 _ _ e)
      have kn5 := kn.same t5
      obtain ⟨b, _, _, e, q4, ⟨c1, ps1, rfl, q1, p1⟩, ⟨c2, ps2, rfl, q2, p2⟩⟩ := kn5.kn i hin
      have hl1 : ps1.length = N.f i := p1.length
      have hl2 : ps2.length = N.q i := p2.length
      have hq1 : 1 ≤ N.q i := G.tu1 i hin
      refine ⟨rfl, _, rfl, _, rfl, _, rfl, kd, _, rfl, dget_in kn5.dc (List.mem_range.mpr hin) (rng_lt n4), b, _, _, _, e, rfl, SqT.of q4, rfl, c1, ps1, rfl, .inr (SqT.of q1), ?_⟩
      refine ⟨_, rfl, _, rfl, kd, _, rfl, dget_in kn5.dc (List.mem_range.mpr hin) (rng_lt n4), b, _, _, _, e, rfl, SqT.of q4, rfl, c2, ps2, rfl, .inr (SqT.of q2), _, _, rfl, rfl, _, _, rfl, rfl, by show 2 ≤ sizeLine; decide, fun T9 hT => ?_⟩
      have ez : (ps1.length : Int) + (ps2.length : Int) - 1 = ((N.f i + N.q i - 1 : Nat) : Int) := by omega
      have key : ∀ (z : Int) (T9 : Addr), z = ((N.f i + N.q i - 1 : Nat) : Int) → H5 T9 = none → ∃ acc, (upd H5 T9 (.tup [.str (tg i), .int z])) D = some (.lst acc) ∧ acc.length < sizeLine ∧ Same H4 (upd (upd H5 T9 (.tup [.str (tg i), .int z])) D (.lst (acc ++ [.ref T9]))) ∧ PairsL (upd (upd H5 T9 (.tup [.str (tg i), .int z])) D (.lst (acc ++ [.ref T9]))) D (tkv (List.range (i + 1)) fun i => .int ((N.f i + N.q i - 1 : Nat) : Int)) := by
        rintro z T9 rfl hT
        have sT := same_upd0 (o := .tup [.str (tg i), .int ((N.f i + N.q i - 1 : Nat) : Int)]) hT
        obtain ⟨acc, h1, h2, h3⟩ := (p5.same sT).snoc (k := Sum.inr (tg i)) (x := .int ((N.f i + N.q i - 1 : Nat) : Int)) (T := T9) upd_same
        refine ⟨acc, h1, by rw [h2]; exact small hi, same_out (fun b o e => sT _ _ (s5 _ _ e)) hD, ?_⟩
        rw [tkv_snoc]
        exact h3
      exact key _ T9 ez hT
    rintro H5 ⟨s5, ps, hD5, hps⟩
    rw [names_len] at hps
    refine ⟨D, ps, _, rfl, SqL.of hD5, Paired.mapP hps fun _ _ z => SqT.of z, fun La hLa => ?_⟩
    rw [em]
    have s6 := same_upd (fun b o e => s5 _ _ (s4 _ _ e) : Same H3 H5) (o := .dK (tkv (List.range N.n) fun i => .int ((N.f i + N.q i - 1 : Nat) : Int))) hLa
    have t6 : Same H _ := fun b o e => s6 _ _ (t3 _ _ e)
    have hS6 := hS3.same s6
    have hL6 : PLat (upd H5 La (.dK (tkv (List.range N.n) fun i => .int ((N.f i + N.q i - 1 : Nat) : Int)))) La N.n := ⟨fun i => N.f i + N.q i - 1, upd_same⟩
    generalize upd H5 La (.dK (tkv (List.range N.n) fun i => .int ((N.f i + N.q i - 1 : Nat) : Int))) = H6 at t6 hS6 hL6 ⊢
    clear s6 hLa hps hD5 s5 t4 hD hq s4 hS3 t3
    -- from two standings
    refine ⟨_, rfl, _, rfl, by show 2 ≤ sizeLine; decide, fun TS hTS => ⟨TS, rfl, ⟨_, SqT.of upd_same⟩, for_it (walk_tup (xs := [.ref St, .ref La])) (fun i σ H' => ∃ (v3 v4 v5 : Option V), σ = [some (.ref kd), some (.ref St), some (.ref La), v3, v4, v5, none, none] ∧ Same (upd H6 TS (.tup [.ref St, .ref La])) H') ⟨_, _, _, rfl, Same.refl _⟩ (fun i σ H' _ p => ?_) ?_ ?_⟩⟩
    · obtain ⟨_, _, _, _, s7⟩ := p
      exact SqT.of (s7 _ _ upd_same)
    · rintro i x σ H7 H8 hi ⟨v3, v4, v5, rfl, s7⟩ ⟨e8, hx⟩
      subst H8
      have s67 : Same H6 H7 := fun b o e => s7 _ _ (same_upd0 hTS _ _ e)
      obtain ⟨sa, rfl, hsa⟩ : ∃ sa, x = .ref sa ∧ PLat H7 sa N.n := by
        match i, hi with
        | 0, _ => cases hx; exact ⟨St, rfl, hS6.same s67⟩
        | 1, _ => cases hx; exact ⟨La, rfl, hL6.same s67⟩
      have t7 : Same H H7 := fun b o e => s67 _ _ (t6 _ _ e)
      refine ⟨_, _, rfl, rfl, ⟨by decide, by decide, by decide⟩, by show 3 ≤ sizeLine; decide, fun TM hTM => ?_⟩
      have sM := same_upd0 (o := .tup [.int 1, .int 200, .int ((10 : Int) ^ (34 : Int).toNat)]) hTM
      have hTM8 : (upd H7 TM (.tup [.int 1, .int 200, .int ((10 : Int) ^ (34 : Int).toNat)])) TM = some (.tup [.int 1, .int 200, .int ((10 : Int) ^ (34 : Int).toNat)]) := upd_same
      have hsa8 := hsa.same sM
      have s8 : Same (upd H6 TS (.tup [.ref St, .ref La])) (upd H7 TM (.tup [.int 1, .int 200, .int ((10 : Int) ^ (34 : Int).toNat)])) := fun b o e => sM _ _ (s7 _ _ e)
      have t8 : Same H (upd H7 TM (.tup [.int 1, .int 200, .int ((10 : Int) ^ (34 : Int).toNat)])) := fun b o e => sM _ _ (t7 _ _ e)
      show ∃ a, V.ref TM = V.ref a ∧ _
      refine ⟨TM, rfl, ⟨[.int 1, .int 200, .int ((10 : Int) ^ (34 : Int).toNat)], SqT.of hTM8⟩, for_it (walk_tup (xs := [.int 1, .int 200, .int ((10 : Int) ^ (34 : Int).toNat)])) (fun i σ H' => ∃ (v4 v5 : Option V), σ = [some (.ref kd), some (.ref St), some (.ref La), some (.ref sa), v4, v5, none, none] ∧ Same (upd H7 TM (.tup [.int 1, .int 200, .int ((10 : Int) ^ (34 : Int).toNat)])) H') ⟨_, _, rfl, Same.refl _⟩ (fun i σ H' _ p => ?_) ?_ ?_⟩
      · obtain ⟨_, _, _, s9⟩ := p
        exact SqT.of (s9 _ _ hTM8)
      · rintro j x σ H8 H9 hj ⟨v4, v5, rfl, s9⟩ ⟨e9, hx⟩
        subst H9
        obtain ⟨z, rfl⟩ : ∃ z, x = V.int z := by
          match j, hj with
          | 0, _ => cases hx; exact ⟨_, rfl⟩
          | 1, _ => cases hx; exact ⟨_, rfl⟩
          | 2, _ => cases hx; exact ⟨_, rfl⟩
        have t9 : Same H H8 := fun b o e => s9 _ _ (t8 _ _ e)
        have hsa9 := hsa8.same s9
        refine ⟨_, rfl, kd, _, rfl, .inl (kn.same t9).dc, fun l hl => ⟨l, (List.range N.n).map tg, rfl, SqL.of (by rw [upd_same, keys_tkv, List.map_map]; rfl), by rw [List.length_map, List.length_range]; omega, fun ys q perm srt hqn => ?_⟩⟩
        have eys : ys = (List.range N.n).map tg := sorted_uniq perm (sorted_rng _ (by omega)) srt
        subst eys
        rw [eV]
        have sA := same_upd (same_upd0 hl) (o := .lst (namesV N.n)) hqn
        have hq : (upd (upd H8 l (.lst ((tkv (List.range N.n) v).map fun kv => kV kv.1))) q (.lst (namesV N.n))) q = some (.lst (namesV N.n)) := upd_same
        generalize upd (upd H8 l (.lst ((tkv (List.range N.n) v).map fun kv => kV kv.1))) q (.lst (namesV N.n)) = HA at sA hq ⊢
        clear hqn hl perm srt
        refine ⟨q, rfl, ⟨_, SqL.of hq⟩, fun D hD => lc_it (walk_list (xs := namesV N.n)) (fun i H' => Same HA H' ∧ ∃ ps : List Addr, ps.length = i ∧ H' D = some (.lst (ps.map V.ref)) ∧ ∀ p ∈ ps, OKd H' p N.n) ⟨same_upd0 hD, [], rfl, upd_same, fun _ h => nomatch h⟩ (fun i H' _ p => SqL.of (p.1 _ _ hq)) ?_ ?_⟩
        · rintro i x HB HC hi ⟨sB, ps, hpl, hDB, hpo⟩ ⟨eC, hx⟩
          subst HC
          obtain ⟨hin, rfl⟩ := names_at hx
          refine ⟨rfl, fun p hp => ⟨_, rfl, _, rfl, upd_same, [(Sum.inr (tg i), .int z)], rfl, by show 1 ≤ 15; decide, ?_⟩⟩
          rw [upd_upd]
          have sp := same_upd0 (o := .dK (mergeK [] [((Sum.inr (tg i) : Key), V.int z)])) hp
          have nDp : D ≠ p := ne_of_none hDB hp
          refine ⟨_, sp _ _ hDB, by rw [List.length_map, hpl]; exact Nat.lt_of_lt_of_le hin (Nat.le_trans n4 (by decide)), same_out (fun b o e => sp _ _ (sB _ _ e)) hD, ps ++ [p], by rw [List.length_append, hpl]; rfl, by rw [upd_same, List.map_append]; rfl, fun p' hp' => ?_⟩
          rcases List.mem_append.mp hp' with h | h
          · obtain ⟨is, g, h1, h2, h3⟩ := hpo p' h
            exact ⟨is, g, h1, h2, (upd_ne (ne_of h3 hDB (by intro z; cases z))).trans (sp _ _ h3)⟩
          · rw [List.mem_singleton.mp h]
            exact ⟨[i], fun _ => z, by simp, fun j hj => by rw [List.mem_singleton.mp hj]; exact hin, (upd_ne (Ne.symm nDp)).trans upd_same⟩
        rintro HB ⟨sB, ps, hpl, hDB, hpo⟩
        rw [names_len] at hpl
        have tB : Same H HB := fun b o e => sB _ _ (sA _ _ (t9 _ _ e))
        have sB8 : Same H8 HB := fun b o e => sB _ _ (sA _ _ e)
        clear hq
        refine ⟨_, rfl, kd, _, rfl, .inl (kn.same tB).dc, fun l hl => ⟨l, (List.range N.n).map tg, rfl, SqL.of (by rw [upd_same, keys_tkv, List.map_map]; rfl), by rw [List.length_map, List.length_range]; omega, fun ys q perm srt hqn => ?_⟩⟩
        have eys : ys = (List.range N.n).map tg := sorted_uniq perm (sorted_rng _ (by omega)) srt
        subst eys
        rw [eV]
        have sC := same_upd (same_upd0 hl) (o := .lst (namesV N.n)) hqn
        have hq : (upd (upd HB l (.lst ((tkv (List.range N.n) v).map fun kv => kV kv.1))) q (.lst (namesV N.n))) q = some (.lst (namesV N.n)) := upd_same
        generalize upd (upd HB l (.lst ((tkv (List.range N.n) v).map fun kv => kV kv.1))) q (.lst (namesV N.n)) = HC at sC hq ⊢
        clear hqn hl perm srt
        refine ⟨q, rfl, ⟨_, SqL.of hq⟩, fun D2 hD2 => lc_it (walk_list (xs := namesV N.n)) (fun i H' => Same HC H' ∧ PairsL H' D2 (tkv (List.range i) fun _ => .int z)) ⟨same_upd0 hD2, [], upd_same, .nil⟩ (fun i H' _ p => SqL.of (p.1 _ _ hq)) ?_ ?_⟩
        · rintro i x H2 H3 hi ⟨s2, p2⟩ ⟨e3, hx⟩
          subst H3
          obtain ⟨hin, rfl⟩ := names_at hx
          refine ⟨rfl, _, rfl, _, rfl, by show 2 ≤ sizeLine; decide, fun T9 hT => ?_⟩
          have sT := same_upd0 (o := .tup [.str (tg i), .int z]) hT
          obtain ⟨acc, h1, h2, h3⟩ := (p2.same sT).snoc (k := Sum.inr (tg i)) (x := .int z) (T := T9) upd_same
          refine ⟨acc, h1, by rw [h2]; exact small hi, same_out (fun b o e => sT _ _ (s2 _ _ e)) hD2, ?_⟩
          rw [tkv_snoc]
          exact h3
        rintro HD ⟨sD, qs, hDD, hqs⟩
        rw [names_len] at hqs
        refine ⟨D2, qs, _, rfl, SqL.of hDD, Paired.mapP hqs fun _ _ z => SqT.of z, fun p hp => ?_⟩
        rw [em]
        have sE := same_upd0 (o := .dK (tkv (List.range N.n) fun _ => .int z)) hp
        have hpE : OKd (upd HD p (.dK (tkv (List.range N.n) fun _ => .int z))) p N.n := ⟨List.range N.n, fun _ => z, List.nodup_range, fun i hi => List.mem_range.mp hi, upd_same⟩
        generalize upd HD p (.dK (tkv (List.range N.n) fun _ => .int z)) = HE at sE hpE ⊢
        have sBE : Same HB HE := fun b o e => sE _ _ (sD _ _ (sC _ _ e))
        refine ⟨by show 1 ≤ sizeLine; decide, fun l hl => ⟨D, l, _, _, rfl, rfl, same_upd0 hl _ _ (sBE _ _ hDB), upd_same, ?_, fun WL hWL => ?_⟩⟩
        · rw [List.length_map, hpl]
          exact Nat.le_trans (show N.n + 1 ≤ 5 by omega) (by decide)
        have sF := same_upd (same_upd0 (o := .lst [.ref p]) hl) (o := .lst (ps.map V.ref ++ [.ref p])) hWL
        have hWF : (upd (upd HE l (.lst [.ref p])) WL (.lst (ps.map V.ref ++ [.ref p]))) WL = some (.lst ((ps ++ [p]).map V.ref)) := by rw [upd_same, List.map_append]; rfl
        generalize upd (upd HE l (.lst [.ref p])) WL (.lst (ps.map V.ref ++ [.ref p])) = HF at sF hWF ⊢
        have hok : ∀ p' ∈ ps ++ [p], OKd HF p' N.n := fun p' h => by
          rcases List.mem_append.mp h with h | h
          · exact (hpo p' h).same fun b o e => sF _ _ (sBE _ _ e)
          · rw [List.mem_singleton.mp h]; exact hpE.same sF
        have tF : Same H HF := fun b o e => sF _ _ (sBE _ _ (tB _ _ e))
        have s8F : Same H8 HF := fun b o e => sF _ _ (sBE _ _ (sB8 _ _ e))
        have hlen : (ps ++ [p]).length = N.n + 1 := by rw [List.length_append, hpl]; rfl
        clear hWL hl sE hpE hp hqs hDD sD hD2 hq sC sBE
        refine ⟨_, rfl, WL, rfl, ⟨_, SqL.of hWF⟩, fun DA hDA => lc_it (walk_list (xs := (ps ++ [p]).map V.ref)) (fun i H' => Same HF H' ∧ ∃ bs : List Bool, bs.length = i ∧ H' DA = some (.lst (bs.map V.bl))) ⟨same_upd0 hDA, [], rfl, upd_same⟩ (fun i H' _ p => SqL.of (p.1 _ _ hWF)) ?_ ?_⟩
        · rintro i x HG HI hi ⟨sG, bs, hbl, hDG⟩ ⟨eI, hx⟩
          subst HI
          rw [List.getElem?_map] at hx
          obtain ⟨p', hp', rfl⟩ := Option.map_eq_some_iff.mp hx
          have tG : Same H HG := fun b o e => sG _ _ (tF _ _ e)
          refine ⟨rfl, _, rfl, _, rfl, _, rfl, N, kd, v, sa, p', 2000, rfl, kn.same tG, G, hsa9.same (fun b o e => sG _ _ (s8F _ _ e)), (hok p' (List.mem_of_getElem? hp')).same sG, fun x HJ sJ hx => ?_⟩
          have hi : i < N.n + 1 := by
            have h := hi
            rw [List.length_map, hlen] at h
            exact h
          refine ⟨_, sJ _ _ hDG, by rw [List.length_map, hbl]; exact Nat.lt_of_lt_of_le hi (Nat.le_trans (show N.n + 1 ≤ 5 by omega) (by decide)), same_out (fun b o e => sJ _ _ (sG _ _ e)) hDA, bs ++ [decide (x = V.non)], by rw [List.length_append, hbl]; rfl, ?_⟩
          rw [upd_same, List.map_append]
          rfl
        · rintro HG ⟨sG, bs, hbl, hDG⟩
          refine ⟨DA, bs, rfl, SqL.of hDG, _, rfl, ite2 (fun _ => kq _ HG fun b o e => sG _ _ (tF _ _ e)) (fun _ => ⟨_, _, rfl, fun b o e => sG _ _ (s8F _ _ (s9 _ _ e))⟩)⟩
      · rintro σ H8 ⟨v4, v5, rfl, s9⟩
        exact ⟨_, _, _, rfl, fun b o e => s9 _ _ (s8 _ _ e)⟩
    · rintro σ H7 ⟨v3, v4, v5, rfl, s7⟩
      exact kq _ H7 fun b o e => s7 _ _ (same_upd0 hTS _ _ (t6 _ _ e))
end
end Bal
set_option autoImplicit true
set_option Elab.async false
set_option linter.all false
set_option maxRecDepth 100000
set_option maxHeartbeats 4000000
/-! W27: something asked that is refused. -/
namespace Bal
open PySem L2
section
variable {P : Program} {w : World} {K : PySem.W.Frag} {mg : Str → Option Value} {base : Heap} {CN CB CS : Addr} {er : Errs}
def spAsked (CN : Addr) (er : Errs) : Sp := fun vs H _ E => ∃ (n : Int) (x y z o : V), vs = [.int n, x, y, z, o] ∧ Refused CN er H E x y z
theorem sc_l_asked : FnScope ["_law_number", "_law_net", "_law_balls", "_law_standing", "_law_order"] ["_law_number", "_law_net", "_law_balls", "_law_standing", "_law_order"] (defScope s_l_asked) := ⟨rfl, rfl, rfl, by decide +kernel, rfl, by decide +kernel, by decide +kernel⟩
theorem ok_asked {f : Addr} {fd : FuncData} (F : Fun K "_law_asked" "_law_asked" s_l_asked f fd) (T : Txt K mg CN CB CS) (G_settle : FnG P w K mg base (L2.CX P w) 4 "settle" (spSettle CN CS er) []) (G_played : FnG P w K mg base (L2.CX P w) 5 "played" (spPlayed CN er) [])
    {fk : Addr} {fdk : FuncData} (GK : GFn P w K mg base 4 fk fdk ["net", "balls", "standing"] (spKit CN er)) (GKg : mg "knots_in_turn" = some (.ref fk)) (GKk : PySem.W.keepIn K (.ref fk) = true) (GKb : Binds K fdk ["net", "balls", "standing"] []) (hNS : ∀ E, NoStop K (OnlyX er E)) :
    FnOk P w K mg base (L2.CX P w) 8 f fd ["_law_number", "_law_net", "_law_balls", "_law_standing", "_law_order"] (spAsked CN er) := by
  refine F.okX sc_l_asked (fun vs H Q E h => ?_) (fun cdv A outer s H vs Q E hr h => ?_)
  · obtain ⟨n, x, y, z, o, rfl, _⟩ := h
    rfl
  · obtain ⟨n, x, y, z, o, rfl, h⟩ := h
    have hu := hu_of hr
    refine ⟨_, (pss_cons (ps_if (pt_cmpR op_eq (pv 0) pe_int (nomark _)) (pss_one (ps_ret (pe_f G_settle hr (by decide) (by rfl) (passes_call (takes_of rfl rfl rfl rfl) (fun _ _ _ _ h => h)) (pa_cons (pv 1) (pa_cons (pv 2) (pa_cons (pv 3) pa_nil)))))) pss_nil)
  (pss_cons (ps_if (pt_cmpR op_eq (pv 0) pe_int (nomark _)) (pss_one (ps_ret (pe_f G_played hr (by decide) (by rfl) (passes_call (takes_of rfl rfl rfl rfl) (fun _ _ _ _ h => h)) (pa_cons (pv 1) (pa_cons (pv 2) (pa_cons (pv 4) (pa_cons (pv 3) pa_nil))))))) pss_nil)
  (pss_one (ps_ret (pe_listG (pgen_call (E := OnlyX er E) GK (hr.mono (by decide)) (by rfl) GKg GKk GKb .nil (pa_cons (pv 1) (pa_cons (pv 2) (pa_cons (pv 3) pa_nil)))) (passes_call (takes_of rfl rfl rfl rfl) (fun _ _ _ _ h => h.1)) (hNS E) hr (by rfl) T.list (by decide +kernel)))))), ?_⟩
    refine ⟨_, rfl, rfl, _, rfl, ?_⟩
    refine ite2 (fun _ => ?_) (fun _ => ?_)
    · exact ⟨_, rfl, _, rfl, _, rfl, x, y, z, rfl, .inl h⟩
    refine ⟨_, rfl, rfl, _, rfl, ?_⟩
    refine ite2 (fun _ => ?_) (fun _ => ?_)
    · exact ⟨_, rfl, _, rfl, _, rfl, _, rfl, x, y, o, z, rfl, .inl h⟩
    · exact ⟨_, rfl, _, rfl, _, rfl, x, y, z, rfl, h.only⟩
end
end Bal
set_option autoImplicit true
set_option Elab.async false
set_option linter.all false
set_option maxRecDepth 100000
set_option maxHeartbeats 4000000
/-! W28: what is refused. -/
namespace Bal
open PySem L2
/-- a wrong order and where it is wrong -/
def WrongO (H : Hp) (N : NetM) (bad place : V) : Prop := (place = .non ∧ ∃ n, Thing H bad n ∧ n ≠ "list" ∧ n ≠ "tuple") ∨
  ∃ (l : Addr) (xs : List V) (os : List (Option (Nat × Nat))) (i : Nat) (S : BdM), bad = .ref l ∧ H l = some (.lst xs) ∧ Paired (Stp H N) xs os ∧ place = .int (i : Int) ∧ fol N (stB [("a", 0, 1)]) os 0 = (S, some i)
theorem WrongO.same {H H' : Hp} (s : Same H H') {N : NetM} {bad place : V} (h : WrongO H N bad place) : WrongO H' N bad place := by
  rcases h with ⟨h1, n, t, h2, h3⟩ | ⟨l, xs, os, i, S, h1, h2, h3, h4, h5⟩
  · exact .inl ⟨h1, n, t.same s, h2, h3⟩
  · exact .inr ⟨l, xs, os, i, S, h1, s _ _ h2, Paired.mapP h3 fun _ _ z => z.same s, h4, h5⟩
theorem fol_bad (N : NetM) (r : List (Option (Nat × Nat))) : ∃ S, fol N (stB [("a", 0, 1)]) (none :: r) 0 = (S, some 0) := ⟨_, rfl⟩
theorem no_fall {N : NetM} (h : ∀ d ∈ N.rows 0, 0 ∉ d) (p m : Nat) : N.fall 0 p m 0 = 0 := by
  induction m with
  | zero => rfl
  | succ m ih =>
    show N.fall 0 p m 0 + ((N.rows 0).getD (N.behind 0 p m) []).count 0 = 0
    rw [ih, Nat.zero_add]
    refine List.count_eq_zero_of_not_mem fun hm => ?_
    cases e : (N.rows 0)[N.behind 0 p m]? with
    | none => rw [List.getD, e] at hm; cases hm
    | some d =>
      rw [List.getD, e] at hm
      exact h d (List.mem_of_getElem? e) hm
theorem fol_first (N : NetM) (r : List (Option (Nat × Nat))) : fol N (stB [("a", 0, 1)]) (some (0, 1) :: r) 0 = fol N (take N (stB [("a", 0, 1)]) 0 1) r 1 := if_neg (by show ¬ 1 < 1; decide)
theorem fol_two {N : NetM} (n1 : 1 ≤ N.n) (h : ∀ d ∈ N.rows 0, 0 ∉ d) : ∃ S, fol N (stB [("a", 0, 1)]) [some (0, 1), some (0, 9)] 0 = (S, some 1) := by
  refine ⟨_, (fol_first N _).trans (if_pos ?_)⟩
  show (if 0 < N.n then 1 + N.fall 0 0 1 0 - (if 0 = 0 then 1 else 0) else 1) < 9
  rw [if_pos (by omega), no_fall h]
  decide
theorem merge_plus {n : Nat} (n4 : n ≤ 4) (v : Nat → V) (k : Key) (x : V) : mergeK [] (tkv (List.range n) v ++ [(k, x)]) = putK (tkv (List.range n) v) k x := by
  have e : mergeK [] (tkv (List.range n) v) = tkv (List.range n) v := merge_self (tkv_nd List.nodup_range (rng_lt n4))
  unfold mergeK at *
  rw [List.foldl_append, e]
  rfl
theorem merge_zz {n : Nat} (n4 : n ≤ 4) : mergeK [] ((tkv (List.range n) fun _ => V.int 0) ++ [((Sum.inr "zz" : Key), .int 0)]) = (tkv (List.range n) fun _ => V.int 0) ++ [((Sum.inr "zz" : Key), .int 0)] := by
  rw [merge_plus n4, putK_new]
  exact tkv_not2 fun i hi e => absurd e (by
    have := List.mem_range.mp hi
    match i, (show i < 4 by omega) with
    | 0, _ => decide +kernel
    | 1, _ => decide +kernel
    | 2, _ => decide +kernel
    | 3, _ => decide +kernel)
theorem merge_a {n : Nat} (n1 : 1 ≤ n) (n4 : n ≤ 4) {x : V} : mergeK [] ((tkv (List.range n) fun _ => V.int 0) ++ [((Sum.inr "a" : Key), x)]) = tkv (List.range n) (setF (fun _ => V.int 0) 0 x) := by
  rw [merge_plus n4]
  have e := tkv_put (v := fun _ => V.int 0) (k := 0) (y := x) (by decide) (rng_lt n4)
  have ea : addI (List.range n) 0 = List.range n := if_pos (List.mem_range.mpr (by omega))
  rw [ea] at e
  exact e
theorem tg_zz : ∀ i, i < 6 → tg i ≠ "zz" := by decide +kernel
section
variable {P : Program} {w : World} {K : PySem.W.Frag} {mg : Str → Option Value} {base : Heap} {CN CB CS : Addr} {er : Errs} {fN fO : Addr}
def spRefused (K : PySem.W.Frag) (CN : Addr) : Sp := fun vs H Q _ => ∃ (s : Addr) (ns : List Int) (N : NetM) (J : Nat) (a : NetA), vs = [.ref s, .ref a.p, .int ((N.f 0 + N.q 0 : Nat) : Int)] ∧ SqL K H s (ns.map .int) ∧ ns.length ≤ 1000 ∧ NetAt CN H N J a ∧ N.Good ∧ Ends N ∧ (∀ d ∈ N.rows 0, 0 ∉ d) ∧ ∀ H', Same H H' → Q (.bl true) H'
theorem sc_l_refused : FnScope ["_law_script", "_law_net", "_law_size", "_law_good", "_law_turn", "_law_bad", "error", "_law_place", "_law_name"] ["_law_script", "_law_net", "_law_size"] (defScope s_l_refused) := ⟨rfl, rfl, rfl, by decide +kernel, rfl, by decide +kernel, by decide +kernel⟩
theorem ok_refused {f : Addr} {fd : FuncData} (F : Fun K "_law_refused" "_law_refused" s_l_refused f fd) (T : Txt K mg CN CB CS) (G_l_draw : FnG P w K mg base CX0 1 "_law_draw" (spDraw K) []) (G_l_asked : FnG P w K mg base (L2.CX P w) 8 "_law_asked" (spAsked CN er) [])
    (G_ends : FnG P w K mg base (L2.CX P w) 3 "ends" (spEnds CN er) []) (G_judge_ends : FnG P w K mg base (L2.CX P w) 3 "judge_ends" (spJudge er) []) (G_played : FnG P w K mg base (L2.CX P w) 5 "played" (spPlayed CN er) [.non])
    (XBadNet : SX.SupTxt P K mg "BadNet" "name" "not a net" er.nt fN) (XBadOrder : SX.SupTxt P K mg "BadOrder" "place" "not such an order" er.bo fO) (XBadBalls : OwnTxt K mg "BadBalls" er.bb) (XBadStanding : OwnTxt K mg "BadStanding" er.bs)
    (XFname : XfC K er.nt) (XFplace : XfC K er.bo) (teN : PySem.W.exmOne K (.ref er.nt) (.ref er.nt) = some true) (teO : PySem.W.exmOne K (.ref er.bo) (.ref er.bo) = some true) (teB : PySem.W.exmOne K (.ref er.bb) (.ref er.bb) = some true) (teS : PySem.W.exmOne K (.ref er.bs) (.ref er.bs) = some true) :
    FnOk P w K mg base CX0 9 f fd ["_law_script", "_law_net", "_law_size"] (spRefused K CN) := by
  have XNname := XBadNet.noN
  have XNplace := XBadOrder.noN
  refine F.ok sc_l_refused (fun vs H Q E h => ?_) (fun cdv A outer s H vs Q E hr h => ?_)
  · obtain ⟨s, ns, N, J, a, rfl, _⟩ := h
    rfl
  · obtain ⟨sc, ns, N, J, a, rfl, hs, hl, A1, G, En, hno, kq⟩ := h
    have hu := hu_of hr
    have n4 := G.n4
    have n1 := G.n1
    refine ⟨_, (pss_cons (ps_set (i := 3) sc_l_refused.nd rfl (by first | exact Or.inl rfl | exact Or.inr rfl) (pe_callTy (call_dictP rfl) (by rfl) T.dict (by decide +kernel) (pa_cons (pe_lc (own := [("_law_name", 8)]) rfl sc_l_refused.nd (pi_list (pe_callB cr_sortedS (by rfl) T.sorted (by decide +kernel) (pa_cons (pe_callTy (call_listD rfl) (by rfl) T.list (by decide +kernel) (pa_cons (pe_fld (pv 1) rfl) pa_nil)) pa_nil))) (blkOk_by (by kernel_rfl)) (fun _ _ _ _ _ => (pg_name (i := 8) sc_l_refused.nd rfl (by first | exact Or.inl rfl | exact Or.inr rfl))) (fun _ _ _ _ _ => pts_nil) (fun _ _ _ _ _ => (by exact (pe_tup (pa_cons (pv 8) (pa_cons pe_int pa_nil)))))) pa_nil)))
  (pss_cons (ps_for PassesOwn.never rfl (pi_enumT (by rfl) T.enumerate (pa_cons (pe_tup (pa_cons pe_non (pa_cons pe_int (pa_cons pe_dnewK (pa_cons pe_str pa_nil))))) pa_nil)) (pg_tup rfl (pgs_cons (pg_name (i := 4) sc_l_refused.nd rfl (by first | exact Or.inl rfl | exact Or.inr rfl)) (pgs_cons (pg_name (i := 5) sc_l_refused.nd rfl (by first | exact Or.inl rfl | exact Or.inr rfl)) pgs_nil)))
  (pss_cons (ps_try_as (i := 6) rfl rfl sc_l_refused.nd rfl rfl ⟨rfl, by decide, .inl XBadNet.gC⟩ takes0 (fun W pn xe tk _ => (pss_cons (ps_expr (by exact (by exact (pe_fS G_l_asked hr (by decide) (by rfl) (fun σ => passAt tk σ) (by exact (pa_cons (by exact (pe_f G_l_draw hr (by decide) (by rfl) pass0 (pa_cons (pv 0) (pa_cons (by exact (pe_op op_add pe_int (pv 4))) (pa_cons pe_int pa_nil))))) (pa_cons (pv 5) (pa_cons pe_non (pa_cons pe_int (pa_cons pe_non pa_nil))))))))))
  (pss_one (ps_ret pe_bl))))
  (fun a oe cls d pn hz hf => (pss_one (ps_if (pt_cmp (pc_notN (pe_xf XFname XNname hz hf (pv 6))) rfl) (pss_one (ps_ret pe_bl)) pss_nil))))
  (pss_cons (ps_try_as (i := 6) rfl rfl sc_l_refused.nd rfl rfl ⟨rfl, by decide, .inl XBadNet.gC⟩ takes0 (fun W pn xe tk _ => (pss_cons (ps_expr (by exact (pe_ifExp (pt_cmpR op_eq (by exact (pe_op op_mod (pv 4) pe_int)) pe_int (nomark _)) (by exact (by exact (pe_fS G_ends hr (by decide) (by rfl) (fun σ => passAt tk σ) (by exact (pa_cons (pv 5) pa_nil))))) (by exact (by exact (pe_fS G_judge_ends hr (by decide) (by rfl) (fun σ => passAt tk σ) (by exact (pa_cons (pv 5) pa_nil))))))))
  (pss_one (ps_ret pe_bl))))
  (fun a oe cls d pn hz hf => (pss_one (ps_if (pt_cmp (pc_notN (pe_xf XFname XNname hz hf (pv 6))) rfl) (pss_one (ps_ret pe_bl)) pss_nil)))) pss_nil)))
  (pss_cons (ps_for PassesOwn.never rfl (pi_enumT (by rfl) T.enumerate (pa_cons (pe_tup (pa_cons pe_non (pa_cons (pe_lst pa_nil) (pa_cons (pe_disp (pps_cons pe_str pe_int pps_nil) (by rfl) (by rfl) (fun z => by cases z) (by decide)) (pa_cons (pe_disp (pps_cons pe_str pe_int pps_nil) (by rfl) (by rfl) (fun z => by cases z) (by decide)) (pa_cons (pe_disp (pps_cons pe_str (pe_un un_neg pe_int) pps_nil) (by rfl) (by rfl) (fun z => by cases z) (by decide)) (pa_cons (pe_disp (pps_cons pe_str pe_bl pps_nil) (by rfl) (by rfl) (fun z => by cases z) (by decide)) (pa_cons (pe_disp (pps_cons pe_str pe_str pps_nil) (by rfl) (by rfl) (fun z => by cases z) (by decide)) (pa_cons (pe_disp (pps_cons pe_str pe_int (pps_cons pe_str pe_non pps_nil)) (by rfl) (by rfl) (fun z => by cases z) (by decide)) pa_nil))))))))) pa_nil)) (pg_tup rfl (pgs_cons (pg_name (i := 4) sc_l_refused.nd rfl (by first | exact Or.inl rfl | exact Or.inr rfl)) (pgs_cons (pg_name (i := 5) sc_l_refused.nd rfl (by first | exact Or.inl rfl | exact Or.inr rfl)) pgs_nil)))
  (pss_cons (ps_try_only rfl rfl ⟨rfl, by decide, .inl XBadBalls.g⟩ takes0 (fun W pn xe tk _ => (pss_cons (ps_expr (by exact (by exact (pe_fS G_l_asked hr (by decide) (by rfl) (fun σ => passAt tk σ) (by exact (pa_cons (by exact (pe_f G_l_draw hr (by decide) (by rfl) pass0 (pa_cons (pv 0) (pa_cons (by exact (pe_op op_add pe_int (pv 4))) (pa_cons pe_int pa_nil))))) (pa_cons (pv 1) (pa_cons (pv 5) (pa_cons pe_int (pa_cons pe_int pa_nil))))))))))
  (pss_one (ps_ret pe_bl))))
  (fun a oe cls d pn hz hf => (pss_one ps_pass))) pss_nil))
  (pss_cons (ps_for PassesOwn.never rfl (pi_enumT (by rfl) T.enumerate (pa_cons (pe_tup (pa_cons pe_int (pa_cons (pe_lst pa_nil) (pa_cons pe_dnewK (pa_cons (pe_callTy (call_dictP rfl) (by rfl) T.dict (by decide +kernel) (pa_cons (pe_op op_cat (LiI.pe_listItems rfl (pv 3) (by rfl) T.list (by decide +kernel)) (pe_lst (pa_cons (pe_tup (pa_cons pe_str (pa_cons pe_int pa_nil))) pa_nil))) pa_nil)) (pa_cons (pe_callTy (call_dictP rfl) (by rfl) T.dict (by decide +kernel) (pa_cons (pe_op op_cat (LiI.pe_listItems rfl (pv 3) (by rfl) T.list (by decide +kernel)) (pe_lst (pa_cons (pe_tup (pa_cons pe_str (pa_cons (pv 2) pa_nil))) pa_nil))) pa_nil)) (pa_cons (pe_callTy (call_dictP rfl) (by rfl) T.dict (by decide +kernel) (pa_cons (pe_op op_cat (LiI.pe_listItems rfl (pv 3) (by rfl) T.list (by decide +kernel)) (pe_lst (pa_cons (pe_tup (pa_cons pe_str (pa_cons (pe_un un_neg pe_int) pa_nil))) pa_nil))) pa_nil)) (pa_cons (pe_callTy (call_dictP rfl) (by rfl) T.dict (by decide +kernel) (pa_cons (pe_op op_cat (LiI.pe_listItems rfl (pv 3) (by rfl) T.list (by decide +kernel)) (pe_lst (pa_cons (pe_tup (pa_cons pe_str (pa_cons pe_bl pa_nil))) pa_nil))) pa_nil)) pa_nil)))))))) pa_nil)) (pg_tup rfl (pgs_cons (pg_name (i := 4) sc_l_refused.nd rfl (by first | exact Or.inl rfl | exact Or.inr rfl)) (pgs_cons (pg_name (i := 5) sc_l_refused.nd rfl (by first | exact Or.inl rfl | exact Or.inr rfl)) pgs_nil)))
  (pss_cons (ps_try_only rfl rfl ⟨rfl, by decide, .inl XBadStanding.g⟩ takes0 (fun W pn xe tk _ => (pss_cons (ps_expr (by exact (by exact (pe_fS G_l_asked hr (by decide) (by rfl) (fun σ => passAt tk σ) (by exact (pa_cons (by exact (pe_f G_l_draw hr (by decide) (by rfl) pass0 (pa_cons (pv 0) (pa_cons (by exact (pe_op op_add pe_int (pv 4))) (pa_cons pe_int pa_nil))))) (pa_cons (pv 1) (pa_cons (by exact (pe_disp (pps_cons pe_str pe_int pps_nil) (by rfl) (by rfl) (fun z => by cases z) (by decide))) (pa_cons (pv 5) (pa_cons pe_int pa_nil))))))))))
  (pss_one (ps_ret pe_bl))))
  (fun a oe cls d pn hz hf => (pss_one ps_pass))) pss_nil))
  (pss_cons (ps_for PassesOwn.never rfl (pi_tup (pe_tup (pa_cons (pe_tup (pa_cons pe_non (pa_cons pe_non pa_nil))) (pa_cons (pe_tup (pa_cons pe_str (pa_cons pe_non pa_nil))) (pa_cons (pe_tup (pa_cons pe_dnewK (pa_cons pe_non pa_nil))) (pa_cons (pe_tup (pa_cons (pe_lst (pa_cons (pe_tup (pa_cons pe_str (pa_cons pe_int pa_nil))) (pa_cons (pe_tup (pa_cons pe_str (pa_cons pe_int pa_nil))) pa_nil))) (pa_cons pe_int pa_nil))) (pa_cons (pe_tup (pa_cons (pe_lst (pa_cons (pe_tup (pa_cons pe_str (pa_cons pe_int pa_nil))) pa_nil)) (pa_cons pe_int pa_nil))) (pa_cons (pe_tup (pa_cons (pe_lst (pa_cons (pe_tup (pa_cons pe_str (pa_cons pe_bl pa_nil))) pa_nil)) (pa_cons pe_int pa_nil))) (pa_cons (pe_tup (pa_cons (pe_lst (pa_cons (pe_tup (pa_cons pe_str (pa_cons pe_str pa_nil))) pa_nil)) (pa_cons pe_int pa_nil))) (pa_cons (pe_tup (pa_cons (pe_lst (pa_cons (pe_tup (pa_cons pe_str (pa_cons pe_int pa_nil))) pa_nil)) (pa_cons pe_int pa_nil))) (pa_cons (pe_tup (pa_cons (pe_lst (pa_cons (pe_lst (pa_cons pe_str (pa_cons pe_int pa_nil))) pa_nil)) (pa_cons pe_int pa_nil))) (pa_cons (pe_tup (pa_cons (pe_lst (pa_cons (pe_tup (pa_cons pe_str pa_nil)) pa_nil)) (pa_cons pe_int pa_nil))) (pa_cons (pe_tup (pa_cons (pe_lst (pa_cons (pe_tup (pa_cons pe_str (pa_cons pe_int pa_nil))) (pa_cons pe_non pa_nil))) (pa_cons pe_int pa_nil))) (pa_cons (pe_tup (pa_cons (pe_lst (pa_cons (pe_tup (pa_cons pe_str (pa_cons pe_int pa_nil))) pa_nil)) (pa_cons pe_int pa_nil))) pa_nil)))))))))))))) (pg_tup rfl (pgs_cons (pg_name (i := 5) sc_l_refused.nd rfl (by first | exact Or.inl rfl | exact Or.inr rfl)) (pgs_cons (pg_name (i := 7) sc_l_refused.nd rfl (by first | exact Or.inl rfl | exact Or.inr rfl)) pgs_nil)))
  (pss_cons (ps_try_as (i := 6) rfl rfl sc_l_refused.nd rfl rfl ⟨rfl, by decide, .inl XBadOrder.gC⟩ takes0 (fun W pn xe tk _ => (pss_cons (ps_expr (by exact (by exact (pe_fS G_played hr (by decide) (by rfl) (fun σ => passAt tk σ) (by exact (pa_cons (pv 1) (pa_cons (by exact (pe_disp (pps_cons pe_str pe_int pps_nil) (by rfl) (by rfl) (fun z => by cases z) (by decide))) (pa_cons (pv 5) pa_nil))))))))
  (pss_one (ps_ret pe_bl))))
  (fun a oe cls d pn hz hf => (pss_one (ps_if (pt_cmpR op_ne (pe_xf XFplace XNplace hz hf (pv 6)) (pv 7) (nomark _)) (pss_one (ps_ret pe_bl)) pss_nil)))) pss_nil))
  (pss_one (ps_ret pe_bl))))))), ?_⟩
    have eV : (((List.range N.n).map tg).map V.str) = namesV N.n := by
      rw [List.map_map]
      rfl
    have em : ∀ v : Nat → V, mergeK [] (tkv (List.range N.n) v) = tkv (List.range N.n) v := fun v => merge_self (tkv_nd List.nodup_range (rng_lt n4))
    have small : ∀ {i : Nat} {v : Nat → V}, i < (namesV N.n).length → (tkv (List.range i) v).length < sizeLine := fun {i v} h => by
      rw [names_len] at h
      rw [tkv_len, List.length_range]
      exact Nat.lt_of_lt_of_le h (Nat.le_trans n4 (by decide))
    have kn := A1.kn
    -- good
    refine ⟨_, rfl, a.p, CN, a.dx, _, _, rfl, A1.ob, T.cN, T.nNk, netF_k, a.kd, _, rfl, .inl kn.dc, fun l hl => ⟨l, (List.range N.n).map tg, rfl, SqL.of (by rw [upd_same, keys_tkv, List.map_map]; rfl), by rw [List.length_map, List.length_range]; omega, fun ys q perm srt hqn => ?_⟩⟩
    have eys : ys = (List.range N.n).map tg := sorted_uniq perm (sorted_rng _ (by omega)) srt
    subst eys
    rw [eV]
    have s1 := same_upd (same_upd0 hl) (o := .lst (namesV N.n)) hqn
    have hq : (upd (upd H l (.lst ((tkv (List.range N.n) a.v).map fun kv => kV kv.1))) q (.lst (namesV N.n))) q = some (.lst (namesV N.n)) := upd_same
    generalize upd (upd H l (.lst ((tkv (List.range N.n) a.v).map fun kv => kV kv.1))) q (.lst (namesV N.n)) = H1 at s1 hq ⊢
    clear hqn hl perm srt
    refine ⟨q, rfl, ⟨_, SqL.of hq⟩, fun D hD => lc_it (walk_list (xs := namesV N.n)) (fun i H' => Same H1 H' ∧ PairsL H' D (tkv (List.range i) fun _ => .int 0)) ⟨same_upd0 hD, [], upd_same, .nil⟩ (fun i H' _ p => SqL.of (p.1 _ _ hq)) ?_ ?_⟩
    · rintro i x H2 H3 hi ⟨s2, p2⟩ ⟨e3, hx⟩
      subst H3
      obtain ⟨hin, rfl⟩ := names_at hx
      refine ⟨rfl, _, rfl, by show 2 ≤ sizeLine; decide, fun T9 hT => ?_⟩
      have sT := same_upd0 (o := .tup [.str (tg i), .int 0]) hT
      obtain ⟨acc, h1, h2, h3⟩ := (p2.same sT).snoc (k := Sum.inr (tg i)) (x := .int 0) (T := T9) upd_same
      refine ⟨acc, h1, by rw [h2]; exact small hi, same_out (fun b o e => sT _ _ (s2 _ _ e)) hD, ?_⟩
      rw [tkv_snoc]
      exact h3
    rintro H2 ⟨s2, ps, hD2, hps⟩
    rw [names_len] at hps
    refine ⟨D, ps, _, rfl, SqL.of hD2, Paired.mapP hps fun _ _ z => SqT.of z, fun Gd hGd => ?_⟩
    rw [em]
    have t2 : Same H H2 := fun b o e => s2 _ _ (s1 _ _ e)
    have t3 := same_upd t2 (o := .dK (tkv (List.range N.n) fun _ => .int 0)) hGd
    have hG3 : (upd H2 Gd (.dK (tkv (List.range N.n) fun _ => .int 0))) Gd = some (.dK (tkv (List.range N.n) fun _ => .int 0)) := upd_same
    generalize upd H2 Gd (.dK (tkv (List.range N.n) fun _ => .int 0)) = H3 at t3 hG3 ⊢
    clear hGd hps hD2 s2 t2 hD hq s1
    have A3 := A1.same t3
    have hs3 := Same.seq t3 hs
    have ex3 : ∀ {H' : Hp}, Same H3 H' → Same H H' := fun s b o e => s _ _ (t3 _ _ e)
    -- no net
    refine fun De hDe => ⟨by show 4 ≤ sizeLine; decide, fun T1 hT1 => ?_⟩
    have s4 := same_upd (same_upd0 (o := .dK []) hDe) (o := .tup [.non, .int 3, .ref De, .str "net"]) hT1
    have hDe4 : (upd (upd H3 De (.dK [])) T1 (.tup [.non, .int 3, .ref De, .str "net"])) De = some (.dK []) := same_upd0 hT1 _ _ upd_same
    have hT14 : (upd (upd H3 De (.dK [])) T1 (.tup [.non, .int 3, .ref De, .str "net"])) T1 = some (.tup [.non, .int 3, .ref De, .str "net"]) := upd_same
    generalize upd (upd H3 De (.dK [])) T1 (.tup [.non, .int 3, .ref De, .str "net"]) = H4 at s4 hDe4 hT14 ⊢
    refine ⟨T1, _, rfl, SqT.of hT14, for_it walk_enumG (fun i σ H' => ∃ (v4 v5 v7 : Option V), σ = [some (.ref sc), some (.ref a.p), some (.int ((N.f 0 + N.q 0 : Nat) : Int)), some (.ref Gd), v4, v5, none, v7, none] ∧ Same H4 H') ⟨_, _, _, rfl, Same.refl _⟩ (fun i σ H' _ p => ?_) ?_ ?_⟩
    · obtain ⟨_, _, _, _, s5⟩ := p
      exact SqT.of (s5 _ _ hT14)
    · rintro i x σ H5 H6 hi ⟨v4, v5, v7, rfl, s5⟩ ⟨T9, x9, rfl, hT, rfl, hx⟩
      obtain ⟨n, t, hn⟩ : ∃ n, Thing H5 x9 n ∧ n ∈ ["NoneType", "int", "dict", "str"] := by
        match i, hi with
        | 0, _ => cases hx; exact ⟨_, .non, by simp⟩
        | 1, _ => cases hx; exact ⟨_, .int _, by simp⟩
        | 2, _ => cases hx; exact ⟨_, .dK (s5 _ _ hDe4), by simp⟩
        | 3, _ => cases hx; exact ⟨_, .str _, by simp⟩
      refine ⟨T9, _, rfl, SqT.of upd_same, rfl, _, _, rfl, _, _, rfl, rfl, ?_⟩
      have s6 := same_upd s5 (o := .tup [.int (i : Nat), x9]) hT
      have t6 := t.same (same_upd0 (o := .tup [.int (i : Nat), x9]) hT)
      generalize upd H5 T9 (.tup [.int (i : Nat), x9]) = H6 at s6 t6 ⊢
      clear t s5 hT hx
      refine ⟨_, rfl, _, rfl, _, _, rfl, rfl, sc, ns, _, 3, rfl, Same.seq (fun b o e => s6 _ _ (s4 _ _ e)) hs3, hl, (by show 0 ≤ (500 : Int) + (i : Int); omega), by decide, fun r H7 r0 r3 s7 => ?_⟩
      refine ⟨_, rfl, r, x9, .non, .int 3, .non, rfl, .inl ⟨n, t6.same s7, hn, fun H8 d s8 hd => ⟨true, teN, fun _ ax hax => ?_, fun q => nomatch q⟩⟩⟩
      refine ⟨_, rfl, rfl, rfl, d, _, _, rfl, upd_same, rfl, ?_⟩
      refine ⟨_, rfl, iteF ?_⟩
      have s9 : Same H4 (upd H8 d (.xd [("name", .non)])) := same_upd (fun b o e => s8 _ _ (s7 _ _ (s6 _ _ e))) hd
      have t9 := (t6.same (fun b o e => s8 _ _ (s7 _ _ e))).same (same_upd0 (o := .xd [("name", .non)]) hd)
      generalize upd H8 d (.xd [("name", .non)]) = H9 at s9 t9 ⊢
      clear hd s8 s7 t6 s6 r0 r3
      have fin : ∀ d : Addr, H9 d = none → ∃ b, PySem.W.exmOne K (.ref er.nt) (.ref er.nt) = some b ∧ (b = true → Same H4 (upd H9 d (.xd [("name", .non)]))) := fun d hd => ⟨true, teN, fun _ => same_upd s9 hd⟩
      refine ⟨_, rfl, _, _, rfl, rfl, (by show (0 : Int) < 2; decide), rfl, _, rfl, ite2 (fun _ => ?_) (fun _ => ?_)⟩
      · refine ⟨_, rfl, x9, rfl, .inl ⟨n, t9, hn, fun d hd => ⟨true, teN, fun _ ax hax => ?_, fun q => nomatch q⟩⟩⟩
        refine ⟨_, rfl, rfl, rfl, d, _, _, rfl, upd_same, rfl, _, rfl, iteF ?_⟩
        exact ⟨_, _, _, rfl, same_upd s9 hd⟩
      · refine ⟨_, rfl, x9, n, rfl, t9, hn, fun d hd => ⟨true, teN, fun _ ax hax => ?_, fun q => nomatch q⟩⟩
        refine ⟨_, rfl, rfl, rfl, d, _, _, rfl, upd_same, rfl, _, rfl, iteF ?_⟩
        exact ⟨_, _, _, rfl, same_upd s9 hd⟩
    rintro σ H5 ⟨v4, v5, v7, rfl, s5⟩
    have s5' : Same H3 H5 := fun b o e => s5 _ _ (s4 _ _ e)
    clear s5 hT14 hDe4 s4 hT1 hDe
    -- wrong balls
    have fGd := s5' _ _ hG3
    have s5 := s5'
    clear s5'
    refine ⟨by show 0 ≤ sizeLine; decide, fun B1 hB1 => ?_⟩
    have sq : Same H5 (upd H5 B1 (.lst [])) := same_upd0 hB1
    have fB1 : (upd H5 B1 (.lst [])) B1 = some (.lst []) := upd_same
    generalize upd H5 B1 (.lst []) = K1b at sq fB1 ⊢
    have fGd := sq _ _ fGd
    have s5 : Same H3 K1b := fun b o e => sq _ _ (s5 _ _ e)
    clear sq
    refine fun B2 hB2 => ⟨upd_same, [((Sum.inr "o" : Key), .int 1)], rfl, by show 1 ≤ 15; decide, ?_⟩
    have sq : Same K1b (upd (upd K1b B2 (.dK [])) B2 (.dK (mergeK [] [((Sum.inr "o" : Key), .int 1)]))) := (by rw [upd_upd]; exact same_upd0 hB2)
    have fB2 : (upd (upd K1b B2 (.dK [])) B2 (.dK (mergeK [] [((Sum.inr "o" : Key), .int 1)]))) B2 = some (.dK [((Sum.inr "o" : Key), .int 1)]) := upd_same
    generalize upd (upd K1b B2 (.dK [])) B2 (.dK (mergeK [] [((Sum.inr "o" : Key), .int 1)])) = K2b at sq fB2 ⊢
    have fGd := sq _ _ fGd
    have fB1 := sq _ _ fB1
    have s5 : Same H3 K2b := fun b o e => sq _ _ (s5 _ _ e)
    clear sq
    refine fun B3 hB3 => ⟨upd_same, [((Sum.inr "zz" : Key), .int 1)], rfl, by show 1 ≤ 15; decide, ?_⟩
    have sq : Same K2b (upd (upd K2b B3 (.dK [])) B3 (.dK (mergeK [] [((Sum.inr "zz" : Key), .int 1)]))) := (by rw [upd_upd]; exact same_upd0 hB3)
    have fB3 : (upd (upd K2b B3 (.dK [])) B3 (.dK (mergeK [] [((Sum.inr "zz" : Key), .int 1)]))) B3 = some (.dK [((Sum.inr "zz" : Key), .int 1)]) := upd_same
    generalize upd (upd K2b B3 (.dK [])) B3 (.dK (mergeK [] [((Sum.inr "zz" : Key), .int 1)])) = K3b at sq fB3 ⊢
    have fGd := sq _ _ fGd
    have fB1 := sq _ _ fB1
    have fB2 := sq _ _ fB2
    have s5 : Same H3 K3b := fun b o e => sq _ _ (s5 _ _ e)
    clear sq
    refine fun B4 hB4 => ⟨1, rfl, upd_same, [((Sum.inr "a" : Key), .int (-1))], rfl, by show 1 ≤ 15; decide, ?_⟩
    have sq : Same K3b (upd (upd K3b B4 (.dK [])) B4 (.dK (mergeK [] [((Sum.inr "a" : Key), .int (-1))]))) := (by rw [upd_upd]; exact same_upd0 hB4)
    have fB4 : (upd (upd K3b B4 (.dK [])) B4 (.dK (mergeK [] [((Sum.inr "a" : Key), .int (-1))]))) B4 = some (.dK [((Sum.inr "a" : Key), .int (-1))]) := upd_same
    generalize upd (upd K3b B4 (.dK [])) B4 (.dK (mergeK [] [((Sum.inr "a" : Key), .int (-1))])) = K4b at sq fB4 ⊢
    have fGd := sq _ _ fGd
    have fB1 := sq _ _ fB1
    have fB2 := sq _ _ fB2
    have fB3 := sq _ _ fB3
    have s5 : Same H3 K4b := fun b o e => sq _ _ (s5 _ _ e)
    clear sq
    refine fun B5 hB5 => ⟨upd_same, [((Sum.inr "a" : Key), .bl true)], rfl, by show 1 ≤ 15; decide, ?_⟩
    have sq : Same K4b (upd (upd K4b B5 (.dK [])) B5 (.dK (mergeK [] [((Sum.inr "a" : Key), .bl true)]))) := (by rw [upd_upd]; exact same_upd0 hB5)
    have fB5 : (upd (upd K4b B5 (.dK [])) B5 (.dK (mergeK [] [((Sum.inr "a" : Key), .bl true)]))) B5 = some (.dK [((Sum.inr "a" : Key), .bl true)]) := upd_same
    generalize upd (upd K4b B5 (.dK [])) B5 (.dK (mergeK [] [((Sum.inr "a" : Key), .bl true)])) = K5b at sq fB5 ⊢
    have fGd := sq _ _ fGd
    have fB1 := sq _ _ fB1
    have fB2 := sq _ _ fB2
    have fB3 := sq _ _ fB3
    have fB4 := sq _ _ fB4
    have s5 : Same H3 K5b := fun b o e => sq _ _ (s5 _ _ e)
    clear sq
    refine fun B6 hB6 => ⟨upd_same, [((Sum.inr "i" : Key), .str "1")], rfl, by show 1 ≤ 15; decide, ?_⟩
    have sq : Same K5b (upd (upd K5b B6 (.dK [])) B6 (.dK (mergeK [] [((Sum.inr "i" : Key), .str "1")]))) := (by rw [upd_upd]; exact same_upd0 hB6)
    have fB6 : (upd (upd K5b B6 (.dK [])) B6 (.dK (mergeK [] [((Sum.inr "i" : Key), .str "1")]))) B6 = some (.dK [((Sum.inr "i" : Key), .str "1")]) := upd_same
    generalize upd (upd K5b B6 (.dK [])) B6 (.dK (mergeK [] [((Sum.inr "i" : Key), .str "1")])) = K6b at sq fB6 ⊢
    have fGd := sq _ _ fGd
    have fB1 := sq _ _ fB1
    have fB2 := sq _ _ fB2
    have fB3 := sq _ _ fB3
    have fB4 := sq _ _ fB4
    have fB5 := sq _ _ fB5
    have s5 : Same H3 K6b := fun b o e => sq _ _ (s5 _ _ e)
    clear sq
    refine fun B7 hB7 => ⟨upd_same, [((Sum.inr "i" : Key), .int 1), ((Sum.inr "a" : Key), .non)], rfl, by show 2 ≤ 15; decide, ?_⟩
    have sq : Same K6b (upd (upd K6b B7 (.dK [])) B7 (.dK (mergeK [] [((Sum.inr "i" : Key), .int 1), ((Sum.inr "a" : Key), .non)]))) := (by rw [upd_upd]; exact same_upd0 hB7)
    have fB7 : (upd (upd K6b B7 (.dK [])) B7 (.dK (mergeK [] [((Sum.inr "i" : Key), .int 1), ((Sum.inr "a" : Key), .non)]))) B7 = some (.dK [((Sum.inr "i" : Key), .int 1), ((Sum.inr "a" : Key), .non)]) := upd_same
    generalize upd (upd K6b B7 (.dK [])) B7 (.dK (mergeK [] [((Sum.inr "i" : Key), .int 1), ((Sum.inr "a" : Key), .non)])) = K7b at sq fB7 ⊢
    have fGd := sq _ _ fGd
    have fB1 := sq _ _ fB1
    have fB2 := sq _ _ fB2
    have fB3 := sq _ _ fB3
    have fB4 := sq _ _ fB4
    have fB5 := sq _ _ fB5
    have fB6 := sq _ _ fB6
    have s5 : Same H3 K7b := fun b o e => sq _ _ (s5 _ _ e)
    clear sq
    refine ⟨by show 8 ≤ sizeLine; decide, fun T2 hT2 => ?_⟩
    have sq : Same K7b (upd K7b T2 (.tup [.non, .ref B1, .ref B2, .ref B3, .ref B4, .ref B5, .ref B6, .ref B7])) := same_upd0 hT2
    have fT2 : (upd K7b T2 (.tup [.non, .ref B1, .ref B2, .ref B3, .ref B4, .ref B5, .ref B6, .ref B7])) T2 = some (.tup [.non, .ref B1, .ref B2, .ref B3, .ref B4, .ref B5, .ref B6, .ref B7]) := upd_same
    generalize upd K7b T2 (.tup [.non, .ref B1, .ref B2, .ref B3, .ref B4, .ref B5, .ref B6, .ref B7]) = K8b at sq fT2 ⊢
    have fGd := sq _ _ fGd
    have fB1 := sq _ _ fB1
    have fB2 := sq _ _ fB2
    have fB3 := sq _ _ fB3
    have fB4 := sq _ _ fB4
    have fB5 := sq _ _ fB5
    have fB6 := sq _ _ fB6
    have fB7 := sq _ _ fB7
    have s5 : Same H3 K8b := fun b o e => sq _ _ (s5 _ _ e)
    clear sq
    have hs5 := Same.seq s5 hs3
    have A5 := A3.same s5
    refine ⟨T2, _, rfl, SqT.of fT2, ?_⟩
    refine for_it walk_enumG (fun i σ H' => ∃ (v4 v5 v6 v7 : Option V), σ = [some (.ref sc), some (.ref a.p), some (.int ((N.f 0 + N.q 0 : Nat) : Int)), some (.ref Gd), v4, v5, v6, v7, none] ∧ Same K8b H') ⟨_, _, _, _, rfl, Same.refl _⟩ (fun i σ H' _ p => ?_) ?_ ?_
    · obtain ⟨_, _, _, _, _, s6⟩ := p
      exact SqT.of (s6 _ _ fT2)
    · rintro i x σ H6 H7 hi ⟨v4, v5, v6, v7, rfl, s6⟩ ⟨T9, x9, rfl, hT, rfl, hx⟩
      have bad : BadB H6 N x9 := by
        have n_o : ∀ i, i < N.n → tg i ≠ "o" := fun i h e => by
          have := tg_inj i (by omega) 4 (by decide) e
          omega
        have n_z : ∀ i, i < N.n → tg i ≠ "zz" := fun i h e => tg_zz i (by omega) e
        match i, hi with
        | 0, _ => cases hx; exact .thing .non (by decide)
        | 1, _ => cases hx; exact .thing (.lst (s6 _ _ fB1)) (by decide)
        | 2, _ => cases hx; exact .no (s6 _ _ fB2) (by decide +kernel) (by decide +kernel) n_o
        | 3, _ => cases hx; exact .no (s6 _ _ fB3) (by decide +kernel) (by decide +kernel) n_z
        | 4, _ => cases hx; exact .one (s6 _ _ fB4) (.inr rfl) trivial (fun y e => by cases e; decide)
        | 5, _ => cases hx; exact .one (s6 _ _ fB5) (.inr rfl) trivial (fun y e => by cases e)
        | 6, _ => cases hx; exact .one (s6 _ _ fB6) (.inl rfl) trivial (fun y e => by cases e)
        | 7, _ => cases hx; exact .two (s6 _ _ fB7)
      refine ⟨T9, _, rfl, SqT.of upd_same, rfl, _, _, rfl, _, _, rfl, rfl, ?_⟩
      have s7 := same_upd s6 (o := .tup [.int (i : Nat), x9]) hT
      have b7 := bad.same (same_upd0 (o := .tup [.int (i : Nat), x9]) hT)
      generalize upd H6 T9 (.tup [.int (i : Nat), x9]) = H7 at s7 b7 ⊢
      clear bad s6 hT hx
      refine ⟨_, rfl, _, rfl, _, _, rfl, rfl, sc, ns, _, 3, rfl, Same.seq s7 hs5, hl, (by show 0 ≤ (510 : Int) + (i : Int); omega), by decide, fun r H8 r0 r3 s8 => ?_⟩
      refine ⟨_, rfl, _, rfl, r, .ref a.p, x9, .int 3, .int 3, rfl, .inr ⟨N, J, a, rfl, A5.same (fun b o e => s8 _ _ (s7 _ _ e)), G, En, .inl ⟨b7.same s8, fun H9 s9 => ⟨true, teB, fun _ _ _ => ?_, fun q => nomatch q⟩⟩⟩⟩
      exact ⟨_, _, _, _, rfl, fun b o e => s9 _ _ (s8 _ _ (s7 _ _ e))⟩
    rintro σ H6 ⟨v4, v5, v6, v7, rfl, s6⟩
    have fGd := s6 _ _ fGd
    have s6 : Same H3 H6 := fun b o e => s6 _ _ (s5 _ _ e)
    clear fB1 fB2 fB3 fB4 fB5 fB6 fB7 fT2
    -- wrong standings
    refine ⟨by show 0 ≤ sizeLine; decide, fun C1 hC1 => ?_⟩
    have sq : Same H6 (upd H6 C1 (.lst [])) := same_upd0 hC1
    have fC1 : (upd H6 C1 (.lst [])) C1 = some (.lst []) := upd_same
    generalize upd H6 C1 (.lst []) = K1c at sq fC1 ⊢
    have fGd := sq _ _ fGd
    have s6 : Same H3 K1c := fun b o e => sq _ _ (s6 _ _ e)
    clear sq
    refine fun C2 hC2 => ?_
    have sq : Same K1c (upd K1c C2 (.dK [])) := same_upd0 hC2
    have fC2 : (upd K1c C2 (.dK [])) C2 = some (.dK []) := upd_same
    generalize upd K1c C2 (.dK []) = K2c at sq fC2 ⊢
    have fGd := sq _ _ fGd
    have fC1 := sq _ _ fC1
    have s6 : Same H3 K2c := fun b o e => sq _ _ (s6 _ _ e)
    clear sq
    refine ⟨_, rfl, Gd, _, rfl, fGd, fun X1 p ts sx _ _ _ hp hts => ?_⟩
    have htl := hts.length
    rw [tkv_len, List.length_range] at htl
    refine ⟨by show 2 ≤ sizeLine; decide, fun T hT => ⟨by show 1 ≤ sizeLine; decide, fun l hl => ⟨p, l, _, _, rfl, rfl, same_upd0 hl _ _ (same_upd0 hT _ _ hp), upd_same, by rw [List.length_map, htl]; exact Nat.le_trans (show N.n + 1 ≤ 5 by omega) (by decide), fun q hq => ?_⟩⟩⟩
    have g2 : Same X1 (upd X1 T (.tup [.str "zz", .int 0])) := same_upd0 hT
    have g3 : Same X1 (upd (upd X1 T (.tup [.str "zz", .int 0])) l (.lst [.ref T])) := same_upd g2 hl
    have g4 : Same X1 (upd (upd (upd X1 T (.tup [.str "zz", .int 0])) l (.lst [.ref T])) q (.lst (ts.map V.ref ++ [.ref T]))) := same_upd g3 hq
    refine ⟨q, ts ++ [T], (tkv (List.range N.n) fun _ => V.int 0) ++ [((Sum.inr "zz" : Key), .int 0)], rfl, SqL.of (by rw [upd_same, List.map_append]; rfl), paired_snoc (Paired.mapP hts fun _ _ z => SqT.of (g4 _ _ z)) (SqT.of (same_upd0 hq _ _ (same_upd0 hl _ _ upd_same))), fun C3 hd => ?_⟩
    have g5 : Same X1 (upd (upd (upd (upd X1 T (.tup [.str "zz", .int 0])) l (.lst [.ref T])) q (.lst (ts.map V.ref ++ [.ref T]))) C3 (.dK (mergeK [] ((tkv (List.range N.n) fun _ => V.int 0) ++ [((Sum.inr "zz" : Key), .int 0)])))) := same_upd g4 hd
    have sq : Same K2c (upd (upd (upd (upd X1 T (.tup [.str "zz", .int 0])) l (.lst [.ref T])) q (.lst (ts.map V.ref ++ [.ref T]))) C3 (.dK (mergeK [] ((tkv (List.range N.n) fun _ => V.int 0) ++ [((Sum.inr "zz" : Key), .int 0)])))) := fun b o e => g5 _ _ (sx _ _ e)
    have fC3 : (upd (upd (upd (upd X1 T (.tup [.str "zz", .int 0])) l (.lst [.ref T])) q (.lst (ts.map V.ref ++ [.ref T]))) C3 (.dK (mergeK [] ((tkv (List.range N.n) fun _ => V.int 0) ++ [((Sum.inr "zz" : Key), .int 0)])))) C3 = some (.dK ((tkv (List.range N.n) fun _ => V.int 0) ++ [((Sum.inr "zz" : Key), .int 0)])) := by rw [upd_same, merge_zz n4]
    generalize upd (upd (upd (upd X1 T (.tup [.str "zz", .int 0])) l (.lst [.ref T])) q (.lst (ts.map V.ref ++ [.ref T]))) C3 (.dK (mergeK [] ((tkv (List.range N.n) fun _ => V.int 0) ++ [((Sum.inr "zz" : Key), .int 0)]))) = K3c at sq fC3 ⊢
    have fGd := sq _ _ fGd
    have fC1 := sq _ _ fC1
    have fC2 := sq _ _ fC2
    have s6 : Same H3 K3c := fun b o e => sq _ _ (s6 _ _ e)
    clear sq
    clear htl g2 g3 g4 g5 sx hp hts hT hl hq hd
    clear X1
    refine ⟨_, rfl, Gd, _, rfl, fGd, fun X1 p ts sx _ _ _ hp hts => ?_⟩
    have htl := hts.length
    rw [tkv_len, List.length_range] at htl
    refine ⟨_, rfl, by show 2 ≤ sizeLine; decide, fun T hT => ⟨by show 1 ≤ sizeLine; decide, fun l hl => ⟨p, l, _, _, rfl, rfl, same_upd0 hl _ _ (same_upd0 hT _ _ hp), upd_same, by rw [List.length_map, htl]; exact Nat.le_trans (show N.n + 1 ≤ 5 by omega) (by decide), fun q hq => ?_⟩⟩⟩
    have g2 : Same X1 (upd X1 T (.tup [.str "a", .int ((N.f 0 + N.q 0 : Nat) : Int)])) := same_upd0 hT
    have g3 : Same X1 (upd (upd X1 T (.tup [.str "a", .int ((N.f 0 + N.q 0 : Nat) : Int)])) l (.lst [.ref T])) := same_upd g2 hl
    have g4 : Same X1 (upd (upd (upd X1 T (.tup [.str "a", .int ((N.f 0 + N.q 0 : Nat) : Int)])) l (.lst [.ref T])) q (.lst (ts.map V.ref ++ [.ref T]))) := same_upd g3 hq
    refine ⟨q, ts ++ [T], (tkv (List.range N.n) fun _ => V.int 0) ++ [((Sum.inr "a" : Key), .int ((N.f 0 + N.q 0 : Nat) : Int))], rfl, SqL.of (by rw [upd_same, List.map_append]; rfl), paired_snoc (Paired.mapP hts fun _ _ z => SqT.of (g4 _ _ z)) (SqT.of (same_upd0 hq _ _ (same_upd0 hl _ _ upd_same))), fun C4 hd => ?_⟩
    have g5 : Same X1 (upd (upd (upd (upd X1 T (.tup [.str "a", .int ((N.f 0 + N.q 0 : Nat) : Int)])) l (.lst [.ref T])) q (.lst (ts.map V.ref ++ [.ref T]))) C4 (.dK (mergeK [] ((tkv (List.range N.n) fun _ => V.int 0) ++ [((Sum.inr "a" : Key), .int ((N.f 0 + N.q 0 : Nat) : Int))])))) := same_upd g4 hd
    have sq : Same K3c (upd (upd (upd (upd X1 T (.tup [.str "a", .int ((N.f 0 + N.q 0 : Nat) : Int)])) l (.lst [.ref T])) q (.lst (ts.map V.ref ++ [.ref T]))) C4 (.dK (mergeK [] ((tkv (List.range N.n) fun _ => V.int 0) ++ [((Sum.inr "a" : Key), .int ((N.f 0 + N.q 0 : Nat) : Int))])))) := fun b o e => g5 _ _ (sx _ _ e)
    have fC4 : (upd (upd (upd (upd X1 T (.tup [.str "a", .int ((N.f 0 + N.q 0 : Nat) : Int)])) l (.lst [.ref T])) q (.lst (ts.map V.ref ++ [.ref T]))) C4 (.dK (mergeK [] ((tkv (List.range N.n) fun _ => V.int 0) ++ [((Sum.inr "a" : Key), .int ((N.f 0 + N.q 0 : Nat) : Int))])))) C4 = some (.dK (tkv (List.range N.n) (setF (fun _ => V.int 0) 0 (.int ((N.f 0 + N.q 0 : Nat) : Int))))) := by rw [upd_same, merge_a n1 n4]
    generalize upd (upd (upd (upd X1 T (.tup [.str "a", .int ((N.f 0 + N.q 0 : Nat) : Int)])) l (.lst [.ref T])) q (.lst (ts.map V.ref ++ [.ref T]))) C4 (.dK (mergeK [] ((tkv (List.range N.n) fun _ => V.int 0) ++ [((Sum.inr "a" : Key), .int ((N.f 0 + N.q 0 : Nat) : Int))]))) = K4c at sq fC4 ⊢
    have fGd := sq _ _ fGd
    have fC1 := sq _ _ fC1
    have fC2 := sq _ _ fC2
    have fC3 := sq _ _ fC3
    have s6 : Same H3 K4c := fun b o e => sq _ _ (s6 _ _ e)
    clear sq
    clear htl g2 g3 g4 g5 sx hp hts hT hl hq hd
    clear X1
    refine ⟨_, rfl, Gd, _, rfl, fGd, fun X1 p ts sx _ _ _ hp hts => ?_⟩
    have htl := hts.length
    rw [tkv_len, List.length_range] at htl
    refine ⟨1, rfl, by show 2 ≤ sizeLine; decide, fun T hT => ⟨by show 1 ≤ sizeLine; decide, fun l hl => ⟨p, l, _, _, rfl, rfl, same_upd0 hl _ _ (same_upd0 hT _ _ hp), upd_same, by rw [List.length_map, htl]; exact Nat.le_trans (show N.n + 1 ≤ 5 by omega) (by decide), fun q hq => ?_⟩⟩⟩
    have g2 : Same X1 (upd X1 T (.tup [.str "a", .int (-1)])) := same_upd0 hT
    have g3 : Same X1 (upd (upd X1 T (.tup [.str "a", .int (-1)])) l (.lst [.ref T])) := same_upd g2 hl
    have g4 : Same X1 (upd (upd (upd X1 T (.tup [.str "a", .int (-1)])) l (.lst [.ref T])) q (.lst (ts.map V.ref ++ [.ref T]))) := same_upd g3 hq
    refine ⟨q, ts ++ [T], (tkv (List.range N.n) fun _ => V.int 0) ++ [((Sum.inr "a" : Key), .int (-1))], rfl, SqL.of (by rw [upd_same, List.map_append]; rfl), paired_snoc (Paired.mapP hts fun _ _ z => SqT.of (g4 _ _ z)) (SqT.of (same_upd0 hq _ _ (same_upd0 hl _ _ upd_same))), fun C5 hd => ?_⟩
    have g5 : Same X1 (upd (upd (upd (upd X1 T (.tup [.str "a", .int (-1)])) l (.lst [.ref T])) q (.lst (ts.map V.ref ++ [.ref T]))) C5 (.dK (mergeK [] ((tkv (List.range N.n) fun _ => V.int 0) ++ [((Sum.inr "a" : Key), .int (-1))])))) := same_upd g4 hd
    have sq : Same K4c (upd (upd (upd (upd X1 T (.tup [.str "a", .int (-1)])) l (.lst [.ref T])) q (.lst (ts.map V.ref ++ [.ref T]))) C5 (.dK (mergeK [] ((tkv (List.range N.n) fun _ => V.int 0) ++ [((Sum.inr "a" : Key), .int (-1))])))) := fun b o e => g5 _ _ (sx _ _ e)
    have fC5 : (upd (upd (upd (upd X1 T (.tup [.str "a", .int (-1)])) l (.lst [.ref T])) q (.lst (ts.map V.ref ++ [.ref T]))) C5 (.dK (mergeK [] ((tkv (List.range N.n) fun _ => V.int 0) ++ [((Sum.inr "a" : Key), .int (-1))])))) C5 = some (.dK (tkv (List.range N.n) (setF (fun _ => V.int 0) 0 (.int (-1))))) := by rw [upd_same, merge_a n1 n4]
    generalize upd (upd (upd (upd X1 T (.tup [.str "a", .int (-1)])) l (.lst [.ref T])) q (.lst (ts.map V.ref ++ [.ref T]))) C5 (.dK (mergeK [] ((tkv (List.range N.n) fun _ => V.int 0) ++ [((Sum.inr "a" : Key), .int (-1))]))) = K5c at sq fC5 ⊢
    have fGd := sq _ _ fGd
    have fC1 := sq _ _ fC1
    have fC2 := sq _ _ fC2
    have fC3 := sq _ _ fC3
    have fC4 := sq _ _ fC4
    have s6 : Same H3 K5c := fun b o e => sq _ _ (s6 _ _ e)
    clear sq
    clear htl g2 g3 g4 g5 sx hp hts hT hl hq hd
    clear X1
    refine ⟨_, rfl, Gd, _, rfl, fGd, fun X1 p ts sx _ _ _ hp hts => ?_⟩
    have htl := hts.length
    rw [tkv_len, List.length_range] at htl
    refine ⟨by show 2 ≤ sizeLine; decide, fun T hT => ⟨by show 1 ≤ sizeLine; decide, fun l hl => ⟨p, l, _, _, rfl, rfl, same_upd0 hl _ _ (same_upd0 hT _ _ hp), upd_same, by rw [List.length_map, htl]; exact Nat.le_trans (show N.n + 1 ≤ 5 by omega) (by decide), fun q hq => ?_⟩⟩⟩
    have g2 : Same X1 (upd X1 T (.tup [.str "a", .bl false])) := same_upd0 hT
    have g3 : Same X1 (upd (upd X1 T (.tup [.str "a", .bl false])) l (.lst [.ref T])) := same_upd g2 hl
    have g4 : Same X1 (upd (upd (upd X1 T (.tup [.str "a", .bl false])) l (.lst [.ref T])) q (.lst (ts.map V.ref ++ [.ref T]))) := same_upd g3 hq
    refine ⟨q, ts ++ [T], (tkv (List.range N.n) fun _ => V.int 0) ++ [((Sum.inr "a" : Key), .bl false)], rfl, SqL.of (by rw [upd_same, List.map_append]; rfl), paired_snoc (Paired.mapP hts fun _ _ z => SqT.of (g4 _ _ z)) (SqT.of (same_upd0 hq _ _ (same_upd0 hl _ _ upd_same))), fun C6 hd => ?_⟩
    have g5 : Same X1 (upd (upd (upd (upd X1 T (.tup [.str "a", .bl false])) l (.lst [.ref T])) q (.lst (ts.map V.ref ++ [.ref T]))) C6 (.dK (mergeK [] ((tkv (List.range N.n) fun _ => V.int 0) ++ [((Sum.inr "a" : Key), .bl false)])))) := same_upd g4 hd
    have sq : Same K5c (upd (upd (upd (upd X1 T (.tup [.str "a", .bl false])) l (.lst [.ref T])) q (.lst (ts.map V.ref ++ [.ref T]))) C6 (.dK (mergeK [] ((tkv (List.range N.n) fun _ => V.int 0) ++ [((Sum.inr "a" : Key), .bl false)])))) := fun b o e => g5 _ _ (sx _ _ e)
    have fC6 : (upd (upd (upd (upd X1 T (.tup [.str "a", .bl false])) l (.lst [.ref T])) q (.lst (ts.map V.ref ++ [.ref T]))) C6 (.dK (mergeK [] ((tkv (List.range N.n) fun _ => V.int 0) ++ [((Sum.inr "a" : Key), .bl false)])))) C6 = some (.dK (tkv (List.range N.n) (setF (fun _ => V.int 0) 0 (.bl false)))) := by rw [upd_same, merge_a n1 n4]
    generalize upd (upd (upd (upd X1 T (.tup [.str "a", .bl false])) l (.lst [.ref T])) q (.lst (ts.map V.ref ++ [.ref T]))) C6 (.dK (mergeK [] ((tkv (List.range N.n) fun _ => V.int 0) ++ [((Sum.inr "a" : Key), .bl false)]))) = K6c at sq fC6 ⊢
    have fGd := sq _ _ fGd
    have fC1 := sq _ _ fC1
    have fC2 := sq _ _ fC2
    have fC3 := sq _ _ fC3
    have fC4 := sq _ _ fC4
    have fC5 := sq _ _ fC5
    have s6 : Same H3 K6c := fun b o e => sq _ _ (s6 _ _ e)
    clear sq
    clear htl g2 g3 g4 g5 sx hp hts hT hl hq hd
    clear X1
    refine ⟨by show 7 ≤ sizeLine; decide, fun T3 hT3 => ?_⟩
    have sq : Same K6c (upd K6c T3 (.tup [.int 3, .ref C1, .ref C2, .ref C3, .ref C4, .ref C5, .ref C6])) := same_upd0 hT3
    have fT3 : (upd K6c T3 (.tup [.int 3, .ref C1, .ref C2, .ref C3, .ref C4, .ref C5, .ref C6])) T3 = some (.tup [.int 3, .ref C1, .ref C2, .ref C3, .ref C4, .ref C5, .ref C6]) := upd_same
    generalize upd K6c T3 (.tup [.int 3, .ref C1, .ref C2, .ref C3, .ref C4, .ref C5, .ref C6]) = K7c at sq fT3 ⊢
    have fGd := sq _ _ fGd
    have fC1 := sq _ _ fC1
    have fC2 := sq _ _ fC2
    have fC3 := sq _ _ fC3
    have fC4 := sq _ _ fC4
    have fC5 := sq _ _ fC5
    have fC6 := sq _ _ fC6
    have s6 : Same H3 K7c := fun b o e => sq _ _ (s6 _ _ e)
    clear sq
    have hs6 := Same.seq s6 hs3
    have A6 := A3.same s6
    refine ⟨T3, _, rfl, SqT.of fT3, for_it walk_enumG (fun i σ H' => ∃ (v4 v5 v6 v7 : Option V), σ = [some (.ref sc), some (.ref a.p), some (.int ((N.f 0 + N.q 0 : Nat) : Int)), some (.ref Gd), v4, v5, v6, v7, none] ∧ Same K7c H') ⟨_, _, _, _, rfl, Same.refl _⟩ (fun i σ H' _ p => ?_) ?_ ?_⟩
    · obtain ⟨_, _, _, _, _, s7⟩ := p
      exact SqT.of (s7 _ _ fT3)
    · rintro i x σ H7 H8 hi ⟨v4, v5, v6, v7, rfl, s7⟩ ⟨T9, x9, rfl, hT, rfl, hx⟩
      obtain ⟨nn9, bad⟩ : x9 ≠ .non ∧ BadSt H7 N x9 := by
        have pl : ∀ {d : Addr} {x : V}, H7 d = some (.dK (tkv (List.range N.n) (setF (fun _ => V.int 0) 0 x))) → plain4 x → (∀ z, x = .int z → ¬ (0 ≤ z ∧ z < N.f 0 + N.q 0)) → BadSt H7 N (.ref d) := fun e p h => .place e (by rw [setF_same]; exact p) fun z ez => h z (by rw [setF_same] at ez; exact ez)
        match i, hi with
        | 0, _ => cases hx; exact ⟨by simp, .thing (.int 3) (by decide)⟩
        | 1, _ => cases hx; exact ⟨by simp, .thing (.lst (s7 _ _ fC1)) (by decide)⟩
        | 2, _ => cases hx; exact ⟨by simp, .len (s7 _ _ fC2) (by show 0 ≠ N.n; omega)⟩
        | 3, _ => cases hx; exact ⟨by simp, .len (s7 _ _ fC3) (by rw [List.length_append, tkv_len, List.length_range]; show N.n + 1 ≠ N.n; omega)⟩
        | 4, _ => cases hx; exact ⟨by simp, pl (s7 _ _ fC4) trivial (fun z e => by cases e; omega)⟩
        | 5, _ => cases hx; exact ⟨by simp, pl (s7 _ _ fC5) trivial (fun z e => by cases e; omega)⟩
        | 6, _ => cases hx; exact ⟨by simp, pl (s7 _ _ fC6) trivial (fun z e => by cases e)⟩
      refine ⟨T9, _, rfl, SqT.of upd_same, rfl, _, _, rfl, _, _, rfl, rfl, ?_⟩
      have s8 := same_upd s7 (o := .tup [.int (i : Nat), x9]) hT
      have b8 := bad.same (same_upd0 (o := .tup [.int (i : Nat), x9]) hT)
      generalize upd H7 T9 (.tup [.int (i : Nat), x9]) = H8 at s8 b8 ⊢
      clear bad s7 hT hx
      refine ⟨_, rfl, _, rfl, _, _, rfl, rfl, sc, ns, _, 3, rfl, Same.seq s8 hs6, hl, (by show 0 ≤ (530 : Int) + (i : Int); omega), by decide, fun r H9 r0 r3 s9 => ?_⟩
      refine ⟨_, rfl, fun Bd hBd => ⟨upd_same, [((Sum.inr "a" : Key), .int 1)], rfl, by show 1 ≤ 15; decide, ?_⟩⟩
      have sB : Same H9 (upd (upd H9 Bd (.dK [])) Bd (.dK (mergeK [] [((Sum.inr "a" : Key), .int 1)]))) := by rw [upd_upd]; exact same_upd0 hBd
      have hB : (upd (upd H9 Bd (.dK [])) Bd (.dK (mergeK [] [((Sum.inr "a" : Key), .int 1)]))) Bd = some (.dK (entB [("a", 0, 1)])) := upd_same
      generalize upd (upd H9 Bd (.dK [])) Bd (.dK (mergeK [] [((Sum.inr "a" : Key), .int 1)])) = HB at sB hB ⊢
      have gb : GoodB HB N J (.ref Bd) [("a", 0, 1)] := ⟨⟨Bd, rfl, hB⟩, by decide, by decide +kernel, by simp, fun e he => by rw [List.mem_singleton.mp he]; exact ⟨by show 0 < N.n; omega, .inr (.inr ⟨rfl, rfl⟩)⟩⟩
      refine ⟨_, rfl, r, .ref a.p, .ref Bd, x9, .int 3, rfl, .inr ⟨N, J, a, rfl, A6.same (fun b o e => sB _ _ (s9 _ _ (s8 _ _ e))), G, En, .inr ⟨⟨_, gb⟩, nn9, (b8.same s9).same sB, fun HC sC => ⟨true, teS, fun _ _ _ => ?_, fun q => nomatch q⟩⟩⟩⟩
      exact ⟨_, _, _, _, rfl, fun b o e => sC _ _ (sB _ _ (s9 _ _ (s8 _ _ e)))⟩
    rintro σ H7 ⟨v4, v5, v6, v7, rfl, s7⟩
    have s7 : Same H3 H7 := fun b o e => s7 _ _ (s6 _ _ e)
    clear fC1 fC2 fC3 fC4 fC5 fC6 fT3
    -- wrong orders
    refine ⟨by show 2 ≤ sizeLine; decide, fun P1 hP1 => ?_⟩
    have sq : Same H7 (upd H7 P1 (.tup [.non, .non])) := same_upd0 hP1
    have fP1 : (upd H7 P1 (.tup [.non, .non])) P1 = some (.tup [.non, .non]) := upd_same
    generalize upd H7 P1 (.tup [.non, .non]) = K1d at sq fP1 ⊢
    have s7 : Same H3 K1d := fun b o e => sq _ _ (s7 _ _ e)
    clear sq
    refine ⟨by show 2 ≤ sizeLine; decide, fun P2 hP2 => ?_⟩
    have sq : Same K1d (upd K1d P2 (.tup [.str "a", .non])) := same_upd0 hP2
    have fP2 : (upd K1d P2 (.tup [.str "a", .non])) P2 = some (.tup [.str "a", .non]) := upd_same
    generalize upd K1d P2 (.tup [.str "a", .non]) = K2d at sq fP2 ⊢
    have fP1 := sq _ _ fP1
    have s7 : Same H3 K2d := fun b o e => sq _ _ (s7 _ _ e)
    clear sq
    refine fun E3 hE3 => ?_
    have sq : Same K2d (upd K2d E3 (.dK [])) := same_upd0 hE3
    have fE3 : (upd K2d E3 (.dK [])) E3 = some (.dK []) := upd_same
    generalize upd K2d E3 (.dK []) = K3d at sq fE3 ⊢
    have fP1 := sq _ _ fP1
    have fP2 := sq _ _ fP2
    have s7 : Same H3 K3d := fun b o e => sq _ _ (s7 _ _ e)
    clear sq
    refine ⟨by show 2 ≤ sizeLine; decide, fun P3 hP3 => ?_⟩
    have sq : Same K3d (upd K3d P3 (.tup [.ref E3, .non])) := same_upd0 hP3
    have fP3 : (upd K3d P3 (.tup [.ref E3, .non])) P3 = some (.tup [.ref E3, .non]) := upd_same
    generalize upd K3d P3 (.tup [.ref E3, .non]) = K4d at sq fP3 ⊢
    have fP1 := sq _ _ fP1
    have fP2 := sq _ _ fP2
    have fE3 := sq _ _ fE3
    have s7 : Same H3 K4d := fun b o e => sq _ _ (s7 _ _ e)
    clear sq
    refine ⟨by show 2 ≤ sizeLine; decide, fun S40 hS40 => ?_⟩
    have sq : Same K4d (upd K4d S40 (.tup [.str "a", .int 1])) := same_upd0 hS40
    have fS40 : (upd K4d S40 (.tup [.str "a", .int 1])) S40 = some (.tup [.str "a", .int 1]) := upd_same
    generalize upd K4d S40 (.tup [.str "a", .int 1]) = K5d at sq fS40 ⊢
    have fP1 := sq _ _ fP1
    have fP2 := sq _ _ fP2
    have fE3 := sq _ _ fE3
    have fP3 := sq _ _ fP3
    have s7 : Same H3 K5d := fun b o e => sq _ _ (s7 _ _ e)
    clear sq
    refine ⟨by show 2 ≤ sizeLine; decide, fun S41 hS41 => ?_⟩
    have sq : Same K5d (upd K5d S41 (.tup [.str "a", .int 9])) := same_upd0 hS41
    have fS41 : (upd K5d S41 (.tup [.str "a", .int 9])) S41 = some (.tup [.str "a", .int 9]) := upd_same
    generalize upd K5d S41 (.tup [.str "a", .int 9]) = K6d at sq fS41 ⊢
    have fP1 := sq _ _ fP1
    have fP2 := sq _ _ fP2
    have fE3 := sq _ _ fE3
    have fP3 := sq _ _ fP3
    have fS40 := sq _ _ fS40
    have s7 : Same H3 K6d := fun b o e => sq _ _ (s7 _ _ e)
    clear sq
    refine ⟨by show 2 ≤ sizeLine; decide, fun L4 hL4 => ?_⟩
    have sq : Same K6d (upd K6d L4 (.lst [.ref S40, .ref S41])) := same_upd0 hL4
    have fL4 : (upd K6d L4 (.lst [.ref S40, .ref S41])) L4 = some (.lst [.ref S40, .ref S41]) := upd_same
    generalize upd K6d L4 (.lst [.ref S40, .ref S41]) = K7d at sq fL4 ⊢
    have fP1 := sq _ _ fP1
    have fP2 := sq _ _ fP2
    have fE3 := sq _ _ fE3
    have fP3 := sq _ _ fP3
    have fS40 := sq _ _ fS40
    have fS41 := sq _ _ fS41
    have s7 : Same H3 K7d := fun b o e => sq _ _ (s7 _ _ e)
    clear sq
    refine ⟨by show 2 ≤ sizeLine; decide, fun P4 hP4 => ?_⟩
    have sq : Same K7d (upd K7d P4 (.tup [.ref L4, .int 1])) := same_upd0 hP4
    have fP4 : (upd K7d P4 (.tup [.ref L4, .int 1])) P4 = some (.tup [.ref L4, .int 1]) := upd_same
    generalize upd K7d P4 (.tup [.ref L4, .int 1]) = K8d at sq fP4 ⊢
    have fP1 := sq _ _ fP1
    have fP2 := sq _ _ fP2
    have fE3 := sq _ _ fE3
    have fP3 := sq _ _ fP3
    have fS40 := sq _ _ fS40
    have fS41 := sq _ _ fS41
    have fL4 := sq _ _ fL4
    have s7 : Same H3 K8d := fun b o e => sq _ _ (s7 _ _ e)
    clear sq
    refine ⟨by show 2 ≤ sizeLine; decide, fun S50 hS50 => ?_⟩
    have sq : Same K8d (upd K8d S50 (.tup [.str "zz", .int 1])) := same_upd0 hS50
    have fS50 : (upd K8d S50 (.tup [.str "zz", .int 1])) S50 = some (.tup [.str "zz", .int 1]) := upd_same
    generalize upd K8d S50 (.tup [.str "zz", .int 1]) = K9d at sq fS50 ⊢
    have fP1 := sq _ _ fP1
    have fP2 := sq _ _ fP2
    have fE3 := sq _ _ fE3
    have fP3 := sq _ _ fP3
    have fS40 := sq _ _ fS40
    have fS41 := sq _ _ fS41
    have fL4 := sq _ _ fL4
    have fP4 := sq _ _ fP4
    have s7 : Same H3 K9d := fun b o e => sq _ _ (s7 _ _ e)
    clear sq
    refine ⟨by show 1 ≤ sizeLine; decide, fun L5 hL5 => ?_⟩
    have sq : Same K9d (upd K9d L5 (.lst [.ref S50])) := same_upd0 hL5
    have fL5 : (upd K9d L5 (.lst [.ref S50])) L5 = some (.lst [.ref S50]) := upd_same
    generalize upd K9d L5 (.lst [.ref S50]) = K10d at sq fL5 ⊢
    have fP1 := sq _ _ fP1
    have fP2 := sq _ _ fP2
    have fE3 := sq _ _ fE3
    have fP3 := sq _ _ fP3
    have fS40 := sq _ _ fS40
    have fS41 := sq _ _ fS41
    have fL4 := sq _ _ fL4
    have fP4 := sq _ _ fP4
    have fS50 := sq _ _ fS50
    have s7 : Same H3 K10d := fun b o e => sq _ _ (s7 _ _ e)
    clear sq
    refine ⟨by show 2 ≤ sizeLine; decide, fun P5 hP5 => ?_⟩
    have sq : Same K10d (upd K10d P5 (.tup [.ref L5, .int 0])) := same_upd0 hP5
    have fP5 : (upd K10d P5 (.tup [.ref L5, .int 0])) P5 = some (.tup [.ref L5, .int 0]) := upd_same
    generalize upd K10d P5 (.tup [.ref L5, .int 0]) = K11d at sq fP5 ⊢
    have fP1 := sq _ _ fP1
    have fP2 := sq _ _ fP2
    have fE3 := sq _ _ fE3
    have fP3 := sq _ _ fP3
    have fS40 := sq _ _ fS40
    have fS41 := sq _ _ fS41
    have fL4 := sq _ _ fL4
    have fP4 := sq _ _ fP4
    have fS50 := sq _ _ fS50
    have fL5 := sq _ _ fL5
    have s7 : Same H3 K11d := fun b o e => sq _ _ (s7 _ _ e)
    clear sq
    refine ⟨by show 2 ≤ sizeLine; decide, fun S60 hS60 => ?_⟩
    have sq : Same K11d (upd K11d S60 (.tup [.str "a", .bl true])) := same_upd0 hS60
    have fS60 : (upd K11d S60 (.tup [.str "a", .bl true])) S60 = some (.tup [.str "a", .bl true]) := upd_same
    generalize upd K11d S60 (.tup [.str "a", .bl true]) = K12d at sq fS60 ⊢
    have fP1 := sq _ _ fP1
    have fP2 := sq _ _ fP2
    have fE3 := sq _ _ fE3
    have fP3 := sq _ _ fP3
    have fS40 := sq _ _ fS40
    have fS41 := sq _ _ fS41
    have fL4 := sq _ _ fL4
    have fP4 := sq _ _ fP4
    have fS50 := sq _ _ fS50
    have fL5 := sq _ _ fL5
    have fP5 := sq _ _ fP5
    have s7 : Same H3 K12d := fun b o e => sq _ _ (s7 _ _ e)
    clear sq
    refine ⟨by show 1 ≤ sizeLine; decide, fun L6 hL6 => ?_⟩
    have sq : Same K12d (upd K12d L6 (.lst [.ref S60])) := same_upd0 hL6
    have fL6 : (upd K12d L6 (.lst [.ref S60])) L6 = some (.lst [.ref S60]) := upd_same
    generalize upd K12d L6 (.lst [.ref S60]) = K13d at sq fL6 ⊢
    have fP1 := sq _ _ fP1
    have fP2 := sq _ _ fP2
    have fE3 := sq _ _ fE3
    have fP3 := sq _ _ fP3
    have fS40 := sq _ _ fS40
    have fS41 := sq _ _ fS41
    have fL4 := sq _ _ fL4
    have fP4 := sq _ _ fP4
    have fS50 := sq _ _ fS50
    have fL5 := sq _ _ fL5
    have fP5 := sq _ _ fP5
    have fS60 := sq _ _ fS60
    have s7 : Same H3 K13d := fun b o e => sq _ _ (s7 _ _ e)
    clear sq
    refine ⟨by show 2 ≤ sizeLine; decide, fun P6 hP6 => ?_⟩
    have sq : Same K13d (upd K13d P6 (.tup [.ref L6, .int 0])) := same_upd0 hP6
    have fP6 : (upd K13d P6 (.tup [.ref L6, .int 0])) P6 = some (.tup [.ref L6, .int 0]) := upd_same
    generalize upd K13d P6 (.tup [.ref L6, .int 0]) = K14d at sq fP6 ⊢
    have fP1 := sq _ _ fP1
    have fP2 := sq _ _ fP2
    have fE3 := sq _ _ fE3
    have fP3 := sq _ _ fP3
    have fS40 := sq _ _ fS40
    have fS41 := sq _ _ fS41
    have fL4 := sq _ _ fL4
    have fP4 := sq _ _ fP4
    have fS50 := sq _ _ fS50
    have fL5 := sq _ _ fL5
    have fP5 := sq _ _ fP5
    have fS60 := sq _ _ fS60
    have fL6 := sq _ _ fL6
    have s7 : Same H3 K14d := fun b o e => sq _ _ (s7 _ _ e)
    clear sq
    refine ⟨by show 2 ≤ sizeLine; decide, fun S70 hS70 => ?_⟩
    have sq : Same K14d (upd K14d S70 (.tup [.str "a", .str "1"])) := same_upd0 hS70
    have fS70 : (upd K14d S70 (.tup [.str "a", .str "1"])) S70 = some (.tup [.str "a", .str "1"]) := upd_same
    generalize upd K14d S70 (.tup [.str "a", .str "1"]) = K15d at sq fS70 ⊢
    have fP1 := sq _ _ fP1
    have fP2 := sq _ _ fP2
    have fE3 := sq _ _ fE3
    have fP3 := sq _ _ fP3
    have fS40 := sq _ _ fS40
    have fS41 := sq _ _ fS41
    have fL4 := sq _ _ fL4
    have fP4 := sq _ _ fP4
    have fS50 := sq _ _ fS50
    have fL5 := sq _ _ fL5
    have fP5 := sq _ _ fP5
    have fS60 := sq _ _ fS60
    have fL6 := sq _ _ fL6
    have fP6 := sq _ _ fP6
    have s7 : Same H3 K15d := fun b o e => sq _ _ (s7 _ _ e)
    clear sq
    refine ⟨by show 1 ≤ sizeLine; decide, fun L7 hL7 => ?_⟩
    have sq : Same K15d (upd K15d L7 (.lst [.ref S70])) := same_upd0 hL7
    have fL7 : (upd K15d L7 (.lst [.ref S70])) L7 = some (.lst [.ref S70]) := upd_same
    generalize upd K15d L7 (.lst [.ref S70]) = K16d at sq fL7 ⊢
    have fP1 := sq _ _ fP1
    have fP2 := sq _ _ fP2
    have fE3 := sq _ _ fE3
    have fP3 := sq _ _ fP3
    have fS40 := sq _ _ fS40
    have fS41 := sq _ _ fS41
    have fL4 := sq _ _ fL4
    have fP4 := sq _ _ fP4
    have fS50 := sq _ _ fS50
    have fL5 := sq _ _ fL5
    have fP5 := sq _ _ fP5
    have fS60 := sq _ _ fS60
    have fL6 := sq _ _ fL6
    have fP6 := sq _ _ fP6
    have fS70 := sq _ _ fS70
    have s7 : Same H3 K16d := fun b o e => sq _ _ (s7 _ _ e)
    clear sq
    refine ⟨by show 2 ≤ sizeLine; decide, fun P7 hP7 => ?_⟩
    have sq : Same K16d (upd K16d P7 (.tup [.ref L7, .int 0])) := same_upd0 hP7
    have fP7 : (upd K16d P7 (.tup [.ref L7, .int 0])) P7 = some (.tup [.ref L7, .int 0]) := upd_same
    generalize upd K16d P7 (.tup [.ref L7, .int 0]) = K17d at sq fP7 ⊢
    have fP1 := sq _ _ fP1
    have fP2 := sq _ _ fP2
    have fE3 := sq _ _ fE3
    have fP3 := sq _ _ fP3
    have fS40 := sq _ _ fS40
    have fS41 := sq _ _ fS41
    have fL4 := sq _ _ fL4
    have fP4 := sq _ _ fP4
    have fS50 := sq _ _ fS50
    have fL5 := sq _ _ fL5
    have fP5 := sq _ _ fP5
    have fS60 := sq _ _ fS60
    have fL6 := sq _ _ fL6
    have fP6 := sq _ _ fP6
    have fS70 := sq _ _ fS70
    have fL7 := sq _ _ fL7
    have s7 : Same H3 K17d := fun b o e => sq _ _ (s7 _ _ e)
    clear sq
    refine ⟨by show 2 ≤ sizeLine; decide, fun S80 hS80 => ?_⟩
    have sq : Same K17d (upd K17d S80 (.tup [.str "a", .int 0])) := same_upd0 hS80
    have fS80 : (upd K17d S80 (.tup [.str "a", .int 0])) S80 = some (.tup [.str "a", .int 0]) := upd_same
    generalize upd K17d S80 (.tup [.str "a", .int 0]) = K18d at sq fS80 ⊢
    have fP1 := sq _ _ fP1
    have fP2 := sq _ _ fP2
    have fE3 := sq _ _ fE3
    have fP3 := sq _ _ fP3
    have fS40 := sq _ _ fS40
    have fS41 := sq _ _ fS41
    have fL4 := sq _ _ fL4
    have fP4 := sq _ _ fP4
    have fS50 := sq _ _ fS50
    have fL5 := sq _ _ fL5
    have fP5 := sq _ _ fP5
    have fS60 := sq _ _ fS60
    have fL6 := sq _ _ fL6
    have fP6 := sq _ _ fP6
    have fS70 := sq _ _ fS70
    have fL7 := sq _ _ fL7
    have fP7 := sq _ _ fP7
    have s7 : Same H3 K18d := fun b o e => sq _ _ (s7 _ _ e)
    clear sq
    refine ⟨by show 1 ≤ sizeLine; decide, fun L8 hL8 => ?_⟩
    have sq : Same K18d (upd K18d L8 (.lst [.ref S80])) := same_upd0 hL8
    have fL8 : (upd K18d L8 (.lst [.ref S80])) L8 = some (.lst [.ref S80]) := upd_same
    generalize upd K18d L8 (.lst [.ref S80]) = K19d at sq fL8 ⊢
    have fP1 := sq _ _ fP1
    have fP2 := sq _ _ fP2
    have fE3 := sq _ _ fE3
    have fP3 := sq _ _ fP3
    have fS40 := sq _ _ fS40
    have fS41 := sq _ _ fS41
    have fL4 := sq _ _ fL4
    have fP4 := sq _ _ fP4
    have fS50 := sq _ _ fS50
    have fL5 := sq _ _ fL5
    have fP5 := sq _ _ fP5
    have fS60 := sq _ _ fS60
    have fL6 := sq _ _ fL6
    have fP6 := sq _ _ fP6
    have fS70 := sq _ _ fS70
    have fL7 := sq _ _ fL7
    have fP7 := sq _ _ fP7
    have fS80 := sq _ _ fS80
    have s7 : Same H3 K19d := fun b o e => sq _ _ (s7 _ _ e)
    clear sq
    refine ⟨by show 2 ≤ sizeLine; decide, fun P8 hP8 => ?_⟩
    have sq : Same K19d (upd K19d P8 (.tup [.ref L8, .int 0])) := same_upd0 hP8
    have fP8 : (upd K19d P8 (.tup [.ref L8, .int 0])) P8 = some (.tup [.ref L8, .int 0]) := upd_same
    generalize upd K19d P8 (.tup [.ref L8, .int 0]) = K20d at sq fP8 ⊢
    have fP1 := sq _ _ fP1
    have fP2 := sq _ _ fP2
    have fE3 := sq _ _ fE3
    have fP3 := sq _ _ fP3
    have fS40 := sq _ _ fS40
    have fS41 := sq _ _ fS41
    have fL4 := sq _ _ fL4
    have fP4 := sq _ _ fP4
    have fS50 := sq _ _ fS50
    have fL5 := sq _ _ fL5
    have fP5 := sq _ _ fP5
    have fS60 := sq _ _ fS60
    have fL6 := sq _ _ fL6
    have fP6 := sq _ _ fP6
    have fS70 := sq _ _ fS70
    have fL7 := sq _ _ fL7
    have fP7 := sq _ _ fP7
    have fS80 := sq _ _ fS80
    have fL8 := sq _ _ fL8
    have s7 : Same H3 K20d := fun b o e => sq _ _ (s7 _ _ e)
    clear sq
    refine ⟨by show 2 ≤ sizeLine; decide, fun S90 hS90 => ?_⟩
    have sq : Same K20d (upd K20d S90 (.lst [.str "a", .int 1])) := same_upd0 hS90
    have fS90 : (upd K20d S90 (.lst [.str "a", .int 1])) S90 = some (.lst [.str "a", .int 1]) := upd_same
    generalize upd K20d S90 (.lst [.str "a", .int 1]) = K21d at sq fS90 ⊢
    have fP1 := sq _ _ fP1
    have fP2 := sq _ _ fP2
    have fE3 := sq _ _ fE3
    have fP3 := sq _ _ fP3
    have fS40 := sq _ _ fS40
    have fS41 := sq _ _ fS41
    have fL4 := sq _ _ fL4
    have fP4 := sq _ _ fP4
    have fS50 := sq _ _ fS50
    have fL5 := sq _ _ fL5
    have fP5 := sq _ _ fP5
    have fS60 := sq _ _ fS60
    have fL6 := sq _ _ fL6
    have fP6 := sq _ _ fP6
    have fS70 := sq _ _ fS70
    have fL7 := sq _ _ fL7
    have fP7 := sq _ _ fP7
    have fS80 := sq _ _ fS80
    have fL8 := sq _ _ fL8
    have fP8 := sq _ _ fP8
    have s7 : Same H3 K21d := fun b o e => sq _ _ (s7 _ _ e)
    clear sq
    refine ⟨by show 1 ≤ sizeLine; decide, fun L9 hL9 => ?_⟩
    have sq : Same K21d (upd K21d L9 (.lst [.ref S90])) := same_upd0 hL9
    have fL9 : (upd K21d L9 (.lst [.ref S90])) L9 = some (.lst [.ref S90]) := upd_same
    generalize upd K21d L9 (.lst [.ref S90]) = K22d at sq fL9 ⊢
    have fP1 := sq _ _ fP1
    have fP2 := sq _ _ fP2
    have fE3 := sq _ _ fE3
    have fP3 := sq _ _ fP3
    have fS40 := sq _ _ fS40
    have fS41 := sq _ _ fS41
    have fL4 := sq _ _ fL4
    have fP4 := sq _ _ fP4
    have fS50 := sq _ _ fS50
    have fL5 := sq _ _ fL5
    have fP5 := sq _ _ fP5
    have fS60 := sq _ _ fS60
    have fL6 := sq _ _ fL6
    have fP6 := sq _ _ fP6
    have fS70 := sq _ _ fS70
    have fL7 := sq _ _ fL7
    have fP7 := sq _ _ fP7
    have fS80 := sq _ _ fS80
    have fL8 := sq _ _ fL8
    have fP8 := sq _ _ fP8
    have fS90 := sq _ _ fS90
    have s7 : Same H3 K22d := fun b o e => sq _ _ (s7 _ _ e)
    clear sq
    refine ⟨by show 2 ≤ sizeLine; decide, fun P9 hP9 => ?_⟩
    have sq : Same K22d (upd K22d P9 (.tup [.ref L9, .int 0])) := same_upd0 hP9
    have fP9 : (upd K22d P9 (.tup [.ref L9, .int 0])) P9 = some (.tup [.ref L9, .int 0]) := upd_same
    generalize upd K22d P9 (.tup [.ref L9, .int 0]) = K23d at sq fP9 ⊢
    have fP1 := sq _ _ fP1
    have fP2 := sq _ _ fP2
    have fE3 := sq _ _ fE3
    have fP3 := sq _ _ fP3
    have fS40 := sq _ _ fS40
    have fS41 := sq _ _ fS41
    have fL4 := sq _ _ fL4
    have fP4 := sq _ _ fP4
    have fS50 := sq _ _ fS50
    have fL5 := sq _ _ fL5
    have fP5 := sq _ _ fP5
    have fS60 := sq _ _ fS60
    have fL6 := sq _ _ fL6
    have fP6 := sq _ _ fP6
    have fS70 := sq _ _ fS70
    have fL7 := sq _ _ fL7
    have fP7 := sq _ _ fP7
    have fS80 := sq _ _ fS80
    have fL8 := sq _ _ fL8
    have fP8 := sq _ _ fP8
    have fS90 := sq _ _ fS90
    have fL9 := sq _ _ fL9
    have s7 : Same H3 K23d := fun b o e => sq _ _ (s7 _ _ e)
    clear sq
    refine ⟨by show 1 ≤ sizeLine; decide, fun S100 hS100 => ?_⟩
    have sq : Same K23d (upd K23d S100 (.tup [.str "a"])) := same_upd0 hS100
    have fS100 : (upd K23d S100 (.tup [.str "a"])) S100 = some (.tup [.str "a"]) := upd_same
    generalize upd K23d S100 (.tup [.str "a"]) = K24d at sq fS100 ⊢
    have fP1 := sq _ _ fP1
    have fP2 := sq _ _ fP2
    have fE3 := sq _ _ fE3
    have fP3 := sq _ _ fP3
    have fS40 := sq _ _ fS40
    have fS41 := sq _ _ fS41
    have fL4 := sq _ _ fL4
    have fP4 := sq _ _ fP4
    have fS50 := sq _ _ fS50
    have fL5 := sq _ _ fL5
    have fP5 := sq _ _ fP5
    have fS60 := sq _ _ fS60
    have fL6 := sq _ _ fL6
    have fP6 := sq _ _ fP6
    have fS70 := sq _ _ fS70
    have fL7 := sq _ _ fL7
    have fP7 := sq _ _ fP7
    have fS80 := sq _ _ fS80
    have fL8 := sq _ _ fL8
    have fP8 := sq _ _ fP8
    have fS90 := sq _ _ fS90
    have fL9 := sq _ _ fL9
    have fP9 := sq _ _ fP9
    have s7 : Same H3 K24d := fun b o e => sq _ _ (s7 _ _ e)
    clear sq
    refine ⟨by show 1 ≤ sizeLine; decide, fun L10 hL10 => ?_⟩
    have sq : Same K24d (upd K24d L10 (.lst [.ref S100])) := same_upd0 hL10
    have fL10 : (upd K24d L10 (.lst [.ref S100])) L10 = some (.lst [.ref S100]) := upd_same
    generalize upd K24d L10 (.lst [.ref S100]) = K25d at sq fL10 ⊢
    have fP1 := sq _ _ fP1
    have fP2 := sq _ _ fP2
    have fE3 := sq _ _ fE3
    have fP3 := sq _ _ fP3
    have fS40 := sq _ _ fS40
    have fS41 := sq _ _ fS41
    have fL4 := sq _ _ fL4
    have fP4 := sq _ _ fP4
    have fS50 := sq _ _ fS50
    have fL5 := sq _ _ fL5
    have fP5 := sq _ _ fP5
    have fS60 := sq _ _ fS60
    have fL6 := sq _ _ fL6
    have fP6 := sq _ _ fP6
    have fS70 := sq _ _ fS70
    have fL7 := sq _ _ fL7
    have fP7 := sq _ _ fP7
    have fS80 := sq _ _ fS80
    have fL8 := sq _ _ fL8
    have fP8 := sq _ _ fP8
    have fS90 := sq _ _ fS90
    have fL9 := sq _ _ fL9
    have fP9 := sq _ _ fP9
    have fS100 := sq _ _ fS100
    have s7 : Same H3 K25d := fun b o e => sq _ _ (s7 _ _ e)
    clear sq
    refine ⟨by show 2 ≤ sizeLine; decide, fun P10 hP10 => ?_⟩
    have sq : Same K25d (upd K25d P10 (.tup [.ref L10, .int 0])) := same_upd0 hP10
    have fP10 : (upd K25d P10 (.tup [.ref L10, .int 0])) P10 = some (.tup [.ref L10, .int 0]) := upd_same
    generalize upd K25d P10 (.tup [.ref L10, .int 0]) = K26d at sq fP10 ⊢
    have fP1 := sq _ _ fP1
    have fP2 := sq _ _ fP2
    have fE3 := sq _ _ fE3
    have fP3 := sq _ _ fP3
    have fS40 := sq _ _ fS40
    have fS41 := sq _ _ fS41
    have fL4 := sq _ _ fL4
    have fP4 := sq _ _ fP4
    have fS50 := sq _ _ fS50
    have fL5 := sq _ _ fL5
    have fP5 := sq _ _ fP5
    have fS60 := sq _ _ fS60
    have fL6 := sq _ _ fL6
    have fP6 := sq _ _ fP6
    have fS70 := sq _ _ fS70
    have fL7 := sq _ _ fL7
    have fP7 := sq _ _ fP7
    have fS80 := sq _ _ fS80
    have fL8 := sq _ _ fL8
    have fP8 := sq _ _ fP8
    have fS90 := sq _ _ fS90
    have fL9 := sq _ _ fL9
    have fP9 := sq _ _ fP9
    have fS100 := sq _ _ fS100
    have fL10 := sq _ _ fL10
    have s7 : Same H3 K26d := fun b o e => sq _ _ (s7 _ _ e)
    clear sq
    refine ⟨by show 2 ≤ sizeLine; decide, fun S110 hS110 => ?_⟩
    have sq : Same K26d (upd K26d S110 (.tup [.str "a", .int 1])) := same_upd0 hS110
    have fS110 : (upd K26d S110 (.tup [.str "a", .int 1])) S110 = some (.tup [.str "a", .int 1]) := upd_same
    generalize upd K26d S110 (.tup [.str "a", .int 1]) = K27d at sq fS110 ⊢
    have fP1 := sq _ _ fP1
    have fP2 := sq _ _ fP2
    have fE3 := sq _ _ fE3
    have fP3 := sq _ _ fP3
    have fS40 := sq _ _ fS40
    have fS41 := sq _ _ fS41
    have fL4 := sq _ _ fL4
    have fP4 := sq _ _ fP4
    have fS50 := sq _ _ fS50
    have fL5 := sq _ _ fL5
    have fP5 := sq _ _ fP5
    have fS60 := sq _ _ fS60
    have fL6 := sq _ _ fL6
    have fP6 := sq _ _ fP6
    have fS70 := sq _ _ fS70
    have fL7 := sq _ _ fL7
    have fP7 := sq _ _ fP7
    have fS80 := sq _ _ fS80
    have fL8 := sq _ _ fL8
    have fP8 := sq _ _ fP8
    have fS90 := sq _ _ fS90
    have fL9 := sq _ _ fL9
    have fP9 := sq _ _ fP9
    have fS100 := sq _ _ fS100
    have fL10 := sq _ _ fL10
    have fP10 := sq _ _ fP10
    have s7 : Same H3 K27d := fun b o e => sq _ _ (s7 _ _ e)
    clear sq
    refine ⟨by show 2 ≤ sizeLine; decide, fun L11 hL11 => ?_⟩
    have sq : Same K27d (upd K27d L11 (.lst [.ref S110, .non])) := same_upd0 hL11
    have fL11 : (upd K27d L11 (.lst [.ref S110, .non])) L11 = some (.lst [.ref S110, .non]) := upd_same
    generalize upd K27d L11 (.lst [.ref S110, .non]) = K28d at sq fL11 ⊢
    have fP1 := sq _ _ fP1
    have fP2 := sq _ _ fP2
    have fE3 := sq _ _ fE3
    have fP3 := sq _ _ fP3
    have fS40 := sq _ _ fS40
    have fS41 := sq _ _ fS41
    have fL4 := sq _ _ fL4
    have fP4 := sq _ _ fP4
    have fS50 := sq _ _ fS50
    have fL5 := sq _ _ fL5
    have fP5 := sq _ _ fP5
    have fS60 := sq _ _ fS60
    have fL6 := sq _ _ fL6
    have fP6 := sq _ _ fP6
    have fS70 := sq _ _ fS70
    have fL7 := sq _ _ fL7
    have fP7 := sq _ _ fP7
    have fS80 := sq _ _ fS80
    have fL8 := sq _ _ fL8
    have fP8 := sq _ _ fP8
    have fS90 := sq _ _ fS90
    have fL9 := sq _ _ fL9
    have fP9 := sq _ _ fP9
    have fS100 := sq _ _ fS100
    have fL10 := sq _ _ fL10
    have fP10 := sq _ _ fP10
    have fS110 := sq _ _ fS110
    have s7 : Same H3 K28d := fun b o e => sq _ _ (s7 _ _ e)
    clear sq
    refine ⟨by show 2 ≤ sizeLine; decide, fun P11 hP11 => ?_⟩
    have sq : Same K28d (upd K28d P11 (.tup [.ref L11, .int 1])) := same_upd0 hP11
    have fP11 : (upd K28d P11 (.tup [.ref L11, .int 1])) P11 = some (.tup [.ref L11, .int 1]) := upd_same
    generalize upd K28d P11 (.tup [.ref L11, .int 1]) = K29d at sq fP11 ⊢
    have fP1 := sq _ _ fP1
    have fP2 := sq _ _ fP2
    have fE3 := sq _ _ fE3
    have fP3 := sq _ _ fP3
    have fS40 := sq _ _ fS40
    have fS41 := sq _ _ fS41
    have fL4 := sq _ _ fL4
    have fP4 := sq _ _ fP4
    have fS50 := sq _ _ fS50
    have fL5 := sq _ _ fL5
    have fP5 := sq _ _ fP5
    have fS60 := sq _ _ fS60
    have fL6 := sq _ _ fL6
    have fP6 := sq _ _ fP6
    have fS70 := sq _ _ fS70
    have fL7 := sq _ _ fL7
    have fP7 := sq _ _ fP7
    have fS80 := sq _ _ fS80
    have fL8 := sq _ _ fL8
    have fP8 := sq _ _ fP8
    have fS90 := sq _ _ fS90
    have fL9 := sq _ _ fL9
    have fP9 := sq _ _ fP9
    have fS100 := sq _ _ fS100
    have fL10 := sq _ _ fL10
    have fP10 := sq _ _ fP10
    have fS110 := sq _ _ fS110
    have fL11 := sq _ _ fL11
    have s7 : Same H3 K29d := fun b o e => sq _ _ (s7 _ _ e)
    clear sq
    refine ⟨by show 2 ≤ sizeLine; decide, fun S120 hS120 => ?_⟩
    have sq : Same K29d (upd K29d S120 (.tup [.str "o", .int 1])) := same_upd0 hS120
    have fS120 : (upd K29d S120 (.tup [.str "o", .int 1])) S120 = some (.tup [.str "o", .int 1]) := upd_same
    generalize upd K29d S120 (.tup [.str "o", .int 1]) = K30d at sq fS120 ⊢
    have fP1 := sq _ _ fP1
    have fP2 := sq _ _ fP2
    have fE3 := sq _ _ fE3
    have fP3 := sq _ _ fP3
    have fS40 := sq _ _ fS40
    have fS41 := sq _ _ fS41
    have fL4 := sq _ _ fL4
    have fP4 := sq _ _ fP4
    have fS50 := sq _ _ fS50
    have fL5 := sq _ _ fL5
    have fP5 := sq _ _ fP5
    have fS60 := sq _ _ fS60
    have fL6 := sq _ _ fL6
    have fP6 := sq _ _ fP6
    have fS70 := sq _ _ fS70
    have fL7 := sq _ _ fL7
    have fP7 := sq _ _ fP7
    have fS80 := sq _ _ fS80
    have fL8 := sq _ _ fL8
    have fP8 := sq _ _ fP8
    have fS90 := sq _ _ fS90
    have fL9 := sq _ _ fL9
    have fP9 := sq _ _ fP9
    have fS100 := sq _ _ fS100
    have fL10 := sq _ _ fL10
    have fP10 := sq _ _ fP10
    have fS110 := sq _ _ fS110
    have fL11 := sq _ _ fL11
    have fP11 := sq _ _ fP11
    have s7 : Same H3 K30d := fun b o e => sq _ _ (s7 _ _ e)
    clear sq
    refine ⟨by show 1 ≤ sizeLine; decide, fun L12 hL12 => ?_⟩
    have sq : Same K30d (upd K30d L12 (.lst [.ref S120])) := same_upd0 hL12
    have fL12 : (upd K30d L12 (.lst [.ref S120])) L12 = some (.lst [.ref S120]) := upd_same
    generalize upd K30d L12 (.lst [.ref S120]) = K31d at sq fL12 ⊢
    have fP1 := sq _ _ fP1
    have fP2 := sq _ _ fP2
    have fE3 := sq _ _ fE3
    have fP3 := sq _ _ fP3
    have fS40 := sq _ _ fS40
    have fS41 := sq _ _ fS41
    have fL4 := sq _ _ fL4
    have fP4 := sq _ _ fP4
    have fS50 := sq _ _ fS50
    have fL5 := sq _ _ fL5
    have fP5 := sq _ _ fP5
    have fS60 := sq _ _ fS60
    have fL6 := sq _ _ fL6
    have fP6 := sq _ _ fP6
    have fS70 := sq _ _ fS70
    have fL7 := sq _ _ fL7
    have fP7 := sq _ _ fP7
    have fS80 := sq _ _ fS80
    have fL8 := sq _ _ fL8
    have fP8 := sq _ _ fP8
    have fS90 := sq _ _ fS90
    have fL9 := sq _ _ fL9
    have fP9 := sq _ _ fP9
    have fS100 := sq _ _ fS100
    have fL10 := sq _ _ fL10
    have fP10 := sq _ _ fP10
    have fS110 := sq _ _ fS110
    have fL11 := sq _ _ fL11
    have fP11 := sq _ _ fP11
    have fS120 := sq _ _ fS120
    have s7 : Same H3 K31d := fun b o e => sq _ _ (s7 _ _ e)
    clear sq
    refine ⟨by show 2 ≤ sizeLine; decide, fun P12 hP12 => ?_⟩
    have sq : Same K31d (upd K31d P12 (.tup [.ref L12, .int 0])) := same_upd0 hP12
    have fP12 : (upd K31d P12 (.tup [.ref L12, .int 0])) P12 = some (.tup [.ref L12, .int 0]) := upd_same
    generalize upd K31d P12 (.tup [.ref L12, .int 0]) = K32d at sq fP12 ⊢
    have fP1 := sq _ _ fP1
    have fP2 := sq _ _ fP2
    have fE3 := sq _ _ fE3
    have fP3 := sq _ _ fP3
    have fS40 := sq _ _ fS40
    have fS41 := sq _ _ fS41
    have fL4 := sq _ _ fL4
    have fP4 := sq _ _ fP4
    have fS50 := sq _ _ fS50
    have fL5 := sq _ _ fL5
    have fP5 := sq _ _ fP5
    have fS60 := sq _ _ fS60
    have fL6 := sq _ _ fL6
    have fP6 := sq _ _ fP6
    have fS70 := sq _ _ fS70
    have fL7 := sq _ _ fL7
    have fP7 := sq _ _ fP7
    have fS80 := sq _ _ fS80
    have fL8 := sq _ _ fL8
    have fP8 := sq _ _ fP8
    have fS90 := sq _ _ fS90
    have fL9 := sq _ _ fL9
    have fP9 := sq _ _ fP9
    have fS100 := sq _ _ fS100
    have fL10 := sq _ _ fL10
    have fP10 := sq _ _ fP10
    have fS110 := sq _ _ fS110
    have fL11 := sq _ _ fL11
    have fP11 := sq _ _ fP11
    have fS120 := sq _ _ fS120
    have fL12 := sq _ _ fL12
    have s7 : Same H3 K32d := fun b o e => sq _ _ (s7 _ _ e)
    clear sq
    refine ⟨by show 12 ≤ sizeLine; decide, fun T4 hT4 => ?_⟩
    have sq : Same K32d (upd K32d T4 (.tup [.ref P1, .ref P2, .ref P3, .ref P4, .ref P5, .ref P6, .ref P7, .ref P8, .ref P9, .ref P10, .ref P11, .ref P12])) := same_upd0 hT4
    have fT4 : (upd K32d T4 (.tup [.ref P1, .ref P2, .ref P3, .ref P4, .ref P5, .ref P6, .ref P7, .ref P8, .ref P9, .ref P10, .ref P11, .ref P12])) T4 = some (.tup [.ref P1, .ref P2, .ref P3, .ref P4, .ref P5, .ref P6, .ref P7, .ref P8, .ref P9, .ref P10, .ref P11, .ref P12]) := upd_same
    generalize upd K32d T4 (.tup [.ref P1, .ref P2, .ref P3, .ref P4, .ref P5, .ref P6, .ref P7, .ref P8, .ref P9, .ref P10, .ref P11, .ref P12]) = K33d at sq fT4 ⊢
    have fP1 := sq _ _ fP1
    have fP2 := sq _ _ fP2
    have fE3 := sq _ _ fE3
    have fP3 := sq _ _ fP3
    have fS40 := sq _ _ fS40
    have fS41 := sq _ _ fS41
    have fL4 := sq _ _ fL4
    have fP4 := sq _ _ fP4
    have fS50 := sq _ _ fS50
    have fL5 := sq _ _ fL5
    have fP5 := sq _ _ fP5
    have fS60 := sq _ _ fS60
    have fL6 := sq _ _ fL6
    have fP6 := sq _ _ fP6
    have fS70 := sq _ _ fS70
    have fL7 := sq _ _ fL7
    have fP7 := sq _ _ fP7
    have fS80 := sq _ _ fS80
    have fL8 := sq _ _ fL8
    have fP8 := sq _ _ fP8
    have fS90 := sq _ _ fS90
    have fL9 := sq _ _ fL9
    have fP9 := sq _ _ fP9
    have fS100 := sq _ _ fS100
    have fL10 := sq _ _ fL10
    have fP10 := sq _ _ fP10
    have fS110 := sq _ _ fS110
    have fL11 := sq _ _ fL11
    have fP11 := sq _ _ fP11
    have fS120 := sq _ _ fS120
    have fL12 := sq _ _ fL12
    have fP12 := sq _ _ fP12
    have s7 : Same H3 K33d := fun b o e => sq _ _ (s7 _ _ e)
    clear sq
    have A7 := A3.same s7
    refine ⟨T4, rfl, ⟨_, SqT.of fT4⟩, for_it (walk_tup (xs := [.ref P1, .ref P2, .ref P3, .ref P4, .ref P5, .ref P6, .ref P7, .ref P8, .ref P9, .ref P10, .ref P11, .ref P12])) (fun i σ H' => ∃ (v4 v5 v6 v7 : Option V), σ = [some (.ref sc), some (.ref a.p), some (.int ((N.f 0 + N.q 0 : Nat) : Int)), some (.ref Gd), v4, v5, v6, v7, none] ∧ Same K33d H') ⟨_, _, _, _, rfl, Same.refl _⟩ (fun i σ H' _ p => ?_) ?_ ?_⟩
    · obtain ⟨_, _, _, _, _, s8⟩ := p
      exact SqT.of (s8 _ _ fT4)
    · rintro i x σ H8 H9 hi ⟨v4, v5, v6, v7, rfl, s8⟩ ⟨e9, hx⟩
      subst H9
      have n_o : ∀ i, i < N.n → tg i ≠ "o" := fun i h e => by
        have := tg_inj i (by omega) 4 (by decide) e
        omega
      have n_z : ∀ i, i < N.n → tg i ≠ "zz" := fun i h e => tg_zz i (by omega) e
      have h0 : 0 < N.n := n1
      have ord : ∀ {l : Addr} {xs : List V} {os : List (Option (Nat × Nat))} {i : Nat} {p : V}, K33d l = some (.lst xs) → Paired (Stp K33d N) xs os → p = .int (i : Int) → (∃ S, fol N (stB [("a", 0, 1)]) os 0 = (S, some i)) → WrongO K33d N (.ref l) p := fun h1 h2 h3 ⟨S, h4⟩ => .inr ⟨_, _, _, _, S, rfl, h1, h2, h3, h4⟩
      obtain ⟨Qa, bad, place, rfl, hQ, wr⟩ : ∃ Qa bad place, x = .ref Qa ∧ K33d Qa = some (.tup [bad, place]) ∧ WrongO K33d N bad place := by
        match i, hi with
        | 0, _ => cases hx; exact ⟨_, _, _, rfl, fP1, .inl ⟨rfl, _, .non, by decide, by decide⟩⟩
        | 1, _ => cases hx; exact ⟨_, _, _, rfl, fP2, .inl ⟨rfl, _, .str _, by decide, by decide⟩⟩
        | 2, _ => cases hx; exact ⟨_, _, _, rfl, fP3, .inl ⟨rfl, _, .dK fE3, by decide, by decide⟩⟩
        | 3, _ => cases hx; exact ⟨_, _, _, rfl, fP4, ord fL4 (.cons (.good (k := 0) (m := 1) fS40 h0 (by decide)) (.cons (.good (k := 0) (m := 9) fS41 h0 (by decide)) .nil)) (i := 1) rfl (fol_two n1 hno)⟩
        | 4, _ => cases hx; exact ⟨_, _, _, rfl, fP5, ord fL5 (.cons (.out fS50 (by decide) n_z) .nil) (i := 0) rfl (fol_bad N _)⟩
        | 5, _ => cases hx; exact ⟨_, _, _, rfl, fP6, ord fL6 (.cons (.num fS60 trivial (fun z e => by cases e)) .nil) (i := 0) rfl (fol_bad N _)⟩
        | 6, _ => cases hx; exact ⟨_, _, _, rfl, fP7, ord fL7 (.cons (.num fS70 trivial (fun z e => by cases e)) .nil) (i := 0) rfl (fol_bad N _)⟩
        | 7, _ => cases hx; exact ⟨_, _, _, rfl, fP8, ord fL8 (.cons (.num fS80 trivial (fun z e => by cases e; decide)) .nil) (i := 0) rfl (fol_bad N _)⟩
        | 8, _ => cases hx; exact ⟨_, _, _, rfl, fP9, ord fL9 (.cons (.lst fS90) .nil) (i := 0) rfl (fol_bad N _)⟩
        | 9, _ => cases hx; exact ⟨_, _, _, rfl, fP10, ord fL10 (.cons (.len fS100 (by decide)) .nil) (i := 0) rfl (fol_bad N _)⟩
        | 10, _ => cases hx; exact ⟨_, _, _, rfl, fP11, ord fL11 (.cons (.good (k := 0) (m := 1) fS110 h0 (by decide)) (.cons .non .nil)) (i := 1) rfl ⟨_, fol_first N _⟩⟩
        | 11, _ => cases hx; exact ⟨_, _, _, rfl, fP12, ord fL12 (.cons (.out fS120 (by decide) n_o) .nil) (i := 0) rfl (fol_bad N _)⟩
      refine ⟨Qa, _, rfl, SqT.of (s8 _ _ hQ), rfl, _, _, rfl, _, _, rfl, rfl, ?_⟩
      refine ⟨_, rfl, fun Bd hBd => ⟨upd_same, [((Sum.inr "a" : Key), .int 1)], rfl, by show 1 ≤ 15; decide, ?_⟩⟩
      have sB : Same H8 (upd (upd H8 Bd (.dK [])) Bd (.dK (mergeK [] [((Sum.inr "a" : Key), .int 1)]))) := by rw [upd_upd]; exact same_upd0 hBd
      have hB : (upd (upd H8 Bd (.dK [])) Bd (.dK (mergeK [] [((Sum.inr "a" : Key), .int 1)]))) Bd = some (.dK (entB [("a", 0, 1)])) := upd_same
      generalize upd (upd H8 Bd (.dK [])) Bd (.dK (mergeK [] [((Sum.inr "a" : Key), .int 1)])) = HB at sB hB ⊢
      have gb : GoodB HB N J (.ref Bd) [("a", 0, 1)] := ⟨⟨Bd, rfl, hB⟩, by decide, by decide +kernel, by simp, fun e he => by rw [List.mem_singleton.mp he]; exact ⟨by show 0 < N.n; omega, .inr (.inr ⟨rfl, rfl⟩)⟩⟩
      have s9 : Same K33d HB := fun b o e => sB _ _ (s8 _ _ e)
      have fin : ∀ (v : V), v = place → ∀ c : Bool, c = (!decide (v = place)) → c = false := fun v e c h => by rw [h, e]; simp
      rcases wr.same s9 with ⟨rfl, n, t, h2, h3⟩ | ⟨l, xs, os, j, S, rfl, h2, h3, rfl, h5⟩
      · refine ⟨_, rfl, .ref a.p, .ref Bd, bad, .non, rfl, .inr ⟨N, J, a, _, rfl, A7.same s9, G, gb, rfl, .inl ⟨n, t, h2, h3, fun HC d sC hd => ⟨true, teO, fun _ ax hax => ?_, fun q => nomatch q⟩⟩⟩⟩
        refine ⟨_, rfl, rfl, rfl, d, _, _, rfl, upd_same, rfl, _, rfl, rfl, _, rfl, iteF ?_⟩
        exact ⟨_, _, _, _, rfl, same_upd (fun b o e => sC _ _ (s9 _ _ e)) hd⟩
      · refine ⟨_, rfl, .ref a.p, .ref Bd, _, .non, rfl, .inr ⟨N, J, a, _, rfl, A7.same s9, G, gb, rfl, .inr ⟨l, xs, os, S, some j, rfl, h2, h3, h5, fun i ei HC d sC hd => ⟨true, teO, fun _ ax hax => ?_, fun q => nomatch q⟩, fun e => nomatch e⟩⟩⟩
        obtain rfl := Option.some.inj ei
        refine ⟨_, rfl, rfl, rfl, d, _, _, rfl, upd_same, rfl, _, rfl, rfl, _, rfl, ?_⟩
        refine ite2 (fun c => ?_) (fun _ => ?_)
        · simp at c
        · exact ⟨_, _, _, _, rfl, same_upd (fun b o e => sC _ _ (s9 _ _ e)) hd⟩
    rintro σ H8 ⟨v4, v5, v6, v7, rfl, s8⟩
    exact kq H8 fun b o e => s8 _ _ (s7 _ _ (t3 _ _ e))
end
end Bal
set_option autoImplicit true
set_option Elab.async false
set_option linter.all false
set_option maxRecDepth 100000
set_option maxHeartbeats 4000000
/-! WM: orders, their last step, as they stand as lists. -/
namespace Bal
open PySem L2
theorem fol_runs {N : NetM} : ∀ {l : List (Nat × Nat)} {S S' : BdM} {os : List (Option (Nat × Nat))} {i : Nat}, Runs N S l S' → fol N S (l.map some ++ os) i = fol N S' os (i + l.length)
  | [], S, S', os, i, h => by
    have e : S' = S := h
    rw [e]
    rfl
  | (k, m) :: r, S, S', os, i, ⟨⟨_, _, h2⟩, h⟩ => by
    show (if S.w k < m then _ else fol N (take N S k m) (r.map some ++ os) (i + 1)) = _
    rw [if_neg (by omega), fol_runs h, List.length_cons, Nat.add_assoc, Nat.add_comm 1]
theorem fol_runs0 {N : NetM} {l : List (Nat × Nat)} {S S' : BdM} (h : Runs N S l S') : fol N S (l.map some) 0 = (S', none) := by
  have q := fol_runs (os := []) (i := 0) h
  rw [List.append_nil] at q
  exact q
/-- an order, its last step ahead of which still balls wait -/
structure LastAt (N : NetM) (s : BdM) (l : List (Nat × Nat)) (S : BdM) (l0 : List (Nat × Nat)) (k m : Nat) (S0 : BdM) : Prop where
  el : l = l0 ++ [(k, m)]
  run : Runs N s l0 S0
  hk : k < N.n
  m1 : 1 ≤ m
  w : S0.w k = m
  eS : S = take N S0 k m
  pl : S0.pl k < N.f k + N.q k
theorem last_at {N : NetM} (G : N.Good) {s S : BdM} {l : List (Nat × Nat)} (p : Placed N s) (h : Runs N s l S) (hr : Rest N S) {i : Nat} (hi : i < N.n) (hw : 0 < s.w i) : ∃ l0 k m S0, LastAt N s l S l0 k m S0 := by
  by_cases c : l = []
  · rw [c] at h
    have e : S = s := h
    have := hr i hi
    rw [e] at this
    omega
  · obtain ⟨l0, ⟨k, m⟩, e⟩ : ∃ (l0 : List (Nat × Nat)) (x : Nat × Nat), l = l0 ++ [x] := ⟨l.dropLast, l.getLast c, (List.dropLast_concat_getLast c).symm⟩
    subst e
    obtain ⟨S0, h1, h2⟩ := runs_append.mp h
    obtain ⟨⟨hk, h3, h4⟩, eS⟩ := runs_one.mp h2
    have hr2 : Rest N (take N S0 k m) := by rw [← eS]; exact hr
    exact ⟨l0, k, m, S0, rfl, h1, hk, h3, (last_step hk h4 hr2).1, eS, placed_runs G h1 p k hk⟩
theorem take_w {N : NetM} {s : BdM} {k m : Nat} (hk : k < N.n) : (take N s k m).w k = s.w k + N.fall k (s.pl k) m k - m := by
  have : (take N s k m).w k = s.w k + N.fall k (s.pl k) m k - (if k = k then m else 0) := if_pos hk
  rw [this, if_pos rfl]
/-- an order behind which balls wait, or no order -/
def NoOrd (N : NetM) (s : BdM) (os : List (Option (Nat × Nat))) : Prop := ∃ S r, fol N s os 0 = (S, r) ∧ ¬ (r = none ∧ Rest N S)
section
variable {N : NetM} {s S S0 : BdM} {l l0 : List (Nat × Nat)} {k m : Nat}
theorem LastAt.no_less (L : LastAt N s l S l0 k m S0) : NoOrd N s (l0.map some) := ⟨S0, none, fol_runs0 L.run, fun h => by
  have a := h.2 k L.hk
  have b := L.w
  have c := L.m1
  omega⟩
theorem LastAt.no_more (L : LastAt N s l S l0 k m S0) (h : Runs N s l S) (hr : Rest N S) (hn : 0 < N.n) : NoOrd N s (l.map some ++ [some (0, 1)]) := by
  refine ⟨_, _, (fol_runs h).trans (if_pos ?_), fun h => by cases h.1⟩
  rw [hr 0 hn]
  decide
theorem LastAt.no_great (L : LastAt N s l S l0 k m S0) : NoOrd N s (l0.map some ++ [some (k, m + 1)]) := by
  refine ⟨_, _, (fol_runs L.run).trans (if_pos ?_), fun h => by cases h.1⟩
  rw [L.w]
  exact Nat.lt_succ_self _
theorem LastAt.no_small (L : LastAt N s l S l0 k m S0) (h : 1 < m) : NoOrd N s (l0.map some ++ [some (k, m - 1)]) := by
  have r : Runs N s (l0 ++ [(k, m - 1)]) (take N S0 k (m - 1)) := runs_snoc L.run L.hk (by omega) (by rw [L.w]; omega)
  have e := fol_runs0 r
  rw [List.map_append] at e
  refine ⟨_, _, e, fun z => ?_⟩
  have a := z.2 k L.hk
  rw [take_w L.hk, L.w] at a
  omega
theorem LastAt.singles (G : N.Good) (L : LastAt N s l S l0 k m S0) : fol N s (l0.map some ++ List.replicate m (some (k, 1))) 0 = (S, none) := by
  have r : Runs N s (l0 ++ List.replicate m (k, 1)) S := runs_append.mpr ⟨S0, L.run, by rw [L.eS]; exact runs_singles L.hk (G.tu1 k L.hk) L.pl m (by rw [L.w]; exact Nat.le_refl _)⟩
  have e := fol_runs0 r
  rw [List.map_append, List.map_replicate] at e
  exact e
end
/-! ### lists of steps -/
theorem paired_last {α β : Type} {F : α → β → Prop} : ∀ {xs : List α} {l0 : List β} {p : β}, Paired F xs (l0 ++ [p]) → ∃ xs0 x, xs = xs0 ++ [x] ∧ Paired F xs0 l0 ∧ F x p
  | _, [], p, .cons h .nil => ⟨[], _, rfl, .nil, h⟩
  | _, q :: r, p, .cons h t => by
    obtain ⟨xs0, x, e, h1, h2⟩ := paired_last t
    exact ⟨_ :: xs0, x, by rw [e]; rfl, .cons h h1, h2⟩
theorem paired_map {α β γ : Type} {F : α → β → Prop} {G : α → γ → Prop} {g : β → γ} : ∀ {xs : List α} {l : List β}, Paired F xs l → (∀ x p, p ∈ l → F x p → G x (g p)) → Paired G xs (l.map g)
  | _, _, .nil, _ => .nil
  | _, _, .cons h t, k => .cons (k _ _ (List.mem_cons_self ..) h) (paired_map t fun x p hp => k x p (List.mem_cons_of_mem _ hp))
theorem paired_rep {α β : Type} {F : α → β → Prop} {x : α} {y : β} (h : F x y) : ∀ n, Paired F (List.replicate n x) (List.replicate n y)
  | 0 => .nil
  | n + 1 => .cons h (paired_rep h n)
theorem flat_rep {α : Type} (x : α) : ∀ n, (List.replicate n [x]).flatten = List.replicate n x
  | 0 => rfl
  | n + 1 => by rw [List.replicate_succ, List.flatten_cons, flat_rep x n]; rfl
theorem item_stp {H : Hp} {N : NetM} {x : V} {p : Nat × Nat} (hk : p.1 < N.n) (hm : 1 ≤ p.2) (h : ItemAt H x p) : Stp H N x (some p) := by
  obtain ⟨a, rfl, e⟩ := h
  exact .good e hk hm
theorem items_stp {H : Hp} {N : NetM} {s S : BdM} {xs : List V} {l : List (Nat × Nat)} (r : Runs N s l S) (h : Paired (ItemAt H) xs l) : Paired (Stp H N) xs (l.map some) :=
  paired_map h fun x p hp z => item_stp (runs_mem r p hp).1 (runs_mem r p hp).2 z
theorem items_ref {H : Hp} : ∀ {xs : List V} {l : List (Nat × Nat)}, Paired (ItemAt H) xs l → ∀ x ∈ xs, ∃ a, x = V.ref a
  | _, _, .nil, x, hx => by cases hx
  | _, _, .cons ⟨a, e, _⟩ t, x, hx => by
    rcases List.mem_cons.mp hx with rfl | hx
    · exact ⟨a, e⟩
    · exact items_ref t x hx
theorem cut_last (xs : List V) (x : V) : cutV (xs ++ [x]) none (some (-1)) = xs := by
  have hl : (xs ++ [x]).length = xs.length + 1 := by simp
  have e : HT.sIx (xs ++ [x]).length (xs ++ [x]).length (some (-1)) = xs.length := by
    show (if (-1 : Int) < 0 then ((-1 : Int) + ((xs ++ [x]).length : Int)).toNat else min (-1 : Int).toNat (xs ++ [x]).length) = xs.length
    rw [if_pos (by decide), hl]
    omega
  unfold cutV
  rw [e]
  show List.take (xs.length - 0) (List.drop 0 (xs ++ [x])) = xs
  rw [List.drop_zero, Nat.sub_zero, List.take_left]
/-! ### comparing lists of steps -/
section
variable {K : PySem.W.Frag} {H : Hp} {n : Nat}
theorem eqB_same {a : Addr} : EqB K H (n + 1) (.ref a) (.ref a) true := .inr (.inl ⟨a, rfl, rfl, rfl⟩)
theorem eqB_lst {p q : Addr} {xs : List V} (hx : ∀ x ∈ xs, ∃ a, x = V.ref a) (hp : H p = some (.lst xs)) (hq : H q = some (.lst xs)) : EqB K H (n + 2) (.ref p) (.ref q) true := by
  by_cases c : p = q
  · rw [c]
    exact eqB_same
  · refine .inr (.inr ⟨⟨p, q, rfl, rfl, c⟩, .inl ⟨p, q, xs, xs, fun _ => true, rfl, rfl, SqL.of hp, SqL.of hq, rfl, fun j u v h1 h2 => ?_, ?_⟩⟩)
    · rw [h1] at h2
      cases h2
      obtain ⟨a, rfl⟩ := hx u (List.mem_of_getElem? h1)
      exact eqB_same
    · symm
      rw [List.all_eq_true]
      exact fun _ _ => rfl
theorem eqB_len {p q : Addr} {xs ys : List V} (hp : H p = some (.lst xs)) (hq : H q = some (.lst ys)) (hl : xs.length ≠ ys.length) : EqB K H (n + 1) (.ref p) (.ref q) false := by
  have c : p ≠ q := fun e => hl (by rw [e, hq] at hp; cases hp; rfl)
  exact .inr (.inr ⟨⟨p, q, rfl, rfl, c⟩, .inr (.inl ⟨p, q, xs, ys, rfl, rfl, SqL.of hp, SqL.of hq, hl, rfl⟩)⟩)
theorem eqB_last {p q a b : Addr} {xs : List V} {z : Str} {i j : Int} (hx : ∀ x ∈ xs, ∃ a, x = V.ref a) (hp : H p = some (.lst (xs ++ [.ref a]))) (hq : H q = some (.lst (xs ++ [.ref b]))) (ha : H a = some (.tup [.str z, .int i])) (hb : H b = some (.tup [.str z, .int j])) (hm : i ≠ j) :
    EqB K H (n + 3) (.ref p) (.ref q) false := by
  have cab : a ≠ b := fun e => hm (by rw [e, hb] at ha; cases ha; rfl)
  have c : p ≠ q := fun e => cab (by
    rw [e, hq] at hp
    injection hp with hp
    injection hp with hp
    have := List.append_cancel_left hp
    injection this with h1
    injection h1 with h1
    exact h1.symm)
  refine .inr (.inr ⟨⟨p, q, rfl, rfl, c⟩, .inl ⟨p, q, _, _, fun j => decide (j ≠ xs.length), rfl, rfl, SqL.of hp, SqL.of hq, by simp, fun t u v h1 h2 => ?_, ?_⟩⟩)
  · by_cases d : t = xs.length
    · subst d
      have e1 : u = .ref a := by simpa using h1.symm
      have e2 : v = .ref b := by simpa using h2.symm
      subst e1 e2
      have e3 : decide (xs.length ≠ xs.length) = false := by simp
      show EqB K H (n + 2) (.ref a) (.ref b) (decide (xs.length ≠ xs.length))
      rw [e3]
      refine .inr (.inr ⟨⟨a, b, rfl, rfl, cab⟩, .inr (.inr (.inl ⟨a, b, _, _, fun t => match t with | 0 => eqV (.str z) (.str z) | _ => eqV (.int i) (.int j), rfl, rfl, SqT.of ha, SqT.of hb, rfl, fun t u v h1 h2 => ?_, ?_⟩))⟩)
      · match t with
        | 0 => cases h1; cases h2; exact .inl ⟨rfl, rfl, rfl⟩
        | 1 => cases h1; cases h2; exact .inl ⟨rfl, rfl, rfl⟩
        | t + 2 => simp at h1
      · have e4 : eqV (.int i) (.int j) = false := by
          show (i == j) = false
          simpa using hm
        show false = (eqV (.str z) (.str z) && (eqV (.int i) (.int j) && true))
        rw [e4, Bool.false_and, Bool.and_false]
    · have hlt : t < xs.length := by
        have := (List.getElem?_eq_some_iff.mp h1).1
        rw [List.length_append, List.length_singleton] at this
        omega
      rw [List.getElem?_append_left hlt] at h1 h2
      rw [h1] at h2
      cases h2
      obtain ⟨y, rfl⟩ := hx u (List.mem_of_getElem? h1)
      show EqB K H (n + 2) (.ref y) (.ref y) (decide (t ≠ xs.length))
      rw [decide_eq_true d]
      exact eqB_same
  · symm
    rw [Bool.eq_false_iff]
    intro h
    have := List.all_eq_true.mp h xs.length (List.mem_range.mpr (by simp))
    simp at this
theorem eqB_ikv {p q : Addr} {is : List Nat} {g g' : Nat → Int} (hi : ∀ i ∈ is, i < 6) (hp : H p = some (.dK (ikv is g))) (hq : H q = some (.dK (ikv is g'))) (ne : p ≠ q) : EqB K H (n + 1) (.ref p) (.ref q) (is.all fun i => g i == g' i) :=
  .inr (.inr ⟨⟨p, q, rfl, rfl, ne⟩, eqC_ikv hi hp hq⟩)
theorem eqB_dict {p q : Addr} {is : List Nat} {g : Nat → Int} (hi : ∀ i ∈ is, i < 6) (hp : H p = some (.dK (ikv is g))) (hq : H q = some (.dK (ikv is g))) : EqB K H (n + 1) (.ref p) (.ref q) true := by
  by_cases c : p = q
  · rw [c]
    exact eqB_same
  · have e : (is.all fun i => g i == g i) = true := by
      rw [List.all_eq_true]
      intro i _
      simp
    have := eqB_ikv (K := K) (n := n) hi hp hq c
    rw [e] at this
    exact this
theorem eqB_dictN {p q : Addr} {is : List Nat} {g g' : Nat → Int} (hi : ∀ i ∈ is, i < 6) (hp : H p = some (.dK (ikv is g))) (hq : H q = some (.dK (ikv is g'))) {i : Nat} (hm : i ∈ is) (ne : g i ≠ g' i) : EqB K H (n + 1) (.ref p) (.ref q) false := by
  have c : p ≠ q := fun e => by
    have a := ikv_in hp hm hi
    have b := ikv_in hq hm hi
    rw [e, hq] at hp
    injection hp with hp
    injection hp with hp
    have h1 := tkv_val (v := fun i => V.int (g i)) (hi i hm) hi
    have h2 := tkv_val (v := fun i => V.int (g' i)) (hi i hm) hi
    rw [if_pos hm] at h1 h2
    have h3 : valV (ikv is g') (Sum.inr (tg i) : Key) = some (.int (g i)) := by rw [hp]; exact h1
    have h4 := h2.symm.trans h3
    injection h4 with h4
    injection h4 with h4
    exact ne h4.symm
  have e : (is.all fun i => g i == g' i) = false := by
    rw [Bool.eq_false_iff]
    intro h
    have := List.all_eq_true.mp h i hm
    exact ne (by simpa using this)
  have q := eqB_ikv (K := K) (n := n) hi hp hq c
  rw [e] at q
  exact q
end
/-! ### steps as data -/
def stepD (p : Nat × Nat) : PyData := .tuple [.str (tg p.1), .int (p.2 : Int)]
theorem dp_items {K : PySem.W.Frag} {H : Hp} : ∀ {xs : List V} {l : List (Nat × Nat)}, Paired (ItemAt H) xs l → DpAll K H xs (l.map stepD)
  | _, _, .nil => .nil
  | _, _, .cons ⟨a, e, h⟩ t => by
    subst e
    exact .cons (.tup (SqT.of h) (.cons (.str _) (.cons (.int _) .nil))) (dp_items t)
theorem tg_ok : ∀ t, (PyData.str (tg t)).canLay0 = true
  | 0 => by decide +kernel
  | 1 => by decide +kernel
  | 2 => by decide +kernel
  | 3 => by decide +kernel
  | 4 => by decide +kernel
  | t + 5 => by show (PyData.str "p").canLay0 = true; decide +kernel
theorem steps_lay : ∀ l : List (Nat × Nat), PyData.canLayAll0 (l.map stepD) = true
  | [] => rfl
  | p :: r => by
    show (((PyData.str (tg p.1)).canLay0 && (true && true)) && PyData.canLayAll0 (r.map stepD)) = true
    rw [tg_ok, steps_lay r]
    rfl
theorem steps_deep : ∀ l : List (Nat × Nat), PyData.depthAll (l.map stepD) ≤ 1
  | [] => Nat.zero_le _
  | p :: r => by
    show max 1 (PyData.depthAll (r.map stepD)) ≤ 1
    have := steps_deep r
    omega
theorem steps_shaped (l : List (Nat × Nat)) : SeqAt.shaped (.list (l.map stepD)) = true := by
  have h : PyData.depth (.list (l.map stepD)) ≤ 64 := by
    show PyData.depthAll (l.map stepD) + 1 ≤ 64
    have := steps_deep l
    omega
  show (PyData.canLayAll0 (l.map stepD) && decide _) = true
  rw [steps_lay, decide_eq_true h]
  rfl
theorem eqvAll_len : ∀ {xs ys : List PyData}, xs.length ≠ ys.length → PyData.eqvAll xs ys = false
  | [], [], h => absurd rfl h
  | [], _ :: _, _ => rfl
  | _ :: _, [], _ => rfl
  | x :: xs, y :: ys, h => by
    show (PyData.eqv x y && PyData.eqvAll xs ys) = false
    rw [eqvAll_len (xs := xs) (ys := ys) fun e => h (by simp [e]), Bool.and_false]
theorem eqv_len {xs ys : List PyData} (h : xs.length ≠ ys.length) : PyData.eqv (.list xs) (.list ys) = false := eqvAll_len h
theorem eqv_steps (l : List (Nat × Nat)) : PyData.eqv (.list (l.map stepD)) (.list (l.map stepD)) = true := SeqAt.eqv_refl _ (SeqAt.canLay_of_shaped (steps_shaped l))
end Bal
set_option autoImplicit true
set_option Elab.async false
set_option linter.all false
set_option maxRecDepth 100000
set_option maxHeartbeats 4000000
/-! WT: the law in parts: what stands ahead of each. -/
namespace Bal
open PySem L2
section
variable {X : Cx} {K : PySem.W.Frag}
def rDictP (K : PySem.W.Frag) : List V → Hp → VK → Prop := fun xs H Q => ∃ (a : Addr) (ps : List Addr) (kvs : List (Key × V)), xs = [.ref a] ∧ SqL K H a (ps.map V.ref) ∧ Paired (fun p kv => SqT K H p [kV kv.1, kv.2]) ps kvs ∧ ∀ p, H p = none → Q (.ref p) (upd H p (.dK (mergeK [] kvs)))
theorem call_dictPK (hK : X.K = K) (hc : X.calm = true) : CallR X (.type "dict") (rDictP K) := by subst hK; exact call_dictP hc
theorem op_in_seqK (hK : X.K = K) : OpR X (compareOp .In) (rIn K false) := by subst hK; exact op_in_seq
end
theorem sc_law : FnScope ["_law_script", "_law_knots_here", "_law_inlets_here", "_law_net", "_law_loops", "_law_balls", "_law_found", "_law_parts", "_law_some", "_law_other", "_law_at", "_law_name", "_law_late", "_law_bent", "_law_order", "_law_waits", "_law_out", "_law_standing", "_law_taken", "_law_part", "_law_drop"] ["_law_script"] (defScope s_law) := ⟨rfl, rfl, rfl, by decide +kernel, rfl, by decide +kernel, by decide +kernel⟩
abbrev lawX (P : Program) (w : World) (K : PySem.W.Frag) (mg : Str → Option Value) (base : Heap) (f : Addr) (cdv : Value) (A : Around) (outer : List Env) (s : Shared) (H : Hp) (E : XK) : Cx :=
  (cxOf CX0 P w K mg base ["_law_script", "_law_knots_here", "_law_inlets_here", "_law_net", "_law_loops", "_law_balls", "_law_found", "_law_parts", "_law_some", "_law_other", "_law_at", "_law_name", "_law_late", "_law_bent", "_law_order", "_law_waits", "_law_out", "_law_standing", "_law_taken", "_law_part", "_law_drop"] "law" (defScope s_law) f cdv A outer s H E).nox
/-- the statements from the j-th on keep their promise from Pre -/
def TailOk (X : Cx) (j : Nat) (Pre : L2.St → Hp → Prop) : Prop := ∃ t, PSs X ((defBody s_law).drop j) t ∧ ∀ (Q : VK) (σ : L2.St) (H : Hp), (∀ H', Q (.bl true) H') → Pre σ H → t { nx := fun _ H' => Q .non H', rt := Q } σ H
/-- all that is drawn and settled -/
structure LD where
  N : NetM
  J : Nat
  m1 : Nat
  m2 : Nat
  l : List (Nat × Nat)
  l0 : List (Nat × Nat)
  S : BdM
  S0 : BdM
  k : Nat
  m : Nat
  a : NetA
  Bd : Addr
  zf : StA
  zs : StA
  zo : StA
  pl : Addr
  L : Addr
  x : Addr
  xs0 : List V
abbrev LD.es (d : LD) : List (Str × Nat × Nat) := [("i", 0, d.m1), ("j", d.J, d.m2)]
abbrev LD.kt (d : LD) : List (Key × V) := ikv (List.range d.N.n) fun i => (d.S.tk i : Int)
abbrev LD.ko (d : LD) : List (Key × V) := ikv [4, 5] fun i => (d.S.out i : Int)
abbrev LD.ks (d : LD) : List (Key × V) := ikv (List.range d.N.n) fun i => (d.S.pl i : Int)
abbrev LD.xs (d : LD) : List V := d.xs0 ++ [.ref d.x]
structure LC (d : LD) : Prop where
  G : d.N.Good
  En : Ends d.N
  bg : Begun d.N (stB d.es) 8
  run : Runs d.N (stB d.es) d.l d.S
  rest : Rest d.N d.S
  la : LastAt d.N (stB d.es) d.l d.S d.l0 d.k d.m d.S0
/-- the net, the balls, what is settled -/
structure LN (CN CS : Addr) (d : LD) (H : Hp) : Prop where
  net : NetAt CN H d.N d.J d.a
  gb : GoodB H d.N d.J (.ref d.Bd) d.es
  zf : SetAt CS H d.zf d.kt d.ko d.ks d.xs
  it0 : Paired (ItemAt H) d.xs0 d.l0
  it : H d.x = some (.tup [.str (tg d.k), .int (d.m : Int)])
structure LH (CN CS : Addr) (d : LD) (H : Hp) : Prop extends LN CN CS d H where
  pp : H d.pl = some (.lst [.ref d.zf.td, .ref d.zf.od, .ref d.zf.sd, .ref d.L])
  hL : H d.L = some (.lst d.xs)
  zs : SetAt CS H d.zs d.kt d.ko d.ks d.xs
  zo : SetAt CS H d.zo d.kt d.ko d.ks d.xs
/-- z's parts are none of these -/
structure Off (As : List Addr) (z : StA) : Prop where
  t : ∀ v ∈ As, z.td ≠ v
  o : ∀ v ∈ As, z.od ≠ v
  s : ∀ v ∈ As, z.sd ≠ v
  r : ∀ v ∈ As, z.ol ≠ v
structure LO (d : LD) : Prop where
  s : Off [d.zf.td, d.zf.od, d.zf.sd, d.L, d.Bd] d.zs
  o : Off [d.zf.td, d.zf.od, d.zf.sd, d.L, d.Bd] d.zo
  d1 : d.zf.td ≠ d.zf.od
  d2 : d.zf.td ≠ d.zf.sd
  d3 : d.zf.od ≠ d.zf.sd
  f : Off [d.Bd] d.zf
theorem off_new {H : Hp} {z : StA} (n : SetNew H z) {As : List Addr} (h : ∀ v ∈ As, ∃ o, H v = some o) : Off As z :=
  ⟨fun v hv => let ⟨_, e⟩ := h v hv; (ne_of_none e n.t).symm, fun v hv => let ⟨_, e⟩ := h v hv; (ne_of_none e n.o).symm, fun v hv => let ⟨_, e⟩ := h v hv; (ne_of_none e n.s).symm, fun v hv => let ⟨_, e⟩ := h v hv; (ne_of_none e n.r).symm⟩
theorem items_same {H H' : Hp} (s : Same H H') {xs : List V} {l : List (Nat × Nat)} (h : Paired (ItemAt H) xs l) : Paired (ItemAt H') xs l := Paired.mapP h fun _ _ z => z.same s
section
variable {CN CS : Addr} {d : LD} {H H' : Hp}
theorem LN.same (s : Same H H') (M : LN CN CS d H) : LN CN CS d H' := ⟨M.net.same s, M.gb.same s, M.zf.same s, items_same s M.it0, s _ _ M.it⟩
theorem LH.same (s : Same H H') (M : LH CN CS d H) : LH CN CS d H' := ⟨M.toLN.same s, s _ _ M.pp, s _ _ M.hL, M.zs.same s, M.zo.same s⟩
theorem LC.n1 (C : LC d) : 0 < d.N.n := C.G.n1
theorem LC.n4 (C : LC d) : d.N.n ≤ 4 := C.G.n4
theorem LC.lt (C : LC d) : ∀ i ∈ List.range d.N.n, i < 6 := rng_lt C.G.n4
theorem LC.mem (C : LC d) {i : Nat} (h : i < d.N.n) : i ∈ List.range d.N.n := List.mem_range.mpr h
theorem LN.items (M : LN CN CS d H) (C : LC d) : Paired (ItemAt H) d.xs d.l := by
  rw [C.la.el]
  exact paired_snoc M.it0 ⟨_, rfl, M.it⟩
theorem LN.refs0 (M : LN CN CS d H) : ∀ x ∈ d.xs0, ∃ a, x = V.ref a := items_ref M.it0
theorem LN.refs (M : LN CN CS d H) (C : LC d) : ∀ x ∈ d.xs, ∃ a, x = V.ref a := items_ref (M.items C)
theorem LC.len (C : LC d) : total d.l ≤ 2634240 := by
  obtain ⟨W, D, T⟩ := wts_of C.G C.En
  exact runs_most C.G T C.bg C.run
theorem LC.tot (C : LC d) : total d.l = total d.l0 + d.m := by
  rw [C.la.el, total_append]
  simp [total]
theorem LN.len0 (M : LN CN CS d H) (C : LC d) : d.xs0.length + d.m ≤ 2634240 := by
  have a := C.len
  have b := C.tot
  have c := runs_len C.la.run
  have e := M.it0.length
  omega
theorem LN.len (M : LN CN CS d H) (C : LC d) : d.xs.length ≤ 2634240 := by
  have a := M.len0 C
  have b := C.la.m1
  rw [List.length_append, List.length_singleton]
  omega
theorem ent_i {m1 J m2 : Nat} : valV (entB [("i", 0, m1), ("j", J, m2)]) (Sum.inr "i" : Key) = some (.int (m1 : Int)) := valV_pos rfl
theorem ent_j {m1 J m2 : Nat} : valV (entB [("i", 0, m1), ("j", J, m2)]) (Sum.inr "j" : Key) = some (.int (m2 : Int)) := (valV_neg fun e => absurd (Sum.inr.inj e) (show ¬ ("i" : Str) = "j" from by decide +kernel)).trans (valV_pos rfl)
theorem LN.hB (M : LN CN CS d H) : H d.Bd = some (.dK (entB d.es)) := by
  obtain ⟨q, e, h⟩ := M.gb.at_
  cases e
  exact h
theorem LN.dgi (M : LN CN CS d H) : DGet H d.Bd (.str "i") (some (.int (d.m1 : Int))) := by
  have q := DGet.k (k := Sum.inr "i") M.hB
  rw [ent_i] at q
  exact q
theorem LN.dgj (M : LN CN CS d H) : DGet H d.Bd (.str "j") (some (.int (d.m2 : Int))) := by
  have q := DGet.k (k := Sum.inr "j") M.hB
  rw [ent_j] at q
  exact q
end
/-- the slots, from the net on -/
def SlB (d : LD) (σ : L2.St) : Prop := ∃ c0 c1 c2 c4 v10 v11 v12 v13 v14 v15 v16 v17 v18 v19 v20 : Option V,
  σ = [c0, c1, c2, some (.ref d.a.p), c4, some (.ref d.Bd), some (.ref d.zf.p), some (.ref d.pl), some (.ref d.zs.p), some (.ref d.zo.p), v10, v11, v12, v13, v14, v15, v16, v17, v18, v19, v20]
def PreB (CN CS : Addr) : L2.St → Hp → Prop := fun σ H => ∃ d, SlB d σ ∧ LC d ∧ LH CN CS d H ∧ LO d
/-! ### settled ones, made, compared, shown -/
section
variable {K : PySem.W.Frag} {CN CS : Addr} {d : LD} {H : Hp}
theorem mk_set {x dx t o s r : Addr} {kt ko ks : List (Key × V)} {xs : List V} {Q : VK} {E : XK} (hx : H x = none) (hdx : H dx = none) (ne : dx ≠ x) (ht : H t = some (.dK kt)) (ho : H o = some (.dK ko)) (hs : H s = some (.dK ks)) (hr : H r = some (.lst xs) ∨ H r = some (.tup xs))
    (kk : ∀ z H', z.p = x → SetAt CS H' z kt ko ks xs → SetNew H z → Same H H' → Q .non H') : spSettled CS [.ref x, .ref t, .ref o, .ref s, .ref r] (upd (upd H dx (.own x)) x (.ins CS dx [])) Q E := by
  have sx : Same H (upd (upd H dx (.own x)) x (.ins CS dx [])) := same_upd (same_upd0 hdx) ((upd_ne (Ne.symm ne)).trans hx)
  refine ⟨x, dx, t, o, s, r, kt, ko, ks, xs, rfl, upd_same, sx _ _ ht, sx _ _ ho, sx _ _ hs, hr.elim (fun h => .inl (sx _ _ h)) (fun h => .inr (sx _ _ h)), fun z H' e1 e2 A nw sn => ?_⟩
  exact kk z H' e1 A (SetNew.mono sx nw) fun p u e => sn p u (ne_of_none e hx) (sx _ _ e)
theorem eq_sets {z z2 : StA} {kt ko ks kt2 ko2 ks2 : List (Key × V)} {xs xs2 : List V} {Q : VK} {E : XK} (A : SetAt CS H z kt ko ks xs) (A2 : SetAt CS H z2 kt2 ko2 ks2 xs2) {b0 b1 b2 b3 : Bool}
    (e0 : EqB K H 5 (.ref z.td) (.ref z2.td) b0) (e1 : EqB K H 5 (.ref z.od) (.ref z2.od) b1) (e2 : EqB K H 5 (.ref z.sd) (.ref z2.sd) b2) (e3 : EqB K H 5 (.ref z.ol) (.ref z2.ol) b3) (kq : ∀ H', Same H H' → Q (.bl (b0 && (b1 && (b2 && b3)))) H') :
    spSetEq K CS [.ref z.p, .ref z2.p] H Q E := by
  refine ⟨z, _, kt, ko, ks, xs, rfl, A, .inr ⟨z2, kt2, ko2, ks2, xs2, rfl, A2, fun i => match i with | 0 => b0 | 1 => b1 | 2 => b2 | _ => b3, e0, e1, e2, e3, fun H' s => ?_⟩⟩
  have e : ((List.range 4).all fun i => match i with | 0 => b0 | 1 => b1 | 2 => b2 | _ => b3) = (b0 && (b1 && (b2 && b3))) := by
    show (b0 && (b1 && (b2 && (b3 && true)))) = _
    rw [Bool.and_true]
  rw [e]
  exact kq H' s
theorem eq_set {z z2 : StA} {kt ko ks kt2 ko2 ks2 : List (Key × V)} {xs xs2 : List V} {Q : VK} {E : XK} (A : SetAt CS H z kt ko ks xs) (A2 : SetAt CS H z2 kt2 ko2 ks2 xs2) {b0 b1 b2 b3 : Bool}
    (e0 : EqB K H 5 (.ref z.td) (.ref z2.td) b0) (e1 : EqB K H 5 (.ref z.od) (.ref z2.od) b1) (e2 : EqB K H 5 (.ref z.sd) (.ref z2.sd) b2) (e3 : EqB K H 5 (.ref z.ol) (.ref z2.ol) b3) (kq : ∀ H', Same H H' → Q (.bl (b0 && (b1 && (b2 && b3)))) H') :
    rOwnEq CS (spSetEq K CS) E (.ref z.p) (.ref z2.p) H Q := ⟨z.p, z.dx, _, rfl, A.ob, .inl ⟨z2.p, z2.dx, _, rfl, A2.ob⟩, eq_sets A A2 e0 e1 e2 e3 kq⟩
/-- it shows nothing -/
theorem shows_no {z : StA} {g1 g2 g3 : Nat → Int} {xs : List V} {os : List (Option (Nat × Nat))} {Q : VK} {E : XK} (A : SetAt CS H z (ikv (List.range d.N.n) g1) (ikv [4, 5] g2) (ikv (List.range d.N.n) g3) xs) (M : LN CN CS d H) (C : LC d) (hos : Paired (Stp H d.N) xs os)
    (no : ∃ S r, fol d.N (stB d.es) os 0 = (S, r) ∧ ¬ (r = none ∧ Rest d.N S ∧ (∀ i, i < d.N.n → g1 i = (S.tk i : Int) ∧ g3 i = (S.pl i : Int)) ∧ g2 4 = (S.out 4 : Int) ∧ g2 5 = (S.out 5 : Int))) (kq : ∀ H', Same H H' → Q (.bl false) H') :
    spShows CN CS [.ref z.p, .ref d.a.p, .ref d.Bd, .non] H Q E := by
  obtain ⟨S, r, e, n⟩ := no
  exact ⟨z, d.N, d.J, d.a, .ref d.Bd, d.es, g1, g2, g3, xs, os, rfl, A, M.net, C.G, M.gb, hos, S, r, e, false, ⟨(fun c => nomatch c), (fun c => absurd c n)⟩, kq⟩
theorem no_ord {N : NetM} {s : BdM} {os : List (Option (Nat × Nat))} {g1 g2 g3 : Nat → Int} (h : NoOrd N s os) :
    ∃ S r, fol N s os 0 = (S, r) ∧ ¬ (r = none ∧ Rest N S ∧ (∀ i, i < N.n → g1 i = (S.tk i : Int) ∧ g3 i = (S.pl i : Int)) ∧ g2 4 = (S.out 4 : Int) ∧ g2 5 = (S.out 5 : Int)) := by
  obtain ⟨S, r, e, n⟩ := h
  exact ⟨S, r, e, fun c => n ⟨c.1, c.2.1⟩⟩
theorem shows_yes {z : StA} {xs : List V} {os : List (Option (Nat × Nat))} {Q : VK} {E : XK} (A : SetAt CS H z d.kt d.ko d.ks xs) (M : LN CN CS d H) (C : LC d) (hos : Paired (Stp H d.N) xs os)
    (yes : fol d.N (stB d.es) os 0 = (d.S, none)) (kq : ∀ H', Same H H' → Q (.bl true) H') : spShows CN CS [.ref z.p, .ref d.a.p, .ref d.Bd, .non] H Q E :=
  ⟨z, d.N, d.J, d.a, .ref d.Bd, d.es, _, _, _, xs, os, rfl, A, M.net, C.G, M.gb, hos, d.S, none, yes, true, ⟨fun _ => ⟨rfl, C.rest, fun i _ => ⟨rfl, rfl⟩, rfl, rfl⟩, fun _ => rfl⟩, kq⟩
end
end Bal
set_option autoImplicit true
set_option Elab.async false
set_option linter.all false
set_option maxRecDepth 100000
set_option maxHeartbeats 4000000
/-! WT18: the law's last part: what is given is copied. -/
namespace Bal
open PySem L2
def up3 (d : LD) (H : Hp) : Nat → Hp
  | 0 => H
  | 1 => upd H d.zf.td (.dK (ikv (List.range d.N.n) fun i => if i = 0 then (d.S.tk 0 : Int) + 1 else (d.S.tk i : Int)))
  | 2 => upd (upd H d.zf.td (.dK (ikv (List.range d.N.n) fun i => if i = 0 then (d.S.tk 0 : Int) + 1 else (d.S.tk i : Int)))) d.zf.od (.dK (tkv (addI [4, 5] 0) (setF (fun i => .int (d.S.out i : Int)) 0 (.int (0 + 1)))))
  | _ => upd (upd (upd H d.zf.td (.dK (ikv (List.range d.N.n) fun i => if i = 0 then (d.S.tk 0 : Int) + 1 else (d.S.tk i : Int)))) d.zf.od (.dK (tkv (addI [4, 5] 0) (setF (fun i => .int (d.S.out i : Int)) 0 (.int (0 + 1)))))) d.zf.sd (.dK (ikv (List.range d.N.n) fun i => if i = 0 then (d.S.pl 0 : Int) + 1 else (d.S.pl i : Int)))
theorem up3_keep {d : LD} {H : Hp} {p : Addr} {o : HO} (e : H p = some o) (h1 : p ≠ d.zf.td) (h2 : p ≠ d.zf.od) (h3 : p ≠ d.zf.sd) : ∀ i, up3 d H i p = some o
  | 0 => e
  | 1 => (upd_ne h1).trans e
  | 2 => (upd_ne h2).trans ((upd_ne h1).trans e)
  | _ + 3 => (upd_ne h3).trans ((upd_ne h2).trans ((upd_ne h1).trans e))
theorem up3_lst {CN CS : Addr} {d : LD} {H : Hp} (M : LN CN CS d H) {p : Addr} {o : HO} (e : H p = some o) (hd : ∀ kvs, o ≠ .dK kvs) (i : Nat) : up3 d H i p = some o :=
  up3_keep e (ne_of e M.zf.ta (hd _)) (ne_of e M.zf.ou (hd _)) (ne_of e M.zf.st (hd _)) i
section
variable {P : Program} {w : World} {K : PySem.W.Frag} {mg : Str → Option Value} {base : Heap} {CN CB CS : Addr} {f : Addr} {cdv : Value} {A : Around} {outer : List Env} {s : Shared} {H0 : Hp} {E : XK}
theorem tail18 (hr : Room 9 (lawX P w K mg base f cdv A outer s H0 E).A) (T : Txt K mg CN CB CS) : TailOk (lawX P w K mg base f cdv A outer s H0 E) 18 (PreB CN CS) := by
  have hu := hu_of hr
  refine ⟨_, (pss_cons (ps_for PassesOwn.never rfl (pi_tup (pe_tup (pa_cons (pe_ix ix_list (pv 7) pe_int (fun _ _ => rfl)) (pa_cons (pe_ix ix_list (pv 7) pe_int (fun _ _ => rfl)) (pa_cons (pe_ix ix_list (pv 7) pe_int (fun _ _ => rfl)) pa_nil))))) (pg_name (i := 19) sc_law.nd rfl (by first | exact Or.inl rfl | exact Or.inr rfl))
  (pss_one (ps_dput hu (pv 19) pe_str (pe_op op_add (pe_dget2 hu (pv 19) pe_str pe_int ⟨rfl, rfl, rfl, rfl⟩) pe_int) rfl)))
  (pss_cons (ps_expr (pe_bm PySem.F.plainAttrs_list PySem.F.slot_list_append PySem.F.type_list_append mt_append (pe_ix ix_list (pv 7) pe_int (fun _ _ => rfl)) (pa_cons (pe_tup (pa_cons pe_str (pa_cons pe_int pa_nil))) pa_nil)))
  (pss_cons (ps_dput hu (pv 5) pe_str (pe_op op_add (pe_dget hu (pv 5) pe_str (fun _ _ => rfl)) pe_int) rfl)
  (pss_one (ps_ret (pe_and (pe_cmpR (op_neD hr.units) (pe_fld (pv 8) rfl) (pe_ix ix_list (pv 7) pe_int (fun _ _ => rfl)) (nomark _)) (pe_and (pe_cmpR op_ne (pe_dget hu (pe_fld (pv 9) rfl) pe_str (fun _ _ => rfl)) (pe_dget hu (pe_ix ix_list (pv 7) pe_int (fun _ _ => rfl)) pe_str (fun _ _ => rfl)) (nomark _)) (pe_and (pe_cmpR op_ne (pe_dget hu (pe_fld (pv 8) rfl) pe_str (fun _ _ => rfl)) (pe_dget hu (pe_ix ix_list (pv 7) pe_int (fun _ _ => rfl)) pe_str (fun _ _ => rfl)) (nomark _)) (pe_one (pe_cmp (pc_dnotin hu pe_str (pe_fld (pv 8) rfl)))))))))))), ?_⟩
  rintro Q σ H kq ⟨d, ⟨c0, c1, c2, c4, v10, v11, v12, v13, v14, v15, v16, v17, v18, v19, v20, rfl⟩, C, M, O⟩
  have n4 := C.n4
  have n1 := C.n1
  have m0 := C.mem n1
  -- for part in ..
  refine ⟨_, rfl, d.pl, _, 0, _, rfl, rfl, SqL.of M.pp, rfl, _, rfl, d.pl, _, 1, _, rfl, rfl, SqL.of M.pp, rfl, _, rfl, d.pl, _, 2, _, rfl, rfl, SqL.of M.pp, rfl, (by show 3 ≤ sizeLine; decide), fun TT hTT => ?_⟩
  have M1 := M.same (same_upd0 (o := .tup [.ref d.zf.td, .ref d.zf.od, .ref d.zf.sd]) hTT)
  have hT1 : (upd H TT (.tup [.ref d.zf.td, .ref d.zf.od, .ref d.zf.sd])) TT = some (.tup [.ref d.zf.td, .ref d.zf.od, .ref d.zf.sd]) := upd_same
  generalize upd H TT (.tup [.ref d.zf.td, .ref d.zf.od, .ref d.zf.sd]) = H1 at M1 hT1 ⊢
  clear M hTT
  refine ⟨TT, rfl, ⟨_, SqT.of hT1⟩, for_it (walk_tup (xs := [.ref d.zf.td, .ref d.zf.od, .ref d.zf.sd])) (fun i σ H' => ∃ u19, σ = [c0, c1, c2, some (.ref d.a.p), c4, some (.ref d.Bd), some (.ref d.zf.p), some (.ref d.pl), some (.ref d.zs.p), some (.ref d.zo.p), v10, v11, v12, v13, v14, v15, v16, v17, v18, u19, v20] ∧ H' = up3 d H1 i) ⟨_, rfl, rfl⟩ (fun i σ H' _ p => ?_) ?_ ?_⟩
  · obtain ⟨_, _, rfl⟩ := p
    exact SqT.of (up3_lst M1.toLN hT1 (by intro _ z; cases z) i)
  · rintro i x σ H2 H3 hi ⟨u19, rfl, rfl⟩ ⟨e3, hx⟩
    subst H3
    match i, hi with
    | 0, _ =>
      cases hx
      have e := M1.zf.ta
      exact ⟨_, rfl, d.zf.td, rfl, .inl ⟨_, .inl e⟩, _, ikv_in (k := 0) e m0 C.lt, _, _, rfl, rfl, _, rfl, d.zf.td, _, rfl, ikv_put C.lt (by rw [List.length_range]; omega) e m0 _, _, rfl, rfl⟩
    | 1, _ =>
      cases hx
      have e : up3 d H1 1 d.zf.od = some (.dK d.ko) := (upd_ne (Ne.symm O.d1)).trans M1.zf.ou
      refine ⟨_, rfl, d.zf.od, rfl, .inl ⟨_, .inl e⟩, none, ?_, _, _, rfl, rfl, _, rfl, d.zf.od, _, rfl, dput_tkv (k := 0) e (by decide) lt45 (by decide), _, rfl, rfl⟩
      exact dget_tkv (k := 0) e (by decide) lt45
    | 2, _ =>
      cases hx
      have e : up3 d H1 2 d.zf.sd = some (.dK d.ks) := (upd_ne (Ne.symm O.d3)).trans ((upd_ne (Ne.symm O.d2)).trans M1.zf.st)
      exact ⟨_, rfl, d.zf.sd, rfl, .inl ⟨_, .inl e⟩, _, ikv_in (k := 0) e m0 C.lt, _, _, rfl, rfl, _, rfl, d.zf.sd, _, rfl, ikv_put C.lt (by rw [List.length_range]; omega) e m0 _, _, rfl, rfl⟩
  rintro σ H5 ⟨u19, rfl, e5⟩
  have e5 : H5 = up3 d H1 3 := e5
  have ls : ∀ {p : Addr} {o : HO}, H1 p = some o → (∀ kvs, o ≠ .dK kvs) → H5 p = some o := fun e h => by rw [e5]; exact up3_lst M1.toLN e h 3
  have dk : ∀ {p : Addr} {o : HO}, H1 p = some o → p ≠ d.zf.td → p ≠ d.zf.od → p ≠ d.zf.sd → H5 p = some o := fun e h1 h2 h3 => by rw [e5]; exact up3_keep e h1 h2 h3 3
  have ft : H5 d.zf.td = some (.dK (ikv (List.range d.N.n) fun i => if i = 0 then (d.S.tk 0 : Int) + 1 else (d.S.tk i : Int))) := by
    rw [e5]
    exact (upd_ne O.d2).trans ((upd_ne O.d1).trans upd_same)
  have fs : H5 d.zf.sd = some (.dK (ikv (List.range d.N.n) fun i => if i = 0 then (d.S.pl 0 : Int) + 1 else (d.S.pl i : Int))) := by
    rw [e5]
    exact upd_same
  have hpp := ls M1.pp (by intro _ z; cases z)
  have hL := ls M1.hL (by intro _ z; cases z)
  have zsb := ls M1.zs.ob (by intro _ z; cases z)
  have zob := ls M1.zo.ob (by intro _ z; cases z)
  have zsr := ls M1.zs.ol (by intro _ z; cases z)
  have zot := dk M1.zo.ta (O.o.t _ (by simp)) (O.o.t _ (by simp)) (O.o.t _ (by simp))
  have zss := dk M1.zs.st (O.s.s _ (by simp)) (O.s.s _ (by simp)) (O.s.s _ (by simp))
  have zso := dk M1.zs.ou (O.s.o _ (by simp)) (O.s.o _ (by simp)) (O.s.o _ (by simp))
  have hB : H5 d.Bd = some (.dK (entB d.es)) := by
    obtain ⟨q, eq, hq⟩ := M1.gb.at_
    cases eq
    exact dk hq (O.f.t _ (by simp)).symm (O.f.o _ (by simp)).symm (O.f.s _ (by simp)).symm
  have its : Paired (ItemAt H5) d.xs d.l := Paired.mapP (M1.items C) fun x p ⟨y, e1, e2⟩ => ⟨y, e1, ls e2 (by intro _ z; cases z)⟩
  clear ls dk e5 hT1
  -- parts[3].append
  have hsz : d.xs.length < sizeLine := Nat.lt_of_le_of_lt (M1.len C) (by decide)
  refine ⟨_, rfl, d.pl, _, 3, _, rfl, rfl, SqL.of hpp, rfl, .inl ⟨rfl, _, SqL.of hL⟩, (by show 2 ≤ sizeLine; decide), fun Tp hTp => ?_⟩
  have sT := same_upd0 (o := .tup [.str "a", .int 1]) hTp
  have hT6 : (upd H5 Tp (.tup [.str "a", .int 1])) Tp = some (.tup [.str "a", .int 1]) := upd_same
  have hL6 := sT _ _ hL
  have hpp := sT _ _ hpp
  have ft := sT _ _ ft
  have fs := sT _ _ fs
  have zsb := sT _ _ zsb
  have zob := sT _ _ zob
  have zsr := sT _ _ zsr
  have zot := sT _ _ zot
  have zss := sT _ _ zss
  have zso := sT _ _ zso
  have hB := sT _ _ hB
  have its := items_same sT its
  generalize upd H5 Tp (.tup [.str "a", .int 1]) = H6 at hT6 hL6 hpp ft fs zsb zob zsr zot zss zso hB its ⊢
  clear sT hTp hL
  refine ⟨d.L, _, .ref Tp, rfl, rfl, hL6, hsz, ?_⟩
  have un : ∀ {p : Addr} {o : HO}, H6 p = some o → p ≠ d.L → (upd H6 d.L (.lst (d.xs ++ [.ref Tp]))) p = some o := fun e h => (upd_ne h).trans e
  have uk : ∀ {p : Addr} {o : HO}, H6 p = some o → (∀ ys, o ≠ .lst ys) → (upd H6 d.L (.lst (d.xs ++ [.ref Tp]))) p = some o := fun e h => un e (ne_of e hL6 (h _))
  have npl : d.pl ≠ d.L := fun e => by
    have h1 := M1.pp
    rw [e, M1.hL] at h1
    injection h1 with h1
    injection h1 with h1
    have q := M1.items C
    rw [h1] at q
    generalize d.l = l at q
    cases q with
    | cons h _ =>
      obtain ⟨y, e1, e2⟩ := h
      cases e1
      rw [M1.zf.ta] at e2
      cases e2
  have hT7 := uk hT6 (by intro _ z; cases z)
  have hpp := un hpp npl
  have ft := uk ft (by intro _ z; cases z)
  have fs := uk fs (by intro _ z; cases z)
  have zsb := uk zsb (by intro _ z; cases z)
  have zob := uk zob (by intro _ z; cases z)
  have zsr := un zsr (O.s.r _ (by simp))
  have zot := uk zot (by intro _ z; cases z)
  have zss := uk zss (by intro _ z; cases z)
  have zso := uk zso (by intro _ z; cases z)
  have hB := uk hB (by intro _ z; cases z)
  have its : Paired (ItemAt (upd H6 d.L (.lst (d.xs ++ [.ref Tp])))) d.xs d.l := Paired.mapP its fun x p ⟨y, e1, e2⟩ => ⟨y, e1, uk e2 (by intro _ z; cases z)⟩
  have hL7 : (upd H6 d.L (.lst (d.xs ++ [.ref Tp]))) d.L = some (.lst (d.xs ++ [.ref Tp])) := upd_same
  generalize upd H6 d.L (.lst (d.xs ++ [.ref Tp])) = H7 at hT7 hL7 hpp ft fs zsb zob zsr zot zss zso hB its ⊢
  clear un uk hT6 hL6
  -- balls["i"]
  have dg : DGet H7 d.Bd (.str "i") (some (.int (d.m1 : Int))) := by
    have q := DGet.k (k := Sum.inr "i") hB
    rw [ent_i] at q
    exact q
  refine ⟨_, rfl, d.Bd, _, rfl, dg, _, _, rfl, rfl, _, rfl, d.Bd, _, rfl, DPut.k (k := Sum.inr "i") hB (by show 2 < sizeLine; decide), ?_⟩
  have un : ∀ {p : Addr} {o u : HO}, H7 p = some o → p ≠ d.Bd → (upd H7 d.Bd u) p = some o := fun e h => (upd_ne h).trans e
  have uk : ∀ {p : Addr} {o u : HO}, H7 p = some o → (∀ ys, o ≠ .dK ys) → (upd H7 d.Bd u) p = some o := fun e h => un e (ne_of e hB (h _))
  -- return
  refine ⟨_, rfl, d.zs.p, CS, d.zs.dx, _, _, rfl, uk zsb (by intro _ z; cases z), T.cS, T.nSr, stF_r, _, rfl, d.pl, _, 3, _, rfl, rfl, SqL.of (uk hpp (by intro _ z; cases z)), rfl, .list (d.l.map stepD), .list ((d.l ++ [(0, 1)]).map stepD), ?_, ?_, steps_shaped _, steps_shaped _, _, rfl, ?_⟩
  · exact .lst (SqL.of (uk zsr (by intro _ z; cases z))) (dp_items (Paired.mapP its fun x p ⟨y, e1, e2⟩ => ⟨y, e1, uk e2 (by intro _ z; cases z)⟩))
  · exact .lst (SqL.of (uk hL7 (by intro _ z; cases z))) (dp_items (paired_snoc (Paired.mapP its fun x p ⟨y, e1, e2⟩ => ⟨y, e1, uk e2 (by intro _ z; cases z)⟩) ⟨Tp, rfl, uk hT7 (by intro _ z; cases z)⟩))
  rw [eqv_len (by rw [List.length_map, List.length_map, List.length_append, List.length_singleton]; omega)]
  refine iteT ?_
  refine ⟨_, rfl, d.zo.p, CS, d.zo.dx, _, _, rfl, uk zob (by intro _ z; cases z), T.cS, T.nSt, stF_t, d.zo.td, _, rfl, ikv_in (k := 0) (un zot (O.o.t _ (by simp))) m0 C.lt, _, rfl, d.pl, _, 0, _, rfl, rfl, SqL.of (uk hpp (by intro _ z; cases z)), rfl, d.zf.td, _, rfl, ikv_in (k := 0) (un ft (O.f.t _ (by simp))) m0 C.lt, rfl, _, rfl, ?_⟩
  refine ite2 (fun _ => ?_) (fun c => absurd ?_ c)
  · refine ⟨_, rfl, d.zs.p, CS, d.zs.dx, _, _, rfl, uk zsb (by intro _ z; cases z), T.cS, T.nSs, stF_s, d.zs.sd, _, rfl, ikv_in (k := 0) (un zss (O.s.s _ (by simp))) m0 C.lt, _, rfl, d.pl, _, 2, _, rfl, rfl, SqL.of (uk hpp (by intro _ z; cases z)), rfl, d.zf.sd, _, rfl, ikv_in (k := 0) (un fs (O.f.s _ (by simp))) m0 C.lt, rfl, _, rfl, ?_⟩
    refine ite2 (fun _ => ?_) (fun c => absurd ?_ c)
    · refine ⟨_, rfl, d.zs.p, CS, d.zs.dx, _, _, rfl, uk zsb (by intro _ z; cases z), T.cS, T.nSo, stF_o, d.zs.od, none, rfl, dget_out (un zso (O.s.o _ (by simp))) (by decide +kernel), kq _⟩
    · rw [decide_eq_false (fun z => by injection z with z; rw [if_pos rfl] at z; omega)]
      rfl
  · rw [decide_eq_false (fun z => by injection z with z; rw [if_pos rfl] at z; omega)]
    rfl
end
end Bal
set_option autoImplicit true
set_option Elab.async false
set_option linter.all false
set_option maxRecDepth 100000
set_option maxHeartbeats 4000000
/-! WT14: the law, from the order without its last step on. -/
namespace Bal
open PySem L2
theorem merge_ij (x y : V) : mergeK [] [((Sum.inr "i" : Key), x), (Sum.inr "j", y)] = [((Sum.inr "i" : Key), x), (Sum.inr "j", y)] := by rfl
section
variable {P : Program} {w : World} {K : PySem.W.Frag} {mg : Str → Option Value} {base : Heap} {CN CB CS : Addr} {er : Errs} {f : Addr} {cdv : Value} {A : Around} {outer : List Env} {s : Shared} {H0 : Hp} {E : XK}
theorem tail14 (hr : Room 9 (lawX P w K mg base f cdv A outer s H0 E).A) (T : Txt K mg CN CB CS) (G_played : FnG P w K mg base (L2.CX P w) 5 "played" (spPlayed CN er) [.non]) (G_Settled : MkG P w K mg base CX0 1 "Settled" CS (spSettled CS) [])
    (G_shows : MtG P w K mg base CX0 5 CS "shows" (spShows CN CS) [.non]) (h18 : TailOk (lawX P w K mg base f cdv A outer s H0 E) 18 (PreB CN CS)) : TailOk (lawX P w K mg base f cdv A outer s H0 E) 14 (PreB CN CS) := by
  have hu := hu_of hr
  obtain ⟨t18, d18, k18⟩ := h18
  refine ⟨_, (pss_cons (ps_asg (pe_f G_played hr (by decide) (by rfl) (passes_call takes0 (fun _ _ _ _ h => h)) (pa_cons (pv 3) (pa_cons (pe_disp (pps_cons pe_str (pe_dget hu (pv 5) pe_str (fun _ _ => rfl)) (pps_cons pe_str (pe_dget hu (pv 5) pe_str (fun _ _ => rfl)) pps_nil)) (by rfl) (by rfl) (fun z => by cases z) (by decide)) (pa_cons (pe_slice sl_list (pe_ix ix_list (pv 7) pe_int (fun _ _ => rfl)) po_none (po_some (pe_un un_neg pe_int))) pa_nil)))) (pg_tup rfl (pgs_cons (pg_name (i := 15) sc_law.nd rfl (by first | exact Or.inl rfl | exact Or.inr rfl)) (pgs_cons (pg_name (i := 16) sc_law.nd rfl (by first | exact Or.inl rfl | exact Or.inr rfl)) (pgs_cons (pg_name (i := 17) sc_law.nd rfl (by first | exact Or.inl rfl | exact Or.inr rfl)) pgs_nil)))))
  (pss_cons (ps_set (i := 18) sc_law.nd rfl (by first | exact Or.inl rfl | exact Or.inr rfl) (pe_callTy (call_dictP rfl) (by rfl) T.dict (by decide +kernel) (pa_cons (pe_lock (pe_lc (own := [("_law_name", 11)]) rfl sc_law.nd (pi_keys (pe_ix ix_list (pv 7) pe_int (fun _ _ => rfl))) (blkOk_by (by kernel_rfl)) (fun _ _ _ _ _ => (pg_name (i := 11) sc_law.nd rfl (by first | exact Or.inl rfl | exact Or.inr rfl))) (fun _ _ _ _ _ => pts_nil) (fun _ _ _ _ _ => (by exact (pe_tup (pa_cons (pv 11) (pa_cons (by exact (pe_op op_sub (by exact (pe_dget hu (by exact (pe_ix (ix_listK (K := K) (by rfl)) (pv 7) pe_int (fun _ _ => rfl))) (pv 11) (fun _ _ => rfl))) (by exact (pe_ifExp (pt_cmpR op_eq (pv 11) (by exact (pe_ix (ix_tupK (K := K) (by rfl)) (by exact (pe_ix (ix_listK (K := K) (by rfl)) (by exact (pe_ix (ix_listK (K := K) (by rfl)) (pv 7) pe_int (fun _ _ => rfl))) (by exact (pe_un un_neg pe_int)) (fun _ _ => rfl))) pe_int (fun _ _ => rfl))) (nomark _)) (by exact (pe_ix (ix_tupK (K := K) (by rfl)) (by exact (pe_ix (ix_listK (K := K) (by rfl)) (by exact (pe_ix (ix_listK (K := K) (by rfl)) (pv 7) pe_int (fun _ _ => rfl))) (by exact (pe_un un_neg pe_int)) (fun _ _ => rfl))) pe_int (fun _ _ => rfl))) pe_int)))) pa_nil))))))) pa_nil)))
  (pss_cons (ps_if (PW.pt (pw_or (pt_cmpR (op_eqB hr.units) (pv 15) pe_dnewK (nomark _)) (pw_or1 (pt_val (pe_m G_shows hr (by decide) pass0 (pe_k G_Settled hr (by decide) (by rfl) pass0 (pa_cons (pv 18) (pa_cons (pv 16) (pa_cons (pv 17) (pa_cons (pe_slice sl_list (pe_ix ix_list (pv 7) pe_int (fun _ _ => rfl)) po_none (po_some (pe_un un_neg pe_int))) pa_nil))))) (pa_cons (pv 3) (pa_cons (pv 5) pa_nil))))))) (pss_one (ps_ret pe_bl)) pss_nil)
  (pss_cons (ps_if (pt_not (pt_val (pe_m G_shows hr (by decide) pass0 (pe_k G_Settled hr (by decide) (by rfl) pass0 (pa_cons (pe_ix ix_list (pv 7) pe_int (fun _ _ => rfl)) (pa_cons (pe_ix ix_list (pv 7) pe_int (fun _ _ => rfl)) (pa_cons (pe_ix ix_list (pv 7) pe_int (fun _ _ => rfl)) (pa_cons (pe_op op_cat (pe_slice sl_list (pe_ix ix_list (pv 7) pe_int (fun _ _ => rfl)) po_none (po_some (pe_un un_neg pe_int))) (pe_op op_rep (pe_lst (pa_cons (pe_tup (pa_cons (pe_ix ix_tup (pe_ix ix_list (pe_ix ix_list (pv 7) pe_int (fun _ _ => rfl)) (pe_un un_neg pe_int) (fun _ _ => rfl)) pe_int (fun _ _ => rfl)) (pa_cons pe_int pa_nil))) pa_nil)) (pe_ix ix_tup (pe_ix ix_list (pe_ix ix_list (pv 7) pe_int (fun _ _ => rfl)) (pe_un un_neg pe_int) (fun _ _ => rfl)) pe_int (fun _ _ => rfl)))) pa_nil))))) (pa_cons (pv 3) (pa_cons (pv 5) pa_nil))))) (pss_one (ps_ret pe_bl)) pss_nil)
  d18)))), ?_⟩
  rintro Q σ H kq ⟨d, ⟨c0, c1, c2, c4, v10, v11, v12, v13, v14, v15, v16, v17, v18, v19, v20, rfl⟩, C, M, O⟩
  have n4 := C.n4
  have n1 := C.n1
  -- played
  refine ⟨_, rfl, fun Bq hBq => ?_⟩
  have s1 := same_upd0 (o := .dK []) hBq
  refine ⟨_, rfl, d.Bd, _, rfl, (M.same s1).dgi, _, rfl, d.Bd, _, rfl, (M.same s1).dgj, upd_same, [((Sum.inr "i" : Key), .int (d.m1 : Int)), (Sum.inr "j", .int (d.m2 : Int))], rfl, by show 2 ≤ 15; decide, ?_⟩
  have hB1 : (upd (upd H Bq (.dK [])) Bq (.dK (mergeK [] [((Sum.inr "i" : Key), .int (d.m1 : Int)), (Sum.inr "j", .int (d.m2 : Int))]))) Bq = some (.dK (entB d.es)) := by
    rw [upd_same, merge_ij]
    rfl
  have sB : Same H (upd (upd H Bq (.dK [])) Bq (.dK (mergeK [] [((Sum.inr "i" : Key), .int (d.m1 : Int)), (Sum.inr "j", .int (d.m2 : Int))]))) := by
    rw [upd_upd]
    exact same_upd0 hBq
  generalize upd (upd H Bq (.dK [])) Bq (.dK (mergeK [] [((Sum.inr "i" : Key), .int (d.m1 : Int)), (Sum.inr "j", .int (d.m2 : Int))])) = H1 at hB1 sB ⊢
  clear s1 hBq
  have M := M.same sB
  have gb : GoodB H1 d.N d.J (.ref Bq) d.es := { M.gb with at_ := ⟨Bq, rfl, hB1⟩ }
  clear sB hB1
  refine ⟨_, rfl, d.pl, _, 3, _, rfl, rfl, SqL.of M.pp, rfl, _, rfl, _, rfl, d.L, _, rfl, SqL.of M.hL, fun p hp => ?_⟩
  rw [show cutV d.xs none (some (-1)) = d.xs0 from cut_last _ _]
  have sp := same_upd0 (o := .lst d.xs0) hp
  have hp1 : (upd H1 p (.lst d.xs0)) p = some (.lst d.xs0) := upd_same
  generalize upd H1 p (.lst d.xs0) = H2 at sp hp1 ⊢
  clear hp
  have M := M.same sp
  have gb := gb.same sp
  refine ⟨.ref d.a.p, .ref Bq, .ref p, .non, rfl, .inr ⟨d.N, d.J, d.a, d.es, rfl, M.net, C.G, gb, rfl, .inr ⟨p, d.xs0, d.l0.map some, d.S0, none, rfl, hp1, items_stp C.la.run M.it0, fol_runs0 C.la.run, (fun i e => nomatch e), fun _ q wd od sd js v H3 s3 hq hwd hjs hod hsd _ => ?_⟩⟩⟩
  have M := M.same s3
  clear gb sp hp1 s3
  refine ⟨q, _, rfl, SqT.of hq, rfl, _, _, rfl, _, _, rfl, _, _, rfl, rfl, ?_⟩
  -- taken
  have etk : ∀ i, (d.S.tk i : Int) = if i = d.k then (d.S0.tk i : Int) + d.m else (d.S0.tk i : Int) := fun i => by
    rw [C.la.eS]
    show (((if i = d.k then d.S0.tk i + d.m else d.S0.tk i : Nat)) : Int) = _
    split <;> simp
  refine ⟨d.zf.td, _, M.zf.ta, trivial, fun ob => ?_⟩
  have n_pl := ne_of M.pp M.zf.ta (by intro z; cases z)
  have n_L := ne_of M.hL M.zf.ta (by intro z; cases z)
  have n_x := ne_of M.it M.zf.ta (by intro z; cases z)
  have hpl : (upd H3 d.zf.td (.frz ob (.dK d.kt))) d.pl = _ := (upd_ne n_pl).trans M.pp
  have hL : (upd H3 d.zf.td (.frz ob (.dK d.kt))) d.L = _ := (upd_ne n_L).trans M.hL
  have hx : (upd H3 d.zf.td (.frz ob (.dK d.kt))) d.x = _ := (upd_ne n_x).trans M.it
  have ht : (upd H3 d.zf.td (.frz ob (.dK d.kt))) d.zf.td = some (.frz ob (.dK d.kt)) := upd_same
  refine ⟨_, rfl, d.pl, _, 0, _, rfl, rfl, SqL.of hpl, rfl, d.zf.td, ob, rfl, .inl ⟨_, upd_same, fun D hD => lc_it walk_keys (fun i H' => Same (upd H3 d.zf.td (.frz ob (.dK d.kt))) H' ∧ PairsL H' D (tkv (List.range i) fun i => .int (d.S0.tk i : Int))) ⟨same_upd0 hD, [], upd_same, .nil⟩ (fun i H' _ p => p.1 _ _ ht) ?_ ?_⟩⟩
  · rintro i x H4 H5 hi ⟨s4, p4⟩ ⟨e5, kk, vv, hk, rfl⟩
    subst H5
    have hin : i < d.N.n := by
      have : i < (d.kt).length := hi
      rw [tkv_len, List.length_range] at this
      exact this
    obtain ⟨rfl, rfl⟩ : kk = Sum.inr (tg i) ∧ vv = .int (d.S.tk i : Int) := by
      have e : (d.kt)[i]? = some (Sum.inr (tg i), .int (d.S.tk i : Int)) := by
        show ((List.range d.N.n).map fun i => ((Sum.inr (tg i) : Key), V.int (d.S.tk i : Int)))[i]? = _
        rw [List.getElem?_map, List.getElem?_range hin]
        rfl
      rw [e] at hk
      cases hk
      exact ⟨rfl, rfl⟩
    have fin : ∀ (z : Int) (T9 : Addr), z = (d.S0.tk i : Int) → H4 T9 = none → ∃ acc, (upd H4 T9 (.tup [.str (tg i), .int z])) D = some (.lst acc) ∧ acc.length < sizeLine ∧ Same (upd H3 d.zf.td (.frz ob (.dK d.kt))) (upd (upd H4 T9 (.tup [.str (tg i), .int z])) D (.lst (acc ++ [.ref T9]))) ∧
        PairsL (upd (upd H4 T9 (.tup [.str (tg i), .int z])) D (.lst (acc ++ [.ref T9]))) D (tkv (List.range (i + 1)) fun i => .int (d.S0.tk i : Int)) := by
      rintro z T9 rfl hT
      have sT := same_upd0 (o := .tup [.str (tg i), .int (d.S0.tk i : Int)]) hT
      obtain ⟨acc, h1, h2, h3⟩ := (p4.same sT).snoc (k := Sum.inr (tg i)) (x := .int (d.S0.tk i : Int)) (T := T9) upd_same
      refine ⟨acc, h1, ?_, same_out (fun b o e => sT _ _ (s4 _ _ e)) hD, ?_⟩
      · rw [h2, tkv_len, List.length_range]
        exact Nat.lt_of_lt_of_le hin (Nat.le_trans n4 (by decide))
      · rw [tkv_snoc]
        exact h3
    have dg : DGet H4 d.zf.td (.str (tg i)) (some (.int (d.S.tk i : Int))) := by
      have e := tkv_val (v := fun i => V.int (d.S.tk i : Int)) (k := i) (by omega) C.lt
      rw [if_pos (C.mem hin)] at e
      exact .inl ⟨d.kt, Sum.inr (tg i), .inr ⟨ob, s4 _ _ ht⟩, rfl, e.symm⟩
    refine ⟨rfl, _, rfl, _, rfl, d.pl, _, 0, _, rfl, rfl, SqL.of (s4 _ _ hpl), rfl, _, rfl, d.zf.td, _, rfl, dg, ?_⟩
    refine ⟨_, rfl, _, rfl, d.pl, _, 3, _, rfl, rfl, SqL.of (s4 _ _ hpl), rfl, _, rfl, d.L, _, _, _, rfl, rfl, SqL.of (s4 _ _ hL), atI_last _ _, d.x, _, 0, _, rfl, rfl, SqT.of (s4 _ _ hx), rfl, rfl, _, rfl, ?_⟩
    refine ite2 (fun c => ?_) (fun c => ?_)
    · have e : i = d.k := by
        have c := of_decide_eq_true c
        injection c with c
        exact tg_inj i (by omega) d.k (by have := C.la.hk; omega) c
      refine ⟨_, rfl, d.pl, _, 3, _, rfl, rfl, SqL.of (s4 _ _ hpl), rfl, _, rfl, d.L, _, _, _, rfl, rfl, SqL.of (s4 _ _ hL), atI_last _ _, d.x, _, 1, _, rfl, rfl, SqT.of (s4 _ _ hx), rfl, _, _, rfl, rfl, by show 2 ≤ sizeLine; decide, fun T9 hT => ?_⟩
      exact fin _ T9 (by rw [etk, if_pos e]; omega) hT
    · have e : i ≠ d.k := fun e => c (decide_eq_true (by rw [e]; rfl))
      refine ⟨_, _, rfl, rfl, by show 2 ≤ sizeLine; decide, fun T9 hT => ?_⟩
      exact fin _ T9 (by rw [etk, if_neg e]; omega) hT
  rintro H5 ⟨s5, ps, hD5, hps⟩
  have ht5 := s5 _ _ ht
  refine ⟨ht5, ?_⟩
  have hkl : (d.kt).length = d.N.n := by rw [tkv_len, List.length_range]
  rw [hkl] at hps
  have s6 : Same H3 (upd H5 d.zf.td (.dK d.kt)) := same_lock M.zf.ta s5
  have kp : ∀ {p : Addr} {o : HO}, H5 p = some o → (∀ u, o ≠ .frz ob u) → (upd H5 d.zf.td (.dK d.kt)) p = some o := fun e h => (upd_ne (ne_of e ht5 (h _))).trans e
  have hD6 := kp hD5 (by intro _ z; cases z)
  have hps : Paired (fun (p : Addr) (kv : Key × V) => (upd H5 d.zf.td (.dK d.kt)) p = some (.tup [kV kv.1, kv.2])) ps _ := Paired.mapP hps fun _ _ z => kp z (by intro _ z; cases z)
  generalize upd H5 d.zf.td (.dK d.kt) = H6 at s6 hD6 hps ⊢
  clear kp ht5 hD5 s5 hpl hL hx ht n_pl n_L n_x
  refine ⟨D, ps, _, rfl, SqL.of hD6, Paired.mapP hps fun _ _ z => SqT.of z, fun Td hTd => ?_⟩
  rw [show mergeK [] (tkv (List.range d.N.n) fun i => V.int (d.S0.tk i : Int)) = ikv (List.range d.N.n) fun i => (d.S0.tk i : Int) from merge_self (tkv_nd List.nodup_range C.lt)]
  have s7 : Same H3 (upd H6 Td (.dK (ikv (List.range d.N.n) fun i => (d.S0.tk i : Int)))) := same_upd s6 hTd
  have hT7 : (upd H6 Td (.dK (ikv (List.range d.N.n) fun i => (d.S0.tk i : Int)))) Td = some (.dK (ikv (List.range d.N.n) fun i => (d.S0.tk i : Int))) := upd_same
  generalize upd H6 Td (.dK (ikv (List.range d.N.n) fun i => (d.S0.tk i : Int))) = H7 at s7 hT7 ⊢
  have M := M.same s7
  have hwd := s7 _ _ hwd
  have hod := s7 _ _ hod
  have hsd := s7 _ _ hsd
  clear hTd hps hD6 s6 hkl hD etk hq s7
  -- waits == {}
  refine ⟨_, rfl, fun d0 hd0 => ?_⟩
  have s8 := same_upd0 (o := .dK []) hd0
  have kj : (tkv js v).length ≠ 0 := by
    rw [tkv_len]
    intro z
    have := hjs d.k C.la.hk (by rw [C.la.w]; exact C.la.m1)
    rw [List.eq_nil_of_length_eq_zero z] at this
    cases this
  refine ⟨1, false, by decide, .inr (.inr (.inr ⟨wd, d0, _, [], true, rfl, rfl, s8 _ _ hwd, upd_same, fun c => absurd c kj, ?_⟩)), _, rfl, iteF ?_⟩
  · have : ((tkv js v).length == ([] : List (Key × V)).length) = false := by simpa using kj
    rw [this]
    rfl
  have M := M.same s8
  have hT8 := s8 _ _ hT7
  have hod := s8 _ _ hod
  have hsd := s8 _ _ hsd
  generalize upd H7 d0 (.dK []) = H8 at M hT8 hod hsd ⊢
  clear s8 hd0 hwd hT7 kj
  -- what the shorter order shows
  refine ⟨_, rfl, _, rfl, _, rfl, _, rfl, d.pl, _, 3, _, rfl, rfl, SqL.of M.pp, rfl, _, rfl, _, rfl, d.L, _, rfl, SqL.of M.hL, fun p9 hp9 => ?_⟩
  rw [show cutV d.xs none (some (-1)) = d.xs0 from cut_last _ _]
  have s9 := same_upd0 (o := .lst d.xs0) hp9
  have hp9' : (upd H8 p9 (.lst d.xs0)) p9 = some (.lst d.xs0) := upd_same
  have M := M.same s9
  have hT9 := s9 _ _ hT8
  have hod := s9 _ _ hod
  have hsd := s9 _ _ hsd
  generalize upd H8 p9 (.lst d.xs0) = H9 at M hT9 hod hsd hp9' ⊢
  clear s9 hp9 hT8
  refine fun x dx hx hdx ne => mk_set hx hdx ne hT9 hod hsd (.inl hp9') fun z HA ez AZ nw sz => ⟨rfl, ?_⟩
  rw [← ez]
  have M := M.same sz
  refine ⟨z.p, _, _, rfl, AZ.ob, rfl, _, rfl, _, rfl, tNil_of (shows_no AZ M.toLN C (items_stp C.la.run M.it0) (no_ord (g1 := fun i => (d.S0.tk i : Int)) (g2 := fun i => (d.S0.out i : Int)) (g3 := fun i => (d.S0.pl i : Int)) C.la.no_less) fun HB sB => ⟨_, rfl, iteF ?_⟩)⟩
  have M := M.same sB
  clear sB AZ nw sz ez hx hdx ne hT9 hod hsd hp9'
  -- one by one
  refine ⟨_, rfl, d.pl, _, 0, _, rfl, rfl, SqL.of M.pp, rfl, _, rfl, d.pl, _, 1, _, rfl, rfl, SqL.of M.pp, rfl, _, rfl, d.pl, _, 2, _, rfl, rfl, SqL.of M.pp, rfl, ?_⟩
  refine ⟨_, rfl, d.pl, _, 3, _, rfl, rfl, SqL.of M.pp, rfl, _, rfl, _, rfl, d.L, _, rfl, SqL.of M.hL, fun p1 hp1 => ?_⟩
  rw [show cutV d.xs none (some (-1)) = d.xs0 from cut_last _ _]
  have s1 := same_upd0 (o := .lst d.xs0) hp1
  have hp1' : (upd HB p1 (.lst d.xs0)) p1 = some (.lst d.xs0) := upd_same
  have M1 := M.same s1
  generalize upd HB p1 (.lst d.xs0) = H1 at M1 hp1' ⊢
  clear M s1 hp1
  refine ⟨_, rfl, d.pl, _, 3, _, rfl, rfl, SqL.of M1.pp, rfl, _, rfl, d.L, _, _, _, rfl, rfl, SqL.of M1.hL, atI_last _ _, d.x, _, 0, _, rfl, rfl, SqT.of M1.it, rfl, by show 2 ≤ sizeLine; decide, fun T9 hT => ?_⟩
  have s2 := same_upd0 (o := .tup [.str (tg d.k), .int 1]) hT
  have hT2 : (upd H1 T9 (.tup [.str (tg d.k), .int 1])) T9 = some (.tup [.str (tg d.k), .int 1]) := upd_same
  have hp2 := s2 _ _ hp1'
  have M2 := M1.same s2
  generalize upd H1 T9 (.tup [.str (tg d.k), .int 1]) = H2 at M2 hp2 hT2 ⊢
  clear M1 s2 hT hp1'
  refine ⟨by show 1 ≤ sizeLine; decide, fun l1 hl1 => ?_⟩
  have s3 := same_upd0 (o := .lst [.ref T9]) hl1
  have hl3 : (upd H2 l1 (.lst [.ref T9])) l1 = some (.lst [.ref T9]) := upd_same
  have hp3 := s3 _ _ hp2
  have hT3 := s3 _ _ hT2
  have M3 := M2.same s3
  generalize upd H2 l1 (.lst [.ref T9]) = H3 at M3 hp3 hT3 hl3 ⊢
  clear M2 s3 hl1 hp2 hT2
  have len0 := M3.len0 C
  refine ⟨_, rfl, d.pl, _, 3, _, rfl, rfl, SqL.of M3.pp, rfl, _, rfl, d.L, _, _, _, rfl, rfl, SqL.of M3.hL, atI_last _ _, d.x, _, 1, _, rfl, rfl, SqT.of M3.it, rfl, l1, (d.m : Int), _, rfl, rfl, hl3, by omega, by omega, ?_, fun p2 hp2 => ?_⟩
  · show 1 * (d.m : Int).toNat ≤ sizeLine
    rw [Int.toNat_natCast, Nat.one_mul]
    exact Nat.le_trans (show d.m ≤ 2634240 by omega) (by decide)
  rw [Int.toNat_natCast, flat_rep]
  have s4 := same_upd0 (o := .lst (List.replicate d.m (.ref T9))) hp2
  have hp24 : (upd H3 p2 (.lst (List.replicate d.m (.ref T9)))) p2 = some (.lst (List.replicate d.m (.ref T9))) := upd_same
  have hp4 := s4 _ _ hp3
  have hT4 := s4 _ _ hT3
  have M4 := M3.same s4
  generalize upd H3 p2 (.lst (List.replicate d.m (.ref T9))) = H4 at M4 hp4 hT4 hp24 ⊢
  clear M3 s4 hp2 hp3 hT3 hl3
  refine ⟨p1, p2, _, _, rfl, rfl, hp4, hp24, ?_, fun p3 hp3 => ?_⟩
  · rw [List.length_replicate]
    exact Nat.le_trans len0 (by decide)
  have s5 := same_upd0 (o := .lst (d.xs0 ++ List.replicate d.m (.ref T9))) hp3
  have hp5 : (upd H4 p3 (.lst (d.xs0 ++ List.replicate d.m (.ref T9)))) p3 = some (.lst (d.xs0 ++ List.replicate d.m (.ref T9))) := upd_same
  have hT5 := s5 _ _ hT4
  have M5 := M4.same s5
  generalize upd H4 p3 (.lst (d.xs0 ++ List.replicate d.m (.ref T9))) = H5 at M5 hp5 hT5 ⊢
  clear M4 s5 hp3 hp4 hp24 hT4
  refine fun x dx hx hdx ne => mk_set hx hdx ne M5.zf.ta M5.zf.ou M5.zf.st (.inl hp5) fun z HA ez AZ nw sz => ⟨rfl, ?_⟩
  rw [← ez]
  have M6 := M5.same sz
  refine ⟨z.p, _, _, rfl, AZ.ob, rfl, _, rfl, _, rfl, tNil_of (shows_yes AZ M6.toLN C (paired_append (items_stp C.la.run M6.it0) (paired_rep (.good (sz _ _ hT5) C.la.hk (Nat.le_refl _)) d.m)) (C.la.singles C.G) fun HB sB => ⟨_, rfl, iteF ?_⟩)⟩
  exact k18 Q _ _ kq ⟨d, ⟨_, _, _, _, _, _, _, _, _, _, _, _, _, _, _, rfl⟩, C, M6.same sB, O⟩
end
end Bal
set_option autoImplicit true
set_option Elab.async false
set_option linter.all false
set_option maxRecDepth 100000
set_option maxHeartbeats 4000000
/-! WT11: the law: one attribute is another, another order. -/
namespace Bal
open PySem L2
/-- an order that is not the settled one, behind which not all rest -/
def BadO (d : LD) (H : Hp) (y : V) : Prop := ∃ o ys os, y = .ref o ∧ H o = some (.lst ys) ∧ Paired (Stp H d.N) ys os ∧ NoOrd d.N (stB d.es) os ∧ ∀ (K : PySem.W.Frag) (H' : Hp) (p q : Addr), Same H H' → H' p = some (.lst ys) → H' q = some (.lst d.xs) → EqB K H' 5 (.ref p) (.ref q) false
theorem BadO.same {d : LD} {H H' : Hp} (s : Same H H') {y : V} (h : BadO d H y) : BadO d H' y := by
  obtain ⟨o, ys, os, e, h1, h2, h3, h4⟩ := h
  exact ⟨o, ys, os, e, s _ _ h1, Paired.mapP h2 fun _ _ z => z.same s, h3, fun K H2 p q s2 => h4 K H2 p q fun b u e => s2 _ _ (s _ _ e)⟩
section
variable {CN CS : Addr} {d : LD} {H : Hp}
theorem bad_less (C : LC d) (M : LN CN CS d H) {o : Addr} (h : H o = some (.lst d.xs0)) : BadO d H (.ref o) :=
  ⟨o, _, _, rfl, h, items_stp C.la.run M.it0, C.la.no_less, fun K H' p q _ hp hq => eqB_len hp hq (by rw [List.length_append, List.length_singleton]; omega)⟩
theorem bad_more (C : LC d) (M : LN CN CS d H) {o t : Addr} (ht : H t = some (.tup [.str (tg 0), .int 1])) (h : H o = some (.lst (d.xs ++ [.ref t]))) : BadO d H (.ref o) :=
  ⟨o, _, _, rfl, h, paired_snoc (items_stp C.run (M.items C)) (.good (m := 1) ht C.n1 (Nat.le_refl _)), C.la.no_more C.run C.rest C.n1, fun K H' p q _ hp hq => eqB_len hp hq (by rw [List.length_append, List.length_singleton]; omega)⟩
theorem bad_great (C : LC d) (M : LN CN CS d H) {o t : Addr} (ht : H t = some (.tup [.str (tg d.k), .int ((d.m : Int) + 1)])) (h : H o = some (.lst (d.xs0 ++ [.ref t]))) : BadO d H (.ref o) :=
  ⟨o, _, _, rfl, h, paired_snoc (items_stp C.la.run M.it0) (.good (m := d.m + 1) ht C.la.hk (by omega)), C.la.no_great, fun K H' p q s hp hq => eqB_last M.refs0 hp hq (s _ _ ht) (s _ _ M.it) (by omega)⟩
end
theorem setF_kv {is : List Nat} {g : Nat → Int} {t : Nat} (hm : t ∈ is) {z : Int} : (fun i => if i = t then z else g i) t = z := if_pos rfl
section
variable {P : Program} {w : World} {K : PySem.W.Frag} {mg : Str → Option Value} {base : Heap} {CN CB CS : Addr} {er : Errs} {f : Addr} {cdv : Value} {A : Around} {outer : List Env} {s : Shared} {H0 : Hp} {E : XK}
theorem tail11 (hr : Room 9 (lawX P w K mg base f cdv A outer s H0 E).A) (T : Txt K mg CN CB CS) (G_Settled : MkG P w K mg base CX0 1 "Settled" CS (spSettled CS) [])
    (G_shows : MtG P w K mg base CX0 5 CS "shows" (spShows CN CS) [.non]) (G_eq : MtG P w K mg base CX0 1 CS "__eq__" (spSetEq K CS) []) (nfS : PySem.W.notFirst K CS (.type "int") = true)
    (h14 : TailOk (lawX P w K mg base f cdv A outer s H0 E) 14 (PreB CN CS)) : TailOk (lawX P w K mg base f cdv A outer s H0 E) 11 (PreB CN CS) := by
  have hu := hu_of hr
  obtain ⟨t14, d14, k14⟩ := h14
  refine ⟨_, (pss_cons (ps_for PassesOwn.never rfl (pi_enumT (by rfl) T.enumerate (pa_cons (pe_tup (pa_cons pe_str (pa_cons pe_str (pa_cons pe_str pa_nil)))) pa_nil)) (pg_tup rfl (pgs_cons (pg_name (i := 10) sc_law.nd rfl (by first | exact Or.inl rfl | exact Or.inr rfl)) (pgs_cons (pg_name (i := 11) sc_law.nd rfl (by first | exact Or.inl rfl | exact Or.inr rfl)) pgs_nil)))
  (pss_cons (ps_setLc (i := 12) (own := [("_law_part", 19)]) rfl sc_law.nd rfl rfl (sw_true rfl rfl rfl (by decide +kernel)) (pi_list (pe_slice sl_list (pv 7) po_none (po_some pe_int))) (blkOk_by (by kernel_rfl)) (fun _ _ _ _ _ => (pg_name (i := 19) sc_law.nd rfl (by first | exact Or.inl rfl | exact Or.inr rfl))) (fun _ _ _ _ _ => pts_nil) (fun _ _ _ _ _ => (by exact (pe_callTy (call_dictPK (K := K) (by rfl) rfl) (by rfl) T.dict (by decide +kernel) (pa_cons (by exact (LiI.pe_listItems rfl (pv 19) (by rfl) T.list (by decide +kernel))) pa_nil)))))
  (pss_cons (ps_dput hu (pe_ix ix_list (pv 12) (pv 10) (fun _ _ => rfl)) (pv 11) (pe_op op_add (pe_dget hu (pe_ix ix_list (pv 12) (pv 10) (fun _ _ => rfl)) (pv 11) (fun _ _ => rfl)) pe_int) rfl)
  (pss_cons (ps_set (i := 13) sc_law.nd rfl (by first | exact Or.inl rfl | exact Or.inr rfl) (pe_k G_Settled hr (by decide) (by rfl) pass0 (pa_cons (pe_ix ix_list (pv 12) pe_int (fun _ _ => rfl)) (pa_cons (pe_ix ix_list (pv 12) pe_int (fun _ _ => rfl)) (pa_cons (pe_ix ix_list (pv 12) pe_int (fun _ _ => rfl)) (pa_cons (pe_ix ix_list (pv 7) pe_int (fun _ _ => rfl)) pa_nil))))))
  (pss_one (ps_if (PW.pt (pw_or (pt_cmpR (op_ownEq G_eq (hr.mono (by decide)) nfS pass0) (pv 13) (pv 6) (nomark _)) (pw_or1 (pt_val (pe_m G_shows hr (by decide) pass0 (pv 13) (pa_cons (pv 3) (pa_cons (pv 5) pa_nil))))))) (pss_one (ps_ret pe_bl)) pss_nil))))))
  (pss_cons (ps_for PassesOwn.never rfl (pi_tup (pe_tup (pa_cons (pe_slice sl_list (pe_ix ix_list (pv 7) pe_int (fun _ _ => rfl)) po_none (po_some (pe_un un_neg pe_int))) (pa_cons (pe_op op_cat (pe_ix ix_list (pv 7) pe_int (fun _ _ => rfl)) (pe_lst (pa_cons (pe_tup (pa_cons pe_str (pa_cons pe_int pa_nil))) pa_nil))) (pa_cons (pe_op op_cat (pe_slice sl_list (pe_ix ix_list (pv 7) pe_int (fun _ _ => rfl)) po_none (po_some (pe_un un_neg pe_int))) (pe_lst (pa_cons (pe_tup (pa_cons (pe_ix ix_tup (pe_ix ix_list (pe_ix ix_list (pv 7) pe_int (fun _ _ => rfl)) (pe_un un_neg pe_int) (fun _ _ => rfl)) pe_int (fun _ _ => rfl)) (pa_cons (pe_op op_add (pe_ix ix_tup (pe_ix ix_list (pe_ix ix_list (pv 7) pe_int (fun _ _ => rfl)) (pe_un un_neg pe_int) (fun _ _ => rfl)) pe_int (fun _ _ => rfl)) pe_int) pa_nil))) pa_nil))) pa_nil))))) (pg_name (i := 14) sc_law.nd rfl (by first | exact Or.inl rfl | exact Or.inr rfl))
  (pss_cons (ps_set (i := 13) sc_law.nd rfl (by first | exact Or.inl rfl | exact Or.inr rfl) (pe_k G_Settled hr (by decide) (by rfl) pass0 (pa_cons (pe_ix ix_list (pv 7) pe_int (fun _ _ => rfl)) (pa_cons (pe_ix ix_list (pv 7) pe_int (fun _ _ => rfl)) (pa_cons (pe_ix ix_list (pv 7) pe_int (fun _ _ => rfl)) (pa_cons (pv 14) pa_nil))))))
  (pss_one (ps_if (PW.pt (pw_or (pt_cmpR (op_ownEq G_eq (hr.mono (by decide)) nfS pass0) (pv 13) (pv 6) (nomark _)) (pw_or1 (pt_val (pe_m G_shows hr (by decide) pass0 (pv 13) (pa_cons (pv 3) (pa_cons (pv 5) pa_nil))))))) (pss_one (ps_ret pe_bl)) pss_nil))))
  (pss_cons (ps_if (PW.pt (pw_and (pt_cmpR op_gt (pe_ix ix_tup (pe_ix ix_list (pe_ix ix_list (pv 7) pe_int (fun _ _ => rfl)) (pe_un un_neg pe_int) (fun _ _ => rfl)) pe_int (fun _ _ => rfl)) pe_int (nomark _)) (pw_and1 (pt_val (pe_m G_shows hr (by decide) pass0 (pe_k G_Settled hr (by decide) (by rfl) pass0 (pa_cons (pe_ix ix_list (pv 7) pe_int (fun _ _ => rfl)) (pa_cons (pe_ix ix_list (pv 7) pe_int (fun _ _ => rfl)) (pa_cons (pe_ix ix_list (pv 7) pe_int (fun _ _ => rfl)) (pa_cons (pe_op op_cat (pe_slice sl_list (pe_ix ix_list (pv 7) pe_int (fun _ _ => rfl)) po_none (po_some (pe_un un_neg pe_int))) (pe_lst (pa_cons (pe_tup (pa_cons (pe_ix ix_tup (pe_ix ix_list (pe_ix ix_list (pv 7) pe_int (fun _ _ => rfl)) (pe_un un_neg pe_int) (fun _ _ => rfl)) pe_int (fun _ _ => rfl)) (pa_cons (pe_op op_sub (pe_ix ix_tup (pe_ix ix_list (pe_ix ix_list (pv 7) pe_int (fun _ _ => rfl)) (pe_un un_neg pe_int) (fun _ _ => rfl)) pe_int (fun _ _ => rfl)) pe_int) pa_nil))) pa_nil))) pa_nil))))) (pa_cons (pv 3) (pa_cons (pv 5) pa_nil))))))) (pss_one (ps_ret pe_bl)) pss_nil)
  d14))), ?_⟩
  rintro Q σ H kq ⟨d, ⟨c0, c1, c2, c4, v10, v11, v12, v13, v14, v15, v16, v17, v18, v19, v20, rfl⟩, C, M, O⟩
  have n4 := C.n4
  have n1 := C.n1
  have m0 := C.mem n1
  -- one attribute is another
  refine ⟨by show 3 ≤ sizeLine; decide, fun T1 hT1 => ?_⟩
  have s1 := same_upd0 (o := .tup [.str "a", .str "o", .str "a"]) hT1
  have hT1' : (upd H T1 (.tup [.str "a", .str "o", .str "a"])) T1 = some (.tup [.str "a", .str "o", .str "a"]) := upd_same
  have M1 := M.same s1
  generalize upd H T1 (.tup [.str "a", .str "o", .str "a"]) = H1 at M1 hT1' ⊢
  clear M s1 hT1
  refine ⟨T1, _, rfl, SqT.of hT1', for_it walk_enumG (fun i σ H' => ∃ v10 v11 v12 v13 v19 : Option V, σ = [c0, c1, c2, some (.ref d.a.p), c4, some (.ref d.Bd), some (.ref d.zf.p), some (.ref d.pl), some (.ref d.zs.p), some (.ref d.zo.p), v10, v11, v12, v13, v14, v15, v16, v17, v18, v19, v20] ∧ Same H1 H') ⟨_, _, _, _, _, rfl, Same.refl _⟩ (fun i σ H' _ p => ?_) ?_ ?_⟩
  · obtain ⟨_, _, _, _, _, _, s2⟩ := p
    exact SqT.of (s2 _ _ hT1')
  · rintro i x σ H2 H3 hi ⟨v10, v11, v12, v13, v19, rfl, s2⟩ ⟨T9, x9, rfl, hT, rfl, hx⟩
    refine ⟨T9, _, rfl, SqT.of upd_same, rfl, _, _, rfl, _, _, rfl, rfl, ?_⟩
    have s3 := same_upd s2 (o := .tup [.int (i : Nat), x9]) hT
    have M3 := M1.same s3
    generalize upd H2 T9 (.tup [.int (i : Nat), x9]) = H3 at s3 M3 ⊢
    clear s2 hT
    refine ⟨_, rfl, _, rfl, d.pl, _, rfl, SqL.of M3.pp, fun p hp => ?_⟩
    have s4 := same_upd s3 (o := .lst [.ref d.zf.td, .ref d.zf.od, .ref d.zf.sd]) hp
    have hp4 : (upd H3 p (.lst (cutV [.ref d.zf.td, .ref d.zf.od, .ref d.zf.sd, .ref d.L] none (some 3)))) p = some (.lst [.ref d.zf.td, .ref d.zf.od, .ref d.zf.sd]) := upd_same
    have e4 : upd H3 p (.lst (cutV [.ref d.zf.td, .ref d.zf.od, .ref d.zf.sd, .ref d.L] none (some 3))) = upd H3 p (.lst [.ref d.zf.td, .ref d.zf.od, .ref d.zf.sd]) := rfl
    rw [e4] at hp4 ⊢
    generalize upd H3 p (.lst [.ref d.zf.td, .ref d.zf.od, .ref d.zf.sd]) = H4 at s4 hp4 ⊢
    clear M3 s3 hp e4
    have M4 := M1.same s4
    have emT : ∀ g : Nat → Int, mergeK [] (ikv (List.range d.N.n) g) = ikv (List.range d.N.n) g := fun g => merge_self (tkv_nd List.nodup_range C.lt)
    have emO : ∀ g : Nat → Int, mergeK [] (ikv [4, 5] g) = ikv [4, 5] g := fun g => merge_self (tkv_nd (by decide) lt45)
    refine ⟨p, rfl, ⟨_, SqL.of hp4⟩, fun D hD => lc_it (walk_list (xs := [.ref d.zf.td, .ref d.zf.od, .ref d.zf.sd])) (fun j H' => ∃ ds : List Addr, H' D = some (.lst (ds.map V.ref)) ∧ Paired (fun q kv => H' q = some (.dK kv) ∧ H4 q = none) ds ([d.kt, d.ko, d.ks].take j) ∧ ds.Nodup ∧ Same H4 H') ⟨[], upd_same, .nil, List.nodup_nil, same_upd0 hD⟩ (fun j H' _ p => SqL.of (p.choose_spec.2.2.2 _ _ hp4)) ?_ ?_⟩
    · rintro j x H5 H6 hj ⟨ds, hD5, hds, hnd, s5⟩ ⟨e6, hxj⟩
      subst H6
      obtain ⟨q, kv, rfl, hq, hkv, hm⟩ : ∃ q kv, x = .ref q ∧ H5 q = some (.dK kv) ∧ [d.kt, d.ko, d.ks][j]? = some kv ∧ mergeK [] kv = kv := by
        match j, hj with
        | 0, _ => cases hxj; exact ⟨_, _, rfl, s5 _ _ M4.zf.ta, rfl, emT _⟩
        | 1, _ => cases hxj; exact ⟨_, _, rfl, s5 _ _ M4.zf.ou, rfl, emO _⟩
        | 2, _ => cases hxj; exact ⟨_, _, rfl, s5 _ _ M4.zf.st, rfl, emT _⟩
      refine ⟨rfl, ?_⟩
      refine ⟨_, rfl, q, _, rfl, hq, fun H6 p6 ts s6 _ _ _ hp6 hts => ⟨p6, ts, _, rfl, SqL.of hp6, Paired.mapP hts fun _ _ z => SqT.of z, fun PP hP => ?_⟩⟩
      rw [hm]
      have sP := same_upd0 (o := .dK kv) hP
      have hD7 := sP _ _ (s6 _ _ hD5)
      have s7 : Same H4 (upd H6 PP (.dK kv)) := fun b o e => sP _ _ (s6 _ _ (s5 _ _ e))
      have nPD : PP ≠ D := (ne_of_none (s6 _ _ hD5) hP).symm
      refine ⟨_, hD7, ?_, ds ++ [PP], ?_, ?_, ?_, same_out s7 hD⟩
      · rw [List.length_map, hds.length]
        exact Nat.lt_of_le_of_lt (List.length_take_le' ..) (by show 3 < sizeLine; decide)
      · rw [upd_same, List.map_append]
        rfl
      · rw [take_at hkv]
        refine paired_snoc (Paired.mapP hds fun q u ⟨h1, h2⟩ => ⟨?_, h2⟩) ⟨(upd_ne nPD).trans upd_same, same_none (H := H4) (H' := H6) (p := PP) (fun b o e => s6 _ _ (s5 _ _ e)) hP⟩
        exact (upd_ne (ne_of (sP _ _ (s6 _ _ h1)) hD7 (by intro z; cases z))).trans (sP _ _ (s6 _ _ h1))
      · refine nd_snoc hnd fun hm => ?_
        obtain ⟨t, ht⟩ := List.getElem?_of_mem hm
        obtain ⟨u, _, h1, _⟩ := paired_at hds ht
        exact ne_of_none (s6 _ _ h1) hP rfl
    rintro H5 ⟨ds, hD5, hds, hnd, s5⟩
    have hds : Paired (fun q kv => H5 q = some (.dK kv) ∧ H4 q = none) ds [d.kt, d.ko, d.ks] := hds
    obtain ⟨D0, D1, D2, rfl, ⟨f0, z0⟩, ⟨f1, z1⟩, ⟨f2, z2⟩⟩ : ∃ D0 D1 D2, ds = [D0, D1, D2] ∧ (H5 D0 = some (.dK d.kt) ∧ H4 D0 = none) ∧ (H5 D1 = some (.dK d.ko) ∧ H4 D1 = none) ∧ (H5 D2 = some (.dK d.ks) ∧ H4 D2 = none) := by
      cases hds with
      | cons a r => cases r with
        | cons b r => cases r with
          | cons c r => cases r with
            | nil => exact ⟨_, _, _, rfl, a, b, c⟩
    obtain ⟨n01, n02, n12⟩ : D0 ≠ D1 ∧ D0 ≠ D2 ∧ D1 ≠ D2 := by
      simp only [List.nodup_cons, List.mem_cons, not_or] at hnd
      exact ⟨hnd.1.1, hnd.1.2.1, hnd.2.1.1⟩
    have t5 : Same H1 H5 := fun b o e => s5 _ _ (s4 _ _ e)
    -- the change
    obtain ⟨Di, z, HF, g1, g2, g3, hat, hget, hput, e0, e1, e2, sF, df⟩ : ∃ (Di : Addr) (z : Int) (HF : Hp) (g1 g2 g3 : Nat → Int), ([V.ref D0, .ref D1, .ref D2])[i]? = some (.ref Di) ∧ DGet H5 Di x9 (some (.int z)) ∧ DPut H5 Di x9 (.int (z + 1)) HF ∧
        HF D0 = some (.dK (ikv (List.range d.N.n) g1)) ∧ HF D1 = some (.dK (ikv [4, 5] g2)) ∧ HF D2 = some (.dK (ikv (List.range d.N.n) g3)) ∧ (∀ p o, H5 p = some o → (∀ kvs, o ≠ .dK kvs) ∨ H4 p = some o → HF p = some o) ∧
        (g1 0 ≠ (d.S.tk 0 : Int) ∨ g2 4 ≠ (d.S.out 4 : Int) ∨ g3 0 ≠ (d.S.pl 0 : Int)) := by
      match i, hi with
      | 0, _ =>
        cases hx
        refine ⟨D0, _, _, _, _, _, rfl, ikv_in (k := 0) f0 m0 C.lt, ikv_put (k := 0) C.lt (by rw [List.length_range]; omega) f0 m0 _, upd_same, (upd_ne (Ne.symm n01)).trans f1, (upd_ne (Ne.symm n02)).trans f2, fun p o e h => ?_, .inl ?_⟩
        · refine (upd_ne ?_).trans e
          rcases h with h | h
          · exact ne_of e f0 (h _)
          · exact ne_of_none h z0
        · show (if 0 = 0 then (d.S.tk 0 : Int) + 1 else _) ≠ _
          rw [if_pos rfl]
          omega
      | 1, _ =>
        cases hx
        refine ⟨D1, _, _, _, _, _, rfl, ikv_in (k := 4) f1 (by decide) lt45, ikv_put (k := 4) lt45 (by decide) f1 (by decide) _, (upd_ne n01).trans f0, upd_same, (upd_ne (Ne.symm n12)).trans f2, fun p o e h => ?_, .inr (.inl ?_)⟩
        · refine (upd_ne ?_).trans e
          rcases h with h | h
          · exact ne_of e f1 (h _)
          · exact ne_of_none h z1
        · show (if 4 = 4 then (d.S.out 4 : Int) + 1 else _) ≠ _
          rw [if_pos rfl]
          omega
      | 2, _ =>
        cases hx
        refine ⟨D2, _, _, _, _, _, rfl, ikv_in (k := 0) f2 m0 C.lt, ikv_put (k := 0) C.lt (by rw [List.length_range]; omega) f2 m0 _, (upd_ne n02).trans f0, (upd_ne n12).trans f1, upd_same, fun p o e h => ?_, .inr (.inr ?_)⟩
        · refine (upd_ne ?_).trans e
          rcases h with h | h
          · exact ne_of e f2 (h _)
          · exact ne_of_none h z2
        · show (if 0 = 0 then (d.S.pl 0 : Int) + 1 else _) ≠ _
          rw [if_pos rfl]
          omega
    have hDs : SqL K H5 D [.ref D0, .ref D1, .ref D2] := SqL.of hD5
    refine ⟨_, rfl, _, rfl, D, _, (i : Int), _, rfl, rfl, hDs, atI_nat hat, _, rfl, Di, _, rfl, hget, _, _, rfl, rfl, _, rfl, _, rfl, D, _, (i : Int), _, rfl, rfl, hDs, atI_nat hat, _, rfl, Di, HF, rfl, hput, ?_⟩
    have hDF := sF _ _ hD5 (.inl (by intro _ z; cases z))
    have t6 : Same H1 HF := fun b o e => sF _ _ (t5 _ _ e) (.inr (s4 _ _ e))
    have M6 := M1.same t6
    clear hget hput hDs sF f0 f1 f2 hD5 hds hnd s5 t5 n01 n02 n12 hat
    refine ⟨_, rfl, D, _, 0, _, rfl, rfl, SqL.of hDF, rfl, _, rfl, D, _, 1, _, rfl, rfl, SqL.of hDF, rfl, _, rfl, D, _, 2, _, rfl, rfl, SqL.of hDF, rfl, _, rfl, d.pl, _, 3, _, rfl, rfl, SqL.of M6.pp, rfl, ?_⟩
    refine fun x dx hx hdx ne => mk_set hx hdx ne e0 e1 e2 (.inl M6.hL) fun zb H7 ez AZ nw sz => ⟨rfl, ?_⟩
    rw [← ez]
    have M7 := M6.same sz
    have t7 : Same H1 H7 := fun b o e => sz _ _ (t6 _ _ e)
    have b0 : EqB K H7 5 (.ref zb.td) (.ref d.zf.td) ((List.range d.N.n).all fun i => g1 i == (d.S.tk i : Int)) := eqB_ikv C.lt AZ.ta M7.zf.ta (ne_of_none M6.zf.ta nw.t).symm
    have b1 : EqB K H7 5 (.ref zb.od) (.ref d.zf.od) ([4, 5].all fun i => g2 i == (d.S.out i : Int)) := eqB_ikv lt45 AZ.ou M7.zf.ou (ne_of_none M6.zf.ou nw.o).symm
    have b2 : EqB K H7 5 (.ref zb.sd) (.ref d.zf.sd) ((List.range d.N.n).all fun i => g3 i == (d.S.pl i : Int)) := eqB_ikv C.lt AZ.st M7.zf.st (ne_of_none M6.zf.st nw.s).symm
    have b3 : EqB K H7 5 (.ref zb.ol) (.ref d.zf.ol) true := eqB_lst (M7.refs C) AZ.ol M7.zf.ol
    have hb : (((List.range d.N.n).all fun i => g1 i == (d.S.tk i : Int)) && (([4, 5].all fun i => g2 i == (d.S.out i : Int)) && (((List.range d.N.n).all fun i => g3 i == (d.S.pl i : Int)) && true))) = false := by
      rw [Bool.eq_false_iff]
      intro h
      simp only [Bool.and_eq_true, List.all_eq_true, beq_iff_eq] at h
      obtain ⟨h1, h2, h3, _⟩ := h
      rcases df with c | c | c
      · exact c (h1 0 m0)
      · exact c (h2 4 (by simp))
      · exact c (h3 0 m0)
    refine ⟨_, rfl, _, rfl, eq_set AZ M7.zf b0 b1 b2 b3 fun H8 s8 => ?_⟩
    rw [hb]
    refine ⟨_, rfl, iteF ?_⟩
    have A8 := AZ.same s8
    have M8 := M7.same s8
    refine ⟨_, rfl, zb.p, _, _, rfl, A8.ob, rfl, _, rfl, _, rfl, tNil_of (shows_no A8 M8.toLN C (items_stp C.run (M8.items C)) ⟨d.S, none, fol_runs0 C.run, fun h => ?_⟩ fun H9 s9 => ⟨_, rfl, iteF ?_⟩)⟩
    · obtain ⟨_, _, h3, h4, _⟩ := h
      rcases df with c | c | c
      · exact c (h3 0 n1).1
      · exact c h4
      · exact c (h3 0 n1).2
    · exact ⟨_, _, _, _, _, rfl, fun b o e => s9 _ _ (s8 _ _ (t7 _ _ e))⟩
  rintro σ H2 ⟨v10, v11, v12, v13, v19, rfl, s2⟩
  have M := M1.same s2
  clear M1 s2 hT1'
  -- other orders
  refine ⟨_, rfl, d.pl, _, 3, _, rfl, rfl, SqL.of M.pp, rfl, _, rfl, _, rfl, d.L, _, rfl, SqL.of M.hL, fun o1 ho1 => ?_⟩
  rw [show cutV d.xs none (some (-1)) = d.xs0 from cut_last _ _]
  have s3 := same_upd0 (o := .lst d.xs0) ho1
  have M3 := M.same s3
  have f1 : BadO d (upd H2 o1 (.lst d.xs0)) (.ref o1) := bad_less C M3.toLN upd_same
  generalize upd H2 o1 (.lst d.xs0) = H3 at M3 f1 ⊢
  clear M s3 ho1
  have hsz : d.xs.length + 1 ≤ sizeLine := Nat.le_trans (Nat.succ_le_succ (M3.len C)) (by decide)
  refine ⟨_, rfl, d.pl, _, 3, _, rfl, rfl, SqL.of M3.pp, rfl, by show 2 ≤ sizeLine; decide, fun T4 hT4 => ?_⟩
  have s4 := same_upd0 (o := .tup [.str "a", .int 1]) hT4
  have g4 : (upd H3 T4 (.tup [.str "a", .int 1])) T4 = some (.tup [.str (tg 0), .int 1]) := upd_same
  have M4 := M3.same s4
  have f1 := f1.same s4
  generalize upd H3 T4 (.tup [.str "a", .int 1]) = H4 at M4 f1 g4 ⊢
  clear M3 s4 hT4
  refine ⟨by show 1 ≤ sizeLine; decide, fun l5 hl5 => ?_⟩
  have s5 := same_upd0 (o := .lst [.ref T4]) hl5
  have h5 : (upd H4 l5 (.lst [.ref T4])) l5 = some (.lst [.ref T4]) := upd_same
  have M5 := M4.same s5
  have f1 := f1.same s5
  have g4 := s5 _ _ g4
  generalize upd H4 l5 (.lst [.ref T4]) = H5 at M5 f1 g4 h5 ⊢
  clear M4 s5 hl5
  refine ⟨d.L, l5, _, _, rfl, rfl, M5.hL, h5, hsz, fun o2 ho2 => ?_⟩
  have s6 := same_upd0 (o := .lst (d.xs ++ [.ref T4])) ho2
  have M6 := M5.same s6
  have f2 : BadO d (upd H5 o2 (.lst (d.xs ++ [.ref T4]))) (.ref o2) := bad_more C M6.toLN (s6 _ _ g4) upd_same
  have f1 := f1.same s6
  generalize upd H5 o2 (.lst (d.xs ++ [.ref T4])) = H6 at M6 f1 f2 ⊢
  clear M5 s6 ho2 g4 h5
  refine ⟨_, rfl, d.pl, _, 3, _, rfl, rfl, SqL.of M6.pp, rfl, _, rfl, _, rfl, d.L, _, rfl, SqL.of M6.hL, fun o3 ho3 => ?_⟩
  rw [show cutV d.xs none (some (-1)) = d.xs0 from cut_last _ _]
  have s7 := same_upd0 (o := .lst d.xs0) ho3
  have h3 : (upd H6 o3 (.lst d.xs0)) o3 = some (.lst d.xs0) := upd_same
  have M7 := M6.same s7
  have f1 := f1.same s7
  have f2 := f2.same s7
  generalize upd H6 o3 (.lst d.xs0) = H7 at M7 f1 f2 h3 ⊢
  clear M6 s7 ho3
  refine ⟨_, rfl, d.pl, _, 3, _, rfl, rfl, SqL.of M7.pp, rfl, _, rfl, d.L, _, _, _, rfl, rfl, SqL.of M7.hL, atI_last _ _, d.x, _, 0, _, rfl, rfl, SqT.of M7.it, rfl, ?_⟩
  refine ⟨_, rfl, d.pl, _, 3, _, rfl, rfl, SqL.of M7.pp, rfl, _, rfl, d.L, _, _, _, rfl, rfl, SqL.of M7.hL, atI_last _ _, d.x, _, 1, _, rfl, rfl, SqT.of M7.it, rfl, _, _, rfl, rfl, by show 2 ≤ sizeLine; decide, fun T8 hT8 => ?_⟩
  have s8 := same_upd0 (o := .tup [.str (tg d.k), .int ((d.m : Int) + 1)]) hT8
  have g8 : (upd H7 T8 (.tup [.str (tg d.k), .int ((d.m : Int) + 1)])) T8 = some (.tup [.str (tg d.k), .int ((d.m : Int) + 1)]) := upd_same
  have M8 := M7.same s8
  have f1 := f1.same s8
  have f2 := f2.same s8
  have h3 := s8 _ _ h3
  generalize upd H7 T8 (.tup [.str (tg d.k), .int ((d.m : Int) + 1)]) = H8 at M8 f1 f2 h3 g8 ⊢
  clear M7 s8 hT8
  refine ⟨by show 1 ≤ sizeLine; decide, fun l9 hl9 => ?_⟩
  have s9 := same_upd0 (o := .lst [.ref T8]) hl9
  have h9 : (upd H8 l9 (.lst [.ref T8])) l9 = some (.lst [.ref T8]) := upd_same
  have M9 := M8.same s9
  have f1 := f1.same s9
  have f2 := f2.same s9
  have h3 := s9 _ _ h3
  have g8 := s9 _ _ g8
  generalize upd H8 l9 (.lst [.ref T8]) = H9 at M9 f1 f2 h3 g8 h9 ⊢
  clear M8 s9 hl9
  refine ⟨o3, l9, _, _, rfl, rfl, h3, h9, ?_, fun o4 ho4 => ?_⟩
  · rw [List.length_append] at hsz
    show d.xs0.length + 1 ≤ sizeLine
    omega
  have sA := same_upd0 (o := .lst (d.xs0 ++ [.ref T8])) ho4
  have MA := M9.same sA
  have f3 : BadO d (upd H9 o4 (.lst (d.xs0 ++ [.ref T8]))) (.ref o4) := bad_great C MA.toLN (sA _ _ g8) upd_same
  have f1 := f1.same sA
  have f2 := f2.same sA
  generalize upd H9 o4 (.lst (d.xs0 ++ [.ref T8])) = HA at MA f1 f2 f3 ⊢
  clear M9 sA ho4 h3 h9 g8
  refine ⟨by show 3 ≤ sizeLine; decide, fun TB hTB => ?_⟩
  have sB := same_upd0 (o := .tup [.ref o1, .ref o2, .ref o4]) hTB
  have hB : (upd HA TB (.tup [.ref o1, .ref o2, .ref o4])) TB = some (.tup [.ref o1, .ref o2, .ref o4]) := upd_same
  have MB := MA.same sB
  have f1 := f1.same sB
  have f2 := f2.same sB
  have f3 := f3.same sB
  generalize upd HA TB (.tup [.ref o1, .ref o2, .ref o4]) = HB at MB f1 f2 f3 hB ⊢
  clear MA sB hTB
  refine ⟨TB, rfl, ⟨_, SqT.of hB⟩, for_it (walk_tup (xs := [.ref o1, .ref o2, .ref o4])) (fun i σ H' => ∃ v13 v14 : Option V, σ = [c0, c1, c2, some (.ref d.a.p), c4, some (.ref d.Bd), some (.ref d.zf.p), some (.ref d.pl), some (.ref d.zs.p), some (.ref d.zo.p), v10, v11, v12, v13, v14, v15, v16, v17, v18, v19, v20] ∧ Same HB H') ⟨_, _, rfl, Same.refl _⟩ (fun i σ H' _ p => ?_) ?_ ?_⟩
  · obtain ⟨_, _, _, s1⟩ := p
    exact SqT.of (s1 _ _ hB)
  · rintro i x σ H1 H2 hi ⟨v13, v14, rfl, s1⟩ ⟨e2, hx⟩
    subst H2
    have bad : BadO d H1 x := by
      match i, hi with
      | 0, _ => cases hx; exact f1.same s1
      | 1, _ => cases hx; exact f2.same s1
      | 2, _ => cases hx; exact f3.same s1
    obtain ⟨o, ys, os, rfl, ho, hos, no, hne⟩ := bad
    have M1 := MB.same s1
    refine ⟨_, rfl, d.pl, _, 0, _, rfl, rfl, SqL.of M1.pp, rfl, _, rfl, d.pl, _, 1, _, rfl, rfl, SqL.of M1.pp, rfl, _, rfl, d.pl, _, 2, _, rfl, rfl, SqL.of M1.pp, rfl, _, rfl, ?_⟩
    refine fun x dx hx hdx ne => mk_set hx hdx ne M1.zf.ta M1.zf.ou M1.zf.st (.inl ho) fun zb H7 ez AZ nw sz => ⟨rfl, ?_⟩
    rw [← ez]
    have M7 := M1.same sz
    refine ⟨_, rfl, _, rfl, eq_set AZ M7.zf (eqB_dict C.lt AZ.ta M7.zf.ta) (eqB_dict lt45 AZ.ou M7.zf.ou) (eqB_dict C.lt AZ.st M7.zf.st) (hne K H7 _ _ sz AZ.ol M7.zf.ol) fun H8 s8 => ⟨_, rfl, iteF ?_⟩⟩
    have A8 := AZ.same s8
    have M8 := M7.same s8
    refine ⟨_, rfl, zb.p, _, _, rfl, A8.ob, rfl, _, rfl, _, rfl, tNil_of (shows_no A8 M8.toLN C (Paired.mapP hos fun _ _ z => (z.same sz).same s8) (no_ord (g1 := fun i => (d.S.tk i : Int)) (g2 := fun i => (d.S.out i : Int)) (g3 := fun i => (d.S.pl i : Int)) no) fun H9 s9 => ⟨_, rfl, iteF ?_⟩)⟩
    exact ⟨_, _, rfl, fun b o e => s9 _ _ (s8 _ _ (sz _ _ (s1 _ _ e)))⟩
  rintro σ H1 ⟨v13, v14, rfl, s1⟩
  have M := MB.same s1
  clear MB s1 hB f1 f2 f3 hsz
  -- one less at the last step
  refine ⟨_, rfl, d.pl, _, 3, _, rfl, rfl, SqL.of M.pp, rfl, _, rfl, d.L, _, _, _, rfl, rfl, SqL.of M.hL, atI_last _ _, d.x, _, 1, _, rfl, rfl, SqT.of M.it, rfl, _, _, rfl, rfl, _, rfl, ?_⟩
  refine ite2 (fun c => ?_) (fun c => iteF (k14 Q _ _ kq ⟨d, ⟨_, _, _, _, _, _, _, _, _, _, _, _, _, _, _, rfl⟩, C, M, O⟩))
  have hm : 1 < d.m := by
    have := of_decide_eq_true c
    omega
  refine ⟨_, rfl, d.pl, _, 0, _, rfl, rfl, SqL.of M.pp, rfl, _, rfl, d.pl, _, 1, _, rfl, rfl, SqL.of M.pp, rfl, _, rfl, d.pl, _, 2, _, rfl, rfl, SqL.of M.pp, rfl, ?_⟩
  refine ⟨_, rfl, d.pl, _, 3, _, rfl, rfl, SqL.of M.pp, rfl, _, rfl, _, rfl, d.L, _, rfl, SqL.of M.hL, fun o3 ho3 => ?_⟩
  rw [show cutV d.xs none (some (-1)) = d.xs0 from cut_last _ _]
  have s7 := same_upd0 (o := .lst d.xs0) ho3
  have h3 : (upd H1 o3 (.lst d.xs0)) o3 = some (.lst d.xs0) := upd_same
  have M7 := M.same s7
  generalize upd H1 o3 (.lst d.xs0) = H7 at M7 h3 ⊢
  clear M s7 ho3
  refine ⟨_, rfl, d.pl, _, 3, _, rfl, rfl, SqL.of M7.pp, rfl, _, rfl, d.L, _, _, _, rfl, rfl, SqL.of M7.hL, atI_last _ _, d.x, _, 0, _, rfl, rfl, SqT.of M7.it, rfl, ?_⟩
  refine ⟨_, rfl, d.pl, _, 3, _, rfl, rfl, SqL.of M7.pp, rfl, _, rfl, d.L, _, _, _, rfl, rfl, SqL.of M7.hL, atI_last _ _, d.x, _, 1, _, rfl, rfl, SqT.of M7.it, rfl, _, _, rfl, rfl, by show 2 ≤ sizeLine; decide, fun T8 hT8 => ?_⟩
  have s8 := same_upd0 (o := .tup [.str (tg d.k), .int ((d.m : Int) - 1)]) hT8
  have g8 : (upd H7 T8 (.tup [.str (tg d.k), .int ((d.m : Int) - 1)])) T8 = some (.tup [.str (tg d.k), .int ((d.m : Int) - 1)]) := upd_same
  have M8 := M7.same s8
  have h3 := s8 _ _ h3
  generalize upd H7 T8 (.tup [.str (tg d.k), .int ((d.m : Int) - 1)]) = H8 at M8 h3 g8 ⊢
  clear M7 s8 hT8
  refine ⟨by show 1 ≤ sizeLine; decide, fun l9 hl9 => ?_⟩
  have s9 := same_upd0 (o := .lst [.ref T8]) hl9
  have h9 : (upd H8 l9 (.lst [.ref T8])) l9 = some (.lst [.ref T8]) := upd_same
  have M9 := M8.same s9
  have h3 := s9 _ _ h3
  have g8 := s9 _ _ g8
  generalize upd H8 l9 (.lst [.ref T8]) = H9 at M9 h3 g8 h9 ⊢
  clear M8 s9 hl9
  have hsz : d.xs0.length + 1 ≤ sizeLine := Nat.le_trans (show d.xs0.length + 1 ≤ 2634240 by have := M9.len0 C; omega) (by decide)
  refine ⟨o3, l9, _, _, rfl, rfl, h3, h9, hsz, fun o4 ho4 => ?_⟩
  have sA := same_upd0 (o := .lst (d.xs0 ++ [.ref T8])) ho4
  have MA := M9.same sA
  have hA : (upd H9 o4 (.lst (d.xs0 ++ [.ref T8]))) o4 = some (.lst (d.xs0 ++ [.ref T8])) := upd_same
  have g8 := sA _ _ g8
  generalize upd H9 o4 (.lst (d.xs0 ++ [.ref T8])) = HA at MA hA g8 ⊢
  clear M9 sA ho4 h3 h9
  rw [show ((d.m : Int) - 1) = ((d.m - 1 : Nat) : Int) by omega] at g8
  refine fun x dx hx hdx ne => mk_set hx hdx ne MA.zf.ta MA.zf.ou MA.zf.st (.inl hA) fun zb H7 ez AZ nw sz => ⟨rfl, ?_⟩
  rw [← ez]
  have M7 := MA.same sz
  refine ⟨zb.p, _, _, rfl, AZ.ob, rfl, _, rfl, _, rfl, tNil_of (shows_no AZ M7.toLN C (paired_snoc (items_stp C.la.run M7.it0) (.good (sz _ _ g8) C.la.hk (by omega))) (no_ord (g1 := fun i => (d.S.tk i : Int)) (g2 := fun i => (d.S.out i : Int)) (g3 := fun i => (d.S.pl i : Int)) (C.la.no_small hm)) fun H9 s9 => ⟨_, rfl, iteF ?_⟩)⟩
  exact k14 Q _ _ kq ⟨d, ⟨_, _, _, _, _, _, _, _, _, _, _, _, _, _, _, rfl⟩, C, M7.same s9, O⟩
end
end Bal
set_option autoImplicit true
set_option Elab.async false
set_option linter.all false
set_option maxRecDepth 100000
set_option maxHeartbeats 4000000
/-! WT8: the law: what is settled, made anew, is equal. -/
namespace Bal
open PySem L2
/-- the slots, what is settled found -/
def SlA (d : LD) (σ : L2.St) : Prop := ∃ c0 c1 c2 c4 v7 v8 v9 v10 v11 v12 v13 v14 v15 v16 v17 v18 v19 v20 : Option V,
  σ = [c0, c1, c2, some (.ref d.a.p), c4, some (.ref d.Bd), some (.ref d.zf.p), v7, v8, v9, v10, v11, v12, v13, v14, v15, v16, v17, v18, v19, v20]
def PreA (CN CS : Addr) : L2.St → Hp → Prop := fun σ H => ∃ d, SlA d σ ∧ LC d ∧ LN CN CS d H ∧ d.zf.td ≠ d.zf.od ∧ d.zf.td ≠ d.zf.sd ∧ d.zf.od ≠ d.zf.sd ∧ Off [d.Bd] d.zf
section
variable {P : Program} {w : World} {K : PySem.W.Frag} {mg : Str → Option Value} {base : Heap} {CN CB CS : Addr} {er : Errs} {f : Addr} {cdv : Value} {A : Around} {outer : List Env} {s : Shared} {H0 : Hp} {E : XK}
theorem tail8 (hr : Room 9 (lawX P w K mg base f cdv A outer s H0 E).A) (T : Txt K mg CN CB CS) (G_Settled : MkG P w K mg base CX0 1 "Settled" CS (spSettled CS) [])
    (G_eq : MtG P w K mg base CX0 1 CS "__eq__" (spSetEq K CS) []) (nfS : PySem.W.notFirst K CS (.type "int") = true) (hneS : PySem.W.findIn K (.ref CS) "__ne__" = some (some (.builtin "object.__ne__"))) (hobS : PySem.W.mroIn K CS (.type "object") = some true)
    (h11 : TailOk (lawX P w K mg base f cdv A outer s H0 E) 11 (PreB CN CS)) : TailOk (lawX P w K mg base f cdv A outer s H0 E) 8 (PreA CN CS) := by
  have hu := hu_of hr
  obtain ⟨t11, d11, k11⟩ := h11
  refine ⟨_, (pss_cons (ps_set (i := 7) sc_law.nd rfl (by first | exact Or.inl rfl | exact Or.inr rfl) (pe_lst (pa_cons (pe_fld (pv 6) rfl) (pa_cons (pe_fld (pv 6) rfl) (pa_cons (pe_fld (pv 6) rfl) (pa_cons (pe_callTy call_list_of (by rfl) T.list (by decide +kernel) (pa_cons (pe_fld (pv 6) rfl) pa_nil)) pa_nil))))))
  (pss_cons (ps_par (i := 8) (j := 9) rfl sc_law.nd rfl rfl (by decide) rfl rfl (pa_cons (pe_k G_Settled hr (by decide) (by rfl) pass0 (pa_cons (pe_ix ix_list (pv 7) pe_int (fun _ _ => rfl)) (pa_cons (pe_ix ix_list (pv 7) pe_int (fun _ _ => rfl)) (pa_cons (pe_ix ix_list (pv 7) pe_int (fun _ _ => rfl)) (pa_cons (pe_ix ix_list (pv 7) pe_int (fun _ _ => rfl)) pa_nil))))) (pa_cons (pe_k G_Settled hr (by decide) (by rfl) pass0 (pa_cons (pe_ix ix_list (pv 7) pe_int (fun _ _ => rfl)) (pa_cons (pe_ix ix_list (pv 7) pe_int (fun _ _ => rfl)) (pa_cons (pe_ix ix_list (pv 7) pe_int (fun _ _ => rfl)) (pa_cons (pe_callTy call_tuple_of (by rfl) T.tuple (by decide +kernel) (pa_cons (pe_ix ix_list (pv 7) pe_int (fun _ _ => rfl)) pa_nil)) pa_nil))))) pa_nil)) (by rfl))
  (pss_cons (ps_if (PW.pt (pw_or (pt_cmpR (op_ownNe G_eq (hr.mono (by decide)) hu hneS hobS pass0) (pv 8) (pv 6) (nomark _)) (pw_or (pt_cmpR (op_ownNe G_eq (hr.mono (by decide)) hu hneS hobS pass0) (pv 9) (pv 6) (nomark _)) (pw_or (pt_cmpR (op_ownEq G_eq (hr.mono (by decide)) nfS pass0) (pv 6) pe_int (nomark _)) (pw_or1 (pt_cmpR (op_neD hr.units) (pe_fld (pv 6) rfl) (pe_callTy call_list_of (by rfl) T.list (by decide +kernel) (pa_cons (pe_fld (pv 6) rfl) pa_nil)) (nomark _))))))) (pss_one (ps_ret pe_bl)) pss_nil)
  d11))), ?_⟩
  rintro Q σ H kq ⟨d, ⟨c0, c1, c2, c4, v7, v8, v9, v10, v11, v12, v13, v14, v15, v16, v17, v18, v19, v20, rfl⟩, C, M, h1, h2, h3, fo⟩
  -- parts
  refine ⟨_, rfl, d.zf.p, CS, d.zf.dx, _, _, rfl, M.zf.ob, T.cS, T.nSt, stF_t, _, rfl, d.zf.p, CS, d.zf.dx, _, _, rfl, M.zf.ob, T.cS, T.nSo, stF_o, _, rfl, d.zf.p, CS, d.zf.dx, _, _, rfl, M.zf.ob, T.cS, T.nSs, stF_s, _, rfl, d.zf.p, CS, d.zf.dx, _, _, rfl, M.zf.ob, T.cS, T.nSr, stF_r, d.zf.ol, _, rfl, .inl (SqL.of M.zf.ol), fun L hL => ?_⟩
  have s1 := same_upd0 (o := .lst d.xs) hL
  have hL1 : (upd H L (.lst d.xs)) L = some (.lst d.xs) := upd_same
  have M1 := M.same s1
  generalize upd H L (.lst d.xs) = H1 at M1 hL1 ⊢
  clear M s1 hL
  refine ⟨by show 4 ≤ sizeLine; decide, fun pl hpl => ?_⟩
  have s2 := same_upd0 (o := .lst [.ref d.zf.td, .ref d.zf.od, .ref d.zf.sd, .ref L]) hpl
  have hpl2 : (upd H1 pl (.lst [.ref d.zf.td, .ref d.zf.od, .ref d.zf.sd, .ref L])) pl = some (.lst [.ref d.zf.td, .ref d.zf.od, .ref d.zf.sd, .ref L]) := upd_same
  have M2 := M1.same s2
  have hL2 := s2 _ _ hL1
  generalize upd H1 pl (.lst [.ref d.zf.td, .ref d.zf.od, .ref d.zf.sd, .ref L]) = H2 at M2 hL2 hpl2 ⊢
  clear M1 s2 hpl hL1
  -- some
  refine ⟨_, rfl, pl, _, 0, _, rfl, rfl, SqL.of hpl2, rfl, _, rfl, pl, _, 1, _, rfl, rfl, SqL.of hpl2, rfl, _, rfl, pl, _, 2, _, rfl, rfl, SqL.of hpl2, rfl, _, rfl, pl, _, 3, _, rfl, rfl, SqL.of hpl2, rfl, ?_⟩
  refine fun x dx hx hdx ne => mk_set hx hdx ne M2.zf.ta M2.zf.ou M2.zf.st (.inl hL2) fun zs H3 ez As nws s3 => ⟨rfl, ?_⟩
  rw [← ez]
  have M3 := M2.same s3
  have hL3 := s3 _ _ hL2
  have hpl3 := s3 _ _ hpl2
  have mem : ∀ {H' : Hp}, LN CN CS d H' → H' L = some (.lst d.xs) → ∀ v ∈ [d.zf.td, d.zf.od, d.zf.sd, L, d.Bd], ∃ o, H' v = some o := fun M h v hv => by
    simp only [List.mem_cons, List.not_mem_nil, or_false] at hv
    rcases hv with rfl | rfl | rfl | rfl | rfl
    · exact ⟨_, M.zf.ta⟩
    · exact ⟨_, M.zf.ou⟩
    · exact ⟨_, M.zf.st⟩
    · exact ⟨_, h⟩
    · exact ⟨_, M.hB⟩
  have os := off_new nws (mem M2 hL2)
  clear hx hdx ne ez
  -- other
  refine ⟨_, rfl, pl, _, 0, _, rfl, rfl, SqL.of hpl3, rfl, _, rfl, pl, _, 1, _, rfl, rfl, SqL.of hpl3, rfl, _, rfl, pl, _, 2, _, rfl, rfl, SqL.of hpl3, rfl, _, rfl, pl, _, 3, _, rfl, rfl, SqL.of hpl3, rfl, L, _, rfl, .inl ⟨SqL.of hL3, fun tp htp => ?_⟩⟩
  have s4 := same_upd0 (o := .tup d.xs) htp
  have htp4 : (upd H3 tp (.tup d.xs)) tp = some (.tup d.xs) := upd_same
  have M4 := M3.same s4
  have hL4 := s4 _ _ hL3
  have hpl4 := s4 _ _ hpl3
  have As4 := As.same s4
  generalize upd H3 tp (.tup d.xs) = H4 at M4 hL4 hpl4 As4 htp4 ⊢
  clear M3 hL3 hpl3 As s4 htp
  refine fun x dx hx hdx ne => mk_set hx hdx ne M4.zf.ta M4.zf.ou M4.zf.st (.inr htp4) fun zo H5 ez Ao nwo s5 => ⟨rfl, ?_⟩
  rw [← ez]
  have oo := off_new nwo (mem M4 hL4)
  have M5 := M4.same s5
  have hL5 := s5 _ _ hL4
  have hpl5 := s5 _ _ hpl4
  have As5 := As4.same s5
  clear hx hdx ne ez M4 hL4 hpl4 As4 htp4 M2 hL2 hpl2 nws nwo mem s3 s5
  refine ⟨_, _, rfl, ?_⟩
  -- equal
  refine ⟨_, rfl, _, rfl, zs.p, zs.dx, _, d.zf.p, d.zf.dx, _, rfl, As5.ob, rfl, M5.zf.ob, eq_sets As5 M5.zf (eqB_dict C.lt As5.ta M5.zf.ta) (eqB_dict lt45 As5.ou M5.zf.ou) (eqB_dict C.lt As5.st M5.zf.st) (eqB_lst (M5.refs C) As5.ol M5.zf.ol) fun H6 s6 => ⟨true, rfl, _, rfl, iteF ?_⟩⟩
  have As6 := As5.same s6
  have Ao6 := Ao.same s6
  have M6 := M5.same s6
  refine ⟨_, rfl, _, rfl, zo.p, zo.dx, _, d.zf.p, d.zf.dx, _, rfl, Ao6.ob, rfl, M6.zf.ob, eq_sets Ao6 M6.zf (eqB_dict C.lt Ao6.ta M6.zf.ta) (eqB_dict lt45 Ao6.ou M6.zf.ou) (eqB_dict C.lt Ao6.st M6.zf.st) (eqB_lst (M6.refs C) Ao6.ol M6.zf.ol) fun H7 s7 => ⟨true, rfl, _, rfl, iteF ?_⟩⟩
  have As7 := As6.same s7
  have Ao7 := Ao6.same s7
  have M7 := M6.same s7
  refine ⟨_, rfl, d.zf.p, d.zf.dx, _, rfl, M7.zf.ob, .inr ⟨3, rfl⟩, d.zf, _, _, _, _, _, rfl, M7.zf, .inl ⟨3, rfl, _, rfl, iteF ?_⟩⟩
  refine ⟨_, rfl, d.zf.p, CS, d.zf.dx, _, _, rfl, M7.zf.ob, T.cS, T.nSr, stF_r, _, rfl, d.zf.p, CS, d.zf.dx, _, _, rfl, M7.zf.ob, T.cS, T.nSr, stF_r, d.zf.ol, _, rfl, .inl (SqL.of M7.zf.ol), fun l8 hl8 => ?_⟩
  have s8 := same_upd0 (o := .lst d.xs) hl8
  have h8 : (upd H7 l8 (.lst d.xs)) l8 = some (.lst d.xs) := upd_same
  have M8 := M7.same s8
  have As8 := As7.same s8
  have Ao8 := Ao7.same s8
  have t8 : Same H5 (upd H7 l8 (.lst d.xs)) := fun b o e => s8 _ _ (s7 _ _ (s6 _ _ e))
  generalize upd H7 l8 (.lst d.xs) = H8 at M8 As8 Ao8 t8 h8 ⊢
  refine ⟨.list (d.l.map stepD), .list (d.l.map stepD), .lst (SqL.of M8.zf.ol) (dp_items (M8.items C)), .lst (SqL.of h8) (dp_items (M8.items C)), steps_shaped _, steps_shaped _, _, rfl, ?_⟩
  rw [eqv_steps]
  refine iteF ?_
  exact k11 Q _ _ kq ⟨{ d with zs := zs, zo := zo, pl := pl, L := L }, ⟨_, _, _, _, _, _, _, _, _, _, _, _, _, _, _, rfl⟩, ⟨C.G, C.En, C.bg, C.run, C.rest, C.la⟩, ⟨⟨M8.net, M8.gb, M8.zf, M8.it0, M8.it⟩, t8 _ _ hpl5, t8 _ _ hL5, As8, Ao8⟩, ⟨os, oo, h1, h2, h3, fo⟩⟩
end
end Bal
set_option autoImplicit true
set_option Elab.async false
set_option linter.all false
set_option maxRecDepth 100000
set_option maxHeartbeats 4000000
/-! W29: the law. -/
namespace Bal
open PySem L2
theorem skip {lp : Bool} {t2 : (Bool → Hp → Prop) → Prop} {A B : Hp → Prop} {H : Hp} (h2 : lp = false → ∀ B' : Hp → Prop, (∀ H', Same H H' → B' H') → t2 (fun b H1 => if b = true then A H1 else B' H1)) (hB : ∀ H', Same H H' → B H') :
    if (!lp) = true then t2 (fun b H1 => if b = true then A H1 else B H1) else (if false = true then A H else B H) := by
  cases lp with
  | true => exact iteF (iteF (hB H (Same.refl H)))
  | false => exact iteT (h2 rfl B hB)
theorem flat_strs : ∀ d : List Nat, (d.map fun t => V.str (tg t)).all flatV = true
  | [] => rfl
  | _ :: r => flat_strs r
theorem eqV_a : ∀ t, t < 6 → eqV (.str (tg t)) (.str "a") = decide (0 = t) := by decide +kernel
theorem inV_a : ∀ {d : List Nat}, (∀ t ∈ d, t < 6) → inV (.str "a") (d.map fun t => V.str (tg t)) = decide (0 ∈ d)
  | [], _ => rfl
  | t :: r, h => by
    have ih := inV_a (d := r) fun u hu => h u (List.mem_cons_of_mem _ hu)
    show (eqV (.str (tg t)) (.str "a") || inV (.str "a") (r.map fun t => V.str (tg t))) = _
    rw [ih, eqV_a t (h t (List.mem_cons_self ..))]
    simp
section
variable {P : Program} {w : World} {K : PySem.W.Frag} {mg : Str → Option Value} {base : Heap} {CN CB CS : Addr} {er : Errs} {fN fO : Addr}
def spLaw (K : PySem.W.Frag) : Sp := fun vs H Q _ => ∃ (s : Addr) (ns : List Int), vs = [.ref s] ∧ SqL K H s (ns.map .int) ∧ ns.length ≤ 1000 ∧ ∀ H', Q (.bl true) H'
theorem ok_law {f : Addr} {fd : FuncData} (F : Fun K "law" "law" s_law f fd) (T : Txt K mg CN CB CS) (G_l_draw : FnG P w K mg base CX0 1 "_law_draw" (spDraw K) []) (G_l_knots : FnG P w K mg base CX0 2 "_law_knots" (spKnots K) []) (G_l_inlets : FnG P w K mg base CX0 2 "_law_inlets" (spInlets K) [])
    (G_Net : MkG P w K mg base CX0 3 "Net" CN (spNet CN) []) (G_l_does_end : FnG P w K mg base CX0 6 "_law_does_end" spDoesEnd []) (G_l_is_quick : FnG P w K mg base CX0 2 "_law_is_quick" spQuick []) (G_l_refused : FnG P w K mg base CX0 9 "_law_refused" (spRefused K CN) [])
    (G_settle : FnG P w K mg base (L2.CX P w) 4 "settle" (spSettle CN CS er) [.non]) (G_played : FnG P w K mg base (L2.CX P w) 5 "played" (spPlayed CN er) [.non]) (G_Settled : MkG P w K mg base CX0 1 "Settled" CS (spSettled CS) []) (G_shows : MtG P w K mg base CX0 5 CS "shows" (spShows CN CS) [.non])
    (G_eq : MtG P w K mg base CX0 1 CS "__eq__" (spSetEq K CS) []) (nfS : PySem.W.notFirst K CS (.type "int") = true) (hneS : PySem.W.findIn K (.ref CS) "__ne__" = some (some (.builtin "object.__ne__"))) (hobS : PySem.W.mroIn K CS (.type "object") = some true) :
    FnOk P w K mg base CX0 10 f fd ["_law_script"] (spLaw K) := by
  refine F.ok sc_law (fun vs H Q E h => ?_) (fun cdv A outer s H vs Q E hr h => ?_)
  · obtain ⟨s, ns, rfl, _⟩ := h
    rfl
  · obtain ⟨sc, ns, rfl, hs, hl, kq⟩ := h
    have hu := hu_of hr
    have hr9 : Room 9 (lawX P w K mg base f cdv A outer s H E).A := hr
    obtain ⟨t8, d8, k8⟩ := tail8 hr9 T G_Settled G_eq nfS hneS hobS (tail11 hr9 T G_Settled G_shows G_eq nfS (tail14 hr9 T G_played G_Settled G_shows (tail18 hr9 T)))
    refine ⟨_, (pss_cons (ps_set (i := 1) sc_law.nd rfl (by first | exact Or.inl rfl | exact Or.inr rfl) (pe_f G_l_knots hr (by decide) (by rfl) pass0 (pa_cons (pv 0) (pa_cons pe_int (pa_cons pe_bl pa_nil)))))
  (pss_cons (ps_set (i := 2) sc_law.nd rfl (by first | exact Or.inl rfl | exact Or.inr rfl) (pe_f G_l_inlets hr (by decide) (by rfl) pass0 (pa_cons (pv 0) (pa_cons pe_int (pa_cons (pv 1) pa_nil)))))
  (pss_cons (ps_set (i := 3) sc_law.nd rfl (by first | exact Or.inl rfl | exact Or.inr rfl) (pe_k G_Net hr (by decide) (by rfl) pass0 (pa_cons (pv 1) (pa_cons (pv 2) (pa_cons (pe_lst (pa_cons pe_str (pa_cons pe_str pa_nil))) pa_nil)))))
  (pss_cons (ps_if (PW.pt (pw_or (pt_not (pt_val (pe_f G_l_does_end hr (by decide) (by rfl) pass0 (pa_cons (pv 1) pa_nil)))) (pw_or1 (pt_not (pt_val (pe_f G_l_is_quick hr (by decide) (by rfl) pass0 (pa_cons (pv 1) pa_nil))))))) (pss_one (ps_ret pe_bl)) pss_nil)
  (pss_cons (ps_set (i := 4) sc_law.nd rfl (by first | exact Or.inl rfl | exact Or.inr rfl) (pe_callB (cr_any rfl) (by rfl) T.any (by decide +kernel) (pa_cons (pe_lc (own := [("_law_drop", 20)]) rfl sc_law.nd (pi_list (pe_op op_cat (pe_callTy call_list_of (by rfl) T.list (by decide +kernel) (pa_cons (pe_ix ix_tup (pe_dget hu (pv 1) pe_str (fun _ _ => rfl)) pe_int (fun _ _ => rfl)) pa_nil)) (pe_callTy call_list_of (by rfl) T.list (by decide +kernel) (pa_cons (pe_ix ix_tup (pe_dget hu (pv 1) pe_str (fun _ _ => rfl)) pe_int (fun _ _ => rfl)) pa_nil)))) (blkOk_by (by kernel_rfl)) (fun _ _ _ _ _ => (pg_name (i := 20) sc_law.nd rfl (by first | exact Or.inl rfl | exact Or.inr rfl))) (fun _ _ _ _ _ => pts_nil) (fun _ _ _ _ _ => (by exact (pe_cmpR (op_in_seqK (K := K) (by rfl)) pe_str (pv 20) (by with_unfolding_all rfl))))) pa_nil)))
  (pss_cons (ps_if (PW.pt (pw_and (pt_not (pt_val (pv 4))) (pw_and1 (pt_not (pt_val (pe_f G_l_refused hr (by decide) (by rfl) pass0 (pa_cons (pv 0) (pa_cons (pv 3) (pa_cons (pe_op op_add (pe_callB call_len_seq (by rfl) T.len (by decide +kernel) (pa_cons (pe_ix ix_tup (pe_dget hu (pv 1) pe_str (fun _ _ => rfl)) pe_int (fun _ _ => rfl)) pa_nil)) (pe_callB call_len_seq (by rfl) T.len (by decide +kernel) (pa_cons (pe_ix ix_tup (pe_dget hu (pv 1) pe_str (fun _ _ => rfl)) pe_int (fun _ _ => rfl)) pa_nil))) pa_nil))))))))) (pss_one (ps_ret pe_bl)) pss_nil)
  (pss_cons (ps_set (i := 5) sc_law.nd rfl (by first | exact Or.inl rfl | exact Or.inr rfl) (pe_disp (pps_cons pe_str (pe_op op_add pe_int (pe_f G_l_draw hr (by decide) (by rfl) pass0 (pa_cons (pv 0) (pa_cons pe_int (pa_cons pe_int pa_nil))))) (pps_cons pe_str (pe_f G_l_draw hr (by decide) (by rfl) pass0 (pa_cons (pv 0) (pa_cons pe_int (pa_cons pe_int pa_nil)))) pps_nil)) (by rfl) (by rfl) (fun z => by cases z) (by decide)))
  (pss_cons (ps_set (i := 6) sc_law.nd rfl (by first | exact Or.inl rfl | exact Or.inr rfl) (pe_f G_settle hr (by decide) (by rfl) (passes_call takes0 (fun _ _ _ _ h => h)) (pa_cons (pv 3) (pa_cons (pv 5) pa_nil))))
  d8)))))))), ?_⟩
    refine ⟨_, rfl, sc, ns, 0, rfl, hs, hl, by decide, fun N kd v H1 G kn s1 => ?_⟩
    refine ⟨_, rfl, _, rfl, sc, ns, 5, kd, N, v, rfl, Same.seq s1 hs, hl, by decide, kn, G, fun J iA H2 hJ hid s2 => ?_⟩
    have kn2 := kn.same s2
    have hs2 : SqL K H2 sc (ns.map V.int) := Same.seq s2 (Same.seq s1 hs)
    refine ⟨_, rfl, _, rfl, by show 2 ≤ sizeLine; decide, fun ol hol => fun x dx hx hdx ne => ?_⟩
    have s3 := same_upd0 (o := .lst [.str "o", .str "p"]) hol
    refine ⟨_, N, J, x, dx, kd, iA, ol, v, rfl, upd_same, hx, same_upd (same_upd0 hdx) ((upd_ne (Ne.symm ne)).trans hx), kn2.same s3, s3 _ _ hid, upd_same, G, hJ, fun a H4 ea A4 s4 => ⟨rfl, ?_⟩⟩
    rw [← ea]
    have t4 : Same H2 H4 := fun b o e => s4 _ _ (s3 _ _ e)
    have n4 := G.n4
    have n1 := G.n1
    -- does it end, is it quick
    refine ⟨_, rfl, N, kd, v, rfl, kn2.same t4, G, fun b H5 s5 hb => ⟨_, rfl, ?_⟩⟩
    have t5 : Same H2 H5 := fun b o e => s5 _ _ (t4 _ _ e)
    cases b with
    | false => exact iteT (kq _)
    | true =>
    have En := hb rfl
    refine iteF ?_
    refine ⟨_, rfl, N, kd, v, rfl, kn2.same t5, G, fun b H6 s6 => ⟨_, rfl, ?_⟩⟩
    cases b with
    | false => exact iteT (kq _)
    | true =>
    refine iteF ?_
    have t6 : Same H2 H6 := fun b o e => s6 _ _ (t5 _ _ e)
    have A6 := A4.same (fun b o e => s6 _ _ (s5 _ _ e))
    have kn6 := kn2.same t6
    have hs6 := Same.seq t6 hs2
    clear s3 s4 s5 s6 t4 t5 hid kn2 A4 hol hx hdx
    -- loops
    obtain ⟨b0, _, _, e0, q4, ⟨c1, ps1, rfl, q1, p1⟩, ⟨c2, ps2, rfl, q2, p2⟩⟩ := kn6.kn 0 n1
    have dga : ∀ {H' : Hp}, KnotsAt H' N kd v → DGet H' kd (.str "a") (some (v 0)) := fun k => dget_in (k := 0) k.dc (List.mem_range.mpr n1) (rng_lt n4)
    have hl1 : ps1.length = N.f 0 := p1.length
    have hl2 : ps2.length = N.q 0 := p2.length
    have hf2 : N.f 0 ≤ 2 := G.fr2 0 n1
    have hq5 : N.q 0 ≤ 5 := G.tu5 0 n1
    have h6 : ∀ d ∈ N.rows 0, ∀ t ∈ d, t < 6 := fun d hd t ht => by
      have := (G.tg 0 n1 d hd).2 t ht
      omega
    refine ⟨_, rfl, kd, _, rfl, dga kn6, b0, _, _, _, e0, rfl, SqT.of q4, rfl, c1, ps1, rfl, .inr (SqT.of q1), fun l1 hl1' => ?_⟩
    have sa := same_upd0 (o := .lst ps1) hl1'
    refine ⟨_, rfl, kd, _, rfl, dga (kn6.same sa), b0, _, _, _, e0, rfl, SqT.of (sa _ _ q4), rfl, c2, ps2, rfl, .inr (SqT.of (sa _ _ q2)), fun l2 hl2' => ?_⟩
    have sb := same_upd0 (o := .lst ps2) hl2'
    refine ⟨l1, l2, _, _, rfl, rfl, sb _ _ upd_same, upd_same, Nat.le_trans (show _ ≤ 7 by omega) (by decide), fun L hL => ?_⟩
    have s7 := same_upd (fun b o e => sb _ _ (sa _ _ e) : Same H6 _) (o := .lst (ps1 ++ ps2)) hL
    have hL7 : (upd (upd (upd H6 l1 (.lst ps1)) l2 (.lst ps2)) L (.lst (ps1 ++ ps2))) L = some (.lst (ps1 ++ ps2)) := upd_same
    generalize upd (upd (upd H6 l1 (.lst ps1)) l2 (.lst ps2)) L (.lst (ps1 ++ ps2)) = H7 at s7 hL7 ⊢
    clear sa sb hl1' hl2' hL
    have hpr : Paired (fun p d => DropAt H7 d p) (ps1 ++ ps2) (N.rows 0) := paired_append (Paired.mapP p1 fun _ _ z => z.same s7) (Paired.mapP p2 fun _ _ z => z.same s7)
    have hprl := hpr.length
    refine ⟨L, rfl, ⟨_, SqL.of hL7⟩, fun D hD => lc_it (walk_list (xs := ps1 ++ ps2)) (fun i H' => H' = upd H7 D (.lst ((((N.rows 0).take i).map fun d => decide (0 ∈ d)).map V.bl))) rfl (fun i H' _ p => by rw [p]; exact SqL.of ((same_upd0 hD) _ _ hL7)) ?_ ?_⟩
    · rintro i y H8 H9 hi e8 ⟨e9, hy⟩
      subst H9
      subst H8
      obtain ⟨dr, hdr, bb, rfl, hbb⟩ := paired_at hpr hy
      refine ⟨rfl, ?_⟩
      refine ⟨_, rfl, bb, _, rfl, .inr (SqT.of ((same_upd0 hD) _ _ hbb)), rfl, flat_strs dr, _, upd_same, ?_, ?_⟩
      · rw [List.length_map, List.length_map, List.length_take]
        have hi : i < (ps1 ++ ps2).length := hi
        exact Nat.lt_of_le_of_lt (show _ ≤ 10 by rw [List.length_append] at hi; omega) (by decide)
      · have e : inV (.str "a") (dr.map fun t => V.str (tg t)) = decide (0 ∈ dr) := inV_a fun t ht => h6 dr (List.mem_of_getElem? hdr) t ht
        show upd _ D (.lst (_ ++ [.bl (inV (.str "a") (dr.map fun t => V.str (tg t)))])) = _
        rw [upd_upd, e, take_at hdr, List.map_append, List.map_append]
        rfl
    rintro H8 e8
    have e8 : H8 = upd H7 D (.lst (((N.rows 0).map fun d => decide (0 ∈ d)).map V.bl)) := by rw [e8, hprl, List.take_length]
    have s8 : Same H6 H8 := by rw [e8]; exact same_upd s7 hD
    have hD8 : H8 D = some (.lst (((N.rows 0).map fun d => decide (0 ∈ d)).map V.bl)) := by rw [e8, upd_same]
    refine ⟨D, _, rfl, SqL.of hD8, ?_⟩
    clear e8 hpr hL7 s7 hD hD8
    obtain ⟨lp, elp⟩ : ∃ lp, lp = ((N.rows 0).map fun d => decide (0 ∈ d)).any id := ⟨_, rfl⟩
    rw [← elp]
    have A8 := A6.same s8
    have kn8 := kn6.same s8
    have hs8 := Same.seq s8 hs6
    -- refused
    refine ⟨_, rfl, _, rfl, ?_⟩
    refine skip (lp := lp) (H := H8) (fun hlp B' hB' => ?_) (fun H9 s9 => ?_)
    · have hno : ∀ d ∈ N.rows 0, 0 ∉ d := fun d hd m => by
        rw [hlp] at elp
        have : ((N.rows 0).map fun d => decide (0 ∈ d)).any (fun b => b) = true := List.any_eq_true.mpr ⟨true, List.mem_map.mpr ⟨d, hd, decide_eq_true m⟩, rfl⟩
        exact absurd (elp.trans this) (by simp)
      have ez : (ps1.length : Int) + (ps2.length : Int) = ((N.f 0 + N.q 0 : Nat) : Int) := by omega
      refine ⟨_, rfl, _, rfl, _, rfl, kd, _, rfl, dga kn8, b0, _, _, _, e0, rfl, SqT.of (s8 _ _ q4), rfl, c1, ps1, rfl, .inr (SqT.of (s8 _ _ q1)), ?_⟩
      refine ⟨_, rfl, kd, _, rfl, dga kn8, b0, _, _, _, e0, rfl, SqT.of (s8 _ _ q4), rfl, c2, ps2, rfl, .inr (SqT.of (s8 _ _ q2)), _, _, rfl, rfl, ?_⟩
      refine ⟨sc, ns, N, J, a, ?_, hs8, hl, A8, G, En, hno, fun H9 s9 => ⟨_, rfl, iteF (hB' H9 s9)⟩⟩
      show [V.ref sc, V.ref a.p, V.int ((ps1.length : Int) + (ps2.length : Int))] = _
      rw [ez]
    have A9 := A8.same s9
    have kn9 := kn8.same s9
    have hs9 := Same.seq s9 hs8
    clear elp s8 s9 A8 kn8 hs8 A6 kn6 hs6 q4 q1 q2 p1 p2 hl1 hl2 hf2 hq5 dga
    -- balls
    refine fun Bd hBd => ⟨_, rfl, sc, ns, 310, 5, rfl, Same.seq (same_upd0 hBd) hs9, hl, by decide, by decide, fun r1 HA r10 r15 sA => ⟨_, _, rfl, rfl, _, rfl, sc, ns, 311, 4, rfl, Same.seq (fun b o e => sA _ _ (same_upd0 hBd _ _ e)) hs9, hl, by decide, by decide, fun r2 HB r20 r24 sB => ?_⟩⟩
    have hBdB := sB _ _ (sA _ _ (upd_same (H := H9) (a := Bd) (o := .dK [])))
    obtain ⟨m1, hm1⟩ : ∃ m1 : Nat, 1 + r1 = (m1 : Int) := ⟨(1 + r1).toNat, by omega⟩
    obtain ⟨m2, hm2⟩ := Int.eq_ofNat_of_zero_le r20
    refine ⟨hBdB, [((Sum.inr "i" : Key), .int (1 + r1)), (Sum.inr "j", .int r2)], rfl, by show 2 ≤ 15; decide, ?_⟩
    have sC : Same H9 (upd HB Bd (.dK (mergeK [] [((Sum.inr "i" : Key), .int (1 + r1)), (Sum.inr "j", .int r2)]))) := same_out (fun b o e => sB _ _ (sA _ _ (same_upd0 hBd _ _ e))) hBd
    obtain ⟨es, hes⟩ : ∃ es : List (Str × Nat × Nat), es = ([("i", 0, m1), ("j", J, m2)] : List (Str × Nat × Nat)) := ⟨_, rfl⟩
    have hBdC : (upd HB Bd (.dK (mergeK [] [((Sum.inr "i" : Key), .int (1 + r1)), (Sum.inr "j", .int r2)]))) Bd = some (.dK (entB es)) := by
      rw [upd_same, hes]
      show some (HO.dK [((Sum.inr "i" : Key), .int (1 + r1)), (Sum.inr "j", .int r2)]) = _
      rw [hm1, hm2]
      rfl
    generalize upd HB Bd (.dK (mergeK [] [((Sum.inr "i" : Key), .int (1 + r1)), (Sum.inr "j", .int r2)])) = HC at sC hBdC ⊢
    have gb : GoodB HC N J (.ref Bd) es := by
      rw [hes] at hBdC ⊢
      refine ⟨⟨Bd, rfl, hBdC⟩, Nat.le_refl 2, (by show PyProof.Rows.sortedS [("i" : Str), "j"] = true; decide +kernel), (by show [("i" : Str), "j"].Nodup; decide +kernel), fun e he => ?_⟩
      rcases List.mem_cons.mp he with rfl | he
      · exact ⟨n1, .inl ⟨rfl, rfl⟩⟩
      · rw [List.mem_singleton.mp he]
        exact ⟨hJ, .inr (.inl ⟨rfl, rfl⟩)⟩
    have bg : Begun N (stB es) 8 := by
      refine ⟨fun _ _ => rfl, ?_⟩
      have e : (fun i => ((stB es).w i : Int)) = fun i => (if i = 0 then (m1 : Int) else 0) + (if i = J then (m2 : Int) else 0) := by
        funext i
        rw [hes]
        show ((sumB [("i", 0, m1), ("j", J, m2)] i : Nat) : Int) = _
        show (((if 0 = i then m1 else 0) + ((if J = i then m2 else 0) + 0) : Nat) : Int) = _
        repeat' split
        all_goals omega
      rw [e, sumN_add, sumN_one, sumN_one, if_pos (by omega), if_pos hJ]
      omega
    have AC := A9.same sC
    have hsC := Same.seq sC hs9
    clear hBd hBdB sA sB sC A9 hs9 kn9 HA HB
    -- settle
    refine ⟨_, rfl, _, rfl, .ref a.p, .ref Bd, .non, rfl, .inr ⟨N, J, a, es, rfl, AC, G, En, gb, bg, rfl, fun l S xs zf HD hrun hrest pit stA stN sD => ?_⟩⟩
    obtain ⟨l0, k, m, S0, la⟩ := last_at G (placed_stB G es) hrun hrest n1 (by
      rw [hes]
      show 0 < sumB [("i", 0, m1), ("j", J, m2)] 0
      show 0 < (if 0 = 0 then m1 else 0) + ((if J = 0 then m2 else 0) + 0)
      rw [if_pos rfl]
      omega)
    have o1 : Off [Bd] zf := off_new stN fun v hv => ⟨.dK (entB es), by rw [List.mem_singleton.mp hv]; exact hBdC⟩
    subst hes
    rw [la.el] at pit
    obtain ⟨xs0, x, rfl, pit0, a9, rfl, hx9⟩ := paired_last pit
    have AD := AC.same sD
    have gbD := gb.same sD
    exact k8 Q _ _ kq ⟨⟨N, J, m1, m2, l, l0, S, S0, k, m, a, Bd, zf, zf, zf, Bd, Bd, a9, xs0⟩, ⟨_, _, _, _, _, _, _, _, _, _, _, _, _, _, _, _, _, _, rfl⟩, ⟨G, En, bg, hrun, hrest, la⟩, ⟨AD, gbD, stA, pit0, hx9⟩, stN.d1, stN.d2, stN.d3, o1⟩
end
end Bal
set_option autoImplicit true
set_option Elab.async false
set_option linter.all false
set_option maxRecDepth 100000
set_option maxHeartbeats 0
/-! WH: the head: the top run once, what is looked at behind it. -/
namespace Bal
open PySem PySem.Spec PyProof.Rows L2
/-! ### the objects that are looked at -/
def nxA (g : Addr → Option Obj) (a : Addr) : List Addr := match g a with
  | some o => (match o.data with
    | .func fd => He.refV fd.code ++ (He.refV fd.defaults ++ fd.closure.map (·.2))
    | .cls cd => [cd.ns]
    | .dict es _ => es.toList.flatMap fun e => He.refV e.val
    | _ => [])
  | none => []
def lvA (g : Addr → Option Obj) : Nat → List Addr → List Addr
  | 0, as => as
  | n + 1, as => as ++ lvA g n (as.flatMap (nxA g))
def asB (g : Addr → Option Obj) : List Addr := mainGlobals :: cStatics :: lvA g 3 (nxA g mainGlobals)
/-! ### an own error's class and its __init__ -/
def supC (K : PySem.W.Frag) (C : Addr) : Bool := match K.lookup C with
  | some ⟨.type t, _, .cls cd, sl⟩ => (match cd.mro, sl.toList with
    | .ref D :: bm, [_, _, _, _, some (.builtin n), _] => decide (t = "type") && (decide (D = C) && (decide (n = "ValueError.__new__") && (!cd.hasDel && (cd.hasDict && PySem.HandSPX.refsVE bm))))
    | _, _ => false)
  | _ => false
def supF (K : PySem.W.Frag) (f C : Addr) (file : Str) : Bool := match K.lookup f with
  | some ⟨_, _, .func fd, _⟩ => (match fd.defaults, fd.kwdefaults, fd.code, fd.closure with
    | .none, .none, .ref cda, [(_, cc)] => PySem.W.codeIn K (.ref cda) fd.qualname && ((match K.lookup cc with
      | some ⟨_, _, .cell (some (.ref D)), _⟩ => decide (D = C)
      | _ => false) && (match K.lookup cda with
      | some ⟨_, _, .fields vs, _⟩ => (match vs[2]? with
        | some (Value.str fl _) => file == fl
        | _ => false)
      | _ => false))
    | _, _, _, _ => false)
  | _ => false
abbrev FnS : Type := Option (Str × Str × Arguments × FuncBody × Scope × Addr × List Str × Addr)
def fnS (K : PySem.W.Frag) (C : Str) : FnS := match K.lookup (He.ma K (He.ga K C) "__init__") with
  | some ⟨_, _, .func fd, _⟩ => some (fd.name, fd.qualname, fd.params, fd.body, fd.scope, fd.globals, fd.closure.map (·.1), fd.builtins)
  | _ => none
def valS (q : Str) (st : Stmt) : FnS := some ("__init__", q, defArgs st, .stmts (defBody st), defScope st, mainGlobals, ["__class__"], builtinsNs)
/-! ### what is looked at -/
def D_minors_of : He.DefD := { at_ := ("minors_of", none), name := "minors_of", qual := "minors_of", params := defArgs s_minors_of, body := defBody s_minors_of, scope := defScope s_minors_of }
def D_is_number : He.DefD := { at_ := ("is_number", none), name := "is_number", qual := "is_number", params := defArgs s_is_number, body := defBody s_is_number, scope := defScope s_is_number }
def D_is_name : He.DefD := { at_ := ("is_name", none), name := "is_name", qual := "is_name", params := defArgs s_is_name, body := defBody s_is_name, scope := defScope s_is_name }
def D_is_row : He.DefD := { at_ := ("is_row", none), name := "is_row", qual := "is_row", params := defArgs s_is_row, body := defBody s_is_row, scope := defScope s_is_row }
def D_is_knot : He.DefD := { at_ := ("is_knot", none), name := "is_knot", qual := "is_knot", params := defArgs s_is_knot, body := defBody s_is_knot, scope := defScope s_is_knot }
def D_first_wrong : He.DefD := { at_ := ("first_wrong", none), name := "first_wrong", qual := "first_wrong", params := defArgs s_first_wrong, body := defBody s_first_wrong, scope := defScope s_first_wrong }
def D_count : He.DefD := { at_ := ("count", none), name := "count", qual := "count", params := defArgs s_count, body := defBody s_count, scope := defScope s_count }
def D_check_net : He.DefD := { at_ := ("check_net", none), name := "check_net", qual := "check_net", params := defArgs s_check_net, body := defBody s_check_net, scope := defScope s_check_net }
def D_lattice : He.DefD := { at_ := ("lattice", none), name := "lattice", qual := "lattice", params := defArgs s_lattice, body := defBody s_lattice, scope := defScope s_lattice }
def D_ends : He.DefD := { at_ := ("ends", none), name := "ends", qual := "ends", params := defArgs s_ends, body := defBody s_ends, scope := defScope s_ends }
def D_judge_ends : He.DefD := { at_ := ("judge_ends", none), name := "judge_ends", qual := "judge_ends", params := defArgs s_judge_ends, body := defBody s_judge_ends, scope := defScope s_judge_ends }
def D_check_balls : He.DefD := { at_ := ("check_balls", none), name := "check_balls", qual := "check_balls", params := defArgs s_check_balls, body := defBody s_check_balls, scope := defScope s_check_balls }
def D_begun : He.DefD := { at_ := ("begun", none), name := "begun", qual := "begun", params := defArgs s_begun, body := defBody s_begun, scope := defScope s_begun }
def D_settle : He.DefD := { at_ := ("settle", none), name := "settle", qual := "settle", params := defArgs s_settle, body := defBody s_settle, scope := defScope s_settle, dfl := [.non] }
def D_played : He.DefD := { at_ := ("played", none), name := "played", qual := "played", params := defArgs s_played, body := defBody s_played, scope := defScope s_played, dfl := [.non] }
def D_knots_in_turn : He.DefD := { at_ := ("knots_in_turn", none), name := "knots_in_turn", qual := "knots_in_turn", params := defArgs s_knots_in_turn, body := defBody s_knots_in_turn, scope := defScope s_knots_in_turn, dfl := [.non] }
def D_l_draw : He.DefD := { at_ := ("_law_draw", none), name := "_law_draw", qual := "_law_draw", params := defArgs s_l_draw, body := defBody s_l_draw, scope := defScope s_l_draw }
def D_l_knots : He.DefD := { at_ := ("_law_knots", none), name := "_law_knots", qual := "_law_knots", params := defArgs s_l_knots, body := defBody s_l_knots, scope := defScope s_l_knots }
def D_l_inlets : He.DefD := { at_ := ("_law_inlets", none), name := "_law_inlets", qual := "_law_inlets", params := defArgs s_l_inlets, body := defBody s_l_inlets, scope := defScope s_l_inlets }
def D_l_falls : He.DefD := { at_ := ("_law_falls", none), name := "_law_falls", qual := "_law_falls", params := defArgs s_l_falls, body := defBody s_l_falls, scope := defScope s_l_falls }
def D_l_det : He.DefD := { at_ := ("_law_det", none), name := "_law_det", qual := "_law_det", params := defArgs s_l_det, body := defBody s_l_det, scope := defScope s_l_det }
def D_l_matrix : He.DefD := { at_ := ("_law_matrix", none), name := "_law_matrix", qual := "_law_matrix", params := defArgs s_l_matrix, body := defBody s_l_matrix, scope := defScope s_l_matrix }
def D_l_does_end : He.DefD := { at_ := ("_law_does_end", none), name := "_law_does_end", qual := "_law_does_end", params := defArgs s_l_does_end, body := defBody s_l_does_end, scope := defScope s_l_does_end }
def D_l_rounds_for : He.DefD := { at_ := ("_law_rounds_for", none), name := "_law_rounds_for", qual := "_law_rounds_for", params := defArgs s_l_rounds_for, body := defBody s_l_rounds_for, scope := defScope s_l_rounds_for }
def D_l_is_quick : He.DefD := { at_ := ("_law_is_quick", none), name := "_law_is_quick", qual := "_law_is_quick", params := defArgs s_l_is_quick, body := defBody s_l_is_quick, scope := defScope s_l_is_quick }
def D_l_asked : He.DefD := { at_ := ("_law_asked", none), name := "_law_asked", qual := "_law_asked", params := defArgs s_l_asked, body := defBody s_l_asked, scope := defScope s_l_asked }
def D_l_refused : He.DefD := { at_ := ("_law_refused", none), name := "_law_refused", qual := "_law_refused", params := defArgs s_l_refused, body := defBody s_l_refused, scope := defScope s_l_refused }
def D_law : He.DefD := { at_ := ("law", none), name := "law", qual := "law", params := defArgs s_law, body := defBody s_law, scope := defScope s_law }
def D_Net_init : He.DefD := { at_ := ("Net", some "__init__"), name := "__init__", qual := "Net.__init__", params := defArgs s_Net_init, body := defBody s_Net_init, scope := defScope s_Net_init }
def D_Net_front : He.DefD := { at_ := ("Net", some "front"), name := "front", qual := "Net.front", params := defArgs s_Net_front, body := defBody s_Net_front, scope := defScope s_Net_front }
def D_Net_period : He.DefD := { at_ := ("Net", some "period"), name := "period", qual := "Net.period", params := defArgs s_Net_period, body := defBody s_Net_period, scope := defScope s_Net_period }
def D_Net_place_behind : He.DefD := { at_ := ("Net", some "place_behind"), name := "place_behind", qual := "Net.place_behind", params := defArgs s_Net_place_behind, body := defBody s_Net_place_behind, scope := defScope s_Net_place_behind }
def D_Net_start : He.DefD := { at_ := ("Net", some "start"), name := "start", qual := "Net.start", params := defArgs s_Net_start, body := defBody s_Net_start, scope := defScope s_Net_start }
def D_Net_turned : He.DefD := { at_ := ("Net", some "turned"), name := "turned", qual := "Net.turned", params := defArgs s_Net_turned, body := defBody s_Net_turned, scope := defScope s_Net_turned }
def D_Net_dropped : He.DefD := { at_ := ("Net", some "dropped"), name := "dropped", qual := "Net.dropped", params := defArgs s_Net_dropped, body := defBody s_Net_dropped, scope := defScope s_Net_dropped }
def D_Net_check_standing : He.DefD := { at_ := ("Net", some "check_standing"), name := "check_standing", qual := "Net.check_standing", params := defArgs s_Net_check_standing, body := defBody s_Net_check_standing, scope := defScope s_Net_check_standing }
def D_Net_met : He.DefD := { at_ := ("Net", some "met"), name := "met", qual := "Net.met", params := defArgs s_Net_met, body := defBody s_Net_met, scope := defScope s_Net_met }
def D_Board_init : He.DefD := { at_ := ("Board", some "__init__"), name := "__init__", qual := "Board.__init__", params := defArgs s_Board_init, body := defBody s_Board_init, scope := defScope s_Board_init }
def D_Board_take : He.DefD := { at_ := ("Board", some "take"), name := "take", qual := "Board.take", params := defArgs s_Board_take, body := defBody s_Board_take, scope := defScope s_Board_take }
def D_Board_first_waiting : He.DefD := { at_ := ("Board", some "first_waiting"), name := "first_waiting", qual := "Board.first_waiting", params := defArgs s_Board_first_waiting, body := defBody s_Board_first_waiting, scope := defScope s_Board_first_waiting }
def D_Board_follow : He.DefD := { at_ := ("Board", some "follow"), name := "follow", qual := "Board.follow", params := defArgs s_Board_follow, body := defBody s_Board_follow, scope := defScope s_Board_follow }
def D_Settled_init : He.DefD := { at_ := ("Settled", some "__init__"), name := "__init__", qual := "Settled.__init__", params := defArgs s_Settled_init, body := defBody s_Settled_init, scope := defScope s_Settled_init }
def D_Settled_eq : He.DefD := { at_ := ("Settled", some "__eq__"), name := "__eq__", qual := "Settled.__eq__", params := defArgs s_Settled_eq, body := defBody s_Settled_eq, scope := defScope s_Settled_eq }
def D_Settled_shows : He.DefD := { at_ := ("Settled", some "shows"), name := "shows", qual := "Settled.shows", params := defArgs s_Settled_shows, body := defBody s_Settled_shows, scope := defScope s_Settled_shows, dfl := [.non] }
def fnL0 : List He.DefD := [D_minors_of, D_is_number, D_is_name, D_is_row, D_is_knot, D_first_wrong, D_count, D_check_net]
def fnL1 : List He.DefD := [D_lattice, D_ends, D_judge_ends, D_check_balls, D_begun, D_settle, D_played, D_knots_in_turn]
def fnL2 : List He.DefD := [D_l_draw, D_l_knots, D_l_inlets, D_l_falls, D_l_det, D_l_matrix, D_l_does_end, D_l_rounds_for]
def fnL3 : List He.DefD := [D_l_is_quick, D_l_asked, D_l_refused, D_law, D_Net_init, D_Net_front, D_Net_period, D_Net_place_behind]
def fnL4 : List He.DefD := [D_Net_start, D_Net_turned, D_Net_dropped, D_Net_check_standing, D_Net_met, D_Board_init, D_Board_take, D_Board_first_waiting]
def fnL5 : List He.DefD := [D_Board_follow, D_Settled_init, D_Settled_eq, D_Settled_shows]
def fnL : List He.DefD := fnL0 ++ (fnL1 ++ (fnL2 ++ (fnL3 ++ (fnL4 ++ (fnL5)))))
def faL0 : List He.Fa := [.glo "minors_of", .glo "is_number", .glo "is_name", .glo "is_row", .glo "is_knot", .glo "first_wrong", .glo "count", .glo "check_net"]
def faL1 : List He.Fa := [.glo "lattice", .glo "ends", .glo "judge_ends", .glo "check_balls", .glo "begun", .glo "settle", .glo "played", .glo "knots_in_turn"]
def faL2 : List He.Fa := [.glo "_law_draw", .glo "_law_knots", .glo "_law_inlets", .glo "_law_falls", .glo "_law_det", .glo "_law_matrix", .glo "_law_does_end", .glo "_law_rounds_for"]
def faL3 : List He.Fa := [.glo "_law_is_quick", .glo "_law_asked", .glo "_law_refused", .glo "law", .glo "Net", .glo "Board", .glo "Settled", .glo "BadNet"]
def faL4 : List He.Fa := [.glo "BadStanding", .glo "BadBalls", .glo "BadOrder", .free "int", .free "bool", .free "str", .free "tuple", .free "list"]
def faL5 : List He.Fa := [.free "dict", .free "len", .free "isinstance", .free "sorted", .free "all", .free "any", .free "min", .free "max"]
def faL6 : List He.Fa := [.free "range", .free "zip", .free "enumerate", .free "super", .int "MOST_KNOTS" 12, .int "MOST_DROPS" 12, .int "MOST_TARGETS" 4, .int "MOST_SIGNS" 16]
def faL7 : List He.Fa := [.cls "Net", .mkr "Net", .cls "Board", .mkr "Board", .cls "Settled", .mkr "Settled", .noat "Net" "knots", .noat "Net" "inlets"]
def faL8 : List He.Fa := [.noat "Net" "outlets", .noat "Net" "names", .noat "Board" "net", .noat "Board" "standing", .noat "Board" "waiting", .noat "Board" "out", .noat "Board" "taken", .noat "Settled" "taken"]
def faL9 : List He.Fa := [.noat "Settled" "out", .noat "Settled" "standing", .noat "Settled" "order", .meth "Net" "front", .meth "Net" "period", .meth "Net" "place_behind", .meth "Net" "start", .meth "Net" "turned"]
def faL10 : List He.Fa := [.meth "Net" "dropped", .meth "Net" "check_standing", .meth "Net" "met", .meth "Board" "take", .meth "Board" "first_waiting", .meth "Board" "follow", .meth "Settled" "__eq__", .meth "Settled" "shows"]
def faL11 : List He.Fa := [.exc "BadStanding", .exc "BadBalls", .exm "BadNet" "BadNet" true, .exm "BadStanding" "BadStanding" true, .exm "BadBalls" "BadBalls" true, .exm "BadOrder" "BadOrder" true, .keep "minors_of", .keep "is_number"]
def faL12 : List He.Fa := [.keep "is_name", .keep "is_row", .keep "is_knot", .keep "first_wrong", .keep "count", .keep "check_net", .keep "lattice", .keep "ends"]
def faL13 : List He.Fa := [.keep "judge_ends", .keep "check_balls", .keep "begun", .keep "settle", .keep "played", .keep "knots_in_turn", .keep "_law_draw", .keep "_law_knots"]
def faL14 : List He.Fa := [.keep "_law_inlets", .keep "_law_falls", .keep "_law_det", .keep "_law_matrix", .keep "_law_does_end", .keep "_law_rounds_for", .keep "_law_is_quick", .keep "_law_asked"]
def faL15 : List He.Fa := [.keep "_law_refused", .keep "law", .keep "Net", .keep "Board", .keep "Settled", .keep "BadNet", .keep "BadStanding", .keep "BadBalls"]
def faL16 : List He.Fa := [.keep "BadOrder"]
def faL : List He.Fa := faL0 ++ (faL1 ++ (faL2 ++ (faL3 ++ (faL4 ++ (faL5 ++ (faL6 ++ (faL7 ++ (faL8 ++ (faL9 ++ (faL10 ++ (faL11 ++ (faL12 ++ (faL13 ++ (faL14 ++ (faL15 ++ (faL16))))))))))))))))
def ex_haN (K : PySem.W.Frag) : Bool := decide (PySem.W.findIn K (.ref (He.ga K "Net")) "__class__" = some (some (.builtin "object.__class__")))
def ex_hmN (K : PySem.W.Frag) : Bool := decide (PySem.W.mroIn K (He.ga K "Net") (.type "object") = some true)
def ex_meN (K : PySem.W.Frag) : Bool := decide (PySem.W.kitOne K (.ref (He.ga K "Net")) (.ref (He.ga K "Net")) = some true)
def ex_haS (K : PySem.W.Frag) : Bool := decide (PySem.W.findIn K (.ref (He.ga K "Settled")) "__class__" = some (some (.builtin "object.__class__")))
def ex_hmS (K : PySem.W.Frag) : Bool := decide (PySem.W.mroIn K (He.ga K "Settled") (.type "object") = some true)
def ex_meS (K : PySem.W.Frag) : Bool := decide (PySem.W.kitOne K (.ref (He.ga K "Settled")) (.ref (He.ga K "Settled")) = some true)
def ex_hn (K : PySem.W.Frag) : Bool := decide (PySem.W.specialIn K (.builtin "object.__class__") "__get__" = some (some (.builtin "getset_descriptor.__get__")))
def ex_htk (K : PySem.W.Frag) : Bool := decide (PySem.W.takesIn K (.builtin "object.__class__") = some true)
def ex_noNoneType (K : PySem.W.Frag) : Bool := decide (PySem.W.kitOne K (.type "NoneType") (.ref (He.ga K "Net")) = some false)
def ex_noint (K : PySem.W.Frag) : Bool := decide (PySem.W.kitOne K (.type "int") (.ref (He.ga K "Net")) = some false)
def ex_nodict (K : PySem.W.Frag) : Bool := decide (PySem.W.kitOne K (.type "dict") (.ref (He.ga K "Net")) = some false)
def ex_nostr (K : PySem.W.Frag) : Bool := decide (PySem.W.kitOne K (.type "str") (.ref (He.ga K "Net")) = some false)
def ex_noSet (K : PySem.W.Frag) : Bool := decide (PySem.W.kitOne K (.type "int") (.ref (He.ga K "Settled")) = some false)
def ex_nfS (K : PySem.W.Frag) : Bool := PySem.W.notFirst K (He.ga K "Settled") (.type "int")
def ex_hneS (K : PySem.W.Frag) : Bool := decide (PySem.W.findIn K (.ref (He.ga K "Settled")) "__ne__" = some (some (.builtin "object.__ne__")))
def ex_xfN (K : PySem.W.Frag) : Bool := xfB K (He.ga K "BadNet")
def ex_xfO (K : PySem.W.Frag) : Bool := xfB K (He.ga K "BadOrder")
def ex_stN (K : PySem.W.Frag) : Bool := decide (PySem.W.subIn K (.ref (He.ga K "BadNet")) (.type "StopIteration") = some false)
def ex_stB (K : PySem.W.Frag) : Bool := decide (PySem.W.subIn K (.ref (He.ga K "BadBalls")) (.type "StopIteration") = some false)
def ex_stS (K : PySem.W.Frag) : Bool := decide (PySem.W.subIn K (.ref (He.ga K "BadStanding")) (.type "StopIteration") = some false)
def ex_scN (K : PySem.W.Frag) : Bool := supC K (He.ga K "BadNet")
def ex_saN (K : PySem.W.Frag) : Bool := decide (PySem.W.findIn K (.ref (He.ga K "BadNet")) "__setattr__" = some (some (.builtin "object.__setattr__")))
def ex_snN (K : PySem.W.Frag) : Bool := decide (PySem.W.findIn K (.ref (He.ga K "BadNet")) "name" = some none)
def ex_siN (K : PySem.W.Frag) : Bool := decide (PySem.W.findIn K (.ref (He.ga K "BadNet")) "__init__" = some (some (.ref (He.ma K (He.ga K "BadNet") "__init__"))))
def ex_sfN (K : PySem.W.Frag) : Bool := decide (PySem.W.typeIn K (.ref (He.ma K (He.ga K "BadNet") "__init__")) = some (.type "function"))
def ex_sbN (K : PySem.W.Frag) : Bool := decide (PySem.W.subIn K (.ref (He.ga K "BadNet")) (.type "BaseException") = some true)
def ex_svN (K : PySem.W.Frag) : Bool := decide (PySem.W.subIn K (.ref (He.ga K "BadNet")) (.type "ValueError") = some true)
def ex_syN (K : PySem.W.Frag) : Bool := decide (PySem.W.typeIn K (.ref (He.ga K "BadNet")) = some (.type "type"))
def ex_suN (K : PySem.W.Frag) : Bool := decide (PySem.W.ks_superIn K (He.ga K "BadNet") (He.ga K "BadNet") "__init__" = some (some (.builtin "ValueError.__init__")))
def ex_ssN (K : PySem.W.Frag) : Bool := decide (PySem.W.mroIn K (He.ga K "BadNet") (.ref (He.ga K "BadNet")) = some true)
def ex_skN (K : PySem.W.Frag) : Bool := supF K (He.ma K (He.ga K "BadNet") "__init__") (He.ga K "BadNet") "/claim/cut.py"
def ex_scO (K : PySem.W.Frag) : Bool := supC K (He.ga K "BadOrder")
def ex_saO (K : PySem.W.Frag) : Bool := decide (PySem.W.findIn K (.ref (He.ga K "BadOrder")) "__setattr__" = some (some (.builtin "object.__setattr__")))
def ex_snO (K : PySem.W.Frag) : Bool := decide (PySem.W.findIn K (.ref (He.ga K "BadOrder")) "place" = some none)
def ex_siO (K : PySem.W.Frag) : Bool := decide (PySem.W.findIn K (.ref (He.ga K "BadOrder")) "__init__" = some (some (.ref (He.ma K (He.ga K "BadOrder") "__init__"))))
def ex_sfO (K : PySem.W.Frag) : Bool := decide (PySem.W.typeIn K (.ref (He.ma K (He.ga K "BadOrder") "__init__")) = some (.type "function"))
def ex_sbO (K : PySem.W.Frag) : Bool := decide (PySem.W.subIn K (.ref (He.ga K "BadOrder")) (.type "BaseException") = some true)
def ex_svO (K : PySem.W.Frag) : Bool := decide (PySem.W.subIn K (.ref (He.ga K "BadOrder")) (.type "ValueError") = some true)
def ex_syO (K : PySem.W.Frag) : Bool := decide (PySem.W.typeIn K (.ref (He.ga K "BadOrder")) = some (.type "type"))
def ex_suO (K : PySem.W.Frag) : Bool := decide (PySem.W.ks_superIn K (He.ga K "BadOrder") (He.ga K "BadOrder") "__init__" = some (some (.builtin "ValueError.__init__")))
def ex_ssO (K : PySem.W.Frag) : Bool := decide (PySem.W.mroIn K (He.ga K "BadOrder") (.ref (He.ga K "BadOrder")) = some true)
def ex_skO (K : PySem.W.Frag) : Bool := supF K (He.ma K (He.ga K "BadOrder") "__init__") (He.ga K "BadOrder") "/claim/cut.py"
def ex_opq (K : PySem.W.Frag) : Bool := decide (PySem.W.nsIn K cStatics "thirdparty.any" = some none)
def exL0 : List (PySem.W.Frag → Bool) := [ex_haN, ex_hmN, ex_meN, ex_haS, ex_hmS, ex_meS, ex_hn, ex_htk]
def exL1 : List (PySem.W.Frag → Bool) := [ex_noNoneType, ex_noint, ex_nodict, ex_nostr, ex_noSet, ex_nfS, ex_hneS, ex_xfN]
def exL2 : List (PySem.W.Frag → Bool) := [ex_xfO, ex_stN, ex_stB, ex_stS, ex_scN, ex_saN, ex_snN, ex_siN]
def exL3 : List (PySem.W.Frag → Bool) := [ex_sfN, ex_sbN, ex_svN, ex_syN, ex_suN, ex_ssN, ex_skN, ex_scO]
def exL4 : List (PySem.W.Frag → Bool) := [ex_saO, ex_snO, ex_siO, ex_sfO, ex_sbO, ex_svO, ex_syO, ex_suO]
def exL5 : List (PySem.W.Frag → Bool) := [ex_ssO, ex_skO, ex_opq]
def exL : List (PySem.W.Frag → Bool) := exL0 ++ (exL1 ++ (exL2 ++ (exL3 ++ (exL4 ++ (exL5)))))
def loose0 : List PySem.Str := ["__name__", "minors_of", "solved", "common", "lowered", "ChuteError", "BadNet", "BadStanding", "BadBalls", "BadOrder"]
def loose1 : List PySem.Str := ["NeverEnds", "MOST_KNOTS", "MOST_DROPS", "MOST_TARGETS", "MOST_SIGNS", "is_number", "is_name", "is_row", "is_knot", "first_wrong"]
def loose2 : List PySem.Str := ["Net", "count", "check_net", "lattice", "ends", "Ends", "Never", "Waiting", "judge_ends", "turning"]
def loose3 : List PySem.Str := ["never", "supply", "first_ways", "check_balls", "Board", "Settled", "begun", "settle", "played", "knots_in_turn"]
def loose4 : List PySem.Str := ["_law_draw", "_law_knots", "_law_inlets", "_law_falls", "_law_det", "_law_matrix", "_law_does_end", "_law_rounds_for", "_law_is_quick", "_law_asked"]
def loose5 : List PySem.Str := ["_law_refused"]
def loose : List PySem.Str := loose0 ++ (loose1 ++ (loose2 ++ (loose3 ++ (loose4 ++ (loose5)))))
abbrev AlB : Type := (He.AlD × (FnS × FnS)) × Bool
def obsB (K : PySem.W.Frag) : AlB := ((He.obsD faL fnL K, (fnS K "BadNet", fnS K "BadOrder")), exL.all fun f => f K)
def valB : AlB := ((He.valD fnL, (valS "BadNet.__init__" s_BadNet_init, valS "BadOrder.__init__" s_BadOrder_init)), true)
def SaysB (K : PySem.W.Frag) : Prop := obsB K = valB
def hookB : PySem.W.Hook where
  α := AlB
  obs := fun s => obsB (He.frG s.heap.get? (asB s.heap.get?))
  val := fun _ => valB
  says := fun _ h => ∃ K : PySem.W.Frag, K.In h ∧ SaysB K
  of := fun _ _ e => ⟨_, He.frG_in, e⟩
  keeps := fun _ _ _ ⟨K, hK, c⟩ k => ⟨K, PySem.W.Frag.In.keeps hK k, c⟩
def obT (s : PySem.W.SharedT) : AlB := obsB (He.frG (HandSHeadRun.getT s) (asB (HandSHeadRun.getT s)))
theorem obT_eq (s : PySem.W.SharedT) : obT s = hookB.obs s.abs := by
  have e : HandSHeadRun.getT s = s.abs.heap.get? := funext fun a => HandSHeadRun.getT_eq s a
  unfold obT
  rw [e]
  rfl
abbrev lawR : PySem.W.OpenRow := PySem.W.OpenLaw.row PySem.Challenge.rw_ballchutes_k18_whole_settled_things
theorem top_run (w : World) : HandSHeadRun.RunEq lawR (PySem.W.view lawR.prog [56]) hookB obT 30000 loose w := by
  intro os
  kernel_rfl
end Bal
set_option autoImplicit true
set_option Elab.async false
set_option linter.all false
set_option maxRecDepth 100000
set_option maxHeartbeats 4000000
/-! WZ: the end: every def keeps its promise, the law's row. -/
namespace Bal
open PySem PySem.Spec PyProof.Rows L2
theorem ex_ok {K : PySem.W.Frag} (h : (exL.all fun f => f K) = true) (i : Nat) {f : PySem.W.Frag → Bool} (e : exL[i]? = some f) : f K = true := List.all_eq_true.mp h f (List.mem_of_getElem? e)
theorem int_rel {mg : Str → Option Value} {x : Str} {i : Int} (h : ∃ t, mg x = some (.int i t)) : ∃ u, mg x = some u ∧ RelV (.int i) u := let ⟨t, e⟩ := h; ⟨_, e, ⟨t, rfl⟩⟩
section
variable {K : PySem.W.Frag} {x qual : Str} {st : Stmt} {f : Addr} {fd : FuncData} {dvs : List V}
theorem fun_of (F : FunD K x qual (defArgs st) (defBody st) (defScope st) [] [] f fd) : Fun K x qual st f fd := by
  obtain ⟨oc, od, dV, kV, doc, pm, an, cdv, ct, osl, e, lk, hc, hD, _⟩ := F.ex
  rcases hD with ⟨_, rfl⟩ | ⟨h, _⟩
  · exact ⟨⟨oc, od, kV, doc, pm, an, cdv, ct, osl, e, lk, hc⟩, F.kp⟩
  · exact absurd rfl h
theorem funA_of (F : FunD K x qual (defArgs st) (defBody st) (defScope st) dvs [] f fd) : FunA K x qual st f fd := by
  obtain ⟨oc, od, dV, kV, doc, pm, an, cdv, ct, osl, e, lk, hc, _, _⟩ := F.ex
  exact ⟨⟨oc, od, dV, kV, doc, pm, an, cdv, ct, osl, e, lk, hc⟩⟩
theorem supC_ok {C : Addr} (h : supC K C = true) : ∃ nn q N bs bm sn sub ab col dd k0 k1 k2 k3 k5, K.lookup C = some (excClassObj nn q C N bs bm true sn sub ab col dd k0 k1 k2 k3 k5 "ValueError.__new__") ∧ PySem.HandSPX.refsVE bm = true := by
  unfold supC at h
  split at h
  · rename_i t dd cd sl e1
    split at h
    · rename_i D bm k0 k1 k2 k3 n k5 e2 e3
      simp only [Bool.and_eq_true, decide_eq_true_eq, Bool.not_eq_true'] at h
      obtain ⟨rfl, rfl, rfl, h1, h2, h3⟩ := h
      obtain ⟨nn, bs, mro, N, q, hd, sn, sub, ab, col, del⟩ := cd
      dsimp only at e2 h1 h2
      subst e2 h1 h2
      obtain ⟨sl⟩ := sl
      dsimp only at e3
      subst e3
      exact ⟨nn, q, N, bs, bm, sn, sub, ab, col, dd, k0, k1, k2, k3, k5, e1, h3⟩
    · cases h
  · cases h
theorem supF_ok {C : Addr} {nm q : Str} {file : Str} (h : supF K (He.ma K (He.ga K nm) "__init__") C file = true) (e : fnS K nm = valS q st) : ∃ (oc : Value) (od : Option Addr) (doc pm : Value) (an : Option Addr) (cda : Addr) (ct : Value) (osl : Array (Option Value)) (cc : Addr),
    K.lookup (He.ma K (He.ga K nm) "__init__") = some ⟨oc, od, .func (PySem.W.fnX "__init__" q (defArgs st) (defBody st) (defScope st) [("__class__", cc)] .none .none doc pm an (.ref cda) ct), osl⟩ ∧ PySem.W.codeIn K (.ref cda) q = true ∧
    (∃ cl cld csl, K.lookup cc = some ⟨cl, cld, .cell (some (.ref C)), csl⟩) ∧ ∃ ccl cdd vs ccs fl tf, K.lookup cda = some ⟨ccl, cdd, .fields vs, ccs⟩ ∧ vs[2]? = some (.str fl tf) ∧ (file == fl) = true := by
  unfold supF at h
  unfold fnS at e
  split at h
  · rename_i oc od fd osl e1
    rw [e1] at e
    obtain ⟨n1, n2, n3, n4, n5, n6, n7, n8, n9, n10, n11, n12, n13, n14, n15⟩ := fd
    have e2 : (some (n1, n2, n3, n4, n5, n6, n7.map (·.1), n15) : FnS) = (some ("__init__", q, defArgs st, FuncBody.stmts (defBody st), defScope st, mainGlobals, ["__class__"], builtinsNs) : FnS) := e
    simp only [Option.some.injEq, Prod.mk.injEq] at e2
    obtain ⟨h1, h2, h3, h4, h5, h6, h7, h8⟩ := e2
    subst h1 h2 h3 h4 h5 h6 h8
    split at h
    · rename_i cda x cc g1 g2 g3 g4
      dsimp only at g1 g2 g3 g4
      subst g1 g2 g3 g4
      have ex : x = "__class__" := by simpa using h7
      subst ex
      simp only [Bool.and_eq_true] at h
      obtain ⟨k1, k2, k3⟩ := h
      refine ⟨oc, od, n10, n11, n12, cda, n14, osl, cc, e1, k1, ?_, ?_⟩
      · split at k2
        · rename_i a b D d e3
          have : D = C := of_decide_eq_true k2
          subst this
          exact ⟨_, _, _, e3⟩
        · cases k2
      · split at k3
        · rename_i a b vs d e3
          split at k3
          · rename_i fl tf e4
            exact ⟨_, _, vs, _, fl, tf, e3, e4, k3⟩
          · cases k3
        · cases k3
    · cases h
  · cases h
end
section
variable {P : Program} {w : World} {K : PySem.W.Frag} {mg : Str → Option Value} {base : Heap} {CX : CXT} {k : Nat} {x m : Str} {C f : Addr} {fd : FuncData} {ps : List Str} {sp : Sp} {dvs : List V}
theorem gf (h : FnOk P w K mg base CX k f fd ps sp) (g : mg x = some (.ref f)) (kp : PySem.W.keepIn K (.ref f) = true) (b : ∃ ds, Vals dvs ds ∧ Binds K fd ps ds) : FnG P w K mg base CX k x sp dvs := let ⟨ds, d, b⟩ := b; ⟨⟨f, fd, ps, ds, h, g, kp, b, d⟩⟩
theorem gm (h : FnOk P w K mg base CX k f fd ps sp) (c : Cls K C) (g : Meth K C m f) (b : ∃ ds, Vals dvs ds ∧ Binds K fd ps ds) : MtG P w K mg base CX k C m sp dvs := let ⟨ds, d, b⟩ := b; ⟨⟨f, fd, ps, ds, c, g, h, b, d⟩⟩
theorem gk (h : FnOk P w K mg base CX k f fd ps sp) (M : Mk K C f) (g : mg x = some (.ref C)) (b : ∃ ds, Vals dvs ds ∧ Binds K fd ps ds) : MkG P w K mg base CX k x C sp dvs := let ⟨ds, d, b⟩ := b; ⟨⟨f, fd, ps, ds, M, h, g, b, d⟩⟩
end
theorem law_facts {w : World} {K : PySem.W.Frag} {h : Heap} {mg : Str → Option Value} {fa : Addr} (X : K.In h) (G : h.Ns mainGlobals mg) (hfa : mg ("law" : Str) = some (.ref fa)) (cb : SaysB K) :
    ∃ fd : FuncData, (∀ (s : Shared) (v : Value), BindsTo s fd ⟨[v], []⟩ [("_law_script", v)]) ∧ ∀ base : Heap, K.In base → base.Ns mainGlobals mg → FnOk PySem.Challenge.rw_ballchutes_k18_whole_settled_things.prog w K mg base CX0 10 fa fd ["_law_script"] (spLaw K) := by
  have c : He.SaysD faL fnL K := congrArg (fun z : AlB => z.1.1) cb
  have cN : fnS K "BadNet" = valS "BadNet.__init__" s_BadNet_init := congrArg (fun z : AlB => z.1.2.1) cb
  have cO : fnS K "BadOrder" = valS "BadOrder.__init__" s_BadOrder_init := congrArg (fun z : AlB => z.1.2.2) cb
  have ce : (exL.all fun f => f K) = true := congrArg (fun z : AlB => z.2) cb
  have e := hfa.symm.trans (He.glo_ok X G (c.fact 27 (f := .glo "law") rfl))
  cases e
  have T : Txt K mg (He.ga K "Net") (He.ga K "Board") (He.ga K "Settled") := {
    cN := He.cls_ok (c.fact 56 (f := .cls "Net") rfl),
    cB := He.cls_ok (c.fact 58 (f := .cls "Board") rfl),
    cS := He.cls_ok (c.fact 60 (f := .cls "Settled") rfl),
    iN := { cl := He.cls_ok (c.fact 56 (f := .cls "Net") rfl), ha := (of_decide_eq_true (ex_ok ce 0 (f := ex_haN) rfl)), hn := (of_decide_eq_true (ex_ok ce 6 (f := ex_hn) rfl)), htk := (of_decide_eq_true (ex_ok ce 7 (f := ex_htk) rfl)), hm := (of_decide_eq_true (ex_ok ce 1 (f := ex_hmN) rfl)), me := (of_decide_eq_true (ex_ok ce 2 (f := ex_meN) rfl)) },
    iS := { cl := He.cls_ok (c.fact 60 (f := .cls "Settled") rfl), ha := (of_decide_eq_true (ex_ok ce 3 (f := ex_haS) rfl)), hn := (of_decide_eq_true (ex_ok ce 6 (f := ex_hn) rfl)), htk := (of_decide_eq_true (ex_ok ce 7 (f := ex_htk) rfl)), hm := (of_decide_eq_true (ex_ok ce 4 (f := ex_hmS) rfl)), me := (of_decide_eq_true (ex_ok ce 5 (f := ex_meS) rfl)) },
    gNet := He.glo_ok X G (c.fact 28 (f := .glo "Net") rfl),
    gBoard := He.glo_ok X G (c.fact 29 (f := .glo "Board") rfl),
    gSettled := He.glo_ok X G (c.fact 30 (f := .glo "Settled") rfl),
    nNk := He.noat_ok (c.fact 62 (f := .noat "Net" "knots") rfl),
    nNi := He.noat_ok (c.fact 63 (f := .noat "Net" "inlets") rfl),
    nNo := He.noat_ok (c.fact 64 (f := .noat "Net" "outlets") rfl),
    nNn := He.noat_ok (c.fact 65 (f := .noat "Net" "names") rfl),
    nBn := He.noat_ok (c.fact 66 (f := .noat "Board" "net") rfl),
    nBs := He.noat_ok (c.fact 67 (f := .noat "Board" "standing") rfl),
    nBw := He.noat_ok (c.fact 68 (f := .noat "Board" "waiting") rfl),
    nBo := He.noat_ok (c.fact 69 (f := .noat "Board" "out") rfl),
    nBt := He.noat_ok (c.fact 70 (f := .noat "Board" "taken") rfl),
    nSt := He.noat_ok (c.fact 71 (f := .noat "Settled" "taken") rfl),
    nSo := He.noat_ok (c.fact 72 (f := .noat "Settled" "out") rfl),
    nSs := He.noat_ok (c.fact 73 (f := .noat "Settled" "standing") rfl),
    nSr := He.noat_ok (c.fact 74 (f := .noat "Settled" "order") rfl),
    int := He.free_ok X G (c.fact 35 (f := .free "int") rfl),
    bool := He.free_ok X G (c.fact 36 (f := .free "bool") rfl),
    str := He.free_ok X G (c.fact 37 (f := .free "str") rfl),
    tuple := He.free_ok X G (c.fact 38 (f := .free "tuple") rfl),
    list := He.free_ok X G (c.fact 39 (f := .free "list") rfl),
    dict := He.free_ok X G (c.fact 40 (f := .free "dict") rfl),
    len := He.free_ok X G (c.fact 41 (f := .free "len") rfl),
    isinstance := He.free_ok X G (c.fact 42 (f := .free "isinstance") rfl),
    sorted := He.free_ok X G (c.fact 43 (f := .free "sorted") rfl),
    all := He.free_ok X G (c.fact 44 (f := .free "all") rfl),
    any := He.free_ok X G (c.fact 45 (f := .free "any") rfl),
    min := He.free_ok X G (c.fact 46 (f := .free "min") rfl),
    max := He.free_ok X G (c.fact 47 (f := .free "max") rfl),
    range := He.free_ok X G (c.fact 48 (f := .free "range") rfl),
    zip := He.free_ok X G (c.fact 49 (f := .free "zip") rfl),
    enumerate := He.free_ok X G (c.fact 50 (f := .free "enumerate") rfl),
    MOST_KNOTS := int_rel (He.int_ok X G (c.fact 52 (f := .int "MOST_KNOTS" 12) rfl)),
    MOST_DROPS := int_rel (He.int_ok X G (c.fact 53 (f := .int "MOST_DROPS" 12) rfl)),
    MOST_TARGETS := int_rel (He.int_ok X G (c.fact 54 (f := .int "MOST_TARGETS" 4) rfl)),
    MOST_SIGNS := int_rel (He.int_ok X G (c.fact 55 (f := .int "MOST_SIGNS" 16) rfl)) }
  obtain ⟨ocN, odN, docN, pmN, anN, cdaN, ctN, oslN, ccN, lkN, hcN, cellN, codeN⟩ := supF_ok (ex_ok ce 30 (f := ex_skN) rfl) cN
  have XBadNet : SX.SupTxt PySem.Challenge.rw_ballchutes_k18_whole_settled_things.prog K mg "BadNet" "name" "not a net" (He.ga K "BadNet") (He.ma K (He.ga K "BadNet") "__init__") := {
    gC := He.glo_ok X G (c.fact 31 (f := .glo "BadNet") rfl),
    fl1 := by decide +kernel,
    cls := supC_ok (ex_ok ce 20 (f := ex_scN) rfl),
    sa := (of_decide_eq_true (ex_ok ce 21 (f := ex_saN) rfl)),
    noN := (of_decide_eq_true (ex_ok ce 22 (f := ex_snN) rfl)),
    iC := (of_decide_eq_true (ex_ok ce 23 (f := ex_siN) rfl)),
    tC := (of_decide_eq_true (ex_ok ce 24 (f := ex_sfN) rfl)),
    kC := He.keep_ok (c.fact 125 (f := .keep "BadNet") rfl),
    exC := (of_decide_eq_true (ex_ok ce 25 (f := ex_sbN) rfl)),
    veC := (of_decide_eq_true (ex_ok ce 26 (f := ex_svN) rfl)),
    tyC := (of_decide_eq_true (ex_ok ce 27 (f := ex_syN) rfl)),
    sup := (of_decide_eq_true (ex_ok ce 28 (f := ex_suN) rfl)),
    slf := (of_decide_eq_true (ex_ok ce 29 (f := ex_ssN) rfl)),
    opq := (of_decide_eq_true (ex_ok ce 42 (f := ex_opq) rfl)),
    top := by decide +kernel,
    noS := He.free_ok X G (c.fact 51 (f := .free "super") rfl),
    fn := ⟨ocN, odN, docN, pmN, anN, cdaN, ctN, oslN, _, _, _, _, _, _, _, _, _, _, _, _, _, ccN, lkN, hcN, fun _ _ _ => .of_eq rfl, fun _ => ⟨_, rfl⟩, cellN, codeN⟩ }
  obtain ⟨ocO, odO, docO, pmO, anO, cdaO, ctO, oslO, ccO, lkO, hcO, cellO, codeO⟩ := supF_ok (ex_ok ce 41 (f := ex_skO) rfl) cO
  have XBadOrder : SX.SupTxt PySem.Challenge.rw_ballchutes_k18_whole_settled_things.prog K mg "BadOrder" "place" "not such an order" (He.ga K "BadOrder") (He.ma K (He.ga K "BadOrder") "__init__") := {
    gC := He.glo_ok X G (c.fact 34 (f := .glo "BadOrder") rfl),
    fl1 := by decide +kernel,
    cls := supC_ok (ex_ok ce 31 (f := ex_scO) rfl),
    sa := (of_decide_eq_true (ex_ok ce 32 (f := ex_saO) rfl)),
    noN := (of_decide_eq_true (ex_ok ce 33 (f := ex_snO) rfl)),
    iC := (of_decide_eq_true (ex_ok ce 34 (f := ex_siO) rfl)),
    tC := (of_decide_eq_true (ex_ok ce 35 (f := ex_sfO) rfl)),
    kC := He.keep_ok (c.fact 128 (f := .keep "BadOrder") rfl),
    exC := (of_decide_eq_true (ex_ok ce 36 (f := ex_sbO) rfl)),
    veC := (of_decide_eq_true (ex_ok ce 37 (f := ex_svO) rfl)),
    tyC := (of_decide_eq_true (ex_ok ce 38 (f := ex_syO) rfl)),
    sup := (of_decide_eq_true (ex_ok ce 39 (f := ex_suO) rfl)),
    slf := (of_decide_eq_true (ex_ok ce 40 (f := ex_ssO) rfl)),
    opq := (of_decide_eq_true (ex_ok ce 42 (f := ex_opq) rfl)),
    top := by decide +kernel,
    noS := He.free_ok X G (c.fact 51 (f := .free "super") rfl),
    fn := ⟨ocO, odO, docO, pmO, anO, cdaO, ctO, oslO, _, _, _, _, _, _, _, _, _, _, _, _, _, ccO, lkO, hcO, fun _ _ _ => .of_eq rfl, fun _ => ⟨_, rfl⟩, cellO, codeO⟩ }
  have XBadBalls : OwnTxt K mg "BadBalls" (He.ga K "BadBalls") := let z := He.exc_ok (c.fact 89 (f := .exc "BadBalls") rfl); ⟨z.1, He.glo_ok X G (c.fact 33 (f := .glo "BadBalls") rfl), z.2.1, z.2.2.1, z.2.2.2⟩
  have XBadStanding : OwnTxt K mg "BadStanding" (He.ga K "BadStanding") := let z := He.exc_ok (c.fact 88 (f := .exc "BadStanding") rfl); ⟨z.1, He.glo_ok X G (c.fact 32 (f := .glo "BadStanding") rfl), z.2.1, z.2.2.1, z.2.2.2⟩
  have teN := He.exm_ok (c.fact 90 (f := .exm "BadNet" "BadNet" true) rfl)
  have teO := He.exm_ok (c.fact 93 (f := .exm "BadOrder" "BadOrder" true) rfl)
  have teB := He.exm_ok (c.fact 92 (f := .exm "BadBalls" "BadBalls" true) rfl)
  have teS := He.exm_ok (c.fact 91 (f := .exm "BadStanding" "BadStanding" true) rfl)
  have XFname := xfB_ok (ex_ok ce 15 (f := ex_xfN) rfl)
  have XFplace := xfB_ok (ex_ok ce 16 (f := ex_xfO) rfl)
  have noNet : ∀ n ∈ ["NoneType", "int", "dict", "str"], PySem.W.kitOne K (.type n) (.ref (He.ga K "Net")) = some false := fun n hn => by
    simp only [List.mem_cons, List.not_mem_nil, or_false] at hn
    rcases hn with rfl | rfl | rfl | rfl
    · exact (of_decide_eq_true (ex_ok ce 8 (f := ex_noNoneType) rfl))
    · exact (of_decide_eq_true (ex_ok ce 9 (f := ex_noint) rfl))
    · exact (of_decide_eq_true (ex_ok ce 10 (f := ex_nodict) rfl))
    · exact (of_decide_eq_true (ex_ok ce 11 (f := ex_nostr) rfl))
  have noSet : PySem.W.kitOne K (.type "int") (.ref (He.ga K "Settled")) = some false := (of_decide_eq_true (ex_ok ce 12 (f := ex_noSet) rfl))
  have nfS : PySem.W.notFirst K (He.ga K "Settled") (.type "int") = true := (ex_ok ce 13 (f := ex_nfS) rfl)
  have hneS : PySem.W.findIn K (.ref (He.ga K "Settled")) "__ne__" = some (some (.builtin "object.__ne__")) := (of_decide_eq_true (ex_ok ce 14 (f := ex_hneS) rfl))
  have hobS : PySem.W.mroIn K (He.ga K "Settled") (.type "object") = some true := (of_decide_eq_true (ex_ok ce 4 (f := ex_hmS) rfl))
  have stN : PySem.W.subIn K (.ref (He.ga K "BadNet")) (.type "StopIteration") = some false := (of_decide_eq_true (ex_ok ce 17 (f := ex_stN) rfl))
  have stB : PySem.W.subIn K (.ref (He.ga K "BadBalls")) (.type "StopIteration") = some false := (of_decide_eq_true (ex_ok ce 18 (f := ex_stB) rfl))
  have stS : PySem.W.subIn K (.ref (He.ga K "BadStanding")) (.type "StopIteration") = some false := (of_decide_eq_true (ex_ok ce 19 (f := ex_stS) rfl))
  obtain ⟨fd_minors_of, E_minors_of⟩ := c.def_ 0 (d := D_minors_of) rfl
  have F_minors_of : Fun K "minors_of" "minors_of" s_minors_of (He.ga K "minors_of") fd_minors_of := fun_of E_minors_of
  have b_minors_of := F_minors_of.binds (ps := ["rows"]) fun _ _ _ _ _ _ us hl => match us, hl with | [_], _ => rfl
  obtain ⟨fd_is_number, E_is_number⟩ := c.def_ 1 (d := D_is_number) rfl
  have F_is_number : Fun K "is_number" "is_number" s_is_number (He.ga K "is_number") fd_is_number := fun_of E_is_number
  have b_is_number := F_is_number.binds (ps := ["thing"]) fun _ _ _ _ _ _ us hl => match us, hl with | [_], _ => rfl
  obtain ⟨fd_is_name, E_is_name⟩ := c.def_ 2 (d := D_is_name) rfl
  have F_is_name : Fun K "is_name" "is_name" s_is_name (He.ga K "is_name") fd_is_name := fun_of E_is_name
  have b_is_name := F_is_name.binds (ps := ["thing"]) fun _ _ _ _ _ _ us hl => match us, hl with | [_], _ => rfl
  obtain ⟨fd_is_row, E_is_row⟩ := c.def_ 3 (d := D_is_row) rfl
  have F_is_row : Fun K "is_row" "is_row" s_is_row (He.ga K "is_row") fd_is_row := fun_of E_is_row
  have b_is_row := F_is_row.binds (ps := ["thing", "known"]) fun _ _ _ _ _ _ us hl => match us, hl with | [_, _], _ => rfl
  obtain ⟨fd_is_knot, E_is_knot⟩ := c.def_ 4 (d := D_is_knot) rfl
  have F_is_knot : Fun K "is_knot" "is_knot" s_is_knot (He.ga K "is_knot") fd_is_knot := fun_of E_is_knot
  have b_is_knot := F_is_knot.binds (ps := ["thing", "known"]) fun _ _ _ _ _ _ us hl => match us, hl with | [_, _], _ => rfl
  obtain ⟨fd_first_wrong, E_first_wrong⟩ := c.def_ 5 (d := D_first_wrong) rfl
  have F_first_wrong : Fun K "first_wrong" "first_wrong" s_first_wrong (He.ga K "first_wrong") fd_first_wrong := fun_of E_first_wrong
  have b_first_wrong := F_first_wrong.binds (ps := ["names"]) fun _ _ _ _ _ _ us hl => match us, hl with | [_], _ => rfl
  obtain ⟨fd_count, E_count⟩ := c.def_ 6 (d := D_count) rfl
  have F_count : Fun K "count" "count" s_count (He.ga K "count") fd_count := fun_of E_count
  have b_count := F_count.binds (ps := ["found", "drop", "many"]) fun _ _ _ _ _ _ us hl => match us, hl with | [_, _, _], _ => rfl
  obtain ⟨fd_check_net, E_check_net⟩ := c.def_ 7 (d := D_check_net) rfl
  have F_check_net : Fun K "check_net" "check_net" s_check_net (He.ga K "check_net") fd_check_net := fun_of E_check_net
  have b_check_net := F_check_net.binds (ps := ["thing"]) fun _ _ _ _ _ _ us hl => match us, hl with | [_], _ => rfl
  obtain ⟨fd_lattice, E_lattice⟩ := c.def_ 8 (d := D_lattice) rfl
  have F_lattice : Fun K "lattice" "lattice" s_lattice (He.ga K "lattice") fd_lattice := fun_of E_lattice
  have b_lattice := F_lattice.binds (ps := ["net"]) fun _ _ _ _ _ _ us hl => match us, hl with | [_], _ => rfl
  obtain ⟨fd_ends, E_ends⟩ := c.def_ 9 (d := D_ends) rfl
  have F_ends : Fun K "ends" "ends" s_ends (He.ga K "ends") fd_ends := fun_of E_ends
  have b_ends := F_ends.binds (ps := ["net"]) fun _ _ _ _ _ _ us hl => match us, hl with | [_], _ => rfl
  obtain ⟨fd_judge_ends, E_judge_ends⟩ := c.def_ 10 (d := D_judge_ends) rfl
  have F_judge_ends : Fun K "judge_ends" "judge_ends" s_judge_ends (He.ga K "judge_ends") fd_judge_ends := fun_of E_judge_ends
  have b_judge_ends := F_judge_ends.binds (ps := ["net"]) fun _ _ _ _ _ _ us hl => match us, hl with | [_], _ => rfl
  obtain ⟨fd_check_balls, E_check_balls⟩ := c.def_ 11 (d := D_check_balls) rfl
  have F_check_balls : Fun K "check_balls" "check_balls" s_check_balls (He.ga K "check_balls") fd_check_balls := fun_of E_check_balls
  have b_check_balls := F_check_balls.binds (ps := ["net", "balls"]) fun _ _ _ _ _ _ us hl => match us, hl with | [_, _], _ => rfl
  obtain ⟨fd_begun, E_begun⟩ := c.def_ 12 (d := D_begun) rfl
  have F_begun : Fun K "begun" "begun" s_begun (He.ga K "begun") fd_begun := fun_of E_begun
  have b_begun := F_begun.binds (ps := ["net", "balls", "standing"]) fun _ _ _ _ _ _ us hl => match us, hl with | [_, _, _], _ => rfl
  obtain ⟨fd_settle, E_settle⟩ := c.def_ 13 (d := D_settle) rfl
  have F_settle : FunA K "settle" "settle" s_settle (He.ga K "settle") fd_settle := funA_of (dvs := [.non]) E_settle
  have b_settle := FunD.binds1 (dvs := [V.non]) (ps := ["net", "balls", "standing"]) E_settle 3 1 (by simp) rfl fun _ _ _ _ _ _ _ us its h1 h2 => match us, its, h1, h2 with | [_, _, _], [_], _, _ => ⟨_, rfl, rfl⟩
  have bd_settle := FunD.binds1 (dvs := [V.non]) (ps := ["net", "balls", "standing"]) E_settle 2 0 (by simp) rfl fun _ _ _ _ _ _ _ us its h1 h2 => match us, its, h1, h2 with | [_, _], [_], _, _ => ⟨_, rfl, rfl⟩
  obtain ⟨fd_played, E_played⟩ := c.def_ 14 (d := D_played) rfl
  have F_played : FunA K "played" "played" s_played (He.ga K "played") fd_played := funA_of (dvs := [.non]) E_played
  have b_played := FunD.binds1 (dvs := [V.non]) (ps := ["net", "balls", "order", "standing"]) E_played 4 1 (by simp) rfl fun _ _ _ _ _ _ _ us its h1 h2 => match us, its, h1, h2 with | [_, _, _, _], [_], _, _ => ⟨_, rfl, rfl⟩
  have bd_played := FunD.binds1 (dvs := [V.non]) (ps := ["net", "balls", "order", "standing"]) E_played 3 0 (by simp) rfl fun _ _ _ _ _ _ _ us its h1 h2 => match us, its, h1, h2 with | [_, _, _], [_], _, _ => ⟨_, rfl, rfl⟩
  obtain ⟨fd_knots_in_turn, E_knots_in_turn⟩ := c.def_ 15 (d := D_knots_in_turn) rfl
  have F_knots_in_turn : FunA K "knots_in_turn" "knots_in_turn" s_knots_in_turn (He.ga K "knots_in_turn") fd_knots_in_turn := funA_of (dvs := [.non]) E_knots_in_turn
  have b_knots_in_turn := FunD.binds1 (dvs := [V.non]) (ps := ["net", "balls", "standing"]) E_knots_in_turn 3 1 (by simp) rfl fun _ _ _ _ _ _ _ us its h1 h2 => match us, its, h1, h2 with | [_, _, _], [_], _, _ => ⟨_, rfl, rfl⟩
  have bd_knots_in_turn := FunD.binds1 (dvs := [V.non]) (ps := ["net", "balls", "standing"]) E_knots_in_turn 2 0 (by simp) rfl fun _ _ _ _ _ _ _ us its h1 h2 => match us, its, h1, h2 with | [_, _], [_], _, _ => ⟨_, rfl, rfl⟩
  obtain ⟨fd_l_draw, E_l_draw⟩ := c.def_ 16 (d := D_l_draw) rfl
  have F_l_draw : Fun K "_law_draw" "_law_draw" s_l_draw (He.ga K "_law_draw") fd_l_draw := fun_of E_l_draw
  have b_l_draw := F_l_draw.binds (ps := ["_law_script", "_law_at", "_law_many"]) fun _ _ _ _ _ _ us hl => match us, hl with | [_, _, _], _ => rfl
  obtain ⟨fd_l_knots, E_l_knots⟩ := c.def_ 17 (d := D_l_knots) rfl
  have F_l_knots : Fun K "_law_knots" "_law_knots" s_l_knots (He.ga K "_law_knots") fd_l_knots := fun_of E_l_knots
  have b_l_knots := F_l_knots.binds (ps := ["_law_script", "_law_at", "_law_lossy"]) fun _ _ _ _ _ _ us hl => match us, hl with | [_, _, _], _ => rfl
  obtain ⟨fd_l_inlets, E_l_inlets⟩ := c.def_ 18 (d := D_l_inlets) rfl
  have F_l_inlets : Fun K "_law_inlets" "_law_inlets" s_l_inlets (He.ga K "_law_inlets") fd_l_inlets := fun_of E_l_inlets
  have b_l_inlets := F_l_inlets.binds (ps := ["_law_script", "_law_at", "_law_knots_here"]) fun _ _ _ _ _ _ us hl => match us, hl with | [_, _, _], _ => rfl
  obtain ⟨fd_l_falls, E_l_falls⟩ := c.def_ 19 (d := D_l_falls) rfl
  have F_l_falls : Fun K "_law_falls" "_law_falls" s_l_falls (He.ga K "_law_falls") fd_l_falls := fun_of E_l_falls
  have b_l_falls := F_l_falls.binds (ps := ["_law_knots_here", "_law_name"]) fun _ _ _ _ _ _ us hl => match us, hl with | [_, _], _ => rfl
  obtain ⟨fd_l_det, E_l_det⟩ := c.def_ 20 (d := D_l_det) rfl
  have F_l_det : Fun K "_law_det" "_law_det" s_l_det (He.ga K "_law_det") fd_l_det := fun_of E_l_det
  have b_l_det := F_l_det.binds (ps := ["_law_rows"]) fun _ _ _ _ _ _ us hl => match us, hl with | [_], _ => rfl
  obtain ⟨fd_l_matrix, E_l_matrix⟩ := c.def_ 21 (d := D_l_matrix) rfl
  have F_l_matrix : Fun K "_law_matrix" "_law_matrix" s_l_matrix (He.ga K "_law_matrix") fd_l_matrix := fun_of E_l_matrix
  have b_l_matrix := F_l_matrix.binds (ps := ["_law_knots_here"]) fun _ _ _ _ _ _ us hl => match us, hl with | [_], _ => rfl
  obtain ⟨fd_l_does_end, E_l_does_end⟩ := c.def_ 22 (d := D_l_does_end) rfl
  have F_l_does_end : Fun K "_law_does_end" "_law_does_end" s_l_does_end (He.ga K "_law_does_end") fd_l_does_end := fun_of E_l_does_end
  have b_l_does_end := F_l_does_end.binds (ps := ["_law_knots_here"]) fun _ _ _ _ _ _ us hl => match us, hl with | [_], _ => rfl
  obtain ⟨fd_l_rounds_for, E_l_rounds_for⟩ := c.def_ 23 (d := D_l_rounds_for) rfl
  have F_l_rounds_for : Fun K "_law_rounds_for" "_law_rounds_for" s_l_rounds_for (He.ga K "_law_rounds_for") fd_l_rounds_for := fun_of E_l_rounds_for
  have b_l_rounds_for := F_l_rounds_for.binds (ps := ["_law_knots_here", "_law_standing", "_law_waiting", "_law_most"]) fun _ _ _ _ _ _ us hl => match us, hl with | [_, _, _, _], _ => rfl
  obtain ⟨fd_l_is_quick, E_l_is_quick⟩ := c.def_ 24 (d := D_l_is_quick) rfl
  have F_l_is_quick : Fun K "_law_is_quick" "_law_is_quick" s_l_is_quick (He.ga K "_law_is_quick") fd_l_is_quick := fun_of E_l_is_quick
  have b_l_is_quick := F_l_is_quick.binds (ps := ["_law_knots_here"]) fun _ _ _ _ _ _ us hl => match us, hl with | [_], _ => rfl
  obtain ⟨fd_l_asked, E_l_asked⟩ := c.def_ 25 (d := D_l_asked) rfl
  have F_l_asked : Fun K "_law_asked" "_law_asked" s_l_asked (He.ga K "_law_asked") fd_l_asked := fun_of E_l_asked
  have b_l_asked := F_l_asked.binds (ps := ["_law_number", "_law_net", "_law_balls", "_law_standing", "_law_order"]) fun _ _ _ _ _ _ us hl => match us, hl with | [_, _, _, _, _], _ => rfl
  obtain ⟨fd_l_refused, E_l_refused⟩ := c.def_ 26 (d := D_l_refused) rfl
  have F_l_refused : Fun K "_law_refused" "_law_refused" s_l_refused (He.ga K "_law_refused") fd_l_refused := fun_of E_l_refused
  have b_l_refused := F_l_refused.binds (ps := ["_law_script", "_law_net", "_law_size"]) fun _ _ _ _ _ _ us hl => match us, hl with | [_, _, _], _ => rfl
  obtain ⟨fd_law, E_law⟩ := c.def_ 27 (d := D_law) rfl
  have F_law : Fun K "law" "law" s_law (He.ga K "law") fd_law := fun_of E_law
  have b_law := F_law.binds (ps := ["_law_script"]) fun _ _ _ _ _ _ us hl => match us, hl with | [_], _ => rfl
  obtain ⟨fd_Net_init, E_Net_init⟩ := c.def_ 28 (d := D_Net_init) rfl
  have F_Net_init : Fun K "__init__" "Net.__init__" s_Net_init (He.ma K (He.ga K "Net") "__init__") fd_Net_init := fun_of E_Net_init
  have b_Net_init := F_Net_init.binds (ps := ["self", "knots", "inlets", "outlets"]) fun _ _ _ _ _ _ us hl => match us, hl with | [_, _, _, _], _ => rfl
  obtain ⟨fd_Net_front, E_Net_front⟩ := c.def_ 29 (d := D_Net_front) rfl
  have F_Net_front : Fun K "front" "Net.front" s_Net_front (He.ma K (He.ga K "Net") "front") fd_Net_front := fun_of E_Net_front
  have b_Net_front := F_Net_front.binds (ps := ["self", "name"]) fun _ _ _ _ _ _ us hl => match us, hl with | [_, _], _ => rfl
  obtain ⟨fd_Net_period, E_Net_period⟩ := c.def_ 30 (d := D_Net_period) rfl
  have F_Net_period : Fun K "period" "Net.period" s_Net_period (He.ma K (He.ga K "Net") "period") fd_Net_period := fun_of E_Net_period
  have b_Net_period := F_Net_period.binds (ps := ["self", "name"]) fun _ _ _ _ _ _ us hl => match us, hl with | [_, _], _ => rfl
  obtain ⟨fd_Net_place_behind, E_Net_place_behind⟩ := c.def_ 31 (d := D_Net_place_behind) rfl
  have F_Net_place_behind : Fun K "place_behind" "Net.place_behind" s_Net_place_behind (He.ma K (He.ga K "Net") "place_behind") fd_Net_place_behind := fun_of E_Net_place_behind
  have b_Net_place_behind := F_Net_place_behind.binds (ps := ["self", "name", "place", "many"]) fun _ _ _ _ _ _ us hl => match us, hl with | [_, _, _, _], _ => rfl
  obtain ⟨fd_Net_start, E_Net_start⟩ := c.def_ 32 (d := D_Net_start) rfl
  have F_Net_start : Fun K "start" "Net.start" s_Net_start (He.ma K (He.ga K "Net") "start") fd_Net_start := fun_of E_Net_start
  have b_Net_start := F_Net_start.binds (ps := ["self"]) fun _ _ _ _ _ _ us hl => match us, hl with | [_], _ => rfl
  obtain ⟨fd_Net_turned, E_Net_turned⟩ := c.def_ 33 (d := D_Net_turned) rfl
  have F_Net_turned : Fun K "turned" "Net.turned" s_Net_turned (He.ma K (He.ga K "Net") "turned") fd_Net_turned := fun_of E_Net_turned
  have b_Net_turned := F_Net_turned.binds (ps := ["self", "name"]) fun _ _ _ _ _ _ us hl => match us, hl with | [_, _], _ => rfl
  obtain ⟨fd_Net_dropped, E_Net_dropped⟩ := c.def_ 34 (d := D_Net_dropped) rfl
  have F_Net_dropped : Fun K "dropped" "Net.dropped" s_Net_dropped (He.ma K (He.ga K "Net") "dropped") fd_Net_dropped := fun_of E_Net_dropped
  have b_Net_dropped := F_Net_dropped.binds (ps := ["self", "name", "place", "many"]) fun _ _ _ _ _ _ us hl => match us, hl with | [_, _, _, _], _ => rfl
  obtain ⟨fd_Net_check_standing, E_Net_check_standing⟩ := c.def_ 35 (d := D_Net_check_standing) rfl
  have F_Net_check_standing : Fun K "check_standing" "Net.check_standing" s_Net_check_standing (He.ma K (He.ga K "Net") "check_standing") fd_Net_check_standing := fun_of E_Net_check_standing
  have b_Net_check_standing := F_Net_check_standing.binds (ps := ["self", "standing"]) fun _ _ _ _ _ _ us hl => match us, hl with | [_, _], _ => rfl
  obtain ⟨fd_Net_met, E_Net_met⟩ := c.def_ 36 (d := D_Net_met) rfl
  have F_Net_met : Fun K "met" "Net.met" s_Net_met (He.ma K (He.ga K "Net") "met") fd_Net_met := fun_of E_Net_met
  have b_Net_met := F_Net_met.binds (ps := ["self"]) fun _ _ _ _ _ _ us hl => match us, hl with | [_], _ => rfl
  obtain ⟨fd_Board_init, E_Board_init⟩ := c.def_ 37 (d := D_Board_init) rfl
  have F_Board_init : Fun K "__init__" "Board.__init__" s_Board_init (He.ma K (He.ga K "Board") "__init__") fd_Board_init := fun_of E_Board_init
  have b_Board_init := F_Board_init.binds (ps := ["self", "net", "standing", "waiting"]) fun _ _ _ _ _ _ us hl => match us, hl with | [_, _, _, _], _ => rfl
  obtain ⟨fd_Board_take, E_Board_take⟩ := c.def_ 38 (d := D_Board_take) rfl
  have F_Board_take : Fun K "take" "Board.take" s_Board_take (He.ma K (He.ga K "Board") "take") fd_Board_take := fun_of E_Board_take
  have b_Board_take := F_Board_take.binds (ps := ["self", "name", "many"]) fun _ _ _ _ _ _ us hl => match us, hl with | [_, _, _], _ => rfl
  obtain ⟨fd_Board_first_waiting, E_Board_first_waiting⟩ := c.def_ 39 (d := D_Board_first_waiting) rfl
  have F_Board_first_waiting : Fun K "first_waiting" "Board.first_waiting" s_Board_first_waiting (He.ma K (He.ga K "Board") "first_waiting") fd_Board_first_waiting := fun_of E_Board_first_waiting
  have b_Board_first_waiting := F_Board_first_waiting.binds (ps := ["self"]) fun _ _ _ _ _ _ us hl => match us, hl with | [_], _ => rfl
  obtain ⟨fd_Board_follow, E_Board_follow⟩ := c.def_ 40 (d := D_Board_follow) rfl
  have F_Board_follow : Fun K "follow" "Board.follow" s_Board_follow (He.ma K (He.ga K "Board") "follow") fd_Board_follow := fun_of E_Board_follow
  have b_Board_follow := F_Board_follow.binds (ps := ["self", "order"]) fun _ _ _ _ _ _ us hl => match us, hl with | [_, _], _ => rfl
  obtain ⟨fd_Settled_init, E_Settled_init⟩ := c.def_ 41 (d := D_Settled_init) rfl
  have F_Settled_init : Fun K "__init__" "Settled.__init__" s_Settled_init (He.ma K (He.ga K "Settled") "__init__") fd_Settled_init := fun_of E_Settled_init
  have b_Settled_init := F_Settled_init.binds (ps := ["self", "taken", "out", "standing", "order"]) fun _ _ _ _ _ _ us hl => match us, hl with | [_, _, _, _, _], _ => rfl
  obtain ⟨fd_Settled_eq, E_Settled_eq⟩ := c.def_ 42 (d := D_Settled_eq) rfl
  have F_Settled_eq : Fun K "__eq__" "Settled.__eq__" s_Settled_eq (He.ma K (He.ga K "Settled") "__eq__") fd_Settled_eq := fun_of E_Settled_eq
  have b_Settled_eq := F_Settled_eq.binds (ps := ["self", "other"]) fun _ _ _ _ _ _ us hl => match us, hl with | [_, _], _ => rfl
  obtain ⟨fd_Settled_shows, E_Settled_shows⟩ := c.def_ 43 (d := D_Settled_shows) rfl
  have F_Settled_shows : FunA K "shows" "Settled.shows" s_Settled_shows (He.ma K (He.ga K "Settled") "shows") fd_Settled_shows := funA_of (dvs := [.non]) E_Settled_shows
  have b_Settled_shows := FunD.binds1 (dvs := [V.non]) (ps := ["self", "net", "balls", "standing"]) E_Settled_shows 4 1 (by simp) rfl fun _ _ _ _ _ _ _ us its h1 h2 => match us, its, h1, h2 with | [_, _, _, _], [_], _, _ => ⟨_, rfl, rfl⟩
  have bd_Settled_shows := FunD.binds1 (dvs := [V.non]) (ps := ["self", "net", "balls", "standing"]) E_Settled_shows 3 0 (by simp) rfl fun _ _ _ _ _ _ _ us its h1 h2 => match us, its, h1, h2 with | [_, _, _], [_], _, _ => ⟨_, rfl, rfl⟩
  obtain ⟨er, eer⟩ : ∃ er : Errs, er = ⟨He.ga K "BadNet", He.ga K "BadBalls", He.ga K "BadStanding", He.ga K "BadOrder"⟩ := ⟨_, rfl⟩
  have XBadNet : SX.SupTxt PySem.Challenge.rw_ballchutes_k18_whole_settled_things.prog K mg "BadNet" "name" "not a net" er.nt (He.ma K (He.ga K "BadNet") "__init__") := by rw [eer]; exact XBadNet
  have XBadOrder : SX.SupTxt PySem.Challenge.rw_ballchutes_k18_whole_settled_things.prog K mg "BadOrder" "place" "not such an order" er.bo (He.ma K (He.ga K "BadOrder") "__init__") := by rw [eer]; exact XBadOrder
  have XBadBalls : OwnTxt K mg "BadBalls" er.bb := by rw [eer]; exact XBadBalls
  have XBadStanding : OwnTxt K mg "BadStanding" er.bs := by rw [eer]; exact XBadStanding
  have XFname : XfC K er.nt := by rw [eer]; exact XFname
  have XFplace : XfC K er.bo := by rw [eer]; exact XFplace
  have teN : PySem.W.exmOne K (.ref er.nt) (.ref er.nt) = some true := by rw [eer]; exact teN
  have teO : PySem.W.exmOne K (.ref er.bo) (.ref er.bo) = some true := by rw [eer]; exact teO
  have teB : PySem.W.exmOne K (.ref er.bb) (.ref er.bb) = some true := by rw [eer]; exact teB
  have teS : PySem.W.exmOne K (.ref er.bs) (.ref er.bs) = some true := by rw [eer]; exact teS
  have hNS : ∀ E, NoStop K (OnlyX er E) := by
    rintro E cls d H ⟨_, rfl | rfl | rfl⟩
    · rw [eer]; exact stN
    · rw [eer]; exact stB
    · rw [eer]; exact stS
  clear eer
  have bA := FunD.bindsA (ps := ["_law_script"]) E_law fun _ _ _ _ _ _ us hl => match us, hl with | [_], _ => rfl
  refine ⟨fd_law, fun s v => bA s [v] rfl, fun base _ _ => ?_⟩
  have O_is_number := ok_is_number (P := PySem.Challenge.rw_ballchutes_k18_whole_settled_things.prog) (w := w) (base := base) F_is_number T
  have G_is_number := gf O_is_number (He.glo_ok X G (c.fact 1 (f := .glo "is_number") rfl)) (He.keep_ok (c.fact 95 (f := .keep "is_number") rfl)) ⟨_, .nil, b_is_number⟩
  have O_count := ok_count (P := PySem.Challenge.rw_ballchutes_k18_whole_settled_things.prog) (w := w) (base := base) F_count T
  have G_count := gf O_count (He.glo_ok X G (c.fact 6 (f := .glo "count") rfl)) (He.keep_ok (c.fact 100 (f := .keep "count") rfl)) ⟨_, .nil, b_count⟩
  have O_front := ok_front (P := PySem.Challenge.rw_ballchutes_k18_whole_settled_things.prog) (w := w) (base := base) F_Net_front T
  have G_front := gm O_front (He.cls_ok (c.fact 56 (f := .cls "Net") rfl)) (He.meth_ok (c.fact 75 (f := .meth "Net" "front") rfl)) ⟨_, .nil, b_Net_front⟩
  have O_period := ok_period (P := PySem.Challenge.rw_ballchutes_k18_whole_settled_things.prog) (w := w) (base := base) F_Net_period T
  have G_period := gm O_period (He.cls_ok (c.fact 56 (f := .cls "Net") rfl)) (He.meth_ok (c.fact 76 (f := .meth "Net" "period") rfl)) ⟨_, .nil, b_Net_period⟩
  have O_behind := ok_behind (P := PySem.Challenge.rw_ballchutes_k18_whole_settled_things.prog) (w := w) (base := base) F_Net_place_behind T G_front G_period
  have G_behind := gm O_behind (He.cls_ok (c.fact 56 (f := .cls "Net") rfl)) (He.meth_ok (c.fact 77 (f := .meth "Net" "place_behind") rfl)) ⟨_, .nil, b_Net_place_behind⟩
  have O_start := ok_start (P := PySem.Challenge.rw_ballchutes_k18_whole_settled_things.prog) (w := w) (base := base) F_Net_start T
  have G_start := gm O_start (He.cls_ok (c.fact 56 (f := .cls "Net") rfl)) (He.meth_ok (c.fact 78 (f := .meth "Net" "start") rfl)) ⟨_, .nil, b_Net_start⟩
  have O_turned := ok_turned (P := PySem.Challenge.rw_ballchutes_k18_whole_settled_things.prog) (w := w) (base := base) F_Net_turned T
  have G_turned := gm O_turned (He.cls_ok (c.fact 56 (f := .cls "Net") rfl)) (He.meth_ok (c.fact 79 (f := .meth "Net" "turned") rfl)) ⟨_, .nil, b_Net_turned⟩
  have O_dropped := ok_dropped (P := PySem.Challenge.rw_ballchutes_k18_whole_settled_things.prog) (w := w) (base := base) F_Net_dropped T G_count
  have G_dropped := gm O_dropped (He.cls_ok (c.fact 56 (f := .cls "Net") rfl)) (He.meth_ok (c.fact 80 (f := .meth "Net" "dropped") rfl)) ⟨_, .nil, b_Net_dropped⟩
  have O_standing := ok_standing (P := PySem.Challenge.rw_ballchutes_k18_whole_settled_things.prog) (w := w) (base := base) F_Net_check_standing T XBadStanding G_front G_period G_is_number
  have G_standing := gm O_standing (He.cls_ok (c.fact 56 (f := .cls "Net") rfl)) (He.meth_ok (c.fact 81 (f := .meth "Net" "check_standing") rfl)) ⟨_, .nil, b_Net_check_standing⟩
  have O_check_net := ok_check_net (P := PySem.Challenge.rw_ballchutes_k18_whole_settled_things.prog) (w := w) (base := base) F_check_net T XBadNet noNet
  have G_check_net := gf O_check_net (He.glo_ok X G (c.fact 7 (f := .glo "check_net") rfl)) (He.keep_ok (c.fact 101 (f := .keep "check_net") rfl)) ⟨_, .nil, b_check_net⟩
  have O_check_balls := ok_balls (P := PySem.Challenge.rw_ballchutes_k18_whole_settled_things.prog) (w := w) (base := base) F_check_balls T XBadBalls G_is_number
  have G_check_balls := gf O_check_balls (He.glo_ok X G (c.fact 11 (f := .glo "check_balls") rfl)) (He.keep_ok (c.fact 105 (f := .keep "check_balls") rfl)) ⟨_, .nil, b_check_balls⟩
  have O_Board := ok_board (P := PySem.Challenge.rw_ballchutes_k18_whole_settled_things.prog) (w := w) (base := base) F_Board_init T
  have G_Board := gk O_Board (He.mkr_ok (c.fact 59 (f := .mkr "Board") rfl)) (He.glo_ok X G (c.fact 29 (f := .glo "Board") rfl)) ⟨_, .nil, b_Board_init⟩
  have O_take := ok_take (P := PySem.Challenge.rw_ballchutes_k18_whole_settled_things.prog) (w := w) (base := base) F_Board_take T G_dropped G_behind
  have G_take := gm O_take (He.cls_ok (c.fact 58 (f := .cls "Board") rfl)) (He.meth_ok (c.fact 83 (f := .meth "Board" "take") rfl)) ⟨_, .nil, b_Board_take⟩
  have O_first := ok_first (P := PySem.Challenge.rw_ballchutes_k18_whole_settled_things.prog) (w := w) (base := base) F_Board_first_waiting T
  have G_first := gm O_first (He.cls_ok (c.fact 58 (f := .cls "Board") rfl)) (He.meth_ok (c.fact 84 (f := .meth "Board" "first_waiting") rfl)) ⟨_, .nil, b_Board_first_waiting⟩
  have O_follow := ok_follow (P := PySem.Challenge.rw_ballchutes_k18_whole_settled_things.prog) (w := w) (base := base) F_Board_follow T XBadOrder G_take G_is_number
  have G_follow := gm O_follow (He.cls_ok (c.fact 58 (f := .cls "Board") rfl)) (He.meth_ok (c.fact 85 (f := .meth "Board" "follow") rfl)) ⟨_, .nil, b_Board_follow⟩
  have O_Settled := ok_settled (P := PySem.Challenge.rw_ballchutes_k18_whole_settled_things.prog) (w := w) (base := base) F_Settled_init T
  have G_Settled := gk O_Settled (He.mkr_ok (c.fact 61 (f := .mkr "Settled") rfl)) (He.glo_ok X G (c.fact 30 (f := .glo "Settled") rfl)) ⟨_, .nil, b_Settled_init⟩
  have O_eq := ok_setEq (P := PySem.Challenge.rw_ballchutes_k18_whole_settled_things.prog) (w := w) (base := base) F_Settled_eq T noSet
  have G_eq := gm O_eq (He.cls_ok (c.fact 60 (f := .cls "Settled") rfl)) (He.meth_ok (c.fact 86 (f := .meth "Settled" "__eq__") rfl)) ⟨_, .nil, b_Settled_eq⟩
  have O_begun := ok_begun (P := PySem.Challenge.rw_ballchutes_k18_whole_settled_things.prog) (w := w) (base := base) (er := er) F_begun T G_check_net G_check_balls G_standing G_start G_Board
  have G_begun := gf O_begun (He.glo_ok X G (c.fact 12 (f := .glo "begun") rfl)) (He.keep_ok (c.fact 106 (f := .keep "begun") rfl)) ⟨_, .nil, b_begun⟩
  have O_shows := ok_shows (P := PySem.Challenge.rw_ballchutes_k18_whole_settled_things.prog) (w := w) (base := base) (er := er) F_Settled_shows T XBadOrder teO G_begun G_follow G_first
  have G_shows := gm O_shows (He.cls_ok (c.fact 60 (f := .cls "Settled") rfl)) (He.meth_ok (c.fact 87 (f := .meth "Settled" "shows") rfl)) bd_Settled_shows
  have O_lattice := ok_lattice (P := PySem.Challenge.rw_ballchutes_k18_whole_settled_things.prog) (w := w) (base := base) F_lattice T G_period G_turned
  have G_lattice := gf O_lattice (He.glo_ok X G (c.fact 8 (f := .glo "lattice") rfl)) (He.keep_ok (c.fact 102 (f := .keep "lattice") rfl)) ⟨_, .nil, b_lattice⟩
  have O_minors_of := ok_minors (P := PySem.Challenge.rw_ballchutes_k18_whole_settled_things.prog) (w := w) (base := base) F_minors_of T
  have G_minors_of := gf O_minors_of (He.glo_ok X G (c.fact 0 (f := .glo "minors_of") rfl)) (He.keep_ok (c.fact 94 (f := .keep "minors_of") rfl)) ⟨_, .nil, b_minors_of⟩
  have O_ends := ok_ends (P := PySem.Challenge.rw_ballchutes_k18_whole_settled_things.prog) (w := w) (base := base) (er := er) F_ends T G_check_net G_lattice G_minors_of
  have G_ends := gf O_ends (He.glo_ok X G (c.fact 9 (f := .glo "ends") rfl)) (He.keep_ok (c.fact 103 (f := .keep "ends") rfl)) ⟨_, .nil, b_ends⟩
  have O_settle := ok_settle (P := PySem.Challenge.rw_ballchutes_k18_whole_settled_things.prog) (w := w) (base := base) (er := er) F_settle T G_check_net G_ends G_begun G_first G_take G_Settled
  have G_settle := gf O_settle (He.glo_ok X G (c.fact 13 (f := .glo "settle") rfl)) (He.keep_ok (c.fact 107 (f := .keep "settle") rfl)) b_settle
  have G_settle_d := gf O_settle (He.glo_ok X G (c.fact 13 (f := .glo "settle") rfl)) (He.keep_ok (c.fact 107 (f := .keep "settle") rfl)) bd_settle
  have O_played := ok_played (P := PySem.Challenge.rw_ballchutes_k18_whole_settled_things.prog) (w := w) (base := base) (er := er) F_played T G_begun G_follow
  have G_played := gf O_played (He.glo_ok X G (c.fact 14 (f := .glo "played") rfl)) (He.keep_ok (c.fact 108 (f := .keep "played") rfl)) b_played
  have G_played_d := gf O_played (He.glo_ok X G (c.fact 14 (f := .glo "played") rfl)) (He.keep_ok (c.fact 108 (f := .keep "played") rfl)) bd_played
  have O_judge_ends := ok_judge (P := PySem.Challenge.rw_ballchutes_k18_whole_settled_things.prog) (w := w) (base := base) (er := er) F_judge_ends G_check_net
  have G_judge_ends := gf O_judge_ends (He.glo_ok X G (c.fact 10 (f := .glo "judge_ends") rfl)) (He.keep_ok (c.fact 104 (f := .keep "judge_ends") rfl)) ⟨_, .nil, b_judge_ends⟩
  have O_is_name := ok_is_name (P := PySem.Challenge.rw_ballchutes_k18_whole_settled_things.prog) (w := w) (base := base) F_is_name T
  have G_is_name := gf O_is_name (He.glo_ok X G (c.fact 2 (f := .glo "is_name") rfl)) (He.keep_ok (c.fact 96 (f := .keep "is_name") rfl)) ⟨_, .nil, b_is_name⟩
  have O_is_row := ok_is_row (P := PySem.Challenge.rw_ballchutes_k18_whole_settled_things.prog) (w := w) (base := base) F_is_row T
  have G_is_row := gf O_is_row (He.glo_ok X G (c.fact 3 (f := .glo "is_row") rfl)) (He.keep_ok (c.fact 97 (f := .keep "is_row") rfl)) ⟨_, .nil, b_is_row⟩
  have O_is_knot := ok_is_knot (P := PySem.Challenge.rw_ballchutes_k18_whole_settled_things.prog) (w := w) (base := base) F_is_knot T G_is_row
  have G_is_knot := gf O_is_knot (He.glo_ok X G (c.fact 4 (f := .glo "is_knot") rfl)) (He.keep_ok (c.fact 98 (f := .keep "is_knot") rfl)) ⟨_, .nil, b_is_knot⟩
  have O_first_wrong := ok_wrong (P := PySem.Challenge.rw_ballchutes_k18_whole_settled_things.prog) (w := w) (base := base) F_first_wrong T G_is_name
  have G_first_wrong := gf O_first_wrong (He.glo_ok X G (c.fact 5 (f := .glo "first_wrong") rfl)) (He.keep_ok (c.fact 99 (f := .keep "first_wrong") rfl)) ⟨_, .nil, b_first_wrong⟩
  have O_met := ok_met (P := PySem.Challenge.rw_ballchutes_k18_whole_settled_things.prog) (w := w) (base := base) F_Net_met T
  have G_met := gm O_met (He.cls_ok (c.fact 56 (f := .cls "Net") rfl)) (He.meth_ok (c.fact 82 (f := .meth "Net" "met") rfl)) ⟨_, .nil, b_Net_met⟩
  have O_Net := ok_net (P := PySem.Challenge.rw_ballchutes_k18_whole_settled_things.prog) (w := w) (base := base) F_Net_init T G_first_wrong G_is_knot G_met
  have G_Net := gk O_Net (He.mkr_ok (c.fact 57 (f := .mkr "Net") rfl)) (He.glo_ok X G (c.fact 28 (f := .glo "Net") rfl)) ⟨_, .nil, b_Net_init⟩
  have O_l_draw := ok_draw (P := PySem.Challenge.rw_ballchutes_k18_whole_settled_things.prog) (w := w) (base := base) F_l_draw T
  have G_l_draw := gf O_l_draw (He.glo_ok X G (c.fact 16 (f := .glo "_law_draw") rfl)) (He.keep_ok (c.fact 110 (f := .keep "_law_draw") rfl)) ⟨_, .nil, b_l_draw⟩
  have O_l_knots := ok_knots (P := PySem.Challenge.rw_ballchutes_k18_whole_settled_things.prog) (w := w) (base := base) F_l_knots T G_l_draw
  have G_l_knots := gf O_l_knots (He.glo_ok X G (c.fact 17 (f := .glo "_law_knots") rfl)) (He.keep_ok (c.fact 111 (f := .keep "_law_knots") rfl)) ⟨_, .nil, b_l_knots⟩
  have O_l_inlets := ok_inlets (P := PySem.Challenge.rw_ballchutes_k18_whole_settled_things.prog) (w := w) (base := base) F_l_inlets T G_l_draw
  have G_l_inlets := gf O_l_inlets (He.glo_ok X G (c.fact 18 (f := .glo "_law_inlets") rfl)) (He.keep_ok (c.fact 112 (f := .keep "_law_inlets") rfl)) ⟨_, .nil, b_l_inlets⟩
  have O_l_falls := ok_falls (P := PySem.Challenge.rw_ballchutes_k18_whole_settled_things.prog) (w := w) (base := base) F_l_falls T
  have G_l_falls := gf O_l_falls (He.glo_ok X G (c.fact 19 (f := .glo "_law_falls") rfl)) (He.keep_ok (c.fact 113 (f := .keep "_law_falls") rfl)) ⟨_, .nil, b_l_falls⟩
  have O_l_matrix := ok_matrix (P := PySem.Challenge.rw_ballchutes_k18_whole_settled_things.prog) (w := w) (base := base) F_l_matrix T G_l_falls
  have G_l_matrix := gf O_l_matrix (He.glo_ok X G (c.fact 21 (f := .glo "_law_matrix") rfl)) (He.keep_ok (c.fact 115 (f := .keep "_law_matrix") rfl)) ⟨_, .nil, b_l_matrix⟩
  have G_l_det := gf (ok_detA (ok_det (P := PySem.Challenge.rw_ballchutes_k18_whole_settled_things.prog) (w := w) (base := base) F_l_det T (He.glo_ok X G (c.fact 20 (f := .glo "_law_det") rfl)) b_l_det)) (He.glo_ok X G (c.fact 20 (f := .glo "_law_det") rfl)) (He.keep_ok (c.fact 114 (f := .keep "_law_det") rfl)) ⟨_, .nil, b_l_det⟩
  have O_l_does_end := ok_does_end (P := PySem.Challenge.rw_ballchutes_k18_whole_settled_things.prog) (w := w) (base := base) F_l_does_end T G_l_matrix G_l_det
  have G_l_does_end := gf O_l_does_end (He.glo_ok X G (c.fact 22 (f := .glo "_law_does_end") rfl)) (He.keep_ok (c.fact 116 (f := .keep "_law_does_end") rfl)) ⟨_, .nil, b_l_does_end⟩
  have O_l_rounds_for := ok_rounds (P := PySem.Challenge.rw_ballchutes_k18_whole_settled_things.prog) (w := w) (base := base) F_l_rounds_for T
  have G_l_rounds_for := gf O_l_rounds_for (He.glo_ok X G (c.fact 23 (f := .glo "_law_rounds_for") rfl)) (He.keep_ok (c.fact 117 (f := .keep "_law_rounds_for") rfl)) ⟨_, .nil, b_l_rounds_for⟩
  have O_l_is_quick := ok_quick (P := PySem.Challenge.rw_ballchutes_k18_whole_settled_things.prog) (w := w) (base := base) F_l_is_quick T G_l_rounds_for
  have G_l_is_quick := gf O_l_is_quick (He.glo_ok X G (c.fact 24 (f := .glo "_law_is_quick") rfl)) (He.keep_ok (c.fact 118 (f := .keep "_law_is_quick") rfl)) ⟨_, .nil, b_l_is_quick⟩
  obtain ⟨dsk, vk, bk⟩ := b_knots_in_turn
  cases vk
  have GK := ok_kit (P := PySem.Challenge.rw_ballchutes_k18_whole_settled_things.prog) (w := w) (base := base) (er := er) F_knots_in_turn T G_check_net G_ends G_begun
  have G_l_asked := gf (ok_asked (P := PySem.Challenge.rw_ballchutes_k18_whole_settled_things.prog) (w := w) (base := base) (er := er) F_l_asked T G_settle G_played GK (He.glo_ok X G (c.fact 15 (f := .glo "knots_in_turn") rfl)) (He.keep_ok (c.fact 109 (f := .keep "knots_in_turn") rfl)) bk hNS) (He.glo_ok X G (c.fact 25 (f := .glo "_law_asked") rfl)) (He.keep_ok (c.fact 119 (f := .keep "_law_asked") rfl)) ⟨_, .nil, b_l_asked⟩
  have G_l_refused := gf (ok_refused (P := PySem.Challenge.rw_ballchutes_k18_whole_settled_things.prog) (w := w) (base := base) (er := er) F_l_refused T G_l_draw G_l_asked G_ends G_judge_ends G_played_d XBadNet XBadOrder XBadBalls XBadStanding XFname XFplace teN teO teB teS) (He.glo_ok X G (c.fact 26 (f := .glo "_law_refused") rfl)) (He.keep_ok (c.fact 120 (f := .keep "_law_refused") rfl)) ⟨_, .nil, b_l_refused⟩
  exact ok_law F_law T G_l_draw G_l_knots G_l_inlets G_Net G_l_does_end G_l_is_quick G_l_refused G_settle_d G_played_d G_Settled G_shows G_eq nfS hneS hobS
end Bal
set_option autoImplicit true
set_option Elab.async false
set_option linter.all false
set_option maxRecDepth 100000
set_option maxHeartbeats 0
open PySem PySem.W PySem.Calls PyProof.Rows
theorem PySem.Challenge.cw_ballchutes_k18_whole_settled_things_holds : PySem.Challenge.rw_ballchutes_k18_whole_settled_things.Holds := by
  w_on; o_law
  refine HandSHeadRun.head_any (r := Bal.lawR) (q := view Bal.lawR.prog [56]) (H := Bal.hookB) (ob := Bal.obT) (M := 30000) (loose := Bal.loose) (d := HandSHeadRun.topDef Bal.lawR.prog 56) (kwd := []) Bal.obT_eq
    (by kernel_rfl) (fun s => by kernel_rfl) Bal.top_run (by kernel_rfl) (by kernel_rfl) (by kernel_rfl) (by rfl) (by first | assumption | decide +kernel) (by decide +kernel) ⟨rfl, rfl, rfl, rfl, rfl, by decide +kernel⟩ ?hw ?hc
  case hw => w_witness2
  case hc =>
    refine L2.walk_ofE (l := PySem.Challenge.rw_ballchutes_k18_whole_settled_things) (n := 63) (k := 10) (x := "_law_script") (CX := L2.CX0) rfl (by decide) (by kernel_rfl) ⟨rfl, by decide, by decide⟩ ?F (fun _ _ _ _ z => z)
    intro w mg fa h Y G hmg0
    obtain ⟨K, KX, c⟩ := Y
    have hmg : mg ("law" : PySem.Str) = some (.ref fa) := by
      have e : (HandSHeadRun.topDef Bal.lawR.prog 56).name = ("law" : PySem.Str) := by kernel_rfl
      rw [← e]
      exact hmg0
    obtain ⟨fd, hb, hF⟩ := Bal.law_facts (w := w) KX G hmg c
    exact ⟨K, fd, Bal.spLaw K, KX, hb, fun H a ns hl _ hS => ⟨a, ns, rfl, hS, Nat.le_trans hl (by decide), fun _ => rfl⟩, hF⟩
