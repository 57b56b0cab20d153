import PyProof.Rows.All
import Wide.All
import OpenK.AllK
import Wide.FinOn
import PyProof.EqAt
import PyProof.EqKinds
import PyProof.TupleCall
import PyProof.LongRange
import KE.IntBitsLaws
import HandS.ForMost
import HandS.IsInst
import HandS.EndBits
import HandS.TupLe
import HandS.Style
import HandS.SortInts
import HandS.Conv
import HandS.Codes
import HandS.TryOnly
import HandS.TupLen
import HandS.Flow
import HandS.More
import HandS.SetFor
import HandS.WideBits
import KE.KDictWalk
import HandS.Strs
import KE.SortData
import HandS.HotCalls
import HandS.ExcIs
import HandS.ExcOwn
import HandS.CallLocal
import HandS.Lambda
import HandS.EndTab
import HandS.Deep
import PySem.Challenge.RW_pairthrees_k09_handed_stays
set_option Elab.async false
set_option linter.all false
set_option maxRecDepth 100000
set_option maxHeartbeats 4000000
namespace G66
/-! the made plan, as plain functions -/
def wideOf (p : Int) : Int := p / 3
def met (w a b : Int) : Int :=
  if w % 2 = 1 then (a + b) % w * (w + 1) / 2 % w else (a + b) % w / 2 + (a + b) % w % 2 * (w / 2)
def meetsBoth (w q : Int) : Int := if w % 2 = 1 then 2 * q else if 2 * q < w then 2 * q else 2 * q - w + 1
def meets (w a q : Int) : Int := (meetsBoth w q - a) % w
/-- two people in different rows, the second in the next row -/
def crossOf (p w row place far there : Int) : Int :=
  if meets w place there ≠ place then row * w + meets w place there
  else if place = there then (row + 2) % 3 * w + place else p - 1
def thirdLt (p a b : Int) : Int :=
  let w := wideOf p
  let row := a / w
  let place := a % w
  if p % 3 = 1 ∧ b = p - 1 then
    if 2 * place ≥ w then (row + 1) % 3 * w + place - w / 2 else (row + 2) % 3 * w + place + w / 2
  else if row = b / w then (row + 1) % 3 * w + met w place (b % w)
  else if b / w ≠ (row + 1) % 3 then crossOf p w (b / w) (b % w) row place else crossOf p w row place (b / w) (b % w)
def thirdOf (p a b : Int) : Int := thirdLt p (min a b) (max a b)

/-- a count of people that can -/
def Can (p : Int) : Prop := 1 ≤ p ∧ (p % 6 = 1 ∨ p % 6 = 3)

/-! rows and places -/
theorem dm0 {w q : Int} (h0 : 0 ≤ q) (h : q < w) : q / w = 0 ∧ q % w = q := ⟨Int.ediv_eq_zero_of_lt h0 h, Int.emod_eq_of_lt h0 h⟩
theorem dm1 {w q : Int} (h0 : 0 ≤ q) (h : q < w) : (w + q) / w = 1 ∧ (w + q) % w = q := by
  have hw : w ≠ 0 := by omega
  refine ⟨?_, ?_⟩
  · rw [Int.add_ediv_of_dvd_left (Int.dvd_refl w), Int.ediv_self hw, (dm0 h0 h).1]; rfl
  · rw [Int.add_emod_left, (dm0 h0 h).2]
theorem dm2 {w q : Int} (h0 : 0 ≤ q) (h : q < w) : (2 * w + q) / w = 2 ∧ (2 * w + q) % w = q := by
  have hw : w ≠ 0 := by omega
  have e : 2 * w + q = w + (w + q) := by omega
  refine ⟨?_, ?_⟩
  · rw [e, Int.add_ediv_of_dvd_left (Int.dvd_refl w), Int.ediv_self hw, (dm1 h0 h).1]; rfl
  · rw [e, Int.add_emod_left, (dm1 h0 h).2]
/-- every place below three rows -/
theorem rows {w x : Int} (h0 : 0 ≤ x) (h : x < 3 * w) : ∃ r q : Int, (r = 0 ∨ r = 1 ∨ r = 2) ∧ 0 ≤ q ∧ q < w ∧ x = r * w + q := by
  by_cases h1 : x < w
  · exact ⟨0, x, .inl rfl, h0, h1, by omega⟩
  · by_cases h2 : x < 2 * w
    · exact ⟨1, x - w, .inr (.inl rfl), by omega, by omega, by omega⟩
    · exact ⟨2, x - 2 * w, .inr (.inr rfl), by omega, by omega, by omega⟩
theorem dm {w r q : Int} (hr : r = 0 ∨ r = 1 ∨ r = 2) (h0 : 0 ≤ q) (h : q < w) : (r * w + q) / w = r ∧ (r * w + q) % w = q := by
  rcases hr with rfl | rfl | rfl
  · simpa using dm0 h0 h
  · simpa using dm1 h0 h
  · exact dm2 h0 h
/-- a sum of two places by the row -/
theorem add_mod {w a b : Int} (ha : 0 ≤ a) (hb : 0 ≤ b) (ha' : a < w) (hb' : b < w) : (a + b) % w = if a + b < w then a + b else a + b - w := by
  split
  · exact Int.emod_eq_of_lt (by omega) (by assumption)
  · have e : a + b = w + (a + b - w) := by omega
    rw [e, Int.add_emod_left]
    rw [Int.emod_eq_of_lt (by omega) (by omega)]
    omega
/-- what met is, without products -/
def MetIs (w a b m : Int) : Prop := 0 ≤ m ∧ m < w ∧
  ((w % 2 = 1 ∧ (2 * m = a + b ∨ 2 * m = a + b - w ∨ 2 * m = a + b + w)) ∨
   (w % 2 = 0 ∧ ((2 * m = a + b ∧ a + b < w) ∨ (2 * m = a + b - w ∧ w ≤ a + b) ∨ (2 * m = a + b - 1 + w ∧ a + b < w) ∨ (2 * m = a + b - w - 1 + w ∧ w ≤ a + b))))
theorem half_odd {w b : Int} (hw : w % 2 = 1) (h0 : 0 ≤ b) (h : b < w) : b * (w + 1) / 2 % w = if b % 2 = 0 then b / 2 else (b + w) / 2 := by
  obtain ⟨k, rfl⟩ : ∃ k, w = 2 * k + 1 := ⟨w / 2, by omega⟩
  have e1 : b * (2 * k + 1 + 1) / 2 = b * (k + 1) := by
    rw [show (2 * k + 1 + 1 : Int) = 2 * (k + 1) by omega, ← Int.mul_assoc, Int.mul_comm b 2, Int.mul_assoc]
    exact Int.mul_ediv_cancel_left _ (by decide)
  rw [e1]
  split
  · rename_i hb
    obtain ⟨c, rfl⟩ : ∃ c, b = 2 * c := ⟨b / 2, by omega⟩
    have e2 : 2 * c * (k + 1) = c + (2 * k + 1) * c := by grind
    rw [e2, Int.add_mul_emod_self_left, Int.emod_eq_of_lt (by omega) (by omega)]
    omega
  · rename_i hb
    obtain ⟨c, rfl⟩ : ∃ c, b = 2 * c + 1 := ⟨b / 2, by omega⟩
    have e2 : (2 * c + 1) * (k + 1) = (c + k + 1) + (2 * k + 1) * c := by grind
    rw [e2, Int.add_mul_emod_self_left, Int.emod_eq_of_lt (by omega) (by omega)]
    omega
theorem met_is {w a b : Int} (ha : 0 ≤ a) (hb : 0 ≤ b) (ha' : a < w) (hb' : b < w) : MetIs w a b (met w a b) := by
  unfold met MetIs
  have e := add_mod ha hb ha' hb'
  have hlt : (a + b) % w < w := Int.emod_lt_of_pos _ (by omega)
  have hge : 0 ≤ (a + b) % w := Int.emod_nonneg _ (by omega)
  generalize hs : (a + b) % w = s at *
  split
  · rename_i hw
    rw [half_odd hw hge hlt]
    split at e <;> split <;> omega
  · rename_i hw
    rcases Int.emod_two_eq s with h | h
    · rw [h]; split at e <;> omega
    · rw [h]; split at e <;> omega
theorem MetIs.eq {w a b m m' : Int} (ha : 0 ≤ a) (hb : 0 ≤ b) (ha' : a < w) (hb' : b < w) (h : MetIs w a b m) (h' : MetIs w a b m') : m = m' := by
  unfold MetIs at h h'
  omega
theorem MetIs.symm {w a b m : Int} (h : MetIs w a b m) : MetIs w b a m := by unfold MetIs at *; omega
theorem MetIs.inj {w a b c m : Int} (ha : 0 ≤ a) (hb : 0 ≤ b) (ha' : a < w) (hb' : b < w) (hc : 0 ≤ c) (hc' : c < w) (h : MetIs w a b m) (h' : MetIs w a c m) : b = c := by
  unfold MetIs at h h'
  omega
theorem meets_range {w a q : Int} (hw : 0 < w) : 0 ≤ meets w a q ∧ meets w a q < w := ⟨Int.emod_nonneg _ (by omega), Int.emod_lt_of_pos _ hw⟩
theorem sub_mod2 {w x : Int} (h0 : -w < x) (h : x < 2 * w) : x % w = if x < 0 then x + w else if x < w then x else x - w := by
  split
  · have e : x = (x + w) + w * (-1) := by omega
    rw [e, Int.add_mul_emod_self_left, Int.emod_eq_of_lt (by omega) (by omega)]
    omega
  · split
    · exact Int.emod_eq_of_lt (by omega) (by omega)
    · have e : x = (x - w) + w * 1 := by omega
      rw [e, Int.add_mul_emod_self_left, Int.emod_eq_of_lt (by omega) (by omega)]
      omega
theorem meets_is {w a q : Int} (ha : 0 ≤ a) (hq : 0 ≤ q) (ha' : a < w) (hq' : q < w) : MetIs w a (meets w a q) q := by
  have hb : 0 ≤ meetsBoth w q ∧ meetsBoth w q < 2 * w := by unfold meetsBoth; split <;> (try split) <;> omega
  have e := sub_mod2 (w := w) (x := meetsBoth w q - a) (by omega) (by omega)
  unfold meets
  generalize hm : (meetsBoth w q - a) % w = m at *
  unfold meetsBoth at e
  unfold MetIs
  split at e
  · split at e
    · omega
    · split at e <;> omega
  · split at e
    · split at e
      · omega
      · split at e <;> omega
    · split at e
      · omega
      · split at e <;> omega

theorem thirdOf_comm (p a b : Int) : thirdOf p a b = thirdOf p b a := by unfold thirdOf; rw [Int.min_comm, Int.max_comm]
theorem Can.wide {p : Int} (h : Can p) (h1 : 1 < p) : 0 < wideOf p ∧ ((p % 3 = 1 ∧ wideOf p % 2 = 0 ∧ p = 3 * wideOf p + 1) ∨ (p % 3 = 0 ∧ wideOf p % 2 = 1 ∧ p = 3 * wideOf p)) := by
  unfold Can at h
  unfold wideOf
  omega
abbrev R3 (r : Int) : Prop := r = 0 ∨ r = 1 ∨ r = 2
theorem nx_cases {r : Int} (h : R3 r) : (r = 0 ∧ (r + 1) % 3 = 1) ∨ (r = 1 ∧ (r + 1) % 3 = 2) ∨ (r = 2 ∧ (r + 1) % 3 = 0) := by omega
section
variable {p r i j : Int}
/-- two of one row -/
theorem third_row (h : Can p) (h1 : 1 < p) (hr : R3 r) (hi : 0 ≤ i) (hi' : i < wideOf p) (hj : 0 ≤ j) (hj' : j < wideOf p) (hij : i ≠ j) :
    thirdOf p (r * wideOf p + i) (r * wideOf p + j) = (r + 1) % 3 * wideOf p + met (wideOf p) i j := by
  have key : ∀ i j : Int, 0 ≤ i → i < wideOf p → 0 ≤ j → j < wideOf p → i < j → thirdOf p (r * wideOf p + i) (r * wideOf p + j) = (r + 1) % 3 * wideOf p + met (wideOf p) i j := by
    intro i j hi hi' hj hj' hij
    have d1 := dm (r := r) hr hi hi'
    have d2 := dm (r := r) hr hj hj'
    obtain ⟨hw, hp⟩ := h.wide h1
    unfold thirdOf thirdLt
    rw [Int.min_eq_left (by omega), Int.max_eq_right (by omega)]
    simp only []
    rw [d1.1, d1.2, d2.1, d2.2]
    rw [if_neg (by rintro ⟨ha, hb⟩; rcases hr with rfl | rfl | rfl <;> omega), if_pos rfl]
  rcases Int.lt_or_gt_of_ne hij with hlt | hgt
  · exact key i j hi hi' hj hj' hlt
  · rw [thirdOf_comm, key j i hj hj' hi hi' hgt]
    unfold met
    rw [Int.add_comm j i]
/-- one of a row, one of the next -/
theorem third_cross (h : Can p) (h1 : 1 < p) (hr : R3 r) (hi : 0 ≤ i) (hi' : i < wideOf p) (hj : 0 ≤ j) (hj' : j < wideOf p) :
    thirdOf p (r * wideOf p + i) ((r + 1) % 3 * wideOf p + j) = crossOf p (wideOf p) r i ((r + 1) % 3) j := by
  have hr' : R3 ((r + 1) % 3) := by omega
  have d1 := dm (r := r) hr hi hi'
  have d2 := dm (r := (r + 1) % 3) hr' hj hj'
  obtain ⟨hw, hp⟩ := h.wide h1
  unfold thirdOf thirdLt
  rcases nx_cases hr with ⟨rfl, e⟩ | ⟨rfl, e⟩ | ⟨rfl, e⟩
  · rw [Int.min_eq_left (by omega), Int.max_eq_right (by omega)]
    simp only []
    rw [d1.1, d1.2, d2.1, d2.2]
    rw [if_neg (by rintro ⟨ha, hb⟩; omega), if_neg (by decide), if_neg (by decide)]
  · rw [Int.min_eq_left (by omega), Int.max_eq_right (by omega)]
    simp only []
    rw [d1.1, d1.2, d2.1, d2.2]
    rw [if_neg (by rintro ⟨ha, hb⟩; omega), if_neg (by decide), if_neg (by decide)]
  · rw [Int.min_eq_right (by omega), Int.max_eq_left (by omega)]
    simp only []
    rw [d1.1, d1.2, d2.1, d2.2]
    rw [if_neg (by rintro ⟨ha, hb⟩; omega), if_neg (by decide), if_pos (by decide)]
    try rfl
/-- one of a row, and the last one who stands alone -/
theorem third_alone (h : Can p) (h1 : 1 < p) (h3 : p % 3 = 1) (hr : R3 r) (hi : 0 ≤ i) (hi' : i < wideOf p) :
    thirdOf p (r * wideOf p + i) (p - 1) = if 2 * i ≥ wideOf p then (r + 1) % 3 * wideOf p + i - wideOf p / 2 else (r + 2) % 3 * wideOf p + i + wideOf p / 2 := by
  have d1 := dm (r := r) hr hi hi'
  obtain ⟨hw, hp⟩ := h.wide h1
  have hle : r * wideOf p + i ≤ p - 1 := by rcases hr with rfl | rfl | rfl <;> omega
  unfold thirdOf thirdLt
  rw [Int.min_eq_left hle, Int.max_eq_right hle]
  simp only []
  rw [d1.1, d1.2, if_pos (by simp [h3])]
end
/-- a three of the made plan, its people in a known turn -/
inductive B (p : Int) : Int → Int → Int → Prop
  | pair {r i j m : Int} (hr : R3 r) (hi : 0 ≤ i) (hi' : i < wideOf p) (hj : 0 ≤ j) (hj' : j < wideOf p) (hij : i ≠ j) (hm : MetIs (wideOf p) i j m) : B p (r * wideOf p + i) (r * wideOf p + j) ((r + 1) % 3 * wideOf p + m)
  | straight {r i : Int} (hr : R3 r) (hi : 0 ≤ i) (hi' : i < wideOf p) (h : wideOf p % 2 = 1 ∨ 2 * i < wideOf p) : B p (r * wideOf p + i) ((r + 1) % 3 * wideOf p + i) ((r + 2) % 3 * wideOf p + i)
  | alone {r i : Int} (h : p % 3 = 1) (hr : R3 r) (hi : 0 ≤ i) (hi' : 2 * i < wideOf p) : B p (p - 1) (r * wideOf p + (i + wideOf p / 2)) ((r + 1) % 3 * wideOf p + i)
theorem crossOf_ne {p w r i f j m : Int} (hm : meets w i j = m) (hne : m ≠ i) : crossOf p w r i f j = r * w + m := by
  unfold crossOf; rw [hm, if_pos hne]
theorem crossOf_same {p w r i f : Int} (hm : meets w i i = i) : crossOf p w r i f i = (r + 2) % 3 * w + i := by
  unfold crossOf; rw [hm, if_neg (by simp), if_pos rfl]
theorem crossOf_alone {p w r i f j : Int} (hm : meets w i j = i) (hne : i ≠ j) : crossOf p w r i f j = p - 1 := by
  unfold crossOf; rw [hm, if_neg (by simp), if_neg hne]
theorem B.third {p x y z : Int} (h : Can p) (h1 : 1 < p) (b : B p x y z) : thirdOf p x y = z ∧ thirdOf p x z = y ∧ thirdOf p y z = x := by
  obtain ⟨hw, hp⟩ := h.wide h1
  cases b with
  | @pair r i j m hr hi hi' hj hj' hij hm =>
    have hm0 := hm.1
    have hm1 := hm.2.1
    have q1 : met (wideOf p) i j = m := MetIs.eq hi hj hi' hj' (met_is hi hj hi' hj') hm
    have q2 : meets (wideOf p) i m = j := by
      obtain ⟨a, b⟩ := meets_range (w := wideOf p) (a := i) (q := m) hw
      exact MetIs.inj hi a hi' b hj hj' (meets_is hi hm0 hi' hm1) hm
    have q3 : meets (wideOf p) j m = i := by
      obtain ⟨a, b⟩ := meets_range (w := wideOf p) (a := j) (q := m) hw
      exact MetIs.inj hj a hj' b hi hi' (meets_is hj hm0 hj' hm1) hm.symm
    refine ⟨?_, ?_, ?_⟩
    · rw [third_row h h1 hr hi hi' hj hj' hij, q1]
    · rw [third_cross h h1 hr hi hi' hm0 hm1, crossOf_ne q2 (Ne.symm hij)]
    · rw [third_cross h h1 hr hj hj' hm0 hm1, crossOf_ne q3 hij]
  | @straight r i hr hi hi' hs =>
    have q : meets (wideOf p) i i = i := by
      obtain ⟨a, b⟩ := meets_range (w := wideOf p) (a := i) (q := i) hw
      refine MetIs.inj hi a hi' b hi hi' (meets_is hi hi hi' hi') ?_
      unfold MetIs; omega
    have hr1 : R3 ((r + 1) % 3) := by omega
    have hr2 : R3 ((r + 2) % 3) := by omega
    have e1 : ((r + 1) % 3 + 1) % 3 = (r + 2) % 3 := by omega
    have e2 : ((r + 1) % 3 + 2) % 3 = r := by omega
    have e3 : ((r + 2) % 3 + 1) % 3 = r := by omega
    have e4 : ((r + 2) % 3 + 2) % 3 = (r + 1) % 3 := by omega
    refine ⟨?_, ?_, ?_⟩
    · rw [third_cross h h1 hr hi hi' hi hi', crossOf_same q]
    · have t := third_cross h h1 hr2 hi hi' hi hi'
      rw [e3] at t
      rw [thirdOf_comm, t, crossOf_same q, e4]
    · have t := third_cross h h1 hr1 hi hi' hi hi'
      rw [e1] at t
      rw [t, crossOf_same q, e2]
  | @alone r i h3 hr hi hi' =>
    have hev : wideOf p % 2 = 0 := by omega
    have k0 : 0 ≤ i + wideOf p / 2 := by omega
    have k1 : i + wideOf p / 2 < wideOf p := by omega
    have hr1 : R3 ((r + 1) % 3) := by omega
    have e2 : ((r + 1) % 3 + 2) % 3 = r := by omega
    have q : meets (wideOf p) (i + wideOf p / 2) i = i + wideOf p / 2 := by
      obtain ⟨a, b⟩ := meets_range (w := wideOf p) (a := i + wideOf p / 2) (q := i) hw
      refine MetIs.inj k0 a k1 b k0 k1 (meets_is k0 hi k1 (by omega)) ?_
      unfold MetIs; omega
    refine ⟨?_, ?_, ?_⟩
    · rw [thirdOf_comm, third_alone h h1 h3 hr k0 k1, if_pos (by omega)]; omega
    · rw [thirdOf_comm, third_alone h h1 h3 hr1 hi (by omega), if_neg (by omega), e2]; omega
    · rw [third_cross h h1 hr k0 k1 hi (by omega), crossOf_alone q (by omega)]
/-- three people of the made plan, in any turn -/
def Line (p x y z : Int) : Prop := B p x y z ∨ B p y x z ∨ B p x z y ∨ B p z x y ∨ B p y z x ∨ B p z y x
theorem Line.swap {p x y z : Int} (h : Line p x y z) : Line p y x z := by
  rcases h with h | h | h | h | h | h
  · exact .inr (.inl h)
  · exact .inl h
  · exact .inr (.inr (.inr (.inr (.inl h))))
  · exact .inr (.inr (.inr (.inr (.inr h))))
  · exact .inr (.inr (.inl h))
  · exact .inr (.inr (.inr (.inl h)))
theorem Line.turn {p x y z : Int} (h : Line p x y z) : Line p x z y := by
  rcases h with h | h | h | h | h | h
  · exact .inr (.inr (.inl h))
  · exact .inr (.inr (.inr (.inl h)))
  · exact .inl h
  · exact .inr (.inl h)
  · exact .inr (.inr (.inr (.inr (.inr h))))
  · exact .inr (.inr (.inr (.inr (.inl h))))
theorem Line.third {p x y z : Int} (h : Can p) (h1 : 1 < p) (l : Line p x y z) : thirdOf p x y = z := by
  rcases l with b | b | b | b | b | b
  · exact (b.third h h1).1
  · rw [thirdOf_comm]; exact (b.third h h1).1
  · exact (b.third h h1).2.1
  · exact (b.third h h1).2.2
  · rw [thirdOf_comm]; exact (b.third h h1).2.1
  · rw [thirdOf_comm]; exact (b.third h h1).2.2
theorem B.range {p x y z : Int} (h : Can p) (h1 : 1 < p) (b : B p x y z) : (0 ≤ x ∧ x < p) ∧ (0 ≤ y ∧ y < p) ∧ (0 ≤ z ∧ z < p) ∧ x ≠ y ∧ x ≠ z ∧ y ≠ z := by
  obtain ⟨hw, hp⟩ := h.wide h1
  cases b with
  | @pair r i j m hr hi hi' hj hj' hij hm =>
    have hm0 := hm.1
    have hm1 := hm.2.1
    rcases nx_cases hr with ⟨rfl, e⟩ | ⟨rfl, e⟩ | ⟨rfl, e⟩ <;> rw [e] <;> omega
  | @straight r i hr hi hi' hs =>
    rcases nx_cases hr with ⟨rfl, e⟩ | ⟨rfl, e⟩ | ⟨rfl, e⟩ <;> rw [e] <;> simp <;> omega
  | @alone r i h3 hr hi hi' =>
    rcases nx_cases hr with ⟨rfl, e⟩ | ⟨rfl, e⟩ | ⟨rfl, e⟩ <;> rw [e] <;> omega
theorem Line.range {p x y z : Int} (h : Can p) (h1 : 1 < p) (l : Line p x y z) : (0 ≤ x ∧ x < p) ∧ (0 ≤ y ∧ y < p) ∧ (0 ≤ z ∧ z < p) ∧ x ≠ y ∧ x ≠ z ∧ y ≠ z := by
  rcases l with b | b | b | b | b | b <;> have q := b.range h h1 <;> omega
/-- one of a row and one of the next -/
theorem line_cross {p r i j : Int} (h : Can p) (h1 : 1 < p) (hr : R3 r) (hi : 0 ≤ i) (hi' : i < wideOf p) (hj : 0 ≤ j) (hj' : j < wideOf p) : ∃ z, Line p (r * wideOf p + i) ((r + 1) % 3 * wideOf p + j) z := by
  obtain ⟨hw, hp⟩ := h.wide h1
  obtain ⟨a, b⟩ := meets_range (w := wideOf p) (a := i) (q := j) hw
  have hm := meets_is hi hj hi' hj'
  by_cases hne : i = meets (wideOf p) i j
  · rw [← hne] at hm
    by_cases hij : i = j
    · subst hij
      refine ⟨_, .inl (.straight hr hi hi' ?_)⟩
      unfold MetIs at hm
      omega
    · have hx : wideOf p % 2 = 0 ∧ i = j + wideOf p / 2 ∧ 2 * j < wideOf p := by
        unfold MetIs at hm
        omega
      obtain ⟨x1, x2, x3⟩ := hx
      rw [x2]
      exact ⟨p - 1, .inr (.inr (.inr (.inl (.alone (by omega) hr hj x3))))⟩
  · exact ⟨_, .inr (.inr (.inl (.pair hr hi hi' a b hne hm)))⟩
theorem line_ex {p x y : Int} (h : Can p) (h1 : 1 < p) (hx : 0 ≤ x) (hx' : x < p) (hy : 0 ≤ y) (hy' : y < p) (hxy : x ≠ y) : ∃ z, Line p x y z := by
  obtain ⟨hw, hp⟩ := h.wide h1
  have last : ∀ x : Int, 0 ≤ x → x < 3 * wideOf p → p % 3 = 1 → ∃ z, Line p x (p - 1) z := by
    intro x hx hx' h3
    obtain ⟨r, i, hr, hi, hi', rfl⟩ := rows hx hx'
    by_cases h2 : 2 * i < wideOf p
    · have e : ((r + 2) % 3 + 1) % 3 = r := by omega
      have b := B.alone (p := p) (r := (r + 2) % 3) (i := i) h3 (by omega) hi h2
      rw [e] at b
      exact ⟨_, .inr (.inr (.inr (.inr (.inl b))))⟩
    · have b := B.alone (p := p) (r := r) (i := i - wideOf p / 2) h3 hr (by omega) (by omega)
      rw [show i - wideOf p / 2 + wideOf p / 2 = i by omega] at b
      exact ⟨_, .inr (.inl b)⟩
  by_cases x3 : x < 3 * wideOf p
  · by_cases y3 : y < 3 * wideOf p
    · obtain ⟨r, i, hr, hi, hi', rfl⟩ := rows hx x3
      obtain ⟨s, j, hs, hj, hj', rfl⟩ := rows hy y3
      by_cases hrs : r = s
      · subst hrs
        exact ⟨_, .inl (.pair hr hi hi' hj hj' (fun e => hxy (by rw [e])) (met_is hi hj hi' hj'))⟩
      · by_cases hn : s = (r + 1) % 3
        · subst hn
          exact line_cross h h1 hr hi hi' hj hj'
        · have hn' : r = (s + 1) % 3 := by omega
          subst hn'
          obtain ⟨z, l⟩ := line_cross h h1 hs hj hj' hi hi'
          exact ⟨z, l.swap⟩
    · have e : y = p - 1 := by omega
      subst e
      exact last x hx x3 (by omega)
  · have e : x = p - 1 := by omega
    subst e
    obtain ⟨z, l⟩ := last y hy (by omega) (by omega)
    exact ⟨z, l.swap⟩
/-- what law 1 asks of the third one -/
theorem third_ok {p x y : Int} (h : Can p) (h1 : 1 < p) (hx : 0 ≤ x) (hx' : x < p) (hy : 0 ≤ y) (hy' : y < p) (hxy : x ≠ y) :
    0 ≤ thirdOf p x y ∧ thirdOf p x y < p ∧ thirdOf p x y ≠ x ∧ thirdOf p x y ≠ y ∧ thirdOf p x (thirdOf p x y) = y ∧ thirdOf p (thirdOf p x y) y = x := by
  obtain ⟨z, l⟩ := line_ex h h1 hx hx' hy hy' hxy
  have e := l.third h h1
  have r := l.range h h1
  rw [e]
  exact ⟨by omega, by omega, by omega, by omega, l.turn.third h h1, by rw [thirdOf_comm]; exact l.swap.turn.third h h1⟩
theorem third_line {p x y : Int} (h : Can p) (h1 : 1 < p) (hx : 0 ≤ x) (hx' : x < p) (hy : 0 ≤ y) (hy' : y < p) (hxy : x ≠ y) : Line p x y (thirdOf p x y) := by
  obtain ⟨z, l⟩ := line_ex h h1 hx hx' hy hy' hxy
  rw [l.third h h1]
  exact l
theorem emod_bounds (a : Int) {b : Int} (h : 0 < b) : 0 ≤ a % b ∧ a % b < b := ⟨Int.emod_nonneg _ (by omega), Int.emod_lt_of_pos _ h⟩
theorem can_shared {p : Int} (h : Can p) : p * (p - 1) / 2 % 3 = 0 := by
  unfold Can at h
  obtain ⟨h0, h1 | h1⟩ := h
  · obtain ⟨k, rfl⟩ : ∃ k, p = 6 * k + 1 := ⟨p / 6, by omega⟩
    have e : (6 * k + 1) * (6 * k + 1 - 1) = 6 * ((6 * k + 1) * k) := by grind
    omega
  · obtain ⟨k, rfl⟩ : ∃ k, p = 6 * k + 3 := ⟨p / 6, by omega⟩
    have e : (6 * k + 3) * (6 * k + 3 - 1) = 6 * ((2 * k + 1) * (3 * k + 1)) := by grind
    omega
/-- whether pairs can be shared out, of odd counts -/
theorem shared_iff {p : Int} (h : p % 2 = 1) : p * (p - 1) / 2 % 3 = 0 ↔ p % 6 ≠ 5 := by
  have h6 : p % 6 = 1 ∨ p % 6 = 3 ∨ p % 6 = 5 := by omega
  rcases h6 with h1 | h1 | h1
  · obtain ⟨k, rfl⟩ : ∃ k, p = 6 * k + 1 := ⟨p / 6, by omega⟩
    have e : (6 * k + 1) * (6 * k + 1 - 1) = 6 * ((6 * k + 1) * k) := by grind
    omega
  · obtain ⟨k, rfl⟩ : ∃ k, p = 6 * k + 3 := ⟨p / 6, by omega⟩
    have e : (6 * k + 3) * (6 * k + 3 - 1) = 6 * ((2 * k + 1) * (3 * k + 1)) := by grind
    omega
  · obtain ⟨k, rfl⟩ : ∃ k, p = 6 * k + 5 := ⟨p / 6, by omega⟩
    have e : (6 * k + 5) * (6 * k + 5 - 1) = 6 * (6 * (k * k) + 9 * k + 3) + 2 := by grind
    omega
end G66
namespace G66
/-! whole roots -/
def rootStep (n r : Nat) : Nat := if (r + 1) * (r + 1) ≤ n then r + 1 else r
def isqF : Nat → Nat → Nat
  | 0, _ => 0
  | f + 1, n => if n = 0 then 0 else rootStep n (2 * isqF f (n / 4))
def isq (n : Nat) : Nat := isqF n n
theorem isqF_ok : ∀ (f n : Nat), n < 4 ^ f → isqF f n * isqF f n ≤ n ∧ n < (isqF f n + 1) * (isqF f n + 1)
  | 0, n, h => by
    have : n = 0 := by simpa using h
    subst this
    simp [isqF]
  | f + 1, n, h => by
    unfold isqF
    split
    · rename_i e; subst e; simp
    · have ih := isqF_ok f (n / 4) (by rw [Nat.pow_succ] at h; omega)
      generalize isqF f (n / 4) = q at ih
      obtain ⟨h1, h2⟩ := ih
      unfold rootStep
      have e1 : (2 * q) * (2 * q) = 4 * (q * q) := by grind
      have e2 : (2 * q + 1 + 1) * (2 * q + 1 + 1) = 4 * ((q + 1) * (q + 1)) := by grind
      split
      · rename_i h3
        exact ⟨h3, by rw [e2]; omega⟩
      · rename_i h3
        exact ⟨by rw [e1]; omega, by omega⟩
theorem isq_ok (n : Nat) : isq n * isq n ≤ n ∧ n < (isq n + 1) * (isq n + 1) := isqF_ok n n (by
  induction n with
  | zero => decide
  | succ n ih => rw [Nat.pow_succ]; omega)
def rootOf (n : Int) : Int := (isq n.toNat : Int)
theorem rootOf_ok {n : Int} (h : 0 ≤ n) : 0 ≤ rootOf n ∧ rootOf n * rootOf n ≤ n ∧ n < (rootOf n + 1) * (rootOf n + 1) := by
  have e := isq_ok n.toNat
  unfold rootOf
  generalize isq n.toNat = r at e
  obtain ⟨e1, e2⟩ := e
  have e1' : ((r * r : Nat) : Int) ≤ (n.toNat : Int) := Int.ofNat_le.mpr e1
  have e2' : (n.toNat : Int) < (((r + 1) * (r + 1) : Nat) : Int) := Int.ofNat_lt.mpr e2
  rw [Int.toNat_of_nonneg h] at e1' e2'
  refine ⟨by omega, ?_, ?_⟩
  · simpa using e1'
  · simpa using e2'
theorem root_uniq {n r s : Int} (hr : 0 ≤ r) (hs : 0 ≤ s) (r1 : r * r ≤ n) (r2 : n < (r + 1) * (r + 1)) (s1 : s * s ≤ n) (s2 : n < (s + 1) * (s + 1)) : r = s := by
  rcases Int.lt_trichotomy r s with h | h | h
  · have : (r + 1) * (r + 1) ≤ s * s := Int.mul_le_mul (by omega) (by omega) (by omega) (by omega)
    omega
  · exact h
  · have : (s + 1) * (s + 1) ≤ r * r := Int.mul_le_mul (by omega) (by omega) (by omega) (by omega)
    omega
theorem root_eq {n r : Int} (hr : 0 ≤ r) (r1 : r * r ≤ n) (r2 : n < (r + 1) * (r + 1)) : r = rootOf n := by
  have h0 : 0 ≤ n := Int.le_trans (Int.mul_nonneg hr hr) r1
  obtain ⟨a, b, c⟩ := rootOf_ok h0
  exact root_uniq hr a r1 r2 b c
/-! pairs below a place -/
def tri (h : Int) : Int := h * (h - 1) / 2
theorem tri_two (h : Int) : 2 * tri h = h * (h - 1) := by
  unfold tri
  have e : (h * (h - 1)) % 2 = 0 := by
    rcases Int.emod_two_eq h with e | e
    · rw [Int.mul_emod, e]; simp
    · rw [Int.mul_emod, Int.sub_emod, e]; simp
  omega
theorem tri_succ (h : Int) : tri (h + 1) = tri h + h := by
  have a := tri_two h
  have b := tri_two (h + 1)
  have e : (h + 1) * (h + 1 - 1) = h * (h - 1) + 2 * h := by grind
  omega
theorem tri_mono {a b : Int} (h0 : 0 ≤ a) (h : a ≤ b) : tri a ≤ tri b := by
  have x := tri_two a
  have y := tri_two b
  by_cases hz : a = 0
  · subst hz
    by_cases hb : b = 0
    · subst hb; omega
    · have : 0 ≤ b * (b - 1) := Int.mul_nonneg (by omega) (by omega)
      omega
  · have : a * (a - 1) ≤ b * (b - 1) := Int.mul_le_mul h (by omega) (by omega) (by omega)
    omega
theorem tri_nonneg {a : Int} (h0 : 0 ≤ a) : 0 ≤ tri a := by
  have := tri_mono (Int.le_refl 0) h0
  have e : tri 0 = 0 := by decide
  omega
/-- the higher place of a pair by its number -/
def highOf (m : Int) : Int := (1 + rootOf (1 + 8 * m)) / 2
theorem highOf_ok {m : Int} (h : 0 ≤ m) : 1 ≤ highOf m ∧ tri (highOf m) ≤ m ∧ m < tri (highOf m + 1) := by
  obtain ⟨a, b, c⟩ := rootOf_ok (n := 1 + 8 * m) (by omega)
  unfold highOf
  generalize rootOf (1 + 8 * m) = r at *
  have h1 : 1 ≤ r := by
    rcases Int.lt_or_le r 1 with z | z
    · have : r = 0 := by omega
      subst this; omega
    · exact z
  obtain ⟨k, hk⟩ : ∃ k, k = (1 + r) / 2 := ⟨_, rfl⟩
  rw [← hk]
  have x := tri_two k
  have y := tri_two (k + 1)
  have p1 : (2 * k - 1) * (2 * k - 1) ≤ r * r := Int.mul_le_mul (by omega) (by omega) (by omega) (by omega)
  have p2 : (r + 1) * (r + 1) ≤ (2 * k + 1) * (2 * k + 1) := Int.mul_le_mul (by omega) (by omega) (by omega) (by omega)
  have e1 : (2 * k - 1) * (2 * k - 1) = 4 * (k * (k - 1)) + 1 := by grind
  have e2 : (2 * k + 1) * (2 * k + 1) = 4 * ((k + 1) * (k + 1 - 1)) + 1 := by grind
  omega
theorem highOf_eq {m h : Int} (h0 : 0 ≤ h) (a : tri h ≤ m) (b : m < tri (h + 1)) : highOf m = h := by
  have hm : 0 ≤ m := Int.le_trans (tri_nonneg h0) a
  obtain ⟨x, y, z⟩ := highOf_ok hm
  rcases Int.lt_trichotomy (highOf m) h with c | c | c
  · have := tri_mono (a := highOf m + 1) (b := h) (by omega) (by omega)
    omega
  · exact c
  · have := tri_mono (a := h + 1) (b := highOf m) (by omega) (by omega)
    omega
/-! three in order -/
def sort3 (a b c : Int) : List Int :=
  if a ≤ b then (if b ≤ c then [a, b, c] else if a ≤ c then [a, c, b] else [c, a, b])
  else (if a ≤ c then [b, a, c] else if b ≤ c then [b, c, a] else [c, b, a])
theorem sort3_perm (a b c : Int) : (sort3 a b c).Perm [a, b, c] := by
  unfold sort3
  split
  · split
    · exact .refl _
    · split
      · exact (List.Perm.swap _ _ _).cons a
      · exact (List.Perm.swap a c [b]).trans ((List.Perm.swap b c []).cons a)
  · split
    · exact List.Perm.swap _ _ _
    · split
      · exact ((List.Perm.swap a c []).cons b).trans (List.Perm.swap a b [c])
      · exact (List.Perm.swap b c [a]).trans (((List.Perm.swap a c []).cons b).trans (List.Perm.swap a b [c]))
theorem sort3_sorted (a b c : Int) : (sort3 a b c).Pairwise (· ≤ ·) := by
  unfold sort3
  split
  · split
    · simp; omega
    · split <;> simp <;> omega
  · split
    · simp; omega
    · split <;> simp <;> omega
theorem sorted_uniq : ∀ {l m : List Int}, l.Perm m → l.Pairwise (· ≤ ·) → m.Pairwise (· ≤ ·) → l = m := by
  intro l m p hl hm
  exact p.eq_of_pairwise (fun a b _ _ h1 h2 => Int.le_antisymm h1 h2) hl hm
theorem sort3_of {a b c : Int} {l : List Int} (p : l.Perm [a, b, c]) (s : l.Pairwise (· ≤ ·)) : l = sort3 a b c :=
  sorted_uniq (p.trans (sort3_perm a b c).symm) s (sort3_sorted a b c)
theorem sort3_rise {a b c : Int} (h1 : a < b) (h2 : b < c) : sort3 a b c = [a, b, c] := by
  unfold sort3; rw [if_pos (by omega), if_pos (by omega)]
/-! numbers of threes -/
def manyOf (p : Int) : Int := p * (p - 1) / 6
def straightOf (p : Int) : Int := if p % 3 = 0 then wideOf p else wideOf p / 2
def aloneOf (p : Int) : Int := if p % 3 = 0 then 0 else wideOf p / 2 * 3
def threeOf (p n : Int) : List Int :=
  let w := wideOf p
  let s := straightOf p
  let al := aloneOf p
  if n < s then [n, w + n, 2 * w + n]
  else if n - s < al then
    sort3 (p - 1) ((n - s) / s * w + (n - s) % s + w / 2) (((n - s) / s + 1) % 3 * w + (n - s) % s)
  else
    let k := n - s - al
    let r := k / tri w
    let m := k % tri w
    let hi := highOf m
    let lo := m - tri hi
    sort3 (r * w + lo) (r * w + hi) ((r + 1) % 3 * w + met w lo hi)
def numberOf (p a b c : Int) : Int :=
  let w := wideOf p
  let s := straightOf p
  if p % 3 = 1 ∧ c = p - 1 then
    if 2 * (a % w) ≥ w then s + a / w * s + a % w - w / 2 else s + b / w * s + b % w - w / 2
  else if a / w = 0 ∧ b / w = 1 ∧ c / w = 2 then a % w
  else
    let r := b / w
    let lo := if a / w = r then a % w else b % w
    let hi := if a / w = r then b % w else c % w
    s + aloneOf p + r * tri w + tri hi + lo
theorem many_sum {p : Int} (h : Can p) (h1 : 1 < p) : manyOf p = straightOf p + aloneOf p + 3 * tri (wideOf p) := by
  obtain ⟨hw, hp⟩ := h.wide h1
  have t := tri_two (wideOf p)
  unfold manyOf straightOf aloneOf
  generalize wideOf p = w at *
  rcases hp with ⟨a, b, c⟩ | ⟨a, b, c⟩
  · rw [if_neg (by omega), if_neg (by omega)]
    have e : p * (p - 1) = 6 * (2 * w + 3 * tri w) := by rw [c]; grind
    omega
  · rw [if_pos (by omega), if_pos (by omega)]
    have e : p * (p - 1) = 6 * (w + 3 * tri w) := by rw [c]; grind
    omega
/-- a three of the made plan in its canonical form -/
inductive C3 (p : Int) : Int → Int → Int → Int → Prop
  | straight {i : Int} (hi : 0 ≤ i) (hi' : i < straightOf p) : C3 p i i (wideOf p + i) (2 * wideOf p + i)
  | alone {r i : Int} (h3 : p % 3 = 1) (hr : R3 r) (hi : 0 ≤ i) (hi' : i < straightOf p) : C3 p (straightOf p + r * straightOf p + i) (p - 1) (r * wideOf p + i + wideOf p / 2) ((r + 1) % 3 * wideOf p + i)
  | pair {r i j : Int} (hr : R3 r) (hi : 0 ≤ i) (hij : i < j) (hj : j < wideOf p) : C3 p (straightOf p + aloneOf p + r * tri (wideOf p) + tri j + i) (r * wideOf p + i) (r * wideOf p + j) ((r + 1) % 3 * wideOf p + met (wideOf p) i j)
theorem straight_eq {p : Int} (h : Can p) (h1 : 1 < p) : (p % 3 = 1 ∧ wideOf p % 2 = 0 ∧ p = 3 * wideOf p + 1 ∧ straightOf p * 2 = wideOf p ∧ straightOf p = wideOf p / 2 ∧ aloneOf p = 3 * straightOf p) ∨ (p % 3 = 0 ∧ wideOf p % 2 = 1 ∧ p = 3 * wideOf p ∧ straightOf p = wideOf p ∧ aloneOf p = 0) := by
  obtain ⟨hw, hp⟩ := h.wide h1
  unfold straightOf aloneOf
  rcases hp with ⟨a, b, c⟩ | ⟨a, b, c⟩
  · rw [if_neg (by omega), if_neg (by omega)]; omega
  · rw [if_pos (by omega), if_pos (by omega)]; omega
theorem C3.b {p n x y z : Int} (h : Can p) (h1 : 1 < p) (c : C3 p n x y z) : B p x y z := by
  obtain ⟨hw, hp⟩ := h.wide h1
  have hs := straight_eq h h1
  cases c with
  | straight hi hi' =>
    have b := B.straight (p := p) (r := 0) (i := n) (.inl rfl) hi (by omega) (by omega)
    simpa using b
  | @alone r i h3 hr hi hi' =>
    have b := B.alone (p := p) (r := r) (i := i) h3 hr hi (by omega)
    rw [← Int.add_assoc] at b
    exact b
  | @pair r i j hr hi hij hj =>
    exact B.pair hr hi (by omega) (by omega) hj (by omega) (met_is hi (by omega) (by omega) hj)
theorem C3.range {p n x y z : Int} (h : Can p) (h1 : 1 < p) (c : C3 p n x y z) : 0 ≤ n ∧ n < manyOf p := by
  obtain ⟨hw, hp⟩ := h.wide h1
  have hs := straight_eq h h1
  have hm := many_sum h h1
  have ht := tri_nonneg (a := wideOf p) (by omega)
  cases c with
  | straight hi hi' => omega
  | @alone r i h3 hr hi hi' => rcases hr with rfl | rfl | rfl <;> omega
  | @pair r i j hr hi hij hj =>
    have t1 := tri_nonneg (a := j) (by omega)
    have t2 := tri_mono (a := j + 1) (b := wideOf p) (by omega) (by omega)
    have t3 := tri_succ j
    rcases hr with rfl | rfl | rfl <;> omega
theorem divmod_block {q s i r : Int} (hq : q = r * s + i) (hi : 0 ≤ i) (hi' : i < s) : q / s = r ∧ q % s = i := by
  subst hq
  constructor
  · rw [Int.add_comm, Int.add_mul_ediv_right _ _ (by omega), Int.ediv_eq_zero_of_lt hi hi']; omega
  · rw [Int.add_comm, Int.add_mul_emod_self_right, Int.emod_eq_of_lt hi hi']
theorem C3.three {p n x y z : Int} (h : Can p) (h1 : 1 < p) (c : C3 p n x y z) : threeOf p n = sort3 x y z := by
  obtain ⟨hw, hp⟩ := h.wide h1
  have hs := straight_eq h h1
  have ht := tri_nonneg (a := wideOf p) (by omega)
  unfold threeOf
  simp only []
  cases c with
  | straight hi hi' => rw [if_pos hi', sort3_rise (by omega) (by omega)]
  | @alone r i h3 hr hi hi' =>
    have hn : straightOf p + r * straightOf p + i - straightOf p = r * straightOf p + i := by omega
    have hd := divmod_block (q := r * straightOf p + i) rfl hi hi'
    rw [if_neg (by rcases hr with rfl | rfl | rfl <;> omega), hn, if_pos (by rcases hr with rfl | rfl | rfl <;> omega), hd.1, hd.2]
  | @pair r i j hr hi hij hj =>
    have t1 := tri_nonneg (a := j) (by omega)
    have t2 := tri_mono (a := j + 1) (b := wideOf p) (by omega) (by omega)
    have t3 := tri_succ j
    have hn : straightOf p + aloneOf p + r * tri (wideOf p) + tri j + i - straightOf p - aloneOf p = r * tri (wideOf p) + (tri j + i) := by omega
    have hd := divmod_block (q := r * tri (wideOf p) + (tri j + i)) rfl (by omega) (by omega)
    rw [if_neg (by rcases hr with rfl | rfl | rfl <;> omega), if_neg (by rcases hr with rfl | rfl | rfl <;> omega), hn, hd.1, hd.2, highOf_eq (h := j) (by omega) (by omega) (by omega),
      show tri j + i - tri j = i by omega]
theorem C3.ex {p n : Int} (h : Can p) (h1 : 1 < p) (h0 : 0 ≤ n) (hn : n < manyOf p) : ∃ x y z, C3 p n x y z := by
  obtain ⟨hw, hp⟩ := h.wide h1
  have hs := straight_eq h h1
  have hm := many_sum h h1
  have ht := tri_nonneg (a := wideOf p) (by omega)
  by_cases c1 : n < straightOf p
  · exact ⟨_, _, _, .straight h0 c1⟩
  by_cases c2 : n - straightOf p < aloneOf p
  · have h3 : p % 3 = 1 := by omega
    obtain ⟨r, i, hr, hi, hi', e⟩ := rows (w := straightOf p) (x := n - straightOf p) (by omega) (by omega)
    have e' : n = straightOf p + r * straightOf p + i := by omega
    rw [e']
    exact ⟨_, _, _, .alone h3 hr hi hi'⟩
  · obtain ⟨r, m, hr, hm0, hm1, e⟩ := rows (w := tri (wideOf p)) (x := n - straightOf p - aloneOf p) (by omega) (by omega)
    obtain ⟨a1, a2, a3⟩ := highOf_ok hm0
    have hj : highOf m < wideOf p := by
      rcases Int.lt_or_le (highOf m) (wideOf p) with z | z
      · exact z
      · have := tri_mono (a := wideOf p) (b := highOf m) (by omega) z
        omega
    rw [tri_succ] at a3
    have e' : n = straightOf p + aloneOf p + r * tri (wideOf p) + tri (highOf m) + (m - tri (highOf m)) := by omega
    rw [e']
    exact ⟨_, _, _, .pair hr (by omega) (by omega) hj⟩
/-- the number of a canonical three, from its people in order -/
theorem C3.number {p n x y z a b c : Int} (h : Can p) (h1 : 1 < p) (k : C3 p n x y z) (e : sort3 x y z = [a, b, c]) : numberOf p a b c = n := by
  obtain ⟨hw, hp⟩ := h.wide h1
  have hs := straight_eq h h1
  unfold numberOf
  simp only []
  cases k with
  | straight hi hi' =>
    rw [sort3_rise (by omega) (by omega)] at e
    simp only [List.cons.injEq, and_true] at e
    obtain ⟨rfl, rfl, rfl⟩ := e
    have d0 := dm0 (w := wideOf p) (q := n) hi (by omega)
    have d1 := dm1 (w := wideOf p) (q := n) hi (by omega)
    have d2 := dm2 (w := wideOf p) (q := n) hi (by omega)
    rw [d0.1, d0.2, d1.1, d2.1]
    rw [if_neg (by omega), if_pos (by simp)]
  | @alone r i h3 hr hi hi' =>
    have k0 : i + wideOf p / 2 < wideOf p := by omega
    have hlt : ∀ u v : Int, R3 u → 0 ≤ v → v < wideOf p → u * wideOf p + v < p - 1 := by
      intro u v hu hv hv'
      rcases hu with rfl | rfl | rfl <;> omega
    have l1 := hlt r (i + wideOf p / 2) hr (by omega) k0
    have l2 := hlt ((r + 1) % 3) i (by omega) hi (by omega)
    have d1 := dm (w := wideOf p) (r := r) (q := i + wideOf p / 2) hr (by omega) k0
    have d2 := dm (w := wideOf p) (r := (r + 1) % 3) (q := i) (by omega) hi (by omega)
    rw [Int.add_assoc (r * wideOf p) i] at e
    have hc : c = p - 1 ∧ ((a = r * wideOf p + (i + wideOf p / 2) ∧ b = (r + 1) % 3 * wideOf p + i) ∨ (b = r * wideOf p + (i + wideOf p / 2) ∧ a = (r + 1) % 3 * wideOf p + i)) := by
      generalize r * wideOf p + (i + wideOf p / 2) = u at *
      generalize (r + 1) % 3 * wideOf p + i = v at *
      unfold sort3 at e
      rw [if_neg (by omega), if_neg (by omega)] at e
      split at e <;> simp only [List.cons.injEq, and_true] at e <;> omega
    obtain ⟨rfl, hab⟩ := hc
    rw [if_pos ⟨h3, rfl⟩]
    rcases hab with ⟨rfl, rfl⟩ | ⟨rfl, rfl⟩
    · rw [d1.1, d1.2, if_pos (by omega)]; omega
    · rw [d2.2, d1.1, d1.2, if_neg (by omega)]; omega
  | @pair r i j hr hi hij hj =>
    have hm := met_is (w := wideOf p) (a := i) (b := j) hi (by omega) (by omega) hj
    have m0 := hm.1
    have m1 := hm.2.1
    generalize met (wideOf p) i j = m at *
    have d1 := dm (w := wideOf p) (r := r) (q := i) hr hi (by omega)
    have d2 := dm (w := wideOf p) (r := r) (q := j) hr (by omega) hj
    have d3 := dm (w := wideOf p) (r := (r + 1) % 3) (q := m) (by omega) m0 m1
    have key : ∀ a b c : Int, [a, b, c] = sort3 (r * wideOf p + i) (r * wideOf p + j) ((r + 1) % 3 * wideOf p + m) → (r ≠ 2 ∧ a = r * wideOf p + i ∧ b = r * wideOf p + j ∧ c = (r + 1) % 3 * wideOf p + m) ∨ (r = 2 ∧ a = (r + 1) % 3 * wideOf p + m ∧ b = r * wideOf p + i ∧ c = r * wideOf p + j) := by
      intro a b c e
      rcases nx_cases hr with ⟨rfl, q⟩ | ⟨rfl, q⟩ | ⟨rfl, q⟩
      · rw [q] at e ⊢
        rw [sort3_rise (by omega) (by omega)] at e
        simp only [List.cons.injEq, and_true] at e
        left; omega
      · rw [q] at e ⊢
        rw [sort3_rise (by omega) (by omega)] at e
        simp only [List.cons.injEq, and_true] at e
        left; omega
      · rw [q] at e ⊢
        unfold sort3 at e
        rw [if_pos (by omega), if_neg (by omega), if_neg (by omega)] at e
        simp only [List.cons.injEq, and_true] at e
        right; omega
    have hlt : ∀ u v : Int, R3 u → 0 ≤ v → v < wideOf p → u * wideOf p + v < 3 * wideOf p := by
      intro u v hu hv hv'
      rcases hu with rfl | rfl | rfl <;> omega
    rcases key a b c e.symm with ⟨hr2, rfl, rfl, rfl⟩ | ⟨hr2, rfl, rfl, rfl⟩
    · have l := hlt ((r + 1) % 3) m (by omega) m0 m1
      rw [d1.1, d1.2, d2.1, d2.2, d3.1]
      rw [if_neg (by omega), if_neg (by omega), if_pos rfl, if_pos rfl]
    · have l := hlt r j hr (by omega) hj
      rw [d1.1, d1.2, d2.1, d2.2, d3.1]
      rw [if_neg (by omega), if_neg (by omega), if_neg (by omega), if_neg (by omega)]
/-- every line is a canonical three, its people in some turn -/
theorem B.c3 {p x y z : Int} (h : Can p) (h1 : 1 < p) (b : B p x y z) : ∃ n u v w, C3 p n u v w ∧ [x, y, z].Perm [u, v, w] := by
  obtain ⟨hw, hp⟩ := h.wide h1
  have hs := straight_eq h h1
  cases b with
  | @pair r i j m hr hi hi' hj hj' hij hm =>
    have q1 : met (wideOf p) i j = m := MetIs.eq hi hj hi' hj' (met_is hi hj hi' hj') hm
    rcases Int.lt_or_gt_of_ne hij with hlt | hgt
    · exact ⟨_, _, _, _, .pair hr hi hlt hj', by rw [q1]⟩
    · refine ⟨_, _, _, _, .pair hr hj hgt hi', ?_⟩
      rw [show met (wideOf p) j i = m by rw [← q1]; unfold met; rw [Int.add_comm j i]]
      exact List.Perm.swap _ _ _
  | @straight r i hr hi hi' hst =>
    refine ⟨_, _, _, _, .straight (i := i) hi (by omega), ?_⟩
    rcases hr with rfl | rfl | rfl
    · simp
    · simp only [show ((1 : Int) + 1) % 3 = 2 by decide, show ((1 : Int) + 2) % 3 = 0 by decide, Int.one_mul, Int.zero_mul, Int.zero_add]
      exact ((List.Perm.swap _ _ _).cons _).trans (List.Perm.swap _ _ _)
    · simp only [show ((2 : Int) + 1) % 3 = 0 by decide, show ((2 : Int) + 2) % 3 = 1 by decide, Int.one_mul, Int.zero_mul, Int.zero_add]
      exact (List.Perm.swap _ _ _).trans ((List.Perm.swap _ _ _).cons _)
  | @alone r i h3 hr hi hi' =>
    refine ⟨_, _, _, _, .alone h3 hr hi (by omega), ?_⟩
    rw [Int.add_assoc]
/-- three of a number -/
theorem three_ok {p n : Int} (h : Can p) (h1 : 1 < p) (h0 : 0 ≤ n) (hn : n < manyOf p) : ∃ a b c, threeOf p n = [a, b, c] ∧ 0 ≤ a ∧ a < b ∧ b < c ∧ c < p ∧ Line p a b c ∧ numberOf p a b c = n := by
  obtain ⟨x, y, z, k⟩ := C3.ex h h1 h0 hn
  have b := k.b h h1
  have rg := b.range h h1
  have hl : Line p x y z := .inl b
  rw [k.three h h1]
  have fin : ∀ a b c : Int, sort3 x y z = [a, b, c] → a < b → b < c → 0 ≤ a → c < p → Line p a b c → ∃ a b c, sort3 x y z = [a, b, c] ∧ 0 ≤ a ∧ a < b ∧ b < c ∧ c < p ∧ Line p a b c ∧ numberOf p a b c = n :=
    fun a b c e p1 p2 p3 p4 l => ⟨a, b, c, e, p3, p1, p2, p4, l, k.number h h1 e⟩
  by_cases c1 : x ≤ y
  · by_cases c2 : y ≤ z
    · exact fin x y z (by unfold sort3; rw [if_pos c1, if_pos c2]) (by omega) (by omega) (by omega) (by omega) hl
    · by_cases c3 : x ≤ z
      · exact fin x z y (by unfold sort3; rw [if_pos c1, if_neg c2, if_pos c3]) (by omega) (by omega) (by omega) (by omega) hl.turn
      · exact fin z x y (by unfold sort3; rw [if_pos c1, if_neg c2, if_neg c3]) (by omega) (by omega) (by omega) (by omega) hl.turn.swap
  · by_cases c2 : x ≤ z
    · exact fin y x z (by unfold sort3; rw [if_neg c1, if_pos c2]) (by omega) (by omega) (by omega) (by omega) hl.swap
    · by_cases c3 : y ≤ z
      · exact fin y z x (by unfold sort3; rw [if_neg c1, if_neg c2, if_pos c3]) (by omega) (by omega) (by omega) (by omega) hl.swap.turn
      · exact fin z y x (by unfold sort3; rw [if_neg c1, if_neg c2, if_neg c3]) (by omega) (by omega) (by omega) (by omega) hl.turn.swap.turn
theorem three_of_line {p a b c : Int} (h : Can p) (h1 : 1 < p) (l : Line p a b c) (hab : a < b) (hbc : b < c) : 0 ≤ numberOf p a b c ∧ numberOf p a b c < manyOf p ∧ threeOf p (numberOf p a b c) = [a, b, c] := by
  have key : ∃ n u v w, C3 p n u v w ∧ [a, b, c].Perm [u, v, w] := by
    rcases l with l | l | l | l | l | l <;> obtain ⟨n, u, v, w, k, q⟩ := l.c3 h h1 <;> refine ⟨n, u, v, w, k, List.Perm.trans ?_ q⟩
    · exact .refl _
    · exact List.Perm.swap _ _ _
    · exact (List.Perm.swap _ _ _).cons _
    · exact ((List.Perm.swap _ _ _).cons _).trans (List.Perm.swap _ _ _)
    · exact (List.Perm.swap _ _ _).trans ((List.Perm.swap _ _ _).cons _)
    · exact (List.Perm.swap _ _ _).trans (((List.Perm.swap _ _ _).cons _).trans (List.Perm.swap _ _ _))
  obtain ⟨n, u, v, w, k, q⟩ := key
  have e : sort3 u v w = [a, b, c] := (sort3_of q (by simp; omega)).symm
  have en := k.number h h1 e
  rw [en]
  have r := k.range h h1
  exact ⟨r.1, r.2, by rw [k.three h h1, e]⟩
theorem C3.rows {p n x y z a b c : Int} (h : Can p) (h1 : 1 < p) (k : C3 p n x y z) (e : sort3 x y z = [a, b, c]) :
    (p % 3 = 1 ∧ c = p - 1) ∨ (a / wideOf p = 0 ∧ b / wideOf p = 1 ∧ c / wideOf p = 2) ∨ (a / wideOf p = b / wideOf p ∧ c / wideOf p ≠ b / wideOf p) ∨ (c / wideOf p = b / wideOf p ∧ a / wideOf p ≠ b / wideOf p) := by
  obtain ⟨hw, hp⟩ := h.wide h1
  have hs := straight_eq h h1
  cases k with
  | straight hi hi' =>
    rw [sort3_rise (by omega) (by omega)] at e
    simp only [List.cons.injEq, and_true] at e
    obtain ⟨rfl, rfl, rfl⟩ := e
    have d0 := dm0 (w := wideOf p) (q := n) hi (by omega)
    have d1 := dm1 (w := wideOf p) (q := n) hi (by omega)
    have d2 := dm2 (w := wideOf p) (q := n) hi (by omega)
    rw [d0.1, d1.1, d2.1]
    omega
  | @alone r i h3 hr hi hi' =>
    have k0 : i + wideOf p / 2 < wideOf p := by omega
    have hlt : ∀ u v : Int, R3 u → 0 ≤ v → v < wideOf p → u * wideOf p + v < p - 1 := by
      intro u v hu hv hv'
      rcases hu with rfl | rfl | rfl <;> omega
    have l1 := hlt r (i + wideOf p / 2) hr (by omega) k0
    have l2 := hlt ((r + 1) % 3) i (by omega) hi (by omega)
    rw [Int.add_assoc (r * wideOf p) i] at e
    generalize r * wideOf p + (i + wideOf p / 2) = u at *
    generalize (r + 1) % 3 * wideOf p + i = v at *
    unfold sort3 at e
    rw [if_neg (by omega), if_neg (by omega)] at e
    split at e <;> simp only [List.cons.injEq, and_true] at e <;> omega
  | @pair r i j hr hi hij hj =>
    have hm := met_is (w := wideOf p) (a := i) (b := j) hi (by omega) (by omega) hj
    have m0 := hm.1
    have m1 := hm.2.1
    generalize met (wideOf p) i j = m at *
    have d1 := dm (w := wideOf p) (r := r) (q := i) hr hi (by omega)
    have d2 := dm (w := wideOf p) (r := r) (q := j) hr (by omega) hj
    have d3 := dm (w := wideOf p) (r := (r + 1) % 3) (q := m) (by omega) m0 m1
    rcases nx_cases hr with ⟨rfl, q⟩ | ⟨rfl, q⟩ | ⟨rfl, q⟩
    · rw [q] at e d3
      rw [sort3_rise (by omega) (by omega)] at e
      simp only [List.cons.injEq, and_true] at e
      obtain ⟨rfl, rfl, rfl⟩ := e
      rw [d1.1, d2.1, d3.1]; omega
    · rw [q] at e d3
      rw [sort3_rise (by omega) (by omega)] at e
      simp only [List.cons.injEq, and_true] at e
      obtain ⟨rfl, rfl, rfl⟩ := e
      rw [d1.1, d2.1, d3.1]; omega
    · rw [q] at e d3
      unfold sort3 at e
      rw [if_pos (by omega), if_neg (by omega), if_neg (by omega)] at e
      simp only [List.cons.injEq, and_true] at e
      obtain ⟨rfl, rfl, rfl⟩ := e
      rw [d1.1, d2.1, d3.1]; omega
theorem line_c3 {p a b c : Int} (h : Can p) (h1 : 1 < p) (l : Line p a b c) (hab : a < b) (hbc : b < c) : ∃ n u v w, C3 p n u v w ∧ sort3 u v w = [a, b, c] := by
  have key : ∃ n u v w, C3 p n u v w ∧ [a, b, c].Perm [u, v, w] := by
    rcases l with l | l | l | l | l | l <;> obtain ⟨n, u, v, w, k, q⟩ := l.c3 h h1 <;> refine ⟨n, u, v, w, k, List.Perm.trans ?_ q⟩
    · exact .refl _
    · exact List.Perm.swap _ _ _
    · exact (List.Perm.swap _ _ _).cons _
    · exact ((List.Perm.swap _ _ _).cons _).trans (List.Perm.swap _ _ _)
    · exact (List.Perm.swap _ _ _).trans ((List.Perm.swap _ _ _).cons _)
    · exact (List.Perm.swap _ _ _).trans (((List.Perm.swap _ _ _).cons _).trans (List.Perm.swap _ _ _))
  obtain ⟨n, u, v, w, k, q⟩ := key
  exact ⟨n, u, v, w, k, (sort3_of q (by simp; omega)).symm⟩
theorem line_rows {p a b c : Int} (h : Can p) (h1 : 1 < p) (l : Line p a b c) (hab : a < b) (hbc : b < c) :
    (p % 3 = 1 ∧ c = p - 1) ∨ (a / wideOf p = 0 ∧ b / wideOf p = 1 ∧ c / wideOf p = 2) ∨ (a / wideOf p = b / wideOf p ∧ c / wideOf p ≠ b / wideOf p) ∨ (c / wideOf p = b / wideOf p ∧ a / wideOf p ≠ b / wideOf p) := by
  obtain ⟨n, u, v, w, k, e⟩ := line_c3 h h1 l hab hbc
  exact k.rows h h1 e
end G66
namespace G66
abbrev PP := Int × Int
abbrev T3 := Int × Int × Int
def T3.l (t : T3) : List Int := [t.1, t.2.1, t.2.2]
def T3.ok (p : Int) (t : T3) : Prop := 0 ≤ t.1 ∧ t.1 < t.2.1 ∧ t.2.1 < t.2.2 ∧ t.2.2 < p
instance (p : Int) (t : T3) : Decidable (T3.ok p t) := by unfold T3.ok; exact inferInstance
def prs (t : T3) : List PP := [(t.1, t.2.1), (t.1, t.2.2), (t.2.1, t.2.2)]
def allPrs (ts : List T3) : List PP := ts.flatMap prs
/-! tables -/
section
variable {κ : Type} [DecidableEq κ] {α : Type}
def getA (d : List (κ × α)) (k : κ) : Option α := (d.find? fun kv => decide (kv.1 = k)).map (·.2)
def putA (d : List (κ × α)) (k : κ) (v : α) : List (κ × α) :=
  if (d.any fun kv => decide (kv.1 = k)) = true then d.map (fun kv => if kv.1 = k then (kv.1, v) else kv) else d ++ [(k, v)]
theorem getA_pos {p : κ × α} {r : List (κ × α)} {k : κ} (e : p.1 = k) : getA (p :: r) k = some p.2 := by simp [getA, List.find?_cons, e]
theorem getA_neg {p : κ × α} {r : List (κ × α)} {k : κ} (e : ¬ p.1 = k) : getA (p :: r) k = getA r k := by simp [getA, List.find?_cons, e]
theorem getA_none {k : κ} : ∀ {d : List (κ × α)}, getA d k = none ↔ k ∉ d.map (·.1)
  | [] => by simp [getA]
  | p :: r => by
    by_cases e : p.1 = k
    · rw [getA_pos e]; simp [e]
    · rw [getA_neg e, getA_none]; simp [Ne.symm e]
theorem getA_mem {k : κ} {v : α} : ∀ {d : List (κ × α)}, getA d k = some v → (k, v) ∈ d
  | [], h => by simp [getA] at h
  | p :: r, h => by
    by_cases e : p.1 = k
    · rw [getA_pos e] at h
      cases h
      subst e
      exact List.mem_cons_self
    · rw [getA_neg e] at h
      exact List.mem_cons_of_mem _ (getA_mem h)
theorem getA_of_mem {k : κ} {v : α} : ∀ {d : List (κ × α)}, (d.map (·.1)).Nodup → (k, v) ∈ d → getA d k = some v
  | p :: r, hn, h => by
    rw [List.map_cons, List.nodup_cons] at hn
    rcases List.mem_cons.mp h with rfl | h
    · exact getA_pos rfl
    · have e : ¬ p.1 = k := fun z => hn.1 (by rw [z]; exact List.mem_map.mpr ⟨_, h, rfl⟩)
      rw [getA_neg e]
      exact getA_of_mem hn.2 h
theorem any_iff {k : κ} {d : List (κ × α)} : (d.any fun kv => decide (kv.1 = k)) = true ↔ k ∈ d.map (·.1) := by
  simp [List.any_eq_true]
theorem putA_keys {d : List (κ × α)} {k : κ} {v : α} : (putA d k v).map (·.1) = if k ∈ d.map (·.1) then d.map (·.1) else d.map (·.1) ++ [k] := by
  unfold putA
  by_cases h : k ∈ d.map (·.1)
  · rw [if_pos (any_iff.mpr h), if_pos h, List.map_map]
    apply List.map_congr_left
    intro a _
    simp only [Function.comp]
    split <;> rfl
  · rw [if_neg (fun z => h (any_iff.mp z)), if_neg h, List.map_append]; rfl
theorem putA_get {d : List (κ × α)} {k j : κ} {v : α} : getA (putA d k v) j = if j = k then some v else getA d j := by
  unfold putA
  by_cases h : k ∈ d.map (·.1)
  · rw [if_pos (any_iff.mpr h)]
    induction d with
    | nil => simp at h
    | cons p r ih =>
      rw [List.map_cons]
      by_cases e : p.1 = k
      · rw [if_pos e]
        by_cases e2 : j = k
        · rw [if_pos e2, getA_pos (by simp [e, e2])]
        · rw [if_neg e2, getA_neg (by simp only [e]; exact fun z => e2 z.symm), getA_neg (by rw [e]; exact fun z => e2 z.symm)]
          have : ∀ r : List (κ × α), getA (r.map fun kv => if kv.1 = k then (kv.1, v) else kv) j = getA r j := by
            intro r
            induction r with
            | nil => rfl
            | cons q r ih =>
              rw [List.map_cons]
              by_cases q1 : q.1 = k
              · rw [if_pos q1, getA_neg (by simp only [q1]; exact fun z => e2 z.symm), getA_neg (by rw [q1]; exact fun z => e2 z.symm), ih]
              · rw [if_neg q1]
                by_cases q2 : q.1 = j
                · rw [getA_pos q2, getA_pos q2]
                · rw [getA_neg q2, getA_neg q2, ih]
          exact this r
      · rw [if_neg e]
        have h' : k ∈ r.map (·.1) := by
          rcases List.mem_cons.mp h with z | z
          · exact absurd z.symm e
          · exact z
        by_cases e2 : p.1 = j
        · rw [getA_pos e2, getA_pos e2, if_neg (by rw [← e2]; exact e)]
        · rw [getA_neg e2, getA_neg e2, ih h']
  · rw [if_neg (fun z => h (any_iff.mp z))]
    induction d with
    | nil =>
      by_cases e2 : j = k
      · subst e2; rw [if_pos rfl]; exact getA_pos rfl
      · rw [if_neg e2]; exact getA_neg (fun z => e2 z.symm)
    | cons p r ih =>
      have h1 : ¬ p.1 = k := fun z => h (by simp [z])
      have h2 : k ∉ r.map (·.1) := fun z => h (List.mem_cons_of_mem _ z)
      rw [List.cons_append]
      by_cases e2 : p.1 = j
      · rw [getA_pos e2, getA_pos e2, if_neg (by rw [← e2]; exact h1)]
      · rw [getA_neg e2, getA_neg e2, ih h2]
theorem nodup_snoc {l : List κ} {k : κ} (h : l.Nodup) (hk : k ∉ l) : (l ++ [k]).Nodup := by
  rw [List.nodup_append]
  exact ⟨h, by simp, fun a ha b hb e => hk (by simp at hb; rw [← hb, ← e]; exact ha)⟩
theorem putA_nodup {d : List (κ × α)} {k : κ} {v : α} (h : (d.map (·.1)).Nodup) : ((putA d k v).map (·.1)).Nodup := by
  rw [putA_keys]
  split
  · exact h
  · exact nodup_snoc h (by assumption)
/-! pigeons -/
theorem pigeon : ∀ {l m : List κ}, l.Nodup → (∀ x ∈ l, x ∈ m) → l.length ≤ m.length
  | [], m, _, _ => Nat.zero_le _
  | x :: r, m, hn, hs => by
    rw [List.nodup_cons] at hn
    have hx : x ∈ m := hs x List.mem_cons_self
    have ih := pigeon (l := r) (m := m.erase x) hn.2 (fun y hy => by
      have hne : y ≠ x := fun z => hn.1 (z ▸ hy)
      exact (List.mem_erase_of_ne hne).mpr (hs y (List.mem_cons_of_mem _ hy)))
    rw [List.length_erase_of_mem hx] at ih
    have hp : 0 < m.length := List.length_pos_of_mem hx
    rw [List.length_cons]
    omega
theorem pigeon_lt {l m : List κ} {z : κ} (hn : l.Nodup) (hs : ∀ x ∈ l, x ∈ m) (hz : z ∈ m) (hzl : z ∉ l) : l.length < m.length := by
  have := pigeon (l := z :: l) (m := m) (List.nodup_cons.mpr ⟨hzl, hn⟩) (fun x hx => by
    rcases List.mem_cons.mp hx with rfl | hx
    · exact hz
    · exact hs x hx)
  rw [List.length_cons] at this
  omega
/-- a list that holds as many unlike things as it is long holds none twice -/
theorem nodup_of_cover : ∀ {l m : List κ}, m.Nodup → (∀ x ∈ m, x ∈ l) → l.length ≤ m.length → l.Nodup
  | [], _, _, _, _ => List.nodup_nil
  | x :: r, m, hm, hs, hl => by
    by_cases hx : x ∈ r
    · have := pigeon hm (m := r) (fun y hy => by
        rcases List.mem_cons.mp (hs y hy) with rfl | z
        · exact hx
        · exact z)
      rw [List.length_cons] at hl
      omega
    · rw [List.nodup_cons]
      refine ⟨hx, nodup_of_cover (m := m.erase x) (hm.sublist List.erase_sublist) (fun y hy => ?_) ?_⟩
      · have hne : y ≠ x := fun z => by
          subst z
          exact absurd hy (hm.not_mem_erase)
        rcases List.mem_cons.mp (hs y (List.mem_of_mem_erase hy)) with z | z
        · exact absurd z hne
        · exact z
      · rw [List.length_cons] at hl
        have : m.length - 1 ≤ (m.erase x).length := by
          rw [List.length_erase]; split <;> omega
        by_cases hxm : x ∈ m
        · rw [List.length_erase_of_mem hxm]; omega
        · rw [List.erase_of_not_mem hxm]; omega
end
/-! how often two are together -/
def tick (d : List (PP × Int)) (k : PP) : List (PP × Int) := putA d k ((getA d k).getD 0 + 1)
def ticks (ps : List PP) (d : List (PP × Int)) : List (PP × Int) := ps.foldl tick d
def times (ts : List T3) : List (PP × Int) := ticks (allPrs ts) []
def isPlan (p : Int) (ts : List T3) : Bool := decide (((times ts).length : Int) = p * (p - 1) / 2) && (times ts).all fun kv => decide (kv.2 = 1)
structure Counts (d : List (PP × Int)) (qs : List PP) : Prop where
  nd : (d.map (·.1)).Nodup
  get : ∀ k, getA d k = if k ∈ qs then some (qs.count k : Int) else none
theorem Counts.tick {d : List (PP × Int)} {qs : List PP} (C : Counts d qs) (k : PP) : Counts (tick d k) (qs ++ [k]) := by
  refine ⟨putA_nodup C.nd, fun j => ?_⟩
  unfold G66.tick
  rw [putA_get, C.get k]
  by_cases e : j = k
  · subst e
    rw [if_pos rfl, if_pos (show j ∈ qs ++ [j] by simp), List.count_append]
    by_cases h : j ∈ qs
    · rw [if_pos h]; simp
    · rw [if_neg h, List.count_eq_zero_of_not_mem h]; simp
  · rw [if_neg e, C.get j, List.count_append]
    have z : List.count j [k] = 0 := by simp [Ne.symm e]
    rw [z]
    by_cases h : j ∈ qs
    · rw [if_pos h, if_pos (by simp [h])]; simp
    · rw [if_neg h, if_neg (by simp [h, e])]
theorem Counts.ticks : ∀ (ps : List PP) {d : List (PP × Int)} {qs : List PP}, Counts d qs → Counts (ticks ps d) (qs ++ ps)
  | [], _, qs, C => by rw [List.append_nil]; exact C
  | k :: ps, d, qs, C => by
    have := Counts.ticks ps (C.tick k)
    rw [List.append_assoc] at this
    exact this
theorem counts_nil : Counts [] [] := ⟨by simp, fun k => by simp [getA]⟩
theorem times_counts (ts : List T3) : Counts (times ts) (allPrs ts) := by
  have := Counts.ticks (allPrs ts) counts_nil
  rw [List.nil_append] at this
  exact this
theorem Counts.keys {d : List (PP × Int)} {qs : List PP} (C : Counts d qs) (k : PP) : k ∈ d.map (·.1) ↔ k ∈ qs := by
  have h := C.get k
  by_cases z : k ∈ qs
  · rw [if_pos z] at h
    exact ⟨fun _ => z, fun _ => List.mem_map.mpr ⟨_, getA_mem h, rfl⟩⟩
  · rw [if_neg z, getA_none] at h
    exact ⟨fun x => absurd x h, fun x => absurd x z⟩
theorem Counts.len_le {d : List (PP × Int)} {qs : List PP} (C : Counts d qs) : d.length ≤ qs.length := by
  have := pigeon C.nd (m := qs) (fun x hx => (C.keys x).mp hx)
  simpa using this
theorem Counts.ones {d : List (PP × Int)} {qs : List PP} (C : Counts d qs) : (d.all fun kv => decide (kv.2 = 1)) = true ↔ qs.Nodup := by
  rw [List.all_eq_true, List.nodup_iff_count]
  constructor
  · intro h k
    by_cases z : k ∈ qs
    · have g := C.get k
      rw [if_pos z] at g
      have := h _ (getA_mem g)
      simp at this
      omega
    · rw [List.count_eq_zero_of_not_mem z]; omega
  · intro h kv hkv
    have g := getA_of_mem C.nd hkv
    rw [C.get] at g
    split at g
    · rename_i z
      have := h kv.1
      have p := List.count_pos_iff.mpr z
      simp only [Option.some.injEq] at g
      simp; omega
    · cases g
theorem isPlan_iff {p : Int} {ts : List T3} : isPlan p ts = true ↔ (allPrs ts).Nodup ∧ ((allPrs ts).length : Int) = p * (p - 1) / 2 := by
  have C := times_counts ts
  unfold isPlan
  rw [Bool.and_eq_true, C.ones, decide_eq_true_iff]
  have e : (allPrs ts).Nodup → (times ts).length = (allPrs ts).length := by
    intro h
    have a := C.len_le
    have b := pigeon h (m := (times ts).map (·.1)) (fun x hx => (C.keys x).mpr hx)
    rw [List.length_map] at b
    omega
  constructor
  · rintro ⟨a, b⟩
    exact ⟨b, by rw [← e b]; exact a⟩
  · rintro ⟨a, b⟩
    exact ⟨by rw [e a]; exact b, a⟩
theorem allPrs_len : ∀ ts : List T3, (allPrs ts).length = 3 * ts.length
  | [] => rfl
  | t :: r => by
    have := allPrs_len r
    unfold allPrs at *
    rw [List.flatMap_cons, List.length_append, this, List.length_cons]
    show 3 + 3 * r.length = _
    omega
/-! all pairs of so many people -/
def below (b : Nat) : List PP := (List.range b).map fun (a : Nat) => ((a : Int), (b : Int))
def allOf : Nat → List PP
  | 0 => []
  | n + 1 => allOf n ++ below n
theorem mem_below {b : Nat} {k : PP} : k ∈ below b ↔ 0 ≤ k.1 ∧ k.1 < b ∧ k.2 = b := by
  unfold below
  rw [List.mem_map]
  constructor
  · rintro ⟨a, ha, rfl⟩
    have := List.mem_range.mp ha
    simp; omega
  · rintro ⟨h1, h2, h3⟩
    refine ⟨k.1.toNat, List.mem_range.mpr (by omega), ?_⟩
    obtain ⟨x, y⟩ := k
    simp only [Prod.mk.injEq] at *
    omega
theorem mem_allOf : ∀ {n : Nat} {k : PP}, k ∈ allOf n ↔ 0 ≤ k.1 ∧ k.1 < k.2 ∧ k.2 < n
  | 0, k => by simp [allOf]; omega
  | n + 1, k => by
    unfold allOf
    rw [List.mem_append, mem_allOf, mem_below]
    omega
theorem allOf_nodup : ∀ n : Nat, (allOf n).Nodup
  | 0 => List.nodup_nil
  | n + 1 => by
    unfold allOf
    rw [List.nodup_append]
    refine ⟨allOf_nodup n, ?_, ?_⟩
    · unfold below
      rw [List.nodup_iff_pairwise_ne, List.pairwise_map]
      refine List.Pairwise.imp ?_ List.nodup_range
      intro a b h z
      simp only [Prod.mk.injEq, and_true] at z
      exact h (by omega)
    · intro a ha b hb e
      subst e
      have x := mem_allOf.mp ha
      have y := mem_below.mp hb
      omega
theorem allOf_len : ∀ n : Nat, ((allOf n).length : Int) = (n : Int) * ((n : Int) - 1) / 2
  | 0 => by simp [allOf]
  | n + 1 => by
    unfold allOf
    rw [List.length_append]
    have e : (below n).length = n := by simp [below]
    have ih := allOf_len n
    rw [e]
    have a := tri_two (n : Int)
    have b := tri_two ((n : Int) + 1)
    unfold tri at a b
    have c : ((n : Int) + 1) * ((n : Int) + 1 - 1) = (n : Int) * ((n : Int) - 1) + 2 * n := by grind
    push_cast
    omega
def Cover (p : Int) (ts : List T3) : Prop := ∀ a b : Int, 0 ≤ a → a < b → b < p → (a, b) ∈ allPrs ts
theorem mem_prs {p : Int} {t : T3} {k : PP} (h : T3.ok p t) (hk : k ∈ prs t) : 0 ≤ k.1 ∧ k.1 < k.2 ∧ k.2 < p := by
  unfold T3.ok at h
  unfold prs at hk
  simp at hk
  rcases hk with rfl | rfl | rfl <;> simp <;> omega
theorem mem_allPrs {ts : List T3} {k : PP} : k ∈ allPrs ts ↔ ∃ t ∈ ts, k ∈ prs t := by unfold allPrs; rw [List.mem_flatMap]
theorem allPrs_sub {p : Int} {ts : List T3} (h0 : 0 ≤ p) (h : ∀ t ∈ ts, T3.ok p t) : ∀ k ∈ allPrs ts, k ∈ allOf p.toNat := by
  intro k hk
  obtain ⟨t, ht, hk⟩ := mem_allPrs.mp hk
  have := mem_prs (h t ht) hk
  rw [mem_allOf]; omega
theorem plan_cover {p : Int} {ts : List T3} (h0 : 0 ≤ p) (h : ∀ t ∈ ts, T3.ok p t) (hp : isPlan p ts = true) : Cover p ts := by
  obtain ⟨a, b⟩ := isPlan_iff.mp hp
  intro x y h1 h2 h3
  by_cases z : (x, y) ∈ allPrs ts
  · exact z
  · have hl := pigeon_lt a (m := allOf p.toNat) (z := (x, y)) (allPrs_sub h0 h) (mem_allOf.mpr (by simp; omega)) z
    have e := allOf_len p.toNat
    rw [Int.toNat_of_nonneg h0] at e
    omega
theorem plan_of_cover {p : Int} {ts : List T3} (h0 : 0 ≤ p) (hc : Cover p ts) (hl : (3 * ts.length : Int) = p * (p - 1) / 2) : isPlan p ts = true := by
  have e := allOf_len p.toNat
  rw [Int.toNat_of_nonneg h0] at e
  have l := allPrs_len ts
  rw [isPlan_iff]
  refine ⟨nodup_of_cover (m := allOf p.toNat) (allOf_nodup _) (fun k hk => ?_) (by omega), by rw [l]; push_cast; omega⟩
  have := mem_allOf.mp hk
  exact hc k.1 k.2 (by omega) (by omega) (by omega)
theorem plan_of_nodup_cover {p : Int} {ts : List T3} (h0 : 0 ≤ p) (h : ∀ t ∈ ts, T3.ok p t) (hn : (allPrs ts).Nodup) (hc : Cover p ts) : isPlan p ts = true := by
  have e := allOf_len p.toNat
  rw [Int.toNat_of_nonneg h0] at e
  rw [isPlan_iff]
  refine ⟨hn, ?_⟩
  have a := pigeon hn (m := allOf p.toNat) (allPrs_sub h0 h)
  have b := pigeon (allOf_nodup p.toNat) (m := allPrs ts) (fun k hk => by
    have := mem_allOf.mp hk
    exact hc k.1 k.2 (by omega) (by omega) (by omega))
  omega
theorem not_plan_of_twice {p : Int} {ts : List T3} (h : ¬ (allPrs ts).Nodup) : isPlan p ts = false := by
  cases e : isPlan p ts with
  | false => rfl
  | true => exact absurd (isPlan_iff.mp e).1 h
theorem not_plan_of_apart {p a b : Int} {ts : List T3} (h0 : 0 ≤ p) (h : ∀ t ∈ ts, T3.ok p t) (h1 : 0 ≤ a) (h2 : a < b) (h3 : b < p) (hz : (a, b) ∉ allPrs ts) : isPlan p ts = false := by
  cases e : isPlan p ts with
  | false => rfl
  | true => exact absurd (plan_cover h0 h e a b h1 h2 h3) hz
/-! the made plan -/
def t3 (l : List Int) : T3 := match l with
  | [a, b, c] => (a, b, c)
  | _ => (0, 0, 0)
def made (p : Int) : List T3 := (List.range (manyOf p).toNat).map fun (n : Nat) => t3 (threeOf p n)
theorem many_three {p : Int} (h : Can p) : 3 * manyOf p = p * (p - 1) / 2 ∧ 0 ≤ manyOf p := by
  unfold manyOf
  unfold Can at h
  obtain ⟨h0, h1 | h1⟩ := h
  · obtain ⟨k, rfl⟩ : ∃ k, p = 6 * k + 1 := ⟨p / 6, by omega⟩
    have e : (6 * k + 1) * (6 * k + 1 - 1) = 6 * ((6 * k + 1) * k) := by grind
    have : 0 ≤ (6 * k + 1) * k := Int.mul_nonneg (by omega) (by omega)
    omega
  · obtain ⟨k, rfl⟩ : ∃ k, p = 6 * k + 3 := ⟨p / 6, by omega⟩
    have e : (6 * k + 3) * (6 * k + 3 - 1) = 6 * ((2 * k + 1) * (3 * k + 1)) := by grind
    have : 0 ≤ (2 * k + 1) * (3 * k + 1) := Int.mul_nonneg (by omega) (by omega)
    omega
theorem made_len {p : Int} (h : Can p) : ((made p).length : Int) = manyOf p := by
  unfold made
  rw [List.length_map, List.length_range, Int.toNat_of_nonneg (many_three h).2]
theorem made_get {p : Int} (h : Can p) (h1 : 1 < p) {n : Nat} (hn : (n : Int) < manyOf p) : threeOf p n = (t3 (threeOf p n)).l ∧ T3.ok p (t3 (threeOf p n)) := by
  obtain ⟨a, b, c, e, h2, h3, h4, h5, _⟩ := three_ok h h1 (n := n) (by omega) hn
  rw [e]
  exact ⟨rfl, h2, h3, h4, h5⟩
theorem many_one : manyOf 1 = 0 := by decide
theorem made_ok {p : Int} (h : Can p) : ∀ t ∈ made p, T3.ok p t := by
  intro t ht
  unfold made at ht
  obtain ⟨n, hn, rfl⟩ := List.mem_map.mp ht
  have hn := List.mem_range.mp hn
  have hm : (n : Int) < manyOf p := by omega
  by_cases h1 : 1 < p
  · exact (made_get h h1 hm).2
  · have : p = 1 := by unfold Can at h; omega
    subst this
    rw [many_one] at hm; omega
theorem made_cover {p : Int} (h : Can p) : Cover p (made p) := by
  intro a b h1 h2 h3
  have hp : 1 < p := by omega
  have l := third_line h hp (x := a) (y := b) (by omega) (by omega) (by omega) (by omega) (by omega)
  have r := l.range h hp
  generalize thirdOf p a b = c at *
  have fin : ∀ x y z : Int, Line p x y z → x < y → y < z → (a, b) ∈ prs (x, y, z) → (a, b) ∈ allPrs (made p) := by
    intro x y z l h4 h5 hm
    obtain ⟨k1, k2, k3⟩ := three_of_line h hp l h4 h5
    refine mem_allPrs.mpr ⟨(x, y, z), ?_, hm⟩
    unfold made
    refine List.mem_map.mpr ⟨(numberOf p x y z).toNat, List.mem_range.mpr (by omega), ?_⟩
    rw [Int.toNat_of_nonneg k1, k3]
    rfl
  by_cases c1 : c < a
  · exact fin c a b l.turn.swap c1 h2 (by simp [prs])
  · by_cases c2 : c < b
    · exact fin a c b l.turn (by omega) c2 (by simp [prs])
    · exact fin a b c l h2 (by omega) (by simp [prs])
theorem made_plan {p : Int} (h : Can p) : isPlan p (made p) = true := by
  refine plan_of_cover (by unfold Can at h; omega) (made_cover h) ?_
  rw [made_len h]
  exact (many_three h).1
/-! called otherwise, in another turn -/
def tsort (a b c : Int) : T3 := t3 (sort3 a b c)
theorem tsort_l (a b c : Int) : (tsort a b c).l = sort3 a b c := by
  unfold tsort sort3
  split
  · split
    · rfl
    · split <;> rfl
  · split
    · rfl
    · split <;> rfl
theorem tsort_mem {a b c x : Int} : x ∈ (tsort a b c).l ↔ x = a ∨ x = b ∨ x = c := by
  rw [tsort_l, (sort3_perm a b c).mem_iff]; simp
theorem prs_of_mem {p : Int} {t : T3} {x y : Int} (h : T3.ok p t) (hx : x ∈ t.l) (hy : y ∈ t.l) (hxy : x < y) : (x, y) ∈ prs t := by
  obtain ⟨a, b, c⟩ := t
  unfold T3.ok at h
  unfold T3.l at hx hy
  unfold prs
  simp at *
  omega
theorem mem_of_prs {t : T3} {x y : Int} (h : (x, y) ∈ prs t) : x ∈ t.l ∧ y ∈ t.l := by
  obtain ⟨a, b, c⟩ := t
  unfold prs at h
  unfold T3.l
  simp at *
  omega
theorem tsort_ok {p a b c : Int} (ha : 0 ≤ a ∧ a < p) (hb : 0 ≤ b ∧ b < p) (hc : 0 ≤ c ∧ c < p) (h1 : a ≠ b) (h2 : a ≠ c) (h3 : b ≠ c) : T3.ok p (tsort a b c) := by
  unfold tsort sort3 T3.ok
  split
  · split
    · simp [t3]; omega
    · split <;> simp [t3] <;> omega
  · split
    · simp [t3]; omega
    · split <;> simp [t3] <;> omega
/-- names: a list that holds each of the people once -/
structure Names (p : Int) (ns : List Int) : Prop where
  len : (ns.length : Int) = p
  nd : ns.Nodup
  rg : ∀ x ∈ ns, 0 ≤ x ∧ x < p
def nm (ns : List Int) (i : Int) : Int := ns.getD i.toNat 0
theorem nm_get {ns : List Int} {i : Nat} (h : i < ns.length) : nm ns i = ns[i] := by
  unfold nm
  simp [List.getD, h]
theorem Names.mem {p : Int} {ns : List Int} (N : Names p ns) {i : Int} (h0 : 0 ≤ i) (h : i < p) : nm ns i ∈ ns := by
  have l := N.len
  have e := nm_get (ns := ns) (i := i.toNat) (by omega)
  rw [Int.toNat_of_nonneg h0] at e
  rw [e]
  exact List.getElem_mem _
theorem Names.inj {p : Int} {ns : List Int} (N : Names p ns) {i j : Int} (hi : 0 ≤ i) (hi' : i < p) (hj : 0 ≤ j) (hj' : j < p) (e : nm ns i = nm ns j) : i = j := by
  have l := N.len
  have e1 := nm_get (ns := ns) (i := i.toNat) (by omega)
  have e2 := nm_get (ns := ns) (i := j.toNat) (by omega)
  rw [Int.toNat_of_nonneg hi] at e1
  rw [Int.toNat_of_nonneg hj] at e2
  rw [e1, e2] at e
  have := (List.getElem_inj (i := i.toNat) (j := j.toNat) (h₀ := by omega) (h₁ := by omega) N.nd).mp e
  omega
theorem Names.surj {p : Int} {ns : List Int} (N : Names p ns) {x : Int} (h0 : 0 ≤ x) (h : x < p) : ∃ i, 0 ≤ i ∧ i < p ∧ nm ns i = x := by
  have l := N.len
  have hm : x ∈ ns := by
    by_cases z : x ∈ ns
    · exact z
    · exfalso
      have := pigeon_lt N.nd (m := (List.range p.toNat).map fun (a : Nat) => (a : Int)) (z := x) (fun y hy => by
        have r := N.rg y hy
        exact List.mem_map.mpr ⟨y.toNat, List.mem_range.mpr (by omega), by omega⟩) (List.mem_map.mpr ⟨x.toNat, List.mem_range.mpr (by omega), by omega⟩) z
      rw [List.length_map, List.length_range] at this
      omega
  obtain ⟨i, hi, e⟩ := List.getElem_of_mem hm
  exact ⟨i, by omega, by omega, by rw [nm_get hi, e]⟩
def rename (ns : List Int) (t : T3) : T3 := tsort (nm ns t.1) (nm ns t.2.1) (nm ns t.2.2)
theorem Names.ok {p : Int} {ns : List Int} (N : Names p ns) {t : T3} (h : T3.ok p t) : T3.ok p (rename ns t) := by
  unfold T3.ok at h
  have r1 := N.rg _ (N.mem (i := t.1) (by omega) (by omega))
  have r2 := N.rg _ (N.mem (i := t.2.1) (by omega) (by omega))
  have r3 := N.rg _ (N.mem (i := t.2.2) (by omega) (by omega))
  refine tsort_ok r1 r2 r3 (fun z => ?_) (fun z => ?_) (fun z => ?_)
  · have := N.inj (by omega) (by omega) (by omega) (by omega) z; omega
  · have := N.inj (by omega) (by omega) (by omega) (by omega) z; omega
  · have := N.inj (by omega) (by omega) (by omega) (by omega) z; omega
theorem rename_cover {p : Int} {ns : List Int} {ts : List T3} (N : Names p ns) (h : ∀ t ∈ ts, T3.ok p t) (hc : Cover p ts) : Cover p (ts.map (rename ns)) := by
  intro a b h1 h2 h3
  obtain ⟨i, i0, i1, ei⟩ := N.surj (x := a) (by omega) (by omega)
  obtain ⟨j, j0, j1, ej⟩ := N.surj (x := b) (by omega) (by omega)
  have key : ∃ t ∈ ts, i ∈ t.l ∧ j ∈ t.l := by
    by_cases c : i < j
    · obtain ⟨t, ht, hk⟩ := mem_allPrs.mp (hc i j i0 c j1)
      exact ⟨t, ht, mem_of_prs hk⟩
    · have : j < i := by
        rcases Int.lt_trichotomy i j with z | z | z
        · omega
        · subst z; omega
        · exact z
      obtain ⟨t, ht, hk⟩ := mem_allPrs.mp (hc j i j0 this i1)
      exact ⟨t, ht, (mem_of_prs hk).2, (mem_of_prs hk).1⟩
  obtain ⟨t, ht, hi, hj⟩ := key
  refine mem_allPrs.mpr ⟨rename ns t, List.mem_map.mpr ⟨t, ht, rfl⟩, prs_of_mem (N.ok (h t ht)) ?_ ?_ h2⟩
  · unfold rename
    rw [tsort_mem]
    unfold T3.l at hi
    simp at hi
    rcases hi with z | z | z <;> simp [← z, ei]
  · unfold rename
    rw [tsort_mem]
    unfold T3.l at hj
    simp at hj
    rcases hj with z | z | z <;> simp [← z, ej]
theorem cover_perm {p : Int} {ts us : List T3} (hc : Cover p ts) (h : ∀ t ∈ ts, t ∈ us) : Cover p us := fun a b h1 h2 h3 => by
  obtain ⟨t, ht, hk⟩ := mem_allPrs.mp (hc a b h1 h2 h3)
  exact mem_allPrs.mpr ⟨t, h t ht, hk⟩
def lawPlan (p : Int) (ns : List Int) (k : Nat) : List T3 := ((made p).map (rename ns)).drop k ++ ((made p).map (rename ns)).take k
theorem lawPlan_mem {p : Int} {ns : List Int} {k : Nat} {t : T3} : t ∈ lawPlan p ns k ↔ t ∈ (made p).map (rename ns) := by
  unfold lawPlan
  rw [List.mem_append, Or.comm, ← List.mem_append, List.take_append_drop]
theorem lawPlan_len {p : Int} {ns : List Int} {k : Nat} : (lawPlan p ns k).length = (made p).length := by
  unfold lawPlan
  rw [List.length_append, Nat.add_comm, ← List.length_append, List.take_append_drop, List.length_map]
theorem lawPlan_ok {p : Int} {ns : List Int} {k : Nat} (h : Can p) (N : Names p ns) : ∀ t ∈ lawPlan p ns k, T3.ok p t := by
  intro t ht
  obtain ⟨u, hu, rfl⟩ := List.mem_map.mp (lawPlan_mem.mp ht)
  exact N.ok (made_ok h u hu)
theorem lawPlan_plan {p : Int} {ns : List Int} {k : Nat} (h : Can p) (N : Names p ns) : isPlan p (lawPlan p ns k) = true := by
  refine plan_of_cover (by unfold Can at h; omega) (cover_perm (rename_cover N (made_ok h) (made_cover h)) fun t ht => lawPlan_mem.mpr ht) ?_
  rw [lawPlan_len, made_len h]
  exact (many_three h).1
/-! doubled -/
def dbl1 (p : Int) (t : T3) : List T3 := [(t.1, t.2.1, t.2.2), (t.1, p + t.2.1, p + t.2.2), (t.2.1, p + t.1, p + t.2.2), (t.2.2, p + t.1, p + t.2.1)]
def dblU (p : Int) (ts : List T3) : List T3 := (List.range p.toNat).map (fun (i : Nat) => ((i : Int), p + i, 2 * p)) ++ ts.flatMap (dbl1 p)
theorem dblU_ok {p : Int} {ts : List T3} (h0 : 0 ≤ p) (h : ∀ t ∈ ts, T3.ok p t) : ∀ t ∈ dblU p ts, T3.ok (2 * p + 1) t := by
  intro t ht
  unfold dblU at ht
  rcases List.mem_append.mp ht with z | z
  · obtain ⟨i, hi, rfl⟩ := List.mem_map.mp z
    have := List.mem_range.mp hi
    unfold T3.ok; simp; omega
  · obtain ⟨u, hu, hm⟩ := List.mem_flatMap.mp z
    have := h u hu
    unfold T3.ok at this
    unfold dbl1 at hm
    simp at hm
    rcases hm with rfl | rfl | rfl | rfl <;> unfold T3.ok <;> simp <;> omega
theorem dblU_len {p : Int} {ts : List T3} : (dblU p ts).length = p.toNat + 4 * ts.length := by
  unfold dblU
  rw [List.length_append, List.length_map, List.length_range]
  congr 1
  induction ts with
  | nil => rfl
  | cons t r ih => rw [List.flatMap_cons, List.length_append, ih, List.length_cons]; show 4 + 4 * r.length = _; omega
theorem dblU_cover {p : Int} {ts : List T3} (h0 : 0 ≤ p) (h : ∀ t ∈ ts, T3.ok p t) (hc : Cover p ts) : Cover (2 * p + 1) (dblU p ts) := by
  have hok := dblU_ok h0 h
  intro a b h1 h2 h3
  have side : ∀ i : Int, 0 ≤ i → i < p → (i, p + i, 2 * p) ∈ dblU p ts := by
    intro i hi hi'
    unfold dblU
    refine List.mem_append_left _ (List.mem_map.mpr ⟨i.toNat, List.mem_range.mpr (by omega), ?_⟩)
    rw [Int.toNat_of_nonneg hi]
  have pair : ∀ i j : Int, 0 ≤ i → i < p → 0 ≤ j → j < p → i ≠ j → ∃ t ∈ ts, i ∈ t.l ∧ j ∈ t.l := by
    intro i j hi hi' hj hj' hne
    by_cases c : i < j
    · obtain ⟨t, ht, hk⟩ := mem_allPrs.mp (hc i j hi c hj')
      exact ⟨t, ht, mem_of_prs hk⟩
    · obtain ⟨t, ht, hk⟩ := mem_allPrs.mp (hc j i hj (by omega) hi')
      exact ⟨t, ht, (mem_of_prs hk).2, (mem_of_prs hk).1⟩
  have fin : ∀ t ∈ dblU p ts, a ∈ t.l → b ∈ t.l → (a, b) ∈ allPrs (dblU p ts) := fun t ht ha hb => mem_allPrs.mpr ⟨t, ht, prs_of_mem (hok t ht) ha hb h2⟩
  have inn : ∀ t ∈ ts, ∀ u ∈ dbl1 p t, u ∈ dblU p ts := by
    intro t ht u hu
    unfold dblU
    exact List.mem_append_right _ (List.mem_flatMap.mpr ⟨t, ht, hu⟩)
  by_cases c1 : b = 2 * p
  · subst c1
    by_cases c2 : a < p
    · exact fin _ (side a h1 c2) (by simp [T3.l]) (by simp [T3.l])
    · refine fin _ (side (a - p) (by omega) (by omega)) ?_ (by simp [T3.l])
      simp [T3.l]
      right; left; omega
  · by_cases c2 : b < p
    · obtain ⟨t, ht, hk⟩ := mem_allPrs.mp (hc a b h1 h2 c2)
      exact mem_allPrs.mpr ⟨t, inn t ht t (by simp [dbl1]), hk⟩
    · by_cases c3 : a < p
      · by_cases c4 : b = p + a
        · exact fin _ (side a h1 c3) (by simp [T3.l]) (by simp [T3.l, c4])
        · obtain ⟨t, ht, ha, hb⟩ := pair a (b - p) h1 c3 (by omega) (by omega) (by omega)
          have ht' := h t ht
          obtain ⟨x, y, z⟩ := t
          unfold T3.l at ha hb
          unfold T3.ok at ht'
          simp at ha hb ht'
          rcases ha with rfl | rfl | rfl
          · exact fin (a, p + y, p + z) (inn _ ht _ (by simp [dbl1])) (by simp [T3.l]) (by simp [T3.l]; omega)
          · exact fin (a, p + x, p + z) (inn _ ht _ (by simp [dbl1])) (by simp [T3.l]) (by simp [T3.l]; omega)
          · exact fin (a, p + x, p + y) (inn _ ht _ (by simp [dbl1])) (by simp [T3.l]) (by simp [T3.l]; omega)
      · obtain ⟨t, ht, hk⟩ := mem_allPrs.mp (hc (a - p) (b - p) (by omega) (by omega) (by omega))
        obtain ⟨x, y, z⟩ := t
        unfold prs at hk
        simp at hk
        rcases hk with hk | hk | hk
        · exact fin (z, p + x, p + y) (inn _ ht _ (by simp [dbl1])) (by simp [T3.l]; omega) (by simp [T3.l]; omega)
        · exact fin (y, p + x, p + z) (inn _ ht _ (by simp [dbl1])) (by simp [T3.l]; omega) (by simp [T3.l]; omega)
        · exact fin (x, p + y, p + z) (inn _ ht _ (by simp [dbl1])) (by simp [T3.l]; omega) (by simp [T3.l]; omega)
theorem plan_len {p : Int} {ts : List T3} (hp : isPlan p ts = true) : (3 * ts.length : Int) = p * (p - 1) / 2 := by
  have := (isPlan_iff.mp hp).2
  rw [allPrs_len] at this
  push_cast at this
  exact this
theorem dblU_plan {p : Int} {ts us : List T3} (h0 : 0 ≤ p) (h : ∀ t ∈ ts, T3.ok p t) (hp : isPlan p ts = true) (hu : us.Perm (dblU p ts)) : isPlan (2 * p + 1) us = true := by
  refine plan_of_cover (by omega) (cover_perm (dblU_cover h0 h (plan_cover h0 h hp)) fun t ht => hu.mem_iff.mpr ht) ?_
  rw [hu.length_eq, dblU_len]
  have l := plan_len hp
  have t := tri_two p
  unfold tri at t
  have e : (2 * p + 1) * (2 * p + 1 - 1) / 2 = p * (2 * p + 1) := by
    rw [show (2 * p + 1) * (2 * p + 1 - 1) = 2 * (p * (2 * p + 1)) by grind]
    exact Int.mul_ediv_cancel_left _ (by decide)
  rw [e]
  have e2 : p * (2 * p + 1) = 2 * (p * (p - 1)) + 3 * p := by grind
  rw [e2]
  push_cast
  omega
end G66
namespace G66
/-! what an answer shows -/
def bothIn (a b : Int) (t : T3) : Bool := decide (a ∈ t.l) && decide (b ∈ t.l)
def apartB (p : Int) (ts : List T3) (a b : Int) : Bool := decide (0 ≤ a ∧ a < b ∧ b < p) && !(ts.any (bothIn a b))
def common (s t : T3) : List Int := s.l.filter fun x => decide (x ∈ t.l)
def twiceB (ts : List T3) (a b : Int) : Bool := match ts[a.toNat]?, ts[b.toNat]? with
  | some s, some t => decide (0 ≤ a ∧ a < b ∧ b < ts.length) && decide (1 < (common s t).length)
  | _, _ => false
theorem twiceB_some {ts : List T3} {a b : Int} {s t : T3} (h : 0 ≤ a ∧ a < b ∧ b < ts.length) (hs : ts[a.toNat]? = some s) (ht : ts[b.toNat]? = some t) : twiceB ts a b = decide (1 < (common s t).length) := by
  unfold twiceB
  rw [hs, ht]
  simp [h]
theorem twiceB_out {ts : List T3} {a b : Int} (h : ¬ (0 ≤ a ∧ a < b ∧ b < ts.length)) : twiceB ts a b = false := by
  unfold twiceB
  split
  · simp [h]
  · rfl
theorem two_in {l : List Int} {x y : Int} (hx : x ∈ l) (hy : y ∈ l) (h : x ≠ y) : 1 < l.length := by
  match l, hx, hy with
  | [z], hx, hy =>
    simp at hx hy
    omega
  | _ :: _ :: r, _, _ => simp
theorem common_two {s t : T3} {k : PP} (hk : k.1 < k.2) (h1 : k ∈ prs s) (h2 : k ∈ prs t) : 1 < (common s t).length := by
  obtain ⟨x, y⟩ := k
  have a := mem_of_prs h1
  have b := mem_of_prs h2
  refine two_in (x := x) (y := y) ?_ ?_ (by simp at hk; omega)
  · unfold common; rw [List.mem_filter]; exact ⟨a.1, by simpa using b.1⟩
  · unfold common; rw [List.mem_filter]; exact ⟨a.2, by simpa using b.2⟩
/-! parts of lists -/
section
variable {α : Type}
def pcs {α : Type} (xs : List α) (i j : Nat) : List α := (xs.drop i).take j
theorem mem_pcs {xs : List α} {i j : Nat} {x : α} (h : x ∈ pcs xs i j) : x ∈ xs := List.mem_of_mem_drop (List.mem_of_mem_take h)
end
/-! pairs seen, with their three's count -/
def seenFrom : Nat → List T3 → List (PP × Int)
  | _, [] => []
  | n, t :: r => (prs t).map (fun k => (k, (n : Int))) ++ seenFrom (n + 1) r
theorem seen_keys : ∀ (n : Nat) (ts : List T3), (seenFrom n ts).map (·.1) = allPrs ts
  | _, [] => rfl
  | n, t :: r => by
    unfold seenFrom allPrs
    rw [List.map_append, seen_keys (n + 1) r, List.map_map, List.flatMap_cons]
    congr 1
theorem seen_snoc : ∀ (n : Nat) (ts : List T3) (t : T3), seenFrom n (ts ++ [t]) = seenFrom n ts ++ (prs t).map (fun k => (k, ((n + ts.length : Nat) : Int)))
  | n, [], t => by simp [seenFrom]
  | n, s :: r, t => by
    rw [List.cons_append]
    unfold seenFrom
    rw [seen_snoc (n + 1) r t, List.append_assoc, List.length_cons, show n + 1 + r.length = n + (r.length + 1) by omega]
theorem seen_mem : ∀ {n : Nat} {ts : List T3} {k : PP} {v : Int}, (k, v) ∈ seenFrom n ts → ∃ (j : Nat) (t : T3), ts[j]? = some t ∧ k ∈ prs t ∧ v = ((n + j : Nat) : Int)
  | n, t :: r, k, v, h => by
    unfold seenFrom at h
    rcases List.mem_append.mp h with h | h
    · obtain ⟨k', hk, e⟩ := List.mem_map.mp h
      cases e
      exact ⟨0, t, rfl, hk, by simp⟩
    · obtain ⟨j, u, h1, h2, h3⟩ := seen_mem h
      exact ⟨j + 1, u, h1, h2, by rw [h3]; congr 1; omega⟩
theorem putA_new {d : List (PP × Int)} {k : PP} {v : Int} (h : getA d k = none) : putA d k v = d ++ [(k, v)] := by
  unfold putA
  rw [if_neg (fun z => getA_none.mp h (any_iff.mp z))]
theorem prs_nodup {p : Int} {t : T3} (h : T3.ok p t) : (prs t).Nodup := by
  unfold T3.ok at h
  unfold prs
  simp
  omega
/-- what is seen when the j-th pair of the i-th three is looked at -/
def seenAt (ts : List T3) (i : Nat) (t : T3) (j : Nat) : List (PP × Int) := seenFrom 0 (ts.take i) ++ ((prs t).take j).map (fun k => (k, (i : Int)))
theorem seenAt_keys (ts : List T3) (i : Nat) (t : T3) (j : Nat) : (seenAt ts i t j).map (·.1) = allPrs (ts.take i) ++ (prs t).take j := by
  unfold seenAt
  rw [List.map_append, seen_keys, List.map_map]
  congr 1
  exact List.map_id' _
/-- a pair that was seen: two threes with it -/
theorem seen_twice {p : Int} {ts : List T3} {i j : Nat} {t : T3} {k : PP} {v : Int} (hok : ∀ t ∈ ts, T3.ok p t) (hi : ts[i]? = some t) (hk : (prs t)[j]? = some k) (h : getA (seenAt ts i t j) k = some v) :
    twiceB ts v i = true ∧ ¬ (allPrs ts).Nodup := by
  have ht : T3.ok p t := hok t (List.mem_of_getElem? hi)
  have hkt : k ∈ prs t := List.mem_of_getElem? hk
  have hlt : i < ts.length := (List.getElem?_eq_some_iff.mp hi).1
  have hm := getA_mem h
  unfold seenAt at hm
  rcases List.mem_append.mp hm with hm | hm
  · obtain ⟨a, s, h1, h2, h3⟩ := seen_mem hm
    have ha : a < i := by
      have := (List.getElem?_eq_some_iff.mp h1).1
      rw [List.length_take] at this
      omega
    have h1' : ts[a]? = some s := by 
      rw [List.getElem?_take] at h1
      rw [if_pos ha] at h1
      exact h1
    have hs : T3.ok p s := hok s (List.mem_of_getElem? h1')
    subst h3
    have rng := mem_prs ht hkt
    refine ⟨?_, ?_⟩
    · rw [twiceB_some (s := s) (t := t) (by omega) (by simpa using h1') (by simpa using hi)]
      exact decide_eq_true (common_two rng.2.1 h2 hkt)
    · intro hn
      unfold allPrs at hn
      have e : ts = ts.take i ++ t :: ts.drop (i + 1) := by
        have := List.take_append_drop i ts
        rw [← this]
        rw [List.take_append_drop]
        conv => lhs; rw [← List.take_append_drop i ts]
        congr 1
        rw [List.drop_eq_getElem_cons hlt]
        congr 1
        rw [List.getElem?_eq_getElem hlt] at hi
        exact Option.some.inj hi
      rw [e, List.flatMap_append, List.flatMap_cons, List.nodup_append] at hn
      refine hn.2.2 k ?_ k ?_ rfl
      · exact List.mem_flatMap.mpr ⟨s, List.mem_of_getElem? h1, h2⟩
      · exact List.mem_append_left _ hkt
  · exfalso
    obtain ⟨k', hk', e⟩ := List.mem_map.mp hm
    cases e
    have hn := prs_nodup ht
    have : k ∈ (prs t).take j := hk'
    obtain ⟨b, hb, eb⟩ := List.getElem_of_mem this
    rw [List.length_take] at hb
    rw [List.getElem_take] at eb
    have hj := (List.getElem?_eq_some_iff.mp hk)
    obtain ⟨hj1, hj2⟩ := hj
    have := (List.getElem_inj (i := b) (j := j) (h₀ := by omega) (h₁ := hj1) hn).mp (by rw [eb, hj2])
    omega
theorem seenAt_next {ts : List T3} {i j : Nat} {t : T3} {k : PP} (hk : (prs t)[j]? = some k) (h : getA (seenAt ts i t j) k = none) : putA (seenAt ts i t j) k i = seenAt ts i t (j + 1) := by
  rw [putA_new h]
  unfold seenAt
  rw [List.take_add_one, hk, List.map_append, List.append_assoc]
  rfl
theorem seenAt_nodup {ts : List T3} {i j : Nat} {t : T3} {k : PP} (hk : (prs t)[j]? = some k) (hn : ((seenAt ts i t j).map (·.1)).Nodup) (h : getA (seenAt ts i t j) k = none) : ((seenAt ts i t (j + 1)).map (·.1)).Nodup := by
  rw [← seenAt_next hk h]
  exact putA_nodup hn
theorem seenAt_done {ts : List T3} {i : Nat} {t : T3} (hi : ts[i]? = some t) : seenAt ts i t 3 = seenFrom 0 (ts.take (i + 1)) := by
  unfold seenAt
  rw [show ts.take (i + 1) = ts.take i ++ [t] by rw [List.take_add_one, hi]; rfl]
  rw [seen_snoc]
  have : (ts.take i).length = i := by
    have := (List.getElem?_eq_some_iff.mp hi).1
    rw [List.length_take]; omega
  rw [this, Nat.zero_add]
  rfl
theorem seenAt_zero (ts : List T3) (i : Nat) (t : T3) : seenAt ts i t 0 = seenFrom 0 (ts.take i) := by
  unfold seenAt; simp
theorem seen_get {ts : List T3} {a b : Int} : (getA (seenFrom 0 ts) (a, b)).isSome = true ↔ (a, b) ∈ allPrs ts := by
  rw [← seen_keys 0 ts]
  cases h : getA (seenFrom 0 ts) (a, b) with
  | none => simp only [Option.isSome_none]; constructor
            · intro z; cases z
            · intro z; exact absurd z (getA_none.mp h)
  | some v => simp only [Option.isSome_some, true_iff]; exact List.mem_map.mpr ⟨_, getA_mem h, rfl⟩
theorem any_both {p : Int} {ts : List T3} {a b : Int} (hok : ∀ t ∈ ts, T3.ok p t) (hab : a < b) : ts.any (bothIn a b) = decide ((a, b) ∈ allPrs ts) := by
  rw [Bool.eq_iff_iff, List.any_eq_true, decide_eq_true_iff]
  constructor
  · rintro ⟨t, ht, hb⟩
    unfold bothIn at hb
    simp at hb
    exact mem_allPrs.mpr ⟨t, ht, prs_of_mem (hok t ht) hb.1 hb.2 hab⟩
  · intro h
    obtain ⟨t, ht, hk⟩ := mem_allPrs.mp h
    have := mem_of_prs hk
    refine ⟨t, ht, ?_⟩
    unfold bothIn
    simp [this]
theorem seen_apart {p : Int} {ts : List T3} {a b : Int} (h0 : 0 ≤ p) (hok : ∀ t ∈ ts, T3.ok p t) (ha : 0 ≤ a) (hab : a < b) (hb : b < p) (h : (a, b) ∉ allPrs ts) : apartB p ts a b = true ∧ isPlan p ts = false := by
  refine ⟨?_, not_plan_of_apart h0 hok ha hab hb h⟩
  unfold apartB
  rw [any_both hok hab, decide_eq_false h, decide_eq_true ⟨ha, hab, hb⟩]
  rfl
/-! names, one more at a time -/
theorem names_nil : Names 0 [] := ⟨rfl, List.nodup_nil, fun x h => by cases h⟩
theorem names_insert {n k : Nat} {ms : List Int} (N : Names n ms) : Names ((n + 1 : Nat) : Int) (ms.take k ++ [(n : Int)] ++ ms.drop k) := by
  have hp : (ms.take k ++ [(n : Int)] ++ ms.drop k).Perm ((n : Int) :: ms) := by
    have a : (ms.take k ++ [(n : Int)] ++ ms.drop k).Perm ((n : Int) :: (ms.take k ++ ms.drop k)) := by
      rw [List.append_assoc, List.singleton_append]
      exact List.perm_middle
    rw [List.take_append_drop] at a
    exact a
  have hnew : (n : Int) ∉ ms := fun h => by have := N.rg _ h; omega
  refine ⟨?_, ?_, ?_⟩
  · rw [hp.length_eq, List.length_cons]
    have := N.len
    push_cast
    omega
  · rw [hp.nodup_iff, List.nodup_cons]
    exact ⟨hnew, N.nd⟩
  · intro x hx
    rcases List.mem_cons.mp (hp.mem_iff.mp hx) with rfl | h
    · omega
    · have := N.rg x h
      omega
end G66
namespace G66
open PySem PySem.Spec PyProof.Rows L2
/-! sizes of ints -/
def Bt (n : Nat) (x : Int) : Prop := Builtin.Int.intBits x ≤ n
theorem Bt.mono {m n : Nat} {x : Int} (h : Bt m x) (k : m ≤ n) : Bt n x := Nat.le_trans h k
theorem Bt.iff {n : Nat} {x : Int} : Bt n x ↔ x.natAbs < 2 ^ n := intBits_le_iff
theorem Bt.add {n : Nat} {x y : Int} (hx : Bt n x) (hy : Bt n y) : Bt (n + 1) (x + y) := by
  have e := intBits_add_le hx hy
  rw [Nat.max_self] at e
  exact e
theorem Bt.sub {n : Nat} {x y : Int} (hx : Bt n x) (hy : Bt n y) : Bt (n + 1) (x - y) := by
  have e := intBits_sub_le hx hy
  rw [Nat.max_self] at e
  exact e
theorem Bt.mul {m n : Nat} {x y : Int} (hx : Bt m x) (hy : Bt n y) : Bt (m + n) (x * y) := intBits_mul_le hx hy
theorem Bt.le {n : Nat} {x y : Int} (h0 : 0 ≤ x) (h : x ≤ y) (hy : Bt n y) : Bt n x := intBits_le_of_natAbs (by omega) hy
theorem Bt.abs {n : Nat} {x y : Int} (h : x.natAbs ≤ y.natAbs) (hy : Bt n y) : Bt n x := intBits_le_of_natAbs h hy
theorem natAbs_ediv {x y : Int} (h : 0 < y) : (x / y).natAbs ≤ x.natAbs := by
  rw [← Int.fdiv_eq_ediv_of_nonneg x (by omega)]
  exact natAbs_fdiv_le x y
theorem Bt.div {n : Nat} {x y : Int} (hx : Bt n x) (h : 0 < y) : Bt n (x / y) := intBits_le_of_natAbs (natAbs_ediv h) hx
theorem Bt.mod {n : Nat} {x y : Int} (hy : Bt n y) (h : 0 < y) : Bt n (x % y) := Bt.le (Int.emod_nonneg _ (by omega)) (Int.le_of_lt (Int.emod_lt_of_pos _ h)) hy
theorem Bt.small {x : Int} (h : x.natAbs < 18446744073709551616) : Bt 64 x := Bt.iff.mpr h
theorem Bt.big {x : Int} (h : Bt 4000 x) : Bt 4010 (16 * x) := (Bt.mul (Bt.iff.mpr (by decide) : Bt 5 16) h).mono (by decide)
theorem Bt.log {n : Nat} {x : Int} (h : Bt n x) : x.natAbs.log2 ≤ n := by
  unfold Bt Builtin.Int.intBits at h
  split at h
  · rename_i e
    have : x = 0 := by simpa using e
    subst this
    exact Nat.zero_le _
  · omega
def CMulB (i j : Int) : Prop := ∃ m n, Bt m i ∧ Bt n j ∧ m + n ≤ 134217728
def CDivB (_ j : Int) : Prop := 0 < j ∧ Bt 8000 j
section
variable {X : Cx}
theorem op_mulB : OpR X (binaryOp .Mult) (rI CMulB fun i j => .int (i * j)) := opI fun _ _ _ _ _ _ _ ⟨_, _, h1, h2, h3⟩ q => mul_int q (IntMulOk.of_le h1 h2 h3)
theorem op_fdivB : OpR X (binaryOp .FloorDiv) (rI CDivB fun i j => .int (i / j)) := opI fun i j _ _ _ _ _ hc q => by
  obtain ⟨h1, h2⟩ := hc
  have e : i.fdiv j = i / j := Int.fdiv_eq_ediv_of_nonneg i (by omega)
  refine floordiv_int (by omega) (by rw [e]; exact q) (.inl (PyProof.noPylong_of_log2 ?_))
  exact Nat.lt_of_le_of_lt h2.log (by decide)
theorem op_eqI : OpR X (compareOp .Eq) (rI0 fun i j => .bl (decide (i = j))) := opB0 fun i j _ _ _ _ _ q => eq_int (by rw [show (i == j) = decide (i = j) from rfl]; exact q)
theorem op_neI : OpR X (compareOp .NotEq) (rI0 fun i j => .bl (!decide (i = j))) := opB0 fun i j _ _ _ _ _ q => ne_int (by rw [show (i != j) = !decide (i = j) from rfl]; exact q)
theorem call_min2I (hc : X.calm = true) : CallR X (.builtin "min") (fun xs H Q => ∃ i j, xs = [.int i, .int j] ∧ Q (.int (min i j)) H) := by
  intro pins s σ H xs us Q I r h
  obtain ⟨i, j, e, q⟩ := h
  refine call_min2 hc pins s σ H xs us Q I r ⟨i, j, e, ?_⟩
  rw [show (if j < i then j else i) = min i j by split <;> omega]
  exact q
theorem call_max2I (hc : X.calm = true) : CallR X (.builtin "max") (fun xs H Q => ∃ i j, xs = [.int i, .int j] ∧ Q (.int (max i j)) H) := by
  intro pins s σ H xs us Q I r h
  obtain ⟨i, j, e, q⟩ := h
  refine call_max2 hc pins s σ H xs us Q I r ⟨i, j, e, ?_⟩
  rw [show (if j > i then j else i) = max i j by split <;> omega]
  exact q
/-! two readings of one thing -/
theorem pe_either {e : Expr} {t u : TE} (a : PE X e t) (b : PE X e u) : PE X e (fun σ H Q => t σ H Q ∨ u σ H Q) :=
  ⟨fun pins s σ H Q I h => h.elim (fun h => a.run pins s σ H Q I h) fun h => b.run pins s σ H Q I h⟩
theorem pt_either {e : Expr} {t u : TT} (a : PT X e t) (b : PT X e u) : PT X e (fun σ H Q => t σ H Q ∨ u σ H Q) :=
  ⟨fun pins s σ H Q I h => h.elim (fun h => a.run pins s σ H Q I h) fun h => b.run pins s σ H Q I h⟩
/-! C() where no class above has an __init__ of its own -/
structure MkO (K : PySem.W.Frag) (C : Addr) : Prop where
  makes : PySem.W.makesIn K C = true
  init : PySem.W.findIn K (.ref C) "__init__" = some (some (.builtin "object.__init__"))
  kp : PySem.W.keepIn K (.ref C) = true
def tMakeO (C : Addr) : TE := fun _ H Q => ∀ x dx, H x = none → H dx = none → dx ≠ x → Q (.ref x) (upd (upd H dx (.own x)) x (.ins C dx []))
theorem pe_makeO {C : Addr} {x : PySem.Str} {p pos : Pos} (M : MkO X.K C) (hg : Gl X x) (hm : X.mg x = some (.ref C)) (hdb : (x == ("__debug__" : PySem.Str)) = false := by decide) : PE X (.Call (.Name x p) [] [] pos) (tMakeO C) := by
  constructor
  intro pins s σ H Q I h
  refine wpAny_Call_Name_kw (ld_glob I hg hm ?_ hdb)
  refine PySem.W.callWith_K0 I.kIn M.kp ?_
  have q := h (s.heap.objs.size + 1) s.heap.objs.size (I.hok.fresh (Nat.le_succ _)) (I.hok.fresh (Nat.le_refl _)) (Nat.ne_of_lt (Nat.lt_succ_self _))
  have J := Inv.made (C := C) I
  have Y := PySem.W.makes_of (M := model X.prog X.w) I.kIn M.makes
  obtain ⟨hh, g, d, t, os⟩ := s
  refine wpAny_call (make_map0 I.kIn M.makes M.init (fun self => PySem.W.Looks.of_pure (PySem.W.oi_bind self)) ?_)
  have old : ∀ b o, hh.get? b = some o → ((hh.push PySem.W.emptyDict).push (PySem.W.instObj C hh.objs.size)).get? b = some o := fun b o e => Heap.get?_push_of_some _ (Heap.get?_push_of_some _ e)
  have there : ((hh.push PySem.W.emptyDict).push (PySem.W.instObj C hh.objs.size)).get? (hh.objs.size + 1) = some (PySem.W.instObj C hh.objs.size) := by heap_get
  have t1 : PySem.W.Looks (model X.prog X.w) ((hh.push PySem.W.emptyDict).push (PySem.W.instObj C hh.objs.size)) (typeOf (.ref (hh.objs.size + 1))) (.ref C) := (PySem.W.Looks.ld there).andThen .now
  have t2 : PySem.W.Looks (model X.prog X.w) ((hh.push PySem.W.emptyDict).push (PySem.W.instObj C hh.objs.size)) (isInstance (.ref (hh.objs.size + 1)) (.type "object")) true := t1.andThen (Y.top.keeps old)
  refine codeAny_call_builtin PySem.W.oi_plain PySem.W.entry_oi (@PySem.W.check_slot (model X.prog X.w) _ _ _ "object.__init__" "object" "__init__" (.ref (hh.objs.size + 1)) [] [] _ PySem.W.oi_kind PySem.W.oi_split t2 (PySem.W.oi_args _) ?_)
  rw [PySem.W.oi_run]
  refine wpAny_pure (And.intro rfl ?_)
  exact ⟨.ref (hh.objs.size + 1), _, J, rfl, q⟩
/-! a op1 b op2 c op3 d -/
def tChain3 (r1 r2 r3 : R2) (ta tb tc td : TE) : TE := fun σ H Q => ta σ H fun x H1 => tb σ H1 fun y H2 => r1 x y H2 fun z H3 => ∃ k, z = .bl k ∧
  (if k = true then tc σ H3 fun u H4 => r2 y u H4 fun z' H5 => ∃ k', z' = .bl k' ∧ (if k' = true then td σ H5 fun v H6 => r3 u v H6 Q else Q (.bl false) H5) else Q (.bl false) H3)
section
variable {a b c d : Expr} {ta tb tc td : TE} {pos : Pos} {o1 o2 o3 : CmpOp} {r1 r2 r3 : R2}
theorem pe_chain3 (h1 : OpR X (compareOp o1) r1) (h2 : OpR X (compareOp o2) r2) (h3 : OpR X (compareOp o3) r3) (ha : PE X a ta) (hb : PE X b tb) (hc : PE X c tc) (hd : PE X d td)
    (hm : lastMarks [o1, o2, o3] [b, c, d] = false := by with_unfolding_all rfl) : PE X (.Compare a [o1, o2, o3] [b, c, d] pos) (tChain3 r1 r2 r3 ta tb tc td) := by
  constructor
  intro pins s σ H Q I h
  refine Compare_chain (thn (ha.run pins s σ H _ I h) fun v s1 ⟨x, H1, I1, rx, q1⟩ => chain_link (thn (hb.run pins s1 σ H1 _ I1 q1) fun u s2 ⟨y, H2, I2, ry, q2⟩ =>
    thn (h1 pins s2 σ H2 x y v u _ I2 rx ry q2) fun e s3 ⟨z, H3, I3, rz, k, ez, q3⟩ => ?_)) hm
  subst ez; cases rz
  refine wpAny_truthy_bool ?_
  cases k with
  | false => exact ite_ff ⟨.bl false, H3, I3, rfl, q3⟩
  | true =>
    refine ite_tt (chain_link (thn (hc.run pins s3 σ H3 _ I3 q3) fun u2 s4 ⟨y2, H4, I4, ry2, q4⟩ => thn (h2 pins s4 σ H4 y y2 u u2 _ I4 ry ry2 q4) fun e' s5 ⟨z', H5, I5, rz', k', ez', q5⟩ => ?_))
    subst ez'; cases rz'
    refine wpAny_truthy_bool ?_
    cases k' with
    | false => exact ite_ff ⟨.bl false, H5, I5, rfl, q5⟩
    | true => exact ite_tt (chain_last (thn (hd.run pins s5 σ H5 _ I5 q5) fun u3 s6 ⟨y3, H6, I6, ry3, q6⟩ => h3 pins s6 σ H6 y2 y3 u2 u3 Q I6 ry2 ry3 q6))
theorem pt_chain3 (h1 : OpR X (compareOp o1) r1) (h2 : OpR X (compareOp o2) r2) (h3 : OpR X (compareOp o3) r3) (ha : PE X a ta) (hb : PE X b tb) (hc : PE X c tc) (hd : PE X d td)
    (hm : lastMarks [o1, o2, o3] [b, c, d] = false := by with_unfolding_all rfl) : PT X (.Compare a [o1, o2, o3] [b, c, d] pos) (tTest (tChain3 r1 r2 r3 ta tb tc td)) := by
  constructor
  intro pins s σ H Q I h
  refine isTrue_chain (thn (ha.run pins s σ H _ I h) fun v s1 ⟨x, H1, I1, rx, q1⟩ => test_link (thn (hb.run pins s1 σ H1 _ I1 q1) fun u s2 ⟨y, H2, I2, ry, q2⟩ =>
    thn (h1 pins s2 σ H2 x y v u _ I2 rx ry q2) fun e s3 ⟨z, H3, I3, rz, k, ez, q3⟩ => ?_)) hm
  subst ez; cases rz
  refine wpAny_truthy_bool ?_
  cases k with
  | false =>
    obtain ⟨_, e1, q'⟩ := q3
    cases e1
    exact ite_ff ⟨H3, I3, q'⟩
  | true =>
    refine ite_tt (test_link (thn (hc.run pins s3 σ H3 _ I3 q3) fun u2 s4 ⟨y2, H4, I4, ry2, q4⟩ => thn (h2 pins s4 σ H4 y y2 u u2 _ I4 ry ry2 q4) fun e' s5 ⟨z', H5, I5, rz', k', ez', q5⟩ => ?_))
    subst ez'; cases rz'
    refine wpAny_truthy_bool ?_
    cases k' with
    | false =>
      obtain ⟨_, e1, q'⟩ := q5
      cases e1
      exact ite_ff ⟨H5, I5, q'⟩
    | true =>
      refine ite_tt (test_last (thn (hd.run pins s5 σ H5 _ I5 q5) fun u3 s6 ⟨y3, H6, I6, ry3, q6⟩ => thn (h3 pins s6 σ H6 y2 y3 u2 u3 _ I6 ry2 ry3 q6) fun e6 s7 ⟨z7, H7, I7, r7, k7, e7, q7⟩ => ?_))
      subst e7; cases r7
      exact wpAny_truthy_bool ⟨H7, I7, q7⟩
end
end
/-! range(a, b) of any size -/
theorem turn_long {P : Program} {w : World} {K : PySem.W.Frag} {tg : Expr} (it : Addr) (lo : Int) (n : Nat) : Turn P w K tg (Itr lo n) [it] it (fun i h => IsLongIter h it (lo + (i : Nat) * 1) ((n : Int) - (i : Nat)) 1) where
  mem := List.mem_singleton.mpr rfl
  obj := by
    intro i h st b hb
    cases List.mem_singleton.mp hb
    exact ⟨_, st, fun v z => by cases (show Data.fields _ = Data.cell v from z)⟩
  keep := fun i h h' st k => k it (List.mem_singleton.mpr rfl) _ st
  item := by
    intro X e1 e2 e3 hc i pins s σ H E I hf st hg
    subst e1 e2 e3
    obtain ⟨f0, f1, f2, f3, f4, f5⟩ := hf it (List.mem_singleton.mpr rfl)
    refine (Walks.longrange (prog := X.prog) (w := X.w) (I.ok.hd hc) it lo 1 n).item i s _ _ hg st fun v h' tk hv st' kk => ?_
    obtain ⟨t, rfl⟩ := hv
    have J : Inv X pins σ H { s with heap := h', toks := tk } := I.turned (fun b o hb e => kk b o (fun z => hb (List.mem_singleton.mp z)) e) f0 f1 f3 f4 f5
    refine ⟨_, rfl, go_of (s := { s with heap := h', toks := tk }) (n := "longrange_iterator") st' rfl rfl (by decide) ?_⟩
    refine ⟨.int (lo + i), H, J, ⟨t, by rw [Int.mul_one]⟩, ⟨rfl, rfl⟩, st', fun b hb => (hf b hb).1⟩
  done := by
    intro X e1 e2 e3 hc i pins s σ H E I hf st hg
    subst e1 e2 e3
    obtain ⟨f0, f1, f2, f3, f4, f5⟩ := hf it (List.mem_singleton.mpr rfl)
    have hg' : n ≤ i := hg
    exact wpAny_pyNext_long_end (I.ok.hd hc) st (by omega) fun h' eb => ⟨rfl, I.turned (t' := s.toks) (fun b o hb e => eb b o hb e) f0 f1 f3 f4 f5⟩
  self := fun _ _ _ _ _ st h => wpAny_pyIter_longiter st h
section
variable {X : Cx} {tg : Expr}
theorem range_any {pins : List (Addr × Obj)} {σ : L2.St} {H : Hp} {s : Shared} {R : It → Hp → Prop} {E : Value → Shared → Prop} {lo hi : Int} {t u v : Tok} {tk : Nat} (I : Inv X pins σ H s)
    (q : R (Itr lo (hi - lo).toNat) H) : wpAny (model X.prog X.w) X.A (pyIter (.ref s.heap.objs.size)) (PIE X pins σ tg R) E { s with heap := s.heap.push { cls := .type "range", data := .fields #[.int lo t, .int hi u, .int 1 v] }, toks := tk } := by
  have J : Inv X pins σ H { s with heap := s.heap.push { cls := .type "range", data := .fields #[.int lo t, .int hi u, .int 1 v] }, toks := tk } := I.kept fun b o e => Heap.get?_push_of_some _ e
  have e1 : lo + ((0 : Nat) : Int) * 1 = lo := by simp
  have e2 : (((hi - lo).toNat : Nat) : Int) - ((0 : Nat) : Int) = Builtin.Range.rangeSize lo hi 1 := by
    rw [rangeSize_one]
    split <;> omega
  cases hs : Builtin.Range.small lo hi 1 with
  | true =>
    refine wpAny_pyIter_range (IsRange.new ..) hs ?_
    refine ⟨_, [(s.heap.push { cls := .type "range", data := .fields #[.int lo t, .int hi u, .int 1 v] }).objs.size], _, _, H, rfl, J.kept (t' := tk) fun b o e => Heap.get?_push_of_some _ e, turn_range _ lo (hi - lo).toNat, ?_, fun b hb => ?_, q⟩
    · show IsRangeIter _ _ (lo + ((0 : Nat) : Int) * 1) ((((hi - lo).toNat : Nat) : Int) - ((0 : Nat) : Int)) 1
      rw [e1, e2]
      exact Heap.get?_push_size _ rfl
    · cases List.mem_singleton.mp hb
      exact J.fpOk (Nat.le_refl _) (J.hok.fresh (Nat.le_refl _))
  | false =>
    refine wpAny_pyIter_longrange (IsRange.new ..) hs ?_
    refine ⟨_, [(s.heap.push { cls := .type "range", data := .fields #[.int lo t, .int hi u, .int 1 v] }).objs.size], _, _, H, rfl, J.kept (t' := tk) fun b o e => Heap.get?_push_of_some _ e, turn_long _ lo (hi - lo).toNat, ?_, fun b hb => ?_, q⟩
    · show IsLongIter _ _ (lo + ((0 : Nat) : Int) * 1) ((((hi - lo).toNat : Nat) : Int) - ((0 : Nat) : Int)) 1
      rw [e1, e2]
      exact Heap.get?_push_size _ rfl
    · cases List.mem_singleton.mp hb
      exact J.fpOk (Nat.le_refl _) (J.hok.fresh (Nat.le_refl _))
def iRngA (ta : TA) : TI := fun σ H R => ta σ H fun vs H1 => ∃ i j : Int, vs = [.int i, .int j] ∧ R (Itr i (j - i).toNat) H1
theorem pi_rangeA {a b : Expr} {ta : TA} {p pos : Pos} (hg : Gl X "range") (hm : X.mg "range" = none) (ha : PA X [a, b] ta) (hs : starEach [a, b] X.env = [(false, eval a X.env), (false, eval b X.env)] := by rfl) (hs2 : starEach [b] X.env = [(false, eval b X.env)] := by rfl) :
    PI X tg (.Call (.Name "range" p) [a, b] [] pos) (iRngA ta) := by
  constructor
  intro pins s σ H R I h
  refine Call_ (ld_blt I hg hm boot_range (PyProof.Rows.callWith_type1 (thn (ha.run pos pins s σ H _ I h) fun us s1 ⟨vs, H1, I1, r1, q1⟩ => ?_) (by rw [hs, hs2]) (by rw [hs2]; rfl)))
  obtain ⟨i, j, e, q⟩ := q1
  subst e
  obtain ⟨u1, u2, rfl, ra, rb⟩ := Vals.two r1
  obtain ⟨t, rfl⟩ := ra
  obtain ⟨t', rfl⟩ := rb
  exact call_range_2 (range_any I1 q)
end

/-! defs by name -/
structure Dfn (K : PySem.W.Frag) (mg : PySem.Str → Option Value) (x : PySem.Str) (st : Stmt) : Prop where
  ex : ∃ f fd, Fun K x x st f fd ∧ mg x = some (.ref f)
structure Df (P : Program) (w : World) (K : PySem.W.Frag) (mg : PySem.Str → Option Value) (base : Heap) (CX : CXT) (k : Nat) (x : PySem.Str) (ps : List PySem.Str) (sp : Sp) : Prop where
  ex : ∃ f fd, FnOk P w K mg base CX k f fd ps sp ∧ mg x = some (.ref f) ∧ PySem.W.keepIn K (.ref f) = true ∧ Binds K fd ps []
section
variable {P : Program} {w : World} {K : PySem.W.Frag} {mg : PySem.Str → Option Value} {base : Heap}
theorem Dfn.ok {x : PySem.Str} {st : Stmt} {N ps : List PySem.Str} {k : Nat} {sp : Sp} (F : Dfn K mg x st) (S : FnScope N ps (defScope st))
    (hb : ∀ (kV doc pm : Value) (an : Option Addr) (cdv ct : Value) (us : List Value), us.length = ps.length → bindArgs (PySem.W.fnOf x x (defArgs st) (defBody st) (defScope st) .none kV doc pm an cdv ct) ⟨us, []⟩ = pure (ps.zip us))
    (len : ∀ vs H Q E, sp vs H Q E → vs.length = ps.length)
    (hbody : ∀ (f : Addr) (cdv : Value) (A : Around) (outer : List Env) (s : Shared) (H : Hp) (vs : List V) (Q : VK) (E : XK), Room k (A.deeper (envOfC x (defScope st) s.heap.objs.size f cdv)) → sp vs H Q E →
      ∃ t, PSs (cxOf CX0 P w K mg base N x (defScope st) f cdv A outer s H E).nox (defBody st) t ∧ t { nx := fun _ H' => Q .non H', rt := Q } (start N vs) H) : Df P w K mg base CX0 (k + 1) x ps sp := by
  obtain ⟨f, fd, F1, m⟩ := F.ex
  exact ⟨f, fd, F1.ok S len (fun cdv A outer s H vs Q E hr h => hbody f cdv A outer s H vs Q E hr h), m, F1.kp, F1.binds hb⟩
theorem Df.up {CX : CXT} {j k : Nat} {x : PySem.Str} {ps : List PySem.Str} {sp : Sp} (D : Df P w K mg base CX j x ps sp) (h : j ≤ k) : Df P w K mg base CX k x ps sp := by
  obtain ⟨f, fd, F, m, kp, b⟩ := D.ex
  exact ⟨f, fd, F.mono h, m, kp, b⟩
end
def tFn (sp : Sp) (E : XK) (t : TA) : TE := fun σ H Q => t σ H fun vs H1 => sp vs H1 Q E
section
variable {X : Cx} {CX : CXT} {j k : Nat} {sp : Sp} {E : XK} {x : PySem.Str} {ps : List PySem.Str} {p pos : Pos} {e : Expr} {es : List Expr} {t : TA}
theorem pe_fn (D : Df X.prog X.w X.K X.mg X.base CX j x ps sp) (hr : Room k X.A) (hg : Gl X x) (hx : Passes CX X E) (ha : PA X (e :: es) t) (hjk : j ≤ k := by decide)
    (hdb : (x == ("__debug__" : PySem.Str)) = false := by decide) (he : starEach (e :: es) X.env = (false, eval e X.env) :: starEach es X.env := by rfl) (hpl : (backTo pos (starEach es X.env)).any (·.1) = false := by rfl) :
    PE X (.Call (.Name x p) (e :: es) [] pos) (tFn sp E t) := by
  obtain ⟨f, fd, F, m, kp, b⟩ := D.ex
  have q := pe_call (p := p) (pos := pos) F (hr.mono hjk) hg m kp b .nil hx ha hdb he hpl
  refine ⟨fun pins s σ H Q I h => q.run pins s σ H Q I ?_⟩
  unfold tCall
  simp only [List.append_nil]
  exact h
theorem pe_fn0 (D : Df X.prog X.w X.K X.mg X.base CX j x ps sp) (hr : Room k X.A) (hg : Gl X x) (hx : Passes CX X E) (hjk : j ≤ k := by decide)
    (hdb : (x == ("__debug__" : PySem.Str)) = false := by decide) : PE X (.Call (.Name x p) [] [] pos) (tFn sp E tNil) := by
  obtain ⟨f, fd, F, m, kp, b⟩ := D.ex
  have q := pe_call0 (p := p) (pos := pos) F (hr.mono hjk) hg m kp b .nil hx hdb
  refine ⟨fun pins s σ H Q I h => q.run pins s σ H Q I ?_⟩
  unfold tCall
  simp only [List.append_nil]
  exact h
end
/-! classes and methods by name -/
structure CF (K : PySem.W.Frag) (C : Addr) : Prop where
  cl : Cls K C
  ha : PySem.W.findIn K (.ref C) "__class__" = some (some (.builtin "object.__class__"))
  hn : PySem.W.specialIn K (.builtin "object.__class__") "__get__" = some (some (.builtin "getset_descriptor.__get__"))
  htk : PySem.W.takesIn K (.builtin "object.__class__") = some true
  hm : PySem.W.mroIn K C (.type "object") = some true
theorem CF.ty {K : PySem.W.Frag} {C a dx : Addr} {H : Hp} {fs : List (PySem.Str × V)} (F : CF K C) (e : H a = some (.ins C dx fs)) : TyX K H (.ref a) (.ref C) := .base (.ins e F.cl F.ha F.hn F.htk F.hm)
structure Mfn (K : PySem.W.Frag) (C : Addr) (m q : PySem.Str) (st : Stmt) : Prop where
  ex : ∃ f fd, Fun K m q st f fd ∧ Meth K C m f
structure Mf (P : Program) (w : World) (K : PySem.W.Frag) (mg : PySem.Str → Option Value) (base : Heap) (CX : CXT) (k : Nat) (C : Addr) (m : PySem.Str) (ps : List PySem.Str) (sp : Sp) : Prop where
  ex : ∃ f fd, FnOk P w K mg base CX k f fd ps sp ∧ Meth K C m f ∧ Binds K fd ps []
section
variable {P : Program} {w : World} {K : PySem.W.Frag} {mg : PySem.Str → Option Value} {base : Heap}
theorem Mfn.ok {C : Addr} {x q : PySem.Str} {st : Stmt} {N ps : List PySem.Str} {k : Nat} {sp : Sp} (F : Mfn K C x q st) (S : FnScope N ps (defScope st))
    (hb : ∀ (kV doc pm : Value) (an : Option Addr) (cdv ct : Value) (us : List Value), us.length = ps.length → bindArgs (PySem.W.fnOf x q (defArgs st) (defBody st) (defScope st) .none kV doc pm an cdv ct) ⟨us, []⟩ = pure (ps.zip us))
    (len : ∀ vs H Q E, sp vs H Q E → vs.length = ps.length)
    (hbody : ∀ (f : Addr) (cdv : Value) (A : Around) (outer : List Env) (s : Shared) (H : Hp) (vs : List V) (Q : VK) (E : XK), Room k (A.deeper (envOfC q (defScope st) s.heap.objs.size f cdv)) → sp vs H Q E →
      ∃ t, PSs (cxOf CX0 P w K mg base N q (defScope st) f cdv A outer s H E).nox (defBody st) t ∧ t { nx := fun _ H' => Q .non H', rt := Q } (start N vs) H) : Mf P w K mg base CX0 (k + 1) C x ps sp := by
  obtain ⟨f, fd, F1, m⟩ := F.ex
  exact ⟨f, fd, F1.ok S len (fun cdv A outer s H vs Q E hr h => hbody f cdv A outer s H vs Q E hr h), m, F1.binds hb⟩
end
def tMt (C : Addr) (m : PySem.Str) (sp : Sp) (E : XK) (ta : TE) (t : TA) : TE := fun σ H Q => ta σ H fun x H1 => ∃ a dx fs, x = .ref a ∧ H1 a = some (.ins C dx fs) ∧ fs.lookup m = none ∧ t σ H1 fun vs H2 => sp (x :: vs) H2 Q E
section
variable {X : Cx} {CX : CXT} {j k : Nat} {C : Addr} {sp : Sp} {E : XK} {m x : PySem.Str} {ps : List PySem.Str} {p pos apos : Pos} {o e : Expr} {es : List Expr} {ta : TE} {t : TA}
theorem pe_mt {pl : Sem Bool} (D : Mf X.prog X.w X.K X.mg X.base CX j C m ps sp) (F : CF X.K C) (hr : Room k X.A) (hx : Passes CX X E) (he : PE X o ta) (ha : PA X (e :: es) t) (hjk : j ≤ k := by decide)
    (hst : starEach (e :: es) X.env = (false, eval e X.env) :: starEach es X.env := by rfl) (hpl : (backTo pos (starEach es X.env)).any (·.1) = false := by rfl)
    (ht : eval (.Call (.Attribute o m apos) (e :: es) [] pos) X.env = (do
      let ov ← eval o X.env
      standAt apos.atName
      let (f, first) ← holding [ov] (getMethod ov m pl)
      callWith pos f first (backTo pos (starEach (e :: es) X.env)) (backToKw pos (keywordEach [] X.env))) := by rfl) :
    PE X (.Call (.Attribute o m apos) (e :: es) [] pos) (tMt C m sp E ta t) := by
  obtain ⟨f, fd, G, me, b⟩ := D.ex
  have q := pe_meth he F.cl me G (hr.mono hjk) b .nil hx ha hst hpl ht
  refine ⟨fun pins s σ H Q I h => q.run pins s σ H Q I ?_⟩
  unfold tMeth
  simp only [List.append_nil]
  exact h
/-! C(e, ..) by an __init__ of the text -/
structure MkI (K : PySem.W.Frag) (C : Addr) (q : PySem.Str) (st : Stmt) : Prop where
  ex : ∃ f fd, Fun K "__init__" q st f fd ∧ Mk K C f
def tMk (C : Addr) (sp : Sp) (E : XK) (t : TA) : TE := fun σ H Q => t σ H fun vs H1 => ∀ x dx, H1 x = none → H1 dx = none → dx ≠ x →
  sp (.ref x :: vs) (upd (upd H1 dx (.own x)) x (.ins C dx [])) (fun v H2 => v = .non ∧ Q (.ref x) H2) E
structure Mi (P : Program) (w : World) (K : PySem.W.Frag) (mg : PySem.Str → Option Value) (base : Heap) (CX : CXT) (k : Nat) (C : Addr) (ps : List PySem.Str) (sp : Sp) : Prop where
  ex : ∃ f fd, FnOk P w K mg base CX k f fd ps sp ∧ Mk K C f ∧ Binds K fd ps []
theorem pe_mk (D : Mi X.prog X.w X.K X.mg X.base CX j C ps sp) (hr : Room k X.A) (hg : Gl X x) (hm : X.mg x = some (.ref C)) (hx : Passes CX X E) (ha : PA X (e :: es) t) (hjk : j + 1 ≤ k := by decide)
    (hdb : (x == ("__debug__" : PySem.Str)) = false := by decide) (he : starEach (e :: es) X.env = (false, eval e X.env) :: starEach es X.env := by rfl) (hpl : (backTo pos (starEach es X.env)).any (·.1) = false := by rfl) :
    PE X (.Call (.Name x p) (e :: es) [] pos) (tMk C sp E t) := by
  obtain ⟨f, fd, G, M, b⟩ := D.ex
  have q := pe_make (p := p) (pos := pos) M G (hr.mono hjk) hg hm b .nil hx ha hdb he hpl
  refine ⟨fun pins s σ H Q I h => q.run pins s σ H Q I ?_⟩
  unfold tMake
  simp only [List.append_nil]
  exact h
end
theorem MkI.ok {P : Program} {w : World} {K : PySem.W.Frag} {mg : PySem.Str → Option Value} {base : Heap} {C : Addr} {q : PySem.Str} {st : Stmt} {N ps : List PySem.Str} {k : Nat} {sp : Sp} (F : MkI K C q st) (S : FnScope N ps (defScope st))
    (hb : ∀ (kV doc pm : Value) (an : Option Addr) (cdv ct : Value) (us : List Value), us.length = ps.length → bindArgs (PySem.W.fnOf "__init__" q (defArgs st) (defBody st) (defScope st) .none kV doc pm an cdv ct) ⟨us, []⟩ = pure (ps.zip us))
    (len : ∀ vs H Q E, sp vs H Q E → vs.length = ps.length)
    (hbody : ∀ (f : Addr) (cdv : Value) (A : Around) (outer : List Env) (s : Shared) (H : Hp) (vs : List V) (Q : VK) (E : XK), Room k (A.deeper (envOfC q (defScope st) s.heap.objs.size f cdv)) → sp vs H Q E →
      ∃ t, PSs (cxOf CX0 P w K mg base N q (defScope st) f cdv A outer s H E).nox (defBody st) t ∧ t { nx := fun _ H' => Q .non H', rt := Q } (start N vs) H) : Mi P w K mg base CX0 (k + 1) C ps sp := by
  obtain ⟨f, fd, F1, m⟩ := F.ex
  exact ⟨f, fd, F1.ok S len (fun cdv A outer s H vs Q E hr h => hbody f cdv A outer s H vs Q E hr h), m, F1.binds hb⟩
theorem merge2 {A G : Prop} (f : A → G) (a : A) : G := f a
theorem same_new {H : Hp} {p : Addr} {o : HO} (h : H p = none) : Same H (upd H p o) := fun b x e => by
  rw [upd_ne (ne_of_none e h)]; exact e
/-! tests -/
theorem ifT {p A B : Prop} [Decidable p] (h : p) (a : A) : if decide p = true then A else B := by rw [if_pos (decide_eq_true h)]; exact a
theorem ifF {p A B : Prop} [Decidable p] (h : ¬ p) (b : B) : if decide p = true then A else B := by rw [if_neg (fun z => h (of_decide_eq_true z))]; exact b
theorem ifNT {p A B : Prop} [Decidable p] (h : ¬ p) (a : A) : if (!decide p) = true then A else B := by rw [if_pos (by simp [h])]; exact a
theorem ifNF {p A B : Prop} [Decidable p] (h : p) (b : B) : if (!decide p) = true then A else B := by rw [if_neg (by simp [h])]; exact b
theorem ifD {p A B : Prop} [Decidable p] (a : p → A) (b : ¬ p → B) : if decide p = true then A else B := by
  by_cases h : p
  · exact ifT h (a h)
  · exact ifF h (b h)
theorem ifND {p A B : Prop} [Decidable p] (a : ¬ p → A) (b : p → B) : if (!decide p) = true then A else B := by
  by_cases h : p
  · exact ifNF h (b h)
  · exact ifNT h (a h)

/-! one step of a reading each -/
section
variable {σ : L2.St} {H : Hp} {Q : VK} {D : Ends} {ta tb tc td : TE} {v x y : V} {i j : Int} {b c : Bool} {k n m : Nat}
theorem g_var (e : σ[n]? = some (some v)) (h : Q v H) : tVar n σ H Q := ⟨v, e, h⟩
theorem g_c (h : Q v H) : tC v σ H Q := h
theorem g_op {r : R2} (h : ta σ H fun x H1 => tb σ H1 fun y H2 => r x y H2 Q) : tOp r ta tb σ H Q := h
theorem g_un {r : V → Hp → VK → Prop} (h : ta σ H fun x H1 => r x H1 Q) : tUn r ta σ H Q := h
theorem g_rI {C : Int → Int → Prop} {g : Int → Int → V} (c : C i j) (h : Q (g i j) H) : rI C g (.int i) (.int j) H Q := ⟨i, j, rfl, rfl, c, h⟩
theorem g_rI0 {g : Int → Int → V} (h : Q (g i j) H) : rI0 g (.int i) (.int j) H Q := ⟨i, j, rfl, rfl, h⟩
theorem g_rU {g : Int → V} (h : Q (g i) H) : rU g (.int i) H Q := ⟨i, rfl, h⟩
theorem g_eqB (h : Q (.bl (decide (b = c))) H) : rEq (.bl b) (.bl c) H Q := ⟨rfl, by rw [show decide (V.bl b = V.bl c) = decide (b = c) by simp]; exact h⟩
theorem g_neB (h : Q (.bl (!decide (b = c))) H) : rNe (.bl b) (.bl c) H Q := ⟨rfl, by rw [show decide (V.bl b = V.bl c) = decide (b = c) by simp]; exact h⟩
theorem g_seq {t u : TS} (h : t { D with nx := u D } σ H) : tSeq t u D σ H := h
theorem g_next (h : D.nx σ H) : tNext D σ H := h
theorem g_drop (h : ta σ H fun _ H1 => D.nx σ H1) : tDrop ta D σ H := h
theorem g_ret (h : ta σ H D.rt) : tRet ta D σ H := h
theorem g_retN (h : D.rt .non H) : tRetN D σ H := h
theorem g_ifS {t u : TS} {ct : TT} (h : ct σ H fun b H1 => if b = true then t D σ H1 else u D σ H1) : tIfS ct t u D σ H := h
theorem g_asg {g : TG} (h : ta σ H fun x H1 => g x σ H1 D.nx) : tAsg ta g D σ H := h
theorem start_eq {t : TS} {N : List PySem.Str} {vs : List V} (e : L2.start N vs = σ) (h : t D σ H) : t D (L2.start N vs) H := by rw [e]; exact h
theorem set_z {α : Type} {a x : α} {xs : List α} : List.set (x :: xs) 0 a = a :: xs := rfl
theorem set_s {α : Type} {a x : α} {xs ys : List α} {n : Nat} (e : List.set xs n a = ys) : List.set (x :: xs) (n + 1) a = x :: ys := by rw [List.set_cons_succ, e]
theorem g_name {R : L2.St → Hp → Prop} {σ' : L2.St} (e : σ.set n (some v) = σ') (h : R σ' H) : gName n v σ H R := by unfold gName; rw [e]; exact h
def ParK (n m : Nat) (σ : L2.St) (R : L2.St → Hp → Prop) (vs : List V) (H : Hp) : Prop := ∃ v w, vs = [v, w] ∧ R ((σ.set n (some v)).set m (some w)) H
theorem g_par {t : TA} (h : t σ H fun vs H1 => ParK n m σ D.nx vs H1) : tPar n m t D σ H := h
theorem g_par2 {R : L2.St → Hp → Prop} {σ1 σ2 : L2.St} (e1 : σ.set n (some x) = σ1) (e2 : σ1.set m (some y) = σ2) (h : R σ2 H) : ParK n m σ R [x, y] H := ⟨x, y, rfl, by rw [e1, e2]; exact h⟩
def AugK (n : Nat) (σ : L2.St) (R : L2.St → Hp → Prop) (z : V) (H : Hp) : Prop := R (σ.set n (some z)) H
theorem g_aug {ti : TIp} (e : σ[n]? = some (some x)) (h : ta σ H fun y H1 => ti x y H1 fun z H2 => AugK n σ D.nx z H2) : tAug n ta ti D σ H := ⟨x, e, h⟩
theorem g_augk {R : L2.St → Hp → Prop} {σ' : L2.St} (e : σ.set n (some v) = σ') (h : R σ' H) : AugK n σ R v H := by unfold AugK; rw [e]; exact h
theorem g_ipI {f : Int → Int → Int} (h : Q (.int (f i j)) H) : ipI f (.int i) (.int j) H Q := ⟨i, j, rfl, rfl, h⟩
theorem g_tB {R : Bool → Hp → Prop} (h : ta σ H fun x H1 => ∃ c, x = .bl c ∧ R c H1) : tB ta σ H R := h
theorem g_test {R : Bool → Hp → Prop} (h : ta σ H fun x H1 => ∃ c, x = .bl c ∧ R c H1) : tTest ta σ H R := h
theorem g_exbl {R : Bool → Prop} (h : R b) : ∃ c, V.bl b = V.bl c ∧ R c := ⟨b, rfl, h⟩
theorem g_exint {R : Int → Prop} (h : R i) : ∃ c, V.int i = V.int c ∧ R c := ⟨i, rfl, h⟩
theorem g_and {t u : TT} {R : Bool → Hp → Prop} (h : t σ H fun c H1 => if c = true then u σ H1 R else R false H1) : tAnd t u σ H R := h
theorem g_or {t u : TT} {R : Bool → Hp → Prop} (h : t σ H fun c H1 => if c = true then R true H1 else u σ H1 R) : tOr t u σ H R := h
theorem g_not {t : TT} {R : Bool → Hp → Prop} (h : t σ H fun c H1 => R (!c) H1) : tNot t σ H R := h
theorem g_andV (h : ta σ H fun x H1 => ∃ c, x = .bl c ∧ if c = true then tb σ H1 Q else Q (.bl false) H1) : tAndV ta tb σ H Q := h
theorem g_orV (h : ta σ H fun x H1 => ∃ c, x = .bl c ∧ if c = true then Q (.bl true) H1 else tb σ H1 Q) : tOrV ta tb σ H Q := h
theorem g_notV (h : ta σ H fun x H1 => ∃ c, x = .bl c ∧ Q (.bl (!c)) H1) : tNotV ta σ H Q := h
theorem g_if {t : TT} (h : t σ H fun c H1 => if c = true then ta σ H1 Q else tb σ H1 Q) : tIf t ta tb σ H Q := h
theorem g_nil {R : List V → Hp → Prop} (h : R [] H) : tNil σ H R := h
theorem g_cons {t : TA} {R : List V → Hp → Prop} (h : ta σ H fun x H1 => t σ H1 fun xs H2 => R (x :: xs) H2) : tCons ta t σ H R := h
theorem g_fn {sp : Sp} {E : XK} {t : TA} (h : t σ H fun vs H1 => sp vs H1 Q E) : tFn sp E t σ H Q := h
theorem g_cb {r : List V → Hp → VK → Prop} {t : TA} (h : t σ H fun vs H1 => r vs H1 Q) : tCB r t σ H Q := h
theorem g_two {R : Int → Int → Prop} (h : R i j) : ∃ a b, [V.int i, V.int j] = [V.int a, V.int b] ∧ R a b := ⟨i, j, rfl, h⟩
theorem g_one {R : Int → Prop} (h : R i) : ∃ a, [V.int i] = [V.int a] ∧ R a := ⟨i, rfl, h⟩
theorem g_chain {r r' : R2} (h : ta σ H fun x H1 => tb σ H1 fun y H2 => r x y H2 fun z H3 => ∃ k, z = .bl k ∧ (if k = true then tc σ H3 fun w' H4 => r' y w' H4 Q else Q (.bl false) H3)) : tChain r r' ta tb tc σ H Q := h
theorem g_chain3 {r1 r2 r3 : R2} (h : ta σ H fun x H1 => tb σ H1 fun y H2 => r1 x y H2 fun z H3 => ∃ k, z = .bl k ∧
  (if k = true then tc σ H3 fun u H4 => r2 y u H4 fun z' H5 => ∃ k', z' = .bl k' ∧ (if k' = true then td σ H5 fun v H6 => r3 u v H6 Q else Q (.bl false) H5) else Q (.bl false) H3)) : tChain3 r1 r2 r3 ta tb tc td σ H Q := h
theorem g_sl {r : V → Option Int → Option Int → Hp → VK → Prop} {tl th : TO} (h : ta σ H fun x H1 => tl σ H1 fun l H2 => th σ H2 fun u H3 => r x l u H3 Q) : tSl r ta tl th σ H Q := h
theorem g_noPart {R : Option Int → Hp → Prop} (h : R none H) : tNoPart σ H R := h
theorem g_part {R : Option Int → Hp → Prop} (h : ta σ H fun x H1 => ∃ i, x = .int i ∧ R (some i) H1) : tPart ta σ H R := h
theorem g_tup {t : TA} (h : t σ H fun xs H1 => xs.length ≤ sizeLine ∧ ∀ p, H1 p = none → Q (.ref p) (upd H1 p (.tup xs))) : tTup t σ H Q := h
theorem g_lst {t : TA} (h : t σ H fun xs H1 => xs.length ≤ sizeLine ∧ ∀ p, H1 p = none → Q (.ref p) (upd H1 p (.lst xs))) : tLst t σ H Q := h
theorem g_fresh {xs : List V} {R : Addr → Prop} (hl : Nat.ble xs.length 1000 = true) (h : ∀ p, H p = none → R p) : xs.length ≤ sizeLine ∧ ∀ p, H p = none → R p :=
  ⟨Nat.le_of_lt (small1000 (Nat.le_of_ble_eq_true hl)), h⟩
theorem g_gtupN {K : PySem.W.Frag} {xs : List V} {a : Addr} {t : TGs} {R : L2.St → Hp → Prop} (hn : xs.length = n) (h : t xs σ (upd H a (.tup xs)) R) : gTup K n t (.ref a) σ (upd H a (.tup xs)) R := ⟨a, xs, rfl, SqT.of upd_same, hn, h⟩
theorem g_gtup {K : PySem.W.Frag} {xs : List V} {a : Addr} {t : TGs} {R : L2.St → Hp → Prop} (hs : SqT K H a xs) (hn : xs.length = n) (h : t xs σ H R) : gTup K n t (.ref a) σ H R := ⟨a, xs, rfl, hs, hn, h⟩
theorem g_gcons {t : TG} {u : TGs} {r : List V} {R : L2.St → Hp → Prop} (h : t v σ H fun σ' H' => u r σ' H' R) : gCons t u (v :: r) σ H R := ⟨v, r, rfl, h⟩
theorem g_gnil {R : L2.St → Hp → Prop} (h : R σ H) : gNil [] σ H R := ⟨rfl, h⟩
theorem g_mkO {C : Addr} (h : ∀ x dx, H x = none → H dx = none → dx ≠ x → Q (.ref x) (upd (upd H dx (.own x)) x (.ins C dx []))) : tMakeO C σ H Q := h
theorem g_mk {C : Addr} {sp : Sp} {E : XK} {t : TA} (h : t σ H fun vs H1 => ∀ x dx, H1 x = none → H1 dx = none → dx ≠ x →
  sp (.ref x :: vs) (upd (upd H1 dx (.own x)) x (.ins C dx [])) (fun v H2 => v = .non ∧ Q (.ref x) H2) E) : tMk C sp E t σ H Q := h
theorem g_mt {C : Addr} {f : PySem.Str} {sp : Sp} {E : XK} {t : TA} (h : ta σ H fun x H1 => ∃ a dx fs, x = .ref a ∧ H1 a = some (.ins C dx fs) ∧ fs.lookup f = none ∧ t σ H1 fun vs H2 => sp (x :: vs) H2 Q E) : tMt C f sp E ta t σ H Q := h
theorem g_isi {K : PySem.W.Frag} {x c : V} {ty u : Value} {r : Bool} (h1 : ClsV c u) (h2 : TyX K H x ty) (h3 : PySem.W.kitOne K ty u = some r) (h : Q (.bl r) H) : rIsi K [x, c] H Q := ⟨x, c, ty, u, r, rfl, h1, h2, h3, h⟩
end
/-- an object made: its own dict and itself are new -/
theorem same_made {H : Hp} {x dx C : Addr} {fs : List (PySem.Str × V)} (hx : H x = none) (hdx : H dx = none) : Same H (upd (upd H dx (.own x)) x (.ins C dx fs)) := fun b o e => by
  rw [upd_ne (ne_of_none e hx), upd_ne (ne_of_none e hdx)]; exact e
end G66
namespace G66
open PySem PySem.Spec PyProof.Rows L2
/-! the text's defs, from what the head leaves -/
theorem dfn_mk {K : PySem.W.Frag} {h : Heap} {mg : PySem.Str → Option Value} {x : PySem.Str} {st : Stmt} {f : Addr} {oc : Value} {od an : Option Addr} {osl : Array (Option Value)} {kV doc pm cdv ct : Value} (X : K.In h) (G : h.Ns mainGlobals mg)
    (a : PySem.W.nsIn K mainGlobals x = some (some (.ref f))) (l : K.lookup f = some ⟨oc, od, .func (PySem.W.fnOf x x (defArgs st) (defBody st) (defScope st) .none kV doc pm an cdv ct), osl⟩) (c : PySem.W.codeIn K cdv x = true) (k : PySem.W.keepIn K (.ref f) = true) : Dfn K mg x st :=
  ⟨f, _, fun_mk l c k, PySem.W.mg_of X G a⟩
theorem mfn_mk {K : PySem.W.Frag} {C : Addr} {m q : PySem.Str} {st : Stmt} {f : Addr} {oc : Value} {od an : Option Addr} {osl : Array (Option Value)} {kV doc pm cdv ct : Value}
    (a : PySem.W.findIn K (.ref C) m = some (some (.ref f))) (l : K.lookup f = some ⟨oc, od, .func (PySem.W.fnOf m q (defArgs st) (defBody st) (defScope st) .none kV doc pm an cdv ct), osl⟩) (c : PySem.W.codeIn K cdv q = true) (k : PySem.W.keepIn K (.ref f) = true) (n : PySem.W.isFn K (.ref f) = true) : Mfn K C m q st :=
  ⟨f, _, fun_mk l c k, ⟨a, n, k⟩⟩
theorem mki_mk {K : PySem.W.Frag} {C : Addr} {q : PySem.Str} {st : Stmt} {f : Addr} {oc : Value} {od an : Option Addr} {osl : Array (Option Value)} {kV doc pm cdv ct : Value}
    (a : PySem.W.findIn K (.ref C) "__init__" = some (some (.ref f))) (l : K.lookup f = some ⟨oc, od, .func (PySem.W.fnOf "__init__" q (defArgs st) (defBody st) (defScope st) .none kV doc pm an cdv ct), osl⟩) (c : PySem.W.codeIn K cdv q = true) (k : PySem.W.keepIn K (.ref f) = true) (m : PySem.W.makesIn K C = true) (n : PySem.W.isFn K (.ref f) = true) (o : PySem.W.keepIn K (.ref C) = true) : MkI K C q st :=
  ⟨f, _, fun_mk l c k, ⟨m, a, n, o⟩⟩
/-! sizes -/
theorem Bt.sum {n : Nat} : ∀ {l : List Int}, (∀ z ∈ l, Bt n z) → Bt (n + l.length) l.sum
  | [], _ => by
    rw [List.sum_nil]
    exact Bt.iff.mpr (Nat.two_pow_pos _)
  | x :: r, h => by
    rw [List.sum_cons, List.length_cons]
    have a : Bt n x := h x List.mem_cons_self
    have b := Bt.sum (n := n) (l := r) fun z hz => h z (List.mem_cons_of_mem _ hz)
    exact (Bt.add (a.mono (Nat.le_add_right n r.length)) b).mono (by omega)
theorem Bt.addc {m n k : Nat} {x y : Int} (hx : Bt m x) (hy : Bt n y) (h1 : m < k) (h2 : n < k) : Bt k (x + y) := by
  cases k with
  | zero => omega
  | succ k => exact Bt.add (hx.mono (by omega)) (hy.mono (by omega))
theorem Bt.subc {m n k : Nat} {x y : Int} (hx : Bt m x) (hy : Bt n y) (h1 : m < k) (h2 : n < k) : Bt k (x - y) := by
  cases k with
  | zero => omega
  | succ k => exact Bt.sub (hx.mono (by omega)) (hy.mono (by omega))
theorem Bt.mulc {m n k : Nat} {x y : Int} (hx : Bt m x) (hy : Bt n y) (h : m + n ≤ k) : Bt k (x * y) := (Bt.mul hx hy).mono h
theorem cmul_of {m n : Nat} {i j : Int} (hi : Bt m i) (hj : Bt n j) (h : m + n ≤ 134217728) : CMulB i j := ⟨m, n, hi, hj, h⟩
/-! lists of values -/
theorem cut_all {xs : List V} {k : Nat} (h : xs.length ≤ k) : cutV xs none (some (k : Int)) = xs := by
  unfold cutV
  rw [HT.sIx_nat, HT.sIx_none, List.drop_zero, Nat.sub_zero]
  rw [Nat.min_eq_right h]
  exact List.take_length
theorem atI_map {α : Type} (f : α → V) {xs : List α} {i : Int} {v : α} (h : atI xs i = some v) : atI (xs.map f) i = some (f v) := by
  unfold atI at *
  rw [List.length_map]
  cases e : ixN xs.length i with
  | none => rw [e] at h; cases h
  | some j =>
    rw [e] at h
    have h' : xs[j]? = some v := h
    show (xs.map f)[j]? = some (f v)
    rw [List.getElem?_map, h']; rfl
theorem atI_lt {α : Type} {xs : List α} {i : Int} (h0 : 0 ≤ i) (h : i < xs.length) : ∃ v, atI xs i = some v ∧ v ∈ xs := by
  have hj : i.toNat < xs.length := by omega
  refine ⟨xs[i.toNat], ?_, List.getElem_mem _⟩
  have := atI_nat (xs := xs) (j := i.toNat) (List.getElem?_eq_getElem hj)
  rw [Int.toNat_of_nonneg h0] at this
  exact this
theorem atI_neg1 {α : Type} {xs : List α} (h : 0 < xs.length) : ∃ v, atI xs (-1) = some v ∧ v ∈ xs := by
  have hne : xs ≠ [] := by intro e; subst e; exact absurd h (Nat.lt_irrefl _)
  refine ⟨xs.getLast hne, ?_, List.getLast_mem hne⟩
  have := atI_last xs.dropLast (xs.getLast hne)
  rw [List.dropLast_concat_getLast] at this
  exact this
theorem inV_ints (x : Int) : ∀ ns : List Int, inV (.int x) (ns.map V.int) = decide (x ∈ ns)
  | [] => by simp [inV]
  | y :: r => by
    have ih := inV_ints x r
    unfold inV at *
    rw [List.map_cons, List.any_cons, ih]
    show ((y == x) || _) = _
    by_cases e : y = x
    · subst e; simp
    · have e' : x ≠ y := Ne.symm e
      simp [e, e']
theorem flat_ints (ns : List Int) : (ns.map V.int).all flatV = true := by
  rw [List.all_eq_true]; intro v hv; obtain ⟨i, _, rfl⟩ := List.mem_map.mp hv; rfl
theorem flat_bools (ns : List Bool) : (ns.map V.bl).all flatV = true := by
  rw [List.all_eq_true]; intro v hv; obtain ⟨i, _, rfl⟩ := List.mem_map.mp hv; rfl
theorem same_seqT {K : PySem.W.Frag} {H H' : Hp} {a : Addr} {xs : List V} (e : Same H H') (h : SqT K H a xs) : SqT K H' a xs := by
  rcases h with (h | ⟨o, h⟩) | h
  · exact .inl (.inl (e _ _ h))
  · exact .inl (.inr ⟨o, e _ _ h⟩)
  · exact .inr h
/-! what stood stands behind a new object -/
section
variable {H H' : Hp} {p q x dx : Addr} {o u u' : HO} {K : PySem.W.Frag} {xs : List V}
theorem at_new (h : H q = none) (e : H p = some o) : upd H q u p = some o := same_new h _ _ e
theorem same_made2 (hx : H x = none) (hdx : H dx = none) : Same H (upd (upd H dx u) x u') := fun b o e => by
  rw [upd_ne (ne_of_none e hx), upd_ne (ne_of_none e hdx)]; exact e
theorem at_made (hx : H x = none) (hdx : H dx = none) (e : H p = some o) : upd (upd H dx u) x u' p = some o := same_made2 hx hdx _ _ e
theorem sq_new (h : H q = none) (e : SqL K H p xs) : SqL K (upd H q u) p xs := (same_new h).seq e
theorem sq_made (hx : H x = none) (hdx : H dx = none) (e : SqL K H p xs) : SqL K (upd (upd H dx u) x u') p xs := (same_made2 hx hdx).seq e
theorem sqt_new (h : H q = none) (e : SqT K H p xs) : SqT K (upd H q u) p xs := same_seqT (same_new h) e
theorem sqt_made (hx : H x = none) (hdx : H dx = none) (e : SqT K H p xs) : SqT K (upd (upd H dx u) x u') p xs := same_seqT (same_made2 hx hdx) e
theorem sm_new (h : H q = none) (e : Same H' H) : Same H' (upd H q u) := e.trans (same_new h)
theorem sm_made (hx : H x = none) (hdx : H dx = none) (e : Same H' H) : Same H' (upd (upd H dx u) x u') := e.trans (same_made2 hx hdx)
end
theorem iteNT {A B : Prop} (h : A) : if (!false) = true then A else B := by
  rw [if_pos (by decide)]; exact h
theorem iteNF {A B : Prop} (h : B) : if (!true) = true then A else B := by
  rw [if_neg (by decide)]; exact h
/-! one step of a reading each, further -/
section
variable {σ : L2.St} {H : Hp} {Q : VK} {D : Ends} {ta tb tc td : TE} {v x y : V} {i j : Int} {b c : Bool} {k n m : Nat} {K : PySem.W.Frag} {p q : Addr} {xs ys : List V}
theorem g_ixL (e : SqL K H p xs) (a : atI xs i = some v) (h : Q v H) : rIxL K (.ref p) (.int i) H Q := ⟨p, xs, i, v, rfl, rfl, e, a, h⟩
theorem g_ixT (e : SqT K H p xs) (a : atI xs i = some v) (h : Q v H) : rIxT K (.ref p) (.int i) H Q := ⟨p, xs, i, v, rfl, rfl, e, a, h⟩
theorem g_inL {ns : List Int} (e : SqL K H p (ns.map V.int)) (h : Q (.bl (decide (i ∈ ns))) H) : rIn K false (.int i) (.ref p) H Q :=
  ⟨p, _, rfl, .inl e, rfl, flat_ints ns, by rw [inV_ints]; exact h⟩
theorem g_inT {ns : List Int} (e : SqT K H p (ns.map V.int)) (h : Q (.bl (decide (i ∈ ns))) H) : rIn K false (.int i) (.ref p) H Q :=
  ⟨p, _, rfl, .inr e, rfl, flat_ints ns, by rw [inV_ints]; exact h⟩
theorem g_ninL {ns : List Int} (e : SqL K H p (ns.map V.int)) (h : Q (.bl (!decide (i ∈ ns))) H) : rIn K true (.int i) (.ref p) H Q :=
  ⟨p, _, rfl, .inl e, rfl, flat_ints ns, by rw [inV_ints]; exact h⟩
theorem g_sum {ns : List Int} (e : SqL K H p (ns.map V.int)) (h : Q (.int ns.sum) H) : rSum K [.ref p] H Q := ⟨p, ns, rfl, e, h⟩
theorem g_any {bs : List Bool} (e : SqL K H p (bs.map V.bl)) (h : Q (.bl (bs.any id)) H) : rAny K [.ref p] H Q := ⟨p, bs, rfl, e, h⟩
theorem g_all {bs : List Bool} (e : SqL K H p (bs.map V.bl)) (h : Q (.bl (bs.all id)) H) : rAll K [.ref p] H Q := ⟨p, bs, rfl, e, h⟩
theorem g_slL {lo hi : Option Int} (e : SqL K H p xs) (h : ∀ q, H q = none → Q (.ref q) (upd H q (.lst (cutV xs lo hi)))) : rSlL K (.ref p) lo hi H Q := ⟨p, xs, rfl, e, h⟩
theorem g_exbb {R : Bool → Bool → Prop} (h : R b c) : ∃ x y, V.bl b = V.bl x ∧ V.bl c = V.bl y ∧ R x y := ⟨b, c, rfl, rfl, h⟩
theorem g_lenS {R : Int → Prop} (e : SqL K H p xs) (h : R xs.length) : ∃ a ys, [V.ref p] = [V.ref a] ∧ (SqL K H a ys ∨ SqT K H a ys) ∧ R (ys.length : Nat) := ⟨p, xs, rfl, .inl e, h⟩
theorem g_isi_ii (h : Q (.bl true) H) : rIsi K [.int i, .ty "int"] H Q := g_isi (u := .type "int") (ty := .type "int") (.ty _) (.base (.int _)) (kit_ty (by decide +kernel)) h
theorem g_isi_ib (h : Q (.bl false) H) : rIsi K [.int i, .ty "bool"] H Q := g_isi (u := .type "bool") (ty := .type "int") (.ty _) (.base (.int _)) (kit_ty (by decide +kernel)) h
theorem g_isi_bb (h : Q (.bl true) H) : rIsi K [.bl b, .ty "bool"] H Q := g_isi (u := .type "bool") (ty := .type "bool") (.ty _) (.base (.bl _)) (kit_ty (by decide +kernel)) h
theorem g_isi_ll (e : H p = some (.lst xs)) (h : Q (.bl true) H) : rIsi K [.ref p, .ty "list"] H Q := g_isi (u := .type "list") (ty := .type "list") (.ty _) (.base (.lst e)) (kit_ty (by decide +kernel)) h
theorem g_isi_own {C dx E : Addr} {fs : List (PySem.Str × V)} {r : Bool} (e : H p = some (.ins C dx fs)) (F : CF K C) (k : PySem.W.kitOne K (.ref C) (.ref E) = some r) (h : Q (.bl r) H) : rIsi K [.ref p, .ref E] H Q :=
  g_isi (u := .ref E) (ty := .ref C) (.own _) (F.ty e) k h
theorem g_for {wi : TI} {g : TG} {tb : TS} (h : wi σ H fun J H1 => ∃ W : Nat → Nat → L2.St → Hp → Prop, (∃ m, W 0 m σ H1) ∧ ∀ i m σ H, W i m σ H →
  (J.stop i H ∧ D.nx σ H) ∨ (J.go i H ∧ ∃ N : L2.St → Hp → Prop, (∀ σ' H', N σ' H' → ∃ m', m' < m ∧ W (i + 1) m' σ' H') ∧ ∀ x H', J.yld i H x H' → g x σ H' fun σ2 H2 => tb { D with nx := N, ct := N, bk := D.nx } σ2 H2)) : tFor wi g tb D σ H := h
theorem g_ilist {R : It → Hp → Prop} (h : ta σ H fun x H1 => ∃ a, x = .ref a ∧ (∃ xs, SqL K H1 a xs) ∧ R (Itl K a) H1) : iList K ta σ H R := h
theorem g_itup {R : It → Hp → Prop} (h : ta σ H fun x H1 => ∃ a, x = .ref a ∧ (∃ xs, SqT K H1 a xs) ∧ R (Itt K a) H1) : iTup K ta σ H R := h
theorem g_yes {R : Bool → Hp → Prop} (h : R true H) : tYes σ H R := h
theorem g_range {ta : TA} {R : It → Hp → Prop} (h : ta σ H fun vs H1 => ∃ i j : Int, vs = [.int i, .int j] ∧ R (Itr i (j - i).toNat) H1) : iRngA ta σ H R := h
theorem g_rng2 {R : Int → Int → Prop} (h : R i j) : ∃ a b : Int, [V.int i, V.int j] = [.int a, .int b] ∧ R a b := ⟨i, j, rfl, h⟩
end
end G66
namespace G66
open PySem PySem.Spec PyProof.Rows L2
/-! data and their likeness -/
/-- a way to write things as data: told apart by ==, and not deep -/
structure Coded {α : Type} [DecidableEq α] (f : α → PyData) (n : Nat) : Prop where
  eq : ∀ a b, PyData.eqv (f a) (f b) = decide (a = b)
  lay : ∀ a, (f a).canLay0 = true
  dep : ∀ a, (f a).depth ≤ n
theorem coded_int : Coded PyData.int 1 := ⟨fun a b => by simp [PyData.eqv]; rfl, fun a => by simp [PyData.canLay0], fun a => by simp [PyData.depth]⟩
theorem coded_bool : Coded PyData.bool 1 := ⟨fun a b => by cases a <;> cases b <;> rfl, fun a => by simp [PyData.canLay0], fun a => by simp [PyData.depth]⟩
section
variable {α : Type} [DecidableEq α] {f : α → PyData} {n : Nat}
theorem Coded.eqAll (C : Coded f n) : ∀ xs ys : List α, PyData.eqvAll (xs.map f) (ys.map f) = decide (xs = ys)
  | [], [] => by simp [PyData.eqvAll]
  | [], y :: ys => by simp [PyData.eqvAll]
  | x :: xs, [] => by simp [PyData.eqvAll]
  | x :: xs, y :: ys => by
    rw [List.map_cons, List.map_cons, PyData.eqvAll, C.eq, C.eqAll xs ys]
    by_cases h1 : x = y <;> by_cases h2 : xs = ys <;> simp [h1, h2]
theorem Coded.layAll (C : Coded f n) : ∀ xs : List α, PyData.canLayAll0 (xs.map f) = true
  | [] => by simp [PyData.canLayAll0]
  | x :: xs => by rw [List.map_cons]; simp only [PyData.canLayAll0, C.lay x, C.layAll xs, Bool.and_self]
theorem Coded.depAll (C : Coded f n) : ∀ xs : List α, PyData.depthAll (xs.map f) ≤ n
  | [] => by simp [PyData.depthAll]
  | x :: xs => by
    have a := C.dep x
    have b := C.depAll xs
    rw [List.map_cons]
    simp only [PyData.depthAll]
    omega
theorem Coded.list (C : Coded f n) : Coded (fun xs : List α => PyData.list (xs.map f)) (n + 1) :=
  ⟨fun a b => by rw [PyData.eqv]; exact C.eqAll a b, fun a => by simp only [PyData.canLay0]; exact C.layAll a, fun a => by have := C.depAll a; simp only [PyData.depth]; omega⟩
theorem Coded.shaped (C : Coded f n) (h : n ≤ 64) (a : α) : SeqAt.shaped (f a) = true := by
  unfold SeqAt.shaped
  rw [C.lay a, decide_eq_true (Nat.le_trans (C.dep a) h)]
  rfl
end
theorem dpAll_map {K : PySem.W.Frag} {H : Hp} {α : Type} {f : α → PyData} {g : α → V} (h : ∀ a, Dp K H (g a) (f a)) : ∀ xs : List α, DpAll K H (xs.map g) (xs.map f)
  | [] => .nil
  | x :: xs => .cons (h x) (dpAll_map h xs)
theorem dp_ints {K : PySem.W.Frag} {H : Hp} {p : Addr} {ns : List Int} (e : SqL K H p (ns.map V.int)) : Dp K H (.ref p) (.list (ns.map PyData.int)) := .lst e (dpAll_map (fun a => .int a) ns)
theorem dp_bools {K : PySem.W.Frag} {H : Hp} {p : Addr} {ns : List Bool} (e : SqL K H p (ns.map V.bl)) : Dp K H (.ref p) (.list (ns.map PyData.bool)) := .lst e (dpAll_map (fun a => .bl a) ns)
section
variable {σ : L2.St} {H : Hp} {Q : VK} {D : Ends} {ta tb tc td : TE} {v x y : V} {i j : Int} {b c : Bool} {k n m : Nat} {K : PySem.W.Frag} {p q : Addr} {xs ys : List V}
theorem g_eqCd {α : Type} [DecidableEq α] {f : α → PyData} {n : Nat} {a b : α} (C : Coded f n) (hn : n ≤ 64) (h1 : Dp K H x (f a)) (h2 : Dp K H y (f b)) (h : Q (.bl (decide (a = b))) H) : rEqD K x y H Q :=
  ⟨_, _, h1, h2, C.shaped hn a, C.shaped hn b, by rw [C.eq]; exact h⟩
theorem g_neCd {α : Type} [DecidableEq α] {f : α → PyData} {n : Nat} {a b : α} (C : Coded f n) (hn : n ≤ 64) (h1 : Dp K H x (f a)) (h2 : Dp K H y (f b)) (h : Q (.bl (!decide (a = b))) H) : rNeD K x y H Q :=
  ⟨_, _, h1, h2, C.shaped hn a, C.shaped hn b, by rw [C.eq]; exact h⟩
theorem g_eqLB {bs cs : List Bool} (h1 : SqL K H p (bs.map V.bl)) (h2 : SqL K H q (cs.map V.bl)) (h : Q (.bl (decide (bs = cs))) H) : rEqD K (.ref p) (.ref q) H Q := g_eqCd coded_bool.list (by decide) (dp_bools h1) (dp_bools h2) h
theorem g_neLB {bs cs : List Bool} (h1 : SqL K H p (bs.map V.bl)) (h2 : SqL K H q (cs.map V.bl)) (h : Q (.bl (!decide (bs = cs))) H) : rNeD K (.ref p) (.ref q) H Q := g_neCd coded_bool.list (by decide) (dp_bools h1) (dp_bools h2) h
theorem g_eqLI {bs cs : List Int} (h1 : SqL K H p (bs.map V.int)) (h2 : SqL K H q (cs.map V.int)) (h : Q (.bl (decide (bs = cs))) H) : rEqD K (.ref p) (.ref q) H Q := g_eqCd coded_int.list (by decide) (dp_ints h1) (dp_ints h2) h
theorem g_neLI {bs cs : List Int} (h1 : SqL K H p (bs.map V.int)) (h2 : SqL K H q (cs.map V.int)) (h : Q (.bl (!decide (bs = cs))) H) : rNeD K (.ref p) (.ref q) H Q := g_neCd coded_int.list (by decide) (dp_ints h1) (dp_ints h2) h
theorem g_ne3B {a1 a2 a3 b1 b2 b3 : Bool} (h1 : SqL K H p [.bl a1, .bl a2, .bl a3]) (h2 : SqL K H q [.bl b1, .bl b2, .bl b3]) (h : Q (.bl (!decide ([a1, a2, a3] = [b1, b2, b3]))) H) : rNeD K (.ref p) (.ref q) H Q := g_neLB (bs := [a1, a2, a3]) (cs := [b1, b2, b3]) h1 h2 h
theorem g_in2L (e : SqL K H p [.int i, .int j]) {z : Int} (h : Q (.bl (decide (z = i ∨ z = j))) H) : rIn K false (.int z) (.ref p) H Q := g_inL (ns := [i, j]) e (by rw [show decide (z ∈ [i, j]) = decide (z = i ∨ z = j) by simp]; exact h)
theorem g_any3 {a1 a2 a3 : Bool} (h1 : SqL K H p [.bl a1, .bl a2, .bl a3]) (h : Q (.bl ([a1, a2, a3].any id)) H) : rAny K [.ref p] H Q := g_any (bs := [a1, a2, a3]) h1 h
theorem g_all3 {a1 a2 a3 : Bool} (h1 : SqL K H p [.bl a1, .bl a2, .bl a3]) (h : Q (.bl ([a1, a2, a3].all id)) H) : rAll K [.ref p] H Q := g_all (bs := [a1, a2, a3]) h1 h
/-- a method's receiver -/
theorem g_recv {C dx : Addr} {fs : List (PySem.Str × V)} {f : PySem.Str} {R : Prop} (e : H p = some (.ins C dx fs)) (l : fs.lookup f = none) (h : R) : ∃ a dx fs, V.ref p = .ref a ∧ H a = some (.ins C dx fs) ∧ fs.lookup f = none ∧ R := ⟨p, dx, fs, rfl, e, l, h⟩
/-! comprehensions -/
/-- how a comprehension over a list is read where each item gives a value and no new object -/
theorem lc_map {a : Addr} {te : TE} {vs : List Nat} {H1 : Hp} {D : Addr} {Qd : Hp → Prop} {s : Nat} (f : V → V) (hD : H1 D = none) (hS : SqL K H1 a xs) (hw : ∀ x, wipe ((wipe σ vs).set s (some x)) vs = wipe σ vs)
    (step : ∀ x H', x ∈ xs → Same H1 H' → ∀ R : VK, R (f x) H' → te ((wipe σ vs).set s (some x)) H' R) (hz : xs.length ≤ sizeLine) (hd : Qd (upd H1 D (.lst (xs.map f)))) :
    ∃ W : Nat → Nat → Hp → Prop, (∃ m, W 0 m (upd H1 D (.lst []))) ∧ ∀ i m H, W i m H →
      ((Itl K a).stop i H ∧ Qd H) ∨ ((Itl K a).go i H ∧ ∃ Nx : Hp → Prop, (∀ H', Nx H' → ∃ m', m' < m ∧ W (i + 1) m' H') ∧ ∀ x H', (Itl K a).yld i H x H' → gName s x (wipe σ vs) H' fun σ2 H2 => wipe σ2 vs = wipe σ vs ∧ tYes σ2 H2 fun b H3 =>
        if b = true then te σ2 H3 fun y H4 => ∃ acc, H4 D = some (.lst acc) ∧ acc.length < sizeLine ∧ Nx (upd H4 D (.lst (acc ++ [y]))) else Nx H3) := by
  refine lc_list (xs := xs) (fun i H' => i ≤ xs.length ∧ H' = upd H1 D (.lst ((xs.take i).map f))) ⟨Nat.zero_le _, rfl⟩ (fun i H' _ ⟨_, e⟩ => by rw [e]; exact sq_new hD hS) (fun i x H' hx ⟨hi, e⟩ => ?_) (fun H' ⟨_, e⟩ => by rw [e, List.take_length]; exact hd)
  have hlt : i < xs.length := (List.getElem?_eq_some_iff.mp hx).1
  have hm : x ∈ xs := List.mem_of_getElem? hx
  refine ⟨hw x, g_yes (R := fun b H3 => if b = true then _ else _) ?_⟩
  refine (iteT (step x H' hm (by rw [e]; exact same_new hD) _ ⟨(xs.take i).map f, by rw [e]; exact upd_same, ?_, ⟨hlt, ?_⟩⟩))
  · rw [List.length_map, List.length_take]; omega
  · rw [e, upd_upd, List.take_add_one, hx, List.map_append]; rfl
/-- the same over lo, lo + 1, .. -/
theorem lc_mapR {te : TE} {vs : List Nat} {lo : Int} {H1 : Hp} {D : Addr} {Qd : Hp → Prop} {s : Nat} (f : Int → V) (hD : H1 D = none) (hw : ∀ x, wipe ((wipe σ vs).set s (some x)) vs = wipe σ vs)
    (step : ∀ (i : Nat) H', i < n → Same H1 H' → ∀ R : VK, R (f (lo + i)) H' → te ((wipe σ vs).set s (some (.int (lo + i)))) H' R) (hz : n ≤ sizeLine) (hd : Qd (upd H1 D (.lst ((List.range n).map fun (i : Nat) => f (lo + i))))) :
    ∃ W : Nat → Nat → Hp → Prop, (∃ m, W 0 m (upd H1 D (.lst []))) ∧ ∀ i m H, W i m H →
      ((Itr lo n).stop i H ∧ Qd H) ∨ ((Itr lo n).go i H ∧ ∃ Nx : Hp → Prop, (∀ H', Nx H' → ∃ m', m' < m ∧ W (i + 1) m' H') ∧ ∀ x H', (Itr lo n).yld i H x H' → gName s x (wipe σ vs) H' fun σ2 H2 => wipe σ2 vs = wipe σ vs ∧ tYes σ2 H2 fun b H3 =>
        if b = true then te σ2 H3 fun y H4 => ∃ acc, H4 D = some (.lst acc) ∧ acc.length < sizeLine ∧ Nx (upd H4 D (.lst (acc ++ [y]))) else Nx H3) := by
  refine lc_range (fun i H' => i ≤ n ∧ H' = upd H1 D (.lst ((List.range i).map fun (i : Nat) => f (lo + i)))) ⟨Nat.zero_le _, rfl⟩ (fun i H' hlt ⟨hi, e⟩ => ?_) (fun H' ⟨_, e⟩ => by rw [e]; exact hd)
  refine ⟨hw _, g_yes (R := fun b H3 => if b = true then _ else _) ?_⟩
  refine (iteT (step i H' hlt (by rw [e]; exact same_new hD) _ ⟨(List.range i).map fun (i : Nat) => f (lo + i), by rw [e]; exact upd_same, ?_, ⟨hlt, ?_⟩⟩))
  · rw [List.length_map, List.length_range]; omega
  · rw [e, upd_upd, List.range_succ, List.map_append]; rfl
/-- all that was tracked but at D -/
def SameBut (D : Addr) (H H' : Hp) : Prop := ∀ b o, b ≠ D → H b = some o → H' b = some o
theorem SameBut.refl {D : Addr} {H : Hp} : SameBut D H H := fun _ _ _ e => e
theorem SameBut.trans {D : Addr} {H H1 H2 : Hp} (a : SameBut D H H1) (b : SameBut D H1 H2) : SameBut D H H2 := fun c o n e => b c o n (a c o n e)
theorem SameBut.of {D : Addr} {H H' : Hp} (a : Same H H') : SameBut D H H' := fun c o _ e => a c o e
theorem SameBut.upd {D : Addr} {H : Hp} {o : HO} : SameBut D H (upd H D o) := fun c u n e => by rw [upd_ne n]; exact e
theorem SameBut.same {D : Addr} {H0 H H' : Hp} (h : H0 D = none) (s : Same H0 H) (b : SameBut D H H') : Same H0 H' := fun c o e => b c o (ne_of_none e h) (s c o e)
/-- a comprehension over lo, lo + 1, .. whose items are new objects: R says what the i-th is, by objects other than D -/
theorem lc_growR {te : TE} {vs : List Nat} {lo : Int} {H1 : Hp} {D : Addr} {Qd : Hp → Prop} {s : Nat} (R : Nat → V → Hp → Prop) (hD : H1 D = none) (hw : ∀ x, wipe ((wipe σ vs).set s (some x)) vs = wipe σ vs)
    (stay : ∀ i v H H', SameBut D H H' → (∃ o, H D = some o) → R i v H → R i v H')
    (step : ∀ (i : Nat) H', i < n → Same H1 H' → (∃ o, H' D = some o) → ∀ T : VK, (∀ v H2, Same H' H2 → R i v H2 → T v H2) → te ((wipe σ vs).set s (some (.int (lo + i)))) H' T) (hz : n ≤ sizeLine)
    (hd : ∀ (ys : List V) H', Same H1 H' → H' D = some (.lst ys) → ys.length = n → (∀ (i : Nat) v, ys[i]? = some v → R i v H') → Qd H') :
    ∃ W : Nat → Nat → Hp → Prop, (∃ m, W 0 m (upd H1 D (.lst []))) ∧ ∀ i m H, W i m H →
      ((Itr lo n).stop i H ∧ Qd H) ∨ ((Itr lo n).go i H ∧ ∃ Nx : Hp → Prop, (∀ H', Nx H' → ∃ m', m' < m ∧ W (i + 1) m' H') ∧ ∀ x H', (Itr lo n).yld i H x H' → gName s x (wipe σ vs) H' fun σ2 H2 => wipe σ2 vs = wipe σ vs ∧ tYes σ2 H2 fun b H3 =>
        if b = true then te σ2 H3 fun y H4 => ∃ acc, H4 D = some (.lst acc) ∧ acc.length < sizeLine ∧ Nx (upd H4 D (.lst (acc ++ [y]))) else Nx H3) := by
  refine lc_range (fun i H' => i ≤ n ∧ Same H1 H' ∧ ∃ ys, H' D = some (.lst ys) ∧ ys.length = i ∧ ∀ (j : Nat) v, ys[j]? = some v → R j v H') ⟨Nat.zero_le _, same_new hD, [], upd_same, rfl, fun j v e => by simp at e⟩ (fun i H' hlt ⟨hi, sm, ys, e, hl, hR⟩ => ?_) (fun H' ⟨_, sm, ys, e, hl, hR⟩ => hd ys H' sm e hl hR)
  refine ⟨hw _, g_yes (R := fun b H3 => if b = true then _ else _) ?_⟩
  refine (iteT (step i H' hlt sm ⟨_, e⟩ _ fun v H2 s2 r2 => ⟨ys, s2 _ _ e, by omega, hlt, ?_, ys ++ [v], upd_same, by rw [List.length_append]; simp [hl], fun j u hj => ?_⟩))
  · exact SameBut.same hD (sm.trans s2) .upd
  · by_cases c : j < ys.length
    · rw [List.getElem?_append_left c] at hj
      exact stay _ _ _ _ (SameBut.trans (.of s2) .upd) ⟨_, e⟩ (hR j u hj)
    · rw [List.getElem?_append_right (by omega)] at hj
      have hj0 : j - ys.length = 0 := by
        rcases Nat.eq_zero_or_pos (j - ys.length) with z | z
        · exact z
        · rw [List.getElem?_eq_none (by simp; omega)] at hj; cases hj
      rw [hj0] at hj
      have ev : v = u := Option.some.inj hj
      have ej : j = i := by omega
      subst ev ej
      exact stay _ _ _ _ .upd ⟨_, s2 _ _ e⟩ r2
/-- the same over a list -/
theorem lc_grow {a : Addr} {te : TE} {vs : List Nat} {H1 : Hp} {D : Addr} {Qd : Hp → Prop} {s : Nat} (R : Nat → V → Hp → Prop) (hD : H1 D = none) (hS : SqL K H1 a xs) (hw : ∀ x, wipe ((wipe σ vs).set s (some x)) vs = wipe σ vs)
    (stay : ∀ i v H H', SameBut D H H' → (∃ o, H D = some o) → R i v H → R i v H')
    (step : ∀ (i : Nat) x H', xs[i]? = some x → Same H1 H' → (∃ o, H' D = some o) → ∀ T : VK, (∀ v H2, Same H' H2 → R i v H2 → T v H2) → te ((wipe σ vs).set s (some x)) H' T) (hz : xs.length ≤ sizeLine)
    (hd : ∀ (ys : List V) H', Same H1 H' → H' D = some (.lst ys) → ys.length = xs.length → (∀ (i : Nat) v, ys[i]? = some v → R i v H') → Qd H') :
    ∃ W : Nat → Nat → Hp → Prop, (∃ m, W 0 m (upd H1 D (.lst []))) ∧ ∀ i m H, W i m H →
      ((Itl K a).stop i H ∧ Qd H) ∨ ((Itl K a).go i H ∧ ∃ Nx : Hp → Prop, (∀ H', Nx H' → ∃ m', m' < m ∧ W (i + 1) m' H') ∧ ∀ x H', (Itl K a).yld i H x H' → gName s x (wipe σ vs) H' fun σ2 H2 => wipe σ2 vs = wipe σ vs ∧ tYes σ2 H2 fun b H3 =>
        if b = true then te σ2 H3 fun y H4 => ∃ acc, H4 D = some (.lst acc) ∧ acc.length < sizeLine ∧ Nx (upd H4 D (.lst (acc ++ [y]))) else Nx H3) := by
  refine lc_list (xs := xs) (fun i H' => i ≤ xs.length ∧ Same H1 H' ∧ ∃ ys, H' D = some (.lst ys) ∧ ys.length = i ∧ ∀ (j : Nat) v, ys[j]? = some v → R j v H') ⟨Nat.zero_le _, same_new hD, [], upd_same, rfl, fun j v e => by simp at e⟩ (fun i H' _ ⟨_, sm, _⟩ => sm.seq hS) (fun i x H' hx ⟨hi, sm, ys, e, hl, hR⟩ => ?_) (fun H' ⟨_, sm, ys, e, hl, hR⟩ => hd ys H' sm e hl hR)
  have hlt : i < xs.length := (List.getElem?_eq_some_iff.mp hx).1
  refine ⟨hw _, g_yes (R := fun b H3 => if b = true then _ else _) ?_⟩
  refine (iteT (step i x H' hx sm ⟨_, e⟩ _ fun v H2 s2 r2 => ⟨ys, s2 _ _ e, by omega, hlt, ?_, ys ++ [v], upd_same, by rw [List.length_append]; simp [hl], fun j u hj => ?_⟩))
  · exact SameBut.same hD (sm.trans s2) .upd
  · by_cases c : j < ys.length
    · rw [List.getElem?_append_left c] at hj
      exact stay _ _ _ _ (SameBut.trans (.of s2) .upd) ⟨_, e⟩ (hR j u hj)
    · rw [List.getElem?_append_right (by omega)] at hj
      have hj0 : j - ys.length = 0 := by
        rcases Nat.eq_zero_or_pos (j - ys.length) with z | z
        · exact z
        · rw [List.getElem?_eq_none (by simp; omega)] at hj; cases hj
      rw [hj0] at hj
      have ev : v = u := Option.some.inj hj
      have ej : j = i := by omega
      subst ev ej
      exact stay _ _ _ _ .upd ⟨_, s2 _ _ e⟩ r2
theorem g_bm {T : String} {r : V → List V → Hp → VK → Prop} {t : TA} (h : ta σ H fun x H1 => tyV K T x H1 ∧ t σ H1 fun xs H2 => r x xs H2 Q) : tBM K T r ta t σ H Q := h
theorem g_bm0 {T : String} {r : V → List V → Hp → VK → Prop} (h : ta σ H fun x H1 => tyV K T x H1 ∧ r x [] H1 Q) : tBM0 K T r ta σ H Q := h
theorem g_tyL {R : Prop} (e : H p = some (.lst xs)) (h : R) : tyV K "list" (.ref p) H ∧ R := ⟨Or.inl ⟨rfl, _, SqL.of e⟩, h⟩
theorem iteTd {b : Bool} {A B : Prop} (e : b = true) (h : A) : if b = true then A else B := by rw [if_pos e]; exact h
theorem iteFd {b : Bool} {A B : Prop} (e : b = false) (h : B) : if b = true then A else B := by rw [if_neg (by rw [e]; decide)]; exact h
theorem g_lc {wi : TI} {g : TG} {tt : TT} {te : TE} {vs : List Nat} (h : wi σ H fun J H1 => ∀ D, H1 D = none → ∃ W : Nat → Nat → Hp → Prop, (∃ m, W 0 m (upd H1 D (.lst []))) ∧ ∀ i m H, W i m H →
      (J.stop i H ∧ Q (.ref D) H) ∨ (J.go i H ∧ ∃ Nx : Hp → Prop, (∀ H', Nx H' → ∃ m', m' < m ∧ W (i + 1) m' H') ∧ ∀ x H', J.yld i H x H' → g x (wipe σ vs) H' fun σ2 H2 => wipe σ2 vs = wipe σ vs ∧ tt σ2 H2 fun b H3 =>
        if b = true then te σ2 H3 fun y H4 => ∃ acc, H4 D = some (.lst acc) ∧ acc.length < sizeLine ∧ Nx (upd H4 D (.lst (acc ++ [y]))) else Nx H3)) : tLc wi g tt te vs σ H Q := h
end
/-! rules with the written part named -/
def rLen (K : PySem.W.Frag) : List V → Hp → VK → Prop := fun xs H Q => ∃ p ys, xs = [.ref p] ∧ (SqL K H p ys ∨ SqT K H p ys) ∧ Q (.int ys.length) H
def rListOf (K : PySem.W.Frag) : List V → Hp → VK → Prop := fun xs H Q => ∃ p ys, xs = [.ref p] ∧ (SqL K H p ys ∨ SqT K H p ys) ∧ ∀ l, H l = none → Q (.ref l) (upd H l (.lst ys))
section
variable {X : Cx} {K : PySem.W.Frag}
theorem k_isi (e : X.K = K) : CallR X (.builtin "isinstance") (rIsi K) := e ▸ call_isi
theorem k_ixL (e : X.K = K) : IxR X (rIxL K) := e ▸ ix_list
theorem k_ixT (e : X.K = K) : IxR X (rIxT K) := e ▸ ix_tup
theorem k_in (e : X.K = K) : OpR X (compareOp .In) (rIn K false) := e ▸ op_in_seq
theorem k_nin (e : X.K = K) : OpR X (compareOp .NotIn) (rIn K true) := e ▸ op_notIn_seq
theorem k_eqD (e : X.K = K) (hu : X.A.units + 64 < cLine) : OpR X (compareOp .Eq) (rEqD K) := e ▸ op_eqD hu
theorem k_neD (e : X.K = K) (hu : X.A.units + 64 < cLine) : OpR X (compareOp .NotEq) (rNeD K) := e ▸ op_neD hu
theorem k_len (e : X.K = K) : CallR X (.builtin "len") (rLen K) := e ▸ call_len_seq
theorem k_listOf (e : X.K = K) : CallR X (.type "list") (rListOf K) := e ▸ call_list_of
theorem k_sum (e : X.K = K) (hc : X.calm = true) : CallR X (.builtin "sum") (rSum K) := e ▸ cr_sum hc
theorem k_any (e : X.K = K) (hc : X.calm = true) : CallR X (.builtin "any") (rAny K) := e ▸ cr_any hc
theorem k_all (e : X.K = K) (hc : X.calm = true) : CallR X (.builtin "all") (rAll K) := e ▸ cr_all hc
theorem k_sorted (e : X.K = K) : CallR X (.builtin "sorted") (rSortedI K) := e ▸ cr_sortedI
theorem k_slL (e : X.K = K) : SlR X (rSlL K) := e ▸ sl_list
theorem k_slT (e : X.K = K) : SlR X (rSlT K) := e ▸ sl_tup
theorem k_index (e : X.K = K) : MtR X "list.index" (rIndex K) := e ▸ mt_index
theorem k_catT (e : X.K = K) : OpR X (binaryOp .Add) (rCatT K) := e ▸ op_catT
variable {l : Expr} {tl : TE} {tg : Expr} {pos : Pos}
theorem k_plist (e : X.K = K) (hl : PE X l tl) : PI X tg l (iList K tl) := e ▸ pi_list hl
theorem k_ptup (e : X.K = K) (hl : PE X l tl) : PI X tg l (iTup K tl) := e ▸ pi_tup hl
theorem k_gtup {es : List Expr} {k : Nat} {t : TGs} {n : Nat} (e : X.K = K) (hc : X.calm = true) (h : PGs X es t)
    (hn : (assignEach es X.env).length = n := by rfl) (hst : (assignEach es X.env).findIdx? (·.1) = none := by rfl) : PG X (.Tuple es k pos) (gTup K n t) := e ▸ pg_tup hc h hn hst
theorem k_glst {es : List Expr} {k : Nat} {t : TGs} {n : Nat} (e : X.K = K) (hc : X.calm = true) (h : PGs X es t)
    (hn : (assignEach es X.env).length = n := by rfl) (hst : (assignEach es X.env).findIdx? (·.1) = none := by rfl) : PG X (.Tuple es k pos) (gLst K n t) := e ▸ pg_lst hc h hn hst
theorem k_zip {e e2 : Expr} {ta : TA} {p pos tpos : Pos} {elts : List Expr} {kk : Nat} (ek : X.K = K) (hg : Gl X "zip") (hm : X.mg "zip" = none) (ha : PA X [e, e2] ta)
    (hs : starEach [e, e2] X.env = (false, eval e X.env) :: starEach [e2] X.env := by rfl) (hpl : (backTo pos (starEach [e2] X.env)).any (·.1) = false := by rfl) :
    PI X (.Tuple elts kk tpos) (.Call (.Name "zip" p) [e, e2] [] pos) (iZip K ta) := ek ▸ pi_zip hg hm ha hs hpl
theorem k_enum {e : Expr} {ta : TA} {p pos tpos : Pos} {elts : List Expr} {kk : Nat} (ek : X.K = K) (hg : Gl X "enumerate") (hm : X.mg "enumerate" = none) (ha : PA X [e] ta) (hs : starEach [e] X.env = [(false, eval e X.env)] := by rfl) :
    PI X (.Tuple elts kk tpos) (.Call (.Name "enumerate" p) [e] [] pos) (iEnum K ta) := ek ▸ pi_enum hg hm ha hs
theorem k_fld {e : Expr} {f : PySem.Str} {ta : TE} (ek : X.K = K) (he : PE X e ta) (hb : attributeBase e f X.env (eval e X.env) = eval e X.env) : PE X (.Attribute e f pos) (tFld K ta f) := ek ▸ pe_fld he hb
theorem k_sfld {o value : Expr} {f : PySem.Str} {ta tv : TE} {pos pos' : Pos} (ek : X.K = K) (ha : PE X o ta) (hv : PE X value tv) (hs : swapsWith value (some (.Attribute o f pos')) pos.line X.env = pure false) : PS X (.Assign [.Attribute o f pos'] value pos) (sFld K ta tv f) := ek ▸ ps_fld ha hv hs
theorem k_revL {e : Expr} {te : TE} {k : Nat} {p1 p2 p3 pos : Pos} (ek : X.K = K) (he : PE X e te) : PE X (.Subscript e (.Slice none none (some (.UnaryOp .USub (.Constant (.int 1) k p1) p2)) p3) pos) (tRevL K te) := ek ▸ pe_revL he
theorem k_bm0 {o : Expr} {to : TE} {name : PySem.Str} {apos cpos : Pos} {T id : String} {r : V → List V → Hp → VK → Prop} (ek : X.K = K) (pa : PlainAttrs T) (slot : Slot T name id) (hty : typeOf (.builtin id) = pure (.type "method_descriptor")) (hm : MtR X id r) (ho : PE X o to)
    (hbase : attributeBase o name X.env (eval o X.env) = eval o X.env := by rfl) (hline : (apos.endLine == cpos.line) = true := by rfl) : PE X (.Call (.Attribute o name apos) [] [] cpos) (tBM0 K T r to) := ek ▸ pe_bm0 pa slot hty hm ho hbase hline
theorem k_bm {o e : Expr} {es : List Expr} {to : TE} {t : TA} {name : PySem.Str} {apos cpos : Pos} {T id : String} {r : V → List V → Hp → VK → Prop} (ek : X.K = K) (pa : PlainAttrs T) (slot : Slot T name id) (hty : typeOf (.builtin id) = pure (.type "method_descriptor")) (hm : MtR X id r) (ho : PE X o to) (ha : PA X (e :: es) t)
    (hbase : attributeBase o name X.env (eval o X.env) = eval o X.env := by rfl)
    (hfew : ((backTo cpos (starEach (e :: es) X.env)).all (fun x => !x.1) && (backToKw cpos (keywordEach [] X.env)).all (fun x => x.1.isSome)
      && decide ((e :: es).length + ([] : List Keyword).length + (if ([] : List Keyword).isEmpty then 0 else 1) < 30)) = true := by rfl)
    (hline : (apos.endLine == cpos.line) = true := by rfl) (hs : starEach (e :: es) X.env = (false, eval e X.env) :: starEach es X.env := by rfl) (hplain : (backTo cpos (starEach es X.env)).any (·.1) = false := by rfl) :
    PE X (.Call (.Attribute o name apos) (e :: es) [] cpos) (tBM K T r to t) := ek ▸ pe_bm pa slot hty hm ho ha hbase hfew hline hs hplain
end
section
variable {σ : L2.St} {H : Hp} {Q : VK} {K : PySem.W.Frag} {p q : Addr} {xs ys : List V} {ta : TE} {n : Nat} {R : L2.St → Hp → Prop} {v : V}
theorem g_len (e : SqL K H p xs) (h : Q (.int xs.length) H) : rLen K [.ref p] H Q := ⟨p, xs, rfl, .inl e, h⟩
theorem g_lenT (e : SqT K H p xs) (h : Q (.int xs.length) H) : rLen K [.ref p] H Q := ⟨p, xs, rfl, .inr e, h⟩
theorem g_listOf (e : SqL K H p xs) (h : ∀ l, H l = none → Q (.ref l) (upd H l (.lst xs))) : rListOf K [.ref p] H Q := ⟨p, xs, rfl, .inl e, h⟩
theorem g_glst {t : TGs} (e : SqL K H p xs) (hn : xs.length = n) (h : t xs σ H R) : gLst K n t (.ref p) σ H R := ⟨p, xs, rfl, e, hn, h⟩
theorem g_sorted {ns : List Int} (e : SqL K H p (ns.map V.int)) (h : ∀ (ms : List Int) (q : Addr), ms.Perm ns → ms.Pairwise (· ≤ ·) → H q = none → Q (.ref q) (upd H q (.lst (ms.map V.int)))) : rSortedI K [.ref p] H Q := ⟨p, ns, rfl, e, h⟩
end
section
variable {σ : L2.St} {H : Hp} {Q : VK} {K : PySem.W.Frag} {p q : Addr} {xs ys : List V} {ta : TE} {n : Nat} {v : V}
theorem g_irng1 {ta : TA} {R : It → Hp → Prop} (h : ta σ H fun vs H1 => ∃ j : Int, vs = [.int j] ∧ -(2 ^ 62) ≤ j ∧ j < 2 ^ 62 ∧ R (Itr 0 j.toNat) H1) : iRng1 ta σ H R := h
theorem g_rng1 {R : Int → Prop} {i : Int} (h0 : -(2 ^ 62) ≤ i) (h1 : i < 2 ^ 62) (h : R i) : ∃ j : Int, [V.int i] = [.int j] ∧ -(2 ^ 62) ≤ j ∧ j < 2 ^ 62 ∧ R j := ⟨i, rfl, h0, h1, h⟩
theorem g_ifCC {p : Prop} [Decidable p] {i j : Int} (h : Q (.int (if p then i else j)) H) : if decide p = true then tC (.int i) σ H Q else tC (.int j) σ H Q := by
  by_cases e : p
  · rw [if_pos e] at h; rw [if_pos (decide_eq_true e)]; exact h
  · rw [if_neg e] at h; rw [if_neg (fun z => e (of_decide_eq_true z))]; exact h
theorem mem_cut {xs : List V} {lo hi : Option Int} {v : V} (h : v ∈ cutV xs lo hi) : v ∈ xs := List.mem_of_mem_drop (List.mem_of_mem_take h)
end
theorem kit_mk {K : PySem.W.Frag} {C D : Addr} {b : Bool} (i : PySem.W.isClsIn K D = true) (t : PySem.W.typeIn K (.ref D) = some (.type "type")) (s : PySem.W.subIn K (.ref C) (.ref D) = some b) (n : ((Value.ref C == Value.ref D) && !b) = false) : PySem.W.kitOne K (.ref C) (.ref D) = some b := by
  unfold PySem.W.kitOne
  by_cases h : (Value.ref C == Value.ref D) = true
  · rw [if_pos h]
    rw [h] at n
    cases b with
    | true => rfl
    | false => cases n
  · rw [if_neg h]
    unfold PySem.W.kitCls
    have z : ((PySem.W.clsIn K D).isSome && PySem.W.typeIn K (.ref D) == some (.type "type")) = true := by
      rw [Bool.and_eq_true]
      exact ⟨i, by rw [t]; rfl⟩
    show (if ((PySem.W.clsIn K D).isSome && PySem.W.typeIn K (.ref D) == some (.type "type")) = true then PySem.W.subIn K (.ref C) (.ref D) else none) = some b
    rw [if_pos z, s]
end G66
namespace G66
open PySem PySem.Spec PyProof.Rows L2
/-! tables with pairs as keys -/
def keyP (k : PP) : List Key := [Sum.inl k.1, Sum.inl k.2]
theorem keyP_inj {a b : PP} (h : keyP a = keyP b) : a = b := by
  unfold keyP at h
  simp only [List.cons.injEq, Sum.inl.injEq, and_true] at h
  exact Prod.ext h.1 h.2
theorem keyP_kV (a b : Int) : [V.int a, V.int b] = (keyP (a, b)).map kV := rfl
def encD (d : List (PP × Int)) : List (List Key × V) := d.map fun kv => (keyP kv.1, V.int kv.2)
theorem enc_len (d : List (PP × Int)) : (encD d).length = d.length := by unfold encD; rw [List.length_map]
theorem enc_val (k : PP) : ∀ d : List (PP × Int), valV (encD d) (keyP k) = (getA d k).map V.int
  | [] => rfl
  | p :: r => by
    have ih := enc_val k r
    show valV ((keyP p.1, V.int p.2) :: encD r) (keyP k) = _
    by_cases e : p.1 = k
    · rw [valV_pos (by rw [e]), getA_pos e]; rfl
    · rw [valV_neg (fun z => e (keyP_inj z)), getA_neg e, ih]
theorem enc_any (k : PP) (d : List (PP × Int)) : ((encD d).any fun kv => decide (kv.1 = keyP k)) = (d.any fun kv => decide (kv.1 = k)) := by
  unfold encD
  rw [List.any_map]
  congr 1
  funext kv
  simp only [Function.comp]
  exact decide_eq_decide.mpr ⟨keyP_inj, fun z => by rw [z]⟩
theorem enc_put (d : List (PP × Int)) (k : PP) (v : Int) : putK (encD d) (keyP k) (.int v) = encD (putA d k v) := by
  unfold putK putA
  rw [enc_any]
  by_cases h : (d.any fun kv => decide (kv.1 = k)) = true
  · rw [if_pos h, if_pos h]
    unfold encD
    rw [List.map_map, List.map_map]
    apply List.map_congr_left
    intro kv _
    simp only [Function.comp]
    by_cases e : kv.1 = k
    · rw [if_pos (by rw [e]), if_pos e]
    · rw [if_neg (fun z => e (keyP_inj z)), if_neg e]
  · rw [if_neg h, if_neg h]
    unfold encD
    rw [List.map_append]
    rfl
theorem dget_p {H : Hp} {a b : Addr} {d : List (PP × Int)} {x y : Int} (e : H a = some (.dT (encD d))) (eb : H b = some (.tup [.int x, .int y])) : DGet H a (.ref b) ((getA d (x, y)).map V.int) := by
  have := DGet.t (k := keyP (x, y)) e eb
  rw [enc_val] at this
  exact this
theorem dget_pf {H : Hp} {a b : Addr} {o : Obj} {d : List (PP × Int)} {x y : Int} (e : H a = some (.frz o (.dT (encD d)))) (eb : H b = some (.tup [.int x, .int y])) : DGet H a (.ref b) ((getA d (x, y)).map V.int) := by
  have : DGet H a (.ref b) (valV (encD d) (keyP (x, y))) := .inr ⟨encD d, keyP (x, y), b, .inr ⟨o, e⟩, rfl, eb, rfl⟩
  rw [enc_val] at this
  exact this
theorem dput_p {H : Hp} {a b : Addr} {d : List (PP × Int)} {x y n : Int} (e : H a = some (.dT (encD d))) (eb : H b = some (.tup [.int x, .int y])) (hl : d.length < sizeLine) : DPut H a (.ref b) (.int n) (upd H a (.dT (encD (putA d (x, y) n)))) := by
  have := DPut.t (k := keyP (x, y)) (v := .int n) e eb (by rw [enc_len]; exact hl)
  rw [enc_put] at this
  exact this
/-! lists of threes -/
/-- at a stands a list of lists, the threes ts -/
def Ts (K : PySem.W.Frag) (H : Hp) (a : Addr) (ts : List T3) : Prop := ∃ rs : List Addr, SqL K H a (rs.map V.ref) ∧ rs.length = ts.length ∧ ∀ (i : Nat) r t, rs[i]? = some r → ts[i]? = some t → SqL K H r (t.l.map V.int)
theorem Ts.same {K : PySem.W.Frag} {H H' : Hp} {a : Addr} {ts : List T3} (h : Ts K H a ts) (sm : Same H H') : Ts K H' a ts := by
  obtain ⟨rs, h1, h2, h3⟩ := h
  exact ⟨rs, sm.seq h1, h2, fun i r t hr ht => sm.seq (h3 i r t hr ht)⟩
def dT3 (t : T3) : PyData := .list (t.l.map PyData.int)
theorem T3.l_inj {s t : T3} (h : s.l = t.l) : s = t := by
  obtain ⟨a, b, c⟩ := s
  obtain ⟨x, y, z⟩ := t
  unfold T3.l at h
  simp only [List.cons.injEq, and_true] at h
  obtain ⟨rfl, rfl, rfl⟩ := h
  rfl
theorem coded_t3 : Coded dT3 2 := ⟨fun a b => by
    unfold dT3
    rw [coded_int.list.eq]
    exact decide_eq_decide.mpr ⟨T3.l_inj, fun z => by rw [z]⟩, fun a => coded_int.list.lay _, fun a => coded_int.list.dep _⟩
theorem dpAll_of {K : PySem.W.Frag} {H : Hp} : ∀ (rs : List Addr) (ts : List T3), rs.length = ts.length → (∀ (i : Nat) r t, rs[i]? = some r → ts[i]? = some t → SqL K H r (t.l.map V.int)) → DpAll K H (rs.map V.ref) (ts.map dT3)
  | [], [], _, _ => .nil
  | r :: rs, t :: ts, hl, h => .cons (dp_ints (h 0 r t rfl rfl)) (dpAll_of rs ts (by simpa using hl) fun i r' t' h1 h2 => h (i + 1) r' t' h1 h2)
theorem Ts.dp {K : PySem.W.Frag} {H : Hp} {a : Addr} {ts : List T3} (h : Ts K H a ts) : Dp K H (.ref a) (.list (ts.map dT3)) := by
  obtain ⟨rs, h1, h2, h3⟩ := h
  exact .lst h1 (dpAll_of rs ts h2 h3)
section
variable {σ : L2.St} {H : Hp} {Q : VK} {K : PySem.W.Frag} {p q : Addr} {xs ys : List V} {ta tb tc : TE} {n : Nat} {v : V} {D : Ends}
theorem g_eqTs {ts us : List T3} (h1 : Ts K H p ts) (h2 : Ts K H q us) (h : Q (.bl (decide (ts = us))) H) : rEqD K (.ref p) (.ref q) H Q := g_eqCd coded_t3.list (by decide) h1.dp h2.dp h
theorem g_neTs {ts us : List T3} (h1 : Ts K H p ts) (h2 : Ts K H q us) (h : Q (.bl (!decide (ts = us))) H) : rNeD K (.ref p) (.ref q) H Q := g_neCd coded_t3.list (by decide) h1.dp h2.dp h
theorem g_dnew (h : ∀ p, H p = none → Q (.ref p) (upd H p (.dT []))) : tDNewT σ H Q := h
theorem g_dget2 (h : ta σ H fun x H1 => ∃ a, x = .ref a ∧ IsD H1 a ∧ tb σ H1 fun y H2 => tc σ H2 fun z H3 => ∃ o, DGet H3 a y o ∧ Q (o.getD z) H3) : tDGet2 ta tb tc σ H Q := h
theorem g_isD {a : Addr} {d : List (PP × Int)} {R : Addr → Prop} (e : H a = some (.dT (encD d))) (h : R a) : ∃ b, V.ref a = .ref b ∧ IsD H b ∧ R b := ⟨a, rfl, .inr ⟨_, .inl e⟩, h⟩
theorem g_dput (h : tc σ H fun v H1 => ta σ H1 fun x H2 => tb σ H2 fun y H3 => ∃ a H4, x = .ref a ∧ DPut H3 a y v H4 ∧ D.nx σ H4) : sDPut ta tb tc D σ H := h
theorem g_dget (h : ta σ H fun x H1 => tb σ H1 fun y H2 => ∃ a v, x = .ref a ∧ DGet H2 a y (some v) ∧ Q v H2) : tDGet ta tb σ H Q := h
theorem g_bits (h : ta σ H fun x H1 => ∃ i, x = .int i ∧ Q (.int (Builtin.Int.intBits i : Nat)) H1) : tBits ta σ H Q := h
theorem g_while {c : TT} {tb : TS} (h : ∃ W : Nat → L2.St → Hp → Prop, (∃ m, W m σ H) ∧ ∀ m σ H, W m σ H →
  c σ H fun b H1 => if b = true then ∃ N : L2.St → Hp → Prop, (∀ σ' H', N σ' H' → ∃ m', m' < m ∧ W m' σ' H') ∧ tb { D with nx := N, ct := N, bk := D.nx } σ H1 else D.nx σ H1) : tWhile c tb D σ H := h
/-- a comprehension over zip of two lists of one length, with a test -/
theorem lc_zip {a b : Addr} {g : TG} {tt : TT} {te : TE} {vs : List Nat} {H1 : Hp} {D : Addr} {Qd : Hp → Prop} (f : V → V → Option V) (hl : xs.length = ys.length) (hD : H1 D = none) (hA : SqL K H1 a xs) (hB : SqL K H1 b ys)
    (step : ∀ (i : Nat) x y H' T, xs[i]? = some x → ys[i]? = some y → Same H1 H' → H' T = none → ∀ (A : VK) (B : Hp → Prop), (∀ v, f x y = some v → A v (upd H' T (.tup [x, y]))) → (f x y = none → B (upd H' T (.tup [x, y]))) →
      g (.ref T) (wipe σ vs) (upd H' T (.tup [x, y])) fun σ2 H2 => wipe σ2 vs = wipe σ vs ∧ tt σ2 H2 fun b H3 => if b = true then te σ2 H3 A else B H3) (hz : xs.length ≤ sizeLine)
    (hd : ∀ H', Same H1 H' → H' D = some (.lst ((xs.zip ys).filterMap fun z => f z.1 z.2)) → Qd H') :
    ∃ W : Nat → Nat → Hp → Prop, (∃ m, W 0 m (upd H1 D (.lst []))) ∧ ∀ i m H, W i m H →
      ((Itz K a b).stop i H ∧ Qd H) ∨ ((Itz K a b).go i H ∧ ∃ Nx : Hp → Prop, (∀ H', Nx H' → ∃ m', m' < m ∧ W (i + 1) m' H') ∧ ∀ x H', (Itz K a b).yld i H x H' → g x (wipe σ vs) H' fun σ2 H2 => wipe σ2 vs = wipe σ vs ∧ tt σ2 H2 fun b H3 =>
        if b = true then te σ2 H3 fun y H4 => ∃ acc, H4 D = some (.lst acc) ∧ acc.length < sizeLine ∧ Nx (upd H4 D (.lst (acc ++ [y]))) else Nx H3) := by
  refine ⟨fun i m H' => m = xs.length - i ∧ i ≤ xs.length ∧ Same H1 H' ∧ H' D = some (.lst (((xs.zip ys).take i).filterMap fun z => f z.1 z.2)), ⟨_, rfl, Nat.zero_le _, same_new hD, upd_same⟩, ?_⟩
  rintro i m H' ⟨rfl, hi, sm, e⟩
  have qa := sm.seq hA
  have qb := sm.seq hB
  by_cases hlt : i < xs.length
  · have gx : xs[i]? = some xs[i] := List.getElem?_eq_getElem hlt
    have gy : ys[i]? = some ys[i] := List.getElem?_eq_getElem (by omega)
    refine .inr ⟨⟨xs, ys, xs[i], ys[i], qa, qb, gx, gy⟩, fun H2 => Same H1 H2 ∧ H2 D = some (.lst (((xs.zip ys).take (i + 1)).filterMap fun z => f z.1 z.2)), fun H2 ⟨s2, e2⟩ => ⟨xs.length - (i + 1), by omega, rfl, hlt, s2, e2⟩, fun v H2 hy => ?_⟩
    obtain ⟨T, x1, x2, rfl, nT, rfl, f1, f2⟩ := hy
    have ex1 : xs[i] = x1 := Option.some.inj (gx.symm.trans (f1 _ qa))
    have ex2 : ys[i] = x2 := Option.some.inj (gy.symm.trans (f2 _ qb))
    have hzip : (xs.zip ys)[i]? = some (x1, x2) := by
      rw [List.getElem?_zip_eq_some]
      exact ⟨by rw [gx, ex1], by rw [gy, ex2]⟩
    have eT := at_new (u := .tup [x1, x2]) nT e
    refine step i x1 x2 H' T (by rw [gx, ex1]) (by rw [gy, ex2]) sm nT _ _ (fun v hv => ⟨_, eT, ?_, ?_, ?_⟩) (fun hn => ⟨?_, ?_⟩)
    · have := List.length_filterMap_le (fun z : V × V => f z.1 z.2) ((xs.zip ys).take i)
      rw [List.length_take] at this
      omega
    · exact SameBut.same hD (sm.trans (same_new nT)) .upd
    · rw [upd_same, List.take_add_one, hzip, List.filterMap_append]
      simp [hv]
    · exact sm.trans (same_new nT)
    · rw [eT, List.take_add_one, hzip, List.filterMap_append]
      simp [hn]
  · have e0 : i = xs.length := by omega
    subst e0
    refine .inl ⟨⟨xs, ys, qa, qb, .inl (Nat.le_refl _)⟩, hd H' sm ?_⟩
    rw [e, List.take_of_length_le (by rw [List.length_zip]; omega)]
end
/-! Newton's steps -/
theorem newton {n x : Int} (hn : 0 ≤ n) (hx : 0 < x) : n < ((x + n / x) / 2 + 1) * ((x + n / x) / 2 + 1) := by
  have h1 := Int.mul_ediv_add_emod n x
  have h2 := Int.emod_lt_of_pos n hx
  generalize hq : n / x = q at *
  generalize hy : (x + q) / 2 + 1 = y at *
  have h3 : x + q + 1 ≤ 2 * y := by omega
  have h4 : x * (x + q + 1) ≤ x * (2 * y) := Int.mul_le_mul_of_nonneg_left h3 (by omega)
  have e1 : x * (x + q + 1) = x * x + x * q + x := by grind
  have e2 : x * (2 * y) = 2 * (x * y) := by grind
  have h5 : 0 ≤ (x - y) * (x - y) := by
    rcases Int.le_total 0 (x - y) with z | z
    · exact Int.mul_nonneg z z
    · have : (x - y) * (x - y) = (y - x) * (y - x) := by grind
      rw [this]
      exact Int.mul_nonneg (by omega) (by omega)
  have e3 : (x - y) * (x - y) = x * x - 2 * (x * y) + y * y := by grind
  omega
theorem newton_less {n x : Int} (hn : 0 ≤ n) (hx : 0 < x) (h : n < x * x) : (x + n / x) / 2 < x := by
  have : n / x < x := Int.ediv_lt_of_lt_mul hx h
  omega
theorem newton_pos {n x : Int} (hn : 1 ≤ n) (hx : 0 < x) (h : n < x * x) : 0 < (x + n / x) / 2 := by
  have h0 : 0 ≤ n / x := Int.ediv_nonneg (by omega) (by omega)
  have h2 : 2 ≤ x := by
    rcases Int.lt_or_le x 2 with z | z
    · have : x = 1 := by omega
      subst this; omega
    · exact z
  omega
theorem bits_start {n : Int} (h : 0 ≤ n) : n < (1 * 2 ^ (((Builtin.Int.intBits n : Nat) + 1 : Int) / 2).toNat + 1) * (1 * 2 ^ (((Builtin.Int.intBits n : Nat) + 1 : Int) / 2).toNat + 1) := by
  generalize hb : Builtin.Int.intBits n = b
  have h1 : n.natAbs < 2 ^ b := Bt.iff.mp (show Bt b n from Nat.le_of_eq hb)
  have e : (((b : Nat) + 1 : Int) / 2).toNat = (b + 1) / 2 := by omega
  rw [e]
  have h2 : (2 : Nat) ^ b ≤ 2 ^ ((b + 1) / 2) * 2 ^ ((b + 1) / 2) := by
    rw [← Nat.pow_add]
    exact Nat.pow_le_pow_right (by decide) (by omega)
  have h3 : n < ((2 ^ ((b + 1) / 2) * 2 ^ ((b + 1) / 2) : Nat) : Int) := by omega
  have e2 : ((2 ^ ((b + 1) / 2) * 2 ^ ((b + 1) / 2) : Nat) : Int) = (2 : Int) ^ ((b + 1) / 2) * 2 ^ ((b + 1) / 2) := by push_cast; rfl
  rw [e2] at h3
  have h4 : (0 : Int) < 2 ^ ((b + 1) / 2) := Int.pow_pos (by decide)
  generalize (2 : Int) ^ ((b + 1) / 2) = z at *
  have : (1 * z + 1) * (1 * z + 1) = z * z + 2 * z + 1 := by grind
  omega
theorem sq_ty {K : PySem.W.Frag} {H : Hp} {a : Addr} {xs : List V} (h : SqL K H a xs) : TyX K H (.ref a) (.type "list") := by
  rcases h with (h | ⟨o, h⟩) | ⟨o, its, n, hk, hc, _⟩
  · exact .base (.lst h)
  · exact .base (.frz h)
  · exact .kList hk hc
section
variable {σ : L2.St} {H : Hp} {Q : VK} {K : PySem.W.Frag} {p q : Addr} {xs ys : List V} {ta tb tc : TE} {n : Nat} {v : V} {D : Ends}
theorem g_isi_sq (e : SqL K H p xs) (h : Q (.bl true) H) : rIsi K [.ref p, .ty "list"] H Q := g_isi (u := .type "list") (ty := .type "list") (.ty _) (sq_ty e) (kit_ty (by decide +kernel)) h
theorem g_izip {ta : TA} {R : It → Hp → Prop} (h : ta σ H fun vs H1 => ∃ a b xs ys, vs = [.ref a, .ref b] ∧ SqL K H1 a xs ∧ SqL K H1 b ys ∧ R (Itz K a b) H1) : iZip K ta σ H R := h
theorem g_ienum {ta : TA} {R : It → Hp → Prop} (h : ta σ H fun vs H1 => ∃ a xs, vs = [.ref a] ∧ SqL K H1 a xs ∧ R (Ite K a) H1) : iEnum K ta σ H R := h
theorem g_ikeys {R : It → Hp → Prop} (h : ta σ H fun x H1 => ∃ d o, x = .ref d ∧ ((∃ kvs, H1 d = some (.frz o (.dK kvs)) ∧ R (Itk d o kvs) H1) ∨ ∃ kvs, H1 d = some (.frz o (.dT kvs)) ∧ R (Itkt d o kvs) H1)) : iKeys ta σ H R := h
theorem g_lockE {t : TE} {d : Addr} {u : HO} (e : H d = some u) (m : Mut (some u)) (h : ∀ od, t σ (upd H d (.frz od u)) fun v H' => H' d = some (.frz od u) ∧ Q v (upd H' d u)) : tLockE t σ H Q := ⟨d, u, e, m, h⟩
theorem g_sorted3 {a b c : Int} (e : SqL K H p [.int a, .int b, .int c]) (h : ∀ q, H q = none → Q (.ref q) (upd H q (.lst ((sort3 a b c).map V.int)))) : rSortedI K [.ref p] H Q :=
  g_sorted (ns := [a, b, c]) e fun ms q pm sr nq => by
    rw [sort3_of pm sr]
    exact h q nq
/-- a comprehension over a list of three ints -/
theorem lc_map3 {a : Addr} {te : TE} {vs : List Nat} {H1 : Hp} {D : Addr} {Qd : Hp → Prop} {s : Nat} {x y z : Int} (f : Int → V) (hD : H1 D = none) (hS : SqL K H1 a [.int x, .int y, .int z]) (hw : ∀ x, wipe ((wipe σ vs).set s (some x)) vs = wipe σ vs)
    (step : ∀ i H', (i = x ∨ i = y ∨ i = z) → Same H1 H' → ∀ R : VK, R (f i) H' → te ((wipe σ vs).set s (some (.int i))) H' R) (hd : Qd (upd H1 D (.lst [f x, f y, f z]))) :
    ∃ W : Nat → Nat → Hp → Prop, (∃ m, W 0 m (upd H1 D (.lst []))) ∧ ∀ i m H, W i m H →
      ((Itl K a).stop i H ∧ Qd H) ∨ ((Itl K a).go i H ∧ ∃ Nx : Hp → Prop, (∀ H', Nx H' → ∃ m', m' < m ∧ W (i + 1) m' H') ∧ ∀ x H', (Itl K a).yld i H x H' → gName s x (wipe σ vs) H' fun σ2 H2 => wipe σ2 vs = wipe σ vs ∧ tYes σ2 H2 fun b H3 =>
        if b = true then te σ2 H3 fun y H4 => ∃ acc, H4 D = some (.lst acc) ∧ acc.length < sizeLine ∧ Nx (upd H4 D (.lst (acc ++ [y]))) else Nx H3) := by
  refine lc_map (xs := [.int x, .int y, .int z]) (fun v => match v with | .int i => f i | v => v) hD hS hw (fun v H' hv sm R hR => ?_) (by show 3 ≤ sizeLine; decide) hd
  simp only [List.mem_cons, List.not_mem_nil, or_false] at hv
  rcases hv with rfl | rfl | rfl
  · exact step x H' (.inl rfl) sm R hR
  · exact step y H' (.inr (.inl rfl)) sm R hR
  · exact step z H' (.inr (.inr rfl)) sm R hR
end
end G66
namespace G66
open PySem PySem.Spec PyProof.Rows L2
/-! a op1 b op2 c op3 d op4 e -/
def tChain4 (r1 r2 r3 r4 : R2) (ta tb tc td te : TE) : TE := fun σ H Q => ta σ H fun x H1 => tb σ H1 fun y H2 => r1 x y H2 fun z H3 => ∃ k, z = .bl k ∧
  (if k = true then tc σ H3 fun u H4 => r2 y u H4 fun z' H5 => ∃ k', z' = .bl k' ∧ (if k' = true then td σ H5 fun v H6 => r3 u v H6 fun z6 H7 => ∃ k6, z6 = .bl k6 ∧ (if k6 = true then te σ H7 fun v2 H8 => r4 v v2 H8 Q else Q (.bl false) H7) else Q (.bl false) H5) else Q (.bl false) H3)
section
variable {X : Cx} {a b c d e : Expr} {ta tb tc td te : TE} {pos : Pos} {o1 o2 o3 o4 : CmpOp} {r1 r2 r3 r4 : R2}
theorem pe_chain4 (h1 : OpR X (compareOp o1) r1) (h2 : OpR X (compareOp o2) r2) (h3 : OpR X (compareOp o3) r3) (h4 : OpR X (compareOp o4) r4) (ha : PE X a ta) (hb : PE X b tb) (hc : PE X c tc) (hd : PE X d td) (he : PE X e te)
    (hm : lastMarks [o1, o2, o3, o4] [b, c, d, e] = false := by with_unfolding_all rfl) : PE X (.Compare a [o1, o2, o3, o4] [b, c, d, e] pos) (tChain4 r1 r2 r3 r4 ta tb tc td te) := by
  constructor
  intro pins s σ H Q I h
  refine Compare_chain (thn (ha.run pins s σ H _ I h) fun v s1 ⟨x, H1, I1, rx, q1⟩ => chain_link (thn (hb.run pins s1 σ H1 _ I1 q1) fun u s2 ⟨y, H2, I2, ry, q2⟩ =>
    thn (h1 pins s2 σ H2 x y v u _ I2 rx ry q2) fun e s3 ⟨z, H3, I3, rz, k, ez, q3⟩ => ?_)) hm
  subst ez; cases rz
  refine wpAny_truthy_bool ?_
  cases k with
  | false => exact ite_ff ⟨.bl false, H3, I3, rfl, q3⟩
  | true =>
    refine ite_tt (chain_link (thn (hc.run pins s3 σ H3 _ I3 q3) fun u2 s4 ⟨y2, H4, I4, ry2, q4⟩ => thn (h2 pins s4 σ H4 y y2 u u2 _ I4 ry ry2 q4) fun e' s5 ⟨z', H5, I5, rz', k', ez', q5⟩ => ?_))
    subst ez'; cases rz'
    refine wpAny_truthy_bool ?_
    cases k' with
    | false => exact ite_ff ⟨.bl false, H5, I5, rfl, q5⟩
    | true =>
      refine ite_tt (chain_link (thn (hd.run pins s5 σ H5 _ I5 q5) fun u3 s6 ⟨y3, H6, I6, ry3, q6⟩ => thn (h3 pins s6 σ H6 y2 y3 u2 u3 _ I6 ry2 ry3 q6) fun e6 s7 ⟨z7, H7, I7, r7, k7, e7, q7⟩ => ?_))
      subst e7; cases r7
      refine wpAny_truthy_bool ?_
      cases k7 with
      | false => exact ite_ff ⟨.bl false, H7, I7, rfl, q7⟩
      | true => exact ite_tt (chain_last (thn (he.run pins s7 σ H7 _ I7 q7) fun u4 s8 ⟨y4, H8, I8, ry4, q8⟩ => h4 pins s8 σ H8 y3 y4 u3 u4 Q I8 ry3 ry4 q8))
end
section
variable {σ : L2.St} {H : Hp} {Q : VK} {K : PySem.W.Frag} {p q : Addr} {xs ys : List V} {ta tb tc td te : TE} {n : Nat} {v : V} {D : Ends}
theorem g_chain4 {r1 r2 r3 r4 : R2} (h : ta σ H fun x H1 => tb σ H1 fun y H2 => r1 x y H2 fun z H3 => ∃ k, z = .bl k ∧
  (if k = true then tc σ H3 fun u H4 => r2 y u H4 fun z' H5 => ∃ k', z' = .bl k' ∧ (if k' = true then td σ H5 fun v H6 => r3 u v H6 fun z6 H7 => ∃ k6, z6 = .bl k6 ∧ (if k6 = true then te σ H7 fun v2 H8 => r4 v v2 H8 Q else Q (.bl false) H7) else Q (.bl false) H5) else Q (.bl false) H3)) : tChain4 r1 r2 r3 r4 ta tb tc td te σ H Q := h
theorem g_listRg {t : L2.St → Hp → (Int → Int → Hp → Prop) → Prop} (h : t σ H fun a b H1 => RgOk a b ∧ ∀ q, H1 q = none → Q (.ref q) (upd H1 q (.lst (rgV a b)))) : tLstRg t σ H Q := h
theorem g_rg1 {R : Int → Int → Hp → Prop} (h : ta σ H fun x H1 => ∃ n, x = .int n ∧ R 0 n H1) : tRg1 ta σ H R := h
theorem g_append {l : Addr} {xs : List V} {y : V} (e : H l = some (.lst xs)) (hz : xs.length < sizeLine) (h : Q .non (upd H l (.lst (xs ++ [y])))) : rAppend (.ref l) [y] H Q := ⟨l, xs, y, rfl, rfl, e, hz, h⟩
/-- the keys of a table of pairs, walked by a comprehension -/
theorem lc_keysT {d : Addr} {o : Obj} {vs : List Nat} {H1 : Hp} {D : Addr} {Qd : Hp → Prop} {s : Nat} {dd : List (PP × Int)} (f : PP × Int → V) (hF : H1 d = some (.frz o (.dT (encD dd)))) (hD : H1 D = none) (hw : ∀ x, wipe ((wipe σ vs).set s (some x)) vs = wipe σ vs)
    (step : ∀ kv ∈ dd, ∀ q H', Same H1 H' → H' q = some (.tup [.int kv.1.1, .int kv.1.2]) → ∀ R : VK, R (f kv) H' → te ((wipe σ vs).set s (some (.ref q))) H' R) (hz : dd.length ≤ sizeLine) (hd : Qd (upd H1 D (.lst (dd.map f)))) :
    ∃ W : Nat → Nat → Hp → Prop, (∃ m, W 0 m (upd H1 D (.lst []))) ∧ ∀ i m H, W i m H →
      ((Itkt d o (encD dd)).stop i H ∧ Qd H) ∨ ((Itkt d o (encD dd)).go i H ∧ ∃ Nx : Hp → Prop, (∀ H', Nx H' → ∃ m', m' < m ∧ W (i + 1) m' H') ∧ ∀ x H', (Itkt d o (encD dd)).yld i H x H' → gName s x (wipe σ vs) H' fun σ2 H2 => wipe σ2 vs = wipe σ vs ∧ tYes σ2 H2 fun b H3 =>
        if b = true then te σ2 H3 fun y H4 => ∃ acc, H4 D = some (.lst acc) ∧ acc.length < sizeLine ∧ Nx (upd H4 D (.lst (acc ++ [y]))) else Nx H3) := by
  refine ⟨fun i m H' => m = dd.length - i ∧ i ≤ dd.length ∧ H' = upd H1 D (.lst ((dd.take i).map f)), ⟨_, rfl, Nat.zero_le _, rfl⟩, ?_⟩
  rintro i m H' ⟨rfl, hi, e⟩
  have sm : Same H1 H' := by rw [e]; exact same_new hD
  have hF' := sm _ _ hF
  by_cases hlt : i < dd.length
  · refine .inr ⟨⟨hF', by rw [enc_len]; exact hlt⟩, fun H2 => H2 = upd H1 D (.lst ((dd.take (i + 1)).map f)), fun H2 e2 => ⟨dd.length - (i + 1), by omega, rfl, hlt, e2⟩, fun v H2 hy => ?_⟩
    obtain ⟨rfl, k, v1, q, hk, rfl, hq⟩ := hy
    have hg : dd[i]? = some dd[i] := List.getElem?_eq_getElem hlt
    have hk2 : (keyP dd[i].1, V.int dd[i].2) = (k, v1) := by
      unfold encD at hk
      rw [List.getElem?_map, hg] at hk
      exact Option.some.inj hk
    have hk3 : keyP dd[i].1 = k := congrArg Prod.fst hk2
    rw [← hk3] at hq
    refine ⟨hw _, g_yes (R := fun b H3 => if b = true then _ else _) ?_⟩
    refine iteT (step dd[i] (List.getElem_mem _) q H2 sm hq _ ⟨(dd.take i).map f, by rw [e]; exact upd_same, ?_, ?_⟩)
    · rw [List.length_map, List.length_take]; omega
    · rw [e, upd_upd, List.take_add_one, hg, List.map_append]; rfl
  · have e0 : i = dd.length := by omega
    subst e0
    refine .inl ⟨⟨hF', by rw [enc_len]; exact Nat.le_refl _⟩, ?_⟩
    rw [e, List.take_length]
    exact hd
end
/-! lists of new objects -/
theorem refs_of {P : Nat → Addr → Prop} : ∀ {ys : List V}, (∀ (i : Nat) v, ys[i]? = some v → ∃ q, v = .ref q ∧ P i q) → ∃ rs : List Addr, ys = rs.map V.ref ∧ ∀ (i : Nat) r, rs[i]? = some r → P i r
  | [], _ => ⟨[], rfl, fun i r h => by simp at h⟩
  | y :: ys, h => by
    obtain ⟨q, rfl, pq⟩ := h 0 y rfl
    obtain ⟨rs, e, hr⟩ := refs_of (P := fun i => P (i + 1)) (ys := ys) fun i v hv => h (i + 1) v hv
    refine ⟨q :: rs, by rw [e]; rfl, fun i r hi => ?_⟩
    cases i with
    | zero => cases hi; exact pq
    | succ i => exact hr i r hi
theorem bools_of {P : Nat → Bool} : ∀ {n : Nat} {ys : List V}, ys.length = n → (∀ (i : Nat) v, ys[i]? = some v → v = .bl (P i)) → ys = ((List.range n).map P).map V.bl := by
  intro n ys hl h
  refine List.ext_getElem? fun i => ?_
  by_cases hi : i < ys.length
  · have e := List.getElem?_eq_getElem hi
    rw [e, h i _ e, List.getElem?_map, List.getElem?_map, List.getElem?_range (by omega)]
    rfl
  · rw [List.getElem?_eq_none (by omega), List.getElem?_eq_none (by simp; omega)]
theorem ints_of {P : Nat → Int} : ∀ {n : Nat} {ys : List V}, ys.length = n → (∀ (i : Nat) v, ys[i]? = some v → v = .int (P i)) → ys = ((List.range n).map P).map V.int := by
  intro n ys hl h
  refine List.ext_getElem? fun i => ?_
  by_cases hi : i < ys.length
  · have e := List.getElem?_eq_getElem hi
    rw [e, h i _ e, List.getElem?_map, List.getElem?_map, List.getElem?_range (by omega)]
    rfl
  · rw [List.getElem?_eq_none (by omega), List.getElem?_eq_none (by simp; omega)]
theorem all_true (n : Nat) : ((List.range n).map fun _ => true).all id = true := by
  rw [List.all_eq_true]; intro b hb; obtain ⟨i, _, rfl⟩ := List.mem_map.mp hb; rfl
theorem rgV_ints (n : Int) : rgV 0 n = ((List.range n.toNat).map fun (i : Nat) => (i : Int)).map V.int := by
  unfold rgV
  rw [List.map_map, Int.sub_zero]
  apply List.map_congr_left
  intro i _
  simp
/-! how often, by steps -/
theorem ticks_len : ∀ (ps : List PP) (d : List (PP × Int)), (ticks ps d).length ≤ d.length + ps.length
  | [], d => Nat.le_refl _
  | k :: ps, d => by
    have ih := ticks_len ps (tick d k)
    have : (tick d k).length ≤ d.length + 1 := by
      unfold tick putA
      split
      · rw [List.length_map]; omega
      · simp
    show (ticks ps (tick d k)).length ≤ d.length + (k :: ps).length
    rw [List.length_cons]
    omega
theorem ticks_append (ps qs : List PP) (d : List (PP × Int)) : ticks (ps ++ qs) d = ticks qs (ticks ps d) := by unfold ticks; rw [List.foldl_append]
theorem times_snoc {ts : List T3} {i : Nat} {t : T3} (h : ts[i]? = some t) : times (ts.take (i + 1)) = ticks (prs t) (times (ts.take i)) := by
  unfold times
  rw [← ticks_append]
  congr 1
  unfold allPrs
  rw [List.take_add_one, h, List.flatMap_append]
  simp
theorem times_len (ts : List T3) : (times ts).length ≤ 3 * ts.length := by
  have := ticks_len (allPrs ts) []
  rw [allPrs_len] at this
  unfold times
  simpa using this
theorem ticks_snoc {ps : List PP} {j : Nat} {k : PP} (h : ps[j]? = some k) (d : List (PP × Int)) : ticks (ps.take (j + 1)) d = tick (ticks (ps.take j) d) k := by
  rw [List.take_add_one, h, ticks_append]
  rfl
theorem Ts.get {K : PySem.W.Frag} {H : Hp} {a : Addr} {ts : List T3} (h : Ts K H a ts) : ∃ rs : List Addr, SqL K H a (rs.map V.ref) ∧ rs.length = ts.length ∧ ∀ (i : Nat) x, (rs.map V.ref)[i]? = some x → ∃ r t, x = .ref r ∧ rs[i]? = some r ∧ ts[i]? = some t ∧ SqL K H r (t.l.map V.int) := by
  obtain ⟨rs, h1, h2, h3⟩ := h
  refine ⟨rs, h1, h2, fun i x hx => ?_⟩
  rw [List.getElem?_map] at hx
  cases e : rs[i]? with
  | none => rw [e] at hx; cases hx
  | some r =>
    rw [e] at hx
    have hi : i < rs.length := (List.getElem?_eq_some_iff.mp e).1
    have ht := List.getElem?_eq_getElem (l := ts) (i := i) (by omega)
    exact ⟨r, _, (Option.some.inj hx).symm, rfl, ht, h3 i r _ e ht⟩
theorem made_at {p : Int} {i : Nat} {t : T3} (h : (made p)[i]? = some t) : t = t3 (threeOf p i) ∧ (i : Int) < manyOf p := by
  unfold made at h
  have hi : i < (List.range (manyOf p).toNat).length := by
    have := (List.getElem?_eq_some_iff.mp h).1
    simpa using this
  rw [List.length_range] at hi
  rw [List.getElem?_map, List.getElem?_range hi] at h
  exact ⟨(Option.some.inj h).symm, by omega⟩
end G66
namespace G66
open PySem PySem.Spec PyProof.Rows L2
/-! d.values() of a table with tuple keys -/
theorem frzTV {X : Cx} {pins : List (Addr × Obj)} {σ : L2.St} {H : Hp} {s : Shared} {d : Addr} {o : Obj} {kvs : List (List Key × V)} (I : Inv X pins σ H s) (h : H d = some (.frz o (.dT kvs))) :
    (d == sysModules) = false ∧ s.heap.get? d = some o ∧ o.ExactDict ∧ ∃ (es : Array DictEntry) (ep : Nat), o.data = .dict es ep ∧ es.size = kvs.length ∧
      ∀ (i : Nat) (k : List Key) (v : V), kvs[i]? = some (k, v) → ∃ en : DictEntry, es[i]? = some en ∧ RelV v en.val := by
  obtain ⟨hd, z, hs, xs, pr, o', es, ep, ho, hx, hdt, he, _⟩ := I.hok d _ h
  rw [hd] at ho
  cases ho
  refine ⟨hs, hd, hx, es, ep, hdt, ?_, fun i k v e => ?_⟩
  · have l1 : es.size = xs.length := size_of_entries he
    have l2 : kvs.length = xs.length := Paired.length pr
    omega
  · obtain ⟨b, hb, e1, e2, e3⟩ := paired_get pr e
    have q := entry_at he i
    rw [hb] at q
    exact ⟨_, q, e3⟩
def Itdt (d : Addr) (o : Obj) (kvs : List (List Key × V)) : It :=
  ⟨fun i H => H d = some (.frz o (.dT kvs)) ∧ i < kvs.length, fun i H x H' => H' = H ∧ ∃ k, kvs[i]? = some (k, x), fun i H => H d = some (.frz o (.dT kvs)) ∧ kvs.length ≤ i⟩
section
variable {P : Program} {w : World} {K : PySem.W.Frag} {tg : Expr} {d : Addr} {o : Obj} {es : Array DictEntry} {ep : Nat}
theorem turn_valsT {kvs : List (List Key × V)} (it : Addr) (hod : o.data = .dict es ep) : Turn P w K tg (Itdt d o kvs) [it] it (fun i h => h.IsValIter it d i kvs.length ep) where
  mem := by simp
  obj := fun i h st b hb => by
    have e : b = it := by simpa using hb
    subst e
    obtain ⟨oi, e, c, dd⟩ := st
    exact ⟨oi, e, fun v z => by rw [dd] at z; cases z⟩
  keep := fun i h h' st k => st.at fun oi e => k it (by simp) oi e
  item := by
    intro X hP hw hK hc i pins s σ H E I hf st hg
    subst hP hw hK
    obtain ⟨hd, hi⟩ := hg
    obtain ⟨f0, f1, f2, f3, f4, f5⟩ := hf it (by simp)
    obtain ⟨hs, hgd, hx, es', ep', hdt, hsz, ent⟩ := frzTV I hd
    obtain ⟨rfl, rfl⟩ := dict_ep hod hdt
    obtain ⟨⟨k, v⟩, hkv⟩ : ∃ p, kvs[i]? = some p := ⟨kvs[i], List.getElem?_eq_getElem hi⟩
    obtain ⟨en, hen, hval⟩ := ent i k v hkv
    rw [← hsz] at st
    have hlt : i < es'.size := by omega
    refine wpAny_pyNext_values_item_raw st ⟨o, hgd, hx, hdt⟩ hlt fun h' st' sb => ?_
    have I1 : Inv X pins σ H { s with heap := h' } := I.turned (t' := s.toks) (fun b ob hb e => (sb.2 b hb).trans e) f0 f1 f3 f4 f5
    obtain ⟨oi, e, c, dd⟩ := id st'
    have hen2 : es'[i] = en := by
      rw [Array.getElem?_eq_getElem hlt] at hen
      exact Option.some.inj hen
    refine ⟨es'[i].val, rfl, go_of (s := { s with heap := h' }) e c dd (by decide) ⟨v, H, I1, by rw [hen2]; exact hval, ⟨rfl, k, hkv⟩, ?_, fun b hb => (hf b hb).1⟩⟩
    show h'.IsValIter it d (i + 1) kvs.length _
    rw [← hsz]
    exact st'
  done := by
    intro X hP hw hK hc i pins s σ H E I hf st hg
    subst hP hw hK
    obtain ⟨hd, hi⟩ := hg
    obtain ⟨f0, f1, f2, f3, f4, f5⟩ := hf it (by simp)
    obtain ⟨hs, hgd, hx, es', ep', hdt, hsz, ent⟩ := frzTV I hd
    obtain ⟨rfl, rfl⟩ := dict_ep hod hdt
    rw [← hsz] at st
    exact wpAny_pyNext_values_end_raw (I.ok.hd hc) st ⟨o, hgd, hx, hdt⟩ (by omega) fun h' eb => ⟨rfl, I.turned (t' := s.toks) (fun b ob hb e => eb b ob hb e) f0 f1 f3 f4 f5⟩
  self := fun A i s Q E st h => wpAny_pyIter_valiter st h
end
def iValsT (td : TE) : TI := fun σ H R => td σ H fun x H1 => ∃ d o kvs, x = .ref d ∧ H1 d = some (.frz o (.dT kvs)) ∧ R (Itdt d o kvs) H1
theorem pi_valuesT {X : Cx} {tg e : Expr} {td : TE} {apos cpos : Pos} (he : PE X e td) (hbase : attributeBase e "values" X.env (eval e X.env) = eval e X.env := by rfl) (hline : (apos.endLine == cpos.line) = true := by rfl) : PI X tg (.Call (.Attribute e "values" apos) [] [] cpos) (iValsT td) := by
  refine ⟨fun pins s σ H R I h => ?_⟩
  refine wpAny_Call_method (T := "dict") (id := "dict.values") hbase rfl hline F.plainAttrs_dict F.slot_dict_values F.type_dict_values (thn (he.run pins s σ H _ I h) fun u s1 ⟨x, H1, I1, rx, d, o, kvs, ex, hd, q⟩ => ?_)
  subst ex
  obtain rfl : u = Value.ref d := rx
  obtain ⟨hs, hgd, hx, es, ep, hdt, hsz, ent⟩ := frzTV I1 hd
  have hraw : s1.heap.DictRaw d es ep := ⟨o, hgd, hx, hdt⟩
  refine ⟨hraw.typeIs, ?_, ?_⟩
  · intro a ea
    cases ea
    exact ⟨o, hgd, hx.2.1⟩
  have I2 : Inv X pins σ H1 { s1 with heap := s1.heap.push { cls := .type "dict_values", data := .fields #[.ref d] } } := I1.kept (t' := s1.toks) fun b ob q => Heap.get?_push_of_some _ q
  have fin : wpAny (model X.prog X.w) X.A (pyIter (.ref s1.heap.objs.size)) (PIE X pins σ tg R) X.xe { s1 with heap := s1.heap.push { cls := .type "dict_values", data := .fields #[.ref d] } } := by
    refine wpAny_pyIter_values_raw (d := d) ⟨_, Heap.get?_push_size _ rfl, rfl, rfl⟩ ⟨o, Heap.get?_push_of_some _ hgd, hx, hdt⟩ (pi_one (tk := s1.toks) I2 _ (turn_valsT _ hdt) ⟨_, Heap.get?_push_size _ rfl, rfl, ?_⟩ q)
    rw [hsz] <;> rfl
  show wpAny _ _ (callWith cpos (.builtin "dict.values") [.ref d] [] []) _ X.xe s1
  exact method_meetsIn F.slot_dict_values F.entry_dict_values rfl (PySem.evalArgs_none ⟨rfl, hraw.typeIs, F.args_dict_values_1 _, _, meets_dict_values_raw d hs, ⟨_, _, hraw⟩, fin⟩)
section
variable {σ : L2.St} {H : Hp} {Q : VK} {K : PySem.W.Frag} {p q : Addr} {xs ys : List V} {ta tb tc td te : TE} {n : Nat} {v : V} {D : Ends}
theorem g_ivals {R : It → Hp → Prop} (h : ta σ H fun x H1 => ∃ d o kvs, x = .ref d ∧ H1 d = some (.frz o (.dT kvs)) ∧ R (Itdt d o kvs) H1) : iValsT ta σ H R := h
theorem lc_valsT {d : Addr} {o : Obj} {vs : List Nat} {H1 : Hp} {D : Addr} {Qd : Hp → Prop} {s : Nat} {dd : List (PP × Int)} (f : Int → V) (hF : H1 d = some (.frz o (.dT (encD dd)))) (hD : H1 D = none) (hw : ∀ x, wipe ((wipe σ vs).set s (some x)) vs = wipe σ vs)
    (step : ∀ i H', Same H1 H' → ∀ R : VK, R (f i) H' → te ((wipe σ vs).set s (some (.int i))) H' R) (hz : dd.length ≤ sizeLine) (hd : Qd (upd H1 D (.lst (dd.map fun kv => f kv.2)))) :
    ∃ W : Nat → Nat → Hp → Prop, (∃ m, W 0 m (upd H1 D (.lst []))) ∧ ∀ i m H, W i m H →
      ((Itdt d o (encD dd)).stop i H ∧ Qd H) ∨ ((Itdt d o (encD dd)).go i H ∧ ∃ Nx : Hp → Prop, (∀ H', Nx H' → ∃ m', m' < m ∧ W (i + 1) m' H') ∧ ∀ x H', (Itdt d o (encD dd)).yld i H x H' → gName s x (wipe σ vs) H' fun σ2 H2 => wipe σ2 vs = wipe σ vs ∧ tYes σ2 H2 fun b H3 =>
        if b = true then te σ2 H3 fun y H4 => ∃ acc, H4 D = some (.lst acc) ∧ acc.length < sizeLine ∧ Nx (upd H4 D (.lst (acc ++ [y]))) else Nx H3) := by
  refine ⟨fun i m H' => m = dd.length - i ∧ i ≤ dd.length ∧ H' = upd H1 D (.lst ((dd.take i).map fun kv => f kv.2)), ⟨_, rfl, Nat.zero_le _, rfl⟩, ?_⟩
  rintro i m H' ⟨rfl, hi, e⟩
  have sm : Same H1 H' := by rw [e]; exact same_new hD
  have hF' := sm _ _ hF
  by_cases hlt : i < dd.length
  · refine .inr ⟨⟨hF', by rw [enc_len]; exact hlt⟩, fun H2 => H2 = upd H1 D (.lst ((dd.take (i + 1)).map fun kv => f kv.2)), fun H2 e2 => ⟨dd.length - (i + 1), by omega, rfl, hlt, e2⟩, fun v H2 hy => ?_⟩
    obtain ⟨rfl, k, hk⟩ := hy
    have hg : dd[i]? = some dd[i] := List.getElem?_eq_getElem hlt
    have hk2 : (keyP dd[i].1, V.int dd[i].2) = (k, v) := by
      unfold encD at hk
      rw [List.getElem?_map, hg] at hk
      exact Option.some.inj hk
    have hk3 : V.int dd[i].2 = v := congrArg Prod.snd hk2
    subst hk3
    refine ⟨hw _, g_yes (R := fun b H3 => if b = true then _ else _) ?_⟩
    refine iteT (step dd[i].2 H2 sm _ ⟨(dd.take i).map fun kv => f kv.2, by rw [e]; exact upd_same, ?_, ?_⟩)
    · rw [List.length_map, List.length_take]; omega
    · rw [e, upd_upd, List.take_add_one, hg, List.map_append]; rfl
  · have e0 : i = dd.length := by omega
    subst e0
    refine .inl ⟨⟨hF', by rw [enc_len]; exact Nat.le_refl _⟩, ?_⟩
    rw [e, List.take_length]
    exact hd
/-- a list of threes that is tracked -/
def TsT (K : PySem.W.Frag) (H : Hp) (a : Addr) (ts : List T3) : Prop := ∃ rs : List Addr, H a = some (.lst (rs.map V.ref)) ∧ rs.length = ts.length ∧ ∀ (i : Nat) r t, rs[i]? = some r → ts[i]? = some t → SqL K H r (t.l.map V.int)
theorem TsT.ts {a : Addr} {ts : List T3} (h : TsT K H a ts) : Ts K H a ts := by
  obtain ⟨rs, h1, h2, h3⟩ := h
  exact ⟨rs, SqL.of h1, h2, h3⟩
theorem TsT.same {H' : Hp} {a : Addr} {ts : List T3} (h : TsT K H a ts) (sm : Same H H') : TsT K H' a ts := by
  obtain ⟨rs, h1, h2, h3⟩ := h
  exact ⟨rs, sm _ _ h1, h2, fun i r t hr ht => sm.seq (h3 i r t hr ht)⟩
def cutT {α : Type} (ts : List α) (lo hi : Option Int) : List α := (ts.drop (HT.sIx ts.length 0 lo)).take (HT.sIx ts.length ts.length hi - HT.sIx ts.length 0 lo)
theorem mem_cutT {α : Type} {ts : List α} {lo hi : Option Int} {t : α} (h : t ∈ cutT ts lo hi) : t ∈ ts := List.mem_of_mem_drop (List.mem_of_mem_take h)
theorem cutT_len {α : Type} (ts : List α) (lo hi : Option Int) : (cutT ts lo hi).length ≤ ts.length := by
  unfold cutT
  rw [List.length_take, List.length_drop]; omega
theorem cutV_map {α : Type} (f : α → V) (xs : List α) (lo hi : Option Int) : cutV (xs.map f) lo hi = (cutT xs lo hi).map f := by
  unfold cutV cutT
  rw [List.length_map, List.map_take, List.map_drop]
theorem cutT_get {α : Type} {ts : List α} {lo hi : Option Int} {i : Nat} {t : α} (h : (cutT ts lo hi)[i]? = some t) : ts[HT.sIx ts.length 0 lo + i]? = some t ∧ i < HT.sIx ts.length ts.length hi - HT.sIx ts.length 0 lo := by
  unfold cutT at h
  rw [List.getElem?_take] at h
  split at h
  · rw [List.getElem?_drop] at h
    exact ⟨h, by assumption⟩
  · cases h
/-- a slice of a list of threes -/
theorem g_slTs {a : Addr} {ts : List T3} {lo hi : Option Int} (h1 : Ts K H a ts) (h : ∀ q o, H q = none → TsT K (upd H q o) q (cutT ts lo hi) → Q (.ref q) (upd H q o)) : rSlL K (.ref a) lo hi H Q := by
  obtain ⟨rs, hS, hl, hg⟩ := h1
  refine g_slL hS fun q nq => h q _ nq ?_
  refine ⟨cutT rs lo hi, by rw [upd_same, cutV_map], ?_, fun i r t hr ht => ?_⟩
  · unfold cutT
    rw [List.length_take, List.length_drop, List.length_take, List.length_drop, hl]
  · obtain ⟨e1, _⟩ := cutT_get hr
    obtain ⟨e2, _⟩ := cutT_get ht
    rw [hl] at e1
    exact sq_new nq (hg _ r t e1 e2)
theorem g_catTs {a b : Addr} {ts us : List T3} (h1 : TsT K H a ts) (h2 : TsT K H b us) (hz : ts.length + us.length ≤ 1000000) (h : ∀ q o, H q = none → TsT K (upd H q o) q (ts ++ us) → Q (.ref q) (upd H q o)) : rCat (.ref a) (.ref b) H Q := by
  obtain ⟨rs, e1, l1, g1⟩ := h1
  obtain ⟨rs2, e2, l2, g2⟩ := h2
  refine ⟨a, b, _, _, rfl, rfl, e1, e2, by rw [List.length_map, List.length_map, sizeLine_eq]; omega, fun q nq => h q _ nq ?_⟩
  refine ⟨rs ++ rs2, by rw [upd_same, List.map_append], by rw [List.length_append, List.length_append, l1, l2], fun i r t hr ht => sq_new nq ?_⟩
  by_cases c : i < rs.length
  · rw [List.getElem?_append_left c] at hr
    rw [List.getElem?_append_left (by omega)] at ht
    exact g1 i r t hr ht
  · rw [List.getElem?_append_right (by omega)] at hr
    rw [List.getElem?_append_right (by omega)] at ht
    rw [l1] at hr
    exact g2 _ r t hr ht
/-- an item of a list of threes -/
theorem Ts.at_ {a : Addr} {ts : List T3} {i : Int} (h : Ts K H a ts) (h0 : 0 ≤ i) (h1 : i < ts.length) : ∃ (rs : List Addr) (r : Addr) (t : T3), SqL K H a (rs.map V.ref) ∧ atI (rs.map V.ref) i = some (.ref r) ∧ ts[i.toNat]? = some t ∧ SqL K H r (t.l.map V.int) := by
  obtain ⟨rs, hS, hl, hg⟩ := h
  have hi : i.toNat < rs.length := by omega
  have hr := List.getElem?_eq_getElem hi
  have ht := List.getElem?_eq_getElem (l := ts) (i := i.toNat) (by omega)
  refine ⟨rs, _, _, hS, ?_, ht, hg _ _ _ hr ht⟩
  have := atI_nat (xs := rs.map V.ref) (j := i.toNat) (v := .ref rs[i.toNat]) (by rw [List.getElem?_map, hr]; rfl)
  rw [Int.toNat_of_nonneg h0] at this
  exact this
theorem tsT_nil : TsT K (upd H q (.lst [])) q [] := ⟨[], upd_same, rfl, fun i r t h => by simp at h⟩
theorem tsT_one {r : Addr} {t : T3} (h : SqL K H r (t.l.map V.int)) (nq : H q = none) : TsT K (upd H q (.lst [.ref r])) q [t] := ⟨[r], upd_same, rfl, fun i r' t' h1 h2 => by
  cases i with
  | zero => cases h1; cases h2; exact sq_new nq h
  | succ i => simp at h1⟩
theorem g_fld {C dx : Addr} {fs : List (PySem.Str × V)} {f : PySem.Str} {R : V → Prop} (e : H p = some (.ins C dx fs)) (cl : Cls K C) (na : NoAttr K C f) (l : fs.lookup f = some v) (h : R v) : ∃ a C dx fs w, V.ref p = .ref a ∧ H a = some (.ins C dx fs) ∧ Cls K C ∧ NoAttr K C f ∧ fs.lookup f = some w ∧ R w := ⟨p, C, dx, fs, v, rfl, e, cl, na, l, h⟩
theorem g_tfld {f : PySem.Str} (h : ta σ H fun x H1 => ∃ a C dx fs v, x = .ref a ∧ H1 a = some (.ins C dx fs) ∧ Cls K C ∧ NoAttr K C f ∧ fs.lookup f = some v ∧ Q v H1) : tFld K ta f σ H Q := h
theorem g_sfld {f : PySem.Str} (h : tb σ H fun y H1 => ta σ H1 fun x H2 => ∃ a C dx fs, x = .ref a ∧ H2 a = some (.ins C dx fs) ∧ Cls K C ∧ NoAttr K C f ∧ fs.length < 1000 ∧ D.nx σ (upd H2 a (.ins C dx (putF f y fs)))) : sFld K ta tb f D σ H := h
/-- a comprehension over ints with a test -/
theorem lc_filt {a : Addr} {tt : TT} {vs : List Nat} {H1 : Hp} {D : Addr} {Qd : Hp → Prop} {s : Nat} {ns : List Int} (P : Int → Bool) (hD : H1 D = none) (hS : SqL K H1 a (ns.map V.int)) (hw : ∀ x, wipe ((wipe σ vs).set s (some x)) vs = wipe σ vs)
    (test : ∀ i ∈ ns, ∀ H', Same H1 H' → ∀ R : Bool → Hp → Prop, R (P i) H' → tt ((wipe σ vs).set s (some (.int i))) H' R)
    (elt : ∀ i H', ∀ R : VK, R (.int i) H' → te ((wipe σ vs).set s (some (.int i))) H' R) (hz : ns.length ≤ sizeLine) (hd : Qd (upd H1 D (.lst ((ns.filter P).map V.int)))) :
    ∃ W : Nat → Nat → Hp → Prop, (∃ m, W 0 m (upd H1 D (.lst []))) ∧ ∀ i m H, W i m H →
      ((Itl K a).stop i H ∧ Qd H) ∨ ((Itl K a).go i H ∧ ∃ Nx : Hp → Prop, (∀ H', Nx H' → ∃ m', m' < m ∧ W (i + 1) m' H') ∧ ∀ x H', (Itl K a).yld i H x H' → gName s x (wipe σ vs) H' fun σ2 H2 => wipe σ2 vs = wipe σ vs ∧ tt σ2 H2 fun b H3 =>
        if b = true then te σ2 H3 fun y H4 => ∃ acc, H4 D = some (.lst acc) ∧ acc.length < sizeLine ∧ Nx (upd H4 D (.lst (acc ++ [y]))) else Nx H3) := by
  refine lc_list (xs := ns.map V.int) (fun i H' => i ≤ ns.length ∧ H' = upd H1 D (.lst (((ns.take i).filter P).map V.int))) ⟨Nat.zero_le _, rfl⟩ (fun i H' _ ⟨_, e⟩ => by rw [e]; exact sq_new hD hS) (fun i x H' hx ⟨hi, e⟩ => ?_) (fun H' ⟨_, e⟩ => by rw [e, List.length_map, List.take_length]; exact hd)
  rw [List.getElem?_map] at hx
  cases e2 : ns[i]? with
  | none => rw [e2] at hx; cases hx
  | some k =>
    rw [e2] at hx
    have ex : x = .int k := (Option.some.inj hx).symm
    subst ex
    have hlt : i < ns.length := (List.getElem?_eq_some_iff.mp e2).1
    refine ⟨hw _, ?_⟩
    refine test k (List.mem_of_getElem? e2) H' (by rw [e]; exact same_new hD) _ ?_
    cases hP : P k with
    | true =>
      refine iteT (elt k H' _ ⟨((ns.take i).filter P).map V.int, by rw [e]; exact upd_same, ?_, hlt, ?_⟩)
      · have := List.length_filter_le P (ns.take i)
        rw [List.length_take] at this
        rw [List.length_map]; omega
      · rw [e, upd_upd, List.take_add_one, e2, List.filter_append, List.map_append]
        simp [hP]
    | false =>
      refine iteF ⟨hlt, ?_⟩
      rw [e, List.take_add_one, e2, List.filter_append]
      simp [hP]
end
section
variable {σ : L2.St} {H : Hp} {Q : VK} {K : PySem.W.Frag} {p q : Addr} {xs ys : List V} {ta tb tc td te : TE} {n : Nat} {v : V} {D : Ends}
/-- a comprehension over zip of two lists of one length; a turn may make new objects -/
theorem lc_zipG {a b : Addr} {g : TG} {tt : TT} {te : TE} {vs : List Nat} {H1 : Hp} {D : Addr} {Qd : Hp → Prop} (f : V → V → Option V) (hl : xs.length = ys.length) (hD : H1 D = none) (hA : SqL K H1 a xs) (hB : SqL K H1 b ys)
    (step : ∀ (i : Nat) x y H' T, xs[i]? = some x → ys[i]? = some y → Same H1 H' → H' T = none → ∀ (A : VK) (B : Hp → Prop), (∀ v H2, f x y = some v → Same (upd H' T (.tup [x, y])) H2 → A v H2) → (∀ H2, f x y = none → Same (upd H' T (.tup [x, y])) H2 → B H2) →
      g (.ref T) (wipe σ vs) (upd H' T (.tup [x, y])) fun σ2 H2 => wipe σ2 vs = wipe σ vs ∧ tt σ2 H2 fun b H3 => if b = true then te σ2 H3 A else B H3) (hz : xs.length ≤ sizeLine)
    (hd : ∀ H', Same H1 H' → H' D = some (.lst ((xs.zip ys).filterMap fun z => f z.1 z.2)) → Qd H') :
    ∃ W : Nat → Nat → Hp → Prop, (∃ m, W 0 m (upd H1 D (.lst []))) ∧ ∀ i m H, W i m H →
      ((Itz K a b).stop i H ∧ Qd H) ∨ ((Itz K a b).go i H ∧ ∃ Nx : Hp → Prop, (∀ H', Nx H' → ∃ m', m' < m ∧ W (i + 1) m' H') ∧ ∀ x H', (Itz K a b).yld i H x H' → g x (wipe σ vs) H' fun σ2 H2 => wipe σ2 vs = wipe σ vs ∧ tt σ2 H2 fun b H3 =>
        if b = true then te σ2 H3 fun y H4 => ∃ acc, H4 D = some (.lst acc) ∧ acc.length < sizeLine ∧ Nx (upd H4 D (.lst (acc ++ [y]))) else Nx H3) := by
  refine ⟨fun i m H' => m = xs.length - i ∧ i ≤ xs.length ∧ Same H1 H' ∧ H' D = some (.lst (((xs.zip ys).take i).filterMap fun z => f z.1 z.2)), ⟨_, rfl, Nat.zero_le _, same_new hD, upd_same⟩, ?_⟩
  rintro i m H' ⟨rfl, hi, sm, e⟩
  have qa := sm.seq hA
  have qb := sm.seq hB
  by_cases hlt : i < xs.length
  · have gx : xs[i]? = some xs[i] := List.getElem?_eq_getElem hlt
    have gy : ys[i]? = some ys[i] := List.getElem?_eq_getElem (by omega)
    refine .inr ⟨⟨xs, ys, xs[i], ys[i], qa, qb, gx, gy⟩, fun H2 => Same H1 H2 ∧ H2 D = some (.lst (((xs.zip ys).take (i + 1)).filterMap fun z => f z.1 z.2)), fun H2 ⟨s2, e2⟩ => ⟨xs.length - (i + 1), by omega, rfl, hlt, s2, e2⟩, fun v H2 hy => ?_⟩
    obtain ⟨T, x1, x2, rfl, nT, rfl, f1, f2⟩ := hy
    have ex1 : xs[i] = x1 := Option.some.inj (gx.symm.trans (f1 _ qa))
    have ex2 : ys[i] = x2 := Option.some.inj (gy.symm.trans (f2 _ qb))
    have hzip : (xs.zip ys)[i]? = some (x1, x2) := by
      rw [List.getElem?_zip_eq_some]
      exact ⟨by rw [gx, ex1], by rw [gy, ex2]⟩
    have eT := at_new (u := .tup [x1, x2]) nT e
    refine step i x1 x2 H' T (by rw [gx, ex1]) (by rw [gy, ex2]) sm nT _ _ (fun v H2 hv s2 => ⟨_, s2 _ _ eT, ?_, ?_, ?_⟩) (fun H2 hn s2 => ⟨?_, ?_⟩)
    · have := List.length_filterMap_le (fun z : V × V => f z.1 z.2) ((xs.zip ys).take i)
      rw [List.length_take] at this
      omega
    · exact SameBut.same hD (sm.trans ((same_new nT).trans s2)) .upd
    · rw [upd_same, List.take_add_one, hzip, List.filterMap_append]
      simp [hv]
    · exact sm.trans ((same_new nT).trans s2)
    · rw [s2 _ _ eT, List.take_add_one, hzip, List.filterMap_append]
      simp [hn]
  · have e0 : i = xs.length := by omega
    subst e0
    refine .inl ⟨⟨xs, ys, qa, qb, .inl (Nat.le_refl _)⟩, hd H' sm ?_⟩
    rw [e, List.take_of_length_le (by rw [List.length_zip]; omega)]
theorem ts_two {r1 r2 : Addr} {t1 t2 : T3} (h1 : SqL K H r1 (t1.l.map V.int)) (h2 : SqL K H r2 (t2.l.map V.int)) (nq : H q = none) : TsT K (upd H q (.lst [.ref r1, .ref r2])) q [t1, t2] := ⟨[r1, r2], upd_same, rfl, fun i r t e1 e2 => by
  match i with
  | 0 => cases e1; cases e2; exact sq_new nq h1
  | 1 => cases e1; cases e2; exact sq_new nq h2
  | i + 2 => simp at e1⟩
/-- a list of pairs of ints -/
def PrsT (H : Hp) (a : Addr) : Prop := ∃ rs : List Addr, H a = some (.lst (rs.map V.ref)) ∧ rs.length ≤ 1000 ∧ ∀ r ∈ rs, ∃ u v : Int, H r = some (.tup [.int u, .int v])
theorem g_says_eq {b d : Bool} (h : Q (.bl (decide (b = d))) H) : rEq (.bl b) (.bl d) H Q := g_eqB h
end
theorem noattr_mk {K : PySem.W.Frag} {C : Addr} {f : PySem.Str} (h : PySem.W.findIn K (.ref C) f = some none) : NoAttr K C f := h
end G66
namespace G66
open PySem PySem.Spec PySem.Calls PyProof.Rows L2
/-! set(l) of a list of ints, and sorted of it -/
abbrev newSet (w : World) : Obj := { cls := .type "set", dict := none, data := .set #[] 0 (.fresh 0 0 (!w.params.followText "set-order")) }
set_option maxHeartbeats 3200000 in
theorem set_of_ints {P : Program} {w : World} {A : Around} {E : Value → Shared → Prop} {s : Shared} {l : Addr} {its : Array Value} (ks : List Int) {Q : Value → Shared → Prop} (quiet : A.handled = none) (isl : s.heap.IsList l its) (hint : IntsAre its.toList ks) (few : ks.length + 1 < scanBound)
    (fin : ∀ (g : Heap) (tk c : Nat), SetR w g s.heap.objs.size (fun j => decide (j ∈ ks)) c → c ≤ ks.length → (∀ b o, s.heap.get? b = some o → g.get? b = some o) → Q (.ref s.heap.objs.size) { s with heap := g, toks := tk }) :
    wpAny (model P w) A (call (.type "set") [.ref l]) Q E s := by
  have size : its.size = ks.length := (Array.length_toList (xs := its)).symm.trans (IntsAre.length hint)
  obtain ⟨mc, mt, mm⟩ := F.called_set.mro
  have m1 := F.called_set.made
  have m2 := F.called_set.sub
  have m3 := F.called_set.notType
  have m4 := F.called_set.canCreate
  have m5 := F.typeCall_set_1 (.ref l)
  refine wpAny_call (codeAny_of_tree ?_)
  show wpAny _ _ (callAny (.type "set") _) _ _ _
  refine wpAny_pure ⟨Code.quiet_builtin _ (by decide +kernel), codeAny_builtin F.entry_type_call ?_⟩
  rw [Around.under_plain (weight_type_call_type "set" [.ref l] []) rfl]
  repeat (any_goals (first | assumption | wp_step))
  refine codeAny_mono (code_set_led1 (.ref l) (E := E) (Q₁ := fun v t => v = .ref s.heap.objs.size ∧ t = { s with heap := s.heap.push (newSet w) }) ⟨rfl, rfl⟩) fun r t hr => ?_
  match r, hr with
  | .error e, hr => exact hr
  | .ok (.ret v), hr =>
    obtain ⟨rfl, rfl⟩ := hr
    have there : (s.heap.push (newSet w)).get? s.heap.objs.size = some (newSet w) := Heap.get?_push_size _ rfl
    have typ : Shared.TypeIs { s with heap := s.heap.push (newSet w) } (.ref s.heap.objs.size) "set" := ⟨_, there, rfl⟩
    have i1 := F.called_set.init.lookup
    have i2 := F.called_set.init.bind (.ref s.heap.objs.size)
    repeat (any_goals (first | assumption | wp_step))
    refine codeAny_mono (codeAny_call_builtin (R := wants (fun u t => u = .none ∧ ∃ g tk c, t = { s with heap := g, toks := tk } ∧ SetR w g s.heap.objs.size (fun j => decide (j ∈ ks)) c ∧ c ≤ ks.length ∧
        (∀ b o, s.heap.get? b = some o → g.get? b = some o)) E) F.called_set.init.plain F.entry_set_init (check_set_init_1 typ ?_)) fun u t hu => ?_
    · obtain ⟨⟨oc, od, oda, osl⟩, og, occ, on, odd⟩ := isl
      simp only at occ odd
      subst occ; subst odd
      have og2 : (s.heap.push (newSet w)).get? l = some { cls := .type "list", dict := od, data := .seq its on, slots := osl } := Heap.get?_push_of_some _ og
      have k1 := F.sub_list_set
      have k2 := F.sub_list_frozenset
      have k3 : (Value.type "list" == Value.type "dict") = false := by decide
      have isl2 : (s.heap.push (newSet w)).IsList l its := ⟨_, og2, rfl, on, rfl⟩
      unfold Builtin.«set.__init__» noKeywords Builtin.Frozenset.updateFrom
      generalize hPI : pyIter = PI
      wp_walk
      subst hPI
      refine wpAny_pyIter_list isl2 (wpAny_bind (wpAny_runValue ?_))
      have lt1 : l < s.heap.objs.size := Heap.lt_size og
      have ne1 : l ≠ (s.heap.push (newSet w)).objs.size := by rw [Heap.size_push]; exact Nat.ne_of_lt (Nat.lt_succ_of_lt lt1)
      have ne2 : s.heap.objs.size ∉ [(s.heap.push (newSet w)).objs.size, l] := by
        rw [Heap.size_push]
        simp only [List.mem_cons, List.not_mem_nil, or_false, not_or]
        exact ⟨Nat.ne_of_lt (Nat.lt_succ_self _), Nat.ne_of_gt lt1⟩
      have val : ∀ (i : Nat) (v : Value), its[i]? = some v → ∃ k t, ks[i]? = some k ∧ v = .int k t := by
        intro i v hv
        have hi : i < ks.length := size ▸ (Array.getElem?_eq_some_iff.mp hv).1
        obtain ⟨t, e⟩ := IntsAre.int_at hint i v (by rw [Array.getElem?_toList]; exact hv)
        refine ⟨ks[i], t, List.getElem?_eq_getElem hi, ?_⟩
        rw [e, List.getD_eq_getElem?_getD, List.getElem?_eq_getElem hi]
        rfl
      refine set_update_ints ((Walks.list (by simp [quiet]) _ l ne1 its).toS) s.heap.objs.size ne2 ks size few val (its.size - 0) 0 _ (by omega) (Nat.zero_le _) ⟨⟨_, Heap.get?_push_size _ rfl, rfl, rfl⟩, isl2.push _⟩ ?start ?end_
      case start => exact ⟨0, Nat.le_refl 0, setR_new_at (Heap.get?_push_of_some _ there)⟩
      case end_ =>
        rintro ⟨g, gg, gd, gt, go⟩ c mv hc hS
        have e1 : gg = s.gens := mv.gens
        have e2 : gd = s.drawn := mv.drawn
        have e3 : go = s.os := mv.os
        subst e1 e2 e3
        show wpAny _ _ _ _ _ _
        refine wpAny_pure ?_
        show wpAny _ _ (ret Value.none) _ _ _
        refine wpAny_pure ⟨rfl, g, gt, c, rfl, hS, size ▸ hc, fun b o e => ?_⟩
        have lt2 : b < s.heap.objs.size := Heap.lt_size e
        refine mv.heap b o ?_ (Heap.get?_push_of_some _ (Heap.get?_push_of_some _ e))
        rw [Heap.size_push]
        simp only [List.mem_cons, List.not_mem_nil, or_false, not_or]
        exact ⟨Nat.ne_of_lt lt2, Nat.ne_of_lt (Nat.lt_succ_of_lt lt2)⟩
    · match u, hu with
      | .error e, hu => exact hu
      | .ok (.ret v), hu =>
        obtain ⟨rfl, g, tk, c, rfl, hS, hc, hk⟩ := hu
        repeat (any_goals (first | assumption | wp_step))
        exact fin _ _ _ hS hc hk
      | .ok .next, hu => exact hu.elim
      | .ok .brk, hu => exact hu.elim
      | .ok .cont, hu => exact hu.elim
  | .ok .next, hr => exact hr.elim
  | .ok .brk, hr => exact hr.elim
  | .ok .cont, hr => exact hr.elim
def rSetI (K : PySem.W.Frag) (w : World) : List V → Hp → VK → Prop := fun xs H Q => ∃ (a : Addr) (ns : List Int), xs = [V.ref a] ∧ SqL K H a (ns.map V.int) ∧ ns.length ≤ 1000 ∧ ∀ p c, H p = none → c ≤ ns.length → Q (.ref p) (upd H p (SetO w p (fun j => decide (j ∈ ns)) c))
theorem k_setI {X : Cx} {K : PySem.W.Frag} (ek : X.K = K) (hc : X.calm = true) : CallR X (.type "set") (rSetI K X.w) := by
  subst ek
  intro pins s σ H xs us Q I r h
  obtain ⟨a, ns, rfl, hs, hn, q⟩ := h
  obtain ⟨its, rv, hl, _⟩ := I.list hs
  rw [Vals.ref1 r]
  refine set_of_ints ns (I.ok.hd hc) hl.isList rv.ints (by have : scanBound = scanBound := rfl; unfold scanBound; omega) fun g tk c hS hcn hk => ?_
  exact ⟨.ref s.heap.objs.size, upd H s.heap.objs.size (SetO X.w s.heap.objs.size (fun j => decide (j ∈ ns)) c), I.laid (t' := tk) hk (Nat.le_refl _) (setO_new hS), rfl, q _ c (I.hok.fresh (Nat.le_refl _)) hcn⟩
section
variable {σ : L2.St} {H : Hp} {Q : VK} {K : PySem.W.Frag} {p q a : Addr} {xs ys : List V} {ta tb tc td te : TE} {n : Nat} {v : V} {D : Ends} {g : TG} {u : TS}
/-- for i, x in enumerate(a list that stands still) -/
theorem for_enum (Pv : Nat → L2.St → Hp → Prop) (h0 : Pv 0 σ H) (hl : ∀ i σ H, i ≤ xs.length → Pv i σ H → SqL K H a xs)
    (hs : ∀ i x σ H T, xs[i]? = some x → Pv i σ H → H T = none → g (.ref T) σ (upd H T (.tup [.int (i : Nat), x])) fun σ2 H2 => u { D with nx := Pv (i + 1), ct := Pv (i + 1), bk := D.nx } σ2 H2) (hd : ∀ σ H, Pv xs.length σ H → D.nx σ H) :
    ∃ W : Nat → Nat → L2.St → Hp → Prop, (∃ m, W 0 m σ H) ∧ ∀ i m σ H, W i m σ H → ((Ite K a).stop i H ∧ D.nx σ H) ∨ ((Ite K a).go i H ∧ ∃ N : L2.St → Hp → Prop, (∀ σ' H', N σ' H' → ∃ m', m' < m ∧ W (i + 1) m' σ' H') ∧
      ∀ x H', (Ite K a).yld i H x H' → g x σ H' fun σ2 H2 => u { D with nx := N, ct := N, bk := D.nx } σ2 H2) := by
  refine ⟨fun i m σ H => m = xs.length - i ∧ i ≤ xs.length ∧ Pv i σ H, ⟨_, rfl, Nat.zero_le _, h0⟩, ?_⟩
  rintro i m σ1 H1 ⟨rfl, hi, p1⟩
  have sq := hl i σ1 H1 hi p1
  by_cases lt : i < xs.length
  · refine .inr ⟨⟨xs, xs[i], sq, List.getElem?_eq_getElem lt⟩, Pv (i + 1), fun σ' H' p' => ⟨xs.length - (i + 1), by omega, rfl, lt, p'⟩, ?_⟩
    rintro x H' ⟨T, y, rfl, nT, rfl, hy⟩
    exact hs i y σ1 H1 T (hy xs sq) p1 nT
  · obtain rfl : i = xs.length := by omega
    exact .inl ⟨⟨xs, sq, Nat.le_refl _⟩, hd σ1 H1 p1⟩
theorem g_din (h : ta σ H fun y H1 => tb σ H1 fun x H2 => ∃ a o, x = .ref a ∧ DGet H2 a y o ∧ Q (.bl o.isSome) H2) : tDIn ta tb σ H Q := h
theorem g_dnotin (h : ta σ H fun y H1 => tb σ H1 fun x H2 => ∃ a o, x = .ref a ∧ DGet H2 a y o ∧ Q (.bl (!o.isSome)) H2) : tDNotIn ta tb σ H Q := h
end
end G66
namespace G66
open PySem PySem.Spec PySem.Calls PyProof.Rows L2
/-! l.count(b) of a list of bools -/
def isB (b : Bool) (v : Value) : Bool := match v with
  | .bool d => d == b
  | _ => false
theorem vals_bools : ∀ {bs : List Bool} {us : List Value}, Vals (bs.map V.bl) us → us = bs.map Value.bool
  | [], _, .nil => rfl
  | b :: bs, _, .cons r t => by
    have e : _ = Value.bool b := r
    rw [e, vals_bools t]
    rfl
theorem count_bools (b : Bool) : ∀ bs : List Bool, (bs.map Value.bool).countP (isB b) = bs.count b
  | [] => rfl
  | d :: bs => by
    rw [List.map_cons, List.countP_cons, List.count_cons, count_bools b bs]
    rfl
def rCntB (K : PySem.W.Frag) : V → List V → Hp → VK → Prop := fun x xs H Q => ∃ (p : Addr) (bs : List Bool) (b : Bool), x = .ref p ∧ xs = [.bl b] ∧ SqL K H p (bs.map V.bl) ∧ Q (.int (bs.count b : Nat)) H
theorem k_countB {X : Cx} {K : PySem.W.Frag} (ek : X.K = K) : MtR X "list.count" (rCntB K) := by
  subst ek
  intro pins s σ H x xs v us Q I rx rxs h
  obtain ⟨p, bs, b, rfl, rfl, hs, q⟩ := h
  cases rx
  obtain ⟨u, rfl, ru⟩ := rxs.one
  obtain rfl : u = Value.bool b := ru
  obtain ⟨its, rv, ⟨⟨cls, dd, data, sl⟩, n, ho, hc, hdn, hd⟩, hlen⟩ := I.list hs
  simp only at hc hd
  subst hc hd
  have hi := vals_bools rv
  refine call_meets PySem.F.slot_list_count ⟨_, ho, rfl⟩ PySem.F.entry_list_count (PySem.F.args_list_count_2 _ _) (SeqAt.list_countAt p its.toArray n dd sl (.bool b) (isB b)) ⟨ho, fun y hy => ?_, ?_⟩
  · have hm : y ∈ its := by simpa using hy
    rw [hi] at hm
    obtain ⟨d, _, rfl⟩ := List.mem_map.mp hm
    exact eqAt_V (y := .bl d) (x := .bl b) rfl rfl rfl rfl
  · have ec : its.toArray.toList.countP (isB b) = bs.count b := by
      show its.countP (isB b) = bs.count b
      rw [hi, count_bools]
    refine ⟨.int (bs.count b : Nat), H, I.tok _, ⟨s.toks, ?_⟩, q⟩
    show Value.int ((its.toArray.toList.countP (isB b) : Nat) : Int) s.toks = Value.int ((bs.count b : Nat) : Int) s.toks
    rw [ec]
section
variable {H : Hp} {Q : VK} {K : PySem.W.Frag} {p : Addr}
theorem g_count3 {a1 a2 a3 b : Bool} (h1 : SqL K H p [.bl a1, .bl a2, .bl a3]) (h : Q (.int (([a1, a2, a3].count b : Nat) : Int)) H) : rCntB K (.ref p) [.bl b] H Q := ⟨p, [a1, a2, a3], b, rfl, rfl, h1, h⟩
end
/-- lists of lists of threes -/
def Tss (K : PySem.W.Frag) (H : Hp) (a : Addr) : Prop := ∃ rs : List Addr, SqL K H a (rs.map V.ref) ∧ ∀ r ∈ rs, ∃ us : List T3, Ts K H r us ∧ us.length ≤ 10000
theorem Tss.same {K : PySem.W.Frag} {H H' : Hp} {a : Addr} (h : Tss K H a) (sm : Same H H') : Tss K H' a := by
  obtain ⟨rs, h1, h2⟩ := h
  exact ⟨rs, sm.seq h1, fun r hr => let ⟨us, t, l⟩ := h2 r hr; ⟨us, t.same sm, l⟩⟩
/-! a list of threes grown in place -/
section
variable {K : PySem.W.Frag} {H : Hp} {a b r : Addr} {rs : List Addr} {ts us : List T3} {t : T3} {o : HO}
theorem sq_apart (h : SqL K H r (t.l.map V.int)) (ha : H a = some (.lst (rs.map V.ref))) : SqL K (upd H a o) r (t.l.map V.int) := by
  rcases h with (h | ⟨ob, h⟩) | h
  · refine .inl (.inl ?_)
    rw [upd_ne]
    · exact h
    · refine ne_of h ha fun z => ?_
      have e := HO.lst.inj z
      cases rs with
      | nil => cases e
      | cons q qs => cases e
  · refine .inl (.inr ⟨ob, ?_⟩)
    rw [upd_ne (ne_of h ha (by intro z; cases z))]
    exact h
  · exact .inr h
theorem TsT.keep (h : TsT K H b us) (hne : b ≠ a) (ha : H a = some (.lst (rs.map V.ref))) : TsT K (upd H a o) b us := by
  obtain ⟨rs2, h1, h2, h3⟩ := h
  exact ⟨rs2, by rw [upd_ne hne]; exact h1, h2, fun i r t hr ht => sq_apart (h3 i r t hr ht) ha⟩
theorem tsT_push (h1 : H a = some (.lst (rs.map V.ref))) (h2 : rs.length = ts.length) (h3 : ∀ (i : Nat) r t, rs[i]? = some r → ts[i]? = some t → SqL K H r (t.l.map V.int)) (hr : SqL K H r (t.l.map V.int)) : TsT K (upd H a (.lst (rs.map V.ref ++ [.ref r]))) a (ts ++ [t]) := by
  refine ⟨rs ++ [r], by rw [upd_same, List.map_append]; rfl, by rw [List.length_append, List.length_append, h2]; rfl, fun i r' t' e1 e2 => ?_⟩
  by_cases c : i < rs.length
  · rw [List.getElem?_append_left c] at e1
    rw [List.getElem?_append_left (by omega)] at e2
    exact sq_apart (h3 i r' t' e1 e2) h1
  · rw [List.getElem?_append_right (by omega)] at e1 e2
    have hi : i - rs.length = 0 := by
      have := (List.getElem?_eq_some_iff.mp e1).1
      simp at this
      omega
    rw [hi] at e1
    rw [← h2, hi] at e2
    cases e1
    cases e2
    exact sq_apart hr h1
end
theorem k_setW {X : Cx} {K : PySem.W.Frag} {w : World} (ek : X.K = K) (ew : X.w = w) (hc : X.calm = true) : CallR X (.type "set") (rSetI K w) := ew ▸ k_setI ek hc
theorem k_sortedSet {X : Cx} {w : World} (ew : X.w = w) (hc : X.calm = true) : CallR X (.builtin "sorted") (rSortedSet w) := ew ▸ cr_sortedSet hc
/-- three ints as a set, in order: a three if they are three -/
theorem set3 {x y z p : Int} {ns : List Int} (hx : 0 ≤ x ∧ x < p) (hy : 0 ≤ y ∧ y < p) (hz : 0 ≤ z ∧ z < p) (hs : ns.Pairwise (· < ·)) (hm : ∀ k, k ∈ ns ↔ decide (k ∈ [x, y, z]) = true) (hl : ns.length = 3) : ∃ t : T3, ns = t.l ∧ T3.ok p t := by
  match ns, hl with
  | [a, b, c], _ =>
    have rg : ∀ k, k ∈ [a, b, c] → 0 ≤ k ∧ k < p := by
      intro k hk
      have := (hm k).mp hk
      simp at this
      rcases this with rfl | rfl | rfl <;> omega
    have ra := rg a (by simp)
    have rc := rg c (by simp)
    simp at hs
    exact ⟨(a, b, c), rfl, by unfold T3.ok; simp; omega⟩
theorem g_par3 {σ : L2.St} {H : Hp} {D : Ends} {i j l : Nat} {ta : TA} (h : ta σ H fun vs H1 => ∃ u v w, vs = [u, v, w] ∧ D.nx (((σ.set i (some u)).set j (some v)).set l (some w)) H1) : tPar3 i j l ta D σ H := h
end G66
namespace G66
open PySem PySem.Spec PySem.Calls PyProof.Rows L2
section
variable {σ : L2.St} {H : Hp} {Q : VK} {K : PySem.W.Frag} {p q : Addr} {xs ys : List V} {ta tb tc td te : TE} {n : Nat} {v : V} {D : Ends}
def pRef (x : Addr × T3) : V := .ref x.1
/-- a list of threes as pairs of place and three -/
theorem Ts.pairs {a : Addr} {ts : List T3} (h : Ts K H a ts) : ∃ ps : List (Addr × T3), SqL K H a (ps.map pRef) ∧ ts = ps.map Prod.snd ∧ ∀ x ∈ ps, SqL K H x.1 (x.2.l.map V.int) := by
  obtain ⟨rs, hS, hl, hg⟩ := h
  refine ⟨rs.zip ts, ?_, (List.map_snd_zip (by omega)).symm, fun x hx => ?_⟩
  · have : (rs.zip ts).map pRef = rs.map V.ref := by
      have e : (rs.zip ts).map pRef = ((rs.zip ts).map Prod.fst).map V.ref := by rw [List.map_map]; rfl
      rw [e, List.map_fst_zip (by omega)]
    rw [this]
    exact hS
  · obtain ⟨i, hi⟩ := List.getElem?_of_mem hx
    rw [List.getElem?_zip_eq_some] at hi
    exact hg i _ _ hi.1 hi.2
theorem tsT_pairs {a : Addr} {ps : List (Addr × T3)} (h : H a = some (.lst (ps.map pRef))) (hg : ∀ x ∈ ps, SqL K H x.1 (x.2.l.map V.int)) : TsT K H a (ps.map Prod.snd) := by
  refine ⟨ps.map Prod.fst, by rw [h, List.map_map]; rfl, by rw [List.length_map, List.length_map], fun i r t hr ht => ?_⟩
  rw [List.getElem?_map] at hr ht
  cases e : ps[i]? with
  | none => rw [e] at hr; cases hr
  | some x =>
    rw [e] at hr ht
    cases hr
    cases ht
    exact hg x (List.mem_of_getElem? e)
/-- a comprehension over a list of threes with a test -/
theorem lc_filtTs {a : Addr} {tt : TT} {vs : List Nat} {H1 : Hp} {D : Addr} {Qd : Hp → Prop} {s : Nat} {ts : List T3} (P : T3 → Bool) (hD : H1 D = none) (hT : Ts K H1 a ts) (hw : ∀ x, wipe ((wipe σ vs).set s (some x)) vs = wipe σ vs)
    (test : ∀ t ∈ ts, ∀ r H', SqL K H' r (t.l.map V.int) → Same H1 H' → ∀ R : Bool → Hp → Prop, R (P t) H' → tt ((wipe σ vs).set s (some (.ref r))) H' R)
    (elt : ∀ r H', ∀ R : VK, R (.ref r) H' → te ((wipe σ vs).set s (some (.ref r))) H' R) (hz : ts.length ≤ sizeLine) (hd : ∀ o, TsT K (upd H1 D o) D (ts.filter P) → Qd (upd H1 D o)) :
    ∃ W : Nat → Nat → Hp → Prop, (∃ m, W 0 m (upd H1 D (.lst []))) ∧ ∀ i m H, W i m H →
      ((Itl K a).stop i H ∧ Qd H) ∨ ((Itl K a).go i H ∧ ∃ Nx : Hp → Prop, (∀ H', Nx H' → ∃ m', m' < m ∧ W (i + 1) m' H') ∧ ∀ x H', (Itl K a).yld i H x H' → gName s x (wipe σ vs) H' fun σ2 H2 => wipe σ2 vs = wipe σ vs ∧ tt σ2 H2 fun b H3 =>
        if b = true then te σ2 H3 fun y H4 => ∃ acc, H4 D = some (.lst acc) ∧ acc.length < sizeLine ∧ Nx (upd H4 D (.lst (acc ++ [y]))) else Nx H3) := by
  obtain ⟨ps, hS, rfl, hg⟩ := hT.pairs
  rw [List.length_map] at hz
  refine lc_list (xs := ps.map pRef) (fun i H' => i ≤ ps.length ∧ H' = upd H1 D (.lst (((ps.take i).filter (P ∘ Prod.snd)).map pRef))) ⟨Nat.zero_le _, rfl⟩ (fun i H' _ ⟨_, e⟩ => by rw [e]; exact sq_new hD hS) (fun i x H' hx ⟨hi, e⟩ => ?_) (fun H' ⟨_, e⟩ => ?_)
  · rw [List.getElem?_map] at hx
    cases e2 : ps[i]? with
    | none => rw [e2] at hx; cases hx
    | some k =>
      rw [e2] at hx
      have ex : x = .ref k.1 := (Option.some.inj hx).symm
      subst ex
      have hlt : i < ps.length := (List.getElem?_eq_some_iff.mp e2).1
      have hk := List.mem_of_getElem? e2
      refine ⟨hw _, ?_⟩
      refine test k.2 (List.mem_map_of_mem hk) k.1 H' (by rw [e]; exact sq_new hD (hg k hk)) (by rw [e]; exact same_new hD) _ ?_
      cases hP : P k.2 with
      | true =>
        refine iteT (elt k.1 H' _ ⟨((ps.take i).filter (P ∘ Prod.snd)).map pRef, by rw [e]; exact upd_same, ?_, hlt, ?_⟩)
        · have := List.length_filter_le (P ∘ Prod.snd) (ps.take i)
          rw [List.length_take] at this
          rw [List.length_map]; omega
        · rw [e, upd_upd, List.take_add_one, e2, List.filter_append, List.map_append]
          simp [hP, pRef]
      | false =>
        refine iteF ⟨hlt, ?_⟩
        rw [e, List.take_add_one, e2, List.filter_append]
        simp [hP]
  · rw [e, List.length_map, List.take_length]
    refine hd _ ?_
    rw [List.filter_map]
    exact tsT_pairs upd_same fun x hx => sq_new hD (hg x (List.mem_filter.mp hx).1)
/-- lists of lists of threes, said out -/
theorem tss_nil (nq : H q = none) : Tss K (upd H q (.lst [])) q := ⟨[], SqL.of upd_same, fun r hr => by cases hr⟩
theorem tss_one {a : Addr} {ts : List T3} (h : Ts K H a ts) (l : ts.length ≤ 10000) (nq : H q = none) : Tss K (upd H q (.lst [.ref a])) q := ⟨[a], SqL.of upd_same, fun r hr => by
  simp at hr; subst hr; exact ⟨ts, h.same (same_new nq), l⟩⟩
theorem tss_two {a b : Addr} {ts us : List T3} (h : Ts K H a ts) (l : ts.length ≤ 10000) (h' : Ts K H b us) (l' : us.length ≤ 10000) (nq : H q = none) : Tss K (upd H q (.lst [.ref a, .ref b])) q := ⟨[a, b], SqL.of upd_same, fun r hr => by
  simp at hr
  rcases hr with rfl | rfl
  · exact ⟨ts, h.same (same_new nq), l⟩
  · exact ⟨us, h'.same (same_new nq), l'⟩⟩
theorem tss_three {a b d : Addr} {ts us ws : List T3} (h : Ts K H a ts) (l : ts.length ≤ 10000) (h' : Ts K H b us) (l' : us.length ≤ 10000) (h'' : Ts K H d ws) (l'' : ws.length ≤ 10000) (nq : H q = none) : Tss K (upd H q (.lst [.ref a, .ref b, .ref d])) q := ⟨[a, b, d], SqL.of upd_same, fun r hr => by
  simp at hr
  rcases hr with rfl | rfl | rfl
  · exact ⟨ts, h.same (same_new nq), l⟩
  · exact ⟨us, h'.same (same_new nq), l'⟩
  · exact ⟨ws, h''.same (same_new nq), l''⟩⟩
end
end G66
namespace G66
open PySem PySem.Spec PySem.Calls PyProof.Rows L2
/-! threes in order -/
def leT (a b : T3) : Bool := decide (a.l ≤ b.l)
def sortT (ts : List T3) : List T3 := ts.mergeSort leT
theorem sortT_perm (ts : List T3) : (sortT ts).Perm ts := List.mergeSort_perm _ _
theorem sortT_len (ts : List T3) : (sortT ts).length = ts.length := (sortT_perm ts).length_eq
theorem sortT_up (ts : List T3) : (sortT ts).Pairwise fun a b => leT a b = true := by
  refine List.pairwise_mergeSort (fun a b c h1 h2 => ?_) (fun a b => ?_) ts
  · unfold leT at *
    rw [decide_eq_true_eq] at *
    exact Std.le_trans h1 h2
  · unfold leT
    rw [Bool.or_eq_true, decide_eq_true_eq, decide_eq_true_eq]
    exact Std.le_total
theorem sortT_uniq {ts us : List T3} (h : ts.Perm us) (h1 : ts.Pairwise fun a b => leT a b = true) (h2 : us.Pairwise fun a b => leT a b = true) : ts = us := by
  refine List.Perm.eq_of_pairwise (le := fun a b => leT a b = true) (fun a b _ _ e1 e2 => ?_) h1 h2 h
  unfold leT at e1 e2
  rw [decide_eq_true_eq] at e1 e2
  exact T3.l_inj (Std.le_antisymm e1 e2)
theorem sortT_eq {ts us : List T3} (h : ts.Perm us) : sortT ts = sortT us := sortT_uniq ((sortT_perm ts).trans (h.trans (sortT_perm us).symm)) (sortT_up ts) (sortT_up us)
/-- places and threes, in order by the threes -/
def sortP (ps : List (Addr × T3)) : List (Addr × T3) := ps.mergeSort fun x y => leT x.2 y.2
theorem sortP_snd (ps : List (Addr × T3)) : (sortP ps).map Prod.snd = sortT (ps.map Prod.snd) := List.map_mergeSort fun _ _ _ _ => rfl
theorem sortP_perm (ps : List (Addr × T3)) : (sortP ps).Perm ps := List.mergeSort_perm _ _
theorem each_refs {ps : List (Addr × T3)} : ∀ {us : List Value}, Vals (ps.map pRef) us → PySem.W.EachIs (fun (v : Value) (x : Addr × T3) => v = .ref x.1) us ps := by
  induction ps with
  | nil => intro us h; cases h; exact .nil
  | cons x ps ih =>
    intro us h
    cases h with
    | cons r t => exact .cons (show _ = Value.ref x.1 from r) (ih t)
theorem refs_each {us : List Value} : ∀ {ps : List (Addr × T3)}, PySem.W.EachIs (fun (v : Value) (x : Addr × T3) => v = .ref x.1) us ps → Vals (ps.map pRef) us := by
  induction us with
  | nil => intro ps h; cases h; exact .nil
  | cons u us ih =>
    intro ps h
    cases h with
    | cons r t => subst r; exact .cons (show RelV (.ref _) (.ref _) from rfl) (ih t)
theorem each_reads {h : Heap} : ∀ {us : List Value} {ps : List (Addr × T3)}, PySem.W.EachIs (fun (v : Value) (x : Addr × T3) => v = .ref x.1) us ps → (∀ x ∈ ps, ∃ as, Reads h (.ref x.1) (dT3 x.2) as) → PySem.W.EachIs (fun (v : Value) (x : Addr × T3) => ∃ as, Reads h v (dT3 x.2) as) us ps := by
  intro us
  induction us with
  | nil => intro ps h _; cases h; exact .nil
  | cons u us ih =>
    intro ps h hx
    cases h with
    | cons r t => subst r; exact .cons (hx _ List.mem_cons_self) (ih t fun x hm => hx x (List.mem_cons_of_mem _ hm))
def rSortTs (K : PySem.W.Frag) : List V → Hp → VK → Prop := fun vs H Q => ∃ (a : Addr) (ps : List (Addr × T3)), vs = [.ref a] ∧ SqL K H a (ps.map pRef) ∧ (∀ x ∈ ps, SqL K H x.1 (x.2.l.map V.int)) ∧ ∀ q, H q = none → Q (.ref q) (upd H q (.lst ((sortP ps).map pRef)))
theorem cr_sortTs {X : Cx} (hu : X.A.units + 64 < cLine) : CallR X (.builtin "sorted") (rSortTs X.K) := by
  intro pins s σ H vs us Q I r h
  obtain ⟨a, ps, rfl, hs, hx, q⟩ := h
  obtain ⟨its, rv, hl, hz⟩ := I.list hs
  obtain ⟨u, rfl, ru⟩ := vals1 r
  obtain rfl : u = Value.ref a := ru
  have e := each_refs rv
  have er := each_reads (h := s.heap) e fun x hm => Dp.reads I (dT3 x.2) (.ref x.1) (.ref x.1) (dp_ints (hx x hm)) rfl
  rw [List.length_map] at hz
  refine PySem.W.sorted_data (enc := fun x : Addr × T3 => dT3 x.2) hl.isList e er (PySem.W.AllAlike.of fun b b' => ?_) (PySem.W.Sortable.others fun b => ⟨(by unfold dT3; intro z; cases z), fun xs => (by unfold dT3; intro z; cases z)⟩) hz (fun b _ => ?_) fun out hlen hout => ?_
  · unfold dT3
    rw [PySem.W.alike]
    exact PySem.W.alike_ints _ _
  · have := coded_t3.dep b.2
    omega
  · have eo : (ps.mergeSort (PySem.W.dataLe false fun x : Addr × T3 => dT3 x.2)) = sortP ps := by
      unfold sortP dT3
      rw [PySem.W.dataLe_rows (fun x : Addr × T3 => x.2.l)]
      rfl
    rw [eo] at hout
    obtain ⟨n, hn⟩ := sortedAll_at s.heap its out.toArray
    refine ⟨.ref (s.heap.objs.size + 1), upd H (s.heap.objs.size + 1) (.lst ((sortP ps).map pRef)), I.laid (t' := s.toks) (fun b o e => sortedAll_old e) (Nat.le_succ _) ⟨?_, out, n, refs_each hout, hn⟩, rfl, q _ (I.hok.fresh (Nat.le_succ _))⟩
    rw [List.length_map, (sortP_perm ps).length_eq]
    exact hz
/-! a list of threes that is new, and its threes too -/
structure Own (H0 H : Hp) (q : Addr) (ps : List (Addr × T3)) : Prop where
  new : H0 q = none
  at_ : H q = some (.lst (ps.map pRef))
  each : ∀ x ∈ ps, H0 x.1 = none ∧ H x.1 = some (.lst (x.2.l.map V.int))
  nd : (ps.map Prod.fst).Nodup
section
variable {K : PySem.W.Frag} {H0 H H' H2 : Hp} {q r : Addr} {ps : List (Addr × T3)} {t : T3}
theorem ref_int {ps : List (Addr × T3)} {t : T3} (h : ps ≠ []) : ps.map pRef ≠ t.l.map V.int := by
  cases ps with
  | nil => exact absurd rfl h
  | cons x ps => intro z; cases z
theorem Own.ne (o : Own H0 H q ps) {x : Addr × T3} (hx : x ∈ ps) : x.1 ≠ q := fun z => by
  have e := (o.each x hx).2
  rw [z, o.at_] at e
  exact ref_int (List.ne_nil_of_mem hx) (HO.lst.inj (Option.some.inj e))
theorem Own.ts (o : Own H0 H q ps) : TsT K H q (ps.map Prod.snd) := tsT_pairs o.at_ fun x hx => SqL.of (o.each x hx).2
theorem Own.same (o : Own H0 H q ps) (s : Same H H2) : Own H0 H2 q ps := ⟨o.new, s _ _ o.at_, fun x hx => ⟨(o.each x hx).1, s _ _ (o.each x hx).2⟩, o.nd⟩
theorem Own.back (o : Own H0 H q ps) (s : Same H' H0) : Own H' H q ps := ⟨s.free o.new, o.at_, fun x hx => ⟨s.free (o.each x hx).1, (o.each x hx).2⟩, o.nd⟩
theorem own_nil (nq : H q = none) : Own H (upd H q (.lst [])) q [] := ⟨nq, upd_same, fun x hx => (by cases hx), List.nodup_nil⟩
theorem own_push (o : Own H0 H q ps) (s0 : Same H0 H) (s : Same H H2) (nr : H r = none) (er : H2 r = some (.lst (t.l.map V.int))) : Own H0 (upd H2 q (.lst (ps.map pRef ++ [.ref r]))) q (ps ++ [(r, t)]) := by
  have hrq : r ≠ q := fun z => by rw [z, o.at_] at nr; cases nr
  refine ⟨o.new, by rw [upd_same, List.map_append]; rfl, fun x hx => ?_, ?_⟩
  · rcases List.mem_append.mp hx with hx | hx
    · rw [upd_ne (o.ne hx)]
      exact ⟨(o.each x hx).1, s _ _ (o.each x hx).2⟩
    · simp at hx
      subst hx
      show H0 r = none ∧ upd H2 q _ r = _
      rw [upd_ne hrq]
      exact ⟨s0.free nr, er⟩
  · rw [List.map_append, List.nodup_append]
    refine ⟨o.nd, (by simp), fun a ha b hb => ?_⟩
    simp at hb
    subst hb
    obtain ⟨x, hx, rfl⟩ := List.mem_map.mp ha
    intro z
    have e := (o.each x hx).2
    rw [z, nr] at e
    cases e
theorem own_same (o : Own H0 H q ps) (s0 : Same H0 H) {u : HO} : Same H0 (upd H q u) := SameBut.same o.new s0 .upd
theorem own_sorted (o : Own H0 H q ps) (s0 : Same H0 H) (nr : H r = none) : Own H0 (upd H r (.lst ((sortP ps).map pRef))) r (sortP ps) := by
  refine ⟨s0.free nr, upd_same, fun x hx => ?_, ?_⟩
  · have hx' := (sortP_perm ps).mem_iff.mp hx
    exact ⟨(o.each x hx').1, at_new nr (o.each x hx').2⟩
  · exact ((sortP_perm ps).map Prod.fst).nodup_iff.mpr o.nd
end
section
variable {σ : L2.St} {H : Hp} {Q : VK} {K : PySem.W.Frag} {te : TE} {n : Nat}
/-- a comprehension over lo, lo + 1, .. whose items are new threes -/
theorem lc_ownR {vs : List Nat} {lo : Int} {H1 : Hp} {D : Addr} {Qd : Hp → Prop} {s : Nat} (f : Nat → T3) (hD : H1 D = none) (hw : ∀ x, wipe ((wipe σ vs).set s (some x)) vs = wipe σ vs)
    (step : ∀ (i : Nat) H', i < n → Same H1 H' → ∀ T : VK, (∀ r H2, Same H' H2 → H' r = none → H2 r = some (.lst ((f i).l.map V.int)) → T (.ref r) H2) → te ((wipe σ vs).set s (some (.int (lo + i)))) H' T) (hz : n ≤ sizeLine)
    (hd : ∀ ps H', Same H1 H' → Own H1 H' D ps → ps.map Prod.snd = (List.range n).map f → Qd H') :
    ∃ W : Nat → Nat → Hp → Prop, (∃ m, W 0 m (upd H1 D (.lst []))) ∧ ∀ i m H, W i m H →
      ((Itr lo n).stop i H ∧ Qd H) ∨ ((Itr lo n).go i H ∧ ∃ Nx : Hp → Prop, (∀ H', Nx H' → ∃ m', m' < m ∧ W (i + 1) m' H') ∧ ∀ x H', (Itr lo n).yld i H x H' → gName s x (wipe σ vs) H' fun σ2 H2 => wipe σ2 vs = wipe σ vs ∧ tYes σ2 H2 fun b H3 =>
        if b = true then te σ2 H3 fun y H4 => ∃ acc, H4 D = some (.lst acc) ∧ acc.length < sizeLine ∧ Nx (upd H4 D (.lst (acc ++ [y]))) else Nx H3) := by
  refine lc_range (fun i H' => i ≤ n ∧ Same H1 H' ∧ ∃ ps, Own H1 H' D ps ∧ ps.map Prod.snd = (List.range i).map f) ⟨Nat.zero_le _, same_new hD, [], own_nil hD, rfl⟩ (fun i H' hlt ⟨hi, sm, ps, O, hl⟩ => ?_) (fun H' ⟨_, sm, ps, O, hl⟩ => hd ps H' sm O hl)
  refine ⟨hw _, g_yes (R := fun b H3 => if b = true then _ else _) ?_⟩
  have hlen : ps.length = i := by
    have := congrArg List.length hl
    simpa using this
  refine (iteT (step i H' hlt sm _ fun r H2 s2 nr er => ⟨ps.map pRef, s2 _ _ O.at_, by rw [List.length_map]; omega, hlt, SameBut.same hD (sm.trans s2) .upd, ps ++ [(r, f i)], own_push O sm s2 nr er, ?_⟩))
  rw [List.map_append, hl, List.range_succ, List.map_append]
  rfl
end
theorem take_snoc {α : Type} {ts : List α} {i : Nat} {t : α} (h : ts[i]? = some t) : ts.take (i + 1) = ts.take i ++ [t] := by rw [List.take_add_one, h]; rfl
theorem take_snoc_len {α : Type} {ts : List α} {i : Nat} {t : α} (h : ts[i]? = some t) : (ts.take (i + 1)).length = (ts.take i).length + 1 := by rw [take_snoc h, List.length_append]; rfl
section
variable {σ : L2.St} {H : Hp} {Q : VK} {K : PySem.W.Frag} {te : TE}
/-- a comprehension over a list of ints with a test, the item by a function -/
theorem lc_filtF {a : Addr} {tt : TT} {vs : List Nat} {H1 : Hp} {D : Addr} {Qd : Hp → Prop} {s : Nat} {ns : List Int} (P : Int → Bool) (f : Int → Int) (hD : H1 D = none) (hS : SqL K H1 a (ns.map V.int)) (hw : ∀ x, wipe ((wipe σ vs).set s (some x)) vs = wipe σ vs)
    (test : ∀ i ∈ ns, ∀ H', Same H1 H' → ∀ R : Bool → Hp → Prop, R (P i) H' → tt ((wipe σ vs).set s (some (.int i))) H' R)
    (elt : ∀ i ∈ ns, ∀ H', ∀ R : VK, R (.int (f i)) H' → te ((wipe σ vs).set s (some (.int i))) H' R) (hz : ns.length ≤ sizeLine) (hd : Qd (upd H1 D (.lst (((ns.filter P).map f).map V.int)))) :
    ∃ W : Nat → Nat → Hp → Prop, (∃ m, W 0 m (upd H1 D (.lst []))) ∧ ∀ i m H, W i m H →
      ((Itl K a).stop i H ∧ Qd H) ∨ ((Itl K a).go i H ∧ ∃ Nx : Hp → Prop, (∀ H', Nx H' → ∃ m', m' < m ∧ W (i + 1) m' H') ∧ ∀ x H', (Itl K a).yld i H x H' → gName s x (wipe σ vs) H' fun σ2 H2 => wipe σ2 vs = wipe σ vs ∧ tt σ2 H2 fun b H3 =>
        if b = true then te σ2 H3 fun y H4 => ∃ acc, H4 D = some (.lst acc) ∧ acc.length < sizeLine ∧ Nx (upd H4 D (.lst (acc ++ [y]))) else Nx H3) := by
  refine lc_list (xs := ns.map V.int) (fun i H' => i ≤ ns.length ∧ H' = upd H1 D (.lst ((((ns.take i).filter P).map f).map V.int))) ⟨Nat.zero_le _, rfl⟩ (fun i H' _ ⟨_, e⟩ => by rw [e]; exact sq_new hD hS) (fun i x H' hx ⟨hi, e⟩ => ?_) (fun H' ⟨_, e⟩ => by rw [e, List.length_map, List.take_length]; exact hd)
  rw [List.getElem?_map] at hx
  cases e2 : ns[i]? with
  | none => rw [e2] at hx; cases hx
  | some k =>
    rw [e2] at hx
    have ex : x = .int k := (Option.some.inj hx).symm
    subst ex
    have hlt : i < ns.length := (List.getElem?_eq_some_iff.mp e2).1
    have hk := List.mem_of_getElem? e2
    refine ⟨hw _, ?_⟩
    refine test k hk H' (by rw [e]; exact same_new hD) _ ?_
    cases hP : P k with
    | true =>
      refine iteT (elt k hk H' _ ⟨(((ns.take i).filter P).map f).map V.int, by rw [e]; exact upd_same, ?_, hlt, ?_⟩)
      · have := List.length_filter_le P (ns.take i)
        rw [List.length_take] at this
        rw [List.length_map, List.length_map]; omega
      · rw [e, upd_upd, take_snoc e2, List.filter_append, List.map_append, List.map_append]
        simp [hP]
    | false =>
      refine iteF ⟨hlt, ?_⟩
      rw [e, take_snoc e2, List.filter_append]
      simp [hP]
theorem g_cat {l b : Addr} {xs zs : List V} (e1 : H l = some (.lst xs)) (e2 : H b = some (.lst zs)) (hz : xs.length + zs.length ≤ 1000000) (h : ∀ p, H p = none → Q (.ref p) (upd H p (.lst (xs ++ zs)))) : rCat (.ref l) (.ref b) H Q := ⟨l, b, xs, zs, rfl, rfl, e1, e2, by rw [sizeLine_eq]; omega, h⟩
theorem g_sortTs {a : Addr} {ts : List T3} (h1 : Ts K H a ts) (h : ∀ q o, H q = none → TsT K (upd H q o) q (sortT ts) → Q (.ref q) (upd H q o)) : rSortTs K [.ref a] H Q := by
  obtain ⟨ps, hS, rfl, hg⟩ := h1.pairs
  refine ⟨a, ps, rfl, hS, hg, fun q nq => h q _ nq ?_⟩
  rw [← sortP_snd]
  exact tsT_pairs upd_same fun x hx => sq_new nq (hg x ((sortP_perm ps).mem_iff.mp hx))
theorem g_revTs {a : Addr} {ts : List T3} (h1 : Ts K H a ts) (h : ∀ q o, H q = none → TsT K (upd H q o) q ts.reverse → Q (.ref q) (upd H q o)) : ∃ b xs, V.ref a = .ref b ∧ SqL K H b xs ∧ ∀ q, H q = none → Q (.ref q) (upd H q (.lst xs.reverse)) := by
  obtain ⟨ps, hS, rfl, hg⟩ := h1.pairs
  refine ⟨a, _, rfl, hS, fun q nq => h q _ nq ?_⟩
  rw [← List.map_reverse, ← List.map_reverse]
  exact tsT_pairs upd_same fun x hx => sq_new nq (hg x (List.mem_reverse.mp hx))
theorem g_revL {ta : TE} {σ : L2.St} (h : ta σ H fun x H1 => ∃ a xs, x = .ref a ∧ SqL K H1 a xs ∧ ∀ p, H1 p = none → Q (.ref p) (upd H1 p (.lst xs.reverse))) : tRevL K ta σ H Q := h
end
/-- one of a three stays, the others are exchanged -/
theorem dbl_stay {p : Int} {t : T3} (hk : t.1 < t.2.1 ∧ t.2.1 < t.2.2) {j : Nat} {s : Int} (h : t.l[j]? = some s) : ∃ d : T3, (dbl1 p t)[j + 1]? = some d ∧ d.l = s :: ((t.l.filter fun i => !decide (i = s)).map fun i => i + p) := by
  obtain ⟨u, v, z⟩ := t
  dsimp only at hk
  have hj : j < 3 := (List.getElem?_eq_some_iff.mp h).1
  match j, hj with
  | 0, _ =>
    have e : u = s := Option.some.inj h
    subst e
    refine ⟨(u, p + v, p + z), rfl, ?_⟩
    simp [T3.l, show ¬ v = u by omega, show ¬ z = u by omega, Int.add_comm]
  | 1, _ =>
    have e : v = s := Option.some.inj h
    subst e
    refine ⟨(v, p + u, p + z), rfl, ?_⟩
    simp [T3.l, show ¬ u = v by omega, show ¬ z = v by omega, Int.add_comm]
  | 2, _ =>
    have e : z = s := Option.some.inj h
    subst e
    refine ⟨(z, p + u, p + v), rfl, ?_⟩
    simp [T3.l, show ¬ u = z by omega, show ¬ v = z by omega, Int.add_comm]
theorem k_sortTs {X : Cx} {K : PySem.W.Frag} (ek : X.K = K) (hu : X.A.units + 64 < cLine) : CallR X (.builtin "sorted") (rSortTs K) := ek ▸ cr_sortTs hu
end G66
namespace G66
open PySem PySem.Spec PySem.Calls PyProof.Rows L2
/-! defs that may raise (of an exception it is known that it has no context) -/
section
variable {P : Program} {w : World} {K : PySem.W.Frag} {mg : PySem.Str → Option Value} {base : Heap}
theorem Fun.okN {x qual : PySem.Str} {st : Stmt} {f : Addr} {fd : FuncData} {N ps : List PySem.Str} {k : Nat} {sp : Sp} (F : Fun K x qual st f fd) (S : FnScope N ps (defScope st)) (len : ∀ vs H Q E, sp vs H Q E → vs.length = ps.length)
    (hbody : ∀ (cdv : Value) (A : Around) (outer : List Env) (s : Shared) (H : Hp) (vs : List V) (Q : VK) (E : XK), Room k (A.deeper (envOfC qual (defScope st) s.heap.objs.size f cdv)) → sp vs H Q E →
      ∃ t, PSs (cxOf (L2N.CX P w) P w K mg base N qual (defScope st) f cdv A outer s H E) (defBody st) t ∧ t { nx := fun _ H' => Q .non H', rt := Q } (start N vs) H) : FnOk P w K mg base (L2N.CX P w) (k + 1) f fd ps sp := by
  obtain ⟨oc, od, kV, doc, pm, an, cdv, ct, osl, rfl, lk, hcd⟩ := F.ex
  exact fn_of lk hcd S len fun A outer s H vs Q E hr hsp => hbody cdv A outer s H vs Q E hr hsp
theorem Dfn.okN {x : PySem.Str} {st : Stmt} {N ps : List PySem.Str} {k : Nat} {sp : Sp} (F : Dfn K mg x st) (S : FnScope N ps (defScope st))
    (hb : ∀ (kV doc pm : Value) (an : Option Addr) (cdv ct : Value) (us : List Value), us.length = ps.length → bindArgs (PySem.W.fnOf x x (defArgs st) (defBody st) (defScope st) .none kV doc pm an cdv ct) ⟨us, []⟩ = pure (ps.zip us))
    (len : ∀ vs H Q E, sp vs H Q E → vs.length = ps.length)
    (hbody : ∀ (f : Addr) (cdv : Value) (A : Around) (outer : List Env) (s : Shared) (H : Hp) (vs : List V) (Q : VK) (E : XK), Room k (A.deeper (envOfC x (defScope st) s.heap.objs.size f cdv)) → sp vs H Q E →
      ∃ t, PSs (cxOf (L2N.CX P w) P w K mg base N x (defScope st) f cdv A outer s H E) (defBody st) t ∧ t { nx := fun _ H' => Q .non H', rt := Q } (start N vs) H) : Df P w K mg base (L2N.CX P w) (k + 1) x ps sp := by
  obtain ⟨f, fd, F1, m⟩ := F.ex
  exact ⟨f, fd, Fun.okN F1 S len (fun cdv A outer s H vs Q E hr h => hbody f cdv A outer s H vs Q E hr h), m, F1.kp, F1.binds hb⟩
end
/-- what the written part says of an exception class of the text -/
structure ExK (K : PySem.W.Frag) (mg : PySem.Str → Option Value) (x : PySem.Str) (C CT : Addr) : Prop where
  inn : PySem.W.excIn K C PySem.HandSPX.veTail "ValueError.__new__" = true
  gl : mg x = some (.ref C)
  kp : PySem.W.keepIn K (.ref C) = true
  sub : PySem.W.subIn K (.ref C) (.type "BaseException") = some true
  ty : PySem.W.typeIn K (.ref C) = some (.type "type")
  ex : ExcC K C
  up : PySem.W.exmOne K (.ref C) (.ref CT) = some true
def sRaise (C : Addr) (W : WX) : TS := fun _ σ H => W (.ref C) none σ H
section
variable {X : Cx} {W : WX}
theorem ps_raiseK {x m : PySem.Str} {C CT : Addr} {j : Nat} {p p2 pos pos2 : Pos} (F : ExK X.K X.mg x C CT) (hc : X.calm = true) (tk : L2N.Takes X W) (hg : Gl X x) (hdb : (x == ("__debug__" : PySem.Str)) = false := by decide) :
    PS X (.Raise (some (.Call (.Name x p) [.Constant (.str m) j p2] [] pos)) none pos2) (sRaise C W) :=
  L2N.ps_raise hc tk (L2N.pmk_own PySem.F.excBase_ValueError F.inn F.gl F.kp (raises_own F.sub F.ty) hg hdb)
theorem g_raise {D : Ends} {σ : L2.St} {H : Hp} {C : Addr} {E : XK} (h : E (.ref C) none H) : sRaise C (fun cls d _ H => E cls d H) D σ H := h
end
theorem exk_mk {K : PySem.W.Frag} {mg : PySem.Str → Option Value} {x : PySem.Str} {C CT : Addr} (inn : PySem.W.excIn K C PySem.HandSPX.veTail "ValueError.__new__" = true) (gl : mg x = some (.ref C)) (kp : PySem.W.keepIn K (.ref C) = true) (sub : PySem.W.subIn K (.ref C) (.type "BaseException") = some true) (ty : PySem.W.typeIn K (.ref C) = some (.type "type"))
    (hg : PySem.W.findIn K (.ref C) "__getattribute__" = some (some (.builtin "BaseException.__getattribute__"))) (hk : PySem.W.findIn K (.ref C) "__getattr__" = some none) (hd : PySem.W.hasDictIn K C = true) (ha : PySem.W.findIn K (.ref C) "__class__" = some (some (.builtin "object.__class__")))
    (hn : PySem.W.specialIn K (.builtin "object.__class__") "__get__" = some (some (.builtin "getset_descriptor.__get__"))) (ht : PySem.W.takesIn K (.builtin "object.__class__") = some true) (hm : PySem.W.mroIn K C (.type "object") = some true)
    (t1 : PySem.W.subIn K (.ref CT) (.type "BaseException") = some true) (t2 : PySem.W.hasDictIn K CT = true) (t3 : PySem.W.typeIn K (.ref CT) = some (.type "type")) (t4 : PySem.W.subIn K (.ref C) (.ref CT) = some true) : ExK K mg x C CT :=
  ⟨inn, gl, kp, sub, ty, ⟨hg, hk, sub, hd, ha, hn, ht, hm⟩, PySem.W.exm_ref t1 t2 t3 t4⟩
/-- isinstance(e, c), e what the suite holds -/
def rIsX (K : PySem.W.Frag) (cls : Value) (d : Option Addr) (a : Addr) : List V → Hp → VK → Prop := fun xs H Q => ∃ D, cls = .ref D ∧ d = none ∧ ExcC K D ∧ rIsE K D a xs H Q
theorem k_isX {X : Cx} {K : PySem.W.Frag} {a : Addr} {cls : Value} {d : Option Addr} {oe : Obj} {pn : List (Addr × Obj)} (ek : X.K = K) (hz : Zc cls d oe) (hf : ∃ vs, oe.data = .fields vs) : CallR (X.suite a ((a, oe) :: pn)) (.builtin "isinstance") (rIsX K cls d a) := by
  subst ek
  intro pins s σ H xs us Q I r h
  obtain ⟨D, rfl, rfl, C, h⟩ := h
  exact call_isE C hz hf pins s σ H xs us Q I r h
theorem g_isX {K : PySem.W.Frag} {H : Hp} {Q : VK} {D a E : Addr} {b : Bool} (C : ExcC K D) (k : PySem.W.kitOne K (.ref D) (.ref E) = some b) (h : Q (.bl b) H) : rIsX K (.ref D) none a [.ref a, .ref E] H Q := ⟨D, rfl, rfl, C, .ref E, .ref E, b, rfl, fun u r => r, k, h⟩
theorem g_isXT {K : PySem.W.Frag} {H : Hp} {Q : VK} {D a : Addr} {n : String} {b : Bool} (C : ExcC K D) (k : PySem.W.kitOne K (.ref D) (.type n) = some b) (h : Q (.bl b) H) : rIsX K (.ref D) none a [.ref a, .ty n] H Q := ⟨D, rfl, rfl, C, .ty n, .type n, b, rfl, fun u r => r, k, h⟩
theorem takes0N {X : Cx} : L2N.Takes X (fun _ _ _ _ => False) := fun _ _ x => by
  obtain ⟨_, _, _, _, _, _, _, _, _, _, _, _, _, _, _, _, z⟩ := x
  exact z.elim
theorem hot_suite {X : Cx} {a : Addr} {cls : Value} {d : Option Addr} {oe : Obj} {pn : List (Addr × Obj)} (hz : L2N.Zn cls d oe) (hf : ∃ vs, oe.data = .fields vs) : L2H.HotC (X.suite a ((a, oe) :: pn)) := by
  obtain ⟨vs, hv⟩ := hf
  exact ⟨(a, oe), ⟨rfl, vs, hv, hz.2.2 vs hv⟩, List.mem_cons_self⟩
theorem kitv_mk {K : PySem.W.Frag} {C : Addr} {b : Bool} (s : PySem.W.subIn K (.ref C) (.type "ValueError") = some b) : PySem.W.kitOne K (.ref C) (.type "ValueError") = some b := by
  unfold PySem.W.kitOne
  rw [if_neg (show ¬ ((Value.ref C == Value.type "ValueError") = true) from Bool.false_ne_true)]
  show (if PySem.W.kitMeta "ValueError" = true then PySem.W.subIn K (.ref C) (.type "ValueError") else none) = some b
  rw [if_pos (by decide +kernel), s]
/-- two readings, as one word -/
def tEither (t u : TE) : TE := fun σ H Q => t σ H Q ∨ u σ H Q
theorem pe_or2 {X : Cx} {e : Expr} {t u : TE} (a : PE X e t) (b : PE X e u) : PE X e (tEither t u) :=
  ⟨fun pins s σ H Q I h => h.elim (fun h => a.run pins s σ H Q I h) fun h => b.run pins s σ H Q I h⟩
theorem g_inl {t u : TE} {σ : L2.St} {H : Hp} {Q : VK} (h : t σ H Q) : tEither t u σ H Q := .inl h
theorem g_inr {t u : TE} {σ : L2.St} {H : Hp} {Q : VK} (h : u σ H Q) : tEither t u σ H Q := .inr h
/-- a call of a local that holds a def -/
def tCallH (P : Program) (w : World) (K : PySem.W.Frag) (mg : PySem.Str → Option Value) (base : Heap) (CX : CXT) (k i : Nat) (E : L2.St → XK) (t : TA) : TE := fun σ H Q =>
  ∃ f sp fd ps, σ[i]? = some (some (.ref f)) ∧ FnOk P w K mg base CX k f fd ps sp ∧ PySem.W.keepIn K (.ref f) = true ∧ Binds K fd ps [] ∧ t σ H fun vs H1 => sp vs H1 Q (E σ)
theorem pe_callH {X : Cx} {CX : CXT} {E : L2.St → XK} {k i : Nat} {x : PySem.Str} {p pos : Pos} {e : Expr} {es : List Expr} {t : TA} (hr : Room k X.A) (hN : X.N[i]? = some x) (hv : Vis X.env.scope x) (hx : ∀ σ, PassesAt CX X σ (E σ)) (ha : PA X (e :: es) t)
    (hdb : (x == ("__debug__" : PySem.Str)) = false := by decide) (hcd : (x == ("__classdict__" : PySem.Str)) = false := by decide)
    (he : starEach (e :: es) X.env = (false, eval e X.env) :: starEach es X.env := by rfl) (hpl : (backTo pos (starEach es X.env)).any (·.1) = false := by rfl) : PE X (.Call (.Name x p) (e :: es) [] pos) (tCallH X.prog X.w X.K X.mg X.base CX k i E t) := by
  refine ⟨fun pins s σ H Q I h => ?_⟩
  obtain ⟨f, sp, fd, ps, hs, F, hk, hb, ht⟩ := h
  refine wpAny_Call_Name_kw (thn ((pe_var (pos := p) hN hv hdb hcd).run pins s σ H (fun v H1 => v = .ref f ∧ H1 = H) I ⟨.ref f, hs, rfl, rfl⟩) fun u s1 ⟨v, H1, I1, r1, q1⟩ => ?_)
  obtain ⟨rfl, rfl⟩ := q1
  cases r1
  refine PySem.W.callWith_K (h₀ := X.base) I.ok.mod.kin hk (thn (ha.run pos pins s1 σ _ _ I1 ht) fun us s2 ⟨vs, H2, I2, r, q⟩ => ⟨I2.kIn, ?_⟩) he hpl
  exact run_fnS F hr hb (hx σ) I2 r q
theorem k_callH {X : Cx} {P : Program} {w : World} {K : PySem.W.Frag} {mg : PySem.Str → Option Value} {base : Heap} {CX : CXT} {E : L2.St → XK} {k i : Nat} {x : PySem.Str} {p pos : Pos} {e : Expr} {es : List Expr} {t : TA} (eP : X.prog = P) (ew : X.w = w) (eK : X.K = K) (em : X.mg = mg) (eb : X.base = base) (hr : Room k X.A) (hN : X.N[i]? = some x) (hv : Vis X.env.scope x) (hx : ∀ σ, PassesAt CX X σ (E σ)) (ha : PA X (e :: es) t)
    (hdb : (x == ("__debug__" : PySem.Str)) = false := by decide) (hcd : (x == ("__classdict__" : PySem.Str)) = false := by decide)
    (he : starEach (e :: es) X.env = (false, eval e X.env) :: starEach es X.env := by rfl) (hpl : (backTo pos (starEach es X.env)).any (·.1) = false := by rfl) : PE X (.Call (.Name x p) (e :: es) [] pos) (tCallH P w K mg base CX k i E t) := by
  subst eP ew eK em eb
  exact pe_callH hr hN hv hx ha hdb hcd he hpl
theorem pass0A {X : Cx} : ∀ σ : L2.St, PassesAt CX0 X σ (E0) := fun σ pins H s e s' I c => pass0 pins σ H s e s' I c
/-! plain things: what may be handed in -/
inductive Pl (K : PySem.W.Frag) (H : Hp) : V → Prop
  | non : Pl K H .non
  | int (i : Int) : Pl K H (.int i)
  | bl (b : Bool) : Pl K H (.bl b)
  | str (s : PySem.Str) : Pl K H (.str s)
  | lst {a : Addr} {xs : List V} (e : SqL K H a xs) : Pl K H (.ref a)
  | tup {a : Addr} {xs : List V} (e : H a = some (.tup xs)) : Pl K H (.ref a)
  | dct {a : Addr} (e : H a = some (.dT [])) : Pl K H (.ref a)
/-- and what is no list -/
inductive Nl (H : Hp) : V → Prop
  | non : Nl H .non
  | int (i : Int) : Nl H (.int i)
  | bl (b : Bool) : Nl H (.bl b)
  | str (s : PySem.Str) : Nl H (.str s)
  | tup {a : Addr} {xs : List V} (e : H a = some (.tup xs)) : Nl H (.ref a)
  | dct {a : Addr} (e : H a = some (.dT [])) : Nl H (.ref a)
def isNum : V → Int → Bool
  | .int i, k => decide (k ≤ i)
  | _, _ => false
section
variable {K : PySem.W.Frag} {H H' : Hp} {Q : VK} {v : V}
theorem Pl.same (h : Pl K H v) (s : Same H H') : Pl K H' v := by
  cases h with
  | non => exact .non
  | int i => exact .int i
  | bl b => exact .bl b
  | str x => exact .str x
  | lst e => exact .lst (s.seq e)
  | tup e => exact .tup (s _ _ e)
  | dct e => exact .dct (s _ _ e)
theorem Nl.same (h : Nl H v) (s : Same H H') : Nl H' v := by
  cases h with
  | non => exact .non
  | int i => exact .int i
  | bl b => exact .bl b
  | str x => exact .str x
  | tup e => exact .tup (s _ _ e)
  | dct e => exact .dct (s _ _ e)
theorem Nl.pl (h : Nl H v) : Pl K H v := by
  cases h with
  | non => exact .non
  | int i => exact .int i
  | bl b => exact .bl b
  | str x => exact .str x
  | tup e => exact .tup e
  | dct e => exact .dct e
def isI : V → Bool
  | .int _ => true
  | .bl _ => true
  | _ => false
def isB' : V → Bool
  | .bl _ => true
  | _ => false
theorem g_isInt (h : Pl K H v) (q : Q (.bl (isI v)) H) : rIsi K [v, .ty "int"] H Q := by
  cases h with
  | non => exact g_isi (r := false) (u := .type "int") (ty := .type "NoneType") (.ty _) (.base .non) (kit_ty (by decide +kernel)) q
  | int i => exact g_isi (r := true) (u := .type "int") (ty := .type "int") (.ty _) (.base (.int _)) (kit_ty (by decide +kernel)) q
  | bl b => exact g_isi (r := true) (u := .type "int") (ty := .type "bool") (.ty _) (.base (.bl _)) (kit_ty (by decide +kernel)) q
  | str x => exact g_isi (r := false) (u := .type "int") (ty := .type "str") (.ty _) (.base (.str _)) (kit_ty (by decide +kernel)) q
  | lst e => exact g_isi (r := false) (u := .type "int") (ty := .type "list") (.ty _) (sq_ty e) (kit_ty (by decide +kernel)) q
  | tup e => exact g_isi (r := false) (u := .type "int") (ty := .type "tuple") (.ty _) (.base (.tup e)) (kit_ty (by decide +kernel)) q
  | dct e => exact g_isi (r := false) (u := .type "int") (ty := .type "dict") (.ty _) (.base (.dT e)) (kit_ty (by decide +kernel)) q
theorem g_isBool (h : Pl K H v) (q : Q (.bl (isB' v)) H) : rIsi K [v, .ty "bool"] H Q := by
  cases h with
  | non => exact g_isi (r := false) (u := .type "bool") (ty := .type "NoneType") (.ty _) (.base .non) (kit_ty (by decide +kernel)) q
  | int i => exact g_isi (r := false) (u := .type "bool") (ty := .type "int") (.ty _) (.base (.int _)) (kit_ty (by decide +kernel)) q
  | bl b => exact g_isi (r := true) (u := .type "bool") (ty := .type "bool") (.ty _) (.base (.bl _)) (kit_ty (by decide +kernel)) q
  | str x => exact g_isi (r := false) (u := .type "bool") (ty := .type "str") (.ty _) (.base (.str _)) (kit_ty (by decide +kernel)) q
  | lst e => exact g_isi (r := false) (u := .type "bool") (ty := .type "list") (.ty _) (sq_ty e) (kit_ty (by decide +kernel)) q
  | tup e => exact g_isi (r := false) (u := .type "bool") (ty := .type "tuple") (.ty _) (.base (.tup e)) (kit_ty (by decide +kernel)) q
  | dct e => exact g_isi (r := false) (u := .type "bool") (ty := .type "dict") (.ty _) (.base (.dT e)) (kit_ty (by decide +kernel)) q
theorem g_isNl (h : Nl H v) (q : Q (.bl false) H) : rIsi K [v, .ty "list"] H Q := by
  cases h with
  | non => exact g_isi (r := false) (u := .type "list") (ty := .type "NoneType") (.ty _) (.base .non) (kit_ty (by decide +kernel)) q
  | int i => exact g_isi (r := false) (u := .type "list") (ty := .type "int") (.ty _) (.base (.int _)) (kit_ty (by decide +kernel)) q
  | bl b => exact g_isi (r := false) (u := .type "list") (ty := .type "bool") (.ty _) (.base (.bl _)) (kit_ty (by decide +kernel)) q
  | str x => exact g_isi (r := false) (u := .type "list") (ty := .type "str") (.ty _) (.base (.str _)) (kit_ty (by decide +kernel)) q
  | tup e => exact g_isi (r := false) (u := .type "list") (ty := .type "tuple") (.ty _) (.base (.tup e)) (kit_ty (by decide +kernel)) q
  | dct e => exact g_isi (r := false) (u := .type "list") (ty := .type "dict") (.ty _) (.base (.dT e)) (kit_ty (by decide +kernel)) q
end
end G66
namespace G66
open PySem PySem.Spec PySem.Calls PyProof.Rows L2
/-! a comprehension over range within an except suite -/
section
variable {X : Cx} {σ : L2.St} {H : Hp} {s : Shared} {p : Addr × Obj}
theorem inv_move (hn : X.pn = []) (I : Inv X [p] σ H s) : Inv (X.tr [p] X.xe) [] σ H s :=
  ⟨I.ok.toTry [p] X.xe, I.os, I.bare, I.base, I.loc, I.cell, I.free, I.freeC, fun q hq => I.pin q (by rw [hn]; simpa using hq), I.hok, I.len⟩
theorem inv_back (hn : X.pn = []) (ok : X.Ok) (I : Inv (X.tr [p] X.xe) [] σ H s) : Inv X [p] σ H s :=
  ⟨ok, I.os, I.bare, I.base, I.loc, I.cell, I.free, I.freeC, fun q hq => I.pin q (by rw [hn] at hq; simpa using hq), I.hok, I.len⟩
end
section
variable {X : Cx}
set_option maxHeartbeats 2000000 in
theorem pe_lcH {elt tg iter : Expr} {ifs : List Expr} {scope : Scope} {own : List (PySem.Str × Nat)} {pos : Pos} {wi : TI} {g : TG} {tt : TT} {te : TE} (hc : L2H.HotC X) (hN : X.N.Nodup) (hi : L2H.PIH X tg iter wi) (ok : BlkOk X.N X.env.scope scope own)
    (hg : ∀ (s : Shared) (H : Hp) (C : Addr) (cl : List (PySem.Str × Addr)) (fp : List Addr), PG (X.blk s H scope (compEnvC scope cl C X.env) fp) tg g) (ht : ∀ (s : Shared) (H : Hp) (C : Addr) (cl : List (PySem.Str × Addr)) (fp : List Addr), PTs (X.blk s H scope (compEnvC scope cl C X.env) fp) ifs tt)
    (he : ∀ (s : Shared) (H : Hp) (C : Addr) (cl : List (PySem.Str × Addr)) (fp : List Addr), PE (X.blk s H scope (compEnvC scope cl C X.env) fp) elt te) (hs : ∀ x, foldedSetIterable iter X.env x = pure x := by intro _; rfl) :
    PE X (.ListComp elt [⟨tg, iter, ifs, 0⟩] scope pos) (tLc wi g tt te (own.map (·.2))) := by
  refine ⟨fun pins s σ H Q I h => ?_⟩
  rw [eval_ListComp]
  have hfree : ∀ y ∈ scope.names, y.2 = .free → ∃ c, X.env.cells.lookup y.1 = some c := fun y hy e => (ok.free y hy e).elim (fun k => I.ok.has _ (.inl k)) fun k => I.ok.has _ (.inr k)
  refine wpAny_comprehension_free (use := none) rfl hs (closure_ok hfree) ok.kind (fun y hy e => by rw [ok.uniq y hy, e])
    (thn (hi.run pins s σ H _ I h) fun xv s1 hx => thn hx fun itv s2 h2 => ?_)
  obtain ⟨it, fp, tn, J, H2, e, I2, T, st2, f2, q⟩ := h2
  subst e
  obtain ⟨p, hot, hpn⟩ := hc
  refine wpAny_newObj_type (newEnv_comp ?_) (by show 0 ≤ sizeLine; decide)
  generalize hD : s2.heap.objs.size = D
  have hDn : H2 D = none := I2.hok.fresh (Nat.le_of_eq hD)
  obtain ⟨W, ⟨m0, w0⟩, turn⟩ := q D hDn
  generalize hs3 : ({ s2 with heap := s2.heap.push { cls := .type "list", data := .seq ([] : List Value).toArray } } : Shared) = s3
  have I3 : Inv X pins σ (upd H2 D (.lst [])) s3 := by
    rw [← hs3]
    refine I2.laid (t' := s2.toks) (fun b o e => Heap.get?_push_of_some _ e) (Nat.le_of_eq hD) ⟨Nat.zero_le _, [], 0, .nil, ?_⟩
    rw [← hD]
    exact Heap.get?_push_size _ rfl
  have h3 : s3.heap = s2.heap.push { cls := .type "list", data := .seq ([] : List Value).toArray } := by rw [← hs3]
  have sz : ∀ b ∈ fp, b < s2.heap.objs.size := fun b hb => by
    obtain ⟨o, e, _⟩ := T.obj _ _ st2 b hb
    exact Heap.lt_size e
  have f3 : ∀ b ∈ fp, FpOk X pins (upd H2 D (.lst [])) b ∧ b < s3.heap.objs.size := fun b hb => by
    have hlt := sz b hb
    refine ⟨⟨?_, (f2 b hb).2⟩, by rw [h3, Heap.size_push]; exact Nat.lt_succ_of_lt hlt⟩
    rw [upd_ne (by rw [← hD]; exact Nat.ne_of_lt hlt)]
    exact (f2 b hb).1
  have st3 : tn 0 s3.heap := T.keep _ _ _ st2 fun b _ o e => by rw [h3]; exact Heap.get?_push_of_some _ e
  have I4 := block_start I3 ok hN f3
  have P3 := I3.pin p (List.mem_append_left _ hpn)
  have pg := hg s3 (upd H2 D (.lst [])) s3.heap.objs.size (cellsFrom (s3.heap.objs.size + 1) scope.names (cloFrom X.env.cells scope.names [])) fp
  have pt := ht s3 (upd H2 D (.lst [])) s3.heap.objs.size (cellsFrom (s3.heap.objs.size + 1) scope.names (cloFrom X.env.cells scope.names [])) fp
  have pe := he s3 (upd H2 D (.lst [])) s3.heap.objs.size (cellsFrom (s3.heap.objs.size + 1) scope.names (cloFrom X.env.cells scope.names [])) fp
  show codeAny _ _ (.compStart (.ListComp elt [⟨tg, iter, ifs, 0⟩] scope pos) 0 (.ref it) (.ref D) (compEnvC scope (cellsFrom (s3.heap.objs.size + 1) scope.names (cloFrom X.env.cells scope.names [])) s3.heap.objs.size X.env)) _ { s3 with heap := pushCells (s3.heap.push { cls := .type "dict", data := .dict #[] }) scope.names }
  have nfp : ∀ b ∈ fp, (upd H2 D (.lst [])) b = none := fun b hb => (f3 b hb).1.1
  generalize hce : compEnvC scope (cellsFrom (s3.heap.objs.size + 1) scope.names (cloFrom X.env.cells scope.names [])) s3.heap.objs.size X.env = ce at I4 pg pt pe ⊢
  have cL : ce.locals = s3.heap.objs.size := by subst hce; rfl
  generalize hH3 : upd H2 D (.lst []) = H3 at I3 I4 pg pt pe w0 nfp f3 P3
  generalize hs4 : ({ s3 with heap := pushCells (s3.heap.push { cls := .type "dict", data := .dict #[] }) scope.names } : Shared) = s4 at I4 ⊢
  have kp4 : ∀ b o, s3.heap.get? b = some o → s4.heap.get? b = some o := fun b o e => by rw [← hs4]; exact pushCells_keeps _ _ _ _ (Heap.get?_push_of_some _ e)
  have st4 : tn 0 s4.heap := T.keep _ _ _ st3 fun b _ o e => kp4 b o e
  have I4p : Inv (X.blk s3 H3 scope ce fp) [p] (wipe σ (own.map (·.2))) H3 s4 := I4.pins_of fun q hq => by
    have eq : q = p := by simpa using hq
    subst eq
    refine ⟨kp4 _ _ P3.1, P3.2.1, ?_, fun z => ?_, P3.2.2.2.2⟩
    · show q.1 ≠ ce.locals
      rw [cL]
      exact Nat.ne_of_lt (Heap.lt_size P3.1)
    · rcases List.mem_cons.mp (I3.stkSub _ z) with e | e
      · exact P3.2.2.1 e
      · exact P3.2.2.2.1 e
  have stat : ∀ {σ' : L2.St} {H' : Hp} {s' : Shared}, Inv (X.blk s3 H3 scope ce fp) [p] σ' H' s' → (∀ b ∈ fp, H' b = none) → ∀ b ∈ fp, FpOk (X.blk s3 H3 scope ce fp) [p] H' b := fun {σ' H' s'} I' hn b hb =>
    ⟨hn b hb, (I'.ok.exf b hb).1, I'.ok.exfs b hb, .inl hb, fun x c e => (I'.ok.exf b hb).2 x c e, fun q hq => by
      have eq : q = p := by simpa using hq
      subst eq
      exact (f3 b hb).1.2.2.2.2.2 q (List.mem_append_left _ hpn)⟩
  have hotX : L2H.HotC ((X.blk s3 H3 scope ce fp).tr [p] (fun _ _ => False)) := ⟨p, hot, List.mem_cons_self⟩
  have loop : codeAny (model X.prog X.w) X.A (.compLoop (.ListComp elt [⟨tg, iter, ifs, 0⟩] scope pos) 0 (.ref it) (.ref D) ce) (compPost (model X.prog X.w) X.A X.xe none (EP X pins σ Q) (.ref D) s3.heap.objs.size) s4 := by
    refine compLoop_any (fun n s' => ∃ i H', Inv (X.blk s3 H3 scope ce fp) [p] (wipe σ (own.map (·.2))) H' s' ∧ tn i s'.heap ∧ (∀ b ∈ fp, H' b = none) ∧ W i n H') ?_ m0 ⟨0, H3, I4p, st4, nfp, w0⟩
    rintro n s5 ⟨i, H5, I5, st5, n5, w5⟩
    have F5 : ∀ b ∈ fp, FpOk ((X.blk s3 H3 scope ce fp).tr [p] (fun _ _ => False)) [] H5 b := fun b hb => by
      have z := stat I5 n5 b hb
      exact ⟨z.1, z.2.1, z.2.2.1, z.2.2.2.1, z.2.2.2.2.1, fun q hq => z.2.2.2.2.2 q (by simpa using hq)⟩
    rcases turn i n H5 w5 with ⟨stop, qq⟩ | ⟨go, Nx, hNx, step⟩
    · have td := T.done ((X.blk s3 H3 scope ce fp).tr [p] (fun _ _ => False)) rfl rfl rfl hotX i [] s5 _ H5 (fun _ _ => False) (inv_move rfl I5) F5 st5 stop
      refine thnF td fun r s6 ⟨hr, I6⟩ => ?_
      subst hr
      have I7 : Inv X pins σ H5 s6 := I3.call' (ch := fp) I6.os I6.base I6.hok I6.bare fun b hb => ⟨(f3 b hb).1.2.2.2.1, (f3 b hb).1.2.1, (f3 b hb).1.2.2.2.2.1, (f3 b hb).1.2.2.2.2.2⟩
      have nC : H5 s3.heap.objs.size = none := by
        have z : H5 ce.locals = none := I6.free
        rw [cL] at z
        exact z
      obtain ⟨m, hn, _⟩ := I6.loc
      have hn : s6.heap.Ns ce.locals m := hn
      rw [cL] at hn
      obtain ⟨f0, f1, f2, f3, f4, f5⟩ := I3.fpOk (Nat.le_refl _) nC
      exact ⟨m, hn, fun h'' sb => ⟨.ref D, H5, I7.turned (t' := s6.toks) (fun b o hb e => (sb.2 b hb).trans e) f0 f1 f3 f4 f5, rfl, qq⟩⟩
    · have ti := T.item ((X.blk s3 H3 scope ce fp).tr [p] (fun _ _ => False)) rfl rfl rfl hotX i [] s5 _ H5 (fun _ _ => False) (inv_move rfl I5) F5 st5 go
      refine thnF ti fun r s6 ⟨u, hr, h6⟩ => ?_
      subst hr
      refine thnF h6 fun _ s7 ⟨x, H7, I7', r7, y7, st7, n7⟩ => ?_
      have I7 := inv_back rfl I5.ok I7'
      have I7p := I7.pinned (stat I7 n7) (T.obj _ _ st7)
      refine thnF (pg.run _ s7 _ H7 x u _ I7p r7 (step x H7 y7)) fun _ s8 ⟨σ8, H8, I8, hw8, q8⟩ => ?_
      refine thnF (pt.run _ s8 σ8 H8 _ I8 q8) fun b s9 ⟨H9, I9, q9⟩ => ?_
      have fin : ∀ {s' : Shared} {H' : Hp}, Inv (X.blk s3 H3 scope ce fp) ([p] ++ pinsAt fp s7.heap) σ8 H' s' → Nx H' → ∃ m, m < n ∧ ∃ i H', Inv (X.blk s3 H3 scope ce fp) [p] (wipe σ (own.map (·.2))) H' s' ∧ tn i s'.heap ∧ (∀ b ∈ fp, H' b = none) ∧ W i m H' := fun {s' H'} I' nx => by
        obtain ⟨m', hm, w'⟩ := hNx H' nx
        have pin' : ∀ b ∈ fp, ∀ o, s7.heap.get? b = some o → s'.heap.get? b = some o ∧ H' b = none := fun b hb o e =>
          let z := I'.pin (b, o) (List.mem_append_right _ (List.mem_append_right _ (mem_pinsAt hb e)))
          ⟨z.1, z.2.1⟩
        have hl : (wipe σ (own.map (·.2))).length = σ8.length := by rw [← hw8, wipe_length]
        refine ⟨m', hm, i + 1, H', (I'.unpinned (pins := [p])).weak hl (fun j v e => ?_), T.keep _ _ _ st7 fun b hb o e => (pin' b hb o e).1, fun b hb => ?_, w'⟩
        · rw [← hw8] at e
          exact (wipe_some e).1
        · obtain ⟨o, e, _⟩ := T.obj _ _ st7 b hb
          exact (pin' b hb o e).2
      cases b with
      | false =>
        simp only [Bool.false_eq_true, if_false] at q9 ⊢
        exact fin I9 q9
      | true =>
        simp only [if_true] at q9 ⊢
        refine thnF (pe.run _ s9 σ8 H9 _ I9 q9) fun z s10 ⟨yv, H10, I10, r10, acc, hD10, hz10, nx⟩ => ?_
        exact app_ok (X := X.blk s3 H3 scope ce fp) I10 hD10 hz10 r10 fun s11 I11 => fin I11 nx
  exact codeAny_compStart_list loop (T.self X.A 0 _ _ _ st4 loop)
end
end G66
namespace G66
open PySem PySem.Spec PySem.Calls PyProof.Rows L2 LamX
/-! lambdas without parameters, handed to a def beside an int -/
theorem cxN_cx {P : Program} {w : World} {outer : List Env} {H : Hp} {s s' : Shared} {E : XK} {u : Value} (h : L2N.CX P w outer H s E u s') : L2.CX P w outer H s E u s' := by
  obtain ⟨a, B, H', cls, d, e, ⟨f1, f2, f3, oe, vs, T, oT, ts, g1, g2, g3⟩, r⟩ := h
  exact ⟨a, B, H', cls, d, e, ⟨f1, f2, f3, oe, vs, T, oT, ts, g1, g2.zc, g3⟩, r⟩
theorem passLam {X : Cx} {A : Around} {outer : List Env} {s : Shared} {H : Hp} {E : XK} {scope : Scope} {f c' : Addr} : Passes (L2N.CX X.prog X.w) (lamCx X A outer s H E scope f c') E :=
  fun pins σ H' s' e s'' I c => L2.passes_call (X := lamCx X A outer s H E scope f c') (W := fun cls d _ H => E cls d H) (L2.takes_of (E := E) rfl rfl rfl rfl) (fun _ _ _ _ h => h) pins σ H' s' e s'' I (cxN_cx c)
/-- a() in the def that got the lambda -/
def tAct (f c' : Addr) (q : PySem.Str) (i : Nat) (W : WX) (tl : XK → Hp → VK → Prop) : TE := fun σ H Q => σ[i]? = some (some (.ref f)) ∧ H c' = some (CodeO c' q) ∧ tl (fun cls d H' => W cls d σ H') H Q
section
variable {X : Cx} {pins : List (Addr × Obj)} {σ : L2.St} {H : Hp} {s : Shared}
theorem pe_actS {CXg : CXT} {Eg : XK} {Ng : List PySem.Str} {qg : PySem.Str} {sg : Scope} {g f c' : Addr} {cdg pm ctv : Value} {params : Arguments} {body : Expr} {scope : Scope} {k i : Nat} {a : PySem.Str} {pn : List (Addr × Obj)} {xe : Value → Shared → Prop} {W : WX} {tb : XK → TE} {p1 p2 : Pos}
    (I : Inv X pins σ H s) (L : LamS X.env.scope scope) (hf : s.heap.get? f = some (PySem.W.kla_obj "<lambda>" (X.env.qual ++ "<lambda>") params body scope (cloFrom X.env.cells scope.names []) pm c' ctv)) (hfn : H f = none) (hfr : f ∉ frs X.stack)
    (hbind : bindArgs (PySem.W.kla_fn "<lambda>" (X.env.qual ++ "<lambda>") params body scope (cloFrom X.env.cells scope.names []) pm (.ref c') ctv) ⟨[], []⟩ = pure [])
    (tk : L2.Takes ((cxOf CXg X.prog X.w X.K X.mg X.base Ng qg sg g cdg X.A X.stack s H Eg).tr pn xe) W) (hr : Room (k + 1) (X.A.deeper (envOfC qg sg s.heap.objs.size g cdg)))
    (hbody : ∀ (E : XK) (A : Around) (outer : List Env) (s : Shared) (H : Hp), Room k (A.deeper (lamEnv X scope s.heap.objs.size f c')) → PE (lamCx X A outer s H E scope f c') body (tb E))
    (hN : Ng[i]? = some a) (hv : Vis sg a) (hd : (a == ("__debug__" : PySem.Str)) = false := by decide) (hcd : (a == ("__classdict__" : PySem.Str)) = false := by decide) :
    PE ((cxOf CXg X.prog X.w X.K X.mg X.base Ng qg sg g cdg X.A X.stack s H Eg).tr pn xe) (.Call (.Name a p1) [] [] p2) (tAct f c' (X.env.qual ++ "<lambda>") i W fun E H Q => tb E σ H Q) := by
  refine ⟨fun pinsZ sZ σZ HZ Q IZ h => ?_⟩
  obtain ⟨hs, hc, ht⟩ := h
  refine wpAny_Call_Name_kw (thn ((pe_var (pos := p1) (i := i) hN hv hd hcd).run pinsZ sZ σZ HZ (fun v H1 => v = .ref f ∧ H1 = HZ) IZ ⟨.ref f, hs, rfl, rfl⟩) fun u s1 ⟨v, H1, I1, r1, q1⟩ => ?_)
  obtain ⟨rfl, rfl⟩ := q1
  obtain rfl : u = Value.ref f := r1
  have of1 := I1.base.keep f _ hf hfn hfr (fun z => nomatch (show f ∈ ([] : List Addr) from z))
  refine PySem.W.callWith_F0 ⟨_, _, _, _, of1⟩ ?_
  obtain ⟨⟨oc, vs, t, hoc, hdc, hvc⟩, _, _⟩ := I1.hok c' _ hc
  have rc : codeAny (model X.prog X.w) (X.A.deeper (envOfC qg sg s.heap.objs.size g cdg)) (.call (.ref f) ⟨[], []⟩) (CR (L2.CX X.prog X.w) (envOfC qg sg s.heap.objs.size g cdg :: X.stack) X.prog X.w H1 s1 Q (fun cls d H' => W cls d σZ H')) s1 := by
    refine PySem.W.kla_callFunE hr.depth of1 rfl L.co L.gen rfl ⟨c', oc, vs, t, rfl, hoc, hdc, hvc⟩ ?_
    rw [hbind]
    refine wpAny_pure (wpAny_newFunctionEnv (fun y hy => (L.own y hy).2) (fun y hy => absurd hy (by simp)) (fun h₁ hns hsb => ⟨I1.nolimit.fresh _ hsb, ?_⟩) L.kind)
    have kp : ∀ b o, s1.heap.get? b = some o → h₁.get? b = some o := fun b o e => hsb.extBut b o (Nat.ne_of_lt (Heap.lt_size e)) (Heap.get?_push_of_some _ e)
    have J := lam_start2 (A := X.A.deeper (envOfC qg sg s.heap.objs.size g cdg)) (outer := envOfC qg sg s.heap.objs.size g cdg :: X.stack) (E := fun cls d H' => W cls d σZ H') (f := f) (c' := c') (tk := s1.toks + ([] : List (PySem.Str × Value)).length) I L I1.env0 hr.hd I1.base hns kp
    refine PySem.W.kla_codeExpr (wpAny_mono ((hbody _ _ _ s1 H1 (hr.deeper _)).run [] _ _ H1 Q J ht) (fun v s' ⟨w', H', J', rv, q⟩ => ?_) fun e s' hq => hq)
    exact ⟨w', H', J'.os, J'.bare, J'.base, J'.hok, rv, q⟩
  refine wpAny_call (codeAny_mono rc fun r s' hq => ?_)
  match r, hq with
  | .error e, hq => exact tk e s' (L2.XE.of_call I1 (fun cls d H' h => h) hq)
  | .ok (.ret u), hq => exact I1.after hq
end
/-- what a def makes of such a lambda and an int -/
def Gives2 (P : Program) (w : World) (K : PySem.W.Frag) (mg : PySem.Str → Option Value) (base : Heap) (A : Around) (stack : List Env) (Ng : List PySem.Str) (x : PySem.Str) (sg : Scope) (g : Addr) (cdg : Value) (bg : List Stmt) (a q : PySem.Str) (TT : Int → (XK → Hp → VK → Prop) → Hp → VK → Prop) : Prop :=
  ∀ (f c' : Addr) (n : Int) (s : Shared) (H : Hp) (Q : VK) (tl : XK → Hp → VK → Prop),
    (∀ (W : WX) (pn : List (Addr × Obj)) (xe : Value → Shared → Prop) (p1 p2 : Pos), L2.Takes ((cxOf CX0 P w K mg base Ng x sg g cdg A stack s H E0).tr pn xe) W →
      PE ((cxOf CX0 P w K mg base Ng x sg g cdg A stack s H E0).tr pn xe) (.Call (.Name a p1) [] [] p2) (tAct f c' q 0 W tl)) →
    Room 2 (A.deeper (envOfC x sg s.heap.objs.size g cdg)) → H c' = some (CodeO c' q) → TT n tl H Q →
    ∃ t, PSs (cxOf CX0 P w K mg base Ng x sg g cdg A stack s H E0).nox bg t ∧ t { nx := fun _ H' => Q .non H', rt := Q } (L2.start Ng [.ref f, .int n]) H
/-- a def whose code object is known -/
structure DfnC (K : PySem.W.Frag) (mg : PySem.Str → Option Value) (x : PySem.Str) (st : Stmt) (cd : Addr) : Prop where
  ex : ∃ (f : Addr) (fd : FuncData) (oc : Value) (od : Option Addr) (kV doc pm : Value) (an : Option Addr) (ct : Value) (osl : Array (Option Value)), fd = PySem.W.fnOf x x (defArgs st) (defBody st) (defScope st) .none kV doc pm an (.ref cd) ct ∧ K.lookup f = some ⟨oc, od, .func fd, osl⟩ ∧ PySem.W.codeIn K (.ref cd) x = true ∧ PySem.W.keepIn K (.ref f) = true ∧ mg x = some (.ref f)
theorem dfnC_mk {K : PySem.W.Frag} {h : Heap} {mg : PySem.Str → Option Value} {x : PySem.Str} {st : Stmt} {cd f : Addr} {oc : Value} {od : Option Addr} {kV doc pm cdv : Value} {an : Option Addr} {ct : Value} {osl : Array (Option Value)} (KX : K.In h) (G : h.Ns mainGlobals mg) (a : PySem.W.nsIn K mainGlobals x = some (some (.ref f)))
    (l : K.lookup f = some ⟨oc, od, .func (PySem.W.fnOf x x (defArgs st) (defBody st) (defScope st) .none kV doc pm an cdv ct), osl⟩) (c : PySem.W.codeIn K cdv x = true) (k : PySem.W.keepIn K (.ref f) = true) (e : cdv = .ref cd) : DfnC K mg x st cd := by
  subst e
  exact ⟨f, _, oc, od, kV, doc, pm, an, ct, osl, rfl, l, c, k, PySem.W.mg_of KX G a⟩
theorem DfnC.ok {P : Program} {w : World} {K : PySem.W.Frag} {mg : PySem.Str → Option Value} {base : Heap} {x : PySem.Str} {st : Stmt} {cd : Addr} {N ps : List PySem.Str} {k : Nat} {sp : Sp} (F : DfnC K mg x st cd) (S : FnScope N ps (defScope st))
    (hb : ∀ (kV doc pm : Value) (an : Option Addr) (cdv ct : Value) (us : List Value), us.length = ps.length → bindArgs (PySem.W.fnOf x x (defArgs st) (defBody st) (defScope st) .none kV doc pm an cdv ct) ⟨us, []⟩ = pure (ps.zip us))
    (len : ∀ vs H Q E, sp vs H Q E → vs.length = ps.length)
    (hbody : ∀ (f : Addr) (A : Around) (outer : List Env) (s : Shared) (H : Hp) (vs : List V) (Q : VK) (E : XK), Room k (A.deeper (envOfC x (defScope st) s.heap.objs.size f (.ref cd))) → sp vs H Q E →
      ∃ t, PSs (cxOf CX0 P w K mg base N x (defScope st) f (.ref cd) A outer s H E).nox (defBody st) t ∧ t { nx := fun _ H' => Q .non H', rt := Q } (start N vs) H) : Df P w K mg base CX0 (k + 1) x ps sp := by
  obtain ⟨f, fd, oc, od, kV, doc, pm, an, ct, osl, rfl, lk, hcd, kp, m⟩ := F.ex
  refine ⟨f, _, fn_of lk hcd S len fun A outer s H vs Q E hr hsp => ?_, m, kp, .all fun us hl => hb kV doc pm an _ ct us hl⟩
  obtain ⟨t, h, q⟩ := hbody f A outer s H vs Q E hr hsp
  exact ⟨t, h.nox, q⟩
section
variable {K : PySem.W.Frag} {H H' : Hp} {a : Addr} {xs : List V} {ts : List T3}
theorem sq_ext (h : SqL K H a xs) (e : ExtN H H') : SqL K H' a xs := by
  rcases h with (h | ⟨ob, h⟩) | h
  · exact .inl (.inl (e _ _ h (fun ps z => by cases z)))
  · exact .inl (.inr ⟨ob, e _ _ h (fun ps z => by cases z)⟩)
  · exact .inr h
theorem Ts.ext (h : Ts K H a ts) (e : ExtN H H') : Ts K H' a ts := by
  obtain ⟨rs, h1, h2, h3⟩ := h
  exact ⟨rs, sq_ext h1 e, h2, fun i r t hr ht => sq_ext (h3 i r t hr ht) e⟩
theorem TsT.ext (h : TsT K H a ts) (e : ExtN H H') : TsT K H' a ts := by
  obtain ⟨rs, h1, h2, h3⟩ := h
  exact ⟨rs, e _ _ h1 (fun ps z => by cases z), h2, fun i r t hr ht => sq_ext (h3 i r t hr ht) e⟩
theorem ext_same (s : Same H H') : ExtN H H' := fun b o h _ => s b o h
theorem ext_lst (e : ExtN H H') (h : H a = some (.lst xs)) : H' a = some (.lst xs) := e _ _ h (fun ps z => by cases z)
theorem ext_tup (e : ExtN H H') (h : H a = some (.tup xs)) : H' a = some (.tup xs) := e _ _ h (fun ps z => by cases z)
end
theorem takes0L {X : Cx} : L2.Takes X (fun _ _ _ _ => False) := fun _ _ x => by
  obtain ⟨_, _, _, _, _, _, _, _, _, _, _, _, _, _, _, _, z⟩ := x
  exact z.elim
def tLam2 (T : List (Addr × PySem.Str)) (TT : Int → (XK → Hp → VK → Prop) → Hp → VK → Prop) (n : Int) (t : XK → TE) : TE := fun σ H Q => Tabs T H ∧ ∀ H1, ExtN H H1 → Tabs T H1 → TT n (fun E H' Q' => t E σ H' Q') H1 Q
section
variable {X : Cx}
theorem pe_lam2 {T : List (Addr × PySem.Str)} {TT : Int → (XK → Hp → VK → Prop) → Hp → VK → Prop} {x a b : PySem.Str} {g c P : Addr} {k : Nat} {pg : Arguments} {bg : List Stmt} {sg : Scope} {dV kV doc pm cdv ct oc : Value} {an od : Option Addr} {osl : Array (Option Value)} {Ng : List PySem.Str}
    {params : Arguments} {body : Expr} {scope : Scope} {t : XK → TE} {n : Int} {j : Nat} {p lpos p2 pos : Pos} (hg : Gl X x) (hm : X.mg x = some (.ref g)) (hk : PySem.W.keepIn X.K (.ref g) = true)
    (lk : X.K.lookup g = some ⟨oc, od, .func (PySem.W.fnOf x x pg bg sg dV kV doc pm an cdv ct), osl⟩) (hcg : PySem.W.codeIn X.K cdv x = true) (hb : L2.Binds X.K (PySem.W.fnOf x x pg bg sg dV kV doc pm an cdv ct) [a, b] []) (Sg : FnScope Ng [a, b] sg) (hNg : Ng[0]? = some a) (hva : Vis sg a)
    (hG : Gives2 X.prog X.w X.K X.mg X.base X.A X.stack Ng x sg g cdv bg a (X.env.qual ++ "<lambda>") TT)
    (TB : TabB X.base X.mg c P) (hcode : X.env.code = .ref c) (hmT : (P, X.env.qual ++ "<lambda>") ∈ T) (hu : ∀ p ∈ T, p.1 = P → p.2 = X.env.qual ++ "<lambda>") (hr : Room (k + 2) X.A) (h2 : 2 ≤ k + 1) (L : LamS X.env.scope scope) (hdef : defaultsOf params X.env = ([], []))
    (hbind : ∀ (q : PySem.Str) (cl : List (PySem.Str × Addr)) (pm cv ctv : Value), bindArgs (PySem.W.kla_fn "<lambda>" q params body scope cl pm cv ctv) ⟨[], []⟩ = pure [])
    (hbody : ∀ (f c' : Addr) (E : XK) (A : Around) (outer : List Env) (s : Shared) (H : Hp), Room k (A.deeper (lamEnv X scope s.heap.objs.size f c')) → PE (lamCx X A outer s H E scope f c') body (t E))
    (hdb : (x == ("__debug__" : PySem.Str)) = false := by decide) (hd : (a == ("__debug__" : PySem.Str)) = false := by decide) (hcd : (a == ("__classdict__" : PySem.Str)) = false := by decide) :
    PE X (.Call (.Name x p) [.Lambda params body scope lpos, .Constant (.int n) j p2] [] pos) (tLam2 T TT n t) := by
  refine ⟨fun pins s σ H Q I ⟨hT, h⟩ => ?_⟩
  refine wpAny_Call_Name_kw (ld_glob I hg hm ?_ hdb)
  refine PySem.W.callWith_K (h₀ := X.base) I.ok.mod.kin hk ?_ (by rfl) (by rfl)
  show wpAny _ _ (spliced ((false, eval (.Lambda params body scope lpos) X.env) :: backTo pos (starEach [.Constant (.int n) j p2] X.env))) _ _ s
  refine Calls.spliced_cons (lam_make2 I TB hcode hmT hu hT hdef (L.has I.ok) fun f c' pm' ctv H1 s' I1 eN T1 hf hfn hfr hco => ?_)
  refine Calls.spliced_cons (wpAny_Constant_int (k := j) (pos := p2) ?_)
  refine Calls.spliced_nil ⟨I1.kIn, ?_⟩
  have I2 : Inv X pins σ H1 { s' with toks := s'.toks + 1 } := I1.tok _
  have rc : codeAny (model X.prog X.w) X.A (.call (.ref g) ⟨[.ref f, .int n s'.toks], []⟩) (CR CX0 X.stack X.prog X.w H1 { s' with toks := s'.toks + 1 } Q E0) { s' with toks := s'.toks + 1 } := by
    refine run_ofS (N := Ng) (ps := [a, b]) (us := [.ref f, .int n s'.toks]) (vs := [.ref f, .int n]) lk hcg Sg hr I2.env0 (hb _ [.ref f, .int n s'.toks] I2.kIn rfl) (.cons rfl (.cons ⟨_, rfl⟩ .nil)) rfl fun hr' => ?_
    obtain ⟨t', ht', hq'⟩ := hG f c' n _ H1 Q (fun E H' Q' => t E σ H' Q') (fun W pn xe p1 p2 tk => pe_actS (i := 0) I2 L hf hfn hfr (hbind _ _ _ _ _) tk hr' (fun E A outer s H hr2 => hbody f c' E A outer s H hr2) hNg hva hd hcd) (hr'.mono h2) hco (h H1 eN T1)
    exact ⟨t', ht'.nox, hq'⟩
  refine wpAny_call (codeAny_mono rc fun r s2 hq => ?_)
  match r, hq with
  | .error e, hq => exact (show False from hq).elim
  | .ok (.ret u), hq => exact I2.after hq
end
end G66
namespace G66
open PySem PySem.Spec PySem.Calls PyProof.Rows L2
/-! plans that are none, in plain words -/
theorem allPrs_app (a b : List T3) : allPrs (a ++ b) = allPrs a ++ allPrs b := by unfold allPrs; rw [List.flatMap_append]
theorem not_plan_dup {p : Int} {L1 L2 : List T3} {u : T3} {k : PP} (h1 : k ∈ prs u) (h2 : k ∈ allPrs (L1 ++ L2)) : isPlan p (L1 ++ [u] ++ L2) = false := by
  refine not_plan_of_twice fun hn => ?_
  rw [allPrs_app, allPrs_app, List.append_assoc] at hn
  have e : allPrs [u] = prs u := by simp [allPrs]
  rw [e] at hn
  rw [allPrs_app] at h2
  rcases List.mem_append.mp h2 with z | z
  · exact (List.nodup_append.mp hn).2.2 k z k (List.mem_append_left _ h1) rfl
  · exact (List.nodup_append.mp (List.nodup_append.mp hn).2.1).2.2 k h1 k z rfl
theorem not_plan_len {p : Int} {ts : List T3} (h : ¬ (3 * ts.length : Int) = p * (p - 1) / 2) : isPlan p ts = false := by
  cases e : isPlan p ts with
  | false => rfl
  | true => exact absurd (plan_len e) h
theorem plan_apart {p u v : Int} {ts : List T3} (h0 : 0 ≤ p) (hok : ∀ t ∈ ts, T3.ok p t) (hp : isPlan p ts = true) : apartB p ts u v = false := by
  unfold apartB
  by_cases c : 0 ≤ u ∧ u < v ∧ v < p
  · rw [any_both hok c.2.1, decide_eq_true (plan_cover h0 hok hp u v c.1 c.2.1 c.2.2)]
    simp
  · rw [decide_eq_false c, Bool.false_and]
theorem two_of {l : List Int} (hn : l.Nodup) (h : 1 < l.length) : ∃ x y, x ∈ l ∧ y ∈ l ∧ x ≠ y := by
  match l, hn, h with
  | x :: y :: r, hn, _ => exact ⟨x, y, by simp, by simp, fun z => by simp [z] at hn⟩
theorem l_nodup {p : Int} {t : T3} (h : T3.ok p t) : t.l.Nodup := by
  unfold T3.ok at h
  unfold T3.l
  simp
  omega
theorem plan_twice {p u v : Int} {ts : List T3} (hok : ∀ t ∈ ts, T3.ok p t) (hp : isPlan p ts = true) : twiceB ts u v = false := by
  by_cases c : 0 ≤ u ∧ u < v ∧ v < ts.length
  · have hu : u.toNat < ts.length := by omega
    have hv : v.toNat < ts.length := by omega
    have e1 := List.getElem?_eq_getElem hu
    have e2 := List.getElem?_eq_getElem hv
    rw [twiceB_some c e1 e2]
    refine decide_eq_false fun h => ?_
    have o1 := hok _ (List.getElem_mem hu)
    have o2 := hok _ (List.getElem_mem hv)
    obtain ⟨x, y, hx, hy, hxy⟩ := two_of ((l_nodup o1).sublist List.filter_sublist) h
    have key : ∃ k : PP, k ∈ prs ts[u.toNat] ∧ k ∈ prs ts[v.toNat] := by
      have hx1 := List.mem_filter.mp hx
      have hy1 := List.mem_filter.mp hy
      have hx2 := of_decide_eq_true hx1.2
      have hy2 := of_decide_eq_true hy1.2
      rcases Int.lt_or_gt_of_ne hxy with z | z
      · exact ⟨(x, y), prs_of_mem o1 hx1.1 hy1.1 z, prs_of_mem o2 hx2 hy2 z⟩
      · exact ⟨(y, x), prs_of_mem o1 hy1.1 hx1.1 z, prs_of_mem o2 hy2 hx2 z⟩
    obtain ⟨k, k1, k2⟩ := key
    have split : ts = ts.take u.toNat ++ [ts[u.toNat]] ++ ts.drop (u.toNat + 1) := by
      rw [List.append_assoc]
      show ts = ts.take u.toNat ++ (ts[u.toNat] :: ts.drop (u.toNat + 1))
      rw [← List.drop_eq_getElem_cons hu, List.take_append_drop]
    have mem : ts[v.toNat] ∈ ts.drop (u.toNat + 1) := by
      have : (ts.drop (u.toNat + 1))[v.toNat - (u.toNat + 1)]? = some ts[v.toNat] := by
        rw [List.getElem?_drop, show u.toNat + 1 + (v.toNat - (u.toNat + 1)) = v.toNat by omega]
        exact e2
      exact List.mem_of_getElem? this
    have := not_plan_dup (p := p) (L1 := ts.take u.toNat) (L2 := ts.drop (u.toNat + 1)) k1 (by rw [allPrs_app]; exact List.mem_append_right _ (mem_allPrs.mpr ⟨_, mem, k2⟩))
    rw [← split, hp] at this
    cases this
  · exact twiceB_out c
/-- a three bent to another third one -/
theorem bent_dup {p o : Int} {L1 L2 : List T3} {t : T3} (h0 : 0 ≤ p) (hok : ∀ s ∈ L1 ++ [t] ++ L2, T3.ok p s) (hp : isPlan p (L1 ++ [t] ++ L2) = true) (o0 : 0 ≤ o) (o1 : o < p) (ho : o ∉ t.l) :
    T3.ok p (tsort t.1 t.2.1 o) ∧ isPlan p (L1 ++ [tsort t.1 t.2.1 o] ++ L2) = false := by
  have ht : T3.ok p t := hok t (by simp)
  have n1 : t.1 ≠ o := fun z => ho (by rw [← z]; simp [T3.l])
  have n2 : t.2.1 ≠ o := fun z => ho (by rw [← z]; simp [T3.l])
  unfold T3.ok at ht
  have hb : T3.ok p (tsort t.1 t.2.1 o) := tsort_ok (by omega) (by omega) ⟨o0, o1⟩ (by omega) n1 n2
  refine ⟨hb, ?_⟩
  have key : ∀ x y : Int, x < y → (x = t.1 ∧ y = o ∨ x = o ∧ y = t.1) → isPlan p (L1 ++ [tsort t.1 t.2.1 o] ++ L2) = false := by
    intro x y hxy hz
    have m1 : x ∈ (tsort t.1 t.2.1 o).l := tsort_mem.mpr (by omega)
    have m2 : y ∈ (tsort t.1 t.2.1 o).l := tsort_mem.mpr (by omega)
    refine not_plan_dup (k := (x, y)) (prs_of_mem hb m1 m2 hxy) ?_
    have hc := plan_cover h0 hok hp x y (by omega) hxy (by omega)
    rw [allPrs_app, allPrs_app] at hc
    rw [allPrs_app]
    rcases List.mem_append.mp hc with hc | hc
    · rcases List.mem_append.mp hc with hc | hc
      · exact List.mem_append_left _ hc
      · have e : allPrs [t] = prs t := by simp [allPrs]
        rw [e] at hc
        obtain ⟨a1, a2⟩ := mem_of_prs hc
        rcases hz with ⟨_, rfl⟩ | ⟨rfl, _⟩
        · exact absurd a2 ho
        · exact absurd a1 ho
    · exact List.mem_append_right _ hc
  rcases Int.lt_or_gt_of_ne n1 with z | z
  · exact key _ _ z (.inl ⟨rfl, rfl⟩)
  · exact key _ _ z (.inr ⟨rfl, rfl⟩)
/-- a three that stands there already -/
theorem again_dup {p : Int} {L1 L2 : List T3} {t : T3} (h : t ∈ L1 ++ L2) : isPlan p (L1 ++ [t] ++ L2) = false :=
  not_plan_dup (k := (t.1, t.2.1)) (by simp [prs]) (mem_allPrs.mpr ⟨t, h, by simp [prs]⟩)
theorem plan_perm {p : Int} {ts us : List T3} (h0 : 0 ≤ p) (hok : ∀ t ∈ ts, T3.ok p t) (hp : isPlan p ts = true) (h : us.Perm ts) : isPlan p us = true := by
  refine plan_of_cover h0 (cover_perm (plan_cover h0 hok hp) fun t ht => h.mem_iff.mpr ht) ?_
  rw [h.length_eq]
  exact plan_len hp
theorem dblU_perm {p : Int} {ts us : List T3} (h : us.Perm ts) : (dblU p us).Perm (dblU p ts) := by
  unfold dblU
  exact List.Perm.append_left _ (h.flatMap_right _)
theorem cut_take {α : Type} {ts : List α} {m : Int} (h0 : 0 ≤ m) (h : m ≤ ts.length) : cutT ts none (some m) = ts.take m.toNat := by
  obtain ⟨k, rfl⟩ : ∃ k : Nat, m = k := ⟨m.toNat, by omega⟩
  unfold cutT
  rw [HT.sIx_nat, HT.sIx_none, List.drop_zero, Nat.sub_zero, Nat.min_eq_left (by omega), Int.toNat_natCast]
theorem cut_drop {α : Type} {ts : List α} {m : Int} (h0 : 0 ≤ m) (h : m ≤ ts.length) : cutT ts (some m) none = ts.drop m.toNat := by
  obtain ⟨k, rfl⟩ : ∃ k : Nat, m = k := ⟨m.toNat, by omega⟩
  unfold cutT
  rw [HT.sIx_nat, HT.sIx_none, Nat.min_eq_left (by omega), List.take_of_length_le (by rw [List.length_drop]; omega), Int.toNat_natCast]
theorem cut_split {α : Type} {ts : List α} {m : Nat} {t : α} (h : ts[m]? = some t) : ts = ts.take m ++ [t] ++ ts.drop (m + 1) := by
  obtain ⟨hm, e⟩ := List.getElem?_eq_some_iff.mp h
  rw [List.append_assoc]
  show ts = ts.take m ++ (t :: ts.drop (m + 1))
  rw [← e, ← List.drop_eq_getElem_cons hm, List.take_append_drop]
theorem cut_other {α : Type} {ts : List α} {m j : Nat} {t : α} (h : ts[j]? = some t) (hj : j ≠ m) : t ∈ ts.take m ++ ts.drop (m + 1) := by
  rcases Nat.lt_or_gt_of_ne hj with z | z
  · refine List.mem_append_left _ (List.mem_of_getElem? (i := j) ?_)
    rw [List.getElem?_take, if_pos z]
    exact h
  · refine List.mem_append_right _ (List.mem_of_getElem? (i := j - (m + 1)) ?_)
    rw [List.getElem?_drop, show m + 1 + (j - (m + 1)) = j by omega]
    exact h
/-- the place before: another one -/
theorem at_before {α : Type} {xs : List α} {m : Int} (h0 : 0 ≤ m) (h : m < xs.length) (h2 : 1 < xs.length) : ∃ (j : Nat) (v : α), atI xs (m - 1) = some v ∧ xs[j]? = some v ∧ (j : Int) ≠ m := by
  by_cases e : m = 0
  · subst e
    have hj : xs.length - 1 < xs.length := by omega
    refine ⟨xs.length - 1, xs[xs.length - 1], ?_, List.getElem?_eq_getElem hj, by omega⟩
    unfold atI
    have : ixN xs.length (0 - 1) = some (xs.length - 1) := by
      unfold ixN
      rw [if_neg (by omega)]
      simp
      omega
    rw [this]
    exact List.getElem?_eq_getElem hj
  · have hj : (m - 1).toNat < xs.length := by omega
    refine ⟨(m - 1).toNat, xs[(m - 1).toNat], ?_, List.getElem?_eq_getElem hj, by omega⟩
    have := atI_nat (xs := xs) (j := (m - 1).toNat) (List.getElem?_eq_getElem hj)
    rw [Int.toNat_of_nonneg (by omega)] at this
    exact this
/-- of 25 people 22 are not in a three -/
theorem out22 {t : T3} (h : T3.ok 25 t) : 22 ≤ ((((List.range 25).map fun (i : Nat) => (0 : Int) + (i : Int)).filter fun i => !decide (i ∈ t.l)).length) := by
  have hn : ((List.range 25).map fun (i : Nat) => (0 : Int) + (i : Int)).Nodup := by decide
  have := pigeon (m := (((List.range 25).map fun (i : Nat) => (0 : Int) + (i : Int)).filter fun i => !decide (i ∈ t.l)) ++ t.l) hn (fun x hx => by
    by_cases c : x ∈ t.l
    · exact List.mem_append_right _ c
    · exact List.mem_append_left _ (List.mem_filter.mpr ⟨hx, by simp [c]⟩))
  rw [List.length_append] at this
  have e : t.l.length = 3 := rfl
  simp only [List.length_map, List.length_range] at this
  omega
end G66
namespace G66
open PySem PySem.Spec PySem.Calls PyProof.Rows L2 LamX
/-! lambdas with parameters, handed to a def beside a thing -/
/-- parameters ps, captured names and globals -/
structure LamP (sc scope : Scope) (ps : List PySem.Str) : Prop where
  kind : scope.kind = .function
  co : scope.isCoroutine = false
  gen : scope.isGenerator = false
  own : ∀ y ∈ scope.names, y.2 ≠ .cell ∧ (y.2 = .local → y.1 ∈ ps)
  par : ∀ p ∈ ps, scope.names.lookup p = some .local
  free : ∀ y ∈ scope.names, y.2 = .free → sc.names.lookup y.1 = some .cell ∨ sc.names.lookup y.1 = some .free
def lamPB (sc scope : Scope) (ps : List PySem.Str) : Bool :=
  decide (scope.kind = .function) && !scope.isCoroutine && !scope.isGenerator && (scope.names.all fun y => !decide (y.2 = .cell) && (!decide (y.2 = .local) || decide (y.1 ∈ ps)) && (!decide (y.2 = .free) || decide (sc.names.lookup y.1 = some .cell) || decide (sc.names.lookup y.1 = some .free))) && ps.all fun p => decide (scope.names.lookup p = some .local)
theorem lamP_by {sc scope : Scope} {ps : List PySem.Str} (h : lamPB sc scope ps = true) : LamP sc scope ps := by
  unfold lamPB at h
  simp only [Bool.and_eq_true, Bool.or_eq_true, Bool.not_eq_true', decide_eq_true_eq, decide_eq_false_iff_not, List.all_eq_true] at h
  obtain ⟨⟨⟨⟨h1, h2⟩, h3⟩, h4⟩, h5⟩ := h
  refine ⟨h1, h2, h3, fun y hy => ⟨(h4 y hy).1.1, fun e => (h4 y hy).1.2.resolve_left fun z => z e⟩, h5, fun y hy e => ?_⟩
  rcases (h4 y hy).2 with (z | z) | z
  · exact absurd e z
  · exact .inl z
  · exact .inr z
def lamCxP (X : Cx) (A : Around) (outer : List Env) (s : Shared) (H : Hp) (E : XK) (scope : Scope) (f c' : Addr) (ps : List PySem.Str) : Cx := { lamCx X A outer s H E scope f c' with N := X.N ++ ps }
theorem passLamP {X : Cx} {A : Around} {outer : List Env} {s : Shared} {H : Hp} {E : XK} {scope : Scope} {f c' : Addr} {ps : List PySem.Str} : Passes (L2N.CX X.prog X.w) (lamCxP X A outer s H E scope f c' ps) E :=
  fun pins σ H' s' e s'' I c => L2.passes_call (X := lamCxP X A outer s H E scope f c' ps) (W := fun cls d _ H => E cls d H) (L2.takes_of (E := E) rfl rfl rfl rfl) (fun _ _ _ _ h => h) pins σ H' s' e s'' I (cxN_cx c)
section
variable {X : Cx} {pins : List (Addr × Obj)} {σ : L2.St} {H HZ : Hp} {s s1 : Shared}
theorem lookup_zip {ps : List PySem.Str} (hn : ps.Nodup) : ∀ {us : List Value} {i : Nat} {p : PySem.Str} {u : Value}, ps[i]? = some p → us[i]? = some u → (ps.zip us).reverse.lookup p = some u := by
  induction ps with
  | nil => intro us i p u h; simp at h
  | cons q ps ih =>
    intro us i p u h1 h2
    cases us with
    | nil => simp at h2
    | cons v us =>
      have hq : q ∉ ps := (List.nodup_cons.mp hn).1
      rw [List.zip_cons_cons, List.reverse_cons, List.lookup_append]
      cases i with
      | zero =>
        have e1 : q = p := Option.some.inj h1
        have e2 : v = u := Option.some.inj h2
        subst e1 e2
        have : (ps.zip us).reverse.lookup q = none := by
          rw [List.lookup_eq_none_iff]
          intro y hy
          rw [List.mem_reverse] at hy
          have := (List.of_mem_zip (a := y.1) (b := y.2) hy).1
          simp only [bne_iff_ne, ne_eq, beq_eq_false_iff_ne]
          intro z
          exact hq (z ▸ this)
        rw [this]
        simp [List.lookup]
      | succ i =>
        rw [ih (List.nodup_cons.mp hn).2 (i := i) h1 h2]
        rfl
theorem lam_startP {A : Around} {outer : List Env} {E : XK} {scope : Scope} {f c' : Addr} {h₁ : Heap} {tk : Nat} {ps : List PySem.Str} {us : List Value} {vs : List V} (I : Inv X pins σ H s) (L : LamP X.env.scope scope ps) (hnd : ps.Nodup) (hnew : ∀ p ∈ ps, p ∉ X.N) (hl : vs.length = ps.length) (rv : Vals vs us) (e0 : Env0 X.prog X.w X.K X.mg X.base A outer s1 HZ) (hd : A.handled = none)
    (un : Un (frs X.stack) [] H HZ s.heap s1.heap) (hns : h₁.Ns s1.heap.objs.size fun y => (ps.zip us).reverse.lookup y) (kp : ∀ b o, s1.heap.get? b = some o → h₁.get? b = some o) :
    Inv (lamCxP X A outer s1 HZ E scope f c' ps) [] (σ ++ vs.map some) HZ { s1 with heap := h₁, toks := tk } := by
  have hfree : ∀ y ∈ scope.names, y.2 = .free → ∃ c, X.env.cells.lookup y.1 = some c := fun y hy e => (L.free y hy e).elim (fun k => I.ok.has _ (.inl k)) fun k => I.ok.has _ (.inr k)
  have cm : ∀ {y c}, (cloFrom X.env.cells scope.names []).lookup y = some c → X.env.cells.lookup y = some c := fun {y c} e => by
    rcases cloFrom_mem (PySem.mem_of_lookup e) with hm | ⟨h1, h2⟩
    · cases hm
    · obtain ⟨c1, hc⟩ := hfree _ h1 rfl
      dsimp only at hc
      have e2 : c = c1 := by rw [h2, hc] <;> rfl
      rw [e2]
      exact hc
  have look : ∀ {y}, scope.names.lookup y = some .free → ∃ c, (cloFrom X.env.cells scope.names []).lookup y = some c := fun {y} hl => mem_lookup (cloFrom_has (cells := X.env.cells) (acc := []) (PySem.mem_of_lookup hl))
  have cellK : ∀ {c : Addr} {v : Option Value}, H c = none → s.heap.IsCell c v → h₁.IsCell c v := fun {c v} n ⟨o, ho, hd⟩ => by
    obtain ⟨sl, q⟩ := un.any ho n (by simp)
    exact ⟨_, kp _ _ q, hd⟩
  have noA : ∀ b : Addr, b ∉ (lamCxP X A outer s1 HZ E scope f c' ps).ex := fun b z => nomatch (show b ∈ ([] : List Addr) from z)
  have hlen : X.N.length = σ.length := I.len.symm
  refine ⟨⟨e0.mod, L.kind, rfl, rfl, Nat.le_refl _, fun y z c e1 e2 => I.ok.inj y z c (cm e1) (cm e2), fun y hy => ?_, fun y c z _ => (nomatch (show false = true from z)), fun _ => hd, Around.frames_deeper e0.frames, .inr ⟨rfl, rfl⟩, fun b z => absurd z (noA b), e0.bs, e0.bsz, fun b _ _ => noA b,
      fun b z => absurd z (noA b), e0.funs, e0.frf⟩,
    rfl, e0.bare, Un.kept kp, ⟨_, hns, fun i y v e1 e2 e3 => ?_⟩, fun y c e => ?_, e0.hok.fresh (Nat.le_refl _), fun y c e => ?_, fun q hq => (nomatch (show q ∈ ([] : List (Addr × Obj)) from hq)), e0.hok.kept kp, ?_⟩
  · have hy : scope.names.lookup y = some .cell ∨ scope.names.lookup y = some .free := hy
    rcases hy with hy | hy
    · exact absurd rfl (L.own _ (PySem.mem_of_lookup hy)).1
    · exact look hy
  · have e1 : (X.N ++ ps)[i]? = some y := e1
    by_cases hi : i < X.N.length
    · rw [List.getElem?_append_left hi] at e1
      rw [List.getElem?_append_left (by omega)] at e2
      have e3 : Vis scope y := e3
      rcases e3 with k | k | k
      · exact absurd (List.mem_of_getElem? e1) (hnew _ ((L.own _ (PySem.mem_of_lookup k)).2 rfl))
      · exact absurd rfl (L.own _ (PySem.mem_of_lookup k)).1
      · obtain ⟨m, hn, hl⟩ := I.loc
        have hvis : Vis X.env.scope y := (L.free _ (PySem.mem_of_lookup k) rfl).elim (fun k => .inr (.inl k)) (fun k => .inr (.inr k))
        obtain ⟨w', r, q⟩ := hl i y v e1 e2 hvis
        obtain ⟨c2, h2⟩ := look k
        refine ⟨w', r, .inr ⟨.inr k, c2, h2, ?_⟩⟩
        have c1 := cm h2
        rcases q with ⟨k', _⟩ | ⟨_, c3, e', z⟩
        · have k' : X.env.scope.names.lookup y = some .local := k'
          rcases L.free _ (PySem.mem_of_lookup k) rfl with k2 | k2 <;> rw [show X.env.scope.names.lookup y = _ from k2] at k' <;> cases k'
        · rw [c1] at e'
          cases e'
          exact cellK (I.freeC y _ c1) z
    · rw [List.getElem?_append_right (by omega)] at e1
      rw [List.getElem?_append_right (by omega), List.getElem?_map, ← hlen] at e2
      cases e4 : vs[i - X.N.length]? with
      | none => rw [e4] at e2; cases e2
      | some v' =>
        rw [e4] at e2
        have ev : v' = v := Option.some.inj (Option.some.inj e2)
        subst ev
        obtain ⟨u, hu, ru⟩ := rv.get e4
        exact ⟨u, ru, .inl ⟨L.par _ (List.mem_of_getElem? e1), lookup_zip hnd e1 hu⟩⟩
  · obtain ⟨w', z⟩ := I.cell y c (cm e)
    exact ⟨w', cellK (I.freeC y c (cm e)) z⟩
  · obtain ⟨v, o, ho, hd⟩ := I.cell y c (cm e)
    exact un.free c o ho (I.freeC y c (cm e)) (by simp)
  · show (σ ++ vs.map some).length = (X.N ++ ps).length
    rw [List.length_append, List.length_append, List.length_map, hl, hlen]
end
/-- the object at f is o -/
def ObjX (f : Addr) (o : Obj) : HO := .ext fun h => h.get? f = some o
theorem objX_ne {f : Addr} {o : Obj} (ps : Array Value) : ObjX f o ≠ .tbl ps := fun z => by unfold ObjX at z; cases z
theorem objX_ok {P : Program} {w : World} {H : Hp} {h : Heap} {f : Addr} {o : Obj} (e : h.get? f = some o) : ObjOk P w H h f (ObjX f o) := ⟨e, ⟨o, e⟩, fun h1 h2 q st => st _ q⟩
section
variable {X : Cx} {pins : List (Addr × Obj)} {σ : L2.St} {H : Hp} {s : Shared}
/-- a lambda is made, and known from now on -/
theorem lam_make3 {T : List (Addr × PySem.Str)} {c P : Addr} {params : Arguments} {body : Expr} {scope : Scope} {pos : Pos} {E : Value → Shared → Prop} {Q : Value → Shared → Prop} (I : Inv X pins σ H s) (TB : TabB X.base X.mg c P) (hcode : X.env.code = .ref c)
    (hm : (P, X.env.qual ++ "<lambda>") ∈ T) (hu : ∀ p ∈ T, p.1 = P → p.2 = X.env.qual ++ "<lambda>") (hT : Tabs T H) (hdef : defaultsOf params X.env = ([], [])) (hfree : ∀ y ∈ scope.names, y.2 = .free → ∃ c, X.env.cells.lookup y.1 = some c)
    (h : ∀ (f c' : Addr) (pm ctv : Value) (H1 : Hp) (s' : Shared), Inv X pins σ (upd H1 f (ObjX f (PySem.W.kla_obj "<lambda>" (X.env.qual ++ "<lambda>") params body scope (cloFrom X.env.cells scope.names []) pm c' ctv))) s' → ExtN H H1 → Tabs T H1 → H1 f = none → H1 c' = some (CodeO c' (X.env.qual ++ "<lambda>")) → Q (.ref f) s') :
    wpAny (model X.prog X.w) X.A (eval (.Lambda params body scope pos) X.env) Q E s := by
  obtain ⟨ps, hP, ht, ha⟩ := hT _ hm
  refine PySem.W.kla_eval hdef ?_
  have bP : s.heap.BuiltinsAt X.mg P := TB.bm.keeps I.bk
  have hP' : s.heap.get? P = some { cls := .none, data := .fields ps } := I.hok P _ hP
  cases hc : codeAmong pos ps.toList with
  | none =>
    refine PySem.W.kla_makeFunction (mg := X.mg) (c := c) (P := P) (ps := ps) (closure_ok hfree) I.ok.glob (I.mod.glob.keeps I.bk) hcode (TB.code.keeps I.bk) hP' ht hc TB.gP bP fun c' ctv h' tk hx hge hlt hrec htb => ?_
    obtain ⟨c2, oc, vs, t, e2, hoc, hd, hv⟩ := hrec
    cases e2
    have nC : H c' = none := I.hok.fresh hge
    have I1 := inv_table (t' := tk) (more := #[rawInt pos.line, rawInt pos.col, .ref c']) (h' := h') I hP hx htb hge ⟨oc, vs, t, hoc, hd, hv⟩
    have hE : ExtN H (upd (upd H P (.tbl (ps ++ #[rawInt pos.line, rawInt pos.col, .ref c']))) c' (CodeO c' (X.env.qual ++ "<lambda>"))) := fun b o e n => by
      rw [upd_ne (ne_of_none e nC), upd_ne (fun z => n ps (Option.some.inj (e.symm.trans (by rw [z]; exact hP))))]
      exact e
    have eL : (ps ++ #[rawInt pos.line, rawInt pos.col, .ref c']).toList = ps.toList ++ [rawInt pos.line, rawInt pos.col, .ref c'] := by simp
    have nF := I1.hok.fresh (Nat.le_refl h'.objs.size)
    refine h h'.objs.size c' ((X.mg "__name__").getD .none) ctv _ _ (I1.laid (t' := tk) (fun b o e => Heap.get?_push_of_some _ e) (Nat.le_refl _) (objX_ok (Heap.get?_push_size _ rfl))) hE (fun p hp => ?_) nF upd_same
    by_cases hb : p.1 = P
    · rw [hu p hp hb, hb]
      refine ⟨_, by rw [upd_ne (ne_of_none hP nC), upd_same], by rw [eL]; exact PySem.TriplesOk_snoc _ _ _ _ ht, fun p' cv hcv => ?_⟩
      rw [eL] at hcv
      rcases among_app _ ht hcv with z | z
      · obtain ⟨c0, e1, e2⟩ := ha p' cv z
        exact ⟨c0, e1, hE _ _ e2 codeO_ne⟩
      · exact ⟨c', z, upd_same⟩
    · obtain ⟨ps', a1, a2, a3⟩ := hT p hp
      refine ⟨ps', by rw [upd_ne (ne_of_none a1 nC), upd_ne hb]; exact a1, a2, fun p' cv hcv => ?_⟩
      obtain ⟨c0, e1, e2⟩ := a3 p' cv hcv
      exact ⟨c0, e1, hE _ _ e2 codeO_ne⟩
  | some cv =>
    obtain ⟨c', e, hco⟩ := ha pos cv hc
    subst e
    refine PySem.W.kla_makeFunctionHit (mg := X.mg) (c := c) (P := P) (ps := ps) (closure_ok hfree) I.ok.glob (I.mod.glob.keeps I.bk) hcode (TB.code.keeps I.bk) hP' ht hc bP fun ctv h' tk hx hsz => ?_
    have I1 : Inv X pins σ H { s with heap := h', toks := tk } := I.kept hx
    have nF := I1.hok.fresh (Nat.le_refl h'.objs.size)
    exact h h'.objs.size c' ((X.mg "__name__").getD .none) ctv H _ (I1.laid (t' := tk) (fun b o e => Heap.get?_push_of_some _ e) (Nat.le_refl _) (objX_ok (Heap.get?_push_size _ rfl))) (ExtN.refl H) hT nF hco
end
end G66
namespace G66
open PySem PySem.Spec PySem.Calls PyProof.Rows L2 LamX
/-! lambdas that are known by what stands in the heap -/
/-- without cs; H' with H's things at cs -/
def er (H : Hp) (cs : List Addr) : Hp := fun b => if b ∈ cs then none else H b
def rs (H H' : Hp) (cs : List Addr) : Hp := fun b => if b ∈ cs then H b else H' b
theorem er_nil {H : Hp} : er H [] = H := by funext b; simp [er]
theorem rs_nil {H H' : Hp} : rs H H' [] = H' := by funext b; simp [rs]
theorem er_in {H : Hp} {cs : List Addr} {b : Addr} (h : b ∈ cs) : er H cs b = none := by unfold er; rw [if_pos h]
theorem er_out {H : Hp} {cs : List Addr} {b : Addr} (h : b ∉ cs) : er H cs b = H b := by unfold er; rw [if_neg h]
theorem rs_in {H H' : Hp} {cs : List Addr} {b : Addr} (h : b ∈ cs) : rs H H' cs b = H b := by unfold rs; rw [if_pos h]
theorem rs_out {H H' : Hp} {cs : List Addr} {b : Addr} (h : b ∉ cs) : rs H H' cs b = H' b := by unfold rs; rw [if_neg h]
theorem objX_is {f : Addr} {o : Obj} {u : HO} (h : ∀ φ, u ≠ .ext φ) : ObjX f o ≠ u := fun z => h _ (by rw [← z]; rfl)
/-- what stands at cs are single objects -/
def Objs (H : Hp) (cs : List Addr) : Prop := ∀ c ∈ cs, ∃ o, H c = some (ObjX c o)
section
variable {P : Program} {w : World} {H H' : Hp} {s s' : Shared} {cs : List Addr} {outer : List Env} {Q Q' : VK} {E E' : XK} {u : Value}
theorem Objs.out (h : Objs H cs) {b : Addr} {u : HO} (e : H b = some u) (n : ∀ φ, u ≠ .ext φ) : b ∉ cs := fun z => by
  obtain ⟨o, ho⟩ := h b z
  rw [e] at ho
  exact objX_is n (Option.some.inj ho).symm
theorem ce_rs (hc : Objs H cs) (hfr : ∀ b ∈ frs outer, H b = none) (hok : HOk P w H s.heap) (h : CE outer P w (er H cs) s Q' u s') (hq : ∀ v H', Q' v H' → Q v (rs H H' cs)) : CE outer P w H s Q u s' := by
  obtain ⟨v, H1, h1, h2, un, ok, r, q⟩ := h
  have at_ : ∀ c ∈ cs, ∃ o, H c = some (ObjX c o) ∧ s.heap.get? c = some o ∧ s'.heap.get? c = some o ∧ H1 c = none := fun c hm => by
    obtain ⟨o, ho⟩ := hc c hm
    have hg : s.heap.get? c = some o := (hok c _ ho).1
    exact ⟨o, ho, hg, un.keep c o hg (er_in hm) (fun z => by rw [hfr c z] at ho; cases ho) (by simp), un.free c o hg (er_in hm) (by simp)⟩
  have en : ∀ b, H b = none → er H cs b = none := fun b e => by by_cases hm : b ∈ cs <;> simp [er, hm, e]
  have eo : ∀ b, H b = none → b ∉ cs := fun b e z => by obtain ⟨o, ho⟩ := hc b z; rw [e] at ho; cases ho
  refine ⟨v, rs H H1 cs, h1, h2, ⟨fun b o e n => un.keep b o e (en b n), fun b o e n => un.slot b o e (en b n), fun b o e n hx => by rw [rs_out (eo b n)]; exact un.free b o e (en b n) hx, un.there, fun b xs e => ?_, fun b o u e => ?_, fun b ps e => ?_⟩, fun b u e => ?_, r, hq v H1 q⟩
  · have hm := hc.out e (fun _ z => by cases z)
    rw [rs_out hm]
    exact un.tups b xs (by rw [er_out hm]; exact e)
  · have hm := hc.out e (fun _ z => by cases z)
    rw [rs_out hm]
    exact un.frzs b o u (by rw [er_out hm]; exact e)
  · have hm := hc.out e (fun _ z => by cases z)
    rw [rs_out hm]
    exact un.tbls b ps (by rw [er_out hm]; exact e)
  · by_cases hm : b ∈ cs
    · obtain ⟨o, ho, _, hg, _⟩ := at_ b hm
      rw [rs_in hm, ho] at e
      cases e
      exact objX_ok hg
    · rw [rs_out hm] at e
      have up : ∀ d u, H1 d = some u → rs H H1 cs d = some u := fun d u e => by
        by_cases hd : d ∈ cs
        · obtain ⟨_, _, _, _, z⟩ := at_ d hd
          rw [z] at e; cases e
        · rw [rs_out hd]; exact e
      exact (ok b u e).stay (fun _ _ _ q => q) (fun d e => up d _ e) fun d xs e => up d _ e
theorem cx_rs (hc : Objs H cs) (hfr : ∀ b ∈ frs outer, H b = none) (hok : HOk P w H s.heap) (h : L2.CX P w outer (er H cs) s E' u s') (hq : ∀ cls d H', E' cls d H' → E cls d (rs H H' cs)) : L2.CX P w outer H s E u s' := by
  obtain ⟨a, B, H1, cls, d, rfl, fl, ok, un, ha, h1, h2, q⟩ := h
  have at_ : ∀ c ∈ cs, ∃ o, H c = some (ObjX c o) ∧ s.heap.get? c = some o ∧ B.get? c = some o ∧ H1 c = none := fun c hm => by
    obtain ⟨o, ho⟩ := hc c hm
    have hg : s.heap.get? c = some o := (hok c _ ho).1
    exact ⟨o, ho, hg, un.keep c o hg (er_in hm) (fun z => by rw [hfr c z] at ho; cases ho), un.free c o hg (er_in hm)⟩
  have en : ∀ b, H b = none → er H cs b = none := fun b e => by by_cases hm : b ∈ cs <;> simp [er, hm, e]
  have eo : ∀ b, H b = none → b ∉ cs := fun b e z => by obtain ⟨o, ho⟩ := hc b z; rw [e] at ho; cases ho
  have na : a ∉ cs := fun z => by
    obtain ⟨o, _, _, hg, _⟩ := at_ a z
    rw [fl.2.1] at hg
    cases hg
  refine ⟨a, B, rs H H1 cs, cls, d, rfl, fl, fun b u e => ?_, ⟨fun b o e n => un.keep b o e (en b n), un.slot, fun b o e n => by rw [rs_out (eo b n)]; exact un.free b o e (en b n), un.there, fun b xs e => ?_, fun b o u e => ?_, fun b ps e => ?_⟩, by rw [rs_out na]; exact ha, h1, h2, hq cls d H1 q⟩
  · by_cases hm : b ∈ cs
    · obtain ⟨o, ho, _, hg, _⟩ := at_ b hm
      rw [rs_in hm, ho] at e
      cases e
      exact objX_ok hg
    · rw [rs_out hm] at e
      have up : ∀ d u, H1 d = some u → rs H H1 cs d = some u := fun d u e => by
        by_cases hd : d ∈ cs
        · obtain ⟨_, _, _, _, z⟩ := at_ d hd
          rw [z] at e; cases e
        · rw [rs_out hd]; exact e
      exact (ok b u e).stay (fun _ _ _ q => q) (fun d e => up d _ e) fun d xs e => up d _ e
  · have hm := hc.out e (fun _ z => by cases z)
    rw [rs_out hm]
    exact un.tups b xs (by rw [er_out hm]; exact e)
  · have hm := hc.out e (fun _ z => by cases z)
    rw [rs_out hm]
    exact un.frzs b o u (by rw [er_out hm]; exact e)
  · have hm := hc.out e (fun _ z => by cases z)
    rw [rs_out hm]
    exact un.tbls b ps (by rw [er_out hm]; exact e)
/-- the cells lent are back -/
theorem ce_lend {c : Addr} {o : Obj} (hn : H c = none) (hg : s.heap.get? c = some o) (h : CE outer P w (upd H c (ObjX c o)) s (fun v H' => H' c = some (ObjX c o) ∧ Q v (er H' [c])) u s') : CE outer P w H s Q u s' := by
  obtain ⟨v, H1, h1, h2, un, ok, r, hc, q⟩ := h
  have gc : s'.heap.get? c = some o := (ok c _ hc).1
  have un' : ∀ b, H b = none → b ≠ c → upd H c (ObjX c o) b = none := fun b e n => by rw [upd_ne n]; exact e
  refine ⟨v, er H1 [c], h1, h2, ⟨fun b ob e n hf hx => ?_, fun b ob e n hf hx => ?_, fun b ob e n hx => ?_, un.there, fun b xs e => ?_, fun b ob u e => ?_, fun b ps e => ?_⟩, fun b u e => ?_, r, q⟩
  · by_cases hb : b = c
    · subst hb
      rw [hg] at e
      cases e
      exact gc
    · exact un.keep b ob e (un' b n hb) hf hx
  · by_cases hb : b = c
    · subst hb
      rw [hg] at e
      cases e
      exact ⟨o.slots, gc⟩
    · exact un.slot b ob e (un' b n hb) hf hx
  · by_cases hb : b = c
    · subst hb; exact er_in (by simp)
    · rw [er_out (by simpa using hb)]
      exact un.free b ob e (un' b n hb) hx
  · have hb : b ≠ c := ne_of_none e hn
    rw [er_out (by simpa using hb)]
    exact un.tups b xs (by rw [upd_ne hb]; exact e)
  · have hb : b ≠ c := ne_of_none e hn
    rw [er_out (by simpa using hb)]
    exact un.frzs b ob u (by rw [upd_ne hb]; exact e)
  · have hb : b ≠ c := ne_of_none e hn
    rw [er_out (by simpa using hb)]
    exact un.tbls b ps (by rw [upd_ne hb]; exact e)
  · by_cases hb : b = c
    · subst hb
      rw [er_in (by simp)] at e
      cases e
    · rw [er_out (by simpa using hb)] at e
      have up : ∀ d u, H1 d = some u → (∀ φ, u ≠ .ext φ) → er H1 [c] d = some u := fun d u e n => by
        have : d ≠ c := fun z => by
          subst z
          rw [e] at hc
          exact objX_is n (Option.some.inj hc).symm
        rw [er_out (by simpa using this)]
        exact e
      exact (ok b u e).stay (fun _ _ _ q => q) (fun d e => up d _ e (fun _ z => by cases z)) fun d xs e => up d _ e (fun _ z => by cases z)
end
/-- parameters ps, the captured ones cs, globals -/
structure LamQ (scope : Scope) (ps cs : List PySem.Str) : Prop where
  kind : scope.kind = .function
  co : scope.isCoroutine = false
  gen : scope.isGenerator = false
  own : ∀ y ∈ scope.names, y.2 ≠ .cell ∧ (y.2 = .local → y.1 ∈ ps) ∧ (y.2 = .free → y.1 ∈ cs)
  par : ∀ p ∈ ps, scope.names.lookup p = some .local
  cap : ∀ p ∈ cs, scope.names.lookup p = some .free
  np : ps.Nodup
  nc : cs.Nodup
def lamQB (scope : Scope) (ps cs : List PySem.Str) : Bool :=
  decide (scope.kind = .function) && !scope.isCoroutine && !scope.isGenerator && (scope.names.all fun y => !decide (y.2 = .cell) && (!decide (y.2 = .local) || decide (y.1 ∈ ps)) && (!decide (y.2 = .free) || decide (y.1 ∈ cs))) && (ps.all fun p => decide (scope.names.lookup p = some .local)) && (cs.all fun p => decide (scope.names.lookup p = some .free)) && decide ps.Nodup && decide cs.Nodup
theorem lamQ_by {scope : Scope} {ps cs : List PySem.Str} (h : lamQB scope ps cs = true) : LamQ scope ps cs := by
  unfold lamQB at h
  simp only [Bool.and_eq_true, Bool.or_eq_true, Bool.not_eq_true', decide_eq_true_eq, decide_eq_false_iff_not, List.all_eq_true] at h
  obtain ⟨⟨⟨⟨⟨⟨⟨h1, h2⟩, h3⟩, h4⟩, h5⟩, h6⟩, h7⟩, h8⟩ := h
  exact ⟨h1, h2, h3, fun y hy => ⟨(h4 y hy).1.1, fun e => (h4 y hy).1.2.resolve_left fun z => z e, fun e => (h4 y hy).2.resolve_left fun z => z e⟩, h5, h6, h7, h8⟩
/-- a captured name, its cell, its thing -/
structure Cap where
  y : PySem.Str
  c : Addr
  v : V
abbrev lamEnvQ (q : PySem.Str) (scope : Scope) (L f c' : Addr) (cap : List Cap) : Env := PySem.W.envX q scope L f (.ref c') (cap.map fun p => (p.y, p.c))
def lamCxQ (P : Program) (w : World) (K : PySem.W.Frag) (mg : PySem.Str → Option Value) (base : Heap) (A : Around) (outer : List Env) (s : Shared) (H : Hp) (E : XK) (q : PySem.Str) (scope : Scope) (f c' : Addr) (ps : List PySem.Str) (cap : List Cap) : Cx where
  prog := P
  w := w
  K := K
  mg := mg
  base := base
  A := A.deeper (lamEnvQ q scope s.heap.objs.size f c' cap)
  N := ps ++ cap.map (·.y)
  s_0 := s
  H_0 := H
  env := lamEnvQ q scope s.heap.objs.size f c' cap
  outer := outer
  stack := lamEnvQ q scope s.heap.objs.size f c' cap :: outer
  ex := []
  fn := fun _ => false
  calm := true
  pn := []
  xe := fun e s' => wpAny (model P w) (A.deeper (lamEnvQ q scope s.heap.objs.size f c' cap)) (leaving (lamEnvQ q scope s.heap.objs.size f c' cap) e) (fun _ s'' => L2.CX P w outer H s E e s'') (fun e' s'' => L2.CX P w outer H s E e' s'') s'
theorem passLamQ {P : Program} {w : World} {K : PySem.W.Frag} {mg : PySem.Str → Option Value} {base : Heap} {A : Around} {outer : List Env} {s : Shared} {H : Hp} {E : XK} {q : PySem.Str} {scope : Scope} {f c' : Addr} {ps : List PySem.Str} {cap : List Cap} : Passes (L2N.CX P w) (lamCxQ P w K mg base A outer s H E q scope f c' ps cap) E :=
  fun pins σ H' s' e s'' I c => L2.passes_call (X := lamCxQ P w K mg base A outer s H E q scope f c' ps cap) (W := fun cls d _ H => E cls d H) (L2.takes_of (E := E) rfl rfl rfl rfl) (fun _ _ _ _ h => h) pins σ H' s' e s'' I (cxN_cx c)
theorem look_map {cap : List Cap} {y : PySem.Str} {c : Addr} (h : (cap.map fun p => (p.y, p.c)).lookup y = some c) : ∃ p ∈ cap, p.y = y ∧ p.c = c := by
  have := PySem.mem_of_lookup h
  obtain ⟨p, hp, e⟩ := List.mem_map.mp this
  cases e
  exact ⟨p, hp, rfl, rfl⟩
theorem look_has {cap : List Cap} (hn : (cap.map (·.y)).Nodup) {p : Cap} (hp : p ∈ cap) : (cap.map fun p => (p.y, p.c)).lookup p.y = some p.c := by
  induction cap with
  | nil => cases hp
  | cons a r ih =>
    rw [List.map_cons, List.nodup_cons] at hn
    rw [List.map_cons, List.lookup_cons]
    rcases List.mem_cons.mp hp with rfl | hp
    · simp
    · have : (p.y == a.y) = false := by
        rw [beq_eq_false_iff_ne]
        intro z
        exact hn.1 (z ▸ List.mem_map.mpr ⟨p, hp, rfl⟩)
      rw [this]
      exact ih hn.2 hp
/-- a captured thing stands in the heap -/
def CapAt (H : Hp) (p : Cap) : Prop := ∃ o u, H p.c = some (ObjX p.c o) ∧ o.data = .cell (some u) ∧ RelV p.v u
structure Caps (H : Hp) (cap : List Cap) : Prop where
  at_ : ∀ p ∈ cap, CapAt H p
  inj : (cap.map (·.c)).Nodup
theorem Caps.objs {H : Hp} {cap : List Cap} (h : Caps H cap) : Objs H (cap.map (·.c)) := fun c hc => by
  obtain ⟨p, hp, rfl⟩ := List.mem_map.mp hc
  obtain ⟨o, u, e, _⟩ := h.at_ p hp
  exact ⟨o, e⟩
theorem Caps.ext {H H' : Hp} {cap : List Cap} (h : Caps H cap) (e : ExtN H H') : Caps H' cap := ⟨fun p hp => by
  obtain ⟨o, u, e1, e2, e3⟩ := h.at_ p hp
  exact ⟨o, u, e _ _ e1 objX_ne, e2, e3⟩, h.inj⟩
theorem Caps.nil {H : Hp} : Caps H [] := ⟨fun p hp => (nomatch hp), .nil⟩
section
variable {P : Program} {w : World} {K : PySem.W.Frag} {mg : PySem.Str → Option Value} {base : Heap} {A : Around} {outer : List Env} {s : Shared} {H : Hp} {E : XK} {q : PySem.Str} {scope : Scope} {f c' : Addr} {ps : List PySem.Str} {cap : List Cap}
theorem nodup_inj {cap : List Cap} (h : (cap.map (·.c)).Nodup) {p r : Cap} (hp : p ∈ cap) (hr : r ∈ cap) (e : p.c = r.c) : p = r := by
  induction cap with
  | nil => cases hp
  | cons a l ih =>
    rw [List.map_cons, List.nodup_cons] at h
    rcases List.mem_cons.mp hp with h1 | h1
    · rcases List.mem_cons.mp hr with h2 | h2
      · rw [h1, h2]
      · exact absurd (by rw [← h1, e]; exact List.mem_map.mpr ⟨r, h2, rfl⟩) h.1
    · rcases List.mem_cons.mp hr with h2 | h2
      · exact absurd (by rw [← h2, ← e]; exact List.mem_map.mpr ⟨p, h1, rfl⟩) h.1
      · exact ih h.2 h1 h2
theorem lam_startQ {h₁ : Heap} {tk : Nat} {us : List Value} {vs : List V} (L : LamQ scope ps (cap.map (·.y))) (hC : Caps H cap) (hl : vs.length = ps.length) (rv : Vals vs us) (e0 : Env0 P w K mg base A outer s H) (hd : A.handled = none)
    (hns : h₁.Ns s.heap.objs.size fun y => (ps.zip us).reverse.lookup y) (kp : ∀ b o, s.heap.get? b = some o → h₁.get? b = some o) :
    Inv (lamCxQ P w K mg base A outer s (er H (cap.map (·.c))) E q scope f c' ps cap) [] (vs.map some ++ cap.map (fun p => some p.v)) (er H (cap.map (·.c))) { s with heap := h₁, toks := tk } := by
  have noA : ∀ b : Addr, b ∉ (lamCxQ P w K mg base A outer s (er H (cap.map (·.c))) E q scope f c' ps cap).ex := fun b z => nomatch (show b ∈ ([] : List Addr) from z)
  have en : ∀ b, H b = none → er H (cap.map (·.c)) b = none := fun b e => by by_cases hm : b ∈ cap.map (·.c) <;> simp [er, hm, e]
  have cellAt : ∀ p ∈ cap, ∃ u, RelV p.v u ∧ h₁.IsCell p.c (some u) := fun p hp => by
    obtain ⟨o, u, e1, e2, e3⟩ := hC.at_ p hp
    exact ⟨u, e3, o, kp _ _ (e0.hok _ _ e1).1, e2⟩
  have hok' : HOk P w (er H (cap.map (·.c))) s.heap := fun b u e => by
    by_cases hm : b ∈ cap.map (·.c)
    · rw [er_in hm] at e; cases e
    · rw [er_out hm] at e
      refine (e0.hok b u e).stay (fun _ _ _ q => q) (fun d e => ?_) fun d xs e => ?_
      · rw [er_out (hC.objs.out e (fun _ z => by cases z))]; exact e
      · rw [er_out (hC.objs.out e (fun _ z => by cases z))]; exact e
  refine ⟨⟨e0.mod, L.kind, rfl, rfl, Nat.le_refl _, fun y z c e1 e2 => ?_, fun y hy => ?_, fun y c z _ => (nomatch (show false = true from z)), fun _ => hd, Around.frames_deeper e0.frames, .inr ⟨rfl, rfl⟩, fun b z => absurd z (noA b), fun b o e => ⟨(e0.bs b o e).1, en b (e0.bs b o e).2⟩, e0.bsz, fun b _ _ => noA b,
      fun b z => absurd z (noA b), e0.funs, fun b hb => en b (e0.frf b hb)⟩,
    rfl, e0.bare, Un.kept kp, ⟨_, hns, fun i y v e1 e2 e3 => ?_⟩, fun y c e => ?_, en _ (e0.hok.fresh (Nat.le_refl _)), fun y c e => ?_, fun q hq => (nomatch (show q ∈ ([] : List (Addr × Obj)) from hq)), hok'.kept kp, ?_⟩
  · obtain ⟨p, hp, rfl, e4⟩ := look_map e1
    obtain ⟨r, hr, rfl, e5⟩ := look_map e2
    rw [nodup_inj hC.inj hp hr (e4.trans e5.symm)]
  · have hy : scope.names.lookup y = some .cell ∨ scope.names.lookup y = some .free := hy
    rcases hy with hy | hy
    · exact absurd rfl (L.own _ (PySem.mem_of_lookup hy)).1
    · obtain ⟨p, hp, e⟩ := List.mem_map.mp ((L.own _ (PySem.mem_of_lookup hy)).2.2 rfl)
      cases e
      exact ⟨p.c, look_has L.nc hp⟩
  · have e1 : (ps ++ cap.map (·.y))[i]? = some y := e1
    by_cases hi : i < ps.length
    · rw [List.getElem?_append_left hi] at e1
      rw [List.getElem?_append_left (by rw [List.length_map]; omega), List.getElem?_map] at e2
      cases e4 : vs[i]? with
      | none => rw [e4] at e2; cases e2
      | some v' =>
        rw [e4] at e2
        have ev : v' = v := Option.some.inj (Option.some.inj e2)
        subst ev
        obtain ⟨u, hu, ru⟩ := rv.get e4
        exact ⟨u, ru, .inl ⟨L.par _ (List.mem_of_getElem? e1), lookup_zip L.np e1 hu⟩⟩
    · rw [List.getElem?_append_right (by omega), List.getElem?_map] at e1
      rw [List.getElem?_append_right (by rw [List.length_map]; omega), List.length_map, hl, List.getElem?_map] at e2
      cases e4 : cap[i - ps.length]? with
      | none => rw [e4] at e1; cases e1
      | some p =>
        rw [e4] at e1 e2
        have e1 : p.y = y := Option.some.inj e1
        have e2 : p.v = v := Option.some.inj (Option.some.inj e2)
        subst e1 e2
        have hp := List.mem_of_getElem? e4
        obtain ⟨u, ru, hc⟩ := cellAt p hp
        exact ⟨u, ru, .inr ⟨.inr (L.cap _ (List.mem_map.mpr ⟨p, hp, rfl⟩)), p.c, look_has L.nc hp, hc⟩⟩
  · obtain ⟨p, hp, rfl, rfl⟩ := look_map e
    obtain ⟨u, ru, hc⟩ := cellAt p hp
    exact ⟨_, hc⟩
  · obtain ⟨p, hp, rfl, rfl⟩ := look_map e
    exact er_in (List.mem_map.mpr ⟨p, hp, rfl⟩)
  · show (vs.map some ++ cap.map (fun p => some p.v)).length = (ps ++ cap.map (·.y)).length
    rw [List.length_append, List.length_append, List.length_map, List.length_map, List.length_map, hl]
end
/-- a lambda that keeps sp, from H on -/
structure LamIs (P : Program) (w : World) (K : PySem.W.Frag) (mg : PySem.Str → Option Value) (base : Heap) (k n : Nat) (sp : Sp) (f : Addr) (H : Hp) : Prop where
  fn : ∃ oc od fd sl, H f = some (ObjX f ⟨oc, od, .func fd, sl⟩)
  run : ∀ H', ExtN H H' → ∀ (A : Around) (outer : List Env) (s : Shared) (us : List Value) (vs : List V) (Q : VK) (E : XK), Room k A → Env0 P w K mg base A outer s H' → Vals vs us → vs.length = n → sp vs H' Q E →
    codeAny (model P w) A (.call (.ref f) ⟨us, []⟩) (CR (L2.CX P w) outer P w H' s Q E) s
theorem LamIs.ext {P : Program} {w : World} {K : PySem.W.Frag} {mg : PySem.Str → Option Value} {base : Heap} {k n : Nat} {sp : Sp} {f : Addr} {H H1 : Hp} (h : LamIs P w K mg base k n sp f H) (e : ExtN H H1) : LamIs P w K mg base k n sp f H1 :=
  ⟨by obtain ⟨a, b, c, d, z⟩ := h.fn; exact ⟨a, b, c, d, e _ _ z objX_ne⟩, fun H' e' => h.run H' (e.trans e')⟩
/-- what a lambda does: t, with its cells out of sight -/
def lamSp (cap : List Cap) (t : XK → TE) : Sp := fun vs H Q E => t (fun cls d H' => E cls d (rs H H' (cap.map (·.c)))) (vs.map some ++ cap.map (fun p => some p.v)) (er H (cap.map (·.c))) (fun v H' => Q v (rs H H' (cap.map (·.c))))
theorem lamIs_mk {P : Program} {w : World} {K : PySem.W.Frag} {mg : PySem.Str → Option Value} {base : Heap} {k : Nat} {f c' : Addr} {q : PySem.Str} {params : Arguments} {body : Expr} {scope : Scope} {ps : List PySem.Str} {cap : List Cap} {pm ctv : Value} {H : Hp} {t : XK → TE}
    (L : LamQ scope ps (cap.map (·.y))) (hf : H f = some (ObjX f (PySem.W.kla_obj "<lambda>" q params body scope (cap.map fun p => (p.y, p.c)) pm c' ctv))) (hco : H c' = some (CodeO c' q)) (hC : Caps H cap)
    (hbind : ∀ (us : List Value), us.length = ps.length → bindArgs (PySem.W.kla_fn "<lambda>" q params body scope (cap.map fun p => (p.y, p.c)) pm (.ref c') ctv) ⟨us, []⟩ = pure (ps.zip us))
    (hbody : ∀ (E : XK) (A : Around) (outer : List Env) (s : Shared) (H : Hp), Room k (A.deeper (lamEnvQ q scope s.heap.objs.size f c' cap)) → PE (lamCxQ P w K mg base A outer s H E q scope f c' ps cap) body (t E)) :
    LamIs P w K mg base (k + 1) ps.length (lamSp cap t) f H := by
  refine ⟨⟨_, _, _, _, hf⟩, fun H' e A outer s us vs Q E hr e0 rv hl hsp => ?_⟩
  have hC' := hC.ext e
  have hf' := e _ _ hf objX_ne
  have hco' := e _ _ hco codeO_ne
  have of1 := (e0.hok f _ hf').1
  obtain ⟨⟨oc, vs', t', hoc, hdc, hvc⟩, _, _⟩ := e0.hok c' _ hco'
  have KX : K.In s.heap := e0.mod.kin.keeps fun b o e => (e0.bs b o e).1
  have lim : s.heap.NoLimit := e0.mod.nolimit.keeps fun b o e => (e0.bs b o e).1
  have hul : us.length = ps.length := by rw [← rv.length]; exact hl
  refine PySem.W.kla_callFunE hr.depth of1 rfl L.co L.gen rfl ⟨c', oc, vs', t', rfl, hoc, hdc, hvc⟩ ?_
  rw [hbind us hul]
  refine wpAny_pure (wpAny_newFunctionEnv (fun y hy => (L.own y hy).1) (fun y hy => L.par _ (List.of_mem_zip hy).1) (fun h₁ hns hsb => ⟨lim.fresh _ hsb, ?_⟩) L.kind)
  have kp : ∀ b o, s.heap.get? b = some o → h₁.get? b = some o := fun b o e => hsb.extBut b o (Nat.ne_of_lt (Heap.lt_size e)) (Heap.get?_push_of_some _ e)
  have J := lam_startQ (E := fun cls d H'' => E cls d (rs H' H'' (cap.map (·.c)))) (q := q) (f := f) (c' := c') (tk := s.toks + (ps.zip us).length) L hC' hl rv e0 hr.hd hns kp
  refine PySem.W.kla_codeExpr (wpAny_mono ((hbody _ A outer s _ (hr.deeper _)).run [] _ _ _ _ J hsp) (fun v s' ⟨w', H'', J', rv, q⟩ => ?_) fun e s' hq => ?_)
  · exact ce_rs hC'.objs e0.frf e0.hok ⟨w', H'', J'.os, J'.bare, J'.base, J'.hok, rv, q⟩ (fun _ _ h => h)
  · exact wpAny_mono hq (fun _ _ h => cx_rs hC'.objs e0.frf e0.hok h (fun _ _ _ h => h)) (fun _ _ h => cx_rs hC'.objs e0.frf e0.hok h (fun _ _ _ h => h))
section
variable {X : Cx}
/-- a lambda that captures nothing -/
def tLamE (P : Program) (w : World) (K : PySem.W.Frag) (mg : PySem.Str → Option Value) (base : Heap) (T : List (Addr × PySem.Str)) (k n : Nat) (t : XK → TE) : TE := fun _ H Q => Tabs T H ∧ ∀ f H2, ExtN H H2 → Tabs T H2 → LamIs P w K mg base k n (fun vs H Q E => t E (vs.map some) H Q) f H2 → Q (.ref f) H2
theorem lamSp_nil {t : XK → TE} : lamSp [] t = fun vs H Q E => t E (vs.map some) H Q := by
  funext vs H Q E
  unfold lamSp
  simp only [List.map_nil, List.append_nil, er_nil, rs_nil]
theorem pe_lamE {T : List (Addr × PySem.Str)} {c P : Addr} {k : Nat} {params : Arguments} {body : Expr} {scope : Scope} {ps : List PySem.Str} {t : XK → TE} {pos : Pos} (TB : TabB X.base X.mg c P) (hcode : X.env.code = .ref c) (hmT : (P, X.env.qual ++ "<lambda>") ∈ T) (hu : ∀ p ∈ T, p.1 = P → p.2 = X.env.qual ++ "<lambda>")
    (L : LamQ scope ps []) (hdef : defaultsOf params X.env = ([], []))
    (hbind : ∀ (q : PySem.Str) (cl : List (PySem.Str × Addr)) (pm cv ctv : Value) (us : List Value), us.length = ps.length → bindArgs (PySem.W.kla_fn "<lambda>" q params body scope cl pm cv ctv) ⟨us, []⟩ = pure (ps.zip us))
    (hbody : ∀ (f c' : Addr) (E : XK) (A : Around) (outer : List Env) (s : Shared) (H : Hp), Room k (A.deeper (lamEnvQ (X.env.qual ++ "<lambda>") scope s.heap.objs.size f c' [])) → PE (lamCxQ X.prog X.w X.K X.mg X.base A outer s H E (X.env.qual ++ "<lambda>") scope f c' ps []) body (t E)) :
    PE X (.Lambda params body scope pos) (tLamE X.prog X.w X.K X.mg X.base T (k + 1) ps.length t) := by
  refine ⟨fun pins s σ H Q I ⟨hT, h⟩ => ?_⟩
  have nofree : ∀ y ∈ scope.names, y.2 ≠ .free := fun y hy e => nomatch (L.own y hy).2.2 e
  have cl0 : ∀ (names : List (PySem.Str × NameKind)) (acc : List (PySem.Str × Addr)), (∀ y ∈ names, y.2 ≠ .free) → cloFrom X.env.cells names acc = acc := by
    intro names
    induction names with
    | nil => intro acc _; rfl
    | cons a r ih =>
      intro acc hn
      obtain ⟨n, kd⟩ := a
      unfold cloFrom
      rw [if_neg (by simpa using hn _ (List.mem_cons_self))]
      exact ih acc fun y hy => hn y (List.mem_cons_of_mem _ hy)
  refine lam_make3 I TB hcode hmT hu hT hdef (fun y hy e => absurd e (nofree y hy)) fun f c' pm ctv H1 s' I1 eN T1 hfn hco => ?_
  rw [cl0 scope.names [] nofree] at I1
  have e2 : Same H1 (upd H1 f (ObjX f (PySem.W.kla_obj "<lambda>" (X.env.qual ++ "<lambda>") params body scope [] pm c' ctv))) := same_new hfn
  refine ⟨.ref f, _, I1, rfl, h f _ (eN.trans (ext_same e2)) (T1.ext e2) ?_⟩
  have := lamIs_mk (P := X.prog) (w := X.w) (K := X.K) (mg := X.mg) (base := X.base) (cap := []) (t := t) L upd_same (e2 _ _ hco) Caps.nil (hbind _ _ _ _ _) (fun E A outer s H hr => hbody f c' E A outer s H hr)
  rw [lamSp_nil] at this
  exact this
theorem k_lamE {P : Program} {w : World} {K : PySem.W.Frag} {mg : PySem.Str → Option Value} {base : Heap} {T : List (Addr × PySem.Str)} {c Pt : Addr} {k : Nat} {params : Arguments} {body : Expr} {scope : Scope} {ps : List PySem.Str} {t : XK → TE} {pos : Pos} {q : PySem.Str} (eP : X.prog = P) (ew : X.w = w) (eK : X.K = K) (em : X.mg = mg) (eb : X.base = base) (eq : X.env.qual ++ "<lambda>" = q) (TB : TabB base mg c Pt) (hcode : X.env.code = .ref c) (hmT : (Pt, q) ∈ T) (hu : ∀ p ∈ T, p.1 = Pt → p.2 = q)
    (L : LamQ scope ps []) (hdef : defaultsOf params X.env = ([], []))
    (hbind : ∀ (q : PySem.Str) (cl : List (PySem.Str × Addr)) (pm cv ctv : Value) (us : List Value), us.length = ps.length → bindArgs (PySem.W.kla_fn "<lambda>" q params body scope cl pm cv ctv) ⟨us, []⟩ = pure (ps.zip us))
    (hbody : ∀ (f c' : Addr) (E : XK) (A : Around) (outer : List Env) (s : Shared) (H : Hp), Room k (A.deeper (lamEnvQ q scope s.heap.objs.size f c' [])) → PE (lamCxQ P w K mg base A outer s H E q scope f c' ps []) body (t E)) :
    PE X (.Lambda params body scope pos) (tLamE P w K mg base T (k + 1) ps.length t) := by
  subst eP ew eK em eb eq
  exact pe_lamE TB hcode hmT hu L hdef hbind hbody
/-- a call of a local that holds such a lambda -/
def tCallLam (P : Program) (w : World) (K : PySem.W.Frag) (mg : PySem.Str → Option Value) (base : Heap) (k i : Nat) (W : WX) (t : TA) : TE := fun σ H Q =>
  ∃ f sp n, σ[i]? = some (some (.ref f)) ∧ LamIs P w K mg base k n sp f H ∧ t σ H fun vs H1 => ExtN H H1 ∧ vs.length = n ∧ sp vs H1 Q (fun cls d H' => W cls d σ H')
theorem k_callLam {P : Program} {w : World} {K : PySem.W.Frag} {mg : PySem.Str → Option Value} {base : Heap} {k i : Nat} {x : PySem.Str} {W : WX} {p pos : Pos} {e : Expr} {es : List Expr} {t : TA} (eP : X.prog = P) (ew : X.w = w) (eK : X.K = K) (em : X.mg = mg) (eb : X.base = base) (tk : L2.Takes X W) (hr : Room k X.A) (hN : X.N[i]? = some x) (hv : Vis X.env.scope x) (ha : PA X (e :: es) t)
    (hdb : (x == ("__debug__" : PySem.Str)) = false := by decide) (hcd : (x == ("__classdict__" : PySem.Str)) = false := by decide)
    (he : starEach (e :: es) X.env = (false, eval e X.env) :: starEach es X.env := by rfl) (hpl : (backTo pos (starEach es X.env)).any (·.1) = false := by rfl) : PE X (.Call (.Name x p) (e :: es) [] pos) (tCallLam P w K mg base k i W t) := by
  subst eP ew eK em eb
  refine ⟨fun pins s σ H Q I h => ?_⟩
  obtain ⟨f, sp, n, hs, F, ht⟩ := h
  refine wpAny_Call_Name_kw (thn ((pe_var (pos := p) hN hv hdb hcd).run pins s σ H (fun v H1 => v = .ref f ∧ H1 = H) I ⟨.ref f, hs, rfl, rfl⟩) fun u s1 ⟨v, H1, I1, r1, q1⟩ => ?_)
  obtain ⟨rfl, rfl⟩ := q1
  obtain rfl : u = Value.ref f := r1
  have at_ : ∀ {H : Hp} {s : Shared}, Inv X pins σ H s → ExtN H1 H → PySem.W.FnAt f s.heap := fun I e => by
    obtain ⟨oc, od, fd, sl, hf⟩ := F.fn
    exact ⟨oc, od, fd, sl, (I.hok f _ (e _ _ hf objX_ne)).1⟩
  refine PySem.W.callWith_F (at_ I1 (ExtN.refl _)) (thn (ha.run pos pins s1 σ _ _ I1 ht) fun us s2 ⟨vs, H2, I2, r, e2, hl, q⟩ => ⟨at_ I2 e2, ?_⟩) he hpl
  refine wpAny_call (codeAny_mono (F.run H2 e2 X.A X.stack s2 us vs Q _ hr I2.env0 r hl q) fun r s' hq => ?_)
  match r, hq with
  | .error e, hq => exact tk e s' (L2.XE.of_call I2 (fun cls d H' h => h) hq)
  | .ok (.ret u), hq => exact I2.after hq
end
end G66
namespace G66
open PySem PySem.Spec PySem.Calls PyProof.Rows L2 LamX
/-! a lambda that captures a name of the def that runs, handed to a def beside a thing: the cell is lent -/
section
variable {X : Cx} {pins : List (Addr × Obj)} {σ : L2.St} {H : Hp} {s : Shared}
theorem env0_lend {y : PySem.Str} {c : Addr} {o : Obj} (I : Inv X pins σ H s) (hfn : X.fn y = true) (hc : X.env.cells.lookup y = some c) (hg : s.heap.get? c = some o) : Env0 X.prog X.w X.K X.mg X.base X.A X.stack s (upd H c (ObjX c o)) := by
  have e := I.env0
  have hcn : H c = none := I.freeC y c hc
  have ge : X.s_0.heap.objs.size ≤ c := I.ok.cab y c hfn hc
  refine ⟨e.frames, e.mod, fun b ob h => ⟨(e.bs b ob h).1, ?_⟩, e.bsz, e.funs, fun b hb => ?_, fun b u h => ?_, e.bare⟩
  · have hb : b ≠ c := fun z => by
      rw [z] at h
      exact Nat.lt_irrefl _ (Nat.lt_of_lt_of_le (Heap.lt_size h) (Nat.le_trans I.ok.bsz ge))
    rw [upd_ne hb]
    exact (e.bs b ob h).2
  · have hb2 : b ≠ c := fun z => by
      subst z
      rcases List.mem_cons.mp (I.stkSub _ hb) with e1 | e1
      · exact I.cne y _ hc e1
      · obtain ⟨_, ob, ho, _⟩ := I.ok.funs.mem e1
        exact Nat.lt_irrefl _ (Nat.lt_of_lt_of_le (Heap.lt_size ho) ge)
    rw [upd_ne hb2]
    exact e.frf b hb
  · by_cases hb : b = c
    · subst hb
      rw [upd_same] at h
      cases h
      exact objX_ok hg
    · rw [upd_ne hb] at h
      refine (I.hok b u h).stay (fun _ _ _ q => q) (fun d e => ?_) fun d xs e => ?_
      · rw [upd_ne (ne_of_none e hcn)]; exact e
      · rw [upd_ne (ne_of_none e hcn)]; exact e
theorem tabs_er {P : Program} {w : World} {T : List (Addr × PySem.Str)} {c : Addr} {o : Obj} {u : Option Value} {h : Heap} (hT : Tabs T H) (ok : HOk P w H h) (hc : H c = some (ObjX c o)) (hd : o.data = .cell u) : Tabs T (er H [c]) := fun p hp => by
  obtain ⟨ps, h1, h2, h3⟩ := hT p hp
  have n1 : p.1 ≠ c := fun z => by
    rw [z, hc] at h1
    exact objX_ne _ (Option.some.inj h1)
  refine ⟨ps, by rw [er_out (by simpa using n1)]; exact h1, h2, fun pos cv e => ?_⟩
  obtain ⟨c0, e1, e2⟩ := h3 pos cv e
  have n2 : c0 ≠ c := fun z => by
    subst z
    obtain ⟨⟨oc, vs, t, hoc, hdc, _⟩, _, _⟩ := ok c0 _ e2
    have this : h.get? c0 = some o := (ok c0 _ hc).1
    rw [hoc] at this
    cases this
    rw [hdc] at hd
    cases hd
  exact ⟨c0, e1, by rw [er_out (by simpa using n2)]; exact e2⟩
end
def tLamW (P : Program) (w : World) (K : PySem.W.Frag) (mg : PySem.Str → Option Value) (base : Heap) (T : List (Addr × PySem.Str)) (k n i : Nat) (y : PySem.Str) (spx : Sp) (te2 : TE) (t : XK → TE) : TE := fun σ H Q =>
  Tabs T H ∧ ∃ v, σ[i]? = some (some v) ∧ ∀ H1, ExtN H H1 → Tabs T H1 → te2 σ H1 fun v2 H2 => H2 = H1 ∧ ∀ f c H3, ExtN H1 H3 → Tabs T H3 → LamIs P w K mg base k n (lamSp [⟨y, c, v⟩] t) f H3 → CapAt H3 ⟨y, c, v⟩ →
    spx [.ref f, v2] H3 (fun r H' => ExtN H3 H' ∧ Tabs T H' ∧ ∀ H4, ExtN H1 H4 → Tabs T H4 → Q r H4) E0
section
variable {X : Cx}
theorem pe_lamW {T : List (Addr × PySem.Str)} {x y : PySem.Str} {c P : Addr} {k j kk i : Nat} {psx : List PySem.Str} {spx : Sp} {params : Arguments} {body e2 : Expr} {scope : Scope} {ps : List PySem.Str} {t : XK → TE} {te2 : TE} {p lpos pos : Pos}
    (D : Df X.prog X.w X.K X.mg X.base CX0 j x psx spx) (hr : Room kk X.A) (hg : Gl X x) (hN : X.N[i]? = some y) (hyc : X.env.scope.names.lookup y = some .cell) (hfn : X.fn y = true)
    (TB : TabB X.base X.mg c P) (hcode : X.env.code = .ref c) (hmT : (P, X.env.qual ++ "<lambda>") ∈ T) (hu : ∀ p ∈ T, p.1 = P → p.2 = X.env.qual ++ "<lambda>")
    (L : LamQ scope ps [y]) (hcl : ∀ (cells : List (PySem.Str × Addr)) (c : Addr), cells.lookup y = some c → cloFrom cells scope.names [] = [(y, c)]) (hdef : defaultsOf params X.env = ([], []))
    (hbind : ∀ (q : PySem.Str) (cl : List (PySem.Str × Addr)) (pm cv ctv : Value) (us : List Value), us.length = ps.length → bindArgs (PySem.W.kla_fn "<lambda>" q params body scope cl pm cv ctv) ⟨us, []⟩ = pure (ps.zip us))
    (hbody : ∀ (f c' : Addr) (cap : Cap), cap.y = y → ∀ (E : XK) (A : Around) (outer : List Env) (s : Shared) (H : Hp), Room k (A.deeper (lamEnvQ (X.env.qual ++ "<lambda>") scope s.heap.objs.size f c' [cap])) → PE (lamCxQ X.prog X.w X.K X.mg X.base A outer s H E (X.env.qual ++ "<lambda>") scope f c' ps [cap]) body (t E))
    (he2 : PE X e2 te2) (hjk : j ≤ kk := by decide)
    (hdb : (x == ("__debug__" : PySem.Str)) = false := by decide) (hs2 : starEach [e2] X.env = [(false, eval e2 X.env)] := by rfl) :
    PE X (.Call (.Name x p) [.Lambda params body scope lpos, e2] [] pos) (tLamW X.prog X.w X.K X.mg X.base T (k + 1) ps.length i y spx te2 t) := by
  refine ⟨fun pins s σ H Q I ⟨hT, v, hv, h⟩ => ?_⟩
  obtain ⟨g, fd, F, m, kp, hb⟩ := D.ex
  have hfree : ∀ z ∈ scope.names, z.2 = .free → ∃ c, X.env.cells.lookup z.1 = some c := fun z hz e => by
    have : z.1 = y := by simpa using (L.own z hz).2.2 e
    rw [this]
    exact I.ok.has _ (.inl hyc)
  refine wpAny_Call_Name_kw (ld_glob I hg m ?_ hdb)
  refine PySem.W.callWith_K (h₀ := X.base) I.ok.mod.kin kp ?_ (by rfl) (by rw [hs2]; rfl)
  show wpAny _ _ (spliced ((false, eval (.Lambda params body scope lpos) X.env) :: backTo pos (starEach [e2] X.env))) _ _ s
  refine Calls.spliced_cons (lam_make3 I TB hcode hmT hu hT hdef hfree fun f c' pm' ctv H1 s' I1 eN T1 hfn' hco => ?_)
  rw [hs2]
  show wpAny _ _ (spliced ((false, eval e2 X.env) :: backTo pos [])) _ _ s'
  obtain ⟨cy, hcy⟩ := I.ok.has y (.inl hyc)
  rw [hcl _ cy hcy] at I1
  have sf : Same H1 (upd H1 f (ObjX f (PySem.W.kla_obj "<lambda>" (X.env.qual ++ "<lambda>") params body scope [(y, cy)] pm' c' ctv))) := same_new hfn'
  have hff : upd H1 f (ObjX f (PySem.W.kla_obj "<lambda>" (X.env.qual ++ "<lambda>") params body scope [(y, cy)] pm' c' ctv)) f = some (ObjX f (PySem.W.kla_obj "<lambda>" (X.env.qual ++ "<lambda>") params body scope [(y, cy)] pm' c' ctv)) := upd_same
  have hco2 := sf _ _ hco
  have eN2 := eN.trans (ext_same sf)
  have T2 := T1.ext sf
  generalize upd H1 f (ObjX f (PySem.W.kla_obj "<lambda>" (X.env.qual ++ "<lambda>") params body scope [(y, cy)] pm' c' ctv)) = H2 at *
  refine Calls.spliced_cons (thn (he2.run pins s' σ H2 _ I1 (h H2 eN2 T2)) fun u2 s2 ⟨v2, H2', I2, r2, e2', q2⟩ => ?_)
  subst e2'
  refine Calls.spliced_nil ⟨I2.kIn, ?_⟩
  obtain ⟨mm, hn, hloc⟩ := I2.loc
  obtain ⟨u, ru, lk⟩ := hloc i y v hN hv (.inr (.inl hyc))
  obtain ⟨o, hgo, hd⟩ : ∃ o, s2.heap.get? cy = some o ∧ o.data = .cell (some u) := by
    rcases lk with ⟨k1, _⟩ | ⟨_, c2, e2, z⟩
    · have k1 : X.env.scope.names.lookup y = some .local := k1
      rw [hyc] at k1; cases k1
    · rw [hcy] at e2
      cases e2
      obtain ⟨o, z1, z2⟩ := z
      exact ⟨o, z1, z2⟩
  have hcn := I2.freeC y cy hcy
  have s3 : Same H2' (upd H2' cy (ObjX cy o)) := same_new hcn
  have hca : CapAt (upd H2' cy (ObjX cy o)) ⟨y, cy, v⟩ := ⟨o, u, upd_same, hd, ru⟩
  have lam := lamIs_mk (P := X.prog) (w := X.w) (K := X.K) (mg := X.mg) (base := X.base) (cap := [⟨y, cy, v⟩]) (t := t) (H := upd H2' cy (ObjX cy o)) L (s3 _ _ hff) (s3 _ _ hco2) ⟨fun p hp => by rw [List.mem_singleton.mp hp]; exact hca, by simp⟩ (hbind _ _ _ _ _) (fun E A outer s H hr => hbody f c' _ rfl E A outer s H hr)
  have q3 := q2 f cy _ (ext_same s3) (T2.ext s3) lam hca
  have bs := hb s2 [.ref f, u2] I2.kIn (by have := F.len _ _ _ _ q3; simpa using this)
  rw [List.append_nil] at bs
  refine wpAny_call (codeAny_mono ((F.mono hjk).run X.A X.stack s2 _ ⟨[.ref f, u2], []⟩ [.ref f, u2] [.ref f, v2] _ _ hr (env0_lend I2 hfn hcy hgo) bs (.cons rfl (.cons r2 .nil)) q3) fun r s' hq => ?_)
  match r, hq with
  | .error e, hq => exact (show False from hq).elim
  | .ok (.ret u), hq =>
    refine I2.after (ce_lend hcn hgo ?_)
    obtain ⟨v3, H', a1, a2, a3, a4, a5, a6, a7, a8⟩ := hq
    have hc' := a6 _ _ (upd_same (H := H2') (a := cy) (o := ObjX cy o)) objX_ne
    refine ⟨v3, H', a1, a2, a3, a4, a5, hc', a8 _ (fun b ob e n => ?_) (tabs_er a7 a4 hc' hd)⟩
    have nb := ne_of_none e hcn
    rw [er_out (by simpa using nb)]
    exact a6 b ob (s3 b ob e) n
theorem k_lamW {P : Program} {w : World} {K : PySem.W.Frag} {mg : PySem.Str → Option Value} {base : Heap} {q : PySem.Str} {T : List (Addr × PySem.Str)} {x y : PySem.Str} {c Pt : Addr} {k j kk i : Nat} {psx : List PySem.Str} {spx : Sp} {params : Arguments} {body e2 : Expr} {scope : Scope} {ps : List PySem.Str} {t : XK → TE} {te2 : TE} {p lpos pos : Pos}
    (eP : X.prog = P) (ew : X.w = w) (eK : X.K = K) (em : X.mg = mg) (eb : X.base = base) (eq : X.env.qual ++ "<lambda>" = q)
    (D : Df P w K mg base CX0 j x psx spx) (hr : Room kk X.A) (hg : Gl X x) (hN : X.N[i]? = some y) (hyc : X.env.scope.names.lookup y = some .cell) (hfn : X.fn y = true)
    (TB : TabB base mg c Pt) (hcode : X.env.code = .ref c) (hmT : (Pt, q) ∈ T) (hu : ∀ p ∈ T, p.1 = Pt → p.2 = q)
    (L : LamQ scope ps [y]) (hcl : ∀ (cells : List (PySem.Str × Addr)) (c : Addr), cells.lookup y = some c → cloFrom cells scope.names [] = [(y, c)]) (hdef : defaultsOf params X.env = ([], []))
    (hbind : ∀ (q : PySem.Str) (cl : List (PySem.Str × Addr)) (pm cv ctv : Value) (us : List Value), us.length = ps.length → bindArgs (PySem.W.kla_fn "<lambda>" q params body scope cl pm cv ctv) ⟨us, []⟩ = pure (ps.zip us))
    (hbody : ∀ (f c' a : Addr) (v : V) (E : XK) (A : Around) (outer : List Env) (s : Shared) (H : Hp), Room k (A.deeper (lamEnvQ q scope s.heap.objs.size f c' [⟨y, a, v⟩])) → PE (lamCxQ P w K mg base A outer s H E q scope f c' ps [⟨y, a, v⟩]) body (t E))
    (he2 : PE X e2 te2) (hjk : j ≤ kk := by decide)
    (hdb : (x == ("__debug__" : PySem.Str)) = false := by decide) (hs2 : starEach [e2] X.env = [(false, eval e2 X.env)] := by rfl) :
    PE X (.Call (.Name x p) [.Lambda params body scope lpos, e2] [] pos) (tLamW P w K mg base T (k + 1) ps.length i y spx te2 t) := by
  subst eP ew eK em eb eq
  exact pe_lamW D hr hg hN hyc hfn TB hcode hmT hu L hcl hdef hbind (fun f c' cap e => by obtain ⟨a, b, d⟩ := cap; cases e; exact hbody f c' b d) he2 hjk hdb hs2
end
/-- what the lambda may rely on, and what is known behind it -/
theorem er_at {H : Hp} {cs : List Addr} {a : Addr} {u : HO} (hc : Objs H cs) (e : H a = some u) (n : ∀ φ, u ≠ .ext φ) : er H cs a = some u := by rw [er_out (hc.out e n)]; exact e
theorem rs_same {H H' : Hp} {cs : List Addr} (s : Same (er H cs) H') : Same H (rs H H' cs) := fun b o e => by
  by_cases hm : b ∈ cs
  · rw [rs_in hm]; exact e
  · rw [rs_out hm]; exact s b o (by rw [er_out hm]; exact e)
end G66
namespace G66
open PySem PySem.Spec PySem.Calls PyProof.Rows L2 LamX
/-! steps for lambdas in the heap; comprehensions whose values are known; texts -/
theorem Room.units65 {k : Nat} {A : Around} (r : Room k A) : A.units + 65 < cLine := by have := r.un; omega
theorem k_inD {X : Cx} {K : PySem.W.Frag} (e : X.K = K) (hu : X.A.units + 65 < cLine) : OpR X (compareOp .In) (rInD K) := e ▸ op_inD hu
theorem eqv_strs : ∀ xs ys : List PySem.Str, PyData.eqvAll (xs.map PyData.str) (ys.map PyData.str) = decide (xs = ys)
  | [], [] => by simp [PyData.eqvAll]
  | [], y :: ys => by simp [PyData.eqvAll]
  | x :: xs, [] => by simp [PyData.eqvAll]
  | x :: xs, y :: ys => by
    rw [List.map_cons, List.map_cons, PyData.eqvAll, eqv_strs xs ys]
    by_cases h1 : x = y <;> by_cases h2 : xs = ys <;> simp [PyData.eqv, h1, h2]
theorem dp_strs {K : PySem.W.Frag} {H : Hp} {p : Addr} {ns : List PySem.Str} (e : SqL K H p (ns.map V.str)) : Dp K H (.ref p) (.list (ns.map PyData.str)) := .lst e (dpAll_map (fun a => .str a) ns)
section
variable {K : PySem.W.Frag} {σ : L2.St} {H : Hp} {Q : VK} {p q : Addr}
theorem g_eqLS {bs cs : List PySem.Str} (h1 : SqL K H p (bs.map V.str)) (h2 : SqL K H q (cs.map V.str)) (s1 : SeqAt.shaped (.list (bs.map PyData.str)) = true) (s2 : SeqAt.shaped (.list (cs.map PyData.str)) = true) (h : Q (.bl (decide (bs = cs))) H) : rEqD K (.ref p) (.ref q) H Q :=
  ⟨_, _, dp_strs h1, dp_strs h2, s1, s2, by rw [show PyData.eqv (.list (bs.map PyData.str)) (.list (cs.map PyData.str)) = PyData.eqvAll (bs.map PyData.str) (cs.map PyData.str) by simp [PyData.eqv], eqv_strs]; exact h⟩
theorem g_neS {a b : PySem.Str} (h : Q (.bl (!decide (a = b))) H) : rNe (.str a) (.str b) H Q := ⟨rfl, by rw [show decide (V.str a = V.str b) = decide (a = b) by simp]; exact h⟩
theorem g_eqS {a b : PySem.Str} (h : Q (.bl (decide (a = b))) H) : rEq (.str a) (.str b) H Q := ⟨rfl, by rw [show decide (V.str a = V.str b) = decide (a = b) by simp]; exact h⟩
theorem g_neT2 {a b c d : Int} (h1 : SqT K H p [.int a, .int b]) (h2 : SqT K H q [.int c, .int d]) (h : Q (.bl (!decide (a = c ∧ b = d))) H) : rNeD K (.ref p) (.ref q) H Q := by
  have sh : ∀ x y : Int, SeqAt.shaped (.tuple [.int x, .int y]) = true := fun x y => rfl
  refine ⟨.tuple [.int a, .int b], .tuple [.int c, .int d], .tup h1 (.cons (.int _) (.cons (.int _) .nil)), .tup h2 (.cons (.int _) (.cons (.int _) .nil)), sh _ _, sh _ _, ?_⟩
  have : PyData.eqv (.tuple [.int a, .int b]) (.tuple [.int c, .int d]) = decide (a = c ∧ b = d) := by
    simp only [PyData.eqv, PyData.eqvAll]
    by_cases e1 : a = c <;> by_cases e2 : b = d <;> simp [e1, e2]
  rw [this]
  exact h
/-- a list of ints among the threes -/
theorem g_inTs {a b : Addr} {t : T3} {ts : List T3} (h1 : SqL K H a (t.l.map V.int)) (h2 : Ts K H b ts) (hm : t ∈ ts) (h : Q (.bl true) H) : rInD K (.ref a) (.ref b) H Q := by
  refine ⟨dT3 t, ts.map dT3, dp_ints h1, h2.dp, coded_t3.shaped (by decide) t, coded_t3.list.shaped (by decide) ts, ?_⟩
  have : ((ts.map dT3).any fun z => PyData.eqv z (dT3 t)) = true := by
    rw [List.any_eq_true]
    exact ⟨dT3 t, List.mem_map.mpr ⟨t, hm, rfl⟩, by rw [coded_t3.eq]; simp⟩
  rw [this]
  exact h
theorem g_lamE {P : Program} {w : World} {mg : PySem.Str → Option Value} {base : Heap} {T : List (Addr × PySem.Str)} {k n : Nat} {t : XK → TE} (hT : Tabs T H) (h : ∀ f H2, ExtN H H2 → Tabs T H2 → LamIs P w K mg base k n (fun vs H Q E => t E (vs.map some) H Q) f H2 → Q (.ref f) H2) : tLamE P w K mg base T k n t σ H Q := ⟨hT, h⟩
theorem g_callLam {P : Program} {w : World} {mg : PySem.Str → Option Value} {base : Heap} {k i n : Nat} {W : WX} {t : TA} {f : Addr} {sp : Sp} (e : σ[i]? = some (some (.ref f))) (L : LamIs P w K mg base k n sp f H) (h : t σ H fun vs H1 => ExtN H H1 ∧ vs.length = n ∧ sp vs H1 Q (fun cls d H' => W cls d σ H')) : tCallLam P w K mg base k i W t σ H Q := ⟨f, sp, n, e, L, h⟩
end
section
variable {K : PySem.W.Frag} {σ : L2.St} {a D : Addr} {xs : List V} {g : TG} {te : TE} {vs : List Nat} {H1 : Hp} {Qd : Hp → Prop}
theorem map_snoc (f : Nat → V) (i : Nat) : (List.range (i + 1)).map f = (List.range i).map f ++ [f i] := by rw [List.range_succ, List.map_append]; rfl
/-- over a list; the i-th value is f i; G: what is kept -/
theorem lc_listV (f : Nat → V) (G : Hp → Prop) (h0 : G (upd H1 D (.lst []))) (hG : ∀ H ys zs, G H → H D = some (.lst ys) → G (upd H D (.lst zs))) (hS : ∀ H, G H → SqL K H a xs)
    (step : ∀ (i : Nat) x H', xs[i]? = some x → G H' → ∀ T : VK, (∀ H4, G H4 → Same H' H4 → T (f i) H4) → g x (wipe σ vs) H' fun σ2 H2 => wipe σ2 vs = wipe σ vs ∧ te σ2 H2 T) (hz : xs.length ≤ sizeLine)
    (hd : ∀ H', G H' → H' D = some (.lst ((List.range xs.length).map f)) → Qd H') :
    ∃ W : Nat → Nat → Hp → Prop, (∃ m, W 0 m (upd H1 D (.lst []))) ∧ ∀ i m H, W i m H →
      ((Itl K a).stop i H ∧ Qd H) ∨ ((Itl K a).go i H ∧ ∃ Nx : Hp → Prop, (∀ H', Nx H' → ∃ m', m' < m ∧ W (i + 1) m' H') ∧ ∀ x H', (Itl K a).yld i H x H' → g x (wipe σ vs) H' fun σ2 H2 => wipe σ2 vs = wipe σ vs ∧ tYes σ2 H2 fun b H3 =>
        if b = true then te σ2 H3 fun y H4 => ∃ acc, H4 D = some (.lst acc) ∧ acc.length < sizeLine ∧ Nx (upd H4 D (.lst (acc ++ [y]))) else Nx H3) := by
  refine ⟨fun i m H => m = xs.length - i ∧ i ≤ xs.length ∧ G H ∧ H D = some (.lst ((List.range i).map f)), ⟨_, rfl, Nat.zero_le _, h0, upd_same⟩, ?_⟩
  rintro i m H ⟨rfl, hi, hg, hd'⟩
  have sq := hS H hg
  by_cases lt : i < xs.length
  · refine .inr ⟨⟨xs, xs[i], sq, List.getElem?_eq_getElem lt⟩, fun H' => G H' ∧ H' D = some (.lst ((List.range (i + 1)).map f)), fun H' p' => ⟨xs.length - (i + 1), by omega, rfl, lt, p'.1, p'.2⟩, ?_⟩
    intro x H' hy
    obtain ⟨hx, rfl⟩ : xs[i]? = some x ∧ H' = H := by
      obtain ⟨e, hx⟩ := hy
      exact ⟨hx xs sq, e⟩
    have := step i x H' hx hg (fun y H4 => ∃ acc, H4 D = some (.lst acc) ∧ acc.length < sizeLine ∧ (G (upd H4 D (.lst (acc ++ [y]))) ∧ upd H4 D (.lst (acc ++ [y])) D = some (.lst ((List.range (i + 1)).map f)))) (fun H4 g4 s4 => ⟨_, s4 _ _ hd', by rw [List.length_map, List.length_range]; omega, hG _ _ _ g4 (s4 _ _ hd'), by rw [upd_same, map_snoc]⟩)
    exact this
  · obtain rfl : i = xs.length := by omega
    exact .inl ⟨⟨xs, sq, Nat.le_refl _⟩, hd H hg hd'⟩
end
end G66
namespace G66
open PySem PySem.Spec PySem.Calls PyProof.Rows L2 LamX
/-! comprehensions of any kind whose values are known -/
section
variable {K : PySem.W.Frag} {σ : L2.St} {a D : Addr} {xs : List V} {g : TG} {tt : TT} {te : TE} {vs : List Nat} {H1 : Hp} {Qd : Hp → Prop} {n : Nat} {lo : Int}
theorem fm_snoc (f : Nat → Option V) (i : Nat) : (List.range (i + 1)).filterMap f = (List.range i).filterMap f ++ (f i).toList := by
  rw [List.range_succ, List.filterMap_append]
  congr 1
theorem fm_len (f : Nat → Option V) (i : Nat) : ((List.range i).filterMap f).length ≤ i := by
  have := List.length_filterMap_le f (List.range i)
  rw [List.length_range] at this
  exact this
/-- what an item may come to -/
def Ends2 (o : Option V) (G : Hp → Prop) (H : Hp) (Yes : VK) (No : Hp → Prop) : Prop := match o with
  | some v => ∀ H4, G H4 → ExtN H H4 → Yes v H4
  | none => ∀ H4, G H4 → ExtN H H4 → No H4
theorem lc_gen {J : It} (f : Nat → Option V) (G : Hp → Prop) (h0 : G (upd H1 D (.lst []))) (hG : ∀ H ys zs, G H → H D = some (.lst ys) → G (upd H D (.lst zs))) (go : ∀ i H, i < n → G H → J.go i H) (stop : ∀ H, G H → J.stop n H)
    (step : ∀ i H x H', i < n → G H → J.yld i H x H' → ∀ (Yes : VK) (No : Hp → Prop), Ends2 (f i) G H Yes No → g x (wipe σ vs) H' fun σ2 H2 => wipe σ2 vs = wipe σ vs ∧ tt σ2 H2 fun b H3 => if b = true then te σ2 H3 Yes else No H3) (hz : n ≤ sizeLine)
    (hd : ∀ H', G H' → H' D = some (.lst ((List.range n).filterMap f)) → Qd H') :
    ∃ W : Nat → Nat → Hp → Prop, (∃ m, W 0 m (upd H1 D (.lst []))) ∧ ∀ i m H, W i m H →
      (J.stop i H ∧ Qd H) ∨ (J.go i H ∧ ∃ Nx : Hp → Prop, (∀ H', Nx H' → ∃ m', m' < m ∧ W (i + 1) m' H') ∧ ∀ x H', J.yld i H x H' → g x (wipe σ vs) H' fun σ2 H2 => wipe σ2 vs = wipe σ vs ∧ tt σ2 H2 fun b H3 =>
        if b = true then te σ2 H3 fun y H4 => ∃ acc, H4 D = some (.lst acc) ∧ acc.length < sizeLine ∧ Nx (upd H4 D (.lst (acc ++ [y]))) else Nx H3) := by
  refine ⟨fun i m H => m = n - i ∧ i ≤ n ∧ G H ∧ H D = some (.lst ((List.range i).filterMap f)), ⟨_, rfl, Nat.zero_le _, h0, upd_same⟩, ?_⟩
  rintro i m H ⟨rfl, hi, hg, hd'⟩
  by_cases lt : i < n
  · refine .inr ⟨go i H lt hg, fun H' => G H' ∧ H' D = some (.lst ((List.range (i + 1)).filterMap f)), fun H' p' => ⟨n - (i + 1), by omega, rfl, lt, p'.1, p'.2⟩, fun x H' hy => ?_⟩
    refine step i H x H' lt hg hy (fun y H4 => ∃ acc, H4 D = some (.lst acc) ∧ acc.length < sizeLine ∧ (G (upd H4 D (.lst (acc ++ [y]))) ∧ upd H4 D (.lst (acc ++ [y])) D = some (.lst ((List.range (i + 1)).filterMap f)))) (fun H4 => G H4 ∧ H4 D = some (.lst ((List.range (i + 1)).filterMap f))) ?_
    have hl := fm_len f i
    unfold Ends2
    cases e : f i with
    | none => exact fun H4 g4 x4 => ⟨g4, by rw [fm_snoc, e, ext_lst x4 hd']; simp⟩
    | some v => exact fun H4 g4 x4 => ⟨_, ext_lst x4 hd', by omega, hG _ _ _ g4 (ext_lst x4 hd'), by rw [upd_same, fm_snoc, e]; rfl⟩
  · obtain rfl : i = n := by omega
    exact .inl ⟨stop H hg, hd H hg hd'⟩
/-- no test, each value told -/
theorem lc_genV {J : It} (f : Nat → V) (G : Hp → Prop) (h0 : G (upd H1 D (.lst []))) (hG : ∀ H ys zs, G H → H D = some (.lst ys) → G (upd H D (.lst zs))) (go : ∀ i H, i < n → G H → J.go i H) (stop : ∀ H, G H → J.stop n H)
    (step : ∀ i H x H', i < n → G H → J.yld i H x H' → ∀ (Yes : VK), (∀ H4, G H4 → ExtN H H4 → Yes (f i) H4) → g x (wipe σ vs) H' fun σ2 H2 => wipe σ2 vs = wipe σ vs ∧ te σ2 H2 Yes) (hz : n ≤ sizeLine)
    (hd : ∀ H', G H' → H' D = some (.lst ((List.range n).map f)) → Qd H') :
    ∃ W : Nat → Nat → Hp → Prop, (∃ m, W 0 m (upd H1 D (.lst []))) ∧ ∀ i m H, W i m H →
      (J.stop i H ∧ Qd H) ∨ (J.go i H ∧ ∃ Nx : Hp → Prop, (∀ H', Nx H' → ∃ m', m' < m ∧ W (i + 1) m' H') ∧ ∀ x H', J.yld i H x H' → g x (wipe σ vs) H' fun σ2 H2 => wipe σ2 vs = wipe σ vs ∧ tYes σ2 H2 fun b H3 =>
        if b = true then te σ2 H3 fun y H4 => ∃ acc, H4 D = some (.lst acc) ∧ acc.length < sizeLine ∧ Nx (upd H4 D (.lst (acc ++ [y]))) else Nx H3) := by
  refine lc_gen (tt := tYes) (fun i => some (f i)) G h0 hG go stop (fun i H x H' hi hg hy Yes No he => ?_) hz (fun H' g e => hd H' g (by rw [e, List.filterMap_eq_map']))
  exact step i H x H' hi hg hy Yes he
end
section
variable {K : PySem.W.Frag} {a : Addr} {xs : List V} {G : Hp → Prop} {lo : Int} {n : Nat}
theorem itl_go (hS : ∀ H, G H → SqL K H a xs) : ∀ i H, i < xs.length → G H → (Itl K a).go i H := fun i H hi hg => ⟨xs, xs[i], hS H hg, List.getElem?_eq_getElem hi⟩
theorem itl_stop (hS : ∀ H, G H → SqL K H a xs) : ∀ H, G H → (Itl K a).stop xs.length H := fun H hg => ⟨xs, hS H hg, Nat.le_refl _⟩
theorem ite_go (hS : ∀ H, G H → SqL K H a xs) : ∀ i H, i < xs.length → G H → (Ite K a).go i H := fun i H hi hg => ⟨xs, xs[i], hS H hg, List.getElem?_eq_getElem hi⟩
theorem ite_stop (hS : ∀ H, G H → SqL K H a xs) : ∀ H, G H → (Ite K a).stop xs.length H := fun H hg => ⟨xs, hS H hg, Nat.le_refl _⟩
theorem itr_go : ∀ i H, i < n → G H → (Itr lo n).go i H := fun i H hi _ => hi
theorem itr_stop : ∀ H, G H → (Itr lo n).stop n H := fun H _ => Nat.le_refl _
end
end G66
namespace G66
open PySem PySem.Spec PySem.Calls PyProof.Rows L2 LamX
/-! lambdas of a name of the def that runs, kept in lists; a call that lends the cell; a def that leaves its cell behind -/
/-- what is known by its object alone stays -/
def Ext0 (H H' : Hp) : Prop := ∀ b φ, H b = some (.ext φ) → H' b = some (.ext φ)
theorem ext0_of {H H' : Hp} (e : ExtN H H') : Ext0 H H' := fun b φ h => e b _ h (fun ps z => by cases z)
theorem Ext0.trans {H H1 H2 : Hp} (a : Ext0 H H1) (b : Ext0 H1 H2) : Ext0 H H2 := fun c φ h => b c φ (a c φ h)
theorem ext0_put {H : Hp} {a : Addr} {u o : HO} (h : H a = some u) (n : ∀ φ, u ≠ .ext φ) : Ext0 H (upd H a o) := fun b φ e => by
  rw [upd_ne (fun z => by subst z; rw [h] at e; exact n φ (Option.some.inj e))]
  exact e
theorem ext_put2 {H0 H1 H : Hp} {D : Addr} {o : HO} (n : H1 D = none) (x : ExtN H0 H1) (e : ExtN H0 H) : ExtN H0 (upd H D o) := fun b u h k => by
  rw [upd_ne (fun z => by subst z; have := x _ _ h k; rw [n] at this; cases this)]
  exact e b u h k
theorem tabs_putL {T : List (Addr × PySem.Str)} {H : Hp} {D : Addr} {ys zs : List V} (h : Tabs T H) (e : H D = some (.lst ys)) : Tabs T (upd H D (.lst zs)) := fun p hp => by
  obtain ⟨ps, h1, h2, h3⟩ := h p hp
  refine ⟨ps, by rw [upd_ne (ne_of h1 e (by intro z; cases z))]; exact h1, h2, fun pos cv hcv => ?_⟩
  obtain ⟨c0, e1, e2⟩ := h3 pos cv hcv
  exact ⟨c0, e1, by rw [upd_ne (ne_of e2 e (by intro z; cases z))]; exact e2⟩
/-- f is a lambda of y's cell c -/
def Pend (P : Program) (w : World) (K : PySem.W.Frag) (mg : PySem.Str → Option Value) (base : Heap) (k n : Nat) (y : PySem.Str) (c : Addr) (t : XK → TE) (f : Addr) (H : Hp) : Prop :=
  ∃ (c' : Addr) (φ ψ : Heap → Prop), H f = some (.ext φ) ∧ H c' = some (.ext ψ) ∧ ∀ H3 v, H3 f = some (.ext φ) → H3 c' = some (.ext ψ) → CapAt H3 ⟨y, c, v⟩ → LamIs P w K mg base k n (lamSp [⟨y, c, v⟩] t) f H3
section
variable {P : Program} {w : World} {K : PySem.W.Frag} {mg : PySem.Str → Option Value} {base : Heap} {k n : Nat} {y : PySem.Str} {c : Addr} {t : XK → TE} {f : Addr} {H H' : Hp}
theorem Pend.keep (h : Pend P w K mg base k n y c t f H) (e : Ext0 H H') : Pend P w K mg base k n y c t f H' := by
  obtain ⟨c', φ, ψ, h1, h2, h3⟩ := h
  exact ⟨c', φ, ψ, e _ _ h1, e _ _ h2, h3⟩
theorem Pend.ext (h : Pend P w K mg base k n y c t f H) (e : ExtN H H') : Pend P w K mg base k n y c t f H' := h.keep (ext0_of e)
theorem Pend.lam {v : V} (h : Pend P w K mg base k n y c t f H) (hc : CapAt H ⟨y, c, v⟩) : LamIs P w K mg base k n (lamSp [⟨y, c, v⟩] t) f H := by
  obtain ⟨c', φ, ψ, h1, h2, h3⟩ := h
  exact h3 H v h1 h2 hc
end
def tLamC (P : Program) (w : World) (K : PySem.W.Frag) (mg : PySem.Str → Option Value) (base : Heap) (T : List (Addr × PySem.Str)) (k n : Nat) (y : PySem.Str) (c : Addr) (t : XK → TE) : TE := fun _ H Q =>
  Tabs T H ∧ ∀ f H2, ExtN H H2 → Tabs T H2 → Pend P w K mg base k n y c t f H2 → Q (.ref f) H2
section
variable {X : Cx}
theorem pe_lamC {T : List (Addr × PySem.Str)} {y : PySem.Str} {c P cy : Addr} {k : Nat} {params : Arguments} {body : Expr} {scope : Scope} {ps : List PySem.Str} {t : XK → TE} {pos : Pos}
    (hcy : X.env.cells.lookup y = some cy) (TB : TabB X.base X.mg c P) (hcode : X.env.code = .ref c) (hmT : (P, X.env.qual ++ "<lambda>") ∈ T) (hu : ∀ p ∈ T, p.1 = P → p.2 = X.env.qual ++ "<lambda>")
    (L : LamQ scope ps [y]) (hcl : ∀ (cells : List (PySem.Str × Addr)) (c : Addr), cells.lookup y = some c → cloFrom cells scope.names [] = [(y, c)]) (hdef : defaultsOf params X.env = ([], []))
    (hbind : ∀ (q : PySem.Str) (cl : List (PySem.Str × Addr)) (pm cv ctv : Value) (us : List Value), us.length = ps.length → bindArgs (PySem.W.kla_fn "<lambda>" q params body scope cl pm cv ctv) ⟨us, []⟩ = pure (ps.zip us))
    (hbody : ∀ (f c' : Addr) (cap : Cap), cap.y = y → ∀ (E : XK) (A : Around) (outer : List Env) (s : Shared) (H : Hp), Room k (A.deeper (lamEnvQ (X.env.qual ++ "<lambda>") scope s.heap.objs.size f c' [cap])) → PE (lamCxQ X.prog X.w X.K X.mg X.base A outer s H E (X.env.qual ++ "<lambda>") scope f c' ps [cap]) body (t E)) :
    PE X (.Lambda params body scope pos) (tLamC X.prog X.w X.K X.mg X.base T (k + 1) ps.length y cy t) := by
  refine ⟨fun pins s σ H Q I ⟨hT, h⟩ => ?_⟩
  have hfree : ∀ z ∈ scope.names, z.2 = .free → ∃ c, X.env.cells.lookup z.1 = some c := fun z hz e => by
    have : z.1 = y := by simpa using (L.own z hz).2.2 e
    rw [this]
    exact ⟨cy, hcy⟩
  refine lam_make3 I TB hcode hmT hu hT hdef hfree fun f c' pm ctv H1 s' I1 eN T1 hfn hco => ?_
  rw [hcl _ cy hcy] at I1
  have e2 : Same H1 (upd H1 f (ObjX f (PySem.W.kla_obj "<lambda>" (X.env.qual ++ "<lambda>") params body scope [(y, cy)] pm c' ctv))) := same_new hfn
  refine ⟨.ref f, _, I1, rfl, h f _ (eN.trans (ext_same e2)) (T1.ext e2) ⟨c', _, _, upd_same, e2 _ _ hco, fun H3 v hf3 hc3 hca => ?_⟩⟩
  exact lamIs_mk (P := X.prog) (w := X.w) (K := X.K) (mg := X.mg) (base := X.base) (cap := [⟨y, cy, v⟩]) (t := t) L hf3 hc3 ⟨fun p hp => by rw [List.mem_singleton.mp hp]; exact hca, by simp⟩ (hbind _ _ _ _ _) (fun E A outer s H hr => hbody f c' _ rfl E A outer s H hr)
theorem k_lamC {P : Program} {w : World} {K : PySem.W.Frag} {mg : PySem.Str → Option Value} {base : Heap} {q : PySem.Str} {T : List (Addr × PySem.Str)} {y : PySem.Str} {c Pt cy : Addr} {k : Nat} {params : Arguments} {body : Expr} {scope : Scope} {ps : List PySem.Str} {t : XK → TE} {pos : Pos}
    (eP : X.prog = P) (ew : X.w = w) (eK : X.K = K) (em : X.mg = mg) (eb : X.base = base) (eq : X.env.qual ++ "<lambda>" = q)
    (hcy : X.env.cells.lookup y = some cy) (TB : TabB base mg c Pt) (hcode : X.env.code = .ref c) (hmT : (Pt, q) ∈ T) (hu : ∀ p ∈ T, p.1 = Pt → p.2 = q)
    (L : LamQ scope ps [y]) (hcl : ∀ (cells : List (PySem.Str × Addr)) (c : Addr), cells.lookup y = some c → cloFrom cells scope.names [] = [(y, c)]) (hdef : defaultsOf params X.env = ([], []))
    (hbind : ∀ (q : PySem.Str) (cl : List (PySem.Str × Addr)) (pm cv ctv : Value) (us : List Value), us.length = ps.length → bindArgs (PySem.W.kla_fn "<lambda>" q params body scope cl pm cv ctv) ⟨us, []⟩ = pure (ps.zip us))
    (hbody : ∀ (f c' a : Addr) (v : V) (E : XK) (A : Around) (outer : List Env) (s : Shared) (H : Hp), Room k (A.deeper (lamEnvQ q scope s.heap.objs.size f c' [⟨y, a, v⟩])) → PE (lamCxQ P w K mg base A outer s H E q scope f c' ps [⟨y, a, v⟩]) body (t E)) :
    PE X (.Lambda params body scope pos) (tLamC P w K mg base T (k + 1) ps.length y cy t) := by
  subst eP ew eK em eb eq
  exact pe_lamC hcy TB hcode hmT hu L hcl hdef hbind (fun f c' cap e => by obtain ⟨a, b, d⟩ := cap; cases e; exact hbody f c' b d)
theorem g_lamC {P : Program} {w : World} {K : PySem.W.Frag} {mg : PySem.Str → Option Value} {base : Heap} {T : List (Addr × PySem.Str)} {k n : Nat} {y : PySem.Str} {c : Addr} {t : XK → TE} {σ : L2.St} {H : Hp} {Q : VK} (hT : Tabs T H) (h : ∀ f H2, ExtN H H2 → Tabs T H2 → Pend P w K mg base k n y c t f H2 → Q (.ref f) H2) : tLamC P w K mg base T k n y c t σ H Q := ⟨hT, h⟩
/-- a call of a def while the cell c of y is lent -/
def tLend (T : List (Addr × PySem.Str)) (i : Nat) (y : PySem.Str) (c : Addr) (spx : Sp) (ta : TA) : TE := fun σ H Q =>
  ∃ v, σ[i]? = some (some v) ∧ ta σ H fun vs H1 => ∀ H3, Same H1 H3 → CapAt H3 ⟨y, c, v⟩ → spx vs H3 (fun r H' => ExtN H3 H' ∧ Tabs T H' ∧ ∀ H4, ExtN H1 H4 → Tabs T H4 → Q r H4) E0
theorem pe_lend {T : List (Addr × PySem.Str)} {x y : PySem.Str} {cy : Addr} {j kk i : Nat} {psx : List PySem.Str} {spx : Sp} {e : Expr} {es : List Expr} {t : TA} {p pos : Pos}
    (D : Df X.prog X.w X.K X.mg X.base CX0 j x psx spx) (hr : Room kk X.A) (hg : Gl X x) (hN : X.N[i]? = some y) (hyc : X.env.scope.names.lookup y = some .cell) (hfn : X.fn y = true) (hcy : X.env.cells.lookup y = some cy)
    (ha : PA X (e :: es) t) (hjk : j ≤ kk := by decide) (hdb : (x == ("__debug__" : PySem.Str)) = false := by decide) (he : starEach (e :: es) X.env = (false, eval e X.env) :: starEach es X.env := by rfl) (hpl : (backTo pos (starEach es X.env)).any (·.1) = false := by rfl) :
    PE X (.Call (.Name x p) (e :: es) [] pos) (tLend T i y cy spx t) := by
  refine ⟨fun pins s σ H Q I ⟨v, hv, h⟩ => ?_⟩
  obtain ⟨g, fd, F, m, kp, hb⟩ := D.ex
  refine wpAny_Call_Name_kw (ld_glob I hg m ?_ hdb)
  refine PySem.W.callWith_K (h₀ := X.base) I.ok.mod.kin kp (thn (ha.run pos pins s σ H _ I h) fun us s2 ⟨vs, H2, I2, r2, q2⟩ => ⟨I2.kIn, ?_⟩) he hpl
  obtain ⟨mm, hn, hloc⟩ := I2.loc
  obtain ⟨u, ru, lk⟩ := hloc i y v hN hv (.inr (.inl hyc))
  obtain ⟨o, hgo, hd⟩ : ∃ o, s2.heap.get? cy = some o ∧ o.data = .cell (some u) := by
    rcases lk with ⟨k1, _⟩ | ⟨_, c2, e2, z⟩
    · have k1 : X.env.scope.names.lookup y = some .local := k1
      rw [hyc] at k1; cases k1
    · rw [hcy] at e2
      cases e2
      obtain ⟨o, z1, z2⟩ := z
      exact ⟨o, z1, z2⟩
  have hcn := I2.freeC y cy hcy
  have s3 : Same H2 (upd H2 cy (ObjX cy o)) := same_new hcn
  have hca : CapAt (upd H2 cy (ObjX cy o)) ⟨y, cy, v⟩ := ⟨o, u, upd_same, hd, ru⟩
  have q3 := q2 _ s3 hca
  have bs := hb s2 us I2.kIn (by rw [List.append_nil, ← r2.length]; exact F.len _ _ _ _ q3)
  rw [List.append_nil] at bs
  refine wpAny_call (codeAny_mono ((F.mono hjk).run X.A X.stack s2 _ ⟨us, []⟩ us vs _ _ hr (env0_lend I2 hfn hcy hgo) bs r2 q3) fun r s' hq => ?_)
  match r, hq with
  | .error e, hq => exact (show False from hq).elim
  | .ok (.ret u), hq =>
    refine I2.after (ce_lend hcn hgo ?_)
    obtain ⟨v3, H', a1, a2, a3, a4, a5, a6, a7, a8⟩ := hq
    have hc' := a6 _ _ (upd_same (H := H2) (a := cy) (o := ObjX cy o)) objX_ne
    refine ⟨v3, H', a1, a2, a3, a4, a5, hc', a8 _ (fun b ob e n => ?_) (tabs_er a7 a4 hc' hd)⟩
    have nb := ne_of_none e hcn
    rw [er_out (by simpa using nb)]
    exact a6 b ob (s3 b ob e) n
end
/-! a body that ends with return NAME; the slots are told, too -/
abbrev TR := (V → L2.St → Hp → Prop) → L2.St → Hp → Prop
structure PSR (X : Cx) (ss : List Stmt) (t : TR) : Prop where
  run : ∀ (pins : List (Addr × Obj)) (s : Shared) (σ : L2.St) (H : Hp) (R : V → L2.St → Hp → Prop), Inv X pins σ H s → t R σ H → wpAny (model X.prog X.w) X.A (execs ss X.env) (fun f s' => ∃ u v σ' H', f = .ret u ∧ Inv X pins σ' H' s' ∧ RelV v u ∧ R v σ' H') X.xe s
section
variable {X : Cx}
def tThen (t : TS) (u : TR) : TR := fun R σ H => t { nx := fun σ' H' => u R σ' H', rt := fun _ _ => False } σ H
def tEndRet (te : TE) : TR := fun R σ H => te σ H fun v H' => R v σ H'
theorem psr_cons {st : Stmt} {rest : List Stmt} {t : TS} {u : TR} (h1 : PS X st t) (h2 : PSR X rest u) : PSR X (st :: rest) (tThen t u) := by
  refine ⟨fun pins s σ H R I h => ?_⟩
  refine wpAny_execs_cons (thn (h1.run pins s σ H _ I h) fun f s1 q => ?_)
  cases f with
  | next =>
    obtain ⟨σ', H', I', q⟩ := q
    exact h2.run pins s1 σ' H' R I' q
  | ret v =>
    obtain ⟨_, _, _, _, _, q⟩ := q
    exact q.elim
  | brk =>
    obtain ⟨_, _, _, q⟩ := q
    exact False.elim q
  | cont =>
    obtain ⟨_, _, _, q⟩ := q
    exact False.elim q
theorem psr_ret {e : Expr} {te : TE} {pos : Pos} (he : PE X e te) : PSR X [.Return (some e) pos] (tEndRet te) := by
  refine ⟨fun pins s σ H R I h => ?_⟩
  refine wpAny_execs_cons (wpAny_Return_some (thn (he.run pins s σ H _ I h) fun v s1 ⟨x, H1, I1, r1, q1⟩ => ?_))
  exact ⟨v, x, σ, H1, rfl, I1, r1, q1⟩
end
theorem g_then {t : TS} {u : TR} {R : V → L2.St → Hp → Prop} {σ : L2.St} {H : Hp} (h : t { nx := fun σ' H' => u R σ' H', rt := fun _ _ => False } σ H) : tThen t u R σ H := h
theorem g_endRet {te : TE} {R : V → L2.St → Hp → Prop} {σ : L2.St} {H : Hp} (h : te σ H fun v H' => R v σ H') : tEndRet te R σ H := h
theorem startR_eq {N : List PySem.Str} {vs : List V} {t : TR} {R : V → L2.St → Hp → Prop} {σ : L2.St} {H : Hp} (e : start N vs = σ) (h : t R σ H) : t R (start N vs) H := e ▸ h
/-- a def that leaves the cell of y behind -/
theorem DfnC.okG {P : Program} {w : World} {K : PySem.W.Frag} {mg : PySem.Str → Option Value} {base : Heap} {x y : PySem.Str} {st : Stmt} {cd : Addr} {N ps : List PySem.Str} {k i : Nat} {sp : Sp} (F : DfnC K mg x st cd) (S : FnScope N ps (defScope st))
    (hb : ∀ (kV doc pm : Value) (an : Option Addr) (cdv ct : Value) (us : List Value), us.length = ps.length → bindArgs (PySem.W.fnOf x x (defArgs st) (defBody st) (defScope st) .none kV doc pm an cdv ct) ⟨us, []⟩ = pure (ps.zip us))
    (len : ∀ vs H Q E, sp vs H Q E → vs.length = ps.length) (hN : N[i]? = some y) (hyc : (defScope st).names.lookup y = some .cell)
    (hbody : ∀ (f : Addr) (A : Around) (outer : List Env) (s : Shared) (H : Hp) (vs : List V) (Q : VK) (E : XK) (c : Addr), (envOfC x (defScope st) s.heap.objs.size f (.ref cd)).cells.lookup y = some c → Room k (A.deeper (envOfC x (defScope st) s.heap.objs.size f (.ref cd))) → sp vs H Q E →
      ∃ t, PSR (cxOf CX0 P w K mg base N x (defScope st) f (.ref cd) A outer s H E) (defBody st) t ∧ t (fun r σ' H' => ∃ v, σ'[i]? = some (some v) ∧ ∀ H3, Same H' H3 → CapAt H3 ⟨y, c, v⟩ → Q r H3) (start N vs) H) : Df P w K mg base CX0 (k + 1) x ps sp := by
  obtain ⟨f, fd, oc, od, kV, doc, pm, an, ct, osl, rfl, lk, hcd, kp, m⟩ := F.ex
  refine ⟨f, _, ⟨len, fun A outer s H args us vs Q E hr e0 hbi r hsp => ?_⟩, m, kp, .all fun us hl => hb kV doc pm an (.ref cd) ct us hl⟩
  have hl := len _ _ _ _ hsp
  have KX : K.In s.heap := e0.mod.kin.keeps fun b o e => (e0.bs b o e).1
  have lim : s.heap.NoLimit := e0.mod.nolimit.keeps fun b o e => (e0.bs b o e).1
  have hkind : ∀ z ∈ ps.zip us, (defScope st).names.lookup z.1 = some .local ∨ ((defScope st).names.lookup z.1 = some .cell ∧ ((cellsFrom (s.heap.objs.size + 1) (defScope st).names []).lookup z.1).isSome = true) := fun ⟨n, v⟩ hy => by
    rcases S.par n (List.of_mem_zip hy).1 with q | q
    · exact .inl q
    · exact .inr ⟨q, PySem.W.cellsFrom_some _ _ _ (.inl q)⟩
  refine codeAny_call_function hr.depth (KX _ _ lk) rfl S.co S.gen rfl (PySem.W.codeRec_of KX hcd) (hbi _ _ _ _ ?_)
  refine wpAny_newFunctionEnv_cells S.kind hkind fun env he s1 x' => ?_
  subst he
  refine ⟨lim.keeps x'.toInCall.keep, codeAny_func ?_⟩
  obtain ⟨c, hc⟩ : ∃ c, (envOfC x (defScope st) s.heap.objs.size f (.ref cd)).cells.lookup y = some c := cell_has hyc
  obtain ⟨t, ht, hq⟩ := hbody f A outer s H vs Q E c hc (hr.deeper _) hsp
  have I : Inv (cxOf CX0 P w K mg base N x (defScope st) f (.ref cd) A outer s H E) [] (start N vs) H s1 := inv_start S hr.hd e0 hl r x'
  refine wpAny_mono (ht.run [] s1 (start N vs) H _ I hq) (fun fl s' hs => ?_) fun e s' hs => hs
  obtain ⟨u, v, σ', H', rfl, J, rv, pv, hpv, q⟩ := hs
  obtain ⟨mm, hn, hloc⟩ := J.loc
  obtain ⟨u2, ru, lk2⟩ := hloc i y pv hN hpv (.inr (.inl hyc))
  obtain ⟨o, hgo, hd⟩ : ∃ o, s'.heap.get? c = some o ∧ o.data = .cell (some u2) := by
    rcases lk2 with ⟨k1, _⟩ | ⟨_, c2, e2, z⟩
    · have k1 : (defScope st).names.lookup y = some .local := k1
      rw [hyc] at k1; cases k1
    · have e3 : (envOfC x (defScope st) s.heap.objs.size f (.ref cd)).cells.lookup y = some c2 := e2
      rw [hc] at e3
      cases e3
      obtain ⟨o, z1, z2⟩ := z
      exact ⟨o, z1, z2⟩
  have hcn : H' c = none := J.freeC y c hc
  have ge : s.heap.objs.size ≤ c := J.ok.cab y c rfl hc
  have nb : ∀ b ob, s.heap.get? b = some ob → b ≠ c := fun b ob e z => Nat.lt_irrefl _ (Nat.lt_of_lt_of_le (Heap.lt_size (z ▸ e)) ge)
  have un : Un (frs outer) [] H H' s.heap s'.heap := J.base
  have s3 : Same H' (upd H' c (ObjX c o)) := same_new hcn
  refine ⟨v, upd H' c (ObjX c o), J.os, J.bare, ⟨un.keep, un.slot, fun b ob e n hx => ?_, un.there, fun b xs e => s3 _ _ (un.tups b xs e), fun b ob u e => s3 _ _ (un.frzs b ob u e), fun b ps e => ?_⟩, fun b ob e => ?_, rv, q _ s3 ⟨o, u2, upd_same, hd, ru⟩⟩
  · rw [upd_ne (nb b ob e)]
    exact un.free b ob e n hx
  · obtain ⟨more, e⟩ := un.tbls b ps e
    exact ⟨more, s3 _ _ e⟩
  · by_cases hb : b = c
    · subst hb
      rw [upd_same] at e
      cases e
      exact objX_ok hgo
    · rw [upd_ne hb] at e
      refine (J.hok b ob e).stay (fun _ _ _ q => q) (fun d e => s3 _ _ e) fun d xs e => s3 _ _ e
section
variable {X : Cx}
/-- f() of a local that holds a lambda without parameters -/
def tCallLam0 (P : Program) (w : World) (K : PySem.W.Frag) (mg : PySem.Str → Option Value) (base : Heap) (k i : Nat) (W : WX) : TE := fun σ H Q =>
  ∃ f sp, σ[i]? = some (some (.ref f)) ∧ LamIs P w K mg base k 0 sp f H ∧ sp [] H Q (fun cls d H' => W cls d σ H')
theorem g_callLam0 {P : Program} {w : World} {K : PySem.W.Frag} {mg : PySem.Str → Option Value} {base : Heap} {k i : Nat} {W : WX} {f : Addr} {sp : Sp} {σ : L2.St} {H : Hp} {Q : VK} (e : σ[i]? = some (some (.ref f))) (L : LamIs P w K mg base k 0 sp f H) (h : sp [] H Q (fun cls d H' => W cls d σ H')) : tCallLam0 P w K mg base k i W σ H Q := ⟨f, sp, e, L, h⟩
theorem k_callLam0 {P : Program} {w : World} {K : PySem.W.Frag} {mg : PySem.Str → Option Value} {base : Heap} {k i : Nat} {x : PySem.Str} {W : WX} {p pos : Pos} (eP : X.prog = P) (ew : X.w = w) (eK : X.K = K) (em : X.mg = mg) (eb : X.base = base) (tk : L2.Takes X W) (hr : Room k X.A) (hN : X.N[i]? = some x) (hv : Vis X.env.scope x)
    (hdb : (x == ("__debug__" : PySem.Str)) = false := by decide) (hcd : (x == ("__classdict__" : PySem.Str)) = false := by decide) : PE X (.Call (.Name x p) [] [] pos) (tCallLam0 P w K mg base k i W) := by
  subst eP ew eK em eb
  refine ⟨fun pins s σ H Q I h => ?_⟩
  obtain ⟨f, sp, hs, F, q⟩ := h
  refine wpAny_Call_Name_kw (thn ((pe_var (pos := p) hN hv hdb hcd).run pins s σ H (fun v H1 => v = .ref f ∧ H1 = H) I ⟨.ref f, hs, rfl, rfl⟩) fun u s1 ⟨v, H1, I1, r1, q1⟩ => ?_)
  obtain ⟨rfl, rfl⟩ := q1
  obtain rfl : u = Value.ref f := r1
  obtain ⟨oc, od, fd, sl, hf⟩ := F.fn
  refine PySem.W.callWith_F0 ⟨oc, od, fd, sl, (I1.hok f _ hf).1⟩ ?_
  refine wpAny_call (codeAny_mono (F.run H1 (ExtN.refl _) X.A X.stack s1 [] [] Q _ hr I1.env0 .nil rfl q) fun r s' hq => ?_)
  match r, hq with
  | .error e, hq => exact tk e s' (L2.XE.of_call I1 (fun cls d H' h => h) hq)
  | .ok (.ret u), hq => exact I1.after hq
end
section
variable {K : PySem.W.Frag} {H H' : Hp} {a : Addr} {xs : List V} {cs : List Addr} {v : V}
theorem sq_er (h : SqL K H a xs) (hc : Objs H cs) : SqL K (er H cs) a xs := by
  rcases h with (h | ⟨ob, h⟩) | h
  · exact .inl (.inl (er_at hc h (fun _ z => by cases z)))
  · exact .inl (.inr ⟨ob, er_at hc h (fun _ z => by cases z)⟩)
  · exact .inr h
theorem Pl.er (h : Pl K H v) (hc : Objs H cs) : Pl K (er H cs) v := by
  cases h with
  | non => exact .non
  | int i => exact .int i
  | bl b => exact .bl b
  | str s => exact .str s
  | lst e => exact .lst (sq_er e hc)
  | tup e => exact .tup (er_at hc e (fun _ z => by cases z))
  | dct e => exact .dct (er_at hc e (fun _ z => by cases z))
theorem Nl.er (h : Nl H v) (hc : Objs H cs) : Nl (er H cs) v := by
  cases h with
  | non => exact .non
  | int i => exact .int i
  | bl b => exact .bl b
  | str s => exact .str s
  | tup e => exact .tup (er_at hc e (fun _ z => by cases z))
  | dct e => exact .dct (er_at hc e (fun _ z => by cases z))
theorem Pl.ext (h : Pl K H v) (x : ExtN H H') : Pl K H' v := by
  cases h with
  | non => exact .non
  | int i => exact .int i
  | bl b => exact .bl b
  | str s => exact .str s
  | lst e => exact .lst (sq_ext e x)
  | tup e => exact .tup (ext_tup x e)
  | dct e => exact .dct (x _ _ e (fun ps z => by cases z))
theorem Nl.ext (h : Nl H v) (x : ExtN H H') : Nl H' v := by
  cases h with
  | non => exact .non
  | int i => exact .int i
  | bl b => exact .bl b
  | str s => exact .str s
  | tup e => exact .tup (ext_tup x e)
  | dct e => exact .dct (x _ _ e (fun ps z => by cases z))
theorem Ts.er {ts : List T3} (h : Ts K H a ts) (hc : Objs H cs) : Ts K (er H cs) a ts := by
  obtain ⟨rs, h1, h2, h3⟩ := h
  exact ⟨rs, sq_er h1 hc, h2, fun i r t hr ht => sq_er (h3 i r t hr ht) hc⟩
theorem CapAt.objs {y : PySem.Str} (h : CapAt H ⟨y, a, v⟩) : Objs H [a] := fun b hb => by
  obtain ⟨o, u, h1, _, _⟩ := h
  rw [List.mem_singleton.mp hb]
  exact ⟨o, h1⟩
theorem CapAt.ext {p : Cap} (h : CapAt H p) (e : ExtN H H') : CapAt H' p := by
  obtain ⟨o, u, h1, h2, h3⟩ := h
  exact ⟨o, u, e _ _ h1 objX_ne, h2, h3⟩
end
end G66
namespace G66
open PySem PySem.Spec PySem.Calls PyProof.Rows L2 LamX
/-! lists of threes that are owned: rows changed in place, comprehensions over lists -/
section
variable {K : PySem.W.Frag} {H0 H H' H2 : Hp} {q r : Addr} {ps : List (Addr × T3)} {t : T3}
theorem nodup_at {ps : List (Addr × T3)} (nd : (ps.map Prod.fst).Nodup) {i j : Nat} {x y : Addr × T3} (hi : ps[i]? = some x) (hj : ps[j]? = some y) (e : x.1 = y.1) : i = j := by
  obtain ⟨hi1, hi2⟩ := List.getElem?_eq_some_iff.mp hi
  obtain ⟨hj1, hj2⟩ := List.getElem?_eq_some_iff.mp hj
  rcases Nat.lt_trichotomy i j with h | h | h
  · have := (List.pairwise_iff_getElem.mp nd) i j (by rw [List.length_map]; exact hi1) (by rw [List.length_map]; exact hj1) h
    rw [List.getElem_map, List.getElem_map, hi2, hj2] at this
    exact absurd e this
  · exact h
  · have := (List.pairwise_iff_getElem.mp nd) j i (by rw [List.length_map]; exact hj1) (by rw [List.length_map]; exact hi1) h
    rw [List.getElem_map, List.getElem_map, hi2, hj2] at this
    exact absurd e.symm this
theorem map_set_fst {ps : List (Addr × T3)} {i : Nat} {r : Addr} {t t' : T3} (hi : ps[i]? = some (r, t)) {β : Type} (f : Addr × T3 → β) (hf : f (r, t') = f (r, t)) : (ps.set i (r, t')).map f = ps.map f := by
  refine List.ext_getElem? fun j => ?_
  rw [List.getElem?_map, List.getElem?_map, List.getElem?_set]
  by_cases e : i = j
  · subst e
    obtain ⟨hlt, _⟩ := List.getElem?_eq_some_iff.mp hi
    rw [if_pos rfl, if_pos hlt, hi, Option.map_some, Option.map_some, hf]
  · rw [if_neg e]
/-- a row of an owned list is another three now -/
theorem own_row (o : Own H0 H q ps) {i : Nat} {t' : T3} (hi : ps[i]? = some (r, t)) : Own H0 (upd H r (.lst (t'.l.map V.int))) q (ps.set i (r, t')) := by
  have hx := List.mem_of_getElem? hi
  have hne := o.ne hx
  refine ⟨o.new, ?_, fun x hx' => ?_, ?_⟩
  · rw [upd_ne (Ne.symm hne), o.at_, map_set_fst (t' := t') hi pRef rfl]
  · obtain ⟨j, hj⟩ := List.getElem?_of_mem hx'
    rw [List.getElem?_set] at hj
    by_cases e : i = j
    · subst e
      rw [if_pos rfl, if_pos (List.getElem?_eq_some_iff.mp hi).1] at hj
      cases hj
      exact ⟨(o.each _ hx).1, upd_same⟩
    · rw [if_neg e] at hj
      have hm := List.mem_of_getElem? hj
      have hn : x.1 ≠ r := fun z => e (nodup_at o.nd hi hj z.symm)
      rw [upd_ne hn]
      exact o.each x hm
  · rw [map_set_fst (t' := t') hi Prod.fst rfl]
    exact o.nd
theorem own_row_same (o : Own H0 H q ps) (s0 : Same H0 H) {x : Addr × T3} (hx : x ∈ ps) {u : HO} : Same H0 (upd H x.1 u) := SameBut.same (o.each x hx).1 s0 .upd
theorem own_get {ps : List (Addr × T3)} {ts : List T3} (e : ps.map Prod.snd = ts) {i : Nat} {t : T3} (h : ts[i]? = some t) : ∃ r, ps[i]? = some (r, t) := by
  rw [← e, List.getElem?_map] at h
  cases hp : ps[i]? with
  | none => rw [hp] at h; cases h
  | some x =>
    rw [hp] at h
    exact ⟨x.1, by rw [← Option.some.inj h]⟩
theorem atI_nat {α : Type} {xs : List α} {i : Nat} {v : α} (h : xs[i]? = some v) : atI xs (i : Int) = some v := by
  have hi := (List.getElem?_eq_some_iff.mp h).1
  unfold atI ixN
  rw [if_pos (Int.natCast_nonneg i), if_pos (by omega)]
  exact h
theorem own_at {n : Nat} (e : ps[n]? = some (r, t)) : atI (ps.map pRef) (n : Int) = some (.ref r) := atI_nat (by rw [List.getElem?_map, e]; rfl)
theorem map_range_getD {α : Type} {ts : List α} {d : α} : (List.range ts.length).map (fun i => ts.getD i d) = ts := by
  refine List.ext_getElem (by simp) fun j h1 h2 => ?_
  rw [List.getElem_map, List.getElem_range, List.getD_eq_getElem?_getD, List.getElem?_eq_getElem h2]
  rfl
end
section
variable {σ : L2.St} {H : Hp} {Q : VK} {K : PySem.W.Frag} {te : TE} {n : Nat}
/-- a comprehension over a list whose items are new threes -/
theorem lc_ownL {vs : List Nat} {a : Addr} {xs : List V} {H1 : Hp} {D : Addr} {Qd : Hp → Prop} {s : Nat} (f : Nat → T3) (hD : H1 D = none) (hS : SqL K H1 a xs) (hw : ∀ x, wipe ((wipe σ vs).set s (some x)) vs = wipe σ vs)
    (step : ∀ (i : Nat) x H', xs[i]? = some x → Same H1 H' → ∀ T : VK, (∀ r H2, Same H' H2 → H' r = none → H2 r = some (.lst ((f i).l.map V.int)) → T (.ref r) H2) → te ((wipe σ vs).set s (some x)) H' T) (hz : xs.length ≤ sizeLine)
    (hd : ∀ ps H', Same H1 H' → Own H1 H' D ps → ps.map Prod.snd = (List.range xs.length).map f → Qd H') :
    ∃ W : Nat → Nat → Hp → Prop, (∃ m, W 0 m (upd H1 D (.lst []))) ∧ ∀ i m H, W i m H →
      ((Itl K a).stop i H ∧ Qd H) ∨ ((Itl K a).go i H ∧ ∃ Nx : Hp → Prop, (∀ H', Nx H' → ∃ m', m' < m ∧ W (i + 1) m' H') ∧ ∀ x H', (Itl K a).yld i H x H' → gName s x (wipe σ vs) H' fun σ2 H2 => wipe σ2 vs = wipe σ vs ∧ tYes σ2 H2 fun b H3 =>
        if b = true then te σ2 H3 fun y H4 => ∃ acc, H4 D = some (.lst acc) ∧ acc.length < sizeLine ∧ Nx (upd H4 D (.lst (acc ++ [y]))) else Nx H3) := by
  refine lc_list (xs := xs) (fun i H' => i ≤ xs.length ∧ Same H1 H' ∧ ∃ ps, Own H1 H' D ps ∧ ps.map Prod.snd = (List.range i).map f) ⟨Nat.zero_le _, same_new hD, [], own_nil hD, rfl⟩ (fun i H' _ ⟨_, sm, _⟩ => sm.seq hS) (fun i x H' hx ⟨hi, sm, ps, O, hl⟩ => ?_) (fun H' ⟨_, sm, ps, O, hl⟩ => hd ps H' sm O hl)
  have hlt : i < xs.length := (List.getElem?_eq_some_iff.mp hx).1
  refine ⟨hw _, g_yes (R := fun b H3 => if b = true then _ else _) ?_⟩
  have hlen : ps.length = i := by
    have := congrArg List.length hl
    simpa using this
  refine (iteT (step i x H' hx sm _ fun r H2 s2 nr er => ⟨ps.map pRef, s2 _ _ O.at_, by rw [List.length_map]; omega, hlt, SameBut.same hD (sm.trans s2) .upd, ps ++ [(r, f i)], own_push O sm s2 nr er, ?_⟩))
  rw [List.map_append, hl, List.range_succ, List.map_append]
  rfl
theorem g_gsub {to ti : TE} {t : TSet} {v : V} {R : L2.St → Hp → Prop} (h : to σ H fun o H1 => ti σ H1 fun i H2 => t o i v H2 fun H3 => R σ H3) : gSub to ti t v σ H R := h
theorem g_setL {p : Addr} {xs : List V} {k : Nat} {v : V} {R : Hp → Prop} (e : H p = some (.lst xs)) (hk : k < xs.length) (h : R (upd H p (.lst (xs.set k v)))) : rSetL (.ref p) (.int (k : Int)) v H R := ⟨p, xs, k, k, rfl, rfl, e, by unfold ixN; rw [if_pos (Int.natCast_nonneg k), if_pos (by omega)]; rfl, h⟩
end
end G66
namespace G66
open PySem PySem.Spec PySem.Calls PyProof.Rows L2 LamX
/-! lambdas whose cell is known to stay out of sight -/
def tCapN (cs : List Addr) (t : TE) : TE := fun σ H Q => t σ H fun v H' => (∀ c ∈ cs, H' c = none) → Q v H'
theorem g_capN {cs : List Addr} {t : TE} {σ : L2.St} {H : Hp} {Q : VK} (h : t σ H fun v H' => (∀ c ∈ cs, H' c = none) → Q v H') : tCapN cs t σ H Q := h
theorem pe_capN {P : Program} {w : World} {K : PySem.W.Frag} {mg : PySem.Str → Option Value} {base : Heap} {A : Around} {outer : List Env} {s : Shared} {H : Hp} {E : XK} {q y : PySem.Str} {scope : Scope} {f c' a : Addr} {v : V} {ps : List PySem.Str} {body : Expr} {t : TE}
    (h : PE (lamCxQ P w K mg base A outer s H E q scope f c' ps [⟨y, a, v⟩]) body t) : PE (lamCxQ P w K mg base A outer s H E q scope f c' ps [⟨y, a, v⟩]) body (tCapN [a] t) := by
  refine ⟨fun pins s σ H Q I hq => thn (h.run pins s σ H _ I hq) fun u s' ⟨r, H', I', rv, k⟩ => ⟨r, H', I', rv, k fun c hc => ?_⟩⟩
  rw [List.mem_singleton.mp hc]
  exact I'.freeC y a (by show List.lookup y [(y, a)] = some a; simp [List.lookup])
section
variable {X : Cx}
theorem pe_lamCN {T : List (Addr × PySem.Str)} {y : PySem.Str} {c P cy : Addr} {k : Nat} {params : Arguments} {body : Expr} {scope : Scope} {ps : List PySem.Str} {t : XK → TE} {pos : Pos}
    (hcy : X.env.cells.lookup y = some cy) (TB : TabB X.base X.mg c P) (hcode : X.env.code = .ref c) (hmT : (P, X.env.qual ++ "<lambda>") ∈ T) (hu : ∀ p ∈ T, p.1 = P → p.2 = X.env.qual ++ "<lambda>")
    (L : LamQ scope ps [y]) (hcl : ∀ (cells : List (PySem.Str × Addr)) (c : Addr), cells.lookup y = some c → cloFrom cells scope.names [] = [(y, c)]) (hdef : defaultsOf params X.env = ([], []))
    (hbind : ∀ (q : PySem.Str) (cl : List (PySem.Str × Addr)) (pm cv ctv : Value) (us : List Value), us.length = ps.length → bindArgs (PySem.W.kla_fn "<lambda>" q params body scope cl pm cv ctv) ⟨us, []⟩ = pure (ps.zip us))
    (hbody : ∀ (f c' : Addr) (v : V) (E : XK) (A : Around) (outer : List Env) (s : Shared) (H : Hp), Room k (A.deeper (lamEnvQ (X.env.qual ++ "<lambda>") scope s.heap.objs.size f c' [⟨y, cy, v⟩])) → PE (lamCxQ X.prog X.w X.K X.mg X.base A outer s H E (X.env.qual ++ "<lambda>") scope f c' ps [⟨y, cy, v⟩]) body (t E)) :
    PE X (.Lambda params body scope pos) (tLamC X.prog X.w X.K X.mg X.base T (k + 1) ps.length y cy t) := by
  refine ⟨fun pins s σ H Q I ⟨hT, h⟩ => ?_⟩
  refine lam_make3 I TB hcode hmT hu hT hdef (fun z hz e => ⟨cy, by rw [show z.1 = y by simpa using (L.own z hz).2.2 e]; exact hcy⟩) fun f c' pm ctv H1 s' I1 eN T1 hfn hco => ?_
  rw [hcl _ cy hcy] at I1
  have e2 : Same H1 (upd H1 f (ObjX f (PySem.W.kla_obj "<lambda>" (X.env.qual ++ "<lambda>") params body scope [(y, cy)] pm c' ctv))) := same_new hfn
  refine ⟨.ref f, _, I1, rfl, h f _ (eN.trans (ext_same e2)) (T1.ext e2) ⟨c', _, _, upd_same, e2 _ _ hco, fun H3 v hf3 hc3 hca => ?_⟩⟩
  exact lamIs_mk (P := X.prog) (w := X.w) (K := X.K) (mg := X.mg) (base := X.base) (cap := [⟨y, cy, v⟩]) (t := t) L hf3 hc3 ⟨fun p hp => by rw [List.mem_singleton.mp hp]; exact hca, by simp⟩ (hbind _ _ _ _ _) (fun E A outer s H hr => hbody f c' v E A outer s H hr)
theorem k_lamCN {P : Program} {w : World} {K : PySem.W.Frag} {mg : PySem.Str → Option Value} {base : Heap} {q : PySem.Str} {T : List (Addr × PySem.Str)} {y : PySem.Str} {c Pt cy : Addr} {k : Nat} {params : Arguments} {body : Expr} {scope : Scope} {ps : List PySem.Str} {t : XK → TE} {pos : Pos}
    (eP : X.prog = P) (ew : X.w = w) (eK : X.K = K) (em : X.mg = mg) (eb : X.base = base) (eq : X.env.qual ++ "<lambda>" = q)
    (hcy : X.env.cells.lookup y = some cy) (TB : TabB base mg c Pt) (hcode : X.env.code = .ref c) (hmT : (Pt, q) ∈ T) (hu : ∀ p ∈ T, p.1 = Pt → p.2 = q)
    (L : LamQ scope ps [y]) (hcl : ∀ (cells : List (PySem.Str × Addr)) (c : Addr), cells.lookup y = some c → cloFrom cells scope.names [] = [(y, c)]) (hdef : defaultsOf params X.env = ([], []))
    (hbind : ∀ (q : PySem.Str) (cl : List (PySem.Str × Addr)) (pm cv ctv : Value) (us : List Value), us.length = ps.length → bindArgs (PySem.W.kla_fn "<lambda>" q params body scope cl pm cv ctv) ⟨us, []⟩ = pure (ps.zip us))
    (hbody : ∀ (f c' : Addr) (v : V) (E : XK) (A : Around) (outer : List Env) (s : Shared) (H : Hp), Room k (A.deeper (lamEnvQ q scope s.heap.objs.size f c' [⟨y, cy, v⟩])) → PE (lamCxQ P w K mg base A outer s H E q scope f c' ps [⟨y, cy, v⟩]) body (t E)) :
    PE X (.Lambda params body scope pos) (tLamC P w K mg base T (k + 1) ps.length y cy t) := by
  subst eP ew eK em eb eq
  exact pe_lamCN hcy TB hcode hmT hu L hcl hdef hbind hbody
end
/-! a comprehension in whose turns a cell of the def's own frame is lent -/
/-- the cell at c holds v; it stands apart from all that the block looks at -/
def CellHeld (X : Cx) (c : Addr) (v : V) (s : Shared) (H : Hp) (fp : List Addr) : Prop :=
  ∃ o u, s.heap.get? c = some o ∧ o.data = .cell (some u) ∧ RelV v u ∧ H c = none ∧ c ∉ fp ∧ c ∉ frs X.stack ∧ X.base.get? c = none
section
variable {X : Cx} {pins : List (Addr × Obj)} {σ : L2.St} {H : Hp} {s : Shared}
theorem cell_held {y : PySem.Str} {c : Addr} {v : V} {i : Nat} {fp : List Addr} (I : Inv X pins σ H s) (hN : X.N[i]? = some y) (hyc : X.env.scope.names.lookup y = some .cell) (hfn : X.fn y = true) (hc : X.env.cells.lookup y = some c) (hv : σ[i]? = some (some v)) (hfp : ∀ b ∈ fp, FpOk X pins H b) : CellHeld X c v s H fp := by
  obtain ⟨mm, hn, hloc⟩ := I.loc
  obtain ⟨u, ru, lk⟩ := hloc i y v hN hv (.inr (.inl hyc))
  have ge : X.s_0.heap.objs.size ≤ c := I.ok.cab y c hfn hc
  obtain ⟨o, hgo, hd⟩ : ∃ o, s.heap.get? c = some o ∧ o.data = .cell (some u) := by
    rcases lk with ⟨k1, _⟩ | ⟨_, c2, e2, z⟩
    · have k1 : X.env.scope.names.lookup y = some .local := k1
      rw [hyc] at k1; cases k1
    · rw [hc] at e2
      cases e2
      obtain ⟨o, z1, z2⟩ := z
      exact ⟨o, z1, z2⟩
  refine ⟨o, u, hgo, hd, ru, I.freeC y c hc, fun z => (hfp c z).2.2.2.2.1 y c hc rfl, fun z => ?_, ?_⟩
  · rcases List.mem_cons.mp (I.stkSub _ z) with e1 | e1
    · exact I.cne y _ hc e1
    · obtain ⟨_, ob, ho, _⟩ := I.ok.funs.mem e1
      exact Nat.lt_irrefl _ (Nat.lt_of_lt_of_le (Heap.lt_size ho) ge)
  · cases h : X.base.get? c with
    | none => rfl
    | some ob => exact absurd (Nat.lt_of_lt_of_le (Heap.lt_size h) (Nat.le_trans I.ok.bsz ge)) (Nat.lt_irrefl _)
/-- as tLc, the turns may lean on the cell's value -/
def tLcC (i : Nat) (wi : TI) (g : TG) (tt : TT) (te : V → TE) (vs : List Nat) : TE := fun σ H Q => ∃ v, σ[i]? = some (some v) ∧ tLc wi g tt (te v) vs σ H Q
set_option maxHeartbeats 2000000 in
/-- the turns of a block B, behind a list D that is being made -/
theorem lc_turns {B : Cx} {elt tg iter : Expr} {ifs : List Expr} {scope : Scope} {pos : Pos} {g : TG} {tt : TT} {te : TE} {J : It} {fp : List Addr} {it D : Addr} {tn : Nat → Heap → Prop} {σb : L2.St} {vs : List Nat} {Qd : Hp → Prop} {W : Nat → Nat → Hp → Prop} {m0 : Nat} {R : Result → Shared → Prop} {s4 : Shared} {H3 : Hp}
    (hex : B.ex = fp) (hpn : B.pn = []) (hxe : B.xe = fun _ _ => False) (hcalm : B.calm = true) (T : Turn B.prog B.w B.K tg J fp it tn) (pg : PG B tg g) (pt : PTs B ifs tt) (pe : PE B elt te)
    (I4 : Inv B [] σb H3 s4) (st4 : tn 0 s4.heap) (n4 : ∀ b ∈ fp, H3 b = none) (w0 : W 0 m0 H3)
    (turn : ∀ i m H, W i m H → (J.stop i H ∧ Qd H) ∨ (J.go i H ∧ ∃ Nx : Hp → Prop, (∀ H', Nx H' → ∃ m', m' < m ∧ W (i + 1) m' H') ∧ ∀ x H', J.yld i H x H' → g x σb H' fun σ2 H2 => wipe σ2 vs = σb ∧ tt σ2 H2 fun b H3 =>
      if b = true then te σ2 H3 fun y H4 => ∃ acc, H4 D = some (.lst acc) ∧ acc.length < sizeLine ∧ Nx (upd H4 D (.lst (acc ++ [y]))) else Nx H3))
    (fin : ∀ H' s', Inv B [] σb H' s' → Qd H' → R (.ok .next) s') :
    codeAny (model B.prog B.w) B.A (.compLoop (.ListComp elt [⟨tg, iter, ifs, 0⟩] scope pos) 0 (.ref it) (.ref D) B.env) R s4 := by
  subst hex
  have stat : ∀ {σ' : L2.St} {H' : Hp} {s' : Shared}, Inv B [] σ' H' s' → (∀ b ∈ B.ex, H' b = none) → ∀ b ∈ B.ex, FpOk B [] H' b := fun {σ' H' s'} I' hn b hb =>
    ⟨hn b hb, (I'.ok.exf b hb).1, I'.ok.exfs b hb, .inl hb, fun x c e => (I'.ok.exf b hb).2 x c e, fun q hq => by rw [hpn] at hq; exact absurd hq (by simp)⟩
  refine compLoop_any (fun n s' => ∃ i H', Inv B [] σb H' s' ∧ tn i s'.heap ∧ (∀ b ∈ B.ex, H' b = none) ∧ W i n H') ?_ m0 ⟨0, H3, I4, st4, n4, w0⟩
  rintro n s5 ⟨i, H5, I5, st5, n5, w5⟩
  rcases turn i n H5 w5 with ⟨stop, qd⟩ | ⟨go, Nx, hNx, step⟩
  · refine thnF (T.done B rfl rfl rfl hcalm i [] s5 _ H5 (fun _ _ => False) I5 (stat I5 n5) st5 stop) fun r s6 ⟨hr, I6⟩ => ?_
    subst hr
    exact fin H5 s6 I6 qd
  · refine thnF (T.item B rfl rfl rfl hcalm i [] s5 _ H5 (fun _ _ => False) I5 (stat I5 n5) st5 go) fun r s6 ⟨u, hr, h6⟩ => ?_
    subst hr
    refine thnF h6 fun _ s7 ⟨x, H7, I7, r7, y7, st7, n7⟩ => ?_
    have J7 := I7.pinned (stat I7 n7) (T.obj _ _ st7)
    have h8 := pg.run _ s7 _ H7 x u _ J7 r7 (step x H7 y7)
    have h9 := pt.run ([] ++ pinsAt B.ex s7.heap)
    have h10 := pe.run ([] ++ pinsAt B.ex s7.heap)
    simp only [hxe] at h8 h9 h10
    refine thnF h8 fun _ s8 ⟨σ8, H8, I8, hw8, q8⟩ => thnF (h9 s8 σ8 H8 _ I8 q8) fun b s9 ⟨H9, I9, q9⟩ => ?_
    have over : ∀ {s' : Shared} {H' : Hp}, Inv B ([] ++ pinsAt B.ex s7.heap) σ8 H' s' → Nx H' → ∃ m, m < n ∧ ∃ i H', Inv B [] σb H' s' ∧ tn i s'.heap ∧ (∀ b ∈ B.ex, H' b = none) ∧ W i m H' := fun {s' H'} I' nx => by
      obtain ⟨m', hm, w'⟩ := hNx H' nx
      have held : ∀ b ∈ B.ex, ∀ o, s7.heap.get? b = some o → s'.heap.get? b = some o ∧ H' b = none := fun b hb o e => by
        have z := I'.pin (b, o) (List.mem_append_right _ (List.mem_append_right _ (mem_pinsAt hb e)))
        exact ⟨z.1, z.2.1⟩
      refine ⟨m', hm, i + 1, H', (I'.unpinned (pins := [])).weak (by rw [← hw8, wipe_length]) (fun j v e => ?_), T.keep _ _ _ st7 fun b hb o e => (held b hb o e).1, fun b hb => ?_, w'⟩
      · rw [← hw8] at e
        exact (wipe_some e).1
      · obtain ⟨o, e, _⟩ := T.obj _ _ st7 b hb
        exact (held b hb o e).2
    cases b with
    | false => exact over I9 q9
    | true => exact thnF (h10 s9 σ8 H9 _ I9 q9) fun z s10 ⟨yv, H10, I10, r10, acc, hD10, hz10, nx⟩ => app_ok (X := B) I10 hD10 hz10 r10 fun s11 I11 => over I11 nx
set_option maxHeartbeats 2000000 in
theorem pe_lcC {elt tg iter : Expr} {ifs : List Expr} {scope : Scope} {own : List (PySem.Str × Nat)} {pos : Pos} {wi : TI} {g : TG} {tt : TT} {te : V → TE} {i : Nat} {y : PySem.Str} {cy : Addr} (hc : X.calm = true) (hN : X.N.Nodup) (hy : X.N[i]? = some y) (hyc : X.env.scope.names.lookup y = some .cell) (hfn : X.fn y = true) (hcy : X.env.cells.lookup y = some cy)
    (hi : PI X tg iter wi) (ok : BlkOk X.N X.env.scope scope own)
    (hg : ∀ (s : Shared) (H : Hp) (C : Addr) (cl : List (PySem.Str × Addr)) (fp : List Addr), PG (X.blk s H scope (compEnvC scope cl C X.env) fp) tg g) (ht : ∀ (s : Shared) (H : Hp) (C : Addr) (cl : List (PySem.Str × Addr)) (fp : List Addr), PTs (X.blk s H scope (compEnvC scope cl C X.env) fp) ifs tt)
    (he : ∀ (v : V) (s : Shared) (H : Hp) (C : Addr) (cl : List (PySem.Str × Addr)) (fp : List Addr), CellHeld X cy v s H fp → PE (X.blk s H scope (compEnvC scope cl C X.env) fp) elt (te v)) (hs : ∀ x, foldedSetIterable iter X.env x = pure x := by intro _; rfl) :
    PE X (.ListComp elt [⟨tg, iter, ifs, 0⟩] scope pos) (tLcC i wi g tt te (own.map (·.2))) := by
  refine ⟨fun pins s σ H Q I ⟨v, hv, h⟩ => ?_⟩
  rw [eval_ListComp]
  refine wpAny_comprehension_free (use := none) rfl hs (closure_ok fun z hz e => (ok.free z hz e).elim (fun k => I.ok.has _ (.inl k)) fun k => I.ok.has _ (.inr k)) ok.kind (fun z hz e => by rw [ok.uniq z hz, e])
    (thn (hi.run pins s σ H _ I h) fun xv s1 hx => thn hx fun itv s2 h2 => ?_)
  obtain ⟨it, fp, tn, J, H2, e, I2, T, st2, f2, q⟩ := h2
  subst e
  refine wpAny_newObj_type (newEnv_comp ?_) (by show 0 ≤ sizeLine; decide)
  have nD : H2 s2.heap.objs.size = none := I2.hok.fresh (Nat.le_refl _)
  obtain ⟨W, ⟨m0, w0⟩, turn⟩ := q _ nD
  have up : ∀ b o, s2.heap.get? b = some o → (s2.heap.push { cls := .type "list", data := .seq ([] : List Value).toArray }).get? b = some o := fun b o e => Heap.get?_push_of_some _ e
  have I3 : Inv X pins σ (upd H2 s2.heap.objs.size (.lst [])) { s2 with heap := s2.heap.push { cls := .type "list", data := .seq ([] : List Value).toArray } } := I2.laid (t' := s2.toks) up (Nat.le_refl _) ⟨Nat.zero_le _, [], 0, .nil, Heap.get?_push_size _ rfl⟩
  have f3 : ∀ b ∈ fp, FpOk X pins (upd H2 s2.heap.objs.size (.lst [])) b ∧ b < (s2.heap.push { cls := .type "list", data := .seq ([] : List Value).toArray }).objs.size := fun b hb => by
    obtain ⟨o, e, _⟩ := T.obj _ _ st2 b hb
    have hlt := Heap.lt_size e
    exact ⟨⟨by rw [upd_ne (Nat.ne_of_lt hlt)]; exact (f2 b hb).1, (f2 b hb).2⟩, by rw [Heap.size_push]; exact Nat.lt_succ_of_lt hlt⟩
  have st3 := T.keep _ _ _ st2 fun b _ o e => up b o e
  generalize s2.heap.objs.size = D at *
  have st4 : tn 0 (pushCells ((s2.heap.push { cls := .type "list", data := .seq ([] : List Value).toArray }).push { cls := .type "dict", data := .dict #[] }) scope.names) := T.keep _ _ _ st3 fun b _ o e => pushCells_keeps _ _ _ _ (Heap.get?_push_of_some _ e)
  have I4 := block_start I3 ok hN f3
  have ch := cell_held I3 hy hyc hfn hcy hv (fun b hb => (f3 b hb).1)
  have loop := lc_turns (B := X.blk _ _ scope (compEnvC scope _ _ X.env) fp) (elt := elt) (iter := iter) (scope := scope) (pos := pos) (R := compPost (model X.prog X.w) X.A X.xe none (EP X pins σ Q) (.ref D) (s2.heap.push { cls := .type "list", data := .seq ([] : List Value).toArray }).objs.size) rfl rfl rfl hc T (hg _ _ _ _ _) (ht _ _ _ _ _) (he v _ _ _ _ _ ch) I4 st4 (fun b hb => (f3 b hb).1.1) w0 turn (fun H5 s6 I6 qq => ?_)
  · exact codeAny_compStart_list loop (T.self X.A 0 _ _ _ st4 loop)
  · have I7 : Inv X pins σ H5 s6 := I3.call' (ch := fp) I6.os I6.base I6.hok I6.bare fun b hb => ⟨(f3 b hb).1.2.2.2.1, (f3 b hb).1.2.1, (f3 b hb).1.2.2.2.2.1, (f3 b hb).1.2.2.2.2.2⟩
    obtain ⟨m, hn, _⟩ := I6.loc
    obtain ⟨z0, z1, z2, z3, z4, z5⟩ := I3.fpOk (Nat.le_refl _) I6.free
    exact ⟨m, hn, fun h'' sb => ⟨.ref D, H5, I7.turned (t' := s6.toks) (fun b o hb e => (sb.2 b hb).trans e) z0 z1 z3 z4 z5, rfl, qq⟩⟩
theorem env0_lend2 {P : Program} {w : World} {K : PySem.W.Frag} {mg : PySem.Str → Option Value} {base : Heap} {A : Around} {outer : List Env} {s : Shared} {H : Hp} {c : Addr} {o : Obj} (e : Env0 P w K mg base A outer s H) (hcn : H c = none) (hg : s.heap.get? c = some o) (nb : base.get? c = none) (nfr : c ∉ frs outer) : Env0 P w K mg base A outer s (upd H c (ObjX c o)) := by
  refine ⟨e.frames, e.mod, fun b ob h => ⟨(e.bs b ob h).1, ?_⟩, e.bsz, e.funs, fun b hb => ?_, fun b u h => ?_, e.bare⟩
  · rw [upd_ne (fun z => by subst z; rw [nb] at h; cases h)]
    exact (e.bs b ob h).2
  · have hbc : b ≠ c := fun z => nfr (by rw [← z]; exact hb)
    rw [upd_ne hbc]
    exact e.frf b hb
  · by_cases hb : b = c
    · subst hb
      rw [upd_same] at h
      cases h
      exact objX_ok hg
    · rw [upd_ne hb] at h
      refine (e.hok b u h).stay (fun _ _ _ q => q) (fun d e => ?_) fun d xs e => ?_
      · rw [upd_ne (ne_of_none e hcn)]; exact e
      · rw [upd_ne (ne_of_none e hcn)]; exact e
def tLendB (T : List (Addr × PySem.Str)) (y : PySem.Str) (c : Addr) (spx : Sp) (ta : TA) (v : V) : TE := fun σ H Q =>
  ta σ H fun vs H1 => ∀ H3, Same H1 H3 → CapAt H3 ⟨y, c, v⟩ → spx vs H3 (fun r H' => ExtN H3 H' ∧ Tabs T H' ∧ ∀ H4, ExtN H1 H4 → Tabs T H4 → Q r H4) E0
theorem g_lendB {T : List (Addr × PySem.Str)} {y : PySem.Str} {c : Addr} {spx : Sp} {ta : TA} {v : V} {Q : VK} (h : ta σ H fun vs H1 => ∀ H3, Same H1 H3 → CapAt H3 ⟨y, c, v⟩ → spx vs H3 (fun r H' => ExtN H3 H' ∧ Tabs T H' ∧ ∀ H4, ExtN H1 H4 → Tabs T H4 → Q r H4) E0) : tLendB T y c spx ta v σ H Q := h
theorem pe_lendB {T : List (Addr × PySem.Str)} {x y : PySem.Str} {cy : Addr} {v : V} {j kk : Nat} {psx : List PySem.Str} {spx : Sp} {e : Expr} {es : List Expr} {t : TA} {p pos : Pos} {s0 : Shared} {H0 : Hp} {scope : Scope} {ce : Env} {fp : List Addr}
    (ch : CellHeld X cy v s0 H0 fp) (D : Df X.prog X.w X.K X.mg X.base CX0 j x psx spx) (hr : Room kk X.A) (hg : Gl (X.blk s0 H0 scope ce fp) x)
    (ha : PA (X.blk s0 H0 scope ce fp) (e :: es) t) (hjk : j ≤ kk := by decide) (hdb : (x == ("__debug__" : PySem.Str)) = false := by decide) (he : starEach (e :: es) ce = (false, eval e ce) :: starEach es ce := by rfl) (hpl : (backTo pos (starEach es ce)).any (·.1) = false := by rfl) :
    PE (X.blk s0 H0 scope ce fp) (.Call (.Name x p) (e :: es) [] pos) (tLendB T y cy spx t v) := by
  refine ⟨fun pins s σ H Q I h => ?_⟩
  obtain ⟨g, fd, F, m, kp, hb⟩ := D.ex
  refine wpAny_Call_Name_kw (ld_glob I hg m ?_ hdb)
  refine PySem.W.callWith_K (h₀ := X.base) I.ok.mod.kin kp (thn (ha.run pos pins s σ H _ I h) fun us s2 ⟨vs, H2, I2, r2, q2⟩ => ⟨I2.kIn, ?_⟩) he hpl
  obtain ⟨o, u, hg0, hd, ru, n0, nfp, nfr, nb⟩ := ch
  have hgo : s2.heap.get? cy = some o := I2.base.keep cy o hg0 n0 nfr nfp
  have hcn : H2 cy = none := I2.base.free cy o hg0 n0 nfp
  have s3 : Same H2 (upd H2 cy (ObjX cy o)) := same_new hcn
  have q3 := q2 _ s3 ⟨o, u, upd_same, hd, ru⟩
  have bs := hb s2 us I2.kIn (by rw [List.append_nil, ← r2.length]; exact F.len _ _ _ _ q3)
  rw [List.append_nil] at bs
  refine wpAny_call (codeAny_mono ((F.mono hjk).run X.A X.stack s2 _ ⟨us, []⟩ us vs _ _ hr (env0_lend2 I2.env0 hcn hgo nb nfr) bs r2 q3) fun r s' hq => ?_)
  match r, hq with
  | .error e, hq => exact (show False from hq).elim
  | .ok (.ret u), hq =>
    refine I2.after (ce_lend hcn hgo ?_)
    obtain ⟨v3, H', a1, a2, a3, a4, a5, a6, a7, a8⟩ := hq
    have hc' := a6 _ _ (upd_same (H := H2) (a := cy) (o := ObjX cy o)) objX_ne
    refine ⟨v3, H', a1, a2, a3, a4, a5, hc', a8 _ (fun b ob e n => ?_) (tabs_er a7 a4 hc' hd)⟩
    have nb := ne_of_none e hcn
    rw [er_out (by simpa using nb)]
    exact a6 b ob (s3 b ob e) n
end
/-! what is owned, where the heap around it changes -/
section
variable {K : PySem.W.Frag} {A A' H0 H H' H2 : Hp} {q r : Addr} {ps : List (Addr × T3)} {t : T3} {cs : List Addr}
/-- q and its rows -/
def ownAt (q : Addr) (ps : List (Addr × T3)) : List Addr := q :: ps.map Prod.fst
theorem er_same : Same (er H cs) H := fun b o e => by
  by_cases h : b ∈ cs
  · rw [er_in h] at e; cases e
  · rw [er_out h] at e; exact e
theorem same_er (s : Same A H) (hn : ∀ c ∈ cs, A c = none) : Same A (er H cs) := fun b o e => by
  rw [er_out (fun z => by rw [hn b z] at e; cases e)]
  exact s b o e
theorem Own.none_at (o : Own A H q ps) : ∀ c ∈ ownAt q ps, A c = none := fun c hc => by
  rcases List.mem_cons.mp hc with rfl | hc
  · exact o.new
  · obtain ⟨x, hx, rfl⟩ := List.mem_map.mp hc
    exact (o.each x hx).1
theorem Own.some_at (o : Own A H q ps) : ∀ c ∈ ownAt q ps, ∃ u, H c = some u := fun c hc => by
  rcases List.mem_cons.mp hc with rfl | hc
  · exact ⟨_, o.at_⟩
  · obtain ⟨x, hx, rfl⟩ := List.mem_map.mp hc
    exact ⟨_, (o.each x hx).2⟩
/-- it is owned behind all the rest, too -/
theorem Own.rest (o : Own A H q ps) : Own (er H (ownAt q ps)) H q ps := ⟨er_in List.mem_cons_self, o.at_, fun x hx => ⟨er_in (List.mem_cons_of_mem _ (List.mem_map.mpr ⟨x, hx, rfl⟩)), (o.each x hx).2⟩, o.nd⟩
/-- what is newer than what is taken out stays owned -/
theorem Own.apart (o : Own A H q ps) (hs : ∀ c ∈ cs, ∃ u, A c = some u) : Own A (er H cs) q ps := by
  have nin : ∀ b, A b = none → b ∉ cs := fun b e z => by obtain ⟨u, h⟩ := hs b z; rw [e] at h; cases h
  exact ⟨o.new, by rw [er_out (nin q o.new)]; exact o.at_, fun x hx => ⟨(o.each x hx).1, by rw [er_out (nin _ (o.each x hx).1)]; exact (o.each x hx).2⟩, o.nd⟩
/-- a row changed by a def -/
theorem own_rowB (o : Own H0 H q ps) {i : Nat} {t' : T3} (hi : ps[i]? = some (r, t)) (sb : SameBut r H H2) (e2 : H2 r = some (.lst (t'.l.map V.int))) : Own H0 H2 q (ps.set i (r, t')) := by
  have hx := List.mem_of_getElem? hi
  refine ⟨o.new, ?_, fun x hx' => ?_, ?_⟩
  · rw [map_set_fst (t' := t') hi pRef rfl]
    exact sb _ _ (Ne.symm (o.ne hx)) o.at_
  · obtain ⟨j, hj⟩ := List.getElem?_of_mem hx'
    rw [List.getElem?_set] at hj
    by_cases e : i = j
    · subst e
      rw [if_pos rfl, if_pos (List.getElem?_eq_some_iff.mp hi).1] at hj
      cases hj
      exact ⟨(o.each _ hx).1, e2⟩
    · rw [if_neg e] at hj
      have hm := List.mem_of_getElem? hj
      exact ⟨(o.each x hm).1, sb _ _ (fun z => e (nodup_at o.nd hi hj z.symm)) (o.each x hm).2⟩
  · rw [map_set_fst (t' := t') hi Prod.fst rfl]
    exact o.nd
/-- the last one dropped -/
theorem own_pop (o : Own H0 H q ps) : Own H0 (upd H q (.lst ((ps.map pRef).dropLast))) q ps.dropLast := by
  have sub : ∀ x ∈ ps.dropLast, x ∈ ps := fun x hx => (List.dropLast_sublist ps).subset hx
  refine ⟨o.new, by rw [upd_same, List.map_dropLast], fun x hx => ⟨(o.each x (sub x hx)).1, ?_⟩, ?_⟩
  · rw [upd_ne (o.ne (sub x hx))]
    exact (o.each x (sub x hx)).2
  · rw [List.map_dropLast]
    exact o.nd.sublist (List.dropLast_sublist _)
/-- behind a lambda whose cells are out of sight -/
theorem Own.rs (o : Own (er H cs) H' q ps) (hn : ∀ c ∈ cs, H' c = none) : Own H (rs H H' cs) q ps := by
  have nin : ∀ b u, H' b = some u → b ∉ cs := fun b u e z => by rw [hn b z] at e; cases e
  refine ⟨by have := o.new; rwa [er_out (nin _ _ o.at_)] at this, by rw [rs_out (nin _ _ o.at_)]; exact o.at_, fun x hx => ?_, o.nd⟩
  have h2 := (o.each x hx).2
  have h1 := (o.each x hx).1
  rw [er_out (nin _ _ h2)] at h1
  exact ⟨h1, by rw [rs_out (nin _ _ h2)]; exact h2⟩
end
theorem fn_ofC {P : Program} {w : World} {K : PySem.W.Frag} {mg : PySem.Str → Option Value} {base : Heap} {k : Nat} {f : Addr} {x : PySem.Str} {params : Arguments} {body : List Stmt} {scope : Scope} {kV doc pm cdv ct oc : Value} {an od : Option Addr} {osl : Array (Option Value)} {N ps : List PySem.Str} {sp : Sp}
    (lk : K.lookup f = some ⟨oc, od, .func (PySem.W.fnOf x x params body scope .none kV doc pm an cdv ct), osl⟩) (hcd : PySem.W.codeIn K cdv x = true) (S : FnScope N ps scope) (len : ∀ vs H Q E, sp vs H Q E → vs.length = ps.length)
    (hbody : ∀ (A : Around) (outer : List Env) (s : Shared) (H : Hp) (vs : List V) (Q : VK) (E : XK), Room k (A.deeper (envOfC x scope s.heap.objs.size f cdv)) → sp vs H Q E → ∃ t, PSs (cxOf CX0 P w K mg base N x scope f cdv A outer s H E).nox body t ∧ t { nx := fun _ H' => Q .non H', rt := Q } (start N vs) H) :
    FnOk P w K mg base CX0 (k + 1) f (PySem.W.fnOf x x params body scope .none kV doc pm an cdv ct) ps sp := fn_of lk hcd S len fun A outer s H vs Q E hr h => by
  obtain ⟨t, h1, h2⟩ := hbody A outer s H vs Q E hr h
  exact ⟨t, h1.nox, h2⟩
theorem er_upd_in {H : Hp} {cs : List Addr} {q : Addr} {o : HO} (h : q ∈ cs) : er (upd H q o) cs = er H cs := by
  funext b
  by_cases hb : b ∈ cs
  · rw [er_in hb, er_in hb]
  · rw [er_out hb, er_out hb, upd_ne (fun z => hb (by rw [z]; exact h))]
theorem er_upd_out {H : Hp} {cs : List Addr} {q : Addr} {o : HO} (h : q ∉ cs) : er (upd H q o) cs = upd (er H cs) q o := by
  funext b
  by_cases e : b = q
  · subst e
    rw [er_out h, upd_same, upd_same]
  · rw [upd_ne e]
    by_cases hb : b ∈ cs
    · rw [er_in hb, er_in hb]
    · rw [er_out hb, er_out hb, upd_ne e]
theorem ext_er {H H' : Hp} {cs : List Addr} (x : ExtN H H') : ExtN (er H cs) (er H' cs) := fun b o e n => by
  by_cases hb : b ∈ cs
  · rw [er_in hb] at e; cases e
  · rw [er_out hb] at e ⊢
    exact x b o e n
end G66
namespace G66
open PySem PySem.Spec PyProof.Rows L2
local macro_rules | `(tactic| walk_at "b") => `(tactic| first | assumption | exact (Bt.small (by omega)).mono (by decide) | (refine Bt.le ?_ ?_ (by assumption) <;> omega))
local macro_rules | `(tactic| walk_at "c") => `(tactic| first | (show (0 : Int) < _; omega) | exact ⟨by omega, (Bt.small (by omega)).mono (by decide)⟩ | exact ⟨by omega, Bt.mono (m := 4010) (by walk_at "b") (by decide)⟩ | exact ⟨4010, 4010, (by walk_at "b"), (by walk_at "b"), by decide⟩)
local macro_rules | `(tactic| walk_at "set") => `(tactic| first | ((repeat with_reducible apply set_s); (with_reducible exact set_z)) | exact rfl)
local macro_rules | `(tactic| walk_at "at") => `(tactic| first | assumption | with_reducible exact upd_same | ((with_reducible refine' at_made ?e1 ?e2 ?e3); (case e1 => assumption); (case e2 => assumption); (case e3 => (walk_at "at"))) | ((with_reducible refine' at_new ?e1 ?e3); (case e1 => assumption); (case e3 => (walk_at "at"))))
local macro_rules | `(tactic| walk_at "sq") => `(tactic| first | assumption | with_reducible exact SqL.of upd_same | ((with_reducible refine' sq_made ?e1 ?e2 ?e3); (case e1 => assumption); (case e2 => assumption); (case e3 => (walk_at "sq"))) | ((with_reducible refine' sq_new ?e1 ?e3); (case e1 => assumption); (case e3 => (walk_at "sq"))) | ((refine' SqL.of ?e3); (case e3 => (walk_at "at"))))
local macro_rules | `(tactic| walk_at "sqt") => `(tactic| first | assumption | with_reducible exact SqT.of upd_same | ((with_reducible refine' sqt_made ?e1 ?e2 ?e3); (case e1 => assumption); (case e2 => assumption); (case e3 => (walk_at "sqt"))) | ((with_reducible refine' sqt_new ?e1 ?e3); (case e1 => assumption); (case e3 => (walk_at "sqt"))) | ((refine' SqT.of ?e3); (case e3 => (walk_at "at"))))
local macro_rules | `(tactic| walk_at "sm") => `(tactic| first | assumption | exact Same.refl _ | ((with_reducible refine' sm_made ?e1 ?e2 ?e3); (case e1 => assumption); (case e2 => assumption); (case e3 => (walk_at "sm"))) | ((with_reducible refine' sm_new ?e1 ?e3); (case e1 => assumption); (case e3 => (walk_at "sm"))))
local macro_rules | `(tactic| walk_at "1") => `(tactic| first
  | ((with_reducible refine' g_var ?e0 ?_); (case e0 => (with_unfolding_all exact rfl)))
  | with_reducible refine g_seq ?_
  | with_reducible refine g_asg ?_
  | ((with_reducible refine' g_name ?e ?_); (case e => (walk_at "set")))
  | with_reducible refine g_op ?_
  | with_reducible refine g_c ?_
  | with_reducible refine g_rI0 ?_
  | ((with_reducible refine g_rI ?_ ?_); (focus (walk_at "c")))
  | with_reducible refine g_cons ?_
  | with_reducible refine g_nil ?_
  | with_reducible refine g_fn ?_
  | with_reducible refine g_ret ?_
  | with_reducible refine g_ifS ?_
  | with_reducible refine g_test ?_
  | with_reducible refine g_exbl ?_
  | with_reducible refine g_next ?_
  | with_reducible refine g_tB ?_
  | with_reducible refine g_not ?_
  | with_reducible refine g_and ?_
  | with_reducible refine g_or ?_
  | with_reducible refine g_andV ?_
  | with_reducible refine g_orV ?_
  | with_reducible refine g_notV ?_
  | with_reducible refine g_if ?_
  | with_reducible refine g_cb ?_
  | with_reducible refine g_two ?_
  | with_reducible refine g_one ?_
  | with_reducible refine g_par ?_
  | ((with_reducible refine' g_par2 ?e1 ?e2 ?_); (case e1 => (walk_at "set")); (case e2 => (walk_at "set")))
  | with_reducible refine g_drop ?_
  | with_reducible refine g_retN ?_
  | with_reducible refine iteT ?_
  | with_reducible refine iteF ?_
  | with_reducible refine iteNT ?_
  | with_reducible refine iteNF ?_
  | with_reducible refine g_un ?_
  | with_reducible refine g_rU ?_
  | with_reducible refine g_chain ?_
  | with_reducible refine g_chain3 ?_
  | with_reducible refine g_chain4 ?_
  | with_reducible refine g_listRg ?_
  | with_reducible refine g_rg1 ?_
  | with_reducible refine g_exint ?_
  | with_reducible refine g_eqB ?_
  | with_reducible refine g_neB ?_
  | with_reducible refine g_exbb ?_
  | with_reducible refine g_sl ?_
  | with_reducible refine g_part ?_
  | with_reducible refine g_noPart ?_
  | ((with_reducible refine' g_aug ?e0 ?_); (case e0 => (with_unfolding_all exact rfl)))
  | ((with_reducible refine' g_augk ?e ?_); (case e => (walk_at "set")))
  | with_reducible refine g_ipI ?_
  | with_reducible refine g_tup ?_
  | with_reducible refine g_lst ?_
  | ((with_reducible refine' g_fresh ?e0 ?_); (case e0 => (with_unfolding_all exact rfl)))
  | ((with_reducible refine' g_gtupN ?e0 ?_); (case e0 => (with_unfolding_all exact rfl)))
  | with_reducible refine g_gcons ?_
  | with_reducible refine g_gnil ?_
  | with_reducible refine g_isi_ii ?_
  | with_reducible refine g_isi_ib ?_
  | with_reducible refine g_isi_bb ?_
  | with_reducible refine g_mt ?_
  | with_reducible refine g_for ?_
  | with_reducible refine g_ilist ?_
  | with_reducible refine g_itup ?_
  | with_reducible refine g_range ?_
  | with_reducible refine g_irng1 ?_
  | with_reducible refine g_yes ?_
  | with_reducible refine g_lc ?_
  | ((with_reducible refine' g_isi_own ?e0 ?e1 ?e2 ?_); (case e0 => (walk_at "at")); (case e1 => (assumption)); (case e2 => (assumption)))
  | ((with_reducible refine' g_recv ?e0 ?e1 ?_); (case e0 => (walk_at "at")); (case e1 => (with_unfolding_all exact rfl)))
  | ((with_reducible refine' g_in2L ?e0 ?_); (case e0 => (walk_at "sq")))
  | ((with_reducible refine' g_ne3B ?e0 ?e1 ?_); (case e0 => (walk_at "sq")); (case e1 => (walk_at "sq")))
  | ((with_reducible refine' g_any3 ?e0 ?_); (case e0 => (walk_at "sq")))
  | ((with_reducible refine' g_all3 ?e0 ?_); (case e0 => (walk_at "sq")))
  | with_reducible refine g_bm ?_
  | with_reducible refine g_izip ?_
  | with_reducible refine g_ienum ?_
  | with_reducible refine g_ikeys ?_
  | with_reducible refine g_ivals ?_
  | with_reducible refine g_din ?_
  | with_reducible refine g_par3 ?_
  | ((with_reducible refine' g_count3 ?e0 ?_); (case e0 => (walk_at "sq")))
  | with_reducible refine g_dnotin ?_
  | with_reducible refine g_tfld ?_
  | with_reducible refine g_sfld ?_
  | with_reducible refine g_mk ?_
  | with_reducible refine g_dnew ?_
  | with_reducible refine g_dget2 ?_
  | with_reducible refine g_dput ?_
  | with_reducible refine g_dget ?_
  | with_reducible refine g_bits ?_
  | with_reducible refine g_while ?_
  | with_reducible refine g_bm0 ?_
  | ((with_reducible refine' g_tyL ?e0 ?_); (case e0 => (walk_at "at")))
  | walk_at "u"
  | ((with_reducible refine' iteTd ?e0 ?_); (case e0 => (decide)))
  | ((with_reducible refine' iteFd ?e0 ?_); (case e0 => (decide))))
local macro_rules | `(tactic| walk_at "f") => `(tactic| first
  | ((with_reducible refine' g_fresh ?e ?_); (case e => (with_unfolding_all exact rfl)); (intro _ _))
  | ((with_reducible refine g_mkO ?_); (intro _ _ _ _ _))
  | ((with_reducible refine' g_slL ?e ?_); (case e => (walk_at "sq")); (intro _ _)))
local macro_rules | `(tactic| walk_at "ga") => `(tactic| repeat (first | walk_at "f" | walk_at "1"))
local macro_rules | `(tactic| walk_at "g") => `(tactic| repeat walk_at "1")
structure Cs where
  Answer : Addr
  Can : Addr
  Unpaired : Addr
  Unshared : Addr
  Plan : Addr
  Apart : Addr
  Twice : Addr
  ThreeError : Addr
  BadPeople : Addr
  BadPerson : Addr
  BadThrees : Addr
  BadNumber : Addr
  NoPlan : Addr
  code_law : Addr
  tab_law : Addr
def topS (i : Nat) : Stmt := PySem.Challenge.pw_pairthrees_k09_handed_stays.main.body.getD i (.Pass ⟨0, 0, 0, 0⟩)
abbrev s_is_number : Stmt := topS 8
theorem sc_is_number : FnScope ["thing", "least"] ["thing", "least"] (defScope s_is_number) := ⟨rfl, rfl, rfl, by decide +kernel, rfl, by decide +kernel, by decide +kernel⟩
abbrev s_check_people : Stmt := topS 9
theorem sc_check_people : FnScope ["people"] ["people"] (defScope s_check_people) := ⟨rfl, rfl, rfl, by decide +kernel, rfl, by decide +kernel, by decide +kernel⟩
abbrev s_is_three : Stmt := topS 10
theorem sc_is_three : FnScope ["thing", "people", "one"] ["thing", "people"] (defScope s_is_three) := ⟨rfl, rfl, rfl, by decide +kernel, rfl, by decide +kernel, by decide +kernel⟩
abbrev s_check_threes : Stmt := topS 11
theorem sc_check_threes : FnScope ["people", "threes", "three"] ["people", "threes"] (defScope s_check_threes) := ⟨rfl, rfl, rfl, by decide +kernel, rfl, by decide +kernel, by decide +kernel⟩
abbrev s_is_even : Stmt := topS 12
theorem sc_is_even : FnScope ["people"] ["people"] (defScope s_is_even) := ⟨rfl, rfl, rfl, by decide +kernel, rfl, by decide +kernel, by decide +kernel⟩
abbrev s_is_unshared : Stmt := topS 13
theorem sc_is_unshared : FnScope ["people"] ["people"] (defScope s_is_unshared) := ⟨rfl, rfl, rfl, by decide +kernel, rfl, by decide +kernel, by decide +kernel⟩
abbrev s_times_together : Stmt := topS 14
theorem sc_times_together : FnScope ["people", "threes", "found", "one", "other", "last", "pair"] ["people", "threes"] (defScope s_times_together) := ⟨rfl, rfl, rfl, by decide +kernel, rfl, by decide +kernel, by decide +kernel⟩
abbrev s_is_plan : Stmt := topS 15
theorem sc_is_plan : FnScope ["people", "threes", "times", "often"] ["people", "threes"] (defScope s_is_plan) := ⟨rfl, rfl, rfl, by decide +kernel, rfl, by decide +kernel, by decide +kernel⟩
abbrev s_Plan_shows : Stmt := inClass (topS 18) 0
theorem sc_Plan_shows : FnScope ["self", "people", "threes"] ["self", "people", "threes"] (defScope s_Plan_shows) := ⟨rfl, rfl, rfl, by decide +kernel, rfl, by decide +kernel, by decide +kernel⟩
abbrev s_Apart_init : Stmt := inClass (topS 19) 0
theorem sc_Apart_init : FnScope ["self", "one", "other"] ["self", "one", "other"] (defScope s_Apart_init) := ⟨rfl, rfl, rfl, by decide +kernel, rfl, by decide +kernel, by decide +kernel⟩
abbrev s_Apart_shows : Stmt := inClass (topS 19) 1
theorem sc_Apart_shows : FnScope ["self", "people", "threes", "three"] ["self", "people", "threes"] (defScope s_Apart_shows) := ⟨rfl, rfl, rfl, by decide +kernel, rfl, by decide +kernel, by decide +kernel⟩
abbrev s_Twice_init : Stmt := inClass (topS 20) 0
theorem sc_Twice_init : FnScope ["self", "first", "second"] ["self", "first", "second"] (defScope s_Twice_init) := ⟨rfl, rfl, rfl, by decide +kernel, rfl, by decide +kernel, by decide +kernel⟩
abbrev s_Twice_shows : Stmt := inClass (topS 20) 1
theorem sc_Twice_shows : FnScope ["self", "people", "threes", "one"] ["self", "people", "threes"] (defScope s_Twice_shows) := ⟨rfl, rfl, rfl, by decide +kernel, rfl, by decide +kernel, by decide +kernel⟩
abbrev s_told : Stmt := topS 22
theorem sc_told : FnScope ["people", "threes", "seen", "at", "three", "pair", "other", "one"] ["people", "threes"] (defScope s_told) := ⟨rfl, rfl, rfl, by decide +kernel, rfl, by decide +kernel, by decide +kernel⟩
abbrev s_doubled : Stmt := topS 23
theorem sc_doubled : FnScope ["people", "threes", "one", "found", "other", "last"] ["people", "threes"] (defScope s_doubled) := ⟨rfl, rfl, rfl, by decide +kernel, rfl, by decide +kernel, by decide +kernel⟩
abbrev s_wide_of : Stmt := topS 25
theorem sc_wide_of : FnScope ["people"] ["people"] (defScope s_wide_of) := ⟨rfl, rfl, rfl, by decide +kernel, rfl, by decide +kernel, by decide +kernel⟩
abbrev s_met : Stmt := topS 26
theorem sc_met : FnScope ["wide", "one", "other", "both"] ["wide", "one", "other"] (defScope s_met) := ⟨rfl, rfl, rfl, by decide +kernel, rfl, by decide +kernel, by decide +kernel⟩
abbrev s_many_of : Stmt := topS 27
theorem sc_many_of : FnScope ["people"] ["people"] (defScope s_many_of) := ⟨rfl, rfl, rfl, by decide +kernel, rfl, by decide +kernel, by decide +kernel⟩
abbrev s_alone_of : Stmt := topS 28
theorem sc_alone_of : FnScope ["people", "wide"] ["people"] (defScope s_alone_of) := ⟨rfl, rfl, rfl, by decide +kernel, rfl, by decide +kernel, by decide +kernel⟩
abbrev s_root_of : Stmt := topS 29
theorem sc_root_of : FnScope ["number", "now"] ["number"] (defScope s_root_of) := ⟨rfl, rfl, rfl, by decide +kernel, rfl, by decide +kernel, by decide +kernel⟩
abbrev s_three_of : Stmt := topS 30
theorem sc_three_of : FnScope ["people", "number", "wide", "straight", "alone", "row", "place", "pairs", "high", "low"] ["people", "number"] (defScope s_three_of) := ⟨rfl, rfl, rfl, by decide +kernel, rfl, by decide +kernel, by decide +kernel⟩
abbrev s_check_plan : Stmt := topS 32
theorem sc_check_plan : FnScope ["people"] ["people"] (defScope s_check_plan) := ⟨rfl, rfl, rfl, by decide +kernel, rfl, by decide +kernel, by decide +kernel⟩
abbrev s_many : Stmt := topS 33
theorem sc_many : FnScope ["people"] ["people"] (defScope s_many) := ⟨rfl, rfl, rfl, by decide +kernel, rfl, by decide +kernel, by decide +kernel⟩
abbrev s_three_by : Stmt := topS 34
theorem sc_three_by : FnScope ["people", "number"] ["people", "number"] (defScope s_three_by) := ⟨rfl, rfl, rfl, by decide +kernel, rfl, by decide +kernel, by decide +kernel⟩
abbrev s__law_copied : Stmt := topS 36
theorem sc__law_copied : FnScope ["_law_thing", "_law_one"] ["_law_thing"] (defScope s__law_copied) := ⟨rfl, rfl, rfl, by decide +kernel, rfl, by decide +kernel, by decide +kernel⟩
abbrev s__law_spoiled : Stmt := topS 37
theorem sc__law_spoiled : FnScope ["_law_thing", "_law_one"] ["_law_thing"] (defScope s__law_spoiled) := ⟨rfl, rfl, rfl, by decide +kernel, rfl, by decide +kernel, by decide +kernel⟩
abbrev s__law_laid : Stmt := topS 38
theorem sc__law_laid : FnScope ["_law_mine", "_law_other", "_law_at", "_law_one"] ["_law_mine", "_law_other"] (defScope s__law_laid) := ⟨rfl, rfl, rfl, by decide +kernel, rfl, by decide +kernel, by decide +kernel⟩
abbrev s__law_door_right : Stmt := topS 39
theorem sc__law_door_right : FnScope ["_law_ask", "_law_one", "_law_other", "_law_mine", "_law_given", "_law_before"] ["_law_ask", "_law_one", "_law_other"] (defScope s__law_door_right) := ⟨rfl, rfl, rfl, by decide +kernel, rfl, by decide +kernel, by decide +kernel⟩
abbrev s__law_told : Stmt := topS 40
theorem sc__law_told : FnScope ["_law_found"] ["_law_found"] (defScope s__law_told) := ⟨rfl, rfl, rfl, by decide +kernel, rfl, by decide +kernel, by decide +kernel⟩
abbrev s__law_free_right : Stmt := topS 41
theorem sc__law_free_right : FnScope ["_law_ask", "_law_holds", "_law_one", "_law_other", "_law_mine", "_law_things", "_law_found"] ["_law_ask", "_law_holds", "_law_one", "_law_other"] (defScope s__law_free_right) := ⟨rfl, rfl, rfl, by decide +kernel, rfl, by decide +kernel, by decide +kernel⟩
abbrev s_law : Stmt := topS 42
theorem sc_law : FnScope ["_law_script", "_law_cells", "_law_more", "_law_asks", "_law_frees", "_law_plan", "_law_turned", "_law_word", "_law_people", "_law_number", "_law_three", "_law_ask", "_law_holds", "_law_one", "_law_other", "_law_place"] ["_law_script"] (defScope s_law) := ⟨rfl, rfl, rfl, by decide +kernel, rfl, by decide +kernel, by decide +kernel⟩
structure Top (K : PySem.W.Frag) (mg : PySem.Str → Option Value) (c : Cs) : Prop where
  f_is_number : Dfn K mg "is_number" s_is_number
  f_check_people : Dfn K mg "check_people" s_check_people
  f_is_three : Dfn K mg "is_three" s_is_three
  f_check_threes : Dfn K mg "check_threes" s_check_threes
  f_is_even : Dfn K mg "is_even" s_is_even
  f_is_unshared : Dfn K mg "is_unshared" s_is_unshared
  f_times_together : Dfn K mg "times_together" s_times_together
  f_is_plan : Dfn K mg "is_plan" s_is_plan
  f_told : Dfn K mg "told" s_told
  f_doubled : Dfn K mg "doubled" s_doubled
  f_wide_of : Dfn K mg "wide_of" s_wide_of
  f_met : Dfn K mg "met" s_met
  f_many_of : Dfn K mg "many_of" s_many_of
  f_alone_of : Dfn K mg "alone_of" s_alone_of
  f_root_of : Dfn K mg "root_of" s_root_of
  f_three_of : Dfn K mg "three_of" s_three_of
  f_check_plan : Dfn K mg "check_plan" s_check_plan
  f_many : Dfn K mg "many" s_many
  f_three_by : Dfn K mg "three_by" s_three_by
  f__law_copied : Dfn K mg "_law_copied" s__law_copied
  f__law_spoiled : Dfn K mg "_law_spoiled" s__law_spoiled
  f__law_laid : Dfn K mg "_law_laid" s__law_laid
  f__law_door_right : Dfn K mg "_law_door_right" s__law_door_right
  f__law_told : Dfn K mg "_law_told" s__law_told
  f__law_free_right : Dfn K mg "_law_free_right" s__law_free_right
  f_law : DfnC K mg "law" s_law c.code_law
  z_isinstance : mg "isinstance" = none
  z_max : mg "max" = none
  z_len : mg "len" = none
  z_range : mg "range" = none
  z_all : mg "all" = none
  z_any : mg "any" = none
  z_int : mg "int" = none
  z_bool : mg "bool" = none
  z_sorted : mg "sorted" = none
  z_list : mg "list" = none
  z_enumerate : mg "enumerate" = none
  z_sum : mg "sum" = none
  z_abs : mg "abs" = none
  mg_Answer : mg "Answer" = some (.ref c.Answer)
  cf_Answer : CF K c.Answer
  mk_Answer : MkO K c.Answer
  mg_Plan : mg "Plan" = some (.ref c.Plan)
  cf_Plan : CF K c.Plan
  mk_Plan : MkO K c.Plan
  m_Plan_shows : Mfn K c.Plan "shows" "Plan.shows" s_Plan_shows
  mg_Apart : mg "Apart" = some (.ref c.Apart)
  cf_Apart : CF K c.Apart
  mi_Apart : MkI K c.Apart "Apart.__init__" s_Apart_init
  m_Apart_shows : Mfn K c.Apart "shows" "Apart.shows" s_Apart_shows
  mg_Twice : mg "Twice" = some (.ref c.Twice)
  cf_Twice : CF K c.Twice
  mi_Twice : MkI K c.Twice "Twice.__init__" s_Twice_init
  m_Twice_shows : Mfn K c.Twice "shows" "Twice.shows" s_Twice_shows
  na_Apart_one : NoAttr K c.Apart "one"
  na_Apart_other : NoAttr K c.Apart "other"
  na_Twice_first : NoAttr K c.Twice "first"
  na_Twice_second : NoAttr K c.Twice "second"
  mg_MOST : ∃ t, mg "MOST_JUDGED" = some (.int 100 t)
def tabsOf (c : Cs) : List (Addr × PySem.Str) := [(c.tab_law, ((("law" : PySem.Str) ++ ".<locals>.") ++ "<lambda>"))]
theorem tabs_in_0 (c : Cs) : (c.tab_law, ((("law" : PySem.Str) ++ ".<locals>.") ++ "<lambda>")) ∈ tabsOf c := by simp [tabsOf]
theorem tabs_un_0 {K : PySem.W.Frag} {mg : PySem.Str → Option Value} {c : Cs} (T : Top K mg c) : ∀ p ∈ tabsOf c, p.1 = c.tab_law → p.2 = ((("law" : PySem.Str) ++ ".<locals>.") ++ "<lambda>") := by
  intro p hp e
  simp only [tabsOf, List.mem_cons, List.not_mem_nil, or_false] at hp
  rcases hp with rfl
  · rfl
def sp_is_number (K : PySem.W.Frag) (c : Cs) : Sp := fun vs H Q E => match vs with | [.int x, .int l] => Q (.bl (decide (l ≤ x))) H | _ => False
theorem u_is_number {K : PySem.W.Frag} {c : Cs} {H : Hp} {Q : VK} {E : XK} {x : Int} {l : Int} (h : Q (.bl (decide (l ≤ x))) H) : sp_is_number K c [.int x, .int l] H Q E := h
local macro_rules | `(tactic| walk_at "u") => `(tactic| with_reducible refine u_is_number ?_)
set_option maxHeartbeats 4000000 in
theorem d_is_number {P : Program} {w : World} {K : PySem.W.Frag} {mg : PySem.Str → Option Value} {base : Heap} {c : Cs} (T : Top K mg c) : Df P w K mg base CX0 1 "is_number" ["thing", "least"] (sp_is_number K c) := by
  refine T.f_is_number.ok sc_is_number (fun _ _ _ _ _ _ us hl => match us, hl with | [_, _], _ => rfl) (fun vs H Q E h => ?_) (fun f cdv A outer s H vs Q E hr h => ?_)
  · unfold sp_is_number at h; split at h
    · rfl
    · exact h.elim
  · unfold sp_is_number at h; split at h
    case h_2 => exact h.elim
    rename_i x l
    refine ⟨_, (pss_one (ps_ret (pe_and (pe_callB (k_isi (K := K) rfl) (by rfl) T.z_isinstance (by decide +kernel) (pa_cons (pv 0) (pa_cons (pe_bltn (v := .ty "int") (by rfl) T.z_int (by decide +kernel) rfl) pa_nil))) (pe_and (pe_not (pe_callB (k_isi (K := K) rfl) (by rfl) T.z_isinstance (by decide +kernel) (pa_cons (pv 0) (pa_cons (pe_bltn (v := .ty "bool") (by rfl) T.z_bool (by decide +kernel) rfl) pa_nil)))) (pe_one (pe_cmpR op_ge (pv 0) (pv 1) (nomark _))))))), start_eq (σ := [some (.int x), some (.int l)]) rfl ?_⟩
    walk_at "g"
    exact h
def sp_check_people (K : PySem.W.Frag) (c : Cs) : Sp := fun vs H Q E => match vs with | [.int p] => 1 ≤ p ∧ Q .non H | _ => False
theorem u_check_people {K : PySem.W.Frag} {c : Cs} {H : Hp} {Q : VK} {E : XK} {p : Int} (h : 1 ≤ p ∧ Q .non H) : sp_check_people K c [.int p] H Q E := h
local macro_rules | `(tactic| walk_at "u") => `(tactic| with_reducible refine u_check_people ?_)
set_option maxHeartbeats 4000000 in
theorem d_check_people {P : Program} {w : World} {K : PySem.W.Frag} {mg : PySem.Str → Option Value} {base : Heap} {c : Cs} (T : Top K mg c) : Df P w K mg base CX0 2 "check_people" ["people"] (sp_check_people K c) := by
  have c_is_number := d_is_number (P := P) (w := w) (base := base) T
  refine T.f_check_people.ok sc_check_people (fun _ _ _ _ _ _ us hl => match us, hl with | [_], _ => rfl) (fun vs H Q E h => ?_) (fun f cdv A outer s H vs Q E hr h => ?_)
  · unfold sp_check_people at h; split at h
    · rfl
    · exact h.elim
  · unfold sp_check_people at h; split at h
    case h_2 => exact h.elim
    rename_i p
    obtain ⟨h0, h⟩ := h
    refine ⟨_, (pss_one (ps_if (pt_not (pt_val (pe_fn c_is_number hr (by rfl) pass0 (pa_cons (pv 0) (pa_cons pe_int pa_nil)))))
      (pss_one ps_never)
      pss_nil)), start_eq (σ := [some (.int p)]) rfl ?_⟩
    walk_at "g"
    refine ifNF h0 ?_
    walk_at "g"
    exact h
def sp_is_even (K : PySem.W.Frag) (c : Cs) : Sp := fun vs H Q E => match vs with | [.int p] => Q (.bl (decide (p % 2 = 0))) H | _ => False
theorem u_is_even {K : PySem.W.Frag} {c : Cs} {H : Hp} {Q : VK} {E : XK} {p : Int} (h : Q (.bl (decide (p % 2 = 0))) H) : sp_is_even K c [.int p] H Q E := h
local macro_rules | `(tactic| walk_at "u") => `(tactic| with_reducible refine u_is_even ?_)
set_option maxHeartbeats 4000000 in
theorem d_is_even {P : Program} {w : World} {K : PySem.W.Frag} {mg : PySem.Str → Option Value} {base : Heap} {c : Cs} (T : Top K mg c) : Df P w K mg base CX0 1 "is_even" ["people"] (sp_is_even K c) := by
  refine T.f_is_even.ok sc_is_even (fun _ _ _ _ _ _ us hl => match us, hl with | [_], _ => rfl) (fun vs H Q E h => ?_) (fun f cdv A outer s H vs Q E hr h => ?_)
  · unfold sp_is_even at h; split at h
    · rfl
    · exact h.elim
  · unfold sp_is_even at h; split at h
    case h_2 => exact h.elim
    rename_i p
    refine ⟨_, (pss_one (ps_ret (pe_cmpR op_eqI (pe_op op_mod (pv 0) pe_int) pe_int (nomark _)))), start_eq (σ := [some (.int p)]) rfl ?_⟩
    walk_at "g"
    exact h
def sp_is_unshared (K : PySem.W.Frag) (c : Cs) : Sp := fun vs H Q E => match vs with | [.int p] => (1 ≤ p ∧ Bt 4000 p) ∧ Q (.bl (!decide (p * (p - 1) / 2 % 3 = 0))) H | _ => False
theorem u_is_unshared {K : PySem.W.Frag} {c : Cs} {H : Hp} {Q : VK} {E : XK} {p : Int} (h : (1 ≤ p ∧ Bt 4000 p) ∧ Q (.bl (!decide (p * (p - 1) / 2 % 3 = 0))) H) : sp_is_unshared K c [.int p] H Q E := h
local macro_rules | `(tactic| walk_at "u") => `(tactic| with_reducible refine u_is_unshared ?_)
set_option maxHeartbeats 4000000 in
theorem d_is_unshared {P : Program} {w : World} {K : PySem.W.Frag} {mg : PySem.Str → Option Value} {base : Heap} {c : Cs} (T : Top K mg c) : Df P w K mg base CX0 1 "is_unshared" ["people"] (sp_is_unshared K c) := by
  refine T.f_is_unshared.ok sc_is_unshared (fun _ _ _ _ _ _ us hl => match us, hl with | [_], _ => rfl) (fun vs H Q E h => ?_) (fun f cdv A outer s H vs Q E hr h => ?_)
  · unfold sp_is_unshared at h; split at h
    · rfl
    · exact h.elim
  · unfold sp_is_unshared at h; split at h
    case h_2 => exact h.elim
    rename_i p
    obtain ⟨⟨h0, hp⟩, h⟩ := h
    have hq := hp.big
    refine ⟨_, (pss_one (ps_ret (pe_cmpR op_neI (pe_op op_mod (pe_op op_fdivB (pe_op op_mulB (pv 0) (pe_op op_sub (pv 0) pe_int)) pe_int) pe_int) pe_int (nomark _)))), start_eq (σ := [some (.int p)]) rfl ?_⟩
    walk_at "g"
    exact h
def sp_wide_of (K : PySem.W.Frag) (c : Cs) : Sp := fun vs H Q E => match vs with | [.int p] => Q (.int (wideOf p)) H | _ => False
theorem u_wide_of {K : PySem.W.Frag} {c : Cs} {H : Hp} {Q : VK} {E : XK} {p : Int} (h : Q (.int (wideOf p)) H) : sp_wide_of K c [.int p] H Q E := h
local macro_rules | `(tactic| walk_at "u") => `(tactic| with_reducible refine u_wide_of ?_)
set_option maxHeartbeats 4000000 in
theorem d_wide_of {P : Program} {w : World} {K : PySem.W.Frag} {mg : PySem.Str → Option Value} {base : Heap} {c : Cs} (T : Top K mg c) : Df P w K mg base CX0 1 "wide_of" ["people"] (sp_wide_of K c) := by
  refine T.f_wide_of.ok sc_wide_of (fun _ _ _ _ _ _ us hl => match us, hl with | [_], _ => rfl) (fun vs H Q E h => ?_) (fun f cdv A outer s H vs Q E hr h => ?_)
  · unfold sp_wide_of at h; split at h
    · rfl
    · exact h.elim
  · unfold sp_wide_of at h; split at h
    case h_2 => exact h.elim
    rename_i p
    refine ⟨_, (pss_one (ps_ret (pe_op op_fdivB (pv 0) pe_int))), start_eq (σ := [some (.int p)]) rfl ?_⟩
    walk_at "g"
    exact h
def sp_met (K : PySem.W.Frag) (c : Cs) : Sp := fun vs H Q E => match vs with | [.int w, .int a, .int b] => (0 < w ∧ Bt 4000 w) ∧ Q (.int (met w a b)) H | _ => False
theorem u_met {K : PySem.W.Frag} {c : Cs} {H : Hp} {Q : VK} {E : XK} {w : Int} {a : Int} {b : Int} (h : (0 < w ∧ Bt 4000 w) ∧ Q (.int (met w a b)) H) : sp_met K c [.int w, .int a, .int b] H Q E := h
local macro_rules | `(tactic| walk_at "u") => `(tactic| with_reducible refine u_met ?_)
set_option maxHeartbeats 4000000 in
theorem d_met {P : Program} {w : World} {K : PySem.W.Frag} {mg : PySem.Str → Option Value} {base : Heap} {c : Cs} (T : Top K mg c) : Df P w K mg base CX0 1 "met" ["wide", "one", "other"] (sp_met K c) := by
  refine T.f_met.ok sc_met (fun _ _ _ _ _ _ us hl => match us, hl with | [_, _, _], _ => rfl) (fun vs H Q E h => ?_) (fun f cdv A outer s H vs Q E hr h => ?_)
  · unfold sp_met at h; split at h
    · rfl
    · exact h.elim
  · unfold sp_met at h; split at h
    case h_2 => exact h.elim
    rename_i w a b
    obtain ⟨⟨h0, hp⟩, h⟩ := h
    have hq := hp.big
    refine ⟨_, (pss_cons (ps_set (i := 3) sc_met.nd rfl (.inl rfl) (pe_op op_mod (pe_op op_add (pv 1) (pv 2)) (pv 0)))
      (pss_cons (ps_if (pt_cmpR op_eqI (pe_op op_mod (pv 0) pe_int) pe_int (nomark _))
      (pss_one (ps_ret (pe_op op_mod (pe_op op_fdivB (pe_op op_mulB (pv 3) (pe_op op_add (pv 0) pe_int)) pe_int) (pv 0))))
      pss_nil)
      (pss_one (ps_ret (pe_op op_add (pe_op op_fdivB (pv 3) pe_int) (pe_op op_mulB (pe_op op_mod (pv 3) pe_int) (pe_op op_fdivB (pv 0) pe_int))))))), start_eq (σ := [some (.int w), some (.int a), some (.int b), none]) rfl ?_⟩
    have hm := Int.emod_nonneg (a + b) (show w ≠ 0 by omega)
    have hm' := Int.emod_lt_of_pos (a + b) h0
    unfold met at h
    walk_at "g"
    refine ifD (fun c => ?_) (fun c => ?_)
    · rw [if_pos c] at h
      walk_at "g"
      exact h
    · rw [if_neg c] at h
      walk_at "g"
      exact h
def sp_check_plan (K : PySem.W.Frag) (c : Cs) : Sp := fun vs H Q E => match vs with | [.int p] => (Can p ∧ Bt 4000 p) ∧ Q .non H | _ => False
theorem u_check_plan {K : PySem.W.Frag} {c : Cs} {H : Hp} {Q : VK} {E : XK} {p : Int} (h : (Can p ∧ Bt 4000 p) ∧ Q .non H) : sp_check_plan K c [.int p] H Q E := h
local macro_rules | `(tactic| walk_at "u") => `(tactic| with_reducible refine u_check_plan ?_)
set_option maxHeartbeats 4000000 in
theorem d_check_plan {P : Program} {w : World} {K : PySem.W.Frag} {mg : PySem.Str → Option Value} {base : Heap} {c : Cs} (T : Top K mg c) : Df P w K mg base CX0 3 "check_plan" ["people"] (sp_check_plan K c) := by
  have c_check_people := d_check_people (P := P) (w := w) (base := base) T
  have c_is_even := d_is_even (P := P) (w := w) (base := base) T
  have c_is_unshared := d_is_unshared (P := P) (w := w) (base := base) T
  refine T.f_check_plan.ok sc_check_plan (fun _ _ _ _ _ _ us hl => match us, hl with | [_], _ => rfl) (fun vs H Q E h => ?_) (fun f cdv A outer s H vs Q E hr h => ?_)
  · unfold sp_check_plan at h; split at h
    · rfl
    · exact h.elim
  · unfold sp_check_plan at h; split at h
    case h_2 => exact h.elim
    rename_i p
    obtain ⟨⟨hc, hp⟩, h⟩ := h
    have h0 := hc.1
    refine ⟨_, (pss_cons (ps_expr (pe_fn c_check_people hr (by rfl) pass0 (pa_cons (pv 0) pa_nil)))
      (pss_one (ps_if (PW.pt (pw_or (pt_val (pe_fn c_is_even hr (by rfl) pass0 (pa_cons (pv 0) pa_nil))) (pw_or1 (pt_val (pe_fn c_is_unshared hr (by rfl) pass0 (pa_cons (pv 0) pa_nil))))))
      (pss_one ps_never)
      pss_nil))), start_eq (σ := [some (.int p)]) rfl ?_⟩
    walk_at "g"
    refine ⟨h0, ?_⟩
    walk_at "g"
    refine ifF (by unfold Can at hc; omega) ?_
    walk_at "g"
    refine ⟨⟨h0, hp⟩, ?_⟩
    walk_at "g"
    refine ifNF (can_shared hc) ?_
    walk_at "g"
    exact h
def sp_many_of (K : PySem.W.Frag) (c : Cs) : Sp := fun vs H Q E => match vs with | [.int p] => (1 ≤ p ∧ Bt 4000 p) ∧ Q (.int (manyOf p)) H | _ => False
theorem u_many_of {K : PySem.W.Frag} {c : Cs} {H : Hp} {Q : VK} {E : XK} {p : Int} (h : (1 ≤ p ∧ Bt 4000 p) ∧ Q (.int (manyOf p)) H) : sp_many_of K c [.int p] H Q E := h
local macro_rules | `(tactic| walk_at "u") => `(tactic| with_reducible refine u_many_of ?_)
set_option maxHeartbeats 4000000 in
theorem d_many_of {P : Program} {w : World} {K : PySem.W.Frag} {mg : PySem.Str → Option Value} {base : Heap} {c : Cs} (T : Top K mg c) : Df P w K mg base CX0 1 "many_of" ["people"] (sp_many_of K c) := by
  refine T.f_many_of.ok sc_many_of (fun _ _ _ _ _ _ us hl => match us, hl with | [_], _ => rfl) (fun vs H Q E h => ?_) (fun f cdv A outer s H vs Q E hr h => ?_)
  · unfold sp_many_of at h; split at h
    · rfl
    · exact h.elim
  · unfold sp_many_of at h; split at h
    case h_2 => exact h.elim
    rename_i p
    obtain ⟨⟨h0, hp⟩, h⟩ := h
    have hq := hp.big
    refine ⟨_, (pss_one (ps_ret (pe_op op_fdivB (pe_op op_mulB (pv 0) (pe_op op_sub (pv 0) pe_int)) pe_int))), start_eq (σ := [some (.int p)]) rfl ?_⟩
    walk_at "g"
    exact h
def sp_many (K : PySem.W.Frag) (c : Cs) : Sp := fun vs H Q E => match vs with | [.int p] => (Can p ∧ Bt 4000 p) ∧ Q (.int (manyOf p)) H | _ => False
theorem u_many {K : PySem.W.Frag} {c : Cs} {H : Hp} {Q : VK} {E : XK} {p : Int} (h : (Can p ∧ Bt 4000 p) ∧ Q (.int (manyOf p)) H) : sp_many K c [.int p] H Q E := h
local macro_rules | `(tactic| walk_at "u") => `(tactic| with_reducible refine u_many ?_)
set_option maxHeartbeats 4000000 in
theorem d_many {P : Program} {w : World} {K : PySem.W.Frag} {mg : PySem.Str → Option Value} {base : Heap} {c : Cs} (T : Top K mg c) : Df P w K mg base CX0 4 "many" ["people"] (sp_many K c) := by
  have c_check_plan := d_check_plan (P := P) (w := w) (base := base) T
  have c_many_of := d_many_of (P := P) (w := w) (base := base) T
  refine T.f_many.ok sc_many (fun _ _ _ _ _ _ us hl => match us, hl with | [_], _ => rfl) (fun vs H Q E h => ?_) (fun f cdv A outer s H vs Q E hr h => ?_)
  · unfold sp_many at h; split at h
    · rfl
    · exact h.elim
  · unfold sp_many at h; split at h
    case h_2 => exact h.elim
    rename_i p
    obtain ⟨⟨hc, hp⟩, h⟩ := h
    refine ⟨_, (pss_cons (ps_expr (pe_fn c_check_plan hr (by rfl) pass0 (pa_cons (pv 0) pa_nil)))
      (pss_one (ps_ret (pe_fn c_many_of hr (by rfl) pass0 (pa_cons (pv 0) pa_nil))))), start_eq (σ := [some (.int p)]) rfl ?_⟩
    walk_at "g"
    refine ⟨⟨hc, hp⟩, ?_⟩
    walk_at "g"
    exact ⟨⟨hc.1, hp⟩, h⟩
def sp_is_three (K : PySem.W.Frag) (c : Cs) : Sp := fun vs H Q E => match vs with | [.ref t, .int p] => ∃ a b c : Int, SqL K H t [.int a, .int b, .int c] ∧ (∀ H', Same H H' → Q (.bl (decide (0 ≤ a ∧ a < b ∧ b < c ∧ c < p))) H') | _ => False
theorem u_is_three {K : PySem.W.Frag} {c : Cs} {H : Hp} {Q : VK} {E : XK} {t : Addr} {p : Int} (h : ∃ a b c : Int, SqL K H t [.int a, .int b, .int c] ∧ (∀ H', Same H H' → Q (.bl (decide (0 ≤ a ∧ a < b ∧ b < c ∧ c < p))) H')) : sp_is_three K c [.ref t, .int p] H Q E := h
local macro_rules | `(tactic| walk_at "u") => `(tactic| with_reducible refine u_is_three ?_)
set_option maxHeartbeats 4000000 in
theorem d_is_three {P : Program} {w : World} {K : PySem.W.Frag} {mg : PySem.Str → Option Value} {base : Heap} {c : Cs} (T : Top K mg c) : Df P w K mg base CX0 2 "is_three" ["thing", "people"] (sp_is_three K c) := by
  have c_is_number := d_is_number (P := P) (w := w) (base := base) T
  refine T.f_is_three.ok sc_is_three (fun _ _ _ _ _ _ us hl => match us, hl with | [_, _], _ => rfl) (fun vs H Q E h => ?_) (fun f cdv A outer s H vs Q E hr h => ?_)
  · unfold sp_is_three at h; split at h
    · rfl
    · exact h.elim
  · unfold sp_is_three at h; split at h
    case h_2 => exact h.elim
    rename_i t p
    obtain ⟨a, b, c3, hS, h⟩ := h
    refine ⟨_, (pss_cons (ps_if (PW.pt (pw_or (pt_not (pt_val (pe_callB (k_isi (K := K) rfl) (by rfl) T.z_isinstance (by decide +kernel) (pa_cons (pv 0) (pa_cons (pe_bltn (v := .ty "list") (by rfl) T.z_list (by decide +kernel) rfl) pa_nil))))) (pw_or (pt_cmpR op_neI (pe_callB (k_len (K := K) rfl) (by rfl) T.z_len (by decide +kernel) (pa_cons (pv 0) pa_nil)) pe_int (nomark _)) (pw_or1 (pt_not (pt_val (pe_callB (k_all (K := K) rfl rfl) (by rfl) T.z_all (by decide +kernel) (pa_cons (pe_lc (own := [("one", 2)]) (g := (gName 2)) (tt := tYes) rfl sc_is_three.nd (k_plist (K := K) rfl (pv 0)) (blkOk_by (own := [("one", 2)]) (N := ["thing", "people", "one"]) (sc := defScope s_is_three) (by decide +kernel)) (fun _ _ _ _ _ => (pg_name (i := 2) sc_is_three.nd rfl (.inl rfl))) (fun _ _ _ _ _ => pts_nil) (fun _ _ _ _ _ => (pe_fn c_is_number hr (by rfl) pass0 (pa_cons (pv 2) (pa_cons pe_int pa_nil))))) pa_nil))))))))
      (pss_one (ps_ret pe_bl))
      pss_nil)
      (pss_one (ps_ret (pe_chain3 op_lt op_lt op_lt (pe_ix (k_ixL (K := K) rfl) (pv 0) pe_int (fun _ _ => rfl)) (pe_ix (k_ixL (K := K) rfl) (pv 0) pe_int (fun _ _ => rfl)) (pe_ix (k_ixL (K := K) rfl) (pv 0) pe_int (fun _ _ => rfl)) (pv 1))))), start_eq (σ := [some (.ref t), some (.int p), none]) rfl ?_⟩
    walk_at "g"
    refine g_isi_sq hS ?_
    walk_at "g"
    refine g_len hS ?_
    walk_at "g"
    refine ifNF rfl ?_
    walk_at "g"
    refine ⟨_, rfl, ⟨_, hS⟩, fun D nD => lc_map3 (x := a) (y := b) (z := c3) (fun i => .bl (decide (0 ≤ i))) nD hS (fun _ => rfl) (fun i H' hi _ R hR => ?_) ?_⟩
    · walk_at "g"
      exact hR
    walk_at "g"
    have hS2 := sq_new (u := .lst [.bl (decide (0 ≤ a)), .bl (decide (0 ≤ b)), .bl (decide (0 ≤ c3))]) nD hS
    have sm := same_new (o := .lst [.bl (decide (0 ≤ a)), .bl (decide (0 ≤ b)), .bl (decide (0 ≤ c3))]) nD
    by_cases h3 : 0 ≤ a ∧ 0 ≤ b ∧ 0 ≤ c3
    · rw [show ([decide (0 ≤ a), decide (0 ≤ b), decide (0 ≤ c3)].all id) = true by simp [h3]]
      walk_at "g"
      refine g_ixL hS2 (by rfl) ?_
      walk_at "g"
      refine g_ixL hS2 (by rfl) ?_
      walk_at "g"
      refine ifD (fun c1 => ?_) (fun c1 => ?_)
      · walk_at "g"
        refine g_ixL hS2 (by rfl) ?_
        walk_at "g"
        refine ifD (fun c2 => ?_) (fun c2 => ?_)
        · walk_at "g"
          rw [decide_eq_decide.mpr (show c3 < p ↔ (0 ≤ a ∧ a < b ∧ b < c3 ∧ c3 < p) by omega)]
          exact h _ sm
        · rw [decide_eq_false (show ¬ (0 ≤ a ∧ a < b ∧ b < c3 ∧ c3 < p) by omega)] at h
          exact h _ sm
      · rw [decide_eq_false (show ¬ (0 ≤ a ∧ a < b ∧ b < c3 ∧ c3 < p) by omega)] at h
        exact h _ sm
    · rw [show ([decide (0 ≤ a), decide (0 ≤ b), decide (0 ≤ c3)].all id) = false by
        rw [Bool.eq_false_iff]; intro z; apply h3; simpa [and_assoc] using z]
      walk_at "g"
      rw [decide_eq_false (show ¬ (0 ≤ a ∧ a < b ∧ b < c3 ∧ c3 < p) by omega)] at h
      exact h _ sm
def sp_alone_of (K : PySem.W.Frag) (c : Cs) : Sp := fun vs H Q E => match vs with | [.int p] => (0 ≤ p ∧ Bt 4000 p) ∧ (∀ t, H t = none → Q (.ref t) (upd H t (.tup [.int (straightOf p), .int (aloneOf p)]))) | _ => False
theorem u_alone_of {K : PySem.W.Frag} {c : Cs} {H : Hp} {Q : VK} {E : XK} {p : Int} (h : (0 ≤ p ∧ Bt 4000 p) ∧ (∀ t, H t = none → Q (.ref t) (upd H t (.tup [.int (straightOf p), .int (aloneOf p)])))) : sp_alone_of K c [.int p] H Q E := h
local macro_rules | `(tactic| walk_at "u") => `(tactic| with_reducible refine u_alone_of ?_)
set_option maxHeartbeats 4000000 in
theorem d_alone_of {P : Program} {w : World} {K : PySem.W.Frag} {mg : PySem.Str → Option Value} {base : Heap} {c : Cs} (T : Top K mg c) : Df P w K mg base CX0 2 "alone_of" ["people"] (sp_alone_of K c) := by
  have c_wide_of := d_wide_of (P := P) (w := w) (base := base) T
  refine T.f_alone_of.ok sc_alone_of (fun _ _ _ _ _ _ us hl => match us, hl with | [_], _ => rfl) (fun vs H Q E h => ?_) (fun f cdv A outer s H vs Q E hr h => ?_)
  · unfold sp_alone_of at h; split at h
    · rfl
    · exact h.elim
  · unfold sp_alone_of at h; split at h
    case h_2 => exact h.elim
    rename_i p
    obtain ⟨⟨h0, hp⟩, h⟩ := h
    have hw0 : 0 ≤ wideOf p ∧ wideOf p ≤ p := by unfold wideOf; omega
    have hw := Bt.le hw0.1 hw0.2 hp
    have hw2 : Bt 4010 (wideOf p / 2) := (Bt.le (by omega) (by omega) hp).mono (by decide)
    have h3 : Bt 4010 3 := (Bt.small (by decide)).mono (by decide)
    unfold straightOf aloneOf at h
    refine ⟨_, (pss_cons (ps_set (i := 1) sc_alone_of.nd rfl (.inl rfl) (pe_fn c_wide_of hr (by rfl) pass0 (pa_cons (pv 0) pa_nil)))
      (pss_one (ps_ret (pe_ifExp (pt_cmpR op_eqI (pe_op op_mod (pv 0) pe_int) pe_int (nomark _)) (pe_tup (pa_cons (pv 1) (pa_cons pe_int pa_nil))) (pe_tup (pa_cons (pe_op op_fdivB (pv 1) pe_int) (pa_cons (pe_op op_mulB (pe_op op_fdivB (pv 1) pe_int) pe_int) pa_nil))))))), start_eq (σ := [some (.int p), none]) rfl ?_⟩
    walk_at "g"
    refine ifD (fun c => ?_) (fun c => ?_)
    · rw [if_pos c, if_pos c] at h
      walk_at "g"
      exact h
    · rw [if_neg c, if_neg c] at h
      walk_at "g"
      exact h
def sp_root_of (K : PySem.W.Frag) (c : Cs) : Sp := fun vs H Q E => match vs with | [.int n] => (0 ≤ n ∧ Bt 4000 n) ∧ Q (.int (rootOf n)) H | _ => False
theorem u_root_of {K : PySem.W.Frag} {c : Cs} {H : Hp} {Q : VK} {E : XK} {n : Int} (h : (0 ≤ n ∧ Bt 4000 n) ∧ Q (.int (rootOf n)) H) : sp_root_of K c [.int n] H Q E := h
local macro_rules | `(tactic| walk_at "u") => `(tactic| with_reducible refine u_root_of ?_)
set_option maxHeartbeats 4000000 in
theorem d_root_of {P : Program} {w : World} {K : PySem.W.Frag} {mg : PySem.Str → Option Value} {base : Heap} {c : Cs} (T : Top K mg c) : Df P w K mg base CX0 1 "root_of" ["number"] (sp_root_of K c) := by
  refine T.f_root_of.ok sc_root_of (fun _ _ _ _ _ _ us hl => match us, hl with | [_], _ => rfl) (fun vs H Q E h => ?_) (fun f cdv A outer s H vs Q E hr h => ?_)
  · unfold sp_root_of at h; split at h
    · rfl
    · exact h.elim
  · unfold sp_root_of at h; split at h
    case h_2 => exact h.elim
    rename_i n
    obtain ⟨⟨h0, hp⟩, h⟩ := h
    have hb : Builtin.Int.intBits n ≤ 4000 := hp
    refine ⟨_, (pss_cons (ps_if (pt_cmpR op_eqI (pv 0) pe_int (nomark _))
      (pss_one (ps_ret pe_int))
      pss_nil)
      (pss_cons (ps_set (i := 1) sc_root_of.nd rfl (.inl rfl) (pe_op op_shl pe_int (pe_op op_fdivB (pe_op op_add (pe_bits (pv 0)) pe_int) pe_int)))
      (pss_cons (ps_while PassesOwn.never (pt_cmpR op_gt (pe_op op_mulB (pv 1) (pv 1)) (pv 0) (nomark _))
      (pss_one (ps_set (i := 1) sc_root_of.nd rfl (.inl rfl) (pe_op op_fdivB (pe_op op_add (pv 1) (pe_op op_fdivB (pv 0) (pv 1))) pe_int))))
      (pss_one (ps_ret (pv 1)))))), start_eq (σ := [some (.int n), none]) rfl ?_⟩
    walk_at "g"
    refine ifD (fun c => ?_) (fun c => ?_)
    · subst c
      walk_at "g"
      exact h
    walk_at "g"
    refine g_rI ⟨by omega, by omega, by decide⟩ ?_
    walk_at "g"
    have hs := bits_start h0
    have hk : (((Builtin.Int.intBits n : Nat) + 1 : Int) / 2).toNat ≤ 2000 := by omega
    generalize (((Builtin.Int.intBits n : Nat) + 1 : Int) / 2).toNat = k at *
    have hx0 : (0 : Int) < 1 * 2 ^ k := by
      have : (0 : Int) < 2 ^ k := Int.pow_pos (by decide)
      omega
    have hxb : Bt 2001 (1 * 2 ^ k) := by
      rw [Int.one_mul]
      refine Bt.iff.mpr ?_
      rw [Int.natAbs_pow]
      exact Nat.pow_lt_pow_right (by decide) (by omega)
    generalize (1 : Int) * 2 ^ k = x0 at *
    refine ⟨fun m σ H' => ∃ x : Int, σ = [some (.int n), some (.int x)] ∧ H' = H ∧ 0 < x ∧ n < (x + 1) * (x + 1) ∧ Bt 2001 x ∧ m = x.toNat, ⟨_, x0, rfl, rfl, hx0, hs, hxb, rfl⟩, ?_⟩
    rintro m σ H' ⟨x, rfl, rfl, x1, x2, x3, rfl⟩
    walk_at "g"
    refine g_rI (cmul_of x3 x3 (by decide)) ?_
    walk_at "g"
    refine ifD (fun c1 => ?_) (fun c1 => ?_)
    · have y1 := newton h0 x1
      have y2 := newton_less h0 x1 c1
      have y3 := newton_pos (by omega) x1 c1
      refine ⟨fun σ' H1 => ∃ y : Int, σ' = [some (.int n), some (.int y)] ∧ H1 = H' ∧ y = (x + n / x) / 2, fun σ' H1 ⟨y, e1, e2, e3⟩ => ⟨_, ?_, y, e1, e2, by omega, by rw [e3]; exact y1, Bt.le (by omega) (by omega) x3, rfl⟩, ?_⟩
      · omega
      walk_at "g"
      refine g_rI ⟨x1, x3.mono (by decide)⟩ ?_
      walk_at "g"
      exact ⟨_, rfl, rfl, rfl⟩
    · walk_at "g"
      rw [← root_eq (Int.le_of_lt x1) (by omega) x2] at h
      exact h
def sp_three_of (K : PySem.W.Frag) (c : Cs) : Sp := fun vs H Q E => match vs with | [.int p, .int n] => (Can p ∧ 1 < p ∧ Bt 1900 p ∧ 0 ≤ n ∧ n < manyOf p) ∧ (∀ H' q, Same H H' → H q = none → H' q = some (.lst ((threeOf p n).map V.int)) → Q (.ref q) H') | _ => False
theorem u_three_of {K : PySem.W.Frag} {c : Cs} {H : Hp} {Q : VK} {E : XK} {p : Int} {n : Int} (h : (Can p ∧ 1 < p ∧ Bt 1900 p ∧ 0 ≤ n ∧ n < manyOf p) ∧ (∀ H' q, Same H H' → H q = none → H' q = some (.lst ((threeOf p n).map V.int)) → Q (.ref q) H')) : sp_three_of K c [.int p, .int n] H Q E := h
local macro_rules | `(tactic| walk_at "u") => `(tactic| with_reducible refine u_three_of ?_)
set_option maxHeartbeats 4000000 in
theorem d_three_of {P : Program} {w : World} {K : PySem.W.Frag} {mg : PySem.Str → Option Value} {base : Heap} {c : Cs} (T : Top K mg c) : Df P w K mg base CX0 3 "three_of" ["people", "number"] (sp_three_of K c) := by
  have c_wide_of := d_wide_of (P := P) (w := w) (base := base) T
  have c_alone_of := d_alone_of (P := P) (w := w) (base := base) T
  have c_root_of := d_root_of (P := P) (w := w) (base := base) T
  have c_met := d_met (P := P) (w := w) (base := base) T
  refine T.f_three_of.ok sc_three_of (fun _ _ _ _ _ _ us hl => match us, hl with | [_, _], _ => rfl) (fun vs H Q E h => ?_) (fun f cdv A outer s H vs Q E hr h => ?_)
  · unfold sp_three_of at h; split at h
    · rfl
    · exact h.elim
  · unfold sp_three_of at h; split at h
    case h_2 => exact h.elim
    rename_i p n
    obtain ⟨⟨hc, h1, hp, n0, n1⟩, h⟩ := h
    obtain ⟨hw, hpw⟩ := hc.wide h1
    have hs := straight_eq hc h1
    have hms := many_sum hc h1
    have ht0 := tri_nonneg (a := wideOf p) (by omega)
    have hp4 : Bt 4000 p := hp.mono (by decide)
    have hw4 : Bt 1900 (wideOf p) := Bt.le (by omega) (by omega) hp
    have hw5 : Bt 4010 (wideOf p) := hw4.mono (by decide)
    have hw6 : Bt 4010 (wideOf p - 1) := Bt.le (by omega) (by omega) hw5
    have htb : Bt 3800 (tri (wideOf p)) := by
      refine Bt.le (y := wideOf p * wideOf p) ht0 ?_ (Bt.mulc hw4 hw4 (by decide))
      have := tri_two (wideOf p)
      have e : wideOf p * (wideOf p - 1) = wideOf p * wideOf p - wideOf p := by grind
      have := Int.mul_nonneg (Int.le_of_lt hw) (Int.le_of_lt hw)
      omega
    unfold threeOf at h
    dsimp only at h
    refine ⟨_, (pss_cons (ps_set (i := 2) sc_three_of.nd rfl (.inl rfl) (pe_fn c_wide_of hr (by rfl) pass0 (pa_cons (pv 0) pa_nil)))
      (pss_cons (ps_asg (pe_fn c_alone_of hr (by rfl) pass0 (pa_cons (pv 0) pa_nil)) (k_gtup (K := K) rfl rfl (pgs_cons (pg_name (i := 3) sc_three_of.nd rfl (.inl rfl)) (pgs_cons (pg_name (i := 4) sc_three_of.nd rfl (.inl rfl)) pgs_nil))))
      (pss_cons (ps_if (pt_cmpR op_lt (pv 1) (pv 3) (nomark _))
      (pss_one (ps_ret (pe_lst (pa_cons (pv 1) (pa_cons (pe_op op_add (pv 2) (pv 1)) (pa_cons (pe_op op_add (pe_op op_mulB pe_int (pv 2)) (pv 1)) pa_nil))))))
      pss_nil)
      (pss_cons (ps_aug (i := 1) sc_three_of.nd rfl (.inl rfl) (pv 3) ip_sub)
      (pss_cons (ps_if (pt_cmpR op_lt (pv 1) (pv 4) (nomark _))
      (pss_cons (ps_par (by rfl) sc_three_of.nd (i := 5) (j := 6) rfl rfl (by decide) rfl rfl (pa_cons (pe_op op_fdivB (pv 1) (pv 3)) (pa_cons (pe_op op_mod (pv 1) (pv 3)) pa_nil)) (by rfl))
      (pss_one (ps_ret (pe_callB (k_sorted (K := K) rfl) (by rfl) T.z_sorted (by decide +kernel) (pa_cons (pe_lst (pa_cons (pe_op op_sub (pv 0) pe_int) (pa_cons (pe_op op_add (pe_op op_add (pe_op op_mulB (pv 5) (pv 2)) (pv 6)) (pe_op op_fdivB (pv 2) pe_int)) (pa_cons (pe_op op_add (pe_op op_mulB (pe_op op_mod (pe_op op_add (pv 5) pe_int) pe_int) (pv 2)) (pv 6)) pa_nil)))) pa_nil)))))
      pss_nil)
      (pss_cons (ps_aug (i := 1) sc_three_of.nd rfl (.inl rfl) (pv 4) ip_sub)
      (pss_cons (ps_set (i := 7) sc_three_of.nd rfl (.inl rfl) (pe_op op_fdivB (pe_op op_mulB (pv 2) (pe_op op_sub (pv 2) pe_int)) pe_int))
      (pss_cons (ps_par (by rfl) sc_three_of.nd (i := 5) (j := 1) rfl rfl (by decide) rfl rfl (pa_cons (pe_op op_fdivB (pv 1) (pv 7)) (pa_cons (pe_op op_mod (pv 1) (pv 7)) pa_nil)) (by rfl))
      (pss_cons (ps_set (i := 8) sc_three_of.nd rfl (.inl rfl) (pe_op op_fdivB (pe_op op_add pe_int (pe_fn c_root_of hr (by rfl) pass0 (pa_cons (pe_op op_add pe_int (pe_op op_mulB pe_int (pv 1))) pa_nil))) pe_int))
      (pss_cons (ps_set (i := 9) sc_three_of.nd rfl (.inl rfl) (pe_op op_sub (pv 1) (pe_op op_fdivB (pe_op op_mulB (pv 8) (pe_op op_sub (pv 8) pe_int)) pe_int)))
      (pss_one (ps_ret (pe_callB (k_sorted (K := K) rfl) (by rfl) T.z_sorted (by decide +kernel) (pa_cons (pe_lst (pa_cons (pe_op op_add (pe_op op_mulB (pv 5) (pv 2)) (pv 9)) (pa_cons (pe_op op_add (pe_op op_mulB (pv 5) (pv 2)) (pv 8)) (pa_cons (pe_op op_add (pe_op op_mulB (pe_op op_mod (pe_op op_add (pv 5) pe_int) pe_int) (pv 2)) (pe_fn c_met hr (by rfl) pass0 (pa_cons (pv 2) (pa_cons (pv 9) (pa_cons (pv 8) pa_nil))))) pa_nil)))) pa_nil)))))))))))))), start_eq (σ := [some (.int p), some (.int n), none, none, none, none, none, none, none, none]) rfl ?_⟩
    walk_at "g"
    refine ⟨⟨by omega, hp4⟩, fun t nt => ?_⟩
    refine g_gtupN rfl ?_
    walk_at "g"
    generalize hH1 : upd H t (.tup [.int (straightOf p), .int (aloneOf p)]) = H1
    have s1 : Same H H1 := by rw [← hH1]; exact same_new nt
    have fin : ∀ q xs, H1 q = none → xs = threeOf p n → Q (.ref q) (upd H1 q (.lst (xs.map V.int))) → Q (.ref q) (upd H1 q (.lst (xs.map V.int))) := fun _ _ _ _ z => z
    by_cases c1 : n < straightOf p
    · refine ifT c1 ?_
      rw [if_pos c1] at h
      walk_at "g"
      intro q nq
      exact h _ q (s1.trans (same_new nq)) (s1.free nq) upd_same
    refine ifF c1 ?_
    rw [if_neg c1] at h
    walk_at "g"
    by_cases c2 : n - straightOf p < aloneOf p
    · refine ifT c2 ?_
      rw [if_pos c2] at h
      have hr := emod_bounds (n - straightOf p) (b := straightOf p) (by omega)
      have hq0 : 0 ≤ (n - straightOf p) / straightOf p := Int.ediv_nonneg (by omega) (by omega)
      have hq1 : (n - straightOf p) / straightOf p < 3 := Int.ediv_lt_of_lt_mul (by omega) (by omega)
      walk_at "g"
      intro q nq
      walk_at "g"
      refine g_sorted3 (SqL.of upd_same) (fun q2 nq2 => ?_)
      exact h _ q2 (s1.trans ((same_new nq).trans (same_new nq2))) (s1.free ((same_new nq).free nq2)) upd_same
    refine ifF c2 ?_
    rw [if_neg c2] at h
    walk_at "g"
    rw [show wideOf p * (wideOf p - 1) / 2 = tri (wideOf p) from rfl]
    have hpos : 0 < tri (wideOf p) := by omega
    refine g_rI ⟨hpos, htb.mono (by decide)⟩ ?_
    walk_at "g"
    have hk : n - straightOf p - aloneOf p < 3 * tri (wideOf p) := by omega
    have hr := emod_bounds (n - straightOf p - aloneOf p) hpos
    have hq0 : 0 ≤ (n - straightOf p - aloneOf p) / tri (wideOf p) := Int.ediv_nonneg (by omega) (by omega)
    have hq1 : (n - straightOf p - aloneOf p) / tri (wideOf p) < 3 := Int.ediv_lt_of_lt_mul hpos (by omega)
    generalize (n - straightOf p - aloneOf p) % tri (wideOf p) = m at *
    generalize (n - straightOf p - aloneOf p) / tri (wideOf p) = r at *
    have hm : Bt 3800 m := Bt.le hr.1 (by omega) htb
    refine g_rI (cmul_of (m := 64) (Bt.small (by decide)) hm (by decide)) ?_
    walk_at "g"
    refine ⟨⟨by omega, ?_⟩, ?_⟩
    · exact Bt.addc (m := 64) (n := 3864) (Bt.small (by decide)) (Bt.mulc (m := 64) (Bt.small (by decide)) hm (by decide)) (by decide) (by decide)
    obtain ⟨k1, k2, k3⟩ := highOf_ok hr.1
    have hj : highOf m < wideOf p := by
      rcases Int.lt_or_le (highOf m) (wideOf p) with z | z
      · exact z
      · have := tri_mono (a := wideOf p) (b := highOf m) (by omega) z
        omega
    rw [tri_succ] at k3
    walk_at "g"
    rw [show (1 + rootOf (1 + 8 * m)) / 2 = highOf m from rfl]
    have hb1 : Bt 4010 (highOf m) := Bt.le (by omega) (by omega) hw5
    have hb2 : Bt 4010 (highOf m - 1) := Bt.le (by omega) (by omega) hw5
    walk_at "g"
    rw [show highOf m * (highOf m - 1) / 2 = tri (highOf m) from rfl]
    walk_at "g"
    refine ⟨⟨hw, hw4.mono (by decide)⟩, ?_⟩
    walk_at "g"
    intro q nq
    walk_at "g"
    refine g_sorted3 (SqL.of upd_same) (fun q2 nq2 => ?_)
    exact h _ q2 (s1.trans ((same_new nq).trans (same_new nq2))) (s1.free ((same_new nq).free nq2)) upd_same
def sp_three_by (K : PySem.W.Frag) (c : Cs) : Sp := fun vs H Q E => match vs with | [.int p, .int n] => (Can p ∧ 1 < p ∧ Bt 1900 p ∧ 0 ≤ n ∧ n < manyOf p) ∧ (∀ H' q, Same H H' → H q = none → H' q = some (.lst ((threeOf p n).map V.int)) → Q (.ref q) H') | _ => False
theorem u_three_by {K : PySem.W.Frag} {c : Cs} {H : Hp} {Q : VK} {E : XK} {p : Int} {n : Int} (h : (Can p ∧ 1 < p ∧ Bt 1900 p ∧ 0 ≤ n ∧ n < manyOf p) ∧ (∀ H' q, Same H H' → H q = none → H' q = some (.lst ((threeOf p n).map V.int)) → Q (.ref q) H')) : sp_three_by K c [.int p, .int n] H Q E := h
local macro_rules | `(tactic| walk_at "u") => `(tactic| with_reducible refine u_three_by ?_)
set_option maxHeartbeats 4000000 in
theorem d_three_by {P : Program} {w : World} {K : PySem.W.Frag} {mg : PySem.Str → Option Value} {base : Heap} {c : Cs} (T : Top K mg c) : Df P w K mg base CX0 4 "three_by" ["people", "number"] (sp_three_by K c) := by
  have c_check_plan := d_check_plan (P := P) (w := w) (base := base) T
  have c_three_of := d_three_of (P := P) (w := w) (base := base) T
  have c_is_number := d_is_number (P := P) (w := w) (base := base) T
  have c_many_of := d_many_of (P := P) (w := w) (base := base) T
  refine T.f_three_by.ok sc_three_by (fun _ _ _ _ _ _ us hl => match us, hl with | [_, _], _ => rfl) (fun vs H Q E h => ?_) (fun f cdv A outer s H vs Q E hr h => ?_)
  · unfold sp_three_by at h; split at h
    · rfl
    · exact h.elim
  · unfold sp_three_by at h; split at h
    case h_2 => exact h.elim
    rename_i p n
    obtain ⟨⟨hc, h1, hp, n0, n1⟩, h⟩ := h
    have hp4 : Bt 4000 p := hp.mono (by decide)
    refine ⟨_, (pss_cons (ps_expr (pe_fn c_check_plan hr (by rfl) pass0 (pa_cons (pv 0) pa_nil)))
      (pss_cons (ps_if (PW.pt (pw_or (pt_not (pt_val (pe_fn c_is_number hr (by rfl) pass0 (pa_cons (pv 1) (pa_cons pe_int pa_nil))))) (pw_or1 (pt_cmpR op_ge (pv 1) (pe_fn c_many_of hr (by rfl) pass0 (pa_cons (pv 0) pa_nil)) (nomark _)))))
      (pss_one ps_never)
      pss_nil)
      (pss_one (ps_ret (pe_fn c_three_of hr (by rfl) pass0 (pa_cons (pv 0) (pa_cons (pv 1) pa_nil))))))), start_eq (σ := [some (.int p), some (.int n)]) rfl ?_⟩
    walk_at "g"
    refine ⟨⟨hc, hp4⟩, ?_⟩
    walk_at "g"
    refine ifNF n0 ?_
    walk_at "g"
    refine ⟨⟨by omega, hp4⟩, ?_⟩
    walk_at "g"
    refine ifF (by omega) ?_
    walk_at "g"
    exact ⟨⟨hc, h1, hp, n0, n1⟩, h⟩
def sp_times_together (K : PySem.W.Frag) (c : Cs) : Sp := fun vs H Q E => match vs with | [v0, .ref a] => ∃ ts : List T3, Ts K H a ts ∧ ts.length ≤ 100000 ∧ (∀ H' d, Same H H' → H d = none → H' d = some (.dT (encD (times ts))) → Q (.ref d) H') | _ => False
theorem u_times_together {K : PySem.W.Frag} {c : Cs} {H : Hp} {Q : VK} {E : XK} {v0 : V} {a : Addr} (h : ∃ ts : List T3, Ts K H a ts ∧ ts.length ≤ 100000 ∧ (∀ H' d, Same H H' → H d = none → H' d = some (.dT (encD (times ts))) → Q (.ref d) H')) : sp_times_together K c [v0, .ref a] H Q E := h
local macro_rules | `(tactic| walk_at "u") => `(tactic| with_reducible refine u_times_together ?_)
set_option maxHeartbeats 4000000 in
theorem d_times_together {P : Program} {w : World} {K : PySem.W.Frag} {mg : PySem.Str → Option Value} {base : Heap} {c : Cs} (T : Top K mg c) : Df P w K mg base CX0 1 "times_together" ["people", "threes"] (sp_times_together K c) := by
  refine T.f_times_together.ok sc_times_together (fun _ _ _ _ _ _ us hl => match us, hl with | [_, _], _ => rfl) (fun vs H Q E h => ?_) (fun f cdv A outer s H vs Q E hr h => ?_)
  · unfold sp_times_together at h; split at h
    · rfl
    · exact h.elim
  · unfold sp_times_together at h; split at h
    case h_2 => exact h.elim
    rename_i v0 a
    obtain ⟨ts, hT, hlen, h⟩ := h
    obtain ⟨rs, hS, hrl, hget⟩ := hT.get
    refine ⟨_, (pss_cons (ps_set (i := 2) sc_times_together.nd rfl (.inl rfl) pe_dnewT)
      (pss_cons (ps_for PassesOwn.never rfl (k_plist (K := K) rfl (pv 1)) (k_glst (K := K) rfl rfl (pgs_cons (pg_name (i := 3) sc_times_together.nd rfl (.inl rfl)) (pgs_cons (pg_name (i := 4) sc_times_together.nd rfl (.inl rfl)) (pgs_cons (pg_name (i := 5) sc_times_together.nd rfl (.inl rfl)) pgs_nil))))
      (pss_one (ps_for PassesOwn.never rfl (k_ptup (K := K) rfl (pe_tup (pa_cons (pe_tup (pa_cons (pv 3) (pa_cons (pv 4) pa_nil))) (pa_cons (pe_tup (pa_cons (pv 3) (pa_cons (pv 5) pa_nil))) (pa_cons (pe_tup (pa_cons (pv 4) (pa_cons (pv 5) pa_nil))) pa_nil))))) (pg_name (i := 6) sc_times_together.nd rfl (.inl rfl))
      (pss_one (ps_dput (hu_of hr) (pv 2) (pv 6) (pe_op op_add (pe_dget2 (hu_of hr) (pv 2) (pv 6) pe_int ⟨rfl, rfl, rfl, rfl⟩) pe_int) rfl)))))
      (pss_one (ps_ret (pv 2))))), start_eq (σ := [some v0, some (.ref a), none, none, none, none, none]) rfl ?_⟩
    walk_at "g"
    intro d nd
    walk_at "g"
    refine ⟨_, rfl, ⟨_, sq_new nd hS⟩, for_list (xs := rs.map V.ref) (fun i σ H1 => ∃ y2 y3 y4 y5, σ = [some v0, some (.ref a), some (.ref d), y2, y3, y4, y5] ∧ Same H H1 ∧ H1 d = some (.dT (encD (times (ts.take i))))) ⟨_, _, _, _, rfl, same_new nd, upd_same⟩ (fun i σ H1 _ ⟨_, _, _, _, _, s1, _⟩ => s1.seq hS) (fun i x σ H1 hx ⟨y2, y3, y4, y5, e, s1, e1⟩ => ?_) (fun σ H1 ⟨y2, y3, y4, y5, e, s1, e1⟩ => ?_)⟩
    · subst e
      obtain ⟨r, t, rfl, hr1, ht, hr2⟩ := hget i x hx
      have hr3 := s1.seq hr2
      obtain ⟨u, v, z⟩ := t
      have hr4 : SqL K H1 r [.int u, .int v, .int z] := hr3
      refine g_glst hr4 rfl ?_
      walk_at "g"
      intro q1 n1
      walk_at "g"
      intro q2 n2
      walk_at "g"
      intro q3 n3
      walk_at "g"
      intro ql nl
      have ed := at_new (u := .tup [.ref q1, .ref q2, .ref q3]) nl (at_new (u := .tup [.int v, .int z]) n3 (at_new (u := .tup [.int u, .int z]) n2 (at_new (u := .tup [.int u, .int v]) n1 e1)))
      have f1 : (upd (upd (upd (upd H1 q1 (.tup [.int u, .int v])) q2 (.tup [.int u, .int z])) q3 (.tup [.int v, .int z])) ql (.tup [.ref q1, .ref q2, .ref q3])) q1 = some (.tup [.int u, .int v]) := by walk_at "at"
      have f2 : (upd (upd (upd (upd H1 q1 (.tup [.int u, .int v])) q2 (.tup [.int u, .int z])) q3 (.tup [.int v, .int z])) ql (.tup [.ref q1, .ref q2, .ref q3])) q2 = some (.tup [.int u, .int z]) := by walk_at "at"
      have f3 : (upd (upd (upd (upd H1 q1 (.tup [.int u, .int v])) q2 (.tup [.int u, .int z])) q3 (.tup [.int v, .int z])) ql (.tup [.ref q1, .ref q2, .ref q3])) q3 = some (.tup [.int v, .int z]) := by walk_at "at"
      have f4 : (upd (upd (upd (upd H1 q1 (.tup [.int u, .int v])) q2 (.tup [.int u, .int z])) q3 (.tup [.int v, .int z])) ql (.tup [.ref q1, .ref q2, .ref q3])) ql = some (.tup [.ref q1, .ref q2, .ref q3]) := by walk_at "at"
      have s2 : Same H (upd (upd (upd (upd H1 q1 (.tup [.int u, .int v])) q2 (.tup [.int u, .int z])) q3 (.tup [.int v, .int z])) ql (.tup [.ref q1, .ref q2, .ref q3])) := by walk_at "sm"
      generalize upd (upd (upd (upd H1 q1 (.tup [.int u, .int v])) q2 (.tup [.int u, .int z])) q3 (.tup [.int v, .int z])) ql (.tup [.ref q1, .ref q2, .ref q3]) = H2 at *
      have d1 : q1 ≠ d := ne_of f1 ed (by intro w; cases w)
      have d2 : q2 ≠ d := ne_of f2 ed (by intro w; cases w)
      have d3 : q3 ≠ d := ne_of f3 ed (by intro w; cases w)
      have d4 : ql ≠ d := ne_of f4 ed (by intro w; cases w)
      have hsz : (times (ts.take i)).length ≤ 300000 := by
        have := times_len (ts.take i)
        rw [List.length_take] at this
        omega
      refine ⟨_, rfl, ⟨_, SqT.of f4⟩, for_tup (xs := [.ref q1, .ref q2, .ref q3]) (fun j σ H3 => ∃ y5, σ = [some v0, some (.ref a), some (.ref d), some (.int u), some (.int v), some (.int z), y5] ∧ SameBut d H2 H3 ∧ H3 d = some (.dT (encD (ticks ((prs (u, v, z)).take j) (times (ts.take i)))))) ⟨_, rfl, .refl, ed⟩ (fun j σ H3 _ ⟨_, _, b3, _⟩ => SqT.of (b3 _ _ d4 f4)) (fun j x σ H3 hx ⟨y5, e, b3, e3⟩ => ?_) (fun σ H3 ⟨y5, e, b3, e3⟩ => ?_)⟩
      · subst e
        have hk : ∃ (q : Addr) (k : PP), x = .ref q ∧ (prs (u, v, z))[j]? = some k ∧ H3 q = some (.tup [.int k.1, .int k.2]) := by
          have hj : j < 3 := (List.getElem?_eq_some_iff.mp hx).1
          match j, hj with
          | 0, _ => cases hx; exact ⟨q1, (u, v), rfl, rfl, b3 _ _ d1 f1⟩
          | 1, _ => cases hx; exact ⟨q2, (u, z), rfl, rfl, b3 _ _ d2 f2⟩
          | 2, _ => cases hx; exact ⟨q3, (v, z), rfl, rfl, b3 _ _ d3 f3⟩
        obtain ⟨q, ⟨k1, k2⟩, rfl, hk1, hk2⟩ := hk
        have hsz2 : (ticks ((prs (u, v, z)).take j) (times (ts.take i))).length ≤ 300003 := by
          have := ticks_len ((prs (u, v, z)).take j) (times (ts.take i))
          have l3 : ((prs (u, v, z)).take j).length ≤ 3 := by rw [List.length_take]; exact Nat.min_le_right _ _
          omega
        rw [ticks_snoc hk1]
        generalize ticks ((prs (u, v, z)).take j) (times (ts.take i)) = dd at *
        walk_at "g"
        refine g_isD e3 ?_
        walk_at "g"
        refine ⟨_, dget_p e3 hk2, ?_⟩
        have hval : (Option.map V.int (getA dd (k1, k2))).getD (V.int 0) = V.int ((getA dd (k1, k2)).getD 0) := by cases getA dd (k1, k2) <;> rfl
        rw [hval]
        walk_at "g"
        refine ⟨d, _, rfl, dput_p e3 hk2 (by rw [sizeLine_eq]; omega), ?_⟩
        exact ⟨_, rfl, b3.trans .upd, upd_same⟩
      · subst e
        refine ⟨_, _, _, _, rfl, SameBut.same nd s2 b3, ?_⟩
        rw [e3, times_snoc ht]
        rfl
    · subst e
      rw [List.length_map, hrl, List.take_length] at e1
      walk_at "g"
      exact h _ d s1 nd e1
def sp_is_plan (K : PySem.W.Frag) (c : Cs) : Sp := fun vs H Q E => match vs with | [.int p, .ref a] => ∃ ts : List T3, Ts K H a ts ∧ ts.length ≤ 100000 ∧ (1 ≤ p ∧ Bt 4000 p) ∧ (∀ H', Same H H' → Q (.bl (isPlan p ts)) H') | _ => False
theorem u_is_plan {K : PySem.W.Frag} {c : Cs} {H : Hp} {Q : VK} {E : XK} {p : Int} {a : Addr} (h : ∃ ts : List T3, Ts K H a ts ∧ ts.length ≤ 100000 ∧ (1 ≤ p ∧ Bt 4000 p) ∧ (∀ H', Same H H' → Q (.bl (isPlan p ts)) H')) : sp_is_plan K c [.int p, .ref a] H Q E := h
local macro_rules | `(tactic| walk_at "u") => `(tactic| with_reducible refine u_is_plan ?_)
set_option maxHeartbeats 4000000 in
theorem d_is_plan {P : Program} {w : World} {K : PySem.W.Frag} {mg : PySem.Str → Option Value} {base : Heap} {c : Cs} (T : Top K mg c) : Df P w K mg base CX0 2 "is_plan" ["people", "threes"] (sp_is_plan K c) := by
  have c_times_together := d_times_together (P := P) (w := w) (base := base) T
  refine T.f_is_plan.ok sc_is_plan (fun _ _ _ _ _ _ us hl => match us, hl with | [_, _], _ => rfl) (fun vs H Q E h => ?_) (fun f cdv A outer s H vs Q E hr h => ?_)
  · unfold sp_is_plan at h; split at h
    · rfl
    · exact h.elim
  · unfold sp_is_plan at h; split at h
    case h_2 => exact h.elim
    rename_i p a
    obtain ⟨ts, hT, hlen, ⟨h0, hp⟩, h⟩ := h
    have hq := hp.big
    have hsz : (times ts).length ≤ 300000 := by
      have := times_len ts
      omega
    refine ⟨_, (pss_cons (ps_set (i := 2) sc_is_plan.nd rfl (.inl rfl) (pe_fn c_times_together hr (by rfl) pass0 (pa_cons (pv 0) (pa_cons (pv 1) pa_nil))))
      (pss_one (ps_ret (pe_and (pe_cmpR op_eqI (pe_callB call_len_dT (by rfl) T.z_len (by decide +kernel) (pa_cons (pv 2) pa_nil)) (pe_op op_fdivB (pe_op op_mulB (pv 0) (pe_op op_sub (pv 0) pe_int)) pe_int) (nomark _)) (pe_one (pe_callB (k_all (K := K) rfl rfl) (by rfl) T.z_all (by decide +kernel) (pa_cons (pe_lock (pe_lc (own := [("often", 3)]) (g := (gName 3)) (tt := tYes) rfl sc_is_plan.nd (pi_valuesT (pv 2)) (blkOk_by (own := [("often", 3)]) (N := ["people", "threes", "times", "often"]) (sc := defScope s_is_plan) (by decide +kernel)) (fun _ _ _ _ _ => (pg_name (i := 3) sc_is_plan.nd rfl (.inl rfl))) (fun _ _ _ _ _ => pts_nil) (fun _ _ _ _ _ => (pe_cmpR op_eqI (pv 3) pe_int (nomark _))))) pa_nil))))))), start_eq (σ := [some (.int p), some (.ref a), none, none]) rfl ?_⟩
    walk_at "g"
    refine ⟨ts, hT, hlen, fun H1 d s1 nd e1 => ?_⟩
    walk_at "g"
    refine ⟨d, _, rfl, e1, ?_⟩
    rw [enc_len]
    walk_at "g"
    unfold isPlan at h
    refine ifD (fun c => ?_) (fun c => ?_)
    · rw [decide_eq_true c, Bool.true_and] at h
      walk_at "g"
      refine g_lockE e1 trivial (fun od => ?_)
      walk_at "g"
      refine ⟨d, od, encD (times ts), rfl, upd_same, fun D nD => ?_⟩
      refine lc_valsT (fun i => .bl (decide (i = 1))) upd_same nD (fun _ => rfl) (fun i H' sm R hR => ?_) (by rw [sizeLine_eq]; omega) ?_
      · walk_at "g"
        exact hR
      have nDd : D ≠ d := fun z => by rw [z, upd_same] at nD; cases nD
      have nD1 : H1 D = none := by rw [upd_ne nDd] at nD; exact nD
      refine ⟨by rw [upd_ne (Ne.symm nDd), upd_same], ?_⟩
      have eH : upd (upd (upd H1 d (.frz od (.dT (encD (times ts))))) D (.lst ((times ts).map fun kv => V.bl (decide (kv.2 = 1))))) d (.dT (encD (times ts))) = upd H1 D (.lst ((times ts).map fun kv => V.bl (decide (kv.2 = 1)))) := by
        funext b
        unfold upd
        by_cases b1 : b = d
        · subst b1
          rw [if_pos rfl, if_neg (Ne.symm nDd), e1]
        · rw [if_neg b1]
          by_cases b2 : b = D
          · rw [if_pos b2, if_pos b2]
          · rw [if_neg b2, if_neg b2, if_neg b1]
      rw [eH]
      walk_at "g"
      refine g_all (bs := (times ts).map fun kv => decide (kv.2 = 1)) (SqL.of (by rw [upd_same, List.map_map]; rfl)) ?_
      rw [List.all_map]
      exact h _ (s1.trans (same_new nD1))
    · rw [decide_eq_false c, Bool.false_and] at h
      exact h _ s1
def sp_check_threes (K : PySem.W.Frag) (c : Cs) : Sp := fun vs H Q E => match vs with | [.int p, .ref a] => ∃ ts : List T3, Ts K H a ts ∧ ts.length ≤ 100000 ∧ (1 ≤ p ∧ p ≤ 100 ∧ ∀ t ∈ ts, T3.ok p t) ∧ (∀ H', Same H H' → Q .non H') | _ => False
theorem u_check_threes {K : PySem.W.Frag} {c : Cs} {H : Hp} {Q : VK} {E : XK} {p : Int} {a : Addr} (h : ∃ ts : List T3, Ts K H a ts ∧ ts.length ≤ 100000 ∧ (1 ≤ p ∧ p ≤ 100 ∧ ∀ t ∈ ts, T3.ok p t) ∧ (∀ H', Same H H' → Q .non H')) : sp_check_threes K c [.int p, .ref a] H Q E := h
local macro_rules | `(tactic| walk_at "u") => `(tactic| with_reducible refine u_check_threes ?_)
set_option maxHeartbeats 4000000 in
theorem d_check_threes {P : Program} {w : World} {K : PySem.W.Frag} {mg : PySem.Str → Option Value} {base : Heap} {c : Cs} (T : Top K mg c) : Df P w K mg base CX0 3 "check_threes" ["people", "threes"] (sp_check_threes K c) := by
  have c_check_people := d_check_people (P := P) (w := w) (base := base) T
  have c_is_three := d_is_three (P := P) (w := w) (base := base) T
  refine T.f_check_threes.ok sc_check_threes (fun _ _ _ _ _ _ us hl => match us, hl with | [_, _], _ => rfl) (fun vs H Q E h => ?_) (fun f cdv A outer s H vs Q E hr h => ?_)
  · unfold sp_check_threes at h; split at h
    · rfl
    · exact h.elim
  · unfold sp_check_threes at h; split at h
    case h_2 => exact h.elim
    rename_i p a
    obtain ⟨ts, hT, hlen, ⟨h0, h1, hok⟩, h⟩ := h
    obtain ⟨rs, hS, hrl, hget⟩ := hT.get
    refine ⟨_, (pss_cons (ps_expr (pe_fn c_check_people hr (by rfl) pass0 (pa_cons (pv 0) pa_nil)))
      (pss_cons (ps_if (pt_cmpR op_gt (pv 0) (pe_glob (v := .int 100) (by rfl) T.mg_MOST.choose_spec ⟨_, rfl⟩) (nomark _))
      (pss_one ps_never)
      pss_nil)
      (pss_one (ps_if (PW.pt (pw_or (pt_not (pt_val (pe_callB (k_isi (K := K) rfl) (by rfl) T.z_isinstance (by decide +kernel) (pa_cons (pv 1) (pa_cons (pe_bltn (v := .ty "list") (by rfl) T.z_list (by decide +kernel) rfl) pa_nil))))) (pw_or1 (pt_not (pt_val (pe_callB (k_all (K := K) rfl rfl) (by rfl) T.z_all (by decide +kernel) (pa_cons (pe_lc (own := [("three", 2)]) (g := (gName 2)) (tt := tYes) rfl sc_check_threes.nd (k_plist (K := K) rfl (pv 1)) (blkOk_by (own := [("three", 2)]) (N := ["people", "threes", "three"]) (sc := defScope s_check_threes) (by decide +kernel)) (fun _ _ _ _ _ => (pg_name (i := 2) sc_check_threes.nd rfl (.inl rfl))) (fun _ _ _ _ _ => pts_nil) (fun _ _ _ _ _ => (pe_fn c_is_three hr (by rfl) pass0 (pa_cons (pv 2) (pa_cons (pv 0) pa_nil))))) pa_nil)))))))
      (pss_one ps_never)
      pss_nil)))), start_eq (σ := [some (.int p), some (.ref a), none]) rfl ?_⟩
    walk_at "g"
    refine ⟨h0, ?_⟩
    walk_at "g"
    refine ifF (by omega) ?_
    walk_at "g"
    refine g_isi_sq hS ?_
    walk_at "g"
    refine ⟨_, rfl, ⟨_, hS⟩, fun D nD => ?_⟩
    refine lc_grow (xs := rs.map V.ref) (fun _ v _ => v = .bl true) nD hS (fun _ => rfl) (fun _ _ _ _ _ _ r => r) (fun i x H6 hx s6 _ T hT => ?_) (by rw [List.length_map, sizeLine_eq]; omega) (fun ys H6 s6 e6 l6 r6 => ?_)
    · obtain ⟨r, t, rfl, hr1, ht, hr2⟩ := hget i x hx
      have hk := hok t (List.mem_of_getElem? ht)
      unfold T3.ok at hk
      walk_at "g"
      refine ⟨t.1, t.2.1, t.2.2, s6.seq hr2, fun H7 s7 => ?_⟩
      rw [decide_eq_true hk]
      exact hT _ _ s7 rfl
    have ey := bools_of (P := fun _ => true) l6 r6
    subst ey
    walk_at "g"
    refine g_all (SqL.of e6) ?_
    rw [all_true]
    walk_at "g"
    exact h _ s6
def sp_Plan_shows (K : PySem.W.Frag) (c : Cs) : Sp := fun vs H Q E => match vs with | [v, .int p, .ref a] => ∃ ts : List T3, Ts K H a ts ∧ ts.length ≤ 100000 ∧ (1 ≤ p ∧ Bt 4000 p) ∧ (∀ H', Same H H' → Q (.bl (isPlan p ts)) H') | _ => False
theorem u_Plan_shows {K : PySem.W.Frag} {c : Cs} {H : Hp} {Q : VK} {E : XK} {v : V} {p : Int} {a : Addr} (h : ∃ ts : List T3, Ts K H a ts ∧ ts.length ≤ 100000 ∧ (1 ≤ p ∧ Bt 4000 p) ∧ (∀ H', Same H H' → Q (.bl (isPlan p ts)) H')) : sp_Plan_shows K c [v, .int p, .ref a] H Q E := h
local macro_rules | `(tactic| walk_at "u") => `(tactic| with_reducible refine u_Plan_shows ?_)
set_option maxHeartbeats 4000000 in
theorem d_Plan_shows {P : Program} {w : World} {K : PySem.W.Frag} {mg : PySem.Str → Option Value} {base : Heap} {c : Cs} (T : Top K mg c) : Mf P w K mg base CX0 3 c.Plan "shows" ["self", "people", "threes"] (sp_Plan_shows K c) := by
  have c_is_plan := d_is_plan (P := P) (w := w) (base := base) T
  refine T.m_Plan_shows.ok sc_Plan_shows (fun _ _ _ _ _ _ us hl => match us, hl with | [_, _, _], _ => rfl) (fun vs H Q E h => ?_) (fun f cdv A outer s H vs Q E hr h => ?_)
  · unfold sp_Plan_shows at h; split at h
    · rfl
    · exact h.elim
  · unfold sp_Plan_shows at h; split at h
    case h_2 => exact h.elim
    rename_i v p a
    obtain ⟨ts, hT, hlen, hp, h⟩ := h
    refine ⟨_, (pss_one (ps_ret (pe_fn c_is_plan hr (by rfl) pass0 (pa_cons (pv 1) (pa_cons (pv 2) pa_nil))))), start_eq (σ := [some v, some (.int p), some (.ref a)]) rfl ?_⟩
    walk_at "g"
    exact ⟨ts, hT, hlen, hp, h⟩
def sp_Apart_init (K : PySem.W.Frag) (c : Cs) : Sp := fun vs H Q E => match vs with | [.ref x, .int a, .int b] => ∃ dx, H x = some (.ins c.Apart dx []) ∧ Q .non (upd H x (.ins c.Apart dx [("one", .int a), ("other", .int b)])) | _ => False
theorem u_Apart_init {K : PySem.W.Frag} {c : Cs} {H : Hp} {Q : VK} {E : XK} {x : Addr} {a : Int} {b : Int} (h : ∃ dx, H x = some (.ins c.Apart dx []) ∧ Q .non (upd H x (.ins c.Apart dx [("one", .int a), ("other", .int b)]))) : sp_Apart_init K c [.ref x, .int a, .int b] H Q E := h
local macro_rules | `(tactic| walk_at "u") => `(tactic| with_reducible refine u_Apart_init ?_)
set_option maxHeartbeats 4000000 in
theorem d_Apart_init {P : Program} {w : World} {K : PySem.W.Frag} {mg : PySem.Str → Option Value} {base : Heap} {c : Cs} (T : Top K mg c) : Mi P w K mg base CX0 1 c.Apart ["self", "one", "other"] (sp_Apart_init K c) := by
  refine T.mi_Apart.ok sc_Apart_init (fun _ _ _ _ _ _ us hl => match us, hl with | [_, _, _], _ => rfl) (fun vs H Q E h => ?_) (fun f cdv A outer s H vs Q E hr h => ?_)
  · unfold sp_Apart_init at h; split at h
    · rfl
    · exact h.elim
  · unfold sp_Apart_init at h; split at h
    case h_2 => exact h.elim
    rename_i x a b
    obtain ⟨dx, e, h⟩ := h
    refine ⟨_, (pss_cons (k_sfld (K := K) rfl (pv 0) (pv 1) rfl)
      (pss_one (k_sfld (K := K) rfl (pv 0) (pv 2) rfl))), start_eq (σ := [some (.ref x), some (.int a), some (.int b)]) rfl ?_⟩
    walk_at "g"
    refine ⟨x, c.Apart, dx, [], rfl, e, T.cf_Apart.cl, T.na_Apart_one, (by decide : 0 < 1000), ?_⟩
    walk_at "g"
    refine ⟨x, c.Apart, dx, _, rfl, upd_same, T.cf_Apart.cl, T.na_Apart_other, (by decide : 1 < 1000), ?_⟩
    rw [upd_upd]
    exact h
def sp_Twice_init (K : PySem.W.Frag) (c : Cs) : Sp := fun vs H Q E => match vs with | [.ref x, .int a, .int b] => ∃ dx, H x = some (.ins c.Twice dx []) ∧ Q .non (upd H x (.ins c.Twice dx [("first", .int a), ("second", .int b)])) | _ => False
theorem u_Twice_init {K : PySem.W.Frag} {c : Cs} {H : Hp} {Q : VK} {E : XK} {x : Addr} {a : Int} {b : Int} (h : ∃ dx, H x = some (.ins c.Twice dx []) ∧ Q .non (upd H x (.ins c.Twice dx [("first", .int a), ("second", .int b)]))) : sp_Twice_init K c [.ref x, .int a, .int b] H Q E := h
local macro_rules | `(tactic| walk_at "u") => `(tactic| with_reducible refine u_Twice_init ?_)
set_option maxHeartbeats 4000000 in
theorem d_Twice_init {P : Program} {w : World} {K : PySem.W.Frag} {mg : PySem.Str → Option Value} {base : Heap} {c : Cs} (T : Top K mg c) : Mi P w K mg base CX0 1 c.Twice ["self", "first", "second"] (sp_Twice_init K c) := by
  refine T.mi_Twice.ok sc_Twice_init (fun _ _ _ _ _ _ us hl => match us, hl with | [_, _, _], _ => rfl) (fun vs H Q E h => ?_) (fun f cdv A outer s H vs Q E hr h => ?_)
  · unfold sp_Twice_init at h; split at h
    · rfl
    · exact h.elim
  · unfold sp_Twice_init at h; split at h
    case h_2 => exact h.elim
    rename_i x a b
    obtain ⟨dx, e, h⟩ := h
    refine ⟨_, (pss_cons (k_sfld (K := K) rfl (pv 0) (pv 1) rfl)
      (pss_one (k_sfld (K := K) rfl (pv 0) (pv 2) rfl))), start_eq (σ := [some (.ref x), some (.int a), some (.int b)]) rfl ?_⟩
    walk_at "g"
    refine ⟨x, c.Twice, dx, [], rfl, e, T.cf_Twice.cl, T.na_Twice_first, (by decide : 0 < 1000), ?_⟩
    walk_at "g"
    refine ⟨x, c.Twice, dx, _, rfl, upd_same, T.cf_Twice.cl, T.na_Twice_second, (by decide : 1 < 1000), ?_⟩
    rw [upd_upd]
    exact h
def sp_Apart_shows (K : PySem.W.Frag) (c : Cs) : Sp := fun vs H Q E => match vs with | [.ref x, .int p, .ref a] => ∃ (dx : Addr) (u v : Int) (ts : List T3), H x = some (.ins c.Apart dx [("one", .int u), ("other", .int v)]) ∧ Ts K H a ts ∧ ts.length ≤ 100000 ∧ (∀ H', Same H H' → Q (.bl (apartB p ts u v)) H') | _ => False
theorem u_Apart_shows {K : PySem.W.Frag} {c : Cs} {H : Hp} {Q : VK} {E : XK} {x : Addr} {p : Int} {a : Addr} (h : ∃ (dx : Addr) (u v : Int) (ts : List T3), H x = some (.ins c.Apart dx [("one", .int u), ("other", .int v)]) ∧ Ts K H a ts ∧ ts.length ≤ 100000 ∧ (∀ H', Same H H' → Q (.bl (apartB p ts u v)) H')) : sp_Apart_shows K c [.ref x, .int p, .ref a] H Q E := h
local macro_rules | `(tactic| walk_at "u") => `(tactic| with_reducible refine u_Apart_shows ?_)
set_option maxHeartbeats 4000000 in
theorem d_Apart_shows {P : Program} {w : World} {K : PySem.W.Frag} {mg : PySem.Str → Option Value} {base : Heap} {c : Cs} (T : Top K mg c) : Mf P w K mg base CX0 1 c.Apart "shows" ["self", "people", "threes"] (sp_Apart_shows K c) := by
  refine T.m_Apart_shows.ok sc_Apart_shows (fun _ _ _ _ _ _ us hl => match us, hl with | [_, _, _], _ => rfl) (fun vs H Q E h => ?_) (fun f cdv A outer s H vs Q E hr h => ?_)
  · unfold sp_Apart_shows at h; split at h
    · rfl
    · exact h.elim
  · unfold sp_Apart_shows at h; split at h
    case h_2 => exact h.elim
    rename_i x p a
    obtain ⟨dx, u, v, ts, e, hT, hlen, h⟩ := h
    obtain ⟨rs, hS, hrl, hget⟩ := hT.get
    have cl := T.cf_Apart.cl
    have n1 := T.na_Apart_one
    have n2 := T.na_Apart_other
    unfold apartB at h
    refine ⟨_, (pss_cons (ps_if (pt_not (pt_chain3 op_le op_lt op_lt pe_int (k_fld (K := K) rfl (pv 0) rfl) (k_fld (K := K) rfl (pv 0) rfl) (pv 1)))
      (pss_one (ps_ret pe_bl))
      pss_nil)
      (pss_one (ps_ret (pe_not (pe_callB (k_any (K := K) rfl rfl) (by rfl) T.z_any (by decide +kernel) (pa_cons (pe_lc (own := [("three", 3)]) (g := (gName 3)) (tt := tYes) rfl sc_Apart_shows.nd (k_plist (K := K) rfl (pv 2)) (blkOk_by (own := [("three", 3)]) (N := ["self", "people", "threes", "three"]) (sc := defScope s_Apart_shows) (by decide +kernel)) (fun _ _ _ _ _ => (pg_name (i := 3) sc_Apart_shows.nd rfl (.inl rfl))) (fun _ _ _ _ _ => pts_nil) (fun _ _ _ _ _ => (pe_and (pe_cmpR (k_in (K := K) rfl) (k_fld (K := K) rfl (pv 0) rfl) (pv 3) (by rfl)) (pe_one (pe_cmpR (k_in (K := K) rfl) (k_fld (K := K) rfl (pv 0) rfl) (pv 3) (by rfl)))))) pa_nil)))))), start_eq (σ := [some (.ref x), some (.int p), some (.ref a), none]) rfl ?_⟩
    walk_at "g"
    refine g_fld e cl n1 rfl ?_
    walk_at "g"
    by_cases hc : 0 ≤ u ∧ u < v ∧ v < p
    · refine ifT hc.1 ?_
      walk_at "g"
      refine g_fld e cl n2 rfl ?_
      walk_at "g"
      refine ifT hc.2.1 ?_
      walk_at "g"
      refine ifNF hc.2.2 ?_
      rw [decide_eq_true hc, Bool.true_and] at h
      walk_at "g"
      refine ⟨_, rfl, ⟨_, hS⟩, fun D nD => ?_⟩
      refine lc_grow (xs := rs.map V.ref) (fun i w _ => ∀ t, ts[i]? = some t → w = .bl (bothIn u v t)) nD hS (fun _ => rfl) (fun _ _ _ _ _ _ r => r) (fun i y H' hy sm _ R hR => ?_) (by rw [List.length_map, sizeLine_eq]; omega) (fun ys H' sm eD hl hr => ?_)
      · obtain ⟨r, t, rfl, hr1, ht, hr2⟩ := hget i y hy
        have hr3 := sm.seq hr2
        have e3 := sm _ _ e
        walk_at "g"
        refine g_fld e3 cl n1 rfl ?_
        walk_at "g"
        refine g_inL hr3 ?_
        walk_at "g"
        refine ifD (fun c1 => ?_) (fun c1 => ?_)
        · walk_at "g"
          refine g_fld e3 cl n2 rfl ?_
          walk_at "g"
          refine g_inL hr3 ?_
          refine hR _ _ (Same.refl _) (fun t' ht' => ?_)
          rw [ht] at ht'
          cases ht'
          unfold bothIn
          rw [decide_eq_true c1, Bool.true_and]
        · refine hR _ _ (Same.refl _) (fun t' ht' => ?_)
          rw [ht] at ht'
          cases ht'
          unfold bothIn
          rw [decide_eq_false c1, Bool.false_and]
      have ey : ys = (ts.map (bothIn u v)).map V.bl := by
        rw [List.length_map, hrl] at hl
        refine List.ext_getElem? fun i => ?_
        by_cases hi : i < ts.length
        · have e1 := List.getElem?_eq_getElem (l := ys) (i := i) (by omega)
          have e2 := List.getElem?_eq_getElem hi
          rw [e1, hr i _ e1 _ e2, List.getElem?_map, List.getElem?_map, e2]
          rfl
        · rw [List.getElem?_eq_none (by omega), List.getElem?_eq_none (by simp; omega)]
      subst ey
      walk_at "g"
      refine g_any (SqL.of eD) ?_
      rw [List.any_map]
      walk_at "g"
      exact h _ sm
    · rw [decide_eq_false hc, Bool.false_and] at h
      refine ifD (fun c1 => ?_) (fun c1 => ?_)
      · walk_at "g"
        refine g_fld e cl n2 rfl ?_
        walk_at "g"
        refine ifD (fun c2 => ?_) (fun c2 => ?_)
        · walk_at "g"
          refine ifNT (by omega) ?_
          walk_at "g"
          exact h _ (Same.refl _)
        · walk_at "g"
          exact h _ (Same.refl _)
      · walk_at "g"
        exact h _ (Same.refl _)
def sp_Twice_shows (K : PySem.W.Frag) (c : Cs) : Sp := fun vs H Q E => match vs with | [.ref x, .int p, .ref a] => ∃ (dx : Addr) (u v : Int) (ts : List T3), H x = some (.ins c.Twice dx [("first", .int u), ("second", .int v)]) ∧ Ts K H a ts ∧ ts.length ≤ 100000 ∧ (∀ H', Same H H' → Q (.bl (twiceB ts u v)) H') | _ => False
theorem u_Twice_shows {K : PySem.W.Frag} {c : Cs} {H : Hp} {Q : VK} {E : XK} {x : Addr} {p : Int} {a : Addr} (h : ∃ (dx : Addr) (u v : Int) (ts : List T3), H x = some (.ins c.Twice dx [("first", .int u), ("second", .int v)]) ∧ Ts K H a ts ∧ ts.length ≤ 100000 ∧ (∀ H', Same H H' → Q (.bl (twiceB ts u v)) H')) : sp_Twice_shows K c [.ref x, .int p, .ref a] H Q E := h
local macro_rules | `(tactic| walk_at "u") => `(tactic| with_reducible refine u_Twice_shows ?_)
set_option maxHeartbeats 4000000 in
theorem d_Twice_shows {P : Program} {w : World} {K : PySem.W.Frag} {mg : PySem.Str → Option Value} {base : Heap} {c : Cs} (T : Top K mg c) : Mf P w K mg base CX0 1 c.Twice "shows" ["self", "people", "threes"] (sp_Twice_shows K c) := by
  refine T.m_Twice_shows.ok sc_Twice_shows (fun _ _ _ _ _ _ us hl => match us, hl with | [_, _, _], _ => rfl) (fun vs H Q E h => ?_) (fun f cdv A outer s H vs Q E hr h => ?_)
  · unfold sp_Twice_shows at h; split at h
    · rfl
    · exact h.elim
  · unfold sp_Twice_shows at h; split at h
    case h_2 => exact h.elim
    rename_i x p a
    obtain ⟨dx, u, v, ts, e, hT, hlen, h⟩ := h
    obtain ⟨rs0, hS0, hrl0, hget0⟩ := hT.get
    have cl := T.cf_Twice.cl
    have n1 := T.na_Twice_first
    have n2 := T.na_Twice_second
    refine ⟨_, (pss_cons (ps_if (pt_not (pt_chain3 op_le op_lt op_lt pe_int (k_fld (K := K) rfl (pv 0) rfl) (k_fld (K := K) rfl (pv 0) rfl) (pe_callB (k_len (K := K) rfl) (by rfl) T.z_len (by decide +kernel) (pa_cons (pv 2) pa_nil))))
      (pss_one (ps_ret pe_bl))
      pss_nil)
      (pss_one (ps_ret (pe_cmpR op_gt (pe_callB (k_len (K := K) rfl) (by rfl) T.z_len (by decide +kernel) (pa_cons (pe_lc (own := [("one", 3)]) (g := (gName 3)) rfl sc_Twice_shows.nd (k_plist (K := K) rfl (pe_ix (k_ixL (K := K) rfl) (pv 2) (k_fld (K := K) rfl (pv 0) rfl) (fun _ _ => rfl))) (blkOk_by (own := [("one", 3)]) (N := ["self", "people", "threes", "one"]) (sc := defScope s_Twice_shows) (by decide +kernel)) (fun _ _ _ _ _ => (pg_name (i := 3) sc_Twice_shows.nd rfl (.inl rfl))) (fun _ _ _ _ _ => (pts_one (pt_cmpR (k_in (K := K) rfl) (pv 3) (pe_ix (k_ixL (K := K) rfl) (pv 2) (k_fld (K := K) rfl (pv 0) rfl) (fun _ _ => rfl)) (by rfl)))) (fun _ _ _ _ _ => (pv 3))) pa_nil)) pe_int (nomark _))))), start_eq (σ := [some (.ref x), some (.int p), some (.ref a), none]) rfl ?_⟩
    walk_at "g"
    refine g_fld e cl n1 rfl ?_
    walk_at "g"
    by_cases hc : 0 ≤ u ∧ u < v ∧ v < ts.length
    · refine ifT hc.1 ?_
      walk_at "g"
      refine g_fld e cl n2 rfl ?_
      walk_at "g"
      refine ifT hc.2.1 ?_
      walk_at "g"
      refine g_len hS0 ?_
      rw [List.length_map, hrl0]
      walk_at "g"
      refine ifNF hc.2.2 ?_
      obtain ⟨rs, r, t, hS, hat, ht, hr⟩ := hT.at_ hc.1 (by omega)
      obtain ⟨rs', r', t', hS', hat', ht', hr'⟩ := hT.at_ (i := v) (by omega) hc.2.2
      rw [twiceB_some hc ht ht'] at h
      walk_at "g"
      refine g_fld e cl n1 rfl ?_
      walk_at "g"
      refine g_ixL hS hat ?_
      refine ⟨_, rfl, ⟨_, hr⟩, fun D nD => ?_⟩
      refine lc_filt (ns := t.l) (fun i => decide (i ∈ t'.l)) nD hr (fun _ => rfl) (fun i hi H' sm R hR => ?_) (fun i H' R hR => ?_) (by show 3 ≤ sizeLine; decide) ?_
      · walk_at "g"
        refine g_fld (sm _ _ e) cl n2 rfl ?_
        walk_at "g"
        refine g_ixL (sm.seq hS') hat' ?_
        refine g_inL (sm.seq hr') ?_
        walk_at "g"
        exact hR
      · walk_at "g"
        exact hR
      walk_at "g"
      refine g_len (SqL.of upd_same) ?_
      rw [List.length_map]
      walk_at "g"
      have eD : decide ((1 : Int) < ((List.filter (fun i => decide (i ∈ t'.l)) t.l).length : Nat)) = decide (1 < (common t t').length) := by
        unfold common
        exact decide_eq_decide.mpr (by omega)
      rw [eD]
      exact h _ (same_new nD)
    · rw [twiceB_out hc] at h
      refine ifD (fun c1 => ?_) (fun c1 => ?_)
      · walk_at "g"
        refine g_fld e cl n2 rfl ?_
        walk_at "g"
        refine ifD (fun c2 => ?_) (fun c2 => ?_)
        · walk_at "g"
          refine g_len hS0 ?_
          rw [List.length_map, hrl0]
          walk_at "g"
          refine ifNT (by omega) ?_
          walk_at "g"
          exact h _ (Same.refl _)
        · walk_at "g"
          exact h _ (Same.refl _)
      · walk_at "g"
        exact h _ (Same.refl _)
def sp_told (K : PySem.W.Frag) (c : Cs) : Sp := fun vs H Q E => match vs with | [.int p, .ref a] => ∃ ts : List T3, Ts K H a ts ∧ ts.length ≤ 100000 ∧ (1 ≤ p ∧ p ≤ 100 ∧ ∀ t ∈ ts, T3.ok p t) ∧ (isPlan p ts = true → ∀ H' x dx, Same H H' → H x = none → H' x = some (.ins c.Plan dx []) → Q (.ref x) H') ∧ (∀ u v H' x dx, apartB p ts u v = true → isPlan p ts = false → Same H H' → H x = none → H' x = some (.ins c.Apart dx [("one", .int u), ("other", .int v)]) → Q (.ref x) H') ∧ (∀ u v H' x dx, twiceB ts u v = true → isPlan p ts = false → Same H H' → H x = none → H' x = some (.ins c.Twice dx [("first", .int u), ("second", .int v)]) → Q (.ref x) H') | _ => False
theorem u_told {K : PySem.W.Frag} {c : Cs} {H : Hp} {Q : VK} {E : XK} {p : Int} {a : Addr} (h : ∃ ts : List T3, Ts K H a ts ∧ ts.length ≤ 100000 ∧ (1 ≤ p ∧ p ≤ 100 ∧ ∀ t ∈ ts, T3.ok p t) ∧ (isPlan p ts = true → ∀ H' x dx, Same H H' → H x = none → H' x = some (.ins c.Plan dx []) → Q (.ref x) H') ∧ (∀ u v H' x dx, apartB p ts u v = true → isPlan p ts = false → Same H H' → H x = none → H' x = some (.ins c.Apart dx [("one", .int u), ("other", .int v)]) → Q (.ref x) H') ∧ (∀ u v H' x dx, twiceB ts u v = true → isPlan p ts = false → Same H H' → H x = none → H' x = some (.ins c.Twice dx [("first", .int u), ("second", .int v)]) → Q (.ref x) H')) : sp_told K c [.int p, .ref a] H Q E := h
local macro_rules | `(tactic| walk_at "u") => `(tactic| with_reducible refine u_told ?_)
set_option maxHeartbeats 4000000 in
theorem d_told {P : Program} {w : World} {K : PySem.W.Frag} {mg : PySem.Str → Option Value} {base : Heap} {c : Cs} (T : Top K mg c) : Df P w K mg base CX0 4 "told" ["people", "threes"] (sp_told K c) := by
  have c_check_threes := d_check_threes (P := P) (w := w) (base := base) T
  have c_Twice_init := d_Twice_init (P := P) (w := w) (base := base) T
  have c_Apart_init := d_Apart_init (P := P) (w := w) (base := base) T
  refine T.f_told.ok sc_told (fun _ _ _ _ _ _ us hl => match us, hl with | [_, _], _ => rfl) (fun vs H Q E h => ?_) (fun f cdv A outer s H vs Q E hr h => ?_)
  · unfold sp_told at h; split at h
    · rfl
    · exact h.elim
  · unfold sp_told at h; split at h
    case h_2 => exact h.elim
    rename_i p a
    obtain ⟨ts, hT, hlen, ⟨h0, h1, hok⟩, hP, hA, hW⟩ := h
    refine ⟨_, (pss_cons (ps_expr (pe_fn c_check_threes hr (by rfl) pass0 (pa_cons (pv 0) (pa_cons (pv 1) pa_nil))))
      (pss_cons (ps_set (i := 2) sc_told.nd rfl (.inl rfl) pe_dnewT)
      (pss_cons (ps_for PassesOwn.never rfl (k_enum (K := K) rfl (by rfl) T.z_enumerate (pa_cons (pv 1) pa_nil)) (k_gtup (K := K) rfl rfl (pgs_cons (pg_name (i := 3) sc_told.nd rfl (.inl rfl)) (pgs_cons (pg_name (i := 4) sc_told.nd rfl (.inl rfl)) pgs_nil)))
      (pss_one (ps_for PassesOwn.never rfl (k_ptup (K := K) rfl (pe_tup (pa_cons (pe_tup (pa_cons (pe_ix (k_ixL (K := K) rfl) (pv 4) pe_int (fun _ _ => rfl)) (pa_cons (pe_ix (k_ixL (K := K) rfl) (pv 4) pe_int (fun _ _ => rfl)) pa_nil))) (pa_cons (pe_tup (pa_cons (pe_ix (k_ixL (K := K) rfl) (pv 4) pe_int (fun _ _ => rfl)) (pa_cons (pe_ix (k_ixL (K := K) rfl) (pv 4) pe_int (fun _ _ => rfl)) pa_nil))) (pa_cons (pe_tup (pa_cons (pe_ix (k_ixL (K := K) rfl) (pv 4) pe_int (fun _ _ => rfl)) (pa_cons (pe_ix (k_ixL (K := K) rfl) (pv 4) pe_int (fun _ _ => rfl)) pa_nil))) pa_nil))))) (pg_name (i := 5) sc_told.nd rfl (.inl rfl))
      (pss_cons (ps_if (pt_cmp (pc_din (hu_of hr) (pv 5) (pv 2)))
      (pss_one (ps_ret (pe_mk c_Twice_init hr (by rfl) T.mg_Twice pass0 (pa_cons (pe_dget (hu_of hr) (pv 2) (pv 5) (fun _ _ => rfl)) (pa_cons (pv 3) pa_nil)))))
      pss_nil)
      (pss_one (ps_dput (hu_of hr) (pv 2) (pv 5) (pv 3) rfl))))))
      (pss_cons (ps_for PassesOwn.never rfl (pi_range1 (by rfl) T.z_range (pa_cons (pv 0) pa_nil)) (pg_name (i := 6) sc_told.nd rfl (.inl rfl))
      (pss_one (ps_for PassesOwn.never rfl (pi_range1 (by rfl) T.z_range (pa_cons (pv 6) pa_nil)) (pg_name (i := 7) sc_told.nd rfl (.inl rfl))
      (pss_one (ps_if (pt_cmp (pc_dnotin (hu_of hr) (pe_tup (pa_cons (pv 7) (pa_cons (pv 6) pa_nil))) (pv 2)))
      (pss_one (ps_ret (pe_mk c_Apart_init hr (by rfl) T.mg_Apart pass0 (pa_cons (pv 7) (pa_cons (pv 6) pa_nil)))))
      pss_nil)))))
      (pss_one (ps_ret (pe_makeO T.mk_Plan (by rfl) T.mg_Plan))))))), start_eq (σ := [some (.int p), some (.ref a), none, none, none, none, none, none]) rfl ?_⟩
    walk_at "g"
    refine ⟨ts, hT, hlen, ⟨h0, h1, hok⟩, fun H0 s0 => ?_⟩
    obtain ⟨rs, hS, hrl, hget⟩ := (hT.same s0).get
    walk_at "g"
    intro d nd
    walk_at "g"
    refine ⟨a, _, rfl, sq_new nd hS, ?_⟩
    refine for_enum (xs := rs.map V.ref) (fun i σ H1 => ∃ y3 y4 y5, σ = [some (.int p), some (.ref a), some (.ref d), y3, y4, y5, none, none] ∧ Same H0 H1 ∧ H1 d = some (.dT (encD (seenFrom 0 (ts.take i)))) ∧ (allPrs (ts.take i)).Nodup) ⟨_, _, _, rfl, same_new nd, upd_same, List.nodup_nil⟩ (fun i σ H1 _ ⟨_, _, _, _, s1, _⟩ => s1.seq hS) (fun i x σ H1 Tt hx ⟨y3, y4, y5, e, s1, e1, hn⟩ nTt => ?_) (fun σ H1 ⟨y3, y4, y5, e, s1, e1, hn⟩ => ?_)
    · subst e
      obtain ⟨r, t, rfl, hr1, ht, hr2⟩ := hget i x hx
      have hkt := hok t (List.mem_of_getElem? ht)
      have hr3 : SqL K (upd H1 Tt (.tup [.int (i : Nat), .ref r])) r (t.l.map V.int) := sq_new nTt (s1.seq hr2)
      have e1' := at_new (u := .tup [.int (i : Nat), .ref r]) nTt e1
      have s1' := s1.trans (same_new (o := .tup [.int (i : Nat), .ref r]) nTt)
      refine g_gtupN rfl ?_
      generalize upd H1 Tt (.tup [.int (i : Nat), .ref r]) = HT at *
      obtain ⟨u, v, z⟩ := t
      have hr4 : SqL K HT r [.int u, .int v, .int z] := hr3
      walk_at "g"
      refine g_ixL hr4 (by rfl) ?_
      walk_at "g"
      refine g_ixL hr4 (by rfl) ?_
      walk_at "g"
      intro q1 n1
      walk_at "g"
      refine g_ixL (sq_new n1 hr4) (by rfl) ?_
      walk_at "g"
      refine g_ixL (sq_new n1 hr4) (by rfl) ?_
      walk_at "g"
      intro q2 n2
      walk_at "g"
      refine g_ixL (sq_new n2 (sq_new n1 hr4)) (by rfl) ?_
      walk_at "g"
      refine g_ixL (sq_new n2 (sq_new n1 hr4)) (by rfl) ?_
      walk_at "g"
      intro q3 n3
      walk_at "g"
      intro ql nl
      have ed := at_new (u := .tup [.ref q1, .ref q2, .ref q3]) nl (at_new (u := .tup [.int v, .int z]) n3 (at_new (u := .tup [.int u, .int z]) n2 (at_new (u := .tup [.int u, .int v]) n1 e1')))
      have f1 : (upd (upd (upd (upd HT q1 (.tup [.int u, .int v])) q2 (.tup [.int u, .int z])) q3 (.tup [.int v, .int z])) ql (.tup [.ref q1, .ref q2, .ref q3])) q1 = some (.tup [.int u, .int v]) := by walk_at "at"
      have f2 : (upd (upd (upd (upd HT q1 (.tup [.int u, .int v])) q2 (.tup [.int u, .int z])) q3 (.tup [.int v, .int z])) ql (.tup [.ref q1, .ref q2, .ref q3])) q2 = some (.tup [.int u, .int z]) := by walk_at "at"
      have f3 : (upd (upd (upd (upd HT q1 (.tup [.int u, .int v])) q2 (.tup [.int u, .int z])) q3 (.tup [.int v, .int z])) ql (.tup [.ref q1, .ref q2, .ref q3])) q3 = some (.tup [.int v, .int z]) := by walk_at "at"
      have f4 : (upd (upd (upd (upd HT q1 (.tup [.int u, .int v])) q2 (.tup [.int u, .int z])) q3 (.tup [.int v, .int z])) ql (.tup [.ref q1, .ref q2, .ref q3])) ql = some (.tup [.ref q1, .ref q2, .ref q3]) := by walk_at "at"
      have s2 : Same H0 (upd (upd (upd (upd HT q1 (.tup [.int u, .int v])) q2 (.tup [.int u, .int z])) q3 (.tup [.int v, .int z])) ql (.tup [.ref q1, .ref q2, .ref q3])) := by walk_at "sm"
      generalize upd (upd (upd (upd HT q1 (.tup [.int u, .int v])) q2 (.tup [.int u, .int z])) q3 (.tup [.int v, .int z])) ql (.tup [.ref q1, .ref q2, .ref q3]) = H2 at *
      have d1 : q1 ≠ d := ne_of f1 ed (by intro w; cases w)
      have d2 : q2 ≠ d := ne_of f2 ed (by intro w; cases w)
      have d3 : q3 ≠ d := ne_of f3 ed (by intro w; cases w)
      have d4 : ql ≠ d := ne_of f4 ed (by intro w; cases w)
      rw [← seenAt_zero ts i (u, v, z)] at ed
      have hn0 : ((seenAt ts i (u, v, z) 0).map (·.1)).Nodup := by rw [seenAt_zero, seen_keys]; exact hn
      refine ⟨_, rfl, ⟨_, SqT.of f4⟩, for_tup (xs := [.ref q1, .ref q2, .ref q3]) (fun j σ H3 => ∃ y5, σ = [some (.int p), some (.ref a), some (.ref d), some (.int (i : Nat)), some (.ref r), y5, none, none] ∧ SameBut d H2 H3 ∧ H3 d = some (.dT (encD (seenAt ts i (u, v, z) j))) ∧ ((seenAt ts i (u, v, z) j).map (·.1)).Nodup) ⟨_, rfl, .refl, ed, hn0⟩ (fun j σ H3 _ ⟨_, _, b3, _⟩ => SqT.of (b3 _ _ d4 f4)) (fun j x σ H3 hx ⟨y5, e, b3, e3, n3'⟩ => ?_) (fun σ H3 ⟨y5, e, b3, e3, n3'⟩ => ?_)⟩
      · subst e
        have hk : ∃ (q : Addr) (k : PP), x = .ref q ∧ (prs (u, v, z))[j]? = some k ∧ H3 q = some (.tup [.int k.1, .int k.2]) := by
          have hj : j < 3 := (List.getElem?_eq_some_iff.mp hx).1
          match j, hj with
          | 0, _ => cases hx; exact ⟨q1, (u, v), rfl, rfl, b3 _ _ d1 f1⟩
          | 1, _ => cases hx; exact ⟨q2, (u, z), rfl, rfl, b3 _ _ d2 f2⟩
          | 2, _ => cases hx; exact ⟨q3, (v, z), rfl, rfl, b3 _ _ d3 f3⟩
        obtain ⟨q, ⟨k1, k2⟩, rfl, hk1, hk2⟩ := hk
        have hsz : (seenAt ts i (u, v, z) j).length ≤ 300003 := by
          have e0 : (seenAt ts i (u, v, z) j).length = ((seenAt ts i (u, v, z) j).map (·.1)).length := by rw [List.length_map]
          rw [e0, seenAt_keys, List.length_append, allPrs_len, List.length_take, List.length_take]
          have : (prs (u, v, z)).length = 3 := rfl
          omega
        walk_at "g"
        refine ⟨d, _, rfl, dget_p e3 hk2, ?_⟩
        walk_at "g"
        cases hg : getA (seenAt ts i (u, v, z) j) (k1, k2) with
        | some w =>
          obtain ⟨tw, tn⟩ := seen_twice hok ht hk1 hg
          have dg := dget_p e3 hk2
          rw [hg] at dg
          refine iteT ?_
          walk_at "g"
          refine ⟨d, .int w, rfl, dg, ?_⟩
          walk_at "g"
          intro x dx nx ndx nex
          walk_at "g"
          refine ⟨dx, upd_same, rfl, ?_⟩
          rw [upd_upd]
          have s3 := SameBut.same nd s2 b3
          exact hW w i _ x dx tw (not_plan_of_twice tn) (s0.trans (s3.trans (same_made2 nx ndx))) (s0.free (s3.free nx)) upd_same
        | none =>
          refine iteF ?_
          walk_at "g"
          refine ⟨d, _, rfl, dput_p e3 hk2 (by rw [sizeLine_eq]; omega), ?_⟩
          rw [seenAt_next hk1 hg]
          exact ⟨_, rfl, b3.trans .upd, upd_same, seenAt_nodup hk1 n3' hg⟩
      · subst e
        have e3' : H3 d = some (.dT (encD (seenFrom 0 (ts.take (i + 1))))) := by rw [← seenAt_done ht]; exact e3
        refine ⟨_, _, _, rfl, SameBut.same nd s2 b3, e3', ?_⟩
        have : (seenAt ts i (u, v, z) 3).map (·.1) = allPrs (ts.take (i + 1)) := by rw [seenAt_done ht, seen_keys]
        rw [← this]
        exact n3'
    · subst e
      rw [List.length_map, hrl, List.take_length] at e1 hn
      walk_at "g"
      refine ⟨by omega, by omega, ?_⟩
      refine for_range (lo := 0) (n := p.toNat) (fun i σ H2 => ∃ y6 y7, σ = [some (.int p), some (.ref a), some (.ref d), y3, y4, y5, y6, y7] ∧ Same H1 H2 ∧ ∀ b c : Int, 0 ≤ b → b < c → c < i → (b, c) ∈ allPrs ts) ⟨_, _, rfl, Same.refl _, fun b c k1 k2 k3 => by omega⟩ (fun i σ H2 hi ⟨y6, y7, e, s2, hcov⟩ => ?_) (fun σ H2 ⟨y6, y7, e, s2, hcov⟩ => ?_)
      · subst e
        rw [Int.zero_add]
        walk_at "g"
        refine ⟨by omega, by omega, ?_⟩
        refine for_range (lo := 0) (n := ((i : Nat) : Int).toNat) (fun j σ H3 => ∃ y7, σ = [some (.int p), some (.ref a), some (.ref d), y3, y4, y5, some (.int (i : Nat)), y7] ∧ Same H1 H3 ∧ ∀ b : Int, 0 ≤ b → b < j → (b, (i : Int)) ∈ allPrs ts) ⟨_, rfl, s2, fun b k1 k2 => by omega⟩ (fun j σ H3 hj ⟨y7, e, s3, hc2⟩ => ?_) (fun σ H3 ⟨y7, e, s3, hc2⟩ => ?_)
        · subst e
          rw [Int.zero_add]
          walk_at "g"
          intro q5 n5
          walk_at "g"
          have e5 := at_new (u := .tup [.int (j : Nat), .int (i : Nat)]) n5 (s3 _ _ e1)
          refine ⟨d, _, rfl, dget_p e5 upd_same, ?_⟩
          walk_at "g"
          have hgs := seen_get (ts := ts) (a := (j : Int)) (b := (i : Int))
          cases hg : getA (seenFrom 0 ts) ((j : Int), (i : Int)) with
          | some w =>
            rw [hg] at hgs
            refine iteF ?_
            walk_at "g"
            refine ⟨_, rfl, s3.trans (same_new n5), fun b k1 k2 => ?_⟩
            by_cases eb : b = j
            · subst eb
              exact hgs.mp rfl
            · exact hc2 b k1 (by omega)
          | none =>
            rw [hg] at hgs
            have hno : ((j : Int), (i : Int)) ∉ allPrs ts := fun z => by have := hgs.mpr z; cases this
            obtain ⟨a1, a2⟩ := seen_apart (by omega) hok (a := (j : Int)) (b := (i : Int)) (by omega) (by omega) (by omega) hno
            refine iteT ?_
            walk_at "g"
            intro x dx nx ndx nex
            walk_at "g"
            refine ⟨dx, upd_same, rfl, ?_⟩
            rw [upd_upd]
            have s6 := s1.trans (s3.trans (same_new (o := .tup [.int (j : Nat), .int (i : Nat)]) n5))
            exact hA j i _ x dx a1 a2 (s0.trans (s6.trans (same_made2 nx ndx))) (s0.free (s6.free nx)) upd_same
        · subst e
          refine ⟨_, _, rfl, s3, fun b c k1 k2 k3 => ?_⟩
          by_cases ec : c = i
          · subst ec
            exact hc2 b k1 (by omega)
          · exact hcov b c k1 k2 (by omega)
      · subst e
        have hpl := plan_of_nodup_cover (p := p) (ts := ts) (by omega) hok hn (fun b c k1 k2 k3 => hcov b c k1 k2 (by omega))
        walk_at "g"
        refine g_mkO (fun x dx nx ndx nex => ?_)
        have s6 := s1.trans s2
        exact hP hpl _ x dx (s0.trans (s6.trans (same_made2 nx ndx))) (s0.free (s6.free nx)) upd_same
def sp_doubled (K : PySem.W.Frag) (c : Cs) : Sp := fun vs H Q E => match vs with | [.int p, .ref a] => ∃ ts : List T3, Ts K H a ts ∧ ts.length ≤ 100000 ∧ (1 ≤ p ∧ p ≤ 100 ∧ ∀ t ∈ ts, T3.ok p t) ∧ isPlan p ts = true ∧ (∀ H' q ps, Same H H' → Own H H' q ps → ps.map Prod.snd = sortT (dblU p ts) → Q (.ref q) H') | _ => False
theorem u_doubled {K : PySem.W.Frag} {c : Cs} {H : Hp} {Q : VK} {E : XK} {p : Int} {a : Addr} (h : ∃ ts : List T3, Ts K H a ts ∧ ts.length ≤ 100000 ∧ (1 ≤ p ∧ p ≤ 100 ∧ ∀ t ∈ ts, T3.ok p t) ∧ isPlan p ts = true ∧ (∀ H' q ps, Same H H' → Own H H' q ps → ps.map Prod.snd = sortT (dblU p ts) → Q (.ref q) H')) : sp_doubled K c [.int p, .ref a] H Q E := h
local macro_rules | `(tactic| walk_at "u") => `(tactic| with_reducible refine u_doubled ?_)
set_option maxHeartbeats 4000000 in
theorem d_doubled {P : Program} {w : World} {K : PySem.W.Frag} {mg : PySem.Str → Option Value} {base : Heap} {c : Cs} (T : Top K mg c) : Df P w K mg base CX0 4 "doubled" ["people", "threes"] (sp_doubled K c) := by
  have c_check_threes := d_check_threes (P := P) (w := w) (base := base) T
  have c_is_plan := d_is_plan (P := P) (w := w) (base := base) T
  refine T.f_doubled.ok sc_doubled (fun _ _ _ _ _ _ us hl => match us, hl with | [_, _], _ => rfl) (fun vs H Q E h => ?_) (fun f cdv A outer s H vs Q E hr h => ?_)
  · unfold sp_doubled at h; split at h
    · rfl
    · exact h.elim
  · unfold sp_doubled at h; split at h
    case h_2 => exact h.elim
    rename_i p a
    obtain ⟨ts, hT, hlen, ⟨h0, hp, hok⟩, hpl, h⟩ := h
    obtain ⟨rs, hS, hrl, hget⟩ := hT.get
    refine ⟨_, (pss_cons (ps_expr (pe_fn c_check_threes hr (by rfl) pass0 (pa_cons (pv 0) (pa_cons (pv 1) pa_nil))))
      (pss_cons (ps_if (pt_not (pt_val (pe_fn c_is_plan hr (by rfl) pass0 (pa_cons (pv 0) (pa_cons (pv 1) pa_nil)))))
      (pss_one ps_never)
      pss_nil)
      (pss_cons (ps_setLc (i := 3) (own := [("one", 2)]) (g := (gName 2)) (tt := tYes) rfl sc_doubled.nd rfl rfl (sw_true rfl rfl rfl (by decide +kernel)) (pi_range1 (by rfl) T.z_range (pa_cons (pv 0) pa_nil)) (blkOk_by (own := [("one", 2)]) (N := ["people", "threes", "one", "found", "other", "last"]) (sc := defScope s_doubled) (by decide +kernel)) (fun _ _ _ _ _ => (pg_name (i := 2) sc_doubled.nd rfl (.inl rfl))) (fun _ _ _ _ _ => pts_nil) (fun _ _ _ _ _ => (pe_lst (pa_cons (pv 2) (pa_cons (pe_op op_add (pv 0) (pv 2)) (pa_cons (pe_op op_mulB pe_int (pv 0)) pa_nil))))))
      (pss_cons (ps_for PassesOwn.never rfl (k_plist (K := K) rfl (pv 1)) (k_glst (K := K) rfl rfl (pgs_cons (pg_name (i := 2) sc_doubled.nd rfl (.inl rfl)) (pgs_cons (pg_name (i := 4) sc_doubled.nd rfl (.inl rfl)) (pgs_cons (pg_name (i := 5) sc_doubled.nd rfl (.inl rfl)) pgs_nil))))
      (pss_cons (ps_expr (k_bm (K := K) rfl PySem.F.plainAttrs_list PySem.F.slot_list_append PySem.F.type_list_append mt_append (pv 3) (pa_cons (pe_lst (pa_cons (pv 2) (pa_cons (pv 4) (pa_cons (pv 5) pa_nil)))) pa_nil)))
      (pss_cons (ps_expr (k_bm (K := K) rfl PySem.F.plainAttrs_list PySem.F.slot_list_append PySem.F.type_list_append mt_append (pv 3) (pa_cons (pe_lst (pa_cons (pv 2) (pa_cons (pe_op op_add (pv 0) (pv 4)) (pa_cons (pe_op op_add (pv 0) (pv 5)) pa_nil)))) pa_nil)))
      (pss_cons (ps_expr (k_bm (K := K) rfl PySem.F.plainAttrs_list PySem.F.slot_list_append PySem.F.type_list_append mt_append (pv 3) (pa_cons (pe_lst (pa_cons (pv 4) (pa_cons (pe_op op_add (pv 0) (pv 2)) (pa_cons (pe_op op_add (pv 0) (pv 5)) pa_nil)))) pa_nil)))
      (pss_one (ps_expr (k_bm (K := K) rfl PySem.F.plainAttrs_list PySem.F.slot_list_append PySem.F.type_list_append mt_append (pv 3) (pa_cons (pe_lst (pa_cons (pv 5) (pa_cons (pe_op op_add (pv 0) (pv 2)) (pa_cons (pe_op op_add (pv 0) (pv 4)) pa_nil)))) pa_nil))))))))
      (pss_one (ps_ret (pe_callB (k_sortTs (K := K) rfl hr.units) (by rfl) T.z_sorted (by decide +kernel) (pa_cons (pv 3) pa_nil)))))))), start_eq (σ := [some (.int p), some (.ref a), none, none, none, none]) rfl ?_⟩
    walk_at "g"
    refine ⟨ts, hT, hlen, ⟨h0, hp, hok⟩, fun H1 s1 => ?_⟩
    walk_at "g"
    refine ⟨ts, hT.same s1, hlen, ⟨h0, (Bt.small (by omega)).mono (by decide)⟩, fun H2 s2 => ?_⟩
    rw [hpl]
    walk_at "g"
    refine ⟨by omega, by omega, fun D nD => ?_⟩
    refine lc_ownR (n := p.toNat) (lo := 0) (fun i => ((i : Int), p + i, 2 * p)) nD (fun _ => rfl) (fun i H' hi sm T hT => ?_) (by rw [sizeLine_eq]; omega) (fun ps3 H3 s3 O3 e3 => ?_)
    · rw [Int.zero_add]
      walk_at "g"
      intro r nr
      exact hT r _ (same_new nr) nr upd_same
    have l3 : ps3.length = p.toNat := by
      have := congrArg List.length e3
      simpa using this
    walk_at "g"
    have s12 := s1.trans s2
    have hS2 := s12.seq hS
    refine ⟨_, rfl, ⟨_, s3.seq hS2⟩, for_list (xs := rs.map V.ref) (fun i σ H4 => ∃ y2 y4 y5, σ = [some (.int p), some (.ref a), y2, some (.ref D), y4, y5] ∧ Same H2 H4 ∧ ∃ ps, Own H2 H4 D ps ∧ ps.length = p.toNat + 4 * (ts.take i).length ∧ ps.map Prod.snd = (List.range p.toNat).map (fun (i : Nat) => ((i : Int), p + i, 2 * p)) ++ (ts.take i).flatMap (dbl1 p)) ⟨_, _, _, rfl, s3, ps3, O3, (by rw [l3]; rfl), (by rw [e3]; simp)⟩ (fun i σ H4 _ ⟨_, _, _, _, s4, _⟩ => s4.seq hS2) (fun i x σ H4 hx ⟨y2, y4, y5, e, s4, ps, O, hln, eps⟩ => ?_) (fun σ H4 ⟨y2, y4, y5, e, s4, ps, O, hln, eps⟩ => ?_)⟩
    · subst e
      obtain ⟨r, t, rfl, hr1, ht, hr2⟩ := hget i x hx
      have hr3 := s4.seq (s12.seq hr2)
      obtain ⟨u, v, z⟩ := t
      have hr4 : SqL K H4 r [.int u, .int v, .int z] := hr3
      have hti : (ts.take i).length ≤ 100000 := by rw [List.length_take]; omega
      refine g_glst hr4 rfl ?_
      have aO := O.at_
      walk_at "g"
      intro q1 n1
      walk_at "g"
      refine g_append (at_new n1 O.at_) (by rw [List.length_map, sizeLine_eq]; omega) ?_
      have O1 : Own H2 (upd (upd H4 q1 (.lst [.int u, .int v, .int z])) D (.lst (ps.map pRef ++ [.ref q1]))) D (ps ++ [(q1, ((u, v, z) : T3))]) := own_push (t := (u, v, z)) O s4 (same_new n1) n1 upd_same
      have s5 := SameBut.same O.new (s4.trans (same_new (o := .lst [.int u, .int v, .int z]) n1)) (.upd (o := .lst (ps.map pRef ++ [.ref q1])))
      have l5 : (ps ++ [(q1, ((u, v, z) : T3))]).length = ps.length + 1 := by rw [List.length_append]; rfl
      generalize eP1 : ps ++ [(q1, ((u, v, z) : T3))] = ps1 at *
      generalize upd (upd H4 q1 (.lst [.int u, .int v, .int z])) D (.lst (ps.map pRef ++ [.ref q1])) = H5 at *
      have aO1 := O1.at_
      walk_at "g"
      intro q2 n2
      walk_at "g"
      refine g_append (at_new n2 O1.at_) (by rw [List.length_map, sizeLine_eq]; omega) ?_
      have O2 : Own H2 (upd (upd H5 q2 (.lst [.int u, .int (p + v), .int (p + z)])) D (.lst (ps1.map pRef ++ [.ref q2]))) D (ps1 ++ [(q2, ((u, p + v, p + z) : T3))]) := own_push (t := (u, p + v, p + z)) O1 s5 (same_new n2) n2 upd_same
      have s6 := SameBut.same O.new (s5.trans (same_new (o := .lst [.int u, .int (p + v), .int (p + z)]) n2)) (.upd (o := .lst (ps1.map pRef ++ [.ref q2])))
      have l6 : (ps1 ++ [(q2, ((u, p + v, p + z) : T3))]).length = ps1.length + 1 := by rw [List.length_append]; rfl
      generalize eP2 : ps1 ++ [(q2, ((u, p + v, p + z) : T3))] = ps2 at *
      generalize upd (upd H5 q2 (.lst [.int u, .int (p + v), .int (p + z)])) D (.lst (ps1.map pRef ++ [.ref q2])) = H6 at *
      have aO2 := O2.at_
      walk_at "g"
      intro q3 n3
      walk_at "g"
      refine g_append (at_new n3 O2.at_) (by rw [List.length_map, sizeLine_eq]; omega) ?_
      have O3 : Own H2 (upd (upd H6 q3 (.lst [.int v, .int (p + u), .int (p + z)])) D (.lst (ps2.map pRef ++ [.ref q3]))) D (ps2 ++ [(q3, ((v, p + u, p + z) : T3))]) := own_push (t := (v, p + u, p + z)) O2 s6 (same_new n3) n3 upd_same
      have s7 := SameBut.same O.new (s6.trans (same_new (o := .lst [.int v, .int (p + u), .int (p + z)]) n3)) (.upd (o := .lst (ps2.map pRef ++ [.ref q3])))
      have l7 : (ps2 ++ [(q3, ((v, p + u, p + z) : T3))]).length = ps2.length + 1 := by rw [List.length_append]; rfl
      generalize eP3 : ps2 ++ [(q3, ((v, p + u, p + z) : T3))] = ps4 at *
      generalize upd (upd H6 q3 (.lst [.int v, .int (p + u), .int (p + z)])) D (.lst (ps2.map pRef ++ [.ref q3])) = H7 at *
      have aO3 := O3.at_
      walk_at "g"
      intro q4 n4
      walk_at "g"
      refine g_append (at_new n4 O3.at_) (by rw [List.length_map, sizeLine_eq]; omega) ?_
      have O4 : Own H2 (upd (upd H7 q4 (.lst [.int z, .int (p + u), .int (p + v)])) D (.lst (ps4.map pRef ++ [.ref q4]))) D (ps4 ++ [(q4, ((z, p + u, p + v) : T3))]) := own_push (t := (z, p + u, p + v)) O3 s7 (same_new n4) n4 upd_same
      have s8 := SameBut.same O.new (s7.trans (same_new (o := .lst [.int z, .int (p + u), .int (p + v)]) n4)) (.upd (o := .lst (ps4.map pRef ++ [.ref q4])))
      refine ⟨_, _, _, rfl, s8, _, O4, ?_, ?_⟩
      · rw [List.length_append, take_snoc_len ht]
        show ps4.length + 1 = _
        omega
      · rw [take_snoc ht, List.flatMap_append, ← List.append_assoc, ← eps, ← eP3, ← eP2, ← eP1]
        simp [dbl1]
    · subst e
      rw [List.length_map, hrl, List.take_length] at eps
      walk_at "g"
      refine ⟨D, ps, rfl, SqL.of O.at_, fun x hx => SqL.of (O.each x hx).2, fun q nq => ?_⟩
      refine h _ q (sortP ps) (s12.trans (s4.trans (same_new nq))) ((own_sorted O s4 nq).back s12) ?_
      rw [sortP_snd, eps]
      rfl
theorem pe_never {X : Cx} {e : Expr} : PE X e (fun _ _ _ => False) := ⟨fun _ _ _ _ _ _ h => h.elim⟩
def sp__law_copied_0 (K : PySem.W.Frag) (c : Cs) : Sp := fun vs H Q E => match vs with | [.int n] => Q (.int n) H | _ => False
theorem u__law_copied_0 {K : PySem.W.Frag} {c : Cs} {H : Hp} {Q : VK} {E : XK} {n : Int} (h : Q (.int n) H) : sp__law_copied_0 K c [.int n] H Q E := h
local macro_rules | `(tactic| walk_at "u") => `(tactic| with_reducible refine u__law_copied_0 ?_)
set_option maxHeartbeats 4000000 in
theorem d__law_copied_0 {P : Program} {w : World} {K : PySem.W.Frag} {mg : PySem.Str → Option Value} {base : Heap} {c : Cs} (T : Top K mg c) : Df P w K mg base CX0 1 "_law_copied" ["_law_thing"] (sp__law_copied_0 K c) := by
  refine T.f__law_copied.ok sc__law_copied (fun _ _ _ _ _ _ us hl => match us, hl with | [_], _ => rfl) (fun vs H Q E h => ?_) (fun f cdv A outer s H vs Q E hr h => ?_)
  · unfold sp__law_copied_0 at h; split at h
    · rfl
    · exact h.elim
  · unfold sp__law_copied_0 at h; split at h
    case h_2 => exact h.elim
    rename_i n
    refine ⟨_, (pss_one (ps_ret (pe_ifExp (pt_val (pe_callB (k_isi (K := K) rfl) (by rfl) T.z_isinstance (by decide +kernel) (pa_cons (pv 0) (pa_cons (pe_bltn (v := .ty "list") (by rfl) T.z_list (by decide +kernel) rfl) pa_nil)))) (pe_lc (own := [("_law_one", 1)]) (g := (gName 1)) (tt := tYes) rfl sc__law_copied.nd (k_plist (K := K) rfl (pv 0)) (blkOk_by (own := [("_law_one", 1)]) (N := ["_law_thing", "_law_one"]) (sc := defScope s__law_copied) (by decide +kernel)) (fun _ _ _ _ _ => (pg_name (i := 1) sc__law_copied.nd rfl (.inl rfl))) (fun _ _ _ _ _ => pts_nil) (fun _ _ _ _ _ => pe_never)) (pv 0)))), start_eq (σ := [some (.int n), none]) rfl ?_⟩
    walk_at "g"
    refine g_isNl (.int _) ?_
    walk_at "g"
    exact h
def sp__law_copied_1 (K : PySem.W.Frag) (c : Cs) : Sp := fun vs H Q E => match vs with | [.ref a] => ∃ t : T3, SqL K H a (t.l.map V.int) ∧ (∀ r H', Same H H' → H r = none → H' r = some (.lst (t.l.map V.int)) → Q (.ref r) H') | _ => False
theorem u__law_copied_1 {K : PySem.W.Frag} {c : Cs} {H : Hp} {Q : VK} {E : XK} {a : Addr} (h : ∃ t : T3, SqL K H a (t.l.map V.int) ∧ (∀ r H', Same H H' → H r = none → H' r = some (.lst (t.l.map V.int)) → Q (.ref r) H')) : sp__law_copied_1 K c [.ref a] H Q E := h
local macro_rules | `(tactic| walk_at "u") => `(tactic| with_reducible refine u__law_copied_1 ?_)
set_option maxHeartbeats 4000000 in
theorem d__law_copied_1 {P : Program} {w : World} {K : PySem.W.Frag} {mg : PySem.Str → Option Value} {base : Heap} {c : Cs} (T : Top K mg c) : Df P w K mg base CX0 2 "_law_copied" ["_law_thing"] (sp__law_copied_1 K c) := by
  have c__law_copied_0 := d__law_copied_0 (P := P) (w := w) (base := base) T
  refine T.f__law_copied.ok sc__law_copied (fun _ _ _ _ _ _ us hl => match us, hl with | [_], _ => rfl) (fun vs H Q E h => ?_) (fun f cdv A outer s H vs Q E hr h => ?_)
  · unfold sp__law_copied_1 at h; split at h
    · rfl
    · exact h.elim
  · unfold sp__law_copied_1 at h; split at h
    case h_2 => exact h.elim
    rename_i a
    obtain ⟨t, hS, h⟩ := h
    refine ⟨_, (pss_one (ps_ret (pe_ifExp (pt_val (pe_callB (k_isi (K := K) rfl) (by rfl) T.z_isinstance (by decide +kernel) (pa_cons (pv 0) (pa_cons (pe_bltn (v := .ty "list") (by rfl) T.z_list (by decide +kernel) rfl) pa_nil)))) (pe_lc (own := [("_law_one", 1)]) (g := (gName 1)) (tt := tYes) rfl sc__law_copied.nd (k_plist (K := K) rfl (pv 0)) (blkOk_by (own := [("_law_one", 1)]) (N := ["_law_thing", "_law_one"]) (sc := defScope s__law_copied) (by decide +kernel)) (fun _ _ _ _ _ => (pg_name (i := 1) sc__law_copied.nd rfl (.inl rfl))) (fun _ _ _ _ _ => pts_nil) (fun _ _ _ _ _ => (pe_fn c__law_copied_0 hr (by rfl) pass0 (pa_cons (pv 1) pa_nil)))) (pv 0)))), start_eq (σ := [some (.ref a), none]) rfl ?_⟩
    walk_at "g"
    refine g_isi_sq hS ?_
    walk_at "g"
    refine ⟨_, rfl, ⟨_, hS⟩, fun D nD => lc_map (xs := t.l.map V.int) (fun v => v) nD hS (fun _ => rfl) (fun y H' hy sm R hR => ?_) (by show 3 ≤ sizeLine; decide) ?_⟩
    · obtain ⟨n, _, rfl⟩ := List.mem_map.mp hy
      walk_at "g"
      exact hR
    rw [List.map_id']
    exact h D _ (same_new nD) nD upd_same
def sp__law_copied_2 (K : PySem.W.Frag) (c : Cs) : Sp := fun vs H Q E => match vs with | [.ref a] => ∃ ts : List T3, Ts K H a ts ∧ ts.length ≤ 100000 ∧ (∀ H' q ps, Same H H' → Own H H' q ps → ps.map Prod.snd = ts → Q (.ref q) H') | _ => False
theorem u__law_copied_2 {K : PySem.W.Frag} {c : Cs} {H : Hp} {Q : VK} {E : XK} {a : Addr} (h : ∃ ts : List T3, Ts K H a ts ∧ ts.length ≤ 100000 ∧ (∀ H' q ps, Same H H' → Own H H' q ps → ps.map Prod.snd = ts → Q (.ref q) H')) : sp__law_copied_2 K c [.ref a] H Q E := h
local macro_rules | `(tactic| walk_at "u") => `(tactic| with_reducible refine u__law_copied_2 ?_)
set_option maxHeartbeats 4000000 in
theorem d__law_copied_2 {P : Program} {w : World} {K : PySem.W.Frag} {mg : PySem.Str → Option Value} {base : Heap} {c : Cs} (T : Top K mg c) : Df P w K mg base CX0 3 "_law_copied" ["_law_thing"] (sp__law_copied_2 K c) := by
  have c__law_copied_1 := d__law_copied_1 (P := P) (w := w) (base := base) T
  refine T.f__law_copied.ok sc__law_copied (fun _ _ _ _ _ _ us hl => match us, hl with | [_], _ => rfl) (fun vs H Q E h => ?_) (fun f cdv A outer s H vs Q E hr h => ?_)
  · unfold sp__law_copied_2 at h; split at h
    · rfl
    · exact h.elim
  · unfold sp__law_copied_2 at h; split at h
    case h_2 => exact h.elim
    rename_i a
    obtain ⟨ts, hT, hl, h⟩ := h
    obtain ⟨rs, hS, hrl, hget⟩ := hT.get
    refine ⟨_, (pss_one (ps_ret (pe_ifExp (pt_val (pe_callB (k_isi (K := K) rfl) (by rfl) T.z_isinstance (by decide +kernel) (pa_cons (pv 0) (pa_cons (pe_bltn (v := .ty "list") (by rfl) T.z_list (by decide +kernel) rfl) pa_nil)))) (pe_lc (own := [("_law_one", 1)]) (g := (gName 1)) (tt := tYes) rfl sc__law_copied.nd (k_plist (K := K) rfl (pv 0)) (blkOk_by (own := [("_law_one", 1)]) (N := ["_law_thing", "_law_one"]) (sc := defScope s__law_copied) (by decide +kernel)) (fun _ _ _ _ _ => (pg_name (i := 1) sc__law_copied.nd rfl (.inl rfl))) (fun _ _ _ _ _ => pts_nil) (fun _ _ _ _ _ => (pe_fn c__law_copied_1 hr (by rfl) pass0 (pa_cons (pv 1) pa_nil)))) (pv 0)))), start_eq (σ := [some (.ref a), none]) rfl ?_⟩
    walk_at "g"
    refine g_isi_sq hS ?_
    walk_at "g"
    have ln : (rs.map V.ref).length = ts.length := by rw [List.length_map, hrl]
    refine ⟨_, rfl, ⟨_, hS⟩, fun D nD => lc_ownL (xs := rs.map V.ref) (fun i => ts.getD i (0, 0, 0)) nD hS (fun _ => rfl) (fun i x H' hx s' R hR => ?_) (by rw [ln, sizeLine_eq]; omega) (fun ps G1 s1 O1 e1 => ?_)⟩
    · obtain ⟨r, t, rfl, hr1, ht, hr2⟩ := hget i x hx
      walk_at "g"
      refine ⟨t, s'.seq hr2, fun r2 H2 s2 n2 e2 => hR r2 _ s2 n2 ?_⟩
      rw [List.getD_eq_getElem?_getD, ht]
      exact e2
    rw [ln, map_range_getD] at e1
    exact h _ D ps s1 O1 e1
def sp__law_spoiled_1 (K : PySem.W.Frag) (c : Cs) : Sp := fun vs H Q E => match vs with | [.ref a] => ∃ t : T3, H a = some (.lst (t.l.map V.int)) ∧ Q .non (upd H a (.lst ((t.l.map V.int ++ [V.int 99]).reverse))) | _ => False
theorem u__law_spoiled_1 {K : PySem.W.Frag} {c : Cs} {H : Hp} {Q : VK} {E : XK} {a : Addr} (h : ∃ t : T3, H a = some (.lst (t.l.map V.int)) ∧ Q .non (upd H a (.lst ((t.l.map V.int ++ [V.int 99]).reverse)))) : sp__law_spoiled_1 K c [.ref a] H Q E := h
local macro_rules | `(tactic| walk_at "u") => `(tactic| with_reducible refine u__law_spoiled_1 ?_)
set_option maxHeartbeats 4000000 in
theorem d__law_spoiled_1 {P : Program} {w : World} {K : PySem.W.Frag} {mg : PySem.Str → Option Value} {base : Heap} {c : Cs} (T : Top K mg c) : Df P w K mg base CX0 1 "_law_spoiled" ["_law_thing"] (sp__law_spoiled_1 K c) := by
  refine T.f__law_spoiled.ok sc__law_spoiled (fun _ _ _ _ _ _ us hl => match us, hl with | [_], _ => rfl) (fun vs H Q E h => ?_) (fun f cdv A outer s H vs Q E hr h => ?_)
  · unfold sp__law_spoiled_1 at h; split at h
    · rfl
    · exact h.elim
  · unfold sp__law_spoiled_1 at h; split at h
    case h_2 => exact h.elim
    rename_i a
    obtain ⟨t, e, h⟩ := h
    refine ⟨_, (pss_cons (ps_for PassesOwn.never rfl (k_plist (K := K) rfl (pv 0)) (pg_name (i := 1) sc__law_spoiled.nd rfl (.inl rfl))
      (pss_one (ps_if (pt_val (pe_callB (k_isi (K := K) rfl) (by rfl) T.z_isinstance (by decide +kernel) (pa_cons (pv 1) (pa_cons (pe_bltn (v := .ty "list") (by rfl) T.z_list (by decide +kernel) rfl) pa_nil))))
      (pss_one (ps_expr pe_never))
      pss_nil)))
      (pss_cons (ps_expr (k_bm (K := K) rfl PySem.F.plainAttrs_list PySem.F.slot_list_append PySem.F.type_list_append mt_append (pv 0) (pa_cons pe_int pa_nil)))
      (pss_one (ps_expr (k_bm0 (K := K) rfl PySem.F.plainAttrs_list PySem.F.slot_list_reverse PySem.F.type_list_reverse mt_reverse (pv 0)))))), start_eq (σ := [some (.ref a), none]) rfl ?_⟩
    walk_at "g"
    refine ⟨_, rfl, ⟨_, SqL.of e⟩, for_list (xs := t.l.map V.int) (fun _ σ H' => ∃ y1, σ = [some (.ref a), y1] ∧ H' = H) ⟨_, rfl, rfl⟩ (fun _ σ H' _ ⟨_, _, e'⟩ => by rw [e']; exact SqL.of e) (fun i x σ H' hx ⟨y1, e1, e2⟩ => ?_) (fun σ H' ⟨y1, e1, e2⟩ => ?_)⟩
    · subst e1 e2
      obtain ⟨n, _, rfl⟩ := List.mem_map.mp (List.mem_of_getElem? hx)
      walk_at "g"
      refine g_isNl (.int _) ?_
      walk_at "g"
      exact ⟨_, rfl, rfl⟩
    subst e1 e2
    walk_at "g"
    refine g_append e (by show 3 < sizeLine; decide) ?_
    walk_at "g"
    refine ⟨a, _, rfl, rfl, upd_same, ?_⟩
    rw [upd_upd]
    exact h
def sp__law_spoiled_e (K : PySem.W.Frag) (c : Cs) : Sp := fun vs H Q E => match vs with | [.ref a] => H a = some (.lst []) ∧ Q .non (upd H a (.lst [.int 99])) | _ => False
theorem u__law_spoiled_e {K : PySem.W.Frag} {c : Cs} {H : Hp} {Q : VK} {E : XK} {a : Addr} (h : H a = some (.lst []) ∧ Q .non (upd H a (.lst [.int 99]))) : sp__law_spoiled_e K c [.ref a] H Q E := h
local macro_rules | `(tactic| walk_at "u") => `(tactic| with_reducible refine u__law_spoiled_e ?_)
set_option maxHeartbeats 4000000 in
theorem d__law_spoiled_e {P : Program} {w : World} {K : PySem.W.Frag} {mg : PySem.Str → Option Value} {base : Heap} {c : Cs} (T : Top K mg c) : Df P w K mg base CX0 1 "_law_spoiled" ["_law_thing"] (sp__law_spoiled_e K c) := by
  refine T.f__law_spoiled.ok sc__law_spoiled (fun _ _ _ _ _ _ us hl => match us, hl with | [_], _ => rfl) (fun vs H Q E h => ?_) (fun f cdv A outer s H vs Q E hr h => ?_)
  · unfold sp__law_spoiled_e at h; split at h
    · rfl
    · exact h.elim
  · unfold sp__law_spoiled_e at h; split at h
    case h_2 => exact h.elim
    rename_i a
    obtain ⟨e, h⟩ := h
    refine ⟨_, (pss_cons (ps_for PassesOwn.never rfl (k_plist (K := K) rfl (pv 0)) (pg_name (i := 1) sc__law_spoiled.nd rfl (.inl rfl))
      (pss_one (ps_if (pt_val (pe_callB (k_isi (K := K) rfl) (by rfl) T.z_isinstance (by decide +kernel) (pa_cons (pv 1) (pa_cons (pe_bltn (v := .ty "list") (by rfl) T.z_list (by decide +kernel) rfl) pa_nil))))
      (pss_one (ps_expr pe_never))
      pss_nil)))
      (pss_cons (ps_expr (k_bm (K := K) rfl PySem.F.plainAttrs_list PySem.F.slot_list_append PySem.F.type_list_append mt_append (pv 0) (pa_cons pe_int pa_nil)))
      (pss_one (ps_expr (k_bm0 (K := K) rfl PySem.F.plainAttrs_list PySem.F.slot_list_reverse PySem.F.type_list_reverse mt_reverse (pv 0)))))), start_eq (σ := [some (.ref a), none]) rfl ?_⟩
    walk_at "g"
    refine ⟨_, rfl, ⟨_, SqL.of e⟩, for_list (xs := []) (fun _ σ H' => ∃ y1, σ = [some (.ref a), y1] ∧ H' = H) ⟨_, rfl, rfl⟩ (fun _ σ H' _ ⟨_, _, e'⟩ => by rw [e']; exact SqL.of e) (fun i x σ H' hx ⟨y1, e1, e2⟩ => by simp at hx) (fun σ H' ⟨y1, e1, e2⟩ => ?_)⟩
    subst e1 e2
    walk_at "g"
    refine g_append e (by show 0 < sizeLine; decide) ?_
    walk_at "g"
    refine ⟨a, _, rfl, rfl, upd_same, ?_⟩
    rw [upd_upd]
    exact h
def sp__law_spoiled_2 (K : PySem.W.Frag) (c : Cs) : Sp := fun vs H Q E => match vs with | [.ref q] => ∃ H0 ps, Own H0 H q ps ∧ Same H0 H ∧ ps.length ≤ 100000 ∧ (∀ H', Same H0 H' → Q .non H') | _ => False
theorem u__law_spoiled_2 {K : PySem.W.Frag} {c : Cs} {H : Hp} {Q : VK} {E : XK} {q : Addr} (h : ∃ H0 ps, Own H0 H q ps ∧ Same H0 H ∧ ps.length ≤ 100000 ∧ (∀ H', Same H0 H' → Q .non H')) : sp__law_spoiled_2 K c [.ref q] H Q E := h
local macro_rules | `(tactic| walk_at "u") => `(tactic| with_reducible refine u__law_spoiled_2 ?_)
set_option maxHeartbeats 4000000 in
theorem d__law_spoiled_2 {P : Program} {w : World} {K : PySem.W.Frag} {mg : PySem.Str → Option Value} {base : Heap} {c : Cs} (T : Top K mg c) : Df P w K mg base CX0 2 "_law_spoiled" ["_law_thing"] (sp__law_spoiled_2 K c) := by
  have c__law_spoiled_1 := d__law_spoiled_1 (P := P) (w := w) (base := base) T
  refine T.f__law_spoiled.ok sc__law_spoiled (fun _ _ _ _ _ _ us hl => match us, hl with | [_], _ => rfl) (fun vs H Q E h => ?_) (fun f cdv A outer s H vs Q E hr h => ?_)
  · unfold sp__law_spoiled_2 at h; split at h
    · rfl
    · exact h.elim
  · unfold sp__law_spoiled_2 at h; split at h
    case h_2 => exact h.elim
    rename_i q
    obtain ⟨H0, ps, o, s0, hl, h⟩ := h
    refine ⟨_, (pss_cons (ps_for PassesOwn.never rfl (k_plist (K := K) rfl (pv 0)) (pg_name (i := 1) sc__law_spoiled.nd rfl (.inl rfl))
      (pss_one (ps_if (pt_val (pe_callB (k_isi (K := K) rfl) (by rfl) T.z_isinstance (by decide +kernel) (pa_cons (pv 1) (pa_cons (pe_bltn (v := .ty "list") (by rfl) T.z_list (by decide +kernel) rfl) pa_nil))))
      (pss_one (ps_expr (pe_fn c__law_spoiled_1 hr (by rfl) pass0 (pa_cons (pv 1) pa_nil))))
      pss_nil)))
      (pss_cons (ps_expr (k_bm (K := K) rfl PySem.F.plainAttrs_list PySem.F.slot_list_append PySem.F.type_list_append mt_append (pv 0) (pa_cons pe_int pa_nil)))
      (pss_one (ps_expr (k_bm0 (K := K) rfl PySem.F.plainAttrs_list PySem.F.slot_list_reverse PySem.F.type_list_reverse mt_reverse (pv 0)))))), start_eq (σ := [some (.ref q), none]) rfl ?_⟩
    walk_at "g"
    refine ⟨_, rfl, ⟨_, SqL.of o.at_⟩, for_list (xs := ps.map pRef) (fun i σ H' => ∃ y1, σ = [some (.ref q), y1] ∧ Same H0 H' ∧ H' q = some (.lst (ps.map pRef)) ∧ ∀ j x, i ≤ j → ps[j]? = some x → H' x.1 = some (.lst (x.2.l.map V.int))) ⟨_, rfl, s0, o.at_, fun j x _ hx => (o.each x (List.mem_of_getElem? hx)).2⟩ (fun _ σ H' _ ⟨_, _, _, e', _⟩ => SqL.of e') (fun i x σ H' hx ⟨y1, e1, s1, e2, hrow⟩ => ?_) (fun σ H' ⟨y1, e1, s1, e2, _⟩ => ?_)⟩
    · subst e1
      rw [List.getElem?_map] at hx
      cases hp : ps[i]? with
      | none => rw [hp] at hx; cases hx
      | some z =>
      rw [hp] at hx
      have ex : x = .ref z.1 := (Option.some.inj hx).symm
      subst ex
      have hz := hrow i z (Nat.le_refl _) hp
      have zm := List.mem_of_getElem? hp
      walk_at "g"
      refine g_isi_sq (SqL.of hz) ?_
      walk_at "g"
      refine ⟨z.2, hz, ?_⟩
      walk_at "g"
      refine ⟨_, rfl, SameBut.same (o.each z zm).1 s1 .upd, ?_, fun j x hj hx => ?_⟩
      · rw [upd_ne (Ne.symm (o.ne zm))]
        exact e2
      · rw [upd_ne (fun e => by have := nodup_at o.nd hp hx e.symm; omega)]
        exact hrow j x (by omega) hx
    subst e1
    walk_at "g"
    refine g_append e2 (by rw [List.length_map, sizeLine_eq]; omega) ?_
    walk_at "g"
    refine ⟨q, _, rfl, rfl, upd_same, ?_⟩
    rw [upd_upd]
    exact h _ (SameBut.same o.new s1 .upd)
/-- a list of threes that is known, row by row -/
def Tx (H : Hp) (a : Addr) (ts : List T3) : Prop := ∃ ps : List (Addr × T3), ps.map Prod.snd = ts ∧ H a = some (.lst (ps.map pRef)) ∧ ∀ x ∈ ps, H x.1 = some (.lst (x.2.l.map V.int))
section
variable {K : PySem.W.Frag} {A H H' : Hp} {a q : Addr} {ts us : List T3} {ps : List (Addr × T3)}
theorem Own.tx (o : Own A H q ps) : Tx H q (ps.map Prod.snd) := ⟨ps, rfl, o.at_, fun x hx => (o.each x hx).2⟩
theorem Own.tx' (o : Own A H q ps) (e : ps.map Prod.snd = ts) : Tx H q ts := ⟨ps, e, o.at_, fun x hx => (o.each x hx).2⟩
theorem Own.ts' (o : Own A H q ps) (e : ps.map Prod.snd = ts) : Ts K H q ts := e ▸ o.ts.ts
theorem Tx.same (h : Tx H a ts) (s : Same H H') : Tx H' a ts := by
  obtain ⟨ps, h1, h2, h3⟩ := h
  exact ⟨ps, h1, s _ _ h2, fun x hx => s _ _ (h3 x hx)⟩
theorem Tx.toTs (h : Tx H a ts) : Ts K H a ts := by
  obtain ⟨ps, rfl, h2, h3⟩ := h
  exact (tsT_pairs h2 fun x hx => SqL.of (h3 x hx)).ts
end
def mixL (t u : T3) (i : Nat) : List V := (u.l.take i ++ t.l.drop i).map V.int
theorem mix_len {t u : T3} {i : Nat} (hi : i ≤ 3) : (mixL t u i).length = 3 := by
  match i, hi with
  | 0, _ => rfl
  | 1, _ => rfl
  | 2, _ => rfl
  | 3, _ => rfl
theorem mix_set {t u : T3} {i : Nat} {n : Int} (hi : i < 3) (hn : u.l[i]? = some n) : (mixL t u i).set i (.int n) = mixL t u (i + 1) := by
  match i, hi with
  | 0, _ => cases hn; rfl
  | 1, _ => cases hn; rfl
  | 2, _ => cases hn; rfl
theorem take_set {α : Type} {l m : List α} {i : Nat} {u : α} (hi : i < l.length) (e : l.take i = m.take i) (hu : m[i]? = some u) : (l.set i u).take (i + 1) = m.take (i + 1) := by
  rw [take_snoc (t := u) (by rw [List.getElem?_set_self hi]), take_snoc hu, ← e, List.take_set_of_le (Nat.le_refl i)]
def sp__law_laid_1 (K : PySem.W.Frag) (c : Cs) : Sp := fun vs H Q E => match vs with | [.ref r, .ref o] => ∃ t u : T3, H r = some (.lst (t.l.map V.int)) ∧ H o = some (.lst (u.l.map V.int)) ∧ r ≠ o ∧ (∀ H', SameBut r H H' → H' r = some (.lst (u.l.map V.int)) → Q .non H') | _ => False
theorem u__law_laid_1 {K : PySem.W.Frag} {c : Cs} {H : Hp} {Q : VK} {E : XK} {r : Addr} {o : Addr} (h : ∃ t u : T3, H r = some (.lst (t.l.map V.int)) ∧ H o = some (.lst (u.l.map V.int)) ∧ r ≠ o ∧ (∀ H', SameBut r H H' → H' r = some (.lst (u.l.map V.int)) → Q .non H')) : sp__law_laid_1 K c [.ref r, .ref o] H Q E := h
local macro_rules | `(tactic| walk_at "u") => `(tactic| with_reducible refine u__law_laid_1 ?_)
set_option maxHeartbeats 4000000 in
theorem d__law_laid_1 {P : Program} {w : World} {K : PySem.W.Frag} {mg : PySem.Str → Option Value} {base : Heap} {c : Cs} (T : Top K mg c) : Df P w K mg base CX0 2 "_law_laid" ["_law_mine", "_law_other"] (sp__law_laid_1 K c) := by
  have c__law_copied_0 := d__law_copied_0 (P := P) (w := w) (base := base) T
  refine T.f__law_laid.ok sc__law_laid (fun _ _ _ _ _ _ us hl => match us, hl with | [_, _], _ => rfl) (fun vs H Q E h => ?_) (fun f cdv A outer s H vs Q E hr h => ?_)
  · unfold sp__law_laid_1 at h; split at h
    · rfl
    · exact h.elim
  · unfold sp__law_laid_1 at h; split at h
    case h_2 => exact h.elim
    rename_i r o
    obtain ⟨t, u, er, eo, hne, h⟩ := h
    refine ⟨_, (pss_cons (ps_while PassesOwn.never (pt_cmpR op_gt (pe_callB (k_len (K := K) rfl) (by rfl) T.z_len (by decide +kernel) (pa_cons (pv 0) pa_nil)) (pe_callB (k_len (K := K) rfl) (by rfl) T.z_len (by decide +kernel) (pa_cons (pv 1) pa_nil)) (nomark _))
      (pss_one (ps_expr (k_bm0 (K := K) rfl PySem.F.plainAttrs_list PySem.F.slot_list_pop PySem.F.type_list_pop mt_pop (pv 0)))))
      (pss_one (ps_for PassesOwn.never rfl (k_enum (K := K) rfl (by rfl) T.z_enumerate (pa_cons (pv 1) pa_nil)) (k_gtup (K := K) rfl rfl (pgs_cons (pg_name (i := 2) sc__law_laid.nd rfl (.inl rfl)) (pgs_cons (pg_name (i := 3) sc__law_laid.nd rfl (.inl rfl)) pgs_nil)))
      (pss_one (ps_if (pt_cmpR op_eqI (pv 2) (pe_callB (k_len (K := K) rfl) (by rfl) T.z_len (by decide +kernel) (pa_cons (pv 0) pa_nil)) (nomark _))
      (pss_one (ps_expr (k_bm (K := K) rfl PySem.F.plainAttrs_list PySem.F.slot_list_append PySem.F.type_list_append mt_append (pv 0) (pa_cons (pe_fn c__law_copied_0 hr (by rfl) pass0 (pa_cons (pv 3) pa_nil)) pa_nil))))
      (pss_one (ps_if (PW.pt (pw_and (pt_val (pe_callB (k_isi (K := K) rfl) (by rfl) T.z_isinstance (by decide +kernel) (pa_cons (pv 3) (pa_cons (pe_bltn (v := .ty "list") (by rfl) T.z_list (by decide +kernel) rfl) pa_nil)))) (pw_and1 (pt_val (pe_callB (k_isi (K := K) rfl) (by rfl) T.z_isinstance (by decide +kernel) (pa_cons (pe_ix (k_ixL (K := K) rfl) (pv 0) (pv 2) (fun _ _ => rfl)) (pa_cons (pe_bltn (v := .ty "list") (by rfl) T.z_list (by decide +kernel) rfl) pa_nil)))))))
      (pss_one (ps_expr pe_never))
      (pss_one (ps_asg (pe_fn c__law_copied_0 hr (by rfl) pass0 (pa_cons (pv 3) pa_nil)) (pg_sub (pv 0) (pv 2) set_list)))))))))), start_eq (σ := [some (.ref r), some (.ref o), none, none]) rfl ?_⟩
    walk_at "g"
    refine ⟨fun _ σ H' => σ = [some (.ref r), some (.ref o), none, none] ∧ H' = H, ⟨0, rfl, rfl⟩, ?_⟩
    rintro m σ H' ⟨rfl, rfl⟩
    walk_at "g"
    refine g_len (SqL.of er) ?_
    walk_at "g"
    refine g_len (SqL.of eo) ?_
    walk_at "g"
    refine ifF (by show ¬ (((3 : Nat) : Int) > ((3 : Nat) : Int)); decide) ?_
    walk_at "g"
    refine ⟨o, _, rfl, SqL.of eo, ?_⟩
    refine for_enum (xs := u.l.map V.int) (fun i σ H1 => ∃ y2 y3, σ = [some (.ref r), some (.ref o), y2, y3] ∧ SameBut r H' H1 ∧ H1 r = some (.lst (mixL t u i))) ⟨_, _, rfl, .refl, er⟩ (fun i σ H1 _ ⟨_, _, _, s1, _⟩ => SqL.of (s1 _ _ (Ne.symm hne) eo)) (fun i x σ H1 Tt hx ⟨y2, y3, e, s1, e1⟩ nT => ?_) (fun σ H1 ⟨y2, y3, e, s1, e1⟩ => ?_)
    · subst e
      have hi : i < 3 := (List.getElem?_eq_some_iff.mp hx).1
      rw [List.getElem?_map] at hx
      cases hn : u.l[i]? with
      | none => rw [hn] at hx; cases hx
      | some n =>
      rw [hn] at hx
      have ex : x = .int n := (Option.some.inj hx).symm
      subst ex
      refine g_gtupN rfl ?_
      have eT := at_new (u := .tup [.int (i : Nat), .int n]) nT e1
      have sT : SameBut r H' (upd H1 Tt (.tup [.int (i : Nat), .int n])) := s1.trans (fun b o' _ e => same_new nT _ _ e)
      generalize upd H1 Tt (.tup [.int (i : Nat), .int n]) = HT at *
      walk_at "g"
      refine g_len (SqL.of eT) ?_
      rw [mix_len (by omega)]
      walk_at "g"
      refine ifF (by omega) ?_
      walk_at "g"
      refine g_isNl (.int _) ?_
      walk_at "g"
      refine g_gsub ?_
      walk_at "g"
      refine g_setL eT (by rw [mix_len (by omega)]; exact hi) ?_
      rw [mix_set hi hn]
      walk_at "g"
      exact ⟨_, _, rfl, sT.trans .upd, upd_same⟩
    subst e
    walk_at "g"
    exact h _ s1 e1
def sp__law_laid_2 (K : PySem.W.Frag) (c : Cs) : Sp := fun vs H Q E => match vs with | [.ref q, .ref o] => ∃ H0 ps us, Own H0 H q ps ∧ Same H0 H ∧ Tx H0 o us ∧ ps.length ≤ 1000 ∧ us.length ≤ 1000 ∧ (∀ H' ps', Same H0 H' → Own H0 H' q ps' → ps'.map Prod.snd = us → Q .non H') | _ => False
theorem u__law_laid_2 {K : PySem.W.Frag} {c : Cs} {H : Hp} {Q : VK} {E : XK} {q : Addr} {o : Addr} (h : ∃ H0 ps us, Own H0 H q ps ∧ Same H0 H ∧ Tx H0 o us ∧ ps.length ≤ 1000 ∧ us.length ≤ 1000 ∧ (∀ H' ps', Same H0 H' → Own H0 H' q ps' → ps'.map Prod.snd = us → Q .non H')) : sp__law_laid_2 K c [.ref q, .ref o] H Q E := h
local macro_rules | `(tactic| walk_at "u") => `(tactic| with_reducible refine u__law_laid_2 ?_)
set_option maxHeartbeats 4000000 in
theorem d__law_laid_2 {P : Program} {w : World} {K : PySem.W.Frag} {mg : PySem.Str → Option Value} {base : Heap} {c : Cs} (T : Top K mg c) : Df P w K mg base CX0 3 "_law_laid" ["_law_mine", "_law_other"] (sp__law_laid_2 K c) := by
  have c__law_copied_1 := d__law_copied_1 (P := P) (w := w) (base := base) T
  have c__law_laid_1 := d__law_laid_1 (P := P) (w := w) (base := base) T
  refine T.f__law_laid.ok sc__law_laid (fun _ _ _ _ _ _ us hl => match us, hl with | [_, _], _ => rfl) (fun vs H Q E h => ?_) (fun f cdv A outer s H vs Q E hr h => ?_)
  · unfold sp__law_laid_2 at h; split at h
    · rfl
    · exact h.elim
  · unfold sp__law_laid_2 at h; split at h
    case h_2 => exact h.elim
    rename_i q o
    obtain ⟨H0, ps, us, o0, s0, ⟨vs, hvs, eo, hrow⟩, hl, hl2, h⟩ := h
    have lv : vs.length = us.length := by rw [← hvs, List.length_map]
    refine ⟨_, (pss_cons (ps_while PassesOwn.never (pt_cmpR op_gt (pe_callB (k_len (K := K) rfl) (by rfl) T.z_len (by decide +kernel) (pa_cons (pv 0) pa_nil)) (pe_callB (k_len (K := K) rfl) (by rfl) T.z_len (by decide +kernel) (pa_cons (pv 1) pa_nil)) (nomark _))
      (pss_one (ps_expr (k_bm0 (K := K) rfl PySem.F.plainAttrs_list PySem.F.slot_list_pop PySem.F.type_list_pop mt_pop (pv 0)))))
      (pss_one (ps_for PassesOwn.never rfl (k_enum (K := K) rfl (by rfl) T.z_enumerate (pa_cons (pv 1) pa_nil)) (k_gtup (K := K) rfl rfl (pgs_cons (pg_name (i := 2) sc__law_laid.nd rfl (.inl rfl)) (pgs_cons (pg_name (i := 3) sc__law_laid.nd rfl (.inl rfl)) pgs_nil)))
      (pss_one (ps_if (pt_cmpR op_eqI (pv 2) (pe_callB (k_len (K := K) rfl) (by rfl) T.z_len (by decide +kernel) (pa_cons (pv 0) pa_nil)) (nomark _))
      (pss_one (ps_expr (k_bm (K := K) rfl PySem.F.plainAttrs_list PySem.F.slot_list_append PySem.F.type_list_append mt_append (pv 0) (pa_cons (pe_fn c__law_copied_1 hr (by rfl) pass0 (pa_cons (pv 3) pa_nil)) pa_nil))))
      (pss_one (ps_if (PW.pt (pw_and (pt_val (pe_callB (k_isi (K := K) rfl) (by rfl) T.z_isinstance (by decide +kernel) (pa_cons (pv 3) (pa_cons (pe_bltn (v := .ty "list") (by rfl) T.z_list (by decide +kernel) rfl) pa_nil)))) (pw_and1 (pt_val (pe_callB (k_isi (K := K) rfl) (by rfl) T.z_isinstance (by decide +kernel) (pa_cons (pe_ix (k_ixL (K := K) rfl) (pv 0) (pv 2) (fun _ _ => rfl)) (pa_cons (pe_bltn (v := .ty "list") (by rfl) T.z_list (by decide +kernel) rfl) pa_nil)))))))
      (pss_one (ps_expr (pe_fn c__law_laid_1 hr (by rfl) pass0 (pa_cons (pe_ix (k_ixL (K := K) rfl) (pv 0) (pv 2) (fun _ _ => rfl)) (pa_cons (pv 3) pa_nil)))))
      (pss_one (ps_asg (pe_fn c__law_copied_1 hr (by rfl) pass0 (pa_cons (pv 3) pa_nil)) (pg_sub (pv 0) (pv 2) set_list)))))))))), start_eq (σ := [some (.ref q), some (.ref o), none, none]) rfl ?_⟩
    walk_at "g"
    refine ⟨fun m σ H' => ∃ ps', σ = [some (.ref q), some (.ref o), none, none] ∧ Own H0 H' q ps' ∧ Same H0 H' ∧ ps'.length = m ∧ m ≤ 1000, ⟨_, ps, rfl, o0, s0, rfl, hl⟩, ?_⟩
    rintro m σ H' ⟨ps1, rfl, o1, s1, hm, hm1⟩
    have eq1 := o1.at_
    walk_at "g"
    refine g_len (SqL.of o1.at_) ?_
    walk_at "g"
    refine g_len (SqL.of (s1 _ _ eo)) ?_
    walk_at "g"
    rw [List.length_map, List.length_map]
    by_cases c1 : ps1.length ≤ vs.length
    case neg =>
      refine ifT (by omega) ?_
      refine ⟨fun σ' H2 => ∃ ps', σ' = [some (.ref q), some (.ref o), none, none] ∧ Own H0 H2 q ps' ∧ Same H0 H2 ∧ ps'.length = m - 1, fun σ' H2 ⟨ps', e1, e2, e3, e4⟩ => ⟨m - 1, by omega, ps', e1, e2, e3, e4, by omega⟩, ?_⟩
      walk_at "g"
      obtain ⟨x, hx⟩ : ∃ x, (ps1.map pRef)[(ps1.map pRef).length - 1]? = some x := ⟨_, List.getElem?_eq_getElem (by rw [List.length_map]; omega)⟩
      refine ⟨q, _, x, rfl, rfl, eq1, hx, ?_⟩
      exact ⟨_, rfl, own_pop o1, own_same o1 s1, by rw [List.length_dropLast]; omega⟩
    refine ifF (by omega) ?_
    walk_at "g"
    refine ⟨o, _, rfl, SqL.of (s1 _ _ eo), ?_⟩
    refine for_enum (xs := vs.map pRef) (fun i σ H1 => ∃ y2 y3 ps', σ = [some (.ref q), some (.ref o), y2, y3] ∧ Own H0 H1 q ps' ∧ Same H0 H1 ∧ (i ≤ ps'.length ∧ ps'.length ≤ us.length) ∧ (ps'.map Prod.snd).take i = us.take i) ⟨_, _, ps1, rfl, o1, s1, ⟨Nat.zero_le _, by omega⟩, rfl⟩ (fun i σ H1 _ ⟨_, _, _, _, _, z, _⟩ => SqL.of (z _ _ eo)) (fun i x σ H1 Tt hx ⟨y2, y3, ps2, e, o2, s2, ⟨l2, l3⟩, k2⟩ nT => ?_) (fun σ H1 ⟨y2, y3, ps2, e, o2, s2, ⟨l2, l3⟩, k2⟩ => ?_)
    · subst e
      rw [List.getElem?_map] at hx
      cases hn : vs[i]? with
      | none => rw [hn] at hx; cases hx
      | some z =>
      rw [hn] at hx
      have ex : x = .ref z.1 := (Option.some.inj hx).symm
      subst ex
      have hz := hrow z (List.mem_of_getElem? hn)
      have hu : us[i]? = some z.2 := by rw [← hvs, List.getElem?_map, hn]; rfl
      have hi : i < us.length := (List.getElem?_eq_some_iff.mp hu).1
      refine g_gtupN rfl ?_
      have oT := o2.same (same_new (o := .tup [.int (i : Nat), .ref z.1]) nT)
      have sT := s2.trans (same_new (o := .tup [.int (i : Nat), .ref z.1]) nT)
      generalize upd H1 Tt (.tup [.int (i : Nat), .ref z.1]) = HT at *
      have eT := oT.at_
      walk_at "g"
      refine g_len (SqL.of eT) ?_
      rw [List.length_map]
      walk_at "g"
      by_cases c2 : i = ps2.length
      · refine ifT (by omega) ?_
        walk_at "g"
        refine ⟨z.2, SqL.of (sT _ _ hz), fun r3 H3 s3 n3 e3 => ?_⟩
        walk_at "g"
        refine g_append (s3 _ _ eT) (by rw [List.length_map, sizeLine_eq]; omega) ?_
        refine ⟨_, _, ps2 ++ [(r3, z.2)], rfl, own_push oT sT s3 n3 e3, own_same (oT.same s3) (sT.trans s3), ⟨by rw [List.length_append]; show i + 1 ≤ ps2.length + 1; omega, by rw [List.length_append]; show ps2.length + 1 ≤ us.length; omega⟩, ?_⟩
        rw [take_snoc hu, ← k2, List.map_append]
        have e4 : (ps2.map Prod.snd).length = i := by rw [List.length_map]; omega
        rw [← e4, List.take_length, List.take_of_length_le (by rw [List.length_append]; exact Nat.le_refl _)]
        rfl
      · refine ifF (by omega) ?_
        have hp : i < ps2.length := by omega
        obtain ⟨w1, hw⟩ : ∃ w1, ps2[i]? = some w1 := ⟨_, List.getElem?_eq_getElem hp⟩
        obtain ⟨ri, ti⟩ := w1
        have mi := List.mem_of_getElem? hw
        have ei := (oT.each _ mi).2
        walk_at "g"
        refine g_isi_sq (SqL.of (sT _ _ hz)) ?_
        walk_at "g"
        refine g_ixL (SqL.of eT) (own_at hw) ?_
        walk_at "g"
        refine g_isi_sq (SqL.of ei) ?_
        walk_at "g"
        refine g_ixL (SqL.of eT) (own_at hw) ?_
        walk_at "g"
        refine ⟨ti, z.2, ei, sT _ _ hz, fun e => ?_, fun H3 sb e3 => ?_⟩
        · have n1 := (oT.each _ mi).1
          dsimp only at n1
          rw [e, hz] at n1
          cases n1
        · walk_at "g"
          refine ⟨_, _, ps2.set i (ri, z.2), rfl, own_rowB oT hw sb e3, SameBut.same (oT.each _ mi).1 sT sb, ⟨by rw [List.length_set]; omega, by rw [List.length_set]; omega⟩, ?_⟩
          rw [List.map_set]
          exact take_set (by rw [List.length_map]; exact hp) k2 hu
    subst e
    walk_at "g"
    refine h _ ps2 s2 o2 ?_
    rw [List.length_map] at l2 k2
    rw [lv, List.take_length] at k2
    rw [← k2, List.take_of_length_le (by rw [List.length_map]; omega)]
/-- threes that are a plan of p people -/
def PlanOk (p : Int) (ts : List T3) : Prop := (1 ≤ p ∧ p ≤ 100 ∧ ∀ t ∈ ts, T3.ok p t) ∧ isPlan p ts = true ∧ ts.length ≤ 100
/-- f doubles plans of p people -/
def DblL (P : Program) (w : World) (K : PySem.W.Frag) (mg : PySem.Str → Option Value) (base : Heap) (p : Int) (f : Addr) (H : Hp) : Prop :=
  ∃ sp, LamIs P w K mg base 9 1 sp f H ∧ ∀ H1, LamX.ExtN H H1 → ∀ (a : Addr) (ts : List T3) (Q' : VK) (E' : XK), Ts K H1 a ts → ts.length ≤ 100 → (1 ≤ p ∧ p ≤ 100 ∧ ∀ t ∈ ts, T3.ok p t) → isPlan p ts = true → (∀ H2 q ps, Same H1 H2 → Own H1 H2 q ps → ps.map Prod.snd = sortT (dblU p ts) → Q' (.ref q) H2) → sp [.ref a] H1 Q' E'
theorem dbl_len {p : Int} {ts : List T3} (h : p ≤ 100) (hl : ts.length ≤ 100) : (sortT (dblU p ts)).length ≤ 1000 := by
  rw [(sortT_perm _).length_eq, dblU_len]
  omega
theorem len_of {ps : List (Addr × T3)} {ts : List T3} (e : ps.map Prod.snd = ts) : ps.length = ts.length := by rw [← e, List.length_map]
def sp__law_door_right (P : Program) (w : World) (K : PySem.W.Frag) (mg : PySem.Str → Option Value) (base : Heap) (c : Cs) : Sp := fun vs H Q E => match vs with | [.ref f, .ref a, .ref b] => ∃ p ts us, DblL P w K mg base p f H ∧ Tx H a ts ∧ Tx H b us ∧ PlanOk p ts ∧ PlanOk p us ∧ (∀ H', Same H H' → Q (.bl true) H') | _ => False
theorem u__law_door_right {P : Program} {w : World} {mg : PySem.Str → Option Value} {base : Heap} {K : PySem.W.Frag} {c : Cs} {H : Hp} {Q : VK} {E : XK} {f : Addr} {a : Addr} {b : Addr} (h : ∃ p ts us, DblL P w K mg base p f H ∧ Tx H a ts ∧ Tx H b us ∧ PlanOk p ts ∧ PlanOk p us ∧ (∀ H', Same H H' → Q (.bl true) H')) : sp__law_door_right P w K mg base c [.ref f, .ref a, .ref b] H Q E := h
local macro_rules | `(tactic| walk_at "u") => `(tactic| with_reducible refine u__law_door_right ?_)
set_option maxHeartbeats 4000000 in
theorem d__law_door_right {P : Program} {w : World} {K : PySem.W.Frag} {mg : PySem.Str → Option Value} {base : Heap} {c : Cs} (T : Top K mg c) : Df P w K mg base CX0 10 "_law_door_right" ["_law_ask", "_law_one", "_law_other"] (sp__law_door_right P w K mg base c) := by
  have c__law_copied_2 := d__law_copied_2 (P := P) (w := w) (base := base) T
  have c__law_spoiled_2 := d__law_spoiled_2 (P := P) (w := w) (base := base) T
  have c__law_laid_2 := d__law_laid_2 (P := P) (w := w) (base := base) T
  refine T.f__law_door_right.ok sc__law_door_right (fun _ _ _ _ _ _ us hl => match us, hl with | [_, _, _], _ => rfl) (fun vs H Q E h => ?_) (fun f cdv A outer s H vs Q E hr h => ?_)
  · unfold sp__law_door_right at h; split at h
    · rfl
    · exact h.elim
  · unfold sp__law_door_right at h; split at h
    case h_2 => exact h.elim
    rename_i f a b
    obtain ⟨p, ts, us, ⟨sp, hL, hsp⟩, hA, hB, ⟨ok1, pl1, ln1⟩, ⟨ok2, pl2, ln2⟩, h⟩ := h
    have d1 := dbl_len (ts := ts) ok1.2.1 ln1
    refine ⟨_, (pss_cons (ps_set (i := 3) sc__law_door_right.nd rfl (.inl rfl) (pe_fn c__law_copied_2 hr (by rfl) pass0 (pa_cons (pv 1) pa_nil)))
      (pss_cons (ps_set (i := 4) sc__law_door_right.nd rfl (.inl rfl) (by exact (k_callLam (P := P) (w := w) (K := K) (mg := mg) (base := base) (k := 9) (i := 0) rfl rfl rfl rfl rfl takes0L hr rfl (.inl rfl) (pa_cons (pv 3) pa_nil))))
      (pss_cons (ps_if (pt_cmpR (k_neD (K := K) rfl hr.units) (pv 3) (pv 1) (nomark _))
      (pss_one (ps_ret pe_bl))
      pss_nil)
      (pss_cons (ps_set (i := 5) sc__law_door_right.nd rfl (.inl rfl) (pe_fn c__law_copied_2 hr (by rfl) pass0 (pa_cons (pv 4) pa_nil)))
      (pss_cons (ps_expr (pe_fn c__law_spoiled_2 hr (by rfl) pass0 (pa_cons (pv 4) pa_nil)))
      (pss_cons (ps_if (pt_cmpR (k_neD (K := K) rfl hr.units) (by exact (k_callLam (P := P) (w := w) (K := K) (mg := mg) (base := base) (k := 9) (i := 0) rfl rfl rfl rfl rfl takes0L hr rfl (.inl rfl) (pa_cons (pv 3) pa_nil))) (pv 5) (nomark _))
      (pss_one (ps_ret pe_bl))
      pss_nil)
      (pss_cons (ps_expr (pe_fn c__law_laid_2 hr (by rfl) pass0 (pa_cons (pv 3) (pa_cons (pv 2) pa_nil))))
      (pss_cons (ps_if (PW.pt (pw_or (pt_cmpR (k_neD (K := K) rfl hr.units) (by exact (k_callLam (P := P) (w := w) (K := K) (mg := mg) (base := base) (k := 9) (i := 0) rfl rfl rfl rfl rfl takes0L hr rfl (.inl rfl) (pa_cons (pv 3) pa_nil))) (by exact (k_callLam (P := P) (w := w) (K := K) (mg := mg) (base := base) (k := 9) (i := 0) rfl rfl rfl rfl rfl takes0L hr rfl (.inl rfl) (pa_cons (pe_fn c__law_copied_2 hr (by rfl) pass0 (pa_cons (pv 2) pa_nil)) pa_nil))) (nomark _)) (pw_or1 (pt_cmpR (k_neD (K := K) rfl hr.units) (pv 3) (pv 2) (nomark _)))))
      (pss_one (ps_ret pe_bl))
      pss_nil)
      (pss_cons (ps_expr (pe_fn c__law_laid_2 hr (by rfl) pass0 (pa_cons (pv 3) (pa_cons (pv 1) pa_nil))))
      (pss_one (ps_ret (pe_and (pe_cmpR (k_eqD (K := K) rfl hr.units) (by exact (k_callLam (P := P) (w := w) (K := K) (mg := mg) (base := base) (k := 9) (i := 0) rfl rfl rfl rfl rfl takes0L hr rfl (.inl rfl) (pa_cons (pv 3) pa_nil))) (pv 5) (nomark _)) (pe_one (pe_cmpR (k_eqD (K := K) rfl hr.units) (pv 3) (pv 1) (nomark _))))))))))))))), start_eq (σ := [some (.ref f), some (.ref a), some (.ref b), none, none, none]) rfl ?_⟩
    walk_at "g"
    refine ⟨ts, hA.toTs, by omega, fun H1 m ps s1 O1 e1 => ?_⟩
    have lps := len_of e1
    walk_at "g"
    refine g_callLam rfl (hL.ext (ext_same s1)) ?_
    walk_at "g"
    refine ⟨LamX.ExtN.refl _, rfl, hsp _ (ext_same s1) m ts _ _ (O1.ts' e1) ln1 ok1 pl1 (fun H2 g2 gs2 s2 O2 e2 => ?_)⟩
    walk_at "g"
    refine g_neTs ((O1.same s2).ts' e1) (hA.same (s1.trans s2)).toTs ?_
    walk_at "g"
    first | (refine ifNF rfl ?_) | skip
    walk_at "g"
    have lgs := len_of e2
    refine ⟨_, O2.ts' e2, by omega, fun H3 x3 bs s3 O3 e3 => ?_⟩
    walk_at "g"
    refine ⟨_, gs2, (O2.same s3).rest, er_same, by omega, fun H4 s4 => ?_⟩
    have s14 : Same H1 H4 := (same_er (s2.trans s3) O2.none_at).trans s4
    have O34 := (O3.apart O2.some_at).same s4
    have O14 := O1.same s14
    have s04 := s1.trans s14
    clear s4
    walk_at "g"
    refine g_callLam rfl (hL.ext (ext_same s04)) ?_
    walk_at "g"
    refine ⟨LamX.ExtN.refl _, rfl, hsp _ (ext_same s04) m ts _ _ (O14.ts' e1) ln1 ok1 pl1 (fun H5 g5 gs5 s5 O5 e5 => ?_)⟩
    walk_at "g"
    refine g_neTs (O5.ts' e5) ((O34.same s5).ts' e3) ?_
    walk_at "g"
    first | (refine ifNF rfl ?_) | skip
    walk_at "g"
    have Om := (O14.same s5).rest
    have s0A : Same H (er H5 (ownAt m ps)) := same_er (s04.trans s5) O1.none_at
    have ObA := (O34.same s5).apart (O1.same s2).some_at
    refine ⟨_, ps, us, Om, er_same, hB.same s0A, by omega, by omega, fun H6 ps6 s6 O6 e6 => ?_⟩
    have l6 := len_of e6
    generalize er H5 (ownAt m ps) = HA at *
    have s06 := s0A.trans s6
    walk_at "g"
    refine g_callLam rfl (hL.ext (ext_same s06)) ?_
    walk_at "g"
    refine ⟨LamX.ExtN.refl _, rfl, hsp _ (ext_same s06) m us _ _ (O6.ts' e6) ln2 ok2 pl2 (fun H7 g7 gs7 s7 O7 e7 => ?_)⟩
    walk_at "g"
    refine g_callLam rfl (hL.ext (ext_same (s06.trans s7))) ?_
    walk_at "g"
    refine ⟨us, (hB.same (s06.trans s7)).toTs, by omega, fun H8 x8 ps8 s8 O8 e8 => ?_⟩
    walk_at "g"
    refine ⟨ext_same s8, rfl, hsp _ (ext_same (s06.trans (s7.trans s8))) x8 us _ _ (O8.ts' e8) ln2 ok2 pl2 (fun H9 g9 gs9 s9 O9 e9 => ?_)⟩
    walk_at "g"
    have s79 := s7.trans (s8.trans s9)
    refine g_neTs ((O7.same (s8.trans s9)).ts' e7) (O9.ts' e9) ?_
    walk_at "g"
    first | (refine ifNF rfl ?_) | skip
    walk_at "g"
    refine g_neTs ((O6.same s79).ts' e6) (hB.same (s06.trans s79)).toTs ?_
    walk_at "g"
    first | (refine ifNF rfl ?_) | skip
    walk_at "g"
    refine ⟨HA, ps6, ts, O6.same s79, s6.trans s79, hA.same s0A, by omega, by omega, fun H10 ps10 s10 O10 e10 => ?_⟩
    walk_at "g"
    refine g_callLam rfl (hL.ext (ext_same (s0A.trans s10))) ?_
    walk_at "g"
    refine ⟨LamX.ExtN.refl _, rfl, hsp _ (ext_same (s0A.trans s10)) m ts _ _ (O10.ts' e10) ln1 ok1 pl1 (fun H11 g11 gs11 s11 O11 e11 => ?_)⟩
    walk_at "g"
    refine g_eqTs (O11.ts' e11) ((ObA.same (s10.trans s11)).ts' e3) ?_
    rw [decide_eq_true rfl]
    walk_at "g"
    refine g_eqTs ((O10.same s11).ts' e10) (hA.same (s0A.trans (s10.trans s11))).toTs ?_
    rw [decide_eq_true rfl]
    exact h _ (s0A.trans (s10.trans s11))
section
variable {K : PySem.W.Frag} {c : Cs} {H H' : Hp} {p : Int} {ts : List T3}
/-- an answer made by hand, people, threes, what is due -/
inductive Shows (K : PySem.W.Frag) (c : Cs) (H : Hp) (p : Int) (ts : List T3) (x : Addr) : Bool → Prop
  | plan {dx : Addr} (e : H x = some (.ins c.Plan dx [])) : Shows K c H p ts x (isPlan p ts)
  | apart {dx : Addr} {m n : Int} (e : H x = some (.ins c.Apart dx [("one", .int m), ("other", .int n)])) : Shows K c H p ts x (apartB p ts m n)
  | twice {dx : Addr} {m n : Int} (e : H x = some (.ins c.Twice dx [("first", .int m), ("second", .int n)])) : Shows K c H p ts x (twiceB ts m n)
theorem Shows.same {x : Addr} {b : Bool} (h : Shows K c H p ts x b) (s : Same H H') : Shows K c H' p ts x b := by
  cases h with
  | plan e => exact .plan (s _ _ e)
  | apart e => exact .apart (s _ _ e)
  | twice e => exact .twice (s _ _ e)
theorem Shows.of {x : Addr} {b b' : Bool} (h : Shows K c H p ts x b) (e : b = b') : Shows K c H p ts x b' := e ▸ h
end
def OkTs (p : Int) (ts : List T3) : Prop := (1 ≤ p ∧ p ≤ 100 ∧ ∀ t ∈ ts, T3.ok p t) ∧ ts.length ≤ 100
/-- f tells what threes of p people are; g asks what is told -/
def TellL (P : Program) (w : World) (K : PySem.W.Frag) (mg : PySem.Str → Option Value) (base : Heap) (c : Cs) (p : Int) (f : Addr) (H : Hp) : Prop :=
  ∃ sp, LamIs P w K mg base 9 1 sp f H ∧ ∀ H1, LamX.ExtN H H1 → ∀ (a : Addr) (ts : List T3) (Q' : VK) (E' : XK), Ts K H1 a ts → OkTs p ts → (∀ H2 x, Same H1 H2 → Shows K c H2 p ts x true → Q' (.ref x) H2) → sp [.ref a] H1 Q' E'
def WordL (P : Program) (w : World) (K : PySem.W.Frag) (mg : PySem.Str → Option Value) (base : Heap) (c : Cs) (p : Int) (g : Addr) (H : Hp) : Prop :=
  ∃ sp, LamIs P w K mg base 9 2 sp g H ∧ ∀ H1, LamX.ExtN H H1 → ∀ (x a : Addr) (ts : List T3) (Q' : VK) (E' : XK), Shows K c H1 p ts x true → Ts K H1 a ts → OkTs p ts → (∀ H2, Same H1 H2 → Q' (.bl true) H2) → sp [.ref x, .ref a] H1 Q' E'
def sp__law_told (K : PySem.W.Frag) (c : Cs) : Sp := fun vs H Q E => match vs with | [v] => (∀ q, H q = none → Q (.ref q) (upd H q (.lst []))) | _ => False
theorem u__law_told {K : PySem.W.Frag} {c : Cs} {H : Hp} {Q : VK} {E : XK} {v : V} (h : (∀ q, H q = none → Q (.ref q) (upd H q (.lst [])))) : sp__law_told K c [v] H Q E := h
local macro_rules | `(tactic| walk_at "u") => `(tactic| with_reducible refine u__law_told ?_)
set_option maxHeartbeats 4000000 in
theorem d__law_told {P : Program} {w : World} {K : PySem.W.Frag} {mg : PySem.Str → Option Value} {base : Heap} {c : Cs} (T : Top K mg c) : Df P w K mg base CX0 1 "_law_told" ["_law_found"] (sp__law_told K c) := by
  refine T.f__law_told.ok sc__law_told (fun _ _ _ _ _ _ us hl => match us, hl with | [_], _ => rfl) (fun vs H Q E h => ?_) (fun f cdv A outer s H vs Q E hr h => ?_)
  · unfold sp__law_told at h; split at h
    · rfl
    · exact h.elim
  · unfold sp__law_told at h; split at h
    case h_2 => exact h.elim
    rename_i v
    refine ⟨_, (pss_one (ps_ret (pe_lst pa_nil))), start_eq (σ := [some v]) rfl ?_⟩
    walk_at "g"
    exact h
def sp__law_free_right (P : Program) (w : World) (K : PySem.W.Frag) (mg : PySem.Str → Option Value) (base : Heap) (c : Cs) : Sp := fun vs H Q E => match vs with | [.ref f, .ref g, .ref a, .ref b] => ∃ p ts us, TellL P w K mg base c p f H ∧ WordL P w K mg base c p g H ∧ Tx H a ts ∧ Tx H b us ∧ OkTs p ts ∧ OkTs p us ∧ (∀ H', Same H H' → Q (.bl true) H') | _ => False
theorem u__law_free_right {P : Program} {w : World} {mg : PySem.Str → Option Value} {base : Heap} {K : PySem.W.Frag} {c : Cs} {H : Hp} {Q : VK} {E : XK} {f : Addr} {g : Addr} {a : Addr} {b : Addr} (h : ∃ p ts us, TellL P w K mg base c p f H ∧ WordL P w K mg base c p g H ∧ Tx H a ts ∧ Tx H b us ∧ OkTs p ts ∧ OkTs p us ∧ (∀ H', Same H H' → Q (.bl true) H')) : sp__law_free_right P w K mg base c [.ref f, .ref g, .ref a, .ref b] H Q E := h
local macro_rules | `(tactic| walk_at "u") => `(tactic| with_reducible refine u__law_free_right ?_)
set_option maxHeartbeats 4000000 in
theorem d__law_free_right {P : Program} {w : World} {K : PySem.W.Frag} {mg : PySem.Str → Option Value} {base : Heap} {c : Cs} (T : Top K mg c) : Df P w K mg base CX0 10 "_law_free_right" ["_law_ask", "_law_holds", "_law_one", "_law_other"] (sp__law_free_right P w K mg base c) := by
  have c__law_copied_2 := d__law_copied_2 (P := P) (w := w) (base := base) T
  have c__law_laid_2 := d__law_laid_2 (P := P) (w := w) (base := base) T
  have c__law_spoiled_e := d__law_spoiled_e (P := P) (w := w) (base := base) T
  have c__law_told := d__law_told (P := P) (w := w) (base := base) T
  refine T.f__law_free_right.ok sc__law_free_right (fun _ _ _ _ _ _ us hl => match us, hl with | [_, _, _, _], _ => rfl) (fun vs H Q E h => ?_) (fun f cdv A outer s H vs Q E hr h => ?_)
  · unfold sp__law_free_right at h; split at h
    · rfl
    · exact h.elim
  · unfold sp__law_free_right at h; split at h
    case h_2 => exact h.elim
    rename_i f g a b
    obtain ⟨p, ts, us, ⟨sp, hL, hsp⟩, ⟨sw, hW, hsw⟩, hA, hB, ok1, ok2, h⟩ := h
    have ln1 := ok1.2
    have ln2 := ok2.2
    refine ⟨_, (pss_cons (ps_set (i := 4) sc__law_free_right.nd rfl (.inl rfl) (pe_fn c__law_copied_2 hr (by rfl) pass0 (pa_cons (pv 2) pa_nil)))
      (pss_cons (ps_for PassesOwn.never rfl (k_ptup (K := K) rfl (pe_tup (pa_cons (pv 2) (pa_cons (pv 2) (pa_cons (pv 3) (pa_cons (pv 2) pa_nil)))))) (pg_name (i := 5) sc__law_free_right.nd rfl (.inl rfl))
      (pss_cons (ps_expr (pe_fn c__law_laid_2 hr (by rfl) pass0 (pa_cons (pv 4) (pa_cons (pv 5) pa_nil))))
      (pss_cons (ps_set (i := 6) sc__law_free_right.nd rfl (.inl rfl) (by exact (k_callLam (P := P) (w := w) (K := K) (mg := mg) (base := base) (k := 9) (i := 0) rfl rfl rfl rfl rfl takes0L hr rfl (.inl rfl) (pa_cons (pv 4) pa_nil))))
      (pss_cons (ps_if (PW.pt (pw_or (pt_cmpR (k_neD (K := K) rfl hr.units) (pv 4) (pv 5) (nomark _)) (pw_or1 (pt_cmpR op_isnot_bl (by exact (k_callLam (P := P) (w := w) (K := K) (mg := mg) (base := base) (k := 9) (i := 1) rfl rfl rfl rfl rfl takes0L hr rfl (.inl rfl) (pa_cons (pv 6) (pa_cons (pe_fn c__law_copied_2 hr (by rfl) pass0 (pa_cons (pv 5) pa_nil)) pa_nil)))) pe_bl (nomark _)))))
      (pss_one (ps_ret pe_bl))
      pss_nil)
      (pss_one (ps_expr (pe_fn c__law_spoiled_e hr (by rfl) pass0 (pa_cons (pe_fn c__law_told hr (by rfl) pass0 (pa_cons (pv 6) pa_nil)) pa_nil))))))))
      (pss_one (ps_ret (pe_cmpR (k_eqD (K := K) rfl hr.units) (pv 4) (pv 2) (nomark _)))))), start_eq (σ := [some (.ref f), some (.ref g), some (.ref a), some (.ref b), none, none, none]) rfl ?_⟩
    walk_at "g"
    refine ⟨ts, hA.toTs, by omega, fun H1 m ps s1 O1 e1 => ?_⟩
    have lps := len_of e1
    walk_at "g"
    intro T0 n0
    have sT := same_new (o := .tup [.ref a, .ref a, .ref b, .ref a]) n0
    have eT : upd H1 T0 (.tup [.ref a, .ref a, .ref b, .ref a]) T0 = some (.tup [.ref a, .ref a, .ref b, .ref a]) := upd_same
    generalize upd H1 T0 (.tup [.ref a, .ref a, .ref b, .ref a]) = H2 at *
    have Om := (O1.same sT).rest
    have s0A : Same H (er H2 (ownAt m ps)) := same_er (s1.trans sT) O1.none_at
    have eA : er H2 (ownAt m ps) T0 = some (.tup [.ref a, .ref a, .ref b, .ref a]) := by
      rw [er_out (fun z => by obtain ⟨u, hu⟩ := O1.some_at T0 z; rw [n0] at hu; cases hu)]
      exact eT
    have sA := er_same (H := H2) (cs := ownAt m ps)
    generalize er H2 (ownAt m ps) = HA at *
    have hA' := hA.same s0A
    have hB' := hB.same s0A
    refine ⟨_, rfl, ⟨_, SqT.of eT⟩, for_tup (xs := [.ref a, .ref a, .ref b, .ref a]) (fun i σ H' => ∃ y5 y6 ps', σ = [some (.ref f), some (.ref g), some (.ref a), some (.ref b), some (.ref m), y5, y6] ∧ Own HA H' m ps' ∧ Same HA H' ∧ ps'.length ≤ 100 ∧ (i = 4 → ps'.map Prod.snd = ts)) ⟨_, _, ps, rfl, Om, sA, by omega, fun z => absurd z (by decide)⟩ (fun i σ H' _ ⟨_, _, _, _, _, s', _⟩ => SqT.of (s' _ _ eA)) (fun j x σ H' hx ⟨y5, y6, ps', e, O', s', l', _⟩ => ?_) (fun σ H' ⟨y5, y6, ps', e, O', s', l', k'⟩ => ?_)⟩
    · subst e
      obtain ⟨ao, vs, rfl, hV, okv, hj⟩ : ∃ ao vs, x = .ref ao ∧ Tx HA ao vs ∧ OkTs p vs ∧ (j + 1 = 4 → vs = ts) := by
        have hj : j < 4 := (List.getElem?_eq_some_iff.mp hx).1
        match j, hj with
        | 0, _ => cases hx; exact ⟨a, ts, rfl, hA', ok1, fun _ => rfl⟩
        | 1, _ => cases hx; exact ⟨a, ts, rfl, hA', ok1, fun _ => rfl⟩
        | 2, _ => cases hx; exact ⟨b, us, rfl, hB', ok2, fun z => absurd z (by decide)⟩
        | 3, _ => cases hx; exact ⟨a, ts, rfl, hA', ok1, fun _ => rfl⟩
      have lnv := okv.2
      walk_at "g"
      refine ⟨HA, ps', vs, O', s', hV, by omega, by omega, fun H3 ps3 s3 O3 e3 => ?_⟩
      have l3 := len_of e3
      have s03 := s0A.trans s3
      walk_at "g"
      refine g_callLam rfl (hL.ext (ext_same s03)) ?_
      walk_at "g"
      refine ⟨LamX.ExtN.refl _, rfl, hsp _ (ext_same s03) m vs _ _ (O3.ts' e3) okv (fun H4 x4 s4 S4 => ?_)⟩
      walk_at "g"
      refine g_neTs ((O3.same s4).ts' e3) (hV.same (s3.trans s4)).toTs ?_
      walk_at "g"
      first | (refine ifNF rfl ?_) | skip
      walk_at "g"
      refine g_callLam rfl (hW.ext (ext_same (s03.trans s4))) ?_
      walk_at "g"
      refine ⟨vs, (hV.same (s3.trans s4)).toTs, by omega, fun H5 q5 ps5 s5 O5 e5 => ?_⟩
      walk_at "g"
      refine ⟨ext_same s5, rfl, hsw _ (ext_same (s03.trans (s4.trans s5))) x4 q5 vs _ _ (S4.same s5) (O5.ts' e5) okv (fun H6 s6 => ?_)⟩
      walk_at "g"
      intro q7 n7
      walk_at "g"
      refine ⟨upd_same, ?_⟩
      rw [upd_upd]
      have s37 := s4.trans (s5.trans (s6.trans (same_new (o := .lst [.int 99]) n7)))
      walk_at "g"
      exact ⟨_, _, ps3, rfl, O3.same s37, s3.trans s37, by omega, fun z => by rw [e3]; exact hj z⟩
    subst e
    walk_at "g"
    refine g_eqTs (O'.ts' (k' rfl)) (hA'.same s').toTs ?_
    rw [decide_eq_true rfl]
    exact h _ (s0A.trans s')
structure ScriptAt (K : PySem.W.Frag) (H : Hp) (a : Addr) (ns : List Int) : Prop where
  sq : SqL K H a (ns.map V.int)
  len : ns.length ≤ 63
  bits : ∀ z ∈ ns, Bt 1048576 z
theorem ScriptAt.same {K : PySem.W.Frag} {H H' : Hp} {a : Addr} {ns : List Int} (s : ScriptAt K H a ns) (sm : Same H H') : ScriptAt K H' a ns := ⟨sm.seq s.sq, s.len, s.bits⟩
theorem ScriptAt.sum {K : PySem.W.Frag} {H : Hp} {a : Addr} {ns : List Int} (s : ScriptAt K H a ns) : Bt 1050000 ns.sum := (Bt.sum s.bits).mono (by have := s.len; omega)
theorem ScriptAt.cut {K : PySem.W.Frag} {H : Hp} {a : Addr} {ns : List Int} (s : ScriptAt K H a ns) : cutV (ns.map V.int) none (some 63) = ns.map V.int := cut_all (k := 63) (by rw [List.length_map]; exact s.len)
section
variable {K : PySem.W.Frag} {H H' : Hp} {a b q : Addr} {ts us : List T3} {lo hi : Option Int}
theorem Tx.ext (h : Tx H a ts) (x : LamX.ExtN H H') : Tx H' a ts := by
  obtain ⟨ps, h1, h2, h3⟩ := h
  exact ⟨ps, h1, ext_lst x h2, fun y hy => ext_lst x (h3 y hy)⟩
theorem cutT_map {α β : Type} (f : α → β) (xs : List α) (lo hi : Option Int) : (cutT xs lo hi).map f = cutT (xs.map f) lo hi := by
  unfold cutT
  rw [List.map_take, List.map_drop, List.length_map]
theorem cutT_mem {α : Type} {xs : List α} {x : α} (h : x ∈ cutT xs lo hi) : x ∈ xs := by
  unfold cutT at h
  exact List.mem_of_mem_drop (List.mem_of_mem_take h)
/-- a part of it, as a new list -/
theorem tx_cut (h : Tx H a ts) : ∃ xs, H a = some (.lst xs) ∧ ∀ q, H q = none → Tx (upd H q (.lst (cutV xs lo hi))) q (cutT ts lo hi) := by
  obtain ⟨ps, rfl, h2, h3⟩ := h
  refine ⟨_, h2, fun q nq => ⟨cutT ps lo hi, cutT_map _ _ _ _, by rw [upd_same, cutV_map], fun x hx => at_new nq (h3 x (cutT_mem hx))⟩⟩
theorem tx_rev (h : Tx H a ts) : ∃ xs, H a = some (.lst xs) ∧ ∀ q, H q = none → Tx (upd H q (.lst xs.reverse)) q ts.reverse := by
  obtain ⟨ps, rfl, h2, h3⟩ := h
  refine ⟨_, h2, fun q nq => ⟨ps.reverse, List.map_reverse, by rw [upd_same, List.map_reverse], fun x hx => at_new nq (h3 x (List.mem_reverse.mp hx))⟩⟩
theorem tx_cat (h : Tx H a ts) (k : Tx H b us) : ∃ xs ys, H a = some (.lst xs) ∧ H b = some (.lst ys) ∧ xs.length = ts.length ∧ ys.length = us.length ∧ ∀ q, H q = none → Tx (upd H q (.lst (xs ++ ys))) q (ts ++ us) := by
  obtain ⟨ps, rfl, h2, h3⟩ := h
  obtain ⟨rs, rfl, k2, k3⟩ := k
  refine ⟨_, _, h2, k2, by simp, by simp, fun q nq => ⟨ps ++ rs, List.map_append, by rw [upd_same, List.map_append], fun x hx => at_new nq ((List.mem_append.mp hx).elim (h3 x) (k3 x))⟩⟩
end
/-- the people called otherwise: each one so many further on -/
def turnN (p w : Int) : List Int := (List.range p.toNat).map fun (i : Nat) => ((i : Int) + 1 + w) % p
theorem turn_nm {p w i : Int} (h0 : 0 ≤ i) (h : i < p) : nm (turnN p w) i = (i + 1 + w) % p := by
  unfold nm turnN
  rw [List.getD_eq_getElem?_getD, List.getElem?_map, List.getElem?_range (by omega)]
  show (((i.toNat : Nat) : Int) + 1 + w) % p = _
  rw [Int.toNat_of_nonneg h0]
theorem turn_names {p w : Int} (hp : 0 < p) : Names p (turnN p w) := by
  refine ⟨?_, ?_, fun x hx => ?_⟩
  · unfold turnN
    rw [List.length_map, List.length_range]
    omega
  · unfold turnN
    rw [List.nodup_iff_pairwise_ne, List.pairwise_map]
    refine (List.nodup_iff_pairwise_ne.mp List.nodup_range).imp_of_mem fun {i j} hi hj hne e => hne ?_
    rw [List.mem_range] at hi hj
    have h1 : (((i : Int) + 1 + w) - ((j : Int) + 1 + w)) % p = 0 := Int.emod_eq_emod_iff_emod_sub_eq_zero.mp e
    rw [show ((i : Int) + 1 + w) - ((j : Int) + 1 + w) = (i : Int) - j by omega] at h1
    obtain ⟨k, hk⟩ := Int.dvd_of_emod_eq_zero h1
    have hk0 : k = 0 := by
      rcases Int.lt_trichotomy k 0 with c | c | c
      · have : p * k ≤ p * (-1) := Int.mul_le_mul_of_nonneg_left (by omega) (by omega)
        omega
      · exact c
      · have : p * 1 ≤ p * k := Int.mul_le_mul_of_nonneg_left (by omega) (by omega)
        omega
    subst hk0
    omega
  · obtain ⟨i, _, rfl⟩ := List.mem_map.mp hx
    exact ⟨Int.emod_nonneg _ (by omega), Int.emod_lt_of_pos _ hp⟩
/-- the plan that is made, called otherwise -/
def turned (p w : Int) : List T3 := (made p).map (rename (turnN p w))
theorem turned_law (p w : Int) : turned p w = lawPlan p (turnN p w) 0 := by
  unfold turned lawPlan
  simp
theorem turned_ok {p w : Int} (hc : Can p) : ∀ t ∈ turned p w, T3.ok p t := by
  rw [turned_law]
  exact lawPlan_ok hc (turn_names (by have := hc.1; omega))
theorem turned_plan {p w : Int} (hc : Can p) : isPlan p (turned p w) = true := by
  rw [turned_law]
  exact lawPlan_plan hc (turn_names (by have := hc.1; omega))
theorem five_at (w : Int) : ∃ p : Int, atI [V.int 3, .int 7, .int 9, .int 13, .int 15] (w % 5) = some (.int p) ∧ Can p ∧ 1 < p ∧ p ≤ 15 ∧ manyOf p ≤ 35 := by
  have h : w % 5 = 0 ∨ w % 5 = 1 ∨ w % 5 = 2 ∨ w % 5 = 3 ∨ w % 5 = 4 := by omega
  rcases h with h | h | h | h | h <;> rw [h]
  · exact ⟨3, rfl, by unfold Can; decide, by decide, by decide, by decide⟩
  · exact ⟨7, rfl, by unfold Can; decide, by decide, by decide, by decide⟩
  · exact ⟨9, rfl, by unfold Can; decide, by decide, by decide, by decide⟩
  · exact ⟨13, rfl, by unfold Can; decide, by decide, by decide, by decide⟩
  · exact ⟨15, rfl, by unfold Can; decide, by decide, by decide, by decide⟩
theorem plan_rev {p : Int} {ts : List T3} (h : PlanOk p ts) : PlanOk p ts.reverse :=
  ⟨⟨h.1.1, h.1.2.1, fun t ht => h.1.2.2 t (List.mem_reverse.mp ht)⟩, plan_perm (by have := h.1.1; omega) h.1.2.2 h.2.1 (List.reverse_perm _), by rw [List.length_reverse]; exact h.2.2⟩
theorem cutT_le {α : Type} (xs : List α) (lo hi : Option Int) : (cutT xs lo hi).length ≤ xs.length := by
  unfold cutT
  rw [List.length_take, List.length_drop]
  omega
theorem g_lcC {i : Nat} {wi : TI} {g : TG} {tt : TT} {te : V → TE} {vs : List Nat} {σ : L2.St} {H : Hp} {Q : VK} {v : V} (e : σ[i]? = some (some v)) (h : tLc wi g tt (te v) vs σ H Q) : tLcC i wi g tt te vs σ H Q := ⟨v, e, h⟩
theorem g_lamSp1 {y : PySem.Str} {a : Addr} {v u : V} {t : XK → TE} {H : Hp} {Q : VK} {E : XK} (h : t (fun cls d H' => E cls d (rs H H' [a])) [some u, some v] (er H [a]) (fun r H' => Q r (rs H H' [a]))) : lamSp [⟨y, a, v⟩] t [u] H Q E := h
theorem g_lamSp2 {y : PySem.Str} {a : Addr} {v u u2 : V} {t : XK → TE} {H : Hp} {Q : VK} {E : XK} (h : t (fun cls d H' => E cls d (rs H H' [a])) [some u, some u2, some v] (er H [a]) (fun r H' => Q r (rs H H' [a]))) : lamSp [⟨y, a, v⟩] t [u, u2] H Q E := h
theorem Shows.out {K : PySem.W.Frag} {c : Cs} {H : Hp} {p : Int} {ts : List T3} {x : Addr} {b : Bool} {cs : List Addr} (h : Shows K c H p ts x b) (hc : Objs H cs) : Shows K c (er H cs) p ts x b := by
  cases h with
  | plan e => exact .plan (er_at hc e (fun _ z => by cases z))
  | apart e => exact .apart (er_at hc e (fun _ z => by cases z))
  | twice e => exact .twice (er_at hc e (fun _ z => by cases z))
theorem Shows.back {K : PySem.W.Frag} {c : Cs} {H H' : Hp} {p : Int} {ts : List T3} {x : Addr} {b : Bool} {cs : List Addr} (h : Shows K c H' p ts x b) (hn : ∀ c ∈ cs, H' c = none) : Shows K c (rs H H' cs) p ts x b := by
  have out : ∀ {u}, H' x = some u → rs H H' cs x = some u := fun {u} e => by
    rw [rs_out (fun z => by rw [hn x z] at e; cases e)]
    exact e
  cases h with
  | plan e => exact .plan (out e)
  | apart e => exact .apart (out e)
  | twice e => exact .twice (out e)
theorem fresh_two {H : Hp} {qa qb q : Addr} {u v : HO} (a : H qa = some u) (b : H qb = some v) (n : H q = none) : q ∉ [qa, qb] := fun z => by
  simp only [List.mem_cons, List.not_mem_nil, or_false] at z
  rcases z with z | z
  · rw [z, a] at n; cases n
  · rw [z, b] at n; cases n
theorem er_none {H : Hp} {cs : List Addr} {q : Addr} (n : H q = none) : er H cs q = none := by
  by_cases h : q ∈ cs
  · exact er_in h
  · rw [er_out h]; exact n
theorem ext_putD {H0 H : Hp} {D : Addr} {o : HO} (n : H0 D = none) (e : LamX.ExtN H0 H) : LamX.ExtN H0 (upd H D o) := fun b u h k => by rw [upd_ne (ne_of_none h n)]; exact e b u h k
theorem g_allT {K : PySem.W.Frag} {H : Hp} {Q : VK} {a : Addr} {n : Nat} (e : H a = some (.lst ((List.range n).map (fun _ => V.bl true)))) (h : Q (.bl true) H) : rAll K [.ref a] H Q := by
  refine g_all (bs := (List.range n).map fun _ => true) (SqL.of (by rw [e, List.map_map]; rfl)) ?_
  rw [show ((List.range n).map fun _ => true).all id = true by simp]
  exact h
def sp_law (K : PySem.W.Frag) (c : Cs) : Sp := fun vs H Q E => match vs with | [.ref a] => ∃ ns : List Int, ScriptAt K H a ns ∧ LamX.Tabs (tabsOf c) H ∧ (∀ H', Q (.bl true) H') | _ => False
theorem u_law {K : PySem.W.Frag} {c : Cs} {H : Hp} {Q : VK} {E : XK} {a : Addr} (h : ∃ ns : List Int, ScriptAt K H a ns ∧ LamX.Tabs (tabsOf c) H ∧ (∀ H', Q (.bl true) H')) : sp_law K c [.ref a] H Q E := h
local macro_rules | `(tactic| walk_at "u") => `(tactic| with_reducible refine u_law ?_)
set_option maxHeartbeats 4000000 in
theorem d_law {P : Program} {w : World} {K : PySem.W.Frag} {mg : PySem.Str → Option Value} {base : Heap} {c : Cs} (T : Top K mg c) (TB : LamX.TabB base mg c.code_law c.tab_law) {f : Addr} {oc kV doc pm ct : Value} {od an : Option Addr} {osl : Array (Option Value)} (lk : K.lookup f = some ⟨oc, od, .func (PySem.W.fnOf "law" "law" (defArgs s_law) (defBody s_law) (defScope s_law) .none kV doc pm an (.ref c.code_law) ct), osl⟩) (hcd : PySem.W.codeIn K (.ref c.code_law) "law" = true) : FnOk P w K mg base CX0 12 f (PySem.W.fnOf "law" "law" (defArgs s_law) (defBody s_law) (defScope s_law) .none kV doc pm an (.ref c.code_law) ct) ["_law_script"] (sp_law K c) := by
  have c_three_by := d_three_by (P := P) (w := w) (base := base) T
  have c_Plan_shows := d_Plan_shows (P := P) (w := w) (base := base) T
  have c_Apart_shows := d_Apart_shows (P := P) (w := w) (base := base) T
  have c_Twice_shows := d_Twice_shows (P := P) (w := w) (base := base) T
  have c__law_free_right := d__law_free_right (P := P) (w := w) (base := base) T
  have c_many := d_many (P := P) (w := w) (base := base) T
  have c_doubled := d_doubled (P := P) (w := w) (base := base) T
  have c_told := d_told (P := P) (w := w) (base := base) T
  have c__law_door_right := d__law_door_right (P := P) (w := w) (base := base) T
  refine fn_ofC lk hcd sc_law (fun vs H Q E h => ?_) (fun A outer s H vs Q E hr h => ?_)
  · unfold sp_law at h; split at h
    · rfl
    · exact h.elim
  · unfold sp_law at h; split at h
    case h_2 => exact h.elim
    rename_i a
    obtain ⟨ns, S, hT, h⟩ := h
    obtain ⟨cy, hcy⟩ : ∃ cy, (envOfC "law" (defScope s_law) s.heap.objs.size f (.ref c.code_law)).cells.lookup ("_law_people" : PySem.Str) = some cy := cell_has (sc := defScope s_law) (by rfl)
    have cfP := T.cf_Plan
    have cfA := T.cf_Apart
    have cfT := T.cf_Twice
    refine ⟨_, (C8.pss_cut (ps_set (i := 1) sc_law.nd rfl (.inl rfl) (pe_ifExp (pt_cmpR (k_neD (K := K) rfl hr.units) (pv 0) (pe_lst pa_nil) (nomark _)) (pe_slice (k_slL (K := K) rfl) (pv 0) po_none (po_some pe_int)) (pe_lst (pa_cons pe_int pa_nil))))
      (pss_cons (ps_set (i := 2) sc_law.nd rfl (.inr rfl) (pe_callB call_abs (by rfl) T.z_abs (by decide +kernel) (pa_cons (pe_callB (k_sum (K := K) rfl rfl) (by rfl) T.z_sum (by decide +kernel) (pa_cons (pv 1) pa_nil)) pa_nil)))
      (pss_cons (ps_par (by rfl) sc_law.nd (i := 3) (j := 4) rfl rfl (by decide) rfl rfl (pa_cons (pe_lst pa_nil) (pa_cons (pe_lst pa_nil) pa_nil)) (by rfl))
      (pss_cons (ps_set (i := 8) sc_law.nd rfl (.inr rfl) (pe_ix (k_ixT (K := K) rfl) (pe_tup (pa_cons pe_int (pa_cons pe_int (pa_cons pe_int (pa_cons pe_int (pa_cons pe_int pa_nil)))))) (pe_op op_mod (pv 2) pe_int) (fun _ _ => rfl)))
      (pss_cons (ps_setLc (i := 5) (own := [("_law_number", 9)]) (g := (gName 9)) (tt := tYes) rfl sc_law.nd rfl rfl (sw_true rfl rfl rfl (by decide +kernel)) (pi_range1 (by rfl) T.z_range (pa_cons (pe_fn c_many hr (by rfl) pass0 (pa_cons (pv 8) pa_nil)) pa_nil)) (blkOk_by (own := [("_law_number", 9)]) (N := ["_law_script", "_law_cells", "_law_more", "_law_asks", "_law_frees", "_law_plan", "_law_turned", "_law_word", "_law_people", "_law_number", "_law_three", "_law_ask", "_law_holds", "_law_one", "_law_other", "_law_place"]) (sc := defScope s_law) (by decide +kernel)) (fun _ _ _ _ _ => (pg_name (i := 9) sc_law.nd rfl (.inl rfl))) (fun _ _ _ _ _ => pts_nil) (fun _ _ _ _ _ => (pe_fn c_three_by hr (by rfl) pass0 (pa_cons (pv 8) (pa_cons (pv 9) pa_nil)))))
      (pss_cons (ps_setLc (i := 6) (own := [("_law_three", 10)]) (g := (gName 10)) (tt := tYes) rfl sc_law.nd rfl rfl (sw_true rfl rfl rfl (by decide +kernel)) (k_plist (K := K) rfl (pv 5)) (blkOk_by (own := [("_law_three", 10)]) (N := ["_law_script", "_law_cells", "_law_more", "_law_asks", "_law_frees", "_law_plan", "_law_turned", "_law_word", "_law_people", "_law_number", "_law_three", "_law_ask", "_law_holds", "_law_one", "_law_other", "_law_place"]) (sc := defScope s_law) (by decide +kernel)) (fun _ _ _ _ _ => (pg_name (i := 10) sc_law.nd rfl (.inl rfl))) (fun _ _ _ _ _ => pts_nil) (fun _ _ _ _ _ => (pe_callB (k_sorted (K := K) rfl) (by rfl) T.z_sorted (by decide +kernel) (pa_cons (pe_lc (own := [("_law_place", 15)]) (g := (gName 15)) (tt := tYes) rfl sc_law.nd (k_plist (K := K) rfl (pv 10)) (blkOk_by (own := [("_law_place", 15)]) (N := ["_law_script", "_law_cells", "_law_more", "_law_asks", "_law_frees", "_law_plan", "_law_turned", "_law_word", "_law_people", "_law_number", "_law_three", "_law_ask", "_law_holds", "_law_one", "_law_other", "_law_place"]) (by with_unfolding_all rfl)) (fun _ _ _ _ _ => (pg_name (i := 15) sc_law.nd rfl (.inl rfl))) (fun _ _ _ _ _ => pts_nil) (fun _ _ _ _ _ => (pe_op op_mod (pe_op op_add (pe_op op_add (pv 15) pe_int) (pv 2)) (pv 8)))) pa_nil))))
      (pss_cons (ps_expr (k_bm (K := K) rfl PySem.F.plainAttrs_list PySem.F.slot_list_append PySem.F.type_list_append mt_append (pv 3) (pa_cons (pe_tup (pa_cons (by exact (k_lamCN (P := P) (w := w) (K := K) (mg := mg) (base := base) (k := 8) (ps := ["_law_it"]) (y := "_law_people") rfl rfl rfl rfl rfl rfl hcy TB rfl (tabs_in_0 c) (tabs_un_0 T) (lamQ_by (by decide +kernel)) (fun cells c h => by simp [cloFrom, h]) rfl (fun _ _ _ _ _ us hl => match us, hl with | [_], _ => rfl) (fun f c1 v0 E A outer s H hr => pe_capN (by exact (pe_fn c_doubled hr (by rfl) pass0 (pa_cons (pv 1) (pa_cons (pv 0) pa_nil))))))) (pa_cons (pv 5) (pa_cons (k_revL (K := K) rfl (pv 6)) pa_nil)))) pa_nil)))
      (pss_cons (ps_expr (k_bm (K := K) rfl PySem.F.plainAttrs_list PySem.F.slot_list_append PySem.F.type_list_append mt_append (pv 3) (pa_cons (pe_tup (pa_cons (by exact (k_lamCN (P := P) (w := w) (K := K) (mg := mg) (base := base) (k := 8) (ps := ["_law_it"]) (y := "_law_people") rfl rfl rfl rfl rfl rfl hcy TB rfl (tabs_in_0 c) (tabs_un_0 T) (lamQ_by (by decide +kernel)) (fun cells c h => by simp [cloFrom, h]) rfl (fun _ _ _ _ _ us hl => match us, hl with | [_], _ => rfl) (fun f c1 v0 E A outer s H hr => pe_capN (by exact (pe_fn c_doubled hr (by rfl) pass0 (pa_cons (pv 1) (pa_cons (pv 0) pa_nil))))))) (pa_cons (pv 5) (pa_cons (pv 6) pa_nil)))) pa_nil)))
      (pss_cons (ps_set (i := 7) sc_law.nd rfl (.inl rfl) (by exact (k_lamCN (P := P) (w := w) (K := K) (mg := mg) (base := base) (k := 8) (ps := ["_law_found", "_law_it"]) (y := "_law_people") rfl rfl rfl rfl rfl rfl hcy TB rfl (tabs_in_0 c) (tabs_un_0 T) (lamQ_by (by decide +kernel)) (fun cells c h => by simp [cloFrom, h]) rfl (fun _ _ _ _ _ us hl => match us, hl with | [_, _], _ => rfl) (fun f c1 v0 E A outer s H hr => pe_capN (by exact (pe_or2 (pe_mt c_Plan_shows T.cf_Plan hr pass0 (pv 0) (pa_cons (pv 2) (pa_cons (pv 1) pa_nil))) (pe_or2 (pe_mt c_Apart_shows T.cf_Apart hr pass0 (pv 0) (pa_cons (pv 2) (pa_cons (pv 1) pa_nil))) (pe_mt c_Twice_shows T.cf_Twice hr pass0 (pv 0) (pa_cons (pv 2) (pa_cons (pv 1) pa_nil))))))))))
      (pss_cons (ps_expr (k_bm (K := K) rfl PySem.F.plainAttrs_list PySem.F.slot_list_append PySem.F.type_list_append mt_append (pv 4) (pa_cons (pe_tup (pa_cons (by exact (k_lamCN (P := P) (w := w) (K := K) (mg := mg) (base := base) (k := 8) (ps := ["_law_it"]) (y := "_law_people") rfl rfl rfl rfl rfl rfl hcy TB rfl (tabs_in_0 c) (tabs_un_0 T) (lamQ_by (by decide +kernel)) (fun cells c h => by simp [cloFrom, h]) rfl (fun _ _ _ _ _ us hl => match us, hl with | [_], _ => rfl) (fun f c1 v0 E A outer s H hr => pe_capN (by exact (pe_fn c_told hr (by rfl) pass0 (pa_cons (pv 1) (pa_cons (pv 0) pa_nil))))))) (pa_cons (pv 7) (pa_cons (pv 5) (pa_cons (pe_op op_cat (pe_slice (k_slL (K := K) rfl) (pv 6) (po_some pe_int) po_none) (pe_slice (k_slL (K := K) rfl) (pv 6) (po_some pe_int) (po_some pe_int))) pa_nil))))) pa_nil)))
      (pss_cons (ps_expr (k_bm (K := K) rfl PySem.F.plainAttrs_list PySem.F.slot_list_append PySem.F.type_list_append mt_append (pv 4) (pa_cons (pe_tup (pa_cons (by exact (k_lamCN (P := P) (w := w) (K := K) (mg := mg) (base := base) (k := 8) (ps := ["_law_it"]) (y := "_law_people") rfl rfl rfl rfl rfl rfl hcy TB rfl (tabs_in_0 c) (tabs_un_0 T) (lamQ_by (by decide +kernel)) (fun cells c h => by simp [cloFrom, h]) rfl (fun _ _ _ _ _ us hl => match us, hl with | [_], _ => rfl) (fun f c1 v0 E A outer s H hr => pe_capN (by exact (pe_fn c_told hr (by rfl) pass0 (pa_cons (pv 1) (pa_cons (pv 0) pa_nil))))))) (pa_cons (pv 7) (pa_cons (pe_slice (k_slL (K := K) rfl) (pv 5) po_none (po_some (pe_un un_neg pe_int))) (pa_cons (pv 6) pa_nil))))) pa_nil)))
      (pss_cons (ps_if (pt_not (pt_val (pe_callB (k_all (K := K) rfl rfl) (by rfl) T.z_all (by decide +kernel) (pa_cons (by exact (pe_lcC (own := [("_law_ask", 11), ("_law_one", 13), ("_law_other", 14)]) (g := (gTup K 3 (gCons (gName 11) (gCons (gName 13) (gCons (gName 14) gNil))))) (tt := tYes) (i := 8) (y := "_law_people") rfl sc_law.nd rfl rfl rfl hcy (k_plist (K := K) rfl (pv 3)) (blkOk_by (own := [("_law_ask", 11), ("_law_one", 13), ("_law_other", 14)]) (N := ["_law_script", "_law_cells", "_law_more", "_law_asks", "_law_frees", "_law_plan", "_law_turned", "_law_word", "_law_people", "_law_number", "_law_three", "_law_ask", "_law_holds", "_law_one", "_law_other", "_law_place"]) (sc := defScope s_law) (by decide +kernel)) (fun _ _ _ _ _ => (k_gtup (K := K) rfl rfl (pgs_cons (pg_name (i := 11) sc_law.nd rfl (.inl rfl)) (pgs_cons (pg_name (i := 13) sc_law.nd rfl (.inl rfl)) (pgs_cons (pg_name (i := 14) sc_law.nd rfl (.inl rfl)) pgs_nil))))) (fun _ _ _ _ _ => pts_nil) (fun v0 _ _ _ _ _ ch => (by exact (pe_lendB (T := tabsOf c) (y := "_law_people") ch c__law_door_right hr (by rfl) (pa_cons (pv 11) (pa_cons (pv 13) (pa_cons (pv 14) pa_nil)))))))) pa_nil))))
      (pss_one (ps_ret pe_bl))
      pss_nil)
      (pss_one (ps_ret (pe_callB (k_all (K := K) rfl rfl) (by rfl) T.z_all (by decide +kernel) (pa_cons (by exact (pe_lcC (own := [("_law_ask", 11), ("_law_holds", 12), ("_law_one", 13), ("_law_other", 14)]) (g := (gTup K 4 (gCons (gName 11) (gCons (gName 12) (gCons (gName 13) (gCons (gName 14) gNil)))))) (tt := tYes) (i := 8) (y := "_law_people") rfl sc_law.nd rfl rfl rfl hcy (k_plist (K := K) rfl (pv 4)) (blkOk_by (own := [("_law_ask", 11), ("_law_holds", 12), ("_law_one", 13), ("_law_other", 14)]) (N := ["_law_script", "_law_cells", "_law_more", "_law_asks", "_law_frees", "_law_plan", "_law_turned", "_law_word", "_law_people", "_law_number", "_law_three", "_law_ask", "_law_holds", "_law_one", "_law_other", "_law_place"]) (sc := defScope s_law) (by decide +kernel)) (fun _ _ _ _ _ => (k_gtup (K := K) rfl rfl (pgs_cons (pg_name (i := 11) sc_law.nd rfl (.inl rfl)) (pgs_cons (pg_name (i := 12) sc_law.nd rfl (.inl rfl)) (pgs_cons (pg_name (i := 13) sc_law.nd rfl (.inl rfl)) (pgs_cons (pg_name (i := 14) sc_law.nd rfl (.inl rfl)) pgs_nil)))))) (fun _ _ _ _ _ => pts_nil) (fun v0 _ _ _ _ _ ch => (by exact (pe_lendB (T := tabsOf c) (y := "_law_people") ch c__law_free_right hr (by rfl) (pa_cons (pv 11) (pa_cons (pv 12) (pa_cons (pv 13) (pa_cons (pv 14) pa_nil))))))))) pa_nil)))))))))))))))), start_eq (σ := [some (.ref a), none, none, none, none, none, none, none, none, none, none, none, none, none, none, none]) rfl ?_⟩
    refine ⟨fun σ' H' => ∃ q ms, σ' = [some (.ref a), some (.ref q), none, none, none, none, none, none, none, none, none, none, none, none, none, none] ∧ LamX.Tabs (tabsOf c) H' ∧ H' q = some (.lst (List.map V.int ms)), ?_, ?_⟩
    · walk_at "g"
      intro q0 nq0
      walk_at "g"
      refine g_neLI (bs := ns) (cs := []) (sq_new nq0 S.sq) (SqL.of upd_same) ?_
      walk_at "g"
      refine ifND (fun c1 => ?_) (fun c1 => ?_)
      · walk_at "g"
        refine g_slL (sq_new nq0 S.sq) (fun q1 nq1 => ?_)
        rw [cutV_map]
        walk_at "g"
        exact ⟨q1, _, rfl, (hT.ext (same_new nq0)).ext (same_new nq1), upd_same⟩
      · walk_at "g"
        intro q1 nq1
        walk_at "g"
        exact ⟨q1, [5], rfl, (hT.ext (same_new nq0)).ext (same_new nq1), upd_same⟩
    rintro σ' H1 ⟨q1, ms, rfl, T1, e1⟩
    walk_at "g"
    refine g_sum (SqL.of e1) ?_
    walk_at "g"
    generalize (if ms.sum < 0 then -ms.sum else ms.sum) = w0 at *
    obtain ⟨p, hat, hc, h1, p15, m35⟩ := five_at w0
    have hb : Bt 1900 p := (Bt.small (by omega)).mono (by decide)
    have hm0 := (many_three hc).2
    intro qa n3
    walk_at "g"
    intro qb n4
    walk_at "g"
    intro q5 n5
    walk_at "g"
    refine g_ixT (SqT.of upd_same) hat ?_
    have q43 : qb ≠ qa := fun z => by rw [z, upd_same] at n4; cases n4
    have q34 : qa ≠ qb := Ne.symm q43
    have L3 : upd (upd (upd H1 qa (.lst [])) qb (.lst [])) q5 (.tup [.int 3, .int 7, .int 9, .int 13, .int 15]) qa = some (.lst []) := by walk_at "at"
    have L4 : upd (upd (upd H1 qa (.lst [])) qb (.lst [])) q5 (.tup [.int 3, .int 7, .int 9, .int 13, .int 15]) qb = some (.lst []) := by walk_at "at"
    have TG : LamX.Tabs (tabsOf c) (upd (upd (upd H1 qa (.lst [])) qb (.lst [])) q5 (.tup [.int 3, .int 7, .int 9, .int 13, .int 15])) := ((T1.ext (same_new n3)).ext (same_new n4)).ext (same_new n5)
    generalize upd (upd (upd H1 qa (.lst [])) qb (.lst [])) q5 (.tup [.int 3, .int 7, .int 9, .int 13, .int 15]) = G at *
    walk_at "g"
    refine ⟨⟨hc, hb.mono (by decide)⟩, ?_⟩
    walk_at "g"
    refine ⟨by omega, by omega, fun D5 nD5 => ?_⟩
    refine lc_ownR (n := (manyOf p).toNat) (lo := 0) (fun (i : Nat) => t3 (threeOf p i)) nD5 (fun _ => rfl) (fun i H' hi s' R hR => ?_) (by rw [sizeLine_eq]; omega) (fun ps5 H5 s5 O5 e5 => ?_)
    · rw [Int.zero_add]
      have hi1 : (i : Int) < manyOf p := by omega
      obtain ⟨g1, _⟩ := made_get hc h1 hi1
      walk_at "g"
      exact ⟨⟨hc, h1, hb, by omega, hi1⟩, fun H6 q6 s6 nq6 e6 => hR q6 _ s6 nq6 (by rw [e6, ← g1])⟩
    replace e5 : ps5.map Prod.snd = made p := e5
    have hml : ((made p).length : Int) = manyOf p := made_len hc
    have l5 := len_of e5
    walk_at "g"
    refine ⟨_, rfl, ⟨_, SqL.of O5.at_⟩, fun D6 nD6 => ?_⟩
    refine lc_ownL (xs := ps5.map pRef) (fun i => rename (turnN p w0) ((made p).getD i (0, 0, 0))) nD6 (SqL.of O5.at_) (fun _ => rfl) (fun i x H' hx s' R hR => ?_) (by rw [List.length_map, sizeLine_eq]; omega) (fun ps6 H6 s6 O6 e6 => ?_)
    · rw [List.getElem?_map] at hx
      cases hn : ps5[i]? with
      | none => rw [hn] at hx; cases hx
      | some z =>
      rw [hn] at hx
      have ex : x = .ref z.1 := (Option.some.inj hx).symm
      subst ex
      have hrow := s' _ _ (O5.each z (List.mem_of_getElem? hn)).2
      have hmi : (made p)[i]? = some z.2 := by rw [← e5, List.getElem?_map, hn]; rfl
      have hok := made_ok hc z.2 (List.mem_of_getElem? hmi)
      obtain ⟨r, x1, x2, x3⟩ := z
      unfold T3.ok at hok
      dsimp only at hok hrow hmi
      walk_at "g"
      refine ⟨_, rfl, ⟨_, SqL.of hrow⟩, fun D3 nD3 => ?_⟩
      refine lc_map3 (x := x1) (y := x2) (z := x3) (fun k => .int ((k + 1 + w0) % p)) nD3 (SqL.of hrow) (fun _ => rfl) (fun k H' hk sm R hR => ?_) ?_
      · walk_at "g"
        exact hR
      walk_at "g"
      refine g_sorted3 (SqL.of upd_same) (fun q7 nq7 => ?_)
      refine hR q7 _ ((same_new nD3).trans (same_new nq7)) ((same_new nD3).free nq7) ?_
      rw [upd_same, List.getD_eq_getElem?_getD, hmi]
      show _ = some (HO.lst ((rename (turnN p w0) (x1, x2, x3)).l.map V.int))
      unfold rename
      dsimp only
      rw [tsort_l, turn_nm (by omega) (by omega), turn_nm (by omega) (by omega), turn_nm (by omega) (by omega)]
    replace e6 : ps6.map Prod.snd = turned p w0 := by
      rw [e6, List.length_map, l5]
      unfold turned
      conv => rhs; rw [← map_range_getD (ts := made p) (d := (0, 0, 0))]
      rw [List.map_map]
      rfl
    have FP := ((O5.same s6).apart (cs := [qa, qb]) (by intro c1 hc1; simp only [List.mem_cons, List.not_mem_nil, or_false] at hc1; rcases hc1 with rfl | rfl; exact ⟨_, L3⟩; exact ⟨_, L4⟩)).tx' e5
    have FQ := (O6.apart (cs := [qa, qb]) (by intro c1 hc1; simp only [List.mem_cons, List.not_mem_nil, or_false] at hc1; rcases hc1 with rfl | rfl; exact ⟨_, s5 _ _ L3⟩; exact ⟨_, s5 _ _ L4⟩)).tx' e6
    have A0 := (s5.trans s6) _ _ L3
    have B0 := (s5.trans s6) _ _ L4
    have T0 := TG.ext (s5.trans s6)
    have ltu : (turned p w0).length = (made p).length := by unfold turned; rw [List.length_map]
    have P1 : PlanOk p (made p) := ⟨⟨by omega, by omega, made_ok hc⟩, made_plan hc, by omega⟩
    have P2 : PlanOk p (turned p w0) := ⟨⟨by omega, by omega, turned_ok hc⟩, turned_plan hc, by omega⟩
    have O1 : OkTs p (made p) := ⟨P1.1, P1.2.2⟩
    have O2 : OkTs p (turned p w0) := ⟨P2.1, P2.2.2⟩
    have O3 : OkTs p (cutT (turned p w0) (some 1) none ++ cutT (turned p w0) (some 1) (some 2)) := ⟨⟨O2.1.1, O2.1.2.1, fun t ht => O2.1.2.2 t ((List.mem_append.mp ht).elim cutT_mem cutT_mem)⟩, by
      have c1 := cutT_le (turned p w0) (some 1) none
      have c2 := cutT_le (turned p w0) (some 1) (some 2)
      rw [List.length_append]
      omega⟩
    have O4 : OkTs p (cutT (made p) none (some (-1))) := ⟨⟨O1.1.1, O1.1.2.1, fun t ht => O1.1.2.2 t (cutT_mem ht)⟩, by
      have c1 := cutT_le (made p) none (some (-1))
      omega⟩
    clear O5 O6 s5 s6 L3 L4 TG nD5 nD6 e1 T1 n3 n4 n5
    generalize H6 = J0 at *
    walk_at "g"
    refine g_lamC T0 (fun f1 J1 y1 T1 p1 => ?_)
    have x1 := ext_er (cs := [qa, qb]) y1
    have z1 := ext0_of y1
    have A1 := ext_lst y1 A0
    have B1 := ext_lst y1 B0
    walk_at "g"
    refine g_revL ?_
    walk_at "g"
    obtain ⟨xs2, ra2, rb2⟩ := tx_rev (FQ.ext (x1))
    refine ⟨_, _, rfl, SqL.of (er_same _ _ ra2), fun q2 n2 => ?_⟩
    have y2 : LamX.ExtN J1 (upd J1 q2 (.lst xs2.reverse)) := ext_same (same_new n2)
    have T2 := T1.ext (same_new (o := .lst xs2.reverse) n2)
    have x2 := ext_er (cs := [qa, qb]) y2
    have z2 := ext0_of y2
    have A2 := ext_lst y2 A1
    have B2 := ext_lst y2 B1
    have u2 : er (upd J1 q2 (.lst xs2.reverse)) [qa, qb] = upd (er J1 [qa, qb]) q2 (.lst xs2.reverse) := er_upd_out (fresh_two A1 B1 n2)
    have v2 : er J1 [qa, qb] q2 = none := er_none n2
    have F2 : Tx (er (upd J1 q2 (.lst xs2.reverse)) [qa, qb]) q2 (turned p w0).reverse := by rw [u2]; exact rb2 q2 v2
    clear u2 v2
    generalize upd J1 q2 (.lst xs2.reverse) = J2 at *
    walk_at "g"
    intro q3 n3
    have y3 : LamX.ExtN J2 (upd J2 q3 (.tup [.ref f1, .ref D5, .ref q2])) := ext_same (same_new n3)
    have T3 := T2.ext (same_new (o := .tup [.ref f1, .ref D5, .ref q2]) n3)
    have x3 := ext_er (cs := [qa, qb]) y3
    have z3 := ext0_of y3
    have A3 := ext_lst y3 A2
    have B3 := ext_lst y3 B2
    have u3 : er (upd J2 q3 (.tup [.ref f1, .ref D5, .ref q2])) [qa, qb] = upd (er J2 [qa, qb]) q3 (.tup [.ref f1, .ref D5, .ref q2]) := er_upd_out (fresh_two A2 B2 n3)
    have v3 : er J2 [qa, qb] q3 = none := er_none n3
    have F3 : (er (upd J2 q3 (.tup [.ref f1, .ref D5, .ref q2])) [qa, qb]) q3 = some (.tup [.ref f1, .ref D5, .ref q2]) := by rw [u3]; exact upd_same
    clear u3 v3
    generalize upd J2 q3 (.tup [.ref f1, .ref D5, .ref q2]) = J3 at *
    walk_at "g"
    refine g_append A3 (by show 0 < sizeLine; decide) ?_
    have x4 : LamX.ExtN (er J3 [qa, qb]) (er (upd J3 qa (.lst ([] ++ [.ref q3]))) [qa, qb]) := by rw [er_upd_in (by simp)]; exact LamX.ExtN.refl _
    have z4 : Ext0 J3 (upd J3 qa (.lst ([] ++ [.ref q3]))) := ext0_put A3 (fun _ z => by cases z)
    have T4 : LamX.Tabs (tabsOf c) (upd J3 qa (.lst ([] ++ [.ref q3]))) := tabs_putL T3 A3
    have A4 : (upd J3 qa (.lst ([] ++ [.ref q3]))) qa = some (.lst [.ref q3]) := upd_same
    have B4 : (upd J3 qa (.lst ([] ++ [.ref q3]))) qb = some (.lst []) := by rw [upd_ne q43]; exact B3
    generalize upd J3 qa (.lst ([] ++ [.ref q3])) = J4 at *
    walk_at "g"
    refine g_lamC T4 (fun f5 J5 y5 T5 p5 => ?_)
    have x5 := ext_er (cs := [qa, qb]) y5
    have z5 := ext0_of y5
    have A5 := ext_lst y5 A4
    have B5 := ext_lst y5 B4
    walk_at "g"
    intro q6 n6
    have y6 : LamX.ExtN J5 (upd J5 q6 (.tup [.ref f5, .ref D5, .ref D6])) := ext_same (same_new n6)
    have T6 := T5.ext (same_new (o := .tup [.ref f5, .ref D5, .ref D6]) n6)
    have x6 := ext_er (cs := [qa, qb]) y6
    have z6 := ext0_of y6
    have A6 := ext_lst y6 A5
    have B6 := ext_lst y6 B5
    have u6 : er (upd J5 q6 (.tup [.ref f5, .ref D5, .ref D6])) [qa, qb] = upd (er J5 [qa, qb]) q6 (.tup [.ref f5, .ref D5, .ref D6]) := er_upd_out (fresh_two A5 B5 n6)
    have v6 : er J5 [qa, qb] q6 = none := er_none n6
    have F6 : (er (upd J5 q6 (.tup [.ref f5, .ref D5, .ref D6])) [qa, qb]) q6 = some (.tup [.ref f5, .ref D5, .ref D6]) := by rw [u6]; exact upd_same
    clear u6 v6
    generalize upd J5 q6 (.tup [.ref f5, .ref D5, .ref D6]) = J6 at *
    walk_at "g"
    refine g_append A6 (by show 1 < sizeLine; decide) ?_
    have x7 : LamX.ExtN (er J6 [qa, qb]) (er (upd J6 qa (.lst ([.ref q3] ++ [.ref q6]))) [qa, qb]) := by rw [er_upd_in (by simp)]; exact LamX.ExtN.refl _
    have z7 : Ext0 J6 (upd J6 qa (.lst ([.ref q3] ++ [.ref q6]))) := ext0_put A6 (fun _ z => by cases z)
    have T7 : LamX.Tabs (tabsOf c) (upd J6 qa (.lst ([.ref q3] ++ [.ref q6]))) := tabs_putL T6 A6
    have A7 : (upd J6 qa (.lst ([.ref q3] ++ [.ref q6]))) qa = some (.lst [.ref q3, .ref q6]) := upd_same
    have B7 : (upd J6 qa (.lst ([.ref q3] ++ [.ref q6]))) qb = some (.lst []) := by rw [upd_ne q43]; exact B6
    generalize upd J6 qa (.lst ([.ref q3] ++ [.ref q6])) = J7 at *
    walk_at "g"
    refine g_lamC T7 (fun f8 J8 y8 T8 p8 => ?_)
    have x8 := ext_er (cs := [qa, qb]) y8
    have z8 := ext0_of y8
    have A8 := ext_lst y8 A7
    have B8 := ext_lst y8 B7
    walk_at "g"
    refine g_lamC T8 (fun f9 J9 y9 T9 p9 => ?_)
    have x9 := ext_er (cs := [qa, qb]) y9
    have z9 := ext0_of y9
    have A9 := ext_lst y9 A8
    have B9 := ext_lst y9 B8
    walk_at "g"
    obtain ⟨xs10, ra10, rb10⟩ := tx_cut (lo := some 1) (hi := none) (FQ.ext (x1.trans (x2.trans (x3.trans (x4.trans (x5.trans (x6.trans (x7.trans (x8.trans x9)))))))))
    refine g_slL (SqL.of (er_same _ _ ra10)) (fun q10 n10 => ?_)
    have y10 : LamX.ExtN J9 (upd J9 q10 (.lst (cutV xs10 (some 1) (none)))) := ext_same (same_new n10)
    have T10 := T9.ext (same_new (o := .lst (cutV xs10 (some 1) (none))) n10)
    have x10 := ext_er (cs := [qa, qb]) y10
    have z10 := ext0_of y10
    have A10 := ext_lst y10 A9
    have B10 := ext_lst y10 B9
    have u10 : er (upd J9 q10 (.lst (cutV xs10 (some 1) (none)))) [qa, qb] = upd (er J9 [qa, qb]) q10 (.lst (cutV xs10 (some 1) (none))) := er_upd_out (fresh_two A9 B9 n10)
    have v10 : er J9 [qa, qb] q10 = none := er_none n10
    have F10 : Tx (er (upd J9 q10 (.lst (cutV xs10 (some 1) (none)))) [qa, qb]) q10 (cutT (turned p w0) (some 1) (none)) := by rw [u10]; exact rb10 q10 v10
    clear u10 v10
    generalize upd J9 q10 (.lst (cutV xs10 (some 1) (none))) = J10 at *
    walk_at "g"
    obtain ⟨xs11, ra11, rb11⟩ := tx_cut (lo := some 1) (hi := some 2) (FQ.ext (x1.trans (x2.trans (x3.trans (x4.trans (x5.trans (x6.trans (x7.trans (x8.trans (x9.trans x10))))))))))
    refine g_slL (SqL.of (er_same _ _ ra11)) (fun q11 n11 => ?_)
    have y11 : LamX.ExtN J10 (upd J10 q11 (.lst (cutV xs11 (some 1) (some 2)))) := ext_same (same_new n11)
    have T11 := T10.ext (same_new (o := .lst (cutV xs11 (some 1) (some 2))) n11)
    have x11 := ext_er (cs := [qa, qb]) y11
    have z11 := ext0_of y11
    have A11 := ext_lst y11 A10
    have B11 := ext_lst y11 B10
    have u11 : er (upd J10 q11 (.lst (cutV xs11 (some 1) (some 2)))) [qa, qb] = upd (er J10 [qa, qb]) q11 (.lst (cutV xs11 (some 1) (some 2))) := er_upd_out (fresh_two A10 B10 n11)
    have v11 : er J10 [qa, qb] q11 = none := er_none n11
    have F11 : Tx (er (upd J10 q11 (.lst (cutV xs11 (some 1) (some 2)))) [qa, qb]) q11 (cutT (turned p w0) (some 1) (some 2)) := by rw [u11]; exact rb11 q11 v11
    clear u11 v11
    generalize upd J10 q11 (.lst (cutV xs11 (some 1) (some 2))) = J11 at *
    walk_at "g"
    obtain ⟨xs12, ys12, ra12, rb12, rc12, rd12, re12⟩ := tx_cat (F10.ext (x11)) F11
    refine g_cat (er_same _ _ ra12) (er_same _ _ rb12) (by rw [rc12, rd12]; have c1 := cutT_le (turned p w0) (some 1) none; have c2 := cutT_le (turned p w0) (some 1) (some 2); omega) (fun q12 n12 => ?_)
    have y12 : LamX.ExtN J11 (upd J11 q12 (.lst (xs12 ++ ys12))) := ext_same (same_new n12)
    have T12 := T11.ext (same_new (o := .lst (xs12 ++ ys12)) n12)
    have x12 := ext_er (cs := [qa, qb]) y12
    have z12 := ext0_of y12
    have A12 := ext_lst y12 A11
    have B12 := ext_lst y12 B11
    have u12 : er (upd J11 q12 (.lst (xs12 ++ ys12))) [qa, qb] = upd (er J11 [qa, qb]) q12 (.lst (xs12 ++ ys12)) := er_upd_out (fresh_two A11 B11 n12)
    have v12 : er J11 [qa, qb] q12 = none := er_none n12
    have F12 : Tx (er (upd J11 q12 (.lst (xs12 ++ ys12))) [qa, qb]) q12 (cutT (turned p w0) (some 1) none ++ cutT (turned p w0) (some 1) (some 2)) := by rw [u12]; exact re12 q12 v12
    clear u12 v12
    generalize upd J11 q12 (.lst (xs12 ++ ys12)) = J12 at *
    walk_at "g"
    intro q13 n13
    have y13 : LamX.ExtN J12 (upd J12 q13 (.tup [.ref f9, .ref f8, .ref D5, .ref q12])) := ext_same (same_new n13)
    have T13 := T12.ext (same_new (o := .tup [.ref f9, .ref f8, .ref D5, .ref q12]) n13)
    have x13 := ext_er (cs := [qa, qb]) y13
    have z13 := ext0_of y13
    have A13 := ext_lst y13 A12
    have B13 := ext_lst y13 B12
    have u13 : er (upd J12 q13 (.tup [.ref f9, .ref f8, .ref D5, .ref q12])) [qa, qb] = upd (er J12 [qa, qb]) q13 (.tup [.ref f9, .ref f8, .ref D5, .ref q12]) := er_upd_out (fresh_two A12 B12 n13)
    have v13 : er J12 [qa, qb] q13 = none := er_none n13
    have F13 : (er (upd J12 q13 (.tup [.ref f9, .ref f8, .ref D5, .ref q12])) [qa, qb]) q13 = some (.tup [.ref f9, .ref f8, .ref D5, .ref q12]) := by rw [u13]; exact upd_same
    clear u13 v13
    generalize upd J12 q13 (.tup [.ref f9, .ref f8, .ref D5, .ref q12]) = J13 at *
    walk_at "g"
    refine g_append B13 (by show 0 < sizeLine; decide) ?_
    have x14 : LamX.ExtN (er J13 [qa, qb]) (er (upd J13 qb (.lst ([] ++ [.ref q13]))) [qa, qb]) := by rw [er_upd_in (by simp)]; exact LamX.ExtN.refl _
    have z14 : Ext0 J13 (upd J13 qb (.lst ([] ++ [.ref q13]))) := ext0_put B13 (fun _ z => by cases z)
    have T14 : LamX.Tabs (tabsOf c) (upd J13 qb (.lst ([] ++ [.ref q13]))) := tabs_putL T13 B13
    have B14 : (upd J13 qb (.lst ([] ++ [.ref q13]))) qb = some (.lst [.ref q13]) := upd_same
    have A14 : (upd J13 qb (.lst ([] ++ [.ref q13]))) qa = some (.lst [.ref q3, .ref q6]) := by rw [upd_ne q34]; exact A13
    generalize upd J13 qb (.lst ([] ++ [.ref q13])) = J14 at *
    walk_at "g"
    refine g_lamC T14 (fun f15 J15 y15 T15 p15 => ?_)
    have x15 := ext_er (cs := [qa, qb]) y15
    have z15 := ext0_of y15
    have A15 := ext_lst y15 A14
    have B15 := ext_lst y15 B14
    walk_at "g"
    obtain ⟨xs16, ra16, rb16⟩ := tx_cut (lo := none) (hi := some (-1)) (FP.ext (x1.trans (x2.trans (x3.trans (x4.trans (x5.trans (x6.trans (x7.trans (x8.trans (x9.trans (x10.trans (x11.trans (x12.trans (x13.trans (x14.trans x15)))))))))))))))
    refine g_slL (SqL.of (er_same _ _ ra16)) (fun q16 n16 => ?_)
    have y16 : LamX.ExtN J15 (upd J15 q16 (.lst (cutV xs16 (none) (some (-1))))) := ext_same (same_new n16)
    have T16 := T15.ext (same_new (o := .lst (cutV xs16 (none) (some (-1)))) n16)
    have x16 := ext_er (cs := [qa, qb]) y16
    have z16 := ext0_of y16
    have A16 := ext_lst y16 A15
    have B16 := ext_lst y16 B15
    have u16 : er (upd J15 q16 (.lst (cutV xs16 (none) (some (-1))))) [qa, qb] = upd (er J15 [qa, qb]) q16 (.lst (cutV xs16 (none) (some (-1)))) := er_upd_out (fresh_two A15 B15 n16)
    have v16 : er J15 [qa, qb] q16 = none := er_none n16
    have F16 : Tx (er (upd J15 q16 (.lst (cutV xs16 (none) (some (-1))))) [qa, qb]) q16 (cutT (made p) (none) (some (-1))) := by rw [u16]; exact rb16 q16 v16
    clear u16 v16
    generalize upd J15 q16 (.lst (cutV xs16 (none) (some (-1)))) = J16 at *
    walk_at "g"
    intro q17 n17
    have y17 : LamX.ExtN J16 (upd J16 q17 (.tup [.ref f15, .ref f8, .ref q16, .ref D6])) := ext_same (same_new n17)
    have T17 := T16.ext (same_new (o := .tup [.ref f15, .ref f8, .ref q16, .ref D6]) n17)
    have x17 := ext_er (cs := [qa, qb]) y17
    have z17 := ext0_of y17
    have A17 := ext_lst y17 A16
    have B17 := ext_lst y17 B16
    have u17 : er (upd J16 q17 (.tup [.ref f15, .ref f8, .ref q16, .ref D6])) [qa, qb] = upd (er J16 [qa, qb]) q17 (.tup [.ref f15, .ref f8, .ref q16, .ref D6]) := er_upd_out (fresh_two A16 B16 n17)
    have v17 : er J16 [qa, qb] q17 = none := er_none n17
    have F17 : (er (upd J16 q17 (.tup [.ref f15, .ref f8, .ref q16, .ref D6])) [qa, qb]) q17 = some (.tup [.ref f15, .ref f8, .ref q16, .ref D6]) := by rw [u17]; exact upd_same
    clear u17 v17
    generalize upd J16 q17 (.tup [.ref f15, .ref f8, .ref q16, .ref D6]) = J17 at *
    walk_at "g"
    refine g_append B17 (by show 1 < sizeLine; decide) ?_
    have x18 : LamX.ExtN (er J17 [qa, qb]) (er (upd J17 qb (.lst ([.ref q13] ++ [.ref q17]))) [qa, qb]) := by rw [er_upd_in (by simp)]; exact LamX.ExtN.refl _
    have z18 : Ext0 J17 (upd J17 qb (.lst ([.ref q13] ++ [.ref q17]))) := ext0_put B17 (fun _ z => by cases z)
    have T18 : LamX.Tabs (tabsOf c) (upd J17 qb (.lst ([.ref q13] ++ [.ref q17]))) := tabs_putL T17 B17
    have B18 : (upd J17 qb (.lst ([.ref q13] ++ [.ref q17]))) qb = some (.lst [.ref q13, .ref q17]) := upd_same
    have A18 : (upd J17 qb (.lst ([.ref q13] ++ [.ref q17]))) qa = some (.lst [.ref q3, .ref q6]) := by rw [upd_ne q34]; exact A17
    generalize upd J17 qb (.lst ([.ref q13] ++ [.ref q17])) = J18 at *
    have hPl := ((FP.ext (x1.trans (x2.trans (x3.trans (x4.trans (x5.trans (x6.trans (x7.trans (x8.trans (x9.trans (x10.trans (x11.trans (x12.trans (x13.trans (x14.trans (x15.trans (x16.trans (x17.trans x18)))))))))))))))))).same er_same)
    have hTu := ((FQ.ext (x1.trans (x2.trans (x3.trans (x4.trans (x5.trans (x6.trans (x7.trans (x8.trans (x9.trans (x10.trans (x11.trans (x12.trans (x13.trans (x14.trans (x15.trans (x16.trans (x17.trans x18)))))))))))))))))).same er_same)
    have hRv := ((F2.ext (x3.trans (x4.trans (x5.trans (x6.trans (x7.trans (x8.trans (x9.trans (x10.trans (x11.trans (x12.trans (x13.trans (x14.trans (x15.trans (x16.trans (x17.trans x18)))))))))))))))).same er_same)
    have hCa := ((F12.ext (x13.trans (x14.trans (x15.trans (x16.trans (x17.trans x18)))))).same er_same)
    have hCu := ((F16.ext (x17.trans x18)).same er_same)
    have h3 := (er_same _ _ (ext_tup (x4.trans (x5.trans (x6.trans (x7.trans (x8.trans (x9.trans (x10.trans (x11.trans (x12.trans (x13.trans (x14.trans (x15.trans (x16.trans (x17.trans x18)))))))))))))) F3))
    have h6 := (er_same _ _ (ext_tup (x7.trans (x8.trans (x9.trans (x10.trans (x11.trans (x12.trans (x13.trans (x14.trans (x15.trans (x16.trans (x17.trans x18))))))))))) F6))
    have h13 := (er_same _ _ (ext_tup (x14.trans (x15.trans (x16.trans (x17.trans x18)))) F13))
    have h17 := (er_same _ _ (ext_tup (x18) F17))
    have k1 := (p1.keep (z2.trans (z3.trans (z4.trans (z5.trans (z6.trans (z7.trans (z8.trans (z9.trans (z10.trans (z11.trans (z12.trans (z13.trans (z14.trans (z15.trans (z16.trans (z17.trans z18)))))))))))))))))
    have k5 := (p5.keep (z6.trans (z7.trans (z8.trans (z9.trans (z10.trans (z11.trans (z12.trans (z13.trans (z14.trans (z15.trans (z16.trans (z17.trans z18)))))))))))))
    have k8 := (p8.keep (z9.trans (z10.trans (z11.trans (z12.trans (z13.trans (z14.trans (z15.trans (z16.trans (z17.trans z18))))))))))
    have k9 := (p9.keep (z10.trans (z11.trans (z12.trans (z13.trans (z14.trans (z15.trans (z16.trans (z17.trans z18)))))))))
    have k15 := (p15.keep (z16.trans (z17.trans z18)))
    walk_at "g"
    refine g_lcC rfl ?_
    walk_at "g"
    refine ⟨_, rfl, ⟨_, SqL.of A18⟩, fun D nD => lc_genV (n := 2) (fun _ => .bl true) (fun H' => LamX.ExtN J18 H' ∧ LamX.Tabs (tabsOf c) H') ⟨ext_same (same_new nD), T18.ext (same_new nD)⟩ (fun _ _ _ g e => ⟨ext_putD nD g.1, tabs_putL g.2 e⟩) (itl_go (xs := [.ref q3, .ref q6]) fun H' g => SqL.of (ext_lst g.1 A18)) (itl_stop (xs := [.ref q3, .ref q6]) fun H' g => SqL.of (ext_lst g.1 A18)) (fun i H' x H'' hi ⟨gx, gT⟩ hy Yes hY => ?_) (by show 2 ≤ sizeLine; decide) (fun HA ⟨gA, gTA⟩ eD => ?_)⟩
    · obtain ⟨rfl, hx⟩ := hy
      have hx := hx _ (SqL.of (ext_lst gx A18))
      match i, hi with
      | 0, _ =>
        cases hx
        refine g_gtup (SqT.of (ext_tup gx h3)) rfl ?_
        walk_at "g"
        refine ⟨rfl, ?_⟩
        refine g_lendB ?_
        walk_at "g"
        intro H3 s3 hCap
        walk_at "g"
        have x3 : LamX.ExtN J18 H3 := gx.trans (ext_same s3)
        refine ⟨p, made p, _, ⟨_, (k1.ext x3).lam hCap, fun H1 x1 a0 ts0 Q' E' hTs hl ok pl hq => g_lamSp1 (g_capN (by
          have ho := (hCap.ext x1).objs
          walk_at "g"
          exact ⟨ts0, hTs.er ho, by omega, ok, pl, fun H2 q2 ps2 s2 O2 e2 hn => hq _ q2 ps2 (rs_same s2) (O2.rs hn) e2⟩))⟩, hPl.ext x3, hRv.ext x3, P1, plan_rev P2, fun H4 s4 => ⟨ext_same s4, (gT.ext s3).ext s4, fun H5 x5 T5 => hY _ ⟨gx.trans x5, T5⟩ x5⟩⟩
      | 1, _ =>
        cases hx
        refine g_gtup (SqT.of (ext_tup gx h6)) rfl ?_
        walk_at "g"
        refine ⟨rfl, ?_⟩
        refine g_lendB ?_
        walk_at "g"
        intro H3 s3 hCap
        walk_at "g"
        have x3 : LamX.ExtN J18 H3 := gx.trans (ext_same s3)
        refine ⟨p, made p, _, ⟨_, (k5.ext x3).lam hCap, fun H1 x1 a0 ts0 Q' E' hTs hl ok pl hq => g_lamSp1 (g_capN (by
          have ho := (hCap.ext x1).objs
          walk_at "g"
          exact ⟨ts0, hTs.er ho, by omega, ok, pl, fun H2 q2 ps2 s2 O2 e2 hn => hq _ q2 ps2 (rs_same s2) (O2.rs hn) e2⟩))⟩, hPl.ext x3, hTu.ext x3, P1, P2, fun H4 s4 => ⟨ext_same s4, (gT.ext s3).ext s4, fun H5 x5 T5 => hY _ ⟨gx.trans x5, T5⟩ x5⟩⟩
    walk_at "g"
    refine g_allT eD ?_
    walk_at "g"
    refine g_lcC rfl ?_
    walk_at "g"
    refine ⟨_, rfl, ⟨_, SqL.of (ext_lst gA B18)⟩, fun D nD => lc_genV (n := 2) (fun _ => .bl true) (fun H' => LamX.ExtN HA H' ∧ LamX.Tabs (tabsOf c) H') ⟨ext_same (same_new nD), gTA.ext (same_new nD)⟩ (fun _ _ _ g e => ⟨ext_putD nD g.1, tabs_putL g.2 e⟩) (itl_go (xs := [.ref q13, .ref q17]) fun H' g => SqL.of (ext_lst g.1 (ext_lst gA B18))) (itl_stop (xs := [.ref q13, .ref q17]) fun H' g => SqL.of (ext_lst g.1 (ext_lst gA B18))) (fun i H' x H'' hi ⟨gx, gT⟩ hy Yes hY => ?_) (by show 2 ≤ sizeLine; decide) (fun HB ⟨gB, gTB⟩ eD => ?_)⟩
    · obtain ⟨rfl, hx⟩ := hy
      have hx := hx _ (SqL.of (ext_lst gx (ext_lst gA B18)))
      match i, hi with
      | 0, _ =>
        cases hx
        refine g_gtup (SqT.of (ext_tup gx (ext_tup gA h13))) rfl ?_
        walk_at "g"
        refine ⟨rfl, ?_⟩
        refine g_lendB ?_
        walk_at "g"
        intro H3 s3 hCap
        walk_at "g"
        have x3 : LamX.ExtN J18 H3 := gA.trans (gx.trans (ext_same s3))
        refine ⟨p, made p, _, ⟨_, (k9.ext x3).lam hCap, fun H1 x1 a0 ts0 Q' E' hTs ok hq => g_lamSp1 (g_capN (by
          have ho := (hCap.ext x1).objs
          have hl := ok.2
          walk_at "g"
          exact ⟨ts0, hTs.er ho, by omega, ok.1, fun pl H2 x2 d2 s2 _ e2 hn => hq _ x2 (rs_same s2) ((Shows.of (.plan e2) pl).back hn), fun u v H2 x2 d2 b2 _ s2 _ e2 hn => hq _ x2 (rs_same s2) ((Shows.of (.apart e2) b2).back hn), fun u v H2 x2 d2 b2 _ s2 _ e2 hn => hq _ x2 (rs_same s2) ((Shows.of (.twice e2) b2).back hn)⟩))⟩, ⟨_, (k8.ext x3).lam hCap, fun H1 x1 x0 a0 ts0 Q' E' hS hTs ok hq => g_lamSp2 (g_capN (by
          have ho := (hCap.ext x1).objs
          have hl := ok.2
          have hT0 := hTs.er ho
          have hS0 := hS.out ho
          generalize e9 : true = b9 at hS0
          replace e9 := e9.symm
          cases hS0 with
          | plan e =>
            refine g_inl ?_
            walk_at "g"
            refine ⟨ts0, hT0, by omega, ⟨ok.1.1, (Bt.small (by have := ok.1.2.1; have := ok.1.1; omega)).mono (by decide)⟩, fun H2 s2 => ?_⟩
            rw [e9]
            exact fun hn => hq _ (rs_same s2)
          | apart e =>
            refine g_inr (g_inl ?_)
            walk_at "g"
            refine ⟨_, _, _, ts0, e, hT0, by omega, fun H2 s2 => ?_⟩
            rw [e9]
            exact fun hn => hq _ (rs_same s2)
          | twice e =>
            refine g_inr (g_inr ?_)
            walk_at "g"
            refine ⟨_, _, _, ts0, e, hT0, by omega, fun H2 s2 => ?_⟩
            rw [e9]
            exact fun hn => hq _ (rs_same s2)))⟩, hPl.ext x3, hCa.ext x3, O1, O3, fun H4 s4 => ⟨ext_same s4, (gT.ext s3).ext s4, fun H5 x5 T5 => hY _ ⟨gx.trans x5, T5⟩ x5⟩⟩
      | 1, _ =>
        cases hx
        refine g_gtup (SqT.of (ext_tup gx (ext_tup gA h17))) rfl ?_
        walk_at "g"
        refine ⟨rfl, ?_⟩
        refine g_lendB ?_
        walk_at "g"
        intro H3 s3 hCap
        walk_at "g"
        have x3 : LamX.ExtN J18 H3 := gA.trans (gx.trans (ext_same s3))
        refine ⟨p, _, turned p w0, ⟨_, (k15.ext x3).lam hCap, fun H1 x1 a0 ts0 Q' E' hTs ok hq => g_lamSp1 (g_capN (by
          have ho := (hCap.ext x1).objs
          have hl := ok.2
          walk_at "g"
          exact ⟨ts0, hTs.er ho, by omega, ok.1, fun pl H2 x2 d2 s2 _ e2 hn => hq _ x2 (rs_same s2) ((Shows.of (.plan e2) pl).back hn), fun u v H2 x2 d2 b2 _ s2 _ e2 hn => hq _ x2 (rs_same s2) ((Shows.of (.apart e2) b2).back hn), fun u v H2 x2 d2 b2 _ s2 _ e2 hn => hq _ x2 (rs_same s2) ((Shows.of (.twice e2) b2).back hn)⟩))⟩, ⟨_, (k8.ext x3).lam hCap, fun H1 x1 x0 a0 ts0 Q' E' hS hTs ok hq => g_lamSp2 (g_capN (by
          have ho := (hCap.ext x1).objs
          have hl := ok.2
          have hT0 := hTs.er ho
          have hS0 := hS.out ho
          generalize e9 : true = b9 at hS0
          replace e9 := e9.symm
          cases hS0 with
          | plan e =>
            refine g_inl ?_
            walk_at "g"
            refine ⟨ts0, hT0, by omega, ⟨ok.1.1, (Bt.small (by have := ok.1.2.1; have := ok.1.1; omega)).mono (by decide)⟩, fun H2 s2 => ?_⟩
            rw [e9]
            exact fun hn => hq _ (rs_same s2)
          | apart e =>
            refine g_inr (g_inl ?_)
            walk_at "g"
            refine ⟨_, _, _, ts0, e, hT0, by omega, fun H2 s2 => ?_⟩
            rw [e9]
            exact fun hn => hq _ (rs_same s2)
          | twice e =>
            refine g_inr (g_inr ?_)
            walk_at "g"
            refine ⟨_, _, _, ts0, e, hT0, by omega, fun H2 s2 => ?_⟩
            rw [e9]
            exact fun hn => hq _ (rs_same s2)))⟩, hCu.ext x3, hTu.ext x3, O4, O2, fun H4 s4 => ⟨ext_same s4, (gT.ext s3).ext s4, fun H5 x5 T5 => hY _ ⟨gx.trans x5, T5⟩ x5⟩⟩
    walk_at "g"
    refine g_allT eD ?_
    exact h _
theorem law_at {l : PySem.W.OpenLaw} {w : World} {K : PySem.W.Frag} {mg : PySem.Str → Option Value} {fa : Addr} {h : Heap} {c : Cs} (hfa : mg "law" = some (.ref fa)) (T : Top K mg c)
    (t1 : h.get? c.tab_law = some { cls := .none, data := .fields #[] }) (n1 : K.lookup c.tab_law = none) (d1 : PySem.W.CodeHd h c.code_law c.tab_law)
    : LamX.LawAtS l w K CX0 12 63 "_law_script" mg fa h := by
  obtain ⟨f, fd, oc, od, kV, doc, pm, an, ct, osl, rfl, lk, hcd, kp, m⟩ := T.f_law.ex
  have e := hfa.symm.trans m
  cases e
  have one : ∀ {P : Addr × Addr → Prop}, P (c.code_law, c.tab_law) → ∀ p ∈ [(c.code_law, c.tab_law)], P p := fun {P} h p hp => by rw [List.mem_singleton.mp hp]; exact h
  refine ⟨_, [(c.code_law, c.tab_law)], sp_law K c, one (P := fun p => h.get? p.2 = some { cls := .none, data := .fields #[] }) t1, one (P := fun p => K.lookup p.2 = none) n1, one (P := fun p => PySem.W.CodeHd h p.1 p.2) d1, fun s v => .of_eq rfl, fun H a ns hl hb hO hS => ⟨ns, ⟨hS, hl, hb⟩, ?_, fun _ => rfl⟩, fun base _ _ TB => d_law T (TB (c.code_law, c.tab_law) (by simp)) lk hcd⟩
  intro p hp
  simp only [tabsOf, List.mem_cons, List.not_mem_nil, or_false] at hp
  subst hp
  exact LamX.TabS.nil (hO (c.code_law, c.tab_law) (by simp))
theorem most_mk {mg : PySem.Str → Option Value} {v : Value} (h : mg "MOST_JUDGED" = some v) (e : ∃ t, v = .int 100 t) : ∃ t, mg "MOST_JUDGED" = some (.int 100 t) := by obtain ⟨t, rfl⟩ := e; exact ⟨t, h⟩
theorem top_mk {K : PySem.W.Frag} {mg : PySem.Str → Option Value} {cAnswer cCan cUnpaired cUnshared cPlan cApart cTwice cThreeError cBadPeople cBadPerson cBadThrees cBadNumber cNoPlan ccode_law ctab_law : Addr}
    (f_is_number : Dfn K mg "is_number" s_is_number)
    (f_check_people : Dfn K mg "check_people" s_check_people)
    (f_is_three : Dfn K mg "is_three" s_is_three)
    (f_check_threes : Dfn K mg "check_threes" s_check_threes)
    (f_is_even : Dfn K mg "is_even" s_is_even)
    (f_is_unshared : Dfn K mg "is_unshared" s_is_unshared)
    (f_times_together : Dfn K mg "times_together" s_times_together)
    (f_is_plan : Dfn K mg "is_plan" s_is_plan)
    (f_told : Dfn K mg "told" s_told)
    (f_doubled : Dfn K mg "doubled" s_doubled)
    (f_wide_of : Dfn K mg "wide_of" s_wide_of)
    (f_met : Dfn K mg "met" s_met)
    (f_many_of : Dfn K mg "many_of" s_many_of)
    (f_alone_of : Dfn K mg "alone_of" s_alone_of)
    (f_root_of : Dfn K mg "root_of" s_root_of)
    (f_three_of : Dfn K mg "three_of" s_three_of)
    (f_check_plan : Dfn K mg "check_plan" s_check_plan)
    (f_many : Dfn K mg "many" s_many)
    (f_three_by : Dfn K mg "three_by" s_three_by)
    (f__law_copied : Dfn K mg "_law_copied" s__law_copied)
    (f__law_spoiled : Dfn K mg "_law_spoiled" s__law_spoiled)
    (f__law_laid : Dfn K mg "_law_laid" s__law_laid)
    (f__law_door_right : Dfn K mg "_law_door_right" s__law_door_right)
    (f__law_told : Dfn K mg "_law_told" s__law_told)
    (f__law_free_right : Dfn K mg "_law_free_right" s__law_free_right)
    (f_law : DfnC K mg "law" s_law ccode_law)
    (z_isinstance : mg "isinstance" = none)
    (z_max : mg "max" = none)
    (z_len : mg "len" = none)
    (z_range : mg "range" = none)
    (z_all : mg "all" = none)
    (z_any : mg "any" = none)
    (z_int : mg "int" = none)
    (z_bool : mg "bool" = none)
    (z_sorted : mg "sorted" = none)
    (z_list : mg "list" = none)
    (z_enumerate : mg "enumerate" = none)
    (z_sum : mg "sum" = none)
    (z_abs : mg "abs" = none)
    (mg_Answer : mg "Answer" = some (.ref cAnswer))
    (cf_Answer : CF K cAnswer)
    (mk_Answer : MkO K cAnswer)
    (mg_Plan : mg "Plan" = some (.ref cPlan))
    (cf_Plan : CF K cPlan)
    (mk_Plan : MkO K cPlan)
    (m_Plan_shows : Mfn K cPlan "shows" "Plan.shows" s_Plan_shows)
    (mg_Apart : mg "Apart" = some (.ref cApart))
    (cf_Apart : CF K cApart)
    (mi_Apart : MkI K cApart "Apart.__init__" s_Apart_init)
    (m_Apart_shows : Mfn K cApart "shows" "Apart.shows" s_Apart_shows)
    (mg_Twice : mg "Twice" = some (.ref cTwice))
    (cf_Twice : CF K cTwice)
    (mi_Twice : MkI K cTwice "Twice.__init__" s_Twice_init)
    (m_Twice_shows : Mfn K cTwice "shows" "Twice.shows" s_Twice_shows)
    (na_Apart_one : NoAttr K cApart "one")
    (na_Apart_other : NoAttr K cApart "other")
    (na_Twice_first : NoAttr K cTwice "first")
    (na_Twice_second : NoAttr K cTwice "second")
    (mg_MOST : ∃ t, mg "MOST_JUDGED" = some (.int 100 t))
    : Top K mg ⟨cAnswer, cCan, cUnpaired, cUnshared, cPlan, cApart, cTwice, cThreeError, cBadPeople, cBadPerson, cBadThrees, cBadNumber, cNoPlan, ccode_law, ctab_law⟩ := ⟨f_is_number, f_check_people, f_is_three, f_check_threes, f_is_even, f_is_unshared, f_times_together, f_is_plan, f_told, f_doubled, f_wide_of, f_met, f_many_of, f_alone_of, f_root_of, f_three_of, f_check_plan, f_many, f_three_by, f__law_copied, f__law_spoiled, f__law_laid, f__law_door_right, f__law_told, f__law_free_right, f_law, z_isinstance, z_max, z_len, z_range, z_all, z_any, z_int, z_bool, z_sorted, z_list, z_enumerate, z_sum, z_abs, mg_Answer, cf_Answer, mk_Answer, mg_Plan, cf_Plan, mk_Plan, m_Plan_shows, mg_Apart, cf_Apart, mi_Apart, m_Apart_shows, mg_Twice, cf_Twice, mi_Twice, m_Twice_shows, na_Apart_one, na_Apart_other, na_Twice_first, na_Twice_second, mg_MOST⟩
end G66
open PySem PySem.W PyProof.Rows
set_option maxHeartbeats 0 in
theorem PySem.Challenge.cw_pairthrees_k09_handed_stays_holds : PySem.Challenge.rw_pairthrees_k09_handed_stays.Holds := by
  w_on; o_law; k_head; (case hw => w_witness2)
  k_fill
  refine LamX.walk_ofTs (l := PySem.Challenge.rw_pairthrees_k09_handed_stays) (n := 63) (k := 12) (x := "_law_script") (CX := fun _ => L2.CX0) rfl (by decide) rfl ⟨rfl, by decide, by decide⟩ (fun w h Y => PySem.W.km_in_of Y) ?F (fun _ _ _ _ _ h => h)
  case F =>
    intro w mg fa h Y KX G hmg
    have hT8 := PySem.W.km_tabs_of Y
    refine' G66.law_at hmg (G66.top_mk (cCan := 0) (cUnpaired := 0) (cUnshared := 0) (cThreeError := 0) (cBadPeople := 0) (cBadPerson := 0) (cBadThrees := 0) (cBadNumber := 0) (cNoPlan := 0) (ctab_law := 323)
      (G66.dfn_mk KX G ?f_is_numbera ?f_is_numberl ?f_is_numberc ?f_is_numberk)
      (G66.dfn_mk KX G ?f_check_peoplea ?f_check_peoplel ?f_check_peoplec ?f_check_peoplek)
      (G66.dfn_mk KX G ?f_is_threea ?f_is_threel ?f_is_threec ?f_is_threek)
      (G66.dfn_mk KX G ?f_check_threesa ?f_check_threesl ?f_check_threesc ?f_check_threesk)
      (G66.dfn_mk KX G ?f_is_evena ?f_is_evenl ?f_is_evenc ?f_is_evenk)
      (G66.dfn_mk KX G ?f_is_unshareda ?f_is_unsharedl ?f_is_unsharedc ?f_is_unsharedk)
      (G66.dfn_mk KX G ?f_times_togethera ?f_times_togetherl ?f_times_togetherc ?f_times_togetherk)
      (G66.dfn_mk KX G ?f_is_plana ?f_is_planl ?f_is_planc ?f_is_plank)
      (G66.dfn_mk KX G ?f_tolda ?f_toldl ?f_toldc ?f_toldk)
      (G66.dfn_mk KX G ?f_doubleda ?f_doubledl ?f_doubledc ?f_doubledk)
      (G66.dfn_mk KX G ?f_wide_ofa ?f_wide_ofl ?f_wide_ofc ?f_wide_ofk)
      (G66.dfn_mk KX G ?f_meta ?f_metl ?f_metc ?f_metk)
      (G66.dfn_mk KX G ?f_many_ofa ?f_many_ofl ?f_many_ofc ?f_many_ofk)
      (G66.dfn_mk KX G ?f_alone_ofa ?f_alone_ofl ?f_alone_ofc ?f_alone_ofk)
      (G66.dfn_mk KX G ?f_root_ofa ?f_root_ofl ?f_root_ofc ?f_root_ofk)
      (G66.dfn_mk KX G ?f_three_ofa ?f_three_ofl ?f_three_ofc ?f_three_ofk)
      (G66.dfn_mk KX G ?f_check_plana ?f_check_planl ?f_check_planc ?f_check_plank)
      (G66.dfn_mk KX G ?f_manya ?f_manyl ?f_manyc ?f_manyk)
      (G66.dfn_mk KX G ?f_three_bya ?f_three_byl ?f_three_byc ?f_three_byk)
      (G66.dfn_mk KX G ?f__law_copieda ?f__law_copiedl ?f__law_copiedc ?f__law_copiedk)
      (G66.dfn_mk KX G ?f__law_spoileda ?f__law_spoiledl ?f__law_spoiledc ?f__law_spoiledk)
      (G66.dfn_mk KX G ?f__law_laida ?f__law_laidl ?f__law_laidc ?f__law_laidk)
      (G66.dfn_mk KX G ?f__law_door_righta ?f__law_door_rightl ?f__law_door_rightc ?f__law_door_rightk)
      (G66.dfn_mk KX G ?f__law_tolda ?f__law_toldl ?f__law_toldc ?f__law_toldk)
      (G66.dfn_mk KX G ?f__law_free_righta ?f__law_free_rightl ?f__law_free_rightc ?f__law_free_rightk)
      (G66.dfnC_mk KX G ?f_lawa ?f_lawl ?f_lawc ?f_lawk ?post_f_law)
      (PySem.W.mg_none_of KX G ?z_isinstancea)
      (PySem.W.mg_none_of KX G ?z_maxa)
      (PySem.W.mg_none_of KX G ?z_lena)
      (PySem.W.mg_none_of KX G ?z_rangea)
      (PySem.W.mg_none_of KX G ?z_alla)
      (PySem.W.mg_none_of KX G ?z_anya)
      (PySem.W.mg_none_of KX G ?z_inta)
      (PySem.W.mg_none_of KX G ?z_boola)
      (PySem.W.mg_none_of KX G ?z_sorteda)
      (PySem.W.mg_none_of KX G ?z_lista)
      (PySem.W.mg_none_of KX G ?z_enumeratea)
      (PySem.W.mg_none_of KX G ?z_suma)
      (PySem.W.mg_none_of KX G ?z_absa)
      (PySem.W.mg_of KX G ?mg_Answera)
      (⟨⟨?cf_Answera, ?cf_Answerb, ?cf_Answerc, ?cf_Answerd⟩, ?cf_Answere, ?cf_Answerf, ?cf_Answerg, ?cf_Answerh⟩)
      (⟨?mk_Answera, ?mk_Answerb, ?mk_Answerc⟩)
      (PySem.W.mg_of KX G ?mg_Plana)
      (⟨⟨?cf_Plana, ?cf_Planb, ?cf_Planc, ?cf_Pland⟩, ?cf_Plane, ?cf_Planf, ?cf_Plang, ?cf_Planh⟩)
      (⟨?mk_Plana, ?mk_Planb, ?mk_Planc⟩)
      (G66.mfn_mk ?m_Plan_showsat ?m_Plan_showsl ?m_Plan_showsc ?m_Plan_showsk ?m_Plan_showsn)
      (PySem.W.mg_of KX G ?mg_Aparta)
      (⟨⟨?cf_Aparta, ?cf_Apartb, ?cf_Apartc, ?cf_Apartd⟩, ?cf_Aparte, ?cf_Apartf, ?cf_Apartg, ?cf_Aparth⟩)
      (G66.mki_mk ?mi_Apartat ?mi_Apartl ?mi_Apartc ?mi_Apartk ?mi_Apartm ?mi_Apartn ?mi_Aparto)
      (G66.mfn_mk ?m_Apart_showsat ?m_Apart_showsl ?m_Apart_showsc ?m_Apart_showsk ?m_Apart_showsn)
      (PySem.W.mg_of KX G ?mg_Twicea)
      (⟨⟨?cf_Twicea, ?cf_Twiceb, ?cf_Twicec, ?cf_Twiced⟩, ?cf_Twicee, ?cf_Twicef, ?cf_Twiceg, ?cf_Twiceh⟩)
      (G66.mki_mk ?mi_Twiceat ?mi_Twicel ?mi_Twicec ?mi_Twicek ?mi_Twicem ?mi_Twicen ?mi_Twiceo)
      (G66.mfn_mk ?m_Twice_showsat ?m_Twice_showsl ?m_Twice_showsc ?m_Twice_showsk ?m_Twice_showsn)
      (G66.noattr_mk ?na_Apart_one)
      (G66.noattr_mk ?na_Apart_other)
      (G66.noattr_mk ?na_Twice_first)
      (G66.noattr_mk ?na_Twice_second)
      (G66.most_mk (PySem.W.mg_of KX G ?mgmost) ?post_mgmost)) (hT8 323 (by k_mem)) ?nt_law ?dt_law
    (case f_is_numbera => k_is)
    (case f_is_numberl => k_is)
    (case f_is_numberc => k_is)
    (case f_is_numberk => k_is)
    (case f_check_peoplea => k_is)
    (case f_check_peoplel => k_is)
    (case f_check_peoplec => k_is)
    (case f_check_peoplek => k_is)
    (case f_is_threea => k_is)
    (case f_is_threel => k_is)
    (case f_is_threec => k_is)
    (case f_is_threek => k_is)
    (case f_check_threesa => k_is)
    (case f_check_threesl => k_is)
    (case f_check_threesc => k_is)
    (case f_check_threesk => k_is)
    (case f_is_evena => k_is)
    (case f_is_evenl => k_is)
    (case f_is_evenc => k_is)
    (case f_is_evenk => k_is)
    (case f_is_unshareda => k_is)
    (case f_is_unsharedl => k_is)
    (case f_is_unsharedc => k_is)
    (case f_is_unsharedk => k_is)
    (case f_times_togethera => k_is)
    (case f_times_togetherl => k_is)
    (case f_times_togetherc => k_is)
    (case f_times_togetherk => k_is)
    (case f_is_plana => k_is)
    (case f_is_planl => k_is)
    (case f_is_planc => k_is)
    (case f_is_plank => k_is)
    (case f_tolda => k_is)
    (case f_toldl => k_is)
    (case f_toldc => k_is)
    (case f_toldk => k_is)
    (case f_doubleda => k_is)
    (case f_doubledl => k_is)
    (case f_doubledc => k_is)
    (case f_doubledk => k_is)
    (case f_wide_ofa => k_is)
    (case f_wide_ofl => k_is)
    (case f_wide_ofc => k_is)
    (case f_wide_ofk => k_is)
    (case f_meta => k_is)
    (case f_metl => k_is)
    (case f_metc => k_is)
    (case f_metk => k_is)
    (case f_many_ofa => k_is)
    (case f_many_ofl => k_is)
    (case f_many_ofc => k_is)
    (case f_many_ofk => k_is)
    (case f_alone_ofa => k_is)
    (case f_alone_ofl => k_is)
    (case f_alone_ofc => k_is)
    (case f_alone_ofk => k_is)
    (case f_root_ofa => k_is)
    (case f_root_ofl => k_is)
    (case f_root_ofc => k_is)
    (case f_root_ofk => k_is)
    (case f_three_ofa => k_is)
    (case f_three_ofl => k_is)
    (case f_three_ofc => k_is)
    (case f_three_ofk => k_is)
    (case f_check_plana => k_is)
    (case f_check_planl => k_is)
    (case f_check_planc => k_is)
    (case f_check_plank => k_is)
    (case f_manya => k_is)
    (case f_manyl => k_is)
    (case f_manyc => k_is)
    (case f_manyk => k_is)
    (case f_three_bya => k_is)
    (case f_three_byl => k_is)
    (case f_three_byc => k_is)
    (case f_three_byk => k_is)
    (case f__law_copieda => k_is)
    (case f__law_copiedl => k_is)
    (case f__law_copiedc => k_is)
    (case f__law_copiedk => k_is)
    (case f__law_spoileda => k_is)
    (case f__law_spoiledl => k_is)
    (case f__law_spoiledc => k_is)
    (case f__law_spoiledk => k_is)
    (case f__law_laida => k_is)
    (case f__law_laidl => k_is)
    (case f__law_laidc => k_is)
    (case f__law_laidk => k_is)
    (case f__law_door_righta => k_is)
    (case f__law_door_rightl => k_is)
    (case f__law_door_rightc => k_is)
    (case f__law_door_rightk => k_is)
    (case f__law_tolda => k_is)
    (case f__law_toldl => k_is)
    (case f__law_toldc => k_is)
    (case f__law_toldk => k_is)
    (case f__law_free_righta => k_is)
    (case f__law_free_rightl => k_is)
    (case f__law_free_rightc => k_is)
    (case f__law_free_rightk => k_is)
    (case f_lawa => k_is)
    (case f_lawl => k_is)
    (case f_lawc => k_is)
    (case f_lawk => k_is)
    (case z_isinstancea => k_is)
    (case z_maxa => k_is)
    (case z_lena => k_is)
    (case z_rangea => k_is)
    (case z_alla => k_is)
    (case z_anya => k_is)
    (case z_inta => k_is)
    (case z_boola => k_is)
    (case z_sorteda => k_is)
    (case z_lista => k_is)
    (case z_enumeratea => k_is)
    (case z_suma => k_is)
    (case z_absa => k_is)
    (case mg_Answera => k_is)
    (case cf_Answera => k_is)
    (case cf_Answerb => k_is)
    (case cf_Answerc => k_is)
    (case cf_Answerd => k_is)
    (case cf_Answere => k_is)
    (case cf_Answerf => k_is)
    (case cf_Answerg => k_is)
    (case cf_Answerh => k_is)
    (case mk_Answera => k_is)
    (case mk_Answerb => k_is)
    (case mk_Answerc => k_is)
    (case mg_Plana => k_is)
    (case cf_Plana => k_is)
    (case cf_Planb => k_is)
    (case cf_Planc => k_is)
    (case cf_Pland => k_is)
    (case cf_Plane => k_is)
    (case cf_Planf => k_is)
    (case cf_Plang => k_is)
    (case cf_Planh => k_is)
    (case mk_Plana => k_is)
    (case mk_Planb => k_is)
    (case mk_Planc => k_is)
    (case m_Plan_showsat => k_is)
    (case m_Plan_showsl => k_is)
    (case m_Plan_showsc => k_is)
    (case m_Plan_showsk => k_is)
    (case m_Plan_showsn => k_is)
    (case mg_Aparta => k_is)
    (case cf_Aparta => k_is)
    (case cf_Apartb => k_is)
    (case cf_Apartc => k_is)
    (case cf_Apartd => k_is)
    (case cf_Aparte => k_is)
    (case cf_Apartf => k_is)
    (case cf_Apartg => k_is)
    (case cf_Aparth => k_is)
    (case mi_Apartat => k_is)
    (case mi_Apartl => k_is)
    (case mi_Apartc => k_is)
    (case mi_Apartk => k_is)
    (case mi_Apartm => k_is)
    (case mi_Apartn => k_is)
    (case mi_Aparto => k_is)
    (case m_Apart_showsat => k_is)
    (case m_Apart_showsl => k_is)
    (case m_Apart_showsc => k_is)
    (case m_Apart_showsk => k_is)
    (case m_Apart_showsn => k_is)
    (case mg_Twicea => k_is)
    (case cf_Twicea => k_is)
    (case cf_Twiceb => k_is)
    (case cf_Twicec => k_is)
    (case cf_Twiced => k_is)
    (case cf_Twicee => k_is)
    (case cf_Twicef => k_is)
    (case cf_Twiceg => k_is)
    (case cf_Twiceh => k_is)
    (case mi_Twiceat => k_is)
    (case mi_Twicel => k_is)
    (case mi_Twicec => k_is)
    (case mi_Twicek => k_is)
    (case mi_Twicem => k_is)
    (case mi_Twicen => k_is)
    (case mi_Twiceo => k_is)
    (case m_Twice_showsat => k_is)
    (case m_Twice_showsl => k_is)
    (case m_Twice_showsc => k_is)
    (case m_Twice_showsk => k_is)
    (case m_Twice_showsn => k_is)
    (case na_Apart_one => k_is)
    (case na_Apart_other => k_is)
    (case na_Twice_first => k_is)
    (case na_Twice_second => k_is)
    (case mgmost => k_is)
    (case post_f_law => rfl)
    (case post_mgmost => exact ⟨_, rfl⟩)
    (case nt_law => kernel_rfl)
    (case dt_law => exact PySem.W.codeHd_of_K KX (by kernel_rfl))
