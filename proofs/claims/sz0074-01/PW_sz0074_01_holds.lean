import PyProof.Rows.All
import Wide.All
import OpenK.AllK
import Wide.FinOn
import PySem.Challenge.RW_sz0074_01
open PySem PySem.W PyProof.Rows PySem.Spec PySem.Calls
set_option Elab.async false
set_option maxRecDepth 100000
set_option maxHeartbeats 40000000
set_option rowWalk.seconds 0
namespace Mine
/-! ## the calendar, with no program in sight -/
def dayOf (t : Int) : Int := t / 86400000
def timeInDay (t : Int) : Int := t % 86400000
def isLeap (y : Int) : Bool := y % 4 == 0 && (y % 100 != 0 || y % 400 == 0)
def dayFrom (y : Int) : Int := 365 * (y - 1970) + (y - 1969) / 4 - (y - 1901) / 100 + (y - 1601) / 400
theorem isLeap_true {y : Int} : isLeap y = true ↔ y % 4 = 0 ∧ (y % 100 ≠ 0 ∨ y % 400 = 0) := by
  simp [isLeap]
theorem isLeap_false {y : Int} : isLeap y = false ↔ ¬ (y % 4 = 0 ∧ (y % 100 ≠ 0 ∨ y % 400 = 0)) := by
  rw [← isLeap_true]; simp
theorem dayFrom_succ (y : Int) : dayFrom (y + 1) = dayFrom y + 365 + (if isLeap y = true then 1 else 0) := by
  unfold dayFrom
  split
  · rename_i h; rw [isLeap_true] at h; omega
  · rename_i h; rw [isLeap_true] at h; omega
theorem dayFrom_lt {a b : Int} (h : a < b) : dayFrom a < dayFrom b := by unfold dayFrom; omega
theorem dayFrom_le {a b : Int} (h : a ≤ b) : dayFrom a ≤ dayFrom b := by
  rcases Int.lt_or_eq_of_le h with h | h
  · exact Int.le_of_lt (dayFrom_lt h)
  · rw [h]; exact Int.le_refl _
theorem dayFrom_cycle (y k : Int) : dayFrom (y + 400 * k) = dayFrom y + 146097 * k := by unfold dayFrom; omega
theorem isLeap_cycle (y k : Int) : isLeap (y + 400 * k) = isLeap y := by
  have h : isLeap (y + 400 * k) = true ↔ isLeap y = true := by rw [isLeap_true, isLeap_true]; omega
  cases h1 : isLeap (y + 400 * k) <;> cases h2 : isLeap y <;> simp_all
def yod (d : Int) : Int :=
  if d < dayFrom (1970 + d * 400 / 146097) then 1970 + d * 400 / 146097 - 1
  else if dayFrom (1970 + d * 400 / 146097 + 1) ≤ d then 1970 + d * 400 / 146097 + 1 else 1970 + d * 400 / 146097
theorem yod_lo (d : Int) : dayFrom (1970 + d * 400 / 146097 - 1) ≤ d := by unfold dayFrom; omega
theorem yod_hi (d : Int) : d < dayFrom (1970 + d * 400 / 146097 + 2) := by unfold dayFrom; omega
theorem yod_le (d : Int) : dayFrom (yod d) ≤ d := by
  unfold yod
  split
  · exact yod_lo d
  · split
    · assumption
    · rename_i h _; exact Int.not_lt.mp h
theorem lt_yod (d : Int) : d < dayFrom (yod d + 1) := by
  unfold yod
  split
  · rename_i h; rw [Int.sub_add_cancel]; exact h
  · split
    · rw [Int.add_assoc]; exact yod_hi d
    · rename_i h; exact Int.not_le.mp h
theorem yod_unique {d y : Int} (h1 : dayFrom y ≤ d) (h2 : d < dayFrom (y + 1)) : y = yod d := by
  have a := yod_le d
  have b := lt_yod d
  rcases Int.lt_trichotomy y (yod d) with h | h | h
  · have := dayFrom_le (show y + 1 ≤ yod d by omega); omega
  · exact h
  · have := dayFrom_le (show yod d + 1 ≤ y by omega); omega
theorem yod_lt_of {d y : Int} (h : d < dayFrom y) : yod d < y := by
  by_cases h1 : yod d < y
  · exact h1
  · have := dayFrom_le (Int.not_lt.mp h1); have := yod_le d; omega
theorem le_yod_of {d y : Int} (h : dayFrom y ≤ d) : y ≤ yod d := by
  by_cases h1 : yod d < y
  · have := dayFrom_le (show yod d + 1 ≤ y by omega); have := lt_yod d; omega
  · exact Int.not_lt.mp h1
/-- days ahead of a month -/
def ahead0 (m : Int) : Int := if m ≤ 0 then 0 else if m = 1 then 31 else if m = 2 then 59 else if m = 3 then 90 else if m = 4 then 120 else if m = 5 then 151 else if m = 6 then 181 else if m = 7 then 212 else if m = 8 then 243 else if m = 9 then 273 else if m = 10 then 304 else if m = 11 then 334 else 365
def ahead (m : Int) (l : Bool) : Int := ahead0 m + (if l = true ∧ 1 < m then 1 else 0)
def mlen (y m : Int) : Int := if m = 1 ∧ isLeap y = true then 29 else if m ≤ 0 then 31 else if m = 1 then 28 else if m = 2 then 31 else if m = 3 then 30 else if m = 4 then 31 else if m = 5 then 30 else if m = 6 then 31 else if m = 7 then 31 else if m = 8 then 30 else if m = 9 then 31 else if m = 10 then 30 else 31
theorem month_cases {m : Int} (h0 : 0 ≤ m) (h1 : m ≤ 11) : m = 0 ∨ m = 1 ∨ m = 2 ∨ m = 3 ∨ m = 4 ∨ m = 5 ∨ m = 6 ∨ m = 7 ∨ m = 8 ∨ m = 9 ∨ m = 10 ∨ m = 11 := by omega
theorem ahead_succ {y m : Int} (h0 : 0 ≤ m) (h1 : m ≤ 11) : ahead (m + 1) (isLeap y) = ahead m (isLeap y) + mlen y m := by
  rcases month_cases h0 h1 with h | h | h | h | h | h | h | h | h | h | h | h <;> subst h <;> cases h : isLeap y <;> simp [ahead, ahead0, mlen, h]
theorem ahead_zero (l : Bool) : ahead 0 l = 0 := by cases l <;> decide
theorem ahead_twelve (y : Int) : ahead 12 (isLeap y) = dayFrom (y + 1) - dayFrom y := by
  rw [dayFrom_succ]
  cases h : isLeap y <;> simp [ahead, ahead0] <;> omega
theorem mlen_pos (y m : Int) : 28 ≤ mlen y m ∧ mlen y m ≤ 31 := by
  unfold mlen
  repeat' split
  all_goals decide
def monthOf (past : Int) (l : Bool) : Int :=
  if past < ahead 1 l then 0 else if past < ahead 2 l then 1 else if past < ahead 3 l then 2 else if past < ahead 4 l then 3 else if past < ahead 5 l then 4 else if past < ahead 6 l then 5
  else if past < ahead 7 l then 6 else if past < ahead 8 l then 7 else if past < ahead 9 l then 8 else if past < ahead 10 l then 9 else if past < ahead 11 l then 10 else 11
theorem monthOf_range (past : Int) (l : Bool) : 0 ≤ monthOf past l ∧ monthOf past l ≤ 11 := by
  unfold monthOf
  repeat' split
  all_goals decide
theorem monthOf_le {past : Int} {l : Bool} (h : 0 ≤ past) : ahead (monthOf past l) l ≤ past := by
  unfold monthOf
  (repeat' split) <;> first | omega | (rw [ahead_zero]; exact h)
theorem lt_monthOf {past : Int} {l : Bool} (h : past < ahead 12 l) : past < ahead (monthOf past l + 1) l := by
  unfold monthOf
  (repeat' split) <;> assumption
theorem ahead_step {m : Int} {l : Bool} (h0 : 0 ≤ m) (h1 : m ≤ 11) : ahead m l ≤ ahead (m + 1) l := by
  rcases month_cases h0 h1 with h | h | h | h | h | h | h | h | h | h | h | h <;> subst h <;> cases l <;> decide
theorem ahead_nat {a : Int} {l : Bool} (h0 : 0 ≤ a) : ∀ n : Nat, a + n ≤ 12 → ahead a l ≤ ahead (a + n) l
  | 0, _ => by rw [Int.ofNat_zero, Int.add_zero]; exact Int.le_refl _
  | n + 1, h => by
    have h1 := ahead_nat (l := l) h0 n (by omega)
    have h2 := ahead_step (m := a + n) (l := l) (by omega) (by omega)
    rw [show a + ((n + 1 : Nat) : Int) = a + n + 1 by omega]
    omega
theorem ahead_mono {a b : Int} {l : Bool} (h0 : 0 ≤ a) (h1 : a ≤ b) (h2 : b ≤ 12) : ahead a l ≤ ahead b l := by
  have := ahead_nat (l := l) h0 (b - a).toNat (by omega)
  rw [show a + ((b - a).toNat : Int) = b by omega] at this
  exact this
theorem monthOf_unique {past m : Int} {l : Bool} (h0 : 0 ≤ m) (h1 : m ≤ 11) (h2 : ahead m l ≤ past) (h3 : past < ahead (m + 1) l) : m = monthOf past l := by
  have r := monthOf_range past l
  have hp : 0 ≤ past := by have := ahead_mono (l := l) (Int.le_refl 0) h0 (by omega); rw [ahead_zero] at this; omega
  have a := monthOf_le (l := l) hp
  have b := lt_monthOf (past := past) (l := l) (by have := ahead_mono (l := l) (show 0 ≤ m + 1 by omega) (show m + 1 ≤ 12 by omega) (Int.le_refl 12); omega)
  rcases Int.lt_trichotomy m (monthOf past l) with h | h | h
  · have := ahead_mono (l := l) (show 0 ≤ m + 1 by omega) (show m + 1 ≤ monthOf past l by omega) (by omega); omega
  · exact h
  · have := ahead_mono (l := l) (show 0 ≤ monthOf past l + 1 by omega) (show monthOf past l + 1 ≤ m by omega) (by omega); omega
/-- the fields -/
def yearT (t : Int) : Int := yod (dayOf t)
def diy (t : Int) : Int := dayOf t - dayFrom (yearT t)
def leapT (t : Int) : Bool := isLeap (yearT t)
def monthT (t : Int) : Int := monthOf (diy t) (leapT t)
def dateT (t : Int) : Int := diy t - ahead (monthT t) (leapT t) + 1
def hourT (t : Int) : Int := timeInDay t / 3600000
def minuteT (t : Int) : Int := timeInDay t / 60000 % 60
def secondT (t : Int) : Int := timeInDay t / 1000 % 60
def msT (t : Int) : Int := t % 1000
def weekT (t : Int) : Int := (dayOf t + 4) % 7
def tofD (y mo da : Int) : Int := dayFrom (y + mo / 12) + ahead (mo % 12) (isLeap (y + mo / 12)) + da - 1
def tofT (h mi s p : Int) : Int := h * 3600000 + mi * 60000 + s * 1000 + p
def tof (y mo da h mi s p : Int) : Int := tofD y mo da * 86400000 + tofT h mi s p
theorem diy_nonneg (t : Int) : 0 ≤ diy t := by have := yod_le (dayOf t); unfold diy yearT; omega
theorem diy_lt (t : Int) : diy t < ahead 12 (leapT t) := by
  have := lt_yod (dayOf t)
  unfold leapT
  rw [ahead_twelve]
  unfold diy yearT; omega
theorem tofD_of {y mo da : Int} (h0 : 0 ≤ mo) (h1 : mo ≤ 11) : tofD y mo da = dayFrom y + ahead mo (isLeap y) + da - 1 := by
  have e1 : mo / 12 = 0 := by omega
  have e2 : mo % 12 = mo := by omega
  unfold tofD
  rw [e1, e2, Int.add_zero]
/-- a valid date's day shows the date -/
theorem day_fields {y mo da t : Int} (h0 : 0 ≤ mo) (h1 : mo ≤ 11) (h2 : 1 ≤ da) (h3 : da ≤ mlen y mo) (e : dayOf t = dayFrom y + ahead mo (isLeap y) + da - 1) : yearT t = y ∧ monthT t = mo ∧ dateT t = da := by
  have hs := ahead_succ (y := y) h0 h1
  have hnn : 0 ≤ ahead mo (isLeap y) := by
    rcases month_cases h0 h1 with h | h | h | h | h | h | h | h | h | h | h | h <;> subst h <;> cases isLeap y <;> decide
  have hle : ahead (mo + 1) (isLeap y) ≤ ahead 12 (isLeap y) := by
    rcases month_cases h0 h1 with h | h | h | h | h | h | h | h | h | h | h | h <;> subst h <;> cases isLeap y <;> decide
  have h12 := ahead_twelve y
  have ey : yearT t = y := (yod_unique (by omega) (by omega)).symm
  have ed : diy t = ahead mo (isLeap y) + da - 1 := by unfold diy; rw [ey, e]; omega
  have em : monthT t = mo := by
    unfold monthT leapT
    rw [ey, ed]
    exact (monthOf_unique h0 h1 (by omega) (by omega)).symm
  refine ⟨ey, em, ?_⟩
  unfold dateT leapT
  rw [ed, em, ey]; omega
theorem month_range (t : Int) : 0 ≤ monthT t ∧ monthT t ≤ 11 := monthOf_range _ _
theorem date_pos (t : Int) : 1 ≤ dateT t := by have := monthOf_le (l := leapT t) (diy_nonneg t); unfold dateT monthT; omega
theorem date_le (t : Int) : dateT t ≤ mlen (yearT t) (monthT t) := by
  have h := lt_monthOf (diy_lt t)
  have h2 := month_range t
  have h3 := ahead_succ (y := yearT t) h2.1 h2.2
  unfold dateT
  unfold monthT leapT at *
  omega
theorem day_eq (t : Int) : dayOf t = dayFrom (yearT t) + ahead (monthT t) (isLeap (yearT t)) + dateT t - 1 := by
  unfold dateT diy leapT; omega
theorem tof_fields (t : Int) : tof (yearT t) (monthT t) (dateT t) (hourT t) (minuteT t) (secondT t) (msT t) = t := by
  have h2 := month_range t
  unfold tof
  rw [tofD_of h2.1 h2.2, ← day_eq]
  unfold tofT hourT minuteT secondT msT timeInDay dayOf
  omega
theorem clock_fields {t d h mi s p : Int} (e : t = d * 86400000 + tofT h mi s p) (h1 : 0 ≤ h ∧ h < 24) (h2 : 0 ≤ mi ∧ mi < 60) (h3 : 0 ≤ s ∧ s < 60) (h4 : 0 ≤ p ∧ p < 1000) :
    dayOf t = d ∧ hourT t = h ∧ minuteT t = mi ∧ secondT t = s ∧ msT t = p := by
  unfold tofT at e
  unfold hourT minuteT secondT msT timeInDay dayOf
  refine ⟨?_, ?_, ?_, ?_, ?_⟩ <;> omega
theorem clock_ranges (t : Int) : (0 ≤ hourT t ∧ hourT t < 24) ∧ (0 ≤ minuteT t ∧ minuteT t < 60) ∧ (0 ≤ secondT t ∧ secondT t < 60) ∧ (0 ≤ msT t ∧ msT t < 1000) := by
  unfold hourT minuteT secondT msT timeInDay
  omega
theorem clock_eq (t : Int) : t = dayOf t * 86400000 + tofT (hourT t) (minuteT t) (secondT t) (msT t) := by
  unfold tofT hourT minuteT secondT msT timeInDay dayOf
  omega
/-- the law's odometer -/
def inc (size k : Int) : Int := if size = k then 1 else 0
def onP1 (p size : Int) : Int := p + inc size 0
def onS1 (s p size : Int) : Int := s + onP1 p size / 1000 + inc size 1
def onM1 (mi s p size : Int) : Int := mi + onS1 s p size / 60 + inc size 2
def onH1 (h mi s p size : Int) : Int := h + onM1 mi s p size / 60 + inc size 3
def onMore (h mi s p size : Int) : Int := onH1 h mi s p size / 24 + inc size 4
def step (size : Int) : Int := if size = 0 then 1 else if size = 1 then 1000 else if size = 2 then 60000 else if size = 3 then 3600000 else 86400000
theorem on_clock (t size : Int) (h0 : 0 ≤ size) (h1 : size < 5) :
    dayOf (t + step size) = dayOf t + onMore (hourT t) (minuteT t) (secondT t) (msT t) size ∧ (0 ≤ onMore (hourT t) (minuteT t) (secondT t) (msT t) size ∧ onMore (hourT t) (minuteT t) (secondT t) (msT t) size ≤ 1) ∧
    hourT (t + step size) = onH1 (hourT t) (minuteT t) (secondT t) (msT t) size % 24 ∧ minuteT (t + step size) = onM1 (minuteT t) (secondT t) (msT t) size % 60 ∧
    secondT (t + step size) = onS1 (secondT t) (msT t) size % 60 ∧ msT (t + step size) = onP1 (msT t) size % 1000 := by
  have hr := clock_ranges t
  have he := clock_eq t
  generalize hourT t = h at *
  generalize minuteT t = mi at *
  generalize secondT t = s at *
  generalize msT t = p at *
  generalize dayOf t = d at *
  obtain ⟨r1, r2, r3, r4⟩ := hr
  have hs : size = 0 ∨ size = 1 ∨ size = 2 ∨ size = 3 ∨ size = 4 := by omega
  have hc : t + step size = (d + onMore h mi s p size) * 86400000 + tofT (onH1 h mi s p size % 24) (onM1 mi s p size % 60) (onS1 s p size % 60) (onP1 p size % 1000) := by
    subst he
    unfold tofT onMore onH1 onM1 onS1 onP1 
    rcases hs with hs | hs | hs | hs | hs <;> subst hs <;> simp [inc, step] <;> omega
  have hm : 0 ≤ onMore h mi s p size ∧ onMore h mi s p size ≤ 1 := by
    unfold onMore onH1 onM1 onS1 onP1
    rcases hs with hs | hs | hs | hs | hs <;> subst hs <;> simp [inc] <;> omega
  have := clock_fields hc (by omega) (by omega) (by omega) (by omega)
  exact ⟨this.1, hm, this.2⟩
def onD (da more : Int) : Int := da + more
def rollD (y mo d : Int) : Int := if mlen y mo < d then d - mlen y mo else d
def rollM (y mo d : Int) : Int := if mlen y mo < d then mo + 1 else mo
theorem on_date (t t' more : Int) (e : dayOf t' = dayOf t + more) (hm : 0 ≤ more ∧ more ≤ 1) :
    yearT t' = yearT t + rollM (yearT t) (monthT t) (dateT t + more) / 12 ∧ monthT t' = rollM (yearT t) (monthT t) (dateT t + more) % 12 ∧ dateT t' = rollD (yearT t) (monthT t) (dateT t + more) := by
  have a := month_range t
  have b := date_pos t
  have c := date_le t
  have d := day_eq t
  rw [d] at e
  generalize yearT t = y at *
  generalize monthT t = mo at *
  generalize dateT t = da at *
  have l1 := mlen_pos y mo
  unfold rollM rollD
  by_cases h : mlen y mo < da + more
  · rw [if_pos h, if_pos h]
    by_cases h11 : mo = 11
    · subst h11
      have l2 := mlen_pos (y + 1) 0
      have s12 := ahead_twelve y
      have s : ahead 12 (isLeap y) = ahead 11 (isLeap y) + mlen y 11 := ahead_succ (y := y) (m := 11) (by omega) (by omega)
      have := day_fields (y := y + 1) (mo := 0) (da := 1) (t := t') (by omega) (by omega) (by omega) (by omega) (by rw [ahead_zero]; omega)
      refine ⟨?_, ?_, ?_⟩ <;> omega
    · have l2 := mlen_pos y (mo + 1)
      have s := ahead_succ (y := y) (m := mo) (by omega) (by omega)
      have := day_fields (y := y) (mo := mo + 1) (da := 1) (t := t') (by omega) (by omega) (by omega) (by omega) (by omega)
      refine ⟨?_, ?_, ?_⟩ <;> omega
  · rw [if_neg h, if_neg h]
    have := day_fields (y := y) (mo := mo) (da := da + more) (t := t') (by omega) (by omega) (by omega) (by omega) (by omega)
    refine ⟨?_, ?_, ?_⟩ <;> omega
theorem on_week (t t' more : Int) (e : dayOf t' = dayOf t + more) : weekT t' = (weekT t + more) % 7 := by
  unfold weekT; rw [e]; omega
end Mine
namespace Mine
/-! ## rules of the walk -/
abbrev tupO (vs : List Value) (n : Nat) : Obj := { cls := .type "tuple", data := .seq vs.toArray n }
theorem adjust_upto (b n : Nat) (hb : b ≤ n) : Builtin.Slice.sliceAdjust none (some (b : Int)) 1 (n : Int) = ((0 : Int), (b : Int)) := by
  unfold Builtin.Slice.sliceAdjust
  have h1 : ¬ ((1 : Int) < 0) := by omega
  have h2 : ¬ ((b : Int) < 0) := by omega
  simp only [h1, h2, if_false]
  congr 1
  omega
theorem places_upto (b : Nat) : Builtin.Slice.slicePlaces (0 : Int) (b : Int) 1 = b := by
  unfold Builtin.Slice.slicePlaces
  have h1 : (1 : Int) > 0 := by omega
  simp only [h1, if_true, Int.ediv_one]
  split <;> omega
section
variable {prog : Program} {w : World} {A : Around} {E : Value → Shared → Prop} {s : Shared}
theorem sliceApplied_upto {sl : Addr} {b n : Nat} {u : Tok} {Q : Int × Int × Nat → Shared → Prop} (hs : s.heap.IsSliceOf sl .none (.int b u) .none) (hb : b ≤ n) (h : Q ((0 : Int), 1, b) s) :
    wpAny (model prog w) A (Builtin.Slice.sliceApplied (.ref sl) (pure (n : Int))) Q E s := by
  obtain ⟨os, hos, hcs, hds⟩ := id hs
  unfold Builtin.Slice.sliceApplied Builtin.Slice.sliceFields
  refine wpAny_bind (wpAny_bind (wpAny_field hos hds (x := .none) rfl (wpAny_bind (wpAny_field hos hds (x := .int b u) rfl (wpAny_bind (wpAny_field hos hds (x := .none) rfl (wpAny_pure ?_)))))))
  refine wpAny_bind (slicePart_none ?_)
  show wpAny _ _ (if ((1 : Int) == 0) = true then _ else _) _ _ s
  rw [if_neg (by decide)]
  refine wpAny_bind (slicePart_none (wpAny_bind (slicePart_int (wpAny_bind (wpAny_pure ?_)))))
  show wpAny _ _ (match Builtin.Slice.sliceAdjust none (some (b : Int)) 1 (n : Int) with | (lo, hi) => pure (lo, (1 : Int), Builtin.Slice.slicePlaces lo hi 1)) _ _ s
  rw [adjust_upto b n hb]
  show wpAny _ _ (pure ((0 : Int), (1 : Int), Builtin.Slice.slicePlaces (0 : Int) (b : Int) 1)) _ _ s
  rw [places_upto b]
  exact wpAny_pure h
theorem pick_upto (xs : Array Value) (b : Nat) (_hb : b ≤ xs.size) : ((List.range b).filterMap fun (k : Nat) => xs[((0 : Int) + (k : Int) * 1).toNat]?).toArray = (xs.toList.take b).toArray := by
  have e : (fun (k : Nat) => xs[((0 : Int) + (k : Int) * 1).toNat]?) = fun k => xs[0 + k]? := by
    funext k
    have : ((0 : Int) + (k : Int) * 1).toNat = 0 + k := by omega
    rw [this]
  rw [e]
  have := pick_run xs 0 b
  rw [List.filterMap_map] at this
  have e2 : ((fun x => xs[x]?) ∘ fun x => 0 + x) = fun k => xs[0 + k]? := rfl
  rw [e2] at this
  rw [this, List.drop_zero]
theorem getItem_tuple_upto {t sl : Addr} {items : Array Value} {b : Nat} {u : Tok} {Q : Value → Shared → Prop} (ht : IsTup s.heap t items) (hs : s.heap.IsSliceOf sl .none (.int b u) .none) (hb : b < items.size)
    (h : Q (.ref s.heap.objs.size) { s with heap := s.heap.push { cls := .type "tuple", data := .seq (items.toList.take b).toArray } })
    (hsz : items.size ≤ sizeLine := by size_fits) : wpAny (model prog w) A (getItem (.ref t) (.ref sl)) Q E s := by
  have htake : sizeOk (.seq (items.toList.take b).toArray) := by
    show (items.toList.take b).toArray.size ≤ sizeLine
    rw [List.size_toArray, List.length_take, Array.length_toList]
    omega
  obtain ⟨os, hos, hcs, hds⟩ := id hs
  have hTs : s.TypeIs (.ref sl) "slice" := ⟨os, hos, hcs⟩
  unfold getItem
  try with_reducible refine wpAny_holding ?_
  first | refine wpAny_bind (wpAny_pure ?_) | skip
  refine wpAny_bind (wpAny_sequenceKey ht.typeIs (by decide) ?_)
  refine wpAny_bind (wpAny_callSpecial?_slot (name := Str.ofString "__getitem__") ht.typeIs slot_tuple_getitem
    (wpAny_call_entry slot_tuple_getitem ht.typeIs entry_tuple_getitem ?_ (args_tuple_getitem _ _)))
  show wpAny _ _ (Builtin.Tuple.tupleItemsOf (.ref t) >>= _) _ _ s
  refine wpAny_bind (tupleItemsOf_ ht ?_)
  refine wpAny_bind (wpAny_typeOf hTs ?_)
  rw [if_pos (by decide)]
  refine wpAny_bind (sliceApplied_upto hs (Nat.le_of_lt hb) ?_)
  have hno : ¬ (((0 : Int) == 0 && (1 : Int) == 1 && b == items.size) = true) := by
    have : (b == items.size) = false := by rw [beq_eq_false_iff_ne]; omega
    rw [this]; simp
  show wpAny _ _ (if ((0 : Int) == 0 && (1 : Int) == 1 && b == items.size) = true then _ else _) _ _ s
  rw [if_neg hno, pick_upto items b (Nat.le_of_lt hb)]
  first
    | exact wpAny_bind (m := Builtin.Tuple.tupleExact _) (wpAny_newObj_type (wpAny_pure ⟨_, rfl, wpAny_pure h⟩) htake)
    | exact wpAny_bind (m := Builtin.Tuple.tupleExact _) (wpAny_newObj_type (wpAny_bind (wpAny_pure (wpAny_pure ⟨_, rfl, wpAny_pure h⟩))) htake)
    | exact wpAny_bind (wpAny_bind (m := Builtin.Tuple.tupleExact _) (wpAny_newObj_type (wpAny_pure (wpAny_pure ⟨_, rfl, wpAny_pure h⟩)) htake))
    | exact wpAny_bind (wpAny_bind (m := Builtin.Tuple.tupleExact _) (wpAny_newObj_type (wpAny_pure ⟨_, rfl, wpAny_pure h⟩) htake))
variable {h₀ : Heap} {L : Addr} {m : Str → Option Value} {news : List (Addr × Obj)}
theorem slice_tuple_upto {value slice : PySem.Expr} {t : Addr} {items : Array Value} {b : Nat} {u : Tok} {Q : Value → Shared → Prop}
    (F : Fr h₀ L s.heap m) (N : News h₀ L s.heap news) (ht : IsTup s.heap t items) (hb : b < items.size)
    (h : ∀ h', Fr h₀ L h' m → News h₀ L h' ((s.heap.objs.size + 1, { cls := .type "tuple", data := .seq (items.toList.take b).toArray }) :: news) → Q (.ref (s.heap.objs.size + 1)) { s with heap := h' })
    (hs : subscripted slice false (.ref t) (.ref s.heap.objs.size) = operate [.ref s.heap.objs.size, .ref t] (getItem (.ref t) (.ref s.heap.objs.size)) := by with_unfolding_all rfl)
    (hg : ∀ r, letTemporaryGo value (.ref t) r = pure () := by intro _; with_unfolding_all rfl)
    (hsz : items.size ≤ sizeLine := by size_fits) :
    wpAny (model prog w) A (subscriptTail value slice (.ref t) (.ref s.heap.objs.size)) Q E { s with heap := s.heap.push { cls := .type "slice", data := .fields #[.none, .int b u, .none] } } := by
  have ht' : IsTup (s.heap.push { cls := .type "slice", data := .fields #[.none, .int b u, .none] }) t items := ht.keeps fun _ _ e => Heap.get?_push_of_some _ e
  refine subscriptTail_ops (s := { s with heap := s.heap.push { cls := .type "slice", data := .fields #[.none, .int b u, .none] } }) ht'.typeIs slot_tuple_getitem.lookup
    (getItem_tuple_upto ht' (Heap.IsSliceOf.new ..) hb ?_ hsz) hs hg
  have N1 := News.push (F.push { cls := .type "slice", data := .fields #[.none, .int b u, .none] }) (N.grown fun _ _ e => Heap.get?_push_of_some _ e) { cls := .type "tuple", data := .seq (items.toList.take b).toArray }
  rw [Heap.size_push] at N1
  show Q (.ref (s.heap.push _).objs.size) _
  rw [Heap.size_push]
  exact h _ ((F.push _).push _) N1
/-- a made tuple's slice from a written place: onto the ledger -/
theorem tup_from {value slice : PySem.Expr} {t : Addr} {vs zs : List Value} {n a : Nat} {k : Int} {u : Tok} {Q : Value → Shared → Prop}
    (F : Fr h₀ L s.heap m) (N : News h₀ L s.heap news) (hm : (t, ({ cls := .type "tuple", data := .seq vs.toArray n } : Obj)) ∈ news) (e : k = (a : Int)) (ez : vs.drop a = zs) (h1 : 1 ≤ a) (ha : a ≤ vs.length)
    (h : ∀ D h', Fr h₀ L h' m → News h₀ L h' ((D, ({ cls := .type "tuple", data := .seq zs.toArray } : Obj)) :: news) → (∀ p ∈ news, p.1 < D) → Q (.ref D) { s with heap := h' })
    (hs : subscripted slice false (.ref t) (.ref s.heap.objs.size) = operate [.ref s.heap.objs.size, .ref t] (getItem (.ref t) (.ref s.heap.objs.size)))
    (hg : ∀ r, letTemporaryGo value (.ref t) r = pure ())
    (hsz : vs.length ≤ sizeLine) :
    wpAny (model prog w) A (subscriptTail value slice (.ref t) (.ref s.heap.objs.size)) Q E { s with heap := s.heap.push { cls := .type "slice", data := .fields #[.int k u, .none, .none] } } := by
  subst e ez
  exact slice_tuple_from F N (N.isTup hm) h1 (by simpa using ha) (fun h' F' N' => h _ h' F' (by simpa using N') fun p hp => Nat.lt_succ_of_lt (Heap.lt_size (N p hp).1)) hs hg (by simpa using hsz)
theorem tup_upto {value slice : PySem.Expr} {t : Addr} {vs zs : List Value} {n b : Nat} {k : Int} {u : Tok} {Q : Value → Shared → Prop}
    (F : Fr h₀ L s.heap m) (N : News h₀ L s.heap news) (hm : (t, ({ cls := .type "tuple", data := .seq vs.toArray n } : Obj)) ∈ news) (e : k = (b : Int)) (ez : vs.take b = zs) (hb : b < vs.length)
    (h : ∀ D h', Fr h₀ L h' m → News h₀ L h' ((D, ({ cls := .type "tuple", data := .seq zs.toArray } : Obj)) :: news) → (∀ p ∈ news, p.1 < D) → Q (.ref D) { s with heap := h' })
    (hs : subscripted slice false (.ref t) (.ref s.heap.objs.size) = operate [.ref s.heap.objs.size, .ref t] (getItem (.ref t) (.ref s.heap.objs.size)))
    (hg : ∀ r, letTemporaryGo value (.ref t) r = pure ())
    (hsz : vs.length ≤ sizeLine) :
    wpAny (model prog w) A (subscriptTail value slice (.ref t) (.ref s.heap.objs.size)) Q E { s with heap := s.heap.push { cls := .type "slice", data := .fields #[.none, .int k u, .none] } } := by
  subst e ez
  exact slice_tuple_upto F N (N.isTup hm) (by simpa using hb) (fun h' F' N' => h _ h' F' (by simpa using N') fun p hp => Nat.lt_succ_of_lt (Heap.lt_size (N p hp).1)) hs hg (by simpa using hsz)
/-- None stands in no made tuple of ints -/
theorem datAll_ints {n₁ : List (Addr × Obj)} {vs : List Value} {ns : List Int} (hi : IntsAre vs ns) : DatAll n₁ vs (ns.map Dat.int) := by
  induction hi with
  | nil => exact .nil
  | cons n t _ ih => exact .cons (.int n t) ih
theorem kqdPs_ints (ns : List Int) : kqdPs (ns.map Dat.int) = ns.map PyData.int := by
  induction ns with
  | nil => rfl
  | cons n r ih => simp only [List.map_cons, kqdPs, kqdP, ih]
theorem reads_tup (N : News h₀ L s.heap news) {t : Addr} {vs : List Value} {ns : List Int} {n : Nat} (hm : (t, tupO vs n) ∈ news) (hi : IntsAre vs ns) : ∃ as, Reads s.heap (.ref t) (.tuple (ns.map PyData.int)) as := by
  obtain ⟨as, r⟩ := kqd_in N 8 (DatIn.tuple (n := n) hm (datAll_ints hi)) (by simp [kqdOk])
  rw [kqdP, kqdPs_ints] at r
  exact ⟨as, r⟩
theorem canLay_ints (ns : List Int) : PyData.canLayAll0 (ns.map PyData.int) = true := by
  induction ns with
  | nil => rfl
  | cons n r ih => simp only [List.map_cons, PyData.canLayAll0, PyData.canLay0, ih, Bool.and_self]
theorem depth_ints (ns : List Int) : PyData.depthAll (ns.map PyData.int) = 0 := by
  induction ns with
  | nil => rfl
  | cons n r ih => simp only [List.map_cons, PyData.depthAll, PyData.depth, ih, Nat.max_self]
theorem none_in {t : Addr} {vs : List Value} {ns : List Int} {n : Nat} {Q : Value → Shared → Prop} (N : News h₀ L s.heap news) (hm : (t, tupO vs n) ∈ news) (hi : IntsAre vs ns) (hu : A.units + 1 < cLine) (h : Q (.bool false) s) :
    wpAny (model prog w) A (compareOp .In .none (.ref t)) Q E s := by
  obtain ⟨as, r⟩ := reads_tup N hm hi
  refine SeqAt.in_tuple_reads r Reads.none (canLay_ints ns) rfl ?_ ?_
  · rw [depth_ints]; simpa using hu
  · have e : ((ns.map PyData.int).any fun y => PyData.eqv y PyData.none) = false := by
      induction ns with
      | nil => rfl
      | cons n r ih => simp [PyData.eqv]
    rw [e]; exact h
theorem eqvAll_ints (ns : List Int) : PyData.eqvAll (ns.map PyData.int) (ns.map PyData.int) = true := by
  induction ns with
  | nil => rfl
  | cons n r ih => simp [PyData.eqvAll, PyData.eqv, ih]
theorem shaped_ints (ns : List Int) : SeqAt.shaped (.tuple (ns.map PyData.int)) = true := by
  unfold SeqAt.shaped
  rw [show PyData.canLay0 (.tuple (ns.map PyData.int)) = true from by rw [PyData.canLay0]; exact canLay_ints ns, Bool.true_and]
  refine decide_eq_true ?_
  rw [PyData.depth, depth_ints]
  decide
theorem ne_tup_same {a b : Addr} {vs ws : List Value} {ns : List Int} {n k : Nat} {Q : Value → Shared → Prop} (N : News h₀ L s.heap news) (ma : (a, tupO vs n) ∈ news) (mb : (b, tupO ws k) ∈ news) (ha : IntsAre vs ns) (hb : IntsAre ws ns)
    (hu : A.units + 64 < cLine) (h : Q (.bool false) s) : wpAny (model prog w) A (compareOp .NotEq (.ref a) (.ref b)) Q E s := by
  obtain ⟨as, ra⟩ := reads_tup N ma ha
  obtain ⟨bs, rb⟩ := reads_tup N mb hb
  refine ne_dataH ra rb (shaped_ints ns) (shaped_ints ns) hu ?_
  have e : PyData.eqv (.tuple (ns.map PyData.int)) (.tuple (ns.map PyData.int)) = true := by
    rw [PyData.eqv]; exact eqvAll_ints ns
  rw [e]; exact h
/-- (1 if x == k else 0) as one term -/
theorem inc_at {a : Addr} {ccd : Value} {cn : Str} {cs : Scope} {sz k : Int} {szk : Tok} {p1 p2 p3 p4 p5 p6 : Pos} {z2 z4 z5 : Nat} {x : Str} {Q : Value → Shared → Prop}
    (F : Fr h₀ L s.heap m) (hv : m x = some (.int sz szk)) (h : ∀ t tk, Q (.int (inc sz k) t) { s with toks := tk })
    (hk : cs.kind = .function) (hl : (envOf cn cs L a ccd).kindOf x = some .local) (hd : (x == ("__debug__" : Str)) = false) :
    wpAny (model prog w) A (eval (.IfExp (.Compare (.Name x p1) [.Eq] [.Constant (.int k) z2 p2] p3) (.Constant (.int 1) z4 p4) (.Constant (.int 0) z5 p5) p6) (envOf cn cs L a ccd)) Q E s := by
  refine IfExp_ ?_
  refine wpAny_isTrue_Compare1 ?_
  refine ld F hv ?_ hk hl hd
  refine wpAny_Constant_int ?_
  refine eq_int ?_
  refine wpAny_truthy_bool ?_
  refine split_ieq ?_ ?_ <;> intro e
  · refine wpAny_Constant_int ?_
    have q := h (s.toks + 1) (s.toks + 1 + 1)
    rw [inc, if_pos e] at q
    exact q
  · refine wpAny_Constant_int ?_
    have q := h (s.toks + 1) (s.toks + 1 + 1)
    rw [inc, if_neg e] at q
    exact q
end
/-- a tuple that shows the fields of t -/
def Shows (t : Int) (o : Obj) : Prop := ∃ t0 t1 t2 t3 t4 t5 t6 t7 : Tok, o = ({ cls := .type "tuple", data := .seq [.int (yearT t) t0, .int (monthT t) t1, .int (dateT t) t2, .int (hourT t) t3, .int (minuteT t) t4, .int (secondT t) t5, .int (msT t) t6, .int (weekT t) t7].toArray } : Obj)
def stepL : List Int := [1, 1000, 60000, 3600000, 86400000]
theorem step_get {k : Int} (h : 0 ≤ k ∧ k < 5) : [1, 1000, 60000, 3600000, (86400000 : Int)].getD k.toNat 0 = step k := by
  have hc : k = 0 ∨ k = 1 ∨ k = 2 ∨ k = 3 ∨ k = 4 := by omega
  rcases hc with h | h | h | h | h <;> subst h <;> rfl
theorem fmod5 (n : Int) : 0 ≤ n.fmod 5 ∧ n.fmod 5 < 5 := by rw [Int.fmod_eq_emod_of_nonneg _ (by decide)]; omega
theorem fmod3 (n : Int) : 0 ≤ 1 + n.fmod 3 ∧ 1 + n.fmod 3 ≤ 100 := by rw [Int.fmod_eq_emod_of_nonneg _ (by decide)]; omega
section
variable {prog : Program} {w : World} {A : Around} {E : Value → Shared → Prop} {s : Shared} {env : Env} {h₀ : Heap} {body : List Stmt} {Q : Flow → Shared → Prop}
theorem ne_self {a : Int} {t u : Tok} {Q : Value → Shared → Prop} (h : Q (.bool false) s) : wpAny (model prog w) A (compareOp .NotEq (.int a t) (.int a u)) Q E s := by
  refine ne_int ?_
  rw [bne_self_eq_false]
  exact h
def TurnEnd (h₀ : Heap) (L : Addr) (x : Str) (m₁ : Str → Option Value) (news : List (Addr × Obj)) (s₁ : Shared) (f : Flow) (s₂ : Shared) : Prop :=
  f = .next ∧ ∃ (t : Int) (tk : Tok) (D : Addr) (o : Obj) (h' : Heap) (tk' : Nat) (m' : Str → Option Value) (junk : List (Addr × Obj)), s₂ = { s₁ with heap := h', toks := tk' } ∧ Fr h₀ L h' m' ∧ News h₀ L h' junk ∧ (D, o) ∈ junk ∧ Shows t o ∧ (∀ p ∈ news, p ∈ junk) ∧ (∀ p ∈ news, p.1 < D) ∧
    m' "shown" = some (.ref D) ∧ m' "time" = some (.int t tk) ∧ ∀ z, z ≠ x → z ≠ "shown" → z ≠ "time" → m' z = m₁ z
def psT (c : Int × Tok × Addr) : List (Str × Value) := [("shown", .ref c.2.2), ("time", .int c.1 c.2.1)]
def FaT (own₀ nl : List (Addr × Obj)) (c : Int × Tok × Addr) : Prop := (∃ o, (c.2.2, o) ∈ nl ∧ Shows c.1 o) ∧ ∀ p ∈ own₀, p.1 ≠ c.2.2
theorem inner_rule {x : Str} {r la D : Addr} {b t : Int} {t₀ u₀ v₀ tk : Tok} {m₀ : Str → Option Value} {news : List (Addr × Obj)} {o ol : Obj} (own₀ : List (Addr × Obj))
    (hh : A.handled = none) (hr : IsRange s.heap r 0 b 1 t₀ u₀ v₀) (hb : 0 ≤ b ∧ b ≤ 100) (F : Fr h₀ env.locals s.heap m₀) (N : News h₀ env.locals s.heap news)
    (h1 : m₀ "shown" = some (.ref D)) (h2 : m₀ "time" = some (.int t tk)) (_h3 : m₀ "sizes" = some (.ref la)) (hD : (D, o) ∈ news) (hS : Shows t o) (hO : ∀ p ∈ own₀, p.1 ≠ D) (hON : ∀ p ∈ own₀, p ∈ news) (hls : (la, ol) ∈ news)
    (turn : ∀ (t : Int) (tk : Tok) (D : Addr) (t0 t1 t2 t3 t4 t5 t6 t7 : Tok) (news' : List (Addr × Obj)) (k : Int) (kt : Tok) (h : Heap) (tk' : Nat),
      (la, ol) ∈ news' → Fr h₀ env.locals h (fun y => if y = x then some (.int k kt) else if y = "shown" then some (.ref D) else if y = "time" then some (.int t tk) else m₀ y) →
      News h₀ env.locals h ((D, ({ cls := .type "tuple", data := .seq [.int (yearT t) t0, .int (monthT t) t1, .int (dateT t) t2, .int (hourT t) t3, .int (minuteT t) t4, .int (secondT t) t5, .int (msT t) t6, .int (weekT t) t7].toArray } : Obj)) :: (la, ol) :: news') →
      wpAny (model prog w) A (execs body env) (TurnEnd h₀ env.locals x m₀ news' { s with heap := h, toks := tk' }) E { s with heap := h, toks := tk' })
    (done : ∀ (t : Int) (tk : Tok) (D : Addr) (o : Obj) (news' : List (Addr × Obj)) (u : Str → Option Value) (h : Heap) (tk' : Nat), (D, o) ∈ news' → Shows t o → (∀ p ∈ own₀, p.1 ≠ D) → (∀ p ∈ news, p ∈ news') →
      Fr h₀ env.locals h (fun y => if y = x then u y else if y = "shown" then some (.ref D) else if y = "time" then some (.int t tk) else m₀ y) → News h₀ env.locals h news' → Q .next { s with heap := h, toks := tk' }) :
    wpAny (model prog w) A (pyIter (.ref r)) (fun it s₂ => LoopAtV prog w A h₀ env x body Q E it s₂) E s := by
  refine kd_range (σ := Int × Tok × Addr) (n := (b - 0).toNat) (fun _ => []) news psT (FaT own₀) [] (fun _ _ => True) (news.map (·.1)) (t, tk, D) hh hr (small_one (by omega) (by omega) (by omega) (by omega)) (rangeSize_nat _ _) F N
    (fun p hp => by simpa using hp) (fun c => rfl) ⟨⟨o, by simpa using hD, hS⟩, hO⟩ ?_ trivial ?_ ?_
  · intro p hp
    rcases List.mem_cons.mp hp with rfl | hp
    · exact h1
    · rw [List.mem_singleton.mp hp]; exact h2
  · rintro ⟨t1, tk1, D1⟩ tl pre k kt u h tk' own hk hlt hsep hoff ⟨⟨o1, hD1, hS1⟩, hO1⟩ _ F₁ N₁
    obtain ⟨a0, a1, a2, a3, a4, a5, a6, a7, e1⟩ := hS1
    have hD1' : (D1, o1) ∈ news ++ tl := hD1
    have hsub : ∀ p ∈ news ++ tl, p ∈ ([] ++ (news ++ (tl ++ own)) : List (Addr × Obj)) := by
      intro p hp
      simp only [List.nil_append, List.mem_append] at hp ⊢
      rcases hp with hp | hp
      · exact .inl hp
      · exact .inr (.inl hp)
    have hla : (la, ol) ∈ ([] ++ (news ++ (tl ++ own)) : List (Addr × Obj)) := hsub _ (List.mem_append.mpr (.inl hls))
    have F₂ : Fr h₀ env.locals h (fun y => if y = x then some (.int k kt) else if y = "shown" then some (.ref D1) else if y = "time" then some (.int t1 tk1) else m₀ y) := F₁
    have N₂ : News h₀ env.locals h ((D1, o1) :: (la, ol) :: ([] ++ (news ++ (tl ++ own)))) := by
      intro p hp
      rcases List.mem_cons.mp hp with rfl | hp
      · exact N₁ _ (hsub _ hD1')
      · rcases List.mem_cons.mp hp with rfl | hp
        · exact N₁ _ hla
        · exact N₁ _ hp
    rw [e1] at N₂
    refine wpAny_mono (turn t1 tk1 D1 a0 a1 a2 a3 a4 a5 a6 a7 _ k kt h tk' hla F₂ N₂) (fun f s₂ q => ?_) fun _ _ z => z
    obtain ⟨rfl, t2, tk2, D2, o2, h', tk'', m', junk, rfl, F', N', hm2, hS2, hin, hlt2, g1, g2, g3⟩ := q
    refine kd_end (σ := Int × Tok × Addr) (tl := tl) (add := [(D2, o2)]) (t2, tk2, D2) hsep F' N' ?_ ?_ rfl ?_ ?_ ?_ ?_ ?_ trivial
    · intro p hp
      simp only [List.nil_append, List.mem_append, List.mem_cons, List.not_mem_nil, or_false] at hp
      rcases hp with hp | rfl | hp
      · exact hin p (by simp only [List.nil_append, List.mem_append]; exact .inl hp)
      · exact hm2
      · exact hin p (by simp only [List.nil_append, List.mem_append]; exact .inr (.inl hp))
    · intro p hp
      exact hin p (by simp only [List.nil_append, List.mem_append]; exact .inr (.inr hp))
    · intro q hq b hb'
      rw [List.mem_singleton.mp hq]
      obtain ⟨p, hp, rfl⟩ := List.mem_map.mp hb'
      exact Nat.ne_of_lt (hlt2 p (by simp only [List.nil_append, List.mem_append]; exact .inl hp))
    · intro q hq p hp
      rw [List.mem_singleton.mp hq]
      exact Nat.ne_of_lt (hlt2 p (by simp only [List.nil_append, List.mem_append]; exact .inr (.inr hp)))
    · intro p hp
      rcases List.mem_cons.mp hp with rfl | hp
      · exact g1
      · rw [List.mem_singleton.mp hp]; exact g2
    · intro z hz hps _
      refine g3 z hz (hps ("shown", .ref D2) (.head _)) (hps ("time", .int t2 tk2) (.tail _ (.head _)))
    · refine ⟨⟨o2, by simp, hS2⟩, fun p hp => ?_⟩
      exact Nat.ne_of_lt (hlt2 p (by simp only [List.nil_append, List.mem_append]; exact .inl (hON p hp)))
  · rintro ⟨t1, tk1, D1⟩ tl u h tk' hoff ⟨⟨o1, hD1, hS1⟩, hO1⟩ _ F₁ N₁
    exact done t1 tk1 D1 o1 (news ++ tl) u h tk' hD1 hS1 hO1 (fun p hp => List.mem_append.mpr (.inl hp)) F₁ N₁
def OutEnd (h₀ : Heap) (L : Addr) (x : Str) (m₁ : Str → Option Value) (own news : List (Addr × Obj)) (s₁ : Shared) (f : Flow) (s₂ : Shared) : Prop :=
  f = .next ∧ ∃ (t : Int) (tk : Tok) (D : Addr) (o : Obj) (h' : Heap) (tk' : Nat) (m' : Str → Option Value) (junk : List (Addr × Obj)), s₂ = { s₁ with heap := h', toks := tk' } ∧ Fr h₀ L h' m' ∧ News h₀ L h' junk ∧ (D, o) ∈ junk ∧ Shows t o ∧ (∀ p ∈ own, p.1 ≠ D) ∧ (∀ p ∈ news, p ∈ junk) ∧
    m' "shown" = some (.ref D) ∧ m' "time" = some (.int t tk) ∧ ∀ z, z ≠ x → z ≠ "shown" → z ≠ "time" → z ≠ "size" → z ≠ "turn" → m' z = m₁ z
def JT (x : Str) (m₀ : Str → Option Value) (e : Addr × Obj) (m : Str → Option Value) (nx : List (Addr × Obj)) : Prop :=
  ∃ (t : Int) (tk : Tok) (D : Addr) (o : Obj), (D, o) ∈ nx ∧ Shows t o ∧ e ∈ nx ∧ m "shown" = some (.ref D) ∧ m "time" = some (.int t tk) ∧ ∀ z, z ≠ x → z ≠ "shown" → z ≠ "time" → z ≠ "size" → z ≠ "turn" → m z = m₀ z
theorem outer_rule {x : Str} {l la D : Addr} {vs : List Value} {ns : List Int} {nn : Nat} {t : Int} {tk : Tok} {m₀ : Str → Option Value} {news : List (Addr × Obj)} {o ol : Obj}
    (hh : A.handled = none) (hl : (l, listOf vs.toArray nn) ∈ news) (hi : IntsAre vs ns) (F : Fr h₀ env.locals s.heap m₀) (N : News h₀ env.locals s.heap news)
    (h1 : m₀ "shown" = some (.ref D)) (h2 : m₀ "time" = some (.int t tk)) (_h3 : m₀ "sizes" = some (.ref la)) (hD : (D, o) ∈ news) (hS : Shows t o) (hls : (la, ol) ∈ news)
    (turn : ∀ (t : Int) (tk : Tok) (D : Addr) (o : Obj) (news' own : List (Addr × Obj)) (n : Int) (nt : Tok) (u : Str → Option Value) (h : Heap) (tk' : Nat),
      (D, o) ∈ news' → Shows t o → (la, ol) ∈ news' → (∀ p ∈ own, p.1 ≠ D) → (∀ p ∈ own, p ∈ news') →
      Fr h₀ env.locals h (fun y => if y = x then some (.int n nt) else if y = "shown" then some (.ref D) else if y = "time" then some (.int t tk) else if y = "size" then u y else if y = "turn" then u y else m₀ y) → News h₀ env.locals h news' →
      wpAny (model prog w) A (execs body env) (OutEnd h₀ env.locals x m₀ own news' { s with heap := h, toks := tk' }) E { s with heap := h, toks := tk' })
    (done : ∀ (m' : Str → Option Value) (news' : List (Addr × Obj)) (h : Heap) (tk' : Nat), Fr h₀ env.locals h m' → News h₀ env.locals h news' → Q .next { s with heap := h, toks := tk' }) :
    wpAny (model prog w) A (pyIter (.ref l)) (fun it s₂ => LoopAtV prog w A h₀ env x body Q E it s₂) E s := by
  refine kdl_iter (fun _ m nx => JT x m₀ (la, ol) m nx) hh hl F N ⟨t, tk, D, o, hD, hS, hls, h1, h2, fun _ _ _ _ _ _ => rfl⟩ ?_ ?_
  · rintro i v m₁ news₁ h tk' own hv hoff hl₁ ⟨t1, tk1, D1, o1, hD1, hS1, hla, g1, g2, g3⟩ F₁ N₁
    have hi' : i < ns.length := by rw [← hi.length]; exact (List.getElem?_eq_some_iff.mp hv).1
    obtain ⟨nt, hx⟩ := hi.get i (ns[i]'hi') (List.getElem?_eq_getElem hi')
    have ev : v = .int (ns[i]'hi') nt := by rw [hx] at hv; exact (Option.some.inj hv).symm
    subst ev
    have em : (fun y => if y = x then some (Value.int (ns[i]'hi') nt) else m₁ y) = (fun y => if y = x then some (.int (ns[i]'hi') nt) else if y = "shown" then some (.ref D1) else if y = "time" then some (.int t1 tk1) else if y = "size" then m₁ y else if y = "turn" then m₁ y else m₀ y) := by
      funext y
      by_cases e1 : y = x
      · simp only [e1, if_true]
      · by_cases e2 : y = "shown"
        · subst e2; simp only [e1, if_false, if_true, g1]
        · by_cases e3 : y = "time"
          · subst e3; simp only [e1, e2, if_false, if_true, g2]
          · by_cases e4 : y = "size"
            · subst e4; simp only [e1, e2, e3, if_false, if_true]
            · by_cases e5 : y = "turn"
              · subst e5; simp only [e1, e2, e3, e4, if_false, if_true]
              · simp only [e1, e2, e3, e4, e5, if_false]
                exact g3 y e1 e2 e3 e4 e5
    rw [em] at F₁
    have N₂ : News h₀ env.locals h (news₁ ++ own) := N₁
    refine wpAny_mono (turn t1 tk1 D1 o1 (news₁ ++ own) own (ns[i]'hi') nt m₁ h tk' (List.mem_append.mpr (.inl hD1)) hS1 (List.mem_append.mpr (.inl hla))
      (fun p hp => hoff p hp D1 (List.mem_map.mpr ⟨_, hD1, rfl⟩)) (fun p hp => List.mem_append.mpr (.inr hp)) F₁ N₂) (fun f s₂ q => ?_) fun _ _ z => z
    obtain ⟨rfl, t2, tk2, D2, o2, h', tk'', m', junk, rfl, F', N', hm2, hS2, hO2, hin, k1, k2, k3⟩ := q
    refine InvEndG.intro (nx := (D2, o2) :: news₁) F' N' ⟨.tail _ hl₁, t2, tk2, D2, o2, .head _, hS2, .tail _ hla, k1, k2, k3⟩ ?_ ?_ fun p hp => hin p (List.mem_append.mpr (.inr hp))
    · intro p hp b hb
      rcases List.mem_cons.mp hb with rfl | hb
      · exact hO2 p hp
      · exact hoff p hp b hb
    · intro p hp
      rcases List.mem_cons.mp hp with rfl | hp
      · exact hm2
      · exact hin p (List.mem_append.mpr (.inl hp))
  · rintro m₁ news₁ h tk' _ F₁ N₁
    exact done m₁ news₁ h tk' F₁ N₁
theorem lt_use {l : List (Addr × Obj)} {D : Addr} {p : Addr × Obj} (h : ∀ p ∈ l, p.1 < D) (hp : p ∈ l) : p.1 < D := h p hp
theorem ints8 {x0 x1 x2 x3 x4 x5 x6 x7 : Int} {t0 t1 t2 t3 t4 t5 t6 t7 : Tok} : IntsAre [.int x0 t0, .int x1 t1, .int x2 t2, .int x3 t3, .int x4 t4, .int x5 t5, .int x6 t6, .int x7 t7] [x0, x1, x2, x3, x4, x5, x6, x7] := .cons _ _ (.cons _ _ (.cons _ _ (.cons _ _ (.cons _ _ (.cons _ _ (.cons _ _ (.cons _ _ .nil)))))))
theorem shows_of {y mo da h mi sc p wk t : Int} {t0 t1 t2 t3 t4 t5 t6 t7 : Tok} (e : yearT t = y ∧ monthT t = mo ∧ dateT t = da ∧ hourT t = h ∧ minuteT t = mi ∧ secondT t = sc ∧ msT t = p ∧ weekT t = wk) :
    Shows t ({ cls := .type "tuple", data := .seq [.int y t0, .int mo t1, .int da t2, .int h t3, .int mi t4, .int sc t5, .int p t6, .int wk t7].toArray } : Obj) := by
  obtain ⟨rfl, rfl, rfl, rfl, rfl, rfl, rfl, rfl⟩ := e
  exact ⟨t0, t1, t2, t3, t4, t5, t6, t7, rfl⟩
end
end Mine
namespace Mine
/-! ## the head of the law -/
open_top hd for PySem.Challenge.rw_sz0074_01
/-! ## what each function answers -/
theorem flat : True := by
  w_top off
  trivial
abbrev RetT := Heap → Addr → (Str → Option Value) → List (Addr × Obj) → Shared → (Value → Shared → Prop) → Prop
abbrev RetI (x : Int) : RetT := fun h₀ L m news s Q => ∀ (t : Tok) (h' : Heap) (tk' : Nat), Fr h₀ L h' m → News h₀ L h' news → Q (.int x t) { s with heap := h', toks := tk' }
abbrev RetB (x : Bool) : RetT := fun h₀ L m news s Q => ∀ (_ : Tok) (h' : Heap) (tk' : Nat), Fr h₀ L h' m → News h₀ L h' news → Q (.bool x) { s with heap := h', toks := tk' }
abbrev Cl (w : World) (k : Nat) (f : Addr) (vs : List Value) (news : List (Addr × Obj)) (Ret : RetT) : Prop :=
  ∀ (mean : ExcName → Option Value) (mg mb : Str → Option Value) (dp un : Nat) (gd : Option (List Code)) (cn : Str) (cs : Scope) (a : Addr) (ccd : Value) (cl : List (Str × Addr)) (outer : List Env) (A₀ : Around) (base h₀ : Heap) (L : Addr) (m : Str → Option Value) (s : Shared) (Q E : Value → Shared → Prop),
    Below A₀ base outer h₀ → Fr h₀ L s.heap m → (hd.heap_39 w.params).In h₀ → News h₀ L s.heap news → Top hd.view_39 (looseW hd.view_39 [Str.ofString "AHEAD"]) mean mg mb h₀ → cs.kind = .function →
    dp + k < recursionLimit → un + 20 * k < cLine → Ret h₀ L m news s Q →
      wpAny (model PySem.Challenge.rw_sz0074_01.row.prog w) (ktrTop dp un gd cn cs L a ccd cl outer) (call (.ref f) vs) Q E s
theorem cl_use {w : World} {k : Nat} {f : Addr} {vs : List Value} {news : List (Addr × Obj)} {Ret : RetT} {mean : ExcName → Option Value} {mg mb : Str → Option Value} {dp un : Nat} {gd : Option (List Code)} {cn : Str} {cs : Scope} {a : Addr} {ccd : Value} {cl : List (Str × Addr)} {outer : List Env} {A₀ : Around} {base h₀ : Heap} {L : Addr} {m : Str → Option Value} {s : Shared} {Q E : Value → Shared → Prop}
    (C : Cl w k f vs news Ret) (B : Below A₀ base outer h₀) (F : Fr h₀ L s.heap m) (X : (hd.heap_39 w.params).In h₀) (N : News h₀ L s.heap news) (T : Top hd.view_39 (looseW hd.view_39 [Str.ofString "AHEAD"]) mean mg mb h₀) (hk : cs.kind = .function)
    (hd : dp + k < recursionLimit) (hu : un + 20 * k < cLine) (hret : Ret h₀ L m news s Q) :
    wpAny (model PySem.Challenge.rw_sz0074_01.row.prog w) (ktrTop dp un gd cn cs L a ccd cl outer) (call (.ref f) vs) Q E s :=
  C mean mg mb dp un gd cn cs a ccd cl outer A₀ base h₀ L m s Q E B F X N T hk hd hu hret
local macro_rules | `(tactic| walk_at "compareOp In none ref") => `(tactic| (k_here; (with_reducible show wpAny _ _ (compareOp CmpOp.In Value.none (Value.ref _)) _ _ _); k_dflt (refine' none_in ?N ?m ?i ?u ?_; (case N => k_asm); (case m => k_mem); (case i => l_ints); (case u => ktr_units); k_whole)))
local macro_rules | `(tactic| walk_at "ite") => `(tactic| first | with_reducible refine ite_tt ?_ | with_reducible refine ite_ff ?_)
abbrev Ret7 (x0 x1 x2 x3 x4 x5 x6 : Int) : RetT := fun h₀ L m news s Q => ∀ (t0 t1 t2 t3 t4 t5 t6 : Tok) (D : Addr) (h' : Heap) (tk' : Nat), Fr h₀ L h' m → News h₀ L h' ((D, ({ cls := .type "tuple", data := .seq [.int x0 t0, .int x1 t1, .int x2 t2, .int x3 t3, .int x4 t4, .int x5 t5, .int x6 t6].toArray } : Obj)) :: news) → (∀ p ∈ news, p.1 < D) → Q (.ref D) { s with heap := h', toks := tk' }
abbrev Ret8 (x0 x1 x2 x3 x4 x5 x6 x7 : Int) : RetT := fun h₀ L m news s Q => ∀ (t0 t1 t2 t3 t4 t5 t6 t7 : Tok) (D : Addr) (h' : Heap) (tk' : Nat), Fr h₀ L h' m → News h₀ L h' ((D, ({ cls := .type "tuple", data := .seq [.int x0 t0, .int x1 t1, .int x2 t2, .int x3 t3, .int x4 t4, .int x5 t5, .int x6 t6, .int x7 t7].toArray } : Obj)) :: news) → (∀ p ∈ news, p.1 < D) → Q (.ref D) { s with heap := h', toks := tk' }
theorem mem_head {α : Type} {a : α} {l : List α} : a ∈ a :: l := List.Mem.head _
theorem mem_tail {α : Type} {a b : α} {l : List α} (h : a ∈ l) : a ∈ b :: l := List.Mem.tail _ h
theorem news_mem {h₀ h : Heap} {L : Addr} {news : List (Addr × Obj)} {e : Addr × Obj} (N : News h₀ L h news) (he : e ∈ news) : News h₀ L h (e :: news) := fun p hp => N p ((List.mem_cons.mp hp).elim (fun q => q ▸ he) id)
theorem cl_memI {w : World} {k : Nat} {f : Addr} {vs : List Value} {news : List (Addr × Obj)} {e : Addr × Obj} {x : Int} (C : Cl w k f vs (e :: news) (RetI x)) (he : e ∈ news) : Cl w k f vs news (RetI x) := by
  intro mean mg mb dp un gd cn cs a ccd cl outer A₀ base h₀ L m s Q E B F X N T hk hd hu hret
  exact C mean mg mb dp un gd cn cs a ccd cl outer A₀ base h₀ L m s Q E B F X (news_mem N he) T hk hd hu fun t h' tk' F' N' => hret t h' tk' F' fun p hp => N' p (.tail _ hp)
theorem cl_mem8 {w : World} {k : Nat} {f : Addr} {vs : List Value} {news : List (Addr × Obj)} {e : Addr × Obj} {x0 x1 x2 x3 x4 x5 x6 x7 : Int} (C : Cl w k f vs (e :: news) (Ret8 x0 x1 x2 x3 x4 x5 x6 x7)) (he : e ∈ news) : Cl w k f vs news (Ret8 x0 x1 x2 x3 x4 x5 x6 x7) := by
  intro mean mg mb dp un gd cn cs a ccd cl outer A₀ base h₀ L m s Q E B F X N T hk hd hu hret
  refine C mean mg mb dp un gd cn cs a ccd cl outer A₀ base h₀ L m s Q E B F X (news_mem N he) T hk hd hu fun t0 t1 t2 t3 t4 t5 t6 t7 D h' tk' F' N' l => hret t0 t1 t2 t3 t4 t5 t6 t7 D h' tk' F' (fun p hp => ?_) fun p hp => l p (.tail _ hp)
  rcases List.mem_cons.mp hp with q | q
  · exact N' p (q ▸ .head _)
  · exact N' p (.tail _ (.tail _ q))
theorem c_day_of (w : World) (t : Int) (tk : Tok) (news : List (Addr × Obj)) : Cl w 1 22 [.int t tk] news (RetI (dayOf t)) := by
  unfold Cl
  k_fill
  intro mean mg mb dp un gd cn cs a ccd cl outer A₀ base h₀ L m s Q E B F X N T hk hd hu hret
  refine wpAny_call ?_
  k_dflt cell_enter
  k_steps
  all_goals (refine cb_retI hret ?_ (by k_asm) (by first | k_asm | exact cb_drop (by assumption) (by kcj_all)))
  all_goals (simp (disch := decide) only [Int.fdiv_eq_ediv_of_nonneg, Int.fmod_eq_emod_of_nonneg]; rfl)
local macro_rules | `(tactic| walk_at "call ref") => `(tactic| (k_here; k_dflt (refine' cl_use (c_day_of _ _ _ _) ?k1 ?k2 ?k3 ?k4 ?k5 ?kK ?kd ?ku ?_; (case k1 => k_asm); (case k2 => k_asm); (case k3 => k_asm); (case k4 => k_asm); (case k5 => k_asm); (case kK => first | exact rfl | assumption); (case kd => first | ktr_room | fail "room"); (case ku => first | ktr_units | fail "units"); k_whole); intro t9 h9 tk9 F9 N9; (try k_sweep); (try dsimp only); (try k_fold)))
theorem c_time_in_day (w : World) (t : Int) (tk : Tok) (news : List (Addr × Obj)) : Cl w 1 29 [.int t tk] news (RetI (timeInDay t)) := by
  unfold Cl
  k_fill
  intro mean mg mb dp un gd cn cs a ccd cl outer A₀ base h₀ L m s Q E B F X N T hk hd hu hret
  refine wpAny_call ?_
  k_dflt cell_enter
  k_steps
  all_goals (refine cb_retI hret ?_ (by k_asm) (by first | k_asm | exact cb_drop (by assumption) (by kcj_all)))
  all_goals (simp (disch := decide) only [Int.fdiv_eq_ediv_of_nonneg, Int.fmod_eq_emod_of_nonneg]; rfl)
local macro_rules | `(tactic| walk_at "call ref") => `(tactic| (k_here; k_dflt (refine' cl_use (c_time_in_day _ _ _ _) ?k1 ?k2 ?k3 ?k4 ?k5 ?kK ?kd ?ku ?_; (case k1 => k_asm); (case k2 => k_asm); (case k3 => k_asm); (case k4 => k_asm); (case k5 => k_asm); (case kK => first | exact rfl | assumption); (case kd => first | ktr_room | fail "room"); (case ku => first | ktr_units | fail "units"); k_whole); intro t9 h9 tk9 F9 N9; (try k_sweep); (try dsimp only); (try k_fold)))
theorem c_is_leap (w : World) (y : Int) (yk : Tok) (news : List (Addr × Obj)) : Cl w 1 36 [.int y yk] news (RetB (isLeap y)) := by
  unfold Cl
  k_fill
  intro mean mg mb dp un gd cn cs a ccd cl outer A₀ base h₀ L m s Q E B F X N T hk hd hu hret
  refine wpAny_call ?_
  k_dflt cell_enter
  k_steps
  all_goals (refine cb_retB hret ?_ (by k_asm) (by first | k_asm | exact cb_drop (by assumption) (by kcj_all)))
  all_goals ((simp (disch := decide) only [Int.fdiv_eq_ediv_of_nonneg, Int.fmod_eq_emod_of_nonneg] at *); simp_all [isLeap])
local macro_rules | `(tactic| walk_at "call ref") => `(tactic| (k_here; k_dflt (refine' cl_use (c_is_leap _ _ _ _) ?k1 ?k2 ?k3 ?k4 ?k5 ?kK ?kd ?ku ?_; (case k1 => k_asm); (case k2 => k_asm); (case k3 => k_asm); (case k4 => k_asm); (case k5 => k_asm); (case kK => first | exact rfl | assumption); (case kd => first | ktr_room | fail "room"); (case ku => first | ktr_units | fail "units"); k_whole); intro t9 h9 tk9 F9 N9; (try k_sweep); (try dsimp only); (try k_fold)))
theorem c_day_from (w : World) (y : Int) (yk : Tok) (news : List (Addr × Obj)) : Cl w 1 43 [.int y yk] news (RetI (dayFrom y)) := by
  unfold Cl
  k_fill
  intro mean mg mb dp un gd cn cs a ccd cl outer A₀ base h₀ L m s Q E B F X N T hk hd hu hret
  refine wpAny_call ?_
  k_dflt cell_enter
  k_steps
  all_goals (refine cb_retI hret ?_ (by k_asm) (by first | k_asm | exact cb_drop (by assumption) (by kcj_all)))
  all_goals (simp (disch := decide) only [Int.fdiv_eq_ediv_of_nonneg, Int.fmod_eq_emod_of_nonneg]; rfl)
local macro_rules | `(tactic| walk_at "call ref") => `(tactic| (k_here; k_dflt (refine' cl_use (c_day_from _ _ _ _) ?k1 ?k2 ?k3 ?k4 ?k5 ?kK ?kd ?ku ?_; (case k1 => k_asm); (case k2 => k_asm); (case k3 => k_asm); (case k4 => k_asm); (case k5 => k_asm); (case kK => first | exact rfl | assumption); (case kd => first | ktr_room | fail "room"); (case ku => first | ktr_units | fail "units"); k_whole); intro t9 h9 tk9 F9 N9; (try k_sweep); (try dsimp only); (try k_fold)))
theorem meas_down {d y : Int} (h : d < dayFrom y) : (y - 1 - yod d).natAbs < (y - yod d).natAbs := by have := yod_lt_of h; omega
theorem meas_up {d y : Int} (h : dayFrom (y + 1) ≤ d) : (y + 1 - yod d).natAbs < (y - yod d).natAbs := by have := le_yod_of h; omega
theorem c_year_of_day (w : World) (d : Int) (dk : Tok) (news : List (Addr × Obj)) : Cl w 2 50 [.int d dk] news (RetI (yod d)) := by
  unfold Cl
  k_fill
  intro mean mg mb dp un gd cn cs a ccd cl outer A₀ base h₀ L m s Q E B F X N T hk hd hu hret
  k_with_none
  k_with "measure" => first | exact meas_down (by omega) | exact meas_up (by omega)
  k_with "exec While Compare cons nil" => k_while_given ["day", "year!"] (fun d y₀ _ y => dayFrom y₀ ≤ d → dayFrom y ≤ d) (fun d _ _ y => (y - yod d).natAbs) "year"
  refine wpAny_call ?_
  k_dflt cell_enter
  k_steps
  all_goals (refine cb_retI hret ?_ (by k_asm) (by first | k_asm | exact cb_drop (by assumption) (by kcj_all)))
  all_goals (exact yod_unique (by omega) (by omega))
local macro_rules | `(tactic| walk_at "call ref") => `(tactic| (k_here; k_dflt (refine' cl_use (c_year_of_day _ _ _ _) ?k1 ?k2 ?k3 ?k4 ?k5 ?kK ?kd ?ku ?_; (case k1 => k_asm); (case k2 => k_asm); (case k3 => k_asm); (case k4 => k_asm); (case k5 => k_asm); (case kK => first | exact rfl | assumption); (case kd => first | ktr_room | fail "room"); (case ku => first | ktr_units | fail "units"); k_whole); intro t9 h9 tk9 F9 N9; (try k_sweep); (try dsimp only); (try k_fold)))
theorem c_year_of (w : World) (t : Int) (tk : Tok) (news : List (Addr × Obj)) : Cl w 3 57 [.int t tk] news (RetI (yearT t)) := by
  unfold Cl
  k_fill
  intro mean mg mb dp un gd cn cs a ccd cl outer A₀ base h₀ L m s Q E B F X N T hk hd hu hret
  refine wpAny_call ?_
  k_dflt cell_enter
  k_steps
  all_goals (refine cb_retI hret ?_ (by k_asm) (by first | k_asm | exact cb_drop (by assumption) (by kcj_all)))
  all_goals (rfl)
local macro_rules | `(tactic| walk_at "call ref") => `(tactic| (k_here; k_dflt (refine' cl_use (c_year_of _ _ _ _) ?k1 ?k2 ?k3 ?k4 ?k5 ?kK ?kd ?ku ?_; (case k1 => k_asm); (case k2 => k_asm); (case k3 => k_asm); (case k4 => k_asm); (case k5 => k_asm); (case kK => first | exact rfl | assumption); (case kd => first | ktr_room | fail "room"); (case ku => first | ktr_units | fail "units"); k_whole); intro t9 h9 tk9 F9 N9; (try k_sweep); (try dsimp only); (try k_fold)))
theorem c_day_in_year (w : World) (t : Int) (tk : Tok) (news : List (Addr × Obj)) : Cl w 4 64 [.int t tk] news (RetI (diy t)) := by
  unfold Cl
  k_fill
  intro mean mg mb dp un gd cn cs a ccd cl outer A₀ base h₀ L m s Q E B F X N T hk hd hu hret
  refine wpAny_call ?_
  k_dflt cell_enter
  k_steps
  all_goals (refine cb_retI hret ?_ (by k_asm) (by first | k_asm | exact cb_drop (by assumption) (by kcj_all)))
  all_goals (rfl)
local macro_rules | `(tactic| walk_at "call ref") => `(tactic| (k_here; k_dflt (refine' cl_use (c_day_in_year _ _ _ _) ?k1 ?k2 ?k3 ?k4 ?k5 ?kK ?kd ?ku ?_; (case k1 => k_asm); (case k2 => k_asm); (case k3 => k_asm); (case k4 => k_asm); (case k5 => k_asm); (case kK => first | exact rfl | assumption); (case kd => first | ktr_room | fail "room"); (case ku => first | ktr_units | fail "units"); k_whole); intro t9 h9 tk9 F9 N9; (try k_sweep); (try dsimp only); (try k_fold)))
theorem topListAny {prog : Program} {w : World} {A : Around} {E : Value → Shared → Prop} {s : Shared} {K : Frag} {h₀ : Heap} {L a : Addr} {m : Str → Option Value} {n : Nat} {value slice : PySem.Expr} {l : List Value} {ns : List Int} {dd : Option Addr} {sl : Array (Option Value)} {k : Int} {u : Tok} {Q : Value → Shared → Prop} (F : Fr h₀ L s.heap m) (X₀ : K.In h₀)
    (hl : K.lookup a = some ⟨.type "list", dd, .seq l.toArray n, sl⟩) (hi : IntsAre l ns) (h0 : 0 ≤ k) (h1 : k < ns.length) (hfit : k < 2 ^ 63) (h : ∀ t, Q (.int (ns.getD k.toNat 0) t) s)
    (hs : subscripted slice false (.ref a) (.int k u) = operate [.ref a, .int k u] (getItem (.ref a) (.int k u)) := by with_unfolding_all rfl) :
    wpAny (model prog w) A (subscriptTail value slice (.ref a) (.int k u)) Q E s := by
  obtain ⟨t, hx⟩ := hi.get k.toNat _ (ints_getD h0 h1)
  exact topList_K F X₀ hl h0 hfit hx (h t) hs
theorem madeListAny {prog : Program} {w : World} {A : Around} {E : Value → Shared → Prop} {s : Shared} {h₀ : Heap} {L a : Addr} {news : List (Addr × Obj)} {n : Nat} {value slice : PySem.Expr} {l : List Value} {ns : List Int} {k : Int} {u : Tok} {Q : Value → Shared → Prop} (N : News h₀ L s.heap news)
    (hm : (a, listOf l.toArray n) ∈ news) (hi : IntsAre l ns) (h0 : 0 ≤ k) (h1 : k < ns.length) (hfit : k < 2 ^ 63) (h : ∀ t, Q (.int (ns.getD k.toNat 0) t) s)
    (hs : subscripted slice false (.ref a) (.int k u) = operate [.ref a, .int k u] (getItem (.ref a) (.int k u)) := by with_unfolding_all rfl) :
    wpAny (model prog w) A (subscriptTail value slice (.ref a) (.int k u)) Q E s := by
  obtain ⟨t, hx⟩ := hi.get k.toNat _ (ints_getD h0 h1)
  have hL : s.heap.IsList a l.toArray := ⟨_, (N _ hm).1, rfl, n, rfl⟩
  exact tail_any hL.typeIs slot_list_getitem.lookup (wpAny_getItem_list hL h0 hfit (by simpa using hx) (h t)) hs
local macro_rules | `(tactic| walk_at "subscriptTail Name Name ref int") => `(tactic| (k_here; (with_reducible show wpAny _ _ (subscriptTail _ _ (Value.ref _) (Value.int _ _)) _ _ _); (with_unfolding_all first
  | (refine' topListAny ?F ?X ?l ?i ?k3 ?k4 ?k5 ?_; (case F => k_asm); (case X => k_asm); (case l => k_is); (case i => l_ints); (case k3 => omega); (case k4 => (simp only [List.length_cons, List.length_nil]; omega)); (case k5 => omega); k_whole)
  | (refine' madeListAny ?F ?l ?i ?k3 ?k4 ?k5 ?_; (case F => k_asm); (case l => k_mem); (case i => l_ints); (case k3 => omega); (case k4 => (simp only [List.length_cons, List.length_nil]; omega)); (case k5 => omega); k_whole)); intro _))
local macro_rules | `(tactic| walk_at "subscriptTail List Name ref int") => `(tactic| (k_here; (with_reducible show wpAny _ _ (subscriptTail _ _ (Value.ref _) (Value.int _ _)) _ _ _); (with_unfolding_all first
  | (refine' topListAny ?F ?X ?l ?i ?k3 ?k4 ?k5 ?_; (case F => k_asm); (case X => k_asm); (case l => k_is); (case i => l_ints); (case k3 => omega); (case k4 => (simp only [List.length_cons, List.length_nil]; omega)); (case k5 => omega); k_whole)
  | (refine' madeListAny ?F ?l ?i ?k3 ?k4 ?k5 ?_; (case F => k_asm); (case l => k_mem); (case i => l_ints); (case k3 => omega); (case k4 => (simp only [List.length_cons, List.length_nil]; omega)); (case k5 => omega); k_whole)); intro _))
theorem ahead_get {mo : Int} (h : 0 ≤ mo ∧ mo ≤ 12) : [0, 31, 59, 90, 120, 151, 181, 212, 243, 273, 304, 334, (365 : Int)].getD mo.toNat 0 = ahead0 mo := by
  obtain ⟨h0, h1⟩ := h
  have hc : mo = 0 ∨ mo = 1 ∨ mo = 2 ∨ mo = 3 ∨ mo = 4 ∨ mo = 5 ∨ mo = 6 ∨ mo = 7 ∨ mo = 8 ∨ mo = 9 ∨ mo = 10 ∨ mo = 11 ∨ mo = 12 := by omega
  rcases hc with h | h | h | h | h | h | h | h | h | h | h | h | h <;> subst h <;> rfl
theorem ahead_y {mo : Int} {l : Bool} (h : 0 ≤ mo ∧ mo ≤ 12) (h1 : l = true) (h2 : 1 < mo) : [0, 31, 59, 90, 120, 151, 181, 212, 243, 273, 304, 334, (365 : Int)].getD mo.toNat 0 + 1 = ahead mo l := by
  rw [ahead_get h, ahead, if_pos ⟨h1, h2⟩]
theorem ahead_n {mo : Int} {l : Bool} (h : 0 ≤ mo ∧ mo ≤ 12) (h1 : ¬ (l = true ∧ 1 < mo)) : [0, 31, 59, 90, 120, 151, 181, 212, 243, 273, 304, 334, (365 : Int)].getD mo.toNat 0 + 0 = ahead mo l := by
  rw [ahead_get h, ahead, if_neg h1]
theorem fmod12 (mo : Int) : 0 ≤ mo.fmod 12 ∧ mo.fmod 12 ≤ 12 := by
  rw [Int.fmod_eq_emod_of_nonneg _ (by decide)]; omega
theorem month12 (t : Int) : 0 ≤ monthT t ∧ monthT t ≤ 12 := by have := month_range t; omega
theorem c_days_ahead (w : World) (mo : Int) (mok : Tok) (l : Bool) (news : List (Addr × Obj)) (hp : 0 ≤ mo ∧ mo ≤ 12) : Cl w 1 71 [.int mo mok, .bool l] news (RetI (ahead mo l)) := by
  unfold Cl
  k_fill
  intro mean mg mb dp un gd cn cs a ccd cl outer A₀ base h₀ L m s Q E B F X N T hk hd hu hret
  refine wpAny_call ?_
  k_dflt cell_enter
  k_steps
  all_goals (refine cb_retI hret ?_ (by k_asm) (by first | k_asm | exact cb_drop (by assumption) (by kcj_all)))
  all_goals (first | exact ahead_y hp (by first | assumption | simp_all) (by omega) | exact ahead_n hp (by rintro ⟨a1, a2⟩; first | omega | (simp_all; done)))
local macro_rules | `(tactic| walk_at "call ref") => `(tactic| (k_here; k_dflt (refine' cl_use (c_days_ahead _ _ _ _ _ ?kp) ?k1 ?k2 ?k3 ?k4 ?k5 ?kK ?kd ?ku ?_; (case k1 => k_asm); (case k2 => k_asm); (case k3 => k_asm); (case k4 => k_asm); (case k5 => k_asm); (case kK => first | exact rfl | assumption); (case kp => first | assumption | exact fmod12 _ | exact month12 _ | omega | ((try dsimp only); omega)); (case kd => first | ktr_room | fail "room"); (case ku => first | ktr_units | fail "units"); k_whole); intro t9 h9 tk9 F9 N9; (try k_sweep); (try dsimp only); (try k_fold)))
theorem mo_start {p : Int} {l : Bool} (h : 0 ≤ p) : 0 ≤ (0 : Int) ∧ (0 : Int) ≤ 11 ∧ ahead 0 l ≤ p := ⟨by omega, by omega, by rw [ahead_zero]; exact h⟩
theorem mo_turn {p m : Int} {l : Bool} (h12 : p < ahead 12 l) (h : 0 ≤ m) (h11 : m ≤ 11) (h2 : ahead (m + 1) l ≤ p) : 0 ≤ m + 1 ∧ m + 1 ≤ 11 ∧ ahead (m + 1) l ≤ p := by
  refine ⟨by omega, ?_, h2⟩
  by_cases e : m = 11
  · subst e
    have : ahead (11 + 1) l = ahead 12 l := rfl
    omega
  · omega
theorem c_month_of (w : World) (t : Int) (tk : Tok) (news : List (Addr × Obj)) : Cl w 5 78 [.int t tk] news (RetI (monthT t)) := by
  unfold Cl
  k_fill
  intro mean mg mb dp un gd cn cs a ccd cl outer A₀ base h₀ L m s Q E B F X N T hk hd hu hret
  have hd0 : 0 ≤ diy t := diy_nonneg t
  have hd12 : diy t < ahead 12 (isLeap (yearT t)) := diy_lt t
  k_with_none
  k_with "state" => first | exact mo_start (by assumption) | exact mo_turn (by assumption) (by assumption) (by assumption) (by assumption)
  k_with "exec While Compare cons nil" => k_while_given ["past", "is_leap"] (fun p l _ m => 0 ≤ m ∧ m ≤ 11 ∧ ahead m l ≤ p) (fun _ _ _ m => (12 - m).toNat) "month"
  refine wpAny_call ?_
  k_dflt cell_enter
  k_steps
  all_goals (refine cb_retI hret ?_ (by k_asm) (by first | k_asm | exact cb_drop (by assumption) (by kcj_all)))
  all_goals (exact monthOf_unique (by omega) (by omega) (by assumption) (Int.not_le.mp (by assumption)))
local macro_rules | `(tactic| walk_at "call ref") => `(tactic| (k_here; k_dflt (refine' cl_use (c_month_of _ _ _ _) ?k1 ?k2 ?k3 ?k4 ?k5 ?kK ?kd ?ku ?_; (case k1 => k_asm); (case k2 => k_asm); (case k3 => k_asm); (case k4 => k_asm); (case k5 => k_asm); (case kK => first | exact rfl | assumption); (case kd => first | ktr_room | fail "room"); (case ku => first | ktr_units | fail "units"); k_whole); intro t9 h9 tk9 F9 N9; (try k_sweep); (try dsimp only); (try k_fold)))
theorem c_date_of (w : World) (t : Int) (tk : Tok) (news : List (Addr × Obj)) : Cl w 6 85 [.int t tk] news (RetI (dateT t)) := by
  unfold Cl
  k_fill
  intro mean mg mb dp un gd cn cs a ccd cl outer A₀ base h₀ L m s Q E B F X N T hk hd hu hret
  refine wpAny_call ?_
  k_dflt cell_enter
  k_steps
  all_goals (refine cb_retI hret ?_ (by k_asm) (by first | k_asm | exact cb_drop (by assumption) (by kcj_all)))
  all_goals (rfl)
local macro_rules | `(tactic| walk_at "call ref") => `(tactic| (k_here; k_dflt (refine' cl_use (c_date_of _ _ _ _) ?k1 ?k2 ?k3 ?k4 ?k5 ?kK ?kd ?ku ?_; (case k1 => k_asm); (case k2 => k_asm); (case k3 => k_asm); (case k4 => k_asm); (case k5 => k_asm); (case kK => first | exact rfl | assumption); (case kd => first | ktr_room | fail "room"); (case ku => first | ktr_units | fail "units"); k_whole); intro t9 h9 tk9 F9 N9; (try k_sweep); (try dsimp only); (try k_fold)))
theorem c_week_day_of (w : World) (t : Int) (tk : Tok) (news : List (Addr × Obj)) : Cl w 2 92 [.int t tk] news (RetI (weekT t)) := by
  unfold Cl
  k_fill
  intro mean mg mb dp un gd cn cs a ccd cl outer A₀ base h₀ L m s Q E B F X N T hk hd hu hret
  refine wpAny_call ?_
  k_dflt cell_enter
  k_steps
  all_goals (refine cb_retI hret ?_ (by k_asm) (by first | k_asm | exact cb_drop (by assumption) (by kcj_all)))
  all_goals (simp (disch := decide) only [Int.fdiv_eq_ediv_of_nonneg, Int.fmod_eq_emod_of_nonneg]; rfl)
local macro_rules | `(tactic| walk_at "call ref") => `(tactic| (k_here; k_dflt (refine' cl_use (c_week_day_of _ _ _ _) ?k1 ?k2 ?k3 ?k4 ?k5 ?kK ?kd ?ku ?_; (case k1 => k_asm); (case k2 => k_asm); (case k3 => k_asm); (case k4 => k_asm); (case k5 => k_asm); (case kK => first | exact rfl | assumption); (case kd => first | ktr_room | fail "room"); (case ku => first | ktr_units | fail "units"); k_whole); intro t9 h9 tk9 F9 N9; (try k_sweep); (try dsimp only); (try k_fold)))
theorem c_hour_of (w : World) (t : Int) (tk : Tok) (news : List (Addr × Obj)) : Cl w 2 99 [.int t tk] news (RetI (hourT t)) := by
  unfold Cl
  k_fill
  intro mean mg mb dp un gd cn cs a ccd cl outer A₀ base h₀ L m s Q E B F X N T hk hd hu hret
  refine wpAny_call ?_
  k_dflt cell_enter
  k_steps
  all_goals (refine cb_retI hret ?_ (by k_asm) (by first | k_asm | exact cb_drop (by assumption) (by kcj_all)))
  all_goals (simp (disch := decide) only [Int.fdiv_eq_ediv_of_nonneg, Int.fmod_eq_emod_of_nonneg]; rfl)
local macro_rules | `(tactic| walk_at "call ref") => `(tactic| (k_here; k_dflt (refine' cl_use (c_hour_of _ _ _ _) ?k1 ?k2 ?k3 ?k4 ?k5 ?kK ?kd ?ku ?_; (case k1 => k_asm); (case k2 => k_asm); (case k3 => k_asm); (case k4 => k_asm); (case k5 => k_asm); (case kK => first | exact rfl | assumption); (case kd => first | ktr_room | fail "room"); (case ku => first | ktr_units | fail "units"); k_whole); intro t9 h9 tk9 F9 N9; (try k_sweep); (try dsimp only); (try k_fold)))
theorem c_minute_of (w : World) (t : Int) (tk : Tok) (news : List (Addr × Obj)) : Cl w 2 106 [.int t tk] news (RetI (minuteT t)) := by
  unfold Cl
  k_fill
  intro mean mg mb dp un gd cn cs a ccd cl outer A₀ base h₀ L m s Q E B F X N T hk hd hu hret
  refine wpAny_call ?_
  k_dflt cell_enter
  k_steps
  all_goals (refine cb_retI hret ?_ (by k_asm) (by first | k_asm | exact cb_drop (by assumption) (by kcj_all)))
  all_goals (simp (disch := decide) only [Int.fdiv_eq_ediv_of_nonneg, Int.fmod_eq_emod_of_nonneg]; rfl)
local macro_rules | `(tactic| walk_at "call ref") => `(tactic| (k_here; k_dflt (refine' cl_use (c_minute_of _ _ _ _) ?k1 ?k2 ?k3 ?k4 ?k5 ?kK ?kd ?ku ?_; (case k1 => k_asm); (case k2 => k_asm); (case k3 => k_asm); (case k4 => k_asm); (case k5 => k_asm); (case kK => first | exact rfl | assumption); (case kd => first | ktr_room | fail "room"); (case ku => first | ktr_units | fail "units"); k_whole); intro t9 h9 tk9 F9 N9; (try k_sweep); (try dsimp only); (try k_fold)))
theorem c_second_of (w : World) (t : Int) (tk : Tok) (news : List (Addr × Obj)) : Cl w 2 113 [.int t tk] news (RetI (secondT t)) := by
  unfold Cl
  k_fill
  intro mean mg mb dp un gd cn cs a ccd cl outer A₀ base h₀ L m s Q E B F X N T hk hd hu hret
  refine wpAny_call ?_
  k_dflt cell_enter
  k_steps
  all_goals (refine cb_retI hret ?_ (by k_asm) (by first | k_asm | exact cb_drop (by assumption) (by kcj_all)))
  all_goals (simp (disch := decide) only [Int.fdiv_eq_ediv_of_nonneg, Int.fmod_eq_emod_of_nonneg]; rfl)
local macro_rules | `(tactic| walk_at "call ref") => `(tactic| (k_here; k_dflt (refine' cl_use (c_second_of _ _ _ _) ?k1 ?k2 ?k3 ?k4 ?k5 ?kK ?kd ?ku ?_; (case k1 => k_asm); (case k2 => k_asm); (case k3 => k_asm); (case k4 => k_asm); (case k5 => k_asm); (case kK => first | exact rfl | assumption); (case kd => first | ktr_room | fail "room"); (case ku => first | ktr_units | fail "units"); k_whole); intro t9 h9 tk9 F9 N9; (try k_sweep); (try dsimp only); (try k_fold)))
theorem c_ms_of (w : World) (t : Int) (tk : Tok) (news : List (Addr × Obj)) : Cl w 1 120 [.int t tk] news (RetI (msT t)) := by
  unfold Cl
  k_fill
  intro mean mg mb dp un gd cn cs a ccd cl outer A₀ base h₀ L m s Q E B F X N T hk hd hu hret
  refine wpAny_call ?_
  k_dflt cell_enter
  k_steps
  all_goals (refine cb_retI hret ?_ (by k_asm) (by first | k_asm | exact cb_drop (by assumption) (by kcj_all)))
  all_goals (simp (disch := decide) only [Int.fdiv_eq_ediv_of_nonneg, Int.fmod_eq_emod_of_nonneg]; rfl)
local macro_rules | `(tactic| walk_at "call ref") => `(tactic| (k_here; k_dflt (refine' cl_use (c_ms_of _ _ _ _) ?k1 ?k2 ?k3 ?k4 ?k5 ?kK ?kd ?ku ?_; (case k1 => k_asm); (case k2 => k_asm); (case k3 => k_asm); (case k4 => k_asm); (case k5 => k_asm); (case kK => first | exact rfl | assumption); (case kd => first | ktr_room | fail "room"); (case ku => first | ktr_units | fail "units"); k_whole); intro t9 h9 tk9 F9 N9; (try k_sweep); (try dsimp only); (try k_fold)))
theorem c_make_time (w : World) (h : Int) (hk : Tok) (mi : Int) (mik : Tok) (sc : Int) (sck : Tok) (p : Int) (pk : Tok) (news : List (Addr × Obj)) : Cl w 1 134 [.int h hk, .int mi mik, .int sc sck, .int p pk] news (RetI (tofT h mi sc p)) := by
  unfold Cl
  k_fill
  intro mean mg mb dp un gd cn cs a ccd cl outer A₀ base h₀ L m s Q E B F X N T hk hd hu hret
  refine wpAny_call ?_
  k_dflt cell_enter
  k_steps
  all_goals (refine cb_retI hret ?_ (by k_asm) (by first | k_asm | exact cb_drop (by assumption) (by kcj_all)))
  all_goals (rfl)
local macro_rules | `(tactic| walk_at "call ref") => `(tactic| (k_here; k_dflt (refine' cl_use (c_make_time _ _ _ _ _ _ _ _ _ _) ?k1 ?k2 ?k3 ?k4 ?k5 ?kK ?kd ?ku ?_; (case k1 => k_asm); (case k2 => k_asm); (case k3 => k_asm); (case k4 => k_asm); (case k5 => k_asm); (case kK => first | exact rfl | assumption); (case kd => first | ktr_room | fail "room"); (case ku => first | ktr_units | fail "units"); k_whole); intro t9 h9 tk9 F9 N9; (try k_sweep); (try dsimp only); (try k_fold)))
theorem c_make_day (w : World) (y : Int) (yk : Tok) (mo : Int) (mok : Tok) (da : Int) (dak : Tok) (news : List (Addr × Obj)) : Cl w 2 141 [.int y yk, .int mo mok, .int da dak] news (RetI (tofD y mo da)) := by
  unfold Cl
  k_fill
  intro mean mg mb dp un gd cn cs a ccd cl outer A₀ base h₀ L m s Q E B F X N T hk hd hu hret
  refine wpAny_call ?_
  k_dflt cell_enter
  k_steps
  all_goals (refine cb_retI hret ?_ (by k_asm) (by first | k_asm | exact cb_drop (by assumption) (by kcj_all)))
  all_goals ((try simp (disch := decide) only [Int.fdiv_eq_ediv_of_nonneg, Int.fmod_eq_emod_of_nonneg]); rfl)
local macro_rules | `(tactic| walk_at "call ref") => `(tactic| (k_here; k_dflt (refine' cl_use (c_make_day _ _ _ _ _ _ _ _) ?k1 ?k2 ?k3 ?k4 ?k5 ?kK ?kd ?ku ?_; (case k1 => k_asm); (case k2 => k_asm); (case k3 => k_asm); (case k4 => k_asm); (case k5 => k_asm); (case kK => first | exact rfl | assumption); (case kd => first | ktr_room | fail "room"); (case ku => first | ktr_units | fail "units"); k_whole); intro t9 h9 tk9 F9 N9; (try k_sweep); (try dsimp only); (try k_fold)))
theorem c_make_date (w : World) (d : Int) (dk : Tok) (t : Int) (tk : Tok) (news : List (Addr × Obj)) : Cl w 1 148 [.int d dk, .int t tk] news (RetI (d * 86400000 + t)) := by
  unfold Cl
  k_fill
  intro mean mg mb dp un gd cn cs a ccd cl outer A₀ base h₀ L m s Q E B F X N T hk hd hu hret
  refine wpAny_call ?_
  k_dflt cell_enter
  k_steps
  all_goals (refine cb_retI hret ?_ (by k_asm) (by first | k_asm | exact cb_drop (by assumption) (by kcj_all)))
  all_goals (rfl)
local macro_rules | `(tactic| walk_at "call ref") => `(tactic| (k_here; k_dflt (refine' cl_use (c_make_date _ _ _ _ _ _) ?k1 ?k2 ?k3 ?k4 ?k5 ?kK ?kd ?ku ?_; (case k1 => k_asm); (case k2 => k_asm); (case k3 => k_asm); (case k4 => k_asm); (case k5 => k_asm); (case kK => first | exact rfl | assumption); (case kd => first | ktr_room | fail "room"); (case ku => first | ktr_units | fail "units"); k_whole); intro t9 h9 tk9 F9 N9; (try k_sweep); (try dsimp only); (try k_fold)))
theorem mlen_long {y mo : Int} (h : mo = 1) (h4 : y % 4 = 0) (h5 : y % 100 ≠ 0 ∨ y % 400 = 0) : 29 = mlen y mo := by
  unfold mlen
  rw [if_pos ⟨h, isLeap_true.mpr ⟨h4, h5⟩⟩]
theorem mlen_short {y mo : Int} (h : 0 ≤ mo ∧ mo ≤ 11) (h1 : ¬ (mo = 1 ∧ (y % 4 = 0 ∧ (y % 100 ≠ 0 ∨ y % 400 = 0)))) : [31, 28, 31, 30, 31, 30, 31, 31, 30, 31, 30, (31 : Int)].getD mo.toNat 0 = mlen y mo := by
  have h2 : ¬ (mo = 1 ∧ isLeap y = true) := by rw [isLeap_true]; exact h1
  unfold mlen
  rw [if_neg h2]
  obtain ⟨h0, h9⟩ := h
  rcases month_cases h0 h9 with h | h | h | h | h | h | h | h | h | h | h | h <;> subst h <;> rfl
theorem c_law_days (w : World) (y : Int) (yk : Tok) (mo : Int) (mok : Tok) (news : List (Addr × Obj)) (hp : 0 ≤ mo ∧ mo ≤ 11) : Cl w 1 162 [.int y yk, .int mo mok] news (RetI (mlen y mo)) := by
  unfold Cl
  k_fill
  intro mean mg mb dp un gd cn cs a ccd cl outer A₀ base h₀ L m s Q E B F X N T hk hd hu hret
  refine wpAny_call ?_
  k_dflt cell_enter
  k_steps
  all_goals (refine cb_retI hret ?_ (by k_asm) (by first | k_asm | exact cb_drop (by assumption) (by kcj_all)))
  all_goals ((try simp (disch := decide) only [Int.fmod_eq_emod_of_nonneg] at *); first | exact mlen_long (by omega) (by omega) (by omega) | exact mlen_short hp (by omega))
local macro_rules | `(tactic| walk_at "call ref") => `(tactic| (k_here; k_dflt (refine' cl_use (c_law_days _ _ _ _ _ _ ?kp) ?k1 ?k2 ?k3 ?k4 ?k5 ?kK ?kd ?ku ?_; (case k1 => k_asm); (case k2 => k_asm); (case k3 => k_asm); (case k4 => k_asm); (case k5 => k_asm); (case kK => first | exact rfl | assumption); (case kp => first | assumption | exact fmod12 _ | exact month12 _ | omega | ((try dsimp only); omega)); (case kd => first | ktr_room | fail "room"); (case ku => first | ktr_units | fail "units"); k_whole); intro t9 h9 tk9 F9 N9; (try k_sweep); (try dsimp only); (try k_fold)))
theorem g_time_of_fields (w : World) (y mo da h mi sc p : Int) (yk mok dak hk mik sck pk : Tok) (ta : Addr) (news : List (Addr × Obj)) : Cl w 4 155 [.ref ta] ((ta, ({ cls := .type "tuple", data := .seq [.int y yk, .int mo mok, .int da dak, .int h hk, .int mi mik, .int sc sck, .int p pk].toArray } : Obj)) :: news) (RetI (tof y mo da h mi sc p)) := by
  unfold Cl
  k_fill
  intro mean mg mb dp un gd cn cs a ccd cl outer A₀ base h₀ L m s Q E B F X N T hk hd hu hret
  refine wpAny_call ?_
  k_dflt cell_enter
  k_steps
  all_goals (refine cb_retI hret ?_ (by k_asm) (by first | k_asm | exact cb_drop (by assumption) (by kcj_all)))
  all_goals (rfl)
theorem c_time_of_fields (w : World) (y mo da h mi sc p : Int) (yk mok dak hk mik sck pk : Tok) (ta : Addr) (news : List (Addr × Obj)) (hm : (ta, ({ cls := .type "tuple", data := .seq [.int y yk, .int mo mok, .int da dak, .int h hk, .int mi mik, .int sc sck, .int p pk].toArray } : Obj)) ∈ news) : Cl w 4 155 [.ref ta] news (RetI (tof y mo da h mi sc p)) := cl_memI (g_time_of_fields w _ _ _ _ _ _ _ _ _ _ _ _ _ _ _ _) hm
local macro_rules | `(tactic| walk_at "call ref") => `(tactic| (k_here; k_dflt (refine' cl_use (c_time_of_fields _ _ _ _ _ _ _ _ _ _ _ _ _ _ _ _ _ ?km) ?k1 ?k2 ?k3 ?k4 ?k5 ?kK ?kd ?ku ?_; (case k1 => k_asm); (case k2 => k_asm); (case k3 => k_asm); (case k4 => k_asm); (case k5 => k_asm); (case kK => first | exact rfl | assumption); (case km => repeat (first | (with_reducible exact mem_head) | with_reducible refine mem_tail ?_)); (case kd => first | ktr_room | fail "room"); (case ku => first | ktr_units | fail "units"); k_whole); intro t9 h9 tk9 F9 N9; (try k_sweep); (try dsimp only); (try k_fold)))
theorem c_fields_of (w : World) (t : Int) (tk : Tok) (news : List (Addr × Obj)) : Cl w 8 127 [.int t tk] news (Ret7 (yearT t) (monthT t) (dateT t) (hourT t) (minuteT t) (secondT t) (msT t)) := by
  unfold Cl
  k_fill
  intro mean mg mb dp un gd cn cs a ccd cl outer A₀ base h₀ L m s Q E B F X N T hk hd hu hret
  refine wpAny_call ?_
  k_dflt cell_enter
  k_steps
  all_goals (refine hret _ _ _ _ _ _ _ _ _ _ (by k_asm) (by first | k_asm | exact cb_drop (by assumption) (by kcj_all)) (by refine ktn_ltOf ?_; (try simp only [AllLt, and_true]); (rename (_ ∧ _) => q9); first | exact q9 | exact q9.2 | exact q9.2.2 | exact q9.2.2.2 | exact q9.2.2.2.2 | exact q9.2.2.2.2.2 | exact q9.2.2.2.2.2.2 | exact q9.2.2.2.2.2.2.2))
local macro_rules | `(tactic| walk_at "call ref") => `(tactic| (k_here; k_dflt (refine' cl_use (c_fields_of _ _ _ _) ?k1 ?k2 ?k3 ?k4 ?k5 ?kK ?kd ?ku ?_; (case k1 => k_asm); (case k2 => k_asm); (case k3 => k_asm); (case k4 => k_asm); (case k5 => k_asm); (case kK => first | exact rfl | assumption); (case kd => first | ktr_room | fail "room"); (case ku => first | ktr_units | fail "units"); k_whole); intro t0' t1' t2' t3' t4' t5' t6' D' h' tk' F' N' l1; (try k_lt l1); (try k_sweep); (try dsimp only); (try k_fold)))
theorem more_f (h mi sc p sz : Int) : ((h + (mi + (sc + (p + inc sz 0).fdiv 1000 + inc sz 1).fdiv 60 + inc sz 2).fdiv 60 + inc sz 3).fdiv 24 + inc sz 4) = onMore h mi sc p sz := by
  simp (disch := decide) only [Int.fdiv_eq_ediv_of_nonneg, Int.fmod_eq_emod_of_nonneg]; rfl
theorem roll_e0 {y mo da h mi sc p sz q : Int} (hq : (mlen y mo < da + ((h + (mi + (sc + (p + inc sz 0).fdiv 1000 + inc sz 1).fdiv 60 + inc sz 2).fdiv 60 + inc sz 3).fdiv 24 + inc sz 4) ∧ q = mo + 1) ∨ (¬ mlen y mo < da + ((h + (mi + (sc + (p + inc sz 0).fdiv 1000 + inc sz 1).fdiv 60 + inc sz 2).fdiv 60 + inc sz 3).fdiv 24 + inc sz 4) ∧ q = mo)) : y + q.fdiv 12 = y + rollM y mo (da + onMore h mi sc p sz) / 12 ∧ q.fmod 12 = rollM y mo (da + onMore h mi sc p sz) % 12 := by
  rw [more_f] at hq
  rw [Int.fdiv_eq_ediv_of_nonneg _ (by decide), Int.fmod_eq_emod_of_nonneg _ (by decide), rollM]
  rcases hq with ⟨h1, rfl⟩ | ⟨h1, rfl⟩
  · rw [if_pos h1]; exact ⟨rfl, rfl⟩
  · rw [if_neg h1]; exact ⟨rfl, rfl⟩
theorem roll_e2y {y mo da h mi sc p sz : Int} (hq : mlen y mo < da + ((h + (mi + (sc + (p + inc sz 0).fdiv 1000 + inc sz 1).fdiv 60 + inc sz 2).fdiv 60 + inc sz 3).fdiv 24 + inc sz 4)) : da + ((h + (mi + (sc + (p + inc sz 0).fdiv 1000 + inc sz 1).fdiv 60 + inc sz 2).fdiv 60 + inc sz 3).fdiv 24 + inc sz 4) - mlen y mo = rollD y mo (da + onMore h mi sc p sz) := by
  rw [more_f] at hq ⊢
  rw [rollD, if_pos hq]
theorem roll_e2n {y mo da h mi sc p sz : Int} (hq : ¬ mlen y mo < da + ((h + (mi + (sc + (p + inc sz 0).fdiv 1000 + inc sz 1).fdiv 60 + inc sz 2).fdiv 60 + inc sz 3).fdiv 24 + inc sz 4)) : da + ((h + (mi + (sc + (p + inc sz 0).fdiv 1000 + inc sz 1).fdiv 60 + inc sz 2).fdiv 60 + inc sz 3).fdiv 24 + inc sz 4) = rollD y mo (da + onMore h mi sc p sz) := by
  rw [more_f] at hq ⊢
  rw [rollD, if_neg hq]
theorem cb_ret8 {x0 x1 x2 x3 x4 x5 x6 x7 v0 v1 v2 v3 v4 v5 v6 v7 : Int} {t0 t1 t2 t3 t4 t5 t6 t7 : Tok} {h₀ h' : Heap} {L D : Addr} {m : Str → Option Value} {news junk : List (Addr × Obj)} {s : Shared} {Q : Value → Shared → Prop} {tk' : Nat}
    (hret : Ret8 x0 x1 x2 x3 x4 x5 x6 x7 h₀ L m news s Q) (F : Fr h₀ L h' m) (N : News h₀ L h' ((D, ({ cls := .type "tuple", data := .seq [.int v0 t0, .int v1 t1, .int v2 t2, .int v3 t3, .int v4 t4, .int v5 t5, .int v6 t6, .int v7 t7].toArray } : Obj)) :: junk)) (hj : ∀ p ∈ news, p ∈ junk) (hl : ∀ p ∈ news, p.1 < D)
    (e0 : v0 = x0) (e1 : v1 = x1) (e2 : v2 = x2) (e3 : v3 = x3) (e4 : v4 = x4) (e5 : v5 = x5) (e6 : v6 = x6) (e7 : v7 = x7) : Q (.ref D) { s with heap := h', toks := tk' } := by
  subst e0 e1 e2 e3 e4 e5 e6 e7
  exact hret _ _ _ _ _ _ _ _ D h' tk' F (fun p hp => N p ((List.mem_cons.mp hp).elim (fun q => q ▸ .head _) fun q => .tail _ (hj p q))) hl
local macro_rules | `(tactic| walk_at "eval IfExp") => `(tactic| (k_here; (with_reducible show wpAny _ _ (eval (PySem.Expr.IfExp (PySem.Expr.Compare (PySem.Expr.Name _ _) _ _ _) (PySem.Expr.Constant _ _ _) (PySem.Expr.Constant _ _ _) _) _) _ _ _); k_dflt (refine' inc_at ?F ?v ?_ ?k ?l ?d; (case F => k_asm); (case v => exact rfl); (case k => exact rfl); (case l => exact rfl); (case d => decide); k_whole); intro t9 tk9; (try dsimp only)))
theorem g_law_on (w : World) (y mo da h mi sc p wk : Int) (yk mok dak hk mik sck pk wkk : Tok) (ta : Addr) (sz : Int) (szk : Tok) (news : List (Addr × Obj)) (hp : 0 ≤ mo ∧ mo ≤ 11) : Cl w 3 169 [.ref ta, .int sz szk] ((ta, ({ cls := .type "tuple", data := .seq [.int y yk, .int mo mok, .int da dak, .int h hk, .int mi mik, .int sc sck, .int p pk, .int wk wkk].toArray } : Obj)) :: news) (Ret8 (y + rollM y mo (da + onMore h mi sc p sz) / 12) (rollM y mo (da + onMore h mi sc p sz) % 12) (rollD y mo (da + onMore h mi sc p sz)) (onH1 h mi sc p sz % 24) (onM1 mi sc p sz % 60) (onS1 sc p sz % 60) (onP1 p sz % 1000) ((wk + onMore h mi sc p sz) % 7)) := by
  unfold Cl
  k_fill
  intro mean mg mb dp un gd cn cs a ccd cl outer A₀ base h₀ L m s Q E B F X N T hk hd hu hret
  refine wpAny_call ?_
  k_dflt cell_enter
  k_steps
  all_goals (refine cb_ret8 hret (by k_asm) (by k_asm) (by kcj_all) (by refine ktn_ltOf ?_; (try simp only [AllLt, and_true]); (rename (_ ∧ _) => q9); first | exact q9 | exact q9.2 | exact q9.2.2 | exact q9.2.2.2 | exact q9.2.2.2.2 | exact q9.2.2.2.2.2 | exact q9.2.2.2.2.2.2 | exact q9.2.2.2.2.2.2.2) (roll_e0 (by first | exact Or.inl ⟨by assumption, rfl⟩ | exact Or.inr ⟨by assumption, rfl⟩)).1 (roll_e0 (y := y) (da := da) (h := h) (mi := mi) (sc := sc) (p := p) (sz := sz) (by first | exact Or.inl ⟨by assumption, rfl⟩ | exact Or.inr ⟨by assumption, rfl⟩)).2 (by first | exact roll_e2y (by assumption) | exact roll_e2n (by assumption)) (by (simp (disch := decide) only [Int.fdiv_eq_ediv_of_nonneg, Int.fmod_eq_emod_of_nonneg]); try rfl) (by (simp (disch := decide) only [Int.fdiv_eq_ediv_of_nonneg, Int.fmod_eq_emod_of_nonneg]); try rfl) (by (simp (disch := decide) only [Int.fdiv_eq_ediv_of_nonneg, Int.fmod_eq_emod_of_nonneg]); try rfl) (by (simp (disch := decide) only [Int.fdiv_eq_ediv_of_nonneg, Int.fmod_eq_emod_of_nonneg]); try rfl) (by (simp (disch := decide) only [Int.fdiv_eq_ediv_of_nonneg, Int.fmod_eq_emod_of_nonneg]); try rfl))
theorem c_law_on (w : World) (y mo da h mi sc p wk : Int) (yk mok dak hk mik sck pk wkk : Tok) (ta : Addr) (sz : Int) (szk : Tok) (news : List (Addr × Obj)) (hp : 0 ≤ mo ∧ mo ≤ 11) (hm : (ta, ({ cls := .type "tuple", data := .seq [.int y yk, .int mo mok, .int da dak, .int h hk, .int mi mik, .int sc sck, .int p pk, .int wk wkk].toArray } : Obj)) ∈ news) : Cl w 3 169 [.ref ta, .int sz szk] news (Ret8 (y + rollM y mo (da + onMore h mi sc p sz) / 12) (rollM y mo (da + onMore h mi sc p sz) % 12) (rollD y mo (da + onMore h mi sc p sz)) (onH1 h mi sc p sz % 24) (onM1 mi sc p sz % 60) (onS1 sc p sz % 60) (onP1 p sz % 1000) ((wk + onMore h mi sc p sz) % 7)) := cl_mem8 (g_law_on w _ _ _ _ _ _ _ _ _ _ _ _ _ _ _ _ _ _ _ _ hp) hm
local macro_rules | `(tactic| walk_at "call ref") => `(tactic| (k_here; k_dflt (refine' cl_use (c_law_on _ _ _ _ _ _ _ _ _ _ _ _ _ _ _ _ _ _ _ _ _ ?kp ?km) ?k1 ?k2 ?k3 ?k4 ?k5 ?kK ?kd ?ku ?_; (case k1 => k_asm); (case k2 => k_asm); (case k3 => k_asm); (case k4 => k_asm); (case k5 => k_asm); (case kK => first | exact rfl | assumption); (case km => repeat (first | (with_reducible exact mem_head) | with_reducible refine mem_tail ?_)); (case kp => first | assumption | omega); (case kd => first | ktr_room | fail "room"); (case ku => first | ktr_units | fail "units"); k_whole); intro t0' t1' t2' t3' t4' t5' t6' t7' D' h' tk' F' N' l1; (try k_lt l1); (try k_sweep); (try dsimp only); (try k_fold)))
theorem c_on (w : World) (t sz : Int) (yk mok dak hk mik sck pk wkk szk : Tok) (ta : Addr) (news : List (Addr × Obj)) (h0 : 0 ≤ sz ∧ sz < 5) (hm : (ta, ({ cls := .type "tuple", data := .seq [.int (yearT t) yk, .int (monthT t) mok, .int (dateT t) dak, .int (hourT t) hk, .int (minuteT t) mik, .int (secondT t) sck, .int (msT t) pk, .int (weekT t) wkk].toArray } : Obj)) ∈ news) : Cl w 3 169 [.ref ta, .int sz szk] news (Ret8 (yearT (t + step sz)) (monthT (t + step sz)) (dateT (t + step sz)) (hourT (t + step sz)) (minuteT (t + step sz)) (secondT (t + step sz)) (msT (t + step sz)) (weekT (t + step sz))) := by
  obtain ⟨e1, e2, e3, e4, e5, e6⟩ := on_clock t sz h0.1 h0.2
  obtain ⟨d1, d2, d3⟩ := on_date t (t + step sz) _ e1 e2
  have w1 := on_week t (t + step sz) _ e1
  rw [d1, d2, d3, e3, e4, e5, e6, w1]
  exact c_law_on w _ _ _ _ _ _ _ _ _ _ _ _ _ _ _ _ ta sz szk news (month_range t) hm
theorem c_back (w : World) (t : Int) (yk mok dak hk mik sck pk : Tok) (ta : Addr) (news : List (Addr × Obj)) (hm : (ta, ({ cls := .type "tuple", data := .seq [.int (yearT t) yk, .int (monthT t) mok, .int (dateT t) dak, .int (hourT t) hk, .int (minuteT t) mik, .int (secondT t) sck, .int (msT t) pk].toArray } : Obj)) ∈ news) : Cl w 4 155 [.ref ta] news (RetI t) := by
  have q := c_time_of_fields w (yearT t) (monthT t) (dateT t) (hourT t) (minuteT t) (secondT t) (msT t) yk mok dak hk mik sck pk ta news hm
  rw [tof_fields] at q
  exact q
local macro_rules | `(tactic| walk_at "call ref") => `(tactic| (k_here; k_dflt (refine' cl_use (c_on _ _ _ _ _ _ _ _ _ _ _ _ _ _ ?kp ?km) ?k1 ?k2 ?k3 ?k4 ?k5 ?kK ?kd ?ku ?_; (case k1 => k_asm); (case k2 => k_asm); (case k3 => k_asm); (case k4 => k_asm); (case k5 => k_asm); (case kK => first | exact rfl | assumption); (case km => repeat (first | (with_reducible exact mem_head) | with_reducible refine mem_tail ?_)); (case kp => first | exact fmod5 _ | omega); (case kd => first | ktr_room | fail "room"); (case ku => first | ktr_units | fail "units"); k_whole); intro t0' t1' t2' t3' t4' t5' t6' t7' D' h' tk' F' N' l1; (have l0 := l1); (try k_lt l1); (try k_sweep); (try dsimp only); (try k_fold)))
local macro_rules | `(tactic| walk_at "call ref") => `(tactic| (k_here; k_dflt (refine' cl_use (c_back _ _ _ _ _ _ _ _ _ _ _ ?km) ?k1 ?k2 ?k3 ?k4 ?k5 ?kK ?kd ?ku ?_; (case k1 => k_asm); (case k2 => k_asm); (case k3 => k_asm); (case k4 => k_asm); (case k5 => k_asm); (case kK => first | exact rfl | assumption); (case km => repeat (first | (with_reducible exact mem_head) | with_reducible refine mem_tail ?_)); (case kd => first | ktr_room | fail "room"); (case ku => first | ktr_units | fail "units"); k_whole); intro t9 h9 tk9 F9 N9; (try k_sweep); (try dsimp only); (try k_fold)))
/-! ## the walk of the law -/
theorem start_at {y mo da h mi s p wk : Int} (h0 : 0 ≤ mo) (h1 : mo ≤ 11) (h2 : 1 ≤ da) (h3 : da ≤ mlen y mo) (h4 : 0 ≤ h ∧ h < 24) (h5 : 0 ≤ mi ∧ mi < 60) (h6 : 0 ≤ s ∧ s < 60) (h7 : 0 ≤ p ∧ p < 1000) (hw : (tofD y mo da + 4) % 7 = wk) :
    yearT (tof y mo da h mi s p) = y ∧ monthT (tof y mo da h mi s p) = mo ∧ dateT (tof y mo da h mi s p) = da ∧ hourT (tof y mo da h mi s p) = h ∧ minuteT (tof y mo da h mi s p) = mi ∧ secondT (tof y mo da h mi s p) = s ∧ msT (tof y mo da h mi s p) = p ∧ weekT (tof y mo da h mi s p) = wk := by
  obtain ⟨c1, c2, c3, c4, c5⟩ := clock_fields (t := tof y mo da h mi s p) (d := tofD y mo da) rfl h4 h5 h6 h7
  obtain ⟨d1, d2, d3⟩ := day_fields (t := tof y mo da h mi s p) h0 h1 h2 h3 (by rw [c1, tofD_of h0 h1])
  have w1 : weekT (tof y mo da h mi s p) = wk := by unfold weekT; rw [c1]; exact hw
  exact ⟨d1, d2, d3, c2, c3, c4, c5, w1⟩
theorem start_1 (k : Int) : yearT (tof (1900 + 400 * k) 1 27 23 59 59 998) = 1900 + 400 * k ∧ monthT (tof (1900 + 400 * k) 1 27 23 59 59 998) = 1 ∧ dateT (tof (1900 + 400 * k) 1 27 23 59 59 998) = 27 ∧ hourT (tof (1900 + 400 * k) 1 27 23 59 59 998) = 23 ∧ minuteT (tof (1900 + 400 * k) 1 27 23 59 59 998) = 59 ∧ secondT (tof (1900 + 400 * k) 1 27 23 59 59 998) = 59 ∧ msT (tof (1900 + 400 * k) 1 27 23 59 59 998) = 998 ∧ weekT (tof (1900 + 400 * k) 1 27 23 59 59 998) = 2 := by
  have := mlen_pos (1900 + 400 * k) 1
  refine start_at (by omega) (by omega) (by omega) (by omega) (by omega) (by omega) (by omega) (by omega) ?_
  rw [tofD_of (by omega) (by omega), dayFrom_cycle, isLeap_cycle, show dayFrom 1900 = -25567 from by decide +kernel, show ahead 1 (isLeap 1900) = 31 from by decide +kernel]; omega
theorem start_2 (k : Int) : yearT (tof (1999 + 400 * k) 11 30 23 58 59 999) = 1999 + 400 * k ∧ monthT (tof (1999 + 400 * k) 11 30 23 58 59 999) = 11 ∧ dateT (tof (1999 + 400 * k) 11 30 23 58 59 999) = 30 ∧ hourT (tof (1999 + 400 * k) 11 30 23 58 59 999) = 23 ∧ minuteT (tof (1999 + 400 * k) 11 30 23 58 59 999) = 58 ∧ secondT (tof (1999 + 400 * k) 11 30 23 58 59 999) = 59 ∧ msT (tof (1999 + 400 * k) 11 30 23 58 59 999) = 999 ∧ weekT (tof (1999 + 400 * k) 11 30 23 58 59 999) = 4 := by
  have : mlen (1999 + 400 * k) 11 = 31 := by unfold mlen; rw [if_neg (by omega)]; rfl
  refine start_at (by omega) (by omega) (by omega) (by omega) (by omega) (by omega) (by omega) (by omega) ?_
  rw [tofD_of (by omega) (by omega), dayFrom_cycle, isLeap_cycle, show dayFrom 1999 = 10592 from by decide +kernel, show ahead 11 (isLeap 1999) = 334 from by decide +kernel]; omega
theorem start_3 (k : Int) : yearT (tof (2000 + 400 * k) 1 28 23 59 0 0) = 2000 + 400 * k ∧ monthT (tof (2000 + 400 * k) 1 28 23 59 0 0) = 1 ∧ dateT (tof (2000 + 400 * k) 1 28 23 59 0 0) = 28 ∧ hourT (tof (2000 + 400 * k) 1 28 23 59 0 0) = 23 ∧ minuteT (tof (2000 + 400 * k) 1 28 23 59 0 0) = 59 ∧ secondT (tof (2000 + 400 * k) 1 28 23 59 0 0) = 0 ∧ msT (tof (2000 + 400 * k) 1 28 23 59 0 0) = 0 ∧ weekT (tof (2000 + 400 * k) 1 28 23 59 0 0) = 1 := by
  have := mlen_pos (2000 + 400 * k) 1
  refine start_at (by omega) (by omega) (by omega) (by omega) (by omega) (by omega) (by omega) (by omega) ?_
  rw [tofD_of (by omega) (by omega), dayFrom_cycle, isLeap_cycle, show dayFrom 2000 = 10957 from by decide +kernel, show ahead 1 (isLeap 2000) = 31 from by decide +kernel]; omega
theorem start_4 (k : Int) : yearT (tof (2100 + 400 * k) 1 27 22 59 59 999) = 2100 + 400 * k ∧ monthT (tof (2100 + 400 * k) 1 27 22 59 59 999) = 1 ∧ dateT (tof (2100 + 400 * k) 1 27 22 59 59 999) = 27 ∧ hourT (tof (2100 + 400 * k) 1 27 22 59 59 999) = 22 ∧ minuteT (tof (2100 + 400 * k) 1 27 22 59 59 999) = 59 ∧ secondT (tof (2100 + 400 * k) 1 27 22 59 59 999) = 59 ∧ msT (tof (2100 + 400 * k) 1 27 22 59 59 999) = 999 ∧ weekT (tof (2100 + 400 * k) 1 27 22 59 59 999) = 6 := by
  have := mlen_pos (2100 + 400 * k) 1
  refine start_at (by omega) (by omega) (by omega) (by omega) (by omega) (by omega) (by omega) (by omega) ?_
  rw [tofD_of (by omega) (by omega), dayFrom_cycle, isLeap_cycle, show dayFrom 2100 = 47482 from by decide +kernel, show ahead 1 (isLeap 2100) = 31 from by decide +kernel]; omega
local macro_rules | `(tactic| walk_at "subscriptTail Name Slice ref ref") => `(tactic| (k_here; (with_reducible show wpAny _ _ (subscriptTail _ (PySem.Expr.Slice _ _ none _) (Value.ref _) (Value.ref _)) _ _ _); k_dflt (first
  | (refine' tup_from (a := 1) ?F ?N ?m ?e ?z ?p ?q ?_ ?s ?g ?y; (case F => k_asm); (case N => k_asm); (case m => k_mem); (case e => exact rfl); (case z => kl_lit); (case p => decide); (case q => exact Nat.le_of_ble_eq_true rfl); (case s => with_unfolding_all rfl); (case g => kmk_pure); (case y => exact Nat.le_of_ble_eq_true rfl); k_whole)
  | (refine' tup_upto (b := 7) ?F ?N ?m ?e ?z ?q ?_ ?s ?g ?y; (case F => k_asm); (case N => k_asm); (case m => k_mem); (case e => exact rfl); (case z => kl_lit); (case q => exact Nat.le_of_ble_eq_true rfl); (case s => with_unfolding_all rfl); (case g => kmk_pure); (case y => exact Nat.le_of_ble_eq_true rfl); k_whole)); intro D' h' F' N' l1; (try k_lt l1); (try k_sweep)))
local macro_rules | `(tactic| walk_at "subscriptTail List") => `(tactic| (k_here; k_dflt (refine kba_turn (value' := PySem.Expr.Name (PySem.Str.ofString "_") ⟨0, 0, 0, 0⟩) (fun _ => rfl) ?_); (with_reducible show wpAny _ _ (subscriptTail _ (PySem.Expr.Slice _ _ none _) (Value.ref _) (Value.ref _)) _ _ _); k_dflt (refine' kmk_slice_ints ?F ?N ?l ?p ?q ?i ?m ?c ?_ ?s ?t ?z; (case F => k_asm); (case N => k_asm); (case l => kmk_list); (case p => kmk_part); (case q => kmk_part); (case i => l_ints); (case m => exact kmk_from (by l_ints) (Int.natCast_nonneg _)); (case c => kmk_len); (case s => with_unfolding_all rfl); (case t => kmk_pure); (case z => kmk_size)); intro D' ws' h' F' N' l1 hI' hC' hL'; (try k_lt l1); (try k_sweep)))
local macro_rules | `(tactic| walk_at "pyIter ref") => `(tactic| k_dflt (k_of "cell" => (refine' outer_rule ?hh ?hl ?hi ?F ?N ?a ?b ?c ?D ?S ?e ?_ ?_; (case hh => exact rfl); (case F => k_asm); (case N => k_asm); (case hl => k_mem); (case hi => l_ints); (case a => exact rfl); (case b => exact rfl); (case c => exact rfl); (case D => k_mem); (case S => (refine shows_of ?_; first | with_reducible exact start_1 _ | with_reducible exact start_2 _ | with_reducible exact start_3 _ | with_reducible exact start_4 _)); (case e => k_mem); (all_goals first | (intro t1' tk1' D1' o1' news1' own1' n1' nt1' u1' h1' tkx' hD1' hS1' hla1' hO1' hON1' F1' N1'; (try dsimp only); (try k_fold)) | (intro m1' news1' h1' tkx' F1' N1'; (try dsimp only); (try k_fold))))))
local macro_rules | `(tactic| walk_at "pyIter ref") => `(tactic| k_dflt (k_of "turn" => (refine' inner_rule _ ?hh ?hr ?hb ?F ?N ?a ?b ?c ?D ?S ?O ?P ?e ?_ ?_; (case hh => exact rfl); (case F => k_asm); (case N => k_asm); (case hr => assumption); (case hb => exact fmod3 _); (case a => exact rfl); (case b => exact rfl); (case c => exact rfl); (case D => assumption); (case S => assumption); (case O => assumption); (case P => assumption); (case e => assumption); (all_goals first | (intro t1' tk1' D1' a0' a1' a2' a3' a4' a5' a6' a7' news1' k1' kt1' h1' tkx' hla1' F1' N1'; (try dsimp only); (try k_fold)) | (intro t1' tk1' D1' o1' news1' u1' h1' tkx' hD1' hS1' hO1' hsub1' F1' N1'; (try dsimp only); (try k_fold))))))
local macro_rules | `(tactic| walk_at "TurnEnd") => `(tactic| (k_dflt (refine' ⟨rfl, _, _, _, _, _, _, _, _, rfl, ?F, ?N, ?M, ?S, ?I, ?L, ?s, ?t, ?z⟩; (case F => k_asm); (case N => k_asm); (case s => exact rfl); (case t => exact rfl); (case M => repeat (first | (with_reducible exact mem_head) | with_reducible refine mem_tail ?_)); (case S => exact ⟨_, _, _, _, _, _, _, _, rfl⟩); (case I => (intro p9 hp9; repeat (first | with_reducible exact hp9 | with_reducible refine mem_tail ?_))); (case L => (intro p9 hp9; refine lt_use (by assumption) ?_; repeat (first | with_reducible exact hp9 | with_reducible refine mem_tail ?_))); (case z => (intro z z1 z2 z3; simp [z1, z2, z3])))))
local macro_rules | `(tactic| walk_at "OutEnd") => `(tactic| (k_dflt (refine' ⟨rfl, _, _, _, _, _, _, _, _, rfl, ?F, ?N, ?M, ?S, ?O, ?I, ?s, ?t, ?z⟩; (case F => k_asm); (case N => k_asm); (case s => exact rfl); (case t => exact rfl); (case M => assumption); (case S => assumption); (case O => assumption); (case I => assumption); (case z => (intro z z1 z2 z3 z4 z5; simp [z1, z2, z3, z4, z5])))))
local macro_rules | `(tactic| walk_at "subscriptTail Name Name ref int") => `(tactic| (k_here; (with_reducible show wpAny _ _ (subscriptTail _ _ (Value.ref _) (Value.int (Int.fmod _ _) _)) _ _ _); k_dflt (refine' madeListAny ?F ?l ?i ?k3 ?k4 ?k5 ?_; (case F => k_asm); (case l => k_mem); (case i => l_ints); (case k3 => exact (fmod5 _).1); (case k4 => exact (fmod5 _).2); (case k5 => exact Int.lt_trans (fmod5 _).2 (by decide)); k_whole); intro t9; (rw [step_get (fmod5 _)])))
local macro_rules | `(tactic| walk_at "compareOp NotEq int int") => `(tactic| (with_reducible refine ne_self ?_))
local macro_rules | `(tactic| walk_at "compareOp NotEq ref ref") => `(tactic| (k_here; k_dflt (refine' ne_tup_same ?N ?a ?b ?c ?d ?u ?_; (case N => k_asm); (case a => k_mem); (case b => k_mem); (case c => exact ints8); (case d => exact ints8); (case u => first | units_room | exact Nat.le_of_ble_eq_true rfl); k_whole)))
theorem law : PySem.Challenge.rw_sz0074_01.Holds := hd (by
  k_with_none
  k_with "pyIter ref" => fail "no"
  k_go0; (all_goals try k_fold)
  k_steps
  all_goals (try k_data))
end Mine
theorem PySem.Challenge.cw_sz0074_01_holds : PySem.Challenge.rw_sz0074_01.Holds := by
  exact Mine.law
