import PyProof.Rows.All
import Wide.All
import OpenK.AllK
import Wide.FinOn
import PySem.Challenge.RW_sa0356_01

set_option Elab.async false
set_option maxRecDepth 100000

namespace Mine

def leap (y : Int) : Bool := y.fmod 4 == 0 && (y.fmod 100 != 0 || y.fmod 400 == 0)
def diy (y : Int) : Int := if leap y then 366 else 365
def dfy (y : Int) : Int := 365 * (y - 1970) + (y - 1969).fdiv 4 - (y - 1901).fdiv 100 + (y - 1601).fdiv 400
def guess (d : Int) : Int := 1970 + (d * 400).fdiv 146097
def yod (d : Int) : Int := if d < dfy (guess d) then guess d - 1 else if dfy (guess d + 1) ≤ d then guess d + 1 else guess d
def ahd (m : Int) (lp : Bool) : Int := [0, 31, 59, 90, 120, 151, 181, 212, 243, 273, 304, 334, 365].getD m.toNat 0 + (if lp && decide (1 < m) then 1 else 0)
def moy (lp : Bool) (p : Int) : Int :=
  if p < ahd 1 lp then 0 else if p < ahd 2 lp then 1 else if p < ahd 3 lp then 2 else if p < ahd 4 lp then 3 else if p < ahd 5 lp then 4 else if p < ahd 6 lp then 5
  else if p < ahd 7 lp then 6 else if p < ahd 8 lp then 7 else if p < ahd 9 lp then 8 else if p < ahd 10 lp then 9 else if p < ahd 11 lp then 10 else 11

theorem fd (a : Int) {b : Int} (h : 0 ≤ b) : a.fdiv b = a / b := Int.fdiv_eq_ediv_of_nonneg a h
theorem fm (a : Int) {b : Int} (h : 0 ≤ b) : a.fmod b = a % b := Int.fmod_eq_emod_of_nonneg a h

theorem leap_iff (y : Int) : leap y = true ↔ (y % 4 = 0 ∧ (y % 100 ≠ 0 ∨ y % 400 = 0)) := by
  unfold leap
  rw [fm _ (by decide), fm _ (by decide), fm _ (by decide)]
  simp [bne_iff_ne]

theorem dfy_eq (y : Int) : dfy y = 365 * (y - 1970) + (y - 1969) / 4 - (y - 1901) / 100 + (y - 1601) / 400 := by
  unfold dfy
  rw [fd _ (by decide), fd _ (by decide), fd _ (by decide)]

theorem diy_cases (y : Int) : (leap y = true ∧ diy y = 366) ∨ (leap y = false ∧ diy y = 365) := by
  unfold diy
  cases leap y <;> simp

theorem dfy_next (y : Int) : dfy (y + 1) = dfy y + diy y := by
  have hl := leap_iff y
  rw [dfy_eq, dfy_eq]
  rcases diy_cases y with ⟨h, e⟩ | ⟨h, e⟩
  · rw [e]
    have := hl.mp h
    omega
  · rw [e]
    have : ¬ (y % 4 = 0 ∧ (y % 100 ≠ 0 ∨ y % 400 = 0)) := fun c => by rw [hl.mpr c] at h; cases h
    omega

theorem dfy_mono {a b : Int} (h : a ≤ b) : dfy a + 365 * (b - a) ≤ dfy b := by
  obtain ⟨n, e⟩ : ∃ n : Nat, b = a + n := ⟨(b - a).toNat, by omega⟩
  subst e
  clear h
  induction n with
  | zero => simp
  | succ n ih =>
    have h1 := dfy_next (a + n)
    have h2 := diy_cases (a + n)
    have e : a + ((n + 1 : Nat) : Int) = a + n + 1 := by omega
    rw [e]
    omega

theorem guess_lo (d : Int) : dfy (guess d - 1) ≤ d := by
  rw [dfy_eq]
  unfold guess
  rw [fd _ (by decide)]
  omega
theorem guess_hi (d : Int) : d < dfy (guess d + 2) := by
  rw [dfy_eq]
  unfold guess
  rw [fd _ (by decide)]
  omega

theorem yod_lo (d : Int) : dfy (yod d) ≤ d := by
  unfold yod
  split
  · exact guess_lo d
  · split
    · assumption
    · omega
theorem yod_hi (d : Int) : d < dfy (yod d + 1) := by
  unfold yod
  split
  · have e : guess d - 1 + 1 = guess d := by omega
    rw [e]; assumption
  · split
    · have e : guess d + 1 + 1 = guess d + 2 := by omega
      rw [e]; exact guess_hi d
    · omega
theorem yod_near (d : Int) : yod d - 1 ≤ guess d ∧ guess d ≤ yod d + 1 := by
  unfold yod
  split
  · omega
  · split <;> omega
theorem yod_ge {d y : Int} (h : dfy y ≤ d) : y ≤ yod d := by
  rcases Int.lt_or_le (yod d) y with c | c
  · have h1 := dfy_mono (a := yod d + 1) (b := y) (by omega)
    have h2 := yod_hi d
    omega
  · exact c
theorem yod_le {d y : Int} (h : d < dfy (y + 1)) : yod d ≤ y := by
  rcases Int.lt_or_le y (yod d) with c | c
  · have h1 := dfy_mono (a := y + 1) (b := yod d) (by omega)
    have h2 := yod_lo d
    omega
  · exact c
theorem yod_is {d y : Int} (h : dfy y ≤ d) (h' : d < dfy (y + 1)) : yod d = y := by
  have := yod_ge h
  have := yod_le h'
  omega

end Mine

namespace Mine
def dayOf (t : Int) : Int := t.fdiv 86400000
def timeIn (t : Int) : Int := t.fmod 86400000
def yearOf (t : Int) : Int := yod (dayOf t)
def diyr (t : Int) : Int := dayOf t - dfy (yearOf t)
def dom (y m : Int) : Int := ahd (m + 1) (leap y) - ahd m (leap y)
def monOf (t : Int) : Int := moy (leap (yearOf t)) (diyr t)
def dateOf (t : Int) : Int := diyr t - ahd (monOf t) (leap (yearOf t)) + 1
def wday (t : Int) : Int := (dayOf t + 4).fmod 7
def hourOf (t : Int) : Int := (timeIn t).fdiv 3600000
def minOf (t : Int) : Int := ((timeIn t).fdiv 60000).fmod 60
def secOf (t : Int) : Int := ((timeIn t).fdiv 1000).fmod 60
def msOf (t : Int) : Int := t.fmod 1000
def mkTime (h m s ms : Int) : Int := h * 3600000 + m * 60000 + s * 1000 + ms
def mkDay (y m d : Int) : Int := dfy (y + m.fdiv 12) + ahd (m.fmod 12) (leap (y + m.fdiv 12)) + d - 1
def mkDate (d t : Int) : Int := d * 86400000 + t
def localOf (t o : Int) : Int := t + o * 60000
def utcOf (t o : Int) : Int := t - o * 60000

theorem ahd_0 (l : Bool) : ahd 0 l = 0 := by cases l <;> decide
theorem ahd_12 (l : Bool) : ahd 12 l = if l then 366 else 365 := by cases l <;> decide
theorem ahd_12' (y : Int) : ahd 12 (leap y) = diy y := ahd_12 _
theorem diyr_lo (t : Int) : 0 ≤ diyr t := by
  have := yod_lo (dayOf t)
  unfold diyr yearOf
  omega
theorem diyr_hi (t : Int) : diyr t < ahd 12 (leap (yearOf t)) := by
  have h := yod_hi (dayOf t)
  rw [dfy_next] at h
  rw [ahd_12']
  unfold diyr yearOf
  omega
/-- 0 .. 11 by cases -/
theorem twelve {P : Int → Prop} (h : P 0 ∧ P 1 ∧ P 2 ∧ P 3 ∧ P 4 ∧ P 5 ∧ P 6 ∧ P 7 ∧ P 8 ∧ P 9 ∧ P 10 ∧ P 11) {m : Int} (h0 : 0 ≤ m) (h1 : m ≤ 11) : P m := by
  obtain ⟨a0, a1, a2, a3, a4, a5, a6, a7, a8, a9, a10, a11⟩ := h
  have : m = 0 ∨ m = 1 ∨ m = 2 ∨ m = 3 ∨ m = 4 ∨ m = 5 ∨ m = 6 ∨ m = 7 ∨ m = 8 ∨ m = 9 ∨ m = 10 ∨ m = 11 := by omega
  rcases this with e | e | e | e | e | e | e | e | e | e | e | e <;> subst e <;> assumption
theorem moy_range (l : Bool) (p : Int) : 0 ≤ moy l p ∧ moy l p ≤ 11 := by
  unfold moy
  repeat' split
  all_goals omega
theorem ahd_step (l : Bool) {m : Int} (h0 : 0 ≤ m) (h1 : m ≤ 11) : ahd m l + 28 ≤ ahd (m + 1) l ∧ ahd (m + 1) l ≤ ahd m l + 31 := by
  refine twelve (P := fun m => ahd m l + 28 ≤ ahd (m + 1) l ∧ ahd (m + 1) l ≤ ahd m l + 31) ?_ h0 h1
  cases l <;> decide
theorem ahd_mono (l : Bool) {a b : Int} (h0 : 0 ≤ a) (h : a ≤ b) (h1 : b ≤ 12) : ahd a l ≤ ahd b l := by
  obtain ⟨n, e⟩ : ∃ n : Nat, b = a + n := ⟨(b - a).toNat, by omega⟩
  subst e
  clear h
  induction n with
  | zero => simp
  | succ n ih =>
    have e : a + ((n + 1 : Nat) : Int) = a + n + 1 := by omega
    rw [e] at h1 ⊢
    have := ih (by omega)
    have := ahd_step l (m := a + n) (by omega) (by omega)
    omega
theorem moy_lo (l : Bool) {p : Int} (h : 0 ≤ p) : ahd (moy l p) l ≤ p := by
  have h0 := ahd_0 l
  unfold moy
  repeat' split
  all_goals omega
theorem moy_hi (l : Bool) {p : Int} (h : p < ahd 12 l) : p < ahd (moy l p + 1) l := by
  unfold moy
  repeat' split
  all_goals assumption
theorem moy_ge (l : Bool) {p m : Int} (hp : p < ahd 12 l) (h0 : 0 ≤ m) (h1 : m ≤ 12) (h : ahd m l ≤ p) : m ≤ moy l p := by
  have hr := moy_range l p
  have hh := moy_hi l hp
  rcases Int.lt_or_le (moy l p) m with c | c
  · have := ahd_mono l (a := moy l p + 1) (b := m) (by omega) (by omega) h1
    omega
  · exact c
theorem moy_le (l : Bool) {p m : Int} (hp0 : 0 ≤ p) (h0 : 0 ≤ m) (h1 : m ≤ 11) (h : p < ahd (m + 1) l) : moy l p ≤ m := by
  have hr := moy_range l p
  have hh := moy_lo l hp0
  rcases Int.lt_or_le m (moy l p) with c | c
  · have := ahd_mono l (a := m + 1) (b := moy l p) (by omega) (by omega) (by omega)
    omega
  · exact c
end Mine

namespace Mine
theorem yod_lt {d y : Int} (h : d < dfy y) : yod d < y := by
  rcases Int.lt_or_le (yod d) y with c | c
  · exact c
  · have := dfy_mono c
    have := yod_lo d
    omega
theorem w1_start (d : Int) : yod d - 1 ≤ 1970 + (d * 400).fdiv 146097 ∧ 1970 + (d * 400).fdiv 146097 ≤ yod d + 1 := yod_near d
theorem w1_turn {d y : Int} (p : yod d - 1 ≤ y ∧ y ≤ yod d + 1) (h : d < dfy y) : yod d - 1 ≤ y - 1 ∧ y - 1 ≤ yod d + 1 := by
  have := yod_lt h
  omega
theorem w2_start {d y : Int} (p : yod d - 1 ≤ y ∧ y ≤ yod d + 1) (h : ¬ d < dfy y) : yod d - 1 ≤ y ∧ y ≤ yod d := by
  have := yod_ge (d := d) (y := y) (by omega)
  omega
theorem w2_turn {d y : Int} (p : yod d - 1 ≤ y ∧ y ≤ yod d) (h : dfy (y + 1) ≤ d) : yod d - 1 ≤ y + 1 ∧ y + 1 ≤ yod d := by
  have := yod_ge h
  omega
theorem w2_end {d y : Int} (p : yod d - 1 ≤ y ∧ y ≤ yod d) (h : ¬ dfy (y + 1) ≤ d) : y = yod d := by
  have := yod_le (d := d) (y := y) (by omega)
  omega
theorem w1_less {d y : Int} (h : d < dfy y) : (y - 1 - yod d).toNat < (y - yod d).toNat := by
  have := yod_lt h
  omega
theorem w2_less {d y : Int} (h : dfy (y + 1) ≤ d) : (yod d - (y + 1)).toNat < (yod d - y).toNat := by
  have := yod_ge h
  omega
end Mine

namespace Mine
theorem m_start (l : Bool) (p : Int) : (0 : Int) ≤ 0 ∧ 0 ≤ moy l p := ⟨Int.le_refl _, (moy_range l p).1⟩
theorem m_turn {x m : Int} (p : 0 ≤ m ∧ m ≤ moy (leap (yearOf x)) (diyr x)) (h : ahd (m + 1) (leap (yearOf x)) ≤ diyr x) : 0 ≤ m + 1 ∧ m + 1 ≤ moy (leap (yearOf x)) (diyr x) := by
  have := moy_range (leap (yearOf x)) (diyr x)
  have := moy_ge _ (diyr_hi x) (m := m + 1) (by omega) (by omega) h
  omega
theorem m_less {x m : Int} (p : 0 ≤ m ∧ m ≤ moy (leap (yearOf x)) (diyr x)) (h : ahd (m + 1) (leap (yearOf x)) ≤ diyr x) : (moy (leap (yearOf x)) (diyr x) - (m + 1)).toNat < (moy (leap (yearOf x)) (diyr x) - m).toNat := by
  have := m_turn p h
  omega
theorem m_end {x m : Int} (p : 0 ≤ m ∧ m ≤ moy (leap (yearOf x)) (diyr x)) (h : ¬ ahd (m + 1) (leap (yearOf x)) ≤ diyr x) : m = monOf x := by
  have := moy_range (leap (yearOf x)) (diyr x)
  have := moy_le (leap (yearOf x)) (diyr_lo x) (m := m) (by omega) (by omega) (by omega)
  unfold monOf
  omega
theorem m_pre {l : Bool} {p m : Int} (h0 : 0 ≤ m) (h : m ≤ moy l p) : 0 ≤ m + 1 ∧ m + 1 ≤ 12 := by
  have := moy_range l p
  omega
theorem mon_range (x : Int) : 0 ≤ monOf x ∧ monOf x ≤ 11 := moy_range _ _
theorem mon_pre (x : Int) : 0 ≤ monOf x ∧ monOf x ≤ 12 := by
  have := mon_range x
  omega
theorem dom_pre {m : Int} (h : 0 ≤ m ∧ m ≤ 11) : 0 ≤ m + 1 ∧ m + 1 ≤ 12 := by omega
theorem dom_pre' {m : Int} (h : 0 ≤ m ∧ m ≤ 11) : 0 ≤ m ∧ m ≤ 12 := by omega
theorem twelve_pre (m : Int) : 0 ≤ m.fmod 12 ∧ m.fmod 12 ≤ 12 := by
  rw [fm _ (by decide)]
  omega
end Mine

namespace Mine
theorem ahd_t {m : Int} {l : Bool} (hl : l = true) (h : 1 < m) : [0, 31, 59, 90, 120, 151, 181, 212, 243, 273, 304, 334, 365].getD m.toNat 0 + 1 = ahd m l := by
  unfold ahd
  rw [hl, decide_eq_true h]
  rfl
theorem ahd_f {m : Int} {l : Bool} (h : ¬ 1 < m) : [0, 31, 59, 90, 120, 151, 181, 212, 243, 273, 304, 334, 365].getD m.toNat 0 + 0 = ahd m l := by
  unfold ahd
  rw [decide_eq_false h, Bool.and_false]
  rfl
theorem ahd_l {m : Int} {l : Bool} (hl : l = false) : [0, 31, 59, 90, 120, 151, 181, 212, 243, 273, 304, 334, 365].getD m.toNat 0 + 0 = ahd m l := by
  unfold ahd
  rw [hl, Bool.false_and]
  rfl
end Mine

namespace Mine
theorem dayOf_eq (x : Int) : dayOf x = x / 86400000 := fd _ (by decide)
theorem timeIn_eq (x : Int) : timeIn x = x % 86400000 := fm _ (by decide)
theorem dayOf_mk {d r : Int} (h0 : 0 ≤ r) (h1 : r < 86400000) : dayOf (mkDate d r) = d := by
  rw [dayOf_eq]
  unfold mkDate
  omega
theorem timeIn_mk {d r : Int} (h0 : 0 ≤ r) (h1 : r < 86400000) : timeIn (mkDate d r) = r := by
  rw [timeIn_eq]
  unfold mkDate
  omega
theorem dayOf_next (x : Int) : dayOf (x + 86400000) = dayOf x + 1 := by
  rw [dayOf_eq, dayOf_eq]
  omega
theorem mkTime_of (x : Int) : mkTime (hourOf x) (minOf x) (secOf x) (msOf x) = timeIn x := by
  unfold mkTime hourOf minOf secOf msOf
  rw [fm x (by decide), timeIn_eq, fd _ (by decide), fd _ (by decide), fd _ (by decide), fm _ (by decide), fm _ (by decide)]
  omega
theorem fdiv12 {m : Int} (h0 : 0 ≤ m) (h1 : m ≤ 11) : m.fdiv 12 = 0 := by
  rw [fd _ (by decide)]
  omega
theorem fmod12 {m : Int} (h0 : 0 ≤ m) (h1 : m ≤ 11) : m.fmod 12 = m := by
  rw [fm _ (by decide)]
  omega
theorem mkDay_of (x f : Int) : mkDay (yearOf x) (monOf x) (dateOf x + f) = dayOf x + f := by
  have h := mon_range x
  unfold mkDay
  rw [fdiv12 h.1 h.2, fmod12 h.1 h.2, Int.add_zero]
  unfold dateOf diyr
  omega
theorem mkDay_of0 (x : Int) : mkDay (yearOf x) (monOf x) (dateOf x) = dayOf x := by
  have := mkDay_of x 0
  rwa [Int.add_zero, Int.add_zero] at this
theorem c_time (x : Int) : mkDate (mkDay (yearOf x) (monOf x) (dateOf x)) (mkTime (hourOf x) (minOf x) (secOf x) (msOf x)) = x := by
  rw [mkDay_of0, mkTime_of, dayOf_eq, timeIn_eq]
  unfold mkDate
  omega
theorem c_rest {d r : Int} (h0 : 0 ≤ r) (h1 : r < 86400000) : mkTime (hourOf (mkDate d r)) (minOf (mkDate d r)) (secOf (mkDate d r)) (msOf (mkDate d r)) = r := by
  rw [mkTime_of, timeIn_mk h0 h1]
theorem mon_lo (x : Int) : ahd (monOf x) (leap (yearOf x)) ≤ diyr x := moy_lo _ (diyr_lo x)
theorem mon_hi (x : Int) : diyr x < ahd (monOf x + 1) (leap (yearOf x)) := moy_hi _ (diyr_hi x)
/-- the fields of a day, by what they are -/
theorem fields_is {x y m : Int} (h0 : 0 ≤ m) (h1 : m ≤ 11) (hy : dfy y ≤ dayOf x) (hy' : dayOf x < dfy (y + 1)) (hm : ahd m (leap y) ≤ dayOf x - dfy y) (hm' : dayOf x - dfy y < ahd (m + 1) (leap y)) :
    yearOf x = y ∧ monOf x = m ∧ dateOf x = dayOf x - dfy y - ahd m (leap y) + 1 := by
  have e : yearOf x = y := yod_is hy hy'
  have hp : diyr x = dayOf x - dfy y := by unfold diyr; rw [e]
  have e2 : monOf x = m := by
    unfold monOf
    rw [e, hp]
    have a := moy_le (leap y) (p := dayOf x - dfy y) (by omega) h0 h1 hm'
    have hh : dayOf x - dfy y < ahd 12 (leap y) := by
      rw [ahd_12']
      have := dfy_next y
      omega
    have b := moy_ge (leap y) hh h0 (by omega) hm
    omega
  refine ⟨e, e2, ?_⟩
  unfold dateOf
  rw [e2, e, hp]
theorem due1 {x : Int} (h : dateOf x < dom (yearOf x) (monOf x)) : yearOf (x + 86400000) = yearOf x ∧ monOf (x + 86400000) = monOf x ∧ dateOf (x + 86400000) = dateOf x + 1 := by
  have hr := mon_range x
  have hl := mon_lo x
  have hh := mon_hi x
  have hn := dfy_next (yearOf x)
  have hm := ahd_mono (leap (yearOf x)) (a := monOf x + 1) (b := 12) (by omega) (by omega) (by omega)
  rw [ahd_12'] at hm
  have d0 := dayOf_next x
  unfold dom dateOf at h
  have hd : diyr x = dayOf x - dfy (yearOf x) := rfl
  have h0 := diyr_lo x
  obtain ⟨a, b, c⟩ := fields_is (x := x + 86400000) (y := yearOf x) (m := monOf x) hr.1 hr.2 (by omega) (by omega) (by omega) (by omega)
  refine ⟨a, b, ?_⟩
  rw [c]
  unfold dateOf
  omega
theorem due2 {x : Int} (h : ¬ dateOf x < dom (yearOf x) (monOf x)) (h11 : monOf x < 11) : yearOf (x + 86400000) = yearOf x ∧ monOf (x + 86400000) = monOf x + 1 ∧ dateOf (x + 86400000) = 1 := by
  have hr := mon_range x
  have hl := mon_lo x
  have hh := mon_hi x
  have hn := dfy_next (yearOf x)
  have hs := ahd_step (leap (yearOf x)) (m := monOf x + 1) (by omega) (by omega)
  have hm := ahd_mono (leap (yearOf x)) (a := monOf x + 1 + 1) (b := 12) (by omega) (by omega) (by omega)
  rw [ahd_12'] at hm
  have d0 := dayOf_next x
  unfold dom dateOf at h
  have hd : diyr x = dayOf x - dfy (yearOf x) := rfl
  have h0 := diyr_lo x
  obtain ⟨a, b, c⟩ := fields_is (x := x + 86400000) (y := yearOf x) (m := monOf x + 1) (by omega) (by omega) (by omega) (by omega) (by omega) (by omega)
  refine ⟨a, b, ?_⟩
  rw [c]
  omega
theorem due3 {x : Int} (h : ¬ dateOf x < dom (yearOf x) (monOf x)) (h11 : ¬ monOf x < 11) : yearOf (x + 86400000) = yearOf x + 1 ∧ monOf (x + 86400000) = 0 ∧ dateOf (x + 86400000) = 1 := by
  have hr := mon_range x
  have e : monOf x = 11 := by omega
  have hh := diyr_hi x
  have hn := dfy_next (yearOf x)
  have hn' := dfy_next (yearOf x + 1)
  have hc := diy_cases (yearOf x + 1)
  unfold dom dateOf at h
  rw [e] at h
  have e12 : (11 : Int) + 1 = 12 := rfl
  rw [e12] at h
  rw [ahd_12'] at h hh
  have d0 := dayOf_next x
  have hd : diyr x = dayOf x - dfy (yearOf x) := rfl
  have z := ahd_0 (leap (yearOf x + 1))
  have s := ahd_step (leap (yearOf x + 1)) (m := 0) (by omega) (by omega)
  obtain ⟨a, b, c⟩ := fields_is (x := x + 86400000) (y := yearOf x + 1) (m := 0) (by omega) (by omega) (by omega) (by omega) (by omega) (by omega)
  refine ⟨a, b, ?_⟩
  rw [c]
  omega
theorem c_wday (x : Int) : wday (x + 86400000) = (wday x + 1).fmod 7 := by
  unfold wday
  rw [dayOf_next, fm _ (by decide), fm _ (by decide), fm _ (by decide)]
  omega
theorem c_months (y m k d : Int) : mkDay y (m + k) d = mkDay (y + (m + k).fdiv 12) ((m + k).fmod 12) d := by
  have h : 0 ≤ (m + k).fmod 12 ∧ (m + k).fmod 12 ≤ 11 := by
    rw [fm _ (by decide)]
    omega
  unfold mkDay
  rw [fdiv12 h.1 h.2, fmod12 h.1 h.2, Int.add_zero]
theorem c_years (y m k d : Int) : mkDay (y + k) m d = mkDay y (m + 12 * k) d := by
  unfold mkDay
  have e : (m + 12 * k).fdiv 12 = k + m.fdiv 12 := by
    rw [fd _ (by decide), fd _ (by decide)]
    omega
  have e2 : (m + 12 * k).fmod 12 = m.fmod 12 := by
    rw [fm _ (by decide), fm _ (by decide)]
    omega
  rw [e, e2, ← Int.add_assoc y k]
theorem c_days {d r : Int} (f : Int) (h0 : 0 ≤ r) (h1 : r < 86400000) : mkDay (yearOf (mkDate d r)) (monOf (mkDate d r)) (dateOf (mkDate d r) + f) = d + f := by
  rw [mkDay_of, dayOf_mk h0 h1]
theorem c_utc (x o : Int) : utcOf (localOf x o) o = x := by
  unfold utcOf localOf
  omega
theorem c_local (x o : Int) : localOf x o - x = o * 60000 := by
  unfold localOf
  omega
theorem c_next (y : Int) : dfy y + diy y = dfy (y + 1) := (dfy_next y).symm
theorem c_first (y : Int) : yod (dfy y) = y := yod_is (Int.le_refl _) (by have := dfy_next y; have := diy_cases y; omega)
theorem c_before (y : Int) : yod (dfy y - 1) = y - 1 := by
  have h := dfy_next (y - 1)
  have c := diy_cases (y - 1)
  rw [Int.sub_add_cancel] at h
  refine yod_is (by omega) ?_
  rw [Int.sub_add_cancel]
  omega
theorem c_lo {d r : Int} (h0 : 0 ≤ r) (h1 : r < 86400000) : dfy (yearOf (mkDate d r)) ≤ d := by
  have h := yod_lo (dayOf (mkDate d r))
  have e := dayOf_mk (d := d) h0 h1
  unfold yearOf
  rw [e] at h ⊢
  exact h
theorem c_hi {d r : Int} (h0 : 0 ≤ r) (h1 : r < 86400000) : d < dfy (yearOf (mkDate d r)) + diy (yearOf (mkDate d r)) := by
  rw [c_next]
  have h := yod_hi (dayOf (mkDate d r))
  have e := dayOf_mk (d := d) h0 h1
  unfold yearOf
  rw [e] at h ⊢
  exact h
theorem dom_sum (y : Int) : dom y 0 + dom y 1 + dom y 2 + dom y 3 + dom y 4 + dom y 5 + dom y 6 + dom y 7 + dom y 8 + dom y 9 + dom y 10 + dom y 11 = diy y := by
  unfold dom diy
  cases leap y <;> decide
end Mine

open PySem PySem.W PyProof.Rows PySem.Spec PySem.Calls
namespace Mine
set_option maxHeartbeats 8000000 in
open_top hd for PySem.Challenge.rw_sa0356_01

def Says (n : Nat) (w : World) (mean : ExcName → Option Value) (mg mb : Str → Option Value) (f : Addr) (pre : Prop) (vs : List Value) (r : Tok → Value) : Prop :=
  ∀ (dp un : Nat) (gd : Option (List Code)) (cn : Str) (cs : Scope) (a : Addr) (ccd : Value) (cl : List (Str × Addr)) (outer : List Env) (A₀ : Around) (base h₀ : Heap) (L : Addr) (m : Str → Option Value) (news : List (Addr × Obj)) (s : Shared) (Q E : Value → Shared → Prop),
    Below A₀ base outer h₀ → Fr h₀ L s.heap m → (hd.heap_39 w.params).In h₀ → News h₀ L s.heap news → Top hd.view_39 (looseW hd.view_39 [Str.ofString "AHEAD"]) mean mg mb h₀ → cs.kind = .function →
    pre → dp + n < recursionLimit → un + 8 * n < cLine →
    (∀ (t : Tok) (h' : Heap) (tk' : Nat), Fr h₀ L h' m → News h₀ L h' news → Q (r t) { s with heap := h', toks := tk' }) →
    wpAny (model PySem.Challenge.rw_sa0356_01.row.prog w) (ktrTop dp un gd cn cs L a ccd cl outer) (call (.ref f) vs) Q E s

theorem says_use {n : Nat} {w : World} {mean : ExcName → Option Value} {mg mb : Str → Option Value} {f : Addr} {pre : Prop} {vs : List Value} {r : Tok → Value}
    {dp un : Nat} {gd : Option (List Code)} {cn : Str} {cs : Scope} {a : Addr} {ccd : Value} {cl : List (Str × Addr)} {outer : List Env} {A₀ : Around} {base h₀ : Heap} {L : Addr} {m : Str → Option Value} {news : List (Addr × Obj)} {s : Shared} {Q E : Value → Shared → Prop}
    (C : Says n w mean mg mb f pre vs r) (B : Below A₀ base outer h₀) (F : Fr h₀ L s.heap m) (X : (hd.heap_39 w.params).In h₀) (N : News h₀ L s.heap news) (T : Top hd.view_39 (looseW hd.view_39 [Str.ofString "AHEAD"]) mean mg mb h₀) (hk : cs.kind = .function)
    (hp : pre) (hd : dp + n < recursionLimit) (hu : un + 8 * n < cLine)
    (ret : ∀ (t : Tok) (h' : Heap) (tk' : Nat), Fr h₀ L h' m → News h₀ L h' news → Q (r t) { s with heap := h', toks := tk' }) :
    wpAny (model PySem.Challenge.rw_sa0356_01.row.prog w) (ktrTop dp un gd cn cs L a ccd cl outer) (call (.ref f) vs) Q E s :=
  C _ _ _ _ _ _ _ _ _ _ _ _ _ _ _ _ _ _ B F X N T hk hp hd hu ret

variable {w : World} {mean : ExcName → Option Value} {mg mb : Str → Option Value}
set_option maxHeartbeats 8000000 in
theorem s_day_of {x : Int} {tx : Tok} : Says 1 w mean mg mb 22 (True) [.int x tx] (fun t => .int (dayOf x) t) := by
  unfold Says
  k_fill
  intro dp un gd cn cs a ccd cl outer A₀ base h₀ L m news s Q E B F X N T hk hp hd hu hret
  k_with_none
  refine wpAny_call ?_
  k_dflt cell_enter
  k_steps
  all_goals cb_end hret
local macro_rules | `(tactic| walk_at "call ref") => `(tactic| (k_here; (with_reducible show wpAny _ _ (PySem.call (Value.ref 22) _) _ _ _); k_dflt (refine' says_use (s_day_of (w := _) (mean := _) (mg := _) (mb := _)) (by k_asm) (by k_asm) (by k_asm) (by k_asm) (by k_asm) (by first | exact rfl | assumption) (by first | trivial | ((try dsimp only); first | assumption | omega | l_fact | k_extra "pre")) (by ktr_room) (by ktr_units) ?_); intro t9 h9 tk9 F9 N9; (try dsimp only); (try k_fold)))

set_option maxHeartbeats 8000000 in
theorem s_time_in_day {x : Int} {tx : Tok} : Says 1 w mean mg mb 29 (True) [.int x tx] (fun t => .int (timeIn x) t) := by
  unfold Says
  k_fill
  intro dp un gd cn cs a ccd cl outer A₀ base h₀ L m news s Q E B F X N T hk hp hd hu hret
  k_with_none
  refine wpAny_call ?_
  k_dflt cell_enter
  k_steps
  all_goals cb_end hret
local macro_rules | `(tactic| walk_at "call ref") => `(tactic| (k_here; (with_reducible show wpAny _ _ (PySem.call (Value.ref 29) _) _ _ _); k_dflt (refine' says_use (s_time_in_day (w := _) (mean := _) (mg := _) (mb := _)) (by k_asm) (by k_asm) (by k_asm) (by k_asm) (by k_asm) (by first | exact rfl | assumption) (by first | trivial | ((try dsimp only); first | assumption | omega | l_fact | k_extra "pre")) (by ktr_room) (by ktr_units) ?_); intro t9 h9 tk9 F9 N9; (try dsimp only); (try k_fold)))

set_option maxHeartbeats 8000000 in
theorem s_is_leap_year {y : Int} {ty : Tok} : Says 1 w mean mg mb 36 (True) [.int y ty] (fun _ => .bool (leap y)) := by
  unfold Says
  k_fill
  intro dp un gd cn cs a ccd cl outer A₀ base h₀ L m news s Q E B F X N T hk hp hd hu hret
  k_with_none
  k_with "tree" => (simp_all [Mine.leap]; done)
  refine wpAny_call ?_
  k_dflt cell_enter
  k_steps
  all_goals cb_end hret
local macro_rules | `(tactic| walk_at "call ref") => `(tactic| (k_here; (with_reducible show wpAny _ _ (PySem.call (Value.ref 36) _) _ _ _); k_dflt (refine' says_use (s_is_leap_year (w := _) (mean := _) (mg := _) (mb := _)) (by k_asm) (by k_asm) (by k_asm) (by k_asm) (by k_asm) (by first | exact rfl | assumption) (by first | trivial | ((try dsimp only); first | assumption | omega | l_fact | k_extra "pre")) (by ktr_room) (by ktr_units) ?_); intro t9 h9 tk9 F9 N9; (try dsimp only); (try k_fold)))

set_option maxHeartbeats 8000000 in
theorem s_days_of_year {y : Int} {ty : Tok} : Says 2 w mean mg mb 43 (True) [.int y ty] (fun t => .int (diy y) t) := by
  unfold Says
  k_fill
  intro dp un gd cn cs a ccd cl outer A₀ base h₀ L m news s Q E B F X N T hk hp hd hu hret
  k_with_none
  k_with "tree" => (simp_all [Mine.diy]; done)
  refine wpAny_call ?_
  k_dflt cell_enter
  k_steps
  all_goals cb_end hret
local macro_rules | `(tactic| walk_at "call ref") => `(tactic| (k_here; (with_reducible show wpAny _ _ (PySem.call (Value.ref 43) _) _ _ _); k_dflt (refine' says_use (s_days_of_year (w := _) (mean := _) (mg := _) (mb := _)) (by k_asm) (by k_asm) (by k_asm) (by k_asm) (by k_asm) (by first | exact rfl | assumption) (by first | trivial | ((try dsimp only); first | assumption | omega | l_fact | k_extra "pre")) (by ktr_room) (by ktr_units) ?_); intro t9 h9 tk9 F9 N9; (try dsimp only); (try k_fold)))

set_option maxHeartbeats 8000000 in
theorem s_day_from_year {y : Int} {ty : Tok} : Says 1 w mean mg mb 50 (True) [.int y ty] (fun t => .int (dfy y) t) := by
  unfold Says
  k_fill
  intro dp un gd cn cs a ccd cl outer A₀ base h₀ L m news s Q E B F X N T hk hp hd hu hret
  k_with_none
  refine wpAny_call ?_
  k_dflt cell_enter
  k_steps
  all_goals cb_end hret
local macro_rules | `(tactic| walk_at "call ref") => `(tactic| (k_here; (with_reducible show wpAny _ _ (PySem.call (Value.ref 50) _) _ _ _); k_dflt (refine' says_use (s_day_from_year (w := _) (mean := _) (mg := _) (mb := _)) (by k_asm) (by k_asm) (by k_asm) (by k_asm) (by k_asm) (by first | exact rfl | assumption) (by first | trivial | ((try dsimp only); first | assumption | omega | l_fact | k_extra "pre")) (by ktr_room) (by ktr_units) ?_); intro t9 h9 tk9 F9 N9; (try dsimp only); (try k_fold)))

set_option maxHeartbeats 8000000 in
theorem s_year_of_day {d : Int} {td : Tok} : Says 2 w mean mg mb 57 (True) [.int d td] (fun t => .int (yod d) t) := by
  unfold Says
  k_fill
  intro dp un gd cn cs a ccd cl outer A₀ base h₀ L m news s Q E B F X N T hk hp hd hu hret
  k_with_none
  k_with "exec While Compare cons nil" => first | k_while_given ["day"] (fun day _ year => yod day - 1 ≤ year ∧ year ≤ yod day) (fun day _ year => (yod day - year).toNat) "year" | k_while_given ["day"] (fun day _ year => yod day - 1 ≤ year ∧ year ≤ yod day + 1) (fun day _ year => (year - yod day).toNat) "year"
  k_with "state" => (first | exact Mine.w1_start _ | exact Mine.w1_turn ⟨by assumption, by assumption⟩ (by assumption) | exact Mine.w2_start ⟨by assumption, by assumption⟩ (by assumption) | exact Mine.w2_turn ⟨by assumption, by assumption⟩ (by assumption))
  k_with "measure" => (first | exact Mine.w1_less (by assumption) | exact Mine.w2_less (by assumption))
  k_with "tree" => (exact Mine.w2_end ⟨by assumption, by assumption⟩ (by assumption))
  refine wpAny_call ?_
  k_dflt cell_enter
  k_steps
  all_goals cb_end hret
local macro_rules | `(tactic| walk_at "call ref") => `(tactic| (k_here; (with_reducible show wpAny _ _ (PySem.call (Value.ref 57) _) _ _ _); k_dflt (refine' says_use (s_year_of_day (w := _) (mean := _) (mg := _) (mb := _)) (by k_asm) (by k_asm) (by k_asm) (by k_asm) (by k_asm) (by first | exact rfl | assumption) (by first | trivial | ((try dsimp only); first | assumption | omega | l_fact | k_extra "pre")) (by ktr_room) (by ktr_units) ?_); intro t9 h9 tk9 F9 N9; (try dsimp only); (try k_fold)))


theorem top_list_any {prog : Program} {A : Around} {E : Value → Shared → Prop} {s : Shared} {K : Frag} {h₀ : Heap} {L a : Addr} {m : Str → Option Value} {n : Nat} {value slice : PySem.Expr} {l : List Value} {ns : List Int} {dd : Option Addr} {sl : Array (Option Value)} {k : Int} {u : Tok} {Q : Value → Shared → Prop} (F : Fr h₀ L s.heap m) (X₀ : K.In h₀)
    (hl : K.lookup a = some ⟨.type "list", dd, .seq l.toArray n, sl⟩) (hi : IntsAre l ns) (h0 : 0 ≤ k) (h1 : k < ns.length) (hfit : k < 2 ^ 63) (h : ∀ t, Q (.int (ns.getD k.toNat 0) t) s)
    (hs : subscripted slice false (.ref a) (.int k u) = operate [.ref a, .int k u] (getItem (.ref a) (.int k u)) := by with_unfolding_all rfl) :
    wpAny (model prog w) A (subscriptTail value slice (.ref a) (.int k u)) Q E s := by
  obtain ⟨t, hx⟩ := hi.get k.toNat _ (ints_getD h0 h1)
  exact topList_K F X₀ hl h0 hfit hx (h t) hs
local macro_rules | `(tactic| walk_at "subscriptTail Name Name ref int") => `(tactic| (k_here; (with_reducible show wpAny _ _ (subscriptTail _ _ (Value.ref _) (Value.int _ _)) _ _ _); k_dflt (refine' top_list_any (ns := [0, 31, 59, 90, 120, 151, 181, 212, 243, 273, 304, 334, 365]) (by k_asm) (by k_asm) (by k_is) (by l_ints) (by omega) (by (simp only [List.length_cons, List.length_nil]; omega)) (by omega) ?_); intro _))
set_option maxHeartbeats 8000000 in
theorem s_days_ahead {m : Int} {tm : Tok} {l : Bool} : Says 1 w mean mg mb 78 (0 ≤ m ∧ m ≤ 12) [.int m tm, .bool l] (fun t => .int (ahd m l) t) := by
  unfold Says
  k_fill
  intro dp un gd cn cs a ccd cl outer A₀ base h₀ L m news s Q E B F X N T hk hp hd hu hret
  k_with_none
  k_with "tree" => (first | exact Mine.ahd_t (by assumption) (by assumption) | exact Mine.ahd_f (by assumption) | exact Mine.ahd_l (by assumption))
  refine wpAny_call ?_
  k_dflt cell_enter
  k_steps
  all_goals cb_end hret
local macro_rules | `(tactic| walk_at "call ref") => `(tactic| (k_here; (with_reducible show wpAny _ _ (PySem.call (Value.ref 78) _) _ _ _); k_dflt (refine' says_use (s_days_ahead (w := _) (mean := _) (mg := _) (mb := _)) (by k_asm) (by k_asm) (by k_asm) (by k_asm) (by k_asm) (by first | exact rfl | assumption) (by first | trivial | ((try dsimp only); first | assumption | omega | l_fact | k_extra "pre")) (by ktr_room) (by ktr_units) ?_); intro t9 h9 tk9 F9 N9; (try dsimp only); (try k_fold)))

set_option maxHeartbeats 8000000 in
theorem s_year_of {x : Int} {tx : Tok} : Says 3 w mean mg mb 64 (True) [.int x tx] (fun t => .int (yearOf x) t) := by
  unfold Says
  k_fill
  intro dp un gd cn cs a ccd cl outer A₀ base h₀ L m news s Q E B F X N T hk hp hd hu hret
  k_with_none
  refine wpAny_call ?_
  k_dflt cell_enter
  k_steps
  all_goals cb_end hret
local macro_rules | `(tactic| walk_at "call ref") => `(tactic| (k_here; (with_reducible show wpAny _ _ (PySem.call (Value.ref 64) _) _ _ _); k_dflt (refine' says_use (s_year_of (w := _) (mean := _) (mg := _) (mb := _)) (by k_asm) (by k_asm) (by k_asm) (by k_asm) (by k_asm) (by first | exact rfl | assumption) (by first | trivial | ((try dsimp only); first | assumption | omega | l_fact | k_extra "pre")) (by ktr_room) (by ktr_units) ?_); intro t9 h9 tk9 F9 N9; (try dsimp only); (try k_fold)))

set_option maxHeartbeats 8000000 in
theorem s_day_in_year {x : Int} {tx : Tok} : Says 4 w mean mg mb 71 (True) [.int x tx] (fun t => .int (diyr x) t) := by
  unfold Says
  k_fill
  intro dp un gd cn cs a ccd cl outer A₀ base h₀ L m news s Q E B F X N T hk hp hd hu hret
  k_with_none
  refine wpAny_call ?_
  k_dflt cell_enter
  k_steps
  all_goals cb_end hret
local macro_rules | `(tactic| walk_at "call ref") => `(tactic| (k_here; (with_reducible show wpAny _ _ (PySem.call (Value.ref 71) _) _ _ _); k_dflt (refine' says_use (s_day_in_year (w := _) (mean := _) (mg := _) (mb := _)) (by k_asm) (by k_asm) (by k_asm) (by k_asm) (by k_asm) (by first | exact rfl | assumption) (by first | trivial | ((try dsimp only); first | assumption | omega | l_fact | k_extra "pre")) (by ktr_room) (by ktr_units) ?_); intro t9 h9 tk9 F9 N9; (try dsimp only); (try k_fold)))

set_option maxHeartbeats 8000000 in
theorem s_days_of_month {y : Int} {ty : Tok} {m : Int} {tm : Tok} : Says 2 w mean mg mb 85 (0 ≤ m ∧ m ≤ 11) [.int y ty, .int m tm] (fun t => .int (dom y m) t) := by
  unfold Says
  k_fill
  intro dp un gd cn cs a ccd cl outer A₀ base h₀ L m news s Q E B F X N T hk hp hd hu hret
  k_with_none
  k_with "pre" => (first | exact Mine.dom_pre (by assumption) | exact Mine.dom_pre' (by assumption))
  refine wpAny_call ?_
  k_dflt cell_enter
  k_steps
  all_goals cb_end hret
local macro_rules | `(tactic| walk_at "call ref") => `(tactic| (k_here; (with_reducible show wpAny _ _ (PySem.call (Value.ref 85) _) _ _ _); k_dflt (refine' says_use (s_days_of_month (w := _) (mean := _) (mg := _) (mb := _)) (by k_asm) (by k_asm) (by k_asm) (by k_asm) (by k_asm) (by first | exact rfl | assumption) (by first | trivial | ((try dsimp only); first | assumption | omega | l_fact | k_extra "pre")) (by ktr_room) (by ktr_units) ?_); intro t9 h9 tk9 F9 N9; (try dsimp only); (try k_fold)))

set_option maxHeartbeats 8000000 in
theorem s_month_of {x : Int} {tx : Tok} : Says 5 w mean mg mb 92 (True) [.int x tx] (fun t => .int (monOf x) t) := by
  unfold Says
  k_fill
  intro dp un gd cn cs a ccd cl outer A₀ base h₀ L m news s Q E B F X N T hk hp hd hu hret
  k_with_none
  k_with "exec While Compare cons nil" => k_while_given ["is_leap", "past"] (fun l p _ m => 0 ≤ m ∧ m ≤ moy l p) (fun l p _ m => (moy l p - m).toNat) "month"
  k_with "pre" => (exact Mine.m_pre (by assumption) (by assumption))
  k_with "state" => (first | exact Mine.m_start _ _ | exact Mine.m_turn ⟨by assumption, by assumption⟩ (by assumption))
  k_with "measure" => (exact Mine.m_less ⟨by assumption, by assumption⟩ (by assumption))
  k_with "tree" => (exact Mine.m_end ⟨by assumption, by assumption⟩ (by assumption))
  refine wpAny_call ?_
  k_dflt cell_enter
  k_steps
  all_goals cb_end hret
local macro_rules | `(tactic| walk_at "call ref") => `(tactic| (k_here; (with_reducible show wpAny _ _ (PySem.call (Value.ref 92) _) _ _ _); k_dflt (refine' says_use (s_month_of (w := _) (mean := _) (mg := _) (mb := _)) (by k_asm) (by k_asm) (by k_asm) (by k_asm) (by k_asm) (by first | exact rfl | assumption) (by first | trivial | ((try dsimp only); first | assumption | omega | l_fact | k_extra "pre")) (by ktr_room) (by ktr_units) ?_); intro t9 h9 tk9 F9 N9; (try dsimp only); (try k_fold)))

set_option maxHeartbeats 8000000 in
theorem s_date_of {x : Int} {tx : Tok} : Says 6 w mean mg mb 99 (True) [.int x tx] (fun t => .int (dateOf x) t) := by
  unfold Says
  k_fill
  intro dp un gd cn cs a ccd cl outer A₀ base h₀ L m news s Q E B F X N T hk hp hd hu hret
  k_with_none
  k_with "pre" => (exact Mine.mon_pre _)
  refine wpAny_call ?_
  k_dflt cell_enter
  k_steps
  all_goals cb_end hret
local macro_rules | `(tactic| walk_at "call ref") => `(tactic| (k_here; (with_reducible show wpAny _ _ (PySem.call (Value.ref 99) _) _ _ _); k_dflt (refine' says_use (s_date_of (w := _) (mean := _) (mg := _) (mb := _)) (by k_asm) (by k_asm) (by k_asm) (by k_asm) (by k_asm) (by first | exact rfl | assumption) (by first | trivial | ((try dsimp only); first | assumption | omega | l_fact | k_extra "pre")) (by ktr_room) (by ktr_units) ?_); intro t9 h9 tk9 F9 N9; (try dsimp only); (try k_fold)))

set_option maxHeartbeats 8000000 in
theorem s_week_day_of {x : Int} {tx : Tok} : Says 2 w mean mg mb 106 (True) [.int x tx] (fun t => .int (wday x) t) := by
  unfold Says
  k_fill
  intro dp un gd cn cs a ccd cl outer A₀ base h₀ L m news s Q E B F X N T hk hp hd hu hret
  k_with_none
  refine wpAny_call ?_
  k_dflt cell_enter
  k_steps
  all_goals cb_end hret
local macro_rules | `(tactic| walk_at "call ref") => `(tactic| (k_here; (with_reducible show wpAny _ _ (PySem.call (Value.ref 106) _) _ _ _); k_dflt (refine' says_use (s_week_day_of (w := _) (mean := _) (mg := _) (mb := _)) (by k_asm) (by k_asm) (by k_asm) (by k_asm) (by k_asm) (by first | exact rfl | assumption) (by first | trivial | ((try dsimp only); first | assumption | omega | l_fact | k_extra "pre")) (by ktr_room) (by ktr_units) ?_); intro t9 h9 tk9 F9 N9; (try dsimp only); (try k_fold)))

set_option maxHeartbeats 8000000 in
theorem s_hour_of {x : Int} {tx : Tok} : Says 2 w mean mg mb 113 (True) [.int x tx] (fun t => .int (hourOf x) t) := by
  unfold Says
  k_fill
  intro dp un gd cn cs a ccd cl outer A₀ base h₀ L m news s Q E B F X N T hk hp hd hu hret
  k_with_none
  refine wpAny_call ?_
  k_dflt cell_enter
  k_steps
  all_goals cb_end hret
local macro_rules | `(tactic| walk_at "call ref") => `(tactic| (k_here; (with_reducible show wpAny _ _ (PySem.call (Value.ref 113) _) _ _ _); k_dflt (refine' says_use (s_hour_of (w := _) (mean := _) (mg := _) (mb := _)) (by k_asm) (by k_asm) (by k_asm) (by k_asm) (by k_asm) (by first | exact rfl | assumption) (by first | trivial | ((try dsimp only); first | assumption | omega | l_fact | k_extra "pre")) (by ktr_room) (by ktr_units) ?_); intro t9 h9 tk9 F9 N9; (try dsimp only); (try k_fold)))

set_option maxHeartbeats 8000000 in
theorem s_minute_of {x : Int} {tx : Tok} : Says 2 w mean mg mb 120 (True) [.int x tx] (fun t => .int (minOf x) t) := by
  unfold Says
  k_fill
  intro dp un gd cn cs a ccd cl outer A₀ base h₀ L m news s Q E B F X N T hk hp hd hu hret
  k_with_none
  refine wpAny_call ?_
  k_dflt cell_enter
  k_steps
  all_goals cb_end hret
local macro_rules | `(tactic| walk_at "call ref") => `(tactic| (k_here; (with_reducible show wpAny _ _ (PySem.call (Value.ref 120) _) _ _ _); k_dflt (refine' says_use (s_minute_of (w := _) (mean := _) (mg := _) (mb := _)) (by k_asm) (by k_asm) (by k_asm) (by k_asm) (by k_asm) (by first | exact rfl | assumption) (by first | trivial | ((try dsimp only); first | assumption | omega | l_fact | k_extra "pre")) (by ktr_room) (by ktr_units) ?_); intro t9 h9 tk9 F9 N9; (try dsimp only); (try k_fold)))

set_option maxHeartbeats 8000000 in
theorem s_second_of {x : Int} {tx : Tok} : Says 2 w mean mg mb 127 (True) [.int x tx] (fun t => .int (secOf x) t) := by
  unfold Says
  k_fill
  intro dp un gd cn cs a ccd cl outer A₀ base h₀ L m news s Q E B F X N T hk hp hd hu hret
  k_with_none
  refine wpAny_call ?_
  k_dflt cell_enter
  k_steps
  all_goals cb_end hret
local macro_rules | `(tactic| walk_at "call ref") => `(tactic| (k_here; (with_reducible show wpAny _ _ (PySem.call (Value.ref 127) _) _ _ _); k_dflt (refine' says_use (s_second_of (w := _) (mean := _) (mg := _) (mb := _)) (by k_asm) (by k_asm) (by k_asm) (by k_asm) (by k_asm) (by first | exact rfl | assumption) (by first | trivial | ((try dsimp only); first | assumption | omega | l_fact | k_extra "pre")) (by ktr_room) (by ktr_units) ?_); intro t9 h9 tk9 F9 N9; (try dsimp only); (try k_fold)))

set_option maxHeartbeats 8000000 in
theorem s_ms_of {x : Int} {tx : Tok} : Says 1 w mean mg mb 134 (True) [.int x tx] (fun t => .int (msOf x) t) := by
  unfold Says
  k_fill
  intro dp un gd cn cs a ccd cl outer A₀ base h₀ L m news s Q E B F X N T hk hp hd hu hret
  k_with_none
  refine wpAny_call ?_
  k_dflt cell_enter
  k_steps
  all_goals cb_end hret
local macro_rules | `(tactic| walk_at "call ref") => `(tactic| (k_here; (with_reducible show wpAny _ _ (PySem.call (Value.ref 134) _) _ _ _); k_dflt (refine' says_use (s_ms_of (w := _) (mean := _) (mg := _) (mb := _)) (by k_asm) (by k_asm) (by k_asm) (by k_asm) (by k_asm) (by first | exact rfl | assumption) (by first | trivial | ((try dsimp only); first | assumption | omega | l_fact | k_extra "pre")) (by ktr_room) (by ktr_units) ?_); intro t9 h9 tk9 F9 N9; (try dsimp only); (try k_fold)))

theorem ints_reads {h : Heap} {vs : List Value} {ns : List Int} (hi : IntsAre vs ns) : ∃ as, ReadsAll h vs (ns.map PyData.int) as := by
  induction hi with
  | nil => exact ⟨_, ReadsAll.nil⟩
  | cons n t _ ih =>
    obtain ⟨as, r⟩ := ih
    exact ⟨_, ReadsAll.cons (Reads.int n t) r⟩
theorem ints_lay (ns : List Int) : PyData.canLayAll0 (ns.map PyData.int) = true := by
  induction ns with
  | nil => rfl
  | cons n r ih => simp [PyData.canLayAll0, PyData.canLay0, ih]
theorem ints_none (ns : List Int) : ((ns.map PyData.int).any fun y => PyData.eqv y .none) = false := by
  induction ns with
  | nil => rfl
  | cons n r ih => simp [PyData.eqv]
theorem none_in {prog : Program} {w : World} {A : Around} {E : Value → Shared → Prop} {s : Shared} {h₀ : Heap} {L a : Addr} {news : List (Addr × Obj)} {vs : List Value} {ns : List Int} {oa : Obj} {k : Nat} {Q : Value → Shared → Prop}
    (N : News h₀ L s.heap news) (ma : (a, oa) ∈ news) (ca : oa.cls = .type "tuple") (da : oa.data = .seq vs.toArray k) (hi : IntsAre vs ns) (hu : A.units + 8 < cLine) (h : Q (.bool false) s) :
    wpAny (model prog w) A (compareOp .In .none (.ref a)) Q E s := by
  obtain ⟨as, r⟩ := ints_reads (h := s.heap) hi
  refine SeqAt.in_tuple_reads (reads_tuple_at (N.get ma) ca da (by simpa using r)) Reads.none (ints_lay ns) rfl ?_ (by rw [ints_none]; exact h)
  have := Nat.min_le_right (PyData.depthAll (ns.map PyData.int)) (PyData.none).depth
  have e : (PyData.none).depth ≤ 1 := by decide
  omega
local macro_rules | `(tactic| walk_at "compareOp In none ref") => `(tactic| (k_here; (with_reducible show wpAny _ _ (compareOp CmpOp.In Value.none (Value.ref _)) _ _ _); k_dflt (refine' none_in (by k_asm) (by k_mem) rfl rfl (by l_ints) (by ktr_units) ?_)))
set_option maxHeartbeats 8000000 in
theorem s_make_time {a1 : Int} {ta1 : Tok} {a2 : Int} {ta2 : Tok} {a3 : Int} {ta3 : Tok} {a4 : Int} {ta4 : Tok} : Says 2 w mean mg mb 148 (True) [.int a1 ta1, .int a2 ta2, .int a3 ta3, .int a4 ta4] (fun t => .int (mkTime a1 a2 a3 a4) t) := by
  unfold Says
  k_fill
  intro dp un gd cn cs a ccd cl outer A₀ base h₀ L m news s Q E B F X N T hk hp hd hu hret
  k_with_none
  refine wpAny_call ?_
  k_dflt cell_enter
  k_steps
  all_goals cb_end hret
local macro_rules | `(tactic| walk_at "call ref") => `(tactic| (k_here; (with_reducible show wpAny _ _ (PySem.call (Value.ref 148) _) _ _ _); k_dflt (refine' says_use (s_make_time (w := _) (mean := _) (mg := _) (mb := _)) (by k_asm) (by k_asm) (by k_asm) (by k_asm) (by k_asm) (by first | exact rfl | assumption) (by first | trivial | ((try dsimp only); first | assumption | omega | l_fact | k_extra "pre")) (by ktr_room) (by ktr_units) ?_); intro t9 h9 tk9 F9 N9; (try dsimp only); (try k_fold)))

set_option maxHeartbeats 8000000 in
theorem s_make_day {a1 : Int} {ta1 : Tok} {a2 : Int} {ta2 : Tok} {a3 : Int} {ta3 : Tok} : Says 2 w mean mg mb 155 (True) [.int a1 ta1, .int a2 ta2, .int a3 ta3] (fun t => .int (mkDay a1 a2 a3) t) := by
  unfold Says
  k_fill
  intro dp un gd cn cs a ccd cl outer A₀ base h₀ L m news s Q E B F X N T hk hp hd hu hret
  k_with_none
  k_with "pre" => (exact Mine.twelve_pre _)
  refine wpAny_call ?_
  k_dflt cell_enter
  k_steps
  all_goals cb_end hret
local macro_rules | `(tactic| walk_at "call ref") => `(tactic| (k_here; (with_reducible show wpAny _ _ (PySem.call (Value.ref 155) _) _ _ _); k_dflt (refine' says_use (s_make_day (w := _) (mean := _) (mg := _) (mb := _)) (by k_asm) (by k_asm) (by k_asm) (by k_asm) (by k_asm) (by first | exact rfl | assumption) (by first | trivial | ((try dsimp only); first | assumption | omega | l_fact | k_extra "pre")) (by ktr_room) (by ktr_units) ?_); intro t9 h9 tk9 F9 N9; (try dsimp only); (try k_fold)))

set_option maxHeartbeats 8000000 in
theorem s_make_date {a1 : Int} {ta1 : Tok} {a2 : Int} {ta2 : Tok} : Says 1 w mean mg mb 162 (True) [.int a1 ta1, .int a2 ta2] (fun t => .int (mkDate a1 a2) t) := by
  unfold Says
  k_fill
  intro dp un gd cn cs a ccd cl outer A₀ base h₀ L m news s Q E B F X N T hk hp hd hu hret
  k_with_none
  refine wpAny_call ?_
  k_dflt cell_enter
  k_steps
  all_goals cb_end hret
local macro_rules | `(tactic| walk_at "call ref") => `(tactic| (k_here; (with_reducible show wpAny _ _ (PySem.call (Value.ref 162) _) _ _ _); k_dflt (refine' says_use (s_make_date (w := _) (mean := _) (mg := _) (mb := _)) (by k_asm) (by k_asm) (by k_asm) (by k_asm) (by k_asm) (by first | exact rfl | assumption) (by first | trivial | ((try dsimp only); first | assumption | omega | l_fact | k_extra "pre")) (by ktr_room) (by ktr_units) ?_); intro t9 h9 tk9 F9 N9; (try dsimp only); (try k_fold)))

set_option maxHeartbeats 8000000 in
theorem s_local_of {a1 : Int} {ta1 : Tok} {a2 : Int} {ta2 : Tok} : Says 1 w mean mg mb 176 (True) [.int a1 ta1, .int a2 ta2] (fun t => .int (localOf a1 a2) t) := by
  unfold Says
  k_fill
  intro dp un gd cn cs a ccd cl outer A₀ base h₀ L m news s Q E B F X N T hk hp hd hu hret
  k_with_none
  refine wpAny_call ?_
  k_dflt cell_enter
  k_steps
  all_goals cb_end hret
local macro_rules | `(tactic| walk_at "call ref") => `(tactic| (k_here; (with_reducible show wpAny _ _ (PySem.call (Value.ref 176) _) _ _ _); k_dflt (refine' says_use (s_local_of (w := _) (mean := _) (mg := _) (mb := _)) (by k_asm) (by k_asm) (by k_asm) (by k_asm) (by k_asm) (by first | exact rfl | assumption) (by first | trivial | ((try dsimp only); first | assumption | omega | l_fact | k_extra "pre")) (by ktr_room) (by ktr_units) ?_); intro t9 h9 tk9 F9 N9; (try dsimp only); (try k_fold)))

set_option maxHeartbeats 8000000 in
theorem s_utc_of {a1 : Int} {ta1 : Tok} {a2 : Int} {ta2 : Tok} : Says 1 w mean mg mb 183 (True) [.int a1 ta1, .int a2 ta2] (fun t => .int (utcOf a1 a2) t) := by
  unfold Says
  k_fill
  intro dp un gd cn cs a ccd cl outer A₀ base h₀ L m news s Q E B F X N T hk hp hd hu hret
  k_with_none
  refine wpAny_call ?_
  k_dflt cell_enter
  k_steps
  all_goals cb_end hret
local macro_rules | `(tactic| walk_at "call ref") => `(tactic| (k_here; (with_reducible show wpAny _ _ (PySem.call (Value.ref 183) _) _ _ _); k_dflt (refine' says_use (s_utc_of (w := _) (mean := _) (mg := _) (mb := _)) (by k_asm) (by k_asm) (by k_asm) (by k_asm) (by k_asm) (by first | exact rfl | assumption) (by first | trivial | ((try dsimp only); first | assumption | omega | l_fact | k_extra "pre")) (by ktr_room) (by ktr_units) ?_); intro t9 h9 tk9 F9 N9; (try dsimp only); (try k_fold)))

local macro_rules | `(tactic| walk_at "call ref") => `(tactic| (k_here; (with_reducible show wpAny _ _ (PySem.call (Value.ref 22) _) _ _ _); k_dflt (refine' says_use (s_day_of (w := _) (mean := _) (mg := _) (mb := _)) (by k_asm) (by k_asm) (by k_asm) (by k_asm) (by k_asm) (by first | exact rfl | assumption) (by first | trivial | ((try dsimp only); first | assumption | k_extra "pre")) (by ktr_room) (by ktr_units) ?_); intro t9 h9 tk9 F9 N9; (try dsimp only); (try k_fold)))
local macro_rules | `(tactic| walk_at "call ref") => `(tactic| (k_here; (with_reducible show wpAny _ _ (PySem.call (Value.ref 29) _) _ _ _); k_dflt (refine' says_use (s_time_in_day (w := _) (mean := _) (mg := _) (mb := _)) (by k_asm) (by k_asm) (by k_asm) (by k_asm) (by k_asm) (by first | exact rfl | assumption) (by first | trivial | ((try dsimp only); first | assumption | k_extra "pre")) (by ktr_room) (by ktr_units) ?_); intro t9 h9 tk9 F9 N9; (try dsimp only); (try k_fold)))
local macro_rules | `(tactic| walk_at "call ref") => `(tactic| (k_here; (with_reducible show wpAny _ _ (PySem.call (Value.ref 36) _) _ _ _); k_dflt (refine' says_use (s_is_leap_year (w := _) (mean := _) (mg := _) (mb := _)) (by k_asm) (by k_asm) (by k_asm) (by k_asm) (by k_asm) (by first | exact rfl | assumption) (by first | trivial | ((try dsimp only); first | assumption | k_extra "pre")) (by ktr_room) (by ktr_units) ?_); intro t9 h9 tk9 F9 N9; (try dsimp only); (try k_fold)))
local macro_rules | `(tactic| walk_at "call ref") => `(tactic| (k_here; (with_reducible show wpAny _ _ (PySem.call (Value.ref 43) _) _ _ _); k_dflt (refine' says_use (s_days_of_year (w := _) (mean := _) (mg := _) (mb := _)) (by k_asm) (by k_asm) (by k_asm) (by k_asm) (by k_asm) (by first | exact rfl | assumption) (by first | trivial | ((try dsimp only); first | assumption | k_extra "pre")) (by ktr_room) (by ktr_units) ?_); intro t9 h9 tk9 F9 N9; (try dsimp only); (try k_fold)))
local macro_rules | `(tactic| walk_at "call ref") => `(tactic| (k_here; (with_reducible show wpAny _ _ (PySem.call (Value.ref 50) _) _ _ _); k_dflt (refine' says_use (s_day_from_year (w := _) (mean := _) (mg := _) (mb := _)) (by k_asm) (by k_asm) (by k_asm) (by k_asm) (by k_asm) (by first | exact rfl | assumption) (by first | trivial | ((try dsimp only); first | assumption | k_extra "pre")) (by ktr_room) (by ktr_units) ?_); intro t9 h9 tk9 F9 N9; (try dsimp only); (try k_fold)))
local macro_rules | `(tactic| walk_at "call ref") => `(tactic| (k_here; (with_reducible show wpAny _ _ (PySem.call (Value.ref 57) _) _ _ _); k_dflt (refine' says_use (s_year_of_day (w := _) (mean := _) (mg := _) (mb := _)) (by k_asm) (by k_asm) (by k_asm) (by k_asm) (by k_asm) (by first | exact rfl | assumption) (by first | trivial | ((try dsimp only); first | assumption | k_extra "pre")) (by ktr_room) (by ktr_units) ?_); intro t9 h9 tk9 F9 N9; (try dsimp only); (try k_fold)))
local macro_rules | `(tactic| walk_at "call ref") => `(tactic| (k_here; (with_reducible show wpAny _ _ (PySem.call (Value.ref 64) _) _ _ _); k_dflt (refine' says_use (s_year_of (w := _) (mean := _) (mg := _) (mb := _)) (by k_asm) (by k_asm) (by k_asm) (by k_asm) (by k_asm) (by first | exact rfl | assumption) (by first | trivial | ((try dsimp only); first | assumption | k_extra "pre")) (by ktr_room) (by ktr_units) ?_); intro t9 h9 tk9 F9 N9; (try dsimp only); (try k_fold)))
local macro_rules | `(tactic| walk_at "call ref") => `(tactic| (k_here; (with_reducible show wpAny _ _ (PySem.call (Value.ref 71) _) _ _ _); k_dflt (refine' says_use (s_day_in_year (w := _) (mean := _) (mg := _) (mb := _)) (by k_asm) (by k_asm) (by k_asm) (by k_asm) (by k_asm) (by first | exact rfl | assumption) (by first | trivial | ((try dsimp only); first | assumption | k_extra "pre")) (by ktr_room) (by ktr_units) ?_); intro t9 h9 tk9 F9 N9; (try dsimp only); (try k_fold)))
local macro_rules | `(tactic| walk_at "call ref") => `(tactic| (k_here; (with_reducible show wpAny _ _ (PySem.call (Value.ref 78) _) _ _ _); k_dflt (refine' says_use (s_days_ahead (w := _) (mean := _) (mg := _) (mb := _)) (by k_asm) (by k_asm) (by k_asm) (by k_asm) (by k_asm) (by first | exact rfl | assumption) (by first | trivial | ((try dsimp only); first | assumption | k_extra "pre")) (by ktr_room) (by ktr_units) ?_); intro t9 h9 tk9 F9 N9; (try dsimp only); (try k_fold)))
local macro_rules | `(tactic| walk_at "call ref") => `(tactic| (k_here; (with_reducible show wpAny _ _ (PySem.call (Value.ref 85) _) _ _ _); k_dflt (refine' says_use (s_days_of_month (w := _) (mean := _) (mg := _) (mb := _)) (by k_asm) (by k_asm) (by k_asm) (by k_asm) (by k_asm) (by first | exact rfl | assumption) (by first | trivial | ((try dsimp only); first | assumption | k_extra "pre")) (by ktr_room) (by ktr_units) ?_); intro t9 h9 tk9 F9 N9; (try dsimp only); (try k_fold)))
local macro_rules | `(tactic| walk_at "call ref") => `(tactic| (k_here; (with_reducible show wpAny _ _ (PySem.call (Value.ref 92) _) _ _ _); k_dflt (refine' says_use (s_month_of (w := _) (mean := _) (mg := _) (mb := _)) (by k_asm) (by k_asm) (by k_asm) (by k_asm) (by k_asm) (by first | exact rfl | assumption) (by first | trivial | ((try dsimp only); first | assumption | k_extra "pre")) (by ktr_room) (by ktr_units) ?_); intro t9 h9 tk9 F9 N9; (try dsimp only); (try k_fold)))
local macro_rules | `(tactic| walk_at "call ref") => `(tactic| (k_here; (with_reducible show wpAny _ _ (PySem.call (Value.ref 99) _) _ _ _); k_dflt (refine' says_use (s_date_of (w := _) (mean := _) (mg := _) (mb := _)) (by k_asm) (by k_asm) (by k_asm) (by k_asm) (by k_asm) (by first | exact rfl | assumption) (by first | trivial | ((try dsimp only); first | assumption | k_extra "pre")) (by ktr_room) (by ktr_units) ?_); intro t9 h9 tk9 F9 N9; (try dsimp only); (try k_fold)))
local macro_rules | `(tactic| walk_at "call ref") => `(tactic| (k_here; (with_reducible show wpAny _ _ (PySem.call (Value.ref 106) _) _ _ _); k_dflt (refine' says_use (s_week_day_of (w := _) (mean := _) (mg := _) (mb := _)) (by k_asm) (by k_asm) (by k_asm) (by k_asm) (by k_asm) (by first | exact rfl | assumption) (by first | trivial | ((try dsimp only); first | assumption | k_extra "pre")) (by ktr_room) (by ktr_units) ?_); intro t9 h9 tk9 F9 N9; (try dsimp only); (try k_fold)))
local macro_rules | `(tactic| walk_at "call ref") => `(tactic| (k_here; (with_reducible show wpAny _ _ (PySem.call (Value.ref 113) _) _ _ _); k_dflt (refine' says_use (s_hour_of (w := _) (mean := _) (mg := _) (mb := _)) (by k_asm) (by k_asm) (by k_asm) (by k_asm) (by k_asm) (by first | exact rfl | assumption) (by first | trivial | ((try dsimp only); first | assumption | k_extra "pre")) (by ktr_room) (by ktr_units) ?_); intro t9 h9 tk9 F9 N9; (try dsimp only); (try k_fold)))
local macro_rules | `(tactic| walk_at "call ref") => `(tactic| (k_here; (with_reducible show wpAny _ _ (PySem.call (Value.ref 120) _) _ _ _); k_dflt (refine' says_use (s_minute_of (w := _) (mean := _) (mg := _) (mb := _)) (by k_asm) (by k_asm) (by k_asm) (by k_asm) (by k_asm) (by first | exact rfl | assumption) (by first | trivial | ((try dsimp only); first | assumption | k_extra "pre")) (by ktr_room) (by ktr_units) ?_); intro t9 h9 tk9 F9 N9; (try dsimp only); (try k_fold)))
local macro_rules | `(tactic| walk_at "call ref") => `(tactic| (k_here; (with_reducible show wpAny _ _ (PySem.call (Value.ref 127) _) _ _ _); k_dflt (refine' says_use (s_second_of (w := _) (mean := _) (mg := _) (mb := _)) (by k_asm) (by k_asm) (by k_asm) (by k_asm) (by k_asm) (by first | exact rfl | assumption) (by first | trivial | ((try dsimp only); first | assumption | k_extra "pre")) (by ktr_room) (by ktr_units) ?_); intro t9 h9 tk9 F9 N9; (try dsimp only); (try k_fold)))
local macro_rules | `(tactic| walk_at "call ref") => `(tactic| (k_here; (with_reducible show wpAny _ _ (PySem.call (Value.ref 134) _) _ _ _); k_dflt (refine' says_use (s_ms_of (w := _) (mean := _) (mg := _) (mb := _)) (by k_asm) (by k_asm) (by k_asm) (by k_asm) (by k_asm) (by first | exact rfl | assumption) (by first | trivial | ((try dsimp only); first | assumption | k_extra "pre")) (by ktr_room) (by ktr_units) ?_); intro t9 h9 tk9 F9 N9; (try dsimp only); (try k_fold)))
local macro_rules | `(tactic| walk_at "call ref") => `(tactic| (k_here; (with_reducible show wpAny _ _ (PySem.call (Value.ref 148) _) _ _ _); k_dflt (refine' says_use (s_make_time (w := _) (mean := _) (mg := _) (mb := _)) (by k_asm) (by k_asm) (by k_asm) (by k_asm) (by k_asm) (by first | exact rfl | assumption) (by first | trivial | ((try dsimp only); first | assumption | k_extra "pre")) (by ktr_room) (by ktr_units) ?_); intro t9 h9 tk9 F9 N9; (try dsimp only); (try k_fold)))
local macro_rules | `(tactic| walk_at "call ref") => `(tactic| (k_here; (with_reducible show wpAny _ _ (PySem.call (Value.ref 155) _) _ _ _); k_dflt (refine' says_use (s_make_day (w := _) (mean := _) (mg := _) (mb := _)) (by k_asm) (by k_asm) (by k_asm) (by k_asm) (by k_asm) (by first | exact rfl | assumption) (by first | trivial | ((try dsimp only); first | assumption | k_extra "pre")) (by ktr_room) (by ktr_units) ?_); intro t9 h9 tk9 F9 N9; (try dsimp only); (try k_fold)))
local macro_rules | `(tactic| walk_at "call ref") => `(tactic| (k_here; (with_reducible show wpAny _ _ (PySem.call (Value.ref 162) _) _ _ _); k_dflt (refine' says_use (s_make_date (w := _) (mean := _) (mg := _) (mb := _)) (by k_asm) (by k_asm) (by k_asm) (by k_asm) (by k_asm) (by first | exact rfl | assumption) (by first | trivial | ((try dsimp only); first | assumption | k_extra "pre")) (by ktr_room) (by ktr_units) ?_); intro t9 h9 tk9 F9 N9; (try dsimp only); (try k_fold)))
local macro_rules | `(tactic| walk_at "call ref") => `(tactic| (k_here; (with_reducible show wpAny _ _ (PySem.call (Value.ref 176) _) _ _ _); k_dflt (refine' says_use (s_local_of (w := _) (mean := _) (mg := _) (mb := _)) (by k_asm) (by k_asm) (by k_asm) (by k_asm) (by k_asm) (by first | exact rfl | assumption) (by first | trivial | ((try dsimp only); first | assumption | k_extra "pre")) (by ktr_room) (by ktr_units) ?_); intro t9 h9 tk9 F9 N9; (try dsimp only); (try k_fold)))
local macro_rules | `(tactic| walk_at "call ref") => `(tactic| (k_here; (with_reducible show wpAny _ _ (PySem.call (Value.ref 183) _) _ _ _); k_dflt (refine' says_use (s_utc_of (w := _) (mean := _) (mg := _) (mb := _)) (by k_asm) (by k_asm) (by k_asm) (by k_asm) (by k_asm) (by first | exact rfl | assumption) (by first | trivial | ((try dsimp only); first | assumption | k_extra "pre")) (by ktr_room) (by ktr_units) ?_); intro t9 h9 tk9 F9 N9; (try dsimp only); (try k_fold)))
local macro_rules | `(tactic| walk_at "subscriptTail Name Slice ref ref") => `(tactic| (k_here; (with_reducible show wpAny _ _ (subscriptTail (PySem.Expr.Name (Str.ofString "script") _) (PySem.Expr.Slice _ _ none _) (Value.ref _) (Value.ref _)) _ _ _); k_dflt (refine' kmk_slice_ints (by k_asm) (by k_asm) (by kmk_list) (by kmk_part) (by kmk_part) (by l_ints) (by exact kmk_upto (by l_ints) (by decide)) (by kmk_len) ?_ (by with_unfolding_all rfl) (by kmk_pure) (by kmk_size)); intro D' ws' h' F' N' l1 hI' hC' hL'; (try simp only [Int.reduceNeg, Int.neg_neg, Int.reduceToNat] at hI' hC' hL'); (try k_lt l1); (try k_sweep)))
local macro_rules | `(tactic| walk_at "subscriptTail List") => `(tactic| (k_here; k_dflt (refine kba_turn (value' := PySem.Expr.Name (PySem.Str.ofString "_") ⟨0, 0, 0, 0⟩) (fun _ => rfl) ?_); (with_reducible show wpAny _ _ (subscriptTail _ (PySem.Expr.Slice _ _ none _) (Value.ref _) (Value.ref _)) _ _ _); k_dflt (refine' kmk_slice_ints (by k_asm) (by k_asm) (by kmk_list) (by kmk_part) (by kmk_part) (by l_ints) (by exact kmk_from (by l_ints) (Int.natCast_nonneg _)) (by kmk_len) ?_ (by with_unfolding_all rfl) (by kmk_pure) (by kmk_size)); intro D' ws' h' F' N' l1 hI' hC' hL'; (try simp only [Int.reduceNeg, Int.neg_neg, Int.reduceToNat] at hI' hC' hL'); (try k_lt l1); (try k_sweep)))
theorem c_sum (y : Int) : ((rangeKs 0 ((12 : Int) - 0).toNat).map fun k => dom y k).sum = diy y := by
  unfold dom diy
  cases leap y <;> decide
theorem pre12 {k : Int} (h0 : 0 ≤ k) (h1 : k < 0 + ↑((12 : Int) - 0).toNat) : 0 ≤ k ∧ k ≤ 11 := by
  have e : ((12 : Int) - 0).toNat = 12 := rfl
  rw [e] at h1
  omega
theorem mod_any {prog : Program} {w : World} {A : Around} {E : Value → Shared → Prop} {s : Shared} {a b : Int} {t u : Tok} {Q : Value → Shared → Prop} (hb : 0 < b)
    (h : ∀ r : Int, 0 ≤ r → r < b → Q (.int r s.toks) { s with toks := s.toks + 1 }) : wpAny (model prog w) A (binaryOp .Mod (.int a t) (.int b u)) Q E s :=
  mod_int' (by omega) (h _ (Int.fmod_nonneg_of_pos a hb) (Int.fmod_lt_of_pos a hb))
local macro_rules | `(tactic| walk_at "binaryOp Mod int int") => `(tactic| (k_here; (with_reducible show wpAny _ _ (binaryOp Operator.Mod (Value.int (List.getD _ _ _) _) (Value.int _ _)) _ _ _); refine mod_any (by decide) ?_; intro r9 r9l r9h))
theorem ne_no {prog : Program} {w : World} {A : Around} {E : Value → Shared → Prop} {s : Shared} {a b : Int} {t u : Tok} {Q : Value → Shared → Prop} (e : a = b)
    (h : Q (.bool false) s) : wpAny (model prog w) A (compareOp .NotEq (.int a t) (.int b u)) Q E s :=
  ne_int (by rw [e]; simpa using h)
local macro_rules | `(tactic| walk_at "compareOp NotEq int int") => `(tactic| (k_here; (with_reducible show wpAny _ _ (compareOp CmpOp.NotEq (Value.int _ _) (Value.int _ _)) _ _ _); refine ne_no (by first | exact c_time _ | exact c_rest (by assumption) (by assumption) | exact c_wday _ | exact c_months _ _ _ _ | exact c_years _ _ _ _ | exact c_days _ (by assumption) (by assumption) | exact c_utc _ _ | exact c_local _ _ | exact c_next _ | exact c_sum _) ?_))
theorem le_yes {prog : Program} {w : World} {A : Around} {E : Value → Shared → Prop} {s : Shared} {a b : Int} {t u : Tok} {Q : Value → Shared → Prop} (e : a ≤ b)
    (h : Q (.bool true) s) : wpAny (model prog w) A (compareOp .LtE (.int a t) (.int b u)) Q E s :=
  le_int (by rw [decide_eq_true e]; exact h)
theorem lt_yes {prog : Program} {w : World} {A : Around} {E : Value → Shared → Prop} {s : Shared} {a b : Int} {t u : Tok} {Q : Value → Shared → Prop} (e : a < b)
    (h : Q (.bool true) s) : wpAny (model prog w) A (compareOp .Lt (.int a t) (.int b u)) Q E s :=
  lt_int (by rw [decide_eq_true e]; exact h)
local macro_rules | `(tactic| walk_at "compareOp LtE int int") => `(tactic| (k_here; (with_reducible show wpAny _ _ (compareOp CmpOp.LtE (Value.int (dfy _) _) (Value.int _ _)) _ _ _); refine le_yes (c_lo (by assumption) (by assumption)) ?_))
local macro_rules | `(tactic| walk_at "compareOp Lt int int") => `(tactic| (k_here; (with_reducible show wpAny _ _ (compareOp CmpOp.Lt (Value.int _ _) (Value.int (dfy _ + diy _) _)) _ _ _); refine lt_yes (c_hi (by assumption) (by assumption)) ?_))
theorem cut_due {M : Model} {A : Around} {E : Value → Shared → Prop} {s : Shared} {t : Sem Value} {Q : Value → Shared → Prop} {h₀ : Heap} {L : Addr} {m : Str → Option Value} {news : List (Addr × Obj)} {x : Int} {tx : Tok} (_F : Fr h₀ L s.heap m) (_N : News h₀ L s.heap news) (_hx : m (Str.ofString "time") = some (.int x tx))
    (hw : ∀ Q' : Value → Shared → Prop, (∀ (D : Addr) (h' : Heap) (tk' : Nat) (ta tb tc : Tok), Fr h₀ L h' m → News h₀ L h' ((D, ({ cls := .type "tuple", data := .seq #[.int (yearOf (x + 86400000)) ta, .int (monOf (x + 86400000)) tb, .int (dateOf (x + 86400000)) tc] } : Obj)) :: news) → Q' (.ref D) { s with heap := h', toks := tk' }) → wpAny M A t Q' E s)
    (h : ∀ (D : Addr) (h' : Heap) (tk' : Nat) (ta tb tc : Tok), Fr h₀ L h' m → News h₀ L h' ((D, ({ cls := .type "tuple", data := .seq #[.int (yearOf (x + 86400000)) ta, .int (monOf (x + 86400000)) tb, .int (dateOf (x + 86400000)) tc] } : Obj)) :: news) → Q (.ref D) { s with heap := h', toks := tk' }) : wpAny M A t Q E s := hw Q h
local macro_rules | `(tactic| walk_at "eval IfExp") => `(tactic| (k_here; (with_reducible show wpAny _ _ (PySem.eval (PySem.Expr.IfExp (PySem.Expr.Compare (PySem.Expr.Name (Str.ofString "date") _) _ _ _) _ _ _) _) _ _ _); k_dflt ((refine' cut_due (by k_asm) (by k_asm) (by exact rfl) ?cutA ?cutB); (case cutA => (intro Qw hJ; (repeat' (first | (k_unfold; (try dsimp only)) | walk1)); (· (obtain ⟨e1, e2, e3⟩ := due1 (by assumption); refine' hJ _ _ _ _ _ _ ?a1 ?a2; (case a1 => k_asm); (case a2 => rw [e1, e2, e3]; k_asm))); (· (obtain ⟨e1, e2, e3⟩ := due2 (by assumption) (by assumption); refine' hJ _ _ _ _ _ _ ?b1 ?b2; (case b1 => k_asm); (case b2 => rw [e1, e2, e3]; k_asm))); (· (obtain ⟨e1, e2, e3⟩ := due3 (by assumption) (by assumption); refine' hJ _ _ _ _ _ _ ?c1 ?c2; (case c1 => k_asm); (case c2 => rw [e1, e2, e3]; k_asm)))))); intro D' h' tk' ta tb tc F' N'; (try k_sweep); (try dsimp only); (try k_fold)))
theorem ints_eqv (ns : List Int) : PyData.eqvAll (ns.map PyData.int) (ns.map PyData.int) = true := by
  induction ns with
  | nil => rfl
  | cons n r ih => simp [PyData.eqvAll, PyData.eqv, ih]
section
variable {prog : Program} {w : World} {A : Around} {E : Value → Shared → Prop} {s : Shared} {h₀ : Heap} {L a b : Addr} {news : List (Addr × Obj)} {xs ys : List Value} {ns ms : List Int} {oa ob : Obj} {ka kb : Nat} {Q : Value → Shared → Prop}
theorem tup_ne (N : News h₀ L s.heap news) (ma : (a, oa) ∈ news) (ca : oa.cls = .type "tuple") (da : oa.data = .seq xs.toArray ka) (hi : IntsAre xs ns) (mb : (b, ob) ∈ news) (cb : ob.cls = .type "tuple") (db : ob.data = .seq ys.toArray kb) (hj : IntsAre ys ms)
    (e : ns = ms) (hsh : SeqAt.shaped (.tuple (ns.map PyData.int)) = true) (hu : A.units + 65 < cLine) (h : Q (.bool false) s) : wpAny (model prog w) A (compareOp .NotEq (.ref a) (.ref b)) Q E s := by
  subst e
  obtain ⟨as, ra⟩ := ints_reads (h := s.heap) hi
  obtain ⟨bs, rb⟩ := ints_reads (h := s.heap) hj
  refine ne_dataH (reads_tuple_at (N.get ma) ca da (by simpa using ra)) (reads_tuple_at (N.get mb) cb db (by simpa using rb)) hsh hsh (by omega) ?_
  have e : PyData.eqv (.tuple (ns.map PyData.int)) (.tuple (ns.map PyData.int)) = true := by simp [PyData.eqv, ints_eqv]
  rw [e]
  exact h
theorem tup_eq (N : News h₀ L s.heap news) (ma : (a, oa) ∈ news) (ca : oa.cls = .type "tuple") (da : oa.data = .seq xs.toArray ka) (hi : IntsAre xs ns) (mb : (b, ob) ∈ news) (cb : ob.cls = .type "tuple") (db : ob.data = .seq ys.toArray kb) (hj : IntsAre ys ms)
    (e : ns = ms) (hsh : SeqAt.shaped (.tuple (ns.map PyData.int)) = true) (hu : A.units + 65 < cLine) (h : Q (.bool true) s) : wpAny (model prog w) A (compareOp .Eq (.ref a) (.ref b)) Q E s := by
  subst e
  obtain ⟨as, ra⟩ := ints_reads (h := s.heap) hi
  obtain ⟨bs, rb⟩ := ints_reads (h := s.heap) hj
  refine eq_dataH (reads_tuple_at (N.get ma) ca da (by simpa using ra)) (reads_tuple_at (N.get mb) cb db (by simpa using rb)) hsh hsh (by omega) ?_
  have e : PyData.eqv (.tuple (ns.map PyData.int)) (.tuple (ns.map PyData.int)) = true := by simp [PyData.eqv, ints_eqv]
  rw [e]
  exact h
end
section
variable {prog : Program} {w : World} {A : Around} {E : Value → Shared → Prop} {s : Shared} {h₀ : Heap} {L : Addr} {m : Str → Option Value} {news : List (Addr × Obj)}
theorem sliceApplied_3 {sl : Addr} {u : Tok} {Q : Int × Int × Nat → Shared → Prop} (hs : s.heap.IsSliceOf sl .none (.int 3 u) .none) (h : Q (0, 1, 3) s) :
    wpAny (model prog w) A (Builtin.Slice.sliceApplied (.ref sl) (pure (7 : Int))) Q E s := by
  obtain ⟨os, hos, hcs, hds⟩ := id hs
  unfold Builtin.Slice.sliceApplied Builtin.Slice.sliceFields
  refine wpAny_bind (wpAny_bind (wpAny_field hos hds (x := .none) rfl (wpAny_bind (wpAny_field hos hds (x := .int 3 u) rfl (wpAny_bind (wpAny_field hos hds (x := .none) rfl (wpAny_pure ?_)))))))
  refine wpAny_bind (slicePart_none ?_)
  show wpAny _ _ (if ((1 : Int) == 0) = true then _ else _) _ _ s
  rw [if_neg (by decide)]
  refine wpAny_bind (slicePart_none (wpAny_bind (slicePart_int (wpAny_bind (wpAny_pure ?_)))))
  show wpAny _ _ (pure ((0 : Int), (1 : Int), 3)) _ _ s
  exact wpAny_pure h
theorem getItem_73 {t sl : Addr} {v0 v1 v2 v3 v4 v5 v6 : Value} {u : Tok} {Q : Value → Shared → Prop} (ht : IsTup s.heap t #[v0, v1, v2, v3, v4, v5, v6]) (hs : s.heap.IsSliceOf sl .none (.int 3 u) .none)
    (h : Q (.ref s.heap.objs.size) { s with heap := s.heap.push { cls := .type "tuple", data := .seq #[v0, v1, v2] } }) :
    wpAny (model prog w) A (getItem (.ref t) (.ref sl)) Q E s := by
  have hpick : sizeOk (.seq #[v0, v1, v2]) := by
    show (#[v0, v1, v2] : Array Value).size ≤ sizeLine
    rw [sizeLine_eq]
    show 3 ≤ _
    omega
  obtain ⟨os, hos, hcs, hds⟩ := id hs
  have hTs : s.TypeIs (.ref sl) "slice" := ⟨os, hos, hcs⟩
  unfold getItem
  try with_reducible refine wpAny_holding ?_
  first | refine wpAny_bind (wpAny_pure ?_) | skip
  refine wpAny_bind (wpAny_sequenceKey ht.typeIs (by decide) ?_)
  refine wpAny_bind (wpAny_callSpecial?_slot (name := Str.ofString "__getitem__") ht.typeIs slot_tuple_getitem
    (wpAny_call_entry slot_tuple_getitem ht.typeIs entry_tuple_getitem ?_ (args_tuple_getitem _ _)))
  show wpAny _ _ (Builtin.Tuple.tupleItemsOf (.ref t) >>= _) _ _ s
  refine wpAny_bind (tupleItemsOf_ ht ?_)
  refine wpAny_bind (wpAny_typeOf hTs ?_)
  rw [if_pos (by decide)]
  refine wpAny_bind (sliceApplied_3 hs ?_)
  show wpAny _ _ (if ((0 : Int) == 0 && (1 : Int) == 1 && (3 == 7)) = true then _ else _) _ _ s
  rw [if_neg (by decide)]
  have hp : (((List.range 3).filterMap fun (k : Nat) => (#[v0, v1, v2, v3, v4, v5, v6] : Array Value)[((0 : Int) + (k : Int) * 1).toNat]?).toArray) = #[v0, v1, v2] := rfl
  first
    | exact wpAny_bind (m := Builtin.Tuple.tupleExact _) (wpAny_newObj_type (wpAny_pure ⟨_, rfl, wpAny_pure h⟩) hpick)
    | exact wpAny_bind (m := Builtin.Tuple.tupleExact _) (wpAny_newObj_type (wpAny_bind (wpAny_pure (wpAny_pure ⟨_, rfl, wpAny_pure h⟩))) hpick)
    | exact wpAny_bind (wpAny_bind (m := Builtin.Tuple.tupleExact _) (wpAny_newObj_type (wpAny_pure (wpAny_pure ⟨_, rfl, wpAny_pure h⟩)) hpick))
    | exact wpAny_bind (wpAny_bind (m := Builtin.Tuple.tupleExact _) (wpAny_newObj_type (wpAny_pure ⟨_, rfl, wpAny_pure h⟩) hpick))
theorem slice_73 {value slice : PySem.Expr} {t : Addr} {v0 v1 v2 v3 v4 v5 v6 : Value} {u : Tok} {Q : Value → Shared → Prop}
    (F : Fr h₀ L s.heap m) (N : News h₀ L s.heap news) (ht : IsTup s.heap t #[v0, v1, v2, v3, v4, v5, v6])
    (h : ∀ D h', Fr h₀ L h' m → News h₀ L h' ((D, ({ cls := .type "tuple", data := .seq #[v0, v1, v2] } : Obj)) :: news) → (∀ p ∈ news, p.1 < D) → Q (.ref D) { s with heap := h' })
    (hs : subscripted slice false (.ref t) (.ref s.heap.objs.size) = operate [.ref s.heap.objs.size, .ref t] (getItem (.ref t) (.ref s.heap.objs.size)))
    (hg : ∀ r, letTemporaryGo value (.ref t) r = pure ()) :
    wpAny (model prog w) A (subscriptTail value slice (.ref t) (.ref s.heap.objs.size)) Q E { s with heap := s.heap.push { cls := .type "slice", data := .fields #[.none, .int 3 u, .none] } } := by
  have ht' : IsTup (s.heap.push { cls := .type "slice", data := .fields #[.none, .int 3 u, .none] }) t #[v0, v1, v2, v3, v4, v5, v6] := ht.keeps fun _ _ e => Heap.get?_push_of_some _ e
  refine subscriptTail_ops (s := { s with heap := s.heap.push { cls := .type "slice", data := .fields #[.none, .int 3 u, .none] } }) ht'.typeIs slot_tuple_getitem.lookup
    (getItem_73 ht' (Heap.IsSliceOf.new ..) ?_) hs hg
  have N1 := News.push (F.push { cls := .type "slice", data := .fields #[.none, .int 3 u, .none] }) (N.grown fun _ _ e => Heap.get?_push_of_some _ e) { cls := .type "tuple", data := .seq #[v0, v1, v2] }
  rw [Heap.size_push] at N1
  show Q (.ref (s.heap.push _).objs.size) _
  rw [Heap.size_push]
  exact h _ _ ((F.push _).push _) N1 fun p hp => Nat.lt_succ_of_lt (Heap.lt_size (N p hp).1)
end
local macro_rules | `(tactic| walk_at "subscriptTail Call") => `(tactic| (k_here; k_dflt (refine kba_turn (value' := PySem.Expr.Name (PySem.Str.ofString "_") ⟨0, 0, 0, 0⟩) (fun _ => rfl) ?_); (with_reducible show wpAny _ _ (subscriptTail _ (PySem.Expr.Slice _ _ none _) (Value.ref _) (Value.ref _)) _ _ _); k_dflt (refine' slice_73 (by k_asm) (by k_asm) (by exact News.isTup (by k_asm) (by k_mem)) ?_ (by with_unfolding_all rfl) (by kmk_pure)); intro D' h' F' N' l1; (try k_lt l1); (try k_sweep)))
local macro_rules | `(tactic| walk_at "compareOp NotEq ref ref") => `(tactic| (k_here; (with_reducible show wpAny _ _ (compareOp CmpOp.NotEq (Value.ref _) (Value.ref _)) _ _ _); k_dflt (refine' tup_ne (by k_asm) (by k_mem) rfl rfl (by l_ints) (by k_mem) rfl rfl (by l_ints) rfl rfl (by ktr_units) ?_)))
local macro_rules | `(tactic| walk_at "compareOp Eq ref ref") => `(tactic| (k_here; (with_reducible show wpAny _ _ (compareOp CmpOp.Eq (Value.ref _) (Value.ref _)) _ _ _); k_dflt (refine' tup_eq (by k_asm) (by k_mem) rfl rfl (by l_ints) (by k_mem) rfl rfl (by l_ints) (by rw [c_first, c_before]) rfl (by ktr_units) ?_)))
set_option maxHeartbeats 0 in
theorem walked : PySem.Challenge.rw_sa0356_01.Holds := by
  refine hd ?_
  k_with_none
  k_with "pre" => (first | exact Mine.mon_range _ | exact Mine.pre12 (by assumption) (by assumption))
  k_go0
  all_goals try k_fold
  repeat' (first | (k_unfold; (try dsimp only)) | (k_end; kc_close) | walk1 | (dsimp only; walk1) | (leave1; walk_say "STEP leave1"; (try dsimp only)) | fail "no step")
end Mine

theorem PySem.Challenge.cw_sa0356_01_holds : PySem.Challenge.rw_sa0356_01.Holds :=
  Mine.walked
