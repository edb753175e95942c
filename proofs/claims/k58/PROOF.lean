import PyProof.Rows.All
import Wide.All
import OpenK.AllK
import Wide.FinOn
import KE.KStateDown
import HandS.ForMost
import HandS.Codes
import HandS.Conv
import HandS.Defaults
import HandS.IsInst
import HandS.Style
import HandS.NoneIn
import HandS.TryOnly
import HandS.CallLocal
import HandS.Deep
import HandS.Head0
import HandS.Head1
import HandS.Head2
import HandS.HeadEnd
import HandS.HeadHook2
import HandS.WordsExc
import HandS.OwnEq
import PySem.Challenge.RW_fivefields_k58_whole_none_between
set_option linter.all false
namespace K58
/-! ### the calendar, months told by one number -/
def isLong (y : Int) : Bool := decide (y % 4 = 0) && (!decide (y % 100 = 0) || decide (y % 400 = 0))
def dBef (y : Int) : Int := 365 * y + (y + 3) / 4 - (y + 99) / 100 + (y + 399) / 400
def lastOf (y m : Int) : Int := if m = 2 then (if isLong y = true then 29 else 28) else if m = 4 ∨ m = 6 ∨ m = 9 ∨ m = 11 then 30 else 31
def cum (y : Int) : Nat → Int
  | 0 => 0
  | n + 1 => cum y n + lastOf y ((n : Int) + 1)
theorem long_iff (y : Int) : isLong y = true ↔ (y % 4 = 0 ∧ (y % 100 ≠ 0 ∨ y % 400 = 0)) := by
  unfold isLong
  simp only [Bool.and_eq_true, Bool.or_eq_true, decide_eq_true_eq, Bool.not_eq_true', decide_eq_false_iff_not, ne_eq]
theorem last_range (y m : Int) : 28 ≤ lastOf y m ∧ lastOf y m ≤ 31 := by
  unfold lastOf
  split
  · split <;> omega
  · split <;> omega
theorem cum12 (y : Int) : cum y 12 = 365 + (if isLong y = true then 1 else 0) := by
  simp only [cum, lastOf]
  by_cases h : isLong y = true
  · simp [h]
  · simp [h]
theorem dBef_succ (y : Int) : dBef (y + 1) = dBef y + cum y 12 := by
  rw [cum12]
  unfold dBef
  by_cases h : isLong y = true
  · rw [if_pos h]
    rw [long_iff] at h
    omega
  · rw [if_neg h]
    rw [long_iff] at h
    omega
def mStart (M : Int) : Int := dBef (M / 12) + cum (M / 12) (M % 12).toNat
def mLen (M : Int) : Int := lastOf (M / 12) (M % 12 + 1)
theorem mLen_range (M : Int) : 28 ≤ mLen M ∧ mLen M ≤ 31 := last_range _ _
theorem mStart_succ (M : Int) : mStart (M + 1) = mStart M + mLen M := by
  unfold mStart mLen
  have h0 : 0 ≤ M % 12 := by omega
  have h1 : M % 12 < 12 := by omega
  by_cases h : M % 12 = 11
  · have e1 : (M + 1) / 12 = M / 12 + 1 := by omega
    have e2 : (M + 1) % 12 = 0 := by omega
    rw [e1, e2, h, dBef_succ]
    show dBef (M / 12) + cum (M / 12) 12 + cum (M / 12 + 1) 0 = dBef (M / 12) + cum (M / 12) 11 + lastOf (M / 12) (11 + 1)
    have e3 : cum (M / 12) 12 = cum (M / 12) 11 + lastOf (M / 12) (11 + 1) := rfl
    have e4 : cum (M / 12 + 1) 0 = 0 := rfl
    omega
  · have e1 : (M + 1) / 12 = M / 12 := by omega
    have e2 : (M + 1) % 12 = M % 12 + 1 := by omega
    have e3 : (M % 12 + 1).toNat = (M % 12).toNat + 1 := by omega
    rw [e1, e2, e3]
    have e4 : cum (M / 12) ((M % 12).toNat + 1) = cum (M / 12) (M % 12).toNat + lastOf (M / 12) (((M % 12).toNat : Int) + 1) := rfl
    rw [e4]
    have e5 : ((M % 12).toNat : Int) = M % 12 := by omega
    rw [e5]
    omega
theorem mStart_add (M : Int) (n : Nat) : mStart M + 28 * n ≤ mStart (M + n) ∧ mStart (M + n) ≤ mStart M + 31 * n := by
  induction n with
  | zero => simp
  | succ n ih =>
    have e : M + ((n + 1 : Nat) : Int) = (M + n) + 1 := by omega
    have := mStart_succ (M + n)
    have := mLen_range (M + n)
    rw [e]
    omega
theorem mStart_mono {M N : Int} (h : M ≤ N) : mStart M + 28 * (N - M) ≤ mStart N := by
  have := (mStart_add M (N - M).toNat).1
  have e : M + ((N - M).toNat : Int) = N := by omega
  rw [e] at this
  omega
theorem mStart_zero : mStart 0 = 0 := by decide
/-- each day lies in just one month -/
theorem month_ex (n : Int) : ∃ M, mStart M ≤ n ∧ n < mStart (M + 1) := by
  -- go up from a month that begins no later
  have up : ∀ (k : Nat) (M : Int), mStart M ≤ n → n < mStart (M + k) → ∃ M, mStart M ≤ n ∧ n < mStart (M + 1) := by
    intro k
    induction k with
    | zero =>
      intro M h1 h2
      simp at h2
      omega
    | succ k ih =>
      intro M h1 h2
      by_cases h : n < mStart (M + 1)
      · exact ⟨M, h1, h⟩
      · refine ih (M + 1) (by omega) ?_
        have e : M + 1 + (k : Int) = M + ((k + 1 : Nat) : Int) := by omega
        rw [e]
        exact h2
  have lo : mStart (-(n.natAbs : Int)) ≤ n := by
    have := (mStart_add (-(n.natAbs : Int)) n.natAbs).1
    have e : -(n.natAbs : Int) + (n.natAbs : Int) = 0 := by omega
    rw [e, mStart_zero] at this
    omega
  refine up (2 * n.natAbs + 1) _ lo ?_
  have := (mStart_add (-(n.natAbs : Int)) (2 * n.natAbs + 1)).1
  have h2 := (mStart_add 0 (n.natAbs + 1)).1
  have e : (-(n.natAbs : Int)) + ((2 * n.natAbs + 1 : Nat) : Int) = 0 + ((n.natAbs + 1 : Nat) : Int) := by omega
  rw [e]
  rw [mStart_zero] at h2
  omega
noncomputable def monthOf (n : Int) : Int := Classical.choose (month_ex n)
theorem monthOf_spec (n : Int) : mStart (monthOf n) ≤ n ∧ n < mStart (monthOf n + 1) := Classical.choose_spec (month_ex n)
theorem monthOf_eq {n M : Int} (h1 : mStart M ≤ n) (h2 : n < mStart (M + 1)) : monthOf n = M := by
  obtain ⟨g1, g2⟩ := monthOf_spec n
  by_cases h : monthOf n < M
  · have := mStart_mono (show monthOf n + 1 ≤ M by omega)
    omega
  · by_cases h' : M < monthOf n
    · have := mStart_mono (show M + 1 ≤ monthOf n by omega)
      omega
    · omega
noncomputable def domOf (n : Int) : Int := n - mStart (monthOf n) + 1
theorem domOf_range (n : Int) : 1 ≤ domOf n ∧ domOf n ≤ mLen (monthOf n) := by
  have h := monthOf_spec n
  have := mStart_succ (monthOf n)
  unfold domOf
  omega
theorem monthOf_day {M d : Int} (h1 : 1 ≤ d) (h2 : d ≤ mLen M) : monthOf (mStart M + d - 1) = M := by
  have := mStart_succ M
  exact monthOf_eq (by omega) (by omega)
theorem domOf_day {M d : Int} (h1 : 1 ≤ d) (h2 : d ≤ mLen M) : domOf (mStart M + d - 1) = d := by
  unfold domOf
  rw [monthOf_day h1 h2]
  omega
theorem monthOf_mono {a b : Int} (h : a ≤ b) : monthOf a ≤ monthOf b := by
  obtain ⟨g1, g2⟩ := monthOf_spec a
  obtain ⟨k1, k2⟩ := monthOf_spec b
  by_cases h' : monthOf b < monthOf a
  · have := mStart_mono (show monthOf b + 1 ≤ monthOf a by omega)
    omega
  · omega
/-! ### kinds of months -/
def weekday (n : Int) : Int := (n + 6) % 7
def placeOf (M : Int) : Int := if M % 12 = 1 ∧ isLong (M / 12) = true then 12 else M % 12
def kindOf (M : Int) : Int := 7 * placeOf M + weekday (mStart M)
theorem kind_range (M : Int) : 0 ≤ kindOf M ∧ kindOf M < 91 := by
  unfold kindOf weekday placeOf
  split <;> omega
def kMonth (k : Int) : Int := if k / 7 = 12 then 2 else k / 7 + 1
def kLen (k : Int) : Int := if k / 7 = 12 then 29 else lastOf 1 (k / 7 + 1)
def kFirst (k : Int) : Int := k % 7
theorem kMonth_kind (M : Int) : kMonth (kindOf M) = M % 12 + 1 := by
  unfold kMonth kindOf weekday placeOf
  split
  · split <;> omega
  · split <;> omega
theorem kLen_kind (M : Int) : kLen (kindOf M) = mLen M := by
  have hp : kindOf M / 7 = placeOf M := by
    unfold kindOf weekday
    omega
  have hl1 : isLong 1 = false := by decide
  unfold kLen mLen
  rw [hp]
  by_cases h : M % 12 = 1 ∧ isLong (M / 12) = true
  · have e : placeOf M = 12 := if_pos h
    rw [e]
    simp [lastOf, h.1, h.2]
  · have e : placeOf M = M % 12 := if_neg h
    have e12 : ¬ (M % 12 = 12) := by omega
    rw [e, if_neg e12]
    unfold lastOf
    by_cases h2 : M % 12 = 1
    · have hl : isLong (M / 12) = false := by
        cases q : isLong (M / 12)
        · rfl
        · exact absurd ⟨h2, q⟩ h
      rw [hl, hl1]
    · have h3 : ¬ (M % 12 + 1 = 2) := by omega
      rw [if_neg h3, if_neg h3]
theorem kFirst_kind (M : Int) : kFirst (kindOf M) = weekday (mStart M) := by
  unfold kFirst kindOf weekday
  omega
theorem kLen_range (k : Int) : 28 ≤ kLen k ∧ kLen k ≤ 31 := by
  unfold kLen
  split
  · omega
  · exact last_range _ _
/-! ### four hundred years -/
theorem long_400 (y j : Int) : isLong (y + 400 * j) = isLong y := by
  have e1 : (y + 400 * j) % 4 = y % 4 := by omega
  have e2 : (y + 400 * j) % 100 = y % 100 := by omega
  have e3 : (y + 400 * j) % 400 = y % 400 := by omega
  unfold isLong
  rw [e1, e2, e3]
theorem dBef_400 (y j : Int) : dBef (y + 400 * j) = dBef y + 146097 * j := by
  unfold dBef
  omega
theorem lastOf_400 (y j m : Int) : lastOf (y + 400 * j) m = lastOf y m := by
  unfold lastOf
  rw [long_400]
theorem cum_400 (y j : Int) (n : Nat) : cum (y + 400 * j) n = cum y n := by
  induction n with
  | zero => rfl
  | succ n ih =>
    show cum (y + 400 * j) n + lastOf (y + 400 * j) _ = cum y n + lastOf y _
    rw [ih, lastOf_400]
theorem mStart_400 (M j : Int) : mStart (M + 4800 * j) = mStart M + 146097 * j := by
  have e1 : (M + 4800 * j) / 12 = M / 12 + 400 * j := by omega
  have e2 : (M + 4800 * j) % 12 = M % 12 := by omega
  unfold mStart
  rw [e1, e2, dBef_400, cum_400]
  omega
theorem kind_400 (M j : Int) : kindOf (M + 4800 * j) = kindOf M := by
  have e1 : (M + 4800 * j) / 12 = M / 12 + 400 * j := by omega
  have e2 : (M + 4800 * j) % 12 = M % 12 := by omega
  unfold kindOf placeOf
  rw [mStart_400, e1, e2, long_400]
  have : weekday (mStart M + 146097 * j) = weekday (mStart M) := by
    unfold weekday
    omega
  rw [this]
end K58
namespace K58
def wits : List Int := [72, 12, 24, 36, 48, 120, 0, 109, 121, 61, 73, 13, 25, 37, 110, 50, 62, 2, 14, 26, 38, 15, 27, 39, 111, 51, 63, 3, 64, 4, 16, 28, 40, 112, 52, 41, 113, 53, 65, 5, 17, 29, 18, 30, 42, 114, 54, 66, 6, 55, 67, 7, 19, 31, 43, 115, 32, 44, 116, 56, 68, 8, 20, 9, 21, 33, 45, 117, 57, 69, 118, 58, 70, 10, 22, 34, 46, 35, 47, 119, 59, 71, 11, 23, 49, 193, 1, 145, 289, 97, 241]
def kd (M : Int) : Int := kindOf M
theorem wits_ok : (List.range 91).all (fun k => decide (kindOf (wits.getD k 0) = (k : Int)) && (decide (0 ≤ wits.getD k 0) && decide (wits.getD k 0 < 4800))) = true := by decide +kernel
theorem kind_wit {k : Int} (h0 : 0 ≤ k) (h1 : k < 91) : ∃ M, 0 ≤ M ∧ M < 4800 ∧ kindOf M = k := by
  have h := List.all_eq_true.mp wits_ok k.toNat (List.mem_range.mpr (by omega))
  simp only [Bool.and_eq_true, decide_eq_true_eq] at h
  exact ⟨_, h.2.1, h.2.2, by rw [h.1]; omega⟩
end K58
namespace K58
/-! ### rows, told by masks -/
inductive F where
  | mo | dy | ho | mi
  deriving DecidableEq
structure Rw where
  mi : Nat
  ho : Nat
  mo : Nat
  dy : Int → Nat
structure Rw.Ok (r : Rw) : Prop where
  mi1 : ∃ j, j < 60 ∧ r.mi.testBit j = true
  ho1 : ∃ j, j < 24 ∧ r.ho.testBit j = true
  mo1 : ∃ m : Int, 1 ≤ m ∧ m ≤ 12 ∧ r.mo.testBit m.toNat = true
  dy1 : ∀ (k : Int) (d : Nat), 0 ≤ k → k < 91 → (r.dy k).testBit d = true → 1 ≤ d ∧ (d : Int) ≤ kLen k
  dymo : ∀ k : Int, r.mo.testBit (kMonth k).toNat = false → r.dy k = 0
section
variable (r : Rw)
noncomputable def moOk (n : Int) : Bool := r.mo.testBit (monthOf n % 12 + 1).toNat
noncomputable def dyOk (n : Int) : Bool := (r.dy (kindOf (monthOf n))).testBit (domOf n).toNat
def hoOk (t : Int) : Bool := r.ho.testBit (t % 1440 / 60).toNat
def miOk (t : Int) : Bool := r.mi.testBit (t % 1440 % 60).toNat
noncomputable def shut (t : Int) : Option F := if moOk r (t / 1440) = false then some .mo else if dyOk r (t / 1440) = false then some .dy else if hoOk r t = false then some .ho else if miOk r t = false then some .mi else none
end
section
variable {r : Rw}
theorem shut_none {t : Int} : shut r t = none ↔ (moOk r (t / 1440) = true ∧ dyOk r (t / 1440) = true ∧ hoOk r t = true ∧ miOk r t = true) := by
  unfold shut
  cases moOk r (t / 1440) <;> cases dyOk r (t / 1440) <;> cases hoOk r t <;> cases miOk r t <;> simp
theorem shut_mo {t : Int} : shut r t = some .mo ↔ moOk r (t / 1440) = false := by
  unfold shut
  cases moOk r (t / 1440) <;> cases dyOk r (t / 1440) <;> cases hoOk r t <;> cases miOk r t <;> simp
theorem shut_dy {t : Int} : shut r t = some .dy ↔ (moOk r (t / 1440) = true ∧ dyOk r (t / 1440) = false) := by
  unfold shut
  cases moOk r (t / 1440) <;> cases dyOk r (t / 1440) <;> cases hoOk r t <;> cases miOk r t <;> simp
theorem shut_ho {t : Int} : shut r t = some .ho ↔ (moOk r (t / 1440) = true ∧ dyOk r (t / 1440) = true ∧ hoOk r t = false) := by
  unfold shut
  cases moOk r (t / 1440) <;> cases dyOk r (t / 1440) <;> cases hoOk r t <;> cases miOk r t <;> simp
theorem shut_mi {t : Int} : shut r t = some .mi ↔ (moOk r (t / 1440) = true ∧ dyOk r (t / 1440) = true ∧ hoOk r t = true ∧ miOk r t = false) := by
  unfold shut
  cases moOk r (t / 1440) <;> cases dyOk r (t / 1440) <;> cases hoOk r t <;> cases miOk r t <;> simp
/-- from t to e one field shuts, and behind it lies another hour or a moment that holds -/
structure RunTo (r : Rw) (t : Int) (f : F) (e : Int) : Prop where
  lt : t < e
  all : ∀ u, t ≤ u → u < e → shut r u = some f
  far : t / 60 < e / 60 ∨ shut r e = none
theorem run_month {t M' : Int} (h : monthOf (t / 1440) < M') (hb : ∀ N, monthOf (t / 1440) ≤ N → N < M' → r.mo.testBit (N % 12 + 1).toNat = false) : RunTo r t .mo (1440 * mStart M') := by
  have h1 := (monthOf_spec (t / 1440)).2
  have h2 := mStart_mono (show monthOf (t / 1440) + 1 ≤ M' by omega)
  refine ⟨by omega, fun u h3 h4 => shut_mo.mpr ?_, .inl (by omega)⟩
  have h5 : monthOf (t / 1440) ≤ monthOf (u / 1440) := monthOf_mono (by omega)
  have h6 := (monthOf_spec (u / 1440)).1
  refine hb _ h5 ?_
  by_cases h7 : monthOf (u / 1440) < M'
  · exact h7
  · have := mStart_mono (show M' ≤ monthOf (u / 1440) by omega)
    omega
theorem run_day {t n : Int} (h : t / 1440 < n) (hb : ∀ m, t / 1440 ≤ m → m < n → moOk r m = true ∧ dyOk r m = false) : RunTo r t .dy (1440 * n) :=
  ⟨by omega, fun u h3 h4 => shut_dy.mpr (hb _ (by omega) (by omega)), .inl (by omega)⟩
theorem hour_same {r : Rw} {u v : Int} (h : u % 1440 / 60 = v % 1440 / 60) : hoOk r u = hoOk r v := by
  unfold hoOk
  rw [h]
/-- what hour_open tells -/
structure HourOpen (r : Rw) (t e : Int) : Prop where
  lt : t < e
  le : e ≤ t + 1440
  round : e % 60 = 0
  shut : ∀ u, t ≤ u → u < e → hoOk r u = false
theorem run_hour_end {t e : Int} (h : shut r t = some .ho) (o : HourOpen r t e) (ht : ¬ (1440 * (t / 1440 + 1) < e ∧ shut r (1440 * (t / 1440 + 1)) ≠ some .ho)) : RunTo r t .ho e := by
  obtain ⟨o1, o2, o3, o4⟩ := o
  obtain ⟨h1, h2, h3⟩ := shut_ho.mp h
  refine ⟨o1, fun u h4 h5 => ?_, .inl (by omega)⟩
  by_cases hd : u / 1440 = t / 1440
  · exact shut_ho.mpr ⟨by rw [hd]; exact h1, by rw [hd]; exact h2, o4 u h4 h5⟩
  · have hd2 : u / 1440 = t / 1440 + 1 := by omega
    have hs : shut r (1440 * (t / 1440 + 1)) = some .ho := Classical.byContradiction fun q => ht ⟨by omega, q⟩
    obtain ⟨k1, k2, k3⟩ := shut_ho.mp hs
    have e1 : 1440 * (t / 1440 + 1) / 1440 = u / 1440 := by omega
    rw [e1] at k1 k2
    exact shut_ho.mpr ⟨k1, k2, o4 u h4 h5⟩
theorem run_hour_turn {t e : Int} (h : shut r t = some .ho) (o : HourOpen r t e) (ht : 1440 * (t / 1440 + 1) < e) : RunTo r t .ho (1440 * (t / 1440 + 1)) := by
  obtain ⟨o1, o2, o3, o4⟩ := o
  obtain ⟨h1, h2, h3⟩ := shut_ho.mp h
  refine ⟨by omega, fun u h4 h5 => ?_, .inl (by omega)⟩
  have hd : u / 1440 = t / 1440 := by omega
  exact shut_ho.mpr ⟨by rw [hd]; exact h1, by rw [hd]; exact h2, o4 u h4 (by omega)⟩
/-- what minute_open tells -/
structure MinOpen (r : Rw) (t e : Int) : Prop where
  lt : t < e
  le : e < t + 60
  shut : ∀ u, t ≤ u → u < e → miOk r u = false
  opn : miOk r e = true
theorem run_min_end {t e : Int} (h : shut r t = some .mi) (o : MinOpen r t e) (ht : ¬ (t + 60 - t % 1440 % 60 < e ∧ shut r (t + 60 - t % 1440 % 60) ≠ some .mi)) : RunTo r t .mi e := by
  obtain ⟨o1, o2, o3, o4⟩ := o
  obtain ⟨h1, h2, h3, h3'⟩ := shut_mi.mp h
  -- within the hour
  have same : ∀ u, t ≤ u → u < t + 60 - t % 1440 % 60 → moOk r (u / 1440) = true ∧ dyOk r (u / 1440) = true ∧ hoOk r u = true := fun u k1 k2 => by
    have hd : u / 1440 = t / 1440 := by omega
    exact ⟨by rw [hd]; exact h1, by rw [hd]; exact h2, by rw [hour_same (show u % 1440 / 60 = t % 1440 / 60 by omega)]; exact h3⟩
  by_cases hc : t + 60 - t % 1440 % 60 < e
  · have hs : shut r (t + 60 - t % 1440 % 60) = some .mi := Classical.byContradiction fun q => ht ⟨hc, q⟩
    obtain ⟨k1, k2, k3, _⟩ := shut_mi.mp hs
    refine ⟨o1, fun u h4 h5 => ?_, .inl (by omega)⟩
    by_cases hu : u < t + 60 - t % 1440 % 60
    · obtain ⟨a, b, c⟩ := same u h4 hu
      exact shut_mi.mpr ⟨a, b, c, o3 u h4 h5⟩
    · have hd : u / 1440 = (t + 60 - t % 1440 % 60) / 1440 := by omega
      exact shut_mi.mpr ⟨by rw [hd]; exact k1, by rw [hd]; exact k2, by rw [hour_same (show u % 1440 / 60 = (t + 60 - t % 1440 % 60) % 1440 / 60 by omega)]; exact k3, o3 u h4 h5⟩
  · refine ⟨o1, fun u h4 h5 => ?_, ?_⟩
    · obtain ⟨a, b, c⟩ := same u h4 (by omega)
      exact shut_mi.mpr ⟨a, b, c, o3 u h4 h5⟩
    · by_cases he : e = t + 60 - t % 1440 % 60
      · exact .inl (by omega)
      · obtain ⟨a, b, c⟩ := same e (by omega) (by omega)
        exact .inr (shut_none.mpr ⟨a, b, c, o4⟩)
theorem run_min_turn {t e : Int} (h : shut r t = some .mi) (o : MinOpen r t e) (ht : t + 60 - t % 1440 % 60 < e) : RunTo r t .mi (t + 60 - t % 1440 % 60) := by
  obtain ⟨o1, o2, o3, o4⟩ := o
  obtain ⟨h1, h2, h3, h3'⟩ := shut_mi.mp h
  refine ⟨by omega, fun u h4 h5 => ?_, .inl (by omega)⟩
  have hd : u / 1440 = t / 1440 := by omega
  exact shut_mi.mpr ⟨by rw [hd]; exact h1, by rw [hd]; exact h2, by rw [hour_same (show u % 1440 / 60 = t % 1440 / 60 by omega)]; exact h3, o3 u h4 (by omega)⟩
/-- where the loops of hour_open, minute_open, month_open end -/
theorem hour_ex (o : r.Ok) (h : Int) : ∃ j : Int, 0 ≤ j ∧ j ≤ 23 ∧ r.ho.testBit ((h + j) % 24).toNat = true := by
  obtain ⟨b, b1, b2⟩ := o.ho1
  refine ⟨((b : Int) - h) % 24, by omega, by omega, ?_⟩
  have e : ((h + ((b : Int) - h) % 24) % 24).toNat = b := by omega
  rw [e]
  exact b2
theorem min_ex (o : r.Ok) (h : Int) : ∃ j : Int, 0 ≤ j ∧ j ≤ 59 ∧ r.mi.testBit ((h + j) % 60).toNat = true := by
  obtain ⟨b, b1, b2⟩ := o.mi1
  refine ⟨((b : Int) - h) % 60, by omega, by omega, ?_⟩
  have e : ((h + ((b : Int) - h) % 60) % 60).toNat = b := by omega
  rw [e]
  exact b2
theorem month_next (o : r.Ok) (M : Int) : ∃ N, M ≤ N ∧ r.mo.testBit (N % 12 + 1).toNat = true := by
  obtain ⟨b, b1, b2, b3⟩ := o.mo1
  refine ⟨M + (b - 1 - M) % 12, by omega, ?_⟩
  have e : ((M + (b - 1 - M) % 12) % 12 + 1) = b := by omega
  rw [e]
  exact b3
theorem hourOpen_mk {t on : Int} (h0 : 1 ≤ on) (h1 : on ≤ 23) (hs : ∀ j, 0 ≤ j → j < on → r.ho.testBit ((t % 1440 / 60 + j) % 24).toNat = false) : HourOpen r t (t - t % 1440 % 60 + 60 * on) := by
  refine ⟨by omega, by omega, by omega, fun u h2 h3 => ?_⟩
  have q := hs (u / 60 - t / 60) (by omega) (by omega)
  have e : (t % 1440 / 60 + (u / 60 - t / 60)) % 24 = u % 1440 / 60 := by omega
  rw [e] at q
  exact q
theorem minOpen_mk {t on : Int} (h0 : 1 ≤ on) (h1 : on ≤ 59) (hs : ∀ j, 0 ≤ j → j < on → r.mi.testBit ((t % 1440 % 60 + j) % 60).toNat = false) (ho : r.mi.testBit ((t % 1440 % 60 + on) % 60).toNat = true) : MinOpen r t (t + on) := by
  refine ⟨by omega, by omega, fun u h2 h3 => ?_, ?_⟩
  · have q := hs (u - t) (by omega) (by omega)
    have e : (t % 1440 % 60 + (u - t)) % 60 = u % 1440 % 60 := by omega
    rw [e] at q
    exact q
  · have e : (t % 1440 % 60 + on) % 60 = (t + on) % 1440 % 60 := by omega
    rw [e] at ho
    exact ho
/-! ### a row that holds sometimes holds again and again -/
def tmOk (r : Rw) (z : Nat) : Bool := r.ho.testBit (z / 60) && r.mi.testBit (z % 60)
theorem hold_at (o : r.Ok) {M d : Int} {z : Nat} (h1 : 1 ≤ d) (h2 : d ≤ mLen M) (hz : z < 1440) : shut r (1440 * (mStart M + d - 1) + (z : Int)) = none ↔ ((r.dy (kindOf M)).testBit d.toNat = true ∧ tmOk r z = true) := by
  have e1 : (1440 * (mStart M + d - 1) + (z : Int)) / 1440 = mStart M + d - 1 := by omega
  have e2 : (1440 * (mStart M + d - 1) + (z : Int)) % 1440 = z := by omega
  have e3 : ((z : Int) / 60).toNat = z / 60 := by omega
  have e4 : ((z : Int) % 60).toNat = z % 60 := by omega
  rw [shut_none]
  unfold hoOk miOk moOk dyOk tmOk
  rw [e1, e2, e3, e4, monthOf_day h1 h2, domOf_day h1 h2, Bool.and_eq_true]
  refine ⟨fun ⟨_, a, b, c⟩ => ⟨a, b, c⟩, fun ⟨a, b, c⟩ => ⟨?_, a, b, c⟩⟩
  cases q : r.mo.testBit (M % 12 + 1).toNat with
  | true => rfl
  | false =>
    have := o.dymo (kindOf M) (by rw [kMonth_kind]; exact q)
    rw [this] at a
    simp at a
theorem tm_ex (o : r.Ok) : ∃ z, z < 1440 ∧ tmOk r z = true := by
  obtain ⟨a, a1, a2⟩ := o.ho1
  obtain ⟨b, b1, b2⟩ := o.mi1
  refine ⟨60 * a + b, by omega, ?_⟩
  unfold tmOk
  rw [show (60 * a + b) / 60 = a by omega, show (60 * a + b) % 60 = b by omega, a2, b2]
  rfl
theorem bit_ex : ∀ {n : Nat}, n ≠ 0 → ∃ j, n.testBit j = true := fun {n} h => Classical.byContradiction fun q => h (Nat.eq_of_testBit_eq fun i => by
  have : n.testBit i = false := by
    cases z : n.testBit i
    · rfl
    · exact absurd ⟨i, z⟩ q
  rw [this]
  simp)
/-- some kind's days aren't empty -/
def Some1 (r : Rw) : Prop := ∃ k : Int, 0 ≤ k ∧ k < 91 ∧ r.dy k ≠ 0
def FAR : Int := 1440 * 146200
theorem holds_in (o : r.Ok) (s : Some1 r) (M : Int) : ∃ N d : Int, ∃ z : Nat, M ≤ N ∧ N < M + 4800 ∧ 1 ≤ d ∧ d ≤ mLen N ∧ z < 1440 ∧ shut r (1440 * (mStart N + d - 1) + (z : Int)) = none := by
  obtain ⟨k, k0, k1, kd⟩ := s
  obtain ⟨j, hj⟩ := bit_ex kd
  obtain ⟨j1, j2⟩ := o.dy1 k j k0 k1 hj
  obtain ⟨W, w0, w1, wk⟩ := kind_wit k0 k1
  obtain ⟨z, z1, z2⟩ := tm_ex o
  have e : kindOf (W + 4800 * ((M - W + 4799) / 4800)) = k := by rw [kind_400, wk]
  have hl : (j : Int) ≤ mLen (W + 4800 * ((M - W + 4799) / 4800)) := by rw [← kLen_kind, e]; exact j2
  refine ⟨W + 4800 * ((M - W + 4799) / 4800), j, z, by omega, by omega, by omega, hl, z1, ?_⟩
  refine (hold_at o (by omega) hl z1).mpr ⟨?_, z2⟩
  rw [e, Int.toNat_natCast]
  exact hj
theorem hold_after (o : r.Ok) (s : Some1 r) (t : Int) : ∃ u, t ≤ u ∧ u ≤ t + FAR ∧ shut r u = none := by
  obtain ⟨N, d, z, n1, n2, d1, d2, z1, h⟩ := holds_in o s (monthOf (t / 1440) + 1)
  refine ⟨_, ?_, ?_, h⟩
  · have a := (monthOf_spec (t / 1440)).2
    have b := mStart_mono n1
    omega
  · have a := (monthOf_spec (t / 1440)).1
    have b := mStart_mono (show N + 1 ≤ monthOf (t / 1440) + 1 + 4800 * 1 by omega)
    have c := mStart_succ N
    have e := mStart_succ (monthOf (t / 1440))
    have f := mLen_range (monthOf (t / 1440))
    rw [mStart_400] at b
    unfold FAR
    omega
theorem hold_before (o : r.Ok) (s : Some1 r) (t : Int) : ∃ u, u ≤ t ∧ t - FAR ≤ u ∧ shut r u = none := by
  obtain ⟨N, d, z, n1, n2, d1, d2, z1, h⟩ := holds_in o s (monthOf (t / 1440) - 4800)
  refine ⟨_, ?_, ?_, h⟩
  · have a := (monthOf_spec (t / 1440)).1
    have b := mStart_mono (show N + 1 ≤ monthOf (t / 1440) by omega)
    have c := mStart_succ N
    omega
  · have a := (monthOf_spec (t / 1440)).2
    have b := mStart_mono n1
    have e := mStart_succ (monthOf (t / 1440))
    have f := mLen_range (monthOf (t / 1440))
    have g := mStart_400 (monthOf (t / 1440)) (-1)
    rw [show monthOf (t / 1440) + 4800 * -1 = monthOf (t / 1440) - 4800 by omega] at g
    unfold FAR
    omega
theorem least_ex {p : Int → Prop} {t : Int} : ∀ (n : Nat) (u : Int), t ≤ u → u ≤ t + n → p u → ∃ v, t ≤ v ∧ v ≤ u ∧ p v ∧ ∀ w, t ≤ w → w < v → ¬ p w
  | 0, u, h1, h2, h => ⟨u, h1, Int.le_refl _, h, fun w a b => by omega⟩
  | n + 1, u, h1, h2, h => by
    by_cases q : ∃ w, t ≤ w ∧ w < u ∧ p w
    · obtain ⟨w, a, b, c⟩ := q
      obtain ⟨v, v1, v2, v3, v4⟩ := least_ex n w a (by omega) c
      exact ⟨v, v1, by omega, v3, v4⟩
    · exact ⟨u, h1, Int.le_refl _, h, fun w a b c => q ⟨w, a, b, c⟩⟩
/-- the first moment from t on -/
structure IsNext (r : Rw) (t u : Int) : Prop where
  le : t ≤ u
  far : u ≤ t + FAR
  hold : shut r u = none
  no : ∀ v, t ≤ v → v < u → shut r v ≠ none
structure IsLast (r : Rw) (t u : Int) : Prop where
  le : u ≤ t
  far : t - FAR ≤ u
  hold : shut r u = none
  no : ∀ v, u < v → v ≤ t → shut r v ≠ none
theorem next_ex (o : r.Ok) (s : Some1 r) (t : Int) : ∃ u, IsNext r t u := by
  obtain ⟨u, h1, h2, h3⟩ := hold_after o s t
  obtain ⟨v, v1, v2, v3, v4⟩ := least_ex (p := fun u => shut r u = none) (u - t).toNat u h1 (by omega) h3
  exact ⟨v, v1, by omega, v3, v4⟩
theorem last_ex (o : r.Ok) (s : Some1 r) (t : Int) : ∃ u, IsLast r t u := by
  obtain ⟨u, h1, h2, h3⟩ := hold_before o s t
  obtain ⟨v, v1, v2, v3, v4⟩ := least_ex (p := fun u => shut r (-u) = none) (t := -t) (t - u).toNat (-u) (by omega) (by omega) (by rw [Int.neg_neg]; exact h3)
  exact ⟨-v, by omega, by omega, v3, fun w a b c => v4 (-w) (by omega) (by omega) (by rw [Int.neg_neg]; exact c)⟩
theorem next_one {t u v w : Int} (h : IsNext r t u) (h1 : t ≤ v) (h2 : v ≤ u) (k : IsNext r v w) : w = u := by
  by_cases a : w < u
  · exact absurd k.hold (h.no w (by have := k.le; omega) a)
  · by_cases b : u < w
    · exact absurd h.hold (k.no u h2 b)
    · omega
theorem last_one {t u v w : Int} (h : IsLast r t u) (h1 : v ≤ t) (h2 : u ≤ v) (k : IsLast r v w) : w = u := by
  by_cases a : u < w
  · exact absurd k.hold (h.no w a (by have := k.le; omega))
  · by_cases b : w < u
    · exact absurd h.hold (k.no u b h2)
    · omega
/-! ### papers -/
/-- what a paper's stretches say: lo to hi - 1 -/
def PaperOk (r : Rw) (lo hi : Int) (es : List (Int × Int × F)) : Prop := ∀ e ∈ es, lo ≤ e.1 ∧ e.1 ≤ e.2.1 ∧ e.2.1 < hi ∧ ∀ u, e.1 ≤ u → u ≤ e.2.1 → shut r u = some e.2.2
theorem PaperOk.nil {lo hi : Int} : PaperOk r lo hi [] := fun _ h => by cases h
theorem PaperOk.snoc {lo at_ e hi : Int} {f : F} {es : List (Int × Int × F)} (p : PaperOk r lo at_ es) (h0 : lo ≤ at_) (h : at_ < e) (hh : e ≤ hi) (ha : ∀ u, at_ ≤ u → u < e → shut r u = some f) : PaperOk r lo hi (es ++ [(at_, e - 1, f)]) := fun x hx => by
  rcases List.mem_append.mp hx with hx | hx
  · obtain ⟨a, b, c, d⟩ := p x hx
    exact ⟨a, b, by omega, d⟩
  · rw [List.mem_singleton] at hx
    subst hx
    exact ⟨h0, by show at_ ≤ e - 1; omega, by show e - 1 < hi; omega, fun u h1 h2 => ha u h1 (by have : u ≤ e - 1 := h2; omega)⟩
/-! ### last_in_month -/
/-- within month M, up to (upto, time) -/
def Upto (upto time : Int) (d : Int) (z : Nat) : Prop := d ≤ upto ∧ (d = upto → (z : Int) ≤ time)
def LimNone (r : Rw) (M upto time : Int) : Prop := ∀ (d : Int) (z : Nat), 1 ≤ d → z < 1440 → Upto upto time d z → (r.dy (kindOf M)).testBit d.toNat = true → tmOk r z = true → False
def LimSome (r : Rw) (M upto time v : Int) : Prop := ∃ (d : Int) (z : Nat), 1 ≤ d ∧ d ≤ mLen M ∧ z < 1440 ∧ Upto upto time d z ∧ (r.dy (kindOf M)).testBit d.toNat = true ∧ tmOk r z = true ∧ v = 1440 * (mStart M + d - 1) + (z : Int) ∧
  ∀ (d' : Int) (z' : Nat), 1 ≤ d' → z' < 1440 → Upto upto time d' z' → (r.dy (kindOf M)).testBit d'.toNat = true → tmOk r z' = true → d' < d ∨ (d' = d ∧ z' ≤ z)
/-- a moment by its month, day, time -/
theorem split_at (u : Int) : ∃ d : Int, ∃ z : Nat, 1 ≤ d ∧ d ≤ mLen (monthOf (u / 1440)) ∧ z < 1440 ∧ u = 1440 * (mStart (monthOf (u / 1440)) + d - 1) + (z : Int) := by
  have h := domOf_range (u / 1440)
  refine ⟨domOf (u / 1440), (u % 1440).toNat, h.1, h.2, by omega, ?_⟩
  unfold domOf
  omega
/-- no moment of the row lies from month M on, up to t -/
def NoFrom (r : Rw) (M t : Int) : Prop := ∀ u, 1440 * mStart M ≤ u → u ≤ t → shut r u ≠ none
theorem noFrom_first (o : r.Ok) {t : Int} (h : LimNone r (monthOf (t / 1440)) (domOf (t / 1440)) (t % 1440)) : NoFrom r (monthOf (t / 1440)) t := fun u h1 h2 h3 => by
  obtain ⟨d, z, a, b, c, e⟩ := split_at u
  have hm : monthOf (u / 1440) = monthOf (t / 1440) := monthOf_eq (by omega) (by have := (monthOf_spec (t / 1440)).2; omega)
  rw [hm] at b e
  rw [e] at h3
  obtain ⟨k1, k2⟩ := (hold_at o a b c).mp h3
  refine h d z a c ?_ k1 k2
  unfold Upto domOf
  omega
theorem noFrom_step (o : r.Ok) {M t : Int} (n : NoFrom r M t) (h : LimNone r (M - 1) 31 1439) : NoFrom r (M - 1) t := fun u h1 h2 h3 => by
  by_cases hu : 1440 * mStart M ≤ u
  · exact n u hu h2 h3
  · obtain ⟨d, z, a, b, c, e⟩ := split_at u
    have hm : monthOf (u / 1440) = M - 1 := monthOf_eq (by omega) (by rw [show M - 1 + 1 = M by omega]; omega)
    rw [hm] at b e
    rw [e] at h3
    obtain ⟨k1, k2⟩ := (hold_at o a b c).mp h3
    have := mLen_range (M - 1)
    exact h d z a c ⟨by omega, fun _ => by omega⟩ k1 k2
theorem last_first (o : r.Ok) {t v : Int} (f : ∃ u, IsLast r t u) (h : LimSome r (monthOf (t / 1440)) (domOf (t / 1440)) (t % 1440) v) : IsLast r t v := by
  obtain ⟨d, z, a, b, c, up, k1, k2, e, most⟩ := h
  have hv : shut r v = none := by rw [e]; exact (hold_at o a b c).mpr ⟨k1, k2⟩
  have le : v ≤ t := by
    unfold Upto domOf at up
    omega
  have no : ∀ u, v < u → u ≤ t → shut r u ≠ none := fun u h1 h2 h3 => by
    obtain ⟨d', z', a', b', c', e'⟩ := split_at u
    have hm : monthOf (u / 1440) = monthOf (t / 1440) := monthOf_eq (by omega) (by have := (monthOf_spec (t / 1440)).2; omega)
    rw [hm] at b' e'
    rw [e'] at h3
    obtain ⟨l1, l2⟩ := (hold_at o a' b' c').mp h3
    have := most d' z' a' c' (by unfold Upto domOf; omega) l1 l2
    omega
  obtain ⟨u, hu⟩ := f
  have : v = u := by
    by_cases q : u < v
    · exact absurd hv (hu.no v q le)
    · by_cases q2 : v < u
      · exact absurd hu.hold (no u q2 hu.le)
      · omega
  rw [this]
  exact hu
theorem last_step (o : r.Ok) {M t v : Int} (f : ∃ u, IsLast r t u) (n : NoFrom r M t) (hM : 1440 * mStart M ≤ t) (h : LimSome r (M - 1) 31 1439 v) : IsLast r t v := by
  obtain ⟨d, z, a, b, c, up, k1, k2, e, most⟩ := h
  have hv : shut r v = none := by rw [e]; exact (hold_at o a b c).mpr ⟨k1, k2⟩
  have s := mStart_succ (M - 1)
  rw [show M - 1 + 1 = M by omega] at s
  have le : v ≤ t := by omega
  have no : ∀ u, v < u → u ≤ t → shut r u ≠ none := fun u h1 h2 h3 => by
    by_cases hu : 1440 * mStart M ≤ u
    · exact n u hu h2 h3
    · obtain ⟨d', z', a', b', c', e'⟩ := split_at u
      have hm : monthOf (u / 1440) = M - 1 := monthOf_eq (by omega) (by rw [show M - 1 + 1 = M by omega]; omega)
      rw [hm] at b' e'
      rw [e'] at h3
      obtain ⟨l1, l2⟩ := (hold_at o a' b' c').mp h3
      have := mLen_range (M - 1)
      have := most d' z' a' c' ⟨by omega, fun _ => by omega⟩ l1 l2
      omega
  obtain ⟨u, hu⟩ := f
  have : v = u := by
    by_cases q : u < v
    · exact absurd hv (hu.no v q le)
    · by_cases q2 : v < u
      · exact absurd hu.hold (no u q2 hu.le)
      · omega
  rw [this]
  exact hu
/-- the months that held_back passes by lie behind that of the moment which it finds -/
theorem noFrom_lt {M t u : Int} (n : NoFrom r M t) (h : IsLast r t u) : monthOf (u / 1440) < M := by
  by_cases q : monthOf (u / 1440) < M
  · exact q
  · have a := mStart_mono (show M ≤ monthOf (u / 1440) by omega)
    have b := (monthOf_spec (u / 1440)).1
    exact absurd h.hold (n u (by omega) h.le)
end
end K58
namespace K58
/-! ### marks and rows as data -/
inductive Mk where
  | num (m : Nat) | last (b : Nat) | near (d : Nat) | work | wk (m : Nat) | nth (w n : Nat) | lastOne (w : Nat)
def Mk.Ok : Mk → Prop
  | .num m => ∀ j, m.testBit j = true → 1 ≤ j
  | .near d => 1 ≤ d
  | .nth _ n => 1 ≤ n
  | _ => True
def wdIn (day first : Int) : Int := (first + day - 1) % 7
def nearA (d : Nat) (first : Int) : Int := if wdIn d first = 6 then (if (d : Int) - 1 < 1 then 3 else (d : Int) - 1) else d
def nearB (d : Nat) (last first : Int) : Int := if wdIn d first = 0 then (if (d : Int) + 1 > last then last - 2 else (d : Int) + 1) else nearA d first
def workDay (last first : Int) : Int := if wdIn last first = 6 then last - 1 else if wdIn last first = 0 then last - 2 else last
def nthDay (w n : Nat) (first : Int) : Int := 1 + ((w : Int) - first) % 7 + 7 * ((n : Int) - 1)
def wkMask (m : Nat) (first : Int) : Nat → Nat
  | 0 => 0
  | n + 1 => if m.testBit (wdIn ((n : Int) + 1) first).toNat = true then wkMask m first n ||| 1 <<< (n + 1) else wkMask m first n
def markDays (last first : Int) : Mk → Nat
  | .num m => m &&& ((1 <<< (last + 1).toNat) - 1)
  | .last b => if last - (b : Int) < 1 then 0 else 1 <<< (last - (b : Int)).toNat
  | .near d => if (d : Int) > last then 0 else 1 <<< (nearB d last first).toNat
  | .work => 1 <<< (workDay last first).toNat
  | .wk m => wkMask m first last.toNat
  | .nth w n => if nthDay w n first > last then 0 else 1 <<< (nthDay w n first).toNat
  | .lastOne w => 1 <<< (last - (wdIn last first - (w : Int)) % 7).toNat
theorem bit_one {e j : Nat} (h : (1 <<< e).testBit j = true) : j = e := by
  rw [Nat.shiftLeft_eq, Nat.one_mul, Nat.testBit_two_pow] at h
  exact (of_decide_eq_true h).symm
theorem wkMask_bit {m : Nat} {first : Int} : ∀ {n j : Nat}, (wkMask m first n).testBit j = true → 1 ≤ j ∧ j ≤ n
  | 0, j, h => by
    have : (0 : Nat).testBit j = true := h
    simp at this
  | n + 1, j, h => by
    unfold wkMask at h
    split at h
    · rw [Nat.testBit_or, Bool.or_eq_true] at h
      rcases h with h | h
      · have := wkMask_bit h
        omega
      · have := bit_one h
        omega
    · have := wkMask_bit h
      omega
theorem markDays_bit {last first : Int} (h1 : 28 ≤ last) (h2 : last ≤ 31) (h3 : 0 ≤ first) (h4 : first ≤ 6) : ∀ {m : Mk}, m.Ok → ∀ {j : Nat}, (markDays last first m).testBit j = true → 1 ≤ j ∧ (j : Int) ≤ last
  | .num m, ok, j, h => by
    have h' : (m &&& ((1 <<< (last + 1).toNat) - 1)).testBit j = true := h
    rw [Nat.testBit_and, Bool.and_eq_true, Nat.shiftLeft_eq, Nat.one_mul, Nat.testBit_two_pow_sub_one] at h'
    have := ok j h'.1
    have := of_decide_eq_true h'.2
    omega
  | .last b, _, j, h => by
    have h' : (if last - (b : Int) < 1 then 0 else 1 <<< (last - (b : Int)).toNat).testBit j = true := h
    split at h'
    · simp at h'
    · have := bit_one h'
      omega
  | .near d, ok, j, h => by
    have ok' : 1 ≤ d := ok
    have h' : (if (d : Int) > last then 0 else 1 <<< (nearB d last first).toNat).testBit j = true := h
    split at h'
    · simp at h'
    · have := bit_one h'
      unfold nearB nearA at this
      split at this
      · split at this <;> omega
      · split at this
        · split at this <;> omega
        · omega
  | .work, _, j, h => by
    have := bit_one h
    unfold workDay at this
    split at this
    · omega
    · split at this <;> omega
  | .wk m, _, j, h => by
    have := wkMask_bit h
    omega
  | .nth w n, ok, j, h => by
    have ok' : 1 ≤ n := ok
    have h' : (if nthDay w n first > last then 0 else 1 <<< (nthDay w n first).toNat).testBit j = true := h
    split at h'
    · simp at h'
    · have := bit_one h'
      unfold nthDay at *
      omega
  | .lastOne w, _, j, h => by
    have := bit_one h
    omega
def anyDays (last first : Int) : List Mk → Nat → Nat
  | [], f => f
  | m :: ms, f => anyDays last first ms (f ||| markDays last first m)
theorem anyDays_bit {last first : Int} (h1 : 28 ≤ last) (h2 : last ≤ 31) (h3 : 0 ≤ first) (h4 : first ≤ 6) : ∀ {ms : List Mk} {f : Nat}, (∀ m ∈ ms, m.Ok) → (∀ j, f.testBit j = true → 1 ≤ j ∧ (j : Int) ≤ last) → ∀ j, (anyDays last first ms f).testBit j = true → 1 ≤ j ∧ (j : Int) ≤ last
  | [], f, _, hf, j, h => hf j h
  | m :: ms, f, ok, hf, j, h => by
    refine anyDays_bit h1 h2 h3 h4 (fun x hx => ok x (List.mem_cons_of_mem _ hx)) (fun i hi => ?_) j h
    rw [Nat.testBit_or, Bool.or_eq_true] at hi
    rcases hi with hi | hi
    · exact hf i hi
    · exact markDays_bit h1 h2 h3 h4 (ok m List.mem_cons_self) hi
structure RowD where
  mi : Nat
  ho : Nat
  mo : Nat
  dm : Option (List Mk)
  wm : Option (List Mk)
def optDays (last first : Int) (f : Nat) : Option (List Mk) → Nat
  | none => f
  | some ms => f ||| anyDays last first ms 0
def RowD.dy (d : RowD) (k : Int) : Nat :=
  if d.mo.testBit (kMonth k).toNat = false then 0 else
  match d.dm, d.wm with
  | none, none => (1 <<< (kLen k + 1).toNat) - 2
  | a, b => optDays (kLen k) (kFirst k) (optDays (kLen k) (kFirst k) 0 a) b
def RowD.rw (d : RowD) : Rw := ⟨d.mi, d.ho, d.mo, d.dy⟩
structure RowD.Ok (d : RowD) : Prop where
  mi1 : ∃ j, j < 60 ∧ d.mi.testBit j = true
  mi2 : d.mi < 2 ^ 60
  ho1 : ∃ j, j < 24 ∧ d.ho.testBit j = true
  ho2 : d.ho < 2 ^ 24
  mo1 : ∃ m : Int, 1 ≤ m ∧ m ≤ 12 ∧ d.mo.testBit m.toNat = true
  dm1 : ∀ ms, d.dm = some ms → ∀ m ∈ ms, m.Ok
  wm1 : ∀ ms, d.wm = some ms → ∀ m ∈ ms, m.Ok
theorem optDays_bit {last first : Int} (h1 : 28 ≤ last) (h2 : last ≤ 31) (h3 : 0 ≤ first) (h4 : first ≤ 6) {o : Option (List Mk)} {f : Nat} (ok : ∀ ms, o = some ms → ∀ m ∈ ms, m.Ok) (hf : ∀ j, f.testBit j = true → 1 ≤ j ∧ (j : Int) ≤ last) :
    ∀ j, (optDays last first f o).testBit j = true → 1 ≤ j ∧ (j : Int) ≤ last := by
  intro j h
  cases o with
  | none => exact hf j h
  | some ms =>
    have h' : (f ||| anyDays last first ms 0).testBit j = true := h
    rw [Nat.testBit_or, Bool.or_eq_true] at h'
    rcases h' with h' | h'
    · exact hf j h'
    · exact anyDays_bit h1 h2 h3 h4 (ok ms rfl) (fun i hi => by simp at hi) j h'
theorem RowD.dy_bit {d : RowD} (o : d.Ok) (k : Int) (j : Nat) (h : (d.dy k).testBit j = true) : 1 ≤ j ∧ (j : Int) ≤ kLen k := by
  have hl := kLen_range k
  have hf : 0 ≤ kFirst k ∧ kFirst k ≤ 6 := by
    unfold kFirst
    omega
  have gen : ∀ j, (optDays (kLen k) (kFirst k) (optDays (kLen k) (kFirst k) 0 d.dm) d.wm).testBit j = true → 1 ≤ j ∧ (j : Int) ≤ kLen k :=
    optDays_bit hl.1 hl.2 hf.1 hf.2 o.wm1 (optDays_bit hl.1 hl.2 hf.1 hf.2 o.dm1 fun i hi => by simp at hi)
  unfold RowD.dy at h
  split at h
  · simp at h
  · obtain ⟨mi, ho, mo, dm, wm⟩ := d
    cases dm with
    | some a => exact gen j h
    | none =>
      cases wm with
      | some b => exact gen j h
      | none =>
        have h' : (1 <<< (kLen k + 1).toNat - 2).testBit j = true := h
        cases j with
        | zero =>
          rw [Nat.testBit_zero, Nat.shiftLeft_eq] at h'
          have h2 := of_decide_eq_true h'
          have : (kLen k + 1).toNat = (kLen k).toNat + 1 := by omega
          rw [this, Nat.pow_succ] at h2
          omega
        | succ j =>
          refine ⟨by omega, ?_⟩
          by_cases q : (j + 1 : Nat) ≤ (kLen k).toNat
          · omega
          · have lt : 1 <<< (kLen k + 1).toNat - 2 < 2 ^ (j + 1) := by
              rw [Nat.shiftLeft_eq, Nat.one_mul]
              have : 2 ^ (kLen k + 1).toNat ≤ 2 ^ (j + 1) := Nat.pow_le_pow_right (by omega) (by omega)
              have : 0 < 2 ^ (kLen k + 1).toNat := Nat.two_pow_pos _
              omega
            rw [Nat.testBit_lt_two_pow lt] at h'
            cases h'
theorem RowD.Ok.rw {d : RowD} (o : d.Ok) : d.rw.Ok := by
  refine ⟨o.mi1, o.ho1, o.mo1, fun k j _ _ h => RowD.dy_bit o k j h, fun k h => ?_⟩
  show d.dy k = 0
  unfold RowD.dy
  exact if_pos h
end K58
namespace K58
/-! ### times of a day as a mask -/
def tmask (mi : Nat) : List Nat → Nat → Nat
  | [], f => f
  | h :: hs, f => tmask mi hs (f ||| mi <<< (60 * h))
theorem tmask_bit {mi : Nat} (hm : mi < 2 ^ 60) (z : Nat) : ∀ (hs : List Nat) (f : Nat), (tmask mi hs f).testBit z = (f.testBit z || (hs.any fun h => decide (h = z / 60)) && mi.testBit (z % 60))
  | [], f => by
    show f.testBit z = _
    simp
  | h :: hs, f => by
    show (tmask mi hs (f ||| mi <<< (60 * h))).testBit z = _
    rw [tmask_bit hm z hs, Nat.testBit_or, List.any_cons, Nat.testBit_shiftLeft]
    by_cases e : h = z / 60
    · have e1 : z ≥ 60 * h := by omega
      have e2 : z - 60 * h = z % 60 := by omega
      rw [decide_eq_true e, decide_eq_true e1, e2]
      cases f.testBit z <;> cases mi.testBit (z % 60) <;> cases (hs.any fun h => decide (h = z / 60)) <;> rfl
    · rw [decide_eq_false e]
      have e3 : (decide (z ≥ 60 * h) && mi.testBit (z - 60 * h)) = false := by
        by_cases e1 : z ≥ 60 * h
        · have : 60 ≤ z - 60 * h := by omega
          rw [Nat.testBit_lt_two_pow (Nat.lt_of_lt_of_le hm (Nat.pow_le_pow_right (by decide) this))]
          simp
        · rw [decide_eq_false e1]
          rfl
      rw [e3]
      simp
/-- the numbers of a mask below n -/
def nums (m n : Nat) : List Nat := (List.range n).filter fun j => m.testBit j
theorem nums_succ (m n : Nat) : nums m (n + 1) = if m.testBit n = true then nums m n ++ [n] else nums m n := by
  unfold nums
  rw [List.range_succ, List.filter_append]
  cases h : m.testBit n <;> simp [h]
theorem nums_len (m n : Nat) : (nums m n).length ≤ n := by
  have := List.length_filter_le (fun j => m.testBit j) (List.range n)
  rw [List.length_range] at this
  exact this
theorem nums_mem {m n j : Nat} (h : m >>> n = 0) : j ∈ nums m n ↔ m.testBit j = true := by
  unfold nums
  rw [List.mem_filter, List.mem_range]
  refine ⟨fun h => h.2, fun q => ⟨?_, q⟩⟩
  by_cases c : j < n
  · exact c
  · have : (m >>> n).testBit (j - n) = m.testBit j := by
      rw [Nat.testBit_shiftRight, show n + (j - n) = j by omega]
    rw [h, q] at this
    simp at this
theorem shr_zero {m n : Nat} (h : m < 2 ^ 64) (hn : 64 ≤ n) : m >>> n = 0 := by
  rw [Nat.shiftRight_eq_div_pow]
  exact Nat.div_eq_of_lt (Nat.lt_of_lt_of_le h (Nat.pow_le_pow_right (by decide) hn))
end K58
set_option Elab.async false
set_option maxRecDepth 100000
set_option maxHeartbeats 4000000
set_option linter.all false
namespace K58
open PySem PySem.Spec PyProof.Rows L2
/-! ### readings made weaker -/
def upE (t : TE) : TE := fun σ H Q => ∃ Q0 : VK, t σ H Q0 ∧ ∀ v H', Q0 v H' → Q v H'
def upA (t : TA) : TA := fun σ H Q => ∃ Q0 : List V → Hp → Prop, t σ H Q0 ∧ ∀ v H', Q0 v H' → Q v H'
section
variable {X : Cx} {e a b : Expr} {es : List Expr} {t t' ta tb : TE} {u u' : TA} {pos : Pos}
theorem pe_weak (h : PE X e t) (w : ∀ σ H Q, t' σ H Q → t σ H Q) : PE X e t' := ⟨fun pins s σ H Q I q => h.run pins s σ H Q I (w _ _ _ q)⟩
theorem pt_weak {t t' : TT} (h : PT X e t) (w : ∀ σ H Q, t' σ H Q → t σ H Q) : PT X e t' := ⟨fun pins s σ H Q I q => h.run pins s σ H Q I (w _ _ _ q)⟩
theorem pe_up (h : PE X e t) : PE X e (upE t) := ⟨fun pins s σ H Q I q => by
  obtain ⟨Q0, q0, w⟩ := q
  exact thn (h.run pins s σ H Q0 I q0) fun v s1 ⟨x, H1, I1, r, z⟩ => ⟨x, H1, I1, r, w _ _ z⟩⟩
theorem pa_up (h : PA X es u) : PA X es (upA u) := ⟨fun pos pins s σ H Q I q => by
  obtain ⟨Q0, q0, w⟩ := q
  exact thn (h.run pos pins s σ H Q0 I q0) fun v s1 ⟨x, H1, I1, r, z⟩ => ⟨x, H1, I1, r, w _ _ z⟩⟩
/-- one of two readings -/
def tOr2 (t t' : TE) : TE := fun σ H Q => t σ H Q ∨ t' σ H Q
theorem pe_or2 (h : PE X e t) (h' : PE X e t') : PE X e (tOr2 t t') := ⟨fun pins s σ H Q I q => q.elim (h.run pins s σ H Q I) (h'.run pins s σ H Q I)⟩
theorem same_upd {H : Hp} {p : Addr} {o : HO} (h : H p = none) : Same H (upd H p o) := fun b z e => by
  rw [upd_ne (ne_of_none e h)]
  exact e
/-! ### new tuples and lists -/
def tTupS (t : TA) : TE := fun σ H Q => t σ H fun xs H1 => xs.length ≤ sizeLine ∧ ∀ p H', Same H1 H' → H1 p = none → H' p = some (.tup xs) → Q (.ref p) H'
def tLstS (t : TA) : TE := fun σ H Q => t σ H fun xs H1 => xs.length ≤ sizeLine ∧ ∀ p H', Same H1 H' → H1 p = none → H' p = some (.lst xs) → Q (.ref p) H'
theorem pe_tupS {x1 : Nat} (h : PA X es u) : PE X (.Tuple es x1 pos) (tTupS u) :=
  pe_weak (pe_tup (pa_up h)) fun σ H Q q => ⟨_, q, fun xs H1 ⟨h1, h2⟩ => ⟨h1, fun p hp => h2 p _ (same_upd hp) hp upd_same⟩⟩
theorem pe_lstS (h : PA X es u) : PE X (.List es pos) (tLstS u) :=
  pe_weak (pe_lst (pa_up h)) fun σ H Q q => ⟨_, q, fun xs H1 ⟨h1, h2⟩ => ⟨h1, fun p hp => h2 p _ (same_upd hp) hp upd_same⟩⟩
/-! ### bits -/
theorem bit_val (n k : Nat) : Builtin.bitAnd ((n : Int) / 2 ^ k) 1 = if n.testBit k = true then 1 else 0 := by
  rw [PyProof.Rows.bitAnd_m1]
  have e : ((n : Int) / 2 ^ k) = ((n / 2 ^ k : Nat) : Int) := by
    rw [Int.natCast_ediv, Int.natCast_pow]
    rfl
  rw [e, Nat.testBit_eq_decide_div_mod_eq]
  have : n / 2 ^ k % 2 = 0 ∨ n / 2 ^ k % 2 = 1 := by omega
  rcases this with h | h
  · rw [h]
    simp
    omega
  · rw [h]
    simp
    omega
theorem bit_eq1 (n k : Nat) : decide (V.int (Builtin.bitAnd ((n : Int) / 2 ^ k) 1) = V.int 1) = n.testBit k := by
  rw [bit_val]
  cases n.testBit k <;> simp
theorem bit_eq0 (n k : Nat) : decide (V.int (Builtin.bitAnd ((n : Int) / 2 ^ k) 1) = V.int 0) = !n.testBit k := by
  rw [bit_val]
  cases n.testBit k <;> simp
/-- m >> i & 1 == 1, == 0 -/
def tBit (g : Bool → Bool) (ta tb : TE) : TE := fun σ H Q => ta σ H fun x H1 => tb σ H1 fun y H2 => ∃ (n : Nat) (z : Int), x = .int n ∧ y = .int z ∧ 0 ≤ z ∧ Q (.bl (g (n.testBit z.toNat))) H2
def tBitT (g : Bool → Bool) (ta tb : TE) : TT := fun σ H Q => ta σ H fun x H1 => tb σ H1 fun y H2 => ∃ (n : Nat) (z : Int), x = .int n ∧ y = .int z ∧ 0 ≤ z ∧ Q (g (n.testBit z.toNat)) H2
variable {p1 p2 p3 p4 : Pos} {j1 j2 : Nat}
theorem pe_bit1 (ha : PE X a ta) (hb : PE X b tb) : PE X (.Compare (.BinOp (.BinOp a .RShift b p1) .BitAnd (.Constant (.int 1) j1 p2) p3) [.Eq] [.Constant (.int 1) j2 p4] pos) (tBit id ta tb) :=
  pe_weak (pe_cmpR op_eq (pe_op op_and (pe_op op_shr (pe_up ha) (pe_up hb)) pe_int) pe_int (nomark _)) fun σ H Q q =>
    ⟨_, q, fun x H1 q1 => ⟨_, q1, fun y H2 ⟨n, z, ex, ey, hz, q2⟩ => ⟨(n : Int), z, ex, ey, hz, _, _, rfl, rfl, rfl, by rw [bit_eq1]; exact q2⟩⟩⟩
theorem pt_bit1 (ha : PE X a ta) (hb : PE X b tb) : PT X (.Compare (.BinOp (.BinOp a .RShift b p1) .BitAnd (.Constant (.int 1) j1 p2) p3) [.Eq] [.Constant (.int 1) j2 p4] pos) (tBitT id ta tb) :=
  pt_weak (pt_cmpR op_eq (pe_op op_and (pe_op op_shr (pe_up ha) (pe_up hb)) pe_int) pe_int (nomark _)) fun σ H Q q =>
    ⟨_, q, fun x H1 q1 => ⟨_, q1, fun y H2 ⟨n, z, ex, ey, hz, q2⟩ => ⟨(n : Int), z, ex, ey, hz, _, _, rfl, rfl, rfl, _, rfl, by rw [bit_eq1]; exact q2⟩⟩⟩
theorem pt_bit0 (ha : PE X a ta) (hb : PE X b tb) : PT X (.Compare (.BinOp (.BinOp a .RShift b p1) .BitAnd (.Constant (.int 1) j1 p2) p3) [.Eq] [.Constant (.int 0) j2 p4] pos) (tBitT not ta tb) :=
  pt_weak (pt_cmpR op_eq (pe_op op_and (pe_op op_shr (pe_up ha) (pe_up hb)) pe_int) pe_int (nomark _)) fun σ H Q q =>
    ⟨_, q, fun x H1 q1 => ⟨_, q1, fun y H2 ⟨n, z, ex, ey, hz, q2⟩ => ⟨(n : Int), z, ex, ey, hz, _, _, rfl, rfl, rfl, _, rfl, by rw [bit_eq0]; exact q2⟩⟩⟩
/-! ### masks joined -/
theorem op_orN : OpR X (binaryOp .BitOr) (fun x y H Q => ∃ m n : Nat, x = .int m ∧ y = .int n ∧ Q (.int ((m ||| n : Nat) : Int)) H) := by
  intro pins s σ H x y v u Q I rx ry h
  obtain ⟨m, n, e1, e2, q⟩ := h
  refine op_or pins s σ H x y v u Q I rx ry ⟨m, n, e1, e2, ?_⟩
  show Q (.int (Builtin.bitOr m n)) H
  rw [Bits.bitOr_pp (Int.natCast_nonneg m) (Int.natCast_nonneg n)]
  exact q
theorem op_andN : OpR X (binaryOp .BitAnd) (fun x y H Q => ∃ m n : Nat, x = .int m ∧ y = .int n ∧ Q (.int ((m &&& n : Nat) : Int)) H) := by
  intro pins s σ H x y v u Q I rx ry h
  obtain ⟨m, n, e1, e2, q⟩ := h
  refine op_and pins s σ H x y v u Q I rx ry ⟨m, n, e1, e2, ?_⟩
  show Q (.int (Builtin.bitAnd m n)) H
  rw [PyProof.Rows.bitAnd_pp (Int.natCast_nonneg m) (Int.natCast_nonneg n)]
  exact q
theorem op_shlN : OpR X (binaryOp .LShift) (fun x y H Q => ∃ (m : Nat) (z : Int), x = .int m ∧ y = .int z ∧ 0 ≤ z ∧ z ≤ 1000000 ∧ m < 2 ^ 64 ∧ Q (.int ((m <<< z.toNat : Nat) : Int)) H) := by
  intro pins s σ H x y v u Q I rx ry h
  obtain ⟨m, z, e1, e2, h0, h1, hm, q⟩ := h
  refine op_shl pins s σ H x y v u Q I rx ry ⟨m, z, e1, e2, ⟨h0, h1, by rw [Int.natAbs_natCast]; exact hm⟩, ?_⟩
  rw [Nat.shiftLeft_eq, Int.natCast_mul, Int.natCast_pow] at q
  exact q
theorem op_shrN : OpR X (binaryOp .RShift) (fun x y H Q => ∃ (m : Nat) (z : Int), x = .int m ∧ y = .int z ∧ 0 ≤ z ∧ Q (.int ((m >>> z.toNat : Nat) : Int)) H) := by
  intro pins s σ H x y v u Q I rx ry h
  obtain ⟨m, z, e1, e2, h0, q⟩ := h
  refine op_shr pins s σ H x y v u Q I rx ry ⟨m, z, e1, e2, h0, ?_⟩
  rw [Nat.shiftRight_eq_div_pow, Int.natCast_ediv, Int.natCast_pow] at q
  exact q
end
/-! ### lists of ranges with a step -/
def rg3 (i c : Int) (n : Nat) : List V := (List.range n).map fun k => V.int (i + (k : Nat) * c)
section
variable {X : Cx} {a b c : Expr} {ta tb tc : TE}
theorem vals_rg3 {i c : Int} {n : Nat} {acc : Array Value} (h : ItemsOf (fun k v => ∃ t, v = .int (i + k * c) t) acc n) : Vals (rg3 i c n) acc.toList := by
  have e : acc.toList.length = n := by
    rw [Array.length_toList]
    exact h.1
  unfold rg3
  rw [← e]
  exact vals_of_get acc.toList _ fun j u hj => by
    obtain ⟨t, rfl⟩ := h.2 j u (by rw [← hj, Array.getElem?_toList])
    exact ⟨t, rfl⟩
def tLst3 (ta tb tc : TE) : TE := fun σ H Q => ta σ H fun x H1 => tb σ H1 fun y H2 => tc σ H2 fun z H3 => ∃ (i j k : Int) (n : Nat), x = .int i ∧ y = .int j ∧ z = .int k ∧ RgC i j k n ∧ n ≤ 16777216 ∧
  ∀ q H', Same H3 H' → H3 q = none → H' q = some (.lst (rg3 i k n)) → Q (.ref q) H'
theorem pe_list3 {p1 p2 p3 p4 : Pos} (hc : X.calm = true) (gl : Gl X "list") (ml : X.mg "list" = none) (gr : Gl X "range") (mr : X.mg "range" = none) (ha : PE X a ta) (hb : PE X b tb) (hd : PE X c tc)
    (n1 : starEach [a, b, c] X.env = (false, eval a X.env) :: starEach [b, c] X.env := by rfl) (n2 : starEach [b, c] X.env = (false, eval b X.env) :: starEach [c] X.env := by rfl) (n3 : starEach [c] X.env = (false, eval c X.env) :: starEach [] X.env := by rfl)
    (l1 : (backTo p2 (starEach [b, c] X.env)).any (·.1) = false := by rfl)
    (na : starEach [Expr.Call (.Name "range" p1) [a, b, c] [] p2] X.env = (false, eval (Expr.Call (.Name "range" p1) [a, b, c] [] p2) X.env) :: starEach [] X.env := by rfl) :
    PE X (.Call (.Name "list" p3) [.Call (.Name "range" p1) [a, b, c] [] p2] [] p4) (tLst3 ta tb tc) := by
  refine ⟨fun pins s σ H Q I h => ?_⟩
  refine Call_ (ld_blt I gl ml boot_list (PyProof.Rows.callWith_type1 (args_cons (thn (Q := fun v s' => ∃ (r : Addr) (i j k : Int) (n : Nat) (t1 t2 t3 : Tok) (H' : Hp), v = .ref r ∧ IsRange s'.heap r i j k t1 t2 t3 ∧ Inv X pins σ H' s' ∧ RgC i j k n ∧ n ≤ 16777216 ∧
      ∀ q H'', Same H' H'' → H' q = none → H'' q = some (.lst (rg3 i k n)) → Q (.ref q) H'') ?_ fun v s1 ⟨r, i, j, k, n, t1, t2, t3, H1, ev, hr, I1, rg, hn, q⟩ => args_nil ?_) na) na))
  · refine Call_ (ld_blt I gr mr boot_range (PyProof.Rows.callWith_type1 (args_cons (thn (ha.run pins s σ H _ I h) fun v s1 ⟨x, H1, I1, r1, q1⟩ => args_cons (thn (hb.run pins s1 σ H1 _ I1 q1) fun v2 s2 ⟨y, H2, I2, r2, q2⟩ =>
      args_cons (thn (hd.run pins s2 σ H2 _ I2 q2) fun v3 s3 ⟨z, H3, I3, r3, q3⟩ => args_nil ?_) n3) n2) n1) n1 l1))
    obtain ⟨i, j, k, n, rfl, rfl, rfl, rg, hn, q⟩ := q3
    obtain ⟨t1, rfl⟩ := r1
    obtain ⟨t2, rfl⟩ := r2
    obtain ⟨t3, rfl⟩ := r3
    exact call_range_3 rg.1 ⟨_, i, j, k, n, _, _, _, H3, rfl, IsRange.new .., I3.kept fun b o e => Heap.get?_push_of_some _ e, rg, hn, q⟩ (.inl (PyProof.noPylong_small rg.2.1))
  · subst ev
    refine call_list_range (n := n) (I1.ok.hd hc) hr rg.2.2.1 rg.2.2.2 (by omega) fun h' tk acc c' hk e' hi => ?_
    have hf := I1.hok.fresh (Nat.le_refl s1.heap.objs.size)
    refine ⟨.ref s1.heap.objs.size, upd H1 s1.heap.objs.size (.lst (rg3 i k n)), I1.laid hk (Nat.le_refl _) (show ObjOk X.prog X.w _ _ _ (.lst (rg3 i k n)) from ⟨?_, acc.toList, c', vals_rg3 hi, ?_⟩), rfl, q _ _ (same_upd hf) hf upd_same⟩
    · unfold rg3
      rw [List.length_map, List.length_range, sizeLine_eq]
      omega
    · rw [Array.toArray_toList]
      exact e'
end
end K58
set_option Elab.async false
set_option maxRecDepth 100000
namespace K58
open PySem PySem.Spec PyProof.Rows L2
def top (i : Nat) : Stmt := PySem.Challenge.pw_fivefields_k58_whole_none_between.main.body.getD i (.Pass ⟨0, 0, 0, 0⟩)
abbrev s_is_whole : Stmt := top 8
abbrev s_only_figures : Stmt := top 9
abbrev s_is_long : Stmt := top 14
abbrev s_days_before : Stmt := top 15
abbrev s_last_of : Stmt := top 16
abbrev s_day_of : Stmt := top 17
abbrev s_date_of : Stmt := top 18
abbrev s_weekday : Stmt := top 19
abbrev s_parted : Stmt := top 23
abbrev s_kind_of : Stmt := top 27
abbrev s_month_at : Stmt := top 28
abbrev s_is_in : Stmt := top 31
abbrev s_month_open : Stmt := top 32
abbrev s_is_shut_day : Stmt := top 33
abbrev s_day_open : Stmt := top 34
abbrev s_hour_open : Stmt := top 35
abbrev s_minute_open : Stmt := top 36
abbrev s_open_again : Stmt := top 37
abbrev s_never : Stmt := top 40
abbrev s_run_end : Stmt := top 41
abbrev s_runs_to : Stmt := top 42
abbrev s_next_from : Stmt := top 43
abbrev s_greatest_in : Stmt := top 44
abbrev s_last_in_month : Stmt := top 45
abbrev s_held_back : Stmt := top 46
abbrev s_last_to : Stmt := top 47
abbrev s_mask_of : Stmt := top 56
abbrev s_numbers_in : Stmt := top 57
abbrev s_number_in_fields : Stmt := top 58
abbrev s_span_in : Stmt := top 60
abbrev s_item_mask : Stmt := top 61
abbrev s_read_field : Stmt := top 62
abbrev s_weekday_in : Stmt := top 70
abbrev s_Mark_days : Stmt := inClass (top 71) 0
abbrev s_Numbers_init : Stmt := inClass (top 72) 0
abbrev s_Numbers_days : Stmt := inClass (top 72) 1
abbrev s_Last_init : Stmt := inClass (top 73) 0
abbrev s_Last_days : Stmt := inClass (top 73) 1
abbrev s_Near_init : Stmt := inClass (top 74) 0
abbrev s_Near_days : Stmt := inClass (top 74) 1
abbrev s_LastWork_days : Stmt := inClass (top 75) 0
abbrev s_Weekdays_init : Stmt := inClass (top 76) 0
abbrev s_Weekdays_days : Stmt := inClass (top 76) 1
abbrev s_Nth_init : Stmt := inClass (top 77) 0
abbrev s_Nth_days : Stmt := inClass (top 77) 1
abbrev s_LastOne_init : Stmt := inClass (top 78) 0
abbrev s_LastOne_days : Stmt := inClass (top 78) 1
abbrev s_any_days : Stmt := top 79
abbrev s_number_in_marks : Stmt := top 80
abbrev s_day_mark : Stmt := top 82
abbrev s_weekday_mark : Stmt := top 83
abbrev s_items_of : Stmt := top 84
abbrev s_plain_item : Stmt := top 85
abbrev s_read_items : Stmt := top 86
abbrev s_read_days : Stmt := top 87
abbrev s_read_weekdays : Stmt := top 88
abbrev s_Row_init : Stmt := inClass (top 93) 0
abbrev s_Row_minutes : Stmt := inClass (top 93) 1
abbrev s_Row_hours : Stmt := inClass (top 93) 2
abbrev s_Row_months : Stmt := inClass (top 93) 3
abbrev s_Row_times : Stmt := inClass (top 93) 4
abbrev s_Row_days_in : Stmt := inClass (top 93) 5
abbrev s_Row_shut_by : Stmt := inClass (top 93) 6
abbrev s_Row_holds : Stmt := inClass (top 93) 7
abbrev s_words_of : Stmt := top 94
abbrev s_field_at : Stmt := top 95
abbrev s_read_row : Stmt := top 96
abbrev s__law_cell_at : Stmt := top 98
abbrev s__law_stir : Stmt := top 99
abbrev s__law_digits : Stmt := top 100
abbrev s__law_item : Stmt := top 101
abbrev s__law_numbers : Stmt := top 102
abbrev s__law_days : Stmt := top 103
abbrev s__law_weekdays : Stmt := top 104
abbrev s__law_spec : Stmt := top 105
abbrev s__law_start : Stmt := top 106
abbrev s__law_moment : Stmt := top 107
abbrev s__law_between : Stmt := top 108
abbrev s__law_right : Stmt := top 109
abbrev s_law : Stmt := top 110
def d_is_whole : He.DefD := ⟨("is_whole", none), "is_whole", "is_whole", defArgs s_is_whole, defBody s_is_whole, defScope s_is_whole, [], []⟩
def d_only_figures : He.DefD := ⟨("only_figures", none), "only_figures", "only_figures", defArgs s_only_figures, defBody s_only_figures, defScope s_only_figures, [], []⟩
def d_is_long : He.DefD := ⟨("is_long", none), "is_long", "is_long", defArgs s_is_long, defBody s_is_long, defScope s_is_long, [], []⟩
def d_days_before : He.DefD := ⟨("days_before", none), "days_before", "days_before", defArgs s_days_before, defBody s_days_before, defScope s_days_before, [], []⟩
def d_last_of : He.DefD := ⟨("last_of", none), "last_of", "last_of", defArgs s_last_of, defBody s_last_of, defScope s_last_of, [], []⟩
def d_day_of : He.DefD := ⟨("day_of", none), "day_of", "day_of", defArgs s_day_of, defBody s_day_of, defScope s_day_of, [], []⟩
def d_date_of : He.DefD := ⟨("date_of", none), "date_of", "date_of", defArgs s_date_of, defBody s_date_of, defScope s_date_of, [], []⟩
def d_weekday : He.DefD := ⟨("weekday", none), "weekday", "weekday", defArgs s_weekday, defBody s_weekday, defScope s_weekday, [], []⟩
def d_parted : He.DefD := ⟨("parted", none), "parted", "parted", defArgs s_parted, defBody s_parted, defScope s_parted, [], []⟩
def d_kind_of : He.DefD := ⟨("kind_of", none), "kind_of", "kind_of", defArgs s_kind_of, defBody s_kind_of, defScope s_kind_of, [], []⟩
def d_month_at : He.DefD := ⟨("month_at", none), "month_at", "month_at", defArgs s_month_at, defBody s_month_at, defScope s_month_at, [], []⟩
def d_is_in : He.DefD := ⟨("is_in", none), "is_in", "is_in", defArgs s_is_in, defBody s_is_in, defScope s_is_in, [], []⟩
def d_month_open : He.DefD := ⟨("month_open", none), "month_open", "month_open", defArgs s_month_open, defBody s_month_open, defScope s_month_open, [], []⟩
def d_is_shut_day : He.DefD := ⟨("is_shut_day", none), "is_shut_day", "is_shut_day", defArgs s_is_shut_day, defBody s_is_shut_day, defScope s_is_shut_day, [], []⟩
def d_day_open : He.DefD := ⟨("day_open", none), "day_open", "day_open", defArgs s_day_open, defBody s_day_open, defScope s_day_open, [], []⟩
def d_hour_open : He.DefD := ⟨("hour_open", none), "hour_open", "hour_open", defArgs s_hour_open, defBody s_hour_open, defScope s_hour_open, [], []⟩
def d_minute_open : He.DefD := ⟨("minute_open", none), "minute_open", "minute_open", defArgs s_minute_open, defBody s_minute_open, defScope s_minute_open, [], []⟩
def d_open_again : He.DefD := ⟨("open_again", none), "open_again", "open_again", defArgs s_open_again, defBody s_open_again, defScope s_open_again, [], []⟩
def d_never : He.DefD := ⟨("never", none), "never", "never", defArgs s_never, defBody s_never, defScope s_never, [], []⟩
def d_run_end : He.DefD := ⟨("run_end", none), "run_end", "run_end", defArgs s_run_end, defBody s_run_end, defScope s_run_end, [], []⟩
def d_runs_to : He.DefD := ⟨("runs_to", none), "runs_to", "runs_to", defArgs s_runs_to, defBody s_runs_to, defScope s_runs_to, [], []⟩
def d_next_from : He.DefD := ⟨("next_from", none), "next_from", "next_from", defArgs s_next_from, defBody s_next_from, defScope s_next_from, [], []⟩
def d_greatest_in : He.DefD := ⟨("greatest_in", none), "greatest_in", "greatest_in", defArgs s_greatest_in, defBody s_greatest_in, defScope s_greatest_in, [], []⟩
def d_last_in_month : He.DefD := ⟨("last_in_month", none), "last_in_month", "last_in_month", defArgs s_last_in_month, defBody s_last_in_month, defScope s_last_in_month, [], []⟩
def d_held_back : He.DefD := ⟨("held_back", none), "held_back", "held_back", defArgs s_held_back, defBody s_held_back, defScope s_held_back, [], []⟩
def d_last_to : He.DefD := ⟨("last_to", none), "last_to", "last_to", defArgs s_last_to, defBody s_last_to, defScope s_last_to, [], []⟩
def d_mask_of : He.DefD := ⟨("mask_of", none), "mask_of", "mask_of", defArgs s_mask_of, defBody s_mask_of, defScope s_mask_of, [], []⟩
def d_numbers_in : He.DefD := ⟨("numbers_in", none), "numbers_in", "numbers_in", defArgs s_numbers_in, defBody s_numbers_in, defScope s_numbers_in, [], []⟩
def d_number_in_fields : He.DefD := ⟨("number_in_fields", none), "number_in", "number_in", defArgs s_number_in_fields, defBody s_number_in_fields, defScope s_number_in_fields, [], []⟩
def d_span_in : He.DefD := ⟨("span_in", none), "span_in", "span_in", defArgs s_span_in, defBody s_span_in, defScope s_span_in, [], []⟩
def d_item_mask : He.DefD := ⟨("item_mask", none), "item_mask", "item_mask", defArgs s_item_mask, defBody s_item_mask, defScope s_item_mask, [], []⟩
def d_read_field : He.DefD := ⟨("read_field", none), "read_field", "read_field", defArgs s_read_field, defBody s_read_field, defScope s_read_field, [], []⟩
def d_weekday_in : He.DefD := ⟨("weekday_in", none), "weekday_in", "weekday_in", defArgs s_weekday_in, defBody s_weekday_in, defScope s_weekday_in, [], []⟩
def d_Mark_days : He.DefD := ⟨("Mark", some "days"), "days", "Mark.days", defArgs s_Mark_days, defBody s_Mark_days, defScope s_Mark_days, [], []⟩
def d_Numbers_init : He.DefD := ⟨("Numbers", some "__init__"), "__init__", "Numbers.__init__", defArgs s_Numbers_init, defBody s_Numbers_init, defScope s_Numbers_init, [], []⟩
def d_Numbers_days : He.DefD := ⟨("Numbers", some "days"), "days", "Numbers.days", defArgs s_Numbers_days, defBody s_Numbers_days, defScope s_Numbers_days, [], []⟩
def d_Last_init : He.DefD := ⟨("Last", some "__init__"), "__init__", "Last.__init__", defArgs s_Last_init, defBody s_Last_init, defScope s_Last_init, [.int 0], []⟩
def d_Last_days : He.DefD := ⟨("Last", some "days"), "days", "Last.days", defArgs s_Last_days, defBody s_Last_days, defScope s_Last_days, [], []⟩
def d_Near_init : He.DefD := ⟨("Near", some "__init__"), "__init__", "Near.__init__", defArgs s_Near_init, defBody s_Near_init, defScope s_Near_init, [], []⟩
def d_Near_days : He.DefD := ⟨("Near", some "days"), "days", "Near.days", defArgs s_Near_days, defBody s_Near_days, defScope s_Near_days, [], []⟩
def d_LastWork_days : He.DefD := ⟨("LastWork", some "days"), "days", "LastWork.days", defArgs s_LastWork_days, defBody s_LastWork_days, defScope s_LastWork_days, [], []⟩
def d_Weekdays_init : He.DefD := ⟨("Weekdays", some "__init__"), "__init__", "Weekdays.__init__", defArgs s_Weekdays_init, defBody s_Weekdays_init, defScope s_Weekdays_init, [], []⟩
def d_Weekdays_days : He.DefD := ⟨("Weekdays", some "days"), "days", "Weekdays.days", defArgs s_Weekdays_days, defBody s_Weekdays_days, defScope s_Weekdays_days, [], []⟩
def d_Nth_init : He.DefD := ⟨("Nth", some "__init__"), "__init__", "Nth.__init__", defArgs s_Nth_init, defBody s_Nth_init, defScope s_Nth_init, [], []⟩
def d_Nth_days : He.DefD := ⟨("Nth", some "days"), "days", "Nth.days", defArgs s_Nth_days, defBody s_Nth_days, defScope s_Nth_days, [], []⟩
def d_LastOne_init : He.DefD := ⟨("LastOne", some "__init__"), "__init__", "LastOne.__init__", defArgs s_LastOne_init, defBody s_LastOne_init, defScope s_LastOne_init, [], []⟩
def d_LastOne_days : He.DefD := ⟨("LastOne", some "days"), "days", "LastOne.days", defArgs s_LastOne_days, defBody s_LastOne_days, defScope s_LastOne_days, [], []⟩
def d_any_days : He.DefD := ⟨("any_days", none), "any_days", "any_days", defArgs s_any_days, defBody s_any_days, defScope s_any_days, [], []⟩
def d_number_in_marks : He.DefD := ⟨("number_in_marks", none), "number_in", "number_in", defArgs s_number_in_marks, defBody s_number_in_marks, defScope s_number_in_marks, [], []⟩
def d_day_mark : He.DefD := ⟨("day_mark", none), "day_mark", "day_mark", defArgs s_day_mark, defBody s_day_mark, defScope s_day_mark, [], []⟩
def d_weekday_mark : He.DefD := ⟨("weekday_mark", none), "weekday_mark", "weekday_mark", defArgs s_weekday_mark, defBody s_weekday_mark, defScope s_weekday_mark, [], []⟩
def d_items_of : He.DefD := ⟨("items_of", none), "items_of", "items_of", defArgs s_items_of, defBody s_items_of, defScope s_items_of, [], []⟩
def d_plain_item : He.DefD := ⟨("plain_item", none), "plain_item", "plain_item", defArgs s_plain_item, defBody s_plain_item, defScope s_plain_item, [], []⟩
def d_read_items : He.DefD := ⟨("read_items", none), "read_items", "read_items", defArgs s_read_items, defBody s_read_items, defScope s_read_items, [], []⟩
def d_read_days : He.DefD := ⟨("read_days", none), "read_days", "read_days", defArgs s_read_days, defBody s_read_days, defScope s_read_days, [], []⟩
def d_read_weekdays : He.DefD := ⟨("read_weekdays", none), "read_weekdays", "read_weekdays", defArgs s_read_weekdays, defBody s_read_weekdays, defScope s_read_weekdays, [], []⟩
def d_Row_init : He.DefD := ⟨("Row", some "__init__"), "__init__", "Row.__init__", defArgs s_Row_init, defBody s_Row_init, defScope s_Row_init, [], []⟩
def d_Row_minutes : He.DefD := ⟨("Row", some "minutes"), "minutes", "Row.minutes", defArgs s_Row_minutes, defBody s_Row_minutes, defScope s_Row_minutes, [], []⟩
def d_Row_hours : He.DefD := ⟨("Row", some "hours"), "hours", "Row.hours", defArgs s_Row_hours, defBody s_Row_hours, defScope s_Row_hours, [], []⟩
def d_Row_months : He.DefD := ⟨("Row", some "months"), "months", "Row.months", defArgs s_Row_months, defBody s_Row_months, defScope s_Row_months, [], []⟩
def d_Row_times : He.DefD := ⟨("Row", some "times"), "times", "Row.times", defArgs s_Row_times, defBody s_Row_times, defScope s_Row_times, [], []⟩
def d_Row_days_in : He.DefD := ⟨("Row", some "days_in"), "days_in", "Row.days_in", defArgs s_Row_days_in, defBody s_Row_days_in, defScope s_Row_days_in, [], []⟩
def d_Row_shut_by : He.DefD := ⟨("Row", some "shut_by"), "shut_by", "Row.shut_by", defArgs s_Row_shut_by, defBody s_Row_shut_by, defScope s_Row_shut_by, [], []⟩
def d_Row_holds : He.DefD := ⟨("Row", some "holds"), "holds", "Row.holds", defArgs s_Row_holds, defBody s_Row_holds, defScope s_Row_holds, [], []⟩
def d_words_of : He.DefD := ⟨("words_of", none), "words_of", "words_of", defArgs s_words_of, defBody s_words_of, defScope s_words_of, [], []⟩
def d_field_at : He.DefD := ⟨("field_at", none), "field_at", "field_at", defArgs s_field_at, defBody s_field_at, defScope s_field_at, [], []⟩
def d_read_row : He.DefD := ⟨("read_row", none), "read_row", "read_row", defArgs s_read_row, defBody s_read_row, defScope s_read_row, [], []⟩
def d__law_cell_at : He.DefD := ⟨("_law_cell_at", none), "_law_cell_at", "_law_cell_at", defArgs s__law_cell_at, defBody s__law_cell_at, defScope s__law_cell_at, [], []⟩
def d__law_stir : He.DefD := ⟨("_law_stir", none), "_law_stir", "_law_stir", defArgs s__law_stir, defBody s__law_stir, defScope s__law_stir, [], []⟩
def d__law_digits : He.DefD := ⟨("_law_digits", none), "_law_digits", "_law_digits", defArgs s__law_digits, defBody s__law_digits, defScope s__law_digits, [], []⟩
def d__law_item : He.DefD := ⟨("_law_item", none), "_law_item", "_law_item", defArgs s__law_item, defBody s__law_item, defScope s__law_item, [], []⟩
def d__law_numbers : He.DefD := ⟨("_law_numbers", none), "_law_numbers", "_law_numbers", defArgs s__law_numbers, defBody s__law_numbers, defScope s__law_numbers, [], []⟩
def d__law_days : He.DefD := ⟨("_law_days", none), "_law_days", "_law_days", defArgs s__law_days, defBody s__law_days, defScope s__law_days, [], []⟩
def d__law_weekdays : He.DefD := ⟨("_law_weekdays", none), "_law_weekdays", "_law_weekdays", defArgs s__law_weekdays, defBody s__law_weekdays, defScope s__law_weekdays, [], []⟩
def d__law_spec : He.DefD := ⟨("_law_spec", none), "_law_spec", "_law_spec", defArgs s__law_spec, defBody s__law_spec, defScope s__law_spec, [], []⟩
def d__law_start : He.DefD := ⟨("_law_start", none), "_law_start", "_law_start", defArgs s__law_start, defBody s__law_start, defScope s__law_start, [], []⟩
def d__law_moment : He.DefD := ⟨("_law_moment", none), "_law_moment", "_law_moment", defArgs s__law_moment, defBody s__law_moment, defScope s__law_moment, [], []⟩
def d__law_between : He.DefD := ⟨("_law_between", none), "_law_between", "_law_between", defArgs s__law_between, defBody s__law_between, defScope s__law_between, [], []⟩
def d__law_right : He.DefD := ⟨("_law_right", none), "_law_right", "_law_right", defArgs s__law_right, defBody s__law_right, defScope s__law_right, [], []⟩
def d_law : He.DefD := ⟨("law", none), "law", "law", defArgs s_law, defBody s_law, defScope s_law, [], []⟩
def fn : List He.DefD := [d_is_whole, d_only_figures, d_is_long, d_days_before, d_last_of, d_day_of, d_date_of, d_weekday, d_parted, d_kind_of, d_month_at, d_is_in, d_month_open, d_is_shut_day, d_day_open, d_hour_open, d_minute_open, d_open_again, d_never, d_run_end, d_runs_to, d_next_from, d_greatest_in, d_last_in_month, d_held_back, d_last_to, d_mask_of, d_numbers_in, d_number_in_fields, d_span_in, d_item_mask, d_read_field, d_weekday_in, d_Mark_days, d_Numbers_init, d_Numbers_days, d_Last_init, d_Last_days, d_Near_init, d_Near_days, d_LastWork_days, d_Weekdays_init, d_Weekdays_days, d_Nth_init, d_Nth_days, d_LastOne_init, d_LastOne_days, d_any_days, d_number_in_marks, d_day_mark, d_weekday_mark, d_items_of, d_plain_item, d_read_items, d_read_days, d_read_weekdays, d_Row_init, d_Row_minutes, d_Row_hours, d_Row_months, d_Row_times, d_Row_days_in, d_Row_shut_by, d_Row_holds, d_words_of, d_field_at, d_read_row, d__law_cell_at, d__law_stir, d__law_digits, d__law_item, d__law_numbers, d__law_days, d__law_weekdays, d__law_spec, d__law_start, d__law_moment, d__law_between, d__law_right, d_law]
def fa : List He.Fa := [
  .str "FIGURES_wholes" "0123456789",
  .glo "is_whole",
  .glo "only_figures",
  .int "ROUND_YEARS" 400,
  .int "ROUND_DAYS" 146097,
  .glo "is_long",
  .glo "days_before",
  .glo "last_of",
  .glo "day_of",
  .glo "date_of",
  .glo "weekday",
  .int "DAY" 1440,
  .int "HOUR" 60,
  .glo "parted",
  .int "LONG" 12,
  .int "SHORT_YEAR" 1,
  .glo "kind_of",
  .glo "month_at",
  .int "MOST_DAYS" 400,
  .glo "is_in",
  .glo "month_open",
  .glo "is_shut_day",
  .glo "day_open",
  .glo "hour_open",
  .glo "minute_open",
  .glo "open_again",
  .int "MANY_KINDS" 91,
  .glo "never",
  .glo "run_end",
  .glo "runs_to",
  .glo "next_from",
  .glo "greatest_in",
  .glo "last_in_month",
  .glo "held_back",
  .glo "last_to",
  .int "MOST_SIGNS_fields" 300,
  .int "MOST_ITEMS_fields" 40,
  .int "MOST_STRIDE" 99,
  .glo "mask_of",
  .glo "numbers_in",
  .glo "number_in_fields",
  .glo "span_in",
  .glo "item_mask",
  .glo "read_field",
  .str "FIGURES_marks" "0123456789",
  .int "MOST_SIGNS_marks" 300,
  .int "MOST_ITEMS_marks" 40,
  .int "MOST_MARKS" 20,
  .int "SUNDAY" 0,
  .int "SATURDAY" 6,
  .glo "weekday_in",
  .glo "Mark",
  .cls "Mark",
  .meth "Mark" "days",
  .glo "Numbers",
  .cls "Numbers",
  .mkr "Numbers",
  .noat "Numbers" "mask",
  .meth "Numbers" "days",
  .glo "Last",
  .cls "Last",
  .mkr "Last",
  .noat "Last" "back",
  .meth "Last" "days",
  .glo "Near",
  .cls "Near",
  .mkr "Near",
  .noat "Near" "day",
  .meth "Near" "days",
  .glo "LastWork",
  .cls "LastWork",
  .meth "LastWork" "days",
  .glo "Weekdays",
  .cls "Weekdays",
  .mkr "Weekdays",
  .noat "Weekdays" "mask",
  .meth "Weekdays" "days",
  .glo "Nth",
  .cls "Nth",
  .mkr "Nth",
  .noat "Nth" "weekday",
  .noat "Nth" "many",
  .meth "Nth" "days",
  .glo "LastOne",
  .cls "LastOne",
  .mkr "LastOne",
  .noat "LastOne" "weekday",
  .meth "LastOne" "days",
  .glo "any_days",
  .glo "number_in_marks",
  .glo "day_mark",
  .glo "weekday_mark",
  .glo "items_of",
  .glo "plain_item",
  .glo "read_items",
  .glo "read_days",
  .glo "read_weekdays",
  .int "MOST_SIGNS_rows" 1600,
  .int "HOURS" 24,
  .int "MINUTES" 60,
  .glo "Row",
  .cls "Row",
  .mkr "Row",
  .noat "Row" "minute_mask",
  .noat "Row" "hour_mask",
  .noat "Row" "day_marks",
  .noat "Row" "month_mask",
  .noat "Row" "weekday_marks",
  .meth "Row" "minutes",
  .meth "Row" "hours",
  .meth "Row" "months",
  .meth "Row" "times",
  .meth "Row" "days_in",
  .meth "Row" "shut_by",
  .meth "Row" "holds",
  .glo "words_of",
  .glo "field_at",
  .glo "read_row",
  .glo "_law_cell_at",
  .glo "_law_stir",
  .glo "_law_digits",
  .glo "_law_item",
  .glo "_law_numbers",
  .glo "_law_days",
  .glo "_law_weekdays",
  .glo "_law_spec",
  .glo "_law_start",
  .glo "_law_moment",
  .glo "_law_between",
  .glo "_law_right",
  .glo "law",
  .glo "LASTS",
  .glo "NoField",
  .keep "NoField",
  .free "len",
  .free "range",
  .free "abs",
  .free "min",
  .free "list",
  .free "sum",
  .free "divmod",
  .free "isinstance",
  .free "str",
  .free "int",
  .free "enumerate",
  .free "bool"]
def lasts : List He.Dv := [.int 31, .int 28, .int 31, .int 30, .int 31, .int 30, .int 31, .int 31, .int 30, .int 31, .int 30, .int 31]
/-- a class without an own __init__ that may be made -/
def barB (K : PySem.W.Frag) (x : Str) : Bool := PySem.W.makesIn K (He.ga K x) && (He.eqO (PySem.W.findIn K (.ref (He.ga K x)) "__init__") (some (some (.builtin "object.__init__"))) && PySem.W.keepIn K (.ref (He.ga K x)))
/-- what the head tells: the facts, the defs, the table of the months' lengths, the class without __init__ -/
def obsK (K : PySem.W.Frag) : Bool × He.AlD := (He.tupB K "LASTS" lasts && barB K "LastWork", He.obsD fa fn K)
def says (K : PySem.W.Frag) : Prop := obsK K = (true, He.valD fn)
structure Tx (K : PySem.W.Frag) (mg : Str → Option Value) : Prop where
  c_FIGURES_wholes : ∃ u, mg "FIGURES_wholes" = some u ∧ RelV (.str "0123456789") u
  g_is_whole : mg "is_whole" = some (.ref (He.ga K "is_whole"))
  g_only_figures : mg "only_figures" = some (.ref (He.ga K "only_figures"))
  c_ROUND_YEARS : ∃ u, mg "ROUND_YEARS" = some u ∧ RelV (.int 400) u
  c_ROUND_DAYS : ∃ u, mg "ROUND_DAYS" = some u ∧ RelV (.int 146097) u
  g_is_long : mg "is_long" = some (.ref (He.ga K "is_long"))
  g_days_before : mg "days_before" = some (.ref (He.ga K "days_before"))
  g_last_of : mg "last_of" = some (.ref (He.ga K "last_of"))
  g_day_of : mg "day_of" = some (.ref (He.ga K "day_of"))
  g_date_of : mg "date_of" = some (.ref (He.ga K "date_of"))
  g_weekday : mg "weekday" = some (.ref (He.ga K "weekday"))
  c_DAY : ∃ u, mg "DAY" = some u ∧ RelV (.int 1440) u
  c_HOUR : ∃ u, mg "HOUR" = some u ∧ RelV (.int 60) u
  g_parted : mg "parted" = some (.ref (He.ga K "parted"))
  c_LONG : ∃ u, mg "LONG" = some u ∧ RelV (.int 12) u
  c_SHORT_YEAR : ∃ u, mg "SHORT_YEAR" = some u ∧ RelV (.int 1) u
  g_kind_of : mg "kind_of" = some (.ref (He.ga K "kind_of"))
  g_month_at : mg "month_at" = some (.ref (He.ga K "month_at"))
  c_MOST_DAYS : ∃ u, mg "MOST_DAYS" = some u ∧ RelV (.int 400) u
  g_is_in : mg "is_in" = some (.ref (He.ga K "is_in"))
  g_month_open : mg "month_open" = some (.ref (He.ga K "month_open"))
  g_is_shut_day : mg "is_shut_day" = some (.ref (He.ga K "is_shut_day"))
  g_day_open : mg "day_open" = some (.ref (He.ga K "day_open"))
  g_hour_open : mg "hour_open" = some (.ref (He.ga K "hour_open"))
  g_minute_open : mg "minute_open" = some (.ref (He.ga K "minute_open"))
  g_open_again : mg "open_again" = some (.ref (He.ga K "open_again"))
  c_MANY_KINDS : ∃ u, mg "MANY_KINDS" = some u ∧ RelV (.int 91) u
  g_never : mg "never" = some (.ref (He.ga K "never"))
  g_run_end : mg "run_end" = some (.ref (He.ga K "run_end"))
  g_runs_to : mg "runs_to" = some (.ref (He.ga K "runs_to"))
  g_next_from : mg "next_from" = some (.ref (He.ga K "next_from"))
  g_greatest_in : mg "greatest_in" = some (.ref (He.ga K "greatest_in"))
  g_last_in_month : mg "last_in_month" = some (.ref (He.ga K "last_in_month"))
  g_held_back : mg "held_back" = some (.ref (He.ga K "held_back"))
  g_last_to : mg "last_to" = some (.ref (He.ga K "last_to"))
  c_MOST_SIGNS_fields : ∃ u, mg "MOST_SIGNS_fields" = some u ∧ RelV (.int 300) u
  c_MOST_ITEMS_fields : ∃ u, mg "MOST_ITEMS_fields" = some u ∧ RelV (.int 40) u
  c_MOST_STRIDE : ∃ u, mg "MOST_STRIDE" = some u ∧ RelV (.int 99) u
  g_mask_of : mg "mask_of" = some (.ref (He.ga K "mask_of"))
  g_numbers_in : mg "numbers_in" = some (.ref (He.ga K "numbers_in"))
  g_number_in_fields : mg "number_in_fields" = some (.ref (He.ga K "number_in_fields"))
  g_span_in : mg "span_in" = some (.ref (He.ga K "span_in"))
  g_item_mask : mg "item_mask" = some (.ref (He.ga K "item_mask"))
  g_read_field : mg "read_field" = some (.ref (He.ga K "read_field"))
  c_FIGURES_marks : ∃ u, mg "FIGURES_marks" = some u ∧ RelV (.str "0123456789") u
  c_MOST_SIGNS_marks : ∃ u, mg "MOST_SIGNS_marks" = some u ∧ RelV (.int 300) u
  c_MOST_ITEMS_marks : ∃ u, mg "MOST_ITEMS_marks" = some u ∧ RelV (.int 40) u
  c_MOST_MARKS : ∃ u, mg "MOST_MARKS" = some u ∧ RelV (.int 20) u
  c_SUNDAY : ∃ u, mg "SUNDAY" = some u ∧ RelV (.int 0) u
  c_SATURDAY : ∃ u, mg "SATURDAY" = some u ∧ RelV (.int 6) u
  g_weekday_in : mg "weekday_in" = some (.ref (He.ga K "weekday_in"))
  g_Mark : mg "Mark" = some (.ref (He.ga K "Mark"))
  cl_Mark : Cls K (He.ga K "Mark")
  m_Mark_days : Meth K (He.ga K "Mark") "days" (He.ma K (He.ga K "Mark") "days")
  g_Numbers : mg "Numbers" = some (.ref (He.ga K "Numbers"))
  cl_Numbers : Cls K (He.ga K "Numbers")
  mk_Numbers : L2.Mk K (He.ga K "Numbers") (He.ma K (He.ga K "Numbers") "__init__")
  n_Numbers_mask : NoAttr K (He.ga K "Numbers") "mask"
  m_Numbers_days : Meth K (He.ga K "Numbers") "days" (He.ma K (He.ga K "Numbers") "days")
  g_Last : mg "Last" = some (.ref (He.ga K "Last"))
  cl_Last : Cls K (He.ga K "Last")
  mk_Last : L2.Mk K (He.ga K "Last") (He.ma K (He.ga K "Last") "__init__")
  n_Last_back : NoAttr K (He.ga K "Last") "back"
  m_Last_days : Meth K (He.ga K "Last") "days" (He.ma K (He.ga K "Last") "days")
  g_Near : mg "Near" = some (.ref (He.ga K "Near"))
  cl_Near : Cls K (He.ga K "Near")
  mk_Near : L2.Mk K (He.ga K "Near") (He.ma K (He.ga K "Near") "__init__")
  n_Near_day : NoAttr K (He.ga K "Near") "day"
  m_Near_days : Meth K (He.ga K "Near") "days" (He.ma K (He.ga K "Near") "days")
  g_LastWork : mg "LastWork" = some (.ref (He.ga K "LastWork"))
  cl_LastWork : Cls K (He.ga K "LastWork")
  m_LastWork_days : Meth K (He.ga K "LastWork") "days" (He.ma K (He.ga K "LastWork") "days")
  g_Weekdays : mg "Weekdays" = some (.ref (He.ga K "Weekdays"))
  cl_Weekdays : Cls K (He.ga K "Weekdays")
  mk_Weekdays : L2.Mk K (He.ga K "Weekdays") (He.ma K (He.ga K "Weekdays") "__init__")
  n_Weekdays_mask : NoAttr K (He.ga K "Weekdays") "mask"
  m_Weekdays_days : Meth K (He.ga K "Weekdays") "days" (He.ma K (He.ga K "Weekdays") "days")
  g_Nth : mg "Nth" = some (.ref (He.ga K "Nth"))
  cl_Nth : Cls K (He.ga K "Nth")
  mk_Nth : L2.Mk K (He.ga K "Nth") (He.ma K (He.ga K "Nth") "__init__")
  n_Nth_weekday : NoAttr K (He.ga K "Nth") "weekday"
  n_Nth_many : NoAttr K (He.ga K "Nth") "many"
  m_Nth_days : Meth K (He.ga K "Nth") "days" (He.ma K (He.ga K "Nth") "days")
  g_LastOne : mg "LastOne" = some (.ref (He.ga K "LastOne"))
  cl_LastOne : Cls K (He.ga K "LastOne")
  mk_LastOne : L2.Mk K (He.ga K "LastOne") (He.ma K (He.ga K "LastOne") "__init__")
  n_LastOne_weekday : NoAttr K (He.ga K "LastOne") "weekday"
  m_LastOne_days : Meth K (He.ga K "LastOne") "days" (He.ma K (He.ga K "LastOne") "days")
  g_any_days : mg "any_days" = some (.ref (He.ga K "any_days"))
  g_number_in_marks : mg "number_in_marks" = some (.ref (He.ga K "number_in_marks"))
  g_day_mark : mg "day_mark" = some (.ref (He.ga K "day_mark"))
  g_weekday_mark : mg "weekday_mark" = some (.ref (He.ga K "weekday_mark"))
  g_items_of : mg "items_of" = some (.ref (He.ga K "items_of"))
  g_plain_item : mg "plain_item" = some (.ref (He.ga K "plain_item"))
  g_read_items : mg "read_items" = some (.ref (He.ga K "read_items"))
  g_read_days : mg "read_days" = some (.ref (He.ga K "read_days"))
  g_read_weekdays : mg "read_weekdays" = some (.ref (He.ga K "read_weekdays"))
  c_MOST_SIGNS_rows : ∃ u, mg "MOST_SIGNS_rows" = some u ∧ RelV (.int 1600) u
  c_HOURS : ∃ u, mg "HOURS" = some u ∧ RelV (.int 24) u
  c_MINUTES : ∃ u, mg "MINUTES" = some u ∧ RelV (.int 60) u
  g_Row : mg "Row" = some (.ref (He.ga K "Row"))
  cl_Row : Cls K (He.ga K "Row")
  mk_Row : L2.Mk K (He.ga K "Row") (He.ma K (He.ga K "Row") "__init__")
  n_Row_minute_mask : NoAttr K (He.ga K "Row") "minute_mask"
  n_Row_hour_mask : NoAttr K (He.ga K "Row") "hour_mask"
  n_Row_day_marks : NoAttr K (He.ga K "Row") "day_marks"
  n_Row_month_mask : NoAttr K (He.ga K "Row") "month_mask"
  n_Row_weekday_marks : NoAttr K (He.ga K "Row") "weekday_marks"
  m_Row_minutes : Meth K (He.ga K "Row") "minutes" (He.ma K (He.ga K "Row") "minutes")
  m_Row_hours : Meth K (He.ga K "Row") "hours" (He.ma K (He.ga K "Row") "hours")
  m_Row_months : Meth K (He.ga K "Row") "months" (He.ma K (He.ga K "Row") "months")
  m_Row_times : Meth K (He.ga K "Row") "times" (He.ma K (He.ga K "Row") "times")
  m_Row_days_in : Meth K (He.ga K "Row") "days_in" (He.ma K (He.ga K "Row") "days_in")
  m_Row_shut_by : Meth K (He.ga K "Row") "shut_by" (He.ma K (He.ga K "Row") "shut_by")
  m_Row_holds : Meth K (He.ga K "Row") "holds" (He.ma K (He.ga K "Row") "holds")
  g_words_of : mg "words_of" = some (.ref (He.ga K "words_of"))
  g_field_at : mg "field_at" = some (.ref (He.ga K "field_at"))
  g_read_row : mg "read_row" = some (.ref (He.ga K "read_row"))
  g__law_cell_at : mg "_law_cell_at" = some (.ref (He.ga K "_law_cell_at"))
  g__law_stir : mg "_law_stir" = some (.ref (He.ga K "_law_stir"))
  g__law_digits : mg "_law_digits" = some (.ref (He.ga K "_law_digits"))
  g__law_item : mg "_law_item" = some (.ref (He.ga K "_law_item"))
  g__law_numbers : mg "_law_numbers" = some (.ref (He.ga K "_law_numbers"))
  g__law_days : mg "_law_days" = some (.ref (He.ga K "_law_days"))
  g__law_weekdays : mg "_law_weekdays" = some (.ref (He.ga K "_law_weekdays"))
  g__law_spec : mg "_law_spec" = some (.ref (He.ga K "_law_spec"))
  g__law_start : mg "_law_start" = some (.ref (He.ga K "_law_start"))
  g__law_moment : mg "_law_moment" = some (.ref (He.ga K "_law_moment"))
  g__law_between : mg "_law_between" = some (.ref (He.ga K "_law_between"))
  g__law_right : mg "_law_right" = some (.ref (He.ga K "_law_right"))
  g_law : mg "law" = some (.ref (He.ga K "law"))
  g_LASTS : mg "LASTS" = some (.ref (He.ga K "LASTS"))
  g_NoField : mg "NoField" = some (.ref (He.ga K "NoField"))
  f_len : mg "len" = none
  f_range : mg "range" = none
  f_abs : mg "abs" = none
  f_min : mg "min" = none
  f_list : mg "list" = none
  f_sum : mg "sum" = none
  f_divmod : mg "divmod" = none
  f_isinstance : mg "isinstance" = none
  f_str : mg "str" = none
  f_int : mg "int" = none
  f_enumerate : mg "enumerate" = none
  f_bool : mg "bool" = none
  D_is_whole : ∃ fd, FunD K "is_whole" "is_whole" (defArgs s_is_whole) (defBody s_is_whole) (defScope s_is_whole) [] [] (He.ga K "is_whole") fd
  D_only_figures : ∃ fd, FunD K "only_figures" "only_figures" (defArgs s_only_figures) (defBody s_only_figures) (defScope s_only_figures) [] [] (He.ga K "only_figures") fd
  D_is_long : ∃ fd, FunD K "is_long" "is_long" (defArgs s_is_long) (defBody s_is_long) (defScope s_is_long) [] [] (He.ga K "is_long") fd
  D_days_before : ∃ fd, FunD K "days_before" "days_before" (defArgs s_days_before) (defBody s_days_before) (defScope s_days_before) [] [] (He.ga K "days_before") fd
  D_last_of : ∃ fd, FunD K "last_of" "last_of" (defArgs s_last_of) (defBody s_last_of) (defScope s_last_of) [] [] (He.ga K "last_of") fd
  D_day_of : ∃ fd, FunD K "day_of" "day_of" (defArgs s_day_of) (defBody s_day_of) (defScope s_day_of) [] [] (He.ga K "day_of") fd
  D_date_of : ∃ fd, FunD K "date_of" "date_of" (defArgs s_date_of) (defBody s_date_of) (defScope s_date_of) [] [] (He.ga K "date_of") fd
  D_weekday : ∃ fd, FunD K "weekday" "weekday" (defArgs s_weekday) (defBody s_weekday) (defScope s_weekday) [] [] (He.ga K "weekday") fd
  D_parted : ∃ fd, FunD K "parted" "parted" (defArgs s_parted) (defBody s_parted) (defScope s_parted) [] [] (He.ga K "parted") fd
  D_kind_of : ∃ fd, FunD K "kind_of" "kind_of" (defArgs s_kind_of) (defBody s_kind_of) (defScope s_kind_of) [] [] (He.ga K "kind_of") fd
  D_month_at : ∃ fd, FunD K "month_at" "month_at" (defArgs s_month_at) (defBody s_month_at) (defScope s_month_at) [] [] (He.ga K "month_at") fd
  D_is_in : ∃ fd, FunD K "is_in" "is_in" (defArgs s_is_in) (defBody s_is_in) (defScope s_is_in) [] [] (He.ga K "is_in") fd
  D_month_open : ∃ fd, FunD K "month_open" "month_open" (defArgs s_month_open) (defBody s_month_open) (defScope s_month_open) [] [] (He.ga K "month_open") fd
  D_is_shut_day : ∃ fd, FunD K "is_shut_day" "is_shut_day" (defArgs s_is_shut_day) (defBody s_is_shut_day) (defScope s_is_shut_day) [] [] (He.ga K "is_shut_day") fd
  D_day_open : ∃ fd, FunD K "day_open" "day_open" (defArgs s_day_open) (defBody s_day_open) (defScope s_day_open) [] [] (He.ga K "day_open") fd
  D_hour_open : ∃ fd, FunD K "hour_open" "hour_open" (defArgs s_hour_open) (defBody s_hour_open) (defScope s_hour_open) [] [] (He.ga K "hour_open") fd
  D_minute_open : ∃ fd, FunD K "minute_open" "minute_open" (defArgs s_minute_open) (defBody s_minute_open) (defScope s_minute_open) [] [] (He.ga K "minute_open") fd
  D_open_again : ∃ fd, FunD K "open_again" "open_again" (defArgs s_open_again) (defBody s_open_again) (defScope s_open_again) [] [] (He.ga K "open_again") fd
  D_never : ∃ fd, FunD K "never" "never" (defArgs s_never) (defBody s_never) (defScope s_never) [] [] (He.ga K "never") fd
  D_run_end : ∃ fd, FunD K "run_end" "run_end" (defArgs s_run_end) (defBody s_run_end) (defScope s_run_end) [] [] (He.ga K "run_end") fd
  D_runs_to : ∃ fd, FunD K "runs_to" "runs_to" (defArgs s_runs_to) (defBody s_runs_to) (defScope s_runs_to) [] [] (He.ga K "runs_to") fd
  D_next_from : ∃ fd, FunD K "next_from" "next_from" (defArgs s_next_from) (defBody s_next_from) (defScope s_next_from) [] [] (He.ga K "next_from") fd
  D_greatest_in : ∃ fd, FunD K "greatest_in" "greatest_in" (defArgs s_greatest_in) (defBody s_greatest_in) (defScope s_greatest_in) [] [] (He.ga K "greatest_in") fd
  D_last_in_month : ∃ fd, FunD K "last_in_month" "last_in_month" (defArgs s_last_in_month) (defBody s_last_in_month) (defScope s_last_in_month) [] [] (He.ga K "last_in_month") fd
  D_held_back : ∃ fd, FunD K "held_back" "held_back" (defArgs s_held_back) (defBody s_held_back) (defScope s_held_back) [] [] (He.ga K "held_back") fd
  D_last_to : ∃ fd, FunD K "last_to" "last_to" (defArgs s_last_to) (defBody s_last_to) (defScope s_last_to) [] [] (He.ga K "last_to") fd
  D_mask_of : ∃ fd, FunD K "mask_of" "mask_of" (defArgs s_mask_of) (defBody s_mask_of) (defScope s_mask_of) [] [] (He.ga K "mask_of") fd
  D_numbers_in : ∃ fd, FunD K "numbers_in" "numbers_in" (defArgs s_numbers_in) (defBody s_numbers_in) (defScope s_numbers_in) [] [] (He.ga K "numbers_in") fd
  D_number_in_fields : ∃ fd, FunD K "number_in" "number_in" (defArgs s_number_in_fields) (defBody s_number_in_fields) (defScope s_number_in_fields) [] [] (He.ga K "number_in_fields") fd
  D_span_in : ∃ fd, FunD K "span_in" "span_in" (defArgs s_span_in) (defBody s_span_in) (defScope s_span_in) [] [] (He.ga K "span_in") fd
  D_item_mask : ∃ fd, FunD K "item_mask" "item_mask" (defArgs s_item_mask) (defBody s_item_mask) (defScope s_item_mask) [] [] (He.ga K "item_mask") fd
  D_read_field : ∃ fd, FunD K "read_field" "read_field" (defArgs s_read_field) (defBody s_read_field) (defScope s_read_field) [] [] (He.ga K "read_field") fd
  D_weekday_in : ∃ fd, FunD K "weekday_in" "weekday_in" (defArgs s_weekday_in) (defBody s_weekday_in) (defScope s_weekday_in) [] [] (He.ga K "weekday_in") fd
  D_Mark_days : ∃ fd, FunD K "days" "Mark.days" (defArgs s_Mark_days) (defBody s_Mark_days) (defScope s_Mark_days) [] [] (He.ma K (He.ga K "Mark") "days") fd
  D_Numbers_init : ∃ fd, FunD K "__init__" "Numbers.__init__" (defArgs s_Numbers_init) (defBody s_Numbers_init) (defScope s_Numbers_init) [] [] (He.ma K (He.ga K "Numbers") "__init__") fd
  D_Numbers_days : ∃ fd, FunD K "days" "Numbers.days" (defArgs s_Numbers_days) (defBody s_Numbers_days) (defScope s_Numbers_days) [] [] (He.ma K (He.ga K "Numbers") "days") fd
  D_Last_init : ∃ fd, FunD K "__init__" "Last.__init__" (defArgs s_Last_init) (defBody s_Last_init) (defScope s_Last_init) [.int 0] [] (He.ma K (He.ga K "Last") "__init__") fd
  D_Last_days : ∃ fd, FunD K "days" "Last.days" (defArgs s_Last_days) (defBody s_Last_days) (defScope s_Last_days) [] [] (He.ma K (He.ga K "Last") "days") fd
  D_Near_init : ∃ fd, FunD K "__init__" "Near.__init__" (defArgs s_Near_init) (defBody s_Near_init) (defScope s_Near_init) [] [] (He.ma K (He.ga K "Near") "__init__") fd
  D_Near_days : ∃ fd, FunD K "days" "Near.days" (defArgs s_Near_days) (defBody s_Near_days) (defScope s_Near_days) [] [] (He.ma K (He.ga K "Near") "days") fd
  D_LastWork_days : ∃ fd, FunD K "days" "LastWork.days" (defArgs s_LastWork_days) (defBody s_LastWork_days) (defScope s_LastWork_days) [] [] (He.ma K (He.ga K "LastWork") "days") fd
  D_Weekdays_init : ∃ fd, FunD K "__init__" "Weekdays.__init__" (defArgs s_Weekdays_init) (defBody s_Weekdays_init) (defScope s_Weekdays_init) [] [] (He.ma K (He.ga K "Weekdays") "__init__") fd
  D_Weekdays_days : ∃ fd, FunD K "days" "Weekdays.days" (defArgs s_Weekdays_days) (defBody s_Weekdays_days) (defScope s_Weekdays_days) [] [] (He.ma K (He.ga K "Weekdays") "days") fd
  D_Nth_init : ∃ fd, FunD K "__init__" "Nth.__init__" (defArgs s_Nth_init) (defBody s_Nth_init) (defScope s_Nth_init) [] [] (He.ma K (He.ga K "Nth") "__init__") fd
  D_Nth_days : ∃ fd, FunD K "days" "Nth.days" (defArgs s_Nth_days) (defBody s_Nth_days) (defScope s_Nth_days) [] [] (He.ma K (He.ga K "Nth") "days") fd
  D_LastOne_init : ∃ fd, FunD K "__init__" "LastOne.__init__" (defArgs s_LastOne_init) (defBody s_LastOne_init) (defScope s_LastOne_init) [] [] (He.ma K (He.ga K "LastOne") "__init__") fd
  D_LastOne_days : ∃ fd, FunD K "days" "LastOne.days" (defArgs s_LastOne_days) (defBody s_LastOne_days) (defScope s_LastOne_days) [] [] (He.ma K (He.ga K "LastOne") "days") fd
  D_any_days : ∃ fd, FunD K "any_days" "any_days" (defArgs s_any_days) (defBody s_any_days) (defScope s_any_days) [] [] (He.ga K "any_days") fd
  D_number_in_marks : ∃ fd, FunD K "number_in" "number_in" (defArgs s_number_in_marks) (defBody s_number_in_marks) (defScope s_number_in_marks) [] [] (He.ga K "number_in_marks") fd
  D_day_mark : ∃ fd, FunD K "day_mark" "day_mark" (defArgs s_day_mark) (defBody s_day_mark) (defScope s_day_mark) [] [] (He.ga K "day_mark") fd
  D_weekday_mark : ∃ fd, FunD K "weekday_mark" "weekday_mark" (defArgs s_weekday_mark) (defBody s_weekday_mark) (defScope s_weekday_mark) [] [] (He.ga K "weekday_mark") fd
  D_items_of : ∃ fd, FunD K "items_of" "items_of" (defArgs s_items_of) (defBody s_items_of) (defScope s_items_of) [] [] (He.ga K "items_of") fd
  D_plain_item : ∃ fd, FunD K "plain_item" "plain_item" (defArgs s_plain_item) (defBody s_plain_item) (defScope s_plain_item) [] [] (He.ga K "plain_item") fd
  D_read_items : ∃ fd, FunD K "read_items" "read_items" (defArgs s_read_items) (defBody s_read_items) (defScope s_read_items) [] [] (He.ga K "read_items") fd
  D_read_days : ∃ fd, FunD K "read_days" "read_days" (defArgs s_read_days) (defBody s_read_days) (defScope s_read_days) [] [] (He.ga K "read_days") fd
  D_read_weekdays : ∃ fd, FunD K "read_weekdays" "read_weekdays" (defArgs s_read_weekdays) (defBody s_read_weekdays) (defScope s_read_weekdays) [] [] (He.ga K "read_weekdays") fd
  D_Row_init : ∃ fd, FunD K "__init__" "Row.__init__" (defArgs s_Row_init) (defBody s_Row_init) (defScope s_Row_init) [] [] (He.ma K (He.ga K "Row") "__init__") fd
  D_Row_minutes : ∃ fd, FunD K "minutes" "Row.minutes" (defArgs s_Row_minutes) (defBody s_Row_minutes) (defScope s_Row_minutes) [] [] (He.ma K (He.ga K "Row") "minutes") fd
  D_Row_hours : ∃ fd, FunD K "hours" "Row.hours" (defArgs s_Row_hours) (defBody s_Row_hours) (defScope s_Row_hours) [] [] (He.ma K (He.ga K "Row") "hours") fd
  D_Row_months : ∃ fd, FunD K "months" "Row.months" (defArgs s_Row_months) (defBody s_Row_months) (defScope s_Row_months) [] [] (He.ma K (He.ga K "Row") "months") fd
  D_Row_times : ∃ fd, FunD K "times" "Row.times" (defArgs s_Row_times) (defBody s_Row_times) (defScope s_Row_times) [] [] (He.ma K (He.ga K "Row") "times") fd
  D_Row_days_in : ∃ fd, FunD K "days_in" "Row.days_in" (defArgs s_Row_days_in) (defBody s_Row_days_in) (defScope s_Row_days_in) [] [] (He.ma K (He.ga K "Row") "days_in") fd
  D_Row_shut_by : ∃ fd, FunD K "shut_by" "Row.shut_by" (defArgs s_Row_shut_by) (defBody s_Row_shut_by) (defScope s_Row_shut_by) [] [] (He.ma K (He.ga K "Row") "shut_by") fd
  D_Row_holds : ∃ fd, FunD K "holds" "Row.holds" (defArgs s_Row_holds) (defBody s_Row_holds) (defScope s_Row_holds) [] [] (He.ma K (He.ga K "Row") "holds") fd
  D_words_of : ∃ fd, FunD K "words_of" "words_of" (defArgs s_words_of) (defBody s_words_of) (defScope s_words_of) [] [] (He.ga K "words_of") fd
  D_field_at : ∃ fd, FunD K "field_at" "field_at" (defArgs s_field_at) (defBody s_field_at) (defScope s_field_at) [] [] (He.ga K "field_at") fd
  D_read_row : ∃ fd, FunD K "read_row" "read_row" (defArgs s_read_row) (defBody s_read_row) (defScope s_read_row) [] [] (He.ga K "read_row") fd
  D__law_cell_at : ∃ fd, FunD K "_law_cell_at" "_law_cell_at" (defArgs s__law_cell_at) (defBody s__law_cell_at) (defScope s__law_cell_at) [] [] (He.ga K "_law_cell_at") fd
  D__law_stir : ∃ fd, FunD K "_law_stir" "_law_stir" (defArgs s__law_stir) (defBody s__law_stir) (defScope s__law_stir) [] [] (He.ga K "_law_stir") fd
  D__law_digits : ∃ fd, FunD K "_law_digits" "_law_digits" (defArgs s__law_digits) (defBody s__law_digits) (defScope s__law_digits) [] [] (He.ga K "_law_digits") fd
  D__law_item : ∃ fd, FunD K "_law_item" "_law_item" (defArgs s__law_item) (defBody s__law_item) (defScope s__law_item) [] [] (He.ga K "_law_item") fd
  D__law_numbers : ∃ fd, FunD K "_law_numbers" "_law_numbers" (defArgs s__law_numbers) (defBody s__law_numbers) (defScope s__law_numbers) [] [] (He.ga K "_law_numbers") fd
  D__law_days : ∃ fd, FunD K "_law_days" "_law_days" (defArgs s__law_days) (defBody s__law_days) (defScope s__law_days) [] [] (He.ga K "_law_days") fd
  D__law_weekdays : ∃ fd, FunD K "_law_weekdays" "_law_weekdays" (defArgs s__law_weekdays) (defBody s__law_weekdays) (defScope s__law_weekdays) [] [] (He.ga K "_law_weekdays") fd
  D__law_spec : ∃ fd, FunD K "_law_spec" "_law_spec" (defArgs s__law_spec) (defBody s__law_spec) (defScope s__law_spec) [] [] (He.ga K "_law_spec") fd
  D__law_start : ∃ fd, FunD K "_law_start" "_law_start" (defArgs s__law_start) (defBody s__law_start) (defScope s__law_start) [] [] (He.ga K "_law_start") fd
  D__law_moment : ∃ fd, FunD K "_law_moment" "_law_moment" (defArgs s__law_moment) (defBody s__law_moment) (defScope s__law_moment) [] [] (He.ga K "_law_moment") fd
  D__law_between : ∃ fd, FunD K "_law_between" "_law_between" (defArgs s__law_between) (defBody s__law_between) (defScope s__law_between) [] [] (He.ga K "_law_between") fd
  D__law_right : ∃ fd, FunD K "_law_right" "_law_right" (defArgs s__law_right) (defBody s__law_right) (defScope s__law_right) [] [] (He.ga K "_law_right") fd
  D_law : ∃ fd, FunD K "law" "law" (defArgs s_law) (defBody s_law) (defScope s_law) [] [] (He.ga K "law") fd
  t_LASTS : ∀ H, SqT K H (He.ga K "LASTS") (lasts.map (He.Dv.v K))
  k_LastWork : barB K "LastWork" = true
theorem c_int {mg : Str → Option Value} {x : Str} {i : Int} (h : ∃ t, mg x = some (.int i t)) : ∃ u, mg x = some u ∧ RelV (.int i) u := by
  obtain ⟨t, e⟩ := h
  exact ⟨_, e, t, rfl⟩
theorem c_str {mg : Str → Option Value} {x z : Str} (h : ∃ t, mg x = some (.str z t)) : ∃ u, mg x = some u ∧ RelV (.str z) u := by
  obtain ⟨t, e⟩ := h
  exact ⟨_, e, t, rfl⟩
theorem tx_of {K : PySem.W.Frag} {h : Heap} {mg : Str → Option Value} (X : K.In h) (G : h.Ns mainGlobals mg) (q : says K) : Tx K mg := by
  have e1 : (He.tupB K "LASTS" lasts && barB K "LastWork") = true := congrArg (fun z : Bool × He.AlD => z.1) q
  have c : He.SaysD fa fn K := congrArg (fun z : Bool × He.AlD => z.2) q
  exact {
    c_FIGURES_wholes := c_str (He.str_ok X G (c.fact 0 rfl)),
    g_is_whole := He.glo_ok X G (c.fact 1 rfl),
    g_only_figures := He.glo_ok X G (c.fact 2 rfl),
    c_ROUND_YEARS := c_int (He.int_ok X G (c.fact 3 rfl)),
    c_ROUND_DAYS := c_int (He.int_ok X G (c.fact 4 rfl)),
    g_is_long := He.glo_ok X G (c.fact 5 rfl),
    g_days_before := He.glo_ok X G (c.fact 6 rfl),
    g_last_of := He.glo_ok X G (c.fact 7 rfl),
    g_day_of := He.glo_ok X G (c.fact 8 rfl),
    g_date_of := He.glo_ok X G (c.fact 9 rfl),
    g_weekday := He.glo_ok X G (c.fact 10 rfl),
    c_DAY := c_int (He.int_ok X G (c.fact 11 rfl)),
    c_HOUR := c_int (He.int_ok X G (c.fact 12 rfl)),
    g_parted := He.glo_ok X G (c.fact 13 rfl),
    c_LONG := c_int (He.int_ok X G (c.fact 14 rfl)),
    c_SHORT_YEAR := c_int (He.int_ok X G (c.fact 15 rfl)),
    g_kind_of := He.glo_ok X G (c.fact 16 rfl),
    g_month_at := He.glo_ok X G (c.fact 17 rfl),
    c_MOST_DAYS := c_int (He.int_ok X G (c.fact 18 rfl)),
    g_is_in := He.glo_ok X G (c.fact 19 rfl),
    g_month_open := He.glo_ok X G (c.fact 20 rfl),
    g_is_shut_day := He.glo_ok X G (c.fact 21 rfl),
    g_day_open := He.glo_ok X G (c.fact 22 rfl),
    g_hour_open := He.glo_ok X G (c.fact 23 rfl),
    g_minute_open := He.glo_ok X G (c.fact 24 rfl),
    g_open_again := He.glo_ok X G (c.fact 25 rfl),
    c_MANY_KINDS := c_int (He.int_ok X G (c.fact 26 rfl)),
    g_never := He.glo_ok X G (c.fact 27 rfl),
    g_run_end := He.glo_ok X G (c.fact 28 rfl),
    g_runs_to := He.glo_ok X G (c.fact 29 rfl),
    g_next_from := He.glo_ok X G (c.fact 30 rfl),
    g_greatest_in := He.glo_ok X G (c.fact 31 rfl),
    g_last_in_month := He.glo_ok X G (c.fact 32 rfl),
    g_held_back := He.glo_ok X G (c.fact 33 rfl),
    g_last_to := He.glo_ok X G (c.fact 34 rfl),
    c_MOST_SIGNS_fields := c_int (He.int_ok X G (c.fact 35 rfl)),
    c_MOST_ITEMS_fields := c_int (He.int_ok X G (c.fact 36 rfl)),
    c_MOST_STRIDE := c_int (He.int_ok X G (c.fact 37 rfl)),
    g_mask_of := He.glo_ok X G (c.fact 38 rfl),
    g_numbers_in := He.glo_ok X G (c.fact 39 rfl),
    g_number_in_fields := He.glo_ok X G (c.fact 40 rfl),
    g_span_in := He.glo_ok X G (c.fact 41 rfl),
    g_item_mask := He.glo_ok X G (c.fact 42 rfl),
    g_read_field := He.glo_ok X G (c.fact 43 rfl),
    c_FIGURES_marks := c_str (He.str_ok X G (c.fact 44 rfl)),
    c_MOST_SIGNS_marks := c_int (He.int_ok X G (c.fact 45 rfl)),
    c_MOST_ITEMS_marks := c_int (He.int_ok X G (c.fact 46 rfl)),
    c_MOST_MARKS := c_int (He.int_ok X G (c.fact 47 rfl)),
    c_SUNDAY := c_int (He.int_ok X G (c.fact 48 rfl)),
    c_SATURDAY := c_int (He.int_ok X G (c.fact 49 rfl)),
    g_weekday_in := He.glo_ok X G (c.fact 50 rfl),
    g_Mark := He.glo_ok X G (c.fact 51 rfl),
    cl_Mark := He.cls_ok (c.fact 52 rfl),
    m_Mark_days := He.meth_ok (c.fact 53 rfl),
    g_Numbers := He.glo_ok X G (c.fact 54 rfl),
    cl_Numbers := He.cls_ok (c.fact 55 rfl),
    mk_Numbers := He.mkr_ok (c.fact 56 rfl),
    n_Numbers_mask := He.noat_ok (c.fact 57 rfl),
    m_Numbers_days := He.meth_ok (c.fact 58 rfl),
    g_Last := He.glo_ok X G (c.fact 59 rfl),
    cl_Last := He.cls_ok (c.fact 60 rfl),
    mk_Last := He.mkr_ok (c.fact 61 rfl),
    n_Last_back := He.noat_ok (c.fact 62 rfl),
    m_Last_days := He.meth_ok (c.fact 63 rfl),
    g_Near := He.glo_ok X G (c.fact 64 rfl),
    cl_Near := He.cls_ok (c.fact 65 rfl),
    mk_Near := He.mkr_ok (c.fact 66 rfl),
    n_Near_day := He.noat_ok (c.fact 67 rfl),
    m_Near_days := He.meth_ok (c.fact 68 rfl),
    g_LastWork := He.glo_ok X G (c.fact 69 rfl),
    cl_LastWork := He.cls_ok (c.fact 70 rfl),
    m_LastWork_days := He.meth_ok (c.fact 71 rfl),
    g_Weekdays := He.glo_ok X G (c.fact 72 rfl),
    cl_Weekdays := He.cls_ok (c.fact 73 rfl),
    mk_Weekdays := He.mkr_ok (c.fact 74 rfl),
    n_Weekdays_mask := He.noat_ok (c.fact 75 rfl),
    m_Weekdays_days := He.meth_ok (c.fact 76 rfl),
    g_Nth := He.glo_ok X G (c.fact 77 rfl),
    cl_Nth := He.cls_ok (c.fact 78 rfl),
    mk_Nth := He.mkr_ok (c.fact 79 rfl),
    n_Nth_weekday := He.noat_ok (c.fact 80 rfl),
    n_Nth_many := He.noat_ok (c.fact 81 rfl),
    m_Nth_days := He.meth_ok (c.fact 82 rfl),
    g_LastOne := He.glo_ok X G (c.fact 83 rfl),
    cl_LastOne := He.cls_ok (c.fact 84 rfl),
    mk_LastOne := He.mkr_ok (c.fact 85 rfl),
    n_LastOne_weekday := He.noat_ok (c.fact 86 rfl),
    m_LastOne_days := He.meth_ok (c.fact 87 rfl),
    g_any_days := He.glo_ok X G (c.fact 88 rfl),
    g_number_in_marks := He.glo_ok X G (c.fact 89 rfl),
    g_day_mark := He.glo_ok X G (c.fact 90 rfl),
    g_weekday_mark := He.glo_ok X G (c.fact 91 rfl),
    g_items_of := He.glo_ok X G (c.fact 92 rfl),
    g_plain_item := He.glo_ok X G (c.fact 93 rfl),
    g_read_items := He.glo_ok X G (c.fact 94 rfl),
    g_read_days := He.glo_ok X G (c.fact 95 rfl),
    g_read_weekdays := He.glo_ok X G (c.fact 96 rfl),
    c_MOST_SIGNS_rows := c_int (He.int_ok X G (c.fact 97 rfl)),
    c_HOURS := c_int (He.int_ok X G (c.fact 98 rfl)),
    c_MINUTES := c_int (He.int_ok X G (c.fact 99 rfl)),
    g_Row := He.glo_ok X G (c.fact 100 rfl),
    cl_Row := He.cls_ok (c.fact 101 rfl),
    mk_Row := He.mkr_ok (c.fact 102 rfl),
    n_Row_minute_mask := He.noat_ok (c.fact 103 rfl),
    n_Row_hour_mask := He.noat_ok (c.fact 104 rfl),
    n_Row_day_marks := He.noat_ok (c.fact 105 rfl),
    n_Row_month_mask := He.noat_ok (c.fact 106 rfl),
    n_Row_weekday_marks := He.noat_ok (c.fact 107 rfl),
    m_Row_minutes := He.meth_ok (c.fact 108 rfl),
    m_Row_hours := He.meth_ok (c.fact 109 rfl),
    m_Row_months := He.meth_ok (c.fact 110 rfl),
    m_Row_times := He.meth_ok (c.fact 111 rfl),
    m_Row_days_in := He.meth_ok (c.fact 112 rfl),
    m_Row_shut_by := He.meth_ok (c.fact 113 rfl),
    m_Row_holds := He.meth_ok (c.fact 114 rfl),
    g_words_of := He.glo_ok X G (c.fact 115 rfl),
    g_field_at := He.glo_ok X G (c.fact 116 rfl),
    g_read_row := He.glo_ok X G (c.fact 117 rfl),
    g__law_cell_at := He.glo_ok X G (c.fact 118 rfl),
    g__law_stir := He.glo_ok X G (c.fact 119 rfl),
    g__law_digits := He.glo_ok X G (c.fact 120 rfl),
    g__law_item := He.glo_ok X G (c.fact 121 rfl),
    g__law_numbers := He.glo_ok X G (c.fact 122 rfl),
    g__law_days := He.glo_ok X G (c.fact 123 rfl),
    g__law_weekdays := He.glo_ok X G (c.fact 124 rfl),
    g__law_spec := He.glo_ok X G (c.fact 125 rfl),
    g__law_start := He.glo_ok X G (c.fact 126 rfl),
    g__law_moment := He.glo_ok X G (c.fact 127 rfl),
    g__law_between := He.glo_ok X G (c.fact 128 rfl),
    g__law_right := He.glo_ok X G (c.fact 129 rfl),
    g_law := He.glo_ok X G (c.fact 130 rfl),
    g_LASTS := He.glo_ok X G (c.fact 131 rfl),
    g_NoField := He.glo_ok X G (c.fact 132 rfl),
    f_len := He.free_ok X G (c.fact 134 rfl),
    f_range := He.free_ok X G (c.fact 135 rfl),
    f_abs := He.free_ok X G (c.fact 136 rfl),
    f_min := He.free_ok X G (c.fact 137 rfl),
    f_list := He.free_ok X G (c.fact 138 rfl),
    f_sum := He.free_ok X G (c.fact 139 rfl),
    f_divmod := He.free_ok X G (c.fact 140 rfl),
    f_isinstance := He.free_ok X G (c.fact 141 rfl),
    f_str := He.free_ok X G (c.fact 142 rfl),
    f_int := He.free_ok X G (c.fact 143 rfl),
    f_enumerate := He.free_ok X G (c.fact 144 rfl),
    f_bool := He.free_ok X G (c.fact 145 rfl),
    D_is_whole := c.def_ 0 rfl,
    D_only_figures := c.def_ 1 rfl,
    D_is_long := c.def_ 2 rfl,
    D_days_before := c.def_ 3 rfl,
    D_last_of := c.def_ 4 rfl,
    D_day_of := c.def_ 5 rfl,
    D_date_of := c.def_ 6 rfl,
    D_weekday := c.def_ 7 rfl,
    D_parted := c.def_ 8 rfl,
    D_kind_of := c.def_ 9 rfl,
    D_month_at := c.def_ 10 rfl,
    D_is_in := c.def_ 11 rfl,
    D_month_open := c.def_ 12 rfl,
    D_is_shut_day := c.def_ 13 rfl,
    D_day_open := c.def_ 14 rfl,
    D_hour_open := c.def_ 15 rfl,
    D_minute_open := c.def_ 16 rfl,
    D_open_again := c.def_ 17 rfl,
    D_never := c.def_ 18 rfl,
    D_run_end := c.def_ 19 rfl,
    D_runs_to := c.def_ 20 rfl,
    D_next_from := c.def_ 21 rfl,
    D_greatest_in := c.def_ 22 rfl,
    D_last_in_month := c.def_ 23 rfl,
    D_held_back := c.def_ 24 rfl,
    D_last_to := c.def_ 25 rfl,
    D_mask_of := c.def_ 26 rfl,
    D_numbers_in := c.def_ 27 rfl,
    D_number_in_fields := c.def_ 28 rfl,
    D_span_in := c.def_ 29 rfl,
    D_item_mask := c.def_ 30 rfl,
    D_read_field := c.def_ 31 rfl,
    D_weekday_in := c.def_ 32 rfl,
    D_Mark_days := c.def_ 33 rfl,
    D_Numbers_init := c.def_ 34 rfl,
    D_Numbers_days := c.def_ 35 rfl,
    D_Last_init := c.def_ 36 rfl,
    D_Last_days := c.def_ 37 rfl,
    D_Near_init := c.def_ 38 rfl,
    D_Near_days := c.def_ 39 rfl,
    D_LastWork_days := c.def_ 40 rfl,
    D_Weekdays_init := c.def_ 41 rfl,
    D_Weekdays_days := c.def_ 42 rfl,
    D_Nth_init := c.def_ 43 rfl,
    D_Nth_days := c.def_ 44 rfl,
    D_LastOne_init := c.def_ 45 rfl,
    D_LastOne_days := c.def_ 46 rfl,
    D_any_days := c.def_ 47 rfl,
    D_number_in_marks := c.def_ 48 rfl,
    D_day_mark := c.def_ 49 rfl,
    D_weekday_mark := c.def_ 50 rfl,
    D_items_of := c.def_ 51 rfl,
    D_plain_item := c.def_ 52 rfl,
    D_read_items := c.def_ 53 rfl,
    D_read_days := c.def_ 54 rfl,
    D_read_weekdays := c.def_ 55 rfl,
    D_Row_init := c.def_ 56 rfl,
    D_Row_minutes := c.def_ 57 rfl,
    D_Row_hours := c.def_ 58 rfl,
    D_Row_months := c.def_ 59 rfl,
    D_Row_times := c.def_ 60 rfl,
    D_Row_days_in := c.def_ 61 rfl,
    D_Row_shut_by := c.def_ 62 rfl,
    D_Row_holds := c.def_ 63 rfl,
    D_words_of := c.def_ 64 rfl,
    D_field_at := c.def_ 65 rfl,
    D_read_row := c.def_ 66 rfl,
    D__law_cell_at := c.def_ 67 rfl,
    D__law_stir := c.def_ 68 rfl,
    D__law_digits := c.def_ 69 rfl,
    D__law_item := c.def_ 70 rfl,
    D__law_numbers := c.def_ 71 rfl,
    D__law_days := c.def_ 72 rfl,
    D__law_weekdays := c.def_ 73 rfl,
    D__law_spec := c.def_ 74 rfl,
    D__law_start := c.def_ 75 rfl,
    D__law_moment := c.def_ 76 rfl,
    D__law_between := c.def_ 77 rfl,
    D__law_right := c.def_ 78 rfl,
    D_law := c.def_ 79 rfl,
    t_LASTS := He.tupB_ok (He.ba e1).1,
    k_LastWork := (He.ba e1).2 }
end K58
set_option Elab.async false
set_option maxRecDepth 100000
set_option maxHeartbeats 4000000
set_option linter.all false
namespace K58
open PySem PySem.Spec PyProof.Rows L2
/-! ### what stands in the heap -/
def fS : F → Str
  | .mo => "month"
  | .dy => "day"
  | .ho => "hour"
  | .mi => "minute"
def fV : Option F → V
  | none => .non
  | some f => .str (fS f)
section
variable (K : PySem.W.Frag)
def mkC : Mk → Addr
  | .num _ => He.ga K "Numbers"
  | .last _ => He.ga K "Last"
  | .near _ => He.ga K "Near"
  | .work => He.ga K "LastWork"
  | .wk _ => He.ga K "Weekdays"
  | .nth _ _ => He.ga K "Nth"
  | .lastOne _ => He.ga K "LastOne"
def mkF : Mk → List (Str × V)
  | .num m => [("mask", .int m)]
  | .last b => [("back", .int b)]
  | .near d => [("day", .int d)]
  | .work => []
  | .wk m => [("mask", .int m)]
  | .nth w n => [("weekday", .int w), ("many", .int n)]
  | .lastOne w => [("weekday", .int w)]
def MarkAt (H : Hp) (a : Addr) (m : Mk) : Prop := ∃ dx, H a = some (.ins (mkC K m) dx (mkF m))
/-- marks, one at each address of a list -/
def MarksIn (H : Hp) : List Addr → List Mk → Prop
  | [], [] => True
  | a :: as, m :: ms => MarkAt K H a m ∧ MarksIn H as ms
  | _, _ => False
def MarksAt (H : Hp) (v : V) : Option (List Mk) → Prop
  | none => v = .non
  | some ms => ∃ l as, v = .ref l ∧ H l = some (.lst (as.map V.ref)) ∧ MarksIn K H as ms ∧ ms.length ≤ 100
def rowF (d : RowD) (v w : V) : List (Str × V) := [("minute_mask", .int d.mi), ("hour_mask", .int d.ho), ("day_marks", v), ("month_mask", .int d.mo), ("weekday_marks", w)]
structure RowAt (H : Hp) (p : Addr) (d : RowD) : Prop where
  ob : ∃ dx v w, H p = some (.ins (He.ga K "Row") dx (rowF d v w)) ∧ MarksAt K H v d.dm ∧ MarksAt K H w d.wm
  ok : d.Ok
end
section
variable {K : PySem.W.Frag} {H H' : Hp}
theorem MarksIn.same (s : Same H H') : ∀ {as : List Addr} {ms : List Mk}, MarksIn K H as ms → MarksIn K H' as ms
  | [], [], h => h
  | a :: as, m :: ms, ⟨⟨dx, h1⟩, h2⟩ => ⟨⟨dx, s _ _ h1⟩, h2.same s⟩
  | [], _ :: _, h => h.elim
  | _ :: _, [], h => h.elim
theorem MarksIn.len : ∀ {as : List Addr} {ms : List Mk}, MarksIn K H as ms → as.length = ms.length
  | [], [], _ => rfl
  | a :: as, m :: ms, ⟨_, h2⟩ => congrArg Nat.succ h2.len
  | [], _ :: _, h => h.elim
  | _ :: _, [], h => h.elim
theorem MarksIn.get : ∀ {as : List Addr} {ms : List Mk} {i : Nat} {a : Addr}, MarksIn K H as ms → as[i]? = some a → ∃ m, ms[i]? = some m ∧ MarkAt K H a m
  | a :: as, m :: ms, 0, b, ⟨h1, _⟩, e => by
    cases e
    exact ⟨m, rfl, h1⟩
  | a :: as, m :: ms, i + 1, b, ⟨_, h2⟩, e => MarksIn.get (as := as) (i := i) h2 e
  | [], [], i, b, _, e => by simp at e
  | [], _ :: _, _, _, h, _ => h.elim
  | _ :: _, [], _, _, h, _ => h.elim
theorem MarksIn.snoc : ∀ {as : List Addr} {ms : List Mk} {a : Addr} {m : Mk}, MarksIn K H as ms → MarkAt K H a m → MarksIn K H (as ++ [a]) (ms ++ [m])
  | [], [], a, m, _, h => ⟨h, True.intro⟩
  | b :: as, n :: ms, a, m, ⟨h1, h2⟩, h => ⟨h1, h2.snoc h⟩
  | [], _ :: _, _, _, h, _ => h.elim
  | _ :: _, [], _, _, h, _ => h.elim
theorem MarksAt.same (s : Same H H') {v : V} : ∀ {o : Option (List Mk)}, MarksAt K H v o → MarksAt K H' v o
  | none, h => h
  | some _, ⟨l, as, e, h1, h2, h3⟩ => ⟨l, as, e, s _ _ h1, h2.same s, h3⟩
theorem RowAt.same (s : Same H H') {p : Addr} {d : RowD} (r : RowAt K H p d) : RowAt K H' p d := by
  obtain ⟨⟨dx, v, w, h1, h2, h3⟩, ok⟩ := r
  exact ⟨⟨dx, v, w, s _ _ h1, h2.same s, h3.same s⟩, ok⟩
/-- a tuple at an address -/
def TupAt (H : Hp) (p : Addr) (xs : List V) : Prop := H p = some (.tup xs)
/-- the papers -/
def eV (e : Int × Int × F) : List V := [.int e.1, .int e.2.1, .str (fS e.2.2)]
def EntIn (H : Hp) : List Addr → List (Int × Int × F) → Prop
  | [], [] => True
  | a :: as, e :: es => H a = some (.tup (eV e)) ∧ EntIn H as es
  | _, _ => False
def PaperAt (H : Hp) (l : Addr) (es : List (Int × Int × F)) : Prop := ∃ as, H l = some (.lst (as.map V.ref)) ∧ EntIn H as es ∧ es.length ≤ sizeLine
theorem EntIn.same (s : Same H H') : ∀ {as : List Addr} {es : List (Int × Int × F)}, EntIn H as es → EntIn H' as es
  | [], [], h => h
  | a :: as, m :: ms, ⟨h1, h2⟩ => ⟨s _ _ h1, h2.same s⟩
  | [], _ :: _, h => h.elim
  | _ :: _, [], h => h.elim
theorem EntIn.len : ∀ {as : List Addr} {es : List (Int × Int × F)}, EntIn H as es → as.length = es.length
  | [], [], _ => rfl
  | a :: as, m :: ms, ⟨_, h2⟩ => congrArg Nat.succ h2.len
  | [], _ :: _, h => h.elim
  | _ :: _, [], h => h.elim
theorem EntIn.get : ∀ {as : List Addr} {es : List (Int × Int × F)} {i : Nat} {a : Addr}, EntIn H as es → as[i]? = some a → ∃ e, es[i]? = some e ∧ H a = some (.tup (eV e))
  | a :: as, m :: ms, 0, b, ⟨h1, _⟩, e => by
    cases e
    exact ⟨m, rfl, h1⟩
  | a :: as, m :: ms, i + 1, b, ⟨_, h2⟩, e => EntIn.get (as := as) (i := i) h2 e
  | [], [], i, b, _, e => by simp at e
  | [], _ :: _, _, _, h, _ => h.elim
  | _ :: _, [], _, _, h, _ => h.elim
theorem EntIn.snoc : ∀ {as : List Addr} {es : List (Int × Int × F)} {a : Addr} {e : Int × Int × F}, EntIn H as es → H a = some (.tup (eV e)) → EntIn H (as ++ [a]) (es ++ [e])
  | [], [], a, m, _, h => ⟨h, True.intro⟩
  | b :: as, n :: ms, a, m, ⟨h1, h2⟩, h => ⟨h1, h2.snoc h⟩
  | [], _ :: _, _, _, h, _ => h.elim
  | _ :: _, [], _, _, h, _ => h.elim
theorem PaperAt.same (s : Same H H') {l : Addr} {es : List (Int × Int × F)} : PaperAt H l es → PaperAt H' l es
  | ⟨as, h1, h2, h3⟩ => ⟨as, s _ _ h1, h2.same s, h3⟩
/-- what a cell that stands apart (at l) does not touch -/
theorem EntIn.upd {l : Addr} {o : HO} : ∀ {as : List Addr} {es : List (Int × Int × F)} {xs : List V}, H l = some (.lst xs) → EntIn H as es → EntIn (upd H l o) as es
  | [], [], _, _, h => h
  | a :: as, m :: ms, xs, hl, ⟨h1, h2⟩ => ⟨by rw [upd_ne (ne_of h1 hl (by intro z; cases z))]; exact h1, EntIn.upd hl h2⟩
  | [], _ :: _, _, _, h => h.elim
  | _ :: _, [], _, _, h => h.elim
end
/-! ### the promises -/
section
variable (K : PySem.W.Frag)
def spWhole : Sp := fun vs H Q _ => ∃ i : Int, vs = [.int i] ∧ Q (.bl true) H
def spLong : Sp := fun vs H Q _ => ∃ y : Int, vs = [.int y] ∧ Q (.bl (isLong y)) H
def spDBef : Sp := fun vs H Q _ => ∃ y : Int, vs = [.int y] ∧ Q (.int (dBef y)) H
def spLastOf : Sp := fun vs H Q _ => ∃ y m : Int, vs = [.int y, .int m] ∧ 1 ≤ m ∧ m ≤ 12 ∧ Q (.int (lastOf y m)) H
def spDayOf : Sp := fun vs H Q _ => ∃ M d : Int, vs = [.int (M / 12), .int (M % 12 + 1), .int d] ∧ 1 ≤ d ∧ d ≤ mLen M ∧ ∀ H', Same H H' → Q (.int (mStart M + d - 1)) H'
def spDateOf : Sp := fun vs H Q _ => ∃ n : Int, vs = [.int n] ∧ ∀ p H', Same H H' → H' p = some (.tup [.int (monthOf n / 12), .int (monthOf n % 12 + 1), .int (domOf n)]) → Q (.ref p) H'
def spWeekday : Sp := fun vs H Q _ => ∃ n : Int, vs = [.int n] ∧ Q (.int (weekday n)) H
def spParted : Sp := fun vs H Q _ => ∃ t : Int, vs = [.int t] ∧ ∀ p H', Same H H' → H' p = some (.tup [.int (t / 1440), .int (t % 1440 / 60), .int (t % 1440 % 60)]) → Q (.ref p) H'
def spKindOf : Sp := fun vs H Q _ => ∃ M : Int, vs = [.int (M / 12), .int (M % 12 + 1)] ∧ ∀ H', Same H H' → Q (.int (kindOf M)) H'
def spMonthAt : Sp := fun vs H Q _ => ∃ k : Int, vs = [.int k] ∧ 0 ≤ k ∧ k < 91 ∧ ∀ p H', Same H H' → H' p = some (.tup [.int (kMonth k), .int (kLen k), .int (kFirst k)]) → Q (.ref p) H'
def spIsIn : Sp := fun vs H Q _ => ∃ (m : Nat) (z : Int), vs = [.int m, .int z] ∧ 0 ≤ z ∧ Q (.bl (m.testBit z.toNat)) H
def spWdIn : Sp := fun vs H Q _ => ∃ d f : Int, vs = [.int d, .int f] ∧ Q (.int (wdIn d f)) H
/-- a mark's days -/
def spMark (m : Mk) : Sp := fun vs H Q _ => ∃ (a : Addr) (last first : Int), vs = [.ref a, .int last, .int first] ∧ MarkAt K H a m ∧ m.Ok ∧ 28 ≤ last ∧ last ≤ 31 ∧ 0 ≤ first ∧ first ≤ 6 ∧ Q (.int (markDays last first m : Nat)) H
def spAnyDays : Sp := fun vs H Q _ => ∃ (l : Addr) (as : List Addr) (ms : List Mk) (last first : Int), vs = [.ref l, .int last, .int first] ∧ H l = some (.lst (as.map V.ref)) ∧ MarksIn K H as ms ∧ (∀ m ∈ ms, m.Ok) ∧ 28 ≤ last ∧ last ≤ 31 ∧ 0 ≤ first ∧ first ≤ 6 ∧
  Q (.int (anyDays last first ms 0 : Nat)) H
def spNums : Sp := fun vs H Q _ => ∃ m : Nat, vs = [.int m] ∧ m < 2 ^ 64 ∧ ∀ l (ns : List Nat) H', Same H H' → H' l = some (.lst (ns.map fun n => V.int (n : Nat))) → (∀ j, j ∈ ns ↔ m.testBit j = true) → ns.length ≤ 64 → Q (.ref l) H'
def spMin : Sp := fun vs H Q _ => ∃ (p : Addr) (d : RowD), vs = [.ref p] ∧ RowAt K H p d ∧ Q (.int d.mi) H
def spHrs : Sp := fun vs H Q _ => ∃ (p : Addr) (d : RowD), vs = [.ref p] ∧ RowAt K H p d ∧ Q (.int d.ho) H
def spMos : Sp := fun vs H Q _ => ∃ (p : Addr) (d : RowD), vs = [.ref p] ∧ RowAt K H p d ∧ Q (.int d.mo) H
def spTimes : Sp := fun vs H Q _ => ∃ (p : Addr) (d : RowD), vs = [.ref p] ∧ RowAt K H p d ∧ ∀ (tm : Nat) H', Same H H' → (∀ z, z < 1440 → tm.testBit z = tmOk d.rw z) → Q (.int tm) H'
def spDaysIn : Sp := fun vs H Q _ => ∃ (p : Addr) (d : RowD) (k : Int), vs = [.ref p, .int k] ∧ RowAt K H p d ∧ 0 ≤ k ∧ k < 91 ∧ ∀ H', Same H H' → Q (.int (d.rw.dy k : Nat)) H'
def spShutBy : Sp := fun vs H Q _ => ∃ (p : Addr) (d : RowD) (t : Int), vs = [.ref p, .int t] ∧ RowAt K H p d ∧ ∀ H', Same H H' → Q (fV (shut d.rw t)) H'
def spHolds : Sp := fun vs H Q _ => ∃ (p : Addr) (d : RowD) (t : Int), vs = [.ref p, .int t] ∧ RowAt K H p d ∧ ∀ H', Same H H' → Q (.bl (decide (shut d.rw t = none))) H'
def spMonthOpen : Sp := fun vs H Q _ => ∃ (p : Addr) (d : RowD) (t : Int), vs = [.ref p, .int t] ∧ RowAt K H p d ∧ shut d.rw t = some .mo ∧ ∀ e H', Same H H' → RunTo d.rw t .mo e → Q (.int e) H'
def spShutDay : Sp := fun vs H Q _ => ∃ (p : Addr) (d : RowD) (n : Int), vs = [.ref p, .int n] ∧ RowAt K H p d ∧ ∀ H', Same H H' → Q (.bl (moOk d.rw n && !dyOk d.rw n)) H'
def spDayOpen : Sp := fun vs H Q _ => ∃ (p : Addr) (d : RowD) (t : Int), vs = [.ref p, .int t] ∧ RowAt K H p d ∧ shut d.rw t = some .dy ∧ ∀ e H', Same H H' → RunTo d.rw t .dy e → Q (.int e) H'
def spHourOpen : Sp := fun vs H Q _ => ∃ (p : Addr) (d : RowD) (t : Int), vs = [.ref p, .int t] ∧ RowAt K H p d ∧ hoOk d.rw t = false ∧ ∀ e H', Same H H' → HourOpen d.rw t e → Q (.int e) H'
def spMinOpen : Sp := fun vs H Q _ => ∃ (p : Addr) (d : RowD) (t : Int), vs = [.ref p, .int t] ∧ RowAt K H p d ∧ miOk d.rw t = false ∧ ∀ e H', Same H H' → MinOpen d.rw t e → Q (.int e) H'
def Opens (r : Rw) (t e : Int) : F → Prop
  | .mo => RunTo r t .mo e
  | .dy => RunTo r t .dy e
  | .ho => HourOpen r t e
  | .mi => MinOpen r t e
def spOpen : Sp := fun vs H Q _ => ∃ (p : Addr) (d : RowD) (t : Int) (f : F), vs = [.ref p, .int t, .str (fS f)] ∧ RowAt K H p d ∧ shut d.rw t = some f ∧ ∀ e H', Same H H' → Opens d.rw t e f → Q (.int e) H'
def spRunEnd : Sp := fun vs H Q _ => ∃ (p : Addr) (d : RowD) (t : Int) (f : F), vs = [.ref p, .int t, .str (fS f)] ∧ RowAt K H p d ∧ shut d.rw t = some f ∧ ∀ e H', Same H H' → RunTo d.rw t f e → Q (.int e) H'
def spNever : Sp := fun vs H Q _ => ∃ (p : Addr) (d : RowD), vs = [.ref p] ∧ RowAt K H p d ∧ ∀ H', Same H H' → (Some1 d.rw → Q (.bl false) H') ∧ (¬ Some1 d.rw → Q (.bl true) H')
def spNext : Sp := fun vs H Q _ => ∃ (p : Addr) (d : RowD) (t : Int), vs = [.ref p, .int t] ∧ RowAt K H p d ∧
  (¬ Some1 d.rw → ∀ q l H', Same H H' → H' q = some (.tup [.non, .ref l]) → Q (.ref q) H') ∧
  (Some1 d.rw → ∀ q l u es H', Same H H' → H' q = some (.tup [.int u, .ref l]) → IsNext d.rw t u → PaperAt H' l es → PaperOk d.rw t u es → Q (.ref q) H')
def spRuns : Sp := fun vs H Q _ => ∃ (p : Addr) (d : RowD) (a b : Int), vs = [.ref p, .int a, .int b] ∧ RowAt K H p d ∧ (∀ v, a ≤ v → v ≤ b → shut d.rw v ≠ none) ∧ b - a ≤ FAR ∧
  ∀ l es H', Same H H' → PaperAt H' l es → PaperOk d.rw a (b + 1) es → Q (.ref l) H'
def spGreat : Sp := fun vs H Q _ => ∃ (m : Nat) (z : Int), vs = [.int m, .int z] ∧ 0 ≤ z ∧ z ≤ 5000 ∧
  ((∀ j : Int, 0 ≤ j → j ≤ z → m.testBit j.toNat = false) → Q .non H) ∧ ∀ j : Int, 0 ≤ j → j ≤ z → m.testBit j.toNat = true → (∀ i : Int, j < i → i ≤ z → m.testBit i.toNat = false) → Q (.int j) H
def spLim : Sp := fun vs H Q _ => ∃ (p : Addr) (d : RowD) (M upto time : Int), vs = [.ref p, .int (M / 12), .int (M % 12 + 1), .int upto, .int time] ∧ RowAt K H p d ∧ 1 ≤ upto ∧ upto ≤ 31 ∧ 0 ≤ time ∧ time ≤ 1439 ∧
  ∀ H', Same H H' → (LimNone d.rw M upto time → Q .non H') ∧ ∀ v, LimSome d.rw M upto time v → Q (.int v) H'
def spHeld : Sp := fun vs H Q _ => ∃ (p : Addr) (d : RowD) (t : Int), vs = [.ref p, .int t] ∧ RowAt K H p d ∧ Some1 d.rw ∧ ∀ u H', Same H H' → IsLast d.rw t u → Q (.int u) H'
def spLast : Sp := fun vs H Q _ => ∃ (p : Addr) (d : RowD) (t : Int), vs = [.ref p, .int t] ∧ RowAt K H p d ∧
  (¬ Some1 d.rw → ∀ q l H', Same H H' → H' q = some (.tup [.non, .ref l]) → Q (.ref q) H') ∧
  (Some1 d.rw → ∀ q l u es H', Same H H' → H' q = some (.tup [.int u, .ref l]) → IsLast d.rw t u → PaperAt H' l es → PaperOk d.rw (u + 1) (t + 1) es → Q (.ref q) H')
def spBetween : Sp := fun vs H Q _ => ∃ (p q l : Addr) (d : RowD) (u lo hi cell : Int) (es : List (Int × Int × F)), vs = [.ref p, .ref q, .int cell] ∧ RowAt K H p d ∧ H q = some (.tup [.int u, .ref l]) ∧ shut d.rw u = none ∧ PaperAt H l es ∧ PaperOk d.rw lo hi es ∧
  ∀ (here : Int) H', Same H H' → (here = u ∨ (lo ≤ here ∧ here < hi)) → Q (.int here) H'
def spRight : Sp := fun vs H Q _ => ∃ (p : Addr) (d : RowD) (t one other : Int), vs = [.ref p, .int t, .int one, .int other] ∧ RowAt K H p d ∧ ∀ H', Same H H' → Q (.bl true) H'
end
/-! ### defs by their bodies -/
section
variable {P : Program} {w : World} {K : PySem.W.Frag} {mg : Str → Option Value} {base : Heap}
theorem cal_of {x nm qual : Str} {st : Stmt} {f : Addr} {N ps : List Str} {k : Nat} {sp : Sp} (g : mg x = some (.ref f)) (D : ∃ fd, FunD K nm qual (defArgs st) (defBody st) (defScope st) [] [] f fd) (S : FnScope N ps (defScope st))
    (hb : ∀ (kV doc pm : Value) (an : Option Addr) (cdv ct : Value) (us : List Value), us.length = ps.length → bindArgs (PySem.W.fnOf nm qual (defArgs st) (defBody st) (defScope st) .none kV doc pm an cdv ct) ⟨us, []⟩ = pure (ps.zip us))
    (len : ∀ vs H Q E, sp vs H Q E → vs.length = ps.length)
    (hbody : ∀ (cdv : Value) (A : Around) (outer : List Env) (s : Shared) (H : Hp) (vs : List V) (Q : VK) (E : XK), Room k (A.deeper (envOfC qual (defScope st) s.heap.objs.size f cdv)) → sp vs H Q E →
      ∃ t, PSs (cxOf C8.CX0 P w K mg base N qual (defScope st) f cdv A outer s H E).nox (defBody st) t ∧ t { nx := fun _ H' => Q .non H', rt := Q } (start N vs) H) : C8.Cal P w K mg base (k + 1) x sp [] := by
  obtain ⟨fd, F⟩ := D
  refine ⟨f, fd, ps, [], F.ok S len fun cdv A outer s H vs Q E hr h => ?_, g, F.kp, F.bindsN hb, .nil⟩
  obtain ⟨t, h1, h2⟩ := hbody cdv A outer s H vs Q E hr h
  exact ⟨t, h1.nox, h2⟩
theorem met_of {nm qual : Str} {C : Addr} {st : Stmt} {f : Addr} {N ps : List Str} {k : Nat} {sp : Sp} (c : Cls K C) (m : Meth K C nm f) (D : ∃ fd, FunD K nm qual (defArgs st) (defBody st) (defScope st) [] [] f fd) (S : FnScope N ps (defScope st))
    (hb : ∀ (kV doc pm : Value) (an : Option Addr) (cdv ct : Value) (us : List Value), us.length = ps.length → bindArgs (PySem.W.fnOf nm qual (defArgs st) (defBody st) (defScope st) .none kV doc pm an cdv ct) ⟨us, []⟩ = pure (ps.zip us))
    (len : ∀ vs H Q E, sp vs H Q E → vs.length = ps.length)
    (hbody : ∀ (cdv : Value) (A : Around) (outer : List Env) (s : Shared) (H : Hp) (vs : List V) (Q : VK) (E : XK), Room k (A.deeper (envOfC qual (defScope st) s.heap.objs.size f cdv)) → sp vs H Q E →
      ∃ t, PSs (cxOf C8.CX0 P w K mg base N qual (defScope st) f cdv A outer s H E).nox (defBody st) t ∧ t { nx := fun _ H' => Q .non H', rt := Q } (start N vs) H) : C8.Met P w K mg base (k + 1) C nm sp [] := by
  obtain ⟨fd, F⟩ := D
  refine ⟨f, fd, ps, [], c, m, F.ok S len fun cdv A outer s H vs Q E hr h => ?_, F.bindsN hb, .nil⟩
  obtain ⟨t, h1, h2⟩ := hbody cdv A outer s H vs Q E hr h
  exact ⟨t, h1.nox, h2⟩
theorem mak_of {x qual : Str} {C : Addr} {st : Stmt} {f : Addr} {N ps : List Str} {k : Nat} {sp : Sp} (M : L2.Mk K C f) (g : mg x = some (.ref C)) (D : ∃ fd, FunD K "__init__" qual (defArgs st) (defBody st) (defScope st) [] [] f fd) (S : FnScope N ps (defScope st))
    (hb : ∀ (kV doc pm : Value) (an : Option Addr) (cdv ct : Value) (us : List Value), us.length = ps.length → bindArgs (PySem.W.fnOf "__init__" qual (defArgs st) (defBody st) (defScope st) .none kV doc pm an cdv ct) ⟨us, []⟩ = pure (ps.zip us))
    (len : ∀ vs H Q E, sp vs H Q E → vs.length = ps.length)
    (hbody : ∀ (cdv : Value) (A : Around) (outer : List Env) (s : Shared) (H : Hp) (vs : List V) (Q : VK) (E : XK), Room k (A.deeper (envOfC qual (defScope st) s.heap.objs.size f cdv)) → sp vs H Q E →
      ∃ t, PSs (cxOf C8.CX0 P w K mg base N qual (defScope st) f cdv A outer s H E).nox (defBody st) t ∧ t { nx := fun _ H' => Q .non H', rt := Q } (start N vs) H) : C8.Mak P w K mg base (k + 1) x C sp [] := by
  obtain ⟨fd, F⟩ := D
  refine ⟨f, fd, ps, [], M, F.ok S len fun cdv A outer s H vs Q E hr h => ?_, g, F.bindsN hb, .nil⟩
  obtain ⟨t, h1, h2⟩ := hbody cdv A outer s H vs Q E hr h
  exact ⟨t, h1.nox, h2⟩
end
end K58
set_option Elab.async false
set_option maxRecDepth 100000
set_option maxHeartbeats 4000000
set_option linter.all false
namespace K58
open PySem PySem.Spec PyProof.Rows L2
section
variable {X : Cx}
theorem call_divmodS : CallR X (.builtin "divmod") (fun xs H Q => ∃ i j, xs = [.int i, .int j] ∧ CDiv i j ∧ ∀ p H', Same H H' → H' p = some (.tup [.int (i / j), .int (i % j)]) → Q (.ref p) H') := by
  intro pins s σ H xs us Q I r h
  obtain ⟨i, j, e, c, q⟩ := h
  exact call_divmod pins s σ H xs us Q I r ⟨i, j, e, c, fun p hp => q p _ (same_upd hp) upd_same⟩
theorem hu65 {A : Around} {k : Nat} (hr : Room k A) : A.units + 65 < cLine := by
  have := hr.un
  omega
/-- lists of ranges by ones -/
theorem pe_listRgS {e : Expr} {te : L2.St → Hp → (Int → Int → Hp → Prop) → Prop} {p pos : Pos} (hc : X.calm = true) (hg : Gl X "list") (hm : X.mg "list" = none) (he : PRg X e te) (na : starEach [e] X.env = (false, eval e X.env) :: starEach [] X.env := by rfl) :
    PE X (.Call (.Name "list" p) [e] [] pos) (fun σ H Q => te σ H fun a b H1 => RgOk a b ∧ ∀ q H', Same H1 H' → H1 q = none → H' q = some (.lst (rgV a b)) → Q (.ref q) H') := by
  have he' : PRg X e (fun σ H Q => ∃ Q0 : Int → Int → Hp → Prop, te σ H Q0 ∧ ∀ a b H', Q0 a b H' → Q a b H') := by
    intro pins s σ H Q I h
    obtain ⟨Q0, q0, w⟩ := h
    exact thn (he pins s σ H Q0 I q0) fun x s1 ⟨r, a, b, t, u, v, H1, e1, h1, I1, z⟩ => ⟨r, a, b, t, u, v, H1, e1, h1, I1, w _ _ _ z⟩
  exact pe_weak (pe_listRg hc hg hm he' na) fun σ H Q q => ⟨_, q, fun a b H1 ⟨h1, h2⟩ => ⟨h1, fun p hp => h2 p _ (same_upd hp) hp upd_same⟩⟩
end
end K58
namespace K58
open PySem PySem.Spec PyProof.Rows L2
theorem iteDT {c A B : Prop} [Decidable c] (hc : c) (h : A) : if decide c = true then A else B := by
  rw [if_pos (decide_eq_true hc)]
  exact h
theorem iteDF {c A B : Prop} [Decidable c] (hc : ¬ c) (h : B) : if decide c = true then A else B := by
  rw [if_neg (by rw [decide_eq_false hc]; exact Bool.false_ne_true)]
  exact h
theorem iteNT {c A B : Prop} [Decidable c] (hc : c) (h : B) : if (!decide c) = true then A else B := by
  rw [if_neg (by rw [decide_eq_true hc]; exact Bool.false_ne_true)]
  exact h
theorem iteNF {c A B : Prop} [Decidable c] (hc : ¬ c) (h : A) : if (!decide c) = true then A else B := by
  rw [if_pos (by rw [decide_eq_false hc]; rfl)]
  exact h
theorem iteBT {b : Bool} {A B : Prop} (hb : b = true) (h : A) : if b = true then A else B := by
  rw [if_pos hb]
  exact h
theorem iteBF {b : Bool} {A B : Prop} (hb : b = false) (h : B) : if b = true then A else B := by
  rw [if_neg (by rw [hb]; exact Bool.false_ne_true)]
  exact h
theorem same_upd2 {H0 H : Hp} {p : Addr} {o : HO} (s : Same H0 H) (h : H0 p = none) : Same H0 (upd H p o) := fun b z e => by
  rw [upd_ne (ne_of_none e h)]
  exact s b z e
theorem iv {i j : Int} : decide (V.int i = V.int j) = decide (i = j) := by simp
theorem sumr {α : Type} (f : Nat → α) (n : Nat) : (List.range (n + 1)).map f = (List.range n).map f ++ [f n] := by
  rw [List.range_succ, List.map_append]
  rfl
/-- one more turn of a while -/
theorem again {tb : TS} {D : Ends} {σ : L2.St} {H : Hp} {m : Nat} {W : Nat → L2.St → Hp → Prop} (h : tb { D with nx := fun σ' H' => ∃ m', m' < m ∧ W m' σ' H', ct := fun σ' H' => ∃ m', m' < m ∧ W m' σ' H', bk := D.nx } σ H) :
    ∃ N : L2.St → Hp → Prop, (∀ σ' H', N σ' H' → ∃ m', m' < m ∧ W m' σ' H') ∧ tb { D with nx := N, ct := N, bk := D.nx } σ H := ⟨_, fun _ _ h => h, h⟩
/-- a test, a value found first, what follows shown once -/
def tDone (t : TT) : TT := fun σ H Q => ∃ c H', (∀ Q' : Bool → Hp → Prop, Q' c H' → t σ H Q') ∧ Q c H'
theorem pt_done {X : Cx} {e : Expr} {t : TT} (h : PT X e t) : PT X e (tDone t) := pt_weak h fun _ _ _ ⟨_, _, w, q⟩ => w _ q
def tDoneE (t : TE) : TE := fun σ H Q => ∃ v H', (∀ Q' : VK, Q' v H' → t σ H Q') ∧ Q v H'
theorem pe_done {X : Cx} {e : Expr} {t : TE} (h : PE X e t) : PE X e (tDoneE t) := pe_weak h fun _ _ _ ⟨_, _, w, q⟩ => w _ q
/-- the same where the heap grows -/
def tDoneR (t : TT) : TT := fun σ H Q => ∃ (c : Bool) (R : Hp → Prop), (∀ Q' : Bool → Hp → Prop, (∀ H', R H' → Q' c H') → t σ H Q') ∧ ∀ H', R H' → Q c H'
theorem pt_doneR {X : Cx} {e : Expr} {t : TT} (h : PT X e t) : PT X e (tDoneR t) := pt_weak h fun _ _ _ ⟨_, _, w, q⟩ => w _ q
end K58
set_option Elab.async false
set_option maxRecDepth 100000
set_option maxHeartbeats 4000000
set_option linter.all false
namespace K58
open PySem PySem.Spec PyProof.Rows L2
section
variable {P : Program} {w : World} {K : PySem.W.Frag} {mg : Str → Option Value} {base : Heap}
theorem sc_is_whole : FnScope ["thing"] ["thing"] (defScope s_is_whole) := C8.fnScope_by (by decide +kernel)
theorem ok_is_whole (T : Tx K mg) : C8.Cal P w K mg base 1 "is_whole" spWhole [] := by
  refine cal_of T.g_is_whole T.D_is_whole sc_is_whole (fun _ _ _ _ _ _ us hl => match us, hl with | [_], _ => rfl) (fun vs H Q E h => ?_) (fun cdv A outer s H vs Q E hr h => ?_)
  · obtain ⟨i, rfl, _⟩ := h
    rfl
  · obtain ⟨i, rfl, k⟩ := h
    refine ⟨_, (pss_one (ps_ret (pe_and (pe_callB call_isi (by rfl) T.f_isinstance (by decide +kernel) (pa_cons (pv 0) (pa_cons (pe_bltn (v := .ty "int") (u := .type "int") rfl T.f_int (by decide +kernel) rfl) pa_nil))) (pe_one (pe_not (pe_callB call_isi (by rfl) T.f_isinstance (by decide +kernel) (pa_cons (pv 0) (pa_cons (pe_bltn (v := .ty "bool") (u := .type "bool") rfl T.f_bool (by decide +kernel) rfl) pa_nil)))))))), ?_⟩
    refine ⟨_, rfl, _, _, _, _, _, rfl, .ty "int", .base (.int i), kit_ty (by decide +kernel), _, rfl, iteT ?_⟩
    exact ⟨_, rfl, _, _, _, _, _, rfl, .ty "bool", .base (.int i), kit_ty (r := false) (by decide +kernel), _, rfl, k⟩
theorem sc_is_long : FnScope ["year"] ["year"] (defScope s_is_long) := C8.fnScope_by (by decide +kernel)
theorem ok_is_long (T : Tx K mg) : C8.Cal P w K mg base 1 "is_long" spLong [] := by
  refine cal_of T.g_is_long T.D_is_long sc_is_long (fun _ _ _ _ _ _ us hl => match us, hl with | [_], _ => rfl) (fun vs H Q E h => ?_) (fun cdv A outer s H vs Q E hr h => ?_)
  · obtain ⟨i, rfl, _⟩ := h
    rfl
  · obtain ⟨y, rfl, k⟩ := h
    refine ⟨_, (pss_one (ps_ret (pe_and (pe_cmpR op_eq (pe_op op_mod (pv 0) pe_int) pe_int (nomark _)) (pe_one (pe_or (pe_cmpR op_ne (pe_op op_mod (pv 0) pe_int) pe_int (nomark _)) (pe_one (pe_cmpR op_eq (pe_op op_mod (pv 0) pe_int) pe_int (nomark _)))))))), ?_⟩
    have e4 : ∀ z : Int, decide (V.int z = V.int 0) = decide (z = 0) := fun z => by simp
    refine ⟨_, rfl, _, _, rfl, rfl, (by show (0 : Int) < 4; decide), rfl, _, rfl, ?_⟩
    rw [e4]
    unfold isLong at k
    cases h1 : decide (y % 4 = 0) with
    | false =>
      rw [h1] at k
      exact iteF k
    | true =>
      rw [h1] at k
      refine iteT ⟨_, rfl, _, _, rfl, rfl, (by show (0 : Int) < 100; decide), rfl, _, rfl, ?_⟩
      rw [e4]
      cases h2 : decide (y % 100 = 0) with
      | false =>
        rw [h2] at k
        exact iteT k
      | true =>
        rw [h2] at k
        refine iteF ⟨_, rfl, _, _, rfl, rfl, (by show (0 : Int) < 400; decide), rfl, ?_⟩
        rw [e4]
        exact k
theorem sc_days_before : FnScope ["year"] ["year"] (defScope s_days_before) := C8.fnScope_by (by decide +kernel)
theorem ok_days_before (T : Tx K mg) : C8.Cal P w K mg base 1 "days_before" spDBef [] := by
  refine cal_of T.g_days_before T.D_days_before sc_days_before (fun _ _ _ _ _ _ us hl => match us, hl with | [_], _ => rfl) (fun vs H Q E h => ?_) (fun cdv A outer s H vs Q E hr h => ?_)
  · obtain ⟨i, rfl, _⟩ := h
    rfl
  · obtain ⟨y, rfl, k⟩ := h
    refine ⟨_, (pss_one (ps_ret (pe_op op_add (pe_op op_sub (pe_op op_add (pe_op op_mul pe_int (pv 0)) (pe_op op_fdiv (pe_op op_add (pv 0) pe_int) pe_int)) (pe_op op_fdiv (pe_op op_add (pv 0) pe_int) pe_int)) (pe_op op_fdiv (pe_op op_add (pv 0) pe_int) pe_int)))), ?_⟩
    exact ⟨_, rfl, _, _, rfl, rfl, .inl ⟨by decide, by decide⟩, _, rfl, _, _, rfl, rfl, _, _, rfl, rfl, ⟨by decide, by decide⟩, _, _, rfl, rfl, _, rfl, _, _, rfl, rfl, _, _, rfl, rfl, ⟨by decide, by decide⟩, _, _, rfl, rfl,
      _, rfl, _, _, rfl, rfl, _, _, rfl, rfl, ⟨by decide, by decide⟩, _, _, rfl, rfl, k⟩
theorem sc_last_of : FnScope ["year", "month"] ["year", "month"] (defScope s_last_of) := C8.fnScope_by (by decide +kernel)
theorem lasts_at (K : PySem.W.Frag) {m : Int} (h1 : 1 ≤ m) (h2 : m ≤ 12) : atI (lasts.map (He.Dv.v K)) (m - 1) = some (V.int (if m = 2 then 28 else if m = 4 ∨ m = 6 ∨ m = 9 ∨ m = 11 then 30 else 31)) := by
  have h : m = 1 ∨ m = 2 ∨ m = 3 ∨ m = 4 ∨ m = 5 ∨ m = 6 ∨ m = 7 ∨ m = 8 ∨ m = 9 ∨ m = 10 ∨ m = 11 ∨ m = 12 := by omega
  rcases h with h | h | h | h | h | h | h | h | h | h | h | h <;> subst h <;> rfl
theorem ok_last_of (T : Tx K mg) (c_is_long : C8.Cal P w K mg base 1 "is_long" spLong []) : C8.Cal P w K mg base 2 "last_of" spLastOf [] := by
  refine cal_of T.g_last_of T.D_last_of sc_last_of (fun _ _ _ _ _ _ us hl => match us, hl with | [_, _], _ => rfl) (fun vs H Q E h => ?_) (fun cdv A outer s H vs Q E hr h => ?_)
  · obtain ⟨i, j, rfl, _⟩ := h
    rfl
  · obtain ⟨y, m, rfl, h1, h2, k⟩ := h
    refine ⟨_, (pss_cons (ps_if (PW.pt (pw_and (pt_cmpR op_eq (pv 1) pe_int (nomark _)) (pw_and1 (pt_val (C8.pe_c c_is_long hr (by decide) rfl (pa_cons (pv 0) pa_nil)))))) (pss_one (ps_ret pe_int)) pss_nil)
      (pss_one (ps_ret (pe_ix ix_tup (pe_glob (v := .ref _) rfl T.g_LASTS rfl) (pe_op op_sub (pv 1) pe_int) (fun _ _ => rfl))))), ?_⟩
    have e4 : ∀ z : Int, decide (V.int z = V.int 2) = decide (z = 2) := fun z => by simp
    refine ⟨_, rfl, rfl, _, rfl, ?_⟩
    rw [e4]
    have tail : (m = 2 → isLong y = false) → ∀ Q' : VK, Q' (.int (lastOf y m)) H → ∃ v, some (V.ref (He.ga K "LASTS")) = some v ∧ True := fun _ _ _ => ⟨_, rfl, True.intro⟩
    by_cases hm : m = 2
    · rw [decide_eq_true hm]
      refine iteT ⟨_, rfl, y, rfl, _, rfl, ?_⟩
      cases hl : isLong y with
      | true =>
        refine iteT ?_
        have e : lastOf y m = 29 := by
          unfold lastOf
          rw [if_pos hm, if_pos hl]
        rw [e] at k
        exact k
      | false =>
        refine iteF ⟨_, rfl, _, _, rfl, rfl, _, _, _, _, rfl, rfl, T.t_LASTS H, lasts_at K h1 h2, ?_⟩
        have e : lastOf y m = 28 := by
          unfold lastOf
          rw [if_pos hm, hl]
          rfl
        rw [e] at k
        rw [if_pos hm]
        exact k
    · rw [decide_eq_false hm]
      refine iteF (iteF ⟨_, rfl, _, _, rfl, rfl, _, _, _, _, rfl, rfl, T.t_LASTS H, lasts_at K h1 h2, ?_⟩)
      unfold lastOf at k
      rw [if_neg hm] at k
      rw [if_neg hm]
      exact k
theorem sc_weekday : FnScope ["day"] ["day"] (defScope s_weekday) := C8.fnScope_by (by decide +kernel)
theorem ok_weekday (T : Tx K mg) : C8.Cal P w K mg base 1 "weekday" spWeekday [] := by
  refine cal_of T.g_weekday T.D_weekday sc_weekday (fun _ _ _ _ _ _ us hl => match us, hl with | [_], _ => rfl) (fun vs H Q E h => ?_) (fun cdv A outer s H vs Q E hr h => ?_)
  · obtain ⟨i, rfl, _⟩ := h
    rfl
  · obtain ⟨y, rfl, k⟩ := h
    refine ⟨_, (pss_one (ps_ret (pe_op op_mod (pe_op op_add (pv 0) pe_int) pe_int))), ?_⟩
    exact ⟨_, rfl, _, _, rfl, rfl, _, _, rfl, rfl, (by show (0 : Int) < 7; decide), k⟩
theorem sc_parted : FnScope ["moment", "day", "rest", "hour", "minute"] ["moment"] (defScope s_parted) := C8.fnScope_by (by decide +kernel)
theorem ok_parted (T : Tx K mg) : C8.Cal P w K mg base 1 "parted" spParted [] := by
  refine cal_of T.g_parted T.D_parted sc_parted (fun _ _ _ _ _ _ us hl => match us, hl with | [_], _ => rfl) (fun vs H Q E h => ?_) (fun cdv A outer s H vs Q E hr h => ?_)
  · obtain ⟨i, rfl, _⟩ := h
    rfl
  · obtain ⟨t, rfl, k⟩ := h
    refine ⟨_, (pss_cons (ps_asg (pe_callB call_divmodS (by rfl) T.f_divmod (by decide +kernel) (pa_cons (pv 0) (pa_cons (C8.pe_gc rfl T.c_DAY) pa_nil))) (pg_tup rfl (pgs_cons (pg_name (i := 1) sc_parted.nd rfl (Or.inl rfl)) (pgs_cons (pg_name (i := 2) sc_parted.nd rfl (Or.inl rfl)) pgs_nil))))
      (pss_cons (ps_asg (pe_callB call_divmodS (by rfl) T.f_divmod (by decide +kernel) (pa_cons (pv 2) (pa_cons (C8.pe_gc rfl T.c_HOUR) pa_nil))) (pg_tup rfl (pgs_cons (pg_name (i := 3) sc_parted.nd rfl (Or.inl rfl)) (pgs_cons (pg_name (i := 4) sc_parted.nd rfl (Or.inl rfl)) pgs_nil))))
      (pss_one (ps_ret (pe_tupS (pa_cons (pv 1) (pa_cons (pv 3) (pa_cons (pv 4) pa_nil)))))))), ?_⟩
    refine ⟨_, rfl, t, 1440, rfl, ⟨by decide, by decide⟩, fun p1 H1 s1 e1 => ?_⟩
    refine ⟨_, _, rfl, .inl (.inl e1), rfl, _, _, rfl, _, _, rfl, rfl, ?_⟩
    refine ⟨_, rfl, t % 1440, 60, rfl, ⟨by decide, by decide⟩, fun p2 H2 s2 e2 => ?_⟩
    refine ⟨_, _, rfl, .inl (.inl e2), rfl, _, _, rfl, _, _, rfl, rfl, ?_⟩
    exact ⟨_, rfl, _, rfl, _, rfl, (by show 3 ≤ sizeLine; decide), fun p3 H3 s3 _ e3 => k p3 H3 ((s1.trans s2).trans s3) e3⟩
theorem sc_is_in : FnScope ["mask", "number"] ["mask", "number"] (defScope s_is_in) := C8.fnScope_by (by decide +kernel)
theorem ok_is_in (T : Tx K mg) : C8.Cal P w K mg base 1 "is_in" spIsIn [] := by
  refine cal_of T.g_is_in T.D_is_in sc_is_in (fun _ _ _ _ _ _ us hl => match us, hl with | [_, _], _ => rfl) (fun vs H Q E h => ?_) (fun cdv A outer s H vs Q E hr h => ?_)
  · obtain ⟨i, j, rfl, _⟩ := h
    rfl
  · obtain ⟨m, z, rfl, hz, k⟩ := h
    refine ⟨_, (pss_one (ps_ret (pe_bit1 (pv 0) (pv 1)))), ?_⟩
    exact ⟨_, rfl, _, rfl, m, z, rfl, rfl, hz, k⟩
end
end K58
set_option Elab.async false
set_option maxRecDepth 100000
set_option maxHeartbeats 4000000
set_option linter.all false
namespace K58
open PySem PySem.Spec PyProof.Rows L2
section
variable {P : Program} {w : World} {K : PySem.W.Frag} {mg : Str → Option Value} {base : Heap}
theorem sum_cum (y : Int) (n : Nat) : ((List.range n).map fun j => lastOf y (1 + (j : Nat))).sum = cum y n := by
  induction n with
  | zero => rfl
  | succ n ih =>
    rw [sumr, List.sum_append, ih]
    show cum y n + (lastOf y (1 + (n : Nat)) + 0) = cum y n + lastOf y ((n : Int) + 1)
    rw [Int.add_zero, Int.add_comm 1]
theorem sc_day_of : FnScope ["year", "month", "day", "k"] ["year", "month", "day"] (defScope s_day_of) := C8.fnScope_by (by decide +kernel)
theorem ok_day_of (T : Tx K mg) (c_is_whole : C8.Cal P w K mg base 1 "is_whole" spWhole []) (c_last_of : C8.Cal P w K mg base 2 "last_of" spLastOf []) (c_days_before : C8.Cal P w K mg base 1 "days_before" spDBef []) : C8.Cal P w K mg base 3 "day_of" spDayOf [] := by
  refine cal_of T.g_day_of T.D_day_of sc_day_of (fun _ _ _ _ _ _ us hl => match us, hl with | [_, _, _], _ => rfl) (fun vs H Q E h => ?_) (fun cdv A outer s H vs Q E hr h => ?_)
  · obtain ⟨i, j, rfl, _⟩ := h
    rfl
  · obtain ⟨M, d, rfl, h1, h2, k⟩ := h
    refine ⟨_, (pss_cons (ps_if (PW.pt (pw_or (pt_not (pt_val (C8.pe_c c_is_whole hr (by decide) rfl (pa_cons (pv 0) pa_nil)))) (pw_or (pt_not (pt_val (C8.pe_c c_is_whole hr (by decide) rfl (pa_cons (pv 1) pa_nil)))) (pw_or1 (pt_not (pt_val (C8.pe_c c_is_whole hr (by decide) rfl (pa_cons (pv 2) pa_nil)))))))) (pss_one ps_never) pss_nil)
      (pss_cons (ps_if (PW.pt (pw_or (pt_not (pt_chain op_le op_le pe_int (pv 1) pe_int)) (pw_or1 (pt_not (pt_chain op_le op_le pe_int (pv 2) (C8.pe_c c_last_of hr (by decide) rfl (pa_cons (pv 0) (pa_cons (pv 1) pa_nil)))))))) (pss_one ps_never) pss_nil)
      (pss_one (ps_ret (pe_op op_sub (pe_op op_add (pe_op op_add (C8.pe_c c_days_before hr (by decide) rfl (pa_cons (pv 0) pa_nil)) (pe_callB (cr_sum rfl) (by rfl) T.f_sum (by decide +kernel) (pa_cons (pe_lc (own := [("k", 3)]) (g := gName 3) rfl sc_day_of.nd (pi_range2 rfl T.f_range (pa_cons pe_int (pa_cons (pv 1) pa_nil))) (blkOk_by (own := [("k", 3)]) (N := ["year", "month", "day", "k"]) (sc := defScope s_day_of) (by decide +kernel)) (fun _ _ _ _ _ => pg_name (i := 3) sc_day_of.nd rfl (Or.inl rfl)) (fun _ _ _ _ _ => pts_nil) (fun _ _ _ _ _ => (C8.pe_c c_last_of hr (by decide) rfl (pa_cons (pv 0) (pa_cons (pv 3) pa_nil))))) pa_nil))) (pv 2)) pe_int))))), ?_⟩
    refine ⟨_, rfl, _, rfl, _, rfl, iteF ⟨_, rfl, _, rfl, _, rfl, iteF ⟨_, rfl, _, rfl, _, rfl, iteF ?_⟩⟩⟩
    have m0 : 0 ≤ M % 12 := by omega
    have m1 : M % 12 < 12 := by omega
    refine ⟨_, rfl, _, _, rfl, rfl, _, rfl, iteDT (by omega) ⟨_, _, rfl, rfl, _, rfl, iteNT (by omega) ?_⟩⟩
    refine ⟨_, rfl, _, _, rfl, rfl, _, rfl, iteDT (by omega) ⟨_, rfl, _, rfl, M / 12, M % 12 + 1, rfl, by omega, by omega, _, _, rfl, rfl, _, rfl, iteNT h2 ?_⟩⟩
    refine ⟨_, rfl, _, rfl, _, rfl, 1, M % 12 + 1, rfl, ⟨by decide, by decide, by omega, by omega⟩, fun D hD => ?_⟩
    refine lc_range (lo := 1) (n := (M % 12 + 1 - 1).toNat) (fun i H' => Same H H' ∧ H' D = some (.lst ((List.range i).map fun j => V.int (lastOf (M / 12) (1 + (j : Nat)))))) ⟨same_upd hD, upd_same⟩ ?_ ?_
    · rintro i H1 hi ⟨s1, e1⟩
      refine ⟨rfl, _, rfl, _, rfl, M / 12, 1 + (i : Nat), rfl, by omega, by omega, _, e1, ?_, same_upd2 s1 hD, ?_⟩
      · rw [List.length_map, List.length_range]
        exact small1000 (by omega)
      · rw [upd_same, sumr]
    · rintro H1 ⟨s1, e1⟩
      refine ⟨D, (List.range (M % 12 + 1 - 1).toNat).map fun j => lastOf (M / 12) (1 + (j : Nat)), rfl, .inl (.inl ?_), ?_⟩
      · rw [e1, List.map_map]
        rfl
      rw [sum_cum]
      refine ⟨_, _, rfl, rfl, _, rfl, _, _, rfl, rfl, _, _, rfl, rfl, ?_⟩
      have e : dBef (M / 12) + cum (M / 12) (M % 12 + 1 - 1).toNat + d - 1 = mStart M + d - 1 := by
        unfold mStart
        rw [show M % 12 + 1 - 1 = M % 12 by omega]
      have k' := k H1 s1
      rw [← e] at k'
      exact k'
theorem sc_date_of : FnScope ["day", "year", "left", "month"] ["day"] (defScope s_date_of) := C8.fnScope_by (by decide +kernel)
theorem dBef_mono {a b : Int} (h : a ≤ b) : dBef a + 365 * (b - a) ≤ dBef b := by
  unfold dBef
  omega
theorem mStart_year (y : Int) (n : Nat) (h : n < 12) : mStart (12 * y + n) = dBef y + cum y n := by
  unfold mStart
  rw [show (12 * y + (n : Int)) / 12 = y by omega, show ((12 * y + (n : Int)) % 12).toNat = n by omega]
theorem ok_date_of (T : Tx K mg) (c_last_of : C8.Cal P w K mg base 2 "last_of" spLastOf []) (c_days_before : C8.Cal P w K mg base 1 "days_before" spDBef []) : C8.Cal P w K mg base 3 "date_of" spDateOf [] := by
  refine cal_of T.g_date_of T.D_date_of sc_date_of (fun _ _ _ _ _ _ us hl => match us, hl with | [_], _ => rfl) (fun vs H Q E h => ?_) (fun cdv A outer s H vs Q E hr h => ?_)
  · obtain ⟨i, rfl, _⟩ := h
    rfl
  · obtain ⟨n, rfl, k⟩ := h
    refine ⟨_, (pss_cons (ps_set (i := 1) sc_date_of.nd rfl (Or.inl rfl) (pe_op op_fdiv (pe_op op_mul (pv 0) (C8.pe_gc rfl T.c_ROUND_YEARS)) (C8.pe_gc rfl T.c_ROUND_DAYS)))
      (pss_cons (ps_while PassesOwn.never (pt_cmpR op_gt (C8.pe_c c_days_before hr (by decide) rfl (pa_cons (pv 1) pa_nil)) (pv 0) (nomark _)) (pss_one (ps_set (i := 1) sc_date_of.nd rfl (Or.inl rfl) (pe_op op_sub (pv 1) pe_int))))
      (pss_cons (ps_while PassesOwn.never (pt_cmpR op_le (C8.pe_c c_days_before hr (by decide) rfl (pa_cons (pe_op op_add (pv 1) pe_int) pa_nil)) (pv 0) (nomark _)) (pss_one (ps_set (i := 1) sc_date_of.nd rfl (Or.inl rfl) (pe_op op_add (pv 1) pe_int))))
      (pss_cons (ps_set (i := 2) sc_date_of.nd rfl (Or.inl rfl) (pe_op op_sub (pv 0) (C8.pe_c c_days_before hr (by decide) rfl (pa_cons (pv 1) pa_nil))))
      (pss_cons (ps_set (i := 3) sc_date_of.nd rfl (Or.inl rfl) pe_int)
      (pss_cons (ps_while PassesOwn.never (pt_cmpR op_ge (pv 2) (C8.pe_c c_last_of hr (by decide) rfl (pa_cons (pv 1) (pa_cons (pv 3) pa_nil))) (nomark _)) (pss_cons (ps_set (i := 2) sc_date_of.nd rfl (Or.inl rfl) (pe_op op_sub (pv 2) (C8.pe_c c_last_of hr (by decide) rfl (pa_cons (pv 1) (pa_cons (pv 3) pa_nil)))))
      (pss_one (ps_set (i := 3) sc_date_of.nd rfl (Or.inl rfl) (pe_op op_add (pv 3) pe_int)))))
      (pss_one (ps_ret (pe_tupS (pa_cons (pv 1) (pa_cons (pv 3) (pa_cons (pe_op op_add (pv 2) pe_int) pa_nil)))))))))))), ?_⟩
    refine ⟨_, rfl, _, _, rfl, rfl, .inr ⟨by decide, by decide⟩, _, _, rfl, rfl, ⟨by decide, by decide⟩, ?_⟩
    -- while days_before(year) > day
    refine while_by (fun σ H' => H' = H ∧ ∃ y : Int, σ = [some (.int n), some (.int y), none, none]) (fun σ _ => match σ with | [_, some (.int y), _, _] => (dBef y - n).toNat | _ => 0) ⟨rfl, _, rfl⟩ ?_ ?_
    · rintro σ H' ⟨rfl, y, rfl⟩
      refine ⟨_, rfl, y, rfl, _, rfl, _, _, rfl, rfl, _, rfl, ite2 (fun c => ?_) (fun c => ?_)⟩
      · have c' : n < dBef y := of_decide_eq_true c
        refine ⟨_, rfl, _, _, rfl, rfl, ⟨rfl, y - 1, rfl⟩, ?_⟩
        have := dBef_mono (show y - 1 ≤ y by omega)
        show (dBef (y - 1) - n).toNat < (dBef y - n).toNat
        omega
      · have c1 : dBef y ≤ n := by
          have := of_decide_eq_false (Bool.eq_false_iff.mpr c)
          omega
        -- while days_before(year + 1) <= day
        refine while_by (fun σ H2 => H2 = H' ∧ ∃ y : Int, σ = [some (.int n), some (.int y), none, none] ∧ dBef y ≤ n) (fun σ _ => match σ with | [_, some (.int y), _, _] => (n + 1 - dBef (y + 1)).toNat | _ => 0) ⟨rfl, _, rfl, c1⟩ ?_ ?_
        · rintro σ H2 ⟨rfl, y, rfl, c1⟩
          refine ⟨_, rfl, _, _, rfl, rfl, y + 1, rfl, _, rfl, _, _, rfl, rfl, _, rfl, ite2 (fun c => ?_) (fun c => ?_)⟩
          · have c' : dBef (y + 1) ≤ n := of_decide_eq_true c
            refine ⟨_, rfl, _, _, rfl, rfl, ⟨rfl, y + 1, rfl, c'⟩, ?_⟩
            have := dBef_mono (show y + 1 ≤ y + 1 + 1 by omega)
            show (n + 1 - dBef (y + 1 + 1)).toNat < (n + 1 - dBef (y + 1)).toNat
            omega
          · have c2 : n < dBef (y + 1) := by
              have := of_decide_eq_false (Bool.eq_false_iff.mpr c)
              omega
            refine ⟨_, rfl, _, rfl, y, rfl, _, _, rfl, rfl, ?_⟩
            -- while left >= last_of(year, month)
            refine while_by (fun σ H3 => H3 = H2 ∧ ∃ m : Nat, m < 12 ∧ σ = [some (.int n), some (.int y), some (.int (n - dBef y - cum y m)), some (.int ((m : Int) + 1))] ∧ cum y m ≤ n - dBef y) (fun σ _ => match σ with | [_, _, _, some (.int m)] => (13 - m).toNat | _ => 0) ⟨rfl, 0, by decide, ?_, by show (0 : Int) ≤ _; omega⟩ ?_ ?_
            · show [some (V.int n), some (V.int y), some (V.int (n - dBef y)), some (V.int 1)] = [some (V.int n), some (V.int y), some (V.int (n - dBef y - 0)), some (V.int ((0 : Nat) + 1))]
              rw [Int.sub_zero]
              rfl
            · rintro σ H3 ⟨rfl, m, hm, rfl, hc⟩
              have hs : cum y (m + 1) = cum y m + lastOf y ((m : Int) + 1) := rfl
              refine ⟨_, rfl, _, rfl, _, rfl, y, (m : Int) + 1, rfl, by omega, by omega, _, _, rfl, rfl, _, rfl, ite2 (fun c => ?_) (fun c => ?_)⟩
              · have c' : lastOf y ((m : Int) + 1) ≤ n - dBef y - cum y m := of_decide_eq_true c
                have hm2 : m + 1 < 12 := by
                  by_cases q : m + 1 < 12
                  · exact q
                  · have e : m = 11 := by omega
                    subst e
                    have := dBef_succ y
                    have e12 : cum y 12 = cum y 11 + lastOf y (((11 : Nat) : Int) + 1) := rfl
                    omega
                refine ⟨_, rfl, _, rfl, _, rfl, y, (m : Int) + 1, rfl, by omega, by omega, _, _, rfl, rfl, _, rfl, _, _, rfl, rfl, ⟨rfl, m + 1, hm2, ?_, by omega⟩, ?_⟩
                · show [some (V.int n), some (V.int y), some (V.int (n - dBef y - cum y m - lastOf y ((m : Int) + 1))), some (V.int ((m : Int) + 1 + 1))] = _
                  rw [hs, show n - dBef y - cum y m - lastOf y ((m : Int) + 1) = n - dBef y - (cum y m + lastOf y ((m : Int) + 1)) by omega]
                  rfl
                · show (13 - ((m : Int) + 1 + 1)).toNat < (13 - ((m : Int) + 1)).toNat
                  omega
              · have c' : n - dBef y - cum y m < lastOf y ((m : Int) + 1) := by
                  have := of_decide_eq_false (Bool.eq_false_iff.mpr c)
                  omega
                have eM : monthOf n = 12 * y + (m : Int) := by
                  have e1 := mStart_year y m hm
                  have e2 := mStart_succ (12 * y + (m : Int))
                  have e3 : mLen (12 * y + (m : Int)) = lastOf y ((m : Int) + 1) := by
                    unfold mLen
                    rw [show (12 * y + (m : Int)) / 12 = y by omega, show (12 * y + (m : Int)) % 12 = m by omega]
                  exact monthOf_eq (by omega) (by omega)
                refine ⟨_, rfl, _, rfl, _, rfl, _, _, rfl, rfl, (by show 3 ≤ sizeLine; decide), fun p H4 s4 _ e4 => k p H4 s4 ?_⟩
                rw [e4]
                have e1 := mStart_year y m hm
                unfold domOf
                rw [eM, e1, show (12 * y + (m : Int)) / 12 = y by omega, show (12 * y + (m : Int)) % 12 = m by omega, show n - (dBef y + cum y m) + 1 = n - dBef y - cum y m + 1 by omega]
            · rintro σ H3 Q1 Q2 hq ⟨v, e1, v2, e2, v3, e3, y', m', e4, b1, b2, i, j, ei, ej, c, ec, q⟩
              exact ⟨v, e1, v2, e2, v3, e3, y', m', e4, b1, b2, i, j, ei, ej, c, ec, hq _ _ q⟩
        · rintro σ H3 Q1 Q2 hq ⟨v, e1, i1, j1, a1, a2, y', e2, v3, e3, i, j, ei, ej, c, ec, q⟩
          exact ⟨v, e1, i1, j1, a1, a2, y', e2, v3, e3, i, j, ei, ej, c, ec, hq _ _ q⟩
    · rintro σ H3 Q1 Q2 hq ⟨v, e1, y', e2, v3, e3, i, j, ei, ej, c, ec, q⟩
      exact ⟨v, e1, y', e2, v3, e3, i, j, ei, ej, c, ec, hq _ _ q⟩
theorem sc_kind_of : FnScope ["year", "month", "place"] ["year", "month"] (defScope s_kind_of) := C8.fnScope_by (by decide +kernel)
theorem ok_kind_of (T : Tx K mg) (c_is_long : C8.Cal P w K mg base 1 "is_long" spLong []) (c_weekday : C8.Cal P w K mg base 1 "weekday" spWeekday []) (c_day_of : C8.Cal P w K mg base 3 "day_of" spDayOf []) : C8.Cal P w K mg base 4 "kind_of" spKindOf [] := by
  refine cal_of T.g_kind_of T.D_kind_of sc_kind_of (fun _ _ _ _ _ _ us hl => match us, hl with | [_, _], _ => rfl) (fun vs H Q E h => ?_) (fun cdv A outer s H vs Q E hr h => ?_)
  · obtain ⟨i, rfl, _⟩ := h
    rfl
  · obtain ⟨M, rfl, k⟩ := h
    have hl := mLen_range M
    refine ⟨_, (pss_cons (ps_set (i := 2) sc_kind_of.nd rfl (Or.inl rfl) (pe_op op_sub (pv 1) pe_int))
      (pss_cons (ps_if (PW.pt (pw_and (pt_cmpR op_eq (pv 1) pe_int (nomark _)) (pw_and1 (pt_val (C8.pe_c c_is_long hr (by decide) rfl (pa_cons (pv 0) pa_nil)))))) (pss_one (ps_set (i := 2) sc_kind_of.nd rfl (Or.inl rfl) (C8.pe_gc rfl T.c_LONG))) pss_nil)
      (pss_one (ps_ret (pe_op op_add (pe_op op_mul pe_int (pv 2)) (C8.pe_c c_weekday hr (by decide) rfl (pa_cons (C8.pe_c c_day_of hr (by decide) rfl (pa_cons (pv 0) (pa_cons (pv 1) (pa_cons pe_int pa_nil)))) pa_nil))))))), ?_⟩
    refine ⟨_, rfl, _, _, rfl, rfl, ?_⟩
    refine ⟨_, rfl, rfl, _, rfl, ?_⟩
    rw [iv]
    have fin : ∀ pl : Int, pl = placeOf M → ∀ H', Same H H' → Q (.int (7 * pl + weekday (mStart M + 1 - 1))) H' := fun pl e H' s' => by
      rw [e, show mStart M + 1 - 1 = mStart M by omega]
      exact k H' s'
    by_cases hm : M % 12 + 1 = 2
    · rw [decide_eq_true hm]
      refine iteT ⟨_, rfl, _, rfl, _, rfl, ?_⟩
      cases hL : isLong (M / 12) with
      | true =>
        refine iteT ⟨_, rfl, _, _, rfl, rfl, .inl ⟨by decide, by decide⟩, _, rfl, _, rfl, M, 1, rfl, by decide, by omega, fun H1 s1 => ⟨_, rfl, _, _, rfl, rfl, fin 12 ?_ H1 s1⟩⟩
        unfold placeOf
        rw [if_pos ⟨by omega, hL⟩]
      | false =>
        refine iteF ⟨_, rfl, _, _, rfl, rfl, .inl ⟨by decide, by decide⟩, _, rfl, _, rfl, M, 1, rfl, by decide, by omega, fun H1 s1 => ⟨_, rfl, _, _, rfl, rfl, fin _ ?_ H1 s1⟩⟩
        unfold placeOf
        rw [if_neg (by rw [hL]; simp)]
        omega
    · rw [decide_eq_false hm]
      refine iteF (iteF ⟨_, rfl, _, _, rfl, rfl, .inl ⟨by decide, by decide⟩, _, rfl, _, rfl, M, 1, rfl, by decide, by omega, fun H1 s1 => ⟨_, rfl, _, _, rfl, rfl, fin _ ?_ H1 s1⟩⟩)
      unfold placeOf
      rw [if_neg (by omega)]
      omega
theorem sc_month_at : FnScope ["kind", "place", "first"] ["kind"] (defScope s_month_at) := C8.fnScope_by (by decide +kernel)
theorem ok_month_at (T : Tx K mg) (c_last_of : C8.Cal P w K mg base 2 "last_of" spLastOf []) : C8.Cal P w K mg base 3 "month_at" spMonthAt [] := by
  refine cal_of T.g_month_at T.D_month_at sc_month_at (fun _ _ _ _ _ _ us hl => match us, hl with | [_], _ => rfl) (fun vs H Q E h => ?_) (fun cdv A outer s H vs Q E hr h => ?_)
  · obtain ⟨i, rfl, _⟩ := h
    rfl
  · obtain ⟨i, rfl, h0, h1, k⟩ := h
    refine ⟨_, (pss_cons (ps_asg (pe_callB call_divmodS (by rfl) T.f_divmod (by decide +kernel) (pa_cons (pv 0) (pa_cons pe_int pa_nil))) (pg_tup rfl (pgs_cons (pg_name (i := 1) sc_month_at.nd rfl (Or.inl rfl)) (pgs_cons (pg_name (i := 2) sc_month_at.nd rfl (Or.inl rfl)) pgs_nil))))
      (pss_cons (ps_if (pt_cmpR op_eq (pv 1) (C8.pe_gc rfl T.c_LONG) (nomark _)) (pss_one (ps_ret (pe_tupS (pa_cons pe_int (pa_cons pe_int (pa_cons (pv 2) pa_nil)))))) pss_nil)
      (pss_one (ps_ret (pe_tupS (pa_cons (pe_op op_add (pv 1) pe_int) (pa_cons (C8.pe_c c_last_of hr (by decide) rfl (pa_cons (C8.pe_gc rfl T.c_SHORT_YEAR) (pa_cons (pe_op op_add (pv 1) pe_int) pa_nil))) (pa_cons (pv 2) pa_nil)))))))), ?_⟩
    refine ⟨_, rfl, i, 7, rfl, ⟨by decide, by decide⟩, fun p1 H1 s1 e1 => ?_⟩
    refine ⟨_, _, rfl, .inl (.inl e1), rfl, _, _, rfl, _, _, rfl, rfl, ?_⟩
    refine ⟨_, rfl, rfl, _, rfl, ?_⟩
    rw [iv]
    by_cases hm : i / 7 = 12
    · rw [decide_eq_true hm]
      refine iteT ⟨_, rfl, (by show 3 ≤ sizeLine; decide), fun p2 H2 s2 _ e2 => k p2 H2 (s1.trans s2) ?_⟩
      rw [e2]
      unfold kMonth kLen kFirst
      rw [if_pos hm, if_pos hm] <;> rfl
    · rw [decide_eq_false hm]
      refine iteF ⟨_, rfl, _, _, rfl, rfl, _, rfl, _, _, rfl, rfl, 1, i / 7 + 1, rfl, by omega, by omega, _, rfl, (by show 3 ≤ sizeLine; decide), fun p2 H2 s2 _ e2 => k p2 H2 (s1.trans s2) ?_⟩
      rw [e2]
      unfold kMonth kLen kFirst
      rw [if_neg hm, if_neg hm]
end
end K58
set_option Elab.async false
set_option maxRecDepth 100000
set_option maxHeartbeats 4000000
set_option linter.all false
namespace K58
open PySem PySem.Spec PyProof.Rows L2
/-! ### mark.days(..): the class by the mark -/
def tDays (K : PySem.W.Frag) (ta : TE) (t : TA) : TE := fun σ H Q => ta σ H fun x H1 => ∃ (a : Addr) (m : Mk), x = .ref a ∧ MarkAt K H1 a m ∧ t σ H1 fun vs H2 => spMark K m (x :: vs) H2 Q C8.E0
theorem days_no (m : Mk) : (mkF m).lookup ("days" : Str) = none := by
  cases m <;> rfl
theorem pe_days {X : Cx} {k j : Nat} {pos apos : Pos} {e o : Expr} {es : List Expr} {ta : TE} {t : TA} {pl : Sem Bool} (cM : ∀ m : Mk, C8.Met X.prog X.w X.K X.mg X.base k (mkC X.K m) "days" (spMark X.K m) []) (hr : Room j X.A) (hk : k ≤ j) (he : PE X o ta) (ha : PA X (e :: es) t)
    (h1 : starEach (e :: es) X.env = (false, eval e X.env) :: starEach es X.env := by rfl) (h2 : (backTo pos (starEach es X.env)).any (·.1) = false := by rfl)
    (h3 : eval (.Call (.Attribute o "days" apos) (e :: es) [] pos) X.env = (do
      let v ← eval o X.env
      standAt apos.atName
      let (g, f0) ← holding [v] (getMethod v "days" pl)
      callWith pos g f0 (backTo pos (starEach (e :: es) X.env)) (backToKw pos (keywordEach [] X.env))) := by rfl) :
    PE X (.Call (.Attribute o "days" apos) (e :: es) [] pos) (tDays X.K ta t) := by
  constructor
  intro pins s σ H Q I h
  refine PySem.W.methodCall_KW (pl := pl) (thn (he.run pins s σ H _ I h) ?_) h3
  rintro u s1 ⟨x, H1, I1, rx, a, m, rfl, ⟨dx, hm⟩, q⟩
  obtain rfl : u = Value.ref a := rx
  obtain ⟨f, fd, ps, ds, cl, me, F, b, dv⟩ := (cM m).ex
  refine getmeth_ok I1 hm cl me (days_no m) ?_
  refine PySem.W.callWith_K (first := [.ref a]) (h₀ := X.base) I1.ok.mod.kin me.kp (thn (ha.run pos pins s1 σ H1 _ I1 q) ?_) h1 h2
  rintro us s2 ⟨vs, H2, I2, r, q2⟩
  exact ⟨I2.kIn, run_fn (us := .ref a :: us) (vs := .ref a :: vs) F (hr.mono hk) b dv C8.pass0 I2 (.cons rfl r) (by rw [List.append_nil]; exact q2)⟩
section
variable {P : Program} {w : World} {K : PySem.W.Frag} {mg : Str → Option Value} {base : Heap}
theorem sc_weekday_in : FnScope ["day", "first"] ["day", "first"] (defScope s_weekday_in) := C8.fnScope_by (by decide +kernel)
theorem ok_weekday_in (T : Tx K mg) : C8.Cal P w K mg base 1 "weekday_in" spWdIn [] := by
  refine cal_of T.g_weekday_in T.D_weekday_in sc_weekday_in (fun _ _ _ _ _ _ us hl => match us, hl with | [_, _], _ => rfl) (fun vs H Q E h => ?_) (fun cdv A outer s H vs Q E hr h => ?_)
  · obtain ⟨i, j, rfl, _⟩ := h
    rfl
  · obtain ⟨d, f, rfl, k⟩ := h
    refine ⟨_, (pss_one (ps_ret (pe_op op_mod (pe_op op_sub (pe_op op_add (pv 1) (pv 0)) pe_int) pe_int))), ?_⟩
    exact ⟨_, rfl, _, rfl, _, _, rfl, rfl, _, _, rfl, rfl, _, _, rfl, rfl, (by show (0 : Int) < 7; decide), k⟩
theorem mask_eq (k : Nat) : V.int (((1 <<< k : Nat) : Int) - 1) = V.int (((1 <<< k - 1 : Nat)) : Int) := by
  have : 0 < 1 <<< k := by
    rw [Nat.shiftLeft_eq, Nat.one_mul]
    exact Nat.two_pow_pos k
  exact congrArg V.int (by omega)
theorem sc_Numbers_days : FnScope ["self", "last", "first"] ["self", "last", "first"] (defScope s_Numbers_days) := C8.fnScope_by (by decide +kernel)
theorem ok_Numbers_days (T : Tx K mg) (m : Nat) : C8.Met P w K mg base 1 (He.ga K "Numbers") "days" (spMark K (.num m)) [] := by
  refine met_of T.cl_Numbers T.m_Numbers_days T.D_Numbers_days sc_Numbers_days (fun _ _ _ _ _ _ us hl => match us, hl with | [_, _, _], _ => rfl) (fun vs H Q E h => ?_) (fun cdv A outer s H vs Q E hr h => ?_)
  · obtain ⟨i, j, l, rfl, _⟩ := h
    rfl
  · obtain ⟨a, last, first, rfl, ⟨dx, hm⟩, ok, l1, l2, f1, f2, k⟩ := h
    refine ⟨_, (pss_one (ps_ret (pe_op op_andN (pe_fld (pv 0) rfl) (pe_op op_sub (pe_op op_shlN pe_int (pe_op op_add (pv 1) pe_int)) pe_int)))), ?_⟩
    refine ⟨_, rfl, a, _, dx, _, _, rfl, hm, T.cl_Numbers, T.n_Numbers_mask, rfl, _, rfl, _, _, rfl, rfl, 1, last + 1, rfl, rfl, by omega, by omega, by decide, _, _, rfl, rfl, m, _, rfl, mask_eq _, k⟩
theorem sc_Last_days : FnScope ["self", "last", "first"] ["self", "last", "first"] (defScope s_Last_days) := C8.fnScope_by (by decide +kernel)
theorem ok_Last_days (T : Tx K mg) (b : Nat) : C8.Met P w K mg base 1 (He.ga K "Last") "days" (spMark K (.last b)) [] := by
  refine met_of T.cl_Last T.m_Last_days T.D_Last_days sc_Last_days (fun _ _ _ _ _ _ us hl => match us, hl with | [_, _, _], _ => rfl) (fun vs H Q E h => ?_) (fun cdv A outer s H vs Q E hr h => ?_)
  · obtain ⟨i, j, l, rfl, _⟩ := h
    rfl
  · obtain ⟨a, last, first, rfl, ⟨dx, hm⟩, ok, l1, l2, f1, f2, k⟩ := h
    refine ⟨_, (pss_cons (ps_if (pt_cmpR op_lt (pe_op op_sub (pv 1) (pe_fld (pv 0) rfl)) pe_int (nomark _)) (pss_one (ps_ret pe_int)) pss_nil)
      (pss_one (ps_ret (pe_op op_shlN pe_int (pe_op op_sub (pv 1) (pe_fld (pv 0) rfl)))))), ?_⟩
    have e : markDays last first (.last b) = if last - (b : Int) < 1 then 0 else 1 <<< (last - (b : Int)).toNat := rfl
    rw [e] at k
    refine ⟨_, rfl, _, rfl, a, _, dx, _, _, rfl, hm, T.cl_Last, T.n_Last_back, rfl, _, _, rfl, rfl, _, _, rfl, rfl, _, rfl, ?_⟩
    by_cases c : last - (b : Int) < 1
    · rw [if_pos c] at k
      exact iteDT c k
    · rw [if_neg c] at k
      exact iteDF c ⟨_, rfl, _, rfl, a, _, dx, _, _, rfl, hm, T.cl_Last, T.n_Last_back, rfl, _, _, rfl, rfl, 1, _, rfl, rfl, by omega, by omega, by decide, k⟩
theorem sc_Near_days : FnScope ["self", "last", "first", "on", "near"] ["self", "last", "first"] (defScope s_Near_days) := C8.fnScope_by (by decide +kernel)
theorem ok_Near_days (T : Tx K mg) (c_weekday_in : C8.Cal P w K mg base 1 "weekday_in" spWdIn []) (b : Nat) : C8.Met P w K mg base 2 (He.ga K "Near") "days" (spMark K (.near b)) [] := by
  refine met_of T.cl_Near T.m_Near_days T.D_Near_days sc_Near_days (fun _ _ _ _ _ _ us hl => match us, hl with | [_, _, _], _ => rfl) (fun vs H Q E h => ?_) (fun cdv A outer s H vs Q E hr h => ?_)
  · obtain ⟨i, j, l, rfl, _⟩ := h
    rfl
  · obtain ⟨a, last, first, rfl, ⟨dx, hm⟩, ok, l1, l2, f1, f2, k⟩ := h
    have ok' : 1 ≤ b := ok
    refine ⟨_, (pss_cons (ps_if (pt_cmpR op_gt (pe_fld (pv 0) rfl) (pv 1) (nomark _)) (pss_one (ps_ret pe_int)) pss_nil)
      (pss_cons (ps_set (i := 3) sc_Near_days.nd rfl (Or.inl rfl) (C8.pe_c c_weekday_in hr (by decide) rfl (pa_cons (pe_fld (pv 0) rfl) (pa_cons (pv 2) pa_nil))))
      (pss_cons (ps_set (i := 4) sc_Near_days.nd rfl (Or.inl rfl) (pe_fld (pv 0) rfl))
      (pss_cons (ps_if (pt_cmpR op_eq (pv 3) (C8.pe_gc rfl T.c_SATURDAY) (nomark _)) (pss_cons (ps_set (i := 4) sc_Near_days.nd rfl (Or.inl rfl) (pe_op op_sub (pe_fld (pv 0) rfl) pe_int))
      (pss_one (ps_if (pt_cmpR op_lt (pv 4) pe_int (nomark _)) (pss_one (ps_set (i := 4) sc_Near_days.nd rfl (Or.inl rfl) pe_int)) pss_nil))) pss_nil)
      (pss_cons (ps_if (pt_cmpR op_eq (pv 3) (C8.pe_gc rfl T.c_SUNDAY) (nomark _)) (pss_cons (ps_set (i := 4) sc_Near_days.nd rfl (Or.inl rfl) (pe_op op_add (pe_fld (pv 0) rfl) pe_int))
      (pss_one (ps_if (pt_cmpR op_gt (pv 4) (pv 1) (nomark _)) (pss_one (ps_set (i := 4) sc_Near_days.nd rfl (Or.inl rfl) (pe_op op_sub (pv 1) pe_int))) pss_nil))) pss_nil)
      (pss_one (ps_ret (pe_op op_shlN pe_int (pv 4))))))))), ?_⟩
    have e : markDays last first (.near b) = if (b : Int) > last then 0 else 1 <<< (nearB b last first).toNat := rfl
    rw [e] at k
    refine ⟨_, rfl, a, _, dx, _, _, rfl, hm, T.cl_Near, T.n_Near_day, rfl, _, rfl, _, _, rfl, rfl, _, rfl, ?_⟩
    by_cases c : (b : Int) > last
    · rw [if_pos c] at k
      exact iteDT c k
    rw [if_neg c] at k
    refine iteDF c ⟨_, rfl, a, _, dx, _, _, rfl, hm, T.cl_Near, T.n_Near_day, rfl, _, rfl, (b : Int), first, rfl, ?_⟩
    refine ⟨_, rfl, a, _, dx, _, _, rfl, hm, T.cl_Near, T.n_Near_day, rfl, ?_⟩
    refine ⟨_, rfl, rfl, _, rfl, ?_⟩
    -- behind the first if: near is nearA
    have rest : ∀ z : Int, z = nearA b first → 1 ≤ z → z ≤ 31 → ∀ Q' : L2.St → Hp → Prop, True := fun _ _ _ _ _ => True.intro
    have fin : ∀ z : Int, z = nearB b last first → 1 ≤ z → z ≤ 31 → ∃ (m : Nat) (y : Int), V.int 1 = V.int (m : Nat) ∧ V.int z = V.int y ∧ 0 ≤ y ∧ y ≤ 1000000 ∧ m < 2 ^ 64 ∧ Q (.int ((m <<< y.toNat : Nat) : Int)) H := fun z ez h1 h2 => by
      subst ez
      exact ⟨1, _, rfl, rfl, by omega, by omega, by decide, k⟩
    have second : ∀ z : Int, z = nearA b first → 1 ≤ z → z ≤ 31 →
        (∃ v, some (V.int (wdIn b first)) = some v ∧ ∃ k : Bool, True) := fun _ _ _ _ => ⟨_, rfl, true, True.intro⟩
    rw [iv]
    by_cases c6 : wdIn b first = 6
    · have c0 : ¬ wdIn b first = 0 := by omega
      refine iteDT c6 ⟨_, rfl, a, _, dx, _, _, rfl, hm, T.cl_Near, T.n_Near_day, rfl, _, _, rfl, rfl, ?_⟩
      refine ⟨_, rfl, _, _, rfl, rfl, _, rfl, ?_⟩
      by_cases cl : (b : Int) - 1 < 1
      · refine iteDT cl ⟨_, rfl, rfl, _, rfl, ?_⟩
        rw [iv]
        refine iteDF c0 ⟨_, rfl, fin 3 ?_ (by decide) (by decide)⟩
        unfold nearB nearA
        rw [if_neg c0, if_pos c6, if_pos cl]
      · refine iteDF cl ⟨_, rfl, rfl, _, rfl, ?_⟩
        rw [iv]
        refine iteDF c0 ⟨_, rfl, fin _ ?_ (by omega) (by omega)⟩
        unfold nearB nearA
        rw [if_neg c0, if_pos c6, if_neg cl]
    · refine iteDF c6 ⟨_, rfl, rfl, _, rfl, ?_⟩
      rw [iv]
      by_cases c0 : wdIn b first = 0
      · refine iteDT c0 ⟨_, rfl, a, _, dx, _, _, rfl, hm, T.cl_Near, T.n_Near_day, rfl, _, _, rfl, rfl, ?_⟩
        refine ⟨_, rfl, _, rfl, _, _, rfl, rfl, _, rfl, ?_⟩
        by_cases cl : (b : Int) + 1 > last
        · refine iteDT cl ⟨_, rfl, _, _, rfl, rfl, _, rfl, fin _ ?_ (by omega) (by omega)⟩
          unfold nearB
          rw [if_pos c0, if_pos cl]
        · refine iteDF cl ⟨_, rfl, fin _ ?_ (by omega) (by omega)⟩
          unfold nearB
          rw [if_pos c0, if_neg cl]
      · refine iteDF c0 ⟨_, rfl, fin _ ?_ (by omega) (by omega)⟩
        unfold nearB nearA
        rw [if_neg c0, if_neg c6]
theorem sc_LastWork_days : FnScope ["self", "last", "first", "on"] ["self", "last", "first"] (defScope s_LastWork_days) := C8.fnScope_by (by decide +kernel)
theorem ok_LastWork_days (T : Tx K mg) (c_weekday_in : C8.Cal P w K mg base 1 "weekday_in" spWdIn []) : C8.Met P w K mg base 2 (He.ga K "LastWork") "days" (spMark K .work) [] := by
  refine met_of T.cl_LastWork T.m_LastWork_days T.D_LastWork_days sc_LastWork_days (fun _ _ _ _ _ _ us hl => match us, hl with | [_, _, _], _ => rfl) (fun vs H Q E h => ?_) (fun cdv A outer s H vs Q E hr h => ?_)
  · obtain ⟨i, j, l, rfl, _⟩ := h
    rfl
  · obtain ⟨a, last, first, rfl, ⟨dx, hm⟩, ok, l1, l2, f1, f2, k⟩ := h
    refine ⟨_, (pss_cons (ps_set (i := 3) sc_LastWork_days.nd rfl (Or.inl rfl) (C8.pe_c c_weekday_in hr (by decide) rfl (pa_cons (pv 1) (pa_cons (pv 2) pa_nil))))
      (pss_cons (ps_if (pt_cmpR op_eq (pv 3) (C8.pe_gc rfl T.c_SATURDAY) (nomark _)) (pss_one (ps_ret (pe_op op_shlN pe_int (pe_op op_sub (pv 1) pe_int)))) pss_nil)
      (pss_cons (ps_if (pt_cmpR op_eq (pv 3) (C8.pe_gc rfl T.c_SUNDAY) (nomark _)) (pss_one (ps_ret (pe_op op_shlN pe_int (pe_op op_sub (pv 1) pe_int)))) pss_nil)
      (pss_one (ps_ret (pe_op op_shlN pe_int (pv 1))))))), ?_⟩
    have e : markDays last first .work = 1 <<< (workDay last first).toNat := rfl
    rw [e] at k
    unfold workDay at k
    refine ⟨_, rfl, _, rfl, last, first, rfl, ?_⟩
    refine ⟨_, rfl, rfl, _, rfl, ?_⟩
    rw [iv]
    by_cases c6 : wdIn last first = 6
    · rw [if_pos c6] at k
      exact iteDT c6 ⟨_, rfl, _, _, rfl, rfl, 1, _, rfl, rfl, by omega, by omega, by decide, k⟩
    · rw [if_neg c6] at k
      refine iteDF c6 ⟨_, rfl, rfl, _, rfl, ?_⟩
      rw [iv]
      by_cases c0 : wdIn last first = 0
      · rw [if_pos c0] at k
        exact iteDT c0 ⟨_, rfl, _, _, rfl, rfl, 1, _, rfl, rfl, by omega, by omega, by decide, k⟩
      · rw [if_neg c0] at k
        exact iteDF c0 ⟨_, rfl, 1, _, rfl, rfl, by omega, by omega, by decide, k⟩
theorem sc_Weekdays_days : FnScope ["self", "last", "first", "found", "day"] ["self", "last", "first"] (defScope s_Weekdays_days) := C8.fnScope_by (by decide +kernel)
theorem ok_Weekdays_days (T : Tx K mg) (c_weekday_in : C8.Cal P w K mg base 1 "weekday_in" spWdIn []) (m : Nat) : C8.Met P w K mg base 2 (He.ga K "Weekdays") "days" (spMark K (.wk m)) [] := by
  refine met_of T.cl_Weekdays T.m_Weekdays_days T.D_Weekdays_days sc_Weekdays_days (fun _ _ _ _ _ _ us hl => match us, hl with | [_, _, _], _ => rfl) (fun vs H Q E h => ?_) (fun cdv A outer s H vs Q E hr h => ?_)
  · obtain ⟨i, j, l, rfl, _⟩ := h
    rfl
  · obtain ⟨a, last, first, rfl, ⟨dx, hm⟩, ok, l1, l2, f1, f2, k⟩ := h
    refine ⟨_, (pss_cons (ps_set (i := 3) sc_Weekdays_days.nd rfl (Or.inl rfl) pe_int)
      (pss_cons (ps_for PassesOwn.never rfl (pi_range2 rfl T.f_range (pa_cons pe_int (pa_cons (pe_op op_add (pv 1) pe_int) pa_nil))) (pg_name (i := 4) sc_Weekdays_days.nd rfl (Or.inl rfl)) (pss_one (ps_if (pt_bit1 (pe_fld (pv 0) rfl) (C8.pe_c c_weekday_in hr (by decide) rfl (pa_cons (pv 4) (pa_cons (pv 2) pa_nil)))) (pss_one (ps_set (i := 3) sc_Weekdays_days.nd rfl (Or.inl rfl) (pe_op op_orN (pv 3) (pe_op op_shlN pe_int (pv 4))))) pss_nil)))
      (pss_one (ps_ret (pv 3))))), ?_⟩
    refine ⟨_, rfl, _, _, rfl, rfl, 1, last + 1, rfl, ⟨by decide, by decide, by omega, by omega⟩, ?_⟩
    refine for_range (lo := 1) (n := (last + 1 - 1).toNat) (fun i σ H' => H' = H ∧ ∃ v, σ = [some (.ref a), some (.int last), some (.int first), some (.int (wkMask m first i : Nat)), v]) ⟨rfl, _, rfl⟩ ?_ ?_
    · rintro i σ H' hi ⟨rfl, v, rfl⟩
      have ed : (1 : Int) + (i : Nat) = (i : Int) + 1 := by omega
      rw [ed]
      refine ⟨_, rfl, a, _, dx, _, _, rfl, hm, T.cl_Weekdays, T.n_Weekdays_mask, rfl, _, rfl, _, rfl, (i : Int) + 1, first, rfl, m, _, rfl, rfl, (by show 0 ≤ wdIn _ _; unfold wdIn; omega), ?_⟩
      refine ite2 (fun c => ?_) (fun c => ?_)
      · refine ⟨_, rfl, _, rfl, 1, (i : Int) + 1, rfl, rfl, by omega, by omega, by decide, _, _, rfl, rfl, rfl, some (.int ((i : Int) + 1)), ?_⟩
        rw [show wkMask m first (i + 1) = wkMask m first i ||| 1 <<< (i + 1) from if_pos c, show ((i : Int) + 1).toNat = i + 1 by omega]
        rfl
      · refine ⟨rfl, some (.int ((i : Int) + 1)), ?_⟩
        rw [show wkMask m first (i + 1) = wkMask m first i from if_neg c]
        rfl
    · rintro σ H' ⟨rfl, v, rfl⟩
      refine ⟨_, rfl, ?_⟩
      rw [show (last + 1 - 1).toNat = last.toNat by omega]
      exact k
theorem sc_Nth_days : FnScope ["self", "last", "first", "day"] ["self", "last", "first"] (defScope s_Nth_days) := C8.fnScope_by (by decide +kernel)
theorem ok_Nth_days (T : Tx K mg) (b n : Nat) : C8.Met P w K mg base 1 (He.ga K "Nth") "days" (spMark K (.nth b n)) [] := by
  refine met_of T.cl_Nth T.m_Nth_days T.D_Nth_days sc_Nth_days (fun _ _ _ _ _ _ us hl => match us, hl with | [_, _, _], _ => rfl) (fun vs H Q E h => ?_) (fun cdv A outer s H vs Q E hr h => ?_)
  · obtain ⟨i, j, l, rfl, _⟩ := h
    rfl
  · obtain ⟨a, last, first, rfl, ⟨dx, hm⟩, ok, l1, l2, f1, f2, k⟩ := h
    have ok' : 1 ≤ n := ok
    refine ⟨_, (pss_cons (ps_set (i := 3) sc_Nth_days.nd rfl (Or.inl rfl) (pe_op op_add (pe_op op_add pe_int (pe_op op_mod (pe_op op_sub (pe_fld (pv 0) rfl) (pv 2)) pe_int)) (pe_op op_mul pe_int (pe_op op_sub (pe_fld (pv 0) rfl) pe_int))))
      (pss_cons (ps_if (pt_cmpR op_gt (pv 3) (pv 1) (nomark _)) (pss_one (ps_ret pe_int)) pss_nil)
      (pss_one (ps_ret (pe_op op_shlN pe_int (pv 3)))))), ?_⟩
    have e : markDays last first (.nth b n) = if nthDay b n first > last then 0 else 1 <<< (nthDay b n first).toNat := rfl
    rw [e] at k
    have h1 : 1 ≤ nthDay b n first := by
      unfold nthDay
      omega
    refine ⟨_, rfl, a, _, dx, _, _, rfl, hm, T.cl_Nth, T.n_Nth_weekday, rfl, _, rfl, _, _, rfl, rfl, _, _, rfl, rfl, (by show (0 : Int) < 7; decide), _, _, rfl, rfl,
      _, rfl, a, _, dx, _, _, rfl, hm, T.cl_Nth, T.n_Nth_many, rfl, _, _, rfl, rfl, _, _, rfl, rfl, .inl ⟨by decide, by decide⟩, _, _, rfl, rfl, ?_⟩
    refine ⟨_, rfl, _, rfl, _, _, rfl, rfl, _, rfl, ?_⟩
    by_cases c : nthDay b n first > last
    · rw [if_pos c] at k
      exact iteDT c k
    · rw [if_neg c] at k
      exact iteDF c ⟨_, rfl, 1, nthDay b n first, rfl, rfl, by omega, by omega, by decide, k⟩
theorem sc_LastOne_days : FnScope ["self", "last", "first"] ["self", "last", "first"] (defScope s_LastOne_days) := C8.fnScope_by (by decide +kernel)
theorem ok_LastOne_days (T : Tx K mg) (c_weekday_in : C8.Cal P w K mg base 1 "weekday_in" spWdIn []) (b : Nat) : C8.Met P w K mg base 2 (He.ga K "LastOne") "days" (spMark K (.lastOne b)) [] := by
  refine met_of T.cl_LastOne T.m_LastOne_days T.D_LastOne_days sc_LastOne_days (fun _ _ _ _ _ _ us hl => match us, hl with | [_, _, _], _ => rfl) (fun vs H Q E h => ?_) (fun cdv A outer s H vs Q E hr h => ?_)
  · obtain ⟨i, j, l, rfl, _⟩ := h
    rfl
  · obtain ⟨a, last, first, rfl, ⟨dx, hm⟩, ok, l1, l2, f1, f2, k⟩ := h
    refine ⟨_, (pss_one (ps_ret (pe_op op_shlN pe_int (pe_op op_sub (pv 1) (pe_op op_mod (pe_op op_sub (C8.pe_c c_weekday_in hr (by decide) rfl (pa_cons (pv 1) (pa_cons (pv 2) pa_nil))) (pe_fld (pv 0) rfl)) pe_int))))), ?_⟩
    exact ⟨_, rfl, _, rfl, _, rfl, last, first, rfl, _, rfl, a, _, dx, _, _, rfl, hm, T.cl_LastOne, T.n_LastOne_weekday, rfl, _, _, rfl, rfl, _, _, rfl, rfl, (by show (0 : Int) < 7; decide), _, _, rfl, rfl, 1, last - (wdIn last first - (b : Int)) % 7, rfl, rfl, by omega, by omega, by decide, k⟩
theorem cM_of (T : Tx K mg) (c_weekday_in : C8.Cal P w K mg base 1 "weekday_in" spWdIn []) (m : Mk) : C8.Met P w K mg base 2 (mkC K m) "days" (spMark K m) [] := by
  have up : ∀ {C : Addr} {sp : Sp}, C8.Met P w K mg base 1 C "days" sp [] → C8.Met P w K mg base 2 C "days" sp [] := fun {C sp} h => by
    obtain ⟨f, fd, ps, ds, cl, me, F, b, dv⟩ := h.ex
    exact ⟨f, fd, ps, ds, cl, me, ⟨F.len, fun A o s H a b v Q E hr => F.run A o s H a b v Q E (hr.mono (by decide))⟩, b, dv⟩
  cases m with
  | num m => exact up (ok_Numbers_days T m)
  | last b => exact up (ok_Last_days T b)
  | near d => exact ok_Near_days T c_weekday_in d
  | work => exact ok_LastWork_days T c_weekday_in
  | wk m => exact ok_Weekdays_days T c_weekday_in m
  | nth w n => exact up (ok_Nth_days T w n)
  | lastOne w => exact ok_LastOne_days T c_weekday_in w
end
end K58
set_option Elab.async false
set_option maxRecDepth 100000
set_option maxHeartbeats 4000000
set_option linter.all false
namespace K58
open PySem PySem.Spec PyProof.Rows L2
section
variable {P : Program} {w : World} {K : PySem.W.Frag} {mg : Str → Option Value} {base : Heap}
theorem anyDays_snoc (last first : Int) (m : Mk) : ∀ (ms : List Mk) (f : Nat), anyDays last first (ms ++ [m]) f = anyDays last first ms f ||| markDays last first m
  | [], f => rfl
  | n :: ms, f => anyDays_snoc last first m ms _
theorem take_snoc {α : Type} {l : List α} {i : Nat} {x : α} (h : l[i]? = some x) : l.take (i + 1) = l.take i ++ [x] := by
  rw [List.take_add_one, h]
  rfl
theorem sc_any_days : FnScope ["marks", "last", "first", "found", "mark"] ["marks", "last", "first"] (defScope s_any_days) := C8.fnScope_by (by decide +kernel)
theorem ok_any_days (T : Tx K mg) (cM : ∀ m : Mk, C8.Met P w K mg base 2 (mkC K m) "days" (spMark K m) []) : C8.Cal P w K mg base 3 "any_days" (spAnyDays K) [] := by
  refine cal_of T.g_any_days T.D_any_days sc_any_days (fun _ _ _ _ _ _ us hl => match us, hl with | [_, _, _], _ => rfl) (fun vs H Q E h => ?_) (fun cdv A outer s H vs Q E hr h => ?_)
  · obtain ⟨i, j, l, a, b, rfl, _⟩ := h
    rfl
  · obtain ⟨l, as, ms, last, first, rfl, hl, hm, ok, l1, l2, f1, f2, k⟩ := h
    refine ⟨_, (pss_cons (ps_set (i := 3) sc_any_days.nd rfl (Or.inl rfl) pe_int)
      (pss_cons (ps_for PassesOwn.never rfl (pi_list (pv 0)) (pg_name (i := 4) sc_any_days.nd rfl (Or.inl rfl)) (pss_one (ps_set (i := 3) sc_any_days.nd rfl (Or.inl rfl) (pe_op op_orN (pv 3) (pe_days cM hr (by decide) (pv 4) (pa_cons (pv 1) (pa_cons (pv 2) pa_nil)))))))
      (pss_one (ps_ret (pv 3))))), ?_⟩
    refine ⟨_, rfl, l, rfl, ⟨_, .inl (.inl hl)⟩, ?_⟩
    refine for_list (K := K) (a := l) (xs := as.map V.ref) (fun i σ H' => H' = H ∧ ∃ v, σ = [some (.ref l), some (.int last), some (.int first), some (.int (anyDays last first (ms.take i) 0 : Nat)), v]) ⟨rfl, _, rfl⟩ (fun i σ H' _ ⟨e, _⟩ => by rw [e]; exact .inl (.inl hl)) ?_ ?_
    · rintro i x σ H' hi ⟨rfl, v, rfl⟩
      rw [List.getElem?_map] at hi
      cases ea : as[i]? with
      | none =>
        rw [ea] at hi
        cases hi
      | some a =>
        rw [ea] at hi
        obtain rfl : V.ref a = x := Option.some.inj hi
        obtain ⟨m, em, am⟩ := hm.get ea
        have mm : m ∈ ms := List.mem_of_getElem? em
        refine ⟨_, rfl, _, rfl, a, m, rfl, am, _, rfl, _, rfl, a, last, first, rfl, am, ok m mm, l1, l2, f1, f2, _, _, rfl, rfl, rfl, some (.ref a), ?_⟩
        rw [take_snoc em, anyDays_snoc]
        rfl
    · rintro σ H' ⟨rfl, v, rfl⟩
      refine ⟨_, rfl, ?_⟩
      rw [List.length_map, hm.len, List.take_length]
      exact k
theorem sc_Row_minutes : FnScope ["self"] ["self"] (defScope s_Row_minutes) := C8.fnScope_by (by decide +kernel)
theorem ok_Row_minutes (T : Tx K mg) : C8.Met P w K mg base 1 (He.ga K "Row") "minutes" (spMin K) [] := by
  refine met_of T.cl_Row T.m_Row_minutes T.D_Row_minutes sc_Row_minutes (fun _ _ _ _ _ _ us hl => match us, hl with | [_], _ => rfl) (fun vs H Q E h => ?_) (fun cdv A outer s H vs Q E hr h => ?_)
  · obtain ⟨i, j, rfl, _⟩ := h
    rfl
  · obtain ⟨p, d, rfl, ⟨⟨dx, v, w', h1, _, _⟩, _⟩, k⟩ := h
    refine ⟨_, (pss_one (ps_ret (pe_fld (pv 0) rfl))), ?_⟩
    exact ⟨_, rfl, p, _, dx, _, _, rfl, h1, T.cl_Row, T.n_Row_minute_mask, rfl, k⟩
theorem sc_Row_hours : FnScope ["self"] ["self"] (defScope s_Row_hours) := C8.fnScope_by (by decide +kernel)
theorem ok_Row_hours (T : Tx K mg) : C8.Met P w K mg base 1 (He.ga K "Row") "hours" (spHrs K) [] := by
  refine met_of T.cl_Row T.m_Row_hours T.D_Row_hours sc_Row_hours (fun _ _ _ _ _ _ us hl => match us, hl with | [_], _ => rfl) (fun vs H Q E h => ?_) (fun cdv A outer s H vs Q E hr h => ?_)
  · obtain ⟨i, j, rfl, _⟩ := h
    rfl
  · obtain ⟨p, d, rfl, ⟨⟨dx, v, w', h1, _, _⟩, _⟩, k⟩ := h
    refine ⟨_, (pss_one (ps_ret (pe_fld (pv 0) rfl))), ?_⟩
    exact ⟨_, rfl, p, _, dx, _, _, rfl, h1, T.cl_Row, T.n_Row_hour_mask, rfl, k⟩
theorem sc_Row_months : FnScope ["self"] ["self"] (defScope s_Row_months) := C8.fnScope_by (by decide +kernel)
theorem ok_Row_months (T : Tx K mg) : C8.Met P w K mg base 1 (He.ga K "Row") "months" (spMos K) [] := by
  refine met_of T.cl_Row T.m_Row_months T.D_Row_months sc_Row_months (fun _ _ _ _ _ _ us hl => match us, hl with | [_], _ => rfl) (fun vs H Q E h => ?_) (fun cdv A outer s H vs Q E hr h => ?_)
  · obtain ⟨i, j, rfl, _⟩ := h
    rfl
  · obtain ⟨p, d, rfl, ⟨⟨dx, v, w', h1, _, _⟩, _⟩, k⟩ := h
    refine ⟨_, (pss_one (ps_ret (pe_fld (pv 0) rfl))), ?_⟩
    exact ⟨_, rfl, p, _, dx, _, _, rfl, h1, T.cl_Row, T.n_Row_month_mask, rfl, k⟩
theorem sc_numbers_in : FnScope ["mask", "found", "number"] ["mask"] (defScope s_numbers_in) := C8.fnScope_by (by decide +kernel)
theorem ok_numbers_in (T : Tx K mg) : C8.Cal P w K mg base 1 "numbers_in" spNums [] := by
  refine cal_of T.g_numbers_in T.D_numbers_in sc_numbers_in (fun _ _ _ _ _ _ us hl => match us, hl with | [_], _ => rfl) (fun vs H Q E h => ?_) (fun cdv A outer s H vs Q E hr h => ?_)
  · obtain ⟨i, rfl, _⟩ := h
    rfl
  · obtain ⟨m, rfl, hm, k⟩ := h
    refine ⟨_, (pss_cons (ps_set (i := 1) sc_numbers_in.nd rfl (Or.inl rfl) (pe_lstS pa_nil))
      (pss_cons (ps_set (i := 2) sc_numbers_in.nd rfl (Or.inl rfl) pe_int)
      (pss_cons (ps_while PassesOwn.never (pt_cmpR op_gt (pe_op op_shrN (pv 0) (pv 2)) pe_int (nomark _)) (pss_cons (ps_if (pt_bit1 (pv 0) (pv 2)) (pss_one (ps_expr (pe_bm PySem.F.plainAttrs_list PySem.F.slot_list_append PySem.F.type_list_append mt_append (pv 1) (pa_cons (pv 2) pa_nil)))) pss_nil)
      (pss_one (ps_set (i := 2) sc_numbers_in.nd rfl (Or.inl rfl) (pe_op op_add (pv 2) pe_int)))))
      (pss_one (ps_ret (pv 1)))))), ?_⟩
    refine ⟨Nat.zero_le _, fun l H0 s0 hl e0 => ?_⟩
    refine ⟨fun c σ H' => ∃ n : Nat, c = 64 - n ∧ n ≤ 64 ∧ Same H H' ∧ H' l = some (.lst ((nums m n).map fun j => V.int (j : Nat))) ∧ σ = [some (.int m), some (.ref l), some (.int (n : Nat))], ⟨64, 0, rfl, by decide, s0, e0, rfl⟩, ?_⟩
    rintro c σ H' ⟨n, rfl, hn, s1, e1, rfl⟩
    refine ⟨_, rfl, _, rfl, m, (n : Int), rfl, rfl, by omega, _, _, rfl, rfl, _, rfl, ?_⟩
    rw [Int.toNat_natCast]
    by_cases c : m >>> n = 0
    · rw [c]
      refine iteDF (by decide) ⟨_, rfl, k l (nums m n) H' s1 e1 (fun j => nums_mem c) (Nat.le_trans (nums_len m n) hn)⟩
    · have hn2 : n < 64 := by
        by_cases q : n < 64
        · exact q
        · exact absurd (shr_zero hm (by omega)) c
      refine iteDT (Int.natCast_pos.mpr (Nat.pos_of_ne_zero c)) (again ?_)
      refine ⟨_, rfl, _, rfl, m, (n : Int), rfl, rfl, by omega, ?_⟩
      rw [Int.toNat_natCast]
      have es := nums_succ m n
      refine ite2 (fun c => ?_) (fun c => ?_)
      · rw [show m.testBit n = true from c, if_pos rfl] at es
        refine ⟨_, rfl, .inl ⟨rfl, _, .inl (.inl e1)⟩, _, rfl, l, _, _, rfl, rfl, e1, ?_, _, rfl, _, _, rfl, rfl, 64 - (n + 1), by omega, n + 1, rfl, hn2, same_upd2 s1 hl, ?_, rfl⟩
        · rw [List.length_map]
          exact small1000 (by have := nums_len m n; omega)
        · rw [upd_same, es, List.map_append]
          rfl
      · rw [show m.testBit n = false from Bool.eq_false_iff.mpr c] at es
        refine ⟨_, rfl, _, _, rfl, rfl, 64 - (n + 1), by omega, n + 1, rfl, hn2, s1, ?_, rfl⟩
        rw [es]
        exact e1
theorem tmask_snoc (mi h : Nat) : ∀ (hs : List Nat) (f : Nat), tmask mi (hs ++ [h]) f = tmask mi hs f ||| mi <<< (60 * h)
  | [], f => rfl
  | g :: hs, f => tmask_snoc mi h hs _
theorem sc_Row_times : FnScope ["self", "found", "hour"] ["self"] (defScope s_Row_times) := C8.fnScope_by (by decide +kernel)
theorem ok_Row_times (T : Tx K mg) (c_numbers_in : C8.Cal P w K mg base 1 "numbers_in" spNums []) : C8.Met P w K mg base 2 (He.ga K "Row") "times" (spTimes K) [] := by
  refine met_of T.cl_Row T.m_Row_times T.D_Row_times sc_Row_times (fun _ _ _ _ _ _ us hl => match us, hl with | [_], _ => rfl) (fun vs H Q E h => ?_) (fun cdv A outer s H vs Q E hr h => ?_)
  · obtain ⟨i, j, rfl, _⟩ := h
    rfl
  · obtain ⟨p, d, rfl, ⟨⟨dx, v, w', h1, _, _⟩, ok⟩, k⟩ := h
    refine ⟨_, (pss_cons (ps_set (i := 1) sc_Row_times.nd rfl (Or.inl rfl) pe_int)
      (pss_cons (ps_for PassesOwn.never rfl (pi_list (C8.pe_c c_numbers_in hr (by decide) rfl (pa_cons (pe_fld (pv 0) rfl) pa_nil))) (pg_name (i := 2) sc_Row_times.nd rfl (Or.inl rfl)) (pss_one (ps_set (i := 1) sc_Row_times.nd rfl (Or.inl rfl) (pe_op op_orN (pv 1) (pe_op op_shlN (pe_fld (pv 0) rfl) (pe_op op_mul (C8.pe_gc rfl T.c_MINUTES) (pv 2)))))))
      (pss_one (ps_ret (pv 1))))), ?_⟩
    have hh : d.ho < 2 ^ 64 := Nat.lt_trans ok.ho2 (by decide)
    refine ⟨_, rfl, p, _, dx, _, _, rfl, h1, T.cl_Row, T.n_Row_hour_mask, rfl, d.ho, rfl, hh, fun l ns H1 s1 e1 mem len => ?_⟩
    have h1' := s1 _ _ h1
    refine ⟨l, rfl, ⟨_, .inl (.inl e1)⟩, ?_⟩
    refine for_list (K := K) (a := l) (xs := ns.map fun n => V.int (n : Nat)) (fun i σ H' => H' = H1 ∧ ∃ v, σ = [some (.ref p), some (.int (tmask d.mi (ns.take i) 0 : Nat)), v]) ⟨rfl, _, rfl⟩ (fun i σ H' _ ⟨e, _⟩ => by rw [e]; exact .inl (.inl e1)) ?_ ?_
    · rintro i x σ H' hi ⟨rfl, v, rfl⟩
      rw [List.getElem?_map] at hi
      cases ea : ns[i]? with
      | none =>
        rw [ea] at hi
        cases hi
      | some a =>
        rw [ea] at hi
        obtain rfl : V.int (a : Nat) = x := Option.some.inj hi
        have ha : d.ho.testBit a = true := (mem a).mp (List.mem_of_getElem? ea)
        have hb : a < 24 := by
          by_cases q : a < 24
          · exact q
          · rw [Nat.testBit_lt_two_pow (Nat.lt_of_lt_of_le ok.ho2 (Nat.pow_le_pow_right (by decide) (by omega)))] at ha
            cases ha
        refine ⟨_, rfl, _, rfl, p, _, dx, _, _, rfl, h1', T.cl_Row, T.n_Row_minute_mask, rfl, _, rfl, _, _, rfl, rfl, .inl ⟨by decide, by decide⟩, d.mi, 60 * (a : Int), rfl, rfl, by omega, by omega, Nat.lt_trans ok.mi2 (by decide), _, _, rfl, rfl, rfl, some (.int (a : Nat)), ?_⟩
        rw [take_snoc ea, tmask_snoc, show (60 * (a : Int)).toNat = 60 * a by omega]
        rfl
    · rintro σ H' ⟨rfl, v, rfl⟩
      refine ⟨_, rfl, ?_⟩
      rw [List.length_map, List.take_length]
      refine k _ H' s1 fun z hz => ?_
      rw [tmask_bit ok.mi2]
      have e0 : (0 : Nat).testBit z = false := by simp
      rw [e0, Bool.false_or]
      show _ = (d.ho.testBit (z / 60) && d.mi.testBit (z % 60))
      congr 1
      cases q : d.ho.testBit (z / 60) with
      | true => exact List.any_eq_true.mpr ⟨z / 60, (mem _).mpr q, decide_eq_true rfl⟩
      | false =>
        refine List.any_eq_false.mpr fun x hx c => ?_
        have := of_decide_eq_true c
        subst this
        rw [(mem _).mp hx] at q
        cases q
theorem sc_Row_days_in : FnScope ["self", "kind", "month", "last", "first", "found", "marks"] ["self", "kind"] (defScope s_Row_days_in) := C8.fnScope_by (by decide +kernel)
theorem ok_Row_days_in (T : Tx K mg) (c_month_at : C8.Cal P w K mg base 3 "month_at" spMonthAt []) (c_any_days : C8.Cal P w K mg base 3 "any_days" (spAnyDays K) []) : C8.Met P w K mg base 4 (He.ga K "Row") "days_in" (spDaysIn K) [] := by
  refine met_of T.cl_Row T.m_Row_days_in T.D_Row_days_in sc_Row_days_in (fun _ _ _ _ _ _ us hl => match us, hl with | [_, _], _ => rfl) (fun vs H Q E h => ?_) (fun cdv A outer s H vs Q E hr h => ?_)
  · obtain ⟨i, j, l, rfl, _⟩ := h
    rfl
  · obtain ⟨p, d, kd, rfl, ⟨⟨dx, v, w', h1, hv, hw⟩, ok⟩, k0, k1, k⟩ := h
    refine ⟨_, (pss_cons (ps_asg (C8.pe_c c_month_at hr (by decide) rfl (pa_cons (pv 1) pa_nil)) (pg_tup rfl (pgs_cons (pg_name (i := 2) sc_Row_days_in.nd rfl (Or.inl rfl)) (pgs_cons (pg_name (i := 3) sc_Row_days_in.nd rfl (Or.inl rfl)) (pgs_cons (pg_name (i := 4) sc_Row_days_in.nd rfl (Or.inl rfl)) pgs_nil)))))
      (pss_cons (ps_if (pt_bit0 (pe_fld (pv 0) rfl) (pv 2)) (pss_one (ps_ret pe_int)) pss_nil)
      (pss_cons (ps_if (pt_done (PW.pt (pw_and (pt_cmpR op_isN (pe_fld (pv 0) rfl) pe_non (nomark _)) (pw_and1 (pt_cmpR op_isN (pe_fld (pv 0) rfl) pe_non (nomark _)))))) (pss_one (ps_ret (pe_op op_sub (pe_op op_shlN pe_int (pe_op op_add (pv 3) pe_int)) pe_int))) pss_nil)
      (pss_cons (ps_set (i := 5) sc_Row_days_in.nd rfl (Or.inl rfl) pe_int)
      (pss_cons (ps_for PassesOwn.never rfl (pi_tup (pe_tupS (pa_cons (pe_fld (pv 0) rfl) (pa_cons (pe_fld (pv 0) rfl) pa_nil)))) (pg_name (i := 6) sc_Row_days_in.nd rfl (Or.inl rfl)) (pss_one (ps_if (pt_cmpR op_notN (pv 6) pe_non (nomark _)) (pss_one (ps_set (i := 5) sc_Row_days_in.nd rfl (Or.inl rfl) (pe_op op_orN (pv 5) (C8.pe_c c_any_days hr (by decide) rfl (pa_cons (pv 6) (pa_cons (pv 3) (pa_cons (pv 4) pa_nil))))))) pss_nil)))
      (pss_one (ps_ret (pv 5)))))))), ?_⟩
    have kl := kLen_range kd
    have kf : 0 ≤ kFirst kd ∧ kFirst kd ≤ 6 := by
      unfold kFirst
      omega
    have km : 0 ≤ kMonth kd := by
      unfold kMonth
      split <;> omega
    have k' : ∀ H', Same H H' → Q (.int ((if d.mo.testBit (kMonth kd).toNat = false then 0 else match d.dm, d.wm with
      | none, none => (1 <<< (kLen kd + 1).toNat) - 2
      | a, b => optDays (kLen kd) (kFirst kd) (optDays (kLen kd) (kFirst kd) 0 a) b : Nat) : Int)) H' := k
    refine ⟨_, rfl, kd, rfl, k0, k1, fun q H1 s1 e1 => ⟨q, _, rfl, .inl (.inl e1), rfl, _, _, rfl, _, _, rfl, _, _, rfl, rfl, ?_⟩⟩
    have h1' := s1 _ _ h1
    refine ⟨_, rfl, p, _, dx, _, _, rfl, h1', T.cl_Row, T.n_Row_month_mask, rfl, _, rfl, d.mo, kMonth kd, rfl, rfl, km, ?_⟩
    cases hmo : d.mo.testBit (kMonth kd).toNat with
    | false =>
      rw [hmo] at k'
      exact iteT (k' H1 s1)
    | true =>
      rw [hmo] at k'
      refine iteF ?_
      have body : ∀ (o : Option (List Mk)) (x : V) (f : Nat) (H' : Hp), MarksAt K H' x o → (∀ ms, o = some ms → ∀ m ∈ ms, m.Ok) → (x = .non ∧ optDays (kLen kd) (kFirst kd) f o = f) ∨
          ∃ l as ms, x = .ref l ∧ H' l = some (.lst (as.map V.ref)) ∧ MarksIn K H' as ms ∧ (∀ m ∈ ms, m.Ok) ∧ optDays (kLen kd) (kFirst kd) f o = f ||| anyDays (kLen kd) (kFirst kd) ms 0 := fun o x f H' hx ho => by
        cases o with
        | none => exact .inl ⟨hx, rfl⟩
        | some ms =>
          obtain ⟨l, as, e, a1, a2, _⟩ := hx
          exact .inr ⟨l, as, ms, e, a1, a2, ho ms rfl, rfl⟩
      have nn : ∀ {o : Option (List Mk)} {x : V}, MarksAt K H x o → (x = .non ↔ o = none) := fun {o x} hx => by
        cases o with
        | none => exact ⟨fun _ => rfl, fun _ => hx⟩
        | some ms =>
          obtain ⟨l, as, e, _⟩ := hx
          rw [e]
          exact ⟨fun z => (by cases z), fun z => (by cases z)⟩
      by_cases both : d.dm = none ∧ d.wm = none
      · refine ⟨true, H1, fun Q' q' => ?_, iteT ?_⟩
        · refine ⟨_, rfl, p, _, dx, _, _, rfl, h1', T.cl_Row, T.n_Row_day_marks, rfl, rfl, _, rfl, iteDT ((nn hv).mpr both.1) ?_⟩
          refine ⟨_, rfl, p, _, dx, _, _, rfl, h1', T.cl_Row, T.n_Row_weekday_marks, rfl, rfl, _, rfl, ?_⟩
          rw [(nn hw).mpr both.2]
          exact q'
        refine ⟨_, rfl, _, _, rfl, rfl, 1, kLen kd + 1, rfl, rfl, by omega, by omega, by decide, _, _, rfl, rfl, ?_⟩
        have z := k' H1 s1
        rw [both.1, both.2] at z
        have e : ((1 <<< (kLen kd + 1).toNat : Nat) : Int) - (2 : Int) = ((1 <<< (kLen kd + 1).toNat - 2 : Nat) : Int) := by
          have : 2 ^ 1 ≤ 2 ^ (kLen kd + 1).toNat := Nat.pow_le_pow_right (by decide) (by omega)
          rw [Nat.shiftLeft_eq, Nat.one_mul]
          omega
        show Q (.int (((1 <<< (kLen kd + 1).toNat : Nat) : Int) - (2 : Int))) H1
        rw [e]
        exact z
      · have loop : ∀ H', Same H H' → Q (.int (optDays (kLen kd) (kFirst kd) (optDays (kLen kd) (kFirst kd) 0 d.dm) d.wm : Nat)) H' := fun H' s' => by
          have z := k' H' s'
          obtain ⟨mi, ho, mo, dm, wm⟩ := d
          cases dm with
          | some a => exact z
          | none =>
            cases wm with
            | some b => exact z
            | none => exact absurd ⟨rfl, rfl⟩ both
        refine ⟨false, H1, fun Q' q' => ?_, iteF ?_⟩
        · refine ⟨_, rfl, p, _, dx, _, _, rfl, h1', T.cl_Row, T.n_Row_day_marks, rfl, rfl, _, rfl, ?_⟩
          by_cases cv : v = .non
          · refine iteDT cv ⟨_, rfl, p, _, dx, _, _, rfl, h1', T.cl_Row, T.n_Row_weekday_marks, rfl, rfl, _, rfl, ?_⟩
            rw [decide_eq_false fun cw => both ⟨(nn hv).mp cv, (nn hw).mp cw⟩]
            exact q'
          · exact iteDF cv q'
        refine ⟨_, rfl, p, _, dx, _, _, rfl, h1', T.cl_Row, T.n_Row_day_marks, rfl, _, rfl, p, _, dx, _, _, rfl, h1', T.cl_Row, T.n_Row_weekday_marks, rfl, (by show 2 ≤ sizeLine; decide), fun t H2 s2 _ e2 => ?_⟩
        refine ⟨t, rfl, ⟨_, .inl (.inl e2)⟩, ?_⟩
        have s12 := s1.trans s2
        refine for_tup (K := K) (a := t) (xs := [v, w']) (fun i σ H' => H' = H2 ∧ ∃ y, σ = [some (.ref p), some (.int kd), some (.int (kMonth kd)), some (.int (kLen kd)), some (.int (kFirst kd)),
            some (.int ((if i = 0 then 0 else if i = 1 then optDays (kLen kd) (kFirst kd) 0 d.dm else optDays (kLen kd) (kFirst kd) (optDays (kLen kd) (kFirst kd) 0 d.dm) d.wm : Nat) : Int)), y]) ⟨rfl, _, rfl⟩ (fun i σ H' _ ⟨e, _⟩ => by rw [e]; exact .inl (.inl e2)) ?_ ?_
        · rintro i x σ H' hi ⟨rfl, y, rfl⟩
          have all : ∃ (o : Option (List Mk)), MarksAt K H' x o ∧ (∀ ms, o = some ms → ∀ m ∈ ms, m.Ok) ∧ (if i + 1 = 0 then 0 else if i + 1 = 1 then optDays (kLen kd) (kFirst kd) 0 d.dm else optDays (kLen kd) (kFirst kd) (optDays (kLen kd) (kFirst kd) 0 d.dm) d.wm) =
              optDays (kLen kd) (kFirst kd) (if i = 0 then 0 else if i = 1 then optDays (kLen kd) (kFirst kd) 0 d.dm else optDays (kLen kd) (kFirst kd) (optDays (kLen kd) (kFirst kd) 0 d.dm) d.wm) o := by
            match i, hi with
            | 0, hi =>
              obtain rfl : v = x := Option.some.inj hi
              exact ⟨d.dm, hv.same s12, ok.dm1, rfl⟩
            | 1, hi =>
              obtain rfl : w' = x := Option.some.inj hi
              exact ⟨d.wm, hw.same s12, ok.wm1, rfl⟩
            | n + 2, hi => simp at hi
          obtain ⟨o, hx, ho, hg⟩ := all
          refine ⟨_, rfl, rfl, _, rfl, ?_⟩
          rcases body o x (if i = 0 then 0 else if i = 1 then optDays (kLen kd) (kFirst kd) 0 d.dm else optDays (kLen kd) (kFirst kd) (optDays (kLen kd) (kFirst kd) 0 d.dm) d.wm) H' hx ho with ⟨e, eo⟩ | ⟨l, as, ms, rfl, a1, a2, a3, eo⟩
          · rw [e]
            refine iteNT rfl ⟨rfl, some .non, ?_⟩
            rw [hg, eo]
            rfl
          · refine iteNF (by intro z; cases z) ⟨_, rfl, _, rfl, _, rfl, _, rfl, l, as, ms, _, _, rfl, a1, a2, a3, kl.1, kl.2, kf.1, kf.2, _, _, rfl, rfl, rfl, some (.ref l), ?_⟩
            rw [hg, eo]
            rfl
        · rintro σ H' ⟨rfl, y, rfl⟩
          exact ⟨_, rfl, loop H' s12⟩
theorem shut_at (r : Rw) (t : Int) : shut r t = if moOk r (t / 1440) = false then some .mo else if dyOk r (t / 1440) = false then some .dy else if hoOk r t = false then some .ho else if miOk r t = false then some .mi else none := rfl
theorem sc_Row_shut_by : FnScope ["self", "moment", "day", "hour", "minute", "year", "month", "date"] ["self", "moment"] (defScope s_Row_shut_by) := C8.fnScope_by (by decide +kernel)
theorem ok_Row_shut_by (T : Tx K mg) (c_parted : C8.Cal P w K mg base 1 "parted" spParted []) (c_date_of : C8.Cal P w K mg base 3 "date_of" spDateOf []) (c_kind_of : C8.Cal P w K mg base 4 "kind_of" spKindOf []) (c_Row_days_in : C8.Met P w K mg base 4 (He.ga K "Row") "days_in" (spDaysIn K) []) : C8.Met P w K mg base 5 (He.ga K "Row") "shut_by" (spShutBy K) [] := by
  refine met_of T.cl_Row T.m_Row_shut_by T.D_Row_shut_by sc_Row_shut_by (fun _ _ _ _ _ _ us hl => match us, hl with | [_, _], _ => rfl) (fun vs H Q E h => ?_) (fun cdv A outer s H vs Q E hr h => ?_)
  · obtain ⟨i, j, l, rfl, _⟩ := h
    rfl
  · obtain ⟨p, d, t, rfl, R, k⟩ := h
    refine ⟨_, (pss_cons (ps_asg (C8.pe_c c_parted hr (by decide) rfl (pa_cons (pv 1) pa_nil)) (pg_tup rfl (pgs_cons (pg_name (i := 2) sc_Row_shut_by.nd rfl (Or.inl rfl)) (pgs_cons (pg_name (i := 3) sc_Row_shut_by.nd rfl (Or.inl rfl)) (pgs_cons (pg_name (i := 4) sc_Row_shut_by.nd rfl (Or.inl rfl)) pgs_nil)))))
      (pss_cons (ps_asg (C8.pe_c c_date_of hr (by decide) rfl (pa_cons (pv 2) pa_nil)) (pg_tup rfl (pgs_cons (pg_name (i := 5) sc_Row_shut_by.nd rfl (Or.inl rfl)) (pgs_cons (pg_name (i := 6) sc_Row_shut_by.nd rfl (Or.inl rfl)) (pgs_cons (pg_name (i := 7) sc_Row_shut_by.nd rfl (Or.inl rfl)) pgs_nil)))))
      (pss_cons (ps_if (pt_bit0 (pe_fld (pv 0) rfl) (pv 6)) (pss_one (ps_ret pe_str)) pss_nil)
      (pss_cons (ps_if (pt_bit0 (C8.pe_mt c_Row_days_in hr (by decide) (pv 0) (pa_cons (C8.pe_c c_kind_of hr (by decide) rfl (pa_cons (pv 5) (pa_cons (pv 6) pa_nil))) pa_nil)) (pv 7)) (pss_one (ps_ret pe_str)) pss_nil)
      (pss_cons (ps_if (pt_bit0 (pe_fld (pv 0) rfl) (pv 3)) (pss_one (ps_ret pe_str)) pss_nil)
      (pss_cons (ps_if (pt_bit0 (pe_fld (pv 0) rfl) (pv 4)) (pss_one (ps_ret pe_str)) pss_nil)
      (pss_one (ps_ret pe_non)))))))), ?_⟩
    refine ⟨_, rfl, t, rfl, fun q1 H1 s1 e1 => ⟨q1, _, rfl, .inl (.inl e1), rfl, _, _, rfl, _, _, rfl, _, _, rfl, rfl, ?_⟩⟩
    refine ⟨_, rfl, _, rfl, fun q2 H2 s2 e2 => ⟨q2, _, rfl, .inl (.inl e2), rfl, _, _, rfl, _, _, rfl, _, _, rfl, rfl, ?_⟩⟩
    have s12 := s1.trans s2
    have R2 := R.same s12
    obtain ⟨⟨dx, v, w', h1, _, _⟩, _⟩ := id R2
    have dr := domOf_range (t / 1440)
    refine ⟨_, rfl, p, _, dx, _, _, rfl, h1, T.cl_Row, T.n_Row_month_mask, rfl, _, rfl, d.mo, monthOf (t / 1440) % 12 + 1, rfl, rfl, by omega, ?_⟩
    rw [shut_at] at k
    cases c1 : d.mo.testBit (monthOf (t / 1440) % 12 + 1).toNat with
    | false =>
      rw [if_pos (show moOk d.rw (t / 1440) = false from c1)] at k
      exact iteT (k H2 s12)
    | true =>
      rw [if_neg (show ¬ moOk d.rw (t / 1440) = false from fun z => by rw [show moOk d.rw (t / 1440) = true from c1] at z; cases z)] at k
      refine iteF ⟨_, rfl, p, dx, _, rfl, h1, rfl, _, rfl, _, rfl, _, rfl, fun H3 s3 => ?_⟩
      have kr := kind_range (monthOf (t / 1440))
      refine ⟨p, d, _, rfl, R2.same s3, kr.1, kr.2, fun H4 s4 => ⟨_, rfl, d.rw.dy _, domOf (t / 1440), rfl, rfl, by omega, ?_⟩⟩
      have s14 := (s12.trans s3).trans s4
      obtain ⟨⟨dx4, v4, w4, h4, _, _⟩, _⟩ := R.same s14
      cases c2 : (d.rw.dy (kindOf (monthOf (t / 1440)))).testBit (domOf (t / 1440)).toNat with
      | false =>
        rw [if_pos (show dyOk d.rw (t / 1440) = false from c2)] at k
        exact iteT (k H4 s14)
      | true =>
        rw [if_neg (show ¬ dyOk d.rw (t / 1440) = false from fun z => by rw [show dyOk d.rw (t / 1440) = true from c2] at z; cases z)] at k
        refine iteF ⟨_, rfl, p, _, dx4, _, _, rfl, h4, T.cl_Row, T.n_Row_hour_mask, rfl, _, rfl, d.ho, t % 1440 / 60, rfl, rfl, by omega, ?_⟩
        cases c3 : d.ho.testBit (t % 1440 / 60).toNat with
        | false =>
          rw [if_pos (show hoOk d.rw t = false from c3)] at k
          exact iteT (k H4 s14)
        | true =>
          rw [if_neg (show ¬ hoOk d.rw t = false from fun z => by rw [show hoOk d.rw t = true from c3] at z; cases z)] at k
          refine iteF ⟨_, rfl, p, _, dx4, _, _, rfl, h4, T.cl_Row, T.n_Row_minute_mask, rfl, _, rfl, d.mi, t % 1440 % 60, rfl, rfl, by omega, ?_⟩
          cases c4 : d.mi.testBit (t % 1440 % 60).toNat with
          | false =>
            rw [if_pos (show miOk d.rw t = false from c4)] at k
            exact iteT (k H4 s14)
          | true =>
            rw [if_neg (show ¬ miOk d.rw t = false from fun z => by rw [show miOk d.rw t = true from c4] at z; cases z)] at k
            exact iteF (k H4 s14)
theorem sc_Row_holds : FnScope ["self", "moment"] ["self", "moment"] (defScope s_Row_holds) := C8.fnScope_by (by decide +kernel)
theorem fV_non {o : Option F} : decide (fV o = .non) = decide (o = none) := by
  cases o with
  | none => rfl
  | some f => cases f <;> rfl
theorem ok_Row_holds (T : Tx K mg) (c_Row_shut_by : C8.Met P w K mg base 5 (He.ga K "Row") "shut_by" (spShutBy K) []) : C8.Met P w K mg base 6 (He.ga K "Row") "holds" (spHolds K) [] := by
  refine met_of T.cl_Row T.m_Row_holds T.D_Row_holds sc_Row_holds (fun _ _ _ _ _ _ us hl => match us, hl with | [_, _], _ => rfl) (fun vs H Q E h => ?_) (fun cdv A outer s H vs Q E hr h => ?_)
  · obtain ⟨i, j, l, rfl, _⟩ := h
    rfl
  · obtain ⟨p, d, t, rfl, R, k⟩ := h
    obtain ⟨⟨dx, v, w', h1, _, _⟩, _⟩ := id R
    refine ⟨_, (pss_one (ps_ret (pe_cmpR op_isN (C8.pe_mt c_Row_shut_by hr (by decide) (pv 0) (pa_cons (pv 1) pa_nil)) pe_non (nomark _)))), ?_⟩
    refine ⟨_, rfl, p, dx, _, rfl, h1, rfl, _, rfl, p, d, t, rfl, R, fun H1 s1 => ⟨rfl, ?_⟩⟩
    have z := k H1 s1
    rw [← fV_non] at z
    exact z
end
end K58
set_option Elab.async false
set_option maxRecDepth 100000
set_option maxHeartbeats 4000000
set_option linter.all false
namespace K58
open PySem PySem.Spec PyProof.Rows L2
section
variable {P : Program} {w : World} {K : PySem.W.Frag} {mg : Str → Option Value} {base : Heap}
theorem sc_is_shut_day : FnScope ["row", "number", "year", "month", "day"] ["row", "number"] (defScope s_is_shut_day) := C8.fnScope_by (by decide +kernel)
theorem ok_is_shut_day (T : Tx K mg) (c_date_of : C8.Cal P w K mg base 3 "date_of" spDateOf []) (c_is_in : C8.Cal P w K mg base 1 "is_in" spIsIn []) (c_kind_of : C8.Cal P w K mg base 4 "kind_of" spKindOf [])
    (c_Row_months : C8.Met P w K mg base 1 (He.ga K "Row") "months" (spMos K) []) (c_Row_days_in : C8.Met P w K mg base 4 (He.ga K "Row") "days_in" (spDaysIn K) []) : C8.Cal P w K mg base 5 "is_shut_day" (spShutDay K) [] := by
  refine cal_of T.g_is_shut_day T.D_is_shut_day sc_is_shut_day (fun _ _ _ _ _ _ us hl => match us, hl with | [_, _], _ => rfl) (fun vs H Q E h => ?_) (fun cdv A outer s H vs Q E hr h => ?_)
  · obtain ⟨i, j, l, rfl, _⟩ := h
    rfl
  · obtain ⟨p, d, n, rfl, R, k⟩ := h
    refine ⟨_, (pss_cons (ps_asg (C8.pe_c c_date_of hr (by decide) rfl (pa_cons (pv 1) pa_nil)) (pg_tup rfl (pgs_cons (pg_name (i := 2) sc_is_shut_day.nd rfl (Or.inl rfl)) (pgs_cons (pg_name (i := 3) sc_is_shut_day.nd rfl (Or.inl rfl)) (pgs_cons (pg_name (i := 4) sc_is_shut_day.nd rfl (Or.inl rfl)) pgs_nil)))))
      (pss_one (ps_ret (pe_and (C8.pe_c c_is_in hr (by decide) rfl (pa_cons (C8.pe_mt0 c_Row_months hr (by decide) (pv 0)) (pa_cons (pv 3) pa_nil))) (pe_one (pe_not (C8.pe_c c_is_in hr (by decide) rfl (pa_cons (C8.pe_mt c_Row_days_in hr (by decide) (pv 0) (pa_cons (C8.pe_c c_kind_of hr (by decide) rfl (pa_cons (pv 2) (pa_cons (pv 3) pa_nil))) pa_nil)) (pa_cons (pv 4) pa_nil))))))))), ?_⟩
    refine ⟨_, rfl, n, rfl, fun q1 H1 s1 e1 => ⟨q1, _, rfl, .inl (.inl e1), rfl, _, _, rfl, _, _, rfl, _, _, rfl, rfl, ?_⟩⟩
    have R1 := R.same s1
    have dr := domOf_range n
    have kr := kind_range (monthOf n)
    obtain ⟨⟨dx, v, w', h1, _, _⟩, _⟩ := id R1
    refine ⟨_, rfl, p, dx, _, rfl, h1, rfl, p, d, rfl, R1, _, rfl, d.mo, monthOf n % 12 + 1, rfl, by omega, _, rfl, ?_⟩
    cases c1 : d.mo.testBit (monthOf n % 12 + 1).toNat with
    | false =>
      have z := k H1 s1
      rw [show moOk d.rw n = false from c1] at z
      exact iteF z
    | true =>
      refine iteT ⟨_, rfl, p, dx, _, rfl, h1, rfl, _, rfl, _, rfl, monthOf n, rfl, fun H2 s2 => ?_⟩
      refine ⟨p, d, _, rfl, R1.same s2, kr.1, kr.2, fun H3 s3 => ⟨_, rfl, d.rw.dy _, domOf n, rfl, by omega, _, rfl, ?_⟩⟩
      have z := k H3 ((s1.trans s2).trans s3)
      rw [show moOk d.rw n = true from c1] at z
      exact z
theorem sc_month_open : FnScope ["row", "moment", "year", "month", "day"] ["row", "moment"] (defScope s_month_open) := C8.fnScope_by (by decide +kernel)
theorem ok_month_open (T : Tx K mg) (c_parted : C8.Cal P w K mg base 1 "parted" spParted []) (c_date_of : C8.Cal P w K mg base 3 "date_of" spDateOf []) (c_is_in : C8.Cal P w K mg base 1 "is_in" spIsIn []) (c_day_of : C8.Cal P w K mg base 3 "day_of" spDayOf [])
    (c_Row_months : C8.Met P w K mg base 1 (He.ga K "Row") "months" (spMos K) []) : C8.Cal P w K mg base 4 "month_open" (spMonthOpen K) [] := by
  refine cal_of T.g_month_open T.D_month_open sc_month_open (fun _ _ _ _ _ _ us hl => match us, hl with | [_, _], _ => rfl) (fun vs H Q E h => ?_) (fun cdv A outer s H vs Q E hr h => ?_)
  · obtain ⟨i, j, l, rfl, _⟩ := h
    rfl
  · obtain ⟨p, d, t, rfl, R, sh, k⟩ := h
    refine ⟨_, (pss_cons (ps_asg (C8.pe_c c_date_of hr (by decide) rfl (pa_cons (pe_ix ix_tup (C8.pe_c c_parted hr (by decide) rfl (pa_cons (pv 1) pa_nil)) pe_int (fun _ _ => rfl)) pa_nil)) (pg_tup rfl (pgs_cons (pg_name (i := 2) sc_month_open.nd rfl (Or.inl rfl)) (pgs_cons (pg_name (i := 3) sc_month_open.nd rfl (Or.inl rfl)) (pgs_cons (pg_name (i := 4) sc_month_open.nd rfl (Or.inl rfl)) pgs_nil)))))
      (pss_cons (ps_if (pt_val (C8.pe_c c_is_in hr (by decide) rfl (pa_cons (C8.pe_mt0 c_Row_months hr (by decide) (pv 0)) (pa_cons (pv 3) pa_nil)))) (pss_one (ps_ret (pv 1))) pss_nil)
      (pss_cons (ps_while PassesOwn.never (pt_not (pt_val (C8.pe_c c_is_in hr (by decide) rfl (pa_cons (C8.pe_mt0 c_Row_months hr (by decide) (pv 0)) (pa_cons (pv 3) pa_nil))))) (pss_cons (ps_set (i := 3) sc_month_open.nd rfl (Or.inl rfl) (pe_op op_add (pv 3) pe_int))
      (pss_one (ps_if (pt_cmpR op_gt (pv 3) pe_int (nomark _)) (pss_cons (ps_set (i := 2) sc_month_open.nd rfl (Or.inl rfl) (pe_op op_add (pv 2) pe_int))
      (pss_one (ps_set (i := 3) sc_month_open.nd rfl (Or.inl rfl) pe_int))) pss_nil))))
      (pss_one (ps_ret (pe_op op_mul pe_int (C8.pe_c c_day_of hr (by decide) rfl (pa_cons (pv 2) (pa_cons (pv 3) (pa_cons pe_int pa_nil)))))))))), ?_⟩
    refine ⟨_, rfl, t, rfl, fun q1 H1 s1 e1 => ⟨q1, _, 0, _, rfl, rfl, .inl (.inl e1), rfl, t / 1440, rfl, fun q2 H2 s2 e2 => ⟨q2, _, rfl, .inl (.inl e2), rfl, _, _, rfl, _, _, rfl, _, _, rfl, rfl, ?_⟩⟩⟩
    have s12 := s1.trans s2
    have R1 := R.same s12
    have hm : d.mo.testBit (monthOf (t / 1440) % 12 + 1).toNat = false := shut_mo.mp sh
    obtain ⟨⟨dx, v, w', h1, _, _⟩, ok⟩ := id R1
    refine ⟨_, rfl, p, dx, _, rfl, h1, rfl, p, d, rfl, R1, _, rfl, d.mo, _, rfl, by omega, _, rfl, iteBF hm ?_⟩
    obtain ⟨N0, n1, n2⟩ := month_next ok.rw (monthOf (t / 1440))
    refine ⟨fun c σ H' => ∃ M : Int, c = (N0 - M).toNat ∧ monthOf (t / 1440) ≤ M ∧ M ≤ N0 ∧ H' = H2 ∧ (∀ N, monthOf (t / 1440) ≤ N → N < M → d.mo.testBit (N % 12 + 1).toNat = false) ∧
      σ = [some (.ref p), some (.int t), some (.int (M / 12)), some (.int (M % 12 + 1)), some (.int (domOf (t / 1440)))], ⟨_, monthOf (t / 1440), rfl, Int.le_refl _, n1, rfl, fun N a b => by omega, rfl⟩, ?_⟩
    rintro c σ H' ⟨M, rfl, m1, m2, rfl, no, rfl⟩
    refine ⟨_, rfl, p, dx, _, rfl, h1, rfl, p, d, rfl, R1, _, rfl, d.mo, M % 12 + 1, rfl, by omega, _, rfl, ?_⟩
    cases hb : d.mo.testBit (M % 12 + 1).toNat with
    | true =>
      have hne : monthOf (t / 1440) < M := by
        by_cases q : monthOf (t / 1440) < M
        · exact q
        · have e : M = monthOf (t / 1440) := by omega
          rw [e, hm] at hb
          cases hb
      have hl := mLen_range M
      refine iteF ⟨_, rfl, _, rfl, M, 1, rfl, by decide, by omega, fun H3 s3 => ⟨_, _, rfl, rfl, .inl ⟨by decide, by decide⟩, ?_⟩⟩
      have r := run_month (r := d.rw) hne no
      rw [show mStart M = mStart M + 1 - 1 by omega] at r
      exact k _ H3 (s12.trans s3) r
    | false =>
      have hlt : M < N0 := by
        by_cases q : M < N0
        · exact q
        · have e : M = N0 := by omega
          rw [e] at hb
          rw [show d.rw.mo = d.mo from rfl, hb] at n2
          cases n2
      have no' : ∀ N, monthOf (t / 1440) ≤ N → N < M + 1 → d.mo.testBit (N % 12 + 1).toNat = false := fun N a b => by
        by_cases q : N < M
        · exact no N a q
        · have e : N = M := by omega
          rw [e]
          exact hb
      refine iteT (again ?_)
      refine ⟨_, rfl, _, _, rfl, rfl, ?_⟩
      refine ⟨_, rfl, _, _, rfl, rfl, _, rfl, ?_⟩
      by_cases c12 : M % 12 = 11
      · refine iteDT (by omega) ⟨_, rfl, _, _, rfl, rfl, (N0 - (M + 1)).toNat, by omega, M + 1, rfl, by omega, by omega, rfl, no', ?_⟩
        rw [show (M + 1) / 12 = M / 12 + 1 by omega, show (M + 1) % 12 + 1 = 1 by omega]
        rfl
      · refine iteDF (by omega) ⟨(N0 - (M + 1)).toNat, by omega, M + 1, rfl, by omega, by omega, rfl, no', ?_⟩
        rw [show (M + 1) / 12 = M / 12 by omega, show (M + 1) % 12 + 1 = M % 12 + 1 + 1 by omega]
        rfl
theorem sc_day_open : FnScope ["row", "moment", "number", "last"] ["row", "moment"] (defScope s_day_open) := C8.fnScope_by (by decide +kernel)
theorem ok_day_open (T : Tx K mg) (c_parted : C8.Cal P w K mg base 1 "parted" spParted []) (c_is_shut_day : C8.Cal P w K mg base 5 "is_shut_day" (spShutDay K) []) : C8.Cal P w K mg base 6 "day_open" (spDayOpen K) [] := by
  refine cal_of T.g_day_open T.D_day_open sc_day_open (fun _ _ _ _ _ _ us hl => match us, hl with | [_, _], _ => rfl) (fun vs H Q E h => ?_) (fun cdv A outer s H vs Q E hr h => ?_)
  · obtain ⟨i, j, l, rfl, _⟩ := h
    rfl
  · obtain ⟨p, d, t, rfl, R, sh, k⟩ := h
    refine ⟨_, (pss_cons (ps_set (i := 2) sc_day_open.nd rfl (Or.inl rfl) (pe_ix ix_tup (C8.pe_c c_parted hr (by decide) rfl (pa_cons (pv 1) pa_nil)) pe_int (fun _ _ => rfl)))
      (pss_cons (ps_if (pt_not (pt_val (C8.pe_c c_is_shut_day hr (by decide) rfl (pa_cons (pv 0) (pa_cons (pv 2) pa_nil))))) (pss_one (ps_ret (pv 1))) pss_nil)
      (pss_cons (ps_set (i := 3) sc_day_open.nd rfl (Or.inl rfl) (pe_op op_add (pv 2) (C8.pe_gc rfl T.c_MOST_DAYS)))
      (pss_cons (ps_while PassesOwn.never (PW.pt (pw_and (pt_cmpR op_lt (pv 2) (pv 3) (nomark _)) (pw_and1 (pt_val (C8.pe_c c_is_shut_day hr (by decide) rfl (pa_cons (pv 0) (pa_cons (pv 2) pa_nil))))))) (pss_one (ps_set (i := 2) sc_day_open.nd rfl (Or.inl rfl) (pe_op op_add (pv 2) pe_int))))
      (pss_one (ps_ret (pe_op op_mul pe_int (pv 2)))))))), ?_⟩
    obtain ⟨sh1, sh2⟩ := shut_dy.mp sh
    refine ⟨_, rfl, t, rfl, fun q1 H1 s1 e1 => ⟨q1, _, 0, _, rfl, rfl, .inl (.inl e1), rfl, ?_⟩⟩
    refine ⟨_, rfl, _, rfl, p, d, t / 1440, rfl, R.same s1, fun H2 s2 => ⟨_, rfl, ?_⟩⟩
    rw [sh1, sh2]
    refine iteF ⟨_, rfl, _, _, rfl, rfl, ?_⟩
    have s12 := s1.trans s2
    refine ⟨fun c σ H' => ∃ m : Int, c = (t / 1440 + 400 - m).toNat ∧ t / 1440 ≤ m ∧ m ≤ t / 1440 + 400 ∧ Same H H' ∧ (∀ j, t / 1440 ≤ j → j < m → moOk d.rw j = true ∧ dyOk d.rw j = false) ∧
      σ = [some (.ref p), some (.int t), some (.int m), some (.int (t / 1440 + 400))], ⟨_, t / 1440, rfl, Int.le_refl _, by omega, s12, fun j a b => by omega, rfl⟩, ?_⟩
    rintro c σ H' ⟨m, rfl, m1, m2, s', all, rfl⟩
    refine ⟨_, rfl, _, rfl, _, _, rfl, rfl, _, rfl, ?_⟩
    by_cases c1 : m < t / 1440 + 400
    · refine iteDT c1 ⟨_, rfl, _, rfl, p, d, m, rfl, R.same s', fun H3 s3 => ⟨_, rfl, ?_⟩⟩
      cases c2 : (moOk d.rw m && !dyOk d.rw m) with
      | true =>
        rw [Bool.and_eq_true, Bool.not_eq_true'] at c2
        refine iteT (again ⟨_, rfl, _, _, rfl, rfl, (t / 1440 + 400 - (m + 1)).toNat, by omega, m + 1, rfl, by omega, by omega, s'.trans s3, fun j a b => ?_, rfl⟩)
        by_cases q : j < m
        · exact all j a q
        · have e : j = m := by omega
          rw [e]
          exact c2
      | false =>
        have hne : t / 1440 < m := by
          by_cases q : t / 1440 < m
          · exact q
          · have e : m = t / 1440 := by omega
            rw [e, sh1, sh2] at c2
            cases c2
        exact iteF ⟨_, rfl, _, _, rfl, rfl, .inl ⟨by decide, by decide⟩, k _ H3 (s'.trans s3) (run_day hne all)⟩
    · exact iteDF c1 ⟨_, rfl, _, _, rfl, rfl, .inl ⟨by decide, by decide⟩, k _ H' s' (run_day (by omega) all)⟩
theorem sc_hour_open : FnScope ["row", "moment", "day", "hour", "minute", "on"] ["row", "moment"] (defScope s_hour_open) := C8.fnScope_by (by decide +kernel)
theorem ok_hour_open (T : Tx K mg) (c_parted : C8.Cal P w K mg base 1 "parted" spParted []) (c_is_in : C8.Cal P w K mg base 1 "is_in" spIsIn []) (c_Row_hours : C8.Met P w K mg base 1 (He.ga K "Row") "hours" (spHrs K) []) : C8.Cal P w K mg base 2 "hour_open" (spHourOpen K) [] := by
  refine cal_of T.g_hour_open T.D_hour_open sc_hour_open (fun _ _ _ _ _ _ us hl => match us, hl with | [_, _], _ => rfl) (fun vs H Q E h => ?_) (fun cdv A outer s H vs Q E hr h => ?_)
  · obtain ⟨i, j, l, rfl, _⟩ := h
    rfl
  · obtain ⟨p, d, t, rfl, R, sh, k⟩ := h
    refine ⟨_, (pss_cons (ps_asg (C8.pe_c c_parted hr (by decide) rfl (pa_cons (pv 1) pa_nil)) (pg_tup rfl (pgs_cons (pg_name (i := 2) sc_hour_open.nd rfl (Or.inl rfl)) (pgs_cons (pg_name (i := 3) sc_hour_open.nd rfl (Or.inl rfl)) (pgs_cons (pg_name (i := 4) sc_hour_open.nd rfl (Or.inl rfl)) pgs_nil)))))
      (pss_cons (ps_if (pt_val (C8.pe_c c_is_in hr (by decide) rfl (pa_cons (C8.pe_mt0 c_Row_hours hr (by decide) (pv 0)) (pa_cons (pv 3) pa_nil)))) (pss_one (ps_ret (pv 1))) pss_nil)
      (pss_cons (ps_set (i := 5) sc_hour_open.nd rfl (Or.inl rfl) pe_int)
      (pss_cons (ps_while PassesOwn.never (pt_not (pt_val (C8.pe_c c_is_in hr (by decide) rfl (pa_cons (C8.pe_mt0 c_Row_hours hr (by decide) (pv 0)) (pa_cons (pe_op op_mod (pe_op op_add (pv 3) (pv 5)) pe_int) pa_nil))))) (pss_one (ps_set (i := 5) sc_hour_open.nd rfl (Or.inl rfl) (pe_op op_add (pv 5) pe_int))))
      (pss_one (ps_ret (pe_op op_add (pe_op op_sub (pv 1) (pv 4)) (pe_op op_mul pe_int (pv 5))))))))), ?_⟩
    refine ⟨_, rfl, t, rfl, fun q1 H1 s1 e1 => ⟨q1, _, rfl, .inl (.inl e1), rfl, _, _, rfl, _, _, rfl, _, _, rfl, rfl, ?_⟩⟩
    have R1 := R.same s1
    have sh' : d.ho.testBit (t % 1440 / 60).toNat = false := sh
    obtain ⟨⟨dx, v, w', h1, _, _⟩, ok⟩ := id R1
    refine ⟨_, rfl, p, dx, _, rfl, h1, rfl, p, d, rfl, R1, _, rfl, d.ho, _, rfl, by omega, _, rfl, iteBF sh' ?_⟩
    obtain ⟨j0, j1, j2, j3⟩ := hour_ex ok.rw (t % 1440 / 60)
    have j3' : d.ho.testBit ((t % 1440 / 60 + j0) % 24).toNat = true := j3
    have j4 : 1 ≤ j0 := by
      by_cases q : 1 ≤ j0
      · exact q
      · have e : j0 = 0 := by omega
        rw [e, show (t % 1440 / 60 + 0) % 24 = t % 1440 / 60 by omega, sh'] at j3'
        cases j3'
    refine ⟨fun c σ H' => ∃ on : Int, c = (j0 - on).toNat ∧ 1 ≤ on ∧ on ≤ j0 ∧ H' = H1 ∧ (∀ j, 0 ≤ j → j < on → d.ho.testBit ((t % 1440 / 60 + j) % 24).toNat = false) ∧
      σ = [some (.ref p), some (.int t), some (.int (t / 1440)), some (.int (t % 1440 / 60)), some (.int (t % 1440 % 60)), some (.int on)], ⟨_, 1, rfl, by omega, j4, rfl, fun j a b => ?_, rfl⟩, ?_⟩
    · rw [show (t % 1440 / 60 + j) % 24 = t % 1440 / 60 by omega]
      exact sh'
    rintro c σ H' ⟨on, rfl, o1, o2, rfl, no, rfl⟩
    refine ⟨_, rfl, p, dx, _, rfl, h1, rfl, p, d, rfl, R1, _, rfl, _, rfl, _, _, rfl, rfl, _, _, rfl, rfl, (by show (0 : Int) < 24; decide), d.ho, _, rfl, by omega, _, rfl, ?_⟩
    cases hb : d.ho.testBit ((t % 1440 / 60 + on) % 24).toNat with
    | true =>
      refine iteF ⟨_, rfl, _, rfl, _, _, rfl, rfl, _, rfl, _, _, rfl, rfl, .inl ⟨by decide, by decide⟩, _, _, rfl, rfl, k _ H' s1 (hourOpen_mk (r := d.rw) o1 (by omega) no)⟩
    | false =>
      have hlt : on < j0 := by
        by_cases q : on < j0
        · exact q
        · have e : on = j0 := by omega
          rw [e, j3'] at hb
          cases hb
      refine iteT (again ⟨_, rfl, _, _, rfl, rfl, (j0 - (on + 1)).toNat, by omega, on + 1, rfl, by omega, by omega, rfl, fun j a b => ?_, rfl⟩)
      by_cases q : j < on
      · exact no j a q
      · have e : j = on := by omega
        rw [e]
        exact hb
theorem sc_minute_open : FnScope ["row", "moment", "minute", "on"] ["row", "moment"] (defScope s_minute_open) := C8.fnScope_by (by decide +kernel)
theorem ok_minute_open (T : Tx K mg) (c_parted : C8.Cal P w K mg base 1 "parted" spParted []) (c_is_in : C8.Cal P w K mg base 1 "is_in" spIsIn []) (c_Row_minutes : C8.Met P w K mg base 1 (He.ga K "Row") "minutes" (spMin K) []) : C8.Cal P w K mg base 2 "minute_open" (spMinOpen K) [] := by
  refine cal_of T.g_minute_open T.D_minute_open sc_minute_open (fun _ _ _ _ _ _ us hl => match us, hl with | [_, _], _ => rfl) (fun vs H Q E h => ?_) (fun cdv A outer s H vs Q E hr h => ?_)
  · obtain ⟨i, j, l, rfl, _⟩ := h
    rfl
  · obtain ⟨p, d, t, rfl, R, sh, k⟩ := h
    refine ⟨_, (pss_cons (ps_set (i := 2) sc_minute_open.nd rfl (Or.inl rfl) (pe_ix ix_tup (C8.pe_c c_parted hr (by decide) rfl (pa_cons (pv 1) pa_nil)) pe_int (fun _ _ => rfl)))
      (pss_cons (ps_set (i := 3) sc_minute_open.nd rfl (Or.inl rfl) pe_int)
      (pss_cons (ps_while PassesOwn.never (pt_not (pt_val (C8.pe_c c_is_in hr (by decide) rfl (pa_cons (C8.pe_mt0 c_Row_minutes hr (by decide) (pv 0)) (pa_cons (pe_op op_mod (pe_op op_add (pv 2) (pv 3)) pe_int) pa_nil))))) (pss_one (ps_set (i := 3) sc_minute_open.nd rfl (Or.inl rfl) (pe_op op_add (pv 3) pe_int))))
      (pss_one (ps_ret (pe_op op_add (pv 1) (pv 3))))))), ?_⟩
    refine ⟨_, rfl, t, rfl, fun q1 H1 s1 e1 => ⟨q1, _, 2, _, rfl, rfl, .inl (.inl e1), rfl, ?_⟩⟩
    have R1 := R.same s1
    have sh' : d.mi.testBit (t % 1440 % 60).toNat = false := sh
    obtain ⟨⟨dx, v, w', h1, _, _⟩, ok⟩ := id R1
    obtain ⟨j0, j1, j2, j3⟩ := min_ex ok.rw (t % 1440 % 60)
    have j3' : d.mi.testBit ((t % 1440 % 60 + j0) % 60).toNat = true := j3
    have z0 : ∀ j : Int, j = 0 → d.mi.testBit ((t % 1440 % 60 + j) % 60).toNat = false := fun j e => by
      rw [e, show (t % 1440 % 60 + 0) % 60 = t % 1440 % 60 by omega]
      exact sh'
    refine ⟨fun c σ H' => ∃ on : Int, c = (j0 - on).toNat ∧ 0 ≤ on ∧ on ≤ j0 ∧ H' = H1 ∧ (∀ j, 0 ≤ j → j < on → d.mi.testBit ((t % 1440 % 60 + j) % 60).toNat = false) ∧
      σ = [some (.ref p), some (.int t), some (.int (t % 1440 % 60)), some (.int on)], ⟨_, 0, rfl, by omega, j1, rfl, fun j a b => by omega, rfl⟩, ?_⟩
    rintro c σ H' ⟨on, rfl, o1, o2, rfl, no, rfl⟩
    refine ⟨_, rfl, p, dx, _, rfl, h1, rfl, p, d, rfl, R1, _, rfl, _, rfl, _, _, rfl, rfl, _, _, rfl, rfl, (by show (0 : Int) < 60; decide), d.mi, _, rfl, by omega, _, rfl, ?_⟩
    cases hb : d.mi.testBit ((t % 1440 % 60 + on) % 60).toNat with
    | true =>
      have o3 : 1 ≤ on := by
        by_cases q : 1 ≤ on
        · exact q
        · rw [z0 on (by omega)] at hb
          cases hb
      refine iteF ⟨_, rfl, _, rfl, _, _, rfl, rfl, k _ H' s1 (minOpen_mk (r := d.rw) o3 (by omega) no hb)⟩
    | false =>
      have hlt : on < j0 := by
        by_cases q : on < j0
        · exact q
        · have e : on = j0 := by omega
          rw [e, j3'] at hb
          cases hb
      refine iteT (again ⟨_, rfl, _, _, rfl, rfl, (j0 - (on + 1)).toNat, by omega, on + 1, rfl, by omega, by omega, rfl, fun j a b => ?_, rfl⟩)
      by_cases q : j < on
      · exact no j a q
      · have e : j = on := by omega
        rw [e]
        exact hb
theorem fS_ne {f g : F} (h : f ≠ g) : ¬ V.str (fS f) = V.str (fS g) := by
  cases f <;> cases g <;> first | exact absurd rfl h | decide +kernel
theorem sc_open_again : FnScope ["row", "moment", "field"] ["row", "moment", "field"] (defScope s_open_again) := C8.fnScope_by (by decide +kernel)
theorem ok_open_again (T : Tx K mg) (c_month_open : C8.Cal P w K mg base 4 "month_open" (spMonthOpen K) []) (c_day_open : C8.Cal P w K mg base 6 "day_open" (spDayOpen K) []) (c_hour_open : C8.Cal P w K mg base 2 "hour_open" (spHourOpen K) []) (c_minute_open : C8.Cal P w K mg base 2 "minute_open" (spMinOpen K) []) :
    C8.Cal P w K mg base 7 "open_again" (spOpen K) [] := by
  refine cal_of T.g_open_again T.D_open_again sc_open_again (fun _ _ _ _ _ _ us hl => match us, hl with | [_, _, _], _ => rfl) (fun vs H Q E h => ?_) (fun cdv A outer s H vs Q E hr h => ?_)
  · obtain ⟨i, j, l, f, rfl, _⟩ := h
    rfl
  · obtain ⟨p, d, t, f, rfl, R, sh, k⟩ := h
    refine ⟨_, (pss_cons (ps_if (pt_cmpR op_eq (pv 2) pe_str (nomark _)) (pss_one (ps_ret (C8.pe_c c_month_open hr (by decide) rfl (pa_cons (pv 0) (pa_cons (pv 1) pa_nil))))) pss_nil)
      (pss_cons (ps_if (pt_cmpR op_eq (pv 2) pe_str (nomark _)) (pss_one (ps_ret (C8.pe_c c_day_open hr (by decide) rfl (pa_cons (pv 0) (pa_cons (pv 1) pa_nil))))) pss_nil)
      (pss_cons (ps_if (pt_cmpR op_eq (pv 2) pe_str (nomark _)) (pss_one (ps_ret (C8.pe_c c_hour_open hr (by decide) rfl (pa_cons (pv 0) (pa_cons (pv 1) pa_nil))))) pss_nil)
      (pss_one (ps_ret (C8.pe_c c_minute_open hr (by decide) rfl (pa_cons (pv 0) (pa_cons (pv 1) pa_nil)))))))), ?_⟩
    refine ⟨_, rfl, rfl, _, rfl, ?_⟩
    cases f with
    | mo => exact iteDT rfl ⟨_, rfl, _, rfl, p, d, t, rfl, R, sh, k⟩
    | dy =>
      refine iteDF (fS_ne (f := .dy) (g := .mo) (by decide)) ⟨_, rfl, rfl, _, rfl, ?_⟩
      exact iteDT rfl ⟨_, rfl, _, rfl, p, d, t, rfl, R, sh, k⟩
    | ho =>
      refine iteDF (fS_ne (f := .ho) (g := .mo) (by decide)) ⟨_, rfl, rfl, _, rfl, ?_⟩
      refine iteDF (fS_ne (f := .ho) (g := .dy) (by decide)) ⟨_, rfl, rfl, _, rfl, ?_⟩
      exact iteDT rfl ⟨_, rfl, _, rfl, p, d, t, rfl, R, (shut_ho.mp sh).2.2, k⟩
    | mi =>
      refine iteDF (fS_ne (f := .mi) (g := .mo) (by decide)) ⟨_, rfl, rfl, _, rfl, ?_⟩
      refine iteDF (fS_ne (f := .mi) (g := .dy) (by decide)) ⟨_, rfl, rfl, _, rfl, ?_⟩
      exact iteDF (fS_ne (f := .mi) (g := .ho) (by decide)) ⟨_, rfl, _, rfl, p, d, t, rfl, R, (shut_mi.mp sh).2.2.2, k⟩
theorem sc_never : FnScope ["row", "kind"] ["row"] (defScope s_never) := C8.fnScope_by (by decide +kernel)
theorem ok_never (T : Tx K mg) (c_Row_days_in : C8.Met P w K mg base 4 (He.ga K "Row") "days_in" (spDaysIn K) []) : C8.Cal P w K mg base 5 "never" (spNever K) [] := by
  refine cal_of T.g_never T.D_never sc_never (fun _ _ _ _ _ _ us hl => match us, hl with | [_], _ => rfl) (fun vs H Q E h => ?_) (fun cdv A outer s H vs Q E hr h => ?_)
  · obtain ⟨i, j, rfl, _⟩ := h
    rfl
  · obtain ⟨p, d, rfl, R, k⟩ := h
    refine ⟨_, (pss_cons (ps_for PassesOwn.never rfl (pi_range1 rfl T.f_range (pa_cons (C8.pe_gc rfl T.c_MANY_KINDS) pa_nil)) (pg_name (i := 1) sc_never.nd rfl (Or.inl rfl)) (pss_one (ps_if (pt_cmpR op_ne (C8.pe_mt c_Row_days_in hr (by decide) (pv 0) (pa_cons (pv 1) pa_nil)) pe_int (nomark _)) (pss_one (ps_ret pe_bl)) pss_nil)))
      (pss_one (ps_ret pe_bl))), ?_⟩
    refine ⟨91, rfl, by decide, by decide, ?_⟩
    refine for_range (lo := 0) (n := 91) (fun i σ H' => Same H H' ∧ (∀ j : Nat, j < i → d.rw.dy j = 0) ∧ ∃ v, σ = [some (.ref p), v]) ⟨Same.refl H, fun j h => by omega, _, rfl⟩ ?_ ?_
    · rintro i σ H' hi ⟨s', all, v, rfl⟩
      have R' := R.same s'
      obtain ⟨⟨dx, v, w', h1, _, _⟩, ok⟩ := id R'
      refine ⟨_, rfl, p, dx, _, rfl, h1, rfl, _, rfl, p, d, 0 + (i : Nat), rfl, R', by omega, by omega, fun H1 s1 => ⟨rfl, _, rfl, ?_⟩⟩
      by_cases c : d.rw.dy (0 + (i : Nat)) = 0
      · refine iteNT (by rw [c]; rfl) ⟨s'.trans s1, fun j hj => ?_, _, rfl⟩
        by_cases q : j < i
        · exact all j q
        · have e : j = i := by omega
          rw [e, show ((i : Nat) : Int) = 0 + (i : Nat) by omega]
          exact c
      · refine iteNF (fun z => c ?_) ((k H1 (s'.trans s1)).1 ⟨0 + (i : Nat), by omega, by omega, c⟩)
        have : ((d.rw.dy (0 + (i : Nat)) : Nat) : Int) = 0 := V.int.inj z
        omega
    · rintro σ H' ⟨s', all, v, rfl⟩
      refine (k H' s').2 fun ⟨kd, k0, k1, hk⟩ => hk ?_
      have := all kd.toNat (by omega)
      rw [show ((kd.toNat : Nat) : Int) = kd by omega] at this
      exact this
end
end K58
set_option Elab.async false
set_option maxRecDepth 100000
set_option maxHeartbeats 4000000
set_option linter.all false
namespace K58
open PySem PySem.Spec PyProof.Rows L2
section
variable {P : Program} {w : World} {K : PySem.W.Frag} {mg : Str → Option Value} {base : Heap}
theorem scal_fV (o : Option F) (f : F) : scal (fV o) (.str (fS f)) = true := by
  cases o <;> rfl
theorem fV_eq (o : Option F) (f : F) : decide (fV o = .str (fS f)) = decide (o = some f) := by
  cases o with
  | none => rfl
  | some g =>
    by_cases h : g = f
    · subst h
      show decide (V.str (fS g) = V.str (fS g)) = decide (some g = some g)
      rw [decide_eq_true rfl, decide_eq_true rfl]
    · show decide (V.str (fS g) = V.str (fS f)) = decide (some g = some f)
      rw [decide_eq_false (fS_ne h), decide_eq_false fun z => h (Option.some.inj z)]
theorem sc_run_end : FnScope ["row", "at", "field", "end", "turn"] ["row", "at", "field"] (defScope s_run_end) := C8.fnScope_by (by decide +kernel)
theorem ok_run_end (T : Tx K mg) (c_open_again : C8.Cal P w K mg base 7 "open_again" (spOpen K) []) (c_parted : C8.Cal P w K mg base 1 "parted" spParted []) (c_Row_shut_by : C8.Met P w K mg base 5 (He.ga K "Row") "shut_by" (spShutBy K) []) : C8.Cal P w K mg base 8 "run_end" (spRunEnd K) [] := by
  refine cal_of T.g_run_end T.D_run_end sc_run_end (fun _ _ _ _ _ _ us hl => match us, hl with | [_, _, _], _ => rfl) (fun vs H Q E h => ?_) (fun cdv A outer s H vs Q E hr h => ?_)
  · obtain ⟨i, j, l, f, rfl, _⟩ := h
    rfl
  · obtain ⟨p, d, t, f, rfl, R, sh, k⟩ := h
    refine ⟨_, (pss_cons (ps_set (i := 3) sc_run_end.nd rfl (Or.inl rfl) (C8.pe_c c_open_again hr (by decide) rfl (pa_cons (pv 0) (pa_cons (pv 1) (pa_cons (pv 2) pa_nil)))))
      (pss_cons (ps_if (pt_cmpR op_eq (pv 2) pe_str (nomark _)) (pss_one (ps_set (i := 4) sc_run_end.nd rfl (Or.inl rfl) (pe_op op_mul pe_int (pe_op op_add (pe_ix ix_tup (C8.pe_c c_parted hr (by decide) rfl (pa_cons (pv 1) pa_nil)) pe_int (fun _ _ => rfl)) pe_int)))) (pss_one (ps_if (pt_cmpR op_eq (pv 2) pe_str (nomark _)) (pss_one (ps_set (i := 4) sc_run_end.nd rfl (Or.inl rfl) (pe_op op_sub (pe_op op_add (pv 1) pe_int) (pe_ix ix_tup (C8.pe_c c_parted hr (by decide) rfl (pa_cons (pv 1) pa_nil)) pe_int (fun _ _ => rfl))))) (pss_one (ps_ret (pv 3))))))
      (pss_cons (ps_if (PW.pt (pw_and (pt_cmpR op_lt (pv 4) (pv 3) (nomark _)) (pw_and1 (pt_cmpR op_ne (C8.pe_mt c_Row_shut_by hr (by decide) (pv 0) (pa_cons (pv 4) pa_nil)) (pv 2) (nomark _))))) (pss_one (ps_ret (pv 4))) pss_nil)
      (pss_one (ps_ret (pv 3)))))), ?_⟩
    refine ⟨_, rfl, _, rfl, _, rfl, p, d, t, f, rfl, R, sh, fun e H1 s1 o => ?_⟩
    have R1 := R.same s1
    refine ⟨_, rfl, rfl, _, rfl, ?_⟩
    cases f with
    | mo => exact iteDF (fS_ne (f := .mo) (g := .ho) (by decide)) ⟨_, rfl, rfl, _, rfl, iteDF (fS_ne (f := .mo) (g := .mi) (by decide)) ⟨_, rfl, k e H1 s1 o⟩⟩
    | dy => exact iteDF (fS_ne (f := .dy) (g := .ho) (by decide)) ⟨_, rfl, rfl, _, rfl, iteDF (fS_ne (f := .dy) (g := .mi) (by decide)) ⟨_, rfl, k e H1 s1 o⟩⟩
    | ho =>
      refine iteDT rfl ⟨_, rfl, t, rfl, fun q H2 s2 e2 => ⟨q, _, 0, _, rfl, rfl, .inl (.inl e2), rfl, _, _, rfl, rfl, _, _, rfl, rfl, .inl ⟨by decide, by decide⟩, ?_⟩⟩
      obtain ⟨⟨dx, v, w', h2, _, _⟩, _⟩ := id (R1.same s2)
      refine ⟨_, rfl, _, rfl, _, _, rfl, rfl, _, rfl, ?_⟩
      by_cases c1 : 1440 * (t / 1440 + 1) < e
      · refine iteDT c1 ⟨_, rfl, p, dx, _, rfl, h2, rfl, _, rfl, p, d, 1440 * (t / 1440 + 1), rfl, R1.same s2, fun H3 s3 => ⟨_, rfl, scal_fV _ _, _, rfl, ?_⟩⟩
        have s13 := (s1.trans s2).trans s3
        rw [fV_eq]
        by_cases c2 : shut d.rw (1440 * (t / 1440 + 1)) = some .ho
        · exact iteNT c2 ⟨_, rfl, k _ H3 s13 (run_hour_end sh o fun z => z.2 c2)⟩
        · exact iteNF c2 ⟨_, rfl, k _ H3 s13 (run_hour_turn sh o c1)⟩
      · exact iteDF c1 (iteF ⟨_, rfl, k _ H2 (s1.trans s2) (run_hour_end sh o fun z => c1 z.1)⟩)
    | mi =>
      refine iteDF (fS_ne (f := .mi) (g := .ho) (by decide)) ⟨_, rfl, rfl, _, rfl, iteDT rfl ⟨_, rfl, _, _, rfl, rfl, _, rfl, t, rfl, fun q H2 s2 e2 => ⟨q, _, 2, _, rfl, rfl, .inl (.inl e2), rfl, _, _, rfl, rfl, ?_⟩⟩⟩
      obtain ⟨⟨dx, v, w', h2, _, _⟩, _⟩ := id (R1.same s2)
      refine ⟨_, rfl, _, rfl, _, _, rfl, rfl, _, rfl, ?_⟩
      by_cases c1 : t + 60 - t % 1440 % 60 < e
      · refine iteDT c1 ⟨_, rfl, p, dx, _, rfl, h2, rfl, _, rfl, p, d, t + 60 - t % 1440 % 60, rfl, R1.same s2, fun H3 s3 => ⟨_, rfl, scal_fV _ _, _, rfl, ?_⟩⟩
        have s13 := (s1.trans s2).trans s3
        rw [fV_eq]
        by_cases c2 : shut d.rw (t + 60 - t % 1440 % 60) = some .mi
        · exact iteNT c2 ⟨_, rfl, k _ H3 s13 (run_min_end sh o fun z => z.2 c2)⟩
        · exact iteNF c2 ⟨_, rfl, k _ H3 s13 (run_min_turn sh o c1)⟩
      · exact iteDF c1 (iteF ⟨_, rfl, k _ H2 (s1.trans s2) (run_min_end sh o fun z => c1 z.1)⟩)
theorem line_big {n : Nat} (h : n ≤ 4000000) : n < sizeLine := by
  rw [sizeLine_eq]
  omega
theorem sc_runs_to : FnScope ["row", "begin", "end", "paper", "at", "field", "then"] ["row", "begin", "end"] (defScope s_runs_to) := C8.fnScope_by (by decide +kernel)
theorem ok_runs_to (T : Tx K mg) (c_run_end : C8.Cal P w K mg base 8 "run_end" (spRunEnd K) []) (c_Row_shut_by : C8.Met P w K mg base 5 (He.ga K "Row") "shut_by" (spShutBy K) []) : C8.Cal P w K mg base 9 "runs_to" (spRuns K) [] := by
  refine cal_of T.g_runs_to T.D_runs_to sc_runs_to (fun _ _ _ _ _ _ us hl => match us, hl with | [_, _, _], _ => rfl) (fun vs H Q E h => ?_) (fun cdv A outer s H vs Q E hr h => ?_)
  · obtain ⟨i, j, l, f, rfl, _⟩ := h
    rfl
  · obtain ⟨p, d, a, b, rfl, R, no, far, k⟩ := h
    refine ⟨_, (pss_cons (ps_set (i := 3) sc_runs_to.nd rfl (Or.inl rfl) (pe_lstS pa_nil))
      (pss_cons (ps_set (i := 4) sc_runs_to.nd rfl (Or.inl rfl) (pv 1))
      (pss_cons (ps_while PassesOwn.never (pt_cmpR op_le (pv 4) (pv 2) (nomark _)) (pss_cons (ps_set (i := 5) sc_runs_to.nd rfl (Or.inl rfl) (C8.pe_mt c_Row_shut_by hr (by decide) (pv 0) (pa_cons (pv 4) pa_nil)))
      (pss_cons (ps_set (i := 6) sc_runs_to.nd rfl (Or.inl rfl) (pe_callB (call_min2 rfl) (by rfl) T.f_min (by decide +kernel) (pa_cons (C8.pe_c c_run_end hr (by decide) rfl (pa_cons (pv 0) (pa_cons (pv 4) (pa_cons (pv 5) pa_nil)))) (pa_cons (pe_op op_add (pv 2) pe_int) pa_nil))))
      (pss_cons (ps_expr (pe_bm PySem.F.plainAttrs_list PySem.F.slot_list_append PySem.F.type_list_append mt_append (pv 3) (pa_cons (pe_tupS (pa_cons (pv 4) (pa_cons (pe_op op_sub (pv 6) pe_int) (pa_cons (pv 5) pa_nil)))) pa_nil)))
      (pss_one (ps_set (i := 4) sc_runs_to.nd rfl (Or.inl rfl) (pv 6)))))))
      (pss_one (ps_ret (pv 3)))))), ?_⟩
    refine ⟨Nat.zero_le _, fun l H0 s0 hl e0 => ⟨_, rfl, ?_⟩⟩
    unfold FAR at far
    by_cases ab : b + 1 < a
    · -- nothing to tell
      refine ⟨fun c σ H' => c = 0 ∧ H' = H0 ∧ σ = [some (.ref p), some (.int a), some (.int b), some (.ref l), some (.int a), none, none], ⟨0, rfl, rfl, rfl⟩, ?_⟩
      rintro c σ H' ⟨rfl, rfl, rfl⟩
      exact ⟨_, rfl, _, rfl, _, _, rfl, rfl, _, rfl, iteDF (by omega) ⟨_, rfl, k l [] H' s0 ⟨[], e0, True.intro, Nat.zero_le _⟩ .nil⟩⟩
    refine ⟨fun c σ H' => ∃ (at_ : Int) (as : List Addr) (es : List (Int × Int × F)) (v1 v2 : Option V), c = (b + 1 - at_).toNat ∧ a ≤ at_ ∧ at_ ≤ b + 1 ∧ Same H H' ∧ H' l = some (.lst (as.map V.ref)) ∧ EntIn H' as es ∧ PaperOk d.rw a at_ es ∧
      (es.length : Int) ≤ at_ / 60 - a / 60 + 1 ∧ (at_ ≤ b → (es.length : Int) ≤ at_ / 60 - a / 60) ∧ σ = [some (.ref p), some (.int a), some (.int b), some (.ref l), some (.int at_), v1, v2],
      ⟨_, a, [], [], none, none, rfl, Int.le_refl _, by omega, s0, e0, True.intro, .nil, by show (0 : Int) ≤ _; omega, fun _ => by show (0 : Int) ≤ _; omega, rfl⟩, ?_⟩
    rintro c σ H' ⟨at_, as, es, v1, v2, rfl, a1, a2, s', el, ei, pk, n1, n2, rfl⟩
    refine ⟨_, rfl, _, rfl, _, _, rfl, rfl, _, rfl, ?_⟩
    have R' := R.same s'
    by_cases c1 : at_ ≤ b
    · obtain ⟨⟨dx, v, w', h1, _, _⟩, _⟩ := id R'
      refine iteDT c1 (again ?_)
      refine ⟨_, rfl, p, dx, _, rfl, h1, rfl, _, rfl, p, d, at_, rfl, R', fun H1 s1 => ?_⟩
      obtain ⟨f, hf⟩ : ∃ f, shut d.rw at_ = some f := by
        cases q : shut d.rw at_ with
        | none => exact absurd q (no at_ a1 c1)
        | some f => exact ⟨f, rfl⟩
      rw [hf]
      refine ⟨_, rfl, _, rfl, _, rfl, p, d, at_, f, rfl, R'.same s1, hf, fun e H2 s2 rt => ?_⟩
      refine ⟨_, rfl, _, _, rfl, rfl, _, _, rfl, ?_⟩
      have s02 := (s'.trans s1).trans s2
      have el2 := s2 _ _ (s1 _ _ el)
      have ei2 := (ei.same s1).same s2
      -- the stretch's end, cut at end + 1
      obtain ⟨th, eth, t1, t2, t3⟩ : ∃ th : Int, (if b + 1 < e then b + 1 else e) = th ∧ at_ < th ∧ th ≤ b + 1 ∧ th ≤ e := by
        by_cases q : b + 1 < e
        · exact ⟨_, if_pos q, by omega, by omega, by omega⟩
        · exact ⟨_, if_neg q, rt.lt, by omega, by omega⟩
      rw [eth]
      refine ⟨_, rfl, .inl ⟨rfl, _, .inl (.inl el2)⟩, _, rfl, _, rfl, _, _, rfl, rfl, _, rfl, (by show 3 ≤ sizeLine; decide), fun q H3 s3 hq eq => ?_⟩
      have el3 := s3 _ _ el2
      refine ⟨l, _, _, rfl, rfl, el3, ?_, ?_⟩
      · rw [List.length_map, ei.len]
        have := n2 c1
        exact line_big (by omega)
      refine ⟨_, rfl, (b + 1 - th).toNat, by omega, th, as ++ [q], es ++ [(at_, th - 1, f)], _, _, rfl, by omega, t2, ?_, ?_, ?_, pk.snoc a1 t1 (Int.le_refl _) (fun u u1 u2 => rt.all u u1 (by omega)), ?_, ?_, rfl⟩
      · intro x o hx
        rw [upd_ne (ne_of_none hx hl)]
        exact s3 _ _ (s02 _ _ hx)
      · rw [upd_same, List.map_append]
        rfl
      · exact ((ei2.same s3).snoc (e := (at_, th - 1, f)) eq).upd el3
      · rw [List.length_append]
        have := n2 c1
        show ((es.length + 1 : Nat) : Int) ≤ _
        omega
      · intro tb
        rw [List.length_append]
        have := n2 c1
        have e60 : at_ / 60 < th / 60 := by
          rcases rt.far with q | q
          · by_cases z : th = e
            · rw [z]
              exact q
            · have : th = b + 1 := by
                by_cases y : b + 1 < e
                · rw [if_pos y] at eth
                  exact eth.symm
                · rw [if_neg y] at eth
                  exact absurd eth.symm z
              omega
          · by_cases y : b + 1 < e
            · rw [if_pos y] at eth
              omega
            · rw [if_neg y] at eth
              exact absurd q (no e (by have := rt.lt; omega) (by omega))
        show ((es.length + 1 : Nat) : Int) ≤ _
        omega
    · have e1 : at_ = b + 1 := by omega
      subst e1
      exact iteDF c1 ⟨_, rfl, k l es H' s' ⟨as, el, ei, by have := line_big (n := es.length) (by omega); omega⟩ pk⟩
theorem sc_next_from : FnScope ["row", "moment", "paper", "at", "field", "then"] ["row", "moment"] (defScope s_next_from) := C8.fnScope_by (by decide +kernel)
theorem ok_next_from (T : Tx K mg) (c_never : C8.Cal P w K mg base 5 "never" (spNever K) []) (c_run_end : C8.Cal P w K mg base 8 "run_end" (spRunEnd K) []) (c_Row_shut_by : C8.Met P w K mg base 5 (He.ga K "Row") "shut_by" (spShutBy K) []) : C8.Cal P w K mg base 9 "next_from" (spNext K) [] := by
  refine cal_of T.g_next_from T.D_next_from sc_next_from (fun _ _ _ _ _ _ us hl => match us, hl with | [_, _], _ => rfl) (fun vs H Q E h => ?_) (fun cdv A outer s H vs Q E hr h => ?_)
  · obtain ⟨i, j, l, rfl, _⟩ := h
    rfl
  · obtain ⟨p, d, t, rfl, R, k1, k2⟩ := h
    refine ⟨_, (pss_cons (ps_if (pt_val (C8.pe_c c_never hr (by decide) rfl (pa_cons (pv 0) pa_nil))) (pss_one (ps_ret (pe_tupS (pa_cons pe_non (pa_cons (pe_lstS pa_nil) pa_nil))))) pss_nil)
      (pss_cons (ps_set (i := 2) sc_next_from.nd rfl (Or.inl rfl) (pe_lstS pa_nil))
      (pss_cons (ps_set (i := 3) sc_next_from.nd rfl (Or.inl rfl) (pv 1))
      (pss_cons (ps_set (i := 4) sc_next_from.nd rfl (Or.inl rfl) (C8.pe_mt c_Row_shut_by hr (by decide) (pv 0) (pa_cons (pv 3) pa_nil)))
      (pss_cons (ps_while PassesOwn.never (pt_cmpR op_notN (pv 4) pe_non (nomark _)) (pss_cons (ps_set (i := 5) sc_next_from.nd rfl (Or.inl rfl) (C8.pe_c c_run_end hr (by decide) rfl (pa_cons (pv 0) (pa_cons (pv 3) (pa_cons (pv 4) pa_nil)))))
      (pss_cons (ps_expr (pe_bm PySem.F.plainAttrs_list PySem.F.slot_list_append PySem.F.type_list_append mt_append (pv 2) (pa_cons (pe_tupS (pa_cons (pv 3) (pa_cons (pe_op op_sub (pv 5) pe_int) (pa_cons (pv 4) pa_nil)))) pa_nil)))
      (pss_cons (ps_set (i := 3) sc_next_from.nd rfl (Or.inl rfl) (pv 5))
      (pss_one (ps_set (i := 4) sc_next_from.nd rfl (Or.inl rfl) (C8.pe_mt c_Row_shut_by hr (by decide) (pv 0) (pa_cons (pv 3) pa_nil))))))))
      (pss_one (ps_ret (pe_tupS (pa_cons (pv 3) (pa_cons (pv 2) pa_nil)))))))))), ?_⟩
    refine ⟨_, rfl, p, d, rfl, R, fun H0 s0 => ⟨fun som => ⟨_, rfl, iteF ?_⟩, fun non => ⟨_, rfl, iteT ?_⟩⟩⟩
    · refine ⟨Nat.zero_le _, fun l H1 s1 hl1 e1 => ⟨_, rfl, ?_⟩⟩
      have hl : H l = none := s0.free hl1
      have s01 := s0.trans s1
      obtain ⟨⟨dx, v, w', h1, _, _⟩, ok⟩ := id (R.same s01)
      refine ⟨_, rfl, p, dx, _, rfl, h1, rfl, _, rfl, p, d, t, rfl, R.same s01, fun H2 s2 => ?_⟩
      obtain ⟨u, hu⟩ := next_ex ok.rw som t
      have far := hu.far
      have ule := hu.le
      unfold FAR at far
      refine ⟨fun c σ H' => ∃ (at_ : Int) (as : List Addr) (es : List (Int × Int × F)) (v1 : Option V), c = (u - at_).toNat ∧ t ≤ at_ ∧ at_ ≤ u ∧ Same H H' ∧ H' l = some (.lst (as.map V.ref)) ∧ EntIn H' as es ∧ PaperOk d.rw t at_ es ∧
        (es.length : Int) ≤ at_ / 60 - t / 60 + 1 ∧ (shut d.rw at_ ≠ none → (es.length : Int) ≤ at_ / 60 - t / 60) ∧ σ = [some (.ref p), some (.int t), some (.ref l), some (.int at_), some (fV (shut d.rw at_)), v1],
        ⟨_, t, [], [], none, rfl, Int.le_refl _, ule, s01.trans s2, s2 _ _ e1, True.intro, .nil, by show (0 : Int) ≤ _; omega, fun _ => by show (0 : Int) ≤ _; omega, rfl⟩, ?_⟩
      rintro c σ H' ⟨at_, as, es, v1, rfl, a1, a2, s', el, ei, pk, n1, n2, rfl⟩
      refine ⟨_, rfl, rfl, _, rfl, ?_⟩
      rw [fV_non]
      have R' := R.same s'
      cases hf : shut d.rw at_ with
      | none =>
        have eu : at_ = u := by
          by_cases q : at_ < u
          · exact absurd hf (hu.no at_ a1 q)
          · omega
        subst eu
        refine iteNT rfl ⟨_, rfl, _, rfl, (by show 2 ≤ sizeLine; decide), fun q H3 s3 _ eq => ?_⟩
        exact k2 som q l at_ es H3 (s'.trans s3) eq hu ⟨as, s3 _ _ el, ei.same s3, by have := line_big (n := es.length) (by omega); omega⟩ pk
      | some f =>
        have n2' := n2 (by rw [hf]; intro z; cases z)
        refine iteNF (by intro z; cases z) (again ?_)
        refine ⟨_, rfl, _, rfl, _, rfl, p, d, at_, f, rfl, R', hf, fun e H3 s3 rt => ?_⟩
        have el2 := s3 _ _ el
        refine ⟨_, rfl, .inl ⟨rfl, _, .inl (.inl el2)⟩, _, rfl, _, rfl, _, _, rfl, rfl, _, rfl, (by show 3 ≤ sizeLine; decide), fun q H4 s4 hq eq => ?_⟩
        have el3 := s4 _ _ el2
        refine ⟨l, _, _, rfl, rfl, el3, ?_, ?_⟩
        · rw [List.length_map, ei.len]
          exact line_big (by omega)
        have lt := rt.lt
        have eu : e ≤ u := by
          by_cases q : e ≤ u
          · exact q
          · have := rt.all u a2 (by omega)
            rw [hu.hold] at this
            cases this
        have s5 : Same H (upd H4 l (.lst (as.map V.ref ++ [V.ref q]))) := fun x o hx => by
          rw [upd_ne (ne_of_none hx hl)]
          exact s4 _ _ (s3 _ _ (s' _ _ hx))
        obtain ⟨⟨dx5, v5, w5, h5, _, _⟩, _⟩ := id (R.same s5)
        refine ⟨_, rfl, _, rfl, p, dx5, _, rfl, h5, rfl, _, rfl, p, d, e, rfl, R.same s5, fun H6 s6 => ?_⟩
        refine ⟨(u - e).toNat, by omega, e, as ++ [q], es ++ [(at_, e - 1, f)], _, rfl, by omega, eu, s5.trans s6, ?_, ?_, pk.snoc a1 lt (Int.le_refl _) rt.all, ?_, ?_, rfl⟩
        · refine s6 _ _ ?_
          rw [upd_same, List.map_append]
          rfl
        · exact ((((ei.same s3).same s4).snoc (e := (at_, e - 1, f)) eq).upd el3).same s6
        · rw [List.length_append]
          show ((es.length + 1 : Nat) : Int) ≤ _
          omega
        · intro ns
          rw [List.length_append]
          show ((es.length + 1 : Nat) : Int) ≤ _
          rcases rt.far with q | q
          · omega
          · exact absurd q ns
    · refine ⟨Nat.zero_le _, fun l H1 s1 _ e1 => ⟨(by show 2 ≤ sizeLine; decide), fun q H2 s2 _ e2 => ?_⟩⟩
      exact k1 non q l H2 ((s0.trans s1).trans s2) e2
theorem sc_greatest_in : FnScope ["mask", "most", "number"] ["mask", "most"] (defScope s_greatest_in) := C8.fnScope_by (by decide +kernel)
theorem ok_greatest_in (T : Tx K mg) (c_is_in : C8.Cal P w K mg base 1 "is_in" spIsIn []) : C8.Cal P w K mg base 2 "greatest_in" spGreat [] := by
  refine cal_of T.g_greatest_in T.D_greatest_in sc_greatest_in (fun _ _ _ _ _ _ us hl => match us, hl with | [_, _], _ => rfl) (fun vs H Q E h => ?_) (fun cdv A outer s H vs Q E hr h => ?_)
  · obtain ⟨i, j, rfl, _⟩ := h
    rfl
  · obtain ⟨m, z, rfl, z0, z1, k1, k2⟩ := h
    refine ⟨_, (pss_cons (ps_for PassesOwn.never rfl (pi_range3 rfl T.f_range (pa_cons (pv 1) (pa_cons (pe_un un_neg pe_int) (pa_cons (pe_un un_neg pe_int) pa_nil)))) (pg_name (i := 2) sc_greatest_in.nd rfl (Or.inl rfl)) (pss_one (ps_if (pt_val (C8.pe_c c_is_in hr (by decide) rfl (pa_cons (pv 0) (pa_cons (pv 2) pa_nil)))) (pss_one (ps_ret (pv 2))) pss_nil)))
      (pss_one (ps_ret pe_non))), ?_⟩
    refine ⟨_, rfl, _, rfl, _, rfl, z, -1, -1, _, rfl, RgC.neg (by omega) (by omega) (by decide) (by decide), ?_⟩
    refine for_rangeC (lo := z) (c := -1) (n := (z - -1).toNat) (fun i σ H' => H' = H ∧ (∀ j : Int, z - i < j → j ≤ z → m.testBit j.toNat = false) ∧ ∃ v, σ = [some (.int m), some (.int z), v]) ⟨rfl, fun j a b => by omega, _, rfl⟩ ?_ ?_
    · rintro i σ H' hi ⟨rfl, all, v, rfl⟩
      refine ⟨_, rfl, _, rfl, m, z + (i : Nat) * -1, rfl, by omega, _, rfl, ?_⟩
      cases hb : m.testBit (z + (i : Nat) * -1).toNat with
      | true => exact iteT ⟨_, rfl, k2 _ (by omega) (by omega) hb fun j a b => all j (by omega) b⟩
      | false =>
        refine iteF ⟨rfl, fun j a b => ?_, _, rfl⟩
        by_cases q : z - i < j
        · exact all j q b
        · rw [show j = z + (i : Nat) * -1 by omega]
          exact hb
    · rintro σ H' ⟨rfl, all, v, rfl⟩
      exact k1 fun j a b => all j (by omega) b
theorem sc_last_in_month : FnScope ["row", "year", "month", "upto", "time", "days", "day", "held"] ["row", "year", "month", "upto", "time"] (defScope s_last_in_month) := C8.fnScope_by (by decide +kernel)
theorem ok_last_in_month (T : Tx K mg) (c_kind_of : C8.Cal P w K mg base 4 "kind_of" spKindOf []) (c_greatest_in : C8.Cal P w K mg base 2 "greatest_in" spGreat []) (c_day_of : C8.Cal P w K mg base 3 "day_of" spDayOf [])
    (c_Row_days_in : C8.Met P w K mg base 4 (He.ga K "Row") "days_in" (spDaysIn K) []) (c_Row_times : C8.Met P w K mg base 2 (He.ga K "Row") "times" (spTimes K) []) : C8.Cal P w K mg base 5 "last_in_month" (spLim K) [] := by
  refine cal_of T.g_last_in_month T.D_last_in_month sc_last_in_month (fun _ _ _ _ _ _ us hl => match us, hl with | [_, _, _, _, _], _ => rfl) (fun vs H Q E h => ?_) (fun cdv A outer s H vs Q E hr h => ?_)
  · obtain ⟨i, j, l, f, g, rfl, _⟩ := h
    rfl
  · obtain ⟨p, d, M, upto, time, rfl, R, u1, u2, t1, t2, k⟩ := h
    refine ⟨_, (pss_cons (ps_set (i := 5) sc_last_in_month.nd rfl (Or.inl rfl) (C8.pe_mt c_Row_days_in hr (by decide) (pv 0) (pa_cons (C8.pe_c c_kind_of hr (by decide) rfl (pa_cons (pv 1) (pa_cons (pv 2) pa_nil))) pa_nil)))
      (pss_cons (ps_set (i := 6) sc_last_in_month.nd rfl (Or.inl rfl) (C8.pe_c c_greatest_in hr (by decide) rfl (pa_cons (pv 5) (pa_cons (pv 3) pa_nil))))
      (pss_cons (ps_if (pt_cmpR op_isN (pv 6) pe_non (nomark _)) (pss_one (ps_ret pe_non)) pss_nil)
      (pss_cons (ps_set (i := 7) sc_last_in_month.nd rfl (Or.inl rfl) (C8.pe_c c_greatest_in hr (by decide) rfl (pa_cons (C8.pe_mt0 c_Row_times hr (by decide) (pv 0)) (pa_cons (pe_ix ix_list (pe_lstS (pa_cons pe_int (pa_cons (pv 4) pa_nil))) (pe_callTy call_int1 (by rfl) T.f_int (by decide +kernel) (pa_cons (pe_cmpR op_eq (pv 6) (pv 3) (nomark _)) pa_nil)) (fun _ _ => rfl)) pa_nil))))
      (pss_cons (ps_if (pt_cmpR op_isN (pv 7) pe_non (nomark _)) (pss_cons (ps_set (i := 6) sc_last_in_month.nd rfl (Or.inl rfl) (C8.pe_c c_greatest_in hr (by decide) rfl (pa_cons (pv 5) (pa_cons (pe_op op_sub (pv 3) pe_int) pa_nil))))
      (pss_cons (ps_if (pt_cmpR op_isN (pv 6) pe_non (nomark _)) (pss_one (ps_ret pe_non)) pss_nil)
      (pss_one (ps_set (i := 7) sc_last_in_month.nd rfl (Or.inl rfl) (C8.pe_c c_greatest_in hr (by decide) rfl (pa_cons (C8.pe_mt0 c_Row_times hr (by decide) (pv 0)) (pa_cons pe_int pa_nil))))))) pss_nil)
      (pss_one (ps_ret (pe_op op_add (pe_op op_mul pe_int (C8.pe_c c_day_of hr (by decide) rfl (pa_cons (pv 1) (pa_cons (pv 2) (pa_cons (pv 6) pa_nil))))) (pv 7))))))))), ?_⟩
    obtain ⟨⟨dx, v, w', h1, _, _⟩, ok⟩ := id R
    have kr := kind_range (monthOf 0)
    have krM := kind_range M
    have bd : ∀ j : Int, 0 ≤ j → (d.rw.dy (kindOf M)).testBit j.toNat = true → 1 ≤ j ∧ j ≤ mLen M := fun j j0 hj => by
      have := ok.rw.dy1 (kindOf M) j.toNat krM.1 krM.2 hj
      rw [kLen_kind] at this
      omega
    obtain ⟨zt, zt1, zt2⟩ := tm_ex ok.rw
    refine ⟨_, rfl, p, dx, _, rfl, h1, rfl, _, rfl, _, rfl, M, rfl, fun H1 s1 => ⟨p, d, kindOf M, rfl, R.same s1, krM.1, krM.2, fun H2 s2 => ?_⟩⟩
    have s12 := s1.trans s2
    have R2 := R.same s12
    obtain ⟨⟨dx2, v2, w2, h2, _, _⟩, _⟩ := id R2
    refine ⟨_, rfl, _, rfl, d.rw.dy (kindOf M), upto, rfl, by omega, by omega, fun non => ?_, fun j j0 j1 jb jm => ?_⟩
    · exact ⟨_, rfl, rfl, _, rfl, iteDT rfl ((k H2 s12).1 fun d' z' a1 a2 up b1 b2 => by
        have := non d' (by omega) up.1
        rw [b1] at this
        cases this)⟩
    refine ⟨_, rfl, rfl, _, rfl, iteDF (by intro z; cases z) ?_⟩
    obtain ⟨jl1, jl2⟩ := bd j j0 jb
    refine ⟨_, rfl, p, dx2, _, rfl, h2, rfl, p, d, rfl, R2, fun tm H3 s3 htm => ?_⟩
    refine ⟨_, rfl, (by show 2 ≤ sizeLine; decide), fun lq H4 s4 _ e4 => ?_⟩
    refine ⟨_, rfl, _, rfl, rfl, .inr ⟨_, rfl, ?_⟩⟩
    -- the bound on that day
    obtain ⟨T0, eT, T1, T2⟩ : ∃ T0 : Int, atI ([V.int 1439, V.int time]) (if decide (V.int j = V.int upto) = true then 1 else 0) = some (V.int T0) ∧ T0 = (if j = upto then time else 1439) ∧ 0 ≤ T0 ∧ T0 ≤ 1439 := by
      by_cases c : j = upto
      · exact ⟨time, by rw [iv, decide_eq_true c]; rfl, (if_pos c).symm, t1, t2⟩
      · exact ⟨1439, by rw [iv, decide_eq_false c]; rfl, (if_neg c).symm, by decide, by decide⟩
    have s14 := (s12.trans s3).trans s4
    have ltm : ∀ z : Int, 0 ≤ z → z ≤ 1439 → tm.testBit z.toNat = tmOk d.rw z.toNat := fun z a b => htm z.toNat (by omega)
    refine ⟨lq, _, _, _, rfl, rfl, .inl (.inl e4), eT, ?_⟩
    -- what the greatest time tells
    have fin : ∀ (jd : Int) (z : Int) (H5 : Hp), Same H H5 → 1 ≤ jd → jd ≤ mLen M → 0 ≤ z → z ≤ 1439 → LimSome d.rw M upto time (1440 * (mStart M + jd - 1) + z) → Q (.int (1440 * (mStart M + jd - 1) + z)) H5 := fun jd z H5 s5 _ _ _ _ l => (k H5 s5).2 _ l
    refine ⟨tm, T0, rfl, T2.1, by omega, fun non => ?_, fun z z0 z1 zb zm => ?_⟩
    · refine ⟨_, rfl, rfl, _, rfl, iteDT rfl ?_⟩
      have ju : j = upto := by
        by_cases c : j = upto
        · exact c
        · rw [if_neg c] at T1
          have := non zt (by omega) (by omega)
          rw [ltm zt (by omega) (by omega), Int.toNat_natCast, zt2] at this
          cases this
      have eT0 : T0 = time := by rw [T1, if_pos ju]
      -- no time of that day is early enough
      have early : ∀ z' : Nat, z' < 1440 → (z' : Int) ≤ time → tmOk d.rw z' = true → False := fun z' a b c => by
        have := non z' (by omega) (by omega)
        rw [ltm z' (by omega) (by omega), Int.toNat_natCast, c] at this
        cases this
      refine ⟨_, rfl, _, rfl, _, _, rfl, rfl, d.rw.dy (kindOf M), upto - 1, rfl, by omega, by omega, fun non2 => ?_, fun j2 j20 j21 j2b j2m => ?_⟩
      · exact ⟨_, rfl, rfl, _, rfl, iteDT rfl ((k H4 s14).1 fun d' z' a1 a2 up b1 b2 => by
          by_cases c : d' = upto
          · exact early z' a2 (up.2 c) b2
          · have := non2 d' (by omega) (by have := up.1; omega)
            rw [b1] at this
            cases this)⟩
      · obtain ⟨jl3, jl4⟩ := bd j2 j20 j2b
        obtain ⟨⟨dx4, v4, w4, h4, _, _⟩, _⟩ := id (R.same s14)
        refine ⟨_, rfl, rfl, _, rfl, iteDF (by intro z; cases z) ?_⟩
        refine ⟨_, rfl, p, dx4, _, rfl, h4, rfl, p, d, rfl, R.same s14, fun tm2 H5 s5 htm2 => ?_⟩
        have ltm2 : ∀ z : Int, 0 ≤ z → z ≤ 1439 → tm2.testBit z.toNat = tmOk d.rw z.toNat := fun z a b => htm2 z.toNat (by omega)
        refine ⟨tm2, 1439, rfl, by decide, by decide, fun non3 => ?_, fun z z0 z1 zb zm => ?_⟩
        · exfalso
          have := non3 zt (by omega) (by omega)
          rw [ltm2 zt (by omega) (by omega), Int.toNat_natCast, zt2] at this
          cases this
        · refine ⟨_, rfl, _, rfl, _, rfl, M, j2, rfl, jl3, jl4, fun H6 s6 => ⟨_, _, rfl, rfl, .inl ⟨by decide, by decide⟩, _, rfl, _, _, rfl, rfl, ?_⟩⟩
          refine fin j2 z H6 ((s14.trans s5).trans s6) jl3 jl4 z0 z1 ⟨j2, z.toNat, jl3, jl4, by omega, ⟨by omega, fun q => by omega⟩, j2b, ?_, by omega, fun d' z' a1 a2 up b1 b2 => ?_⟩
          · rw [← ltm2 z z0 z1]
            exact zb
          · have du : d' ≠ upto := fun c => early z' a2 (up.2 c) b2
            have dl : d' ≤ j2 := by
              by_cases q : d' ≤ j2
              · exact q
              · have := j2m d' (by omega) (by have := up.1; omega)
                rw [b1] at this
                cases this
            by_cases q : d' < j2
            · exact .inl q
            · refine .inr ⟨by omega, ?_⟩
              by_cases y : (z' : Int) ≤ z
              · omega
              · have := zm z' (by omega) (by omega)
                rw [ltm2 z' (by omega) (by omega), Int.toNat_natCast, b2] at this
                cases this
    · refine ⟨_, rfl, rfl, _, rfl, iteDF (by intro z; cases z) ?_⟩
      refine ⟨_, rfl, _, rfl, _, rfl, M, j, rfl, jl1, jl2, fun H6 s6 => ⟨_, _, rfl, rfl, .inl ⟨by decide, by decide⟩, _, rfl, _, _, rfl, rfl, ?_⟩⟩
      refine fin j z H6 (s14.trans s6) jl1 jl2 z0 (by omega) ⟨j, z.toNat, jl1, jl2, by omega, ⟨j1, fun q => ?_⟩, jb, ?_, by omega, fun d' z' a1 a2 up b1 b2 => ?_⟩
      · rw [if_pos q] at T1
        omega
      · rw [← ltm z z0 (by omega)]
        exact zb
      · have dl : d' ≤ j := by
          by_cases q : d' ≤ j
          · exact q
          · have := jm d' (by omega) up.1
            rw [b1] at this
            cases this
        by_cases q : d' < j
        · exact .inl q
        · refine .inr ⟨by omega, ?_⟩
          by_cases y : (z' : Int) ≤ z
          · omega
          · have le : (z' : Int) ≤ T0 := by
              by_cases c : j = upto
              · rw [if_pos c] at T1
                have := up.2 (by omega)
                omega
              · rw [if_neg c] at T1
                omega
            have := zm z' (by omega) le
            rw [ltm z' (by omega) (by omega), Int.toNat_natCast, b2] at this
            cases this
theorem sc_held_back : FnScope ["row", "moment", "number", "hour", "minute", "year", "month", "day", "found"] ["row", "moment"] (defScope s_held_back) := C8.fnScope_by (by decide +kernel)
theorem ok_held_back (T : Tx K mg) (c_parted : C8.Cal P w K mg base 1 "parted" spParted []) (c_date_of : C8.Cal P w K mg base 3 "date_of" spDateOf []) (c_last_in_month : C8.Cal P w K mg base 5 "last_in_month" (spLim K) []) : C8.Cal P w K mg base 6 "held_back" (spHeld K) [] := by
  refine cal_of T.g_held_back T.D_held_back sc_held_back (fun _ _ _ _ _ _ us hl => match us, hl with | [_, _], _ => rfl) (fun vs H Q E h => ?_) (fun cdv A outer s H vs Q E hr h => ?_)
  · obtain ⟨i, j, l, rfl, _⟩ := h
    rfl
  · obtain ⟨p, d, t, rfl, R, som, k⟩ := h
    have o := R.ok.rw
    obtain ⟨u, hu⟩ := last_ex o som t
    refine ⟨_, (pss_cons (ps_asg (C8.pe_c c_parted hr (by decide) rfl (pa_cons (pv 1) pa_nil)) (pg_tup rfl (pgs_cons (pg_name (i := 2) sc_held_back.nd rfl (Or.inl rfl)) (pgs_cons (pg_name (i := 3) sc_held_back.nd rfl (Or.inl rfl)) (pgs_cons (pg_name (i := 4) sc_held_back.nd rfl (Or.inl rfl)) pgs_nil)))))
      (pss_cons (ps_asg (C8.pe_c c_date_of hr (by decide) rfl (pa_cons (pv 2) pa_nil)) (pg_tup rfl (pgs_cons (pg_name (i := 5) sc_held_back.nd rfl (Or.inl rfl)) (pgs_cons (pg_name (i := 6) sc_held_back.nd rfl (Or.inl rfl)) (pgs_cons (pg_name (i := 7) sc_held_back.nd rfl (Or.inl rfl)) pgs_nil)))))
      (pss_cons (ps_set (i := 8) sc_held_back.nd rfl (Or.inl rfl) (C8.pe_c c_last_in_month hr (by decide) rfl (pa_cons (pv 0) (pa_cons (pv 5) (pa_cons (pv 6) (pa_cons (pv 7) (pa_cons (pe_op op_add (pe_op op_mul pe_int (pv 3)) (pv 4)) pa_nil)))))))
      (pss_cons (ps_while PassesOwn.never (pt_cmpR op_isN (pv 8) pe_non (nomark _)) (pss_cons (ps_set (i := 6) sc_held_back.nd rfl (Or.inl rfl) (pe_op op_sub (pv 6) pe_int))
      (pss_cons (ps_if (pt_cmpR op_lt (pv 6) pe_int (nomark _)) (pss_cons (ps_set (i := 5) sc_held_back.nd rfl (Or.inl rfl) (pe_op op_sub (pv 5) pe_int))
      (pss_one (ps_set (i := 6) sc_held_back.nd rfl (Or.inl rfl) pe_int))) pss_nil)
      (pss_one (ps_set (i := 8) sc_held_back.nd rfl (Or.inl rfl) (C8.pe_c c_last_in_month hr (by decide) rfl (pa_cons (pv 0) (pa_cons (pv 5) (pa_cons (pv 6) (pa_cons pe_int (pa_cons pe_int pa_nil)))))))))))
      (pss_one (ps_ret (pv 8))))))), ?_⟩
    refine ⟨_, rfl, t, rfl, fun q1 H1 s1 e1 => ⟨q1, _, rfl, .inl (.inl e1), rfl, _, _, rfl, _, _, rfl, _, _, rfl, rfl, ?_⟩⟩
    refine ⟨_, rfl, t / 1440, rfl, fun q2 H2 s2 e2 => ⟨q2, _, rfl, .inl (.inl e2), rfl, _, _, rfl, _, _, rfl, _, _, rfl, rfl, ?_⟩⟩
    have s12 := s1.trans s2
    have dr := domOf_range (t / 1440)
    have ml := mLen_range (monthOf (t / 1440))
    have et : 60 * (t % 1440 / 60) + t % 1440 % 60 = t % 1440 := by omega
    refine ⟨_, rfl, _, rfl, _, rfl, _, rfl, _, rfl, _, _, rfl, rfl, .inl ⟨by decide, by decide⟩, _, rfl, _, _, rfl, rfl, ?_⟩
    refine ⟨p, d, monthOf (t / 1440), domOf (t / 1440), t % 1440, (by show [V.ref p, V.int (monthOf (t / 1440) / 12), V.int (monthOf (t / 1440) % 12 + 1), V.int (domOf (t / 1440)), V.int (60 * (t % 1440 / 60) + t % 1440 % 60)] = _; rw [et]), R.same s12, dr.1, by omega, by omega, by omega, fun H3 s3 => ?_⟩
    have s13 := s12.trans s3
    -- the loop from a found, or from none
    have start : ∀ (fnd : V), (fnd = .non ∧ NoFrom d.rw (monthOf (t / 1440)) t) ∨ fnd = .int u → ∃ m : Nat, ∃ (M : Int) (f : V), m = (M - monthOf (u / 1440)).toNat ∧ Same H H3 ∧ 1440 * mStart M ≤ t ∧ ((f = .non ∧ NoFrom d.rw M t) ∨ f = .int u) ∧
        [some (V.ref p), some (V.int t), some (V.int (t / 1440)), some (V.int (t % 1440 / 60)), some (V.int (t % 1440 % 60)), some (V.int (monthOf (t / 1440) / 12)), some (V.int (monthOf (t / 1440) % 12 + 1)), some (V.int (domOf (t / 1440))), some fnd] =
        [some (V.ref p), some (V.int t), some (V.int (t / 1440)), some (V.int (t % 1440 / 60)), some (V.int (t % 1440 % 60)), some (V.int (M / 12)), some (V.int (M % 12 + 1)), some (V.int (domOf (t / 1440))), some f] := fun fnd hf =>
      ⟨_, monthOf (t / 1440), fnd, rfl, s13, by have := (monthOf_spec (t / 1440)).1; omega, hf, rfl⟩
    have one : ∀ v, LimSome d.rw (monthOf (t / 1440)) (domOf (t / 1440)) (t % 1440) v → V.int v = V.int u := fun v l => congrArg V.int (last_one hu (Int.le_refl _) hu.le (last_first o ⟨u, hu⟩ l))
    refine ⟨fun non => ?_, fun v l => ?_⟩
    all_goals
      refine ⟨fun m σ H' => ∃ (M : Int) (f : V), m = (M - monthOf (u / 1440)).toNat ∧ Same H H' ∧ 1440 * mStart M ≤ t ∧ ((f = .non ∧ NoFrom d.rw M t) ∨ f = .int u) ∧
        σ = [some (V.ref p), some (V.int t), some (V.int (t / 1440)), some (V.int (t % 1440 / 60)), some (V.int (t % 1440 % 60)), some (V.int (M / 12)), some (V.int (M % 12 + 1)), some (V.int (domOf (t / 1440))), some f], start _ ?_, ?_⟩
      · first
          | exact .inl ⟨rfl, noFrom_first o non⟩
          | exact .inr (one v l)
      rintro m σ H' ⟨M, f, rfl, s', Mt, hf, rfl⟩
      refine ⟨_, rfl, rfl, _, rfl, ?_⟩
      rcases hf with ⟨rfl, nf⟩ | rfl
      · have lt := noFrom_lt nf hu
        refine iteDT rfl (again ?_)
        refine ⟨_, rfl, _, _, rfl, rfl, ?_⟩
        have ms := mStart_succ (M - 1)
        have ml2 := mLen_range (M - 1)
        rw [show M - 1 + 1 = M by omega] at ms
        refine ⟨_, rfl, _, _, rfl, rfl, _, rfl, ?_⟩
        by_cases c1 : M % 12 = 0
        · refine iteDT (by omega) ⟨_, rfl, _, _, rfl, rfl, ?_⟩
          refine ⟨_, rfl, _, rfl, _, rfl, p, d, M - 1, 31, 1439, ?_, R.same s', by decide, by decide, by decide, by decide, fun H5 s5 => ⟨fun non2 => ?_, fun v2 l2 => ?_⟩⟩
          · rw [show (M - 1) / 12 = M / 12 - 1 by omega, show (M - 1) % 12 + 1 = 12 by omega]
            rfl
          · refine ⟨(M - 1 - monthOf (u / 1440)).toNat, by omega, M - 1, .non, rfl, s'.trans s5, by omega, .inl ⟨rfl, noFrom_step o nf non2⟩, ?_⟩
            rw [show (M - 1) / 12 = M / 12 - 1 by omega, show (M - 1) % 12 + 1 = 12 by omega]
            rfl
          · refine ⟨(M - 1 - monthOf (u / 1440)).toNat, by omega, M - 1, .int v2, rfl, s'.trans s5, by omega, .inr ?_, ?_⟩
            · exact congrArg V.int (last_one hu (Int.le_refl _) hu.le (last_step o ⟨u, hu⟩ nf Mt l2))
            · rw [show (M - 1) / 12 = M / 12 - 1 by omega, show (M - 1) % 12 + 1 = 12 by omega]
              rfl
        · refine iteDF (by omega) ?_
          refine ⟨_, rfl, _, rfl, _, rfl, p, d, M - 1, 31, 1439, ?_, R.same s', by decide, by decide, by decide, by decide, fun H5 s5 => ⟨fun non2 => ?_, fun v2 l2 => ?_⟩⟩
          · rw [show (M - 1) / 12 = M / 12 by omega, show (M - 1) % 12 + 1 = M % 12 + 1 - 1 by omega]
            rfl
          · refine ⟨(M - 1 - monthOf (u / 1440)).toNat, by omega, M - 1, .non, rfl, s'.trans s5, by omega, .inl ⟨rfl, noFrom_step o nf non2⟩, ?_⟩
            rw [show (M - 1) / 12 = M / 12 by omega, show (M - 1) % 12 + 1 = M % 12 + 1 - 1 by omega]
            rfl
          · refine ⟨(M - 1 - monthOf (u / 1440)).toNat, by omega, M - 1, .int v2, rfl, s'.trans s5, by omega, .inr ?_, ?_⟩
            · exact congrArg V.int (last_one hu (Int.le_refl _) hu.le (last_step o ⟨u, hu⟩ nf Mt l2))
            · rw [show (M - 1) / 12 = M / 12 by omega, show (M - 1) % 12 + 1 = M % 12 + 1 - 1 by omega]
              rfl
      · exact iteDF (by intro z; cases z) ⟨_, rfl, k u H' s' hu⟩
theorem sc_last_to : FnScope ["row", "moment", "found"] ["row", "moment"] (defScope s_last_to) := C8.fnScope_by (by decide +kernel)
theorem ok_last_to (T : Tx K mg) (c_never : C8.Cal P w K mg base 5 "never" (spNever K) []) (c_held_back : C8.Cal P w K mg base 6 "held_back" (spHeld K) []) (c_runs_to : C8.Cal P w K mg base 9 "runs_to" (spRuns K) []) : C8.Cal P w K mg base 10 "last_to" (spLast K) [] := by
  refine cal_of T.g_last_to T.D_last_to sc_last_to (fun _ _ _ _ _ _ us hl => match us, hl with | [_, _], _ => rfl) (fun vs H Q E h => ?_) (fun cdv A outer s H vs Q E hr h => ?_)
  · obtain ⟨i, j, l, rfl, _⟩ := h
    rfl
  · obtain ⟨p, d, t, rfl, R, k1, k2⟩ := h
    refine ⟨_, (pss_cons (ps_if (pt_val (C8.pe_c c_never hr (by decide) rfl (pa_cons (pv 0) pa_nil))) (pss_one (ps_ret (pe_tupS (pa_cons pe_non (pa_cons (pe_lstS pa_nil) pa_nil))))) pss_nil)
      (pss_cons (ps_set (i := 2) sc_last_to.nd rfl (Or.inl rfl) (C8.pe_c c_held_back hr (by decide) rfl (pa_cons (pv 0) (pa_cons (pv 1) pa_nil))))
      (pss_one (ps_ret (pe_tupS (pa_cons (pv 2) (pa_cons (C8.pe_c c_runs_to hr (by decide) rfl (pa_cons (pv 0) (pa_cons (pe_op op_add (pv 2) pe_int) (pa_cons (pv 1) pa_nil)))) pa_nil))))))), ?_⟩
    refine ⟨_, rfl, p, d, rfl, R, fun H0 s0 => ⟨fun som => ⟨_, rfl, iteF ?_⟩, fun non => ⟨_, rfl, iteT ?_⟩⟩⟩
    · refine ⟨_, rfl, _, rfl, p, d, t, rfl, R.same s0, som, fun u H1 s1 hu => ?_⟩
      have s01 := s0.trans s1
      refine ⟨_, rfl, _, rfl, _, rfl, _, _, rfl, rfl, _, rfl, p, d, u + 1, t, rfl, R.same s01, fun v a b => hu.no v (by omega) b, by have := hu.far; omega, fun l es H2 s2 pa po => ?_⟩
      exact ⟨(by show 2 ≤ sizeLine; decide), fun q H3 s3 _ e3 => k2 som q l u es H3 ((s01.trans s2).trans s3) e3 hu (pa.same s3) po⟩
    · refine ⟨Nat.zero_le _, fun l H1 s1 _ e1 => ⟨(by show 2 ≤ sizeLine; decide), fun q H2 s2 _ e2 => ?_⟩⟩
      exact k1 non q l H2 ((s0.trans s1).trans s2) e2
end
end K58
set_option Elab.async false
set_option maxRecDepth 100000
set_option maxHeartbeats 4000000
set_option linter.all false
namespace K58
open PySem PySem.Spec PyProof.Rows L2
section
variable {P : Program} {w : World} {K : PySem.W.Frag} {mg : Str → Option Value} {base : Heap}
/-! ### papers as data -/
def eD (e : Int × Int × F) : PyData := .tuple [.int e.1, .int e.2.1, .str (fS e.2.2)]
theorem eD_can (e : Int × Int × F) : (eD e).canLay0 = true := by
  obtain ⟨a, b, f⟩ := e
  have h : PyData.canLay0 (.str (fS f)) = true := by
    cases f <;> decide +kernel
  show (true && (true && (PyData.canLay0 (.str (fS f)) && true))) = true
  rw [h]
  rfl
theorem eDs_can : ∀ es : List (Int × Int × F), PyData.canLayAll0 (es.map eD) = true
  | [] => rfl
  | e :: es => by
    show ((eD e).canLay0 && PyData.canLayAll0 (es.map eD)) = true
    rw [eD_can, eDs_can es]
    rfl
theorem eDs_depth : ∀ es : List (Int × Int × F), PyData.depthAll (es.map eD) ≤ 1
  | [] => by
    show 0 ≤ 1
    omega
  | e :: es => by
    show max (eD e).depth (PyData.depthAll (es.map eD)) ≤ 1
    have := eDs_depth es
    have h : (eD e).depth = 1 := rfl
    omega
theorem paper_shaped (es : List (Int × Int × F)) : SeqAt.shaped (.list (es.map eD)) = true := by
  have h1 : PyData.canLay0 (.list (es.map eD)) = true := eDs_can es
  have h2 : PyData.depth (.list (es.map eD)) ≤ 64 := by
    show PyData.depthAll (es.map eD) + 1 ≤ 64
    have := eDs_depth es
    omega
  unfold SeqAt.shaped
  rw [h1, decide_eq_true h2]
  rfl
theorem paper_all {H : Hp} : ∀ {as : List Addr} {es : List (Int × Int × F)}, EntIn H as es → DpAll K H (as.map V.ref) (es.map eD)
  | [], [], _ => .nil
  | a :: as, e :: es, ⟨h1, h2⟩ => .cons (.tup (.inl (.inl h1)) (.cons (.int _) (.cons (.int _) (.cons (.str _) .nil)))) (paper_all h2)
  | [], _ :: _, h => h.elim
  | _ :: _, [], h => h.elim
theorem paper_eq (es : List (Int × Int × F)) : PyData.eqv (.list (es.map eD)) (.list []) = es.isEmpty := by
  cases es <;> rfl
theorem sc__law_between : FnScope ["_law_row", "_law_told", "_law_cell", "_law_found", "_law_paper", "_law_first", "_law_last", "_law_word", "_law_here"] ["_law_row", "_law_told", "_law_cell"] (defScope s__law_between) := C8.fnScope_by (by decide +kernel)
theorem ok__law_between (T : Tx K mg) (c_Row_holds : C8.Met P w K mg base 6 (He.ga K "Row") "holds" (spHolds K) []) (c_Row_shut_by : C8.Met P w K mg base 5 (He.ga K "Row") "shut_by" (spShutBy K) []) : C8.Cal P w K mg base 7 "_law_between" (spBetween K) [] := by
  refine cal_of T.g__law_between T.D__law_between sc__law_between (fun _ _ _ _ _ _ us hl => match us, hl with | [_, _, _], _ => rfl) (fun vs H Q E h => ?_) (fun cdv A outer s H vs Q E hr h => ?_)
  · obtain ⟨i, j, l, a, b, c, f, e, g, rfl, _⟩ := h
    rfl
  · obtain ⟨p, q, l, d, u, lo, hi, cell, es, rfl, R, hq, hold, pa, po, k⟩ := h
    refine ⟨_, (pss_cons (ps_asg (pv 1) (pg_tup rfl (pgs_cons (pg_name (i := 3) sc__law_between.nd rfl (Or.inl rfl)) (pgs_cons (pg_name (i := 4) sc__law_between.nd rfl (Or.inl rfl)) pgs_nil))))
      (pss_cons (ps_if (PW.pt (pw_or (pt_cmpR op_notBl (C8.pe_mt c_Row_holds hr (by decide) (pv 0) (pa_cons (pv 3) pa_nil)) pe_bl (nomark _)) (pw_or1 (pt_cmpR op_notN (C8.pe_mt c_Row_shut_by hr (by decide) (pv 0) (pa_cons (pv 3) pa_nil)) pe_non (nomark _))))) (pss_one (ps_ret pe_non)) pss_nil)
      (pss_cons (ps_if (pt_cmpR (op_eqD hr.units) (pv 4) (pe_lstS pa_nil) (nomark _)) (pss_one (ps_ret (pv 3))) pss_nil)
      (pss_cons (ps_asg (pe_ix ix_list (pv 4) (pe_op op_mod (pv 2) (pe_callB call_len (by rfl) T.f_len (by decide +kernel) (pa_cons (pv 4) pa_nil))) (fun _ _ => rfl)) (pg_tup rfl (pgs_cons (pg_name (i := 5) sc__law_between.nd rfl (Or.inl rfl)) (pgs_cons (pg_name (i := 6) sc__law_between.nd rfl (Or.inl rfl)) (pgs_cons (pg_name (i := 7) sc__law_between.nd rfl (Or.inl rfl)) pgs_nil)))))
      (pss_cons (ps_set (i := 8) sc__law_between.nd rfl (Or.inl rfl) (pe_op op_add (pv 5) (pe_op op_mod (pe_op op_fdiv (pv 2) pe_int) (pe_op op_add (pe_op op_sub (pv 6) (pv 5)) pe_int))))
      (pss_cons (ps_if (PW.pt (pw_or (pt_cmpR op_notBl (C8.pe_mt c_Row_holds hr (by decide) (pv 0) (pa_cons (pv 8) pa_nil)) pe_bl (nomark _)) (pw_or1 (pt_cmpR op_ne (C8.pe_mt c_Row_shut_by hr (by decide) (pv 0) (pa_cons (pv 8) pa_nil)) (pv 7) (nomark _))))) (pss_one (ps_ret pe_non)) pss_nil)
      (pss_one (ps_ret (pv 8))))))))), ?_⟩
    obtain ⟨⟨dx, v, w', h1, _, _⟩, _⟩ := id R
    refine ⟨_, rfl, q, _, rfl, .inl (.inl hq), rfl, _, _, rfl, _, _, rfl, rfl, ?_⟩
    refine ⟨_, rfl, p, dx, _, rfl, h1, rfl, _, rfl, p, d, u, rfl, R, fun H1 s1 => ⟨_, true, rfl, rfl, _, rfl, iteNT (decide_eq_true hold) ?_⟩⟩
    obtain ⟨⟨dx1, v1, w1, h11, _, _⟩, _⟩ := id (R.same s1)
    refine ⟨_, rfl, p, dx1, _, rfl, h11, rfl, _, rfl, p, d, u, rfl, R.same s1, fun H2 s2 => ⟨rfl, _, rfl, iteNT (by rw [hold]; rfl) ?_⟩⟩
    have s12 := s1.trans s2
    have R2 := R.same s12
    obtain ⟨as, a1, a2, a3⟩ := pa.same s12
    refine ⟨_, rfl, Nat.zero_le _, fun l0 H3 s3 _ e3 => ?_⟩
    have s13 := s12.trans s3
    refine ⟨.list (es.map eD), .list [], .lst (.inl (.inl (s3 _ _ a1))) (paper_all (a2.same s3)), .lst (.inl (.inl e3)) .nil, paper_shaped es, by decide, _, rfl, ?_⟩
    rw [paper_eq]
    by_cases c : es = []
    · subst c
      exact iteT ⟨_, rfl, k u H3 s13 (.inl rfl)⟩
    have hn : 0 < es.length := List.length_pos_iff.mpr c
    refine iteBF (by cases es with | nil => exact absurd rfl c | cons _ _ => rfl) ?_
    have a13 := s3 _ _ a1
    have hl := a2.len
    -- the drawn stretch
    have hj : (cell % (es.length : Int)).toNat < es.length := by
      have h0 := Int.emod_nonneg cell (show (es.length : Int) ≠ 0 by omega)
      have h1 := Int.emod_lt_of_pos cell (show (0 : Int) < (es.length : Int) by omega)
      omega
    have hja : (cell % (es.length : Int)).toNat < as.length := by omega
    have ea : as[(cell % (es.length : Int)).toNat]? = some as[(cell % (es.length : Int)).toNat] := List.getElem?_eq_getElem hja
    obtain ⟨e, ee, he⟩ := (a2.same s3).get ea
    have em : e ∈ es := List.mem_of_getElem? ee
    obtain ⟨b1, b2, b3, b4⟩ := po e em
    refine ⟨_, rfl, _, rfl, _, rfl, _, es.length, rfl, .inl ⟨_, .inl (.inl a13), by rw [List.length_map, hl]⟩, _, _, rfl, rfl, (by show (0 : Int) < (es.length : Nat); omega), ?_⟩
    refine ⟨_, _, _, _, rfl, rfl, .inl (.inl a13), at_of (j := (cell % (es.length : Int)).toNat) ?_ (by rw [List.getElem?_map, ea]; rfl), ?_⟩
    · have h0 := Int.emod_nonneg cell (show (es.length : Int) ≠ 0 by omega)
      omega
    refine ⟨_, _, rfl, .inl (.inl he), rfl, _, _, rfl, _, _, rfl, _, _, rfl, rfl, ?_⟩
    have pos : (0 : Int) < e.2.1 - e.1 + 1 := by omega
    refine ⟨_, rfl, _, rfl, _, _, rfl, rfl, ⟨by decide, by decide⟩, _, rfl, _, rfl, _, _, rfl, rfl, _, _, rfl, rfl, _, _, rfl, rfl, pos, _, _, rfl, rfl, ?_⟩
    obtain ⟨here, eh⟩ : ∃ here, e.1 + cell / 100 % (e.2.1 - e.1 + 1) = here := ⟨_, rfl⟩
    have h0 := Int.emod_nonneg (cell / 100) (show e.2.1 - e.1 + 1 ≠ 0 by omega)
    have h1' := Int.emod_lt_of_pos (cell / 100) pos
    have hs := b4 here (by omega) (by omega)
    show L2.tSeq _ _ _ (([_, _, _, _, _, _, _, _, some (V.int (e.1 + cell / 100 % (e.2.1 - e.1 + 1)))] : L2.St)) _
    rw [eh]
    have R3 := R2.same s3
    obtain ⟨⟨dx3, v3, w3, h3, _, _⟩, _⟩ := id R3
    refine ⟨_, rfl, p, dx3, _, rfl, h3, rfl, _, rfl, p, d, here, rfl, R3, fun H4 s4 => ⟨_, false, rfl, rfl, _, rfl, iteNT (decide_eq_false (by rw [hs]; intro z; cases z)) ?_⟩⟩
    obtain ⟨⟨dx4, v4, w4, h4, _, _⟩, _⟩ := id (R3.same s4)
    refine ⟨_, rfl, p, dx4, _, rfl, h4, rfl, _, rfl, p, d, here, rfl, R3.same s4, fun H5 s5 => ⟨_, rfl, scal_fV _ _, _, rfl, ?_⟩⟩
    rw [fV_eq]
    exact iteNT hs ⟨_, rfl, k here H5 ((s13.trans s4).trans s5) (.inr ⟨by omega, by omega⟩)⟩
theorem sc__law_right : FnScope ["_law_row", "_law_moment_here", "_law_one", "_law_other", "_law_told", "_law_here"] ["_law_row", "_law_moment_here", "_law_one", "_law_other"] (defScope s__law_right) := C8.fnScope_by (by decide +kernel)
theorem ok__law_right (T : Tx K mg) (c_next_from : C8.Cal P w K mg base 9 "next_from" (spNext K) []) (c_last_to : C8.Cal P w K mg base 10 "last_to" (spLast K) []) (c__law_between : C8.Cal P w K mg base 7 "_law_between" (spBetween K) []) : C8.Cal P w K mg base 11 "_law_right" (spRight K) [] := by
  refine cal_of T.g__law_right T.D__law_right sc__law_right (fun _ _ _ _ _ _ us hl => match us, hl with | [_, _, _, _], _ => rfl) (fun vs H Q E h => ?_) (fun cdv A outer s H vs Q E hr h => ?_)
  · obtain ⟨i, j, l, a, b, rfl, _⟩ := h
    rfl
  · obtain ⟨p, d, t, one, other, rfl, R, k⟩ := h
    refine ⟨_, (pss_cons (ps_set (i := 4) sc__law_right.nd rfl (Or.inl rfl) (C8.pe_c c_next_from hr (by decide) rfl (pa_cons (pv 0) (pa_cons (pv 1) pa_nil))))
      (pss_cons (ps_if (pt_cmpR op_isN (pe_ix ix_tup (pv 4) pe_int (fun _ _ => rfl)) pe_non (nomark _)) (pss_one (ps_ret (pe_cmpR op_isN (pe_ix ix_tup (C8.pe_c c_last_to hr (by decide) rfl (pa_cons (pv 0) (pa_cons (pv 1) pa_nil))) pe_int (fun _ _ => rfl)) pe_non (nomark _)))) pss_nil)
      (pss_cons (ps_set (i := 5) sc__law_right.nd rfl (Or.inl rfl) (C8.pe_c c__law_between hr (by decide) rfl (pa_cons (pv 0) (pa_cons (pv 4) (pa_cons (pv 2) pa_nil)))))
      (pss_cons (ps_if (PW.pt (pw_or (pt_cmpR op_isN (pv 5) pe_non (nomark _)) (pw_or (pt_not (pt_chain op_le op_le (pv 1) (pv 5) (pe_ix ix_tup (pv 4) pe_int (fun _ _ => rfl)))) (pw_or1 (pt_cmpR op_ne (pe_ix ix_tup (C8.pe_c c_next_from hr (by decide) rfl (pa_cons (pv 0) (pa_cons (pv 5) pa_nil))) pe_int (fun _ _ => rfl)) (pe_ix ix_tup (pv 4) pe_int (fun _ _ => rfl)) (nomark _)))))) (pss_one (ps_ret pe_bl)) pss_nil)
      (pss_cons (ps_set (i := 4) sc__law_right.nd rfl (Or.inl rfl) (C8.pe_c c_last_to hr (by decide) rfl (pa_cons (pv 0) (pa_cons (pv 1) pa_nil))))
      (pss_cons (ps_set (i := 5) sc__law_right.nd rfl (Or.inl rfl) (C8.pe_c c__law_between hr (by decide) rfl (pa_cons (pv 0) (pa_cons (pv 4) (pa_cons (pv 3) pa_nil)))))
      (pss_one (ps_ret (pe_and (pe_cmpR op_notN (pv 5) pe_non (nomark _)) (pe_and (pe_chain op_le op_le (pe_ix ix_tup (pv 4) pe_int (fun _ _ => rfl)) (pv 5) (pv 1)) (pe_one (pe_cmpR op_eq (pe_ix ix_tup (C8.pe_c c_last_to hr (by decide) rfl (pa_cons (pv 0) (pa_cons (pv 5) pa_nil))) pe_int (fun _ _ => rfl)) (pe_ix ix_tup (pv 4) pe_int (fun _ _ => rfl)) (nomark _))))))))))))), ?_⟩
    refine ⟨_, rfl, _, rfl, p, d, t, rfl, R, fun non q l H1 s1 e1 => ?_, fun som q l u es H1 s1 e1 hu pa po => ?_⟩
    · refine ⟨_, rfl, q, _, 0, _, rfl, rfl, .inl (.inl e1), rfl, rfl, _, rfl, iteDT rfl ?_⟩
      refine ⟨_, rfl, _, rfl, p, d, t, rfl, R.same s1, fun _ q2 l2 H2 s2 e2 => ?_, fun som => absurd som non⟩
      exact ⟨q2, _, 0, _, rfl, rfl, .inl (.inl e2), rfl, rfl, k H2 (s1.trans s2)⟩
    · have R1 := R.same s1
      refine ⟨_, rfl, q, _, 0, _, rfl, rfl, .inl (.inl e1), rfl, rfl, _, rfl, iteDF (by intro z; cases z) ?_⟩
      refine ⟨_, rfl, _, rfl, _, rfl, p, q, l, d, u, t, u, one, es, rfl, R1, e1, hu.hold, pa, po, fun here H2 s2 hh => ?_⟩
      have hr1 : t ≤ here ∧ here ≤ u := by
        have := hu.le
        omega
      have s12 := s1.trans s2
      have e12 := s2 _ _ e1
      refine ⟨_, rfl, rfl, _, rfl, iteDF (by intro z; cases z) ?_⟩
      refine ⟨_, rfl, _, rfl, _, _, rfl, rfl, _, rfl, iteDT hr1.1 ⟨_, rfl, q, _, 0, _, rfl, rfl, .inl (.inl e12), rfl, _, _, rfl, rfl, _, rfl, iteNT hr1.2 ?_⟩⟩
      refine ⟨_, rfl, _, rfl, p, d, here, rfl, R.same s12, fun non => absurd som non, fun _ q3 l3 u3 es3 H3 s3 e3 hu3 _ _ => ?_⟩
      have eu : u3 = u := next_one hu hr1.1 hr1.2 hu3
      subst eu
      have e13 := s3 _ _ e12
      refine ⟨q3, _, 0, _, rfl, rfl, .inl (.inl e3), rfl, _, rfl, q, _, 0, _, rfl, rfl, .inl (.inl e13), rfl, rfl, _, rfl, iteNT rfl ?_⟩
      have s13 := s12.trans s3
      refine ⟨_, rfl, _, rfl, p, d, t, rfl, R.same s13, fun non => absurd som non, fun _ q4 l4 u4 es4 H4 s4 e4 hu4 pa4 po4 => ?_⟩
      have s14 := s13.trans s4
      refine ⟨_, rfl, _, rfl, _, rfl, p, q4, l4, d, u4, u4 + 1, t + 1, other, es4, rfl, R.same s14, e4, hu4.hold, pa4, po4, fun here2 H5 s5 hh2 => ?_⟩
      have hr2 : u4 ≤ here2 ∧ here2 ≤ t := by
        have := hu4.le
        omega
      have e45 := s5 _ _ e4
      refine ⟨_, rfl, rfl, _, rfl, iteNF (by intro z; cases z) ?_⟩
      refine ⟨_, rfl, q4, _, 0, _, rfl, rfl, .inl (.inl e45), rfl, _, rfl, _, _, rfl, rfl, _, rfl, iteDT hr2.1 ⟨_, rfl, _, _, rfl, rfl, _, rfl, iteDT hr2.2 ?_⟩⟩
      have s15 := s14.trans s5
      refine ⟨_, rfl, _, rfl, p, d, here2, rfl, R.same s15, fun non => absurd som non, fun _ q6 l6 u6 es6 H6 s6 e6 hu6 _ _ => ?_⟩
      have eu6 : u6 = u4 := last_one hu4 hr2.2 hr2.1 hu6
      subst eu6
      have e46 := s6 _ _ e45
      refine ⟨q6, _, 0, _, rfl, rfl, .inl (.inl e6), rfl, _, rfl, q4, _, 0, _, rfl, rfl, .inl (.inl e46), rfl, rfl, ?_⟩
      rw [decide_eq_true rfl]
      exact k H6 (s15.trans s6)
end
end K58
set_option Elab.async false
set_option maxRecDepth 100000
set_option maxHeartbeats 4000000
set_option linter.all false
namespace K58
open PySem PySem.Spec PyProof.Rows L2
/-! ### lists, again made weaker -/
section
variable {X : Cx}
theorem op_catS : OpR X (binaryOp .Add) (fun x y H Q => ∃ a b xs ys, x = .ref a ∧ y = .ref b ∧ H a = some (.lst xs) ∧ H b = some (.lst ys) ∧ xs.length + ys.length ≤ 100000 ∧ ∀ p H', Same H H' → H p = none → H' p = some (.lst (xs ++ ys)) → Q (.ref p) H') := by
  intro pins s σ H x y v u Q I rx ry h
  obtain ⟨a, b, xs, ys, e1, e2, h1, h2, hl, q⟩ := h
  exact op_cat pins s σ H x y v u Q I rx ry ⟨a, b, xs, ys, e1, e2, h1, h2, by rw [sizeLine_eq]; omega, fun p hp => q p _ (same_upd hp) hp upd_same⟩
theorem op_repS : OpR X (binaryOp .Mult) (fun x y H Q => ∃ a k xs, x = .ref a ∧ y = .int k ∧ H a = some (.lst xs) ∧ 0 ≤ k ∧ k ≤ 1000 ∧ xs.length ≤ 1000 ∧ ∀ p H', Same H H' → H p = none → H' p = some (.lst (List.replicate k.toNat xs).flatten) → Q (.ref p) H') := by
  intro pins s σ H x y v u Q I rx ry h
  obtain ⟨a, k, xs, e1, e2, h1, k0, k1, hl, q⟩ := h
  refine op_rep pins s σ H x y v u Q I rx ry ⟨a, k, xs, e1, e2, h1, by omega, by omega, ?_, fun p hp => q p _ (same_upd hp) hp upd_same⟩
  rw [sizeLine_eq]
  have : xs.length * k.toNat ≤ 1000 * 1000 := Nat.mul_le_mul hl (by omega)
  omega
theorem sl_listS : SlR X (fun x lo hi H Q => ∃ a xs, x = .ref a ∧ SqL X.K H a xs ∧ ∀ p H', Same H H' → H p = none → H' p = some (.lst (cutV xs lo hi)) → Q (.ref p) H') := by
  intro pins s σ H x v vl vu lo hi sl Q I rx hs pl pu h
  obtain ⟨a, xs, e1, h1, q⟩ := h
  exact sl_list pins s σ H x v vl vu lo hi sl Q I rx hs pl pu ⟨a, xs, e1, h1, fun p hp => q p _ (same_upd hp) hp upd_same⟩
/-! ### texts by their signs -/
variable {o e : Expr} {to te : TE}
theorem jl_len (c : Nat) : ∀ l : List (List Nat), (TL.joinL [c] l).length ≤ (l.map (·.length)).sum + l.length
  | [] => by simp [TL.joinL]
  | [p] => by simp [TL.joinL]
  | p :: q :: r => by
    have ih := jl_len c (q :: r)
    have e : TL.joinL [c] (p :: q :: r) = p ++ ([c] ++ TL.joinL [c] (q :: r)) := rfl
    rw [e, List.length_append, List.length_append]
    simp only [List.map_cons, List.sum_cons, List.length_cons, List.length_nil] at *
    omega
theorem lenS (l : List Nat) : (SX.S l).length = l.length := SX.S_len l
theorem pe_splitS {apos pos : Pos} (ho : PE X o to) (he : PE X e te) (hs : starEach [e] X.env = [(false, eval e X.env)] := by rfl) (hbase : attributeBase o "split" X.env (eval o X.env) = eval o X.env := by rfl) (hline : (apos.endLine == pos.line) = true := by rfl) :
    PE X (.Call (.Attribute o "split" apos) [e] [] pos) (fun σ H Q => to σ H fun x H1 => (∃ a, x = .str a) ∧ te σ H1 fun y H2 => ∃ (c : Nat) (parts : List (List Nat)), x = .str (SX.S (TL.joinL [c] parts)) ∧ y = .str (SX.S [c]) ∧ c < 256 ∧ parts ≠ [] ∧ (∀ p ∈ parts, c ∉ p) ∧
      (TL.joinL [c] parts).length ≤ 100000 ∧ ∀ q H', Same H2 H' → H2 q = none → H' q = some (.lst (parts.map fun p => V.str (SX.S p))) → Q (.ref q) H') := by
  refine pe_weak (pe_split (pe_up ho) (pe_up he) hs hbase hline) fun σ H Q q => ⟨_, q, fun x H1 ⟨h1, q1⟩ => ⟨h1, _, q1, fun y H2 q2 => ?_⟩⟩
  obtain ⟨c, parts, rfl, rfl, hc, hne, hp, hl, q⟩ := q2
  refine ⟨_, _, rfl, rfl, rfl, ?_, fun p hpn => ?_⟩
  · rw [lenS, sizeLine_eq]
    omega
  · rw [SX.split_S (List.cons_ne_nil _ _) (by simp [hc]), TL.spl_join hne hp]
    refine q p _ (same_upd hpn) hpn ?_
    rw [upd_same, List.map_map]
    rfl
theorem pe_joinS {apos pos : Pos} (ho : PE X o to) (he : PE X e te) (hs : starEach [e] X.env = [(false, eval e X.env)] := by rfl) (hbase : attributeBase o "join" X.env (eval o X.env) = eval o X.env := by rfl) (hline : (apos.endLine == pos.line) = true := by rfl) :
    PE X (.Call (.Attribute o "join" apos) [e] [] pos) (fun σ H Q => to σ H fun x H1 => (∃ a, x = .str a) ∧ te σ H1 fun y H2 => ∃ (c : Nat) (p : Addr) (parts : List (List Nat)), x = .str (SX.S [c]) ∧ y = .ref p ∧ SqL X.K H2 p (parts.map fun p => V.str (SX.S p)) ∧
      (parts.map (·.length)).sum + parts.length ≤ 100000 ∧ Q (.str (SX.S (TL.joinL [c] parts))) H2) := by
  refine pe_weak (pe_join (pe_up ho) (pe_up he) hs hbase hline) fun σ H Q q => ⟨_, q, fun x H1 ⟨h1, q1⟩ => ⟨h1, _, q1, fun y H2 q2 => ?_⟩⟩
  obtain ⟨c, p, parts, rfl, rfl, hsq, hl, q⟩ := q2
  refine ⟨_, p, parts.map SX.S, rfl, rfl, .inl ?_, ?_, ?_⟩
  · rw [List.map_map]
    exact hsq
  · rw [SX.lens, List.length_map, lenS]
    simp only [List.length_cons, List.length_nil, Nat.zero_add, Nat.mul_one]
    omega
  · rw [SX.join_S]
    exact q
end
/-! ### loops over a text, an enumerated list -/
theorem for_str {x : List Nat} {g : TG} {tb : TS} {D : Ends} {σ : L2.St} {H : Hp} (Pv : Nat → L2.St → Hp → Prop) (h0 : Pv 0 σ H)
    (hs : ∀ i c σ H, x[i]? = some c → Pv i σ H → g (.str (SX.S [c])) σ H fun σ2 H2 => tb { D with nx := Pv (i + 1), ct := Pv (i + 1), bk := D.nx } σ2 H2) (hd : ∀ σ H, Pv x.length σ H → D.nx σ H) :
    ∃ W : Nat → Nat → L2.St → Hp → Prop, (∃ m, W 0 m σ H) ∧ ∀ i m σ H, W i m σ H →
      ((Its (SX.S x)).stop i H ∧ D.nx σ H) ∨ ((Its (SX.S x)).go i H ∧ ∃ N : L2.St → Hp → Prop, (∀ σ' H', N σ' H' → ∃ m', m' < m ∧ W (i + 1) m' σ' H') ∧ ∀ v H', (Its (SX.S x)).yld i H v H' → g v σ H' fun σ2 H2 => tb { D with nx := N, ct := N, bk := D.nx } σ2 H2) := by
  have sz : (SX.S x).cps.size = x.length := by simp [SX.S]
  refine ⟨fun i m σ H => m = x.length - i ∧ i ≤ x.length ∧ Pv i σ H, ⟨x.length, rfl, Nat.zero_le _, h0⟩, ?_⟩
  rintro i m σ H ⟨rfl, hi, p⟩
  by_cases hlt : i < x.length
  · refine .inr ⟨by show i < (SX.S x).cps.size; omega, Pv (i + 1), fun σ' H' p' => ⟨x.length - (i + 1), by omega, rfl, hlt, p'⟩, ?_⟩
    rintro v H' ⟨rfl, c, hc, rfl⟩
    refine hs i c σ H' ?_ p
    have : (SX.S x).cps[i]? = x[i]? := by simp [SX.S]
    rw [← this]
    exact hc
  · have e : i = x.length := by omega
    subst e
    exact .inl ⟨by show (SX.S x).cps.size ≤ x.length; omega, hd σ H p⟩
theorem for_enum {K : PySem.W.Frag} {a : Addr} {xs : List V} {g : TG} {tb : TS} {D : Ends} {σ : L2.St} {H : Hp} (Pv : Nat → L2.St → Hp → Prop) (h0 : Pv 0 σ H) (hl : ∀ i σ H, i ≤ xs.length → Pv i σ H → SqL K H a xs)
    (hs : ∀ i x σ H T H', xs[i]? = some x → Pv i σ H → Same H H' → H T = none → H' T = some (.tup [.int (i : Nat), x]) → g (.ref T) σ H' fun σ2 H2 => tb { D with nx := Pv (i + 1), ct := Pv (i + 1), bk := D.nx } σ2 H2) (hd : ∀ σ H, Pv xs.length σ H → D.nx σ H) :
    ∃ W : Nat → Nat → L2.St → Hp → Prop, (∃ m, W 0 m σ H) ∧ ∀ i m σ H, W i m σ H →
      ((Ite K a).stop i H ∧ D.nx σ H) ∨ ((Ite K a).go i H ∧ ∃ N : L2.St → Hp → Prop, (∀ σ' H', N σ' H' → ∃ m', m' < m ∧ W (i + 1) m' σ' H') ∧ ∀ v H', (Ite K a).yld i H v H' → g v σ H' fun σ2 H2 => tb { D with nx := N, ct := N, bk := D.nx } σ2 H2) := by
  refine ⟨fun i m σ H => m = xs.length - i ∧ i ≤ xs.length ∧ Pv i σ H, ⟨xs.length, rfl, Nat.zero_le _, h0⟩, ?_⟩
  rintro i m σ H ⟨rfl, hi, p⟩
  have q := hl i σ H hi p
  by_cases hlt : i < xs.length
  · refine .inr ⟨⟨xs, xs[i], q, by simp [hlt]⟩, Pv (i + 1), fun σ' H' p' => ⟨xs.length - (i + 1), by omega, rfl, hlt, p'⟩, ?_⟩
    rintro v H' ⟨T, x, rfl, hT, rfl, hx⟩
    exact hs i x σ H T _ (hx xs q) p (same_upd hT) hT upd_same
  · have e : i = xs.length := by omega
    subst e
    exact .inl ⟨⟨xs, q, Nat.le_refl _⟩, hd σ H p⟩
/-! ### instances of a class without an own __init__, of one with a default -/
section
variable {X : Cx} {C : Addr} {x : Str} {p pos : Pos}
theorem run_make00 {pins : List (Addr × Obj)} {σ : L2.St} {H : Hp} {s : Shared} {Q : VK} (m1 : PySem.W.makesIn X.K C = true) (m2 : PySem.W.findIn X.K (.ref C) "__init__" = some (some (.builtin "object.__init__"))) (I : Inv X pins σ H s)
    (h : ∀ a dx, H a = none → H dx = none → dx ≠ a → Q (.ref a) (upd (upd H dx (.own a)) a (.ins C dx []))) : wpAny (model X.prog X.w) X.A (call (.ref C) []) (EP X pins σ Q) X.xe s := by
  have hq := h (s.heap.objs.size + 1) s.heap.objs.size (I.hok.fresh (Nat.le_succ _)) (I.hok.fresh (Nat.le_refl _)) (Nat.ne_of_lt (Nat.lt_succ_self _))
  have I2 := Inv.made (C := C) I
  have Y := PySem.W.makes_of (M := model X.prog X.w) I.kIn m1
  have e2 : ((s.heap.push PySem.W.emptyDict).push (PySem.W.instObj C s.heap.objs.size)).get? (s.heap.objs.size + 1) = some (PySem.W.instObj C s.heap.objs.size) := by
    have := Heap.get?_push_size (s.heap.push PySem.W.emptyDict) (o := PySem.W.instObj C s.heap.objs.size) rfl
    rwa [Heap.size_push] at this
  have t1 : PySem.W.Looks (model X.prog X.w) ((s.heap.push PySem.W.emptyDict).push (PySem.W.instObj C s.heap.objs.size)) (typeOf (.ref (s.heap.objs.size + 1))) (.ref C) := (PySem.W.Looks.ld e2).andThen .now
  have t2 : PySem.W.Looks (model X.prog X.w) ((s.heap.push PySem.W.emptyDict).push (PySem.W.instObj C s.heap.objs.size)) (isInstance (.ref (s.heap.objs.size + 1)) (.type "object")) true := t1.andThen (Y.top.keeps fun b o e => Heap.get?_push_of_some _ (Heap.get?_push_of_some _ e))
  refine wpAny_call (make_map0 I.kIn m1 m2 (fun self => PySem.W.Looks.of_pure (PySem.W.oi_bind self)) ?_)
  refine codeAny_call_builtin PySem.W.oi_plain PySem.W.entry_oi (@PySem.W.check_slot (model X.prog X.w) _ _ _ "object.__init__" "object" "__init__" (.ref (s.heap.objs.size + 1)) [] [] _ PySem.W.oi_kind PySem.W.oi_split t2 (PySem.W.oi_args (.ref (s.heap.objs.size + 1))) ?_)
  rw [PySem.W.oi_run]
  exact wpAny_pure (And.intro rfl ⟨V.ref (s.heap.objs.size + 1), _, I2, rfl, hq⟩)
theorem pe_make00 (b : barB X.K x = true) (hg : Gl X x) (hm : X.mg x = some (.ref (He.ga X.K x))) (hdb : (x == ("__debug__" : Str)) = false := by decide) :
    PE X (.Call (.Name x p) [] [] pos) (fun σ H Q => ∀ a dx, H a = none → H dx = none → dx ≠ a → Q (.ref a) (upd (upd H dx (.own a)) a (.ins (He.ga X.K x) dx []))) := by
  obtain ⟨b1, b2⟩ := He.ba b
  obtain ⟨b3, b4⟩ := He.ba b2
  constructor
  intro pins s σ H Q I h
  refine wpAny_Call_Name_kw (ld_glob I hg hm ?_ hdb)
  exact PySem.W.callWith_K0 I.kIn b4 (run_make00 b1 (He.eqO_ok b3) I h)
theorem pe_mk0 {k j : Nat} {sp : Sp} {dvs : List V} (c : C8.Mak X.prog X.w X.K X.mg X.base k x C sp dvs) (hr : Room j X.A) (hk : k + 1 ≤ j) (hg : Gl X x) (hdb : (x == ("__debug__" : Str)) = false := by decide) : PE X (.Call (.Name x p) [] [] pos) (tMake C sp dvs C8.E0 tNil) := by
  obtain ⟨f, fd, ps, ds, M, F, hm, b, d⟩ := c.ex
  exact pe_make0 M F (hr.mono hk) hg hm b d C8.pass0 hdb
end
end K58
set_option Elab.async false
set_option maxRecDepth 100000
set_option maxHeartbeats 4000000
set_option linter.all false
namespace K58
open PySem PySem.Spec PyProof.Rows L2
/-! ### the texts of rows, by their signs -/
abbrev nm (n : Nat) : List Nat := TL.numL n
theorem nm_dig {n c : Nat} (h : c ∈ nm n) : 48 ≤ c ∧ c ≤ 57 := TL.numL_digits n c h
theorem nm_ne (n : Nat) : nm n ≠ [] := TL.numL_ne n
theorem nm_len {n : Nat} (h : n ≤ 99) : (nm n).length ≤ 2 := TL.numL_len (k := 2) (by decide) (by omega)
theorem nm_no {n c : Nat} (h : c < 48 ∨ 57 < c) : c ∉ nm n := TL.numL_free h
theorem nm_head {n : Nat} (h : n ≤ 99) (e : (nm n).head? = some 48) : nm n = [48] := by
  by_cases q : n < 10
  · rw [show nm n = [48 + n] from TL.numL_lt q] at e ⊢
    have : 48 + n = 48 := Option.some.inj e
    rw [this]
  · rw [show nm n = TL.numL (n / 10) ++ [48 + n % 10] from TL.numL_step (by omega), TL.numL_lt (show n / 10 < 10 by omega)] at e
    have : 48 + n / 10 = 48 := Option.some.inj e
    omega
/-- an item ahead of its stride -/
inductive Body (low high : Nat) : List Nat → Nat → Nat → Prop
  | star : low ≤ high → Body low high [42] low high
  | one {n : Nat} : low ≤ n → n ≤ high → Body low high (nm n) n n
  | span {m n : Nat} : low ≤ m → m ≤ n → n ≤ high → Body low high (nm m ++ 45 :: nm n) m n
inductive Plain (low high : Nat) : List Nat → Prop
  | bare {l : List Nat} {a b : Nat} : Body low high l a b → Plain low high l
  | step {l : List Nat} {a b s : Nat} : Body low high l a b → 1 ≤ s → s ≤ 99 → Plain low high (l ++ 47 :: nm s)
theorem Body.le {low high a b : Nat} {l : List Nat} (h : Body low high l a b) : low ≤ a ∧ a ≤ b ∧ b ≤ high := by
  cases h <;> omega
theorem Body.sgn {low high a b : Nat} {l : List Nat} (h : Body low high l a b) {c : Nat} (hc : c ∈ l) : c = 42 ∨ c = 45 ∨ (48 ≤ c ∧ c ≤ 57) := by
  cases h with
  | star => simp at hc; exact .inl hc
  | one _ _ => exact .inr (.inr (nm_dig hc))
  | span _ _ _ =>
    rcases List.mem_append.mp hc with hc | hc
    · exact .inr (.inr (nm_dig hc))
    · rcases List.mem_cons.mp hc with hc | hc
      · exact .inr (.inl hc)
      · exact .inr (.inr (nm_dig hc))
theorem Body.ne {low high a b : Nat} {l : List Nat} (h : Body low high l a b) : l ≠ [] := by
  cases h with
  | star => simp
  | one _ _ => exact nm_ne _
  | span _ _ _ => simp
theorem Body.len {low high a b : Nat} {l : List Nat} (h : Body low high l a b) (hh : high ≤ 99) : l.length ≤ 5 := by
  cases h with
  | star => simp
  | one h1 h2 => have := nm_len (n := a) (by omega); omega
  | span h1 h2 h3 =>
    have := nm_len (n := a) (by omega)
    have := nm_len (n := b) (by omega)
    simp only [List.length_append, List.length_cons]
    omega
theorem Plain.sgn {low high : Nat} {l : List Nat} (h : Plain low high l) {c : Nat} (hc : c ∈ l) : c = 42 ∨ c = 45 ∨ c = 47 ∨ (48 ≤ c ∧ c ≤ 57) := by
  cases h with
  | bare b =>
    have := b.sgn hc
    omega
  | step b _ _ =>
    rcases List.mem_append.mp hc with hc | hc
    · have := b.sgn hc
      omega
    · rcases List.mem_cons.mp hc with hc | hc
      · omega
      · have := nm_dig hc
        omega
theorem Plain.ne {low high : Nat} {l : List Nat} (h : Plain low high l) : l ≠ [] := by
  cases h with
  | bare b => exact b.ne
  | step b _ _ => simp
theorem Plain.len {low high : Nat} {l : List Nat} (h : Plain low high l) (hh : high ≤ 99) : l.length ≤ 8 := by
  cases h with
  | bare b => have := b.len hh; omega
  | step b h1 h2 =>
    have := b.len hh
    have := nm_len (n := _) h2
    simp only [List.length_append, List.length_cons]
    omega
def DayI (l : List Nat) : Prop := Plain 1 31 l ∨ l = [76] ∨ (∃ n, 1 ≤ n ∧ n ≤ 30 ∧ l = 76 :: 45 :: nm n) ∨ (∃ n, 1 ≤ n ∧ n ≤ 31 ∧ l = nm n ++ [87]) ∨ l = [76, 87]
def WkI (l : List Nat) : Prop := Plain 0 7 l ∨ (∃ d n, d ≤ 7 ∧ 1 ≤ n ∧ n ≤ 5 ∧ l = nm d ++ 35 :: nm n) ∨ (∃ d, d ≤ 7 ∧ l = nm d ++ [76])
/-- signs that stand in no item, a length -/
structure ItemOk (l : List Nat) : Prop where
  ne : l ≠ []
  len : l.length ≤ 8
  no44 : 44 ∉ l
  no32 : 32 ∉ l
theorem Plain.ok {low high : Nat} {l : List Nat} (h : Plain low high l) (hh : high ≤ 99) : ItemOk l :=
  ⟨h.ne, h.len hh, fun c => by have := h.sgn c; omega, fun c => by have := h.sgn c; omega⟩
theorem DayI.ok {l : List Nat} (h : DayI l) : ItemOk l := by
  rcases h with h | rfl | ⟨n, h1, h2, rfl⟩ | ⟨n, h1, h2, rfl⟩ | rfl
  · exact h.ok (by decide)
  · exact ⟨by simp, by simp, by simp, by simp⟩
  · have hl := nm_len (n := n) (by omega)
    refine ⟨by simp, by simp only [List.length_cons]; omega, fun c => ?_, fun c => ?_⟩
    all_goals
      simp only [List.mem_cons] at c
      rcases c with c | c | c
      · omega
      · omega
      · have := nm_dig c
        omega
  · have hl := nm_len (n := n) (by omega)
    refine ⟨by simp, by simp only [List.length_append, List.length_cons, List.length_nil]; omega, fun c => ?_, fun c => ?_⟩
    all_goals
      rcases List.mem_append.mp c with c | c
      · have := nm_dig c
        omega
      · simp at c
  · exact ⟨by simp, by simp, by simp, by simp⟩
theorem WkI.ok {l : List Nat} (h : WkI l) : ItemOk l := by
  rcases h with h | ⟨d, n, h1, h2, h3, rfl⟩ | ⟨d, h1, rfl⟩
  · exact h.ok (by decide)
  · have hl := nm_len (n := n) (by omega)
    have hl2 := nm_len (n := d) (by omega)
    refine ⟨by simp, by simp only [List.length_append, List.length_cons]; omega, fun c => ?_, fun c => ?_⟩
    all_goals
      rcases List.mem_append.mp c with c | c
      · have := nm_dig c
        omega
      · rcases List.mem_cons.mp c with c | c
        · omega
        · have := nm_dig c
          omega
  · have hl2 := nm_len (n := d) (by omega)
    refine ⟨by simp, by simp only [List.length_append, List.length_cons, List.length_nil]; omega, fun c => ?_, fun c => ?_⟩
    all_goals
      rcases List.mem_append.mp c with c | c
      · have := nm_dig c
        omega
      · simp at c
def FieldT (I : List Nat → Prop) (l : List Nat) : Prop := ∃ parts : List (List Nat), parts ≠ [] ∧ parts.length ≤ 3 ∧ (∀ p ∈ parts, I p) ∧ l = TL.joinL [44] parts
theorem mem_join {c d : Nat} : ∀ {parts : List (List Nat)}, d ∈ TL.joinL [c] parts → d = c ∨ ∃ p ∈ parts, d ∈ p
  | [], h => by simp [TL.joinL] at h
  | [p], h => .inr ⟨p, List.mem_cons_self, h⟩
  | p :: q :: r, h => by
    have h' : d ∈ p ++ ([c] ++ TL.joinL [c] (q :: r)) := h
    rcases List.mem_append.mp h' with h' | h'
    · exact .inr ⟨p, List.mem_cons_self, h'⟩
    · rcases List.mem_append.mp h' with h' | h'
      · simp at h'
        exact .inl h'
      · rcases mem_join h' with e | ⟨x, hx, e⟩
        · exact .inl e
        · exact .inr ⟨x, List.mem_cons_of_mem _ hx, e⟩
theorem join_ne {c : Nat} : ∀ {parts : List (List Nat)}, parts ≠ [] → (∀ p ∈ parts, p ≠ []) → TL.joinL [c] parts ≠ []
  | [], h, _ => absurd rfl h
  | [p], _, h => h p List.mem_cons_self
  | p :: q :: r, _, h => by
    have e : TL.joinL [c] (p :: q :: r) = p ++ ([c] ++ TL.joinL [c] (q :: r)) := rfl
    rw [e]
    simp
theorem sum_len {I : List Nat → Prop} {k : Nat} (hI : ∀ l, I l → l.length ≤ k) : ∀ {parts : List (List Nat)}, (∀ p ∈ parts, I p) → (parts.map (·.length)).sum ≤ k * parts.length
  | [], _ => by simp
  | p :: r, h => by
    have := hI p (h p List.mem_cons_self)
    have ih := sum_len (parts := r) hI fun q hq => h q (List.mem_cons_of_mem _ hq)
    simp only [List.map_cons, List.sum_cons, List.length_cons, Nat.mul_add, Nat.mul_one]
    omega
theorem FieldT.no32 {I : List Nat → Prop} (hI : ∀ l, I l → ItemOk l) {l : List Nat} (h : FieldT I l) : 32 ∉ l := by
  obtain ⟨parts, h1, h2, h3, rfl⟩ := h
  intro c
  rcases mem_join c with c | ⟨p, hp, c⟩
  · omega
  · exact (hI p (h3 p hp)).no32 c
theorem FieldT.ne {I : List Nat → Prop} (hI : ∀ l, I l → ItemOk l) {l : List Nat} (h : FieldT I l) : l ≠ [] := by
  obtain ⟨parts, h1, h2, h3, rfl⟩ := h
  exact join_ne h1 fun p hp => (hI p (h3 p hp)).ne
theorem FieldT.len {I : List Nat → Prop} (hI : ∀ l, I l → ItemOk l) {l : List Nat} (h : FieldT I l) : l.length ≤ 27 := by
  obtain ⟨parts, h1, h2, h3, rfl⟩ := h
  have a := jl_len 44 parts
  have b := sum_len (k := 8) (fun l hl => (hI l hl).len) h3
  omega
def RowT (l : List Nat) : Prop := ∃ f0 f1 f2 f3 f4, FieldT (Plain 0 59) f0 ∧ FieldT (Plain 0 23) f1 ∧ FieldT DayI f2 ∧ FieldT (Plain 1 12) f3 ∧ FieldT WkI f4 ∧ l = TL.joinL [32] [f0, f1, f2, f3, f4]
/-! ### masks -/
def MaskIn (low high m : Nat) : Prop := (∃ j, m.testBit j = true) ∧ ∀ j, m.testBit j = true → low ≤ j ∧ j ≤ high
theorem MaskIn.or {low high m n : Nat} (h : MaskIn low high m) (k : MaskIn low high n) : MaskIn low high (m ||| n) := by
  obtain ⟨⟨j, hj⟩, h2⟩ := h
  refine ⟨⟨j, by rw [Nat.testBit_or, hj]; rfl⟩, fun i hi => ?_⟩
  rw [Nat.testBit_or, Bool.or_eq_true] at hi
  rcases hi with hi | hi
  · exact h2 i hi
  · exact k.2 i hi
theorem MaskIn.ne {low high m : Nat} (h : MaskIn low high m) : m ≠ 0 := fun e => by
  obtain ⟨⟨j, hj⟩, _⟩ := h
  rw [e] at hj
  simp at hj
theorem MaskIn.lt {low high m : Nat} (h : MaskIn low high m) : m < 2 ^ (high + 1) := Nat.lt_pow_two_of_testBit m fun i hi => by
  cases q : m.testBit i with
  | false => rfl
  | true =>
    have := h.2 i q
    omega
def maskL : List Nat → Nat → Nat
  | [], f => f
  | n :: ns, f => maskL ns (f ||| 1 <<< n)
theorem maskL_snoc (n : Nat) : ∀ (ns : List Nat) (f : Nat), maskL (ns ++ [n]) f = maskL ns f ||| 1 <<< n
  | [], _ => rfl
  | m :: ns, f => maskL_snoc n ns _
theorem one_bit (n j : Nat) : (1 <<< n).testBit j = decide (j = n) := by
  rw [Nat.shiftLeft_eq, Nat.one_mul, Nat.testBit_two_pow]
  by_cases h : j = n
  · rw [decide_eq_true h, decide_eq_true h.symm]
  · rw [decide_eq_false h, decide_eq_false fun e => h e.symm]
theorem maskL_bit (j : Nat) : ∀ (ns : List Nat) (f : Nat), (maskL ns f).testBit j = true ↔ (f.testBit j = true ∨ j ∈ ns)
  | [], f => by simp [maskL]
  | n :: ns, f => by
    show (maskL ns (f ||| 1 <<< n)).testBit j = true ↔ _
    rw [maskL_bit j ns, Nat.testBit_or, Bool.or_eq_true, one_bit, decide_eq_true_eq, List.mem_cons]
    constructor
    · rintro ((h | h) | h)
      · exact .inl h
      · exact .inr (.inl h)
      · exact .inr (.inr h)
    · rintro (h | h | h)
      · exact .inl (.inl h)
      · exact .inl (.inr h)
      · exact .inr h
theorem maskL_in {low high : Nat} {ns : List Nat} (hne : ns ≠ []) (h : ∀ n ∈ ns, low ≤ n ∧ n ≤ high) : MaskIn low high (maskL ns 0) := by
  refine ⟨?_, fun j hj => ?_⟩
  · cases ns with
    | nil => exact absurd rfl hne
    | cons n ns => exact ⟨n, (maskL_bit n _ _).mpr (.inr List.mem_cons_self)⟩
  · rcases (maskL_bit j ns 0).mp hj with e | e
    · simp at e
    · exact h j e
def isDg (c : Nat) : Bool := decide (48 ≤ c) && decide (c ≤ 57)
def figs (x : List Nat) : Bool := x.all isDg && !x.isEmpty
theorem figs_nm (n : Nat) : figs (nm n) = true := by
  unfold figs
  rw [Bool.and_eq_true]
  refine ⟨List.all_eq_true.mpr fun c hc => ?_, ?_⟩
  · have := nm_dig hc
    unfold isDg
    rw [decide_eq_true this.1, decide_eq_true this.2]
    rfl
  · cases h : nm n with
    | nil => exact absurd h (nm_ne n)
    | cons _ _ => rfl
theorem figs_no {x : List Nat} {c : Nat} (hc : c ∈ x) (h : c < 48 ∨ 57 < c) : figs x = false := by
  unfold figs
  rw [List.all_eq_false.mpr ⟨c, hc, ?_⟩]
  · rfl
  · unfold isDg
    rcases h with h | h
    · rw [decide_eq_false (show ¬ 48 ≤ c by omega)]
      exact Bool.false_ne_true
    · rw [decide_eq_false (show ¬ c ≤ 57 by omega), Bool.and_false]
      exact Bool.false_ne_true
theorem dg_mem (c : Nat) : decide (c ∈ [48, 49, 50, 51, 52, 53, 54, 55, 56, 57]) = isDg c := by
  unfold isDg
  by_cases h : 48 ≤ c ∧ c ≤ 57
  · rw [decide_eq_true h.1, decide_eq_true h.2, decide_eq_true]
    · rfl
    · simp only [List.mem_cons, List.not_mem_nil, or_false]
      omega
  · have : (decide (48 ≤ c) && decide (c ≤ 57)) = false := by
      by_cases q : 48 ≤ c
      · rw [decide_eq_false (show ¬ c ≤ 57 from fun z => h ⟨q, z⟩), Bool.and_false]
      · rw [decide_eq_false q]
        rfl
    rw [this, decide_eq_false]
    simp only [List.mem_cons, List.not_mem_nil, or_false]
    omega
/-! ### written texts as signs -/
theorem ts (l : List Nat) {x : Str} (h : x.cps.toList = l) : x = SX.S l := TL.ext_tl h
theorem cs_star : ("*" : Str) = SX.S [42] := ts _ (by decide +kernel)
theorem cs_dash : ("-" : Str) = SX.S [45] := ts _ (by decide +kernel)
theorem cs_slash : ("/" : Str) = SX.S [47] := ts _ (by decide +kernel)
theorem cs_comma : ("," : Str) = SX.S [44] := ts _ (by decide +kernel)
theorem cs_blank : (" " : Str) = SX.S [32] := ts _ (by decide +kernel)
theorem cs_hash : ("#" : Str) = SX.S [35] := ts _ (by decide +kernel)
theorem cs_L : ("L" : Str) = SX.S [76] := ts _ (by decide +kernel)
theorem cs_W : ("W" : Str) = SX.S [87] := ts _ (by decide +kernel)
theorem cs_LW : ("LW" : Str) = SX.S [76, 87] := ts _ (by decide +kernel)
theorem cs_Ld : ("L-" : Str) = SX.S [76, 45] := ts _ (by decide +kernel)
theorem cs_0 : ("0" : Str) = SX.S [48] := ts _ (by decide +kernel)
theorem cs_e : ("" : Str) = SX.S [] := ts _ (by decide +kernel)
theorem cs_st : ("*/" : Str) = SX.S [42, 47] := ts _ (by decide +kernel)
theorem cs_h5 : ("#5" : Str) = SX.S [35, 53] := ts _ (by decide +kernel)
theorem cs_2 : ("2" : Str) = SX.S [50] := ts _ (by decide +kernel)
theorem cs_29 : ("29" : Str) = SX.S [50, 57] := ts _ (by decide +kernel)
theorem cs_figs : (("0123456789" : Str)).cps.toList = [48, 49, 50, 51, 52, 53, 54, 55, 56, 57] := by decide +kernel
theorem sv {a b : List Nat} : decide (V.str (SX.S a) = V.str (SX.S b)) = decide (a = b) := by
  by_cases h : a = b
  · rw [h, decide_eq_true rfl, decide_eq_true rfl]
  · rw [decide_eq_false h, decide_eq_false fun e => h (SX.S_inj (V.str.inj e))]
/-! ### the promises of the readers -/
section
variable (K : PySem.W.Frag)
def spFigs : Sp := fun vs H Q _ => ∃ x : List Nat, vs = [.str (SX.S x)] ∧ Q (.bl (figs x)) H
def spMaskOf : Sp := fun vs H Q _ => ∃ (l : Addr) (ns : List Nat), vs = [.ref l] ∧ H l = some (.lst (ns.map fun n => V.int (n : Nat))) ∧ (∀ n ∈ ns, n ≤ 100) ∧ Q (.int (maskL ns 0 : Nat)) H
def spNumF : Sp := fun vs H Q _ => ∃ n low high : Nat, vs = [.str (SX.S (nm n)), .int low, .int high] ∧ low ≤ n ∧ n ≤ high ∧ high ≤ 99 ∧ ∀ l H', Same H H' → H l = none → H' l = some (.lst [.int n]) → Q (.ref l) H'
def spNumM : Sp := fun vs H Q _ => ∃ n low high : Nat, vs = [.str (SX.S (nm n)), .int low, .int high] ∧ low ≤ n ∧ n ≤ high ∧ high ≤ 99 ∧ Q (.int n) H
def spSpan : Sp := fun vs H Q _ => ∃ (x : List Nat) (low high a b : Nat), vs = [.str (SX.S x), .int low, .int high] ∧ Body low high x a b ∧ high ≤ 99 ∧ ∀ l H', Same H H' → H l = none → H' l = some (.lst [.int a, .int b]) → Q (.ref l) H'
def spItem : Sp := fun vs H Q _ => ∃ (x : List Nat) (low high : Nat), vs = [.str (SX.S x), .int low, .int high] ∧ Plain low high x ∧ high ≤ 99 ∧ ∀ (m : Nat) H', Same H H' → MaskIn low high m → Q (.int m) H'
def spField : Sp := fun vs H Q _ => ∃ (x : List Nat) (low high : Nat), vs = [.str (SX.S x), .int low, .int high] ∧ FieldT (Plain low high) x ∧ high ≤ 99 ∧ ∀ (m : Nat) H', Same H H' → MaskIn low high m → Q (.int m) H'
def spPlainItem : Sp := fun vs H Q _ => ∃ (x : List Nat) (at_ : Int) (low high : Nat), vs = [.str (SX.S x), .int at_, .int low, .int high] ∧ Plain low high x ∧ high ≤ 99 ∧ ∀ (m : Nat) H', Same H H' → MaskIn low high m → Q (.int m) H'
def spMarkOf (I : List Nat → Prop) (low high : Nat) : Sp := fun vs H Q _ => ∃ x : List Nat, vs = [.str (SX.S x)] ∧ I x ∧ ∀ H', Same H H' → (Plain low high x → Q .non H') ∧ ∀ a m, MarkAt K H' a m → m.Ok → Q (.ref a) H'
def lowOf (b : Bool) : Nat := if b then 1 else 0
def highOf (b : Bool) : Nat := if b then 31 else 7
def itemOf (b : Bool) : List Nat → Prop := if b then DayI else WkI
def fnOfB (b : Bool) : Addr := if b then He.ga K "day_mark" else He.ga K "weekday_mark"
def spItemsOf : Sp := fun vs H Q _ => ∃ x : List Nat, vs = [.str (SX.S x)] ∧ x.length ≤ 300 ∧ ∃ parts, x = TL.joinL [44] parts ∧ parts ≠ [] ∧ (∀ p ∈ parts, 44 ∉ p) ∧ ∀ l H', Same H H' → H l = none → H' l = some (.lst (parts.map fun p => V.str (SX.S p))) → Q (.ref l) H'
def spItems : Sp := fun vs H Q _ => ∃ (b : Bool) (x : List Nat), vs = [.str (SX.S x), .ref (fnOfB K b), .int (lowOf b : Nat), .int (highOf b : Nat)] ∧ FieldT (itemOf b) x ∧
  ∀ q l (m : Nat) as ms H', Same H H' → H' q = some (.tup [.int m, .ref l]) → H' l = some (.lst (as.map V.ref)) → MarksIn K H' as ms → (∀ z ∈ ms, z.Ok) → ms.length ≤ 3 → (∀ j, m.testBit j = true → lowOf b ≤ j) → Q (.ref q) H'
def spDaysR (I : List Nat → Prop) : Sp := fun vs H Q _ => ∃ x : List Nat, vs = [.str (SX.S x)] ∧ FieldT I x ∧ ∀ v o H', Same H H' → MarksAt K H' v o → (∀ ms, o = some ms → ∀ z ∈ ms, z.Ok) → Q v H'
def spWords : Sp := fun vs H Q _ => ∃ f0 f1 f2 f3 f4 : List Nat, vs = [.str (SX.S (TL.joinL [32] [f0, f1, f2, f3, f4]))] ∧ (∀ f ∈ [f0, f1, f2, f3, f4], f ≠ [] ∧ f.length ≤ 27 ∧ 32 ∉ f) ∧
  ∀ l H', Same H H' → H' l = some (.lst ([f0, f1, f2, f3, f4].map fun p => V.str (SX.S p))) → Q (.ref l) H'
def FR (H : Hp) (v : V) : Nat → Prop
  | 0 => ∃ m : Nat, v = .int m ∧ MaskIn 0 59 m
  | 1 => ∃ m : Nat, v = .int m ∧ MaskIn 0 23 m
  | 2 => ∃ o, MarksAt K H v o ∧ ∀ ms, o = some ms → ∀ z ∈ ms, z.Ok
  | 3 => ∃ m : Nat, v = .int m ∧ MaskIn 1 12 m
  | _ => ∃ o, MarksAt K H v o ∧ ∀ ms, o = some ms → ∀ z ∈ ms, z.Ok
def spFieldAt : Sp := fun vs H Q _ => ∃ (l : Addr) (i : Nat) (f0 f1 f2 f3 f4 : List Nat), vs = [.ref l, .int i] ∧ i < 5 ∧ H l = some (.lst ([f0, f1, f2, f3, f4].map fun p => V.str (SX.S p))) ∧
  FieldT (Plain 0 59) f0 ∧ FieldT (Plain 0 23) f1 ∧ FieldT DayI f2 ∧ FieldT (Plain 1 12) f3 ∧ FieldT WkI f4 ∧ ∀ v H', Same H H' → FR K H' v i → Q v H'
def spReadRow : Sp := fun vs H Q _ => ∃ x : List Nat, vs = [.str (SX.S x)] ∧ RowT x ∧ ∀ p d H', Same H H' → RowAt K H' p d → Q (.ref p) H'
end
theorem FR.same {K : PySem.W.Frag} {H H' : Hp} (s : Same H H') {v : V} : ∀ {i : Nat}, FR K H v i → FR K H' v i
  | 0, h => h
  | 1, h => h
  | 2, ⟨o, h, k⟩ => ⟨o, h.same s, k⟩
  | 3, h => h
  | _ + 4, ⟨o, h, k⟩ => ⟨o, h.same s, k⟩
end K58
set_option Elab.async false
set_option maxRecDepth 100000
set_option maxHeartbeats 4000000
set_option linter.all false
namespace K58
open PySem PySem.Spec PyProof.Rows L2
section
variable {P : Program} {w : World} {K : PySem.W.Frag} {mg : Str → Option Value} {base : Heap}
theorem sc_only_figures : FnScope ["signs", "sign"] ["signs"] (defScope s_only_figures) := C8.fnScope_by (by decide +kernel)
theorem ok_only_figures (T : Tx K mg) : C8.Cal P w K mg base 1 "only_figures" spFigs [] := by
  refine cal_of T.g_only_figures T.D_only_figures sc_only_figures (fun _ _ _ _ _ _ us hl => match us, hl with | [_], _ => rfl) (fun vs H Q E h => ?_) (fun cdv A outer s H vs Q E hr h => ?_)
  · obtain ⟨i, rfl, _⟩ := h
    rfl
  · obtain ⟨x, rfl, k⟩ := h
    refine ⟨_, (pss_cons (ps_for PassesOwn.never rfl (pi_str (pv 0)) (pg_name (i := 1) sc_only_figures.nd rfl (Or.inl rfl)) (pss_one (ps_if (pt_cmpR op_notIn_sign (pv 1) (C8.pe_gc rfl T.c_FIGURES_wholes) (by rfl)) (pss_one (ps_ret pe_bl)) pss_nil)))
      (pss_one (ps_ret (pe_cmpR op_ne (pv 0) pe_str (nomark _))))), ?_⟩
    refine ⟨_, rfl, _, rfl, for_str (x := x) (fun i σ H' => H' = H ∧ (x.take i).all isDg = true ∧ ∃ v, σ = [some (.str (SX.S x)), v]) ⟨rfl, rfl, _, rfl⟩ ?_ ?_⟩
    · rintro i c σ H' hc ⟨rfl, all, v, rfl⟩
      refine ⟨_, rfl, c, _, rfl, rfl, _, rfl, ?_⟩
      rw [cs_figs, dg_mem]
      cases q : isDg c with
      | true =>
        refine iteF ⟨rfl, ?_, _, rfl⟩
        rw [take_snoc hc, List.all_append, all]
        show (true && (isDg c && true)) = true
        rw [q]
        rfl
      | false =>
        refine iteT ?_
        have : figs x = false := by
          unfold figs
          rw [List.all_eq_false.mpr ⟨c, List.mem_of_getElem? hc, by rw [q]; exact Bool.false_ne_true⟩]
          rfl
        rw [this] at k
        exact k
    · rintro σ H' ⟨rfl, all, v, rfl⟩
      refine ⟨_, rfl, rfl, ?_⟩
      rw [List.take_length] at all
      rw [cs_e, sv]
      unfold figs at k
      rw [all] at k
      cases x with
      | nil => exact k
      | cons a b => exact k
theorem sc_mask_of : FnScope ["numbers", "mask", "number"] ["numbers"] (defScope s_mask_of) := C8.fnScope_by (by decide +kernel)
theorem ok_mask_of (T : Tx K mg) : C8.Cal P w K mg base 1 "mask_of" spMaskOf [] := by
  refine cal_of T.g_mask_of T.D_mask_of sc_mask_of (fun _ _ _ _ _ _ us hl => match us, hl with | [_], _ => rfl) (fun vs H Q E h => ?_) (fun cdv A outer s H vs Q E hr h => ?_)
  · obtain ⟨i, j, rfl, _⟩ := h
    rfl
  · obtain ⟨l, ns, rfl, hl, hb, k⟩ := h
    refine ⟨_, (pss_cons (ps_set (i := 1) sc_mask_of.nd rfl (Or.inl rfl) pe_int)
      (pss_cons (ps_for PassesOwn.never rfl (pi_list (pv 0)) (pg_name (i := 2) sc_mask_of.nd rfl (Or.inl rfl)) (pss_one (ps_set (i := 1) sc_mask_of.nd rfl (Or.inl rfl) (pe_op op_orN (pv 1) (pe_op op_shlN pe_int (pv 2))))))
      (pss_one (ps_ret (pv 1))))), ?_⟩
    refine ⟨_, rfl, l, rfl, ⟨_, .inl (.inl hl)⟩, ?_⟩
    refine for_list (K := K) (a := l) (xs := ns.map fun n => V.int (n : Nat)) (fun i σ H' => H' = H ∧ ∃ v, σ = [some (.ref l), some (.int (maskL (ns.take i) 0 : Nat)), v]) ⟨rfl, _, rfl⟩ (fun i σ H' _ ⟨e, _⟩ => by rw [e]; exact .inl (.inl hl)) ?_ ?_
    · rintro i x σ H' hi ⟨rfl, v, rfl⟩
      rw [List.getElem?_map] at hi
      cases ea : ns[i]? with
      | none =>
        rw [ea] at hi
        cases hi
      | some a =>
        rw [ea] at hi
        obtain rfl : V.int (a : Nat) = x := Option.some.inj hi
        have := hb a (List.mem_of_getElem? ea)
        refine ⟨_, rfl, _, rfl, 1, (a : Int), rfl, rfl, by omega, by omega, by decide, _, _, rfl, rfl, rfl, some (.int (a : Nat)), ?_⟩
        rw [take_snoc ea, maskL_snoc, Int.toNat_natCast]
        rfl
    · rintro σ H' ⟨rfl, v, rfl⟩
      refine ⟨_, rfl, ?_⟩
      rw [List.length_map, List.take_length]
      exact k
theorem int_nm (n : Nat) (h : n ≤ 99) : PySem.intText? (SX.S (nm n)) = some ((n : Nat) : Int) := by
  have e := SX.int_S (a := nm n) (List.all_eq_true.mpr fun c hc => by
    have := nm_dig hc
    rw [decide_eq_true this.1, decide_eq_true this.2]
    rfl) (nm_ne n) (by have := nm_len h; omega)
  rw [TL.numL_val] at e
  exact e
theorem sl_of {n : Nat} (h : n ≤ 100000) : n ≤ sizeLine := by
  rw [sizeLine_eq]
  omega
theorem sc_number_in_fields : FnScope ["text", "low", "high", "number"] ["text", "low", "high"] (defScope s_number_in_fields) := C8.fnScope_by (by decide +kernel)
theorem ok_number_in_fields (T : Tx K mg) (c_only_figures : C8.Cal P w K mg base 1 "only_figures" spFigs []) : C8.Cal P w K mg base 2 "number_in_fields" spNumF [] := by
  refine cal_of T.g_number_in_fields T.D_number_in_fields sc_number_in_fields (fun _ _ _ _ _ _ us hl => match us, hl with | [_, _, _], _ => rfl) (fun vs H Q E h => ?_) (fun cdv A outer s H vs Q E hr h => ?_)
  · obtain ⟨i, j, l, rfl, _⟩ := h
    rfl
  · obtain ⟨n, low, high, rfl, h1, h2, h3, k⟩ := h
    refine ⟨_, (pss_cons (ps_if (pt_doneR (PW.pt (pw_or (pt_not (pt_val (C8.pe_c c_only_figures hr (by decide) rfl (pa_cons (pv 0) pa_nil)))) (pw_or (pt_cmpR op_gt (pe_callB call_len (by rfl) T.f_len (by decide +kernel) (pa_cons (pv 0) pa_nil)) pe_int (nomark _)) (pw_or1 (PW.pt (pw_and (pt_cmpR op_eq (pe_ix ix_str (pv 0) pe_int (fun _ _ => rfl)) pe_str (nomark _)) (pw_and1 (pt_cmpR op_ne (pv 0) pe_str (nomark _)))))))))) (pss_one (ps_ret (pe_lstS pa_nil))) pss_nil)
      (pss_one (ps_ret (pe_lc (own := [("number", 3)]) (g := gName 3) rfl sc_number_in_fields.nd (pi_list (pe_lstS (pa_cons (pe_callTy call_int_str (by rfl) T.f_int (by decide +kernel) (pa_cons (pv 0) pa_nil)) pa_nil))) (blkOk_by (own := [("number", 3)]) (N := ["text", "low", "high", "number"]) (sc := defScope s_number_in_fields) (by decide +kernel)) (fun _ _ _ _ _ => pg_name (i := 3) sc_number_in_fields.nd rfl (Or.inl rfl)) (fun _ _ _ _ _ => (pts_one (pt_chain op_le op_le (pv 1) (pv 3) (pv 2)))) (fun _ _ _ _ _ => (pv 3)))))), ?_⟩
    have hl := nm_len (n := n) (by omega)
    refine ⟨false, (fun H' => H' = H), fun Q' q' => ?_, fun H' e => ?_⟩
    · refine ⟨_, rfl, nm n, rfl, _, rfl, iteBF (by rw [figs_nm]; rfl) ?_⟩
      refine ⟨_, rfl, _, _, rfl, ⟨by rw [lenS]; exact sl_of (by omega), rfl⟩, _, _, rfl, rfl, _, rfl, iteDF (by rw [lenS]; omega) ?_⟩
      cases hx : nm n with
      | nil => exact absurd hx (nm_ne n)
      | cons c r =>
        refine ⟨_, rfl, _, 0, c, rfl, rfl, by rw [lenS, ← hx]; exact sl_of (by omega), atI_nat (xs := c :: r) (j := 0) rfl, rfl, _, rfl, ?_⟩
        rw [cs_0]
        show if decide (V.str (SX.S [c]) = V.str (SX.S [48])) = true then _ else _
        rw [sv]
        by_cases hc : c = 48
        · have e1 : nm n = [48] := nm_head (by omega) (by rw [hx, hc]; rfl)
          refine iteDT (by rw [hc]) ⟨_, rfl, rfl, _, rfl, ?_⟩
          rw [← hx, e1, sv, decide_eq_true rfl]
          exact q' H rfl
        · exact iteDF (fun z => hc (List.head_eq_of_cons_eq z)) (q' H rfl)
    subst e
    refine iteF ?_
    refine ⟨_, rfl, _, (n : Int), rfl, int_nm n (by omega), by rw [lenS]; omega, Nat.succ_le_of_lt (by rw [sizeLine_eq]; decide), fun p H1 s1 hp e1 => ?_⟩
    refine ⟨p, rfl, ⟨_, .inl (.inl e1)⟩, fun D hD => ?_⟩
    have npD : p ≠ D := ne_of_none e1 hD
    refine lc_list (K := K) (a := p) (xs := [V.int (n : Nat)]) (fun i H2 => Same H1 H2 ∧ H2 D = some (.lst (if i = 0 then [] else [V.int (n : Nat)]))) ⟨same_upd hD, upd_same⟩ (fun i H2 _ ⟨s2, _⟩ => .inl (.inl (s2 _ _ e1))) ?_ ?_
    · rintro i x H2 hi ⟨s2, e2⟩
      match i, hi with
      | 0, hi =>
        obtain rfl : V.int (n : Nat) = x := Option.some.inj hi
        refine ⟨rfl, ?_⟩
        refine ⟨_, rfl, _, rfl, _, _, rfl, rfl, _, rfl, iteDT (by omega) ⟨_, rfl, _, _, rfl, rfl, _, rfl, ?_⟩⟩
        refine iteDT (by omega) ⟨_, rfl, _, e2, small1000 (Nat.zero_le _), same_upd2 s2 hD, upd_same⟩
      | i + 1, hi => simp at hi
    · rintro H2 ⟨s2, e2⟩
      exact k D H2 (s1.trans s2) (s1.free hD) e2
end
end K58
set_option Elab.async false
set_option maxRecDepth 100000
set_option maxHeartbeats 4000000
set_option linter.all false
namespace K58
open PySem PySem.Spec PyProof.Rows L2
/-! ### ranges with a positive step, as numbers -/
theorem rgc_pos {i j c : Int} (hi : 0 ≤ i) (hij : i < j) (hj : j ≤ 1000) (hc : 0 < c) (hc2 : c ≤ 1000) : RgC i j c (((j - i - 1) / c).toNat + 1) := by
  have h0 : 0 ≤ (j - i - 1) / c := Int.ediv_nonneg (by omega) (by omega)
  have h1 : (j - i - 1) / c ≤ j - i - 1 := Int.ediv_le_self _ (by omega)
  have e : Builtin.Range.rangeSize i j c = (j - i - 1) / c + 1 := by
    unfold Builtin.Range.rangeSize
    rw [if_pos (show c > 0 by omega), if_pos hij]
  refine ⟨by omega, by omega, ?_, ?_⟩
  · unfold Builtin.Range.small
    rw [e]
    rw [if_pos (show c > 0 by omega)]
    simp only [Builtin.Range.rangeFitsLong, Bool.and_eq_true, Bool.or_eq_true, decide_eq_true_eq, beq_iff_eq]
    omega
  · rw [e]
    omega
def rgN (i c n : Nat) : List Nat := (List.range n).map fun k => i + k * c
theorem rg3_N (i c n : Nat) : rg3 (i : Int) (c : Int) n = (rgN i c n).map fun z => V.int (z : Nat) := by
  unfold rg3 rgN
  rw [List.map_map]
  refine List.map_congr_left fun k _ => ?_
  show V.int ((i : Int) + (k : Nat) * (c : Int)) = V.int ((i + k * c : Nat) : Int)
  rw [Int.natCast_add, Int.natCast_mul]
theorem rgV_N (i j : Nat) : rgV (i : Int) (j : Int) = (rgN i 1 (j - i)).map fun z => V.int (z : Nat) := by
  unfold rgV rgN
  rw [List.map_map, show ((j : Int) - (i : Int)).toNat = j - i by omega]
  refine List.map_congr_left fun k _ => ?_
  show V.int ((i : Int) + (k : Nat)) = V.int ((i + k * 1 : Nat) : Int)
  rw [Nat.mul_one, Int.natCast_add]
theorem rgN_in {i c n j : Nat} (hc : 1 ≤ c) (hn : n = (j - i - 1) / c + 1) (hij : i < j) : rgN i c n ≠ [] ∧ ∀ z ∈ rgN i c n, i ≤ z ∧ z < j := by
  refine ⟨?_, fun z hz => ?_⟩
  · unfold rgN
    rw [hn]
    simp
  · obtain ⟨k, hk, rfl⟩ := List.mem_map.mp hz
    rw [List.mem_range, hn] at hk
    have h1 : k ≤ (j - i - 1) / c := by omega
    have h2 : k * c ≤ (j - i - 1) / c * c := Nat.mul_le_mul_right c h1
    have h3 : (j - i - 1) / c * c ≤ j - i - 1 := Nat.div_mul_le_self _ _
    omega
section
variable {P : Program} {w : World} {K : PySem.W.Frag} {mg : Str → Option Value} {base : Heap}
/-! ### lists of one number each -/
def NumsIn (H : Hp) : List Addr → List Nat → Prop
  | [], [] => True
  | a :: as, n :: ns => H a = some (.lst [.int n]) ∧ NumsIn H as ns
  | _, _ => False
theorem NumsIn.same {H H' : Hp} (s : Same H H') : ∀ {as : List Addr} {ns : List Nat}, NumsIn H as ns → NumsIn H' as ns
  | [], [], h => h
  | a :: as, m :: ms, ⟨h1, h2⟩ => ⟨s _ _ h1, h2.same s⟩
  | [], _ :: _, h => h.elim
  | _ :: _, [], h => h.elim
theorem NumsIn.snoc {H : Hp} : ∀ {as : List Addr} {ns : List Nat} {a : Addr} {n : Nat}, NumsIn H as ns → H a = some (.lst [.int n]) → NumsIn H (as ++ [a]) (ns ++ [n])
  | [], [], a, m, _, h => ⟨h, True.intro⟩
  | b :: as, n :: ms, a, m, ⟨h1, h2⟩, h => ⟨h1, h2.snoc h⟩
  | [], _ :: _, _, _, h, _ => h.elim
  | _ :: _, [], _, _, h, _ => h.elim
/-- l stands apart from the lists of numbers -/
theorem NumsIn.upd {H : Hp} {l : Addr} {o : HO} (hl : ∀ n : Nat, H l ≠ some (.lst [.int n])) : ∀ {as : List Addr} {ns : List Nat}, NumsIn H as ns → NumsIn (upd H l o) as ns
  | [], [], h => h
  | a :: as, m :: ms, ⟨h1, h2⟩ => ⟨by rw [upd_ne (fun e => hl m (by rw [← e]; exact h1))]; exact h1, NumsIn.upd hl h2⟩
  | [], _ :: _, h => h.elim
  | _ :: _, [], h => h.elim
def nD (n : Nat) : PyData := .list [.int n]
theorem nums_all {H : Hp} : ∀ {as : List Addr} {ns : List Nat}, NumsIn H as ns → DpAll K H (as.map V.ref) (ns.map nD)
  | [], [], _ => .nil
  | a :: as, e :: es, ⟨h1, h2⟩ => .cons (.lst (.inl (.inl h1)) (.cons (.int _) .nil)) (nums_all h2)
  | [], _ :: _, h => h.elim
  | _ :: _, [], h => h.elim
theorem nDs_can : ∀ es : List Nat, PyData.canLayAll0 (es.map nD) = true
  | [] => rfl
  | e :: es => by
    show ((nD e).canLay0 && PyData.canLayAll0 (es.map nD)) = true
    rw [nDs_can es]
    rfl
theorem nDs_depth : ∀ es : List Nat, PyData.depthAll (es.map nD) ≤ 1
  | [] => by
    show 0 ≤ 1
    omega
  | e :: es => by
    show max (nD e).depth (PyData.depthAll (es.map nD)) ≤ 1
    have := nDs_depth es
    have h : (nD e).depth = 1 := rfl
    omega
theorem nums_shaped (es : List Nat) : SeqAt.shaped (.list (es.map nD)) = true := by
  have h1 : PyData.canLay0 (.list (es.map nD)) = true := nDs_can es
  have h2 : PyData.depth (.list (es.map nD)) ≤ 64 := by
    show PyData.depthAll (es.map nD) + 1 ≤ 64
    have := nDs_depth es
    omega
  unfold SeqAt.shaped
  rw [h1, decide_eq_true h2]
  rfl
theorem nums_any (es : List Nat) : ((es.map nD).any fun z => PyData.eqv z (.list [])) = false := by
  refine List.any_eq_false.mpr fun z hz => ?_
  obtain ⟨n, _, rfl⟩ := List.mem_map.mp hz
  exact Bool.false_ne_true
/-- a body that is not the star: its numbers -/
theorem Body.nums {low high a b : Nat} {l : List Nat} (h : Body low high l a b) (hs : l ≠ [42]) : ∃ ns : List Nat, l = TL.joinL [45] (ns.map nm) ∧ ns.length ≤ 2 ∧ (∀ n ∈ ns, low ≤ n ∧ n ≤ high) ∧ (∃ t, ns = a :: t) ∧ (∃ t, ns = t ++ [b]) := by
  cases h with
  | star _ => exact absurd rfl hs
  | one h1 h2 => exact ⟨[a], rfl, by simp, fun n hn => by simp at hn; omega, ⟨[], rfl⟩, ⟨[], rfl⟩⟩
  | span h1 h2 h3 => exact ⟨[a, b], rfl, by simp, fun n hn => by simp at hn; omega, ⟨[b], rfl⟩, ⟨[a], rfl⟩⟩
theorem sc_span_in : FnScope ["text", "low", "high", "part", "ends"] ["text", "low", "high"] (defScope s_span_in) := C8.fnScope_by (by decide +kernel)
theorem ok_span_in (T : Tx K mg) (c_number_in_fields : C8.Cal P w K mg base 2 "number_in_fields" spNumF []) : C8.Cal P w K mg base 3 "span_in" spSpan [] := by
  refine cal_of T.g_span_in T.D_span_in sc_span_in (fun _ _ _ _ _ _ us hl => match us, hl with | [_, _, _], _ => rfl) (fun vs H Q E h => ?_) (fun cdv A outer s H vs Q E hr h => ?_)
  · obtain ⟨i, j, l, a, b, rfl, _⟩ := h
    rfl
  · obtain ⟨x, low, high, a, b, rfl, hb, hh, k⟩ := h
    refine ⟨_, (pss_cons (ps_if (pt_cmpR op_eq (pv 0) pe_str (nomark _)) (pss_one (ps_ret (pe_lstS (pa_cons (pv 1) (pa_cons (pv 2) pa_nil))))) pss_nil)
      (pss_cons (ps_setLc (i := 4) (own := [("part", 3)]) (g := gName 3) rfl sc_span_in.nd rfl rfl (sw_true rfl rfl rfl (by decide +kernel)) (pi_list (pe_splitS (pv 0) pe_str)) (blkOk_by (own := [("part", 3)]) (N := ["text", "low", "high", "part", "ends"]) (sc := defScope s_span_in) (by decide +kernel)) (fun _ _ _ _ _ => pg_name (i := 3) sc_span_in.nd rfl (Or.inl rfl)) (fun _ _ _ _ _ => pts_nil) (fun _ _ _ _ _ => (C8.pe_c c_number_in_fields hr (by decide) rfl (pa_cons (pv 3) (pa_cons (pv 1) (pa_cons (pv 2) pa_nil))))))
      (pss_cons (ps_if (pt_doneR (PW.pt (pw_or (pt_cmpR op_gt (pe_callB call_len (by rfl) T.f_len (by decide +kernel) (pa_cons (pv 4) pa_nil)) pe_int (nomark _)) (pw_or (pt_cmpR (op_inD (hu65 hr)) (pe_lstS pa_nil) (pv 4) (by rfl)) (pw_or1 (pt_cmpR op_gt (pe_ix ix_list (pe_ix ix_list (pv 4) pe_int (fun _ _ => rfl)) pe_int (fun _ _ => rfl)) (pe_ix ix_list (pe_ix ix_list (pv 4) (pe_un un_neg pe_int) (fun _ _ => rfl)) pe_int (fun _ _ => rfl)) (nomark _))))))) (pss_one (ps_ret (pe_lstS pa_nil))) pss_nil)
      (pss_one (ps_ret (pe_lstS (pa_cons (pe_ix ix_list (pe_ix ix_list (pv 4) pe_int (fun _ _ => rfl)) pe_int (fun _ _ => rfl)) (pa_cons (pe_ix ix_list (pe_ix ix_list (pv 4) (pe_un un_neg pe_int) (fun _ _ => rfl)) pe_int (fun _ _ => rfl)) pa_nil)))))))), ?_⟩
    refine ⟨_, rfl, rfl, _, rfl, ?_⟩
    rw [cs_star, sv]
    by_cases st : x = [42]
    · refine iteDT st ⟨_, rfl, _, rfl, sl_of (by simp), fun p H1 s1 hp e1 => k p H1 s1 hp ?_⟩
      have : a = low ∧ b = high := by
        cases hb with
        | star _ => exact ⟨rfl, rfl⟩
        | one _ _ =>
          have := nm_dig (n := a) (c := 42) (by rw [st]; simp)
          omega
        | span _ _ _ =>
          have h45 : 45 ∈ ([42] : List Nat) := by
            rw [← st]
            simp
          simp at h45
      rw [e1, this.1, this.2]
    · refine iteDF st ?_
      obtain ⟨ns, ex, nl, nin, ⟨t1, en1⟩, ⟨t2, en2⟩⟩ := hb.nums st
      have nsne : ns ≠ [] := by
        rw [en1]
        simp
      have xl := hb.len hh
      refine ⟨_, rfl, ⟨_, rfl⟩, 45, ns.map nm, by rw [ex], congrArg V.str cs_dash, by decide, by simpa using nsne, ?_, by rw [← ex]; omega, fun p H1 s1 hp e1 => ?_⟩
      · intro q hq
        obtain ⟨n, _, rfl⟩ := List.mem_map.mp hq
        exact nm_no (by decide)
      refine ⟨p, rfl, ⟨_, .inl (.inl e1)⟩, fun D hD => ?_⟩
      refine lc_list (K := K) (a := p) (xs := (ns.map nm).map fun p => V.str (SX.S p)) (fun i H2 => Same H1 H2 ∧ ∃ as, H2 D = some (.lst (as.map V.ref)) ∧ NumsIn H2 as (ns.take i) ∧ as.length ≤ i) ⟨same_upd hD, [], upd_same, True.intro, Nat.le_refl _⟩ (fun i H2 _ ⟨s2, _⟩ => .inl (.inl (s2 _ _ e1))) ?_ ?_
      · rintro i y H2 hi ⟨s2, as, e2, ni, al⟩
        rw [List.getElem?_map, List.getElem?_map] at hi
        cases en : ns[i]? with
        | none =>
          rw [en] at hi
          cases hi
        | some n =>
          rw [en] at hi
          obtain rfl : V.str (SX.S (nm n)) = y := Option.some.inj hi
          have nn := nin n (List.mem_of_getElem? en)
          have il : i < ns.length := (List.getElem?_eq_some_iff.mp en).1
          refine ⟨rfl, _, rfl, _, rfl, _, rfl, n, low, high, rfl, nn.1, nn.2, hh, fun q H3 s3 hq e3 => ?_⟩
          have e23 := s3 _ _ e2
          refine ⟨_, e23, ?_, ?_, as ++ [q], ?_, ?_, ?_⟩
          · rw [List.length_map]
            exact small1000 (by omega)
          · exact same_upd2 (s2.trans s3) hD
          · rw [upd_same, List.map_append]
            rfl
          · rw [take_snoc en]
            refine ((ni.same s3).snoc e3).upd fun m => ?_
            rw [e23]
            cases as with
            | nil => simp
            | cons z zs => simp
          · rw [List.length_append]
            simp only [List.length_cons, List.length_nil]
            omega
      · rintro H2 ⟨s2, as, e2, ni, al⟩
        rw [List.length_map, List.length_map, List.take_length] at ni
        have s02 := s1.trans s2
        -- the first and the last of the lists
        obtain ⟨a0, ta, ea0, ha0⟩ : ∃ a0 ta, as = a0 :: ta ∧ H2 a0 = some (.lst [.int (a : Nat)]) := by
          rw [en1] at ni
          cases as with
          | nil => exact ni.elim
          | cons z zs => exact ⟨z, zs, rfl, ni.1⟩
        obtain ⟨z0, tz, ez0, hz0⟩ : ∃ z0 tz, as = tz ++ [z0] ∧ H2 z0 = some (.lst [.int (b : Nat)]) := by
          rw [en2] at ni
          clear en1 en2 ea0 ha0 e2 al
          have gen : ∀ (t : List Nat) (as : List Addr), NumsIn H2 as (t ++ [b]) → ∃ z0 tz, as = tz ++ [z0] ∧ H2 z0 = some (.lst [.int (b : Nat)]) := by
            intro t
            induction t with
            | nil =>
              intro as h
              match as, h with
              | [], h => exact h.elim
              | [z], h => exact ⟨z, [], rfl, h.1⟩
              | z :: z' :: zs, h => exact h.2.elim
            | cons n t ih =>
              intro as h
              match as, h with
              | [], h => exact h.elim
              | z :: zs, h =>
                obtain ⟨z0, tz, e, q⟩ := ih zs h.2
                exact ⟨z0, z :: tz, by rw [e]; rfl, q⟩
          exact gen t2 as ni
        have asl : as.length ≤ 2 := by
          rw [List.length_map, List.length_map] at al
          omega
        have le := hb.le
        have at0 : atI (as.map V.ref) 0 = some (.ref a0) := by
          rw [ea0]
          exact atI_nat (j := 0) rfl
        have at1 : atI (as.map V.ref) (-1) = some (.ref z0) := by
          rw [ez0, List.map_append]
          exact atI_last _ _
        refine ⟨false, Same H2, fun Q' q' => ?_, fun H3 s3 => ?_⟩
        · refine ⟨_, rfl, _, as.length, rfl, .inl ⟨_, .inl (.inl e2), by rw [List.length_map]⟩, _, _, rfl, rfl, _, rfl, iteDF (by omega) ?_⟩
          refine ⟨Nat.zero_le _, fun q H3 s3 _ e3 => ⟨_, rfl, .list [], ns.map nD, .lst (.inl (.inl e3)) .nil, .lst (.inl (.inl (s3 _ _ e2))) (nums_all (ni.same s3)), by decide, nums_shaped ns, _, rfl, iteBF (nums_any ns) ?_⟩⟩
          refine ⟨_, rfl, D, _, 0, _, rfl, rfl, .inl (.inl (s3 _ _ e2)), at0, a0, _, 0, _, rfl, rfl, .inl (.inl (s3 _ _ ha0)), atI_nat (j := 0) rfl, ?_⟩
          refine ⟨_, rfl, _, rfl, D, _, -1, _, rfl, rfl, .inl (.inl (s3 _ _ e2)), at1, z0, _, 0, _, rfl, rfl, .inl (.inl (s3 _ _ hz0)), atI_nat (j := 0) rfl, _, _, rfl, rfl, _, rfl, ?_⟩
          rw [decide_eq_false (by omega)]
          exact q' H3 s3
        · refine iteF ?_
          refine ⟨_, rfl, D, _, 0, _, rfl, rfl, .inl (.inl (s3 _ _ e2)), at0, a0, _, 0, _, rfl, rfl, .inl (.inl (s3 _ _ ha0)), atI_nat (j := 0) rfl, ?_⟩
          refine ⟨_, rfl, _, rfl, D, _, -1, _, rfl, rfl, .inl (.inl (s3 _ _ e2)), at1, z0, _, 0, _, rfl, rfl, .inl (.inl (s3 _ _ hz0)), atI_nat (j := 0) rfl, ?_⟩
          exact ⟨sl_of (by simp), fun q H4 s4 hq e4 => k q H4 ((s02.trans s3).trans s4) ((s02.trans s3).free hq) e4⟩
end
end K58
set_option Elab.async false
set_option maxRecDepth 100000
set_option maxHeartbeats 4000000
set_option linter.all false
namespace K58
open PySem PySem.Spec PyProof.Rows L2
section
variable {P : Program} {w : World} {K : PySem.W.Frag} {mg : Str → Option Value} {base : Heap}
theorem Plain.cut {low high : Nat} {x : List Nat} (h : Plain low high x) : ∃ (l : List Nat) (a b : Nat) (rest : List (List Nat)), Body low high l a b ∧ x = TL.joinL [47] (l :: rest) ∧ (rest = [] ∨ ∃ s, 1 ≤ s ∧ s ≤ 99 ∧ rest = [nm s]) := by
  cases h with
  | bare hb => exact ⟨x, _, _, [], hb, rfl, .inl rfl⟩
  | @step l a b s hb h1 h2 => exact ⟨l, a, b, [nm s], hb, rfl, .inr ⟨s, h1, h2, rfl⟩⟩
theorem sc_item_mask : FnScope ["item", "low", "high", "halves", "span", "stride"] ["item", "low", "high"] (defScope s_item_mask) := C8.fnScope_by (by decide +kernel)
theorem ok_item_mask (T : Tx K mg) (c_span_in : C8.Cal P w K mg base 3 "span_in" spSpan []) (c_mask_of : C8.Cal P w K mg base 1 "mask_of" spMaskOf []) (c_number_in_fields : C8.Cal P w K mg base 2 "number_in_fields" spNumF []) (c_only_figures : C8.Cal P w K mg base 1 "only_figures" spFigs []) :
    C8.Cal P w K mg base 4 "item_mask" spItem [] := by
  refine cal_of T.g_item_mask T.D_item_mask sc_item_mask (fun _ _ _ _ _ _ us hl => match us, hl with | [_, _, _], _ => rfl) (fun vs H Q E h => ?_) (fun cdv A outer s H vs Q E hr h => ?_)
  · obtain ⟨i, j, l, rfl, _⟩ := h
    rfl
  · obtain ⟨x, low, high, rfl, hp, hh, k⟩ := h
    refine ⟨_, (pss_cons (ps_set (i := 3) sc_item_mask.nd rfl (Or.inl rfl) (pe_splitS (pv 0) pe_str))
      (pss_cons (ps_set (i := 4) sc_item_mask.nd rfl (Or.inl rfl) (C8.pe_c c_span_in hr (by decide) rfl (pa_cons (pe_ix ix_list (pv 3) pe_int (fun _ _ => rfl)) (pa_cons (pv 1) (pa_cons (pv 2) pa_nil)))))
      (pss_cons (ps_if (pt_doneR (PW.pt (pw_or (pt_cmpR (op_eqD hr.units) (pv 4) (pe_lstS pa_nil) (nomark _)) (pw_or1 (pt_cmpR op_gt (pe_callB call_len (by rfl) T.f_len (by decide +kernel) (pa_cons (pv 3) pa_nil)) pe_int (nomark _)))))) (pss_one (ps_ret pe_int)) pss_nil)
      (pss_cons (ps_if (pt_cmpR op_eq (pe_callB call_len (by rfl) T.f_len (by decide +kernel) (pa_cons (pv 3) pa_nil)) pe_int (nomark _)) (pss_one (ps_ret (C8.pe_c c_mask_of hr (by decide) rfl (pa_cons (pe_listRgS rfl rfl T.f_list (prg_2 rfl T.f_range (pe_ix ix_list (pv 4) pe_int (fun _ _ => rfl)) (pe_op op_add (pe_ix ix_list (pv 4) pe_int (fun _ _ => rfl)) pe_int))) pa_nil)))) pss_nil)
      (pss_cons (ps_set (i := 5) sc_item_mask.nd rfl (Or.inl rfl) (C8.pe_c c_number_in_fields hr (by decide) rfl (pa_cons (pe_ix ix_list (pv 3) pe_int (fun _ _ => rfl)) (pa_cons pe_int (pa_cons (C8.pe_gc rfl T.c_MOST_STRIDE) pa_nil)))))
      (pss_cons (ps_if (pt_cmpR (op_eqD hr.units) (pv 5) (pe_lstS pa_nil) (nomark _)) (pss_one (ps_ret pe_int)) pss_nil)
      (C8.pss_cut (ps_if (pt_val (C8.pe_c c_only_figures hr (by decide) rfl (pa_cons (pe_ix ix_list (pv 3) pe_int (fun _ _ => rfl)) pa_nil))) (pss_one (ps_asg (pv 2) (pg_sub (pv 4) pe_int set_list))) pss_nil)
      (pss_one (ps_ret (C8.pe_c c_mask_of hr (by decide) rfl (pa_cons (pe_list3 rfl rfl T.f_list rfl T.f_range (pe_ix ix_list (pv 4) pe_int (fun _ _ => rfl)) (pe_op op_add (pe_ix ix_list (pv 4) pe_int (fun _ _ => rfl)) pe_int) (pe_ix ix_list (pv 5) pe_int (fun _ _ => rfl))) pa_nil))))))))))), ?_⟩
    have xl := hp.len hh
    obtain ⟨l, a, b, rest, hb, ex, hrest⟩ := hp.cut
    have le := hb.le
    have no : ∀ p ∈ l :: rest, 47 ∉ p := fun p hp => by
      rcases List.mem_cons.mp hp with rfl | hp
      · exact fun c => by have := hb.sgn c; omega
      · rcases hrest with rfl | ⟨s, _, _, rfl⟩
        · cases hp
        · rw [List.mem_singleton] at hp
          subst hp
          exact nm_no (by decide)
    refine ⟨_, rfl, ⟨_, rfl⟩, 47, l :: rest, by rw [ex], congrArg V.str cs_slash, by decide, by simp, no, by rw [← ex]; omega, fun p H1 s1 hp1 e1 => ?_⟩
    refine ⟨_, rfl, p, _, 0, .str (SX.S l), rfl, rfl, .inl (.inl e1), atI_nat (j := 0) rfl, _, rfl, _, rfl, l, low, high, a, b, rfl, hb, hh, fun q H2 s2 hq e2 => ?_⟩
    have s02 := s1.trans s2
    have e12 := s2 _ _ e1
    have hq0 : H q = none := s1.free hq
    have ab : SeqAt.shaped (.list [.int (a : Int), .int (b : Int)]) = true := rfl
    have rl : rest.length ≤ 1 := by
      rcases hrest with rfl | ⟨s, _, _, rfl⟩ <;> simp
    refine ⟨false, Same H2, fun Q' q' => ?_, fun H3 s3 => iteF ?_⟩
    · refine ⟨_, rfl, Nat.zero_le _, fun z H3 s3 _ e3 => ⟨.list [.int (a : Int), .int (b : Int)], .list [], .lst (.inl (.inl (s3 _ _ e2))) (.cons (.int _) (.cons (.int _) .nil)), .lst (.inl (.inl e3)) .nil, ab, by decide, _, rfl, iteBF rfl ?_⟩⟩
      refine ⟨_, rfl, _, (l :: rest).length, rfl, .inl ⟨_, .inl (.inl (s3 _ _ e12)), by rw [List.length_map]⟩, _, _, rfl, rfl, _, rfl, ?_⟩
      rw [decide_eq_false (by rw [List.length_cons]; omega)]
      exact q' H3 s3
    have s03 := s02.trans s3
    have e13 := s3 _ _ e12
    have e23 := s3 _ _ e2
    refine ⟨_, rfl, _, (l :: rest).length, rfl, .inl ⟨_, .inl (.inl e13), by rw [List.length_map]⟩, rfl, _, rfl, ?_⟩
    rw [iv]
    rcases hrest with rfl | ⟨s, h1, h2, rfl⟩
    · refine iteDT rfl ?_
      refine ⟨_, rfl, q, _, 0, _, rfl, rfl, .inl (.inl e23), atI_nat (j := 0) rfl, _, rfl, q, _, 1, _, rfl, rfl, .inl (.inl e23), atI_nat (j := 1) rfl, _, _, rfl, rfl, _, _, rfl, rfl, ⟨by omega, by omega, by omega, by omega, by omega⟩, fun r H4 s4 _ e4 => ?_⟩
      have hin := rgN_in (i := a) (c := 1) (n := b + 1 - a) (j := b + 1) (Nat.le_refl _) (by rw [Nat.div_one]; omega) (by omega)
      refine ⟨r, rgN a 1 (b + 1 - a), rfl, ?_, fun n hn => by have := hin.2 n hn; omega, ?_⟩
      · rw [e4]
        exact congrArg (fun l => some (HO.lst l)) (rgV_N a (b + 1))
      · exact k _ H4 (s03.trans s4) (maskL_in hin.1 fun n hn => by have := hin.2 n hn; omega)
    · refine iteDF (by simp) ?_
      refine ⟨_, rfl, p, _, 1, .str (SX.S (nm s)), rfl, rfl, .inl (.inl e13), atI_nat (j := 1) rfl, s, 1, 99, rfl, h1, h2, by decide, fun r H4 s4 hr e4 => ?_⟩
      have ss : SeqAt.shaped (.list [.int (s : Int)]) = true := rfl
      refine ⟨_, rfl, Nat.zero_le _, fun z H5 s5 _ e5 => ⟨.list [.int (s : Int)], .list [], .lst (.inl (.inl (s5 _ _ e4))) (.cons (.int _) .nil), .lst (.inl (.inl e5)) .nil, ss, by decide, _, rfl, iteBF rfl ?_⟩⟩
      have s35 := s4.trans s5
      have s05 := s03.trans s35
      have e25 := s35 _ _ e23
      have e45 := s5 _ _ e4
      have qr : q ≠ r := ne_of_none e23 hr
      refine ⟨fun σ' H' => Same H H' ∧ ∃ b' : Nat, a ≤ b' ∧ b' ≤ high ∧ H' q = some (.lst [.int a, .int b']) ∧ H' r = some (.lst [.int s]) ∧ σ' = [some (.str (SX.S x)), some (.int low), some (.int high), some (.ref p), some (.ref q), some (.ref r)], ?_, ?_⟩
      · refine ⟨_, rfl, p, _, 0, .str (SX.S l), rfl, rfl, .inl (.inl (s35 _ _ e13)), atI_nat (j := 0) rfl, l, rfl, _, rfl, ?_⟩
        cases hf : figs l with
        | true =>
          refine iteT ⟨_, rfl, _, rfl, q, _, 1, 1, rfl, rfl, e25, rfl, same_upd2 s05 hq0, high, by omega, Nat.le_refl _, upd_same, ?_, rfl⟩
          rw [upd_ne qr.symm]
          exact e45
        | false => exact iteF ⟨s05, b, by omega, by omega, e25, e45, rfl⟩
      · rintro σ' H' ⟨s6, b', b1, b2, eq, er, rfl⟩
        refine ⟨_, rfl, q, _, 0, _, rfl, rfl, .inl (.inl eq), atI_nat (j := 0) rfl, _, rfl, q, _, 1, _, rfl, rfl, .inl (.inl eq), atI_nat (j := 1) rfl, _, _, rfl, rfl, _, rfl, r, _, 0, _, rfl, rfl, .inl (.inl er), atI_nat (j := 0) rfl, ?_⟩
        have rc := rgc_pos (i := a) (j := (b' : Int) + 1) (c := s) (by omega) (by omega) (by omega) (by omega) (by omega)
        have en : ((((b' : Int) + 1 - a - 1) / s).toNat + 1) = (b' + 1 - a - 1) / s + 1 := by
          have e1 : (b' : Int) + 1 - a - 1 = ((b' + 1 - a - 1 : Nat) : Int) := by omega
          rw [e1, ← Int.natCast_ediv, Int.toNat_natCast]
        rw [en] at rc
        have dl : (b' + 1 - a - 1) / s ≤ b' + 1 - a - 1 := Nat.div_le_self _ _
        refine ⟨_, _, _, _, rfl, rfl, rfl, rc, by omega, fun t H7 s7 _ e7 => ?_⟩
        have hin := rgN_in (i := a) (c := s) (n := (b' + 1 - a - 1) / s + 1) (j := b' + 1) h1 rfl (by omega)
        refine ⟨t, rgN a s ((b' + 1 - a - 1) / s + 1), rfl, ?_, fun n hn => by have := hin.2 n hn; omega, ?_⟩
        · rw [e7, rg3_N]
        · exact k _ H7 (s6.trans s7) (maskL_in hin.1 fun n hn => by have := hin.2 n hn; omega)
theorem cut_all (xs : List V) (h : xs.length ≤ 40) : cutV xs none (some 40) = xs := by
  unfold cutV
  rw [HT.sIx_none, List.drop_zero, show (some (40 : Int)) = some ((40 : Nat) : Int) from rfl, HT.sIx_nat, Nat.min_eq_right h, Nat.sub_zero, List.take_length]
theorem sc_read_field : FnScope ["text", "low", "high", "mask", "items", "at", "item", "here"] ["text", "low", "high"] (defScope s_read_field) := C8.fnScope_by (by decide +kernel)
theorem ok_read_field (T : Tx K mg) (c_item_mask : C8.Cal P w K mg base 4 "item_mask" spItem []) : C8.Cal P w K mg base 5 "read_field" spField [] := by
  refine cal_of T.g_read_field T.D_read_field sc_read_field (fun _ _ _ _ _ _ us hl => match us, hl with | [_, _, _], _ => rfl) (fun vs H Q E h => ?_) (fun cdv A outer s H vs Q E hr h => ?_)
  · obtain ⟨i, j, l, rfl, _⟩ := h
    rfl
  · obtain ⟨x, low, high, rfl, hf, hh, k⟩ := h
    refine ⟨_, (pss_cons (ps_if (pt_doneR (PW.pt (pw_or (pt_not (pt_val (pe_callB call_isi (by rfl) T.f_isinstance (by decide +kernel) (pa_cons (pv 0) (pa_cons (pe_bltn (v := .ty "str") (u := .type "str") rfl T.f_str (by decide +kernel) rfl) pa_nil))))) (pw_or1 (pt_cmpR op_gt (pe_callB call_len (by rfl) T.f_len (by decide +kernel) (pa_cons (pv 0) pa_nil)) (C8.pe_gc rfl T.c_MOST_SIGNS_fields) (nomark _)))))) (pss_one ps_never) pss_nil)
      (pss_cons (ps_set (i := 3) sc_read_field.nd rfl (Or.inl rfl) pe_int)
      (pss_cons (ps_set (i := 4) sc_read_field.nd rfl (Or.inl rfl) (pe_splitS (pv 0) pe_str))
      (pss_cons (ps_for PassesOwn.never rfl (pi_enum (by rfl) T.f_enumerate (pa_cons (pe_slice sl_listS (pv 4) po_none (po_some (C8.pe_gc rfl T.c_MOST_ITEMS_fields))) pa_nil)) (pg_tup rfl (pgs_cons (pg_name (i := 5) sc_read_field.nd rfl (Or.inl rfl)) (pgs_cons (pg_name (i := 6) sc_read_field.nd rfl (Or.inl rfl)) pgs_nil))) (pss_cons (ps_set (i := 7) sc_read_field.nd rfl (Or.inl rfl) (C8.pe_c c_item_mask hr (by decide) rfl (pa_cons (pv 6) (pa_cons (pv 1) (pa_cons (pv 2) pa_nil)))))
      (pss_cons (ps_if (pt_cmpR op_eq (pv 7) pe_int (nomark _)) (pss_one ps_never) pss_nil)
      (pss_one (ps_set (i := 3) sc_read_field.nd rfl (Or.inl rfl) (pe_op op_orN (pv 3) (pv 7)))))))
      (pss_cons (ps_if (pt_cmpR op_gt (pe_callB call_len (by rfl) T.f_len (by decide +kernel) (pa_cons (pv 4) pa_nil)) (C8.pe_gc rfl T.c_MOST_ITEMS_fields) (nomark _)) (pss_one ps_never) pss_nil)
      (pss_one (ps_ret (pv 3)))))))), ?_⟩
    have xl := hf.len fun l hl => hl.ok hh
    obtain ⟨parts, p1, p2, p3, ex⟩ := hf
    refine ⟨false, (fun H' => H' = H), fun Q' q' => ?_, fun H' e => ?_⟩
    · refine ⟨_, rfl, _, _, _, _, _, rfl, .ty "str", .base (.str _), kit_ty (r := true) (by decide +kernel), _, rfl, iteF ?_⟩
      refine ⟨_, rfl, _, _, rfl, ⟨by rw [lenS]; exact sl_of (by omega), rfl⟩, _, _, rfl, rfl, _, rfl, ?_⟩
      rw [decide_eq_false (by rw [lenS]; omega)]
      exact q' H rfl
    subst e
    refine iteF ?_
    refine ⟨_, rfl, ⟨_, rfl⟩, 44, parts, by rw [ex], congrArg V.str cs_comma, by decide, p1, fun p hp => ((p3 p hp).ok hh).no44, by rw [← ex]; omega, fun p H1 s1 hp1 e1 => ?_⟩
    refine ⟨_, rfl, 40, rfl, p, _, rfl, .inl (.inl e1), fun q H2 s2 hq e2 => ?_⟩
    rw [cut_all _ (by rw [List.length_map]; omega)] at e2
    refine ⟨q, _, rfl, .inl (.inl e2), ?_⟩
    refine for_enum (K := K) (a := q) (xs := parts.map fun p => V.str (SX.S p)) (fun i σ H' => Same H2 H' ∧ ∃ (m : Nat) (v1 v2 v3 : Option V), (i = 0 → m = 0) ∧ (0 < i → MaskIn low high m) ∧
      σ = [some (.str (SX.S x)), some (.int low), some (.int high), some (.int m), some (.ref p), v1, v2, v3]) ⟨Same.refl _, 0, none, none, none, fun _ => rfl, fun h => absurd h (by decide), rfl⟩ (fun i σ H' _ ⟨s', _⟩ => .inl (.inl (s' _ _ e2))) ?_ ?_
    · rintro i y σ H3 Tt H4 hi ⟨s3, m, v1, v2, v3, m0, m1, rfl⟩ s4 _ eT
      rw [List.getElem?_map] at hi
      cases ea : parts[i]? with
      | none =>
        rw [ea] at hi
        cases hi
      | some l =>
        rw [ea] at hi
        obtain rfl : V.str (SX.S l) = y := Option.some.inj hi
        have pl := p3 l (List.mem_of_getElem? ea)
        refine ⟨Tt, _, rfl, .inl (.inl eT), rfl, _, _, rfl, _, _, rfl, rfl, ?_⟩
        refine ⟨_, rfl, _, rfl, _, rfl, l, low, high, rfl, pl, hh, fun mm H5 s5 hmm => ?_⟩
        refine ⟨_, rfl, rfl, _, rfl, iteDF (fun z => hmm.ne (by have := V.int.inj z; omega)) ?_⟩
        refine ⟨_, rfl, _, rfl, m, mm, rfl, rfl, (s3.trans s4).trans s5, m ||| mm, _, _, _, fun z => by omega, fun _ => ?_, rfl⟩
        by_cases c : i = 0
        · rw [m0 c, Nat.zero_or]
          exact hmm
        · exact (m1 (by omega)).or hmm
    · rintro σ H3 ⟨s3, m, v1, v2, v3, m0, m1, rfl⟩
      rw [List.length_map] at m1
      have pl0 : 0 < parts.length := List.length_pos_iff.mpr p1
      have s13 := s2.trans s3
      refine ⟨_, rfl, _, parts.length, rfl, .inl ⟨_, .inl (.inl (s13 _ _ e1)), by rw [List.length_map]⟩, _, _, rfl, rfl, _, rfl, iteDF (by omega) ⟨_, rfl, k m H3 (s1.trans s13) (m1 pl0)⟩⟩
theorem Plain.field {low high : Nat} {x : List Nat} (h : Plain low high x) : FieldT (Plain low high) x := ⟨[x], by simp, by simp, fun p hp => by rw [List.mem_singleton.mp hp]; exact h, rfl⟩
theorem sc_plain_item : FnScope ["item", "at", "low", "high", "mask"] ["item", "at", "low", "high"] (defScope s_plain_item) := C8.fnScope_by (by decide +kernel)
theorem ok_plain_item (T : Tx K mg) (c_read_field : C8.Cal P w K mg base 5 "read_field" spField []) : C8.Cal P w K mg base 6 "plain_item" spPlainItem [] := by
  refine cal_of T.g_plain_item T.D_plain_item sc_plain_item (fun _ _ _ _ _ _ us hl => match us, hl with | [_, _, _, _], _ => rfl) (fun vs H Q E h => ?_) (fun cdv A outer s H vs Q E hr h => ?_)
  · obtain ⟨i, j, l, m, rfl, _⟩ := h
    rfl
  · obtain ⟨x, at_, low, high, rfl, hp, hh, k⟩ := h
    refine ⟨_, (pss_cons (ps_try_only rfl rfl ⟨rfl, by decide, .inl T.g_NoField⟩ takes0 (fun W pn xe tk po => (pss_one (ps_set (i := 4) sc_plain_item.nd rfl (Or.inl rfl) (C8.pe_c c_read_field hr (by decide) rfl (pa_cons (pv 0) (pa_cons (pv 2) (pa_cons (pv 3) pa_nil))))))) (fun a oe cls d pn _ _ => pss_one ps_never))
      (pss_one (ps_ret (pv 4)))), ?_⟩
    exact ⟨_, rfl, _, rfl, _, rfl, x, low, high, rfl, hp.field, hh, fun m H1 s1 hm => ⟨_, rfl, k m H1 s1 hm⟩⟩
end
end K58
set_option Elab.async false
set_option maxRecDepth 100000
set_option maxHeartbeats 4000000
set_option linter.all false
namespace K58
open PySem PySem.Spec PyProof.Rows L2
/-- an __init__ that stores one value -/
def spInit1 (C : Addr) (f : Str) : Sp := fun vs H Q _ => ∃ (x dx : Addr) (v : V), vs = [.ref x, v] ∧ H x = some (.ins C dx []) ∧ Q .non (upd H x (.ins C dx [(f, v)]))
def spInit2 (C : Addr) (f g : Str) : Sp := fun vs H Q _ => ∃ (x dx : Addr) (v u : V), vs = [.ref x, v, u] ∧ H x = some (.ins C dx []) ∧ ∀ H', (∀ b, b ≠ x → H' b = H b) → H' x = some (.ins C dx [(f, v), (g, u)]) → Q .non H'
theorem same_new {H : Hp} {x dx : Addr} {a b c : HO} (nx : H x = none) (nd : H dx = none) : Same H (upd (upd (upd H dx a) x b) x c) := fun z o e => by
  rw [upd_ne (ne_of_none e nx), upd_ne (ne_of_none e nx), upd_ne (ne_of_none e nd)]
  exact e
section
variable {P : Program} {w : World} {K : PySem.W.Frag} {mg : Str → Option Value} {base : Heap}
theorem sc_Numbers_init : FnScope ["self", "mask"] ["self", "mask"] (defScope s_Numbers_init) := C8.fnScope_by (by decide +kernel)
theorem ok_Numbers (T : Tx K mg) : C8.Mak P w K mg base 1 "Numbers" (He.ga K "Numbers") (spInit1 (He.ga K "Numbers") "mask") [] := by
  refine mak_of T.mk_Numbers T.g_Numbers T.D_Numbers_init sc_Numbers_init (fun _ _ _ _ _ _ us hl => match us, hl with | [_, _], _ => rfl) (fun vs H Q E h => ?_) (fun cdv A outer s H vs Q E hr h => ?_)
  · obtain ⟨i, j, v, rfl, _⟩ := h
    rfl
  · obtain ⟨x, dx, v, rfl, hx, k⟩ := h
    refine ⟨_, (pss_one (ps_fld (pv 0) (pv 1) rfl)), ?_⟩
    exact ⟨_, rfl, _, rfl, x, _, dx, _, rfl, hx, T.cl_Numbers, T.n_Numbers_mask, (by show 0 < 1000; decide), k⟩
theorem sc_Weekdays_init : FnScope ["self", "mask"] ["self", "mask"] (defScope s_Weekdays_init) := C8.fnScope_by (by decide +kernel)
theorem ok_Weekdays (T : Tx K mg) : C8.Mak P w K mg base 1 "Weekdays" (He.ga K "Weekdays") (spInit1 (He.ga K "Weekdays") "mask") [] := by
  refine mak_of T.mk_Weekdays T.g_Weekdays T.D_Weekdays_init sc_Weekdays_init (fun _ _ _ _ _ _ us hl => match us, hl with | [_, _], _ => rfl) (fun vs H Q E h => ?_) (fun cdv A outer s H vs Q E hr h => ?_)
  · obtain ⟨i, j, v, rfl, _⟩ := h
    rfl
  · obtain ⟨x, dx, v, rfl, hx, k⟩ := h
    refine ⟨_, (pss_one (ps_fld (pv 0) (pv 1) rfl)), ?_⟩
    exact ⟨_, rfl, _, rfl, x, _, dx, _, rfl, hx, T.cl_Weekdays, T.n_Weekdays_mask, (by show 0 < 1000; decide), k⟩
theorem sc_Near_init : FnScope ["self", "day"] ["self", "day"] (defScope s_Near_init) := C8.fnScope_by (by decide +kernel)
theorem ok_Near (T : Tx K mg) : C8.Mak P w K mg base 1 "Near" (He.ga K "Near") (spInit1 (He.ga K "Near") "day") [] := by
  refine mak_of T.mk_Near T.g_Near T.D_Near_init sc_Near_init (fun _ _ _ _ _ _ us hl => match us, hl with | [_, _], _ => rfl) (fun vs H Q E h => ?_) (fun cdv A outer s H vs Q E hr h => ?_)
  · obtain ⟨i, j, v, rfl, _⟩ := h
    rfl
  · obtain ⟨x, dx, v, rfl, hx, k⟩ := h
    refine ⟨_, (pss_one (ps_fld (pv 0) (pv 1) rfl)), ?_⟩
    exact ⟨_, rfl, _, rfl, x, _, dx, _, rfl, hx, T.cl_Near, T.n_Near_day, (by show 0 < 1000; decide), k⟩
theorem sc_LastOne_init : FnScope ["self", "weekday"] ["self", "weekday"] (defScope s_LastOne_init) := C8.fnScope_by (by decide +kernel)
theorem ok_LastOne (T : Tx K mg) : C8.Mak P w K mg base 1 "LastOne" (He.ga K "LastOne") (spInit1 (He.ga K "LastOne") "weekday") [] := by
  refine mak_of T.mk_LastOne T.g_LastOne T.D_LastOne_init sc_LastOne_init (fun _ _ _ _ _ _ us hl => match us, hl with | [_, _], _ => rfl) (fun vs H Q E h => ?_) (fun cdv A outer s H vs Q E hr h => ?_)
  · obtain ⟨i, j, v, rfl, _⟩ := h
    rfl
  · obtain ⟨x, dx, v, rfl, hx, k⟩ := h
    refine ⟨_, (pss_one (ps_fld (pv 0) (pv 1) rfl)), ?_⟩
    exact ⟨_, rfl, _, rfl, x, _, dx, _, rfl, hx, T.cl_LastOne, T.n_LastOne_weekday, (by show 0 < 1000; decide), k⟩
theorem sc_Nth_init : FnScope ["self", "weekday", "many"] ["self", "weekday", "many"] (defScope s_Nth_init) := C8.fnScope_by (by decide +kernel)
theorem ok_Nth (T : Tx K mg) : C8.Mak P w K mg base 1 "Nth" (He.ga K "Nth") (spInit2 (He.ga K "Nth") "weekday" "many") [] := by
  refine mak_of T.mk_Nth T.g_Nth T.D_Nth_init sc_Nth_init (fun _ _ _ _ _ _ us hl => match us, hl with | [_, _, _], _ => rfl) (fun vs H Q E h => ?_) (fun cdv A outer s H vs Q E hr h => ?_)
  · obtain ⟨i, j, v, u, rfl, _⟩ := h
    rfl
  · obtain ⟨x, dx, v, u, rfl, hx, k⟩ := h
    refine ⟨_, (pss_cons (ps_fld (pv 0) (pv 1) rfl)
      (pss_one (ps_fld (pv 0) (pv 2) rfl))), ?_⟩
    refine ⟨_, rfl, _, rfl, x, _, dx, _, rfl, hx, T.cl_Nth, T.n_Nth_weekday, (by show 0 < 1000; decide), ?_⟩
    refine ⟨_, rfl, _, rfl, x, _, dx, _, rfl, upd_same, T.cl_Nth, T.n_Nth_many, (by show 1 < 1000; decide), k _ (fun b hb => ?_) upd_same⟩
    rw [upd_ne hb, upd_ne hb]
theorem sc_Last_init : FnScope ["self", "back"] ["self", "back"] (defScope s_Last_init) := C8.fnScope_by (by decide +kernel)
theorem ok_Last (T : Tx K mg) : C8.Mak P w K mg base 1 "Last" (He.ga K "Last") (spInit1 (He.ga K "Last") "back") [] ∧ C8.Mak P w K mg base 1 "Last" (He.ga K "Last") (spInit1 (He.ga K "Last") "back") [.int 0] := by
  obtain ⟨fd, F⟩ := T.D_Last_init
  have G : FnOk P w K mg base C8.CX0 1 (He.ma K (He.ga K "Last") "__init__") fd ["self", "back"] (spInit1 (He.ga K "Last") "back") := by
    refine F.ok sc_Last_init (fun vs H Q E h => ?_) (fun cdv A outer s H vs Q E hr h => ?_)
    · obtain ⟨i, j, v, rfl, _⟩ := h
      rfl
    · obtain ⟨x, dx, v, rfl, hx, k⟩ := h
      refine ⟨_, PSs.nox (pss_one (ps_fld (pv 0) (pv 1) rfl)), ?_⟩
      exact ⟨_, rfl, _, rfl, x, _, dx, _, rfl, hx, T.cl_Last, T.n_Last_back, (by show 0 < 1000; decide), k⟩
  obtain ⟨d1, v1, b1⟩ := F.binds1 (ps := ["self", "back"]) 2 1 (by simp) rfl (fun T kV doc pm an cdv ct us its hu hi => match us, its, hu, hi with | [_, _], [_], _, _ => ⟨_, rfl, rfl⟩)
  obtain ⟨d0, v0, b0⟩ := F.binds1 (ps := ["self", "back"]) 1 0 (by simp) rfl (fun T kV doc pm an cdv ct us its hu hi => match us, its, hu, hi with | [_], [_], _, _ => ⟨_, rfl, rfl⟩)
  exact ⟨⟨_, fd, _, d1, T.mk_Last, G, T.g_Last, b1, v1⟩, ⟨_, fd, _, d0, T.mk_Last, G, T.g_Last, b0, v0⟩⟩
theorem sc_number_in_marks : FnScope ["text", "low", "high", "sign", "number"] ["text", "low", "high"] (defScope s_number_in_marks) := C8.fnScope_by (by decide +kernel)
theorem ok_number_in_marks (T : Tx K mg) : C8.Cal P w K mg base 1 "number_in_marks" spNumM [] := by
  refine cal_of T.g_number_in_marks T.D_number_in_marks sc_number_in_marks (fun _ _ _ _ _ _ us hl => match us, hl with | [_, _, _], _ => rfl) (fun vs H Q E h => ?_) (fun cdv A outer s H vs Q E hr h => ?_)
  · obtain ⟨i, j, l, rfl, _⟩ := h
    rfl
  · obtain ⟨n, low, high, rfl, h1, h2, h3, k⟩ := h
    refine ⟨_, (pss_cons (ps_if (pt_doneR (PW.pt (pw_or (pt_cmpR op_eq (pv 0) pe_str (nomark _)) (pw_or1 (pt_cmpR op_gt (pe_callB call_len (by rfl) T.f_len (by decide +kernel) (pa_cons (pv 0) pa_nil)) pe_int (nomark _)))))) (pss_one (ps_ret pe_non)) pss_nil)
      (pss_cons (ps_for PassesOwn.never rfl (pi_str (pv 0)) (pg_name (i := 3) sc_number_in_marks.nd rfl (Or.inl rfl)) (pss_one (ps_if (pt_cmpR op_notIn_sign (pv 3) (C8.pe_gc rfl T.c_FIGURES_marks) (by rfl)) (pss_one (ps_ret pe_non)) pss_nil)))
      (pss_cons (ps_if (pt_doneR (PW.pt (pw_and (pt_cmpR op_eq (pe_ix ix_str (pv 0) pe_int (fun _ _ => rfl)) pe_str (nomark _)) (pw_and1 (pt_cmpR op_ne (pv 0) pe_str (nomark _)))))) (pss_one (ps_ret pe_non)) pss_nil)
      (pss_cons (ps_set (i := 4) sc_number_in_marks.nd rfl (Or.inl rfl) (pe_callTy call_int_str (by rfl) T.f_int (by decide +kernel) (pa_cons (pv 0) pa_nil)))
      (pss_cons (ps_if (pt_doneR (PW.pt (pw_or (pt_cmpR op_lt (pv 4) (pv 1) (nomark _)) (pw_or1 (pt_cmpR op_gt (pv 4) (pv 2) (nomark _)))))) (pss_one (ps_ret pe_non)) pss_nil)
      (pss_one (ps_ret (pv 4)))))))), ?_⟩
    have hl := nm_len (n := n) (by omega)
    refine ⟨false, (fun H' => H' = H), fun Q' q' => ?_, fun H' e => ?_⟩
    · refine ⟨_, rfl, rfl, _, rfl, ?_⟩
      rw [cs_e, sv]
      refine iteDF (nm_ne n) ⟨_, rfl, _, _, rfl, ⟨by rw [lenS]; exact sl_of (by omega), rfl⟩, _, _, rfl, rfl, _, rfl, ?_⟩
      rw [decide_eq_false (by rw [lenS]; omega)]
      exact q' H rfl
    subst e
    refine iteF ?_
    refine ⟨_, rfl, _, rfl, for_str (x := nm n) (fun i σ H2 => H2 = H' ∧ ∃ v, σ = [some (.str (SX.S (nm n))), some (.int low), some (.int high), v, none]) ⟨rfl, _, rfl⟩ ?_ ?_⟩
    · rintro i c σ H2 hc ⟨rfl, v, rfl⟩
      have hd := nm_dig (List.mem_of_getElem? hc)
      refine ⟨_, rfl, c, _, rfl, rfl, _, rfl, ?_⟩
      rw [cs_figs, dg_mem]
      have : isDg c = true := by
        unfold isDg
        rw [decide_eq_true hd.1, decide_eq_true hd.2]
        rfl
      rw [this]
      exact iteF ⟨rfl, _, rfl⟩
    · rintro σ H2 ⟨rfl, v, rfl⟩
      refine ⟨false, (fun H' => H' = H2), fun Q' q' => ?_, fun H' e => ?_⟩
      · cases hx : nm n with
        | nil => exact absurd hx (nm_ne n)
        | cons c r =>
          refine ⟨_, rfl, _, 0, c, rfl, rfl, by rw [lenS, ← hx]; exact sl_of (by omega), atI_nat (xs := c :: r) (j := 0) rfl, rfl, _, rfl, ?_⟩
          rw [cs_0]
          show if decide (V.str (SX.S [c]) = V.str (SX.S [48])) = true then _ else _
          rw [sv]
          by_cases hc : c = 48
          · have e1 : nm n = [48] := nm_head (by omega) (by rw [hx, hc]; rfl)
            refine iteDT (by rw [hc]) ⟨_, rfl, rfl, _, rfl, ?_⟩
            rw [← hx, e1, sv, decide_eq_true rfl]
            exact q' H2 rfl
          · exact iteDF (fun z => hc (List.head_eq_of_cons_eq z)) (q' H2 rfl)
      subst e
      refine iteF ?_
      refine ⟨_, rfl, _, (n : Int), rfl, int_nm n (by omega), by rw [lenS]; omega, ?_⟩
      refine ⟨false, (fun H2 => H2 = H'), fun Q' q' => ?_, fun H2 e => ?_⟩
      · refine ⟨_, rfl, _, rfl, _, _, rfl, rfl, _, rfl, iteDF (by omega) ⟨_, rfl, _, rfl, _, _, rfl, rfl, _, rfl, ?_⟩⟩
        rw [decide_eq_false (by omega)]
        exact q' H' rfl
      subst e
      exact iteF ⟨_, rfl, k⟩
theorem len_snoc (l : List Nat) (c : Nat) : (l ++ [c]).length - 1 = l.length := by simp
/-- the signs of a text's start and end -/
theorem sl_to2 (x : List Nat) : Txt.slice (SX.S x) none (some 2) = SX.S (x.take 2) := SX.slice_to (by decide)
theorem sl_from2 (x : List Nat) : Txt.slice (SX.S x) (some 2) none = SX.S (x.drop 2) := SX.slice_from (by decide)
theorem take2_no {x : List Nat} {c : Nat} (h : c ∉ x) (l : List Nat) : x.take 2 ≠ c :: l := fun e => h (List.mem_of_mem_take (i := 2) (by rw [e]; exact List.mem_cons_self))
theorem drop_no {x : List Nat} {c k : Nat} (h : c ∉ x) (l : List Nat) : x.drop k ≠ c :: l := fun e => h (List.mem_of_mem_drop (i := k) (by rw [e]; exact List.mem_cons_self))
theorem sc_day_mark : FnScope ["item", "number"] ["item"] (defScope s_day_mark) := C8.fnScope_by (by decide +kernel)
theorem ok_day_mark (T : Tx K mg) (c_number_in_marks : C8.Cal P w K mg base 1 "number_in_marks" spNumM []) (c_Last : C8.Mak P w K mg base 1 "Last" (He.ga K "Last") (spInit1 (He.ga K "Last") "back") []) (c_Last0 : C8.Mak P w K mg base 1 "Last" (He.ga K "Last") (spInit1 (He.ga K "Last") "back") [.int 0])
    (c_Near : C8.Mak P w K mg base 1 "Near" (He.ga K "Near") (spInit1 (He.ga K "Near") "day") []) : C8.Cal P w K mg base 3 "day_mark" (spMarkOf K DayI 1 31) [] := by
  refine cal_of T.g_day_mark T.D_day_mark sc_day_mark (fun _ _ _ _ _ _ us hl => match us, hl with | [_], _ => rfl) (fun vs H Q E h => ?_) (fun cdv A outer s H vs Q E hr h => ?_)
  · obtain ⟨i, rfl, _⟩ := h
    rfl
  · obtain ⟨x, rfl, hx, k⟩ := h
    refine ⟨_, (pss_cons (ps_if (pt_cmpR op_eq (pv 0) pe_str (nomark _)) (pss_one (ps_ret (pe_mk0 c_Last0 hr (by decide) rfl))) pss_nil)
      (pss_cons (ps_if (pt_cmpR op_eq (pv 0) pe_str (nomark _)) (pss_one (ps_ret (pe_make00 T.k_LastWork rfl T.g_LastWork))) pss_nil)
      (pss_cons (ps_if (pt_cmpR op_eq (pe_slice C8.sl_txt (pv 0) po_none (po_some pe_int)) pe_str (nomark _)) (pss_cons (ps_set (i := 1) sc_day_mark.nd rfl (Or.inl rfl) (C8.pe_c c_number_in_marks hr (by decide) rfl (pa_cons (pe_slice C8.sl_txt (pv 0) (po_some pe_int) po_none) (pa_cons pe_int (pa_cons pe_int pa_nil)))))
      (pss_one (ps_if (pt_cmpR op_notN (pv 1) pe_non (nomark _)) (pss_one (ps_ret (C8.pe_mk c_Last hr (by decide) rfl (pa_cons (pv 1) pa_nil)))) pss_nil))) pss_nil)
      (pss_cons (ps_if (pt_cmpR op_eq (pe_slice C8.sl_txt (pv 0) (po_some (pe_un un_neg pe_int)) po_none) pe_str (nomark _)) (pss_cons (ps_set (i := 1) sc_day_mark.nd rfl (Or.inl rfl) (C8.pe_c c_number_in_marks hr (by decide) rfl (pa_cons (pe_slice C8.sl_txt (pv 0) po_none (po_some (pe_un un_neg pe_int))) (pa_cons pe_int (pa_cons pe_int pa_nil)))))
      (pss_one (ps_if (pt_cmpR op_notN (pv 1) pe_non (nomark _)) (pss_one (ps_ret (C8.pe_mk c_Near hr (by decide) rfl (pa_cons (pv 1) pa_nil)))) pss_nil))) pss_nil)
      (pss_one (ps_ret pe_non)))))), ?_⟩
    have io := hx.ok
    have xl := io.len
    have szx : (SX.S x).length ≤ sizeLine := by
      rw [lenS]
      exact sl_of (by omega)
    -- a new mark
    have new : ∀ (m : Mk), m.Ok → ∀ (y dy : Addr) (a b : HO), H y = none → H dy = none → Q (.ref y) (upd (upd (upd H dy a) y b) y (.ins (mkC K m) dy (mkF m))) := fun m mo y dy a b ny nd => (k _ (same_new ny nd)).2 y m ⟨dy, upd_same⟩ mo
    refine ⟨_, rfl, rfl, _, rfl, ?_⟩
    rw [cs_L, sv]
    by_cases c1 : x = [76]
    · refine iteDT c1 fun y dy ny nd ne => ⟨y, dy, .int 0, rfl, upd_same, rfl, ?_⟩
      exact new (.last 0) True.intro y dy _ _ ny nd
    refine iteDF c1 ⟨_, rfl, rfl, _, rfl, ?_⟩
    rw [cs_LW, sv]
    by_cases c2 : x = [76, 87]
    · refine iteDT c2 fun y dy ny nd ne => ?_
      exact (k _ (same_upd2 (same_upd nd) ny)).2 y .work ⟨dy, upd_same⟩ True.intro
    refine iteDF c2 ⟨_, rfl, 2, rfl, _, rfl, szx, rfl, _, rfl, ?_⟩
    rw [cs_Ld, sl_to2, sv]
    by_cases c3 : x.take 2 = [76, 45]
    · -- L-n
      obtain ⟨n, n1, n2, ex⟩ : ∃ n, 1 ≤ n ∧ n ≤ 30 ∧ x = 76 :: 45 :: nm n := by
        rcases hx with h | h | h | ⟨n, h1, h2, h⟩ | h
        · exact absurd c3 (take2_no (fun c => by have := h.sgn c; omega) _)
        · exact absurd h c1
        · exact h
        · refine absurd c3 (take2_no (fun c => ?_) _)
          rw [h] at c
          rcases List.mem_append.mp c with c | c
          · have := nm_dig c
            omega
          · simp at c
        · exact absurd h c2
      refine iteDT c3 ⟨_, rfl, 2, rfl, _, rfl, szx, n, 1, 30, ?_, n1, n2, by decide, ?_⟩
      · rw [sl_from2, ex]
        rfl
      refine ⟨_, rfl, rfl, _, rfl, iteNF (by intro z; cases z) ⟨_, rfl, fun y dy ny nd ne => ⟨y, dy, .int n, rfl, upd_same, rfl, ?_⟩⟩⟩
      exact new (.last n) True.intro y dy _ _ ny nd
    refine iteDF c3 ⟨_, rfl, _, rfl, -1, rfl, _, rfl, szx, rfl, _, rfl, ?_⟩
    rw [cs_W, SX.slice_last io.ne, sv]
    by_cases c4 : x.drop (x.length - 1) = [87]
    · obtain ⟨n, n1, n2, ex⟩ : ∃ n, 1 ≤ n ∧ n ≤ 31 ∧ x = nm n ++ [87] := by
        rcases hx with h | h | ⟨n, h1, h2, h⟩ | h | h
        · exact absurd c4 (drop_no (fun c => by have := h.sgn c; omega) _)
        · exact absurd h c1
        · rw [h] at c3
          exact absurd rfl c3
        · exact h
        · exact absurd h c2
      refine iteDT c4 ⟨_, rfl, _, rfl, -1, rfl, _, rfl, szx, n, 1, 31, ?_, n1, n2, by decide, ?_⟩
      · rw [ex, SX.butlast_snoc]
        rfl
      refine ⟨_, rfl, rfl, _, rfl, iteNF (by intro z; cases z) ⟨_, rfl, fun y dy ny nd ne => ⟨y, dy, .int n, rfl, upd_same, rfl, ?_⟩⟩⟩
      exact new (.near n) n1 y dy _ _ ny nd
    have hp : Plain 1 31 x := by
      rcases hx with h | h | ⟨n, h1, h2, h⟩ | ⟨n, h1, h2, h⟩ | h
      · exact h
      · exact absurd h c1
      · rw [h] at c3
        exact absurd rfl c3
      · rw [h] at c4
        refine absurd ?_ c4
        rw [len_snoc]
        exact List.drop_left
      · exact absurd h c2
    exact iteDF c4 ((k H (Same.refl H)).1 hp)
theorem sc_weekday_mark : FnScope ["item", "number", "parts", "many"] ["item"] (defScope s_weekday_mark) := C8.fnScope_by (by decide +kernel)
theorem ok_weekday_mark (T : Tx K mg) (c_number_in_marks : C8.Cal P w K mg base 1 "number_in_marks" spNumM []) (c_LastOne : C8.Mak P w K mg base 1 "LastOne" (He.ga K "LastOne") (spInit1 (He.ga K "LastOne") "weekday") [])
    (c_Nth : C8.Mak P w K mg base 1 "Nth" (He.ga K "Nth") (spInit2 (He.ga K "Nth") "weekday" "many") []) : C8.Cal P w K mg base 3 "weekday_mark" (spMarkOf K WkI 0 7) [] := by
  refine cal_of T.g_weekday_mark T.D_weekday_mark sc_weekday_mark (fun _ _ _ _ _ _ us hl => match us, hl with | [_], _ => rfl) (fun vs H Q E h => ?_) (fun cdv A outer s H vs Q E hr h => ?_)
  · obtain ⟨i, rfl, _⟩ := h
    rfl
  · obtain ⟨x, rfl, hx, k⟩ := h
    refine ⟨_, (pss_cons (ps_if (pt_cmpR op_eq (pe_slice C8.sl_txt (pv 0) (po_some (pe_un un_neg pe_int)) po_none) pe_str (nomark _)) (pss_cons (ps_set (i := 1) sc_weekday_mark.nd rfl (Or.inl rfl) (C8.pe_c c_number_in_marks hr (by decide) rfl (pa_cons (pe_slice C8.sl_txt (pv 0) po_none (po_some (pe_un un_neg pe_int))) (pa_cons pe_int (pa_cons pe_int pa_nil)))))
      (pss_one (ps_if (pt_cmpR op_notN (pv 1) pe_non (nomark _)) (pss_one (ps_ret (C8.pe_mk c_LastOne hr (by decide) rfl (pa_cons (pe_op op_mod (pv 1) pe_int) pa_nil)))) pss_nil))) pss_nil)
      (pss_cons (ps_set (i := 2) sc_weekday_mark.nd rfl (Or.inl rfl) (pe_splitS (pv 0) pe_str))
      (pss_cons (ps_if (pt_cmpR op_eq (pe_callB call_len (by rfl) T.f_len (by decide +kernel) (pa_cons (pv 2) pa_nil)) pe_int (nomark _)) (pss_cons (ps_set (i := 1) sc_weekday_mark.nd rfl (Or.inl rfl) (C8.pe_c c_number_in_marks hr (by decide) rfl (pa_cons (pe_ix ix_list (pv 2) pe_int (fun _ _ => rfl)) (pa_cons pe_int (pa_cons pe_int pa_nil)))))
      (pss_cons (ps_set (i := 3) sc_weekday_mark.nd rfl (Or.inl rfl) (C8.pe_c c_number_in_marks hr (by decide) rfl (pa_cons (pe_ix ix_list (pv 2) pe_int (fun _ _ => rfl)) (pa_cons pe_int (pa_cons pe_int pa_nil)))))
      (pss_one (ps_if (pt_doneR (PW.pt (pw_and (pt_cmpR op_notN (pv 1) pe_non (nomark _)) (pw_and1 (pt_cmpR op_notN (pv 3) pe_non (nomark _)))))) (pss_one (ps_ret (C8.pe_mk c_Nth hr (by decide) rfl (pa_cons (pe_op op_mod (pv 1) pe_int) (pa_cons (pv 3) pa_nil))))) pss_nil)))) pss_nil)
      (pss_one (ps_ret pe_non))))), ?_⟩
    have io := hx.ok
    have xl := io.len
    have szx : (SX.S x).length ≤ sizeLine := by
      rw [lenS]
      exact sl_of (by omega)
    refine ⟨_, rfl, _, rfl, -1, rfl, _, rfl, szx, rfl, _, rfl, ?_⟩
    rw [cs_L, SX.slice_last io.ne, sv]
    by_cases c1 : x.drop (x.length - 1) = [76]
    · obtain ⟨d, d1, ex⟩ : ∃ d, d ≤ 7 ∧ x = nm d ++ [76] := by
        rcases hx with h | ⟨d, n, h1, h2, h3, h⟩ | h
        · exact absurd c1 (drop_no (fun c => by have := h.sgn c; omega) _)
        · refine absurd c1 (drop_no (fun c => ?_) _)
          rw [h] at c
          rcases List.mem_append.mp c with c | c
          · have := nm_dig c
            omega
          · rcases List.mem_cons.mp c with c | c
            · omega
            · have := nm_dig c
              omega
        · exact h
      refine iteDT c1 ⟨_, rfl, _, rfl, -1, rfl, _, rfl, szx, d, 0, 7, ?_, Nat.zero_le _, d1, by decide, ?_⟩
      · rw [ex, SX.butlast_snoc]
        rfl
      refine ⟨_, rfl, rfl, _, rfl, iteNF (by intro z; cases z) ⟨_, rfl, _, _, rfl, rfl, (by show (0 : Int) < 7; decide), fun y dy ny nd ne => ⟨y, dy, _, rfl, upd_same, rfl, ?_⟩⟩⟩
      exact (k _ (same_new ny nd)).2 y (.lastOne (d % 7)) ⟨dy, upd_same⟩ True.intro
    refine iteDF c1 ?_
    -- the parts between #
    obtain ⟨parts, ex, pne, pno, hcase⟩ : ∃ parts : List (List Nat), x = TL.joinL [35] parts ∧ parts ≠ [] ∧ (∀ p ∈ parts, 35 ∉ p) ∧ ((parts.length = 1 ∧ Plain 0 7 x) ∨ ∃ d n, d ≤ 7 ∧ 1 ≤ n ∧ n ≤ 5 ∧ parts = [nm d, nm n]) := by
      rcases hx with h | ⟨d, n, h1, h2, h3, h⟩ | ⟨d, h1, h⟩
      · exact ⟨[x], rfl, by simp, fun p hp => by rw [List.mem_singleton.mp hp]; exact fun c => by have := h.sgn c; omega, .inl ⟨rfl, h⟩⟩
      · refine ⟨[nm d, nm n], h, by simp, fun p hp => ?_, .inr ⟨d, n, h1, h2, h3, rfl⟩⟩
        simp only [List.mem_cons, List.not_mem_nil, or_false] at hp
        rcases hp with rfl | rfl
        · exact nm_no (by decide)
        · exact nm_no (by decide)
      · refine absurd ?_ c1
        rw [h, len_snoc]
        exact List.drop_left
    refine ⟨_, rfl, ⟨_, rfl⟩, 35, parts, by rw [ex], congrArg V.str cs_hash, by decide, pne, pno, by rw [← ex]; omega, fun p H1 s1 hp1 e1 => ?_⟩
    refine ⟨_, rfl, _, parts.length, rfl, .inl ⟨_, .inl (.inl e1), by rw [List.length_map]⟩, rfl, _, rfl, ?_⟩
    rw [iv]
    rcases hcase with ⟨pl, hp⟩ | ⟨d, n, d1, n1, n2, rfl⟩
    · exact iteDF (by omega) ((k H1 s1).1 hp)
    · refine iteDT rfl ?_
      refine ⟨_, rfl, p, _, 0, .str (SX.S (nm d)), rfl, rfl, .inl (.inl e1), atI_nat (j := 0) rfl, d, 0, 7, rfl, Nat.zero_le _, d1, by decide, ?_⟩
      refine ⟨_, rfl, p, _, 1, .str (SX.S (nm n)), rfl, rfl, .inl (.inl e1), atI_nat (j := 1) rfl, n, 1, 5, rfl, n1, n2, by decide, ?_⟩
      refine ⟨true, (fun H' => H' = H1), fun Q' q' => ?_, fun H' e => ?_⟩
      · exact ⟨_, rfl, rfl, _, rfl, iteNF (by intro z; cases z) ⟨_, rfl, rfl, _, rfl, q' H1 rfl⟩⟩
      subst e
      refine iteT ⟨_, rfl, _, _, rfl, rfl, (by show (0 : Int) < 7; decide), _, rfl, fun y dy ny nd ne => ⟨y, dy, _, _, rfl, upd_same, fun H2 h1 h2 => ⟨rfl, ?_⟩⟩⟩
      have s2 : Same H' H2 := fun b o e => by
        rw [h1 b (ne_of_none e ny), upd_ne (ne_of_none e ny), upd_ne (ne_of_none e nd)]
        exact e
      exact (k _ (s1.trans s2)).2 y (.nth (d % 7) n) ⟨dy, h2⟩ n1
end
end K58
set_option Elab.async false
set_option maxRecDepth 100000
set_option maxHeartbeats 4000000
set_option linter.all false
namespace K58
open PySem PySem.Spec PyProof.Rows L2
theorem MarksIn.upd {K : PySem.W.Frag} {H : Hp} {l : Addr} {o : HO} : ∀ {as : List Addr} {ms : List Mk} {xs : List V}, H l = some (.lst xs) → MarksIn K H as ms → MarksIn K (upd H l o) as ms
  | [], [], _, _, h => h
  | a :: as, m :: ms, xs, hl, ⟨⟨dx, h1⟩, h2⟩ => ⟨⟨dx, by rw [upd_ne (ne_of h1 hl (by intro z; cases z))]; exact h1⟩, MarksIn.upd hl h2⟩
  | [], _ :: _, _, _, h => h.elim
  | _ :: _, [], _, _, h => h.elim
section
variable {P : Program} {w : World} {K : PySem.W.Frag} {mg : Str → Option Value} {base : Heap}
theorem calAt_of {x : Str} {a : Addr} {k : Nat} {sp : Sp} (c : C8.Cal P w K mg base k x sp []) (g : mg x = some (.ref a)) : C8.CalAt P w K mg base k a sp := by
  obtain ⟨f, fd, ps, ds, F, hm, kp, b, d⟩ := c.ex
  rw [g] at hm
  obtain rfl : a = f := Value.ref.inj (Option.some.inj hm)
  cases d
  exact ⟨fd, ps, F, kp, b⟩
theorem sc_items_of : FnScope ["text"] ["text"] (defScope s_items_of) := C8.fnScope_by (by decide +kernel)
theorem ok_items_of (T : Tx K mg) : C8.Cal P w K mg base 1 "items_of" spItemsOf [] := by
  refine cal_of T.g_items_of T.D_items_of sc_items_of (fun _ _ _ _ _ _ us hl => match us, hl with | [_], _ => rfl) (fun vs H Q E h => ?_) (fun cdv A outer s H vs Q E hr h => ?_)
  · obtain ⟨i, rfl, _⟩ := h
    rfl
  · obtain ⟨x, rfl, xl, parts, ex, pne, pno, k⟩ := h
    refine ⟨_, (pss_cons (ps_if (pt_doneR (PW.pt (pw_or (pt_not (pt_val (pe_callB call_isi (by rfl) T.f_isinstance (by decide +kernel) (pa_cons (pv 0) (pa_cons (pe_bltn (v := .ty "str") (u := .type "str") rfl T.f_str (by decide +kernel) rfl) pa_nil))))) (pw_or1 (pt_cmpR op_gt (pe_callB call_len (by rfl) T.f_len (by decide +kernel) (pa_cons (pv 0) pa_nil)) (C8.pe_gc rfl T.c_MOST_SIGNS_marks) (nomark _)))))) (pss_one ps_never) pss_nil)
      (pss_one (ps_ret (pe_splitS (pv 0) pe_str)))), ?_⟩
    refine ⟨false, (fun H' => H' = H), fun Q' q' => ?_, fun H' e => ?_⟩
    · refine ⟨_, rfl, _, _, _, _, _, rfl, .ty "str", .base (.str _), kit_ty (r := true) (by decide +kernel), _, rfl, iteF ?_⟩
      refine ⟨_, rfl, _, _, rfl, ⟨by rw [lenS]; exact sl_of (by omega), rfl⟩, _, _, rfl, rfl, _, rfl, ?_⟩
      rw [decide_eq_false (by rw [lenS]; omega)]
      exact q' H rfl
    subst e
    exact iteF ⟨_, rfl, ⟨_, rfl⟩, 44, parts, by rw [ex], congrArg V.str cs_comma, by decide, pne, pno, by rw [← ex]; omega, fun p H1 s1 hp1 e1 => k p H1 s1 hp1 e1⟩
theorem itemOf_ok {b : Bool} {l : List Nat} (h : itemOf b l) : ItemOk l := by
  cases b with
  | true => exact DayI.ok h
  | false => exact WkI.ok h
theorem sc_read_items : FnScope ["text", "marked", "low", "high", "items", "mask", "marks", "at", "mark"] ["text", "marked", "low", "high"] (defScope s_read_items) := C8.fnScope_by (by decide +kernel)
theorem ok_read_items (T : Tx K mg) (c_items_of : C8.Cal P w K mg base 1 "items_of" spItemsOf []) (c_plain_item : C8.Cal P w K mg base 6 "plain_item" spPlainItem []) (ca_day_mark : C8.CalAt P w K mg base 3 (He.ga K "day_mark") (spMarkOf K DayI 1 31)) (ca_weekday_mark : C8.CalAt P w K mg base 3 (He.ga K "weekday_mark") (spMarkOf K WkI 0 7)) :
    C8.Cal P w K mg base 7 "read_items" (spItems K) [] := by
  refine cal_of T.g_read_items T.D_read_items sc_read_items (fun _ _ _ _ _ _ us hl => match us, hl with | [_, _, _, _], _ => rfl) (fun vs H Q E h => ?_) (fun cdv A outer s H vs Q E hr h => ?_)
  · obtain ⟨i, j, rfl, _⟩ := h
    rfl
  · obtain ⟨b, x, rfl, hf, k⟩ := h
    refine ⟨_, (pss_cons (ps_set (i := 4) sc_read_items.nd rfl (Or.inl rfl) (C8.pe_c c_items_of hr (by decide) rfl (pa_cons (pv 0) pa_nil)))
      (pss_cons (ps_set (i := 5) sc_read_items.nd rfl (Or.inl rfl) pe_int)
      (pss_cons (ps_set (i := 6) sc_read_items.nd rfl (Or.inl rfl) (pe_lstS pa_nil))
      (pss_cons (ps_for PassesOwn.never rfl (pi_range1 rfl T.f_range (pa_cons (pe_callB (call_min2 rfl) (by rfl) T.f_min (by decide +kernel) (pa_cons (C8.pe_gc rfl T.c_MOST_ITEMS_marks) (pa_cons (pe_callB call_len (by rfl) T.f_len (by decide +kernel) (pa_cons (pv 4) pa_nil)) pa_nil))) pa_nil)) (pg_name (i := 7) sc_read_items.nd rfl (Or.inl rfl)) (pss_cons (ps_set (i := 8) sc_read_items.nd rfl (Or.inl rfl) (C8.pe_cv (i := 1) ca_day_mark ca_weekday_mark hr (by decide) (by decide) rfl (Or.inl rfl) (pa_cons (pe_ix ix_list (pv 4) (pv 7) (fun _ _ => rfl)) pa_nil)))
      (pss_one (ps_if (pt_cmpR op_isN (pv 8) pe_non (nomark _)) (pss_one (ps_set (i := 5) sc_read_items.nd rfl (Or.inl rfl) (pe_op op_orN (pv 5) (C8.pe_c c_plain_item hr (by decide) rfl (pa_cons (pe_ix ix_list (pv 4) (pv 7) (fun _ _ => rfl)) (pa_cons (pv 7) (pa_cons (pv 2) (pa_cons (pv 3) pa_nil)))))))) (pss_one (ps_if (pt_cmpR op_eq (pe_callB call_len (by rfl) T.f_len (by decide +kernel) (pa_cons (pv 6) pa_nil)) (C8.pe_gc rfl T.c_MOST_MARKS) (nomark _)) (pss_one ps_never) (pss_one (ps_expr (pe_bm PySem.F.plainAttrs_list PySem.F.slot_list_append PySem.F.type_list_append mt_append (pv 6) (pa_cons (pv 8) pa_nil))))))))))
      (pss_cons (ps_if (pt_cmpR op_gt (pe_callB call_len (by rfl) T.f_len (by decide +kernel) (pa_cons (pv 4) pa_nil)) (C8.pe_gc rfl T.c_MOST_ITEMS_marks) (nomark _)) (pss_one ps_never) pss_nil)
      (pss_one (ps_ret (pe_tupS (pa_cons (pv 5) (pa_cons (pv 6) pa_nil)))))))))), ?_⟩
    have xl := hf.len fun l hl => itemOf_ok hl
    obtain ⟨parts, p1, p2, p3, ex⟩ := hf
    have pl0 : 0 < parts.length := List.length_pos_iff.mpr p1
    refine ⟨_, rfl, x, rfl, by omega, parts, ex, p1, fun p hp => (itemOf_ok (p3 p hp)).no44, fun p H1 s1 hp1 e1 => ?_⟩
    refine ⟨Nat.zero_le _, fun l H2 s2 hl2 e2 => ?_⟩
    have hl : H l = none := s1.free hl2
    have e12 := s2 _ _ e1
    have s02 := s1.trans s2
    refine ⟨_, rfl, _, parts.length, rfl, .inl ⟨_, .inl (.inl e12), by rw [List.length_map]⟩, _, _, rfl, ?_⟩
    rw [if_pos (show ((parts.length : Nat) : Int) < 40 by omega)]
    refine ⟨_, rfl, by omega, by omega, ?_⟩
    rw [Int.toNat_natCast]
    refine for_range (lo := 0) (n := parts.length) (fun i σ H' => Same H H' ∧ H' p = some (.lst (parts.map fun p => V.str (SX.S p))) ∧ ∃ (m : Nat) (as : List Addr) (ms : List Mk) (v1 v2 : Option V), H' l = some (.lst (as.map V.ref)) ∧ MarksIn K H' as ms ∧ (∀ z ∈ ms, z.Ok) ∧ ms.length ≤ i ∧ (∀ j, m.testBit j = true → lowOf b ≤ j) ∧
      σ = [some (.str (SX.S x)), some (.ref (fnOfB K b)), some (.int (lowOf b : Nat)), some (.int (highOf b : Nat)), some (.ref p), some (.int m), some (.ref l), v1, v2])
      ⟨s02, e12, 0, [], [], none, none, e2, True.intro, fun z hz => (by cases hz), Nat.le_refl _, fun j hj => (by simp at hj), rfl⟩ ?_ ?_
    · rintro i σ H' hi ⟨s', ep, m, as, ms, v1, v2, el, mi, mo, ml, mb, rfl⟩
      have epi : parts[i]? = some parts[i] := List.getElem?_eq_getElem hi
      have pin : parts[i] ∈ parts := List.getElem_mem hi
      have ati : atI (parts.map fun p => V.str (SX.S p)) (0 + (i : Nat)) = some (V.str (SX.S parts[i])) := at_of (j := i) (by omega) (by rw [List.getElem?_map, epi]; rfl)
      obtain ⟨y, ey⟩ : ∃ y, parts[i] = y := ⟨_, rfl⟩
      rw [ey] at ati
      have hy := p3 _ pin
      rw [ey] at hy
      have call : ∀ (Q' : VK), (∀ H3, Same H' H3 → (Plain (lowOf b) (highOf b) y → Q' .non H3) ∧ ∀ a z, MarkAt K H3 a z → z.Ok → Q' (.ref a) H3) →
          C8.tCallV 1 (He.ga K "day_mark") (He.ga K "weekday_mark") (spMarkOf K DayI 1 31) (spMarkOf K WkI 0 7) (tCons (tOp (rIxL K) (tVar 4) (tVar 7)) tNil)
            [some (.str (SX.S x)), some (.ref (fnOfB K b)), some (.int (lowOf b : Nat)), some (.int (highOf b : Nat)), some (.ref p), some (.int m), some (.ref l), some (.int (0 + (i : Nat))), v2] H' Q' := fun Q' q' => by
        cases b with
        | true => exact .inl ⟨rfl, _, rfl, _, rfl, p, _, _, _, rfl, rfl, .inl (.inl ep), ati, y, rfl, hy, q'⟩
        | false => exact .inr ⟨rfl, _, rfl, _, rfl, p, _, _, _, rfl, rfl, .inl (.inl ep), ati, y, rfl, hy, q'⟩
      refine call _ fun H3 s3 => ⟨fun hp => ?_, fun a z hz zo => ?_⟩
      · refine ⟨_, rfl, rfl, _, rfl, iteDT rfl ?_⟩
        refine ⟨_, rfl, _, rfl, _, rfl, p, _, _, _, rfl, rfl, .inl (.inl (s3 _ _ ep)), ati, _, rfl, _, rfl, _, rfl, y, _, lowOf b, highOf b, rfl, hp, (by cases b <;> decide), fun mm H4 s4 hmm => ?_⟩
        have s34 := s3.trans s4
        refine ⟨m, mm, rfl, rfl, s'.trans s34, s34 _ _ ep, m ||| mm, as, ms, _, _, s34 _ _ el, mi.same s34, mo, by omega, fun j hj => ?_, rfl⟩
        rw [Nat.testBit_or, Bool.or_eq_true] at hj
        rcases hj with hj | hj
        · exact mb j hj
        · exact (hmm.2 j hj).1
      · refine ⟨_, rfl, rfl, _, rfl, iteDF (by intro z; cases z) ?_⟩
        have el3 := s3 _ _ el
        have al : as.length = ms.length := mi.len
        refine ⟨_, rfl, _, as.length, rfl, .inl ⟨_, .inl (.inl el3), by rw [List.length_map]⟩, rfl, _, rfl, ?_⟩
        rw [iv]
        refine iteDF (by omega) ?_
        refine ⟨_, rfl, .inl ⟨rfl, _, .inl (.inl el3)⟩, _, rfl, l, _, _, rfl, rfl, el3, ?_, ?_⟩
        · rw [List.length_map]
          exact small1000 (by omega)
        refine ⟨same_upd2 (s'.trans s3) hl, ?_, m, as ++ [a], ms ++ [z], _, _, ?_, ((mi.same s3).snoc hz).upd el3, ?_, ?_, mb, rfl⟩
        · rw [upd_ne (fun e => by rw [e, hl2] at e1; cases e1)]
          exact s3 _ _ ep
        · rw [upd_same, List.map_append]
          rfl
        · intro q hq
          rcases List.mem_append.mp hq with hq | hq
          · exact mo q hq
          · rw [List.mem_singleton.mp hq]
            exact zo
        · rw [List.length_append]
          simp only [List.length_cons, List.length_nil]
          omega
    · rintro σ H' ⟨s', ep, m, as, ms, v1, v2, el, mi, mo, ml, mb, rfl⟩
      refine ⟨_, rfl, _, parts.length, rfl, .inl ⟨_, .inl (.inl ep), by rw [List.length_map]⟩, _, _, rfl, rfl, _, rfl, iteDF (by omega) ?_⟩
      refine ⟨_, rfl, _, rfl, (by show 2 ≤ sizeLine; decide), fun q H3 s3 _ e3 => ?_⟩
      exact k q l m as ms H3 (s'.trans s3) e3 (s3 _ _ el) (mi.same s3) mo (by omega) mb
theorem marks_cons {H : Hp} {l a : Addr} {as : List Addr} {ms : List Mk} {m : Mk} (h : H l = some (.lst ((a :: as).map V.ref))) (ha : MarkAt K H a m) (hm : MarksIn K H as ms) (hl : ms.length ≤ 3) : MarksAt K H (.ref l) (some (m :: ms)) :=
  ⟨l, a :: as, rfl, h, ⟨ha, hm⟩, by rw [List.length_cons]; omega⟩
theorem sc_read_days : FnScope ["text", "mask", "marks"] ["text"] (defScope s_read_days) := C8.fnScope_by (by decide +kernel)
theorem ok_read_days (T : Tx K mg) (c_read_items : C8.Cal P w K mg base 7 "read_items" (spItems K) []) (c_Numbers : C8.Mak P w K mg base 1 "Numbers" (He.ga K "Numbers") (spInit1 (He.ga K "Numbers") "mask") []) : C8.Cal P w K mg base 8 "read_days" (spDaysR K DayI) [] := by
  refine cal_of T.g_read_days T.D_read_days sc_read_days (fun _ _ _ _ _ _ us hl => match us, hl with | [_], _ => rfl) (fun vs H Q E h => ?_) (fun cdv A outer s H vs Q E hr h => ?_)
  · obtain ⟨i, rfl, _⟩ := h
    rfl
  · obtain ⟨x, rfl, hf, k⟩ := h
    refine ⟨_, (pss_cons (ps_if (pt_cmpR op_eq (pv 0) pe_str (nomark _)) (pss_one (ps_ret pe_non)) pss_nil)
      (pss_cons (ps_asg (C8.pe_c c_read_items hr (by decide) rfl (pa_cons (pv 0) (pa_cons (pe_glob (v := .ref _) rfl T.g_day_mark rfl) (pa_cons pe_int (pa_cons pe_int pa_nil))))) (pg_tup rfl (pgs_cons (pg_name (i := 1) sc_read_days.nd rfl (Or.inl rfl)) (pgs_cons (pg_name (i := 2) sc_read_days.nd rfl (Or.inl rfl)) pgs_nil))))
      (pss_cons (ps_if (pt_cmpR op_eq (pv 1) pe_int (nomark _)) (pss_one (ps_ret (pv 2))) pss_nil)
      (pss_one (ps_ret (pe_op op_catS (pe_lstS (pa_cons (C8.pe_mk c_Numbers hr (by decide) rfl (pa_cons (pv 1) pa_nil)) pa_nil)) (pv 2))))))), ?_⟩
    refine ⟨_, rfl, rfl, _, rfl, ?_⟩
    rw [cs_star, sv]
    by_cases st : x = [42]
    · exact iteDT st (k .non none H (Same.refl H) rfl (fun ms e => by cases e))
    refine iteDF st ⟨_, rfl, true, x, rfl, hf, fun q l m as ms H1 s1 eq el mi mo ml mb => ?_⟩
    refine ⟨q, _, rfl, .inl (.inl eq), rfl, _, _, rfl, _, _, rfl, rfl, ?_⟩
    refine ⟨_, rfl, rfl, _, rfl, ?_⟩
    rw [iv]
    by_cases m0 : (m : Int) = 0
    · exact iteDT m0 ⟨_, rfl, k (.ref l) (some ms) H1 s1 ⟨l, as, rfl, el, mi, by omega⟩ fun ms' e => by cases e; exact mo⟩
    refine iteDF m0 ⟨_, rfl, fun y dy ny nd ne => ⟨y, dy, .int m, rfl, upd_same, rfl, sl_of (by simp), fun t H2 s2 ht e2 => ?_⟩⟩
    have sn : Same H1 _ := same_new (a := .own y) (b := .ins (He.ga K "Numbers") dy []) (c := .ins (He.ga K "Numbers") dy [("mask", V.int m)]) ny nd
    have s12 := sn.trans s2
    refine ⟨_, rfl, t, l, _, _, rfl, rfl, e2, s12 _ _ el, by rw [List.length_map, mi.len]; simp only [List.length_cons, List.length_nil]; omega, fun z H3 s3 _ e3 => ?_⟩
    have s13 := s12.trans s3
    refine k (.ref z) (some (.num m :: ms)) H3 (s1.trans s13) (marks_cons (a := y) (as := as) e3 ⟨dy, s3 _ _ (s2 _ _ upd_same)⟩ (mi.same s13) ml) fun ms' e => ?_
    cases e
    intro z hz
    rcases List.mem_cons.mp hz with rfl | hz
    · exact fun j hj => mb j hj
    · exact mo z hz
theorem sc_read_weekdays : FnScope ["text", "mask", "marks"] ["text"] (defScope s_read_weekdays) := C8.fnScope_by (by decide +kernel)
theorem ok_read_weekdays (T : Tx K mg) (c_read_items : C8.Cal P w K mg base 7 "read_items" (spItems K) []) (c_Weekdays : C8.Mak P w K mg base 1 "Weekdays" (He.ga K "Weekdays") (spInit1 (He.ga K "Weekdays") "mask") []) : C8.Cal P w K mg base 8 "read_weekdays" (spDaysR K WkI) [] := by
  refine cal_of T.g_read_weekdays T.D_read_weekdays sc_read_weekdays (fun _ _ _ _ _ _ us hl => match us, hl with | [_], _ => rfl) (fun vs H Q E h => ?_) (fun cdv A outer s H vs Q E hr h => ?_)
  · obtain ⟨i, rfl, _⟩ := h
    rfl
  · obtain ⟨x, rfl, hf, k⟩ := h
    refine ⟨_, (pss_cons (ps_if (pt_cmpR op_eq (pv 0) pe_str (nomark _)) (pss_one (ps_ret pe_non)) pss_nil)
      (pss_cons (ps_asg (C8.pe_c c_read_items hr (by decide) rfl (pa_cons (pv 0) (pa_cons (pe_glob (v := .ref _) rfl T.g_weekday_mark rfl) (pa_cons pe_int (pa_cons pe_int pa_nil))))) (pg_tup rfl (pgs_cons (pg_name (i := 1) sc_read_weekdays.nd rfl (Or.inl rfl)) (pgs_cons (pg_name (i := 2) sc_read_weekdays.nd rfl (Or.inl rfl)) pgs_nil))))
      (pss_cons (ps_set (i := 1) sc_read_weekdays.nd rfl (Or.inl rfl) (pe_op op_orN (pe_op op_andN (pv 1) pe_int) (pe_op op_shrN (pv 1) pe_int)))
      (pss_cons (ps_if (pt_cmpR op_eq (pv 1) pe_int (nomark _)) (pss_one (ps_ret (pv 2))) pss_nil)
      (pss_one (ps_ret (pe_op op_catS (pe_lstS (pa_cons (C8.pe_mk c_Weekdays hr (by decide) rfl (pa_cons (pv 1) pa_nil)) pa_nil)) (pv 2)))))))), ?_⟩
    refine ⟨_, rfl, rfl, _, rfl, ?_⟩
    rw [cs_star, sv]
    by_cases st : x = [42]
    · exact iteDT st (k .non none H (Same.refl H) rfl (fun ms e => by cases e))
    refine iteDF st ⟨_, rfl, false, x, rfl, hf, fun q l m as ms H1 s1 eq el mi mo ml mb => ?_⟩
    refine ⟨q, _, rfl, .inl (.inl eq), rfl, _, _, rfl, _, _, rfl, rfl, ?_⟩
    refine ⟨_, rfl, m, 127, rfl, rfl, _, rfl, m, 7, rfl, rfl, by decide, _, _, rfl, rfl, ?_⟩
    obtain ⟨m', em⟩ : ∃ m' : Nat, (m &&& 127) ||| m >>> (7 : Int).toNat = m' := ⟨_, rfl⟩
    show L2.tSeq _ _ _ ([_, some (V.int (((m &&& 127) ||| m >>> (7 : Int).toNat : Nat) : Int)), _] : L2.St) _
    rw [em]
    refine ⟨_, rfl, rfl, _, rfl, ?_⟩
    rw [iv]
    by_cases m0 : (m' : Int) = 0
    · exact iteDT m0 ⟨_, rfl, k (.ref l) (some ms) H1 s1 ⟨l, as, rfl, el, mi, by omega⟩ fun ms' e => by cases e; exact mo⟩
    refine iteDF m0 ⟨_, rfl, fun y dy ny nd ne => ⟨y, dy, .int m', rfl, upd_same, rfl, sl_of (by simp), fun t H2 s2 ht e2 => ?_⟩⟩
    have sn : Same H1 _ := same_new (a := .own y) (b := .ins (He.ga K "Weekdays") dy []) (c := .ins (He.ga K "Weekdays") dy [("mask", V.int m')]) ny nd
    have s12 := sn.trans s2
    refine ⟨_, rfl, t, l, _, _, rfl, rfl, e2, s12 _ _ el, by rw [List.length_map, mi.len]; simp only [List.length_cons, List.length_nil]; omega, fun z H3 s3 _ e3 => ?_⟩
    have s13 := s12.trans s3
    refine k (.ref z) (some (.wk m' :: ms)) H3 (s1.trans s13) (marks_cons (a := y) (as := as) e3 ⟨dy, s3 _ _ (s2 _ _ upd_same)⟩ (mi.same s13) ml) fun ms' e => ?_
    cases e
    intro z hz
    rcases List.mem_cons.mp hz with rfl | hz
    · exact True.intro
    · exact mo z hz
end
end K58
set_option Elab.async false
set_option maxRecDepth 100000
set_option maxHeartbeats 4000000
set_option linter.all false
namespace K58
open PySem PySem.Spec PyProof.Rows L2
def spRowInit (C : Addr) : Sp := fun vs H Q _ => ∃ (x dx : Addr) (v0 v1 v2 v3 v4 : V), vs = [.ref x, v0, v1, v2, v3, v4] ∧ H x = some (.ins C dx []) ∧
  ∀ H', (∀ b, b ≠ x → H' b = H b) → H' x = some (.ins C dx [("minute_mask", v0), ("hour_mask", v1), ("day_marks", v2), ("month_mask", v3), ("weekday_marks", v4)]) → Q .non H'
theorem FR.upd {K : PySem.W.Frag} {H : Hp} {l : Addr} {o : HO} {m : Int} {ws : List V} (hl : H l = some (.lst (.int m :: ws))) {v : V} : ∀ {i : Nat}, FR K H v i → FR K (upd H l o) v i := by
  have go : ∀ {q : Option (List Mk)}, MarksAt K H v q → MarksAt K (L2.upd H l o) v q := fun {q} h => by
    cases q with
    | none => exact h
    | some ms =>
      obtain ⟨l2, as, e, h1, h2, h3⟩ := h
      refine ⟨l2, as, e, ?_, MarksIn.upd hl h2, h3⟩
      rw [upd_ne (fun e => ?_)]
      · exact h1
      · rw [e, hl] at h1
        cases as with
        | nil => cases h1
        | cons a as => cases h1
  intro i h
  match i, h with
  | 0, h => exact h
  | 1, h => exact h
  | 2, ⟨o', h, k⟩ => exact ⟨o', go h, k⟩
  | 3, h => exact h
  | _ + 4, ⟨o', h, k⟩ => exact ⟨o', go h, k⟩
section
variable {P : Program} {w : World} {K : PySem.W.Frag} {mg : Str → Option Value} {base : Heap}
theorem sc_Row_init : FnScope ["self", "minutes", "hours", "days", "months", "weekdays"] ["self", "minutes", "hours", "days", "months", "weekdays"] (defScope s_Row_init) := C8.fnScope_by (by decide +kernel)
theorem ok_Row (T : Tx K mg) : C8.Mak P w K mg base 1 "Row" (He.ga K "Row") (spRowInit (He.ga K "Row")) [] := by
  refine mak_of T.mk_Row T.g_Row T.D_Row_init sc_Row_init (fun _ _ _ _ _ _ us hl => match us, hl with | [_, _, _, _, _, _], _ => rfl) (fun vs H Q E h => ?_) (fun cdv A outer s H vs Q E hr h => ?_)
  · obtain ⟨x, dx, v0, v1, v2, v3, v4, rfl, _⟩ := h
    rfl
  · obtain ⟨x, dx, v0, v1, v2, v3, v4, rfl, hx, k⟩ := h
    refine ⟨_, (pss_cons (ps_fld (pv 0) (pv 1) rfl)
      (pss_cons (ps_fld (pv 0) (pv 2) rfl)
      (pss_cons (ps_fld (pv 0) (pv 3) rfl)
      (pss_cons (ps_fld (pv 0) (pv 4) rfl)
      (pss_one (ps_fld (pv 0) (pv 5) rfl)))))), ?_⟩
    refine ⟨_, rfl, _, rfl, x, _, dx, _, rfl, hx, T.cl_Row, T.n_Row_minute_mask, (by show 0 < 1000; decide), ?_⟩
    refine ⟨_, rfl, _, rfl, x, _, dx, _, rfl, upd_same, T.cl_Row, T.n_Row_hour_mask, (by show 1 < 1000; decide), ?_⟩
    refine ⟨_, rfl, _, rfl, x, _, dx, _, rfl, upd_same, T.cl_Row, T.n_Row_day_marks, (by show 2 < 1000; decide), ?_⟩
    refine ⟨_, rfl, _, rfl, x, _, dx, _, rfl, upd_same, T.cl_Row, T.n_Row_month_mask, (by show 3 < 1000; decide), ?_⟩
    refine ⟨_, rfl, _, rfl, x, _, dx, _, rfl, upd_same, T.cl_Row, T.n_Row_weekday_marks, (by show 4 < 1000; decide), k _ (fun b hb => ?_) upd_same⟩
    rw [upd_ne hb, upd_ne hb, upd_ne hb, upd_ne hb, upd_ne hb]
theorem sc_words_of : FnScope ["text", "words"] ["text"] (defScope s_words_of) := C8.fnScope_by (by decide +kernel)
theorem ok_words_of (T : Tx K mg) : C8.Cal P w K mg base 1 "words_of" spWords [] := by
  refine cal_of T.g_words_of T.D_words_of sc_words_of (fun _ _ _ _ _ _ us hl => match us, hl with | [_], _ => rfl) (fun vs H Q E h => ?_) (fun cdv A outer s H vs Q E hr h => ?_)
  · obtain ⟨a, b, c, d, e, rfl, _⟩ := h
    rfl
  · obtain ⟨f0, f1, f2, f3, f4, rfl, hf, k⟩ := h
    refine ⟨_, (pss_cons (ps_if (pt_doneR (PW.pt (pw_or (pt_not (pt_val (pe_callB call_isi (by rfl) T.f_isinstance (by decide +kernel) (pa_cons (pv 0) (pa_cons (pe_bltn (v := .ty "str") (u := .type "str") rfl T.f_str (by decide +kernel) rfl) pa_nil))))) (pw_or1 (pt_cmpR op_gt (pe_callB call_len (by rfl) T.f_len (by decide +kernel) (pa_cons (pv 0) pa_nil)) (C8.pe_gc rfl T.c_MOST_SIGNS_rows) (nomark _)))))) (pss_one ps_never) pss_nil)
      (pss_cons (ps_set (i := 1) sc_words_of.nd rfl (Or.inl rfl) (pe_splitS (pv 0) pe_str))
      (pss_cons (ps_if (pt_doneR (PW.pt (pw_or (pt_cmpR op_ne (pe_callB call_len (by rfl) T.f_len (by decide +kernel) (pa_cons (pv 1) pa_nil)) pe_int (nomark _)) (pw_or1 (pt_cmpR op_in_seq pe_str (pv 1) (by rfl)))))) (pss_one ps_never) pss_nil)
      (pss_one (ps_ret (pv 1)))))), ?_⟩
    have l0 := (hf f0 (by simp)).2.1
    have l1 := (hf f1 (by simp)).2.1
    have l2 := (hf f2 (by simp)).2.1
    have l3 := (hf f3 (by simp)).2.1
    have l4 := (hf f4 (by simp)).2.1
    have xl : (TL.joinL [32] [f0, f1, f2, f3, f4]).length ≤ 1000 := by
      have := jl_len 32 [f0, f1, f2, f3, f4]
      simp only [List.map_cons, List.map_nil, List.sum_cons, List.sum_nil, List.length_cons, List.length_nil] at this
      omega
    refine ⟨false, (fun H' => H' = H), fun Q' q' => ?_, fun H' e => ?_⟩
    · refine ⟨_, rfl, _, _, _, _, _, rfl, .ty "str", .base (.str _), kit_ty (r := true) (by decide +kernel), _, rfl, iteF ?_⟩
      refine ⟨_, rfl, _, _, rfl, ⟨by rw [lenS]; exact sl_of (by omega), rfl⟩, _, _, rfl, rfl, _, rfl, ?_⟩
      rw [decide_eq_false (by rw [lenS]; omega)]
      exact q' H rfl
    subst e
    refine iteF ⟨_, rfl, ⟨_, rfl⟩, 32, [f0, f1, f2, f3, f4], rfl, congrArg V.str cs_blank, by decide, by simp, fun p hp => (hf p hp).2.2, by omega, fun p H1 s1 hp1 e1 => ?_⟩
    refine ⟨false, (fun H' => H' = H1), fun Q' q' => ?_, fun H2 e => ?_⟩
    · refine ⟨_, rfl, _, 5, rfl, .inl ⟨_, .inl (.inl e1), rfl⟩, rfl, _, rfl, iteNT rfl ?_⟩
      refine ⟨_, rfl, p, _, rfl, .inl (.inl (.inl e1)), rfl, rfl, _, rfl, ?_⟩
      have : inV (.str "") ([f0, f1, f2, f3, f4].map fun p => V.str (SX.S p)) = false := by
        refine List.any_eq_false.mpr fun y hy => ?_
        obtain ⟨f, hfm, rfl⟩ := List.mem_map.mp hy
        have fne := (hf f hfm).1
        show ¬ (SX.S f == ("" : Str)) = true
        rw [cs_e, SX.S_beq_eq, decide_eq_false fne]
        exact Bool.false_ne_true
      rw [this]
      exact q' H1 rfl
    subst e
    exact iteF ⟨_, rfl, k p H2 s1 e1⟩
theorem sc_field_at : FnScope ["words", "place", "word"] ["words", "place"] (defScope s_field_at) := C8.fnScope_by (by decide +kernel)
theorem ok_field_at (T : Tx K mg) (c_read_field : C8.Cal P w K mg base 5 "read_field" spField []) (c_read_days : C8.Cal P w K mg base 8 "read_days" (spDaysR K DayI) []) (c_read_weekdays : C8.Cal P w K mg base 8 "read_weekdays" (spDaysR K WkI) []) : C8.Cal P w K mg base 9 "field_at" (spFieldAt K) [] := by
  refine cal_of T.g_field_at T.D_field_at sc_field_at (fun _ _ _ _ _ _ us hl => match us, hl with | [_, _], _ => rfl) (fun vs H Q E h => ?_) (fun cdv A outer s H vs Q E hr h => ?_)
  · obtain ⟨a, b, c, d, e, f, g, rfl, _⟩ := h
    rfl
  · obtain ⟨l, i, f0, f1, f2, f3, f4, rfl, hi, hl, h0, h1, h2, h3, h4, k⟩ := h
    refine ⟨_, (pss_cons (ps_set (i := 2) sc_field_at.nd rfl (Or.inl rfl) (pe_ix ix_list (pv 0) (pv 1) (fun _ _ => rfl)))
      (pss_cons (ps_if (pt_cmpR op_eq (pv 1) pe_int (nomark _)) (pss_one (ps_ret (C8.pe_c c_read_field hr (by decide) rfl (pa_cons (pv 2) (pa_cons pe_int (pa_cons (pe_op op_sub (C8.pe_gc rfl T.c_MINUTES) pe_int) pa_nil)))))) pss_nil)
      (pss_cons (ps_if (pt_cmpR op_eq (pv 1) pe_int (nomark _)) (pss_one (ps_ret (C8.pe_c c_read_field hr (by decide) rfl (pa_cons (pv 2) (pa_cons pe_int (pa_cons (pe_op op_sub (C8.pe_gc rfl T.c_HOURS) pe_int) pa_nil)))))) pss_nil)
      (pss_cons (ps_if (pt_cmpR op_eq (pv 1) pe_int (nomark _)) (pss_one (ps_ret (C8.pe_c c_read_days hr (by decide) rfl (pa_cons (pv 2) pa_nil)))) pss_nil)
      (pss_cons (ps_if (pt_cmpR op_eq (pv 1) pe_int (nomark _)) (pss_one (ps_ret (C8.pe_c c_read_field hr (by decide) rfl (pa_cons (pv 2) (pa_cons pe_int (pa_cons pe_int pa_nil)))))) pss_nil)
      (pss_one (ps_ret (C8.pe_c c_read_weekdays hr (by decide) rfl (pa_cons (pv 2) pa_nil))))))))), ?_⟩
    match i, hi with
    | 0, _ =>
      refine ⟨_, rfl, _, rfl, l, _, _, _, rfl, rfl, .inl (.inl hl), atI_nat (j := 0) rfl, ?_⟩
      exact ⟨_, rfl, rfl, _, rfl, iteT ⟨_, rfl, _, _, rfl, rfl, f0, 0, 59, rfl, h0, by decide, fun m H1 s1 hm => k _ H1 s1 ⟨m, rfl, hm⟩⟩⟩
    | 1, _ =>
      refine ⟨_, rfl, _, rfl, l, _, _, _, rfl, rfl, .inl (.inl hl), atI_nat (j := 1) rfl, ?_⟩
      exact ⟨_, rfl, rfl, _, rfl, iteF ⟨_, rfl, rfl, _, rfl, iteT ⟨_, rfl, _, _, rfl, rfl, f1, 0, 23, rfl, h1, by decide, fun m H1 s1 hm => k _ H1 s1 ⟨m, rfl, hm⟩⟩⟩⟩
    | 2, _ =>
      refine ⟨_, rfl, _, rfl, l, _, _, _, rfl, rfl, .inl (.inl hl), atI_nat (j := 2) rfl, ?_⟩
      exact ⟨_, rfl, rfl, _, rfl, iteF ⟨_, rfl, rfl, _, rfl, iteF ⟨_, rfl, rfl, _, rfl, iteT ⟨_, rfl, f2, rfl, h2, fun v o H1 s1 hm ho => k _ H1 s1 ⟨o, hm, ho⟩⟩⟩⟩⟩
    | 3, _ =>
      refine ⟨_, rfl, _, rfl, l, _, _, _, rfl, rfl, .inl (.inl hl), atI_nat (j := 3) rfl, ?_⟩
      exact ⟨_, rfl, rfl, _, rfl, iteF ⟨_, rfl, rfl, _, rfl, iteF ⟨_, rfl, rfl, _, rfl, iteF ⟨_, rfl, rfl, _, rfl, iteT ⟨_, rfl, f3, 1, 12, rfl, h3, by decide, fun m H1 s1 hm => k _ H1 s1 ⟨m, rfl, hm⟩⟩⟩⟩⟩⟩
    | 4, _ =>
      refine ⟨_, rfl, _, rfl, l, _, _, _, rfl, rfl, .inl (.inl hl), atI_nat (j := 4) rfl, ?_⟩
      exact ⟨_, rfl, rfl, _, rfl, iteF ⟨_, rfl, rfl, _, rfl, iteF ⟨_, rfl, rfl, _, rfl, iteF ⟨_, rfl, rfl, _, rfl, iteF ⟨_, rfl, f4, rfl, h4, fun v o H1 s1 hm ho => k _ H1 s1 ⟨o, hm, ho⟩⟩⟩⟩⟩⟩
theorem sc_read_row : FnScope ["text", "words", "fields", "place"] ["text"] (defScope s_read_row) := C8.fnScope_by (by decide +kernel)
theorem ok_read_row (T : Tx K mg) (c_words_of : C8.Cal P w K mg base 1 "words_of" spWords []) (c_field_at : C8.Cal P w K mg base 9 "field_at" (spFieldAt K) []) (c_Row : C8.Mak P w K mg base 1 "Row" (He.ga K "Row") (spRowInit (He.ga K "Row")) []) : C8.Cal P w K mg base 10 "read_row" (spReadRow K) [] := by
  refine cal_of T.g_read_row T.D_read_row sc_read_row (fun _ _ _ _ _ _ us hl => match us, hl with | [_], _ => rfl) (fun vs H Q E h => ?_) (fun cdv A outer s H vs Q E hr h => ?_)
  · obtain ⟨a, rfl, _⟩ := h
    rfl
  · obtain ⟨x, rfl, ⟨f0, f1, f2, f3, f4, h0, h1, h2, h3, h4, rfl⟩, k⟩ := h
    refine ⟨_, (pss_cons (ps_set (i := 1) sc_read_row.nd rfl (Or.inl rfl) (C8.pe_c c_words_of hr (by decide) rfl (pa_cons (pv 0) pa_nil)))
      (pss_cons (ps_set (i := 2) sc_read_row.nd rfl (Or.inl rfl) (pe_lstS pa_nil))
      (pss_cons (ps_for PassesOwn.never rfl (pi_range1 rfl T.f_range (pa_cons pe_int pa_nil)) (pg_name (i := 3) sc_read_row.nd rfl (Or.inl rfl)) (pss_one (ps_try_only (tb := fun _ => tDrop (tBM K "list" rAppend (tVar 2) (tCons (tCall (spFieldAt K) [] C8.E0 (tCons (tVar 1) (tCons (tVar 3) tNil))) tNil))) rfl rfl ⟨rfl, by decide, .inl T.g_NoField⟩ takes0 (fun W pn xe tk po => (pss_one (ps_expr (pe_bm PySem.F.plainAttrs_list PySem.F.slot_list_append PySem.F.type_list_append mt_append (pv 2) (pa_cons (C8.pe_c c_field_at hr (by decide) rfl (pa_cons (pv 1) (pa_cons (pv 3) pa_nil))) pa_nil))))) (fun a oe cls d pn _ _ => pss_one ps_never))))
      (pss_one (ps_ret (C8.pe_mk c_Row hr (by decide) rfl (pa_cons (pe_ix ix_list (pv 2) pe_int (fun _ _ => rfl)) (pa_cons (pe_ix ix_list (pv 2) pe_int (fun _ _ => rfl)) (pa_cons (pe_ix ix_list (pv 2) pe_int (fun _ _ => rfl)) (pa_cons (pe_ix ix_list (pv 2) pe_int (fun _ _ => rfl)) (pa_cons (pe_ix ix_list (pv 2) pe_int (fun _ _ => rfl)) pa_nil))))))))))), ?_⟩
    have o0 : ∀ l, Plain 0 59 l → ItemOk l := fun l h => h.ok (by decide)
    have o1 : ∀ l, Plain 0 23 l → ItemOk l := fun l h => h.ok (by decide)
    have o3 : ∀ l, Plain 1 12 l → ItemOk l := fun l h => h.ok (by decide)
    refine ⟨_, rfl, f0, f1, f2, f3, f4, rfl, fun f hf => ?_, fun p H1 s1 e1 => ?_⟩
    · simp only [List.mem_cons, List.not_mem_nil, or_false] at hf
      rcases hf with rfl | rfl | rfl | rfl | rfl
      · exact ⟨h0.ne o0, h0.len o0, h0.no32 o0⟩
      · exact ⟨h1.ne o1, h1.len o1, h1.no32 o1⟩
      · exact ⟨h2.ne fun l h => h.ok, h2.len fun l h => h.ok, h2.no32 fun l h => h.ok⟩
      · exact ⟨h3.ne o3, h3.len o3, h3.no32 o3⟩
      · exact ⟨h4.ne fun l h => h.ok, h4.len fun l h => h.ok, h4.no32 fun l h => h.ok⟩
    refine ⟨Nat.zero_le _, fun l H2 s2 hl2 e2 => ?_⟩
    have hl : H l = none := s1.free hl2
    have pl : p ≠ l := ne_of_none e1 hl2
    refine ⟨5, rfl, by decide, by decide, ?_⟩
    refine for_range (lo := 0) (n := 5) (fun i σ H' => Same H H' ∧ H' p = some (.lst ([f0, f1, f2, f3, f4].map fun p => V.str (SX.S p))) ∧ ∃ (vs : List V) (v1 : Option V), H' l = some (.lst vs) ∧ vs.length = i ∧ (∀ j v, vs[j]? = some v → FR K H' v j) ∧
      σ = [some (.str (SX.S (TL.joinL [32] [f0, f1, f2, f3, f4]))), some (.ref p), some (.ref l), v1]) ⟨s1.trans s2, s2 _ _ e1, [], none, e2, rfl, fun j v h => (by simp at h), rfl⟩ ?_ ?_
    · rintro i σ H' hi ⟨s', ep, vs, v1, el, vl, fr, rfl⟩
      refine ⟨_, rfl, .inl ⟨rfl, _, .inl (.inl el)⟩, _, rfl, _, rfl, p, i, f0, f1, f2, f3, f4, ?_, hi, ep, h0, h1, h2, h3, h4, fun v H3 s3 hv => ?_⟩
      · show [V.ref p, V.int (0 + (i : Nat))] = _
        rw [Int.zero_add]
      have el3 := s3 _ _ el
      refine ⟨l, _, _, rfl, rfl, el3, small1000 (by omega), same_upd2 (s'.trans s3) hl, ?_, vs ++ [v], _, upd_same, by rw [List.length_append, vl]; rfl, fun j u hj => ?_, rfl⟩
      · rw [upd_ne pl]
        exact s3 _ _ ep
      · -- the values so far, behind the store
        have fr3 : ∀ j v, vs[j]? = some v → FR K H3 v j := fun j v h => (fr j v h).same s3
        cases vs with
        | nil =>
          have e0 : i = 0 := vl.symm
          subst e0
          match j, hj with
          | 0, hj =>
            obtain rfl : v = u := Option.some.inj hj
            exact hv
          | j + 1, hj => simp at hj
        | cons z zs =>
          obtain ⟨m, rfl, _⟩ := fr3 0 z rfl
          by_cases c : j < (V.int (m : Nat) :: zs).length
          · rw [List.getElem?_append_left c] at hj
            exact (fr3 j u hj).upd el3
          · have ej : j = i := by
              have := (List.getElem?_eq_some_iff.mp hj).1
              rw [List.length_append] at this
              simp only [List.length_cons, List.length_nil] at this c vl
              omega
            rw [List.getElem?_append_right (by omega), ej, ← vl, Nat.sub_self] at hj
            obtain rfl : v = u := Option.some.inj hj
            rw [ej]
            exact hv.upd el3
    · rintro σ H' ⟨s', ep, vs, v1, el, vl, fr, rfl⟩
      match vs, vl with
      | [a0, a1, a2, a3, a4], _ =>
        obtain ⟨m0, rfl, q0⟩ := fr 0 a0 rfl
        obtain ⟨m1, rfl, q1⟩ := fr 1 a1 rfl
        obtain ⟨d2, q2, k2⟩ := fr 2 a2 rfl
        obtain ⟨m3, rfl, q3⟩ := fr 3 a3 rfl
        obtain ⟨d4, q4, k4⟩ := fr 4 a4 rfl
        have sq : SqL K H' l [V.int (m0 : Nat), V.int (m1 : Nat), a2, V.int (m3 : Nat), a4] := .inl (.inl el)
        refine ⟨_, rfl, l, _, 0, _, rfl, rfl, sq, atI_nat (j := 0) rfl, _, rfl, l, _, 1, _, rfl, rfl, sq, atI_nat (j := 1) rfl, _, rfl, l, _, 2, _, rfl, rfl, sq, atI_nat (j := 2) rfl, _, rfl, l, _, 3, _, rfl, rfl, sq, atI_nat (j := 3) rfl, _, rfl, l, _, 4, _, rfl, rfl, sq, atI_nat (j := 4) rfl, ?_⟩
        intro y dy ny nd ne
        refine ⟨y, dy, _, _, _, _, _, rfl, upd_same, fun H3 b1 b2 => ⟨rfl, ?_⟩⟩
        have s3 : Same H' H3 := fun b o e => by
          rw [b1 b (ne_of_none e ny), upd_ne (ne_of_none e ny), upd_ne (ne_of_none e nd)]
          exact e
        refine k y ⟨m0, m1, m3, d2, d4⟩ H3 (s'.trans s3) ⟨⟨dy, a2, a4, b2, q2.same s3, q4.same s3⟩, ?_⟩
        obtain ⟨⟨j0, b0⟩, r0⟩ := id q0
        obtain ⟨⟨j1, b1'⟩, r1⟩ := id q1
        obtain ⟨⟨j3, b3⟩, r3⟩ := id q3
        refine ⟨⟨j0, by have := r0 j0 b0; omega, b0⟩, q0.lt, ⟨j1, by have := r1 j1 b1'; omega, b1'⟩, q1.lt, ⟨(j3 : Int), ?_, ?_, by rw [Int.toNat_natCast]; exact b3⟩, k2, k4⟩
        · have := r3 j3 b3
          omega
        · have := r3 j3 b3
          omega
end
end K58
set_option Elab.async false
set_option maxRecDepth 100000
set_option maxHeartbeats 4000000
set_option linter.all false
namespace K58
open PySem PySem.Spec PyProof.Rows L2
/-! ### the law's own helpers: promises -/
def spCell (K : PySem.W.Frag) : Sp := fun vs H Q _ => ∃ (a : Addr) (ns : List Int) (i : Int), vs = [.ref a, .int i] ∧ SqL K H a (ns.map V.int) ∧ 0 ≤ i ∧ i ≤ 1000 ∧ ns.length ≤ 1000 ∧ ∀ j : Int, Q (.int j) H
def spStir : Sp := fun vs H Q _ => ∃ i : Int, vs = [.int i] ∧ ∀ j : Int, Q (.int j) H
def Drawn (ds ss : List Int) : Prop := ds.length = ss.length ∧ ∀ (i : Nat) (d s : Int), ds[i]? = some d → ss[i]? = some s → 0 ≤ d ∧ d < s
def spDigits : Sp := fun vs H Q _ => ∃ (cell : Int) (p : Addr) (ss : List Int) (mixed : Bool), vs = [.int cell, .ref p, .bl mixed] ∧ H p = some (.lst (ss.map V.int)) ∧ (∀ s ∈ ss, 0 < s ∧ s < 1073741824) ∧ ss.length ≤ 100 ∧
  ∀ l (ds : List Int) H', Same H H' → H l = none → H' l = some (.lst (ds.map V.int)) → Drawn ds ss → Q (.ref l) H'
def Ints (vs : List V) : Prop := ∀ v ∈ vs, ∃ i : Int, v = .int i
def spLItem : Sp := fun vs H Q _ => ∃ (p : Addr) (form one later by_ : Int) (low high : Nat), vs = [.ref p, .int low, .int high] ∧ H p = some (.lst [.int form, .int one, .int later, .int by_]) ∧ low ≤ high ∧ high ≤ 99 ∧
  ∀ q x l vs H', Same H H' → H' q = some (.tup [.str (SX.S x), .ref l]) → Plain low high x → H l = none → H' l = some (.lst vs) → Ints vs → vs.length ≤ 100 → Q (.ref q) H'
section
variable {P : Program} {w : World} {K : PySem.W.Frag} {mg : Str → Option Value} {base : Heap}
theorem sc__law_cell_at : FnScope ["_law_script", "_law_k"] ["_law_script", "_law_k"] (defScope s__law_cell_at) := C8.fnScope_by (by decide +kernel)
theorem ok__law_cell_at (T : Tx K mg) : C8.Cal P w K mg base 1 "_law_cell_at" (spCell K) [] := by
  refine cal_of T.g__law_cell_at T.D__law_cell_at sc__law_cell_at (fun _ _ _ _ _ _ us hl => match us, hl with | [_, _], _ => rfl) (fun vs H Q E h => ?_) (fun cdv A outer s H vs Q E hr h => ?_)
  · obtain ⟨a, b, c, rfl, _⟩ := h
    rfl
  · obtain ⟨a, ns, i, rfl, ha, i0, i1, nl, k⟩ := h
    refine ⟨_, (pss_cons (ps_if (pt_cmpR op_lt (pv 1) (pe_callB call_len (by rfl) T.f_len (by decide +kernel) (pa_cons (pv 0) pa_nil)) (nomark _)) (pss_one (ps_ret (pe_ix ix_list (pv 0) (pv 1) (fun _ _ => rfl)))) pss_nil)
      (pss_one (ps_ret (pe_op op_mod (pe_op op_mul (pe_op op_pow (pe_op op_add (pv 1) pe_int) pe_int) pe_int) pe_int)))), ?_⟩
    refine ⟨_, rfl, _, rfl, _, ns.length, rfl, .inl ⟨_, ha, by rw [List.length_map]⟩, _, _, rfl, rfl, _, rfl, ?_⟩
    by_cases c : i < (ns.length : Int)
    · have hl : i.toNat < ns.length := by omega
      refine iteDT c ⟨_, rfl, _, rfl, a, _, _, .int ns[i.toNat], rfl, rfl, ha, at_of (j := i.toNat) (by omega) ?_, k _⟩
      rw [List.getElem?_map, List.getElem?_eq_getElem hl]
      rfl
    · refine iteDF c ⟨_, rfl, _, _, rfl, rfl, _, _, rfl, rfl, ⟨by decide, by decide, ?_⟩, _, _, rfl, rfl, .inr ⟨by decide, by decide⟩, _, _, rfl, rfl, (by show (0 : Int) < 15485863; decide), k _⟩
      show (i + 2).natAbs < 2 ^ 64
      have : (1002 : Nat) < 2 ^ 64 := by decide
      omega
theorem sc__law_stir : FnScope ["_law_number", "_law_first", "_law_second"] ["_law_number"] (defScope s__law_stir) := C8.fnScope_by (by decide +kernel)
theorem ok__law_stir (T : Tx K mg) : C8.Cal P w K mg base 1 "_law_stir" spStir [] := by
  refine cal_of T.g__law_stir T.D__law_stir sc__law_stir (fun _ _ _ _ _ _ us hl => match us, hl with | [_], _ => rfl) (fun vs H Q E h => ?_) (fun cdv A outer s H vs Q E hr h => ?_)
  · obtain ⟨a, rfl, _⟩ := h
    rfl
  · obtain ⟨i, rfl, k⟩ := h
    refine ⟨_, (pss_cons (ps_set (i := 1) sc__law_stir.nd rfl (Or.inl rfl) (pe_op op_mod (pe_op op_mul (pe_op op_add (pe_op op_mod (pv 0) (pe_op op_pow pe_int pe_int)) pe_int) pe_int) pe_int))
      (pss_cons (ps_set (i := 2) sc__law_stir.nd rfl (Or.inl rfl) (pe_op op_mod (pe_op op_mul (pv 1) (pe_op op_add (pe_op op_mod (pv 1) pe_int) pe_int)) pe_int))
      (pss_one (ps_ret (pe_op op_mod (pe_op op_mul (pv 2) (pe_op op_add (pe_op op_mod (pv 2) pe_int) pe_int)) pe_int))))), ?_⟩
    refine ⟨_, rfl, _, _, rfl, rfl, ⟨by decide, by decide, by decide⟩, _, _, rfl, rfl, (by show (0 : Int) < 10 ^ 18; decide), _, _, rfl, rfl, _, _, rfl, rfl, .inr ⟨by decide, by decide⟩, _, _, rfl, rfl, (by show (0 : Int) < 4294967291; decide), ?_⟩
    refine ⟨_, rfl, _, rfl, _, _, rfl, rfl, (by show (0 : Int) < 65521; decide), _, _, rfl, rfl, _, _, rfl, rfl, .inr ?_, _, _, rfl, rfl, (by show (0 : Int) < 999999937; decide), ?_⟩
    · omega
    refine ⟨_, rfl, _, rfl, _, _, rfl, rfl, (by show (0 : Int) < 32749; decide), _, _, rfl, rfl, _, _, rfl, rfl, .inr ?_, _, _, rfl, rfl, (by show (0 : Int) < 2147483629; decide), k _⟩
    omega
theorem sc__law_digits : FnScope ["_law_cell", "_law_sizes", "_law_mixed", "_law_found", "_law_size"] ["_law_cell", "_law_sizes", "_law_mixed"] (defScope s__law_digits) := C8.fnScope_by (by decide +kernel)
theorem drawn_snoc {ds ss : List Int} {s d : Int} {i : Nat} (h : Drawn ds (ss.take i)) (hs : ss[i]? = some s) (hd : 0 ≤ d ∧ d < s) : Drawn (ds ++ [d]) (ss.take (i + 1)) := by
  obtain ⟨h1, h2⟩ := h
  rw [take_snoc hs]
  refine ⟨by rw [List.length_append, List.length_append, h1]; rfl, fun j a b ha hb => ?_⟩
  by_cases c : j < ds.length
  · rw [List.getElem?_append_left c] at ha
    rw [List.getElem?_append_left (by omega)] at hb
    exact h2 j a b ha hb
  · have hj := (List.getElem?_eq_some_iff.mp ha).1
    rw [List.length_append, List.length_singleton] at hj
    have ej : j = ds.length := by omega
    rw [List.getElem?_append_right (by omega), ej, Nat.sub_self] at ha
    rw [List.getElem?_append_right (by omega), ej, h1, Nat.sub_self] at hb
    obtain rfl : d = a := Option.some.inj ha
    obtain rfl : s = b := Option.some.inj hb
    exact hd
theorem ok__law_digits (T : Tx K mg) (c__law_stir : C8.Cal P w K mg base 1 "_law_stir" spStir []) : C8.Cal P w K mg base 2 "_law_digits" spDigits [] := by
  refine cal_of T.g__law_digits T.D__law_digits sc__law_digits (fun _ _ _ _ _ _ us hl => match us, hl with | [_, _, _], _ => rfl) (fun vs H Q E h => ?_) (fun cdv A outer s H vs Q E hr h => ?_)
  · obtain ⟨a, b, c, d, rfl, _⟩ := h
    rfl
  · obtain ⟨cell, p, ss, mixed, rfl, hp, hs, sl, k⟩ := h
    refine ⟨_, (pss_cons (ps_set (i := 3) sc__law_digits.nd rfl (Or.inl rfl) (pe_lstS pa_nil))
      (pss_cons (ps_set (i := 2) sc__law_digits.nd rfl (Or.inl rfl) (pe_done (pe_or (pv 2) (pe_one (pe_cmpR op_lt (pe_callB call_abs (by rfl) T.f_abs (by decide +kernel) (pa_cons (pv 0) pa_nil)) (pe_op op_pow pe_int pe_int) (nomark _))))))
      (pss_cons (ps_for PassesOwn.never rfl (pi_list (pv 1)) (pg_name (i := 4) sc__law_digits.nd rfl (Or.inl rfl)) (pss_one (ps_if (pt_val (pv 2)) (pss_cons (ps_set (i := 0) sc__law_digits.nd rfl (Or.inl rfl) (C8.pe_c c__law_stir hr (by decide) rfl (pa_cons (pv 0) pa_nil)))
      (pss_one (ps_expr (pe_bm PySem.F.plainAttrs_list PySem.F.slot_list_append PySem.F.type_list_append mt_append (pv 3) (pa_cons (pe_op op_mod (pe_op op_fdiv (pv 0) pe_int) (pv 4)) pa_nil))))) (pss_cons (ps_expr (pe_bm PySem.F.plainAttrs_list PySem.F.slot_list_append PySem.F.type_list_append mt_append (pv 3) (pa_cons (pe_op op_mod (pv 0) (pv 4)) pa_nil)))
      (pss_one (ps_set (i := 0) sc__law_digits.nd rfl (Or.inl rfl) (pe_op op_fdiv (pv 0) (pv 4))))))))
      (pss_one (ps_ret (pv 3)))))), ?_⟩
    refine ⟨Nat.zero_le _, fun l H1 s1 hl e1 => ?_⟩
    have e1p := s1 _ _ hp
    have pl : p ≠ l := ne_of_none hp hl
    obtain ⟨b, hb⟩ : ∃ b : Bool, (mixed || decide ((if cell < 0 then -cell else cell) < (10 : Int) ^ (18 : Int).toNat)) = b := ⟨_, rfl⟩
    refine ⟨.bl b, H1, fun Q' q' => ?_, ?_⟩
    · refine ⟨_, rfl, mixed, rfl, ?_⟩
      cases mixed with
      | true =>
        rw [← hb] at q'
        exact iteT q'
      | false =>
        rw [← hb] at q'
        exact iteF ⟨_, rfl, _, rfl, _, _, rfl, rfl, ⟨by decide, by decide, by decide⟩, _, _, rfl, rfl, q'⟩
    refine ⟨_, rfl, p, rfl, ⟨_, .inl (.inl e1p)⟩, ?_⟩
    refine for_list (K := K) (a := p) (xs := ss.map V.int) (fun i σ H' => Same H H' ∧ H' p = some (.lst (ss.map V.int)) ∧ ∃ (ds : List Int) (c : Int) (v : Option V), H' l = some (.lst (ds.map V.int)) ∧ Drawn ds (ss.take i) ∧
      σ = [some (.int c), some (.ref p), some (.bl b), some (.ref l), v]) ⟨s1, e1p, [], cell, none, e1, ⟨rfl, fun i d s h => (by simp at h)⟩, rfl⟩ (fun i σ H' _ ⟨_, e, _⟩ => .inl (.inl e)) ?_ ?_
    · rintro i y σ H' hi ⟨s', ep, ds, c, v, el, dr, rfl⟩
      rw [List.getElem?_map] at hi
      cases es : ss[i]? with
      | none =>
        rw [es] at hi
        cases hi
      | some sz =>
        rw [es] at hi
        obtain rfl : V.int sz = y := Option.some.inj hi
        have hz := hs sz (List.mem_of_getElem? es)
        have il : i < ss.length := (List.getElem?_eq_some_iff.mp es).1
        have dl : ds.length = i := by
          rw [dr.1, List.length_take]
          omega
        have fin : ∀ (d c' : Int), 0 ≤ d ∧ d < sz → Same H (upd H' l (.lst (ds.map V.int ++ [.int d]))) ∧ upd H' l (.lst (ds.map V.int ++ [.int d])) p = some (.lst (ss.map V.int)) ∧ ∃ (ds' : List Int) (c : Int) (v : Option V), upd H' l (.lst (ds.map V.int ++ [.int d])) l = some (.lst (ds'.map V.int)) ∧ Drawn ds' (ss.take (i + 1)) ∧
            [some (V.int c'), some (V.ref p), some (V.bl b), some (V.ref l), some (V.int sz)] = [some (V.int c), some (V.ref p), some (V.bl b), some (V.ref l), v] := fun d c' hd => by
          refine ⟨same_upd2 s' hl, by rw [upd_ne pl]; exact ep, ds ++ [d], c', some (.int sz), ?_, drawn_snoc dr es hd, rfl⟩
          rw [upd_same, List.map_append]
          rfl
        have lt : (ds.map V.int).length < sizeLine := by
          rw [List.length_map]
          exact small1000 (by omega)
        refine ⟨_, rfl, b, rfl, ?_⟩
        cases b with
        | true =>
          refine iteT ⟨_, rfl, c, rfl, fun c' => ?_⟩
          refine ⟨_, rfl, .inl ⟨rfl, _, .inl (.inl el)⟩, _, rfl, _, _, rfl, rfl, ⟨by decide, by decide⟩, _, rfl, _, _, rfl, rfl, hz.1, l, _, _, rfl, rfl, el, lt, ?_⟩
          exact fin _ _ ⟨Int.emod_nonneg _ (by omega), Int.emod_lt_of_pos _ hz.1⟩
        | false =>
          refine iteF ?_
          refine ⟨_, rfl, .inl ⟨rfl, _, .inl (.inl el)⟩, _, rfl, _, rfl, _, _, rfl, rfl, hz.1, l, _, _, rfl, rfl, el, lt, ?_⟩
          exact ⟨_, rfl, _, rfl, _, _, rfl, rfl, hz, fin _ _ ⟨Int.emod_nonneg _ (by omega), Int.emod_lt_of_pos _ hz.1⟩⟩
    · rintro σ H' ⟨s', ep, ds, c, v, el, dr, rfl⟩
      rw [List.length_map, List.take_length] at dr
      exact ⟨_, rfl, k l ds H' s' hl el dr⟩
theorem str_nat {n : Nat} {z : Int} (h : z = (n : Nat)) : V.str (toString z) = V.str (SX.S (nm n)) := by
  rw [h]
  exact congrArg V.str (SX.num_S n)
theorem log_ok {z : Int} (h0 : 0 ≤ z) (h1 : z ≤ 100000) : z.natAbs.log2 < 1920 := by
  have : z.natAbs.log2 ≤ z.natAbs := Nat.log2_le_self _
  by_cases q : z.natAbs = 0
  · rw [q]
    decide
  · exact (Nat.log2_lt q).mpr (Nat.lt_of_le_of_lt (show z.natAbs ≤ 100000 by omega) (Nat.lt_of_lt_of_le (by decide : 100000 < 2 ^ 20) (Nat.pow_le_pow_right (by decide) (by decide))))
theorem cat_ok {a b : List Nat} (h : a.length + b.length ≤ 1000) : (SX.S a).length + (SX.S b).length ≤ sizeLine := by
  rw [lenS, lenS]
  exact sl_of (by omega)
theorem ints_rgV (a b : Int) : Ints (rgV a b) := fun v hv => by
  obtain ⟨k, _, rfl⟩ := List.mem_map.mp hv
  exact ⟨_, rfl⟩
theorem ints_rg3 (a c : Int) (n : Nat) : Ints (rg3 a c n) := fun v hv => by
  obtain ⟨k, _, rfl⟩ := List.mem_map.mp hv
  exact ⟨_, rfl⟩
theorem len_rg3 (a c : Int) (n : Nat) : (rg3 a c n).length = n := by
  unfold rg3
  rw [List.length_map, List.length_range]
theorem sc__law_item : FnScope ["_law_parts", "_law_low", "_law_high", "_law_form", "_law_one", "_law_later", "_law_by"] ["_law_parts", "_law_low", "_law_high"] (defScope s__law_item) := C8.fnScope_by (by decide +kernel)
theorem ok__law_item (T : Tx K mg) : C8.Cal P w K mg base 1 "_law_item" spLItem [] := by
  refine cal_of T.g__law_item T.D__law_item sc__law_item (fun _ _ _ _ _ _ us hl => match us, hl with | [_, _, _], _ => rfl) (fun vs H Q E h => ?_) (fun cdv A outer s H vs Q E hr h => ?_)
  · obtain ⟨a, b, c, d, e, f, g, rfl, _⟩ := h
    rfl
  · obtain ⟨p, form, one, later, by_, low, high, rfl, hp, lh, hh, k⟩ := h
    refine ⟨_, (pss_cons (ps_asg (pv 0) (pg_lst rfl (pgs_cons (pg_name (i := 3) sc__law_item.nd rfl (Or.inl rfl)) (pgs_cons (pg_name (i := 4) sc__law_item.nd rfl (Or.inl rfl)) (pgs_cons (pg_name (i := 5) sc__law_item.nd rfl (Or.inl rfl)) (pgs_cons (pg_name (i := 6) sc__law_item.nd rfl (Or.inl rfl)) pgs_nil))))))
      (pss_cons (ps_set (i := 4) sc__law_item.nd rfl (Or.inl rfl) (pe_op op_add (pv 1) (pe_op op_mod (pv 4) (pe_op op_add (pe_op op_sub (pv 2) (pv 1)) pe_int))))
      (pss_cons (ps_set (i := 5) sc__law_item.nd rfl (Or.inl rfl) (pe_op op_add (pv 4) (pe_op op_mod (pv 5) (pe_op op_add (pe_op op_sub (pv 2) (pv 4)) pe_int))))
      (C8.pss_cut (ps_set (i := 6) sc__law_item.nd rfl (Or.inl rfl) (pe_op op_add pe_int (pe_op op_mod (pv 6) pe_int)))
      (pss_cons (ps_if (pt_cmpR op_eq (pv 3) pe_int (nomark _)) (pss_one (ps_ret (pe_tupS (pa_cons pe_str (pa_cons (pe_listRgS rfl rfl T.f_list (prg_2 rfl T.f_range (pv 1) (pe_op op_add (pv 2) pe_int))) pa_nil))))) pss_nil)
      (pss_cons (ps_if (pt_cmpR op_eq (pv 3) pe_int (nomark _)) (pss_one (ps_ret (pe_tupS (pa_cons (pe_op op_add_str pe_str (pe_callTy call_str_int (by rfl) T.f_str (by decide +kernel) (pa_cons (pv 6) pa_nil))) (pa_cons (pe_list3 rfl rfl T.f_list rfl T.f_range (pv 1) (pe_op op_add (pv 2) pe_int) (pv 6)) pa_nil))))) pss_nil)
      (pss_cons (ps_if (pt_cmpR op_eq (pv 3) pe_int (nomark _)) (pss_one (ps_ret (pe_tupS (pa_cons (pe_callTy call_str_int (by rfl) T.f_str (by decide +kernel) (pa_cons (pv 4) pa_nil)) (pa_cons (pe_lstS (pa_cons (pv 4) pa_nil)) pa_nil))))) pss_nil)
      (pss_cons (ps_if (pt_cmpR op_eq (pv 3) pe_int (nomark _)) (pss_one (ps_ret (pe_tupS (pa_cons (pe_op op_add_str (pe_op op_add_str (pe_callTy call_str_int (by rfl) T.f_str (by decide +kernel) (pa_cons (pv 4) pa_nil)) pe_str) (pe_callTy call_str_int (by rfl) T.f_str (by decide +kernel) (pa_cons (pv 5) pa_nil))) (pa_cons (pe_listRgS rfl rfl T.f_list (prg_2 rfl T.f_range (pv 4) (pe_op op_add (pv 5) pe_int))) pa_nil))))) pss_nil)
      (pss_cons (ps_if (pt_cmpR op_eq (pv 3) pe_int (nomark _)) (pss_one (ps_ret (pe_tupS (pa_cons (pe_op op_add_str (pe_op op_add_str (pe_op op_add_str (pe_op op_add_str (pe_callTy call_str_int (by rfl) T.f_str (by decide +kernel) (pa_cons (pv 4) pa_nil)) pe_str) (pe_callTy call_str_int (by rfl) T.f_str (by decide +kernel) (pa_cons (pv 5) pa_nil))) pe_str) (pe_callTy call_str_int (by rfl) T.f_str (by decide +kernel) (pa_cons (pv 6) pa_nil))) (pa_cons (pe_list3 rfl rfl T.f_list rfl T.f_range (pv 4) (pe_op op_add (pv 5) pe_int) (pv 6)) pa_nil))))) pss_nil)
      (pss_one (ps_ret (pe_tupS (pa_cons (pe_op op_add_str (pe_op op_add_str (pe_callTy call_str_int (by rfl) T.f_str (by decide +kernel) (pa_cons (pv 4) pa_nil)) pe_str) (pe_callTy call_str_int (by rfl) T.f_str (by decide +kernel) (pa_cons (pv 6) pa_nil))) (pa_cons (pe_list3 rfl rfl T.f_list rfl T.f_range (pv 4) (pe_op op_add (pv 2) pe_int) (pv 6)) pa_nil)))))))))))))), ?_⟩
    refine ⟨_, rfl, p, _, rfl, .inl (.inl hp), rfl, _, _, rfl, _, _, rfl, _, _, rfl, _, _, rfl, rfl, ?_⟩
    refine ⟨_, rfl, _, rfl, _, rfl, _, rfl, _, _, rfl, rfl, _, _, rfl, rfl, _, _, rfl, rfl, (by show (0 : Int) < (high : Int) - low + 1; omega), _, _, rfl, rfl, ?_⟩
    have b1 := Int.emod_nonneg one (show (high : Int) - low + 1 ≠ 0 by omega)
    have b2 := Int.emod_lt_of_pos one (show (0 : Int) < (high : Int) - low + 1 by omega)
    refine ⟨_, rfl, _, rfl, _, rfl, _, rfl, _, _, rfl, rfl, _, _, rfl, rfl, _, _, rfl, rfl, (by show (0 : Int) < (high : Int) - (low + one % ((high : Int) - low + 1)) + 1; omega), _, _, rfl, rfl, ?_⟩
    have b3 := Int.emod_nonneg later (show (high : Int) - (low + one % ((high : Int) - low + 1)) + 1 ≠ 0 by omega)
    have b4 := Int.emod_lt_of_pos later (show (0 : Int) < (high : Int) - (low + one % ((high : Int) - low + 1)) + 1 by omega)
    refine ⟨fun σ' H' => H' = H ∧ ∃ n m s : Nat, low ≤ n ∧ n ≤ m ∧ m ≤ high ∧ 1 ≤ s ∧ s ≤ 99 ∧ σ' = [some (.ref p), some (.int low), some (.int high), some (.int form), some (.int n), some (.int m), some (.int s)], ?_, ?_⟩
    · refine ⟨_, rfl, _, _, rfl, rfl, (by show (0 : Int) < 99; decide), _, _, rfl, rfl, rfl, (low + one % ((high : Int) - low + 1)).toNat, (low + one % ((high : Int) - low + 1) + later % ((high : Int) - (low + one % ((high : Int) - low + 1)) + 1)).toNat, (1 + by_ % 99).toNat, by omega, by omega, by omega, by omega, by omega, ?_⟩
      rw [Int.toNat_of_nonneg (by omega), Int.toNat_of_nonneg (by omega), Int.toNat_of_nonneg (by omega)]
      rfl
    rintro σ' H' ⟨rfl, n, m, s, n1, n2, n3, s1, s2, rfl⟩
    have hs := nm_len (n := s) s2
    have hn := nm_len (n := n) (by omega)
    have hm := nm_len (n := m) (by omega)
    -- what is handed back
    have fin : ∀ (x : List Nat) (vs : List V) (l q : Addr) (H1 H2 : Hp), Same H' H1 → Plain low high x → H' l = none → H1 l = some (.lst vs) → Ints vs → vs.length ≤ 100 → Same H1 H2 → H2 q = some (.tup [.str (SX.S x), .ref l]) → Q (.ref q) H2 := fun x vs l q H1 H2 a1 a2 a3 a4 a5 a6 a7 a8 =>
      k q x l vs H2 (a1.trans a7) a8 a2 a3 (a7 _ _ a4) a5 a6
    have rgl : (rgV (low : Int) ((high : Int) + 1)).length ≤ 100 := by
      rw [rgV_length]
      omega
    have lst3 : ∀ a b : Nat, a ≤ b → b ≤ 99 → RgC (a : Int) ((b : Int) + 1) (s : Int) ((((b : Int) + 1 - a - 1) / s).toNat + 1) ∧ (((b : Int) + 1 - a - 1) / s).toNat + 1 ≤ 100 := fun a b h1 h2 => by
      refine ⟨rgc_pos (by omega) (by omega) (by omega) (by omega) (by omega), ?_⟩
      have := Int.ediv_le_self (a := (b : Int) + 1 - a - 1) (s : Int) (by omega)
      omega
    refine ⟨_, rfl, rfl, _, rfl, ?_⟩
    rw [iv]
    by_cases f0 : form = 0
    · refine iteDT f0 ⟨_, rfl, _, rfl, _, _, rfl, rfl, _, _, rfl, rfl, ⟨by omega, by omega, by omega, by omega, by omega⟩, fun l H1 a1 a2 a3 => ⟨sl_of (by simp), fun q H2 a4 _ a5 => ?_⟩⟩
      exact fin [42] _ l q H1 H2 a1 (.bare (.star lh)) a2 a3 (ints_rgV _ _) rgl a4 (by rw [a5, cs_star])
    refine iteDF f0 ⟨_, rfl, rfl, _, rfl, ?_⟩
    rw [iv]
    by_cases f1 : form = 1
    · obtain ⟨r1, r2⟩ := lst3 low high lh hh
      refine iteDT f1 ⟨_, rfl, _, rfl, log_ok (by omega) (by omega), ?_⟩
      rw [str_nat rfl]
      refine ⟨_, _, rfl, rfl, by rw [cs_st]; exact cat_ok (by simp only [List.length_cons, List.length_nil]; omega), _, rfl, _, rfl, _, _, rfl, rfl, _, rfl, _, _, _, _, rfl, rfl, rfl, r1, by omega, fun l H1 a1 a2 a3 => ⟨sl_of (by simp), fun q H2 a4 _ a5 => ?_⟩⟩
      exact fin ([42] ++ 47 :: nm s) _ l q H1 H2 a1 (.step (.star lh) s1 s2) a2 a3 (ints_rg3 _ _ _) (by rw [len_rg3]; exact r2) a4 (by rw [a5, cs_st, SX.S_cat]; rfl)
    refine iteDF f1 ⟨_, rfl, rfl, _, rfl, ?_⟩
    rw [iv]
    by_cases f2 : form = 2
    · refine iteDT f2 ⟨_, rfl, _, rfl, log_ok (by omega) (by omega), ?_⟩
      rw [str_nat rfl]
      refine ⟨_, rfl, sl_of (by simp), fun l H1 a1 a2 a3 => ⟨sl_of (by simp), fun q H2 a4 _ a5 => ?_⟩⟩
      exact fin (nm n) _ l q H1 H2 a1 (.bare (.one n1 (by omega))) a2 a3 (fun v hv => ⟨_, List.mem_singleton.mp hv⟩) (by simp) a4 a5
    refine iteDF f2 ⟨_, rfl, rfl, _, rfl, ?_⟩
    rw [iv]
    by_cases f3 : form = 3
    · refine iteDT f3 ⟨_, rfl, _, rfl, log_ok (by omega) (by omega), ?_⟩
      rw [str_nat rfl]
      refine ⟨_, _, rfl, rfl, by rw [cs_dash]; exact cat_ok (by simp only [List.length_cons, List.length_nil]; omega), ?_⟩
      rw [cs_dash, SX.S_cat]
      refine ⟨_, rfl, _, rfl, log_ok (by omega) (by omega), ?_⟩
      rw [str_nat rfl]
      refine ⟨_, _, rfl, rfl, cat_ok (by simp only [List.length_append, List.length_cons, List.length_nil]; omega), ?_⟩
      rw [SX.S_cat]
      refine ⟨_, rfl, _, rfl, _, _, rfl, rfl, _, _, rfl, rfl, ⟨by omega, by omega, by omega, by omega, by omega⟩, fun l H1 a1 a2 a3 => ⟨sl_of (by simp), fun q H2 a4 _ a5 => ?_⟩⟩
      exact fin (nm n ++ 45 :: nm m) _ l q H1 H2 a1 (.bare (.span n1 n2 n3)) a2 a3 (ints_rgV _ _) (by rw [rgV_length]; omega) a4 (by rw [a5, List.append_assoc]; rfl)
    refine iteDF f3 ⟨_, rfl, rfl, _, rfl, ?_⟩
    rw [iv]
    by_cases f4 : form = 4
    · obtain ⟨r1, r2⟩ := lst3 n m n2 (by omega)
      refine iteDT f4 ⟨_, rfl, _, rfl, log_ok (by omega) (by omega), ?_⟩
      rw [str_nat rfl]
      refine ⟨_, _, rfl, rfl, by rw [cs_dash]; exact cat_ok (by simp only [List.length_cons, List.length_nil]; omega), ?_⟩
      rw [cs_dash, SX.S_cat]
      refine ⟨_, rfl, _, rfl, log_ok (by omega) (by omega), ?_⟩
      rw [str_nat rfl]
      refine ⟨_, _, rfl, rfl, cat_ok (by simp only [List.length_append, List.length_cons, List.length_nil]; omega), ?_⟩
      rw [SX.S_cat]
      refine ⟨_, _, rfl, rfl, by rw [cs_slash]; exact cat_ok (by simp only [List.length_append, List.length_cons, List.length_nil]; omega), ?_⟩
      rw [cs_slash, SX.S_cat]
      refine ⟨_, rfl, _, rfl, log_ok (by omega) (by omega), ?_⟩
      rw [str_nat rfl]
      refine ⟨_, _, rfl, rfl, cat_ok (by simp only [List.length_append, List.length_cons, List.length_nil]; omega), ?_⟩
      rw [SX.S_cat]
      refine ⟨_, rfl, _, rfl, _, _, rfl, rfl, _, rfl, _, _, _, _, rfl, rfl, rfl, r1, by omega, fun l H1 a1 a2 a3 => ⟨sl_of (by simp), fun q H2 a4 _ a5 => ?_⟩⟩
      exact fin ((nm n ++ 45 :: nm m) ++ 47 :: nm s) _ l q H1 H2 a1 (.step (.span n1 n2 n3) s1 s2) a2 a3 (ints_rg3 _ _ _) (by rw [len_rg3]; exact r2) a4 (by rw [a5]; simp only [List.append_assoc, List.cons_append, List.nil_append])
    obtain ⟨r1, r2⟩ := lst3 n high (by omega) hh
    refine iteDF f4 ⟨_, rfl, _, rfl, log_ok (by omega) (by omega), ?_⟩
    rw [str_nat rfl]
    refine ⟨_, _, rfl, rfl, by rw [cs_slash]; exact cat_ok (by simp only [List.length_cons, List.length_nil]; omega), ?_⟩
    rw [cs_slash, SX.S_cat]
    refine ⟨_, rfl, _, rfl, log_ok (by omega) (by omega), ?_⟩
    rw [str_nat rfl]
    refine ⟨_, _, rfl, rfl, cat_ok (by simp only [List.length_append, List.length_cons, List.length_nil]; omega), ?_⟩
    rw [SX.S_cat]
    refine ⟨_, rfl, _, rfl, _, _, rfl, rfl, _, rfl, _, _, _, _, rfl, rfl, rfl, r1, by omega, fun l H1 a1 a2 a3 => ⟨sl_of (by simp), fun q H2 a4 _ a5 => ?_⟩⟩
    exact fin (nm n ++ 47 :: nm s) _ l q H1 H2 a1 (.step (.one n1 (by omega)) s1 s2) a2 a3 (ints_rg3 _ _ _) (by rw [len_rg3]; exact r2) a4 (by rw [a5]; simp only [List.append_assoc, List.cons_append, List.nil_append])
end
end K58
set_option Elab.async false
set_option maxRecDepth 100000
set_option maxHeartbeats 4000000
set_option linter.all false
namespace K58
open PySem PySem.Spec PyProof.Rows L2
/-! ### the law's fields, rows, moments -/
def spLNumbers : Sp := fun vs H Q _ => ∃ (cell : Int) (low high : Nat) (mixed : Bool), vs = [.int cell, .int low, .int high, .bl mixed] ∧ low ≤ high ∧ high ≤ 99 ∧
  ∀ q x v H', Same H H' → H' q = some (.tup [.str (SX.S x), v]) → FieldT (Plain low high) x → Q (.ref q) H'
def spLDays (I : List Nat → Prop) : Sp := fun vs H Q _ => ∃ (cell : Int) (mixed : Bool), vs = [.int cell, .bl mixed] ∧
  ∀ q x v H', Same H H' → H' q = some (.tup [.str (SX.S x), v]) → FieldT I x → Q (.ref q) H'
theorem cut_ints {ds : List Int} {lo hi : Int} (a n : Nat) (h1 : lo = (a : Nat)) (h2 : hi = ((a + n : Nat) : Int)) (h : a + n ≤ ds.length) : cutV (ds.map V.int) (some lo) (some hi) = ((ds.drop a).take n).map V.int := by
  unfold cutV
  rw [h1, h2, HT.sIx_nat, HT.sIx_nat, List.length_map, Nat.min_eq_left h, Nat.min_eq_left (show a ≤ ds.length by omega), List.map_take, List.map_drop]
  congr 1
  omega
theorem take4 {ds : List Int} {a : Nat} (h : a + 4 ≤ ds.length) : ∃ w x y z : Int, (ds.drop a).take 4 = [w, x, y, z] ∧ ds[a]? = some w ∧ ds[a + 1]? = some x ∧ ds[a + 2]? = some y ∧ ds[a + 3]? = some z := by
  refine ⟨ds[a], ds[a + 1], ds[a + 2], ds[a + 3], ?_, List.getElem?_eq_getElem _, List.getElem?_eq_getElem _, List.getElem?_eq_getElem _, List.getElem?_eq_getElem _⟩
  rw [List.drop_eq_getElem_cons (by omega), List.drop_eq_getElem_cons (by omega), List.drop_eq_getElem_cons (by omega), List.drop_eq_getElem_cons (by omega)]
  rfl
theorem take5 {ds : List Int} {a : Nat} (h : a + 5 ≤ ds.length) : ∃ v w x y z : Int, (ds.drop a).take 5 = [v, w, x, y, z] ∧ ds[a]? = some v ∧ ds[a + 1]? = some w ∧ ds[a + 2]? = some x ∧ ds[a + 3]? = some y ∧ ds[a + 4]? = some z := by
  refine ⟨ds[a], ds[a + 1], ds[a + 2], ds[a + 3], ds[a + 4], ?_, List.getElem?_eq_getElem _, List.getElem?_eq_getElem _, List.getElem?_eq_getElem _, List.getElem?_eq_getElem _, List.getElem?_eq_getElem _⟩
  rw [List.drop_eq_getElem_cons (by omega), List.drop_eq_getElem_cons (by omega), List.drop_eq_getElem_cons (by omega), List.drop_eq_getElem_cons (by omega), List.drop_eq_getElem_cons (by omega)]
  rfl
section
variable {P : Program} {w : World} {K : PySem.W.Frag} {mg : Str → Option Value} {base : Heap}
theorem sc__law_numbers : FnScope ["_law_cell", "_law_low", "_law_high", "_law_mixed", "_law_size", "_law_drawn", "_law_texts", "_law_numbers_here", "_law_k", "_law_text", "_law_some"] ["_law_cell", "_law_low", "_law_high", "_law_mixed"] (defScope s__law_numbers) := C8.fnScope_by (by decide +kernel)
theorem ok__law_numbers (T : Tx K mg) (c__law_digits : C8.Cal P w K mg base 2 "_law_digits" spDigits []) (c__law_item : C8.Cal P w K mg base 1 "_law_item" spLItem []) : C8.Cal P w K mg base 3 "_law_numbers" spLNumbers [] := by
  refine cal_of T.g__law_numbers T.D__law_numbers sc__law_numbers (fun _ _ _ _ _ _ us hl => match us, hl with | [_, _, _, _], _ => rfl) (fun vs H Q E h => ?_) (fun cdv A outer s H vs Q E hr h => ?_)
  · obtain ⟨a, b, c, d, rfl, _⟩ := h
    rfl
  · obtain ⟨cell, low, high, mixed, rfl, lh, hh, k⟩ := h
    refine ⟨_, (pss_cons (ps_set (i := 4) sc__law_numbers.nd rfl (Or.inl rfl) (pe_op op_add (pe_op op_sub (pv 2) (pv 1)) pe_int))
      (pss_cons (ps_set (i := 5) sc__law_numbers.nd rfl (Or.inl rfl) (C8.pe_c c__law_digits hr (by decide) rfl (pa_cons (pv 0) (pa_cons (pe_op op_catS (pe_lstS (pa_cons pe_int pa_nil)) (pe_op op_repS (pe_lstS (pa_cons pe_int (pa_cons (pv 4) (pa_cons (pv 4) (pa_cons pe_int pa_nil))))) pe_int)) (pa_cons (pv 3) pa_nil)))))
      (pss_cons (ps_set (i := 6) sc__law_numbers.nd rfl (Or.inl rfl) (pe_lstS pa_nil))
      (pss_cons (ps_set (i := 7) sc__law_numbers.nd rfl (Or.inl rfl) (pe_lstS pa_nil))
      (pss_cons (ps_for PassesOwn.never rfl (pi_range1 rfl T.f_range (pa_cons (pe_op op_add pe_int (pe_ix ix_list (pv 5) pe_int (fun _ _ => rfl))) pa_nil)) (pg_name (i := 8) sc__law_numbers.nd rfl (Or.inl rfl)) (pss_cons (ps_asg (C8.pe_c c__law_item hr (by decide) rfl (pa_cons (pe_slice sl_listS (pv 5) (po_some (pe_op op_add pe_int (pe_op op_mul pe_int (pv 8)))) (po_some (pe_op op_add pe_int (pe_op op_mul pe_int (pv 8))))) (pa_cons (pv 1) (pa_cons (pv 2) pa_nil)))) (pg_tup rfl (pgs_cons (pg_name (i := 9) sc__law_numbers.nd rfl (Or.inl rfl)) (pgs_cons (pg_name (i := 10) sc__law_numbers.nd rfl (Or.inl rfl)) pgs_nil))))
      (pss_cons (ps_expr (pe_bm PySem.F.plainAttrs_list PySem.F.slot_list_append PySem.F.type_list_append mt_append (pv 6) (pa_cons (pv 9) pa_nil)))
      (pss_one (ps_set (i := 7) sc__law_numbers.nd rfl (Or.inl rfl) (pe_op op_catS (pv 7) (pv 10)))))))
      (pss_one (ps_ret (pe_tupS (pa_cons (pe_joinS pe_str (pv 6)) (pa_cons (pv 7) pa_nil)))))))))), ?_⟩
    refine ⟨_, rfl, _, rfl, _, _, rfl, rfl, _, _, rfl, rfl, ?_⟩
    refine ⟨_, rfl, sl_of (by simp), fun p1 H1 s1 hp1 e1 => ?_⟩
    refine ⟨_, rfl, _, rfl, sl_of (by simp), fun p2 H2 s2 hp2 e2 => ?_⟩
    refine ⟨p2, _, _, rfl, rfl, e2, by decide, by decide, by simp, fun p3 H3 s3 hp3 e3 => ?_⟩
    refine ⟨p1, p3, _, _, rfl, rfl, s3 _ _ (s2 _ _ e1), e3, by simp, fun p4 H4 s4 hp4 e4 => ?_⟩
    have e4' : H4 p4 = some (.lst (([3, 6, (high : Int) - low + 1, (high : Int) - low + 1, 99, 6, (high : Int) - low + 1, (high : Int) - low + 1, 99, 6, (high : Int) - low + 1, (high : Int) - low + 1, 99] : List Int).map V.int)) := e4
    obtain ⟨sz, hsz⟩ : ∃ sz : Int, (high : Int) - low + 1 = sz := ⟨_, rfl⟩
    rw [hsz] at e4'
    have s04 : Same H H4 := ((s1.trans s2).trans s3).trans s4
    refine ⟨_, rfl, cell, p4, [3, 6, sz, sz, 99, 6, sz, sz, 99, 6, sz, sz, 99], mixed, rfl, e4', ?_, by simp, fun pd ds H5 s5 hpd e5 dr => ?_⟩
    · simp only [List.mem_cons, List.not_mem_nil, or_false]
      intro z hz
      omega
    have s05 : Same H H5 := s04.trans s5
    have dl : ds.length = 13 := dr.1
    obtain ⟨d0, hd0⟩ : ∃ d0, ds[0]? = some d0 := ⟨_, List.getElem?_eq_getElem (by omega)⟩
    have d0b := dr.2 0 d0 3 hd0 rfl
    refine ⟨Nat.zero_le _, fun lt H6 s6 hlt e6 => ?_⟩
    refine ⟨Nat.zero_le _, fun ln H7 s7 hln e7 => ?_⟩
    have s07 : Same H H7 := (s05.trans s6).trans s7
    have hlt0 : H lt = none := s05.free hlt
    have e5p := (s6.trans s7) _ _ e5
    have pdlt : pd ≠ lt := ne_of_none e5 hlt
    refine ⟨_, rfl, pd, _, 0, _, rfl, rfl, .inl (.inl e5p), at_of (j := 0) rfl (by rw [List.getElem?_map, hd0]; rfl), _, _, rfl, rfl, _, rfl, ?_, ?_, ?_⟩
    · show -(2 ^ 62) ≤ 1 + d0
      omega
    · show 1 + d0 < 2 ^ 62
      omega
    refine for_range (lo := 0) (n := (1 + d0).toNat) (fun i σ H' => Same H H' ∧ H' pd = some (.lst (ds.map V.int)) ∧ ∃ (parts : List (List Nat)) (ln : Addr) (vs : List V) (v1 v2 v3 : Option V), H' lt = some (.lst (parts.map fun p => V.str (SX.S p))) ∧ parts.length = i ∧ (∀ p ∈ parts, Plain low high p) ∧ lt ≠ ln ∧ H' ln = some (.lst vs) ∧ vs.length ≤ 100 * i ∧
      σ = [some (.int cell), some (.int low), some (.int high), some (.bl mixed), some (.int ((high : Int) - low + 1)), some (.ref pd), some (.ref lt), some (.ref ln), v1, v2, v3])
      ⟨s07, e5p, [], ln, [], none, none, none, s7 _ _ e6, rfl, fun p hp => (by cases hp), ne_of_none e6 hln, e7, Nat.zero_le _, rfl⟩ ?_ ?_
    · rintro i σ H' hi ⟨s', ep, parts, ln', vs, v1, v2, v3, el, pl, pp, ne, en, vl, rfl⟩
      obtain ⟨w0, w1, w2, w3, tk, _⟩ := take4 (ds := ds) (a := 1 + 4 * i) (by omega)
      refine ⟨_, rfl, _, rfl, _, _, rfl, rfl, .inl ⟨by decide, by decide⟩, _, _, rfl, rfl, _, rfl, ?_⟩
      refine ⟨_, rfl, _, _, rfl, rfl, .inl ⟨by decide, by decide⟩, _, _, rfl, rfl, _, rfl, ?_⟩
      refine ⟨pd, _, rfl, .inl (.inl ep), fun p5 H8 s8 hp5 e8 => ?_⟩
      rw [cut_ints (1 + 4 * i) 4 (by omega) (by omega) (by omega), tk] at e8
      refine ⟨_, rfl, _, rfl, p5, w0, w1, w2, w3, low, high, rfl, e8, lh, hh, fun q x l vs2 H9 s9 e9 hx hl el9 _ lv => ?_⟩
      have s89 := s8.trans s9
      have elt := s89 _ _ el
      have ltl : lt ≠ l := ne_of_none (s8 _ _ el) hl
      refine ⟨q, _, rfl, .inl (.inl e9), rfl, _, _, rfl, _, _, rfl, rfl, ?_⟩
      refine ⟨_, rfl, .inl ⟨rfl, _, .inl (.inl elt)⟩, _, rfl, lt, _, _, rfl, rfl, elt, by rw [List.length_map]; exact small1000 (by omega), ?_⟩
      refine ⟨_, rfl, _, rfl, ln', l, _, _, rfl, rfl, by rw [upd_ne ne.symm]; exact s89 _ _ en, by rw [upd_ne ltl.symm]; exact el9, by omega, fun p6 H10 s10 hp6 e10 => ?_⟩
      have eu := s10 _ _ (upd_same (H := H9) (a := lt) (o := .lst ((parts.map fun p => V.str (SX.S p)) ++ [.str (SX.S x)])))
      refine ⟨(same_upd2 (s'.trans s89) hlt0).trans s10, s10 _ _ (by rw [upd_ne pdlt]; exact s89 _ _ ep), parts ++ [x], p6, vs ++ vs2, _, _, _, ?_, by rw [List.length_append, pl]; rfl, fun p hp => ?_, ne_of_none upd_same hp6, e10, by rw [List.length_append]; omega, rfl⟩
      · rw [List.map_append]
        exact eu
      · rcases List.mem_append.mp hp with hp | hp
        · exact pp p hp
        · rw [List.mem_singleton.mp hp]
          exact hx
    · rintro σ H' ⟨s', ep, parts, ln', vs, v1, v2, v3, el, pl, pp, ne, en, vl, rfl⟩
      have o := fun l (h : Plain low high l) => h.ok hh
      have sm := sum_len (k := 8) (fun l hl => (o l hl).len) pp
      refine ⟨⟨_, rfl⟩, _, rfl, 44, lt, parts, congrArg V.str cs_comma, rfl, .inl (.inl el), by omega, _, rfl, sl_of (by simp), fun q H2 s2 _ e2 => ?_⟩
      exact k q _ (.ref ln') H2 (s'.trans s2) e2 ⟨parts, fun e => (by rw [e] at pl; simp only [List.length_nil] at pl; omega), by omega, pp, rfl⟩
end
end K58
set_option Elab.async false
set_option maxRecDepth 100000
set_option maxHeartbeats 4000000
set_option linter.all false
namespace K58
open PySem PySem.Spec PyProof.Rows L2
theorem dp_strs {K : PySem.W.Frag} {H : Hp} : ∀ parts : List (List Nat), DpAll K H (parts.map fun p => V.str (SX.S p)) (parts.map fun p => PyData.str (SX.S p))
  | [] => .nil
  | p :: r => .cons (.str _) (dp_strs r)
theorem Plain.low {low high : Nat} {l : List Nat} (h : Plain low high l) : ∀ c ∈ l, c < 128 := fun c hc => by
  have := h.sgn hc
  omega
theorem nm_low {n c : Nat} (h : c ∈ nm n) : c < 128 := by
  have := nm_dig h
  omega
theorem DayI.low {l : List Nat} (h : DayI l) : ∀ c ∈ l, c < 128 := by
  intro c hc
  rcases h with h | rfl | ⟨n, h1, h2, rfl⟩ | ⟨n, h1, h2, rfl⟩ | rfl
  · exact h.low c hc
  · simp at hc; omega
  · rcases List.mem_cons.mp hc with e | hc
    · omega
    · rcases List.mem_cons.mp hc with e | hc
      · omega
      · exact nm_low hc
  · rcases List.mem_append.mp hc with hc | hc
    · exact nm_low hc
    · simp at hc; omega
  · simp at hc; omega
theorem WkI.low {l : List Nat} (h : WkI l) : ∀ c ∈ l, c < 128 := by
  intro c hc
  rcases h with h | ⟨d, n, h1, h2, h3, rfl⟩ | ⟨d, h1, rfl⟩
  · exact h.low c hc
  · rcases List.mem_append.mp hc with hc | hc
    · exact nm_low hc
    · rcases List.mem_cons.mp hc with e | hc
      · omega
      · exact nm_low hc
  · rcases List.mem_append.mp hc with hc | hc
    · exact nm_low hc
    · simp at hc; omega
theorem strOk_S {l : List Nat} (h : ∀ c ∈ l, c < 128) : PyData.strOk (SX.S l) = true := by
  show (SX.S l).cps.all (fun c => decide (c < 0x110000)) = true
  rw [← Array.all_toList]
  refine List.all_eq_true.mpr fun c hc => decide_eq_true ?_
  have : c ∈ l := by simpa [SX.S] using hc
  have := h c this
  omega
theorem shaped_strs {parts : List (List Nat)} (h : ∀ p ∈ parts, ∀ c ∈ p, c < 128) : SeqAt.shaped (.list (parts.map fun p => PyData.str (SX.S p))) = true := by
  have a : PyData.canLayAll0 (parts.map fun p => PyData.str (SX.S p)) = true ∧ PyData.depthAll (parts.map fun p => PyData.str (SX.S p)) = 0 := by
    induction parts with
    | nil => exact ⟨by simp [PyData.canLayAll0], by simp [PyData.depthAll]⟩
    | cons p r ih =>
      obtain ⟨i1, i2⟩ := ih fun q hq => h q (List.mem_cons_of_mem _ hq)
      rw [List.map_cons]
      simp only [PyData.canLayAll0, PyData.depthAll, PyData.canLay0, PyData.depth, i1, i2, strOk_S (h p List.mem_cons_self), Bool.and_self, Nat.max_self, and_self]
  unfold SeqAt.shaped
  simp only [PyData.canLay0, PyData.depth, a.1, a.2, Bool.true_and, decide_eq_true_eq]
  decide
section
variable {P : Program} {w : World} {K : PySem.W.Frag} {mg : Str → Option Value} {base : Heap}
theorem sc__law_days : FnScope ["_law_cell", "_law_mixed", "_law_drawn", "_law_texts", "_law_marks", "_law_k", "_law_sort", "_law_form", "_law_one", "_law_later", "_law_by", "_law_text", "_law_some", "_law_mark"] ["_law_cell", "_law_mixed"] (defScope s__law_days) := C8.fnScope_by (by decide +kernel)
theorem ok__law_days (T : Tx K mg) (c__law_digits : C8.Cal P w K mg base 2 "_law_digits" spDigits []) (c__law_item : C8.Cal P w K mg base 1 "_law_item" spLItem []) : C8.Cal P w K mg base 3 "_law_days" (spLDays DayI) [] := by
  refine cal_of T.g__law_days T.D__law_days sc__law_days (fun _ _ _ _ _ _ us hl => match us, hl with | [_, _], _ => rfl) (fun vs H Q E h => ?_) (fun cdv A outer s H vs Q E hr h => ?_)
  · obtain ⟨a, b, rfl, _⟩ := h
    rfl
  · obtain ⟨cell, mixed, rfl, k⟩ := h
    refine ⟨_, (pss_cons (ps_set (i := 2) sc__law_days.nd rfl (Or.inl rfl) (C8.pe_c c__law_digits hr (by decide) rfl (pa_cons (pv 0) (pa_cons (pe_op op_catS (pe_lstS (pa_cons pe_int (pa_cons pe_int pa_nil))) (pe_op op_repS (pe_lstS (pa_cons pe_int (pa_cons pe_int (pa_cons pe_int (pa_cons pe_int (pa_cons pe_int pa_nil)))))) pe_int)) (pa_cons (pv 1) pa_nil)))))
      (pss_cons (ps_set (i := 3) sc__law_days.nd rfl (Or.inl rfl) (pe_lstS pa_nil))
      (pss_cons (ps_set (i := 4) sc__law_days.nd rfl (Or.inl rfl) (pe_lstS pa_nil))
      (pss_cons (ps_for PassesOwn.never rfl (pi_range1 rfl T.f_range (pa_cons (pe_op op_add pe_int (pe_ix ix_list (pv 2) pe_int (fun _ _ => rfl))) pa_nil)) (pg_name (i := 5) sc__law_days.nd rfl (Or.inl rfl)) (pss_cons (ps_asg (pe_slice sl_listS (pv 2) (po_some (pe_op op_add pe_int (pe_op op_mul pe_int (pv 5)))) (po_some (pe_op op_add pe_int (pe_op op_mul pe_int (pv 5))))) (pg_lst rfl (pgs_cons (pg_name (i := 6) sc__law_days.nd rfl (Or.inl rfl)) (pgs_cons (pg_name (i := 7) sc__law_days.nd rfl (Or.inl rfl)) (pgs_cons (pg_name (i := 8) sc__law_days.nd rfl (Or.inl rfl)) (pgs_cons (pg_name (i := 9) sc__law_days.nd rfl (Or.inl rfl)) (pgs_cons (pg_name (i := 10) sc__law_days.nd rfl (Or.inl rfl)) pgs_nil)))))))
      (pss_cons (ps_asg (C8.pe_c c__law_item hr (by decide) rfl (pa_cons (pe_lstS (pa_cons (pv 7) (pa_cons (pv 8) (pa_cons (pv 9) (pa_cons (pv 10) pa_nil))))) (pa_cons pe_int (pa_cons pe_int pa_nil)))) (pg_tup rfl (pgs_cons (pg_name (i := 11) sc__law_days.nd rfl (Or.inl rfl)) (pgs_cons (pg_name (i := 12) sc__law_days.nd rfl (Or.inl rfl)) pgs_nil))))
      (pss_cons (ps_set (i := 13) sc__law_days.nd rfl (Or.inl rfl) (pe_tupS (pa_cons pe_str (pa_cons (pv 12) (pa_cons pe_int pa_nil)))))
      (C8.pss_cut (ps_if (pt_cmpR op_eq (pv 6) pe_int (nomark _)) (pss_one (ps_asg (pe_tupS (pa_cons pe_str (pa_cons (pe_tupS (pa_cons pe_str (pa_cons pe_int (pa_cons pe_int pa_nil)))) pa_nil))) (pg_tup rfl (pgs_cons (pg_name (i := 11) sc__law_days.nd rfl (Or.inl rfl)) (pgs_cons (pg_name (i := 13) sc__law_days.nd rfl (Or.inl rfl)) pgs_nil))))) pss_nil)
      (C8.pss_cut (ps_if (pt_cmpR op_eq (pv 6) pe_int (nomark _)) (pss_one (ps_par (i := 11) (j := 13) (by rfl) sc__law_days.nd rfl rfl (by decide) rfl rfl (pa_cons (pe_op op_add_str pe_str (pe_callTy call_str_int (by rfl) T.f_str (by decide +kernel) (pa_cons (pe_op op_add pe_int (pe_op op_mod (pv 8) pe_int)) pa_nil))) (pa_cons (pe_tupS (pa_cons pe_str (pa_cons (pe_op op_add pe_int (pe_op op_mod (pv 8) pe_int)) (pa_cons pe_int pa_nil)))) pa_nil)) (by rfl))) pss_nil)
      (C8.pss_cut (ps_if (pt_cmpR op_eq (pv 6) pe_int (nomark _)) (pss_one (ps_par (i := 11) (j := 13) (by rfl) sc__law_days.nd rfl rfl (by decide) rfl rfl (pa_cons (pe_op op_add_str (pe_callTy call_str_int (by rfl) T.f_str (by decide +kernel) (pa_cons (pe_op op_add pe_int (pv 8)) pa_nil)) pe_str) (pa_cons (pe_tupS (pa_cons pe_str (pa_cons (pe_op op_add pe_int (pv 8)) (pa_cons pe_int pa_nil)))) pa_nil)) (by rfl))) pss_nil)
      (C8.pss_cut (ps_if (pt_cmpR op_eq (pv 6) pe_int (nomark _)) (pss_one (ps_asg (pe_tupS (pa_cons pe_str (pa_cons (pe_tupS (pa_cons pe_str (pa_cons pe_int (pa_cons pe_int pa_nil)))) pa_nil))) (pg_tup rfl (pgs_cons (pg_name (i := 11) sc__law_days.nd rfl (Or.inl rfl)) (pgs_cons (pg_name (i := 13) sc__law_days.nd rfl (Or.inl rfl)) pgs_nil))))) pss_nil)
      (pss_cons (ps_expr (pe_bm PySem.F.plainAttrs_list PySem.F.slot_list_append PySem.F.type_list_append mt_append (pv 3) (pa_cons (pv 11) pa_nil)))
      (pss_one (ps_expr (pe_bm PySem.F.plainAttrs_list PySem.F.slot_list_append PySem.F.type_list_append mt_append (pv 4) (pa_cons (pv 13) pa_nil)))))))))))))
      (pss_cons (ps_if (PW.pt (pw_or (pt_cmpR op_eq (pe_ix ix_list (pv 2) pe_int (fun _ _ => rfl)) pe_int (nomark _)) (pw_or1 (pt_cmpR (op_eqD hr.units) (pv 3) (pe_lstS (pa_cons pe_str pa_nil)) (nomark _))))) (pss_one (ps_ret (pe_tupS (pa_cons pe_str (pa_cons pe_non pa_nil))))) pss_nil)
      (pss_one (ps_ret (pe_tupS (pa_cons (pe_joinS pe_str (pv 3)) (pa_cons (pv 4) pa_nil)))))))))), ?_⟩
    refine ⟨_, rfl, sl_of (by simp), fun p1 H1 s1 hp1 e1 => ?_⟩
    refine ⟨sl_of (by simp), fun p2 H2 s2 hp2 e2 => ?_⟩
    refine ⟨p2, _, _, rfl, rfl, e2, by decide, by decide, by simp, fun p3 H3 s3 hp3 e3 => ?_⟩
    refine ⟨p1, p3, _, _, rfl, rfl, s3 _ _ (s2 _ _ e1), e3, by simp, fun p4 H4 s4 hp4 e4 => ?_⟩
    have e4' : H4 p4 = some (.lst (([3, 3, 8, 6, 31, 31, 99, 8, 6, 31, 31, 99, 8, 6, 31, 31, 99] : List Int).map V.int)) := e4
    have s04 : Same H H4 := ((s1.trans s2).trans s3).trans s4
    refine ⟨_, rfl, cell, p4, _, mixed, rfl, e4', ?_, by simp, fun pd ds H5 s5 hpd e5 dr => ?_⟩
    · simp only [List.mem_cons, List.not_mem_nil, or_false]
      intro z hz
      omega
    have s05 : Same H H5 := s04.trans s5
    have dl : ds.length = 17 := dr.1
    obtain ⟨d0, hd0⟩ : ∃ d0, ds[0]? = some d0 := ⟨_, List.getElem?_eq_getElem (by omega)⟩
    obtain ⟨d1, hd1⟩ : ∃ d1, ds[1]? = some d1 := ⟨_, List.getElem?_eq_getElem (by omega)⟩
    have d1b := dr.2 1 d1 3 hd1 rfl
    have dI : ∀ i d, i < 3 → ds[2 + 5 * i + 2]? = some d → 0 ≤ d ∧ d < 31 := fun i d hi hd => dr.2 _ d 31 hd (match i, hi with | 0, _ => rfl | 1, _ => rfl | 2, _ => rfl)
    refine ⟨Nat.zero_le _, fun lt H6 s6 hlt e6 => ?_⟩
    refine ⟨Nat.zero_le _, fun lm H7 s7 hlm e7 => ?_⟩
    have s07 : Same H H7 := (s05.trans s6).trans s7
    have hlt0 : H lt = none := s05.free hlt
    have hlm0 : H lm = none := (s05.trans s6).free hlm
    have e5p := (s6.trans s7) _ _ e5
    have pdlt : pd ≠ lt := ne_of_none e5 hlt
    have pdlm : pd ≠ lm := ne_of_none (s6 _ _ e5) hlm
    have ltlm : lt ≠ lm := ne_of_none e6 hlm
    refine ⟨_, rfl, pd, _, 1, _, rfl, rfl, .inl (.inl e5p), at_of (j := 1) rfl (by rw [List.getElem?_map, hd1]; rfl), _, _, rfl, rfl, _, rfl, ?_, ?_, ?_⟩
    · show -(2 ^ 62) ≤ 1 + d1
      omega
    · show 1 + d1 < 2 ^ 62
      omega
    refine for_range (lo := 0) (n := (1 + d1).toNat) (fun i σ H' => Same H H' ∧ H' pd = some (.lst (ds.map V.int)) ∧ ∃ (parts : List (List Nat)) (vs : List V) (v5 v6 v7 v8 v9 v10 v11 v12 v13 : Option V), H' lt = some (.lst (parts.map fun p => V.str (SX.S p))) ∧ parts.length = i ∧ (∀ p ∈ parts, DayI p) ∧ H' lm = some (.lst vs) ∧ vs.length = i ∧
      σ = [some (.int cell), some (.bl mixed), some (.ref pd), some (.ref lt), some (.ref lm), v5, v6, v7, v8, v9, v10, v11, v12, v13])
      ⟨s07, e5p, [], [], none, none, none, none, none, none, none, none, none, s7 _ _ e6, rfl, fun p hp => (by cases hp), e7, rfl, rfl⟩ ?_ ?_
    · rintro i σ H' hi ⟨s', ep, parts, vs, v5, v6, v7, v8, v9, v10, v11, v12, v13, el, pl, pp, em, vl, rfl⟩
      obtain ⟨sort, form, one, later, by_, tk, _, _, k3, _⟩ := take5 (ds := ds) (a := 2 + 5 * i) (by omega)
      have ob := dI i one (by omega) k3
      refine ⟨_, rfl, _, rfl, _, _, rfl, rfl, .inl ⟨by decide, by decide⟩, _, _, rfl, rfl, _, rfl, ?_⟩
      refine ⟨_, rfl, _, _, rfl, rfl, .inl ⟨by decide, by decide⟩, _, _, rfl, rfl, _, rfl, ?_⟩
      refine ⟨pd, _, rfl, .inl (.inl ep), fun p5 H8 s8 hp5 e8 => ?_⟩
      rw [cut_ints (2 + 5 * i) 5 (by omega) (by omega) (by omega), tk] at e8
      refine ⟨p5, _, rfl, .inl (.inl e8), rfl, _, _, rfl, _, _, rfl, _, _, rfl, _, _, rfl, _, _, rfl, rfl, ?_⟩
      refine ⟨_, rfl, _, rfl, _, rfl, _, rfl, sl_of (by simp), fun p6 H9 s9 hp6 e9 => ?_⟩
      refine ⟨p6, form, one, later, by_, 1, 31, rfl, e9, by decide, by decide, fun q x l vs2 H10 s10 e10 hx hl el10 _ lv => ?_⟩
      refine ⟨q, _, rfl, .inl (.inl e10), rfl, _, _, rfl, _, _, rfl, rfl, ?_⟩
      refine ⟨_, rfl, sl_of (by simp), fun q2 H11 s11 _ e11 => ?_⟩
      refine ⟨fun σ' H' => ∃ (y : List Nat) (v : V), Same H11 H' ∧ DayI y ∧ σ' = [some (.int cell), some (.bl mixed), some (.ref pd), some (.ref lt), some (.ref lm), some (.int (0 + (i : Nat))), some (.int sort), some (.int form), some (.int one), some (.int later), some (.int by_), some (.str (SX.S y)), some (.ref l), some v], ?_, ?_⟩
      · refine ⟨_, rfl, rfl, _, rfl, ?_⟩
        rw [iv]
        by_cases c : sort = 4
        · refine iteDT c ⟨sl_of (by simp), fun q3 H12 s12 _ e12 => ⟨sl_of (by simp), fun q4 H13 s13 _ e13 => ?_⟩⟩
          refine ⟨q4, _, rfl, .inl (.inl e13), rfl, _, _, rfl, _, _, rfl, rfl, [76], .ref q3, s12.trans s13, .inr (.inl rfl), ?_⟩
          rw [cs_L]
          rfl
        · exact iteDF c ⟨x, _, Same.refl _, .inl hx, rfl⟩
      rintro σ' H'' ⟨y, v, sm, yi, rfl⟩
      refine ⟨fun σ' H' => ∃ (y : List Nat) (v : V), Same H11 H' ∧ DayI y ∧ σ' = [some (.int cell), some (.bl mixed), some (.ref pd), some (.ref lt), some (.ref lm), some (.int (0 + (i : Nat))), some (.int sort), some (.int form), some (.int one), some (.int later), some (.int by_), some (.str (SX.S y)), some (.ref l), some v], ?_, ?_⟩
      · refine ⟨_, rfl, rfl, _, rfl, ?_⟩
        rw [iv]
        by_cases c : sort = 5
        · have m0 := Int.emod_nonneg one (show (30 : Int) ≠ 0 by decide)
          have m1 := Int.emod_lt_of_pos one (show (0 : Int) < 30 by decide)
          obtain ⟨n, hn⟩ : ∃ n : Nat, (n : Int) = 1 + one % 30 := ⟨(1 + one % 30).toNat, Int.toNat_of_nonneg (by omega)⟩
          have nl := nm_len (n := n) (by omega)
          refine iteDT c ⟨_, rfl, _, _, rfl, rfl, (by show (0 : Int) < 30; decide), _, _, rfl, rfl, _, rfl, log_ok (by omega) (by omega), ?_⟩
          rw [cs_Ld, str_nat (n := n) hn.symm]
          refine ⟨_, _, rfl, rfl, cat_ok (by simp only [List.length_cons, List.length_nil]; omega), ?_⟩
          rw [SX.S_cat]
          refine ⟨_, rfl, _, _, rfl, rfl, (by show (0 : Int) < 30; decide), _, _, rfl, rfl, sl_of (by simp), fun q3 H12 s12 _ e12 => ?_⟩
          exact ⟨_, _, rfl, _, _, sm.trans s12, .inr (.inr (.inl ⟨n, by omega, by omega, rfl⟩)), rfl⟩
        · exact iteDF c ⟨y, v, sm, yi, rfl⟩
      rintro σ' H'' ⟨y, v, sm, yi, rfl⟩
      refine ⟨fun σ' H' => ∃ (y : List Nat) (v : V), Same H11 H' ∧ DayI y ∧ σ' = [some (.int cell), some (.bl mixed), some (.ref pd), some (.ref lt), some (.ref lm), some (.int (0 + (i : Nat))), some (.int sort), some (.int form), some (.int one), some (.int later), some (.int by_), some (.str (SX.S y)), some (.ref l), some v], ?_, ?_⟩
      · refine ⟨_, rfl, rfl, _, rfl, ?_⟩
        rw [iv]
        by_cases c : sort = 6
        · obtain ⟨n, hn⟩ : ∃ n : Nat, (n : Int) = 1 + one := ⟨(1 + one).toNat, Int.toNat_of_nonneg (by omega)⟩
          have nl := nm_len (n := n) (by omega)
          refine iteDT c ⟨_, rfl, _, _, rfl, rfl, _, rfl, log_ok (by omega) (by omega), ?_⟩
          rw [cs_W, str_nat (n := n) hn.symm]
          refine ⟨_, _, rfl, rfl, cat_ok (by simp only [List.length_cons, List.length_nil]; omega), ?_⟩
          rw [SX.S_cat]
          refine ⟨_, rfl, _, _, rfl, rfl, sl_of (by simp), fun q3 H12 s12 _ e12 => ?_⟩
          exact ⟨_, _, rfl, _, _, sm.trans s12, .inr (.inr (.inr (.inl ⟨n, by omega, by omega, rfl⟩))), rfl⟩
        · exact iteDF c ⟨y, v, sm, yi, rfl⟩
      rintro σ' H'' ⟨y, v, sm, yi, rfl⟩
      refine ⟨fun σ' H' => ∃ (y : List Nat) (v : V), Same H11 H' ∧ DayI y ∧ σ' = [some (.int cell), some (.bl mixed), some (.ref pd), some (.ref lt), some (.ref lm), some (.int (0 + (i : Nat))), some (.int sort), some (.int form), some (.int one), some (.int later), some (.int by_), some (.str (SX.S y)), some (.ref l), some v], ?_, ?_⟩
      · refine ⟨_, rfl, rfl, _, rfl, ?_⟩
        rw [iv]
        by_cases c : sort = 7
        · refine iteDT c ⟨sl_of (by simp), fun q3 H12 s12 _ e12 => ⟨sl_of (by simp), fun q4 H13 s13 _ e13 => ?_⟩⟩
          refine ⟨q4, _, rfl, .inl (.inl e13), rfl, _, _, rfl, _, _, rfl, rfl, [76, 87], .ref q3, sm.trans (s12.trans s13), .inr (.inr (.inr (.inr rfl))), ?_⟩
          rw [cs_LW]
          rfl
        · exact iteDF c ⟨y, v, sm, yi, rfl⟩
      rintro σ' H'' ⟨y, v, sm, yi, rfl⟩
      have sa := ((s8.trans s9).trans (s10.trans s11)).trans sm
      have elt := sa _ _ el
      have elm := sa _ _ em
      refine ⟨_, rfl, .inl ⟨rfl, _, .inl (.inl elt)⟩, _, rfl, lt, _, _, rfl, rfl, elt, by rw [List.length_map]; exact small1000 (by omega), ?_⟩
      have elm2 : upd H'' lt (.lst ((parts.map fun p => V.str (SX.S p)) ++ [.str (SX.S y)])) lm = some (.lst vs) := by rw [upd_ne ltlm.symm]; exact elm
      refine ⟨_, rfl, .inl ⟨rfl, _, .inl (.inl elm2)⟩, _, rfl, lm, _, _, rfl, rfl, elm2, small1000 (by omega), ?_⟩
      refine ⟨same_upd2 (same_upd2 (s'.trans sa) hlt0) hlm0, by rw [upd_ne pdlm, upd_ne pdlt]; exact sa _ _ ep, parts ++ [y], _, _, _, _, _, _, _, _, _, _, ?_, by rw [List.length_append, pl]; rfl, fun p hp => ?_, upd_same, by rw [List.length_append, vl]; rfl, rfl⟩
      · rw [upd_ne ltlm, upd_same, List.map_append]
        rfl
      · rcases List.mem_append.mp hp with hp | hp
        · exact pp p hp
        · rw [List.mem_singleton.mp hp]
          exact yi
    · rintro σ H' ⟨s', ep, parts, vs, v5, v6, v7, v8, v9, v10, v11, v12, v13, el, pl, pp, em, vl, rfl⟩
      have sm := sum_len (k := 8) (fun l hl => (DayI.ok hl).len) pp
      have star : ∀ q H2, Same H' H2 → H2 q = some (.tup [.str "*", .non]) → Q (.ref q) H2 := fun q H2 s2 e2 =>
        k q [42] .non H2 (s'.trans s2) (by rw [e2, cs_star]) ⟨[[42]], by simp, by simp, fun p hp => (by rw [List.mem_singleton.mp hp]; exact .inl (.bare (.star (by decide)))), rfl⟩
      refine ⟨_, rfl, pd, _, 0, _, rfl, rfl, .inl (.inl ep), at_of (j := 0) rfl (by rw [List.getElem?_map, hd0]; rfl), rfl, _, rfl, ?_⟩
      rw [iv]
      by_cases z : d0 = 0
      · exact iteDT z (iteT ⟨sl_of (by simp), fun q H2 s2 _ e2 => star q H2 s2 e2⟩)
      refine iteDF z ⟨_, rfl, sl_of (by simp), fun p5 H2 s2 _ e2 => ?_⟩
      refine ⟨_, _, .lst (.inl (.inl (s2 _ _ el))) (dp_strs parts), .lst (.inl (.inl e2)) (.cons (.str _) .nil), shaped_strs fun p hp => (pp p hp).low, by rw [cs_star]; exact shaped_strs (parts := [[42]]) (fun p hp c hc => by rw [List.mem_singleton.mp hp] at hc; simp at hc; omega), _, rfl, ?_⟩
      generalize PyData.eqv _ _ = b
      cases b with
      | true => exact iteT ⟨sl_of (by simp), fun q H3 s3 _ e3 => star q H3 (s2.trans s3) e3⟩
      | false =>
        refine iteF ⟨⟨_, rfl⟩, _, rfl, 44, lt, parts, congrArg V.str cs_comma, rfl, .inl (.inl (s2 _ _ el)), by omega, _, rfl, sl_of (by simp), fun q H3 s3 _ e3 => ?_⟩
        exact k q _ (.ref lm) H3 (s'.trans (s2.trans s3)) e3 ⟨parts, fun e => (by rw [e] at pl; simp only [List.length_nil] at pl; omega), by omega, pp, rfl⟩
end
end K58
set_option Elab.async false
set_option maxRecDepth 100000
set_option maxHeartbeats 4000000
set_option linter.all false
namespace K58
open PySem PySem.Spec PyProof.Rows L2
section
variable {P : Program} {w : World} {K : PySem.W.Frag} {mg : Str → Option Value} {base : Heap}
theorem sc__law_weekdays : FnScope ["_law_cell", "_law_mixed", "_law_number", "_law_drawn", "_law_texts", "_law_marks", "_law_k", "_law_sort", "_law_form", "_law_one", "_law_later", "_law_by", "_law_text", "_law_some", "_law_mark"] ["_law_cell", "_law_mixed"] (defScope s__law_weekdays) := C8.fnScope_by (by decide +kernel)
theorem ok__law_weekdays (T : Tx K mg) (c__law_digits : C8.Cal P w K mg base 2 "_law_digits" spDigits []) (c__law_item : C8.Cal P w K mg base 1 "_law_item" spLItem []) : C8.Cal P w K mg base 3 "_law_weekdays" (spLDays WkI) [] := by
  refine cal_of T.g__law_weekdays T.D__law_weekdays sc__law_weekdays (fun _ _ _ _ _ _ us hl => match us, hl with | [_, _], _ => rfl) (fun vs H Q E h => ?_) (fun cdv A outer s H vs Q E hr h => ?_)
  · obtain ⟨a, b, rfl, _⟩ := h
    rfl
  · obtain ⟨cell, mixed, rfl, k⟩ := h
    refine ⟨_, (pss_cons (ps_set (i := 3) sc__law_weekdays.nd rfl (Or.inl rfl) (C8.pe_c c__law_digits hr (by decide) rfl (pa_cons (pv 0) (pa_cons (pe_op op_catS (pe_lstS (pa_cons pe_int (pa_cons pe_int pa_nil))) (pe_op op_repS (pe_lstS (pa_cons pe_int (pa_cons pe_int (pa_cons pe_int (pa_cons pe_int (pa_cons pe_int pa_nil)))))) pe_int)) (pa_cons (pv 1) pa_nil)))))
      (pss_cons (ps_set (i := 4) sc__law_weekdays.nd rfl (Or.inl rfl) (pe_lstS pa_nil))
      (pss_cons (ps_set (i := 5) sc__law_weekdays.nd rfl (Or.inl rfl) (pe_lstS pa_nil))
      (pss_cons (ps_for PassesOwn.never rfl (pi_range1 rfl T.f_range (pa_cons (pe_op op_add pe_int (pe_ix ix_list (pv 3) pe_int (fun _ _ => rfl))) pa_nil)) (pg_name (i := 6) sc__law_weekdays.nd rfl (Or.inl rfl)) (pss_cons (ps_asg (pe_slice sl_listS (pv 3) (po_some (pe_op op_add pe_int (pe_op op_mul pe_int (pv 6)))) (po_some (pe_op op_add pe_int (pe_op op_mul pe_int (pv 6))))) (pg_lst rfl (pgs_cons (pg_name (i := 7) sc__law_weekdays.nd rfl (Or.inl rfl)) (pgs_cons (pg_name (i := 8) sc__law_weekdays.nd rfl (Or.inl rfl)) (pgs_cons (pg_name (i := 9) sc__law_weekdays.nd rfl (Or.inl rfl)) (pgs_cons (pg_name (i := 10) sc__law_weekdays.nd rfl (Or.inl rfl)) (pgs_cons (pg_name (i := 11) sc__law_weekdays.nd rfl (Or.inl rfl)) pgs_nil)))))))
      (pss_cons (ps_asg (C8.pe_c c__law_item hr (by decide) rfl (pa_cons (pe_lstS (pa_cons (pv 8) (pa_cons (pv 9) (pa_cons (pv 10) (pa_cons (pv 11) pa_nil))))) (pa_cons pe_int (pa_cons pe_int pa_nil)))) (pg_tup rfl (pgs_cons (pg_name (i := 12) sc__law_weekdays.nd rfl (Or.inl rfl)) (pgs_cons (pg_name (i := 13) sc__law_weekdays.nd rfl (Or.inl rfl)) pgs_nil))))
      (pss_cons (ps_set (i := 14) sc__law_weekdays.nd rfl (Or.inl rfl) (pe_tupS (pa_cons pe_str (pa_cons (pe_lc (own := [("_law_number", 2)]) (g := gName 2) rfl sc__law_weekdays.nd (pi_list (pv 13)) (blkOk_by (own := [("_law_number", 2)]) (N := ["_law_cell", "_law_mixed", "_law_number", "_law_drawn", "_law_texts", "_law_marks", "_law_k", "_law_sort", "_law_form", "_law_one", "_law_later", "_law_by", "_law_text", "_law_some", "_law_mark"]) (sc := defScope s__law_weekdays) (by decide +kernel)) (fun _ _ _ _ _ => pg_name (i := 2) sc__law_weekdays.nd rfl (Or.inl rfl)) (fun _ _ _ _ _ => pts_nil) (fun _ _ _ _ _ => (pe_op op_mod (pv 2) pe_int))) (pa_cons pe_int pa_nil)))))
      (C8.pss_cut (ps_if (pt_done (PW.pt (pw_or (pt_cmpR op_eq (pv 7) pe_int (nomark _)) (pw_or1 (pt_cmpR op_eq (pv 7) pe_int (nomark _)))))) (pss_one (ps_par (i := 12) (j := 14) (by rfl) sc__law_weekdays.nd rfl rfl (by decide) rfl rfl (pa_cons (pe_op op_add_str (pe_op op_add_str (pe_callTy call_str_int (by rfl) T.f_str (by decide +kernel) (pa_cons (pv 9) pa_nil)) pe_str) (pe_callTy call_str_int (by rfl) T.f_str (by decide +kernel) (pa_cons (pe_op op_add pe_int (pe_op op_mod (pv 10) pe_int)) pa_nil))) (pa_cons (pe_tupS (pa_cons pe_str (pa_cons (pe_op op_mod (pv 9) pe_int) (pa_cons (pe_op op_add pe_int (pe_op op_mod (pv 10) pe_int)) pa_nil)))) pa_nil)) (by rfl))) pss_nil)
      (C8.pss_cut (ps_if (pt_cmpR op_eq (pv 7) pe_int (nomark _)) (pss_one (ps_par (i := 12) (j := 14) (by rfl) sc__law_weekdays.nd rfl rfl (by decide) rfl rfl (pa_cons (pe_op op_add_str (pe_callTy call_str_int (by rfl) T.f_str (by decide +kernel) (pa_cons (pv 9) pa_nil)) pe_str) (pa_cons (pe_tupS (pa_cons pe_str (pa_cons (pe_op op_mod (pv 9) pe_int) (pa_cons pe_int pa_nil)))) pa_nil)) (by rfl))) pss_nil)
      (pss_cons (ps_expr (pe_bm PySem.F.plainAttrs_list PySem.F.slot_list_append PySem.F.type_list_append mt_append (pv 4) (pa_cons (pv 12) pa_nil)))
      (pss_one (ps_expr (pe_bm PySem.F.plainAttrs_list PySem.F.slot_list_append PySem.F.type_list_append mt_append (pv 5) (pa_cons (pv 14) pa_nil)))))))))))
      (pss_cons (ps_if (PW.pt (pw_or (pt_cmpR op_eq (pe_ix ix_list (pv 3) pe_int (fun _ _ => rfl)) pe_int (nomark _)) (pw_or1 (pt_cmpR (op_eqD hr.units) (pv 4) (pe_lstS (pa_cons pe_str pa_nil)) (nomark _))))) (pss_one (ps_ret (pe_tupS (pa_cons pe_str (pa_cons pe_non pa_nil))))) pss_nil)
      (pss_one (ps_ret (pe_tupS (pa_cons (pe_joinS pe_str (pv 4)) (pa_cons (pv 5) pa_nil)))))))))), ?_⟩
    refine ⟨_, rfl, sl_of (by simp), fun p1 H1 s1 hp1 e1 => ?_⟩
    refine ⟨sl_of (by simp), fun p2 H2 s2 hp2 e2 => ?_⟩
    refine ⟨p2, _, _, rfl, rfl, e2, by decide, by decide, by simp, fun p3 H3 s3 hp3 e3 => ?_⟩
    refine ⟨p1, p3, _, _, rfl, rfl, s3 _ _ (s2 _ _ e1), e3, by simp, fun p4 H4 s4 hp4 e4 => ?_⟩
    have e4' : H4 p4 = some (.lst (([3, 3, 6, 6, 8, 8, 99, 6, 6, 8, 8, 99, 6, 6, 8, 8, 99] : List Int).map V.int)) := e4
    have s04 : Same H H4 := ((s1.trans s2).trans s3).trans s4
    refine ⟨_, rfl, cell, p4, _, mixed, rfl, e4', ?_, by simp, fun pd ds H5 s5 hpd e5 dr => ?_⟩
    · simp only [List.mem_cons, List.not_mem_nil, or_false]
      intro z hz
      omega
    have s05 : Same H H5 := s04.trans s5
    have dl : ds.length = 17 := dr.1
    obtain ⟨d0, hd0⟩ : ∃ d0, ds[0]? = some d0 := ⟨_, List.getElem?_eq_getElem (by omega)⟩
    obtain ⟨d1, hd1⟩ : ∃ d1, ds[1]? = some d1 := ⟨_, List.getElem?_eq_getElem (by omega)⟩
    have d1b := dr.2 1 d1 3 hd1 rfl
    have dI : ∀ i d, i < 3 → ds[2 + 5 * i + 2]? = some d → 0 ≤ d ∧ d < 8 := fun i d hi hd => dr.2 _ d 8 hd (match i, hi with | 0, _ => rfl | 1, _ => rfl | 2, _ => rfl)
    refine ⟨Nat.zero_le _, fun lt H6 s6 hlt e6 => ?_⟩
    refine ⟨Nat.zero_le _, fun lm H7 s7 hlm e7 => ?_⟩
    have s07 : Same H H7 := (s05.trans s6).trans s7
    have hlt0 : H lt = none := s05.free hlt
    have hlm0 : H lm = none := (s05.trans s6).free hlm
    have e5p := (s6.trans s7) _ _ e5
    have pdlt : pd ≠ lt := ne_of_none e5 hlt
    have pdlm : pd ≠ lm := ne_of_none (s6 _ _ e5) hlm
    have ltlm : lt ≠ lm := ne_of_none e6 hlm
    refine ⟨_, rfl, pd, _, 1, _, rfl, rfl, .inl (.inl e5p), at_of (j := 1) rfl (by rw [List.getElem?_map, hd1]; rfl), _, _, rfl, rfl, _, rfl, ?_, ?_, ?_⟩
    · show -(2 ^ 62) ≤ 1 + d1
      omega
    · show 1 + d1 < 2 ^ 62
      omega
    refine for_range (lo := 0) (n := (1 + d1).toNat) (fun i σ H' => Same H H' ∧ H' pd = some (.lst (ds.map V.int)) ∧ ∃ (parts : List (List Nat)) (vs : List V) (v2 v5 v6 v7 v8 v9 v10 v11 v12 v13 : Option V), H' lt = some (.lst (parts.map fun p => V.str (SX.S p))) ∧ parts.length = i ∧ (∀ p ∈ parts, WkI p) ∧ H' lm = some (.lst vs) ∧ vs.length = i ∧
      σ = [some (.int cell), some (.bl mixed), v2, some (.ref pd), some (.ref lt), some (.ref lm), v5, v6, v7, v8, v9, v10, v11, v12, v13])
      ⟨s07, e5p, [], [], none, none, none, none, none, none, none, none, none, none, s7 _ _ e6, rfl, fun p hp => (by cases hp), e7, rfl, rfl⟩ ?_ ?_
    · rintro i σ H' hi ⟨s', ep, parts, vs, v2, v5, v6, v7, v8, v9, v10, v11, v12, v13, el, pl, pp, em, vl, rfl⟩
      obtain ⟨sort, form, one, later, by_, tk, _, _, k3, _⟩ := take5 (ds := ds) (a := 2 + 5 * i) (by omega)
      have ob := dI i one (by omega) k3
      refine ⟨_, rfl, _, rfl, _, _, rfl, rfl, .inl ⟨by decide, by decide⟩, _, _, rfl, rfl, _, rfl, ?_⟩
      refine ⟨_, rfl, _, _, rfl, rfl, .inl ⟨by decide, by decide⟩, _, _, rfl, rfl, _, rfl, ?_⟩
      refine ⟨pd, _, rfl, .inl (.inl ep), fun p5 H8 s8 hp5 e8 => ?_⟩
      rw [cut_ints (2 + 5 * i) 5 (by omega) (by omega) (by omega), tk] at e8
      refine ⟨p5, _, rfl, .inl (.inl e8), rfl, _, _, rfl, _, _, rfl, _, _, rfl, _, _, rfl, _, _, rfl, rfl, ?_⟩
      refine ⟨_, rfl, _, rfl, _, rfl, _, rfl, sl_of (by simp), fun p6 H9 s9 hp6 e9 => ?_⟩
      refine ⟨p6, form, one, later, by_, 0, 7, rfl, e9, by decide, by decide, fun q x l vs2 H10 s10 e10 hx hl el10 hi2 lv => ?_⟩
      refine ⟨q, _, rfl, .inl (.inl e10), rfl, _, _, rfl, _, _, rfl, rfl, ?_⟩
      refine ⟨_, rfl, l, rfl, ⟨_, .inl (.inl el10)⟩, fun D hD => ?_⟩
      refine lc_list (K := K) (a := l) (xs := vs2) (fun i H2 => Same H10 H2 ∧ ∃ ws, H2 D = some (.lst ws) ∧ ws.length = i) ⟨same_upd hD, [], upd_same, rfl⟩ (fun i H2 _ ⟨s2, _⟩ => .inl (.inl (s2 _ _ el10))) ?_ ?_
      · rintro j z H2 hj ⟨s2, ws, e2, wl⟩
        obtain ⟨zi, rfl⟩ := hi2 z (List.mem_of_getElem? hj)
        have jl := (List.getElem?_eq_some_iff.mp hj).1
        refine ⟨rfl, _, rfl, _, _, rfl, rfl, (by show (0 : Int) < 7; decide), ws, e2, small1000 (by omega), same_upd2 s2 hD, ws ++ [_], upd_same, by rw [List.length_append, wl]; rfl⟩
      rintro HD ⟨sD, wsD, eD, wlD⟩
      refine ⟨sl_of (by simp), fun q2 H11 s11' _ e11 => ?_⟩
      have s11 := sD.trans s11'
      refine ⟨fun σ' H' => ∃ (y : List Nat) (v : V), Same H11 H' ∧ WkI y ∧ σ' = [some (.int cell), some (.bl mixed), v2, some (.ref pd), some (.ref lt), some (.ref lm), some (.int (0 + (i : Nat))), some (.int sort), some (.int form), some (.int one), some (.int later), some (.int by_), some (.str (SX.S y)), some (.ref l), some v], ?_, ?_⟩
      · refine ⟨decide (sort = 3 ∨ sort = 4), H11, fun Q' q' => ?_, ?_⟩
        · refine ⟨_, rfl, rfl, _, rfl, ?_⟩
          rw [iv]
          by_cases c : sort = 3
          · rw [decide_eq_true (.inl c)] at q'
            exact iteDT c q'
          · refine iteDF c ⟨_, rfl, rfl, _, rfl, ?_⟩
            rw [iv]
            rw [show decide (sort = 3 ∨ sort = 4) = decide (sort = 4) by by_cases c4 : sort = 4 <;> simp [c, c4]] at q'
            exact q'
        by_cases c : sort = 3 ∨ sort = 4
        · have m0 := Int.emod_nonneg later (show (5 : Int) ≠ 0 by decide)
          have m1 := Int.emod_lt_of_pos later (show (0 : Int) < 5 by decide)
          obtain ⟨d, hd⟩ : ∃ n : Nat, (n : Int) = one := ⟨one.toNat, Int.toNat_of_nonneg (by omega)⟩
          obtain ⟨n, hn⟩ : ∃ n : Nat, (n : Int) = 1 + later % 5 := ⟨(1 + later % 5).toNat, Int.toNat_of_nonneg (by omega)⟩
          have dl' := nm_len (n := d) (by omega)
          have nl := nm_len (n := n) (by omega)
          refine iteDT c ⟨_, rfl, _, rfl, log_ok (by omega) (by omega), ?_⟩
          rw [str_nat (n := d) hd.symm]
          refine ⟨_, _, rfl, rfl, by rw [cs_hash]; exact cat_ok (by simp only [List.length_cons, List.length_nil]; omega), ?_⟩
          rw [cs_hash, SX.S_cat]
          refine ⟨_, rfl, _, _, rfl, rfl, (by show (0 : Int) < 5; decide), _, _, rfl, rfl, _, rfl, log_ok (by omega) (by omega), ?_⟩
          rw [str_nat (n := n) hn.symm]
          refine ⟨_, _, rfl, rfl, cat_ok (by simp only [List.length_append, List.length_cons, List.length_nil]; omega), ?_⟩
          rw [SX.S_cat]
          refine ⟨_, rfl, _, _, rfl, rfl, (by show (0 : Int) < 7; decide), _, rfl, _, _, rfl, rfl, (by show (0 : Int) < 5; decide), _, _, rfl, rfl, sl_of (by simp), fun q3 H12 s12 _ e12 => ?_⟩
          refine ⟨_, _, rfl, nm d ++ 35 :: nm n, .ref q3, s12, .inr (.inl ⟨d, n, by omega, by omega, by omega, rfl⟩), ?_⟩
          rw [show nm d ++ [35] ++ nm n = nm d ++ 35 :: nm n by rw [List.append_assoc]; rfl]
          rfl
        · exact iteDF c ⟨x, _, Same.refl _, .inl hx, rfl⟩
      rintro σ' H'' ⟨y, v, sm, yi, rfl⟩
      refine ⟨fun σ' H' => ∃ (y : List Nat) (v : V), Same H11 H' ∧ WkI y ∧ σ' = [some (.int cell), some (.bl mixed), v2, some (.ref pd), some (.ref lt), some (.ref lm), some (.int (0 + (i : Nat))), some (.int sort), some (.int form), some (.int one), some (.int later), some (.int by_), some (.str (SX.S y)), some (.ref l), some v], ?_, ?_⟩
      · refine ⟨_, rfl, rfl, _, rfl, ?_⟩
        rw [iv]
        by_cases c : sort = 5
        · obtain ⟨d, hd⟩ : ∃ n : Nat, (n : Int) = one := ⟨one.toNat, Int.toNat_of_nonneg (by omega)⟩
          have dl' := nm_len (n := d) (by omega)
          refine iteDT c ⟨_, rfl, _, rfl, log_ok (by omega) (by omega), ?_⟩
          rw [cs_L, str_nat (n := d) hd.symm]
          refine ⟨_, _, rfl, rfl, cat_ok (by simp only [List.length_cons, List.length_nil]; omega), ?_⟩
          rw [SX.S_cat]
          refine ⟨_, rfl, _, _, rfl, rfl, (by show (0 : Int) < 7; decide), sl_of (by simp), fun q3 H12 s12 _ e12 => ?_⟩
          exact ⟨_, _, rfl, _, .ref q3, sm.trans s12, .inr (.inr ⟨d, by omega, rfl⟩), rfl⟩
        · exact iteDF c ⟨y, v, sm, yi, rfl⟩
      rintro σ' H'' ⟨y, v, sm, yi, rfl⟩
      have sa := ((s8.trans s9).trans (s10.trans s11)).trans sm
      have elt := sa _ _ el
      have elm := sa _ _ em
      refine ⟨_, rfl, .inl ⟨rfl, _, .inl (.inl elt)⟩, _, rfl, lt, _, _, rfl, rfl, elt, by rw [List.length_map]; exact small1000 (by omega), ?_⟩
      have elm2 : upd H'' lt (.lst ((parts.map fun p => V.str (SX.S p)) ++ [.str (SX.S y)])) lm = some (.lst vs) := by rw [upd_ne ltlm.symm]; exact elm
      refine ⟨_, rfl, .inl ⟨rfl, _, .inl (.inl elm2)⟩, _, rfl, lm, _, _, rfl, rfl, elm2, small1000 (by omega), ?_⟩
      refine ⟨same_upd2 (same_upd2 (s'.trans sa) hlt0) hlm0, by rw [upd_ne pdlm, upd_ne pdlt]; exact sa _ _ ep, parts ++ [y], _, _, _, _, _, _, _, _, _, _, _, ?_, by rw [List.length_append, pl]; rfl, fun p hp => ?_, upd_same, by rw [List.length_append, vl]; rfl, rfl⟩
      · rw [upd_ne ltlm, upd_same, List.map_append]
        rfl
      · rcases List.mem_append.mp hp with hp | hp
        · exact pp p hp
        · rw [List.mem_singleton.mp hp]
          exact yi
    · rintro σ H' ⟨s', ep, parts, vs, v2, v5, v6, v7, v8, v9, v10, v11, v12, v13, el, pl, pp, em, vl, rfl⟩
      have sm := sum_len (k := 8) (fun l hl => (WkI.ok hl).len) pp
      have star : ∀ q H2, Same H' H2 → H2 q = some (.tup [.str "*", .non]) → Q (.ref q) H2 := fun q H2 s2 e2 =>
        k q [42] .non H2 (s'.trans s2) (by rw [e2, cs_star]) ⟨[[42]], by simp, by simp, fun p hp => (by rw [List.mem_singleton.mp hp]; exact .inl (.bare (.star (by decide)))), rfl⟩
      refine ⟨_, rfl, pd, _, 0, _, rfl, rfl, .inl (.inl ep), at_of (j := 0) rfl (by rw [List.getElem?_map, hd0]; rfl), rfl, _, rfl, ?_⟩
      rw [iv]
      by_cases z : d0 = 0
      · exact iteDT z (iteT ⟨sl_of (by simp), fun q H2 s2 _ e2 => star q H2 s2 e2⟩)
      refine iteDF z ⟨_, rfl, sl_of (by simp), fun p5 H2 s2 _ e2 => ?_⟩
      refine ⟨_, _, .lst (.inl (.inl (s2 _ _ el))) (dp_strs parts), .lst (.inl (.inl e2)) (.cons (.str _) .nil), shaped_strs fun p hp => (pp p hp).low, by rw [cs_star]; exact shaped_strs (parts := [[42]]) (fun p hp c hc => by rw [List.mem_singleton.mp hp] at hc; simp at hc; omega), _, rfl, ?_⟩
      generalize PyData.eqv _ _ = b
      cases b with
      | true => exact iteT ⟨sl_of (by simp), fun q H3 s3 _ e3 => star q H3 (s2.trans s3) e3⟩
      | false =>
        refine iteF ⟨⟨_, rfl⟩, _, rfl, 44, lt, parts, congrArg V.str cs_comma, rfl, .inl (.inl (s2 _ _ el)), by omega, _, rfl, sl_of (by simp), fun q H3 s3 _ e3 => ?_⟩
        exact k q _ (.ref lm) H3 (s'.trans (s2.trans s3)) e3 ⟨parts, fun e => (by rw [e] at pl; simp only [List.length_nil] at pl; omega), by omega, pp, rfl⟩
end
end K58
set_option Elab.async false
set_option maxRecDepth 100000
set_option maxHeartbeats 4000000
set_option linter.all false
namespace K58
open PySem PySem.Spec PyProof.Rows L2
def spLSpec : Sp := fun vs H Q _ => ∃ (p : Addr) (n0 n1 n2 n3 n4 : Int) (mixed : Bool), vs = [.ref p, .bl mixed] ∧ H p = some (.lst [.int n0, .int n1, .int n2, .int n3, .int n4]) ∧
  ∀ q x ws H', Same H H' → H' q = some (.tup (.str (SX.S x) :: ws)) → RowT x → Q (.ref q) H'
def spLStart : Sp := fun vs H Q _ => ∃ i : Int, vs = [.int i] ∧ -1000 ≤ i ∧ i ≤ 10000 ∧ ∀ j : Int, Q (.int j) H
def spLMoment : Sp := fun vs H Q _ => ∃ (cell : Int) (mixed : Bool), vs = [.int cell, .bl mixed] ∧ ∀ (j : Int) H', Same H H' → Q (.int j) H'
theorem FieldT.one {I : List Nat → Prop} {l : List Nat} (h : I l) : FieldT I l := ⟨[l], by simp, by simp, fun p hp => by rw [List.mem_singleton.mp hp]; exact h, rfl⟩
section
variable {P : Program} {w : World} {K : PySem.W.Frag} {mg : Str → Option Value} {base : Heap}
theorem sc__law_start : FnScope ["_law_year"] ["_law_year"] (defScope s__law_start) := C8.fnScope_by (by decide +kernel)
theorem ok__law_start (T : Tx K mg) : C8.Cal P w K mg base 1 "_law_start" spLStart [] := by
  refine cal_of T.g__law_start T.D__law_start sc__law_start (fun _ _ _ _ _ _ us hl => match us, hl with | [_], _ => rfl) (fun vs H Q E h => ?_) (fun cdv A outer s H vs Q E hr h => ?_)
  · obtain ⟨a, rfl, _⟩ := h
    rfl
  · obtain ⟨i, rfl, i0, i1, k⟩ := h
    refine ⟨_, (pss_one (ps_ret (pe_op op_add (pe_op op_sub (pe_op op_add (pe_op op_mul pe_int (pv 0)) (pe_op op_fdiv (pe_op op_add (pv 0) pe_int) pe_int)) (pe_op op_fdiv (pe_op op_add (pv 0) pe_int) pe_int)) (pe_op op_fdiv (pe_op op_add (pv 0) pe_int) pe_int)))), ?_⟩
    refine ⟨_, rfl, _, _, rfl, rfl, .inl ⟨by decide, by decide⟩, _, rfl, _, _, rfl, rfl, _, _, rfl, rfl, ⟨(by show (0 : Int) < 4; decide), (by show (4 : Int) < 1073741824; decide)⟩, _, _, rfl, rfl, ?_⟩
    refine ⟨_, rfl, _, _, rfl, rfl, _, _, rfl, rfl, ⟨(by show (0 : Int) < 100; decide), (by show (100 : Int) < 1073741824; decide)⟩, _, _, rfl, rfl, ?_⟩
    exact ⟨_, rfl, _, _, rfl, rfl, _, _, rfl, rfl, ⟨(by show (0 : Int) < 400; decide), (by show (400 : Int) < 1073741824; decide)⟩, _, _, rfl, rfl, k _⟩
theorem sc__law_moment : FnScope ["_law_cell", "_law_mixed", "_law_drawn", "_law_year", "_law_number"] ["_law_cell", "_law_mixed"] (defScope s__law_moment) := C8.fnScope_by (by decide +kernel)
theorem ok__law_moment (T : Tx K mg) (c__law_digits : C8.Cal P w K mg base 2 "_law_digits" spDigits []) (c__law_start : C8.Cal P w K mg base 1 "_law_start" spLStart []) : C8.Cal P w K mg base 3 "_law_moment" spLMoment [] := by
  refine cal_of T.g__law_moment T.D__law_moment sc__law_moment (fun _ _ _ _ _ _ us hl => match us, hl with | [_, _], _ => rfl) (fun vs H Q E h => ?_) (fun cdv A outer s H vs Q E hr h => ?_)
  · obtain ⟨a, b, rfl, _⟩ := h
    rfl
  · obtain ⟨cell, mixed, rfl, k⟩ := h
    refine ⟨_, (pss_cons (ps_set (i := 2) sc__law_moment.nd rfl (Or.inl rfl) (C8.pe_c c__law_digits hr (by decide) rfl (pa_cons (pv 0) (pa_cons (pe_lstS (pa_cons pe_int (pa_cons pe_int (pa_cons pe_int (pa_cons pe_int (pa_cons pe_int (pa_cons pe_int (pa_cons pe_int pa_nil)))))))) (pa_cons pe_bl pa_nil)))))
      (pss_cons (ps_if (pt_doneR (PW.pt (pw_or (PW.pt (pw_and (pt_not (pt_val (pv 1))) (pw_and1 (pt_cmpR op_ge (pe_callB call_abs (by rfl) T.f_abs (by decide +kernel) (pa_cons (pv 0) pa_nil)) (pe_op op_pow pe_int pe_int) (nomark _))))) (pw_or1 (pt_cmpR op_eq (pe_ix ix_list (pv 2) pe_int (fun _ _ => rfl)) pe_int (nomark _)))))) (pss_one (ps_ret (pe_op op_sub (pe_op op_mod (pv 0) (pe_op op_add (pe_op op_mul pe_int (pe_op op_pow pe_int pe_int)) pe_int)) (pe_op op_pow pe_int pe_int)))) pss_nil)
      (pss_cons (ps_set (i := 3) sc__law_moment.nd rfl (Or.inl rfl) (pe_op op_sub (pe_ix ix_list (pv 2) pe_int (fun _ _ => rfl)) pe_int))
      (pss_cons (ps_set (i := 4) sc__law_moment.nd rfl (Or.inl rfl) (pe_op op_sub (pe_op op_add (C8.pe_c c__law_start hr (by decide) rfl (pa_cons (pv 3) pa_nil)) (pe_ix ix_list (pe_lstS (pa_cons pe_int (pa_cons pe_int (pa_cons pe_int (pa_cons (pe_ix ix_list (pv 2) pe_int (fun _ _ => rfl)) pa_nil))))) (pe_ix ix_list (pv 2) pe_int (fun _ _ => rfl)) (fun _ _ => rfl))) (pe_ix ix_list (pv 2) pe_int (fun _ _ => rfl))))
      (pss_one (ps_ret (pe_op op_add (pe_op op_mul pe_int (pv 4)) (pe_ix ix_list (pe_lstS (pa_cons pe_int (pa_cons pe_int (pa_cons (pe_ix ix_list (pv 2) pe_int (fun _ _ => rfl)) pa_nil)))) (pe_ix ix_list (pv 2) pe_int (fun _ _ => rfl)) (fun _ _ => rfl))))))))), ?_⟩
    refine ⟨_, rfl, sl_of (by simp), fun p1 H1 s1 _ e1 => ?_⟩
    have e1' : H1 p1 = some (.lst (([2401, 4, 366, 3, 3, 1440, 8] : List Int).map V.int)) := e1
    refine ⟨cell, p1, _, true, rfl, e1', ?_, by simp, fun pd ds H2 s2 _ e2 dr => ?_⟩
    · simp only [List.mem_cons, List.not_mem_nil, or_false]
      intro z hz
      omega
    have s02 := s1.trans s2
    have dl : ds.length = 7 := dr.1
    have gt : ∀ (i : Nat) (z : Int), i < 7 → ([2401, 4, 366, 3, 3, 1440, 8] : List Int)[i]? = some z → ∃ d, ds[i]? = some d ∧ 0 ≤ d ∧ d < z := fun i z hi hz => by
      have q : ds[i]? = some ds[i] := List.getElem?_eq_getElem (by omega)
      exact ⟨_, q, dr.2 i _ z q hz⟩
    obtain ⟨d0, h0, b0⟩ := gt 0 2401 (by decide) rfl
    obtain ⟨d1, h1, b1⟩ := gt 1 4 (by decide) rfl
    obtain ⟨d2, h2, b2⟩ := gt 2 366 (by decide) rfl
    obtain ⟨d3, h3, b3⟩ := gt 3 3 (by decide) rfl
    obtain ⟨d4, h4, b4⟩ := gt 4 3 (by decide) rfl
    obtain ⟨d5, h5, b5⟩ := gt 5 1440 (by decide) rfl
    obtain ⟨d6, h6, b6⟩ := gt 6 8 (by decide) rfl
    have P2 : H2 pd = some (.lst (ds.map V.int)) := e2
    have ix : ∀ (i : Nat) (d : Int), ds[i]? = some d → atI (ds.map V.int) ((i : Nat) : Int) = some (.int d) := fun i d h => at_of (j := i) rfl (by rw [List.getElem?_map, h]; rfl)
    have pick : ∀ (es : List Int) (d : Int), 0 ≤ d → d < es.length → ∃ z, atI (es.map V.int) d = some (.int z) := fun es d q0 q1 => by
      have hl : d.toNat < es.length := by omega
      exact ⟨es[d.toNat], at_of (j := d.toNat) (by omega) (by rw [List.getElem?_map, List.getElem?_eq_getElem hl]; rfl)⟩
    obtain ⟨z1, hz1⟩ := pick [0, 59, 365, d2] d1 b1.1 b1.2
    obtain ⟨z2, hz2⟩ := pick [0, 1439, d5] d4 b4.1 b4.2
    refine ⟨(!mixed && decide ((10 : Int) ^ (18 : Int).toNat ≤ if cell < 0 then -cell else cell)) || decide (d6 = 0), (fun H' => H' = H2), fun Q' q' => ?_, fun H' e => ?_⟩
    · have q2 := q' H2 rfl
      refine ⟨_, rfl, mixed, rfl, ?_⟩
      cases mixed with
      | true =>
        refine iteF (iteF ⟨_, rfl, pd, _, 6, _, rfl, rfl, .inl (.inl P2), ix 6 _ h6, rfl, _, rfl, ?_⟩)
        rw [iv]
        exact q2
      | false =>
        refine iteT ⟨_, rfl, _, rfl, _, _, rfl, rfl, ⟨by decide, by decide, by decide⟩, _, _, rfl, rfl, _, rfl, ?_⟩
        by_cases c : (10 : Int) ^ (18 : Int).toNat ≤ if cell < 0 then -cell else cell
        · refine iteDT c ?_
          rw [decide_eq_true c] at q2
          exact q2
        · refine iteDF c ⟨_, rfl, pd, _, 6, _, rfl, rfl, .inl (.inl P2), ix 6 _ h6, rfl, _, rfl, ?_⟩
          rw [iv]
          rw [decide_eq_false c] at q2
          exact q2
    subst e
    generalize ((!mixed && decide ((10 : Int) ^ (18 : Int).toNat ≤ if cell < 0 then -cell else cell)) || decide (d6 = 0)) = b
    cases b with
    | true =>
      refine iteT ⟨_, rfl, _, _, rfl, rfl, ⟨by decide, by decide, by decide⟩, _, _, rfl, rfl, .inl ⟨by decide, by decide⟩, _, _, rfl, rfl, _, _, rfl, rfl, ?_, _, _, rfl, rfl, ⟨by decide, by decide, by decide⟩, _, _, rfl, rfl, k _ _ s02⟩
      show (0 : Int) < 2 * 10 ^ (58 : Int).toNat + 1
      decide +kernel
    | false =>
      refine iteF ⟨_, rfl, pd, _, 0, _, rfl, rfl, .inl (.inl P2), ix 0 _ h0, _, _, rfl, rfl, ?_⟩
      refine ⟨_, rfl, d0 - 400, rfl, by omega, by omega, fun j => ?_⟩
      refine ⟨_, rfl, pd, _, 2, _, rfl, rfl, .inl (.inl P2), ix 2 _ h2, sl_of (by simp), fun p3 H3 s3 _ e3 => ?_⟩
      have P3 := s3 _ _ P2
      refine ⟨_, rfl, pd, _, 1, _, rfl, rfl, .inl (.inl P3), ix 1 _ h1, p3, _, d1, .int z1, rfl, rfl, .inl (.inl e3), hz1, _, _, rfl, rfl, ?_⟩
      refine ⟨_, rfl, pd, _, 3, _, rfl, rfl, .inl (.inl P3), ix 3 _ h3, _, _, rfl, rfl, ?_⟩
      refine ⟨_, rfl, _, _, rfl, rfl, .inl ⟨by decide, by decide⟩, ?_⟩
      refine ⟨_, rfl, pd, _, 5, _, rfl, rfl, .inl (.inl P3), ix 5 _ h5, sl_of (by simp), fun p4 H4 s4 _ e4 => ?_⟩
      have P4 := s4 _ _ P3
      exact ⟨_, rfl, pd, _, 4, _, rfl, rfl, .inl (.inl P4), ix 4 _ h4, p4, _, d4, .int z2, rfl, rfl, .inl (.inl e4), hz2, _, _, rfl, rfl, k _ _ (s02.trans (s3.trans s4))⟩
theorem sc__law_spec : FnScope ["_law_cells", "_law_mixed", "_law_minutes", "_law_hours", "_law_days_here", "_law_months", "_law_weekdays_here", "_law_rare", "_law_text"] ["_law_cells", "_law_mixed"] (defScope s__law_spec) := C8.fnScope_by (by decide +kernel)
theorem ok__law_spec (T : Tx K mg) (c__law_digits : C8.Cal P w K mg base 2 "_law_digits" spDigits []) (c__law_numbers : C8.Cal P w K mg base 3 "_law_numbers" spLNumbers []) (c__law_days : C8.Cal P w K mg base 3 "_law_days" (spLDays DayI) []) (c__law_weekdays : C8.Cal P w K mg base 3 "_law_weekdays" (spLDays WkI) []) : C8.Cal P w K mg base 4 "_law_spec" spLSpec [] := by
  refine cal_of T.g__law_spec T.D__law_spec sc__law_spec (fun _ _ _ _ _ _ us hl => match us, hl with | [_, _], _ => rfl) (fun vs H Q E h => ?_) (fun cdv A outer s H vs Q E hr h => ?_)
  · obtain ⟨a, b, c, d, e, f, g, rfl, _⟩ := h
    rfl
  · obtain ⟨p, n0, n1, n2, n3, n4, mixed, rfl, hp, k⟩ := h
    refine ⟨_, (pss_cons (ps_set (i := 2) sc__law_spec.nd rfl (Or.inl rfl) (C8.pe_c c__law_numbers hr (by decide) rfl (pa_cons (pe_ix ix_list (pv 0) pe_int (fun _ _ => rfl)) (pa_cons pe_int (pa_cons pe_int (pa_cons (pv 1) pa_nil))))))
      (pss_cons (ps_set (i := 3) sc__law_spec.nd rfl (Or.inl rfl) (C8.pe_c c__law_numbers hr (by decide) rfl (pa_cons (pe_ix ix_list (pv 0) pe_int (fun _ _ => rfl)) (pa_cons pe_int (pa_cons pe_int (pa_cons (pv 1) pa_nil))))))
      (pss_cons (ps_set (i := 4) sc__law_spec.nd rfl (Or.inl rfl) (C8.pe_c c__law_days hr (by decide) rfl (pa_cons (pe_ix ix_list (pv 0) pe_int (fun _ _ => rfl)) (pa_cons (pv 1) pa_nil))))
      (pss_cons (ps_set (i := 5) sc__law_spec.nd rfl (Or.inl rfl) (C8.pe_c c__law_numbers hr (by decide) rfl (pa_cons (pe_ix ix_list (pv 0) pe_int (fun _ _ => rfl)) (pa_cons pe_int (pa_cons pe_int (pa_cons (pv 1) pa_nil))))))
      (pss_cons (ps_set (i := 6) sc__law_spec.nd rfl (Or.inl rfl) (C8.pe_c c__law_weekdays hr (by decide) rfl (pa_cons (pe_ix ix_list (pv 0) pe_int (fun _ _ => rfl)) (pa_cons (pv 1) pa_nil))))
      (pss_cons (ps_set (i := 7) sc__law_spec.nd rfl (Or.inl rfl) (C8.pe_c c__law_digits hr (by decide) rfl (pa_cons (pe_op op_add (pe_op op_fdiv (pe_ix ix_list (pv 0) pe_int (fun _ _ => rfl)) pe_int) pe_int) (pa_cons (pe_lstS (pa_cons pe_int (pa_cons pe_int (pa_cons pe_int pa_nil)))) (pa_cons pe_bl pa_nil)))))
      (C8.pss_cut (ps_if (pt_done (PW.pt (pw_and (pt_val (pv 1)) (pw_and1 (pt_cmpR op_eq (pe_ix ix_list (pv 7) pe_int (fun _ _ => rfl)) pe_int (nomark _)))))) (pss_cons (ps_set (i := 5) sc__law_spec.nd rfl (Or.inl rfl) (pe_tupS (pa_cons pe_str (pa_cons (pe_lstS (pa_cons pe_int pa_nil)) pa_nil))))
      (pss_cons (ps_set (i := 4) sc__law_spec.nd rfl (Or.inl rfl) (pe_tupS (pa_cons pe_str (pa_cons (pe_lstS (pa_cons (pe_tupS (pa_cons pe_str (pa_cons (pe_lstS (pa_cons pe_int pa_nil)) (pa_cons pe_int pa_nil)))) pa_nil)) pa_nil))))
      (pss_cons (ps_set (i := 6) sc__law_spec.nd rfl (Or.inl rfl) (pe_tupS (pa_cons pe_str (pa_cons pe_non pa_nil))))
      (pss_one (ps_if (pt_cmpR op_eq (pe_ix ix_list (pv 7) pe_int (fun _ _ => rfl)) pe_int (nomark _)) (pss_cons (ps_set (i := 4) sc__law_spec.nd rfl (Or.inl rfl) (pe_tupS (pa_cons pe_str (pa_cons pe_non pa_nil))))
      (pss_one (ps_set (i := 6) sc__law_spec.nd rfl (Or.inl rfl) (pe_tupS (pa_cons (pe_op op_add_str (pe_callTy call_str_int (by rfl) T.f_str (by decide +kernel) (pa_cons (pe_ix ix_list (pv 7) pe_int (fun _ _ => rfl)) pa_nil)) pe_str) (pa_cons (pe_lstS (pa_cons (pe_tupS (pa_cons pe_str (pa_cons (pe_op op_mod (pe_ix ix_list (pv 7) pe_int (fun _ _ => rfl)) pe_int) (pa_cons pe_int pa_nil)))) pa_nil)) pa_nil)))))) pss_nil))))) pss_nil)
      (pss_cons (ps_set (i := 8) sc__law_spec.nd rfl (Or.inl rfl) (pe_joinS pe_str (pe_lstS (pa_cons (pe_ix ix_tup (pv 2) pe_int (fun _ _ => rfl)) (pa_cons (pe_ix ix_tup (pv 3) pe_int (fun _ _ => rfl)) (pa_cons (pe_ix ix_tup (pv 4) pe_int (fun _ _ => rfl)) (pa_cons (pe_ix ix_tup (pv 5) pe_int (fun _ _ => rfl)) (pa_cons (pe_ix ix_tup (pv 6) pe_int (fun _ _ => rfl)) pa_nil))))))))
      (pss_one (ps_ret (pe_tupS (pa_cons (pv 8) (pa_cons (pe_ix ix_tup (pv 2) pe_int (fun _ _ => rfl)) (pa_cons (pe_ix ix_tup (pv 3) pe_int (fun _ _ => rfl)) (pa_cons (pe_ix ix_tup (pv 4) pe_int (fun _ _ => rfl)) (pa_cons (pe_ix ix_tup (pv 5) pe_int (fun _ _ => rfl)) (pa_cons (pe_ix ix_tup (pv 6) pe_int (fun _ _ => rfl)) pa_nil))))))))))))))))), ?_⟩
    refine ⟨_, rfl, p, _, 0, _, rfl, rfl, .inl (.inl hp), at_of (j := 0) rfl rfl, _, rfl, n0, 0, 59, mixed, rfl, by decide, by decide, fun q0 x0 v0 H1 s1 e0 f0 => ?_⟩
    refine ⟨_, rfl, p, _, 1, _, rfl, rfl, .inl (.inl (s1 _ _ hp)), at_of (j := 1) rfl rfl, _, rfl, n1, 0, 23, mixed, rfl, by decide, by decide, fun q1 x1 v1 H2 s2 e1 f1 => ?_⟩
    have s02 := s1.trans s2
    refine ⟨_, rfl, p, _, 2, _, rfl, rfl, .inl (.inl (s02 _ _ hp)), at_of (j := 2) rfl rfl, _, rfl, n2, mixed, rfl, fun q2 x2 v2 H3 s3 e2 f2 => ?_⟩
    have s03 := s02.trans s3
    refine ⟨_, rfl, p, _, 3, _, rfl, rfl, .inl (.inl (s03 _ _ hp)), at_of (j := 3) rfl rfl, _, rfl, n3, 1, 12, mixed, rfl, by decide, by decide, fun q3 x3 v3 H4 s4 e3 f3 => ?_⟩
    have s04 := s03.trans s4
    refine ⟨_, rfl, p, _, 4, _, rfl, rfl, .inl (.inl (s04 _ _ hp)), at_of (j := 4) rfl rfl, _, rfl, n4, mixed, rfl, fun q4 x4 v4 H5 s5 e4 f4 => ?_⟩
    have s05 := s04.trans s5
    refine ⟨_, rfl, p, _, 3, _, rfl, rfl, .inl (.inl (s05 _ _ hp)), at_of (j := 3) rfl rfl, _, _, rfl, rfl, ⟨(by show (0 : Int) < 2; decide), (by show (2 : Int) < 1073741824; decide)⟩, _, _, rfl, rfl, sl_of (by simp), fun p6 H6 s6 _ e6 => ?_⟩
    have e6' : H6 p6 = some (.lst (([12, 2, 8] : List Int).map V.int)) := e6
    refine ⟨_, p6, _, true, rfl, e6', ?_, by simp, fun pd ds H7 s7 _ e7 dr => ?_⟩
    · simp only [List.mem_cons, List.not_mem_nil, or_false]
      intro z hz
      omega
    have s07 := s05.trans (s6.trans s7)
    have dl : ds.length = 3 := dr.1
    obtain ⟨r0, g0⟩ : ∃ d, ds[0]? = some d := ⟨_, List.getElem?_eq_getElem (by omega)⟩
    obtain ⟨r1, g1⟩ : ∃ d, ds[1]? = some d := ⟨_, List.getElem?_eq_getElem (by omega)⟩
    obtain ⟨r2, g2⟩ : ∃ d, ds[2]? = some d := ⟨_, List.getElem?_eq_getElem (by omega)⟩
    have b2 := dr.2 2 r2 8 g2 rfl
    have s57 := s6.trans s7
    have ix : ∀ (i : Nat) (d : Int), ds[i]? = some d → atI (ds.map V.int) ((i : Nat) : Int) = some (.int d) := fun i d h => at_of (j := i) rfl (by rw [List.getElem?_map, h]; rfl)
    have e0' := ((s2.trans s3).trans (s4.trans s5)).trans s57 _ _ e0
    have e1' := (s3.trans (s4.trans s5)).trans s57 _ _ e1
    have e2' := (s4.trans s5).trans s57 _ _ e2
    have e3' := s5.trans s57 _ _ e3
    have e4' := s57 _ _ e4
    refine ⟨fun σ' H' => ∃ a2 a3 a4 y2 y3 y4 u2 u3 u4, Same H7 H' ∧ H' a2 = some (.tup [.str (SX.S y2), u2]) ∧ FieldT DayI y2 ∧ H' a3 = some (.tup [.str (SX.S y3), u3]) ∧ FieldT (Plain 1 12) y3 ∧ H' a4 = some (.tup [.str (SX.S y4), u4]) ∧ FieldT WkI y4 ∧
      σ' = [some (.ref p), some (.bl mixed), some (.ref q0), some (.ref q1), some (.ref a2), some (.ref a3), some (.ref a4), some (.ref pd), none], ?_, ?_⟩
    · refine ⟨(mixed && decide (r0 = 3)), H7, fun Q' q' => ?_, ?_⟩
      · refine ⟨_, rfl, mixed, rfl, ?_⟩
        cases mixed with
        | false => exact iteF q'
        | true =>
          refine iteT ⟨_, rfl, pd, _, 0, _, rfl, rfl, .inl (.inl e7), ix 0 _ g0, rfl, _, rfl, ?_⟩
          rw [iv]
          exact q'
      generalize (mixed && decide (r0 = 3)) = b
      cases b with
      | false => exact iteF ⟨q2, q3, q4, x2, x3, x4, v2, v3, v4, Same.refl _, e2', f2, e3', f3, e4', f4, rfl⟩
      | true =>
        have n2 : FieldT (Plain 1 12) [50] := .one (.bare (show Body 1 12 (nm 2) 2 2 from .one (by decide) (by decide)))
        have n29 : FieldT DayI [50, 57] := .one (.inl (.bare (show Body 1 31 (nm 29) 29 29 from .one (by decide) (by decide))))
        have n42 : FieldT WkI [42] := .one (.inl (.bare (.star (by decide))))
        have d42 : FieldT DayI [42] := .one (.inl (.bare (.star (by decide))))
        refine iteT ⟨sl_of (by simp), fun l1 H8 s8 _ _ => ⟨sl_of (by simp), fun a3 H9 s9 _ E3 => ?_⟩⟩
        refine ⟨sl_of (by simp), fun l2 H10 s10 _ _ => ⟨sl_of (by simp), fun l3 H11 s11 _ _ => ⟨sl_of (by simp), fun l4 H12 s12 _ _ => ⟨sl_of (by simp), fun a2 H13 s13 _ E2 => ?_⟩⟩⟩⟩
        refine ⟨sl_of (by simp), fun a4 H14 s14 _ E4 => ?_⟩
        have t3 := (s10.trans s11).trans ((s12.trans s13).trans s14)
        have t7 := (s8.trans s9).trans t3
        rw [cs_2] at E3
        rw [cs_29] at E2
        rw [cs_star] at E4
        refine ⟨_, rfl, pd, _, 1, _, rfl, rfl, .inl (.inl (t7 _ _ e7)), ix 1 _ g1, rfl, _, rfl, ?_⟩
        rw [iv]
        by_cases c : r1 = 1
        · refine iteDT c ⟨sl_of (by simp), fun a5 H15 s15 _ E5 => ?_⟩
          have P5 := (t7.trans s15) _ _ e7
          obtain ⟨n, hn⟩ : ∃ n : Nat, (n : Int) = r2 := ⟨r2.toNat, Int.toNat_of_nonneg b2.1⟩
          have nl := nm_len (n := n) (by omega)
          rw [cs_star] at E5
          refine ⟨_, rfl, pd, _, 2, _, rfl, rfl, .inl (.inl P5), ix 2 _ g2, _, rfl, log_ok (by omega) (by omega), ?_⟩
          rw [str_nat (n := n) hn.symm]
          refine ⟨_, _, rfl, rfl, by rw [cs_h5]; exact cat_ok (by simp only [List.length_cons, List.length_nil]; omega), ?_⟩
          rw [cs_h5, SX.S_cat]
          refine ⟨_, rfl, pd, _, 2, _, rfl, rfl, .inl (.inl P5), ix 2 _ g2, _, _, rfl, rfl, (by show (0 : Int) < 7; decide), sl_of (by simp), fun l5 H16 s16 _ _ => ⟨sl_of (by simp), fun l6 H17 s17 _ _ => ⟨sl_of (by simp), fun a6 H18 s18 _ E6 => ?_⟩⟩⟩
          have t5 := (s16.trans s17).trans s18
          exact ⟨a5, a3, a6, _, _, _, _, _, _, t7.trans (s15.trans t5), t5 _ _ E5, d42, (t3.trans (s15.trans t5)) _ _ E3, n2, E6, .one (.inr (.inl ⟨n, 5, by omega, by decide, by decide, rfl⟩)), rfl⟩
        · exact iteDF c ⟨a2, a3, a4, _, _, _, _, _, _, t7, s14 _ _ E2, n29, t3 _ _ E3, n2, E4, n42, rfl⟩
    rintro σ' H' ⟨a2, a3, a4, y2, y3, y4, u2, u3, u4, s8, e2, f2, e3, f3, e4, f4, rfl⟩
    have z0 := s8 _ _ e0'
    have z1 := s8 _ _ e1'
    have o0 := fun l (h : Plain 0 59 l) => h.ok (by decide)
    have o1 := fun l (h : Plain 0 23 l) => h.ok (by decide)
    have o3 := fun l (h : Plain 1 12 l) => h.ok (by decide)
    have m0 := f0.len o0
    have m1 := f1.len o1
    have m2 := f2.len fun l h => h.ok
    have m3 := f3.len o3
    have m4 := f4.len fun l h => h.ok
    refine ⟨⟨_, rfl⟩, _, rfl, q0, _, 0, _, rfl, rfl, .inl (.inl z0), rfl, _, rfl, q1, _, 0, _, rfl, rfl, .inl (.inl z1), rfl, _, rfl, a2, _, 0, _, rfl, rfl, .inl (.inl e2), rfl, _, rfl, a3, _, 0, _, rfl, rfl, .inl (.inl e3), rfl, _, rfl, a4, _, 0, _, rfl, rfl, .inl (.inl e4), rfl, sl_of (by simp), fun l H9 s9 _ e9 => ?_⟩
    refine ⟨32, l, [x0, x1, y2, y3, y4], congrArg V.str cs_blank, rfl, .inl (.inl e9), by simp only [List.map_cons, List.map_nil, List.sum_cons, List.sum_nil, List.length_cons, List.length_nil]; omega, ?_⟩
    refine ⟨_, rfl, _, rfl, q0, _, 1, _, rfl, rfl, .inl (.inl (s9 _ _ z0)), rfl, _, rfl, q1, _, 1, _, rfl, rfl, .inl (.inl (s9 _ _ z1)), rfl, _, rfl, a2, _, 1, _, rfl, rfl, .inl (.inl (s9 _ _ e2)), rfl, _, rfl, a3, _, 1, _, rfl, rfl, .inl (.inl (s9 _ _ e3)), rfl, _, rfl, a4, _, 1, _, rfl, rfl, .inl (.inl (s9 _ _ e4)), rfl, sl_of (by simp), fun q H10 s10 _ e10 => ?_⟩
    exact k q _ _ H10 (s07.trans (s8.trans (s9.trans s10))) e10 ⟨x0, x1, y2, y3, y4, f0, f1, f2, f3, f4, rfl⟩
end
end K58
set_option Elab.async false
set_option maxRecDepth 100000
set_option maxHeartbeats 4000000
set_option linter.all false
namespace K58
open PySem PySem.Spec PyProof.Rows L2
def spLaw (K : PySem.W.Frag) : Sp := fun vs H Q _ => ∃ (a : Addr) (ns : List Int), vs = [.ref a] ∧ SqL K H a (ns.map V.int) ∧ ns.length ≤ 63 ∧ ∀ H', Q (.bl true) H'
section
variable {P : Program} {w : World} {K : PySem.W.Frag} {mg : Str → Option Value} {base : Heap}
theorem fn_of {nm qual : Str} {st : Stmt} {f : Addr} {fd : FuncData} {N ps : List Str} {k : Nat} {sp : Sp} (F : FunD K nm qual (defArgs st) (defBody st) (defScope st) [] [] f fd) (S : FnScope N ps (defScope st))
    (len : ∀ vs H Q E, sp vs H Q E → vs.length = ps.length)
    (hbody : ∀ (cdv : Value) (A : Around) (outer : List Env) (s : Shared) (H : Hp) (vs : List V) (Q : VK) (E : XK), Room k (A.deeper (envOfC qual (defScope st) s.heap.objs.size f cdv)) → sp vs H Q E →
      ∃ t, PSs (cxOf C8.CX0 P w K mg base N qual (defScope st) f cdv A outer s H E).nox (defBody st) t ∧ t { nx := fun _ H' => Q .non H', rt := Q } (start N vs) H) : FnOk P w K mg base C8.CX0 (k + 1) f fd ps sp :=
  F.ok S len fun cdv A outer s H vs Q E hr h => by
    obtain ⟨t, h1, h2⟩ := hbody cdv A outer s H vs Q E hr h
    exact ⟨t, h1.nox, h2⟩
theorem sc_law : FnScope ["_law_script", "_law_j", "_law_mixed", "_law_k", "_law_cells", "_law_spec_here", "_law_moment_here"] ["_law_script"] (defScope s_law) := C8.fnScope_by (by decide +kernel)
theorem ok_law (T : Tx K mg) {f : Addr} {fd : FuncData} (F : FunD K "law" "law" (defArgs s_law) (defBody s_law) (defScope s_law) [] [] f fd) (c__law_cell_at : C8.Cal P w K mg base 1 "_law_cell_at" (spCell K) []) (c__law_spec : C8.Cal P w K mg base 4 "_law_spec" spLSpec []) (c__law_moment : C8.Cal P w K mg base 3 "_law_moment" spLMoment []) (c_read_row : C8.Cal P w K mg base 10 "read_row" (spReadRow K) []) (c__law_right : C8.Cal P w K mg base 11 "_law_right" (spRight K) []) : FnOk P w K mg base C8.CX0 12 f fd ["_law_script"] (spLaw K) := by
  refine fn_of F sc_law (fun vs H Q E h => ?_) (fun cdv A outer s H vs Q E hr h => ?_)
  · obtain ⟨a, ns, rfl, _⟩ := h
    rfl
  · obtain ⟨a, ns, rfl, ha, nl, k⟩ := h
    refine ⟨_, (pss_cons (ps_set (i := 2) sc_law.nd rfl (Or.inl rfl) (pe_cmpR op_eq (pe_op op_mod (C8.pe_c c__law_cell_at hr (by decide) rfl (pa_cons (pv 0) (pa_cons pe_int pa_nil))) pe_int) pe_int (nomark _)))
      (pss_cons (ps_for PassesOwn.never rfl (pi_range1 rfl T.f_range (pa_cons pe_int pa_nil)) (pg_name (i := 3) sc_law.nd rfl (Or.inr rfl)) (pss_cons (ps_setLc (i := 4) (own := [("_law_j", 1)]) (g := gName 1) rfl sc_law.nd rfl rfl (sw_true rfl rfl rfl (by decide +kernel)) (pi_range1 rfl T.f_range (pa_cons pe_int pa_nil)) (blkOk_by (own := [("_law_j", 1)]) (N := ["_law_script", "_law_j", "_law_mixed", "_law_k", "_law_cells", "_law_spec_here", "_law_moment_here"]) (sc := defScope s_law) (by decide +kernel)) (fun _ _ _ _ _ => pg_name (i := 1) sc_law.nd rfl (Or.inl rfl)) (fun _ _ _ _ _ => pts_nil) (fun _ _ _ _ _ => (C8.pe_c c__law_cell_at hr (by decide) rfl (pa_cons (pv 0) (pa_cons (pe_op op_add (pe_op op_add pe_int (pe_op op_mul pe_int (pv 3))) (pv 1)) pa_nil)))))
      (pss_cons (ps_set (i := 5) sc_law.nd rfl (Or.inl rfl) (C8.pe_c c__law_spec hr (by decide) rfl (pa_cons (pe_slice sl_listS (pv 4) po_none (po_some pe_int)) (pa_cons (pv 2) pa_nil))))
      (pss_cons (ps_set (i := 6) sc_law.nd rfl (Or.inl rfl) (C8.pe_c c__law_moment hr (by decide) rfl (pa_cons (pe_ix ix_list (pv 4) pe_int (fun _ _ => rfl)) (pa_cons (pv 2) pa_nil))))
      (pss_one (ps_if (pt_not (pt_val (C8.pe_c c__law_right hr (by decide) rfl (pa_cons (C8.pe_c c_read_row hr (by decide) rfl (pa_cons (pe_ix ix_tup (pv 5) pe_int (fun _ _ => rfl)) pa_nil)) (pa_cons (pv 6) (pa_cons (pe_ix ix_list (pv 4) pe_int (fun _ _ => rfl)) (pa_cons (pe_ix ix_list (pv 4) pe_int (fun _ _ => rfl)) pa_nil))))))) (pss_one (ps_ret pe_bl)) pss_nil))))))
      (pss_one (ps_ret pe_bl)))), ?_⟩
    refine ⟨_, rfl, a, ns, 0, rfl, ha, by decide, by decide, by omega, fun m => ?_⟩
    refine ⟨_, _, rfl, rfl, (by show (0 : Int) < 2; decide), rfl, ?_⟩
    refine ⟨2, rfl, by decide, by decide, ?_⟩
    refine for_range (lo := 0) (n := 2) (fun i σ H' => Same H H' ∧ ∃ v1 v3 v4 v5 v6 : Option V, σ = [some (.ref a), v1, some (.bl (decide (V.int (m % 2) = V.int 1))), v3, v4, v5, v6]) ⟨Same.refl _, none, none, none, none, none, rfl⟩ ?_ ?_
    · rintro i σ H' hi ⟨s', v1, v3, v4, v5, v6, rfl⟩
      refine ⟨8, rfl, by decide, by decide, fun D hD => ?_⟩
      refine lc_range (lo := 0) (n := 8) (fun j H2 => Same H' H2 ∧ ∃ cs : List Int, H2 D = some (.lst (cs.map V.int)) ∧ cs.length = j) ⟨same_upd hD, [], upd_same, rfl⟩ ?_ ?_
      · rintro j H2 hj ⟨s2, cs, e2, cl⟩
        refine ⟨rfl, ?_⟩
        refine ⟨_, rfl, _, rfl, _, _, rfl, rfl, .inl ⟨by decide, by decide⟩, _, _, rfl, rfl, _, rfl, _, _, rfl, rfl, a, ns, 1 + 8 * (0 + (i : Nat)) + (0 + (j : Nat)), rfl, SqL.ext ha (s'.trans s2), by omega, by omega, by omega, fun z => ⟨_, e2, by rw [List.length_map]; exact small1000 (by omega), same_upd2 s2 hD, cs ++ [z], ?_, by rw [List.length_append, cl]; rfl⟩⟩
        rw [upd_same, List.map_append]
        rfl
      rintro H2 ⟨s2, cs, e2, cl⟩
      match cs, cl with
      | [c0, c1, c2, c3, c4, c5, c6, c7], _ =>
        refine ⟨_, rfl, _, rfl, D, _, rfl, .inl (.inl e2), fun p H3 s3 _ e3 => ?_⟩
        refine ⟨_, rfl, p, c0, c1, c2, c3, c4, _, rfl, e3, fun q x ws H4 s4 e4 rt => ?_⟩
        have e24 := (s3.trans s4) _ _ e2
        refine ⟨_, rfl, D, _, 5, _, rfl, rfl, .inl (.inl e24), at_of (j := 5) rfl rfl, _, rfl, c5, _, rfl, fun t H5 s5 => ?_⟩
        refine ⟨_, rfl, q, _, 0, _, rfl, rfl, .inl (.inl (s5 _ _ e4)), at_of (j := 0) rfl rfl, x, rfl, rt, fun p2 d H6 s6 hrow => ?_⟩
        have e26 := (s5.trans s6) _ _ e24
        refine ⟨_, rfl, _, rfl, D, _, 6, _, rfl, rfl, .inl (.inl e26), at_of (j := 6) rfl rfl, _, rfl, D, _, 7, _, rfl, rfl, .inl (.inl e26), at_of (j := 7) rfl rfl, p2, d, t, c6, c7, rfl, hrow, fun H7 s7 => ⟨true, rfl, ?_⟩⟩
        exact iteF ⟨s'.trans ((s2.trans s3).trans ((s4.trans s5).trans (s6.trans s7))), _, _, _, _, _, rfl⟩
    · rintro σ H' ⟨s', v1, v3, v4, v5, v6, rfl⟩
      exact k H'
end
end K58
set_option Elab.async false
set_option maxRecDepth 100000
set_option maxHeartbeats 0
set_option linter.all false
namespace K58
open PySem PySem.W PySem.Calls PySem.Spec PyProof.Rows L2
def names0 : List PySem.Str := ["_wall", "__name__", "FieldError", "NoDay", "NoField", "NoRow", "FIGURES_wholes", "is_whole", "only_figures", "LASTS", "ROUND_YEARS", "ROUND_DAYS", "is_long", "days_before", "last_of", "day_of", "date_of", "weekday", "DAY", "HOUR", "parted", "LONG", "SHORT_YEAR", "kind_of", "month_at", "MOST_DAYS", "is_in", "month_open", "is_shut_day", "day_open"]
def names1 : List PySem.Str := ["hour_open", "minute_open", "open_again", "MANY_KINDS", "never", "run_end", "runs_to", "next_from", "greatest_in", "last_in_month", "held_back", "last_to", "ranges_of", "shown_range", "shown_ranges", "MOST_SIGNS_fields", "MOST_ITEMS_fields", "MOST_STRIDE", "mask_of", "numbers_in", "number_in", "number_in_fields", "span_in", "item_mask", "read_field", "FIGURES_marks", "MOST_SIGNS_marks", "MOST_ITEMS_marks", "MOST_MARKS", "SUNDAY"]
def names2 : List PySem.Str := ["SATURDAY", "weekday_in", "Mark", "Numbers", "Last", "Near", "LastWork", "Weekdays", "Nth", "LastOne", "any_days", "number_in_marks", "day_mark", "weekday_mark", "items_of", "plain_item", "read_items", "read_days", "read_weekdays", "MOST_SIGNS_rows", "HOURS", "MINUTES", "Row", "words_of", "field_at", "read_row", "_law_cell_at", "_law_stir", "_law_digits", "_law_item"]
def names3 : List PySem.Str := ["_law_numbers", "_law_days", "_law_weekdays", "_law_spec", "_law_start", "_law_moment", "_law_between", "_law_right"]
def names : List PySem.Str := names0 ++ names1 ++ names2 ++ names3
abbrev R : PySem.W.OpenRow := PySem.W.OpenLaw.row PySem.Challenge.rw_fivefields_k58_whole_none_between
/-! the part of the heap that the facts speak of: the module's names, the functions' code and defaults, the classes' own names and their methods -/
def refsM : Obj → List Addr := fun o => match o.data with
  | .func fd => He.refV fd.code ++ He.refV fd.defaults
  | .cls cd => [cd.ns]
  | .dict es _ => es.toList.flatMap fun e => He.refV e.val
  | _ => []
def stepM (g : Addr → Option Obj) (as : List Addr) : List Addr := as.flatMap fun a => match g a with
  | some o => refsM o
  | none => []
/-- a list handed on with its cells laid out -/
def frL {α β : Type} : List α → (List α → β) → β
  | [], k => k []
  | a :: r, k => frL r fun r' => k (a :: r')
theorem frL_eq {α β : Type} : ∀ (l : List α) (k : List α → β), frL l k = k l
  | [], _ => rfl
  | a :: r, k => frL_eq r fun r' => k (a :: r')
def asM {β : Type} (g : Addr → Option Obj) (k : List Addr → β) : β :=
  frL (stepM g [mainGlobals]) fun l1 => frL (stepM g l1) fun l2 => frL (stepM g l2) fun l3 => frL (stepM g l3) fun l4 => k (mainGlobals :: (l1 ++ (l2 ++ (l3 ++ l4))))
def asMl (g : Addr → Option Obj) : List Addr := mainGlobals :: (stepM g [mainGlobals] ++ (stepM g (stepM g [mainGlobals]) ++ (stepM g (stepM g (stepM g [mainGlobals])) ++ stepM g (stepM g (stepM g (stepM g [mainGlobals]))))))
theorem asM_eq {β : Type} (g : Addr → Option Obj) (k : List Addr → β) : asM g k = k (asMl g) := by
  unfold asM
  rw [frL_eq, frL_eq, frL_eq, frL_eq]
  rfl
def obsL (g : Addr → Option Obj) : Bool × He.AlD := asM g fun as => frL (He.frG g as) fun K => obsK K
def hk : PySem.W.Hook where
  α := Bool × He.AlD
  obs := fun s => obsL s.heap.get?
  val := fun _ => (true, He.valD fn)
  says := fun _ h => ∃ K : PySem.W.Frag, K.In h ∧ says K
  of := fun _ s e => by
    have e1 : obsL s.heap.get? = (true, He.valD fn) := e
    unfold obsL at e1
    rw [asM_eq, frL_eq] at e1
    exact ⟨_, He.frG_in, e1⟩
  keeps := fun _ _ _ ⟨K, hK, c⟩ k => ⟨K, PySem.W.Frag.In.keeps hK k, c⟩
def ob (s : PySem.W.SharedT) : Bool × He.AlD := obsL (HandSHeadRun.getT s)
theorem ob_eq (s : PySem.W.SharedT) : ob s = hk.obs s.abs := by
  have e : HandSHeadRun.getT s = s.abs.heap.get? := funext (HandSHeadRun.getT_eq s)
  show obsL (HandSHeadRun.getT s) = obsL s.abs.heap.get?
  rw [e]
noncomputable def endE (w : World) (os : OsState) := HandSHeadRun.endF (HandSHeadRun.stepQ (HandSHeadRun.denQ HandSHeadRun.tabQ) R.prog w) 12000 R.prog w os
abbrev qv : Program := PySem.W.view R.prog [110]
theorem run1 (w : World) (os : OsState) : (endE w os).map (fun s => (HandSHeadRun.looksF R.prog (PySem.W.boot_heap w.params) s.abs, HandSHeadRun.seenQ qv names (importedModules R.prog.main.body) (fun s => PySem.W.xlAt qv [] s && PySem.W.recOk R.toRowW.records s) s.abs)) = some (true, PySem.W.openGood qv names) := by kernel_rfl
theorem run2 (w : World) (os : OsState) : (endE w os).map ob = some (true, He.valD fn) := by kernel_rfl
theorem run (w : World) : HandSHeadRun.RunEq R qv hk ob 12000 names w := by
  intro os
  obtain ⟨s, h1, h2⟩ := Option.map_eq_some_iff.mp (run1 w os)
  obtain ⟨s', h3, h4⟩ := Option.map_eq_some_iff.mp (run2 w os)
  have e : s' = s := Option.some.inj (h3.symm.trans h1)
  rw [e] at h4
  obtain ⟨a, b⟩ := Prod.mk.inj h2
  show (endE w os).map _ = _
  rw [h1]
  show some (_, _, ob s) = _
  rw [a, b, h4]
  rfl
end K58
set_option Elab.async false
set_option maxRecDepth 100000
set_option maxHeartbeats 4000000
set_option linter.all false
namespace K58
open PySem PySem.Spec PyProof.Rows L2
theorem all_ok {P : Program} {w : World} {K : PySem.W.Frag} {mg : Str → Option Value} {base : Heap} (T : Tx K mg) {f : Addr} {fd : FuncData} (F : FunD K "law" "law" (defArgs s_law) (defBody s_law) (defScope s_law) [] [] f fd) : FnOk P w K mg base C8.CX0 12 f fd ["_law_script"] (spLaw K) := by
  have c_is_whole := ok_is_whole (P := P) (w := w) (base := base) T
  have c_is_long := ok_is_long (P := P) (w := w) (base := base) T
  have c_days_before := ok_days_before (P := P) (w := w) (base := base) T
  have c_last_of := ok_last_of (P := P) (w := w) (base := base) T c_is_long
  have c_weekday := ok_weekday (P := P) (w := w) (base := base) T
  have c_parted := ok_parted (P := P) (w := w) (base := base) T
  have c_is_in := ok_is_in (P := P) (w := w) (base := base) T
  have c_day_of := ok_day_of (P := P) (w := w) (base := base) T c_is_whole c_last_of c_days_before
  have c_date_of := ok_date_of (P := P) (w := w) (base := base) T c_last_of c_days_before
  have c_kind_of := ok_kind_of (P := P) (w := w) (base := base) T c_is_long c_weekday c_day_of
  have c_month_at := ok_month_at (P := P) (w := w) (base := base) T c_last_of
  have c_weekday_in := ok_weekday_in (P := P) (w := w) (base := base) T
  have cM := fun m : Mk => cM_of (P := P) (w := w) (base := base) T c_weekday_in m
  have c_any_days := ok_any_days (P := P) (w := w) (base := base) T cM
  have c_Row_minutes := ok_Row_minutes (P := P) (w := w) (base := base) T
  have c_Row_hours := ok_Row_hours (P := P) (w := w) (base := base) T
  have c_Row_months := ok_Row_months (P := P) (w := w) (base := base) T
  have c_numbers_in := ok_numbers_in (P := P) (w := w) (base := base) T
  have c_Row_times := ok_Row_times (P := P) (w := w) (base := base) T c_numbers_in
  have c_Row_days_in := ok_Row_days_in (P := P) (w := w) (base := base) T c_month_at c_any_days
  have c_Row_shut_by := ok_Row_shut_by (P := P) (w := w) (base := base) T c_parted c_date_of c_kind_of c_Row_days_in
  have c_Row_holds := ok_Row_holds (P := P) (w := w) (base := base) T c_Row_shut_by
  have c_is_shut_day := ok_is_shut_day (P := P) (w := w) (base := base) T c_date_of c_is_in c_kind_of c_Row_months c_Row_days_in
  have c_month_open := ok_month_open (P := P) (w := w) (base := base) T c_parted c_date_of c_is_in c_day_of c_Row_months
  have c_day_open := ok_day_open (P := P) (w := w) (base := base) T c_parted c_is_shut_day
  have c_hour_open := ok_hour_open (P := P) (w := w) (base := base) T c_parted c_is_in c_Row_hours
  have c_minute_open := ok_minute_open (P := P) (w := w) (base := base) T c_parted c_is_in c_Row_minutes
  have c_open_again := ok_open_again (P := P) (w := w) (base := base) T c_month_open c_day_open c_hour_open c_minute_open
  have c_never := ok_never (P := P) (w := w) (base := base) T c_Row_days_in
  have c_run_end := ok_run_end (P := P) (w := w) (base := base) T c_open_again c_parted c_Row_shut_by
  have c_runs_to := ok_runs_to (P := P) (w := w) (base := base) T c_run_end c_Row_shut_by
  have c_next_from := ok_next_from (P := P) (w := w) (base := base) T c_never c_run_end c_Row_shut_by
  have c_greatest_in := ok_greatest_in (P := P) (w := w) (base := base) T c_is_in
  have c_last_in_month := ok_last_in_month (P := P) (w := w) (base := base) T c_kind_of c_greatest_in c_day_of c_Row_days_in c_Row_times
  have c_held_back := ok_held_back (P := P) (w := w) (base := base) T c_parted c_date_of c_last_in_month
  have c_last_to := ok_last_to (P := P) (w := w) (base := base) T c_never c_held_back c_runs_to
  have c__law_between := ok__law_between (P := P) (w := w) (base := base) T c_Row_holds c_Row_shut_by
  have c__law_right := ok__law_right (P := P) (w := w) (base := base) T c_next_from c_last_to c__law_between
  have c_only_figures := ok_only_figures (P := P) (w := w) (base := base) T
  have c_mask_of := ok_mask_of (P := P) (w := w) (base := base) T
  have c_number_in_fields := ok_number_in_fields (P := P) (w := w) (base := base) T c_only_figures
  have c_span_in := ok_span_in (P := P) (w := w) (base := base) T c_number_in_fields
  have c_item_mask := ok_item_mask (P := P) (w := w) (base := base) T c_span_in c_mask_of c_number_in_fields c_only_figures
  have c_read_field := ok_read_field (P := P) (w := w) (base := base) T c_item_mask
  have c_plain_item := ok_plain_item (P := P) (w := w) (base := base) T c_read_field
  have c_Numbers := ok_Numbers (P := P) (w := w) (base := base) T
  have c_Weekdays := ok_Weekdays (P := P) (w := w) (base := base) T
  have c_Near := ok_Near (P := P) (w := w) (base := base) T
  have c_LastOne := ok_LastOne (P := P) (w := w) (base := base) T
  have c_Nth := ok_Nth (P := P) (w := w) (base := base) T
  obtain ⟨c_Last, c_Last0⟩ := ok_Last (P := P) (w := w) (base := base) T
  have c_number_in_marks := ok_number_in_marks (P := P) (w := w) (base := base) T
  have c_day_mark := ok_day_mark (P := P) (w := w) (base := base) T c_number_in_marks c_Last c_Last0 c_Near
  have c_weekday_mark := ok_weekday_mark (P := P) (w := w) (base := base) T c_number_in_marks c_LastOne c_Nth
  have c_items_of := ok_items_of (P := P) (w := w) (base := base) T
  have ca_day_mark := calAt_of c_day_mark T.g_day_mark
  have ca_weekday_mark := calAt_of c_weekday_mark T.g_weekday_mark
  have c_read_items := ok_read_items (P := P) (w := w) (base := base) T c_items_of c_plain_item ca_day_mark ca_weekday_mark
  have c_read_days := ok_read_days (P := P) (w := w) (base := base) T c_read_items c_Numbers
  have c_read_weekdays := ok_read_weekdays (P := P) (w := w) (base := base) T c_read_items c_Weekdays
  have c_Row := ok_Row (P := P) (w := w) (base := base) T
  have c_words_of := ok_words_of (P := P) (w := w) (base := base) T
  have c_field_at := ok_field_at (P := P) (w := w) (base := base) T c_read_field c_read_days c_read_weekdays
  have c_read_row := ok_read_row (P := P) (w := w) (base := base) T c_words_of c_field_at c_Row
  have c__law_cell_at := ok__law_cell_at (P := P) (w := w) (base := base) T
  have c__law_stir := ok__law_stir (P := P) (w := w) (base := base) T
  have c__law_digits := ok__law_digits (P := P) (w := w) (base := base) T c__law_stir
  have c__law_item := ok__law_item (P := P) (w := w) (base := base) T
  have c__law_numbers := ok__law_numbers (P := P) (w := w) (base := base) T c__law_digits c__law_item
  have c__law_days := ok__law_days (P := P) (w := w) (base := base) T c__law_digits c__law_item
  have c__law_weekdays := ok__law_weekdays (P := P) (w := w) (base := base) T c__law_digits c__law_item
  have c__law_start := ok__law_start (P := P) (w := w) (base := base) T
  have c__law_moment := ok__law_moment (P := P) (w := w) (base := base) T c__law_digits c__law_start
  have c__law_spec := ok__law_spec (P := P) (w := w) (base := base) T c__law_digits c__law_numbers c__law_days c__law_weekdays
  exact ok_law T F c__law_cell_at c__law_spec c__law_moment c_read_row c__law_right
theorem facts {P : Program} {w : World} {K : PySem.W.Frag} {h : Heap} {mg : Str → Option Value} {f : Addr} (X : K.In h) (G : h.Ns mainGlobals mg) (hfa : mg ("law" : Str) = some (.ref f)) (c : says K) :
    ∃ fd : FuncData, (∀ (s : Shared) (v : Value), BindsTo s fd ⟨[v], []⟩ [("_law_script", v)]) ∧ ∀ base : Heap, K.In base → base.Ns mainGlobals mg → FnOk P w K mg base C8.CX0 12 f fd ["_law_script"] (spLaw K) := by
  have T := tx_of X G c
  obtain ⟨fd, F⟩ := T.D_law
  have e := hfa.symm.trans T.g_law
  cases e
  have b := FunD.bindsA (ps := ["_law_script"]) F fun _ _ _ _ _ _ us hl => match us, hl with | [_], _ => rfl
  exact ⟨fd, fun s v => b s [v] rfl, fun base _ _ => all_ok T F⟩
end K58
open PySem PySem.W PySem.Calls PyProof.Rows
theorem PySem.Challenge.cw_fivefields_k58_whole_none_between_holds : PySem.Challenge.rw_fivefields_k58_whole_none_between.Holds := by
  w_on; o_law
  refine HandSHeadRun.head_any (r := OpenLaw.row PySem.Challenge.rw_fivefields_k58_whole_none_between) (q := view (OpenLaw.row PySem.Challenge.rw_fivefields_k58_whole_none_between).prog [110]) (H := K58.hk) (ob := K58.ob) (M := 12000) (loose := K58.names) (d := HandSHeadRun.topDef (OpenLaw.row PySem.Challenge.rw_fivefields_k58_whole_none_between).prog 110) (kwd := []) K58.ob_eq
    (by kernel_rfl) (fun s => by kernel_rfl) K58.run (by kernel_rfl) (by kernel_rfl) (by kernel_rfl) (by rfl) (by first | assumption | decide +kernel) (by decide +kernel) ⟨rfl, rfl, rfl, rfl, rfl, by decide +kernel⟩ ?hw ?hc
  case hw => w_witness2
  case hc =>
    refine L2.walk_ofE (l := PySem.Challenge.rw_fivefields_k58_whole_none_between) (n := 63) (k := 12) (x := "_law_script") (CX := C8.CX0) rfl (by decide) (by kernel_rfl) ⟨rfl, by decide, by decide⟩ ?F (fun _ _ _ _ z => z)
    intro w mg fa h Y G hmg0
    obtain ⟨K, KX, c⟩ := Y
    have hmg : mg ("law" : PySem.Str) = some (.ref fa) := by
      have e : (HandSHeadRun.topDef (OpenLaw.row PySem.Challenge.rw_fivefields_k58_whole_none_between).prog 110).name = ("law" : PySem.Str) := by kernel_rfl
      rw [← e]
      exact hmg0
    obtain ⟨fd, hb, hF⟩ := K58.facts (P := (PySem.Challenge.rw_fivefields_k58_whole_none_between).prog) (w := w) KX G hmg c
    exact ⟨K, fd, K58.spLaw K, KX, hb, fun H a ns hl _ hS => ⟨a, ns, rfl, hS, hl, fun _ => rfl⟩, hF⟩
