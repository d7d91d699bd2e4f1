import PyProof.Rows.All
import Wide.All
import OpenK.AllK
import Wide.FinOn
import HandS.ForMost
import HandS.Flow
import HandS.ClsMeth
import HandS.Codes
import PySem.Challenge.RW_guestcopies_k18_whole_rules_cut_and_begu
set_option Elab.async false
set_option linter.all false
set_option maxRecDepth 100000
set_option maxHeartbeats 4000000

namespace Gc
/-! ### lists that rise -/
abbrev Up (l : List Int) : Prop := l.Pairwise (· < ·)
theorem up_ext : ∀ {l m : List Int}, Up l → Up m → (∀ d, d ∈ l ↔ d ∈ m) → l = m
  | [], [], _, _, _ => rfl
  | [], b :: m, _, _, h => by have := (h b).mpr (List.mem_cons_self); cases this
  | a :: l, [], _, _, h => by have := (h a).mp (List.mem_cons_self); cases this
  | a :: l, b :: m, hl, hm, h => by
    obtain ⟨hl1, hl2⟩ := List.pairwise_cons.mp hl
    obtain ⟨hm1, hm2⟩ := List.pairwise_cons.mp hm
    have e : a = b := by
      rcases List.mem_cons.mp ((h a).mp List.mem_cons_self) with e | e
      · exact e
      · rcases List.mem_cons.mp ((h b).mpr List.mem_cons_self) with q | q
        · exact q.symm
        · have h1 := hm1 a e
          have h2 := hl1 b q
          omega
    subst e
    have r : l = m := up_ext hl2 hm2 fun d => ⟨fun hd => by
        rcases List.mem_cons.mp ((h d).mp (List.mem_cons_of_mem _ hd)) with e | e
        · have := hl1 d hd; omega
        · exact e, fun hd => by
        rcases List.mem_cons.mp ((h d).mpr (List.mem_cons_of_mem _ hd)) with e | e
        · have := hm1 d hd; omega
        · exact e⟩
    rw [r]
theorem up_filter {l : List Int} (p : Int → Bool) (h : Up l) : Up (l.filter p) := List.Pairwise.filter p h
theorem up_append {l m : List Int} (hl : Up l) (hm : Up m) (h : ∀ a ∈ l, ∀ b ∈ m, a < b) : Up (l ++ m) := List.pairwise_append.mpr ⟨hl, hm, h⟩

/-- the days from lo on, ahead of hi, that p holds of -/
def seg (p : Int → Bool) (lo hi : Int) : List Int := ((List.range (hi - lo).toNat).map fun (i : Nat) => lo + (i : Int)).filter p
theorem mem_seg {p : Int → Bool} {lo hi d : Int} : d ∈ seg p lo hi ↔ lo ≤ d ∧ d < hi ∧ p d = true := by
  unfold seg
  rw [List.mem_filter, List.mem_map]
  constructor
  · rintro ⟨⟨i, hi', e⟩, hp⟩
    have := List.mem_range.mp hi'
    exact ⟨by omega, by omega, hp⟩
  · rintro ⟨h1, h2, h3⟩
    exact ⟨⟨(d - lo).toNat, List.mem_range.mpr (by omega), by omega⟩, h3⟩
theorem seg_up (p : Int → Bool) (lo hi : Int) : Up (seg p lo hi) := by
  unfold seg
  refine up_filter p ?_
  refine List.pairwise_map.mpr ?_
  exact (List.pairwise_lt_range).imp fun h => by omega
theorem seg_eq {p : Int → Bool} {lo hi : Int} {l : List Int} (hl : Up l) (h : ∀ d, d ∈ l ↔ lo ≤ d ∧ d < hi ∧ p d = true) : l = seg p lo hi :=
  up_ext hl (seg_up p lo hi) fun d => (h d).trans mem_seg.symm
theorem seg_cat {p : Int → Bool} {lo mid hi : Int} (h1 : lo ≤ mid) (h2 : mid ≤ hi) : seg p lo hi = seg p lo mid ++ seg p mid hi := by
  refine (seg_eq (up_append (seg_up _ _ _) (seg_up _ _ _) ?_) ?_).symm
  · intro a ha b hb
    have := mem_seg.mp ha
    have := mem_seg.mp hb
    omega
  · intro d
    rw [List.mem_append, mem_seg, mem_seg]
    constructor
    · rintro (⟨a, b, c⟩ | ⟨a, b, c⟩)
      · exact ⟨a, by omega, c⟩
      · exact ⟨by omega, b, c⟩
    · rintro ⟨a, b, c⟩
      by_cases q : d < mid
      · exact .inl ⟨a, q, c⟩
      · exact .inr ⟨by omega, b, c⟩
theorem seg_nil {p : Int → Bool} {lo hi : Int} (h : ∀ d, lo ≤ d → d < hi → p d = false) : seg p lo hi = [] :=
  (seg_eq (p := p) (lo := lo) (hi := hi) (l := []) List.Pairwise.nil fun d => by
    constructor
    · intro h; cases h
    · rintro ⟨a, b, c⟩
      rw [h d a b] at c
      cases c).symm
theorem seg_len_le (p : Int → Bool) (lo hi : Int) : (seg p lo hi).length ≤ (hi - lo).toNat := by
  unfold seg
  refine Nat.le_trans (List.length_filter_le _ _) ?_
  rw [List.length_map, List.length_range]
  exact Nat.le_refl _
/-- a filter of a stretch is a stretch -/
theorem seg_cut {p : Int → Bool} {lo hi a b : Int} : (seg p lo hi).filter (fun d => decide (a ≤ d) && decide (d ≤ b)) = seg p (max lo a) (min hi (b + 1)) := by
  refine seg_eq (up_filter _ (seg_up _ _ _)) fun d => ?_
  rw [List.mem_filter, mem_seg]
  simp only [Bool.and_eq_true, decide_eq_true_eq]
  constructor
  · rintro ⟨⟨h1, h2, h3⟩, h4, h5⟩
    exact ⟨by omega, by omega, h3⟩
  · rintro ⟨h1, h2, h3⟩
    exact ⟨⟨by omega, by omega, h3⟩, by omega, by omega⟩
theorem seg_below {p : Int → Bool} {lo hi b : Int} : (seg p lo hi).filter (fun d => decide (d < b)) = seg p lo (min hi b) := by
  refine seg_eq (up_filter _ (seg_up _ _ _)) fun d => ?_
  rw [List.mem_filter, mem_seg]
  simp only [decide_eq_true_eq]
  constructor
  · rintro ⟨⟨h1, h2, h3⟩, h4⟩
    exact ⟨by omega, by omega, h3⟩
  · rintro ⟨h1, h2, h3⟩
    exact ⟨⟨by omega, by omega, h3⟩, by omega⟩
theorem seg_upto {p : Int → Bool} {lo hi b : Int} : (seg p lo hi).filter (fun d => decide (d ≤ b)) = seg p lo (min hi (b + 1)) := by
  refine seg_eq (up_filter _ (seg_up _ _ _)) fun d => ?_
  rw [List.mem_filter, mem_seg]
  simp only [decide_eq_true_eq]
  constructor
  · rintro ⟨⟨h1, h2, h3⟩, h4⟩
    exact ⟨by omega, by omega, h3⟩
  · rintro ⟨h1, h2, h3⟩
    exact ⟨⟨by omega, by omega, h3⟩, by omega⟩

/-- how many days there are ahead of x, from 0 on -/
def cnt (p : Int → Bool) (x : Int) : Int := ((seg p 0 x).length : Int)
theorem cnt_nn (p : Int → Bool) (x : Int) : 0 ≤ cnt p x := Int.natCast_nonneg _
theorem cnt_cat {p : Int → Bool} {x y : Int} (h0 : 0 ≤ x) (h : x ≤ y) : cnt p y = cnt p x + ((seg p x y).length : Int) := by
  unfold cnt
  rw [seg_cat h0 h, List.length_append]
  omega
theorem cnt_mono {p : Int → Bool} {x y : Int} (h0 : 0 ≤ x) (h : x ≤ y) : cnt p x ≤ cnt p y := by
  rw [cnt_cat h0 h]
  omega
theorem cnt_zero {p : Int → Bool} {x : Int} (h : ∀ d, 0 ≤ d → d < x → p d = false) : cnt p x = 0 := by
  unfold cnt
  rw [seg_nil h]
  rfl
theorem cnt_lt {p : Int → Bool} {d x : Int} (h0 : 0 ≤ d) (hd : p d = true) (h : d < x) : cnt p d < cnt p x := by
  have h1 : cnt p (d + 1) = cnt p d + 1 := by
    rw [cnt_cat h0 (by omega : d ≤ d + 1)]
    have : seg p d (d + 1) = [d] := (seg_eq (l := [d]) (List.pairwise_singleton _ _) fun e => by
      rw [List.mem_singleton]
      constructor
      · intro q; subst q; exact ⟨by omega, by omega, hd⟩
      · rintro ⟨a, b, c⟩; omega).symm
    rw [this]
    rfl
  have h2 : cnt p (d + 1) ≤ cnt p x := cnt_mono (by omega) (by omega)
  omega
/-- two days with as many ahead are one -/
theorem cnt_inj {p : Int → Bool} {d e : Int} (h0 : 0 ≤ d) (h1 : 0 ≤ e) (hd : p d = true) (he : p e = true) (h : cnt p d = cnt p e) : d = e := by
  rcases Int.lt_trichotomy d e with q | q | q
  · have := cnt_lt h0 hd q; omega
  · exact q
  · have := cnt_lt h1 he q; omega
/-- the day at a place of a stretch from 0 on -/
theorem seg_at {p : Int → Bool} {hi d : Int} (h0 : 0 ≤ d) (hd : p d = true) (h : d < hi) : (seg p 0 hi)[(cnt p d).toNat]? = some d := by
  rw [seg_cat h0 (Int.le_of_lt h), List.getElem?_append_right (by unfold cnt; omega)]
  rw [show (cnt p d).toNat - (seg p 0 d).length = 0 from by unfold cnt; omega]
  have : seg p d hi = seg p d (d + 1) ++ seg p (d + 1) hi := seg_cat (by omega) (by omega)
  have e : seg p d (d + 1) = [d] := (seg_eq (l := [d]) (List.pairwise_singleton _ _) fun e => by
      rw [List.mem_singleton]
      constructor
      · intro q; subst q; exact ⟨by omega, by omega, hd⟩
      · rintro ⟨a, b, c⟩; omega).symm
  rw [this, e]
  rfl
theorem at_cnt {p : Int → Bool} {hi d : Int} {i : Nat} (h : (seg p 0 hi)[i]? = some d) : p d = true ∧ 0 ≤ d ∧ d < hi ∧ cnt p d = (i : Int) := by
  have hm : d ∈ seg p 0 hi := List.mem_of_getElem? h
  obtain ⟨h0, h1, h2⟩ := mem_seg.mp hm
  have h3 := seg_at h0 h2 h1
  obtain ⟨l1, e1⟩ := List.getElem?_eq_some_iff.mp h
  obtain ⟨l2, e2⟩ := List.getElem?_eq_some_iff.mp h3
  refine ⟨h2, h0, h1, ?_⟩
  have up := seg_up p 0 hi
  have nn := cnt_nn p d
  rcases Nat.lt_trichotomy i (cnt p d).toNat with q | q | q
  · have := (List.pairwise_iff_getElem.mp up) i _ l1 l2 q
    rw [e1, e2] at this
    omega
  · omega
  · have := (List.pairwise_iff_getElem.mp up) _ i l2 l1 q
    rw [e1, e2] at this
    omega
end Gc

namespace Gc
/-! ### the calendar -/
def leap (y : Int) : Bool := decide (y % 4 = 0) && (decide (¬ y % 100 = 0) || decide (y % 400 = 0))
def yearDay (y : Int) : Int := 365 * (y - 2001) + ((y - 1) / 4 - (y - 1) / 100 + (y - 1) / 400 - 485)
def lens : List Int := [31, 28, 31, 30, 31, 30, 31, 31, 30, 31, 30, 31]
def monLen (m : Int) : Int := if m % 12 = 1 ∧ leap (2001 + m / 12) = true then 29 else lens.getD (m % 12).toNat 0
/-- the days of the first k months of a year -/
def monSum (y : Int) : Nat → Int
  | 0 => 0
  | k + 1 => monSum y k + monLen (12 * y + (k : Int))
def firstOf (m : Int) : Int := yearDay (2001 + m / 12) + monSum (m / 12) (m % 12).toNat
theorem lens_at (k : Nat) (h : k < 12) : 28 ≤ lens.getD k 0 ∧ lens.getD k 0 ≤ 31 := by
  unfold lens
  match k, h with
  | 0, _ | 1, _ | 2, _ | 3, _ | 4, _ | 5, _ | 6, _ | 7, _ | 8, _ | 9, _ | 10, _ | 11, _ => decide
theorem monLen_le (m : Int) : 28 ≤ monLen m ∧ monLen m ≤ 31 := by
  unfold monLen
  split
  · omega
  · exact lens_at _ (by omega)
theorem leap_day (y : Int) : yearDay (y + 1) = yearDay y + (if leap y = true then 366 else 365) := by
  unfold yearDay leap
  simp only [Bool.and_eq_true, Bool.or_eq_true, decide_eq_true_eq]
  split <;> omega
theorem monLen_in (y : Int) (k : Nat) (h : k < 12) : monLen (12 * y + (k : Int)) = if k = 1 ∧ leap (2001 + y) = true then 29 else lens.getD k 0 := by
  unfold monLen
  rw [show (12 * y + (k : Int)) % 12 = (k : Int) from by omega, show (12 * y + (k : Int)) / 12 = y from by omega]
  rw [show ((k : Int)).toNat = k from by omega]
  by_cases h1 : k = 1
  · subst h1; simp
  · rw [if_neg (by omega), if_neg (by omega)]
theorem monSum_year (y : Int) : monSum y 12 = if leap (2001 + y) = true then 366 else 365 := by
  simp only [monSum]
  rw [monLen_in y 0 (by omega), monLen_in y 1 (by omega), monLen_in y 2 (by omega), monLen_in y 3 (by omega), monLen_in y 4 (by omega), monLen_in y 5 (by omega), monLen_in y 6 (by omega), monLen_in y 7 (by omega), monLen_in y 8 (by omega), monLen_in y 9 (by omega), monLen_in y 10 (by omega), monLen_in y 11 (by omega)]
  by_cases h : leap (2001 + y) = true
  · simp [h, lens]
  · simp [h, lens]
theorem firstOf_succ (m : Int) : firstOf (m + 1) = firstOf m + monLen m := by
  unfold firstOf
  have hm : m = 12 * (m / 12) + ((m % 12).toNat : Int) := by omega
  by_cases h : m % 12 = 11
  · rw [show (m + 1) / 12 = m / 12 + 1 from by omega, show ((m + 1) % 12).toNat = 0 from by omega, h]
    rw [show 2001 + (m / 12 + 1) = 2001 + m / 12 + 1 from by omega, leap_day, ← monSum_year]
    show _ + monSum _ 12 + 0 = _ + monSum _ 11 + _
    rw [show monSum (m / 12) 12 = monSum (m / 12) 11 + monLen (12 * (m / 12) + ((11 : Nat) : Int)) from rfl]
    rw [show (12 * (m / 12) + ((11 : Nat) : Int)) = m from by omega]
    omega
  · rw [show (m + 1) / 12 = m / 12 from by omega, show ((m + 1) % 12).toNat = (m % 12).toNat + 1 from by omega]
    rw [show monSum (m / 12) ((m % 12).toNat + 1) = monSum (m / 12) (m % 12).toNat + monLen (12 * (m / 12) + ((m % 12).toNat : Int)) from rfl, ← hm]
    omega
theorem firstOf_zero : firstOf 0 = 0 := by decide
theorem firstOf_lt {m : Int} : firstOf m + 28 ≤ firstOf (m + 1) := by
  rw [firstOf_succ]
  have := (monLen_le m).1
  omega
theorem firstOf_add (m : Int) : ∀ k : Nat, firstOf m + 28 * (k : Int) ≤ firstOf (m + (k : Int))
  | 0 => by simp
  | k + 1 => by
    have := firstOf_add m k
    have := firstOf_lt (m := m + (k : Int))
    rw [show m + ((k + 1 : Nat) : Int) = m + (k : Int) + 1 from by omega]
    omega
theorem firstOf_mono {m n : Int} (h : m ≤ n) : firstOf m + 28 * (n - m) ≤ firstOf n := by
  have := firstOf_add m (n - m).toNat
  rw [show m + ((n - m).toNat : Int) = n from by omega] at this
  omega
def moN : Nat → Int
  | 0 => 0
  | d + 1 => if ((d + 1 : Nat) : Int) < firstOf (moN d + 1) then moN d else moN d + 1
/-- the month of a day from 0 on -/
def monthOf (d : Int) : Int := moN d.toNat
theorem moN_spec : ∀ d : Nat, 0 ≤ moN d ∧ firstOf (moN d) ≤ (d : Int) ∧ (d : Int) < firstOf (moN d + 1)
  | 0 => by
    refine ⟨by decide, ?_, ?_⟩
    · show firstOf 0 ≤ 0
      rw [firstOf_zero]
      omega
    · show (0 : Int) < firstOf (0 + 1)
      decide
  | d + 1 => by
    obtain ⟨h0, h1, h2⟩ := moN_spec d
    unfold moN
    split
    · rename_i h
      exact ⟨h0, by omega, h⟩
    · rename_i h
      refine ⟨by omega, by omega, ?_⟩
      have := firstOf_lt (m := moN d + 1)
      omega
theorem monthOf_spec {d : Int} (h : 0 ≤ d) : 0 ≤ monthOf d ∧ firstOf (monthOf d) ≤ d ∧ d < firstOf (monthOf d + 1) := by
  have := moN_spec d.toNat
  unfold monthOf
  rw [show ((d.toNat : Nat) : Int) = d from by omega] at this
  exact this
theorem month_uniq {d m n : Int} (h1 : firstOf m ≤ d) (h2 : d < firstOf (m + 1)) (h3 : firstOf n ≤ d) (h4 : d < firstOf (n + 1)) : m = n := by
  rcases Int.lt_trichotomy m n with q | q | q
  · have := firstOf_mono (m := m + 1) (n := n) (by omega); omega
  · exact q
  · have := firstOf_mono (m := n + 1) (n := m) (by omega); omega
theorem monthOf_eq {d m : Int} (h : 0 ≤ d) (h1 : firstOf m ≤ d) (h2 : d < firstOf (m + 1)) : monthOf d = m := by
  obtain ⟨_, a, b⟩ := monthOf_spec h
  exact month_uniq a b h1 h2
theorem firstOf_nn {m : Int} (h : 0 ≤ m) : 0 ≤ firstOf m := by
  have := firstOf_mono h
  rw [firstOf_zero] at this
  omega

/-! ### how a rule's days come -/
inductive How where
  | once
  | days (n : Int)
  | weeks (n : Int) (ws : List Int)
  | dates (n t : Int)
  | wkds (n w o : Int)
  deriving DecidableEq
/-- the date in a month -/
def dateIn : How → Int → Option Int
  | .dates _ t, m => if t ≤ monLen m then some t else none
  | .wkds _ w o, m =>
    let t := 1 + (o - firstOf m % 7) % 7
    if 0 < w then (if t + 7 * (w - 1) ≤ monLen m then some (t + 7 * (w - 1)) else none)
    else some (t + 7 * ((monLen m - t) / 7))
  | _, _ => none
def HowOk : How → Prop
  | .once => True
  | .days n => 1 ≤ n ∧ n ≤ 99
  | .weeks n ws => 1 ≤ n ∧ n ≤ 99 ∧ Up ws ∧ ws ≠ [] ∧ ∀ w ∈ ws, 0 ≤ w ∧ w ≤ 6
  | .dates n t => 1 ≤ n ∧ n ≤ 99 ∧ 1 ≤ t ∧ t ≤ 31
  | .wkds n w o => 1 ≤ n ∧ n ≤ 99 ∧ (w = -1 ∨ (1 ≤ w ∧ w ≤ 5)) ∧ 0 ≤ o ∧ o ≤ 6
theorem dateIn_le {h : How} {m t : Int} (ok : HowOk h) (e : dateIn h m = some t) : 1 ≤ t ∧ t ≤ monLen m := by
  cases h with
  | once => cases e
  | days n => cases e
  | weeks n ws => cases e
  | dates n t' =>
    obtain ⟨_, _, h1, h2⟩ := ok
    have e : (if t' ≤ monLen m then some t' else none) = some t := e
    split at e
    · injection e with e; subst e; exact ⟨h1, by assumption⟩
    · cases e
  | wkds n w o =>
    obtain ⟨_, _, h1, h2⟩ := ok
    have e : (if 0 < w then (if 1 + (o - firstOf m % 7) % 7 + 7 * (w - 1) ≤ monLen m then some (1 + (o - firstOf m % 7) % 7 + 7 * (w - 1)) else none)
      else some (1 + (o - firstOf m % 7) % 7 + 7 * ((monLen m - (1 + (o - firstOf m % 7) % 7)) / 7))) = some t := e
    have := monLen_le m
    split at e
    · split at e
      · injection e with e; subst e; omega
      · cases e
    · injection e with e; subst e; omega
def mon (f : Int) : Int := f - f % 7
/-- whether a day is one of those that come, without an end -/
def isD (f : Int) (h : How) (d : Int) : Bool := match h with
  | .once => decide (d = f)
  | .days n => decide (f ≤ d) && decide ((d - f) % n = 0)
  | .weeks n ws => decide (f ≤ d) && (decide ((d - mon f) / 7 % n = 0) && decide (d % 7 ∈ ws))
  | .dates n t => decide (f ≤ d) && (decide ((monthOf d - monthOf f) % n = 0) && decide (dateIn (.dates n t) (monthOf d) = some (d - firstOf (monthOf d) + 1)))
  | .wkds n w o => decide (f ≤ d) && (decide ((monthOf d - monthOf f) % n = 0) && decide (dateIn (.wkds n w o) (monthOf d) = some (d - firstOf (monthOf d) + 1)))
/-- where a stretch begins -/
def beg (f : Int) (h : How) (s : Int) : Int := match h with
  | .once => f + s * 99990
  | .days n => f + s * n
  | .weeks n _ => mon f + s * (7 * n)
  | .dates n _ => firstOf (monthOf f + s * n)
  | .wkds n _ _ => firstOf (monthOf f + s * n)
def step : How → Int
  | .once => 0
  | .days n => n
  | .weeks n _ => n
  | .dates n _ => n
  | .wkds n _ _ => n
def isMon : How → Prop
  | .dates _ _ => True
  | .wkds _ _ _ => True
  | _ => False
theorem isD_mon {f d : Int} {h : How} (q : isMon h) : isD f h d = (decide (f ≤ d) && (decide ((monthOf d - monthOf f) % step h = 0) && decide (dateIn h (monthOf d) = some (d - firstOf (monthOf d) + 1)))) := by
  cases h <;> first | exact q.elim | rfl
theorem beg_mon {f s : Int} {h : How} (q : isMon h) : beg f h s = firstOf (monthOf f + s * step h) := by
  cases h <;> first | exact q.elim | rfl
theorem step_mon {h : How} (q : isMon h) (ok : HowOk h) : 1 ≤ step h ∧ step h ≤ 99 := by
  cases h <;> first | exact q.elim | exact ⟨ok.1, ok.2.1⟩

theorem isD_ge {f d : Int} {h : How} (e : isD f h d = true) : f ≤ d := by
  unfold isD at e
  cases h <;> simp only [Bool.and_eq_true, decide_eq_true_eq] at e <;> omega
theorem beg_lt {f s : Int} {h : How} (ok : HowOk h) (hs : 0 ≤ s) : beg f h s < beg f h (s + 1) := by
  unfold beg
  cases h with
  | once => dsimp only; omega
  | days n => have := ok.1; dsimp only; rw [Int.add_mul]; omega
  | weeks n ws => have := ok.1; dsimp only; rw [Int.add_mul]; omega
  | dates n t =>
    have := ok.1; dsimp only
    have := firstOf_mono (m := monthOf f + s * n) (n := monthOf f + (s + 1) * n) (by rw [Int.add_mul]; omega)
    rw [Int.add_mul] at this ⊢; omega
  | wkds n w o =>
    have := ok.1; dsimp only
    have := firstOf_mono (m := monthOf f + s * n) (n := monthOf f + (s + 1) * n) (by rw [Int.add_mul]; omega)
    rw [Int.add_mul] at this ⊢; omega
theorem beg_zero {f : Int} {h : How} (hf : 0 ≤ f) : 0 ≤ beg f h 0 ∧ beg f h 0 ≤ f := by
  unfold beg mon
  have := monthOf_spec hf
  have := firstOf_nn this.1
  cases h <;> dsimp only <;> simp only [Int.zero_mul, Int.add_zero] <;> omega
theorem beg_le {f s : Int} {h : How} (ok : HowOk h) (hs : 0 ≤ s) : ∀ k : Nat, beg f h s + (k : Int) ≤ beg f h (s + (k : Int))
  | 0 => by simp
  | k + 1 => by
    have := beg_le (f := f) ok hs k
    have := beg_lt (f := f) ok (show 0 ≤ s + (k : Int) by omega)
    rw [show s + ((k + 1 : Nat) : Int) = s + (k : Int) + 1 from by omega]
    omega
theorem beg_mono {f s t : Int} {h : How} (ok : HowOk h) (hs : 0 ≤ s) (q : s ≤ t) : beg f h s + (t - s) ≤ beg f h t := by
  have := beg_le (f := f) ok hs (t - s).toNat
  rw [show s + ((t - s).toNat : Int) = t from by omega] at this
  omega
theorem beg_nn {f s : Int} {h : How} (ok : HowOk h) (hf : 0 ≤ f) (hs : 0 ≤ s) : s ≤ beg f h s := by
  have := beg_mono (f := f) ok (Int.le_refl 0) hs
  have := (beg_zero (h := h) hf).1
  omega
/-- the days of a stretch -/
abbrev inS (f : Int) (h : How) (s : Int) : List Int := seg (isD f h) (beg f h s) (beg f h (s + 1))
/-- the stretch in which a day stands (the first one of a day ahead of all) -/
def SOk (f : Int) (h : How) (d s : Int) : Prop := 0 ≤ s ∧ d < beg f h (s + 1) ∧ (beg f h s ≤ d ∨ s = 0)
theorem s_once {f d : Int} (hf : 2 ≤ f) (hd : d ≤ 99991) : SOk f .once d 0 := ⟨Int.le_refl _, by show d < f + (0 + 1) * 99990; omega, .inr rfl⟩
theorem div_le {a n : Int} (h : 1 ≤ n) : a / n * n ≤ a ∧ a < (a / n + 1) * n := by
  have h1 := Int.emod_add_mul_ediv a n
  have h2 := Int.emod_nonneg a (show n ≠ 0 by omega)
  have h3 := Int.emod_lt_of_pos a (show 0 < n by omega)
  rw [Int.add_mul, Int.mul_comm (a / n) n]
  omega
theorem s_lin {b a n : Int} (h : 1 ≤ n) : 0 ≤ max 0 ((a - b) / n) ∧ a < b + (max 0 ((a - b) / n) + 1) * n ∧ (b + max 0 ((a - b) / n) * n ≤ a ∨ max 0 ((a - b) / n) = 0) := by
  have := div_le (a := a - b) h
  by_cases q : 0 ≤ (a - b) / n
  · rw [Int.max_eq_right q]
    exact ⟨q, by omega, .inl (by omega)⟩
  · rw [Int.max_eq_left (by omega)]
    refine ⟨by omega, ?_, .inr rfl⟩
    have : (a - b) / n + 1 ≤ 0 := by omega
    have : ((a - b) / n + 1) * n ≤ 0 * n := Int.mul_le_mul_of_nonneg_right this (by omega)
    omega
theorem s_days {f d n : Int} (ok : HowOk (.days n)) : SOk f (.days n) d (max 0 ((d - f) / n)) := s_lin (b := f) ok.1
theorem s_weeks {f d n : Int} {ws : List Int} (ok : HowOk (.weeks n ws)) : SOk f (.weeks n ws) d (max 0 ((d - mon f) / (7 * n))) := s_lin (b := mon f) (n := 7 * n) (by have := ok.1; omega)
theorem s_mon {f d : Int} {h : How} (q : isMon h) (ok : HowOk h) (hd : 0 ≤ d) : SOk f h d (max 0 ((monthOf d - monthOf f) / step h)) := by
  obtain ⟨h1, h2, h3⟩ := s_lin (a := monthOf d) (b := monthOf f) (step_mon q ok).1
  obtain ⟨a, b, c⟩ := monthOf_spec hd
  refine ⟨h1, ?_, ?_⟩
  · rw [beg_mon q]
    have := firstOf_mono (m := monthOf d + 1) (n := monthOf f + (max 0 ((monthOf d - monthOf f) / step h) + 1) * step h) (by omega)
    omega
  · rcases h3 with h3 | h3
    · left
      rw [beg_mon q]
      have := firstOf_mono (n := monthOf d) (m := monthOf f + max 0 ((monthOf d - monthOf f) / step h) * step h) (by omega)
      omega
    · exact .inr h3
/-- a day is one of those that come, if it is one of its stretch -/
theorem isD_in {f d s : Int} {h : How} (hf : 0 ≤ f) (q : SOk f h d s) : d ∈ inS f h s ↔ isD f h d = true := by
  rw [mem_seg]
  constructor
  · exact fun z => z.2.2
  · intro e
    refine ⟨?_, q.2.1, e⟩
    rcases q.2.2 with z | z
    · exact z
    · subst z
      have := isD_ge e
      have := (beg_zero (h := h) hf).2
      omega
end Gc

namespace Gc
theorem mul_between {n k s : Int} (h : 1 ≤ n) (h1 : s * n ≤ n * k) (h2 : n * k < (s + 1) * n) : k = s := by
  rw [Int.mul_comm n k] at h1 h2
  have a : s ≤ k := Int.le_of_mul_le_mul_right h1 (by omega)
  have b : k < s + 1 := Int.lt_of_mul_lt_mul_right h2 (by omega)
  omega
theorem of_mod {a n : Int} (h : a % n = 0) : ∃ k, a = n * k := ⟨a / n, by have := Int.emod_add_mul_ediv a n; omega⟩
theorem mul_mod_zero (s n : Int) : s * n % n = 0 := Int.mul_emod_left s n
/-! ### the days of a stretch, kind by kind -/
theorem in_once {f s : Int} (hs : 0 ≤ s) : inS f .once s = if s = 0 then [f] else [] := by
  split
  · rename_i e
    subst e
    refine (seg_eq (List.pairwise_singleton _ _) fun d => ?_).symm
    rw [List.mem_singleton]
    show d = f ↔ f + 0 * 99990 ≤ d ∧ d < f + (0 + 1) * 99990 ∧ decide (d = f) = true
    rw [decide_eq_true_eq]
    omega
  · rename_i e
    refine seg_nil fun d h1 h2 => ?_
    have h1 : f + s * 99990 ≤ d := h1
    show decide (d = f) = false
    rw [decide_eq_false_iff_not]
    omega
theorem in_days {f s n : Int} (ok : HowOk (.days n)) (hs : 0 ≤ s) : inS f (.days n) s = [f + s * n] := by
  refine (seg_eq (List.pairwise_singleton _ _) fun d => ?_).symm
  rw [List.mem_singleton]
  show d = f + s * n ↔ f + s * n ≤ d ∧ d < f + (s + 1) * n ∧ (decide (f ≤ d) && decide ((d - f) % n = 0)) = true
  rw [Bool.and_eq_true, decide_eq_true_eq, decide_eq_true_eq]
  have hn := ok.1
  have h0 : 0 ≤ s * n := Int.mul_nonneg hs (by omega)
  constructor
  · intro e
    subst e
    refine ⟨by omega, by rw [Int.add_mul]; omega, by omega, ?_⟩
    rw [show f + s * n - f = s * n from by omega]
    exact mul_mod_zero s n
  · rintro ⟨h1, h2, _, h3⟩
    obtain ⟨k, e⟩ := of_mod h3
    have := mul_between hn (s := s) (k := k) (by omega) (by omega)
    subst this
    rw [Int.mul_comm k n]
    omega
theorem mon_mod (f : Int) : mon f % 7 = 0 := by unfold mon; omega
theorem wk_eq {m d w q : Int} (hm : m % 7 = 0) (h0 : 0 ≤ w) (h6 : w ≤ 6) (e : d = m + 7 * q + w) : (d - m) / 7 = q ∧ d % 7 = w := by omega
theorem in_weeks {f s n : Int} {ws : List Int} (ok : HowOk (.weeks n ws)) (hs : 0 ≤ s) : inS f (.weeks n ws) s = (ws.map fun w => mon f + s * (7 * n) + w).filter fun d => decide (f ≤ d) := by
  obtain ⟨hn, _, up, _, h6⟩ := ok
  have hm := mon_mod f
  refine (seg_eq (up_filter _ (List.pairwise_map.mpr (up.imp fun h => by omega))) fun d => ?_).symm
  rw [List.mem_filter, List.mem_map]
  show _ ↔ mon f + s * (7 * n) ≤ d ∧ d < mon f + (s + 1) * (7 * n) ∧ (decide (f ≤ d) && (decide ((d - mon f) / 7 % n = 0) && decide (d % 7 ∈ ws))) = true
  rw [Bool.and_eq_true, Bool.and_eq_true, decide_eq_true_eq, decide_eq_true_eq, decide_eq_true_eq]
  have e7 : s * (7 * n) = 7 * (s * n) := by rw [Int.mul_left_comm]
  have e71 : (s + 1) * (7 * n) = 7 * (s * n) + 7 * n := by rw [Int.add_mul, e7]; omega
  constructor
  · rintro ⟨⟨w, hw, e⟩, hf⟩
    obtain ⟨a, b⟩ := h6 w hw
    obtain ⟨c1, c2⟩ := wk_eq hm a b (show d = mon f + 7 * (s * n) + w by omega)
    refine ⟨by omega, by omega, hf, ?_, by rw [c2]; exact hw⟩
    rw [c1]
    exact mul_mod_zero s n
  · rintro ⟨h1, h2, hf, h3, h4⟩
    obtain ⟨k, e⟩ := of_mod h3
    have h2' : d - mon f < 7 * ((s + 1) * n) := by rw [Int.add_mul]; omega
    have ek := mul_between hn (s := s) (k := k) (by rw [← e]; omega) (by rw [← e]; omega)
    subst ek
    have e' : (d - mon f) / 7 = k * n := by rw [e, Int.mul_comm]
    exact ⟨⟨d % 7, h4, by omega⟩, hf⟩
/-- the day of a month's stretch -/
def inM (f : Int) (h : How) (m : Int) : List Int := match dateIn h m with
  | none => []
  | some t => if firstOf m + t - 1 < f then [] else [firstOf m + t - 1]
theorem month_at {m t : Int} {h : How} (ok : HowOk h) (hm : 0 ≤ m) (e : dateIn h m = some t) : monthOf (firstOf m + t - 1) = m := by
  have := dateIn_le ok e
  have := firstOf_nn hm
  exact monthOf_eq (by omega) (by omega) (by rw [firstOf_succ]; omega)
theorem in_mon {f s : Int} {h : How} (q : isMon h) (ok : HowOk h) (hf : 0 ≤ f) (hs : 0 ≤ s) : inS f h s = inM f h (monthOf f + s * step h) := by
  have hn := (step_mon q ok).1
  have hmf := (monthOf_spec hf).1
  have h0 : 0 ≤ s * step h := Int.mul_nonneg hs (by omega)
  have key : ∀ d, (beg f h s ≤ d ∧ d < beg f h (s + 1) ∧ isD f h d = true) ↔ f ≤ d ∧ dateIn h (monthOf f + s * step h) = some (d - firstOf (monthOf f + s * step h) + 1) := by
    intro d
    rw [isD_mon q, beg_mon q, beg_mon q, Bool.and_eq_true, Bool.and_eq_true, decide_eq_true_eq, decide_eq_true_eq, decide_eq_true_eq]
    constructor
    · rintro ⟨h1, h2, h3, h4, h5⟩
      have sp := monthOf_spec (show 0 ≤ d by omega)
      obtain ⟨k, e⟩ := of_mod h4
      have a : monthOf f + s * step h ≤ monthOf d := by
        rcases Int.lt_or_le (monthOf d) (monthOf f + s * step h) with z | z
        · have := firstOf_mono (m := monthOf d + 1) (n := monthOf f + s * step h) (by omega); omega
        · exact z
      have b : monthOf d < monthOf f + (s + 1) * step h := by
        rcases Int.lt_or_le (monthOf d) (monthOf f + (s + 1) * step h) with z | z
        · exact z
        · have := firstOf_mono (m := monthOf f + (s + 1) * step h) (n := monthOf d) (by omega); omega
      have ek := mul_between hn (s := s) (k := k) (by omega) (by omega)
      subst ek
      have em : monthOf f + k * step h = monthOf d := by rw [Int.mul_comm]; omega
      rw [em]
      exact ⟨h3, h5⟩
    · rintro ⟨h3, h5⟩
      have ed := month_at ok (by omega) h5
      rw [show firstOf (monthOf f + s * step h) + (d - firstOf (monthOf f + s * step h) + 1) - 1 = d from by omega] at ed
      have le := dateIn_le ok h5
      have m1 := firstOf_mono (m := monthOf f + s * step h + 1) (n := monthOf f + (s + 1) * step h) (by rw [Int.add_mul]; omega)
      have su := firstOf_succ (monthOf f + s * step h)
      refine ⟨by omega, by rw [Int.add_mul] at m1 ⊢; omega, h3, ?_, ?_⟩
      · rw [ed, show monthOf f + s * step h - monthOf f = s * step h from by omega]
        exact mul_mod_zero _ _
      · rw [ed]
        exact h5
  unfold inM
  split
  · rename_i e
    refine seg_nil fun d h1 h2 => ?_
    cases z : isD f h d with
    | false => rfl
    | true =>
      have := ((key d).mp ⟨h1, h2, z⟩).2
      rw [e] at this
      cases this
  · rename_i t e
    split
    · rename_i lt
      refine seg_nil fun d h1 h2 => ?_
      cases z : isD f h d with
      | false => rfl
      | true =>
        have := (key d).mp ⟨h1, h2, z⟩
        rw [e] at this
        have := Option.some.inj this.2
        omega
    · rename_i lt
      refine (seg_eq (List.pairwise_singleton _ _) fun d => ?_).symm
      rw [key d, e, List.mem_singleton]
      constructor
      · intro z
        subst z
        exact ⟨by omega, congrArg some (by omega)⟩
      · rintro ⟨_, z⟩
        have := Option.some.inj z
        omega

/-! ### counting -/
theorem cnt_beg0 {f x : Int} {h : How} (hx : x ≤ f) : cnt (isD f h) x = 0 := cnt_zero fun d _ h2 => by
  cases z : isD f h d with
  | false => rfl
  | true => have := isD_ge z; omega
theorem cnt_step {f x s : Int} {h : How} (ok : HowOk h) (hf : 0 ≤ f) (hs : 0 ≤ s) :
    cnt (isD f h) (min x (beg f h (s + 1))) = cnt (isD f h) (min x (beg f h s)) + (((inS f h s).filter fun d => decide (d < x)).length : Int) := by
  have b0 := beg_nn (f := f) ok hf hs
  have b1 := beg_lt (f := f) ok hs
  rw [seg_below]
  by_cases q : x ≤ beg f h s
  · rw [Int.min_eq_left q, Int.min_eq_left (by omega), show seg (isD f h) (beg f h s) (min (beg f h (s + 1)) x) = [] from seg_nil fun d _ _ => by omega]
    simp
  · rw [Int.min_eq_right (show beg f h s ≤ x by omega), Int.min_comm (beg f h (s + 1)) x]
    exact cnt_cat (by omega) (by omega)
theorem cnt_next {f s : Int} {h : How} (ok : HowOk h) (hf : 0 ≤ f) (hs : 0 ≤ s) : cnt (isD f h) (beg f h (s + 1)) = cnt (isD f h) (beg f h s) + ((inS f h s).length : Int) := by
  have b0 := beg_nn (f := f) ok hf hs
  have b1 := beg_lt (f := f) ok hs
  exact cnt_cat (by omega) (by omega)
/-- ahead of a day: what is ahead of its stretch, and what of the stretch is ahead of it -/
theorem cnt_in {f d s : Int} {h : How} (ok : HowOk h) (hf : 0 ≤ f) (q : SOk f h d s) :
    cnt (isD f h) d = cnt (isD f h) (beg f h s) + (((inS f h s).filter fun e => decide (e < d)).length : Int) := by
  obtain ⟨hs, h1, h2⟩ := q
  have b0 := beg_nn (f := f) ok hf hs
  have := cnt_step (f := f) (x := d) ok hf hs
  rw [Int.min_eq_left (by omega)] at this
  rcases h2 with h2 | h2
  · rw [Int.min_eq_right h2] at this
    exact this
  · subst h2
    have bz := (beg_zero (h := h) hf).2
    rw [cnt_beg0 (x := beg f h 0) bz]
    rw [cnt_beg0 (x := min d (beg f h 0)) (by omega)] at this
    exact this
theorem ah_once {f d : Int} (hf : 0 ≤ f) : cnt (isD f .once) d = if f < d then 1 else 0 := by
  split
  · rename_i h
    have e : seg (isD f .once) 0 d = [f] := (seg_eq (List.pairwise_singleton _ _) fun e => by
      rw [List.mem_singleton]
      show e = f ↔ 0 ≤ e ∧ e < d ∧ decide (e = f) = true
      rw [decide_eq_true_eq]
      omega).symm
    unfold cnt
    rw [e]
    rfl
  · exact cnt_beg0 (by omega)
theorem cnt_days {f n : Int} (ok : HowOk (.days n)) (hf : 0 ≤ f) : ∀ s : Nat, cnt (isD f (.days n)) (f + (s : Int) * n) = (s : Int)
  | 0 => by
    rw [show f + ((0 : Nat) : Int) * n = f from by simp]
    exact cnt_beg0 (Int.le_refl _)
  | s + 1 => by
    have := cnt_next (f := f) (s := (s : Int)) ok hf (by omega)
    rw [in_days ok (by omega)] at this
    have ih := cnt_days ok hf s
    have e : beg f (.days n) ((s : Int) + 1) = f + ((s + 1 : Nat) : Int) * n := rfl
    have e' : beg f (.days n) (s : Int) = f + (s : Int) * n := rfl
    rw [e, e', ih] at this
    rw [this]
    rfl
theorem cnt_days' {f n s : Int} (ok : HowOk (.days n)) (hf : 0 ≤ f) (hs : 0 ≤ s) : cnt (isD f (.days n)) (f + s * n) = s := by
  have := cnt_days ok hf s.toNat
  rw [show ((s.toNat : Nat) : Int) = s from by omega] at this
  exact this
theorem ah_days {f n d : Int} (ok : HowOk (.days n)) (hf : 0 ≤ f) : cnt (isD f (.days n)) d = max 0 ((d - f + n - 1) / n) := by
  have hn := ok.1
  by_cases q : d ≤ f
  · rw [cnt_beg0 q]
    have := div_le (a := d - f + n - 1) hn
    have : (d - f + n - 1) / n ≤ 0 := by
      rcases Int.lt_or_le 0 ((d - f + n - 1) / n) with z | z
      · have : 1 * n ≤ (d - f + n - 1) / n * n := Int.mul_le_mul_of_nonneg_right z (by omega)
        omega
      · exact z
    omega
  · have sk := s_days (f := f) (d := d) ok
    have e := cnt_in ok hf sk
    have l1 := div_le (a := d - f) hn
    have nn : 0 ≤ (d - f) / n := Int.ediv_nonneg (by omega) (by omega)
    rw [Int.max_eq_right nn] at e
    rw [in_days ok nn] at e
    rw [show beg f (.days n) ((d - f) / n) = f + (d - f) / n * n from rfl, cnt_days' ok hf nn] at e
    rw [e]
    by_cases z : f + (d - f) / n * n < d
    · rw [List.filter_cons, if_pos (by rw [decide_eq_true_eq]; exact z)]
      have : (d - f + n - 1) / n = (d - f) / n + 1 := by
        have l2 := div_le (a := d - f + n - 1) hn
        refine mul_between hn (s := (d - f) / n + 1) (k := (d - f + n - 1) / n) ?_ ?_ <;> rw [Int.mul_comm n]
        · rcases Int.lt_or_le ((d - f + n - 1) / n) ((d - f) / n + 1) with y | y
          · have : ((d - f + n - 1) / n + 1) * n ≤ ((d - f) / n + 1) * n := Int.mul_le_mul_of_nonneg_right (by omega) (by omega)
            rw [Int.add_mul] at this l1 ⊢
            rw [Int.add_mul] at l2
            rw [Int.add_mul] at this
            omega
          · exact Int.mul_le_mul_of_nonneg_right y (by omega)
        · rw [Int.add_mul, Int.add_mul]
          rw [Int.add_mul] at l1
          omega
      rw [this]
      show (d - f) / n + 1 = _
      omega
    · rw [List.filter_cons, if_neg (by rw [decide_eq_true_eq]; exact z)]
      have : (d - f + n - 1) / n = (d - f) / n := by
        have l2 := div_le (a := d - f + n - 1) hn
        refine mul_between hn (s := (d - f) / n) (k := (d - f + n - 1) / n) ?_ ?_ <;> rw [Int.mul_comm n]
        · rcases Int.lt_or_le ((d - f + n - 1) / n) ((d - f) / n) with y | y
          · have : ((d - f + n - 1) / n + 1) * n ≤ (d - f) / n * n := Int.mul_le_mul_of_nonneg_right (by omega) (by omega)
            omega
          · exact Int.mul_le_mul_of_nonneg_right y (by omega)
        · rw [Int.add_mul]
          omega
      rw [this]
      show (d - f) / n + 0 = _
      omega
end Gc

namespace Gc
/-! ### weeks: counting -/
/-- how many of them are ahead of the first day -/
def left (f : Int) (ws : List Int) : Int := ((ws.filter fun w => decide (mon f + w < f)).length : Int)
theorem cut_len (b : Int) : ∀ (l : List Int) (x y : Int), x ≤ y → ((l.filter fun w => decide (b + w < y)).length : Int) = ((l.filter fun w => decide (b + w < x)).length : Int) + (((l.filter fun w => decide (x ≤ b + w)).filter fun w => decide (b + w < y)).length : Int)
  | [], _, _, _ => rfl
  | a :: l, x, y, h => by
    have ih := cut_len b l x y h
    by_cases h1 : b + a < x
    · rw [List.filter_cons, if_pos (by rw [decide_eq_true_eq]; omega), List.filter_cons (p := fun w => decide (b + w < x)), if_pos (by rw [decide_eq_true_eq]; omega), List.filter_cons (p := fun w => decide (x ≤ b + w)), if_neg (by rw [decide_eq_true_eq]; omega)]
      simp only [List.length_cons]
      omega
    · rw [List.filter_cons (p := fun w => decide (b + w < x)), if_neg (by rw [decide_eq_true_eq]; omega), List.filter_cons (p := fun w => decide (x ≤ b + w)), if_pos (by rw [decide_eq_true_eq]; omega)]
      by_cases h2 : b + a < y
      · rw [List.filter_cons, if_pos (by rw [decide_eq_true_eq]; omega), List.filter_cons, if_pos (by rw [decide_eq_true_eq]; omega)]
        simp only [List.length_cons]
        omega
      · rw [List.filter_cons, if_neg (by rw [decide_eq_true_eq]; omega), List.filter_cons, if_neg (by rw [decide_eq_true_eq]; omega)]
        exact ih
theorem cut_le (b : Int) (l : List Int) {x y : Int} (h : x ≤ y) : ((l.filter fun w => decide (b + w < x)).length : Int) ≤ ((l.filter fun w => decide (b + w < y)).length : Int) := by
  rw [cut_len b l x y h]
  omega
theorem filter_all {l : List Int} {p : Int → Bool} (h : ∀ w ∈ l, p w = true) : l.filter p = l := List.filter_eq_self.mpr h
theorem filter_no {l : List Int} {p : Int → Bool} (h : ∀ w ∈ l, p w = false) : l.filter p = [] := List.filter_eq_nil_iff.mpr fun a ha => by rw [h a ha]; exact Bool.false_ne_true
theorem map_filter_len (l : List Int) (b f y : Int) : (((l.map fun w => b + w).filter fun d => decide (f ≤ d)).filter fun d => decide (d < y)).length = ((l.filter fun w => decide (f ≤ b + w)).filter fun w => decide (b + w < y)).length := by
  rw [List.filter_map, List.filter_map, List.length_map]
  rfl
section
variable {f n : Int} {ws : List Int}
theorem in_weeks_len (ok : HowOk (.weeks n ws)) {s : Int} (hs : 0 ≤ s) (y : Int) :
    ((((inS f (.weeks n ws) s).filter fun e => decide (e < y)).length : Nat) : Int) = (((ws.filter fun w => decide (f ≤ mon f + s * (7 * n) + w)).filter fun w => decide (mon f + s * (7 * n) + w < y)).length : Int) := by
  rw [in_weeks ok hs, map_filter_len]
theorem mon_le (f : Int) : mon f ≤ f ∧ f < mon f + 7 := by unfold mon; omega
theorem weeks_late (ok : HowOk (.weeks n ws)) {s : Int} (hs : 1 ≤ s) : ∀ w ∈ ws, f ≤ mon f + s * (7 * n) + w := by
  intro w hw
  have := (ok.2.2.2.2 w hw).1
  have := mon_le f
  have : 1 * (7 * n) ≤ s * (7 * n) := Int.mul_le_mul_of_nonneg_right hs (by have := ok.1; omega)
  have := ok.1
  omega
theorem cnt_weeks (ok : HowOk (.weeks n ws)) (hf : 0 ≤ f) : ∀ s : Nat, cnt (isD f (.weeks n ws)) (mon f + ((s + 1 : Nat) : Int) * (7 * n)) = ((s + 1 : Nat) : Int) * (ws.length : Int) - left f ws
  | 0 => by
    have h := cnt_next (f := f) (s := 0) ok hf (Int.le_refl _)
    rw [cnt_beg0 (beg_zero hf).2] at h
    have e : beg f (.weeks n ws) (0 + 1) = mon f + ((0 + 1 : Nat) : Int) * (7 * n) := rfl
    rw [e] at h
    rw [h]
    have k := in_weeks_len (f := f) ok (Int.le_refl 0) (mon f + 7)
    rw [show (inS f (.weeks n ws) 0).filter (fun e => decide (e < mon f + 7)) = inS f (.weeks n ws) 0 from filter_all fun d hd => by
      rw [in_weeks ok (Int.le_refl 0)] at hd
      obtain ⟨w, hw, e⟩ := List.mem_map.mp (List.mem_filter.mp hd).1
      have := (ok.2.2.2.2 w hw).2
      rw [decide_eq_true_eq]
      omega] at k
    rw [k]
    have c := cut_len (mon f) ws f (mon f + 7) (by have := mon_le f; omega)
    rw [filter_all (l := ws) (p := fun w => decide (mon f + w < mon f + 7)) fun w hw => by
      have := (ok.2.2.2.2 w hw).2
      rw [decide_eq_true_eq]
      omega] at c
    unfold left
    simp only [Int.zero_mul, Int.add_zero]
    omega
  | s + 1 => by
    have h := cnt_next (f := f) (s := ((s + 1 : Nat) : Int)) ok hf (by omega)
    have ih := cnt_weeks ok hf s
    have e : beg f (.weeks n ws) (((s + 1 : Nat) : Int) + 1) = mon f + ((s + 1 + 1 : Nat) : Int) * (7 * n) := rfl
    have e' : beg f (.weeks n ws) ((s + 1 : Nat) : Int) = mon f + ((s + 1 : Nat) : Int) * (7 * n) := rfl
    rw [e, e', ih, in_weeks ok (by omega), filter_all (fun d hd => by
      obtain ⟨w, hw, ew⟩ := List.mem_map.mp hd
      rw [decide_eq_true_eq, ← ew]
      exact weeks_late ok (by omega) w hw), List.length_map] at h
    rw [h, show ((s + 1 + 1 : Nat) : Int) = ((s + 1 : Nat) : Int) + 1 from rfl, Int.add_mul]
    omega
theorem cnt_weeks' (ok : HowOk (.weeks n ws)) (hf : 0 ≤ f) {s : Int} (hs : 1 ≤ s) : cnt (isD f (.weeks n ws)) (beg f (.weeks n ws) s) = s * (ws.length : Int) - left f ws := by
  have := cnt_weeks ok hf (s - 1).toNat
  rw [show (((s - 1).toNat + 1 : Nat) : Int) = s from by omega] at this
  exact this
theorem left_le : left f ws ≤ (ws.length : Int) := by
  unfold left
  have := List.length_filter_le (fun w => decide (mon f + w < f)) ws
  omega
theorem ah_weeks (ok : HowOk (.weeks n ws)) (hf : 0 ≤ f) {d s : Int} (q : SOk f (.weeks n ws) d s) :
    cnt (isD f (.weeks n ws)) d = max 0 (s * (ws.length : Int) + ((ws.filter fun w => decide (mon f + s * (7 * n) + w < d)).length : Int) - left f ws) := by
  have h := cnt_in ok hf q
  rw [in_weeks_len ok q.1] at h
  by_cases z : s = 0
  · subst z
    rw [cnt_beg0 (beg_zero hf).2] at h
    rw [h]
    simp only [Int.zero_mul, Int.add_zero]
    by_cases y : f ≤ d
    · have c := cut_len (mon f) ws f d y
      unfold left
      omega
    · have c := cut_le (mon f) ws (x := d) (y := f) (by omega)
      rw [filter_no (p := fun w => decide (mon f + w < d)) fun w hw => by
        have := (List.mem_filter.mp hw).2
        rw [decide_eq_true_eq] at this
        rw [decide_eq_false_iff_not]
        omega]
      unfold left
      show 0 + 0 = _
      omega
  · have hs := q.1
    rw [cnt_weeks' ok hf (by omega), filter_all (l := ws) (fun w hw => by
      rw [decide_eq_true_eq]
      exact weeks_late ok (by omega) w hw)] at h
    have lf := left_le (f := f) (ws := ws)
    have : 1 * (ws.length : Int) ≤ s * (ws.length : Int) := Int.mul_le_mul_of_nonneg_right (by omega) (by omega)
    omega
end
/-! ### the day at a place -/
/-- what is told of a place -/
structure AtP (f : Int) (h : How) (p : Int) (r : Option Int) : Prop where
  day : ∀ d, r = some d → isD f h d = true ∧ cnt (isD f h) d = p
  no : r = none → cnt (isD f h) 99991 ≤ p
theorem at_once {f p : Int} (hf : 0 ≤ f) (hp : 0 ≤ p) : AtP f .once p (if p = 0 then some f else none) := by
  split
  · rename_i e
    subst e
    exact ⟨fun d e => by
      injection e with e; subst e
      exact ⟨by show decide (f = f) = true; simp, by rw [ah_once hf, if_neg (by omega)]⟩, fun e => by cases e⟩
  · refine ⟨fun d e => (nomatch e), fun _ => ?_⟩
    rw [ah_once hf]
    split <;> omega
theorem at_days {f n p : Int} (ok : HowOk (.days n)) (hf : 0 ≤ f) (hp : 0 ≤ p) : AtP f (.days n) p (some (f + p * n)) := by
  refine ⟨fun d e => ?_, fun e => by cases e⟩
  injection e with e
  subst e
  refine ⟨?_, cnt_days' ok hf hp⟩
  show (decide (f ≤ f + p * n) && decide ((f + p * n - f) % n = 0)) = true
  have : 0 ≤ p * n := Int.mul_nonneg hp (by have := ok.1; omega)
  rw [Bool.and_eq_true, decide_eq_true_eq, decide_eq_true_eq, show f + p * n - f = p * n from by omega]
  exact ⟨by omega, mul_mod_zero _ _⟩
/-- of rising numbers, so many are less than the i-th -/
theorem up_below : ∀ {l : List Int} {i : Nat} {w : Int}, Up l → l[i]? = some w → (l.filter fun v => decide (v < w)).length = i
  | [], i, w, _, e => by simp at e
  | a :: l, 0, w, h, e => by
    have e : a = w := Option.some.inj e
    subst e
    obtain ⟨h1, h2⟩ := List.pairwise_cons.mp h
    rw [filter_no]
    · rfl
    · intro v hv
      rw [decide_eq_false_iff_not]
      rcases List.mem_cons.mp hv with q | q
      · omega
      · have := h1 v q; omega
  | a :: l, i + 1, w, h, e => by
    obtain ⟨h1, h2⟩ := List.pairwise_cons.mp h
    have e : l[i]? = some w := e
    have := h1 w (List.mem_of_getElem? e)
    rw [List.filter_cons, if_pos (by rw [decide_eq_true_eq]; omega), List.length_cons, up_below h2 e]
theorem filter_congr' {l : List Int} {p q : Int → Bool} (h : ∀ w, p w = q w) : l.filter p = l.filter q := by
  rw [show p = q from funext h]
theorem at_weeks {f n p : Int} {ws : List Int} (ok : HowOk (.weeks n ws)) (hf : 0 ≤ f) (hp : 0 ≤ p) {w : Int}
    (hw : ws[((p + left f ws) % (ws.length : Int)).toNat]? = some w) :
    AtP f (.weeks n ws) p (some (mon f + (p + left f ws) / (ws.length : Int) * (7 * n) + w)) := by
  refine ⟨fun d e => ?_, fun e => by cases e⟩
  injection e with e
  obtain ⟨hn, _, up, ne, h6⟩ := id ok
  have L0 : 0 < (ws.length : Int) := by
    have := List.length_pos_iff.mpr ne
    omega
  have lf := left_le (f := f) (ws := ws)
  have l0 : 0 ≤ left f ws := Int.natCast_nonneg _
  have e1 := Int.emod_add_mul_ediv (p + left f ws) (ws.length : Int)
  have e2 := Int.emod_nonneg (p + left f ws) (show (ws.length : Int) ≠ 0 by omega)
  have e3 := Int.emod_lt_of_pos (p + left f ws) L0
  have hs : 0 ≤ (p + left f ws) / (ws.length : Int) := Int.ediv_nonneg (by omega) (by omega)
  rw [Int.mul_comm] at e1
  generalize (p + left f ws) / (ws.length : Int) = s at *
  generalize (p + left f ws) % (ws.length : Int) = t at *
  obtain ⟨w0, w6⟩ := h6 w (List.mem_of_getElem? hw)
  have below := up_below up hw
  have fd : f ≤ d := by
    by_cases z : 1 ≤ s
    · have := weeks_late (f := f) ok z w (List.mem_of_getElem? hw)
      omega
    · have z0 : s = 0 := by omega
      subst z0
      rcases Int.lt_or_le d f with y | y
      · have c : (ws.filter fun v => decide (v < w)).length < (ws.filter fun v => decide (mon f + v < f)).length := by
          have q1 : (ws.filter fun v => decide (v < w)).length = (ws.filter fun v => decide (mon f + v < mon f + w)).length := by
            rw [filter_congr' (p := fun v => decide (v < w)) (q := fun v => decide (mon f + v < mon f + w)) fun v => by
              rw [Bool.eq_iff_iff, decide_eq_true_eq, decide_eq_true_eq]; omega]
          have q2 := cut_len (mon f) ws (mon f + w) f (by omega)
          have q3 : w ∈ (ws.filter fun v => decide (mon f + w ≤ mon f + v)).filter fun v => decide (mon f + v < f) :=
            List.mem_filter.mpr ⟨List.mem_filter.mpr ⟨List.mem_of_getElem? hw, by rw [decide_eq_true_eq]; omega⟩, by rw [decide_eq_true_eq]; omega⟩
          have q4 := List.length_pos_of_mem q3
          omega
        unfold left at e1
        omega
      · exact y
  have e7 : s * (7 * n) = 7 * (s * n) := by rw [Int.mul_left_comm]
  have e71 : (s + 1) * (7 * n) = 7 * (s * n) + 7 * n := by rw [Int.add_mul, e7]; omega
  obtain ⟨c1, c2⟩ := wk_eq (mon_mod f) w0 w6 (show d = mon f + 7 * (s * n) + w by omega)
  have hD : isD f (.weeks n ws) d = true := by
    show (decide (f ≤ d) && (decide ((d - mon f) / 7 % n = 0) && decide (d % 7 ∈ ws))) = true
    rw [Bool.and_eq_true, Bool.and_eq_true, decide_eq_true_eq, decide_eq_true_eq, decide_eq_true_eq, c1, c2]
    exact ⟨fd, mul_mod_zero _ _, List.mem_of_getElem? hw⟩
  refine ⟨hD, ?_⟩
  have q : SOk f (.weeks n ws) d s := ⟨hs, by show d < mon f + (s + 1) * (7 * n); omega, .inl (by show mon f + s * (7 * n) ≤ d; omega)⟩
  rw [ah_weeks ok hf q]
  rw [filter_congr' (p := fun v => decide (mon f + s * (7 * n) + v < d)) (q := fun v => decide (v < w)) fun v => by
    rw [Bool.eq_iff_iff, decide_eq_true_eq, decide_eq_true_eq]; omega, below]
  omega
/-! ### begun at one of its days -/
theorem isD_late {f g d : Int} {h : How} (ok : HowOk h) (hf : 0 ≤ f) (hg : isD f h g = true) : isD g h d = (isD f h d && decide (g ≤ d)) := by
  have fg := isD_ge hg
  rw [Bool.eq_iff_iff, Bool.and_eq_true, decide_eq_true_eq]
  cases h with
  | once =>
    have e : g = f := of_decide_eq_true hg
    subst e
    show decide (d = g) = true ↔ decide (d = g) = true ∧ _
    rw [decide_eq_true_eq]
    omega
  | days n =>
    have hg : (decide (f ≤ g) && decide ((g - f) % n = 0)) = true := hg
    show (decide (g ≤ d) && decide ((d - g) % n = 0)) = true ↔ (decide (f ≤ d) && decide ((d - f) % n = 0)) = true ∧ _
    rw [Bool.and_eq_true, decide_eq_true_eq, decide_eq_true_eq] at *
    rw [Bool.and_eq_true, decide_eq_true_eq, decide_eq_true_eq]
    have e : (d - f) % n = (d - g) % n := by
      rw [show d - f = (d - g) + (g - f) from by omega]
      obtain ⟨k, e⟩ := of_mod hg.2
      rw [e, Int.add_mul_emod_self_left]
    rw [e]
    omega
  | weeks n ws =>
    have hg : (decide (f ≤ g) && (decide ((g - mon f) / 7 % n = 0) && decide (g % 7 ∈ ws))) = true := hg
    show (decide (g ≤ d) && (decide ((d - mon g) / 7 % n = 0) && decide (d % 7 ∈ ws))) = true ↔ (decide (f ≤ d) && (decide ((d - mon f) / 7 % n = 0) && decide (d % 7 ∈ ws))) = true ∧ _
    rw [Bool.and_eq_true, Bool.and_eq_true, decide_eq_true_eq, decide_eq_true_eq, decide_eq_true_eq] at *
    rw [Bool.and_eq_true, Bool.and_eq_true, decide_eq_true_eq, decide_eq_true_eq, decide_eq_true_eq]
    have e : (d - mon f) / 7 % n = (d - mon g) / 7 % n := by
      rw [show (d - mon f) / 7 = (d - mon g) / 7 + (g - mon f) / 7 from by unfold mon; omega]
      obtain ⟨k, e⟩ := of_mod hg.2.1
      rw [e, Int.add_mul_emod_self_left]
    rw [e]
    constructor
    · rintro ⟨a, b, c⟩; exact ⟨⟨by omega, b, c⟩, a⟩
    · rintro ⟨⟨_, b, c⟩, a⟩; exact ⟨a, b, c⟩
  | dates n t =>
    rw [isD_mon (f := g) (by trivial), isD_mon (f := f) (by trivial)]
    rw [isD_mon (by trivial)] at hg
    rw [Bool.and_eq_true, Bool.and_eq_true, decide_eq_true_eq, decide_eq_true_eq, decide_eq_true_eq] at *
    rw [Bool.and_eq_true, Bool.and_eq_true, decide_eq_true_eq, decide_eq_true_eq, decide_eq_true_eq]
    have e : (monthOf d - monthOf f) % step (.dates n t) = (monthOf d - monthOf g) % step (.dates n t) := by
      rw [show monthOf d - monthOf f = (monthOf d - monthOf g) + (monthOf g - monthOf f) from by omega]
      obtain ⟨k, e⟩ := of_mod hg.2.1
      rw [e, Int.add_mul_emod_self_left]
    rw [e]
    constructor
    · rintro ⟨a, b, c⟩; exact ⟨⟨by omega, b, c⟩, a⟩
    · rintro ⟨⟨_, b, c⟩, a⟩; exact ⟨a, b, c⟩
  | wkds n w o =>
    rw [isD_mon (f := g) (by trivial), isD_mon (f := f) (by trivial)]
    rw [isD_mon (by trivial)] at hg
    rw [Bool.and_eq_true, Bool.and_eq_true, decide_eq_true_eq, decide_eq_true_eq, decide_eq_true_eq] at *
    rw [Bool.and_eq_true, Bool.and_eq_true, decide_eq_true_eq, decide_eq_true_eq, decide_eq_true_eq]
    have e : (monthOf d - monthOf f) % step (.wkds n w o) = (monthOf d - monthOf g) % step (.wkds n w o) := by
      rw [show monthOf d - monthOf f = (monthOf d - monthOf g) + (monthOf g - monthOf f) from by omega]
      obtain ⟨k, e⟩ := of_mod hg.2.1
      rw [e, Int.add_mul_emod_self_left]
    rw [e]
    constructor
    · rintro ⟨a, b, c⟩; exact ⟨⟨by omega, b, c⟩, a⟩
    · rintro ⟨⟨_, b, c⟩, a⟩; exact ⟨a, b, c⟩
end Gc

namespace Gc
/-! ### what the functions over rules tell -/
inductive End where
  | no
  | upto (u : Int)
  | times (c : Int)
  deriving DecidableEq
def EndOk (f : Int) : End → Prop
  | .no => True
  | .upto u => f ≤ u ∧ u ≤ 99990
  | .times c => 1 ≤ c ∧ c ≤ 2000
/-- the day at a place, none beyond 99990 -/
def atW (f : Int) (h : How) (p : Int) : Option Int := (seg (isD f h) 0 99991)[p.toNat]?
def lim (f : Int) (h : How) : End → Int
  | .no => 99990
  | .upto u => u
  | .times c => (atW f h (c - 1)).getD 99990
def dayAt (f : Int) (h : How) (e : End) (p : Int) : Option Int := (atW f h p).bind fun d => if d ≤ lim f h e then some d else none
def endTest (f : Int) (h : How) (e : End) (d : Int) : Bool := match e with
  | .no => true
  | .upto u => decide (d ≤ u)
  | .times c => decide (cnt (isD f h) d < c)
def isDay (f : Int) (h : How) (e : End) (d : Int) : Bool := decide (d ≤ 99990) && (isD f h d && endTest f h e d)
def placeOf (f : Int) (h : How) (e : End) (d : Int) : Option Int := if isDay f h e d = true then some (cnt (isD f h) d) else none
def daysOf (f : Int) (h : How) (e : End) (lo hi : Int) : List Int := seg (isD f h) lo (min hi (lim f h e) + 1)
def lastDay (f : Int) (h : How) (e : End) : Option Int := (seg (isD f h) 0 (lim f h e + 1)).getLast?
section
variable {f : Int} {h : How}
theorem atW_some {p d : Int} (hp : 0 ≤ p) (e : atW f h p = some d) : isD f h d = true ∧ 0 ≤ d ∧ d ≤ 99990 ∧ cnt (isD f h) d = p := by
  obtain ⟨a, b, c, d⟩ := at_cnt e
  exact ⟨a, b, by omega, by omega⟩
theorem atW_none {p : Int} (hp : 0 ≤ p) (e : atW f h p = none) : cnt (isD f h) 99991 ≤ p := by
  have := List.getElem?_eq_none_iff.mp e
  unfold cnt
  omega
theorem atW_is {p d : Int} (hf : 0 ≤ f) (hd : isD f h d = true) (hl : d ≤ 99990) (hc : cnt (isD f h) d = p) : atW f h p = some d := by
  have := isD_ge hd
  unfold atW
  rw [← hc]
  exact seg_at (by omega) hd (by omega)
theorem atW_no {p : Int} (hc : cnt (isD f h) 99991 ≤ p) : atW f h p = none := by
  unfold atW
  rw [List.getElem?_eq_none_iff]
  unfold cnt at hc
  omega
theorem atP_far {p d : Int} (hf : 0 ≤ f) (A : AtP f h p (some d)) (hd : 99990 < d) : atW f h p = none := by
  obtain ⟨a, b⟩ := A.day d rfl
  exact atW_no (by rw [← b]; exact cnt_mono (by omega) (by omega))
theorem atP_near {p d : Int} (hf : 0 ≤ f) (A : AtP f h p (some d)) (hd : d ≤ 99990) : atW f h p = some d := by
  obtain ⟨a, b⟩ := A.day d rfl
  exact atW_is hf a hd b
theorem atP_none {p : Int} (A : AtP f h p none) : atW f h p = none := atW_no (A.no rfl)
theorem lim_none {c : Int} (A : AtP f h (c - 1) none) : lim f h (.times c) = 99990 := by
  show (atW f h (c - 1)).getD 99990 = 99990
  rw [atP_none A]
  rfl
theorem lim_some {c d : Int} (hf : 0 ≤ f) (A : AtP f h (c - 1) (some d)) : lim f h (.times c) = min d 99990 := by
  show (atW f h (c - 1)).getD 99990 = _
  by_cases q : d ≤ 99990
  · rw [atP_near hf A q, Int.min_eq_left q]
    rfl
  · rw [atP_far hf A (by omega), Int.min_eq_right (by omega)]
    rfl
theorem lim_le {e : End} (ok : EndOk f e) (hf : 0 ≤ f) : 0 ≤ lim f h e ∧ lim f h e ≤ 99990 := by
  cases e with
  | no => show (0 : Int) ≤ 99990 ∧ (99990 : Int) ≤ 99990; omega
  | upto u => obtain ⟨a, b⟩ := ok; exact ⟨by show 0 ≤ u; omega, b⟩
  | times c =>
    show 0 ≤ (atW f h (c - 1)).getD 99990 ∧ (atW f h (c - 1)).getD 99990 ≤ 99990
    cases z : atW f h (c - 1) with
    | none => exact ⟨by decide, by decide⟩
    | some d =>
      obtain ⟨_, a, b, _⟩ := atW_some (by have := ok.1; omega) z
      exact ⟨a, b⟩
theorem dayAt_none {e : End} {p : Int} (A : AtP f h p none) : dayAt f h e p = none := by
  unfold dayAt
  rw [atP_none A]
  rfl
theorem dayAt_some {e : End} {p d : Int} (ok : EndOk f e) (hf : 0 ≤ f) (A : AtP f h p (some d)) : dayAt f h e p = if d ≤ lim f h e then some d else none := by
  unfold dayAt
  by_cases q : d ≤ 99990
  · rw [atP_near hf A q]
    rfl
  · rw [atP_far hf A (by omega), if_neg (by have := (lim_le (h := h) ok hf).2; omega)]
    rfl
/-! the loops -/
theorem days_step {lo b s : Int} (ok : HowOk h) (hf : 0 ≤ f) (hs : 0 ≤ s) :
    seg (isD f h) lo (min (b + 1) (beg f h (s + 1))) = seg (isD f h) lo (min (b + 1) (beg f h s)) ++ (inS f h s).filter (fun d => decide (lo ≤ d) && decide (d ≤ b)) := by
  have bl := beg_lt (f := f) ok hs
  refine (seg_eq (up_append (seg_up _ _ _) (up_filter _ (seg_up _ _ _)) ?_) ?_).symm
  · intro x hx y hy
    have := mem_seg.mp hx
    have := mem_seg.mp (List.mem_filter.mp hy).1
    omega
  · intro d
    rw [List.mem_append, mem_seg, List.mem_filter, mem_seg, Bool.and_eq_true, decide_eq_true_eq, decide_eq_true_eq]
    constructor
    · rintro (⟨a, b, c⟩ | ⟨⟨a, b, c⟩, d, e⟩)
      · exact ⟨a, by omega, c⟩
      · exact ⟨d, by omega, c⟩
    · rintro ⟨a, b, c⟩
      by_cases q : d < beg f h s
      · exact .inl ⟨a, by omega, c⟩
      · exact .inr ⟨⟨by omega, by omega, c⟩, a, by omega⟩
theorem days_start {lo b s : Int} (hf : 0 ≤ f) (q : SOk f h lo s) : seg (isD f h) lo (min (b + 1) (beg f h s)) = [] := by
  refine seg_nil fun d h1 h2 => ?_
  rcases q.2.2 with z | z
  · omega
  · subst z
    cases y : isD f h d with
    | false => rfl
    | true => have := isD_ge y; have := (beg_zero (h := h) hf).2; omega
theorem days_end {lo b s : Int} (q : b < beg f h s) : seg (isD f h) lo (min (b + 1) (beg f h s)) = seg (isD f h) lo (b + 1) := by
  rw [Int.min_eq_left (by omega)]
theorem last_step {l s : Int} (ok : HowOk h) (hf : 0 ≤ f) (hs : 0 ≤ s) :
    seg (isD f h) 0 (min (l + 1) (beg f h (s + 1))) = seg (isD f h) 0 (min (l + 1) (beg f h s)) ++ (inS f h s).filter (fun d => decide (d ≤ l)) := by
  rw [days_step ok hf hs]
  congr 1
  refine List.filter_congr fun d hd => ?_
  have := (mem_seg.mp hd).1
  have := beg_nn (f := f) ok hf hs
  rw [decide_eq_true (show 0 ≤ d by omega), Bool.true_and]
theorem last_zero {l : Int} (hf : 0 ≤ f) : seg (isD f h) 0 (min (l + 1) (beg f h 0)) = [] := by
  refine seg_nil fun d h1 h2 => ?_
  cases y : isD f h d with
  | false => rfl
  | true => have := isD_ge y; have := (beg_zero (h := h) hf).2; omega
theorem last_start {l s : Int} (q : SOk f h l s) : seg (isD f h) 0 (min (l + 1) (beg f h (s + 1))) = seg (isD f h) 0 (l + 1) := by
  have := q.2.1
  rw [Int.min_eq_left (by omega)]
theorem getLast_app {a b : List Int} (hb : b ≠ []) : (a ++ b).getLast? = b.getLast? := by
  cases b with
  | nil => exact absurd rfl hb
  | cons x r => rw [List.getLast?_append, List.getLast?_eq_some_getLast (List.cons_ne_nil x r)]; rfl
end

/-! ### the law's questions -/
section
variable {f : Int} {h : How}
theorem seg_snoc {p : Int → Bool} {d : Int} (h0 : 0 ≤ d) (hd : p d = true) : seg p 0 (d + 1) = seg p 0 d ++ [d] := by
  rw [seg_cat (mid := d) h0 (by omega)]
  congr 1
  exact (seg_eq (l := [d]) (List.pairwise_singleton _ _) fun e => by
      rw [List.mem_singleton]
      constructor
      · intro q; subst q; exact ⟨by omega, by omega, hd⟩
      · rintro ⟨a, b, c⟩; omega).symm
theorem seg_one {p : Int → Bool} {d : Int} (hd : p d = true) : seg p d (d + 1) = [d] :=
  (seg_eq (l := [d]) (List.pairwise_singleton _ _) fun e => by
      rw [List.mem_singleton]
      constructor
      · intro q; subst q; exact ⟨by omega, by omega, hd⟩
      · rintro ⟨a, b, c⟩; omega).symm
theorem last_at {p : Int → Bool} {d : Int} (h0 : 0 ≤ d) (hd : p d = true) : (seg p 0 (d + 1)).getLast? = some d := by
  rw [seg_snoc h0 hd, List.getLast?_append]
  rfl
/-- no day: not its first one either -/
theorem q_none {high : Int} (h1 : 0 ≤ f) (h2 : f ≤ high) (h3 : high ≤ 99990) (e : (daysOf f h .no 0 high).take 200 = []) : isDay f h .no f = false := by
  cases z : isDay f h .no f with
  | false => rfl
  | true =>
    have hd : isD f h f = true := by
      unfold isDay at z
      rw [Bool.and_eq_true, Bool.and_eq_true] at z
      exact z.2.1
    have m : f ∈ daysOf f h .no 0 high := mem_seg.mpr ⟨h1, by show f < min high 99990 + 1; omega, hd⟩
    have l := List.length_pos_of_mem m
    have l2 := congrArg List.length e
    rw [List.length_take] at l2
    simp at l2
    rw [l2] at m
    cases m
structure Far (f : Int) (h : How) (p d : Int) (e : End) : Prop where
  eok : EndOk f e
  last : lastDay f h e = some d
  day : isDay f h e d = true
  next : dayAt f h e (p + 1) = none
  days : daysOf f h e d (min 99999 (d + 3100)) = [d]
  place : placeOf f h e d = some p
theorem far_of {p d : Int} {e : End} (hf : 0 ≤ f) (hp : 0 ≤ p) (hd : isD f h d = true) (hl : d ≤ 99990) (hc : cnt (isD f h) d = p) (ok : EndOk f e) (el : lim f h e = d) (et : endTest f h e d = true) : Far f h p d e := by
  have ge := isD_ge hd
  have day : isDay f h e d = true := by
    unfold isDay
    rw [hd, et, decide_eq_true hl]
    rfl
  refine ⟨ok, ?_, day, ?_, ?_, ?_⟩
  · unfold lastDay
    rw [el]
    exact last_at (by omega) hd
  · unfold dayAt
    cases z : atW f h (p + 1) with
    | none => rfl
    | some d' =>
      obtain ⟨a, b, _, c⟩ := atW_some (by omega) z
      show (if d' ≤ lim f h e then some d' else none) = none
      rw [el, if_neg]
      intro y
      have := cnt_mono (p := isD f h) b y
      omega
  · unfold daysOf
    rw [el, show min (min 99999 (d + 3100)) d = d from by omega]
    exact seg_one hd
  · unfold placeOf
    rw [if_pos day, hc]
theorem far_times {p d : Int} (hf : 0 ≤ f) (hp : 0 ≤ p) (hp2 : p ≤ 1999) (hd : isD f h d = true) (hl : d ≤ 99990) (hc : cnt (isD f h) d = p) : Far f h p d (.times (p + 1)) := by
  refine far_of hf hp hd hl hc ⟨by omega, by omega⟩ ?_ ?_
  · show (atW f h (p + 1 - 1)).getD 99990 = d
    rw [show p + 1 - 1 = p from by omega, atW_is hf hd hl hc]
    rfl
  · show decide (cnt (isD f h) d < p + 1) = true
    rw [decide_eq_true_eq]
    omega
theorem far_until {p d : Int} (hf : 0 ≤ f) (hp : 0 ≤ p) (hd : isD f h d = true) (hl : d ≤ 99990) (hc : cnt (isD f h) d = p) : Far f h p d (.upto d) := by
  refine far_of hf hp hd hl hc ⟨isD_ge hd, hl⟩ rfl ?_
  show decide (d ≤ d) = true
  rw [decide_eq_true_eq]
  omega
theorem cnt_no {x : Int} (ok : 0 ≤ f) : True := trivial
/-- a rule that has a day has a last one -/
theorem q_last {high : Int} (hf : 0 ≤ f) (ne : daysOf f h .no 0 high ≠ []) : ∃ l, lastDay f h .no = some l ∧ isD f h l = true ∧ 0 ≤ l ∧ l ≤ 99990 ∧ isDay f h .no l = true ∧ daysOf f h .no (l + 1) 99999 = [] ∧ ∀ d, isD f h d = true → d ≤ 99990 → d ≤ l := by
  obtain ⟨x, hx⟩ := List.exists_mem_of_ne_nil _ ne
  have hx := mem_seg.mp hx
  have hx1 : x < min high 99990 + 1 := hx.2.1
  have m : x ∈ seg (isD f h) 0 (99990 + 1) := mem_seg.mpr ⟨hx.1, by omega, hx.2.2⟩
  cases z : lastDay f h .no with
  | none =>
    have z : (seg (isD f h) 0 (99990 + 1)).getLast? = none := z
    rw [List.getLast?_eq_none_iff] at z
    rw [z] at m
    cases m
  | some l =>
    have z : (seg (isD f h) 0 (99990 + 1)).getLast? = some l := z
    obtain ⟨ys, e⟩ := List.getLast?_eq_some_iff.mp z
    have ml : l ∈ seg (isD f h) 0 (99990 + 1) := by rw [e]; simp
    obtain ⟨a, b, c⟩ := mem_seg.mp ml
    have top : ∀ d, isD f h d = true → d ≤ 99990 → d ≤ l := by
      intro d hd hl
      have up := seg_up (isD f h) 0 (99990 + 1)
      rw [e] at up
      have md : d ∈ seg (isD f h) 0 (99990 + 1) := mem_seg.mpr ⟨by have := isD_ge hd; omega, by omega, hd⟩
      rw [e] at md
      rcases List.mem_append.mp md with q | q
      · have := (List.pairwise_append.mp up).2.2 d q l (by simp)
        omega
      · have := List.mem_singleton.mp q
        omega
    refine ⟨l, rfl, c, a, by omega, ?_, ?_, top⟩
    · unfold isDay
      rw [c, decide_eq_true (show l ≤ 99990 by omega)]
      rfl
    · refine seg_nil fun d h1 h2 => ?_
      have h2 : d < min 99999 99990 + 1 := h2
      cases y : isD f h d with
      | false => rfl
      | true => have := top d y (by omega); omega
theorem q_far_none {l p : Int} (hf : 0 ≤ f) (hp : 0 ≤ p) (hl : isD f h l = true) (hl2 : l ≤ 99990) (hday : isDay f h .no l = true) (e : dayAt f h .no p = none) : placeOf f h .no l = some (cnt (isD f h) l) ∧ cnt (isD f h) l < p := by
  refine ⟨by unfold placeOf; rw [if_pos hday], ?_⟩
  have z : atW f h p = none := by
    cases z : atW f h p with
    | none => rfl
    | some d =>
      unfold dayAt at e
      rw [z] at e
      have e : (if d ≤ 99990 then some d else none) = none := e
      rw [if_pos (atW_some hp z).2.2.1] at e
      cases e
  have := atW_none hp z
  have := cnt_lt (p := isD f h) (by have := isD_ge hl; omega) hl (show l < 99991 by omega)
  omega
theorem q_far_some {d p : Int} (hp : 0 ≤ p) (e : dayAt f h .no p = some d) : isD f h d = true ∧ d ≤ 99990 ∧ cnt (isD f h) d = p ∧ placeOf f h .no d = some p := by
  unfold dayAt at e
  obtain ⟨d', z, e⟩ := Option.bind_eq_some_iff.mp e
  obtain ⟨a, b, c, k⟩ := atW_some hp z
  have e : (if d' ≤ 99990 then some d' else none) = some d := e
  rw [if_pos c] at e
  injection e with e
  subst e
  refine ⟨a, c, k, ?_⟩
  unfold placeOf
  rw [if_pos, k]
  unfold isDay
  rw [a, decide_eq_true c]
  rfl

/-! the days taken -/
variable {high : Int} {days : List Int}
structure Taken (f : Int) (h : How) (high : Int) (days : List Int) : Prop where
  ok : HowOk h
  f0 : 2 ≤ f
  fh : f ≤ high
  hi : high ≤ 99990
  eq : days = (daysOf f h .no 0 high).take 200
theorem Taken.get (T : Taken f h high days) {i : Nat} {d : Int} (e : days[i]? = some d) : isD f h d = true ∧ f ≤ d ∧ d ≤ high ∧ cnt (isD f h) d = (i : Int) := by
  rw [T.eq, List.getElem?_take] at e
  split at e
  · obtain ⟨a, b, c, k⟩ := at_cnt (show (seg (isD f h) 0 (min high 99990 + 1))[i]? = some d from e)
    exact ⟨a, isD_ge a, by omega, k⟩
  · cases e
theorem Taken.len (T : Taken f h high days) : days.length ≤ 200 := by
  rw [T.eq, List.length_take]
  omega
theorem Taken.up (T : Taken f h high days) : Up days := by
  rw [T.eq]
  exact List.Pairwise.sublist (List.take_sublist _ _) (seg_up _ _ _)
theorem take_get {l : List Int} {i : Nat} {d : Int} (e : l[i]? = some d) : l.take (i + 1) = l.take i ++ [d] := by
  rw [List.take_succ, e]
  rfl
/-- the first so many are those up to the last of them -/
theorem Taken.take (T : Taken f h high days) {k : Nat} {d : Int} (e : days[k]? = some d) : days.take (k + 1) = seg (isD f h) 0 (d + 1) := by
  obtain ⟨a, b, c, _⟩ := T.get e
  refine seg_eq (List.Pairwise.sublist (List.take_sublist _ _) T.up) fun x => ?_
  obtain ⟨kl, ke⟩ := List.getElem?_eq_some_iff.mp e
  constructor
  · intro m
    obtain ⟨i, hi, ei⟩ := List.mem_iff_getElem.mp m
    rw [List.length_take] at hi
    rw [List.getElem_take] at ei
    have g : days[i]? = some x := List.getElem?_eq_some_iff.mpr ⟨by omega, ei⟩
    obtain ⟨a', b', c', _⟩ := T.get g
    have := T.f0
    refine ⟨by omega, ?_, a'⟩
    rcases Nat.lt_or_ge i k with y | y
    · have := (List.pairwise_iff_getElem.mp T.up) i k (by omega) kl y
      rw [ei, ke] at this
      omega
    · have : i = k := by omega
      subst this
      have : x = d := by rw [← ei, ← ke]
      omega
  · rintro ⟨x0, x1, x2⟩
    have s := seg_at (hi := min high 99990 + 1) x0 x2 (by have := T.hi; omega)
    have cx : (cnt (isD f h) x).toNat ≤ k := by
      have := (T.get e).2.2.2
      have := cnt_mono (p := isD f h) x0 (show x ≤ d by omega)
      omega
    refine List.mem_of_getElem? (i := (cnt (isD f h) x).toNat) ?_
    rw [List.getElem?_take, if_pos (by omega), T.eq, List.getElem?_take, if_pos (by have := T.len; omega)]
    exact s
theorem Taken.far_t (T : Taken f h high days) {k : Nat} {d : Int} (e : days[k]? = some d) : Far f h (k : Int) d (.times ((k : Int) + 1)) := by
  obtain ⟨a, b, c, q⟩ := T.get e
  have := (List.getElem?_eq_some_iff.mp e).1
  have := T.len
  exact far_times (by have := T.f0; omega) (by omega) (by omega) a (by have := T.hi; omega) q
theorem Taken.far_u (T : Taken f h high days) {k : Nat} {d : Int} (e : days[k]? = some d) : Far f h (k : Int) d (.upto d) := by
  obtain ⟨a, b, c, q⟩ := T.get e
  exact far_until (by have := T.f0; omega) (by omega) a (by have := T.hi; omega) q
theorem Taken.days_t (T : Taken f h high days) {k : Nat} {d : Int} (e : days[k]? = some d) : daysOf f h (.times ((k : Int) + 1)) 0 high = days.take (k + 1) := by
  obtain ⟨a, b, c, q⟩ := T.get e
  rw [T.take e]
  unfold daysOf
  show seg _ 0 (min high ((atW f h ((k : Int) + 1 - 1)).getD 99990) + 1) = _
  rw [show (k : Int) + 1 - 1 = (k : Int) from by omega, atW_is (by have := T.f0; omega) a (by have := T.hi; omega) q, show min high ((some d).getD 99990) = d from by show min high d = d; omega]
theorem Taken.days_u (T : Taken f h high days) {k : Nat} {d : Int} (e : days[k]? = some d) : daysOf f h (.upto d) 0 high = days.take (k + 1) := by
  obtain ⟨a, b, c, q⟩ := T.get e
  rw [T.take e]
  unfold daysOf
  show seg _ 0 (min high d + 1) = _
  rw [show min high d = d from by omega]
/-- begun at one of its days -/
theorem Taken.late_days (T : Taken f h high days) {k : Nat} {d l : Int} (e : days[k]? = some d) (el : days[days.length - 1]? = some l) : daysOf d h .no 0 l = days.drop k := by
  obtain ⟨a, b, c, q⟩ := T.get e
  obtain ⟨a2, b2, c2, q2⟩ := T.get el
  have f0 := T.f0
  have hi := T.hi
  obtain ⟨kl, ke⟩ := List.getElem?_eq_some_iff.mp e
  have tk := T.take el
  rw [show days.length - 1 + 1 = days.length from by omega, List.take_length] at tk
  symm
  unfold daysOf
  refine seg_eq (List.Pairwise.sublist (List.drop_sublist _ _) T.up) fun x => ?_
  show _ ↔ 0 ≤ x ∧ x < min l 99990 + 1 ∧ _
  rw [isD_late T.ok (by omega) a, Bool.and_eq_true, decide_eq_true_eq]
  constructor
  · intro m
    obtain ⟨i, hi, ei⟩ := List.mem_iff_getElem.mp m
    rw [List.length_drop] at hi
    rw [List.getElem_drop] at ei
    have g : days[k + i]? = some x := List.getElem?_eq_some_iff.mpr ⟨by omega, ei⟩
    have mx : x ∈ seg (isD f h) 0 (l + 1) := by rw [← tk]; exact List.mem_of_getElem? g
    obtain ⟨m1, m2, m3⟩ := mem_seg.mp mx
    refine ⟨m1, by omega, m3, ?_⟩
    rcases Nat.eq_zero_or_pos i with y | y
    · subst y
      have : x = d := by rw [← ei, ← ke]; rfl
      omega
    · have := (List.pairwise_iff_getElem.mp T.up) k (k + i) kl (by omega) (by omega)
      rw [ei, ke] at this
      omega
  · rintro ⟨x0, x1, x2, x3⟩
    have mx : x ∈ days := by rw [tk]; exact mem_seg.mpr ⟨x0, by omega, x2⟩
    obtain ⟨i, hi, ei⟩ := List.mem_iff_getElem.mp mx
    have : k ≤ i := by
      rcases Nat.lt_or_ge i k with y | y
      · have := (List.pairwise_iff_getElem.mp T.up) i k hi kl y
        rw [ei, ke] at this
        omega
      · exact y
    refine List.mem_of_getElem? (i := i - k) ?_
    rw [List.getElem?_drop, show k + (i - k) = i from by omega]
    exact List.getElem?_eq_some_iff.mpr ⟨hi, ei⟩
theorem Taken.late_place (T : Taken f h high days) {k : Nat} {d l : Int} (e : days[k]? = some d) (el : days[days.length - 1]? = some l) : placeOf d h .no l = some ((days.length : Int) - 1 - (k : Int)) := by
  obtain ⟨a, b, c, q⟩ := T.get e
  obtain ⟨a2, b2, c2, q2⟩ := T.get el
  have f0 := T.f0
  have hi := T.hi
  have kl := (List.getElem?_eq_some_iff.mp e).1
  have dl : d ≤ l := by
    rcases Int.lt_or_le l d with y | y
    · have := cnt_lt (p := isD f h) (by omega) a2 y
      omega
    · exact y
  have hd : isD d h l = true := by
    rw [isD_late T.ok (by omega) a, a2, decide_eq_true dl]
    rfl
  unfold placeOf
  rw [if_pos (by unfold isDay; rw [hd, decide_eq_true (show l ≤ 99990 by omega)]; rfl)]
  refine congrArg some ?_
  have ld := T.late_days e el
  unfold daysOf at ld
  have ld : seg (isD d h) 0 (min l 99990 + 1) = days.drop k := ld
  rw [show min l 99990 = l from by omega, seg_snoc (by omega) hd] at ld
  have := congrArg List.length ld
  rw [List.length_append, List.length_drop, List.length_singleton] at this
  unfold cnt
  omega
theorem Taken.late_none (T : Taken f h high days) {k j : Nat} {d x : Int} (e : days[k]? = some d) (ex : days[j]? = some x) (hj : j < k) : isDay d h .no x = false ∧ placeOf d h .no x = none := by
  obtain ⟨a, b, c, q⟩ := T.get e
  have f0 := T.f0
  obtain ⟨kl, ke⟩ := List.getElem?_eq_some_iff.mp e
  obtain ⟨jl, je⟩ := List.getElem?_eq_some_iff.mp ex
  have := (List.pairwise_iff_getElem.mp T.up) j k jl kl hj
  rw [je, ke] at this
  have z : isDay d h .no x = false := by
    unfold isDay
    rw [isD_late T.ok (by omega) a, decide_eq_false (show ¬ d ≤ x by omega), Bool.and_false, Bool.false_and, Bool.and_false]
  refine ⟨z, ?_⟩
  unfold placeOf
  rw [z]
  rfl
end
end Gc

namespace Gc
open PySem PySem.Spec PyProof.Rows L2
/-! ### the text by places -/
def topS (i : Nat) : Stmt := PySem.Challenge.pw_guestcopies_k18_whole_rules_cut_and_begu.main.body.getD i (.Pass ⟨0, 0, 0, 0⟩)
/-! ### heaps -/
theorem same_new {H : Hp} {p : Addr} {o : HO} (h : H p = none) : Same H (upd H p o) := fun b u e => (upd_ne (ne_of_none e h)).trans e
theorem Same.tup {K : PySem.W.Frag} {H H' : Hp} {a : Addr} {xs : List V} (e : Same H H') (h : SqT K H a xs) : SqT K H' a xs :=
  h.elim (fun h => .inl (h.elim (fun h => .inl (e _ _ h)) fun ⟨o, h⟩ => .inr ⟨o, e _ _ h⟩)) fun h => .inr h
theorem max_ite (x : Int) : (if x > 0 then x else 0) = max 0 x := by
  by_cases h : x > 0
  · rw [if_pos h]; omega
  · rw [if_neg h]; omega
theorem min_ite (i j : Int) : (if j < i then j else i) = min i j := by
  by_cases h : j < i
  · rw [if_pos h]; omega
  · rw [if_neg h]; omega
/-! ### a def by its name -/
def Kn (P : Program) (w : World) (K : PySem.W.Frag) (mg : Str → Option Value) (base : Heap) (x : Str) (k : Nat) (ps : List Str) (sp : Sp) : Prop :=
  ∃ (f : Addr) (fd : FuncData), mg x = some (.ref f) ∧ PySem.W.keepIn K (.ref f) = true ∧ Binds K fd ps [] ∧ FnOk P w K mg base CX0 k f fd ps sp
theorem pe_kn {X : Cx} {x : Str} {k : Nat} {ps : List Str} {sp : Sp} {p pos : Pos} {e : Expr} {es : List Expr} {t : TA} (D : Kn X.prog X.w X.K X.mg X.base x k ps sp) (hr : Room k X.A) (hg : Gl X x) (ha : PA X (e :: es) t)
    (hdb : (x == ("__debug__" : Str)) = false := by decide) (he : starEach (e :: es) X.env = (false, eval e X.env) :: starEach es X.env := by rfl) (hpl : (backTo pos (starEach es X.env)).any (·.1) = false := by rfl) :
    PE X (.Call (.Name x p) (e :: es) [] pos) (tCall sp [] E0 t) := by
  obtain ⟨f, fd, hm, hk, hb, F⟩ := D
  exact pe_call F hr hg hm hk hb .nil pass0 ha hdb he hpl
/-- a method by its name -/
def Me (P : Program) (w : World) (K : PySem.W.Frag) (mg : Str → Option Value) (base : Heap) (C : Addr) (x : Str) (k : Nat) (ps : List Str) (sp : Sp) : Prop :=
  ∃ (f : Addr) (fd : FuncData), Meth K C x f ∧ Binds K fd ps [] ∧ FnOk P w K mg base CX0 k f fd ps sp
theorem pe_me {X : Cx} {C : Addr} {x : Str} {k : Nat} {ps : List Str} {sp : Sp} {apos pos : Pos} {o e : Expr} {es : List Expr} {ta : TE} {t : TA} {pl : Sem Bool} (ho : PE X o ta) (c : Cls X.K C) (D : Me X.prog X.w X.K X.mg X.base C x k ps sp) (hr : Room k X.A) (ha : PA X (e :: es) t)
    (hst : starEach (e :: es) X.env = (false, eval e X.env) :: starEach es X.env := by rfl) (hpl : (backTo pos (starEach es X.env)).any (·.1) = false := by rfl)
    (ht : eval (.Call (.Attribute o x apos) (e :: es) [] pos) X.env = (do
      let ov ← eval o X.env
      standAt apos.atName
      let (f, first) ← holding [ov] (getMethod ov x pl)
      callWith pos f first (backTo pos (starEach (e :: es) X.env)) (backToKw pos (keywordEach [] X.env))) := by rfl) :
    PE X (.Call (.Attribute o x apos) (e :: es) [] pos) (tMeth C x sp [] E0 ta t) := by
  obtain ⟨f, fd, hm, hb, F⟩ := D
  exact pe_meth ho c hm F hr hb .nil pass0 ha hst hpl ht
/-- a plain def read off a class and called: C.m(e, ..) -/
structure CFn (P : Program) (w : World) (K : PySem.W.Frag) (mg : Str → Option Value) (base : Heap) (C : Addr) (mc : Value) (x : Str) (k : Nat) (ps : List Str) (sp : Sp) : Prop where
  rd : ClX.CRead K C mc
  fn : ∃ (f : Addr) (fd : FuncData), PySem.W.findCls K (.ref C) mc x = some (.val (.ref f)) ∧ PySem.W.keepIn K (.ref f) = true ∧ Binds K fd ps [] ∧ FnOk P w K mg base CX0 k f fd ps sp
def tCfn (C : Addr) (sp : Sp) (ta : TE) (t : TA) : TE := fun σ H Q => ta σ H fun x H1 => x = .ref C ∧ t σ H1 fun vs H2 => sp (vs ++ []) H2 Q E0
theorem pe_cfn {X : Cx} {C : Addr} {mc : Value} {x : Str} {k : Nat} {ps : List Str} {sp : Sp} {apos pos : Pos} {o e : Expr} {es : List Expr} {ta : TE} {t : TA} {pl : Sem Bool} (ho : PE X o ta) (D : CFn X.prog X.w X.K X.mg X.base C mc x k ps sp) (hr : Room k X.A) (ha : PA X (e :: es) t)
    (hst : starEach (e :: es) X.env = (false, eval e X.env) :: starEach es X.env := by rfl) (hpl : (backTo pos (starEach es X.env)).any (·.1) = false := by rfl)
    (ht : eval (.Call (.Attribute o x apos) (e :: es) [] pos) X.env = (do
      let ov ← eval o X.env
      standAt apos.atName
      let (f, first) ← holding [ov] (getMethod ov x pl)
      callWith pos f first (backTo pos (starEach (e :: es) X.env)) (backToKw pos (keywordEach [] X.env))) := by rfl) :
    PE X (.Call (.Attribute o x apos) (e :: es) [] pos) (tCfn C sp ta t) := by
  obtain ⟨rd, f, fd, fv, hk, hb, F⟩ := D
  refine ⟨fun pins s σ H Q I h => ?_⟩
  refine PySem.W.methodCall_KW (pl := pl) (thn (ho.run pins s σ H _ I h) fun u s1 ⟨v, H1, I1, rx, ex, q⟩ => ?_) ht
  subst ex
  obtain rfl : u = Value.ref C := rx
  refine PySem.W.method_cls I1.kIn rd.ga (PySem.W.cls_value I1.kIn rd.rd fv rfl ?_)
  refine PySem.W.callWith_K (first := []) (h₀ := X.base) I1.ok.mod.kin hk (thn (ha.run pos pins _ σ H1 _ (I1.tok _) q) fun us s2 ⟨vs, H2, I2, r, q2⟩ => ⟨I2.kIn, ?_⟩) hst hpl
  exact run_fn F hr hb .nil pass0 I2 r q2
end Gc

namespace Gc
open PySem PySem.Spec PyProof.Rows L2
/-! ### days -/
abbrev sLeap : Stmt := topS 3
abbrev sAhead : Stmt := topS 4
abbrev sMonLen : Stmt := topS 5
abbrev sFirst : Stmt := topS 6
abbrev sMonth : Stmt := topS 7
abbrev sWeekday : Stmt := topS 8
theorem scLeap : FnScope ["year"] ["year"] (defScope sLeap) := ⟨rfl, rfl, rfl, by decide +kernel, rfl, by decide +kernel, by decide +kernel⟩
theorem scAhead : FnScope ["year", "many", "before", "leaps"] ["year"] (defScope sAhead) := ⟨rfl, rfl, rfl, by decide +kernel, rfl, by decide +kernel, by decide +kernel⟩
theorem scMonLen : FnScope ["month", "year", "place"] ["month"] (defScope sMonLen) := ⟨rfl, rfl, rfl, by decide +kernel, rfl, by decide +kernel, by decide +kernel⟩
theorem scFirst : FnScope ["month", "year", "place", "day", "ahead"] ["month"] (defScope sFirst) := ⟨rfl, rfl, rfl, by decide +kernel, rfl, by decide +kernel, by decide +kernel⟩
theorem scMonth : FnScope ["day", "year", "month", "rest"] ["day"] (defScope sMonth) := ⟨rfl, rfl, rfl, by decide +kernel, rfl, by decide +kernel, by decide +kernel⟩
theorem scWeekday : FnScope ["day"] ["day"] (defScope sWeekday) := ⟨rfl, rfl, rfl, by decide +kernel, rfl, by decide +kernel, by decide +kernel⟩
def spLeap : Sp := fun vs H Q _ => ∃ y : Int, vs = [.int y] ∧ Q (.bl (leap y)) H
def spAhead : Sp := fun vs H Q _ => ∃ y : Int, vs = [.int y] ∧ Q (.int (yearDay y)) H
def spMonLen : Sp := fun vs H Q _ => ∃ m : Int, vs = [.int m] ∧ ∀ H', Same H H' → Q (.int (monLen m)) H'
def spFirst : Sp := fun vs H Q _ => ∃ m : Int, vs = [.int m] ∧ ∀ H', Same H H' → Q (.int (firstOf m)) H'
def spMonth : Sp := fun vs H Q _ => ∃ d : Int, vs = [.int d] ∧ 0 ≤ d ∧ ∀ H', Same H H' → Q (.int (monthOf d)) H'
def spWeekday : Sp := fun vs H Q _ => ∃ d : Int, vs = [.int d] ∧ Q (.int (d % 7)) H
/-- the module's constants, and the names that are built in -/
structure Glb (K : PySem.W.Frag) (mg : Str → Option Value) : Prop where
  fy : ∃ t, mg "FIRST_YEAR" = some (.int 2001 t)
  ld : ∃ t, mg "LAST_DAY" = some (.int 99990 t)
  le : ∃ a, mg "LENGTHS" = some (.ref a) ∧ ∀ H, SqT K H a (lens.map V.int)
  dm : mg "divmod" = none
  rg : mg "range" = none
  mx : mg "max" = none
  mn : mg "min" = none
  ln : mg "len" = none
  it : mg "int" = none
  tp : mg "tuple" = none
section
variable {P : Program} {w : World} {K : PySem.W.Frag} {mg : Str → Option Value} {base : Heap}
theorem ok_leap {f : Addr} {fd : FuncData} (F : Fun K "is_leap" "is_leap" sLeap f fd) : FnOk P w K mg base CX0 1 f fd ["year"] spLeap := by
  refine F.ok scLeap (fun vs H Q E h => ?_) (fun cdv A outer s H vs Q E hr h => ?_)
  · obtain ⟨y, rfl, _⟩ := h
    rfl
  · obtain ⟨y, rfl, k⟩ := h
    refine ⟨_, pss_one (ps_ret (pe_and (pe_cmpR op_eq (pe_op op_mod (pv 0) pe_int) pe_int (nomark _))
      (pe_one (pe_or (pe_cmpR op_ne (pe_op op_mod (pv 0) pe_int) pe_int (nomark _)) (pe_one (pe_cmpR op_eq (pe_op op_mod (pv 0) pe_int) pe_int (nomark _))))))), ?_⟩
    refine ⟨_, rfl, _, _, rfl, rfl, (by show (0 : Int) < 4; decide), rfl, _, rfl, ?_⟩
    rw [dec_int]
    unfold leap at k
    by_cases h4 : y % 4 = 0
    · rw [decide_eq_true h4, Bool.true_and] at k
      rw [h4]
      refine iteT ⟨_, rfl, _, _, rfl, rfl, (by show (0 : Int) < 100; decide), rfl, _, rfl, ?_⟩
      rw [dec_int]
      by_cases h100 : y % 100 = 0
      · rw [decide_eq_false (show ¬ ¬ y % 100 = 0 from fun z => z h100), Bool.false_or] at k
        rw [h100]
        refine iteF ⟨_, rfl, _, _, rfl, rfl, (by show (0 : Int) < 400; decide), rfl, ?_⟩
        rw [dec_int]
        exact k
      · rw [decide_eq_true h100, Bool.true_or] at k
        rw [beq_eq_false_iff_ne.mpr h100]
        exact iteT k
    · rw [decide_eq_false h4, Bool.false_and] at k
      rw [beq_eq_false_iff_ne.mpr h4]
      exact iteF k
theorem ok_ahead {f : Addr} {fd : FuncData} (F : Fun K "days_ahead" "days_ahead" sAhead f fd) (G : Glb K mg) : FnOk P w K mg base CX0 1 f fd ["year"] spAhead := by
  obtain ⟨t, fy⟩ := G.fy
  refine F.ok scAhead (fun vs H Q E h => ?_) (fun cdv A outer s H vs Q E hr h => ?_)
  · obtain ⟨y, rfl, _⟩ := h
    rfl
  · obtain ⟨y, rfl, k⟩ := h
    refine ⟨_, pss_cons (ps_set (i := 1) scAhead.nd rfl (.inl rfl) (pe_op op_sub (pv 0) (pe_glob (v := .int 2001) rfl fy ⟨_, rfl⟩)))
      (pss_cons (ps_set (i := 2) scAhead.nd rfl (.inl rfl) (pe_op op_sub (pv 0) pe_int))
      (pss_cons (ps_set (i := 3) scAhead.nd rfl (.inl rfl) (pe_op op_sub (pe_op op_add (pe_op op_sub (pe_op op_fdiv (pv 2) pe_int) (pe_op op_fdiv (pv 2) pe_int)) (pe_op op_fdiv (pv 2) pe_int)) pe_int))
      (pss_one (ps_ret (pe_op op_add (pe_op op_mul pe_int (pv 1)) (pv 3)))))), ?_⟩
    refine ⟨_, rfl, _, _, rfl, rfl, ?_⟩
    refine ⟨_, rfl, _, _, rfl, rfl, ?_⟩
    refine ⟨_, rfl, _, _, rfl, rfl, ⟨by decide, by decide⟩, _, rfl, _, _, rfl, rfl, ⟨by decide, by decide⟩, _, _, rfl, rfl, _, rfl, _, _, rfl, rfl, ⟨by decide, by decide⟩, _, _, rfl, rfl, _, _, rfl, rfl, ?_⟩
    refine ⟨_, rfl, _, _, rfl, rfl, .inl ⟨by decide, by decide⟩, _, rfl, _, _, rfl, rfl, ?_⟩
    exact k
theorem ok_weekday {f : Addr} {fd : FuncData} (F : Fun K "weekday" "weekday" sWeekday f fd) : FnOk P w K mg base CX0 1 f fd ["day"] spWeekday := by
  refine F.ok scWeekday (fun vs H Q E h => ?_) (fun cdv A outer s H vs Q E hr h => ?_)
  · obtain ⟨y, rfl, _⟩ := h
    rfl
  · obtain ⟨y, rfl, k⟩ := h
    refine ⟨_, pss_one (ps_ret (pe_op op_mod (pv 0) pe_int)), ?_⟩
    exact ⟨_, rfl, _, _, rfl, rfl, (by show (0 : Int) < 7; decide), k⟩
theorem ok_monLen {f : Addr} {fd : FuncData} (F : Fun K "month_length" "month_length" sMonLen f fd) (G : Glb K mg) (L : Kn P w K mg base "is_leap" 1 ["year"] spLeap) : FnOk P w K mg base CX0 2 f fd ["month"] spMonLen := by
  obtain ⟨t, fy⟩ := G.fy
  obtain ⟨a, le, hle⟩ := G.le
  refine F.ok scMonLen (fun vs H Q E h => ?_) (fun cdv A outer s H vs Q E hr h => ?_)
  · obtain ⟨y, rfl, _⟩ := h
    rfl
  · obtain ⟨m, rfl, k⟩ := h
    refine ⟨_, pss_cons (ps_asg (pe_callB call_divmod (by rfl) G.dm (by decide +kernel) (pa_cons (pv 0) (pa_cons pe_int pa_nil)))
        (pg_tup rfl (pgs_cons (pg_name (i := 1) scMonLen.nd rfl (.inl rfl)) (pgs_cons (pg_name (i := 2) scMonLen.nd rfl (.inl rfl)) pgs_nil))))
      (pss_cons (ps_if (PW.pt (pw_and (pt_cmpR op_eq (pv 2) pe_int (nomark _)) (pw_and1 (pt_val (pe_kn L hr (by rfl) (pa_cons (pe_op op_add (pe_glob (v := .int 2001) rfl fy ⟨_, rfl⟩) (pv 1)) pa_nil)))))) (pss_one (ps_ret pe_int)) pss_nil)
      (pss_one (ps_ret (pe_ix ix_tup (pe_glob (v := .ref a) rfl le rfl) (pv 2) (fun _ _ => rfl))))), ?_⟩
    refine ⟨_, rfl, _, _, rfl, ⟨by decide, by decide⟩, fun p hp => ?_⟩
    refine ⟨p, _, rfl, SqT.of upd_same, rfl, _, _, rfl, _, _, rfl, rfl, ?_⟩
    have s1 : Same H (upd H p (.tup [.int (m / 12), .int (m % 12)])) := same_new hp
    have e29 : monLen m = if m % 12 = 1 ∧ leap (2001 + m / 12) = true then 29 else lens.getD (m % 12).toNat 0 := rfl
    have tail : ¬ (m % 12 = 1 ∧ leap (2001 + m / 12) = true) → ∃ z, atI (lens.map V.int) (m % 12) = some z ∧ Q z (upd H p (.tup [.int (m / 12), .int (m % 12)])) := fun z => by
      rw [if_neg z] at e29
      refine ⟨_, at_of (j := (m % 12).toNat) (by omega) (v := V.int (lens.getD (m % 12).toNat 0)) ?_, ?_⟩
      · have l : (m % 12).toNat < lens.length := by show (m % 12).toNat < 12; omega
        rw [List.getElem?_map, List.getElem?_eq_getElem l, List.getD_eq_getElem?_getD, List.getElem?_eq_getElem l]
        rfl
      · rw [← e29]
        exact k _ s1
    refine ⟨_, rfl, rfl, _, rfl, ?_⟩
    rw [dec_int]
    by_cases h1 : m % 12 = 1
    · rw [show (m % 12 == 1) = true from beq_iff_eq.mpr h1]
      refine iteT ⟨_, rfl, _, _, rfl, rfl, _, rfl, _, rfl, ?_⟩
      cases h2 : leap (2001 + m / 12) with
      | true =>
        refine iteT ?_
        rw [if_pos ⟨h1, h2⟩] at e29
        rw [e29] at k
        exact k _ s1
      | false =>
        refine iteF ?_
        obtain ⟨z, e, q⟩ := tail (by rw [h2]; exact fun z => Bool.false_ne_true z.2)
        exact ⟨_, rfl, _, _, _, z, rfl, rfl, hle _, e, q⟩
    · rw [beq_eq_false_iff_ne.mpr h1]
      refine iteF (iteF ?_)
      obtain ⟨z, e, q⟩ := tail (fun z => h1 z.1)
      exact ⟨_, rfl, _, _, _, z, rfl, rfl, hle _, e, q⟩
theorem ok_first {f : Addr} {fd : FuncData} (F : Fun K "first_of" "first_of" sFirst f fd) (G : Glb K mg) (LA : Kn P w K mg base "days_ahead" 1 ["year"] spAhead) (LM : Kn P w K mg base "month_length" 2 ["month"] spMonLen) : FnOk P w K mg base CX0 3 f fd ["month"] spFirst := by
  obtain ⟨t, fy⟩ := G.fy
  refine F.ok scFirst (fun vs H Q E h => ?_) (fun cdv A outer s H vs Q E hr h => ?_)
  · obtain ⟨y, rfl, _⟩ := h
    rfl
  · obtain ⟨m, rfl, k⟩ := h
    refine ⟨_, pss_cons (ps_asg (pe_callB call_divmod (by rfl) G.dm (by decide +kernel) (pa_cons (pv 0) (pa_cons pe_int pa_nil)))
        (pg_tup rfl (pgs_cons (pg_name (i := 1) scFirst.nd rfl (.inl rfl)) (pgs_cons (pg_name (i := 2) scFirst.nd rfl (.inl rfl)) pgs_nil))))
      (pss_cons (ps_set (i := 3) scFirst.nd rfl (.inl rfl) (pe_kn LA (hr.mono (by decide)) (by rfl) (pa_cons (pe_op op_add (pe_glob (v := .int 2001) rfl fy ⟨_, rfl⟩) (pv 1)) pa_nil)))
      (pss_cons (ps_for PassesOwn.never rfl (pi_range1 rfl G.rg (pa_cons (pv 2) pa_nil)) (pg_name (i := 4) scFirst.nd rfl (.inl rfl))
        (pss_one (ps_set (i := 3) scFirst.nd rfl (.inl rfl) (pe_op op_add (pv 3) (pe_kn LM hr (by rfl) (pa_cons (pe_op op_add (pe_op op_mul pe_int (pv 1)) (pv 4)) pa_nil))))))
      (pss_one (ps_ret (pv 3))))), ?_⟩
    refine ⟨_, rfl, _, _, rfl, ⟨by decide, by decide⟩, fun p hp => ?_⟩
    refine ⟨p, _, rfl, SqT.of upd_same, rfl, _, _, rfl, _, _, rfl, rfl, ?_⟩
    have s1 : Same H (upd H p (.tup [.int (m / 12), .int (m % 12)])) := same_new hp
    refine ⟨_, rfl, _, _, rfl, rfl, _, rfl, ?_⟩
    refine ⟨_, rfl, m % 12, rfl, by omega, by omega, ?_⟩
    refine for_range (lo := 0) (n := (m % 12).toNat) (fun i σ H' => Same H H' ∧ ∃ v, σ = [some (.int m), some (.int (m / 12)), some (.int (m % 12)), some (.int (yearDay (2001 + m / 12) + monSum (m / 12) i)), v])
      ⟨s1, none, by rw [show monSum (m / 12) 0 = 0 from rfl, Int.add_zero]; rfl⟩ ?_ ?_
    · rintro i σ H' hi ⟨s2, v, rfl⟩
      refine ⟨_, rfl, _, rfl, _, _, rfl, rfl, .inl ⟨by decide, by decide⟩, _, rfl, _, _, rfl, rfl, _, rfl, fun H2 s3 => ?_⟩
      refine ⟨_, _, rfl, rfl, ?_⟩
      refine ⟨s2.trans s3, some (.int (0 + (i : Int))), ?_⟩
      rw [show monSum (m / 12) (i + 1) = monSum (m / 12) i + monLen (12 * (m / 12) + (i : Int)) from rfl]
      rw [Int.zero_add, ← Int.add_assoc]
      rfl
    · rintro σ H' ⟨s2, v, rfl⟩
      exact ⟨_, rfl, k _ s2⟩
theorem year_le (k : Int) (h : 0 ≤ k) : yearDay (2001 + k) ≤ 366 * k := by
  unfold yearDay
  omega
theorem year_up (y : Int) : yearDay y + 365 ≤ yearDay (y + 1) := by
  rw [leap_day]
  split <;> omega
theorem first_year (k : Int) : firstOf (12 * k) = yearDay (2001 + k) := by
  unfold firstOf
  rw [show 12 * k / 12 = k from by omega, show (12 * k % 12).toNat = 0 from by omega]
  show _ + 0 = _
  omega
theorem ok_month {f : Addr} {fd : FuncData} (F : Fun K "month_of" "month_of" sMonth f fd) (G : Glb K mg) (LA : Kn P w K mg base "days_ahead" 1 ["year"] spAhead) (LM : Kn P w K mg base "month_length" 2 ["month"] spMonLen) : FnOk P w K mg base CX0 3 f fd ["day"] spMonth := by
  obtain ⟨t, fy⟩ := G.fy
  refine F.ok scMonth (fun vs H Q E h => ?_) (fun cdv A outer s H vs Q E hr h => ?_)
  · obtain ⟨y, rfl, _⟩ := h
    rfl
  · obtain ⟨d, rfl, d0, k⟩ := h
    have hr1 : Room 1 _ := hr.mono (by decide)
    refine ⟨_, pss_cons (ps_set (i := 1) scMonth.nd rfl (.inl rfl) (pe_op op_add (pe_glob (v := .int 2001) rfl fy ⟨_, rfl⟩) (pe_op op_fdiv (pv 0) pe_int)))
      (pss_cons (ps_while PassesOwn.never (pt_cmpR op_le (pe_kn LA hr1 (by rfl) (pa_cons (pe_op op_add (pv 1) pe_int) pa_nil)) (pv 0) (nomark _)) (pss_one (ps_set (i := 1) scMonth.nd rfl (.inl rfl) (pe_op op_add (pv 1) pe_int))))
      (pss_cons (ps_set (i := 2) scMonth.nd rfl (.inl rfl) (pe_op op_mul pe_int (pe_op op_sub (pv 1) (pe_glob (v := .int 2001) rfl fy ⟨_, rfl⟩))))
      (pss_cons (ps_set (i := 3) scMonth.nd rfl (.inl rfl) (pe_op op_sub (pv 0) (pe_kn LA hr1 (by rfl) (pa_cons (pv 1) pa_nil))))
      (pss_cons (ps_while PassesOwn.never (pt_cmpR op_ge (pv 3) (pe_kn LM hr (by rfl) (pa_cons (pv 2) pa_nil)) (nomark _))
        (pss_cons (ps_set (i := 3) scMonth.nd rfl (.inl rfl) (pe_op op_sub (pv 3) (pe_kn LM hr (by rfl) (pa_cons (pv 2) pa_nil)))) (pss_one (ps_set (i := 2) scMonth.nd rfl (.inl rfl) (pe_op op_add (pv 2) pe_int)))))
      (pss_one (ps_ret (pv 2))))))), ?_⟩
    refine ⟨_, rfl, _, _, rfl, rfl, ⟨by decide, by decide⟩, _, _, rfl, rfl, ?_⟩
    refine ⟨fun n σ H' => H' = H ∧ ∃ y : Int, σ = [some (.int d), some (.int y), none, none] ∧ 2001 ≤ y ∧ yearDay y ≤ d ∧ n = (d - yearDay y).toNat, ⟨_, rfl, 2001 + d / 366, rfl, by omega, by have := year_le (d / 366) (by omega); omega, rfl⟩, ?_⟩
    rintro n σ H' ⟨rfl, y, rfl, y0, yd, rfl⟩
    refine ⟨_, rfl, _, _, rfl, rfl, _, rfl, _, rfl, _, _, rfl, rfl, _, rfl, ?_⟩
    have up := year_up y
    refine ite2 (fun c => ?_) (fun c => ?_)
    · have c : yearDay (y + 1) ≤ d := of_decide_eq_true c
      refine ⟨fun σ' H2 => H2 = H' ∧ σ' = [some (.int d), some (.int (y + 1)), none, none], ?_, ?_⟩
      · rintro σ' H2 ⟨rfl, rfl⟩
        exact ⟨(d - yearDay (y + 1)).toNat, by omega, rfl, y + 1, rfl, by omega, c, rfl⟩
      · exact ⟨_, rfl, _, _, rfl, rfl, rfl, rfl⟩
    · refine ⟨_, rfl, _, _, rfl, rfl, _, _, rfl, rfl, .inl ⟨by decide, by decide⟩, ?_⟩
      refine ⟨_, rfl, _, rfl, _, rfl, _, _, rfl, rfl, ?_⟩
      have fy2 := first_year (y - 2001)
      rw [show 2001 + (y - 2001) = y from by omega] at fy2
      refine ⟨fun n σ H2 => Same H' H2 ∧ ∃ m : Int, σ = [some (.int d), some (.int y), some (.int m), some (.int (d - firstOf m))] ∧ firstOf m ≤ d ∧ n = (d - firstOf m).toNat, ⟨_, Same.refl _, 12 * (y - 2001), by rw [fy2]; rfl, by omega, rfl⟩, ?_⟩
      rintro n σ H2 ⟨s2, m, rfl, mle, rfl⟩
      refine ⟨_, rfl, _, rfl, _, rfl, fun H3 s3 => ?_⟩
      refine ⟨_, _, rfl, rfl, _, rfl, ?_⟩
      have fs := firstOf_succ m
      have ml := monLen_le m
      refine ite2 (fun c => ?_) (fun c => ?_)
      · have c : monLen m ≤ d - firstOf m := of_decide_eq_true c
        refine ⟨fun σ' H4 => Same H' H4 ∧ σ' = [some (.int d), some (.int y), some (.int (m + 1)), some (.int (d - firstOf (m + 1)))], ?_, ?_⟩
        · rintro σ' H4 ⟨s4, rfl⟩
          exact ⟨(d - firstOf (m + 1)).toNat, by omega, s4, m + 1, rfl, by omega, rfl⟩
        · refine ⟨_, rfl, _, rfl, _, rfl, fun H4 s4 => ?_⟩
          refine ⟨_, _, rfl, rfl, ?_⟩
          refine ⟨_, rfl, _, _, rfl, rfl, (s2.trans s3).trans s4, ?_⟩
          rw [fs, ← Int.sub_sub]
          rfl
      · have c : ¬ monLen m ≤ d - firstOf m := fun z => c (decide_eq_true z)
        rw [show monthOf d = m from monthOf_eq d0 mle (by omega)] at k
        exact ⟨_, rfl, k _ (s2.trans s3)⟩
end
end Gc

namespace Gc
open PySem PySem.Spec PyProof.Rows L2
/-! ### the objects that tell how a rule's days come -/
/-- where the classes stand -/
structure Cl where
  o : Addr
  d : Addr
  w : Addr
  m : Addr
  dt : Addr
  wk : Addr
def tagOf : How → Nat
  | .once => 0
  | .days _ => 1
  | .weeks _ _ => 2
  | .dates _ _ => 3
  | .wkds _ _ _ => 4
def Cl.at (c : Cl) : Nat → Addr
  | 0 => c.o
  | 1 => c.d
  | 2 => c.w
  | 3 => c.dt
  | _ => c.wk
def fOnce (f : Int) : List (Str × V) := putF "first" (.int f) []
def fDays (f n : Int) : List (Str × V) := putF "step" (.int n) (fOnce f)
def fWeeks (f n : Int) (t : Addr) (l : Int) : List (Str × V) := putF "left_out" (.int l) (putF "weekdays" (.ref t) (putF "step" (.int (7 * n)) (putF "monday" (.int (mon f)) (fOnce f))))
def fMon (f n : Int) : List (Str × V) := putF "step" (.int n) (putF "month" (.int (monthOf f)) (fOnce f))
def fDates (f n t : Int) : List (Str × V) := putF "date" (.int t) (fMon f n)
def fWkds (f n w o : Int) : List (Str × V) := putF "one" (.int o) (putF "which" (.int w) (fMon f n))
/-- at p stands the object of the days that come so from f on -/
def ComAt (K : PySem.W.Frag) (c : Cl) (H : Hp) (p : Addr) (f : Int) : How → Prop
  | .once => ∃ dx, H p = some (.ins c.o dx (fOnce f))
  | .days n => ∃ dx, H p = some (.ins c.d dx (fDays f n))
  | .weeks n ws => ∃ dx t, H p = some (.ins c.w dx (fWeeks f n t (left f ws))) ∧ SqT K H t (ws.map V.int)
  | .dates n t => ∃ dx, H p = some (.ins c.dt dx (fDates f n t))
  | .wkds n w o => ∃ dx, H p = some (.ins c.wk dx (fWkds f n w o))
theorem ComAt.same {K : PySem.W.Frag} {c : Cl} {H H' : Hp} {p : Addr} {f : Int} {h : How} (C : ComAt K c H p f h) (s : Same H H') : ComAt K c H' p f h := by
  cases h with
  | once => obtain ⟨dx, e⟩ := C; exact ⟨dx, s _ _ e⟩
  | days n => obtain ⟨dx, e⟩ := C; exact ⟨dx, s _ _ e⟩
  | weeks n ws => obtain ⟨dx, t, e, q⟩ := C; exact ⟨dx, t, s _ _ e, Same.tup s q⟩
  | dates n t => obtain ⟨dx, e⟩ := C; exact ⟨dx, s _ _ e⟩
  | wkds n w o => obtain ⟨dx, e⟩ := C; exact ⟨dx, s _ _ e⟩
def noM (fs : List (Str × V)) : Prop := fs.lookup ("stretch_of" : Str) = none ∧ fs.lookup ("begins" : Str) = none ∧ fs.lookup ("days_in" : Str) = none ∧ fs.lookup ("ahead_of" : Str) = none ∧ fs.lookup ("at_place" : Str) = none ∧ fs.lookup ("date_in" : Str) = none
theorem noM_nil : noM [] := ⟨rfl, rfl, rfl, rfl, rfl, rfl⟩
theorem noM_put {fs : List (Str × V)} {x : Str} {v : V} (n : noM fs) (h : (["stretch_of", "begins", "days_in", "ahead_of", "at_place", "date_in"] : List Str).contains x = false) : noM (putF x v fs) := by
  have nm : ∀ m : Str, m ∈ (["stretch_of", "begins", "days_in", "ahead_of", "at_place", "date_in"] : List Str) → ¬ m = x := fun m hm e => by
    subst e
    rw [List.contains_iff_mem.mpr hm] at h
    cases h
  obtain ⟨a, b, c, d, e, g⟩ := n
  refine ⟨?_, ?_, ?_, ?_, ?_, ?_⟩ <;> rw [lookup_putF, if_neg (nm _ (by simp))] <;> assumption
theorem noM_once (f : Int) : noM (fOnce f) := noM_put noM_nil (by decide +kernel)
theorem noM_days (f n : Int) : noM (fDays f n) := noM_put (noM_once f) (by decide +kernel)
theorem noM_weeks (f n : Int) (t : Addr) (l : Int) : noM (fWeeks f n t l) := noM_put (noM_put (noM_put (noM_put (noM_once f) (by decide +kernel)) (by decide +kernel)) (by decide +kernel)) (by decide +kernel)
theorem noM_mon (f n : Int) : noM (fMon f n) := noM_put (noM_put (noM_once f) (by decide +kernel)) (by decide +kernel)
theorem noM_dates (f n t : Int) : noM (fDates f n t) := noM_put (noM_mon f n) (by decide +kernel)
theorem noM_wkds (f n w o : Int) : noM (fWkds f n w o) := noM_put (noM_put (noM_mon f n) (by decide +kernel)) (by decide +kernel)
theorem ComAt.ins {K : PySem.W.Frag} {c : Cl} {H : Hp} {p : Addr} {f : Int} {h : How} (C : ComAt K c H p f h) : ∃ dx fs, H p = some (.ins (c.at (tagOf h)) dx fs) ∧ noM fs := by
  cases h with
  | once => obtain ⟨dx, e⟩ := C; exact ⟨dx, _, e, noM_once _⟩
  | days n => obtain ⟨dx, e⟩ := C; exact ⟨dx, _, e, noM_days _ _⟩
  | weeks n ws => obtain ⟨dx, t, e, q⟩ := C; exact ⟨dx, _, e, noM_weeks _ _ _ _⟩
  | dates n t => obtain ⟨dx, e⟩ := C; exact ⟨dx, _, e, noM_dates _ _ _⟩
  | wkds n w o => obtain ⟨dx, e⟩ := C; exact ⟨dx, _, e, noM_wkds _ _ _ _⟩
theorem lk_ne {x y : Str} {v : V} {fs : List (Str × V)} (h : ¬ y = x) : (putF x v fs).lookup y = fs.lookup y := by rw [lookup_putF, if_neg h]
theorem lk_eq {x : Str} {v : V} {fs : List (Str × V)} : (putF x v fs).lookup x = some v := by rw [lookup_putF, if_pos rfl]
theorem fm_first (f n : Int) : (fMon f n).lookup ("first" : Str) = some (.int f) := (lk_ne (by decide +kernel)).trans ((lk_ne (by decide +kernel)).trans lk_eq)
theorem fm_month (f n : Int) : (fMon f n).lookup ("month" : Str) = some (.int (monthOf f)) := (lk_ne (by decide +kernel)).trans lk_eq
theorem fm_step (f n : Int) : (fMon f n).lookup ("step" : Str) = some (.int n) := lk_eq
/-- an object of months, whatever tells its dates -/
theorem ComAt.mon {K : PySem.W.Frag} {c : Cl} {H : Hp} {p : Addr} {f : Int} {h : How} (C : ComAt K c H p f h) (q : isMon h) :
    ∃ dx fs, H p = some (.ins (c.at (tagOf h)) dx fs) ∧ noM fs ∧ fs.lookup ("first" : Str) = some (.int f) ∧ fs.lookup ("month" : Str) = some (.int (monthOf f)) ∧ fs.lookup ("step" : Str) = some (.int (step h)) := by
  cases h with
  | dates n t =>
    obtain ⟨dx, e⟩ := C
    exact ⟨dx, _, e, noM_dates _ _ _, (lk_ne (by decide +kernel)).trans (fm_first f n), (lk_ne (by decide +kernel)).trans (fm_month f n), (lk_ne (by decide +kernel)).trans (fm_step f n)⟩
  | wkds n w o =>
    obtain ⟨dx, e⟩ := C
    exact ⟨dx, _, e, noM_wkds _ _ _ _, (lk_ne (by decide +kernel)).trans ((lk_ne (by decide +kernel)).trans (fm_first f n)), (lk_ne (by decide +kernel)).trans ((lk_ne (by decide +kernel)).trans (fm_month f n)),
      (lk_ne (by decide +kernel)).trans ((lk_ne (by decide +kernel)).trans (fm_step f n))⟩
  | _ => exact q.elim
theorem put_len (x : Str) (v : V) : ∀ fs : List (Str × V), (putF x v fs).length ≤ fs.length + 1
  | [] => Nat.le_refl _
  | (g, y) :: r => by
    unfold putF
    split
    · exact Nat.le_succ _
    · have := put_len x v r
      simp only [List.length_cons]
      omega
/-- all that was tracked is as it was, but p -/
def But (p : Addr) (H H' : Hp) : Prop := ∀ b o, H b = some o → b ≠ p → H' b = some o
theorem But.trans {p : Addr} {H H1 H2 : Hp} (a : But p H H1) (b : But p H1 H2) : But p H H2 := fun c o h n => b c o (a c o h n) n
theorem But.upd {p : Addr} {H : Hp} {o : HO} : But p H (upd H p o) := fun b u e n => (upd_ne n).trans e
theorem same_but {p : Addr} {H H1 : Hp} (a : Same H H1) : But p H H1 := fun b o e _ => a b o e
theorem But.same {p : Addr} {H H1 : Hp} (a : But p H H1) (n : H p = Option.none) : Same H H1 := fun b o e => a b o e (ne_of_none e n)
theorem But.tup {K : PySem.W.Frag} {p C dx : Addr} {fs : List (Str × V)} {H H' : Hp} {a : Addr} {xs : List V} (e : But p H H') (hp : H p = some (.ins C dx fs)) (h : SqT K H a xs) : SqT K H' a xs :=
  h.elim (fun h => .inl (h.elim (fun h => .inl (e _ _ h (ne_of h hp (fun z => nomatch z)))) fun ⟨o, h⟩ => .inr ⟨o, e _ _ h (ne_of h hp (fun z => nomatch z))⟩)) fun h => .inr h
def ROk (f : Int) (h : How) : Prop := 2 ≤ f ∧ f ≤ 99990 ∧ HowOk h
def vOpt : Option Int → V
  | none => .non
  | some t => .int t
/-! ### what the methods promise -/
section
variable (K : PySem.W.Frag) (c : Cl) (τ : Nat)
def spStretch : Sp := fun vs H Q _ => ∃ (p : Addr) (f d : Int) (h : How), vs = [.ref p, .int d] ∧ tagOf h = τ ∧ ComAt K c H p f h ∧ ROk f h ∧ 0 ≤ d ∧ d ≤ 99991 ∧ ∀ s H', SOk f h d s → Same H H' → Q (.int s) H'
def spBegins : Sp := fun vs H Q _ => ∃ (p : Addr) (f s : Int) (h : How), vs = [.ref p, .int s] ∧ tagOf h = τ ∧ ComAt K c H p f h ∧ ROk f h ∧ 0 ≤ s ∧ ∀ H', Same H H' → Q (.int (beg f h s)) H'
def spDaysIn : Sp := fun vs H Q _ => ∃ (p : Addr) (f s : Int) (h : How), vs = [.ref p, .int s] ∧ tagOf h = τ ∧ ComAt K c H p f h ∧ ROk f h ∧ 0 ≤ s ∧ ∀ q H', Same H H' → H q = none → H' q = some (.lst ((inS f h s).map V.int)) → Q (.ref q) H'
def spAheadOf : Sp := fun vs H Q _ => ∃ (p : Addr) (f d : Int) (h : How), vs = [.ref p, .int d] ∧ tagOf h = τ ∧ ComAt K c H p f h ∧ ROk f h ∧ 0 ≤ d ∧ d ≤ 99991 ∧ ∀ H', Same H H' → Q (.int (cnt (isD f h) d)) H'
def spAtPlace : Sp := fun vs H Q _ => ∃ (p : Addr) (f i : Int) (h : How), vs = [.ref p, .int i] ∧ tagOf h = τ ∧ ComAt K c H p f h ∧ ROk f h ∧ 0 ≤ i ∧ ∀ r H', AtP f h i r → Same H H' → Q (vOpt r) H'
def spDateIn : Sp := fun vs H Q _ => ∃ (p : Addr) (f m : Int) (h : How), vs = [.ref p, .int m] ∧ tagOf h = τ ∧ ComAt K c H p f h ∧ ROk f h ∧ ∀ H', Same H H' → Q (vOpt (dateIn h m)) H'
end
/-- what a caller needs of the class of one kind -/
structure Itf (P : Program) (w : World) (K : PySem.W.Frag) (mg : Str → Option Value) (base : Heap) (c : Cl) (τ : Nat) : Prop where
  cl : Cls K (c.at τ)
  st : Me P w K mg base (c.at τ) "stretch_of" 8 ["self", "day"] (spStretch K c τ)
  be : Me P w K mg base (c.at τ) "begins" 8 ["self", "stretch"] (spBegins K c τ)
  di : Me P w K mg base (c.at τ) "days_in" 8 ["self", "stretch"] (spDaysIn K c τ)
  ah : Me P w K mg base (c.at τ) "ahead_of" 8 ["self", "day"] (spAheadOf K c τ)
  ap : Me P w K mg base (c.at τ) "at_place" 8 ["self", "place"] (spAtPlace K c τ)
theorem tag0 {h : How} (e : tagOf h = 0) : h = .once := by
  cases h <;> first | rfl | cases e
theorem tag1 {h : How} (e : tagOf h = 1) : ∃ n, h = .days n := by
  cases h <;> first | exact ⟨_, rfl⟩ | cases e
theorem tag2 {h : How} (e : tagOf h = 2) : ∃ n ws, h = .weeks n ws := by
  cases h <;> first | exact ⟨_, _, rfl⟩ | cases e
theorem tag3 {h : How} (e : tagOf h = 3) : ∃ n t, h = .dates n t := by
  cases h <;> first | exact ⟨_, _, rfl⟩ | cases e
theorem tag4 {h : How} (e : tagOf h = 4) : ∃ n w o, h = .wkds n w o := by
  cases h <;> first | exact ⟨_, _, _, rfl⟩ | cases e
theorem tagM {h : How} {τ : Nat} (e : tagOf h = τ) (q : τ = 3 ∨ τ = 4) : isMon h := by
  subst e
  cases h <;> first | exact trivial | (rcases q with q | q <;> cases q)
end Gc

namespace Gc
open PySem PySem.Spec PyProof.Rows L2
/-! ### Once, Days -/
abbrev sOnce (j : Nat) : Stmt := inClass (topS 11) j
abbrev sDays (j : Nat) : Stmt := inClass (topS 12) j
/-- the names that no class bears -/
structure Flds (K : PySem.W.Frag) (c : Cl) : Prop where
  oC : Cls K c.o
  oF : NoAttr K c.o "first"
  dC : Cls K c.d
  dF : NoAttr K c.d "first"
  dS : NoAttr K c.d "step"
  wC : Cls K c.w
  wF : NoAttr K c.w "first"
  wM : NoAttr K c.w "monday"
  wS : NoAttr K c.w "step"
  wW : NoAttr K c.w "weekdays"
  wL : NoAttr K c.w "left_out"
  tC : Cls K c.dt
  tF : NoAttr K c.dt "first"
  tM : NoAttr K c.dt "month"
  tS : NoAttr K c.dt "step"
  tD : NoAttr K c.dt "date"
  kC : Cls K c.wk
  kF : NoAttr K c.wk "first"
  kM : NoAttr K c.wk "month"
  kS : NoAttr K c.wk "step"
  kW : NoAttr K c.wk "which"
  kO : NoAttr K c.wk "one"
theorem scO0 : FnScope ["self", "first"] ["self", "first"] (defScope (sOnce 0)) := ⟨rfl, rfl, rfl, by decide +kernel, rfl, by decide +kernel, by decide +kernel⟩
theorem scO1 : FnScope ["self", "day"] ["self", "day"] (defScope (sOnce 1)) := ⟨rfl, rfl, rfl, by decide +kernel, rfl, by decide +kernel, by decide +kernel⟩
theorem scO2 : FnScope ["self", "stretch"] ["self", "stretch"] (defScope (sOnce 2)) := ⟨rfl, rfl, rfl, by decide +kernel, rfl, by decide +kernel, by decide +kernel⟩
theorem scO3 : FnScope ["self", "stretch"] ["self", "stretch"] (defScope (sOnce 3)) := ⟨rfl, rfl, rfl, by decide +kernel, rfl, by decide +kernel, by decide +kernel⟩
theorem scO4 : FnScope ["self", "day"] ["self", "day"] (defScope (sOnce 4)) := ⟨rfl, rfl, rfl, by decide +kernel, rfl, by decide +kernel, by decide +kernel⟩
theorem scO5 : FnScope ["self", "place"] ["self", "place"] (defScope (sOnce 5)) := ⟨rfl, rfl, rfl, by decide +kernel, rfl, by decide +kernel, by decide +kernel⟩
theorem scD0 : FnScope ["self", "first", "step"] ["self", "first", "step"] (defScope (sDays 0)) := ⟨rfl, rfl, rfl, by decide +kernel, rfl, by decide +kernel, by decide +kernel⟩
theorem scD1 : FnScope ["self", "day"] ["self", "day"] (defScope (sDays 1)) := ⟨rfl, rfl, rfl, by decide +kernel, rfl, by decide +kernel, by decide +kernel⟩
theorem scD2 : FnScope ["self", "stretch"] ["self", "stretch"] (defScope (sDays 2)) := ⟨rfl, rfl, rfl, by decide +kernel, rfl, by decide +kernel, by decide +kernel⟩
theorem scD3 : FnScope ["self", "stretch"] ["self", "stretch"] (defScope (sDays 3)) := ⟨rfl, rfl, rfl, by decide +kernel, rfl, by decide +kernel, by decide +kernel⟩
theorem scD4 : FnScope ["self", "day"] ["self", "day"] (defScope (sDays 4)) := ⟨rfl, rfl, rfl, by decide +kernel, rfl, by decide +kernel, by decide +kernel⟩
theorem scD5 : FnScope ["self", "place"] ["self", "place"] (defScope (sDays 5)) := ⟨rfl, rfl, rfl, by decide +kernel, rfl, by decide +kernel, by decide +kernel⟩
def spOnceInit (K : PySem.W.Frag) : Sp := fun vs H Q _ => ∃ (p C dx : Addr) (f : Int) (fs : List (Str × V)), vs = [.ref p, .int f] ∧ H p = some (.ins C dx fs) ∧ Cls K C ∧ NoAttr K C "first" ∧ fs.length < 1000 ∧ Q .non (upd H p (.ins C dx (putF "first" (.int f) fs)))
def spDaysInit (c : Cl) : Sp := fun vs H Q _ => ∃ (p dx : Addr) (f n : Int), vs = [.ref p, .int f, .int n] ∧ H p = some (.ins c.d dx []) ∧ ∀ H', But p H H' → H' p = some (.ins c.d dx (fDays f n)) → Q .non H'
section
variable {P : Program} {w : World} {K : PySem.W.Frag} {mg : Str → Option Value} {base : Heap} {c : Cl} {f : Addr} {fd : FuncData}
theorem ok_o0 (F : Fun K "__init__" "Once.__init__" (sOnce 0) f fd) : FnOk P w K mg base CX0 1 f fd ["self", "first"] (spOnceInit K) := by
  refine F.ok scO0 (fun vs H Q E h => ?_) (fun cdv A outer s H vs Q E hr h => ?_)
  · obtain ⟨p, C, dx, f, fs, rfl, _⟩ := h
    rfl
  · obtain ⟨p, C, dx, f, fs, rfl, hp, cl, na, few, k⟩ := h
    refine ⟨_, pss_one (ps_fld (pv 0) (pv 1) rfl), ?_⟩
    exact ⟨_, rfl, _, rfl, p, C, dx, fs, rfl, hp, cl, na, few, k⟩
theorem ok_o1 (F : Fun K "stretch_of" "Once.stretch_of" (sOnce 1) f fd) : FnOk P w K mg base CX0 1 f fd ["self", "day"] (spStretch K c 0) := by
  refine F.ok scO1 (fun vs H Q E h => ?_) (fun cdv A outer s H vs Q E hr h => ?_)
  · obtain ⟨p, f, d, h, rfl, _⟩ := h
    rfl
  · obtain ⟨p, f, d, h, rfl, tg, C, ok, d0, d1, k⟩ := h
    obtain rfl := tag0 tg
    refine ⟨_, pss_one (ps_ret pe_int), ?_⟩
    exact k 0 H (s_once ok.1 d1) (Same.refl _)
theorem ok_o2 (F : Fun K "begins" "Once.begins" (sOnce 2) f fd) (G : Glb K mg) (L : Flds K c) : FnOk P w K mg base CX0 1 f fd ["self", "stretch"] (spBegins K c 0) := by
  obtain ⟨t, ld⟩ := G.ld
  refine F.ok scO2 (fun vs H Q E h => ?_) (fun cdv A outer s H vs Q E hr h => ?_)
  · obtain ⟨p, f, d, h, rfl, _⟩ := h
    rfl
  · obtain ⟨p, f, s, h, rfl, tg, C, ok, s0, k⟩ := h
    obtain rfl := tag0 tg
    obtain ⟨dx, hp⟩ := C
    refine ⟨_, pss_one (ps_ret (pe_op op_add (pe_fld (pv 0) rfl) (pe_op op_mul (pv 1) (pe_glob (v := .int 99990) rfl ld ⟨_, rfl⟩)))), ?_⟩
    exact ⟨_, rfl, p, _, dx, _, _, rfl, hp, L.oC, L.oF, lk_eq, _, rfl, _, _, rfl, rfl, .inr ⟨by decide, by decide⟩, _, _, rfl, rfl, k H (Same.refl _)⟩
theorem ok_o3 (F : Fun K "days_in" "Once.days_in" (sOnce 3) f fd) (L : Flds K c) : FnOk P w K mg base CX0 1 f fd ["self", "stretch"] (spDaysIn K c 0) := by
  refine F.ok scO3 (fun vs H Q E h => ?_) (fun cdv A outer s H vs Q E hr h => ?_)
  · obtain ⟨p, f, d, h, rfl, _⟩ := h
    rfl
  · obtain ⟨p, f, s, h, rfl, tg, C, ok, s0, k⟩ := h
    obtain rfl := tag0 tg
    obtain ⟨dx, hp⟩ := C
    rw [in_once s0] at k
    refine ⟨_, pss_one (ps_ret (pe_ifExp (pt_cmpR op_eq (pv 1) pe_int (nomark _)) (pe_lst (pa_cons (pe_fld (pv 0) rfl) pa_nil)) (pe_lst pa_nil))), ?_⟩
    refine ⟨_, rfl, rfl, _, rfl, ?_⟩
    rw [dec_int]
    by_cases e : s = 0
    · rw [show (s == 0) = true from beq_iff_eq.mpr e]
      rw [if_pos e] at k
      refine iteT ⟨_, rfl, p, _, dx, _, _, rfl, hp, L.oC, L.oF, lk_eq, by show 1 ≤ sizeLine; decide, fun q hq => ?_⟩
      exact k q _ (same_new hq) hq upd_same
    · rw [beq_eq_false_iff_ne.mpr e]
      rw [if_neg e] at k
      refine iteF ⟨by show 0 ≤ sizeLine; decide, fun q hq => ?_⟩
      exact k q _ (same_new hq) hq upd_same
theorem ok_o4 (F : Fun K "ahead_of" "Once.ahead_of" (sOnce 4) f fd) (G : Glb K mg) (L : Flds K c) : FnOk P w K mg base CX0 1 f fd ["self", "day"] (spAheadOf K c 0) := by
  refine F.ok scO4 (fun vs H Q E h => ?_) (fun cdv A outer s H vs Q E hr h => ?_)
  · obtain ⟨p, f, d, h, rfl, _⟩ := h
    rfl
  · obtain ⟨p, f, d, h, rfl, tg, C, ok, d0, d1, k⟩ := h
    obtain rfl := tag0 tg
    obtain ⟨dx, hp⟩ := C
    rw [ah_once (by have := ok.1; omega)] at k
    refine ⟨_, pss_one (ps_ret (pe_callTy call_int1 (by rfl) G.it (by decide +kernel) (pa_cons (pe_cmpR op_lt (pe_fld (pv 0) rfl) (pv 1) (nomark _)) pa_nil))), ?_⟩
    refine ⟨_, rfl, p, _, dx, _, _, rfl, hp, L.oC, L.oF, lk_eq, _, rfl, _, _, rfl, rfl, .inr ⟨_, rfl, ?_⟩⟩
    have k := k H (Same.refl _)
    by_cases e : f < d
    · rw [if_pos e] at k
      rw [decide_eq_true e]
      exact k
    · rw [if_neg e] at k
      rw [decide_eq_false e]
      exact k
theorem ok_o5 (F : Fun K "at_place" "Once.at_place" (sOnce 5) f fd) (L : Flds K c) : FnOk P w K mg base CX0 1 f fd ["self", "place"] (spAtPlace K c 0) := by
  refine F.ok scO5 (fun vs H Q E h => ?_) (fun cdv A outer s H vs Q E hr h => ?_)
  · obtain ⟨p, f, d, h, rfl, _⟩ := h
    rfl
  · obtain ⟨p, f, i, h, rfl, tg, C, ok, i0, k⟩ := h
    obtain rfl := tag0 tg
    obtain ⟨dx, hp⟩ := C
    have k := fun r A => k r H A (Same.refl _)
    have A := at_once (f := f) (by have := ok.1; omega) i0
    refine ⟨_, pss_one (ps_ret (pe_ifExp (pt_cmpR op_eq (pv 1) pe_int (nomark _)) (pe_fld (pv 0) rfl) pe_non)), ?_⟩
    refine ⟨_, rfl, rfl, _, rfl, ?_⟩
    rw [dec_int]
    by_cases e : i = 0
    · rw [if_pos e] at A
      rw [show (i == 0) = true from beq_iff_eq.mpr e]
      exact iteT ⟨_, rfl, p, _, dx, _, _, rfl, hp, L.oC, L.oF, lk_eq, k _ A⟩
    · rw [if_neg e] at A
      rw [beq_eq_false_iff_ne.mpr e]
      exact iteF (k _ A)
theorem ok_d0 (F : Fun K "__init__" "Days.__init__" (sDays 0) f fd) (L : Flds K c) (hO : mg "Once" = some (.ref c.o)) {mc : Value} (O : CFn P w K mg base c.o mc "__init__" 1 ["self", "first"] (spOnceInit K)) :
    FnOk P w K mg base CX0 2 f fd ["self", "first", "step"] (spDaysInit c) := by
  refine F.ok scD0 (fun vs H Q E h => ?_) (fun cdv A outer s H vs Q E hr h => ?_)
  · obtain ⟨p, dx, f, n, rfl, _⟩ := h
    rfl
  · obtain ⟨p, dx, f, n, rfl, hp, k⟩ := h
    refine ⟨_, pss_cons (ps_expr (pe_cfn (pe_glob (v := .ref c.o) rfl hO rfl) O hr (pa_cons (pv 0) (pa_cons (pv 1) pa_nil)))) (pss_one (ps_fld (pv 0) (pv 2) rfl)), ?_⟩
    refine ⟨rfl, _, rfl, _, rfl, p, c.d, dx, f, [], rfl, hp, L.dC, L.dF, by show 0 < 1000; decide, ?_⟩
    refine ⟨_, rfl, _, rfl, p, c.d, dx, _, rfl, upd_same, L.dC, L.dS, by show 1 < 1000; decide, ?_⟩
    exact k _ (But.trans But.upd But.upd) upd_same
theorem ok_d1 (F : Fun K "stretch_of" "Days.stretch_of" (sDays 1) f fd) (G : Glb K mg) (L : Flds K c) : FnOk P w K mg base CX0 1 f fd ["self", "day"] (spStretch K c 1) := by
  refine F.ok scD1 (fun vs H Q E h => ?_) (fun cdv A outer s H vs Q E hr h => ?_)
  · obtain ⟨p, f, d, h, rfl, _⟩ := h
    rfl
  · obtain ⟨p, f, d, h, rfl, tg, C, ok, d0, d1, k⟩ := h
    obtain ⟨n, rfl⟩ := tag1 tg
    obtain ⟨dx, hp⟩ := C
    have n1 : 1 ≤ n := ok.2.2.1
    have n9 : n ≤ 99 := ok.2.2.2
    refine ⟨_, pss_one (ps_ret (pe_callB (call_max2 rfl) (by rfl) G.mx (by decide +kernel) (pa_cons pe_int (pa_cons (pe_op op_fdiv (pe_op op_sub (pv 1) (pe_fld (pv 0) rfl)) (pe_fld (pv 0) rfl)) pa_nil)))), ?_⟩
    refine ⟨_, rfl, _, rfl, p, _, dx, _, _, rfl, hp, L.dC, L.dF, (lk_ne (by decide +kernel)).trans lk_eq, _, _, rfl, rfl, _, rfl, p, _, dx, _, _, rfl, hp, L.dC, L.dS, lk_eq, _, _, rfl, rfl, ⟨by omega, by omega⟩, _, _, rfl, ?_⟩
    rw [max_ite]
    exact k _ H (s_days ok.2.2) (Same.refl _)
theorem ok_d2 (F : Fun K "begins" "Days.begins" (sDays 2) f fd) (L : Flds K c) : FnOk P w K mg base CX0 1 f fd ["self", "stretch"] (spBegins K c 1) := by
  refine F.ok scD2 (fun vs H Q E h => ?_) (fun cdv A outer s H vs Q E hr h => ?_)
  · obtain ⟨p, f, d, h, rfl, _⟩ := h
    rfl
  · obtain ⟨p, f, s, h, rfl, tg, C, ok, s0, k⟩ := h
    obtain ⟨n, rfl⟩ := tag1 tg
    obtain ⟨dx, hp⟩ := C
    have n1 : 1 ≤ n := ok.2.2.1
    have n9 : n ≤ 99 := ok.2.2.2
    refine ⟨_, pss_one (ps_ret (pe_op op_add (pe_fld (pv 0) rfl) (pe_op op_mul (pv 1) (pe_fld (pv 0) rfl)))), ?_⟩
    exact ⟨_, rfl, p, _, dx, _, _, rfl, hp, L.dC, L.dF, (lk_ne (by decide +kernel)).trans lk_eq, _, rfl, _, rfl, p, _, dx, _, _, rfl, hp, L.dC, L.dS, lk_eq, _, _, rfl, rfl, .inr ⟨by omega, by omega⟩, _, _, rfl, rfl, k H (Same.refl _)⟩
theorem ok_d3 (F : Fun K "days_in" "Days.days_in" (sDays 3) f fd) (L : Flds K c) (B : Me P w K mg base c.d "begins" 1 ["self", "stretch"] (spBegins K c 1)) : FnOk P w K mg base CX0 2 f fd ["self", "stretch"] (spDaysIn K c 1) := by
  refine F.ok scD3 (fun vs H Q E h => ?_) (fun cdv A outer s H vs Q E hr h => ?_)
  · obtain ⟨p, f, d, h, rfl, _⟩ := h
    rfl
  · obtain ⟨p, f, s, h, rfl, tg, C, ok, s0, k⟩ := h
    obtain ⟨n, rfl⟩ := tag1 tg
    obtain ⟨dx, hp⟩ := id C
    rw [in_days ok.2.2 s0] at k
    refine ⟨_, pss_one (ps_ret (pe_lst (pa_cons (pe_me (pv 0) L.dC B hr (pa_cons (pv 1) pa_nil)) pa_nil))), ?_⟩
    refine ⟨_, rfl, p, dx, _, rfl, hp, (noM_days f n).2.1, _, rfl, p, f, s, _, rfl, rfl, C, ok, s0, fun H1 s1 => ?_⟩
    refine ⟨by show 1 ≤ sizeLine; decide, fun q hq => ?_⟩
    exact k q _ (s1.trans (same_new hq)) (s1.free hq) upd_same
theorem ok_d4 (F : Fun K "ahead_of" "Days.ahead_of" (sDays 4) f fd) (G : Glb K mg) (L : Flds K c) : FnOk P w K mg base CX0 1 f fd ["self", "day"] (spAheadOf K c 1) := by
  refine F.ok scD4 (fun vs H Q E h => ?_) (fun cdv A outer s H vs Q E hr h => ?_)
  · obtain ⟨p, f, d, h, rfl, _⟩ := h
    rfl
  · obtain ⟨p, f, d, h, rfl, tg, C, ok, d0, d1, k⟩ := h
    obtain ⟨n, rfl⟩ := tag1 tg
    obtain ⟨dx, hp⟩ := C
    have n1 : 1 ≤ n := ok.2.2.1
    have n9 : n ≤ 99 := ok.2.2.2
    refine ⟨_, pss_one (ps_ret (pe_callB (call_max2 rfl) (by rfl) G.mx (by decide +kernel) (pa_cons pe_int (pa_cons (pe_op op_fdiv (pe_op op_sub (pe_op op_add (pe_op op_sub (pv 1) (pe_fld (pv 0) rfl)) (pe_fld (pv 0) rfl)) pe_int) (pe_fld (pv 0) rfl)) pa_nil)))), ?_⟩
    refine ⟨_, rfl, _, rfl, p, _, dx, _, _, rfl, hp, L.dC, L.dF, (lk_ne (by decide +kernel)).trans lk_eq, _, _, rfl, rfl, _, rfl, p, _, dx, _, _, rfl, hp, L.dC, L.dS, lk_eq, _, _, rfl, rfl, _, _, rfl, rfl, _, rfl, p, _, dx, _, _, rfl, hp, L.dC, L.dS, lk_eq, _, _, rfl, rfl, ⟨by omega, by omega⟩, _, _, rfl, ?_⟩
    rw [max_ite, ← ah_days ok.2.2 (by have := ok.1; omega)]
    exact k H (Same.refl _)
theorem ok_d5 (F : Fun K "at_place" "Days.at_place" (sDays 5) f fd) (L : Flds K c) : FnOk P w K mg base CX0 1 f fd ["self", "place"] (spAtPlace K c 1) := by
  refine F.ok scD5 (fun vs H Q E h => ?_) (fun cdv A outer s H vs Q E hr h => ?_)
  · obtain ⟨p, f, d, h, rfl, _⟩ := h
    rfl
  · obtain ⟨p, f, i, h, rfl, tg, C, ok, i0, k⟩ := h
    obtain ⟨n, rfl⟩ := tag1 tg
    obtain ⟨dx, hp⟩ := C
    have n1 : 1 ≤ n := ok.2.2.1
    have n9 : n ≤ 99 := ok.2.2.2
    refine ⟨_, pss_one (ps_ret (pe_op op_add (pe_fld (pv 0) rfl) (pe_op op_mul (pv 1) (pe_fld (pv 0) rfl)))), ?_⟩
    exact ⟨_, rfl, p, _, dx, _, _, rfl, hp, L.dC, L.dF, (lk_ne (by decide +kernel)).trans lk_eq, _, rfl, _, rfl, p, _, dx, _, _, rfl, hp, L.dC, L.dS, lk_eq, _, _, rfl, rfl, .inr ⟨by omega, by omega⟩, _, _, rfl, rfl, k _ H (at_days ok.2.2 (by have := ok.1; omega) i0) (Same.refl _)⟩
end
end Gc

namespace Gc
open PySem PySem.Spec PyProof.Rows L2
/-! ### Weeks -/
abbrev sWeeks (j : Nat) : Stmt := inClass (topS 13) j
theorem scW0 : FnScope ["self", "first", "step", "weekdays", "one"] ["self", "first", "step", "weekdays"] (defScope (sWeeks 0)) := ⟨rfl, rfl, rfl, by decide +kernel, rfl, by decide +kernel, by decide +kernel⟩
theorem scW1 : FnScope ["self", "day"] ["self", "day"] (defScope (sWeeks 1)) := ⟨rfl, rfl, rfl, by decide +kernel, rfl, by decide +kernel, by decide +kernel⟩
theorem scW2 : FnScope ["self", "stretch"] ["self", "stretch"] (defScope (sWeeks 2)) := ⟨rfl, rfl, rfl, by decide +kernel, rfl, by decide +kernel, by decide +kernel⟩
theorem scW3 : FnScope ["self", "stretch", "some", "one", "day"] ["self", "stretch"] (defScope (sWeeks 3)) := ⟨rfl, rfl, rfl, by decide +kernel, rfl, by decide +kernel, by decide +kernel⟩
theorem scW4 : FnScope ["self", "day", "stretch", "here", "one"] ["self", "day"] (defScope (sWeeks 4)) := ⟨rfl, rfl, rfl, by decide +kernel, rfl, by decide +kernel, by decide +kernel⟩
theorem scW5 : FnScope ["self", "place", "stretch", "at"] ["self", "place"] (defScope (sWeeks 5)) := ⟨rfl, rfl, rfl, by decide +kernel, rfl, by decide +kernel, by decide +kernel⟩
def spWeeksInit (K : PySem.W.Frag) (c : Cl) : Sp := fun vs H Q _ => ∃ (p dx t : Addr) (f n : Int) (ws : List Int), vs = [.ref p, .int f, .int n, .ref t] ∧ H p = some (.ins c.w dx []) ∧ SqT K H t (ws.map V.int) ∧ ws.length ≤ 1000 ∧
  ∀ H', But p H H' → H' p = some (.ins c.w dx (fWeeks f n t (left f ws))) → Q .non H'
/-- a field of a name's object, within a comprehension: the written part said apart (the block's context hangs on what a clause binds) -/
theorem pvf (K : PySem.W.Frag) {X : Cx} (i : Nat) {x g : Str} {p pos : Pos} (hK : X.K = K := by rfl) (hN : X.N[i]? = some x := by rfl) (hv : Vis X.env.scope x := by first | exact Or.inl rfl | exact Or.inr (Or.inl rfl) | exact Or.inr (Or.inr rfl)) (hd : (x == ("__debug__" : Str)) = false := by decide)
    (hcd : (x == ("__classdict__" : Str)) = false := by decide) (hb : attributeBase (.Name x p) g X.env (eval (.Name x p) X.env) = eval (.Name x p) X.env := by rfl) : PE X (.Attribute (.Name x p) g pos) (tFld K (tVar i) g) := by
  subst hK
  exact pe_fld (pv i hN hv hd hcd) hb
/-- a clause without tests -/
theorem yes_of {σ : L2.St} {H : Hp} {A B : Hp → Prop} (h : A H) : tYes σ H (fun b H3 => if b = true then A H3 else B H3) := by
  show (if true = true then A H else B H)
  rw [if_pos rfl]
  exact h
theorem map_get {ws : List Int} {i : Nat} {x : V} (h : (ws.map V.int)[i]? = some x) : ∃ v, ws[i]? = some v ∧ x = .int v := by
  rw [List.getElem?_map] at h
  cases e : ws[i]? with
  | none =>
    rw [e] at h
    cases h
  | some v =>
    rw [e] at h
    exact ⟨v, rfl, (Option.some.inj h).symm⟩
theorem take_all {α : Type} (l : List α) : l.take l.length = l := List.take_length
theorem same_at {H H' : Hp} {D : Addr} {o : HO} (s : Same H H') (n : H D = none) : Same H (upd H' D o) := fun b u e => (upd_ne (ne_of_none e n)).trans (s b u e)
theorem filt_yes {ws : List Int} {i : Nat} {v : Int} {q : Int → Bool} (h : ws[i]? = some v) (hq : q v = true) : ((ws.take (i + 1)).filter q).map V.int = ((ws.take i).filter q).map V.int ++ [.int v] := by
  rw [take_get h, List.filter_append, List.map_append, List.filter_cons, if_pos hq]
  rfl
theorem filt_no {ws : List Int} {i : Nat} {v : Int} {q : Int → Bool} (h : ws[i]? = some v) (hq : q v = false) : ((ws.take (i + 1)).filter q).map V.int = ((ws.take i).filter q).map V.int := by
  rw [take_get h, List.filter_append, List.map_append, List.filter_cons, if_neg (by rw [hq]; exact Bool.false_ne_true)]
  exact List.append_nil _
theorem filt_len {ws : List Int} {i : Nat} {q : Int → Bool} (h : ws.length ≤ 1000000) : (((ws.take i).filter q).map V.int).length < sizeLine := by
  rw [List.length_map]
  have a := List.length_filter_le q (ws.take i)
  have b := List.length_take_le' i ws
  exact Nat.lt_of_le_of_lt (Nat.le_trans a (Nat.le_trans b h)) (by decide)
theorem few3 {a b d : Str} {x y z : V} (f : Int) : (putF a x (putF b y (putF d z (fOnce f)))).length < 1000 := by
  have h1 := put_len a x (putF b y (putF d z (fOnce f)))
  have h2 := put_len b y (putF d z (fOnce f))
  have h3 := put_len d z (fOnce f)
  have h4 : (fOnce f).length = 1 := rfl
  omega
theorem few2 {a b : Str} {x y : V} (f : Int) : (putF a x (putF b y (fOnce f))).length < 1000 := by
  have h1 := put_len a x (putF b y (fOnce f))
  have h2 := put_len b y (fOnce f)
  have h4 : (fOnce f).length = 1 := rfl
  omega
theorem few1 {a : Str} {x : V} (f : Int) : (putF a x (fOnce f)).length < 1000 := by
  have h1 := put_len a x (fOnce f)
  have h4 : (fOnce f).length = 1 := rfl
  omega
section
variable {P : Program} {w : World} {K : PySem.W.Frag} {mg : Str → Option Value} {base : Heap} {c : Cl} {f : Addr} {fd : FuncData}
theorem ok_w0 (F : Fun K "__init__" "Weeks.__init__" (sWeeks 0) f fd) (G : Glb K mg) (L : Flds K c) (hO : mg "Once" = some (.ref c.o)) {mc : Value} (O : CFn P w K mg base c.o mc "__init__" 1 ["self", "first"] (spOnceInit K))
    (W : Kn P w K mg base "weekday" 1 ["day"] spWeekday) : FnOk P w K mg base CX0 2 f fd ["self", "first", "step", "weekdays"] (spWeeksInit K c) := by
  refine F.ok scW0 (fun vs H Q E h => ?_) (fun cdv A outer s H vs Q E hr h => ?_)
  · obtain ⟨p, dx, t, f, n, ws, rfl, _⟩ := h
    rfl
  · obtain ⟨p, dx, t, f, n, ws, rfl, hp, ht, hl, k⟩ := h
    refine ⟨_, pss_cons (ps_expr (pe_cfn (pe_glob (v := .ref c.o) rfl hO rfl) O hr (pa_cons (pv 0) (pa_cons (pv 1) pa_nil))))
      (pss_cons (ps_fld (pv 0) (pe_op op_sub (pv 1) (pe_kn W hr (by rfl) (pa_cons (pv 1) pa_nil))) rfl)
      (pss_cons (ps_fld (pv 0) (pe_op op_mul pe_int (pv 2)) rfl)
      (pss_cons (ps_fld (pv 0) (pv 3) rfl)
      (pss_one (ps_fld (pv 0) (pe_callB call_len_seq (by rfl) G.ln PySem.boot_len (pa_cons (pe_lc (own := [("one", 4)]) (g := gName 4) (by rfl) scW0.nd (pi_tup (pv 3)) (blkOk_by (own := [("one", 4)]) (N := ["self", "first", "step", "weekdays", "one"]) (sc := defScope (sWeeks 0)) (by decide +kernel))
        (fun _ _ _ _ _ => pg_name (i := 4) scW0.nd rfl (Or.inl rfl)) (fun _ _ _ _ _ => pts_one (pt_cmpR op_lt (pe_op op_add (pvf K 0) (pv 4)) (pv 1) (nomark _))) (fun _ _ _ _ _ => pv 4)) pa_nil)) rfl))))), ?_⟩
    refine ⟨rfl, _, rfl, _, rfl, p, c.w, dx, f, [], rfl, hp, L.wC, L.wF, by show 0 < 1000; decide, ?_⟩
    refine ⟨_, rfl, _, rfl, f, rfl, _, _, rfl, rfl, ?_⟩
    refine ⟨_, rfl, p, c.w, dx, _, rfl, upd_same, L.wC, L.wM, by show 1 < 1000; decide, ?_⟩
    refine ⟨_, rfl, _, _, rfl, rfl, .inl ⟨by decide, by decide⟩, _, rfl, p, c.w, dx, _, rfl, upd_same, L.wC, L.wS, few1 f, ?_⟩
    refine ⟨_, rfl, _, rfl, p, c.w, dx, _, rfl, upd_same, L.wC, L.wW, few2 f, ?_⟩
    rw [upd_upd, upd_upd, upd_upd]
    generalize hH1 : upd H p (.ins c.w dx (putF "weekdays" (.ref t) (putF "step" (.int (7 * n)) (putF "monday" (.int (f - f % 7)) (putF "first" (.int f) []))))) = H1
    have bt : But p H H1 := by rw [← hH1]; exact But.upd
    have h1 : H1 p = some (.ins c.w dx (putF "weekdays" (.ref t) (putF "step" (.int (7 * n)) (putF "monday" (.int (f - f % 7)) (fOnce f))))) := by rw [← hH1]; exact upd_same
    have ht1 : SqT K H1 t (ws.map V.int) := bt.tup hp ht
    refine ⟨_, rfl, t, rfl, ⟨_, ht1⟩, fun D hD => ?_⟩
    refine lc_tup (K := K) (a := t) (xs := ws.map V.int) (fun i H' => Same H1 H' ∧ H' D = some (.lst (((ws.take i).filter fun v => decide (mon f + v < f)).map V.int))) ⟨same_new hD, upd_same⟩ (fun i H' _ q => Same.tup q.1 ht1) ?_ ?_
    · rintro i x H2 hi ⟨s2, d2⟩
      obtain ⟨v, hv, rfl⟩ := map_get hi
      refine ⟨rfl, _, rfl, p, c.w, dx, _, _, rfl, s2 _ _ h1, L.wC, L.wM, (lk_ne (by decide +kernel)).trans ((lk_ne (by decide +kernel)).trans lk_eq), _, rfl, _, _, rfl, rfl, _, rfl, _, _, rfl, rfl, _, rfl, ?_⟩
      refine ite2 (fun e => ?_) (fun e => ?_)
      · refine ⟨_, rfl, _, d2, filt_len (by omega), same_at s2 hD, ?_⟩
        rw [upd_same, filt_yes hv (by exact e)]
      · refine ⟨s2, ?_⟩
        rw [filt_no hv (Bool.eq_false_iff.mpr e)]
        exact d2
    · rintro H2 ⟨s2, d2⟩
      rw [List.length_map, take_all] at d2
      refine ⟨D, _, rfl, .inl (SqL.of d2), _, rfl, p, c.w, dx, _, rfl, s2 _ _ h1, L.wC, L.wL, few3 f, ?_⟩
      rw [List.length_map]
      exact k _ ((bt.trans (same_but s2)).trans But.upd) upd_same
theorem fw_first (f n : Int) (t : Addr) (l : Int) : (fWeeks f n t l).lookup ("first" : Str) = some (.int f) := (lk_ne (by decide +kernel)).trans ((lk_ne (by decide +kernel)).trans ((lk_ne (by decide +kernel)).trans ((lk_ne (by decide +kernel)).trans lk_eq)))
theorem fw_mon (f n : Int) (t : Addr) (l : Int) : (fWeeks f n t l).lookup ("monday" : Str) = some (.int (mon f)) := (lk_ne (by decide +kernel)).trans ((lk_ne (by decide +kernel)).trans ((lk_ne (by decide +kernel)).trans lk_eq))
theorem fw_step (f n : Int) (t : Addr) (l : Int) : (fWeeks f n t l).lookup ("step" : Str) = some (.int (7 * n)) := (lk_ne (by decide +kernel)).trans ((lk_ne (by decide +kernel)).trans lk_eq)
theorem fw_wd (f n : Int) (t : Addr) (l : Int) : (fWeeks f n t l).lookup ("weekdays" : Str) = some (.ref t) := (lk_ne (by decide +kernel)).trans lk_eq
theorem fw_left (f n : Int) (t : Addr) (l : Int) : (fWeeks f n t l).lookup ("left_out" : Str) = some (.int l) := lk_eq
theorem wk_len {n : Int} {ws : List Int} (ok : HowOk (.weeks n ws)) : 1 ≤ ws.length ∧ ws.length ≤ 7 := by
  obtain ⟨_, _, up, ne, h6⟩ := ok
  refine ⟨List.length_pos_iff.mpr ne, ?_⟩
  have e : ws = seg (fun d => decide (d ∈ ws)) 0 7 := seg_eq up fun d => ⟨fun hd => by
    obtain ⟨a, b⟩ := h6 d hd
    exact ⟨a, by omega, by rw [decide_eq_true_eq]; exact hd⟩, fun q => of_decide_eq_true q.2.2⟩
  rw [e]
  exact seg_len_le _ 0 7
theorem ok_w1 (F : Fun K "stretch_of" "Weeks.stretch_of" (sWeeks 1) f fd) (G : Glb K mg) (L : Flds K c) : FnOk P w K mg base CX0 1 f fd ["self", "day"] (spStretch K c 2) := by
  refine F.ok scW1 (fun vs H Q E h => ?_) (fun cdv A outer s H vs Q E hr h => ?_)
  · obtain ⟨p, f, d, h, rfl, _⟩ := h
    rfl
  · obtain ⟨p, f, d, h, rfl, tg, C, ok, d0, d1, k⟩ := h
    obtain ⟨n, ws, rfl⟩ := tag2 tg
    obtain ⟨dx, t, hp, ht⟩ := C
    have n1 : 1 ≤ n := ok.2.2.1
    have n9 : n ≤ 99 := ok.2.2.2.1
    refine ⟨_, pss_one (ps_ret (pe_callB (call_max2 rfl) (by rfl) G.mx (by decide +kernel) (pa_cons pe_int (pa_cons (pe_op op_fdiv (pe_op op_sub (pv 1) (pe_fld (pv 0) rfl)) (pe_fld (pv 0) rfl)) pa_nil)))), ?_⟩
    refine ⟨_, rfl, _, rfl, p, _, dx, _, _, rfl, hp, L.wC, L.wM, fw_mon _ _ _ _, _, _, rfl, rfl, _, rfl, p, _, dx, _, _, rfl, hp, L.wC, L.wS, fw_step _ _ _ _, _, _, rfl, rfl, ⟨by omega, by omega⟩, _, _, rfl, ?_⟩
    rw [max_ite]
    exact k _ H (s_weeks ok.2.2) (Same.refl _)
theorem ok_w2 (F : Fun K "begins" "Weeks.begins" (sWeeks 2) f fd) (L : Flds K c) : FnOk P w K mg base CX0 1 f fd ["self", "stretch"] (spBegins K c 2) := by
  refine F.ok scW2 (fun vs H Q E h => ?_) (fun cdv A outer s H vs Q E hr h => ?_)
  · obtain ⟨p, f, d, h, rfl, _⟩ := h
    rfl
  · obtain ⟨p, f, s, h, rfl, tg, C, ok, s0, k⟩ := h
    obtain ⟨n, ws, rfl⟩ := tag2 tg
    obtain ⟨dx, t, hp, ht⟩ := C
    have n1 : 1 ≤ n := ok.2.2.1
    have n9 : n ≤ 99 := ok.2.2.2.1
    refine ⟨_, pss_one (ps_ret (pe_op op_add (pe_fld (pv 0) rfl) (pe_op op_mul (pv 1) (pe_fld (pv 0) rfl)))), ?_⟩
    exact ⟨_, rfl, p, _, dx, _, _, rfl, hp, L.wC, L.wM, fw_mon _ _ _ _, _, rfl, _, rfl, p, _, dx, _, _, rfl, hp, L.wC, L.wS, fw_step _ _ _ _, _, _, rfl, rfl, .inr ⟨by omega, by omega⟩, _, _, rfl, rfl, k H (Same.refl _)⟩
theorem ok_w3 (F : Fun K "days_in" "Weeks.days_in" (sWeeks 3) f fd) (L : Flds K c) (B : Me P w K mg base c.w "begins" 1 ["self", "stretch"] (spBegins K c 2)) : FnOk P w K mg base CX0 2 f fd ["self", "stretch"] (spDaysIn K c 2) := by
  refine F.ok scW3 (fun vs H Q E h => ?_) (fun cdv A outer s H vs Q E hr h => ?_)
  · obtain ⟨p, f, d, h, rfl, _⟩ := h
    rfl
  · obtain ⟨p, f, s, h, rfl, tg, C, ok, s0, k⟩ := h
    obtain ⟨n, ws, rfl⟩ := tag2 tg
    obtain ⟨dx, t, hp, ht⟩ := id C
    have hl := wk_len ok.2.2
    rw [in_weeks ok.2.2 s0] at k
    refine ⟨_, pss_cons (ps_setLc (i := 2) (own := [("one", 3)]) (g := gName 3) rfl scW3.nd rfl rfl (sw_true rfl rfl rfl (by decide +kernel)) (pi_tup (pe_fld (pv 0) rfl)) (blkOk_by (own := [("one", 3)]) (N := ["self", "stretch", "some", "one", "day"]) (sc := defScope (sWeeks 3)) (by decide +kernel))
        (fun _ _ _ _ _ => pg_name (i := 3) scW3.nd rfl (Or.inl rfl)) (fun _ _ _ _ _ => pts_nil) (fun _ _ _ _ _ => pe_op op_add (pe_me (pv 0) L.wC B hr (pa_cons (pv 1) pa_nil)) (pv 3)))
      (pss_one (ps_ret (pe_lc (own := [("day", 4)]) (g := gName 4) (by rfl) scW3.nd (pi_list (pv 2)) (blkOk_by (own := [("day", 4)]) (N := ["self", "stretch", "some", "one", "day"]) (sc := defScope (sWeeks 3)) (by decide +kernel))
        (fun _ _ _ _ _ => pg_name (i := 4) scW3.nd rfl (Or.inl rfl)) (fun _ _ _ _ _ => pts_one (pt_cmpR op_ge (pv 4) (pvf K 0) (nomark _))) (fun _ _ _ _ _ => pv 4)))), ?_⟩
    refine ⟨_, rfl, p, _, dx, _, _, rfl, hp, L.wC, L.wW, fw_wd _ _ _ _, t, rfl, ⟨_, ht⟩, fun D hD => ?_⟩
    refine lc_tup (K := K) (a := t) (xs := ws.map V.int) (fun i H' => Same H H' ∧ H' D = some (.lst (((ws.take i).map fun v => mon f + s * (7 * n) + v).map V.int))) ⟨same_new hD, upd_same⟩ (fun i H' _ q => Same.tup q.1 ht) ?_ ?_
    · rintro i x H2 hi ⟨s2, d2⟩
      obtain ⟨v, hv, rfl⟩ := map_get hi
      refine ⟨rfl, yes_of ?_⟩
      refine ⟨_, rfl, p, dx, _, rfl, s2 _ _ hp, (noM_weeks _ _ _ _).2.1, _, rfl, p, f, s, _, rfl, rfl, C.same s2, ok, s0, fun H3 s3 => ?_⟩
      refine ⟨_, rfl, _, _, rfl, rfl, _, s3 _ _ d2, ?_, same_at (s2.trans s3) hD, ?_⟩
      · rw [List.length_map, List.length_map, List.length_take]
        exact Nat.lt_of_le_of_lt (Nat.le_trans (Nat.min_le_right _ _) hl.2) (by decide)
      · rw [upd_same, take_get hv, List.map_append, List.map_append]
        rfl
    · rintro H2 ⟨s2, d2⟩
      rw [List.length_map, take_all] at d2
      refine ⟨_, rfl, D, rfl, ⟨_, SqL.of d2⟩, fun D2 hD2 => ?_⟩
      refine lc_list (K := K) (a := D) (xs := (ws.map fun v => mon f + s * (7 * n) + v).map V.int) (fun i H' => Same H2 H' ∧ H' D2 = some (.lst ((((ws.map fun v => mon f + s * (7 * n) + v).take i).filter fun d => decide (f ≤ d)).map V.int))) ⟨same_new hD2, upd_same⟩ (fun i H' _ q => q.1.seq (SqL.of d2)) ?_ ?_
      · rintro i x H3 hi ⟨s3, d3⟩
        obtain ⟨v, hv, rfl⟩ := map_get hi
        refine ⟨rfl, _, rfl, _, rfl, p, _, dx, _, _, rfl, s3 _ _ (s2 _ _ hp), L.wC, L.wF, fw_first _ _ _ _, _, _, rfl, rfl, _, rfl, ?_⟩
        refine ite2 (fun e => ?_) (fun e => ?_)
        · refine ⟨_, rfl, _, d3, filt_len (by rw [List.length_map]; omega), same_at s3 hD2, ?_⟩
          rw [upd_same, filt_yes hv (by exact e)]
        · refine ⟨s3, ?_⟩
          rw [filt_no hv (Bool.eq_false_iff.mpr e)]
          exact d3
      · rintro H3 ⟨s3, d3⟩
        rw [List.length_map, take_all] at d3
        exact k D2 H3 (s2.trans s3) (s2.free hD2) d3
end
end Gc

namespace Gc
open PySem PySem.Spec PyProof.Rows L2
section
variable {P : Program} {w : World} {K : PySem.W.Frag} {mg : Str → Option Value} {base : Heap} {c : Cl} {f : Addr} {fd : FuncData}
theorem ok_w4 (F : Fun K "ahead_of" "Weeks.ahead_of" (sWeeks 4) f fd) (G : Glb K mg) (L : Flds K c) (S : Me P w K mg base c.w "stretch_of" 1 ["self", "day"] (spStretch K c 2)) (B : Me P w K mg base c.w "begins" 1 ["self", "stretch"] (spBegins K c 2)) :
    FnOk P w K mg base CX0 2 f fd ["self", "day"] (spAheadOf K c 2) := by
  refine F.ok scW4 (fun vs H Q E h => ?_) (fun cdv A outer s H vs Q E hr h => ?_)
  · obtain ⟨p, f, d, h, rfl, _⟩ := h
    rfl
  · obtain ⟨p, f, d, h, rfl, tg, C, ok, d0, d1, k⟩ := h
    obtain ⟨n, ws, rfl⟩ := tag2 tg
    obtain ⟨dx, t, hp, ht⟩ := id C
    have hl := wk_len ok.2.2
    have f0 : 0 ≤ f := by have := ok.1; omega
    refine ⟨_, pss_cons (ps_set (i := 2) scW4.nd rfl (Or.inr rfl) (pe_me (pv 0) L.wC S hr (pa_cons (pv 1) pa_nil)))
      (pss_cons (ps_setLc (i := 3) (own := [("one", 4)]) (g := gName 4) rfl scW4.nd rfl rfl (sw_true rfl rfl rfl (by decide +kernel)) (pi_tup (pe_fld (pv 0) rfl)) (blkOk_by (own := [("one", 4)]) (N := ["self", "day", "stretch", "here", "one"]) (sc := defScope (sWeeks 4)) (by decide +kernel))
        (fun _ _ _ _ _ => pg_name (i := 4) scW4.nd rfl (Or.inl rfl)) (fun _ _ _ _ _ => pts_one (pt_cmpR op_lt (pe_op op_add (pe_me (pv 0) L.wC B hr (pa_cons (pv 2) pa_nil)) (pv 4)) (pv 1) (nomark _))) (fun _ _ _ _ _ => pv 4))
      (pss_one (ps_ret (pe_callB (call_max2 rfl) (by rfl) G.mx (by decide +kernel) (pa_cons pe_int (pa_cons (pe_op op_sub (pe_op op_add (pe_op op_mul (pv 2) (pe_callB call_len_seq (by rfl) G.ln PySem.boot_len (pa_cons (pe_fld (pv 0) rfl) pa_nil)))
        (pe_callB call_len_seq (by rfl) G.ln PySem.boot_len (pa_cons (pv 3) pa_nil))) (pe_fld (pv 0) rfl)) pa_nil)))))), ?_⟩
    refine ⟨_, rfl, p, dx, _, rfl, hp, (noM_weeks _ _ _ _).1, _, rfl, p, f, d, _, rfl, rfl, C, ok, d0, d1, fun z H1 sk s1 => ?_⟩
    have h1 := s1 _ _ hp
    have ht1 := Same.tup s1 ht
    refine ⟨_, rfl, p, _, dx, _, _, rfl, h1, L.wC, L.wW, fw_wd _ _ _ _, t, rfl, ⟨_, ht1⟩, fun D hD => ?_⟩
    refine lc_tup (K := K) (a := t) (xs := ws.map V.int) (fun i H' => Same H1 H' ∧ H' D = some (.lst (((ws.take i).filter fun v => decide (mon f + z * (7 * n) + v < d)).map V.int))) ⟨same_new hD, upd_same⟩ (fun i H' _ q => Same.tup q.1 ht1) ?_ ?_
    · rintro i x H2 hi ⟨s2, d2⟩
      obtain ⟨v, hv, rfl⟩ := map_get hi
      refine ⟨rfl, _, rfl, p, dx, _, rfl, s2 _ _ h1, (noM_weeks _ _ _ _).2.1, _, rfl, p, f, z, _, rfl, rfl, (C.same s1).same s2, ok, sk.1, fun H3 s3 => ?_⟩
      refine ⟨_, rfl, _, _, rfl, rfl, _, rfl, _, _, rfl, rfl, _, rfl, ?_⟩
      refine ite2 (fun e => ?_) (fun e => ?_)
      · refine ⟨_, rfl, _, s3 _ _ d2, filt_len (by omega), same_at (s2.trans s3) hD, ?_⟩
        rw [upd_same, filt_yes hv (by exact e)]
      · refine ⟨s2.trans s3, ?_⟩
        rw [filt_no hv (Bool.eq_false_iff.mpr e)]
        exact s3 _ _ d2
    · rintro H2 ⟨s2, d2⟩
      rw [List.length_map, take_all] at d2
      have h2 := s2 _ _ h1
      have lm : (ws.map V.int).length = ws.length := List.length_map _
      refine ⟨_, rfl, _, rfl, p, _, dx, _, _, rfl, h2, L.wC, L.wW, fw_wd _ _ _ _, t, _, rfl, .inr (Same.tup s2 ht1), _, _, rfl, rfl, .inr ⟨by omega, by omega⟩, ?_⟩
      refine ⟨_, rfl, D, _, rfl, .inl (SqL.of d2), _, _, rfl, rfl, ?_⟩
      refine ⟨_, rfl, p, _, dx, _, _, rfl, h2, L.wC, L.wL, fw_left _ _ _ _, _, _, rfl, rfl, _, _, rfl, ?_⟩
      rw [max_ite, lm, List.length_map, ← ah_weeks ok.2.2 f0 sk]
      exact k _ (s1.trans s2)
theorem ok_w5 (F : Fun K "at_place" "Weeks.at_place" (sWeeks 5) f fd) (G : Glb K mg) (L : Flds K c) (B : Me P w K mg base c.w "begins" 1 ["self", "stretch"] (spBegins K c 2)) : FnOk P w K mg base CX0 2 f fd ["self", "place"] (spAtPlace K c 2) := by
  refine F.ok scW5 (fun vs H Q E h => ?_) (fun cdv A outer s H vs Q E hr h => ?_)
  · obtain ⟨p, f, d, h, rfl, _⟩ := h
    rfl
  · obtain ⟨p, f, i, h, rfl, tg, C, ok, i0, k⟩ := h
    obtain ⟨n, ws, rfl⟩ := tag2 tg
    obtain ⟨dx, t, hp, ht⟩ := id C
    have hl := wk_len ok.2.2
    have f0 : 0 ≤ f := by have := ok.1; omega
    have lm : (ws.map V.int).length = ws.length := List.length_map _
    have l0 : 0 ≤ left f ws := Int.natCast_nonneg _
    refine ⟨_, pss_cons (ps_asg (pe_callB call_divmod (by rfl) G.dm (by decide +kernel) (pa_cons (pe_op op_add (pv 1) (pe_fld (pv 0) rfl)) (pa_cons (pe_callB call_len_seq (by rfl) G.ln PySem.boot_len (pa_cons (pe_fld (pv 0) rfl) pa_nil)) pa_nil)))
        (pg_tup rfl (pgs_cons (pg_name (i := 2) scW5.nd rfl (.inl rfl)) (pgs_cons (pg_name (i := 3) scW5.nd rfl (.inl rfl)) pgs_nil))))
      (pss_one (ps_ret (pe_op op_add (pe_me (pv 0) L.wC B hr (pa_cons (pv 2) pa_nil)) (pe_ix ix_tup (pe_fld (pv 0) rfl) (pv 3) (fun _ _ => rfl))))), ?_⟩
    refine ⟨_, rfl, _, rfl, p, _, dx, _, _, rfl, hp, L.wC, L.wL, fw_left _ _ _ _, _, _, rfl, rfl, _, rfl, p, _, dx, _, _, rfl, hp, L.wC, L.wW, fw_wd _ _ _ _, t, _, rfl, .inr ht, _, _, rfl, ⟨by omega, by omega⟩, fun q hq => ?_⟩
    refine ⟨q, _, rfl, SqT.of upd_same, rfl, _, _, rfl, _, _, rfl, rfl, ?_⟩
    have s1 : Same H (upd H q (.tup [.int ((i + left f ws) / ((ws.map V.int).length : Int)), .int ((i + left f ws) % ((ws.map V.int).length : Int))])) := same_new hq
    rw [lm] at s1 ⊢
    generalize upd H q (.tup [.int ((i + left f ws) / (ws.length : Int)), .int ((i + left f ws) % (ws.length : Int))]) = H1 at s1 ⊢
    have e2 := Int.emod_nonneg (i + left f ws) (show (ws.length : Int) ≠ 0 by omega)
    have e3 := Int.emod_lt_of_pos (i + left f ws) (show 0 < (ws.length : Int) by omega)
    have g0 : ((i + left f ws) % (ws.length : Int)).toNat < ws.length := by omega
    have hw : ws[((i + left f ws) % (ws.length : Int)).toNat]? = some ws[((i + left f ws) % (ws.length : Int)).toNat] := List.getElem?_eq_getElem g0
    generalize ws[((i + left f ws) % (ws.length : Int)).toNat] = v at hw
    refine ⟨_, rfl, p, dx, _, rfl, s1 _ _ hp, (noM_weeks _ _ _ _).2.1, _, rfl, p, f, (i + left f ws) / (ws.length : Int), _, rfl, rfl, C.same s1, ok, Int.ediv_nonneg (by omega) (by omega), fun H2 s2 => ?_⟩
    refine ⟨_, rfl, p, _, dx, _, _, rfl, s2 _ _ (s1 _ _ hp), L.wC, L.wW, fw_wd _ _ _ _, _, rfl, _, _, _, .int v, rfl, rfl, Same.tup (s1.trans s2) ht, at_of (j := ((i + left f ws) % (ws.length : Int)).toNat) (by omega) (by rw [List.getElem?_map, hw]; rfl), _, _, rfl, rfl, ?_⟩
    exact k _ _ (at_weeks ok.2.2 f0 i0 hw) (s1.trans s2)
end
end Gc

namespace Gc
open PySem PySem.Spec PyProof.Rows L2
/-! ### Months, Dates, Weekdays -/
abbrev sMonths (j : Nat) : Stmt := inClass (topS 14) j
abbrev sDates (j : Nat) : Stmt := inClass (topS 15) j
abbrev sWkds (j : Nat) : Stmt := inClass (topS 16) j
theorem scM0 : FnScope ["self", "first", "step"] ["self", "first", "step"] (defScope (sMonths 0)) := ⟨rfl, rfl, rfl, by decide +kernel, rfl, by decide +kernel, by decide +kernel⟩
theorem scM1 : FnScope ["self", "day"] ["self", "day"] (defScope (sMonths 1)) := ⟨rfl, rfl, rfl, by decide +kernel, rfl, by decide +kernel, by decide +kernel⟩
theorem scM2 : FnScope ["self", "stretch"] ["self", "stretch"] (defScope (sMonths 2)) := ⟨rfl, rfl, rfl, by decide +kernel, rfl, by decide +kernel, by decide +kernel⟩
theorem scM4 : FnScope ["self", "stretch", "month", "date"] ["self", "stretch"] (defScope (sMonths 4)) := ⟨rfl, rfl, rfl, by decide +kernel, rfl, by decide +kernel, by decide +kernel⟩
theorem scM5 : FnScope ["self", "day", "found", "stretch", "one"] ["self", "day"] (defScope (sMonths 5)) := ⟨rfl, rfl, rfl, by decide +kernel, rfl, by decide +kernel, by decide +kernel⟩
theorem scM6 : FnScope ["self", "place", "stretch", "left", "some"] ["self", "place"] (defScope (sMonths 6)) := ⟨rfl, rfl, rfl, by decide +kernel, rfl, by decide +kernel, by decide +kernel⟩
theorem scT0 : FnScope ["self", "first", "step", "date"] ["self", "first", "step", "date"] (defScope (sDates 0)) := ⟨rfl, rfl, rfl, by decide +kernel, rfl, by decide +kernel, by decide +kernel⟩
theorem scT1 : FnScope ["self", "month"] ["self", "month"] (defScope (sDates 1)) := ⟨rfl, rfl, rfl, by decide +kernel, rfl, by decide +kernel, by decide +kernel⟩
theorem scK0 : FnScope ["self", "first", "step", "which", "one"] ["self", "first", "step", "which", "one"] (defScope (sWkds 0)) := ⟨rfl, rfl, rfl, by decide +kernel, rfl, by decide +kernel, by decide +kernel⟩
theorem scK1 : FnScope ["self", "month", "date"] ["self", "month"] (defScope (sWkds 1)) := ⟨rfl, rfl, rfl, by decide +kernel, rfl, by decide +kernel, by decide +kernel⟩
def spMonInit (K : PySem.W.Frag) : Sp := fun vs H Q _ => ∃ (p C dx : Addr) (f n : Int), vs = [.ref p, .int f, .int n] ∧ H p = some (.ins C dx []) ∧ Cls K C ∧ NoAttr K C "first" ∧ NoAttr K C "month" ∧ NoAttr K C "step" ∧ 0 ≤ f ∧
  ∀ H', But p H H' → H' p = some (.ins C dx (fMon f n)) → Q .non H'
def spDatesInit (c : Cl) : Sp := fun vs H Q _ => ∃ (p dx : Addr) (f n t : Int), vs = [.ref p, .int f, .int n, .int t] ∧ H p = some (.ins c.dt dx []) ∧ 0 ≤ f ∧ ∀ H', But p H H' → H' p = some (.ins c.dt dx (fDates f n t)) → Q .non H'
def spWkdsInit (c : Cl) : Sp := fun vs H Q _ => ∃ (p dx : Addr) (f n w o : Int), vs = [.ref p, .int f, .int n, .int w, .int o] ∧ H p = some (.ins c.wk dx []) ∧ 0 ≤ f ∧ ∀ H', But p H H' → H' p = some (.ins c.wk dx (fWkds f n w o)) → Q .non H'
/-- what the methods of months need of the class of one kind -/
structure MF (K : PySem.W.Frag) (c : Cl) (τ : Nat) : Prop where
  k : τ = 3 ∨ τ = 4
  cl : Cls K (c.at τ)
  nF : NoAttr K (c.at τ) "first"
  nM : NoAttr K (c.at τ) "month"
  nS : NoAttr K (c.at τ) "step"
theorem Flds.m3 {K : PySem.W.Frag} {c : Cl} (L : Flds K c) : MF K c 3 := ⟨.inl rfl, L.tC, L.tF, L.tM, L.tS⟩
theorem Flds.m4 {K : PySem.W.Frag} {c : Cl} (L : Flds K c) : MF K c 4 := ⟨.inr rfl, L.kC, L.kF, L.kM, L.kS⟩
theorem inM_len (f : Int) (h : How) (m : Int) : (inM f h m).length ≤ 1 := by
  unfold inM
  split
  · exact Nat.zero_le _
  · split
    · exact Nat.zero_le _
    · exact Nat.le_refl _
theorem few_one {x y : Str} {u v : V} (f n : Int) : (putF x u (fMon f n)).length < 1000 ∧ (fMon f n).length < 1000 := by
  have h1 := put_len x u (fMon f n)
  have h2 := few2 (a := "step") (b := "month") (x := .int n) (y := .int (monthOf f)) f
  have h3 : (fMon f n).length ≤ 3 := by
    have h4 := put_len "step" (.int n) (putF "month" (.int (monthOf f)) (fOnce f))
    have h5 := put_len "month" (.int (monthOf f)) (fOnce f)
    have h6 : (fOnce f).length = 1 := rfl
    show (putF "step" (.int n) (putF "month" (.int (monthOf f)) (fOnce f))).length ≤ 3
    omega
  omega
section
variable {P : Program} {w : World} {K : PySem.W.Frag} {mg : Str → Option Value} {base : Heap} {c : Cl} {f : Addr} {fd : FuncData} {τ : Nat}
theorem ok_m0 (F : Fun K "__init__" "Months.__init__" (sMonths 0) f fd) (hO : mg "Once" = some (.ref c.o)) {mc : Value} (O : CFn P w K mg base c.o mc "__init__" 1 ["self", "first"] (spOnceInit K)) (M : Kn P w K mg base "month_of" 3 ["day"] spMonth) :
    FnOk P w K mg base CX0 4 f fd ["self", "first", "step"] (spMonInit K) := by
  refine F.ok scM0 (fun vs H Q E h => ?_) (fun cdv A outer s H vs Q E hr h => ?_)
  · obtain ⟨p, C, dx, f, n, rfl, _⟩ := h
    rfl
  · obtain ⟨p, C, dx, f, n, rfl, hp, cl, nF, nM, nS, f0, k⟩ := h
    refine ⟨_, pss_cons (ps_expr (pe_cfn (pe_glob (v := .ref c.o) rfl hO rfl) O (hr.mono (by decide)) (pa_cons (pv 0) (pa_cons (pv 1) pa_nil))))
      (pss_cons (ps_fld (pv 0) (pe_kn M hr (by rfl) (pa_cons (pv 1) pa_nil)) rfl) (pss_one (ps_fld (pv 0) (pv 2) rfl))), ?_⟩
    refine ⟨rfl, _, rfl, _, rfl, p, C, dx, f, [], rfl, hp, cl, nF, by show 0 < 1000; decide, ?_⟩
    refine ⟨_, rfl, f, rfl, f0, fun H2 s2 => ?_⟩
    refine ⟨_, rfl, p, C, dx, _, rfl, s2 _ _ upd_same, cl, nM, by show 1 < 1000; decide, ?_⟩
    refine ⟨_, rfl, _, rfl, p, C, dx, _, rfl, upd_same, cl, nS, few1 f, ?_⟩
    exact k _ (((But.upd.trans (same_but s2)).trans But.upd).trans But.upd) upd_same
theorem ok_t0 (F : Fun K "__init__" "Dates.__init__" (sDates 0) f fd) (L : Flds K c) (hM : mg "Months" = some (.ref c.m)) {mc : Value} (O : CFn P w K mg base c.m mc "__init__" 4 ["self", "first", "step"] (spMonInit K)) :
    FnOk P w K mg base CX0 5 f fd ["self", "first", "step", "date"] (spDatesInit c) := by
  refine F.ok scT0 (fun vs H Q E h => ?_) (fun cdv A outer s H vs Q E hr h => ?_)
  · obtain ⟨p, dx, f, n, t, rfl, _⟩ := h
    rfl
  · obtain ⟨p, dx, f, n, t, rfl, hp, f0, k⟩ := h
    refine ⟨_, pss_cons (ps_expr (pe_cfn (pe_glob (v := .ref c.m) rfl hM rfl) O hr (pa_cons (pv 0) (pa_cons (pv 1) (pa_cons (pv 2) pa_nil))))) (pss_one (ps_fld (pv 0) (pv 3) rfl)), ?_⟩
    refine ⟨rfl, _, rfl, _, rfl, _, rfl, p, c.dt, dx, f, n, rfl, hp, L.tC, L.tF, L.tM, L.tS, f0, fun H2 b2 h2 => ?_⟩
    refine ⟨_, rfl, _, rfl, p, c.dt, dx, _, rfl, h2, L.tC, L.tD, (few_one (x := "date") (y := "date") (u := .non) (v := .non) f n).2, ?_⟩
    exact k _ (b2.trans But.upd) upd_same
theorem ok_k0 (F : Fun K "__init__" "Weekdays.__init__" (sWkds 0) f fd) (L : Flds K c) (hM : mg "Months" = some (.ref c.m)) {mc : Value} (O : CFn P w K mg base c.m mc "__init__" 4 ["self", "first", "step"] (spMonInit K)) :
    FnOk P w K mg base CX0 5 f fd ["self", "first", "step", "which", "one"] (spWkdsInit c) := by
  refine F.ok scK0 (fun vs H Q E h => ?_) (fun cdv A outer s H vs Q E hr h => ?_)
  · obtain ⟨p, dx, f, n, v, o, rfl, _⟩ := h
    rfl
  · obtain ⟨p, dx, f, n, v, o, rfl, hp, f0, k⟩ := h
    refine ⟨_, pss_cons (ps_expr (pe_cfn (pe_glob (v := .ref c.m) rfl hM rfl) O hr (pa_cons (pv 0) (pa_cons (pv 1) (pa_cons (pv 2) pa_nil))))) (pss_cons (ps_fld (pv 0) (pv 3) rfl) (pss_one (ps_fld (pv 0) (pv 4) rfl))), ?_⟩
    refine ⟨rfl, _, rfl, _, rfl, _, rfl, p, c.wk, dx, f, n, rfl, hp, L.kC, L.kF, L.kM, L.kS, f0, fun H2 b2 h2 => ?_⟩
    have few := few_one (x := "which") (y := "which") (u := .int v) (v := .non) f n
    refine ⟨_, rfl, _, rfl, p, c.wk, dx, _, rfl, h2, L.kC, L.kW, few.2, ?_⟩
    refine ⟨_, rfl, _, rfl, p, c.wk, dx, _, rfl, upd_same, L.kC, L.kO, few.1, ?_⟩
    exact k _ ((b2.trans But.upd).trans But.upd) upd_same
theorem ok_m1 (F : Fun K "stretch_of" "Months.stretch_of" (sMonths 1) f fd) (G : Glb K mg) (L : MF K c τ) (M : Kn P w K mg base "month_of" 3 ["day"] spMonth) : FnOk P w K mg base CX0 4 f fd ["self", "day"] (spStretch K c τ) := by
  refine F.ok scM1 (fun vs H Q E h => ?_) (fun cdv A outer s H vs Q E hr h => ?_)
  · obtain ⟨p, f, d, h, rfl, _⟩ := h
    rfl
  · obtain ⟨p, f, d, h, rfl, tg, C, ok, d0, d1, k⟩ := h
    have im := tagM tg L.k
    subst tg
    obtain ⟨dx, fs, hp, nm, e1, e2, e3⟩ := C.mon im
    obtain ⟨n1, n9⟩ := step_mon im ok.2.2
    refine ⟨_, pss_one (ps_ret (pe_callB (call_max2 rfl) (by rfl) G.mx (by decide +kernel) (pa_cons pe_int (pa_cons (pe_op op_fdiv (pe_op op_sub (pe_kn M hr (by rfl) (pa_cons (pv 1) pa_nil)) (pe_fld (pv 0) rfl)) (pe_fld (pv 0) rfl)) pa_nil)))), ?_⟩
    refine ⟨_, rfl, d, rfl, d0, fun H1 s1 => ?_⟩
    refine ⟨_, rfl, p, _, dx, fs, _, rfl, s1 _ _ hp, L.cl, L.nM, e2, _, _, rfl, rfl, _, rfl, p, _, dx, fs, _, rfl, s1 _ _ hp, L.cl, L.nS, e3, _, _, rfl, rfl, ⟨by omega, by omega⟩, _, _, rfl, ?_⟩
    rw [max_ite]
    exact k _ H1 (s_mon im ok.2.2 d0) s1
theorem ok_m2 (F : Fun K "begins" "Months.begins" (sMonths 2) f fd) (L : MF K c τ) (B : Kn P w K mg base "first_of" 3 ["month"] spFirst) : FnOk P w K mg base CX0 4 f fd ["self", "stretch"] (spBegins K c τ) := by
  refine F.ok scM2 (fun vs H Q E h => ?_) (fun cdv A outer s H vs Q E hr h => ?_)
  · obtain ⟨p, f, d, h, rfl, _⟩ := h
    rfl
  · obtain ⟨p, f, s, h, rfl, tg, C, ok, s0, k⟩ := h
    have im := tagM tg L.k
    subst tg
    obtain ⟨dx, fs, hp, nm, e1, e2, e3⟩ := C.mon im
    obtain ⟨n1, n9⟩ := step_mon im ok.2.2
    rw [beg_mon im] at k
    refine ⟨_, pss_one (ps_ret (pe_kn B hr (by rfl) (pa_cons (pe_op op_add (pe_fld (pv 0) rfl) (pe_op op_mul (pv 1) (pe_fld (pv 0) rfl))) pa_nil))), ?_⟩
    exact ⟨_, rfl, p, _, dx, fs, _, rfl, hp, L.cl, L.nM, e2, _, rfl, _, rfl, p, _, dx, fs, _, rfl, hp, L.cl, L.nS, e3, _, _, rfl, rfl, .inr ⟨by omega, by omega⟩, _, _, rfl, rfl, _, rfl, k⟩
theorem ok_m4 (F : Fun K "days_in" "Months.days_in" (sMonths 4) f fd) (L : MF K c τ) (B : Kn P w K mg base "first_of" 3 ["month"] spFirst) (D : Me P w K mg base (c.at τ) "date_in" 4 ["self", "month"] (spDateIn K c τ)) :
    FnOk P w K mg base CX0 5 f fd ["self", "stretch"] (spDaysIn K c τ) := by
  refine F.ok scM4 (fun vs H Q E h => ?_) (fun cdv A outer s H vs Q E hr h => ?_)
  · obtain ⟨p, f, d, h, rfl, _⟩ := h
    rfl
  · obtain ⟨p, f, s, h, rfl, tg, C, ok, s0, k⟩ := h
    have im := tagM tg L.k
    subst tg
    obtain ⟨dx, fs, hp, nm, e1, e2, e3⟩ := C.mon im
    obtain ⟨n1, n9⟩ := step_mon im ok.2.2
    have hr3 : Room 3 _ := hr.mono (by decide)
    rw [in_mon im ok.2.2 (by have := ok.1; omega) s0] at k
    refine ⟨_, pss_cons (ps_set (i := 2) scM4.nd rfl (.inl rfl) (pe_op op_add (pe_fld (pv 0) rfl) (pe_op op_mul (pv 1) (pe_fld (pv 0) rfl))))
      (pss_cons (ps_set (i := 3) scM4.nd rfl (.inl rfl) (pe_me (pv 0) L.cl D hr (pa_cons (pv 2) pa_nil)))
      (pss_cons (ps_if (PW.pt (pw_or (pt_cmpR op_isN (pv 3) pe_non (nomark _)) (pw_or1 (pt_cmpR op_lt (pe_op op_sub (pe_op op_add (pe_kn B hr3 (by rfl) (pa_cons (pv 2) pa_nil)) (pv 3)) pe_int) (pe_fld (pv 0) rfl) (nomark _))))) (pss_one (ps_ret (pe_lst pa_nil))) pss_nil)
      (pss_one (ps_ret (pe_lst (pa_cons (pe_op op_sub (pe_op op_add (pe_kn B hr3 (by rfl) (pa_cons (pv 2) pa_nil)) (pv 3)) pe_int) pa_nil)))))), ?_⟩
    refine ⟨_, rfl, p, _, dx, fs, _, rfl, hp, L.cl, L.nM, e2, _, rfl, _, rfl, p, _, dx, fs, _, rfl, hp, L.cl, L.nS, e3, _, _, rfl, rfl, .inr ⟨by omega, by omega⟩, _, _, rfl, rfl, ?_⟩
    refine ⟨_, rfl, p, dx, fs, rfl, hp, nm.2.2.2.2.2, _, rfl, p, f, _, h, rfl, rfl, C, ok, fun H1 s1 => ?_⟩
    refine ⟨_, rfl, rfl, _, rfl, ?_⟩
    unfold inM at k
    cases ed : dateIn h (monthOf f + s * step h) with
    | none =>
      rw [ed] at k
      refine iteT ?_
      refine iteT ⟨by show 0 ≤ sizeLine; decide, fun q hq => ?_⟩
      exact k q _ (s1.trans (same_new hq)) (s1.free hq) upd_same
    | some t =>
      rw [ed] at k
      have k : ∀ (q : Addr) (H' : Hp), Same H H' → H q = none → H' q = some (.lst ((if firstOf (monthOf f + s * step h) + t - 1 < f then [] else [firstOf (monthOf f + s * step h) + t - 1]).map V.int)) → Q (.ref q) H' := k
      refine iteF ?_
      refine ⟨_, rfl, _, rfl, fun H2 s2 => ?_⟩
      refine ⟨_, rfl, _, _, rfl, rfl, _, _, rfl, rfl, _, rfl, p, _, dx, fs, _, rfl, s2 _ _ (s1 _ _ hp), L.cl, L.nF, e1, _, _, rfl, rfl, _, rfl, ?_⟩
      by_cases lt : firstOf (monthOf f + s * step h) + t - 1 < f
      · rw [if_pos lt] at k
        rw [decide_eq_true lt]
        refine iteT ⟨by show 0 ≤ sizeLine; decide, fun q hq => ?_⟩
        exact k q _ ((s1.trans s2).trans (same_new hq)) ((s1.trans s2).free hq) upd_same
      · rw [if_neg lt] at k
        rw [decide_eq_false lt]
        refine iteF ?_
        refine ⟨_, rfl, _, rfl, fun H3 s3 => ?_⟩
        refine ⟨_, rfl, _, _, rfl, rfl, _, _, rfl, rfl, by show 1 ≤ sizeLine; decide, fun q hq => ?_⟩
        exact k q _ (((s1.trans s2).trans s3).trans (same_new hq)) (((s1.trans s2).trans s3).free hq) upd_same
end
end Gc

namespace Gc
open PySem PySem.Spec PyProof.Rows L2
section
variable {P : Program} {w : World} {K : PySem.W.Frag} {mg : Str → Option Value} {base : Heap} {c : Cl} {f : Addr} {fd : FuncData} {τ : Nat}
theorem ok_m5 (F : Fun K "ahead_of" "Months.ahead_of" (sMonths 5) f fd) (G : Glb K mg) (L : MF K c τ) (S : Me P w K mg base (c.at τ) "stretch_of" 4 ["self", "day"] (spStretch K c τ)) (D : Me P w K mg base (c.at τ) "days_in" 5 ["self", "stretch"] (spDaysIn K c τ)) :
    FnOk P w K mg base CX0 6 f fd ["self", "day"] (spAheadOf K c τ) := by
  refine F.ok scM5 (fun vs H Q E h => ?_) (fun cdv A outer s H vs Q E hr h => ?_)
  · obtain ⟨p, f, d, h, rfl, _⟩ := h
    rfl
  · obtain ⟨p, f, d, h, rfl, tg, C, ok, d0, d1, k⟩ := h
    have im := tagM tg L.k
    subst tg
    obtain ⟨dx, fs, hp, nm, e1, e2, e3⟩ := C.mon im
    have f0 : 0 ≤ f := by have := ok.1; omega
    refine ⟨_, pss_cons (ps_set (i := 2) scM5.nd rfl (.inl rfl) pe_int)
      (pss_cons (ps_for PassesOwn.never rfl (pi_range1 rfl G.rg (pa_cons (pe_op op_add (pe_me (pv 0) L.cl S (hr.mono (by decide)) (pa_cons (pv 1) pa_nil)) pe_int) pa_nil)) (pg_name (i := 3) scM5.nd rfl (.inl rfl))
        (pss_one (ps_set (i := 2) scM5.nd rfl (.inl rfl) (pe_op op_add (pv 2) (pe_callB call_len_seq (by rfl) G.ln PySem.boot_len (pa_cons (pe_lc (own := [("one", 4)]) (g := gName 4) (by rfl) scM5.nd (pi_list (pe_me (pv 0) L.cl D hr (pa_cons (pv 3) pa_nil)))
          (blkOk_by (own := [("one", 4)]) (N := ["self", "day", "found", "stretch", "one"]) (sc := defScope (sMonths 5)) (by decide +kernel)) (fun _ _ _ _ _ => pg_name (i := 4) scM5.nd rfl (Or.inl rfl)) (fun _ _ _ _ _ => pts_one (pt_cmpR op_lt (pv 4) (pv 1) (nomark _))) (fun _ _ _ _ _ => pv 4)) pa_nil))))))
      (pss_one (ps_ret (pv 2)))), ?_⟩
    refine ⟨_, rfl, p, dx, fs, rfl, hp, nm.1, _, rfl, p, f, d, h, rfl, rfl, C, ok, d0, d1, fun z H1 sk s1 => ?_⟩
    have zd : z ≤ 99991 := by
      have := beg_nn (f := f) ok.2.2 f0 sk.1
      rcases sk.2.2 with y | y <;> omega
    have z0 := sk.1
    refine ⟨_, _, rfl, rfl, z + 1, rfl, by omega, by omega, ?_⟩
    refine for_range (lo := 0) (n := (z + 1).toNat) (fun i σ H' => Same H H' ∧ ∃ v, σ = [some (.ref p), some (.int d), some (.int (cnt (isD f h) (min d (beg f h (i : Int))))), v, none])
      ⟨s1, none, ?_⟩ ?_ ?_
    · rw [show ((0 : Nat) : Int) = 0 from rfl, cnt_beg0 (by have := (beg_zero (h := h) f0).2; omega)]
      rfl
    · rintro i σ H' hi ⟨s2, v, rfl⟩
      have i0 : 0 ≤ (0 : Int) + (i : Int) := by omega
      refine ⟨_, rfl, _, rfl, p, dx, fs, rfl, s2 _ _ hp, nm.2.2.1, _, rfl, p, f, 0 + (i : Int), h, rfl, rfl, C.same s2, ok, i0, fun q H3 s3 hq hl => ?_⟩
      have len1 : (inS f h (0 + (i : Int))).length ≤ 1 := by
        rw [in_mon im ok.2.2 f0 i0]
        exact inM_len _ _ _
      refine ⟨q, rfl, ⟨_, SqL.of hl⟩, fun E1 hE => ?_⟩
      refine lc_list (K := K) (a := q) (xs := (inS f h (0 + (i : Int))).map V.int) (fun j H' => Same H3 H' ∧ H' E1 = some (.lst ((((inS f h (0 + (i : Int))).take j).filter fun e => decide (e < d)).map V.int))) ⟨same_new hE, upd_same⟩ (fun j H' _ y => y.1.seq (SqL.of hl)) ?_ ?_
      · rintro j x H4 hj ⟨s4, d4⟩
        obtain ⟨u, hu, rfl⟩ := map_get hj
        refine ⟨rfl, _, rfl, _, rfl, _, _, rfl, rfl, _, rfl, ?_⟩
        refine ite2 (fun e => ?_) (fun e => ?_)
        · refine ⟨_, rfl, _, d4, filt_len (by omega), same_at s4 hE, ?_⟩
          rw [upd_same, filt_yes hu (by exact e)]
        · refine ⟨s4, ?_⟩
          rw [filt_no hu (Bool.eq_false_iff.mpr e)]
          exact d4
      · rintro H4 ⟨s4, d4⟩
        rw [List.length_map, take_all] at d4
        refine ⟨E1, _, rfl, .inl (SqL.of d4), _, _, rfl, rfl, (s2.trans s3).trans s4, some (.int (0 + (i : Int))), ?_⟩
        have st := cnt_step (f := f) (h := h) (x := d) ok.2.2 f0 i0
        rw [Int.zero_add] at st
        rw [List.length_map, Int.zero_add, show ((i + 1 : Nat) : Int) = (i : Int) + 1 from rfl, st]
        rfl
    · rintro σ H' ⟨s2, v, rfl⟩
      refine ⟨_, rfl, ?_⟩
      rw [show (((z + 1).toNat : Nat) : Int) = z + 1 from by omega, Int.min_eq_left (by have := sk.2.1; omega)]
      exact k _ s2
theorem ok_m6 (F : Fun K "at_place" "Months.at_place" (sMonths 6) f fd) (G : Glb K mg) (L : MF K c τ) (B : Me P w K mg base (c.at τ) "begins" 4 ["self", "stretch"] (spBegins K c τ)) (D : Me P w K mg base (c.at τ) "days_in" 5 ["self", "stretch"] (spDaysIn K c τ)) :
    FnOk P w K mg base CX0 6 f fd ["self", "place"] (spAtPlace K c τ) := by
  obtain ⟨t, ld⟩ := G.ld
  refine F.ok scM6 (fun vs H Q E h => ?_) (fun cdv A outer s H vs Q E hr h => ?_)
  · obtain ⟨p, f, d, h, rfl, _⟩ := h
    rfl
  · obtain ⟨p, f, i, h, rfl, tg, C, ok, i0, k⟩ := h
    have im := tagM tg L.k
    subst tg
    obtain ⟨dx, fs, hp, nm, e1, e2, e3⟩ := C.mon im
    have f0 : 0 ≤ f := by have := ok.1; omega
    refine ⟨_, pss_cons (ps_set (i := 2) scM6.nd rfl (.inl rfl) pe_int) (pss_cons (ps_set (i := 3) scM6.nd rfl (.inl rfl) (pv 1))
      (pss_cons (ps_while PassesOwn.never (pt_cmpR op_le (pe_me (pv 0) L.cl B (hr.mono (by decide)) (pa_cons (pv 2) pa_nil)) (pe_glob (v := .int 99990) rfl ld ⟨_, rfl⟩) (nomark _))
        (pss_cons (ps_set (i := 4) scM6.nd rfl (.inl rfl) (pe_me (pv 0) L.cl D hr (pa_cons (pv 2) pa_nil)))
        (pss_cons (ps_if (pt_cmpR op_lt (pv 3) (pe_callB call_len_seq (by rfl) G.ln PySem.boot_len (pa_cons (pv 4) pa_nil)) (nomark _)) (pss_one (ps_ret (pe_ix ix_list (pv 4) (pv 3) (fun _ _ => rfl)))) pss_nil)
        (pss_cons (ps_set (i := 3) scM6.nd rfl (.inl rfl) (pe_op op_sub (pv 3) (pe_callB call_len_seq (by rfl) G.ln PySem.boot_len (pa_cons (pv 4) pa_nil))))
        (pss_one (ps_set (i := 2) scM6.nd rfl (.inl rfl) (pe_op op_add (pv 2) pe_int)))))))
      (pss_one (ps_ret pe_non)))), ?_⟩
    refine ⟨_, rfl, ?_⟩
    refine ⟨fun m σ H' => Same H H' ∧ ∃ (z l : Int) (v : Option V), σ = [some (.ref p), some (.int i), some (.int z), some (.int l), v] ∧ 0 ≤ z ∧ 0 ≤ l ∧ l + cnt (isD f h) (beg f h z) = i ∧ m = (99991 - beg f h z).toNat,
      ⟨_, Same.refl _, 0, i, none, rfl, Int.le_refl _, i0, by rw [cnt_beg0 (beg_zero f0).2]; omega, rfl⟩, ?_⟩
    rintro m σ H' ⟨s1, z, l, v, rfl, z0, l0, hc, rfl⟩
    refine ⟨_, rfl, p, dx, fs, rfl, s1 _ _ hp, nm.2.1, _, rfl, p, f, z, h, rfl, rfl, C.same s1, ok, z0, fun H2 s2 => ?_⟩
    refine ⟨_, _, rfl, rfl, _, rfl, ?_⟩
    have nx := cnt_next (f := f) (h := h) ok.2.2 f0 z0
    have bl := beg_lt (f := f) (h := h) ok.2.2 z0
    have b0 := beg_nn (f := f) (h := h) ok.2.2 f0 z0
    refine ite2 (fun e => ?_) (fun e => ?_)
    · have e : beg f h z ≤ 99990 := of_decide_eq_true e
      refine ⟨fun σ' H4 => Same H H4 ∧ ∃ v', σ' = [some (.ref p), some (.int i), some (.int (z + 1)), some (.int (l - ((inS f h z).length : Int))), v'] ∧ ((inS f h z).length : Int) ≤ l, ?_, ?_⟩
      · rintro σ' H4 ⟨s4, v', rfl, hl⟩
        exact ⟨(99991 - beg f h (z + 1)).toNat, by omega, s4, z + 1, _, v', rfl, by omega, by omega, by omega, rfl⟩
      · refine ⟨_, rfl, p, dx, fs, rfl, s2 _ _ (s1 _ _ hp), nm.2.2.1, _, rfl, p, f, z, h, rfl, rfl, C.same (s1.trans s2), ok, z0, fun q H3 s3 hq hl => ?_⟩
        refine ⟨_, rfl, _, rfl, q, _, rfl, .inl (SqL.of hl), _, _, rfl, rfl, _, rfl, ?_⟩
        rw [List.length_map]
        have len1 : (inS f h z).length ≤ 1 := by
          rw [in_mon im ok.2.2 f0 z0]
          exact inM_len _ _ _
        refine ite2 (fun e => ?_) (fun e => ?_)
        · have e : l < ((inS f h z).length : Int) := of_decide_eq_true e
          have ll : l = 0 := by omega
          subst ll
          have l1 : 0 < (inS f h z).length := by omega
          have hg : (inS f h z)[0]? = some (inS f h z)[0] := List.getElem?_eq_getElem l1
          generalize (inS f h z)[0] = x at hg
          have ex : inS f h z = [x] := by
            cases y : inS f h z with
            | nil => rw [y] at hg; cases hg
            | cons a r =>
              rw [y] at hg len1
              have : a = x := Option.some.inj hg
              subst this
              cases r with
              | nil => rfl
              | cons b r => simp at len1
          have mx : x ∈ inS f h z := by rw [ex]; exact List.mem_singleton.mpr rfl
          obtain ⟨x1, x2, x3⟩ := mem_seg.mp mx
          have ci := cnt_in (f := f) (h := h) (d := x) (s := z) ok.2.2 f0 ⟨z0, x2, .inl x1⟩
          rw [ex, filter_no (fun y hy => by
            rw [List.mem_singleton.mp hy, decide_eq_false_iff_not]
            omega)] at ci
          have ci : cnt (isD f h) x = cnt (isD f h) (beg f h z) + 0 := ci
          refine ⟨_, rfl, _, rfl, q, _, _, .int x, rfl, rfl, SqL.of hl, at_of (j := 0) rfl (by rw [ex]; rfl), ?_⟩
          exact k (some x) H3 ⟨fun y ey => by
            injection ey with ey
            subst ey
            exact ⟨x3, by omega⟩, fun ey => nomatch ey⟩ ((s1.trans s2).trans s3)
        · have e : ¬ l < ((inS f h z).length : Int) := fun y => e (decide_eq_true y)
          refine ⟨_, rfl, _, rfl, q, _, rfl, .inl (SqL.of hl), _, _, rfl, rfl, ?_⟩
          rw [List.length_map]
          exact ⟨_, rfl, _, _, rfl, rfl, (s1.trans s2).trans s3, _, rfl, by omega⟩
    · have e : ¬ beg f h z ≤ 99990 := fun y => e (decide_eq_true y)
      refine k none H2 ⟨fun y ey => (nomatch ey), fun _ => ?_⟩ (s1.trans s2)
      have := cnt_mono (p := isD f h) (x := 99991) (y := beg f h z) (by omega) (by omega)
      omega
theorem ok_t1 (F : Fun K "date_in" "Dates.date_in" (sDates 1) f fd) (L : Flds K c) (M : Kn P w K mg base "month_length" 2 ["month"] spMonLen) : FnOk P w K mg base CX0 3 f fd ["self", "month"] (spDateIn K c 3) := by
  refine F.ok scT1 (fun vs H Q E h => ?_) (fun cdv A outer s H vs Q E hr h => ?_)
  · obtain ⟨p, f, d, h, rfl, _⟩ := h
    rfl
  · obtain ⟨p, f, m, h, rfl, tg, C, ok, k⟩ := h
    obtain ⟨n, t, rfl⟩ := tag3 tg
    obtain ⟨dx, hp⟩ := C
    have k : ∀ H', Same H H' → Q (vOpt (if t ≤ monLen m then some t else none)) H' := k
    refine ⟨_, pss_one (ps_ret (pe_ifExp (pt_cmpR op_le (pe_fld (pv 0) rfl) (pe_kn M hr (by rfl) (pa_cons (pv 1) pa_nil)) (nomark _)) (pe_fld (pv 0) rfl) pe_non)), ?_⟩
    refine ⟨_, rfl, p, _, dx, _, _, rfl, hp, L.tC, L.tD, lk_eq, _, rfl, m, rfl, fun H1 s1 => ?_⟩
    refine ⟨_, _, rfl, rfl, _, rfl, ?_⟩
    have k := k _ s1
    by_cases e : t ≤ monLen m
    · rw [if_pos e] at k
      rw [decide_eq_true e]
      exact iteT ⟨_, rfl, p, _, dx, _, _, rfl, s1 _ _ hp, L.tC, L.tD, lk_eq, k⟩
    · rw [if_neg e] at k
      rw [decide_eq_false e]
      exact iteF k
theorem fk_which (f n w o : Int) : (fWkds f n w o).lookup ("which" : Str) = some (.int w) := (lk_ne (by decide +kernel)).trans lk_eq
theorem ok_k1 (F : Fun K "date_in" "Weekdays.date_in" (sWkds 1) f fd) (L : Flds K c) (M : Kn P w K mg base "month_length" 2 ["month"] spMonLen) (W : Kn P w K mg base "weekday" 1 ["day"] spWeekday) (B : Kn P w K mg base "first_of" 3 ["month"] spFirst) :
    FnOk P w K mg base CX0 4 f fd ["self", "month"] (spDateIn K c 4) := by
  refine F.ok scK1 (fun vs H Q E h => ?_) (fun cdv A outer s H vs Q E hr h => ?_)
  · obtain ⟨p, f, d, h, rfl, _⟩ := h
    rfl
  · obtain ⟨p, f, m, h, rfl, tg, C, ok, k⟩ := h
    obtain ⟨n, v, o, rfl⟩ := tag4 tg
    obtain ⟨dx, hp⟩ := C
    have hr2 : Room 2 _ := hr.mono (by decide)
    have ml := monLen_le m
    have k : ∀ H', Same H H' → Q (vOpt (if 0 < v then (if 1 + (o - firstOf m % 7) % 7 + 7 * (v - 1) ≤ monLen m then some (1 + (o - firstOf m % 7) % 7 + 7 * (v - 1)) else none)
      else some (1 + (o - firstOf m % 7) % 7 + 7 * ((monLen m - (1 + (o - firstOf m % 7) % 7)) / 7)))) H' := k
    refine ⟨_, pss_cons (ps_set (i := 2) scK1.nd rfl (.inl rfl) (pe_op op_add pe_int (pe_op op_mod (pe_op op_sub (pe_fld (pv 0) rfl) (pe_kn W (hr.mono (by decide)) (by rfl) (pa_cons (pe_kn B hr (by rfl) (pa_cons (pv 1) pa_nil)) pa_nil))) pe_int)))
      (pss_cons (ps_if (pt_cmpR op_gt (pe_fld (pv 0) rfl) pe_int (nomark _))
        (pss_cons (ps_set (i := 2) scK1.nd rfl (.inl rfl) (pe_op op_add (pv 2) (pe_op op_mul pe_int (pe_op op_sub (pe_fld (pv 0) rfl) pe_int))))
          (pss_one (ps_ret (pe_ifExp (pt_cmpR op_le (pv 2) (pe_kn M hr2 (by rfl) (pa_cons (pv 1) pa_nil)) (nomark _)) (pv 2) pe_non)))) pss_nil)
      (pss_cons (ps_while PassesOwn.never (pt_cmpR op_le (pe_op op_add (pv 2) pe_int) (pe_kn M hr2 (by rfl) (pa_cons (pv 1) pa_nil)) (nomark _)) (pss_one (ps_set (i := 2) scK1.nd rfl (.inl rfl) (pe_op op_add (pv 2) pe_int))))
      (pss_one (ps_ret (pv 2))))), ?_⟩
    refine ⟨_, rfl, p, _, dx, _, _, rfl, hp, L.kC, L.kO, lk_eq, _, rfl, m, rfl, fun H1 s1 => ?_⟩
    refine ⟨firstOf m, rfl, _, _, rfl, rfl, _, _, rfl, rfl, by show (0 : Int) < 7; decide, _, _, rfl, rfl, ?_⟩
    refine ⟨_, rfl, p, _, dx, _, _, rfl, s1 _ _ hp, L.kC, L.kW, fk_which _ _ _ _, _, _, rfl, rfl, _, rfl, ?_⟩
    by_cases e : 0 < v
    · rw [if_pos e] at k
      rw [decide_eq_true e]
      refine iteT ?_
      refine ⟨_, rfl, _, rfl, p, _, dx, _, _, rfl, s1 _ _ hp, L.kC, L.kW, fk_which _ _ _ _, _, _, rfl, rfl, _, _, rfl, rfl, .inl ⟨by decide, by decide⟩, _, _, rfl, rfl, ?_⟩
      refine ⟨_, rfl, _, rfl, m, rfl, fun H2 s2 => ?_⟩
      refine ⟨_, _, rfl, rfl, _, rfl, ?_⟩
      have k := k _ (s1.trans s2)
      by_cases e2 : 1 + (o - firstOf m % 7) % 7 + 7 * (v - 1) ≤ monLen m
      · rw [if_pos e2] at k
        rw [decide_eq_true e2]
        exact iteT ⟨_, rfl, k⟩
      · rw [if_neg e2] at k
        rw [decide_eq_false e2]
        exact iteF k
    · rw [if_neg e] at k
      rw [decide_eq_false e]
      refine iteF ?_
      refine ⟨fun i σ H' => Same H H' ∧ ∃ j : Int, 0 ≤ j ∧ σ = [some (.ref p), some (.int m), some (.int (1 + (o - firstOf m % 7) % 7 + 7 * j))] ∧ 1 + (o - firstOf m % 7) % 7 + 7 * j ≤ monLen m ∧ i = (monLen m - (1 + (o - firstOf m % 7) % 7 + 7 * j)).toNat,
        ⟨_, s1, 0, Int.le_refl _, by rw [Int.mul_zero, Int.add_zero]; rfl, by omega, rfl⟩, ?_⟩
      rintro i σ H' ⟨s2, j, j0, rfl, jl, rfl⟩
      refine ⟨_, rfl, _, _, rfl, rfl, _, rfl, m, rfl, fun H2 s3 => ?_⟩
      refine ⟨_, _, rfl, rfl, _, rfl, ?_⟩
      refine ite2 (fun e => ?_) (fun e => ?_)
      · have e : 1 + (o - firstOf m % 7) % 7 + 7 * j + 7 ≤ monLen m := of_decide_eq_true e
        refine ⟨fun σ' H4 => Same H H4 ∧ σ' = [some (.ref p), some (.int m), some (.int (1 + (o - firstOf m % 7) % 7 + 7 * j + 7))], ?_, ?_⟩
        · rintro σ' H4 ⟨s4, rfl⟩
          refine ⟨(monLen m - (1 + (o - firstOf m % 7) % 7 + 7 * (j + 1))).toNat, by omega, s4, j + 1, by omega, ?_, by omega, rfl⟩
          rw [show 1 + (o - firstOf m % 7) % 7 + 7 * j + 7 = 1 + (o - firstOf m % 7) % 7 + 7 * (j + 1) from by omega]
        · exact ⟨_, rfl, _, _, rfl, rfl, s2.trans s3, rfl⟩
      · have e : ¬ 1 + (o - firstOf m % 7) % 7 + 7 * j + 7 ≤ monLen m := fun y => e (decide_eq_true y)
        have ej : (monLen m - (1 + (o - firstOf m % 7) % 7)) / 7 = j := by omega
        rw [ej] at k
        exact ⟨_, rfl, k _ (s2.trans s3)⟩
end
end Gc

namespace Gc
open PySem PySem.Spec PyProof.Rows L2
/-! ### rules -/
abbrev sComing : Stmt := topS 17
abbrev sLimit : Stmt := topS 18
theorem scComing : FnScope ["rule", "first", "how"] ["rule"] (defScope sComing) := ⟨rfl, rfl, rfl, by decide +kernel, rfl, by decide +kernel, by decide +kernel⟩
theorem scLimit : FnScope ["rule", "coming", "day"] ["rule", "coming"] (defScope sLimit) := ⟨rfl, rfl, rfl, by decide +kernel, rfl, by decide +kernel, by decide +kernel⟩
def HowAt (K : PySem.W.Frag) (H : Hp) (a : Addr) : How → Prop
  | .once => SqT K H a [.str "once"]
  | .days n => SqT K H a [.str "days", .int n]
  | .weeks n ws => ∃ t, SqT K H a [.str "weeks", .int n, .ref t] ∧ SqT K H t (ws.map V.int)
  | .dates n t => SqT K H a [.str "months", .int n, .int t]
  | .wkds n w o => SqT K H a [.str "months", .int n, .int w, .int o]
def EndAt (K : PySem.W.Frag) (H : Hp) (v : V) : End → Prop
  | .no => v = .non
  | .upto u => ∃ a, v = .ref a ∧ SqT K H a [.str "until", .int u]
  | .times c => ∃ a, v = .ref a ∧ SqT K H a [.str "times", .int c]
def RuleAt (K : PySem.W.Frag) (H : Hp) (r : Addr) (f : Int) (h : How) (e : End) : Prop := ∃ (mn ln v : V) (a : Addr), SqT K H r [.int f, mn, ln, .ref a, v] ∧ HowAt K H a h ∧ EndAt K H v e
theorem HowAt.same {K : PySem.W.Frag} {H H' : Hp} {a : Addr} {h : How} (q : HowAt K H a h) (s : Same H H') : HowAt K H' a h := by
  cases h with
  | weeks n ws => obtain ⟨t, q1, q2⟩ := q; exact ⟨t, Same.tup s q1, Same.tup s q2⟩
  | once => exact Same.tup s q
  | days n => exact Same.tup s q
  | dates n t => exact Same.tup s q
  | wkds n w o => exact Same.tup s q
theorem EndAt.same {K : PySem.W.Frag} {H H' : Hp} {v : V} {e : End} (q : EndAt K H v e) (s : Same H H') : EndAt K H' v e := by
  cases e with
  | no => exact q
  | upto u => obtain ⟨a, e, q⟩ := q; exact ⟨a, e, Same.tup s q⟩
  | times c => obtain ⟨a, e, q⟩ := q; exact ⟨a, e, Same.tup s q⟩
theorem RuleAt.same {K : PySem.W.Frag} {H H' : Hp} {r : Addr} {f : Int} {h : How} {e : End} (q : RuleAt K H r f h e) (s : Same H H') : RuleAt K H' r f h e := by
  obtain ⟨mn, ln, v, a, q1, q2, q3⟩ := q
  exact ⟨mn, ln, v, a, Same.tup s q1, q2.same s, q3.same s⟩
theorem sEq {x y : Str} (h : x = y) : decide (V.str x = V.str y) = true := by rw [h]; exact decide_eq_true rfl
theorem sNe {x y : Str} (h : ¬ x = y) : decide (V.str x = V.str y) = false := decide_eq_false fun e => h (V.str.inj e)
def Mkr (P : Program) (w : World) (K : PySem.W.Frag) (mg : Str → Option Value) (base : Heap) (x : Str) (C : Addr) (k : Nat) (ps : List Str) (sp : Sp) : Prop :=
  ∃ (f : Addr) (fd : FuncData), Mk K C f ∧ mg x = some (.ref C) ∧ Binds K fd ps [] ∧ FnOk P w K mg base CX0 k f fd ps sp
theorem pe_mkr {X : Cx} {x : Str} {C : Addr} {k : Nat} {ps : List Str} {sp : Sp} {p pos : Pos} {e : Expr} {es : List Expr} {t : TA} (D : Mkr X.prog X.w X.K X.mg X.base x C k ps sp) (hr : Room (k + 1) X.A) (hg : Gl X x) (ha : PA X (e :: es) t)
    (hdb : (x == ("__debug__" : Str)) = false := by decide) (he : starEach (e :: es) X.env = (false, eval e X.env) :: starEach es X.env := by rfl) (hpl : (backTo pos (starEach es X.env)).any (·.1) = false := by rfl) :
    PE X (.Call (.Name x p) (e :: es) [] pos) (tMake C sp [] E0 t) := by
  obtain ⟨f, fd, M, hm, hb, F⟩ := D
  exact pe_make M F hr hg hm hb .nil pass0 ha hdb he hpl
theorem made_same {x dx C : Addr} {H H' : Hp} (nx : H x = none) (nd : H dx = none) (b : But x (upd (upd H dx (.own x)) x (.ins C dx [])) H') : Same H H' := fun a o e =>
  b a o (by rw [upd_ne (ne_of_none e nx), upd_ne (ne_of_none e nd)]; exact e) (ne_of_none e nx)
def spComing (K : PySem.W.Frag) (c : Cl) : Sp := fun vs H Q _ => ∃ (r : Addr) (f : Int) (h : How) (e : End), vs = [.ref r] ∧ RuleAt K H r f h e ∧ ROk f h ∧ ∀ p H', Same H H' → H p = none → ComAt K c H' p f h → Q (.ref p) H'
def spLimit (K : PySem.W.Frag) (c : Cl) : Sp := fun vs H Q _ => ∃ (r p : Addr) (f : Int) (h : How) (e : End), vs = [.ref r, .ref p] ∧ RuleAt K H r f h e ∧ ROk f h ∧ EndOk f e ∧ ComAt K c H p f h ∧ ∀ H', Same H H' → Q (.int (lim f h e)) H'
/-- what coming_of needs: each class is made -/
structure Makers (P : Program) (w : World) (K : PySem.W.Frag) (mg : Str → Option Value) (base : Heap) (c : Cl) : Prop where
  mo : Mkr P w K mg base "Once" c.o 1 ["self", "first"] (spOnceInit K)
  md : Mkr P w K mg base "Days" c.d 2 ["self", "first", "step"] (spDaysInit c)
  mw : Mkr P w K mg base "Weeks" c.w 2 ["self", "first", "step", "weekdays"] (spWeeksInit K c)
  mt : Mkr P w K mg base "Dates" c.dt 5 ["self", "first", "step", "date"] (spDatesInit c)
  mwk : Mkr P w K mg base "Weekdays" c.wk 5 ["self", "first", "step", "which", "one"] (spWkdsInit c)
section
variable {P : Program} {w : World} {K : PySem.W.Frag} {mg : Str → Option Value} {base : Heap} {c : Cl} {f : Addr} {fd : FuncData}
theorem ok_coming (F : Fun K "coming_of" "coming_of" sComing f fd) (G : Glb K mg) (L : Flds K c) (M : Makers P w K mg base c) : FnOk P w K mg base CX0 7 f fd ["rule"] (spComing K c) := by
  refine F.ok scComing (fun vs H Q E h => ?_) (fun cdv A outer s H vs Q E hr h => ?_)
  · obtain ⟨r, f, h, e, rfl, _⟩ := h
    rfl
  · obtain ⟨r, f, h, e, rfl, R, ok, k⟩ := h
    obtain ⟨mn, ln, v, a, q1, q2, q3⟩ := R
    have hr3 : Room 3 _ := hr.mono (by decide)
    have hr2 : Room 2 _ := hr.mono (by decide)
    have f0 : 0 ≤ f := by have := ok.1; omega
    refine ⟨_, pss_cons (ps_par (i := 1) (j := 2) (by rfl) scComing.nd rfl rfl (by decide) rfl rfl (pa_cons (pe_ix ix_tup (pv 0) pe_int (fun _ _ => rfl)) (pa_cons (pe_ix ix_tup (pv 0) pe_int (fun _ _ => rfl)) pa_nil)) (by rfl))
      (pss_cons (ps_if (pt_cmpR op_eq (pe_ix ix_tup (pv 2) pe_int (fun _ _ => rfl)) pe_str (nomark _)) (pss_one (ps_ret (pe_mkr M.mo hr2 (by rfl) (pa_cons (pv 1) pa_nil)))) pss_nil)
      (pss_cons (ps_if (pt_cmpR op_eq (pe_ix ix_tup (pv 2) pe_int (fun _ _ => rfl)) pe_str (nomark _)) (pss_one (ps_ret (pe_mkr M.md hr3 (by rfl) (pa_cons (pv 1) (pa_cons (pe_ix ix_tup (pv 2) pe_int (fun _ _ => rfl)) pa_nil))))) pss_nil)
      (pss_cons (ps_if (pt_cmpR op_eq (pe_ix ix_tup (pv 2) pe_int (fun _ _ => rfl)) pe_str (nomark _)) (pss_one (ps_ret (pe_mkr M.mw hr3 (by rfl) (pa_cons (pv 1) (pa_cons (pe_ix ix_tup (pv 2) pe_int (fun _ _ => rfl)) (pa_cons (pe_ix ix_tup (pv 2) pe_int (fun _ _ => rfl)) pa_nil)))))) pss_nil)
      (pss_cons (ps_if (pt_cmpR op_eq (pe_callB call_len_seq (by rfl) G.ln PySem.boot_len (pa_cons (pv 2) pa_nil)) pe_int (nomark _)) (pss_one (ps_ret (pe_mkr M.mt hr (by rfl) (pa_cons (pv 1) (pa_cons (pe_ix ix_tup (pv 2) pe_int (fun _ _ => rfl)) (pa_cons (pe_ix ix_tup (pv 2) pe_int (fun _ _ => rfl)) pa_nil)))))) pss_nil)
      (pss_one (ps_ret (pe_mkr M.mwk hr (by rfl) (pa_cons (pv 1) (pa_cons (pe_ix ix_tup (pv 2) pe_int (fun _ _ => rfl)) (pa_cons (pe_ix ix_tup (pv 2) pe_int (fun _ _ => rfl)) (pa_cons (pe_ix ix_tup (pv 2) pe_int (fun _ _ => rfl)) pa_nil))))))))))), ?_⟩
    refine ⟨_, rfl, r, _, _, .int f, rfl, rfl, q1, at_of (j := 0) rfl rfl, _, rfl, r, _, _, .ref a, rfl, rfl, q1, at_of (j := 3) rfl rfl, _, _, rfl, ?_⟩
    cases h with
    | once =>
      refine ⟨_, rfl, a, _, _, .str "once", rfl, rfl, q2, at_of (j := 0) rfl rfl, rfl, _, rfl, ?_⟩
      rw [sEq rfl]
      refine iteT ⟨_, rfl, fun x dx nx nd ne => ?_⟩
      refine ⟨x, c.o, dx, f, [], rfl, upd_same, L.oC, L.oF, by show 0 < 1000; decide, rfl, ?_⟩
      exact k x _ (made_same nx nd But.upd) nx ⟨dx, upd_same⟩
    | days n =>
      refine ⟨_, rfl, a, _, _, .str "days", rfl, rfl, q2, at_of (j := 0) rfl rfl, rfl, _, rfl, ?_⟩
      rw [sNe (by decide +kernel)]
      refine iteF ⟨_, rfl, a, _, _, .str "days", rfl, rfl, q2, at_of (j := 0) rfl rfl, rfl, _, rfl, ?_⟩
      rw [sEq rfl]
      refine iteT ⟨_, rfl, _, rfl, a, _, _, .int n, rfl, rfl, q2, at_of (j := 1) rfl rfl, fun x dx nx nd ne => ?_⟩
      refine ⟨x, dx, f, n, rfl, upd_same, fun H' b e => ⟨rfl, ?_⟩⟩
      exact k x _ (made_same nx nd b) nx ⟨dx, e⟩
    | weeks n ws =>
      obtain ⟨t, q2, q4⟩ := q2
      refine ⟨_, rfl, a, _, _, .str "weeks", rfl, rfl, q2, at_of (j := 0) rfl rfl, rfl, _, rfl, ?_⟩
      rw [sNe (by decide +kernel)]
      refine iteF ⟨_, rfl, a, _, _, .str "weeks", rfl, rfl, q2, at_of (j := 0) rfl rfl, rfl, _, rfl, ?_⟩
      rw [sNe (by decide +kernel)]
      refine iteF ⟨_, rfl, a, _, _, .str "weeks", rfl, rfl, q2, at_of (j := 0) rfl rfl, rfl, _, rfl, ?_⟩
      rw [sEq rfl]
      refine iteT ⟨_, rfl, _, rfl, a, _, _, .int n, rfl, rfl, q2, at_of (j := 1) rfl rfl, _, rfl, a, _, _, .ref t, rfl, rfl, q2, at_of (j := 2) rfl rfl, fun x dx nx nd ne => ?_⟩
      have sm : Same H (upd (upd H dx (.own x)) x (.ins c.w dx [])) := made_same nx nd (fun _ _ z _ => z)
      refine ⟨x, dx, t, f, n, ws, rfl, upd_same, Same.tup sm q4, by have := (wk_len ok.2.2).2; omega, fun H' b e => ⟨rfl, ?_⟩⟩
      have s2 := made_same nx nd b
      exact k x _ s2 nx ⟨dx, t, e, Same.tup s2 q4⟩
    | dates n t =>
      refine ⟨_, rfl, a, _, _, .str "months", rfl, rfl, q2, at_of (j := 0) rfl rfl, rfl, _, rfl, ?_⟩
      rw [sNe (by decide +kernel)]
      refine iteF ⟨_, rfl, a, _, _, .str "months", rfl, rfl, q2, at_of (j := 0) rfl rfl, rfl, _, rfl, ?_⟩
      rw [sNe (by decide +kernel)]
      refine iteF ⟨_, rfl, a, _, _, .str "months", rfl, rfl, q2, at_of (j := 0) rfl rfl, rfl, _, rfl, ?_⟩
      rw [sNe (by decide +kernel)]
      refine iteF ⟨_, rfl, a, _, rfl, .inr q2, rfl, _, rfl, iteT ?_⟩
      refine ⟨_, rfl, _, rfl, a, _, _, .int n, rfl, rfl, q2, at_of (j := 1) rfl rfl, _, rfl, a, _, _, .int t, rfl, rfl, q2, at_of (j := 2) rfl rfl, fun x dx nx nd ne => ?_⟩
      refine ⟨x, dx, f, n, t, rfl, upd_same, f0, fun H' b e => ⟨rfl, ?_⟩⟩
      exact k x _ (made_same nx nd b) nx ⟨dx, e⟩
    | wkds n v o =>
      refine ⟨_, rfl, a, _, _, .str "months", rfl, rfl, q2, at_of (j := 0) rfl rfl, rfl, _, rfl, ?_⟩
      rw [sNe (by decide +kernel)]
      refine iteF ⟨_, rfl, a, _, _, .str "months", rfl, rfl, q2, at_of (j := 0) rfl rfl, rfl, _, rfl, ?_⟩
      rw [sNe (by decide +kernel)]
      refine iteF ⟨_, rfl, a, _, _, .str "months", rfl, rfl, q2, at_of (j := 0) rfl rfl, rfl, _, rfl, ?_⟩
      rw [sNe (by decide +kernel)]
      refine iteF ⟨_, rfl, a, _, rfl, .inr q2, rfl, _, rfl, iteF ?_⟩
      refine ⟨_, rfl, _, rfl, a, _, _, .int n, rfl, rfl, q2, at_of (j := 1) rfl rfl, _, rfl, a, _, _, .int v, rfl, rfl, q2, at_of (j := 2) rfl rfl, _, rfl, a, _, _, .int o, rfl, rfl, q2, at_of (j := 3) rfl rfl, fun x dx nx nd ne => ?_⟩
      refine ⟨x, dx, f, n, v, o, rfl, upd_same, f0, fun H' b e => ⟨rfl, ?_⟩⟩
      exact k x _ (made_same nx nd b) nx ⟨dx, e⟩
theorem ok_limit (F : Fun K "limit_of" "limit_of" sLimit f fd) (G : Glb K mg) (I : ∀ h : How, Itf P w K mg base c (tagOf h)) : FnOk P w K mg base CX0 9 f fd ["rule", "coming"] (spLimit K c) := by
  obtain ⟨t, ld⟩ := G.ld
  refine F.ok scLimit (fun vs H Q E h => ?_) (fun cdv A outer s H vs Q E hr h => ?_)
  · obtain ⟨r, p, f, h, e, rfl, _⟩ := h
    rfl
  · obtain ⟨r, p, f, h, e, rfl, R, ok, eok, C, k⟩ := h
    obtain ⟨mn, ln, v, a, q1, q2, q3⟩ := R
    have I := I h
    have f0 : 0 ≤ f := by have := ok.1; omega
    refine ⟨_, pss_cons (ps_if (pt_cmpR op_isN (pe_ix ix_tup (pv 0) pe_int (fun _ _ => rfl)) pe_non (nomark _)) (pss_one (ps_ret (pe_glob (v := .int 99990) rfl ld ⟨_, rfl⟩))) pss_nil)
      (pss_cons (ps_if (pt_cmpR op_eq (pe_ix ix_tup (pe_ix ix_tup (pv 0) pe_int (fun _ _ => rfl)) pe_int (fun _ _ => rfl)) pe_str (nomark _)) (pss_one (ps_ret (pe_ix ix_tup (pe_ix ix_tup (pv 0) pe_int (fun _ _ => rfl)) pe_int (fun _ _ => rfl)))) pss_nil)
      (pss_cons (ps_set (i := 2) scLimit.nd rfl (.inl rfl) (pe_me (pv 1) I.cl I.ap hr (pa_cons (pe_op op_sub (pe_ix ix_tup (pe_ix ix_tup (pv 0) pe_int (fun _ _ => rfl)) pe_int (fun _ _ => rfl)) pe_int) pa_nil)))
      (pss_one (ps_ret (pe_ifExp (pt_cmpR op_isN (pv 2) pe_non (nomark _)) (pe_glob (v := .int 99990) rfl ld ⟨_, rfl⟩) (pe_callB (call_min2 rfl) (by rfl) G.mn (by decide +kernel) (pa_cons (pv 2) (pa_cons (pe_glob (v := .int 99990) rfl ld ⟨_, rfl⟩) pa_nil)))))))), ?_⟩
    refine ⟨_, rfl, r, _, _, v, rfl, rfl, q1, at_of (j := 4) rfl rfl, rfl, _, rfl, ?_⟩
    cases e with
    | no =>
      have q3 : v = .non := q3
      subst q3
      exact iteT (k H (Same.refl _))
    | upto u =>
      obtain ⟨b, rfl, q4⟩ := q3
      refine iteF ⟨_, rfl, r, _, _, .ref b, rfl, rfl, q1, at_of (j := 4) rfl rfl, b, _, _, .str "until", rfl, rfl, q4, at_of (j := 0) rfl rfl, rfl, _, rfl, ?_⟩
      rw [sEq rfl]
      exact iteT ⟨_, rfl, r, _, _, .ref b, rfl, rfl, q1, at_of (j := 4) rfl rfl, b, _, _, .int u, rfl, rfl, q4, at_of (j := 1) rfl rfl, k H (Same.refl _)⟩
    | times n =>
      obtain ⟨b, rfl, q4⟩ := q3
      refine iteF ⟨_, rfl, r, _, _, .ref b, rfl, rfl, q1, at_of (j := 4) rfl rfl, b, _, _, .str "times", rfl, rfl, q4, at_of (j := 0) rfl rfl, rfl, _, rfl, ?_⟩
      rw [sNe (by decide +kernel)]
      obtain ⟨dx, fs, hp, nm⟩ := C.ins
      refine iteF ⟨_, rfl, p, dx, fs, rfl, hp, nm.2.2.2.2.1, ?_⟩
      refine ⟨_, rfl, r, _, _, .ref b, rfl, rfl, q1, at_of (j := 4) rfl rfl, b, _, _, .int n, rfl, rfl, q4, at_of (j := 1) rfl rfl, _, _, rfl, rfl, p, f, n - 1, h, rfl, rfl, C, ok, by have := eok.1; omega, fun z H1 A s1 => ?_⟩
      refine ⟨_, rfl, rfl, ?_⟩
      cases z with
      | none =>
        rw [lim_none A] at k
        exact ⟨_, rfl, iteT (k H1 s1)⟩
      | some d =>
        rw [lim_some f0 A] at k
        refine ⟨_, rfl, iteF ⟨_, rfl, _, _, rfl, ?_⟩⟩
        rw [min_ite]
        exact k H1 s1
end
end Gc

namespace Gc
open PySem PySem.Spec PyProof.Rows L2
/-! ### the functions over rules -/
abbrev sDaysOf : Stmt := topS 19
abbrev sIsDay : Stmt := topS 20
abbrev sPlaceOf : Stmt := topS 21
abbrev sDayAt : Stmt := topS 22
abbrev sLastDay : Stmt := topS 23
theorem scDaysOf : FnScope ["rule", "low", "high", "coming", "beyond", "stretch", "found", "day"] ["rule", "low", "high"] (defScope sDaysOf) := ⟨rfl, rfl, rfl, by decide +kernel, rfl, by decide +kernel, by decide +kernel⟩
theorem scIsDay : FnScope ["rule", "day", "coming"] ["rule", "day"] (defScope sIsDay) := ⟨rfl, rfl, rfl, by decide +kernel, rfl, by decide +kernel, by decide +kernel⟩
theorem scPlaceOf : FnScope ["rule", "day"] ["rule", "day"] (defScope sPlaceOf) := ⟨rfl, rfl, rfl, by decide +kernel, rfl, by decide +kernel, by decide +kernel⟩
theorem scDayAt : FnScope ["rule", "place", "coming", "day"] ["rule", "place"] (defScope sDayAt) := ⟨rfl, rfl, rfl, by decide +kernel, rfl, by decide +kernel, by decide +kernel⟩
theorem scLastDay : FnScope ["rule", "coming", "beyond", "stretch", "some", "day"] ["rule"] (defScope sLastDay) := ⟨rfl, rfl, rfl, by decide +kernel, rfl, by decide +kernel, by decide +kernel⟩
def spDaysOf (K : PySem.W.Frag) : Sp := fun vs H Q _ => ∃ (r : Addr) (f : Int) (h : How) (e : End) (lo hi : Int), vs = [.ref r, .int lo, .int hi] ∧ RuleAt K H r f h e ∧ ROk f h ∧ EndOk f e ∧ 0 ≤ lo ∧ lo ≤ 99991 ∧
  ∀ q H', Same H H' → H q = none → H' q = some (.lst ((daysOf f h e lo hi).map V.int)) → Q (.ref q) H'
def spIsDay (K : PySem.W.Frag) : Sp := fun vs H Q _ => ∃ (r : Addr) (f : Int) (h : How) (e : End) (d : Int), vs = [.ref r, .int d] ∧ RuleAt K H r f h e ∧ ROk f h ∧ 0 ≤ d ∧ ∀ H', Same H H' → Q (.bl (isDay f h e d)) H'
def spPlaceOf (K : PySem.W.Frag) : Sp := fun vs H Q _ => ∃ (r : Addr) (f : Int) (h : How) (e : End) (d : Int), vs = [.ref r, .int d] ∧ RuleAt K H r f h e ∧ ROk f h ∧ 0 ≤ d ∧ ∀ H', Same H H' → Q (vOpt (placeOf f h e d)) H'
def spDayAt (K : PySem.W.Frag) : Sp := fun vs H Q _ => ∃ (r : Addr) (f : Int) (h : How) (e : End) (i : Int), vs = [.ref r, .int i] ∧ RuleAt K H r f h e ∧ ROk f h ∧ EndOk f e ∧ 0 ≤ i ∧ ∀ H', Same H H' → Q (vOpt (dayAt f h e i)) H'
def spLastDay (K : PySem.W.Frag) : Sp := fun vs H Q _ => ∃ (r : Addr) (f : Int) (h : How) (e : End), vs = [.ref r] ∧ RuleAt K H r f h e ∧ ROk f h ∧ EndOk f e ∧ ∀ H', Same H H' → Q (vOpt (lastDay f h e)) H'
theorem ComAt.but {K : PySem.W.Frag} {c : Cl} {H H' : Hp} {p q : Addr} {f : Int} {h : How} {xs : List V} (C : ComAt K c H p f h) (b : But q H H') (hq : H q = some (.lst xs)) : ComAt K c H' p f h := by
  have ins : ∀ {C dx : Addr} {fs : List (Str × V)}, H p = some (.ins C dx fs) → H' p = some (.ins C dx fs) := fun e => b _ _ e (ne_of e hq (fun z => nomatch z))
  have tup : ∀ {t : Addr} {ys : List V}, SqT K H t ys → SqT K H' t ys := fun h =>
    h.elim (fun h => .inl (h.elim (fun h => .inl (b _ _ h (ne_of h hq (fun z => nomatch z)))) fun ⟨o, h⟩ => .inr ⟨o, b _ _ h (ne_of h hq (fun z => nomatch z))⟩)) fun h => .inr h
  cases h with
  | once => obtain ⟨dx, e⟩ := C; exact ⟨dx, ins e⟩
  | days n => obtain ⟨dx, e⟩ := C; exact ⟨dx, ins e⟩
  | weeks n ws => obtain ⟨dx, t, e, q⟩ := C; exact ⟨dx, t, ins e, tup q⟩
  | dates n t => obtain ⟨dx, e⟩ := C; exact ⟨dx, ins e⟩
  | wkds n w o => obtain ⟨dx, e⟩ := C; exact ⟨dx, ins e⟩
theorem inV_ints (d : Int) (l : List Int) : inV (.int d) (l.map V.int) = decide (d ∈ l) := by
  unfold inV
  rw [Bool.eq_iff_iff, List.any_eq_true, decide_eq_true_eq]
  constructor
  · rintro ⟨y, hy, e⟩
    obtain ⟨z, hz, rfl⟩ := List.mem_map.mp hy
    have : z = d := eq_of_beq (show (z == d) = true from e)
    rw [← this]
    exact hz
  · intro hd
    exact ⟨.int d, List.mem_map.mpr ⟨d, hd, rfl⟩, beq_self_eq_true d⟩
theorem flat_ints (l : List Int) : (l.map V.int).all flatV = true := by
  rw [List.all_eq_true]
  intro y hy
  obtain ⟨z, hz, rfl⟩ := List.mem_map.mp hy
  rfl
theorem eqv_ints : ∀ a b : List Int, PyData.eqvAll (a.map PyData.int) (b.map PyData.int) = decide (a = b)
  | [], [] => by simp [PyData.eqvAll]
  | [], _ :: _ => by simp [PyData.eqvAll]
  | _ :: _, [] => by simp [PyData.eqvAll]
  | n :: r, k :: q => by
    simp only [List.map_cons, PyData.eqvAll, PyData.eqv, eqv_ints r q]
    by_cases h : n = k <;> simp [h]
theorem eqv_list (a b : List Int) : PyData.eqv (.list (a.map PyData.int)) (.list (b.map PyData.int)) = decide (a = b) := by
  simp only [PyData.eqv]
  exact eqv_ints a b
theorem dpAll_ints {K : PySem.W.Frag} {H : Hp} : ∀ ns : List Int, DpAll K H (ns.map V.int) (ns.map PyData.int)
  | [] => .nil
  | n :: r => .cons (.int n) (dpAll_ints r)
theorem dp_ints {K : PySem.W.Frag} {H : Hp} {a : Addr} {ns : List Int} (h : SqL K H a (ns.map V.int)) : Dp K H (.ref a) (.list (ns.map PyData.int)) := .lst h (dpAll_ints ns)
theorem filt_sub {l : List Int} {q : Int → Bool} {n : Nat} (h : (l.filter q).length ≤ n) (j : Nat) (hn : n ≤ 1000000) : (((l.take j).filter q).map V.int).length < sizeLine := by
  rw [List.length_map]
  have := ((List.take_sublist j l).filter q).length_le
  exact Nat.lt_of_le_of_lt (Nat.le_trans this (Nat.le_trans h hn)) (by decide)
section
variable {P : Program} {w : World} {K : PySem.W.Frag} {mg : Str → Option Value} {base : Heap} {c : Cl} {f : Addr} {fd : FuncData}
theorem ok_daysOf (F : Fun K "days_of" "days_of" sDaysOf f fd) (G : Glb K mg) (I : ∀ h : How, Itf P w K mg base c (tagOf h)) (CO : Kn P w K mg base "coming_of" 7 ["rule"] (spComing K c)) (LI : Kn P w K mg base "limit_of" 9 ["rule", "coming"] (spLimit K c)) :
    FnOk P w K mg base CX0 10 f fd ["rule", "low", "high"] (spDaysOf K) := by
  refine F.ok scDaysOf (fun vs H Q E h => ?_) (fun cdv A outer s H vs Q E hr h => ?_)
  · obtain ⟨r, f, h, e, lo, hi, rfl, _⟩ := h
    rfl
  · obtain ⟨r, f, h, e, lo, hi, rfl, R, ok, eok, l0, l1, k⟩ := h
    have I := I h
    have f0 : 0 ≤ f := by have := ok.1; omega
    have hr8 : Room 8 _ := hr.mono (by decide)
    obtain ⟨lm0, lm9⟩ := lim_le (h := h) eok f0
    refine ⟨_, pss_cons (ps_set (i := 3) scDaysOf.nd rfl (.inl rfl) (pe_kn CO (hr.mono (by decide)) (by rfl) (pa_cons (pv 0) pa_nil)))
      (pss_cons (ps_set (i := 4) scDaysOf.nd rfl (.inr rfl) (pe_callB (call_min2 rfl) (by rfl) G.mn (by decide +kernel) (pa_cons (pv 2) (pa_cons (pe_kn LI hr (by rfl) (pa_cons (pv 0) (pa_cons (pv 3) pa_nil))) pa_nil))))
      (pss_cons (ps_set (i := 5) scDaysOf.nd rfl (.inl rfl) (pe_me (pv 3) I.cl I.st hr8 (pa_cons (pv 1) pa_nil)))
      (pss_cons (ps_set (i := 6) scDaysOf.nd rfl (.inl rfl) (pe_lst pa_nil))
      (pss_cons (ps_while PassesOwn.never (pt_cmpR op_le (pe_me (pv 3) I.cl I.be hr8 (pa_cons (pv 5) pa_nil)) (pv 4) (nomark _))
        (pss_cons (ps_expr (pe_bm PySem.F.plainAttrs_list PySem.F.slot_list_extend PySem.F.type_list_extend mt_extend (pv 6) (pa_cons (pe_lc (own := [("day", 7)]) (g := gName 7) (by rfl) scDaysOf.nd (pi_list (pe_me (pv 3) I.cl I.di hr8 (pa_cons (pv 5) pa_nil)))
            (blkOk_by (own := [("day", 7)]) (N := ["rule", "low", "high", "coming", "beyond", "stretch", "found", "day"]) (sc := defScope sDaysOf) (by decide +kernel)) (fun _ _ _ _ _ => pg_name (i := 7) scDaysOf.nd rfl (Or.inl rfl)) (fun _ _ _ _ _ => pts_one (pt_chain op_le op_le (pv 1) (pv 7) (pv 4))) (fun _ _ _ _ _ => pv 7)) pa_nil)))
          (pss_one (ps_set (i := 5) scDaysOf.nd rfl (.inl rfl) (pe_op op_add (pv 5) pe_int)))))
      (pss_one (ps_ret (pv 6))))))), ?_⟩
    refine ⟨_, rfl, r, f, h, e, rfl, R, ok, fun p H1 s1 np C1 => ?_⟩
    refine ⟨_, rfl, _, rfl, _, rfl, r, p, f, h, e, rfl, R.same s1, ok, eok, C1, fun H2 s2 => ?_⟩
    refine ⟨_, _, rfl, ?_⟩
    rw [min_ite]
    obtain ⟨dx, fs, hp2, nm⟩ := (C1.same s2).ins
    refine ⟨_, rfl, p, dx, fs, rfl, hp2, nm.1, _, rfl, p, f, lo, h, rfl, rfl, C1.same s2, ok, l0, l1, fun z H3 sk s3 => ?_⟩
    refine ⟨by show 0 ≤ sizeLine; decide, fun q nq => ?_⟩
    have s03 : Same H H3 := (s1.trans s2).trans s3
    have C3 : ComAt K c H3 p f h := (C1.same s2).same s3
    generalize hb : min hi (lim f h e) = b at k ⊢
    have hbe : b ≤ 99990 := by omega
    have dof : daysOf f h e lo hi = seg (isD f h) lo (b + 1) := by unfold daysOf; rw [hb]
    refine ⟨fun m σ H' => Same H H' ∧ ComAt K c H' p f h ∧ ∃ z : Int, 0 ≤ z ∧ H' q = some (.lst ((seg (isD f h) lo (min (b + 1) (beg f h z))).map V.int)) ∧
        σ = [some (.ref r), some (.int lo), some (.int hi), some (.ref p), some (.int b), some (.int z), some (.ref q), none] ∧ m = (b + 1 - beg f h z).toNat,
      ⟨_, same_at s03 (s03.free nq), C3.same (same_new nq), z, sk.1, ?_, rfl, rfl⟩, ?_⟩
    · rw [upd_same, days_start f0 sk]
      rfl
    rintro m σ H4 ⟨s4, C4, y, y0, hq, rfl, rfl⟩
    obtain ⟨dx4, fs4, hp4, nm4⟩ := C4.ins
    refine ⟨_, rfl, p, dx4, fs4, rfl, hp4, nm4.2.1, _, rfl, p, f, y, h, rfl, rfl, C4, ok, y0, fun H5 s5 => ?_⟩
    refine ⟨_, rfl, _, _, rfl, rfl, _, rfl, ?_⟩
    have bl := beg_lt (f := f) (h := h) ok.2.2 y0
    refine ite2 (fun g => ?_) (fun g => ?_)
    · have g : beg f h y ≤ b := of_decide_eq_true g
      refine ⟨fun σ' H' => Same H H' ∧ ComAt K c H' p f h ∧ H' q = some (.lst ((seg (isD f h) lo (min (b + 1) (beg f h (y + 1)))).map V.int)) ∧
        σ' = [some (.ref r), some (.int lo), some (.int hi), some (.ref p), some (.int b), some (.int (y + 1)), some (.ref q), none], ?_, ?_⟩
      · rintro σ' H' ⟨s', C', q', rfl⟩
        exact ⟨(b + 1 - beg f h (y + 1)).toNat, by omega, s', C', y + 1, by omega, q', rfl, rfl⟩
      · refine ⟨_, rfl, .inl ⟨rfl, _, SqL.of (s5 _ _ hq)⟩, ?_⟩
        have C5 := C4.same s5
        obtain ⟨dx5, fs5, hp5, nm5⟩ := C5.ins
        refine ⟨_, rfl, p, dx5, fs5, rfl, hp5, nm5.2.2.1, _, rfl, p, f, y, h, rfl, rfl, C5, ok, y0, fun u H6 s6 nu hu => ?_⟩
        refine ⟨u, rfl, ⟨_, SqL.of hu⟩, fun D nD => ?_⟩
        have cut : ((inS f h y).filter fun d => decide (lo ≤ d) && decide (d ≤ b)).length ≤ 100000 := by
          rw [seg_cut]
          have := seg_len_le (isD f h) (max (beg f h y) lo) (min (beg f h (y + 1)) (b + 1))
          omega
        refine lc_list (K := K) (a := u) (xs := (inS f h y).map V.int) (fun j H' => Same H6 H' ∧ H' D = some (.lst ((((inS f h y).take j).filter fun d => decide (lo ≤ d) && decide (d ≤ b)).map V.int))) ⟨same_new nD, upd_same⟩ (fun j H' _ y => y.1.seq (SqL.of hu)) ?_ ?_
        · rintro j x H7 hj ⟨s7, d7⟩
          obtain ⟨v, hv, rfl⟩ := map_get hj
          refine ⟨rfl, _, rfl, _, rfl, _, _, rfl, rfl, _, rfl, ?_⟩
          by_cases g1 : lo ≤ v
          · rw [decide_eq_true g1]
            refine iteT ⟨_, rfl, _, _, rfl, rfl, _, rfl, ?_⟩
            refine ite2 (fun g2 => ?_) (fun g2 => ?_)
            · refine ⟨_, rfl, _, d7, filt_sub cut j (by decide), same_at s7 nD, ?_⟩
              rw [upd_same, filt_yes hv (by rw [decide_eq_true g1]; exact g2)]
            · refine ⟨s7, ?_⟩
              rw [filt_no hv (by rw [Bool.eq_false_iff.mpr g2, Bool.and_false])]
              exact d7
          · rw [decide_eq_false g1]
            refine iteF ⟨_, rfl, iteF ⟨s7, ?_⟩⟩
            rw [filt_no hv (by rw [decide_eq_false g1, Bool.false_and])]
            exact d7
        · rintro H7 ⟨s7, d7⟩
          rw [List.length_map, take_all] at d7
          have hq7 := s7 _ _ (s6 _ _ (s5 _ _ hq))
          have st := days_step (f := f) (h := h) (lo := lo) (b := b) ok.2.2 f0 y0
          refine ⟨q, D, _, _, rfl, rfl, hq7, d7, ?_, ?_⟩
          · rw [List.length_map, List.length_map]
            have := seg_len_le (isD f h) lo (min (b + 1) (beg f h y))
            exact Nat.le_trans (Nat.add_le_add (show _ ≤ 100000 by omega) cut) (by decide)
          · rw [← List.map_append, ← st]
            have s07 : Same H H7 := ((s4.trans s5).trans s6).trans s7
            have nq0 : H q = none := s03.free nq
            exact ⟨_, rfl, _, _, rfl, rfl, same_at s07 nq0, ((C5.same s6).same s7).but But.upd hq7, upd_same, rfl⟩
    · have g : ¬ beg f h y ≤ b := fun z => g (decide_eq_true z)
      rw [days_end (by omega)] at hq
      rw [dof] at k
      exact ⟨_, rfl, k q H5 (s4.trans s5) (s03.free nq) (s5 _ _ hq)⟩
end
end Gc

namespace Gc
open PySem PySem.Spec PyProof.Rows L2
section
variable {P : Program} {w : World} {K : PySem.W.Frag} {mg : Str → Option Value} {base : Heap} {c : Cl} {f : Addr} {fd : FuncData}
theorem ok_isDay (F : Fun K "is_day" "is_day" sIsDay f fd) (G : Glb K mg) (I : ∀ h : How, Itf P w K mg base c (tagOf h)) (CO : Kn P w K mg base "coming_of" 7 ["rule"] (spComing K c)) :
    FnOk P w K mg base CX0 9 f fd ["rule", "day"] (spIsDay K) := by
  obtain ⟨t, ld⟩ := G.ld
  refine F.ok scIsDay (fun vs H Q E h => ?_) (fun cdv A outer s H vs Q E hr h => ?_)
  · obtain ⟨r, f, h, e, d, rfl, _⟩ := h
    rfl
  · obtain ⟨r, f, h, e, d, rfl, R, ok, d0, k⟩ := h
    have I := I h
    have f0 : 0 ≤ f := by have := ok.1; omega
    refine ⟨_, pss_cons (ps_set (i := 2) scIsDay.nd rfl (.inl rfl) (pe_kn CO (hr.mono (by decide)) (by rfl) (pa_cons (pv 0) pa_nil)))
      (pss_cons (ps_if (PW.pt (pw_or (pt_cmpR op_gt (pv 1) (pe_glob (v := .int 99990) rfl ld ⟨_, rfl⟩) (nomark _))
          (pw_or1 (pt_cmpR op_notIn_seq (pv 1) (pe_me (pv 2) I.cl I.di hr (pa_cons (pe_me (pv 2) I.cl I.st hr (pa_cons (pv 1) pa_nil)) pa_nil)) (by with_unfolding_all rfl))))) (pss_one (ps_ret pe_bl)) pss_nil)
      (pss_cons (ps_if (pt_cmpR op_isN (pe_ix ix_tup (pv 0) pe_int (fun _ _ => rfl)) pe_non (nomark _)) (pss_one (ps_ret pe_bl)) pss_nil)
      (pss_cons (ps_if (pt_cmpR op_eq (pe_ix ix_tup (pe_ix ix_tup (pv 0) pe_int (fun _ _ => rfl)) pe_int (fun _ _ => rfl)) pe_str (nomark _)) (pss_one (ps_ret (pe_cmpR op_le (pv 1) (pe_ix ix_tup (pe_ix ix_tup (pv 0) pe_int (fun _ _ => rfl)) pe_int (fun _ _ => rfl)) (nomark _)))) pss_nil)
      (pss_one (ps_ret (pe_cmpR op_lt (pe_me (pv 2) I.cl I.ah hr (pa_cons (pv 1) pa_nil)) (pe_ix ix_tup (pe_ix ix_tup (pv 0) pe_int (fun _ _ => rfl)) pe_int (fun _ _ => rfl)) (nomark _))))))), ?_⟩
    refine ⟨_, rfl, r, f, h, e, rfl, R, ok, fun p H1 s1 np C1 => ?_⟩
    obtain ⟨dx, fs, hp, nm⟩ := C1.ins
    refine ⟨_, rfl, _, _, rfl, rfl, _, rfl, ?_⟩
    by_cases g : 99990 < d
    · rw [decide_eq_true g]
      have k := k H1 s1
      unfold isDay at k
      rw [decide_eq_false (show ¬ d ≤ 99990 by omega), Bool.false_and] at k
      exact iteT (iteT k)
    rw [decide_eq_false g]
    refine iteF ⟨_, rfl, _, rfl, p, dx, fs, rfl, hp, nm.2.2.1, _, rfl, p, dx, fs, rfl, hp, nm.1, _, rfl, p, f, d, h, rfl, rfl, C1, ok, d0, by omega, fun z H2 sk s2 => ?_⟩
    refine ⟨p, f, z, h, rfl, rfl, C1.same s2, ok, sk.1, fun q H3 s3 nq hq => ?_⟩
    refine ⟨q, _, rfl, .inl (SqL.of hq), rfl, flat_ints _, _, rfl, ?_⟩
    have s13 := s2.trans s3
    have s03 := s1.trans s13
    rw [if_pos rfl, inV_ints]
    have C3 := C1.same s13
    obtain ⟨mn, ln, v, a, q1, q2, q3⟩ := R.same s03
    have mem := isD_in (f := f) (h := h) f0 sk
    by_cases hd : isD f h d = true
    · rw [decide_eq_true (mem.mpr hd)]
      have is : isDay f h e d = endTest f h e d := by
        unfold isDay
        rw [hd, decide_eq_true (show d ≤ 99990 by omega), Bool.true_and, Bool.true_and]
      rw [is] at k
      refine iteF ⟨_, rfl, r, _, _, v, rfl, rfl, q1, at_of (j := 4) rfl rfl, rfl, _, rfl, ?_⟩
      cases e with
      | no =>
        have q3 : v = .non := q3
        subst q3
        exact iteT (k H3 s03)
      | upto u =>
        obtain ⟨b, rfl, q4⟩ := q3
        refine iteF ⟨_, rfl, r, _, _, .ref b, rfl, rfl, q1, at_of (j := 4) rfl rfl, b, _, _, .str "until", rfl, rfl, q4, at_of (j := 0) rfl rfl, rfl, _, rfl, ?_⟩
        rw [sEq rfl]
        exact iteT ⟨_, rfl, _, rfl, r, _, _, .ref b, rfl, rfl, q1, at_of (j := 4) rfl rfl, b, _, _, .int u, rfl, rfl, q4, at_of (j := 1) rfl rfl, _, _, rfl, rfl, k H3 s03⟩
      | times n =>
        obtain ⟨b, rfl, q4⟩ := q3
        refine iteF ⟨_, rfl, r, _, _, .ref b, rfl, rfl, q1, at_of (j := 4) rfl rfl, b, _, _, .str "times", rfl, rfl, q4, at_of (j := 0) rfl rfl, rfl, _, rfl, ?_⟩
        rw [sNe (by decide +kernel)]
        refine iteF ⟨_, rfl, p, dx, fs, rfl, s13 _ _ hp, nm.2.2.2.1, _, rfl, p, f, d, h, rfl, rfl, C3, ok, d0, by omega, fun H4 s4 => ?_⟩
        exact ⟨_, rfl, r, _, _, .ref b, rfl, rfl, Same.tup s4 q1, at_of (j := 4) rfl rfl, b, _, _, .int n, rfl, rfl, Same.tup s4 q4, at_of (j := 1) rfl rfl, _, _, rfl, rfl, k H4 (s03.trans s4)⟩
    · rw [decide_eq_false (fun z => hd (mem.mp z))]
      have k := k H3 s03
      unfold isDay at k
      rw [Bool.eq_false_iff.mpr hd, Bool.false_and, Bool.and_false] at k
      exact iteT k
theorem ok_placeOf (F : Fun K "place_of" "place_of" sPlaceOf f fd) (I : ∀ h : How, Itf P w K mg base c (tagOf h)) (CO : Kn P w K mg base "coming_of" 7 ["rule"] (spComing K c)) (ID : Kn P w K mg base "is_day" 9 ["rule", "day"] (spIsDay K)) :
    FnOk P w K mg base CX0 10 f fd ["rule", "day"] (spPlaceOf K) := by
  refine F.ok scPlaceOf (fun vs H Q E h => ?_) (fun cdv A outer s H vs Q E hr h => ?_)
  · obtain ⟨r, f, h, e, d, rfl, _⟩ := h
    rfl
  · obtain ⟨r, f, h, e, d, rfl, R, ok, d0, k⟩ := h
    have I := I h
    refine ⟨_, pss_one (ps_ret (pe_ifExp (pt_val (pe_kn ID hr (by rfl) (pa_cons (pv 0) (pa_cons (pv 1) pa_nil)))) (pe_me (pe_kn CO (hr.mono (by decide)) (by rfl) (pa_cons (pv 0) pa_nil)) I.cl I.ah (hr.mono (by decide)) (pa_cons (pv 1) pa_nil)) pe_non)), ?_⟩
    refine ⟨_, rfl, _, rfl, r, f, h, e, d, rfl, R, ok, d0, fun H1 s1 => ?_⟩
    refine ⟨_, rfl, ?_⟩
    unfold placeOf at k
    refine ite2 (fun g => ?_) (fun g => ?_)
    · rw [if_pos g] at k
      have dl : d ≤ 99990 := by
        unfold isDay at g
        rw [Bool.and_eq_true, decide_eq_true_eq] at g
        exact g.1
      refine ⟨_, rfl, r, f, h, e, rfl, R.same s1, ok, fun p H2 s2 np C2 => ?_⟩
      obtain ⟨dx, fs, hp, nm⟩ := C2.ins
      refine ⟨p, dx, fs, rfl, hp, nm.2.2.2.1, _, rfl, p, f, d, h, rfl, rfl, C2, ok, d0, by omega, fun H3 s3 => ?_⟩
      exact k H3 ((s1.trans s2).trans s3)
    · rw [if_neg g] at k
      exact k H1 s1
theorem ok_dayAt (F : Fun K "day_at" "day_at" sDayAt f fd) (I : ∀ h : How, Itf P w K mg base c (tagOf h)) (CO : Kn P w K mg base "coming_of" 7 ["rule"] (spComing K c)) (LI : Kn P w K mg base "limit_of" 9 ["rule", "coming"] (spLimit K c)) :
    FnOk P w K mg base CX0 10 f fd ["rule", "place"] (spDayAt K) := by
  refine F.ok scDayAt (fun vs H Q E h => ?_) (fun cdv A outer s H vs Q E hr h => ?_)
  · obtain ⟨r, f, h, e, i, rfl, _⟩ := h
    rfl
  · obtain ⟨r, f, h, e, i, rfl, R, ok, eok, i0, k⟩ := h
    have I := I h
    have f0 : 0 ≤ f := by have := ok.1; omega
    refine ⟨_, pss_cons (ps_set (i := 2) scDayAt.nd rfl (.inl rfl) (pe_kn CO (hr.mono (by decide)) (by rfl) (pa_cons (pv 0) pa_nil)))
      (pss_cons (ps_set (i := 3) scDayAt.nd rfl (.inl rfl) (pe_me (pv 2) I.cl I.ap (hr.mono (by decide)) (pa_cons (pv 1) pa_nil)))
      (pss_one (ps_ret (pe_ifExp (PW.pt (pw_and (pt_cmpR op_notN (pv 3) pe_non (nomark _)) (pw_and1 (pt_cmpR op_le (pv 3) (pe_kn LI hr (by rfl) (pa_cons (pv 0) (pa_cons (pv 2) pa_nil))) (nomark _))))) (pv 3) pe_non)))), ?_⟩
    refine ⟨_, rfl, r, f, h, e, rfl, R, ok, fun p H1 s1 np C1 => ?_⟩
    obtain ⟨dx, fs, hp, nm⟩ := C1.ins
    refine ⟨_, rfl, p, dx, fs, rfl, hp, nm.2.2.2.2.1, _, rfl, p, f, i, h, rfl, rfl, C1, ok, i0, fun z H2 A s2 => ?_⟩
    refine ⟨_, rfl, rfl, _, rfl, ?_⟩
    cases z with
    | none =>
      rw [dayAt_none A] at k
      exact iteF (iteF (k H2 (s1.trans s2)))
    | some d =>
      rw [dayAt_some eok f0 A] at k
      refine iteT ⟨_, rfl, _, rfl, _, rfl, r, p, f, h, e, rfl, R.same (s1.trans s2), ok, eok, C1.same s2, fun H3 s3 => ?_⟩
      refine ⟨_, _, rfl, rfl, _, rfl, ?_⟩
      have k := k H3 ((s1.trans s2).trans s3)
      by_cases g : d ≤ lim f h e
      · rw [if_pos g] at k
        rw [decide_eq_true g]
        exact iteT ⟨_, rfl, k⟩
      · rw [if_neg g] at k
        rw [decide_eq_false g]
        exact iteF k
theorem ok_lastDay (F : Fun K "last_day" "last_day" sLastDay f fd) (I : ∀ h : How, Itf P w K mg base c (tagOf h)) (CO : Kn P w K mg base "coming_of" 7 ["rule"] (spComing K c)) (LI : Kn P w K mg base "limit_of" 9 ["rule", "coming"] (spLimit K c)) :
    FnOk P w K mg base CX0 10 f fd ["rule"] (spLastDay K) := by
  refine F.ok scLastDay (fun vs H Q E h => ?_) (fun cdv A outer s H vs Q E hr h => ?_)
  · obtain ⟨r, f, h, e, rfl, _⟩ := h
    rfl
  · obtain ⟨r, f, h, e, rfl, R, ok, eok, k⟩ := h
    have I := I h
    have f0 : 0 ≤ f := by have := ok.1; omega
    have hr8 : Room 8 _ := hr.mono (by decide)
    obtain ⟨lm0, lm9⟩ := lim_le (h := h) eok f0
    refine ⟨_, pss_cons (ps_set (i := 1) scLastDay.nd rfl (.inl rfl) (pe_kn CO (hr.mono (by decide)) (by rfl) (pa_cons (pv 0) pa_nil)))
      (pss_cons (ps_set (i := 2) scLastDay.nd rfl (.inr rfl) (pe_kn LI hr (by rfl) (pa_cons (pv 0) (pa_cons (pv 1) pa_nil))))
      (pss_cons (ps_set (i := 3) scLastDay.nd rfl (.inl rfl) (pe_me (pv 1) I.cl I.st hr8 (pa_cons (pv 2) pa_nil)))
      (pss_cons (ps_while PassesOwn.never (pt_cmpR op_ge (pv 3) pe_int (nomark _))
        (pss_cons (ps_setLc (i := 4) (own := [("day", 5)]) (g := gName 5) rfl scLastDay.nd rfl rfl (sw_true rfl rfl rfl (by decide +kernel)) (pi_list (pe_me (pv 1) I.cl I.di hr8 (pa_cons (pv 3) pa_nil)))
            (blkOk_by (own := [("day", 5)]) (N := ["rule", "coming", "beyond", "stretch", "some", "day"]) (sc := defScope sLastDay) (by decide +kernel)) (fun _ _ _ _ _ => pg_name (i := 5) scLastDay.nd rfl (Or.inl rfl)) (fun _ _ _ _ _ => pts_one (pt_cmpR op_le (pv 5) (pv 2) (nomark _))) (fun _ _ _ _ _ => pv 5))
        (pss_cons (ps_if (pt_cmpR (op_neD hr.units) (pv 4) (pe_lst pa_nil) (nomark _)) (pss_one (ps_ret (pe_ix ix_list (pv 4) (pe_un un_neg pe_int) (fun _ _ => rfl)))) pss_nil)
        (pss_one (ps_set (i := 3) scLastDay.nd rfl (.inl rfl) (pe_op op_sub (pv 3) pe_int))))))
      (pss_one (ps_ret pe_non))))), ?_⟩
    refine ⟨_, rfl, r, f, h, e, rfl, R, ok, fun p H1 s1 np C1 => ?_⟩
    refine ⟨_, rfl, _, rfl, r, p, f, h, e, rfl, R.same s1, ok, eok, C1, fun H2 s2 => ?_⟩
    have C2 := C1.same s2
    obtain ⟨dx, fs, hp, nm⟩ := C2.ins
    unfold lastDay at k
    generalize lim f h e = l at k lm0 lm9 ⊢
    refine ⟨_, rfl, p, dx, fs, rfl, hp, nm.1, _, rfl, p, f, l, h, rfl, rfl, C2, ok, lm0, by omega, fun z H3 sk s3 => ?_⟩
    have s23 := (s1.trans s2).trans s3
    have z0 := sk.1
    refine ⟨fun m σ H' => Same H H' ∧ ComAt K c H' p f h ∧ ∃ (y : Int) (v : Option V), -1 ≤ y ∧ seg (isD f h) 0 (min (l + 1) (beg f h (y + 1))) = seg (isD f h) 0 (l + 1) ∧
        σ = [some (.ref r), some (.ref p), some (.int l), some (.int y), v, none] ∧ m = (y + 1).toNat, ⟨_, s23, C2.same s3, z, none, by omega, last_start sk, rfl, rfl⟩, ?_⟩
    rintro m σ H4 ⟨s4, C4, y, v, y1, hs, rfl, rfl⟩
    refine ⟨_, rfl, _, _, rfl, rfl, _, rfl, ?_⟩
    refine ite2 (fun g => ?_) (fun g => ?_)
    · have y0 : 0 ≤ y := of_decide_eq_true g
      obtain ⟨dx4, fs4, hp4, nm4⟩ := C4.ins
      have st := last_step (f := f) (h := h) (l := l) ok.2.2 f0 y0
      rw [hs] at st
      refine ⟨fun σ' H' => Same H H' ∧ ComAt K c H' p f h ∧ ∃ v', seg (isD f h) 0 (min (l + 1) (beg f h (y - 1 + 1))) = seg (isD f h) 0 (l + 1) ∧ σ' = [some (.ref r), some (.ref p), some (.int l), some (.int (y - 1)), v', none], ?_, ?_⟩
      · rintro σ' H' ⟨s', C', v', hs', rfl⟩
        exact ⟨(y - 1 + 1).toNat, by omega, s', C', y - 1, v', by omega, hs', rfl, rfl⟩
      · refine ⟨_, rfl, p, dx4, fs4, rfl, hp4, nm4.2.2.1, _, rfl, p, f, y, h, rfl, rfl, C4, ok, y0, fun u H6 s6 nu hu => ?_⟩
        refine ⟨u, rfl, ⟨_, SqL.of hu⟩, fun D nD => ?_⟩
        have cut : ((inS f h y).filter fun d => decide (d ≤ l)).length ≤ 100000 := by
          have c0 := beg_nn (f := f) (h := h) ok.2.2 f0 y0
          rw [seg_upto]
          have := seg_len_le (isD f h) (beg f h y) (min (beg f h (y + 1)) (l + 1))
          omega
        refine lc_list (K := K) (a := u) (xs := (inS f h y).map V.int) (fun j H' => Same H6 H' ∧ H' D = some (.lst ((((inS f h y).take j).filter fun d => decide (d ≤ l)).map V.int))) ⟨same_new nD, upd_same⟩ (fun j H' _ y => y.1.seq (SqL.of hu)) ?_ ?_
        · rintro j x H7 hj ⟨s7, d7⟩
          obtain ⟨v, hv, rfl⟩ := map_get hj
          refine ⟨rfl, _, rfl, _, rfl, _, _, rfl, rfl, _, rfl, ?_⟩
          refine ite2 (fun g2 => ?_) (fun g2 => ?_)
          · refine ⟨_, rfl, _, d7, filt_sub cut j (by decide), same_at s7 nD, ?_⟩
            rw [upd_same, filt_yes hv (by exact g2)]
          · refine ⟨s7, ?_⟩
            rw [filt_no hv (Bool.eq_false_iff.mpr g2)]
            exact d7
        · rintro H7 ⟨s7, d7⟩
          rw [List.length_map, take_all] at d7
          have s07 := (s4.trans s6).trans s7
          refine ⟨_, rfl, by show 0 ≤ sizeLine; decide, fun n1 nn => ?_⟩
          have d8 := same_new (o := .lst []) nn _ _ d7
          refine ⟨_, .list (([] : List Int).map PyData.int), dp_ints (SqL.of d8), dp_ints (ns := []) (SqL.of upd_same), PySem.W.shaped_ints _, PySem.W.shaped_ints _, _, rfl, ?_⟩
          rw [eqv_list]
          cases ef : (inS f h y).filter fun d => decide (d ≤ l) with
          | nil =>
            rw [ef, List.append_nil] at st
            refine iteF ⟨_, rfl, _, _, rfl, rfl, s07.trans (same_new nn), ((C4.same s6).same s7).same (same_new nn), _, ?_, rfl⟩
            rw [show y - 1 + 1 = y from by omega]
            exact st.symm
          | cons x r' =>
            have ne : (inS f h y).filter (fun d => decide (d ≤ l)) ≠ [] := by rw [ef]; exact List.cons_ne_nil _ _
            refine iteT ?_
            have lg := List.dropLast_concat_getLast ne
            rw [st, getLast_app ne, List.getLast?_eq_some_getLast ne] at k
            generalize ((inS f h y).filter fun d => decide (d ≤ l)).getLast ne = top at lg k
            refine ⟨_, rfl, 1, rfl, D, _, _, .int top, rfl, rfl, SqL.of d8, ?_, k _ (s07.trans (same_new nn))⟩
            rw [← lg, List.map_append]
            exact atI_last _ _
    · have g : ¬ 0 ≤ y := fun z => g (decide_eq_true z)
      have y1 : y = -1 := by omega
      subst y1
      rw [show (-1 : Int) + 1 = 0 from rfl, last_zero f0] at hs
      rw [← hs] at k
      exact k H4 s4
end
end Gc

namespace Gc
open PySem PySem.Spec PyProof.Rows L2
/-! ### the law's tape and its draws -/
abbrev sTape : Stmt := topS 25
abbrev sDraw : Stmt := topS 26
theorem scTape : FnScope ["_law_script"] ["_law_script"] (defScope sTape) := ⟨rfl, rfl, rfl, by decide +kernel, rfl, by decide +kernel, by decide +kernel⟩
theorem scDraw : FnScope ["_law_tape_here", "_law_many", "_law_found", "_law_spot", "_law_cells", "_law_cell", "_law_primes", "_law_prime", "_law_seed"] ["_law_tape_here", "_law_many"] (defScope sDraw) :=
  ⟨rfl, rfl, rfl, by decide +kernel, rfl, by decide +kernel, by decide +kernel⟩
abbrev kC : Key := .inr "cells"
abbrev kS : Key := .inr "spot"
abbrev kL : Key := .inr "left"
theorem kCS : ¬ kC = kS := by decide +kernel
theorem kCL : ¬ kC = kL := by decide +kernel
theorem kSL : ¬ kS = kL := by decide +kernel
theorem kLS : ¬ kL = kS := by decide +kernel
theorem put_len_has {kvs : List (Key × V)} {k : Key} {v x : V} (h : valV kvs k = some x) : (putK kvs k v).length = kvs.length := by
  unfold putK
  rw [if_pos (by rw [valV_any, h]; rfl), List.length_map]
/-- the tape at t: its cells, where it stands (b at most), what is left of a cell -/
def TapeAt (H : Hp) (t cl : Addr) (ns : List Int) (b : Int) : Prop := ∃ (kvs : List (Key × V)) (s l : Int), H t = some (.dK kvs) ∧ kvs.length ≤ 100 ∧ valV kvs kC = some (.ref cl) ∧ valV kvs kS = some (.int s) ∧ valV kvs kL = some (.int l) ∧
  H cl = some (.lst (ns.map V.int)) ∧ ns.length ≤ 63 ∧ 0 ≤ s ∧ s ≤ b ∧ 0 ≤ l
section
variable {K : PySem.W.Frag} {H H' : Hp} {t cl : Addr} {ns : List Int} {b b' : Int}
theorem TapeAt.same (T : TapeAt H t cl ns b) (s : Same H H') : TapeAt H' t cl ns b := by
  obtain ⟨kvs, p, l, h1, h2, h3, h4, h5, h6, h7⟩ := T
  exact ⟨kvs, p, l, s _ _ h1, h2, h3, h4, h5, s _ _ h6, h7⟩
theorem TapeAt.le (T : TapeAt H t cl ns b) (h : b ≤ b') : TapeAt H t cl ns b' := by
  obtain ⟨kvs, p, l, h1, h2, h3, h4, h5, h6, h7, h8, h9, h10⟩ := T
  exact ⟨kvs, p, l, h1, h2, h3, h4, h5, h6, h7, h8, by omega, h10⟩
/-- a new thing is changed: the tape stays -/
theorem TapeAt.off (T : TapeAt H t cl ns b) {D : Addr} {o : HO} (h1 : D ≠ t) (h2 : D ≠ cl) : TapeAt (upd H D o) t cl ns b := by
  obtain ⟨kvs, p, l, a1, a2, a3, a4, a5, a6, a7⟩ := T
  exact ⟨kvs, p, l, (upd_ne h1.symm).trans a1, a2, a3, a4, a5, (upd_ne h2.symm).trans a6, a7⟩
theorem TapeAt.ne (T : TapeAt H t cl ns b) {D : Addr} (h : H D = none) : D ≠ t ∧ D ≠ cl := by
  obtain ⟨kvs, p, l, a1, a2, a3, a4, a5, a6, a7⟩ := T
  exact ⟨(ne_of_none a1 h).symm, (ne_of_none a6 h).symm⟩
/-- what is no dict stays where the tape alone is changed -/
theorem TapeAt.lst (T : TapeAt H t cl ns b) (bt : But t H H') {a : Addr} {xs : List V} (h : H a = some (.lst xs)) : H' a = some (.lst xs) := by
  obtain ⟨kvs, p, l, a1, _⟩ := T
  exact bt _ _ h (ne_of h a1 (fun z => nomatch z))
theorem TapeAt.tup (T : TapeAt H t cl ns b) (bt : But t H H') {a : Addr} {xs : List V} (h : SqT K H a xs) : SqT K H' a xs := by
  obtain ⟨kvs, p, l, a1, _⟩ := T
  rcases h with (h | ⟨o, h⟩) | h
  · exact .inl (.inl (bt _ _ h (ne_of h a1 (fun z => nomatch z))))
  · exact .inl (.inr ⟨o, bt _ _ h (ne_of h a1 (fun z => nomatch z))⟩)
  · exact .inr h
theorem TapeAt.how (T : TapeAt H t cl ns b) (bt : But t H H') {a : Addr} {h : How} (q : HowAt K H a h) : HowAt K H' a h := by
  cases h with
  | weeks n ws => obtain ⟨u, q1, q2⟩ := q; exact ⟨u, T.tup bt q1, T.tup bt q2⟩
  | once => exact T.tup bt q
  | days n => exact T.tup bt q
  | dates n t => exact T.tup bt q
  | wkds n w o => exact T.tup bt q
end
def spTape (K : PySem.W.Frag) : Sp := fun vs H Q _ => ∃ (a : Addr) (ns : List Int), vs = [.ref a] ∧ SqL K H a (ns.map V.int) ∧ ns.length ≤ 63 ∧ ∀ t cl ms H', Same H H' → H t = none → TapeAt H' t cl ms 0 → Q (.ref t) H'
def spDraw : Sp := fun vs H Q _ => ∃ (t cl : Addr) (ns : List Int) (many b : Int), vs = [.ref t, .int many] ∧ 1 ≤ many ∧ many ≤ 100000 ∧ TapeAt H t cl ns b ∧ b ≤ 100000 ∧
  ∀ r H', 0 ≤ r → r < many → But t H H' → TapeAt H' t cl ns (b + 1) → Q (.int r) H'
theorem cut63 {xs : List V} (h : xs.length ≤ 63) : cutV xs none (some 63) = xs := by
  unfold cutV
  rw [HT.sIx_none, show HT.sIx xs.length xs.length (some 63) = min 63 xs.length from HT.sIx_nat xs.length xs.length 63, Nat.min_eq_right h]
  exact List.take_length
theorem prime_at {i : Int} (h0 : 0 ≤ i) (h7 : i < 7) : ∃ z : Int, atI [V.int 2147483647, V.int 2147483629, V.int 2147483587, V.int 2147483579, V.int 2147483563, V.int 2147483549, V.int 2147483543] i = some (.int z) ∧ 0 < z ∧ z < 2147483648 := by
  have c : i = 0 ∨ i = 1 ∨ i = 2 ∨ i = 3 ∨ i = 4 ∨ i = 5 ∨ i = 6 := by omega
  rcases c with e | e | e | e | e | e | e <;> subst e
  · exact ⟨_, at_of (j := 0) rfl rfl, by decide, by decide⟩
  · exact ⟨_, at_of (j := 1) rfl rfl, by decide, by decide⟩
  · exact ⟨_, at_of (j := 2) rfl rfl, by decide, by decide⟩
  · exact ⟨_, at_of (j := 3) rfl rfl, by decide, by decide⟩
  · exact ⟨_, at_of (j := 4) rfl rfl, by decide, by decide⟩
  · exact ⟨_, at_of (j := 5) rfl rfl, by decide, by decide⟩
  · exact ⟨_, at_of (j := 6) rfl rfl, by decide, by decide⟩
section
variable {P : Program} {w : World} {K : PySem.W.Frag} {mg : Str → Option Value} {base : Heap} {f : Addr} {fd : FuncData}
theorem ok_tape (F : Fun K "_law_tape" "_law_tape" sTape f fd) : FnOk P w K mg base CX0 1 f fd ["_law_script"] (spTape K) := by
  refine F.ok scTape (fun vs H Q E h => ?_) (fun cdv A outer s H vs Q E hr h => ?_)
  · obtain ⟨a, ns, rfl, _⟩ := h
    rfl
  · obtain ⟨a, ns, rfl, ha, hl, k⟩ := h
    refine ⟨_, pss_one (ps_ret (pe_disp (pps_cons pe_str (pe_slice sl_list (pv 0) po_none (po_some pe_int)) (pps_cons pe_str pe_int (pps_cons pe_str pe_int pps_nil))) (by rfl) (by rfl) (fun z => by cases z) (by decide))), ?_⟩
    intro t nt
    refine ⟨_, rfl, 63, rfl, a, _, rfl, (same_new nt).seq ha, fun q nq => ?_⟩
    have hqt : t ≠ q := fun e => by
      rw [← e, upd_same] at nq
      cases nq
    refine ⟨by rw [upd_ne hqt]; exact upd_same, [(kC, .ref q), (kS, .int 0), (kL, .int 0)], rfl, by show 3 ≤ 15; decide, ?_⟩
    have nq0 : H q = none := (same_new nt).free nq
    have s1 : Same H (upd (upd H t (.dK [])) q (.lst (cutV (ns.map V.int) none (some 63)))) := (same_new nt).trans (same_new nq)
    refine k t q ns _ (fun b o e => ?_) nt ⟨_, 0, 0, upd_same, ?_, ?_, ?_, ?_, ?_, hl, Int.le_refl _, Int.le_refl _, Int.le_refl _⟩
    · rw [upd_ne (ne_of_none e nt)]
      exact s1 _ _ e
    · exact Nat.le_trans (length_mergeK _ _) (by show 0 + 3 ≤ 100; decide)
    · show valV (putK (putK (putK [] kC (.ref q)) kS (.int 0)) kL (.int 0)) kC = _
      rw [valV_put, if_neg kCL, valV_put, if_neg kCS, valV_put, if_pos rfl]
    · show valV (putK (putK (putK [] kC (.ref q)) kS (.int 0)) kL (.int 0)) kS = _
      rw [valV_put, if_neg kSL, valV_put, if_pos rfl]
    · show valV (putK (putK (putK [] kC (.ref q)) kS (.int 0)) kL (.int 0)) kL = _
      rw [valV_put, if_pos rfl]
    · rw [upd_ne hqt.symm, upd_same, cut63 (by rw [List.length_map]; exact hl)]
theorem ok_draw (F : Fun K "_law_draw" "_law_draw" sDraw f fd) (G : Glb K mg) : FnOk P w K mg base CX0 1 f fd ["_law_tape_here", "_law_many"] spDraw := by
  refine F.ok scDraw (fun vs H Q E h => ?_) (fun cdv A outer s H vs Q E hr h => ?_)
  · obtain ⟨t, cl, ns, m, b, rfl, _⟩ := h
    rfl
  · obtain ⟨t, cl, ns, m, b, rfl, m1, m2, T, b9, k⟩ := h
    obtain ⟨kvs, p, l, h1, h2, h3, h4, h5, h6, h7, p0, pb, l0⟩ := T
    have hu := hu_of hr
    have gC : DGet H t (.str "cells") (some (.ref cl)) := h3 ▸ DGet.k (k := kC) h1
    have gS : DGet H t (.str "spot") (some (.int p)) := h4 ▸ DGet.k (k := kS) h1
    have gL : DGet H t (.str "left") (some (.int l)) := h5 ▸ DGet.k (k := kL) h1
    have nd := scDraw.nd
    have big : kvs.length < sizeLine := Nat.lt_of_le_of_lt h2 (by decide)
    have tcl : cl ≠ t := ne_of h6 h1 (fun z => nomatch z)
    refine ⟨_, pss_cons (ps_if (pt_cmpR op_gt (pe_dget hu (pv 0) pe_str (fun _ _ => rfl)) pe_int (nomark _))
        (pss_cons (ps_set (i := 2) nd rfl (.inl rfl) (pe_op op_mod (pe_dget hu (pv 0) pe_str (fun _ _ => rfl)) (pv 1)))
        (pss_cons (ps_dput hu (pv 0) pe_str (pe_op op_fdiv (pe_dget hu (pv 0) pe_str (fun _ _ => rfl)) (pv 1)) rfl) (pss_one (ps_ret (pv 2))))) pss_nil)
      (pss_cons (ps_set (i := 3) nd rfl (.inl rfl) (pe_dget hu (pv 0) pe_str (fun _ _ => rfl)))
      (pss_cons (ps_dput hu (pv 0) pe_str (pe_op op_add (pv 3) pe_int) rfl)
      (C8.pss_cut (ps_set (i := 4) nd rfl (.inl rfl) (pe_orT (pe_dget hu (pv 0) pe_str (fun _ _ => rfl)) (pe_one (pe_lst (pa_cons pe_int pa_nil)))))
      (pss_cons (ps_set (i := 5) nd rfl (.inl rfl) (pe_ix ix_list (pv 4) (pe_op op_mod (pv 3) (pe_callB call_len_seq (by rfl) G.ln PySem.boot_len (pa_cons (pv 4) pa_nil))) (fun _ _ => rfl)))
      (C8.pss_cut (ps_if (PW.pt (pw_and (pt_cmpR op_ge (pv 5) (pe_op op_pow pe_int pe_int) (nomark _)) (pw_and1 (pt_cmpR op_lt (pv 3) (pe_callB call_len_seq (by rfl) G.ln PySem.boot_len (pa_cons (pv 4) pa_nil)) (nomark _)))))
        (pss_cons (ps_dput hu (pv 0) pe_str (pe_op op_fdiv (pe_op op_sub (pv 5) (pe_op op_pow pe_int pe_int)) (pv 1)) rfl) (pss_one (ps_ret (pe_op op_mod (pe_op op_sub (pv 5) (pe_op op_pow pe_int pe_int)) (pv 1))))) pss_nil)
      (pss_cons (ps_set (i := 6) nd rfl (.inl rfl) (pe_lst (pa_cons pe_int (pa_cons pe_int (pa_cons pe_int (pa_cons pe_int (pa_cons pe_int (pa_cons pe_int (pa_cons pe_int pa_nil)))))))))
      (pss_cons (ps_set (i := 7) nd rfl (.inl rfl) (pe_ix ix_list (pv 6) (pe_op op_mod (pv 3) pe_int) (fun _ _ => rfl)))
      (pss_cons (ps_set (i := 8) nd rfl (.inl rfl) (pe_op op_mod (pe_op op_add (pe_op op_add (pe_op op_add (pe_op op_mul (pe_op op_mod (pv 5) (pv 7)) pe_int) (pe_op op_mul (pe_op op_mul pe_int (pv 3)) (pv 3))) (pe_op op_mul pe_int (pv 3))) pe_int) (pv 7)))
      (pss_cons (ps_set (i := 8) nd rfl (.inl rfl) (pe_op op_mod (pe_op op_mul (pv 8) (pe_op op_add (pv 8) pe_int)) (pe_ix ix_list (pv 6) (pe_op op_mod (pe_op op_add (pv 3) pe_int) pe_int) (fun _ _ => rfl))))
      (pss_cons (ps_set (i := 2) nd rfl (.inl rfl) (pe_op op_fdiv (pe_op op_mod (pe_op op_mul (pv 8) (pv 8)) (pv 7)) pe_int))
      (pss_cons (ps_if (pt_cmpR op_gt (pv 1) (pe_op op_pow pe_int pe_int) (nomark _)) pss_never pss_nil)
      (pss_one (ps_ret (pe_op op_mod (pv 2) (pv 1))))))))))))))), ?_⟩
    refine ⟨_, rfl, t, _, rfl, gL, _, _, rfl, rfl, _, rfl, ?_⟩
    refine ite2 (fun g => ?_) (fun g => ?_)
    · refine ⟨_, rfl, t, _, rfl, gL, _, rfl, _, _, rfl, rfl, by show 0 < m; omega, ?_⟩
      refine ⟨_, rfl, t, _, rfl, gL, _, rfl, _, _, rfl, rfl, ⟨by omega, by omega⟩, _, rfl, t, _, rfl, DPut.k (k := kL) h1 big, ?_⟩
      refine ⟨_, rfl, k _ _ (Int.emod_nonneg _ (by omega)) (Int.emod_lt_of_pos _ (by omega)) But.upd ?_⟩
      refine ⟨_, p, l / m, upd_same, by rw [put_len_has h5]; exact h2, by rw [valV_put, if_neg kCL]; exact h3, by rw [valV_put, if_neg kSL]; exact h4, by rw [valV_put, if_pos rfl], by rw [upd_ne tcl]; exact h6, h7, p0, by omega, Int.ediv_nonneg l0 (by omega)⟩
    · refine ⟨_, rfl, t, _, rfl, gS, ?_⟩
      refine ⟨_, rfl, _, _, rfl, rfl, _, rfl, t, _, rfl, DPut.k (k := kS) h1 big, ?_⟩
      generalize hK : putK kvs kS (.int (p + 1)) = kv2
      generalize hH1 : upd H t (.dK kv2) = H1
      have e1 : H1 t = some (.dK kv2) := by rw [← hH1]; exact upd_same
      have bt : But t H H1 := by rw [← hH1]; exact But.upd
      have e2 : kv2.length ≤ 100 := by rw [← hK, put_len_has h4]; exact h2
      have e3 : valV kv2 kC = some (.ref cl) := by rw [← hK, valV_put, if_neg kCS]; exact h3
      have e4 : valV kv2 kS = some (.int (p + 1)) := by rw [← hK, valV_put, if_pos rfl]
      have e5 : valV kv2 kL = some (.int l) := by rw [← hK, valV_put, if_neg kLS]; exact h5
      have e6 : H1 cl = some (.lst (ns.map V.int)) := bt _ _ h6 tcl
      have gC1 : DGet H1 t (.str "cells") (some (.ref cl)) := e3 ▸ DGet.k (k := kC) e1
      refine ⟨fun σ' H' => ∃ (ca : Addr) (ms : List Int), σ' = [some (.ref t), some (.int m), none, some (.int p), some (.ref ca), none, none, none, none] ∧ Same H1 H' ∧ H' ca = some (.lst (ms.map V.int)) ∧ 0 < ms.length ∧ ms.length ≤ 63, ?_, ?_⟩
      · refine ⟨_, rfl, t, _, rfl, gC1, _, .inl ⟨_, SqL.of e6, rfl⟩, ?_⟩
        cases ns with
        | nil =>
          refine iteF ⟨by show 1 ≤ sizeLine; decide, fun q nq => ?_⟩
          exact ⟨q, [0], rfl, same_new nq, upd_same, by decide, by decide⟩
        | cons x r => exact iteT ⟨cl, x :: r, rfl, Same.refl _, e6, Nat.succ_pos _, h7⟩
      · rintro σ' H2 ⟨ca, ms, rfl, s2, hc, ms0, ms6⟩
        have lm : (ms.map V.int).length = ms.length := List.length_map _
        have i0 := Int.emod_nonneg p (show (ms.length : Int) ≠ 0 by omega)
        have i1 := Int.emod_lt_of_pos p (show 0 < (ms.length : Int) by omega)
        have il : (p % (ms.length : Int)).toNat < ms.length := by omega
        have hv : (ms.map V.int)[(p % (ms.length : Int)).toNat]? = some (.int ms[(p % (ms.length : Int)).toNat]) := by
          rw [List.getElem?_map, List.getElem?_eq_getElem il]
          rfl
        generalize ms[(p % (ms.length : Int)).toNat] = v at hv
        refine ⟨_, rfl, _, rfl, _, rfl, ca, _, rfl, .inl (SqL.of hc), _, _, rfl, rfl, by show 0 < ((ms.map V.int).length : Int); omega, ca, _, _, .int v, rfl, rfl, SqL.of hc, at_of (j := (p % (ms.length : Int)).toNat) (by rw [lm]; omega) hv, ?_⟩
        have TT : ∀ (H' : Hp) (l' : Int) (kv3 : List (Key × V)), H' t = some (.dK kv3) → kv3.length ≤ 100 → valV kv3 kC = some (.ref cl) → valV kv3 kS = some (.int (p + 1)) → valV kv3 kL = some (.int l') → 0 ≤ l' → H' cl = some (.lst (ns.map V.int)) → TapeAt H' t cl ns (b + 1) :=
          fun H' l' kv3 a1 a2 a3 a4 a5 a6 a7 => ⟨kv3, p + 1, l', a1, a2, a3, a4, a5, a7, h7, by omega, by omega, a6⟩
        have rest : ∀ Hx : Hp, Same H1 Hx → TapeAt Hx t cl ns (b + 1) := fun Hx sx => TT Hx l kv2 (sx _ _ e1) e2 e3 e4 e5 l0 (sx _ _ e6)
        have pw : (10 : Int) ^ (18 : Int).toNat = 1000000000000000000 := by decide
        have fin : ∀ Hx : Hp, Same H1 Hx → ∀ r : Int, 0 ≤ r → r < m → Q (.int r) Hx := fun Hx sx r r0 r1 => k r Hx r0 r1 (bt.trans (same_but sx)) (rest Hx sx)
        refine ⟨fun σ' H' => H' = H2 ∧ σ' = [some (.ref t), some (.int m), none, some (.int p), some (.ref ca), some (.int v), none, none, none], ?_, ?_⟩
        · refine ⟨_, rfl, _, _, rfl, rfl, ⟨by decide, by decide, by decide⟩, _, _, rfl, rfl, _, rfl, ?_⟩
          rw [pw]
          refine ite2 (fun g => ?_) (fun g => iteF ⟨rfl, rfl⟩)
          have g : 1000000000000000000 ≤ v := of_decide_eq_true g
          refine ⟨_, rfl, _, rfl, ca, _, rfl, .inl (SqL.of hc), _, _, rfl, rfl, _, rfl, ?_⟩
          refine ite2 (fun g2 => ?_) (fun g2 => ⟨rfl, rfl⟩)
          refine ⟨_, rfl, _, _, rfl, rfl, ⟨by decide, by decide, by decide⟩, _, _, rfl, rfl, _, rfl, _, _, rfl, rfl, ⟨by omega, by omega⟩, _, rfl, t, _, rfl, DPut.k (k := kL) (s2 _ _ e1) (Nat.lt_of_le_of_lt e2 (by decide)), ?_⟩
          rw [pw]
          refine ⟨_, rfl, _, _, rfl, rfl, ⟨by decide, by decide, by decide⟩, _, _, rfl, rfl, _, rfl, _, _, rfl, rfl, by show 0 < m; omega, ?_⟩
          rw [pw]
          refine k _ _ (Int.emod_nonneg _ (by omega)) (Int.emod_lt_of_pos _ (by omega)) ((bt.trans (same_but s2)).trans But.upd) ?_
          refine TT _ ((v - 1000000000000000000) / m) _ upd_same (by rw [put_len_has e5]; exact e2) ?_ ?_ ?_ (Int.ediv_nonneg (by omega) (by omega)) ?_
          · rw [valV_put, if_neg kCL]
            exact e3
          · rw [valV_put, if_neg kSL]
            exact e4
          · rw [valV_put, if_pos rfl]
          · rw [upd_ne tcl]
            exact s2 _ _ e6
        · rintro σ' H3 ⟨rfl, rfl⟩
          refine ⟨by show 7 ≤ sizeLine; decide, fun pl npl => ?_⟩
          have s3 : Same H1 (upd H3 pl (.lst [.int 2147483647, .int 2147483629, .int 2147483587, .int 2147483579, .int 2147483563, .int 2147483549, .int 2147483543])) := s2.trans (same_new npl)
          obtain ⟨z, ez, z0, z1⟩ := prime_at (i := p % 7) (Int.emod_nonneg _ (by decide)) (Int.emod_lt_of_pos _ (by decide))
          refine ⟨_, rfl, _, rfl, _, _, rfl, rfl, by show (0 : Int) < 7; decide, pl, _, _, .int z, rfl, rfl, SqL.of upd_same, ez, ?_⟩
          refine ⟨_, rfl, _, rfl, _, _, rfl, rfl, z0, _, _, rfl, rfl, .inr ⟨by decide, by decide⟩, _, rfl, _, _, rfl, rfl, .inl ⟨by decide, by decide⟩, _, rfl, _, _, rfl, rfl, .inr ⟨by omega, by omega⟩, _, _, rfl, rfl, _, rfl, _, _, rfl, rfl, .inl ⟨by decide, by decide⟩, _, _, rfl, rfl, _, _, rfl, rfl, _, rfl, _, _, rfl, rfl, z0, ?_⟩
          have sd0 := Int.emod_nonneg (v % z * 48271 + 7919 * p * p + 69621 * p + 1) (show z ≠ 0 by omega)
          have sd1 := Int.emod_lt_of_pos (v % z * 48271 + 7919 * p * p + 69621 * p + 1) z0
          generalize hsd : (v % z * 48271 + 7919 * p * p + 69621 * p + 1) % z = sd at sd0 sd1
          obtain ⟨y, ey, y0, y1⟩ := prime_at (i := (p + 3) % 7) (Int.emod_nonneg _ (by decide)) (Int.emod_lt_of_pos _ (by decide))
          refine ⟨_, rfl, _, rfl, _, _, rfl, rfl, _, _, rfl, rfl, .inl ⟨by omega, by omega⟩, _, rfl, _, rfl, _, _, rfl, rfl, _, _, rfl, rfl, by show (0 : Int) < 7; decide, pl, _, _, .int y, rfl, rfl, SqL.of upd_same, ey, _, _, rfl, rfl, y0, ?_⟩
          have sd2 := Int.emod_nonneg (sd * (sd + 16807)) (show y ≠ 0 by omega)
          have sd3 := Int.emod_lt_of_pos (sd * (sd + 16807)) y0
          rw [← hsd] at sd2 sd3
          refine ⟨_, rfl, _, rfl, _, _, rfl, rfl, .inl ⟨by omega, by omega⟩, _, rfl, _, _, rfl, rfl, z0, _, _, rfl, rfl, ⟨by decide, by decide⟩, ?_⟩
          refine ⟨_, rfl, _, _, rfl, rfl, ⟨by decide, by decide, by decide⟩, _, _, rfl, rfl, _, rfl, ?_⟩
          rw [show (10 : Int) ^ (6 : Int).toNat = 1000000 from by decide, decide_eq_false (show ¬ (1000000 : Int) < m by omega)]
          refine iteF ⟨_, rfl, _, rfl, _, _, rfl, rfl, by show 0 < m; omega, ?_⟩
          exact fin _ s3 _ (Int.emod_nonneg _ (by omega)) (Int.emod_lt_of_pos _ (by omega))
end
end Gc

namespace Gc
open PySem PySem.Spec PyProof.Rows L2
/-! ### the law's way to a rule -/
abbrev sHow : Stmt := topS 27
theorem scHow : FnScope ["_law_tape_here", "_law_way", "_law_n", "_law_some", "_law_one"] ["_law_tape_here"] (defScope sHow) := ⟨rfl, rfl, rfl, by decide +kernel, rfl, by decide +kernel, by decide +kernel⟩
theorem pickL (l : List Int) {i : Int} (h0 : 0 ≤ i) (h1 : i < (l.length : Int)) : ∃ v, atI (l.map V.int) i = some (.int v) ∧ v ∈ l := by
  have il : i.toNat < l.length := by omega
  refine ⟨l[i.toNat], at_of (j := i.toNat) (by omega) ?_, List.getElem_mem il⟩
  rw [List.getElem?_map, List.getElem?_eq_getElem il]
  rfl
def spHow (K : PySem.W.Frag) : Sp := fun vs H Q _ => ∃ (t cl : Addr) (ns : List Int) (b : Int), vs = [.ref t] ∧ TapeAt H t cl ns b ∧ b ≤ 90000 ∧
  ∀ a h H', HowOk h → HowAt K H' a h → But t H H' → TapeAt H' t cl ns (b + 20) → Q (.ref a) H'
section
variable {P : Program} {w : World} {K : PySem.W.Frag} {mg : Str → Option Value} {base : Heap} {f : Addr} {fd : FuncData}
theorem ok_how (F : Fun K "_law_how" "_law_how" sHow f fd) (G : Glb K mg) (D : Kn P w K mg base "_law_draw" 1 ["_law_tape_here", "_law_many"] spDraw) : FnOk P w K mg base CX0 2 f fd ["_law_tape_here"] (spHow K) := by
  refine F.ok scHow (fun vs H Q E h => ?_) (fun cdv A outer s H vs Q E hr h => ?_)
  · obtain ⟨t, cl, ns, b, rfl, _⟩ := h
    rfl
  · obtain ⟨t, cl, ns, b, rfl, T, b9, k⟩ := h
    have nd := scHow.nd
    refine ⟨_, pss_cons (ps_set (i := 1) nd rfl (.inl rfl) (pe_kn D hr (by rfl) (pa_cons (pv 0) (pa_cons pe_int pa_nil))))
      (C8.pss_cut (ps_set (i := 2) nd rfl (.inl rfl) (pe_ix ix_list (pe_lst (pa_cons pe_int (pa_cons (pe_op op_add pe_int (pe_kn D hr (by rfl) (pa_cons (pv 0) (pa_cons pe_int pa_nil)))) (pa_cons (pe_op op_add pe_int (pe_kn D hr (by rfl) (pa_cons (pv 0) (pa_cons pe_int pa_nil)))) pa_nil))))
          (pe_kn D hr (by rfl) (pa_cons (pv 0) (pa_cons pe_int pa_nil))) (fun _ _ => rfl)))
      (pss_cons (ps_if (pt_cmpR op_eq (pv 1) pe_int (nomark _)) (pss_one (ps_ret (pe_tup (pa_cons pe_str pa_nil)))) pss_nil)
      (pss_cons (ps_if (pt_cmpR op_eq (pv 1) pe_int (nomark _)) (pss_one (ps_ret (pe_tup (pa_cons pe_str (pa_cons (pv 2) pa_nil))))) pss_nil)
      (pss_cons (ps_if (pt_cmpR op_eq (pv 1) pe_int (nomark _))
        (pss_cons (ps_setLc (i := 3) (own := [("_law_one", 4)]) (g := gName 4) rfl nd rfl rfl (sw_true rfl rfl rfl (by decide +kernel)) (pi_range1 rfl G.rg (pa_cons pe_int pa_nil))
            (blkOk_by (own := [("_law_one", 4)]) (N := ["_law_tape_here", "_law_way", "_law_n", "_law_some", "_law_one"]) (sc := defScope sHow) (by decide +kernel)) (fun _ _ _ _ _ => pg_name (i := 4) nd rfl (Or.inl rfl))
            (fun _ _ _ _ _ => pts_one (pt_cmpR op_eq (pe_kn D hr (by rfl) (pa_cons (pv 0) (pa_cons pe_int pa_nil))) pe_int (nomark _))) (fun _ _ _ _ _ => pv 4))
          (pss_one (ps_ret (pe_tup (pa_cons pe_str (pa_cons (pv 2) (pa_cons (pe_callTy call_tuple_of (by rfl) G.tp (by decide +kernel) (pa_cons (pe_orT (pv 3) (pe_one (pe_lst (pa_cons (pe_kn D hr (by rfl) (pa_cons (pv 0) (pa_cons pe_int pa_nil))) pa_nil)))) pa_nil)) pa_nil))))))) pss_nil)
      (pss_cons (ps_if (pt_cmpR op_eq (pv 1) pe_int (nomark _)) (pss_one (ps_ret (pe_tup (pa_cons pe_str (pa_cons (pv 2) (pa_cons (pe_ix ix_list (pe_lst (pa_cons (pe_op op_add pe_int (pe_kn D hr (by rfl) (pa_cons (pv 0) (pa_cons pe_int pa_nil)))) (pa_cons (pe_op op_add pe_int (pe_kn D hr (by rfl) (pa_cons (pv 0) (pa_cons pe_int pa_nil)))) pa_nil)))
          (pe_kn D hr (by rfl) (pa_cons (pv 0) (pa_cons pe_int pa_nil))) (fun _ _ => rfl)) pa_nil)))))) pss_nil)
      (pss_one (ps_ret (pe_tup (pa_cons pe_str (pa_cons (pv 2) (pa_cons (pe_ix ix_list (pe_lst (pa_cons pe_int (pa_cons pe_int (pa_cons pe_int (pa_cons pe_int (pa_cons pe_int (pa_cons (pe_un un_neg pe_int) pa_nil)))))))
          (pe_kn D hr (by rfl) (pa_cons (pv 0) (pa_cons pe_int pa_nil))) (fun _ _ => rfl)) (pa_cons (pe_kn D hr (by rfl) (pa_cons (pv 0) (pa_cons pe_int pa_nil))) pa_nil)))))))))))), ?_⟩
    refine ⟨_, rfl, t, cl, ns, 5, b, rfl, by decide, by decide, T, by omega, fun way H1 w0 w5 bt1 T1 => ?_⟩
    refine ⟨fun σ' H' => ∃ n : Int, 1 ≤ n ∧ n ≤ 99 ∧ σ' = [some (.ref t), some (.int way), some (.int n), none, none] ∧ But t H H' ∧ TapeAt H' t cl ns (b + 4), ?_, ?_⟩
    · refine ⟨_, rfl, t, cl, ns, 4, b + 1, rfl, by decide, by decide, T1, by omega, fun r1 H2 r10 r11 bt2 T2 => ?_⟩
      refine ⟨_, _, rfl, rfl, ?_⟩
      refine ⟨_, rfl, t, cl, ns, 99, b + 1 + 1, rfl, by decide, by decide, T2, by omega, fun r2 H3 r20 r21 bt3 T3 => ?_⟩
      refine ⟨_, _, rfl, rfl, by show 3 ≤ sizeLine; decide, fun q nq => ?_⟩
      have T3' := T3.same (same_new (o := .lst (([1, 1 + r1, 1 + r2] : List Int).map V.int)) nq)
      refine ⟨_, rfl, t, cl, ns, 3, b + 1 + 1 + 1, rfl, by decide, by decide, T3', by omega, fun r3 H4 r30 r31 bt4 T4 => ?_⟩
      obtain ⟨v, ev, mv⟩ := pickL [1, 1 + r1, 1 + r2] r30 r31
      refine ⟨q, _, _, .int v, rfl, rfl, SqL.of (T3'.lst bt4 upd_same), ev, v, ?_, ?_, rfl, ((bt1.trans bt2).trans bt3).trans ((same_but (same_new nq)).trans bt4), T4.le (by omega)⟩
      · simp only [List.mem_cons, List.not_mem_nil, or_false] at mv
        omega
      · simp only [List.mem_cons, List.not_mem_nil, or_false] at mv
        omega
    · rintro σ' H2 ⟨n, n1, n9, rfl, bt2, T2⟩
      refine ⟨_, rfl, rfl, _, rfl, ?_⟩
      rw [dec_int]
      refine ite2 (fun _ => ?_) (fun _ => ?_)
      · refine ⟨by show 1 ≤ sizeLine; decide, fun q nq => ?_⟩
        exact k q .once _ trivial (SqT.of upd_same) (bt2.trans (same_but (same_new nq))) ((T2.same (same_new nq)).le (by omega))
      refine ⟨_, rfl, rfl, _, rfl, ?_⟩
      rw [dec_int]
      refine ite2 (fun _ => ?_) (fun _ => ?_)
      · refine ⟨_, rfl, by show 2 ≤ sizeLine; decide, fun q nq => ?_⟩
        exact k q (.days n) _ ⟨n1, n9⟩ (SqT.of upd_same) (bt2.trans (same_but (same_new nq))) ((T2.same (same_new nq)).le (by omega))
      refine ⟨_, rfl, rfl, _, rfl, ?_⟩
      rw [dec_int]
      refine ite2 (fun _ => ?_) (fun _ => ?_)
      · refine ⟨7, rfl, by decide, by decide, fun L nL => ?_⟩
        obtain ⟨ne1, ne2⟩ := T2.ne nL
        refine lc_range (lo := 0) (n := 7) (fun i H' => But t H2 H' ∧ TapeAt H' t cl ns (b + 4 + (i : Int)) ∧ ∃ ws : List Int, H' L = some (.lst (ws.map V.int)) ∧ Up ws ∧ (∀ v ∈ ws, 0 ≤ v ∧ v < (i : Int)) ∧ ws.length ≤ i)
          ⟨same_but (same_new nL), (T2.same (same_new nL)).le (by omega), [], upd_same, List.Pairwise.nil, fun v hv => (nomatch hv), Nat.le_refl _⟩ ?_ ?_
        · rintro i H3 hi ⟨bt3, T3, ws, hL, up, hin, hlen⟩
          refine ⟨rfl, _, rfl, t, cl, ns, 3, b + 4 + (i : Int), rfl, by decide, by decide, T3, by omega, fun r H4 r0 r1 bt4 T4 => ?_⟩
          refine ⟨rfl, _, rfl, ?_⟩
          have hL4 := T3.lst bt4 hL
          refine ite2 (fun _ => ?_) (fun _ => ?_)
          · refine ⟨_, rfl, _, hL4, Nat.lt_of_le_of_lt (show (ws.map V.int).length ≤ 7 by rw [List.length_map]; omega) (by decide), ?_, ?_, ws ++ [0 + (i : Int)], ?_, ?_, ?_, ?_⟩
            · intro x o e nx
              rw [upd_ne (ne_of_none e nL)]
              exact (bt3.trans bt4) x o e nx
            · exact (T4.off ne1 ne2).le (by omega)
            · rw [upd_same, List.map_append]
              rfl
            · exact up_append up (List.pairwise_singleton _ _) fun x hx y hy => by
                have := (hin x hx).2
                rw [List.mem_singleton.mp hy]
                omega
            · intro v hv
              rcases List.mem_append.mp hv with q | q
              · have := hin v q
                omega
              · rw [List.mem_singleton.mp q]
                omega
            · rw [List.length_append]
              exact Nat.succ_le_succ hlen
          · exact ⟨bt3.trans bt4, T4.le (by omega), ws, hL4, up, fun v hv => by have := hin v hv; omega, Nat.le_succ_of_le hlen⟩
        · rintro H3 ⟨bt3, T3, ws, hL, up, hin, hlen⟩
          refine ⟨_, rfl, _, rfl, _, .inl ⟨_, SqL.of hL, rfl⟩, ?_⟩
          cases ws with
          | nil =>
            refine iteF ⟨_, rfl, t, cl, ns, 7, b + 4 + ((7 : Nat) : Int), rfl, by decide, by decide, T3, by omega, fun r H4 r0 r1 bt4 T4 => ?_⟩
            refine ⟨by show 1 ≤ sizeLine; decide, fun q nq => ?_⟩
            refine ⟨q, _, rfl, .inl ⟨SqL.of upd_same, fun u nu => ?_⟩⟩
            refine ⟨by show 3 ≤ sizeLine; decide, fun z nz => ?_⟩
            have sm : Same H4 (upd (upd (upd H4 q (.lst [.int r])) u (.tup [.int r])) z (.tup [.str "weeks", .int n, .ref u])) := ((same_new nq).trans (same_new nu)).trans (same_new nz)
            have nzu : u ≠ z := fun e => by rw [← e, upd_same] at nz; cases nz
            refine k z (.weeks n [r]) _ ⟨n1, n9, List.pairwise_singleton _ _, List.cons_ne_nil _ _, fun v hv => by rw [List.mem_singleton.mp hv]; omega⟩ ⟨u, SqT.of upd_same, SqT.of ((upd_ne nzu).trans upd_same)⟩ (((bt2.trans bt3).trans bt4).trans (same_but sm)) ((T4.same sm).le (by omega))
          | cons x r =>
            refine iteT ⟨L, _, rfl, .inl ⟨SqL.of hL, fun u nu => ?_⟩⟩
            refine ⟨by show 3 ≤ sizeLine; decide, fun z nz => ?_⟩
            have sm : Same H3 (upd (upd H3 u (.tup ((x :: r).map V.int))) z (.tup [.str "weeks", .int n, .ref u])) := (same_new nu).trans (same_new nz)
            have nzu : u ≠ z := fun e => by rw [← e, upd_same] at nz; cases nz
            refine k z (.weeks n (x :: r)) _ ⟨n1, n9, up, List.cons_ne_nil _ _, fun v hv => by have := hin v hv; omega⟩ ⟨u, SqT.of upd_same, SqT.of ((upd_ne nzu).trans upd_same)⟩ ((bt2.trans bt3).trans (same_but sm)) ((T3.same sm).le (by omega))
      refine ⟨_, rfl, rfl, _, rfl, ?_⟩
      rw [dec_int]
      refine ite2 (fun _ => ?_) (fun _ => ?_)
      · refine ⟨_, rfl, _, rfl, t, cl, ns, 31, b + 4, rfl, by decide, by decide, T2, by omega, fun r1 H3 r10 r11 bt3 T3 => ?_⟩
        refine ⟨_, _, rfl, rfl, ?_⟩
        refine ⟨_, rfl, t, cl, ns, 3, b + 4 + 1, rfl, by decide, by decide, T3, by omega, fun r2 H4 r20 r21 bt4 T4 => ?_⟩
        refine ⟨_, _, rfl, rfl, by show 2 ≤ sizeLine; decide, fun q nq => ?_⟩
        have T4' := T4.same (same_new (o := .lst (([1 + r1, 29 + r2] : List Int).map V.int)) nq)
        refine ⟨_, rfl, t, cl, ns, 2, b + 4 + 1 + 1, rfl, by decide, by decide, T4', by omega, fun r3 H5 r30 r31 bt5 T5 => ?_⟩
        obtain ⟨v, ev, mv⟩ := pickL [1 + r1, 29 + r2] r30 r31
        refine ⟨q, _, _, .int v, rfl, rfl, SqL.of (T4'.lst bt5 upd_same), ev, by show 3 ≤ sizeLine; decide, fun z nz => ?_⟩
        simp only [List.mem_cons, List.not_mem_nil, or_false] at mv
        exact k z (.dates n v) _ ⟨n1, n9, by omega, by omega⟩ (SqT.of upd_same) ((((bt2.trans bt3).trans bt4).trans ((same_but (same_new nq)).trans bt5)).trans (same_but (same_new nz))) ((T5.same (same_new nz)).le (by omega))
      · refine ⟨_, rfl, 1, rfl, by show 6 ≤ sizeLine; decide, fun q nq => ?_⟩
        have T3 := T2.same (same_new (o := .lst (([1, 2, 3, 4, 5, -1] : List Int).map V.int)) nq)
        refine ⟨_, rfl, t, cl, ns, 6, b + 4, rfl, by decide, by decide, T3, by omega, fun r1 H3 r10 r11 bt3 T4 => ?_⟩
        obtain ⟨v, ev, mv⟩ := pickL [1, 2, 3, 4, 5, -1] r10 r11
        refine ⟨q, _, _, .int v, rfl, rfl, SqL.of (T3.lst bt3 upd_same), ev, ?_⟩
        refine ⟨_, rfl, t, cl, ns, 7, b + 4 + 1, rfl, by decide, by decide, T4, by omega, fun r2 H4 r20 r21 bt4 T5 => ?_⟩
        refine ⟨by show 4 ≤ sizeLine; decide, fun z nz => ?_⟩
        simp only [List.mem_cons, List.not_mem_nil, or_false] at mv
        exact k z (.wkds n v r2) _ ⟨n1, n9, by omega, by omega, by omega⟩ (SqT.of upd_same) (((bt2.trans ((same_but (same_new nq)).trans bt3)).trans bt4).trans (same_but (same_new nz))) ((T5.same (same_new nz)).le (by omega))
end
end Gc

namespace Gc
open PySem PySem.Spec PyProof.Rows L2
abbrev sRule : Stmt := topS 28
theorem scRule : FnScope ["_law_tape_here", "_law_some", "_law_first", "_law_end", "_law_way", "_law_length", "_law_minute", "_law_how_here"] ["_law_tape_here"] (defScope sRule) := ⟨rfl, rfl, rfl, by decide +kernel, rfl, by decide +kernel, by decide +kernel⟩
theorem HowAt.head {K : PySem.W.Frag} {H : Hp} {a : Addr} {h : How} (q : HowAt K H a h) : ∃ (x : Str) (xs : List V), SqT K H a (.str x :: xs) := by
  cases h with
  | weeks n ws => obtain ⟨u, q1, q2⟩ := q; exact ⟨_, _, q1⟩
  | once => exact ⟨_, _, q⟩
  | days n => exact ⟨_, _, q⟩
  | dates n t => exact ⟨_, _, q⟩
  | wkds n w o => exact ⟨_, _, q⟩
def EndP (K : PySem.W.Frag) (H : Hp) (way : Int) (v : V) : Prop := way = 1 → ∃ (a : Addr) (x : Int), v = .ref a ∧ SqT K H a [.str "times", .int x]
theorem EndP.tape {K : PySem.W.Frag} {H H' : Hp} {t cl : Addr} {ns : List Int} {b way : Int} {v : V} (e : EndP K H way v) (T : TapeAt H t cl ns b) (bt : But t H H') : EndP K H' way v := fun z =>
  let ⟨a, x, ev, q⟩ := e z
  ⟨a, x, ev, T.tup bt q⟩
theorem EndP.same {K : PySem.W.Frag} {H H' : Hp} {way : Int} {v : V} (e : EndP K H way v) (s : Same H H') : EndP K H' way v := fun z =>
  let ⟨a, x, ev, q⟩ := e z
  ⟨a, x, ev, Same.tup s q⟩
def spRule (K : PySem.W.Frag) : Sp := fun vs H Q _ => ∃ (t cl : Addr) (ns : List Int) (b : Int), vs = [.ref t] ∧ TapeAt H t cl ns b ∧ b ≤ 80000 ∧
  ∀ r f h mn ln a v H', 2 ≤ f → f ≤ 99990 → HowOk h → SqT K H' r [.int f, mn, ln, .ref a, v] → HowAt K H' a h → But t H H' → TapeAt H' t cl ns (b + 60) → Q (.ref r) H'
section
variable {P : Program} {w : World} {K : PySem.W.Frag} {mg : Str → Option Value} {base : Heap} {f : Addr} {fd : FuncData}
theorem ok_rule (F : Fun K "_law_rule" "_law_rule" sRule f fd) (G : Glb K mg) (D : Kn P w K mg base "_law_draw" 1 ["_law_tape_here", "_law_many"] spDraw) (HW : Kn P w K mg base "_law_how" 2 ["_law_tape_here"] (spHow K)) : FnOk P w K mg base CX0 3 f fd ["_law_tape_here"] (spRule K) := by
  refine F.ok scRule (fun vs H Q E h => ?_) (fun cdv A outer s H vs Q E hr h => ?_)
  · obtain ⟨t, cl, ns, b, rfl, _⟩ := h
    rfl
  · obtain ⟨t, cl, ns, b, rfl, T, b9, k⟩ := h
    have nd := scRule.nd
    have hr1 : Room 1 _ := hr.mono (by decide)
    refine ⟨_, pss_cons (ps_set (i := 1) nd rfl (.inl rfl) (pe_lst (pa_cons (pe_op op_add pe_int (pe_kn D hr1 (by rfl) (pa_cons (pv 0) (pa_cons pe_int pa_nil)))) (pa_cons (pe_op op_add pe_int (pe_kn D hr1 (by rfl) (pa_cons (pv 0) (pa_cons pe_int pa_nil))))
          (pa_cons (pe_op op_sub pe_int (pe_kn D hr1 (by rfl) (pa_cons (pv 0) (pa_cons pe_int pa_nil)))) pa_nil)))))
      (pss_cons (ps_set (i := 2) nd rfl (.inl rfl) (pe_ix ix_list (pv 1) (pe_kn D hr1 (by rfl) (pa_cons (pv 0) (pa_cons pe_int pa_nil))) (fun _ _ => rfl)))
      (pss_cons (ps_set (i := 3) nd rfl (.inl rfl) pe_non)
      (pss_cons (ps_set (i := 4) nd rfl (.inl rfl) (pe_kn D hr1 (by rfl) (pa_cons (pv 0) (pa_cons pe_int pa_nil))))
      (C8.pss_cut (ps_if (pt_cmpR op_eq (pv 4) pe_int (nomark _)) (pss_one (ps_set (i := 3) nd rfl (.inl rfl) (pe_tup (pa_cons pe_str (pa_cons (pe_ix ix_list (pe_lst (pa_cons pe_int (pa_cons (pe_op op_add pe_int (pe_kn D hr1 (by rfl) (pa_cons (pv 0) (pa_cons pe_int pa_nil))))
          (pa_cons (pe_op op_add pe_int (pe_kn D hr1 (by rfl) (pa_cons (pv 0) (pa_cons pe_int pa_nil)))) pa_nil)))) (pe_kn D hr1 (by rfl) (pa_cons (pv 0) (pa_cons pe_int pa_nil))) (fun _ _ => rfl)) pa_nil))))) pss_nil)
      (C8.pss_cut (ps_if (pt_cmpR op_eq (pv 4) pe_int (nomark _)) (pss_one (ps_set (i := 3) nd rfl (.inl rfl) (pe_tup (pa_cons pe_str (pa_cons (pe_callB (call_min2 rfl) (by rfl) G.mn (by decide +kernel) (pa_cons pe_int (pa_cons (pe_op op_add (pv 2) (pe_ix ix_list (pe_lst (pa_cons pe_int (pa_cons (pe_kn D hr1 (by rfl) (pa_cons (pv 0) (pa_cons pe_int pa_nil)))
          (pa_cons (pe_kn D hr1 (by rfl) (pa_cons (pv 0) (pa_cons pe_int pa_nil))) pa_nil)))) (pe_kn D hr1 (by rfl) (pa_cons (pv 0) (pa_cons pe_int pa_nil))) (fun _ _ => rfl))) pa_nil))) pa_nil))))) pss_nil)
      (C8.pss_cut (ps_set (i := 5) nd rfl (.inl rfl) (pe_ix ix_list (pe_lst (pa_cons pe_int (pa_cons pe_int (pa_cons pe_int (pa_cons (pe_op op_add pe_int (pe_kn D hr1 (by rfl) (pa_cons (pv 0) (pa_cons pe_int pa_nil)))) pa_nil))))) (pe_kn D hr1 (by rfl) (pa_cons (pv 0) (pa_cons pe_int pa_nil))) (fun _ _ => rfl)))
      (pss_cons (ps_set (i := 6) nd rfl (.inl rfl) (pe_ix ix_list (pe_lst (pa_cons (pe_kn D hr1 (by rfl) (pa_cons (pv 0) (pa_cons pe_int pa_nil))) (pa_cons pe_int (pa_cons pe_int pa_nil)))) (pe_kn D hr1 (by rfl) (pa_cons (pv 0) (pa_cons pe_int pa_nil))) (fun _ _ => rfl)))
      (pss_cons (ps_set (i := 7) nd rfl (.inl rfl) (pe_kn HW hr (by rfl) (pa_cons (pv 0) pa_nil)))
      (C8.pss_cut (ps_if (PW.pt (pw_and (pt_cmpR op_eq (pe_ix ix_tup (pv 7) pe_int (fun _ _ => rfl)) pe_str (nomark _)) (pw_and1 (pt_cmpR op_eq (pv 4) pe_int (nomark _)))))
        (pss_one (ps_set (i := 3) nd rfl (.inl rfl) (pe_tup (pa_cons pe_str (pa_cons (pe_op op_add pe_int (pe_op op_mod (pe_ix ix_tup (pv 3) pe_int (fun _ _ => rfl)) pe_int)) pa_nil))))) pss_nil)
      (pss_one (ps_ret (pe_tup (pa_cons (pv 2) (pa_cons (pv 6) (pa_cons (pv 5) (pa_cons (pv 7) (pa_cons (pv 3) pa_nil))))))))))))))))), ?_⟩
    -- some, first
    refine ⟨_, rfl, t, cl, ns, 3000, b, rfl, by decide, by decide, T, by omega, fun r1 H1 r10 r11 bt1 T1 => ?_⟩
    refine ⟨_, _, rfl, rfl, ?_⟩
    refine ⟨_, rfl, t, cl, ns, 99989, b + 1, rfl, by decide, by decide, T1, by omega, fun r2 H2 r20 r21 bt2 T2 => ?_⟩
    refine ⟨_, _, rfl, rfl, ?_⟩
    refine ⟨_, rfl, t, cl, ns, 60, b + 1 + 1, rfl, by decide, by decide, T2, by omega, fun r3 H3 r30 r31 bt3 T3 => ?_⟩
    refine ⟨_, _, rfl, rfl, by show 3 ≤ sizeLine; decide, fun q nq => ?_⟩
    have T3' := T3.same (same_new (o := .lst (([2 + r1, 2 + r2, 99990 - r3] : List Int).map V.int)) nq)
    refine ⟨_, rfl, _, rfl, t, cl, ns, 3, b + 1 + 1 + 1, rfl, by decide, by decide, T3', by omega, fun r4 H4 r40 r41 bt4 T4 => ?_⟩
    obtain ⟨f, ef, mf⟩ := pickL [2 + r1, 2 + r2, 99990 - r3] r40 r41
    simp only [List.mem_cons, List.not_mem_nil, or_false] at mf
    have f2 : 2 ≤ f := by omega
    have f9 : f ≤ 99990 := by omega
    refine ⟨q, _, _, .int f, rfl, rfl, SqL.of (T3'.lst bt4 upd_same), ef, ?_⟩
    refine ⟨_, rfl, t, cl, ns, 3, b + 1 + 1 + 1 + 1, rfl, by decide, by decide, T4, by omega, fun way H5 w0 w1 bt5 T5 => ?_⟩
    have bt : But t H H5 := (((bt1.trans bt2).trans bt3).trans ((same_but (same_new nq)).trans bt4)).trans bt5
    -- if way == 1
    refine ⟨fun σ' H' => ∃ v : V, σ' = [some (.ref t), some (.ref q), some (.int f), some v, some (.int way), none, none, none] ∧ But t H H' ∧ TapeAt H' t cl ns (b + 10) ∧ EndP K H' way v, ?_, ?_⟩
    · refine ⟨_, rfl, rfl, _, rfl, ?_⟩
      rw [dec_int]
      refine ite2 (fun e => ?_) (fun e => ?_)
      · refine ⟨_, rfl, t, cl, ns, 12, b + 1 + 1 + 1 + 1 + 1, rfl, by decide, by decide, T5, by omega, fun s1 J1 s10 s11 ct1 U1 => ?_⟩
        refine ⟨_, _, rfl, rfl, ?_⟩
        refine ⟨_, rfl, t, cl, ns, 1000, b + 1 + 1 + 1 + 1 + 1 + 1, rfl, by decide, by decide, U1, by omega, fun s2 J2 s20 s21 ct2 U2 => ?_⟩
        refine ⟨_, _, rfl, rfl, by show 3 ≤ sizeLine; decide, fun z nz => ?_⟩
        have U2' := U2.same (same_new (o := .lst (([1, 1 + s1, 1 + s2] : List Int).map V.int)) nz)
        refine ⟨_, rfl, t, cl, ns, 3, b + 1 + 1 + 1 + 1 + 1 + 1 + 1, rfl, by decide, by decide, U2', by omega, fun s3 J3 s30 s31 ct3 U3 => ?_⟩
        obtain ⟨x, ex, mx⟩ := pickL [1, 1 + s1, 1 + s2] s30 s31
        refine ⟨z, _, _, .int x, rfl, rfl, SqL.of (U2'.lst ct3 upd_same), ex, by show 2 ≤ sizeLine; decide, fun y ny => ?_⟩
        exact ⟨.ref y, rfl, (((bt.trans ct1).trans ct2).trans ((same_but (same_new nz)).trans ct3)).trans (same_but (same_new ny)), (U3.same (same_new ny)).le (by omega), fun _ => ⟨y, x, rfl, SqT.of upd_same⟩⟩
      · refine ⟨.non, rfl, bt, T5.le (by omega), fun e' => absurd (beq_iff_eq.mpr e') e⟩
    rintro σ' H6 ⟨v, rfl, bt6, T6, E6⟩
    -- if way == 2
    refine ⟨fun σ' H' => ∃ v : V, σ' = [some (.ref t), some (.ref q), some (.int f), some v, some (.int way), none, none, none] ∧ But t H H' ∧ TapeAt H' t cl ns (b + 15) ∧ EndP K H' way v, ?_, ?_⟩
    · refine ⟨_, rfl, rfl, _, rfl, ?_⟩
      rw [dec_int]
      refine ite2 (fun e => ?_) (fun e => ?_)
      · have ew : way = 2 := eq_of_beq e
        refine ⟨_, rfl, _, rfl, t, cl, ns, 30, b + 10, rfl, by decide, by decide, T6, by omega, fun s1 J1 s10 s11 ct1 U1 => ?_⟩
        refine ⟨_, rfl, t, cl, ns, 900, b + 10 + 1, rfl, by decide, by decide, U1, by omega, fun s2 J2 s20 s21 ct2 U2 => ?_⟩
        refine ⟨by show 3 ≤ sizeLine; decide, fun z nz => ?_⟩
        have U2' := U2.same (same_new (o := .lst (([0, s1, s2] : List Int).map V.int)) nz)
        refine ⟨_, rfl, t, cl, ns, 3, b + 10 + 1 + 1, rfl, by decide, by decide, U2', by omega, fun s3 J3 s30 s31 ct3 U3 => ?_⟩
        obtain ⟨x, ex, mx⟩ := pickL [0, s1, s2] s30 s31
        refine ⟨z, _, _, .int x, rfl, rfl, SqL.of (U2'.lst ct3 upd_same), ex, _, _, rfl, rfl, _, _, rfl, by show 2 ≤ sizeLine; decide, fun y ny => ?_⟩
        exact ⟨.ref y, rfl, (((bt6.trans ct1).trans ct2).trans ((same_but (same_new nz)).trans ct3)).trans (same_but (same_new ny)), (U3.same (same_new ny)).le (by omega), fun z => by omega⟩
      · exact ⟨v, rfl, bt6, T6.le (by omega), E6⟩
    clear E6 T6 bt6
    rintro σ' H7 ⟨v, rfl, bt7, T7, E7⟩
    -- length
    refine ⟨fun σ' H' => ∃ ln : V, σ' = [some (.ref t), some (.ref q), some (.int f), some v, some (.int way), some ln, none, none] ∧ But t H H' ∧ TapeAt H' t cl ns (b + 20) ∧ EndP K H' way v, ?_, ?_⟩
    · refine ⟨_, rfl, t, cl, ns, 1440, b + 15, rfl, by decide, by decide, T7, by omega, fun s1 J1 s10 s11 ct1 U1 => ?_⟩
      refine ⟨_, _, rfl, rfl, by show 4 ≤ sizeLine; decide, fun z nz => ?_⟩
      have U1' := U1.same (same_new (o := .lst (([30, 1, 1440, 1 + s1] : List Int).map V.int)) nz)
      refine ⟨_, rfl, t, cl, ns, 4, b + 15 + 1, rfl, by decide, by decide, U1', by omega, fun s3 J3 s30 s31 ct3 U3 => ?_⟩
      obtain ⟨x, ex, mx⟩ := pickL [30, 1, 1440, 1 + s1] s30 s31
      exact ⟨z, _, _, .int x, rfl, rfl, SqL.of (U1'.lst ct3 upd_same), ex, .int x, rfl, (bt7.trans ct1).trans ((same_but (same_new nz)).trans ct3), U3.le (by omega), ((E7.tape T7 ct1).same (same_new nz)).tape U1' ct3⟩
    clear E7 T7 bt7
    rintro σ' H8 ⟨ln, rfl, bt8, T8, E8⟩
    -- minute, how
    refine ⟨_, rfl, t, cl, ns, 1440, b + 20, rfl, by decide, by decide, T8, by omega, fun s1 J1 s10 s11 ct1 U1 => ?_⟩
    refine ⟨by show 3 ≤ sizeLine; decide, fun z nz => ?_⟩
    have U1' := U1.same (same_new (o := .lst (([s1, 0, 1439] : List Int).map V.int)) nz)
    refine ⟨_, rfl, t, cl, ns, 3, b + 20 + 1, rfl, by decide, by decide, U1', by omega, fun s3 J3 s30 s31 ct3 U3 => ?_⟩
    obtain ⟨mn, ex, mx⟩ := pickL [s1, 0, 1439] s30 s31
    refine ⟨z, _, _, .int mn, rfl, rfl, SqL.of (U1'.lst ct3 upd_same), ex, ?_⟩
    have E9 := ((E8.tape T8 ct1).same (same_new nz)).tape U1' ct3
    have bt9 := (bt8.trans ct1).trans ((same_but (same_new nz)).trans ct3)
    refine ⟨_, rfl, t, cl, ns, b + 20 + 1 + 1, rfl, U3, by omega, fun a h J4 hok hat ct4 U4 => ?_⟩
    have E10 := E9.tape U3 ct4
    obtain ⟨hd, hs, hq⟩ := hat.head
    refine ⟨fun σ' H' => ∃ v : V, σ' = [some (.ref t), some (.ref q), some (.int f), some v, some (.int way), some ln, some (.int mn), some (.ref a)] ∧ Same J4 H', ?_, ?_⟩
    · refine ⟨_, rfl, a, _, _, .str hd, rfl, rfl, hq, at_of (j := 0) rfl rfl, rfl, _, rfl, ?_⟩
      refine ite2 (fun _ => ?_) (fun _ => iteF ⟨v, rfl, Same.refl _⟩)
      refine ⟨_, rfl, rfl, _, rfl, ?_⟩
      rw [dec_int]
      refine ite2 (fun e => ?_) (fun _ => ⟨v, rfl, Same.refl _⟩)
      obtain ⟨y, x, rfl, qy⟩ := E10 (eq_of_beq e)
      refine ⟨_, rfl, y, _, _, .int x, rfl, rfl, qy, at_of (j := 1) rfl rfl, _, _, rfl, rfl, by show (0 : Int) < 120; decide, _, _, rfl, rfl, by show 2 ≤ sizeLine; decide, fun u nu => ?_⟩
      exact ⟨.ref u, rfl, same_new nu⟩
    · rintro σ' J5 ⟨v', rfl, sm⟩
      refine ⟨_, rfl, _, rfl, _, rfl, _, rfl, _, rfl, by show 5 ≤ sizeLine; decide, fun u nu => ?_⟩
      have sm2 := sm.trans (same_new (o := .tup [.int f, .int mn, ln, .ref a, v']) nu)
      exact k u f h (.int mn) ln a v' _ f2 f9 hok (SqT.of upd_same) (hat.same sm2) ((bt9.trans ct4).trans (same_but sm2)) ((U4.same sm2).le (by omega))
end
end Gc

namespace Gc
open PySem PySem.Spec PyProof.Rows L2
abbrev sFar : Stmt := topS 29
theorem scFar : FnScope ["_law_rule_here", "_law_place", "_law_last", "_law_day", "_law_end", "_law_cut"] ["_law_rule_here", "_law_place"] (defScope sFar) := ⟨rfl, rfl, rfl, by decide +kernel, rfl, by decide +kernel, by decide +kernel⟩
theorem eqS (d : Int) : decide (V.int d = V.int d) = true := decide_eq_true rfl
theorem eqO (d : Int) : decide (vOpt (some d) = V.int d) = true := decide_eq_true rfl
theorem cut4 (a b c d e : V) : cutV [a, b, c, d, e] none (some 4) = [a, b, c, d] := rfl
def spFar (K : PySem.W.Frag) : Sp := fun vs H Q _ => ∃ (r : Addr) (p f high : Int) (h : How), vs = [.ref r, .int p] ∧ RuleAt K H r f h .no ∧ ROk f h ∧ 0 ≤ p ∧ p ≤ 999 ∧ daysOf f h .no 0 high ≠ [] ∧ ∀ H', Same H H' → Q (.bl true) H'
/-- the functions over rules, by their names -/
structure Rd5 (P : Program) (w : World) (K : PySem.W.Frag) (mg : Str → Option Value) (base : Heap) : Prop where
  dof : Kn P w K mg base "days_of" 10 ["rule", "low", "high"] (spDaysOf K)
  isd : Kn P w K mg base "is_day" 9 ["rule", "day"] (spIsDay K)
  plc : Kn P w K mg base "place_of" 10 ["rule", "day"] (spPlaceOf K)
  dat : Kn P w K mg base "day_at" 10 ["rule", "place"] (spDayAt K)
  lst : Kn P w K mg base "last_day" 10 ["rule"] (spLastDay K)
section
variable {P : Program} {w : World} {K : PySem.W.Frag} {mg : Str → Option Value} {base : Heap} {f : Addr} {fd : FuncData}
theorem ok_far (F : Fun K "_law_far_right" "_law_far_right" sFar f fd) (G : Glb K mg) (R5 : Rd5 P w K mg base) : FnOk P w K mg base CX0 11 f fd ["_law_rule_here", "_law_place"] (spFar K) := by
  refine F.ok scFar (fun vs H Q E h => ?_) (fun cdv A outer s H vs Q E hr h => ?_)
  · obtain ⟨r, p, f, high, h, rfl, _⟩ := h
    rfl
  · obtain ⟨r, p, f, high, h, rfl, R, ok, p0, p9, ne, k⟩ := h
    have nd := scFar.nd
    have hr9 : Room 9 _ := hr.mono (by decide)
    have f0 : 0 ≤ f := by have := ok.1; omega
    obtain ⟨l, ll, lD, l0, l9, lday, lnext, ltop⟩ := q_last f0 ne
    refine ⟨_, pss_cons (ps_set (i := 2) nd rfl (.inl rfl) (pe_kn R5.lst hr (by rfl) (pa_cons (pv 0) pa_nil)))
      (pss_cons (ps_if (PW.pt (pw_or (pt_not (pt_val (pe_kn R5.isd hr9 (by rfl) (pa_cons (pv 0) (pa_cons (pv 2) pa_nil)))))
          (pw_or1 (pt_cmpR (op_neD hr.units) (pe_kn R5.dof hr (by rfl) (pa_cons (pv 0) (pa_cons (pe_op op_add (pv 2) pe_int) (pa_cons pe_int pa_nil)))) (pe_lst pa_nil) (nomark _))))) (pss_one (ps_ret pe_bl)) pss_nil)
      (pss_cons (ps_set (i := 3) nd rfl (.inl rfl) (pe_kn R5.dat hr (by rfl) (pa_cons (pv 0) (pa_cons (pv 1) pa_nil))))
      (pss_cons (ps_if (pt_cmpR op_isN (pv 3) pe_non (nomark _)) (pss_one (ps_ret (pe_cmpR op_lt (pe_kn R5.plc hr (by rfl) (pa_cons (pv 0) (pa_cons (pv 2) pa_nil))) (pv 1) (nomark _)))) pss_nil)
      (pss_cons (ps_if (PW.pt (pw_or (pt_cmpR op_ne (pe_kn R5.plc hr (by rfl) (pa_cons (pv 0) (pa_cons (pv 3) pa_nil))) (pv 1) (nomark _)) (pw_or1 (pt_cmpR op_lt (pv 2) (pv 3) (nomark _))))) (pss_one (ps_ret pe_bl)) pss_nil)
      (pss_cons (ps_for PassesOwn.never rfl (pi_list (pe_lst (pa_cons (pe_tup (pa_cons pe_str (pa_cons (pe_op op_add (pv 1) pe_int) pa_nil))) (pa_cons (pe_tup (pa_cons pe_str (pa_cons (pv 3) pa_nil))) pa_nil)))) (pg_name (i := 4) nd rfl (.inl rfl))
        (pss_cons (ps_set (i := 5) nd rfl (.inl rfl) (pe_op op_catT (pe_slice sl_tup (pv 0) po_none (po_some pe_int)) (pe_tup (pa_cons (pv 4) pa_nil))))
        (pss_cons (ps_if (PW.pt (pw_or (pt_cmpR op_ne (pe_kn R5.lst hr (by rfl) (pa_cons (pv 5) pa_nil)) (pv 3) (nomark _)) (pw_or (pt_not (pt_val (pe_kn R5.isd hr9 (by rfl) (pa_cons (pv 5) (pa_cons (pv 3) pa_nil)))))
            (pw_or1 (pt_cmpR op_notN (pe_kn R5.dat hr (by rfl) (pa_cons (pv 5) (pa_cons (pe_op op_add (pv 1) pe_int) pa_nil))) pe_non (nomark _)))))) (pss_one (ps_ret pe_bl)) pss_nil)
        (pss_one (ps_if (PW.pt (pw_or (pt_cmpR (op_neD hr.units) (pe_kn R5.dof hr (by rfl) (pa_cons (pv 5) (pa_cons (pv 3) (pa_cons (pe_callB (call_min2 rfl) (by rfl) G.mn (by decide +kernel) (pa_cons pe_int (pa_cons (pe_op op_add (pv 3) pe_int) pa_nil))) pa_nil)))) (pe_lst (pa_cons (pv 3) pa_nil)) (nomark _))
            (pw_or1 (pt_cmpR op_ne (pe_kn R5.plc hr (by rfl) (pa_cons (pv 5) (pa_cons (pv 3) pa_nil))) (pv 1) (nomark _))))) (pss_one (ps_ret pe_bl)) pss_nil)))))
      (pss_one (ps_ret pe_bl))))))), ?_⟩
    refine ⟨_, rfl, r, f, h, .no, rfl, R, ok, trivial, fun H1 s1 => ?_⟩
    rw [ll]
    refine ⟨_, rfl, _, rfl, r, f, h, .no, l, rfl, R.same s1, ok, l0, fun H2 s2 => ?_⟩
    rw [lday]
    refine ⟨_, rfl, iteF ?_⟩
    have R2 := R.same (s1.trans s2)
    refine ⟨_, rfl, _, rfl, _, _, rfl, rfl, r, f, h, .no, l + 1, 99999, rfl, R2, ok, trivial, by omega, by omega, fun q H3 s3 nq hq => ?_⟩
    rw [lnext] at hq
    refine ⟨by show 0 ≤ sizeLine; decide, fun z nz => ?_⟩
    have s4 := ((s1.trans s2).trans s3).trans (same_new (o := .lst []) nz)
    refine ⟨.list (([] : List Int).map PyData.int), .list (([] : List Int).map PyData.int), dp_ints (ns := []) (SqL.of (same_new nz _ _ hq)), dp_ints (ns := []) (SqL.of upd_same), PySem.W.shaped_ints _, PySem.W.shaped_ints _, _, rfl, ?_⟩
    rw [eqv_list, decide_eq_true rfl]
    refine iteF ?_
    refine ⟨_, rfl, _, rfl, r, f, h, .no, p, rfl, R.same s4, ok, trivial, p0, fun H5 s5 => ?_⟩
    have s05 := s4.trans s5
    refine ⟨_, rfl, rfl, _, rfl, ?_⟩
    cases ed : dayAt f h .no p with
    | none =>
      obtain ⟨pl, lt⟩ := q_far_none f0 p0 lD l9 lday ed
      refine iteT ⟨_, rfl, _, rfl, r, f, h, .no, l, rfl, R.same s05, ok, l0, fun H6 s6 => ?_⟩
      rw [pl]
      refine ⟨_, rfl, _, _, rfl, rfl, ?_⟩
      show Q (.bl (decide (cnt (isD f h) l < p))) H6
      rw [decide_eq_true lt]
      exact k H6 (s05.trans s6)
    | some d =>
      obtain ⟨dD, d9, dc, dp⟩ := q_far_some p0 ed
      have dl : d ≤ l := ltop d dD d9
      have d0 : 0 ≤ d := by have := isD_ge dD; omega
      refine iteF ⟨_, rfl, _, rfl, r, f, h, .no, d, rfl, R.same s05, ok, d0, fun H6 s6 => ?_⟩
      rw [dp]
      refine ⟨_, rfl, rfl, _, rfl, ?_⟩
      rw [eqO]
      refine iteF ⟨_, rfl, _, rfl, _, _, rfl, rfl, _, rfl, ?_⟩
      rw [decide_eq_false (show ¬ l < d by omega)]
      refine iteF ?_
      have s06 := s05.trans s6
      refine ⟨_, rfl, _, _, rfl, rfl, by show 2 ≤ sizeLine; decide, fun t1 n1 => ?_⟩
      refine ⟨_, rfl, by show 2 ≤ sizeLine; decide, fun t2 n2 => ?_⟩
      refine ⟨by show 2 ≤ sizeLine; decide, fun L nL => ?_⟩
      have m1 := same_new (o := .tup [.str "times", .int (p + 1)]) n1
      have m2 := same_new (o := .tup [.str "until", .int d]) n2
      have m3 := same_new (o := .lst [.ref t1, .ref t2]) nL
      have a1 := m3 _ _ (m2 _ _ (upd_same (H := H6) (a := t1) (o := .tup [.str "times", .int (p + 1)])))
      have a2 := m3 _ _ (upd_same (H := upd H6 t1 (.tup [.str "times", .int (p + 1)])) (a := t2) (o := .tup [.str "until", .int d]))
      have s0 := ((s06.trans m1).trans m2).trans m3
      refine ⟨L, rfl, ⟨_, SqL.of upd_same⟩, ?_⟩
      refine for_list (K := K) (a := L) (xs := [.ref t1, .ref t2]) (fun i σ H' => Same H H' ∧ H' L = some (.lst [.ref t1, .ref t2]) ∧ H' t1 = some (.tup [.str "times", .int (p + 1)]) ∧ H' t2 = some (.tup [.str "until", .int d]) ∧
        ∃ v v2, σ = [some (.ref r), some (.int p), some (.int l), some (.int d), v, v2]) ⟨s0, upd_same, a1, a2, none, none, rfl⟩ (fun i σ H' _ y => SqL.of y.2.1) ?_ ?_
      · rintro i x σ H7 hi ⟨s7, aL, b1, b2, v, v2, rfl⟩
        obtain ⟨e, far, ea⟩ : ∃ e, Far f h p d e ∧ EndAt K H7 x e := by
          match i, hi with
          | 0, hi =>
            obtain rfl : V.ref t1 = x := Option.some.inj hi
            exact ⟨.times (p + 1), far_times f0 p0 (by omega) dD d9 dc, t1, rfl, SqT.of b1⟩
          | 1, hi =>
            obtain rfl : V.ref t2 = x := Option.some.inj hi
            exact ⟨.upto d, far_until f0 p0 dD d9 dc, t2, rfl, SqT.of b2⟩
        obtain ⟨mn, ln, v0, a, q1, q2, q3⟩ := R.same s7
        refine ⟨_, rfl, 4, rfl, r, _, rfl, q1, fun z => absurd z.2 (by show ¬ ((4 : Nat) = 5); decide), fun c nc => ?_⟩
        rw [cut4]
        refine ⟨_, rfl, by show 1 ≤ sizeLine; decide, fun u nu => ?_⟩
        have m4 := same_new (o := .tup [.int f, mn, ln, .ref a]) nc
        have m5 := same_new (o := .tup [x]) nu
        refine ⟨c, u, _, _, rfl, rfl, SqT.of (m5 _ _ upd_same), SqT.of upd_same, List.cons_ne_nil _ _, by show 5 ≤ sizeLine; decide, fun z => (nomatch z), fun _ g ng => ?_⟩
        have m6 := same_new (o := .tup ([.int f, mn, ln, .ref a] ++ [x])) ng
        have m46 := (m4.trans m5).trans m6
        have RC : RuleAt K (upd (upd (upd H7 c (.tup [.int f, mn, ln, .ref a])) u (.tup [x])) g (.tup ([.int f, mn, ln, .ref a] ++ [x]))) g f h e := ⟨mn, ln, x, a, SqT.of upd_same, q2.same m46, ea.same m46⟩
        have s8 := m46
        refine ⟨_, rfl, g, f, h, e, rfl, RC, ok, far.eok, fun H9 s9 => ?_⟩
        rw [far.last]
        refine ⟨_, rfl, rfl, _, rfl, ?_⟩
        rw [eqO]
        refine iteF ⟨_, rfl, _, rfl, g, f, h, e, d, rfl, RC.same s9, ok, d0, fun H10 s10 => ?_⟩
        rw [far.day]
        refine ⟨_, rfl, iteF ?_⟩
        refine ⟨_, rfl, _, rfl, _, _, rfl, rfl, g, f, h, e, p + 1, rfl, RC.same (s9.trans s10), ok, far.eok, by omega, fun H11 s11 => ?_⟩
        rw [far.next]
        refine ⟨rfl, _, rfl, iteF ?_⟩
        have s811 := (s9.trans s10).trans s11
        refine ⟨_, rfl, _, rfl, _, rfl, _, _, rfl, rfl, _, _, rfl, ?_⟩
        rw [min_ite]
        refine ⟨g, f, h, e, d, min 99999 (d + 3100), rfl, RC.same s811, ok, far.eok, d0, by omega, fun q' H12 s12 nq' hq' => ?_⟩
        rw [far.days] at hq'
        refine ⟨_, rfl, by show 1 ≤ sizeLine; decide, fun z' nz' => ?_⟩
        refine ⟨.list (([d] : List Int).map PyData.int), .list (([d] : List Int).map PyData.int), dp_ints (ns := [d]) (SqL.of (same_new nz' _ _ hq')), dp_ints (ns := [d]) (SqL.of upd_same), PySem.W.shaped_ints _, PySem.W.shaped_ints _, _, rfl, ?_⟩
        rw [eqv_list, decide_eq_true rfl]
        have s813 := (s811.trans s12).trans (same_new (o := .lst [.int d]) nz')
        refine iteF ⟨_, rfl, _, rfl, g, f, h, e, d, rfl, RC.same s813, ok, d0, fun H14 s14 => ?_⟩
        rw [far.place]
        refine ⟨_, rfl, rfl, _, rfl, ?_⟩
        rw [eqO]
        have s9e := (s8.trans s813).trans s14
        exact iteF ⟨s7.trans s9e, s9e _ _ aL, s9e _ _ b1, s9e _ _ b2, _, _, rfl⟩
      · rintro σ H7 ⟨s7, _, _, _, v, v2, rfl⟩
        exact k H7 s7
end
end Gc

namespace Gc
open PySem PySem.Spec PyProof.Rows L2
abbrev sLaw : Stmt := topS 30
theorem scLaw : FnScope ["_law_script", "_law_tape_here", "_law_turn", "_law_rule_here", "_law_high", "_law_days", "_law_place", "_law_k", "_law_counted", "_law_ended", "_law_late"] ["_law_script"] (defScope sLaw) :=
  ⟨rfl, rfl, rfl, by decide +kernel, rfl, by decide +kernel, by decide +kernel⟩
theorem cutT (xs : List V) (n : Nat) : cutV xs none (some (n : Int)) = xs.take n := by
  unfold cutV
  rw [HT.sIx_none, HT.sIx_nat]
  show xs.take (min n xs.length - 0) = xs.take n
  rw [Nat.sub_zero]
  rcases Nat.le_total n xs.length with h | h
  · rw [Nat.min_eq_left h]
  · rw [Nat.min_eq_right h, List.take_length, List.take_of_length_le h]
theorem cutD (xs : List V) (n : Nat) : cutV xs (some (n : Int)) none = xs.drop n := by
  unfold cutV
  rw [HT.sIx_none, HT.sIx_nat]
  rcases Nat.le_total n xs.length with h | h
  · rw [Nat.min_eq_left h, List.take_of_length_le (by rw [List.length_drop]; exact Nat.le_refl _)]
  · rw [Nat.min_eq_right h, Nat.sub_self, List.take_zero, List.drop_of_length_le h]
theorem cut14 (a b c d e : V) : cutV [a, b, c, d, e] (some 1) (some 4) = [b, c, d] := rfl
theorem cut1 (a b c d e : V) : cutV [a, b, c, d, e] (some 1) none = [b, c, d, e] := rfl
theorem RuleAt.tape {K : PySem.W.Frag} {H H' : Hp} {r t cl : Addr} {ns : List Int} {b f : Int} {h : How} (q : RuleAt K H r f h .no) (T : TapeAt H t cl ns b) (bt : But t H H') : RuleAt K H' r f h .no := by
  obtain ⟨mn, ln, v, a, q1, q2, q3⟩ := q
  exact ⟨mn, ln, v, a, T.tup bt q1, T.how bt q2, q3⟩
theorem cutTm (days : List Int) (n : Nat) : cutV (days.map V.int) none (some ((n : Int) + 1)) = (days.take (n + 1)).map V.int := by
  rw [show ((n : Int) + 1) = ((n + 1 : Nat) : Int) from rfl, cutT, List.map_take]
theorem cut200 (days : List Int) : cutV (days.map V.int) none (some 200) = (days.take 200).map V.int := by
  rw [show (200 : Int) = ((200 : Nat) : Int) from rfl, cutT, List.map_take]
theorem cutDm (days : List Int) (n : Nat) : cutV (days.map V.int) (some (n : Int)) none = (days.drop n).map V.int := by
  rw [cutD, List.map_drop]
theorem last_of {days : List Int} (h : days ≠ []) : ∃ l, days[days.length - 1]? = some l ∧ atI (days.map V.int) (-1) = some (.int l) := by
  refine ⟨days.getLast h, ?_, ?_⟩
  · rw [← List.getLast?_eq_getElem?, List.getLast?_eq_some_getLast h]
  · have e := List.dropLast_concat_getLast h
    generalize days.getLast h = l at e
    rw [← e, List.map_append]
    exact atI_last _ _
theorem mget {days : List Int} {i : Nat} {d : Int} (e : days[i]? = some d) : (days.map V.int)[i]? = some (.int d) := by
  rw [List.getElem?_map, e]
  rfl
def spLaw (K : PySem.W.Frag) : Sp := fun vs H Q _ => ∃ (a : Addr) (ns : List Int), vs = [.ref a] ∧ SqL K H a (ns.map V.int) ∧ ns.length ≤ 63 ∧ ∀ H', Q (.bl true) H'
section
variable {P : Program} {w : World} {K : PySem.W.Frag} {mg : Str → Option Value} {base : Heap} {f : Addr} {fd : FuncData}
theorem ok_law (F : Fun K "law" "law" sLaw f fd) (G : Glb K mg) (R5 : Rd5 P w K mg base) (TP : Kn P w K mg base "_law_tape" 1 ["_law_script"] (spTape K)) (D : Kn P w K mg base "_law_draw" 1 ["_law_tape_here", "_law_many"] spDraw)
    (RL : Kn P w K mg base "_law_rule" 3 ["_law_tape_here"] (spRule K)) (FR : Kn P w K mg base "_law_far_right" 11 ["_law_rule_here", "_law_place"] (spFar K)) : FnOk P w K mg base CX0 12 f fd ["_law_script"] (spLaw K) := by
  refine F.ok scLaw (fun vs H Q E h => ?_) (fun cdv A outer s H vs Q E hr h => ?_)
  · obtain ⟨a, ns, rfl, _⟩ := h
    rfl
  · obtain ⟨a0, ns0, rfl, hS, hlen, k⟩ := h
    have nd := scLaw.nd
    have hr1 : Room 1 _ := hr.mono (by decide)
    have hr3 : Room 3 _ := hr.mono (by decide)
    have hr9 : Room 9 _ := hr.mono (by decide)
    have hr10 : Room 10 _ := hr.mono (by decide)
    refine ⟨_, pss_cons (ps_set (i := 1) nd rfl (.inl rfl) (pe_kn TP hr1 (by rfl) (pa_cons (pv 0) pa_nil)))
      (pss_cons (ps_for PassesOwn.never rfl (pi_range1 rfl G.rg (pa_cons pe_int pa_nil)) (pg_name (i := 2) nd rfl (.inl rfl))
        (pss_cons (ps_set (i := 3) nd rfl (.inl rfl) (pe_kn RL hr3 (by rfl) (pa_cons (pv 1) pa_nil)))
        (C8.pss_cut (ps_set (i := 3) nd rfl (.inl rfl) (pe_op op_catT (pe_op op_catT (pe_tup (pa_cons (pe_callB (call_min2 rfl) (by rfl) G.mn (by decide +kernel) (pa_cons (pe_ix ix_tup (pv 3) pe_int (fun _ _ => rfl)) (pa_cons pe_int pa_nil))) pa_nil)) (pe_slice sl_tup (pv 3) (po_some pe_int) (po_some pe_int))) (pe_tup (pa_cons pe_non pa_nil))))
        (pss_cons (ps_set (i := 4) nd rfl (.inl rfl) (pe_op op_add (pe_ix ix_tup (pv 3) pe_int (fun _ _ => rfl)) (pe_ix ix_list (pe_lst (pa_cons pe_int (pa_cons pe_int (pa_cons pe_int pa_nil)))) (pe_kn D hr1 (by rfl) (pa_cons (pv 1) (pa_cons pe_int pa_nil))) (fun _ _ => rfl))))
        (C8.pss_cut (ps_set (i := 5) nd rfl (.inl rfl) (pe_slice sl_list (pe_kn R5.dof hr10 (by rfl) (pa_cons (pv 3) (pa_cons pe_int (pa_cons (pv 4) pa_nil)))) po_none (po_some pe_int)))
        (pss_cons (ps_if (pt_cmpR (op_eqD hr.units) (pv 5) (pe_lst pa_nil) (nomark _))
          (pss_cons (ps_if (pt_val (pe_kn R5.isd hr9 (by rfl) (pa_cons (pv 3) (pa_cons (pe_ix ix_tup (pv 3) pe_int (fun _ _ => rfl)) pa_nil)))) (pss_one (ps_ret pe_bl)) pss_nil) (pss_one ps_continue)) pss_nil)
        (pss_cons (ps_set (i := 6) nd rfl (.inl rfl) (pe_kn D hr1 (by rfl) (pa_cons (pv 1) (pa_cons pe_int pa_nil))))
        (C8.pss_cut (ps_if (pt_cmpR op_eq (pe_ix ix_tup (pe_ix ix_tup (pv 3) pe_int (fun _ _ => rfl)) pe_int (fun _ _ => rfl)) pe_str (nomark _)) (pss_one (ps_set (i := 6) nd rfl (.inl rfl) (pe_op op_mod (pv 6) pe_int))) pss_nil)
        (C8.pss_cut (ps_if (PW.pt (pw_and (pt_cmpR op_eq (pv 2) pe_int (nomark _)) (pw_and1 (pt_not (pt_val (pe_kn FR hr (by rfl) (pa_cons (pv 3) (pa_cons (pv 6) pa_nil)))))))) (pss_one (ps_ret pe_bl)) pss_nil)
        (pss_cons (ps_set (i := 7) nd rfl (.inl rfl) (pe_kn D hr1 (by rfl) (pa_cons (pv 1) (pa_cons (pe_callB call_len_seq (by rfl) G.ln PySem.boot_len (pa_cons (pv 5) pa_nil)) pa_nil))))
        (C8.pss_cut (ps_set (i := 8) nd rfl (.inl rfl) (pe_op op_catT (pe_slice sl_tup (pv 3) po_none (po_some pe_int)) (pe_tup (pa_cons (pe_tup (pa_cons pe_str (pa_cons (pe_op op_add (pv 7) pe_int) pa_nil))) pa_nil))))
        (C8.pss_cut (ps_set (i := 9) nd rfl (.inl rfl) (pe_op op_catT (pe_slice sl_tup (pv 3) po_none (po_some pe_int)) (pe_tup (pa_cons (pe_tup (pa_cons pe_str (pa_cons (pe_ix ix_list (pv 5) (pv 7) (fun _ _ => rfl)) pa_nil))) pa_nil))))
        (pss_cons (ps_if (PW.pt (pw_or (pt_cmpR (op_neD hr.units) (pe_kn R5.dof hr10 (by rfl) (pa_cons (pv 8) (pa_cons pe_int (pa_cons (pv 4) pa_nil)))) (pe_slice sl_list (pv 5) po_none (po_some (pe_op op_add (pv 7) pe_int))) (nomark _))
            (pw_or1 (pt_cmpR (op_neD hr.units) (pe_kn R5.dof hr10 (by rfl) (pa_cons (pv 9) (pa_cons pe_int (pa_cons (pv 4) pa_nil)))) (pe_slice sl_list (pv 5) po_none (po_some (pe_op op_add (pv 7) pe_int))) (nomark _))))) (pss_one (ps_ret pe_bl)) pss_nil)
        (pss_cons (ps_if (PW.pt (pw_or (pt_cmpR (op_neD hr.units) (pe_lst (pa_cons (pe_kn R5.lst hr10 (by rfl) (pa_cons (pv 8) pa_nil)) (pa_cons (pe_kn R5.lst hr10 (by rfl) (pa_cons (pv 9) pa_nil)) pa_nil)))
              (pe_lst (pa_cons (pe_ix ix_list (pv 5) (pv 7) (fun _ _ => rfl)) (pa_cons (pe_ix ix_list (pv 5) (pv 7) (fun _ _ => rfl)) pa_nil))) (nomark _))
            (pw_or1 (pt_cmpR op_notN (pe_kn R5.dat hr10 (by rfl) (pa_cons (pv 8) (pa_cons (pe_op op_add (pv 7) pe_int) pa_nil))) pe_non (nomark _))))) (pss_one (ps_ret pe_bl)) pss_nil)
        (C8.pss_cut (ps_set (i := 10) nd rfl (.inl rfl) (pe_op op_catT (pe_tup (pa_cons (pe_ix ix_list (pv 5) (pv 7) (fun _ _ => rfl)) pa_nil)) (pe_slice sl_tup (pv 3) (po_some pe_int) po_none)))
        (pss_cons (ps_if (PW.pt (pw_or (pt_cmpR (op_neD hr.units) (pe_kn R5.dof hr10 (by rfl) (pa_cons (pv 10) (pa_cons pe_int (pa_cons (pe_ix ix_list (pv 5) (pe_un un_neg pe_int) (fun _ _ => rfl)) pa_nil)))) (pe_slice sl_list (pv 5) (po_some (pv 7)) po_none) (nomark _))
            (pw_or1 (pt_cmpR op_ne (pe_kn R5.plc hr10 (by rfl) (pa_cons (pv 10) (pa_cons (pe_ix ix_list (pv 5) (pe_un un_neg pe_int) (fun _ _ => rfl)) pa_nil))) (pe_op op_sub (pe_op op_sub (pe_callB call_len_seq (by rfl) G.ln PySem.boot_len (pa_cons (pv 5) pa_nil)) pe_int) (pv 7)) (nomark _))))) (pss_one (ps_ret pe_bl)) pss_nil)
        (pss_one (ps_if (PW.pt (pw_and (pt_cmpR op_gt (pv 7) pe_int (nomark _)) (pw_and1 (PW.pt (pw_or (pt_val (pe_kn R5.isd hr9 (by rfl) (pa_cons (pv 10) (pa_cons (pe_ix ix_list (pv 5) (pe_op op_sub (pv 7) pe_int) (fun _ _ => rfl)) pa_nil))))
            (pw_or1 (pt_cmpR op_notN (pe_kn R5.plc hr10 (by rfl) (pa_cons (pv 10) (pa_cons (pe_ix ix_list (pv 5) pe_int (fun _ _ => rfl)) pa_nil))) pe_non (nomark _)))))))) (pss_one (ps_ret pe_bl)) pss_nil))))))))))))))))))
      (pss_one (ps_ret pe_bl))), ?_⟩
    refine ⟨_, rfl, a0, ns0, rfl, hS, hlen, fun t cl ns H1 s1 nt T1 => ?_⟩
    refine ⟨4, rfl, by decide, by decide, ?_⟩
    refine for_range (lo := 0) (n := 4) (fun i σ H' => TapeAt H' t cl ns (100 * (i : Int)) ∧ ∃ v2 v3 v4 v5 v6 v7 v8 v9 v10, σ = [some (.ref a0), some (.ref t), v2, v3, v4, v5, v6, v7, v8, v9, v10])
      ⟨T1.le (by omega), none, none, none, none, none, none, none, none, none, rfl⟩ ?_ ?_
    · rintro i σ H2 hi ⟨T2, v2, v3, v4, v5, v6, v7, v8, v9, v10, rfl⟩
      have i4 : (i : Int) < 4 := by omega
      refine ⟨_, rfl, t, cl, ns, 100 * (i : Int), rfl, T2, by omega, fun r0 f0 h mn ln a v0 H3 f02 f09 hok q1 q2 bt3 T3 => ?_⟩
      -- the rule without its end
      refine ⟨fun σ' H' => ∃ (r : Addr) (f : Int), 2 ≤ f ∧ f ≤ 98000 ∧ σ' = [some (.ref a0), some (.ref t), some (.int (0 + (i : Int))), some (.ref r), v4, v5, v6, v7, v8, v9, v10] ∧ TapeAt H' t cl ns (100 * (i : Int) + 60) ∧ RuleAt K H' r f h .no, ?_, ?_⟩
      · refine ⟨_, rfl, r0, _, _, .int f0, rfl, rfl, q1, at_of (j := 0) rfl rfl, _, _, rfl, ?_⟩
        rw [min_ite]
        refine ⟨by show 1 ≤ sizeLine; decide, fun x nx => ?_⟩
        have m1 := same_new (o := .tup [.int (min f0 98000)]) nx
        refine ⟨_, rfl, 1, rfl, 4, rfl, r0, _, rfl, Same.tup m1 q1, fun z => absurd z.1 (by show ¬ ((1 : Nat) = 0); decide), fun c nc => ?_⟩
        rw [cut14]
        have m2 := same_new (o := .tup [mn, ln, .ref a]) nc
        refine ⟨x, c, _, _, rfl, rfl, SqT.of (m2 _ _ upd_same), SqT.of upd_same, List.cons_ne_nil _ _, by show 4 ≤ sizeLine; decide, fun z => (nomatch z), fun _ y ny => ?_⟩
        have m3 := same_new (o := .tup ([.int (min f0 98000)] ++ [mn, ln, .ref a])) ny
        refine ⟨by show 1 ≤ sizeLine; decide, fun z nz => ?_⟩
        have m4 := same_new (o := .tup [.non]) nz
        refine ⟨y, z, _, _, rfl, rfl, SqT.of (m4 _ _ upd_same), SqT.of upd_same, List.cons_ne_nil _ _, by show 5 ≤ sizeLine; decide, fun z => (nomatch z), fun _ r nr => ?_⟩
        have m5 := same_new (o := .tup ([.int (min f0 98000)] ++ [mn, ln, .ref a] ++ [.non])) nr
        have m := (((m1.trans m2).trans m3).trans m4).trans m5
        exact ⟨r, min f0 98000, by omega, by omega, rfl, T3.same m, mn, ln, .non, a, SqT.of upd_same, q2.same m, rfl⟩
      clear q1 q2 bt3 T3
      rintro σ' H4 ⟨r, f, f2, f9, rfl, T4, R4⟩
      obtain ⟨mn, ln, v0, a, q1, q2, q3⟩ := id R4
      refine ⟨_, rfl, r, _, _, .int f, rfl, rfl, q1, at_of (j := 0) rfl rfl, by show 3 ≤ sizeLine; decide, fun x nx => ?_⟩
      have m1 := same_new (o := .lst (([60, 800, 1990] : List Int).map V.int)) nx
      refine ⟨_, rfl, t, cl, ns, 3, 100 * (i : Int) + 60, rfl, by decide, by decide, T4.same m1, by omega, fun u H5 u0 u1 bt5 T5 => ?_⟩
      obtain ⟨w', ew, mw⟩ := pickL [60, 800, 1990] u0 u1
      simp only [List.mem_cons, List.not_mem_nil, or_false] at mw
      refine ⟨x, _, _, .int w', rfl, rfl, SqL.of ((T4.same m1).lst bt5 upd_same), ew, _, _, rfl, rfl, ?_⟩
      have R5' := (R4.same m1).tape (T4.same m1) bt5
      have ok : ROk f h := ⟨f2, by omega, hok⟩
      obtain ⟨high, eh⟩ : ∃ high, high = f + w' := ⟨_, rfl⟩
      -- its days
      refine ⟨fun σ' H' => ∃ (x : Addr) (days : List Int), σ' = [some (.ref a0), some (.ref t), some (.int (0 + (i : Int))), some (.ref r), some (.int high), some (.ref x), v6, v7, v8, v9, v10] ∧ TapeAt H' t cl ns (100 * (i : Int) + 61) ∧ RuleAt K H' r f h .no ∧
        Taken f h high days ∧ H' x = some (.lst (days.map V.int)), ?_, ?_⟩
      · rw [eh]
        refine ⟨_, rfl, _, rfl, r, f, h, .no, 0, f + w', rfl, R5', ok, trivial, Int.le_refl _, by decide, fun q H6 s6 nq hq => ?_⟩
        refine ⟨200, rfl, q, _, rfl, SqL.of hq, fun x nx => ?_⟩
        have m2 := same_new (o := .lst (cutV ((daysOf f h .no 0 (f + w')).map V.int) none (some 200))) nx
        exact ⟨x, _, rfl, (T5.same (s6.trans m2)).le (by omega), R5'.same (s6.trans m2), ⟨hok, f2, by omega, by omega, rfl⟩, by rw [upd_same, cut200]⟩
      clear q1 q2 q3 R4 T4 T5 R5' bt5
      rintro σ' H7 ⟨x, days, rfl, T7, R7, Tk, hx⟩
      -- no day at all
      refine ⟨_, rfl, by show 0 ≤ sizeLine; decide, fun z nz => ?_⟩
      have m1 := same_new (o := .lst []) nz
      refine ⟨.list (days.map PyData.int), .list (([] : List Int).map PyData.int), dp_ints (SqL.of (m1 _ _ hx)), dp_ints (ns := []) (SqL.of upd_same), PySem.W.shaped_ints _, PySem.W.shaped_ints _, _, rfl, ?_⟩
      rw [eqv_list]
      have R8 := R7.same m1
      have T8 := T7.same m1
      have hx8 := m1 _ _ hx
      obtain ⟨mn, ln, v0, a, q1, q2, q3⟩ := id R8
      refine ite2 (fun g => ?_) (fun g => ?_)
      · have g : days = [] := of_decide_eq_true g
        refine ⟨_, rfl, _, rfl, r, _, _, .int f, rfl, rfl, q1, at_of (j := 0) rfl rfl, r, f, h, .no, f, rfl, R8, ok, by omega, fun H9 s9 => ?_⟩
        rw [q_none (by omega) Tk.fh Tk.hi (by rw [← Tk.eq]; exact g)]
        exact ⟨_, rfl, iteF ⟨(T8.same s9).le (by omega), _, _, _, _, _, _, _, _, _, rfl⟩⟩
      have dne : days ≠ [] := fun z => g (decide_eq_true z)
      refine ⟨_, rfl, t, cl, ns, 1000, 100 * (i : Int) + 61, rfl, by decide, by decide, T8, by omega, fun p H9 p0 p1 bt9 T9 => ?_⟩
      have R9 := R8.tape T8 bt9
      have hx9 := T8.lst bt9 hx8
      obtain ⟨mn, ln, v0, a, q1, q2, q3⟩ := id R9
      -- a place of months
      refine ⟨fun σ' H' => H' = H9 ∧ ∃ p' : Int, 0 ≤ p' ∧ p' ≤ 999 ∧ σ' = [some (.ref a0), some (.ref t), some (.int (0 + (i : Int))), some (.ref r), some (.int high), some (.ref x), some (.int p'), v7, v8, v9, v10], ?_, ?_⟩
      · obtain ⟨hd, hs, hq⟩ := q2.head
        refine ⟨_, rfl, r, _, _, .ref a, rfl, rfl, q1, at_of (j := 3) rfl rfl, a, _, _, .str hd, rfl, rfl, hq, at_of (j := 0) rfl rfl, rfl, _, rfl, ?_⟩
        refine ite2 (fun _ => ?_) (fun _ => ⟨rfl, p, p0, by omega, rfl⟩)
        exact ⟨_, rfl, _, _, rfl, rfl, by show (0 : Int) < 120; decide, rfl, p % 120, by omega, by omega, rfl⟩
      rintro σ' H' ⟨rfl, p', p'0, p'9, rfl⟩
      -- far out
      refine ⟨fun σ' H10 => Same H' H10 ∧ σ' = [some (.ref a0), some (.ref t), some (.int (0 + (i : Int))), some (.ref r), some (.int high), some (.ref x), some (.int p'), v7, v8, v9, v10], ?_, ?_⟩
      · refine ⟨_, rfl, rfl, _, rfl, ?_⟩
        rw [dec_int]
        refine ite2 (fun _ => ?_) (fun _ => ⟨Same.refl _, rfl⟩)
        refine ⟨_, rfl, _, rfl, r, p', f, high, h, rfl, R9, ok, p'0, p'9, fun z => dne (by rw [Tk.eq, z]; rfl), fun H10 s10 => ?_⟩
        exact ⟨_, rfl, s10, rfl⟩
      rintro σ' H10 ⟨s10, rfl⟩
      have T10 := T9.same s10
      have R10 := R9.same s10
      have hx10 := s10 _ _ hx9
      have lm : (days.map V.int).length = days.length := List.length_map _
      have l0 : 0 < days.length := List.length_pos_iff.mpr dne
      have l2 := Tk.len
      refine ⟨_, rfl, _, rfl, x, _, rfl, .inl (SqL.of hx10), t, cl, ns, _, 100 * (i : Int) + 62, rfl, by omega, by omega, T10.le (by omega), by omega, fun kk H11 k0 k1 bt11 T11 => ?_⟩
      obtain ⟨kn, rfl⟩ := Int.eq_ofNat_of_zero_le k0
      have kl : kn < days.length := by omega
      have R11 := R10.tape T10 bt11
      have hx11 := T10.lst bt11 hx10
      obtain ⟨d, ed⟩ : ∃ d, days[kn]? = some d := ⟨_, List.getElem?_eq_getElem kl⟩
      obtain ⟨l, el, al⟩ := last_of dne
      obtain ⟨dD, df, dh, dc⟩ := Tk.get ed
      obtain ⟨lD, lf, lh, lc⟩ := Tk.get el
      have ft := Tk.far_t ed
      have fu := Tk.far_u ed
      have hi9 := Tk.hi
      clear T2 T7 R7 T8 R8 T9 R9 T10 R10 hx hx8 hx9 hx10 bt9 bt11 q1 q2 q3
      obtain ⟨mn, ln, v0, a, q1, q2, q3⟩ := id R11
      -- counted
      refine ⟨fun σ' H' => Same H11 H' ∧ ∃ c : Addr, RuleAt K H' c f h (.times ((kn : Int) + 1)) ∧ σ' = [some (.ref a0), some (.ref t), some (.int (0 + (i : Int))), some (.ref r), some (.int high), some (.ref x), some (.int p'), some (.int (kn : Int)), some (.ref c), v9, v10], ?_, ?_⟩
      · refine ⟨_, rfl, 4, rfl, r, _, rfl, q1, fun z => absurd z.2 (by show ¬ ((4 : Nat) = 5); decide), fun c nc => ?_⟩
        rw [cut4]
        have m1 := same_new (o := .tup [.int f, mn, ln, .ref a]) nc
        refine ⟨_, rfl, _, _, rfl, rfl, by show 2 ≤ sizeLine; decide, fun y ny => ?_⟩
        have m2 := same_new (o := .tup [.str "times", .int ((kn : Int) + 1)]) ny
        refine ⟨by show 1 ≤ sizeLine; decide, fun u nu => ?_⟩
        have m3 := same_new (o := .tup [.ref y]) nu
        refine ⟨c, u, _, _, rfl, rfl, SqT.of (m3 _ _ (m2 _ _ upd_same)), SqT.of upd_same, List.cons_ne_nil _ _, by show 5 ≤ sizeLine; decide, fun z => (nomatch z), fun _ g ng => ?_⟩
        have m4 := same_new (o := .tup ([.int f, mn, ln, .ref a] ++ [.ref y])) ng
        have m := ((m1.trans m2).trans m3).trans m4
        exact ⟨m, g, ⟨mn, ln, .ref y, a, SqT.of upd_same, q2.same m, y, rfl, SqT.of (m4 _ _ (m3 _ _ upd_same))⟩, rfl⟩
      rintro σ' H12 ⟨s12, c, RC, rfl⟩
      have hx12 := s12 _ _ hx11
      have q1b := Same.tup s12 q1
      have q2b := q2.same s12
      -- ended
      refine ⟨fun σ' H' => Same H12 H' ∧ ∃ c2 : Addr, RuleAt K H' c2 f h (.upto d) ∧ σ' = [some (.ref a0), some (.ref t), some (.int (0 + (i : Int))), some (.ref r), some (.int high), some (.ref x), some (.int p'), some (.int (kn : Int)), some (.ref c), some (.ref c2), v10], ?_, ?_⟩
      · refine ⟨_, rfl, 4, rfl, r, _, rfl, q1b, fun z => absurd z.2 (by show ¬ ((4 : Nat) = 5); decide), fun c nc => ?_⟩
        rw [cut4]
        have m1 := same_new (o := .tup [.int f, mn, ln, .ref a]) nc
        refine ⟨_, rfl, _, rfl, x, _, _, .int d, rfl, rfl, SqL.of (m1 _ _ hx12), at_of (j := kn) rfl (mget ed), by show 2 ≤ sizeLine; decide, fun y ny => ?_⟩
        have m2 := same_new (o := .tup [.str "until", .int d]) ny
        refine ⟨by show 1 ≤ sizeLine; decide, fun u nu => ?_⟩
        have m3 := same_new (o := .tup [.ref y]) nu
        refine ⟨c, u, _, _, rfl, rfl, SqT.of (m3 _ _ (m2 _ _ upd_same)), SqT.of upd_same, List.cons_ne_nil _ _, by show 5 ≤ sizeLine; decide, fun z => (nomatch z), fun _ g ng => ?_⟩
        have m4 := same_new (o := .tup ([.int f, mn, ln, .ref a] ++ [.ref y])) ng
        have m := ((m1.trans m2).trans m3).trans m4
        exact ⟨m, g, ⟨mn, ln, .ref y, a, SqT.of upd_same, q2b.same m, y, rfl, SqT.of (m4 _ _ (m3 _ _ upd_same))⟩, rfl⟩
      rintro σ' H13 ⟨s13, c2, RE, rfl⟩
      have RC3 := RC.same s13
      have hx13 := s13 _ _ hx12
      have s1113 := s12.trans s13
      -- the days of both
      refine ⟨_, rfl, _, rfl, c, f, h, .times ((kn : Int) + 1), 0, high, rfl, RC3, ok, ft.eok, Int.le_refl _, by decide, fun q J1 t1 nq hq => ?_⟩
      rw [Tk.days_t ed] at hq
      refine ⟨_, rfl, _, rfl, _, _, rfl, rfl, (kn : Int) + 1, rfl, x, _, rfl, SqL.of (t1 _ _ hx13), fun z nz => ?_⟩
      have m1 := same_new (o := .lst (cutV (days.map V.int) none (some ((kn : Int) + 1)))) nz
      refine ⟨.list ((days.take (kn + 1)).map PyData.int), .list ((days.take (kn + 1)).map PyData.int), dp_ints (SqL.of (m1 _ _ hq)), dp_ints (SqL.of (by rw [upd_same, cutTm])), PySem.W.shaped_ints _, PySem.W.shaped_ints _, _, rfl, ?_⟩
      rw [eqv_list, decide_eq_true rfl]
      have u1 := t1.trans m1
      refine iteF ⟨_, rfl, _, rfl, c2, f, h, .upto d, 0, high, rfl, RE.same u1, ok, fu.eok, Int.le_refl _, by decide, fun q J2 t2 nq hq => ?_⟩
      rw [Tk.days_u ed] at hq
      refine ⟨_, rfl, _, rfl, _, _, rfl, rfl, (kn : Int) + 1, rfl, x, _, rfl, SqL.of (t2 _ _ (u1 _ _ hx13)), fun z nz => ?_⟩
      have m2 := same_new (o := .lst (cutV (days.map V.int) none (some ((kn : Int) + 1)))) nz
      refine ⟨.list ((days.take (kn + 1)).map PyData.int), .list ((days.take (kn + 1)).map PyData.int), dp_ints (SqL.of (m2 _ _ hq)), dp_ints (SqL.of (by rw [upd_same, cutTm])), PySem.W.shaped_ints _, PySem.W.shaped_ints _, _, rfl, ?_⟩
      rw [eqv_list, decide_eq_true rfl]
      have u2 := (u1.trans t2).trans m2
      -- the last days of both, none behind
      refine iteF ⟨_, rfl, c, f, h, .times ((kn : Int) + 1), rfl, RC3.same u2, ok, ft.eok, fun J3 t3 => ?_⟩
      rw [ft.last]
      have u3 := u2.trans t3
      refine ⟨_, rfl, c2, f, h, .upto d, rfl, RE.same u3, ok, fu.eok, fun J4 t4 => ?_⟩
      rw [fu.last]
      have u4 := u3.trans t4
      refine ⟨by show 2 ≤ sizeLine; decide, fun z nz => ?_⟩
      have m3 := same_new (o := .lst [.int d, .int d]) nz
      have u5 := u4.trans m3
      refine ⟨_, rfl, _, rfl, x, _, _, .int d, rfl, rfl, SqL.of (u5 _ _ hx13), at_of (j := kn) rfl (mget ed), _, rfl, _, rfl, x, _, _, .int d, rfl, rfl, SqL.of (u5 _ _ hx13), at_of (j := kn) rfl (mget ed), by show 2 ≤ sizeLine; decide, fun y ny => ?_⟩
      have m4 := same_new (o := .lst [.int d, .int d]) ny
      refine ⟨.list (([d, d] : List Int).map PyData.int), .list (([d, d] : List Int).map PyData.int), dp_ints (ns := [d, d]) (SqL.of (m4 _ _ upd_same)), dp_ints (ns := [d, d]) (SqL.of upd_same), PySem.W.shaped_ints _, PySem.W.shaped_ints _, _, rfl, ?_⟩
      rw [eqv_list, decide_eq_true rfl]
      have u6 := u5.trans m4
      refine iteF ⟨_, rfl, _, rfl, _, _, rfl, rfl, c, f, h, .times ((kn : Int) + 1), (kn : Int) + 1, rfl, RC3.same u6, ok, ft.eok, by omega, fun J5 t5 => ?_⟩
      rw [ft.next]
      refine ⟨rfl, _, rfl, iteF ?_⟩
      have u7 := u6.trans t5
      have hx5 := u7 _ _ hx13
      have q1c := Same.tup (s1113.trans u7) q1
      have q2c := q2.same (s1113.trans u7)
      have T5 := T11.same (s1113.trans u7)
      have v0n : v0 = .non := q3
      subst v0n
      -- begun late
      refine ⟨fun σ' H' => Same J5 H' ∧ ∃ g : Addr, RuleAt K H' g d h .no ∧ σ' = [some (.ref a0), some (.ref t), some (.int (0 + (i : Int))), some (.ref r), some (.int high), some (.ref x), some (.int p'), some (.int (kn : Int)), some (.ref c), some (.ref c2), some (.ref g)], ?_, ?_⟩
      · refine ⟨_, rfl, _, rfl, x, _, _, .int d, rfl, rfl, SqL.of hx5, at_of (j := kn) rfl (mget ed), by show 1 ≤ sizeLine; decide, fun y ny => ?_⟩
        have m1 := same_new (o := .tup [.int d]) ny
        refine ⟨_, rfl, 1, rfl, r, _, rfl, Same.tup m1 q1c, fun z => absurd z.1 (by show ¬ ((1 : Nat) = 0); decide), fun c nc => ?_⟩
        rw [cut1]
        have m2 := same_new (o := .tup [mn, ln, .ref a, .non]) nc
        refine ⟨y, c, _, _, rfl, rfl, SqT.of (m2 _ _ upd_same), SqT.of upd_same, List.cons_ne_nil _ _, by show 5 ≤ sizeLine; decide, fun z => (nomatch z), fun _ g ng => ?_⟩
        have m3 := same_new (o := .tup ([.int d] ++ [mn, ln, .ref a, .non])) ng
        have m := (m1.trans m2).trans m3
        exact ⟨m, g, ⟨mn, ln, .non, a, SqT.of upd_same, q2c.same m, rfl⟩, rfl⟩
      rintro σ' L1 ⟨s14, g, RG, rfl⟩
      have hxL := s14 _ _ hx5
      have TL := T5.same s14
      have okd : ROk d h := ⟨by omega, by omega, hok⟩
      refine ⟨_, rfl, _, rfl, 1, rfl, x, _, _, .int l, rfl, rfl, SqL.of hxL, al, g, d, h, .no, 0, l, rfl, RG, okd, trivial, Int.le_refl _, by decide, fun q L2 y2 nq hq => ?_⟩
      rw [Tk.late_days ed el] at hq
      refine ⟨_, rfl, _, rfl, (kn : Int), rfl, x, _, rfl, SqL.of (y2 _ _ hxL), fun z nz => ?_⟩
      have m5 := same_new (o := .lst (cutV (days.map V.int) (some (kn : Int)) none)) nz
      refine ⟨.list ((days.drop kn).map PyData.int), .list ((days.drop kn).map PyData.int), dp_ints (SqL.of (m5 _ _ hq)), dp_ints (SqL.of (by rw [upd_same, cutDm])), PySem.W.shaped_ints _, PySem.W.shaped_ints _, _, rfl, ?_⟩
      rw [eqv_list, decide_eq_true rfl]
      have y3 := y2.trans m5
      refine iteF ⟨_, rfl, _, rfl, 1, rfl, x, _, _, .int l, rfl, rfl, SqL.of (y3 _ _ hxL), al, g, d, h, .no, l, rfl, RG.same y3, okd, by omega, fun L3 y4 => ?_⟩
      rw [Tk.late_place ed el]
      have y5 := y3.trans y4
      refine ⟨_, rfl, x, _, rfl, .inl (SqL.of (y5 _ _ hxL)), _, _, rfl, rfl, _, rfl, _, _, rfl, rfl, rfl, _, rfl, ?_⟩
      rw [lm]
      rw [eqO]
      refine iteF ⟨_, rfl, _, _, rfl, rfl, _, rfl, ?_⟩
      refine ite2 (fun gk => ?_) (fun gk => ?_)
      · have gk : 0 < (kn : Int) := of_decide_eq_true gk
        obtain ⟨e1, ee1⟩ : ∃ e1, days[kn - 1]? = some e1 := ⟨_, List.getElem?_eq_getElem (show kn - 1 < days.length by omega)⟩
        obtain ⟨e0, ee0⟩ : ∃ e0, days[0]? = some e0 := ⟨_, List.getElem?_eq_getElem l0⟩
        have n1 := Tk.late_none ed ee1 (by omega)
        have n0 := Tk.late_none ed ee0 (by omega)
        refine ⟨_, rfl, _, rfl, _, rfl, _, _, rfl, rfl, x, _, _, .int e1, rfl, rfl, SqL.of (y5 _ _ hxL), at_of (j := kn - 1) (by omega) (mget ee1), g, d, h, .no, e1, rfl, RG.same y5, okd, by have := (Tk.get ee1).2.1; omega, fun L4 y6 => ?_⟩
        rw [n1.1]
        have y7 := y5.trans y6
        refine ⟨_, rfl, iteF ⟨_, rfl, _, rfl, x, _, _, .int e0, rfl, rfl, SqL.of (y7 _ _ hxL), at_of (j := 0) rfl (mget ee0), g, d, h, .no, e0, rfl, RG.same y7, okd, by have := (Tk.get ee0).2.1; omega, fun L5 y8 => ?_⟩⟩
        rw [n0.2]
        exact ⟨rfl, _, rfl, iteF ⟨(TL.same (y7.trans y8)).le (by omega), _, _, _, _, _, _, _, _, _, rfl⟩⟩
      · exact iteF ⟨(TL.same y5).le (by omega), _, _, _, _, _, _, _, _, _, rfl⟩
    · rintro σ H2 _
      exact k H2
end
end Gc

namespace Gc
open PySem PySem.Spec PyProof.Rows L2
/-! ### all together -/
theorem all_mk {l : PySem.W.OpenLaw} {w : World} {K : PySem.W.Frag} {h : Heap} {mg : Str → Option Value} {fa : Addr} (X : K.In h) (G : h.Ns mainGlobals mg) (hfa : mg "law" = some (.ref fa))
    {fx0 fx1 fx2 fx3 fx4 fx5 fx6 fx7 fx8 fx9 fx10 fx11 fx12 fx13 fx14 fx15 fx16 fx17 fx18 Co Cd Cw Cm Ct Ck fo0 fo1 fo2 fo3 fo4 fo5 fd0 fd1 fd2 fd3 fd4 fd5 fw0 fw1 fw2 fw3 fw4 fw5 fm0 fm1 fm2 fm4 fm5 fm6 ft0 ft1 fk0 fk1 aL : Addr}
    {odx0 anx0 : Option Addr} {slx0 : Array (Option Value)} {ocx0 kVx0 dcx0 pmx0 cdx0 ctx0 : Value}
    {odx1 anx1 : Option Addr} {slx1 : Array (Option Value)} {ocx1 kVx1 dcx1 pmx1 cdx1 ctx1 : Value}
    {odx2 anx2 : Option Addr} {slx2 : Array (Option Value)} {ocx2 kVx2 dcx2 pmx2 cdx2 ctx2 : Value}
    {odx3 anx3 : Option Addr} {slx3 : Array (Option Value)} {ocx3 kVx3 dcx3 pmx3 cdx3 ctx3 : Value}
    {odx4 anx4 : Option Addr} {slx4 : Array (Option Value)} {ocx4 kVx4 dcx4 pmx4 cdx4 ctx4 : Value}
    {odx5 anx5 : Option Addr} {slx5 : Array (Option Value)} {ocx5 kVx5 dcx5 pmx5 cdx5 ctx5 : Value}
    {odx6 anx6 : Option Addr} {slx6 : Array (Option Value)} {ocx6 kVx6 dcx6 pmx6 cdx6 ctx6 : Value}
    {odx7 anx7 : Option Addr} {slx7 : Array (Option Value)} {ocx7 kVx7 dcx7 pmx7 cdx7 ctx7 : Value}
    {odx8 anx8 : Option Addr} {slx8 : Array (Option Value)} {ocx8 kVx8 dcx8 pmx8 cdx8 ctx8 : Value}
    {odx9 anx9 : Option Addr} {slx9 : Array (Option Value)} {ocx9 kVx9 dcx9 pmx9 cdx9 ctx9 : Value}
    {odx10 anx10 : Option Addr} {slx10 : Array (Option Value)} {ocx10 kVx10 dcx10 pmx10 cdx10 ctx10 : Value}
    {odx11 anx11 : Option Addr} {slx11 : Array (Option Value)} {ocx11 kVx11 dcx11 pmx11 cdx11 ctx11 : Value}
    {odx12 anx12 : Option Addr} {slx12 : Array (Option Value)} {ocx12 kVx12 dcx12 pmx12 cdx12 ctx12 : Value}
    {odx13 anx13 : Option Addr} {slx13 : Array (Option Value)} {ocx13 kVx13 dcx13 pmx13 cdx13 ctx13 : Value}
    {odx14 anx14 : Option Addr} {slx14 : Array (Option Value)} {ocx14 kVx14 dcx14 pmx14 cdx14 ctx14 : Value}
    {odx15 anx15 : Option Addr} {slx15 : Array (Option Value)} {ocx15 kVx15 dcx15 pmx15 cdx15 ctx15 : Value}
    {odx16 anx16 : Option Addr} {slx16 : Array (Option Value)} {ocx16 kVx16 dcx16 pmx16 cdx16 ctx16 : Value}
    {odx17 anx17 : Option Addr} {slx17 : Array (Option Value)} {ocx17 kVx17 dcx17 pmx17 cdx17 ctx17 : Value}
    {odx18 anx18 : Option Addr} {slx18 : Array (Option Value)} {ocx18 kVx18 dcx18 pmx18 cdx18 ctx18 : Value}
    {odo0 ano0 : Option Addr} {slo0 : Array (Option Value)} {oco0 kVo0 dco0 pmo0 cdo0 cto0 : Value}
    {odo1 ano1 : Option Addr} {slo1 : Array (Option Value)} {oco1 kVo1 dco1 pmo1 cdo1 cto1 : Value}
    {odo2 ano2 : Option Addr} {slo2 : Array (Option Value)} {oco2 kVo2 dco2 pmo2 cdo2 cto2 : Value}
    {odo3 ano3 : Option Addr} {slo3 : Array (Option Value)} {oco3 kVo3 dco3 pmo3 cdo3 cto3 : Value}
    {odo4 ano4 : Option Addr} {slo4 : Array (Option Value)} {oco4 kVo4 dco4 pmo4 cdo4 cto4 : Value}
    {odo5 ano5 : Option Addr} {slo5 : Array (Option Value)} {oco5 kVo5 dco5 pmo5 cdo5 cto5 : Value}
    {odd0 and0 : Option Addr} {sld0 : Array (Option Value)} {ocd0 kVd0 dcd0 pmd0 cdd0 ctd0 : Value}
    {odd1 and1 : Option Addr} {sld1 : Array (Option Value)} {ocd1 kVd1 dcd1 pmd1 cdd1 ctd1 : Value}
    {odd2 and2 : Option Addr} {sld2 : Array (Option Value)} {ocd2 kVd2 dcd2 pmd2 cdd2 ctd2 : Value}
    {odd3 and3 : Option Addr} {sld3 : Array (Option Value)} {ocd3 kVd3 dcd3 pmd3 cdd3 ctd3 : Value}
    {odd4 and4 : Option Addr} {sld4 : Array (Option Value)} {ocd4 kVd4 dcd4 pmd4 cdd4 ctd4 : Value}
    {odd5 and5 : Option Addr} {sld5 : Array (Option Value)} {ocd5 kVd5 dcd5 pmd5 cdd5 ctd5 : Value}
    {odw0 anw0 : Option Addr} {slw0 : Array (Option Value)} {ocw0 kVw0 dcw0 pmw0 cdw0 ctw0 : Value}
    {odw1 anw1 : Option Addr} {slw1 : Array (Option Value)} {ocw1 kVw1 dcw1 pmw1 cdw1 ctw1 : Value}
    {odw2 anw2 : Option Addr} {slw2 : Array (Option Value)} {ocw2 kVw2 dcw2 pmw2 cdw2 ctw2 : Value}
    {odw3 anw3 : Option Addr} {slw3 : Array (Option Value)} {ocw3 kVw3 dcw3 pmw3 cdw3 ctw3 : Value}
    {odw4 anw4 : Option Addr} {slw4 : Array (Option Value)} {ocw4 kVw4 dcw4 pmw4 cdw4 ctw4 : Value}
    {odw5 anw5 : Option Addr} {slw5 : Array (Option Value)} {ocw5 kVw5 dcw5 pmw5 cdw5 ctw5 : Value}
    {odm0 anm0 : Option Addr} {slm0 : Array (Option Value)} {ocm0 kVm0 dcm0 pmm0 cdm0 ctm0 : Value}
    {odm1 anm1 : Option Addr} {slm1 : Array (Option Value)} {ocm1 kVm1 dcm1 pmm1 cdm1 ctm1 : Value}
    {odm2 anm2 : Option Addr} {slm2 : Array (Option Value)} {ocm2 kVm2 dcm2 pmm2 cdm2 ctm2 : Value}
    {odm4 anm4 : Option Addr} {slm4 : Array (Option Value)} {ocm4 kVm4 dcm4 pmm4 cdm4 ctm4 : Value}
    {odm5 anm5 : Option Addr} {slm5 : Array (Option Value)} {ocm5 kVm5 dcm5 pmm5 cdm5 ctm5 : Value}
    {odm6 anm6 : Option Addr} {slm6 : Array (Option Value)} {ocm6 kVm6 dcm6 pmm6 cdm6 ctm6 : Value}
    {odt0 ant0 : Option Addr} {slt0 : Array (Option Value)} {oct0 kVt0 dct0 pmt0 cdt0 ctt0 : Value}
    {odt1 ant1 : Option Addr} {slt1 : Array (Option Value)} {oct1 kVt1 dct1 pmt1 cdt1 ctt1 : Value}
    {odk0 ank0 : Option Addr} {slk0 : Array (Option Value)} {ock0 kVk0 dck0 pmk0 cdk0 ctk0 : Value}
    {odk1 ank1 : Option Addr} {slk1 : Array (Option Value)} {ock1 kVk1 dck1 pmk1 cdk1 ctk1 : Value}
    {tfy tld : Tok} {oL : Obj} {itsL : Array Value} {nL : Nat}
    (ax0 : PySem.W.nsIn K mainGlobals "is_leap" = some (some (.ref fx0)))
    (lx0 : K.lookup fx0 = some ⟨ocx0, odx0, .func (PySem.W.fnOf "is_leap" "is_leap" (defArgs sLeap) (defBody sLeap) (defScope sLeap) .none kVx0 dcx0 pmx0 anx0 cdx0 ctx0), slx0⟩)
    (cx0 : PySem.W.codeIn K cdx0 "is_leap" = true)
    (kx0 : PySem.W.keepIn K (.ref fx0) = true)
    (ax1 : PySem.W.nsIn K mainGlobals "days_ahead" = some (some (.ref fx1)))
    (lx1 : K.lookup fx1 = some ⟨ocx1, odx1, .func (PySem.W.fnOf "days_ahead" "days_ahead" (defArgs sAhead) (defBody sAhead) (defScope sAhead) .none kVx1 dcx1 pmx1 anx1 cdx1 ctx1), slx1⟩)
    (cx1 : PySem.W.codeIn K cdx1 "days_ahead" = true)
    (kx1 : PySem.W.keepIn K (.ref fx1) = true)
    (ax2 : PySem.W.nsIn K mainGlobals "month_length" = some (some (.ref fx2)))
    (lx2 : K.lookup fx2 = some ⟨ocx2, odx2, .func (PySem.W.fnOf "month_length" "month_length" (defArgs sMonLen) (defBody sMonLen) (defScope sMonLen) .none kVx2 dcx2 pmx2 anx2 cdx2 ctx2), slx2⟩)
    (cx2 : PySem.W.codeIn K cdx2 "month_length" = true)
    (kx2 : PySem.W.keepIn K (.ref fx2) = true)
    (ax3 : PySem.W.nsIn K mainGlobals "first_of" = some (some (.ref fx3)))
    (lx3 : K.lookup fx3 = some ⟨ocx3, odx3, .func (PySem.W.fnOf "first_of" "first_of" (defArgs sFirst) (defBody sFirst) (defScope sFirst) .none kVx3 dcx3 pmx3 anx3 cdx3 ctx3), slx3⟩)
    (cx3 : PySem.W.codeIn K cdx3 "first_of" = true)
    (kx3 : PySem.W.keepIn K (.ref fx3) = true)
    (ax4 : PySem.W.nsIn K mainGlobals "month_of" = some (some (.ref fx4)))
    (lx4 : K.lookup fx4 = some ⟨ocx4, odx4, .func (PySem.W.fnOf "month_of" "month_of" (defArgs sMonth) (defBody sMonth) (defScope sMonth) .none kVx4 dcx4 pmx4 anx4 cdx4 ctx4), slx4⟩)
    (cx4 : PySem.W.codeIn K cdx4 "month_of" = true)
    (kx4 : PySem.W.keepIn K (.ref fx4) = true)
    (ax5 : PySem.W.nsIn K mainGlobals "weekday" = some (some (.ref fx5)))
    (lx5 : K.lookup fx5 = some ⟨ocx5, odx5, .func (PySem.W.fnOf "weekday" "weekday" (defArgs sWeekday) (defBody sWeekday) (defScope sWeekday) .none kVx5 dcx5 pmx5 anx5 cdx5 ctx5), slx5⟩)
    (cx5 : PySem.W.codeIn K cdx5 "weekday" = true)
    (kx5 : PySem.W.keepIn K (.ref fx5) = true)
    (ax6 : PySem.W.nsIn K mainGlobals "coming_of" = some (some (.ref fx6)))
    (lx6 : K.lookup fx6 = some ⟨ocx6, odx6, .func (PySem.W.fnOf "coming_of" "coming_of" (defArgs sComing) (defBody sComing) (defScope sComing) .none kVx6 dcx6 pmx6 anx6 cdx6 ctx6), slx6⟩)
    (cx6 : PySem.W.codeIn K cdx6 "coming_of" = true)
    (kx6 : PySem.W.keepIn K (.ref fx6) = true)
    (ax7 : PySem.W.nsIn K mainGlobals "limit_of" = some (some (.ref fx7)))
    (lx7 : K.lookup fx7 = some ⟨ocx7, odx7, .func (PySem.W.fnOf "limit_of" "limit_of" (defArgs sLimit) (defBody sLimit) (defScope sLimit) .none kVx7 dcx7 pmx7 anx7 cdx7 ctx7), slx7⟩)
    (cx7 : PySem.W.codeIn K cdx7 "limit_of" = true)
    (kx7 : PySem.W.keepIn K (.ref fx7) = true)
    (ax8 : PySem.W.nsIn K mainGlobals "days_of" = some (some (.ref fx8)))
    (lx8 : K.lookup fx8 = some ⟨ocx8, odx8, .func (PySem.W.fnOf "days_of" "days_of" (defArgs sDaysOf) (defBody sDaysOf) (defScope sDaysOf) .none kVx8 dcx8 pmx8 anx8 cdx8 ctx8), slx8⟩)
    (cx8 : PySem.W.codeIn K cdx8 "days_of" = true)
    (kx8 : PySem.W.keepIn K (.ref fx8) = true)
    (ax9 : PySem.W.nsIn K mainGlobals "is_day" = some (some (.ref fx9)))
    (lx9 : K.lookup fx9 = some ⟨ocx9, odx9, .func (PySem.W.fnOf "is_day" "is_day" (defArgs sIsDay) (defBody sIsDay) (defScope sIsDay) .none kVx9 dcx9 pmx9 anx9 cdx9 ctx9), slx9⟩)
    (cx9 : PySem.W.codeIn K cdx9 "is_day" = true)
    (kx9 : PySem.W.keepIn K (.ref fx9) = true)
    (ax10 : PySem.W.nsIn K mainGlobals "place_of" = some (some (.ref fx10)))
    (lx10 : K.lookup fx10 = some ⟨ocx10, odx10, .func (PySem.W.fnOf "place_of" "place_of" (defArgs sPlaceOf) (defBody sPlaceOf) (defScope sPlaceOf) .none kVx10 dcx10 pmx10 anx10 cdx10 ctx10), slx10⟩)
    (cx10 : PySem.W.codeIn K cdx10 "place_of" = true)
    (kx10 : PySem.W.keepIn K (.ref fx10) = true)
    (ax11 : PySem.W.nsIn K mainGlobals "day_at" = some (some (.ref fx11)))
    (lx11 : K.lookup fx11 = some ⟨ocx11, odx11, .func (PySem.W.fnOf "day_at" "day_at" (defArgs sDayAt) (defBody sDayAt) (defScope sDayAt) .none kVx11 dcx11 pmx11 anx11 cdx11 ctx11), slx11⟩)
    (cx11 : PySem.W.codeIn K cdx11 "day_at" = true)
    (kx11 : PySem.W.keepIn K (.ref fx11) = true)
    (ax12 : PySem.W.nsIn K mainGlobals "last_day" = some (some (.ref fx12)))
    (lx12 : K.lookup fx12 = some ⟨ocx12, odx12, .func (PySem.W.fnOf "last_day" "last_day" (defArgs sLastDay) (defBody sLastDay) (defScope sLastDay) .none kVx12 dcx12 pmx12 anx12 cdx12 ctx12), slx12⟩)
    (cx12 : PySem.W.codeIn K cdx12 "last_day" = true)
    (kx12 : PySem.W.keepIn K (.ref fx12) = true)
    (ax13 : PySem.W.nsIn K mainGlobals "_law_tape" = some (some (.ref fx13)))
    (lx13 : K.lookup fx13 = some ⟨ocx13, odx13, .func (PySem.W.fnOf "_law_tape" "_law_tape" (defArgs sTape) (defBody sTape) (defScope sTape) .none kVx13 dcx13 pmx13 anx13 cdx13 ctx13), slx13⟩)
    (cx13 : PySem.W.codeIn K cdx13 "_law_tape" = true)
    (kx13 : PySem.W.keepIn K (.ref fx13) = true)
    (ax14 : PySem.W.nsIn K mainGlobals "_law_draw" = some (some (.ref fx14)))
    (lx14 : K.lookup fx14 = some ⟨ocx14, odx14, .func (PySem.W.fnOf "_law_draw" "_law_draw" (defArgs sDraw) (defBody sDraw) (defScope sDraw) .none kVx14 dcx14 pmx14 anx14 cdx14 ctx14), slx14⟩)
    (cx14 : PySem.W.codeIn K cdx14 "_law_draw" = true)
    (kx14 : PySem.W.keepIn K (.ref fx14) = true)
    (ax15 : PySem.W.nsIn K mainGlobals "_law_how" = some (some (.ref fx15)))
    (lx15 : K.lookup fx15 = some ⟨ocx15, odx15, .func (PySem.W.fnOf "_law_how" "_law_how" (defArgs sHow) (defBody sHow) (defScope sHow) .none kVx15 dcx15 pmx15 anx15 cdx15 ctx15), slx15⟩)
    (cx15 : PySem.W.codeIn K cdx15 "_law_how" = true)
    (kx15 : PySem.W.keepIn K (.ref fx15) = true)
    (ax16 : PySem.W.nsIn K mainGlobals "_law_rule" = some (some (.ref fx16)))
    (lx16 : K.lookup fx16 = some ⟨ocx16, odx16, .func (PySem.W.fnOf "_law_rule" "_law_rule" (defArgs sRule) (defBody sRule) (defScope sRule) .none kVx16 dcx16 pmx16 anx16 cdx16 ctx16), slx16⟩)
    (cx16 : PySem.W.codeIn K cdx16 "_law_rule" = true)
    (kx16 : PySem.W.keepIn K (.ref fx16) = true)
    (ax17 : PySem.W.nsIn K mainGlobals "_law_far_right" = some (some (.ref fx17)))
    (lx17 : K.lookup fx17 = some ⟨ocx17, odx17, .func (PySem.W.fnOf "_law_far_right" "_law_far_right" (defArgs sFar) (defBody sFar) (defScope sFar) .none kVx17 dcx17 pmx17 anx17 cdx17 ctx17), slx17⟩)
    (cx17 : PySem.W.codeIn K cdx17 "_law_far_right" = true)
    (kx17 : PySem.W.keepIn K (.ref fx17) = true)
    (ax18 : PySem.W.nsIn K mainGlobals "law" = some (some (.ref fx18)))
    (lx18 : K.lookup fx18 = some ⟨ocx18, odx18, .func (PySem.W.fnOf "law" "law" (defArgs sLaw) (defBody sLaw) (defScope sLaw) .none kVx18 dcx18 pmx18 anx18 cdx18 ctx18), slx18⟩)
    (cx18 : PySem.W.codeIn K cdx18 "law" = true)
    (kx18 : PySem.W.keepIn K (.ref fx18) = true)
    (no : PySem.W.nsIn K mainGlobals "Once" = some (some (.ref Co)))
    (nd : PySem.W.nsIn K mainGlobals "Days" = some (some (.ref Cd)))
    (nw : PySem.W.nsIn K mainGlobals "Weeks" = some (some (.ref Cw)))
    (nm : PySem.W.nsIn K mainGlobals "Months" = some (some (.ref Cm)))
    (nt : PySem.W.nsIn K mainGlobals "Dates" = some (some (.ref Ct)))
    (nk : PySem.W.nsIn K mainGlobals "Weekdays" = some (some (.ref Ck)))
    (ao0 : PySem.W.findIn K (.ref Co) "__init__" = some (some (.ref fo0)))
    (io0 : PySem.W.isFn K (.ref fo0) = true)
    (lo0 : K.lookup fo0 = some ⟨oco0, odo0, .func (PySem.W.fnOf "__init__" "Once.__init__" (defArgs (sOnce 0)) (defBody (sOnce 0)) (defScope (sOnce 0)) .none kVo0 dco0 pmo0 ano0 cdo0 cto0), slo0⟩)
    (co0 : PySem.W.codeIn K cdo0 "Once.__init__" = true)
    (ko0 : PySem.W.keepIn K (.ref fo0) = true)
    (ao1 : PySem.W.findIn K (.ref Co) "stretch_of" = some (some (.ref fo1)))
    (io1 : PySem.W.isFn K (.ref fo1) = true)
    (lo1 : K.lookup fo1 = some ⟨oco1, odo1, .func (PySem.W.fnOf "stretch_of" "Once.stretch_of" (defArgs (sOnce 1)) (defBody (sOnce 1)) (defScope (sOnce 1)) .none kVo1 dco1 pmo1 ano1 cdo1 cto1), slo1⟩)
    (co1 : PySem.W.codeIn K cdo1 "Once.stretch_of" = true)
    (ko1 : PySem.W.keepIn K (.ref fo1) = true)
    (ao2 : PySem.W.findIn K (.ref Co) "begins" = some (some (.ref fo2)))
    (io2 : PySem.W.isFn K (.ref fo2) = true)
    (lo2 : K.lookup fo2 = some ⟨oco2, odo2, .func (PySem.W.fnOf "begins" "Once.begins" (defArgs (sOnce 2)) (defBody (sOnce 2)) (defScope (sOnce 2)) .none kVo2 dco2 pmo2 ano2 cdo2 cto2), slo2⟩)
    (co2 : PySem.W.codeIn K cdo2 "Once.begins" = true)
    (ko2 : PySem.W.keepIn K (.ref fo2) = true)
    (ao3 : PySem.W.findIn K (.ref Co) "days_in" = some (some (.ref fo3)))
    (io3 : PySem.W.isFn K (.ref fo3) = true)
    (lo3 : K.lookup fo3 = some ⟨oco3, odo3, .func (PySem.W.fnOf "days_in" "Once.days_in" (defArgs (sOnce 3)) (defBody (sOnce 3)) (defScope (sOnce 3)) .none kVo3 dco3 pmo3 ano3 cdo3 cto3), slo3⟩)
    (co3 : PySem.W.codeIn K cdo3 "Once.days_in" = true)
    (ko3 : PySem.W.keepIn K (.ref fo3) = true)
    (ao4 : PySem.W.findIn K (.ref Co) "ahead_of" = some (some (.ref fo4)))
    (io4 : PySem.W.isFn K (.ref fo4) = true)
    (lo4 : K.lookup fo4 = some ⟨oco4, odo4, .func (PySem.W.fnOf "ahead_of" "Once.ahead_of" (defArgs (sOnce 4)) (defBody (sOnce 4)) (defScope (sOnce 4)) .none kVo4 dco4 pmo4 ano4 cdo4 cto4), slo4⟩)
    (co4 : PySem.W.codeIn K cdo4 "Once.ahead_of" = true)
    (ko4 : PySem.W.keepIn K (.ref fo4) = true)
    (ao5 : PySem.W.findIn K (.ref Co) "at_place" = some (some (.ref fo5)))
    (io5 : PySem.W.isFn K (.ref fo5) = true)
    (lo5 : K.lookup fo5 = some ⟨oco5, odo5, .func (PySem.W.fnOf "at_place" "Once.at_place" (defArgs (sOnce 5)) (defBody (sOnce 5)) (defScope (sOnce 5)) .none kVo5 dco5 pmo5 ano5 cdo5 cto5), slo5⟩)
    (co5 : PySem.W.codeIn K cdo5 "Once.at_place" = true)
    (ko5 : PySem.W.keepIn K (.ref fo5) = true)
    (ad0 : PySem.W.findIn K (.ref Cd) "__init__" = some (some (.ref fd0)))
    (id0 : PySem.W.isFn K (.ref fd0) = true)
    (ld0 : K.lookup fd0 = some ⟨ocd0, odd0, .func (PySem.W.fnOf "__init__" "Days.__init__" (defArgs (sDays 0)) (defBody (sDays 0)) (defScope (sDays 0)) .none kVd0 dcd0 pmd0 and0 cdd0 ctd0), sld0⟩)
    (cd0 : PySem.W.codeIn K cdd0 "Days.__init__" = true)
    (kd0 : PySem.W.keepIn K (.ref fd0) = true)
    (ad1 : PySem.W.findIn K (.ref Cd) "stretch_of" = some (some (.ref fd1)))
    (id1 : PySem.W.isFn K (.ref fd1) = true)
    (ld1 : K.lookup fd1 = some ⟨ocd1, odd1, .func (PySem.W.fnOf "stretch_of" "Days.stretch_of" (defArgs (sDays 1)) (defBody (sDays 1)) (defScope (sDays 1)) .none kVd1 dcd1 pmd1 and1 cdd1 ctd1), sld1⟩)
    (cd1 : PySem.W.codeIn K cdd1 "Days.stretch_of" = true)
    (kd1 : PySem.W.keepIn K (.ref fd1) = true)
    (ad2 : PySem.W.findIn K (.ref Cd) "begins" = some (some (.ref fd2)))
    (id2 : PySem.W.isFn K (.ref fd2) = true)
    (ld2 : K.lookup fd2 = some ⟨ocd2, odd2, .func (PySem.W.fnOf "begins" "Days.begins" (defArgs (sDays 2)) (defBody (sDays 2)) (defScope (sDays 2)) .none kVd2 dcd2 pmd2 and2 cdd2 ctd2), sld2⟩)
    (cd2 : PySem.W.codeIn K cdd2 "Days.begins" = true)
    (kd2 : PySem.W.keepIn K (.ref fd2) = true)
    (ad3 : PySem.W.findIn K (.ref Cd) "days_in" = some (some (.ref fd3)))
    (id3 : PySem.W.isFn K (.ref fd3) = true)
    (ld3 : K.lookup fd3 = some ⟨ocd3, odd3, .func (PySem.W.fnOf "days_in" "Days.days_in" (defArgs (sDays 3)) (defBody (sDays 3)) (defScope (sDays 3)) .none kVd3 dcd3 pmd3 and3 cdd3 ctd3), sld3⟩)
    (cd3 : PySem.W.codeIn K cdd3 "Days.days_in" = true)
    (kd3 : PySem.W.keepIn K (.ref fd3) = true)
    (ad4 : PySem.W.findIn K (.ref Cd) "ahead_of" = some (some (.ref fd4)))
    (id4 : PySem.W.isFn K (.ref fd4) = true)
    (ld4 : K.lookup fd4 = some ⟨ocd4, odd4, .func (PySem.W.fnOf "ahead_of" "Days.ahead_of" (defArgs (sDays 4)) (defBody (sDays 4)) (defScope (sDays 4)) .none kVd4 dcd4 pmd4 and4 cdd4 ctd4), sld4⟩)
    (cd4 : PySem.W.codeIn K cdd4 "Days.ahead_of" = true)
    (kd4 : PySem.W.keepIn K (.ref fd4) = true)
    (ad5 : PySem.W.findIn K (.ref Cd) "at_place" = some (some (.ref fd5)))
    (id5 : PySem.W.isFn K (.ref fd5) = true)
    (ld5 : K.lookup fd5 = some ⟨ocd5, odd5, .func (PySem.W.fnOf "at_place" "Days.at_place" (defArgs (sDays 5)) (defBody (sDays 5)) (defScope (sDays 5)) .none kVd5 dcd5 pmd5 and5 cdd5 ctd5), sld5⟩)
    (cd5 : PySem.W.codeIn K cdd5 "Days.at_place" = true)
    (kd5 : PySem.W.keepIn K (.ref fd5) = true)
    (aw0 : PySem.W.findIn K (.ref Cw) "__init__" = some (some (.ref fw0)))
    (iw0 : PySem.W.isFn K (.ref fw0) = true)
    (lw0 : K.lookup fw0 = some ⟨ocw0, odw0, .func (PySem.W.fnOf "__init__" "Weeks.__init__" (defArgs (sWeeks 0)) (defBody (sWeeks 0)) (defScope (sWeeks 0)) .none kVw0 dcw0 pmw0 anw0 cdw0 ctw0), slw0⟩)
    (cw0 : PySem.W.codeIn K cdw0 "Weeks.__init__" = true)
    (kw0 : PySem.W.keepIn K (.ref fw0) = true)
    (aw1 : PySem.W.findIn K (.ref Cw) "stretch_of" = some (some (.ref fw1)))
    (iw1 : PySem.W.isFn K (.ref fw1) = true)
    (lw1 : K.lookup fw1 = some ⟨ocw1, odw1, .func (PySem.W.fnOf "stretch_of" "Weeks.stretch_of" (defArgs (sWeeks 1)) (defBody (sWeeks 1)) (defScope (sWeeks 1)) .none kVw1 dcw1 pmw1 anw1 cdw1 ctw1), slw1⟩)
    (cw1 : PySem.W.codeIn K cdw1 "Weeks.stretch_of" = true)
    (kw1 : PySem.W.keepIn K (.ref fw1) = true)
    (aw2 : PySem.W.findIn K (.ref Cw) "begins" = some (some (.ref fw2)))
    (iw2 : PySem.W.isFn K (.ref fw2) = true)
    (lw2 : K.lookup fw2 = some ⟨ocw2, odw2, .func (PySem.W.fnOf "begins" "Weeks.begins" (defArgs (sWeeks 2)) (defBody (sWeeks 2)) (defScope (sWeeks 2)) .none kVw2 dcw2 pmw2 anw2 cdw2 ctw2), slw2⟩)
    (cw2 : PySem.W.codeIn K cdw2 "Weeks.begins" = true)
    (kw2 : PySem.W.keepIn K (.ref fw2) = true)
    (aw3 : PySem.W.findIn K (.ref Cw) "days_in" = some (some (.ref fw3)))
    (iw3 : PySem.W.isFn K (.ref fw3) = true)
    (lw3 : K.lookup fw3 = some ⟨ocw3, odw3, .func (PySem.W.fnOf "days_in" "Weeks.days_in" (defArgs (sWeeks 3)) (defBody (sWeeks 3)) (defScope (sWeeks 3)) .none kVw3 dcw3 pmw3 anw3 cdw3 ctw3), slw3⟩)
    (cw3 : PySem.W.codeIn K cdw3 "Weeks.days_in" = true)
    (kw3 : PySem.W.keepIn K (.ref fw3) = true)
    (aw4 : PySem.W.findIn K (.ref Cw) "ahead_of" = some (some (.ref fw4)))
    (iw4 : PySem.W.isFn K (.ref fw4) = true)
    (lw4 : K.lookup fw4 = some ⟨ocw4, odw4, .func (PySem.W.fnOf "ahead_of" "Weeks.ahead_of" (defArgs (sWeeks 4)) (defBody (sWeeks 4)) (defScope (sWeeks 4)) .none kVw4 dcw4 pmw4 anw4 cdw4 ctw4), slw4⟩)
    (cw4 : PySem.W.codeIn K cdw4 "Weeks.ahead_of" = true)
    (kw4 : PySem.W.keepIn K (.ref fw4) = true)
    (aw5 : PySem.W.findIn K (.ref Cw) "at_place" = some (some (.ref fw5)))
    (iw5 : PySem.W.isFn K (.ref fw5) = true)
    (lw5 : K.lookup fw5 = some ⟨ocw5, odw5, .func (PySem.W.fnOf "at_place" "Weeks.at_place" (defArgs (sWeeks 5)) (defBody (sWeeks 5)) (defScope (sWeeks 5)) .none kVw5 dcw5 pmw5 anw5 cdw5 ctw5), slw5⟩)
    (cw5 : PySem.W.codeIn K cdw5 "Weeks.at_place" = true)
    (kw5 : PySem.W.keepIn K (.ref fw5) = true)
    (am0 : PySem.W.findCls K (.ref Cm) (.type "type") "__init__" = some (.val (.ref fm0)))
    (im0 : PySem.W.isFn K (.ref fm0) = true)
    (lm0 : K.lookup fm0 = some ⟨ocm0, odm0, .func (PySem.W.fnOf "__init__" "Months.__init__" (defArgs (sMonths 0)) (defBody (sMonths 0)) (defScope (sMonths 0)) .none kVm0 dcm0 pmm0 anm0 cdm0 ctm0), slm0⟩)
    (cm0 : PySem.W.codeIn K cdm0 "Months.__init__" = true)
    (km0 : PySem.W.keepIn K (.ref fm0) = true)
    (am1t : PySem.W.findIn K (.ref Ct) "stretch_of" = some (some (.ref fm1)))
    (am1k : PySem.W.findIn K (.ref Ck) "stretch_of" = some (some (.ref fm1)))
    (im1 : PySem.W.isFn K (.ref fm1) = true)
    (lm1 : K.lookup fm1 = some ⟨ocm1, odm1, .func (PySem.W.fnOf "stretch_of" "Months.stretch_of" (defArgs (sMonths 1)) (defBody (sMonths 1)) (defScope (sMonths 1)) .none kVm1 dcm1 pmm1 anm1 cdm1 ctm1), slm1⟩)
    (cm1 : PySem.W.codeIn K cdm1 "Months.stretch_of" = true)
    (km1 : PySem.W.keepIn K (.ref fm1) = true)
    (am2t : PySem.W.findIn K (.ref Ct) "begins" = some (some (.ref fm2)))
    (am2k : PySem.W.findIn K (.ref Ck) "begins" = some (some (.ref fm2)))
    (im2 : PySem.W.isFn K (.ref fm2) = true)
    (lm2 : K.lookup fm2 = some ⟨ocm2, odm2, .func (PySem.W.fnOf "begins" "Months.begins" (defArgs (sMonths 2)) (defBody (sMonths 2)) (defScope (sMonths 2)) .none kVm2 dcm2 pmm2 anm2 cdm2 ctm2), slm2⟩)
    (cm2 : PySem.W.codeIn K cdm2 "Months.begins" = true)
    (km2 : PySem.W.keepIn K (.ref fm2) = true)
    (am4t : PySem.W.findIn K (.ref Ct) "days_in" = some (some (.ref fm4)))
    (am4k : PySem.W.findIn K (.ref Ck) "days_in" = some (some (.ref fm4)))
    (im4 : PySem.W.isFn K (.ref fm4) = true)
    (lm4 : K.lookup fm4 = some ⟨ocm4, odm4, .func (PySem.W.fnOf "days_in" "Months.days_in" (defArgs (sMonths 4)) (defBody (sMonths 4)) (defScope (sMonths 4)) .none kVm4 dcm4 pmm4 anm4 cdm4 ctm4), slm4⟩)
    (cm4 : PySem.W.codeIn K cdm4 "Months.days_in" = true)
    (km4 : PySem.W.keepIn K (.ref fm4) = true)
    (am5t : PySem.W.findIn K (.ref Ct) "ahead_of" = some (some (.ref fm5)))
    (am5k : PySem.W.findIn K (.ref Ck) "ahead_of" = some (some (.ref fm5)))
    (im5 : PySem.W.isFn K (.ref fm5) = true)
    (lm5 : K.lookup fm5 = some ⟨ocm5, odm5, .func (PySem.W.fnOf "ahead_of" "Months.ahead_of" (defArgs (sMonths 5)) (defBody (sMonths 5)) (defScope (sMonths 5)) .none kVm5 dcm5 pmm5 anm5 cdm5 ctm5), slm5⟩)
    (cm5 : PySem.W.codeIn K cdm5 "Months.ahead_of" = true)
    (km5 : PySem.W.keepIn K (.ref fm5) = true)
    (am6t : PySem.W.findIn K (.ref Ct) "at_place" = some (some (.ref fm6)))
    (am6k : PySem.W.findIn K (.ref Ck) "at_place" = some (some (.ref fm6)))
    (im6 : PySem.W.isFn K (.ref fm6) = true)
    (lm6 : K.lookup fm6 = some ⟨ocm6, odm6, .func (PySem.W.fnOf "at_place" "Months.at_place" (defArgs (sMonths 6)) (defBody (sMonths 6)) (defScope (sMonths 6)) .none kVm6 dcm6 pmm6 anm6 cdm6 ctm6), slm6⟩)
    (cm6 : PySem.W.codeIn K cdm6 "Months.at_place" = true)
    (km6 : PySem.W.keepIn K (.ref fm6) = true)
    (at0 : PySem.W.findIn K (.ref Ct) "__init__" = some (some (.ref ft0)))
    (it0 : PySem.W.isFn K (.ref ft0) = true)
    (lt0 : K.lookup ft0 = some ⟨oct0, odt0, .func (PySem.W.fnOf "__init__" "Dates.__init__" (defArgs (sDates 0)) (defBody (sDates 0)) (defScope (sDates 0)) .none kVt0 dct0 pmt0 ant0 cdt0 ctt0), slt0⟩)
    (ct0 : PySem.W.codeIn K cdt0 "Dates.__init__" = true)
    (kt0 : PySem.W.keepIn K (.ref ft0) = true)
    (at1 : PySem.W.findIn K (.ref Ct) "date_in" = some (some (.ref ft1)))
    (it1 : PySem.W.isFn K (.ref ft1) = true)
    (lt1 : K.lookup ft1 = some ⟨oct1, odt1, .func (PySem.W.fnOf "date_in" "Dates.date_in" (defArgs (sDates 1)) (defBody (sDates 1)) (defScope (sDates 1)) .none kVt1 dct1 pmt1 ant1 cdt1 ctt1), slt1⟩)
    (ct1 : PySem.W.codeIn K cdt1 "Dates.date_in" = true)
    (kt1 : PySem.W.keepIn K (.ref ft1) = true)
    (ak0 : PySem.W.findIn K (.ref Ck) "__init__" = some (some (.ref fk0)))
    (ik0 : PySem.W.isFn K (.ref fk0) = true)
    (lk0 : K.lookup fk0 = some ⟨ock0, odk0, .func (PySem.W.fnOf "__init__" "Weekdays.__init__" (defArgs (sWkds 0)) (defBody (sWkds 0)) (defScope (sWkds 0)) .none kVk0 dck0 pmk0 ank0 cdk0 ctk0), slk0⟩)
    (ck0 : PySem.W.codeIn K cdk0 "Weekdays.__init__" = true)
    (kk0 : PySem.W.keepIn K (.ref fk0) = true)
    (ak1 : PySem.W.findIn K (.ref Ck) "date_in" = some (some (.ref fk1)))
    (ik1 : PySem.W.isFn K (.ref fk1) = true)
    (lk1 : K.lookup fk1 = some ⟨ock1, odk1, .func (PySem.W.fnOf "date_in" "Weekdays.date_in" (defArgs (sWkds 1)) (defBody (sWkds 1)) (defScope (sWkds 1)) .none kVk1 dck1 pmk1 ank1 cdk1 ctk1), slk1⟩)
    (ck1 : PySem.W.codeIn K cdk1 "Weekdays.date_in" = true)
    (kk1 : PySem.W.keepIn K (.ref fk1) = true)
    (vo : PySem.W.findCls K (.ref Co) (.type "type") "__init__" = some (.val (.ref fo0)))
    (rdo : PySem.W.readsIn K Co (.type "type") = true)
    (gao : PySem.W.specialIn K (.ref Co) "__getattribute__" = some (some (.builtin "type.__getattribute__")))
    (rdm : PySem.W.readsIn K Cm (.type "type") = true)
    (gam : PySem.W.specialIn K (.ref Cm) "__getattribute__" = some (some (.builtin "type.__getattribute__")))
    (pgo : PySem.W.plainGet K Co Str.empty = true)
    (hdo : PySem.W.hasDictIn K Co = true)
    (poo : PySem.W.plainOver K Co = true)
    (sao : PySem.W.findIn K (.ref Co) "__setattr__" = some (some (.builtin "object.__setattr__")))
    (mko : PySem.W.makesIn K Co = true)
    (kco : PySem.W.keepIn K (.ref Co) = true)
    (zo0 : PySem.W.findIn K (.ref Co) "first" = some none)
    (pgd : PySem.W.plainGet K Cd Str.empty = true)
    (hdd : PySem.W.hasDictIn K Cd = true)
    (pod : PySem.W.plainOver K Cd = true)
    (sad : PySem.W.findIn K (.ref Cd) "__setattr__" = some (some (.builtin "object.__setattr__")))
    (mkd : PySem.W.makesIn K Cd = true)
    (kcd : PySem.W.keepIn K (.ref Cd) = true)
    (zd0 : PySem.W.findIn K (.ref Cd) "first" = some none)
    (zd1 : PySem.W.findIn K (.ref Cd) "step" = some none)
    (pgw : PySem.W.plainGet K Cw Str.empty = true)
    (hdw : PySem.W.hasDictIn K Cw = true)
    (pow : PySem.W.plainOver K Cw = true)
    (saw : PySem.W.findIn K (.ref Cw) "__setattr__" = some (some (.builtin "object.__setattr__")))
    (mkw : PySem.W.makesIn K Cw = true)
    (kcw : PySem.W.keepIn K (.ref Cw) = true)
    (zw0 : PySem.W.findIn K (.ref Cw) "first" = some none)
    (zw1 : PySem.W.findIn K (.ref Cw) "monday" = some none)
    (zw2 : PySem.W.findIn K (.ref Cw) "step" = some none)
    (zw3 : PySem.W.findIn K (.ref Cw) "weekdays" = some none)
    (zw4 : PySem.W.findIn K (.ref Cw) "left_out" = some none)
    (pgt : PySem.W.plainGet K Ct Str.empty = true)
    (hdt : PySem.W.hasDictIn K Ct = true)
    (pot : PySem.W.plainOver K Ct = true)
    (sat : PySem.W.findIn K (.ref Ct) "__setattr__" = some (some (.builtin "object.__setattr__")))
    (mkt : PySem.W.makesIn K Ct = true)
    (kct : PySem.W.keepIn K (.ref Ct) = true)
    (zt0 : PySem.W.findIn K (.ref Ct) "first" = some none)
    (zt1 : PySem.W.findIn K (.ref Ct) "month" = some none)
    (zt2 : PySem.W.findIn K (.ref Ct) "step" = some none)
    (zt3 : PySem.W.findIn K (.ref Ct) "date" = some none)
    (pgk : PySem.W.plainGet K Ck Str.empty = true)
    (hdk : PySem.W.hasDictIn K Ck = true)
    (pok : PySem.W.plainOver K Ck = true)
    (sak : PySem.W.findIn K (.ref Ck) "__setattr__" = some (some (.builtin "object.__setattr__")))
    (mkk : PySem.W.makesIn K Ck = true)
    (kck : PySem.W.keepIn K (.ref Ck) = true)
    (zk0 : PySem.W.findIn K (.ref Ck) "first" = some none)
    (zk1 : PySem.W.findIn K (.ref Ck) "month" = some none)
    (zk2 : PySem.W.findIn K (.ref Ck) "step" = some none)
    (zk3 : PySem.W.findIn K (.ref Ck) "which" = some none)
    (zk4 : PySem.W.findIn K (.ref Ck) "one" = some none)
    (b_divmod : PySem.W.nsIn K mainGlobals "divmod" = some none)
    (b_range : PySem.W.nsIn K mainGlobals "range" = some none)
    (b_max : PySem.W.nsIn K mainGlobals "max" = some none)
    (b_min : PySem.W.nsIn K mainGlobals "min" = some none)
    (b_len : PySem.W.nsIn K mainGlobals "len" = some none)
    (b_int : PySem.W.nsIn K mainGlobals "int" = some none)
    (b_tuple : PySem.W.nsIn K mainGlobals "tuple" = some none)
    (nfy : PySem.W.nsIn K mainGlobals "FIRST_YEAR" = some (some (.int 2001 tfy)))
    (nld : PySem.W.nsIn K mainGlobals "LAST_DAY" = some (some (.int 99990 tld)))
    (nle : PySem.W.nsIn K mainGlobals "LENGTHS" = some (some (.ref aL)))
    (lL : K.lookup aL = some oL)
    (cL : oL.cls = .type "tuple")
    (dL : oL.data = .seq itsL nL)
    (zL : itsL.size ≤ sizeLine)
    (vL : Vals (lens.map V.int) itsL.toList) :
    ∃ fd : FuncData, (∀ (s : Shared) (v : Value), BindsTo s fd ⟨[v], []⟩ [("_law_script", v)]) ∧ ∀ base : Heap, K.In base → base.Ns mainGlobals mg → FnOk l.prog w K mg base CX0 12 fa fd ["_law_script"] (spLaw K) := by
  have e := hfa.symm.trans (PySem.W.mg_of X G ax18)
  cases e
  have GG : Glb K mg := ⟨⟨tfy, PySem.W.mg_of X G nfy⟩, ⟨tld, PySem.W.mg_of X G nld⟩, ⟨aL, PySem.W.mg_of X G nle, fun _ => .inr ⟨oL, itsL, nL, lL, cL, dL, zL, vL⟩⟩, PySem.W.mg_none_of X G b_divmod, PySem.W.mg_none_of X G b_range, PySem.W.mg_none_of X G b_max, PySem.W.mg_none_of X G b_min, PySem.W.mg_none_of X G b_len, PySem.W.mg_none_of X G b_int, PySem.W.mg_none_of X G b_tuple⟩
  let c : Cl := ⟨Co, Cd, Cw, Cm, Ct, Ck⟩
  have clso : Cls K Co := ⟨pgo, hdo, poo, sao⟩
  have clsd : Cls K Cd := ⟨pgd, hdd, pod, sad⟩
  have clsw : Cls K Cw := ⟨pgw, hdw, pow, saw⟩
  have clst : Cls K Ct := ⟨pgt, hdt, pot, sat⟩
  have clsk : Cls K Ck := ⟨pgk, hdk, pok, sak⟩
  have LL : Flds K c := ⟨clso, zo0, clsd, zd0, zd1, clsw, zw0, zw1, zw2, zw3, zw4, clst, zt0, zt1, zt2, zt3, clsk, zk0, zk1, zk2, zk3, zk4⟩
  have Fx0 := fun_mk (st := sLeap) lx0 cx0 kx0
  have bx0 := Fx0.binds (ps := ["year"]) fun _ _ _ _ _ _ us hl => match us, hl with | [_], _ => rfl
  have Fx1 := fun_mk (st := sAhead) lx1 cx1 kx1
  have bx1 := Fx1.binds (ps := ["year"]) fun _ _ _ _ _ _ us hl => match us, hl with | [_], _ => rfl
  have Fx2 := fun_mk (st := sMonLen) lx2 cx2 kx2
  have bx2 := Fx2.binds (ps := ["month"]) fun _ _ _ _ _ _ us hl => match us, hl with | [_], _ => rfl
  have Fx3 := fun_mk (st := sFirst) lx3 cx3 kx3
  have bx3 := Fx3.binds (ps := ["month"]) fun _ _ _ _ _ _ us hl => match us, hl with | [_], _ => rfl
  have Fx4 := fun_mk (st := sMonth) lx4 cx4 kx4
  have bx4 := Fx4.binds (ps := ["day"]) fun _ _ _ _ _ _ us hl => match us, hl with | [_], _ => rfl
  have Fx5 := fun_mk (st := sWeekday) lx5 cx5 kx5
  have bx5 := Fx5.binds (ps := ["day"]) fun _ _ _ _ _ _ us hl => match us, hl with | [_], _ => rfl
  have Fx6 := fun_mk (st := sComing) lx6 cx6 kx6
  have bx6 := Fx6.binds (ps := ["rule"]) fun _ _ _ _ _ _ us hl => match us, hl with | [_], _ => rfl
  have Fx7 := fun_mk (st := sLimit) lx7 cx7 kx7
  have bx7 := Fx7.binds (ps := ["rule", "coming"]) fun _ _ _ _ _ _ us hl => match us, hl with | [_, _], _ => rfl
  have Fx8 := fun_mk (st := sDaysOf) lx8 cx8 kx8
  have bx8 := Fx8.binds (ps := ["rule", "low", "high"]) fun _ _ _ _ _ _ us hl => match us, hl with | [_, _, _], _ => rfl
  have Fx9 := fun_mk (st := sIsDay) lx9 cx9 kx9
  have bx9 := Fx9.binds (ps := ["rule", "day"]) fun _ _ _ _ _ _ us hl => match us, hl with | [_, _], _ => rfl
  have Fx10 := fun_mk (st := sPlaceOf) lx10 cx10 kx10
  have bx10 := Fx10.binds (ps := ["rule", "day"]) fun _ _ _ _ _ _ us hl => match us, hl with | [_, _], _ => rfl
  have Fx11 := fun_mk (st := sDayAt) lx11 cx11 kx11
  have bx11 := Fx11.binds (ps := ["rule", "place"]) fun _ _ _ _ _ _ us hl => match us, hl with | [_, _], _ => rfl
  have Fx12 := fun_mk (st := sLastDay) lx12 cx12 kx12
  have bx12 := Fx12.binds (ps := ["rule"]) fun _ _ _ _ _ _ us hl => match us, hl with | [_], _ => rfl
  have Fx13 := fun_mk (st := sTape) lx13 cx13 kx13
  have bx13 := Fx13.binds (ps := ["_law_script"]) fun _ _ _ _ _ _ us hl => match us, hl with | [_], _ => rfl
  have Fx14 := fun_mk (st := sDraw) lx14 cx14 kx14
  have bx14 := Fx14.binds (ps := ["_law_tape_here", "_law_many"]) fun _ _ _ _ _ _ us hl => match us, hl with | [_, _], _ => rfl
  have Fx15 := fun_mk (st := sHow) lx15 cx15 kx15
  have bx15 := Fx15.binds (ps := ["_law_tape_here"]) fun _ _ _ _ _ _ us hl => match us, hl with | [_], _ => rfl
  have Fx16 := fun_mk (st := sRule) lx16 cx16 kx16
  have bx16 := Fx16.binds (ps := ["_law_tape_here"]) fun _ _ _ _ _ _ us hl => match us, hl with | [_], _ => rfl
  have Fx17 := fun_mk (st := sFar) lx17 cx17 kx17
  have bx17 := Fx17.binds (ps := ["_law_rule_here", "_law_place"]) fun _ _ _ _ _ _ us hl => match us, hl with | [_, _], _ => rfl
  have Fx18 := fun_mk (st := sLaw) lx18 cx18 kx18
  have Fo0 := fun_mk (st := (sOnce 0)) lo0 co0 ko0
  have bo0 := Fo0.binds (ps := ["self", "first"]) fun _ _ _ _ _ _ us hl => match us, hl with | [_, _], _ => rfl
  have Fo1 := fun_mk (st := (sOnce 1)) lo1 co1 ko1
  have bo1 := Fo1.binds (ps := ["self", "day"]) fun _ _ _ _ _ _ us hl => match us, hl with | [_, _], _ => rfl
  have Fo2 := fun_mk (st := (sOnce 2)) lo2 co2 ko2
  have bo2 := Fo2.binds (ps := ["self", "stretch"]) fun _ _ _ _ _ _ us hl => match us, hl with | [_, _], _ => rfl
  have Fo3 := fun_mk (st := (sOnce 3)) lo3 co3 ko3
  have bo3 := Fo3.binds (ps := ["self", "stretch"]) fun _ _ _ _ _ _ us hl => match us, hl with | [_, _], _ => rfl
  have Fo4 := fun_mk (st := (sOnce 4)) lo4 co4 ko4
  have bo4 := Fo4.binds (ps := ["self", "day"]) fun _ _ _ _ _ _ us hl => match us, hl with | [_, _], _ => rfl
  have Fo5 := fun_mk (st := (sOnce 5)) lo5 co5 ko5
  have bo5 := Fo5.binds (ps := ["self", "place"]) fun _ _ _ _ _ _ us hl => match us, hl with | [_, _], _ => rfl
  have Fd0 := fun_mk (st := (sDays 0)) ld0 cd0 kd0
  have bd0 := Fd0.binds (ps := ["self", "first", "step"]) fun _ _ _ _ _ _ us hl => match us, hl with | [_, _, _], _ => rfl
  have Fd1 := fun_mk (st := (sDays 1)) ld1 cd1 kd1
  have bd1 := Fd1.binds (ps := ["self", "day"]) fun _ _ _ _ _ _ us hl => match us, hl with | [_, _], _ => rfl
  have Fd2 := fun_mk (st := (sDays 2)) ld2 cd2 kd2
  have bd2 := Fd2.binds (ps := ["self", "stretch"]) fun _ _ _ _ _ _ us hl => match us, hl with | [_, _], _ => rfl
  have Fd3 := fun_mk (st := (sDays 3)) ld3 cd3 kd3
  have bd3 := Fd3.binds (ps := ["self", "stretch"]) fun _ _ _ _ _ _ us hl => match us, hl with | [_, _], _ => rfl
  have Fd4 := fun_mk (st := (sDays 4)) ld4 cd4 kd4
  have bd4 := Fd4.binds (ps := ["self", "day"]) fun _ _ _ _ _ _ us hl => match us, hl with | [_, _], _ => rfl
  have Fd5 := fun_mk (st := (sDays 5)) ld5 cd5 kd5
  have bd5 := Fd5.binds (ps := ["self", "place"]) fun _ _ _ _ _ _ us hl => match us, hl with | [_, _], _ => rfl
  have Fw0 := fun_mk (st := (sWeeks 0)) lw0 cw0 kw0
  have bw0 := Fw0.binds (ps := ["self", "first", "step", "weekdays"]) fun _ _ _ _ _ _ us hl => match us, hl with | [_, _, _, _], _ => rfl
  have Fw1 := fun_mk (st := (sWeeks 1)) lw1 cw1 kw1
  have bw1 := Fw1.binds (ps := ["self", "day"]) fun _ _ _ _ _ _ us hl => match us, hl with | [_, _], _ => rfl
  have Fw2 := fun_mk (st := (sWeeks 2)) lw2 cw2 kw2
  have bw2 := Fw2.binds (ps := ["self", "stretch"]) fun _ _ _ _ _ _ us hl => match us, hl with | [_, _], _ => rfl
  have Fw3 := fun_mk (st := (sWeeks 3)) lw3 cw3 kw3
  have bw3 := Fw3.binds (ps := ["self", "stretch"]) fun _ _ _ _ _ _ us hl => match us, hl with | [_, _], _ => rfl
  have Fw4 := fun_mk (st := (sWeeks 4)) lw4 cw4 kw4
  have bw4 := Fw4.binds (ps := ["self", "day"]) fun _ _ _ _ _ _ us hl => match us, hl with | [_, _], _ => rfl
  have Fw5 := fun_mk (st := (sWeeks 5)) lw5 cw5 kw5
  have bw5 := Fw5.binds (ps := ["self", "place"]) fun _ _ _ _ _ _ us hl => match us, hl with | [_, _], _ => rfl
  have Fm0 := fun_mk (st := (sMonths 0)) lm0 cm0 km0
  have bm0 := Fm0.binds (ps := ["self", "first", "step"]) fun _ _ _ _ _ _ us hl => match us, hl with | [_, _, _], _ => rfl
  have Fm1 := fun_mk (st := (sMonths 1)) lm1 cm1 km1
  have bm1 := Fm1.binds (ps := ["self", "day"]) fun _ _ _ _ _ _ us hl => match us, hl with | [_, _], _ => rfl
  have Fm2 := fun_mk (st := (sMonths 2)) lm2 cm2 km2
  have bm2 := Fm2.binds (ps := ["self", "stretch"]) fun _ _ _ _ _ _ us hl => match us, hl with | [_, _], _ => rfl
  have Fm4 := fun_mk (st := (sMonths 4)) lm4 cm4 km4
  have bm4 := Fm4.binds (ps := ["self", "stretch"]) fun _ _ _ _ _ _ us hl => match us, hl with | [_, _], _ => rfl
  have Fm5 := fun_mk (st := (sMonths 5)) lm5 cm5 km5
  have bm5 := Fm5.binds (ps := ["self", "day"]) fun _ _ _ _ _ _ us hl => match us, hl with | [_, _], _ => rfl
  have Fm6 := fun_mk (st := (sMonths 6)) lm6 cm6 km6
  have bm6 := Fm6.binds (ps := ["self", "place"]) fun _ _ _ _ _ _ us hl => match us, hl with | [_, _], _ => rfl
  have Ft0 := fun_mk (st := (sDates 0)) lt0 ct0 kt0
  have bt0 := Ft0.binds (ps := ["self", "first", "step", "date"]) fun _ _ _ _ _ _ us hl => match us, hl with | [_, _, _, _], _ => rfl
  have Ft1 := fun_mk (st := (sDates 1)) lt1 ct1 kt1
  have bt1 := Ft1.binds (ps := ["self", "month"]) fun _ _ _ _ _ _ us hl => match us, hl with | [_, _], _ => rfl
  have Fk0 := fun_mk (st := (sWkds 0)) lk0 ck0 kk0
  have bk0 := Fk0.binds (ps := ["self", "first", "step", "which", "one"]) fun _ _ _ _ _ _ us hl => match us, hl with | [_, _, _, _, _], _ => rfl
  have Fk1 := fun_mk (st := (sWkds 1)) lk1 ck1 kk1
  have bk1 := Fk1.binds (ps := ["self", "month"]) fun _ _ _ _ _ _ us hl => match us, hl with | [_, _], _ => rfl
  refine ⟨PySem.W.fnOf "law" "law" (defArgs sLaw) (defBody sLaw) (defScope sLaw) .none kVx18 dcx18 pmx18 anx18 cdx18 ctx18, fun s v => .of_eq rfl, fun base _ _ => ?_⟩
  have q_leap : Kn l.prog w K mg base "is_leap" 1 ["year"] spLeap := ⟨fx0, _, PySem.W.mg_of X G ax0, kx0, bx0, ok_leap Fx0⟩
  have q_ahead : Kn l.prog w K mg base "days_ahead" 1 ["year"] spAhead := ⟨fx1, _, PySem.W.mg_of X G ax1, kx1, bx1, ok_ahead Fx1 GG⟩
  have q_wd : Kn l.prog w K mg base "weekday" 1 ["day"] spWeekday := ⟨fx5, _, PySem.W.mg_of X G ax5, kx5, bx5, ok_weekday Fx5⟩
  have q_ml : Kn l.prog w K mg base "month_length" 2 ["month"] spMonLen := ⟨fx2, _, PySem.W.mg_of X G ax2, kx2, bx2, ok_monLen Fx2 GG q_leap⟩
  have q_first : Kn l.prog w K mg base "first_of" 3 ["month"] spFirst := ⟨fx3, _, PySem.W.mg_of X G ax3, kx3, bx3, ok_first Fx3 GG q_ahead q_ml⟩
  have q_month : Kn l.prog w K mg base "month_of" 3 ["day"] spMonth := ⟨fx4, _, PySem.W.mg_of X G ax4, kx4, bx4, ok_month Fx4 GG q_ahead q_ml⟩
  have mO : mg "Once" = some (.ref c.o) := PySem.W.mg_of X G no
  have mM : mg "Months" = some (.ref c.m) := PySem.W.mg_of X G nm
  have O : CFn l.prog w K mg base c.o (.type "type") "__init__" 1 ["self", "first"] (spOnceInit K) := ⟨⟨rdo, gao⟩, fo0, _, vo, ko0, bo0, ok_o0 Fo0⟩
  have M : CFn l.prog w K mg base c.m (.type "type") "__init__" 4 ["self", "first", "step"] (spMonInit K) := ⟨⟨rdm, gam⟩, fm0, _, am0, km0, bm0, ok_m0 Fm0 mO O q_month⟩
  have st_o : Me l.prog w K mg base c.o "stretch_of" 1 ["self", "day"] (spStretch K c 0) := ⟨fo1, _, ⟨ao1, io1, ko1⟩, bo1, ok_o1 Fo1⟩
  have be_o : Me l.prog w K mg base c.o "begins" 1 ["self", "stretch"] (spBegins K c 0) := ⟨fo2, _, ⟨ao2, io2, ko2⟩, bo2, ok_o2 Fo2 GG LL⟩
  have di_o : Me l.prog w K mg base c.o "days_in" 1 ["self", "stretch"] (spDaysIn K c 0) := ⟨fo3, _, ⟨ao3, io3, ko3⟩, bo3, ok_o3 Fo3 LL⟩
  have ah_o : Me l.prog w K mg base c.o "ahead_of" 1 ["self", "day"] (spAheadOf K c 0) := ⟨fo4, _, ⟨ao4, io4, ko4⟩, bo4, ok_o4 Fo4 GG LL⟩
  have ap_o : Me l.prog w K mg base c.o "at_place" 1 ["self", "place"] (spAtPlace K c 0) := ⟨fo5, _, ⟨ao5, io5, ko5⟩, bo5, ok_o5 Fo5 LL⟩
  have I0 : Itf l.prog w K mg base c 0 := ⟨clso, let ⟨g, gd, a, b, o⟩ := st_o; ⟨g, gd, a, b, o.mono (by decide)⟩, let ⟨g, gd, a, b, o⟩ := be_o; ⟨g, gd, a, b, o.mono (by decide)⟩, let ⟨g, gd, a, b, o⟩ := di_o; ⟨g, gd, a, b, o.mono (by decide)⟩, let ⟨g, gd, a, b, o⟩ := ah_o; ⟨g, gd, a, b, o.mono (by decide)⟩, let ⟨g, gd, a, b, o⟩ := ap_o; ⟨g, gd, a, b, o.mono (by decide)⟩⟩
  have st_d : Me l.prog w K mg base c.d "stretch_of" 1 ["self", "day"] (spStretch K c 1) := ⟨fd1, _, ⟨ad1, id1, kd1⟩, bd1, ok_d1 Fd1 GG LL⟩
  have be_d : Me l.prog w K mg base c.d "begins" 1 ["self", "stretch"] (spBegins K c 1) := ⟨fd2, _, ⟨ad2, id2, kd2⟩, bd2, ok_d2 Fd2 LL⟩
  have di_d : Me l.prog w K mg base c.d "days_in" 2 ["self", "stretch"] (spDaysIn K c 1) := ⟨fd3, _, ⟨ad3, id3, kd3⟩, bd3, ok_d3 Fd3 LL be_d⟩
  have ah_d : Me l.prog w K mg base c.d "ahead_of" 1 ["self", "day"] (spAheadOf K c 1) := ⟨fd4, _, ⟨ad4, id4, kd4⟩, bd4, ok_d4 Fd4 GG LL⟩
  have ap_d : Me l.prog w K mg base c.d "at_place" 1 ["self", "place"] (spAtPlace K c 1) := ⟨fd5, _, ⟨ad5, id5, kd5⟩, bd5, ok_d5 Fd5 LL⟩
  have I1 : Itf l.prog w K mg base c 1 := ⟨clsd, let ⟨g, gd, a, b, o⟩ := st_d; ⟨g, gd, a, b, o.mono (by decide)⟩, let ⟨g, gd, a, b, o⟩ := be_d; ⟨g, gd, a, b, o.mono (by decide)⟩, let ⟨g, gd, a, b, o⟩ := di_d; ⟨g, gd, a, b, o.mono (by decide)⟩, let ⟨g, gd, a, b, o⟩ := ah_d; ⟨g, gd, a, b, o.mono (by decide)⟩, let ⟨g, gd, a, b, o⟩ := ap_d; ⟨g, gd, a, b, o.mono (by decide)⟩⟩
  have st_w : Me l.prog w K mg base c.w "stretch_of" 1 ["self", "day"] (spStretch K c 2) := ⟨fw1, _, ⟨aw1, iw1, kw1⟩, bw1, ok_w1 Fw1 GG LL⟩
  have be_w : Me l.prog w K mg base c.w "begins" 1 ["self", "stretch"] (spBegins K c 2) := ⟨fw2, _, ⟨aw2, iw2, kw2⟩, bw2, ok_w2 Fw2 LL⟩
  have di_w : Me l.prog w K mg base c.w "days_in" 2 ["self", "stretch"] (spDaysIn K c 2) := ⟨fw3, _, ⟨aw3, iw3, kw3⟩, bw3, ok_w3 Fw3 LL be_w⟩
  have ah_w : Me l.prog w K mg base c.w "ahead_of" 2 ["self", "day"] (spAheadOf K c 2) := ⟨fw4, _, ⟨aw4, iw4, kw4⟩, bw4, ok_w4 Fw4 GG LL st_w be_w⟩
  have ap_w : Me l.prog w K mg base c.w "at_place" 2 ["self", "place"] (spAtPlace K c 2) := ⟨fw5, _, ⟨aw5, iw5, kw5⟩, bw5, ok_w5 Fw5 GG LL be_w⟩
  have I2 : Itf l.prog w K mg base c 2 := ⟨clsw, let ⟨g, gd, a, b, o⟩ := st_w; ⟨g, gd, a, b, o.mono (by decide)⟩, let ⟨g, gd, a, b, o⟩ := be_w; ⟨g, gd, a, b, o.mono (by decide)⟩, let ⟨g, gd, a, b, o⟩ := di_w; ⟨g, gd, a, b, o.mono (by decide)⟩, let ⟨g, gd, a, b, o⟩ := ah_w; ⟨g, gd, a, b, o.mono (by decide)⟩, let ⟨g, gd, a, b, o⟩ := ap_w; ⟨g, gd, a, b, o.mono (by decide)⟩⟩
  have dt_t : Me l.prog w K mg base c.dt "date_in" 3 ["self", "month"] (spDateIn K c 3) := ⟨ft1, _, ⟨at1, it1, kt1⟩, bt1, ok_t1 Ft1 LL q_ml⟩
  have dt_t4 : Me l.prog w K mg base (c.at 3) "date_in" 4 ["self", "month"] (spDateIn K c 3) := let ⟨g, gd, a, b, o⟩ := dt_t; ⟨g, gd, a, b, o.mono (by decide)⟩
  have dt_k : Me l.prog w K mg base c.wk "date_in" 4 ["self", "month"] (spDateIn K c 4) := ⟨fk1, _, ⟨ak1, ik1, kk1⟩, bk1, ok_k1 Fk1 LL q_ml q_wd q_first⟩
  have st_t : Me l.prog w K mg base c.dt "stretch_of" 4 ["self", "day"] (spStretch K c 3) := ⟨fm1, _, ⟨am1t, im1, km1⟩, bm1, ok_m1 Fm1 GG LL.m3 q_month⟩
  have be_t : Me l.prog w K mg base c.dt "begins" 4 ["self", "stretch"] (spBegins K c 3) := ⟨fm2, _, ⟨am2t, im2, km2⟩, bm2, ok_m2 Fm2 LL.m3 q_first⟩
  have di_t : Me l.prog w K mg base c.dt "days_in" 5 ["self", "stretch"] (spDaysIn K c 3) := ⟨fm4, _, ⟨am4t, im4, km4⟩, bm4, ok_m4 Fm4 LL.m3 q_first dt_t4⟩
  have ah_t : Me l.prog w K mg base c.dt "ahead_of" 6 ["self", "day"] (spAheadOf K c 3) := ⟨fm5, _, ⟨am5t, im5, km5⟩, bm5, ok_m5 Fm5 GG LL.m3 st_t di_t⟩
  have ap_t : Me l.prog w K mg base c.dt "at_place" 6 ["self", "place"] (spAtPlace K c 3) := ⟨fm6, _, ⟨am6t, im6, km6⟩, bm6, ok_m6 Fm6 GG LL.m3 be_t di_t⟩
  have I3 : Itf l.prog w K mg base c 3 := ⟨clst, let ⟨g, gd, a, b, o⟩ := st_t; ⟨g, gd, a, b, o.mono (by decide)⟩, let ⟨g, gd, a, b, o⟩ := be_t; ⟨g, gd, a, b, o.mono (by decide)⟩, let ⟨g, gd, a, b, o⟩ := di_t; ⟨g, gd, a, b, o.mono (by decide)⟩, let ⟨g, gd, a, b, o⟩ := ah_t; ⟨g, gd, a, b, o.mono (by decide)⟩, let ⟨g, gd, a, b, o⟩ := ap_t; ⟨g, gd, a, b, o.mono (by decide)⟩⟩
  have st_k : Me l.prog w K mg base c.wk "stretch_of" 4 ["self", "day"] (spStretch K c 4) := ⟨fm1, _, ⟨am1k, im1, km1⟩, bm1, ok_m1 Fm1 GG LL.m4 q_month⟩
  have be_k : Me l.prog w K mg base c.wk "begins" 4 ["self", "stretch"] (spBegins K c 4) := ⟨fm2, _, ⟨am2k, im2, km2⟩, bm2, ok_m2 Fm2 LL.m4 q_first⟩
  have di_k : Me l.prog w K mg base c.wk "days_in" 5 ["self", "stretch"] (spDaysIn K c 4) := ⟨fm4, _, ⟨am4k, im4, km4⟩, bm4, ok_m4 Fm4 LL.m4 q_first dt_k⟩
  have ah_k : Me l.prog w K mg base c.wk "ahead_of" 6 ["self", "day"] (spAheadOf K c 4) := ⟨fm5, _, ⟨am5k, im5, km5⟩, bm5, ok_m5 Fm5 GG LL.m4 st_k di_k⟩
  have ap_k : Me l.prog w K mg base c.wk "at_place" 6 ["self", "place"] (spAtPlace K c 4) := ⟨fm6, _, ⟨am6k, im6, km6⟩, bm6, ok_m6 Fm6 GG LL.m4 be_k di_k⟩
  have I4 : Itf l.prog w K mg base c 4 := ⟨clsk, let ⟨g, gd, a, b, o⟩ := st_k; ⟨g, gd, a, b, o.mono (by decide)⟩, let ⟨g, gd, a, b, o⟩ := be_k; ⟨g, gd, a, b, o.mono (by decide)⟩, let ⟨g, gd, a, b, o⟩ := di_k; ⟨g, gd, a, b, o.mono (by decide)⟩, let ⟨g, gd, a, b, o⟩ := ah_k; ⟨g, gd, a, b, o.mono (by decide)⟩, let ⟨g, gd, a, b, o⟩ := ap_k; ⟨g, gd, a, b, o.mono (by decide)⟩⟩
  have II : ∀ h : How, Itf l.prog w K mg base c (tagOf h) := fun h => by
    cases h with
    | once => exact I0
    | days n => exact I1
    | weeks n ws => exact I2
    | dates n t => exact I3
    | wkds n v o => exact I4
  have MM : Makers l.prog w K mg base c := ⟨⟨fo0, _, ⟨mko, ao0, io0, kco⟩, PySem.W.mg_of X G no, bo0, ok_o0 Fo0⟩,
    ⟨fd0, _, ⟨mkd, ad0, id0, kcd⟩, PySem.W.mg_of X G nd, bd0, ok_d0 Fd0 LL mO O⟩,
    ⟨fw0, _, ⟨mkw, aw0, iw0, kcw⟩, PySem.W.mg_of X G nw, bw0, ok_w0 Fw0 GG LL mO O q_wd⟩,
    ⟨ft0, _, ⟨mkt, at0, it0, kct⟩, PySem.W.mg_of X G nt, bt0, ok_t0 Ft0 LL mM M⟩,
    ⟨fk0, _, ⟨mkk, ak0, ik0, kck⟩, PySem.W.mg_of X G nk, bk0, ok_k0 Fk0 LL mM M⟩⟩
  have q_co : Kn l.prog w K mg base "coming_of" 7 ["rule"] (spComing K c) := ⟨fx6, _, PySem.W.mg_of X G ax6, kx6, bx6, ok_coming Fx6 GG LL MM⟩
  have q_li : Kn l.prog w K mg base "limit_of" 9 ["rule", "coming"] (spLimit K c) := ⟨fx7, _, PySem.W.mg_of X G ax7, kx7, bx7, ok_limit Fx7 GG II⟩
  have q_dof : Kn l.prog w K mg base "days_of" 10 ["rule", "low", "high"] (spDaysOf K) := ⟨fx8, _, PySem.W.mg_of X G ax8, kx8, bx8, ok_daysOf Fx8 GG II q_co q_li⟩
  have q_isd : Kn l.prog w K mg base "is_day" 9 ["rule", "day"] (spIsDay K) := ⟨fx9, _, PySem.W.mg_of X G ax9, kx9, bx9, ok_isDay Fx9 GG II q_co⟩
  have q_plc : Kn l.prog w K mg base "place_of" 10 ["rule", "day"] (spPlaceOf K) := ⟨fx10, _, PySem.W.mg_of X G ax10, kx10, bx10, ok_placeOf Fx10 II q_co q_isd⟩
  have q_dat : Kn l.prog w K mg base "day_at" 10 ["rule", "place"] (spDayAt K) := ⟨fx11, _, PySem.W.mg_of X G ax11, kx11, bx11, ok_dayAt Fx11 II q_co q_li⟩
  have q_lst : Kn l.prog w K mg base "last_day" 10 ["rule"] (spLastDay K) := ⟨fx12, _, PySem.W.mg_of X G ax12, kx12, bx12, ok_lastDay Fx12 II q_co q_li⟩
  have R5 : Rd5 l.prog w K mg base := ⟨q_dof, q_isd, q_plc, q_dat, q_lst⟩
  have q_tape : Kn l.prog w K mg base "_law_tape" 1 ["_law_script"] (spTape K) := ⟨fx13, _, PySem.W.mg_of X G ax13, kx13, bx13, ok_tape Fx13⟩
  have q_draw : Kn l.prog w K mg base "_law_draw" 1 ["_law_tape_here", "_law_many"] spDraw := ⟨fx14, _, PySem.W.mg_of X G ax14, kx14, bx14, ok_draw Fx14 GG⟩
  have q_how : Kn l.prog w K mg base "_law_how" 2 ["_law_tape_here"] (spHow K) := ⟨fx15, _, PySem.W.mg_of X G ax15, kx15, bx15, ok_how Fx15 GG q_draw⟩
  have q_rule : Kn l.prog w K mg base "_law_rule" 3 ["_law_tape_here"] (spRule K) := ⟨fx16, _, PySem.W.mg_of X G ax16, kx16, bx16, ok_rule Fx16 GG q_draw q_how⟩
  have q_far : Kn l.prog w K mg base "_law_far_right" 11 ["_law_rule_here", "_law_place"] (spFar K) := ⟨fx17, _, PySem.W.mg_of X G ax17, kx17, bx17, ok_far Fx17 GG R5⟩
  exact ok_law Fx18 GG R5 q_tape q_draw q_rule q_far
theorem the_walk {l : PySem.W.OpenLaw} {q : Program} {loose : List Str} {XP : (Str → Option Value) → Heap → Prop} {YP : World → Heap → Prop} {d : DefRec} {K : Params → PySem.W.Frag} (hn : l.most = some 63) (hdf : d.params.defaults = [])
    (hY : ∀ (w : World) (h : Heap), YP w h → (K w.params).In h)
    (F : ∀ (w : World) (mg : Str → Option Value) (fa : Addr) (h : Heap), (K w.params).In h → h.Ns mainGlobals mg → mg d.name = some (.ref fa) →
      ∃ fd : FuncData, (∀ (s : Shared) (u : Value), BindsTo s fd ⟨[u], []⟩ [("_law_script", u)]) ∧ ∀ base : Heap, (K w.params).In base → base.Ns mainGlobals mg → FnOk l.prog w (K w.params) mg base CX0 12 fa fd ["_law_script"] (spLaw (K w.params))) :
    PySem.W.WalkO q loose XP YP l.row.toRowW d [] (fun f vs => PySem.call f vs) :=
  L2.walk_of (n := 63) (k := 12) (x := "_law_script") (CX := fun _ => CX0) (sp := fun w => spLaw (K w.params)) hn (by decide) hdf ⟨rfl, by decide, by decide⟩ hY F (fun _ _ a ns hl _ hS => ⟨a, ns, rfl, hS, hl, fun _ => rfl⟩) fun _ _ _ _ _ z => z
end Gc

open PySem PySem.W PyProof.Rows in
set_option maxRecDepth 100000 in
set_option maxHeartbeats 0 in
theorem PySem.Challenge.cw_guestcopies_k18_whole_rules_cut_and_begu_holds : PySem.Challenge.rw_guestcopies_k18_whole_rules_cut_and_begu.Holds := by
  w_on; o_law; k_head; (case hw => w_witness2)
  k_fill
  refine Gc.the_walk (l := PySem.Challenge.rw_guestcopies_k18_whole_rules_cut_and_begu) rfl rfl (fun w h Y => PySem.W.kIn_of Y) ?F
  case F =>
    intro w mg fa h KX G hmg
    refine' Gc.all_mk KX G hmg ?ax0 ?lx0 ?cx0 ?kx0 ?ax1 ?lx1 ?cx1 ?kx1 ?ax2 ?lx2 ?cx2 ?kx2 ?ax3 ?lx3 ?cx3 ?kx3 ?ax4 ?lx4 ?cx4 ?kx4 ?ax5 ?lx5 ?cx5 ?kx5 ?ax6 ?lx6 ?cx6 ?kx6 ?ax7 ?lx7 ?cx7 ?kx7 ?ax8 ?lx8 ?cx8 ?kx8 ?ax9 ?lx9 ?cx9 ?kx9 ?ax10 ?lx10 ?cx10 ?kx10 ?ax11 ?lx11 ?cx11 ?kx11 ?ax12 ?lx12 ?cx12 ?kx12 ?ax13 ?lx13 ?cx13 ?kx13 ?ax14 ?lx14 ?cx14 ?kx14 ?ax15 ?lx15 ?cx15 ?kx15 ?ax16 ?lx16 ?cx16 ?kx16 ?ax17 ?lx17 ?cx17 ?kx17 ?ax18 ?lx18 ?cx18 ?kx18 ?no ?nd ?nw ?nm ?nt ?nk ?ao0 ?io0 ?lo0 ?co0 ?ko0 ?ao1 ?io1 ?lo1 ?co1 ?ko1 ?ao2 ?io2 ?lo2 ?co2 ?ko2 ?ao3 ?io3 ?lo3 ?co3 ?ko3 ?ao4 ?io4 ?lo4 ?co4 ?ko4 ?ao5 ?io5 ?lo5 ?co5 ?ko5 ?ad0 ?id0 ?ld0 ?cd0 ?kd0 ?ad1 ?id1 ?ld1 ?cd1 ?kd1 ?ad2 ?id2 ?ld2 ?cd2 ?kd2 ?ad3 ?id3 ?ld3 ?cd3 ?kd3 ?ad4 ?id4 ?ld4 ?cd4 ?kd4 ?ad5 ?id5 ?ld5 ?cd5 ?kd5 ?aw0 ?iw0 ?lw0 ?cw0 ?kw0 ?aw1 ?iw1 ?lw1 ?cw1 ?kw1 ?aw2 ?iw2 ?lw2 ?cw2 ?kw2 ?aw3 ?iw3 ?lw3 ?cw3 ?kw3 ?aw4 ?iw4 ?lw4 ?cw4 ?kw4 ?aw5 ?iw5 ?lw5 ?cw5 ?kw5 ?am0 ?im0 ?lm0 ?cm0 ?km0 ?am1t ?am1k ?im1 ?lm1 ?cm1 ?km1 ?am2t ?am2k ?im2 ?lm2 ?cm2 ?km2 ?am4t ?am4k ?im4 ?lm4 ?cm4 ?km4 ?am5t ?am5k ?im5 ?lm5 ?cm5 ?km5 ?am6t ?am6k ?im6 ?lm6 ?cm6 ?km6 ?at0 ?it0 ?lt0 ?ct0 ?kt0 ?at1 ?it1 ?lt1 ?ct1 ?kt1 ?ak0 ?ik0 ?lk0 ?ck0 ?kk0 ?ak1 ?ik1 ?lk1 ?ck1 ?kk1 ?vo ?rdo ?gao ?rdm ?gam ?pgo ?hdo ?poo ?sao ?mko ?kco ?zo0 ?pgd ?hdd ?pod ?sad ?mkd ?kcd ?zd0 ?zd1 ?pgw ?hdw ?pow ?saw ?mkw ?kcw ?zw0 ?zw1 ?zw2 ?zw3 ?zw4 ?pgt ?hdt ?pot ?sat ?mkt ?kct ?zt0 ?zt1 ?zt2 ?zt3 ?pgk ?hdk ?pok ?sak ?mkk ?kck ?zk0 ?zk1 ?zk2 ?zk3 ?zk4 ?b_divmod ?b_range ?b_max ?b_min ?b_len ?b_int ?b_tuple ?nfy ?nld ?nle ?lL ?cL ?dL ?zL ?vL
    (case ax0 => k_is)
    (case lx0 => k_is)
    (case cx0 => k_is)
    (case kx0 => k_is)
    (case ax1 => k_is)
    (case lx1 => k_is)
    (case cx1 => k_is)
    (case kx1 => k_is)
    (case ax2 => k_is)
    (case lx2 => k_is)
    (case cx2 => k_is)
    (case kx2 => k_is)
    (case ax3 => k_is)
    (case lx3 => k_is)
    (case cx3 => k_is)
    (case kx3 => k_is)
    (case ax4 => k_is)
    (case lx4 => k_is)
    (case cx4 => k_is)
    (case kx4 => k_is)
    (case ax5 => k_is)
    (case lx5 => k_is)
    (case cx5 => k_is)
    (case kx5 => k_is)
    (case ax6 => k_is)
    (case lx6 => k_is)
    (case cx6 => k_is)
    (case kx6 => k_is)
    (case ax7 => k_is)
    (case lx7 => k_is)
    (case cx7 => k_is)
    (case kx7 => k_is)
    (case ax8 => k_is)
    (case lx8 => k_is)
    (case cx8 => k_is)
    (case kx8 => k_is)
    (case ax9 => k_is)
    (case lx9 => k_is)
    (case cx9 => k_is)
    (case kx9 => k_is)
    (case ax10 => k_is)
    (case lx10 => k_is)
    (case cx10 => k_is)
    (case kx10 => k_is)
    (case ax11 => k_is)
    (case lx11 => k_is)
    (case cx11 => k_is)
    (case kx11 => k_is)
    (case ax12 => k_is)
    (case lx12 => k_is)
    (case cx12 => k_is)
    (case kx12 => k_is)
    (case ax13 => k_is)
    (case lx13 => k_is)
    (case cx13 => k_is)
    (case kx13 => k_is)
    (case ax14 => k_is)
    (case lx14 => k_is)
    (case cx14 => k_is)
    (case kx14 => k_is)
    (case ax15 => k_is)
    (case lx15 => k_is)
    (case cx15 => k_is)
    (case kx15 => k_is)
    (case ax16 => k_is)
    (case lx16 => k_is)
    (case cx16 => k_is)
    (case kx16 => k_is)
    (case ax17 => k_is)
    (case lx17 => k_is)
    (case cx17 => k_is)
    (case kx17 => k_is)
    (case ax18 => k_is)
    (case lx18 => k_is)
    (case cx18 => k_is)
    (case kx18 => k_is)
    (case no => k_is)
    (case nd => k_is)
    (case nw => k_is)
    (case nm => k_is)
    (case nt => k_is)
    (case nk => k_is)
    (case ao0 => k_is)
    (case io0 => k_is)
    (case lo0 => k_is)
    (case co0 => k_is)
    (case ko0 => k_is)
    (case ao1 => k_is)
    (case io1 => k_is)
    (case lo1 => k_is)
    (case co1 => k_is)
    (case ko1 => k_is)
    (case ao2 => k_is)
    (case io2 => k_is)
    (case lo2 => k_is)
    (case co2 => k_is)
    (case ko2 => k_is)
    (case ao3 => k_is)
    (case io3 => k_is)
    (case lo3 => k_is)
    (case co3 => k_is)
    (case ko3 => k_is)
    (case ao4 => k_is)
    (case io4 => k_is)
    (case lo4 => k_is)
    (case co4 => k_is)
    (case ko4 => k_is)
    (case ao5 => k_is)
    (case io5 => k_is)
    (case lo5 => k_is)
    (case co5 => k_is)
    (case ko5 => k_is)
    (case ad0 => k_is)
    (case id0 => k_is)
    (case ld0 => k_is)
    (case cd0 => k_is)
    (case kd0 => k_is)
    (case ad1 => k_is)
    (case id1 => k_is)
    (case ld1 => k_is)
    (case cd1 => k_is)
    (case kd1 => k_is)
    (case ad2 => k_is)
    (case id2 => k_is)
    (case ld2 => k_is)
    (case cd2 => k_is)
    (case kd2 => k_is)
    (case ad3 => k_is)
    (case id3 => k_is)
    (case ld3 => k_is)
    (case cd3 => k_is)
    (case kd3 => k_is)
    (case ad4 => k_is)
    (case id4 => k_is)
    (case ld4 => k_is)
    (case cd4 => k_is)
    (case kd4 => k_is)
    (case ad5 => k_is)
    (case id5 => k_is)
    (case ld5 => k_is)
    (case cd5 => k_is)
    (case kd5 => k_is)
    (case aw0 => k_is)
    (case iw0 => k_is)
    (case lw0 => k_is)
    (case cw0 => k_is)
    (case kw0 => k_is)
    (case aw1 => k_is)
    (case iw1 => k_is)
    (case lw1 => k_is)
    (case cw1 => k_is)
    (case kw1 => k_is)
    (case aw2 => k_is)
    (case iw2 => k_is)
    (case lw2 => k_is)
    (case cw2 => k_is)
    (case kw2 => k_is)
    (case aw3 => k_is)
    (case iw3 => k_is)
    (case lw3 => k_is)
    (case cw3 => k_is)
    (case kw3 => k_is)
    (case aw4 => k_is)
    (case iw4 => k_is)
    (case lw4 => k_is)
    (case cw4 => k_is)
    (case kw4 => k_is)
    (case aw5 => k_is)
    (case iw5 => k_is)
    (case lw5 => k_is)
    (case cw5 => k_is)
    (case kw5 => k_is)
    (case am0 => k_is)
    (case im0 => k_is)
    (case lm0 => k_is)
    (case cm0 => k_is)
    (case km0 => k_is)
    (case am1t => k_is)
    (case am1k => k_is)
    (case im1 => k_is)
    (case lm1 => k_is)
    (case cm1 => k_is)
    (case km1 => k_is)
    (case am2t => k_is)
    (case am2k => k_is)
    (case im2 => k_is)
    (case lm2 => k_is)
    (case cm2 => k_is)
    (case km2 => k_is)
    (case am4t => k_is)
    (case am4k => k_is)
    (case im4 => k_is)
    (case lm4 => k_is)
    (case cm4 => k_is)
    (case km4 => k_is)
    (case am5t => k_is)
    (case am5k => k_is)
    (case im5 => k_is)
    (case lm5 => k_is)
    (case cm5 => k_is)
    (case km5 => k_is)
    (case am6t => k_is)
    (case am6k => k_is)
    (case im6 => k_is)
    (case lm6 => k_is)
    (case cm6 => k_is)
    (case km6 => k_is)
    (case at0 => k_is)
    (case it0 => k_is)
    (case lt0 => k_is)
    (case ct0 => k_is)
    (case kt0 => k_is)
    (case at1 => k_is)
    (case it1 => k_is)
    (case lt1 => k_is)
    (case ct1 => k_is)
    (case kt1 => k_is)
    (case ak0 => k_is)
    (case ik0 => k_is)
    (case lk0 => k_is)
    (case ck0 => k_is)
    (case kk0 => k_is)
    (case ak1 => k_is)
    (case ik1 => k_is)
    (case lk1 => k_is)
    (case ck1 => k_is)
    (case kk1 => k_is)
    (case vo => k_is)
    (case rdo => k_is)
    (case gao => k_is)
    (case rdm => k_is)
    (case gam => k_is)
    (case pgo => k_is)
    (case hdo => k_is)
    (case poo => k_is)
    (case sao => k_is)
    (case mko => k_is)
    (case kco => k_is)
    (case zo0 => k_is)
    (case pgd => k_is)
    (case hdd => k_is)
    (case pod => k_is)
    (case sad => k_is)
    (case mkd => k_is)
    (case kcd => k_is)
    (case zd0 => k_is)
    (case zd1 => k_is)
    (case pgw => k_is)
    (case hdw => k_is)
    (case pow => k_is)
    (case saw => k_is)
    (case mkw => k_is)
    (case kcw => k_is)
    (case zw0 => k_is)
    (case zw1 => k_is)
    (case zw2 => k_is)
    (case zw3 => k_is)
    (case zw4 => k_is)
    (case pgt => k_is)
    (case hdt => k_is)
    (case pot => k_is)
    (case sat => k_is)
    (case mkt => k_is)
    (case kct => k_is)
    (case zt0 => k_is)
    (case zt1 => k_is)
    (case zt2 => k_is)
    (case zt3 => k_is)
    (case pgk => k_is)
    (case hdk => k_is)
    (case pok => k_is)
    (case sak => k_is)
    (case mkk => k_is)
    (case kck => k_is)
    (case zk0 => k_is)
    (case zk1 => k_is)
    (case zk2 => k_is)
    (case zk3 => k_is)
    (case zk4 => k_is)
    (case b_divmod => k_is)
    (case b_range => k_is)
    (case b_max => k_is)
    (case b_min => k_is)
    (case b_len => k_is)
    (case b_int => k_is)
    (case b_tuple => k_is)
    (case nfy => k_is)
    (case nld => k_is)
    (case nle => k_is)
    (case lL => k_is)
    (case cL => rfl)
    (case dL => rfl)
    (case zL => exact (by decide : (12 : Nat) ≤ sizeLine))
    (case vL => exact Paired.cons ⟨_, rfl⟩ (Paired.cons ⟨_, rfl⟩ (Paired.cons ⟨_, rfl⟩ (Paired.cons ⟨_, rfl⟩ (Paired.cons ⟨_, rfl⟩ (Paired.cons ⟨_, rfl⟩ (Paired.cons ⟨_, rfl⟩ (Paired.cons ⟨_, rfl⟩ (Paired.cons ⟨_, rfl⟩ (Paired.cons ⟨_, rfl⟩ (Paired.cons ⟨_, rfl⟩ (Paired.cons ⟨_, rfl⟩ (Paired.nil)))))))))))))
#print axioms PySem.Challenge.cw_guestcopies_k18_whole_rules_cut_and_begu_holds
