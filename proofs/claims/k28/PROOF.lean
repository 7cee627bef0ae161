import PyProof.Rows.All
import Wide.All
import OpenK.AllK
import Wide.FinOn
import KE.KStateDown
import HandS.Base
import HandS.Call
import HandS.List
import HandS.Ends
import HandS.Words
import HandS.WordsList
import HandS.Defaults
import HandS.Head0
import HandS.Head1
import HandS.Head2
import HandS.HeadEnd
import HandS.HeadHook1
import HandS.HeadHook2
import HandS.HeadHook3
import HandS.HeadHook4
import HandS.Comp
import HandS.Iter
import HandS.Walk
import HandS.Gcd
import HandS.Wide
import HandS.IsInst
import HandS.TupAny
import HandS.TupMul
import HandS.More
import HandS.Star
import KE.GoesEnum
import HandS.Codes
import HandS.Head3
import PySem.Challenge.RW_blendcurves_k28_whole_bounds_of_splines
set_option Elab.async false
set_option linter.all false
set_option maxRecDepth 100000
set_option maxHeartbeats 0
namespace BC
open L2 PySem PySem.Spec PyProof.Rows
def top (i : Nat) : Stmt := PySem.Challenge.pw_blendcurves_k28_whole_bounds_of_splines.main.body.getD i (.Pass ⟨0, 0, 0, 0⟩)
abbrev s_is_int : Stmt := top 8
abbrev s_is_from : Stmt := top 9
abbrev s_is_ratio : Stmt := top 10
abbrev s_made : Stmt := top 11
abbrev s_plus : Stmt := top 12
abbrev s_less : Stmt := top 13
abbrev s_times : Stmt := top 14
abbrev s_over : Stmt := top 15
abbrev s_negative : Stmt := top 16
abbrev s_is_below : Stmt := top 17
abbrev s_between : Stmt := top 18
abbrev s_are_ratios : Stmt := top 19
abbrev s_trimmed : Stmt := top 21
abbrev s_p_plus : Stmt := top 22
abbrev s_p_scaled : Stmt := top 23
abbrev s_p_times : Stmt := top 24
abbrev s_faults_of : Stmt := top 28
abbrev s_basis_poly : Stmt := top 29
abbrev s_need_spline : Stmt := top 31
abbrev s_span_of : Stmt := top 32
abbrev s_spline_at : Stmt := top 33
abbrev s_spline_value : Stmt := top 34
abbrev s_pieces_of : Stmt := top 35
abbrev s_spline_pieces : Stmt := top 36
abbrev s__law_taken : Stmt := top 38
abbrev s__law_pick : Stmt := top 39
abbrev s__law_made : Stmt := top 40
abbrev s__law_plus : Stmt := top 41
abbrev s__law_minus : Stmt := top 42
abbrev s__law_times : Stmt := top 43
abbrev s__law_below : Stmt := top 44
abbrev s__law_draw : Stmt := top 45
abbrev s__law_middle : Stmt := top 46
abbrev s__law_spline : Stmt := top 47
abbrev s__law_within : Stmt := top 48
abbrev s_law : Stmt := top 49
end BC
/-! Ratios as core rationals: what gcd and // make of two ints. -/
namespace BC
theorem md_gpos (t : Int) {l : Int} (hl : 0 < l) : (0 : Int) < ((Nat.gcd t.natAbs l.natAbs : Nat) : Int) := by
  have h : 0 < Nat.gcd t.natAbs l.natAbs := Nat.gcd_pos_of_pos_right _ (by omega)
  omega
theorem md_gle (t : Int) {l : Int} (hl : 0 < l) : ((Nat.gcd t.natAbs l.natAbs : Nat) : Int).natAbs ≤ l.natAbs := by
  have h : Nat.gcd t.natAbs l.natAbs ≤ l.natAbs := Nat.gcd_le_right _ (by omega)
  omega
theorem md_num (t : Int) {l : Int} (hl : 0 < l) : t / ((Nat.gcd t.natAbs l.natAbs : Nat) : Int) = (Rat.divInt t l).num := by
  rw [Rat.num_divInt, Int.sign_eq_one_of_pos hl, Int.one_mul, Int.gcd_comm]
  rfl
theorem md_den (t : Int) {l : Int} (hl : 0 < l) : l / ((Nat.gcd t.natAbs l.natAbs : Nat) : Int) = (((Rat.divInt t l).den : Nat) : Int) := by
  rw [Rat.den_divInt, if_neg (by omega), Int.gcd_comm]
  have e : ((l.natAbs : Nat) : Int) = l := by omega
  rw [Int.natCast_ediv, e]
  rfl
theorem dn_pos (q : Rat) : (0 : Int) < ((q.den : Nat) : Int) := by
  have := q.den_pos
  omega
theorem md_add (a b : Rat) : Rat.divInt (a.num * b.den + b.num * a.den) (a.den * b.den) = a + b := by
  rw [Rat.add_def']
  have e : ((a.den : Int) * (b.den : Int)) = ((a.den * b.den : Nat) : Int) := by simp
  rw [e, Rat.divInt_ofNat]
theorem md_sub (a b : Rat) : Rat.divInt (a.num * b.den - b.num * a.den) (a.den * b.den) = a - b := by
  rw [Rat.sub_def']
  have e : ((a.den : Int) * (b.den : Int)) = ((a.den * b.den : Nat) : Int) := by simp
  rw [e, Rat.divInt_ofNat]
theorem md_mul (a b : Rat) : Rat.divInt (a.num * b.num) (a.den * b.den) = a * b := by
  rw [Rat.mul_def']
  have e : ((a.den : Int) * (b.den : Int)) = ((a.den * b.den : Nat) : Int) := by simp
  rw [e, Rat.divInt_ofNat]
theorem md_div (a b : Rat) : Rat.divInt (a.num * b.den) (a.den * b.num) = a / b := by
  rw [Rat.div_def, Rat.inv_def]
  conv => rhs; rw [← Rat.num_divInt_den a]
  rw [Rat.divInt_mul_divInt]
theorem num_pos {b : Rat} (h : 0 < b) : 0 < b.num := by
  have := (Rat.lt_iff 0 b).mp h
  simpa using this
/-- neither part has more than sz bits -/
def sz : Nat := 4000
def Sm (q : Rat) : Prop := q.num.natAbs < 2 ^ sz ∧ q.den < 2 ^ sz
end BC
/-! Sizes of rationals; polynomials as lists of coefficients: sums, products, values. -/
namespace BC
/-! ### sizes -/
def Bd (M B : Nat) (q : Rat) : Prop := (∃ n : Int, q * (M : Rat) = (n : Rat)) ∧ -(B : Rat) ≤ q ∧ q ≤ (B : Rat)
theorem Bd.add {M B C : Nat} {p q : Rat} (h : Bd M B p) (k : Bd M C q) : Bd M (B + C) (p + q) := by
  obtain ⟨⟨n, hn⟩, h1, h2⟩ := h
  obtain ⟨⟨m, hm⟩, k1, k2⟩ := k
  refine ⟨⟨n + m, ?_⟩, ?_, ?_⟩
  · rw [Rat.intCast_add, ← hn, ← hm, Rat.add_mul]
  · rw [Rat.natCast_add]
    grind
  · rw [Rat.natCast_add]
    grind
theorem Bd.neg {M B : Nat} {p : Rat} (h : Bd M B p) : Bd M B (-p) := by
  obtain ⟨⟨n, hn⟩, h1, h2⟩ := h
  refine ⟨⟨-n, ?_⟩, ?_, ?_⟩
  · rw [Rat.intCast_neg, ← hn, Rat.neg_mul]
  · grind
  · grind
theorem Bd.sub {M B C : Nat} {p q : Rat} (h : Bd M B p) (k : Bd M C q) : Bd M (B + C) (p - q) := by
  rw [Rat.sub_eq_add_neg]
  exact h.add k.neg
theorem abs_mul_le {p q b c : Rat} (h1 : -b ≤ p) (h2 : p ≤ b) (k1 : -c ≤ q) (k2 : q ≤ c) : -(b * c) ≤ p * q ∧ p * q ≤ b * c := by
  have hb : 0 ≤ b := by grind
  have hc : 0 ≤ c := by grind
  have a1 : 0 ≤ (b - p) * (c + q) := Rat.mul_nonneg (by grind) (by grind)
  have a2 : 0 ≤ (b + p) * (c - q) := Rat.mul_nonneg (by grind) (by grind)
  have a3 : 0 ≤ (b - p) * (c - q) := Rat.mul_nonneg (by grind) (by grind)
  have a4 : 0 ≤ (b + p) * (c + q) := Rat.mul_nonneg (by grind) (by grind)
  constructor <;> grind
theorem Bd.mul {M N B C : Nat} {p q : Rat} (h : Bd M B p) (k : Bd N C q) : Bd (M * N) (B * C) (p * q) := by
  obtain ⟨⟨n, hn⟩, h1, h2⟩ := h
  obtain ⟨⟨m, hm⟩, k1, k2⟩ := k
  refine ⟨⟨n * m, ?_⟩, ?_⟩
  · rw [Rat.intCast_mul, ← hn, ← hm, Rat.natCast_mul]
    grind
  · rw [Rat.natCast_mul]
    exact abs_mul_le h1 h2 k1 k2
theorem Bd.mono {M B C : Nat} {p : Rat} (h : Bd M B p) (e : B ≤ C) : Bd M C p := by
  have e' : (B : Rat) ≤ (C : Rat) := Rat.natCast_le_natCast.mpr e
  obtain ⟨a, h1, h2⟩ := h
  exact ⟨a, by grind, by grind⟩
theorem Bd.wide {M N B : Nat} {p : Rat} (h : Bd M B p) (e : M ∣ N) : Bd N B p := by
  obtain ⟨⟨n, hn⟩, h1, h2⟩ := h
  obtain ⟨k, rfl⟩ := e
  refine ⟨⟨n * (k : Int), ?_⟩, h1, h2⟩
  rw [Rat.intCast_mul, ← hn, Rat.natCast_mul, Rat.intCast_natCast]
  grind
theorem Bd.zero {M B : Nat} : Bd M B 0 := ⟨⟨0, by simp⟩, by
  have := Rat.natCast_nonneg (a := B)
  grind, Rat.natCast_nonneg⟩
theorem bd_int {B : Nat} {i : Int} (h1 : -(B : Int) ≤ i) (h2 : i ≤ B) : Bd 1 B (i : Rat) := by
  refine ⟨⟨i, by simp⟩, ?_, ?_⟩
  · have z := Rat.intCast_le_intCast.mpr h1
    rw [Rat.intCast_neg, Rat.intCast_natCast] at z
    exact z
  · have z := Rat.intCast_le_intCast.mpr h2
    rw [Rat.intCast_natCast] at z
    exact z
theorem num_eq (q : Rat) : (q.num : Rat) = q * (q.den : Rat) := by
  have h : (q.den : Rat) ≠ 0 := by
    intro e
    exact q.den_nz (by exact_mod_cast e)
  have e : (q.num : Rat) / (q.den : Rat) = q := by rw [← Rat.mkRat_eq_div, Rat.mkRat_self]
  have z : (q.num : Rat) / (q.den : Rat) * (q.den : Rat) = (q.num : Rat) := Rat.div_mul_cancel h
  rw [e] at z
  exact z.symm
theorem den_dvd {M : Nat} {q : Rat} {n : Int} (hM : M ≠ 0) (h : q * (M : Rat) = (n : Rat)) : q.den ∣ M := by
  have e : q = mkRat n M := by
    rw [Rat.mkRat_eq_div]
    have h0 : (M : Rat) ≠ 0 := by
      intro z
      exact hM (by exact_mod_cast z)
    grind
  rw [e, Rat.den_mkRat, if_neg hM]
  exact Nat.div_dvd_of_dvd (Nat.gcd_dvd_left _ _)
theorem Bd.sm {M B : Nat} {q : Rat} (h : Bd M B q) (hM : M ≠ 0) (h1 : M < 2 ^ sz) (h2 : B * M < 2 ^ sz) : Sm q := by
  obtain ⟨⟨n, hn⟩, a1, a2⟩ := h
  have hd := Nat.le_of_dvd (Nat.pos_of_ne_zero hM) (den_dvd hM hn)
  refine ⟨?_, Nat.lt_of_le_of_lt hd h1⟩
  have hp : (0 : Rat) ≤ (q.den : Rat) := Rat.natCast_nonneg
  have b1 : (q.num : Rat) ≤ ((B * q.den : Nat) : Rat) := by
    rw [num_eq, Rat.natCast_mul]
    exact Rat.mul_le_mul_of_nonneg_right a2 hp
  have b2 : (-((B * q.den : Nat) : Rat)) ≤ (q.num : Rat) := by
    rw [num_eq, Rat.natCast_mul, ← Rat.neg_mul]
    exact Rat.mul_le_mul_of_nonneg_right a1 hp
  have c1 : q.num ≤ ((B * q.den : Nat) : Int) := by exact_mod_cast b1
  have c2 : -((B * q.den : Nat) : Int) ≤ q.num := by
    refine Rat.intCast_le_intCast.mp ?_
    rw [Rat.intCast_neg, Rat.intCast_natCast]
    exact b2
  have d : B * q.den ≤ B * M := Nat.mul_le_mul_left B hd
  omega
/-! ### polynomials -/
def ev : List Rat → Rat → Rat
  | [], _ => 0
  | c :: r, t => c + t * ev r t
def trimN (l : List Rat) : Nat → Nat
  | 0 => 0
  | n + 1 => if l.getD n 0 = 0 then trimN l n else n + 1
def trim (l : List Rat) : List Rat := l.take (trimN l l.length)
def pPlus (a b : List Rat) : List Rat := trim (List.zipWith (· + ·) (a ++ List.replicate (max a.length b.length - a.length) 0) (b ++ List.replicate (max a.length b.length - b.length) 0))
def pScaled (p : List Rat) (c : Rat) : List Rat := trim (p.map (· * c))
def cIn (b : List Rat) (place : Nat) (x : Rat) (f : List Rat) : Nat → List Rat
  | 0 => f
  | i + 1 => (cIn b place x f i).set (place + i) ((cIn b place x f i).getD (place + i) 0 + x * b.getD i 0)
def cOut (a b : List Rat) : Nat → List Rat
  | 0 => List.replicate (a.length + b.length - 1) 0
  | i + 1 => cIn b i (a.getD i 0) (cOut a b i) b.length
def pTimes (a b : List Rat) : List Rat := if a = [] ∨ b = [] then [] else cOut a b a.length
theorem trimN_le (l : List Rat) : ∀ n, trimN l n ≤ n
  | 0 => Nat.le_refl _
  | n + 1 => by
    unfold trimN
    split
    · exact Nat.le_succ_of_le (trimN_le l n)
    · exact Nat.le_refl _
theorem trimN_zero (l : List Rat) : ∀ n i, trimN l n ≤ i → i < n → l.getD i 0 = 0
  | 0, i, _, h => absurd h (Nat.not_lt_zero _)
  | n + 1, i, h1, h2 => by
    unfold trimN at h1
    split at h1
    · rename_i hz
      by_cases e : i = n
      · rw [e]
        exact hz
      · exact trimN_zero l n i h1 (by omega)
    · omega
theorem ev_take : ∀ (l : List Rat) (n : Nat) (t : Rat), (∀ i, n ≤ i → l.getD i 0 = 0) → ev (l.take n) t = ev l t
  | [], n, t, _ => by simp [ev]
  | c :: r, 0, t, h => by
    have h0 : c = 0 := by simpa using h 0 (Nat.le_refl _)
    have ih := ev_take r 0 t fun i hi => by simpa using h (i + 1) (Nat.zero_le _)
    have e0 : ev (r.take 0) t = 0 := by simp [ev]
    rw [e0] at ih
    show (0 : Rat) = c + t * ev r t
    rw [h0, ← ih]
    grind
  | c :: r, n + 1, t, h => by
    have ih := ev_take r n t fun i hi => by simpa using h (i + 1) (by omega)
    show c + t * ev (r.take n) t = c + t * ev r t
    rw [ih]
theorem ev_trim (l : List Rat) (t : Rat) : ev (trim l) t = ev l t := by
  refine ev_take l _ t fun i hi => ?_
  by_cases h : i < l.length
  · exact trimN_zero l _ i hi h
  · rw [List.getD_eq_getElem?_getD, List.getElem?_eq_none (by omega)]
    rfl
theorem ev_zeros : ∀ (n : Nat) (t : Rat), ev (List.replicate n 0) t = 0
  | 0, _ => rfl
  | n + 1, t => by
    show (0 : Rat) + t * ev (List.replicate n 0) t = 0
    rw [ev_zeros n t]
    grind
theorem ev_pad : ∀ (a : List Rat) (n : Nat) (t : Rat), ev (a ++ List.replicate n 0) t = ev a t
  | [], n, t => ev_zeros n t
  | c :: r, n, t => by
    show c + t * ev (r ++ List.replicate n 0) t = c + t * ev r t
    rw [ev_pad r n t]
theorem ev_zip : ∀ (a b : List Rat) (t : Rat), a.length = b.length → ev (List.zipWith (· + ·) a b) t = ev a t + ev b t
  | [], [], t, _ => by
    show (0 : Rat) = 0 + 0
    grind
  | [], _ :: _, t, h => by simp at h
  | _ :: _, [], t, h => by simp at h
  | x :: a, y :: b, t, h => by
    have ih := ev_zip a b t (by simpa using h)
    show (x + y) + t * ev (List.zipWith (· + ·) a b) t = (x + t * ev a t) + (y + t * ev b t)
    rw [ih]
    grind
theorem ev_plus (a b : List Rat) (t : Rat) : ev (pPlus a b) t = ev a t + ev b t := by
  unfold pPlus
  rw [ev_trim, ev_zip _ _ _ (by simp; omega), ev_pad, ev_pad]
theorem ev_map : ∀ (a : List Rat) (c t : Rat), ev (a.map (· * c)) t = ev a t * c
  | [], c, t => by simp [ev]
  | x :: a, c, t => by
    show x * c + t * ev (a.map (· * c)) t = (x + t * ev a t) * c
    rw [ev_map a c t]
    grind
theorem ev_scaled (a : List Rat) (c t : Rat) : ev (pScaled a c) t = ev a t * c := by
  unfold pScaled
  rw [ev_trim, ev_map]
theorem ev_set : ∀ (f : List Rat) (k : Nat) (c t : Rat), k < f.length → ev (f.set k (f.getD k 0 + c)) t = ev f t + c * t ^ k
  | [], k, c, t, h => absurd h (Nat.not_lt_zero _)
  | x :: f, 0, c, t, _ => by
    show (x + c) + t * ev f t = (x + t * ev f t) + c * t ^ 0
    rw [Rat.pow_zero]
    grind
  | x :: f, k + 1, c, t, h => by
    have ih := ev_set f k c t (by simpa using h)
    show x + t * ev (f.set k (f.getD k 0 + c)) t = (x + t * ev f t) + c * t ^ (k + 1)
    rw [ih, Rat.pow_succ]
    grind
theorem ev_take_succ : ∀ (b : List Rat) (i : Nat) (t : Rat), i < b.length → ev (b.take (i + 1)) t = ev (b.take i) t + b.getD i 0 * t ^ i
  | [], i, t, h => absurd h (Nat.not_lt_zero _)
  | x :: b, 0, t, _ => by
    show x + t * ev (b.take 0) t = 0 + x * t ^ 0
    rw [Rat.pow_zero]
    show x + t * 0 = 0 + x * 1
    grind
  | x :: b, i + 1, t, h => by
    have ih := ev_take_succ b i t (by simpa using h)
    show x + t * ev (b.take (i + 1)) t = (x + t * ev (b.take i) t) + b.getD i 0 * t ^ (i + 1)
    rw [ih, Rat.pow_succ]
    grind
theorem cIn_len (b : List Rat) (place : Nat) (x : Rat) (f : List Rat) : ∀ i, (cIn b place x f i).length = f.length
  | 0 => rfl
  | i + 1 => by
    unfold cIn
    rw [List.length_set, cIn_len b place x f i]
theorem cOut_len (a b : List Rat) : ∀ i, (cOut a b i).length = a.length + b.length - 1
  | 0 => by simp [cOut]
  | i + 1 => by
    unfold cOut
    rw [cIn_len, cOut_len a b i]
theorem ev_cIn (b : List Rat) (place : Nat) (x : Rat) (f : List Rat) (t : Rat) : ∀ i, i ≤ b.length → place + b.length ≤ f.length → ev (cIn b place x f i) t = ev f t + x * t ^ place * ev (b.take i) t
  | 0, _, _ => by
    show ev f t = ev f t + x * t ^ place * 0
    grind
  | i + 1, h, hl => by
    have ih := ev_cIn b place x f t i (by omega) hl
    unfold cIn
    rw [ev_set _ _ _ _ (by rw [cIn_len]; omega), ih, ev_take_succ b i t (by omega)]
    have e : t ^ (place + i) = t ^ place * t ^ i := by
      clear ih hl h
      induction i with
      | zero => rw [Nat.add_zero, Rat.pow_zero, Rat.mul_one]
      | succ n ihn => rw [← Nat.add_assoc, Rat.pow_succ, Rat.pow_succ, ihn, Rat.mul_assoc]
    rw [e]
    grind
theorem ev_cOut (a b : List Rat) (t : Rat) : ∀ i, i ≤ a.length → ev (cOut a b i) t = ev (a.take i) t * ev b t
  | 0, _ => by
    show ev (List.replicate _ 0) t = 0 * ev b t
    rw [ev_zeros]
    simp
  | i + 1, h => by
    have ih := ev_cOut a b t i (by omega)
    unfold cOut
    by_cases hb : b.length = 0
    · have e : b = [] := List.length_eq_zero_iff.mp hb
      subst e
      show ev (cOut a [] i) t = _
      rw [ih]
      show _ * 0 = _ * 0
      simp
    · rw [ev_cIn _ _ _ _ _ _ (Nat.le_refl _) (by rw [cOut_len]; omega), ih, ev_take_succ a i t (by omega), List.take_length]
      grind
theorem ev_times (a b : List Rat) (t : Rat) : ev (pTimes a b) t = ev a t * ev b t := by
  unfold pTimes
  split
  · rename_i h
    rcases h with rfl | rfl
    · show (0 : Rat) = 0 * _
      simp
    · show (0 : Rat) = _ * 0
      simp
  · rw [ev_cOut a b t _ (Nat.le_refl _), List.take_length]
/-! ### sizes of coefficients -/
def AllB (M B : Nat) (l : List Rat) : Prop := ∀ c ∈ l, Bd M B c
theorem AllB.mono {M B C : Nat} {l : List Rat} (h : AllB M B l) (e : B ≤ C) : AllB M C l := fun c hc => (h c hc).mono e
theorem AllB.getD {M B : Nat} {l : List Rat} (h : AllB M B l) (i : Nat) : Bd M B (l.getD i 0) := by
  simp only [List.getD_eq_getElem?_getD]
  cases e : l[i]? with
  | none => exact Bd.zero
  | some c => exact h c (List.mem_of_getElem? e)
theorem AllB.trim {M B : Nat} {l : List Rat} (h : AllB M B l) : AllB M B (trim l) := fun c hc => h c (List.mem_of_mem_take hc)
theorem AllB.zeros {M B n : Nat} : AllB M B (List.replicate n 0) := fun c hc => by
  rw [(List.mem_replicate.mp hc).2]
  exact Bd.zero
theorem AllB.pad {M B n : Nat} {l : List Rat} (h : AllB M B l) : AllB M B (l ++ List.replicate n 0) := fun c hc => by
  rcases List.mem_append.mp hc with z | z
  · exact h c z
  · exact AllB.zeros c z
theorem AllB.zip {M B C : Nat} : ∀ {a b : List Rat}, AllB M B a → AllB M C b → AllB M (B + C) (List.zipWith (· + ·) a b)
  | [], _, _, _ => fun c hc => by simp at hc
  | _ :: _, [], _, _ => fun c hc => by simp at hc
  | x :: a, y :: b, h, k => fun c hc => by
    rcases List.mem_cons.mp (show c ∈ (x + y) :: List.zipWith (· + ·) a b from hc) with rfl | z
    · exact (h x List.mem_cons_self).add (k y List.mem_cons_self)
    · exact AllB.zip (fun d hd => h d (List.mem_cons_of_mem _ hd)) (fun d hd => k d (List.mem_cons_of_mem _ hd)) c z
theorem AllB.plus {M B C : Nat} {a b : List Rat} (h : AllB M B a) (k : AllB M C b) : AllB M (B + C) (pPlus a b) := (AllB.zip h.pad k.pad).trim
theorem AllB.scaled {M N B C : Nat} {p : List Rat} {c : Rat} (h : AllB M B p) (k : Bd N C c) : AllB (M * N) (B * C) (pScaled p c) := AllB.trim fun d hd => by
  obtain ⟨e, he, rfl⟩ := List.mem_map.mp hd
  exact (h e he).mul k
theorem AllB.set {M B C : Nat} {f : List Rat} {k : Nat} {c : Rat} (h : AllB M B f) (hc : Bd M C c) : AllB M (B + C) (f.set k (f.getD k 0 + c)) := fun d hd => by
  rcases List.mem_or_eq_of_mem_set hd with z | z
  · exact (h d z).mono (Nat.le_add_right _ _)
  · rw [z]
    exact (h.getD k).add hc
theorem cIn_bd {M N B C D : Nat} {b f : List Rat} {place : Nat} {x : Rat} (hb : AllB N C b) (hx : Bd M B x) (hf : AllB (M * N) D f) : ∀ i, AllB (M * N) (D + i * (B * C)) (cIn b place x f i)
  | 0 => by simpa [cIn] using hf
  | i + 1 => by
    have ih := cIn_bd (place := place) hb hx hf i
    unfold cIn
    have z := ih.set (k := place + i) (hx.mul (hb.getD i))
    rw [Nat.add_mul, Nat.one_mul, ← Nat.add_assoc]
    exact z
theorem cOut_bd {M N B C : Nat} {a b : List Rat} (ha : AllB M B a) (hb : AllB N C b) : ∀ i, AllB (M * N) (i * (b.length * (B * C))) (cOut a b i)
  | 0 => AllB.zeros
  | i + 1 => by
    have ih := cOut_bd ha hb i
    unfold cOut
    have z := cIn_bd (place := i) hb (ha.getD i) ih b.length
    rw [Nat.add_mul, Nat.one_mul]
    exact z
theorem AllB.times {M N B C : Nat} {a b : List Rat} (ha : AllB M B a) (hb : AllB N C b) : AllB (M * N) (a.length * (b.length * (B * C))) (pTimes a b) := by
  unfold pTimes
  split
  · intro c hc
    simp at hc
  · exact cOut_bd ha hb _
/-! ### lengths -/
theorem trim_len (l : List Rat) : (trim l).length ≤ l.length := by
  unfold trim
  rw [List.length_take]
  omega
theorem plus_len (a b : List Rat) : (pPlus a b).length ≤ max a.length b.length := by
  refine Nat.le_trans (trim_len _) ?_
  simp
  omega
theorem scaled_len (p : List Rat) (c : Rat) : (pScaled p c).length ≤ p.length := by
  refine Nat.le_trans (trim_len _) ?_
  simp
theorem times_len (a b : List Rat) : (pTimes a b).length ≤ a.length + b.length - 1 := by
  unfold pTimes
  split
  · simp
  · rw [cOut_len]
    omega
end BC
/-! Knots, basis polynomials, pieces: sizes, support, sign. -/
namespace BC
def LC : Nat := 1289494614414635084884678239799219980907919666679843581569982055265585117488000
theorem LC_dvd : ∀ m, m < 181 → m = 0 ∨ LC % m = 0 := by decide +kernel
abbrev kn (ks : List Rat) (i : Nat) : Rat := ks.getD i 0
/-- knots of splines as the law builds them -/
structure KOk (d : Nat) (ks : List Rat) : Prop where
  d4 : d ≤ 4
  len : 2 * d + 2 ≤ ks.length
  len16 : ks.length ≤ 16
  mono : ∀ i j, i ≤ j → j < ks.length → kn ks i ≤ kn ks j
  lo : ∀ i, i ≤ d → kn ks i = kn ks 0
  hi : ∀ i, ks.length - d - 1 ≤ i → i < ks.length → kn ks i = kn ks (ks.length - 1)
  mult : ∀ i, i + d + 1 < ks.length → kn ks i < kn ks (i + d + 1)
  bd : ∀ i, Bd 12 30 (kn ks i)
  span : ∀ i j, i < ks.length → j < ks.length → kn ks j - kn ks i ≤ 15
theorem part_bd {a b : Rat} {B C : Nat} (ha : Bd 12 B a) (hb : Bd 12 C b) (h : a < b) (hs : b - a ≤ 15) : Bd LC 12 (1 / (b - a)) := by
  obtain ⟨⟨n, hn⟩, _⟩ := ha
  obtain ⟨⟨m, hm⟩, _⟩ := hb
  have hd : 0 < b - a := by grind
  have h0 : (b - a) ≠ 0 := by grind
  have em : (b - a) * 12 = ((m - n : Int) : Rat) := by
    rw [Rat.intCast_sub, ← hn, ← hm]
    grind
  have p1 : 0 < m - n := by
    have : (0 : Rat) < ((m - n : Int) : Rat) := by
      rw [← em]
      grind
    exact Rat.intCast_pos.mp this
  have p2 : m - n ≤ 180 := by
    have : ((m - n : Int) : Rat) ≤ ((180 : Int) : Rat) := by
      rw [← em]
      grind
    exact Rat.intCast_le_intCast.mp this
  obtain ⟨k, hk⟩ : ∃ k : Nat, m - n = (k : Int) := ⟨(m - n).toNat, by omega⟩
  have hk1 : 0 < k := by omega
  have hk2 : k < 181 := by omega
  obtain ⟨q, hq⟩ : k ∣ LC := by
    rcases LC_dvd k hk2 with z | z
    · omega
    · exact Nat.dvd_of_mod_eq_zero z
  rw [hk, Rat.intCast_natCast] at em
  have one_le : (1 : Rat) ≤ (k : Rat) := by
    have := Rat.natCast_le_natCast.mpr hk1
    simpa using this
  have hl : (1 : Rat) / (b - a) * (b - a) = 1 := Rat.div_mul_cancel h0
  refine ⟨⟨12 * (q : Int), ?_⟩, ?_, ?_⟩
  · rw [hq, Rat.natCast_mul, Rat.intCast_mul, Rat.intCast_natCast, ← em]
    show 1 / (b - a) * ((b - a) * 12 * (q : Rat)) = (12 : Rat) * (q : Rat)
    grind
  · have : (0 : Rat) ≤ 1 / (b - a) := by
      have z : (0 : Rat) < (b - a)⁻¹ := Rat.inv_pos.mpr hd
      rw [Rat.div_def]
      grind
    have c : -((12 : Nat) : Rat) ≤ 0 := by
      show -(12 : Rat) ≤ 0
      decide +kernel
    grind
  · show 1 / (b - a) ≤ ((12 : Nat) : Rat)
    refine Rat.le_of_mul_le_mul_right (c := b - a) ?_ hd
    rw [hl]
    show (1 : Rat) ≤ (12 : Rat) * (b - a)
    grind
/-! ### basis polynomials -/
def line1 (lo hi : Rat) : List Rat := [(-lo) * (1 / (hi - lo)), 1 / (hi - lo)]
def line2 (lo hi : Rat) : List Rat := [hi * (1 / (hi - lo)), -(1 / (hi - lo))]
def bas (ks : List Rat) : Nat → Nat → Nat → List Rat
  | 0, i, pl => if i = pl then [1] else []
  | e + 1, i, pl =>
    let f := if kn ks i = kn ks (i + (e + 1)) then [] else pTimes (line1 (kn ks i) (kn ks (i + (e + 1)))) (bas ks e i pl)
    if kn ks (i + 1) = kn ks (i + (e + 1) + 1) then f else pPlus f (pTimes (line2 (kn ks (i + 1)) (kn ks (i + (e + 1) + 1))) (bas ks e (i + 1) pl))
def MB (e : Nat) : Nat := (12 * LC) ^ e
def CB (e : Nat) : Nat := 7200 ^ e
theorem line1_bd {d : Nat} {ks : List Rat} (h : KOk d ks) {i j : Nat} (hi : i < ks.length) (hj : j < ks.length) (hlt : kn ks i < kn ks j) : AllB (12 * LC) 360 (line1 (kn ks i) (kn ks j)) := fun c hc => by
  have p := part_bd (h.bd i) (h.bd j) hlt (h.span i j hi hj)
  have e : c = (-kn ks i) * (1 / (kn ks j - kn ks i)) ∨ c = 1 / (kn ks j - kn ks i) := by simpa [line1] using hc
  rcases e with rfl | rfl
  · exact (h.bd i).neg.mul p
  · exact (p.wide (Nat.dvd_mul_left _ _)).mono (by decide)
theorem line2_bd {d : Nat} {ks : List Rat} (h : KOk d ks) {i j : Nat} (hi : i < ks.length) (hj : j < ks.length) (hlt : kn ks i < kn ks j) : AllB (12 * LC) 360 (line2 (kn ks i) (kn ks j)) := fun c hc => by
  have p := part_bd (h.bd i) (h.bd j) hlt (h.span i j hi hj)
  have e : c = kn ks j * (1 / (kn ks j - kn ks i)) ∨ c = -(1 / (kn ks j - kn ks i)) := by simpa [line2] using hc
  rcases e with rfl | rfl
  · exact (h.bd j).mul p
  · exact ((p.wide (Nat.dvd_mul_left _ _)).mono (by decide)).neg
theorem lt_of_ne {d : Nat} {ks : List Rat} (h : KOk d ks) {i j : Nat} (hij : i ≤ j) (hj : j < ks.length) (hne : ¬ kn ks i = kn ks j) : kn ks i < kn ks j := by
  have := h.mono i j hij hj
  grind
theorem bas_len (ks : List Rat) : ∀ e i pl, (bas ks e i pl).length ≤ e + 1
  | 0, i, pl => by
    unfold bas
    split <;> simp
  | e + 1, i, pl => by
    have h1 := bas_len ks e i pl
    have h2 := bas_len ks e (i + 1) pl
    have t1 := times_len (line1 (kn ks i) (kn ks (i + (e + 1)))) (bas ks e i pl)
    have t2 := times_len (line2 (kn ks (i + 1)) (kn ks (i + (e + 1) + 1))) (bas ks e (i + 1) pl)
    have l1 : (line1 (kn ks i) (kn ks (i + (e + 1)))).length = 2 := rfl
    have l2 : (line2 (kn ks (i + 1)) (kn ks (i + (e + 1) + 1))).length = 2 := rfl
    have hf : (if kn ks i = kn ks (i + (e + 1)) then [] else pTimes (line1 (kn ks i) (kn ks (i + (e + 1)))) (bas ks e i pl)).length ≤ e + 2 := by
      split
      · simp
      · omega
    unfold bas
    dsimp only
    generalize (if kn ks i = kn ks (i + (e + 1)) then [] else pTimes (line1 (kn ks i) (kn ks (i + (e + 1)))) (bas ks e i pl)) = f at hf
    split
    · exact hf
    · have p := plus_len f (pTimes (line2 (kn ks (i + 1)) (kn ks (i + (e + 1) + 1))) (bas ks e (i + 1) pl))
      omega
theorem bas_bd {d : Nat} {ks : List Rat} (h : KOk d ks) : ∀ e i pl, e ≤ 4 → i + e + 1 < ks.length → AllB (MB e) (CB e) (bas ks e i pl)
  | 0, i, pl, _, _ => by
    unfold bas
    split
    · intro c hc
      have e : c = 1 := by simpa using hc
      rw [e]
      refine ⟨⟨1, by decide +kernel⟩, by decide +kernel, by decide +kernel⟩
    · intro c hc
      simp at hc
  | e + 1, i, pl, he, hl => by
    have h1 := bas_bd h e i pl (by omega) (by omega)
    have h2 := bas_bd h e (i + 1) pl (by omega) (by omega)
    have b1 := bas_len ks e i pl
    have b2 := bas_len ks e (i + 1) pl
    have em : MB (e + 1) = 12 * LC * MB e := by
      unfold MB
      rw [Nat.pow_succ, Nat.mul_comm]
    have ec : CB (e + 1) = 7200 * CB e := by
      unfold CB
      rw [Nat.pow_succ, Nat.mul_comm]
    have key : ∀ n, n ≤ e + 1 → 2 * (n * (360 * CB e)) ≤ 3600 * CB e := fun n hn => by
      have a : n * (360 * CB e) ≤ 5 * (360 * CB e) := Nat.mul_le_mul_right _ (by omega)
      omega
    have f1 : ∀ hne : ¬ kn ks i = kn ks (i + (e + 1)), AllB (MB (e + 1)) (3600 * CB e) (pTimes (line1 (kn ks i) (kn ks (i + (e + 1)))) (bas ks e i pl)) := fun hne => by
      rw [em]
      exact (AllB.times (line1_bd h (by omega) (by omega) (lt_of_ne h (by omega) (by omega) hne)) h1).mono (key _ b1)
    have f2 : ∀ hne : ¬ kn ks (i + 1) = kn ks (i + (e + 1) + 1), AllB (MB (e + 1)) (3600 * CB e) (pTimes (line2 (kn ks (i + 1)) (kn ks (i + (e + 1) + 1))) (bas ks e (i + 1) pl)) := fun hne => by
      rw [em]
      exact (AllB.times (line2_bd h (by omega) (by omega) (lt_of_ne h (by omega) (by omega) hne)) h2).mono (key _ b2)
    have hf : AllB (MB (e + 1)) (3600 * CB e) (if kn ks i = kn ks (i + (e + 1)) then [] else pTimes (line1 (kn ks i) (kn ks (i + (e + 1)))) (bas ks e i pl)) := by
      split
      · intro c hc
        simp at hc
      · rename_i hne
        exact f1 hne
    unfold bas
    dsimp only
    split
    · exact hf.mono (by omega)
    · rename_i hne
      exact (AllB.plus hf (f2 hne)).mono (by omega)
/-! values of the lines -/
theorem ev_line1 (lo hi t : Rat) : ev (line1 lo hi) t = (t - lo) * (1 / (hi - lo)) := by
  show (-lo) * (1 / (hi - lo)) + t * (1 / (hi - lo) + t * 0) = (t - lo) * (1 / (hi - lo))
  grind
theorem ev_line2 (lo hi t : Rat) : ev (line2 lo hi) t = (hi - t) * (1 / (hi - lo)) := by
  show hi * (1 / (hi - lo)) + t * (-(1 / (hi - lo)) + t * 0) = (hi - t) * (1 / (hi - lo))
  grind
theorem ev_bas_succ (ks : List Rat) (e i pl : Nat) (t : Rat) : ev (bas ks (e + 1) i pl) t =
    (if kn ks i = kn ks (i + (e + 1)) then 0 else (t - kn ks i) * (1 / (kn ks (i + (e + 1)) - kn ks i)) * ev (bas ks e i pl) t) +
    (if kn ks (i + 1) = kn ks (i + (e + 1) + 1) then 0 else (kn ks (i + (e + 1) + 1) - t) * (1 / (kn ks (i + (e + 1) + 1) - kn ks (i + 1))) * ev (bas ks e (i + 1) pl) t) := by
  conv => lhs; unfold bas
  dsimp only
  by_cases h1 : kn ks i = kn ks (i + (e + 1))
  · by_cases h2 : kn ks (i + 1) = kn ks (i + (e + 1) + 1)
    · rw [if_pos h1, if_pos h2, if_pos h1, if_pos h2]
      show (0 : Rat) = 0 + 0
      grind
    · rw [if_pos h1, if_neg h2, if_pos h1, if_neg h2, ev_plus, ev_times, ev_line2]
      rfl
  · by_cases h2 : kn ks (i + 1) = kn ks (i + (e + 1) + 1)
    · rw [if_neg h1, if_pos h2, if_neg h1, if_pos h2, ev_times, ev_line1]
      grind
    · rw [if_neg h1, if_neg h2, if_neg h1, if_neg h2, ev_plus, ev_times, ev_times, ev_line1, ev_line2]
theorem bas_out (ks : List Rat) (t : Rat) : ∀ e i pl, (pl < i ∨ i + e < pl) → ev (bas ks e i pl) t = 0
  | 0, i, pl, h => by
    unfold bas
    rw [if_neg (by omega)]
    rfl
  | e + 1, i, pl, h => by
    rw [ev_bas_succ, bas_out ks t e i pl (by omega), bas_out ks t e (i + 1) pl (by omega)]
    split <;> split <;> grind
theorem inv_sub_pos {a b : Rat} (h : a < b) : 0 < 1 / (b - a) := by
  have hd : 0 < b - a := by grind
  have z : (0 : Rat) < (b - a)⁻¹ := Rat.inv_pos.mpr hd
  rw [Rat.div_def]
  grind
theorem bas_pos {d : Nat} {ks : List Rat} (h : KOk d ks) {t : Rat} {pl : Nat} (hp : pl + 1 < ks.length) (t1 : kn ks pl < t) (t2 : t < kn ks (pl + 1)) : ∀ e i, i + e + 1 < ks.length → i ≤ pl → pl ≤ i + e → 0 < ev (bas ks e i pl) t
  | 0, i, _, h1, h2 => by
    unfold bas
    rw [if_pos (by omega)]
    show 0 < (1 : Rat) + t * 0
    grind
  | e + 1, i, hl, h1, h2 => by
    rw [ev_bas_succ]
    have A : ∀ {x : Rat}, 0 ≤ x → i ≤ pl → pl ≤ i + e → 0 < x → 0 < (if kn ks i = kn ks (i + (e + 1)) then 0 else (t - kn ks i) * (1 / (kn ks (i + (e + 1)) - kn ks i)) * x) := by
      intro x _ g1 g2 hx
      have m1 := h.mono i pl g1 (by omega)
      have m2 := h.mono (pl + 1) (i + (e + 1)) (by omega) (by omega)
      have hlt : kn ks i < kn ks (i + (e + 1)) := by grind
      rw [if_neg (by grind)]
      exact Rat.mul_pos (Rat.mul_pos (by grind) (inv_sub_pos hlt)) hx
    have B : ∀ {x : Rat}, i + 1 ≤ pl → pl ≤ i + 1 + e → 0 < x → 0 < (if kn ks (i + 1) = kn ks (i + (e + 1) + 1) then 0 else (kn ks (i + (e + 1) + 1) - t) * (1 / (kn ks (i + (e + 1) + 1) - kn ks (i + 1))) * x) := by
      intro x g1 g2 hx
      have m1 := h.mono (i + 1) pl g1 (by omega)
      have m2 := h.mono (pl + 1) (i + (e + 1) + 1) (by omega) (by omega)
      have hlt : kn ks (i + 1) < kn ks (i + (e + 1) + 1) := by grind
      rw [if_neg (by grind)]
      exact Rat.mul_pos (Rat.mul_pos (by grind) (inv_sub_pos hlt)) hx
    by_cases c1 : pl ≤ i + e
    · have p1 := bas_pos h hp t1 t2 e i (by omega) h1 c1
      have a := A (by grind) h1 c1 p1
      by_cases c2 : i + 1 ≤ pl
      · have p2 := bas_pos h hp t1 t2 e (i + 1) (by omega) c2 (by omega)
        have b := B c2 (by omega) p2
        grind
      · rw [bas_out ks t e (i + 1) pl (by omega)]
        have z : (if kn ks (i + 1) = kn ks (i + (e + 1) + 1) then (0 : Rat) else (kn ks (i + (e + 1) + 1) - t) * (1 / (kn ks (i + (e + 1) + 1) - kn ks (i + 1))) * 0) = 0 := by
          split <;> grind
        rw [z]
        grind
    · have p2 := bas_pos h hp t1 t2 e (i + 1) (by omega) (by omega) (by omega)
      have b := B (by omega) (by omega) p2
      rw [bas_out ks t e i pl (by omega)]
      have z : (if kn ks i = kn ks (i + (e + 1)) then (0 : Rat) else (t - kn ks i) * (1 / (kn ks (i + (e + 1)) - kn ks i)) * 0) = 0 := by
        split <;> grind
      rw [z]
      grind
/-! ### a piece -/
def pieceN (ks rs : List Rat) (d pl : Nat) : Nat → List Rat
  | 0 => []
  | n + 1 => pPlus (pieceN ks rs d pl n) (pScaled (bas ks d (pl - d + n) pl) (rs.getD (pl - d + n) 0))
abbrev piece (ks rs : List Rat) (d pl : Nat) : List Rat := pieceN ks rs d pl (d + 1)
theorem piece_same (ks rs rs' : List Rat) (d pl : Nat) : ∀ n, (∀ m, m < n → rs.getD (pl - d + m) 0 = rs'.getD (pl - d + m) 0) → pieceN ks rs d pl n = pieceN ks rs' d pl n
  | 0, _ => rfl
  | n + 1, h => by
    unfold pieceN
    rw [piece_same ks rs rs' d pl n fun m hm => h m (by omega), h n (by omega)]
theorem piece_diff (ks rs rs' : List Rat) (d pl i : Nat) (st t : Rat) (hi : pl - d ≤ i) (h0 : rs'.getD i 0 = rs.getD i 0 + st) (h1 : ∀ j, j ≠ i → rs'.getD j 0 = rs.getD j 0) : ∀ n, ev (pieceN ks rs' d pl n) t = ev (pieceN ks rs d pl n) t + (if i < pl - d + n then ev (bas ks d i pl) t * st else 0)
  | 0 => by
    rw [if_neg (by omega)]
    show (0 : Rat) = 0 + 0
    grind
  | n + 1 => by
    have ih := piece_diff ks rs rs' d pl i st t hi h0 h1 n
    unfold pieceN
    rw [ev_plus, ev_plus, ev_scaled, ev_scaled, ih]
    by_cases c : pl - d + n = i
    · rw [c, h0, if_neg (by omega), if_pos (by omega)]
      grind
    · rw [h1 _ c]
      by_cases c2 : i < pl - d + n
      · rw [if_pos c2, if_pos (by omega)]
        grind
      · rw [if_neg c2, if_neg (by omega)]
        grind
/-- a piece changes exactly where the changed number counts -/
theorem piece_eq_iff {d : Nat} {ks : List Rat} (h : KOk d ks) {rs rs' : List Rat} {pl i : Nat} {st : Rat} (hd : d ≤ pl) (hp : pl + d + 1 < ks.length) (hlt : kn ks pl < kn ks (pl + 1)) (hi2 : i + d + 1 < ks.length)
    (h0 : rs'.getD i 0 = rs.getD i 0 + st) (h1 : ∀ j, j ≠ i → rs'.getD j 0 = rs.getD j 0) : piece ks rs d pl = piece ks rs' d pl ↔ (i < pl - d ∨ pl < i) ∨ st = 0 := by
  constructor
  · intro e
    by_cases c : i < pl - d ∨ pl < i
    · exact .inl c
    · right
      have t1 : kn ks pl < (kn ks pl + kn ks (pl + 1)) / 2 := by grind
      have t2 : (kn ks pl + kn ks (pl + 1)) / 2 < kn ks (pl + 1) := by grind
      have z := piece_diff ks rs rs' d pl i st ((kn ks pl + kn ks (pl + 1)) / 2) (by omega) h0 h1 (d + 1)
      have p := bas_pos h (by omega) t1 t2 d i hi2 (by omega) (by omega)
      rw [if_pos (by omega)] at z
      have e2 : ev (pieceN ks rs d pl (d + 1)) ((kn ks pl + kn ks (pl + 1)) / 2) = ev (pieceN ks rs' d pl (d + 1)) ((kn ks pl + kn ks (pl + 1)) / 2) := by
        rw [show pieceN ks rs d pl (d + 1) = pieceN ks rs' d pl (d + 1) from e]
      have z2 : ev (bas ks d i pl) ((kn ks pl + kn ks (pl + 1)) / 2) * st = 0 := by grind
      rcases Rat.mul_eq_zero.mp z2 with w | w
      · grind
      · exact w
  · intro c
    refine piece_same ks rs rs' d pl _ fun m hm => ?_
    by_cases e : pl - d + m = i
    · rcases c with c | c
      · omega
      · rw [e, h0, c]
        grind
    · exact (h1 _ e).symm
end BC
/-! de Boor's averages; spans; what is near. -/
namespace BC
/-- one + part * (other - one) -/
def btw (a b t : Rat) : Rat := a + t * (b - a)
theorem btw_ge {a b t c : Rat} (h0 : 0 ≤ t) (h1 : t ≤ 1) : (c ≤ a → c ≤ b → c ≤ btw a b t) := fun ha hb => by
  have x1 : 0 ≤ t * (b - c) := Rat.mul_nonneg h0 (by grind)
  have x2 : 0 ≤ (1 - t) * (a - c) := Rat.mul_nonneg (by grind) (by grind)
  unfold btw
  grind
theorem btw_le {a b t c : Rat} (h0 : 0 ≤ t) (h1 : t ≤ 1) : (a ≤ c → b ≤ c → btw a b t ≤ c) := fun ha hb => by
  have x1 : 0 ≤ t * (c - b) := Rat.mul_nonneg h0 (by grind)
  have x2 : 0 ≤ (1 - t) * (c - a) := Rat.mul_nonneg (by grind) (by grind)
  unfold btw
  grind
theorem btw_same (a t : Rat) : btw a a t = a := by
  unfold btw
  grind
/-! ### the span of a place -/
def spB (ks : List Rat) (x : Rat) (pl : Nat) : Bool := !decide (kn ks pl = kn ks (pl + 1)) && !decide (x < kn ks pl)
def spans (ks : List Rat) (x : Rat) (n : Nat) : List Nat := (List.range n).filter (spB ks x)
def spanOf (ks : List Rat) (x : Rat) : Nat := (spans ks x (ks.length - 1)).getLastD 0
theorem spans_succ (ks : List Rat) (x : Rat) (n : Nat) : spans ks x (n + 1) = spans ks x n ++ (if spB ks x n = true then [n] else []) := by
  unfold spans
  rw [List.range_succ, List.filter_append, List.filter_cons, List.filter_nil]
theorem spans_last (ks : List Rat) (x : Rat) (n : Nat) : (spans ks x (n + 1)).getLastD 0 = if spB ks x n = true then n else (spans ks x n).getLastD 0 := by
  rw [spans_succ]
  split
  · simp
  · rw [List.append_nil]
/-- x lies from the first to the last knot -/
structure Within (ks : List Rat) (x : Rat) : Prop where
  lo : kn ks 0 ≤ x
  hi : x ≤ kn ks (ks.length - 1)
theorem span_max (ks : List Rat) (x : Rat) : ∀ n m, m < n → spB ks x m = true → m ≤ (spans ks x n).getLastD 0 ∧ spB ks x ((spans ks x n).getLastD 0) = true ∧ (spans ks x n).getLastD 0 < n ∧ (∀ k, (spans ks x n).getLastD 0 < k → k < n → spB ks x k = false)
  | 0, m, h, _ => absurd h (Nat.not_lt_zero _)
  | n + 1, m, h, hm => by
    rw [spans_last]
    by_cases c : spB ks x n = true
    · rw [if_pos c]
      exact ⟨by omega, c, by omega, fun k h1 h2 => by omega⟩
    · rw [if_neg c]
      have hmn : m < n := by
        by_cases e : m = n
        · exact absurd (e ▸ hm) c
        · omega
      obtain ⟨a1, a2, a3, a4⟩ := span_max ks x n m hmn hm
      refine ⟨a1, a2, by omega, fun k h1 h2 => ?_⟩
      by_cases e : k = n
      · rw [e]
        exact Bool.eq_false_iff.mpr c
      · exact a4 k h1 (by omega)
structure SpanOk (d : Nat) (ks : List Rat) (x : Rat) (s : Nat) : Prop where
  ge : d ≤ s
  lt : s + d + 1 < ks.length
  lo : kn ks s ≤ x
  hi : x ≤ kn ks (s + 1)
  ne : kn ks s < kn ks (s + 1)
theorem place_ok {d : Nat} {ks : List Rat} (h : KOk d ks) {s : Nat} (hs : s + 1 < ks.length) (hne : ¬ kn ks s = kn ks (s + 1)) : d ≤ s ∧ s + d + 1 < ks.length ∧ kn ks s < kn ks (s + 1) := by
  have hl := h.len
  refine ⟨?_, ?_, lt_of_ne h (by omega) hs hne⟩
  · by_cases c : d ≤ s
    · exact c
    · exfalso
      have e1 := h.lo s (by omega)
      have e2 := h.lo (s + 1) (by omega)
      exact hne (e1.trans e2.symm)
  · by_cases c : s + d + 1 < ks.length
    · exact c
    · exfalso
      have e1 := h.hi s (by omega) (by omega)
      have e2 := h.hi (s + 1) (by omega) (by omega)
      exact hne (e1.trans e2.symm)
theorem span_ok {d : Nat} {ks : List Rat} (h : KOk d ks) {x : Rat} (w : Within ks x) : SpanOk d ks x (spanOf ks x) ∧ spB ks x (spanOf ks x) = true ∧ spanOf ks x < ks.length - 1 := by
  have hl := h.len
  have k0 : spB ks x d = true := by
    unfold spB
    have m0 := h.mult 0 (by omega)
    have e0 := h.lo d (Nat.le_refl _)
    have w0 := w.lo
    rw [Nat.zero_add] at m0
    have a1 : ¬ kn ks d = kn ks (d + 1) := by grind
    have a2 : ¬ x < kn ks d := by grind
    rw [decide_eq_false a1, decide_eq_false a2]
    rfl
  obtain ⟨a1, a2, a3, a4⟩ := span_max ks x (ks.length - 1) d (by omega) k0
  have eS : (spans ks x (ks.length - 1)).getLastD 0 = spanOf ks x := rfl
  rw [eS] at a1 a2 a3 a4
  refine ⟨?_, a2, a3⟩
  generalize spanOf ks x = s at *
  have b := Bool.and_eq_true_iff.mp (show (!decide (kn ks s = kn ks (s + 1)) && !decide (x < kn ks s)) = true from a2)
  have b1 : ¬ kn ks s = kn ks (s + 1) := by simpa using b.1
  have b2 : ¬ x < kn ks s := by simpa using b.2
  obtain ⟨p1, p2, p3⟩ := place_ok h (s := s) (by omega) b1
  refine ⟨p1, p2, by grind, ?_, p3⟩
  by_cases c : x ≤ kn ks (s + 1)
  · exact c
  · exfalso
    have hx : kn ks (s + 1) < x := by grind
    have all : ∀ m, s + 1 + m < ks.length → kn ks (s + 1 + m) = kn ks (s + 1) := by
      intro m
      induction m with
      | zero => intro _; rfl
      | succ m ih =>
        intro hm
        have e := ih (by omega)
        have f := a4 (s + 1 + m) (by omega) (by omega)
        have f2 : (!decide (kn ks (s + 1 + m) = kn ks (s + 1 + m + 1)) && !decide (x < kn ks (s + 1 + m))) = false := f
        have nx : ¬ x < kn ks (s + 1 + m) := by grind
        rw [decide_eq_false nx, Bool.not_false, Bool.and_true] at f2
        have g : kn ks (s + 1 + m) = kn ks (s + 1 + m + 1) := by simpa using f2
        exact g.symm.trans e
    have e := all (ks.length - 1 - (s + 1)) (by omega)
    have e2 : s + 1 + (ks.length - 1 - (s + 1)) = ks.length - 1 := by omega
    rw [e2] at e
    have w1 := w.hi
    grind
/-! ### de Boor -/
def wt (ks : List Rat) (x : Rat) (d span turn m : Nat) : Rat := (x - kn ks (span - d + turn + m)) / (kn ks (span - d + turn + m + (d - turn) + 1) - kn ks (span - d + turn + m))
/-- the round number turn from the row told -/
def dbR (ks : List Rat) (x : Rat) (d span turn : Nat) (told : List Rat) : Nat → List Rat
  | 0 => []
  | n + 1 => dbR ks x d span turn told n ++ [btw (told.getD n 0) (told.getD (n + 1) 0) (wt ks x d span turn n)]
def db (ks : List Rat) (x : Rat) (d span : Nat) (told : List Rat) : Nat → List Rat
  | 0 => told
  | t + 1 => dbR ks x d span (t + 1) (db ks x d span told t) ((db ks x d span told t).length - 1)
theorem dbR_len (ks : List Rat) (x : Rat) (d span turn : Nat) (told : List Rat) : ∀ n, (dbR ks x d span turn told n).length = n
  | 0 => rfl
  | n + 1 => by
    unfold dbR
    rw [List.length_append, dbR_len ks x d span turn told n]
    rfl
theorem db_len (ks : List Rat) (x : Rat) (d span : Nat) (told : List Rat) : ∀ t, (db ks x d span told t).length = told.length - t
  | 0 => rfl
  | t + 1 => by
    unfold db
    rw [dbR_len, db_len ks x d span told t]
    omega
theorem wt_ok {d : Nat} {ks : List Rat} (h : KOk d ks) {x : Rat} {s : Nat} (o : SpanOk d ks x s) {turn m : Nat} (t1 : 1 ≤ turn) (t2 : turn ≤ d) (hm : m ≤ d - turn) :
    kn ks (s - d + turn + m) < kn ks (s - d + turn + m + (d - turn) + 1) ∧ 0 ≤ wt ks x d s turn m ∧ wt ks x d s turn m ≤ 1 ∧ s - d + turn + m + (d - turn) + 1 < ks.length := by
  have g1 := o.ge
  have g2 := o.lt
  have m1 := h.mono (s - d + turn + m) s (by omega) (by omega)
  have m2 := h.mono (s + 1) (s - d + turn + m + (d - turn) + 1) (by omega) (by omega)
  have o1 := o.lo
  have o2 := o.hi
  have o3 := o.ne
  have hlt : kn ks (s - d + turn + m) < kn ks (s - d + turn + m + (d - turn) + 1) := by grind
  refine ⟨hlt, ?_, ?_, by omega⟩
  · unfold wt
    rw [Rat.div_def]
    have z : (0 : Rat) < (kn ks (s - d + turn + m + (d - turn) + 1) - kn ks (s - d + turn + m))⁻¹ := Rat.inv_pos.mpr (by grind)
    exact Rat.mul_nonneg (by grind) (by grind)
  · unfold wt
    have hd : 0 < kn ks (s - d + turn + m + (d - turn) + 1) - kn ks (s - d + turn + m) := by grind
    refine Rat.le_of_mul_le_mul_right (c := kn ks (s - d + turn + m + (d - turn) + 1) - kn ks (s - d + turn + m)) ?_ hd
    rw [Rat.div_mul_cancel (by grind)]
    grind
/-- a property of numbers that averages keep -/
def Kept (P : Rat → Prop) : Prop := ∀ a b t, 0 ≤ t → t ≤ 1 → P a → P b → P (btw a b t)
theorem dbR_kept {P : Rat → Prop} (hP : Kept P) {d : Nat} {ks : List Rat} (h : KOk d ks) {x : Rat} {s : Nat} (o : SpanOk d ks x s) {turn : Nat} (t1 : 1 ≤ turn) (t2 : turn ≤ d) {told : List Rat} (hl : told.length = d + 2 - turn) (ht : ∀ c ∈ told, P c) : ∀ n, n ≤ d + 1 - turn → ∀ c ∈ dbR ks x d s turn told n, P c
  | 0, _ => fun c hc => by simp [dbR] at hc
  | n + 1, hn => fun c hc => by
    unfold dbR at hc
    rcases List.mem_append.mp hc with z | z
    · exact dbR_kept hP h o t1 t2 hl ht n (by omega) c z
    · have e : c = btw (told.getD n 0) (told.getD (n + 1) 0) (wt ks x d s turn n) := by simpa using z
      obtain ⟨_, w0, w1, _⟩ := wt_ok h o t1 t2 (m := n) (by omega)
      have mem : ∀ j, j < told.length → told.getD j 0 ∈ told := fun j hj => by
        rw [List.getD_eq_getElem?_getD, List.getElem?_eq_getElem hj]
        exact List.getElem_mem hj
      rw [e]
      exact hP _ _ _ w0 w1 (ht _ (mem n (by omega))) (ht _ (mem (n + 1) (by omega)))
theorem db_kept {P : Rat → Prop} (hP : Kept P) {d : Nat} {ks : List Rat} (h : KOk d ks) {x : Rat} {s : Nat} (o : SpanOk d ks x s) {told : List Rat} (hl : told.length = d + 1) (ht : ∀ c ∈ told, P c) : ∀ t, t ≤ d → ∀ c ∈ db ks x d s told t, P c
  | 0, _ => ht
  | t + 1, hn => by
    have ih := db_kept hP h o hl ht t (by omega)
    have l := db_len ks x d s told t
    unfold db
    exact dbR_kept hP h o (by omega) hn (by omega) ih _ (by omega)
/-- the value -/
def dbV (ks rs : List Rat) (d : Nat) (x : Rat) : Rat := (db ks x d (spanOf ks x) ((rs.drop (spanOf ks x - d)).take (d + 1)) d).getD 0 0
theorem near_len {d : Nat} {ks rs : List Rat} {x : Rat} {s : Nat} (o : SpanOk d ks x s) (hr : rs.length = ks.length - d - 1) : ((rs.drop (s - d)).take (d + 1)).length = d + 1 := by
  have := o.lt
  have := o.ge
  simp only [List.length_take, List.length_drop]
  omega
theorem dbV_mem {d : Nat} {ks rs : List Rat} (h : KOk d ks) {x : Rat} (w : Within ks x) (hr : rs.length = ks.length - d - 1) : dbV ks rs d x ∈ db ks x d (spanOf ks x) ((rs.drop (spanOf ks x - d)).take (d + 1)) d := by
  have o := (span_ok h w).1
  have l := db_len ks x d (spanOf ks x) ((rs.drop (spanOf ks x - d)).take (d + 1)) d
  have n := near_len o hr
  unfold dbV
  rw [List.getD_eq_getElem?_getD, List.getElem?_eq_getElem (by omega)]
  exact List.getElem_mem _
theorem dbV_kept {P : Rat → Prop} (hP : Kept P) {d : Nat} {ks rs : List Rat} (h : KOk d ks) {x : Rat} (w : Within ks x) (hr : rs.length = ks.length - d - 1) (hn : ∀ c ∈ (rs.drop (spanOf ks x - d)).take (d + 1), P c) : P (dbV ks rs d x) :=
  db_kept hP h (span_ok h w).1 (near_len (span_ok h w).1 hr) hn d (Nat.le_refl _) _ (dbV_mem h w hr)
/-- some number nearby is at most the value, some is at least -/
theorem dbV_low {d : Nat} {ks rs : List Rat} (h : KOk d ks) {x : Rat} (w : Within ks x) (hr : rs.length = ks.length - d - 1) : ∃ c ∈ (rs.drop (spanOf ks x - d)).take (d + 1), c ≤ dbV ks rs d x :=
  dbV_kept (P := fun z => ∃ c ∈ (rs.drop (spanOf ks x - d)).take (d + 1), c ≤ z) (fun a b t h0 h1 ⟨c, hc, lc⟩ ⟨e, he, le⟩ => by
    by_cases q : c ≤ e
    · exact ⟨c, hc, btw_ge h0 h1 lc (by grind)⟩
    · exact ⟨e, he, btw_ge h0 h1 (by grind) le⟩) h w hr fun c hc => ⟨c, hc, Rat.le_refl⟩
theorem dbV_high {d : Nat} {ks rs : List Rat} (h : KOk d ks) {x : Rat} (w : Within ks x) (hr : rs.length = ks.length - d - 1) : ∃ c ∈ (rs.drop (spanOf ks x - d)).take (d + 1), dbV ks rs d x ≤ c :=
  dbV_kept (P := fun z => ∃ c ∈ (rs.drop (spanOf ks x - d)).take (d + 1), z ≤ c) (fun a b t h0 h1 ⟨c, hc, lc⟩ ⟨e, he, le⟩ => by
    by_cases q : c ≤ e
    · exact ⟨e, he, btw_le h0 h1 (by grind) le⟩
    · exact ⟨c, hc, btw_le h0 h1 lc (by grind)⟩) h w hr fun c hc => ⟨c, hc, Rat.le_refl⟩
theorem dbV_flat {d : Nat} {ks rs : List Rat} (h : KOk d ks) {x : Rat} (w : Within ks x) (hr : rs.length = ks.length - d - 1) {c : Rat} (hc : ∀ z ∈ rs, z = c) : dbV ks rs d x = c :=
  dbV_kept (P := fun z => z = c) (fun a b t _ _ ha hb => by rw [ha, hb, btw_same]) h w hr fun z hz => hc z (List.mem_of_mem_drop (List.mem_of_mem_take hz))
/-! ### sizes -/
theorem inv_bd {a b : Rat} {B C : Nat} (ha : Bd 12 B a) (hb : Bd 12 C b) (h : a < b) (hs : b - a ≤ 15) : Bd LC 12 ((b - a)⁻¹) := by
  have z := part_bd ha hb h hs
  rw [Rat.div_def, Rat.one_mul] at z
  exact z
def DB (t : Nat) : Nat := 12 * (144 * LC) ^ t
theorem wt_bd {d : Nat} {ks : List Rat} (h : KOk d ks) {x : Rat} (hx : Bd 144 30 x) {s : Nat} (o : SpanOk d ks x s) {turn m : Nat} (t1 : 1 ≤ turn) (t2 : turn ≤ d) (hm : m ≤ d - turn) : Bd (144 * LC) 1 (wt ks x d s turn m) := by
  obtain ⟨hlt, w0, w1, hl⟩ := wt_ok h o t1 t2 hm
  have b1 := hx.sub ((h.bd (s - d + turn + m)).wide (by decide : 12 ∣ 144))
  have b2 := inv_bd (h.bd (s - d + turn + m)) (h.bd (s - d + turn + m + (d - turn) + 1)) hlt (h.span _ _ (by omega) hl)
  have b3 := b1.mul b2
  refine ⟨?_, ?_, ?_⟩
  · unfold wt
    rw [Rat.div_def]
    exact b3.1
  · have : -((1 : Nat) : Rat) ≤ 0 := by decide +kernel
    grind
  · exact w1
theorem btw_bd {M B : Nat} {N : Nat} {a b t : Rat} (ha : Bd M B a) (hb : Bd M B b) (ht : Bd N 1 t) (h0 : 0 ≤ t) (h1 : t ≤ 1) : Bd (M * N) B (btw a b t) := by
  have z := (ha.wide (Nat.dvd_mul_right M N)).add ((ht.mul (hb.sub ha)).wide (by rw [Nat.mul_comm]; exact Nat.dvd_refl _))
  exact ⟨z.1, btw_ge h0 h1 ha.2.1 hb.2.1, btw_le h0 h1 ha.2.2 hb.2.2⟩
theorem dbR_bd {d : Nat} {ks : List Rat} (h : KOk d ks) {x : Rat} (hx : Bd 144 30 x) {s : Nat} (o : SpanOk d ks x s) {turn : Nat} (t1 : 1 ≤ turn) (t2 : turn ≤ d) {told : List Rat} {M B : Nat} (ht : AllB M B told) : ∀ n, n ≤ d + 1 - turn → AllB (M * (144 * LC)) B (dbR ks x d s turn told n)
  | 0, _ => fun c hc => by simp [dbR] at hc
  | n + 1, hn => fun c hc => by
    unfold dbR at hc
    rcases List.mem_append.mp hc with z | z
    · exact dbR_bd h hx o t1 t2 ht n (by omega) c z
    · have e : c = btw (told.getD n 0) (told.getD (n + 1) 0) (wt ks x d s turn n) := by simpa using z
      obtain ⟨_, w0, w1, _⟩ := wt_ok h o t1 t2 (m := n) (by omega)
      rw [e]
      exact btw_bd (ht.getD n) (ht.getD (n + 1)) (wt_bd h hx o t1 t2 (by omega)) w0 w1
theorem db_bd {d : Nat} {ks : List Rat} (h : KOk d ks) {x : Rat} (hx : Bd 144 30 x) {s : Nat} (o : SpanOk d ks x s) {told : List Rat} (hl : told.length = d + 1) (ht : AllB 12 12 told) : ∀ t, t ≤ d → AllB (DB t) 12 (db ks x d s told t)
  | 0, _ => ht
  | t + 1, hn => by
    have ih := db_bd h hx o hl ht t (by omega)
    have l := db_len ks x d s told t
    have e : DB (t + 1) = DB t * (144 * LC) := by
      unfold DB
      rw [Nat.pow_succ, Nat.mul_assoc]
    unfold db
    rw [e]
    exact dbR_bd h hx o (by omega) hn ih _ (by omega)
def CAP : Nat := 2 ^ 300
def MC : Nat := (144 * LC) ^ 6
theorem MC_ne : MC ≠ 0 := by
  unfold MC LC
  decide +kernel
theorem MC_sz : MC < 2 ^ sz := by
  unfold MC LC sz
  decide +kernel
theorem MC_sz2 : CAP * MC < 2 ^ sz := by
  unfold CAP MC LC sz
  decide +kernel
/-- what is small: a divisor of MC below, at most 2 ^ 300 -/
theorem Bd.small {M B : Nat} {q : Rat} (h : Bd M B q) (hM : M ∣ MC) (hB : B ≤ CAP) : Sm q :=
  ((h.wide hM).mono hB).sm MC_ne MC_sz MC_sz2
theorem dvd_DB {t : Nat} (h : t ≤ 5) : DB t ∣ MC := by
  unfold DB MC
  have e : (144 * LC) ^ 6 = (144 * LC) ^ t * (144 * LC) ^ (6 - t) := by
    rw [← Nat.pow_add]
    congr 1
    omega
  rw [e, Nat.mul_comm]
  refine Nat.mul_dvd_mul (Nat.dvd_refl _) ?_
  have e2 : (144 * LC) ^ (6 - t) = (144 * LC) ^ (5 - t) * (144 * LC) := by
    rw [← Nat.pow_succ]
    congr 1
    omega
  rw [e2]
  exact Nat.dvd_trans (Nat.dvd_trans (by decide : 12 ∣ 144) (Nat.dvd_mul_right _ _)) (Nat.dvd_mul_left _ _)
theorem dvd_MB {e : Nat} (h : e ≤ 5) : 12 * MB e ∣ MC := by
  refine Nat.dvd_trans ?_ (dvd_DB h)
  unfold DB MB
  refine Nat.mul_dvd_mul (Nat.dvd_refl _) ?_
  rw [Nat.mul_pow, Nat.mul_pow]
  refine Nat.mul_dvd_mul ?_ (Nat.dvd_refl _)
  rw [show 144 = 12 * 12 from rfl, Nat.mul_pow]
  exact Nat.dvd_mul_right _ _
end BC
/-! The knots that the law draws. -/
namespace BC
theorem kn_app1 {a b : List Rat} {i : Nat} (h : i < a.length) : kn (a ++ b) i = kn a i := by
  unfold kn
  rw [List.getD_eq_getElem?_getD, List.getD_eq_getElem?_getD, List.getElem?_append_left h]
theorem kn_app2 {a : List Rat} {v : Rat} {m i : Nat} (h1 : a.length ≤ i) (h2 : i < a.length + m) : kn (a ++ List.replicate m v) i = v := by
  unfold kn
  rw [List.getD_eq_getElem?_getD, List.getElem?_append_right h1, List.getElem?_replicate, if_pos (by omega)]
  rfl
theorem kn_out {a : List Rat} {i : Nat} (h : a.length ≤ i) : kn a i = 0 := by
  unfold kn
  rw [List.getD_eq_getElem?_getD, List.getElem?_eq_none h]
  rfl
theorem kn_take {a : List Rat} {n i : Nat} (h : i < n) : kn (a.take n) i = kn a i := by
  unfold kn
  rw [List.getD_eq_getElem?_getD, List.getD_eq_getElem?_getD, List.getElem?_take_of_lt h]
structure Gr (d : Nat) (low now : Rat) (t : Nat) (ks : List Rat) : Prop where
  d4 : d ≤ 4
  ge : d + 1 ≤ ks.length
  le : ks.length ≤ (d + 1) * (t + 1)
  mono : ∀ i j, i ≤ j → j < ks.length → kn ks i ≤ kn ks j
  lo : ∀ i, i ≤ d → kn ks i = low
  top : ∀ i, i < ks.length → kn ks i ≤ now
  mult : ∀ i, i + d + 1 < ks.length → kn ks i < kn ks (i + d + 1)
  bd : ∀ i, Bd 12 30 (kn ks i)
  lowb : Bd 12 6 low
  nowb : Bd 12 (6 + 4 * t) now
  n0 : low ≤ now
  n1 : now ≤ low + ((4 * t : Nat) : Rat)
theorem Gr.start {d : Nat} {low : Rat} (hd : d ≤ 4) (hb : Bd 12 6 low) : Gr d low low 0 (List.replicate (d + 1) low) := by
  have e : ∀ i, i < d + 1 → kn (List.replicate (d + 1) low) i = low := fun i hi => by
    have z := kn_app2 (a := []) (v := low) (m := d + 1) (i := i) (by simp) (by simpa using hi)
    simpa using z
  refine ⟨hd, by simp, by simp, fun i j hij hj => ?_, fun i hi => e i (by omega), fun i hi => ?_, fun i hi => ?_, fun i => ?_, hb, hb, Rat.le_refl, ?_⟩
  · rw [List.length_replicate] at hj
    rw [e i (by omega), e j hj]
    exact Rat.le_refl
  · rw [List.length_replicate] at hi
    rw [e i hi]
    exact Rat.le_refl
  · rw [List.length_replicate] at hi
    omega
  · by_cases h : i < d + 1
    · rw [e i h]
      exact hb.mono (by decide)
    · rw [kn_out (by rw [List.length_replicate]; omega)]
      exact Bd.zero
  · show low ≤ low + ((4 * 0 : Nat) : Rat)
    have z : ((4 * 0 : Nat) : Rat) = 0 := rfl
    rw [z]
    grind
/-- what an appended greater number keeps -/
theorem app_mono {a : List Rat} {v : Rat} {m : Nat} (h : ∀ i j, i ≤ j → j < a.length → kn a i ≤ kn a j) (ht : ∀ i, i < a.length → kn a i ≤ v) : ∀ i j, i ≤ j → j < (a ++ List.replicate m v).length → kn (a ++ List.replicate m v) i ≤ kn (a ++ List.replicate m v) j := fun i j hij hj => by
  rw [List.length_append, List.length_replicate] at hj
  by_cases c : j < a.length
  · rw [kn_app1 c, kn_app1 (by omega)]
    exact h i j hij c
  · rw [kn_app2 (by omega) hj]
    by_cases c2 : i < a.length
    · rw [kn_app1 c2]
      exact ht i c2
    · rw [kn_app2 (by omega) (by omega)]
      exact Rat.le_refl
theorem app_mult {d : Nat} {a : List Rat} {v : Rat} {m : Nat} (hm : m ≤ d + 1) (h : ∀ i, i + d + 1 < a.length → kn a i < kn a (i + d + 1)) (ht : ∀ i, i < a.length → kn a i < v) : ∀ i, i + d + 1 < (a ++ List.replicate m v).length → kn (a ++ List.replicate m v) i < kn (a ++ List.replicate m v) (i + d + 1) := fun i hi => by
  rw [List.length_append, List.length_replicate] at hi
  by_cases c : i + d + 1 < a.length
  · rw [kn_app1 c, kn_app1 (by omega)]
    exact h i c
  · rw [kn_app2 (by omega) hi, kn_app1 (by omega)]
    exact ht i (by omega)
theorem Gr.app {d : Nat} {low now q : Rat} {t m : Nat} {ks : List Rat} (g : Gr d low now t ks) (ht : t < 3) (q0 : 0 < q) (qb : Bd 12 4 q) (m1 : 1 ≤ m) (m2 : m ≤ d + 1) : Gr d low (now + q) (t + 1) (ks ++ List.replicate m (now + q)) := by
  have lt : ∀ i, i < ks.length → kn ks i < now + q := fun i hi => by
    have := g.top i hi
    grind
  have hge := g.ge
  have hle := g.le
  have hq := qb.2.2
  have hn1 := g.n1
  have hn0 := g.n0
  have nb : Bd 12 (6 + 4 * (t + 1)) (now + q) := (g.nowb.add qb).mono (by omega)
  refine ⟨g.d4, ?_, ?_, app_mono g.mono fun i hi => Rat.le_of_lt (lt i hi), fun i hi => ?_, fun i hi => ?_, app_mult m2 g.mult lt, fun i => ?_, g.lowb, nb, by grind, ?_⟩
  · rw [List.length_append]
    omega
  · rw [List.length_append, List.length_replicate, Nat.mul_add, Nat.mul_one]
    omega
  · rw [kn_app1 (by omega)]
    exact g.lo i hi
  · rw [List.length_append, List.length_replicate] at hi
    by_cases c : i < ks.length
    · rw [kn_app1 c]
      exact Rat.le_of_lt (lt i c)
    · rw [kn_app2 (by omega) hi]
      exact Rat.le_refl
  · by_cases c : i < ks.length
    · rw [kn_app1 c]
      exact g.bd i
    · by_cases c2 : i < ks.length + m
      · rw [kn_app2 (by omega) c2]
        exact nb.mono (by omega)
      · rw [kn_out (by rw [List.length_append, List.length_replicate]; omega)]
        exact Bd.zero
  · have e : ((4 * (t + 1) : Nat) : Rat) = ((4 * t : Nat) : Rat) + ((4 : Nat) : Rat) := by
      rw [← Rat.natCast_add]
      rfl
    rw [e]
    grind
theorem Gr.take {d : Nat} {low now : Rat} {t n : Nat} {ks : List Rat} (g : Gr d low now t ks) (h1 : d + 1 ≤ n) (h2 : n ≤ ks.length) : Gr d low now t (ks.take n) := by
  have hl : (ks.take n).length = n := by
    rw [List.length_take]
    omega
  have hle := g.le
  refine ⟨g.d4, by omega, by omega, fun i j hij hj => ?_, fun i hi => ?_, fun i hi => ?_, fun i hi => ?_, fun i => ?_, g.lowb, g.nowb, g.n0, g.n1⟩
  · rw [kn_take (by omega), kn_take (by omega)]
    exact g.mono i j hij (by omega)
  · rw [kn_take (by omega)]
    exact g.lo i hi
  · rw [kn_take (by omega)]
    exact g.top i (by omega)
  · rw [kn_take (by omega), kn_take (by omega)]
    exact g.mult i (by omega)
  · by_cases c : i < n
    · rw [kn_take c]
      exact g.bd i
    · rw [kn_out (by omega)]
      exact Bd.zero
theorem Gr.fin {d : Nat} {low now : Rat} {t k : Nat} {ks : List Rat} (g : Gr d low now t ks) (ht : t ≤ 3) (k1 : 1 ≤ k) (k3 : k ≤ 3) (hl : ks.length ≤ 15 - d) : KOk d (ks ++ List.replicate (d + 1) (now + (k : Rat))) := by
  have kp : (1 : Rat) ≤ (k : Rat) := by
    have := Rat.natCast_le_natCast.mpr k1
    simpa using this
  have kq : (k : Rat) ≤ (3 : Rat) := by
    have := Rat.natCast_le_natCast.mpr k3
    simpa using this
  have lt : ∀ i, i < ks.length → kn ks i < now + (k : Rat) := fun i hi => by
    have := g.top i hi
    grind
  have hge := g.ge
  have hd := g.d4
  have hn1 := g.n1
  have hn0 := g.n0
  have h12 : ((4 * t : Nat) : Rat) ≤ ((12 : Nat) : Rat) := Rat.natCast_le_natCast.mpr (by omega)
  have h12' : ((12 : Nat) : Rat) = 12 := rfl
  have kb : Bd 12 3 (k : Rat) := by
    have z := (bd_int (B := 3) (i := (k : Int)) (by omega) (by omega)).wide (Nat.one_dvd 12)
    rw [Rat.intCast_natCast] at z
    exact z
  have eb : Bd 12 30 (now + (k : Rat)) := (g.nowb.add kb).mono (by omega)
  have len : (ks ++ List.replicate (d + 1) (now + (k : Rat))).length = ks.length + (d + 1) := by rw [List.length_append, List.length_replicate]
  have mono := app_mono (m := d + 1) g.mono fun i hi => Rat.le_of_lt (lt i hi)
  have hi' : ∀ i, ks.length ≤ i → i < ks.length + (d + 1) → kn (ks ++ List.replicate (d + 1) (now + (k : Rat))) i = now + (k : Rat) := fun i h1 h2 => kn_app2 h1 h2
  have lo0 : ∀ i, i ≤ d → kn (ks ++ List.replicate (d + 1) (now + (k : Rat))) i = low := fun i hi => by
    rw [kn_app1 (by omega)]
    exact g.lo i hi
  refine ⟨hd, by omega, by omega, mono, fun i hi => (lo0 i hi).trans (lo0 0 (by omega)).symm, fun i h1 h2 => ?_, app_mult (Nat.le_refl _) g.mult lt, fun i => ?_, fun i j hi hj => ?_⟩
  · rw [hi' i (by omega) (by omega), hi' _ (by omega) (by omega)]
  · by_cases c : i < ks.length
    · rw [kn_app1 c]
      exact g.bd i
    · by_cases c2 : i < ks.length + (d + 1)
      · rw [hi' i (by omega) c2]
        exact eb
      · rw [kn_out (by omega)]
        exact Bd.zero
  · have m1 := mono 0 i (by omega) hi
    have m2 := mono j (ks.length + d) (by omega) (by omega)
    rw [lo0 0 (by omega)] at m1
    rw [hi' (ks.length + d) (by omega) (by omega)] at m2
    grind
/-- the knots cut to sixteen -/
theorem cut_knots {d : Nat} {ks : List Rat} {e : Rat} (hd : d ≤ 4) (h : 16 < (ks ++ List.replicate (d + 1) e).length) : (ks ++ List.replicate (d + 1) e).take (15 - d) ++ (ks ++ List.replicate (d + 1) e).drop ((ks ++ List.replicate (d + 1) e).length - (d + 1)) = ks.take (15 - d) ++ List.replicate (d + 1) e := by
  rw [List.length_append, List.length_replicate] at h ⊢
  have e1 : ks.length + (d + 1) - (d + 1) = ks.length := by omega
  rw [e1, List.drop_left, List.take_append_of_le_length (by omega)]
end BC
namespace BC
open L2 PySem PySem.Spec PyProof.Rows
/-! ### defs of the top -/
structure Here (K : PySem.W.Frag) (mg : Str → Option Value) (x : Str) (st : Stmt) : Prop where
  f : ∃ fd, FunD K x x (defArgs st) (defBody st) (defScope st) [] [] (He.ga K x) fd
  g : mg x = some (.ref (He.ga K x))
structure Def (P : Program) (w : World) (K : PySem.W.Frag) (mg : Str → Option Value) (base : Heap) (k : Nat) (x : Str) (ps : List Str) (sp : Sp) : Prop where
  ok : ∃ fd, FnOk P w K mg base CX0 k (He.ga K x) fd ps sp ∧ Binds K fd ps []
  g : mg x = some (.ref (He.ga K x))
  kp : PySem.W.keepIn K (.ref (He.ga K x)) = true
abbrev ArgsOk (x : Str) (st : Stmt) (ps : List Str) : Prop := ∀ (kV doc pm : Value) (an : Option Addr) (cdv ct : Value) (us : List Value), us.length = ps.length →
  bindArgs (PySem.W.fnOf x x (defArgs st) (defBody st) (defScope st) .none kV doc pm an cdv ct) ⟨us, []⟩ = pure (ps.zip us)
section
variable {K : PySem.W.Frag} {mg : Str → Option Value} {P : Program} {w : World} {base : Heap}
theorem Here.def_ {x : Str} {st : Stmt} {N ps : List Str} {k : Nat} {sp : Sp} (h : Here K mg x st) (S : FnScope N ps (defScope st)) (ar : ArgsOk x st ps) (len : ∀ vs H Q E, sp vs H Q E → vs.length = ps.length)
    (body : ∀ (cdv : Value) (A : Around) (outer : List Env) (s : Shared) (H : Hp) (vs : List V) (Q : VK) (E : XK), Room k (A.deeper (envOfC x (defScope st) s.heap.objs.size (He.ga K x) cdv)) → sp vs H Q E →
      ∃ t, PSs (cxOf CX0 P w K mg base N x (defScope st) (He.ga K x) cdv A outer s H E).nox (defBody st) t ∧ t { nx := fun _ H' => Q .non H', rt := Q } (start N vs) H) :
    Def P w K mg base (k + 1) x ps sp := by
  obtain ⟨fd, F⟩ := h.f
  refine ⟨⟨fd, F.ok S len fun cdv A outer s H vs Q E hr hsp => ?_, F.bindsN ar⟩, h.g, F.kp⟩
  obtain ⟨t, a, q⟩ := body cdv A outer s H vs Q E hr hsp
  exact ⟨t, a.nox, q⟩
end
section
variable {X : Cx} {k : Nat} {x : Str} {ps : List Str} {sp : Sp} {p pos : Pos} {e : Expr} {es : List Expr} {t : TA}
theorem pe_def (D : Def X.prog X.w X.K X.mg X.base k x ps sp) (hr : Room k X.A) (ha : PA X (e :: es) t) (hg : Gl X x := by rfl) (hdb : (x == ("__debug__" : Str)) = false := by decide)
    (he : starEach (e :: es) X.env = (false, eval e X.env) :: starEach es X.env := by rfl) (hpl : (backTo pos (starEach es X.env)).any (·.1) = false := by rfl) : PE X (.Call (.Name x p) (e :: es) [] pos) (tCall sp [] E0 t) := by
  obtain ⟨fd, F, b⟩ := D.ok
  exact pe_call F hr hg D.g D.kp b .nil pass0 ha hdb he hpl
end
/-- what the walks ask of the module as its top has left it -/
structure TX (K : PySem.W.Frag) (mg : Str → Option Value) : Prop where
  is_int : Here K mg "is_int" s_is_int
  is_from : Here K mg "is_from" s_is_from
  is_ratio : Here K mg "is_ratio" s_is_ratio
  made : Here K mg "made" s_made
  plus : Here K mg "plus" s_plus
  less : Here K mg "less" s_less
  times : Here K mg "times" s_times
  over : Here K mg "over" s_over
  negative : Here K mg "negative" s_negative
  is_below : Here K mg "is_below" s_is_below
  between : Here K mg "between" s_between
  are_ratios : Here K mg "are_ratios" s_are_ratios
  trimmed : Here K mg "trimmed" s_trimmed
  p_plus : Here K mg "p_plus" s_p_plus
  p_scaled : Here K mg "p_scaled" s_p_scaled
  p_times : Here K mg "p_times" s_p_times
  faults_of : Here K mg "faults_of" s_faults_of
  basis_poly : Here K mg "basis_poly" s_basis_poly
  need_spline : Here K mg "need_spline" s_need_spline
  span_of : Here K mg "span_of" s_span_of
  spline_at : Here K mg "spline_at" s_spline_at
  spline_value : Here K mg "spline_value" s_spline_value
  pieces_of : Here K mg "pieces_of" s_pieces_of
  spline_pieces : Here K mg "spline_pieces" s_spline_pieces
  _law_taken : Here K mg "_law_taken" s__law_taken
  _law_pick : Here K mg "_law_pick" s__law_pick
  _law_made : Here K mg "_law_made" s__law_made
  _law_plus : Here K mg "_law_plus" s__law_plus
  _law_minus : Here K mg "_law_minus" s__law_minus
  _law_times : Here K mg "_law_times" s__law_times
  _law_below : Here K mg "_law_below" s__law_below
  _law_draw : Here K mg "_law_draw" s__law_draw
  _law_middle : Here K mg "_law_middle" s__law_middle
  _law_spline : Here K mg "_law_spline" s__law_spline
  _law_within : Here K mg "_law_within" s__law_within
  b_isinstance : mg "isinstance" = none
  b_len : mg "len" = none
  b_int : mg "int" = none
  b_bool : mg "bool" = none
  b_tuple : mg "tuple" = none
  b_list : mg "list" = none
  b_all : mg "all" = none
  b_zip : mg "zip" = none
  b_max : mg "max" = none
  b_abs : mg "abs" = none
  b_range : mg "range" = none
  b_enumerate : mg "enumerate" = none
  zG : mg "ZERO" = some (.ref (He.ga K "ZERO"))
  zT : ∀ H, SqT K H (He.ga K "ZERO") [.int 0, .int 1]
  oG : mg "ONE" = some (.ref (He.ga K "ONE"))
  oT : ∀ H, SqT K H (He.ga K "ONE") [.int 1, .int 1]
  gcd : mg "gcd" = some (.builtin "math.gcd")
  mdeg : ∃ t, mg "MOST_DEGREE" = some (.int 4 t)
  mkno : ∃ t, mg "MOST_KNOTS" = some (.int 16 t)
/-! ### ratios in the heap -/
def ratL (q : Rat) : List V := [.int q.num, .int ((q.den : Nat) : Int)]
def RatAt (K : PySem.W.Frag) (H : Hp) (v : V) (q : Rat) : Prop := ∃ p, v = .ref p ∧ SqT K H p (ratL q)
abbrev Rats (K : PySem.W.Frag) (H : Hp) (vs : List V) (qs : List Rat) : Prop := Paired (RatAt K H) vs qs
theorem Same.tup {K : PySem.W.Frag} {H H' : Hp} {a : Addr} {xs : List V} (e : Same H H') (h : SqT K H a xs) : SqT K H' a xs := by
  rcases h with (q | ⟨o, q⟩) | q
  · exact .inl (.inl (e _ _ q))
  · exact .inl (.inr ⟨o, e _ _ q⟩)
  · exact .inr q
theorem Same.new {H : Hp} {p : Addr} {o : HO} (h : H p = Option.none) : Same H (upd H p o) := fun a u ha => by
  rw [upd_ne (ne_of_none ha h)]
  exact ha
section
variable {K : PySem.W.Frag} {H H' : Hp}
theorem RatAt.mono {v : V} {q : Rat} (h : RatAt K H v q) (e : Same H H') : RatAt K H' v q := by
  obtain ⟨p, rfl, t⟩ := h
  exact ⟨p, rfl, Same.tup e t⟩
theorem Rats.mono {vs : List V} {qs : List Rat} (h : Rats K H vs qs) (e : Same H H') : Rats K H' vs qs := Paired.mapP h fun _ _ r => r.mono e
theorem Paired.at {α β : Type} {F : α → β → Prop} : ∀ {l₁ : List α} {l₂ : List β} {i : Nat} {b : β}, Paired F l₁ l₂ → l₂[i]? = some b → ∃ a, l₁[i]? = some a ∧ F a b
  | _, _, _, _, .nil, e => absurd e (by simp)
  | _, _, 0, _, .cons r _, e => by
    simp at e
    subst e
    exact ⟨_, rfl, r⟩
  | _, _, i + 1, b, .cons _ t, e => by
    obtain ⟨a, h1, h2⟩ := Paired.at (i := i) (b := b) t (by simpa using e)
    exact ⟨a, by simpa using h1, h2⟩
theorem Paired.at1 {α β : Type} {F : α → β → Prop} : ∀ {l₁ : List α} {l₂ : List β} {i : Nat} {a : α}, Paired F l₁ l₂ → l₁[i]? = some a → ∃ b, l₂[i]? = some b ∧ F a b
  | _, _, _, _, .nil, e => absurd e (by simp)
  | _, _, 0, _, .cons r _, e => by
    simp at e
    subst e
    exact ⟨_, rfl, r⟩
  | _, _, i + 1, b, .cons _ t, e => by
    obtain ⟨a, h1, h2⟩ := Paired.at1 (i := i) (a := b) t (by simpa using e)
    exact ⟨a, by simpa using h1, h2⟩
end
/-! ### what a part of the text yields, leaving what is tracked -/
def Ys (te : TE) (σ : L2.St) (H : Hp) (P : V → Hp → Prop) : Prop := ∀ H1, Same H H1 → ∀ Q : VK, (∀ v H2, Same H1 H2 → P v H2 → Q v H2) → te σ H1 Q
def YT (tt : TT) (σ : L2.St) (H : Hp) (b : Bool) : Prop := ∀ H1, Same H H1 → ∀ Q : Bool → Hp → Prop, (∀ H2, Same H1 H2 → Q b H2) → tt σ H1 Q
def isV (v : V) : V → Hp → Prop := fun u _ => u = v
abbrev isI (i : Int) : V → Hp → Prop := isV (.int i)
abbrev isB (b : Bool) : V → Hp → Prop := isV (.bl b)
def isR (K : PySem.W.Frag) (q : Rat) : V → Hp → Prop := fun v H => RatAt K H v q
/-- a new or an old tuple of ratios -/
def isP (K : PySem.W.Frag) (qs : List Rat) : V → Hp → Prop := fun v H => ∃ p vs, v = .ref p ∧ SqT K H p vs ∧ Rats K H vs qs
def Mono (P : V → Hp → Prop) : Prop := ∀ v H H', P v H → Same H H' → P v H'
theorem mono_V {v : V} : Mono (isV v) := fun _ _ _ h _ => h
theorem mono_R {K : PySem.W.Frag} {q : Rat} : Mono (isR K q) := fun _ _ _ h e => RatAt.mono h e
theorem mono_P {K : PySem.W.Frag} {qs : List Rat} : Mono (isP K qs) := fun _ _ _ ⟨p, vs, a, b, c⟩ e => ⟨p, vs, a, Same.tup e b, c.mono e⟩
section
variable {K : PySem.W.Frag} {σ : L2.St} {H H' : Hp} {ta tb te : TE} {P Pa Pb : V → Hp → Prop} {v x y : V} {i j : Int}
theorem Ys.mono (h : Ys te σ H P) (e : Same H H') : Ys te σ H' P := fun H1 a Q q => h H1 (e.trans a) Q q
theorem Ys.imp (h : Ys te σ H Pa) (f : ∀ v H', Same H H' → Pa v H' → P v H') : Ys te σ H P := fun H1 a Q q => h H1 a Q fun v H2 e p => q v H2 e (f v H2 (a.trans e) p)
theorem y_var {n : Nat} (h : σ[n]? = some (some v)) : Ys (tVar n) σ H (isV v) := fun H1 _ Q q => ⟨v, h, q v H1 (Same.refl _) rfl⟩
theorem y_varP {n : Nat} (h : σ[n]? = some (some v)) (m : Mono P) (p : P v H) : Ys (tVar n) σ H P := fun H1 a Q q => ⟨v, h, q v H1 (Same.refl _) (m _ _ _ p a)⟩
theorem y_c : Ys (tC v) σ H (isV v) := fun H1 _ Q q => q v H1 (Same.refl _) rfl
theorem y_cP (m : Mono P) (p : P v H) : Ys (tC v) σ H P := fun H1 a Q q => q v H1 (Same.refl _) (m _ _ _ p a)
theorem y_op {r : R2} (ha : Ys ta σ H Pa) (hb : Ys tb σ H Pb) (m : Mono Pa) (hr : ∀ x y H1, Same H H1 → Pa x H1 → Pb y H1 → ∀ Q : VK, (∀ v H2, Same H1 H2 → P v H2 → Q v H2) → r x y H1 Q) : Ys (tOp r ta tb) σ H P := fun H1 e Q q =>
  ha H1 e _ fun x H2 e2 p2 => hb H2 (e.trans e2) _ fun y H3 e3 p3 => hr x y H3 ((e.trans e2).trans e3) (m _ _ _ p2 e3) p3 Q fun v H4 e4 p4 => q v H4 ((e2.trans e3).trans e4) p4
theorem y_un {r : V → Hp → VK → Prop} (ha : Ys ta σ H Pa) (hr : ∀ x H1, Same H H1 → Pa x H1 → ∀ Q : VK, (∀ v H2, Same H1 H2 → P v H2 → Q v H2) → r x H1 Q) : Ys (tUn r ta) σ H P := fun H1 e Q q =>
  ha H1 e _ fun x H2 e2 p2 => hr x H2 (e.trans e2) p2 Q fun v H4 e4 p4 => q v H4 (e2.trans e4) p4
theorem y_I0 {g : Int → Int → V} (ha : Ys ta σ H (isI i)) (hb : Ys tb σ H (isI j)) : Ys (tOp (rI0 g) ta tb) σ H (isV (g i j)) :=
  y_op ha hb mono_V fun x y H1 _ px py Q q => by
    subst px py
    exact ⟨i, j, rfl, rfl, q _ _ (Same.refl _) rfl⟩
theorem y_I {C : Int → Int → Prop} {g : Int → Int → V} (ha : Ys ta σ H (isI i)) (hb : Ys tb σ H (isI j)) (c : C i j) : Ys (tOp (rI C g) ta tb) σ H (isV (g i j)) :=
  y_op ha hb mono_V fun x y H1 _ px py Q q => by
    subst px py
    exact ⟨i, j, rfl, rfl, c, q _ _ (Same.refl _) rfl⟩
theorem y_gt (ha : Ys ta σ H (isI i)) (hb : Ys tb σ H (isI j)) : Ys (tOp (rI0 fun i j => .bl (decide (j < i))) ta tb) σ H (isB (decide (j < i))) := y_I0 ha hb
theorem y_ge (ha : Ys ta σ H (isI i)) (hb : Ys tb σ H (isI j)) : Ys (tOp (rI0 fun i j => .bl (decide (j ≤ i))) ta tb) σ H (isB (decide (j ≤ i))) := y_I0 ha hb
theorem y_lt (ha : Ys ta σ H (isI i)) (hb : Ys tb σ H (isI j)) : Ys (tOp (rI0 fun i j => .bl (decide (i < j))) ta tb) σ H (isB (decide (i < j))) := y_I0 ha hb
theorem y_le (ha : Ys ta σ H (isI i)) (hb : Ys tb σ H (isI j)) : Ys (tOp (rI0 fun i j => .bl (decide (i ≤ j))) ta tb) σ H (isB (decide (i ≤ j))) := y_I0 ha hb
theorem y_add (ha : Ys ta σ H (isI i)) (hb : Ys tb σ H (isI j)) : Ys (tOp (rI0 fun i j => .int (i + j)) ta tb) σ H (isI (i + j)) := y_I0 ha hb
theorem y_sub (ha : Ys ta σ H (isI i)) (hb : Ys tb σ H (isI j)) : Ys (tOp (rI0 fun i j => .int (i - j)) ta tb) σ H (isI (i - j)) := y_I0 ha hb
theorem y_mulW (ha : Ys ta σ H (isI i)) (hb : Ys tb σ H (isI j)) (c : CMulW i j) : Ys (tOp (rI CMulW fun i j => .int (i * j)) ta tb) σ H (isI (i * j)) := y_I ha hb c
theorem y_fdivW (ha : Ys ta σ H (isI i)) (hb : Ys tb σ H (isI j)) (c : CDivW i j) : Ys (tOp (rI CDivW fun i j => .int (i / j)) ta tb) σ H (isI (i / j)) := y_I ha hb c
theorem y_neg (ha : Ys ta σ H (isI i)) : Ys (tUn (rU fun i => .int (-i)) ta) σ H (isI (-i)) := y_un ha fun x H1 _ px Q q => by
  subst px
  exact ⟨i, rfl, q _ _ (Same.refl _) rfl⟩
/-- an item of a tuple -/
theorem y_ixT {p : Addr} {xs : List V} (ha : Ys ta σ H (isV (.ref p))) (hb : Ys tb σ H (isI i)) (h : SqT K H p xs) (hat : atI xs i = some v) (m : Mono P) (hP : P v H) : Ys (tOp (rIxT K) ta tb) σ H P :=
  y_op ha hb mono_V fun x y H1 e px py Q q => by
    subst px py
    exact ⟨p, xs, i, v, rfl, rfl, Same.tup e h, hat, q _ _ (Same.refl _) (m _ _ _ hP e)⟩
theorem y_ixL {p : Addr} {xs : List V} (ha : Ys ta σ H (isV (.ref p))) (hb : Ys tb σ H (isI i)) (h : SqL K H p xs) (hat : atI xs i = some v) (m : Mono P) (hP : P v H) : Ys (tOp (rIxL K) ta tb) σ H P :=
  y_op ha hb mono_V fun x y H1 e px py Q q => by
    subst px py
    exact ⟨p, xs, i, v, rfl, rfl, Same.seq e h, hat, q _ _ (Same.refl _) (m _ _ _ hP e)⟩
/-- one[0], one[1] of a ratio -/
theorem y_num {q : Rat} (ha : Ys ta σ H (isR K q)) : Ys (tOp (rIxT K) ta (tC (.int 0))) σ H (isI q.num) :=
  y_op ha (y_c (v := .int 0)) mono_R fun x y H1 e px py Q k => by
    obtain ⟨p, rfl, t⟩ := px
    subst py
    exact ⟨p, ratL q, 0, .int q.num, rfl, rfl, t, rfl, k _ _ (Same.refl _) rfl⟩
theorem y_den {q : Rat} (ha : Ys ta σ H (isR K q)) : Ys (tOp (rIxT K) ta (tC (.int 1))) σ H (isI ((q.den : Nat) : Int)) :=
  y_op ha (y_c (v := .int 1)) mono_R fun x y H1 e px py Q k => by
    obtain ⟨p, rfl, t⟩ := px
    subst py
    exact ⟨p, ratL q, 1, .int ((q.den : Nat) : Int), rfl, rfl, t, rfl, k _ _ (Same.refl _) rfl⟩
/-! calls -/
theorem y_call1 {sp : Sp} (ha : Ys ta σ H Pa) (hr : ∀ x H1, Same H H1 → Pa x H1 → ∀ Q : VK, (∀ v H2, Same H1 H2 → P v H2 → Q v H2) → sp [x] H1 Q E0) : Ys (tCall sp [] E0 (tCons ta tNil)) σ H P := fun H1 e Q q =>
  ha H1 e _ fun x H2 e2 p2 => hr x H2 (e.trans e2) p2 Q fun v H4 e4 p4 => q v H4 (e2.trans e4) p4
theorem y_call2 {sp : Sp} (ha : Ys ta σ H Pa) (hb : Ys tb σ H Pb) (m : Mono Pa) (hr : ∀ x y H1, Same H H1 → Pa x H1 → Pb y H1 → ∀ Q : VK, (∀ v H2, Same H1 H2 → P v H2 → Q v H2) → sp [x, y] H1 Q E0) :
    Ys (tCall sp [] E0 (tCons ta (tCons tb tNil))) σ H P := fun H1 e Q q =>
  ha H1 e _ fun x H2 e2 p2 => hb H2 (e.trans e2) _ fun y H3 e3 p3 => hr x y H3 ((e.trans e2).trans e3) (m _ _ _ p2 e3) p3 Q fun v H4 e4 p4 => q v H4 ((e2.trans e3).trans e4) p4
theorem y_call3 {sp : Sp} {tc : TE} {Pc : V → Hp → Prop} (ha : Ys ta σ H Pa) (hb : Ys tb σ H Pb) (hc : Ys tc σ H Pc) (m : Mono Pa) (mb : Mono Pb)
    (hr : ∀ x y z H1, Same H H1 → Pa x H1 → Pb y H1 → Pc z H1 → ∀ Q : VK, (∀ v H2, Same H1 H2 → P v H2 → Q v H2) → sp [x, y, z] H1 Q E0) : Ys (tCall sp [] E0 (tCons ta (tCons tb (tCons tc tNil)))) σ H P := fun H1 e Q q =>
  ha H1 e _ fun x H2 e2 p2 => hb H2 (e.trans e2) _ fun y H3 e3 p3 => hc H3 ((e.trans e2).trans e3) _ fun z H4 e4 p4 =>
    hr x y z H4 (((e.trans e2).trans e3).trans e4) (m _ _ _ p2 (e3.trans e4)) (mb _ _ _ p3 e4) p4 Q fun v H5 e5 p5 => q v H5 (((e2.trans e3).trans e4).trans e5) p5
theorem y_cb1 {r : List V → Hp → VK → Prop} (ha : Ys ta σ H Pa) (hr : ∀ x H1, Same H H1 → Pa x H1 → ∀ Q : VK, (∀ v H2, Same H1 H2 → P v H2 → Q v H2) → r [x] H1 Q) : Ys (tCB r (tCons ta tNil)) σ H P := fun H1 e Q q =>
  ha H1 e _ fun x H2 e2 p2 => hr x H2 (e.trans e2) p2 Q fun v H4 e4 p4 => q v H4 (e2.trans e4) p4
theorem y_cb2 {r : List V → Hp → VK → Prop} (ha : Ys ta σ H Pa) (hb : Ys tb σ H Pb) (m : Mono Pa) (hr : ∀ x y H1, Same H H1 → Pa x H1 → Pb y H1 → ∀ Q : VK, (∀ v H2, Same H1 H2 → P v H2 → Q v H2) → r [x, y] H1 Q) :
    Ys (tCB r (tCons ta (tCons tb tNil))) σ H P := fun H1 e Q q =>
  ha H1 e _ fun x H2 e2 p2 => hb H2 (e.trans e2) _ fun y H3 e3 p3 => hr x y H3 ((e.trans e2).trans e3) (m _ _ _ p2 e3) p3 Q fun v H4 e4 p4 => q v H4 ((e2.trans e3).trans e4) p4
/-! truth -/
theorem y_andV {a b : Bool} (h1 : Ys ta σ H (isB a)) (h2 : a = true → Ys tb σ H (isB b)) : Ys (tAndV ta tb) σ H (isB (a && b)) := fun H1 e Q q => h1 H1 e _ fun x H2 e2 p => by
  subst p
  refine ⟨a, rfl, ?_⟩
  cases a with
  | true => exact iteT (h2 rfl H2 (e.trans e2) Q fun v H3 e3 p3 => q v H3 (e2.trans e3) p3)
  | false => exact iteF (q _ H2 e2 rfl)
theorem y_orV {a b : Bool} (h1 : Ys ta σ H (isB a)) (h2 : a = false → Ys tb σ H (isB b)) : Ys (tOrV ta tb) σ H (isB (a || b)) := fun H1 e Q q => h1 H1 e _ fun x H2 e2 p => by
  subst p
  refine ⟨a, rfl, ?_⟩
  cases a with
  | true => exact iteT (q _ H2 e2 rfl)
  | false => exact iteF (h2 rfl H2 (e.trans e2) Q fun v H3 e3 p3 => q v H3 (e2.trans e3) p3)
theorem y_notV {a : Bool} (h1 : Ys ta σ H (isB a)) : Ys (tNotV ta) σ H (isB (!a)) := fun H1 e Q q => h1 H1 e _ fun x H2 e2 p => by
  subst p
  exact ⟨a, rfl, q _ H2 e2 rfl⟩
theorem yt_B {b : Bool} (h : Ys te σ H (isB b)) : YT (tB te) σ H b := fun H1 e Q q => h H1 e _ fun x H2 e2 p => by
  subst p
  exact ⟨b, rfl, q H2 e2⟩
theorem yt_T {b : Bool} (h : Ys te σ H (isB b)) : YT (tTest te) σ H b := fun H1 e Q q => h H1 e _ fun x H2 e2 p => by
  subst p
  exact ⟨b, rfl, q H2 e2⟩
theorem yt_not {t : TT} {b : Bool} (h : YT t σ H b) : YT (tNot t) σ H (!b) := fun H1 e Q q => h H1 e _ fun H2 e2 => q H2 e2
theorem yt_and {t u : TT} {a b : Bool} (h1 : YT t σ H a) (h2 : a = true → YT u σ H b) : YT (tAnd t u) σ H (a && b) := fun H1 e Q q => h1 H1 e _ fun H2 e2 => by
  cases a with
  | true => exact iteT (h2 rfl H2 (e.trans e2) Q fun H3 e3 => q H3 (e2.trans e3))
  | false => exact iteF (q H2 e2)
theorem yt_or {t u : TT} {a b : Bool} (h1 : YT t σ H a) (h2 : a = false → YT u σ H b) : YT (tOr t u) σ H (a || b) := fun H1 e Q q => h1 H1 e _ fun H2 e2 => by
  cases a with
  | true => exact iteT (q H2 e2)
  | false => exact iteF (h2 rfl H2 (e.trans e2) Q fun H3 e3 => q H3 (e2.trans e3))
theorem YT.to {t : TT} {a b : Bool} (h : YT t σ H a) (e : a = b) : YT t σ H b := e ▸ h
theorem y_to {a b : Bool} (h : Ys te σ H (isB a)) (e : a = b) : Ys te σ H (isB b) := e ▸ h
theorem y_toI (h : Ys te σ H (isI i)) (e : i = j) : Ys te σ H (isI j) := e ▸ h
theorem y_if {t : TT} {b : Bool} (h : YT t σ H b) (h1 : b = true → Ys ta σ H P) (h2 : b = false → Ys tb σ H P) : Ys (tIf t ta tb) σ H P := fun H1 e Q q => h H1 e _ fun H2 e2 => by
  cases b with
  | true => exact iteT (h1 rfl H2 (e.trans e2) Q fun v H3 e3 p => q v H3 (e2.trans e3) p)
  | false => exact iteF (h2 rfl H2 (e.trans e2) Q fun v H3 e3 p => q v H3 (e2.trans e3) p)
/-! statements -/
variable {D : Ends} {tu tw : TS} {t : TT}
theorem s_ret (h : Ys te σ H P) (k : ∀ v H1, Same H H1 → P v H1 → D.rt v H1) : tRet te D σ H := h H (Same.refl _) _ k
theorem s_set {n : Nat} (h : Ys te σ H P) (k : ∀ v H1, Same H H1 → P v H1 → D.nx (σ.set n (some v)) H1) : tAsg te (gName n) D σ H := h H (Same.refl _) _ k
theorem s_drop (h : Ys te σ H P) (k : ∀ v H1, Same H H1 → P v H1 → D.nx σ H1) : tDrop te D σ H := h H (Same.refl _) _ k
theorem s_seq (h : tu { D with nx := tw D } σ H) : tSeq tu tw D σ H := h
theorem s_if {b : Bool} (h : YT t σ H b) (h1 : b = true → ∀ H1, Same H H1 → tu D σ H1) (h2 : b = false → ∀ H1, Same H H1 → tw D σ H1) : tIfS t tu tw D σ H := h H (Same.refl _) _ fun H1 e => by
  cases b with
  | true => exact iteT (h1 rfl H1 e)
  | false => exact iteF (h2 rfl H1 e)
theorem s_no {b : Bool} (h : YT t σ H b) (hb : b = false) (h2 : ∀ H1, Same H H1 → tw D σ H1) : tIfS t tu tw D σ H := by
  subst hb
  exact s_if h (fun z => by cases z) fun _ => h2
/-! displays -/
theorem y_tup2 (ha : Ys ta σ H Pa) (hb : Ys tb σ H Pb) (m : Mono Pa) (h : ∀ x y p H1 H2, Same H H1 → Same H1 H2 → Pa x H1 → Pb y H1 → H2 p = some (.tup [x, y]) → P (.ref p) H2) : Ys (tTup (tCons ta (tCons tb tNil))) σ H P := fun H1 e Q q =>
  ha H1 e _ fun x H2 e2 p2 => hb H2 (e.trans e2) _ fun y H3 e3 p3 => ⟨by show 2 ≤ sizeLine; decide, fun p hp =>
    q _ _ ((e2.trans e3).trans (Same.new hp)) (h x y p H3 _ ((e.trans e2).trans e3) (Same.new hp) (m _ _ _ p2 e3) p3 upd_same)⟩
end
end BC
namespace BC
open L2 PySem PySem.Spec PyProof.Rows
theorem sqT_ty {K : PySem.W.Frag} {H : Hp} {p : Addr} {xs : List V} (h : SqT K H p xs) : TyX K H (.ref p) (.type "tuple") := by
  rcases h with (h | ⟨o, h⟩) | ⟨o, its, n, h1, h2, _⟩
  · exact .base (.tup h)
  · exact .fTuple h
  · exact .kTuple h1 h2
section
variable {K : PySem.W.Frag} {σ : L2.St} {H : Hp} {ta : TE} {Pa : V → Hp → Prop}
theorem y_isi {n t : String} {b : Bool} (ha : Ys ta σ H Pa) (ty : ∀ v H1, Same H H1 → Pa v H1 → TyX K H1 v (.type t)) (k : PySem.W.kitOne K (.type t) (.type n) = some b) : Ys (tCB (rIsi K) (tCons ta (tCons (tC (.ty n)) tNil))) σ H (isB b) := fun H1 e Q q =>
  ha H1 e _ fun v H2 e2 p => ⟨v, .ty n, _, _, b, rfl, .ty n, ty v H2 (e.trans e2) p, k, q _ H2 e2 rfl⟩
/-- len of a tuple -/
theorem y_lenT {p : Addr} {xs : List V} {n : Int} (ha : Ys ta σ H (isV (.ref p))) (h : SqT K H p xs) (e : (xs.length : Int) = n) : Ys (tCB (fun xs H Q => ∃ p ys, xs = [.ref p] ∧ (SqL K H p ys ∨ SqT K H p ys) ∧ Q (.int ys.length) H) (tCons ta tNil)) σ H (isI n) :=
  y_cb1 ha fun x H1 e1 px Q q => by
    subst px
    exact ⟨p, xs, rfl, .inr (Same.tup e1 h), q _ _ (Same.refl _) (by rw [e] <;> rfl)⟩
theorem y_lenL {p : Addr} {xs : List V} {n : Int} (ha : Ys ta σ H (isV (.ref p))) (h : SqL K H p xs) (e : (xs.length : Int) = n) : Ys (tCB (fun xs H Q => ∃ p ys, xs = [.ref p] ∧ (SqL K H p ys ∨ SqT K H p ys) ∧ Q (.int ys.length) H) (tCons ta tNil)) σ H (isI n) :=
  y_cb1 ha fun x H1 e1 px Q q => by
    subst px
    exact ⟨p, xs, rfl, .inl (Same.seq e1 h), q _ _ (Same.refl _) (by rw [e] <;> rfl)⟩
theorem y_gcd {tb : TE} {a b : Int} (ha : Ys ta σ H (isI a)) (hb : Ys tb σ H (isI b)) : Ys (tCB rGcd (tCons ta (tCons tb tNil))) σ H (isI ((Nat.gcd a.natAbs b.natAbs : Nat) : Int)) :=
  y_cb2 ha hb mono_V fun x y H1 e px py Q q => by
    subst px py
    exact ⟨a, b, rfl, q _ _ (Same.refl _) rfl⟩
theorem y_eqI {tb : TE} {a b : Int} (ha : Ys ta σ H (isI a)) (hb : Ys tb σ H (isI b)) : Ys (tOp rEq ta tb) σ H (isB (decide (a = b))) :=
  y_op ha hb mono_V fun x y H1 e px py Q q => by
    subst px py
    refine ⟨rfl, q _ _ (Same.refl _) ?_⟩
    show V.bl (decide (V.int a = V.int b)) = V.bl (decide (a = b))
    congr 1
    exact decide_eq_decide.mpr ⟨fun z => by cases z; rfl, fun z => by rw [z]⟩
theorem y_neI {tb : TE} {a b : Int} (ha : Ys ta σ H (isI a)) (hb : Ys tb σ H (isI b)) : Ys (tOp rNe ta tb) σ H (isB (!decide (a = b))) :=
  y_op ha hb mono_V fun x y H1 e px py Q q => by
    subst px py
    refine ⟨rfl, q _ _ (Same.refl _) ?_⟩
    show V.bl (!decide (V.int a = V.int b)) = V.bl (!decide (a = b))
    congr 2
    exact decide_eq_decide.mpr ⟨fun z => by cases z; rfl, fun z => by rw [z]⟩
end
/-! ### is_int, is_from, is_ratio -/
def sp_is_int : Sp := fun vs H Q _ => ∃ i : Int, vs = [.int i] ∧ ∀ H', Same H H' → Q (.bl true) H'
def sp_is_from : Sp := fun vs H Q _ => ∃ v a b : Int, vs = [.int v, .int a, .int b] ∧ ∀ H', Same H H' → Q (.bl (decide (a ≤ v) && decide (v ≤ b))) H'
def sp_is_ratio (K : PySem.W.Frag) : Sp := fun vs H Q _ => ∃ v q, vs = [v] ∧ RatAt K H v q ∧ ∀ H', Same H H' → Q (.bl true) H'
section
variable {K : PySem.W.Frag} {σ : L2.St} {H : Hp} {ta tb tc : TE}
theorem y_isInt {i : Int} (ha : Ys ta σ H (isI i)) : Ys (tCall sp_is_int [] E0 (tCons ta tNil)) σ H (isB true) := y_call1 ha fun x H1 _ px Q q => ⟨i, by rw [show x = _ from px], fun H' e => q _ H' e rfl⟩
theorem y_isRat {q : Rat} (ha : Ys ta σ H (isR K q)) : Ys (tCall (sp_is_ratio K) [] E0 (tCons ta tNil)) σ H (isB true) := y_call1 ha fun x H1 _ px Q k => ⟨x, q, rfl, px, fun H' e => k _ H' e rfl⟩
theorem y_isFrom {i a b : Int} (ha : Ys ta σ H (isI i)) (hb : Ys tb σ H (isI a)) (hc : Ys tc σ H (isI b)) : Ys (tCall sp_is_from [] E0 (tCons ta (tCons tb (tCons tc tNil)))) σ H (isB (decide (a ≤ i) && decide (i ≤ b))) :=
  y_call3 ha hb hc mono_V mono_V fun x y z H1 _ px py pz Q q => ⟨i, a, b, by rw [show x = _ from px, show y = _ from py, show z = _ from pz], fun H' e => q _ H' e rfl⟩
/-- a <= b <= c -/
theorem y_chainLe {i j k : Int} (ha : Ys ta σ H (isI i)) (hb : Ys tb σ H (isI j)) (hc : Ys tc σ H (isI k)) :
    Ys (tChain (rI0 fun i j => .bl (decide (i ≤ j))) (rI0 fun i j => .bl (decide (i ≤ j))) ta tb tc) σ H (isB (decide (i ≤ j) && decide (j ≤ k))) := fun H1 e Q q =>
  ha H1 e _ fun x H2 e2 px => hb H2 (e.trans e2) _ fun y H3 e3 py => by
    subst px py
    refine ⟨i, j, rfl, rfl, _, rfl, ?_⟩
    by_cases c : i ≤ j
    · rw [decide_eq_true c]
      exact iteT (hc H3 ((e.trans e2).trans e3) _ fun z H4 e4 pz => by
        subst pz
        exact ⟨j, k, rfl, rfl, q _ _ ((e2.trans e3).trans e4) (by rw [decide_eq_true c] <;> rfl)⟩)
    · rw [decide_eq_false c]
      exact iteF (q _ _ (e2.trans e3) (by rw [decide_eq_false c] <;> rfl))
end
theorem sc_is_int : FnScope ["value"] ["value"] (defScope s_is_int) := ⟨rfl, rfl, rfl, by decide +kernel, rfl, by decide +kernel, by decide +kernel⟩
theorem sc_is_from : FnScope ["value", "least", "most"] ["value", "least", "most"] (defScope s_is_from) := ⟨rfl, rfl, rfl, by decide +kernel, rfl, by decide +kernel, by decide +kernel⟩
theorem sc_is_ratio : FnScope ["value"] ["value"] (defScope s_is_ratio) := ⟨rfl, rfl, rfl, by decide +kernel, rfl, by decide +kernel, by decide +kernel⟩
section
variable {K : PySem.W.Frag} {mg : Str → Option Value} {P : Program} {w : World} {base : Heap}
theorem kit_ii : PySem.W.kitOne K (.type "int") (.type "int") = some true := kit_ty (by decide +kernel)
theorem kit_ib : PySem.W.kitOne K (.type "int") (.type "bool") = some false := kit_ty (by decide +kernel)
theorem kit_tt : PySem.W.kitOne K (.type "tuple") (.type "tuple") = some true := kit_ty (by decide +kernel)
theorem ok_is_int (T : TX K mg) : Def P w K mg base 1 "is_int" ["value"] sp_is_int := by
  refine T.is_int.def_ sc_is_int (fun _ _ _ _ _ _ us hl => match us, hl with | [_], _ => rfl) (fun vs H Q E h => ?_) (fun cdv A outer s H vs Q E hr h => ?_)
  · obtain ⟨i, rfl, _⟩ := h
    rfl
  · obtain ⟨i, rfl, k⟩ := h
    refine ⟨_, pss_one (ps_ret (pe_and (pe_callB call_isi (by rfl) T.b_isinstance (by decide +kernel) (pa_cons (pv 0) (pa_cons (pe_bltn (v := .ty "int") (by rfl) T.b_int (by decide +kernel) rfl) pa_nil)))
      (pe_one (pe_not (pe_callB call_isi (by rfl) T.b_isinstance (by decide +kernel) (pa_cons (pv 0) (pa_cons (pe_bltn (v := .ty "bool") (by rfl) T.b_bool (by decide +kernel) rfl) pa_nil))))))), ?_⟩
    refine ⟨_, rfl, _, _, _, _, _, rfl, .ty "int", .base (.int i), kit_ii, _, rfl, iteT ?_⟩
    exact ⟨_, rfl, _, _, _, _, _, rfl, .ty "bool", .base (.int i), kit_ib, _, rfl, k _ (Same.refl _)⟩
theorem ok_is_from (T : TX K mg) : Def P w K mg base 2 "is_from" ["value", "least", "most"] sp_is_from := by
  have G : Def P w K mg base 1 "is_int" ["value"] sp_is_int := ok_is_int T
  refine T.is_from.def_ sc_is_from (fun _ _ _ _ _ _ us hl => match us, hl with | [_, _, _], _ => rfl) (fun vs H Q E h => ?_) (fun cdv A outer s H vs Q E hr h => ?_)
  · obtain ⟨v, a, b, rfl, _⟩ := h
    rfl
  · obtain ⟨v, a, b, rfl, k⟩ := h
    refine ⟨_, pss_one (ps_ret (pe_and (pe_def G hr (pa_cons (pv 0) pa_nil)) (pe_one (pe_chain op_le op_le (pv 1) (pv 0) (pv 2))))), ?_⟩
    refine s_ret (y_andV (y_isInt (y_var (v := .int v) rfl)) fun _ => y_chainLe (y_var (v := .int a) rfl) (y_var (v := .int v) rfl) (y_var (v := .int b) rfl)) fun v' H2 e p => ?_
    subst p
    exact k H2 e
theorem ok_is_ratio (T : TX K mg) : Def P w K mg base 2 "is_ratio" ["value"] (sp_is_ratio K) := by
  have G : Def P w K mg base 1 "is_int" ["value"] sp_is_int := ok_is_int T
  refine T.is_ratio.def_ sc_is_ratio (fun _ _ _ _ _ _ us hl => match us, hl with | [_], _ => rfl) (fun vs H Q E h => ?_) (fun cdv A outer s H vs Q E hr h => ?_)
  · obtain ⟨v, q, rfl, _⟩ := h
    rfl
  · obtain ⟨v, q, rfl, ⟨p, rfl, hq⟩, k⟩ := h
    have y0' : Ys (tVar 0) (start ["value"] [.ref p]) H (isR K q) := y_varP (v := .ref p) rfl mono_R ⟨p, rfl, hq⟩
    have y0 : ∀ {H1 : Hp}, Same H H1 → Ys (tVar 0) (start ["value"] [.ref p]) H1 (isR K q) := fun e => y_varP (v := .ref p) rfl mono_R ⟨p, rfl, Same.tup e hq⟩
    refine ⟨_, pss_cons (ps_if (PW.pt (pw_or (pt_not (pt_val (pe_callB call_isi (by rfl) T.b_isinstance (by decide +kernel) (pa_cons (pv 0) (pa_cons (pe_bltn (v := .ty "tuple") (by rfl) T.b_tuple (by decide +kernel) rfl) pa_nil)))))
        (pw_or (pt_cmpR op_ne (pe_callB call_len_seq (by rfl) T.b_len (by decide +kernel) (pa_cons (pv 0) pa_nil)) pe_int (nomark _))
        (pw_or (pt_not (pt_val (pe_def G hr (pa_cons (pe_ix ix_tup (pv 0) pe_int (fun _ _ => rfl)) pa_nil)))) (pw_or1 (pt_not (pt_val (pe_def G hr (pa_cons (pe_ix ix_tup (pv 0) pe_int (fun _ _ => rfl)) pa_nil)))))))))
        pss_never pss_nil)
      (pss_one (ps_ret (pe_and (pe_cmpR op_gt (pe_ix ix_tup (pv 0) pe_int (fun _ _ => rfl)) pe_int (nomark _)) (pe_one (pe_cmpR op_eq (pe_callBfun cr_gcd (by rfl) T.gcd (pa_cons (pe_ix ix_tup (pv 0) pe_int (fun _ _ => rfl)) (pa_cons (pe_ix ix_tup (pv 0) pe_int (fun _ _ => rfl)) pa_nil))) pe_int (nomark _)))))), ?_⟩
    have yv : ∀ {H1 : Hp}, Ys (tVar 0) (start ["value"] [.ref p]) H1 (isV (.ref p)) := fun {H1} => y_var (v := .ref p) rfl
    refine s_seq (s_no (yt_or (yt_not (yt_B (y_isi y0' (fun v H1 e r => ?_) kit_tt))) fun _ => yt_or (yt_T (y_neI (y_lenT yv hq (n := 2) rfl) y_c)) fun _ => yt_or (yt_not (yt_B (y_isInt (y_num y0')))) fun _ => yt_not (yt_B (y_isInt (y_den y0')))) (by rfl) fun H1 e1 => ?_)
    · obtain ⟨p', rfl, t'⟩ := r
      exact sqT_ty t'
    · refine s_ret (y_andV (y_gt (y_den (y0 e1)) y_c) fun _ => y_eqI (y_gcd (y_num (y0 e1)) (y_den (y0 e1))) y_c) fun v H2 e2 pv' => ?_
      subst pv'
      have h1 : (0 : Int) < ((q.den : Nat) : Int) := dn_pos q
      have h2 : (((Nat.gcd q.num.natAbs ((q.den : Nat) : Int).natAbs : Nat) : Int)) = 1 := by
        have r := q.reduced
        have r' : Nat.gcd q.num.natAbs q.den = 1 := r
        show ((Nat.gcd q.num.natAbs q.den : Nat) : Int) = 1
        rw [r'] <;> rfl
      show Q (V.bl (decide ((0 : Int) < ((q.den : Nat) : Int)) && decide (((Nat.gcd q.num.natAbs ((q.den : Nat) : Int).natAbs : Nat) : Int) = 1))) H2
      rw [decide_eq_true h1, decide_eq_true h2]
      exact k H2 (e1.trans e2)
/-! ### made and what rests on it -/
end
def sp_made (K : PySem.W.Frag) : Sp := fun vs H Q _ => ∃ t l : Int, vs = [.int t, .int l] ∧ 0 < l ∧ l.natAbs < 2 ^ (sz + sz) ∧ ∀ v H', Same H H' → RatAt K H' v (Rat.divInt t l) → Q v H'
def spBin (pre : Rat → Rat → Prop) (f : Rat → Rat → Rat) (K : PySem.W.Frag) : Sp := fun vs H Q _ => ∃ x y a b, vs = [x, y] ∧ RatAt K H x a ∧ RatAt K H y b ∧ pre a b ∧ ∀ v H', Same H H' → RatAt K H' v (f a b) → Q v H'
def Sm2 (a b : Rat) : Prop := Sm a ∧ Sm b
abbrev sp_plus : PySem.W.Frag → Sp := spBin Sm2 fun a b => a + b
abbrev sp_less : PySem.W.Frag → Sp := spBin Sm2 fun a b => a - b
abbrev sp_times : PySem.W.Frag → Sp := spBin Sm2 fun a b => a * b
abbrev sp_over : PySem.W.Frag → Sp := spBin (fun a b => Sm2 a b ∧ 0 < b) fun a b => a / b
def sp_negative (K : PySem.W.Frag) : Sp := fun vs H Q _ => ∃ x a, vs = [x] ∧ RatAt K H x a ∧ ∀ v H', Same H H' → RatAt K H' v (-a) → Q v H'
def sp_is_below (K : PySem.W.Frag) : Sp := fun vs H Q _ => ∃ x y a b, vs = [x, y] ∧ RatAt K H x a ∧ RatAt K H y b ∧ Sm2 a b ∧ ∀ H', Same H H' → Q (.bl (decide (a < b))) H'
def sp_between (K : PySem.W.Frag) : Sp := fun vs H Q _ => ∃ x y z a b t, vs = [x, y, z] ∧ RatAt K H x a ∧ RatAt K H y b ∧ RatAt K H z t ∧ Sm2 a b ∧ Sm2 t (b - a) ∧ Sm (t * (b - a)) ∧ ∀ v H', Same H H' → RatAt K H' v (btw a b t) → Q v H'
theorem sc_made : FnScope ["top", "low", "part"] ["top", "low"] (defScope s_made) := ⟨rfl, rfl, rfl, by decide +kernel, rfl, by decide +kernel, by decide +kernel⟩
theorem sc_plus : FnScope ["one", "other"] ["one", "other"] (defScope s_plus) := ⟨rfl, rfl, rfl, by decide +kernel, rfl, by decide +kernel, by decide +kernel⟩
theorem sc_less : FnScope ["one", "other"] ["one", "other"] (defScope s_less) := ⟨rfl, rfl, rfl, by decide +kernel, rfl, by decide +kernel, by decide +kernel⟩
theorem sc_times : FnScope ["one", "other"] ["one", "other"] (defScope s_times) := ⟨rfl, rfl, rfl, by decide +kernel, rfl, by decide +kernel, by decide +kernel⟩
theorem sc_over : FnScope ["one", "other"] ["one", "other"] (defScope s_over) := ⟨rfl, rfl, rfl, by decide +kernel, rfl, by decide +kernel, by decide +kernel⟩
theorem sc_negative : FnScope ["one"] ["one"] (defScope s_negative) := ⟨rfl, rfl, rfl, by decide +kernel, rfl, by decide +kernel, by decide +kernel⟩
theorem sc_is_below : FnScope ["one", "other"] ["one", "other"] (defScope s_is_below) := ⟨rfl, rfl, rfl, by decide +kernel, rfl, by decide +kernel, by decide +kernel⟩
theorem sc_between : FnScope ["one", "other", "part"] ["one", "other", "part"] (defScope s_between) := ⟨rfl, rfl, rfl, by decide +kernel, rfl, by decide +kernel, by decide +kernel⟩
theorem cm_sm {i j : Int} (ha : i.natAbs < 2 ^ sz) (hb : j.natAbs < 2 ^ sz) : CMulW i j := wide_mul ha hb (by decide) (by decide) (by decide)
theorem dn_sm {a : Rat} (h : Sm a) : ((a.den : Nat) : Int).natAbs < 2 ^ sz := h.2
section
variable {K : PySem.W.Frag} {σ : L2.St} {H : Hp} {ta tb tc : TE}
theorem y_made {t l : Int} (ha : Ys ta σ H (isI t)) (hb : Ys tb σ H (isI l)) (h0 : 0 < l) (h1 : l.natAbs < 2 ^ (sz + sz)) : Ys (tCall (sp_made K) [] E0 (tCons ta (tCons tb tNil))) σ H (isR K (Rat.divInt t l)) :=
  y_call2 ha hb mono_V fun x y H1 _ px py Q q => ⟨t, l, by rw [show x = _ from px, show y = _ from py], h0, h1, fun v H' e r => q v H' e r⟩
theorem y_bin {pre : Rat → Rat → Prop} {f : Rat → Rat → Rat} {a b : Rat} (ha : Ys ta σ H (isR K a)) (hb : Ys tb σ H (isR K b)) (hp : pre a b) : Ys (tCall (spBin pre f K) [] E0 (tCons ta (tCons tb tNil))) σ H (isR K (f a b)) :=
  y_call2 ha hb mono_R fun x y H1 _ px py Q q => ⟨x, y, a, b, rfl, px, py, hp, fun v H' e r => q v H' e r⟩
theorem y_plus {a b : Rat} (ha : Ys ta σ H (isR K a)) (hb : Ys tb σ H (isR K b)) (sa : Sm a) (sb : Sm b) : Ys (tCall (sp_plus K) [] E0 (tCons ta (tCons tb tNil))) σ H (isR K (a + b)) := y_bin ha hb ⟨sa, sb⟩
theorem y_less {a b : Rat} (ha : Ys ta σ H (isR K a)) (hb : Ys tb σ H (isR K b)) (sa : Sm a) (sb : Sm b) : Ys (tCall (sp_less K) [] E0 (tCons ta (tCons tb tNil))) σ H (isR K (a - b)) := y_bin ha hb ⟨sa, sb⟩
theorem y_times {a b : Rat} (ha : Ys ta σ H (isR K a)) (hb : Ys tb σ H (isR K b)) (sa : Sm a) (sb : Sm b) : Ys (tCall (sp_times K) [] E0 (tCons ta (tCons tb tNil))) σ H (isR K (a * b)) := y_bin ha hb ⟨sa, sb⟩
theorem y_over {a b : Rat} (ha : Ys ta σ H (isR K a)) (hb : Ys tb σ H (isR K b)) (sa : Sm a) (sb : Sm b) (h0 : 0 < b) : Ys (tCall (sp_over K) [] E0 (tCons ta (tCons tb tNil))) σ H (isR K (a / b)) := y_bin ha hb ⟨⟨sa, sb⟩, h0⟩
theorem y_negative {a : Rat} (ha : Ys ta σ H (isR K a)) : Ys (tCall (sp_negative K) [] E0 (tCons ta tNil)) σ H (isR K (-a)) := y_call1 ha fun x H1 _ px Q k => ⟨x, a, rfl, px, fun v H' e r => k v H' e r⟩
theorem y_below {a b : Rat} (ha : Ys ta σ H (isR K a)) (hb : Ys tb σ H (isR K b)) (sa : Sm a) (sb : Sm b) : Ys (tCall (sp_is_below K) [] E0 (tCons ta (tCons tb tNil))) σ H (isB (decide (a < b))) :=
  y_call2 ha hb mono_R fun x y H1 _ px py Q q => ⟨x, y, a, b, rfl, px, py, ⟨sa, sb⟩, fun H' e => q _ H' e rfl⟩
theorem y_between {a b t : Rat} (ha : Ys ta σ H (isR K a)) (hb : Ys tb σ H (isR K b)) (hc : Ys tc σ H (isR K t)) (s1 : Sm2 a b) (s2 : Sm2 t (b - a)) (s3 : Sm (t * (b - a))) : Ys (tCall (sp_between K) [] E0 (tCons ta (tCons tb (tCons tc tNil)))) σ H (isR K (btw a b t)) :=
  y_call3 ha hb hc mono_R mono_R fun x y z H1 _ px py pz Q q => ⟨x, y, z, a, b, t, rfl, px, py, pz, s1, s2, s3, fun v H' e r => q v H' e r⟩
theorem Ys.isR_eq {a b : Rat} (h : Ys ta σ H (isR K a)) (e : a = b) : Ys ta σ H (isR K b) := e ▸ h
end
section
variable {K : PySem.W.Frag} {mg : Str → Option Value} {P : Program} {w : World} {base : Heap}
theorem ok_made (T : TX K mg) : Def P w K mg base 1 "made" ["top", "low"] (sp_made K) := by
  refine T.made.def_ sc_made (fun _ _ _ _ _ _ us hl => match us, hl with | [_, _], _ => rfl) (fun vs H Q E h => ?_) (fun cdv A outer s H vs Q E hr h => ?_)
  · obtain ⟨t, l, rfl, _⟩ := h
    rfl
  · obtain ⟨t, l, rfl, h0, h1, k⟩ := h
    have g0 := md_gpos t h0
    have g1 := md_gle t h0
    have cd : ∀ z : Int, CDivW z ((Nat.gcd t.natAbs l.natAbs : Nat) : Int) := fun z => wide_div g0 (Nat.lt_of_le_of_lt g1 h1) (by decide) (by decide)
    refine ⟨_, pss_cons (ps_set (i := 2) sc_made.nd rfl (Or.inl rfl) (pe_callBfun cr_gcd (by rfl) T.gcd (pa_cons (pv 0) (pa_cons (pv 1) pa_nil))))
      (pss_cons (ps_if (pt_cmpR op_lt (pv 1) pe_int (nomark _)) pss_never pss_nil)
      (pss_one (ps_ret (pe_tup (pa_cons (pe_op op_fdivW (pv 0) (pv 2)) (pa_cons (pe_op op_fdivW (pv 1) (pv 2)) pa_nil)))))), ?_⟩
    refine s_seq (s_set (y_gcd (y_var (v := .int t) rfl) (y_var (v := .int l) rfl)) fun v H1 e1 p => ?_)
    rw [show v = _ from p]
    refine s_seq (s_no (yt_T (y_lt (y_var (v := .int l) rfl) y_c)) (decide_eq_false (by omega)) fun H2 e2 => ?_)
    refine s_ret (y_tup2 (y_fdivW (y_var (v := .int t) rfl) (y_var rfl) (cd t)) (y_fdivW (y_var (v := .int l) rfl) (y_var rfl) (cd l)) mono_V (P := isR K (Rat.divInt t l)) fun x y p H3 H4 _ _ px py hp => ?_) fun v H3 e3 r => k v H3 ((e1.trans e2).trans e3) r
    rw [show x = _ from px, show y = _ from py, md_num t h0, md_den t h0] at hp
    exact ⟨p, rfl, .of hp⟩
theorem ok_plus (T : TX K mg) : Def P w K mg base 2 "plus" ["one", "other"] (sp_plus K) := by
  have G : Def P w K mg base 1 "made" ["top", "low"] (sp_made K) := ok_made T
  refine T.plus.def_ sc_plus (fun _ _ _ _ _ _ us hl => match us, hl with | [_, _], _ => rfl) (fun vs H Q E h => ?_) (fun cdv A outer s H vs Q E hr h => ?_)
  · obtain ⟨x, y, a, b, rfl, _⟩ := h
    rfl
  · obtain ⟨x, y, a, b, rfl, ra, rb, ⟨sa, sb⟩, k⟩ := h
    have ya : Ys (tVar 0) (start ["one", "other"] [x, y]) H (isR K a) := y_varP (v := x) rfl mono_R ra
    have yb : Ys (tVar 1) (start ["one", "other"] [x, y]) H (isR K b) := y_varP (v := y) rfl mono_R rb
    have i0 : ∀ {X : Cx}, IxR X (rIxT X.K) := ix_tup
    refine ⟨_, pss_one (ps_ret (pe_def G hr (pa_cons (pe_op op_add (pe_op op_mulW (pe_ix ix_tup (pv 0) pe_int (fun _ _ => rfl)) (pe_ix ix_tup (pv 1) pe_int (fun _ _ => rfl))) (pe_op op_mulW (pe_ix ix_tup (pv 1) pe_int (fun _ _ => rfl)) (pe_ix ix_tup (pv 0) pe_int (fun _ _ => rfl))))
      (pa_cons (pe_op op_mulW (pe_ix ix_tup (pv 0) pe_int (fun _ _ => rfl)) (pe_ix ix_tup (pv 1) pe_int (fun _ _ => rfl))) pa_nil)))), ?_⟩
    refine s_ret (y_made (y_add (y_mulW (y_num ya) (y_den yb) (cm_sm sa.1 (dn_sm sb))) (y_mulW (y_num yb) (y_den ya) (cm_sm sb.1 (dn_sm sa)))) (y_mulW (y_den ya) (y_den yb) (cm_sm (dn_sm sa) (dn_sm sb))) (Int.mul_pos (dn_pos a) (dn_pos b)) (wide_lt (dn_sm sa) (dn_sm sb))) fun v H1 e r => ?_
    rw [md_add] at r
    exact k v H1 e r
theorem ok_less (T : TX K mg) : Def P w K mg base 2 "less" ["one", "other"] (sp_less K) := by
  have G : Def P w K mg base 1 "made" ["top", "low"] (sp_made K) := ok_made T
  refine T.less.def_ sc_less (fun _ _ _ _ _ _ us hl => match us, hl with | [_, _], _ => rfl) (fun vs H Q E h => ?_) (fun cdv A outer s H vs Q E hr h => ?_)
  · obtain ⟨x, y, a, b, rfl, _⟩ := h
    rfl
  · obtain ⟨x, y, a, b, rfl, ra, rb, ⟨sa, sb⟩, k⟩ := h
    have ya : Ys (tVar 0) (start ["one", "other"] [x, y]) H (isR K a) := y_varP (v := x) rfl mono_R ra
    have yb : Ys (tVar 1) (start ["one", "other"] [x, y]) H (isR K b) := y_varP (v := y) rfl mono_R rb
    refine ⟨_, pss_one (ps_ret (pe_def G hr (pa_cons (pe_op op_sub (pe_op op_mulW (pe_ix ix_tup (pv 0) pe_int (fun _ _ => rfl)) (pe_ix ix_tup (pv 1) pe_int (fun _ _ => rfl))) (pe_op op_mulW (pe_ix ix_tup (pv 1) pe_int (fun _ _ => rfl)) (pe_ix ix_tup (pv 0) pe_int (fun _ _ => rfl)))) (pa_cons (pe_op op_mulW (pe_ix ix_tup (pv 0) pe_int (fun _ _ => rfl)) (pe_ix ix_tup (pv 1) pe_int (fun _ _ => rfl))) pa_nil)))), ?_⟩
    refine s_ret (y_made (y_sub (y_mulW (y_num ya) (y_den yb) (cm_sm sa.1 (dn_sm sb))) (y_mulW (y_num yb) (y_den ya) (cm_sm sb.1 (dn_sm sa)))) (y_mulW (y_den ya) (y_den yb) (cm_sm (dn_sm sa) (dn_sm sb))) (Int.mul_pos (dn_pos a) (dn_pos b)) (wide_lt (dn_sm sa) (dn_sm sb))) fun v H1 e r => ?_
    rw [md_sub] at r
    exact k v H1 e r
theorem ok_times (T : TX K mg) : Def P w K mg base 2 "times" ["one", "other"] (sp_times K) := by
  have G : Def P w K mg base 1 "made" ["top", "low"] (sp_made K) := ok_made T
  refine T.times.def_ sc_times (fun _ _ _ _ _ _ us hl => match us, hl with | [_, _], _ => rfl) (fun vs H Q E h => ?_) (fun cdv A outer s H vs Q E hr h => ?_)
  · obtain ⟨x, y, a, b, rfl, _⟩ := h
    rfl
  · obtain ⟨x, y, a, b, rfl, ra, rb, ⟨sa, sb⟩, k⟩ := h
    have ya : Ys (tVar 0) (start ["one", "other"] [x, y]) H (isR K a) := y_varP (v := x) rfl mono_R ra
    have yb : Ys (tVar 1) (start ["one", "other"] [x, y]) H (isR K b) := y_varP (v := y) rfl mono_R rb
    refine ⟨_, pss_one (ps_ret (pe_def G hr (pa_cons (pe_op op_mulW (pe_ix ix_tup (pv 0) pe_int (fun _ _ => rfl)) (pe_ix ix_tup (pv 1) pe_int (fun _ _ => rfl))) (pa_cons (pe_op op_mulW (pe_ix ix_tup (pv 0) pe_int (fun _ _ => rfl)) (pe_ix ix_tup (pv 1) pe_int (fun _ _ => rfl))) pa_nil)))), ?_⟩
    refine s_ret (y_made (y_mulW (y_num ya) (y_num yb) (cm_sm sa.1 sb.1)) (y_mulW (y_den ya) (y_den yb) (cm_sm (dn_sm sa) (dn_sm sb))) (Int.mul_pos (dn_pos a) (dn_pos b)) (wide_lt (dn_sm sa) (dn_sm sb))) fun v H1 e r => ?_
    rw [md_mul] at r
    exact k v H1 e r
theorem ok_over (T : TX K mg) : Def P w K mg base 2 "over" ["one", "other"] (sp_over K) := by
  have G : Def P w K mg base 1 "made" ["top", "low"] (sp_made K) := ok_made T
  refine T.over.def_ sc_over (fun _ _ _ _ _ _ us hl => match us, hl with | [_, _], _ => rfl) (fun vs H Q E h => ?_) (fun cdv A outer s H vs Q E hr h => ?_)
  · obtain ⟨x, y, a, b, rfl, _⟩ := h
    rfl
  · obtain ⟨x, y, a, b, rfl, ra, rb, ⟨⟨sa, sb⟩, b0⟩, k⟩ := h
    have ya : Ys (tVar 0) (start ["one", "other"] [x, y]) H (isR K a) := y_varP (v := x) rfl mono_R ra
    have yb : Ys (tVar 1) (start ["one", "other"] [x, y]) H (isR K b) := y_varP (v := y) rfl mono_R rb
    refine ⟨_, pss_one (ps_ret (pe_def G hr (pa_cons (pe_op op_mulW (pe_ix ix_tup (pv 0) pe_int (fun _ _ => rfl)) (pe_ix ix_tup (pv 1) pe_int (fun _ _ => rfl))) (pa_cons (pe_op op_mulW (pe_ix ix_tup (pv 0) pe_int (fun _ _ => rfl)) (pe_ix ix_tup (pv 1) pe_int (fun _ _ => rfl))) pa_nil)))), ?_⟩
    refine s_ret (y_made (y_mulW (y_num ya) (y_den yb) (cm_sm sa.1 (dn_sm sb))) (y_mulW (y_den ya) (y_num yb) (cm_sm (dn_sm sa) sb.1)) (Int.mul_pos (dn_pos a) (num_pos b0)) (wide_lt (dn_sm sa) sb.1)) fun v H1 e r => ?_
    rw [md_div] at r
    exact k v H1 e r
theorem ok_negative (T : TX K mg) : Def P w K mg base 1 "negative" ["one"] (sp_negative K) := by
  refine T.negative.def_ sc_negative (fun _ _ _ _ _ _ us hl => match us, hl with | [_], _ => rfl) (fun vs H Q E h => ?_) (fun cdv A outer s H vs Q E hr h => ?_)
  · obtain ⟨x, a, rfl, _⟩ := h
    rfl
  · obtain ⟨x, a, rfl, ra, k⟩ := h
    have ya : Ys (tVar 0) (start ["one"] [x]) H (isR K a) := y_varP (v := x) rfl mono_R ra
    refine ⟨_, pss_one (ps_ret (pe_tup (pa_cons (pe_un un_neg (pe_ix ix_tup (pv 0) pe_int (fun _ _ => rfl))) (pa_cons (pe_ix ix_tup (pv 0) pe_int (fun _ _ => rfl)) pa_nil)))), ?_⟩
    refine s_ret (y_tup2 (y_neg (y_num ya)) (y_den ya) mono_V (P := isR K (-a)) fun x y p H3 H4 _ _ px py hp => ?_) fun v H3 e3 r => k v H3 e3 r
    rw [show x = _ from px, show y = _ from py] at hp
    exact ⟨p, rfl, .of hp⟩
theorem ok_is_below (T : TX K mg) : Def P w K mg base 1 "is_below" ["one", "other"] (sp_is_below K) := by
  refine T.is_below.def_ sc_is_below (fun _ _ _ _ _ _ us hl => match us, hl with | [_, _], _ => rfl) (fun vs H Q E h => ?_) (fun cdv A outer s H vs Q E hr h => ?_)
  · obtain ⟨x, y, a, b, rfl, _⟩ := h
    rfl
  · obtain ⟨x, y, a, b, rfl, ra, rb, ⟨sa, sb⟩, k⟩ := h
    have ya : Ys (tVar 0) (start ["one", "other"] [x, y]) H (isR K a) := y_varP (v := x) rfl mono_R ra
    have yb : Ys (tVar 1) (start ["one", "other"] [x, y]) H (isR K b) := y_varP (v := y) rfl mono_R rb
    refine ⟨_, pss_one (ps_ret (pe_cmpR op_lt (pe_op op_mulW (pe_ix ix_tup (pv 0) pe_int (fun _ _ => rfl)) (pe_ix ix_tup (pv 1) pe_int (fun _ _ => rfl))) (pe_op op_mulW (pe_ix ix_tup (pv 1) pe_int (fun _ _ => rfl)) (pe_ix ix_tup (pv 0) pe_int (fun _ _ => rfl))) (nomark _))), ?_⟩
    refine s_ret (y_lt (y_mulW (y_num ya) (y_den yb) (cm_sm sa.1 (dn_sm sb))) (y_mulW (y_num yb) (y_den ya) (cm_sm sb.1 (dn_sm sa)))) fun v H1 e r => ?_
    have ee : decide (a.num * ((b.den : Nat) : Int) < b.num * ((a.den : Nat) : Int)) = decide (a < b) := decide_eq_decide.mpr (Rat.lt_iff a b).symm
    rw [ee] at r
    rw [show v = _ from r]
    exact k H1 e
theorem ok_between (T : TX K mg) : Def P w K mg base 3 "between" ["one", "other", "part"] (sp_between K) := by
  have Gp : Def P w K mg base 2 "plus" ["one", "other"] (sp_plus K) := ok_plus T
  have Gt : Def P w K mg base 2 "times" ["one", "other"] (sp_times K) := ok_times T
  have Gl : Def P w K mg base 2 "less" ["one", "other"] (sp_less K) := ok_less T
  refine T.between.def_ sc_between (fun _ _ _ _ _ _ us hl => match us, hl with | [_, _, _], _ => rfl) (fun vs H Q E h => ?_) (fun cdv A outer s H vs Q E hr h => ?_)
  · obtain ⟨x, y, z, a, b, t, rfl, _⟩ := h
    rfl
  · obtain ⟨x, y, z, a, b, t, rfl, ra, rb, rt, ⟨sa, sb⟩, ⟨st, sd⟩, sp, k⟩ := h
    have ya : Ys (tVar 0) (start ["one", "other", "part"] [x, y, z]) H (isR K a) := y_varP (v := x) rfl mono_R ra
    have yb : Ys (tVar 1) (start ["one", "other", "part"] [x, y, z]) H (isR K b) := y_varP (v := y) rfl mono_R rb
    have yt : Ys (tVar 2) (start ["one", "other", "part"] [x, y, z]) H (isR K t) := y_varP (v := z) rfl mono_R rt
    refine ⟨_, pss_one (ps_ret (pe_def Gp hr (pa_cons (pv 0) (pa_cons (pe_def Gt hr (pa_cons (pv 2) (pa_cons (pe_def Gl hr (pa_cons (pv 1) (pa_cons (pv 0) pa_nil))) pa_nil))) pa_nil)))), ?_⟩
    exact s_ret (y_plus ya (y_times yt (y_less yb ya sb sa) st sd) sa sp) fun v H1 e r => k v H1 e r
end
end BC
/-! enumerate(t) of a tuple t, walked by a for with a target of several names. -/
namespace PySem
open Sem (wp)
abbrev tupItO (t : Addr) : Obj := { cls := .type "tuple_iterator", data := .fields #[.ref t, .int 0 0] }
abbrev enumO (it : Addr) : Obj := { cls := .type "enumerate", data := .fields #[.none, .bool false, .ref it, rawInt 0, .none, .none] }
theorem bc_enum_meets (t : Addr) (xs : Array Value) (m : Nat) (dd : Option Addr) (ss : Array (Option Value)) :
    Meets (Builtin.«enumerate.__new__» ⟨[.type "enumerate", .ref t], []⟩) (fun _ G z => z.heap.get? t = some { cls := .type "tuple", dict := dd, data := .seq xs m, slots := ss } ∧
      G (.ok (.ret (.ref (z.heap.push (tupItO t)).objs.size))) { z with heap := (z.heap.push (tupItO t)).push (enumO z.heap.objs.size) }) :=
  .of_wp fun pr wo Ar G z hz => by
    obtain ⟨hh, gg, dr, tt, oo⟩ := z
    obtain ⟨ht, hq⟩ := hz
    have hsub := sub_enumerate
    have hT : Heap.IsTuple (Shared.heap ⟨hh, gg, dr, tt, oo⟩) t xs := ⟨_, ht, rfl, m, rfl⟩
    wp_walk using AutoSeq1.wpAny_loadPart' ht
    refine wpAny_stack_any fun stk => wpAny_pure ?_
    split
    · rename_i cc _ _ _ _ _
      cases (cc == Value.type "enumerate")
      · wp_walk using AutoSeq1.wpAny_loadPart' ht, wpAny_pyIter_tuple hT
        exact ⟨_, rfl, hq⟩
      · wp_walk using AutoSeq1.wpAny_loadPart' ht, wpAny_pyIter_tuple hT
        exact ⟨_, rfl, hq⟩
    · wp_walk using AutoSeq1.wpAny_loadPart' ht, wpAny_pyIter_tuple hT
      exact ⟨_, rfl, hq⟩
theorem bc_call_enum {prog : Program} {w : World} {A : Around} {E : Value → Shared → Prop} {s : Shared} {t : Addr} {xs : Array Value} {Q : Value → Shared → Prop} (hT : s.heap.IsTuple t xs)
    (k : ∀ h', IsEnum h' (s.heap.objs.size + 1) s.heap.objs.size 0 .none → h'.IsTupleIter s.heap.objs.size t 0 → h'.objs.size = s.heap.objs.size + 2 →
      (∀ b o, s.heap.get? b = some o → h'.get? b = some o) → Q (.ref (s.heap.objs.size + 1)) { s with heap := h' }) : wpAny (model prog w) A (call (.type "enumerate") [.ref t]) Q E s := by
  obtain ⟨⟨c, dd, dt, ss⟩, ht, hc, m, hd⟩ := hT
  replace hc : c = .type "tuple" := hc
  replace hd : dt = .seq xs m := hd
  subst hc hd
  refine callType_new F.called_enumerate (by decide) (F.typeCall_enumerate_1 _) (F.newCall_enumerate_1 _) (fun ob => F.args_object_init_2 ob _) F.entry_enumerate_new (bc_enum_meets t xs m dd ss) ⟨ht, ?_⟩
  have hz : (s.heap.push (tupItO t)).objs.size = s.heap.objs.size + 1 := Heap.size_push ..
  show _ ∧ _
  rw [hz]
  have he : IsEnum ((s.heap.push (tupItO t)).push (enumO s.heap.objs.size)) (s.heap.objs.size + 1) s.heap.objs.size 0 .none := by
    have q := Heap.get?_push_size (s.heap.push (tupItO t)) (o := enumO s.heap.objs.size) rfl
    rw [hz] at q
    exact q
  refine ⟨⟨_, he, rfl⟩, k _ he ⟨_, Heap.get?_push_of_some _ (Heap.get?_push_size _ rfl), rfl, rfl⟩ (by rw [Heap.size_push, hz]) fun b o y => Heap.get?_push_of_some _ (Heap.get?_push_of_some _ y)⟩
end PySem
namespace BC
open L2 PySem PySem.Spec PyProof.Rows
/-- the tuple at a as it stands at each turn, place and item in a new pair -/
def IteT (K : PySem.W.Frag) (a : Addr) : It :=
  ⟨fun i H => ∃ (xs : List V) (x : V), SqT K H a xs ∧ xs[i]? = some x, fun i H v H' => ∃ T x, v = .ref T ∧ H T = none ∧ H' = upd H T (.tup [.int (i : Nat), x]) ∧ ∀ xs, SqT K H a xs → xs[i]? = some x, fun i H => ∃ xs : List V, SqT K H a xs ∧ xs.length = i⟩
theorem turn_enumT {P : Program} {w : World} {K : PySem.W.Frag} {elts : List Expr} {kk : Nat} {tpos : Pos} (a e it : Addr) (hai : a ≠ it) (hae : a ≠ e) :
    Turn P w K (.Tuple elts kk tpos) (IteT K a) [e, it] e (fun i h => (∃ old, IsEnum h e it ((i : Nat) : Int) old) ∧ h.IsTupleIter it a i ∧ e ≠ it) where
  mem := by simp
  obj := fun i h st b hb => by
    obtain ⟨⟨was, he⟩, ⟨o, ho, _, hd⟩, _⟩ := st
    have hb2 : b = e ∨ b = it := by simpa using hb
    rcases hb2 with z | z
    · rw [z]
      exact ⟨_, he, fun v q => nomatch q⟩
    · rw [z]
      exact ⟨o, ho, fun v q => by rw [hd] at q; cases q⟩
  keep := fun i h h' st k => by
    obtain ⟨⟨old, he⟩, hi, hne⟩ := st
    exact ⟨⟨old, k e (by simp) _ he⟩, hi.at fun o q => k it (by simp) o q, hne⟩
  item := by
    intro X hP hw hK calm i pins s σ H E I hf st hg
    cases hP
    cases hw
    cases hK
    obtain ⟨⟨was, he⟩, hit, hne⟩ := st
    obtain ⟨xs, x, hq, hx⟩ := hg
    obtain ⟨its, same, tp, hz⟩ := I.tuple hq
    obtain ⟨u, hu, ru⟩ := same.get hx
    have hel := Heap.lt_size (a := e) he
    have hil : it < s.heap.objs.size := by
      obtain ⟨_, q, _⟩ := hit
      exact Heap.lt_size q
    have hlt : i < its.toArray.size := by
      have := (List.getElem?_eq_some_iff.mp hu).1
      simpa using this
    have aw : X.A.in1.handled = none := I.ok.hd calm
    refine wpAny_pyNext_enum_itemD (Draws.tuple (prog := X.prog) (w := X.w) aw it a hai its.toArray) he ⟨hit, tp⟩ hlt hne (by simp [hne, hae.symm]) fun x2 h2 tk hx2 ho hst2 hT2 hsz hk => ?_
    obtain ⟨hit2, _⟩ := hst2
    have ex2 : x2 = u := by
      have q1 : its[i]? = some x2 := by simpa using hx2
      rw [hu] at q1
      exact (Option.some.inj q1).symm
    subst ex2
    refine ⟨_, rfl, wpAny_letOwnedTupleGo_enum (s := { s with heap := h2, toks := tk + 1 }) ho fun h3 he3 sb => ?_⟩
    have hT3 : h3.get? s.heap.objs.size = some { cls := .type "tuple", data := .seq #[.int i tk, x2] } := (sb.2 _ (Nat.ne_of_gt hel)).trans hT2
    have new : ObjOk X.prog X.w (upd H s.heap.objs.size (.tup [.int (i : Nat), x])) h3 s.heap.objs.size (.tup [.int (i : Nat), x]) :=
      ⟨by show 2 ≤ sizeLine; decide, [.int i tk, x2], .cons ⟨_, rfl⟩ (.cons ru .nil), ⟨_, hT3, rfl, _, rfl⟩⟩
    have out : ∀ {b : Addr}, b ∉ [e, it] → b ≠ e ∧ b ≠ it := fun hb => ⟨fun z => hb (by simp [z]), fun z => hb (by simp [z])⟩
    have I1 : Inv X pins σ (upd H s.heap.objs.size (.tup [.int (i : Nat), x])) { s with heap := h3, toks := tk + 1 } :=
      I.turnedNew (ch := [e, it]) (fun b ob hb q => (sb.2 b (out hb).1).trans (hk b ob (out hb).1 (out hb).2 q)) hf (Nat.le_refl _) new
    refine ⟨.ref s.heap.objs.size, _, I1, rfl, ⟨_, x, rfl, I.hok.fresh (Nat.le_refl _), rfl, fun ys hy => by rw [I.tuple_inj hy hq]; exact hx⟩, ⟨⟨x2, ?_⟩, hit2.at fun o q => (sb.2 it (Ne.symm hne)).trans q, hne⟩, fun b hb => ?_⟩
    · rw [Int.natCast_succ]
      exact he3
    · have hb2 : b = e ∨ b = it := by simpa using hb
      have hlt2 : b < s.heap.objs.size := by
        rcases hb2 with z | z
        · rw [z]
          exact hel
        · rw [z]
          exact hil
      rw [upd_ne (Nat.ne_of_lt hlt2)]
      exact (hf b hb).1
  done := by
    intro X hP hw hK calm i pins s σ H E I hf st hg
    cases hP
    cases hw
    cases hK
    obtain ⟨⟨was, he⟩, hit, hne⟩ := st
    obtain ⟨xs, hq, hx⟩ := hg
    obtain ⟨its, same, tp, hz⟩ := I.tuple hq
    have free := hf it (by simp)
    have hl := same.length
    have ei : i = its.toArray.size := by
      rw [List.size_toArray]
      omega
    have aw : X.A.in1.handled = none := I.ok.hd calm
    rw [ei] at hit
    exact wpAny_pyNext_enum_endD (Draws.tuple (prog := X.prog) (w := X.w) aw it a hai its.toArray) he ⟨hit, tp⟩ fun h2 eb => ⟨rfl, I.turned (t' := s.toks) (fun b o hb q => eb b o hb q) free.1 free.2.1 free.2.2.2.1 free.2.2.2.2.1 free.2.2.2.2.2⟩
  self := fun A i s Q E st h => wpAny_pyIter_enum st.1.choose_spec h
def iEnumT (K : PySem.W.Frag) (ta : TA) : TI := fun σ H R => ta σ H fun vs H1 => ∃ a xs, vs = [.ref a] ∧ SqT K H1 a xs ∧ R (IteT K a) H1
theorem pi_enumT {X : Cx} {e : Expr} {ta : TA} {p pos tpos : Pos} {elts : List Expr} {kk : Nat} (hg : Gl X "enumerate") (hm : X.mg "enumerate" = none) (ha : PA X [e] ta) (hs : starEach [e] X.env = [(false, eval e X.env)] := by rfl) :
    PI X (.Tuple elts kk tpos) (.Call (.Name "enumerate" p) [e] [] pos) (iEnumT X.K ta) := by
  refine ⟨fun pins s σ H R I h => Call_ (ld_blt I hg hm boot_enumerate (PyProof.Rows.callWith_type1 (thn (ha.run pos pins s σ H _ I h) fun us s1 ⟨vs, H1, I1, r1, q1⟩ => ?_) hs rfl))⟩
  obtain ⟨a, xs, rfl, hq, q⟩ := q1
  cases r1 with
  | cons r rr =>
    cases rr
    cases r
    obtain ⟨its, rv, tp, hz⟩ := I1.tuple hq
    have hal : a < s1.heap.objs.size := by
      obtain ⟨o, ho, _⟩ := id tp
      exact Heap.lt_size ho
    refine bc_call_enum tp fun h' he hit hsz hk => wpAny_pyIter_enum he ?_
    have I2 := I1.kept (h' := h') (t' := s1.toks) hk
    refine ⟨s1.heap.objs.size + 1, [s1.heap.objs.size + 1, s1.heap.objs.size], _, _, H1, rfl, I2, turn_enumT a (s1.heap.objs.size + 1) s1.heap.objs.size (Nat.ne_of_lt hal) (Nat.ne_of_lt (Nat.lt_succ_of_lt hal)), ⟨⟨.none, he⟩, hit, Nat.succ_ne_self _⟩, fun b hb => ?_, q⟩
    have two : b = s1.heap.objs.size + 1 ∨ b = s1.heap.objs.size := by simpa using hb
    have far : s1.heap.objs.size ≤ b := by rcases two with z | z <;> simp [z]
    exact I1.fpOk far (I1.hok.fresh far)
theorem walk_enumT {K : PySem.W.Frag} {a : Addr} {xs : List V} : Walk (IteT K a) xs.length (fun H => SqT K H a xs) (YPair (fun i => some (.int (i : Nat))) (fun i => xs[i]?)) := by
  refine ⟨fun i _ hi q => ⟨xs, xs[i], q, by simp [hi]⟩, fun _ q => ⟨xs, q, rfl⟩, fun i H v H' _ q y => ?_⟩
  obtain ⟨T, x, y1, y2, y3, y4⟩ := y
  exact ⟨T, .int (i : Nat), x, y1, y2, y3, rfl, y4 xs q⟩
end BC
namespace BC
open L2 PySem PySem.Spec PyProof.Rows
/-! ### equal data -/
def dRat (q : Rat) : PyData := .tuple [.int q.num, .int ((q.den : Nat) : Int)]
theorem eqv_rat (a b : Rat) : PyData.eqv (dRat a) (dRat b) = decide (a = b) := by
  show ((a.num == b.num) && (((a.den : Int) == (b.den : Int)) && true)) = decide (a = b)
  rw [Bool.and_true]
  by_cases h : a = b
  · subst h
    simp
  · rw [decide_eq_false h]
    cases e1 : (a.num == b.num) with
    | false => rfl
    | true =>
      cases e2 : ((a.den : Int) == (b.den : Int)) with
      | false => rfl
      | true =>
        have f1 : a.num = b.num := eq_of_beq e1
        have f2 : (a.den : Int) = (b.den : Int) := eq_of_beq e2
        exact absurd (Rat.ext f1 (by omega)) h
theorem eqv_rats : ∀ (a b : List Rat), PyData.eqvAll (a.map dRat) (b.map dRat) = decide (a = b)
  | [], [] => (decide_eq_true rfl).symm
  | [], y :: b => (decide_eq_false (by simp)).symm
  | x :: a, [] => (decide_eq_false (by simp)).symm
  | x :: a, y :: b => by
    rw [List.map_cons, List.map_cons, PyData.eqvAll, eqv_rat, eqv_rats a b, ← Bool.decide_and]
    exact decide_eq_decide.mpr (by simp)
theorem shaped_rat (q : Rat) : SeqAt.shaped (dRat q) = true := rfl
theorem lay_rats : ∀ a : List Rat, PyData.canLayAll0 (a.map dRat) = true
  | [] => rfl
  | q :: a => by
    rw [List.map_cons, PyData.canLayAll0, lay_rats a]
    rfl
theorem depth_rats : ∀ a : List Rat, PyData.depthAll (a.map dRat) ≤ 1
  | [] => Nat.zero_le _
  | q :: a => by
    rw [List.map_cons]
    rw [PyData.depthAll]
    have h := depth_rats a
    have h2 : PyData.depth (dRat q) = 1 := rfl
    omega
theorem shaped_tup (a : List Rat) : SeqAt.shaped (.tuple (a.map dRat)) = true := by
  unfold SeqAt.shaped
  have h := depth_rats a
  rw [Bool.and_eq_true]
  refine ⟨?_, decide_eq_true ?_⟩
  · rw [PyData.canLay0]
    exact lay_rats a
  · rw [PyData.depth]
    omega
theorem shaped_lst (a : List Rat) : SeqAt.shaped (.list (a.map dRat)) = true := by
  unfold SeqAt.shaped
  have h := depth_rats a
  rw [Bool.and_eq_true]
  refine ⟨?_, decide_eq_true ?_⟩
  · rw [PyData.canLay0]
    exact lay_rats a
  · rw [PyData.depth]
    omega
section
variable {K : PySem.W.Frag} {H H' : Hp} {σ : L2.St} {ta tb te tl : TE}
theorem RatAt.dp {v : V} {q : Rat} (h : RatAt K H v q) : Dp K H v (dRat q) := by
  obtain ⟨p, rfl, t⟩ := h
  exact .tup t (.cons (.int _) (.cons (.int _) .nil))
theorem Rats.dp : ∀ {vs : List V} {qs : List Rat}, Rats K H vs qs → DpAll K H vs (qs.map dRat)
  | _, _, .nil => .nil
  | _, _, .cons r t => .cons r.dp (Rats.dp t)
/-- two ratios compared -/
theorem y_eqR {a b : Rat} (ha : Ys ta σ H (isR K a)) (hb : Ys tb σ H (isR K b)) : Ys (tOp (rEqD K) ta tb) σ H (isB (decide (a = b))) :=
  y_op ha hb mono_R fun x y H1 e px py Q q => ⟨_, _, RatAt.dp px, RatAt.dp py, shaped_rat a, shaped_rat b, q _ _ (Same.refl _) (by rw [eqv_rat] <;> rfl)⟩
theorem y_neR {a b : Rat} (ha : Ys ta σ H (isR K a)) (hb : Ys tb σ H (isR K b)) : Ys (tOp (rNeD K) ta tb) σ H (isB (!decide (a = b))) :=
  y_op ha hb mono_R fun x y H1 e px py Q q => ⟨_, _, RatAt.dp px, RatAt.dp py, shaped_rat a, shaped_rat b, q _ _ (Same.refl _) (by rw [eqv_rat] <;> rfl)⟩
theorem y_eqP {a b : List Rat} (ha : Ys ta σ H (isP K a)) (hb : Ys tb σ H (isP K b)) : Ys (tOp (rEqD K) ta tb) σ H (isB (decide (a = b))) :=
  y_op ha hb mono_P fun x y H1 e px py Q q => by
    obtain ⟨p, vs, rfl, t1, r1⟩ := px
    obtain ⟨p', vs', rfl, t2, r2⟩ := py
    refine ⟨_, _, .tup t1 r1.dp, .tup t2 r2.dp, shaped_tup a, shaped_tup b, q _ _ (Same.refl _) ?_⟩
    rw [PyData.eqv, eqv_rats]
    rfl
theorem y_emptyP : Ys (tTup tNil) σ H (isP K []) := fun H1 e Q q => ⟨Nat.zero_le _, fun p hp => q _ _ (Same.new hp) ⟨p, [], rfl, .of upd_same, .nil⟩⟩
/-! ### a list that is being made -/
theorem Same.mut {H0 : Hp} {l : Addr} {o : HO} (e : Same H0 H) (h : H0 l = Option.none) : Same H0 (upd H l o) := fun a u ha => by
  rw [upd_ne (ne_of_none ha h)]
  exact e a u ha
/-- a property that does not hang on what list stands at D -/
def Apart (P : V → Hp → Prop) : Prop := ∀ v H D ys ys', P v H → H D = some (.lst ys) → P v (upd H D (.lst ys'))
theorem SqT.apart {p D : Addr} {xs ys ys' : List V} (h : SqT K H p xs) (hD : H D = some (.lst ys)) : SqT K (upd H D (.lst ys')) p xs := by
  rcases h with ((h | ⟨o, h⟩) | h)
  · exact .inl (.inl (by rw [upd_ne (ne_of h hD (by intro z; cases z))]; exact h))
  · exact .inl (.inr ⟨o, by rw [upd_ne (ne_of h hD (by intro z; cases z))]; exact h⟩)
  · exact .inr h
theorem RatAt.apart {v : V} {q : Rat} {D : Addr} {ys ys' : List V} (h : RatAt K H v q) (hD : H D = some (.lst ys)) : RatAt K (upd H D (.lst ys')) v q := by
  obtain ⟨p, rfl, t⟩ := h
  exact ⟨p, rfl, SqT.apart t hD⟩
theorem Rats.apart {vs : List V} {qs : List Rat} {D : Addr} {ys ys' : List V} (h : Rats K H vs qs) (hD : H D = some (.lst ys)) : Rats K (upd H D (.lst ys')) vs qs := Paired.mapP h fun _ _ r => r.apart hD
theorem apart_V {v : V} : Apart (isV v) := fun _ _ _ _ _ h _ => h
theorem apart_R {q : Rat} : Apart (isR K q) := fun _ _ _ _ _ h hD => RatAt.apart h hD
theorem apart_P {qs : List Rat} : Apart (isP K qs) := fun _ _ _ _ _ ⟨p, vs, a, b, c⟩ hD => ⟨p, vs, a, SqT.apart b hD, c.apart hD⟩
/-- a list (new, tracked) whose items are ratios -/
def isL (K : PySem.W.Frag) (qs : List Rat) : V → Hp → Prop := fun v H => ∃ l vs, v = .ref l ∧ H l = some (.lst vs) ∧ Rats K H vs qs
/-- .. and that was not there at H0 -/
def newL (K : PySem.W.Frag) (H0 : Hp) (qs : List Rat) : V → Hp → Prop := fun v H => ∃ l vs, v = .ref l ∧ H0 l = Option.none ∧ H l = some (.lst vs) ∧ Rats K H vs qs
theorem mono_L {qs : List Rat} : Mono (isL K qs) := fun _ _ _ ⟨p, vs, a, b, c⟩ e => ⟨p, vs, a, e _ _ b, c.mono e⟩
/-- a comprehension: b tells which turns give an element, F what it is -/
theorem y_lc {J : It} {n : Nat} {G : Hp → Prop} {Y : Nat → Hp → V → Hp → Prop} {wi : TI} {g : TG} {tt : TT} {vs : List Nat} (w : Walk J n G Y) (F : Nat → V → Hp → Prop) (b : Nat → Bool) (m : ∀ i, Mono (F i)) (ap : ∀ i, Apart (F i)) (hn : n < sizeLine)
    (hw : ∀ H1, Same H H1 → ∀ R : It → Hp → Prop, (∀ H2, Same H1 H2 → G H2 → R J H2) → wi σ H1 R) (mG : ∀ H1 H2, G H1 → Same H1 H2 → G H2)
    (hg : ∀ i x H1 H2, i < n → Same H H1 → G H1 → Y i H1 x H2 → ∃ σ2, (∀ k : L2.St → Hp → Prop, (∀ H3, Same H1 H3 → k σ2 H3) → g x (wipe σ vs) H2 k) ∧ wipe σ2 vs = wipe σ vs ∧
      ∀ H3, Same H1 H3 → YT tt σ2 H3 (b i) ∧ (b i = true → Ys te σ2 H3 (F i))) :
    Ys (tLc wi g tt te vs) σ H (fun v H' => ∃ l ys, v = .ref l ∧ H l = Option.none ∧ H' l = some (.lst ys) ∧ Paired (fun y i => F i y H') ys ((List.range n).filter b)) := fun H1 e1 Q q =>
  hw H1 e1 _ fun H2 e2 g2 D hD => by
    have e12 := e1.trans e2
    refine lc_it w (fun i H' => Same H2 H' ∧ ∃ ys, H' D = some (.lst ys) ∧ ys.length ≤ i ∧ Paired (fun y i => F i y H') ys ((List.range i).filter b)) ⟨Same.new hD, [], upd_same, Nat.le_refl _, .nil⟩ (fun i H' _ p => mG _ _ g2 p.1)
      (fun i x H' H3 hi p hy => ?_) (fun H' p => ?_)
    · obtain ⟨s1, ys, hys, hl, hF⟩ := p
      obtain ⟨σ2, hk, hwp, hr⟩ := hg i x H' H3 hi (e12.trans s1) (mG _ _ g2 s1) hy
      refine hk _ fun H4 e4 => ⟨hwp, ?_⟩
      obtain ⟨ht, he⟩ := hr H4 e4
      have rs : (List.range (i + 1)).filter b = (List.range i).filter b ++ (if b i = true then [i] else []) := by
        rw [List.range_succ, List.filter_append, List.filter_cons, List.filter_nil]
      refine ht H4 (Same.refl _) _ fun H5 e5 => ?_
      have e45 := e4.trans e5
      cases hb : b i with
      | false =>
        refine iteF ⟨s1.trans e45, ys, e45 _ _ hys, Nat.le_succ_of_le hl, ?_⟩
        rw [rs, hb, if_neg (by decide), List.append_nil]
        exact Paired.mapP hF fun y j r => m j _ _ _ r e45
      | true =>
        refine iteT (he hb H5 e5 _ fun y H6 e6 py => ?_)
        have e46 := e45.trans e6
        have hD6 : H6 D = some (.lst ys) := e46 _ _ hys
        refine ⟨ys, hD6, Nat.lt_of_le_of_lt hl (Nat.lt_trans hi hn), Same.mut (s1.trans e46) hD, _, upd_same, ?_, ?_⟩
        · rw [List.length_append]
          exact Nat.succ_le_succ hl
        · rw [rs, hb, if_pos rfl]
          exact Paired.snoc (Paired.mapP hF fun z j r => ap j _ _ _ _ _ (m j _ _ _ r e46) hD6) (ap i _ _ _ _ _ py hD6)
    · obtain ⟨s1, ys, hys, hl, hF⟩ := p
      have hD0 : H D = Option.none := by
        cases z : H D with
        | none => rfl
        | some o => rw [e12 _ _ z] at hD; cases hD
      exact q _ _ (e2.trans s1) ⟨D, ys, rfl, hD0, hys, hF⟩
/-- over a tuple, the target one name -/
theorem y_lcT {a : Addr} {xs : List V} {k : Nat} {tt : TT} {vs : List Nat} (h : Ys tl σ H (isV (.ref a))) (hx : SqT K H a xs) (hn : xs.length < sizeLine) (F : Nat → V → Hp → Prop) (b : Nat → Bool) (m : ∀ i, Mono (F i)) (ap : ∀ i, Apart (F i)) (hwp : ∀ x, wipe ((wipe σ vs).set k (some x)) vs = wipe σ vs)
    (he : ∀ i x H1, xs[i]? = some x → Same H H1 → YT tt ((wipe σ vs).set k (some x)) H1 (b i) ∧ (b i = true → Ys te ((wipe σ vs).set k (some x)) H1 (F i))) :
    Ys (tLc (iTup K tl) (gName k) tt te vs) σ H (fun v H' => ∃ l ys, v = .ref l ∧ H l = Option.none ∧ H' l = some (.lst ys) ∧ Paired (fun y i => F i y H') ys ((List.range xs.length).filter b)) :=
  y_lc (walk_tup (K := K) (a := a) (xs := xs)) F b m ap hn (fun H1 e R r => h H1 e _ fun v H2 e2 p => ⟨a, p, ⟨xs, Same.tup (e.trans e2) hx⟩, r H2 e2 (Same.tup (e.trans e2) hx)⟩) (fun _ _ g e => Same.tup e g)
    fun i x H1 H2 hi e g y => by
      obtain ⟨rfl, y⟩ := y
      exact ⟨_, fun k' hk => hk _ (Same.refl _), hwp x, fun H3 e3 => he i x H3 y (e.trans e3)⟩
/-- over range(n) -/
theorem y_lcR {n : Int} {k : Nat} {ta : TA} {tt : TT} {vs : List Nat} (h : ∀ H1, Same H H1 → ∀ Q : List V → Hp → Prop, (∀ H2, Same H1 H2 → Q [.int n] H2) → ta σ H1 Q) (hn : 0 ≤ n ∧ n < 1000) (F : Nat → V → Hp → Prop) (b : Nat → Bool) (m : ∀ i, Mono (F i)) (ap : ∀ i, Apart (F i)) (hwp : ∀ x, wipe ((wipe σ vs).set k (some x)) vs = wipe σ vs)
    (he : ∀ (i : Nat) H1, i < n.toNat → Same H H1 → YT tt ((wipe σ vs).set k (some (.int (i : Int)))) H1 (b i) ∧ (b i = true → Ys te ((wipe σ vs).set k (some (.int (i : Int)))) H1 (F i))) :
    Ys (tLc (iRng1 ta) (gName k) tt te vs) σ H (fun v H' => ∃ l ys, v = .ref l ∧ H l = Option.none ∧ H' l = some (.lst ys) ∧ Paired (fun y i => F i y H') ys ((List.range n.toNat).filter b)) :=
  y_lc (walk_range (lo := 0) (n := n.toNat)) F b m ap (Nat.lt_of_lt_of_le (by omega) (show 1000 ≤ sizeLine by decide)) (fun H1 e R r => h H1 e _ fun H2 e2 => ⟨n, rfl, by omega, by omega, r H2 e2 trivial⟩) (fun _ _ _ _ => trivial)
    fun i x H1 H2 hi e _ y => by
      obtain ⟨rfl, y⟩ := y
      have y' : x = .int (i : Int) := y.trans (congrArg V.int (Int.zero_add _))
      subst y'
      exact ⟨_, fun k' hk => hk _ (Same.refl _), hwp _, fun H3 e3 => he i H3 hi (e.trans e3)⟩
/-- over zip of two lists of one length, the target two names -/
theorem y_lcZ {a c : Addr} {xs zs : List V} {k1 k2 : Nat} {ta : TA} {vs : List Nat} (h : ∀ H1, Same H H1 → ∀ Q : List V → Hp → Prop, (∀ H2, Same H1 H2 → Q [.ref a, .ref c] H2) → ta σ H1 Q) (hx : SqL K H a xs) (hz : SqL K H c zs) (hl : xs.length = zs.length) (hn : xs.length < sizeLine)
    (F : Nat → V → Hp → Prop) (m : ∀ i, Mono (F i)) (ap : ∀ i, Apart (F i)) (hwp : ∀ x z, wipe (((wipe σ vs).set k1 (some x)).set k2 (some z)) vs = wipe σ vs)
    (he : ∀ i x z H1, xs[i]? = some x → zs[i]? = some z → Same H H1 → Ys te (((wipe σ vs).set k1 (some x)).set k2 (some z)) H1 (F i)) :
    Ys (tLc (iZip K ta) (gTup K 2 (gCons (gName k1) (gCons (gName k2) gNil))) tYes te vs) σ H (fun v H' => ∃ l ys, v = .ref l ∧ H l = Option.none ∧ H' l = some (.lst ys) ∧ Paired (fun y i => F i y H') ys ((List.range xs.length).filter fun _ => true)) :=
  y_lc (walk_zip (K := K) (a := a) (b := c) (xs := xs) (ys := zs) (n := xs.length) (by omega)) F (fun _ => true) m ap hn
    (fun H1 e R r => h H1 e _ fun H2 e2 => ⟨a, c, xs, zs, rfl, Same.seq (e.trans e2) hx, Same.seq (e.trans e2) hz, r H2 e2 ⟨Same.seq (e.trans e2) hx, Same.seq (e.trans e2) hz⟩⟩) (fun _ _ g e => ⟨Same.seq e g.1, Same.seq e g.2⟩)
    fun i x H1 H2 hi e g y => by
      obtain ⟨T, x1, z1, rfl, hT, rfl, h1, h2⟩ := y
      exact ⟨_, fun k' hk => ⟨T, [x1, z1], rfl, .of upd_same, rfl, x1, [z1], rfl, z1, [], rfl, rfl, hk _ (Same.new hT)⟩, hwp x1 z1, fun H3 e3 => ⟨fun H4 e4 Q q => q _ (Same.refl _), fun _ => he i x1 z1 H3 h1 h2 (e.trans e3)⟩⟩
theorem filter_true (n : Nat) : (List.range n).filter (fun _ => true) = List.range n := by simp
/-! ### loops -/
variable {D : Ends} {tu : TS}
/-- for x in t -/
theorem s_forT {a : Addr} {xs : List V} {k : Nat} (h : Ys tl σ H (isV (.ref a))) (hx : SqT K H a xs) (Pv : Nat → L2.St → Hp → Prop) (h0 : ∀ H1, Same H H1 → Pv 0 σ H1) (hG : ∀ i σ' H', Pv i σ' H' → SqT K H' a xs)
    (hs : ∀ i x σ' H', xs[i]? = some x → Pv i σ' H' → tu { D with nx := Pv (i + 1), ct := Pv (i + 1), bk := D.nx } (σ'.set k (some x)) H') (hd : ∀ σ' H', Pv xs.length σ' H' → D.nx σ' H') : tFor (iTup K tl) (gName k) tu D σ H :=
  h H (Same.refl _) _ fun v H1 e p => ⟨a, p, ⟨xs, Same.tup e hx⟩, for_it walk_tup Pv (h0 H1 e) (fun i σ' H' _ p => hG i σ' H' p) (fun i x σ' H' H2 _ p y => by
    obtain ⟨rfl, y⟩ := y
    exact hs i x σ' _ y p) hd⟩
/-- for i, x in enumerate(t) -/
theorem s_forE {a : Addr} {xs : List V} {k1 k2 : Nat} (h : Ys tl σ H (isV (.ref a))) (hx : SqT K H a xs) (Pv : Nat → L2.St → Hp → Prop) (h0 : ∀ H1, Same H H1 → Pv 0 σ H1) (hG : ∀ i σ' H', Pv i σ' H' → SqT K H' a xs)
    (hs : ∀ (i : Nat) x σ' H' H2, xs[i]? = some x → Pv i σ' H' → Same H' H2 → tu { D with nx := Pv (i + 1), ct := Pv (i + 1), bk := D.nx } ((σ'.set k1 (some (.int (i : Int)))).set k2 (some x)) H2) (hd : ∀ σ' H', Pv xs.length σ' H' → D.nx σ' H') :
    tFor (iEnumT K (tCons tl tNil)) (gTup K 2 (gCons (gName k1) (gCons (gName k2) gNil))) tu D σ H :=
  h H (Same.refl _) _ fun v H1 e p => ⟨a, xs, by rw [show v = _ from p], Same.tup e hx, for_it walk_enumT Pv (h0 H1 e) (fun i σ' H' _ p => hG i σ' H' p) (fun i x σ' H' H2 _ p y => by
    obtain ⟨T, x1, z1, rfl, hT, rfl, h1, h2⟩ := y
    cases h1
    exact ⟨T, [.int (i : Nat), z1], rfl, .of upd_same, rfl, .int (i : Nat), [z1], rfl, z1, [], rfl, rfl, hs i z1 σ' H' _ h2 p (Same.new hT)⟩) hd⟩
/-- for i in range(n); for i in range(lo, hi) -/
theorem s_forR {ta : TA} {n : Int} {k : Nat} (h : ∀ H1, Same H H1 → ∀ Q : List V → Hp → Prop, (∀ H2, Same H1 H2 → Q [.int n] H2) → ta σ H1 Q) (hn : -1000 ≤ n ∧ n < 100000) (Pv : Nat → L2.St → Hp → Prop) (h0 : ∀ H1, Same H H1 → Pv 0 σ H1)
    (hs : ∀ (i : Nat) σ' H', (i : Int) < n → Pv i σ' H' → tu { D with nx := Pv (i + 1), ct := Pv (i + 1), bk := D.nx } (σ'.set k (some (.int (i : Int)))) H') (hd : ∀ σ' H', Pv n.toNat σ' H' → D.nx σ' H') : tFor (iRng1 ta) (gName k) tu D σ H :=
  h H (Same.refl _) _ fun H1 e => ⟨n, rfl, by omega, by omega, for_range (lo := 0) (n := n.toNat) Pv (h0 H1 e) (fun i σ' H' hi p => by
    have e0 : (0 : Int) + (i : Int) = (i : Int) := by omega
    show tu { D with nx := Pv (i + 1), ct := Pv (i + 1), bk := D.nx } (σ'.set k (some (.int ((0 : Int) + (i : Int))))) H'
    rw [e0]
    exact hs i σ' H' (show (i : Int) < n by omega) p) hd⟩
theorem s_forR2 {ta : TA} {lo hi : Int} {k : Nat} (h : ∀ H1, Same H H1 → ∀ Q : List V → Hp → Prop, (∀ H2, Same H1 H2 → Q [.int lo, .int hi] H2) → ta σ H1 Q) (hn : -1000 ≤ lo ∧ lo < 100000 ∧ -1000 ≤ hi ∧ hi < 100000) (Pv : Nat → L2.St → Hp → Prop) (h0 : ∀ H1, Same H H1 → Pv 0 σ H1)
    (hs : ∀ (i : Nat) σ' H', lo + (i : Int) < hi → Pv i σ' H' → tu { D with nx := Pv (i + 1), ct := Pv (i + 1), bk := D.nx } (σ'.set k (some (.int (lo + (i : Int))))) H') (hd : ∀ σ' H', Pv (hi - lo).toNat σ' H' → D.nx σ' H') : tFor (iRng2 ta) (gName k) tu D σ H :=
  h H (Same.refl _) _ fun H1 e => ⟨lo, hi, rfl, ⟨by omega, by omega, by omega, by omega⟩, for_range (lo := lo) (n := (hi - lo).toNat) Pv (h0 H1 e) (fun i σ' H' hi' p => hs i σ' H' (by omega) p) hd⟩
theorem a_1 {ta : TE} {v : V} (h : Ys ta σ H (isV v)) : ∀ H1, Same H H1 → ∀ Q : List V → Hp → Prop, (∀ H2, Same H1 H2 → Q [v] H2) → tCons ta tNil σ H1 Q := fun H1 e Q q => h H1 e _ fun u H2 e2 p => by
  rw [show u = v from p]
  exact q H2 e2
theorem a_2 {ta tb : TE} {v u : V} (h : Ys ta σ H (isV v)) (k : Ys tb σ H (isV u)) : ∀ H1, Same H H1 → ∀ Q : List V → Hp → Prop, (∀ H2, Same H1 H2 → Q [v, u] H2) → tCons ta (tCons tb tNil) σ H1 Q := fun H1 e Q q => h H1 e _ fun v' H2 e2 p => k H2 (e.trans e2) _ fun u' H3 e3 p' => by
  rw [show v' = v from p, show u' = u from p']
  exact q H3 (e2.trans e3)
/-- xs.append(e) -/
theorem s_app {l : Addr} {xs : List V} {P : V → Hp → Prop} (ha : Ys ta σ H (isV (.ref l))) (hl : H l = some (.lst xs)) (h : Ys te σ H P) (hz : xs.length < sizeLine) (k : ∀ v H1, Same H H1 → P v H1 → H1 l = some (.lst xs) → D.nx σ (upd H1 l (.lst (xs ++ [v])))) :
    tDrop (tBM K "list" rAppend ta (tCons te tNil)) D σ H := ha H (Same.refl _) _ fun v H1 e1 p => by
  rw [show v = _ from p]
  exact ⟨.inl ⟨rfl, xs, .of (e1 _ _ hl)⟩, h H1 e1 _ fun y H2 e2 py => ⟨l, xs, y, rfl, rfl, e2 _ _ (e1 _ _ hl), hz, k y H2 (e1.trans e2) py (e2 _ _ (e1 _ _ hl))⟩⟩
end
end BC
namespace BC
open L2 PySem PySem.Spec PyProof.Rows
section
variable {K : PySem.W.Frag} {H H' : Hp} {σ : L2.St} {ta tb te tl : TE} {D : Ends} {tu : TS}
theorem s_while {c : TT} (Pv : L2.St → Hp → Prop) (μ : L2.St → Nat) (b : L2.St → Bool) (h0 : Pv σ H) (hc : ∀ σ H, Pv σ H → YT c σ H (b σ))
    (hs : ∀ σ H H1, Pv σ H → Same H H1 → b σ = true → tu { D with nx := fun σ' H' => Pv σ' H' ∧ μ σ' < μ σ, ct := fun σ' H' => Pv σ' H' ∧ μ σ' < μ σ, bk := D.nx } σ H1) (hd : ∀ σ H H1, Pv σ H → Same H H1 → b σ = false → D.nx σ H1) : tWhile c tu D σ H := by
  refine ⟨fun m σ H => m = μ σ ∧ Pv σ H, ⟨_, rfl, h0⟩, ?_⟩
  rintro m σ H ⟨rfl, p⟩
  refine hc σ H p H (Same.refl _) _ fun H1 e => ?_
  cases hb : b σ with
  | true => exact iteT ⟨_, fun σ' H' ⟨p', l⟩ => ⟨_, l, rfl, p'⟩, hs σ H H1 p e hb⟩
  | false => exact iteF (hd σ H H1 p e hb)
theorem rats_len {F : V → Rat → Prop} : ∀ {vs : List V} {qs : List Rat}, Paired F vs qs → vs.length = qs.length
  | _, _, .nil => rfl
  | _, _, .cons _ t => by
    rw [List.length_cons, List.length_cons, rats_len t]
theorem paired_take {F : V → Rat → Prop} : ∀ {vs : List V} {qs : List Rat} (n : Nat), Paired F vs qs → Paired F (vs.take n) (qs.take n)
  | _, _, 0, _ => .nil
  | _, _, _ + 1, .nil => .nil
  | _, _, n + 1, .cons r t => .cons r (paired_take n t)
theorem paired_drop {F : V → Rat → Prop} : ∀ {vs : List V} {qs : List Rat} (n : Nat), Paired F vs qs → Paired F (vs.drop n) (qs.drop n)
  | _, _, 0, h => h
  | _, _, _ + 1, .nil => .nil
  | _, _, n + 1, .cons _ t => paired_drop n t
theorem paired_set {F : V → Rat → Prop} {v : V} {q : Rat} (r : F v q) : ∀ {vs : List V} {qs : List Rat} (n : Nat), Paired F vs qs → Paired F (vs.set n v) (qs.set n q)
  | _, _, _, .nil => .nil
  | _, _, 0, .cons _ rest => .cons r rest
  | _, _, n + 1, .cons s t => .cons s (paired_set r n t)
theorem paired_app {F : V → Rat → Prop} : ∀ {vs us : List V} {qs rs : List Rat}, Paired F vs qs → Paired F us rs → Paired F (vs ++ us) (qs ++ rs)
  | _, _, _, _, .nil, h => h
  | _, _, _, _, .cons r t, h => .cons r (paired_app t h)
theorem paired_rep {F : V → Rat → Prop} {v : V} {q : Rat} (r : F v q) : ∀ n : Nat, Paired F (List.replicate n v) (List.replicate n q)
  | 0 => .nil
  | n + 1 => .cons r (paired_rep r n)
theorem flat_rep {α : Type} (v : α) : ∀ n : Nat, (List.replicate n [v]).flatten = List.replicate n v
  | 0 => rfl
  | n + 1 => by
    rw [List.replicate_succ, List.flatten_cons, flat_rep v n]
    rfl
theorem getD_at {l : List Rat} {i : Nat} (h : i < l.length) : l[i]? = some (l.getD i 0) := by
  rw [List.getD_eq_getElem?_getD, List.getElem?_eq_getElem h]
  rfl
theorem at_some {vs : List V} {qs : List Rat} {F : V → Rat → Prop} {z : Int} {i : Nat} (h : Paired F vs qs) (hi : i < qs.length) (hz : z = (i : Int)) : ∃ v, atI vs z = some v ∧ F v (qs.getD i 0) := by
  obtain ⟨v, h1, h2⟩ := Paired.at h (getD_at hi)
  exact ⟨v, at_of hz h1, h2⟩
/-- an item of a tuple, a list of ratios -/
theorem y_itT {p : Addr} {vs : List V} {qs : List Rat} {z : Int} {i : Nat} (ha : Ys ta σ H (isV (.ref p))) (hb : Ys tb σ H (isI z)) (ht : SqT K H p vs) (hr : Rats K H vs qs) (hi : i < qs.length) (hz : z = (i : Int)) : Ys (tOp (rIxT K) ta tb) σ H (isR K (qs.getD i 0)) := by
  obtain ⟨v, h1, h2⟩ := at_some hr hi hz
  exact y_ixT ha hb ht h1 mono_R h2
theorem y_itL {p : Addr} {vs : List V} {qs : List Rat} {z : Int} {i : Nat} (ha : Ys ta σ H (isV (.ref p))) (hb : Ys tb σ H (isI z)) (ht : SqL K H p vs) (hr : Rats K H vs qs) (hi : i < qs.length) (hz : z = (i : Int)) : Ys (tOp (rIxL K) ta tb) σ H (isR K (qs.getD i 0)) := by
  obtain ⟨v, h1, h2⟩ := at_some hr hi hz
  exact y_ixL ha hb ht h1 mono_R h2
theorem cut_take (xs : List V) (n : Nat) : cutV xs none (some (n : Int)) = xs.take n := by
  unfold cutV
  rw [HT.sIx_none, HT.sIx_nat, List.drop_zero, Nat.sub_zero]
  by_cases h : n ≤ xs.length
  · rw [Nat.min_eq_left h]
  · rw [Nat.min_eq_right (by omega), List.take_length, List.take_of_length_le (by omega)]
/-- ZERO, ONE of the module -/
theorem y_zero {p : Addr} (h : ∀ H, SqT K H p [.int 0, .int 1]) : Ys (tC (.ref p)) σ H (isR K 0) := y_cP mono_R ⟨p, rfl, h _⟩
theorem y_one {p : Addr} (h : ∀ H, SqT K H p [.int 1, .int 1]) : Ys (tC (.ref p)) σ H (isR K 1) := y_cP mono_R ⟨p, rfl, h _⟩
end
def sp_are_ratios (K : PySem.W.Frag) : Sp := fun vs H Q _ => ∃ (p : Addr) (us : List V) (qs : List Rat) (n : Int), vs = [.ref p, .int n] ∧ SqT K H p us ∧ Rats K H us qs ∧ (qs.length : Int) = n ∧ n < 1000 ∧ ∀ H', Same H H' → Q (.bl true) H'
def sp_trimmed (K : PySem.W.Frag) : Sp := fun vs H Q _ => ∃ (l : Addr) (us : List V) (qs : List Rat), vs = [.ref l] ∧ SqL K H l us ∧ Rats K H us qs ∧ qs.length < 1000 ∧ ∀ v H', Same H H' → isP K (trim qs) v H' → Q v H'
theorem sc_are_ratios : FnScope ["value", "many", "one"] ["value", "many"] (defScope s_are_ratios) := ⟨rfl, rfl, rfl, by decide +kernel, rfl, by decide +kernel, by decide +kernel⟩
theorem sc_trimmed : FnScope ["row", "many"] ["row"] (defScope s_trimmed) := ⟨rfl, rfl, rfl, by decide +kernel, rfl, by decide +kernel, by decide +kernel⟩
section
variable {K : PySem.W.Frag} {mg : Str → Option Value} {P : Program} {w : World} {base : Heap}
theorem all_true {ys : List V} {H : Hp} {n : Nat} (h : Paired (fun y (_ : Nat) => isV (.bl true) y H) ys (List.range n)) : ys = (List.replicate n true).map V.bl := by
  have key : ∀ {ys : List V} {l : List Nat}, Paired (fun y (_ : Nat) => isV (.bl true) y H) ys l → ys = (List.replicate l.length true).map V.bl := by
    intro ys l h
    induction h with
    | nil => rfl
    | cons r t ih =>
      rw [List.length_cons, List.replicate_succ, List.map_cons, ← ih]
      rw [show _ = V.bl true from r]
  have z := key h
  rwa [List.length_range] at z
theorem ok_are_ratios (T : TX K mg) : Def P w K mg base 3 "are_ratios" ["value", "many"] (sp_are_ratios K) := by
  have G : Def P w K mg base 2 "is_ratio" ["value"] (sp_is_ratio K) := ok_is_ratio T
  refine T.are_ratios.def_ sc_are_ratios (fun _ _ _ _ _ _ us hl => match us, hl with | [_, _], _ => rfl) (fun vs H Q E h => ?_) (fun cdv A outer s H vs Q E hr h => ?_)
  · obtain ⟨p, us, qs, n, rfl, _⟩ := h
    rfl
  · obtain ⟨p, us, qs, n, rfl, ht, hrs, hn, hn2, k⟩ := h
    have nd := sc_are_ratios.nd
    have hlen := rats_len hrs
    refine ⟨_, pss_one (ps_ret (pe_and (pe_callB call_isi (by rfl) T.b_isinstance (by decide +kernel) (pa_cons (pv 0) (pa_cons (pe_bltn (v := .ty "tuple") (by rfl) T.b_tuple (by decide +kernel) rfl) pa_nil)))
      (pe_and (pe_cmpR op_eq (pe_callB call_len_seq (by rfl) T.b_len (by decide +kernel) (pa_cons (pv 0) pa_nil)) (pv 1) (nomark _))
      (pe_one (pe_callB (cr_all rfl) (by rfl) T.b_all (by decide +kernel) (pa_cons (pe_lc (own := [("one", 2)]) (g := gName 2) (by rfl) nd (pi_tup (pv 0)) (blkOk_by (own := [("one", 2)]) (N := ["value", "many", "one"]) (sc := defScope s_are_ratios) (by decide +kernel))
        (fun _ _ _ _ _ => pg_name (i := 2) nd rfl (Or.inl rfl)) (fun _ _ _ _ _ => pts_nil) (fun _ _ _ _ _ => pe_def G hr (pa_cons (pv 2) pa_nil))) pa_nil)))))), ?_⟩
    have yv : ∀ {H1 : Hp}, Ys (tVar 0) (start ["value", "many", "one"] [.ref p, .int n]) H1 (isV (.ref p)) := fun {H1} => y_var (v := .ref p) rfl
    refine s_ret (y_andV (y_isi yv (fun v H1 e r => by rw [show v = _ from r]; exact sqT_ty (Same.tup e ht)) kit_tt) fun _ => y_andV (y_eqI (y_lenT yv ht (n := n) (by omega)) (y_var (v := .int n) rfl)) fun _ =>
      y_cb1 (y_lcT yv ht (Nat.lt_of_lt_of_le (by omega : us.length < 1000) (by decide)) (fun _ => isB true) (fun _ => true) (fun _ => mono_V) (fun _ => apart_V) (fun _ => rfl) (fun i x H1 hx e => ⟨fun H4 e4 Q q => q _ (Same.refl _), fun _ => ?_⟩)) (P := isB true) fun x H1 e px Q q => ?_) fun v H1 e r => ?_
    · obtain ⟨q, _, hq⟩ := Paired.at1 hrs hx
      exact y_isRat (y_varP (v := x) rfl mono_R (hq.mono e))
    · obtain ⟨l, ys, rfl, _, hl, hys⟩ := px
      rw [filter_true] at hys
      rw [all_true hys] at hl
      refine ⟨l, List.replicate us.length true, rfl, .of hl, q _ _ (Same.refl _) ?_⟩
      have ea : (List.replicate us.length true).all id = true := by simp
      rw [ea]
      rfl
    · have e1 : decide (n = n) = true := decide_eq_true rfl
      rw [show v = _ from r, e1]
      exact k H1 e
theorem ok_trimmed (T : TX K mg) : Def P w K mg base 1 "trimmed" ["row"] (sp_trimmed K) := by
  refine T.trimmed.def_ sc_trimmed (fun _ _ _ _ _ _ us hl => match us, hl with | [_], _ => rfl) (fun vs H Q E h => ?_) (fun cdv A outer s H vs Q E hr h => ?_)
  · obtain ⟨l, us, qs, rfl, _⟩ := h
    rfl
  · obtain ⟨l, us, qs, rfl, hl, hrs, hn, k⟩ := h
    have nd := sc_trimmed.nd
    have hlen := rats_len hrs
    refine ⟨_, pss_cons (ps_set (i := 1) nd rfl (Or.inl rfl) (pe_callB call_len_seq (by rfl) T.b_len (by decide +kernel) (pa_cons (pv 0) pa_nil)))
      (pss_cons (ps_while PassesOwn.never (PW.pt (pw_and (pt_cmpR op_gt (pv 1) pe_int (nomark _)) (pw_and1 (pt_cmpR (op_eqD hr.units) (pe_ix ix_list (pv 0) (pe_op op_sub (pv 1) pe_int) (fun _ _ => rfl)) (pe_glob (v := .ref (He.ga K "ZERO")) (by rfl) T.zG rfl) (nomark _)))))
        (pss_one (ps_aug (i := 1) nd rfl (Or.inl rfl) pe_int ip_sub)))
      (pss_one (ps_ret (pe_callTy call_tuple_of (by rfl) T.b_tuple (by decide +kernel) (pa_cons (pe_slice sl_list (pv 0) po_none (po_some (pv 1))) pa_nil))))), ?_⟩
    refine s_seq (s_set (y_lenL (y_var (v := .ref l) rfl) hl rfl) fun v H1 e1 p => ?_)
    rw [show v = _ from p]
    refine s_seq (s_while (fun σ' H' => ∃ n : Nat, n ≤ qs.length ∧ trimN qs n = trimN qs qs.length ∧ σ' = [some (.ref l), some (.int (n : Int))] ∧ Same H H') (fun σ' => match σ' with | [_, some (.int n)] => n.toNat | _ => 0) (fun σ' => match σ' with | [_, some (.int n)] => decide (0 < n) && decide (qs.getD (n - 1).toNat 0 = 0) | _ => false)
      ⟨qs.length, Nat.le_refl _, rfl, by rw [hlen] <;> rfl, e1⟩ (fun σ' H' p => ?_) (fun σ' H' H2 p e hb => ?_) fun σ' H' H2 p e hb => ?_)
    · obtain ⟨n, hn1, hn2, rfl, e⟩ := p
      refine yt_and (yt_T (y_gt (y_var (v := .int n) rfl) y_c)) fun h1 => yt_T (y_eqR (y_itL (y_var (v := .ref l) rfl) (y_sub (y_var (v := .int n) rfl) y_c) (Same.seq e hl) (hrs.mono e) (i := ((n : Int) - 1).toNat) ?_ ?_) (y_zero T.zT))
      · have := of_decide_eq_true h1
        omega
      · have := of_decide_eq_true h1
        omega
    · obtain ⟨n, hn1, hn2, rfl, e'⟩ := p
      have hb' : (decide ((0 : Int) < (n : Int)) && decide (qs.getD ((n : Int) - 1).toNat 0 = 0)) = true := hb
      obtain ⟨b1, b2⟩ := Bool.and_eq_true_iff.mp hb'
      have c1 := of_decide_eq_true b1
      have c2 := of_decide_eq_true b2
      have c3 : (((n : Int) - 1).toNat) = n - 1 := by omega
      rw [c3] at c2
      refine ⟨.int (n : Int), rfl, ⟨(n : Int), 1, rfl, rfl, ⟨n - 1, by omega, ?_, ?_, e'.trans e⟩, ?_⟩⟩
      · rw [← hn2]
        obtain ⟨m, rfl⟩ : ∃ z : Nat, n = z + 1 := ⟨n - 1, by omega⟩
        rw [Nat.add_sub_cancel] at c2 ⊢
        conv => rhs; unfold trimN
        rw [if_pos c2]
      · have e2 : (n : Int) - 1 = ((n - 1 : Nat) : Int) := by omega
        show [some (V.ref l), some (V.int ((n : Int) - 1))] = _
        rw [e2]
      · show ((n : Int) - 1).toNat < (n : Int).toNat
        omega
    · obtain ⟨n, hn1, hn2, rfl, e'⟩ := p
      have e2 := e'.trans e
      have hb' : (decide ((0 : Int) < (n : Int)) && decide (qs.getD ((n : Int) - 1).toNat 0 = 0)) = false := hb
      have hn3 : n = trimN qs n := by
        cases n with
        | zero => rfl
        | succ m =>
          have d1 : decide ((0 : Int) < ((m + 1 : Nat) : Int)) = true := decide_eq_true (by omega)
          have d2 : ((((m + 1 : Nat) : Int) - 1).toNat) = m := by omega
          rw [d1, Bool.true_and, d2] at hb'
          unfold trimN
          rw [if_neg (of_decide_eq_false hb')]
      have hcut : cutV us none (some (n : Int)) = us.take n := cut_take us n
      dsimp only
      refine s_ret (P := isP K (trim qs)) (y_cb1 (Pa := newL K H2 (trim qs)) (fun H3 e3 Q' q' => ?_) fun x H3 e3 px Q' q' => ?_) fun v H3 e3 r => k v H3 (e2.trans e3) r
      · refine ⟨.ref l, rfl, .int (n : Int), rfl, n, rfl, l, us, rfl, Same.seq (e2.trans e3) hl, fun q hq => q' _ _ (Same.new hq) ⟨q, us.take n, rfl, ?_, ?_, ?_⟩⟩
        · cases z : H2 q with
          | none => rfl
          | some o => rw [e3 _ _ z] at hq; cases hq
        · rw [← hcut]
          exact upd_same
        · unfold trim
          rw [← hn2, ← hn3]
          exact (paired_take n (hrs.mono ((e2.trans e3).trans (Same.new hq))))
      · obtain ⟨q, ys, rfl, _, hq, hys⟩ := px
        exact ⟨q, ys, rfl, .inl ⟨.of hq, fun t ht => q' _ _ (Same.new ht) ⟨t, ys, rfl, .of upd_same, hys.mono (Same.new ht)⟩⟩⟩
end
end BC
namespace BC
open L2 PySem PySem.Spec PyProof.Rows
/-- sizes of all items -/
def AllS (l : List Rat) : Prop := ∀ c ∈ l, Sm c
theorem sm0 : Sm 0 := by
  unfold Sm sz
  refine ⟨?_, ?_⟩ <;> decide +kernel
theorem sm1 : Sm 1 := by
  unfold Sm sz
  refine ⟨?_, ?_⟩ <;> decide +kernel
theorem AllS.getD {l : List Rat} (h : AllS l) (i : Nat) : Sm (l.getD i 0) := by
  simp only [List.getD_eq_getElem?_getD]
  cases e : l[i]? with
  | none => exact sm0
  | some c => exact h c (List.mem_of_getElem? e)
theorem AllS.pad {n : Nat} {l : List Rat} (h : AllS l) : AllS (l ++ List.replicate n 0) := fun c hc => by
  rcases List.mem_append.mp hc with z | z
  · exact h c z
  · rw [(List.mem_replicate.mp z).2]
    exact sm0
section
variable {K : PySem.W.Frag} {H H' : Hp} {σ : L2.St} {ta tb te tl : TE}
/-- [ZERO] * n -/
theorem y_zeros {p : Addr} {n : Int} (h : ∀ H, SqT K H p [.int 0, .int 1]) (hn : Ys tb σ H (isI n)) (h0 : 0 ≤ n ∧ n < 1000) : Ys (tOp rRep (tLst (tCons (tC (.ref p)) tNil)) tb) σ H (newL K H (List.replicate n.toNat 0)) := fun H1 e Q q => by
  refine ⟨by show 1 ≤ sizeLine; decide, fun l hl => ?_⟩
  refine hn _ (e.trans (Same.new hl)) _ fun v H2 e2 pv => ?_
  refine ⟨l, n, [.ref p], rfl, pv, e2 _ _ upd_same, by omega, by omega, Nat.le_trans (by show 1 * n.toNat ≤ 1000; omega) (by decide), fun l2 hl2 => ?_⟩
  refine q _ _ ((Same.new hl).trans (e2.trans (Same.new hl2))) ⟨l2, List.replicate n.toNat (.ref p), rfl, ?_, ?_, ?_⟩
  · cases z : H l2 with
    | none => rfl
    | some o => rw [(e.trans ((Same.new hl).trans e2)) _ _ z] at hl2; cases hl2
  · rw [flat_rep]
    exact upd_same
  · exact paired_rep ⟨p, rfl, h _⟩ _
/-- [*one, *zeros] -/
theorem y_padded {p : Addr} {vs : List V} {qs : List Rat} {n : Nat} {H0 : Hp} (ha : Ys ta σ H (isV (.ref p))) (ht : SqT K H p vs) (hr : Rats K H vs qs) (hb : Ys tb σ H (newL K H0 (List.replicate n 0))) (hl : qs.length + n < 1000) (hH : Same H0 H) :
    Ys (tLst (StX.tStar K ta (StX.tStar K tb tNil))) σ H (newL K H (qs ++ List.replicate n 0)) := fun H1 e Q q =>
  ha H1 e _ fun v H2 e2 pv => ⟨p, vs, pv, .inl (Same.tup (e.trans e2) ht), hb H2 (e.trans e2) _ fun u H3 e3 pu => by
    obtain ⟨l, us, rfl, _, hl2, hus⟩ := pu
    refine ⟨l, us, rfl, .inr (.of hl2), ?_⟩
    have e13 := e2.trans e3
    have lv := rats_len hr
    have lu := rats_len hus
    rw [List.length_replicate] at lu
    show (vs ++ (us ++ [])).length ≤ sizeLine ∧ ∀ p', H3 p' = Option.none → Q (.ref p') (upd H3 p' (.lst (vs ++ (us ++ []))))
    rw [List.append_nil]
    refine ⟨Nat.le_trans (by rw [List.length_append]; omega) (show 1000 ≤ sizeLine by decide), fun l3 hl3 => q _ _ (e13.trans (Same.new hl3)) ⟨l3, vs ++ us, rfl, ?_, upd_same, ?_⟩⟩
    · cases z : H l3 with
      | none => rfl
      | some o => rw [(e.trans e13) _ _ z] at hl3; cases hl3
    · exact paired_app (hr.mono ((e.trans e13).trans (Same.new hl3))) (hus.mono (Same.new hl3))⟩
theorem y_max2 {a b : Int} (ha : Ys ta σ H (isI a)) (hb : Ys tb σ H (isI b)) : Ys (tCB (fun xs H Q => ∃ i j, xs = [V.int i, V.int j] ∧ Q (.int (if j > i then j else i)) H) (tCons ta (tCons tb tNil))) σ H (isI (if b > a then b else a)) :=
  y_cb2 ha hb mono_V fun x y H1 e px py Q q => ⟨a, b, by rw [show x = _ from px, show y = _ from py], q _ _ (Same.refl _) rfl⟩
theorem y_trimmed {qs : List Rat} (ha : Ys ta σ H (isL K qs)) (hn : qs.length < 1000) : Ys (tCall (sp_trimmed K) [] E0 (tCons ta tNil)) σ H (isP K (trim qs)) := y_call1 ha fun x H1 _ px Q k => by
  obtain ⟨l, us, rfl, hl, hus⟩ := px
  exact ⟨l, us, qs, rfl, .of hl, hus, hn, fun v H' e r => k v H' e r⟩
end
def sp_p_plus (K : PySem.W.Frag) : Sp := fun vs H Q _ => ∃ x y a b, vs = [x, y] ∧ isP K a x H ∧ isP K b y H ∧ AllS a ∧ AllS b ∧ a.length < 400 ∧ b.length < 400 ∧ ∀ v H', Same H H' → isP K (pPlus a b) v H' → Q v H'
def sp_p_scaled (K : PySem.W.Frag) : Sp := fun vs H Q _ => ∃ x y a c, vs = [x, y] ∧ isP K a x H ∧ RatAt K H y c ∧ AllS a ∧ Sm c ∧ a.length < 400 ∧ ∀ v H', Same H H' → isP K (pScaled a c) v H' → Q v H'
theorem sc_p_plus : FnScope ["one", "other", "size", "first", "second", "x", "y"] ["one", "other"] (defScope s_p_plus) := ⟨rfl, rfl, rfl, by decide +kernel, rfl, by decide +kernel, by decide +kernel⟩
theorem sc_p_scaled : FnScope ["poly", "number", "one"] ["poly", "number"] (defScope s_p_scaled) := ⟨rfl, rfl, rfl, by decide +kernel, rfl, by decide +kernel, by decide +kernel⟩
theorem zip_get {a b : List Rat} {i : Nat} (h1 : i < a.length) (h2 : a.length = b.length) : (List.zipWith (· + ·) a b)[i]? = some (a.getD i 0 + b.getD i 0) := by
  rw [List.getElem?_zipWith, getD_at h1, getD_at (by omega)]
theorem map_get {a : List Rat} {c : Rat} {i : Nat} (h1 : i < a.length) : (a.map (· * c))[i]? = some (a.getD i 0 * c) := by
  rw [List.getElem?_map, getD_at h1]
  rfl
/-- items told by their places are the items of a list -/
theorem paired_range {F : V → Rat → Prop} {ys : List V} {l : List Rat} (h : Paired (fun y i => F y (l.getD i 0)) ys (List.range l.length)) : Paired F ys l := by
  have key : ∀ {ys : List V} {is : List Nat}, Paired (fun y i => F y (l.getD i 0)) ys is → Paired F ys (is.map fun i => l.getD i 0) := by
    intro ys is h
    induction h with
    | nil => exact .nil
    | cons r t ih => exact .cons r ih
  have z := key h
  have e : (List.range l.length).map (fun i => l.getD i 0) = l := by
    apply List.ext_getElem?
    intro i
    rw [List.getElem?_map]
    by_cases hi : i < l.length
    · rw [List.getElem?_range hi, getD_at hi]
      rfl
    · rw [List.getElem?_eq_none (by rw [List.length_range]; omega), List.getElem?_eq_none (by omega)]
      rfl
  rwa [e] at z
section
variable {K : PySem.W.Frag} {mg : Str → Option Value} {P : Program} {w : World} {base : Heap}
theorem ok_p_scaled (T : TX K mg) : Def P w K mg base 3 "p_scaled" ["poly", "number"] (sp_p_scaled K) := by
  have G : Def P w K mg base 1 "trimmed" ["row"] (sp_trimmed K) := ok_trimmed T
  have Gt : Def P w K mg base 2 "times" ["one", "other"] (sp_times K) := ok_times T
  refine T.p_scaled.def_ sc_p_scaled (fun _ _ _ _ _ _ us hl => match us, hl with | [_, _], _ => rfl) (fun vs H Q E h => ?_) (fun cdv A outer s H vs Q E hr h => ?_)
  · obtain ⟨x, y, a, c, rfl, _⟩ := h
    rfl
  · obtain ⟨x, y, a, c, rfl, ⟨p, us, rfl, ht, hus⟩, hy, sa, sc, hl, k⟩ := h
    have nd := sc_p_scaled.nd
    have lv := rats_len hus
    refine ⟨_, pss_one (ps_ret (pe_def G (hr.mono (by decide)) (pa_cons (pe_lc (own := [("one", 2)]) (g := gName 2) (by rfl) nd (pi_tup (pv 0)) (blkOk_by (own := [("one", 2)]) (N := ["poly", "number", "one"]) (sc := defScope s_p_scaled) (by decide +kernel))
        (fun _ _ _ _ _ => pg_name (i := 2) nd rfl (Or.inl rfl)) (fun _ _ _ _ _ => pts_nil) (fun _ _ _ _ _ => pe_def Gt hr (pa_cons (pv 2) (pa_cons (pv 1) pa_nil)))) pa_nil))), ?_⟩
    refine s_ret (y_trimmed (qs := a.map (· * c)) (Ys.imp (y_lcT (y_var (v := .ref p) rfl) ht (Nat.lt_of_lt_of_le (by omega : us.length < 1000) (by decide)) (fun i => isR K (a.getD i 0 * c)) (fun _ => true) (fun _ => mono_R) (fun _ => apart_R) (fun _ => rfl) (fun i z H1 hz e => ⟨fun H4 e4 Q q => q _ (Same.refl _), fun _ => ?_⟩)) (fun v H1 e r => ?_)) (by rw [List.length_map]; omega)) fun v H1 e r => k v H1 e r
    · have hi : i < a.length := by
        have := (List.getElem?_eq_some_iff.mp hz).1
        omega
      obtain ⟨q, hq1, hq⟩ := Paired.at1 hus hz
      rw [getD_at hi] at hq1
      cases hq1
      exact y_times (y_varP (v := z) rfl mono_R (hq.mono e)) (y_varP (v := y) rfl mono_R (hy.mono e)) (sa.getD i) sc
    · obtain ⟨l, ys, rfl, _, hl2, hys⟩ := r
      rw [filter_true, lv] at hys
      refine ⟨l, ys, rfl, hl2, paired_range ?_⟩
      rw [List.length_map]
      have key : ∀ {ys : List V} {is : List Nat}, (∀ i ∈ is, i < a.length) → Paired (fun y i => isR K (a.getD i 0 * c) y H1) ys is → Paired (fun y i => RatAt K H1 y ((a.map (· * c)).getD i 0)) ys is := by
        intro ys is hlt h
        induction h with
        | nil => exact .nil
        | @cons y i _ _ r t ih =>
          refine .cons ?_ (ih fun j hj => hlt j (List.mem_cons_of_mem _ hj))
          have e1 : (a.map (· * c)).getD i 0 = a.getD i 0 * c := by
            rw [List.getD_eq_getElem?_getD, map_get (hlt i List.mem_cons_self)]
            rfl
          rw [e1]
          exact r
      exact key (fun i hi => List.mem_range.mp hi) hys
theorem ok_p_plus (T : TX K mg) : Def P w K mg base 3 "p_plus" ["one", "other"] (sp_p_plus K) := by
  have G : Def P w K mg base 1 "trimmed" ["row"] (sp_trimmed K) := ok_trimmed T
  have Gp : Def P w K mg base 2 "plus" ["one", "other"] (sp_plus K) := ok_plus T
  refine T.p_plus.def_ sc_p_plus (fun _ _ _ _ _ _ us hl => match us, hl with | [_, _], _ => rfl) (fun vs H Q E h => ?_) (fun cdv A outer s H vs Q E hr h => ?_)
  · obtain ⟨x, y, a, b, rfl, _⟩ := h
    rfl
  · obtain ⟨x, y, a, b, rfl, ⟨p, us, rfl, ht, hus⟩, ⟨p2, us2, rfl, ht2, hus2⟩, sa, sb, hl, hl2, k⟩ := h
    have nd := sc_p_plus.nd
    have lv := rats_len hus
    have lv2 := rats_len hus2
    refine ⟨_, pss_cons (ps_set (i := 2) nd rfl (Or.inl rfl) (pe_callB (call_max2 rfl) (by rfl) T.b_max (by decide +kernel) (pa_cons (pe_callB call_len_seq (by rfl) T.b_len (by decide +kernel) (pa_cons (pv 0) pa_nil)) (pa_cons (pe_callB call_len_seq (by rfl) T.b_len (by decide +kernel) (pa_cons (pv 1) pa_nil)) pa_nil))))
      (pss_cons (ps_set (i := 3) nd rfl (Or.inl rfl) (pe_lst (StX.pa_star (pv 0) (StX.pa_star (pe_op op_rep (pe_lst (pa_cons (pe_glob (v := .ref (He.ga K "ZERO")) (by rfl) T.zG rfl) pa_nil)) (pe_op op_sub (pv 2) (pe_callB call_len_seq (by rfl) T.b_len (by decide +kernel) (pa_cons (pv 0) pa_nil)))) pa_nil))))
      (pss_cons (ps_set (i := 4) nd rfl (Or.inl rfl) (pe_lst (StX.pa_star (pv 1) (StX.pa_star (pe_op op_rep (pe_lst (pa_cons (pe_glob (v := .ref (He.ga K "ZERO")) (by rfl) T.zG rfl) pa_nil)) (pe_op op_sub (pv 2) (pe_callB call_len_seq (by rfl) T.b_len (by decide +kernel) (pa_cons (pv 1) pa_nil)))) pa_nil))))
      (pss_one (ps_ret (pe_def G (hr.mono (by decide)) (pa_cons (pe_lc (own := [("x", 5), ("y", 6)]) (g := gTup K 2 (gCons (gName 5) (gCons (gName 6) gNil))) (by rfl) nd (pi_zip (by rfl) T.b_zip (pa_cons (pv 3) (pa_cons (pv 4) pa_nil)))
        (blkOk_by (own := [("x", 5), ("y", 6)]) (N := ["one", "other", "size", "first", "second", "x", "y"]) (sc := defScope s_p_plus) (by decide +kernel))
        (fun _ _ _ _ _ => pg_tup (by rfl) (pgs_cons (pg_name (i := 5) nd rfl (Or.inl rfl)) (pgs_cons (pg_name (i := 6) nd rfl (Or.inl rfl)) pgs_nil))) (fun _ _ _ _ _ => pts_nil) (fun _ _ _ _ _ => pe_def Gp hr (pa_cons (pv 5) (pa_cons (pv 6) pa_nil)))) pa_nil)))))), ?_⟩
    have em : (if (us2.length : Int) > (us.length : Int) then (us2.length : Int) else (us.length : Int)) = ((max a.length b.length : Nat) : Int) := by
      rw [lv, lv2]
      split <;> omega
    refine s_seq (s_set (y_toI (y_max2 (y_lenT (y_var (v := .ref p) rfl) ht rfl) (y_lenT (y_var (v := .ref p2) rfl) ht2 rfl)) em) fun v H1 e1 pv1 => ?_)
    rw [show v = _ from pv1]
    have n1 : ((((max a.length b.length : Nat) : Int) - (us.length : Int)).toNat) = max a.length b.length - a.length := by omega
    have n2 : ((((max a.length b.length : Nat) : Int) - (us2.length : Int)).toNat) = max a.length b.length - b.length := by omega
    have z1 := y_zeros (K := K) (σ := [some (.ref p), some (.ref p2), some (.int ((max a.length b.length : Nat) : Int)), none, none, none, none]) (H := H1) T.zT (y_sub (y_var (n := 2) (v := .int ((max a.length b.length : Nat) : Int)) rfl) (y_lenT (y_var (n := 0) (v := .ref p) rfl) (Same.tup e1 ht) rfl)) ⟨by omega, by omega⟩
    rw [n1] at z1
    refine s_seq (s_set (y_padded (y_var (v := .ref p) rfl) (Same.tup e1 ht) (hus.mono e1) z1 (by omega) (Same.refl _)) fun v2 H2 e2 pv2 => ?_)
    obtain ⟨l1, ys1, rfl, f1, hl1, hy1⟩ := pv2
    have e12 := e1.trans e2
    have z2 := y_zeros (K := K) (σ := [some (.ref p), some (.ref p2), some (.int ((max a.length b.length : Nat) : Int)), some (.ref l1), none, none, none]) (H := H2) T.zT (y_sub (y_var (n := 2) (v := .int ((max a.length b.length : Nat) : Int)) rfl) (y_lenT (y_var (n := 1) (v := .ref p2) rfl) (Same.tup e12 ht2) rfl)) ⟨by omega, by omega⟩
    rw [n2] at z2
    refine s_seq (s_set (y_padded (y_var (v := .ref p2) rfl) (Same.tup e12 ht2) (hus2.mono e12) z2 (by omega) (Same.refl _)) fun v3 H3 e3 pv3 => ?_)
    obtain ⟨l2, ys2, rfl, f2, hl2', hy2⟩ := pv3
    have e13 := e12.trans e3
    have hl1' : H3 l1 = some (.lst ys1) := e3 _ _ hl1
    have hy1' := hy1.mono e3
    have len1 := rats_len hy1
    have len2 := rats_len hy2
    rw [List.length_append, List.length_replicate] at len1 len2
    generalize ea : a ++ List.replicate (max a.length b.length - a.length) 0 = a' at *
    generalize eb : b ++ List.replicate (max a.length b.length - b.length) 0 = b' at *
    have sa' : AllS a' := ea ▸ sa.pad
    have sb' : AllS b' := eb ▸ sb.pad
    have la : a'.length = max a.length b.length := by
      rw [← ea, List.length_append, List.length_replicate]
      omega
    have lb : b'.length = max a.length b.length := by
      rw [← eb, List.length_append, List.length_replicate]
      omega
    have ezip : trim (List.zipWith (· + ·) a' b') = pPlus a b := by
      unfold pPlus
      rw [ea, eb]
    have lz : (List.zipWith (· + ·) a' b').length = max a.length b.length := by
      rw [List.length_zipWith]
      omega
    refine s_ret (y_trimmed (qs := List.zipWith (· + ·) a' b') (Ys.imp (y_lcZ (a_2 (y_var (v := .ref l1) rfl) (y_var (v := .ref l2) rfl)) (.of hl1') (.of hl2') (by omega) (Nat.lt_of_lt_of_le (by omega : ys1.length < 1000) (by decide)) (fun i => isR K (a'.getD i 0 + b'.getD i 0)) (fun _ => mono_R) (fun _ => apart_R) (fun _ _ => rfl) (fun i u z H4 hu hz e => ?_)) (fun v H4 e r => ?_)) (by omega)) fun v H4 e r => k v H4 (e13.trans e) (ezip ▸ r)
    · have hi : i < a'.length := by
        have := (List.getElem?_eq_some_iff.mp hu).1
        omega
      obtain ⟨q, hq1, hq⟩ := Paired.at1 hy1' hu
      rw [getD_at hi] at hq1
      cases hq1
      obtain ⟨q2, hq3, hq4⟩ := Paired.at1 hy2 hz
      rw [getD_at (by omega)] at hq3
      cases hq3
      exact y_plus (y_varP (v := u) rfl mono_R (hq.mono e)) (y_varP (v := z) rfl mono_R (hq4.mono e)) (sa'.getD i) (sb'.getD i)
    · obtain ⟨l, ys, rfl, _, hl3, hys⟩ := r
      rw [filter_true] at hys
      refine ⟨l, ys, rfl, hl3, paired_range ?_⟩
      have key : ∀ {ys : List V} {is : List Nat}, (∀ i ∈ is, i < a'.length) → Paired (fun y i => isR K (a'.getD i 0 + b'.getD i 0) y H4) ys is → Paired (fun y i => RatAt K H4 y ((List.zipWith (· + ·) a' b').getD i 0)) ys is := by
        intro ys is hlt h
        induction h with
        | nil => exact .nil
        | @cons y i _ _ r t ih =>
          refine .cons ?_ (ih fun j hj => hlt j (List.mem_cons_of_mem _ hj))
          have e1 : (List.zipWith (· + ·) a' b').getD i 0 = a'.getD i 0 + b'.getD i 0 := by
            rw [List.getD_eq_getElem?_getD, zip_get (hlt i List.mem_cons_self) (by omega)]
            rfl
          rw [e1]
          exact r
      have z := key (fun i hi => by have := List.mem_range.mp hi; omega) hys
      have el : ys1.length = (List.zipWith (· + ·) a' b').length := by omega
      rwa [el] at z
end
end BC
namespace BC
open L2 PySem PySem.Spec PyProof.Rows
section
variable {K : PySem.W.Frag} {H H' : Hp} {σ : L2.St} {ta tb te tl : TE} {D : Ends}
theorem ixN_at {n j : Nat} {z : Int} (hz : z = (j : Int)) (hj : j < n) : ixN n z = some j := by
  subst hz
  unfold ixN
  rw [if_pos (by omega), if_pos (by omega), Int.toNat_natCast]
/-- xs[i] = e -/
theorem s_put {l : Addr} {xs : List V} {z : Int} {j : Nat} {P : V → Hp → Prop} (h : Ys te σ H P) (ho : Ys ta σ H (isV (.ref l))) (hi : Ys tb σ H (isI z)) (hl : H l = some (.lst xs)) (hz : z = (j : Int)) (hj : j < xs.length) (m : Mono P)
    (k : ∀ v H1, Same H H1 → P v H1 → D.nx σ (upd H1 l (.lst (xs.set j v)))) : tAsg te (gSub ta tb rSetL) D σ H := h H (Same.refl _) _ fun v H1 e1 p1 => ho H1 e1 _ fun o H2 e2 p2 => hi H2 (e1.trans e2) _ fun i H3 e3 p3 =>
  ⟨l, xs, z, j, p2, p3, ((e1.trans e2).trans e3) _ _ hl, ixN_at hz hj, k v H3 ((e1.trans e2).trans e3) (m _ _ _ p1 (e2.trans e3))⟩
end
/-- what the product of two coefficient lists asks: all that is met on the way is small -/
structure TOk (a b : List Rat) : Prop where
  sa : AllS a
  sb : AllS b
  la : a.length < 400
  lb : b.length < 400
  pr : ∀ i j, Sm (a.getD i 0 * b.getD j 0)
  acc : ∀ i j, i ≤ a.length → j ≤ b.length → AllS (cIn b i (a.getD i 0) (cOut a b i) j)
def sp_p_times (K : PySem.W.Frag) : Sp := fun vs H Q _ => ∃ x y a b, vs = [x, y] ∧ isP K a x H ∧ isP K b y H ∧ TOk a b ∧ ∀ v H', Same H H' → isP K (pTimes a b) v H' → Q v H'
theorem sc_p_times : FnScope ["one", "other", "found", "place", "x", "more", "y"] ["one", "other"] (defScope s_p_times) := ⟨rfl, rfl, rfl, by decide +kernel, rfl, by decide +kernel, by decide +kernel⟩
section
variable {K : PySem.W.Frag} {mg : Str → Option Value} {P : Program} {w : World} {base : Heap}
theorem ok_p_times (T : TX K mg) : Def P w K mg base 3 "p_times" ["one", "other"] (sp_p_times K) := by
  have Gp : Def P w K mg base 2 "plus" ["one", "other"] (sp_plus K) := ok_plus T
  have Gt : Def P w K mg base 2 "times" ["one", "other"] (sp_times K) := ok_times T
  refine T.p_times.def_ sc_p_times (fun _ _ _ _ _ _ us hl => match us, hl with | [_, _], _ => rfl) (fun vs H Q E h => ?_) (fun cdv A outer s H vs Q E hr h => ?_)
  · obtain ⟨x, y, a, b, rfl, _⟩ := h
    rfl
  · obtain ⟨x, y, a, b, rfl, hx, hy, T2, k⟩ := h
    obtain ⟨p, us, rfl, ht, hus⟩ := id hx
    obtain ⟨p2, us2, rfl, ht2, hus2⟩ := id hy
    have nd := sc_p_times.nd
    have lv := rats_len hus
    have lv2 := rats_len hus2
    have lA := T2.la
    have lB := T2.lb
    refine ⟨_, pss_cons (ps_if (PW.pt (pw_or (pt_cmpR (op_eqD hr.units) (pv 0) (pe_tup pa_nil) (nomark _)) (pw_or1 (pt_cmpR (op_eqD hr.units) (pv 1) (pe_tup pa_nil) (nomark _))))) (pss_one (ps_ret (pe_tup pa_nil))) pss_nil)
      (pss_cons (ps_set (i := 2) nd rfl (Or.inl rfl) (pe_op op_rep (pe_lst (pa_cons (pe_glob (v := .ref (He.ga K "ZERO")) (by rfl) T.zG rfl) pa_nil)) (pe_op op_sub (pe_op op_add (pe_callB call_len_seq (by rfl) T.b_len (by decide +kernel) (pa_cons (pv 0) pa_nil)) (pe_callB call_len_seq (by rfl) T.b_len (by decide +kernel) (pa_cons (pv 1) pa_nil))) pe_int)))
      (pss_cons (ps_for PassesOwn.never rfl (pi_enumT (by rfl) T.b_enumerate (pa_cons (pv 0) pa_nil)) (pg_tup (by rfl) (pgs_cons (pg_name (i := 3) nd rfl (Or.inl rfl)) (pgs_cons (pg_name (i := 4) nd rfl (Or.inl rfl)) pgs_nil)))
        (pss_one (ps_for PassesOwn.never rfl (pi_enumT (by rfl) T.b_enumerate (pa_cons (pv 1) pa_nil)) (pg_tup (by rfl) (pgs_cons (pg_name (i := 5) nd rfl (Or.inl rfl)) (pgs_cons (pg_name (i := 6) nd rfl (Or.inl rfl)) pgs_nil)))
          (pss_one (ps_asg (pe_def Gp hr (pa_cons (pe_ix ix_list (pv 2) (pe_op op_add (pv 3) (pv 5)) (fun _ _ => rfl)) (pa_cons (pe_def Gt hr (pa_cons (pv 4) (pa_cons (pv 6) pa_nil))) pa_nil))) (pg_sub (pv 2) (pe_op op_add (pv 3) (pv 5)) set_list))))))
      (pss_one (ps_ret (pe_callTy call_tuple_of (by rfl) T.b_tuple (by decide +kernel) (pa_cons (pv 2) pa_nil)))))), ?_⟩
    refine s_seq (s_if (yt_or (yt_T (y_eqP (y_varP (v := .ref p) rfl mono_P hx) y_emptyP)) fun _ => yt_T (y_eqP (y_varP (v := .ref p2) rfl mono_P hy) y_emptyP)) (fun hb H1 e1 => ?_) fun hb H1 e1 => ?_)
    · refine s_ret (y_emptyP (K := K)) fun v H2 e2 r => k v H2 (e1.trans e2) ?_
      have ee : pTimes a b = [] := by
        unfold pTimes
        rw [if_pos ?_]
        simpa using hb
      rw [ee]
      exact r
    · have hab : ¬ (a = [] ∨ b = []) := by simpa using hb
      have na : a ≠ [] := fun z => hab (.inl z)
      have nb : b ≠ [] := fun z => hab (.inr z)
      have pa : 0 < a.length := List.length_pos_iff.mpr na
      have pb : 0 < b.length := List.length_pos_iff.mpr nb
      have n1 : (((us.length : Int) + (us2.length : Int) - 1).toNat) = a.length + b.length - 1 := by omega
      have z1 := y_zeros (K := K) (σ := [some (.ref p), some (.ref p2), none, none, none, none, none]) (H := H1) T.zT (y_sub (y_add (y_lenT (y_var (n := 0) (v := .ref p) rfl) (Same.tup e1 ht) rfl) (y_lenT (y_var (n := 1) (v := .ref p2) rfl) (Same.tup e1 ht2) rfl)) (y_c (v := .int 1))) ⟨by omega, by omega⟩
      rw [n1] at z1
      dsimp only
      refine s_seq (s_set z1 fun v H2 e2 pv2 => ?_)
      obtain ⟨l, ys, rfl, fl, hl, hys⟩ := pv2
      refine s_seq (s_forE (y_var (v := .ref p) rfl) (Same.tup (e1.trans e2) ht) (fun i σ' H' => i ≤ a.length ∧ ∃ s3 s4 s5 s6 ys, σ' = [some (.ref p), some (.ref p2), some (.ref l), s3, s4, s5, s6] ∧ Same H1 H' ∧ H' l = some (.lst ys) ∧ Rats K H' ys (cOut a b i))
        (fun H3 e3 => ⟨Nat.zero_le _, none, none, none, none, ys, rfl, e2.trans e3, e3 _ _ hl, hys.mono e3⟩) (fun i σ' H' p' => ?_) (fun i x σ' H' H3 hx' p' e3 => ?_) fun σ' H' p' => ?_)
      · obtain ⟨_, _, _, _, _, _, _, e, _⟩ := p'
        exact Same.tup (e1.trans e) ht
      · obtain ⟨hi, s3, s4, s5, s6, ys, rfl, e, hl', hys'⟩ := p'
        have hia : i < a.length := by
          have := (List.getElem?_eq_some_iff.mp hx').1
          omega
        obtain ⟨q, hq1, hq⟩ := Paired.at1 hus hx'
        rw [getD_at hia] at hq1
        cases hq1
        have e13 := e1.trans (e.trans e3)
        dsimp only
        refine s_forE (y_var (n := 1) (v := .ref p2) rfl) (Same.tup e13 ht2) (fun j σ' H' => j ≤ b.length ∧ ∃ s5 s6 ys, σ' = [some (.ref p), some (.ref p2), some (.ref l), some (.int (i : Int)), some x, s5, s6] ∧ Same H1 H' ∧ H' l = some (.lst ys) ∧ Rats K H' ys (cIn b i (a.getD i 0) (cOut a b i) j))
          (fun H4 e4 => ⟨Nat.zero_le _, s5, s6, ys, rfl, (e.trans e3).trans e4, e4 _ _ (e3 _ _ hl'), hys'.mono (e3.trans e4)⟩) (fun j σ' H' p' => ?_) (fun j y σ' H' H4 hy' p' e4 => ?_) fun σ' H' p' => ?_
        · obtain ⟨_, _, _, _, _, e', _⟩ := p'
          exact Same.tup (e1.trans e') ht2
        · obtain ⟨hj, s5', s6', ys', rfl, e', hl2, hys2⟩ := p'
          have hjb : j < b.length := by
            have := (List.getElem?_eq_some_iff.mp hy').1
            omega
          obtain ⟨q2, hq3, hq4⟩ := Paired.at1 hus2 hy'
          rw [getD_at hjb] at hq3
          cases hq3
          have e14 := e1.trans (e'.trans e4)
          have hl4 := e4 _ _ hl2
          have hys4 := hys2.mono e4
          have ll := rats_len hys4
          rw [cIn_len, cOut_len] at ll
          have hsum : (i : Int) + (j : Int) = ((i + j : Nat) : Int) := by omega
          dsimp only
          refine s_put (P := isR K ((cIn b i (a.getD i 0) (cOut a b i) j).getD (i + j) 0 + a.getD i 0 * b.getD j 0)) (y_plus (y_itL (y_var (n := 2) (v := .ref l) rfl) (y_add (y_var (n := 3) (v := .int i) rfl) (y_var (n := 5) (v := .int j) rfl)) (.of hl4) hys4 (i := i + j) (by rw [cIn_len, cOut_len]; omega) hsum)
            (y_times (y_varP (n := 4) (v := x) rfl mono_R ((show RatAt K H x (a.getD i 0) from hq).mono (e1.trans (e'.trans e4)))) (y_varP (n := 6) (v := y) rfl mono_R ((show RatAt K H y (b.getD j 0) from hq4).mono e14)) (T2.sa.getD i) (T2.sb.getD j)) ((T2.acc i j hi hj).getD _) (T2.pr i j))
            (y_var (n := 2) (v := .ref l) rfl) (y_add (y_var (n := 3) (v := .int i) rfl) (y_var (n := 5) (v := .int j) rfl)) hl4 hsum (by omega) mono_R fun v H5 e5 pv5 => ?_
          refine ⟨hjb, some (.int (j : Int)), some y, _, rfl, Same.mut ((e'.trans e4).trans e5) fl, upd_same, ?_⟩
          have hl5 := e5 _ _ hl4
          exact paired_set (RatAt.apart (show RatAt K H5 v _ from pv5) hl5) (i + j) ((hys4.mono e5).apart hl5)
        · obtain ⟨hj, s5', s6', ys', rfl, e', hl2, hys2⟩ := p'
          rw [lv2] at hys2
          exact ⟨hia, _, _, s5', s6', ys', rfl, e', hl2, hys2⟩
      · obtain ⟨hi, s3, s4, s5, s6, ys', rfl, e, hl', hys'⟩ := p'
        have ee : pTimes a b = cOut a b us.length := by
          unfold pTimes
          rw [if_neg hab, lv]
        dsimp only
        refine s_ret (P := isP K (pTimes a b)) (y_cb1 (y_var (n := 2) (v := .ref l) rfl) fun x H3 e3 px Q' q' => ?_) fun v H3 e3 r => k v H3 ((e1.trans e).trans e3) r
        rw [show x = _ from px]
        refine ⟨l, ys', rfl, .inl ⟨.of (e3 _ _ hl'), fun t ht' => q' _ _ (Same.new ht') ⟨t, ys', rfl, .of upd_same, ?_⟩⟩⟩
        rw [ee]
        exact hys'.mono (e3.trans (Same.new ht'))
end
end BC
namespace BC
open L2 PySem PySem.Spec PyProof.Rows
theorem AllB.small {M B : Nat} {l : List Rat} (h : AllB M B l) (hM : M ∣ MC) (hB : B ≤ CAP) : AllS l := fun c hc => (h c hc).small hM hB
theorem CB_le {e : Nat} (h : e ≤ 4) : 100000000 * CB e ≤ CAP := by
  have : CB e ≤ CB 4 := Nat.pow_le_pow_right (by decide) h
  have h2 : 100000000 * CB 4 ≤ CAP := by
    unfold CB CAP
    decide +kernel
  omega
theorem dvd_MB1 {e : Nat} (h : e ≤ 5) : MB e ∣ MC := Nat.dvd_trans (Nat.dvd_mul_left _ _) (dvd_MB h)
theorem dvd_12 : 12 ∣ MC := by
  have := dvd_MB (e := 0) (by omega)
  exact this
theorem MB_one : MB 1 = 12 * LC := by
  unfold MB
  rw [Nat.pow_one]
theorem dvd_LC : LC ∣ MC := by
  have z := dvd_MB1 (e := 1) (by omega)
  rw [MB_one] at z
  exact Nat.dvd_trans (Nat.dvd_mul_left _ _) z
theorem MB_succ (e : Nat) : 12 * LC * MB e = MB (e + 1) := by
  unfold MB
  rw [Nat.pow_succ, Nat.mul_comm]
theorem KOk.sm {d : Nat} {ks : List Rat} (h : KOk d ks) (i : Nat) : Sm (kn ks i) := (h.bd i).small dvd_12 (by decide +kernel)
theorem KOk.smd {d : Nat} {ks : List Rat} (h : KOk d ks) (i j : Nat) : Sm (kn ks j - kn ks i) := ((h.bd j).sub (h.bd i)).small dvd_12 (by decide +kernel)
theorem tok_line {e : Nat} {a b : List Rat} (he : e ≤ 4) (ha : AllB (12 * LC) 360 a) (la : a.length = 2) (hb : AllB (MB e) (CB e) b) (lb : b.length ≤ 5) : TOk a b := by
  have c := CB_le he
  have d1 := dvd_MB1 (e := e) (by omega)
  have d2 : 12 * LC * MB e ∣ MC := by
    rw [MB_succ]
    exact dvd_MB1 (by omega)
  refine ⟨ha.small (MB_one ▸ dvd_MB1 (e := 1) (by omega)) (by decide +kernel), hb.small d1 (by omega), by omega, by omega, fun i j => ?_, fun i j hi hj => ?_⟩
  · exact ((ha.getD i).mul (hb.getD j)).small d2 (by omega)
  · refine (cIn_bd (place := i) hb (ha.getD i) (cOut_bd ha hb i) j).small d2 ?_
    have e1 : b.length * (360 * CB e) ≤ 5 * (360 * CB e) := Nat.mul_le_mul_right _ lb
    have e2 : i * (b.length * (360 * CB e)) ≤ 2 * (5 * (360 * CB e)) := Nat.mul_le_mul (by omega) e1
    have e3 : j * (360 * CB e) ≤ 5 * (360 * CB e) := Nat.mul_le_mul_right _ (by omega)
    omega
section
variable {K : PySem.W.Frag} {H H' : Hp} {σ : L2.St} {ta tb te tl : TE} {D : Ends} {tu tw : TS}
theorem s_cut (Mid : L2.St → Hp → Prop) (h : tu { D with nx := Mid } σ H) (k : ∀ σ' H', Mid σ' H' → tw D σ' H') : C8.tCut tu tw D σ H := ⟨Mid, h, k⟩
theorem s_par {i j : Nat} {Pa Pb : V → Hp → Prop} (ha : Ys ta σ H Pa) (hb : Ys tb σ H Pb) (m : Mono Pa) (k : ∀ u v H1, Same H H1 → Pa u H1 → Pb v H1 → D.nx ((σ.set i (some u)).set j (some v)) H1) : tPar i j (tCons ta (tCons tb tNil)) D σ H :=
  ha H (Same.refl _) _ fun u H1 e1 p1 => hb H1 e1 _ fun v H2 e2 p2 => ⟨u, v, rfl, k u v H2 (e1.trans e2) (m _ _ _ p1 e2) p2⟩
theorem y_emptyL : Ys (tLst tNil) σ H (isL K []) := fun H1 e Q q => ⟨Nat.zero_le _, fun p hp => q _ _ (Same.new hp) ⟨p, [], rfl, upd_same, .nil⟩⟩
theorem y_tup1R {a : Rat} (ha : Ys ta σ H (isR K a)) : Ys (tTup (tCons ta tNil)) σ H (isP K [a]) := fun H1 e Q q => ha H1 e _ fun v H2 e2 pv => ⟨by show 1 ≤ sizeLine; decide, fun p hp => q _ _ (e2.trans (Same.new hp)) ⟨p, [v], rfl, .of upd_same, .cons (RatAt.mono pv (Same.new hp)) .nil⟩⟩
theorem y_tup2R {a b : Rat} (ha : Ys ta σ H (isR K a)) (hb : Ys tb σ H (isR K b)) : Ys (tTup (tCons ta (tCons tb tNil))) σ H (isP K [a, b]) :=
  y_tup2 ha hb mono_R fun x y p H1 H2 _ e pa pb hp => ⟨p, [x, y], rfl, .of hp, .cons (RatAt.mono pa e) (.cons (RatAt.mono pb e) .nil)⟩
theorem y_pplus {a b : List Rat} (ha : Ys ta σ H (isP K a)) (hb : Ys tb σ H (isP K b)) (sa : AllS a) (sb : AllS b) (la : a.length < 400) (lb : b.length < 400) : Ys (tCall (sp_p_plus K) [] E0 (tCons ta (tCons tb tNil))) σ H (isP K (pPlus a b)) :=
  y_call2 ha hb mono_P fun x y H1 _ px py Q q => ⟨x, y, a, b, rfl, px, py, sa, sb, la, lb, fun v H' e r => q v H' e r⟩
theorem y_pscaled {a : List Rat} {c : Rat} (ha : Ys ta σ H (isP K a)) (hb : Ys tb σ H (isR K c)) (sa : AllS a) (sc : Sm c) (la : a.length < 400) : Ys (tCall (sp_p_scaled K) [] E0 (tCons ta (tCons tb tNil))) σ H (isP K (pScaled a c)) :=
  y_call2 ha hb mono_P fun x y H1 _ px py Q q => ⟨x, y, a, c, rfl, px, py, sa, sc, la, fun v H' e r => q v H' e r⟩
theorem y_ptimes {a b : List Rat} (ha : Ys ta σ H (isP K a)) (hb : Ys tb σ H (isP K b)) (t : TOk a b) : Ys (tCall (sp_p_times K) [] E0 (tCons ta (tCons tb tNil))) σ H (isP K (pTimes a b)) :=
  y_call2 ha hb mono_P fun x y H1 _ px py Q q => ⟨x, y, a, b, rfl, px, py, t, fun v H' e r => q v H' e r⟩
theorem y_call4 {sp : Sp} {tc td : TE} {Pa Pb Pc Pd P : V → Hp → Prop} (ha : Ys ta σ H Pa) (hb : Ys tb σ H Pb) (hc : Ys tc σ H Pc) (hd : Ys td σ H Pd) (m : Mono Pa) (mb : Mono Pb) (mc : Mono Pc)
    (hr : ∀ x y z u H1, Same H H1 → Pa x H1 → Pb y H1 → Pc z H1 → Pd u H1 → ∀ Q : VK, (∀ v H2, Same H1 H2 → P v H2 → Q v H2) → sp [x, y, z, u] H1 Q E0) : Ys (tCall sp [] E0 (tCons ta (tCons tb (tCons tc (tCons td tNil))))) σ H P := fun H1 e Q q =>
  ha H1 e _ fun x H2 e2 p2 => hb H2 (e.trans e2) _ fun y H3 e3 p3 => hc H3 ((e.trans e2).trans e3) _ fun z H4 e4 p4 => hd H4 (((e.trans e2).trans e3).trans e4) _ fun u H5 e5 p5 =>
    hr x y z u H5 ((((e.trans e2).trans e3).trans e4).trans e5) (m _ _ _ p2 ((e3.trans e4).trans e5)) (mb _ _ _ p3 (e4.trans e5)) (mc _ _ _ p4 e5) p5 Q fun v H6 e6 p6 => q v H6 ((((e2.trans e3).trans e4).trans e5).trans e6) p6
end
def sp_faults_of (K : PySem.W.Frag) : Sp := fun vs H Q _ => ∃ (d : Nat) (p : Addr) (us : List V) (ks : List Rat), vs = [.int (d : Int), .ref p] ∧ SqT K H p us ∧ Rats K H us ks ∧ KOk d ks ∧ ∀ v H', Same H H' → isL K [] v H' → Q v H'
theorem sc_faults_of : FnScope ["degree", "value", "index", "one"] ["degree", "value"] (defScope s_faults_of) := ⟨rfl, rfl, rfl, by decide +kernel, rfl, by decide +kernel, by decide +kernel⟩
section
variable {K : PySem.W.Frag} {mg : Str → Option Value} {P : Program} {w : World} {base : Heap}
theorem ok_faults_of (T : TX K mg) : Def P w K mg base 3 "faults_of" ["degree", "value"] (sp_faults_of K) := by
  have Gi : Def P w K mg base 2 "is_ratio" ["value"] (sp_is_ratio K) := ok_is_ratio T
  have Gb : Def P w K mg base 1 "is_below" ["one", "other"] (sp_is_below K) := ok_is_below T
  refine T.faults_of.def_ sc_faults_of (fun _ _ _ _ _ _ us hl => match us, hl with | [_, _], _ => rfl) (fun vs H Q E h => ?_) (fun cdv A outer s H vs Q E hr h => ?_)
  · obtain ⟨d, p, us, ks, rfl, _⟩ := h
    rfl
  · obtain ⟨d, p, us, ks, rfl, ht, hus, hk, k⟩ := h
    obtain ⟨tk, htk⟩ := T.mkno
    have nd := sc_faults_of.nd
    have lv := rats_len hus
    have hl1 := hk.len
    have hl2 := hk.len16
    refine ⟨_, pss_cons (ps_if (PW.pt (pw_or (pt_not (pt_val (pe_callB call_isi (by rfl) T.b_isinstance (by decide +kernel) (pa_cons (pv 1) (pa_cons (pe_bltn (v := .ty "tuple") (by rfl) T.b_tuple (by decide +kernel) rfl) pa_nil)))))
        (pw_or1 (pt_not (pt_chain op_le op_le (pe_op op_add (pv 0) pe_int) (pe_callB call_len_seq (by rfl) T.b_len (by decide +kernel) (pa_cons (pv 1) pa_nil)) (pe_glob (v := .int 16) (by rfl) htk ⟨_, rfl⟩)))))) pss_never pss_nil)
      (pss_cons (ps_for PassesOwn.never rfl (pi_enumT (by rfl) T.b_enumerate (pa_cons (pv 1) pa_nil)) (pg_tup (by rfl) (pgs_cons (pg_name (i := 2) nd rfl (Or.inl rfl)) (pgs_cons (pg_name (i := 3) nd rfl (Or.inl rfl)) pgs_nil)))
        (pss_cons (ps_if (PW.pt (pw_or (pt_not (pt_val (pe_def Gi hr (pa_cons (pv 3) pa_nil)))) (pw_or1 (PW.pt (pw_and (pt_cmpR op_gt (pv 2) pe_int (nomark _)) (pw_and1 (pt_val (pe_def Gb (hr.mono (by decide)) (pa_cons (pv 3) (pa_cons (pe_ix ix_tup (pv 1) (pe_op op_sub (pv 2) pe_int) (fun _ _ => rfl)) pa_nil)))))))))) pss_never pss_nil)
        (pss_one (ps_if (PW.pt (pw_and (pt_cmpR op_gt (pv 2) (pv 0) (nomark _)) (pw_and1 (pt_cmpR (op_eqD hr.units) (pe_ix ix_tup (pv 1) (pe_op op_sub (pe_op op_sub (pv 2) (pv 0)) pe_int) (fun _ _ => rfl)) (pv 3) (nomark _))))) pss_never pss_nil))))
      (pss_one (ps_ret (pe_lst pa_nil)))), ?_⟩
    have c16 : (decide ((d : Int) + 2 ≤ (us.length : Int)) && decide ((us.length : Int) ≤ 16)) = true := by
      rw [decide_eq_true (show (d : Int) + 2 ≤ (us.length : Int) by omega), decide_eq_true (show (us.length : Int) ≤ 16 by omega)]
      rfl
    refine s_seq (s_no (yt_or (yt_not (yt_B (y_isi (y_var (v := .ref p) rfl) (fun v H1 e r => by rw [show v = _ from r]; exact sqT_ty (Same.tup e ht)) kit_tt))) fun _ => yt_not (yt_T (y_chainLe (y_add (y_var (v := .int d) rfl) y_c) (y_lenT (y_var (v := .ref p) rfl) ht rfl) y_c))) (by rw [c16] <;> rfl) fun H1 e1 => ?_)
    dsimp only
    refine s_seq (s_forE (y_var (v := .ref p) rfl) (Same.tup e1 ht) (fun i σ' H' => ∃ s2 s3, σ' = [some (.int (d : Int)), some (.ref p), s2, s3] ∧ Same H H') (fun H2 e2 => ⟨none, none, rfl, e1.trans e2⟩) (fun i σ' H' p' => ?_) (fun i x σ' H' H3 hx' p' e3 => ?_) fun σ' H' p' => ?_)
    · obtain ⟨_, _, _, e⟩ := p'
      exact Same.tup e ht
    · obtain ⟨s2, s3, rfl, e⟩ := p'
      have hi : i < ks.length := by
        have := (List.getElem?_eq_some_iff.mp hx').1
        omega
      obtain ⟨q, hq1, hq⟩ := Paired.at1 hus hx'
      rw [getD_at hi] at hq1
      cases hq1
      have eH3 := e.trans e3
      have rx : ∀ {H4 : Hp}, Same H3 H4 → RatAt K H4 x (kn ks i) := fun e4 => (show RatAt K H x (kn ks i) from hq).mono (eH3.trans e4)
      dsimp only
      refine s_seq (s_no (b := !true || (decide ((0 : Int) < (i : Int)) && decide (kn ks i < kn ks (i - 1)))) (yt_or (yt_not (yt_B (y_isRat (y_varP (n := 3) (v := x) rfl mono_R (rx (Same.refl _)))))) fun _ => yt_and (yt_T (y_gt (y_var (n := 2) (v := .int (i : Int)) rfl) y_c)) fun h1 =>
        yt_B (y_below (y_varP (n := 3) (v := x) rfl mono_R (rx (Same.refl _))) (y_itT (y_var (n := 1) (v := .ref p) rfl) (y_sub (y_var (n := 2) (v := .int (i : Int)) rfl) y_c) (Same.tup eH3 ht) (hus.mono eH3) (i := i - 1) (by omega) (by have := of_decide_eq_true h1; omega)) (hk.sm i) (hk.sm (i - 1)))) ?_ fun H4 e4 => ?_)
      · have m := hk.mono (i - 1) i (by omega) hi
        have c : ¬ kn ks i < kn ks (i - 1) := by grind
        rw [decide_eq_false c, Bool.and_false]
        rfl
      · dsimp only
        have eH4 := eH3.trans e4
        refine s_no (b := decide ((d : Int) < (i : Int)) && decide (kn ks (i - d - 1) = kn ks i)) (yt_and (yt_T (y_gt (y_var (n := 2) (v := .int (i : Int)) rfl) (y_var (n := 0) (v := .int (d : Int)) rfl))) fun h1 => yt_T (y_eqR (y_itT (y_var (n := 1) (v := .ref p) rfl) (y_sub (y_sub (y_var (n := 2) (v := .int (i : Int)) rfl) (y_var (n := 0) (v := .int (d : Int)) rfl)) y_c) (Same.tup eH4 ht) (hus.mono eH4) (i := i - d - 1) (by omega) (by have := of_decide_eq_true h1; omega)) (y_varP (n := 3) (v := x) rfl mono_R (rx e4)))) ?_ fun H5 e5 => ⟨some (.int (i : Int)), some x, rfl, eH4.trans e5⟩
        by_cases c : (d : Int) < (i : Int)
        · have m := hk.mult (i - d - 1) (by omega)
          have ei : i - d - 1 + d + 1 = i := by omega
          rw [ei] at m
          have c2 : ¬ kn ks (i - d - 1) = kn ks i := by grind
          rw [decide_eq_false c2, Bool.and_false]
        · rw [decide_eq_false c, Bool.false_and]
    · obtain ⟨s2, s3, rfl, e⟩ := p'
      dsimp only
      exact s_ret (y_emptyL (K := K)) fun v H5 e5 r => k v H5 (e.trans e5) r
end
end BC
namespace BC
open L2 PySem PySem.Spec PyProof.Rows
def sp_basis_poly (K : PySem.W.Frag) (n : Nat) : Sp := fun vs H Q _ => ∃ (e : Nat) (p : Addr) (i pl : Nat) (us : List V) (d : Nat) (ks : List Rat), vs = [.int (e : Int), .ref p, .int (i : Int), .int (pl : Int)] ∧ e ≤ n ∧ e ≤ 4 ∧ i + e + 1 < ks.length ∧ SqT K H p us ∧ Rats K H us ks ∧ KOk d ks ∧
  ∀ v H', Same H H' → isP K (bas ks e i pl) v H' → Q v H'
abbrev nBas : List Str := ["degree", "knots", "index", "place", "found", "low", "high", "part", "line"]
theorem sc_basis_poly : FnScope nBas ["degree", "knots", "index", "place"] (defScope s_basis_poly) := ⟨rfl, rfl, rfl, by decide +kernel, rfl, by decide +kernel, by decide +kernel⟩
section
variable {K : PySem.W.Frag} {mg : Str → Option Value} {P : Program} {w : World} {base : Heap}
theorem bas_zero (ks : List Rat) (i pl : Nat) : bas ks 0 i pl = if i = pl then [1] else [] := rfl
theorem bas_succ (ks : List Rat) (e i pl : Nat) : bas ks (e + 1) i pl = (if kn ks (i + 1) = kn ks (i + (e + 1) + 1) then (if kn ks i = kn ks (i + (e + 1)) then [] else pTimes (line1 (kn ks i) (kn ks (i + (e + 1)))) (bas ks e i pl))
    else pPlus (if kn ks i = kn ks (i + (e + 1)) then [] else pTimes (line1 (kn ks i) (kn ks (i + (e + 1)))) (bas ks e i pl)) (pTimes (line2 (kn ks (i + 1)) (kn ks (i + (e + 1) + 1))) (bas ks e (i + 1) pl))) := rfl
theorem one_div_bd {d : Nat} {ks : List Rat} (h : KOk d ks) {i j : Nat} (hi : i < ks.length) (hj : j < ks.length) (hlt : kn ks i < kn ks j) : Bd LC 12 (1 / (kn ks j - kn ks i)) := part_bd (h.bd i) (h.bd j) hlt (h.span i j hi hj)
theorem first_bd {d : Nat} {ks : List Rat} (h : KOk d ks) {e i pl : Nat} (he : e + 1 ≤ 4) (hl : i + (e + 1) + 1 < ks.length) : AllB (MB (e + 1)) (3600 * CB e) (if kn ks i = kn ks (i + (e + 1)) then [] else pTimes (line1 (kn ks i) (kn ks (i + (e + 1)))) (bas ks e i pl)) ∧
    (if kn ks i = kn ks (i + (e + 1)) then [] else pTimes (line1 (kn ks i) (kn ks (i + (e + 1)))) (bas ks e i pl)).length ≤ 10 := by
  have b := bas_len ks e i pl
  split
  · exact ⟨fun c hc => by simp at hc, by simp⟩
  · rename_i hne
    have t := AllB.times (line1_bd h (i := i) (j := i + (e + 1)) (by omega) (by omega) (lt_of_ne h (by omega) (by omega) hne)) (bas_bd h e i pl (by omega) (by omega))
    rw [MB_succ] at t
    have l : (line1 (kn ks i) (kn ks (i + (e + 1)))).length = 2 := rfl
    refine ⟨t.mono ?_, Nat.le_trans (times_len _ _) (by omega)⟩
    rw [l]
    have a : (bas ks e i pl).length * (360 * CB e) ≤ 5 * (360 * CB e) := Nat.mul_le_mul_right _ (by omega)
    omega
theorem second_bd {d : Nat} {ks : List Rat} (h : KOk d ks) {e i pl : Nat} (he : e + 1 ≤ 4) (hl : i + (e + 1) + 1 < ks.length) (hne : ¬ kn ks (i + 1) = kn ks (i + (e + 1) + 1)) : AllB (MB (e + 1)) (3600 * CB e) (pTimes (line2 (kn ks (i + 1)) (kn ks (i + (e + 1) + 1))) (bas ks e (i + 1) pl)) ∧
    (pTimes (line2 (kn ks (i + 1)) (kn ks (i + (e + 1) + 1))) (bas ks e (i + 1) pl)).length ≤ 10 := by
  have b := bas_len ks e (i + 1) pl
  have t := AllB.times (line2_bd h (i := i + 1) (j := i + (e + 1) + 1) (by omega) (by omega) (lt_of_ne h (by omega) (by omega) hne)) (bas_bd h e (i + 1) pl (by omega) (by omega))
  rw [MB_succ] at t
  have l : (line2 (kn ks (i + 1)) (kn ks (i + (e + 1) + 1))).length = 2 := rfl
  refine ⟨t.mono ?_, Nat.le_trans (times_len _ _) (by omega)⟩
  rw [l]
  have a : (bas ks e (i + 1) pl).length * (360 * CB e) ≤ 5 * (360 * CB e) := Nat.mul_le_mul_right _ (by omega)
  omega
theorem ok_basis_poly (T : TX K mg) : ∀ n, Def P w K mg base (4 + n) "basis_poly" ["degree", "knots", "index", "place"] (sp_basis_poly K n)
  | 0 => by
    refine T.basis_poly.def_ sc_basis_poly (fun _ _ _ _ _ _ us hl => match us, hl with | [_, _, _, _], _ => rfl) (fun vs H Q E h => ?_) (fun cdv A outer s H vs Q E hr h => ?_)
    · obtain ⟨e, p, i, pl, us, d, ks, rfl, _⟩ := h
      rfl
    · obtain ⟨e, p, i, pl, us, d, ks, rfl, he, _, hi, ht, hus, hk, k⟩ := h
      obtain rfl : e = 0 := by omega
      have nd := sc_basis_poly.nd
      refine ⟨_, pss_cons (ps_if (pt_cmpR op_eq (pv 0) pe_int (nomark _)) (pss_one (ps_ret (pe_ifExp (pt_cmpR op_eq (pv 2) (pv 3) (nomark _)) (pe_tup (pa_cons (pe_glob (v := .ref (He.ga K "ONE")) (by rfl) T.oG rfl) pa_nil)) (pe_tup pa_nil)))) pss_nil) pss_never, ?_⟩
      refine s_seq (s_if (yt_T (y_eqI (y_var (n := 0) (v := .int (0 : Int)) rfl) y_c)) (fun _ H1 e1 => ?_) fun hb => by cases hb)
      refine s_ret (P := isP K (bas ks 0 i pl)) (y_if (yt_T (y_eqI (y_var (n := 2) (v := .int (i : Int)) rfl) (y_var (n := 3) (v := .int (pl : Int)) rfl))) (fun hb => ?_) fun hb => ?_) fun v H2 e2 r => k v H2 (e1.trans e2) r
      · have c := of_decide_eq_true hb
        rw [bas_zero, if_pos (by omega)]
        exact y_tup1R (y_one T.oT)
      · have c := of_decide_eq_false hb
        rw [bas_zero, if_neg (by omega)]
        exact y_emptyP
  | n + 1 => by
    have Gr : Def P w K mg base (4 + n) "basis_poly" ["degree", "knots", "index", "place"] (sp_basis_poly K n) := ok_basis_poly T n
    have Go : Def P w K mg base 2 "over" ["one", "other"] (sp_over K) := ok_over T
    have Gl : Def P w K mg base 2 "less" ["one", "other"] (sp_less K) := ok_less T
    have Gt : Def P w K mg base 2 "times" ["one", "other"] (sp_times K) := ok_times T
    have Gn : Def P w K mg base 1 "negative" ["one"] (sp_negative K) := ok_negative T
    have Gpp : Def P w K mg base 3 "p_plus" ["one", "other"] (sp_p_plus K) := ok_p_plus T
    have Gpt : Def P w K mg base 3 "p_times" ["one", "other"] (sp_p_times K) := ok_p_times T
    refine T.basis_poly.def_ sc_basis_poly (fun _ _ _ _ _ _ us hl => match us, hl with | [_, _, _, _], _ => rfl) (fun vs H Q E h => ?_) (fun cdv A outer s H vs Q E hr h => ?_)
    · obtain ⟨e, p, i, pl, us, d, ks, rfl, _⟩ := h
      rfl
    · obtain ⟨e, p, i, pl, us, d, ks, rfl, he, he4, hi, ht, hus, hk, k⟩ := h
      have nd := sc_basis_poly.nd
      have r1 : Room 1 _ := hr.mono (show 1 ≤ 4 + n by omega)
      have r2 : Room 2 _ := hr.mono (show 2 ≤ 4 + n by omega)
      have r3 : Room 3 _ := hr.mono (show 3 ≤ 4 + n by omega)
      refine ⟨_, pss_cons (ps_if (pt_cmpR op_eq (pv 0) pe_int (nomark _)) (pss_one (ps_ret (pe_ifExp (pt_cmpR op_eq (pv 2) (pv 3) (nomark _)) (pe_tup (pa_cons (pe_glob (v := .ref (He.ga K "ONE")) (by rfl) T.oG rfl) pa_nil)) (pe_tup pa_nil)))) pss_nil)
        (pss_cons (ps_set (i := 4) nd rfl (Or.inl rfl) (pe_tup pa_nil))
        (pss_cons (ps_par (i := 5) (j := 6) (by rfl) nd rfl rfl (by decide) rfl rfl (pa_cons (pe_ix ix_tup (pv 1) (pv 2) (fun _ _ => rfl)) (pa_cons (pe_ix ix_tup (pv 1) (pe_op op_add (pv 2) (pv 0)) (fun _ _ => rfl)) pa_nil)) (by rfl))
        (C8.pss_cut (ps_if (pt_cmpR (op_neD hr.units) (pv 5) (pv 6) (nomark _))
          (pss_cons (ps_set (i := 7) nd rfl (Or.inl rfl) (pe_def Go r2 (pa_cons (pe_glob (v := .ref (He.ga K "ONE")) (by rfl) T.oG rfl) (pa_cons (pe_def Gl r2 (pa_cons (pv 6) (pa_cons (pv 5) pa_nil))) pa_nil))))
          (pss_one (ps_set (i := 4) nd rfl (Or.inl rfl) (pe_def Gpt r3 (pa_cons (pe_tup (pa_cons (pe_def Gt r2 (pa_cons (pe_def Gn r1 (pa_cons (pv 5) pa_nil)) (pa_cons (pv 7) pa_nil))) (pa_cons (pv 7) pa_nil)))
            (pa_cons (pe_def Gr hr (pa_cons (pe_op op_sub (pv 0) pe_int) (pa_cons (pv 1) (pa_cons (pv 2) (pa_cons (pv 3) pa_nil))))) pa_nil)))))) pss_nil)
        (pss_cons (ps_par (i := 5) (j := 6) (by rfl) nd rfl rfl (by decide) rfl rfl (pa_cons (pe_ix ix_tup (pv 1) (pe_op op_add (pv 2) pe_int) (fun _ _ => rfl)) (pa_cons (pe_ix ix_tup (pv 1) (pe_op op_add (pe_op op_add (pv 2) (pv 0)) pe_int) (fun _ _ => rfl)) pa_nil)) (by rfl))
        (pss_cons (ps_if (pt_cmpR (op_neD hr.units) (pv 5) (pv 6) (nomark _))
          (pss_cons (ps_set (i := 7) nd rfl (Or.inl rfl) (pe_def Go r2 (pa_cons (pe_glob (v := .ref (He.ga K "ONE")) (by rfl) T.oG rfl) (pa_cons (pe_def Gl r2 (pa_cons (pv 6) (pa_cons (pv 5) pa_nil))) pa_nil))))
          (pss_cons (ps_set (i := 8) nd rfl (Or.inl rfl) (pe_tup (pa_cons (pe_def Gt r2 (pa_cons (pv 6) (pa_cons (pv 7) pa_nil))) (pa_cons (pe_def Gn r1 (pa_cons (pv 7) pa_nil)) pa_nil))))
          (pss_one (ps_set (i := 4) nd rfl (Or.inl rfl) (pe_def Gpp r3 (pa_cons (pv 4) (pa_cons (pe_def Gpt r3 (pa_cons (pv 8)
            (pa_cons (pe_def Gr hr (pa_cons (pe_op op_sub (pv 0) pe_int) (pa_cons (pv 1) (pa_cons (pe_op op_add (pv 2) pe_int) (pa_cons (pv 3) pa_nil))))) pa_nil))) pa_nil))))))) pss_nil)
        (pss_one (ps_ret (pv 4)))))))), ?_⟩
      refine s_seq (s_if (yt_T (y_eqI (y_var (n := 0) (v := .int (e : Int)) rfl) y_c)) (fun hb H1 e1 => ?_) fun hb H1 e1 => ?_)
      · have c0 := of_decide_eq_true hb
        obtain rfl : e = 0 := by omega
        refine s_ret (P := isP K (bas ks 0 i pl)) (y_if (yt_T (y_eqI (y_var (n := 2) (v := .int (i : Int)) rfl) (y_var (n := 3) (v := .int (pl : Int)) rfl))) (fun hb => ?_) fun hb => ?_) fun v H2 e2 r => k v H2 (e1.trans e2) r
        · have c := of_decide_eq_true hb
          rw [bas_zero, if_pos (by omega)]
          exact y_tup1R (y_one T.oT)
        · have c := of_decide_eq_false hb
          rw [bas_zero, if_neg (by omega)]
          exact y_emptyP
      · have c0 := of_decide_eq_false hb
        obtain ⟨e', rfl⟩ : ∃ e', e = e' + 1 := ⟨e - 1, by omega⟩
        have yrec : ∀ {σ : L2.St} {H1 : Hp} {i2 : Nat} {z : Int}, Same H H1 → σ[0]? = some (some (.int ((e' + 1 : Nat) : Int))) → σ[1]? = some (some (.ref p)) → σ[3]? = some (some (.int (pl : Int))) → ∀ {ti : TE}, Ys ti σ H1 (isI z) → z = (i2 : Int) → i2 + e' + 1 < ks.length →
            Ys (tCall (sp_basis_poly K n) [] E0 (tCons (tOp (rI0 fun i j => .int (i - j)) (tVar 0) (tC (.int 1))) (tCons (tVar 1) (tCons ti (tCons (tVar 3) tNil))))) σ H1 (isP K (bas ks e' i2 pl)) := by
          intro σ H1 i2 z eH h0 h1 h3 ti hti hz hlt
          refine y_call4 (y_sub (y_var h0) (y_c (v := .int 1))) (y_var h1) hti (y_var h3) mono_V mono_V mono_V fun x y u v H2 e2 px py pu pv Q' q' => ?_
          have ee : ((e' + 1 : Nat) : Int) - 1 = (e' : Int) := by omega
          refine ⟨e', p, i2, pl, us, d, ks, ?_, by omega, by omega, hlt, Same.tup (eH.trans e2) ht, hus.mono (eH.trans e2), hk, fun v' H' e'' r => q' v' H' e'' r⟩
          rw [show x = _ from px, show y = _ from py, show u = _ from pu, show v = _ from pv, ee, hz]
        dsimp only
        refine s_seq (s_set (y_emptyP (K := K)) fun v1 H2 e2 pv1 => ?_)
        have e12 := e1.trans e2
        refine s_seq (s_par (y_itT (y_var (n := 1) (v := .ref p) rfl) (y_var (n := 2) (v := .int (i : Int)) rfl) (Same.tup e12 ht) (hus.mono e12) (i := i) (by omega) rfl)
          (y_itT (y_var (n := 1) (v := .ref p) rfl) (y_add (y_var (n := 2) (v := .int (i : Int)) rfl) (y_var (n := 0) (v := .int ((e' + 1 : Nat) : Int)) rfl)) (Same.tup e12 ht) (hus.mono e12) (i := i + (e' + 1)) (by omega) (by omega)) mono_R fun lo hi H3 e3 plo phi => ?_)
        have e13 := e12.trans e3
        dsimp only
        refine s_cut (fun σ' H' => ∃ v s5 s6 s7 s8, σ' = [some (.int ((e' + 1 : Nat) : Int)), some (.ref p), some (.int (i : Int)), some (.int (pl : Int)), some v, s5, s6, s7, s8] ∧ Same H H' ∧ isP K (if kn ks i = kn ks (i + (e' + 1)) then [] else pTimes (line1 (kn ks i) (kn ks (i + (e' + 1)))) (bas ks e' i pl)) v H') ?_ fun σ' H' hm => ?_
        · refine s_if (yt_T (y_neR (y_varP (n := 5) (v := lo) rfl mono_R plo) (y_varP (n := 6) (v := hi) rfl mono_R phi))) (fun hb H4 e4 => ?_) fun hb H4 e4 => ?_
          · have hne : ¬ kn ks i = kn ks (i + (e' + 1)) := by simpa using hb
            have hlt := lt_of_ne hk (by omega) (by omega) hne
            have e14 := e13.trans e4
            have pb := one_div_bd hk (i := i) (j := i + (e' + 1)) (by omega) (by omega) hlt
            have ps : Sm (1 / (kn ks (i + (e' + 1)) - kn ks i)) := pb.small dvd_LC (by decide +kernel)
            refine s_seq (s_set (y_over (y_one T.oT) (y_less (y_varP (n := 6) (v := hi) rfl mono_R (RatAt.mono phi e4)) (y_varP (n := 5) (v := lo) rfl mono_R (RatAt.mono plo e4)) (hk.sm _) (hk.sm _)) sm1 (hk.smd _ _) (by grind)) fun pt H5 e5 ppt => ?_)
            have e15 := e14.trans e5
            dsimp only
            refine s_set (y_ptimes (y_tup2R (y_times (y_negative (y_varP (n := 5) (v := lo) rfl mono_R (RatAt.mono plo (e4.trans e5)))) (y_varP (n := 7) (v := pt) rfl mono_R ppt) ((hk.bd i).neg.small dvd_12 (by decide +kernel)) ps) (y_varP (n := 7) (v := pt) rfl mono_R ppt))
              (yrec e15 rfl rfl rfl (y_var (n := 2) (v := .int (i : Int)) rfl) rfl (by omega)) (tok_line (e := e') (by omega) (line1_bd hk (by omega) (by omega) hlt) rfl (bas_bd hk e' i pl (by omega) (by omega)) (Nat.le_trans (bas_len _ _ _ _) (by omega)))) fun f H6 e6 pf => ?_
            exact ⟨f, _, _, _, _, rfl, e15.trans e6, by rw [if_neg hne]; exact pf⟩
          · have heq : kn ks i = kn ks (i + (e' + 1)) := by simpa using hb
            exact ⟨v1, _, _, _, _, rfl, e13.trans e4, by rw [if_pos heq]; exact mono_P _ _ _ pv1 (e3.trans e4)⟩
        · obtain ⟨v, s5, s6, s7, s8, rfl, eH, pf⟩ := hm
          obtain ⟨fb, fl⟩ := first_bd hk (pl := pl) he4 (by omega : i + (e' + 1) + 1 < ks.length)
          refine s_seq (s_par (y_itT (y_var (n := 1) (v := .ref p) rfl) (y_add (y_var (n := 2) (v := .int (i : Int)) rfl) y_c) (Same.tup eH ht) (hus.mono eH) (i := i + 1) (by omega) (by omega))
            (y_itT (y_var (n := 1) (v := .ref p) rfl) (y_add (y_add (y_var (n := 2) (v := .int (i : Int)) rfl) (y_var (n := 0) (v := .int ((e' + 1 : Nat) : Int)) rfl)) y_c) (Same.tup eH ht) (hus.mono eH) (i := i + (e' + 1) + 1) (by omega) (by omega)) mono_R fun lo2 hi2 H3 e3 plo phi => ?_)
          have e13 := eH.trans e3
          dsimp only
          refine s_seq (s_if (yt_T (y_neR (y_varP (n := 5) (v := lo2) rfl mono_R plo) (y_varP (n := 6) (v := hi2) rfl mono_R phi))) (fun hb H4 e4 => ?_) fun hb H4 e4 => ?_)
          · have hne : ¬ kn ks (i + 1) = kn ks (i + (e' + 1) + 1) := by simpa using hb
            have hlt := lt_of_ne hk (by omega) (by omega) hne
            have e14 := e13.trans e4
            have pb := one_div_bd hk (i := i + 1) (j := i + (e' + 1) + 1) (by omega) (by omega) hlt
            have ps : Sm (1 / (kn ks (i + (e' + 1) + 1) - kn ks (i + 1))) := pb.small dvd_LC (by decide +kernel)
            refine s_seq (s_set (y_over (y_one T.oT) (y_less (y_varP (n := 6) (v := hi2) rfl mono_R (RatAt.mono phi e4)) (y_varP (n := 5) (v := lo2) rfl mono_R (RatAt.mono plo e4)) (hk.sm _) (hk.sm _)) sm1 (hk.smd _ _) (by grind)) fun pt H5 e5 ppt => ?_)
            have e15 := e14.trans e5
            dsimp only
            refine s_seq (s_set (y_tup2R (y_times (y_varP (n := 6) (v := hi2) rfl mono_R (RatAt.mono phi (e4.trans e5))) (y_varP (n := 7) (v := pt) rfl mono_R ppt) (hk.sm _) ps) (y_negative (y_varP (n := 7) (v := pt) rfl mono_R ppt))) fun ln H6 e6 pln => ?_)
            have e16 := e15.trans e6
            obtain ⟨sb, sl⟩ := second_bd hk (pl := pl) he4 (by omega : i + (e' + 1) + 1 < ks.length) hne
            have cbe : 3600 * CB e' ≤ CAP := Nat.le_trans (Nat.mul_le_mul_right _ (by decide)) (CB_le (e := e') (by omega))
            have dm : MB (e' + 1) ∣ MC := dvd_MB1 (by omega)
            dsimp only
            refine s_set (y_pplus (y_varP (n := 4) (v := v) rfl mono_P (mono_P _ _ _ pf (e3.trans (e4.trans (e5.trans e6))))) (y_ptimes (y_varP (n := 8) (v := ln) rfl mono_P pln)
              (yrec e16 rfl rfl rfl (y_add (y_var (n := 2) (v := .int (i : Int)) rfl) (y_c (v := .int 1))) (i2 := i + 1) (by omega) (by omega)) (tok_line (e := e') (by omega) (line2_bd hk (by omega) (by omega) hlt) rfl (bas_bd hk e' (i + 1) pl (by omega) (by omega)) (Nat.le_trans (bas_len _ _ _ _) (by omega))))
              (fb.small dm cbe) (sb.small dm cbe) (Nat.lt_of_le_of_lt fl (by decide)) (Nat.lt_of_le_of_lt sl (by decide))) fun f2 H7 e7 pf2 => ?_
            refine s_ret (P := isP K (bas ks (e' + 1) i pl)) (y_varP (n := 4) (v := f2) rfl mono_P ?_) fun v' H8 e8 r => k v' H8 ((e16.trans e7).trans e8) r
            rw [bas_succ, if_neg hne]
            exact pf2
          · have heq : kn ks (i + 1) = kn ks (i + (e' + 1) + 1) := by simpa using hb
            refine s_ret (P := isP K (bas ks (e' + 1) i pl)) (y_varP (n := 4) (v := v) rfl mono_P ?_) fun v' H8 e8 r => k v' H8 ((e13.trans e4).trans e8) r
            rw [bas_succ, if_pos heq]
            exact mono_P _ _ _ pf (e3.trans e4)
end
end BC
namespace BC
open L2 PySem PySem.Spec PyProof.Rows
/-- a spline: degree, knots, numbers -/
def isS (K : PySem.W.Frag) (d : Nat) (ks rs : List Rat) : V → Hp → Prop := fun v H => ∃ p q r us ws, v = .ref p ∧ SqT K H p [.int (d : Int), .ref q, .ref r] ∧ SqT K H q us ∧ Rats K H us ks ∧ SqT K H r ws ∧ Rats K H ws rs
theorem mono_S {K : PySem.W.Frag} {d : Nat} {ks rs : List Rat} : Mono (isS K d ks rs) := fun _ _ _ ⟨p, q, r, us, ws, a, b, c, e, f, g⟩ s => ⟨p, q, r, us, ws, a, Same.tup s b, Same.tup s c, e.mono s, Same.tup s f, g.mono s⟩
structure SOk (d : Nat) (ks rs : List Rat) : Prop where
  k : KOk d ks
  len : rs.length = ks.length - d - 1
  bd : AllB 12 12 rs
section
variable {K : PySem.W.Frag} {H H' : Hp} {σ : L2.St} {ta tb te tl : TE} {D : Ends} {tu tw : TS}
/-- an item from the end -/
theorem y_itN {p : Addr} {vs : List V} {qs : List Rat} {z : Int} {i : Nat} (ha : Ys ta σ H (isV (.ref p))) (hb : Ys tb σ H (isI z)) (ht : SqT K H p vs) (hr : Rats K H vs qs) (hi : i < qs.length) (hz : z + (qs.length : Int) = (i : Int)) (h0 : z < 0) : Ys (tOp (rIxT K) ta tb) σ H (isR K (qs.getD i 0)) := by
  obtain ⟨v, h1, h2⟩ := Paired.at hr (getD_at hi)
  have lv := rats_len hr
  refine y_ixT ha hb ht (v := v) ?_ mono_R h2
  unfold atI ixN
  rw [if_neg (by omega), if_pos (by omega)]
  have e : (z + (vs.length : Int)).toNat = i := by omega
  rw [e]
  exact h1
theorem y_neL0 (ha : Ys ta σ H (isL K [])) (hb : Ys tb σ H (isL K [])) : Ys (tOp (rNeD K) ta tb) σ H (isB false) :=
  y_op ha hb mono_L fun x y H1 e px py Q q => by
    obtain ⟨p, vs, rfl, t1, r1⟩ := px
    obtain ⟨p', vs', rfl, t2, r2⟩ := py
    cases r1
    cases r2
    exact ⟨.list [], .list [], .lst (.of t1) .nil, .lst (.of t2) .nil, rfl, rfl, q _ _ (Same.refl _) rfl⟩
theorem y_faults {d : Nat} {p : Addr} {us : List V} {ks : List Rat} (ha : Ys ta σ H (isI (d : Int))) (hb : Ys tb σ H (isV (.ref p))) (ht : SqT K H p us) (hr : Rats K H us ks) (hk : KOk d ks) : Ys (tCall (sp_faults_of K) [] E0 (tCons ta (tCons tb tNil))) σ H (isL K []) :=
  y_call2 ha hb mono_V fun x y H1 e px py Q q => ⟨d, p, us, ks, by rw [show x = _ from px, show y = _ from py], Same.tup e ht, hr.mono e, hk, fun v H' e' r => q v H' e' r⟩
theorem y_areR {p : Addr} {us : List V} {qs : List Rat} {n : Int} (ha : Ys ta σ H (isV (.ref p))) (hb : Ys tb σ H (isI n)) (ht : SqT K H p us) (hr : Rats K H us qs) (hn : (qs.length : Int) = n) (h1 : n < 1000) : Ys (tCall (sp_are_ratios K) [] E0 (tCons ta (tCons tb tNil))) σ H (isB true) :=
  y_call2 ha hb mono_V fun x y H1 e px py Q q => ⟨p, us, qs, n, by rw [show x = _ from px, show y = _ from py], Same.tup e ht, hr.mono e, hn, h1, fun H' e' => q _ H' e' rfl⟩
/-- a, b, c = t -/
theorem s_unpack3 {i j l : Nat} {p : Addr} {a b c : V} (h : Ys te σ H (isV (.ref p))) (ht : SqT K H p [a, b, c]) (k : ∀ H1, Same H H1 → D.nx (((σ.set i (some a)).set j (some b)).set l (some c)) H1) : tAsg te (gTup K 3 (gCons (gName i) (gCons (gName j) (gCons (gName l) gNil)))) D σ H :=
  h H (Same.refl _) _ fun v H1 e p1 => ⟨p, [a, b, c], p1, Same.tup e ht, rfl, a, [b, c], rfl, b, [c], rfl, c, [], rfl, rfl, k H1 e⟩
end
def sp_need_spline (K : PySem.W.Frag) : Sp := fun vs H Q _ => ∃ v d ks rs, vs = [v] ∧ isS K d ks rs v H ∧ SOk d ks rs ∧ ∀ H', Same H H' → Q .non H'
def sp_span_of (K : PySem.W.Frag) : Sp := fun vs H Q _ => ∃ (p : Addr) (us : List V) (ks : List Rat) (v : V) (x : Rat), vs = [.ref p, v] ∧ SqT K H p us ∧ Rats K H us ks ∧ RatAt K H v x ∧ 0 < ks.length ∧ ks.length < 1000 ∧ (∀ i, Sm (kn ks i)) ∧ Sm x ∧ ∀ H', Same H H' → Q (.int (spanOf ks x : Nat)) H'
theorem sc_need_spline : FnScope ["value", "degree", "knots", "row"] ["value"] (defScope s_need_spline) := ⟨rfl, rfl, rfl, by decide +kernel, rfl, by decide +kernel, by decide +kernel⟩
theorem sc_span_of : FnScope ["knots", "x", "found", "place"] ["knots", "x"] (defScope s_span_of) := ⟨rfl, rfl, rfl, by decide +kernel, rfl, by decide +kernel, by decide +kernel⟩
section
variable {K : PySem.W.Frag} {mg : Str → Option Value} {P : Program} {w : World} {base : Heap}
theorem ok_need_spline (T : TX K mg) : Def P w K mg base 4 "need_spline" ["value"] (sp_need_spline K) := by
  have Gf : Def P w K mg base 2 "is_from" ["value", "least", "most"] sp_is_from := ok_is_from T
  have Gfa : Def P w K mg base 3 "faults_of" ["degree", "value"] (sp_faults_of K) := ok_faults_of T
  have Ga : Def P w K mg base 3 "are_ratios" ["value", "many"] (sp_are_ratios K) := ok_are_ratios T
  refine T.need_spline.def_ sc_need_spline (fun _ _ _ _ _ _ us hl => match us, hl with | [_], _ => rfl) (fun vs H Q E h => ?_) (fun cdv A outer s H vs Q E hr h => ?_)
  · obtain ⟨v, d, ks, rs, rfl, _⟩ := h
    rfl
  · obtain ⟨v, d, ks, rs, rfl, ⟨p, q, r, us, ws, rfl, hp, hq, hus, hr2, hws⟩, ok, k⟩ := h
    obtain ⟨tk, htk⟩ := T.mdeg
    have nd := sc_need_spline.nd
    have lv := rats_len hus
    have hk := ok.k
    have hl1 := hk.len
    have hl2 := hk.len16
    have hd4 := hk.d4
    have r2 : Room 2 _ := hr.mono (by decide)
    refine ⟨_, pss_cons (ps_if (PW.pt (pw_or (pt_not (pt_val (pe_callB call_isi (by rfl) T.b_isinstance (by decide +kernel) (pa_cons (pv 0) (pa_cons (pe_bltn (v := .ty "tuple") (by rfl) T.b_tuple (by decide +kernel) rfl) pa_nil)))))
        (pw_or1 (pt_cmpR op_ne (pe_callB call_len_seq (by rfl) T.b_len (by decide +kernel) (pa_cons (pv 0) pa_nil)) pe_int (nomark _))))) pss_never pss_nil)
      (pss_cons (ps_asg (pv 0) (pg_tup (by rfl) (pgs_cons (pg_name (i := 1) nd rfl (Or.inl rfl)) (pgs_cons (pg_name (i := 2) nd rfl (Or.inl rfl)) (pgs_cons (pg_name (i := 3) nd rfl (Or.inl rfl)) pgs_nil)))))
      (pss_cons (ps_if (pt_not (pt_val (pe_def Gf r2 (pa_cons (pv 1) (pa_cons pe_int (pa_cons (pe_glob (v := .int 4) (by rfl) htk ⟨_, rfl⟩) pa_nil)))))) pss_never pss_nil)
      (pss_cons (ps_if (PW.pt (pw_or (pt_cmpR (op_neD hr.units) (pe_def Gfa hr (pa_cons (pv 1) (pa_cons (pv 2) pa_nil))) (pe_lst pa_nil) (nomark _)) (pw_or1 (pt_cmpR op_lt (pe_callB call_len_seq (by rfl) T.b_len (by decide +kernel) (pa_cons (pv 2) pa_nil)) (pe_op op_add (pe_op op_mulW pe_int (pv 1)) pe_int) (nomark _))))) pss_never pss_nil)
      (pss_cons (ps_if (PW.pt (pw_or (pt_cmpR (op_neD hr.units) (pe_ix ix_tup (pv 2) pe_int (fun _ _ => rfl)) (pe_ix ix_tup (pv 2) (pv 1) (fun _ _ => rfl)) (nomark _)) (pw_or1 (pt_cmpR (op_neD hr.units) (pe_ix ix_tup (pv 2) (pe_un un_neg pe_int) (fun _ _ => rfl)) (pe_ix ix_tup (pv 2) (pe_op op_sub (pe_un un_neg (pv 1)) pe_int) (fun _ _ => rfl)) (nomark _))))) pss_never pss_nil)
      (pss_one (ps_if (pt_not (pt_val (pe_def Ga hr (pa_cons (pv 3) (pa_cons (pe_op op_sub (pe_op op_sub (pe_callB call_len_seq (by rfl) T.b_len (by decide +kernel) (pa_cons (pv 2) pa_nil)) (pv 1)) pe_int) pa_nil))))) pss_never pss_nil)))))), ?_⟩
    refine s_seq (s_no (yt_or (yt_not (yt_B (y_isi (y_var (v := .ref p) rfl) (fun v H1 e r => by rw [show v = _ from r]; exact sqT_ty (Same.tup e hp)) kit_tt))) fun _ => yt_T (y_neI (y_lenT (y_var (v := .ref p) rfl) hp (n := 3) rfl) y_c)) (by rfl) fun H1 e1 => ?_)
    dsimp only
    refine s_seq (s_unpack3 (y_var (n := 0) (v := .ref p) rfl) (Same.tup e1 hp) fun H2 e2 => ?_)
    have e12 := e1.trans e2
    dsimp only
    refine s_seq (s_no (b := !(decide ((0 : Int) ≤ (d : Int)) && decide ((d : Int) ≤ 4))) (yt_not (yt_B (y_isFrom (y_var (n := 1) (v := .int (d : Int)) rfl) y_c y_c))) ?_ fun H3 e3 => ?_)
    · rw [decide_eq_true (by omega), decide_eq_true (by omega)]
      rfl
    have e13 := e12.trans e3
    have cm : CMulW 2 (d : Int) := wide_mul (a := 64) (b := 64) (by decide) (by omega) (by decide) (by decide) (by decide)
    dsimp only
    refine s_seq (s_no (b := false || decide ((us.length : Int) < 2 * (d : Int) + 2)) (yt_or (yt_T (y_neL0 (y_faults (y_var (n := 1) (v := .int (d : Int)) rfl) (y_var (n := 2) (v := .ref q) rfl) (Same.tup e13 hq) (hus.mono e13) hk) y_emptyL)) fun _ => yt_T (y_lt (y_lenT (y_var (n := 2) (v := .ref q) rfl) (Same.tup e13 hq) rfl) (y_add (y_mulW y_c (y_var (n := 1) (v := .int (d : Int)) rfl) cm) y_c))) ?_ fun H4 e4 => ?_)
    · rw [decide_eq_false (by omega)]
      rfl
    have e14 := e13.trans e4
    dsimp only
    refine s_seq (s_no (b := !decide (kn ks 0 = kn ks d) || !decide (kn ks (ks.length - 1) = kn ks (ks.length - d - 1))) (yt_or (yt_T (y_neR (y_itT (y_var (n := 2) (v := .ref q) rfl) y_c (Same.tup e14 hq) (hus.mono e14) (i := 0) (by omega) rfl) (y_itT (y_var (n := 2) (v := .ref q) rfl) (y_var (n := 1) (v := .int (d : Int)) rfl) (Same.tup e14 hq) (hus.mono e14) (i := d) (by omega) rfl))) fun _ =>
      yt_T (y_neR (y_itN (y_var (n := 2) (v := .ref q) rfl) (y_neg y_c) (Same.tup e14 hq) (hus.mono e14) (i := ks.length - 1) (by omega) (by omega) (by decide)) (y_itN (y_var (n := 2) (v := .ref q) rfl) (y_sub (y_neg (y_var (n := 1) (v := .int (d : Int)) rfl)) y_c) (Same.tup e14 hq) (hus.mono e14) (i := ks.length - d - 1) (by omega) (by omega) (by omega)))) ?_ fun H5 e5 => ?_)
    · have a1 := hk.lo d (Nat.le_refl _)
      have a2 := hk.hi (ks.length - d - 1) (by omega) (by omega)
      rw [decide_eq_true a1.symm, decide_eq_true a2.symm]
      rfl
    have e15 := e14.trans e5
    have hlen := ok.len
    dsimp only
    exact s_no (b := !true) (yt_not (yt_B (y_areR (y_var (n := 3) (v := .ref r) rfl) (y_sub (y_sub (y_lenT (y_var (n := 2) (v := .ref q) rfl) (Same.tup e15 hq) rfl) (y_var (n := 1) (v := .int (d : Int)) rfl)) (y_c (v := .int 1))) (Same.tup e15 hr2) (hws.mono e15) (by omega) (by omega)))) rfl fun H6 e6 => k H6 (e15.trans e6)
theorem ok_span_of (T : TX K mg) : Def P w K mg base 2 "span_of" ["knots", "x"] (sp_span_of K) := by
  have Gb : Def P w K mg base 1 "is_below" ["one", "other"] (sp_is_below K) := ok_is_below T
  refine T.span_of.def_ sc_span_of (fun _ _ _ _ _ _ us hl => match us, hl with | [_, _], _ => rfl) (fun vs H Q E h => ?_) (fun cdv A outer s H vs Q E hr h => ?_)
  · obtain ⟨p, us, ks, v, x, rfl, _⟩ := h
    rfl
  · obtain ⟨p, us, ks, v, x, rfl, ht, hus, hx, hl1, hl2, sk, sx, k⟩ := h
    have nd := sc_span_of.nd
    have lv := rats_len hus
    refine ⟨_, pss_cons (ps_set (i := 2) nd rfl (Or.inl rfl) pe_int)
      (pss_cons (ps_for PassesOwn.never rfl (pi_range1 (by rfl) T.b_range (pa_cons (pe_op op_sub (pe_callB call_len_seq (by rfl) T.b_len (by decide +kernel) (pa_cons (pv 0) pa_nil)) pe_int) pa_nil)) (pg_name (i := 3) nd rfl (Or.inl rfl))
        (pss_one (ps_if (PW.pt (pw_and (pt_cmpR (op_neD hr.units) (pe_ix ix_tup (pv 0) (pv 3) (fun _ _ => rfl)) (pe_ix ix_tup (pv 0) (pe_op op_add (pv 3) pe_int) (fun _ _ => rfl)) (nomark _)) (pw_and1 (pt_not (pt_val (pe_def Gb hr (pa_cons (pv 1) (pa_cons (pe_ix ix_tup (pv 0) (pv 3) (fun _ _ => rfl)) pa_nil))))))))
          (pss_one (ps_set (i := 2) nd rfl (Or.inl rfl) (pv 3))) pss_nil)))
      (pss_one (ps_ret (pv 2)))), ?_⟩
    refine s_seq (s_set (y_c (v := .int 0)) fun v0 H1 e1 p0 => ?_)
    rw [show v0 = _ from p0]
    refine s_seq (s_forR (n := (us.length : Int) - 1) (a_1 (y_sub (y_lenT (y_var (n := 0) (v := .ref p) rfl) (Same.tup e1 ht) rfl) (y_c (v := .int 1)))) (by omega) (fun i σ' H' => ∃ s3, σ' = [some (.ref p), some v, some (.int ((spans ks x i).getLastD 0 : Nat)), s3] ∧ Same H H') (fun H2 e2 => ⟨none, rfl, e1.trans e2⟩) (fun i σ' H' hi p' => ?_) fun σ' H' p' => ?_)
    · obtain ⟨s3, rfl, e⟩ := p'
      dsimp only
      refine s_if (b := spB ks x i) (yt_and (yt_T (y_neR (y_itT (y_var (n := 0) (v := .ref p) rfl) (y_var (n := 3) (v := .int (i : Int)) rfl) (Same.tup e ht) (hus.mono e) (i := i) (by omega) rfl) (y_itT (y_var (n := 0) (v := .ref p) rfl) (y_add (y_var (n := 3) (v := .int (i : Int)) rfl) y_c) (Same.tup e ht) (hus.mono e) (i := i + 1) (by omega) (by omega)))) fun _ =>
        yt_not (yt_B (y_below (y_varP (n := 1) (v := v) rfl mono_R (hx.mono e)) (y_itT (y_var (n := 0) (v := .ref p) rfl) (y_var (n := 3) (v := .int (i : Int)) rfl) (Same.tup e ht) (hus.mono e) (i := i) (by omega) rfl) sx (sk i)))) (fun hb H3 e3 => ?_) fun hb H3 e3 => ?_
      · refine s_set (y_var (n := 3) (v := .int (i : Int)) rfl) fun u H4 e4 pu => ⟨some (.int (i : Int)), ?_, (e.trans e3).trans e4⟩
        rw [show u = _ from pu, spans_last, if_pos hb]
        rfl
      · refine ⟨some (.int (i : Int)), ?_, e.trans e3⟩
        rw [spans_last, if_neg (by rw [hb]; decide)]
        rfl
    · obtain ⟨s3, rfl, e⟩ := p'
      have en : (((us.length : Int) - 1).toNat) = ks.length - 1 := by omega
      rw [en]
      dsimp only
      refine s_ret (y_var (n := 2) (v := .int (spanOf ks x : Nat)) rfl) fun u H4 e4 pu => ?_
      rw [show u = _ from pu]
      exact k H4 (e.trans e4)
end
end BC
namespace BC
open L2 PySem PySem.Spec PyProof.Rows
theorem cut_mid (xs : List V) {a b : Nat} (h1 : a ≤ b) (h2 : b ≤ xs.length) : cutV xs (some (a : Int)) (some (b : Int)) = (xs.drop a).take (b - a) := by
  unfold cutV
  rw [HT.sIx_nat, HT.sIx_nat, Nat.min_eq_left h2, Nat.min_eq_left (Nat.le_trans h1 h2)]
section
variable {K : PySem.W.Frag} {H H' : Hp} {σ : L2.St} {ta tb te tl : TE} {D : Ends} {tu tw : TS}
/-- t[a:b] of a tuple, whole or not -/
theorem y_sliceT {p : Addr} {us : List V} {qs : List Rat} {za zb : Int} {a b : Nat} (h : Ys te σ H (isV (.ref p))) (ha : Ys ta σ H (isI za)) (hb : Ys tb σ H (isI zb)) (ht : SqT K H p us) (hr : Rats K H us qs) (ea : za = (a : Int)) (eb : zb = (b : Int)) (h1 : a ≤ b) (h2 : b ≤ qs.length) :
    Ys (tSl (rSlA K) te (tPart ta) (tPart tb)) σ H (isP K ((qs.drop a).take (b - a))) := fun H1 e Q q => h H1 e _ fun v H2 e2 pv => ha H2 (e.trans e2) _ fun x H3 e3 px => ⟨za, px, hb H3 ((e.trans e2).trans e3) _ fun y H4 e4 py => by
  subst ea eb
  have e24 := (e2.trans e3).trans e4
  have e14 := e.trans e24
  have lv := rats_len hr
  have hc := cut_mid us h1 (by omega)
  have hP : Rats K H4 ((us.drop a).take (b - a)) ((qs.drop a).take (b - a)) := paired_take _ (paired_drop _ (hr.mono e14))
  refine ⟨(b : Int), py, p, us, pv, Same.tup e14 ht, fun hw => q _ _ e24 ⟨p, us, rfl, Same.tup e14 ht, ?_⟩, fun hw l hl => q _ _ (e24.trans (Same.new hl)) ⟨l, _, rfl, .of upd_same, ?_⟩⟩
  · rw [HT.sIx_nat, HT.sIx_nat] at hw
    have ea : a = 0 := by omega
    have eb : b = qs.length := by omega
    subst ea eb
    have e0 : (qs.drop 0).take (qs.length - 0) = qs := by simp
    rw [e0]
    exact hr.mono e14
  · rw [hc]
    exact hP.mono (Same.new hl)⟩
theorem y_emptyN : Ys (tLst tNil) σ H (newL K H []) := fun H1 e Q q => ⟨Nat.zero_le _, fun p hp => q _ _ (Same.new hp) ⟨p, [], rfl, e.free hp, upd_same, .nil⟩⟩
/-- list(t) -/
theorem y_listP {qs : List Rat} (ha : Ys ta σ H (isP K qs)) : Ys (tCB (fun xs H Q => ∃ p ys, xs = [V.ref p] ∧ (SqL K H p ys ∨ SqT K H p ys) ∧ ∀ l, H l = none → Q (.ref l) (upd H l (.lst ys))) (tCons ta tNil)) σ H (isL K qs) :=
  y_cb1 ha fun x H1 e px Q q => by
    obtain ⟨p, vs, rfl, ht, hr⟩ := px
    exact ⟨p, vs, rfl, .inr ht, fun l hl => q _ _ (Same.new hl) ⟨l, vs, rfl, upd_same, hr.mono (Same.new hl)⟩⟩
theorem y_spanOf {p : Addr} {us : List V} {ks : List Rat} {x : Rat} (ha : Ys ta σ H (isV (.ref p))) (hb : Ys tb σ H (isR K x)) (ht : SqT K H p us) (hr : Rats K H us ks) (h0 : 0 < ks.length) (h1 : ks.length < 1000) (sk : ∀ i, Sm (kn ks i)) (sx : Sm x) : Ys (tCall (sp_span_of K) [] E0 (tCons ta (tCons tb tNil))) σ H (isI (spanOf ks x : Nat)) :=
  y_call2 ha hb mono_V fun v u H1 e pv pu Q q => ⟨p, us, ks, u, x, by rw [show v = _ from pv], Same.tup e ht, hr.mono e, pu, h0, h1, sk, sx, fun H' e' => q _ H' e' rfl⟩
end
def sp_spline_at (K : PySem.W.Frag) : Sp := fun vs H Q _ => ∃ v d ks rs u x, vs = [v, u] ∧ isS K d ks rs v H ∧ SOk d ks rs ∧ RatAt K H u x ∧ Bd 144 30 x ∧ Within ks x ∧ ∀ z H', Same H H' → RatAt K H' z (dbV ks rs d x) → Q z H'
abbrev nAt : List Str := ["spline", "x", "degree", "knots", "row", "span", "told", "turn", "later", "at", "first", "low", "high"]
theorem sc_spline_at : FnScope nAt ["spline", "x"] (defScope s_spline_at) := ⟨rfl, rfl, rfl, by decide +kernel, rfl, by decide +kernel, by decide +kernel⟩
theorem dvd_144LC : 144 * LC ∣ MC := by
  have z := dvd_DB (t := 1) (by omega)
  unfold DB at z
  rw [Nat.pow_one] at z
  exact Nat.dvd_trans (Nat.dvd_mul_left _ _) z
theorem DB_succ (t : Nat) : 144 * LC * DB t = DB (t + 1) := by
  unfold DB
  rw [Nat.pow_succ, Nat.mul_left_comm, Nat.mul_comm (144 * LC)]
section
variable {K : PySem.W.Frag} {mg : Str → Option Value} {P : Program} {w : World} {base : Heap}
theorem ok_spline_at (T : TX K mg) : Def P w K mg base 4 "spline_at" ["spline", "x"] (sp_spline_at K) := by
  have Gs : Def P w K mg base 2 "span_of" ["knots", "x"] (sp_span_of K) := ok_span_of T
  have Gb : Def P w K mg base 3 "between" ["one", "other", "part"] (sp_between K) := ok_between T
  have Go : Def P w K mg base 2 "over" ["one", "other"] (sp_over K) := ok_over T
  have Gl : Def P w K mg base 2 "less" ["one", "other"] (sp_less K) := ok_less T
  refine T.spline_at.def_ sc_spline_at (fun _ _ _ _ _ _ us hl => match us, hl with | [_, _], _ => rfl) (fun vs H Q E h => ?_) (fun cdv A outer s H vs Q E hr h => ?_)
  · obtain ⟨v, d, ks, rs, u, x, rfl, _⟩ := h
    rfl
  · obtain ⟨v, d, ks, rs, u, x, rfl, ⟨p, q, r, us, ws, rfl, hp, hq, hus, hr2, hws⟩, ok, hx, xb, wi, k⟩ := h
    have nd := sc_spline_at.nd
    have lv := rats_len hus
    have lw := rats_len hws
    have hk := ok.k
    have hl1 := hk.len
    have hl2 := hk.len16
    have hd4 := hk.d4
    have hlen := ok.len
    have r2 : Room 2 _ := hr.mono (by decide)
    have sx : Sm x := xb.small (Nat.dvd_trans (Nat.dvd_mul_right 144 LC) dvd_144LC) (by decide +kernel)
    obtain ⟨so, _, _⟩ := span_ok hk wi
    have sge := so.ge
    have slt := so.lt
    refine ⟨_, pss_cons (ps_asg (pv 0) (pg_tup (by rfl) (pgs_cons (pg_name (i := 2) nd rfl (Or.inl rfl)) (pgs_cons (pg_name (i := 3) nd rfl (Or.inl rfl)) (pgs_cons (pg_name (i := 4) nd rfl (Or.inl rfl)) pgs_nil)))))
      (pss_cons (ps_set (i := 5) nd rfl (Or.inl rfl) (pe_def Gs r2 (pa_cons (pv 3) (pa_cons (pv 1) pa_nil))))
      (pss_cons (ps_set (i := 6) nd rfl (Or.inl rfl) (pe_callTy call_list_of (by rfl) T.b_list (by decide +kernel) (pa_cons (pe_slice sl_tupA (pv 4) (po_some (pe_op op_sub (pv 5) (pv 2))) (po_some (pe_op op_add (pv 5) pe_int))) pa_nil)))
      (pss_cons (ps_for PassesOwn.never rfl (pi_range2 (by rfl) T.b_range (pa_cons pe_int (pa_cons (pe_op op_add (pv 2) pe_int) pa_nil))) (pg_name (i := 7) nd rfl (Or.inl rfl))
        (pss_cons (ps_set (i := 8) nd rfl (Or.inl rfl) (pe_lst pa_nil))
        (pss_cons (ps_for PassesOwn.never rfl (pi_range2 (by rfl) T.b_range (pa_cons pe_int (pa_cons (pe_callB call_len_seq (by rfl) T.b_len (by decide +kernel) (pa_cons (pv 6) pa_nil)) pa_nil))) (pg_name (i := 9) nd rfl (Or.inl rfl))
          (pss_cons (ps_set (i := 10) nd rfl (Or.inl rfl) (pe_op op_sub (pe_op op_add (pe_op op_add (pe_op op_sub (pv 5) (pv 2)) (pv 7)) (pv 9)) pe_int))
          (pss_cons (ps_par (i := 11) (j := 12) (by rfl) nd rfl rfl (by decide) rfl rfl (pa_cons (pe_ix ix_tup (pv 3) (pv 10) (fun _ _ => rfl)) (pa_cons (pe_ix ix_tup (pv 3) (pe_op op_add (pe_op op_sub (pe_op op_add (pv 10) (pv 2)) (pv 7)) pe_int) (fun _ _ => rfl)) pa_nil)) (by rfl))
          (pss_one (ps_expr (pe_bm PySem.F.plainAttrs_list PySem.F.slot_list_append PySem.F.type_list_append mt_append (pv 8) (pa_cons (pe_def Gb hr (pa_cons (pe_ix ix_list (pv 6) (pe_op op_sub (pv 9) pe_int) (fun _ _ => rfl)) (pa_cons (pe_ix ix_list (pv 6) (pv 9) (fun _ _ => rfl))
            (pa_cons (pe_def Go r2 (pa_cons (pe_def Gl r2 (pa_cons (pv 1) (pa_cons (pv 11) pa_nil))) (pa_cons (pe_def Gl r2 (pa_cons (pv 12) (pa_cons (pv 11) pa_nil))) pa_nil))) pa_nil)))) pa_nil)))))))
        (pss_one (ps_set (i := 6) nd rfl (Or.inl rfl) (pv 8))))))
      (pss_one (ps_ret (pe_ix ix_list (pv 6) pe_int (fun _ _ => rfl))))))), ?_⟩
    refine s_seq (s_unpack3 (y_var (n := 0) (v := .ref p) rfl) hp fun H1 e1 => ?_)
    dsimp only
    refine s_seq (s_set (y_spanOf (y_var (n := 3) (v := .ref q) rfl) (y_varP (n := 1) (v := u) rfl mono_R (hx.mono e1)) (Same.tup e1 hq) (hus.mono e1) (by omega) (by omega) hk.sm sx) fun v2 H2 e2 p2 => ?_)
    have e12 := e1.trans e2
    rw [show v2 = _ from p2]
    generalize hs : spanOf ks x = sp at *
    dsimp only
    have esub : (sp : Int) - (d : Int) = ((sp - d : Nat) : Int) := by omega
    refine s_seq (s_set (y_listP (y_sliceT (y_var (n := 4) (v := .ref r) rfl) (y_sub (y_var (n := 5) (v := .int (sp : Int)) rfl) (y_var (n := 2) (v := .int (d : Int)) rfl)) (y_add (y_var (n := 5) (v := .int (sp : Int)) rfl) y_c) (Same.tup e12 hr2) (hws.mono e12) (a := sp - d) (b := sp + 1) esub rfl (by omega) (by omega))) fun v3 H3 e3 p3 => ?_)
    have e13 := e12.trans e3
    have etk : sp + 1 - (sp - d) = d + 1 := by omega
    rw [etk] at p3
    generalize ht0 : (rs.drop (sp - d)).take (d + 1) = told at *
    have tlen : told.length = d + 1 := by
      rw [← ht0]
      exact near_len so hlen
    have tbd : AllB 12 12 told := fun c hc => by
      rw [← ht0] at hc
      exact ok.bd c (List.mem_of_mem_drop (List.mem_of_mem_take hc))
    dsimp only
    refine s_seq (s_forR2 (lo := 1) (hi := (d : Int) + 1) (a_2 (y_c (v := .int 1)) (y_add (y_var (n := 2) (v := .int (d : Int)) rfl) (y_c (v := .int 1)))) (by omega)
      (fun t σ' H' => t ≤ d ∧ ∃ v6 s7 s8 s9 s10 s11 s12, σ' = [some (.ref p), some u, some (.int (d : Int)), some (.ref q), some (.ref r), some (.int (sp : Int)), some v6, s7, s8, s9, s10, s11, s12] ∧ Same H H' ∧ isL K (db ks x d sp told t) v6 H')
      (fun H4 e4 => ⟨Nat.zero_le _, v3, none, none, none, none, none, none, rfl, e13.trans e4, mono_L _ _ _ p3 e4⟩) (fun t σ' H' hti p' => ?_) fun σ' H' p' => ?_)
    · obtain ⟨ht, v6, s7, s8, s9, s10, s11, s12, rfl, eH, pl⟩ := p'
      have ht2 : t + 1 ≤ d := by omega
      dsimp only
      refine s_seq (s_set (y_emptyN (K := K)) fun v8 H4 e4 p8 => ?_)
      obtain ⟨l, vs6, rfl, hl, hv6⟩ := pl
      obtain ⟨l2, ys0, rfl, f2, hl2', hy0⟩ := p8
      have lv6 := rats_len hv6
      have dl := db_len ks x d sp told t
      have dbd := db_bd hk xb so tlen tbd t ht
      generalize hdb : db ks x d sp told t = row at *
      have dvt : DB t ∣ MC := dvd_DB (by omega)
      dsimp only
      refine s_seq (s_forR2 (lo := 1) (hi := (vs6.length : Int)) (a_2 (y_c (v := .int 1)) (y_lenL (y_var (n := 6) (v := .ref l) rfl) (.of (e4 _ _ hl)) rfl)) (by omega)
        (fun m σ' H'' => ∃ s9 s10 s11 s12 ys, σ' = [some (.ref p), some u, some (.int (d : Int)), some (.ref q), some (.ref r), some (.int (sp : Int)), some (.ref l), some (.int (1 + (t : Int))), some (.ref l2), s9, s10, s11, s12] ∧ Same H' H'' ∧ H'' l2 = some (.lst ys) ∧ Rats K H'' ys (dbR ks x d sp (t + 1) row m))
        (fun H5 e5 => ⟨_, _, _, _, ys0, rfl, e4.trans e5, e5 _ _ hl2', hy0.mono e5⟩) (fun m σ' H'' hm p' => ?_) fun σ' H'' p' => ?_)
      · obtain ⟨s9, s10, s11, s12, ys, rfl, eH2, hl2, hys⟩ := p'
        have hm2 : m ≤ d - (t + 1) := by omega
        obtain ⟨wlt, w0, w1, wl⟩ := wt_ok hk so (turn := t + 1) (m := m) (by omega) ht2 hm2
        have wb := wt_bd hk xb so (turn := t + 1) (m := m) (by omega) ht2 hm2
        have eH3 := eH.trans eH2
        dsimp only
        refine s_seq (s_set (y_toI (y_sub (y_add (y_add (y_sub (y_var (n := 5) (v := .int (sp : Int)) rfl) (y_var (n := 2) (v := .int (d : Int)) rfl)) (y_var (n := 7) (v := .int (1 + (t : Int))) rfl)) (y_var (n := 9) (v := .int (1 + (m : Int))) rfl)) y_c) (show (sp : Int) - (d : Int) + (1 + (t : Int)) + (1 + (m : Int)) - 1 = ((sp - d + (t + 1) + m : Nat) : Int) by omega)) fun vf H5 e5 pf => ?_)
        rw [show vf = _ from pf]
        have eH5 := eH3.trans e5
        generalize hf : sp - d + (t + 1) + m = f at *
        dsimp only
        refine s_seq (s_par (y_itT (y_var (n := 3) (v := .ref q) rfl) (y_var (n := 10) (v := .int (f : Int)) rfl) (Same.tup eH5 hq) (hus.mono eH5) (i := f) (by omega) rfl)
          (y_itT (y_var (n := 3) (v := .ref q) rfl) (y_add (y_sub (y_add (y_var (n := 10) (v := .int (f : Int)) rfl) (y_var (n := 2) (v := .int (d : Int)) rfl)) (y_var (n := 7) (v := .int (1 + (t : Int))) rfl)) y_c) (Same.tup eH5 hq) (hus.mono eH5) (i := f + (d - (t + 1)) + 1) wl (by omega)) mono_R fun lo hi H6 e6 plo phi => ?_)
        have eH6 := eH5.trans e6
        have e26 := eH2.trans (e5.trans e6)
        have hl2'' : H6 l2 = some (.lst ys) := (e5.trans e6) _ _ hl2
        have ly := rats_len hys
        rw [dbR_len] at ly
        have wS : Sm (wt ks x d sp (t + 1) m) := wb.small dvd_144LC (by decide +kernel)
        have tS := dbd.small dvt (by decide +kernel)
        have ab := (dbd.getD (m + 1)).sub (dbd.getD m)
        have aS : Sm (row.getD (m + 1) 0 - row.getD m 0) := ab.small dvt (by decide +kernel)
        have pS : Sm (wt ks x d sp (t + 1) m * (row.getD (m + 1) 0 - row.getD m 0)) := (wb.mul ab).small (by rw [DB_succ]; exact dvd_DB (by omega)) (by decide +kernel)
        have ew : wt ks x d sp (t + 1) m = (x - kn ks f) / (kn ks (f + (d - (t + 1)) + 1) - kn ks f) := by
          unfold wt
          rw [hf]
        have xs1 : Sm (x - kn ks f) := (xb.sub ((hk.bd f).wide (by decide : 12 ∣ 144))).small (Nat.dvd_trans (Nat.dvd_mul_right 144 LC) dvd_144LC) (by decide +kernel)
        dsimp only
        refine s_app (P := isR K (btw (row.getD m 0) (row.getD (m + 1) 0) (wt ks x d sp (t + 1) m))) (y_var (n := 8) (v := .ref l2) rfl) hl2'' (y_between
          (y_itL (y_var (n := 6) (v := .ref l) rfl) (y_sub (y_var (n := 9) (v := .int (1 + (m : Int))) rfl) y_c) (.of (e26 _ _ hl)) (hv6.mono e26) (i := m) (by omega) (by omega))
          (y_itL (y_var (n := 6) (v := .ref l) rfl) (y_var (n := 9) (v := .int (1 + (m : Int))) rfl) (.of (e26 _ _ hl)) (hv6.mono e26) (i := m + 1) (by omega) (by omega))
          (Ys.isR_eq (y_over (y_less (y_varP (n := 1) (v := u) rfl mono_R (hx.mono eH6)) (y_varP (n := 11) (v := lo) rfl mono_R plo) sx (hk.sm f)) (y_less (y_varP (n := 12) (v := hi) rfl mono_R phi) (y_varP (n := 11) (v := lo) rfl mono_R plo) (hk.sm _) (hk.sm f)) xs1 (hk.smd _ _) (by grind)) ew.symm)
          ⟨tS.getD m, tS.getD (m + 1)⟩ ⟨wS, aS⟩ pS) (Nat.lt_of_lt_of_le (by omega : ys.length < 1000) (by decide)) fun z H7 e7 pz hl7 => ?_
        refine ⟨some (.int (1 + (m : Int))), _, _, _, _, rfl, Same.mut (e26.trans e7) f2, upd_same, ?_⟩
        unfold dbR
        exact paired_app ((hys.mono ((e5.trans e6).trans e7)).apart hl7) (.cons (RatAt.apart (show RatAt K H7 z _ from pz) hl7) .nil)
      · obtain ⟨s9, s10, s11, s12, ys, rfl, eH2, hl2, hys⟩ := p'
        have en : (((vs6.length : Int) - 1).toNat) = row.length - 1 := by omega
        rw [en] at hys
        dsimp only
        refine s_set (y_var (n := 8) (v := .ref l2) rfl) fun z H5 e5 pz => ⟨ht2, .ref l2, some (.int (1 + (t : Int))), some (.ref l2), s9, s10, s11, s12, ?_, (eH.trans eH2).trans e5, l2, ys, rfl, e5 _ _ hl2, ?_⟩
        · rw [show z = _ from pz]
          rfl
        · unfold db
          rw [hdb]
          exact hys.mono e5
    · obtain ⟨ht, v6, s7, s8, s9, s10, s11, s12, rfl, eH, pl⟩ := p'
      have ed : (((d : Int) + 1 - 1).toNat) = d := by omega
      rw [ed] at pl
      obtain ⟨l, vs, rfl, hl, hvs⟩ := pl
      have dl := db_len ks x d sp told d
      dsimp only
      refine s_ret (y_itL (y_var (n := 6) (v := .ref l) rfl) (y_c (v := .int 0)) (.of hl) hvs (i := 0) (by omega) rfl) fun z H4 e4 pz => k z H4 (eH.trans e4) ?_
      unfold dbV
      rw [hs, ht0]
      exact pz
end
end BC
namespace BC
open L2 PySem PySem.Spec PyProof.Rows
def sp_spline_value (K : PySem.W.Frag) : Sp := fun vs H Q _ => ∃ v d ks rs u x, vs = [v, u] ∧ isS K d ks rs v H ∧ SOk d ks rs ∧ RatAt K H u x ∧ Bd 144 30 x ∧ Within ks x ∧ ∀ z H', Same H H' → RatAt K H' z (dbV ks rs d x) → Q z H'
theorem sc_spline_value : FnScope ["spline", "x"] ["spline", "x"] (defScope s_spline_value) := ⟨rfl, rfl, rfl, by decide +kernel, rfl, by decide +kernel, by decide +kernel⟩
theorem Sm_of144 {x : Rat} (xb : Bd 144 30 x) : Sm x := xb.small (Nat.dvd_trans (Nat.dvd_mul_right 144 LC) dvd_144LC) (by decide +kernel)
/-! ### pieces -/
abbrev Pc : Type := Rat × Rat × List Rat
def isPc (K : PySem.W.Frag) (c : Pc) : V → Hp → Prop := fun v H => ∃ p q w1 w2 w3, v = .ref p ∧ SqT K H p [.ref q, w3] ∧ SqT K H q [w1, w2] ∧ RatAt K H w1 c.1 ∧ RatAt K H w2 c.2.1 ∧ isP K c.2.2 w3 H
theorem mono_Pc {K : PySem.W.Frag} {c : Pc} : Mono (isPc K c) := fun _ _ _ ⟨p, q, w1, w2, w3, a, b, d, e, f, g⟩ s => ⟨p, q, w1, w2, w3, a, Same.tup s b, Same.tup s d, e.mono s, f.mono s, mono_P _ _ _ g s⟩
theorem apart_Pc {K : PySem.W.Frag} {c : Pc} : Apart (isPc K c) := fun _ _ _ _ _ ⟨p, q, w1, w2, w3, a, b, d, e, f, g⟩ hD => ⟨p, q, w1, w2, w3, a, SqT.apart b hD, SqT.apart d hD, RatAt.apart e hD, RatAt.apart f hD, apart_P _ _ _ _ _ g hD⟩
def isPcs (K : PySem.W.Frag) (cs : List Pc) : V → Hp → Prop := fun v H => ∃ p vs, v = .ref p ∧ SqT K H p vs ∧ Paired (fun v c => isPc K c v H) vs cs
def neB (ks : List Rat) (pl : Nat) : Bool := !decide (kn ks pl = kn ks (pl + 1))
def pcs (ks rs : List Rat) (d n : Nat) : List Pc := ((List.range n).filter (neB ks)).map fun pl => (kn ks pl, kn ks (pl + 1), piece ks rs d pl)
theorem pcs_succ (ks rs : List Rat) (d n : Nat) : pcs ks rs d (n + 1) = pcs ks rs d n ++ (if neB ks n = true then [(kn ks n, kn ks (n + 1), piece ks rs d n)] else []) := by
  unfold pcs
  rw [List.range_succ, List.filter_append, List.filter_cons, List.filter_nil, List.map_append]
  split <;> rfl
def sp_pieces_of (K : PySem.W.Frag) : Sp := fun vs H Q _ => ∃ v d ks rs, vs = [v] ∧ isS K d ks rs v H ∧ SOk d ks rs ∧ ∀ z H', Same H H' → isPcs K (pcs ks rs d (ks.length - 1)) z H' → Q z H'
abbrev nPc : List Str := ["spline", "degree", "knots", "row", "found", "place", "poly", "index"]
theorem sc_pieces_of : FnScope nPc ["spline"] (defScope s_pieces_of) := ⟨rfl, rfl, rfl, by decide +kernel, rfl, by decide +kernel, by decide +kernel⟩
theorem sc_spline_pieces : FnScope ["spline"] ["spline"] (defScope s_spline_pieces) := ⟨rfl, rfl, rfl, by decide +kernel, rfl, by decide +kernel, by decide +kernel⟩
theorem piece_bd {d : Nat} {ks rs : List Rat} (ok : SOk d ks rs) {pl : Nat} (h1 : d ≤ pl) (h2 : pl + d + 1 < ks.length) : ∀ n, n ≤ d + 1 → AllB (12 * MB d) (n * (CB d * 12)) (pieceN ks rs d pl n) ∧ (pieceN ks rs d pl n).length ≤ 5
  | 0, _ => ⟨fun c hc => by simp [pieceN] at hc, by simp [pieceN]⟩
  | n + 1, hn => by
    obtain ⟨b, l⟩ := piece_bd ok h1 h2 n (by omega)
    have hd := ok.k.d4
    have q := AllB.scaled (bas_bd ok.k d (pl - d + n) pl hd (by omega)) (ok.bd.getD (pl - d + n))
    rw [Nat.mul_comm (MB d) 12] at q
    have ql := Nat.le_trans (scaled_len (bas ks d (pl - d + n) pl) (rs.getD (pl - d + n) 0)) (bas_len ks d (pl - d + n) pl)
    have pl' := plus_len (pieceN ks rs d pl n) (pScaled (bas ks d (pl - d + n) pl) (rs.getD (pl - d + n) 0))
    unfold pieceN
    refine ⟨?_, by omega⟩
    have z := AllB.plus b q
    rw [Nat.add_mul, Nat.one_mul]
    exact z
section
variable {K : PySem.W.Frag} {mg : Str → Option Value} {P : Program} {w : World} {base : Heap}
theorem ok_spline_value (T : TX K mg) : Def P w K mg base 5 "spline_value" ["spline", "x"] (sp_spline_value K) := by
  have Gn : Def P w K mg base 4 "need_spline" ["value"] (sp_need_spline K) := ok_need_spline T
  have Ga : Def P w K mg base 4 "spline_at" ["spline", "x"] (sp_spline_at K) := ok_spline_at T
  have Gi : Def P w K mg base 2 "is_ratio" ["value"] (sp_is_ratio K) := ok_is_ratio T
  have Gb : Def P w K mg base 1 "is_below" ["one", "other"] (sp_is_below K) := ok_is_below T
  refine T.spline_value.def_ sc_spline_value (fun _ _ _ _ _ _ us hl => match us, hl with | [_, _], _ => rfl) (fun vs H Q E h => ?_) (fun cdv A outer s H vs Q E hr h => ?_)
  · obtain ⟨v, d, ks, rs, u, x, rfl, _⟩ := h
    rfl
  · obtain ⟨v, d, ks, rs, u, x, rfl, hS, ok, hx, xb, wi, k⟩ := h
    obtain ⟨p, q, r, us, ws, rfl, hp, hq, hus, hr2, hws⟩ := id hS
    have hk := ok.k
    have hl1 := hk.len
    have r1 : Room 1 _ := hr.mono (by decide)
    have r2 : Room 2 _ := hr.mono (by decide)
    have sx := Sm_of144 xb
    refine ⟨_, pss_cons (ps_expr (pe_def Gn hr (pa_cons (pv 0) pa_nil)))
      (pss_cons (ps_if (PW.pt (pw_or (pt_not (pt_val (pe_def Gi r2 (pa_cons (pv 1) pa_nil)))) (pw_or (pt_val (pe_def Gb r1 (pa_cons (pv 1) (pa_cons (pe_ix ix_tup (pe_ix ix_tup (pv 0) pe_int (fun _ _ => rfl)) pe_int (fun _ _ => rfl)) pa_nil))))
        (pw_or1 (pt_val (pe_def Gb r1 (pa_cons (pe_ix ix_tup (pe_ix ix_tup (pv 0) pe_int (fun _ _ => rfl)) (pe_un un_neg pe_int) (fun _ _ => rfl)) (pa_cons (pv 1) pa_nil)))))))) pss_never pss_nil)
      (pss_one (ps_ret (pe_def Ga hr (pa_cons (pv 0) (pa_cons (pv 1) pa_nil)))))), ?_⟩
    refine s_seq (s_drop (P := isV .non) (y_call1 (y_varP (n := 0) (v := .ref p) rfl mono_S hS) fun y H1 e py Q' q' => ⟨y, d, ks, rs, rfl, py, ok, fun H' e' => q' _ H' e' rfl⟩) fun _ H1 e1 _ => ?_)
    have ykn : ∀ {H2 : Hp}, Same H H2 → Ys (tOp (rIxT K) (tVar 0) (tC (.int 1))) (start ["spline", "x"] [.ref p, u]) H2 (isV (.ref q)) := fun e => y_ixT (y_var (n := 0) (v := .ref p) rfl) (y_c (v := .int 1)) (Same.tup e hp) (v := .ref q) rfl mono_V rfl
    refine s_seq (s_no (b := !true || (decide (x < kn ks 0) || decide (kn ks (ks.length - 1) < x))) (yt_or (yt_not (yt_B (y_isRat (y_varP (n := 1) (v := u) rfl mono_R (hx.mono e1))))) fun _ => yt_or (yt_B (y_below (y_varP (n := 1) (v := u) rfl mono_R (hx.mono e1)) (y_itT (ykn e1) y_c (Same.tup e1 hq) (hus.mono e1) (i := 0) (by omega) rfl) sx (hk.sm 0))) fun _ =>
      yt_B (y_below (y_itN (ykn e1) (y_neg y_c) (Same.tup e1 hq) (hus.mono e1) (i := ks.length - 1) (by omega) (by omega) (by decide)) (y_varP (n := 1) (v := u) rfl mono_R (hx.mono e1)) (hk.sm _) sx)) ?_ fun H2 e2 => ?_)
    · have w1 := wi.lo
      have w2 := wi.hi
      rw [decide_eq_false (show ¬ x < kn ks 0 by grind), decide_eq_false (show ¬ kn ks (ks.length - 1) < x by grind)]
      rfl
    · have e12 := e1.trans e2
      exact s_ret (P := isR K (dbV ks rs d x)) (y_call2 (y_varP (n := 0) (v := .ref p) rfl mono_S (mono_S _ _ _ hS e12)) (y_varP (n := 1) (v := u) rfl mono_R (hx.mono e12)) mono_S fun y z H3 e3 py pz Q' q' => ⟨y, d, ks, rs, z, x, rfl, py, ok, pz, xb, wi, fun v' H' e' r => q' v' H' e' r⟩) fun z H3 e3 r => k z H3 (e12.trans e3) r
theorem ok_pieces_of (T : TX K mg) : Def P w K mg base 9 "pieces_of" ["spline"] (sp_pieces_of K) := by
  have Gb : Def P w K mg base 8 "basis_poly" ["degree", "knots", "index", "place"] (sp_basis_poly K 4) := ok_basis_poly T 4
  have Gp : Def P w K mg base 3 "p_plus" ["one", "other"] (sp_p_plus K) := ok_p_plus T
  have Gs : Def P w K mg base 3 "p_scaled" ["poly", "number"] (sp_p_scaled K) := ok_p_scaled T
  refine T.pieces_of.def_ sc_pieces_of (fun _ _ _ _ _ _ us hl => match us, hl with | [_], _ => rfl) (fun vs H Q E h => ?_) (fun cdv A outer s H vs Q E hr h => ?_)
  · obtain ⟨v, d, ks, rs, rfl, _⟩ := h
    rfl
  · obtain ⟨v, d, ks, rs, rfl, ⟨p, q, r, us, ws, rfl, hp, hq, hus, hr2, hws⟩, ok, k⟩ := h
    have nd := sc_pieces_of.nd
    have hk := ok.k
    have hl1 := hk.len
    have hl2 := hk.len16
    have hd4 := hk.d4
    have hlen := ok.len
    have lv := rats_len hus
    have lw := rats_len hws
    have r3 : Room 3 _ := hr.mono (by decide)
    refine ⟨_, pss_cons (ps_asg (pv 0) (pg_tup (by rfl) (pgs_cons (pg_name (i := 1) nd rfl (Or.inl rfl)) (pgs_cons (pg_name (i := 2) nd rfl (Or.inl rfl)) (pgs_cons (pg_name (i := 3) nd rfl (Or.inl rfl)) pgs_nil)))))
      (pss_cons (ps_set (i := 4) nd rfl (Or.inl rfl) (pe_lst pa_nil))
      (pss_cons (ps_for PassesOwn.never rfl (pi_range1 (by rfl) T.b_range (pa_cons (pe_op op_sub (pe_callB call_len_seq (by rfl) T.b_len (by decide +kernel) (pa_cons (pv 2) pa_nil)) pe_int) pa_nil)) (pg_name (i := 5) nd rfl (Or.inl rfl))
        (pss_one (ps_if (pt_cmpR (op_neD hr.units) (pe_ix ix_tup (pv 2) (pv 5) (fun _ _ => rfl)) (pe_ix ix_tup (pv 2) (pe_op op_add (pv 5) pe_int) (fun _ _ => rfl)) (nomark _))
          (pss_cons (ps_set (i := 6) nd rfl (Or.inl rfl) (pe_tup pa_nil))
          (pss_cons (ps_for PassesOwn.never rfl (pi_range2 (by rfl) T.b_range (pa_cons (pe_op op_sub (pv 5) (pv 1)) (pa_cons (pe_op op_add (pv 5) pe_int) pa_nil))) (pg_name (i := 7) nd rfl (Or.inl rfl))
            (pss_one (ps_set (i := 6) nd rfl (Or.inl rfl) (pe_def Gp r3 (pa_cons (pv 6) (pa_cons (pe_def Gs r3 (pa_cons (pe_def Gb hr (pa_cons (pv 1) (pa_cons (pv 2) (pa_cons (pv 7) (pa_cons (pv 5) pa_nil))))) (pa_cons (pe_ix ix_tup (pv 3) (pv 7) (fun _ _ => rfl)) pa_nil))) pa_nil))))))
          (pss_one (ps_expr (pe_bm PySem.F.plainAttrs_list PySem.F.slot_list_append PySem.F.type_list_append mt_append (pv 4) (pa_cons (pe_tup (pa_cons (pe_tup (pa_cons (pe_ix ix_tup (pv 2) (pv 5) (fun _ _ => rfl)) (pa_cons (pe_ix ix_tup (pv 2) (pe_op op_add (pv 5) pe_int) (fun _ _ => rfl)) pa_nil))) (pa_cons (pv 6) pa_nil))) pa_nil)))))) pss_nil)))
      (pss_one (ps_ret (pe_callTy call_tuple_of (by rfl) T.b_tuple (by decide +kernel) (pa_cons (pv 4) pa_nil)))))), ?_⟩
    refine s_seq (s_unpack3 (y_var (n := 0) (v := .ref p) rfl) hp fun H1 e1 => ?_)
    dsimp only
    refine s_seq (s_set (y_emptyN (K := K)) fun v4 H2 e2 p4 => ?_)
    obtain ⟨l, ys0, rfl, fl, hl, hy0⟩ := p4
    cases hy0
    have e12 := e1.trans e2
    dsimp only
    refine s_seq (s_forR (n := (us.length : Int) - 1) (a_1 (y_sub (y_lenT (y_var (n := 2) (v := .ref q) rfl) (Same.tup e12 hq) rfl) (y_c (v := .int 1)))) (by omega)
      (fun i σ' H' => i ≤ ks.length - 1 ∧ ∃ s5 s6 s7 ys, σ' = [some (.ref p), some (.int (d : Int)), some (.ref q), some (.ref r), some (.ref l), s5, s6, s7] ∧ Same H1 H' ∧ H' l = some (.lst ys) ∧ ys.length ≤ i ∧ Paired (fun v c => isPc K c v H') ys (pcs ks rs d i))
      (fun H3 e3 => ⟨Nat.zero_le _, none, none, none, [], rfl, e2.trans e3, e3 _ _ hl, Nat.le_refl _, .nil⟩) (fun i σ' H' hi p' => ?_) fun σ' H' p' => ?_)
    · obtain ⟨hi2, s5, s6, s7, ys, rfl, e, hl', hly, hys⟩ := p'
      have eH := e1.trans e
      dsimp only
      refine s_if (b := neB ks i) (yt_T (y_neR (y_itT (y_var (n := 2) (v := .ref q) rfl) (y_var (n := 5) (v := .int (i : Int)) rfl) (Same.tup eH hq) (hus.mono eH) (i := i) (by omega) rfl) (y_itT (y_var (n := 2) (v := .ref q) rfl) (y_add (y_var (n := 5) (v := .int (i : Int)) rfl) y_c) (Same.tup eH hq) (hus.mono eH) (i := i + 1) (by omega) (by omega)))) (fun hb H3 e3 => ?_) fun hb H3 e3 => ?_
      · have hne : ¬ kn ks i = kn ks (i + 1) := by simpa [neB] using hb
        obtain ⟨g1, g2, g3⟩ := place_ok hk (by omega) hne
        have eH3 := eH.trans e3
        refine s_seq (s_set (y_emptyP (K := K)) fun v6 H4 e4 p6 => ?_)
        have eH4 := eH3.trans e4
        dsimp only
        refine s_seq (s_forR2 (lo := (i : Int) - (d : Int)) (hi := (i : Int) + 1) (a_2 (y_sub (y_var (n := 5) (v := .int (i : Int)) rfl) (y_var (n := 1) (v := .int (d : Int)) rfl)) (y_add (y_var (n := 5) (v := .int (i : Int)) rfl) (y_c (v := .int 1)))) (by omega)
          (fun m σ' H'' => ∃ v6 s7, σ' = [some (.ref p), some (.int (d : Int)), some (.ref q), some (.ref r), some (.ref l), some (.int (i : Int)), some v6, s7] ∧ Same H' H'' ∧ isP K (pieceN ks rs d i m) v6 H'')
          (fun H5 e5 => ⟨v6, s7, rfl, (e3.trans e4).trans e5, mono_P _ _ _ p6 e5⟩) (fun m σ' H'' hm p' => ?_) fun σ' H'' p' => ?_)
        · obtain ⟨v6', s7', rfl, e', p6'⟩ := p'
          have eH5 := eH.trans e'
          have ei : (i : Int) - (d : Int) + (m : Int) = ((i - d + m : Nat) : Int) := by omega
          rw [ei]
          obtain ⟨bb, bl⟩ := piece_bd ok g1 (by omega) m (by omega)
          have cb := CB_le (e := d) hd4
          have q1 := AllB.scaled (bas_bd hk d (i - d + m) i hd4 (by omega)) (ok.bd.getD (i - d + m))
          rw [Nat.mul_comm (MB d) 12] at q1
          have ql := Nat.le_trans (scaled_len (bas ks d (i - d + m) i) (rs.getD (i - d + m) 0)) (bas_len ks d (i - d + m) i)
          have b1 := bas_len ks d (i - d + m) i
          have mle : m * (CB d * 12) ≤ 5 * (CB d * 12) := Nat.mul_le_mul_right _ (by omega)
          dsimp only
          refine s_set (y_pplus (y_varP (n := 6) (v := v6') rfl mono_P p6') (y_pscaled (y_call4 (y_var (n := 1) (v := .int (d : Int)) rfl) (y_var (n := 2) (v := .ref q) rfl) (y_var (n := 7) (v := .int ((i - d + m : Nat) : Int)) rfl) (y_var (n := 5) (v := .int (i : Int)) rfl) mono_V mono_V mono_V
              (P := isP K (bas ks d (i - d + m) i)) fun a b c f H6 e6 pa pb pc pf Q' q' => ?_) (y_itT (y_var (n := 3) (v := .ref r) rfl) (y_var (n := 7) (v := .int ((i - d + m : Nat) : Int)) rfl) (Same.tup eH5 hr2) (hws.mono eH5) (i := i - d + m) (by omega) rfl)
              ((bas_bd hk d (i - d + m) i hd4 (by omega)).small (dvd_MB1 (by omega)) (by omega)) ((ok.bd.getD _).small dvd_12 (by decide +kernel)) (by omega))
            (bb.small (dvd_MB (by omega)) (by omega)) (q1.small (dvd_MB (by omega)) (by omega)) (by omega) (by omega)) fun z H6 e6 pz => ⟨z, some (.int ((i - d + m : Nat) : Int)), rfl, e'.trans e6, pz⟩
          exact ⟨d, q, i - d + m, i, us, d, ks, by rw [show a = _ from pa, show b = _ from pb, show c = _ from pc, show f = _ from pf], hd4, hd4, by omega, Same.tup (eH5.trans e6) hq, hus.mono (eH5.trans e6), hk, fun v' H' e'' r => q' v' H' e'' r⟩
        · obtain ⟨v6', s7', rfl, e', p6'⟩ := p'
          have en : (((i : Int) + 1 - ((i : Int) - (d : Int))).toNat) = d + 1 := by omega
          rw [en] at p6'
          have eH5 := eH.trans e'
          have hl5 := e' _ _ hl'
          dsimp only
          refine s_app (P := isPc K (kn ks i, kn ks (i + 1), piece ks rs d i)) (y_var (n := 4) (v := .ref l) rfl) hl5 (y_tup2 (Pa := fun v H6 => ∃ t w1 w2, v = .ref t ∧ SqT K H6 t [w1, w2] ∧ RatAt K H6 w1 (kn ks i) ∧ RatAt K H6 w2 (kn ks (i + 1))) (y_tup2 (y_itT (y_var (n := 2) (v := .ref q) rfl) (y_var (n := 5) (v := .int (i : Int)) rfl) (Same.tup eH5 hq) (hus.mono eH5) (i := i) (by omega) rfl)
              (y_itT (y_var (n := 2) (v := .ref q) rfl) (y_add (y_var (n := 5) (v := .int (i : Int)) rfl) y_c) (Same.tup eH5 hq) (hus.mono eH5) (i := i + 1) (by omega) (by omega)) mono_R fun a b t H6 H7 _ e7 pa pb ht => ⟨t, a, b, rfl, .of ht, RatAt.mono pa e7, RatAt.mono pb e7⟩) (y_varP (n := 6) (v := v6') rfl mono_P p6')
              (fun v H6 H7 ⟨t, w1, w2, a, b, c, f⟩ e7 => ⟨t, w1, w2, a, Same.tup e7 b, c.mono e7, f.mono e7⟩) fun a b t H6 H7 _ e7 pa pb ht => ?_) (Nat.lt_of_lt_of_le (by omega : ys.length < 1000) (by decide)) fun z H6 e6 pz hl6 => ?_
          · obtain ⟨t1, w1, w2, rfl, c1, c2, c3⟩ := pa
            exact ⟨t, t1, w1, w2, b, rfl, .of ht, Same.tup e7 c1, c2.mono e7, c3.mono e7, mono_P _ _ _ pb e7⟩
          · refine ⟨by omega, some (.int (i : Int)), some v6', s7', _, rfl, Same.mut ((e.trans e').trans e6) fl, upd_same, ?_, ?_⟩
            · rw [List.length_append]
              exact Nat.succ_le_succ hly
            · rw [pcs_succ, hb, if_pos rfl]
              exact Paired.snoc (Paired.mapP hys fun v c r => apart_Pc _ _ _ _ _ (mono_Pc _ _ _ r (e'.trans e6)) hl6) (apart_Pc _ _ _ _ _ pz hl6)
      · refine ⟨by omega, some (.int (i : Int)), s6, s7, ys, rfl, e.trans e3, e3 _ _ hl', by omega, ?_⟩
        rw [pcs_succ, hb, if_neg (by decide), List.append_nil]
        exact Paired.mapP hys fun v c r => mono_Pc _ _ _ r e3
    · obtain ⟨hi2, s5, s6, s7, ys, rfl, e, hl', hly, hys⟩ := p'
      have en : (((us.length : Int) - 1).toNat) = ks.length - 1 := by omega
      rw [en] at hys
      dsimp only
      refine s_ret (P := isPcs K (pcs ks rs d (ks.length - 1))) (y_cb1 (y_var (n := 4) (v := .ref l) rfl) fun x H3 e3 px Q' q' => ?_) fun z H3 e3 r => k z H3 ((e1.trans e).trans e3) r
      rw [show x = _ from px]
      exact ⟨l, ys, rfl, .inl ⟨.of (e3 _ _ hl'), fun t ht => q' _ _ (Same.new ht) ⟨t, ys, rfl, .of upd_same, Paired.mapP hys fun v c r => mono_Pc _ _ _ r (e3.trans (Same.new ht))⟩⟩⟩
theorem ok_spline_pieces (T : TX K mg) : Def P w K mg base 10 "spline_pieces" ["spline"] (sp_pieces_of K) := by
  have Gn : Def P w K mg base 4 "need_spline" ["value"] (sp_need_spline K) := ok_need_spline T
  have Gp : Def P w K mg base 9 "pieces_of" ["spline"] (sp_pieces_of K) := ok_pieces_of T
  refine T.spline_pieces.def_ sc_spline_pieces (fun _ _ _ _ _ _ us hl => match us, hl with | [_], _ => rfl) (fun vs H Q E h => ?_) (fun cdv A outer s H vs Q E hr h => ?_)
  · obtain ⟨v, d, ks, rs, rfl, _⟩ := h
    rfl
  · obtain ⟨v, d, ks, rs, rfl, hS, ok, k⟩ := h
    have r4 : Room 4 _ := hr.mono (by decide)
    refine ⟨_, pss_cons (ps_expr (pe_def Gn r4 (pa_cons (pv 0) pa_nil))) (pss_one (ps_ret (pe_def Gp hr (pa_cons (pv 0) pa_nil)))), ?_⟩
    refine s_seq (s_drop (P := isV .non) (y_call1 (y_varP (n := 0) (v := v) rfl mono_S hS) fun y H1 e py Q' q' => ⟨y, d, ks, rs, rfl, py, ok, fun H' e' => q' _ H' e' rfl⟩) fun _ H1 e1 _ => ?_)
    exact s_ret (P := isPcs K (pcs ks rs d (ks.length - 1))) (y_call1 (y_varP (n := 0) (v := v) rfl mono_S (mono_S _ _ _ hS e1)) fun y H2 e py Q' q' => ⟨y, d, ks, rs, rfl, py, ok, fun z H' e' r => q' z H' e' r⟩) fun z H2 e2 r => k z H2 (e1.trans e2) r
end
end BC
namespace BC
open L2 PySem PySem.Spec PyProof.Rows
section
variable {K : PySem.W.Frag} {H H' : Hp} {σ : L2.St} {ta tb te tl : TE} {D : Ends} {tu tw : TS}
theorem y_abs {i : Int} (ha : Ys ta σ H (isI i)) : Ys (tCB (fun xs H Q => ∃ i, xs = [V.int i] ∧ Q (.int (if i < 0 then -i else i)) H) (tCons ta tNil)) σ H (isI (i.natAbs : Int)) := y_cb1 ha fun x H1 e px Q q => ⟨i, by rw [show x = _ from px], q _ _ (Same.refl _) (by
  show V.int _ = V.int _
  congr 1
  split <;> omega)⟩
theorem y_int1 {i : Int} (ha : Ys ta σ H (isI i)) : Ys (tCB (fun xs H Q => (∃ i, xs = [V.int i] ∧ Q (.int i) H) ∨ ∃ k, xs = [V.bl k] ∧ Q (.int (if k then 1 else 0)) H) (tCons ta tNil)) σ H (isI i) := y_cb1 ha fun x H1 e px Q q => .inl ⟨i, by rw [show x = _ from px], q _ _ (Same.refl _) rfl⟩
theorem y_mod {i j : Int} (ha : Ys ta σ H (isI i)) (hb : Ys tb σ H (isI j)) (h : 0 < j) : Ys (tOp (rI (fun _ j => 0 < j) fun i j => .int (i % j)) ta tb) σ H (isI (i % j)) := y_I ha hb h
theorem y_fdiv {i j : Int} (ha : Ys ta σ H (isI i)) (hb : Ys tb σ H (isI j)) (h : CDiv i j) : Ys (tOp (rI CDiv fun i j => .int (i / j)) ta tb) σ H (isI (i / j)) := y_I ha hb h
theorem y_mul1 {i j : Int} (ha : Ys ta σ H (isI i)) (hb : Ys tb σ H (isI j)) (h : CMul i j) : Ys (tOp (rI CMul fun i j => .int (i * j)) ta tb) σ H (isI (i * j)) := y_I ha hb h
end
/-! ### _law_made and what rests on it -/
def sp_law_made (K : PySem.W.Frag) : Sp := fun vs H Q _ => ∃ t l : Int, vs = [.int t, .int l] ∧ 0 < l ∧ l < 9000 ∧ ∀ v H', Same H H' → RatAt K H' v (Rat.divInt t l) → Q v H'
def LSm (a b : Rat) : Prop := Sm a ∧ Sm b ∧ a.den * b.den < 9000
abbrev sp_law_plus : PySem.W.Frag → Sp := spBin LSm fun a b => a + b
abbrev sp_law_minus : PySem.W.Frag → Sp := spBin LSm fun a b => a - b
abbrev sp_law_times : PySem.W.Frag → Sp := spBin LSm fun a b => a * b
abbrev nMade : List Str := ["_law_top", "_law_low", "_law_one", "_law_other", "_law_turn"]
theorem sc_law_made : FnScope nMade ["_law_top", "_law_low"] (defScope s__law_made) := ⟨rfl, rfl, rfl, by decide +kernel, rfl, by decide +kernel, by decide +kernel⟩
theorem sc_law_plus : FnScope ["_law_one", "_law_other"] ["_law_one", "_law_other"] (defScope s__law_plus) := ⟨rfl, rfl, rfl, by decide +kernel, rfl, by decide +kernel, by decide +kernel⟩
theorem sc_law_minus : FnScope ["_law_one", "_law_other"] ["_law_one", "_law_other"] (defScope s__law_minus) := ⟨rfl, rfl, rfl, by decide +kernel, rfl, by decide +kernel, by decide +kernel⟩
theorem sc_law_times : FnScope ["_law_one", "_law_other"] ["_law_one", "_law_other"] (defScope s__law_times) := ⟨rfl, rfl, rfl, by decide +kernel, rfl, by decide +kernel, by decide +kernel⟩
theorem sc_law_below : FnScope ["_law_one", "_law_other"] ["_law_one", "_law_other"] (defScope s__law_below) := ⟨rfl, rfl, rfl, by decide +kernel, rfl, by decide +kernel, by decide +kernel⟩
theorem sc_law_middle : FnScope ["_law_one", "_law_other", "_law_part"] ["_law_one", "_law_other", "_law_part"] (defScope s__law_middle) := ⟨rfl, rfl, rfl, by decide +kernel, rfl, by decide +kernel, by decide +kernel⟩
section
variable {K : PySem.W.Frag} {mg : Str → Option Value} {P : Program} {w : World} {base : Heap}
theorem ok_law_made (T : TX K mg) : Def P w K mg base 1 "_law_made" ["_law_top", "_law_low"] (sp_law_made K) := by
  refine T._law_made.def_ sc_law_made (fun _ _ _ _ _ _ us hl => match us, hl with | [_, _], _ => rfl) (fun vs H Q E h => ?_) (fun cdv A outer s H vs Q E hr h => ?_)
  · obtain ⟨t, l, rfl, _⟩ := h
    rfl
  · obtain ⟨t, l, rfl, h0, h1, k⟩ := h
    have nd := sc_law_made.nd
    have g0 := md_gpos t h0
    have g1 := md_gle t h0
    refine ⟨_, pss_cons (ps_par (i := 2) (j := 3) (by rfl) nd rfl rfl (by decide) rfl rfl (pa_cons (pe_callB call_abs (by rfl) T.b_abs (by decide +kernel) (pa_cons (pv 0) pa_nil)) (pa_cons (pe_callB call_abs (by rfl) T.b_abs (by decide +kernel) (pa_cons (pv 1) pa_nil)) pa_nil)) (by rfl))
      (C8.pss_cut (ps_for PassesOwn.never rfl (pi_range1 (by rfl) T.b_range (pa_cons pe_int pa_nil)) (pg_name (i := 4) nd rfl (Or.inl rfl))
        (pss_cons (ps_if (pt_cmpR op_eq (pv 3) pe_int (nomark _)) (pss_one ps_break) pss_nil)
        (pss_one (ps_par (i := 2) (j := 3) (by rfl) nd rfl rfl (by decide) rfl rfl (pa_cons (pv 3) (pa_cons (pe_op op_mod (pv 2) (pv 3)) pa_nil)) (by rfl)))))
      (pss_cons (ps_set (i := 2) nd rfl (Or.inl rfl) (pe_ifExp (pt_cmpR op_lt (pv 1) pe_int (nomark _)) (pe_op op_sub pe_int (pv 2)) (pv 2)))
      (pss_one (ps_ret (pe_tup (pa_cons (pe_op op_fdiv (pv 0) (pv 2)) (pa_cons (pe_op op_fdiv (pv 1) (pv 2)) pa_nil))))))), ?_⟩
    refine s_seq (s_par (y_abs (y_var (n := 0) (v := .int t) rfl)) (y_abs (y_var (n := 1) (v := .int l) rfl)) mono_V fun a b H1 e1 pa pb => ?_)
    rw [show a = _ from pa, show b = _ from pb]
    dsimp only
    refine s_cut (fun σ' H' => ∃ s3 s4, σ' = [some (.int t), some (.int l), some (.int ((Nat.gcd t.natAbs l.natAbs : Nat) : Int)), s3, s4] ∧ Same H H') ?_ fun σ' H' hm => ?_
    · refine s_forR (n := 10000) (a_1 y_c) (by omega) (fun i σ' H' => ∃ (a b : Nat) (s4 : Option V), σ' = [some (.int t), some (.int l), some (.int (a : Int)), some (.int (b : Int)), s4] ∧ Nat.gcd a b = Nat.gcd t.natAbs l.natAbs ∧ b + i ≤ l.natAbs ∧ Same H H')
        (fun H2 e2 => ⟨t.natAbs, l.natAbs, none, rfl, rfl, Nat.le_refl _, e1.trans e2⟩) (fun i σ' H' hi p' => ?_) fun σ' H' p' => ?_
      · obtain ⟨a, b, s4, rfl, hg, hb, e⟩ := p'
        dsimp only
        refine s_seq (s_if (yt_T (y_eqI (y_var (n := 3) (v := .int (b : Int)) rfl) y_c)) (fun hb2 H3 e3 => ?_) fun hb2 H3 e3 => ?_)
        · have c := of_decide_eq_true hb2
          obtain rfl : b = 0 := by omega
          rw [Nat.gcd_zero_right] at hg
          subst hg
          exact ⟨some (.int ((0 : Nat) : Int)), some (.int (i : Int)), rfl, e.trans e3⟩
        · have c := of_decide_eq_false hb2
          have c2 : 0 < b := by omega
          dsimp only
          refine s_par (y_var (n := 3) (v := .int (b : Int)) rfl) (y_mod (y_var (n := 2) (v := .int (a : Int)) rfl) (y_var (n := 3) (v := .int (b : Int)) rfl) (by omega)) mono_V fun u v H4 e4 pu pv' => ?_
          have em : (a : Int) % (b : Int) = ((a % b : Nat) : Int) := by omega
          have lt := Nat.mod_lt a c2
          rw [show u = _ from pu, show v = _ from pv', em]
          exact ⟨b, a % b, some (.int (i : Int)), rfl, by rw [Nat.gcd_comm b, ← Nat.gcd_rec, Nat.gcd_comm]; exact hg, by omega, (e.trans e3).trans e4⟩
      · obtain ⟨a, b, s4, rfl, hg, hb, e⟩ := p'
        exfalso
        have : (10000 : Int).toNat = 10000 := rfl
        omega
    · obtain ⟨s3, s4, rfl, e⟩ := hm
      refine s_seq (s_set (y_if (P := isI ((Nat.gcd t.natAbs l.natAbs : Nat) : Int)) (yt_T (y_lt (y_var (n := 1) (v := .int l) rfl) y_c)) (fun hb => by have := of_decide_eq_true hb; omega) fun _ => y_var (n := 2) (v := .int ((Nat.gcd t.natAbs l.natAbs : Nat) : Int)) rfl) fun v H2 e2 pv2 => ?_)
      rw [show v = _ from pv2]
      have cd : ∀ z : Int, CDiv z ((Nat.gcd t.natAbs l.natAbs : Nat) : Int) := fun z => ⟨g0, by omega⟩
      refine s_ret (y_tup2 (y_fdiv (y_var (n := 0) (v := .int t) rfl) (y_var (n := 2) rfl) (cd t)) (y_fdiv (y_var (n := 1) (v := .int l) rfl) (y_var (n := 2) rfl) (cd l)) mono_V (P := isR K (Rat.divInt t l)) fun x y p H3 H4 _ _ px py hp => ?_) fun v H3 e3 r => k v H3 ((e.trans e2).trans e3) r
      rw [show x = _ from px, show y = _ from py, md_num t h0, md_den t h0] at hp
      exact ⟨p, rfl, .of hp⟩
end
theorem den_lt {a b : Rat} (h : a.den * b.den < 9000) : ((a.den : Nat) : Int) * ((b.den : Nat) : Int) < 9000 := by
  have e : ((a.den : Nat) : Int) * ((b.den : Nat) : Int) = ((a.den * b.den : Nat) : Int) := by simp
  rw [e]
  omega
def sp_law_below (K : PySem.W.Frag) : Sp := sp_is_below K
/-- Bd 12 numbers in a row: what _law_middle asks -/
def sp_law_middle (K : PySem.W.Frag) : Sp := fun vs H Q _ => ∃ x y z a b t, vs = [x, y, z] ∧ RatAt K H x a ∧ RatAt K H y b ∧ RatAt K H z t ∧ Bd 12 30 a ∧ Bd 12 30 b ∧ Bd 12 1 t ∧ ∀ v H', Same H H' → RatAt K H' v (btw a b t) → Q v H'
theorem Bd.den_le {M B : Nat} {q : Rat} (h : Bd M B q) (hM : M ≠ 0) : q.den ≤ M := by
  obtain ⟨⟨n, hn⟩, _⟩ := h
  exact Nat.le_of_dvd (Nat.pos_of_ne_zero hM) (den_dvd hM hn)
theorem lsm_of {M N B C : Nat} {a b : Rat} (ha : Bd M B a) (hb : Bd N C b) (hM : M ∣ MC) (hN : N ∣ MC) (hB : B ≤ CAP) (hC : C ≤ CAP) (hMN : M * N < 9000) (m0 : M ≠ 0) (n0 : N ≠ 0) : LSm a b :=
  ⟨ha.small hM hB, hb.small hN hC, Nat.lt_of_le_of_lt (Nat.mul_le_mul (ha.den_le m0) (hb.den_le n0)) hMN⟩
section
variable {K : PySem.W.Frag} {H H' : Hp} {σ : L2.St} {ta tb te tl : TE} {D : Ends} {tu tw : TS}
theorem y_lmade {t l : Int} (ha : Ys ta σ H (isI t)) (hb : Ys tb σ H (isI l)) (h0 : 0 < l) (h1 : l < 9000) : Ys (tCall (sp_law_made K) [] E0 (tCons ta (tCons tb tNil))) σ H (isR K (Rat.divInt t l)) :=
  y_call2 ha hb mono_V fun x y H1 _ px py Q q => ⟨t, l, by rw [show x = _ from px, show y = _ from py], h0, h1, fun v H' e r => q v H' e r⟩
theorem y_lplus {a b : Rat} (ha : Ys ta σ H (isR K a)) (hb : Ys tb σ H (isR K b)) (s : LSm a b) : Ys (tCall (sp_law_plus K) [] E0 (tCons ta (tCons tb tNil))) σ H (isR K (a + b)) := y_bin ha hb s
theorem y_lminus {a b : Rat} (ha : Ys ta σ H (isR K a)) (hb : Ys tb σ H (isR K b)) (s : LSm a b) : Ys (tCall (sp_law_minus K) [] E0 (tCons ta (tCons tb tNil))) σ H (isR K (a - b)) := y_bin ha hb s
theorem y_ltimes {a b : Rat} (ha : Ys ta σ H (isR K a)) (hb : Ys tb σ H (isR K b)) (s : LSm a b) : Ys (tCall (sp_law_times K) [] E0 (tCons ta (tCons tb tNil))) σ H (isR K (a * b)) := y_bin ha hb s
theorem y_lbelow {a b : Rat} (ha : Ys ta σ H (isR K a)) (hb : Ys tb σ H (isR K b)) (sa : Sm a) (sb : Sm b) : Ys (tCall (sp_law_below K) [] E0 (tCons ta (tCons tb tNil))) σ H (isB (decide (a < b))) :=
  y_call2 ha hb mono_R fun x y H1 _ px py Q q => ⟨x, y, a, b, rfl, px, py, ⟨sa, sb⟩, fun H' e => q _ H' e rfl⟩
end
section
variable {K : PySem.W.Frag} {mg : Str → Option Value} {P : Program} {w : World} {base : Heap}
theorem ok_law_plus (T : TX K mg) : Def P w K mg base 2 "_law_plus" ["_law_one", "_law_other"] (sp_law_plus K) := by
  have G : Def P w K mg base 1 "_law_made" ["_law_top", "_law_low"] (sp_law_made K) := ok_law_made T
  refine T._law_plus.def_ sc_law_plus (fun _ _ _ _ _ _ us hl => match us, hl with | [_, _], _ => rfl) (fun vs H Q E h => ?_) (fun cdv A outer s H vs Q E hr h => ?_)
  · obtain ⟨x, y, a, b, rfl, _⟩ := h
    rfl
  · obtain ⟨x, y, a, b, rfl, ra, rb, ⟨sa, sb, sd⟩, k⟩ := h
    have ya : Ys (tVar 0) (start ["_law_one", "_law_other"] [x, y]) H (isR K a) := y_varP (v := x) rfl mono_R ra
    have yb : Ys (tVar 1) (start ["_law_one", "_law_other"] [x, y]) H (isR K b) := y_varP (v := y) rfl mono_R rb
    refine ⟨_, pss_one (ps_ret (pe_def G hr (pa_cons (pe_op op_add (pe_op op_mulW (pe_ix ix_tup (pv 0) pe_int (fun _ _ => rfl)) (pe_ix ix_tup (pv 1) pe_int (fun _ _ => rfl))) (pe_op op_mulW (pe_ix ix_tup (pv 1) pe_int (fun _ _ => rfl)) (pe_ix ix_tup (pv 0) pe_int (fun _ _ => rfl)))) (pa_cons (pe_op op_mulW (pe_ix ix_tup (pv 0) pe_int (fun _ _ => rfl)) (pe_ix ix_tup (pv 1) pe_int (fun _ _ => rfl))) pa_nil)))), ?_⟩
    refine s_ret (y_lmade (y_add (y_mulW (y_num ya) (y_den yb) (cm_sm sa.1 (dn_sm sb))) (y_mulW (y_num yb) (y_den ya) (cm_sm sb.1 (dn_sm sa)))) (y_mulW (y_den ya) (y_den yb) (cm_sm (dn_sm sa) (dn_sm sb))) (Int.mul_pos (dn_pos a) (dn_pos b)) (den_lt sd)) fun v H1 e r => ?_
    rw [md_add] at r
    exact k v H1 e r
theorem ok_law_minus (T : TX K mg) : Def P w K mg base 2 "_law_minus" ["_law_one", "_law_other"] (sp_law_minus K) := by
  have G : Def P w K mg base 1 "_law_made" ["_law_top", "_law_low"] (sp_law_made K) := ok_law_made T
  refine T._law_minus.def_ sc_law_minus (fun _ _ _ _ _ _ us hl => match us, hl with | [_, _], _ => rfl) (fun vs H Q E h => ?_) (fun cdv A outer s H vs Q E hr h => ?_)
  · obtain ⟨x, y, a, b, rfl, _⟩ := h
    rfl
  · obtain ⟨x, y, a, b, rfl, ra, rb, ⟨sa, sb, sd⟩, k⟩ := h
    have ya : Ys (tVar 0) (start ["_law_one", "_law_other"] [x, y]) H (isR K a) := y_varP (v := x) rfl mono_R ra
    have yb : Ys (tVar 1) (start ["_law_one", "_law_other"] [x, y]) H (isR K b) := y_varP (v := y) rfl mono_R rb
    refine ⟨_, pss_one (ps_ret (pe_def G hr (pa_cons (pe_op op_sub (pe_op op_mulW (pe_ix ix_tup (pv 0) pe_int (fun _ _ => rfl)) (pe_ix ix_tup (pv 1) pe_int (fun _ _ => rfl))) (pe_op op_mulW (pe_ix ix_tup (pv 1) pe_int (fun _ _ => rfl)) (pe_ix ix_tup (pv 0) pe_int (fun _ _ => rfl)))) (pa_cons (pe_op op_mulW (pe_ix ix_tup (pv 0) pe_int (fun _ _ => rfl)) (pe_ix ix_tup (pv 1) pe_int (fun _ _ => rfl))) pa_nil)))), ?_⟩
    refine s_ret (y_lmade (y_sub (y_mulW (y_num ya) (y_den yb) (cm_sm sa.1 (dn_sm sb))) (y_mulW (y_num yb) (y_den ya) (cm_sm sb.1 (dn_sm sa)))) (y_mulW (y_den ya) (y_den yb) (cm_sm (dn_sm sa) (dn_sm sb))) (Int.mul_pos (dn_pos a) (dn_pos b)) (den_lt sd)) fun v H1 e r => ?_
    rw [md_sub] at r
    exact k v H1 e r
theorem ok_law_times (T : TX K mg) : Def P w K mg base 2 "_law_times" ["_law_one", "_law_other"] (sp_law_times K) := by
  have G : Def P w K mg base 1 "_law_made" ["_law_top", "_law_low"] (sp_law_made K) := ok_law_made T
  refine T._law_times.def_ sc_law_times (fun _ _ _ _ _ _ us hl => match us, hl with | [_, _], _ => rfl) (fun vs H Q E h => ?_) (fun cdv A outer s H vs Q E hr h => ?_)
  · obtain ⟨x, y, a, b, rfl, _⟩ := h
    rfl
  · obtain ⟨x, y, a, b, rfl, ra, rb, ⟨sa, sb, sd⟩, k⟩ := h
    have ya : Ys (tVar 0) (start ["_law_one", "_law_other"] [x, y]) H (isR K a) := y_varP (v := x) rfl mono_R ra
    have yb : Ys (tVar 1) (start ["_law_one", "_law_other"] [x, y]) H (isR K b) := y_varP (v := y) rfl mono_R rb
    refine ⟨_, pss_one (ps_ret (pe_def G hr (pa_cons (pe_op op_mulW (pe_ix ix_tup (pv 0) pe_int (fun _ _ => rfl)) (pe_ix ix_tup (pv 1) pe_int (fun _ _ => rfl))) (pa_cons (pe_op op_mulW (pe_ix ix_tup (pv 0) pe_int (fun _ _ => rfl)) (pe_ix ix_tup (pv 1) pe_int (fun _ _ => rfl))) pa_nil)))), ?_⟩
    refine s_ret (y_lmade (y_mulW (y_num ya) (y_num yb) (cm_sm sa.1 sb.1)) (y_mulW (y_den ya) (y_den yb) (cm_sm (dn_sm sa) (dn_sm sb))) (Int.mul_pos (dn_pos a) (dn_pos b)) (den_lt sd)) fun v H1 e r => ?_
    rw [md_mul] at r
    exact k v H1 e r
theorem ok_law_below (T : TX K mg) : Def P w K mg base 1 "_law_below" ["_law_one", "_law_other"] (sp_law_below K) := by
  refine T._law_below.def_ sc_law_below (fun _ _ _ _ _ _ us hl => match us, hl with | [_, _], _ => rfl) (fun vs H Q E h => ?_) (fun cdv A outer s H vs Q E hr h => ?_)
  · obtain ⟨x, y, a, b, rfl, _⟩ := h
    rfl
  · obtain ⟨x, y, a, b, rfl, ra, rb, ⟨sa, sb⟩, k⟩ := h
    have ya : Ys (tVar 0) (start ["_law_one", "_law_other"] [x, y]) H (isR K a) := y_varP (v := x) rfl mono_R ra
    have yb : Ys (tVar 1) (start ["_law_one", "_law_other"] [x, y]) H (isR K b) := y_varP (v := y) rfl mono_R rb
    refine ⟨_, pss_one (ps_ret (pe_cmpR op_lt (pe_op op_mulW (pe_ix ix_tup (pv 0) pe_int (fun _ _ => rfl)) (pe_ix ix_tup (pv 1) pe_int (fun _ _ => rfl))) (pe_op op_mulW (pe_ix ix_tup (pv 1) pe_int (fun _ _ => rfl)) (pe_ix ix_tup (pv 0) pe_int (fun _ _ => rfl))) (nomark _))), ?_⟩
    refine s_ret (y_lt (y_mulW (y_num ya) (y_den yb) (cm_sm sa.1 (dn_sm sb))) (y_mulW (y_num yb) (y_den ya) (cm_sm sb.1 (dn_sm sa)))) fun v H1 e r => ?_
    have ee : decide (a.num * ((b.den : Nat) : Int) < b.num * ((a.den : Nat) : Int)) = decide (a < b) := decide_eq_decide.mpr (Rat.lt_iff a b).symm
    rw [ee] at r
    rw [show v = _ from r]
    exact k H1 e
theorem ok_law_middle (T : TX K mg) : Def P w K mg base 3 "_law_middle" ["_law_one", "_law_other", "_law_part"] (sp_law_middle K) := by
  have Gp : Def P w K mg base 2 "_law_plus" ["_law_one", "_law_other"] (sp_law_plus K) := ok_law_plus T
  have Gt : Def P w K mg base 2 "_law_times" ["_law_one", "_law_other"] (sp_law_times K) := ok_law_times T
  have Gm : Def P w K mg base 2 "_law_minus" ["_law_one", "_law_other"] (sp_law_minus K) := ok_law_minus T
  refine T._law_middle.def_ sc_law_middle (fun _ _ _ _ _ _ us hl => match us, hl with | [_, _, _], _ => rfl) (fun vs H Q E h => ?_) (fun cdv A outer s H vs Q E hr h => ?_)
  · obtain ⟨x, y, z, a, b, t, rfl, _⟩ := h
    rfl
  · obtain ⟨x, y, z, a, b, t, rfl, ra, rb, rt, ba, bb, bt, k⟩ := h
    have ya : Ys (tVar 0) (start ["_law_one", "_law_other", "_law_part"] [x, y, z]) H (isR K a) := y_varP (v := x) rfl mono_R ra
    have yb : Ys (tVar 1) (start ["_law_one", "_law_other", "_law_part"] [x, y, z]) H (isR K b) := y_varP (v := y) rfl mono_R rb
    have yt : Ys (tVar 2) (start ["_law_one", "_law_other", "_law_part"] [x, y, z]) H (isR K t) := y_varP (v := z) rfl mono_R rt
    have d144 : 12 * 12 ∣ MC := Nat.dvd_trans (Nat.dvd_mul_right 144 LC) dvd_144LC
    have c1 := bb.sub ba
    have c2 := bt.mul c1
    refine ⟨_, pss_one (ps_ret (pe_def Gp hr (pa_cons (pv 0) (pa_cons (pe_def Gt hr (pa_cons (pv 2) (pa_cons (pe_def Gm hr (pa_cons (pv 1) (pa_cons (pv 0) pa_nil))) pa_nil))) pa_nil)))), ?_⟩
    exact s_ret (y_lplus ya (y_ltimes yt (y_lminus yb ya (lsm_of bb ba dvd_12 dvd_12 (by decide +kernel) (by decide +kernel) (by decide) (by decide) (by decide))) (lsm_of bt c1 dvd_12 dvd_12 (by decide +kernel) (by decide +kernel) (by decide) (by decide) (by decide))) (lsm_of ba c2 dvd_12 d144 (by decide +kernel) (by decide +kernel) (by decide) (by decide) (by decide))) fun v H1 e r => k v H1 e r
end
end BC
namespace BC
open L2 PySem PySem.Spec PyProof.Rows
/-! ### the row of draws: one list at r, changed by each draw -/
def Chg (r : Addr) (H H' : Hp) : Prop := ∀ b o, b ≠ r → H b = some o → H' b = some o
theorem Chg.refl {r : Addr} {H : Hp} : Chg r H H := fun _ _ _ h => h
theorem Chg.trans {r : Addr} {H H1 H2 : Hp} (a : Chg r H H1) (b : Chg r H1 H2) : Chg r H H2 := fun c o n h => b c o n (a c o n h)
theorem Same.chg {r : Addr} {H H1 : Hp} (a : Same H H1) : Chg r H H1 := fun c o _ h => a c o h
theorem Chg.upd {r : Addr} {H : Hp} {o : HO} : Chg r H (upd H r o) := fun b u n h => by
  rw [upd_ne n]
  exact h
def RowIs (H : Hp) (r a : Addr) (i s z : Int) : Prop := H r = some (.lst [.ref a, .int i, .int s, .int z])
structure Rw (K : PySem.W.Frag) (H : Hp) (r a : Addr) (ns : List Int) : Prop where
  row : ∃ i s z : Int, RowIs H r a i s z ∧ 0 ≤ i ∧ 0 ≤ s ∧ s < 2147483648 ∧ 0 ≤ z
  scr : SqL K H a (ns.map V.int)
section
variable {K : PySem.W.Frag} {H H' : Hp} {r a : Addr} {ns : List Int}
theorem scr_chg {i s z : Int} (h : SqL K H a (ns.map V.int)) (hr : RowIs H r a i s z) (c : Chg r H H') : SqL K H' a (ns.map V.int) := by
  rcases h with ((h | ⟨o, h⟩) | h)
  · refine .inl (.inl (c _ _ ?_ h))
    intro e
    subst e
    have hr2 : H a = some (.lst [.ref a, .int i, .int s, .int z]) := hr
    rw [h] at hr2
    have e2 := Option.some.inj hr2
    injection e2 with e3
    cases ns with
    | nil => cases e3
    | cons n r =>
      injection e3 with e4
      cases e4
  · refine .inl (.inr ⟨o, c _ _ ?_ h⟩)
    intro e
    subst e
    have hr2 : H a = some (.lst [.ref a, .int i, .int s, .int z]) := hr
    rw [h] at hr2
    cases hr2
  · exact .inr h
theorem Rw.mono (h : Rw K H r a ns) (e : Same H H') : Rw K H' r a ns := by
  obtain ⟨⟨i, s, z, h1, h2⟩, h3⟩ := h
  exact ⟨⟨i, s, z, e _ _ h1, h2⟩, Same.seq e h3⟩
theorem Rw.put {i s z : Int} (h : Rw K H r a ns) (h1 : 0 ≤ i) (h2 : 0 ≤ s) (h3 : s < 2147483648) (h4 : 0 ≤ z) : Rw K (upd H r (.lst [.ref a, .int i, .int s, .int z])) r a ns := by
  obtain ⟨⟨i', s', z', g1, g2⟩, g3⟩ := h
  exact ⟨⟨i, s, z, upd_same, h1, h2, h3, h4⟩, scr_chg g3 g1 Chg.upd⟩
theorem SqT.chg {p : Addr} {xs : List V} (h : SqT K H p xs) (w : Rw K H r a ns) (c : Chg r H H') : SqT K H' p xs := by
  obtain ⟨⟨i, s, z, hr, _⟩, _⟩ := w
  have hr2 : H r = some (.lst [.ref a, .int i, .int s, .int z]) := hr
  rcases h with ((h | ⟨o, h⟩) | h)
  · exact .inl (.inl (c _ _ (ne_of h hr2 (by intro q; cases q)) h))
  · exact .inl (.inr ⟨o, c _ _ (ne_of h hr2 (by intro q; cases q)) h⟩)
  · exact .inr h
theorem RatAt.chg {v : V} {q : Rat} (h : RatAt K H v q) (w : Rw K H r a ns) (c : Chg r H H') : RatAt K H' v q := by
  obtain ⟨p, rfl, t⟩ := h
  exact ⟨p, rfl, SqT.chg t w c⟩
theorem Rats.chg {vs : List V} {qs : List Rat} (h : Rats K H vs qs) (w : Rw K H r a ns) (c : Chg r H H') : Rats K H' vs qs := Paired.mapP h fun _ _ t => t.chg w c
theorem chg_P {qs : List Rat} {v : V} (h : isP K qs v H) (w : Rw K H r a ns) (c : Chg r H H') : isP K qs v H' := by
  obtain ⟨p, vs, e, t, u⟩ := h
  exact ⟨p, vs, e, SqT.chg t w c, u.chg w c⟩
theorem chg_S {d : Nat} {ks rs : List Rat} {v : V} (h : isS K d ks rs v H) (w : Rw K H r a ns) (c : Chg r H H') : isS K d ks rs v H' := by
  obtain ⟨p, q, r', us, ws, e, t1, t2, u1, t3, u2⟩ := h
  exact ⟨p, q, r', us, ws, e, SqT.chg t1 w c, SqT.chg t2 w c, u1.chg w c, SqT.chg t3 w c, u2.chg w c⟩
end
def sp_law_taken (K : PySem.W.Frag) : Sp := fun vs H Q _ => ∃ (r a : Addr) (ns : List Int) (m : Int), vs = [.ref r, .int m] ∧ Rw K H r a ns ∧ 0 < m ∧ m < 1073741824 ∧ ∀ (n : Int) H', 0 ≤ n → n < m → Chg r H H' → Rw K H' r a ns → Q (.int n) H'
abbrev nTaken : List Str := ["_law_row", "_law_many", "_law_found", "_law_cell"]
theorem sc_law_taken : FnScope nTaken ["_law_row", "_law_many"] (defScope s__law_taken) := ⟨rfl, rfl, rfl, by decide +kernel, rfl, by decide +kernel, by decide +kernel⟩
section
variable {K : PySem.W.Frag} {mg : Str → Option Value} {P : Program} {w : World} {base : Heap}
theorem y_pow18 {σ : L2.St} {H : Hp} : Ys (tOp (rI CPow fun i j => .int (i ^ j.toNat)) (tC (.int 10)) (tC (.int 18))) σ H (isI (1000000000000000000)) := by
  have z := y_I (σ := σ) (H := H) (C := CPow) (g := fun i j => .int (i ^ j.toNat)) (y_c (v := .int 10)) (y_c (v := .int 18)) ⟨by decide, by decide, by decide⟩
  exact z
theorem ok_law_taken (T : TX K mg) : Def P w K mg base 1 "_law_taken" ["_law_row", "_law_many"] (sp_law_taken K) := by
  refine T._law_taken.def_ sc_law_taken (fun _ _ _ _ _ _ us hl => match us, hl with | [_, _], _ => rfl) (fun vs H Q E h => ?_) (fun cdv A outer s H vs Q E hr h => ?_)
  · obtain ⟨r, a, ns, m, rfl, _⟩ := h
    rfl
  · obtain ⟨r, a, ns, m, rfl, hw, m0, m1, k⟩ := h
    obtain ⟨i, sd, z, hrow, i0, s0, s1, z0⟩ := hw.row
    have nd := sc_law_taken.nd
    have yrow : ∀ {σ : L2.St} {H1 : Hp} {j : Int} {v : V} {xs : List V}, σ[0]? = some (some (.ref r)) → H1 r = some (.lst xs) → atI xs j = some v → Ys (tOp (rIxL K) (tVar 0) (tC (.int j))) σ H1 (isV v) := fun h0 h1 h2 => y_ixL (y_var h0) y_c (.of h1) h2 mono_V rfl
    refine ⟨_, pss_cons (ps_if (pt_cmpR op_gt (pe_ix ix_list (pv 0) pe_int (fun _ _ => rfl)) pe_int (nomark _))
        (pss_cons (ps_set (i := 2) nd rfl (Or.inl rfl) (pe_op op_mod (pe_callTy call_int1 (by rfl) T.b_int (by decide +kernel) (pa_cons (pe_ix ix_list (pv 0) pe_int (fun _ _ => rfl)) pa_nil)) (pv 1)))
        (pss_cons (ps_asg (pe_op op_fdiv (pe_ix ix_list (pv 0) pe_int (fun _ _ => rfl)) (pv 1)) (pg_sub (pv 0) pe_int set_list))
        (pss_one (ps_ret (pv 2))))) pss_nil)
      (pss_cons (ps_asg (pe_op op_add (pe_ix ix_list (pv 0) pe_int (fun _ _ => rfl)) pe_int) (pg_sub (pv 0) pe_int set_list))
      (pss_cons (ps_if (pt_cmpR op_gt (pe_ix ix_list (pv 0) pe_int (fun _ _ => rfl)) (pe_callB call_len_seq (by rfl) T.b_len (by decide +kernel) (pa_cons (pe_ix ix_list (pv 0) pe_int (fun _ _ => rfl)) pa_nil)) (nomark _))
        (pss_cons (ps_asg (pe_op op_mod (pe_callTy call_int1 (by rfl) T.b_int (by decide +kernel) (pa_cons (pe_op op_add (pe_op op_mul (pe_ix ix_list (pv 0) pe_int (fun _ _ => rfl)) pe_int) pe_int) pa_nil)) pe_int) (pg_sub (pv 0) pe_int set_list))
        (pss_one (ps_ret (pe_op op_mod (pe_callTy call_int1 (by rfl) T.b_int (by decide +kernel) (pa_cons (pe_op op_fdiv (pe_ix ix_list (pv 0) pe_int (fun _ _ => rfl)) pe_int) pa_nil)) (pv 1))))) pss_nil)
      (pss_cons (ps_set (i := 3) nd rfl (Or.inl rfl) (pe_ix ix_list (pe_ix ix_list (pv 0) pe_int (fun _ _ => rfl)) (pe_op op_sub (pe_ix ix_list (pv 0) pe_int (fun _ _ => rfl)) pe_int) (fun _ _ => rfl)))
      (pss_cons (ps_asg (pe_op op_mod (pe_callTy call_int1 (by rfl) T.b_int (by decide +kernel) (pa_cons (pe_op op_add (pe_op op_add (pe_op op_mul (pe_ix ix_list (pv 0) pe_int (fun _ _ => rfl)) pe_int) (pv 3)) pe_int) pa_nil)) pe_int) (pg_sub (pv 0) pe_int set_list))
      (C8.pss_cut (ps_if (pt_cmpR op_ge (pv 3) (pe_op op_pow pe_int pe_int) (nomark _)) (pss_one (ps_asg (pe_op op_fdiv (pv 3) (pv 1)) (pg_sub (pv 0) pe_int set_list))) pss_nil)
      (pss_one (ps_ret (pe_op op_mod (pe_callTy call_int1 (by rfl) T.b_int (by decide +kernel) (pa_cons (pv 3) pa_nil)) (pv 1))))))))), ?_⟩
    have cdm : ∀ x : Int, CDiv x m := fun x => ⟨m0, m1⟩
    refine s_seq (s_if (yt_T (y_gt (yrow rfl hrow rfl) y_c)) (fun hb H1 e1 => ?_) fun hb H1 e1 => ?_)
    · have zp := of_decide_eq_true hb
      refine s_seq (s_set (y_mod (y_int1 (yrow rfl (e1 _ _ hrow) rfl)) (y_var (n := 1) (v := .int m) rfl) m0) fun v H2 e2 pv2 => ?_)
      rw [show v = _ from pv2]
      have e12 := e1.trans e2
      dsimp only
      refine s_seq (s_put (P := isI (z / m)) (y_fdiv (yrow rfl (e12 _ _ hrow) rfl) (y_var (n := 1) (v := .int m) rfl) (cdm z)) (y_var (n := 0) (v := .ref r) rfl) (y_c (v := .int 3)) (e12 _ _ hrow) (j := 3) rfl (by simp) mono_V fun v H3 e3 pv3 => ?_)
      rw [show v = _ from pv3]
      have e13 := e12.trans e3
      have hz : 0 ≤ z / m := Int.ediv_nonneg z0 (by omega)
      dsimp only
      refine s_ret (y_var (n := 2) (v := .int (z % m)) rfl) fun v H4 e4 pv4 => ?_
      rw [show v = _ from pv4]
      exact k _ H4 (Int.emod_nonneg _ (by omega)) (Int.emod_lt_of_pos _ m0) ((Same.chg e13).trans (Chg.upd.trans (Same.chg e4))) (((hw.mono e13).put i0 s0 s1 hz).mono e4)
    · have zp := of_decide_eq_false hb
      dsimp only
      refine s_seq (s_put (P := isI (i + 1)) (y_add (yrow rfl (e1 _ _ hrow) rfl) (y_c (v := .int 1))) (y_var (n := 0) (v := .ref r) rfl) (y_c (v := .int 1)) (e1 _ _ hrow) (j := 1) rfl (by simp) mono_V fun v H2 e2 pv2 => ?_)
      rw [show v = _ from pv2]
      have e12 := e1.trans e2
      have w2 : Rw K (upd H2 r (.lst [.ref a, .int (i + 1), .int sd, .int z])) r a ns := (hw.mono e12).put (by omega) s0 s1 z0
      have c2 : Chg r H (upd H2 r (.lst [.ref a, .int (i + 1), .int sd, .int z])) := (Same.chg e12).trans Chg.upd
      have hrow2 : (upd H2 r (.lst [.ref a, .int (i + 1), .int sd, .int z])) r = some (.lst [.ref a, .int (i + 1), .int sd, .int z]) := upd_same
      generalize hH2 : upd H2 r (.lst [.ref a, .int (i + 1), .int sd, .int z]) = G2 at w2 c2 hrow2
      have hset : ([V.ref a, .int i, .int sd, .int z].set 1 (.int (i + 1))) = [.ref a, .int (i + 1), .int sd, .int z] := rfl
      rw [hset, hH2]
      dsimp only
      have ylen : ∀ {σ : L2.St}, σ[0]? = some (some (.ref r)) → Ys (tCB (fun xs H Q => ∃ p ys, xs = [V.ref p] ∧ (SqL K H p ys ∨ SqT K H p ys) ∧ Q (.int ys.length) H) (tCons (tOp (rIxL K) (tVar 0) (tC (.int 0))) tNil)) σ G2 (isI (ns.length : Int)) := fun h0 => y_lenL (yrow h0 hrow2 rfl) w2.scr (by simp)
      refine s_seq (s_if (yt_T (y_gt (yrow rfl hrow2 rfl) (ylen rfl))) (fun hb2 H3 e3 => ?_) fun hb2 H3 e3 => ?_)
      · have hx0 : 0 ≤ (sd * 48271 + 11) % 2147483647 := Int.emod_nonneg _ (by decide)
        have hx1 : (sd * 48271 + 11) % 2147483647 < 2147483647 := Int.emod_lt_of_pos _ (by decide)
        generalize hx : (sd * 48271 + 11) % 2147483647 = nx at hx0 hx1
        refine s_seq (s_put (P := isI nx) (y_toI (y_mod (y_int1 (y_add (y_mul1 (yrow rfl (e3 _ _ hrow2) rfl) (y_c (v := .int 48271)) (.inr ⟨by decide, by decide⟩)) (y_c (v := .int 11)))) (y_c (v := .int 2147483647)) (by decide)) hx) (y_var (n := 0) (v := .ref r) rfl) (y_c (v := .int 2)) (e3 _ _ hrow2) (j := 2) rfl (by simp) mono_V fun v H4 e4 pv4 => ?_)
        rw [show v = _ from pv4]
        have e34 := e3.trans e4
        have w4 : Rw K (upd H4 r (.lst [.ref a, .int (i + 1), .int nx, .int z])) r a ns := (w2.mono e34).put (by omega) hx0 (by omega) z0
        dsimp only
        refine s_ret (y_mod (y_int1 (y_fdiv (yrow (v := .int nx) rfl upd_same rfl) (y_c (v := .int 7)) ⟨by decide, by decide⟩)) (y_var (n := 1) (v := .int m) rfl) m0) fun v H5 e5 pv5 => ?_
        rw [show v = _ from pv5]
        exact k _ H5 (Int.emod_nonneg _ (by omega)) (Int.emod_lt_of_pos _ m0) (c2.trans ((Same.chg e34).trans (Chg.upd.trans (Same.chg e5)))) (w4.mono e5)
      · have hlt : i < (ns.length : Int) := by
          have := of_decide_eq_false hb2
          omega
        obtain ⟨c, hc⟩ : ∃ c, ns[i.toNat]? = some c := ⟨ns[i.toNat]'(by omega), List.getElem?_eq_getElem (by omega)⟩
        have hat : atI (ns.map V.int) (i + 1 - 1) = some (.int c) := at_of (j := i.toNat) (by omega) (by rw [List.getElem?_map, hc] <;> rfl)
        have w3 := w2.mono e3
        have hrow3 := e3 _ _ hrow2
        dsimp only
        refine s_seq (s_set (y_ixL (P := isI c) (yrow (v := .ref a) rfl hrow3 rfl) (y_sub (yrow (v := .int (i + 1)) rfl hrow3 rfl) (y_c (v := .int 1))) w3.scr hat mono_V rfl) fun v H4 e4 pv4 => ?_)
        rw [show v = _ from pv4]
        have hx0 : 0 ≤ (sd * 48271 + c + 11) % 2147483647 := Int.emod_nonneg _ (by decide)
        have hx1 : (sd * 48271 + c + 11) % 2147483647 < 2147483647 := Int.emod_lt_of_pos _ (by decide)
        generalize hx : (sd * 48271 + c + 11) % 2147483647 = nx at hx0 hx1
        have hrow4 := e4 _ _ hrow3
        dsimp only
        refine s_seq (s_put (P := isI nx) (y_toI (y_mod (y_int1 (y_add (y_add (y_mul1 (yrow rfl hrow4 rfl) (y_c (v := .int 48271)) (.inr ⟨by decide, by decide⟩)) (y_var (n := 3) (v := .int c) rfl)) (y_c (v := .int 11)))) (y_c (v := .int 2147483647)) (by decide)) hx) (y_var (n := 0) (v := .ref r) rfl) (y_c (v := .int 2)) hrow4 (j := 2) rfl (by simp) mono_V fun v H5 e5 pv5 => ?_)
        rw [show v = _ from pv5]
        have e35 := e4.trans e5
        have w5 : Rw K (upd H5 r (.lst [.ref a, .int (i + 1), .int nx, .int z])) r a ns := (w3.mono e35).put (by omega) hx0 (by omega) z0
        have c5 : Chg r H (upd H5 r (.lst [.ref a, .int (i + 1), .int nx, .int z])) := c2.trans ((Same.chg e3).trans ((Same.chg e35).trans Chg.upd))
        have hrow5 : (upd H5 r (.lst [.ref a, .int (i + 1), .int nx, .int z])) r = some (.lst [.ref a, .int (i + 1), .int nx, .int z]) := upd_same
        have hset5 : ([V.ref a, .int (i + 1), .int sd, .int z].set 2 (.int nx)) = [.ref a, .int (i + 1), .int nx, .int z] := rfl
        rw [hset5]
        generalize upd H5 r (.lst [.ref a, .int (i + 1), .int nx, .int z]) = G5 at w5 c5 hrow5
        dsimp only
        refine s_cut (fun σ' H' => ∃ s2, σ' = [some (.ref r), some (.int m), s2, some (.int c)] ∧ Chg r H H' ∧ Rw K H' r a ns) ?_ fun σ' H' hm => ?_
        · refine s_if (yt_T (y_ge (y_var (n := 3) (v := .int c) rfl) y_pow18)) (fun hb3 H6 e6 => ?_) fun hb3 H6 e6 => ?_
          · have cp := of_decide_eq_true hb3
            have hz : 0 ≤ c / m := Int.ediv_nonneg (by omega) (by omega)
            refine s_put (P := isI (c / m)) (y_fdiv (y_var (n := 3) (v := .int c) rfl) (y_var (n := 1) (v := .int m) rfl) (cdm c)) (y_var (n := 0) (v := .ref r) rfl) (y_c (v := .int 3)) (e6 _ _ hrow5) (j := 3) rfl (by simp) mono_V fun v H7 e7 pv7 => ?_
            rw [show v = _ from pv7]
            have e67 := e6.trans e7
            exact ⟨_, rfl, c5.trans ((Same.chg e67).trans Chg.upd), (w5.mono e67).put (by omega) hx0 (by omega) hz⟩
          · exact ⟨_, rfl, c5.trans (Same.chg e6), w5.mono e6⟩
        · obtain ⟨s2, rfl, c6, w6⟩ := hm
          refine s_ret (y_mod (y_int1 (y_var (n := 3) (v := .int c) rfl)) (y_var (n := 1) (v := .int m) rfl) m0) fun v H7 e7 pv7 => ?_
          rw [show v = _ from pv7]
          exact k _ H7 (Int.emod_nonneg _ (by omega)) (Int.emod_lt_of_pos _ m0) (c6.trans (Same.chg e7)) (w6.mono e7)
end
end BC
namespace BC
open L2 PySem PySem.Spec PyProof.Rows
theorem bd_divInt {t l : Int} {M B : Nat} (l0 : 0 < l) (hd : l ∣ (M : Int)) (h1 : -((B : Int) * l) ≤ t) (h2 : t ≤ (B : Int) * l) : Bd M B (Rat.divInt t l) := by
  have lp : (0 : Rat) < (l : Rat) := Rat.intCast_pos.mpr l0
  have ln : (l : Rat) ≠ 0 := by grind
  have e : Rat.divInt t l * (l : Rat) = (t : Rat) := by
    rw [Rat.divInt_eq_div]
    exact Rat.div_mul_cancel ln
  obtain ⟨k, hk⟩ := hd
  have hM : (M : Rat) = (l : Rat) * (k : Rat) := by
    rw [← Rat.intCast_mul, ← hk, Rat.intCast_natCast]
  refine ⟨⟨t * k, ?_⟩, ?_, ?_⟩
  · rw [hM, Rat.intCast_mul, ← e]
    grind
  · refine Rat.le_of_mul_le_mul_right (c := (l : Rat)) ?_ lp
    rw [e]
    have z := Rat.intCast_le_intCast.mpr h1
    rw [Rat.intCast_neg, Rat.intCast_mul, Rat.intCast_natCast] at z
    grind
  · refine Rat.le_of_mul_le_mul_right (c := (l : Rat)) ?_ lp
    rw [e]
    have z := Rat.intCast_le_intCast.mpr h2
    rw [Rat.intCast_mul, Rat.intCast_natCast] at z
    exact z
theorem divInt_pos {t l : Int} (t0 : 0 < t) (l0 : 0 < l) : 0 < Rat.divInt t l := by
  have lp : (0 : Rat) < (l : Rat) := Rat.intCast_pos.mpr l0
  have tp : (0 : Rat) < (t : Rat) := Rat.intCast_pos.mpr t0
  rw [Rat.divInt_eq_div, Rat.div_def]
  exact Rat.mul_pos tp (Rat.inv_pos.mpr lp)
theorem divInt_nn {t l : Int} (t0 : 0 ≤ t) (l0 : 0 < l) : 0 ≤ Rat.divInt t l := by
  exact Rat.divInt_nonneg t0 (by omega)
def sp_law_pick (K : PySem.W.Frag) : Sp := fun vs H Q _ => ∃ (r p : Addr) (xs : List V) (a : Addr) (ns : List Int), vs = [.ref r, .ref p] ∧ ((H p = some (.lst xs) ∧ p ≠ r) ∨ SqT K H p xs) ∧ 0 < xs.length ∧ xs.length < 1000 ∧ Rw K H r a ns ∧
  ∀ (j : Nat) v H', xs[j]? = some v → Chg r H H' → Rw K H' r a ns → Q v H'
def sp_law_draw (K : PySem.W.Frag) : Sp := fun vs H Q _ => ∃ (r a : Addr) (ns : List Int), vs = [.ref r] ∧ Rw K H r a ns ∧ ∀ q v H', Bd 12 6 q → RatAt K H' v q → Chg r H H' → Rw K H' r a ns → Q v H'
theorem sc_law_pick : FnScope ["_law_row", "_law_things"] ["_law_row", "_law_things"] (defScope s__law_pick) := ⟨rfl, rfl, rfl, by decide +kernel, rfl, by decide +kernel, by decide +kernel⟩
theorem sc_law_draw : FnScope ["_law_row", "_law_low"] ["_law_row"] (defScope s__law_draw) := ⟨rfl, rfl, rfl, by decide +kernel, rfl, by decide +kernel, by decide +kernel⟩
section
variable {K : PySem.W.Frag} {H H' : Hp} {σ : L2.St} {ta tb te tl : TE} {r a : Addr} {ns : List Int}
/-- a part that draws -/
def Yd (K : PySem.W.Frag) (r a : Addr) (ns : List Int) (te : TE) (σ : L2.St) (H : Hp) (P : V → Hp → Prop) : Prop := ∀ Q : VK, (∀ v H2, Chg r H H2 → Rw K H2 r a ns → P v H2 → Q v H2) → te σ H Q
theorem yd_taken {n : Nat} {m : Int} (w : Rw K H r a ns) (h : σ[n]? = some (some (.ref r))) (hb : Ys tb σ H (isI m)) (m0 : 0 < m) (m1 : m < 1073741824) : Yd K r a ns (tCall (sp_law_taken K) [] E0 (tCons (tVar n) (tCons tb tNil))) σ H (fun v _ => ∃ k : Int, v = .int k ∧ 0 ≤ k ∧ k < m) := fun Q q =>
  ⟨.ref r, h, hb H (Same.refl _) _ fun v H2 e pv => ⟨r, a, ns, m, by rw [show v = _ from pv] <;> rfl, w.mono e, m0, m1, fun k H3 k0 k1 c w3 => q _ H3 ((Same.chg e).trans c) w3 ⟨k, rfl, k0, k1⟩⟩⟩
theorem yd_pickL {n : Nat} {xs : List Int} {P : Int → Prop} (w : Rw K H r a ns) (h : σ[n]? = some (some (.ref r))) (hb : Ys tb σ H (fun v H' => ∃ p, v = .ref p ∧ H p = none ∧ H' p = some (.lst (xs.map V.int)))) (h0 : 0 < xs.length) (h1 : xs.length < 1000) (hP : ∀ x ∈ xs, P x) :
    Yd K r a ns (tCall (sp_law_pick K) [] E0 (tCons (tVar n) (tCons tb tNil))) σ H (fun v _ => ∃ k : Int, v = .int k ∧ P k) := fun Q q =>
  ⟨.ref r, h, hb H (Same.refl _) _ fun v H2 e pv => by
    obtain ⟨p, rfl, hp0, hp⟩ := pv
    obtain ⟨i, s, z, hrow, _⟩ := w.row
    refine ⟨r, p, xs.map V.int, a, ns, rfl, .inl ⟨hp, fun z => ?_⟩, by simpa using h0, by simpa using h1, w.mono e, fun j v H3 hj c w3 => ?_⟩
    · rw [z] at hp0
      have : H r = some _ := hrow
      rw [hp0] at this
      cases this
    · rw [List.getElem?_map] at hj
      cases hx : xs[j]? with
      | none => rw [hx] at hj; cases hj
      | some x =>
        rw [hx] at hj
        exact q v H3 ((Same.chg e).trans c) w3 ⟨x, (Option.some.inj hj).symm, hP x (List.mem_of_getElem? hx)⟩⟩
theorem yd_pickT {n : Nat} {p : Addr} {us : List V} {qs : List Rat} (w : Rw K H r a ns) (h : σ[n]? = some (some (.ref r))) (hb : Ys tb σ H (isV (.ref p))) (ht : SqT K H p us) (hr : Rats K H us qs) (h0 : 0 < qs.length) (h1 : qs.length < 1000) :
    Yd K r a ns (tCall (sp_law_pick K) [] E0 (tCons (tVar n) (tCons tb tNil))) σ H (fun v H' => ∃ j, j < qs.length ∧ RatAt K H' v (qs.getD j 0)) := fun Q q =>
  ⟨.ref r, h, hb H (Same.refl _) _ fun v H2 e pv => by
    have lv := rats_len hr
    refine ⟨r, p, us, a, ns, by rw [show v = _ from pv] <;> rfl, .inr (Same.tup e ht), by omega, by omega, w.mono e, fun j v H3 hj c w3 => ?_⟩
    have hj2 : j < qs.length := by
      have := (List.getElem?_eq_some_iff.mp hj).1
      omega
    obtain ⟨x, hx1, hx2⟩ := Paired.at1 hr hj
    rw [getD_at hj2] at hx1
    cases hx1
    exact q v H3 ((Same.chg e).trans c) w3 ⟨j, hj2, RatAt.chg ((show RatAt K H v (qs.getD j 0) from hx2).mono e) (w.mono e) c⟩⟩
theorem yd_draw {n : Nat} (w : Rw K H r a ns) (h : σ[n]? = some (some (.ref r))) : Yd K r a ns (tCall (sp_law_draw K) [] E0 (tCons (tVar n) tNil)) σ H (fun v H' => ∃ q, Bd 12 6 q ∧ RatAt K H' v q) := fun Q q =>
  ⟨.ref r, h, r, a, ns, rfl, w, fun x v H3 b rx c w3 => q v H3 c w3 ⟨x, b, rx⟩⟩
/-- [1, 2, 3]: a new list of written ints -/
theorem y_newInts {te : TA} {xs : List Int} (h : ∀ H1 (Q : List V → Hp → Prop), Q (xs.map V.int) H1 → te σ H1 Q) (hl : xs.length < 1000) : Ys (tLst te) σ H (fun v H' => ∃ p, v = .ref p ∧ H p = none ∧ H' p = some (.lst (xs.map V.int))) := fun H1 e Q q =>
  h H1 _ ⟨Nat.le_trans (by rw [List.length_map]; omega) (show 1000 ≤ sizeLine by decide), fun p hp => q _ _ (Same.new hp) ⟨p, rfl, e.free hp, upd_same⟩⟩
end
section
variable {K : PySem.W.Frag} {mg : Str → Option Value} {P : Program} {w : World} {base : Heap}
theorem ok_law_pick (T : TX K mg) : Def P w K mg base 2 "_law_pick" ["_law_row", "_law_things"] (sp_law_pick K) := by
  have G : Def P w K mg base 1 "_law_taken" ["_law_row", "_law_many"] (sp_law_taken K) := ok_law_taken T
  refine T._law_pick.def_ sc_law_pick (fun _ _ _ _ _ _ us hl => match us, hl with | [_, _], _ => rfl) (fun vs H Q E h => ?_) (fun cdv A outer s H vs Q E hr h => ?_)
  · obtain ⟨r, p, xs, a, ns, rfl, _⟩ := h
    rfl
  · obtain ⟨r, p, xs, a, ns, rfl, hk, h0, h1, hw, k⟩ := h
    refine ⟨_, pss_one (ps_ret (pe_ix (IxR.or ix_list ix_tup) (pv 1) (pe_def G hr (pa_cons (pv 0) (pa_cons (pe_callB call_len_seq (by rfl) T.b_len (by decide +kernel) (pa_cons (pv 1) pa_nil)) pa_nil))) (fun _ _ => rfl))), ?_⟩
    refine ⟨.ref p, rfl, ?_⟩
    have hlen : Ys (tCB (fun xs H Q => ∃ p ys, xs = [V.ref p] ∧ (SqL K H p ys ∨ SqT K H p ys) ∧ Q (.int ys.length) H) (tCons (tVar 1) tNil)) (start ["_law_row", "_law_things"] [.ref r, .ref p]) H (isI (xs.length : Int)) := by
      rcases hk with ⟨hk, _⟩ | hk
      · exact y_lenL (y_var (v := .ref p) rfl) (.of hk) rfl
      · exact y_lenT (y_var (v := .ref p) rfl) hk rfl
    refine yd_taken (n := 0) hw rfl hlen (by omega) (by omega) _ fun v H2 c w2 pv => ?_
    obtain ⟨j, rfl, j0, j1⟩ := pv
    obtain ⟨x, hx⟩ : ∃ x, xs[j.toNat]? = some x := ⟨xs[j.toNat]'(by omega), List.getElem?_eq_getElem (by omega)⟩
    have hat : atI xs j = some x := at_of (j := j.toNat) (by omega) hx
    rcases hk with ⟨hk, hne⟩ | hk
    · exact .inl ⟨p, xs, j, x, rfl, rfl, .of (c _ _ hne hk), hat, k j.toNat x H2 hx c w2⟩
    · exact .inr ⟨p, xs, j, x, rfl, rfl, SqT.chg hk hw c, hat, k j.toNat x H2 hx c w2⟩
theorem ok_law_draw (T : TX K mg) : Def P w K mg base 3 "_law_draw" ["_law_row"] (sp_law_draw K) := by
  have Gp : Def P w K mg base 2 "_law_pick" ["_law_row", "_law_things"] (sp_law_pick K) := ok_law_pick T
  have Gt : Def P w K mg base 1 "_law_taken" ["_law_row", "_law_many"] (sp_law_taken K) := ok_law_taken T
  have Gm : Def P w K mg base 1 "_law_made" ["_law_top", "_law_low"] (sp_law_made K) := ok_law_made T
  refine T._law_draw.def_ sc_law_draw (fun _ _ _ _ _ _ us hl => match us, hl with | [_], _ => rfl) (fun vs H Q E h => ?_) (fun cdv A outer s H vs Q E hr h => ?_)
  · obtain ⟨r, a, ns, rfl, _⟩ := h
    rfl
  · obtain ⟨r, a, ns, rfl, hw, k⟩ := h
    have nd := sc_law_draw.nd
    have r1 : Room 1 _ := hr.mono (by decide)
    refine ⟨_, pss_cons (ps_set (i := 1) nd rfl (Or.inl rfl) (pe_def Gp hr (pa_cons (pv 0) (pa_cons (pe_lst (pa_cons pe_int (pa_cons pe_int (pa_cons pe_int (pa_cons pe_int (pa_cons pe_int pa_nil)))))) pa_nil))))
      (pss_one (ps_ret (pe_def Gm r1 (pa_cons (pe_op op_sub (pe_def Gt r1 (pa_cons (pv 0) (pa_cons pe_int pa_nil))) pe_int) (pa_cons (pv 1) pa_nil))))), ?_⟩
    refine yd_pickL (n := 0) (xs := [1, 1, 2, 3, 4]) (P := fun x => x = 1 ∨ x = 2 ∨ x = 3 ∨ x = 4) hw rfl (y_newInts (fun H1 Q q => q) (by decide)) (by decide) (by decide) (by decide) _ fun v H1 c1 w1 pv1 => ?_
    obtain ⟨l, rfl, hl⟩ := pv1
    refine yd_taken (n := 0) w1 rfl (y_c (v := .int 13)) (by decide) (by decide) _ fun v H2 c2 w2 pv2 => ?_
    obtain ⟨t, rfl, t0, t1⟩ := pv2
    refine ⟨t, 6, rfl, rfl, .int l, rfl, t - 6, l, rfl, by omega, by omega, fun v H3 e3 r3 => ?_⟩
    refine k _ v H3 (bd_divInt (by omega) ?_ (by omega) (by omega)) r3 ((c1.trans c2).trans (Same.chg e3)) (w2.mono e3)
    rcases hl with rfl | rfl | rfl | rfl <;> decide
end
end BC
namespace BC
open L2 PySem PySem.Spec PyProof.Rows
/-- a list of ratios apart from r -/
def isLr (K : PySem.W.Frag) (r : Addr) (qs : List Rat) : V → Hp → Prop := fun v H => ∃ l ys, v = .ref l ∧ l ≠ r ∧ H l = some (.lst ys) ∧ Rats K H ys qs
section
variable {K : PySem.W.Frag} {H H' : Hp} {σ : L2.St} {ta tb te tl : TE} {r a : Addr} {ns : List Int}
theorem mono_Lr {qs : List Rat} : Mono (isLr K r qs) := fun _ _ _ ⟨l, ys, a, n, b, c⟩ e => ⟨l, ys, a, n, e _ _ b, c.mono e⟩
theorem chg_Lr {qs : List Rat} {v : V} (h : isLr K r qs v H) (w : Rw K H r a ns) (c : Chg r H H') : isLr K r qs v H' := by
  obtain ⟨l, ys, e, n, b, u⟩ := h
  exact ⟨l, ys, e, n, c _ _ n b, u.chg w c⟩
theorem Rw.chg (w : Rw K H r a ns) (c : Chg r H H') (h : ∃ i s z : Int, RowIs H' r a i s z ∧ 0 ≤ i ∧ 0 ≤ s ∧ s < 2147483648 ∧ 0 ≤ z) : Rw K H' r a ns := by
  obtain ⟨⟨i, s, z, h1, _⟩, h2⟩ := w
  exact ⟨h, scr_chg h2 h1 c⟩
theorem Rw.ne (w : Rw K H r a ns) {l : Addr} (h : H l = none) : l ≠ r := fun e => by
  obtain ⟨⟨i, s, z, h1, _⟩, h2⟩ := w
  have h3 : H r = some _ := h1
  rw [← e, h] at h3
  cases h3
/-- [x] * n -/
theorem y_repR {q : Rat} {n : Int} (ha : Ys ta σ H (isR K q)) (hn : Ys tb σ H (isI n)) (h0 : 0 ≤ n ∧ n < 1000) : Ys (tOp rRep (tLst (tCons ta tNil)) tb) σ H (newL K H (List.replicate n.toNat q)) := fun H1 e Q k => ha H1 e _ fun u H2 e2 pu => by
  refine ⟨by show 1 ≤ sizeLine; decide, fun l hl => ?_⟩
  have e12 := e.trans e2
  refine hn _ (e12.trans (Same.new hl)) _ fun v H3 e3 pv => ?_
  refine ⟨l, n, [u], rfl, pv, e3 _ _ upd_same, by omega, by omega, Nat.le_trans (by show 1 * n.toNat ≤ 1000; omega) (by decide), fun l2 hl2 => ?_⟩
  have e14 := e2.trans ((Same.new hl).trans (e3.trans (Same.new hl2 (o := .lst (List.replicate n.toNat [u]).flatten))))
  refine k _ _ e14 ⟨l2, List.replicate n.toNat u, rfl, ?_, ?_, ?_⟩
  · cases z : H l2 with
    | none => rfl
    | some o => rw [(e12.trans ((Same.new hl).trans e3)) _ _ z] at hl2; cases hl2
  · rw [flat_rep]
    exact upd_same
  · exact paired_rep (RatAt.mono pu ((Same.new hl).trans (e3.trans (Same.new hl2)))) _
/-- xs + ys -/
theorem y_cat {p q : List Rat} (ha : Ys ta σ H (isL K p)) (hb : Ys tb σ H (isL K q)) (h : p.length + q.length < 1000) : Ys (tOp rCat ta tb) σ H (newL K H (p ++ q)) :=
  y_op ha hb mono_L fun x y H1 e px py Q k => by
    obtain ⟨l1, ys1, rfl, h1, r1⟩ := px
    obtain ⟨l2, ys2, rfl, h2, r2⟩ := py
    have n1 := rats_len r1
    have n2 := rats_len r2
    exact ⟨l1, l2, ys1, ys2, rfl, rfl, h1, h2, Nat.le_trans (by omega) (show 1000 ≤ sizeLine by decide), fun l hl => k _ _ (Same.new hl) ⟨l, _, rfl, e.free hl, upd_same, paired_app (r1.mono (Same.new hl)) (r2.mono (Same.new hl))⟩⟩
theorem Ys.toL {qs : List Rat} (h : Ys te σ H (newL K H qs)) : Ys te σ H (isL K qs) := h.imp fun v H1 e ⟨l, ys, a, _, b, c⟩ => ⟨l, ys, a, b, c⟩
theorem Ys.toLr {qs : List Rat} (w : Rw K H r a ns) (h : Ys te σ H (newL K H qs)) : Ys te σ H (isLr K r qs) := h.imp fun v H1 e ⟨l, ys, a, n, b, c⟩ => ⟨l, ys, a, w.ne n, b, c⟩
theorem Lr_L {qs : List Rat} {v : V} (h : isLr K r qs v H) : isL K qs v H := by
  obtain ⟨l, ys, a, _, b, c⟩ := h
  exact ⟨l, ys, a, b, c⟩
/-- tuple(xs) -/
theorem y_tupL {qs : List Rat} (ha : Ys ta σ H (isL K qs)) : Ys (tCB (fun xs H Q => ∃ p ys, xs = [V.ref p] ∧ ((SqL K H p ys ∧ ∀ l, H l = none → Q (.ref l) (upd H l (.tup ys))) ∨ (SqT K H p ys ∧ Q (.ref p) H))) (tCons ta tNil)) σ H (isP K qs) :=
  y_cb1 ha fun x H1 e px Q q => by
    obtain ⟨l, vs, rfl, hl, hr⟩ := px
    exact ⟨l, vs, rfl, .inl ⟨.of hl, fun t ht => q _ _ (Same.new ht) ⟨t, vs, rfl, .of upd_same, hr.mono (Same.new ht)⟩⟩⟩
/-- xs[:n], xs[-n:] -/
theorem y_headL {qs : List Rat} {z : Int} {n : Nat} (h : Ys te σ H (isL K qs)) (hb : Ys tb σ H (isI z)) (ez : z = (n : Int)) : Ys (tSl (rSlL K) te tNoPart (tPart tb)) σ H (isL K (qs.take n)) := fun H1 e Q q => h H1 e _ fun v H2 e2 pv => hb H2 (e.trans e2) _ fun x H3 e3 px => by
  obtain ⟨l, vs, rfl, hl, hr⟩ := pv
  refine ⟨z, px, l, vs, rfl, .of (e3 _ _ hl), fun p hp => q _ _ ((e2.trans e3).trans (Same.new hp)) ⟨p, _, rfl, upd_same, ?_⟩⟩
  rw [ez, cut_take]
  exact paired_take n (hr.mono (e3.trans (Same.new hp)))
theorem cut_tail (xs : List V) {n : Nat} {z : Int} (hz : z = -(n : Int)) (h1 : 1 ≤ n) (h2 : n ≤ xs.length) : cutV xs (some z) none = xs.drop (xs.length - n) := by
  have e : HT.sIx xs.length 0 (some z) = xs.length - n := by
    show (if z < 0 then (z + (xs.length : Int)).toNat else min z.toNat xs.length) = _
    rw [if_pos (by omega)]
    omega
  unfold cutV
  rw [e, HT.sIx_none, List.take_of_length_le (by rw [List.length_drop]; omega)]
theorem y_tailL {qs : List Rat} {z : Int} {n : Nat} (h : Ys te σ H (isL K qs)) (hb : Ys tb σ H (isI z)) (hz : z = -(n : Int)) (h1 : 1 ≤ n) (h2 : n ≤ qs.length) : Ys (tSl (rSlL K) te (tPart tb) tNoPart) σ H (isL K (qs.drop (qs.length - n))) := fun H1 e Q q => h H1 e _ fun v H2 e2 pv => hb H2 (e.trans e2) _ fun x H3 e3 px => by
  obtain ⟨l, vs, rfl, hl, hr⟩ := pv
  have lv := rats_len hr
  refine ⟨z, px, l, vs, rfl, .of (e3 _ _ hl), fun p hp => q _ _ ((e2.trans e3).trans (Same.new hp)) ⟨p, _, rfl, upd_same, ?_⟩⟩
  rw [cut_tail vs hz h1 (by omega), lv]
  exact paired_drop _ (hr.mono (e3.trans (Same.new hp)))
theorem y_lenLL {qs : List Rat} {n : Int} (ha : Ys ta σ H (isL K qs)) (e : (qs.length : Int) = n) : Ys (tCB (fun xs H Q => ∃ p ys, xs = [.ref p] ∧ (SqL K H p ys ∨ SqT K H p ys) ∧ Q (.int ys.length) H) (tCons ta tNil)) σ H (isI n) :=
  y_cb1 ha fun x H1 e1 px Q q => by
    obtain ⟨l, vs, rfl, hl, hr⟩ := px
    have lv := rats_len hr
    exact ⟨l, vs, rfl, .inl (.of hl), q _ _ (Same.refl _) (by rw [← e, lv] <;> rfl)⟩
theorem y_lenPP {qs : List Rat} {n : Int} (ha : Ys ta σ H (isP K qs)) (e : (qs.length : Int) = n) : Ys (tCB (fun xs H Q => ∃ p ys, xs = [.ref p] ∧ (SqL K H p ys ∨ SqT K H p ys) ∧ Q (.int ys.length) H) (tCons ta tNil)) σ H (isI n) :=
  y_cb1 ha fun x H1 e1 px Q q => by
    obtain ⟨l, vs, rfl, hl, hr⟩ := px
    have lv := rats_len hr
    exact ⟨l, vs, rfl, .inr hl, q _ _ (Same.refl _) (by rw [← e, lv] <;> rfl)⟩
theorem yd_of {P : V → Hp → Prop} (w : Rw K H r a ns) (h : Ys te σ H P) : Yd K r a ns te σ H P := fun Q q => h H (Same.refl _) Q fun v H2 e p => q v H2 (Same.chg e) (w.mono e) p
/-- xs + [x] * n, where the parts may draw -/
theorem yd_cat {ks : List Rat} {v5 : V} {L M n : Nat} {G : Rat → Prop} {tx tc : TE} (w : Rw K H r a ns) (h5 : σ[n]? = some (some v5)) (l5 : isLr K r ks v5 H) (hx : Yd K r a ns tx σ H (fun v H' => ∃ q, G q ∧ RatAt K H' v q))
    (hc : ∀ H1, Rw K H1 r a ns → Yd K r a ns tc σ H1 (fun v _ => ∃ m : Nat, v = .int (m : Int) ∧ L ≤ m ∧ m ≤ M)) (hl : ks.length + M < 1000) :
    Yd K r a ns (tOp rCat (tVar n) (tOp rRep (tLst (tCons tx tNil)) tc)) σ H (fun v H' => ∃ q m, G q ∧ L ≤ m ∧ m ≤ M ∧ isLr K r (ks ++ List.replicate m q) v H') := fun Q k => by
  refine ⟨v5, h5, hx _ fun u H1 c1 w1 pu => ?_⟩
  obtain ⟨q, gq, ru⟩ := pu
  refine ⟨by show 1 ≤ sizeLine; decide, fun l hl1 => ?_⟩
  have nl := w1.ne hl1
  have w1' : Rw K (upd H1 l (.lst [u])) r a ns := w1.mono (Same.new hl1)
  refine hc _ w1' _ fun v H2 c2 w2 pv => ?_
  obtain ⟨m, rfl, m1, m2⟩ := pv
  refine ⟨l, (m : Int), [u], rfl, rfl, c2 _ _ nl upd_same, by omega, by omega, Nat.le_trans (by show 1 * (m : Int).toNat ≤ 1000; omega) (by decide), fun l2 hl2 => ?_⟩
  have l5' := chg_Lr l5 w c1
  obtain ⟨l0, ys0, rfl, n0, h0, r0⟩ := chg_Lr (mono_Lr _ _ _ l5' (Same.new hl1 (o := .lst [u]))) w1' c2
  have ru2 : RatAt K H2 u q := (RatAt.mono ru (Same.new hl1 (o := .lst [u]))).chg w1' c2
  have n2 := w2.ne hl2
  have e3 : Same H2 (upd H2 l2 (.lst (List.replicate (m : Int).toNat [u]).flatten)) := Same.new hl2
  have lv := rats_len r0
  refine ⟨l0, l2, ys0, List.replicate m u, rfl, rfl, e3 _ _ h0, ?_, Nat.le_trans (by rw [List.length_replicate]; omega) (show 1000 ≤ sizeLine by decide), fun l3 hl3 => ?_⟩
  · rw [flat_rep]
    exact upd_same
  · have e4 : Same H2 _ := e3.trans (Same.new hl3 (o := .lst (ys0 ++ List.replicate m u)))
    have w3 := w2.mono e3
    refine k _ _ (((c1.trans (Same.chg (Same.new hl1))).trans c2).trans (Same.chg e4)) (w2.mono e4) ⟨q, m, gq, m1, m2, l3, _, rfl, w3.ne hl3, upd_same, paired_app (r0.mono e4) (paired_rep (ru2.mono e4) _)⟩
theorem chg_mut {D : Addr} {o : HO} (c : Chg r H H') (h : H D = none) : Chg r H (upd H' D o) := fun b u n hb => by
  rw [upd_ne (ne_of_none hb h)]
  exact c b u n hb
theorem s_retD {D : Ends} {P : V → Hp → Prop} (h : Yd K r a ns te σ H P) (k : ∀ v H1, Chg r H H1 → Rw K H1 r a ns → P v H1 → D.rt v H1) : tRet te D σ H := h _ k
theorem s_setD {D : Ends} {P : V → Hp → Prop} {n : Nat} (h : Yd K r a ns te σ H P) (k : ∀ v H1, Chg r H H1 → Rw K H1 r a ns → P v H1 → D.nx (σ.set n (some v)) H1) : tAsg te (gName n) D σ H := h _ k
theorem yd_tupL {C : List Rat → Prop} (h : Yd K r a ns te σ H (fun v H' => ∃ qs, C qs ∧ isLr K r qs v H')) :
    Yd K r a ns (tCB (fun xs H Q => ∃ p ys, xs = [V.ref p] ∧ ((SqL K H p ys ∧ ∀ l, H l = none → Q (.ref l) (upd H l (.tup ys))) ∨ (SqT K H p ys ∧ Q (.ref p) H))) (tCons te tNil)) σ H (fun v H' => ∃ qs, C qs ∧ isP K qs v H') := fun Q q =>
  h _ fun x H1 c w1 px => by
    obtain ⟨qs, hc, l, vs, rfl, nl, hl, hr⟩ := px
    exact ⟨l, vs, rfl, .inl ⟨.of hl, fun t ht => q _ _ (c.trans (Same.chg (Same.new ht))) (w1.mono (Same.new ht)) ⟨qs, hc, t, vs, rfl, .of upd_same, hr.mono (Same.new ht)⟩⟩⟩
theorem yd_spl {d : Nat} {ks : List Rat} {C : List Rat → Prop} (w : Rw K H r a ns) (ha : Ys ta σ H (isI (d : Int))) (hb : Ys tb σ H (isP K ks)) (hc : ∀ H1, Same H H1 → Yd K r a ns tl σ H1 (fun v H' => ∃ qs, C qs ∧ isP K qs v H')) :
    Yd K r a ns (tTup (tCons ta (tCons tb (tCons tl tNil)))) σ H (fun v H' => ∃ qs, C qs ∧ isS K d ks qs v H') := fun Q q =>
  ha H (Same.refl _) _ fun x H1 e1 px => hb H1 e1 _ fun y H2 e2 py => hc H2 (e1.trans e2) _ fun z H3 c w3 pz => by
    obtain ⟨qs, hC, p3, ws, rfl, t3, r3⟩ := pz
    obtain ⟨p2, us, rfl, t2, r2⟩ := chg_P py (w.mono (e1.trans e2)) c
    refine ⟨by show 3 ≤ sizeLine; decide, fun p hp => ?_⟩
    have e : Same H3 (upd H3 p (.tup [x, .ref p2, .ref p3])) := Same.new hp
    refine q _ _ ((Same.chg (e1.trans e2)).trans (c.trans (Same.chg e))) (w3.mono e) ⟨qs, hC, p, p2, p3, us, ws, rfl, ?_, Same.tup e t2, r2.mono e, Same.tup e t3, r3.mono e⟩
    rw [← show x = _ from px]
    exact .of upd_same
/-- the numbers drawn -/
theorem yd_draws {z : Int} {m : Nat} (w : Rw K H r a ns) (hz : Ys tb σ H (isI z)) (ez : z = (m : Int)) (hm : m < 1000) (hwp : ∀ x, wipe ((wipe σ [7]).set 7 (some x)) [7] = wipe σ [7]) (hs : ∀ x, ((wipe σ [7]).set 7 (some x))[0]? = some (some (.ref r))) :
    Yd K r a ns (tLc (iRng1 (tCons tb tNil)) (gName 7) tYes (tCall (sp_law_draw K) [] E0 (tCons (tVar 0) tNil)) [7]) σ H (fun v H' => ∃ qs : List Rat, qs.length = m ∧ AllB 12 6 qs ∧ isLr K r qs v H') := fun Q q =>
  hz H (Same.refl _) _ fun v H1 e1 pv => by
    refine ⟨z, by rw [show v = _ from pv], by omega, by omega, fun D hD => ?_⟩
    have w1 := w.mono e1
    have nD := w1.ne hD
    have en : z.toNat = m := by omega
    rw [en]
    refine lc_range (lo := 0) (n := m) (fun i H' => ∃ (ys : List V) (qs : List Rat), H' D = some (.lst ys) ∧ Rats K H' ys qs ∧ qs.length = i ∧ AllB 12 6 qs ∧ Chg r H1 H' ∧ Rw K H' r a ns) ⟨[], [], upd_same, .nil, rfl, (fun c hc => by cases hc), Same.chg (Same.new hD), w1.mono (Same.new hD)⟩ (fun i H' hi p => ?_) fun H' p => ?_
    · obtain ⟨ys, qs, hys, hr, hl, hb, c, w2⟩ := p
      refine ⟨hwp _, ?_⟩
      dsimp only [tYes, if_true]
      refine yd_draw (n := 0) w2 (hs _) _ fun y H2 c2 w3 py => ?_
      obtain ⟨x, xb, rx⟩ := py
      have hD2 : H2 D = some (.lst ys) := c2 _ _ nD hys
      have lv := rats_len hr
      have cm : Chg r H1 (upd H2 D (.lst (ys ++ [y]))) := chg_mut (c.trans c2) hD
      refine ⟨ys, hD2, Nat.lt_of_lt_of_le (by omega : ys.length < 1000) (by decide), _, qs ++ [x], upd_same, Paired.snoc ((hr.chg w2 c2).apart hD2) (RatAt.apart rx hD2), by rw [List.length_append, hl] <;> rfl, fun u hu => ?_, cm, w1.chg cm ?_⟩
      · rcases List.mem_append.mp hu with h | h
        · exact hb u h
        · rw [List.mem_singleton.mp h]
          exact xb
      · obtain ⟨i', s', z', g1, g2⟩ := w3.row
        refine ⟨i', s', z', ?_, g2⟩
        show upd H2 D _ r = _
        rw [upd_ne (Ne.symm nD)]
        exact g1
    · obtain ⟨ys, qs, hys, hr, hl, hb, c, w2⟩ := p
      exact q _ H' ((Same.chg e1).trans c) w2 ⟨qs, hl, hb, D, ys, rfl, nD, hys, hr⟩
end
def sp_law_spline (K : PySem.W.Frag) : Sp := fun vs H Q _ => ∃ (r a : Addr) (ns : List Int), vs = [.ref r, .int 4] ∧ Rw K H r a ns ∧ ∀ d ks rs v H', SOk d ks rs → AllB 12 6 rs → isS K d ks rs v H' → Chg r H H' → Rw K H' r a ns → Q v H'
abbrev nSp : List Str := ["_law_row", "_law_most", "_law_degree", "_law_low", "_law_now", "_law_knots", "_law_turn", "_law_at"]
theorem sc_law_spline : FnScope nSp ["_law_row", "_law_most"] (defScope s__law_spline) := ⟨rfl, rfl, rfl, by decide +kernel, rfl, by decide +kernel, by decide +kernel⟩
section
variable {K : PySem.W.Frag} {mg : Str → Option Value} {P : Program} {w : World} {base : Heap}
theorem ok_law_spline (T : TX K mg) : Def P w K mg base 4 "_law_spline" ["_law_row", "_law_most"] (sp_law_spline K) := by
  have Gt : Def P w K mg base 1 "_law_taken" ["_law_row", "_law_many"] (sp_law_taken K) := ok_law_taken T
  have Gp : Def P w K mg base 2 "_law_pick" ["_law_row", "_law_things"] (sp_law_pick K) := ok_law_pick T
  have Gd : Def P w K mg base 3 "_law_draw" ["_law_row"] (sp_law_draw K) := ok_law_draw T
  have Gm : Def P w K mg base 1 "_law_made" ["_law_top", "_law_low"] (sp_law_made K) := ok_law_made T
  have Gpl : Def P w K mg base 2 "_law_plus" ["_law_one", "_law_other"] (sp_law_plus K) := ok_law_plus T
  refine T._law_spline.def_ sc_law_spline (fun _ _ _ _ _ _ us hl => match us, hl with | [_, _], _ => rfl) (fun vs H Q E h => ?_) (fun cdv A outer s H vs Q E hr h => ?_)
  · obtain ⟨r, a, ns, rfl, _⟩ := h
    rfl
  · obtain ⟨r, a, ns, rfl, hw, k⟩ := h
    have nd := sc_law_spline.nd
    have r1 : Room 1 _ := hr.mono (by decide)
    have r2 : Room 2 _ := hr.mono (by decide)
    refine ⟨_, pss_cons (ps_par (i := 2) (j := 3) (by rfl) nd rfl rfl (by decide) rfl rfl (pa_cons (pe_def Gt r1 (pa_cons (pv 0) (pa_cons (pe_op op_add (pv 1) pe_int) pa_nil))) (pa_cons (pe_def Gd hr (pa_cons (pv 0) pa_nil)) pa_nil)) (by rfl))
      (pss_cons (ps_par (i := 4) (j := 5) (by rfl) nd rfl rfl (by decide) rfl rfl (pa_cons (pv 3) (pa_cons (pe_op op_rep (pe_lst (pa_cons (pv 3) pa_nil)) (pe_op op_add (pv 2) pe_int)) pa_nil)) (by rfl))
      (pss_cons (ps_for PassesOwn.never rfl (pi_range1 (by rfl) T.b_range (pa_cons (pe_def Gt r1 (pa_cons (pv 0) (pa_cons pe_int pa_nil))) pa_nil)) (pg_name (i := 6) nd rfl (Or.inl rfl))
        (pss_cons (ps_set (i := 4) nd rfl (Or.inl rfl) (pe_def Gpl r2 (pa_cons (pv 4) (pa_cons (pe_def Gm r1 (pa_cons (pe_op op_add pe_int (pe_def Gt r1 (pa_cons (pv 0) (pa_cons pe_int pa_nil)))) (pa_cons (pe_def Gp r2 (pa_cons (pv 0) (pa_cons (pe_lst (pa_cons pe_int (pa_cons pe_int (pa_cons pe_int pa_nil)))) pa_nil))) pa_nil))) pa_nil))))
        (pss_one (ps_set (i := 5) nd rfl (Or.inl rfl) (pe_op op_cat (pv 5) (pe_op op_rep (pe_lst (pa_cons (pv 4) pa_nil)) (pe_op op_add pe_int (pe_ifExp (pt_cmpR op_eq (pe_def Gt r1 (pa_cons (pv 0) (pa_cons pe_int pa_nil))) pe_int (nomark _)) (pe_def Gt r1 (pa_cons (pv 0) (pa_cons (pe_op op_add (pv 2) pe_int) pa_nil))) pe_int))))))))
      (pss_cons (ps_set (i := 5) nd rfl (Or.inl rfl) (pe_op op_cat (pv 5) (pe_op op_rep (pe_lst (pa_cons (pe_def Gpl r2 (pa_cons (pv 4) (pa_cons (pe_tup (pa_cons (pe_op op_add pe_int (pe_def Gt r1 (pa_cons (pv 0) (pa_cons pe_int pa_nil)))) (pa_cons pe_int pa_nil))) pa_nil))) pa_nil)) (pe_op op_add (pv 2) pe_int))))
      (pss_cons (ps_set (i := 5) nd rfl (Or.inl rfl) (pe_ifExp (pt_cmpR op_gt (pe_callB call_len_seq (by rfl) T.b_len (by decide +kernel) (pa_cons (pv 5) pa_nil)) pe_int (nomark _))
        (pe_callTy call_tuple_of (by rfl) T.b_tuple (by decide +kernel) (pa_cons (pe_op op_cat (pe_slice sl_list (pv 5) po_none (po_some (pe_op op_sub pe_int (pv 2)))) (pe_slice sl_list (pv 5) (po_some (pe_op op_sub (pe_un un_neg (pv 2)) pe_int)) po_none)) pa_nil))
        (pe_callTy call_tuple_of (by rfl) T.b_tuple (by decide +kernel) (pa_cons (pv 5) pa_nil))))
      (pss_one (ps_ret (pe_tup (pa_cons (pv 2) (pa_cons (pv 5) (pa_cons (pe_callTy call_tuple_of (by rfl) T.b_tuple (by decide +kernel) (pa_cons (pe_lc (own := [("_law_at", 7)]) (g := gName 7) (by rfl) nd
          (pi_range1 (by rfl) T.b_range (pa_cons (pe_op op_sub (pe_op op_sub (pe_callB call_len_seq (by rfl) T.b_len (by decide +kernel) (pa_cons (pv 5) pa_nil)) (pv 2)) pe_int) pa_nil)) (blkOk_by (own := [("_law_at", 7)]) (N := nSp) (sc := defScope s__law_spline) (by decide +kernel))
          (fun _ _ _ _ _ => pg_name (i := 7) nd rfl (Or.inl rfl)) (fun _ _ _ _ _ => pts_nil) (fun _ _ _ _ _ => pe_def Gd hr (pa_cons (pv 0) pa_nil))) pa_nil)) pa_nil)))))))))), ?_⟩
    refine s_seq ?_
    refine yd_taken (n := 0) hw rfl (y_add (y_var (n := 1) (v := .int 4) rfl) (y_c (v := .int 1))) (by decide) (by decide) _ fun v H1 c1 w1 p1 => ?_
    obtain ⟨d, rfl, d0, d1⟩ := p1
    obtain ⟨d, rfl⟩ : ∃ n : Nat, d = (n : Int) := ⟨d.toNat, by omega⟩
    refine yd_draw (n := 0) w1 rfl _ fun v3 H2 c2 w2 p2 => ?_
    obtain ⟨low, lowb, rlow⟩ := p2
    refine ⟨_, _, rfl, ?_⟩
    have c12 := c1.trans c2
    refine s_seq (s_par (y_varP (n := 3) (v := v3) rfl mono_R rlow) (Ys.toLr w2 (y_repR (y_varP (n := 3) (v := v3) rfl mono_R rlow) (y_add (y_var (n := 2) (v := .int (d : Int)) rfl) (y_c (v := .int 1))) ⟨by omega, by omega⟩)) mono_R fun v4 v5 H3 e3 p4 p5 => ?_)
    have w3 := w2.mono e3
    have en : (((d : Int) + 1).toNat) = d + 1 := by omega
    rw [en] at p5
    refine s_seq ?_
    refine yd_taken (n := 0) w3 rfl (y_c (v := .int 4)) (by decide) (by decide) _ fun v H4 c4 w4 p6 => ?_
    obtain ⟨nT, rfl, n0, n1⟩ := p6
    refine ⟨nT, rfl, by omega, by omega, for_range (lo := 0) (n := nT.toNat) (fun t σ' H' => ∃ now ks v4 v5 s6, σ' = [some (.ref r), some (.int 4), some (.int (d : Int)), some v3, some v4, some v5, s6, none] ∧ Gr d low now t ks ∧ RatAt K H' v4 now ∧ isLr K r ks v5 H' ∧ Chg r H H' ∧ Rw K H' r a ns)
      ⟨low, _, v4, v5, none, rfl, Gr.start (by omega) lowb, (show RatAt K H3 v4 low from p4).chg w3 c4, chg_Lr p5 w3 c4, c12.trans ((Same.chg e3).trans c4), w4⟩ (fun t σ' H' ht p' => ?_) fun σ' H' p' => ?_⟩
    · obtain ⟨now, ks, v4, v5, s6, rfl, g, rn, lk, c, w⟩ := p'
      have t3 : t < 3 := by omega
      have gle := g.le
      have gm : (d + 1) * (t + 1) ≤ 5 * 3 := Nat.mul_le_mul (by omega) (by omega)
      dsimp only
      refine s_seq ?_
      refine ⟨v4, rfl, ?_⟩
      refine yd_taken (n := 0) w rfl (y_c (v := .int 4)) (by decide) (by decide) _ fun v H5 c5 w5 pv => ?_
      obtain ⟨t1, rfl, t10, t11⟩ := pv
      refine ⟨1, t1, rfl, rfl, ?_⟩
      refine yd_pickL (n := 0) (xs := [1, 2, 3]) (P := fun x => x = 1 ∨ x = 2 ∨ x = 3) w5 rfl (y_newInts (fun H1 Q q => q) (by decide)) (by decide) (by decide) (by decide) _ fun v H6 c6 w6 pv => ?_
      obtain ⟨l, rfl, hl⟩ := pv
      refine ⟨1 + t1, l, rfl, by omega, by omega, fun u H7 e7 ru => ?_⟩
      have q0 := divInt_pos (t := 1 + t1) (l := l) (by omega) (by omega)
      have qb : Bd 12 4 (Rat.divInt (1 + t1) l) := bd_divInt (by omega) (by rcases hl with rfl | rfl | rfl <;> decide) (by omega) (by omega)
      generalize Rat.divInt (1 + t1) l = qq at q0 qb ru
      have rn7 : RatAt K H7 v4 now := ((RatAt.chg rn w c5).chg w5 c6).mono e7
      have lk7 := mono_Lr _ _ _ (chg_Lr (chg_Lr lk w c5) w5 c6) e7
      have nb := g.nowb.mono (C := 18) (by omega)
      refine ⟨v4, u, now, qq, rfl, rn7, ru, lsm_of nb qb dvd_12 dvd_12 (by decide +kernel) (by decide +kernel) (by decide) (by decide) (by decide), fun z H8 e8 rz => ?_⟩
      have c58 : Chg r H' H8 := (c5.trans c6).trans ((Same.chg e7).trans (Same.chg e8))
      have w8 : Rw K H8 r a ns := (w6.mono e7).mono e8
      dsimp only
      refine yd_cat (n := 5) (v5 := v5) (ks := ks) (L := 1) (M := d + 1) (G := fun q => q = now + qq) w8 rfl (mono_Lr _ _ _ lk7 e8) (yd_of w8 (y_varP (n := 4) (v := z) (P := fun v H => ∃ q, q = now + qq ∧ RatAt K H v q) rfl (fun v H H' ⟨q, a, b⟩ e => ⟨q, a, b.mono e⟩) ⟨_, rfl, rz⟩)) (fun H9 w9 Q k9 => ?_) (by omega) _ fun v H9 c9 w9 pv => ?_
      · refine yd_taken (n := 0) w9 rfl (y_c (v := .int 3)) (by decide) (by decide) _ fun v H10 c10 w10 pv => ?_
        obtain ⟨t2, rfl, t20, t21⟩ := pv
        have eqz : V.bl (decide (V.int t2 = V.int 0)) = V.bl (decide (t2 = 0)) := congrArg V.bl (decide_eq_decide.mpr ⟨fun h => V.int.inj h, fun h => congrArg V.int h⟩)
        refine ⟨rfl, decide (t2 = 0), eqz, ?_⟩
        by_cases hz : t2 = 0
        · rw [decide_eq_true hz]
          refine iteT ?_
          refine yd_taken (n := 0) w10 rfl (y_add (y_var (n := 2) (v := .int (d : Int)) rfl) (y_c (v := .int 1))) (by omega) (by omega) _ fun v H11 c11 w11 pv => ?_
          obtain ⟨t3, rfl, t30, t31⟩ := pv
          exact ⟨1, t3, rfl, rfl, k9 _ H11 (c10.trans c11) w11 ⟨(1 + t3).toNat, congrArg V.int (by omega), by omega, by omega⟩⟩
        · rw [decide_eq_false hz]
          refine iteF ?_
          exact ⟨1, 0, rfl, rfl, k9 _ H10 c10 w10 ⟨1, rfl, by omega, by omega⟩⟩
      · obtain ⟨q, m, rfl, m1, m2, lk9⟩ := pv
        exact ⟨now + qq, _, z, v, some (.int ((0 : Int) + (t : Int))), rfl, g.app t3 q0 qb m1 m2, rz.chg w8 c9, lk9, c.trans (c58.trans c9), w9⟩
    · obtain ⟨now, ks, v4, v5, s6, rfl, g, rn, lk, c, w⟩ := p'
      have t3 : nT.toNat ≤ 3 := by omega
      have gle := g.le
      have gge := g.ge
      have gm : (d + 1) * (nT.toNat + 1) ≤ 5 * 4 := Nat.mul_le_mul (by omega) (by omega)
      dsimp only
      refine s_seq ?_
      refine yd_cat (n := 5) (v5 := v5) (ks := ks) (L := d + 1) (M := d + 1) (G := fun q => ∃ k : Nat, 1 ≤ k ∧ k ≤ 3 ∧ q = now + (k : Rat)) w rfl lk (fun Q k9 => ?_) (fun H9 w9 => yd_of w9 ((y_add (y_var (n := 2) (v := .int (d : Int)) rfl) (y_c (v := .int 1))).imp fun v H2 e p => ⟨d + 1, by rw [show v = _ from p] <;> rfl, by omega, by omega⟩)) (by omega) _ fun v H9 c9 w9 pv => ?_
      · refine ⟨v4, rfl, ?_⟩
        refine yd_taken (n := 0) w rfl (y_c (v := .int 3)) (by decide) (by decide) _ fun v H5 c5 w5 pv => ?_
        obtain ⟨t1, rfl, t10, t11⟩ := pv
        refine ⟨1, t1, rfl, rfl, by show 2 ≤ sizeLine; decide, fun p hp => ?_⟩
        obtain ⟨m, hm⟩ : ∃ m : Nat, 1 + t1 = (m : Int) := ⟨(1 + t1).toNat, by omega⟩
        have kb : Bd 12 3 (m : Rat) := by
          have z := (bd_int (B := 3) (i := (m : Int)) (by omega) (by omega)).wide (Nat.one_dvd 12)
          rw [Rat.intCast_natCast] at z
          exact z
        have nb := g.nowb.mono (C := 18) (by omega)
        refine ⟨v4, .ref p, now, (m : Rat), rfl, (RatAt.chg rn w c5).mono (Same.new hp), ⟨p, rfl, .of ?_⟩, lsm_of nb kb dvd_12 dvd_12 (by decide +kernel) (by decide +kernel) (by decide) (by decide) (by decide), fun z H6 e6 rz => ?_⟩
        · rw [upd_same]
          show some (HO.tup [V.int (1 + t1), V.int 1]) = _
          rw [hm, ratL, Rat.num_natCast, Rat.den_natCast]
          rfl
        · exact k9 z H6 (c5.trans (Same.chg ((Same.new hp).trans e6))) (w5.mono ((Same.new hp).trans e6)) ⟨_, ⟨m, by omega, by omega, rfl⟩, rz⟩
      · obtain ⟨e, m, ⟨kk, k1, k3, rfl⟩, m1, m2, lk9⟩ := pv
        obtain rfl : m = d + 1 := by omega
        have hd4 := g.d4
        have len9 : (ks ++ List.replicate (d + 1) (now + (kk : Rat))).length = ks.length + (d + 1) := by rw [List.length_append, List.length_replicate]
        obtain ⟨kz, hz1, hz2, hz3⟩ : ∃ kz, (16 < (ks ++ List.replicate (d + 1) (now + (kk : Rat))).length → kz = (ks ++ List.replicate (d + 1) (now + (kk : Rat))).take (15 - d) ++ (ks ++ List.replicate (d + 1) (now + (kk : Rat))).drop ((ks ++ List.replicate (d + 1) (now + (kk : Rat))).length - (d + 1))) ∧
            (¬ 16 < (ks ++ List.replicate (d + 1) (now + (kk : Rat))).length → kz = ks ++ List.replicate (d + 1) (now + (kk : Rat))) ∧ KOk d kz := by
          by_cases hb : 16 < (ks ++ List.replicate (d + 1) (now + (kk : Rat))).length
          · refine ⟨_, fun _ => rfl, fun z => absurd hb z, ?_⟩
            rw [cut_knots hd4 hb]
            exact (g.take (n := 15 - d) (by omega) (by omega)).fin t3 k1 k3 (by rw [List.length_take]; omega)
          · exact ⟨_, fun z => absurd z hb, fun _ => rfl, g.fin t3 k1 k3 (by omega)⟩
        generalize ks ++ List.replicate (d + 1) (now + (kk : Rat)) = kt at lk9 len9 hz1 hz2
        have yk : ∀ {H : Hp}, Same H9 H → Ys (tVar 5) [some (.ref r), some (.int 4), some (.int (d : Int)), some v3, some v4, some v, s6, none] H (isL K kt) := fun e => y_varP (v := v) rfl mono_L (mono_L _ _ _ (Lr_L lk9) e)
        dsimp only
        refine s_seq (s_set (P := isP K kz) (y_if (yt_T (y_gt (y_lenLL (yk (Same.refl _)) rfl) (y_c (v := .int 16)))) (fun hb => ?_) fun hb => ?_) fun v5 H10 e10 p10 => ?_)
        · have hb2 := of_decide_eq_true hb
          have hb3 : 16 < kt.length := by omega
          rw [hz1 hb3]
          exact y_tupL (y_cat (y_headL (yk (Same.refl _)) (y_sub (y_c (v := .int 15)) (y_var (n := 2) (v := .int (d : Int)) rfl)) (by omega)) (y_tailL (n := d + 1) (yk (Same.refl _)) (y_sub (y_neg (y_var (n := 2) (v := .int (d : Int)) rfl)) (y_c (v := .int 1))) (by omega) (by omega) (by omega)) (by rw [List.length_take, List.length_drop]; omega)).toL
        · have hb2 := of_decide_eq_false hb
          have hb3 : ¬ 16 < kt.length := by omega
          rw [hz2 hb3]
          exact y_tupL (yk (Same.refl _))
        · have w10 := w9.mono e10
          have l16 := hz3.len16
          have l1 := hz3.len
          dsimp only
          refine s_retD (yd_spl (ks := kz) (C := fun qs => qs.length = kz.length - d - 1 ∧ AllB 12 6 qs) w10 (y_var (n := 2) (v := .int (d : Int)) rfl) (y_varP (n := 5) (v := v5) rfl mono_P p10) fun H11 e11 => yd_tupL fun Q q => ?_) fun v H11 c11 w11 pv => ?_
          · refine yd_draws (m := kz.length - d - 1) (σ := [some (.ref r), some (.int 4), some (.int (d : Int)), some v3, some v4, some v5, s6, none]) (w10.mono e11) (y_sub (y_sub (y_lenPP (y_varP (n := 5) (v := v5) rfl mono_P (mono_P _ _ _ p10 e11)) rfl) (y_var (n := 2) (v := .int (d : Int)) rfl)) (y_c (v := .int 1))) (by omega) (by omega) (fun x => rfl) (fun x => rfl) _ fun v6 H12 c12 w12 pv => ?_
            obtain ⟨qs, q1, q2, q3⟩ := pv
            exact q v6 H12 c12 w12 ⟨qs, ⟨q1, q2⟩, q3⟩
          · obtain ⟨qs, ⟨q1, q2⟩, q3⟩ := pv
            exact k d kz qs v H11 ⟨hz3, q1, fun c hc => (q2 c hc).mono (by decide)⟩ q2 q3 (c.trans (c9.trans ((Same.chg e10).trans c11))) w11
end
end BC
namespace BC
open L2 PySem PySem.Spec PyProof.Rows
def sp_law_within (K : PySem.W.Frag) : Sp := fun vs H Q _ => ∃ (r a : Addr) (ns : List Int) (v : V) (d : Nat) (ks rs : List Rat), vs = [.ref r, v] ∧ isS K d ks rs v H ∧ KOk d ks ∧ Rw K H r a ns ∧
  ∀ u x H', Within ks x → Bd 144 30 x → RatAt K H' u x → Chg r H H' → Rw K H' r a ns → Q u H'
abbrev nWi : List Str := ["_law_row", "_law_spline_here", "_law_low", "_law_high"]
theorem sc_law_within : FnScope nWi ["_law_row", "_law_spline_here"] (defScope s__law_within) := ⟨rfl, rfl, rfl, by decide +kernel, rfl, by decide +kernel, by decide +kernel⟩
theorem eqz_int (t z : Int) : V.bl (decide (V.int t = V.int z)) = V.bl (decide (t = z)) := congrArg V.bl (decide_eq_decide.mpr ⟨fun h => V.int.inj h, fun h => congrArg V.int h⟩)
section
variable {K : PySem.W.Frag} {mg : Str → Option Value} {P : Program} {w : World} {base : Heap}
theorem ok_law_within (T : TX K mg) : Def P w K mg base 4 "_law_within" ["_law_row", "_law_spline_here"] (sp_law_within K) := by
  have Gt : Def P w K mg base 1 "_law_taken" ["_law_row", "_law_many"] (sp_law_taken K) := ok_law_taken T
  have Gp : Def P w K mg base 2 "_law_pick" ["_law_row", "_law_things"] (sp_law_pick K) := ok_law_pick T
  have Gm : Def P w K mg base 1 "_law_made" ["_law_top", "_law_low"] (sp_law_made K) := ok_law_made T
  have Gmi : Def P w K mg base 3 "_law_middle" ["_law_one", "_law_other", "_law_part"] (sp_law_middle K) := ok_law_middle T
  refine T._law_within.def_ sc_law_within (fun _ _ _ _ _ _ us hl => match us, hl with | [_, _], _ => rfl) (fun vs H Q E h => ?_) (fun cdv A outer s H vs Q E hr h => ?_)
  · obtain ⟨r, a, ns, v, d, ks, rs, rfl, _⟩ := h
    rfl
  · obtain ⟨r, a, ns, v, d, ks, rs, rfl, ⟨p, q, r', us, ws, rfl, hp, hq, hus, hr2, hws⟩, hk, hw, k⟩ := h
    have nd := sc_law_within.nd
    have r1 : Room 1 _ := hr.mono (by decide)
    have r2 : Room 2 _ := hr.mono (by decide)
    have l1 := hk.len
    have l2 := hk.len16
    refine ⟨_, pss_cons (ps_par (i := 2) (j := 3) (by rfl) nd rfl rfl (by decide) rfl rfl (pa_cons (pe_ix ix_tup (pe_ix ix_tup (pv 1) pe_int (fun _ _ => rfl)) pe_int (fun _ _ => rfl)) (pa_cons (pe_ix ix_tup (pe_ix ix_tup (pv 1) pe_int (fun _ _ => rfl)) (pe_un un_neg pe_int) (fun _ _ => rfl)) pa_nil)) (by rfl))
      (pss_cons (ps_if (pt_cmpR op_eq (pe_def Gt r1 (pa_cons (pv 0) (pa_cons pe_int pa_nil))) pe_int (nomark _)) (pss_one (ps_ret (pe_def Gp r2 (pa_cons (pv 0) (pa_cons (pe_ix ix_tup (pv 1) pe_int (fun _ _ => rfl)) pa_nil))))) pss_nil)
      (pss_one (ps_ret (pe_def Gmi hr (pa_cons (pv 2) (pa_cons (pv 3) (pa_cons (pe_def Gm r1 (pa_cons (pe_def Gt r1 (pa_cons (pv 0) (pa_cons pe_int pa_nil))) (pa_cons pe_int pa_nil))) pa_nil))))))), ?_⟩
    have ykn : ∀ {H2 : Hp} {σ : L2.St}, σ[1]? = some (some (.ref p)) → SqT K H2 p [.int (d : Int), .ref q, .ref r'] → Ys (tOp (rIxT K) (tVar 1) (tC (.int 1))) σ H2 (isV (.ref q)) := fun h0 e => y_ixT (y_var (n := 1) (v := .ref p) h0) (y_c (v := .int 1)) e (v := .ref q) rfl mono_V rfl
    refine s_seq (s_par (y_itT (ykn rfl hp) y_c hq hus (i := 0) (by omega) rfl) (y_itN (ykn rfl hp) (y_neg y_c) hq hus (i := ks.length - 1) (by omega) (by omega) (by decide)) mono_R fun v2 v3 H1 e1 p2 p3 => ?_)
    have w1 := hw.mono e1
    dsimp only
    refine s_seq ?_
    refine yd_taken (n := 0) w1 rfl (y_c (v := .int 3)) (by decide) (by decide) _ fun v H2 c2 w2 pv => ?_
    obtain ⟨t, rfl, t0, t1⟩ := pv
    have c02 : Chg r H H2 := (Same.chg e1).trans c2
    refine ⟨rfl, decide (t = 0), eqz_int t 0, ?_⟩
    by_cases hz : t = 0
    · rw [decide_eq_true hz]
      refine iteT ?_
      refine s_retD (yd_pickT (n := 0) w2 rfl (ykn rfl (SqT.chg hp hw c02)) (SqT.chg hq hw c02) (hus.chg hw c02) (by omega) (by omega)) fun u H3 c3 w3 pu => ?_
      obtain ⟨j, hj, ru⟩ := pu
      exact k u _ H3 ⟨hk.mono 0 j (by omega) hj, hk.mono j (ks.length - 1) (by omega) (by omega)⟩ ((hk.bd j).wide (by decide)) ru (c02.trans c3) w3
    · rw [decide_eq_false hz]
      refine iteF ?_
      dsimp only
      refine ⟨v2, rfl, v3, rfl, ?_⟩
      refine yd_taken (n := 0) w2 rfl (y_c (v := .int 13)) (by decide) (by decide) _ fun v H3 c3 w3 pv => ?_
      obtain ⟨m, rfl, m0, m1⟩ := pv
      refine ⟨m, 12, rfl, by decide, by decide, fun z H4 e4 rz => ?_⟩
      have hb : Bd 12 1 (Rat.divInt m 12) := bd_divInt (by decide) (by decide) (by omega) (by omega)
      have h0 : 0 ≤ Rat.divInt m 12 := divInt_nn m0 (by decide)
      have h1 : Rat.divInt m 12 ≤ 1 := hb.2.2
      generalize Rat.divInt m 12 = tt at hb h0 h1 rz
      have mono := hk.mono 0 (ks.length - 1) (by omega) (by omega)
      have b1 := hk.bd 0
      have b2 := hk.bd (ks.length - 1)
      have rr : ∀ {u : V} {x : Rat}, RatAt K H1 u x → RatAt K H4 u x := fun h => ((RatAt.chg h w1 c2).chg w2 c3).mono e4
      refine ⟨v2, v3, z, kn ks 0, kn ks (ks.length - 1), tt, rfl, rr p2, rr p3, rz, b1, b2, hb, fun u H5 e5 ru => ?_⟩
      exact k u _ H5 ⟨btw_ge h0 h1 Rat.le_refl mono, btw_le h0 h1 mono Rat.le_refl⟩ (btw_bd b1 b2 hb h0 h1) ru (c02.trans (c3.trans (Same.chg (e4.trans e5)))) ((w3.mono e4).mono e5)
end
end BC
namespace BC
open L2 PySem PySem.Spec PyProof.Rows
/-! a tuple once: the tuple itself -/
theorem tuple_once (l : Addr) (items : Array Value) (n : Nat) (dd : Option Addr) (sl : Array (Option Value)) (u : Tok) :
    Meets (Builtin.«tuple.__mul__» ⟨[.ref l, .int 1 u], []⟩) (fun _ R s => s.heap.get? l = some { cls := .type "tuple", dict := dd, data := .seq items n, slots := sl } ∧ R (.ok (.ret (Value.ref l))) s) :=
  .of_wp fun pr wo Ar R z hz => by
    obtain ⟨hh, gg, dr, tt, oo⟩ := z
    obtain ⟨hl, hR⟩ := hz
    have ix := AutoSeq1.idx_int
    wp_walk using AutoSeq1.wpAny_loadPart' hl
    exact ⟨_, rfl, hR⟩
/-- t * k, k from 1 -/
def rRepA (K : PySem.W.Frag) : R2 := fun x y H Q => ∃ l k xs, x = .ref l ∧ y = .int k ∧ SqT K H l xs ∧ xs ≠ [] ∧ 1 ≤ k ∧ k ≤ 1000 ∧ xs.length ≤ 1000 ∧ (k = 1 → Q (.ref l) H) ∧ (k ≠ 1 → ∀ p, H p = none → Q (.ref p) (upd H p (.tup (List.replicate k.toNat xs).flatten)))
section
variable {X : Cx}
theorem op_repA : OpR X (binaryOp .Mult) (rRepA X.K) := by
  intro pins s σ H x y v u Q I rx ry all
  obtain ⟨l, k, xs, rfl, rfl, hT, hne, h1, h2, hz, q1, q2⟩ := all
  by_cases hk : k = 1
  · subst hk
    cases rx
    obtain ⟨t, rfl⟩ := ry
    obtain ⟨its, r, ⟨⟨cls, dd, data, sl⟩, ho, hc, n, hd⟩, _⟩ := I.tuple hT
    simp only at hc hd
    subst hc hd
    refine wpAny_binaryOp_repeat_ref (T := "tuple") (U := "int") (by decide) ⟨_, ho, rfl⟩ (fun s' => typeIs_int s' 1 t) noFill_tuple_mul F.fills_int_mul F.slot_int_rmul repeat_tuple F.slot_int_index.lookup
      (call_meets F.slot_int_rmul (typeIs_int s 1 t) F.entry_int_rmul (F.args_int_rmul_2 _ _) (int_rmul_tuple 1 t l its.toArray n dd sl)
        ⟨ho, rfl, ⟨_, ho, rfl⟩, call_meets F.slot_tuple_mul ⟨_, ho, rfl⟩ F.entry_tuple_mul (F.args_tuple_mul_2 _ _) (tuple_once l its.toArray n dd sl t) ⟨ho, ?_⟩⟩)
    exact ⟨.ref l, H, I, rfl, q1 rfl⟩
  · exact op_repT pins s σ H _ _ v u Q I rx ry ⟨l, k, xs, rfl, rfl, hT, hne, by omega, h2, hz, q2 hk⟩
end
end BC
namespace BC
open L2 PySem PySem.Spec PyProof.Rows
/-! ### pieces compared -/
def dPc (c : Pc) : PyData := .tuple [.tuple [dRat c.1, dRat c.2.1], .tuple (c.2.2.map dRat)]
theorem eqv_pc (a b : Pc) : PyData.eqv (dPc a) (dPc b) = decide (a = b) := by
  show ((PyData.eqv (dRat a.1) (dRat b.1) && (PyData.eqv (dRat a.2.1) (dRat b.2.1) && true)) && (PyData.eqvAll (a.2.2.map dRat) (b.2.2.map dRat) && true)) = decide (a = b)
  rw [eqv_rat, eqv_rat, eqv_rats, Bool.and_true, Bool.and_true, ← Bool.decide_and, ← Bool.decide_and]
  refine decide_eq_decide.mpr ?_
  obtain ⟨a1, a2, a3⟩ := a
  obtain ⟨b1, b2, b3⟩ := b
  simp only [Prod.mk.injEq]
  exact ⟨fun h => ⟨h.1.1, h.1.2, h.2⟩, fun h => ⟨⟨h.1, h.2.1⟩, h.2.2⟩⟩
theorem shaped_pc (c : Pc) : SeqAt.shaped (dPc c) = true := by
  unfold SeqAt.shaped
  have h := depth_rats c.2.2
  have l := lay_rats c.2.2
  rw [Bool.and_eq_true]
  refine ⟨?_, decide_eq_true ?_⟩
  · show ((PyData.canLay0 (.tuple [dRat c.1, dRat c.2.1])) && (PyData.canLayAll0 (c.2.2.map dRat) && true)) = true
    rw [l]
    rfl
  · have e1 : PyData.depth (.tuple [dRat c.1, dRat c.2.1]) = 2 := rfl
    have e2 : PyData.depth (dPc c) = 1 + max (PyData.depth (.tuple [dRat c.1, dRat c.2.1])) (max (1 + PyData.depthAll (c.2.2.map dRat)) 0) := by
      simp [dPc, PyData.depth, PyData.depthAll]
      try omega
    rw [e2, e1]
    omega
section
variable {K : PySem.W.Frag} {H H' : Hp} {σ : L2.St} {ta tb te tl tc : TE} {D : Ends} {tu tw : TS} {r a : Addr} {ns : List Int}
theorem y_eqPc {c e : Pc} (ha : Ys ta σ H (isPc K c)) (hb : Ys tb σ H (isPc K e)) : Ys (tOp (rEqD K) ta tb) σ H (isB (decide (c = e))) :=
  y_op ha hb mono_Pc fun x y H1 e' px py Q q => by
    have key : ∀ {v : V} {c : Pc}, isPc K c v H1 → Dp K H1 v (dPc c) := by
      intro v c h
      obtain ⟨p, q, w1, w2, w3, rfl, t1, t2, r1, r2, p', vs, rfl, t3, r3⟩ := h
      exact .tup t1 (.cons (.tup t2 (.cons r1.dp (.cons r2.dp .nil))) (.cons (.tup t3 r3.dp) .nil))
    exact ⟨_, _, key px, key py, shaped_pc c, shaped_pc e, q _ _ (Same.refl _) (by rw [eqv_pc] <;> rfl)⟩
theorem y_eqL {p q : List Rat} (ha : Ys ta σ H (isL K p)) (hb : Ys tb σ H (isL K q)) : Ys (tOp (rEqD K) ta tb) σ H (isB (decide (p = q))) :=
  y_op ha hb mono_L fun x y H1 e px py Q k => by
    obtain ⟨l, vs, rfl, t1, r1⟩ := px
    obtain ⟨l', vs', rfl, t2, r2⟩ := py
    refine ⟨_, _, .lst (.of t1) r1.dp, .lst (.of t2) r2.dp, shaped_lst p, shaped_lst q, k _ _ (Same.refl _) ?_⟩
    rw [PyData.eqv, eqv_rats]
    rfl
theorem y_neB {p q : Bool} (ha : Ys ta σ H (isB p)) (hb : Ys tb σ H (isB q)) : Ys (tOp rNe ta tb) σ H (isB (!decide (p = q))) :=
  y_op ha hb mono_V fun x y H1 e px py Q k => by
    rw [show x = _ from px, show y = _ from py]
    refine ⟨rfl, k _ _ (Same.refl _) ?_⟩
    show V.bl (!decide (V.bl p = V.bl q)) = V.bl (!decide (p = q))
    congr 2
    exact decide_eq_decide.mpr ⟨fun z => by cases z; rfl, fun z => by rw [z]⟩
/-- what a comprehension yields -/
theorem paired_map {F : V → Rat → Prop} {g : Nat → Rat} : ∀ {ys : List V} {is : List Nat}, Paired (fun y i => F y (g i)) ys is → Paired F ys (is.map g)
  | _, _, .nil => .nil
  | _, _, .cons h t => .cons h (paired_map t)
theorem paired_ints {g : Nat → V} : ∀ {ys : List V} {is : List Nat}, Paired (fun y i => y = g i) ys is → ys = is.map g
  | _, _, .nil => rfl
  | _, _, .cons h t => by rw [h, paired_ints t, List.map_cons]
theorem y_lcL {n : Nat} {b : Nat → Bool} {g : Nat → Rat} (h : Ys te σ H (fun v H' => ∃ l ys, v = .ref l ∧ H l = none ∧ H' l = some (.lst ys) ∧ Paired (fun y i => isR K (g i) y H') ys ((List.range n).filter b))) : Ys te σ H (isL K (((List.range n).filter b).map g)) :=
  h.imp fun v H1 e ⟨l, ys, a, _, b, c⟩ => ⟨l, ys, a, b, paired_map c⟩
theorem filter_ne {n i : Nat} {b : Nat → Bool} {g : Nat → Rat} (hi : i < n) (hb : b i = true) : decide (((List.range n).filter b).map g = []) = false := by
  refine decide_eq_false fun z => ?_
  have m : i ∈ (List.range n).filter b := List.mem_filter.mpr ⟨List.mem_range.mpr hi, hb⟩
  rw [List.map_eq_nil_iff.mp z] at m
  cases m
/-- xs[-1] of a list of ints -/
theorem at_last {is : List Nat} {s : Nat} (h : is.getLastD 0 = s) (hne : is ≠ []) : atI (is.map fun (i : Nat) => V.int (i : Int)) (-1) = some (.int (s : Int)) := by
  have hp : 0 < is.length := by
    cases is with
    | nil => exact absurd rfl hne
    | cons a b => simp
  unfold atI ixN
  rw [List.length_map, if_neg (by omega), if_pos (by omega)]
  have e : (-1 + (is.length : Int)).toNat = is.length - 1 := by omega
  show (List.map _ _)[(-1 + (is.length : Int)).toNat]? = _
  rw [e, List.getElem?_map, ← List.getLast?_eq_getElem?]
  have g : is.getLast? = some s := by
    rw [← h, List.getLastD_eq_getLast?]
    cases z : is.getLast? with
    | none => exact absurd (List.getLast?_eq_none_iff.mp z) hne
    | some w => rfl
  rw [g]
  rfl
/-- a, b = t -/
theorem s_unpack2 {i j : Nat} {Pa Pb : V → Hp → Prop} (h : Ys te σ H (fun v H' => ∃ q x y, v = .ref q ∧ SqT K H' q [x, y] ∧ Pa x H' ∧ Pb y H')) (k : ∀ x y H1, Same H H1 → Pa x H1 → Pb y H1 → D.nx ((σ.set i (some x)).set j (some y)) H1) : tAsg te (gTup K 2 (gCons (gName i) (gCons (gName j) gNil))) D σ H :=
  h H (Same.refl _) _ fun v H1 e p1 => by
    obtain ⟨q, x, y, rfl, ht, px, py⟩ := p1
    exact ⟨q, [x, y], rfl, ht, rfl, x, [y], rfl, y, [], rfl, rfl, k x y H1 e px py⟩
/-! tuples of ratios -/
theorem y_headT {qs : List Rat} {z : Int} {n : Nat} (h : Ys te σ H (isP K qs)) (hb : Ys tb σ H (isI z)) (ez : z = (n : Int)) (hn : n ≤ qs.length) : Ys (tSl (rSlA K) te tNoPart (tPart tb)) σ H (isP K (qs.take n)) := fun H1 e Q q => h H1 e _ fun v H2 e2 pv => hb H2 (e.trans e2) _ fun x H3 e3 px => by
  obtain ⟨p, us, rfl, ht, hr⟩ := mono_P _ _ _ pv e3
  have lv := rats_len hr
  subst ez
  refine ⟨(n : Int), px, p, us, rfl, ht, fun hw => q _ _ (e2.trans e3) ⟨p, us, rfl, ht, ?_⟩, fun hw l hl => q _ _ ((e2.trans e3).trans (Same.new hl)) ⟨l, _, rfl, .of upd_same, ?_⟩⟩
  · rw [HT.sIx_nat] at hw
    rw [List.take_of_length_le (by omega)]
    exact hr
  · rw [cut_take]
    exact paired_take n (hr.mono (Same.new hl))
theorem cut_from (xs : List V) {n : Nat} (h : n ≤ xs.length) : cutV xs (some (n : Int)) none = xs.drop n := by
  unfold cutV
  rw [HT.sIx_none, HT.sIx_nat, Nat.min_eq_left h, List.take_of_length_le (by rw [List.length_drop]; omega)]
theorem y_fromT {qs : List Rat} {z : Int} {n : Nat} (h : Ys te σ H (isP K qs)) (hb : Ys tb σ H (isI z)) (ez : z = (n : Int)) (hn : n ≤ qs.length) : Ys (tSl (rSlA K) te (tPart tb) tNoPart) σ H (isP K (qs.drop n)) := fun H1 e Q q => h H1 e _ fun v H2 e2 pv => hb H2 (e.trans e2) _ fun x H3 e3 px => by
  obtain ⟨p, us, rfl, ht, hr⟩ := mono_P _ _ _ pv e3
  have lv := rats_len hr
  subst ez
  refine ⟨(n : Int), px, p, us, rfl, ht, fun hw => q _ _ (e2.trans e3) ⟨p, us, rfl, ht, ?_⟩, fun hw l hl => q _ _ ((e2.trans e3).trans (Same.new hl)) ⟨l, _, rfl, .of upd_same, ?_⟩⟩
  · rw [HT.sIx_nat] at hw
    have e0 : n = 0 := by omega
    rw [e0, List.drop_zero]
    exact hr
  · rw [cut_from us (by omega)]
    exact paired_drop n (hr.mono (Same.new hl))
theorem y_one1 {q : Rat} (ha : Ys ta σ H (isR K q)) : Ys (tTup (tCons ta tNil)) σ H (isP K [q]) := fun H1 e Q k => ha H1 e _ fun x H2 e2 px => ⟨by show 1 ≤ sizeLine; decide, fun p hp => k _ _ (e2.trans (Same.new hp)) ⟨p, [x], rfl, .of upd_same, .cons (RatAt.mono px (Same.new hp)) .nil⟩⟩
theorem y_catP {p q : List Rat} (ha : Ys ta σ H (isP K p)) (hb : Ys tb σ H (isP K q)) (h : p.length + q.length < 1000) : Ys (tOp (rCatA K) ta tb) σ H (isP K (p ++ q)) :=
  y_op ha hb mono_P fun x y H1 e px py Q k => by
    obtain ⟨l1, ys1, rfl, h1, r1⟩ := px
    obtain ⟨l2, ys2, rfl, h2, r2⟩ := py
    have n1 := rats_len r1
    have n2 := rats_len r2
    refine ⟨l1, l2, ys1, ys2, rfl, rfl, h1, h2, Nat.le_trans (by omega) (show 1000 ≤ sizeLine by decide), fun z => ?_, fun _ z => ?_, fun _ _ l hl => k _ _ (Same.new hl) ⟨l, _, rfl, .of upd_same, paired_app (r1.mono (Same.new hl)) (r2.mono (Same.new hl))⟩⟩
    · subst z
      cases r1
      exact k _ _ (Same.refl _) ⟨l2, ys2, rfl, h2, r2⟩
    · subst z
      cases r2
      rw [List.append_nil] at k
      exact k _ _ (Same.refl _) ⟨l1, ys1, rfl, h1, r1⟩
/-- (x,) * n -/
theorem y_repT {q : Rat} {z : Int} {n : Nat} (ha : Ys ta σ H (isR K q)) (hb : Ys tb σ H (isI z)) (ez : z = (n : Int)) (h1 : 1 ≤ n) (h2 : n < 1000) : Ys (tOp (rRepA K) (tTup (tCons ta tNil)) tb) σ H (isP K (List.replicate n q)) :=
  y_op (y_one1 ha) hb mono_P fun x y H1 e px py Q k => by
    obtain ⟨l, ys, rfl, ht, hr⟩ := px
    obtain ⟨v, rfl⟩ : ∃ v, ys = [v] := by
      cases hr with
      | cons h t =>
        cases t
        exact ⟨_, rfl⟩
    have hv : RatAt K H1 v q := by
      cases hr with
      | cons h t => exact h
    refine ⟨l, z, [v], rfl, py, ht, by simp, by omega, by omega, by simp, fun e1 => ?_, fun _ p hp => k _ _ (Same.new hp) ⟨p, List.replicate n v, rfl, ?_, paired_rep (hv.mono (Same.new hp)) n⟩⟩
    · have : n = 1 := by omega
      subst this
      exact k _ _ (Same.refl _) ⟨l, [v], rfl, ht, hr⟩
    · have en : z.toNat = n := by omega
      rw [en, flat_rep]
      exact .of upd_same
/-- (degree, knots, numbers) -/
theorem y_spl {d : Nat} {ks rs : List Rat} (ha : Ys ta σ H (isI (d : Int))) (hb : Ys tb σ H (isP K ks)) (hc : Ys tc σ H (isP K rs)) : Ys (tTup (tCons ta (tCons tb (tCons tc tNil)))) σ H (isS K d ks rs) := fun H1 e Q q =>
  ha H1 e _ fun x H2 e2 px => hb H2 (e.trans e2) _ fun y H3 e3 py => hc H3 ((e.trans e2).trans e3) _ fun z H4 e4 pz => by
    obtain ⟨p3, ws, rfl, t3, r3⟩ := pz
    obtain ⟨p2, us, rfl, t2, r2⟩ := mono_P _ _ _ py e4
    refine ⟨by show 3 ≤ sizeLine; decide, fun p hp => ?_⟩
    have e5 : Same H4 (upd H4 p (.tup [x, .ref p2, .ref p3])) := Same.new hp
    refine q _ _ (((e2.trans e3).trans e4).trans e5) ⟨p, p2, p3, us, ws, rfl, ?_, Same.tup e5 t2, r2.mono e5, Same.tup e5 t3, r3.mono e5⟩
    rw [← show x = _ from px]
    exact .of upd_same
theorem y_value {d : Nat} {ks rs : List Rat} {x : Rat} (ha : Ys ta σ H (isS K d ks rs)) (hb : Ys tb σ H (isR K x)) (ok : SOk d ks rs) (xb : Bd 144 30 x) (wi : Within ks x) : Ys (tCall (sp_spline_value K) [] E0 (tCons ta (tCons tb tNil))) σ H (isR K (dbV ks rs d x)) :=
  y_call2 ha hb mono_S fun v u H1 e pv pu Q q => ⟨v, d, ks, rs, u, x, rfl, pv, ok, pu, xb, wi, fun z H' e' r => q z H' e' r⟩
theorem y_pieces {d : Nat} {ks rs : List Rat} (ha : Ys ta σ H (isS K d ks rs)) (ok : SOk d ks rs) : Ys (tCall (sp_pieces_of K) [] E0 (tCons ta tNil)) σ H (isPcs K (pcs ks rs d (ks.length - 1))) :=
  y_call1 ha fun v H1 e pv Q q => ⟨v, d, ks, rs, rfl, pv, ok, fun z H' e' r => q z H' e' r⟩
theorem mono_Pcs {cs : List Pc} : Mono (isPcs K cs) := fun _ _ _ ⟨p, vs, a, b, c⟩ e => ⟨p, vs, a, Same.tup e b, Paired.mapP c fun _ _ h => mono_Pc _ _ _ h e⟩
/-- one[at] -/
theorem y_pcI {cs : List Pc} {c : Pc} {z : Int} {i : Nat} (ha : Ys ta σ H (isPcs K cs)) (hb : Ys tb σ H (isI z)) (hi : cs[i]? = some c) (hz : z = (i : Int)) : Ys (tOp (rIxT K) ta tb) σ H (isPc K c) :=
  y_op ha hb mono_Pcs fun x y H1 e px py Q q => by
    obtain ⟨p, vs, rfl, ht, hp⟩ := px
    obtain ⟨v, h1, h2⟩ := Paired.at hp hi
    exact ⟨p, vs, z, v, rfl, py, ht, at_of hz h1, q _ _ (Same.refl _) h2⟩
/-- one[at][0] -/
theorem y_pc0 {c : Pc} (ha : Ys ta σ H (isPc K c)) : Ys (tOp (rIxT K) ta (tC (.int 0))) σ H (fun v H' => ∃ q x y, v = .ref q ∧ SqT K H' q [x, y] ∧ isR K c.1 x H' ∧ isR K c.2.1 y H') :=
  y_op ha (y_c (v := .int 0)) mono_Pc fun x y H1 e px py Q q => by
    obtain ⟨p, q', w1, w2, w3, rfl, t1, t2, r1, r2, _⟩ := px
    exact ⟨p, _, 0, .ref q', rfl, py, t1, rfl, q _ _ (Same.refl _) ⟨q', w1, w2, rfl, t2, r1, r2⟩⟩
theorem y_lenPcs {cs : List Pc} {n : Int} (ha : Ys ta σ H (isPcs K cs)) (e : (cs.length : Int) = n) : Ys (tCB (fun xs H Q => ∃ p ys, xs = [.ref p] ∧ (SqL K H p ys ∨ SqT K H p ys) ∧ Q (.int ys.length) H) (tCons ta tNil)) σ H (isI n) :=
  y_cb1 ha fun x H1 e1 px Q q => by
    obtain ⟨l, vs, rfl, hl, hr⟩ := px
    have lv := Paired.length hr
    exact ⟨l, vs, rfl, .inr hl, q _ _ (Same.refl _) (by rw [← e, lv] <;> rfl)⟩
/-- (0, 1) -/
theorem y_nought : Ys (tTup (tCons (tC (.int 0)) (tCons (tC (.int 1)) tNil))) σ H (isR K 0) := y_tup2 (y_c (v := .int 0)) (y_c (v := .int 1)) mono_V fun x y p H1 H2 _ _ px py hp => ⟨p, rfl, .of (by rw [hp, show x = _ from px, show y = _ from py] <;> rfl)⟩
end
end BC
namespace BC
open L2 PySem PySem.Spec PyProof.Rows
/-! ### what one changed number does -/
theorem away_iff {d : Nat} {ks : List Rat} (hk : KOk d ks) {i pl : Nat} (hi : i + d + 1 < ks.length) (hd : d ≤ pl) (hp : pl + d + 1 < ks.length) (hlt : kn ks pl < kn ks (pl + 1)) :
    (¬ kn ks pl < kn ks (i + d + 1) ∨ ¬ kn ks i < kn ks (pl + 1)) ↔ (i < pl - d ∨ pl < i) := by
  constructor
  · rintro (h | h)
    · left
      have c : ¬ pl + 1 ≤ i + d + 1 := fun c => by
        have := hk.mono (pl + 1) (i + d + 1) c hi
        grind
      omega
    · right
      have c : ¬ i ≤ pl := fun c => by
        have := hk.mono i pl c (by omega)
        grind
      omega
  · rintro (h | h)
    · left
      have := hk.mono (i + d + 1) pl (by omega) (by omega)
      grind
    · right
      have := hk.mono (pl + 1) i (by omega) (by omega)
      grind
theorem turn_ok {d : Nat} {ks : List Rat} (hk : KOk d ks) {rs rs' : List Rat} {st : Rat} {i pl : Nat} (hi : i + d + 1 < ks.length) (hpl : pl + 1 < ks.length) (hne : neB ks pl = true) (h0 : rs'.getD i 0 = rs.getD i 0 + st) (h1 : ∀ j, j ≠ i → rs'.getD j 0 = rs.getD j 0) :
    decide (((kn ks pl, kn ks (pl + 1), piece ks rs d pl) : Pc) = (kn ks pl, kn ks (pl + 1), piece ks rs' d pl)) = ((!decide (kn ks pl < kn ks (i + d + 1)) || !decide (kn ks i < kn ks (pl + 1))) || decide (st = 0)) := by
  have hn : ¬ kn ks pl = kn ks (pl + 1) := by simpa [neB] using hne
  obtain ⟨g1, g2, g3⟩ := place_ok hk hpl hn
  rw [← decide_not, ← decide_not, ← Bool.decide_or, ← Bool.decide_or]
  refine decide_eq_decide.mpr ?_
  rw [away_iff hk hi g1 g2 g3, ← piece_eq_iff hk g1 g2 g3 hi h0 h1]
  simp
/-- the row with one number changed -/
def chR (rs : List Rat) (i : Nat) (st : Rat) : List Rat := rs.take i ++ [rs.getD i 0 + st] ++ rs.drop (i + 1)
theorem chR_set {rs : List Rat} {i : Nat} (st : Rat) (h : i < rs.length) : chR rs i st = rs.set i (rs.getD i 0 + st) := by
  unfold chR
  rw [List.set_eq_take_append_cons_drop, if_pos h, List.append_assoc]
  rfl
theorem chR_at {rs : List Rat} {i : Nat} (st : Rat) (h : i < rs.length) : (chR rs i st).getD i 0 = rs.getD i 0 + st := by
  rw [chR_set st h, List.getD_eq_getElem?_getD, List.getElem?_set_self h]
  rfl
theorem chR_ne {rs : List Rat} {i : Nat} (st : Rat) (h : i < rs.length) (j : Nat) (hj : j ≠ i) : (chR rs i st).getD j 0 = rs.getD j 0 := by
  rw [chR_set st h, List.getD_eq_getElem?_getD, List.getElem?_set_ne (Ne.symm hj), ← List.getD_eq_getElem?_getD]
theorem chR_len {rs : List Rat} {i : Nat} (st : Rat) (h : i < rs.length) : (chR rs i st).length = rs.length := by
  rw [chR_set st h, List.length_set]
theorem chR_bd {rs : List Rat} {i : Nat} {st : Rat} (h : i < rs.length) (hr : AllB 12 6 rs) (hs : Bd 12 6 st) : AllB 12 12 (chR rs i st) := fun c hc => by
  rw [chR_set st h] at hc
  rcases List.mem_or_eq_of_mem_set hc with m | rfl
  · exact (hr c m).mono (by decide)
  · exact (hr.getD i).add hs
/-! ### a spline in the heap -/
structure SP (K : PySem.W.Frag) (H : Hp) (d : Nat) (ks rs : List Rat) (p q t : Addr) (us ws : List V) : Prop where
  hp : SqT K H p [.int (d : Int), .ref q, .ref t]
  hq : SqT K H q us
  hus : Rats K H us ks
  ht : SqT K H t ws
  hws : Rats K H ws rs
section
variable {K : PySem.W.Frag} {H H' : Hp} {d : Nat} {ks rs : List Rat} {p q t r a : Addr} {us ws : List V} {ns : List Int}
theorem SP.mono (h : SP K H d ks rs p q t us ws) (e : Same H H') : SP K H' d ks rs p q t us ws := ⟨Same.tup e h.hp, Same.tup e h.hq, h.hus.mono e, Same.tup e h.ht, h.hws.mono e⟩
theorem SP.chg (h : SP K H d ks rs p q t us ws) (w : Rw K H r a ns) (c : Chg r H H') : SP K H' d ks rs p q t us ws := ⟨SqT.chg h.hp w c, SqT.chg h.hq w c, h.hus.chg w c, SqT.chg h.ht w c, h.hws.chg w c⟩
theorem SP.s (h : SP K H d ks rs p q t us ws) : isS K d ks rs (.ref p) H := ⟨p, q, t, us, ws, rfl, h.hp, h.hq, h.hus, h.ht, h.hws⟩
theorem SP.k (h : SP K H d ks rs p q t us ws) : isP K ks (.ref q) H := ⟨q, us, rfl, h.hq, h.hus⟩
theorem SP.n (h : SP K H d ks rs p q t us ws) : isP K rs (.ref t) H := ⟨t, ws, rfl, h.ht, h.hws⟩
end
abbrev nLaw : List Str := ["_law_script", "_law_row", "_law_spline_here", "_law_degree", "_law_knots", "_law_some", "_law_x", "_law_found", "_law_at", "_law_spans", "_law_near", "_law_one", "_law_i", "_law_step", "_law_other", "_law_two", "_law_low", "_law_high", "_law_away", "_law_flat"]
theorem sc_law : FnScope nLaw ["_law_script"] (defScope s_law) := ⟨rfl, rfl, rfl, by decide +kernel, rfl, by decide +kernel, by decide +kernel⟩
def sp_law (K : PySem.W.Frag) : Sp := fun vs H Q _ => ∃ (p : Addr) (zs : List Int), vs = [.ref p] ∧ SqL K H p (zs.map V.int) ∧ ∀ H', Q (.bl true) H'
section
variable {K : PySem.W.Frag} {mg : Str → Option Value} {P : Program} {w : World} {base : Heap}
theorem ok_law (T : TX K mg) {ga : Addr} {fd} (F : FunD K "law" "law" (defArgs s_law) (defBody s_law) (defScope s_law) [] [] ga fd) : FnOk P w K mg base CX0 11 ga fd ["_law_script"] (sp_law K) := by
  have Gt : Def P w K mg base 1 "_law_taken" ["_law_row", "_law_many"] (sp_law_taken K) := ok_law_taken T
  have Gb : Def P w K mg base 1 "_law_below" ["_law_one", "_law_other"] (sp_law_below K) := ok_law_below T
  have Gpl : Def P w K mg base 2 "_law_plus" ["_law_one", "_law_other"] (sp_law_plus K) := ok_law_plus T
  have Gd : Def P w K mg base 3 "_law_draw" ["_law_row"] (sp_law_draw K) := ok_law_draw T
  have Gs : Def P w K mg base 4 "_law_spline" ["_law_row", "_law_most"] (sp_law_spline K) := ok_law_spline T
  have Gw : Def P w K mg base 4 "_law_within" ["_law_row", "_law_spline_here"] (sp_law_within K) := ok_law_within T
  have Gv : Def P w K mg base 5 "spline_value" ["spline", "x"] (sp_spline_value K) := ok_spline_value T
  have Gp : Def P w K mg base 10 "spline_pieces" ["spline"] (sp_pieces_of K) := ok_spline_pieces T
  refine F.ok sc_law (fun vs H Q E h => ?_) fun cdv A outer s H vs Q E hr h => ?_
  · obtain ⟨a, ns, rfl, _⟩ := h
    rfl
  · obtain ⟨a, ns, rfl, hscr, kq⟩ := h
    have nd := sc_law.nd
    have r1 : Room 1 _ := hr.mono (by decide)
    have r2 : Room 2 _ := hr.mono (by decide)
    have r3 : Room 3 _ := hr.mono (by decide)
    have r4 : Room 4 _ := hr.mono (by decide)
    have r5 : Room 5 _ := hr.mono (by decide)
    refine ⟨_, (pss_cons (ps_set (i := 1) nd rfl (Or.inl rfl) (pe_lst (pa_cons (pv 0) (pa_cons pe_int (pa_cons pe_int (pa_cons pe_int pa_nil))))))
      (pss_cons (ps_set (i := 2) nd rfl (Or.inl rfl) (pe_def Gs r4 (pa_cons (pv 1) (pa_cons pe_int pa_nil))))
      (pss_cons (ps_asg (pv 2) (pg_tup (by rfl) (pgs_cons (pg_name (i := 3) nd rfl (Or.inl rfl)) (pgs_cons (pg_name (i := 4) nd rfl (Or.inr rfl)) (pgs_cons (pg_name (i := 5) nd rfl (Or.inl rfl)) pgs_nil)))))
      (pss_cons (ps_set (i := 6) nd rfl (Or.inr rfl) (pe_def Gw r4 (pa_cons (pv 1) (pa_cons (pv 2) pa_nil))))
      (pss_cons (ps_set (i := 7) nd rfl (Or.inr rfl) (pe_def Gv r5 (pa_cons (pv 2) (pa_cons (pv 6) pa_nil))))
      (pss_cons (ps_setLc (i := 9) (own := [("_law_at", 8)]) (g := gName 8) (by rfl) nd rfl rfl (sw_true rfl rfl rfl (by decide +kernel)) (pi_range1 (by rfl) T.b_range (pa_cons (pe_op op_sub (pe_callB call_len_seq (by rfl) T.b_len (by decide +kernel) (pa_cons (pv 4) pa_nil)) pe_int) pa_nil))
        (blkOk_by (own := [("_law_at", 8)]) (N := nLaw) (sc := defScope s_law) (by decide +kernel)) (fun _ _ _ _ _ => pg_name (i := 8) nd rfl (Or.inl rfl))
        (fun _ _ _ _ _ => pts_one (PW.pt (pw_and (pt_cmpR (op_neD hr.units : OpR _ (compareOp .NotEq) (rNeD K)) (pe_ix (ix_tup : IxR _ (rIxT K)) (pv 4) (pv 8) (fun _ _ => rfl)) (pe_ix (ix_tup : IxR _ (rIxT K)) (pv 4) (pe_op op_add (pv 8) pe_int) (fun _ _ => rfl)) (nomark _)) (pw_and1 (pt_not (pt_val (pe_def Gb r1 (pa_cons (pv 6) (pa_cons (pe_ix (ix_tup : IxR _ (rIxT K)) (pv 4) (pv 8) (fun _ _ => rfl)) pa_nil)))))))))
        (fun _ _ _ _ _ => pv 8))
      (pss_cons (ps_set (i := 10) nd rfl (Or.inl rfl) (pe_slice sl_tupA (pv 5) (po_some (pe_op op_sub (pe_ix ix_list (pv 9) (pe_un un_neg pe_int) (fun _ _ => rfl)) (pv 3))) (po_some (pe_op op_add (pe_ix ix_list (pv 9) (pe_un un_neg pe_int) (fun _ _ => rfl)) pe_int))))
      (pss_cons (ps_if (pt_cmpR (op_eqD hr.units) (pe_lc (own := [("_law_one", 11)]) (g := gName 11) (by rfl) nd (pi_tup (pv 10)) (blkOk_by (own := [("_law_one", 11)]) (N := nLaw) (sc := defScope s_law) (by decide +kernel)) (fun _ _ _ _ _ => pg_name (i := 11) nd rfl (Or.inl rfl))
        (fun _ _ _ _ _ => pts_one (pt_not (pt_val (pe_def Gb r1 (pa_cons (pv 7) (pa_cons (pv 11) pa_nil)))))) (fun _ _ _ _ _ => pv 11)) (pe_lst pa_nil) (nomark _)) pss_never pss_nil)
      (pss_cons (ps_if (pt_cmpR (op_eqD hr.units) (pe_lc (own := [("_law_one", 11)]) (g := gName 11) (by rfl) nd (pi_tup (pv 10)) (blkOk_by (own := [("_law_one", 11)]) (N := nLaw) (sc := defScope s_law) (by decide +kernel)) (fun _ _ _ _ _ => pg_name (i := 11) nd rfl (Or.inl rfl))
        (fun _ _ _ _ _ => pts_one (pt_not (pt_val (pe_def Gb r1 (pa_cons (pv 11) (pa_cons (pv 7) pa_nil)))))) (fun _ _ _ _ _ => pv 11)) (pe_lst pa_nil) (nomark _)) pss_never pss_nil)
      (pss_cons (ps_par (i := 12) (j := 13) (by rfl) nd rfl rfl (by decide) rfl rfl (pa_cons (pe_def Gt r1 (pa_cons (pv 1) (pa_cons (pe_callB call_len_seq (by rfl) T.b_len (by decide +kernel) (pa_cons (pv 5) pa_nil)) pa_nil))) (pa_cons (pe_def Gd r3 (pa_cons (pv 1) pa_nil)) pa_nil)) (by rfl))
      (pss_cons (ps_set (i := 14) nd rfl (Or.inl rfl) (pe_tup (pa_cons (pv 3) (pa_cons (pv 4) (pa_cons (pe_op op_catA (pe_op op_catA (pe_slice sl_tupA (pv 5) po_none (po_some (pv 12))) (pe_tup (pa_cons (pe_def Gpl r2 (pa_cons (pe_ix ix_tup (pv 5) (pv 12) (fun _ _ => rfl)) (pa_cons (pv 13) pa_nil))) pa_nil)))
        (pe_slice sl_tupA (pv 5) (po_some (pe_op op_add (pv 12) pe_int)) po_none)) pa_nil)))))
      (pss_cons (ps_par (i := 11) (j := 15) (by rfl) nd rfl rfl (by decide) rfl rfl (pa_cons (pe_def Gp hr (pa_cons (pv 2) pa_nil)) (pa_cons (pe_def Gp hr (pa_cons (pv 14) pa_nil)) pa_nil)) (by rfl))
      (pss_cons (ps_for PassesOwn.never rfl (pi_range1 (by rfl) T.b_range (pa_cons (pe_callB call_len_seq (by rfl) T.b_len (by decide +kernel) (pa_cons (pv 11) pa_nil)) pa_nil)) (pg_name (i := 8) nd rfl (Or.inl rfl))
        (pss_cons (ps_asg (pe_ix ix_tup (pe_ix ix_tup (pv 11) (pv 8) (fun _ _ => rfl)) pe_int (fun _ _ => rfl)) (pg_tup (by rfl) (pgs_cons (pg_name (i := 16) nd rfl (Or.inl rfl)) (pgs_cons (pg_name (i := 17) nd rfl (Or.inl rfl)) pgs_nil))))
        (pss_cons (ps_set (i := 18) nd rfl (Or.inl rfl) (pe_or (pe_not (pe_def Gb r1 (pa_cons (pv 16) (pa_cons (pe_ix ix_tup (pv 4) (pe_op op_add (pe_op op_add (pv 12) (pv 3)) pe_int) (fun _ _ => rfl)) pa_nil)))) (pe_one (pe_not (pe_def Gb r1 (pa_cons (pe_ix ix_tup (pv 4) (pv 12) (fun _ _ => rfl)) (pa_cons (pv 17) pa_nil)))))))
        (pss_one (ps_if (pt_cmpR op_ne (pe_cmpR (op_eqD hr.units) (pe_ix ix_tup (pv 11) (pv 8) (fun _ _ => rfl)) (pe_ix ix_tup (pv 15) (pv 8) (fun _ _ => rfl)) (nomark _)) (pe_or (pv 18) (pe_one (pe_cmpR (op_eqD hr.units) (pv 13) (pe_tup (pa_cons pe_int (pa_cons pe_int pa_nil))) (nomark _)))) (nomark _)) pss_never pss_nil)))))
      (pss_cons (ps_set (i := 19) nd rfl (Or.inl rfl) (pe_tup (pa_cons (pv 3) (pa_cons (pv 4) (pa_cons (pe_op op_repA (pe_tup (pa_cons (pv 13) pa_nil)) (pe_callB call_len_seq (by rfl) T.b_len (by decide +kernel) (pa_cons (pv 5) pa_nil))) pa_nil)))))
      (pss_one (ps_ret (pe_cmpR (op_eqD hr.units) (pe_def Gv r5 (pa_cons (pv 19) (pa_cons (pv 6) pa_nil))) (pv 13) (nomark _)))))))))))))))))).nox, ?_⟩
    refine s_seq ?_
    refine ⟨.ref a, rfl, by show 4 ≤ sizeLine; decide, fun r hr0 => ?_⟩
    have w1 : Rw K (upd H r (.lst [.ref a, .int 0, .int 4128, .int 0])) r a ns := ⟨⟨0, 4128, 0, upd_same, by decide, by decide, by decide, by decide⟩, Same.seq (Same.new hr0) hscr⟩
    dsimp only
    generalize upd H r (.lst [.ref a, .int 0, .int 4128, .int 0]) = H1 at w1
    refine s_seq ?_
    refine ⟨.ref r, rfl, r, a, ns, rfl, w1, fun d ks rs v2 H2 ok sb6 hS c2 w2 => ?_⟩
    obtain ⟨p, q, t, us, ws, rfl, hp, hq, hus, ht, hws⟩ := hS
    have sp2 : SP K H2 d ks rs p q t us ws := ⟨hp, hq, hus, ht, hws⟩
    clear hp hq hus ht hws
    have hk := ok.k
    have hl1 := hk.len
    have hl2 := hk.len16
    have hd4 := hk.d4
    have hlen := ok.len
    dsimp only
    refine s_seq (s_unpack3 (y_var (n := 2) (v := .ref p) rfl) sp2.hp fun H3 e3 => ?_)
    have sp3 := sp2.mono e3
    have w3 := w2.mono e3
    dsimp only
    refine s_seq ?_
    refine ⟨.ref r, rfl, .ref p, rfl, r, a, ns, .ref p, d, ks, rs, rfl, sp3.s, hk, w3, fun u x H4 wi xb ru c4 w4 => ?_⟩
    have sp4 := sp3.chg w3 c4
    have sx : Sm x := Sm_of144 xb
    obtain ⟨so, sb, slt⟩ := span_ok hk wi
    have sge := so.ge
    have slt2 := so.lt
    dsimp only
    refine s_seq (s_set (y_value (y_varP (n := 2) (v := .ref p) rfl mono_S sp4.s) (y_varP (n := 6) (v := u) rfl mono_R ru) ok xb wi) fun f H5 e5 rf => ?_)
    have sp5 := sp4.mono e5
    have w5 := w4.mono e5
    have ru5 := ru.mono e5
    have fb : Bd (DB d) 12 (dbV ks rs d x) := by
      refine db_bd hk xb so (near_len so hlen) (fun c hc => ?_) d (Nat.le_refl _) _ (dbV_mem hk wi hlen)
      exact ok.bd c (List.mem_of_mem_drop (List.mem_of_mem_take hc))
    have sf : Sm (dbV ks rs d x) := fb.small (dvd_DB (by omega)) (by decide +kernel)
    have flo := dbV_low hk wi hlen
    have fhi := dbV_high hk wi hlen
    generalize dbV ks rs d x = found at rf fb sf flo fhi
    have nl := near_len so hlen
    have nb : AllB 12 6 ((rs.drop (spanOf ks x - d)).take (d + 1)) := fun c hc => sb6 c (List.mem_of_mem_drop (List.mem_of_mem_take hc))
    dsimp only
    refine s_seq (s_set (y_lcR (n := (ks.length : Int) - 1) (k := 8) (a_1 (y_sub (y_lenPP (y_varP (n := 4) (v := .ref q) rfl mono_P sp5.k) rfl) (y_c (v := .int 1)))) (by omega) (fun i => isI (i : Int)) (spB ks x) (fun _ => mono_V) (fun _ => apart_V) (fun _ => rfl) (fun i H6 hi e => ?_)) fun v9 H6 e6 p9 => ?_)
    · have sp := sp5.mono e
      refine ⟨yt_and (yt_T (y_neR (y_itT (y_var (n := 4) (v := .ref q) rfl) (y_var (n := 8) (v := .int (i : Int)) rfl) sp.hq sp.hus (i := i) (by omega) rfl) (y_itT (y_var (n := 4) (v := .ref q) rfl) (y_add (y_var (n := 8) (v := .int (i : Int)) rfl) (y_c (v := .int 1))) sp.hq sp.hus (i := i + 1) (by omega) (by omega)))) fun _ =>
        yt_not (yt_B (y_lbelow (y_varP (n := 6) (v := u) rfl mono_R (ru5.mono e)) (y_itT (y_var (n := 4) (v := .ref q) rfl) (y_var (n := 8) (v := .int (i : Int)) rfl) sp.hq sp.hus (i := i) (by omega) rfl) sx (hk.sm i))), fun _ => y_var (n := 8) (v := .int (i : Int)) rfl⟩
    obtain ⟨l, ys, rfl, _, hl, hys⟩ := p9
    have en : ((ks.length : Int) - 1).toNat = ks.length - 1 := by omega
    rw [en] at hys
    have hys2 := paired_ints (g := fun (i : Nat) => V.int (i : Int)) hys
    have hat : atI ys (-1) = some (.int (spanOf ks x : Nat)) := by
      rw [hys2]
      refine at_last rfl fun z => ?_
      have m : spanOf ks x ∈ (List.range (ks.length - 1)).filter (spB ks x) := List.mem_filter.mpr ⟨List.mem_range.mpr slt, sb⟩
      rw [z] at m
      cases m
    generalize hsn : (rs.drop (spanOf ks x - d)).take (d + 1) = near at nl nb flo fhi
    generalize spanOf ks x = sn at *
    have sp6 := sp5.mono e6
    have w6 := w5.mono e6
    have esub : (sn : Int) - (d : Int) = ((sn - d : Nat) : Int) := by omega
    have yl : ∀ {H : Hp} {σ : L2.St}, σ[9]? = some (some (.ref l)) → Same H6 H → Ys (tOp (rIxL K) (tVar 9) (tUn (rU fun i => .int (-i)) (tC (.int 1)))) σ H (isI (sn : Int)) := fun h0 e => y_ixL (y_var (n := 9) (v := .ref l) h0) (y_neg (y_c (v := .int 1))) (.of (e _ _ hl)) hat mono_V rfl
    dsimp only
    refine s_seq (s_set (y_sliceT (y_var (n := 5) (v := .ref t) rfl) (y_sub (yl rfl (Same.refl _)) (y_var (n := 3) (v := .int (d : Int)) rfl)) (y_add (yl rfl (Same.refl _)) (y_c (v := .int 1))) sp6.ht sp6.hws (a := sn - d) (b := sn + 1) esub rfl (by omega) (by omega)) fun v10 H7 e7 p10 => ?_)
    have etk : sn + 1 - (sn - d) = d + 1 := by omega
    rw [etk, hsn] at p10
    have sp7 := sp6.mono e7
    have w7 := w6.mono e7
    have ru7 := (ru5.mono e6).mono e7
    have rf7 := (RatAt.mono rf e6).mono e7
    obtain ⟨pn, un, rfl, tn, rn⟩ := p10
    have lun := rats_len rn
    have sn' : ∀ j, Sm (near.getD j 0) := fun j => (nb.getD j).small dvd_12 (by decide +kernel)
    obtain ⟨clo, mlo, hlo⟩ := flo
    obtain ⟨chi, mhi, hhi⟩ := fhi
    obtain ⟨jlo, jl1, jl2⟩ := List.mem_iff_getElem.mp mlo
    obtain ⟨jhi, jh1, jh2⟩ := List.mem_iff_getElem.mp mhi
    have glo : near.getD jlo 0 = clo := by
      rw [List.getD_eq_getElem?_getD, List.getElem?_eq_getElem jl1, jl2]
      rfl
    have ghi : near.getD jhi 0 = chi := by
      rw [List.getD_eq_getElem?_getD, List.getElem?_eq_getElem jh1, jh2]
      rfl
    dsimp only
    refine s_seq (s_no (yt_T (y_eqL (y_lcL (g := fun j => near.getD j 0) (y_lcT (y_var (n := 10) (v := .ref pn) rfl) tn (Nat.lt_of_lt_of_le (by omega : un.length < 1000) (by decide)) (fun j => isR K (near.getD j 0)) (fun j => !decide (found < near.getD j 0)) (fun _ => mono_R) (fun _ => apart_R) (fun _ => rfl) (fun j z H8 hz e => ?_))) y_emptyL))
      (filter_ne (i := jlo) (by omega) (by rw [glo, decide_eq_false (by grind)] <;> rfl)) fun H8 e8 => ?_)
    · have hj : j < near.length := by
        have := (List.getElem?_eq_some_iff.mp hz).1
        omega
      obtain ⟨c, hc1, hc⟩ := Paired.at1 rn hz
      rw [getD_at hj] at hc1
      cases hc1
      exact ⟨yt_not (yt_B (y_lbelow (y_varP (n := 7) (v := f) rfl mono_R (RatAt.mono rf7 e)) (y_varP (n := 11) (v := z) rfl mono_R (RatAt.mono hc e)) sf (sn' j))), fun _ => y_varP (n := 11) (v := z) rfl mono_R (RatAt.mono hc e)⟩
    have tn8 := Same.tup e8 tn
    have rn8 := rn.mono e8
    dsimp only
    refine s_seq (s_no (yt_T (y_eqL (y_lcL (g := fun j => near.getD j 0) (y_lcT (y_var (n := 10) (v := .ref pn) rfl) tn8 (Nat.lt_of_lt_of_le (by omega : un.length < 1000) (by decide)) (fun j => isR K (near.getD j 0)) (fun j => !decide (near.getD j 0 < found)) (fun _ => mono_R) (fun _ => apart_R) (fun _ => rfl) (fun j z H9 hz e => ?_))) y_emptyL))
      (filter_ne (i := jhi) (by omega) (by rw [ghi, decide_eq_false (by grind)] <;> rfl)) fun H9 e9 => ?_)
    · have hj : j < near.length := by
        have := (List.getElem?_eq_some_iff.mp hz).1
        omega
      obtain ⟨c, hc1, hc⟩ := Paired.at1 rn8 hz
      rw [getD_at hj] at hc1
      cases hc1
      exact ⟨yt_not (yt_B (y_lbelow (y_varP (n := 11) (v := z) rfl mono_R (RatAt.mono hc e)) (y_varP (n := 7) (v := f) rfl mono_R ((RatAt.mono rf7 e8).mono e)) (sn' j) sf)), fun _ => y_varP (n := 11) (v := z) rfl mono_R (RatAt.mono hc e)⟩
    have e79 := e8.trans e9
    have sp9 := sp7.mono e79
    have w9 := w7.mono e79
    have ru9 := ru7.mono e79
    dsimp only
    refine s_seq ?_
    refine yd_taken (n := 1) w9 rfl (y_lenPP (y_varP (n := 5) (v := .ref t) rfl mono_P sp9.n) rfl) (by omega) (by omega) _ fun v H10 c10 w10 pv => ?_
    obtain ⟨i, rfl, i0, i1⟩ := pv
    obtain ⟨i, rfl⟩ : ∃ n : Nat, i = (n : Int) := ⟨i.toNat, by omega⟩
    refine yd_draw (n := 1) w10 rfl _ fun v13 H11 c11 w11 pv => ?_
    obtain ⟨st, stb, rst⟩ := pv
    refine ⟨_, _, rfl, ?_⟩
    have sp11 := (sp9.chg w9 c10).chg w10 c11
    have ru11 := (ru9.chg w9 c10).chg w10 c11
    have hi : i < rs.length := by omega
    have nb2 : ∀ j, LSm (rs.getD j 0) st := fun j => lsm_of (sb6.getD j) stb dvd_12 dvd_12 (by decide +kernel) (by decide +kernel) (by decide) (by decide) (by decide)
    dsimp only
    refine s_seq (s_set (P := isS K d ks (chR rs i st)) (y_spl (y_var (n := 3) (v := .int (d : Int)) rfl) (y_varP (n := 4) (v := .ref q) rfl mono_P sp11.k) (y_catP (y_catP (y_headT (y_varP (n := 5) (v := .ref t) rfl mono_P sp11.n) (y_var (n := 12) (v := .int (i : Int)) rfl) rfl (by omega))
        (y_tup1R (y_lplus (y_itT (y_var (n := 5) (v := .ref t) rfl) (y_var (n := 12) (v := .int (i : Int)) rfl) sp11.ht sp11.hws (i := i) hi rfl) (y_varP (n := 13) (v := v13) rfl mono_R rst) (nb2 i))) (by rw [List.length_take]; simp; omega))
      (y_fromT (y_varP (n := 5) (v := .ref t) rfl mono_P sp11.n) (y_add (y_var (n := 12) (v := .int (i : Int)) rfl) (y_c (v := .int 1))) (n := i + 1) (by omega) (by omega)) (by rw [List.length_append, List.length_take, List.length_drop]; simp; omega))) fun v14 H12 e12 p14 => ?_)
    have sp12 := sp11.mono e12
    have ok2 : SOk d ks (chR rs i st) := ⟨hk, by rw [chR_len st hi]; exact hlen, chR_bd hi sb6 stb⟩
    dsimp only
    refine s_seq (s_par (y_pieces (y_varP (n := 2) (v := .ref p) rfl mono_S sp12.s) ok) (y_pieces (y_varP (n := 14) (v := v14) rfl mono_S p14) ok2) mono_Pcs fun v11 v15 H13 e13 p11 p15 => ?_)
    have e11 := e12.trans e13
    have sp13 := sp12.mono e13
    have rst13 := rst.mono e11
    have ru13 := ru11.mono e11
    have pcl : (pcs ks rs d (ks.length - 1)).length = ((List.range (ks.length - 1)).filter (neB ks)).length := by
      unfold pcs
      rw [List.length_map]
    have pcn : (pcs ks rs d (ks.length - 1)).length ≤ ks.length - 1 := by
      rw [pcl]
      have z := List.length_filter_le (neB ks) (List.range (ks.length - 1))
      rw [List.length_range] at z
      exact z
    dsimp only
    refine s_seq (s_forR (n := ((pcs ks rs d (ks.length - 1)).length : Int)) (a_1 (y_lenPcs (y_varP (n := 11) (v := v11) rfl mono_Pcs p11) rfl)) (by omega)
      (fun j σ' H' => ∃ s8 s16 s17 s18, σ' = [some (.ref a), some (.ref r), some (.ref p), some (.int (d : Int)), some (.ref q), some (.ref t), some u, some f, s8, some (.ref l), some (.ref pn), some v11, some (.int (i : Int)), some v13, some v14, some v15, s16, s17, s18, none] ∧ Same H13 H')
      (fun H14 e14 => ⟨_, _, _, _, rfl, e14⟩) (fun j σ' H' hj p' => ?_) fun σ' H' p' => ?_)
    · obtain ⟨s8, s16, s17, s18, rfl, e⟩ := p'
      have hj2 : j < ((List.range (ks.length - 1)).filter (neB ks)).length := by omega
      obtain ⟨pl, hpl⟩ : ∃ pl, ((List.range (ks.length - 1)).filter (neB ks))[j]? = some pl := ⟨_, List.getElem?_eq_getElem hj2⟩
      have hm := List.mem_filter.mp (List.mem_of_getElem? hpl)
      have hm1 := List.mem_range.mp hm.1
      have at1 : (pcs ks rs d (ks.length - 1))[j]? = some (kn ks pl, kn ks (pl + 1), piece ks rs d pl) := by
        unfold pcs
        rw [List.getElem?_map, hpl]
        rfl
      have at2 : (pcs ks (chR rs i st) d (ks.length - 1))[j]? = some (kn ks pl, kn ks (pl + 1), piece ks (chR rs i st) d pl) := by
        unfold pcs
        rw [List.getElem?_map, hpl]
        rfl
      have tk := turn_ok hk (rs := rs) (rs' := chR rs i st) (st := st) (i := i) (pl := pl) (by omega) (by omega) hm.2 (chR_at st hi) (chR_ne st hi)
      have q11 := mono_Pcs _ _ _ p11 e
      have q15 := mono_Pcs _ _ _ p15 e
      have sp := sp13.mono e
      have rs3 := rst13.mono e
      dsimp only
      refine s_seq (s_unpack2 (y_pc0 (y_pcI (y_varP (n := 11) (v := v11) rfl mono_Pcs q11) (y_var (n := 8) (v := .int (j : Int)) rfl) at1 rfl)) fun lo hi' H14 e14 plo phi => ?_)
      have sp14 := sp.mono e14
      dsimp only
      refine s_seq (s_set (y_orV (y_notV (y_lbelow (y_varP (n := 16) (v := lo) rfl mono_R plo) (y_itT (y_var (n := 4) (v := .ref q) rfl) (y_add (y_add (y_var (n := 12) (v := .int (i : Int)) rfl) (y_var (n := 3) (v := .int (d : Int)) rfl)) (y_c (v := .int 1))) sp14.hq sp14.hus (i := i + d + 1) (by omega) (by omega)) (hk.sm pl) (hk.sm (i + d + 1))))
        fun _ => y_notV (y_lbelow (y_itT (y_var (n := 4) (v := .ref q) rfl) (y_var (n := 12) (v := .int (i : Int)) rfl) sp14.hq sp14.hus (i := i) (by omega) rfl) (y_varP (n := 17) (v := hi') rfl mono_R phi) (hk.sm i) (hk.sm (pl + 1)))) fun v18 H15 e15 p18 => ?_)
      rw [show v18 = _ from p18]
      have e145 := e14.trans e15
      dsimp only
      refine s_no (yt_T (y_neB (y_eqPc (y_pcI (y_varP (n := 11) (v := v11) rfl mono_Pcs (mono_Pcs _ _ _ q11 e145)) (y_var (n := 8) (v := .int (j : Int)) rfl) at1 rfl) (y_pcI (y_varP (n := 15) (v := v15) rfl mono_Pcs (mono_Pcs _ _ _ q15 e145)) (y_var (n := 8) (v := .int (j : Int)) rfl) at2 rfl))
        (y_orV (y_var (n := 18) (v := .bl (!decide (kn ks pl < kn ks (i + d + 1)) || !decide (kn ks i < kn ks (pl + 1)))) rfl) fun _ => y_eqR (y_varP (n := 13) (v := v13) rfl mono_R (rs3.mono e145)) y_nought))) ?_ fun H16 e16 => ⟨_, _, _, _, rfl, (e.trans e145).trans e16⟩
      rw [tk, decide_eq_true rfl]
      rfl
    · obtain ⟨s8, s16, s17, s18, rfl, e⟩ := p'
      have sp := sp13.mono e
      dsimp only
      refine s_seq (s_set (P := isS K d ks (List.replicate rs.length st)) (y_spl (y_var (n := 3) (v := .int (d : Int)) rfl) (y_varP (n := 4) (v := .ref q) rfl mono_P sp.k) (y_repT (y_varP (n := 13) (v := v13) rfl mono_R (rst13.mono e)) (y_lenPP (y_varP (n := 5) (v := .ref t) rfl mono_P sp.n) rfl) rfl (by omega) (by omega))) fun v19 H14 e14 p19 => ?_)
      have ok3 : SOk d ks (List.replicate rs.length st) := ⟨hk, by rw [List.length_replicate]; exact hlen, fun c hc => by rw [List.eq_of_mem_replicate hc]; exact stb.mono (by decide)⟩
      have fl : dbV ks (List.replicate rs.length st) d x = st := dbV_flat hk wi ok3.len fun z hz => List.eq_of_mem_replicate hz
      dsimp only
      refine s_ret (y_eqR (y_value (y_varP (n := 19) (v := v19) rfl mono_S p19) (y_varP (n := 6) (v := u) rfl mono_R (ru13.mono (e.trans e14))) ok3 xb wi) (y_varP (n := 13) (v := v13) rfl mono_R (rst13.mono (e.trans e14)))) fun v H15 e15 pv => ?_
      rw [show v = _ from pv, fl, decide_eq_true rfl]
      exact kq H15
end
end BC
namespace BC
open L2 PySem PySem.Spec PyProof.Rows
def d_is_int : He.DefD := ⟨("is_int", none), "is_int", "is_int", defArgs s_is_int, defBody s_is_int, defScope s_is_int, [], []⟩
def d_is_from : He.DefD := ⟨("is_from", none), "is_from", "is_from", defArgs s_is_from, defBody s_is_from, defScope s_is_from, [], []⟩
def d_is_ratio : He.DefD := ⟨("is_ratio", none), "is_ratio", "is_ratio", defArgs s_is_ratio, defBody s_is_ratio, defScope s_is_ratio, [], []⟩
def d_made : He.DefD := ⟨("made", none), "made", "made", defArgs s_made, defBody s_made, defScope s_made, [], []⟩
def d_plus : He.DefD := ⟨("plus", none), "plus", "plus", defArgs s_plus, defBody s_plus, defScope s_plus, [], []⟩
def d_less : He.DefD := ⟨("less", none), "less", "less", defArgs s_less, defBody s_less, defScope s_less, [], []⟩
def d_times : He.DefD := ⟨("times", none), "times", "times", defArgs s_times, defBody s_times, defScope s_times, [], []⟩
def d_over : He.DefD := ⟨("over", none), "over", "over", defArgs s_over, defBody s_over, defScope s_over, [], []⟩
def d_negative : He.DefD := ⟨("negative", none), "negative", "negative", defArgs s_negative, defBody s_negative, defScope s_negative, [], []⟩
def d_is_below : He.DefD := ⟨("is_below", none), "is_below", "is_below", defArgs s_is_below, defBody s_is_below, defScope s_is_below, [], []⟩
def d_between : He.DefD := ⟨("between", none), "between", "between", defArgs s_between, defBody s_between, defScope s_between, [], []⟩
def d_are_ratios : He.DefD := ⟨("are_ratios", none), "are_ratios", "are_ratios", defArgs s_are_ratios, defBody s_are_ratios, defScope s_are_ratios, [], []⟩
def d_trimmed : He.DefD := ⟨("trimmed", none), "trimmed", "trimmed", defArgs s_trimmed, defBody s_trimmed, defScope s_trimmed, [], []⟩
def d_p_plus : He.DefD := ⟨("p_plus", none), "p_plus", "p_plus", defArgs s_p_plus, defBody s_p_plus, defScope s_p_plus, [], []⟩
def d_p_scaled : He.DefD := ⟨("p_scaled", none), "p_scaled", "p_scaled", defArgs s_p_scaled, defBody s_p_scaled, defScope s_p_scaled, [], []⟩
def d_p_times : He.DefD := ⟨("p_times", none), "p_times", "p_times", defArgs s_p_times, defBody s_p_times, defScope s_p_times, [], []⟩
def d_faults_of : He.DefD := ⟨("faults_of", none), "faults_of", "faults_of", defArgs s_faults_of, defBody s_faults_of, defScope s_faults_of, [], []⟩
def d_basis_poly : He.DefD := ⟨("basis_poly", none), "basis_poly", "basis_poly", defArgs s_basis_poly, defBody s_basis_poly, defScope s_basis_poly, [], []⟩
def d_need_spline : He.DefD := ⟨("need_spline", none), "need_spline", "need_spline", defArgs s_need_spline, defBody s_need_spline, defScope s_need_spline, [], []⟩
def d_span_of : He.DefD := ⟨("span_of", none), "span_of", "span_of", defArgs s_span_of, defBody s_span_of, defScope s_span_of, [], []⟩
def d_spline_at : He.DefD := ⟨("spline_at", none), "spline_at", "spline_at", defArgs s_spline_at, defBody s_spline_at, defScope s_spline_at, [], []⟩
def d_spline_value : He.DefD := ⟨("spline_value", none), "spline_value", "spline_value", defArgs s_spline_value, defBody s_spline_value, defScope s_spline_value, [], []⟩
def d_pieces_of : He.DefD := ⟨("pieces_of", none), "pieces_of", "pieces_of", defArgs s_pieces_of, defBody s_pieces_of, defScope s_pieces_of, [], []⟩
def d_spline_pieces : He.DefD := ⟨("spline_pieces", none), "spline_pieces", "spline_pieces", defArgs s_spline_pieces, defBody s_spline_pieces, defScope s_spline_pieces, [], []⟩
def d__law_taken : He.DefD := ⟨("_law_taken", none), "_law_taken", "_law_taken", defArgs s__law_taken, defBody s__law_taken, defScope s__law_taken, [], []⟩
def d__law_pick : He.DefD := ⟨("_law_pick", none), "_law_pick", "_law_pick", defArgs s__law_pick, defBody s__law_pick, defScope s__law_pick, [], []⟩
def d__law_made : He.DefD := ⟨("_law_made", none), "_law_made", "_law_made", defArgs s__law_made, defBody s__law_made, defScope s__law_made, [], []⟩
def d__law_plus : He.DefD := ⟨("_law_plus", none), "_law_plus", "_law_plus", defArgs s__law_plus, defBody s__law_plus, defScope s__law_plus, [], []⟩
def d__law_minus : He.DefD := ⟨("_law_minus", none), "_law_minus", "_law_minus", defArgs s__law_minus, defBody s__law_minus, defScope s__law_minus, [], []⟩
def d__law_times : He.DefD := ⟨("_law_times", none), "_law_times", "_law_times", defArgs s__law_times, defBody s__law_times, defScope s__law_times, [], []⟩
def d__law_below : He.DefD := ⟨("_law_below", none), "_law_below", "_law_below", defArgs s__law_below, defBody s__law_below, defScope s__law_below, [], []⟩
def d__law_draw : He.DefD := ⟨("_law_draw", none), "_law_draw", "_law_draw", defArgs s__law_draw, defBody s__law_draw, defScope s__law_draw, [], []⟩
def d__law_middle : He.DefD := ⟨("_law_middle", none), "_law_middle", "_law_middle", defArgs s__law_middle, defBody s__law_middle, defScope s__law_middle, [], []⟩
def d__law_spline : He.DefD := ⟨("_law_spline", none), "_law_spline", "_law_spline", defArgs s__law_spline, defBody s__law_spline, defScope s__law_spline, [], []⟩
def d__law_within : He.DefD := ⟨("_law_within", none), "_law_within", "_law_within", defArgs s__law_within, defBody s__law_within, defScope s__law_within, [], []⟩
def d_law : He.DefD := ⟨("law", none), "law", "law", defArgs s_law, defBody s_law, defScope s_law, [], []⟩
def fn : List He.DefD := [d_is_int, d_is_from, d_is_ratio, d_made, d_plus, d_less, d_times, d_over, d_negative, d_is_below, d_between, d_are_ratios, d_trimmed, d_p_plus, d_p_scaled, d_p_times, d_faults_of, d_basis_poly, d_need_spline, d_span_of, d_spline_at, d_spline_value, d_pieces_of, d_spline_pieces, d__law_taken, d__law_pick, d__law_made, d__law_plus, d__law_minus, d__law_times, d__law_below, d__law_draw, d__law_middle, d__law_spline, d__law_within, d_law]
def fa : List He.Fa := [.glo "is_int", .glo "is_from", .glo "is_ratio", .glo "made", .glo "plus", .glo "less", .glo "times", .glo "over", .glo "negative", .glo "is_below", .glo "between", .glo "are_ratios", .glo "trimmed", .glo "p_plus", .glo "p_scaled", .glo "p_times", .glo "faults_of", .glo "basis_poly", .glo "need_spline", .glo "span_of", .glo "spline_at", .glo "spline_value", .glo "pieces_of", .glo "spline_pieces", .glo "_law_taken", .glo "_law_pick", .glo "_law_made", .glo "_law_plus", .glo "_law_minus", .glo "_law_times", .glo "_law_below", .glo "_law_draw", .glo "_law_middle", .glo "_law_spline", .glo "_law_within", .glo "law", .free "isinstance", .free "len", .free "int", .free "bool", .free "tuple", .free "list", .free "all", .free "zip", .free "max", .free "abs", .free "range", .free "enumerate", .int "MOST_DEGREE" 4, .int "MOST_KNOTS" 16, .glo "ZERO", .glo "ONE"]
def loose1 : List PySem.Str := ["gcd", "BlendError", "BadSpline", "BadPlace", "ZERO", "ONE", "MOST_DEGREE", "MOST_KNOTS", "is_int", "is_from", "is_ratio", "made", "plus", "less", "times", "over", "negative", "is_below", "between", "are_ratios", "trimmed"]
def loose2 : List PySem.Str := ["p_plus", "p_scaled", "p_times", "faults_of", "basis_poly", "need_spline", "span_of", "spline_at", "spline_value", "pieces_of", "spline_pieces", "_law_taken", "_law_pick", "_law_made", "_law_plus", "_law_minus", "_law_times", "_law_below", "_law_draw", "_law_middle", "_law_spline", "_law_within"]
def loose : List PySem.Str := loose1 ++ loose2
def ex (K : PySem.W.Frag) : Bool := He.tupB K "ZERO" [.int 0, .int 1] && (He.tupB K "ONE" [.int 1, .int 1] && He.eqO (PySem.W.nsIn K mainGlobals "gcd") (some (some (.builtin "math.gcd"))))
abbrev R : PySem.W.OpenRow := PySem.W.OpenLaw.row PySem.Challenge.rw_blendcurves_k28_whole_bounds_of_splines
abbrev hk : PySem.W.Hook := He.hookX 4 fa fn [] [] ex
def ob (s : PySem.W.SharedT) : He.AlX := He.obsX 4 fa fn [] [] ex (HandSHeadRun.getT s)
theorem ob_eq (s : PySem.W.SharedT) : ob s = hk.obs s.abs := He.obsX_eq (HandSHeadRun.getT_eq s)
end BC
namespace BC
open L2 PySem PySem.Spec PyProof.Rows
section
variable {w : World} {K : PySem.W.Frag} {h : Heap} {mg : Str → Option Value}
theorem here (X : K.In h) (G : h.Ns mainGlobals mg) (c : He.SaysD fa fn K) (i : Nat) {x : Str} {st : Stmt} (h1 : fn[i]? = some ⟨(x, none), x, x, defArgs st, defBody st, defScope st, [], []⟩) (h2 : fa[i]? = some (.glo x)) : Here K mg x st :=
  ⟨c.def_ i h1, He.glo_ok X G (c.fact i h2)⟩
theorem tx_of (X : K.In h) (G : h.Ns mainGlobals mg) (c : He.SaysX fa fn [] [] ex w h K) : TX K mg where
  is_int := here X G c.t.d 0 rfl rfl
  is_from := here X G c.t.d 1 rfl rfl
  is_ratio := here X G c.t.d 2 rfl rfl
  made := here X G c.t.d 3 rfl rfl
  plus := here X G c.t.d 4 rfl rfl
  less := here X G c.t.d 5 rfl rfl
  times := here X G c.t.d 6 rfl rfl
  over := here X G c.t.d 7 rfl rfl
  negative := here X G c.t.d 8 rfl rfl
  is_below := here X G c.t.d 9 rfl rfl
  between := here X G c.t.d 10 rfl rfl
  are_ratios := here X G c.t.d 11 rfl rfl
  trimmed := here X G c.t.d 12 rfl rfl
  p_plus := here X G c.t.d 13 rfl rfl
  p_scaled := here X G c.t.d 14 rfl rfl
  p_times := here X G c.t.d 15 rfl rfl
  faults_of := here X G c.t.d 16 rfl rfl
  basis_poly := here X G c.t.d 17 rfl rfl
  need_spline := here X G c.t.d 18 rfl rfl
  span_of := here X G c.t.d 19 rfl rfl
  spline_at := here X G c.t.d 20 rfl rfl
  spline_value := here X G c.t.d 21 rfl rfl
  pieces_of := here X G c.t.d 22 rfl rfl
  spline_pieces := here X G c.t.d 23 rfl rfl
  _law_taken := here X G c.t.d 24 rfl rfl
  _law_pick := here X G c.t.d 25 rfl rfl
  _law_made := here X G c.t.d 26 rfl rfl
  _law_plus := here X G c.t.d 27 rfl rfl
  _law_minus := here X G c.t.d 28 rfl rfl
  _law_times := here X G c.t.d 29 rfl rfl
  _law_below := here X G c.t.d 30 rfl rfl
  _law_draw := here X G c.t.d 31 rfl rfl
  _law_middle := here X G c.t.d 32 rfl rfl
  _law_spline := here X G c.t.d 33 rfl rfl
  _law_within := here X G c.t.d 34 rfl rfl
  b_isinstance := He.free_ok X G (c.t.d.fact 36 (f := .free "isinstance") rfl)
  b_len := He.free_ok X G (c.t.d.fact 37 (f := .free "len") rfl)
  b_int := He.free_ok X G (c.t.d.fact 38 (f := .free "int") rfl)
  b_bool := He.free_ok X G (c.t.d.fact 39 (f := .free "bool") rfl)
  b_tuple := He.free_ok X G (c.t.d.fact 40 (f := .free "tuple") rfl)
  b_list := He.free_ok X G (c.t.d.fact 41 (f := .free "list") rfl)
  b_all := He.free_ok X G (c.t.d.fact 42 (f := .free "all") rfl)
  b_zip := He.free_ok X G (c.t.d.fact 43 (f := .free "zip") rfl)
  b_max := He.free_ok X G (c.t.d.fact 44 (f := .free "max") rfl)
  b_abs := He.free_ok X G (c.t.d.fact 45 (f := .free "abs") rfl)
  b_range := He.free_ok X G (c.t.d.fact 46 (f := .free "range") rfl)
  b_enumerate := He.free_ok X G (c.t.d.fact 47 (f := .free "enumerate") rfl)
  mdeg := He.int_ok X G (c.t.d.fact 48 (f := .int "MOST_DEGREE" 4) rfl)
  mkno := He.int_ok X G (c.t.d.fact 49 (f := .int "MOST_KNOTS" 16) rfl)
  zG := He.glo_ok X G (c.t.d.fact 50 (f := .glo "ZERO") rfl)
  oG := He.glo_ok X G (c.t.d.fact 51 (f := .glo "ONE") rfl)
  zT := fun H => He.tupB_ok (vs := [.int 0, .int 1]) (He.ba c.more).1 H
  oT := fun H => He.tupB_ok (vs := [.int 1, .int 1]) (He.ba (He.ba c.more).2).1 H
  gcd := PySem.W.mg_of X G (He.eqO_ok (He.ba (He.ba c.more).2).2)
theorem facts {P : Program} {f : Addr} (X : K.In h) (G : h.Ns mainGlobals mg) (hfa : mg ("law" : Str) = some (.ref f)) (c : He.SaysX fa fn [] [] ex w h K) :
    ∃ fd : FuncData, (∀ (s : Shared) (v : Value), BindsTo s fd ⟨[v], []⟩ [("_law_script", v)]) ∧ ∀ base : Heap, K.In base → base.Ns mainGlobals mg → FnOk P w K mg base CX0 11 f fd ["_law_script"] (sp_law K) := by
  obtain ⟨fd, F⟩ := c.t.d.def_ 35 (d := d_law) rfl
  have e := hfa.symm.trans (He.glo_ok X G (c.t.d.fact 35 (f := .glo "law") rfl))
  cases e
  have b := FunD.bindsA (ps := ["_law_script"]) F fun _ _ _ _ _ _ us hl => match us, hl with | [_], _ => rfl
  exact ⟨fd, fun s v => b s [v] rfl, fun base _ _ => ok_law (tx_of X G c) F⟩
end
end BC
namespace BC
open L2 PySem PySem.Spec PyProof.Rows
def looseI : List PySem.Str := loose1.drop 1 ++ loose2
abbrev qv : PySem.Program := PySem.W.view R.prog [0, 49]
theorem run (w : World) : HandSHeadRun.RunEqI R qv hk ob 12000 looseI w := by
  unfold HandSHeadRun.RunEqI
  kernel_rfl
end BC
open PySem.W PySem PyProof.Rows PySem.Calls
theorem PySem.Challenge.cw_blendcurves_k28_whole_bounds_of_splines_holds : PySem.Challenge.rw_blendcurves_k28_whole_bounds_of_splines.Holds := by
  w_on; o_law
  refine HandSHeadRun.head_imp (r := OpenLaw.row PySem.Challenge.rw_blendcurves_k28_whole_bounds_of_splines) (q := BC.qv) (H := BC.hk) (ob := BC.ob) (M := 12000) (loose := BC.looseI) (d := HandSHeadRun.topDef (OpenLaw.row PySem.Challenge.rw_blendcurves_k28_whole_bounds_of_splines).prog 49) (kwd := []) BC.ob_eq BC.run
    (by kernel_rfl) (by kernel_rfl) (by kernel_rfl) (by rfl) (by first | assumption | decide +kernel) (by decide +kernel) ⟨rfl, rfl, rfl, rfl, rfl, by decide +kernel⟩ ?hw ?hc
  case hw => w_witness2
  case hc =>
    refine L2.walk_ofE (l := PySem.Challenge.rw_blendcurves_k28_whole_bounds_of_splines) (n := 63) (k := 11) (x := "_law_script") (CX := L2.CX0) rfl (by decide) (by kernel_rfl) ⟨rfl, by decide, by decide⟩ ?F (fun _ _ _ _ z => z)
    intro w mg fa h Y G hmg0
    obtain ⟨K, KX, c⟩ := Y
    have atLaw : mg ("law" : PySem.Str) = some (.ref fa) := by
      have e : (HandSHeadRun.topDef (OpenLaw.row PySem.Challenge.rw_blendcurves_k28_whole_bounds_of_splines).prog 49).name = ("law" : PySem.Str) := by kernel_rfl
      rw [← e]
      exact hmg0
    obtain ⟨fd, hb, hF⟩ := BC.facts (P := (PySem.Challenge.rw_blendcurves_k28_whole_bounds_of_splines).prog) (w := w) KX G atLaw c
    exact ⟨K, fd, BC.sp_law K, KX, hb, fun H a ns hl _ hS => ⟨a, ns, rfl, hS, fun _ => rfl⟩, hF⟩
