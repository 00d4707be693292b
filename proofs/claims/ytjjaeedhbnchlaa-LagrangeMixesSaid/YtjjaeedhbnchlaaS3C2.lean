/- What the functions of the program and of the reference compute, up to the law. Conditions stand in each theorem. -/
import Derived.Test.YtjjaeedhbnchlaaS3C1
section
namespace Go.TM.Fn
open Go Go.TM Go.Plain
set_option linter.unusedVariables false
set_option linter.unusedSimpArgs false
set_option maxRecDepth 20000
theorem parts_c {k v q} (h : IsQ k v q) (hk : k < 1073741823) (hk0 : 0 < k) : ∃ a ds b es N D, Gives mach 45 [v] (.tup [rawI a ds, rawI b es]) ∧ IsI k (rawI a ds) N ∧ IsI k (rawI b es) D ∧ 0 < D ∧ Rat.divInt N D = q := by
  obtain ⟨n, ds, m, es, rfl, hd, he, hl, hl2, hq⟩ := h
  have i1 : IsI k (rawI n ds) (ival n ds) := ⟨n, ds, rfl, hd, hl, rfl⟩
  have i2 : IsI k (rawI m es) (ival m es) := ⟨m, es, rfl, he, hl2, rfl⟩
  have s := sign_c i2 (by omega)
  have o := one_c
  simp only [encI, rawI, seval, decide_false] at o
  by_cases hy0 : ival m es = 0
  · refine ⟨false, [], false, toDig (Int.natAbs 1), 0, 1, ?_, ⟨_, _, rfl, .nil, by simp, rfl⟩, ⟨_, _, rfl, dig_toDig _, by rw [toDig_one (by decide) (by decide)]; exact hk0, by simp [ival, val_toDig]⟩, by omega, by rw [← hq, hy0, Rat.zero_divInt, Rat.divInt_zero]⟩
    refine gives tab45 rfl ?_
    simp only [F45, tmR, seval, wpcall_eq s, sgn_zero, hy0, wpcall_eq o, tmF]
    rfl
  · by_cases hneg : ival m es < 0
    · have n1 := negate_c i1 (by omega)
      have n2 := negate_c i2 (by omega)
      refine ⟨_, _, _, _, -ival n ds, -ival m es, ?_, isI_enc i1.di.neg, isI_enc i2.di.neg, by omega, ?_⟩
      · refine gives tab45 rfl ?_
        simp only [F45, tmR, seval, wpcall_eq s, sgn_zero, sgn_neg, hy0, hneg, wpcall_eq n1, wpcall_eq n2, tmF]
      · rw [← hq, Rat.divInt_eq_divInt_iff (by omega) hy0, Int.neg_mul, Int.mul_neg]
    · refine ⟨n, ds, m, es, _, _, ?_, i1, i2, by omega, hq⟩
      refine gives tab45 rfl ?_
      simp only [F45, tmR, seval, wpcall_eq s, sgn_zero, sgn_neg, hy0, hneg, tmF]
theorem qadd_c {j k v w x y} (hv : IsQ j v x) (hw : IsQ k w y) (hj : j + k < 536870000) (hj0 : 0 < j) (hk0 : 0 < k) : Gives mach 22 [v, w] (encQ (x + y)) := by
  obtain ⟨a, ds, b, es, N, D, p1, i1, i2, hD, h1⟩ := parts_c hv (by omega) hj0
  obtain ⟨a', ds', b', es', N', D', p2, i1', i2', hD', h2⟩ := parts_c hw (by omega) hk0
  obtain ⟨n, xs, m, ys, rfl, -⟩ := hv
  obtain ⟨n', xs', m', ys', rfl, -⟩ := hw
  have m1 := mul_c i1 i2' (by omega) (by omega)
  have m2 := mul_c i1' i2 (by omega) (by omega)
  have m3 := mul_c i2 i2' (by omega) (by omega)
  have d1 := i1.di.mul i2'.di
  have d2 := i1'.di.mul i2.di
  have d3 := i2.di.mul i2'.di
  have s := add_c (isI_enc d1) (isI_enc d2) (by omega) (by omega)
  have r := reduced_c (isI_enc (d1.add d2)) (isI_enc d3) (by omega) (by omega)
  rw [← Rat.divInt_add_divInt _ _ (by omega) (by omega), h1, h2] at r
  refine gives tab22 rfl ?_
  simp only [F22, tmR, seval, wpcall_eq p1, wpcall_eq p2, wpcall_eq m1, wpcall_eq m2, wpcall_eq s, wpcall_eq m3, wpcall_eq r, tmF]
theorem qmul_c {j k v w x y} (hv : IsQ j v x) (hw : IsQ k w y) (hj : j + k < 536870000) (hj0 : 0 < j) (hk0 : 0 < k) : Gives mach 23 [v, w] (encQ (x * y)) := by
  obtain ⟨a, ds, b, es, N, D, p1, i1, i2, hD, h1⟩ := parts_c hv (by omega) hj0
  obtain ⟨a', ds', b', es', N', D', p2, i1', i2', hD', h2⟩ := parts_c hw (by omega) hk0
  obtain ⟨n, xs, m, ys, rfl, -⟩ := hv
  obtain ⟨n', xs', m', ys', rfl, -⟩ := hw
  have m1 := mul_c i1 i1' (by omega) (by omega)
  have m3 := mul_c i2 i2' (by omega) (by omega)
  have d1 := i1.di.mul i1'.di
  have d3 := i2.di.mul i2'.di
  have r := reduced_c (isI_enc d1) (isI_enc d3) (by omega) (by omega)
  rw [← Rat.divInt_mul_divInt, h1, h2] at r
  refine gives tab23 rfl ?_
  simp only [F23, tmR, seval, wpcall_eq p1, wpcall_eq p2, wpcall_eq m1, wpcall_eq m3, wpcall_eq r, tmF]
theorem qneg_c {j v x} (hv : IsQ j v x) (hj : j < 536870000) (hj0 : 0 < j) : Gives mach 81 [v] (encQ (-x)) := by
  obtain ⟨a, ds, b, es, N, D, p1, i1, i2, hD, h1⟩ := parts_c hv (by omega) hj0
  obtain ⟨n, xs, m, ys, rfl, -⟩ := hv
  have n1 := negate_c i1 (by omega)
  have r := reduced_c (isI_enc i1.di.neg) i2 (by omega) (by omega)
  rw [← Rat.neg_divInt, h1] at r
  refine gives tab81 rfl ?_
  simp only [F81, tmR, seval, wpcall_eq p1, wpcall_eq n1, wpcall_eq r, tmF]
def sgq (q : Rat) : Int := sgn q.num
theorem sgn_mul_pos {a b : Int} (h : 0 < b) : sgn (a * b) = sgn a := by
  unfold sgn
  by_cases h1 : a < 0
  · rw [if_pos h1, if_pos (Int.mul_neg_of_neg_of_pos h1 h)]
  · rw [if_neg h1]
    by_cases h2 : a = 0
    · subst h2; simp
    · have : 0 < a * b := Int.mul_pos (by omega) h
      rw [if_neg (by omega), if_neg (by omega), if_neg h2]
theorem sgq_divInt {N D : Int} (hD : 0 < D) : sgq (Rat.divInt N D) = sgn N := by
  obtain ⟨m, hm⟩ : ∃ m : Int, N = (Rat.divInt N D).num * m ∧ 0 < m := by
    have h1 := (Rat.divInt_eq_divInt_iff (d₁ := ((Rat.divInt N D).den : Int)) (d₂ := D) (n₁ := (Rat.divInt N D).num) (n₂ := N) (by have := (Rat.divInt N D).den_pos; omega) (by omega)).1 (Rat.num_divInt_den _)
    have hp := (Rat.divInt N D).den_pos
    rw [Rat.num_divInt] at h1 ⊢
    have hs : D.sign = 1 := Int.sign_eq_one_of_pos hD
    rw [hs, Int.one_mul] at *
    have hg : (0 : Int) < (D.gcd N : Int) := by
      have : D.gcd N ≠ 0 := by rw [Ne, Int.gcd_eq_zero_iff]; omega
      omega
    refine ⟨D.gcd N, (Int.ediv_mul_cancel (Int.gcd_dvd_right D N)).symm, hg⟩
  unfold sgq
  conv => rhs; rw [hm.1]
  rw [sgn_mul_pos hm.2]
theorem qsign_c {j v x} (hv : IsQ j v x) (hj : j < 536870000) (hj0 : 0 < j) : Gives mach 92 [v] (.int .i64 (sgq x)) := by
  obtain ⟨a, ds, b, es, N, D, p1, i1, i2, hD, h1⟩ := parts_c hv (by omega) hj0
  obtain ⟨n, xs, m, ys, rfl, -⟩ := hv
  have s := sign_c i1 (by omega)
  rw [← h1, sgq_divInt hD]
  refine gives tab92 rfl ?_
  simp only [F92, tmR, seval, wpcall_eq p1, wpcall_eq s, tmF]
theorem qcompare_c {j k v w x y} (hv : IsQ j v x) (hw : IsQ k w y) (hj : j + k < 536870000) (hj0 : 0 < j) (hk0 : 0 < k) : Gives mach 79 [v, w] (.int .i64 (sgq (x - y))) := by
  obtain ⟨a, ds, b, es, N, D, p1, i1, i2, hD, h1⟩ := parts_c hv (by omega) hj0
  obtain ⟨a', ds', b', es', N', D', p2, i1', i2', hD', h2⟩ := parts_c hw (by omega) hk0
  obtain ⟨n, xs, m, ys, rfl, -⟩ := hv
  obtain ⟨n', xs', m', ys', rfl, -⟩ := hw
  have m1 := mul_c i1 i2' (by omega) (by omega)
  have m2 := mul_c i1' i2 (by omega) (by omega)
  have d1 := i1.di.mul i2'.di
  have d2 := i1'.di.mul i2.di
  have c := compare_c (isI_enc d1) (isI_enc d2) (by omega) (by omega)
  have e : sgq (x - y) = sgn (N * D' - N' * D) := by
    rw [← h1, ← h2, Rat.divInt_sub_divInt _ _ (by omega) (by omega), sgq_divInt (Int.mul_pos hD hD')]
  rw [e]
  refine gives tab79 rfl ?_
  simp only [F79, tmR, seval, wpcall_eq p1, wpcall_eq p2, wpcall_eq m1, wpcall_eq m2, wpcall_eq c, tmF]
theorem qnew_c {j k v w x y} (hv : IsI j v x) (hw : IsI k w y) (hy : y ≠ 0) (hj : j < 1073741823) (hk : k < 1073741823) : Gives mach 42 [v, w] (.tup [encQ (Rat.divInt x y), .int .i64 0]) := by
  have s := sign_c hw (by omega)
  have r := reduced_c hv hw hj hk
  obtain ⟨n, ds, rfl, -⟩ := hv
  obtain ⟨m, es, rfl, -⟩ := hw
  refine gives tab42 rfl ?_
  simp only [F42, tmR, seval, wpcall_eq s, sgn_zero, hy, wpcall_eq r, tmF]
theorem di_i64 {n : Int} (h : I64 n) : Di 2 n := by unfold Di; obtain ⟨h1, h2⟩ := h; omega
theorem qfrom_c {n d : Int} (hn : I64 n) (hd : I64 d) (h0 : d ≠ 0) : Gives mach 20 [.int .i64 n, .int .i64 d] (.tup [encQ (Rat.divInt n d), .int .i64 0]) := by
  have f1 := from_c hn
  have f2 := from_c hd
  have r := qnew_c (isI_enc (di_i64 hn)) (isI_enc (di_i64 hd)) h0 (by omega) (by omega)
  refine gives tab20 rfl ?_
  simp only [F20, tmR, seval, wpcall_eq f1, wpcall_eq f2, wpcall_eq r, tmF]
end Go.TM.Fn
end
section
namespace Go.TM.Fn
open Go Go.TM Go.Plain
set_option linter.unusedVariables false
set_option linter.unusedSimpArgs false
set_option maxRecDepth 20000
theorem trim_c (ds : List Nat) (hd : Dig ds) (hl : ds.length < 2147483648) : Gives mach 59 [.sl (dig ds)] (.sl (dig (toDig (Go.Plain.val ds)))) := by
  refine gives tab59 rfl ?_
  simp only [F59, tmR, seval, dig_len]
  refine wp_down (fun i s => i ≤ ds.length ∧ s.env 0 = .sl (dig ds) ∧ s.env 3 = .int .i64 (i : Nat) ∧ tlen ds ds.length = tlen ds i) ?_ ?_ ds.length _ ?_
  · rintro i st ⟨hi, h0, h3, ht⟩
    have hi2 : i < ds.length := by omega
    have hp : ((0 : Int) < ((i + 1 : Nat) : Int)) = True := eq_true (by omega)
    have hw : IntKind.i64.wrap ((i : Nat) : Int) = i := wrap_i64n (by omega)
    by_cases hz : ds.getD i 0 = 0
    · simp only [L59_0, tmR, seval, h0, h3, hp, nat_succ_sub, hw, iaddr_dig hi2, hz, cast0]
      exact ⟨by omega, by rw [ht, tlen_z hz]⟩
    · have hz' : (((ds.getD i 0 : Nat) : Int) = 0) = False := eq_false (by omega)
      have hle : i + 1 ≤ (dig ds).length := by rw [dig_len]; omega
      simp only [L59_0, tmR, seval, h0, h3, hp, nat_succ_sub, hw, iaddr_dig hi2, hz', slice_sl_h hle (uni_dig ds), tmF, dig_take]
      rw [← take_tlen_all hd, ht, tlen_p hz]
  · rintro st ⟨hi, h0, h3, ht⟩
    have hle : 0 ≤ (dig ds).length := Nat.zero_le _
    have hs := fun ob => slice_sl_h (ob := ob) (k := .i64) (h := 0) hle (uni_dig ds)
    simp only [cast0] at hs
    simp only [L59_0, tmR, seval, h0, h3, hs, tmF, dig_take]
    rw [← take_tlen_all hd, ht]; simp [tlen, dig]
  · simp only [tmD, reduceIte, Nat.reduceEqDiff, Nat.reduceAdd]
    exact Nat.le_refl _
theorem trim_v (n : Nat) (hl : (toDig n).length < 2147483648) : Gives mach 59 [.sl (dig (toDig n))] (.sl (dig (toDig n))) := by
  have := trim_c (toDig n) (dig_toDig n) hl
  rwa [val_toDig] at this
theorem digit_c (ds : List Nat) (hd : Dig ds) (hl : ds.length < 2147483648) (i : Nat) (hi : i < 4294967296) : Gives mach 91 [.sl (dig ds), .int .i64 (i : Nat)] (.int .u64 (ds.getD i 0 : Nat)) := by
  refine gives tab91 rfl ?_
  have hg := hd.get i
  by_cases h : i < ds.length
  · simp only [F91, tmR, seval, dig_len, nat_lt, h, iaddr_dig h, wrap_u64, Nat.mod_eq_of_lt (show ds.getD i 0 < 18446744073709551616 by omega), tmF]
  · have hz : ds.getD i 0 = 0 := by rw [List.getD_eq_getElem?_getD, List.getElem?_eq_none (by omega)]; rfl
    simp only [F91, tmR, seval, dig_len, nat_lt, h, hz, tmF]
theorem cmpD_c (xs ys : List Nat) (hda : Dig xs) (hdb : Dig ys) (hl : xs.length < 2147483648) (hl2 : ys.length < 2147483648) :
    Gives mach 72 [.sl (dig xs), .sl (dig ys)] (.int .i64 (sgnN (Go.Plain.val xs) (Go.Plain.val ys))) := by
  have t1 := trim_c xs hda hl
  have t2 := trim_c ys hdb hl2
  obtain ⟨us, hus⟩ : ∃ us, us = toDig (Go.Plain.val xs) := ⟨_, rfl⟩
  obtain ⟨vs, hvs⟩ : ∃ vs, vs = toDig (Go.Plain.val ys) := ⟨_, rfl⟩
  have ha : Dig us := by rw [hus]; exact dig_toDig _
  have hb : Dig vs := by rw [hvs]; exact dig_toDig _
  have hul : us.length < 2147483648 := by have := toDig_val_len hda; rw [hus]; omega
  have hvl : vs.length < 2147483648 := by have := toDig_val_len hdb; rw [hvs]; omega
  have ev1 : Go.Plain.val us = Go.Plain.val xs := by rw [hus, val_toDig]
  have ev2 : Go.Plain.val vs = Go.Plain.val ys := by rw [hvs, val_toDig]
  rw [← hus] at t1
  rw [← hvs] at t2
  refine gives tab72 rfl ?_
  by_cases hne : us.length = vs.length
  · have hw : IntKind.i64.wrap ((us.length : Int) - 1) = (us.length : Int) - 1 := wrap_i64 (by omega) (by omega)
    simp only [F72, tmR, seval, ← Int.natCast_add, ← Int.natCast_mul, wrap_u32, wrap_u64, wrap_i64n, wrap_i64, nat_succ_sub, nat_add_one, nat_lt, nat_le, nat_eq, nat_lt0, nat_le0, nat_eq0, bin_shr32, bin_shl32, dig_len, iaddr_hs, iaddr_dig, dig_getElem, dig_set, cast0, cast1, store_row, wpcall_eq t1, wpcall_eq t2, hne]
    rw [← hne, hw]
    refine wp_down (fun i s => i ≤ us.length ∧ s.env 0 = .sl (dig us) ∧ s.env 1 = .sl (dig vs) ∧ s.env 5 = .int .i64 ((i : Int) - 1) ∧ sgnN (Go.Plain.val xs) (Go.Plain.val ys) = cmpN us vs i) ?_ ?_ us.length _ ?_
    · rintro i st ⟨hi, h0, h1, h5, hc⟩
      have hiu : i < us.length := by omega
      have hiv : i < vs.length := by omega
      have hw : IntKind.i64.wrap ((i : Int) - 1) = (i : Int) - 1 := wrap_i64 (by omega) (by omega)
      rw [nat_succ_sub] at h5
      by_cases hlt : us.getD i 0 < vs.getD i 0
      · simp only [L72_0, tmR, seval, ← Int.natCast_add, ← Int.natCast_mul, wrap_u32, wrap_u64, wrap_i64n, wrap_i64, nat_succ_sub, nat_add_one, nat_lt, nat_le, nat_eq, nat_lt0, nat_le0, nat_eq0, bin_shr32, bin_shl32, dig_len, iaddr_hs, iaddr_dig, dig_getElem, dig_set, cast0, cast1, store_row, h0, h1, h5, hiu, hiv, hlt, hw, tmF]
        rw [hc]; simp only [cmpN]; rw [if_neg (by omega), if_pos hlt]
      · by_cases hgt : vs.getD i 0 < us.getD i 0
        · simp only [L72_0, tmR, seval, ← Int.natCast_add, ← Int.natCast_mul, wrap_u32, wrap_u64, wrap_i64n, wrap_i64, nat_succ_sub, nat_add_one, nat_lt, nat_le, nat_eq, nat_lt0, nat_le0, nat_eq0, bin_shr32, bin_shl32, dig_len, iaddr_hs, iaddr_dig, dig_getElem, dig_set, cast0, cast1, store_row, h0, h1, h5, hiu, hiv, hlt, hgt, hw, tmF]
          rw [hc]; simp only [cmpN]; rw [if_neg (by omega), if_neg hlt]
        · simp only [L72_0, tmR, seval, ← Int.natCast_add, ← Int.natCast_mul, wrap_u32, wrap_u64, wrap_i64n, wrap_i64, nat_succ_sub, nat_add_one, nat_lt, nat_le, nat_eq, nat_lt0, nat_le0, nat_eq0, bin_shr32, bin_shl32, dig_len, iaddr_hs, iaddr_dig, dig_getElem, dig_set, cast0, cast1, store_row, h0, h1, h5, hiu, hiv, hlt, hgt, hw]
          refine ⟨by omega, ?_⟩
          rw [hc]; simp only [cmpN]; rw [if_pos (by omega)]
    · rintro st ⟨hi, h0, h1, h5, hc⟩
      simp only [L72_0, tmR, seval, h0, h1, h5, tmF]
      rw [hc]; rfl
    · simp only [tmD, reduceIte, Nat.reduceEqDiff, Nat.reduceAdd]
      refine ⟨Nat.le_refl _, ?_⟩
      rw [cmpN_all ha hb hne, ev1, ev2]
  · have hne' : ¬ us.length = vs.length := hne
    by_cases hlt : us.length < vs.length
    · have := len_lt_val (x := Go.Plain.val xs) (y := Go.Plain.val ys) (by rw [← hus, ← hvs]; exact hlt)
      simp only [F72, tmR, seval, ← Int.natCast_add, ← Int.natCast_mul, wrap_u32, wrap_u64, wrap_i64n, wrap_i64, nat_succ_sub, nat_add_one, nat_lt, nat_le, nat_eq, nat_lt0, nat_le0, nat_eq0, bin_shr32, bin_shl32, dig_len, iaddr_hs, iaddr_dig, dig_getElem, dig_set, cast0, cast1, store_row, wpcall_eq t1, wpcall_eq t2, hne, hlt, tmF]
      simp [sgnN, this]
    · have := len_lt_val (x := Go.Plain.val ys) (y := Go.Plain.val xs) (by rw [← hus, ← hvs]; omega)
      simp only [F72, tmR, seval, ← Int.natCast_add, ← Int.natCast_mul, wrap_u32, wrap_u64, wrap_i64n, wrap_i64, nat_succ_sub, nat_add_one, nat_lt, nat_le, nat_eq, nat_lt0, nat_le0, nat_eq0, bin_shr32, bin_shl32, dig_len, iaddr_hs, iaddr_dig, dig_getElem, dig_set, cast0, cast1, store_row, wpcall_eq t1, wpcall_eq t2, hne, hlt, tmF]
      simp only [sgnN]; rw [if_neg (by omega), if_neg (by omega)]
theorem val_take_succ' {ds : List Nat} (i : Nat) : Go.Plain.val (ds.take (i + 1)) = Go.Plain.val (ds.take i) + ds.getD i 0 * 4294967296 ^ i := by
  by_cases h : i < ds.length
  · exact val_take_succ h
  · rw [List.take_of_length_le (by omega), List.take_of_length_le (by omega), List.getD_eq_getElem?_getD, List.getElem?_eq_none (by omega)]; simp
theorem addD_c (xs ys : List Nat) (hda : Dig xs) (hdb : Dig ys) (hl : xs.length < 2147483600) (hl2 : ys.length < 2147483600) :
    Gives mach 71 [.sl (dig xs), .sl (dig ys)] (.sl (dig (toDig (Go.Plain.val xs + Go.Plain.val ys)))) := by
  refine gives tab71 rfl ?_
  obtain ⟨n, hn⟩ : ∃ n, n = max xs.length ys.length + 1 := ⟨_, rfl⟩
  have hw : IntKind.i64.wrap (((if ys.length > xs.length then ys.length else xs.length : Nat) : Int) + 1) = (n : Nat) := by
    rw [wrap_i64] <;> split <;> omega
  have hmx : (if ((ys.length : Nat) : Int) > ((xs.length : Nat) : Int) then ((ys.length : Nat) : Int) else ((xs.length : Nat) : Int)) = ((if ys.length > xs.length then ys.length else xs.length : Nat) : Int) := by
    split <;> split <;> omega
  simp only [F71, tmR, seval, dig_len, wp_mxn, hmx, hw]
  refine ⟨by omega, ?_⟩
  refine wp_for (fun i s => s.env 0 = .sl (dig xs) ∧ s.env 1 = .sl (dig ys) ∧ s.env 5 = .int .i64 (n : Nat) ∧ s.env 8 = .int .i64 (i : Nat) ∧ s.env 6 = .hs 16 0 1 n ∧
    ∃ os c, s.env 7 = .int .u64 (c : Nat) ∧ Row s 16 0 os ∧ os.length = n ∧ Dig os ∧ c ≤ 1 ∧ Go.Plain.val (os.take i) + c * 4294967296 ^ i = Go.Plain.val (xs.take i) + Go.Plain.val (ys.take i)) n ?_ ?_ n 0 _ (by omega) ?_
  · rintro i st hi ⟨h0, h1, h5, h8, h6, os, c, h7, ho, hol, hod, hc, hv⟩
    have hio : i < os.length := by omega
    have hw : IntKind.i64.wrap ((i + 1 : Nat) : Int) = (i + 1 : Nat) := wrap_i64n (by omega)
    have ha := hda.get i
    have hb := hdb.get i
    have d1 := digit_c xs hda (by omega) i (by omega)
    have d2 := digit_c ys hdb (by omega) i (by omega)
    have m1 : (c + xs.getD i 0) % 18446744073709551616 = c + xs.getD i 0 := Nat.mod_eq_of_lt (by omega)
    have m2 : (c + xs.getD i 0 + ys.getD i 0) % 18446744073709551616 = c + xs.getD i 0 + ys.getD i 0 := Nat.mod_eq_of_lt (by omega)
    simp only [L71_0, tmR, seval, ← Int.natCast_add, ← Int.natCast_mul, wrap_u32, wrap_u64, wrap_i64n, wrap_i64, nat_succ_sub, nat_add_one, nat_lt, nat_le, nat_eq, nat_lt0, nat_le0, nat_eq0, bin_shr32, bin_shl32, dig_len, iaddr_hs, iaddr_dig, dig_getElem, dig_set, cast0, cast1, store_row, h0, h1, h5, h6, h7, h8, hi, wpcall_eq d1, wpcall_eq d2, ho, dig_getElem hio, hw, m1, m2]
    refine ⟨_, _, rfl, rfl, by simp [hol], hod.set (by omega), by omega, ?_⟩
    rw [val_take_set hio, val_take_succ', val_take_succ']
    have := add_step (x := xs.getD i 0) (y := ys.getD i 0) hv
    rw [show c + xs.getD i 0 + ys.getD i 0 = xs.getD i 0 + ys.getD i 0 + c by omega]
    exact this
  · rintro st ⟨h0, h1, h5, h8, h6, os, c, h7, ho, hol, hod, hc, hv⟩
    have t := trim_c os hod (by omega)
    have hov : Go.Plain.val os = Go.Plain.val xs + Go.Plain.val ys := by
      rw [List.take_of_length_le (by omega), List.take_of_length_le (by omega), List.take_of_length_le (by omega)] at hv
      have l1 := val_lt hda
      have l2 := val_lt hdb
      have e1 : (4294967296 : Nat) ^ xs.length ≤ 4294967296 ^ max xs.length ys.length := Nat.pow_le_pow_right (by decide) (Nat.le_max_left _ _)
      have e2 : (4294967296 : Nat) ^ ys.length ≤ 4294967296 ^ max xs.length ys.length := Nat.pow_le_pow_right (by decide) (Nat.le_max_right _ _)
      have e3 : (4294967296 : Nat) ^ n = 4294967296 ^ max xs.length ys.length * 4294967296 := by rw [hn, Nat.pow_succ]
      have : c = 0 ∨ c = 1 := by omega
      rcases this with rfl | rfl
      · omega
      · omega
    rw [hov] at t
    have htk : List.take n (dig os) = dig os := List.take_of_length_le (by rw [dig_len]; omega)
    simp only [L71_0, tmR, seval, h5, h6, h7, h8, Int.lt_irrefl, ho, dig_len, hol, htk, wpcall_eq t, tmF]
  · simp only [tmD, reduceIte, Nat.reduceEqDiff, Nat.reduceAdd]
    exact ⟨rfl, List.replicate n 0, 0, rfl, by simp only [Row, tmD, reduceIte, Nat.reduceEqDiff, Nat.reduceAdd, dig_rep], by simp, .rep _, by omega, by simp [Go.Plain.val]⟩
theorem subD_c (xs ys : List Nat) (hda : Dig xs) (hdb : Dig ys) (hl : xs.length < 2147483600) (hl2 : ys.length ≤ xs.length) (hle : Go.Plain.val ys ≤ Go.Plain.val xs) :
    Gives mach 73 [.sl (dig xs), .sl (dig ys)] (.sl (dig (toDig (Go.Plain.val xs - Go.Plain.val ys)))) := by
  refine gives tab73 rfl ?_
  simp only [F73, tmR, seval, dig_len]
  refine ⟨by omega, ?_⟩
  refine wp_for (fun i s => s.env 0 = .sl (dig xs) ∧ s.env 1 = .sl (dig ys) ∧ s.env 7 = .int .i64 (i : Nat) ∧ s.env 5 = .hs 11 0 1 xs.length ∧
    ∃ os c, s.env 6 = .int .u64 (c : Nat) ∧ Row s 11 0 os ∧ os.length = xs.length ∧ Dig os ∧ c ≤ 1 ∧ Go.Plain.val (os.take i) + Go.Plain.val (ys.take i) = Go.Plain.val (xs.take i) + c * 4294967296 ^ i) xs.length ?_ ?_ xs.length 0 _ (by omega) ?_
  · rintro i st hi ⟨h0, h1, h7, h5, os, c, h6, ho, hol, hod, hc, hv⟩
    have hio : i < os.length := by omega
    have hw : IntKind.i64.wrap ((i + 1 : Nat) : Int) = (i + 1 : Nat) := wrap_i64n (by omega)
    have ha := hda.get i
    have hb := hdb.get i
    have d1 := digit_c xs hda (by omega) i (by omega)
    have d2 := digit_c ys hdb (by omega) i (by omega)
    obtain ⟨x, hx⟩ : ∃ x, x = xs.getD i 0 + 4294967296 - ys.getD i 0 - c := ⟨_, rfl⟩
    have e1 : IntKind.u64.wrap (IntKind.u64.wrap (IntKind.u64.wrap ((xs.getD i 0 : Nat) + 4294967296 : Int) - (ys.getD i 0 : Nat)) - (c : Nat)) = (x : Nat) := by
      rw [wrap_u64_i, wrap_u64_i, wrap_u64_i]; omega
    have e2 : IntKind.u64.wrap (1 - ((x / 4294967296 : Nat) : Int)) = ((if xs.getD i 0 < ys.getD i 0 + c then 1 else 0 : Nat) : Int) := by
      rw [wrap_u64_i]; split <;> omega
    simp only [L73_0, tmR, seval, h0, h1, h5, h6, h7, dig_len, nat_lt, hi, wpcall_eq d1, wpcall_eq d2, e1, wrap_u32, iaddr_hs hi, bin_shr32, e2, ho, dig_getElem hio, nat_add_one, hw, dig_set]
    refine ⟨_, _, rfl, rfl, by simp [hol], hod.set (by omega), by split <;> omega, ?_⟩
    rw [val_take_set hio, val_take_succ hi, val_take_succ']
    exact sub_step hv ha hb hc (by omega)
  · rintro st ⟨h0, h1, h7, h5, os, c, h6, ho, hol, hod, hc, hv⟩
    have t := trim_c os hod (by omega)
    have hov : Go.Plain.val os = Go.Plain.val xs - Go.Plain.val ys := by
      rw [List.take_of_length_le (by omega), List.take_of_length_le hl2, List.take_length] at hv
      have l1 := val_lt hod
      rw [hol] at l1
      have : c = 0 ∨ c = 1 := by omega
      rcases this with rfl | rfl
      · omega
      · omega
    rw [hov] at t
    have htk : List.take xs.length (dig os) = dig os := List.take_of_length_le (by rw [dig_len]; omega)
    simp only [L73_0, tmR, seval, h0, h5, h7, dig_len, Int.lt_irrefl, ho, hol, htk, wpcall_eq t, tmF]
  · simp only [tmD, reduceIte, Nat.reduceEqDiff, Nat.reduceAdd]
    exact ⟨rfl, List.replicate xs.length 0, 0, rfl, by simp only [Row, tmD, reduceIte, Nat.reduceEqDiff, Nat.reduceAdd, dig_rep], by simp, .rep _, by omega, by simp [Go.Plain.val]⟩
theorem mul_step (i k c o x y V : Nat) {V' W P : Nat} (hv : V' + c * 4294967296 ^ (i + k) = W + x * P * 4294967296 ^ i)
    (e1 : V + o * 4294967296 ^ (i + k) = V' + (c + o + x * y) % 4294967296 * 4294967296 ^ (i + k)) :
    V + (c + o + x * y) / 4294967296 * 4294967296 ^ (i + (k + 1)) = W + x * (P + y * 4294967296 ^ k) * 4294967296 ^ i := by
  have e3 := Nat.div_add_mod (c + o + x * y) 4294967296
  generalize (c + o + x * y) % 4294967296 = d at *
  generalize (c + o + x * y) / 4294967296 = e at *
  rw [show i + (k + 1) = (i + k) + 1 by omega, Nat.pow_succ]
  rw [Nat.pow_add] at *
  generalize 4294967296 ^ i = p at *
  generalize 4294967296 ^ k = q at *
  have : (4294967296 * e + d) * (p * q) = (c + o + x * y) * (p * q) := by rw [e3]
  grind
theorem mulD_in {Q : Ex → St → Prop} {st : St} (xs ys : List Nat) (hda : Dig xs) (hdb : Dig ys) (i : Nat) (hi : i < xs.length) (os : List Nat) (ho : Row st 14 0 os) (hod : Dig os) (hil : i + ys.length < os.length) (hsm : os.length < 2147483648)
    (h0 : st.env 0 = .sl (dig xs)) (h1 : st.env 1 = .sl (dig ys)) (h8 : st.env 8 = .int .i64 0) (h7 : st.env 7 = .int .u64 0) (h6 : st.env 6 = .int .i64 (i : Nat)) (h5 : st.env 5 = .hs 14 0 1 os.length)
    (hQ : ∀ s os' (c : Nat), Keep [0, 1, 5, 6] s st → s.env 7 = .int .u64 (c : Nat) → Row s 14 0 os' → Dig os' → os'.length = os.length → c < 4294967296 →
      Go.Plain.val os' + c * 4294967296 ^ (i + ys.length) = Go.Plain.val os + xs.getD i 0 * Go.Plain.val ys * 4294967296 ^ i → (∀ k, i + ys.length ≤ k → os'.getD k 0 = os.getD k 0) → Q (.exit 2) s) :
    Goes mach (.loop L57_1) Q st := by
  have hx := hda.get i
  refine wp_for (fun k s => s.env 0 = .sl (dig xs) ∧ s.env 1 = .sl (dig ys) ∧ s.env 8 = .int .i64 (k : Nat) ∧ s.env 6 = .int .i64 (i : Nat) ∧ s.env 5 = .hs 14 0 1 os.length ∧ Keep [0, 1, 5, 6] s st ∧
    ∃ os' c, s.env 7 = .int .u64 (c : Nat) ∧ Row s 14 0 os' ∧ os'.length = os.length ∧ Dig os' ∧ c < 4294967296 ∧ Go.Plain.val os' + c * 4294967296 ^ (i + k) = Go.Plain.val os + xs.getD i 0 * Go.Plain.val (ys.take k) * 4294967296 ^ i ∧ (∀ m, i + k ≤ m → os'.getD m 0 = os.getD m 0)) ys.length ?_ ?_ ys.length 0 _ (by omega) ?_
  · rintro k s hk ⟨h0, h1, h8, h6, h5, hkeep, os', c, h7, ho, hol, hod, hc, hv, hrest⟩
    have hio : i + k < os.length := by omega
    have hio' : i + k < os'.length := by omega
    have hw : IntKind.i64.wrap ((k + 1 : Nat) : Int) = (k + 1 : Nat) := wrap_i64n (by omega)
    have hw2 : IntKind.i64.wrap ((i + k : Nat) : Int) = (i + k : Nat) := wrap_i64n (by omega)
    have ha := hdb.get k
    have hb := hod.get (i + k)
    have hm := mul_lt hx ha hb hc
    have m1 := u64_mod (xs.getD i 0) (by omega)
    have m2 := u64_mod (ys.getD k 0) (by omega)
    have m3 := u64_mod (os'.getD (i + k) 0) (by omega)
    have m4 := u64_mod (xs.getD i 0 * ys.getD k 0) (by omega)
    have m5 := u64_mod (c + os'.getD (i + k) 0) (by omega)
    have m6 := u64_mod (c + os'.getD (i + k) 0 + xs.getD i 0 * ys.getD k 0) (by omega)
    simp only [L57_1, tmR, seval, ← Int.natCast_add, ← Int.natCast_mul, wrap_u32, wrap_u64, wrap_i64n, wrap_i64, nat_succ_sub, nat_add_one, nat_lt, nat_le, nat_eq, nat_lt0, nat_le0, nat_eq0, bin_shr32, bin_shl32, dig_len, iaddr_hs, iaddr_dig, dig_getElem, dig_set, cast0, cast1, store_row, h0, h1, h5, h6, h7, h8, hk, hi, hio, ho, dig_getElem hio', hw, hw2, m1, m2, m3, m4, m5, m6]
    refine ⟨?_, _, _, rfl, rfl, by simp [hol], hod.set (by omega), by omega, ?_, fun m hm => ?_⟩
    · repeat' (first | exact hkeep | (apply keep_put (hd := by decide)) | apply keep_setO | apply keep_bump | (apply keep_putO (hd := by decide)) | apply keep_unsol)
    · have e1 := val_set (d := (c + os'.getD (i + k) 0 + xs.getD i 0 * ys.getD k 0) % 4294967296) hio'
      have e2 := val_take_succ (ds := ys) hk
      rw [e2]
      exact mul_step i k c (os'.getD (i + k) 0) (xs.getD i 0) (ys.getD k 0) _ hv e1
    · rw [gset_ne (by omega)]
      exact hrest m (by omega)
  · rintro s ⟨h0, h1, h8, h6, h5, hkeep, os', c, h7, ho, hol, hod, hc, hv, hrest⟩
    simp only [L57_1, tmR, seval, h0, h1, h8, dig_len, Int.lt_irrefl]
    rw [List.take_length] at hv
    refine hQ _ os' c ?_ h7 ho hod hol hc hv hrest
    repeat' (first | exact hkeep | (apply keep_put (hd := by decide)) | apply keep_setO | apply keep_bump | (apply keep_putO (hd := by decide)) | apply keep_unsol)
  · exact ⟨h0, h1, h8, h6, h5, Keep.refl _ _, os, 0, h7, ho, rfl, hod, by omega, by simp [Go.Plain.val], fun _ _ => rfl⟩
theorem mulD_c (xs ys : List Nat) (hda : Dig xs) (hdb : Dig ys) (hl : xs.length + ys.length < 2147483648) :
    Gives mach 57 [.sl (dig xs), .sl (dig ys)] (.sl (dig (toDig (Go.Plain.val xs * Go.Plain.val ys)))) := by
  refine gives tab57 rfl ?_
  have hw : IntKind.i64.wrap ((xs.length + ys.length : Nat) : Int) = (xs.length + ys.length : Nat) := wrap_i64n (by omega)
  simp only [F57, tmR, seval, ← Int.natCast_add, ← Int.natCast_mul, wrap_u32, wrap_u64, wrap_i64n, wrap_i64, nat_succ_sub, nat_add_one, nat_lt, nat_le, nat_eq, nat_lt0, nat_le0, nat_eq0, bin_shr32, bin_shl32, dig_len, iaddr_hs, iaddr_dig, dig_getElem, dig_set, cast0, cast1, store_row, hw]
  refine ⟨hl, ?_⟩
  refine wp_for (fun i s => s.env 0 = .sl (dig xs) ∧ s.env 6 = .int .i64 (i : Nat) ∧ s.env 1 = .sl (dig ys) ∧ s.env 5 = .hs 14 0 1 (xs.length + ys.length) ∧
    ∃ os, Row s 14 0 os ∧ os.length = xs.length + ys.length ∧ Dig os ∧ Go.Plain.val os = Go.Plain.val (xs.take i) * Go.Plain.val ys ∧ (∀ m, i + ys.length ≤ m → os.getD m 0 = 0)) xs.length ?_ ?_ xs.length 0 _ (by omega) ?_
  · rintro i st hi ⟨h0, h6, h1, h5, os, ho, hol, hod, hv, hrest⟩
    simp only [L57_0, tmR, seval, ← Int.natCast_add, ← Int.natCast_mul, wrap_u32, wrap_u64, wrap_i64n, wrap_i64, nat_succ_sub, nat_add_one, nat_lt, nat_le, nat_eq, nat_lt0, nat_le0, nat_eq0, bin_shr32, bin_shl32, dig_len, iaddr_hs, iaddr_dig, dig_getElem, dig_set, cast0, cast1, store_row, h0, h1, h5, h6, hi]
    refine mulD_in xs ys hda hdb i hi os ?_ hod (by omega) (by omega) ?_ ?_ ?_ ?_ ?_ ?_ ?_
    all_goals (try simp only [tmD, reduceIte, Nat.reduceEqDiff, Nat.reduceAdd, Row, ho, h0, h1, h5, h6, hol])
    intro s os' c hkeep h7 ho' hod' hol' hc' hv' hrest'
    have k5 := hkeep 5 (by decide)
    have k6 := hkeep 6 (by decide)
    have k1 := hkeep 1 (by decide)
    have k0 := hkeep 0 (by decide)
    simp only [tmD, reduceIte, Nat.reduceEqDiff, Nat.reduceAdd, h1, h5, h0, h6] at k5 k6 k1 k0
    have hw2 : IntKind.i64.wrap ((i + ys.length : Nat) : Int) = (i + ys.length : Nat) := wrap_i64n (by omega)
    have hw3 : IntKind.i64.wrap ((i + 1 : Nat) : Int) = (i + 1 : Nat) := wrap_i64n (by omega)
    have hii : i + ys.length < xs.length + ys.length := by omega
    have hii2 : i + ys.length < os'.length := by omega
    have hcm : c % 4294967296 = c := Nat.mod_eq_of_lt hc'
    simp only [tmR, seval, ← Int.natCast_add, ← Int.natCast_mul, wrap_u32, wrap_u64, wrap_i64n, wrap_i64, nat_succ_sub, nat_add_one, nat_lt, nat_le, nat_eq, nat_lt0, nat_le0, nat_eq0, bin_shr32, bin_shl32, dig_len, iaddr_hs, iaddr_dig, dig_getElem, dig_set, cast0, cast1, store_row, h7, k5, k6, k1, k0, hw2, hw3, hii, ho', dig_getElem hii2, hcm]
    refine ⟨_, rfl, by simp; omega, hod'.set hc', ?_, fun m hm => ?_⟩
    · have e1 := val_set (d := c) hii2
      rw [hrest' _ (Nat.le_refl _), hrest _ (Nat.le_refl _)] at e1
      rw [val_take_succ hi]
      rw [hv] at hv'
      grind
    · rw [gset_ne (by omega), hrest' m (by omega)]
      exact hrest m (by omega)
  · rintro st ⟨h0, h6, h1, h5, os, ho, hol, hod, hv, hrest⟩
    have t := trim_c os hod (by omega)
    rw [hv, List.take_length] at t
    have htk : List.take (xs.length + ys.length) (dig os) = dig os := List.take_of_length_le (by rw [dig_len]; omega)
    simp only [L57_0, tmR, seval, h0, h6, h5, dig_len, Int.lt_irrefl, ho, hol, htk, wpcall_eq t, tmF]
  · simp only [tmD, reduceIte, Nat.reduceEqDiff, Nat.reduceAdd]
    exact ⟨rfl, List.replicate (xs.length + ys.length) 0, by simp only [Row, tmD, reduceIte, Nat.reduceEqDiff, Nat.reduceAdd, dig_rep], by simp, .rep _, by simp [Go.Plain.val, val_rep], fun m _ => by simp [List.getD_eq_getElem?_getD, List.getElem?_replicate]; split <;> rfl⟩
end Go.TM.Fn
end
section
namespace Go.TM.Fn
open Go Go.TM Go.Plain
set_option linter.unusedVariables false
set_option linter.unusedSimpArgs false
set_option maxRecDepth 20000
def bl (n : Nat) : Nat := if h : n = 0 then 0 else bl (n / 2) + 1
  termination_by n
  decreasing_by omega
theorem bl_zero : bl 0 = 0 := by rw [bl]; simp
theorem bl_pos {n : Nat} (h : n ≠ 0) : bl n = bl (n / 2) + 1 := by rw [bl]; simp [h]
theorem bl_lt (n : Nat) : n < 2 ^ bl n := by
  induction n using Nat.strongRecOn with
  | _ n ih =>
    by_cases h : n = 0
    · subst h; rw [bl_zero]; decide
    · rw [bl_pos h, Nat.pow_succ]
      have := ih (n / 2) (by omega)
      omega
theorem bl_ge {n : Nat} (h : n ≠ 0) : 2 ^ bl n ≤ 2 * n := by
  induction n using Nat.strongRecOn with
  | _ n ih =>
    rw [bl_pos h, Nat.pow_succ]
    by_cases h2 : n / 2 = 0
    · rw [h2, bl_zero]; omega
    · have := ih (n / 2) (by omega) h2
      omega
theorem bl_le {n k : Nat} (h : n < 2 ^ k) : bl n ≤ k := by
  by_cases hn : n = 0
  · subst hn; rw [bl_zero]; omega
  · have := bl_ge hn
    have : 2 ^ bl n < 2 ^ (k + 1) := by rw [Nat.pow_succ]; omega
    have := (Nat.pow_lt_pow_iff_right (by decide : 1 < 2)).1 this
    omega
theorem bin_shr1 (b kk) (n : Nat) : binTV b .shr (.int .u32 (n : Int)) (.int kk 1) = some (.int .u32 ((n / 2 : Nat) : Int)) := by
  simp only [binTV]
  rw [if_pos (by decide)]
  congr 2
  simp only [IntKind.bits]
  rw [Int.fdiv_eq_ediv_of_nonneg _ (by decide)]
  simp
theorem loopBits {Q : Ex → St → Prop} : ∀ (x n : Nat) (st : St), n + bl x < 9223372036854775807 → st.env 4 = .int .u32 (x : Nat) → st.env 3 = .int .i64 (n : Nat) → (∀ s, s.env 3 = .int .i64 ((n + bl x : Nat) : Int) → Q (.exit 0) s) → Goes mach (.loop L82_0) Q st := by
  intro x
  induction x using Nat.strongRecOn with
  | _ x ih =>
    intro n st hb h4 h3 hQ
    rw [wp_loop]
    by_cases hx : x = 0
    · subst hx
      simp only [L82_0, tmR, seval, h4, h3]
      refine hQ _ ?_
      simp only [tmD, reduceIte, Nat.reduceEqDiff, Nat.reduceAdd, h3, bl_zero, Nat.add_zero]
    · have hp : ((0 : Int) < ((x : Nat) : Int)) = True := eq_true (by omega)
      rw [bl_pos hx] at hQ hb
      have hw : IntKind.i64.wrap ((n + 1 : Nat) : Int) = (n + 1 : Nat) := wrap_i64n (by omega)
      simp only [L82_0, tmR, seval, h4, h3, hp, nat_add_one, hw, bin_shr1]
      refine ih (x / 2) (by omega) (n + 1) _ (by omega) ?_ ?_ fun s hs => hQ s (by rw [hs]; congr 2; omega)
      · simp only [tmD, reduceIte, Nat.reduceEqDiff, Nat.reduceAdd]
      · simp only [tmD, reduceIte, Nat.reduceEqDiff, Nat.reduceAdd]
theorem bitLen_c (ds : List Nat) (hd : Dig ds) (hl : ds.length < 2147483648) : ∃ k : Nat, Gives mach 82 [.sl (dig ds)] (.int .i64 (k : Nat)) ∧ Go.Plain.val ds < 2 ^ k ∧ (Go.Plain.val ds ≠ 0 → 2 ^ k ≤ 2 * Go.Plain.val ds) ∧ k ≤ 32 * ds.length ∧ (Go.Plain.val ds = 0 → k = 0) := by
  have t := trim_c ds hd hl
  have hl2 := toDig_val_len hd
  by_cases hz : Go.Plain.val ds = 0
  · rw [hz, toDig_zero] at t
    refine ⟨0, gives tab82 rfl ?_, by rw [hz]; decide, fun h => absurd hz h, by omega, fun _ => rfl⟩
    simp only [F82, tmR, seval, wpcall_eq t, dig_nil, tmF]
  · obtain ⟨v, hv⟩ : ∃ v, v = Go.Plain.val ds := ⟨_, rfl⟩
    rw [← hv] at t hz hl2 ⊢
    have hne : toDig v ≠ [] := mt toDig_eq_nil.1 hz
    obtain ⟨m, hm⟩ : ∃ m, (toDig v).length = m + 1 := ⟨(toDig v).length - 1, by have := List.length_pos_iff.2 hne; omega⟩
    obtain ⟨x, hx⟩ : ∃ x, x = (toDig v).getD m 0 := ⟨_, rfl⟩
    have hvm : v = Go.Plain.val ((toDig v).take m) + x * 4294967296 ^ m := by
      have := val_take_succ (ds := toDig v) (i := m) (by omega)
      rw [List.take_of_length_le (by omega), val_toDig] at this
      rw [hx]; exact this
    have hlow := val_lt ((dig_toDig v).take m)
    rw [List.length_take, Nat.min_eq_left (by omega)] at hlow
    have hx32 : x < 4294967296 := by rw [hx]; exact (dig_toDig v).get m
    have hx0 : x ≠ 0 := by
      intro h0
      rw [h0, Nat.zero_mul, Nat.add_zero] at hvm
      have := toDig_len_le (n := v) (k := m) (by omega)
      omega
    have hbl32 : bl x ≤ 32 := bl_le hx32
    have hm0 : m < (toDig v).length := by omega
    have hne0 : (((m + 1 : Nat) : Int) = 0) = False := eq_false (by omega)
    have hw1 : IntKind.i64.wrap (m : Int) = (m : Nat) := wrap_i64n (by omega)
    have hw2 : IntKind.i64.wrap (32 * (m : Int)) = ((32 * m : Nat) : Int) := by rw [wrap_i64 (by omega) (by omega)]; omega
    refine ⟨32 * m + bl x, gives tab82 rfl ?_, ?_, fun _ => ?_, by omega, fun h => absurd h hz⟩
    · simp only [F82, tmR, seval, wpcall_eq t, dig_len, hm, hne0, nat_succ_sub, hw1, hw2, iaddr_dig hm0, ← hx]
      refine loopBits x (32 * m) _ (by omega) ?_ ?_ fun s hs => ?_
      · simp only [tmD, reduceIte, Nat.reduceEqDiff, Nat.reduceAdd]
      · simp only [tmD, reduceIte, Nat.reduceEqDiff, Nat.reduceAdd]
      · simp only [tmR, seval, hs, tmF]
    · have h1 := bl_lt x
      have e : (2 : Nat) ^ (32 * m + bl x) = 2 ^ bl x * 4294967296 ^ m := by rw [Nat.pow_add, Nat.pow_mul, Nat.mul_comm]
      rw [e, hvm]
      have : (x + 1) * 4294967296 ^ m ≤ 2 ^ bl x * 4294967296 ^ m := Nat.mul_le_mul_right _ h1
      rw [Nat.succ_mul] at this
      omega
    · have h1 := bl_ge hx0
      have e : (2 : Nat) ^ (32 * m + bl x) = 2 ^ bl x * 4294967296 ^ m := by rw [Nat.pow_add, Nat.pow_mul, Nat.mul_comm]
      rw [e, hvm]
      have : 2 ^ bl x * 4294967296 ^ m ≤ 2 * x * 4294967296 ^ m := Nat.mul_le_mul_right _ h1
      rw [Nat.mul_assoc] at this
      omega
theorem quo_nat (n m : Nat) : (n : Int).tdiv (m : Int) = ((n / m : Nat) : Int) := (Int.ofNat_tdiv n m).symm
theorem quo32 (n : Nat) : (n : Int).tdiv 32 = ((n / 32 : Nat) : Int) := quo_nat n 32
theorem rem32 (n : Nat) : (n : Int).tmod 32 = ((n % 32 : Nat) : Int) := (Int.ofNat_tmod n 32).symm
theorem shift_c (xs : List Nat) (hda : Dig xs) (n : Nat) (hl : xs.length + n / 32 < 2147483600) (hn : n < 9223372036854775000) :
    Gives mach 83 [.sl (dig xs), .int .i64 (n : Nat)] (.sl (dig (toDig (Go.Plain.val xs * 2 ^ n)))) := by
  refine gives tab83 rfl ?_
  obtain ⟨w, hw⟩ : ∃ w, w = n / 32 := ⟨_, rfl⟩
  obtain ⟨r, hr⟩ : ∃ r, r = n % 32 := ⟨_, rfl⟩
  have hr32 : r < 32 := by omega
  have h32 : (32 : Int) ≠ 0 := by decide
  have ww1 : IntKind.i64.wrap ((w : Nat) : Int) = (w : Nat) := wrap_i64n (by omega)
  have ww2 : IntKind.i64.wrap ((xs.length + w : Nat) : Int) = (xs.length + w : Nat) := wrap_i64n (by omega)
  have ww3 : IntKind.i64.wrap ((xs.length + w + 1 : Nat) : Int) = (xs.length + w + 1 : Nat) := wrap_i64n (by omega)
  simp only [F83, tmR, seval, dig_len, bin_quo _ _ _ _ h32, quo32, ← hw, ww1, ← Int.natCast_add, ww2, nat_add_one, ww3]
  refine ⟨by omega, ?_⟩
  refine wp_for (fun i s => s.env 0 = .sl (dig xs) ∧ s.env 1 = .int .i64 (n : Nat) ∧ s.env 6 = .int .i64 (i : Nat) ∧ s.env 5 = .hs 14 0 1 (xs.length + w + 1) ∧
    ∃ os, Row s 14 0 os ∧ os.length = xs.length + w + 1 ∧ Dig os ∧ os.getD (i + w) 0 < 2 ^ r ∧ (∀ m, i + w < m → os.getD m 0 = 0) ∧ Go.Plain.val os = Go.Plain.val (xs.take i) * 2 ^ r * 4294967296 ^ w) xs.length ?_ ?_ xs.length 0 _ (by omega) ?_
  · rintro i st hi ⟨h0, h1, h6, h5, os, ho, hol, hod, hlo, hzero, hv⟩
    have hio : i + w < os.length := by omega
    have hio1 : i + w < xs.length + w + 1 := by omega
    have hio2 : i + w + 1 < xs.length + w + 1 := by omega
    have ha := hda.get i
    have hsp := split_pow (xs.getD i 0) r hr32 ha
    have hx64 : xs.getD i 0 * 2 ^ r < 18446744073709551616 := by
      have : xs.getD i 0 * 2 ^ r < 4294967296 * 4294967296 := Nat.mul_lt_mul'' ha (Nat.pow_lt_pow_right (by decide) hr32)
      omega
    have m1 := u64_mod (xs.getD i 0) (by omega)
    have m2 := u64_mod (xs.getD i 0 * 2 ^ r) hx64
    have m3 : r % 18446744073709551616 = r := u64_mod r (by omega)
    have m4 : xs.getD i 0 * 2 ^ r / 4294967296 % 4294967296 = xs.getD i 0 * 2 ^ r / 4294967296 := Nat.mod_eq_of_lt (by omega)
    have hor := bin_or_u32 false (n := os.getD (i + w) 0) (m := xs.getD i 0 * 2 ^ r % 4294967296) (hod.get _) (by omega)
    have hsum : os.getD (i + w) 0 ||| xs.getD i 0 * 2 ^ r % 4294967296 = os.getD (i + w) 0 + xs.getD i 0 * 2 ^ r % 4294967296 := by
      rw [hsp.1, Nat.or_comm, or_add hlo, Nat.add_comm]
    rw [hsum] at hor
    have hs32 : os.getD (i + w) 0 + xs.getD i 0 * 2 ^ r % 4294967296 < 4294967296 := by
      rw [hsp.1]
      have h1 : xs.getD i 0 % 2 ^ (32 - r) < 2 ^ (32 - r) := Nat.mod_lt _ (Nat.pow_pos (by decide))
      have h2 : (xs.getD i 0 % 2 ^ (32 - r) + 1) * 2 ^ r ≤ 2 ^ (32 - r) * 2 ^ r := Nat.mul_le_mul_right _ h1
      rw [← Nat.pow_add, show 32 - r + r = 32 by omega, Nat.succ_mul] at h2
      omega
    have hw1 : IntKind.i64.wrap ((i + w : Nat) : Int) = (i + w : Nat) := wrap_i64n (by omega)
    have hw2 : IntKind.i64.wrap ((i + w + 1 : Nat) : Int) = (i + w + 1 : Nat) := wrap_i64n (by omega)
    have hw3 : IntKind.i64.wrap ((i + 1 : Nat) : Int) = (i + 1 : Nat) := wrap_i64n (by omega)
    have hio3 : i + w + 1 < (os.set (i + w) (os.getD (i + w) 0 + xs.getD i 0 * 2 ^ r % 4294967296)).length := by simp; omega
    simp only [L83_0, tmR, seval, h0, h1, h5, h6, dig_len, nat_lt, hi, iaddr_dig hi, wrap_u64, m1, bin_rem _ _ _ _ h32, rem32, ← hr, m3, bin_shl64 _ _ _ _ (show r < 64 by omega), m2, bin_quo _ _ _ _ h32, quo32, ← hw, ww1,
      ← Int.natCast_add, hw1, iaddr_hs hio1, ho, dig_getElem hio, wrap_u32, hor, dig_set, nat_add_one, hw2, iaddr_hs hio2, bin_shr32, m4, dig_getElem hio3, hw3]
    have e1 := val_set (d := os.getD (i + w) 0 + xs.getD i 0 * 2 ^ r % 4294967296) hio
    have e2 := val_set (d := xs.getD i 0 * 2 ^ r / 4294967296) hio3
    have hz2 : (os.set (i + w) (os.getD (i + w) 0 + xs.getD i 0 * 2 ^ r % 4294967296)).getD (i + w + 1) 0 = 0 := by rw [gset_ne (by omega)]; exact hzero _ (by omega)
    rw [hz2] at e2
    have e3 := shl_step _ r 0 _ _ hr32 ha hlo e1 e2
    refine ⟨_, rfl, by simp [hol], (hod.set hs32).set (by omega), ?_, fun m hm => ?_, ?_⟩
    · rw [show i + 1 + w = i + w + 1 by omega, gset_eq (by simp; omega), hsp.2.1]; exact hsp.2.2
    · rw [gset_ne (by omega), gset_ne (by omega)]; exact hzero m (by omega)
    · rw [e3, val_take_succ hi, hv]; grind
  · rintro st ⟨h0, h1, h6, h5, os, ho, hol, hod, hlo, hzero, hv⟩
    have t := trim_c os hod (by omega)
    rw [List.take_length] at hv
    have e : Go.Plain.val os = Go.Plain.val xs * 2 ^ n := by
      rw [hv, Nat.mul_assoc]; congr 1
      rw [show (4294967296 : Nat) = 2 ^ 32 by rfl, ← Nat.pow_mul, ← Nat.pow_add]; congr 1; omega
    rw [e] at t
    have htk : List.take (xs.length + w + 1) (dig os) = dig os := List.take_of_length_le (by rw [dig_len]; omega)
    simp only [L83_0, tmR, seval, h0, h6, h5, dig_len, Int.lt_irrefl, ho, hol, htk, wpcall_eq t, tmF]
  · simp only [tmD, reduceIte, Nat.reduceEqDiff, Nat.reduceAdd]
    exact ⟨rfl, List.replicate (xs.length + w + 1) 0, by simp only [Row, tmD, reduceIte, Nat.reduceEqDiff, Nat.reduceAdd, dig_rep], by simp, .rep _, by simp [List.getD_eq_getElem?_getD, List.getElem?_replicate]; split <;> simp <;> exact Nat.pow_pos (by decide), fun m _ => by simp [List.getD_eq_getElem?_getD, List.getElem?_replicate]; split <;> rfl, by simp [Go.Plain.val, val_rep]⟩
end Go.TM.Fn
end
section
namespace Go.TM.Fn
open Go Go.TM Go.Plain
set_option linter.unusedVariables false
set_option linter.unusedSimpArgs false
set_option maxRecDepth 20000
theorem bin_shl31 (b kk) (n : Nat) : binTV b .shl (.int .u64 (n : Int)) (.int kk 31) = some (.int .u64 ((n * 2147483648 % 18446744073709551616 : Nat) : Int)) := by
  have := bin_shl64 b kk n 31 (by decide)
  simpa using this
theorem half_step {a0 x y p V W s : Nat} (h : 2 * W + a0 = V + x % 2 * p) (hs : s = x / 2 + y % 2 * 2147483648) : 2 * (W + s * p) + a0 = V + x * p + y % 2 * (p * 4294967296) := by
  have e1 : 2 * s + x % 2 = x + y % 2 * 4294967296 := by omega
  have : (2 * s + x % 2) * p = (x + y % 2 * 4294967296) * p := by rw [e1]
  grind
theorem half_c (xs : List Nat) (hda : Dig xs) (hl : xs.length < 2147483600) : Gives mach 84 [.sl (dig xs)] (.sl (dig (toDig (Go.Plain.val xs / 2)))) := by
  refine gives tab84 rfl ?_
  simp only [F84, tmR, seval, dig_len]
  refine ⟨by omega, ?_⟩
  refine wp_for (fun i s => s.env 0 = .sl (dig xs) ∧ s.env 4 = .int .i64 (i : Nat) ∧ s.env 3 = .hs 7 0 1 xs.length ∧
    ∃ os, Row s 7 0 os ∧ os.length = xs.length ∧ Dig os ∧ 2 * Go.Plain.val (os.take i) + xs.getD 0 0 % 2 = Go.Plain.val (xs.take i) + xs.getD i 0 % 2 * 4294967296 ^ i) xs.length ?_ ?_ xs.length 0 _ (by omega) ?_
  · rintro i st hi ⟨h0, h4, h3, os, ho, hol, hod, hv⟩
    have hio : i < os.length := by omega
    have hw : IntKind.i64.wrap ((i + 1 : Nat) : Int) = (i + 1 : Nat) := wrap_i64n (by omega)
    have ha := hda.get i
    have hb := hda.get (i + 1)
    have d := digit_c xs hda (by omega) (i + 1) (by omega)
    have m1 := u64_mod (xs.getD (i + 1) 0 * 2147483648) (by omega)
    have m2 : xs.getD (i + 1) 0 * 2147483648 % 4294967296 = xs.getD (i + 1) 0 % 2 * 2147483648 := by omega
    have hor := bin_or_u32 false (n := xs.getD i 0 / 2) (m := xs.getD (i + 1) 0 % 2 * 2147483648) (by omega) (by omega)
    have e : xs.getD i 0 / 2 ||| xs.getD (i + 1) 0 % 2 * 2147483648 = xs.getD i 0 / 2 + xs.getD (i + 1) 0 % 2 * 2147483648 := by
      have := or_add (n := xs.getD (i + 1) 0 % 2) (m := xs.getD i 0 / 2) (i := 31) (by omega)
      simp only [show (2 : Nat) ^ 31 = 2147483648 from rfl] at this
      rw [Nat.or_comm, this, Nat.add_comm]
    rw [e] at hor
    simp only [L84_0, tmR, seval, h0, h3, h4, dig_len, nat_lt, hi, iaddr_dig hi, bin_shr1, nat_add_one, hw, wpcall_eq d, bin_shl31, m1, wrap_u32, m2, hor, iaddr_hs hi, ho, dig_getElem hio, dig_set]
    refine ⟨_, rfl, by simp [hol], hod.set (by omega), ?_⟩
    rw [val_take_set hio, val_take_succ hi, Nat.pow_succ]
    exact half_step hv rfl
  · rintro st ⟨h0, h4, h3, os, ho, hol, hod, hv⟩
    have t := trim_c os hod (by omega)
    have hz : xs.getD xs.length 0 = 0 := by rw [List.getD_eq_getElem?_getD, List.getElem?_eq_none (by omega)]; rfl
    rw [hz, List.take_length, List.take_of_length_le (by omega)] at hv
    have e : Go.Plain.val os = Go.Plain.val xs / 2 := by omega
    rw [e] at t
    have htk : List.take xs.length (dig os) = dig os := List.take_of_length_le (by rw [dig_len]; omega)
    simp only [L84_0, tmR, seval, h0, h3, h4, dig_len, Int.lt_irrefl, ho, hol, htk, wpcall_eq t, tmF]
  · simp only [tmD, reduceIte, Nat.reduceEqDiff, Nat.reduceAdd]
    exact ⟨rfl, List.replicate xs.length 0, by simp only [Row, tmD, reduceIte, Nat.reduceEqDiff, Nat.reduceAdd, dig_rep], by simp, .rep _, by simp [Go.Plain.val]⟩
theorem digit_of_val {ds : List Nat} (h : Dig ds) (j : Nat) : ds.getD j 0 = Go.Plain.val ds / 4294967296 ^ j % 4294967296 := by
  induction j generalizing ds with
  | zero =>
    cases ds with
    | nil => simp [Go.Plain.val]
    | cons d ds => have := h.head; simp [Go.Plain.val]; omega
  | succ j ih =>
    cases ds with
    | nil => simp [Go.Plain.val]
    | cons d ds =>
      have h1 := h.head
      rw [List.getD_cons_succ, ih h.tail, Go.Plain.val, Nat.pow_succ, Nat.mul_comm (4294967296 ^ j), ← Nat.div_div_eq_div_mul]
      congr 2; omega
theorem bit_free {q i : Nat} (h : 2 ^ (i + 1) ∣ q) : q / 4294967296 ^ (i / 32) % 4294967296 % 2 ^ (i % 32 + 1) = 0 := by
  obtain ⟨k, rfl⟩ := h
  have e : (2 : Nat) ^ (i + 1) = 4294967296 ^ (i / 32) * 2 ^ (i % 32 + 1) := by
    rw [show (4294967296 : Nat) = 2 ^ 32 by rfl, ← Nat.pow_mul, ← Nat.pow_add]; congr 1; omega
  rw [e, Nat.mul_assoc, Nat.mul_div_cancel_left _ (Nat.pow_pos (by decide))]
  have hd : 2 ^ (i % 32 + 1) ∣ 4294967296 := by
    rw [show (4294967296 : Nat) = 2 ^ 32 by rfl]; exact Nat.pow_dvd_pow 2 (by omega)
  rw [Nat.mod_mod_of_dvd _ hd, Nat.mul_mod_right]
theorem bin_shl_u32 (b kk) (r : Nat) (hr : r < 32) : binTV b .shl (.int .u32 1) (.int kk (r : Nat)) = some (.int .u32 ((2 ^ r : Nat) : Int)) := by
  simp only [binTV]
  rw [if_pos (by omega)]
  have : (2 : Int) ^ min (Int.toNat (r : Int)) IntKind.u32.bits = ((2 ^ r : Nat) : Int) := by
    rw [Int.toNat_natCast, show IntKind.u32.bits = 32 from rfl, Nat.min_eq_left (by omega)]; simp
  have h2 : (2 : Nat) ^ r < 4294967296 := by rw [show (4294967296 : Nat) = 2 ^ 32 by rfl]; exact Nat.pow_lt_pow_right (by decide) hr
  rw [this, Int.one_mul, wrap_u32, Nat.mod_eq_of_lt h2]
theorem sgnN_nonneg {a b : Nat} : (0 ≤ sgnN a b) = (b ≤ a) := by
  unfold sgnN; apply propext; constructor
  · intro h; repeat' split at h
    all_goals omega
  · intro h; rw [if_neg (by omega)]; split <;> omega
theorem divD_c (xs ys : List Nat) (hda : Dig xs) (hdb : Dig ys) (hl : xs.length < 33554432) (hl2 : ys.length < 33554432) (hb : Go.Plain.val ys ≠ 0) :
    Gives mach 60 [.sl (dig xs), .sl (dig ys)] (.tup [.sl (dig (toDig (Go.Plain.val xs / Go.Plain.val ys))), .sl (dig (toDig (Go.Plain.val xs % Go.Plain.val ys)))]) := by
  obtain ⟨a, ha⟩ : ∃ a, a = Go.Plain.val xs := ⟨_, rfl⟩
  obtain ⟨b, hb'⟩ : ∃ b, b = Go.Plain.val ys := ⟨_, rfl⟩
  have t1 := trim_c xs hda (by omega)
  obtain ⟨ka, b1, a1, a2, a3, k0⟩ := bitLen_c xs hda (by omega)
  obtain ⟨kb, b2, c1, c2, c3, _⟩ := bitLen_c ys hdb (by omega)
  have hlen := toDig_val_len hda
  rw [← ha] at t1 a1 a2 hlen k0 ⊢
  rw [← hb'] at hb c1 c2 ⊢
  have hwn : IntKind.i64.wrap ((ka : Int) - (kb : Int)) = (ka : Int) - (kb : Int) := wrap_i64 (by omega) (by omega)
  refine gives tab60 rfl ?_
  by_cases hk : ka < kb
  · have hab : a < b := by
      by_cases ha0 : a = 0
      · omega
      · have := a2 ha0
        have h2 : 2 ^ (ka + 1) ≤ 2 ^ kb := Nat.pow_le_pow_right (by decide) hk
        rw [Nat.pow_succ] at h2
        have h3 := c2 hb
        omega
    rw [Nat.div_eq_of_lt hab, Nat.mod_eq_of_lt hab, toDig_zero]
    have hneg : ((ka : Int) - (kb : Int) < 0) = True := eq_true (by omega)
    by_cases ha0 : a = 0
    · rw [ha0, toDig_zero] at t1 ⊢
      simp only [F60, tmR, seval, wp_app, apply_app1, apply_new1, wpcall_eq t1, app_nils0 (elems_sl rfl), dig_nil, wpcall_eq b1, wpcall_eq b2, hwn, hneg, tmF]
    · have hne : dig (toDig a) ≠ [] := by have := mt toDig_eq_nil.1 ha0; simpa [dig] using this
      simp only [F60, tmR, seval, wp_app, apply_app1, apply_new1, wpcall_eq t1, app_nils (elems_sl (uni_dig _)) hne (by rw [dig_len]; omega), dig_len, wpcall_eq b1, wpcall_eq b2, hwn, hneg, tmF, dig_nil]
      rw [List.take_of_length_le (by rw [dig_len]; omega)]
  · obtain ⟨n, hn⟩ : ∃ n, ka = kb + n := ⟨ka - kb, by omega⟩
    have hane : a ≠ 0 := by
      intro h0
      have h2 : b < 2 ^ kb := c1
      have h3 := c2 hb
      have := k0 h0
      have h4 : kb = 0 := by omega
      rw [h4] at h2
      omega
    have hne : dig (toDig a) ≠ [] := by have := mt toDig_eq_nil.1 hane; simpa [dig] using this
    have hnn : ((ka : Int) - (kb : Int)) = (n : Nat) := by omega
    have hneg : (((n : Nat) : Int) < 0) = False := eq_false (by omega)
    have h32 : (32 : Int) ≠ 0 := by decide
    have hka : ka ≤ 1073741824 := by omega
    have hsh := shift_c ys hdb n (by omega) (by omega)
    rw [← hb'] at hsh
    have ww1 : IntKind.i64.wrap ((n / 32 : Nat) : Int) = (n / 32 : Nat) := wrap_i64n (by omega)
    have ww2 : IntKind.i64.wrap ((n / 32 + 1 : Nat) : Int) = (n / 32 + 1 : Nat) := wrap_i64n (by omega)
    have hb2n : b * 2 ^ n < 4294967296 ^ xs.length := by
      have e : (2 : Nat) ^ ka = 2 ^ kb * 2 ^ n := by rw [hn, Nat.pow_add]
      have h1 : b * 2 ^ n < 2 ^ kb * 2 ^ n := Nat.mul_lt_mul_of_pos_right c1 (Nat.pow_pos (by decide))
      have h2 : (2 : Nat) ^ ka ≤ 2 ^ (32 * xs.length) := Nat.pow_le_pow_right (by decide) a3
      rw [Nat.pow_mul, show (2 : Nat) ^ 32 = 4294967296 from rfl] at h2
      omega
    rw [hnn] at hwn
    simp only [F60, tmR, seval, wp_app, apply_app1, apply_new1, wpcall_eq t1, app_nils (elems_sl (uni_dig _)) hne (by rw [dig_len]; omega), dig_len, wpcall_eq b1, wpcall_eq b2, hnn, hwn, hneg, bin_quo _ _ _ _ h32, quo32, ww1, nat_add_one, ww2, wpcall_eq hsh]
    refine ⟨by omega, ?_⟩
    refine wp_down (fun m s => m ≤ n + 1 ∧ s.env 10 = .int .i64 ((m : Int) - 1) ∧ s.env 8 = .hs 25 0 1 (n / 32 + 1) ∧ s.env 9 = .sl (dig (toDig (b * 2 ^ m / 2))) ∧
      ∃ r os, (s.env 6 = .sl (dig (toDig r)) ∨ (s.env 6 = .hs 13 0 1 (toDig r).length ∧ Row s 13 0 (toDig r))) ∧ Row s 25 0 os ∧ os.length = n / 32 + 1 ∧ Dig os ∧ a = Go.Plain.val os * b + r ∧ 2 ^ m ∣ Go.Plain.val os ∧ r < b * 2 ^ m) ?_ ?_ (n + 1) _ ?_
    · rintro i st ⟨hi, h10, h8, h9, r, os, h6, ho, hol, hod, hav, hdv, hr⟩
      have hi2 : i ≤ n := by omega
      have hra : r ≤ a := by rw [hav]; exact Nat.le_add_left _ _
      rw [nat_succ_sub] at h10
      have hd2 : b * 2 ^ (i + 1) / 2 = b * 2 ^ i := by rw [Nat.pow_succ, ← Nat.mul_assoc]; exact Nat.mul_div_cancel _ (by decide)
      rw [hd2] at h9
      rw [Nat.pow_succ, ← Nat.mul_assoc] at hr
      have hdb2 : b * 2 ^ i < 4294967296 ^ xs.length := Nat.lt_of_le_of_lt (Nat.mul_le_mul_left b (Nat.pow_le_pow_right (by decide) hi2)) hb2n
      have ld := toDig_len_le hdb2
      have lr : (toDig r).length ≤ xs.length := by
        have := val_lt hda
        rw [← ha] at this
        exact toDig_len_le (Nat.lt_of_le_of_lt hra this)
      have cmp := cmpD_c (toDig r) (toDig (b * 2 ^ i)) (dig_toDig _) (dig_toDig _) (by omega) (by omega)
      rw [val_toDig, val_toDig] at cmp
      have hf := half_c (toDig (b * 2 ^ i)) (dig_toDig _) (by omega)
      rw [val_toDig] at hf
      have hwi : IntKind.i64.wrap ((i : Int) - 1) = (i : Int) - 1 := wrap_i64 (by omega) (by omega)
      have htk : List.take (toDig r).length (dig (toDig r)) = dig (toDig r) := List.take_of_length_le (by rw [dig_len]; exact Nat.le_refl _)
      by_cases hle : b * 2 ^ i ≤ r
      · have hs : ((0 : Int) ≤ sgnN r (b * 2 ^ i)) = True := by rw [sgnN_nonneg]; exact eq_true hle
        have hsub := subD_c (toDig r) (toDig (b * 2 ^ i)) (dig_toDig _) (dig_toDig _) (by omega) (by
          by_cases hh : (toDig r).length < (toDig (b * 2 ^ i)).length
          · have := len_lt_val hh; omega
          · omega) (by rw [val_toDig, val_toDig]; exact hle)
        rw [val_toDig, val_toDig] at hsub
        have hj : i / 32 < n / 32 + 1 := by have := Nat.div_le_div_right (c := 32) hi2; omega
        have hjo : i / 32 < os.length := by omega
        have wi1 : IntKind.i64.wrap ((i / 32 : Nat) : Int) = (i / 32 : Nat) := wrap_i64n (by omega)
        have wi2 : i % 32 % 18446744073709551616 = i % 32 := u64_mod _ (by omega)
        have hfree := bit_free hdv
        rw [← digit_of_val hod] at hfree
        have hg := hod.get (i / 32)
        have hp32 : (2 : Nat) ^ (i % 32) < 4294967296 := by rw [show (4294967296 : Nat) = 2 ^ 32 by rfl]; exact Nat.pow_lt_pow_right (by decide) (by omega)
        have hor := bin_or_u32 false (n := os.getD (i / 32) 0) (m := 2 ^ (i % 32)) hg hp32
        have hq : os.getD (i / 32) 0 = os.getD (i / 32) 0 / 2 ^ (i % 32 + 1) * 2 ^ (i % 32 + 1) := by
          have := Nat.div_add_mod (os.getD (i / 32) 0) (2 ^ (i % 32 + 1))
          rw [hfree, Nat.add_zero, Nat.mul_comm] at this; exact this.symm
        have hsum : os.getD (i / 32) 0 ||| 2 ^ (i % 32) = os.getD (i / 32) 0 + 2 ^ (i % 32) := by
          have := or_add (n := os.getD (i / 32) 0 / 2 ^ (i % 32 + 1)) (m := 2 ^ (i % 32)) (i := i % 32 + 1) (Nat.pow_lt_pow_right (by decide) (by omega))
          rw [← hq] at this; exact this
        have hlt : os.getD (i / 32) 0 + 2 ^ (i % 32) < 4294967296 := by
          have e : (4294967296 : Nat) = 2 ^ (31 - i % 32) * 2 ^ (i % 32 + 1) := by rw [← Nat.pow_add, show 31 - i % 32 + (i % 32 + 1) = 32 by omega]
          rw [hq, e] at hg
          have := Nat.lt_of_mul_lt_mul_right hg
          have h2 : (os.getD (i / 32) 0 / 2 ^ (i % 32 + 1) + 1) * 2 ^ (i % 32 + 1) ≤ 2 ^ (31 - i % 32) * 2 ^ (i % 32 + 1) := Nat.mul_le_mul_right _ this
          rw [Nat.succ_mul, ← hq, ← e, Nat.pow_succ] at h2
          have : 0 < (2 : Nat) ^ (i % 32) := Nat.pow_pos (by decide)
          omega
        rw [hsum] at hor
        have hval := val_set (d := os.getD (i / 32) 0 + 2 ^ (i % 32)) hjo
        have e2i : (2 : Nat) ^ i = 2 ^ (i % 32) * 4294967296 ^ (i / 32) := by
          rw [show (4294967296 : Nat) = 2 ^ 32 by rfl, ← Nat.pow_mul, ← Nat.pow_add]; congr 1; omega
        have hval2 : Go.Plain.val (os.set (i / 32) (os.getD (i / 32) 0 + 2 ^ (i % 32))) = Go.Plain.val os + 2 ^ i := by
          rw [e2i]; rw [Nat.add_mul] at hval; omega
        have hr' : r - b * 2 ^ i < b * 2 ^ i := by omega
        have hav' : a = (Go.Plain.val os + 2 ^ i) * b + (r - b * 2 ^ i) := by rw [hav, Nat.add_mul, Nat.mul_comm (2 ^ i) b]; omega
        have hdv' : 2 ^ i ∣ Go.Plain.val os + 2 ^ i := by
          refine Nat.dvd_add (Nat.dvd_trans ?_ hdv) (Nat.dvd_refl _)
          exact Nat.pow_dvd_pow 2 (by omega)
        rcases h6 with h6 | ⟨h6, ho6⟩
        · simp only [L60_0, tmR, seval, h6, h8, h9, h10, nat_le0, wpcall_eq cmp, hs, wpcall_eq hsub, bin_quo _ _ _ _ h32, quo32, wi1, bin_rem _ _ _ _ h32, rem32, wrap_u64, wi2, iaddr_hs hj, ho, dig_getElem hjo, bin_shl_u32 _ _ _ (show i % 32 < 32 by omega), hor, dig_set, wpcall_eq hf, hwi]
          exact ⟨by omega, _, _, .inl rfl, rfl, by simp [hol], hod.set hlt, by rw [hval2]; exact hav', by rw [hval2]; exact hdv', hr'⟩
        · simp only [L60_0, tmR, seval, h6, h8, h9, h10, nat_le0, ho6, dig_len, htk, wpcall_eq cmp, hs, wpcall_eq hsub, bin_quo _ _ _ _ h32, quo32, wi1, bin_rem _ _ _ _ h32, rem32, wrap_u64, wi2, iaddr_hs hj, ho, dig_getElem hjo, bin_shl_u32 _ _ _ (show i % 32 < 32 by omega), hor, dig_set, wpcall_eq hf, hwi]
          exact ⟨by omega, _, _, .inl rfl, rfl, by simp [hol], hod.set hlt, by rw [hval2]; exact hav', by rw [hval2]; exact hdv', hr'⟩
      · have hs : ((0 : Int) ≤ sgnN r (b * 2 ^ i)) = False := by rw [sgnN_nonneg]; exact eq_false hle
        have hdv' : 2 ^ i ∣ Go.Plain.val os := Nat.dvd_trans (Nat.pow_dvd_pow 2 (by omega)) hdv
        rcases h6 with h6 | ⟨h6, ho6⟩
        · simp only [L60_0, tmR, seval, h6, h8, h9, h10, nat_le0, wpcall_eq cmp, hs, wpcall_eq hf, hwi]
          exact ⟨by omega, r, os, .inl rfl, ho, hol, hod, hav, hdv', by omega⟩
        · simp only [L60_0, tmR, seval, h6, h8, h9, h10, nat_le0, ho6, dig_len, htk, wpcall_eq cmp, hs, wpcall_eq hf, hwi]
          exact ⟨by omega, r, os, .inr ⟨rfl, ho6⟩, ho, hol, hod, hav, hdv', by omega⟩
    · rintro st ⟨hi, h10, h8, h9, r, os, h6, ho, hol, hod, hav, hdv, hr⟩
      have t := trim_c os hod (by omega)
      rw [Nat.pow_zero, Nat.mul_one] at hr
      have e1 : a / b = Go.Plain.val os := by rw [hav, Nat.mul_comm, Nat.mul_add_div (Nat.pos_of_ne_zero hb), Nat.div_eq_of_lt hr, Nat.add_zero]
      have e2 : a % b = r := by rw [hav, Nat.mul_comm, Nat.mul_add_mod, Nat.mod_eq_of_lt hr]
      rw [e1, e2]
      have htk : List.take (n / 32 + 1) (dig os) = dig os := List.take_of_length_le (by rw [dig_len]; omega)
      have htk2 : List.take (toDig r).length (dig (toDig r)) = dig (toDig r) := List.take_of_length_le (by rw [dig_len]; exact Nat.le_refl _)
      rcases h6 with h6 | ⟨h6, ho6⟩
      · simp only [L60_0, tmR, seval, h6, h8, h9, h10, ho, dig_len, hol, htk, wpcall_eq t, tmF]
      · simp only [L60_0, tmR, seval, h6, h8, h9, h10, ho, ho6, dig_len, hol, htk, htk2, wpcall_eq t, tmF]
    · simp only [tmD, reduceIte, Nat.reduceEqDiff, Nat.reduceAdd]
      refine ⟨Nat.le_refl _, by rw [nat_succ_sub], ?_, a, List.replicate (n / 32 + 1) 0, .inr ⟨rfl, by simp only [Row, tmD, reduceIte, Nat.reduceEqDiff, Nat.reduceAdd]⟩, by simp only [Row, tmD, reduceIte, Nat.reduceEqDiff, Nat.reduceAdd, dig_rep], by simp, .rep _, by simp [val_rep], by simp [val_rep], ?_⟩
      · rw [Nat.pow_succ, ← Nat.mul_assoc, Nat.mul_div_cancel _ (by decide)]
      · have h2 := c2 hb
        have e : (2 : Nat) ^ ka = 2 ^ kb * 2 ^ n := by rw [hn, Nat.pow_add]
        have h3 : 2 ^ kb * 2 ^ n ≤ 2 * b * 2 ^ n := Nat.mul_le_mul_right _ h2
        rw [Nat.pow_succ]
        have e2 : b * (2 ^ n * 2) = 2 * b * 2 ^ n := by rw [Nat.mul_comm (2 ^ n) 2, ← Nat.mul_assoc, Nat.mul_comm b 2]
        omega
end Go.TM.Fn
end
section
namespace Go.TM
open Go.Plain
variable {M : Mach}
def RetX (res : List TRes) (args : List TV) (rv : TV) (e : Ex) (s : St) : Prop := match e with
  | .exit _ => False
  | _ => finishR res args s = some (rv, [])
theorem retX_norm (F args P s) : RetX F args P .norm s = (finishR F args s = some (P, [])) := rfl
theorem retX_ret (F args P s) : RetX F args P .ret s = (finishR F args s = some (P, [])) := rfl
theorem givesX {f : Nat} {F : TFunc} {args : List TV} {rv : TV} (h : M.tab f = some F) (hn : F.np = args.length) (hp : Goes M F.body (RetX F.res args rv) (initSt args)) : call M f args = some (rv, []) := by
  obtain ⟨e, s, h1, h2⟩ := hp
  cases e with
  | exit i => cases h2
  | norm => rw [call_eq h args hn, h1]; exact h2
  | ret => rw [call_eq h args hn, h1]; exact h2
theorem apply_new2 (d : Nat) (v : TV) (o o2 : Obj) (st : St) : apply (some d) { v := v, new := [o, o2] } st = bump (putO (setO st d (st.cnt d) (some o)) d v d (st.cnt d + 1) (some o2)) d (st.cnt d + 2) := rfl
theorem wp_call1a (d : Nat) (vk : Vk) (r : List TStep) (Q : St → Prop) (st : St) (f args) {vs cs} (ha : argsOf (restrict st.obj vk) [] 0 (args.map (Go.TM.val st.env)) = some vs) (hh : heldOf [] 0 (args.map (Go.TM.val st.env)) = []) (hc : call M f vs = some (.agg cs, [])) :
    Wp M (⟨some d, .call f 1 [] args, none, vk⟩ :: r) Q st = Wp M r Q (apply (some d) { v := .agg (adopt d (st.cnt d) cs).1, new := (adopt d (st.cnt d) cs).2 } st) := by
  rw [wp_ev]
  simp only [ev, ha]
  have hk : callEff 1 [] ((some d).getD 0) (st.cnt ((some d).getD 0)) (restrict st.obj vk) (args.map (Go.TM.val st.env)) (.agg cs, []) =
      some { v := .agg (adopt d (st.cnt d) cs).1, new := (adopt d (st.cnt d) cs).2 } := by
    simp only [callEff, hh, Option.getD_some]
    simp
  apply propext; constructor
  · rintro ⟨x, hx, h⟩
    cases hx
    obtain ⟨rs, h1, e, h2, h3⟩ := h
    rw [hc] at h1; cases h1
    rw [hk] at h2; cases h2
    exact h3
  · intro h
    exact ⟨_, rfl, _, hc, _, hk, h⟩
end Go.TM
namespace Go.TM.Fn
open Go Go.TM Go.Plain
set_option linter.unusedVariables false
set_option linter.unusedSimpArgs false
set_option maxRecDepth 20000
def ownI (z : Int) : List TV := if z = 0 then [.bool false, .nils] else [.bool (decide (z < 0)), .own 1 (dig (toDig z.natAbs))]
theorem ownI_zero : ownI 0 = [.bool false, .nils] := rfl
theorem ownI_pos {z : Int} (h : z ≠ 0) : ownI z = [.bool (decide (z < 0)), .own 1 (dig (toDig z.natAbs))] := if_neg h
theorem view_ownI (z : Int) : view (.agg (ownI z)) = encI z := by
  unfold ownI; split
  · rename_i h; subst h; simp [view, viewA, view1, encI, rawI, toDig_zero, dig]
  · simp [view, viewA, view1]
theorem make_o (neg : Bool) (ds : List Nat) (hd : Dig ds) (hl : ds.length < 2147483600) : call mach 40 [.bool neg, .sl (dig ds)] = some (.agg (ownI (ival neg ds)), []) := by
  have t := trim_c ds hd (by omega)
  have hl2 := toDig_val_len hd
  refine givesX tab40 rfl ?_
  by_cases hz : Go.Plain.val ds = 0
  · rw [hz, toDig_zero] at t
    rw [show ival neg ds = 0 by simp [ival, hz], ownI_zero]
    simp only [F40, tmR, seval, wpcall_eq t, dig_nil, retX_norm, retX_ret, tmF]
  · have hne : dig (toDig (Go.Plain.val ds)) ≠ [] := by have := mt toDig_eq_nil.1 hz; simpa [dig] using this
    have hlen : (((toDig (Go.Plain.val ds)).length : Int) = 0) = False := eq_false (by have := mt toDig_eq_nil.1 hz; have := List.length_pos_iff.2 this; omega)
    have hz2 : ival neg ds ≠ 0 := by have := ival_abs neg ds; omega
    rw [ownI_pos hz2, ival_abs]
    have hsg : decide (ival neg ds < 0) = neg := by cases neg <;> simp [ival] <;> omega
    simp only [F40, tmR, seval, wp_app, apply_app1, apply_new1, wpcall_eq t, dig_len, hlen, app_nils (elems_sl (uni_dig _)) hne (by rw [dig_len]; omega), retX_norm, retX_ret, tmF, hsg]
theorem make_c (neg : Bool) (ds : List Nat) (hd : Dig ds) (hl : ds.length < 2147483600) : Gives mach 40 [.bool neg, .sl (dig ds)] (encI (ival neg ds)) :=
  ⟨_, make_o neg ds hd hl, view_ownI _⟩
theorem make_v (neg : Bool) (n : Nat) (hl : (toDig n).length < 2147483600) : Gives mach 40 [.bool neg, .sl (dig (toDig n))] (encI (if neg then -(n : Int) else n)) := by
  have := make_c neg (toDig n) (dig_toDig n) hl
  rwa [show ival neg (toDig n) = if neg then -(n : Int) else n by simp only [ival, val_toDig]] at this
theorem canon_o (neg : Bool) (ds : List Nat) (hd : Dig ds) (hl : ds.length < 2147483600) : call mach 39 [rawI neg ds] = some (.agg (ownI (ival neg ds)), []) := by
  have m := make_o neg ds hd hl
  refine givesX tab39 rfl ?_
  by_cases hz : ival neg ds = 0
  · rw [hz, ownI_zero] at m ⊢
    simp only [F39, tmR, seval, wp_call1a (hc := m), adopt, retX_norm, retX_ret, tmF]
  · rw [ownI_pos hz] at m ⊢
    simp only [F39, tmR, seval, wp_call1a (hc := m), adopt, apply_new1, dig_len, retX_norm, retX_ret, tmF]
theorem canon_c {k v z} (h : IsI k v z) (hk : k < 2147483600) : Gives mach 39 [v] (encI z) := by
  obtain ⟨neg, ds, rfl, hd, hl, rfl⟩ := h
  exact ⟨_, canon_o neg ds hd (by omega), view_ownI _⟩
theorem rfrom_c {n : Int} (h : I64 n) : Gives mach 18 [.int .i64 n] (encI n) := by
  obtain ⟨h1, h2⟩ := h
  refine gives tab18 rfl ?_
  obtain ⟨lh, ld⟩ := lo_hi n.natAbs (by omega)
  by_cases hn : n < 0
  · have hc := make_c true [n.natAbs % 4294967296, n.natAbs / 4294967296 % 4294967296] ld (by simp)
    rw [show ival true [n.natAbs % 4294967296, n.natAbs / 4294967296 % 4294967296] = n by simp only [ival, lh]; simp; omega] at hc
    have hw : IntKind.u64.wrap (0 - IntKind.u64.wrap n) = (n.natAbs : Nat) := by rw [wrap_u64_i, wrap_u64_i]; omega
    simp only [dig, List.map_cons, List.map_nil] at hc
    simp only [F18, tmR, seval, hn, hw, bin_shr32, wrap_u32, wpcall_eq hc, tmF]
    simp [encI, hn]
  · have hc := make_c false [n.natAbs % 4294967296, n.natAbs / 4294967296 % 4294967296] ld (by simp)
    rw [show ival false [n.natAbs % 4294967296, n.natAbs / 4294967296 % 4294967296] = n by simp only [ival, lh]; simp; omega] at hc
    have hw : IntKind.u64.wrap n = (n.natAbs : Nat) := by rw [wrap_u64_i]; omega
    simp only [dig, List.map_cons, List.map_nil] at hc
    simp only [F18, tmR, seval, hn, hw, bin_shr32, wrap_u32, wpcall_eq hc, tmF]
    simp [encI, hn]
theorem beq_tf : (true == false) = false := rfl
theorem beq_ft : (false == true) = false := rfl
theorem rcompare_c {j k v w x y} (hv : IsI j v x) (hw : IsI k w y) (hj : j < 1073741824) (hk : k < 1073741824) : Gives mach 58 [v, w] (.int .i64 (sgn (x - y))) := by
  have dx := hv.di
  have dy := hw.di
  have c1 := canon_c hv (by omega)
  have c2 := canon_c hw (by omega)
  have l1 := toDig_len_le (n := x.natAbs) dx
  have l2 := toDig_len_le (n := y.natAbs) dy
  have cmp := cmpD_c (toDig x.natAbs) (toDig y.natAbs) (dig_toDig _) (dig_toDig _) (by omega) (by omega)
  have cmp2 := cmpD_c (toDig y.natAbs) (toDig x.natAbs) (dig_toDig _) (dig_toDig _) (by omega) (by omega)
  rw [val_toDig, val_toDig] at cmp cmp2
  obtain ⟨n, ds, rfl, hd, hl, hx⟩ := hv
  obtain ⟨m, es, rfl, he, hl2, hy⟩ := hw
  refine gives tab58 rfl ?_
  by_cases hx0 : x < 0 <;> by_cases hy0 : y < 0
  · simp only [hx0, hy0, encI, decide_true] at c1 c2
    simp only [F58, tmR, seval, wpcall_eq c1, wpcall_eq c2, wpcall_eq cmp2, Bool.not_true, tmF]
    congr 1; unfold sgn sgnN; (repeat' split) <;> omega
  · simp only [hx0, hy0, encI, decide_true, decide_false] at c1 c2
    simp only [F58, tmR, seval, wpcall_eq c1, wpcall_eq c2, beq_tf, Bool.not_true, Bool.not_false, tmF]
    congr 1; unfold sgn; (repeat' split) <;> omega
  · simp only [hx0, hy0, encI, decide_true, decide_false] at c1 c2
    simp only [F58, tmR, seval, wpcall_eq c1, wpcall_eq c2, beq_ft, Bool.not_true, Bool.not_false, tmF]
    congr 1; unfold sgn; (repeat' split) <;> omega
  · simp only [hx0, hy0, encI, decide_true, decide_false] at c1 c2
    simp only [F58, tmR, seval, wpcall_eq c1, wpcall_eq c2, wpcall_eq cmp, Bool.not_true, tmF]
    congr 1; unfold sgn sgnN; (repeat' split) <;> omega
theorem rsign_c {k v z} (h : IsI k v z) (hk : k < 1073741824) : Gives mach 35 [v] (.int .i64 (sgn z)) := by
  have c := rcompare_c h (⟨false, [], rfl, .nil, by simp, rfl⟩ : IsI 0 (rawI false []) 0) hk (by omega)
  rw [Int.sub_zero] at c
  simp only [rawI, dig_nil] at c
  obtain ⟨n, ds, rfl, hd, hl, hx⟩ := h
  refine gives tab35 rfl ?_
  simp only [F35, tmR, seval, wpcall_eq c, tmF]
theorem rnegate_c {k v z} (h : IsI k v z) (hk : k < 1073741824) : Gives mach 36 [v] (encI (-z)) := by
  obtain ⟨neg, ds, rfl, hd, hl, hz⟩ := h
  have hm := make_c (!neg) ds hd (by omega)
  rw [show ival (!neg) ds = -z by rw [← hz]; cases neg <;> simp [ival]] at hm
  refine gives tab36 rfl ?_
  simp only [F36, tmR, seval, wpcall_eq hm, tmF]
theorem radd_c {j k v w x y} (hv : IsI j v x) (hw : IsI k w y) (hj : j < 1073741824) (hk : k < 1073741824) : Gives mach 50 [v, w] (encI (x + y)) := by
  obtain ⟨n, ds, rfl, hd, hl, hx⟩ := hv
  obtain ⟨m, es, rfl, he, hl2, hy⟩ := hw
  have t1 := trim_c ds hd (by omega)
  have t2 := trim_c es he (by omega)
  have l1 := toDig_val_len hd
  have l2 := toDig_val_len he
  refine gives tab50 rfl ?_
  by_cases hn : n = m
  · subst hn
    have ha := addD_c ds es hd he (by omega) (by omega)
    have hln : (toDig (Go.Plain.val ds + Go.Plain.val es)).length ≤ max j k + 1 := by
      apply toDig_len_le
      have h1 := val_lt hd
      have h2 := val_lt he
      have h3 : (4294967296 : Nat) ^ ds.length ≤ 4294967296 ^ max j k := Nat.pow_le_pow_right (by decide) (by omega)
      have h4 : (4294967296 : Nat) ^ es.length ≤ 4294967296 ^ max j k := Nat.pow_le_pow_right (by decide) (by omega)
      rw [Nat.pow_succ]; omega
    have hm := make_v n (Go.Plain.val ds + Go.Plain.val es) (by omega)
    rw [show (if n = true then -((Go.Plain.val ds + Go.Plain.val es : Nat) : Int) else ((Go.Plain.val ds + Go.Plain.val es : Nat) : Int)) = x + y by rw [← hx, ← hy]; cases n <;> simp [ival]; omega] at hm
    simp only [F50, tmR, seval, wpcall_eq ha, wpcall_eq hm, tmF]
  · have hnb : (n == m) = false := by cases n <;> cases m <;> simp_all
    have hc := cmpD_c ds es hd he (by omega) (by omega)
    by_cases hle : Go.Plain.val es ≤ Go.Plain.val ds
    · have hs : ((0 : Int) ≤ sgnN (Go.Plain.val ds) (Go.Plain.val es)) = True := by rw [sgnN_nonneg]; exact eq_true hle
      have hsub := subD_c ds (toDig (Go.Plain.val es)) hd (dig_toDig _) (by omega) (by
        have h1 := val_lt hd
        exact toDig_len_le (by omega)) (by rw [val_toDig]; exact hle)
      rw [val_toDig] at hsub
      have hln : (toDig (Go.Plain.val ds - Go.Plain.val es)).length ≤ j := toDig_len_le (by
        have h1 := val_lt hd
        have h3 : (4294967296 : Nat) ^ ds.length ≤ 4294967296 ^ j := Nat.pow_le_pow_right (by decide) hl
        omega)
      have hm := make_v n (Go.Plain.val ds - Go.Plain.val es) (by omega)
      rw [show (if n = true then -((Go.Plain.val ds - Go.Plain.val es : Nat) : Int) else ((Go.Plain.val ds - Go.Plain.val es : Nat) : Int)) = x + y by rw [← hx, ← hy]; cases n <;> cases m <;> simp [ival] at hn ⊢ <;> omega] at hm
      simp only [F50, tmR, seval, hnb, wpcall_eq hc, hs, wpcall_eq t2, wpcall_eq hsub, wpcall_eq hm, tmF]
    · have hs : ((0 : Int) ≤ sgnN (Go.Plain.val ds) (Go.Plain.val es)) = False := by rw [sgnN_nonneg]; exact eq_false hle
      have hsub := subD_c es (toDig (Go.Plain.val ds)) he (dig_toDig _) (by omega) (by
        have h1 := val_lt he
        exact toDig_len_le (by omega)) (by rw [val_toDig]; omega)
      rw [val_toDig] at hsub
      have hln : (toDig (Go.Plain.val es - Go.Plain.val ds)).length ≤ k := toDig_len_le (by
        have h1 := val_lt he
        have h3 : (4294967296 : Nat) ^ es.length ≤ 4294967296 ^ k := Nat.pow_le_pow_right (by decide) hl2
        omega)
      have hm := make_v m (Go.Plain.val es - Go.Plain.val ds) (by omega)
      rw [show (if m = true then -((Go.Plain.val es - Go.Plain.val ds : Nat) : Int) else ((Go.Plain.val es - Go.Plain.val ds : Nat) : Int)) = x + y by rw [← hx, ← hy]; cases n <;> cases m <;> simp [ival] at hn ⊢ <;> omega] at hm
      simp only [F50, tmR, seval, hnb, wpcall_eq hc, hs, wpcall_eq t1, wpcall_eq hsub, wpcall_eq hm, tmF]
theorem rsub_c {j k v w x y} (hv : IsI j v x) (hw : IsI k w y) (hj : j < 1073741824) (hk : k < 1073741824) : Gives mach 61 [v, w] (encI (x - y)) := by
  have n1 := rnegate_c hw hk
  have a1 := radd_c hv (isI_enc hw.di.neg) hj hk
  rw [← Int.sub_eq_add_neg] at a1
  obtain ⟨n, ds, rfl, -⟩ := hv
  obtain ⟨m, es, rfl, -⟩ := hw
  refine gives tab61 rfl ?_
  simp only [F61, tmR, seval, wpcall_eq n1, wpcall_eq a1, tmF]
theorem rmul_c {j k v w x y} (hv : IsI j v x) (hw : IsI k w y) (hj : j < 1073741800) (hk : k < 1073741800) : Gives mach 34 [v, w] (encI (x * y)) := by
  have dxy := hv.di.mul hw.di
  obtain ⟨n, ds, rfl, hd, hl, hx⟩ := hv
  obtain ⟨m, es, rfl, he, hl2, hy⟩ := hw
  have hp := mulD_c ds es hd he (by omega)
  have e : (x * y).natAbs = Go.Plain.val ds * Go.Plain.val es := by rw [Int.natAbs_mul, ← hx, ← hy, ival_abs, ival_abs]
  unfold Di at dxy
  rw [e] at dxy
  have hln := toDig_len_le dxy
  have hm := make_v (!(n == m)) (Go.Plain.val ds * Go.Plain.val es) (by omega)
  rw [show (if (!(n == m)) = true then -((Go.Plain.val ds * Go.Plain.val es : Nat) : Int) else ((Go.Plain.val ds * Go.Plain.val es : Nat) : Int)) = x * y by rw [← hx, ← hy]; cases n <;> cases m <;> simp [ival, Int.neg_mul, Int.mul_neg]] at hm
  refine gives tab34 rfl ?_
  simp only [F34, tmR, seval, wpcall_eq hp, wpcall_eq hm, tmF]
theorem rdivmod_c {j k v w x y} (hv : IsI j v x) (hw : IsI k w y) (hy0 : y ≠ 0) (hj : j < 33554432) (hk : k < 33554432) : Gives mach 38 [v, w] (.tup [encI (x.fdiv y), encI (x.fmod y), .int .i64 0]) := by
  have dx := hv.di
  have dy := hw.di
  have c1 := canon_c hv (by omega)
  have c2 := canon_c hw (by omega)
  have l1 := toDig_len_le (n := x.natAbs) dx
  have l2 := toDig_len_le (n := y.natAbs) dy
  obtain ⟨X, hX⟩ : ∃ X, X = x.natAbs := ⟨_, rfl⟩
  obtain ⟨Y, hY⟩ : ∃ Y, Y = y.natAbs := ⟨_, rfl⟩
  obtain ⟨n, hn⟩ : ∃ n, n = decide (x < 0) := ⟨_, rfl⟩
  obtain ⟨m, hm⟩ : ∃ m, m = decide (y < 0) := ⟨_, rfl⟩
  have ex : x = sg n X := by rw [hn, hX]; unfold sg; by_cases h : x < 0 <;> simp only [h, decide_true, decide_false, if_true, if_false, Bool.false_eq_true] <;> omega
  have ey : y = sg m Y := by rw [hm, hY]; unfold sg; by_cases h : y < 0 <;> simp only [h, decide_true, decide_false, if_true, if_false, Bool.false_eq_true] <;> omega
  have hY0 : Y ≠ 0 := by omega
  simp only [encI, ← hX, ← hY, ← hn, ← hm] at c1 c2
  rw [← hX] at l1
  rw [← hY] at l2
  have hdv := divD_c (toDig X) (toDig Y) (dig_toDig _) (dig_toDig _) (by omega) (by omega) (by rw [val_toDig]; exact hY0)
  rw [val_toDig, val_toDig] at hdv
  have key := Nat.div_add_mod X Y
  have hlt := Nat.mod_lt X (Nat.pos_of_ne_zero hY0)
  have lq : (toDig (X / Y)).length ≤ j := toDig_len_le (Nat.lt_of_le_of_lt (Nat.div_le_self _ _) (by rw [hX]; exact dx))
  have lr : (toDig (X % Y)).length ≤ k := toDig_len_le (by unfold Di at dy; omega)
  have key2 : (X : Int) = (Y : Int) * ((X / Y : Nat) : Int) + ((X % Y : Nat) : Int) := by rw [← Int.natCast_mul, ← Int.natCast_add, key]
  have hlY : (((toDig Y).length : Int) = 0) = False := eq_false (by have := mt toDig_eq_nil.1 hY0; have := List.length_pos_iff.2 this; omega)
  have mr := make_v n (X % Y) (by omega)
  have mq := make_v (!(n == m)) (X / Y) (by omega)
  obtain ⟨q, hq⟩ : ∃ q, q = X / Y := ⟨_, rfl⟩
  obtain ⟨r, hr⟩ : ∃ r, r = X % Y := ⟨_, rfl⟩
  rw [← hq] at mq hdv key2 lq
  rw [← hr] at mr hdv key2 lr hlt
  obtain ⟨z1, hz1⟩ : ∃ z : Int, z = if (!(n == m)) = true then -(q : Int) else q := ⟨_, rfl⟩
  obtain ⟨z2, hz2⟩ : ∃ z : Int, z = if n = true then -(r : Int) else r := ⟨_, rfl⟩
  rw [← hz1] at mq
  rw [← hz2] at mr
  have ad2 : Di k z2 := by
    have : z2.natAbs = r := by rw [hz2]; split <;> simp
    unfold Di at *; omega
  have ad1 : Di j z1 := by
    have : z1.natAbs = q := by rw [hz1]; split <;> simp
    unfold Di at *; rw [this, hq]; exact Nat.lt_of_le_of_lt (Nat.div_le_self _ _) (by omega)
  have fr := rfrom_c (n := 1) (by unfold I64; omega)
  have sb := rsub_c (isI_enc ad1) (isI_enc (k := 1) (z := 1) (by unfold Di; decide)) (by omega) (by omega)
  have ad := radd_c (isI_enc ad2) (isI_enc dy) (by omega) (by omega)
  have hd2 : ((0 : Int) < ((toDig z2.natAbs).length : Int)) = (r ≠ 0) := by
    have : z2.natAbs = r := by rw [hz2]; split <;> simp
    rw [this]; apply propext; constructor
    · rintro h rfl; rw [toDig_zero] at h; simp at h
    · intro h; have := mt toDig_eq_nil.1 h; have := List.length_pos_iff.2 this; omega
  obtain ⟨b1, hb1⟩ : ∃ b, b = decide (z1 < 0) := ⟨_, rfl⟩
  obtain ⟨d1, hd1⟩ : ∃ b, b = toDig z1.natAbs := ⟨_, rfl⟩
  obtain ⟨b2, hb2⟩ : ∃ b, b = decide (z2 < 0) := ⟨_, rfl⟩
  obtain ⟨d2, hd2'⟩ : ∃ b, b = toDig z2.natAbs := ⟨_, rfl⟩
  have en1 : encI z1 = rawI b1 d1 := by simp only [encI, ← hb1, ← hd1]
  have en2 : encI z2 = rawI b2 d2 := by simp only [encI, ← hb2, ← hd2']
  have eny : encI y = rawI m (toDig Y) := by simp only [encI, ← hm, ← hY]
  rw [en1] at mq sb
  rw [en2] at mr
  rw [en2, eny] at ad
  rw [← hd2'] at hd2
  simp only [encI, rawI, seval, decide_false] at sb fr
  obtain ⟨n0, ds, hv', -⟩ := hv
  obtain ⟨m0, es, hw', -⟩ := hw
  subst hv' hw'
  refine gives tab38 rfl ?_
  by_cases hnm : n = m
  · have e := dm_same n key2 (by omega) (by omega)
    have e1 : x.fdiv y = z1 := by rw [ex, ey, ← hnm, e.1, hz1, ← hnm]; simp
    have e2 : x.fmod y = z2 := by rw [ex, ey, ← hnm, e.2, hz2]; rfl
    rw [e1, e2, en1, en2]
    subst hnm
    have hbb : (!(n == n)) = false := by simp
    rw [hbb] at mq
    by_cases hr0 : r = 0
    · have hd3 : ((0 : Int) < (d2.length : Int)) = False := by rw [hd2]; simp [hr0]
      simp only [F38, tmR, seval, wpcall_eq c1, wpcall_eq c2, dig_len, hlY, wpcall_eq hdv, Bool.not_true, wpcall_eq mq, wpcall_eq mr, hd3, tmF]
    · have hd3 : ((0 : Int) < (d2.length : Int)) = True := by rw [hd2]; simp [hr0]
      simp only [F38, tmR, seval, wpcall_eq c1, wpcall_eq c2, dig_len, hlY, wpcall_eq hdv, Bool.not_true, wpcall_eq mq, wpcall_eq mr, hd3, tmF]
  · have hnb : (n == m) = false := beq_false_of_ne hnm
    rw [hnb] at mq hz1
    simp only [Bool.not_false, if_true] at mq hz1
    by_cases hr0 : r = 0
    · have hd3 : ((0 : Int) < (d2.length : Int)) = False := by rw [hd2]; simp [hr0]
      have e := dm_zero hnm (D := X) (E := Y) (Q := q) (by rw [key2, hr0]; simp) (by omega)
      have e1 : x.fdiv y = z1 := by rw [ex, ey, e.1, hz1]
      have e2 : x.fmod y = z2 := by rw [ex, ey, e.2, hz2, hr0]; simp
      rw [e1, e2, en1, en2]
      simp only [F38, tmR, seval, wpcall_eq c1, wpcall_eq c2, dig_len, hlY, wpcall_eq hdv, hnb, Bool.not_false, wpcall_eq mq, wpcall_eq mr, hd3, tmF]
    · have hd3 : ((0 : Int) < (d2.length : Int)) = True := by rw [hd2]; simp [hr0]
      have e := dm_off hnm key2 (by omega) (by omega)
      have e1 : x.fdiv y = z1 - 1 := by rw [ex, ey, e.1, hz1]
      have e2 : x.fmod y = z2 + y := by rw [ex, ey, e.2, hz2]; rfl
      rw [e1, e2]
      simp only [F38, tmR, seval, wpcall_eq c1, wpcall_eq c2, dig_len, hlY, wpcall_eq hdv, hnb, Bool.not_false, wpcall_eq mq, wpcall_eq mr, hd3, wpcall_eq fr, wpcall_eq sb, wpcall_eq ad, tmF]
end Go.TM.Fn
end
section
namespace Go.TM.Fn
open Go Go.TM Go.Plain
set_option linter.unusedVariables false
set_option linter.unusedSimpArgs false
set_option maxRecDepth 20000
theorem unsol_objG (b hs) (st : St) (k g : Nat) : (unsol b hs st).obj k g = (st.obj k g).map fun o => { cont := o.cont, esz := o.esz, box := o.box, solo := (if b && hs.contains (k, g) then o.box && o.solo else o.solo), tip := o.tip } := by
  cases b
  · simp [unsol]
  · simp only [unsol, if_true, Bool.true_and]
    generalize st.obj = ob
    induction hs generalizing ob with
    | nil => simp
    | cons p ps ih =>
      rw [List.foldl_cons, ih]
      simp only [unsolo1, updO]
      by_cases h : k = p.1 ∧ g = p.2
      · obtain ⟨rfl, rfl⟩ := h
        simp only [and_self, if_true]
        cases ob p.1 p.2 with
        | none => rfl
        | some o => simp
      · rw [if_neg h]
        have : (k, g) ≠ p := by intro e; exact h ⟨by rw [← e], by rw [← e]⟩
        simp [List.contains_cons, this]
theorem pr_beq (a b c d : Nat) : ((a, b) == (c, d)) = (a == c && b == d) := rfl
theorem loopRGcd {Q : Ex → St → Prop} (k : Nat) (hk : k < 33554432) : ∀ (y x : Nat) (st : St), (toDig x).length ≤ k → (toDig y).length ≤ k → st.env 5 = .sl (dig (toDig x)) → st.env 6 = .sl (dig (toDig y)) →
    (∀ s, s.env 5 = .sl (dig (toDig (Nat.gcd x y))) → (toDig (Nat.gcd x y)).length ≤ k → Keep [4] s st → s.obj = st.obj → Q (.exit 0) s) → Goes mach (.loop L37_0) Q st := by
  intro y
  induction y using Nat.strongRecOn with
  | _ y ih =>
    intro x st hx hy h5 h6 hQ
    rw [wp_loop]
    by_cases hy0 : y = 0
    · subst hy0
      rw [toDig_zero] at h6
      simp only [L37_0, tmR, seval, h5, h6, dig_nil]
      refine hQ _ ?_ ?_ ?_ rfl
      · simp only [tmD, reduceIte, Nat.reduceEqDiff, Nat.reduceAdd, h5, Nat.gcd_zero_right]
      · rw [Nat.gcd_zero_right]; exact hx
      · have hkeep := Keep.refl [4] st
        repeat' (first | exact hkeep | (apply keep_put (hd := by decide)) | apply keep_setO | apply keep_bump | (apply keep_putO (hd := by decide)) | apply keep_unsol)
    · have hpos : ((0 : Int) < ((toDig y).length : Nat)) = True := eq_true (by have := mt toDig_eq_nil.1 hy0; have := List.length_pos_iff.2 this; omega)
      have hdv := divD_c (toDig x) (toDig y) (dig_toDig _) (dig_toDig _) (by omega) (by omega) (by rw [val_toDig]; exact hy0)
      rw [val_toDig, val_toDig] at hdv
      have hlen : (toDig (x % y)).length ≤ k := by
        have : x % y < 4294967296 ^ k := by
          have h1 := Nat.mod_lt x (Nat.pos_of_ne_zero hy0)
          have h2 := val_lt (dig_toDig y)
          rw [val_toDig] at h2
          have h3 : (4294967296 : Nat) ^ (toDig y).length ≤ 4294967296 ^ k := Nat.pow_le_pow_right (by decide) hy
          omega
        exact toDig_len_le this
      simp only [L37_0, tmR, seval, h5, h6, dig_len, hpos, wpcall_eq hdv]
      refine ih (x % y) (Nat.mod_lt _ (Nat.pos_of_ne_zero hy0)) y _ hy hlen ?_ ?_ ?_
      · simp only [tmD, reduceIte, Nat.reduceEqDiff, Nat.reduceAdd]
      · simp only [tmD, reduceIte, Nat.reduceEqDiff, Nat.reduceAdd]
      · intro s h1 h2 h3 h4
        have e : Nat.gcd y (x % y) = Nat.gcd x y := by rw [Nat.gcd_comm y, ← Nat.gcd_rec, Nat.gcd_comm]
        rw [e] at h1 h2
        refine hQ s h1 h2 ?_ h4
        intro i hi
        rw [h3 i hi]
        have hkeep := Keep.refl [4] st
        revert i
        show Keep _ _ _
        repeat' (first | exact hkeep | (apply keep_put (hd := by decide)) | apply keep_setO | apply keep_bump | (apply keep_putO (hd := by decide)) | apply keep_unsol)
theorem rgcd_c {j k v w x y} (hv : IsI j v x) (hw : IsI k w y) (hx0 : x ≠ 0) (hy0 : y ≠ 0) (hj : j < 33554432) (hk : k < 33554432) : Gives mach 37 [v, w] (encI (Int.gcd x y)) := by
  obtain ⟨n, ds, rfl, hd, hl, hx⟩ := hv
  obtain ⟨m, es, rfl, he, hl2, hy⟩ := hw
  have t1 := trim_c ds hd (by omega)
  have t2 := trim_c es he (by omega)
  have l1 := toDig_val_len hd
  have l2 := toDig_val_len he
  have ex : Go.Plain.val ds ≠ 0 := by have := ival_abs n ds; omega
  have ey : Go.Plain.val es ≠ 0 := by have := ival_abs m es; omega
  have n1 : dig (toDig (Go.Plain.val ds)) ≠ [] := by have := mt toDig_eq_nil.1 ex; simpa [dig] using this
  have n2 : dig (toDig (Go.Plain.val es)) ≠ [] := by have := mt toDig_eq_nil.1 ey; simpa [dig] using this
  have hpos : ((0 : Int) < ((toDig (Go.Plain.val es)).length : Nat)) = True := eq_true (by have := mt toDig_eq_nil.1 ey; have := List.length_pos_iff.2 this; omega)
  have hdv := divD_c (toDig (Go.Plain.val ds)) (toDig (Go.Plain.val es)) (dig_toDig _) (dig_toDig _) (by omega) (by omega) (by rw [val_toDig]; exact ey)
  rw [val_toDig, val_toDig] at hdv
  have k1 : List.take (toDig (Go.Plain.val ds)).length (dig (toDig (Go.Plain.val ds))) = dig (toDig (Go.Plain.val ds)) := List.take_of_length_le (by rw [dig_len]; exact Nat.le_refl _)
  have k2 : List.take (toDig (Go.Plain.val es)).length (dig (toDig (Go.Plain.val es))) = dig (toDig (Go.Plain.val es)) := List.take_of_length_le (by rw [dig_len]; exact Nat.le_refl _)
  refine gives tab37 rfl ?_
  simp only [F37, tmR, seval, wp_app, apply_app1, apply_new1, wpcall_eq t1, wpcall_eq t2, app_nils (elems_sl (uni_dig _)) n1 (by rw [dig_len]; omega), app_nils (elems_sl (uni_dig _)) n2 (by rw [dig_len]; omega), dig_len]
  rw [wp_loop]
  simp only [L37_0, tmR, seval, dig_len, hpos, k1, k2, wpcall_eq hdv]
  have eg : (Int.gcd x y : Int) = (Nat.gcd (Go.Plain.val ds) (Go.Plain.val es) : Nat) := by unfold Int.gcd; rw [← hx, ← hy, ival_abs, ival_abs]
  have lgy : ∀ g, g ≤ Go.Plain.val es → (toDig g).length ≤ k := fun g hg => toDig_len_le (by
    have h1 := val_lt he
    have h2 : (4294967296 : Nat) ^ es.length ≤ 4294967296 ^ k := Nat.pow_le_pow_right (by decide) hl2
    omega)
  by_cases hr0 : Go.Plain.val ds % Go.Plain.val es = 0
  · have eg2 : Nat.gcd (Go.Plain.val ds) (Go.Plain.val es) = Go.Plain.val es := by rw [Nat.gcd_comm, Nat.gcd_rec, hr0, Nat.gcd_zero_left]
    have lg := lgy _ (Nat.le_refl _)
    have mk := make_v false (Go.Plain.val es) (by omega)
    simp only [if_false, Bool.false_eq_true] at mk
    rw [eg, eg2]
    rw [wp_loop]
    simp only [L37_0, tmR, seval, hr0, toDig_zero, dig_nil, unsol_objG, pr_beq, Bool.false_and, Bool.and_false, Bool.true_and, k2, dig_len, wpcall_eq mk, tmF]
  · have hpos2 : ((0 : Int) < ((toDig (Go.Plain.val ds % Go.Plain.val es)).length : Nat)) = True := eq_true (by have := mt toDig_eq_nil.1 hr0; have := List.length_pos_iff.2 this; omega)
    have lr := lgy _ (Nat.le_of_lt (Nat.mod_lt (Go.Plain.val ds) (Nat.pos_of_ne_zero ey)))
    have hdv2 := divD_c (toDig (Go.Plain.val es)) (toDig (Go.Plain.val ds % Go.Plain.val es)) (dig_toDig _) (dig_toDig _) (by omega) (by omega) (by rw [val_toDig]; exact hr0)
    rw [val_toDig, val_toDig] at hdv2
    have lr2 := lgy (Go.Plain.val es % (Go.Plain.val ds % Go.Plain.val es)) (Nat.mod_le _ _)
    rw [wp_loop]
    simp only [L37_0, tmR, seval, dig_len, hpos2, unsol_objG, k2, wpcall_eq hdv2]
    refine loopRGcd k (by omega) _ _ _ lr lr2 ?_ ?_ ?_
    · simp only [tmD, reduceIte, Nat.reduceEqDiff, Nat.reduceAdd]
    · simp only [tmD, reduceIte, Nat.reduceEqDiff, Nat.reduceAdd]
    · intro s h5 hlen h4 ho
      have e : Nat.gcd (Go.Plain.val ds % Go.Plain.val es) (Go.Plain.val es % (Go.Plain.val ds % Go.Plain.val es)) = Nat.gcd (Go.Plain.val ds) (Go.Plain.val es) := by
        rw [Nat.gcd_comm, ← Nat.gcd_rec, ← Nat.gcd_rec, Nat.gcd_comm]
      rw [e] at h5 hlen
      have mk := make_v false (Nat.gcd (Go.Plain.val ds) (Go.Plain.val es)) (by omega)
      simp only [if_false, Bool.false_eq_true] at mk
      rw [eg]
      have h44 := h4 4 (by decide)
      simp only [tmD, reduceIte, Nat.reduceEqDiff, Nat.reduceAdd, unsol_env] at h44
      simp only [tmR, seval, h5, wpcall_eq mk, h44, ho, unsol_objG, pr_beq, Bool.false_and, Bool.and_false, Bool.true_and, tmF]
end Go.TM.Fn
end
section
namespace Go.TM.Fn
open Go Go.TM Go.Plain
set_option linter.unusedVariables false
set_option linter.unusedSimpArgs false
set_option maxRecDepth 20000
def frO (q : Rat) : List TV := if q = 0 then [.bool false, .nils, .bool false, .sl (dig (toDig (Int.natAbs 1)))] else ownI q.num ++ ownI q.den
theorem view_append (us ws : List TV) : view (.agg (us ++ ws)) = .agg (us.map view1 ++ ws.map view1) := by simp [view, viewA]
theorem view_ownL (z : Int) : (ownI z).map view1 = [.bool (decide (z < 0)), .sl (dig (toDig z.natAbs))] := by
  unfold ownI; split
  · rename_i h; subst h; simp [view1, toDig_zero, dig]
  · simp [view1]
theorem view_frO (q : Rat) : view (.agg (frO q)) = encQ q := by
  unfold frO; split
  · rename_i h; subst h; simp [view, viewA, view1, encF, rawQ, toDig_zero, dig]
  · rw [view_append, view_ownL, view_ownL]; rfl
theorem rnew_o {j k v w x y} (hv : IsI j v x) (hw : IsI k w y) (hj : j < 33554432) (hk : k < 33554432) : call mach 17 [v, w] = some (.agg (frO (Rat.divInt x y)), []) := by
  have s1 := rsign_c hv (by omega)
  have s2 := rsign_c hw (by omega)
  have dx := hv.di
  have dy := hw.di
  have o := rfrom_c (n := 1) (by unfold I64; omega)
  simp only [encI, rawI, seval, decide_false] at o
  by_cases hy0 : y = 0
  · obtain ⟨n, ds, rfl, hd, hl, hx⟩ := hv
    obtain ⟨m, es, rfl, he, hl2, hy⟩ := hw
    rw [hy0, Rat.divInt_zero]
    refine givesX tab17 rfl ?_
    simp only [F17, tmR, seval, wpcall_eq s2, sgn_zero, hy0, wpcall_eq o, retX_norm, retX_ret, tmF, frO]
  · by_cases hx0 : x = 0
    · obtain ⟨n, ds, rfl, hd, hl, hx⟩ := hv
      obtain ⟨m, es, rfl, he, hl2, hy⟩ := hw
      rw [hx0, Rat.zero_divInt]
      refine givesX tab17 rfl ?_
      simp only [F17, tmR, seval, wpcall_eq s1, wpcall_eq s2, sgn_zero, hy0, hx0, wpcall_eq o, retX_norm, retX_ret, tmF, frO]
    · have hq0 : Rat.divInt x y ≠ 0 := by
        intro h
        have h2 := Rat.num_divInt x y
        rw [h] at h2
        have h3 := divInt_parts hx0 hy0
        rw [h] at h3
        have hg : (Int.gcd x y : Int) ≠ 0 := by
          have : Int.gcd x y ≠ 0 := by rw [Ne, Int.gcd_eq_zero_iff]; exact fun h => hx0 h.1
          omega
        obtain ⟨a, ha⟩ := Int.gcd_dvd_left x y
        have h4 := h3.1
        by_cases hn : y < 0
        · simp only [hn, if_true] at h4
          rw [Int.fdiv_eq_of_eq_mul_right (c := -a) (by omega) (by rw [Int.neg_mul_neg]; exact ha)] at h4
          have : a = 0 := by simpa using h4
          rw [this] at ha; omega
        · simp only [hn, if_false] at h4
          rw [Int.fdiv_eq_of_eq_mul_right hg ha] at h4
          have : a = 0 := by simpa using h4
          rw [this] at ha; omega
      have hnz : (Rat.divInt x y).num ≠ 0 := by rw [Ne, Rat.num_eq_zero]; exact hq0
      have hdz : ((Rat.divInt x y).den : Int) ≠ 0 := by have := (Rat.divInt x y).den_pos; omega
      have dq := dq_divInt (k := max j k + 1) (by omega) (dx.mono (by omega)) (dy.mono (by omega))
      have co1 := canon_o (decide ((Rat.divInt x y).num < 0)) (toDig (Rat.divInt x y).num.natAbs) (dig_toDig _) (by have := toDig_len_le dq.1; omega)
      have co2 := canon_o (decide (((Rat.divInt x y).den : Int) < 0)) (toDig ((Rat.divInt x y).den : Int).natAbs) (dig_toDig _) (by have := toDig_len_le dq.2; omega)
      rw [ival_enc, ownI_pos hnz] at co1
      rw [ival_enc, ownI_pos hdz] at co2
      have eo : frO (Rat.divInt x y) = [.bool (decide ((Rat.divInt x y).num < 0)), .own 1 (dig (toDig (Rat.divInt x y).num.natAbs)), .bool (decide (((Rat.divInt x y).den : Int) < 0)), .own 1 (dig (toDig ((Rat.divInt x y).den : Int).natAbs))] := by
        unfold frO; rw [if_neg hq0, ownI_pos hnz, ownI_pos hdz]; rfl
      rw [eo]
      have hp : ((19 : Nat), (0 : Nat)) ≠ (19, 1) := by decide
      by_cases hneg : y < 0
      · have n1 := rnegate_c hv (by omega)
        have n2 := rnegate_c hw (by omega)
        have g := rgcd_c (isI_enc dx.neg) (isI_enc dy.neg) (by omega) (by omega) hj hk
        have hg0 : (Int.gcd (-x) (-y) : Int) ≠ 0 := by
          have : Int.gcd (-x) (-y) ≠ 0 := by rw [Ne, Int.gcd_eq_zero_iff]; omega
          omega
        have hgd := di_gcd (y := -y) dx.neg (by omega)
        have q1 := rdivmod_c (isI_enc dx.neg) (isI_enc hgd) hg0 hj (by omega)
        have q2 := rdivmod_c (isI_enc dy.neg) (isI_enc hgd) hg0 hk (by omega)
        have key := divInt_parts (N := -x) (D := -y) (by omega) (by omega)
        rw [if_neg (by omega)] at key
        have e : Rat.divInt (-x) (-y) = Rat.divInt x y := by rw [Rat.divInt_eq_divInt_iff (by omega) hy0, Int.neg_mul, Int.mul_neg]
        rw [e] at key
        rw [key.1] at q1; rw [key.2] at q2
        obtain ⟨n, ds, rfl, hd, hl, hx⟩ := hv
        obtain ⟨m, es, rfl, he, hl2, hy⟩ := hw
        refine givesX tab17 rfl ?_
        simp only [F17, tmR, seval, wpcall_eq s1, wpcall_eq s2, sgn_zero, sgn_neg, hy0, hx0, hneg, wpcall_eq o, wpcall_eq n1, wpcall_eq n2, wpcall_eq g, wpcall_eq q1, wpcall_eq q2,
          wp_call1a (hc := co1), wp_call1a (hc := co2), adopt, apply_new1, dig_len, retX_norm, retX_ret, tmF, pr_beq, Bool.false_and, Bool.and_false, Bool.true_and]
      · have g := rgcd_c hv hw (by omega) (by omega) hj hk
        have hg0 : (Int.gcd x y : Int) ≠ 0 := by
          have : Int.gcd x y ≠ 0 := by rw [Ne, Int.gcd_eq_zero_iff]; omega
          omega
        have hgd := di_gcd (y := y) dx (by omega)
        have q1 := rdivmod_c hv (isI_enc hgd) hg0 hj (by omega)
        have q2 := rdivmod_c hw (isI_enc hgd) hg0 hk (by omega)
        have key := divInt_parts hx0 hy0
        rw [if_neg hneg] at key
        rw [key.1] at q1; rw [key.2] at q2
        obtain ⟨n, ds, rfl, hd, hl, hx⟩ := hv
        obtain ⟨m, es, rfl, he, hl2, hy⟩ := hw
        refine givesX tab17 rfl ?_
        simp only [F17, tmR, seval, wpcall_eq s1, wpcall_eq s2, sgn_zero, sgn_neg, hy0, hx0, hneg, wpcall_eq o, wpcall_eq g, wpcall_eq q1, wpcall_eq q2,
          wp_call1a (hc := co1), wp_call1a (hc := co2), adopt, apply_new1, dig_len, retX_norm, retX_ret, tmF, pr_beq, Bool.false_and, Bool.and_false, Bool.true_and]
theorem rnew_c {j k v w x y} (hv : IsI j v x) (hw : IsI k w y) (hj : j < 33554432) (hk : k < 33554432) : Gives mach 17 [v, w] (encQ (Rat.divInt x y)) := ⟨_, rnew_o hv hw hj hk, view_frO _⟩
theorem rint_c {n : Int} (h : I64 n) : Gives mach 6 [.int .i64 n] (encQ n) := by
  have f1 := rfrom_c h
  have f2 := rfrom_c (n := 1) (by unfold I64; omega)
  have r := rnew_c (isI_enc (di_i64 h)) (isI_enc (k := 1) (z := 1) (by unfold Di; decide)) (by omega) (by omega)
  rw [show Rat.divInt n 1 = (n : Rat) by have := Rat.num_divInt_den (n : Rat); simpa using this] at r
  simp only [encI, rawI, seval, decide_false] at f2 r
  refine gives tab6 rfl ?_
  simp only [F6, tmR, seval, wpcall_eq f1, wpcall_eq f2, wpcall_eq r, tmF]
theorem IsQ.parts {k v q} (h : IsQ k v q) : ∃ n ds m es, v = rawQ n ds m es ∧ IsI k (rawI n ds) (ival n ds) ∧ IsI k (rawI m es) (ival m es) ∧ Rat.divInt (ival n ds) (ival m es) = q := by
  obtain ⟨n, ds, m, es, rfl, hd, he, hl, hl2, hq⟩ := h
  exact ⟨n, ds, m, es, rfl, ⟨n, ds, rfl, hd, hl, rfl⟩, ⟨m, es, rfl, he, hl2, rfl⟩, hq⟩
theorem rcanon_c {k v q} (h : IsQ k v q) (hk : k < 33554432) : Gives mach 33 [v] (encQ q) := by
  obtain ⟨n, ds, m, es, rfl, i1, i2, rfl⟩ := h.parts
  have r := rnew_c i1 i2 (by omega) (by omega)
  refine gives tab33 rfl ?_
  simp only [F33, tmR, seval, wpcall_eq r, tmF]
theorem num_den_ne (q : Rat) : (q.den : Int) ≠ 0 := by have := q.den_pos; omega
theorem rqadd_c {j k v w x y} (hv : IsQ j v x) (hw : IsQ k w y) (hj : j + k < 33554400) (hj0 : 0 < j) (hk0 : 0 < k) : Gives mach 28 [v, w] (encQ (x + y)) := by
  have c1 := rcanon_c hv (by omega)
  have c2 := rcanon_c hw (by omega)
  have d1 := hv.dq hj0
  have d2 := hw.dq hk0
  have m1 := rmul_c (isI_enc d1.1) (isI_enc d2.2) (by omega) (by omega)
  have m2 := rmul_c (isI_enc d2.1) (isI_enc d1.2) (by omega) (by omega)
  have m3 := rmul_c (isI_enc d1.2) (isI_enc d2.2) (by omega) (by omega)
  have e1 := d1.1.mul d2.2
  have e2 := d2.1.mul d1.2
  have e3 := d1.2.mul d2.2
  have s := radd_c (isI_enc e1) (isI_enc e2) (by omega) (by omega)
  have r := rnew_c (isI_enc (e1.add e2)) (isI_enc e3) (by omega) (by omega)
  rw [← Rat.divInt_add_divInt _ _ (num_den_ne x) (num_den_ne y), Rat.num_divInt_den, Rat.num_divInt_den] at r
  obtain ⟨n, ds, m, es, rfl, -⟩ := hv
  obtain ⟨n', ds', m', es', rfl, -⟩ := hw
  refine gives tab28 rfl ?_
  simp only [F28, tmR, seval, wpcall_eq c1, wpcall_eq c2, wpcall_eq m1, wpcall_eq m2, wpcall_eq s, wpcall_eq m3, wpcall_eq r, tmF]
theorem rqneg_c {j v x} (hv : IsQ j v x) (hj : j < 33554400) (hj0 : 0 < j) : Gives mach 16 [v] (encQ (-x)) := by
  obtain ⟨n, ds, m, es, rfl, i1, i2, rfl⟩ := hv.parts
  have n1 := rnegate_c i1 (by omega)
  have r := rnew_c (isI_enc i1.di.neg) i2 (by omega) (by omega)
  rw [← Rat.neg_divInt] at r
  refine gives tab16 rfl ?_
  simp only [F16, tmR, seval, wpcall_eq n1, wpcall_eq r, tmF]
theorem Dq.neg {k x} (h : Dq k x) : Dq k (-x) := ⟨by rw [Rat.neg_num]; exact h.1.neg, by rw [Rat.neg_den]; exact h.2⟩
theorem rqsub_c {j k v w x y} (hv : IsQ j v x) (hw : IsQ k w y) (hj : j + k < 33554400) (hj0 : 0 < j) (hk0 : 0 < k) : Gives mach 27 [v, w] (encQ (x - y)) := by
  have n1 := rqneg_c hw (by omega) hk0
  have a1 := rqadd_c hv (isQ_enc (hw.dq hk0).neg) hj hj0 hk0
  rw [← Rat.sub_eq_add_neg] at a1
  obtain ⟨n, ds, m, es, rfl, -⟩ := hv
  obtain ⟨n', ds', m', es', rfl, -⟩ := hw
  refine gives tab27 rfl ?_
  simp only [F27, tmR, seval, wpcall_eq n1, wpcall_eq a1, tmF]
theorem rqsign_c {j v x} (hv : IsQ j v x) (hj : j < 33554400) (hj0 : 0 < j) : Gives mach 15 [v] (.int .i64 (sgq x)) := by
  have c1 := rcanon_c hv (by omega)
  have s := rsign_c (isI_enc (hv.dq hj0).1) (by omega)
  obtain ⟨n, ds, m, es, rfl, -⟩ := hv
  refine gives tab15 rfl ?_
  simp only [F15, tmR, seval, wpcall_eq c1, wpcall_eq s, tmF, sgq]
theorem dq_add {j k x y} (hx : Dq j x) (hy : Dq k y) : Dq (j + k + 1) (x + y) := by
  have := dq_divInt (k := j + k + 1) (by omega) (((hx.1.mul hy.2).add (hy.1.mul hx.2)).mono (by omega)) ((hx.2.mul hy.2).mono (by omega))
  rwa [← Rat.divInt_add_divInt _ _ (num_den_ne x) (num_den_ne y), Rat.num_divInt_den, Rat.num_divInt_den] at this
theorem dq_mul {j k x y} (hx : Dq j x) (hy : Dq k y) (h : 0 < j + k) : Dq (j + k) (x * y) := by
  have := dq_divInt (k := j + k) h (hx.1.mul hy.1) (hx.2.mul hy.2)
  rwa [← Rat.divInt_mul_divInt, Rat.num_divInt_den, Rat.num_divInt_den] at this
end Go.TM.Fn
end
section
namespace Go.TM
open Go.Plain
variable {M : Mach}
theorem ints_len (k) (xs : List Int) : (ints k xs).length = xs.length := by simp [ints]
theorem ints_get {k} {xs : List Int} {i : Nat} (h : i < xs.length) : (ints k xs)[i]? = some [.int k (xs.getD i 0)] := by
  simp [ints, List.getD_eq_getElem?_getD, List.getElem?_eq_getElem h]
theorem iaddr_ints {k} {xs : List Int} {i : Nat} {kk} (h : i < xs.length) : iaddrTV 1 (.sl (ints k xs)) (.int kk (i : Int)) = some (.rptr [.int k (xs.getD i 0)] 0) := iaddr_sl (ints_get h) rfl
theorem uni_ints (k) (xs : List Int) : uni 1 (ints k xs) = true := by cases xs <;> rfl
def Grows (st : St) (d e : Nat) (v : TV) (xs : Cont) : Prop :=
  (xs = [] ∧ v = .nils) ∨ ∃ g o, v = .hs d g e xs.length ∧ g < st.cnt d ∧ st.obj d g = some o ∧ o.cont = xs ∧ o.box = false ∧ o.esz = e ∧ o.tip = true
theorem Grows.nil (st d e) : Grows st d e .nils [] := .inl ⟨rfl, rfl⟩
theorem Grows.mono {st st' : St} {d e v xs} (h : Grows st d e v xs) (ho : ∀ g, g < st.cnt d → st'.obj d g = st.obj d g) (hc : st'.cnt d = st.cnt d) : Grows st' d e v xs := by
  rcases h with h | ⟨g, o, h1, h2, h3, h4⟩
  · exact .inl h
  · exact .inr ⟨g, o, h1, by rw [hc]; exact h2, by rw [ho g h2]; exact h3, h4⟩
theorem Grows.len {st d e v xs} (h : Grows st d e v xs) : lenTV false v = some (.int .i64 (xs.length : Nat)) := by
  rcases h with ⟨rfl, rfl⟩ | ⟨g, o, rfl, _⟩ <;> rfl
theorem Grows.tree {st d e v xs} (h : Grows st d e v xs) : tree1 st.obj v = some (.sl xs) := by
  rcases h with ⟨rfl, rfl⟩ | ⟨g, o, rfl, _, h3, rfl, h4, h5, _⟩
  · rfl
  · simp [tree1, h3, h4, h5]
theorem Grows.elems {st d e v xs} (h : Grows st d e v xs) : elems st.obj e v = some xs := by
  rcases h with ⟨rfl, rfl⟩ | ⟨g, o, rfl, _, h3, rfl, h4, h5, _⟩
  · rfl
  · simp [Go.TM.elems, h3, h4, h5]
theorem wp_grow (d : Nat) (vk : Vk) (r : List TStep) (Q : St → Prop) (st : St) (e s x) {xs zs} (hs : Grows st d e (Go.TM.val st.env s) xs) (hv : ∀ g, restrict st.obj vk d g = st.obj d g) (hx : Go.TM.elems (restrict st.obj vk) e (Go.TM.val st.env x) = some zs) (hz : zs ≠ []) (hl : xs.length + zs.length < 2147483648)
    (hQ : ∀ st' v, (∀ i, st'.env i = if i = d then v else st.env i) → (∀ k g, k ≠ d → st'.obj k g = st.obj k g) → (∀ k, k ≠ d → st'.cnt k = st.cnt k) → Grows st' d e v (xs ++ zs) → Wp M r Q st') :
    Wp M (⟨some d, .app e false s x, none, vk⟩ :: r) Q st := by
  rw [wp_app]
  rcases hs with ⟨rfl, hs⟩ | ⟨g, o, hs, hg, ho, rfl, hb, he, ht⟩
  · rw [hs, app_nils hx hz (by simpa using hl), wpeff_some, apply_new1]
    refine hQ _ (.hs d (st.cnt d) e zs.length) (fun i => rfl) (fun k g hk => ?_) (fun k hk => ?_) (.inr ⟨st.cnt d, { cont := zs, esz := e, box := false, solo := true, tip := true }, rfl, ?_, ?_, rfl, rfl, rfl, rfl⟩)
    · simp only [bump_obj, putO_obj]; rw [if_neg (by simp [hk])]
    · simp only [bump_cnt, putO_cnt]; rw [if_neg hk]
    · simp only [bump_cnt]; simp
    · simp only [bump_obj, putO_obj]; simp
  · rw [hs]
    have ha : appE d (st.cnt d) (restrict st.obj vk) e false (.hs d g e o.cont.length) (Go.TM.val st.env x) = some { v := .hs d (st.cnt d) e (o.cont.length + zs.length), new := [{ cont := o.cont ++ zs, esz := e, box := false, solo := false, tip := true }], mods := [(d, g, some { o with solo := false, tip := false })] } := by
      simp only [appE, hx, hv, ho]
      rw [if_pos (by simp [hb, he, ht, hl])]
      simp
    rw [ha, wpeff_some]
    refine hQ _ (.hs d (st.cnt d) e (o.cont.length + zs.length)) (fun i => rfl) (fun k g' hk => ?_) (fun k hk => ?_) (.inr ⟨st.cnt d, { cont := o.cont ++ zs, esz := e, box := false, solo := false, tip := true }, by rw [List.length_append], ?_, ?_, rfl, rfl, rfl, rfl⟩)
    · simp only [apply, addNew, List.foldl_cons, List.foldl_nil, updO]; rw [if_neg (by simp [hk]), if_neg (by simp [hk])]
    · simp only [apply, upd]; rw [if_neg hk]
    · simp only [apply, upd]; simp
    · simp only [apply, addNew, List.foldl_cons, List.foldl_nil, updO]; simp
end Go.TM
namespace Go.TM.Fn
open Go Go.TM Go.Plain
set_option linter.unusedVariables false
set_option linter.unusedSimpArgs false
set_option maxRecDepth 20000
theorem mem_getD {xs : List Int} {x : Int} : x ∈ xs ↔ ∃ i, i < xs.length ∧ xs.getD i 0 = x := by
  rw [List.mem_iff_getElem]
  constructor
  · rintro ⟨i, h, e⟩; exact ⟨i, h, by rw [List.getD_eq_getElem?_getD, List.getElem?_eq_getElem h]; exact e⟩
  · rintro ⟨i, h, e⟩; exact ⟨i, h, by rw [List.getD_eq_getElem?_getD, List.getElem?_eq_getElem h] at e; exact e⟩
theorem take_succ_getD {xs : List Int} {i : Nat} (h : i < xs.length) : xs.take (i + 1) = xs.take i ++ [xs.getD i 0] := by
  rw [List.take_add_one, List.getD_eq_getElem?_getD, List.getElem?_eq_getElem h]; rfl
def Asc (xs : List Int) : Prop := ∀ i, i + 1 < xs.length → xs.getD i 0 < xs.getD (i + 1) 0
instance (xs : List Int) : Decidable (Asc xs) := decidable_of_iff (∀ i, i < xs.length → i + 1 < xs.length → xs.getD i 0 < xs.getD (i + 1) 0) ⟨fun h i hi => h i (by omega) hi, fun h i _ hi => h i hi⟩
end Go.TM.Fn
end
section
namespace Go.TM.Fn
open Go Go.TM Go.Plain
set_option linter.unusedVariables false
set_option linter.unusedSimpArgs false
set_option maxRecDepth 20000
theorem end_grows {t : Nat} {args : List TV} {st : St} {d e : Nat} {xs : Cont} (ha : hasOwn args = false) (hm : mutsOf st 0 args = some []) (hg : Grows st d e (st.env t) xs) : ∃ rv, finishR [.tmp t] args st = some (rv, []) ∧ view rv = .sl xs := by
  rcases hg with ⟨rfl, hv⟩ | ⟨g, o, hv, _, ho, rfl, hb, he, ht⟩
  · exact ⟨.nils, by simp [finishR, resVals, resVal, hm, ha, hv, hands, TV.cells, hand1, once, out, out1], rfl⟩
  · cases hs : o.solo
    · exact ⟨.sl o.cont, by simp [finishR, resVals, resVal, hm, ha, hv, hands, TV.cells, hand1, once, out, out1, ho, hb, he, hs], rfl⟩
    · exact ⟨.own e o.cont, by simp [finishR, resVals, resVal, hm, ha, hv, hands, TV.cells, hand1, once, out, out1, ho, hb, he, hs, ht], rfl⟩
abbrev Task := Int × Bool
def taskC (t : Task) : List TV := [.int .i64 t.1, .bool t.2]
def dutyC (d : List Task) : List TV := [.sl (d.map taskC)]
def dutiesC (ds : List (List Task)) : Cont := ds.map dutyC
def operD (d : List Task) : List Int := (d.filter fun t => !t.2).map (·.1)
def oper (ds : List (List Task)) : List Int := ds.flatMap operD
theorem iaddr_map {α : Type} {C : α → List TV} (dflt : α) {xs : List α} {e i : Nat} {kk} (he : ∀ x, (C x).length = e) (h : i < xs.length) : iaddrTV e (.sl (xs.map C)) (.int kk (i : Int)) = some (.rptr (C (xs.getD i dflt)) 0) := by
  refine iaddr_sl (cs := C (xs.getD i dflt)) ?_ (he _)
  simp [List.getD_eq_getElem?_getD, List.getElem?_eq_getElem h]
theorem map_len {α : Type} {C : α → List TV} (xs : List α) : (xs.map C).length = xs.length := by simp
theorem gtake_succ {α : Type} (dflt : α) {xs : List α} {i : Nat} (h : i < xs.length) : xs.take (i + 1) = xs.take i ++ [xs.getD i dflt] := by
  rw [List.take_add_one, List.getD_eq_getElem?_getD, List.getElem?_eq_getElem h]; rfl
theorem ints_app (k) (xs ys : List Int) : ints k (xs ++ ys) = ints k xs ++ ints k ys := by simp [ints]
theorem operD_app (a b : List Task) : operD (a ++ b) = operD a ++ operD b := by simp [operD]
theorem oper_app (a b : List (List Task)) : oper (a ++ b) = oper a ++ oper b := by simp [oper]
theorem oper_one (d : List Task) : oper [d] = operD d := by simp [oper]
theorem operD_len_take (d : List Task) (j : Nat) : (operD (d.take j)).length ≤ (operD d).length := by
  conv => rhs; rw [← List.take_append_drop j d, operD_app, List.length_append]
  omega
theorem oper_len_take (ds : List (List Task)) {i : Nat} (h : i < ds.length) (j : Nat) : (oper (ds.take i)).length + (operD ((ds.getD i []).take j)).length ≤ (oper ds).length := by
  have h1 := gtake_succ [] h
  have h2 : (oper (ds.take (i + 1))).length ≤ (oper ds).length := by
    conv => rhs; rw [← List.take_append_drop (i + 1) ds, oper_app, List.length_append]
    omega
  rw [h1, oper_app, oper_one, List.length_append] at h2
  have := operD_len_take (ds.getD i []) j
  omega
theorem uni_map {α : Type} {C : α → List TV} {e : Nat} (he : ∀ x, (C x).length = e) (xs : List α) : uni e (xs.map C) = true := by
  cases xs with
  | nil => rfl
  | cons x xs => simp [uni, he]
abbrev pairC (b : ByteArray) (ds : List (List Task)) : TV := .agg [.str b, .sl (dutiesC ds)]
abbrev BoxP (s : St) (b : ByteArray) (ds : List (List Task)) : Prop := s.obj 1 0 = some { cont := [[.str b, .sl (dutiesC ds)]], esz := 2, box := true, solo := true, tip := false }
theorem poper_in {Q : Ex → St → Prop} {st : St} (b : ByteArray) (ds : List (List Task)) (i : Nat) (hi : i < ds.length) (hl : (oper ds).length < 2147483648) (hl2 : (ds.getD i []).length < 2147483648)
    (h15 : st.env 15 = .sl ((ds.getD i []).map taskC)) (h16 : st.env 16 = .int .i64 ((ds.getD i []).length : Nat)) (h17 : st.env 17 = .int .i64 0) (hg : Grows st 28 1 (st.env 3) (ints .i64 (oper (ds.take i))))
    (hQ : ∀ s, Keep [9, 10, 11] s st → Grows s 28 1 (s.env 3) (ints .i64 (oper (ds.take (i + 1)))) → Q (.exit 2) s) : Goes mach (.loop L75_1) Q st := by
  obtain ⟨d, hd⟩ : ∃ d, d = ds.getD i [] := ⟨_, rfl⟩
  rw [← hd] at hl2 h15 h16
  refine wp_for (fun j s => s.env 15 = .sl (d.map taskC) ∧ s.env 16 = .int .i64 (d.length : Nat) ∧ s.env 17 = .int .i64 (j : Nat) ∧ Keep [9, 10, 11] s st ∧ Grows s 28 1 (s.env 3) (ints .i64 (oper (ds.take i) ++ operD (d.take j)))) d.length ?_ ?_ d.length 0 _ (by omega) ?_
  · rintro j s hj ⟨h15, h16, h17, hkeep, hg⟩
    have hw : IntKind.i64.wrap ((j + 1 : Nat) : Int) = (j + 1 : Nat) := wrap_i64n (by omega)
    have hlen := oper_len_take ds hi (j + 1)
    rw [← hd] at hlen
    have hstep := gtake_succ ((0, false) : Task) hj
    rw [hstep, operD_app, List.length_append] at hlen
    rw [hstep, operD_app, ← List.append_assoc]
    have hb2 : iaddrTV 2 (.sl (d.map taskC)) (.int .i64 (j : Int)) = some (.rptr (taskC (d.getD j (0, false))) 0) := iaddr_map (C := taskC) (0, false) (fun _ => rfl) hj
    cases hh : (d.getD j (0, false)).2
    · have e : operD [d.getD j (0, false)] = [(d.getD j (0, false)).1] := by simp only [operD, List.filter_cons, hh]; rfl
      rw [e] at hlen ⊢
      simp only [L75_1, tmR, seval, h15, h16, h17, nat_lt, hj, hb2, taskC, hh, Bool.not_false]
      refine wp_grow (xs := ints .i64 (oper (ds.take i) ++ operD (d.take j))) (zs := ints .i64 [(d.getD j (0, false)).1]) 28 .full _ _ _ _ _ _ ?_ (fun g => rfl) ?_ (by simp [ints]) (by simp [ints] at hlen ⊢; omega) ?_
      · simp only [tmR, seval]
        exact hg.mono (fun g _ => by simp only [tmD, reduceIte, Nat.reduceEqDiff, Nat.reduceAdd]) (by simp only [tmD, reduceIte, Nat.reduceEqDiff, Nat.reduceAdd])
      · simp only [tmR, seval, elems]; rfl
      · intro st' v henv hobj hcnt hg'
        simp only [tmR, seval, henv, h15, h16, h17, nat_add_one, hw]
        refine ⟨?_, ?_⟩
        · intro k hk
          have := hkeep k hk
          simp only [List.mem_cons, List.not_mem_nil, or_false] at hk
          rcases hk with rfl | rfl | rfl <;> simp only [tmD, reduceIte, Nat.reduceEqDiff, Nat.reduceAdd, henv, this]
        · rw [ints_app]
          exact hg'.mono (fun g _ => by simp only [tmD, reduceIte, Nat.reduceEqDiff, Nat.reduceAdd]) (by simp only [tmD, reduceIte, Nat.reduceEqDiff, Nat.reduceAdd])
    · have e : operD [d.getD j (0, false)] = [] := by simp only [operD, List.filter_cons, hh]; rfl
      rw [e, List.append_nil]
      simp only [L75_1, tmR, seval, h15, h16, h17, nat_lt, hj, hb2, taskC, hh, Bool.not_true, nat_add_one, hw]
      refine ⟨?_, hg.mono (fun g _ => by simp only [tmD, reduceIte, Nat.reduceEqDiff, Nat.reduceAdd]) (by simp only [tmD, reduceIte, Nat.reduceEqDiff, Nat.reduceAdd])⟩
      repeat' (first | exact hkeep | (apply keep_put (hd := by decide)) | apply keep_setO | apply keep_bump | (apply keep_putO (hd := by decide)) | apply keep_unsol)
  · rintro s ⟨h15, h16, h17, hkeep, hg⟩
    simp only [L75_1, tmR, seval, h15, h16, h17, Int.lt_irrefl]
    refine hQ _ ?_ ?_
    · repeat' (first | exact hkeep | (apply keep_put (hd := by decide)) | apply keep_setO | apply keep_bump | (apply keep_putO (hd := by decide)) | apply keep_unsol)
    · rw [gtake_succ [] hi, oper_app, oper_one, ← hd]
      rw [List.take_length] at hg
      exact hg.mono (fun g _ => by simp only [tmD, reduceIte, Nat.reduceEqDiff, Nat.reduceAdd]) (by simp only [tmD, reduceIte, Nat.reduceEqDiff, Nat.reduceAdd])
  · refine ⟨h15, h16, h17, Keep.refl _ _, ?_⟩
    simpa [operD] using hg
theorem poper_c (b : ByteArray) (ds : List (List Task)) (hl : (oper ds).length < 2147483648) (hl1 : ds.length < 2147483648) (hl2 : ∀ d ∈ ds, d.length < 2147483648) : Gives mach 75 [pairC b ds] (.sl (ints .i64 (oper ds))) := by
  have hdl : (dutiesC ds).length = ds.length := map_len ds
  refine gives tab75 rfl ?_
  simp only [F75, tmR, seval, hdl]
  refine wp_for (fun i s => s.env 9 = .sl (dutiesC ds) ∧ s.env 10 = .int .i64 (ds.length : Nat) ∧ s.env 11 = .int .i64 (i : Nat) ∧ Grows s 28 1 (s.env 3) (ints .i64 (oper (ds.take i)))) ds.length ?_ ?_ ds.length 0 _ (by omega) ?_
  · rintro i s hi ⟨h9, h10, h11, hg⟩
    have hw : IntKind.i64.wrap ((i + 1 : Nat) : Int) = (i + 1 : Nat) := wrap_i64n (by omega)
    have ha : iaddrTV 1 (.sl (dutiesC ds)) (.int .i64 (i : Int)) = some (.rptr (dutyC (ds.getD i [])) 0) := iaddr_map (C := dutyC) [] (fun _ => rfl) hi
    simp only [L75_0, tmR, seval, h9, h10, h11, nat_lt, hi, ha, dutyC, map_len]
    refine poper_in b ds i hi hl (hl2 _ (by rw [List.getD_eq_getElem?_getD, List.getElem?_eq_getElem hi]; exact List.getElem_mem hi)) ?_ ?_ ?_ ?_ ?_
    · simp only [tmD, reduceIte, Nat.reduceEqDiff, Nat.reduceAdd]
    · simp only [tmD, reduceIte, Nat.reduceEqDiff, Nat.reduceAdd]
    · simp only [tmD, reduceIte, Nat.reduceEqDiff, Nat.reduceAdd]
    · simp only [tmD, reduceIte, Nat.reduceEqDiff, Nat.reduceAdd]
      exact hg.mono (fun g _ => by simp only [tmD, reduceIte, Nat.reduceEqDiff, Nat.reduceAdd]) (by simp only [tmD, reduceIte, Nat.reduceEqDiff, Nat.reduceAdd])
    · intro s' hkeep hg'
      have k9 := hkeep 9 (by decide)
      have k10 := hkeep 10 (by decide)
      have k11 := hkeep 11 (by decide)
      simp only [tmD, reduceIte, Nat.reduceEqDiff, Nat.reduceAdd, h9, h10, h11] at k9 k10 k11
      simp only [tmR, seval, k9, k10, k11, nat_add_one, hw]
      exact hg'.mono (fun g _ => by simp only [tmD, reduceIte, Nat.reduceEqDiff, Nat.reduceAdd]) (by simp only [tmD, reduceIte, Nat.reduceEqDiff, Nat.reduceAdd])
  · rintro s ⟨h9, h10, h11, hg⟩
    rw [List.take_length] at hg
    simp only [L75_0, tmR, seval, h9, h10, h11, Int.lt_irrefl]
    refine end_grows (d := 28) (e := 1) rfl rfl ?_
    simp only [tmD, reduceIte, Nat.reduceEqDiff, Nat.reduceAdd]
    exact hg.mono (fun g _ => by simp only [tmD, reduceIte, Nat.reduceEqDiff, Nat.reduceAdd]) (by simp only [tmD, reduceIte, Nat.reduceEqDiff, Nat.reduceAdd])
  · simp only [tmD, reduceIte, Nat.reduceEqDiff, Nat.reduceAdd]
    exact ⟨rfl, Or.inl ⟨by simp [oper, ints], rfl⟩⟩
end Go.TM.Fn
end
section
namespace Go.TM.Fn
open Go Go.TM Go.Plain
set_option linter.unusedVariables false
set_option linter.unusedSimpArgs false
set_option maxRecDepth 20000
set_option maxHeartbeats 4000000
theorem ints_set (k) (xs : List Int) (i : Nat) (z : Int) : (ints k xs).set i [.int k z] = ints k (xs.set i z) := by simp [ints, List.map_set]
theorem ints_rep (n : Nat) : List.replicate n [TV.int .i64 0] = ints .i64 (List.replicate n 0) := by simp [ints]
theorem iset_ne {xs : List Int} {i m : Nat} {d : Int} (h : i ≠ m) : (xs.set i d).getD m 0 = xs.getD m 0 := by
  rw [List.getD_eq_getElem?_getD, List.getElem?_set_ne h, ← List.getD_eq_getElem?_getD]
theorem iset_eq {xs : List Int} {i : Nat} {d : Int} (h : i < xs.length) : (xs.set i d).getD i 0 = d := by
  rw [List.getD_eq_getElem?_getD, List.getElem?_set_self h, Option.getD_some]
abbrev RowI (st : St) (k g : Nat) (os : List Int) : Prop := st.obj k g = some { cont := ints .i64 os, esz := 1, box := false, solo := true, tip := true }
def RowsTo (R : List Int) (n : Nat) (rows : List Int) (i : Nat) : Prop := R.length = n ∧ ∀ f, f < n → (R.getD f 0 = -1 ∧ ∀ j, j < i → rows.getD j 0 ≠ f) ∨ ∃ j, j < i ∧ R.getD f 0 = (j : Nat) ∧ rows.getD j 0 = (f : Nat)
theorem newRows_c (n : Nat) (rows : List Int) (hn : n < 2147483648) (hl : rows.length < 2147483648) (hr : ∀ i, i < rows.length → 0 ≤ rows.getD i 0 ∧ rows.getD i 0 < n) :
    ∃ R, RowsTo R n rows rows.length ∧ Gives mach 74 [.int .i64 (n : Nat), .sl (ints .i64 rows)] (.agg [.sl (ints .i64 R)]) := by
  suffices h : ∃ v, (∃ R, v = .agg [.sl (ints .i64 R)] ∧ RowsTo R n rows rows.length) ∧ Gives mach 74 [.int .i64 (n : Nat), .sl (ints .i64 rows)] v by
    obtain ⟨_, ⟨R, rfl, h1⟩, h2⟩ := h
    exact ⟨R, h1, h2⟩
  refine givesE tab74 rfl ?_
  simp only [F74, tmR, seval]
  refine ⟨hn, ?_⟩
  refine wp_for (fun i s => s.env 14 = .int .i64 (n : Nat) ∧ s.env 15 = .int .i64 (i : Nat) ∧ s.env 1 = .sl (ints .i64 rows) ∧ s.env 5 = .ptr 5 0 0 0 ∧ s.env 4 = .ptr 4 0 0 0 ∧ (∃ c, s.obj 4 0 = some { cont := [[c]], esz := 1, box := true, solo := true, tip := false }) ∧ s.obj 5 0 = some { cont := [[.hs 10 0 1 n]], esz := 1, box := true, solo := true, tip := false } ∧
    ∃ os, RowI s 10 0 os ∧ os.length = n ∧ ∀ f, f < i → os.getD f 0 = -1) n ?_ ?_ n 0 _ (by omega) ?_
  · rintro i s hi ⟨h14, h15, h1, h5, h4, ⟨c, h40⟩, ho5, os, ho, hol, hos⟩
    have hw : IntKind.i64.wrap ((i + 1 : Nat) : Int) = (i + 1 : Nat) := wrap_i64n (by omega)
    have hio : i < os.length := by omega
    simp only [L74_0, tmR, seval, h14, h15, h1, h5, h4, nat_lt, hi, ho5, iaddr_hs hi, ho, ints_get hio, ints_set, nat_add_one, hw, h40, RowI]
    refine ⟨⟨c, rfl⟩, _, rfl, by simp [hol], fun f hf => ?_⟩
    by_cases h : f = i
    · subst h; exact iset_eq hio
    · rw [iset_ne (by omega)]; exact hos f (by omega)
  · rintro s ⟨h14, h15, h1, h5, h4, ⟨c, h40⟩, ho5, os, ho, hol, hos⟩
    simp only [L74_0, tmR, seval, h14, h15, Int.lt_irrefl, h1, ints_len]
    refine wp_for (fun i s => s.env 23 = .sl (ints .i64 rows) ∧ s.env 24 = .int .i64 (rows.length : Nat) ∧ s.env 25 = .int .i64 (i : Nat) ∧ s.env 5 = .ptr 5 0 0 0 ∧ s.env 4 = .ptr 4 0 0 0 ∧ (∃ c, s.obj 4 0 = some { cont := [[c]], esz := 1, box := true, solo := true, tip := false }) ∧ s.obj 5 0 = some { cont := [[.hs 10 0 1 n]], esz := 1, box := true, solo := true, tip := false } ∧
      ∃ os, RowI s 10 0 os ∧ RowsTo os n rows i) rows.length ?_ ?_ rows.length 0 _ (by omega) ?_
    · rintro i s hi ⟨h23, h24, h25, h5, h4, ⟨c, h40⟩, ho5, os, ho, hos⟩
      have hw : IntKind.i64.wrap ((i + 1 : Nat) : Int) = (i + 1 : Nat) := wrap_i64n (by omega)
      obtain ⟨hr1, hr2⟩ := hr i hi
      obtain ⟨f, hf⟩ : ∃ f : Nat, rows.getD i 0 = f := ⟨(rows.getD i 0).toNat, by omega⟩
      have hfn : f < n := by omega
      have hfo : f < os.length := by rw [hos.1]; exact hfn
      simp only [L74_1, tmR, seval, h23, h24, h25, h5, h4, nat_lt, hi, iaddr_ints hi, hf, ho5, iaddr_hs hfn, ho, ints_get hfo, ints_set, nat_add_one, hw, h40, RowI]
      refine ⟨⟨c, rfl⟩, _, rfl, by simp [hos.1], fun g hg => ?_⟩
      by_cases h : g = f
      · subst h; exact .inr ⟨i, by omega, by rw [iset_eq hfo], hf⟩
      · rw [iset_ne (by omega)]
        rcases hos.2 g hg with ⟨h1, h2⟩ | ⟨j, h1, h2, h3⟩
        · refine .inl ⟨h1, fun j hj => ?_⟩
          by_cases hji : j = i
          · subst hji; rw [hf]; omega
          · exact h2 j (by omega)
        · exact .inr ⟨j, by omega, h2, h3⟩
    · rintro s ⟨h23, h24, h25, h5, h4, ⟨c, h40⟩, ho5, os, ho, hos⟩
      have hol : os.length = n := hos.1
      simp only [L74_1, tmR, seval, h23, h24, h25, h4, h5, Int.lt_irrefl, ho5, h40, tmF, ho, ints_len, hol]
      exact ⟨os, rfl, hos⟩
    · simp only [tmD, reduceIte, Nat.reduceEqDiff, Nat.reduceAdd, h5, h4, h40, ho5]
      refine ⟨rfl, ⟨c, rfl⟩, os, ?_, hol, fun f hf => .inl ⟨hos f hf, fun j hj => by omega⟩⟩
      simp only [RowI, tmD, reduceIte, Nat.reduceEqDiff, Nat.reduceAdd, ho]
  · simp only [tmD, reduceIte, Nat.reduceEqDiff, Nat.reduceAdd, ints_rep]
    refine ⟨rfl, ⟨_, rfl⟩, List.replicate n 0, ?_, by simp, fun f hf => by omega⟩
    simp only [RowI, tmD, reduceIte, Nat.reduceEqDiff, Nat.reduceAdd]
def rowOf (R : List Int) (f : Int) : Int := if f < 0 ∨ (R.length : Int) ≤ f then -1 else R.getD f.toNat 0
theorem row_c (R : List Int) (f : Int) : Gives mach 76 [.agg [.sl (ints .i64 R)], .int .i64 f] (.int .i64 (rowOf R f)) := by
  refine gives tab76 rfl ?_
  unfold rowOf
  by_cases h1 : f < 0
  · simp only [F76, tmR, seval, h1, tmF, true_or]
  · by_cases h2 : (R.length : Int) ≤ f
    · simp only [F76, tmR, seval, h1, ints_len, h2, tmF, or_true]
    · obtain ⟨n, hn⟩ : ∃ n : Nat, f = n := ⟨f.toNat, by omega⟩
      subst hn
      have hlt : n < R.length := by omega
      simp only [F76, tmR, seval, h1, ints_len, h2, iaddr_ints hlt, tmF, or_self, Int.toNat_natCast]
theorem rowOf_nonneg {R : List Int} {n : Nat} {rows : List Int} (h : RowsTo R n rows rows.length) (hr : ∀ i, i < rows.length → 0 ≤ rows.getD i 0 ∧ rows.getD i 0 < n) (f : Int) : rowOf R f < 0 ↔ ¬ f ∈ rows := by
  unfold rowOf
  rw [h.1]
  split
  · rename_i hf
    constructor
    · intro _ hm
      obtain ⟨i, hi, rfl⟩ := mem_getD.1 hm
      have := hr i hi; omega
    · intro _; decide
  · rename_i hf
    obtain ⟨g, rfl⟩ : ∃ g : Nat, f = g := ⟨f.toNat, by omega⟩
    rw [Int.toNat_natCast]
    rcases h.2 g (by omega) with ⟨h1, h2⟩ | ⟨j, h1, h2, h3⟩
    · rw [h1]
      exact ⟨fun _ hm => (by obtain ⟨i, hi, e⟩ := mem_getD.1 hm; exact h2 i hi e), fun _ => by decide⟩
    · rw [h2]
      exact ⟨fun h => by omega, fun hm => absurd (mem_getD.2 ⟨j, h1, h3⟩) hm⟩
def CutOk (rows rs : List Int) (div : Int) : Prop := Asc rs ∧ (∀ x ∈ rs, x ∈ rows) ∧ 2 ≤ div ∧ div ≤ rs.length
instance (rows rs div) : Decidable (CutOk rows rs div) := by unfold CutOk; infer_instance
abbrev cutT (rs : List Int) (div : Int) : TV := .agg [.sl (ints .i64 rs), .int .i64 div]
theorem fits_c {R : List Int} {n : Nat} {rows rs : List Int} {div : Int} (h : RowsTo R n rows rows.length) (hr : ∀ i, i < rows.length → 0 ≤ rows.getD i 0 ∧ rows.getD i 0 < n) (hl : rs.length < 2147483648) :
    Gives mach 77 [.agg [.sl (ints .i64 R)], cutT rs div] (.bool (decide (CutOk rows rs div))) := by
  refine gives tab77 rfl ?_
  simp only [F77, tmR, seval, ints_len]
  refine wp_for (fun i s => s.env 8 = .sl (ints .i64 rs) ∧ s.env 9 = .int .i64 (rs.length : Nat) ∧ s.env 10 = .int .i64 (i : Nat) ∧ s.env 2 = .ptr 2 0 0 0 ∧ s.env 3 = .ptr 3 0 0 0 ∧ s.obj 2 0 = some { cont := [[.sl (ints .i64 R)]], esz := 1, box := true, solo := true, tip := false } ∧ s.obj 3 0 = some { cont := [[.sl (ints .i64 rs), .int .i64 div]], esz := 2, box := true, solo := true, tip := false } ∧
    ∀ j, j < i → rs.getD j 0 ∈ rows ∧ (0 < j → rs.getD (j - 1) 0 < rs.getD j 0)) rs.length ?_ ?_ rs.length 0 _ (by omega) ?_
  · rintro i s hi ⟨h8, h9, h10, h2, h3, ho2, ho3, hok⟩
    have hw : IntKind.i64.wrap ((i + 1 : Nat) : Int) = (i + 1 : Nat) := wrap_i64n (by omega)
    have hrow := row_c R (rs.getD i 0)
    by_cases hm : rs.getD i 0 ∈ rows
    · have hneg : (rowOf R (rs.getD i 0) < 0) = False := eq_false (by rw [rowOf_nonneg h hr]; exact not_not_intro hm)
      cases i with
      | zero =>
        have hi0 : 0 < rs.length := hi
        have e0 := iaddr_ints (k := .i64) (xs := rs) (kk := .i64) (i := 0) hi0
        simp only [cast0] at e0 h10
        have hw0 : IntKind.i64.wrap 1 = ((1 : Nat) : Int) := by decide
        simp only [L77_0, tmR, seval, h8, h9, h10, h2, h3, ho2, ho3, nat_lt0, hi0, e0, wpcall_eq hrow, hneg, Int.lt_irrefl, hw0]
        intro j hj
        have : j = 0 := by omega
        subst this
        exact ⟨hm, fun h => by omega⟩
      | succ i =>
        have hp : ((0 : Int) < ((i + 1 : Nat) : Int)) = True := eq_true (by omega)
        have hw2 : IntKind.i64.wrap ((i : Nat) : Int) = (i : Nat) := wrap_i64n (by omega)
        have hi' : i < rs.length := by omega
        by_cases hle : rs.getD (i + 1) 0 ≤ rs.getD i 0
        · have hno : ¬ CutOk rows rs div := fun hc => by have := hc.1 i hi; omega
          simp only [L77_0, tmR, seval, h8, h9, h10, h2, h3, ho2, ho3, nat_lt, hi, iaddr_ints hi, wpcall_eq hrow, hneg, hp, nat_succ_sub, hw2, iaddr_ints hi', hle, tmF, decide_eq_false hno]
        · simp only [L77_0, tmR, seval, h8, h9, h10, h2, h3, ho2, ho3, nat_lt, hi, iaddr_ints hi, wpcall_eq hrow, hneg, hp, nat_succ_sub, hw2, iaddr_ints hi', hle, nat_add_one, hw]
          intro j hj
          by_cases hji : j = i + 1
          · subst hji; exact ⟨hm, fun _ => by rw [Nat.add_sub_cancel]; omega⟩
          · exact hok j (by omega)
    · have hneg : (rowOf R (rs.getD i 0) < 0) = True := eq_true ((rowOf_nonneg h hr _).2 hm)
      have hno : ¬ CutOk rows rs div := fun hc => hm (hc.2.1 _ (mem_getD.2 ⟨i, hi, rfl⟩))
      simp only [L77_0, tmR, seval, h8, h9, h10, h2, h3, ho2, ho3, nat_lt, hi, iaddr_ints hi, wpcall_eq hrow, hneg, tmF, decide_eq_false hno]
  · rintro s ⟨h8, h9, h10, h2, h3, ho2, ho3, hok⟩
    have hA : Asc rs := fun i hi => by have := (hok (i + 1) hi).2 (by omega); rwa [Nat.add_sub_cancel] at this
    have hW : ∀ x ∈ rs, x ∈ rows := fun x hx => by obtain ⟨i, hi, rfl⟩ := mem_getD.1 hx; exact (hok i hi).1
    by_cases hd : 2 ≤ div
    · by_cases hd2 : div ≤ (rs.length : Int)
      · simp only [L77_0, tmR, seval, h8, h9, h10, h3, ho3, Int.lt_irrefl, hd, ints_len, hd2, tmF, decide_eq_true (show CutOk rows rs div from ⟨hA, hW, hd, hd2⟩)]
      · simp only [L77_0, tmR, seval, h8, h9, h10, h3, ho3, Int.lt_irrefl, hd, ints_len, hd2, tmF, decide_eq_false (show ¬ CutOk rows rs div from fun h => hd2 h.2.2.2)]
    · simp only [L77_0, tmR, seval, h8, h9, h10, h3, ho3, Int.lt_irrefl, hd, tmF, decide_eq_false (show ¬ CutOk rows rs div from fun h => hd h.2.2.1)]
  · simp only [tmD, reduceIte, Nat.reduceEqDiff, Nat.reduceAdd]
    exact ⟨rfl, fun j hj => by omega⟩
end Go.TM.Fn
end
section
namespace Go.TM.Fn
open Go Go.TM Go.Plain
set_option linter.unusedVariables false
set_option linter.unusedSimpArgs false
set_option maxRecDepth 20000
set_option maxHeartbeats 4000000
structure Col where
  b : ByteArray
  ds : List (List Task)
  cost : Int
structure Cu where
  rs : List Int
  div : Int
structure Mas where
  fl : Int
  rows : List Int
  pen : Int
  cols : List Col
  cuts : List Cu
def colC (c : Col) : List TV := [.str c.b, .sl (dutiesC c.ds), .int .i64 c.cost]
def cutC (c : Cu) : List TV := [.sl (ints .i64 c.rs), .int .i64 c.div]
abbrev masL (m : Mas) : List TV := [.int .i64 m.fl, .sl (ints .i64 m.rows), .int .i64 m.pen, .sl (m.cols.map colC), .sl (m.cuts.map cutC)]
abbrev masT (m : Mas) : TV := .agg (masL m)
instance : Inhabited Col := ⟨⟨⟨#[]⟩, [], 0⟩⟩
instance : Inhabited Cu := ⟨⟨[], 0⟩⟩
def RowsOk (m : Mas) : Prop := Asc m.rows ∧ ∀ x ∈ m.rows, 0 ≤ x ∧ x < m.fl
instance (m) : Decidable (RowsOk m) := by unfold RowsOk; infer_instance
def ListOk (rows l : List Int) : Prop := (∀ x ∈ l, x ∈ rows) ∧ l.Nodup
instance (rows l) : Decidable (ListOk rows l) := by unfold ListOk; infer_instance
def colErr (rows : List Int) (c : Col) : Option Int :=
  if c.cost < -1125899906842624 ∨ 1125899906842624 < c.cost then some 5
  else if oper c.ds = [] ∨ ¬ ListOk rows (oper c.ds) then some 12 else none
def cutErr (rows : List Int) (c : Cu) : Option Int := if CutOk rows c.rs c.div then none else some 5
def validM (m : Mas) : Int :=
  if m.fl < 0 ∨ 200 < m.fl ∨ m.pen < 0 ∨ 4294967296 < m.pen then 5
  else if m.rows.length = 0 ∨ 32 < m.rows.length ∨ 1000 < m.cols.length ∨ 32 < m.cuts.length then 10
  else if ¬ RowsOk m then 8
  else match m.cols.findSome? (colErr m.rows) with
    | some e => e
    | none => (m.cuts.findSome? (cutErr m.rows)).getD 0
structure Mas.Small (m : Mas) : Prop where
  fl : I64 m.fl
  rows : m.rows.length < 2147483648
  cols : m.cols.length < 2147483648
  cuts : m.cuts.length < 2147483648
  ops : ∀ c ∈ m.cols, (oper c.ds).length < 2147483648 ∧ c.ds.length < 2147483648 ∧ ∀ d ∈ c.ds, d.length < 2147483648
  rss : ∀ c ∈ m.cuts, c.rs.length < 2147483648
theorem getD_mem {α : Type} {xs : List α} {i : Nat} (d : α) (h : i < xs.length) : xs.getD i d ∈ xs := by
  rw [List.getD_eq_getElem?_getD, List.getElem?_eq_getElem h]; exact List.getElem_mem h
theorem fs_none {α β : Type} {f : α → Option β} {xs : List α} {i : Nat} (d : α) (h : i < xs.length) (h1 : (xs.take i).findSome? f = none) (h2 : f (xs.getD i d) = none) : (xs.take (i + 1)).findSome? f = none := by
  rw [gtake_succ d h, List.findSome?_append, h1]; simp only [List.findSome?_cons, List.findSome?_nil, h2, Option.none_or]
theorem fs_some {α β : Type} {f : α → Option β} {xs : List α} {i : Nat} (d : α) {e : β} (h : i < xs.length) (h1 : (xs.take i).findSome? f = none) (h2 : f (xs.getD i d) = some e) : xs.findSome? f = some e := by
  rw [← List.take_append_drop (i + 1) xs, gtake_succ d h, List.findSome?_append, List.findSome?_append, h1]; simp only [List.findSome?_cons, List.findSome?_nil, h2, Option.none_or, Option.some_or]
abbrev BoxM (s : St) (m : Mas) : Prop := s.obj 1 0 = some { cont := [masL m], esz := 5, box := true, solo := true, tip := false }
abbrev BoxR (s : St) (R : List Int) : Prop := s.obj 5 0 = some { cont := [[.sl (ints .i64 R)]], esz := 1, box := true, solo := true, tip := false }
theorem pvm_rows {Q : Ex → St → Prop} {st : St} (m : Mas) (hs : m.Small) (h1 : st.env 1 = .ptr 1 0 0 0) (hb : BoxM st m) (h56 : st.env 56 = .sl (ints .i64 m.rows)) (h57 : st.env 57 = .int .i64 (m.rows.length : Nat)) (h58 : st.env 58 = .int .i64 0) (hc5 : st.cnt 5 = 0)
    (hbad : ∀ s, ¬ RowsOk m → s.env 2 = .int .i64 8 → Q .ret s) (hok : ∀ s, RowsOk m → s.env 1 = .ptr 1 0 0 0 → BoxM s m → s.cnt 5 = 0 → Q (.exit 0) s) : Goes mach (.loop L51_0) Q st := by
  have hrl := hs.rows
  refine wp_for (fun i s => s.cnt 5 = 0 ∧ s.env 1 = .ptr 1 0 0 0 ∧ BoxM s m ∧ s.env 56 = .sl (ints .i64 m.rows) ∧ s.env 57 = .int .i64 (m.rows.length : Nat) ∧ s.env 58 = .int .i64 (i : Nat) ∧
    ∀ j, j < i → (0 ≤ m.rows.getD j 0 ∧ m.rows.getD j 0 < m.fl) ∧ (0 < j → m.rows.getD (j - 1) 0 < m.rows.getD j 0)) m.rows.length ?_ ?_ m.rows.length 0 _ (by omega) ?_
  · rintro i s hi ⟨hc5, h1, hb, h56, h57, h58, hall⟩
    have hw : IntKind.i64.wrap ((i + 1 : Nat) : Int) = (i + 1 : Nat) := wrap_i64n (by omega)
    by_cases hneg : m.rows.getD i 0 < 0
    · have hno : ¬ RowsOk m := fun h => by have := h.2 _ (getD_mem 0 hi); omega
      simp only [L51_0, tmR, seval, h1, hb, h56, h57, h58, nat_lt, hi, iaddr_ints hi, hneg]
      exact hbad _ hno (by simp only [tmD, reduceIte, Nat.reduceEqDiff, Nat.reduceAdd])
    · by_cases hge : m.fl ≤ m.rows.getD i 0
      · have hno : ¬ RowsOk m := fun h => by have := h.2 _ (getD_mem 0 hi); omega
        simp only [L51_0, tmR, seval, h1, hb, h56, h57, h58, nat_lt, hi, iaddr_ints hi, hneg, hge]
        exact hbad _ hno (by simp only [tmD, reduceIte, Nat.reduceEqDiff, Nat.reduceAdd])
      · cases i with
        | zero =>
          have e0 := iaddr_ints (k := .i64) (xs := m.rows) (kk := .i64) (i := 0) hi
          simp only [cast0] at e0 h58
          have hw0 : IntKind.i64.wrap 1 = ((1 : Nat) : Int) := by decide
          simp only [L51_0, tmR, seval, h1, hb, h56, h57, h58, nat_lt0, hi, e0, hneg, hge, Int.lt_irrefl, hw0, BoxM, hc5]
          intro j hj
          have : j = 0 := by omega
          subst this
          exact ⟨by omega, fun h => by omega⟩
        | succ i =>
          have hp : ((0 : Int) < ((i + 1 : Nat) : Int)) = True := eq_true (by omega)
          have hw2 : IntKind.i64.wrap ((i : Nat) : Int) = (i : Nat) := wrap_i64n (by omega)
          have hi' : i < m.rows.length := by omega
          by_cases hle : m.rows.getD (i + 1) 0 ≤ m.rows.getD i 0
          · have hno : ¬ RowsOk m := fun h => by have := h.1 i hi; omega
            simp only [L51_0, tmR, seval, h1, hb, h56, h57, h58, nat_lt, hi, iaddr_ints hi, hneg, hge, hp, nat_succ_sub, hw2, iaddr_ints hi', hle]
            exact hbad _ hno (by simp only [tmD, reduceIte, Nat.reduceEqDiff, Nat.reduceAdd])
          · simp only [L51_0, tmR, seval, h1, hb, h56, h57, h58, nat_lt, hi, iaddr_ints hi, hneg, hge, hp, nat_succ_sub, hw2, iaddr_ints hi', hle, nat_add_one, hw, BoxM, hc5]
            intro j hj
            by_cases hji : j = i + 1
            · subst hji; exact ⟨by omega, fun _ => by rw [Nat.add_sub_cancel]; omega⟩
            · exact hall j (by omega)
  · rintro s ⟨hc5, h1, hb, h56, h57, h58, hall⟩
    simp only [L51_0, tmR, seval, h57, h58, Int.lt_irrefl]
    refine hok _ ⟨fun i hi => ?_, fun x hx => ?_⟩ h1 hb hc5
    · have := (hall (i + 1) hi).2 (by omega); rwa [Nat.add_sub_cancel] at this
    · obtain ⟨i, hi, rfl⟩ := mem_getD.1 hx; exact (hall i hi).1
  · exact ⟨hc5, h1, hb, h56, h57, h58, fun j hj => by omega⟩
theorem pvm_cuts {Q : Ex → St → Prop} {st : St} (m : Mas) (hs : m.Small) {R : List Int} {n : Nat} (hR : RowsTo R n m.rows m.rows.length) (hr : ∀ i, i < m.rows.length → 0 ≤ m.rows.getD i 0 ∧ m.rows.getD i 0 < n)
    (h5 : st.env 5 = .ptr 5 0 0 0) (hbr : BoxR st R) (h139 : st.env 139 = .sl (m.cuts.map cutC)) (h140 : st.env 140 = .int .i64 (m.cuts.length : Nat)) (h141 : st.env 141 = .int .i64 0)
    (hbad : ∀ s, m.cuts.findSome? (cutErr m.rows) = some 5 → s.env 2 = .int .i64 5 → Q .ret s) (hok : ∀ s, m.cuts.findSome? (cutErr m.rows) = none → Q (.exit 6) s) : Goes mach (.loop L51_3) Q st := by
  have hcl := hs.cuts
  refine wp_for (fun i s => s.env 5 = .ptr 5 0 0 0 ∧ BoxR s R ∧ s.env 139 = .sl (m.cuts.map cutC) ∧ s.env 140 = .int .i64 (m.cuts.length : Nat) ∧ s.env 141 = .int .i64 (i : Nat) ∧ (m.cuts.take i).findSome? (cutErr m.rows) = none) m.cuts.length ?_ ?_ m.cuts.length 0 _ (by omega) ?_
  · rintro i s hi ⟨h5, hbr, h139, h140, h141, hno⟩
    have hw : IntKind.i64.wrap ((i + 1 : Nat) : Int) = (i + 1 : Nat) := wrap_i64n (by omega)
    have ha : iaddrTV 2 (.sl (m.cuts.map cutC)) (.int .i64 (i : Int)) = some (.rptr (cutC (m.cuts.getD i default)) 0) := iaddr_map (C := cutC) default (fun _ => rfl) hi
    have hf := fits_c (rs := (m.cuts.getD i default).rs) (div := (m.cuts.getD i default).div) hR hr (hs.rss _ (getD_mem default hi))
    by_cases hok' : CutOk m.rows (m.cuts.getD i default).rs (m.cuts.getD i default).div
    · rw [decide_eq_true hok'] at hf
      simp only [L51_3, tmR, seval, h5, hbr, h139, h140, h141, nat_lt, hi, ha, cutC, wpcall_eq hf, Bool.not_true, nat_add_one, hw, BoxR]
      exact fs_none default hi hno (by unfold cutErr; rw [if_pos hok'])
    · rw [decide_eq_false hok'] at hf
      simp only [L51_3, tmR, seval, h5, hbr, h139, h140, h141, nat_lt, hi, ha, cutC, wpcall_eq hf, Bool.not_false]
      exact hbad _ (fs_some default hi hno (by unfold cutErr; rw [if_neg hok'])) (by simp only [tmD, reduceIte, Nat.reduceEqDiff, Nat.reduceAdd])
  · rintro s ⟨h5, hbr, h139, h140, h141, hno⟩
    rw [List.take_length] at hno
    simp only [L51_3, tmR, seval, h140, h141, Int.lt_irrefl]
    exact hok _ hno
  · exact ⟨h5, hbr, h139, h140, h141, by simp⟩
def bools (xs : List Bool) : Cont := xs.map fun b => [TV.bool b]
theorem bools_get {xs : List Bool} {i : Nat} (h : i < xs.length) : (bools xs)[i]? = some [.bool (xs.getD i false)] := by
  simp [bools, List.getD_eq_getElem?_getD, List.getElem?_eq_getElem h]
theorem bools_set (xs : List Bool) (i : Nat) (b : Bool) : (bools xs).set i [.bool b] = bools (xs.set i b) := by simp [bools, List.map_set]
theorem bools_rep (n : Nat) : List.replicate n [TV.bool false] = bools (List.replicate n false) := by simp [bools]
theorem bset_ne {xs : List Bool} {i m : Nat} {d : Bool} (h : i ≠ m) : (xs.set i d).getD m false = xs.getD m false := by
  rw [List.getD_eq_getElem?_getD, List.getElem?_set_ne h, ← List.getD_eq_getElem?_getD]
theorem bset_eq {xs : List Bool} {i : Nat} {d : Bool} (h : i < xs.length) : (xs.set i d).getD i false = d := by
  rw [List.getD_eq_getElem?_getD, List.getElem?_set_self h, Option.getD_some]
theorem rowOf_val {R : List Int} {n : Nat} {rows : List Int} (h : RowsTo R n rows rows.length) (hr : ∀ i, i < rows.length → 0 ≤ rows.getD i 0 ∧ rows.getD i 0 < n) {f : Int} (hf : f ∈ rows) : ∃ r : Nat, r < rows.length ∧ rowOf R f = r ∧ rows.getD r 0 = f := by
  obtain ⟨i, hi, rfl⟩ := mem_getD.1 hf
  have hri := hr i hi
  unfold rowOf
  rw [h.1, if_neg (by omega)]
  obtain ⟨g, hg⟩ : ∃ g : Nat, rows.getD i 0 = g := ⟨(rows.getD i 0).toNat, by omega⟩
  rw [hg, Int.toNat_natCast]
  rcases h.2 g (by omega) with ⟨h1, h2⟩ | ⟨j, h1, h2, h3⟩
  · exact absurd hg (h2 i hi)
  · exact ⟨j, h1, h2, h3⟩
theorem nodup_take_succ {l : List Int} {i : Nat} (hi : i < l.length) (h1 : (l.take i).Nodup) (h2 : ∀ j, j < i → l.getD j 0 ≠ l.getD i 0) : (l.take (i + 1)).Nodup := by
  rw [gtake_succ 0 hi, List.nodup_append]
  refine ⟨h1, by simp, ?_⟩
  intro a ha b hb
  simp only [List.mem_singleton] at hb
  subst hb
  obtain ⟨j, hj, rfl⟩ := mem_getD.1 ha
  rw [List.length_take] at hj
  have : (l.take i).getD j 0 = l.getD j 0 := by
    rw [List.getD_eq_getElem?_getD, List.getElem?_take, if_pos (by omega), ← List.getD_eq_getElem?_getD]
  rw [this]; exact h2 j (by omega)
theorem asc_lt {xs : List Int} (h : Asc xs) {i : Nat} : ∀ {j : Nat}, i < j → j < xs.length → xs.getD i 0 < xs.getD j 0
  | 0, hij, _ => by omega
  | j + 1, hij, hj => by
    by_cases he : i = j
    · subst he; exact h _ hj
    · have := asc_lt h (show i < j by omega) (show j < xs.length by omega)
      have := h j hj
      omega
theorem asc_inj {xs : List Int} (h : Asc xs) {i j : Nat} (hi : i < xs.length) (hj : j < xs.length) (he : xs.getD i 0 = xs.getD j 0) : i = j := by
  rcases Nat.lt_trichotomy i j with hlt | heq | hgt
  · have := asc_lt h hlt hj; omega
  · exact heq
  · have := asc_lt h hgt hi; omega
theorem pvm_seen {Q : Ex → St → Prop} {st : St} (m : Mas) (l : List Int) (c : Nat) (hll : l.length < 2147483648) (hrl : m.rows.length < 2147483648) (hA : Asc m.rows) {R : List Int} {n : Nat} (hR : RowsTo R n m.rows m.rows.length) (hr : ∀ i, i < m.rows.length → 0 ≤ m.rows.getD i 0 ∧ m.rows.getD i 0 < n)
    (h5 : st.env 5 = .ptr 5 0 0 0) (hbr : BoxR st R) (hbm : BoxM st m) (h116 : st.env 116 = .sl (ints .i64 l)) (h117 : st.env 117 = .int .i64 (l.length : Nat)) (h118 : st.env 118 = .int .i64 0) (h9 : st.env 9 = .hs 115 c 1 m.rows.length)
    (hsn : st.obj 115 c = some { cont := bools (List.replicate m.rows.length false), esz := 1, box := false, solo := true, tip := true })
    (hbad : ∀ s, ¬ ListOk m.rows l → s.env 2 = .int .i64 12 → Q .ret s) (hok : ∀ s, ListOk m.rows l → Keep [1, 5, 92, 93, 94] s st → BoxR s R → BoxM s m → Q (.exit 4) s) : Goes mach (.loop L51_2) Q st := by
  refine wp_for (fun i s => s.env 5 = .ptr 5 0 0 0 ∧ BoxR s R ∧ BoxM s m ∧ s.env 116 = .sl (ints .i64 l) ∧ s.env 117 = .int .i64 (l.length : Nat) ∧ s.env 118 = .int .i64 (i : Nat) ∧ s.env 9 = .hs 115 c 1 m.rows.length ∧ Keep [1, 5, 92, 93, 94] s st ∧
    (∀ j, j < i → l.getD j 0 ∈ m.rows) ∧ (l.take i).Nodup ∧
    ∃ bs : List Bool, s.obj 115 c = some { cont := bools bs, esz := 1, box := false, solo := true, tip := true } ∧ bs.length = m.rows.length ∧ ∀ r, r < m.rows.length → (bs.getD r false = true ↔ ∃ j, j < i ∧ l.getD j 0 = m.rows.getD r 0)) l.length ?_ ?_ l.length 0 _ (by omega) ?_
  · rintro i s hi ⟨h5, hbr, hbm, h116, h117, h118, h9, hkeep, hin, hnd, bs, hsn, hbl, hbs⟩
    have hw : IntKind.i64.wrap ((i + 1 : Nat) : Int) = (i + 1 : Nat) := wrap_i64n (by omega)
    have hrow := row_c R (l.getD i 0)
    by_cases hm : l.getD i 0 ∈ m.rows
    · obtain ⟨r, hrr, hre, hrv⟩ := rowOf_val hR hr hm
      rw [hre] at hrow
      have hneg : (((r : Nat) : Int) < 0) = False := eq_false (by omega)
      have hrb : r < bs.length := by omega
      cases hsb : bs.getD r false
      · have hnew : ∀ j, j < i → l.getD j 0 ≠ l.getD i 0 := fun j hj he => by
          have := (hbs r hrr).2 ⟨j, hj, by rw [he, hrv]⟩
          rw [hsb] at this; cases this
        simp only [L51_2, tmR, seval, h5, hbr, h116, h117, h118, h9, nat_lt, hi, iaddr_ints hi, wpcall_eq hrow, hneg, iaddr_hs hrr, hsn, bools_get hrb, hsb, bools_set, nat_add_one, hw, BoxR, BoxM, hbm]
        refine ⟨?_, fun j hj => ?_, nodup_take_succ hi hnd hnew, _, rfl, by simp [hbl], fun r' hr' => ?_⟩
        · repeat' (first | exact hkeep | (apply keep_put (hd := by decide)) | apply keep_setO | apply keep_bump | (apply keep_putO (hd := by decide)) | apply keep_unsol)
        · by_cases h : j = i
          · subst h; exact hm
          · exact hin j (by omega)
        · by_cases h : r = r'
          · subst h
            rw [bset_eq hrb]
            exact ⟨fun _ => ⟨i, by omega, hrv.symm⟩, fun _ => rfl⟩
          · rw [bset_ne h, hbs r' hr']
            constructor
            · rintro ⟨j, hj, e⟩; exact ⟨j, by omega, e⟩
            · rintro ⟨j, hj, e⟩
              by_cases hji : j = i
              · subst hji
                exact absurd (asc_inj hA hrr hr' (by rw [hrv, e])) h
              · exact ⟨j, by omega, e⟩
      · have hno : ¬ ListOk m.rows l := fun h => by
          obtain ⟨j, hj, e⟩ := (hbs r hrr).1 hsb
          rw [hrv] at e
          have hnd2 := h.2
          rw [List.nodup_iff_pairwise_ne, List.pairwise_iff_getElem] at hnd2
          have := hnd2 j i (by omega) hi hj
          rw [List.getD_eq_getElem?_getD, List.getElem?_eq_getElem (by omega), List.getD_eq_getElem?_getD, List.getElem?_eq_getElem hi] at e
          exact this e
        simp only [L51_2, tmR, seval, h5, hbr, h116, h117, h118, h9, nat_lt, hi, iaddr_ints hi, wpcall_eq hrow, hneg, iaddr_hs hrr, hsn, bools_get hrb, hsb]
        exact hbad _ hno (by simp only [tmD, reduceIte, Nat.reduceEqDiff, Nat.reduceAdd])
    · have hneg : (rowOf R (l.getD i 0) < 0) = True := eq_true ((rowOf_nonneg hR hr _).2 hm)
      have hno : ¬ ListOk m.rows l := fun h => hm (h.1 _ (getD_mem 0 hi))
      simp only [L51_2, tmR, seval, h5, hbr, h116, h117, h118, h9, nat_lt, hi, iaddr_ints hi, wpcall_eq hrow, hneg]
      exact hbad _ hno (by simp only [tmD, reduceIte, Nat.reduceEqDiff, Nat.reduceAdd])
  · rintro s ⟨h5, hbr, hbm, h116, h117, h118, h9, hkeep, hin, hnd, bs, hsn, hbl, hbs⟩
    rw [List.take_length] at hnd
    simp only [L51_2, tmR, seval, h117, h118, Int.lt_irrefl]
    refine hok _ ⟨fun x hx => ?_, hnd⟩ ?_ hbr hbm
    · obtain ⟨j, hj, rfl⟩ := mem_getD.1 hx; exact hin j hj
    · repeat' (first | exact hkeep | (apply keep_put (hd := by decide)) | apply keep_setO | apply keep_bump | (apply keep_putO (hd := by decide)) | apply keep_unsol)
  · refine ⟨h5, hbr, hbm, h116, h117, h118, h9, Keep.refl _ _, fun j hj => by omega, by simp, _, hsn, by simp, fun r hr' => ?_⟩
    constructor
    · intro h; rw [List.getD_eq_getElem?_getD, List.getElem?_replicate] at h; split at h <;> simp at h
    · rintro ⟨j, hj, _⟩; omega
theorem keep_trans {l : List Nat} {a b c : St} (h : Keep l a b) (h' : Keep l b c) : Keep l a c := fun k hk => (h k hk).trans (h' k hk)
theorem pvm_cols {Q : Ex → St → Prop} {st : St} (m : Mas) (hs : m.Small) (hA : Asc m.rows) {R : List Int} {n : Nat} (hR : RowsTo R n m.rows m.rows.length) (hr : ∀ i, i < m.rows.length → 0 ≤ m.rows.getD i 0 ∧ m.rows.getD i 0 < n)
    (h1 : st.env 1 = .ptr 1 0 0 0) (hbm : BoxM st m) (h5 : st.env 5 = .ptr 5 0 0 0) (hbr : BoxR st R) (h92 : st.env 92 = .sl (m.cols.map colC)) (h93 : st.env 93 = .int .i64 (m.cols.length : Nat)) (h94 : st.env 94 = .int .i64 0)
    (hbad : ∀ s e, m.cols.findSome? (colErr m.rows) = some e → s.env 2 = .int .i64 e → Q .ret s) (hok : ∀ s, m.cols.findSome? (colErr m.rows) = none → s.env 1 = .ptr 1 0 0 0 → BoxM s m → s.env 5 = .ptr 5 0 0 0 → BoxR s R → Q (.exit 2) s) : Goes mach (.loop L51_1) Q st := by
  have hcl := hs.cols
  have hrl := hs.rows
  refine wp_for (fun i s => s.env 1 = .ptr 1 0 0 0 ∧ BoxM s m ∧ s.env 5 = .ptr 5 0 0 0 ∧ BoxR s R ∧ s.env 92 = .sl (m.cols.map colC) ∧ s.env 93 = .int .i64 (m.cols.length : Nat) ∧ s.env 94 = .int .i64 (i : Nat) ∧ (m.cols.take i).findSome? (colErr m.rows) = none) m.cols.length ?_ ?_ m.cols.length 0 _ (by omega) ?_
  · rintro i s hi ⟨h1, hbm, h5, hbr, h92, h93, h94, hno⟩
    obtain ⟨c, hc⟩ : ∃ c, c = m.cols.getD i default := ⟨_, rfl⟩
    have hcm : c ∈ m.cols := by rw [hc]; exact getD_mem default hi
    have hw : IntKind.i64.wrap ((i + 1 : Nat) : Int) = (i + 1 : Nat) := wrap_i64n (by omega)
    have ha : iaddrTV 3 (.sl (m.cols.map colC)) (.int .i64 (i : Int)) = some (.rptr (colC c) 0) := by rw [hc]; exact iaddr_map (C := colC) default (fun _ => rfl) hi
    obtain ⟨ho1, ho2, ho3⟩ := hs.ops c hcm
    have hop := poper_c c.b c.ds ho1 ho2 ho3
    by_cases hlo : c.cost < -1125899906842624
    · have he : colErr m.rows c = some 5 := by unfold colErr; rw [if_pos (.inl hlo)]
      simp only [L51_1, tmR, seval, h1, h5, hbr, h92, h93, h94, nat_lt, hi, ha, colC, hlo]
      exact hbad _ _ (fs_some default hi hno (by rw [← hc]; exact he)) (by simp only [tmD, reduceIte, Nat.reduceEqDiff, Nat.reduceAdd])
    · by_cases hhi : 1125899906842624 < c.cost
      · have he : colErr m.rows c = some 5 := by unfold colErr; rw [if_pos (.inr hhi)]
        simp only [L51_1, tmR, seval, h1, h5, hbr, h92, h93, h94, nat_lt, hi, ha, colC, hlo, hhi]
        exact hbad _ _ (fs_some default hi hno (by rw [← hc]; exact he)) (by simp only [tmD, reduceIte, Nat.reduceEqDiff, Nat.reduceAdd])
      · by_cases hemp : oper c.ds = []
        · have he : colErr m.rows c = some 12 := by unfold colErr; rw [if_neg (by omega), if_pos (.inl hemp)]
          rw [hemp] at hop
          simp only [L51_1, tmR, seval, h1, h5, hbr, h92, h93, h94, nat_lt, hi, ha, colC, hlo, hhi, wpcall_eq hop, ints_len]
          exact hbad _ _ (fs_some default hi hno (by rw [← hc]; exact he)) (by simp only [tmD, reduceIte, Nat.reduceEqDiff, Nat.reduceAdd])
        · have hlen : (((oper c.ds).length : Int) = 0) = False := eq_false (by have := List.length_pos_iff.2 hemp; omega)
          simp only [L51_1, tmR, seval, h1, h5, hbr, h92, h93, h94, nat_lt, hi, ha, colC, hlo, hhi, wpcall_eq hop, ints_len, hlen, hbm]
          refine ⟨hrl, ?_⟩
          refine pvm_seen m (oper c.ds) (s.cnt 115) ho1 hrl hA hR hr ?_ ?_ ?_ ?_ ?_ ?_ ?_ ?_ (fun s' hbl h2 => ?_) (fun s' hgd hk hbr' hbm' => ?_)
          · simp only [tmD, reduceIte, Nat.reduceEqDiff, Nat.reduceAdd, h5]
          · simp only [tmD, reduceIte, Nat.reduceEqDiff, Nat.reduceAdd, BoxR, hbr]
          · simp only [tmD, reduceIte, Nat.reduceEqDiff, Nat.reduceAdd, BoxM, hbm]
          · simp only [tmD, reduceIte, Nat.reduceEqDiff, Nat.reduceAdd]
          · simp only [tmD, reduceIte, Nat.reduceEqDiff, Nat.reduceAdd]
          · simp only [tmD, reduceIte, Nat.reduceEqDiff, Nat.reduceAdd]
          · simp only [tmD, reduceIte, Nat.reduceEqDiff, Nat.reduceAdd]
          · simp only [tmD, reduceIte, Nat.reduceEqDiff, Nat.reduceAdd, bools_rep]
          · have he : colErr m.rows c = some 12 := by unfold colErr; rw [if_neg (by omega), if_pos (.inr hbl)]
            simp only [blockQ_ret, thenQ_ret]
            exact hbad _ _ (fs_some default hi hno (by rw [← hc]; exact he)) h2
          · have he : colErr m.rows c = none := by unfold colErr; rw [if_neg (by omega), if_neg (fun h => h.elim hemp (fun h => h hgd))]
            have k1 := hk 1 (by decide)
            have k5 := hk 5 (by decide)
            have k92 := hk 92 (by decide)
            have k93 := hk 93 (by decide)
            have k94 := hk 94 (by decide)
            simp only [tmD, reduceIte, Nat.reduceEqDiff, Nat.reduceAdd, h1, h5, h92, h93, h94] at k1 k5 k92 k93 k94
            simp only [tmR, seval, k1, k5, k92, k93, k94, nat_add_one, hw, BoxM, BoxR, hbr', hbm']
            exact fs_none default hi hno (by rw [← hc]; exact he)
  · rintro s ⟨h1, hbm, h5, hbr, h92, h93, h94, hno⟩
    rw [List.take_length] at hno
    simp only [L51_1, tmR, seval, h93, h94, Int.lt_irrefl]
    exact hok _ hno h1 hbm h5 hbr
  · exact ⟨h1, hbm, h5, hbr, h92, h93, h94, by simp⟩
end Go.TM.Fn
end
section
namespace Go.TM.Fn
open Go Go.TM Go.Plain
set_option linter.unusedVariables false
set_option linter.unusedSimpArgs false
set_option maxRecDepth 20000
set_option maxHeartbeats 4000000
structure RQ where
  n : Bool
  ds : List Nat
  m : Bool
  es : List Nat
instance : Inhabited RQ := ⟨⟨false, [], false, []⟩⟩
def rqC (r : RQ) : List TV := [.bool r.n, .sl (dig r.ds), .bool r.m, .sl (dig r.es)]
def RQ.val (r : RQ) : Rat := Rat.divInt (ival r.n r.ds) (ival r.m r.es)
def RQ.Ok (k : Nat) (r : RQ) : Prop := Dig r.ds ∧ Dig r.es ∧ r.ds.length ≤ k ∧ r.es.length ≤ k
theorem RQ.isQ {k r} (h : RQ.Ok k r) : IsQ k (.agg (rqC r)) r.val := ⟨r.n, r.ds, r.m, r.es, rfl, h.1, h.2.1, h.2.2.1, h.2.2.2, rfl⟩
structure Dec where
  first : Int
  next : Int
  tog : Bool
instance : Inhabited Dec := ⟨⟨0, 0, false⟩⟩
def decC (d : Dec) : List TV := [.int .i64 d.first, .int .i64 d.next, .bool d.tog]
structure Pri where
  fls : List RQ
  cuts : List Cu
  duals : List RQ
  decs : List Dec
  free : Bool
abbrev priL (x : Pri) : List TV := [.sl (x.fls.map rqC), .sl (x.cuts.map cutC), .sl (x.duals.map rqC), .sl (x.decs.map decC), .bool x.free]
abbrev priT (x : Pri) : TV := .agg (priL x)
def rowErr (fl : Int) (rs : List Int) (i : Nat) : Option Int :=
  if rs.getD i 0 < 0 ∨ fl ≤ rs.getD i 0 then some 5 else if 0 < i ∧ rs.getD i 0 ≤ rs.getD (i - 1) 0 then some 8 else none
def pcutErr (fl : Int) (c : Cu) (q : Rat) : Option Int :=
  ((List.range c.rs.length).findSome? (rowErr fl c.rs)).or (if c.div < 2 ∨ c.rs.length < c.div ∨ 0 < sgq q then some 5 else none)
def decErr (fl : Int) (d : Dec) : Option Int :=
  if d.first < 0 ∨ fl ≤ d.first ∨ d.next < 0 ∨ fl ≤ d.next ∨ d.first = d.next then some 5 else none
def dualErr (fl : Int) (x : Pri) (i : Nat) : Option Int := pcutErr fl (x.cuts.getD i default) (x.duals.getD i default).val
def validP (fl : Int) (x : Pri) : Int :=
  if fl < 0 ∨ ¬ (x.fls.length : Int) = fl ∨ ¬ (x.duals.length : Int) = x.cuts.length then 12
  else if 32 < x.cuts.length ∨ 32 < x.decs.length then 10
  else match (List.range x.cuts.length).findSome? (dualErr fl x) with
    | some e => e
    | none => (x.decs.findSome? (decErr fl)).getD 0
structure Pri.Small (k : Nat) (x : Pri) : Prop where
  k0 : 0 < k
  k1 : k < 1000000
  fls : x.fls.length < 2147483648
  cuts : x.cuts.length < 2147483648
  duals : x.duals.length < 2147483648
  decs : x.decs.length < 2147483648
  rss : ∀ c ∈ x.cuts, c.rs.length < 2147483648
  qs : ∀ r ∈ x.fls, RQ.Ok k r
  qd : ∀ r ∈ x.duals, RQ.Ok k r
theorem range_getD {n i : Nat} (h : i < n) : (List.range n).getD i 0 = i := by
  rw [List.getD_eq_getElem?_getD, List.getElem?_range h]; rfl
theorem rs_none {f : Nat → Option Int} {n i : Nat} (h : i < n) (h1 : ((List.range n).take i).findSome? f = none) (h2 : f i = none) : ((List.range n).take (i + 1)).findSome? f = none :=
  fs_none 0 (by simpa using h) h1 (by rw [range_getD h]; exact h2)
theorem rs_some {f : Nat → Option Int} {n i : Nat} {e : Int} (h : i < n) (h1 : ((List.range n).take i).findSome? f = none) (h2 : f i = some e) : (List.range n).findSome? f = some e :=
  fs_some 0 (by simpa using h) h1 (by rw [range_getD h]; exact h2)
theorem rs_all {f : Nat → Option Int} {n : Nat} (h1 : ((List.range n).take n).findSome? f = none) : (List.range n).findSome? f = none := by
  rwa [List.take_of_length_le (by simp)] at h1
theorem pcutErr_c {fl : Int} {c : Cu} {r : RQ} {k : Nat} (hr : RQ.Ok k r) (hk0 : 0 < k) (hk : k < 1000000) (hl : c.rs.length < 2147483648) : Gives mach 78 [.int .i64 fl, .agg (cutC c), .agg (rqC r)] (.int .i64 ((pcutErr fl c r.val).getD 0)) := by
  have hq := RQ.isQ hr
  have hsg := qsign_c hq (by omega) hk0
  refine gives tab78 rfl ?_
  simp only [cutC, rqC] at hsg ⊢
  simp only [F78, tmR, seval, ints_len]
  refine wp_for (fun i s => s.env 0 = .int .i64 fl ∧ s.env 4 = .ptr 4 0 0 0 ∧ s.env 5 = .ptr 5 0 0 0 ∧ s.obj 4 0 = some { cont := [[.sl (ints .i64 c.rs), .int .i64 c.div]], esz := 2, box := true, solo := true, tip := false } ∧ s.obj 5 0 = some { cont := [[.bool r.n, .sl (dig r.ds), .bool r.m, .sl (dig r.es)]], esz := 4, box := true, solo := true, tip := false } ∧
    s.env 10 = .sl (ints .i64 c.rs) ∧ s.env 11 = .int .i64 (c.rs.length : Nat) ∧ s.env 12 = .int .i64 (i : Nat) ∧ ((List.range c.rs.length).take i).findSome? (rowErr fl c.rs) = none) c.rs.length ?_ ?_ c.rs.length 0 _ (by omega) ?_
  · rintro i s hi ⟨h0, h4, h5, ho4, ho5, h10, h11, h12, hno⟩
    have hw : IntKind.i64.wrap ((i + 1 : Nat) : Int) = (i + 1 : Nat) := wrap_i64n (by omega)
    by_cases h1 : c.rs.getD i 0 < 0
    · have he := rs_some hi hno (show rowErr fl c.rs i = some 5 by unfold rowErr; rw [if_pos (.inl h1)])
      have hv : pcutErr fl c r.val = some 5 := by unfold pcutErr; rw [he]; rfl
      simp only [L78_0, tmR, seval, h0, h4, h10, h11, h12, nat_lt, hi, iaddr_ints hi, h1, tmF, hv, Option.getD_some]
    · by_cases h2 : fl ≤ c.rs.getD i 0
      · have he := rs_some hi hno (show rowErr fl c.rs i = some 5 by unfold rowErr; rw [if_pos (.inr h2)])
        have hv : pcutErr fl c r.val = some 5 := by unfold pcutErr; rw [he]; rfl
        simp only [L78_0, tmR, seval, h0, h4, h10, h11, h12, nat_lt, hi, iaddr_ints hi, h1, h2, tmF, hv, Option.getD_some]
      · cases i with
        | zero =>
          have e0 := iaddr_ints (k := .i64) (xs := c.rs) (kk := .i64) (i := 0) hi
          simp only [cast0] at e0 h12
          have hw0 : IntKind.i64.wrap 1 = ((1 : Nat) : Int) := by decide
          have he : rowErr fl c.rs 0 = none := by unfold rowErr; rw [if_neg (by omega), if_neg (by omega)]
          simp only [L78_0, tmR, seval, h0, h4, h5, ho4, ho5, h10, h11, h12, nat_lt0, hi, e0, h1, h2, Int.lt_irrefl, hw0]
          exact rs_none hi hno he
        | succ i =>
          have hp : ((0 : Int) < ((i + 1 : Nat) : Int)) = True := eq_true (by omega)
          have hw2 : IntKind.i64.wrap ((i : Nat) : Int) = (i : Nat) := wrap_i64n (by omega)
          have hi' : i < c.rs.length := by omega
          by_cases hle : c.rs.getD (i + 1) 0 ≤ c.rs.getD i 0
          · have he := rs_some hi hno (show rowErr fl c.rs (i + 1) = some 8 by unfold rowErr; rw [if_neg (by omega), if_pos ⟨by omega, by rw [Nat.add_sub_cancel]; exact hle⟩])
            have hv : pcutErr fl c r.val = some 8 := by unfold pcutErr; rw [he]; rfl
            simp only [L78_0, tmR, seval, h0, h4, ho4, h10, h11, h12, nat_lt, hi, iaddr_ints hi, h1, h2, hp, nat_succ_sub, hw2, iaddr_ints hi', hle, tmF, hv, Option.getD_some]
          · have he : rowErr fl c.rs (i + 1) = none := by unfold rowErr; rw [if_neg (by omega), if_neg (by rw [Nat.add_sub_cancel]; omega)]
            simp only [L78_0, tmR, seval, h0, h4, h5, ho4, ho5, h10, h11, h12, nat_lt, hi, iaddr_ints hi, h1, h2, hp, nat_succ_sub, hw2, iaddr_ints hi', hle, nat_add_one, hw]
            exact rs_none hi hno he
  · rintro s ⟨h0, h4, h5, ho4, ho5, h10, h11, h12, hno⟩
    have hno' := rs_all hno
    by_cases d1 : c.div < 2
    · have hv : pcutErr fl c r.val = some 5 := by unfold pcutErr; rw [hno', if_pos (.inl d1)]; rfl
      simp only [L78_0, tmR, seval, h0, h4, h5, ho4, ho5, h11, h12, Int.lt_irrefl, d1, tmF, hv, Option.getD_some]
    · by_cases d2 : (c.rs.length : Int) < c.div
      · have hv : pcutErr fl c r.val = some 5 := by unfold pcutErr; rw [hno', if_pos (.inr (.inl d2))]; rfl
        simp only [L78_0, tmR, seval, h0, h4, h5, ho4, ho5, h11, h12, Int.lt_irrefl, d1, ints_len, d2, tmF, hv, Option.getD_some]
      · by_cases d3 : 0 < sgq r.val
        · have hv : pcutErr fl c r.val = some 5 := by unfold pcutErr; rw [hno', if_pos (.inr (.inr d3))]; rfl
          simp only [L78_0, tmR, seval, h0, h4, h5, ho4, ho5, h11, h12, Int.lt_irrefl, d1, ints_len, d2, wpcall_eq hsg, d3, tmF, hv, Option.getD_some]
        · have hv : pcutErr fl c r.val = none := by unfold pcutErr; rw [hno', if_neg (fun h => h.elim d1 (fun h => h.elim d2 d3))]; rfl
          simp only [L78_0, tmR, seval, h0, h4, h5, ho4, ho5, h11, h12, Int.lt_irrefl, d1, ints_len, d2, wpcall_eq hsg, d3, tmF, hv, Option.getD_none]
  · simp only [tmD, reduceIte, Nat.reduceEqDiff, Nat.reduceAdd]
    exact ⟨rfl, by simp⟩
end Go.TM.Fn
end
section
namespace Go.TM.Fn
open Go Go.TM Go.Plain
set_option linter.unusedVariables false
set_option linter.unusedSimpArgs false
set_option maxRecDepth 20000
set_option maxHeartbeats 4000000
theorem divInt_one (n : Int) : Rat.divInt n 1 = (n : Rat) := by have := Rat.num_divInt_den (n : Rat); simpa using this
theorem whole_c {n : Int} (h : I64 n) : Gives mach 44 [.int .i64 n] (encQ n) := by
  have f := qfrom_c h (d := 1) (by unfold I64; omega) (by omega)
  rw [divInt_one] at f
  refine gives tab44 rfl ?_
  simp only [F44, tmR, seval, wpcall_eq f, tmF]
theorem dq_int {n : Int} (h : I64 n) : Dq 2 (n : Rat) := by
  rw [← divInt_one]; exact dq_divInt (by omega) (di_i64 h) (di_one (by omega))
def lowQ (x y : Rat) : Rat := if sgq (x - y) ≤ 0 then x else y
theorem dq_low {j k x y} (h : Dq j x) (h' : Dq k y) : Dq (max j k) (lowQ x y) := by
  unfold lowQ; split
  · exact h.mono (Nat.le_max_left _ _)
  · exact h'.mono (Nat.le_max_right _ _)
theorem low_c {j k v w x y} (hv : IsQ j v x) (hw : IsQ k w y) (hj : j + k < 500000000) (hj0 : 0 < j) (hk0 : 0 < k) : Gives mach 53 [v, w] (encQ (lowQ x y)) := by
  have c := qcompare_c hv hw (by omega) hj0 hk0
  have z := whole_c (n := 0) (by unfold I64; omega)
  have d0 := dq_int (n := 0) (by unfold I64; omega)
  have a1 := qadd_c hv (isQ_enc d0) (by omega) hj0 (by omega)
  have a2 := qadd_c hw (isQ_enc d0) (by omega) hk0 (by omega)
  have e0 : ((0 : Int) : Rat) = 0 := rfl
  rw [e0, Rat.add_zero] at a1 a2
  rw [e0] at z
  obtain ⟨b1, t1⟩ : ∃ u : TV, u = encQ (0 : Rat) := ⟨_, rfl⟩
  have hz1 : (encQ (0 : Rat)) = rawQ false [] false [1] := by
    simp [encF, rawQ, toDig_zero, dig, toDig_one]
  rw [hz1] at z a1 a2
  obtain ⟨n, ds, m, es, rfl, -⟩ := hv
  obtain ⟨n', ds', m', es', rfl, -⟩ := hw
  refine gives tab53 rfl ?_
  unfold lowQ
  by_cases h : sgq (x - y) ≤ 0
  · simp only [F53, tmR, seval, wpcall_eq c, h, wpcall_eq z, wpcall_eq a1, tmF]
  · simp only [F53, tmR, seval, wpcall_eq c, h, wpcall_eq z, wpcall_eq a2, tmF]
theorem frO_zero : frO 0 = [.bool false, .nils, .bool false, .sl (dig (toDig (Int.natAbs 1)))] := rfl
theorem frO_pos {q : Rat} (h : q ≠ 0) : frO q = [.bool (decide (q.num < 0)), .own 1 (dig (toDig q.num.natAbs)), .bool (decide ((q.den : Int) < 0)), .own 1 (dig (toDig (q.den : Int).natAbs))] := by
  unfold frO; rw [if_neg h, ownI_pos (by rw [Ne, Rat.num_eq_zero]; exact h), ownI_pos (num_den_ne q)]; rfl
theorem rqmul_o {j k v w x y} (hv : IsQ j v x) (hw : IsQ k w y) (hj : j + k < 33554400) (hj0 : 0 < j) (hk0 : 0 < k) : call mach 13 [v, w] = some (.agg (frO (x * y)), []) := by
  have c1 := rcanon_c hv (by omega)
  have c2 := rcanon_c hw (by omega)
  have d1 := hv.dq hj0
  have d2 := hw.dq hk0
  have m1 := rmul_c (isI_enc d1.1) (isI_enc d2.1) (by omega) (by omega)
  have m3 := rmul_c (isI_enc d1.2) (isI_enc d2.2) (by omega) (by omega)
  have e1 := d1.1.mul d2.1
  have e3 := d1.2.mul d2.2
  have r := rnew_o (isI_enc e1) (isI_enc e3) (by omega) (by omega)
  rw [← Rat.divInt_mul_divInt, Rat.num_divInt_den, Rat.num_divInt_den] at r
  obtain ⟨n, ds, m, es, rfl, -⟩ := hv
  obtain ⟨n', ds', m', es', rfl, -⟩ := hw
  refine givesX tab13 rfl ?_
  by_cases hz : x * y = 0
  · rw [hz, frO_zero] at r ⊢
    simp only [F13, tmR, seval, wpcall_eq c1, wpcall_eq c2, wpcall_eq m1, wpcall_eq m3, wp_call1a (hc := r), adopt, retX_norm, retX_ret, tmF]
  · rw [frO_pos hz] at r ⊢
    simp only [F13, tmR, seval, wpcall_eq c1, wpcall_eq c2, wpcall_eq m1, wpcall_eq m3, wp_call1a (hc := r), adopt, apply_new2, dig_len, retX_norm, retX_ret, tmF, pr_beq, Bool.false_and, Bool.and_false, Bool.true_and]
theorem rqmul_c {j k v w x y} (hv : IsQ j v x) (hw : IsQ k w y) (hj : j + k < 33554400) (hj0 : 0 < j) (hk0 : 0 < k) : Gives mach 13 [v, w] (encQ (x * y)) := ⟨_, rqmul_o hv hw hj hj0 hk0, view_frO _⟩
theorem validM0 {m : Mas} (h : validM m = 0) : 0 ≤ m.fl ∧ m.fl ≤ 200 ∧ 0 ≤ m.pen ∧ m.pen ≤ 4294967296 ∧ m.rows.length ≤ 32 ∧ RowsOk m := by
  unfold validM at h
  split at h
  · omega
  · split at h
    · omega
    · split at h
      · omega
      · rename_i h1 h2 h3
        refine ⟨by omega, by omega, by omega, by omega, by omega, Classical.not_not.1 h3⟩
theorem rowErr_ne {fl rs i e} (h : rowErr fl rs i = some e) : e ≠ 0 := by
  unfold rowErr at h
  split at h
  · cases h; omega
  · split at h
    · cases h; omega
    · cases h
theorem pcutErr_ne {fl c q e} (h : pcutErr fl c q = some e) : e ≠ 0 := by
  unfold pcutErr at h
  cases h1 : (List.range c.rs.length).findSome? (rowErr fl c.rs) with
  | some e' =>
    rw [h1] at h; simp only [Option.some_or, Option.some.injEq] at h
    obtain ⟨j, _, hj⟩ := List.exists_of_findSome?_eq_some h1
    exact h ▸ rowErr_ne hj
  | none =>
    rw [h1] at h; simp only [Option.none_or] at h
    split at h
    · cases h; omega
    · cases h
theorem validP0 {fl : Int} {x : Pri} (h : validP fl x = 0) : 0 ≤ fl ∧ (x.fls.length : Int) = fl ∧ x.duals.length = x.cuts.length ∧ x.cuts.length ≤ 32 ∧ ∀ i, i < x.cuts.length → (∀ j, j < (x.cuts.getD i default).rs.length → 0 ≤ (x.cuts.getD i default).rs.getD j 0 ∧ (x.cuts.getD i default).rs.getD j 0 < fl) ∧ 2 ≤ (x.cuts.getD i default).div ∧ (x.cuts.getD i default).div ≤ (x.cuts.getD i default).rs.length := by
  unfold validP at h
  split at h
  · omega
  · split at h
    · omega
    · rename_i h1 h2
      cases h3 : (List.range x.cuts.length).findSome? (dualErr fl x) with
      | some e =>
        rw [h3] at h
        obtain ⟨j, _, hj⟩ := List.exists_of_findSome?_eq_some h3
        exact absurd h (pcutErr_ne hj)
      | none =>
        refine ⟨by omega, by omega, by omega, by omega, fun i hi => ?_⟩
        have h4 := List.findSome?_eq_none_iff.1 h3 i (List.mem_range.2 hi)
        unfold dualErr pcutErr at h4
        rw [Option.or_eq_none_iff] at h4
        obtain ⟨h5, h6⟩ := h4
        refine ⟨fun j hj => ?_, ?_⟩
        · have := List.findSome?_eq_none_iff.1 h5 j (List.mem_range.2 hj)
          unfold rowErr at this
          split at this
          · cases this
          · omega
        · split at h6
          · cases h6
          · omega
end Go.TM.Fn
end
section
namespace Go.TM.Fn
open Go Go.TM Go.Plain
set_option linter.unusedVariables false
set_option linter.unusedSimpArgs false
set_option maxRecDepth 20000
set_option maxHeartbeats 4000000
theorem sameInt_c (n : Bool) (ds : List Nat) (hl : ds.length < 2147483648) : Gives mach 56 [rawI n ds, rawI n ds] (.bool true) := by
  refine gives tab56 rfl ?_
  have e1 : (!(n == n)) = false := by simp
  have e2 : ((ds.length : Int) = (ds.length : Int)) = True := eq_true rfl
  simp only [F56, tmR, seval, dig_len, e1, Bool.not_true]
  refine wp_for (fun i s => s.env 2 = .ptr 2 0 0 0 ∧ s.env 3 = .ptr 3 0 0 0 ∧ s.obj 2 0 = some { cont := [[.bool n, .sl (dig ds)]], esz := 2, box := true, solo := true, tip := false } ∧ s.obj 3 0 = some { cont := [[.bool n, .sl (dig ds)]], esz := 2, box := true, solo := true, tip := false } ∧ s.env 5 = .int .i64 (i : Nat)) ds.length ?_ ?_ ds.length 0 _ (by omega) ?_
  · rintro i s hi ⟨h2, h3, o2, o3, h5⟩
    have hw : IntKind.i64.wrap ((i + 1 : Nat) : Int) = (i + 1 : Nat) := wrap_i64n (by omega)
    simp only [L56_0, tmR, seval, h2, h3, o2, o3, h5, dig_len, nat_lt, hi, iaddr_dig hi, nat_add_one, hw]
  · rintro s ⟨h2, h3, o2, o3, h5⟩
    simp only [L56_0, tmR, seval, h2, h3, o2, o3, h5, dig_len, Int.lt_irrefl, tmF]
  · simp only [tmD, reduceIte, Nat.reduceEqDiff, Nat.reduceAdd]
    rfl
theorem same_c (n : Bool) (ds : List Nat) (m : Bool) (es : List Nat) (hl : ds.length < 2147483648) (hl2 : es.length < 2147483648) : Gives mach 32 [rawQ n ds m es, rawQ n ds m es] (.bool true) := by
  have s1 := sameInt_c n ds hl
  have s2 := sameInt_c m es hl2
  refine gives tab32 rfl ?_
  simp only [F32, tmR, seval, wpcall_eq s1, wpcall_eq s2, tmF]
theorem rqdiv_c {j k v w x y} (hv : IsQ j v x) (hw : IsQ k w y) (hj : j + k < 33554400) (hj0 : 0 < j) (hk0 : 0 < k) : Gives mach 26 [v, w] (encQ (x / y)) := by
  have c1 := rcanon_c hv (by omega)
  have c2 := rcanon_c hw (by omega)
  have d1 := hv.dq hj0
  have d2 := hw.dq hk0
  have m1 := rmul_c (isI_enc d1.1) (isI_enc d2.2) (by omega) (by omega)
  have m3 := rmul_c (isI_enc d1.2) (isI_enc d2.1) (by omega) (by omega)
  have e1 := d1.1.mul d2.2
  have e3 := d1.2.mul d2.1
  have r := rnew_c (isI_enc e1) (isI_enc e3) (by omega) (by omega)
  have e : Rat.divInt (x.num * y.den) (x.den * y.num) = x / y := by
    conv => rhs; rw [Rat.div_def, ← Rat.num_divInt_den x, ← Rat.num_divInt_den y, Rat.inv_divInt, Rat.divInt_mul_divInt]
  rw [e] at r
  obtain ⟨n, ds, m, es, rfl, -⟩ := hv
  obtain ⟨n', ds', m', es', rfl, -⟩ := hw
  refine gives tab26 rfl ?_
  simp only [F26, tmR, seval, wpcall_eq c1, wpcall_eq c2, wpcall_eq m1, wpcall_eq m3, wpcall_eq r, tmF]
theorem dq_div {j k x y} (hx : Dq j x) (hy : Dq k y) (h : 0 < j + k) : Dq (j + k) (x / y) := by
  have := dq_divInt (k := j + k) h (hx.1.mul hy.2) (hx.2.mul hy.1)
  have e : Rat.divInt (x.num * y.den) (x.den * y.num) = x / y := by
    conv => rhs; rw [Rat.div_def, ← Rat.num_divInt_den x, ← Rat.num_divInt_den y, Rat.inv_divInt, Rat.divInt_mul_divInt]
  rwa [e] at this
def andm (x : Int) (m : Nat) : Nat := (BitVec.ofInt 64 x &&& BitVec.ofNat 64 m).toNat
theorem andm_le (x : Int) (m : Nat) : andm x m ≤ m := by
  unfold andm; rw [BitVec.toNat_and, BitVec.toNat_ofNat]
  exact Nat.le_trans Nat.and_le_right (Nat.mod_le _ _)
theorem bin_and_i64 (b) (x : Int) (m : Nat) (hm : m < 9223372036854775808) : binTV b .and (.int .i64 x) (.int .i64 (m : Int)) = some (.int .i64 ((andm x m : Nat) : Int)) := by
  have h := andm_le x m
  have e : (BitVec.ofInt IntKind.i64.bits x &&& BitVec.ofInt IntKind.i64.bits (m : Int)).toNat = andm x m := by
    show (BitVec.ofInt 64 x &&& BitVec.ofInt 64 (m : Int)).toNat = _
    rw [ofInt_nat]; rfl
  simp only [binTV, if_true, e]
  rw [wrap_i64n (by omega)]
theorem and65535 (b x) : binTV b .and (.int .i64 x) (.int .i64 65535) = some (.int .i64 ((andm x 65535 : Nat) : Int)) := bin_and_i64 b x 65535 (by omega)
theorem and15 (b x) : binTV b .and (.int .i64 x) (.int .i64 15) = some (.int .i64 ((andm x 15 : Nat) : Int)) := bin_and_i64 b x 15 (by omega)
theorem and7 (b x) : binTV b .and (.int .i64 x) (.int .i64 7) = some (.int .i64 ((andm x 7 : Nat) : Int)) := bin_and_i64 b x 7 (by omega)
theorem and3 (b x) : binTV b .and (.int .i64 x) (.int .i64 3) = some (.int .i64 ((andm x 3 : Nat) : Int)) := bin_and_i64 b x 3 (by omega)
theorem and1 (b x) : binTV b .and (.int .i64 x) (.int .i64 1) = some (.int .i64 ((andm x 1 : Nat) : Int)) := bin_and_i64 b x 1 (by omega)
theorem bin_shr_i64 (b kk) (x y : Int) (hy : 0 ≤ y) : binTV b .shr (.int .i64 x) (.int kk y) = some (.int .i64 (x.fdiv (2 ^ (min y.toNat 64)))) := by
  simp only [binTV]; rw [if_pos hy]; rfl
theorem rem_nat (n m : Nat) : (n : Int).tmod (m : Int) = ((n % m : Nat) : Int) := (Int.ofNat_tmod n m).symm
theorem at_ex (l : List Int) (i : Nat) (hl : l.length < 9223372036854775808) (hi : i < 2147483648) : ∃ v : Nat, v ≤ 65535 + i ∧ Gives mach 11 [.sl (ints .i64 l), .int .i64 (i : Nat)] (.int .i64 (v : Nat)) := by
  by_cases h0 : l.length = 0
  · refine ⟨andm i 65535, by have := andm_le i 65535; omega, gives tab11 rfl ?_⟩
    have h0' : ((l.length : Int) = 0) = True := eq_true (by omega)
    simp only [F11, tmR, seval, ints_len, h0', and65535, tmF]
  · have h0' : ((l.length : Int) = 0) = False := eq_false (by omega)
    have hz : ((l.length : Nat) : Int) ≠ 0 := by omega
    have hlt : i % l.length < l.length := Nat.mod_lt _ (by omega)
    have hle := andm_le (l.getD (i % l.length) 0) 65535
    have hd : i / l.length ≤ i := Nat.div_le_self _ _
    have hw : IntKind.i64.wrap ((i / l.length : Nat) : Int) = (i / l.length : Nat) := wrap_i64n (by omega)
    have hw2 : IntKind.i64.wrap ((andm (l.getD (i % l.length) 0) 65535 + i / l.length : Nat) : Int) = (andm (l.getD (i % l.length) 0) 65535 + i / l.length : Nat) := wrap_i64n (by omega)
    refine ⟨andm (l.getD (i % l.length) 0) 65535 + i / l.length, by omega, gives tab11 rfl ?_⟩
    simp only [F11, tmR, seval, ints_len, h0', bin_rem _ _ _ _ hz, rem_nat, iaddr_ints hlt, and65535, bin_quo _ _ _ _ hz, quo_nat, hw, ← Int.natCast_add, hw2, tmF]
open Classical in
noncomputable def atN (l : List Int) (i : Nat) : Nat := if h : l.length < 9223372036854775808 ∧ i < 2147483648 then Classical.choose (at_ex l i h.1 h.2) else 0
theorem at_c (l : List Int) (i : Nat) (hl : l.length < 9223372036854775808) (hi : i < 2147483648) : Gives mach 11 [.sl (ints .i64 l), .int .i64 (i : Nat)] (.int .i64 (atN l i : Nat)) := by
  unfold atN; rw [dif_pos ⟨hl, hi⟩]; exact (Classical.choose_spec (at_ex l i hl hi)).2
theorem atN_le (l : List Int) (i : Nat) : atN l i ≤ 65535 + i := by
  unfold atN; split
  · rename_i h; exact (Classical.choose_spec (at_ex l i h.1 h.2)).1
  · omega
theorem frac_ex (n : Int) : ∃ q, Dq 4 q ∧ Gives mach 14 [.int .i64 n] (encQ q) := by
  have h1 := andm_le n 15
  have h2 := andm_le (n.fdiv (2 ^ (min (Int.toNat 4) 64))) 3
  have i1 := rint_c (n := (andm n 15 : Int) - 5) (by unfold I64; omega)
  have i2 := rint_c (n := 1 + (andm (n.fdiv (2 ^ (min (Int.toNat 4) 64))) 3 : Int)) (by unfold I64; omega)
  have d1 := dq_int (n := (andm n 15 : Int) - 5) (by unfold I64; omega)
  have d2 := dq_int (n := 1 + (andm (n.fdiv (2 ^ (min (Int.toNat 4) 64))) 3 : Int)) (by unfold I64; omega)
  have dv := rqdiv_c (isQ_enc d1) (isQ_enc d2) (by omega) (by omega) (by omega)
  have w1 : IntKind.i64.wrap ((andm n 15 : Int) - 5) = (andm n 15 : Int) - 5 := wrap_i64 (by omega) (by omega)
  have w2 : IntKind.i64.wrap (1 + (andm (n.fdiv (2 ^ (min (Int.toNat 4) 64))) 3 : Int)) = 1 + (andm (n.fdiv (2 ^ (min (Int.toNat 4) 64))) 3 : Int) := wrap_i64 (by omega) (by omega)
  have hs := fun b kk => bin_shr_i64 b kk n 4 (by decide)
  refine ⟨_, dq_div d1 d2 (by omega), gives tab14 rfl ?_⟩
  generalize n.fdiv (2 ^ (min (Int.toNat 4) 64)) = t at *
  simp only [F14, tmR, seval, and15, w1, wpcall_eq i1, hs, and3, w2, wpcall_eq i2, wpcall_eq dv, tmF]
open Classical in
noncomputable def fracQ (n : Int) : Rat := Classical.choose (frac_ex n)
theorem frac_c (n : Int) : Gives mach 14 [.int .i64 n] (encQ (fracQ n)) := (Classical.choose_spec (frac_ex n)).2
theorem fracQ_dq (n : Int) : Dq 4 (fracQ n) := (Classical.choose_spec (frac_ex n)).1
end Go.TM.Fn
end
section
namespace Go.TM
variable {M : Mach}
def eqsTV (neg : Bool) (ks : List Nat) (x y : TV) : Option TV := match x, y with
  | .agg a, .agg b => (eqK ks a b).map fun r => .bool (if neg then !r else r)
  | _, _ => none
theorem wp_eqs (d : Nat) (vk : Vk) (r : List TStep) (Q : St → Prop) (st : St) (neg ks x y) : Wp M (⟨some d, .eqs neg ks x y, none, vk⟩ :: r) Q st = WpV M r Q st d (eqsTV neg ks (Go.TM.val st.env x) (Go.TM.val st.env y)) := by
  rw [wp_ev]
  have e : ev (.eqs neg ks x y) ((some d).getD 0) (st.cnt ((some d).getD 0)) (Go.TM.val st.env) (restrict st.obj vk) = (eqsTV neg ks (Go.TM.val st.env x) (Go.TM.val st.env y)).map fun v => Ev.eff { v := v } := by
    simp only [ev, eqsTV]
    cases Go.TM.val st.env x <;> try rfl
    cases Go.TM.val st.env y <;> try rfl
    rename_i a b
    simp only []
    cases hk : eqK ks a b <;> simp [hk]
  rw [e]
  cases eqsTV neg ks (Go.TM.val st.env x) (Go.TM.val st.env y) with
  | none => simp [WpEv, WpV]
  | some v => rw [wpv_some]; simp only [Option.map_some, wpev_eff]; rfl
end Go.TM
namespace Go.TM.Fn
open Go Go.TM Go.Plain
set_option linter.unusedVariables false
set_option linter.unusedSimpArgs false
set_option maxRecDepth 20000
set_option maxHeartbeats 4000000
theorem sameInts_c (xs : List Int) (hl : xs.length < 2147483648) : Gives mach 49 [.sl (ints .i64 xs), .sl (ints .i64 xs)] (.bool true) := by
  refine gives tab49 rfl ?_
  simp only [F49, tmR, seval, ints_len, eq_self]
  refine wp_for (fun i s => s.env 0 = .sl (ints .i64 xs) ∧ s.env 1 = .sl (ints .i64 xs) ∧ s.env 5 = .int .i64 (i : Nat)) xs.length ?_ ?_ xs.length 0 _ (by omega) ?_
  · rintro i s hi ⟨h0, h1, h5⟩
    have hw : IntKind.i64.wrap ((i + 1 : Nat) : Int) = (i + 1 : Nat) := wrap_i64n (by omega)
    simp only [L49_0, tmR, seval, h0, h1, h5, ints_len, nat_lt, hi, iaddr_ints hi, nat_add_one, hw]
  · rintro s ⟨h0, h1, h5⟩
    simp only [L49_0, tmR, seval, h0, h1, h5, ints_len, Int.lt_irrefl, tmF]
  · simp only [tmD, reduceIte, Nat.reduceEqDiff, Nat.reduceAdd]
    rfl
theorem sameCuts_c (cs : List Cu) (hl : cs.length < 2147483648) (hr : ∀ c ∈ cs, c.rs.length < 2147483648) : Gives mach 24 [.sl (cs.map cutC), .sl (cs.map cutC)] (.bool true) := by
  refine gives tab24 rfl ?_
  have ml : (cs.map cutC).length = cs.length := map_len _
  simp only [F24, tmR, seval, ml, eq_self]
  refine wp_for (fun i s => s.env 0 = .sl (cs.map cutC) ∧ s.env 1 = .sl (cs.map cutC) ∧ s.env 5 = .int .i64 (i : Nat)) cs.length ?_ ?_ cs.length 0 _ (by omega) ?_
  · rintro i s hi ⟨h0, h1, h5⟩
    have hw : IntKind.i64.wrap ((i + 1 : Nat) : Int) = (i + 1 : Nat) := wrap_i64n (by omega)
    have ia := iaddr_map (C := cutC) (kk := .i64) default (e := 2) (fun _ => rfl) hi
    simp only [cutC] at ia
    have si := sameInts_c (cs.getD i default).rs (hr _ (getD_mem default hi))
    simp only [L24_0, tmR, seval, h0, h1, h5, ml, nat_lt, hi, ia, wpcall_eq si, Bool.not_true, Bool.not_false, nat_add_one, hw]
  · rintro s ⟨h0, h1, h5⟩
    simp only [L24_0, tmR, seval, h0, h1, h5, ml, Int.lt_irrefl, tmF]
  · simp only [tmD, reduceIte, Nat.reduceEqDiff, Nat.reduceAdd]
    rfl
theorem RQ.Ok.mono {j k r} (h : RQ.Ok j r) (hk : j ≤ k) : RQ.Ok k r := ⟨h.1, h.2.1, Nat.le_trans h.2.2.1 hk, Nat.le_trans h.2.2.2 hk⟩
theorem sameList_c (rs : List RQ) (hl : rs.length < 2147483648) (hr : ∀ r ∈ rs, RQ.Ok 100000 r) : Gives mach 29 [.sl (rs.map rqC), .sl (rs.map rqC)] (.bool true) := by
  refine gives tab29 rfl ?_
  have ml : (rs.map rqC).length = rs.length := map_len _
  simp only [F29, tmR, seval, ml, eq_self]
  refine wp_for (fun i s => s.env 0 = .sl (rs.map rqC) ∧ s.env 1 = .sl (rs.map rqC) ∧ s.env 5 = .int .i64 (i : Nat)) rs.length ?_ ?_ rs.length 0 _ (by omega) ?_
  · rintro i s hi ⟨h0, h1, h5⟩
    have hw : IntKind.i64.wrap ((i + 1 : Nat) : Int) = (i + 1 : Nat) := wrap_i64n (by omega)
    have ia := iaddr_map (C := rqC) (kk := .i64) default (e := 4) (fun _ => rfl) hi
    have ok := hr _ (getD_mem default hi)
    have si := same_c (rs.getD i default).n (rs.getD i default).ds (rs.getD i default).m (rs.getD i default).es (by have := ok.2.2.1; omega) (by have := ok.2.2.2; omega)
    generalize rs.getD i default = r at *
    simp only [rqC] at ia
    simp only [L29_0, tmR, seval, h0, h1, h5, ml, nat_lt, hi, ia, wpcall_eq si, Bool.not_true, nat_add_one, hw]
  · rintro s ⟨h0, h1, h5⟩
    simp only [L29_0, tmR, seval, h0, h1, h5, ml, Int.lt_irrefl, tmF]
  · simp only [tmD, reduceIte, Nat.reduceEqDiff, Nat.reduceAdd]
    rfl
theorem sameDecs_c (ds : List Dec) (hl : ds.length < 2147483648) : Gives mach 25 [.sl (ds.map decC), .sl (ds.map decC)] (.bool true) := by
  refine gives tab25 rfl ?_
  have ml : (ds.map decC).length = ds.length := map_len _
  simp only [F25, tmR, seval, ml, eq_self]
  refine wp_for (fun i s => s.env 0 = .sl (ds.map decC) ∧ s.env 1 = .sl (ds.map decC) ∧ s.env 5 = .int .i64 (i : Nat)) ds.length ?_ ?_ ds.length 0 _ (by omega) ?_
  · rintro i s hi ⟨h0, h1, h5⟩
    have hw : IntKind.i64.wrap ((i + 1 : Nat) : Int) = (i + 1 : Nat) := wrap_i64n (by omega)
    have ia := iaddr_map (C := decC) (kk := .i64) default (e := 3) (fun _ => rfl) hi
    simp only [decC] at ia
    have eq : ∀ a b c, eqsTV true [0, 0, 1] (.agg [.int .i64 a, .int .i64 b, .bool c]) (.agg [.int .i64 a, .int .i64 b, .bool c]) = some (.bool false) := fun a b c => by simp [eqsTV, eqK]
    simp only [L25_0, tmR, seval, h0, h1, h5, ml, nat_lt, hi, ia, wp_eqs, eq, nat_add_one, hw]
  · rintro s ⟨h0, h1, h5⟩
    simp only [L25_0, tmR, seval, h0, h1, h5, ml, Int.lt_irrefl, tmF]
  · simp only [tmD, reduceIte, Nat.reduceEqDiff, Nat.reduceAdd]
    rfl
theorem samePri_c (x : Pri) (h1 : x.fls.length < 2147483648) (h2 : x.cuts.length < 2147483648) (h3 : x.duals.length < 2147483648) (h4 : x.decs.length < 2147483648) (hr : ∀ c ∈ x.cuts, c.rs.length < 2147483648) (hf : ∀ r ∈ x.fls, RQ.Ok 100000 r) (hd : ∀ r ∈ x.duals, RQ.Ok 100000 r) :
    Gives mach 9 [priT x, priT x] (.bool true) := by
  have c1 := sameList_c x.fls h1 hf
  have c2 := sameCuts_c x.cuts h2 hr
  have c3 := sameList_c x.duals h3 hd
  have c4 := sameDecs_c x.decs h4
  have e : (x.free == x.free) = true := by simp
  refine gives tab9 rfl ?_
  simp only [F9, tmR, seval, wpcall_eq c1, wpcall_eq c2, wpcall_eq c3, wpcall_eq c4, e, tmF]
end Go.TM.Fn
end
section
namespace Go.TM.Fn
open Go Go.TM Go.Plain
set_option linter.unusedVariables false
set_option linter.unusedSimpArgs false
set_option maxRecDepth 20000
set_option maxHeartbeats 4000000
theorem trees_unsol (b hs) (st : St) : ∀ cs, trees (unsol b hs st).obj cs = trees st.obj cs
  | [] => rfl
  | c :: cs => by
    have h1 : tree1 (unsol b hs st).obj c = tree1 st.obj c := by
      cases c <;> try rfl
      simp only [tree1, unsol_objG]
      cases st.obj _ _ <;> rfl
    simp only [trees, h1, trees_unsol b hs st cs]
theorem grows_unsol {st : St} {d e v xs} {b hs} (h : Grows st d e v xs) : Grows (unsol b hs st) d e v xs := by
  rcases h with h | ⟨g, o, h1, h2, h3, h4, h5, h6, h7⟩
  · exact .inl h
  · refine .inr ⟨g, { cont := o.cont, esz := o.esz, box := o.box, solo := (if b && hs.contains (d, g) then o.box && o.solo else o.solo), tip := o.tip }, h1, by rw [unsol_cnt]; exact h2, ?_, h4, h5, h6, h7⟩
    rw [unsol_objG, h3]; rfl
def SmallDs (n : Nat) (ds : List (List Task)) : Prop := ds.length ≤ n ∧ ∀ d ∈ ds, d.length ≤ n
theorem oper_le {n : Nat} {ds : List (List Task)} (h : SmallDs n ds) : (oper ds).length ≤ n * n := by
  have : ∀ (l : List (List Task)), (∀ d ∈ l, d.length ≤ n) → (oper l).length ≤ l.length * n := by
    intro l
    induction l with
    | nil => intro _; simp [oper]
    | cons d l ih =>
      intro hl
      have h1 := ih fun d hd => hl d (List.mem_cons_of_mem _ hd)
      have h2 := hl d List.mem_cons_self
      have h3 : (operD d).length ≤ d.length := by unfold operD; rw [List.length_map]; exact List.length_filter_le _ _
      have e : oper (d :: l) = operD d ++ oper l := by simp [oper]
      rw [e, List.length_append, List.length_cons, Nat.succ_mul]
      omega
  exact Nat.le_trans (this ds h.2) (Nat.mul_le_mul_right _ h.1)
theorem shr_var (b : Bool) (x : Int) (r : Nat) : binTV b .shr (.int .i64 x) (.int .u64 (r : Nat)) = some (.int .i64 (x.fdiv (2 ^ (min r 64)))) := by
  rw [bin_shr_i64 _ _ _ _ (by omega), Int.toNat_natCast]
def GrowsS (st : St) (S : List Nat) (e : Nat) (v : TV) (xs : Cont) : Prop :=
  (xs = [] ∧ v = .nils) ∨ ∃ k g o, k ∈ S ∧ v = .hs k g e xs.length ∧ g < st.cnt k ∧ st.obj k g = some o ∧ o.cont = xs ∧ o.box = false ∧ o.esz = e ∧ o.tip = true
theorem GrowsS.mono {st st' : St} {S e v xs} (h : GrowsS st S e v xs) (ho : ∀ k g, k ∈ S → g < st.cnt k → st'.obj k g = st.obj k g) (hc : ∀ k, k ∈ S → st.cnt k ≤ st'.cnt k) : GrowsS st' S e v xs := by
  rcases h with h | ⟨k, g, o, h0, h1, h2, h3, h4⟩
  · exact .inl h
  · exact .inr ⟨k, g, o, h0, h1, Nat.lt_of_lt_of_le h2 (hc k h0), by rw [ho k g h0 h2]; exact h3, h4⟩
theorem GrowsS.unsol {st : St} {S e v xs} {b hs} (h : GrowsS st S e v xs) : GrowsS (unsol b hs st) S e v xs := by
  rcases h with h | ⟨k, g, o, h0, h1, h2, h3, h4, h5, h6, h7⟩
  · exact .inl h
  · refine .inr ⟨k, g, { cont := o.cont, esz := o.esz, box := o.box, solo := (if b && hs.contains (k, g) then o.box && o.solo else o.solo), tip := o.tip }, h0, h1, by rw [unsol_cnt]; exact h2, ?_, h4, h5, h6, h7⟩
    rw [unsol_objG, h3]; rfl
theorem GrowsS.tree {st S e v xs} (h : GrowsS st S e v xs) : tree1 st.obj v = some (.sl xs) := by
  rcases h with ⟨rfl, rfl⟩ | ⟨k, g, o, _, rfl, _, h3, rfl, h4, h5, _⟩
  · rfl
  · simp [tree1, h3, h4, h5]
theorem GrowsS.len {st S e v xs} (h : GrowsS st S e v xs) : lenTV false v = some (.int .i64 (xs.length : Nat)) := by
  rcases h with ⟨rfl, rfl⟩ | ⟨k, g, o, _, rfl, _⟩ <;> rfl
theorem GrowsS.cells {st S e v xs} (h : GrowsS st S e v xs) : v.cells = [v] := by
  rcases h with ⟨rfl, rfl⟩ | ⟨k, g, o, _, rfl, _⟩ <;> rfl
theorem wp_growS {M : Mach} (S : List Nat) (d : Nat) (hd : d ∈ S) (vk : Vk) (r : List TStep) (Q : St → Prop) (st : St) (e s x) {xs zs} (hs : GrowsS st S e (Go.TM.val st.env s) xs) (hv : ∀ k g, restrict st.obj vk k g = st.obj k g) (hx : Go.TM.elems (restrict st.obj vk) e (Go.TM.val st.env x) = some zs) (hz : zs ≠ []) (hl : xs.length + zs.length < 2147483648)
    (hQ : ∀ st' v, (∀ i, st'.env i = if i = d then v else st.env i) → (∀ k g, ¬ k ∈ S → st'.obj k g = st.obj k g) → (∀ k, k ≠ d → st'.cnt k = st.cnt k) → GrowsS st' S e v (xs ++ zs) → Wp M r Q st') :
    Wp M (⟨some d, .app e false s x, none, vk⟩ :: r) Q st := by
  rw [wp_app]
  rcases hs with ⟨rfl, hs⟩ | ⟨k0, g, o, hk0, hs, hg, ho, rfl, hb, he, ht⟩
  · rw [hs, app_nils hx hz (by simpa using hl), wpeff_some, apply_new1]
    refine hQ _ (.hs d (st.cnt d) e zs.length) (fun i => rfl) (fun k g hk => ?_) (fun k hk => ?_) (.inr ⟨d, st.cnt d, { cont := zs, esz := e, box := false, solo := true, tip := true }, hd, rfl, ?_, ?_, rfl, rfl, rfl, rfl⟩)
    · simp only [bump_obj, putO_obj]; rw [if_neg (by rintro ⟨rfl, _⟩; exact hk hd)]
    · simp only [bump_cnt, putO_cnt]; rw [if_neg hk]
    · simp only [bump_cnt]; simp
    · simp only [bump_obj, putO_obj]; simp
  · rw [hs]
    have ha : appE d (st.cnt d) (restrict st.obj vk) e false (.hs k0 g e o.cont.length) (Go.TM.val st.env x) = some { v := .hs d (st.cnt d) e (o.cont.length + zs.length), new := [{ cont := o.cont ++ zs, esz := e, box := false, solo := false, tip := true }], mods := [(k0, g, some { o with solo := false, tip := false })] } := by
      simp only [appE, hx, hv, ho]
      rw [if_pos (by simp [hb, he, ht, hl])]
      simp
    rw [ha, wpeff_some]
    refine hQ _ (.hs d (st.cnt d) e (o.cont.length + zs.length)) (fun i => rfl) (fun k g' hk => ?_) (fun k hk => ?_) (.inr ⟨d, st.cnt d, { cont := o.cont ++ zs, esz := e, box := false, solo := false, tip := true }, hd, by rw [List.length_append], ?_, ?_, rfl, rfl, rfl, rfl⟩)
    · simp only [apply, addNew, List.foldl_cons, List.foldl_nil, updO]; rw [if_neg (by rintro ⟨rfl, _⟩; exact hk hd), if_neg (by rintro ⟨rfl, _⟩; exact hk hk0)]
    · simp only [apply, upd]; rw [if_neg hk]
    · simp only [apply, upd]; simp
    · simp only [apply, addNew, List.foldl_cons, List.foldl_nil, updO]; simp
theorem apply_unew (d : Nat) (v : TV) (us) (o : Obj) (st : St) : apply (some d) { v := v, new := [o], unsolo := us } st = bump (putO (unsol true us st) d v d (st.cnt d) (some o)) d (st.cnt d + 1) := rfl
theorem loopCol {Q : Ex → St → Prop} {st : St} (rows : List Int) (n k : Int) (h5 : rows.length ≤ 5) (h0 : st.env 0 = .sl (ints .i64 rows)) (h1 : st.env 1 = .int .i64 n) (h2 : st.env 2 = .int .i64 k) (h6 : st.env 6 = .ptr 6 0 0 0) (ho6 : ∃ a b c, st.obj 6 0 = some { cont := [[a, b, c]], esz := 3, box := true, solo := true, tip := false })
    (d0 : List Task) (hd0 : d0.length ≤ 1) (h7 : GrowsS st [18, 51, 73] 2 (st.env 7) (d0.map taskC)) (h8 : st.env 8 = .nils) (h9 : ∃ b, st.env 9 = .bool b) (h10 : st.env 10 = .int .i64 0)
    (hQ : ∀ (s : St) (d : List Task) (ds : List (List Task)), s.env 0 = .sl (ints .i64 rows) → s.env 1 = .int .i64 n → s.env 6 = .ptr 6 0 0 0 → (∃ a b c, s.obj 6 0 = some { cont := [[a, b, c]], esz := 3, box := true, solo := true, tip := false }) → GrowsS s [18, 51, 73] 2 (s.env 7) (d.map taskC) → d.length ≤ 7 → GrowsS s [59, 80] 1 (s.env 8) (dutiesC ds) → SmallDs 7 ds → (∃ b, s.env 9 = .bool b) → Q (.exit 0) s) :
    Goes mach (.loop L12_0) Q st := by
  refine wp_for (fun i s => s.env 0 = .sl (ints .i64 rows) ∧ s.env 1 = .int .i64 n ∧ s.env 2 = .int .i64 k ∧ s.env 6 = .ptr 6 0 0 0 ∧ (∃ a b c, s.obj 6 0 = some { cont := [[a, b, c]], esz := 3, box := true, solo := true, tip := false }) ∧ (∃ b, s.env 9 = .bool b) ∧ s.env 10 = .int .i64 (i : Nat) ∧
    ∃ (d : List Task) (ds : List (List Task)), GrowsS s [18, 51, 73] 2 (s.env 7) (d.map taskC) ∧ d.length ≤ 1 + i ∧ GrowsS s [59, 80] 1 (s.env 8) (dutiesC ds) ∧ SmallDs (1 + i) ds) rows.length ?_ ?_ rows.length 0 _ (by omega) ?_
  · rintro i s hi ⟨h0, h1, h2, h6, ⟨oa, ob, oc, ho6⟩, ⟨b9, h9⟩, h10, d, ds, hg7, hd, hg8, hds⟩
    have hw : IntKind.i64.wrap ((i + 1 : Nat) : Int) = (i + 1 : Nat) := wrap_i64n (by omega)
    have hwl : IntKind.i64.wrap ((rows.length : Int) - 1) = ((rows.length - 1 : Nat) : Int) := by rw [wrap_i64 (by omega) (by omega)]; omega
    have hwi : IntKind.i64.wrap (((rows.length - 1 : Nat) : Int) - (i : Nat)) = ((rows.length - 1 - i : Nat) : Int) := by rw [wrap_i64 (by omega) (by omega)]; omega
    have hwu : IntKind.u64.wrap (i : Nat) = (i : Nat) := by rw [wrap_u64, Nat.mod_eq_of_lt (by omega)]
    have hri : rows.length - 1 - i < rows.length := by omega
    have hk1 := fun b kk => bin_shr_i64 b kk k 1 (by decide)
    have hk4 := fun b kk => bin_shr_i64 b kk k 4 (by decide)
    have hni := shr_var false n i
    generalize k.fdiv (2 ^ (min (Int.toNat 1) 64)) = ka at *
    generalize k.fdiv (2 ^ (min (Int.toNat 4) 64)) = kb at *
    generalize n.fdiv (2 ^ (min i 64)) = na at *
    by_cases c1 : (andm ka 7 : Int) = 7
    ·
      by_cases c2 : (andm na 1 : Int) = 1
      · simp only [L12_0, tmR, seval, h0, h1, h2, h6, h9, h10, ints_len, nat_lt, hi, iaddr_ints hi, hk1, and7, c1, hwl, hwi, iaddr_ints hri, hwu, hni, and1, c2]
        refine wp_growS [18, 51, 73] 51 (by decide) .full _ _ _ _ _ _ (xs := d.map taskC) (zs := [taskC (rows.getD (rows.length - 1 - i) 0, false)]) ?_ (fun k g => rfl) ?_ (by simp) (by simp; omega) ?_
        · simp only [tmR, seval]
          exact hg7.mono (fun k g hk _ => by simp only [List.mem_cons, List.not_mem_nil, or_false] at hk; rcases hk with rfl | rfl | rfl <;> simp only [tmD, reduceIte, Nat.reduceEqDiff, Nat.reduceAdd]) (fun k hk => by simp only [List.mem_cons, List.not_mem_nil, or_false] at hk; rcases hk with rfl | rfl | rfl <;> simp only [tmD, reduceIte, Nat.reduceEqDiff, Nat.reduceAdd] <;> exact Nat.le_refl _)
        · simp only [tmR, seval, elems]; rfl
        · intro st' v henv hobj hcnt hg'
          have ho6' := hobj 6 0 (by decide)
          simp only [tmD, reduceIte, Nat.reduceEqDiff, Nat.reduceAdd, ho6] at ho6'
          have hg8' : GrowsS st' [59, 80] 1 (s.env 8) (dutiesC ds) := hg8.mono (fun k g hk _ => by
            have e := hobj k g (by simp only [List.mem_cons, List.not_mem_nil, or_false] at hk; rcases hk with rfl | rfl <;> decide)
            simp only [List.mem_cons, List.not_mem_nil, or_false] at hk
            rw [e]; rcases hk with rfl | rfl <;> simp only [tmD, reduceIte, Nat.reduceEqDiff, Nat.reduceAdd]) (fun k hk => by
            have e := hcnt k (by simp only [List.mem_cons, List.not_mem_nil, or_false] at hk; rcases hk with rfl | rfl <;> decide)
            simp only [List.mem_cons, List.not_mem_nil, or_false] at hk
            rw [e]; rcases hk with rfl | rfl <;> simp only [tmD, reduceIte, Nat.reduceEqDiff, Nat.reduceAdd] <;> exact Nat.le_refl _)
          have em : d.map taskC ++ [taskC (rows.getD (rows.length - 1 - i) 0, false)] = (d ++ [(rows.getD (rows.length - 1 - i) 0, false)]).map taskC := by simp
          rw [em] at hg'
          by_cases c3 : (andm kb 3 : Int) = 3
          · have hdl : (d ++ [(rows.getD (rows.length - 1 - i) 0, false)]).length ≤ 1 + (i + 1) := by simp; omega
            generalize d ++ [(rows.getD (rows.length - 1 - i) 0, false)] = dd at hg' hdl
            obtain ⟨hnil, hv⟩ | ⟨k0, g0, o, hk0, rfl, hg0, hog, hoc, hob, hoe, hot⟩ := hg'
            · subst hv
              have hz : dd = [] := by simpa using hnil
              subst hz
              simp only [tmR, seval, henv, h0, h1, h2, h6, hk4, and3, c3]
              refine wp_growS [59, 80] 59 (by decide) .full _ _ _ _ _ _ (xs := dutiesC ds) (zs := [dutyC []]) ?_ (fun k g => rfl) ?_ (by simp) (by have := hds.1; simp [dutiesC]; omega) ?_
              · simp only [tmR, seval]
                exact hg8'.mono (fun k g hk _ => by simp only [List.mem_cons, List.not_mem_nil, or_false] at hk; rcases hk with rfl | rfl <;> simp only [tmD, reduceIte, Nat.reduceEqDiff, Nat.reduceAdd]) (fun k hk => by simp only [List.mem_cons, List.not_mem_nil, or_false] at hk; rcases hk with rfl | rfl <;> simp only [tmD, reduceIte, Nat.reduceEqDiff, Nat.reduceAdd] <;> exact Nat.le_refl _)
              · simp only [tmR, seval, elems]; rfl
              · intro st2 v2 henv2 hobj2 hcnt2 hg2
                have ho62 := hobj2 6 0 (by decide)
                simp only [tmD, reduceIte, Nat.reduceEqDiff, Nat.reduceAdd, ho6'] at ho62
                simp only [tmR, seval, henv2, henv, h0, h1, h2, h6, h10, nat_add_one, hw]
                refine ⟨⟨oa, ob, oc, ho62⟩, ⟨true, rfl⟩, [], ds ++ [[]], .inl ⟨rfl, rfl⟩, by simp, ?_, by have := hds.1; simp; omega, fun x hx => ?_⟩
                · have e : dutiesC ds ++ [dutyC []] = dutiesC (ds ++ [[]]) := by simp [dutiesC]
                  rw [← e]
                  exact hg2.mono (fun k g hk _ => by simp only [tmD, reduceIte, Nat.reduceEqDiff, Nat.reduceAdd]) (fun k hk => by simp only [tmD, reduceIte, Nat.reduceEqDiff, Nat.reduceAdd]; exact Nat.le_refl _)
                · rcases List.mem_append.1 hx with h | h
                  · have := hds.2 x h; omega
                  · simp only [List.mem_singleton] at h; subst h; simp
            · simp only [tmR, seval, henv, h0, h1, h2, h6, hk4, and3, c3, hog, hob, hoe, hoc, apply_unew, map_len, (show List.take dd.length (dd.map taskC) = dd.map taskC from List.take_of_length_le (by simp))]
              refine wp_growS [59, 80] 59 (by decide) .full _ _ _ _ _ _ (xs := dutiesC ds) (zs := [dutyC dd]) ?_ (fun k g => rfl) ?_ (by simp) (by have := hds.1; simp [dutiesC]; omega) ?_
              · simp only [tmR, seval]
                exact (hg8'.unsol (b := true) (hs := [(k0, g0)])).mono (fun k g hk _ => by simp only [List.mem_cons, List.not_mem_nil, or_false] at hk; rcases hk with rfl | rfl <;> simp only [tmD, reduceIte, Nat.reduceEqDiff, Nat.reduceAdd, unsol_objG]) (fun k hk => by simp only [List.mem_cons, List.not_mem_nil, or_false] at hk; rcases hk with rfl | rfl <;> simp only [tmD, reduceIte, Nat.reduceEqDiff, Nat.reduceAdd, unsol_cnt] <;> exact Nat.le_refl _)
              · simp only [tmR, seval, elems]; rfl
              · intro st2 v2 henv2 hobj2 hcnt2 hg2
                have hk6 : ¬ (6 = k0) := by simp only [List.mem_cons, List.not_mem_nil, or_false] at hk0; rcases hk0 with rfl | rfl | rfl <;> decide
                have ho62 := hobj2 6 0 (by decide)
                have hb6 : (6 == k0) = false := beq_false_of_ne hk6
                simp only [tmD, reduceIte, Nat.reduceEqDiff, Nat.reduceAdd, unsol_objG, ho6', Option.map_some, pr_beq, List.contains_cons, List.contains_nil, hb6, Bool.false_and, Bool.or_self, Bool.and_false, Bool.false_eq_true] at ho62
                simp only [tmR, seval, henv2, henv, h0, h1, h2, h6, h10, nat_add_one, hw]
                refine ⟨⟨oa, ob, oc, ho62⟩, ⟨true, rfl⟩, [], ds ++ [dd], .inl ⟨rfl, rfl⟩, by simp, ?_, by have := hds.1; simp; omega, fun x hx => ?_⟩
                · have e : dutiesC ds ++ [dutyC dd] = dutiesC (ds ++ [dd]) := by simp [dutiesC]
                  rw [← e]
                  exact hg2.mono (fun k g hk _ => by simp only [tmD, reduceIte, Nat.reduceEqDiff, Nat.reduceAdd]) (fun k hk => by simp only [tmD, reduceIte, Nat.reduceEqDiff, Nat.reduceAdd]; exact Nat.le_refl _)
                · rcases List.mem_append.1 hx with h | h
                  · have := hds.2 x h; omega
                  · simp only [List.mem_singleton] at h; subst h; omega
          · simp only [tmR, seval, henv, h0, h1, h2, h6, h10, hk4, and3, c3, nat_add_one, hw]
            refine ⟨⟨oa, ob, oc, ho6'⟩, ⟨true, rfl⟩, d ++ [(rows.getD (rows.length - 1 - i) 0, false)], ds, hg'.mono (fun k g hk _ => by simp only [tmD, reduceIte, Nat.reduceEqDiff, Nat.reduceAdd]) (fun k hk => by simp only [tmD, reduceIte, Nat.reduceEqDiff, Nat.reduceAdd]; exact Nat.le_refl _), by simp; omega, hg8'.mono (fun k g hk _ => by simp only [tmD, reduceIte, Nat.reduceEqDiff, Nat.reduceAdd]) (fun k hk => by simp only [tmD, reduceIte, Nat.reduceEqDiff, Nat.reduceAdd]; exact Nat.le_refl _), by have := hds.1; omega, fun x hx => by have := hds.2 x hx; omega⟩
      · simp only [L12_0, tmR, seval, h0, h1, h2, h6, h9, h10, ints_len, nat_lt, hi, iaddr_ints hi, hk1, and7, c1, hwl, hwi, iaddr_ints hri, hwu, hni, and1, c2, nat_add_one, hw]
        refine ⟨⟨oa, ob, oc, ho6⟩, ⟨b9, rfl⟩, d, ds, hg7.mono (fun k g hk _ => by simp only [tmD, reduceIte, Nat.reduceEqDiff, Nat.reduceAdd]) (fun k hk => by simp only [tmD, reduceIte, Nat.reduceEqDiff, Nat.reduceAdd]; exact Nat.le_refl _), by omega, hg8.mono (fun k g hk _ => by simp only [tmD, reduceIte, Nat.reduceEqDiff, Nat.reduceAdd]) (fun k hk => by simp only [tmD, reduceIte, Nat.reduceEqDiff, Nat.reduceAdd]; exact Nat.le_refl _), by have := hds.1; omega, fun x hx => by have := hds.2 x hx; omega⟩
    ·
      by_cases c2 : (andm na 1 : Int) = 1
      · simp only [L12_0, tmR, seval, h0, h1, h2, h6, h9, h10, ints_len, nat_lt, hi, iaddr_ints hi, hk1, and7, c1, hwu, hni, and1, c2]
        refine wp_growS [18, 51, 73] 51 (by decide) .full _ _ _ _ _ _ (xs := d.map taskC) (zs := [taskC (rows.getD i 0, false)]) ?_ (fun k g => rfl) ?_ (by simp) (by simp; omega) ?_
        · simp only [tmR, seval]
          exact hg7.mono (fun k g hk _ => by simp only [List.mem_cons, List.not_mem_nil, or_false] at hk; rcases hk with rfl | rfl | rfl <;> simp only [tmD, reduceIte, Nat.reduceEqDiff, Nat.reduceAdd]) (fun k hk => by simp only [List.mem_cons, List.not_mem_nil, or_false] at hk; rcases hk with rfl | rfl | rfl <;> simp only [tmD, reduceIte, Nat.reduceEqDiff, Nat.reduceAdd] <;> exact Nat.le_refl _)
        · simp only [tmR, seval, elems]; rfl
        · intro st' v henv hobj hcnt hg'
          have ho6' := hobj 6 0 (by decide)
          simp only [tmD, reduceIte, Nat.reduceEqDiff, Nat.reduceAdd, ho6] at ho6'
          have hg8' : GrowsS st' [59, 80] 1 (s.env 8) (dutiesC ds) := hg8.mono (fun k g hk _ => by
            have e := hobj k g (by simp only [List.mem_cons, List.not_mem_nil, or_false] at hk; rcases hk with rfl | rfl <;> decide)
            simp only [List.mem_cons, List.not_mem_nil, or_false] at hk
            rw [e]; rcases hk with rfl | rfl <;> simp only [tmD, reduceIte, Nat.reduceEqDiff, Nat.reduceAdd]) (fun k hk => by
            have e := hcnt k (by simp only [List.mem_cons, List.not_mem_nil, or_false] at hk; rcases hk with rfl | rfl <;> decide)
            simp only [List.mem_cons, List.not_mem_nil, or_false] at hk
            rw [e]; rcases hk with rfl | rfl <;> simp only [tmD, reduceIte, Nat.reduceEqDiff, Nat.reduceAdd] <;> exact Nat.le_refl _)
          have em : d.map taskC ++ [taskC (rows.getD i 0, false)] = (d ++ [(rows.getD i 0, false)]).map taskC := by simp
          rw [em] at hg'
          by_cases c3 : (andm kb 3 : Int) = 3
          · have hdl : (d ++ [(rows.getD i 0, false)]).length ≤ 1 + (i + 1) := by simp; omega
            generalize d ++ [(rows.getD i 0, false)] = dd at hg' hdl
            obtain ⟨hnil, hv⟩ | ⟨k0, g0, o, hk0, rfl, hg0, hog, hoc, hob, hoe, hot⟩ := hg'
            · subst hv
              have hz : dd = [] := by simpa using hnil
              subst hz
              simp only [tmR, seval, henv, h0, h1, h2, h6, hk4, and3, c3]
              refine wp_growS [59, 80] 59 (by decide) .full _ _ _ _ _ _ (xs := dutiesC ds) (zs := [dutyC []]) ?_ (fun k g => rfl) ?_ (by simp) (by have := hds.1; simp [dutiesC]; omega) ?_
              · simp only [tmR, seval]
                exact hg8'.mono (fun k g hk _ => by simp only [List.mem_cons, List.not_mem_nil, or_false] at hk; rcases hk with rfl | rfl <;> simp only [tmD, reduceIte, Nat.reduceEqDiff, Nat.reduceAdd]) (fun k hk => by simp only [List.mem_cons, List.not_mem_nil, or_false] at hk; rcases hk with rfl | rfl <;> simp only [tmD, reduceIte, Nat.reduceEqDiff, Nat.reduceAdd] <;> exact Nat.le_refl _)
              · simp only [tmR, seval, elems]; rfl
              · intro st2 v2 henv2 hobj2 hcnt2 hg2
                have ho62 := hobj2 6 0 (by decide)
                simp only [tmD, reduceIte, Nat.reduceEqDiff, Nat.reduceAdd, ho6'] at ho62
                simp only [tmR, seval, henv2, henv, h0, h1, h2, h6, h10, nat_add_one, hw]
                refine ⟨⟨oa, ob, oc, ho62⟩, ⟨true, rfl⟩, [], ds ++ [[]], .inl ⟨rfl, rfl⟩, by simp, ?_, by have := hds.1; simp; omega, fun x hx => ?_⟩
                · have e : dutiesC ds ++ [dutyC []] = dutiesC (ds ++ [[]]) := by simp [dutiesC]
                  rw [← e]
                  exact hg2.mono (fun k g hk _ => by simp only [tmD, reduceIte, Nat.reduceEqDiff, Nat.reduceAdd]) (fun k hk => by simp only [tmD, reduceIte, Nat.reduceEqDiff, Nat.reduceAdd]; exact Nat.le_refl _)
                · rcases List.mem_append.1 hx with h | h
                  · have := hds.2 x h; omega
                  · simp only [List.mem_singleton] at h; subst h; simp
            · simp only [tmR, seval, henv, h0, h1, h2, h6, hk4, and3, c3, hog, hob, hoe, hoc, apply_unew, map_len, (show List.take dd.length (dd.map taskC) = dd.map taskC from List.take_of_length_le (by simp))]
              refine wp_growS [59, 80] 59 (by decide) .full _ _ _ _ _ _ (xs := dutiesC ds) (zs := [dutyC dd]) ?_ (fun k g => rfl) ?_ (by simp) (by have := hds.1; simp [dutiesC]; omega) ?_
              · simp only [tmR, seval]
                exact (hg8'.unsol (b := true) (hs := [(k0, g0)])).mono (fun k g hk _ => by simp only [List.mem_cons, List.not_mem_nil, or_false] at hk; rcases hk with rfl | rfl <;> simp only [tmD, reduceIte, Nat.reduceEqDiff, Nat.reduceAdd, unsol_objG]) (fun k hk => by simp only [List.mem_cons, List.not_mem_nil, or_false] at hk; rcases hk with rfl | rfl <;> simp only [tmD, reduceIte, Nat.reduceEqDiff, Nat.reduceAdd, unsol_cnt] <;> exact Nat.le_refl _)
              · simp only [tmR, seval, elems]; rfl
              · intro st2 v2 henv2 hobj2 hcnt2 hg2
                have hk6 : ¬ (6 = k0) := by simp only [List.mem_cons, List.not_mem_nil, or_false] at hk0; rcases hk0 with rfl | rfl | rfl <;> decide
                have ho62 := hobj2 6 0 (by decide)
                have hb6 : (6 == k0) = false := beq_false_of_ne hk6
                simp only [tmD, reduceIte, Nat.reduceEqDiff, Nat.reduceAdd, unsol_objG, ho6', Option.map_some, pr_beq, List.contains_cons, List.contains_nil, hb6, Bool.false_and, Bool.or_self, Bool.and_false, Bool.false_eq_true] at ho62
                simp only [tmR, seval, henv2, henv, h0, h1, h2, h6, h10, nat_add_one, hw]
                refine ⟨⟨oa, ob, oc, ho62⟩, ⟨true, rfl⟩, [], ds ++ [dd], .inl ⟨rfl, rfl⟩, by simp, ?_, by have := hds.1; simp; omega, fun x hx => ?_⟩
                · have e : dutiesC ds ++ [dutyC dd] = dutiesC (ds ++ [dd]) := by simp [dutiesC]
                  rw [← e]
                  exact hg2.mono (fun k g hk _ => by simp only [tmD, reduceIte, Nat.reduceEqDiff, Nat.reduceAdd]) (fun k hk => by simp only [tmD, reduceIte, Nat.reduceEqDiff, Nat.reduceAdd]; exact Nat.le_refl _)
                · rcases List.mem_append.1 hx with h | h
                  · have := hds.2 x h; omega
                  · simp only [List.mem_singleton] at h; subst h; omega
          · simp only [tmR, seval, henv, h0, h1, h2, h6, h10, hk4, and3, c3, nat_add_one, hw]
            refine ⟨⟨oa, ob, oc, ho6'⟩, ⟨true, rfl⟩, d ++ [(rows.getD i 0, false)], ds, hg'.mono (fun k g hk _ => by simp only [tmD, reduceIte, Nat.reduceEqDiff, Nat.reduceAdd]) (fun k hk => by simp only [tmD, reduceIte, Nat.reduceEqDiff, Nat.reduceAdd]; exact Nat.le_refl _), by simp; omega, hg8'.mono (fun k g hk _ => by simp only [tmD, reduceIte, Nat.reduceEqDiff, Nat.reduceAdd]) (fun k hk => by simp only [tmD, reduceIte, Nat.reduceEqDiff, Nat.reduceAdd]; exact Nat.le_refl _), by have := hds.1; omega, fun x hx => by have := hds.2 x hx; omega⟩
      · simp only [L12_0, tmR, seval, h0, h1, h2, h6, h9, h10, ints_len, nat_lt, hi, iaddr_ints hi, hk1, and7, c1, hwu, hni, and1, c2, nat_add_one, hw]
        refine ⟨⟨oa, ob, oc, ho6⟩, ⟨b9, rfl⟩, d, ds, hg7.mono (fun k g hk _ => by simp only [tmD, reduceIte, Nat.reduceEqDiff, Nat.reduceAdd]) (fun k hk => by simp only [tmD, reduceIte, Nat.reduceEqDiff, Nat.reduceAdd]; exact Nat.le_refl _), by omega, hg8.mono (fun k g hk _ => by simp only [tmD, reduceIte, Nat.reduceEqDiff, Nat.reduceAdd]) (fun k hk => by simp only [tmD, reduceIte, Nat.reduceEqDiff, Nat.reduceAdd]; exact Nat.le_refl _), by have := hds.1; omega, fun x hx => by have := hds.2 x hx; omega⟩
  · rintro s ⟨h0, h1, h2, h6, ho6, h9, h10, d, ds, hg7, hd, hg8, hds⟩
    simp only [L12_0, tmR, seval, h0, h10, ints_len, Int.lt_irrefl]
    exact hQ _ d ds h0 h1 h6 ho6 (hg7.mono (fun k g _ _ => rfl) (fun k _ => Nat.le_refl _)) (by omega) (hg8.mono (fun k g _ _ => rfl) (fun k _ => Nat.le_refl _)) ⟨by have := hds.1; omega, fun x hx => by have := hds.2 x hx; omega⟩ h9
  · refine ⟨h0, h1, h2, h6, ho6, h9, h10, d0, [], h7, by omega, ?_, by simp [SmallDs]⟩
    rw [h8]; exact .inl ⟨rfl, rfl⟩
end Go.TM.Fn
end
section
namespace Go.TM.Fn
open Go Go.TM Go.Plain
set_option linter.unusedVariables false
set_option linter.unusedSimpArgs false
set_option maxRecDepth 20000
set_option maxHeartbeats 4000000
theorem fdiv_nat (n m : Nat) : (n : Int).fdiv (m : Int) = ((n / m : Nat) : Int) := by
  rw [Int.fdiv_eq_ediv_of_nonneg _ (by omega)]; simp
theorem shr_nat (b kk) (n : Nat) (y : Int) (hy : 0 ≤ y) : ∃ m : Nat, m ≤ n ∧ binTV b .shr (.int .i64 (n : Nat)) (.int kk y) = some (.int .i64 (m : Nat)) := by
  refine ⟨n / 2 ^ (min y.toNat 64), Nat.div_le_self _ _, ?_⟩
  rw [bin_shr_i64 _ _ _ _ hy, show ((2 : Int) ^ (min y.toNat 64)) = ((2 ^ (min y.toNat 64) : Nat) : Int) by simp, fdiv_nat]
def rest60 : TCode → TCode
  | .seq _ (.seq _ (.seq _ (.seq _ (.seq _ (.seq _ c))))) => c
  | c => c
theorem col_fin {s : St} {args : List TV} {b : ByteArray} {v : TV} {cost : Int} {ds : List (List Task)} (ha : hasOwn args = false) (hm : mutsOf s 0 args = some []) (h6 : s.env 6 = .ptr 6 0 0 0)
    (ho : s.obj 6 0 = some { cont := [[.str b, v, .int .i64 cost]], esz := 3, box := true, solo := true, tip := false }) (hg : GrowsS s [59, 80] 1 v (dutiesC ds)) (hds : SmallDs 16 ds) :
    ∃ rv, finishR [.cell 6 3 true] args s = some (rv, []) ∧ ∃ c : Col, view rv = .agg (colC c) ∧ SmallDs 16 c.ds := by
  rcases hg with ⟨h, rfl⟩ | ⟨k, g, o, hk, rfl, _, hob, hc, hb, he, ht⟩
  · refine ⟨.agg [.str b, .nils, .int .i64 cost], by simp [finishR, resVals, resVal, hm, ha, h6, ho, pull, hands, TV.cells, hand1, once, out, outs, out1, tree1], ⟨b, ds, cost⟩, ?_, hds⟩
    simp only [colC, h]; rfl
  · cases hs : o.solo
    · refine ⟨.agg [.str b, .sl (dutiesC ds), .int .i64 cost], by simp [finishR, resVals, resVal, hm, ha, h6, ho, pull, hands, TV.cells, hand1, once, out, outs, out1, tree1, hob, hb, he, hc, hs], ⟨b, ds, cost⟩, ?_, hds⟩
      rfl
    · refine ⟨.agg [.str b, .own 1 (dutiesC ds), .int .i64 cost], by simp [finishR, resVals, resVal, hm, ha, h6, ho, pull, hands, TV.cells, hand1, once, out, outs, out1, tree1, hob, hb, he, hc, hs, ht], ⟨b, ds, cost⟩, ?_, hds⟩
      rfl
theorem column_ex (rows : List Int) (n k : Nat) (hn : n < 4294967296) (h3 : 3 ≤ rows.length) (h5 : rows.length ≤ 5) : ∃ c : Col, SmallDs 16 c.ds ∧ Gives mach 12 [.sl (ints .i64 rows), .int .i64 (n : Nat), .int .i64 (k : Nat)] (.agg (colC c)) := by
  suffices h : ∃ v, (∃ c : Col, v = .agg (colC c) ∧ SmallDs 16 c.ds) ∧ Gives mach 12 [.sl (ints .i64 rows), .int .i64 (n : Nat), .int .i64 (k : Nat)] v by
    obtain ⟨_, ⟨c, rfl, h1⟩, h2⟩ := h
    exact ⟨c, h1, h2⟩
  refine givesE tab12 rfl ?_
  obtain ⟨n5, hn5, hsh⟩ := shr_nat false .u64 n 5 (by decide)
  obtain ⟨n6, hn6, hsh6⟩ := shr_nat false .u64 n 6 (by decide)
  have hrem : binTV false .rem (.int .i64 (n5 : Nat)) (.int .i64 41) = some (.int .i64 ((n5 % 41 : Nat) : Int)) := by rw [bin_rem _ _ _ _ (by decide)]; exact congrArg _ (congrArg _ (rem_nat n5 41))
  have hwm : IntKind.i64.wrap (((n5 % 41 : Nat) : Int) - 5) = ((n5 % 41 : Nat) : Int) - 5 := wrap_i64 (by omega) (by omega)
  have hlz : ((rows.length : Nat) : Int) ≠ 0 := by omega
  have hidx : n6 % rows.length < rows.length := Nat.mod_lt _ (by omega)
  have main : ∀ (s : St) (d : List Task) (ds : List (List Task)), s.env 0 = .sl (ints .i64 rows) → s.env 1 = .int .i64 (n : Nat) → s.env 6 = .ptr 6 0 0 0 → (∃ a b c, s.obj 6 0 = some { cont := [[a, b, c]], esz := 3, box := true, solo := true, tip := false }) → GrowsS s [18, 51, 73] 2 (s.env 7) (d.map taskC) → d.length ≤ 7 → GrowsS s [59, 80] 1 (s.env 8) (dutiesC ds) → SmallDs 7 ds → (∃ b, s.env 9 = .bool b) →
      Goes mach (rest60 F12.body) (RetE [.cell 6 3 true] [.sl (ints .i64 rows), .int .i64 (n : Nat), .int .i64 (k : Nat)] fun v => ∃ c : Col, v = .agg (colC c) ∧ SmallDs 16 c.ds) s := by
    intro s d ds h0 h1 h6 ⟨oa, ob, oc, ho6⟩ hgd hd hgs hds ⟨b9, h9⟩
    cases b9
    · simp only [rest60, F12, tmR, seval, h9, Bool.not_false, h0, h1, hsh6, ints_len, bin_rem _ _ _ _ hlz, rem_nat, iaddr_ints hidx]
      refine wp_growS [18, 51, 73] 73 (by decide) .full _ _ _ _ _ _ (xs := d.map taskC) (zs := [taskC (rows.getD (n6 % rows.length) 0, false)]) ?_ (fun k g => rfl) ?_ (by simp) (by simp; omega) ?_
      · simp only [tmR, seval]
        exact hgd.mono (fun k g hk _ => by simp only [List.mem_cons, List.not_mem_nil, or_false] at hk; rcases hk with rfl | rfl | rfl <;> simp only [tmD, reduceIte, Nat.reduceEqDiff, Nat.reduceAdd]) (fun k hk => by simp only [List.mem_cons, List.not_mem_nil, or_false] at hk; rcases hk with rfl | rfl | rfl <;> simp only [tmD, reduceIte, Nat.reduceEqDiff, Nat.reduceAdd] <;> exact Nat.le_refl _)
      · simp only [tmR, seval, elems]; rfl
      · intro st' v henv hobj hcnt hgd'
        have ho6' := hobj 6 0 (by decide)
        simp only [tmD, reduceIte, Nat.reduceEqDiff, Nat.reduceAdd, ho6] at ho6'
        have hgs' : GrowsS st' [59, 80] 1 (s.env 8) (dutiesC ds) := hgs.mono (fun k g hk _ => by
            have e := hobj k g (by simp only [List.mem_cons, List.not_mem_nil, or_false] at hk; rcases hk with rfl | rfl <;> decide)
            simp only [List.mem_cons, List.not_mem_nil, or_false] at hk
            rw [e]; rcases hk with rfl | rfl <;> simp only [tmD, reduceIte, Nat.reduceEqDiff, Nat.reduceAdd]) (fun k hk => by
            have e := hcnt k (by simp only [List.mem_cons, List.not_mem_nil, or_false] at hk; rcases hk with rfl | rfl <;> decide)
            simp only [List.mem_cons, List.not_mem_nil, or_false] at hk
            rw [e]; rcases hk with rfl | rfl <;> simp only [tmD, reduceIte, Nat.reduceEqDiff, Nat.reduceAdd] <;> exact Nat.le_refl _)
        clear hgd hgs
        have hgd := hgd'
        have hgs := hgs'
        have ho6 := ho6'
        have em : d.map taskC ++ [taskC (rows.getD (n6 % rows.length) 0, false)] = (d ++ [(rows.getD (n6 % rows.length) 0, false)]).map taskC := by simp
        rw [em] at hgd
        have hd1 : (d ++ [(rows.getD (n6 % rows.length) 0, false)]).length ≤ 8 := by simp; omega
        generalize d ++ [(rows.getD (n6 % rows.length) 0, false)] = dd at *
        obtain ⟨hz7, hv7⟩ | ⟨k7, g7, o7, hk7, hv7, hg7, ho7, hc7, hb7, he7, ht7⟩ := hgd
        · have hgf := hgs
          have hdsf : SmallDs 16 ds := ⟨by have := hds.1; omega, fun x hx => by have := hds.2 x hx; omega⟩
          obtain ⟨hz, hv⟩ | ⟨k8, g8, o8, hk8, hv, hc8⟩ := hgf
          · simp only [tmR, seval, henv, h0, h1, h6, ho6, hv7, hv, hsh, hrem, hwm]
            refine col_fin (b := ⟨#[65, 65, 65]⟩) (cost := ((n5 % 41 : Nat) : Int) - 5) (v := .nils) (ds := ds) rfl rfl ?_ ?_ (.inl ⟨hz, rfl⟩) hdsf
            · simp only [tmD, reduceIte, Nat.reduceEqDiff, Nat.reduceAdd, henv, h0, h1, h6, ho6, hv7, h6]
            · simp only [tmD, reduceIte, Nat.reduceEqDiff, Nat.reduceAdd, henv, h0, h1, h6, ho6, hv7, h6]
          · simp only [tmR, seval, henv, h0, h1, h6, ho6, hv7, hv, hsh, hrem, hwm]
            refine col_fin (b := ⟨#[65, 65, 65]⟩) (cost := ((n5 % 41 : Nat) : Int) - 5) (v := .hs k8 g8 1 (dutiesC (ds)).length) (ds := ds) rfl rfl ?_ ?_ ?_ hdsf
            · simp only [tmD, reduceIte, Nat.reduceEqDiff, Nat.reduceAdd, henv, h0, h1, h6, ho6, hv7, h6]
            · simp only [tmD, reduceIte, Nat.reduceEqDiff, Nat.reduceAdd, henv, h0, h1, h6, ho6, hv7, h6]
            · refine GrowsS.mono (st := st') (.inr ⟨k8, g8, o8, hk8, rfl, hc8⟩) (fun k g hk _ => ?_) (fun k hk => ?_)
              · simp only [List.mem_cons, List.not_mem_nil, or_false] at hk
                rcases hk with rfl | rfl <;> simp only [tmD, reduceIte, Nat.reduceEqDiff, Nat.reduceAdd]
              · simp only [List.mem_cons, List.not_mem_nil, or_false] at hk
                rcases hk with rfl | rfl <;> simp only [tmD, reduceIte, Nat.reduceEqDiff, Nat.reduceAdd] <;> exact Nat.le_refl _
        · by_cases hd0 : (dd).length = 0
          · have hlen0 : ((0 : Int) < (((dd).map taskC).length : Int)) = False := eq_false (by rw [map_len]; omega)
            have hgf := hgs
            have hdsf : SmallDs 16 ds := ⟨by have := hds.1; omega, fun x hx => by have := hds.2 x hx; omega⟩
            obtain ⟨hz, hv⟩ | ⟨k8, g8, o8, hk8, hv, hc8⟩ := hgf
            · simp only [tmR, seval, henv, h0, h1, h6, ho6, hv7, hlen0, hv, hsh, hrem, hwm]
              refine col_fin (b := ⟨#[65, 65, 65]⟩) (cost := ((n5 % 41 : Nat) : Int) - 5) (v := .nils) (ds := ds) rfl rfl ?_ ?_ (.inl ⟨hz, rfl⟩) hdsf
              · simp only [tmD, reduceIte, Nat.reduceEqDiff, Nat.reduceAdd, henv, h0, h1, h6, ho6, hv7, hlen0, h6]
              · simp only [tmD, reduceIte, Nat.reduceEqDiff, Nat.reduceAdd, henv, h0, h1, h6, ho6, hv7, hlen0, h6]
            · simp only [tmR, seval, henv, h0, h1, h6, ho6, hv7, hlen0, hv, hsh, hrem, hwm]
              refine col_fin (b := ⟨#[65, 65, 65]⟩) (cost := ((n5 % 41 : Nat) : Int) - 5) (v := .hs k8 g8 1 (dutiesC (ds)).length) (ds := ds) rfl rfl ?_ ?_ ?_ hdsf
              · simp only [tmD, reduceIte, Nat.reduceEqDiff, Nat.reduceAdd, henv, h0, h1, h6, ho6, hv7, hlen0, h6]
              · simp only [tmD, reduceIte, Nat.reduceEqDiff, Nat.reduceAdd, henv, h0, h1, h6, ho6, hv7, hlen0, h6]
              · refine GrowsS.mono (st := st') (.inr ⟨k8, g8, o8, hk8, rfl, hc8⟩) (fun k g hk _ => ?_) (fun k hk => ?_)
                · simp only [List.mem_cons, List.not_mem_nil, or_false] at hk
                  rcases hk with rfl | rfl <;> simp only [tmD, reduceIte, Nat.reduceEqDiff, Nat.reduceAdd]
                · simp only [List.mem_cons, List.not_mem_nil, or_false] at hk
                  rcases hk with rfl | rfl <;> simp only [tmD, reduceIte, Nat.reduceEqDiff, Nat.reduceAdd] <;> exact Nat.le_refl _
          · have hlen0 : ((0 : Int) < (((dd).map taskC).length : Int)) = True := eq_true (by rw [map_len]; omega)
            have hk6 : (6 == k7) = false := by simp only [List.mem_cons, List.not_mem_nil, or_false] at hk7; rcases hk7 with rfl | rfl | rfl <;> decide
            simp only [tmR, seval, henv, h0, h1, h6, ho6, hv7, hlen0, ho7, hb7, he7, hc7, List.take_length, apply_unew]
            refine wp_growS [59, 80] 80 (by decide) .full _ _ _ _ _ _ (xs := dutiesC ds) (zs := [dutyC (dd)]) ?_ (fun k g => rfl) ?_ (by simp) (by have := hds.1; simp [dutiesC]; omega) ?_
            · simp only [tmR, seval]
              exact (hgs.unsol (b := true) (hs := [(k7, g7)])).mono (fun k g hk _ => by simp only [List.mem_cons, List.not_mem_nil, or_false] at hk; rcases hk with rfl | rfl <;> simp only [tmD, reduceIte, Nat.reduceEqDiff, Nat.reduceAdd, unsol_objG]) (fun k hk => by simp only [List.mem_cons, List.not_mem_nil, or_false] at hk; rcases hk with rfl | rfl <;> simp only [tmD, reduceIte, Nat.reduceEqDiff, Nat.reduceAdd, unsol_cnt] <;> exact Nat.le_refl _)
            · simp only [tmR, seval, elems]; rfl
            · intro st2 v2 henv2 hobj2 hcnt2 hg2
              have ho62 := hobj2 6 0 (by decide)
              simp only [tmD, reduceIte, Nat.reduceEqDiff, Nat.reduceAdd, unsol_objG, ho6, Option.map_some, pr_beq, List.contains_cons, List.contains_nil, hk6, Bool.false_and, Bool.or_self, Bool.and_false, Bool.false_eq_true] at ho62
              have e80 : dutiesC ds ++ [dutyC (dd)] = dutiesC (ds ++ [dd]) := by simp [dutiesC]
              rw [e80] at hg2
              have hgf := hg2
              have hdsf : SmallDs 16 (ds ++ [dd]) := ⟨by have := hds.1; simp; omega, fun x hx => by
                rcases List.mem_append.1 hx with h | h
                · have := hds.2 x h; omega
                · simp only [List.mem_singleton] at h; subst h; omega⟩
              obtain ⟨hz, hv⟩ | ⟨k8, g8, o8, hk8, hv, hc8⟩ := hgf
              · simp only [tmR, seval, henv2, henv, h0, h1, h6, ho6, hv7, ho62, hv, hsh, hrem, hwm]
                refine col_fin (b := ⟨#[65, 65, 65]⟩) (cost := ((n5 % 41 : Nat) : Int) - 5) (v := .nils) (ds := ds ++ [dd]) rfl rfl ?_ ?_ (.inl ⟨hz, rfl⟩) hdsf
                · simp only [tmD, reduceIte, Nat.reduceEqDiff, Nat.reduceAdd, henv2, henv, h0, h1, h6, ho6, hv7, ho62, h6]
                · simp only [tmD, reduceIte, Nat.reduceEqDiff, Nat.reduceAdd, henv2, henv, h0, h1, h6, ho6, hv7, ho62, h6]
              · simp only [tmR, seval, henv2, henv, h0, h1, h6, ho6, hv7, ho62, hv, hsh, hrem, hwm]
                refine col_fin (b := ⟨#[65, 65, 65]⟩) (cost := ((n5 % 41 : Nat) : Int) - 5) (v := .hs k8 g8 1 (dutiesC (ds ++ [dd])).length) (ds := ds ++ [dd]) rfl rfl ?_ ?_ ?_ hdsf
                · simp only [tmD, reduceIte, Nat.reduceEqDiff, Nat.reduceAdd, henv2, henv, h0, h1, h6, ho6, hv7, ho62, h6]
                · simp only [tmD, reduceIte, Nat.reduceEqDiff, Nat.reduceAdd, henv2, henv, h0, h1, h6, ho6, hv7, ho62, h6]
                · refine GrowsS.mono (st := st2) (.inr ⟨k8, g8, o8, hk8, rfl, hc8⟩) (fun k g hk _ => ?_) (fun k hk => ?_)
                  · simp only [List.mem_cons, List.not_mem_nil, or_false] at hk
                    rcases hk with rfl | rfl <;> simp only [tmD, reduceIte, Nat.reduceEqDiff, Nat.reduceAdd]
                  · simp only [List.mem_cons, List.not_mem_nil, or_false] at hk
                    rcases hk with rfl | rfl <;> simp only [tmD, reduceIte, Nat.reduceEqDiff, Nat.reduceAdd] <;> exact Nat.le_refl _
    · have hd1 : d.length ≤ 8 := by omega
      simp only [rest60, F12, tmR, seval, h9, Bool.not_true, h0, h1]
      obtain ⟨hz7, hv7⟩ | ⟨k7, g7, o7, hk7, hv7, hg7, ho7, hc7, hb7, he7, ht7⟩ := hgd
      · have hgf := hgs
        have hdsf : SmallDs 16 ds := ⟨by have := hds.1; omega, fun x hx => by have := hds.2 x hx; omega⟩
        obtain ⟨hz, hv⟩ | ⟨k8, g8, o8, hk8, hv, hc8⟩ := hgf
        · simp only [tmR, seval, h0, h1, h6, ho6, hv7, hv, hsh, hrem, hwm]
          refine col_fin (b := ⟨#[65, 65, 65]⟩) (cost := ((n5 % 41 : Nat) : Int) - 5) (v := .nils) (ds := ds) rfl rfl ?_ ?_ (.inl ⟨hz, rfl⟩) hdsf
          · simp only [tmD, reduceIte, Nat.reduceEqDiff, Nat.reduceAdd, h0, h1, h6, ho6, hv7, h6]
          · simp only [tmD, reduceIte, Nat.reduceEqDiff, Nat.reduceAdd, h0, h1, h6, ho6, hv7, h6]
        · simp only [tmR, seval, h0, h1, h6, ho6, hv7, hv, hsh, hrem, hwm]
          refine col_fin (b := ⟨#[65, 65, 65]⟩) (cost := ((n5 % 41 : Nat) : Int) - 5) (v := .hs k8 g8 1 (dutiesC (ds)).length) (ds := ds) rfl rfl ?_ ?_ ?_ hdsf
          · simp only [tmD, reduceIte, Nat.reduceEqDiff, Nat.reduceAdd, h0, h1, h6, ho6, hv7, h6]
          · simp only [tmD, reduceIte, Nat.reduceEqDiff, Nat.reduceAdd, h0, h1, h6, ho6, hv7, h6]
          · refine GrowsS.mono (st := s) (.inr ⟨k8, g8, o8, hk8, rfl, hc8⟩) (fun k g hk _ => ?_) (fun k hk => ?_)
            · simp only [List.mem_cons, List.not_mem_nil, or_false] at hk
              rcases hk with rfl | rfl <;> simp only [tmD, reduceIte, Nat.reduceEqDiff, Nat.reduceAdd]
            · simp only [List.mem_cons, List.not_mem_nil, or_false] at hk
              rcases hk with rfl | rfl <;> simp only [tmD, reduceIte, Nat.reduceEqDiff, Nat.reduceAdd] <;> exact Nat.le_refl _
      · by_cases hd0 : (d).length = 0
        · have hlen0 : ((0 : Int) < (((d).map taskC).length : Int)) = False := eq_false (by rw [map_len]; omega)
          have hgf := hgs
          have hdsf : SmallDs 16 ds := ⟨by have := hds.1; omega, fun x hx => by have := hds.2 x hx; omega⟩
          obtain ⟨hz, hv⟩ | ⟨k8, g8, o8, hk8, hv, hc8⟩ := hgf
          · simp only [tmR, seval, h0, h1, h6, ho6, hv7, hlen0, hv, hsh, hrem, hwm]
            refine col_fin (b := ⟨#[65, 65, 65]⟩) (cost := ((n5 % 41 : Nat) : Int) - 5) (v := .nils) (ds := ds) rfl rfl ?_ ?_ (.inl ⟨hz, rfl⟩) hdsf
            · simp only [tmD, reduceIte, Nat.reduceEqDiff, Nat.reduceAdd, h0, h1, h6, ho6, hv7, hlen0, h6]
            · simp only [tmD, reduceIte, Nat.reduceEqDiff, Nat.reduceAdd, h0, h1, h6, ho6, hv7, hlen0, h6]
          · simp only [tmR, seval, h0, h1, h6, ho6, hv7, hlen0, hv, hsh, hrem, hwm]
            refine col_fin (b := ⟨#[65, 65, 65]⟩) (cost := ((n5 % 41 : Nat) : Int) - 5) (v := .hs k8 g8 1 (dutiesC (ds)).length) (ds := ds) rfl rfl ?_ ?_ ?_ hdsf
            · simp only [tmD, reduceIte, Nat.reduceEqDiff, Nat.reduceAdd, h0, h1, h6, ho6, hv7, hlen0, h6]
            · simp only [tmD, reduceIte, Nat.reduceEqDiff, Nat.reduceAdd, h0, h1, h6, ho6, hv7, hlen0, h6]
            · refine GrowsS.mono (st := s) (.inr ⟨k8, g8, o8, hk8, rfl, hc8⟩) (fun k g hk _ => ?_) (fun k hk => ?_)
              · simp only [List.mem_cons, List.not_mem_nil, or_false] at hk
                rcases hk with rfl | rfl <;> simp only [tmD, reduceIte, Nat.reduceEqDiff, Nat.reduceAdd]
              · simp only [List.mem_cons, List.not_mem_nil, or_false] at hk
                rcases hk with rfl | rfl <;> simp only [tmD, reduceIte, Nat.reduceEqDiff, Nat.reduceAdd] <;> exact Nat.le_refl _
        · have hlen0 : ((0 : Int) < (((d).map taskC).length : Int)) = True := eq_true (by rw [map_len]; omega)
          have hk6 : (6 == k7) = false := by simp only [List.mem_cons, List.not_mem_nil, or_false] at hk7; rcases hk7 with rfl | rfl | rfl <;> decide
          simp only [tmR, seval, h0, h1, h6, ho6, hv7, hlen0, ho7, hb7, he7, hc7, List.take_length, apply_unew]
          refine wp_growS [59, 80] 80 (by decide) .full _ _ _ _ _ _ (xs := dutiesC ds) (zs := [dutyC (d)]) ?_ (fun k g => rfl) ?_ (by simp) (by have := hds.1; simp [dutiesC]; omega) ?_
          · simp only [tmR, seval]
            exact (hgs.unsol (b := true) (hs := [(k7, g7)])).mono (fun k g hk _ => by simp only [List.mem_cons, List.not_mem_nil, or_false] at hk; rcases hk with rfl | rfl <;> simp only [tmD, reduceIte, Nat.reduceEqDiff, Nat.reduceAdd, unsol_objG]) (fun k hk => by simp only [List.mem_cons, List.not_mem_nil, or_false] at hk; rcases hk with rfl | rfl <;> simp only [tmD, reduceIte, Nat.reduceEqDiff, Nat.reduceAdd, unsol_cnt] <;> exact Nat.le_refl _)
          · simp only [tmR, seval, elems]; rfl
          · intro st2 v2 henv2 hobj2 hcnt2 hg2
            have ho62 := hobj2 6 0 (by decide)
            simp only [tmD, reduceIte, Nat.reduceEqDiff, Nat.reduceAdd, unsol_objG, ho6, Option.map_some, pr_beq, List.contains_cons, List.contains_nil, hk6, Bool.false_and, Bool.or_self, Bool.and_false, Bool.false_eq_true] at ho62
            have e80 : dutiesC ds ++ [dutyC (d)] = dutiesC (ds ++ [d]) := by simp [dutiesC]
            rw [e80] at hg2
            have hgf := hg2
            have hdsf : SmallDs 16 (ds ++ [d]) := ⟨by have := hds.1; simp; omega, fun x hx => by
              rcases List.mem_append.1 hx with h | h
              · have := hds.2 x h; omega
              · simp only [List.mem_singleton] at h; subst h; omega⟩
            obtain ⟨hz, hv⟩ | ⟨k8, g8, o8, hk8, hv, hc8⟩ := hgf
            · simp only [tmR, seval, henv2, h0, h1, h6, ho6, hv7, ho62, hv, hsh, hrem, hwm]
              refine col_fin (b := ⟨#[65, 65, 65]⟩) (cost := ((n5 % 41 : Nat) : Int) - 5) (v := .nils) (ds := ds ++ [d]) rfl rfl ?_ ?_ (.inl ⟨hz, rfl⟩) hdsf
              · simp only [tmD, reduceIte, Nat.reduceEqDiff, Nat.reduceAdd, henv2, h0, h1, h6, ho6, hv7, ho62, h6]
              · simp only [tmD, reduceIte, Nat.reduceEqDiff, Nat.reduceAdd, henv2, h0, h1, h6, ho6, hv7, ho62, h6]
            · simp only [tmR, seval, henv2, h0, h1, h6, ho6, hv7, ho62, hv, hsh, hrem, hwm]
              refine col_fin (b := ⟨#[65, 65, 65]⟩) (cost := ((n5 % 41 : Nat) : Int) - 5) (v := .hs k8 g8 1 (dutiesC (ds ++ [d])).length) (ds := ds ++ [d]) rfl rfl ?_ ?_ ?_ hdsf
              · simp only [tmD, reduceIte, Nat.reduceEqDiff, Nat.reduceAdd, henv2, h0, h1, h6, ho6, hv7, ho62, h6]
              · simp only [tmD, reduceIte, Nat.reduceEqDiff, Nat.reduceAdd, henv2, h0, h1, h6, ho6, hv7, ho62, h6]
              · refine GrowsS.mono (st := st2) (.inr ⟨k8, g8, o8, hk8, rfl, hc8⟩) (fun k g hk _ => ?_) (fun k hk => ?_)
                · simp only [List.mem_cons, List.not_mem_nil, or_false] at hk
                  rcases hk with rfl | rfl <;> simp only [tmD, reduceIte, Nat.reduceEqDiff, Nat.reduceAdd]
                · simp only [List.mem_cons, List.not_mem_nil, or_false] at hk
                  rcases hk with rfl | rfl <;> simp only [tmD, reduceIte, Nat.reduceEqDiff, Nat.reduceAdd] <;> exact Nat.le_refl _
  by_cases hk1 : (andm k 1 : Int) = 1
  · simp only [F12, tmR, seval, and1, hk1]
    refine wp_growS [18, 51, 73] 18 (by decide) .full _ _ _ _ _ _ (xs := []) (zs := [taskC (0, true)]) (.inl ⟨rfl, rfl⟩) (fun k g => rfl) ?_ (by simp) (by simp) ?_
    · simp only [tmR, seval, elems]; rfl
    · intro st' v henv hobj hcnt hg
      have ho6 := hobj 6 0 (by decide)
      simp only [tmD, reduceIte, Nat.reduceEqDiff, Nat.reduceAdd] at ho6
      simp only [tmR, seval, henv]
      refine loopCol rows n k h5 ?_ ?_ ?_ ?_ ⟨.str ⟨#[]⟩, .nils, .int .i64 0, ?_⟩ [(0, true)] (by simp) ?_ ?_ ⟨false, ?_⟩ ?_ (fun s d ds h0 h1 h6 ho6 hgd hd hgs hds h9 => ?_)
      · simp only [tmD, reduceIte, Nat.reduceEqDiff, Nat.reduceAdd, henv]
      · simp only [tmD, reduceIte, Nat.reduceEqDiff, Nat.reduceAdd, henv]
      · simp only [tmD, reduceIte, Nat.reduceEqDiff, Nat.reduceAdd, henv]
      · simp only [tmD, reduceIte, Nat.reduceEqDiff, Nat.reduceAdd, henv]
      · simp only [tmD, reduceIte, Nat.reduceEqDiff, Nat.reduceAdd]; exact ho6
      · simp only [tmD, reduceIte, Nat.reduceEqDiff, Nat.reduceAdd, henv]
        exact hg.mono (fun k g hk _ => by simp only [tmD, reduceIte, Nat.reduceEqDiff, Nat.reduceAdd]) (fun k hk => by simp only [tmD, reduceIte, Nat.reduceEqDiff, Nat.reduceAdd]; exact Nat.le_refl _)
      · simp only [tmD, reduceIte, Nat.reduceEqDiff, Nat.reduceAdd, henv]
      · simp only [tmD, reduceIte, Nat.reduceEqDiff, Nat.reduceAdd]
      · simp only [tmD, reduceIte, Nat.reduceEqDiff, Nat.reduceAdd]
      · simp only [blockQ_exit, if_true, thenQ_norm]
        exact main s d ds h0 h1 h6 ho6 hgd hd hgs hds h9
  · simp only [F12, tmR, seval, and1, hk1]
    refine loopCol rows n k h5 ?_ ?_ ?_ ?_ ⟨.str ⟨#[]⟩, .nils, .int .i64 0, ?_⟩ [] (by simp) ?_ ?_ ⟨false, ?_⟩ ?_ (fun s d ds h0 h1 h6 ho6 hgd hd hgs hds h9 => ?_)
    · simp only [tmD, reduceIte, Nat.reduceEqDiff, Nat.reduceAdd]
    · simp only [tmD, reduceIte, Nat.reduceEqDiff, Nat.reduceAdd]
    · simp only [tmD, reduceIte, Nat.reduceEqDiff, Nat.reduceAdd]
    · simp only [tmD, reduceIte, Nat.reduceEqDiff, Nat.reduceAdd]
    · simp only [tmD, reduceIte, Nat.reduceEqDiff, Nat.reduceAdd]
    · simp only [tmD, reduceIte, Nat.reduceEqDiff, Nat.reduceAdd]; exact .inl ⟨rfl, rfl⟩
    · simp only [tmD, reduceIte, Nat.reduceEqDiff, Nat.reduceAdd]
    · simp only [tmD, reduceIte, Nat.reduceEqDiff, Nat.reduceAdd]
    · simp only [tmD, reduceIte, Nat.reduceEqDiff, Nat.reduceAdd]
    · simp only [blockQ_exit, if_true, thenQ_norm]
      exact main s d ds h0 h1 h6 ho6 hgd hd hgs hds h9
end Go.TM.Fn
end
section
namespace Go.TM.Fn
open Go Go.TM Go.Plain
set_option linter.unusedVariables false
set_option linter.unusedSimpArgs false
set_option maxRecDepth 20000
set_option maxHeartbeats 4000000
theorem out1_grows {st S e v xs} (h : GrowsS st S e v xs) : ∃ u, out1 st.obj v = some u ∧ view1 u = .sl xs := by
  rcases h with ⟨rfl, rfl⟩ | ⟨k, g, o, hk, rfl, _, hob, hc, hb, he, ht⟩
  · exact ⟨.nils, rfl, rfl⟩
  · cases hs : o.solo
    · exact ⟨.sl xs, by simp [out1, hob, hb, he, hc, hs], rfl⟩
    · exact ⟨.own e xs, by simp [out1, hob, hb, he, hc, hs, ht], rfl⟩
theorem hand1_grows {st S e v xs} (h : GrowsS st S e v xs) : hand1 v = [] ∨ ∃ k g, k ∈ S ∧ hand1 v = [(k, g)] := by
  rcases h with ⟨rfl, rfl⟩ | ⟨k, g, o, hk, rfl, _⟩
  · exact .inl rfl
  · exact .inr ⟨k, g, hk, rfl⟩
theorem mas_fin {s : St} {args : List TV} {pen : Int} {v1 v3 v4 : TV} {rows : List Int} {cols : List Col} {cuts : List Cu} (ha : hasOwn args = false) (hm : mutsOf s 0 args = some []) (h2 : s.env 2 = .ptr 2 0 0 0)
    (ho : s.obj 2 0 = some { cont := [[.int .i64 6, v1, .int .i64 pen, v3, v4]], esz := 5, box := true, solo := true, tip := false }) (hg1 : GrowsS s [29] 1 v1 (ints .i64 rows)) (hg3 : GrowsS s [53] 3 v3 (cols.map colC)) (hg4 : GrowsS s [110] 2 v4 (cuts.map cutC)) :
    ∃ rv, finishR [.cell 2 5 true] args s = some (rv, []) ∧ view rv = masT ⟨6, rows, pen, cols, cuts⟩ := by
  obtain ⟨u1, e1, w1⟩ := out1_grows hg1
  obtain ⟨u3, e3, w3⟩ := out1_grows hg3
  obtain ⟨u4, e4, w4⟩ := out1_grows hg4
  have c6 : out1 s.obj (.int .i64 6) = some (.int .i64 6) := rfl
  have cp : out1 s.obj (.int .i64 pen) = some (.int .i64 pen) := rfl
  have hon : once (hands (.agg [.int .i64 6, v1, .int .i64 pen, v3, v4])) = true := by
    have i6 : hand1 (.int .i64 6) = [] := rfl
    have ip : hand1 (.int .i64 pen) = [] := rfl
    simp only [hands, TV.cells, List.flatMap_cons, List.flatMap_nil, i6, ip]
    rcases hand1_grows hg1 with h1 | ⟨k1, g1, hk1, h1⟩ <;> rcases hand1_grows hg3 with h3 | ⟨k3, g3, hk3, h3⟩ <;> rcases hand1_grows hg4 with h4 | ⟨k4, g4, hk4, h4⟩ <;>
      simp_all [once]
  refine ⟨.agg [.int .i64 6, u1, .int .i64 pen, u3, u4], ?_, ?_⟩
  · simp [finishR, resVals, resVal, hm, ha, h2, ho, pull, hon, out, outs, e1, e3, e4, c6, cp]
  · simp [view, viewA, w1, w3, w4]
    exact ⟨rfl, rfl⟩
def rowTab : List (List Int) := [[0, 1, 2], [1, 2, 4], [0, 1, 2, 3], [0, 2, 3, 5], [0, 1, 2, 3, 4], [1, 2, 3, 4, 5]]
theorem rowTab_len {r : Nat} (h : r < 6) : 3 ≤ (rowTab.getD r []).length ∧ (rowTab.getD r []).length ≤ 5 := by
  match r, h with
  | 0, _ => decide
  | 1, _ => decide
  | 2, _ => decide
  | 3, _ => decide
  | 4, _ => decide
  | 5, _ => decide
abbrev BoxG (s : St) (v1 : TV) (pen : Int) (v3 v4 : TV) : Prop := s.obj 3 0 = some { cont := [[.int .i64 6, v1, .int .i64 pen, v3, v4]], esz := 5, box := true, solo := true, tip := false }
abbrev Box2Z (s : St) : Prop := s.obj 2 0 = some { cont := [[.int .i64 0, .nils, .int .i64 0, .nils, .nils]], esz := 5, box := true, solo := true, tip := false }
theorem loopMasCols {Q : Ex → St → Prop} {st : St} (l rows : List Int) (pen : Int) (v1 : TV) (hl : l.length < 9223372036854775808) (hr3 : 3 ≤ rows.length) (hr5 : rows.length ≤ 5)
    (h0 : st.env 0 = .sl (ints .i64 l)) (h2 : st.env 2 = .ptr 2 0 0 0) (h3 : st.env 3 = .ptr 3 0 0 0) (h4 : st.env 4 = .sl (ints .i64 rows)) (h5 : st.env 5 = .int .i64 0) (b2 : Box2Z st) (hg1 : GrowsS st [29] 1 v1 (ints .i64 rows)) (b3 : BoxG st v1 pen .nils .nils)
    (hQ : ∀ (s : St) (v3 : TV) (cols : List Col), s.env 0 = .sl (ints .i64 l) → s.env 2 = .ptr 2 0 0 0 → s.env 3 = .ptr 3 0 0 0 → s.env 4 = .sl (ints .i64 rows) → Box2Z s → GrowsS s [29] 1 v1 (ints .i64 rows) → BoxG s v1 pen v3 .nils → GrowsS s [53] 3 v3 (cols.map colC) → cols.length ≤ 6 → (∀ c ∈ cols, SmallDs 16 c.ds) → Q (.exit 0) s) :
    Goes mach (.loop L4_0) Q st := by
  have at2 := at_c l 2 hl (by omega)
  have h7 : ((7 : Int)) ≠ 0 := by decide
  have hrem : binTV false .rem (.int .i64 (atN l 2 : Nat)) (.int .i64 7) = some (.int .i64 ((atN l 2 % 7 : Nat) : Int)) := by rw [bin_rem _ _ _ _ (by decide)]; exact congrArg _ (congrArg _ (rem_nat _ 7))
  have hlt7 : atN l 2 % 7 < 7 := Nat.mod_lt _ (by omega)
  have at2' : Gives mach 11 [.sl (ints .i64 l), .int .i64 2] (.int .i64 (atN l 2 : Nat)) := at2
  refine wp_for (fun i s => s.env 0 = .sl (ints .i64 l) ∧ s.env 2 = .ptr 2 0 0 0 ∧ s.env 3 = .ptr 3 0 0 0 ∧ s.env 4 = .sl (ints .i64 rows) ∧ s.env 5 = .int .i64 (i : Nat) ∧ Box2Z s ∧ GrowsS s [29] 1 v1 (ints .i64 rows) ∧
    ∃ (v3 : TV) (cols : List Col), BoxG s v1 pen v3 .nils ∧ GrowsS s [53] 3 v3 (cols.map colC) ∧ cols.length ≤ i ∧ ∀ c ∈ cols, SmallDs 16 c.ds) (atN l 2 % 7) ?_ ?_ (atN l 2 % 7) 0 _ (by omega) ?_
  · rintro i s hi ⟨h0, h2, h3, h4, h5, b2, hg1, v3, cols, b3, hg3, hcl, hcs⟩
    have hw : IntKind.i64.wrap ((i + 1 : Nat) : Int) = (i + 1 : Nat) := wrap_i64n (by omega)
    have hw2 : IntKind.i64.wrap (2 * (i : Int)) = ((2 * i : Nat) : Int) := by rw [wrap_i64 (by omega) (by omega)]; omega
    have hw5 : IntKind.i64.wrap (5 + ((2 * i : Nat) : Int)) = ((5 + 2 * i : Nat) : Int) := by rw [wrap_i64 (by omega) (by omega)]; omega
    have hw6 : IntKind.i64.wrap (6 + ((2 * i : Nat) : Int)) = ((6 + 2 * i : Nat) : Int) := by rw [wrap_i64 (by omega) (by omega)]; omega
    have a5 := at_c l (5 + 2 * i) hl (by omega)
    have a6 := at_c l (6 + 2 * i) hl (by omega)
    have l5 := atN_le l (5 + 2 * i)
    obtain ⟨c, hc, hcol⟩ := column_ex rows (atN l (5 + 2 * i)) (atN l (6 + 2 * i)) (by omega) hr3 hr5
    simp only [colC] at hcol
    simp only [L4_0, tmR, seval, h0, h3, h4, h5, b3, wpcall_eq at2', hrem, nat_lt, hi, hw2, hw5, hw6, wpcall_eq a5, wpcall_eq a6, wpcall_eq hcol]
    refine wp_growS [53] 53 (by decide) (.fb []) _ _ _ _ _ _ (xs := cols.map colC) (zs := [colC c]) ?_ (fun k g => rfl) ?_ (by simp) (by simp; omega) ?_
    · simp only [tmR, seval]
      exact hg3.mono (fun k g hk _ => by simp only [List.mem_cons, List.not_mem_nil, or_false] at hk; rcases hk with rfl; simp only [tmD, reduceIte, Nat.reduceEqDiff, Nat.reduceAdd]) (fun k hk => by simp only [List.mem_cons, List.not_mem_nil, or_false] at hk; rcases hk with rfl; simp only [tmD, reduceIte, Nat.reduceEqDiff, Nat.reduceAdd]; exact Nat.le_refl _)
    · simp only [tmR, seval, elems]; rfl
    · intro st' v henv hobj hcnt hg'
      have ho3 := hobj 3 0 (by decide)
      have ho2 := hobj 2 0 (by decide)
      simp only [tmD, reduceIte, Nat.reduceEqDiff, Nat.reduceAdd, b3] at ho3
      simp only [tmD, reduceIte, Nat.reduceEqDiff, Nat.reduceAdd, b2] at ho2
      have hg1' : GrowsS st' [29] 1 v1 (ints .i64 rows) := hg1.mono (fun k g hk _ => by
          have e := hobj k g (by simp only [List.mem_cons, List.not_mem_nil, or_false] at hk ⊢; omega)
          simp only [List.mem_cons, List.not_mem_nil, or_false] at hk
          rw [e]; rcases hk with rfl; simp only [tmD, reduceIte, Nat.reduceEqDiff, Nat.reduceAdd]) (fun k hk => by
          have e := hcnt k (by simp only [List.mem_cons, List.not_mem_nil, or_false] at hk; omega)
          simp only [List.mem_cons, List.not_mem_nil, or_false] at hk
          rw [e]; rcases hk with rfl; simp only [tmD, reduceIte, Nat.reduceEqDiff, Nat.reduceAdd]; exact Nat.le_refl _)
      have em : cols.map colC ++ [colC c] = (cols ++ [c]).map colC := by simp
      rw [em] at hg'
      obtain ⟨hz, _⟩ | ⟨k0, g0, o, hk0, hv, hrest⟩ := hg'
      · simp at hz
      · subst hv
        simp only [tmR, seval, henv, h0, h2, h3, h4, h5, ho3, nat_add_one, hw, Box2Z, ho2, BoxG]
        refine ⟨hg1'.mono (fun k g hk _ => by simp only [List.mem_cons, List.not_mem_nil, or_false] at hk; rcases hk with rfl; simp only [tmD, reduceIte, Nat.reduceEqDiff, Nat.reduceAdd]) (fun k hk => by simp only [tmD, reduceIte, Nat.reduceEqDiff, Nat.reduceAdd]; exact Nat.le_refl _), _, cols ++ [c], rfl, ?_, by simp; omega, fun x hx => ?_⟩
        · refine GrowsS.mono (st := st') (.inr ⟨k0, g0, o, hk0, rfl, hrest⟩) (fun k g hk _ => by simp only [List.mem_cons, List.not_mem_nil, or_false] at hk; rcases hk with rfl; simp only [tmD, reduceIte, Nat.reduceEqDiff, Nat.reduceAdd]) (fun k hk => by simp only [tmD, reduceIte, Nat.reduceEqDiff, Nat.reduceAdd]; exact Nat.le_refl _)
        · rcases List.mem_append.1 hx with h | h
          · exact hcs x h
          · simp only [List.mem_singleton] at h; subst h; exact hc
  · rintro s ⟨h0, h2, h3, h4, h5, b2, hg1, v3, cols, b3, hg3, hcl, hcs⟩
    simp only [L4_0, tmR, seval, h0, h5, wpcall_eq at2', hrem, Int.lt_irrefl]
    exact hQ _ v3 cols h0 h2 h3 h4 b2 (hg1.mono (fun k g hk _ => by simp only [tmD, reduceIte, Nat.reduceEqDiff, Nat.reduceAdd]) (fun k hk => by simp only [tmD, reduceIte, Nat.reduceEqDiff, Nat.reduceAdd]; exact Nat.le_refl _)) b3 (hg3.mono (fun k g hk _ => by simp only [tmD, reduceIte, Nat.reduceEqDiff, Nat.reduceAdd]) (fun k hk => by simp only [tmD, reduceIte, Nat.reduceEqDiff, Nat.reduceAdd]; exact Nat.le_refl _)) (by omega) hcs
  · exact ⟨h0, h2, h3, h4, h5, b2, hg1, .nils, [], b3, .inl ⟨rfl, rfl⟩, by simp, fun c hc => by cases hc⟩
end Go.TM.Fn
end
