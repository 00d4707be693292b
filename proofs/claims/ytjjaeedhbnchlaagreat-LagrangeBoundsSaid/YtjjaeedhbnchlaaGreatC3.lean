/- Master problems, prices, both bounds, and the law on the machine. Conditions stand in each theorem. -/
import Derived.Test.YtjjaeedhbnchlaaGreatC2
import Derived.KernelRfl
section
namespace Go.TM.Fn
open Go Go.TM Go.Plain
set_option linter.unusedVariables false
set_option linter.unusedSimpArgs false
set_option maxRecDepth 20000
set_option maxHeartbeats 4000000
theorem sameInt_c (n : Bool) (ds : List Nat) (hl : ds.length < 2147483648) : Gives mach 77 [rawI n ds, rawI n ds] (.bool true) := by
  refine gives tab77 rfl ?_
  have e1 : (!(n == n)) = false := by simp
  have e2 : ((ds.length : Int) = (ds.length : Int)) = True := eq_true rfl
  simp only [F77, tmR, seval, dig_len, e1, Bool.not_true]
  refine wp_for (fun i s => s.env 2 = .ptr 2 0 0 0 ∧ s.env 3 = .ptr 3 0 0 0 ∧ s.obj 2 0 = some { cont := [[.bool n, .sl (dig ds)]], esz := 2, box := true, solo := true, tip := false } ∧ s.obj 3 0 = some { cont := [[.bool n, .sl (dig ds)]], esz := 2, box := true, solo := true, tip := false } ∧ s.env 5 = .int .i64 (i : Nat)) ds.length ?_ ?_ ds.length 0 _ (by omega) ?_
  · rintro i s hi ⟨h2, h3, o2, o3, h5⟩
    have hw : IntKind.i64.wrap ((i + 1 : Nat) : Int) = (i + 1 : Nat) := wrap_i64n (by omega)
    simp only [L77_0, tmR, seval, h2, h3, o2, o3, h5, dig_len, nat_lt, hi, iaddr_dig hi, nat_add_one, hw]
  · rintro s ⟨h2, h3, o2, o3, h5⟩
    simp only [L77_0, tmR, seval, h2, h3, o2, o3, h5, dig_len, Int.lt_irrefl, tmF]
  · simp only [tmD, reduceIte, Nat.reduceEqDiff, Nat.reduceAdd]
    rfl
theorem same_c (n : Bool) (ds : List Nat) (m : Bool) (es : List Nat) (hl : ds.length < 2147483648) (hl2 : es.length < 2147483648) : Gives mach 20 [rawQ n ds m es, rawQ n ds m es] (.bool true) := by
  have s1 := sameInt_c n ds hl
  have s2 := sameInt_c m es hl2
  refine gives tab20 rfl ?_
  simp only [F20, tmR, seval, wpcall_eq s1, wpcall_eq s2, tmF]
theorem rqdiv_c {j k v w x y} (hv : IsQ j v x) (hw : IsQ k w y) (hj : j + k < 33554400) (hj0 : 0 < j) (hk0 : 0 < k) : Gives mach 78 [v, w] (encQ (x / y)) := by
  have c1 := rcanon_c hv (by omega)
  have c2 := rcanon_c hw (by omega)
  have d1 := hv.dq hj0
  have d2 := hw.dq hk0
  have m1 := rmul_c (isI_enc d1.1) (isI_enc d2.2) (by omega) (by omega)
  have m3 := rmul_c (isI_enc d1.2) (isI_enc d2.1) (by omega) (by omega)
  have e1 := d1.1.mul d2.2
  have e3 := d1.2.mul d2.1
  have r := rnew_c (isI_enc e1) (isI_enc e3) (by omega) (by omega)
  have e : Rat.divInt (x.num * y.den) (x.den * y.num) = x / y := by
    conv => rhs; rw [Rat.div_def, ← Rat.num_divInt_den x, ← Rat.num_divInt_den y, Rat.inv_divInt, Rat.divInt_mul_divInt]
  rw [e] at r
  obtain ⟨n, ds, m, es, rfl, -⟩ := hv
  obtain ⟨n', ds', m', es', rfl, -⟩ := hw
  refine gives tab78 rfl ?_
  simp only [F78, tmR, seval, wpcall_eq c1, wpcall_eq c2, wpcall_eq m1, wpcall_eq m3, wpcall_eq r, tmF]
theorem dq_div {j k x y} (hx : Dq j x) (hy : Dq k y) (h : 0 < j + k) : Dq (j + k) (x / y) := by
  have := dq_divInt (k := j + k) h (hx.1.mul hy.2) (hx.2.mul hy.1)
  have e : Rat.divInt (x.num * y.den) (x.den * y.num) = x / y := by
    conv => rhs; rw [Rat.div_def, ← Rat.num_divInt_den x, ← Rat.num_divInt_den y, Rat.inv_divInt, Rat.divInt_mul_divInt]
  rwa [e] at this
def andm (x : Int) (m : Nat) : Nat := (BitVec.ofInt 64 x &&& BitVec.ofNat 64 m).toNat
theorem andm_le (x : Int) (m : Nat) : andm x m ≤ m := by
  unfold andm; rw [BitVec.toNat_and, BitVec.toNat_ofNat]
  exact Nat.le_trans Nat.and_le_right (Nat.mod_le _ _)
theorem bin_and_i64 (b) (x : Int) (m : Nat) (hm : m < 9223372036854775808) : binTV b .and (.int .i64 x) (.int .i64 (m : Int)) = some (.int .i64 ((andm x m : Nat) : Int)) := by
  have h := andm_le x m
  have e : (BitVec.ofInt IntKind.i64.bits x &&& BitVec.ofInt IntKind.i64.bits (m : Int)).toNat = andm x m := by
    show (BitVec.ofInt 64 x &&& BitVec.ofInt 64 (m : Int)).toNat = _
    rw [ofInt_nat]; rfl
  simp only [binTV, if_true, e]
  rw [wrap_i64n (by omega)]
theorem and65535 (b x) : binTV b .and (.int .i64 x) (.int .i64 65535) = some (.int .i64 ((andm x 65535 : Nat) : Int)) := bin_and_i64 b x 65535 (by omega)
theorem and15 (b x) : binTV b .and (.int .i64 x) (.int .i64 15) = some (.int .i64 ((andm x 15 : Nat) : Int)) := bin_and_i64 b x 15 (by omega)
theorem and7 (b x) : binTV b .and (.int .i64 x) (.int .i64 7) = some (.int .i64 ((andm x 7 : Nat) : Int)) := bin_and_i64 b x 7 (by omega)
theorem and3 (b x) : binTV b .and (.int .i64 x) (.int .i64 3) = some (.int .i64 ((andm x 3 : Nat) : Int)) := bin_and_i64 b x 3 (by omega)
theorem and1 (b x) : binTV b .and (.int .i64 x) (.int .i64 1) = some (.int .i64 ((andm x 1 : Nat) : Int)) := bin_and_i64 b x 1 (by omega)
theorem bin_shr_i64 (b kk) (x y : Int) (hy : 0 ≤ y) : binTV b .shr (.int .i64 x) (.int kk y) = some (.int .i64 (x.fdiv (2 ^ (min y.toNat 64)))) := by
  simp only [binTV]; rw [if_pos hy]; rfl
theorem rem_nat (n m : Nat) : (n : Int).tmod (m : Int) = ((n % m : Nat) : Int) := (Int.ofNat_tmod n m).symm
theorem at_ex (l : List Int) (i : Nat) (hl : l.length < 9223372036854775808) (hi : i < 2147483648) : ∃ v : Nat, v ≤ 65535 + i ∧ Gives mach 59 [.sl (ints .i64 l), .int .i64 (i : Nat)] (.int .i64 (v : Nat)) := by
  by_cases h0 : l.length = 0
  · refine ⟨andm i 65535, by have := andm_le i 65535; omega, gives tab59 rfl ?_⟩
    have h0' : ((l.length : Int) = 0) = True := eq_true (by omega)
    simp only [F59, tmR, seval, ints_len, h0', and65535, tmF]
  · have h0' : ((l.length : Int) = 0) = False := eq_false (by omega)
    have hz : ((l.length : Nat) : Int) ≠ 0 := by omega
    have hlt : i % l.length < l.length := Nat.mod_lt _ (by omega)
    have hle := andm_le (l.getD (i % l.length) 0) 65535
    have hd : i / l.length ≤ i := Nat.div_le_self _ _
    have hw : IntKind.i64.wrap ((i / l.length : Nat) : Int) = (i / l.length : Nat) := wrap_i64n (by omega)
    have hw2 : IntKind.i64.wrap ((andm (l.getD (i % l.length) 0) 65535 + i / l.length : Nat) : Int) = (andm (l.getD (i % l.length) 0) 65535 + i / l.length : Nat) := wrap_i64n (by omega)
    refine ⟨andm (l.getD (i % l.length) 0) 65535 + i / l.length, by omega, gives tab59 rfl ?_⟩
    simp only [F59, tmR, seval, ints_len, h0', bin_rem _ _ _ _ hz, rem_nat, iaddr_ints hlt, and65535, bin_quo _ _ _ _ hz, quo_nat, hw, ← Int.natCast_add, hw2, tmF]
open Classical in
noncomputable def atN (l : List Int) (i : Nat) : Nat := if h : l.length < 9223372036854775808 ∧ i < 2147483648 then Classical.choose (at_ex l i h.1 h.2) else 0
theorem at_c (l : List Int) (i : Nat) (hl : l.length < 9223372036854775808) (hi : i < 2147483648) : Gives mach 59 [.sl (ints .i64 l), .int .i64 (i : Nat)] (.int .i64 (atN l i : Nat)) := by
  unfold atN; rw [dif_pos ⟨hl, hi⟩]; exact (Classical.choose_spec (at_ex l i hl hi)).2
theorem atN_le (l : List Int) (i : Nat) : atN l i ≤ 65535 + i := by
  unfold atN; split
  · rename_i h; exact (Classical.choose_spec (at_ex l i h.1 h.2)).1
  · omega
theorem frac_ex (n : Int) : ∃ q, Dq 4 q ∧ Gives mach 61 [.int .i64 n] (encQ q) := by
  have h1 := andm_le n 15
  have h2 := andm_le (n.fdiv (2 ^ (min (Int.toNat 4) 64))) 3
  have i1 := rint_c (n := (andm n 15 : Int) - 5) (by unfold I64; omega)
  have i2 := rint_c (n := 1 + (andm (n.fdiv (2 ^ (min (Int.toNat 4) 64))) 3 : Int)) (by unfold I64; omega)
  have d1 := dq_int (n := (andm n 15 : Int) - 5) (by unfold I64; omega)
  have d2 := dq_int (n := 1 + (andm (n.fdiv (2 ^ (min (Int.toNat 4) 64))) 3 : Int)) (by unfold I64; omega)
  have dv := rqdiv_c (isQ_enc d1) (isQ_enc d2) (by omega) (by omega) (by omega)
  have w1 : IntKind.i64.wrap ((andm n 15 : Int) - 5) = (andm n 15 : Int) - 5 := wrap_i64 (by omega) (by omega)
  have w2 : IntKind.i64.wrap (1 + (andm (n.fdiv (2 ^ (min (Int.toNat 4) 64))) 3 : Int)) = 1 + (andm (n.fdiv (2 ^ (min (Int.toNat 4) 64))) 3 : Int) := wrap_i64 (by omega) (by omega)
  have hs := fun b kk => bin_shr_i64 b kk n 4 (by decide)
  refine ⟨_, dq_div d1 d2 (by omega), gives tab61 rfl ?_⟩
  generalize n.fdiv (2 ^ (min (Int.toNat 4) 64)) = t at *
  simp only [F61, tmR, seval, and15, w1, wpcall_eq i1, hs, and3, w2, wpcall_eq i2, wpcall_eq dv, tmF]
open Classical in
noncomputable def fracQ (n : Int) : Rat := Classical.choose (frac_ex n)
theorem frac_c (n : Int) : Gives mach 61 [.int .i64 n] (encQ (fracQ n)) := (Classical.choose_spec (frac_ex n)).2
theorem fracQ_dq (n : Int) : Dq 4 (fracQ n) := (Classical.choose_spec (frac_ex n)).1
end Go.TM.Fn
end
section
namespace Go.TM.Fn
open Go Go.TM Go.Plain
set_option linter.unusedVariables false
set_option linter.unusedSimpArgs false
set_option maxRecDepth 20000
set_option maxHeartbeats 4000000
theorem trees_unsol (b hs) (st : St) : ∀ cs, trees (unsol b hs st).obj cs = trees st.obj cs
  | [] => rfl
  | c :: cs => by
    have h1 : tree1 (unsol b hs st).obj c = tree1 st.obj c := by
      cases c <;> try rfl
      simp only [tree1, unsol_objG]
      cases st.obj _ _ <;> rfl
    simp only [trees, h1, trees_unsol b hs st cs]
theorem grows_unsol {st : St} {d e v xs} {b hs} (h : Grows st d e v xs) : Grows (unsol b hs st) d e v xs := by
  rcases h with h | ⟨g, o, h1, h2, h3, h4, h5, h6, h7⟩
  · exact .inl h
  · refine .inr ⟨g, { cont := o.cont, esz := o.esz, box := o.box, solo := (if b && hs.contains (d, g) then o.box && o.solo else o.solo), tip := o.tip }, h1, by rw [unsol_cnt]; exact h2, ?_, h4, h5, h6, h7⟩
    rw [unsol_objG, h3]; rfl
def SmallDs (n : Nat) (ds : List (List Task)) : Prop := ds.length ≤ n ∧ ∀ d ∈ ds, d.length ≤ n
theorem oper_le {n : Nat} {ds : List (List Task)} (h : SmallDs n ds) : (oper ds).length ≤ n * n := by
  have : ∀ (l : List (List Task)), (∀ d ∈ l, d.length ≤ n) → (oper l).length ≤ l.length * n := by
    intro l
    induction l with
    | nil => intro _; simp [oper]
    | cons d l ih =>
      intro hl
      have h1 := ih fun d hd => hl d (List.mem_cons_of_mem _ hd)
      have h2 := hl d List.mem_cons_self
      have h3 : (operD d).length ≤ d.length := by unfold operD; rw [List.length_map]; exact List.length_filter_le _ _
      have e : oper (d :: l) = operD d ++ oper l := by simp [oper]
      rw [e, List.length_append, List.length_cons, Nat.succ_mul]
      omega
  exact Nat.le_trans (this ds h.2) (Nat.mul_le_mul_right _ h.1)
theorem shr_var (b : Bool) (x : Int) (r : Nat) : binTV b .shr (.int .i64 x) (.int .u64 (r : Nat)) = some (.int .i64 (x.fdiv (2 ^ (min r 64)))) := by
  rw [bin_shr_i64 _ _ _ _ (by omega), Int.toNat_natCast]
def GrowsS (st : St) (S : List Nat) (e : Nat) (v : TV) (xs : Cont) : Prop :=
  (xs = [] ∧ v = .nils) ∨ ∃ k g o, k ∈ S ∧ v = .hs k g e xs.length ∧ g < st.cnt k ∧ st.obj k g = some o ∧ o.cont = xs ∧ o.box = false ∧ o.esz = e ∧ o.tip = true
theorem GrowsS.mono {st st' : St} {S e v xs} (h : GrowsS st S e v xs) (ho : ∀ k g, k ∈ S → g < st.cnt k → st'.obj k g = st.obj k g) (hc : ∀ k, k ∈ S → st.cnt k ≤ st'.cnt k) : GrowsS st' S e v xs := by
  rcases h with h | ⟨k, g, o, h0, h1, h2, h3, h4⟩
  · exact .inl h
  · exact .inr ⟨k, g, o, h0, h1, Nat.lt_of_lt_of_le h2 (hc k h0), by rw [ho k g h0 h2]; exact h3, h4⟩
theorem GrowsS.unsol {st : St} {S e v xs} {b hs} (h : GrowsS st S e v xs) : GrowsS (unsol b hs st) S e v xs := by
  rcases h with h | ⟨k, g, o, h0, h1, h2, h3, h4, h5, h6, h7⟩
  · exact .inl h
  · refine .inr ⟨k, g, { cont := o.cont, esz := o.esz, box := o.box, solo := (if b && hs.contains (k, g) then o.box && o.solo else o.solo), tip := o.tip }, h0, h1, by rw [unsol_cnt]; exact h2, ?_, h4, h5, h6, h7⟩
    rw [unsol_objG, h3]; rfl
theorem GrowsS.tree {st S e v xs} (h : GrowsS st S e v xs) : tree1 st.obj v = some (.sl xs) := by
  rcases h with ⟨rfl, rfl⟩ | ⟨k, g, o, _, rfl, _, h3, rfl, h4, h5, _⟩
  · rfl
  · simp [tree1, h3, h4, h5]
theorem GrowsS.len {st S e v xs} (h : GrowsS st S e v xs) : lenTV false v = some (.int .i64 (xs.length : Nat)) := by
  rcases h with ⟨rfl, rfl⟩ | ⟨k, g, o, _, rfl, _⟩ <;> rfl
theorem GrowsS.cells {st S e v xs} (h : GrowsS st S e v xs) : v.cells = [v] := by
  rcases h with ⟨rfl, rfl⟩ | ⟨k, g, o, _, rfl, _⟩ <;> rfl
theorem wp_growS {M : Mach} (S : List Nat) (d : Nat) (hd : d ∈ S) (vk : Vk) (r : List TStep) (Q : St → Prop) (st : St) (e s x) {xs zs} (hs : GrowsS st S e (Go.TM.val st.env s) xs) (hv : ∀ k g, restrict st.obj vk k g = st.obj k g) (hx : Go.TM.elems (restrict st.obj vk) e (Go.TM.val st.env x) = some zs) (hz : zs ≠ []) (hl : xs.length + zs.length < 2147483648)
    (hQ : ∀ st' v, (∀ i, st'.env i = if i = d then v else st.env i) → (∀ k g, ¬ k ∈ S → st'.obj k g = st.obj k g) → (∀ k, k ≠ d → st'.cnt k = st.cnt k) → GrowsS st' S e v (xs ++ zs) → Wp M r Q st') :
    Wp M (⟨some d, .app e false s x, none, vk⟩ :: r) Q st := by
  rw [wp_app]
  rcases hs with ⟨rfl, hs⟩ | ⟨k0, g, o, hk0, hs, hg, ho, rfl, hb, he, ht⟩
  · rw [hs, app_nils hx hz (by simpa using hl), wpeff_some, apply_new1]
    refine hQ _ (.hs d (st.cnt d) e zs.length) (fun i => rfl) (fun k g hk => ?_) (fun k hk => ?_) (.inr ⟨d, st.cnt d, { cont := zs, esz := e, box := false, solo := true, tip := true }, hd, rfl, ?_, ?_, rfl, rfl, rfl, rfl⟩)
    · simp only [bump_obj, putO_obj]; rw [if_neg (by rintro ⟨rfl, _⟩; exact hk hd)]
    · simp only [bump_cnt, putO_cnt]; rw [if_neg hk]
    · simp only [bump_cnt]; simp
    · simp only [bump_obj, putO_obj]; simp
  · rw [hs]
    have ha : appE d (st.cnt d) (restrict st.obj vk) e false (.hs k0 g e o.cont.length) (Go.TM.val st.env x) = some { v := .hs d (st.cnt d) e (o.cont.length + zs.length), new := [{ cont := o.cont ++ zs, esz := e, box := false, solo := false, tip := true }], mods := [(k0, g, some { o with solo := false, tip := false })] } := by
      simp only [appE, hx, hv, ho]
      rw [if_pos (by simp [hb, he, ht, hl])]
      simp
    rw [ha, wpeff_some]
    refine hQ _ (.hs d (st.cnt d) e (o.cont.length + zs.length)) (fun i => rfl) (fun k g' hk => ?_) (fun k hk => ?_) (.inr ⟨d, st.cnt d, { cont := o.cont ++ zs, esz := e, box := false, solo := false, tip := true }, hd, by rw [List.length_append], ?_, ?_, rfl, rfl, rfl, rfl⟩)
    · simp only [apply, addNew, List.foldl_cons, List.foldl_nil, updO]; rw [if_neg (by rintro ⟨rfl, _⟩; exact hk hd), if_neg (by rintro ⟨rfl, _⟩; exact hk hk0)]
    · simp only [apply, upd]; rw [if_neg hk]
    · simp only [apply, upd]; simp
    · simp only [apply, addNew, List.foldl_cons, List.foldl_nil, updO]; simp
theorem apply_unew (d : Nat) (v : TV) (us) (o : Obj) (st : St) : apply (some d) { v := v, new := [o], unsolo := us } st = bump (putO (unsol true us st) d v d (st.cnt d) (some o)) d (st.cnt d + 1) := rfl
theorem loopCol {Q : Ex → St → Prop} {st : St} (rows : List Int) (n k : Int) (h5 : rows.length ≤ 5) (h0 : st.env 0 = .sl (ints .i64 rows)) (h1 : st.env 1 = .int .i64 n) (h2 : st.env 2 = .int .i64 k) (h6 : st.env 6 = .ptr 6 0 0 0) (ho6 : ∃ a b c, st.obj 6 0 = some { cont := [[a, b, c]], esz := 3, box := true, solo := true, tip := false })
    (d0 : List Task) (hd0 : d0.length ≤ 1) (h7 : GrowsS st [18, 51, 73] 2 (st.env 7) (d0.map taskC)) (h8 : st.env 8 = .nils) (h9 : ∃ b, st.env 9 = .bool b) (h10 : st.env 10 = .int .i64 0)
    (hQ : ∀ (s : St) (d : List Task) (ds : List (List Task)), s.env 0 = .sl (ints .i64 rows) → s.env 1 = .int .i64 n → s.env 6 = .ptr 6 0 0 0 → (∃ a b c, s.obj 6 0 = some { cont := [[a, b, c]], esz := 3, box := true, solo := true, tip := false }) → GrowsS s [18, 51, 73] 2 (s.env 7) (d.map taskC) → d.length ≤ 7 → GrowsS s [59, 80] 1 (s.env 8) (dutiesC ds) → SmallDs 7 ds → (∃ b, s.env 9 = .bool b) → Q (.exit 0) s) :
    Goes mach (.loop L60_0) Q st := by
  refine wp_for (fun i s => s.env 0 = .sl (ints .i64 rows) ∧ s.env 1 = .int .i64 n ∧ s.env 2 = .int .i64 k ∧ s.env 6 = .ptr 6 0 0 0 ∧ (∃ a b c, s.obj 6 0 = some { cont := [[a, b, c]], esz := 3, box := true, solo := true, tip := false }) ∧ (∃ b, s.env 9 = .bool b) ∧ s.env 10 = .int .i64 (i : Nat) ∧
    ∃ (d : List Task) (ds : List (List Task)), GrowsS s [18, 51, 73] 2 (s.env 7) (d.map taskC) ∧ d.length ≤ 1 + i ∧ GrowsS s [59, 80] 1 (s.env 8) (dutiesC ds) ∧ SmallDs (1 + i) ds) rows.length ?_ ?_ rows.length 0 _ (by omega) ?_
  · rintro i s hi ⟨h0, h1, h2, h6, ⟨oa, ob, oc, ho6⟩, ⟨b9, h9⟩, h10, d, ds, hg7, hd, hg8, hds⟩
    have hw : IntKind.i64.wrap ((i + 1 : Nat) : Int) = (i + 1 : Nat) := wrap_i64n (by omega)
    have hwl : IntKind.i64.wrap ((rows.length : Int) - 1) = ((rows.length - 1 : Nat) : Int) := by rw [wrap_i64 (by omega) (by omega)]; omega
    have hwi : IntKind.i64.wrap (((rows.length - 1 : Nat) : Int) - (i : Nat)) = ((rows.length - 1 - i : Nat) : Int) := by rw [wrap_i64 (by omega) (by omega)]; omega
    have hwu : IntKind.u64.wrap (i : Nat) = (i : Nat) := by rw [wrap_u64, Nat.mod_eq_of_lt (by omega)]
    have hri : rows.length - 1 - i < rows.length := by omega
    have hk1 := fun b kk => bin_shr_i64 b kk k 1 (by decide)
    have hk4 := fun b kk => bin_shr_i64 b kk k 4 (by decide)
    have hni := shr_var false n i
    generalize k.fdiv (2 ^ (min (Int.toNat 1) 64)) = ka at *
    generalize k.fdiv (2 ^ (min (Int.toNat 4) 64)) = kb at *
    generalize n.fdiv (2 ^ (min i 64)) = na at *
    by_cases c1 : (andm ka 7 : Int) = 7
    ·
      by_cases c2 : (andm na 1 : Int) = 1
      · simp only [L60_0, tmR, seval, h0, h1, h2, h6, h9, h10, ints_len, nat_lt, hi, iaddr_ints hi, hk1, and7, c1, hwl, hwi, iaddr_ints hri, hwu, hni, and1, c2]
        refine wp_growS [18, 51, 73] 51 (by decide) .full _ _ _ _ _ _ (xs := d.map taskC) (zs := [taskC (rows.getD (rows.length - 1 - i) 0, false)]) ?_ (fun k g => rfl) ?_ (by simp) (by simp; omega) ?_
        · simp only [tmR, seval]
          exact hg7.mono (fun k g hk _ => by simp only [List.mem_cons, List.not_mem_nil, or_false] at hk; rcases hk with rfl | rfl | rfl <;> simp only [tmD, reduceIte, Nat.reduceEqDiff, Nat.reduceAdd]) (fun k hk => by simp only [List.mem_cons, List.not_mem_nil, or_false] at hk; rcases hk with rfl | rfl | rfl <;> simp only [tmD, reduceIte, Nat.reduceEqDiff, Nat.reduceAdd] <;> exact Nat.le_refl _)
        · simp only [tmR, seval, elems]; rfl
        · intro st' v henv hobj hcnt hg'
          have ho6' := hobj 6 0 (by decide)
          simp only [tmD, reduceIte, Nat.reduceEqDiff, Nat.reduceAdd, ho6] at ho6'
          have hg8' : GrowsS st' [59, 80] 1 (s.env 8) (dutiesC ds) := hg8.mono (fun k g hk _ => by
            have e := hobj k g (by simp only [List.mem_cons, List.not_mem_nil, or_false] at hk; rcases hk with rfl | rfl <;> decide)
            simp only [List.mem_cons, List.not_mem_nil, or_false] at hk
            rw [e]; rcases hk with rfl | rfl <;> simp only [tmD, reduceIte, Nat.reduceEqDiff, Nat.reduceAdd]) (fun k hk => by
            have e := hcnt k (by simp only [List.mem_cons, List.not_mem_nil, or_false] at hk; rcases hk with rfl | rfl <;> decide)
            simp only [List.mem_cons, List.not_mem_nil, or_false] at hk
            rw [e]; rcases hk with rfl | rfl <;> simp only [tmD, reduceIte, Nat.reduceEqDiff, Nat.reduceAdd] <;> exact Nat.le_refl _)
          have em : d.map taskC ++ [taskC (rows.getD (rows.length - 1 - i) 0, false)] = (d ++ [(rows.getD (rows.length - 1 - i) 0, false)]).map taskC := by simp
          rw [em] at hg'
          by_cases c3 : (andm kb 3 : Int) = 3
          · have hdl : (d ++ [(rows.getD (rows.length - 1 - i) 0, false)]).length ≤ 1 + (i + 1) := by simp; omega
            generalize d ++ [(rows.getD (rows.length - 1 - i) 0, false)] = dd at hg' hdl
            obtain ⟨hnil, hv⟩ | ⟨k0, g0, o, hk0, rfl, hg0, hog, hoc, hob, hoe, hot⟩ := hg'
            · subst hv
              have hz : dd = [] := by simpa using hnil
              subst hz
              simp only [tmR, seval, henv, h0, h1, h2, h6, hk4, and3, c3]
              refine wp_growS [59, 80] 59 (by decide) .full _ _ _ _ _ _ (xs := dutiesC ds) (zs := [dutyC []]) ?_ (fun k g => rfl) ?_ (by simp) (by have := hds.1; simp [dutiesC]; omega) ?_
              · simp only [tmR, seval]
                exact hg8'.mono (fun k g hk _ => by simp only [List.mem_cons, List.not_mem_nil, or_false] at hk; rcases hk with rfl | rfl <;> simp only [tmD, reduceIte, Nat.reduceEqDiff, Nat.reduceAdd]) (fun k hk => by simp only [List.mem_cons, List.not_mem_nil, or_false] at hk; rcases hk with rfl | rfl <;> simp only [tmD, reduceIte, Nat.reduceEqDiff, Nat.reduceAdd] <;> exact Nat.le_refl _)
              · simp only [tmR, seval, elems]; rfl
              · intro st2 v2 henv2 hobj2 hcnt2 hg2
                have ho62 := hobj2 6 0 (by decide)
                simp only [tmD, reduceIte, Nat.reduceEqDiff, Nat.reduceAdd, ho6'] at ho62
                simp only [tmR, seval, henv2, henv, h0, h1, h2, h6, h10, nat_add_one, hw]
                refine ⟨⟨oa, ob, oc, ho62⟩, ⟨true, rfl⟩, [], ds ++ [[]], .inl ⟨rfl, rfl⟩, by simp, ?_, by have := hds.1; simp; omega, fun x hx => ?_⟩
                · have e : dutiesC ds ++ [dutyC []] = dutiesC (ds ++ [[]]) := by simp [dutiesC]
                  rw [← e]
                  exact hg2.mono (fun k g hk _ => by simp only [tmD, reduceIte, Nat.reduceEqDiff, Nat.reduceAdd]) (fun k hk => by simp only [tmD, reduceIte, Nat.reduceEqDiff, Nat.reduceAdd]; exact Nat.le_refl _)
                · rcases List.mem_append.1 hx with h | h
                  · have := hds.2 x h; omega
                  · simp only [List.mem_singleton] at h; subst h; simp
            · simp only [tmR, seval, henv, h0, h1, h2, h6, hk4, and3, c3, hog, hob, hoe, hoc, apply_unew, map_len, (show List.take dd.length (dd.map taskC) = dd.map taskC from List.take_of_length_le (by simp))]
              refine wp_growS [59, 80] 59 (by decide) .full _ _ _ _ _ _ (xs := dutiesC ds) (zs := [dutyC dd]) ?_ (fun k g => rfl) ?_ (by simp) (by have := hds.1; simp [dutiesC]; omega) ?_
              · simp only [tmR, seval]
                exact (hg8'.unsol (b := true) (hs := [(k0, g0)])).mono (fun k g hk _ => by simp only [List.mem_cons, List.not_mem_nil, or_false] at hk; rcases hk with rfl | rfl <;> simp only [tmD, reduceIte, Nat.reduceEqDiff, Nat.reduceAdd, unsol_objG]) (fun k hk => by simp only [List.mem_cons, List.not_mem_nil, or_false] at hk; rcases hk with rfl | rfl <;> simp only [tmD, reduceIte, Nat.reduceEqDiff, Nat.reduceAdd, unsol_cnt] <;> exact Nat.le_refl _)
              · simp only [tmR, seval, elems]; rfl
              · intro st2 v2 henv2 hobj2 hcnt2 hg2
                have hk6 : ¬ (6 = k0) := by simp only [List.mem_cons, List.not_mem_nil, or_false] at hk0; rcases hk0 with rfl | rfl | rfl <;> decide
                have ho62 := hobj2 6 0 (by decide)
                have hb6 : (6 == k0) = false := beq_false_of_ne hk6
                simp only [tmD, reduceIte, Nat.reduceEqDiff, Nat.reduceAdd, unsol_objG, ho6', Option.map_some, pr_beq, List.contains_cons, List.contains_nil, hb6, Bool.false_and, Bool.or_self, Bool.and_false, Bool.false_eq_true] at ho62
                simp only [tmR, seval, henv2, henv, h0, h1, h2, h6, h10, nat_add_one, hw]
                refine ⟨⟨oa, ob, oc, ho62⟩, ⟨true, rfl⟩, [], ds ++ [dd], .inl ⟨rfl, rfl⟩, by simp, ?_, by have := hds.1; simp; omega, fun x hx => ?_⟩
                · have e : dutiesC ds ++ [dutyC dd] = dutiesC (ds ++ [dd]) := by simp [dutiesC]
                  rw [← e]
                  exact hg2.mono (fun k g hk _ => by simp only [tmD, reduceIte, Nat.reduceEqDiff, Nat.reduceAdd]) (fun k hk => by simp only [tmD, reduceIte, Nat.reduceEqDiff, Nat.reduceAdd]; exact Nat.le_refl _)
                · rcases List.mem_append.1 hx with h | h
                  · have := hds.2 x h; omega
                  · simp only [List.mem_singleton] at h; subst h; omega
          · simp only [tmR, seval, henv, h0, h1, h2, h6, h10, hk4, and3, c3, nat_add_one, hw]
            refine ⟨⟨oa, ob, oc, ho6'⟩, ⟨true, rfl⟩, d ++ [(rows.getD (rows.length - 1 - i) 0, false)], ds, hg'.mono (fun k g hk _ => by simp only [tmD, reduceIte, Nat.reduceEqDiff, Nat.reduceAdd]) (fun k hk => by simp only [tmD, reduceIte, Nat.reduceEqDiff, Nat.reduceAdd]; exact Nat.le_refl _), by simp; omega, hg8'.mono (fun k g hk _ => by simp only [tmD, reduceIte, Nat.reduceEqDiff, Nat.reduceAdd]) (fun k hk => by simp only [tmD, reduceIte, Nat.reduceEqDiff, Nat.reduceAdd]; exact Nat.le_refl _), by have := hds.1; omega, fun x hx => by have := hds.2 x hx; omega⟩
      · simp only [L60_0, tmR, seval, h0, h1, h2, h6, h9, h10, ints_len, nat_lt, hi, iaddr_ints hi, hk1, and7, c1, hwl, hwi, iaddr_ints hri, hwu, hni, and1, c2, nat_add_one, hw]
        refine ⟨⟨oa, ob, oc, ho6⟩, ⟨b9, rfl⟩, d, ds, hg7.mono (fun k g hk _ => by simp only [tmD, reduceIte, Nat.reduceEqDiff, Nat.reduceAdd]) (fun k hk => by simp only [tmD, reduceIte, Nat.reduceEqDiff, Nat.reduceAdd]; exact Nat.le_refl _), by omega, hg8.mono (fun k g hk _ => by simp only [tmD, reduceIte, Nat.reduceEqDiff, Nat.reduceAdd]) (fun k hk => by simp only [tmD, reduceIte, Nat.reduceEqDiff, Nat.reduceAdd]; exact Nat.le_refl _), by have := hds.1; omega, fun x hx => by have := hds.2 x hx; omega⟩
    ·
      by_cases c2 : (andm na 1 : Int) = 1
      · simp only [L60_0, tmR, seval, h0, h1, h2, h6, h9, h10, ints_len, nat_lt, hi, iaddr_ints hi, hk1, and7, c1, hwu, hni, and1, c2]
        refine wp_growS [18, 51, 73] 51 (by decide) .full _ _ _ _ _ _ (xs := d.map taskC) (zs := [taskC (rows.getD i 0, false)]) ?_ (fun k g => rfl) ?_ (by simp) (by simp; omega) ?_
        · simp only [tmR, seval]
          exact hg7.mono (fun k g hk _ => by simp only [List.mem_cons, List.not_mem_nil, or_false] at hk; rcases hk with rfl | rfl | rfl <;> simp only [tmD, reduceIte, Nat.reduceEqDiff, Nat.reduceAdd]) (fun k hk => by simp only [List.mem_cons, List.not_mem_nil, or_false] at hk; rcases hk with rfl | rfl | rfl <;> simp only [tmD, reduceIte, Nat.reduceEqDiff, Nat.reduceAdd] <;> exact Nat.le_refl _)
        · simp only [tmR, seval, elems]; rfl
        · intro st' v henv hobj hcnt hg'
          have ho6' := hobj 6 0 (by decide)
          simp only [tmD, reduceIte, Nat.reduceEqDiff, Nat.reduceAdd, ho6] at ho6'
          have hg8' : GrowsS st' [59, 80] 1 (s.env 8) (dutiesC ds) := hg8.mono (fun k g hk _ => by
            have e := hobj k g (by simp only [List.mem_cons, List.not_mem_nil, or_false] at hk; rcases hk with rfl | rfl <;> decide)
            simp only [List.mem_cons, List.not_mem_nil, or_false] at hk
            rw [e]; rcases hk with rfl | rfl <;> simp only [tmD, reduceIte, Nat.reduceEqDiff, Nat.reduceAdd]) (fun k hk => by
            have e := hcnt k (by simp only [List.mem_cons, List.not_mem_nil, or_false] at hk; rcases hk with rfl | rfl <;> decide)
            simp only [List.mem_cons, List.not_mem_nil, or_false] at hk
            rw [e]; rcases hk with rfl | rfl <;> simp only [tmD, reduceIte, Nat.reduceEqDiff, Nat.reduceAdd] <;> exact Nat.le_refl _)
          have em : d.map taskC ++ [taskC (rows.getD i 0, false)] = (d ++ [(rows.getD i 0, false)]).map taskC := by simp
          rw [em] at hg'
          by_cases c3 : (andm kb 3 : Int) = 3
          · have hdl : (d ++ [(rows.getD i 0, false)]).length ≤ 1 + (i + 1) := by simp; omega
            generalize d ++ [(rows.getD i 0, false)] = dd at hg' hdl
            obtain ⟨hnil, hv⟩ | ⟨k0, g0, o, hk0, rfl, hg0, hog, hoc, hob, hoe, hot⟩ := hg'
            · subst hv
              have hz : dd = [] := by simpa using hnil
              subst hz
              simp only [tmR, seval, henv, h0, h1, h2, h6, hk4, and3, c3]
              refine wp_growS [59, 80] 59 (by decide) .full _ _ _ _ _ _ (xs := dutiesC ds) (zs := [dutyC []]) ?_ (fun k g => rfl) ?_ (by simp) (by have := hds.1; simp [dutiesC]; omega) ?_
              · simp only [tmR, seval]
                exact hg8'.mono (fun k g hk _ => by simp only [List.mem_cons, List.not_mem_nil, or_false] at hk; rcases hk with rfl | rfl <;> simp only [tmD, reduceIte, Nat.reduceEqDiff, Nat.reduceAdd]) (fun k hk => by simp only [List.mem_cons, List.not_mem_nil, or_false] at hk; rcases hk with rfl | rfl <;> simp only [tmD, reduceIte, Nat.reduceEqDiff, Nat.reduceAdd] <;> exact Nat.le_refl _)
              · simp only [tmR, seval, elems]; rfl
              · intro st2 v2 henv2 hobj2 hcnt2 hg2
                have ho62 := hobj2 6 0 (by decide)
                simp only [tmD, reduceIte, Nat.reduceEqDiff, Nat.reduceAdd, ho6'] at ho62
                simp only [tmR, seval, henv2, henv, h0, h1, h2, h6, h10, nat_add_one, hw]
                refine ⟨⟨oa, ob, oc, ho62⟩, ⟨true, rfl⟩, [], ds ++ [[]], .inl ⟨rfl, rfl⟩, by simp, ?_, by have := hds.1; simp; omega, fun x hx => ?_⟩
                · have e : dutiesC ds ++ [dutyC []] = dutiesC (ds ++ [[]]) := by simp [dutiesC]
                  rw [← e]
                  exact hg2.mono (fun k g hk _ => by simp only [tmD, reduceIte, Nat.reduceEqDiff, Nat.reduceAdd]) (fun k hk => by simp only [tmD, reduceIte, Nat.reduceEqDiff, Nat.reduceAdd]; exact Nat.le_refl _)
                · rcases List.mem_append.1 hx with h | h
                  · have := hds.2 x h; omega
                  · simp only [List.mem_singleton] at h; subst h; simp
            · simp only [tmR, seval, henv, h0, h1, h2, h6, hk4, and3, c3, hog, hob, hoe, hoc, apply_unew, map_len, (show List.take dd.length (dd.map taskC) = dd.map taskC from List.take_of_length_le (by simp))]
              refine wp_growS [59, 80] 59 (by decide) .full _ _ _ _ _ _ (xs := dutiesC ds) (zs := [dutyC dd]) ?_ (fun k g => rfl) ?_ (by simp) (by have := hds.1; simp [dutiesC]; omega) ?_
              · simp only [tmR, seval]
                exact (hg8'.unsol (b := true) (hs := [(k0, g0)])).mono (fun k g hk _ => by simp only [List.mem_cons, List.not_mem_nil, or_false] at hk; rcases hk with rfl | rfl <;> simp only [tmD, reduceIte, Nat.reduceEqDiff, Nat.reduceAdd, unsol_objG]) (fun k hk => by simp only [List.mem_cons, List.not_mem_nil, or_false] at hk; rcases hk with rfl | rfl <;> simp only [tmD, reduceIte, Nat.reduceEqDiff, Nat.reduceAdd, unsol_cnt] <;> exact Nat.le_refl _)
              · simp only [tmR, seval, elems]; rfl
              · intro st2 v2 henv2 hobj2 hcnt2 hg2
                have hk6 : ¬ (6 = k0) := by simp only [List.mem_cons, List.not_mem_nil, or_false] at hk0; rcases hk0 with rfl | rfl | rfl <;> decide
                have ho62 := hobj2 6 0 (by decide)
                have hb6 : (6 == k0) = false := beq_false_of_ne hk6
                simp only [tmD, reduceIte, Nat.reduceEqDiff, Nat.reduceAdd, unsol_objG, ho6', Option.map_some, pr_beq, List.contains_cons, List.contains_nil, hb6, Bool.false_and, Bool.or_self, Bool.and_false, Bool.false_eq_true] at ho62
                simp only [tmR, seval, henv2, henv, h0, h1, h2, h6, h10, nat_add_one, hw]
                refine ⟨⟨oa, ob, oc, ho62⟩, ⟨true, rfl⟩, [], ds ++ [dd], .inl ⟨rfl, rfl⟩, by simp, ?_, by have := hds.1; simp; omega, fun x hx => ?_⟩
                · have e : dutiesC ds ++ [dutyC dd] = dutiesC (ds ++ [dd]) := by simp [dutiesC]
                  rw [← e]
                  exact hg2.mono (fun k g hk _ => by simp only [tmD, reduceIte, Nat.reduceEqDiff, Nat.reduceAdd]) (fun k hk => by simp only [tmD, reduceIte, Nat.reduceEqDiff, Nat.reduceAdd]; exact Nat.le_refl _)
                · rcases List.mem_append.1 hx with h | h
                  · have := hds.2 x h; omega
                  · simp only [List.mem_singleton] at h; subst h; omega
          · simp only [tmR, seval, henv, h0, h1, h2, h6, h10, hk4, and3, c3, nat_add_one, hw]
            refine ⟨⟨oa, ob, oc, ho6'⟩, ⟨true, rfl⟩, d ++ [(rows.getD i 0, false)], ds, hg'.mono (fun k g hk _ => by simp only [tmD, reduceIte, Nat.reduceEqDiff, Nat.reduceAdd]) (fun k hk => by simp only [tmD, reduceIte, Nat.reduceEqDiff, Nat.reduceAdd]; exact Nat.le_refl _), by simp; omega, hg8'.mono (fun k g hk _ => by simp only [tmD, reduceIte, Nat.reduceEqDiff, Nat.reduceAdd]) (fun k hk => by simp only [tmD, reduceIte, Nat.reduceEqDiff, Nat.reduceAdd]; exact Nat.le_refl _), by have := hds.1; omega, fun x hx => by have := hds.2 x hx; omega⟩
      · simp only [L60_0, tmR, seval, h0, h1, h2, h6, h9, h10, ints_len, nat_lt, hi, iaddr_ints hi, hk1, and7, c1, hwu, hni, and1, c2, nat_add_one, hw]
        refine ⟨⟨oa, ob, oc, ho6⟩, ⟨b9, rfl⟩, d, ds, hg7.mono (fun k g hk _ => by simp only [tmD, reduceIte, Nat.reduceEqDiff, Nat.reduceAdd]) (fun k hk => by simp only [tmD, reduceIte, Nat.reduceEqDiff, Nat.reduceAdd]; exact Nat.le_refl _), by omega, hg8.mono (fun k g hk _ => by simp only [tmD, reduceIte, Nat.reduceEqDiff, Nat.reduceAdd]) (fun k hk => by simp only [tmD, reduceIte, Nat.reduceEqDiff, Nat.reduceAdd]; exact Nat.le_refl _), by have := hds.1; omega, fun x hx => by have := hds.2 x hx; omega⟩
  · rintro s ⟨h0, h1, h2, h6, ho6, h9, h10, d, ds, hg7, hd, hg8, hds⟩
    simp only [L60_0, tmR, seval, h0, h10, ints_len, Int.lt_irrefl]
    exact hQ _ d ds h0 h1 h6 ho6 (hg7.mono (fun k g _ _ => rfl) (fun k _ => Nat.le_refl _)) (by omega) (hg8.mono (fun k g _ _ => rfl) (fun k _ => Nat.le_refl _)) ⟨by have := hds.1; omega, fun x hx => by have := hds.2 x hx; omega⟩ h9
  · refine ⟨h0, h1, h2, h6, ho6, h9, h10, d0, [], h7, by omega, ?_, by simp [SmallDs]⟩
    rw [h8]; exact .inl ⟨rfl, rfl⟩
end Go.TM.Fn
end
section
namespace Go.TM.Fn
open Go Go.TM Go.Plain
set_option linter.unusedVariables false
set_option linter.unusedSimpArgs false
set_option maxRecDepth 20000
set_option maxHeartbeats 4000000
theorem fdiv_nat (n m : Nat) : (n : Int).fdiv (m : Int) = ((n / m : Nat) : Int) := by
  rw [Int.fdiv_eq_ediv_of_nonneg _ (by omega)]; simp
theorem shr_nat (b kk) (n : Nat) (y : Int) (hy : 0 ≤ y) : ∃ m : Nat, m ≤ n ∧ binTV b .shr (.int .i64 (n : Nat)) (.int kk y) = some (.int .i64 (m : Nat)) := by
  refine ⟨n / 2 ^ (min y.toNat 64), Nat.div_le_self _ _, ?_⟩
  rw [bin_shr_i64 _ _ _ _ hy, show ((2 : Int) ^ (min y.toNat 64)) = ((2 ^ (min y.toNat 64) : Nat) : Int) by simp, fdiv_nat]
def rest60 : TCode → TCode
  | .seq _ (.seq _ (.seq _ (.seq _ (.seq _ (.seq _ c))))) => c
  | c => c
theorem col_fin {s : St} {args : List TV} {b : ByteArray} {v : TV} {cost : Int} {ds : List (List Task)} (ha : hasOwn args = false) (hm : mutsOf s 0 args = some []) (h6 : s.env 6 = .ptr 6 0 0 0)
    (ho : s.obj 6 0 = some { cont := [[.str b, v, .int .i64 cost]], esz := 3, box := true, solo := true, tip := false }) (hg : GrowsS s [59, 80] 1 v (dutiesC ds)) (hds : SmallDs 16 ds) :
    ∃ rv, finishR [.cell 6 3 true] args s = some (rv, []) ∧ ∃ c : Col, view rv = .agg (colC c) ∧ SmallDs 16 c.ds := by
  rcases hg with ⟨h, rfl⟩ | ⟨k, g, o, hk, rfl, _, hob, hc, hb, he, ht⟩
  · refine ⟨.agg [.str b, .nils, .int .i64 cost], by simp [finishR, resVals, resVal, hm, ha, h6, ho, pull, hands, TV.cells, hand1, once, out, outs, out1, tree1], ⟨b, ds, cost⟩, ?_, hds⟩
    simp only [colC, h]; rfl
  · cases hs : o.solo
    · refine ⟨.agg [.str b, .sl (dutiesC ds), .int .i64 cost], by simp [finishR, resVals, resVal, hm, ha, h6, ho, pull, hands, TV.cells, hand1, once, out, outs, out1, tree1, hob, hb, he, hc, hs], ⟨b, ds, cost⟩, ?_, hds⟩
      rfl
    · refine ⟨.agg [.str b, .own 1 (dutiesC ds), .int .i64 cost], by simp [finishR, resVals, resVal, hm, ha, h6, ho, pull, hands, TV.cells, hand1, once, out, outs, out1, tree1, hob, hb, he, hc, hs, ht], ⟨b, ds, cost⟩, ?_, hds⟩
      rfl
theorem column_ex (rows : List Int) (n k : Nat) (hn : n < 4294967296) (h3 : 3 ≤ rows.length) (h5 : rows.length ≤ 5) : ∃ c : Col, SmallDs 16 c.ds ∧ Gives mach 60 [.sl (ints .i64 rows), .int .i64 (n : Nat), .int .i64 (k : Nat)] (.agg (colC c)) := by
  suffices h : ∃ v, (∃ c : Col, v = .agg (colC c) ∧ SmallDs 16 c.ds) ∧ Gives mach 60 [.sl (ints .i64 rows), .int .i64 (n : Nat), .int .i64 (k : Nat)] v by
    obtain ⟨_, ⟨c, rfl, h1⟩, h2⟩ := h
    exact ⟨c, h1, h2⟩
  refine givesE tab60 rfl ?_
  obtain ⟨n5, hn5, hsh⟩ := shr_nat false .u64 n 5 (by decide)
  obtain ⟨n6, hn6, hsh6⟩ := shr_nat false .u64 n 6 (by decide)
  have hrem : binTV false .rem (.int .i64 (n5 : Nat)) (.int .i64 41) = some (.int .i64 ((n5 % 41 : Nat) : Int)) := by rw [bin_rem _ _ _ _ (by decide)]; exact congrArg _ (congrArg _ (rem_nat n5 41))
  have hwm : IntKind.i64.wrap (((n5 % 41 : Nat) : Int) - 5) = ((n5 % 41 : Nat) : Int) - 5 := wrap_i64 (by omega) (by omega)
  have hlz : ((rows.length : Nat) : Int) ≠ 0 := by omega
  have hidx : n6 % rows.length < rows.length := Nat.mod_lt _ (by omega)
  have main : ∀ (s : St) (d : List Task) (ds : List (List Task)), s.env 0 = .sl (ints .i64 rows) → s.env 1 = .int .i64 (n : Nat) → s.env 6 = .ptr 6 0 0 0 → (∃ a b c, s.obj 6 0 = some { cont := [[a, b, c]], esz := 3, box := true, solo := true, tip := false }) → GrowsS s [18, 51, 73] 2 (s.env 7) (d.map taskC) → d.length ≤ 7 → GrowsS s [59, 80] 1 (s.env 8) (dutiesC ds) → SmallDs 7 ds → (∃ b, s.env 9 = .bool b) →
      Goes mach (rest60 F60.body) (RetE [.cell 6 3 true] [.sl (ints .i64 rows), .int .i64 (n : Nat), .int .i64 (k : Nat)] fun v => ∃ c : Col, v = .agg (colC c) ∧ SmallDs 16 c.ds) s := by
    intro s d ds h0 h1 h6 ⟨oa, ob, oc, ho6⟩ hgd hd hgs hds ⟨b9, h9⟩
    cases b9
    · simp only [rest60, F60, tmR, seval, h9, Bool.not_false, h0, h1, hsh6, ints_len, bin_rem _ _ _ _ hlz, rem_nat, iaddr_ints hidx]
      refine wp_growS [18, 51, 73] 73 (by decide) .full _ _ _ _ _ _ (xs := d.map taskC) (zs := [taskC (rows.getD (n6 % rows.length) 0, false)]) ?_ (fun k g => rfl) ?_ (by simp) (by simp; omega) ?_
      · simp only [tmR, seval]
        exact hgd.mono (fun k g hk _ => by simp only [List.mem_cons, List.not_mem_nil, or_false] at hk; rcases hk with rfl | rfl | rfl <;> simp only [tmD, reduceIte, Nat.reduceEqDiff, Nat.reduceAdd]) (fun k hk => by simp only [List.mem_cons, List.not_mem_nil, or_false] at hk; rcases hk with rfl | rfl | rfl <;> simp only [tmD, reduceIte, Nat.reduceEqDiff, Nat.reduceAdd] <;> exact Nat.le_refl _)
      · simp only [tmR, seval, elems]; rfl
      · intro st' v henv hobj hcnt hgd'
        have ho6' := hobj 6 0 (by decide)
        simp only [tmD, reduceIte, Nat.reduceEqDiff, Nat.reduceAdd, ho6] at ho6'
        have hgs' : GrowsS st' [59, 80] 1 (s.env 8) (dutiesC ds) := hgs.mono (fun k g hk _ => by
            have e := hobj k g (by simp only [List.mem_cons, List.not_mem_nil, or_false] at hk; rcases hk with rfl | rfl <;> decide)
            simp only [List.mem_cons, List.not_mem_nil, or_false] at hk
            rw [e]; rcases hk with rfl | rfl <;> simp only [tmD, reduceIte, Nat.reduceEqDiff, Nat.reduceAdd]) (fun k hk => by
            have e := hcnt k (by simp only [List.mem_cons, List.not_mem_nil, or_false] at hk; rcases hk with rfl | rfl <;> decide)
            simp only [List.mem_cons, List.not_mem_nil, or_false] at hk
            rw [e]; rcases hk with rfl | rfl <;> simp only [tmD, reduceIte, Nat.reduceEqDiff, Nat.reduceAdd] <;> exact Nat.le_refl _)
        clear hgd hgs
        have hgd := hgd'
        have hgs := hgs'
        have ho6 := ho6'
        have em : d.map taskC ++ [taskC (rows.getD (n6 % rows.length) 0, false)] = (d ++ [(rows.getD (n6 % rows.length) 0, false)]).map taskC := by simp
        rw [em] at hgd
        have hd1 : (d ++ [(rows.getD (n6 % rows.length) 0, false)]).length ≤ 8 := by simp; omega
        generalize d ++ [(rows.getD (n6 % rows.length) 0, false)] = dd at *
        obtain ⟨hz7, hv7⟩ | ⟨k7, g7, o7, hk7, hv7, hg7, ho7, hc7, hb7, he7, ht7⟩ := hgd
        · have hgf := hgs
          have hdsf : SmallDs 16 ds := ⟨by have := hds.1; omega, fun x hx => by have := hds.2 x hx; omega⟩
          obtain ⟨hz, hv⟩ | ⟨k8, g8, o8, hk8, hv, hc8⟩ := hgf
          · simp only [tmR, seval, henv, h0, h1, h6, ho6, hv7, hv, hsh, hrem, hwm]
            refine col_fin (b := ⟨#[65, 65, 65]⟩) (cost := ((n5 % 41 : Nat) : Int) - 5) (v := .nils) (ds := ds) rfl rfl ?_ ?_ (.inl ⟨hz, rfl⟩) hdsf
            · simp only [tmD, reduceIte, Nat.reduceEqDiff, Nat.reduceAdd, henv, h0, h1, h6, ho6, hv7, h6]
            · simp only [tmD, reduceIte, Nat.reduceEqDiff, Nat.reduceAdd, henv, h0, h1, h6, ho6, hv7, h6]
          · simp only [tmR, seval, henv, h0, h1, h6, ho6, hv7, hv, hsh, hrem, hwm]
            refine col_fin (b := ⟨#[65, 65, 65]⟩) (cost := ((n5 % 41 : Nat) : Int) - 5) (v := .hs k8 g8 1 (dutiesC (ds)).length) (ds := ds) rfl rfl ?_ ?_ ?_ hdsf
            · simp only [tmD, reduceIte, Nat.reduceEqDiff, Nat.reduceAdd, henv, h0, h1, h6, ho6, hv7, h6]
            · simp only [tmD, reduceIte, Nat.reduceEqDiff, Nat.reduceAdd, henv, h0, h1, h6, ho6, hv7, h6]
            · refine GrowsS.mono (st := st') (.inr ⟨k8, g8, o8, hk8, rfl, hc8⟩) (fun k g hk _ => ?_) (fun k hk => ?_)
              · simp only [List.mem_cons, List.not_mem_nil, or_false] at hk
                rcases hk with rfl | rfl <;> simp only [tmD, reduceIte, Nat.reduceEqDiff, Nat.reduceAdd]
              · simp only [List.mem_cons, List.not_mem_nil, or_false] at hk
                rcases hk with rfl | rfl <;> simp only [tmD, reduceIte, Nat.reduceEqDiff, Nat.reduceAdd] <;> exact Nat.le_refl _
        · by_cases hd0 : (dd).length = 0
          · have hlen0 : ((0 : Int) < (((dd).map taskC).length : Int)) = False := eq_false (by rw [map_len]; omega)
            have hgf := hgs
            have hdsf : SmallDs 16 ds := ⟨by have := hds.1; omega, fun x hx => by have := hds.2 x hx; omega⟩
            obtain ⟨hz, hv⟩ | ⟨k8, g8, o8, hk8, hv, hc8⟩ := hgf
            · simp only [tmR, seval, henv, h0, h1, h6, ho6, hv7, hlen0, hv, hsh, hrem, hwm]
              refine col_fin (b := ⟨#[65, 65, 65]⟩) (cost := ((n5 % 41 : Nat) : Int) - 5) (v := .nils) (ds := ds) rfl rfl ?_ ?_ (.inl ⟨hz, rfl⟩) hdsf
              · simp only [tmD, reduceIte, Nat.reduceEqDiff, Nat.reduceAdd, henv, h0, h1, h6, ho6, hv7, hlen0, h6]
              · simp only [tmD, reduceIte, Nat.reduceEqDiff, Nat.reduceAdd, henv, h0, h1, h6, ho6, hv7, hlen0, h6]
            · simp only [tmR, seval, henv, h0, h1, h6, ho6, hv7, hlen0, hv, hsh, hrem, hwm]
              refine col_fin (b := ⟨#[65, 65, 65]⟩) (cost := ((n5 % 41 : Nat) : Int) - 5) (v := .hs k8 g8 1 (dutiesC (ds)).length) (ds := ds) rfl rfl ?_ ?_ ?_ hdsf
              · simp only [tmD, reduceIte, Nat.reduceEqDiff, Nat.reduceAdd, henv, h0, h1, h6, ho6, hv7, hlen0, h6]
              · simp only [tmD, reduceIte, Nat.reduceEqDiff, Nat.reduceAdd, henv, h0, h1, h6, ho6, hv7, hlen0, h6]
              · refine GrowsS.mono (st := st') (.inr ⟨k8, g8, o8, hk8, rfl, hc8⟩) (fun k g hk _ => ?_) (fun k hk => ?_)
                · simp only [List.mem_cons, List.not_mem_nil, or_false] at hk
                  rcases hk with rfl | rfl <;> simp only [tmD, reduceIte, Nat.reduceEqDiff, Nat.reduceAdd]
                · simp only [List.mem_cons, List.not_mem_nil, or_false] at hk
                  rcases hk with rfl | rfl <;> simp only [tmD, reduceIte, Nat.reduceEqDiff, Nat.reduceAdd] <;> exact Nat.le_refl _
          · have hlen0 : ((0 : Int) < (((dd).map taskC).length : Int)) = True := eq_true (by rw [map_len]; omega)
            have hk6 : (6 == k7) = false := by simp only [List.mem_cons, List.not_mem_nil, or_false] at hk7; rcases hk7 with rfl | rfl | rfl <;> decide
            simp only [tmR, seval, henv, h0, h1, h6, ho6, hv7, hlen0, ho7, hb7, he7, hc7, List.take_length, apply_unew]
            refine wp_growS [59, 80] 80 (by decide) .full _ _ _ _ _ _ (xs := dutiesC ds) (zs := [dutyC (dd)]) ?_ (fun k g => rfl) ?_ (by simp) (by have := hds.1; simp [dutiesC]; omega) ?_
            · simp only [tmR, seval]
              exact (hgs.unsol (b := true) (hs := [(k7, g7)])).mono (fun k g hk _ => by simp only [List.mem_cons, List.not_mem_nil, or_false] at hk; rcases hk with rfl | rfl <;> simp only [tmD, reduceIte, Nat.reduceEqDiff, Nat.reduceAdd, unsol_objG]) (fun k hk => by simp only [List.mem_cons, List.not_mem_nil, or_false] at hk; rcases hk with rfl | rfl <;> simp only [tmD, reduceIte, Nat.reduceEqDiff, Nat.reduceAdd, unsol_cnt] <;> exact Nat.le_refl _)
            · simp only [tmR, seval, elems]; rfl
            · intro st2 v2 henv2 hobj2 hcnt2 hg2
              have ho62 := hobj2 6 0 (by decide)
              simp only [tmD, reduceIte, Nat.reduceEqDiff, Nat.reduceAdd, unsol_objG, ho6, Option.map_some, pr_beq, List.contains_cons, List.contains_nil, hk6, Bool.false_and, Bool.or_self, Bool.and_false, Bool.false_eq_true] at ho62
              have e80 : dutiesC ds ++ [dutyC (dd)] = dutiesC (ds ++ [dd]) := by simp [dutiesC]
              rw [e80] at hg2
              have hgf := hg2
              have hdsf : SmallDs 16 (ds ++ [dd]) := ⟨by have := hds.1; simp; omega, fun x hx => by
                rcases List.mem_append.1 hx with h | h
                · have := hds.2 x h; omega
                · simp only [List.mem_singleton] at h; subst h; omega⟩
              obtain ⟨hz, hv⟩ | ⟨k8, g8, o8, hk8, hv, hc8⟩ := hgf
              · simp only [tmR, seval, henv2, henv, h0, h1, h6, ho6, hv7, ho62, hv, hsh, hrem, hwm]
                refine col_fin (b := ⟨#[65, 65, 65]⟩) (cost := ((n5 % 41 : Nat) : Int) - 5) (v := .nils) (ds := ds ++ [dd]) rfl rfl ?_ ?_ (.inl ⟨hz, rfl⟩) hdsf
                · simp only [tmD, reduceIte, Nat.reduceEqDiff, Nat.reduceAdd, henv2, henv, h0, h1, h6, ho6, hv7, ho62, h6]
                · simp only [tmD, reduceIte, Nat.reduceEqDiff, Nat.reduceAdd, henv2, henv, h0, h1, h6, ho6, hv7, ho62, h6]
              · simp only [tmR, seval, henv2, henv, h0, h1, h6, ho6, hv7, ho62, hv, hsh, hrem, hwm]
                refine col_fin (b := ⟨#[65, 65, 65]⟩) (cost := ((n5 % 41 : Nat) : Int) - 5) (v := .hs k8 g8 1 (dutiesC (ds ++ [dd])).length) (ds := ds ++ [dd]) rfl rfl ?_ ?_ ?_ hdsf
                · simp only [tmD, reduceIte, Nat.reduceEqDiff, Nat.reduceAdd, henv2, henv, h0, h1, h6, ho6, hv7, ho62, h6]
                · simp only [tmD, reduceIte, Nat.reduceEqDiff, Nat.reduceAdd, henv2, henv, h0, h1, h6, ho6, hv7, ho62, h6]
                · refine GrowsS.mono (st := st2) (.inr ⟨k8, g8, o8, hk8, rfl, hc8⟩) (fun k g hk _ => ?_) (fun k hk => ?_)
                  · simp only [List.mem_cons, List.not_mem_nil, or_false] at hk
                    rcases hk with rfl | rfl <;> simp only [tmD, reduceIte, Nat.reduceEqDiff, Nat.reduceAdd]
                  · simp only [List.mem_cons, List.not_mem_nil, or_false] at hk
                    rcases hk with rfl | rfl <;> simp only [tmD, reduceIte, Nat.reduceEqDiff, Nat.reduceAdd] <;> exact Nat.le_refl _
    · have hd1 : d.length ≤ 8 := by omega
      simp only [rest60, F60, tmR, seval, h9, Bool.not_true, h0, h1]
      obtain ⟨hz7, hv7⟩ | ⟨k7, g7, o7, hk7, hv7, hg7, ho7, hc7, hb7, he7, ht7⟩ := hgd
      · have hgf := hgs
        have hdsf : SmallDs 16 ds := ⟨by have := hds.1; omega, fun x hx => by have := hds.2 x hx; omega⟩
        obtain ⟨hz, hv⟩ | ⟨k8, g8, o8, hk8, hv, hc8⟩ := hgf
        · simp only [tmR, seval, h0, h1, h6, ho6, hv7, hv, hsh, hrem, hwm]
          refine col_fin (b := ⟨#[65, 65, 65]⟩) (cost := ((n5 % 41 : Nat) : Int) - 5) (v := .nils) (ds := ds) rfl rfl ?_ ?_ (.inl ⟨hz, rfl⟩) hdsf
          · simp only [tmD, reduceIte, Nat.reduceEqDiff, Nat.reduceAdd, h0, h1, h6, ho6, hv7, h6]
          · simp only [tmD, reduceIte, Nat.reduceEqDiff, Nat.reduceAdd, h0, h1, h6, ho6, hv7, h6]
        · simp only [tmR, seval, h0, h1, h6, ho6, hv7, hv, hsh, hrem, hwm]
          refine col_fin (b := ⟨#[65, 65, 65]⟩) (cost := ((n5 % 41 : Nat) : Int) - 5) (v := .hs k8 g8 1 (dutiesC (ds)).length) (ds := ds) rfl rfl ?_ ?_ ?_ hdsf
          · simp only [tmD, reduceIte, Nat.reduceEqDiff, Nat.reduceAdd, h0, h1, h6, ho6, hv7, h6]
          · simp only [tmD, reduceIte, Nat.reduceEqDiff, Nat.reduceAdd, h0, h1, h6, ho6, hv7, h6]
          · refine GrowsS.mono (st := s) (.inr ⟨k8, g8, o8, hk8, rfl, hc8⟩) (fun k g hk _ => ?_) (fun k hk => ?_)
            · simp only [List.mem_cons, List.not_mem_nil, or_false] at hk
              rcases hk with rfl | rfl <;> simp only [tmD, reduceIte, Nat.reduceEqDiff, Nat.reduceAdd]
            · simp only [List.mem_cons, List.not_mem_nil, or_false] at hk
              rcases hk with rfl | rfl <;> simp only [tmD, reduceIte, Nat.reduceEqDiff, Nat.reduceAdd] <;> exact Nat.le_refl _
      · by_cases hd0 : (d).length = 0
        · have hlen0 : ((0 : Int) < (((d).map taskC).length : Int)) = False := eq_false (by rw [map_len]; omega)
          have hgf := hgs
          have hdsf : SmallDs 16 ds := ⟨by have := hds.1; omega, fun x hx => by have := hds.2 x hx; omega⟩
          obtain ⟨hz, hv⟩ | ⟨k8, g8, o8, hk8, hv, hc8⟩ := hgf
          · simp only [tmR, seval, h0, h1, h6, ho6, hv7, hlen0, hv, hsh, hrem, hwm]
            refine col_fin (b := ⟨#[65, 65, 65]⟩) (cost := ((n5 % 41 : Nat) : Int) - 5) (v := .nils) (ds := ds) rfl rfl ?_ ?_ (.inl ⟨hz, rfl⟩) hdsf
            · simp only [tmD, reduceIte, Nat.reduceEqDiff, Nat.reduceAdd, h0, h1, h6, ho6, hv7, hlen0, h6]
            · simp only [tmD, reduceIte, Nat.reduceEqDiff, Nat.reduceAdd, h0, h1, h6, ho6, hv7, hlen0, h6]
          · simp only [tmR, seval, h0, h1, h6, ho6, hv7, hlen0, hv, hsh, hrem, hwm]
            refine col_fin (b := ⟨#[65, 65, 65]⟩) (cost := ((n5 % 41 : Nat) : Int) - 5) (v := .hs k8 g8 1 (dutiesC (ds)).length) (ds := ds) rfl rfl ?_ ?_ ?_ hdsf
            · simp only [tmD, reduceIte, Nat.reduceEqDiff, Nat.reduceAdd, h0, h1, h6, ho6, hv7, hlen0, h6]
            · simp only [tmD, reduceIte, Nat.reduceEqDiff, Nat.reduceAdd, h0, h1, h6, ho6, hv7, hlen0, h6]
            · refine GrowsS.mono (st := s) (.inr ⟨k8, g8, o8, hk8, rfl, hc8⟩) (fun k g hk _ => ?_) (fun k hk => ?_)
              · simp only [List.mem_cons, List.not_mem_nil, or_false] at hk
                rcases hk with rfl | rfl <;> simp only [tmD, reduceIte, Nat.reduceEqDiff, Nat.reduceAdd]
              · simp only [List.mem_cons, List.not_mem_nil, or_false] at hk
                rcases hk with rfl | rfl <;> simp only [tmD, reduceIte, Nat.reduceEqDiff, Nat.reduceAdd] <;> exact Nat.le_refl _
        · have hlen0 : ((0 : Int) < (((d).map taskC).length : Int)) = True := eq_true (by rw [map_len]; omega)
          have hk6 : (6 == k7) = false := by simp only [List.mem_cons, List.not_mem_nil, or_false] at hk7; rcases hk7 with rfl | rfl | rfl <;> decide
          simp only [tmR, seval, h0, h1, h6, ho6, hv7, hlen0, ho7, hb7, he7, hc7, List.take_length, apply_unew]
          refine wp_growS [59, 80] 80 (by decide) .full _ _ _ _ _ _ (xs := dutiesC ds) (zs := [dutyC (d)]) ?_ (fun k g => rfl) ?_ (by simp) (by have := hds.1; simp [dutiesC]; omega) ?_
          · simp only [tmR, seval]
            exact (hgs.unsol (b := true) (hs := [(k7, g7)])).mono (fun k g hk _ => by simp only [List.mem_cons, List.not_mem_nil, or_false] at hk; rcases hk with rfl | rfl <;> simp only [tmD, reduceIte, Nat.reduceEqDiff, Nat.reduceAdd, unsol_objG]) (fun k hk => by simp only [List.mem_cons, List.not_mem_nil, or_false] at hk; rcases hk with rfl | rfl <;> simp only [tmD, reduceIte, Nat.reduceEqDiff, Nat.reduceAdd, unsol_cnt] <;> exact Nat.le_refl _)
          · simp only [tmR, seval, elems]; rfl
          · intro st2 v2 henv2 hobj2 hcnt2 hg2
            have ho62 := hobj2 6 0 (by decide)
            simp only [tmD, reduceIte, Nat.reduceEqDiff, Nat.reduceAdd, unsol_objG, ho6, Option.map_some, pr_beq, List.contains_cons, List.contains_nil, hk6, Bool.false_and, Bool.or_self, Bool.and_false, Bool.false_eq_true] at ho62
            have e80 : dutiesC ds ++ [dutyC (d)] = dutiesC (ds ++ [d]) := by simp [dutiesC]
            rw [e80] at hg2
            have hgf := hg2
            have hdsf : SmallDs 16 (ds ++ [d]) := ⟨by have := hds.1; simp; omega, fun x hx => by
              rcases List.mem_append.1 hx with h | h
              · have := hds.2 x h; omega
              · simp only [List.mem_singleton] at h; subst h; omega⟩
            obtain ⟨hz, hv⟩ | ⟨k8, g8, o8, hk8, hv, hc8⟩ := hgf
            · simp only [tmR, seval, henv2, h0, h1, h6, ho6, hv7, ho62, hv, hsh, hrem, hwm]
              refine col_fin (b := ⟨#[65, 65, 65]⟩) (cost := ((n5 % 41 : Nat) : Int) - 5) (v := .nils) (ds := ds ++ [d]) rfl rfl ?_ ?_ (.inl ⟨hz, rfl⟩) hdsf
              · simp only [tmD, reduceIte, Nat.reduceEqDiff, Nat.reduceAdd, henv2, h0, h1, h6, ho6, hv7, ho62, h6]
              · simp only [tmD, reduceIte, Nat.reduceEqDiff, Nat.reduceAdd, henv2, h0, h1, h6, ho6, hv7, ho62, h6]
            · simp only [tmR, seval, henv2, h0, h1, h6, ho6, hv7, ho62, hv, hsh, hrem, hwm]
              refine col_fin (b := ⟨#[65, 65, 65]⟩) (cost := ((n5 % 41 : Nat) : Int) - 5) (v := .hs k8 g8 1 (dutiesC (ds ++ [d])).length) (ds := ds ++ [d]) rfl rfl ?_ ?_ ?_ hdsf
              · simp only [tmD, reduceIte, Nat.reduceEqDiff, Nat.reduceAdd, henv2, h0, h1, h6, ho6, hv7, ho62, h6]
              · simp only [tmD, reduceIte, Nat.reduceEqDiff, Nat.reduceAdd, henv2, h0, h1, h6, ho6, hv7, ho62, h6]
              · refine GrowsS.mono (st := st2) (.inr ⟨k8, g8, o8, hk8, rfl, hc8⟩) (fun k g hk _ => ?_) (fun k hk => ?_)
                · simp only [List.mem_cons, List.not_mem_nil, or_false] at hk
                  rcases hk with rfl | rfl <;> simp only [tmD, reduceIte, Nat.reduceEqDiff, Nat.reduceAdd]
                · simp only [List.mem_cons, List.not_mem_nil, or_false] at hk
                  rcases hk with rfl | rfl <;> simp only [tmD, reduceIte, Nat.reduceEqDiff, Nat.reduceAdd] <;> exact Nat.le_refl _
  by_cases hk1 : (andm k 1 : Int) = 1
  · simp only [F60, tmR, seval, and1, hk1]
    refine wp_growS [18, 51, 73] 18 (by decide) .full _ _ _ _ _ _ (xs := []) (zs := [taskC (0, true)]) (.inl ⟨rfl, rfl⟩) (fun k g => rfl) ?_ (by simp) (by simp) ?_
    · simp only [tmR, seval, elems]; rfl
    · intro st' v henv hobj hcnt hg
      have ho6 := hobj 6 0 (by decide)
      simp only [tmD, reduceIte, Nat.reduceEqDiff, Nat.reduceAdd] at ho6
      simp only [tmR, seval, henv]
      refine loopCol rows n k h5 ?_ ?_ ?_ ?_ ⟨.str ⟨#[]⟩, .nils, .int .i64 0, ?_⟩ [(0, true)] (by simp) ?_ ?_ ⟨false, ?_⟩ ?_ (fun s d ds h0 h1 h6 ho6 hgd hd hgs hds h9 => ?_)
      · simp only [tmD, reduceIte, Nat.reduceEqDiff, Nat.reduceAdd, henv]
      · simp only [tmD, reduceIte, Nat.reduceEqDiff, Nat.reduceAdd, henv]
      · simp only [tmD, reduceIte, Nat.reduceEqDiff, Nat.reduceAdd, henv]
      · simp only [tmD, reduceIte, Nat.reduceEqDiff, Nat.reduceAdd, henv]
      · simp only [tmD, reduceIte, Nat.reduceEqDiff, Nat.reduceAdd]; exact ho6
      · simp only [tmD, reduceIte, Nat.reduceEqDiff, Nat.reduceAdd, henv]
        exact hg.mono (fun k g hk _ => by simp only [tmD, reduceIte, Nat.reduceEqDiff, Nat.reduceAdd]) (fun k hk => by simp only [tmD, reduceIte, Nat.reduceEqDiff, Nat.reduceAdd]; exact Nat.le_refl _)
      · simp only [tmD, reduceIte, Nat.reduceEqDiff, Nat.reduceAdd, henv]
      · simp only [tmD, reduceIte, Nat.reduceEqDiff, Nat.reduceAdd]
      · simp only [tmD, reduceIte, Nat.reduceEqDiff, Nat.reduceAdd]
      · simp only [blockQ_exit, if_true, thenQ_norm]
        exact main s d ds h0 h1 h6 ho6 hgd hd hgs hds h9
  · simp only [F60, tmR, seval, and1, hk1]
    refine loopCol rows n k h5 ?_ ?_ ?_ ?_ ⟨.str ⟨#[]⟩, .nils, .int .i64 0, ?_⟩ [] (by simp) ?_ ?_ ⟨false, ?_⟩ ?_ (fun s d ds h0 h1 h6 ho6 hgd hd hgs hds h9 => ?_)
    · simp only [tmD, reduceIte, Nat.reduceEqDiff, Nat.reduceAdd]
    · simp only [tmD, reduceIte, Nat.reduceEqDiff, Nat.reduceAdd]
    · simp only [tmD, reduceIte, Nat.reduceEqDiff, Nat.reduceAdd]
    · simp only [tmD, reduceIte, Nat.reduceEqDiff, Nat.reduceAdd]
    · simp only [tmD, reduceIte, Nat.reduceEqDiff, Nat.reduceAdd]
    · simp only [tmD, reduceIte, Nat.reduceEqDiff, Nat.reduceAdd]; exact .inl ⟨rfl, rfl⟩
    · simp only [tmD, reduceIte, Nat.reduceEqDiff, Nat.reduceAdd]
    · simp only [tmD, reduceIte, Nat.reduceEqDiff, Nat.reduceAdd]
    · simp only [tmD, reduceIte, Nat.reduceEqDiff, Nat.reduceAdd]
    · simp only [blockQ_exit, if_true, thenQ_norm]
      exact main s d ds h0 h1 h6 ho6 hgd hd hgs hds h9
end Go.TM.Fn
end
section
namespace Go.TM.Fn
open Go Go.TM Go.Plain
set_option linter.unusedVariables false
set_option linter.unusedSimpArgs false
set_option maxRecDepth 20000
set_option maxHeartbeats 4000000
theorem out1_grows {st S e v xs} (h : GrowsS st S e v xs) : ∃ u, out1 st.obj v = some u ∧ view1 u = .sl xs := by
  rcases h with ⟨rfl, rfl⟩ | ⟨k, g, o, hk, rfl, _, hob, hc, hb, he, ht⟩
  · exact ⟨.nils, rfl, rfl⟩
  · cases hs : o.solo
    · exact ⟨.sl xs, by simp [out1, hob, hb, he, hc, hs], rfl⟩
    · exact ⟨.own e xs, by simp [out1, hob, hb, he, hc, hs, ht], rfl⟩
theorem hand1_grows {st S e v xs} (h : GrowsS st S e v xs) : hand1 v = [] ∨ ∃ k g, k ∈ S ∧ hand1 v = [(k, g)] := by
  rcases h with ⟨rfl, rfl⟩ | ⟨k, g, o, hk, rfl, _⟩
  · exact .inl rfl
  · exact .inr ⟨k, g, hk, rfl⟩
theorem mas_fin {s : St} {args : List TV} {pen : Int} {v1 v3 v4 : TV} {rows : List Int} {cols : List Col} {cuts : List Cu} (ha : hasOwn args = false) (hm : mutsOf s 0 args = some []) (h2 : s.env 2 = .ptr 2 0 0 0)
    (ho : s.obj 2 0 = some { cont := [[.int .i64 6, v1, .int .i64 pen, v3, v4]], esz := 5, box := true, solo := true, tip := false }) (hg1 : GrowsS s [29] 1 v1 (ints .i64 rows)) (hg3 : GrowsS s [53] 3 v3 (cols.map colC)) (hg4 : GrowsS s [110] 2 v4 (cuts.map cutC)) :
    ∃ rv, finishR [.cell 2 5 true] args s = some (rv, []) ∧ view rv = masT ⟨6, rows, pen, cols, cuts⟩ := by
  obtain ⟨u1, e1, w1⟩ := out1_grows hg1
  obtain ⟨u3, e3, w3⟩ := out1_grows hg3
  obtain ⟨u4, e4, w4⟩ := out1_grows hg4
  have c6 : out1 s.obj (.int .i64 6) = some (.int .i64 6) := rfl
  have cp : out1 s.obj (.int .i64 pen) = some (.int .i64 pen) := rfl
  have hon : once (hands (.agg [.int .i64 6, v1, .int .i64 pen, v3, v4])) = true := by
    have i6 : hand1 (.int .i64 6) = [] := rfl
    have ip : hand1 (.int .i64 pen) = [] := rfl
    simp only [hands, TV.cells, List.flatMap_cons, List.flatMap_nil, i6, ip]
    rcases hand1_grows hg1 with h1 | ⟨k1, g1, hk1, h1⟩ <;> rcases hand1_grows hg3 with h3 | ⟨k3, g3, hk3, h3⟩ <;> rcases hand1_grows hg4 with h4 | ⟨k4, g4, hk4, h4⟩ <;>
      simp_all [once]
  refine ⟨.agg [.int .i64 6, u1, .int .i64 pen, u3, u4], ?_, ?_⟩
  · simp [finishR, resVals, resVal, hm, ha, h2, ho, pull, hon, out, outs, e1, e3, e4, c6, cp]
  · simp [view, viewA, w1, w3, w4]
    exact ⟨rfl, rfl⟩
def rowTab : List (List Int) := [[0, 1, 2], [1, 2, 4], [0, 1, 2, 3], [0, 2, 3, 5], [0, 1, 2, 3, 4], [1, 2, 3, 4, 5]]
theorem rowTab_len {r : Nat} (h : r < 6) : 3 ≤ (rowTab.getD r []).length ∧ (rowTab.getD r []).length ≤ 5 := by
  match r, h with
  | 0, _ => decide
  | 1, _ => decide
  | 2, _ => decide
  | 3, _ => decide
  | 4, _ => decide
  | 5, _ => decide
abbrev BoxG (s : St) (v1 : TV) (pen : Int) (v3 v4 : TV) : Prop := s.obj 3 0 = some { cont := [[.int .i64 6, v1, .int .i64 pen, v3, v4]], esz := 5, box := true, solo := true, tip := false }
abbrev Box2Z (s : St) : Prop := s.obj 2 0 = some { cont := [[.int .i64 0, .nils, .int .i64 0, .nils, .nils]], esz := 5, box := true, solo := true, tip := false }
theorem loopMasCols {Q : Ex → St → Prop} {st : St} (l rows : List Int) (pen : Int) (v1 : TV) (hl : l.length < 9223372036854775808) (hr3 : 3 ≤ rows.length) (hr5 : rows.length ≤ 5)
    (h0 : st.env 0 = .sl (ints .i64 l)) (h2 : st.env 2 = .ptr 2 0 0 0) (h3 : st.env 3 = .ptr 3 0 0 0) (h4 : st.env 4 = .sl (ints .i64 rows)) (h5 : st.env 5 = .int .i64 0) (b2 : Box2Z st) (hg1 : GrowsS st [29] 1 v1 (ints .i64 rows)) (b3 : BoxG st v1 pen .nils .nils)
    (hQ : ∀ (s : St) (v3 : TV) (cols : List Col), s.env 0 = .sl (ints .i64 l) → s.env 2 = .ptr 2 0 0 0 → s.env 3 = .ptr 3 0 0 0 → s.env 4 = .sl (ints .i64 rows) → Box2Z s → GrowsS s [29] 1 v1 (ints .i64 rows) → BoxG s v1 pen v3 .nils → GrowsS s [53] 3 v3 (cols.map colC) → cols.length ≤ 6 → (∀ c ∈ cols, SmallDs 16 c.ds) → Q (.exit 0) s) :
    Goes mach (.loop L14_0) Q st := by
  have at2 := at_c l 2 hl (by omega)
  have h7 : ((7 : Int)) ≠ 0 := by decide
  have hrem : binTV false .rem (.int .i64 (atN l 2 : Nat)) (.int .i64 7) = some (.int .i64 ((atN l 2 % 7 : Nat) : Int)) := by rw [bin_rem _ _ _ _ (by decide)]; exact congrArg _ (congrArg _ (rem_nat _ 7))
  have hlt7 : atN l 2 % 7 < 7 := Nat.mod_lt _ (by omega)
  have at2' : Gives mach 59 [.sl (ints .i64 l), .int .i64 2] (.int .i64 (atN l 2 : Nat)) := at2
  refine wp_for (fun i s => s.env 0 = .sl (ints .i64 l) ∧ s.env 2 = .ptr 2 0 0 0 ∧ s.env 3 = .ptr 3 0 0 0 ∧ s.env 4 = .sl (ints .i64 rows) ∧ s.env 5 = .int .i64 (i : Nat) ∧ Box2Z s ∧ GrowsS s [29] 1 v1 (ints .i64 rows) ∧
    ∃ (v3 : TV) (cols : List Col), BoxG s v1 pen v3 .nils ∧ GrowsS s [53] 3 v3 (cols.map colC) ∧ cols.length ≤ i ∧ ∀ c ∈ cols, SmallDs 16 c.ds) (atN l 2 % 7) ?_ ?_ (atN l 2 % 7) 0 _ (by omega) ?_
  · rintro i s hi ⟨h0, h2, h3, h4, h5, b2, hg1, v3, cols, b3, hg3, hcl, hcs⟩
    have hw : IntKind.i64.wrap ((i + 1 : Nat) : Int) = (i + 1 : Nat) := wrap_i64n (by omega)
    have hw2 : IntKind.i64.wrap (2 * (i : Int)) = ((2 * i : Nat) : Int) := by rw [wrap_i64 (by omega) (by omega)]; omega
    have hw5 : IntKind.i64.wrap (5 + ((2 * i : Nat) : Int)) = ((5 + 2 * i : Nat) : Int) := by rw [wrap_i64 (by omega) (by omega)]; omega
    have hw6 : IntKind.i64.wrap (6 + ((2 * i : Nat) : Int)) = ((6 + 2 * i : Nat) : Int) := by rw [wrap_i64 (by omega) (by omega)]; omega
    have a5 := at_c l (5 + 2 * i) hl (by omega)
    have a6 := at_c l (6 + 2 * i) hl (by omega)
    have l5 := atN_le l (5 + 2 * i)
    obtain ⟨c, hc, hcol⟩ := column_ex rows (atN l (5 + 2 * i)) (atN l (6 + 2 * i)) (by omega) hr3 hr5
    simp only [colC] at hcol
    simp only [L14_0, tmR, seval, h0, h3, h4, h5, b3, wpcall_eq at2', hrem, nat_lt, hi, hw2, hw5, hw6, wpcall_eq a5, wpcall_eq a6, wpcall_eq hcol]
    refine wp_growS [53] 53 (by decide) (.fb []) _ _ _ _ _ _ (xs := cols.map colC) (zs := [colC c]) ?_ (fun k g => rfl) ?_ (by simp) (by simp; omega) ?_
    · simp only [tmR, seval]
      exact hg3.mono (fun k g hk _ => by simp only [List.mem_cons, List.not_mem_nil, or_false] at hk; rcases hk with rfl; simp only [tmD, reduceIte, Nat.reduceEqDiff, Nat.reduceAdd]) (fun k hk => by simp only [List.mem_cons, List.not_mem_nil, or_false] at hk; rcases hk with rfl; simp only [tmD, reduceIte, Nat.reduceEqDiff, Nat.reduceAdd]; exact Nat.le_refl _)
    · simp only [tmR, seval, elems]; rfl
    · intro st' v henv hobj hcnt hg'
      have ho3 := hobj 3 0 (by decide)
      have ho2 := hobj 2 0 (by decide)
      simp only [tmD, reduceIte, Nat.reduceEqDiff, Nat.reduceAdd, b3] at ho3
      simp only [tmD, reduceIte, Nat.reduceEqDiff, Nat.reduceAdd, b2] at ho2
      have hg1' : GrowsS st' [29] 1 v1 (ints .i64 rows) := hg1.mono (fun k g hk _ => by
          have e := hobj k g (by simp only [List.mem_cons, List.not_mem_nil, or_false] at hk ⊢; omega)
          simp only [List.mem_cons, List.not_mem_nil, or_false] at hk
          rw [e]; rcases hk with rfl; simp only [tmD, reduceIte, Nat.reduceEqDiff, Nat.reduceAdd]) (fun k hk => by
          have e := hcnt k (by simp only [List.mem_cons, List.not_mem_nil, or_false] at hk; omega)
          simp only [List.mem_cons, List.not_mem_nil, or_false] at hk
          rw [e]; rcases hk with rfl; simp only [tmD, reduceIte, Nat.reduceEqDiff, Nat.reduceAdd]; exact Nat.le_refl _)
      have em : cols.map colC ++ [colC c] = (cols ++ [c]).map colC := by simp
      rw [em] at hg'
      obtain ⟨hz, _⟩ | ⟨k0, g0, o, hk0, hv, hrest⟩ := hg'
      · simp at hz
      · subst hv
        simp only [tmR, seval, henv, h0, h2, h3, h4, h5, ho3, nat_add_one, hw, Box2Z, ho2, BoxG]
        refine ⟨hg1'.mono (fun k g hk _ => by simp only [List.mem_cons, List.not_mem_nil, or_false] at hk; rcases hk with rfl; simp only [tmD, reduceIte, Nat.reduceEqDiff, Nat.reduceAdd]) (fun k hk => by simp only [tmD, reduceIte, Nat.reduceEqDiff, Nat.reduceAdd]; exact Nat.le_refl _), _, cols ++ [c], rfl, ?_, by simp; omega, fun x hx => ?_⟩
        · refine GrowsS.mono (st := st') (.inr ⟨k0, g0, o, hk0, rfl, hrest⟩) (fun k g hk _ => by simp only [List.mem_cons, List.not_mem_nil, or_false] at hk; rcases hk with rfl; simp only [tmD, reduceIte, Nat.reduceEqDiff, Nat.reduceAdd]) (fun k hk => by simp only [tmD, reduceIte, Nat.reduceEqDiff, Nat.reduceAdd]; exact Nat.le_refl _)
        · rcases List.mem_append.1 hx with h | h
          · exact hcs x h
          · simp only [List.mem_singleton] at h; subst h; exact hc
  · rintro s ⟨h0, h2, h3, h4, h5, b2, hg1, v3, cols, b3, hg3, hcl, hcs⟩
    simp only [L14_0, tmR, seval, h0, h5, wpcall_eq at2', hrem, Int.lt_irrefl]
    exact hQ _ v3 cols h0 h2 h3 h4 b2 (hg1.mono (fun k g hk _ => by simp only [tmD, reduceIte, Nat.reduceEqDiff, Nat.reduceAdd]) (fun k hk => by simp only [tmD, reduceIte, Nat.reduceEqDiff, Nat.reduceAdd]; exact Nat.le_refl _)) b3 (hg3.mono (fun k g hk _ => by simp only [tmD, reduceIte, Nat.reduceEqDiff, Nat.reduceAdd]) (fun k hk => by simp only [tmD, reduceIte, Nat.reduceEqDiff, Nat.reduceAdd]; exact Nat.le_refl _)) (by omega) hcs
  · exact ⟨h0, h2, h3, h4, h5, b2, hg1, .nils, [], b3, .inl ⟨rfl, rfl⟩, by simp, fun c hc => by cases hc⟩
end Go.TM.Fn
end
section
namespace Go.TM.Fn
open Go Go.TM Go.Plain
set_option linter.unusedVariables false
set_option linter.unusedSimpArgs false
set_option maxRecDepth 20000
set_option maxHeartbeats 4000000
theorem loopMasCut {Q : Ex → St → Prop} {st : St} (l rows : List Int) (pen : Int) (v1 v3 v4 : TV) (cols : List Col) (cuts : List Cu) (c i sk : Nat) (hr3 : 3 ≤ rows.length) (hr5 : rows.length ≤ 5)
    (h0 : st.env 0 = .sl (ints .i64 l)) (h2 : st.env 2 = .ptr 2 0 0 0) (h3 : st.env 3 = .ptr 3 0 0 0) (h4 : st.env 4 = .sl (ints .i64 rows)) (h6 : st.env 6 = .int .i64 (i : Nat)) (h7 : st.env 7 = .ptr 7 c 0 0) (h8 : st.env 8 = .int .i64 (sk : Nat)) (h9 : st.env 9 = .int .i64 0) (b2 : Box2Z st) (hg1 : GrowsS st [29] 1 v1 (ints .i64 rows)) (b3 : BoxG st v1 pen v3 v4) (hg3 : GrowsS st [53] 3 v3 (cols.map colC)) (hg4 : GrowsS st [110] 2 v4 (cuts.map cutC)) (b7 : st.obj 7 c = some { cont := [[.nils, .int .i64 2]], esz := 2, box := true, solo := true, tip := false })
    (hQ : ∀ (s : St) (w : TV) (rs : List Int), s.env 0 = .sl (ints .i64 l) → s.env 2 = .ptr 2 0 0 0 → s.env 3 = .ptr 3 0 0 0 → s.env 4 = .sl (ints .i64 rows) → s.env 6 = .int .i64 (i : Nat) → s.env 7 = .ptr 7 c 0 0 → Box2Z s → GrowsS s [29] 1 v1 (ints .i64 rows) → BoxG s v1 pen v3 v4 → GrowsS s [53] 3 v3 (cols.map colC) → GrowsS s [110] 2 v4 (cuts.map cutC) → s.obj 7 c = some { cont := [[w, .int .i64 2]], esz := 2, box := true, solo := true, tip := false } → GrowsS s [91] 1 w (ints .i64 rs) → rs.length ≤ 5 → Q (.exit 4) s) :
    Goes mach (.loop L14_2) Q st := by
  refine wp_for (fun j s => s.env 0 = .sl (ints .i64 l) ∧ s.env 2 = .ptr 2 0 0 0 ∧ s.env 3 = .ptr 3 0 0 0 ∧ s.env 4 = .sl (ints .i64 rows) ∧ s.env 6 = .int .i64 (i : Nat) ∧ s.env 7 = .ptr 7 c 0 0 ∧ s.env 8 = .int .i64 (sk : Nat) ∧ s.env 9 = .int .i64 (j : Nat) ∧ Box2Z s ∧ GrowsS s [29] 1 v1 (ints .i64 rows) ∧ BoxG s v1 pen v3 v4 ∧ GrowsS s [53] 3 v3 (cols.map colC) ∧ GrowsS s [110] 2 v4 (cuts.map cutC) ∧
    ∃ (w : TV) (rs : List Int), s.obj 7 c = some { cont := [[w, .int .i64 2]], esz := 2, box := true, solo := true, tip := false } ∧ GrowsS s [91] 1 w (ints .i64 rs) ∧ rs.length ≤ j) rows.length ?_ ?_ rows.length 0 _ (by omega) ?_
  · rintro j s hj ⟨h0, h2, h3, h4, h6, h7, h8, h9, b2, hg1, b3, hg3, hg4, w, rs, b7, hgw, hrs⟩
    have hw : IntKind.i64.wrap ((j + 1 : Nat) : Int) = (j + 1 : Nat) := wrap_i64n (by omega)
    by_cases hc : ¬ (j = sk) ∨ rows.length = 3
    · have step : ∀ X : Prop, (∀ (x1 : ((j : Int) = (sk : Int)) = False), X) → (∀ (x1 : ((j : Int) = (sk : Int)) = True) (x2 : ((rows.length : Int) = 3) = True), X) → X := fun X f g => by
        by_cases hjs : j = sk
        · exact g (eq_true (by omega)) (eq_true (by omega))
        · exact f (eq_false (by omega))
      have tail : ∀ (st1 : St) (QQ : St → Prop), True := fun _ _ => trivial
      refine step _ (fun x1 => ?_) (fun x1 x2 => ?_)
      · simp only [L14_2, tmR, seval, h0, h2, h3, h4, h6, h7, h8, h9, ints_len, nat_lt, hj, x1, b7, iaddr_ints hj]
        refine wp_growS [91] 91 (by decide) (.fb []) _ _ _ _ _ _ (xs := ints .i64 rs) (zs := [[TV.int .i64 (rows.getD j 0)]]) ?_ (fun k g => rfl) ?_ (by simp) (by simp [ints]; omega) ?_
        · simp only [tmR, seval]
          exact hgw.mono (fun k g hk _ => by simp only [List.mem_cons, List.not_mem_nil, or_false] at hk; rcases hk with rfl; simp only [tmD, reduceIte, Nat.reduceEqDiff, Nat.reduceAdd]) (fun k hk => by simp only [List.mem_cons, List.not_mem_nil, or_false] at hk; rcases hk with rfl; simp only [tmD, reduceIte, Nat.reduceEqDiff, Nat.reduceAdd]; exact Nat.le_refl _)
        · simp only [tmR, seval, elems]
        · intro st' v henv hobj hcnt hg'
          have ho3 := hobj 3 0 (by decide)
          have ho2 := hobj 2 0 (by decide)
          have ho7 := hobj 7 c (by decide)
          simp only [tmD, reduceIte, Nat.reduceEqDiff, Nat.reduceAdd, b3] at ho3
          simp only [tmD, reduceIte, Nat.reduceEqDiff, Nat.reduceAdd, b2] at ho2
          simp only [tmD, reduceIte, Nat.reduceEqDiff, Nat.reduceAdd, b7] at ho7
          have hg1' : GrowsS st' [29] _ _ _ := hg1.mono (fun k g hk _ => by
              have e := hobj k g (by simp only [List.mem_cons, List.not_mem_nil, or_false] at hk ⊢; omega)
              simp only [List.mem_cons, List.not_mem_nil, or_false] at hk
              rw [e]; rcases hk with rfl; simp only [tmD, reduceIte, Nat.reduceEqDiff, Nat.reduceAdd]) (fun k hk => by
              have e := hcnt k (by simp only [List.mem_cons, List.not_mem_nil, or_false] at hk; omega)
              simp only [List.mem_cons, List.not_mem_nil, or_false] at hk
              rw [e]; rcases hk with rfl; simp only [tmD, reduceIte, Nat.reduceEqDiff, Nat.reduceAdd]; exact Nat.le_refl _)
          have hg3' : GrowsS st' [53] _ _ _ := hg3.mono (fun k g hk _ => by
              have e := hobj k g (by simp only [List.mem_cons, List.not_mem_nil, or_false] at hk ⊢; omega)
              simp only [List.mem_cons, List.not_mem_nil, or_false] at hk
              rw [e]; rcases hk with rfl; simp only [tmD, reduceIte, Nat.reduceEqDiff, Nat.reduceAdd]) (fun k hk => by
              have e := hcnt k (by simp only [List.mem_cons, List.not_mem_nil, or_false] at hk; omega)
              simp only [List.mem_cons, List.not_mem_nil, or_false] at hk
              rw [e]; rcases hk with rfl; simp only [tmD, reduceIte, Nat.reduceEqDiff, Nat.reduceAdd]; exact Nat.le_refl _)
          have hg4' : GrowsS st' [110] _ _ _ := hg4.mono (fun k g hk _ => by
              have e := hobj k g (by simp only [List.mem_cons, List.not_mem_nil, or_false] at hk ⊢; omega)
              simp only [List.mem_cons, List.not_mem_nil, or_false] at hk
              rw [e]; rcases hk with rfl; simp only [tmD, reduceIte, Nat.reduceEqDiff, Nat.reduceAdd]) (fun k hk => by
              have e := hcnt k (by simp only [List.mem_cons, List.not_mem_nil, or_false] at hk; omega)
              simp only [List.mem_cons, List.not_mem_nil, or_false] at hk
              rw [e]; rcases hk with rfl; simp only [tmD, reduceIte, Nat.reduceEqDiff, Nat.reduceAdd]; exact Nat.le_refl _)
          have em : ints .i64 rs ++ [[TV.int .i64 (rows.getD j 0)]] = ints .i64 (rs ++ [rows.getD j 0]) := by simp [ints]
          rw [em] at hg'
          obtain ⟨hz, _⟩ | ⟨k0, g0, o, hk0, hv, hrest⟩ := hg'
          · simp [ints] at hz
          · subst hv
            simp only [tmR, seval, henv, h0, h2, h3, h4, h6, h7, h8, h9, ho7, nat_add_one, hw, Box2Z, ho2, BoxG, ho3]
            refine ⟨hg1'.mono (fun k g hk _ => by simp only [List.mem_cons, List.not_mem_nil, or_false] at hk; rcases hk with rfl; simp only [tmD, reduceIte, Nat.reduceEqDiff, Nat.reduceAdd]) (fun k hk => by simp only [tmD, reduceIte, Nat.reduceEqDiff, Nat.reduceAdd]; exact Nat.le_refl _), hg3'.mono (fun k g hk _ => by simp only [List.mem_cons, List.not_mem_nil, or_false] at hk; rcases hk with rfl; simp only [tmD, reduceIte, Nat.reduceEqDiff, Nat.reduceAdd]) (fun k hk => by simp only [tmD, reduceIte, Nat.reduceEqDiff, Nat.reduceAdd]; exact Nat.le_refl _), hg4'.mono (fun k g hk _ => by simp only [List.mem_cons, List.not_mem_nil, or_false] at hk; rcases hk with rfl; simp only [tmD, reduceIte, Nat.reduceEqDiff, Nat.reduceAdd]) (fun k hk => by simp only [tmD, reduceIte, Nat.reduceEqDiff, Nat.reduceAdd]; exact Nat.le_refl _), _, rs ++ [rows.getD j 0], rfl, ?_, by simp; omega⟩
            exact GrowsS.mono (st := st') (.inr ⟨k0, g0, o, hk0, rfl, hrest⟩) (fun k g hk _ => by simp only [List.mem_cons, List.not_mem_nil, or_false] at hk; rcases hk with rfl; simp only [tmD, reduceIte, Nat.reduceEqDiff, Nat.reduceAdd]) (fun k hk => by simp only [tmD, reduceIte, Nat.reduceEqDiff, Nat.reduceAdd]; exact Nat.le_refl _)
      · simp only [L14_2, tmR, seval, h0, h2, h3, h4, h6, h7, h8, h9, ints_len, nat_lt, hj, x1, x2, b7, iaddr_ints hj]
        refine wp_growS [91] 91 (by decide) (.fb []) _ _ _ _ _ _ (xs := ints .i64 rs) (zs := [[TV.int .i64 (rows.getD j 0)]]) ?_ (fun k g => rfl) ?_ (by simp) (by simp [ints]; omega) ?_
        · simp only [tmR, seval]
          exact hgw.mono (fun k g hk _ => by simp only [List.mem_cons, List.not_mem_nil, or_false] at hk; rcases hk with rfl; simp only [tmD, reduceIte, Nat.reduceEqDiff, Nat.reduceAdd]) (fun k hk => by simp only [List.mem_cons, List.not_mem_nil, or_false] at hk; rcases hk with rfl; simp only [tmD, reduceIte, Nat.reduceEqDiff, Nat.reduceAdd]; exact Nat.le_refl _)
        · simp only [tmR, seval, elems]
        · intro st' v henv hobj hcnt hg'
          have ho3 := hobj 3 0 (by decide)
          have ho2 := hobj 2 0 (by decide)
          have ho7 := hobj 7 c (by decide)
          simp only [tmD, reduceIte, Nat.reduceEqDiff, Nat.reduceAdd, b3] at ho3
          simp only [tmD, reduceIte, Nat.reduceEqDiff, Nat.reduceAdd, b2] at ho2
          simp only [tmD, reduceIte, Nat.reduceEqDiff, Nat.reduceAdd, b7] at ho7
          have hg1' : GrowsS st' [29] _ _ _ := hg1.mono (fun k g hk _ => by
              have e := hobj k g (by simp only [List.mem_cons, List.not_mem_nil, or_false] at hk ⊢; omega)
              simp only [List.mem_cons, List.not_mem_nil, or_false] at hk
              rw [e]; rcases hk with rfl; simp only [tmD, reduceIte, Nat.reduceEqDiff, Nat.reduceAdd]) (fun k hk => by
              have e := hcnt k (by simp only [List.mem_cons, List.not_mem_nil, or_false] at hk; omega)
              simp only [List.mem_cons, List.not_mem_nil, or_false] at hk
              rw [e]; rcases hk with rfl; simp only [tmD, reduceIte, Nat.reduceEqDiff, Nat.reduceAdd]; exact Nat.le_refl _)
          have hg3' : GrowsS st' [53] _ _ _ := hg3.mono (fun k g hk _ => by
              have e := hobj k g (by simp only [List.mem_cons, List.not_mem_nil, or_false] at hk ⊢; omega)
              simp only [List.mem_cons, List.not_mem_nil, or_false] at hk
              rw [e]; rcases hk with rfl; simp only [tmD, reduceIte, Nat.reduceEqDiff, Nat.reduceAdd]) (fun k hk => by
              have e := hcnt k (by simp only [List.mem_cons, List.not_mem_nil, or_false] at hk; omega)
              simp only [List.mem_cons, List.not_mem_nil, or_false] at hk
              rw [e]; rcases hk with rfl; simp only [tmD, reduceIte, Nat.reduceEqDiff, Nat.reduceAdd]; exact Nat.le_refl _)
          have hg4' : GrowsS st' [110] _ _ _ := hg4.mono (fun k g hk _ => by
              have e := hobj k g (by simp only [List.mem_cons, List.not_mem_nil, or_false] at hk ⊢; omega)
              simp only [List.mem_cons, List.not_mem_nil, or_false] at hk
              rw [e]; rcases hk with rfl; simp only [tmD, reduceIte, Nat.reduceEqDiff, Nat.reduceAdd]) (fun k hk => by
              have e := hcnt k (by simp only [List.mem_cons, List.not_mem_nil, or_false] at hk; omega)
              simp only [List.mem_cons, List.not_mem_nil, or_false] at hk
              rw [e]; rcases hk with rfl; simp only [tmD, reduceIte, Nat.reduceEqDiff, Nat.reduceAdd]; exact Nat.le_refl _)
          have em : ints .i64 rs ++ [[TV.int .i64 (rows.getD j 0)]] = ints .i64 (rs ++ [rows.getD j 0]) := by simp [ints]
          rw [em] at hg'
          obtain ⟨hz, _⟩ | ⟨k0, g0, o, hk0, hv, hrest⟩ := hg'
          · simp [ints] at hz
          · subst hv
            simp only [tmR, seval, henv, h0, h2, h3, h4, h6, h7, h8, h9, ho7, nat_add_one, hw, Box2Z, ho2, BoxG, ho3]
            refine ⟨hg1'.mono (fun k g hk _ => by simp only [List.mem_cons, List.not_mem_nil, or_false] at hk; rcases hk with rfl; simp only [tmD, reduceIte, Nat.reduceEqDiff, Nat.reduceAdd]) (fun k hk => by simp only [tmD, reduceIte, Nat.reduceEqDiff, Nat.reduceAdd]; exact Nat.le_refl _), hg3'.mono (fun k g hk _ => by simp only [List.mem_cons, List.not_mem_nil, or_false] at hk; rcases hk with rfl; simp only [tmD, reduceIte, Nat.reduceEqDiff, Nat.reduceAdd]) (fun k hk => by simp only [tmD, reduceIte, Nat.reduceEqDiff, Nat.reduceAdd]; exact Nat.le_refl _), hg4'.mono (fun k g hk _ => by simp only [List.mem_cons, List.not_mem_nil, or_false] at hk; rcases hk with rfl; simp only [tmD, reduceIte, Nat.reduceEqDiff, Nat.reduceAdd]) (fun k hk => by simp only [tmD, reduceIte, Nat.reduceEqDiff, Nat.reduceAdd]; exact Nat.le_refl _), _, rs ++ [rows.getD j 0], rfl, ?_, by simp; omega⟩
            exact GrowsS.mono (st := st') (.inr ⟨k0, g0, o, hk0, rfl, hrest⟩) (fun k g hk _ => by simp only [List.mem_cons, List.not_mem_nil, or_false] at hk; rcases hk with rfl; simp only [tmD, reduceIte, Nat.reduceEqDiff, Nat.reduceAdd]) (fun k hk => by simp only [tmD, reduceIte, Nat.reduceEqDiff, Nat.reduceAdd]; exact Nat.le_refl _)
    · have x1 : ((j : Int) = (sk : Int)) = True := eq_true (by omega)
      have x2 : ((rows.length : Int) = 3) = False := eq_false (by omega)
      simp only [L14_2, tmR, seval, h0, h2, h3, h4, h6, h7, h8, h9, ints_len, nat_lt, hj, x1, x2, b7, nat_add_one, hw, Box2Z, b2, BoxG, b3]
      exact ⟨hg1.mono (fun k g hk _ => by simp only [tmD, reduceIte, Nat.reduceEqDiff, Nat.reduceAdd]) (fun k hk => by simp only [tmD, reduceIte, Nat.reduceEqDiff, Nat.reduceAdd]; exact Nat.le_refl _), hg3.mono (fun k g hk _ => by simp only [tmD, reduceIte, Nat.reduceEqDiff, Nat.reduceAdd]) (fun k hk => by simp only [tmD, reduceIte, Nat.reduceEqDiff, Nat.reduceAdd]; exact Nat.le_refl _), hg4.mono (fun k g hk _ => by simp only [tmD, reduceIte, Nat.reduceEqDiff, Nat.reduceAdd]) (fun k hk => by simp only [tmD, reduceIte, Nat.reduceEqDiff, Nat.reduceAdd]; exact Nat.le_refl _), w, rs, rfl, hgw.mono (fun k g hk _ => by simp only [tmD, reduceIte, Nat.reduceEqDiff, Nat.reduceAdd]) (fun k hk => by simp only [tmD, reduceIte, Nat.reduceEqDiff, Nat.reduceAdd]; exact Nat.le_refl _), by omega⟩
  · rintro s ⟨h0, h2, h3, h4, h6, h7, h8, h9, b2, hg1, b3, hg3, hg4, w, rs, b7, hgw, hrs⟩
    simp only [L14_2, tmR, seval, h4, h9, ints_len, Int.lt_irrefl]
    exact hQ _ w rs h0 h2 h3 h4 h6 h7 b2 (hg1.mono (fun k g hk _ => by simp only [tmD, reduceIte, Nat.reduceEqDiff, Nat.reduceAdd]) (fun k hk => by simp only [tmD, reduceIte, Nat.reduceEqDiff, Nat.reduceAdd]; exact Nat.le_refl _)) b3 (hg3.mono (fun k g hk _ => by simp only [tmD, reduceIte, Nat.reduceEqDiff, Nat.reduceAdd]) (fun k hk => by simp only [tmD, reduceIte, Nat.reduceEqDiff, Nat.reduceAdd]; exact Nat.le_refl _)) (hg4.mono (fun k g hk _ => by simp only [tmD, reduceIte, Nat.reduceEqDiff, Nat.reduceAdd]) (fun k hk => by simp only [tmD, reduceIte, Nat.reduceEqDiff, Nat.reduceAdd]; exact Nat.le_refl _)) b7 (hgw.mono (fun k g hk _ => by simp only [tmD, reduceIte, Nat.reduceEqDiff, Nat.reduceAdd]) (fun k hk => by simp only [tmD, reduceIte, Nat.reduceEqDiff, Nat.reduceAdd]; exact Nat.le_refl _)) (by omega)
  · exact ⟨h0, h2, h3, h4, h6, h7, h8, h9, b2, hg1, b3, hg3, hg4, .nils, [], b7, .inl ⟨rfl, rfl⟩, by simp⟩
theorem loopMasCuts {Q : Ex → St → Prop} {st : St} (l rows : List Int) (pen : Int) (v1 v3 : TV) (cols : List Col) (hl : l.length < 9223372036854775808) (hr3 : 3 ≤ rows.length) (hr5 : rows.length ≤ 5)
    (h0 : st.env 0 = .sl (ints .i64 l)) (h2 : st.env 2 = .ptr 2 0 0 0) (h3 : st.env 3 = .ptr 3 0 0 0) (h4 : st.env 4 = .sl (ints .i64 rows)) (h6 : st.env 6 = .int .i64 0) (b2 : Box2Z st) (hg1 : GrowsS st [29] 1 v1 (ints .i64 rows)) (b3 : BoxG st v1 pen v3 .nils) (hg3 : GrowsS st [53] 3 v3 (cols.map colC))
    (hQ : ∀ (s : St) (v4 : TV) (cuts : List Cu), s.env 2 = .ptr 2 0 0 0 → s.env 3 = .ptr 3 0 0 0 → Box2Z s → GrowsS s [29] 1 v1 (ints .i64 rows) → BoxG s v1 pen v3 v4 → GrowsS s [53] 3 v3 (cols.map colC) → GrowsS s [110] 2 v4 (cuts.map cutC) → cuts.length ≤ 2 → (∀ c ∈ cuts, c.rs.length ≤ 5) → Q (.exit 2) s) :
    Goes mach (.loop L14_1) Q st := by
  have at3' : Gives mach 59 [.sl (ints .i64 l), .int .i64 3] (.int .i64 (atN l 3 : Nat)) := at_c l 3 hl (by omega)
  have hrem : binTV false .rem (.int .i64 (atN l 3 : Nat)) (.int .i64 3) = some (.int .i64 ((atN l 3 % 3 : Nat) : Int)) := by rw [bin_rem _ _ _ _ (by decide)]; exact congrArg _ (congrArg _ (rem_nat _ 3))
  have hlt3 : atN l 3 % 3 < 3 := Nat.mod_lt _ (by omega)
  have hlz : ((rows.length : Nat) : Int) ≠ 0 := by omega
  refine wp_for (fun i s => s.env 0 = .sl (ints .i64 l) ∧ s.env 2 = .ptr 2 0 0 0 ∧ s.env 3 = .ptr 3 0 0 0 ∧ s.env 4 = .sl (ints .i64 rows) ∧ s.env 6 = .int .i64 (i : Nat) ∧ Box2Z s ∧ GrowsS s [29] 1 v1 (ints .i64 rows) ∧ GrowsS s [53] 3 v3 (cols.map colC) ∧
    ∃ (v4 : TV) (cuts : List Cu), BoxG s v1 pen v3 v4 ∧ GrowsS s [110] 2 v4 (cuts.map cutC) ∧ cuts.length ≤ i ∧ ∀ c ∈ cuts, c.rs.length ≤ 5) (atN l 3 % 3) ?_ ?_ (atN l 3 % 3) 0 _ (by omega) ?_
  · rintro i s hi ⟨h0, h2, h3, h4, h6, b2, hg1, hg3, v4, cuts, b3, hg4, hcl, hcu⟩
    have hw : IntKind.i64.wrap ((i + 1 : Nat) : Int) = (i + 1 : Nat) := wrap_i64n (by omega)
    have hw20 : IntKind.i64.wrap (20 + (i : Int)) = ((20 + i : Nat) : Int) := by rw [wrap_i64 (by omega) (by omega)]; omega
    have hw24 : IntKind.i64.wrap (24 + (i : Int)) = ((24 + i : Nat) : Int) := by rw [wrap_i64 (by omega) (by omega)]; omega
    have a20 := at_c l (20 + i) hl (by omega)
    have a24 := at_c l (24 + i) hl (by omega)
    have hrem2 : binTV false .rem (.int .i64 (atN l (24 + i) : Nat)) (.int .i64 2) = some (.int .i64 ((atN l (24 + i) % 2 : Nat) : Int)) := by rw [bin_rem _ _ _ _ (by decide)]; exact congrArg _ (congrArg _ (rem_nat _ 2))
    simp only [L14_1, tmR, seval, h0, h3, h4, h6, wpcall_eq at3', hrem, nat_lt, hi, hw20, wpcall_eq a20, ints_len, bin_rem _ _ _ _ hlz, rem_nat]
    refine loopMasCut l rows pen v1 v3 v4 cols cuts (s.cnt 7) i (atN l (20 + i) % rows.length) hr3 hr5 ?_ ?_ ?_ ?_ ?_ ?_ ?_ ?_ ?_ ?_ ?_ ?_ ?_ ?_ (fun s w rs h0 h2 h3 h4 h6 h7 b2 hg1 b3 hg3 hg4 b7 hgw hrs => ?_)
    · simp only [tmD, reduceIte, Nat.reduceEqDiff, Nat.reduceAdd, h0]
    · simp only [tmD, reduceIte, Nat.reduceEqDiff, Nat.reduceAdd, h2]
    · simp only [tmD, reduceIte, Nat.reduceEqDiff, Nat.reduceAdd, h3]
    · simp only [tmD, reduceIte, Nat.reduceEqDiff, Nat.reduceAdd, h4]
    · simp only [tmD, reduceIte, Nat.reduceEqDiff, Nat.reduceAdd, h6]
    · simp only [tmD, reduceIte, Nat.reduceEqDiff, Nat.reduceAdd]
    · simp only [tmD, reduceIte, Nat.reduceEqDiff, Nat.reduceAdd]
    · simp only [tmD, reduceIte, Nat.reduceEqDiff, Nat.reduceAdd]
    · simp only [Box2Z, tmD, reduceIte, Nat.reduceEqDiff, Nat.reduceAdd, b2]
    · exact (hg1.mono (fun k g hk _ => by simp only [List.mem_cons, List.not_mem_nil, or_false] at hk; rcases hk with rfl; simp only [tmD, reduceIte, Nat.reduceEqDiff, Nat.reduceAdd]) (fun k hk => by simp only [List.mem_cons, List.not_mem_nil, or_false] at hk; rcases hk with rfl; simp only [tmD, reduceIte, Nat.reduceEqDiff, Nat.reduceAdd]; exact Nat.le_refl _))
    · simp only [BoxG, tmD, reduceIte, Nat.reduceEqDiff, Nat.reduceAdd, b3]
    · exact (hg3.mono (fun k g hk _ => by simp only [List.mem_cons, List.not_mem_nil, or_false] at hk; rcases hk with rfl; simp only [tmD, reduceIte, Nat.reduceEqDiff, Nat.reduceAdd]) (fun k hk => by simp only [List.mem_cons, List.not_mem_nil, or_false] at hk; rcases hk with rfl; simp only [tmD, reduceIte, Nat.reduceEqDiff, Nat.reduceAdd]; exact Nat.le_refl _))
    · exact (hg4.mono (fun k g hk _ => by simp only [List.mem_cons, List.not_mem_nil, or_false] at hk; rcases hk with rfl; simp only [tmD, reduceIte, Nat.reduceEqDiff, Nat.reduceAdd]) (fun k hk => by simp only [List.mem_cons, List.not_mem_nil, or_false] at hk; rcases hk with rfl; simp only [tmD, reduceIte, Nat.reduceEqDiff, Nat.reduceAdd]; exact Nat.le_refl _))
    · simp only [tmD, reduceIte, Nat.reduceEqDiff, Nat.reduceAdd]
    · obtain ⟨hzw, hvw⟩ | ⟨kw, gw, ow, hkw, hvw, hgw1, how, hcw, hbw, hew, htw⟩ := hgw
      · subst hvw
        have hrs0 : rs = [] := by simpa [ints] using hzw
        by_cases hd : ((atN l (24 + i) % 2 : Nat) : Int) = 1
        · simp only [tmR, seval, h0, h2, h3, h4, h6, h7, b7, hw24, wpcall_eq a24, hrem2, hd, b3]
          refine wp_growS [110] 110 (by decide) .full _ _ _ _ _ _ (xs := cuts.map cutC) (zs := [cutC ⟨rs, 2⟩]) ?_ (fun k g => rfl) ?_ (by simp) (by simp; omega) ?_
          · simp only [tmR, seval]
            exact (hg4.mono (fun k g hk _ => by simp only [List.mem_cons, List.not_mem_nil, or_false] at hk; rcases hk with rfl; simp only [tmD, reduceIte, Nat.reduceEqDiff, Nat.reduceAdd]) (fun k hk => by simp only [List.mem_cons, List.not_mem_nil, or_false] at hk; rcases hk with rfl; simp only [tmD, reduceIte, Nat.reduceEqDiff, Nat.reduceAdd]; exact Nat.le_refl _))
          · simp only [tmR, seval, elems]
            rw [hrs0]; rfl
          · intro st' v henv hobj hcnt hg'
            have ho3 := hobj 3 0 (by decide)
            have ho2 := hobj 2 0 (by decide)
            simp only [tmD, reduceIte, Nat.reduceEqDiff, Nat.reduceAdd, unsol_objG, b3, Option.map_some, pr_beq, List.contains_cons, List.contains_nil, Nat.reduceBEq, Bool.false_and, Bool.or_self, Bool.and_false, Bool.false_eq_true] at ho3
            simp only [tmD, reduceIte, Nat.reduceEqDiff, Nat.reduceAdd, unsol_objG, b2, Option.map_some, pr_beq, List.contains_cons, List.contains_nil, Nat.reduceBEq, Bool.false_and, Bool.or_self, Bool.and_false, Bool.false_eq_true] at ho2
            have hg1' : GrowsS st' [29] _ _ _ := hg1.mono (fun k g hk _ => by
                have e := hobj k g (by simp only [List.mem_cons, List.not_mem_nil, or_false] at hk ⊢; omega)
                simp only [List.mem_cons, List.not_mem_nil, or_false] at hk
                rw [e]; rcases hk with rfl; simp only [tmD, reduceIte, Nat.reduceEqDiff, Nat.reduceAdd]) (fun k hk => by
                have e := hcnt k (by simp only [List.mem_cons, List.not_mem_nil, or_false] at hk; omega)
                simp only [List.mem_cons, List.not_mem_nil, or_false] at hk
                rw [e]; rcases hk with rfl; simp only [tmD, reduceIte, Nat.reduceEqDiff, Nat.reduceAdd]; exact Nat.le_refl _)
            have hg3' : GrowsS st' [53] _ _ _ := hg3.mono (fun k g hk _ => by
                have e := hobj k g (by simp only [List.mem_cons, List.not_mem_nil, or_false] at hk ⊢; omega)
                simp only [List.mem_cons, List.not_mem_nil, or_false] at hk
                rw [e]; rcases hk with rfl; simp only [tmD, reduceIte, Nat.reduceEqDiff, Nat.reduceAdd]) (fun k hk => by
                have e := hcnt k (by simp only [List.mem_cons, List.not_mem_nil, or_false] at hk; omega)
                simp only [List.mem_cons, List.not_mem_nil, or_false] at hk
                rw [e]; rcases hk with rfl; simp only [tmD, reduceIte, Nat.reduceEqDiff, Nat.reduceAdd]; exact Nat.le_refl _)
            have em : cuts.map cutC ++ [cutC ⟨rs, 2⟩] = (cuts ++ [(⟨rs, 2⟩ : Cu)]).map cutC := by simp
            rw [em] at hg'
            obtain ⟨hz, _⟩ | ⟨k0, g0, o, hk0, hv, hrest⟩ := hg'
            · simp at hz
            · subst hv
              simp only [tmR, seval, henv, h0, h2, h3, h4, h6, nat_add_one, hw, Box2Z, ho2, BoxG, ho3]
              refine ⟨(hg1'.mono (fun k g hk _ => by simp only [List.mem_cons, List.not_mem_nil, or_false] at hk; rcases hk with rfl; simp only [tmD, reduceIte, Nat.reduceEqDiff, Nat.reduceAdd]) (fun k hk => by simp only [List.mem_cons, List.not_mem_nil, or_false] at hk; rcases hk with rfl; simp only [tmD, reduceIte, Nat.reduceEqDiff, Nat.reduceAdd]; exact Nat.le_refl _)), (hg3'.mono (fun k g hk _ => by simp only [List.mem_cons, List.not_mem_nil, or_false] at hk; rcases hk with rfl; simp only [tmD, reduceIte, Nat.reduceEqDiff, Nat.reduceAdd]) (fun k hk => by simp only [List.mem_cons, List.not_mem_nil, or_false] at hk; rcases hk with rfl; simp only [tmD, reduceIte, Nat.reduceEqDiff, Nat.reduceAdd]; exact Nat.le_refl _)), _, cuts ++ [⟨rs, 2⟩], rfl, GrowsS.mono (st := st') (.inr ⟨k0, g0, o, hk0, rfl, hrest⟩) (fun k g hk _ => by simp only [List.mem_cons, List.not_mem_nil, or_false] at hk; rcases hk with rfl; simp only [tmD, reduceIte, Nat.reduceEqDiff, Nat.reduceAdd]) (fun k hk => by simp only [tmD, reduceIte, Nat.reduceEqDiff, Nat.reduceAdd]; exact Nat.le_refl _), by simp; omega, fun x hx => ?_⟩
              rcases List.mem_append.1 hx with h | h
              · exact hcu x h
              · simp only [List.mem_singleton] at h; subst h; exact hrs
        · simp only [tmR, seval, h0, h2, h3, h4, h6, h7, b7, hw24, wpcall_eq a24, hrem2, hd, b3]
          refine wp_growS [110] 110 (by decide) .full _ _ _ _ _ _ (xs := cuts.map cutC) (zs := [cutC ⟨rs, 2⟩]) ?_ (fun k g => rfl) ?_ (by simp) (by simp; omega) ?_
          · simp only [tmR, seval]
            exact (hg4.mono (fun k g hk _ => by simp only [List.mem_cons, List.not_mem_nil, or_false] at hk; rcases hk with rfl; simp only [tmD, reduceIte, Nat.reduceEqDiff, Nat.reduceAdd]) (fun k hk => by simp only [List.mem_cons, List.not_mem_nil, or_false] at hk; rcases hk with rfl; simp only [tmD, reduceIte, Nat.reduceEqDiff, Nat.reduceAdd]; exact Nat.le_refl _))
          · simp only [tmR, seval, elems]
            rw [hrs0]; rfl
          · intro st' v henv hobj hcnt hg'
            have ho3 := hobj 3 0 (by decide)
            have ho2 := hobj 2 0 (by decide)
            simp only [tmD, reduceIte, Nat.reduceEqDiff, Nat.reduceAdd, unsol_objG, b3, Option.map_some, pr_beq, List.contains_cons, List.contains_nil, Nat.reduceBEq, Bool.false_and, Bool.or_self, Bool.and_false, Bool.false_eq_true] at ho3
            simp only [tmD, reduceIte, Nat.reduceEqDiff, Nat.reduceAdd, unsol_objG, b2, Option.map_some, pr_beq, List.contains_cons, List.contains_nil, Nat.reduceBEq, Bool.false_and, Bool.or_self, Bool.and_false, Bool.false_eq_true] at ho2
            have hg1' : GrowsS st' [29] _ _ _ := hg1.mono (fun k g hk _ => by
                have e := hobj k g (by simp only [List.mem_cons, List.not_mem_nil, or_false] at hk ⊢; omega)
                simp only [List.mem_cons, List.not_mem_nil, or_false] at hk
                rw [e]; rcases hk with rfl; simp only [tmD, reduceIte, Nat.reduceEqDiff, Nat.reduceAdd]) (fun k hk => by
                have e := hcnt k (by simp only [List.mem_cons, List.not_mem_nil, or_false] at hk; omega)
                simp only [List.mem_cons, List.not_mem_nil, or_false] at hk
                rw [e]; rcases hk with rfl; simp only [tmD, reduceIte, Nat.reduceEqDiff, Nat.reduceAdd]; exact Nat.le_refl _)
            have hg3' : GrowsS st' [53] _ _ _ := hg3.mono (fun k g hk _ => by
                have e := hobj k g (by simp only [List.mem_cons, List.not_mem_nil, or_false] at hk ⊢; omega)
                simp only [List.mem_cons, List.not_mem_nil, or_false] at hk
                rw [e]; rcases hk with rfl; simp only [tmD, reduceIte, Nat.reduceEqDiff, Nat.reduceAdd]) (fun k hk => by
                have e := hcnt k (by simp only [List.mem_cons, List.not_mem_nil, or_false] at hk; omega)
                simp only [List.mem_cons, List.not_mem_nil, or_false] at hk
                rw [e]; rcases hk with rfl; simp only [tmD, reduceIte, Nat.reduceEqDiff, Nat.reduceAdd]; exact Nat.le_refl _)
            have em : cuts.map cutC ++ [cutC ⟨rs, 2⟩] = (cuts ++ [(⟨rs, 2⟩ : Cu)]).map cutC := by simp
            rw [em] at hg'
            obtain ⟨hz, _⟩ | ⟨k0, g0, o, hk0, hv, hrest⟩ := hg'
            · simp at hz
            · subst hv
              simp only [tmR, seval, henv, h0, h2, h3, h4, h6, nat_add_one, hw, Box2Z, ho2, BoxG, ho3]
              refine ⟨(hg1'.mono (fun k g hk _ => by simp only [List.mem_cons, List.not_mem_nil, or_false] at hk; rcases hk with rfl; simp only [tmD, reduceIte, Nat.reduceEqDiff, Nat.reduceAdd]) (fun k hk => by simp only [List.mem_cons, List.not_mem_nil, or_false] at hk; rcases hk with rfl; simp only [tmD, reduceIte, Nat.reduceEqDiff, Nat.reduceAdd]; exact Nat.le_refl _)), (hg3'.mono (fun k g hk _ => by simp only [List.mem_cons, List.not_mem_nil, or_false] at hk; rcases hk with rfl; simp only [tmD, reduceIte, Nat.reduceEqDiff, Nat.reduceAdd]) (fun k hk => by simp only [List.mem_cons, List.not_mem_nil, or_false] at hk; rcases hk with rfl; simp only [tmD, reduceIte, Nat.reduceEqDiff, Nat.reduceAdd]; exact Nat.le_refl _)), _, cuts ++ [⟨rs, 2⟩], rfl, GrowsS.mono (st := st') (.inr ⟨k0, g0, o, hk0, rfl, hrest⟩) (fun k g hk _ => by simp only [List.mem_cons, List.not_mem_nil, or_false] at hk; rcases hk with rfl; simp only [tmD, reduceIte, Nat.reduceEqDiff, Nat.reduceAdd]) (fun k hk => by simp only [tmD, reduceIte, Nat.reduceEqDiff, Nat.reduceAdd]; exact Nat.le_refl _), by simp; omega, fun x hx => ?_⟩
              rcases List.mem_append.1 hx with h | h
              · exact hcu x h
              · simp only [List.mem_singleton] at h; subst h; exact hrs
      · simp only [List.mem_cons, List.not_mem_nil, or_false] at hkw
        subst hkw hvw
        have htk : List.take (ints .i64 rs).length (ints .i64 rs) = ints .i64 rs := List.take_length
        by_cases hd : ((atN l (24 + i) % 2 : Nat) : Int) = 1
        · by_cases hd2 : (2 : Int) < ((ints .i64 rs).length : Int)
          · simp only [tmR, seval, h0, h2, h3, h4, h6, h7, b7, hw24, wpcall_eq a24, hrem2, hd, hd2, b3, how, hbw, hew, hcw, htk, apply_unew]
            refine wp_growS [110] 110 (by decide) .full _ _ _ _ _ _ (xs := cuts.map cutC) (zs := [cutC ⟨rs, 3⟩]) ?_ (fun k g => rfl) ?_ (by simp) (by simp; omega) ?_
            · simp only [tmR, seval]
              exact ((hg4.unsol (b := true) (hs := [(91, gw)])).mono (fun k g hk _ => by simp only [List.mem_cons, List.not_mem_nil, or_false] at hk; rcases hk with rfl; simp only [tmD, reduceIte, Nat.reduceEqDiff, Nat.reduceAdd, unsol_objG]) (fun k hk => by simp only [List.mem_cons, List.not_mem_nil, or_false] at hk; rcases hk with rfl; simp only [tmD, reduceIte, Nat.reduceEqDiff, Nat.reduceAdd, unsol_objG]; exact Nat.le_refl _))
            · simp only [tmR, seval, elems]
              rfl
            · intro st' v henv hobj hcnt hg'
              have ho3 := hobj 3 0 (by decide)
              have ho2 := hobj 2 0 (by decide)
              simp only [tmD, reduceIte, Nat.reduceEqDiff, Nat.reduceAdd, unsol_objG, b3, Option.map_some, pr_beq, List.contains_cons, List.contains_nil, Nat.reduceBEq, Bool.false_and, Bool.or_self, Bool.and_false, Bool.false_eq_true] at ho3
              simp only [tmD, reduceIte, Nat.reduceEqDiff, Nat.reduceAdd, unsol_objG, b2, Option.map_some, pr_beq, List.contains_cons, List.contains_nil, Nat.reduceBEq, Bool.false_and, Bool.or_self, Bool.and_false, Bool.false_eq_true] at ho2
              have hg1' : GrowsS st' [29] _ _ _ := (hg1.unsol (b := true) (hs := [(91, gw)])).mono (fun k g hk _ => by
                  have e := hobj k g (by simp only [List.mem_cons, List.not_mem_nil, or_false] at hk ⊢; omega)
                  simp only [List.mem_cons, List.not_mem_nil, or_false] at hk
                  rw [e]; rcases hk with rfl; simp only [tmD, reduceIte, Nat.reduceEqDiff, Nat.reduceAdd, unsol_objG]) (fun k hk => by
                  have e := hcnt k (by simp only [List.mem_cons, List.not_mem_nil, or_false] at hk; omega)
                  simp only [List.mem_cons, List.not_mem_nil, or_false] at hk
                  rw [e]; rcases hk with rfl; simp only [tmD, reduceIte, Nat.reduceEqDiff, Nat.reduceAdd, unsol_objG]; exact Nat.le_refl _)
              have hg3' : GrowsS st' [53] _ _ _ := (hg3.unsol (b := true) (hs := [(91, gw)])).mono (fun k g hk _ => by
                  have e := hobj k g (by simp only [List.mem_cons, List.not_mem_nil, or_false] at hk ⊢; omega)
                  simp only [List.mem_cons, List.not_mem_nil, or_false] at hk
                  rw [e]; rcases hk with rfl; simp only [tmD, reduceIte, Nat.reduceEqDiff, Nat.reduceAdd, unsol_objG]) (fun k hk => by
                  have e := hcnt k (by simp only [List.mem_cons, List.not_mem_nil, or_false] at hk; omega)
                  simp only [List.mem_cons, List.not_mem_nil, or_false] at hk
                  rw [e]; rcases hk with rfl; simp only [tmD, reduceIte, Nat.reduceEqDiff, Nat.reduceAdd, unsol_objG]; exact Nat.le_refl _)
              have em : cuts.map cutC ++ [cutC ⟨rs, 3⟩] = (cuts ++ [(⟨rs, 3⟩ : Cu)]).map cutC := by simp
              rw [em] at hg'
              obtain ⟨hz, _⟩ | ⟨k0, g0, o, hk0, hv, hrest⟩ := hg'
              · simp at hz
              · subst hv
                simp only [tmR, seval, henv, h0, h2, h3, h4, h6, nat_add_one, hw, Box2Z, ho2, BoxG, ho3]
                refine ⟨(hg1'.mono (fun k g hk _ => by simp only [List.mem_cons, List.not_mem_nil, or_false] at hk; rcases hk with rfl; simp only [tmD, reduceIte, Nat.reduceEqDiff, Nat.reduceAdd]) (fun k hk => by simp only [List.mem_cons, List.not_mem_nil, or_false] at hk; rcases hk with rfl; simp only [tmD, reduceIte, Nat.reduceEqDiff, Nat.reduceAdd]; exact Nat.le_refl _)), (hg3'.mono (fun k g hk _ => by simp only [List.mem_cons, List.not_mem_nil, or_false] at hk; rcases hk with rfl; simp only [tmD, reduceIte, Nat.reduceEqDiff, Nat.reduceAdd]) (fun k hk => by simp only [List.mem_cons, List.not_mem_nil, or_false] at hk; rcases hk with rfl; simp only [tmD, reduceIte, Nat.reduceEqDiff, Nat.reduceAdd]; exact Nat.le_refl _)), _, cuts ++ [⟨rs, 3⟩], rfl, GrowsS.mono (st := st') (.inr ⟨k0, g0, o, hk0, rfl, hrest⟩) (fun k g hk _ => by simp only [List.mem_cons, List.not_mem_nil, or_false] at hk; rcases hk with rfl; simp only [tmD, reduceIte, Nat.reduceEqDiff, Nat.reduceAdd]) (fun k hk => by simp only [tmD, reduceIte, Nat.reduceEqDiff, Nat.reduceAdd]; exact Nat.le_refl _), by simp; omega, fun x hx => ?_⟩
                rcases List.mem_append.1 hx with h | h
                · exact hcu x h
                · simp only [List.mem_singleton] at h; subst h; exact hrs
          · simp only [tmR, seval, h0, h2, h3, h4, h6, h7, b7, hw24, wpcall_eq a24, hrem2, hd, hd2, b3, how, hbw, hew, hcw, htk, apply_unew]
            refine wp_growS [110] 110 (by decide) .full _ _ _ _ _ _ (xs := cuts.map cutC) (zs := [cutC ⟨rs, 2⟩]) ?_ (fun k g => rfl) ?_ (by simp) (by simp; omega) ?_
            · simp only [tmR, seval]
              exact ((hg4.unsol (b := true) (hs := [(91, gw)])).mono (fun k g hk _ => by simp only [List.mem_cons, List.not_mem_nil, or_false] at hk; rcases hk with rfl; simp only [tmD, reduceIte, Nat.reduceEqDiff, Nat.reduceAdd, unsol_objG]) (fun k hk => by simp only [List.mem_cons, List.not_mem_nil, or_false] at hk; rcases hk with rfl; simp only [tmD, reduceIte, Nat.reduceEqDiff, Nat.reduceAdd, unsol_objG]; exact Nat.le_refl _))
            · simp only [tmR, seval, elems]
              rfl
            · intro st' v henv hobj hcnt hg'
              have ho3 := hobj 3 0 (by decide)
              have ho2 := hobj 2 0 (by decide)
              simp only [tmD, reduceIte, Nat.reduceEqDiff, Nat.reduceAdd, unsol_objG, b3, Option.map_some, pr_beq, List.contains_cons, List.contains_nil, Nat.reduceBEq, Bool.false_and, Bool.or_self, Bool.and_false, Bool.false_eq_true] at ho3
              simp only [tmD, reduceIte, Nat.reduceEqDiff, Nat.reduceAdd, unsol_objG, b2, Option.map_some, pr_beq, List.contains_cons, List.contains_nil, Nat.reduceBEq, Bool.false_and, Bool.or_self, Bool.and_false, Bool.false_eq_true] at ho2
              have hg1' : GrowsS st' [29] _ _ _ := (hg1.unsol (b := true) (hs := [(91, gw)])).mono (fun k g hk _ => by
                  have e := hobj k g (by simp only [List.mem_cons, List.not_mem_nil, or_false] at hk ⊢; omega)
                  simp only [List.mem_cons, List.not_mem_nil, or_false] at hk
                  rw [e]; rcases hk with rfl; simp only [tmD, reduceIte, Nat.reduceEqDiff, Nat.reduceAdd, unsol_objG]) (fun k hk => by
                  have e := hcnt k (by simp only [List.mem_cons, List.not_mem_nil, or_false] at hk; omega)
                  simp only [List.mem_cons, List.not_mem_nil, or_false] at hk
                  rw [e]; rcases hk with rfl; simp only [tmD, reduceIte, Nat.reduceEqDiff, Nat.reduceAdd, unsol_objG]; exact Nat.le_refl _)
              have hg3' : GrowsS st' [53] _ _ _ := (hg3.unsol (b := true) (hs := [(91, gw)])).mono (fun k g hk _ => by
                  have e := hobj k g (by simp only [List.mem_cons, List.not_mem_nil, or_false] at hk ⊢; omega)
                  simp only [List.mem_cons, List.not_mem_nil, or_false] at hk
                  rw [e]; rcases hk with rfl; simp only [tmD, reduceIte, Nat.reduceEqDiff, Nat.reduceAdd, unsol_objG]) (fun k hk => by
                  have e := hcnt k (by simp only [List.mem_cons, List.not_mem_nil, or_false] at hk; omega)
                  simp only [List.mem_cons, List.not_mem_nil, or_false] at hk
                  rw [e]; rcases hk with rfl; simp only [tmD, reduceIte, Nat.reduceEqDiff, Nat.reduceAdd, unsol_objG]; exact Nat.le_refl _)
              have em : cuts.map cutC ++ [cutC ⟨rs, 2⟩] = (cuts ++ [(⟨rs, 2⟩ : Cu)]).map cutC := by simp
              rw [em] at hg'
              obtain ⟨hz, _⟩ | ⟨k0, g0, o, hk0, hv, hrest⟩ := hg'
              · simp at hz
              · subst hv
                simp only [tmR, seval, henv, h0, h2, h3, h4, h6, nat_add_one, hw, Box2Z, ho2, BoxG, ho3]
                refine ⟨(hg1'.mono (fun k g hk _ => by simp only [List.mem_cons, List.not_mem_nil, or_false] at hk; rcases hk with rfl; simp only [tmD, reduceIte, Nat.reduceEqDiff, Nat.reduceAdd]) (fun k hk => by simp only [List.mem_cons, List.not_mem_nil, or_false] at hk; rcases hk with rfl; simp only [tmD, reduceIte, Nat.reduceEqDiff, Nat.reduceAdd]; exact Nat.le_refl _)), (hg3'.mono (fun k g hk _ => by simp only [List.mem_cons, List.not_mem_nil, or_false] at hk; rcases hk with rfl; simp only [tmD, reduceIte, Nat.reduceEqDiff, Nat.reduceAdd]) (fun k hk => by simp only [List.mem_cons, List.not_mem_nil, or_false] at hk; rcases hk with rfl; simp only [tmD, reduceIte, Nat.reduceEqDiff, Nat.reduceAdd]; exact Nat.le_refl _)), _, cuts ++ [⟨rs, 2⟩], rfl, GrowsS.mono (st := st') (.inr ⟨k0, g0, o, hk0, rfl, hrest⟩) (fun k g hk _ => by simp only [List.mem_cons, List.not_mem_nil, or_false] at hk; rcases hk with rfl; simp only [tmD, reduceIte, Nat.reduceEqDiff, Nat.reduceAdd]) (fun k hk => by simp only [tmD, reduceIte, Nat.reduceEqDiff, Nat.reduceAdd]; exact Nat.le_refl _), by simp; omega, fun x hx => ?_⟩
                rcases List.mem_append.1 hx with h | h
                · exact hcu x h
                · simp only [List.mem_singleton] at h; subst h; exact hrs
        · simp only [tmR, seval, h0, h2, h3, h4, h6, h7, b7, hw24, wpcall_eq a24, hrem2, hd, b3, how, hbw, hew, hcw, htk, apply_unew]
          refine wp_growS [110] 110 (by decide) .full _ _ _ _ _ _ (xs := cuts.map cutC) (zs := [cutC ⟨rs, 2⟩]) ?_ (fun k g => rfl) ?_ (by simp) (by simp; omega) ?_
          · simp only [tmR, seval]
            exact ((hg4.unsol (b := true) (hs := [(91, gw)])).mono (fun k g hk _ => by simp only [List.mem_cons, List.not_mem_nil, or_false] at hk; rcases hk with rfl; simp only [tmD, reduceIte, Nat.reduceEqDiff, Nat.reduceAdd, unsol_objG]) (fun k hk => by simp only [List.mem_cons, List.not_mem_nil, or_false] at hk; rcases hk with rfl; simp only [tmD, reduceIte, Nat.reduceEqDiff, Nat.reduceAdd, unsol_objG]; exact Nat.le_refl _))
          · simp only [tmR, seval, elems]
            rfl
          · intro st' v henv hobj hcnt hg'
            have ho3 := hobj 3 0 (by decide)
            have ho2 := hobj 2 0 (by decide)
            simp only [tmD, reduceIte, Nat.reduceEqDiff, Nat.reduceAdd, unsol_objG, b3, Option.map_some, pr_beq, List.contains_cons, List.contains_nil, Nat.reduceBEq, Bool.false_and, Bool.or_self, Bool.and_false, Bool.false_eq_true] at ho3
            simp only [tmD, reduceIte, Nat.reduceEqDiff, Nat.reduceAdd, unsol_objG, b2, Option.map_some, pr_beq, List.contains_cons, List.contains_nil, Nat.reduceBEq, Bool.false_and, Bool.or_self, Bool.and_false, Bool.false_eq_true] at ho2
            have hg1' : GrowsS st' [29] _ _ _ := (hg1.unsol (b := true) (hs := [(91, gw)])).mono (fun k g hk _ => by
                have e := hobj k g (by simp only [List.mem_cons, List.not_mem_nil, or_false] at hk ⊢; omega)
                simp only [List.mem_cons, List.not_mem_nil, or_false] at hk
                rw [e]; rcases hk with rfl; simp only [tmD, reduceIte, Nat.reduceEqDiff, Nat.reduceAdd, unsol_objG]) (fun k hk => by
                have e := hcnt k (by simp only [List.mem_cons, List.not_mem_nil, or_false] at hk; omega)
                simp only [List.mem_cons, List.not_mem_nil, or_false] at hk
                rw [e]; rcases hk with rfl; simp only [tmD, reduceIte, Nat.reduceEqDiff, Nat.reduceAdd, unsol_objG]; exact Nat.le_refl _)
            have hg3' : GrowsS st' [53] _ _ _ := (hg3.unsol (b := true) (hs := [(91, gw)])).mono (fun k g hk _ => by
                have e := hobj k g (by simp only [List.mem_cons, List.not_mem_nil, or_false] at hk ⊢; omega)
                simp only [List.mem_cons, List.not_mem_nil, or_false] at hk
                rw [e]; rcases hk with rfl; simp only [tmD, reduceIte, Nat.reduceEqDiff, Nat.reduceAdd, unsol_objG]) (fun k hk => by
                have e := hcnt k (by simp only [List.mem_cons, List.not_mem_nil, or_false] at hk; omega)
                simp only [List.mem_cons, List.not_mem_nil, or_false] at hk
                rw [e]; rcases hk with rfl; simp only [tmD, reduceIte, Nat.reduceEqDiff, Nat.reduceAdd, unsol_objG]; exact Nat.le_refl _)
            have em : cuts.map cutC ++ [cutC ⟨rs, 2⟩] = (cuts ++ [(⟨rs, 2⟩ : Cu)]).map cutC := by simp
            rw [em] at hg'
            obtain ⟨hz, _⟩ | ⟨k0, g0, o, hk0, hv, hrest⟩ := hg'
            · simp at hz
            · subst hv
              simp only [tmR, seval, henv, h0, h2, h3, h4, h6, nat_add_one, hw, Box2Z, ho2, BoxG, ho3]
              refine ⟨(hg1'.mono (fun k g hk _ => by simp only [List.mem_cons, List.not_mem_nil, or_false] at hk; rcases hk with rfl; simp only [tmD, reduceIte, Nat.reduceEqDiff, Nat.reduceAdd]) (fun k hk => by simp only [List.mem_cons, List.not_mem_nil, or_false] at hk; rcases hk with rfl; simp only [tmD, reduceIte, Nat.reduceEqDiff, Nat.reduceAdd]; exact Nat.le_refl _)), (hg3'.mono (fun k g hk _ => by simp only [List.mem_cons, List.not_mem_nil, or_false] at hk; rcases hk with rfl; simp only [tmD, reduceIte, Nat.reduceEqDiff, Nat.reduceAdd]) (fun k hk => by simp only [List.mem_cons, List.not_mem_nil, or_false] at hk; rcases hk with rfl; simp only [tmD, reduceIte, Nat.reduceEqDiff, Nat.reduceAdd]; exact Nat.le_refl _)), _, cuts ++ [⟨rs, 2⟩], rfl, GrowsS.mono (st := st') (.inr ⟨k0, g0, o, hk0, rfl, hrest⟩) (fun k g hk _ => by simp only [List.mem_cons, List.not_mem_nil, or_false] at hk; rcases hk with rfl; simp only [tmD, reduceIte, Nat.reduceEqDiff, Nat.reduceAdd]) (fun k hk => by simp only [tmD, reduceIte, Nat.reduceEqDiff, Nat.reduceAdd]; exact Nat.le_refl _), by simp; omega, fun x hx => ?_⟩
              rcases List.mem_append.1 hx with h | h
              · exact hcu x h
              · simp only [List.mem_singleton] at h; subst h; exact hrs
  · rintro s ⟨h0, h2, h3, h4, h6, b2, hg1, hg3, v4, cuts, b3, hg4, hcl, hcu⟩
    simp only [L14_1, tmR, seval, h0, h6, wpcall_eq at3', hrem, Int.lt_irrefl]
    exact hQ _ v4 cuts h2 h3 b2 (hg1.mono (fun k g hk _ => by simp only [List.mem_cons, List.not_mem_nil, or_false] at hk; rcases hk with rfl; simp only [tmD, reduceIte, Nat.reduceEqDiff, Nat.reduceAdd]) (fun k hk => by simp only [List.mem_cons, List.not_mem_nil, or_false] at hk; rcases hk with rfl; simp only [tmD, reduceIte, Nat.reduceEqDiff, Nat.reduceAdd]; exact Nat.le_refl _)) b3 (hg3.mono (fun k g hk _ => by simp only [List.mem_cons, List.not_mem_nil, or_false] at hk; rcases hk with rfl; simp only [tmD, reduceIte, Nat.reduceEqDiff, Nat.reduceAdd]) (fun k hk => by simp only [List.mem_cons, List.not_mem_nil, or_false] at hk; rcases hk with rfl; simp only [tmD, reduceIte, Nat.reduceEqDiff, Nat.reduceAdd]; exact Nat.le_refl _)) (hg4.mono (fun k g hk _ => by simp only [List.mem_cons, List.not_mem_nil, or_false] at hk; rcases hk with rfl; simp only [tmD, reduceIte, Nat.reduceEqDiff, Nat.reduceAdd]) (fun k hk => by simp only [List.mem_cons, List.not_mem_nil, or_false] at hk; rcases hk with rfl; simp only [tmD, reduceIte, Nat.reduceEqDiff, Nat.reduceAdd]; exact Nat.le_refl _)) (by omega) hcu
  · exact ⟨h0, h2, h3, h4, h6, b2, hg1, hg3, .nils, [], b3, .inl ⟨rfl, rfl⟩, by simp, fun c hc => by cases hc⟩
theorem rowTab_get : ∀ r, r < 6 → ([[TV.sl [[TV.int .i64 0], [TV.int .i64 1], [TV.int .i64 2]]], [TV.sl [[TV.int .i64 1], [TV.int .i64 2], [TV.int .i64 4]]], [TV.sl [[TV.int .i64 0], [TV.int .i64 1], [TV.int .i64 2], [TV.int .i64 3]]], [TV.sl [[TV.int .i64 0], [TV.int .i64 2], [TV.int .i64 3], [TV.int .i64 5]]], [TV.sl [[TV.int .i64 0], [TV.int .i64 1], [TV.int .i64 2], [TV.int .i64 3], [TV.int .i64 4]]], [TV.sl [[TV.int .i64 1], [TV.int .i64 2], [TV.int .i64 3], [TV.int .i64 4], [TV.int .i64 5]]]] : Cont)[r]? = some [TV.sl (ints .i64 (rowTab.getD r []))] := by
  intro r h
  match r, h with
  | 0, _ => rfl
  | 1, _ => rfl
  | 2, _ => rfl
  | 3, _ => rfl
  | 4, _ => rfl
  | 5, _ => rfl
theorem small_ops {c : Col} (h : SmallDs 16 c.ds) : (oper c.ds).length < 2147483648 ∧ c.ds.length < 2147483648 ∧ ∀ d ∈ c.ds, d.length < 2147483648 := by
  have h1 := oper_le h
  exact ⟨by omega, by have := h.1; omega, fun d hd => by have := h.2 d hd; omega⟩
theorem mas_fin2 {s : St} {args : List TV} {pen : Int} {v1 v3 v4 : TV} {rows : List Int} {cols : List Col} {cuts : List Cu} (hsm : Mas.Small ⟨6, rows, pen, cols, cuts⟩) (hcl2 : cuts.length ≤ 2) (hcu : ∀ c ∈ cuts, c.rs.length ≤ 5) (ha : hasOwn args = false) (hm : mutsOf s 0 args = some []) (h2 : s.env 2 = .ptr 2 0 0 0)
    (ho : s.obj 2 0 = some { cont := [[.int .i64 6, v1, .int .i64 pen, v3, v4]], esz := 5, box := true, solo := true, tip := false }) (hg1 : GrowsS s [29] 1 v1 (ints .i64 rows)) (hg3 : GrowsS s [53] 3 v3 (cols.map colC)) (hg4 : GrowsS s [110] 2 v4 (cuts.map cutC)) :
    ∃ rv, finishR [.cell 2 5 true] args s = some (rv, []) ∧ ∃ m : Mas, view rv = masT m ∧ m.Small ∧ m.fl = 6 ∧ m.cuts.length ≤ 2 ∧ ∀ c ∈ m.cuts, c.rs.length ≤ 5 := by
  obtain ⟨rv, f1, f2⟩ := mas_fin ha hm h2 ho hg1 hg3 hg4
  exact ⟨rv, f1, _, f2, hsm, rfl, hcl2, hcu⟩
theorem master_c (l : List Int) (hl : l.length < 9223372036854775808) : ∃ m : Mas, m.Small ∧ m.fl = 6 ∧ m.cuts.length ≤ 2 ∧ (∀ c ∈ m.cuts, c.rs.length ≤ 5) ∧ Gives mach 14 [.sl (ints .i64 l)] (masT m) := by
  suffices h : ∃ v, (∃ m : Mas, v = masT m ∧ m.Small ∧ m.fl = 6 ∧ m.cuts.length ≤ 2 ∧ ∀ c ∈ m.cuts, c.rs.length ≤ 5) ∧ Gives mach 14 [.sl (ints .i64 l)] v by
    obtain ⟨_, ⟨m, rfl, h1, h2, h3, h4⟩, h5⟩ := h
    exact ⟨m, h1, h2, h3, h4, h5⟩
  refine givesE tab14 rfl ?_
  have at0 : Gives mach 59 [.sl (ints .i64 l), .int .i64 0] (.int .i64 (atN l 0 : Nat)) := at_c l 0 hl (by omega)
  have at1 : Gives mach 59 [.sl (ints .i64 l), .int .i64 1] (.int .i64 (atN l 1 : Nat)) := at_c l 1 hl (by omega)
  have hr0 : binTV false .rem (.int .i64 (atN l 0 : Nat)) (.int .i64 30) = some (.int .i64 ((atN l 0 % 30 : Nat) : Int)) := by rw [bin_rem _ _ _ _ (by decide)]; exact congrArg _ (congrArg _ (rem_nat _ 30))
  have hr1 : binTV false .rem (.int .i64 (atN l 1 : Nat)) (.int .i64 6) = some (.int .i64 ((atN l 1 % 6 : Nat) : Int)) := by rw [bin_rem _ _ _ _ (by decide)]; exact congrArg _ (congrArg _ (rem_nat _ 6))
  have hlt : atN l 1 % 6 < 6 := Nat.mod_lt _ (by omega)
  have hct := rowTab_get _ hlt
  obtain ⟨hr3, hr5⟩ := rowTab_len hlt
  obtain ⟨rows, hrows⟩ : ∃ rows, rows = rowTab.getD (atN l 1 % 6) [] := ⟨_, rfl⟩
  rw [← hrows] at hct hr3 hr5
  have hne : ints .i64 rows ≠ [] := by intro h; rw [← List.length_eq_zero_iff, ints_len] at h; omega
  simp only [F14, tmR, seval, wp_app, apply_app1, apply_new1, wpcall_eq at0, hr0, apply_unew, wpcall_eq at1, hr1, iaddr_hs hlt, hct, app_nils (elems_sl (uni_ints _ _)) hne (by rw [ints_len]; omega), ints_len, unsol_objG, pr_beq, Bool.false_and, Bool.and_false, Bool.true_and, Bool.or_self]
  refine loopMasCols l rows ((atN l 0 % 30 : Nat) : Int) (.hs 29 0 1 rows.length) hl hr3 hr5 ?_ ?_ ?_ ?_ ?_ ?_ ?_ ?_ (fun s v3 cols h0 h2 h3 h4 b2 hg1 b3 hg3 hcl hcs => ?_)
  · simp only [tmD, reduceIte, Nat.reduceEqDiff, Nat.reduceAdd]
  · simp only [tmD, reduceIte, Nat.reduceEqDiff, Nat.reduceAdd]
  · simp only [tmD, reduceIte, Nat.reduceEqDiff, Nat.reduceAdd]
  · simp only [tmD, reduceIte, Nat.reduceEqDiff, Nat.reduceAdd]
  · simp only [tmD, reduceIte, Nat.reduceEqDiff, Nat.reduceAdd]
  · simp only [Box2Z, tmD, reduceIte, Nat.reduceEqDiff, Nat.reduceAdd, unsol_objG, Option.map_some, pr_beq, List.contains_cons, List.contains_nil, Nat.reduceBEq, Bool.false_and, Bool.or_self, Bool.and_false, Bool.false_eq_true]
  · refine .inr ⟨29, 0, { cont := ints .i64 rows, esz := 1, box := false, solo := true, tip := true }, by decide, by rw [ints_len], ?_, ?_, rfl, rfl, rfl, rfl⟩
    · simp only [tmD, reduceIte, Nat.reduceEqDiff, Nat.reduceAdd]; omega
    · simp only [tmD, reduceIte, Nat.reduceEqDiff, Nat.reduceAdd]
  · simp only [BoxG, tmD, reduceIte, Nat.reduceEqDiff, Nat.reduceAdd, unsol_objG, Option.map_some, pr_beq, List.contains_cons, List.contains_nil, Nat.reduceBEq, Bool.false_and, Bool.or_self, Bool.and_false, Bool.false_eq_true]
  · simp only [tmR, seval]
    refine loopMasCuts l rows ((atN l 0 % 30 : Nat) : Int) (.hs 29 0 1 rows.length) v3 cols hl hr3 hr5 ?_ ?_ ?_ ?_ ?_ ?_ ?_ ?_ ?_ (fun s v4 cuts h2 h3 b2 hg1 b3 hg3 hg4 hcl2 hcu => ?_)
    · simp only [tmD, reduceIte, Nat.reduceEqDiff, Nat.reduceAdd, h0]
    · simp only [tmD, reduceIte, Nat.reduceEqDiff, Nat.reduceAdd, h2]
    · simp only [tmD, reduceIte, Nat.reduceEqDiff, Nat.reduceAdd, h3]
    · simp only [tmD, reduceIte, Nat.reduceEqDiff, Nat.reduceAdd, h4]
    · simp only [tmD, reduceIte, Nat.reduceEqDiff, Nat.reduceAdd]
    · simp only [Box2Z, tmD, reduceIte, Nat.reduceEqDiff, Nat.reduceAdd, b2]
    · exact hg1.mono (fun k g hk _ => by simp only [tmD, reduceIte, Nat.reduceEqDiff, Nat.reduceAdd]) (fun k hk => by simp only [tmD, reduceIte, Nat.reduceEqDiff, Nat.reduceAdd]; exact Nat.le_refl _)
    · simp only [BoxG, tmD, reduceIte, Nat.reduceEqDiff, Nat.reduceAdd, b3]
    · exact hg3.mono (fun k g hk _ => by simp only [tmD, reduceIte, Nat.reduceEqDiff, Nat.reduceAdd]) (fun k hk => by simp only [tmD, reduceIte, Nat.reduceEqDiff, Nat.reduceAdd]; exact Nat.le_refl _)
    · have hsm : Mas.Small ⟨6, rows, ((atN l 0 % 30 : Nat) : Int), cols, cuts⟩ := ⟨by show I64 6; unfold I64; omega, by show rows.length < _; omega, by show cols.length < _; omega, by show cuts.length < _; omega, fun c hc => small_ops (hcs c hc), fun c hc => by have := hcu c hc; omega⟩
      obtain ⟨z3, w3⟩ | ⟨k3, g3, o3, e3, w3, r3⟩ := hg3 <;> obtain ⟨z4, w4⟩ | ⟨k4, g4, o4, e4, w4, r4⟩ := hg4
      · subst w3 w4
        simp only [tmR, seval, h2, h3, b2, b3]
        refine mas_fin2 (v1 := .hs 29 0 1 rows.length) (v3 := .nils) (v4 := .nils) hsm hcl2 hcu rfl rfl ?_ ?_ ?_ ?_ ?_
        · simp only [tmD, reduceIte, Nat.reduceEqDiff, Nat.reduceAdd, h2]
        · simp only [tmD, reduceIte, Nat.reduceEqDiff, Nat.reduceAdd]
        · exact hg1.mono (fun k g hk _ => by simp only [List.mem_cons, List.not_mem_nil, or_false] at hk; rcases hk with rfl; simp only [tmD, reduceIte, Nat.reduceEqDiff, Nat.reduceAdd]) (fun k hk => by simp only [tmD, reduceIte, Nat.reduceEqDiff, Nat.reduceAdd]; exact Nat.le_refl _)
        · exact .inl ⟨z3, rfl⟩
        · exact .inl ⟨z4, rfl⟩
      · subst w3 w4
        simp only [tmR, seval, h2, h3, b2, b3]
        refine mas_fin2 (v1 := .hs 29 0 1 rows.length) (v3 := .nils) (v4 := .hs k4 g4 2 (cuts.map cutC).length) hsm hcl2 hcu rfl rfl ?_ ?_ ?_ ?_ ?_
        · simp only [tmD, reduceIte, Nat.reduceEqDiff, Nat.reduceAdd, h2]
        · simp only [tmD, reduceIte, Nat.reduceEqDiff, Nat.reduceAdd]
        · exact hg1.mono (fun k g hk _ => by simp only [List.mem_cons, List.not_mem_nil, or_false] at hk; rcases hk with rfl; simp only [tmD, reduceIte, Nat.reduceEqDiff, Nat.reduceAdd]) (fun k hk => by simp only [tmD, reduceIte, Nat.reduceEqDiff, Nat.reduceAdd]; exact Nat.le_refl _)
        · exact .inl ⟨z3, rfl⟩
        · exact GrowsS.mono (st := s) (.inr ⟨k4, g4, o4, e4, rfl, r4⟩) (fun k g hk _ => by simp only [List.mem_cons, List.not_mem_nil, or_false] at hk; rcases hk with rfl; simp only [tmD, reduceIte, Nat.reduceEqDiff, Nat.reduceAdd]) (fun k hk => by simp only [tmD, reduceIte, Nat.reduceEqDiff, Nat.reduceAdd]; exact Nat.le_refl _)
      · subst w3 w4
        simp only [tmR, seval, h2, h3, b2, b3]
        refine mas_fin2 (v1 := .hs 29 0 1 rows.length) (v3 := .hs k3 g3 3 (cols.map colC).length) (v4 := .nils) hsm hcl2 hcu rfl rfl ?_ ?_ ?_ ?_ ?_
        · simp only [tmD, reduceIte, Nat.reduceEqDiff, Nat.reduceAdd, h2]
        · simp only [tmD, reduceIte, Nat.reduceEqDiff, Nat.reduceAdd]
        · exact hg1.mono (fun k g hk _ => by simp only [List.mem_cons, List.not_mem_nil, or_false] at hk; rcases hk with rfl; simp only [tmD, reduceIte, Nat.reduceEqDiff, Nat.reduceAdd]) (fun k hk => by simp only [tmD, reduceIte, Nat.reduceEqDiff, Nat.reduceAdd]; exact Nat.le_refl _)
        · exact GrowsS.mono (st := s) (.inr ⟨k3, g3, o3, e3, rfl, r3⟩) (fun k g hk _ => by simp only [List.mem_cons, List.not_mem_nil, or_false] at hk; rcases hk with rfl; simp only [tmD, reduceIte, Nat.reduceEqDiff, Nat.reduceAdd]) (fun k hk => by simp only [tmD, reduceIte, Nat.reduceEqDiff, Nat.reduceAdd]; exact Nat.le_refl _)
        · exact .inl ⟨z4, rfl⟩
      · subst w3 w4
        simp only [tmR, seval, h2, h3, b2, b3]
        refine mas_fin2 (v1 := .hs 29 0 1 rows.length) (v3 := .hs k3 g3 3 (cols.map colC).length) (v4 := .hs k4 g4 2 (cuts.map cutC).length) hsm hcl2 hcu rfl rfl ?_ ?_ ?_ ?_ ?_
        · simp only [tmD, reduceIte, Nat.reduceEqDiff, Nat.reduceAdd, h2]
        · simp only [tmD, reduceIte, Nat.reduceEqDiff, Nat.reduceAdd]
        · exact hg1.mono (fun k g hk _ => by simp only [List.mem_cons, List.not_mem_nil, or_false] at hk; rcases hk with rfl; simp only [tmD, reduceIte, Nat.reduceEqDiff, Nat.reduceAdd]) (fun k hk => by simp only [tmD, reduceIte, Nat.reduceEqDiff, Nat.reduceAdd]; exact Nat.le_refl _)
        · exact GrowsS.mono (st := s) (.inr ⟨k3, g3, o3, e3, rfl, r3⟩) (fun k g hk _ => by simp only [List.mem_cons, List.not_mem_nil, or_false] at hk; rcases hk with rfl; simp only [tmD, reduceIte, Nat.reduceEqDiff, Nat.reduceAdd]) (fun k hk => by simp only [tmD, reduceIte, Nat.reduceEqDiff, Nat.reduceAdd]; exact Nat.le_refl _)
        · exact GrowsS.mono (st := s) (.inr ⟨k4, g4, o4, e4, rfl, r4⟩) (fun k g hk _ => by simp only [List.mem_cons, List.not_mem_nil, or_false] at hk; rcases hk with rfl; simp only [tmD, reduceIte, Nat.reduceEqDiff, Nat.reduceAdd]) (fun k hk => by simp only [tmD, reduceIte, Nat.reduceEqDiff, Nat.reduceAdd]; exact Nat.le_refl _)
end Go.TM.Fn
end
section
namespace Go.TM.Fn
open Go Go.TM Go.Plain
set_option linter.unusedVariables false
set_option linter.unusedSimpArgs false
set_option maxRecDepth 20000
set_option maxHeartbeats 4000000
theorem apply_app2 (d k g : Nat) (v : TV) (o : Obj) (o' : Option Obj) (st : St) : apply (some d) { v := v, new := [o], mods := [(k, g, o')] } st = bump (putO (setO st k g o') d v d (st.cnt d) (some o)) d (st.cnt d + 1) := rfl
theorem dig_snoc (ds : List Nat) : dig ds ++ [[TV.int .u32 0]] = dig (ds ++ [0]) := by simp [dig]
theorem times_o {n m : Bool} {ds es : List Nat} {k : Nat} (hd : Dig ds) (he : Dig es) (hl : ds.length ≤ k) (hl2 : es.length ≤ k) (hk : k < 1000) (hk0 : 0 < k) : ∃ z, Di (2 * k) z ∧ call mach 71 [rawI n ds, rawI m es] = some (.agg (ownI z), []) := by
  have i1 := rint_c (n := 1) (by unfold I64; omega)
  have d1 := dq_int (n := 1) (by unfold I64; omega)
  have hone : (((1 : Int) : Rat).num) = 1 := rfl
  have e1 : encQ ((1 : Int) : Rat) = rawQ false [1] false [1] := by
    have h2 : (((1 : Int) : Rat).den) = 1 := rfl
    simp [encF, rawQ, hone, h2, toDig_one]
  rw [e1] at i1
  have q1 : IsQ k (rawQ n ds false [1]) (Rat.divInt (ival n ds) (ival false [1])) := ⟨n, ds, false, [1], rfl, hd, .cons (by decide) .nil, hl, hk0, rfl⟩
  have q2 : IsQ k (rawQ m es false [1]) (Rat.divInt (ival m es) (ival false [1])) := ⟨m, es, false, [1], rfl, he, .cons (by decide) .nil, hl2, hk0, rfl⟩
  have mo := rqmul_o q1 q2 (by omega) hk0 hk0
  have dm := dq_mul (q1.dq hk0) (q2.dq hk0) (by omega)
  generalize Rat.divInt (ival n ds) (ival false [1]) * Rat.divInt (ival m es) (ival false [1]) = q at mo dm
  refine ⟨q.num, dm.1.mono (by omega), givesX tab71 rfl ?_⟩
  by_cases hz : q = 0
  · subst hz
    have e0 : (0 : Rat).num = 0 := rfl
    rw [frO_zero] at mo
    rw [e0, ownI_zero]
    simp only [F71, tmR, seval, wpcall_eq i1, wp_call1a (hc := mo), adopt, retX_norm, retX_ret, tmF]
  · rw [frO_pos hz] at mo
    have hnz : q.num ≠ 0 := by rw [Ne, Rat.num_eq_zero]; exact hz
    rw [ownI_pos hnz]
    simp only [F71, tmR, seval, wpcall_eq i1, wp_call1a (hc := mo), adopt, apply_new2, dig_len, retX_norm, retX_ret, tmF, pr_beq, Bool.false_and, Bool.and_false, Bool.true_and]
def kTab : List Int := [1, -1, 2, 0]
theorem kTab_get : ∀ i, i < 4 → ([[TV.int .i64 1], [TV.int .i64 (-1)], [TV.int .i64 2], [TV.int .i64 0]] : Cont)[i]? = some [TV.int .i64 (kTab.getD i 0)] := by
  intro r h
  match r, h with
  | 0, _ => rfl
  | 1, _ => rfl
  | 2, _ => rfl
  | 3, _ => rfl
theorem kTab_i64 {i : Nat} (h : i < 4) : I64 (kTab.getD i 0) := by
  match i, h with
  | 0, _ => unfold I64 kTab; decide
  | 1, _ => unfold I64 kTab; decide
  | 2, _ => unfold I64 kTab; decide
  | 3, _ => unfold I64 kTab; decide
theorem wild_ex (n : Int) : ∃ (a : Bool) (ds : List Nat) (b : Bool) (es : List Nat), Dig ds ∧ Dig es ∧ ds.length ≤ 100 ∧ es.length ≤ 100 ∧ Gives mach 18 [.int .i64 n] (rawQ a ds b es) := by
  suffices h : ∃ v, (∃ (a : Bool) (ds : List Nat) (b : Bool) (es : List Nat), v = rawQ a ds b es ∧ Dig ds ∧ Dig es ∧ ds.length ≤ 100 ∧ es.length ≤ 100) ∧ Gives mach 18 [.int .i64 n] v by
    obtain ⟨_, ⟨a, ds, b, es, rfl, h1, h2, h3, h4⟩, h5⟩ := h
    exact ⟨a, ds, b, es, h1, h2, h3, h4, h5⟩
  refine givesE tab18 rfl ?_
  have f := frac_c n
  have df := fracQ_dq n
  have hs6 := fun b kk => bin_shr_i64 b kk n 6 (by decide)
  have hs8 := fun b kk => bin_shr_i64 b kk n 8 (by decide)
  generalize n.fdiv (2 ^ (min (Int.toNat 6) 64)) = t6 at hs6
  generalize n.fdiv (2 ^ (min (Int.toNat 8) 64)) = t8 at hs8
  have h3 := andm_le t6 3
  have hi : andm t6 3 < 4 := by omega
  have hk := rint_c (kTab_i64 hi)
  have dk := dq_int (kTab_i64 hi)
  obtain ⟨z1, dz1, c1⟩ := times_o (n := decide ((fracQ n).num < 0)) (m := decide ((((kTab.getD (andm t6 3) 0 : Int) : Rat)).num < 0)) (dig_toDig (fracQ n).num.natAbs) (dig_toDig (((kTab.getD (andm t6 3) 0 : Int) : Rat)).num.natAbs) (k := 4) (toDig_len_le df.1) (toDig_len_le (dk.1.mono (by omega))) (by omega) (by omega)
  obtain ⟨z2, dz2, c2⟩ := times_o (n := decide (((fracQ n).den : Int) < 0)) (m := decide ((((kTab.getD (andm t6 3) 0 : Int) : Rat)).num < 0)) (dig_toDig ((fracQ n).den : Int).natAbs) (dig_toDig (((kTab.getD (andm t6 3) 0 : Int) : Rat)).num.natAbs) (k := 4) (toDig_len_le df.2) (toDig_len_le (dk.1.mono (by omega))) (by omega) (by omega)
  have g := kTab_get _ hi
  generalize kTab.getD (andm t6 3) 0 = kv at *
  have l1 := toDig_len_le dz1
  have l2 := toDig_len_le dz2
  have lb1 : ((toDig z1.natAbs).length + 1 < 2147483648) = True := eq_true (by omega)
  have lb2 : ((toDig z2.natAbs).length + 1 < 2147483648) = True := eq_true (by omega)
  have t1 : List.take (toDig z1.natAbs).length (dig (toDig z1.natAbs)) = dig (toDig z1.natAbs) := List.take_of_length_le (by rw [dig_len]; exact Nat.le_refl _)
  have t2 : List.take (toDig z2.natAbs).length (dig (toDig z2.natAbs)) = dig (toDig z2.natAbs) := List.take_of_length_le (by rw [dig_len]; exact Nat.le_refl _)
  have t3 : List.take ((toDig z1.natAbs).length + 1) (dig (toDig z1.natAbs ++ [0])) = dig (toDig z1.natAbs ++ [0]) := List.take_of_length_le (by rw [dig_len]; simp)
  have t4 : List.take ((toDig z2.natAbs).length + 1) (dig (toDig z2.natAbs ++ [0])) = dig (toDig z2.natAbs ++ [0]) := List.take_of_length_le (by rw [dig_len]; simp)
  have dz : Dig [0] := .cons (by decide) .nil
  by_cases hz1 : z1 = 0
  · by_cases hz2 : z2 = 0
    · by_cases h8 : (andm t8 3 : Int) = 3
      · rw [hz1, ownI_zero] at c1
        rw [hz2, ownI_zero] at c2
        simp only [F18, tmR, seval, wpcall_eq f, hs6, and3, iaddr_hs hi, g, wpcall_eq hk, wp_call1a (hc := c1), wp_call1a (hc := c2), adopt, apply_new1, dig_len, hs8, h8, wp_app, appE, elems, apply_app2, uni, lb1, lb2, reduceCtorEq, false_implies, forall_const, t1, t2, t3, t4, dig_snoc, List.length_append, tmF, pr_beq, Bool.false_and, Bool.and_false, Bool.true_and]
        exact ⟨false, [0], false, [0], rfl, dz, dz, by simp, by simp⟩
      · rw [hz1, ownI_zero] at c1
        rw [hz2, ownI_zero] at c2
        simp only [F18, tmR, seval, wpcall_eq f, hs6, and3, iaddr_hs hi, g, wpcall_eq hk, wp_call1a (hc := c1), wp_call1a (hc := c2), adopt, apply_new1, dig_len, hs8, h8, wp_app, appE, elems, apply_app2, uni, lb1, lb2, reduceCtorEq, false_implies, forall_const, t1, t2, t3, t4, dig_snoc, List.length_append, tmF, pr_beq, Bool.false_and, Bool.and_false, Bool.true_and]
        exact ⟨false, [], false, [], rfl, .nil, .nil, by simp, by simp⟩
    · by_cases h8 : (andm t8 3 : Int) = 3
      · rw [hz1, ownI_zero] at c1
        rw [ownI_pos hz2] at c2
        simp only [F18, tmR, seval, wpcall_eq f, hs6, and3, iaddr_hs hi, g, wpcall_eq hk, wp_call1a (hc := c1), wp_call1a (hc := c2), adopt, apply_new1, dig_len, hs8, h8, wp_app, appE, elems, apply_app2, uni, lb1, lb2, reduceCtorEq, false_implies, forall_const, t1, t2, t3, t4, dig_snoc, List.length_append, tmF, pr_beq, Bool.false_and, Bool.and_false, Bool.true_and]
        exact ⟨false, [0], (decide (z2 < 0)), (toDig z2.natAbs ++ [0]), rfl, dz, ((dig_toDig _).app dz), by simp, by (try simp); omega⟩
      · rw [hz1, ownI_zero] at c1
        rw [ownI_pos hz2] at c2
        simp only [F18, tmR, seval, wpcall_eq f, hs6, and3, iaddr_hs hi, g, wpcall_eq hk, wp_call1a (hc := c1), wp_call1a (hc := c2), adopt, apply_new1, dig_len, hs8, h8, wp_app, appE, elems, apply_app2, uni, lb1, lb2, reduceCtorEq, false_implies, forall_const, t1, t2, t3, t4, dig_snoc, List.length_append, tmF, pr_beq, Bool.false_and, Bool.and_false, Bool.true_and]
        exact ⟨false, [], (decide (z2 < 0)), (toDig z2.natAbs), rfl, .nil, (dig_toDig _), by simp, by (try simp); omega⟩
  · by_cases hz2 : z2 = 0
    · by_cases h8 : (andm t8 3 : Int) = 3
      · rw [ownI_pos hz1] at c1
        rw [hz2, ownI_zero] at c2
        simp only [F18, tmR, seval, wpcall_eq f, hs6, and3, iaddr_hs hi, g, wpcall_eq hk, wp_call1a (hc := c1), wp_call1a (hc := c2), adopt, apply_new1, dig_len, hs8, h8, wp_app, appE, elems, apply_app2, uni, lb1, lb2, reduceCtorEq, false_implies, forall_const, t1, t2, t3, t4, dig_snoc, List.length_append, tmF, pr_beq, Bool.false_and, Bool.and_false, Bool.true_and]
        exact ⟨(decide (z1 < 0)), (toDig z1.natAbs ++ [0]), false, [0], rfl, ((dig_toDig _).app dz), dz, by (try simp); omega, by simp⟩
      · rw [ownI_pos hz1] at c1
        rw [hz2, ownI_zero] at c2
        simp only [F18, tmR, seval, wpcall_eq f, hs6, and3, iaddr_hs hi, g, wpcall_eq hk, wp_call1a (hc := c1), wp_call1a (hc := c2), adopt, apply_new1, dig_len, hs8, h8, wp_app, appE, elems, apply_app2, uni, lb1, lb2, reduceCtorEq, false_implies, forall_const, t1, t2, t3, t4, dig_snoc, List.length_append, tmF, pr_beq, Bool.false_and, Bool.and_false, Bool.true_and]
        exact ⟨(decide (z1 < 0)), (toDig z1.natAbs), false, [], rfl, (dig_toDig _), .nil, by (try simp); omega, by simp⟩
    · by_cases h8 : (andm t8 3 : Int) = 3
      · rw [ownI_pos hz1] at c1
        rw [ownI_pos hz2] at c2
        simp only [F18, tmR, seval, wpcall_eq f, hs6, and3, iaddr_hs hi, g, wpcall_eq hk, wp_call1a (hc := c1), wp_call1a (hc := c2), adopt, apply_new1, dig_len, hs8, h8, wp_app, appE, elems, apply_app2, uni, lb1, lb2, reduceCtorEq, false_implies, forall_const, t1, t2, t3, t4, dig_snoc, List.length_append, tmF, pr_beq, Bool.false_and, Bool.and_false, Bool.true_and]
        exact ⟨(decide (z1 < 0)), (toDig z1.natAbs ++ [0]), (decide (z2 < 0)), (toDig z2.natAbs ++ [0]), rfl, ((dig_toDig _).app dz), ((dig_toDig _).app dz), by (try simp); omega, by (try simp); omega⟩
      · rw [ownI_pos hz1] at c1
        rw [ownI_pos hz2] at c2
        simp only [F18, tmR, seval, wpcall_eq f, hs6, and3, iaddr_hs hi, g, wpcall_eq hk, wp_call1a (hc := c1), wp_call1a (hc := c2), adopt, apply_new1, dig_len, hs8, h8, wp_app, appE, elems, apply_app2, uni, lb1, lb2, reduceCtorEq, false_implies, forall_const, t1, t2, t3, t4, dig_snoc, List.length_append, tmF, pr_beq, Bool.false_and, Bool.and_false, Bool.true_and]
        exact ⟨(decide (z1 < 0)), (toDig z1.natAbs), (decide (z2 < 0)), (toDig z2.natAbs), rfl, (dig_toDig _), (dig_toDig _), by (try simp); omega, by (try simp); omega⟩
end Go.TM.Fn
end
section
namespace Go.TM
variable {M : Mach}
def stepF (cl : Nat → List TV → Option Res) (o : TStep) (st : St) : Option St :=
  match wantedT st.env o.guard with
  | none => none
  | some false => some (apply o.dst { v := .tup [] } st)
  | some true => match ev o.op (o.dst.getD 0) (st.cnt (o.dst.getD 0)) (val st.env) (restrict st.obj o.vk) with
    | none => none
    | some (.eff e) => some (apply o.dst e st)
    | some (.cal f vs k) => match cl f vs with
      | none => none
      | some r => match k r with
        | none => none
        | some e => some (apply o.dst e st)
def opsF (cl : Nat → List TV → Option Res) : List TStep → St → Option St
  | [], st => some st
  | o :: r, st => match stepF cl o st with
    | none => none
    | some s => opsF cl r s
def exF (cl : Nat → List TV → Option Res) : Nat → TCode → St → Option (Ex × St)
  | 0, _, _ => none
  | n + 1, c, st => match c with
    | .skip => some (.norm, st)
    | .reg ops => match opsF cl ops st with
      | none => none
      | some s => some (.norm, s)
    | .seq a b => match exF cl n a st with
      | none => none
      | some (.norm, s) => exF cl n b s
      | some (e, s) => some (e, s)
    | .cond x a b => match val st.env x with
      | .bool true => exF cl n a st
      | .bool false => exF cl n b st
      | _ => none
    | .block id a => match exF cl n a st with
      | none => none
      | some (e, s) => some (if e = .exit id then .norm else e, s)
    | .loop a => match exF cl n a st with
      | none => none
      | some (.norm, s) => exF cl n (.loop a) s
      | some (e, s) => some (e, s)
    | .exit id => some (.exit id, st)
    | .ret => some (.ret, st)
def callF (M : Mach) (k : Nat) : Nat → Nat → List TV → Option Res
  | 0, _, _ => none
  | n + 1, f, args => match M.tab f with
    | none => none
    | some F => if F.np = args.length then match exF (callF M k n) k F.body (initSt args) with
        | some (.norm, s) => finish F args s
        | some (.ret, s) => finish F args s
        | _ => none
      else none
theorem stepF_ok {cl} (hc : ∀ f args r, cl f args = some r → call M f args = some r) {o st s} (h : stepF cl o st = some s) : exec1 M o st = some s := by
  rw [exec1_eq]
  unfold stepF at h
  cases hw : wantedT st.env o.guard with
  | none => rw [hw] at h; cases h
  | some w =>
    rw [hw] at h
    cases w with
    | false => exact h
    | true =>
      simp only [] at h ⊢
      cases he : ev o.op (o.dst.getD 0) (st.cnt (o.dst.getD 0)) (val st.env) (restrict st.obj o.vk) with
      | none => rw [he] at h; cases h
      | some e =>
        rw [he] at h
        cases e with
        | eff e => exact h
        | cal f vs k =>
          simp only [Option.bind_some] at h ⊢
          cases hcl : cl f vs with
          | none => rw [hcl] at h; cases h
          | some r =>
            rw [hcl] at h; rw [hc _ _ _ hcl]
            simp only [Option.bind_some] at h ⊢
            cases hk : k r with
            | none => rw [hk] at h; cases h
            | some e => rw [hk] at h; exact h
theorem opsF_ok {cl} (hc : ∀ f args r, cl f args = some r → call M f args = some r) : ∀ {ops st s}, opsF cl ops st = some s → execOps M ops st = some s
  | [], st, s, h => by rw [ops_nil]; exact h
  | o :: r, st, s, h => by
    unfold opsF at h
    cases h1 : stepF cl o st with
    | none => rw [h1] at h; cases h
    | some s1 =>
      rw [h1] at h
      rw [ops_cons, stepF_ok hc h1]
      exact opsF_ok hc h
theorem exF_ok {cl} (hc : ∀ f args r, cl f args = some r → call M f args = some r) : ∀ n {c st p}, exF cl n c st = some p → exec M c st = some p
  | 0, _, _, _, h => by cases h
  | n + 1, c, st, p, h => by
    cases c with
    | skip => rw [exec_skip]; exact h
    | reg ops =>
      simp only [exF] at h
      cases h1 : opsF cl ops st with
      | none => rw [h1] at h; cases h
      | some s => rw [h1] at h; rw [exec_reg, opsF_ok hc h1]; exact h
    | seq a b =>
      simp only [exF] at h
      cases h1 : exF cl n a st with
      | none => rw [h1] at h; cases h
      | some q =>
        obtain ⟨e, s⟩ := q
        rw [h1] at h
        rw [exec_seq, exF_ok hc n h1]
        cases e with
        | norm => exact exF_ok hc n h
        | exit i => exact h
        | ret => exact h
    | cond x a b =>
      simp only [exF] at h
      rw [exec_cond]
      cases hx : val st.env x <;> rw [hx] at h <;> try cases h
      rename_i b'; cases b'
      · exact exF_ok hc n h
      · exact exF_ok hc n h
    | block id a =>
      simp only [exF] at h
      cases h1 : exF cl n a st with
      | none => rw [h1] at h; cases h
      | some q => rw [h1] at h; rw [exec_block, exF_ok hc n h1]; exact h
    | loop a =>
      simp only [exF] at h
      cases h1 : exF cl n a st with
      | none => rw [h1] at h; cases h
      | some q =>
        obtain ⟨e, s⟩ := q
        rw [h1] at h
        rw [exec_loop, exF_ok hc n h1]
        cases e with
        | norm => exact exF_ok hc n h
        | exit i => exact h
        | ret => exact h
    | exit i => rw [exec_exit]; exact h
    | ret => rw [exec_ret]; exact h
theorem callF_ok {k : Nat} : ∀ n {f args r}, callF M k n f args = some r → call M f args = some r
  | 0, _, _, _, h => by cases h
  | n + 1, f, args, r, h => by
    unfold callF at h
    cases hF : M.tab f with
    | none => rw [hF] at h; cases h
    | some F =>
      rw [hF] at h
      simp only [] at h
      split at h
      · rename_i hn
        rw [call_eq hF args hn]
        cases h1 : exF (callF M k n) k F.body (initSt args) with
        | none => rw [h1] at h; cases h
        | some q =>
          obtain ⟨e, s⟩ := q
          rw [h1] at h
          rw [exF_ok (fun f a r hh => callF_ok n hh) k h1]
          cases e with
          | norm => exact h
          | ret => exact h
          | exit i => cases h
      · cases h
end Go.TM
namespace Go.TM.Fn
open Go Go.TM Go.Plain
theorem ceil_known : call mach 25 [.agg [.bool true, .sl [[.int .u32 7]], .bool false, .sl [[.int .u32 2]]]] = some (.tup [.int .i64 (-3), .int .i64 0], []) := callF_ok (k := 200) 30 (by kernel_rfl)
end Go.TM.Fn
end
section
namespace Go.TM.Fn
open Go Go.TM
theorem known_o : call mach 21 [] = some (.bool true, []) := callF_ok (k := 400) 60 (by kernel_rfl)
end Go.TM.Fn
end
section
namespace Go.TM.Fn
open Go Go.TM Go.Plain
set_option linter.unusedVariables false
set_option linter.unusedSimpArgs false
set_option maxRecDepth 20000
set_option maxHeartbeats 4000000
def rqOf (q : Rat) : RQ := ⟨decide (q.num < 0), toDig q.num.natAbs, decide ((q.den : Int) < 0), toDig (q.den : Int).natAbs⟩
theorem rqOf_ok {k q} (h : Dq k q) : RQ.Ok k (rqOf q) := ⟨dig_toDig _, dig_toDig _, toDig_len_le h.1, toDig_len_le h.2⟩
abbrev P2 (s : St) (m : Mas) : Prop := s.obj 2 0 = some { cont := [masL m], esz := 5, box := true, solo := true, tip := false }
abbrev P4 (s : St) : Prop := s.obj 4 0 = some { cont := [[.nils, .nils, .nils, .nils, .bool false]], esz := 5, box := true, solo := true, tip := false }
abbrev P5 (s : St) (v0 v1 v2 v3 : TV) : Prop := s.obj 5 0 = some { cont := [[v0, v1, v2, v3, .bool false]], esz := 5, box := true, solo := true, tip := false }
theorem loopPri0 {Q : Ex → St → Prop} {st : St} (m : Mas) (a : List Int) (hm : m.fl = 6) (ha : a.length < 9223372036854775808)
    (h1 : st.env 1 = .sl (ints .i64 a)) (h2 : st.env 2 = .ptr 2 0 0 0) (h4 : st.env 4 = .ptr 4 0 0 0) (h5 : st.env 5 = .ptr 5 0 0 0) (h6 : st.env 6 = .int .i64 0) (b2 : P2 st m) (b4 : P4 st) (b5 : P5 st .nils .nils .nils .nils)
    (hQ : ∀ (s : St) (v : TV) (fls : List RQ), s.env 1 = .sl (ints .i64 a) → s.env 2 = .ptr 2 0 0 0 → s.env 4 = .ptr 4 0 0 0 → s.env 5 = .ptr 5 0 0 0 → P2 s m → P4 s → P5 s v .nils .nils .nils → GrowsS s [26] 4 v (fls.map rqC) → fls.length = 6 → (∀ r ∈ fls, RQ.Ok 10 r) → Q (.exit 0) s) :
    Goes mach (.loop L15_0) Q st := by
  have i3 := rint_c (n := 3) (by unfold I64; omega)
  have d3 := dq_int (n := 3) (by unfold I64; omega)
  refine wp_for (fun i s => s.env 1 = .sl (ints .i64 a) ∧ s.env 2 = .ptr 2 0 0 0 ∧ s.env 4 = .ptr 4 0 0 0 ∧ s.env 5 = .ptr 5 0 0 0 ∧ s.env 6 = .int .i64 (i : Nat) ∧ P2 s m ∧ P4 s ∧ ∃ (v : TV) (fls : List RQ), P5 s v .nils .nils .nils ∧ GrowsS s [26] 4 v (fls.map rqC) ∧ fls.length = i ∧ ∀ r ∈ fls, RQ.Ok 10 r) 6 ?_ ?_ 6 0 _ (by omega) ?_
  · rintro i s hi ⟨h1, h2, h4, h5, h6, b2, b4, v, fls, b5, hg, hfl, hok⟩
    have hw : IntKind.i64.wrap ((i + 1 : Nat) : Int) = (i + 1 : Nat) := wrap_i64n (by omega)
    have hlt : ((i : Int) < 6) = True := eq_true (by omega)
    have ai := at_c a i ha (by omega)
    have fr := frac_c (atN a i : Nat)
    have mu := rqmul_c (isQ_enc d3) (isQ_enc (fracQ_dq (atN a i : Nat))) (by omega) (by omega) (by omega)
    have dm := dq_mul d3 (fracQ_dq (atN a i : Nat)) (by omega)
    generalize hq : ((3 : Int) : Rat) * fracQ (atN a i : Nat) = q at mu dm
    simp only [L15_0, tmR, seval, h1, h2, h4, h5, h6, b2, hm, hlt, b5, wpcall_eq i3, wpcall_eq ai, wpcall_eq fr, wpcall_eq mu]
    refine wp_growS [26] 26 (by decide) (.fb []) _ _ _ _ _ _ (xs := fls.map rqC) (zs := [rqC (rqOf q)]) ?_ (fun k g => rfl) ?_ (by simp) (by simp; omega) ?_
    · simp only [tmR, seval]
      exact hg.mono (fun k g hk _ => by simp only [List.mem_cons, List.not_mem_nil, or_false] at hk; rcases hk with rfl; simp only [tmD, reduceIte, Nat.reduceEqDiff, Nat.reduceAdd]) (fun k hk => by simp only [List.mem_cons, List.not_mem_nil, or_false] at hk; rcases hk with rfl; simp only [tmD, reduceIte, Nat.reduceEqDiff, Nat.reduceAdd]; exact Nat.le_refl _)
    · simp only [tmR, seval, elems]; rfl
    · intro st' v' henv hobj hcnt hg'
      have ho2 := hobj 2 0 (by decide)
      have ho4 := hobj 4 0 (by decide)
      have ho5 := hobj 5 0 (by decide)
      simp only [tmD, reduceIte, Nat.reduceEqDiff, Nat.reduceAdd, b2] at ho2
      simp only [tmD, reduceIte, Nat.reduceEqDiff, Nat.reduceAdd, b4] at ho4
      simp only [tmD, reduceIte, Nat.reduceEqDiff, Nat.reduceAdd, b5] at ho5
      have em : fls.map rqC ++ [rqC (rqOf q)] = (fls ++ [rqOf q]).map rqC := by simp
      rw [em] at hg'
      have hcl := hg'.cells
      simp only [tmR, seval, henv, h1, h2, h4, h5, h6, ho5, hcl, nat_add_one, hw, P2, ho2, P4, ho4, P5]
      refine ⟨v', fls ++ [rqOf q], rfl, hg'.mono (fun k g hk _ => by simp only [List.mem_cons, List.not_mem_nil, or_false] at hk; rcases hk with rfl; simp only [tmD, reduceIte, Nat.reduceEqDiff, Nat.reduceAdd]) (fun k hk => by simp only [tmD, reduceIte, Nat.reduceEqDiff, Nat.reduceAdd]; exact Nat.le_refl _), by simp [hfl], fun x hx => ?_⟩
      rcases List.mem_append.1 hx with h | h
      · exact hok x h
      · simp only [List.mem_singleton] at h; subst h; exact rqOf_ok (dm.mono (by omega))
  · rintro s ⟨h1, h2, h4, h5, h6, b2, b4, v, fls, b5, hg, hfl, hok⟩
    have hlt : (((6 : Nat) : Int) < 6) = False := eq_false (by omega)
    simp only [L15_0, tmR, seval, h2, h6, b2, hm, hlt]
    exact hQ _ v fls h1 h2 h4 h5 b2 b4 b5 (hg.mono (fun k g hk _ => by simp only [tmD, reduceIte, Nat.reduceEqDiff, Nat.reduceAdd]) (fun k hk => by simp only [tmD, reduceIte, Nat.reduceEqDiff, Nat.reduceAdd]; exact Nat.le_refl _)) hfl hok
  · exact ⟨h1, h2, h4, h5, h6, b2, b4, .nils, [], b5, .inl ⟨rfl, rfl⟩, rfl, fun r hr => by cases hr⟩
end Go.TM.Fn
end
section
namespace Go.TM.Fn
open Go Go.TM Go.Plain
set_option linter.unusedVariables false
set_option linter.unusedSimpArgs false
set_option maxRecDepth 20000
set_option maxHeartbeats 4000000
def GrowsC (st : St) (d e : Nat) (v : TV) (xs : Cont) : Prop :=
  (xs = [] ∧ v = .nils) ∨ ∃ g, v = .hs d g e xs.length ∧ g < st.cnt d ∧ st.obj d g = some { cont := xs, esz := e, box := false, solo := true, tip := true }
theorem GrowsC.mono {st st' : St} {d e v xs} (h : GrowsC st d e v xs) (ho : ∀ g, g < st.cnt d → st'.obj d g = st.obj d g) (hc : st.cnt d ≤ st'.cnt d) : GrowsC st' d e v xs := by
  rcases h with h | ⟨g, h1, h2, h3⟩
  · exact .inl h
  · exact .inr ⟨g, h1, Nat.lt_of_lt_of_le h2 hc, by rw [ho g h2]; exact h3⟩
theorem GrowsC.cells {st d e v xs} (h : GrowsC st d e v xs) : v.cells = [v] := by
  rcases h with ⟨rfl, rfl⟩ | ⟨g, rfl, _⟩ <;> rfl
theorem wp_growC {M : Mach} (d : Nat) (vk : Vk) (r : List TStep) (Q : St → Prop) (st : St) (e s x) {xs zs} (hs : GrowsC st d e (Go.TM.val st.env s) xs) (hv : ∀ k g, restrict st.obj vk k g = st.obj k g) (hx : Go.TM.elems (restrict st.obj vk) e (Go.TM.val st.env x) = some zs) (hz : zs ≠ []) (hl : xs.length + zs.length < 2147483648)
    (hQ : ∀ st' v, (∀ i, st'.env i = if i = d then v else st.env i) → (∀ k g, k ≠ d → st'.obj k g = st.obj k g) → (∀ k, k ≠ d → st'.cnt k = st.cnt k) → GrowsC st' d e v (xs ++ zs) → Wp M r Q st') :
    Wp M (⟨some d, .app e true s x, none, vk⟩ :: r) Q st := by
  rw [wp_app]
  rcases hs with ⟨rfl, hs⟩ | ⟨g, hs, hg, ho⟩
  · rw [hs, app_nils hx hz (by simpa using hl), wpeff_some, apply_new1]
    refine hQ _ (.hs d (st.cnt d) e zs.length) (fun i => rfl) (fun k g hk => ?_) (fun k hk => ?_) (.inr ⟨st.cnt d, rfl, ?_, ?_⟩)
    · simp only [bump_obj, putO_obj]; rw [if_neg (by rintro ⟨rfl, _⟩; exact hk rfl)]
    · simp only [bump_cnt, putO_cnt]; rw [if_neg hk]
    · simp only [bump_cnt]; simp
    · simp only [bump_obj, putO_obj]; simp
  · rw [hs]
    have ho' : restrict st.obj vk d g = some { cont := xs, esz := e, box := false, solo := true, tip := true } := by rw [hv]; exact ho
    rw [app_hs hx ho' rfl rfl rfl rfl rfl hl, wpeff_some, apply_app1]
    refine hQ _ (.hs d (st.cnt d) e (xs.length + zs.length)) (fun i => rfl) (fun k g' hk => ?_) (fun k hk => ?_) (.inr ⟨st.cnt d, by rw [List.length_append], ?_, ?_⟩)
    · simp only [bump_obj, putO_obj, setO_obj]; rw [if_neg (by rintro ⟨rfl, _⟩; exact hk rfl), if_neg (by rintro ⟨rfl, _⟩; exact hk rfl)]
    · simp only [bump_cnt, putO_cnt, setO_cnt]; rw [if_neg hk]
    · simp only [bump_cnt, setO_cnt]; simp
    · simp only [bump_obj, putO_obj]; simp
theorem loopPri1 {Q : Ex → St → Prop} {st : St} (m : Mas) (a : List Int) (hcu : m.cuts.length ≤ 2) (ha : a.length < 9223372036854775808) (fls : List RQ) (v : TV)
    (h1 : st.env 1 = .sl (ints .i64 a)) (h2 : st.env 2 = .ptr 2 0 0 0) (h4 : st.env 4 = .ptr 4 0 0 0) (h5 : st.env 5 = .ptr 5 0 0 0) (h7 : st.env 7 = .int .i64 0) (b2 : P2 st m) (b4 : P4 st) (b5 : P5 st v (.sl (m.cuts.map cutC)) .nils .nils) (hg0 : GrowsS st [26] 4 v (fls.map rqC))
    (hQ : ∀ (s : St) (w : TV) (duals : List RQ), s.env 1 = .sl (ints .i64 a) → s.env 4 = .ptr 4 0 0 0 → s.env 5 = .ptr 5 0 0 0 → P4 s → P5 s v (.sl (m.cuts.map cutC)) w .nils → GrowsS s [26] 4 v (fls.map rqC) → GrowsC s 52 4 w (duals.map rqC) → duals.length = m.cuts.length → (∀ r ∈ duals, RQ.Ok 10 r) → Q (.exit 2) s) :
    Goes mach (.loop L15_1) Q st := by
  have l1 : (m.cuts.map cutC).length = m.cuts.length := map_len _
  refine wp_for (fun i s => s.env 1 = .sl (ints .i64 a) ∧ s.env 2 = .ptr 2 0 0 0 ∧ s.env 4 = .ptr 4 0 0 0 ∧ s.env 5 = .ptr 5 0 0 0 ∧ s.env 7 = .int .i64 (i : Nat) ∧ P2 s m ∧ P4 s ∧ GrowsS s [26] 4 v (fls.map rqC) ∧ ∃ (w : TV) (duals : List RQ), P5 s v (.sl (m.cuts.map cutC)) w .nils ∧ GrowsC s 52 4 w (duals.map rqC) ∧ duals.length = i ∧ ∀ r ∈ duals, RQ.Ok 10 r) m.cuts.length ?_ ?_ m.cuts.length 0 _ (by omega) ?_
  · rintro i s hi ⟨h1, h2, h4, h5, h7, b2, b4, hg0, w, duals, b5, hg, hfl, hok⟩
    have hw : IntKind.i64.wrap ((i + 1 : Nat) : Int) = (i + 1 : Nat) := wrap_i64n (by omega)
    have hw10 : IntKind.i64.wrap (10 + (i : Int)) = ((10 + i : Nat) : Int) := by rw [wrap_i64 (by omega) (by omega)]; omega
    have ai := at_c a (10 + i) ha (by omega)
    have fr := frac_c (atN a (10 + i) : Nat)
    have df := fracQ_dq (atN a (10 + i) : Nat)
    generalize fracQ (atN a (10 + i) : Nat) = q at fr df
    have sg := rqsign_c (isQ_enc df) (by omega) (by omega)
    have ng := rqneg_c (isQ_enc df) (by omega) (by omega)
    by_cases hp : 0 < sgq q
    · simp only [L15_1, tmR, seval, h1, h2, h4, h5, h7, b2, l1, nat_lt, hi, hw10, wpcall_eq ai, wpcall_eq fr, wpcall_eq sg, hp, wpcall_eq ng, b5]
      refine wp_growC 52 .full _ _ _ _ _ _ (xs := duals.map rqC) (zs := [rqC (rqOf (-q))]) ?_ (fun k g => rfl) ?_ (by simp) (by simp; omega) ?_
      · simp only [tmR, seval]
        exact hg.mono (fun g _ => by simp only [tmD, reduceIte, Nat.reduceEqDiff, Nat.reduceAdd]) (by simp only [tmD, reduceIte, Nat.reduceEqDiff, Nat.reduceAdd]; exact Nat.le_refl _)
      · simp only [tmR, seval, elems]; rfl
      · intro st' v' henv hobj hcnt hg'
        have ho2 := hobj 2 0 (by decide)
        have ho4 := hobj 4 0 (by decide)
        have ho5 := hobj 5 0 (by decide)
        simp only [tmD, reduceIte, Nat.reduceEqDiff, Nat.reduceAdd, b2] at ho2
        simp only [tmD, reduceIte, Nat.reduceEqDiff, Nat.reduceAdd, b4] at ho4
        simp only [tmD, reduceIte, Nat.reduceEqDiff, Nat.reduceAdd, b5] at ho5
        have em : duals.map rqC ++ [rqC (rqOf (-q))] = (duals ++ [rqOf (-q)]).map rqC := by simp
        rw [em] at hg'
        have hcl := hg'.cells
        have hg0' : GrowsS st' [26] 4 v (fls.map rqC) := hg0.mono (fun k g hk _ => by
          have e := hobj k g (by simp only [List.mem_cons, List.not_mem_nil, or_false] at hk; omega)
          simp only [List.mem_cons, List.not_mem_nil, or_false] at hk
          rw [e]; rcases hk with rfl; simp only [tmD, reduceIte, Nat.reduceEqDiff, Nat.reduceAdd]) (fun k hk => by
          have e := hcnt k (by simp only [List.mem_cons, List.not_mem_nil, or_false] at hk; omega)
          simp only [List.mem_cons, List.not_mem_nil, or_false] at hk
          rw [e]; rcases hk with rfl; simp only [tmD, reduceIte, Nat.reduceEqDiff, Nat.reduceAdd]; exact Nat.le_refl _)
        simp only [tmR, seval, henv, h1, h2, h4, h5, h7, ho5, hcl, nat_add_one, hw, P2, ho2, P4, ho4, P5]
        refine ⟨hg0'.mono (fun k g hk _ => by simp only [List.mem_cons, List.not_mem_nil, or_false] at hk; rcases hk with rfl; simp only [tmD, reduceIte, Nat.reduceEqDiff, Nat.reduceAdd]) (fun k hk => by simp only [tmD, reduceIte, Nat.reduceEqDiff, Nat.reduceAdd]; exact Nat.le_refl _), v', duals ++ [rqOf (-q)], rfl, hg'.mono (fun g _ => by simp only [tmD, reduceIte, Nat.reduceEqDiff, Nat.reduceAdd]) (by simp only [tmD, reduceIte, Nat.reduceEqDiff, Nat.reduceAdd]; exact Nat.le_refl _), by simp [hfl], fun x hx => ?_⟩
        rcases List.mem_append.1 hx with h | h
        · exact hok x h
        · simp only [List.mem_singleton] at h; subst h; exact rqOf_ok (df.neg.mono (by omega))
    · simp only [L15_1, tmR, seval, h1, h2, h4, h5, h7, b2, l1, nat_lt, hi, hw10, wpcall_eq ai, wpcall_eq fr, wpcall_eq sg, hp, b5]
      refine wp_growC 52 .full _ _ _ _ _ _ (xs := duals.map rqC) (zs := [rqC (rqOf (q))]) ?_ (fun k g => rfl) ?_ (by simp) (by simp; omega) ?_
      · simp only [tmR, seval]
        exact hg.mono (fun g _ => by simp only [tmD, reduceIte, Nat.reduceEqDiff, Nat.reduceAdd]) (by simp only [tmD, reduceIte, Nat.reduceEqDiff, Nat.reduceAdd]; exact Nat.le_refl _)
      · simp only [tmR, seval, elems]; rfl
      · intro st' v' henv hobj hcnt hg'
        have ho2 := hobj 2 0 (by decide)
        have ho4 := hobj 4 0 (by decide)
        have ho5 := hobj 5 0 (by decide)
        simp only [tmD, reduceIte, Nat.reduceEqDiff, Nat.reduceAdd, b2] at ho2
        simp only [tmD, reduceIte, Nat.reduceEqDiff, Nat.reduceAdd, b4] at ho4
        simp only [tmD, reduceIte, Nat.reduceEqDiff, Nat.reduceAdd, b5] at ho5
        have em : duals.map rqC ++ [rqC (rqOf (q))] = (duals ++ [rqOf (q)]).map rqC := by simp
        rw [em] at hg'
        have hcl := hg'.cells
        have hg0' : GrowsS st' [26] 4 v (fls.map rqC) := hg0.mono (fun k g hk _ => by
          have e := hobj k g (by simp only [List.mem_cons, List.not_mem_nil, or_false] at hk; omega)
          simp only [List.mem_cons, List.not_mem_nil, or_false] at hk
          rw [e]; rcases hk with rfl; simp only [tmD, reduceIte, Nat.reduceEqDiff, Nat.reduceAdd]) (fun k hk => by
          have e := hcnt k (by simp only [List.mem_cons, List.not_mem_nil, or_false] at hk; omega)
          simp only [List.mem_cons, List.not_mem_nil, or_false] at hk
          rw [e]; rcases hk with rfl; simp only [tmD, reduceIte, Nat.reduceEqDiff, Nat.reduceAdd]; exact Nat.le_refl _)
        simp only [tmR, seval, henv, h1, h2, h4, h5, h7, ho5, hcl, nat_add_one, hw, P2, ho2, P4, ho4, P5]
        refine ⟨hg0'.mono (fun k g hk _ => by simp only [List.mem_cons, List.not_mem_nil, or_false] at hk; rcases hk with rfl; simp only [tmD, reduceIte, Nat.reduceEqDiff, Nat.reduceAdd]) (fun k hk => by simp only [tmD, reduceIte, Nat.reduceEqDiff, Nat.reduceAdd]; exact Nat.le_refl _), v', duals ++ [rqOf (q)], rfl, hg'.mono (fun g _ => by simp only [tmD, reduceIte, Nat.reduceEqDiff, Nat.reduceAdd]) (by simp only [tmD, reduceIte, Nat.reduceEqDiff, Nat.reduceAdd]; exact Nat.le_refl _), by simp [hfl], fun x hx => ?_⟩
        rcases List.mem_append.1 hx with h | h
        · exact hok x h
        · simp only [List.mem_singleton] at h; subst h; exact rqOf_ok (df.mono (by omega))
  · rintro s ⟨h1, h2, h4, h5, h7, b2, b4, hg0, w, duals, b5, hg, hfl, hok⟩
    simp only [L15_1, tmR, seval, h2, h7, b2, l1, Int.lt_irrefl]
    exact hQ _ w duals h1 h4 h5 b4 b5 (hg0.mono (fun k g hk _ => by simp only [tmD, reduceIte, Nat.reduceEqDiff, Nat.reduceAdd]) (fun k hk => by simp only [tmD, reduceIte, Nat.reduceEqDiff, Nat.reduceAdd]; exact Nat.le_refl _)) (hg.mono (fun g _ => by simp only [tmD, reduceIte, Nat.reduceEqDiff, Nat.reduceAdd]) (by simp only [tmD, reduceIte, Nat.reduceEqDiff, Nat.reduceAdd]; exact Nat.le_refl _)) hfl hok
  · exact ⟨h1, h2, h4, h5, h7, b2, b4, hg0, .nils, [], b5, .inl ⟨rfl, rfl⟩, rfl, fun r hr => by cases hr⟩
theorem loopPri2 {Q : Ex → St → Prop} {st : St} (m : Mas) (a : List Int) (ha : a.length < 9223372036854775808) (fls duals : List RQ) (v w : TV)
    (h1 : st.env 1 = .sl (ints .i64 a)) (h4 : st.env 4 = .ptr 4 0 0 0) (h5 : st.env 5 = .ptr 5 0 0 0) (h9 : st.env 9 = .int .i64 0) (b4 : P4 st) (b5 : P5 st v (.sl (m.cuts.map cutC)) w .nils) (hg0 : GrowsS st [26] 4 v (fls.map rqC)) (hg1 : GrowsC st 52 4 w (duals.map rqC))
    (hQ : ∀ (s : St) (u : TV) (decs : List Dec), s.env 4 = .ptr 4 0 0 0 → s.env 5 = .ptr 5 0 0 0 → P4 s → P5 s v (.sl (m.cuts.map cutC)) w u → GrowsS s [26] 4 v (fls.map rqC) → GrowsC s 52 4 w (duals.map rqC) → GrowsS s [84] 3 u (decs.map decC) → decs.length ≤ 2 → Q (.exit 4) s) :
    Goes mach (.loop L15_2) Q st := by
  have at20 : Gives mach 59 [.sl (ints .i64 a), .int .i64 20] (.int .i64 (atN a 20 : Nat)) := at_c a 20 ha (by omega)
  have hrem : binTV false .rem (.int .i64 (atN a 20 : Nat)) (.int .i64 3) = some (.int .i64 ((atN a 20 % 3 : Nat) : Int)) := by rw [bin_rem _ _ _ _ (by decide)]; exact congrArg _ (congrArg _ (rem_nat _ 3))
  have hlt3 : atN a 20 % 3 < 3 := Nat.mod_lt _ (by omega)
  have rem6 : ∀ n : Nat, binTV false .rem (.int .i64 (n : Nat)) (.int .i64 6) = some (.int .i64 ((n % 6 : Nat) : Int)) := fun n => by rw [bin_rem _ _ _ _ (by decide)]; exact congrArg _ (congrArg _ (rem_nat _ 6))
  refine wp_for (fun i s => s.env 1 = .sl (ints .i64 a) ∧ s.env 4 = .ptr 4 0 0 0 ∧ s.env 5 = .ptr 5 0 0 0 ∧ s.env 9 = .int .i64 (i : Nat) ∧ P4 s ∧ GrowsS s [26] 4 v (fls.map rqC) ∧ GrowsC s 52 4 w (duals.map rqC) ∧ ∃ (u : TV) (decs : List Dec), P5 s v (.sl (m.cuts.map cutC)) w u ∧ GrowsS s [84] 3 u (decs.map decC) ∧ decs.length ≤ i) (atN a 20 % 3) ?_ ?_ (atN a 20 % 3) 0 _ (by omega) ?_
  · rintro i s hi ⟨h1, h4, h5, h9, b4, hg0, hg1, u, decs, b5, hg, hfl⟩
    have hw : IntKind.i64.wrap ((i + 1 : Nat) : Int) = (i + 1 : Nat) := wrap_i64n (by omega)
    have hw21 : IntKind.i64.wrap (21 + (i : Int)) = ((21 + i : Nat) : Int) := by rw [wrap_i64 (by omega) (by omega)]; omega
    have ai := at_c a (21 + i) ha (by omega)
    obtain ⟨n3, _, hs3⟩ := shr_nat false .u64 (atN a (21 + i)) 3 (by decide)
    obtain ⟨n6, _, hs6⟩ := shr_nat false .u64 (atN a (21 + i)) 6 (by decide)
    by_cases he : (((atN a (21 + i) % 6 : Nat) : Int) = ((n3 % 6 : Nat) : Int))
    · simp only [L15_2, tmR, seval, h1, h4, h5, h9, wpcall_eq at20, hrem, nat_lt, hi, hw21, wpcall_eq ai, rem6, hs3, he, nat_add_one, hw, P4, b4, P5, b5]
      exact ⟨hg0.mono (fun k g hk _ => by simp only [tmD, reduceIte, Nat.reduceEqDiff, Nat.reduceAdd]) (fun k hk => by simp only [tmD, reduceIte, Nat.reduceEqDiff, Nat.reduceAdd]; exact Nat.le_refl _), hg1.mono (fun g _ => by simp only [tmD, reduceIte, Nat.reduceEqDiff, Nat.reduceAdd]) (by simp only [tmD, reduceIte, Nat.reduceEqDiff, Nat.reduceAdd]; exact Nat.le_refl _), u, decs, rfl, hg.mono (fun k g hk _ => by simp only [tmD, reduceIte, Nat.reduceEqDiff, Nat.reduceAdd]) (fun k hk => by simp only [tmD, reduceIte, Nat.reduceEqDiff, Nat.reduceAdd]; exact Nat.le_refl _), by omega⟩
    · simp only [L15_2, tmR, seval, h1, h4, h5, h9, wpcall_eq at20, hrem, nat_lt, hi, hw21, wpcall_eq ai, rem6, hs3, he, b5, hs6, and1]
      refine wp_growS [84] 84 (by decide) .full _ _ _ _ _ _ (xs := decs.map decC) (zs := [decC ⟨((atN a (21 + i) % 6 : Nat) : Int), ((n3 % 6 : Nat) : Int), decide ((andm (n6 : Nat) 1 : Int) = 1)⟩]) ?_ (fun k g => rfl) ?_ (by simp) (by simp; omega) ?_
      · simp only [tmR, seval]
        exact hg.mono (fun k g hk _ => by simp only [List.mem_cons, List.not_mem_nil, or_false] at hk; rcases hk with rfl; simp only [tmD, reduceIte, Nat.reduceEqDiff, Nat.reduceAdd]) (fun k hk => by simp only [List.mem_cons, List.not_mem_nil, or_false] at hk; rcases hk with rfl; simp only [tmD, reduceIte, Nat.reduceEqDiff, Nat.reduceAdd]; exact Nat.le_refl _)
      · simp only [tmR, seval, elems]; rfl
      · intro st' v' henv hobj hcnt hg'
        have ho4 := hobj 4 0 (by decide)
        have ho5 := hobj 5 0 (by decide)
        simp only [tmD, reduceIte, Nat.reduceEqDiff, Nat.reduceAdd, b4] at ho4
        simp only [tmD, reduceIte, Nat.reduceEqDiff, Nat.reduceAdd, b5] at ho5
        have em : decs.map decC ++ [decC ⟨((atN a (21 + i) % 6 : Nat) : Int), ((n3 % 6 : Nat) : Int), decide ((andm (n6 : Nat) 1 : Int) = 1)⟩] = (decs ++ [(⟨((atN a (21 + i) % 6 : Nat) : Int), ((n3 % 6 : Nat) : Int), decide ((andm (n6 : Nat) 1 : Int) = 1)⟩ : Dec)]).map decC := by simp
        rw [em] at hg'
        have hcl := hg'.cells
        have hg0' : GrowsS st' [26] 4 v (fls.map rqC) := hg0.mono (fun k g hk _ => by
          have e := hobj k g (by simp only [List.mem_cons, List.not_mem_nil, or_false] at hk ⊢; omega)
          simp only [List.mem_cons, List.not_mem_nil, or_false] at hk
          rw [e]; rcases hk with rfl; simp only [tmD, reduceIte, Nat.reduceEqDiff, Nat.reduceAdd]) (fun k hk => by
          have e := hcnt k (by simp only [List.mem_cons, List.not_mem_nil, or_false] at hk; omega)
          simp only [List.mem_cons, List.not_mem_nil, or_false] at hk
          rw [e]; rcases hk with rfl; simp only [tmD, reduceIte, Nat.reduceEqDiff, Nat.reduceAdd]; exact Nat.le_refl _)
        have hg1' : GrowsC st' 52 4 w (duals.map rqC) := hg1.mono (fun g _ => by
          have e := hobj 52 g (by decide)
          rw [e]; simp only [tmD, reduceIte, Nat.reduceEqDiff, Nat.reduceAdd]) (by rw [hcnt 52 (by decide)]; simp only [tmD, reduceIte, Nat.reduceEqDiff, Nat.reduceAdd]; exact Nat.le_refl _)
        simp only [tmR, seval, henv, h1, h4, h5, h9, ho5, hcl, nat_add_one, hw, P4, ho4, P5]
        refine ⟨hg0'.mono (fun k g hk _ => by simp only [List.mem_cons, List.not_mem_nil, or_false] at hk; rcases hk with rfl; simp only [tmD, reduceIte, Nat.reduceEqDiff, Nat.reduceAdd]) (fun k hk => by simp only [tmD, reduceIte, Nat.reduceEqDiff, Nat.reduceAdd]; exact Nat.le_refl _), hg1'.mono (fun g _ => by simp only [tmD, reduceIte, Nat.reduceEqDiff, Nat.reduceAdd]) (by simp only [tmD, reduceIte, Nat.reduceEqDiff, Nat.reduceAdd]; exact Nat.le_refl _), v', _, rfl, hg'.mono (fun k g hk _ => by simp only [List.mem_cons, List.not_mem_nil, or_false] at hk; rcases hk with rfl; simp only [tmD, reduceIte, Nat.reduceEqDiff, Nat.reduceAdd]) (fun k hk => by simp only [tmD, reduceIte, Nat.reduceEqDiff, Nat.reduceAdd]; exact Nat.le_refl _), by simp; omega⟩
  · rintro s ⟨h1, h4, h5, h9, b4, hg0, hg1, u, decs, b5, hg, hfl⟩
    simp only [L15_2, tmR, seval, h1, h9, wpcall_eq at20, hrem, Int.lt_irrefl]
    exact hQ _ u decs h4 h5 b4 b5 (hg0.mono (fun k g hk _ => by simp only [tmD, reduceIte, Nat.reduceEqDiff, Nat.reduceAdd]) (fun k hk => by simp only [tmD, reduceIte, Nat.reduceEqDiff, Nat.reduceAdd]; exact Nat.le_refl _)) (hg1.mono (fun g _ => by simp only [tmD, reduceIte, Nat.reduceEqDiff, Nat.reduceAdd]) (by simp only [tmD, reduceIte, Nat.reduceEqDiff, Nat.reduceAdd]; exact Nat.le_refl _)) (hg.mono (fun k g hk _ => by simp only [tmD, reduceIte, Nat.reduceEqDiff, Nat.reduceAdd]) (fun k hk => by simp only [tmD, reduceIte, Nat.reduceEqDiff, Nat.reduceAdd]; exact Nat.le_refl _)) (by omega)
  · exact ⟨h1, h4, h5, h9, b4, hg0, hg1, .nils, [], b5, .inl ⟨rfl, rfl⟩, by simp⟩
end Go.TM.Fn
end
section
namespace Go.TM.Fn
open Go Go.TM Go.Plain
set_option linter.unusedVariables false
set_option linter.unusedSimpArgs false
set_option maxRecDepth 20000
set_option maxHeartbeats 4000000
def RetP (res : List TRes) (args : List TV) (P : TV → Prop) (e : Ex) (s : St) : Prop := match e with
  | .exit _ => False
  | _ => ∃ rv, finishR res args s = some (rv, []) ∧ P rv
theorem retP_ret (F args P s) : RetP F args P .ret s = ∃ rv, finishR F args s = some (rv, []) ∧ P rv := rfl
theorem retP_norm (F args P s) : RetP F args P .norm s = ∃ rv, finishR F args s = some (rv, []) ∧ P rv := rfl
theorem givesP {M : Mach} {f : Nat} {F : TFunc} {args : List TV} {P : TV → Prop} (h : M.tab f = some F) (hn : F.np = args.length) (hp : Goes M F.body (RetP F.res args P) (initSt args)) : ∃ rv, P rv ∧ call M f args = some (rv, []) := by
  obtain ⟨e, s, h1, h2⟩ := hp
  cases e with
  | exit i => cases h2
  | norm => obtain ⟨rv, h3, h4⟩ := h2; exact ⟨_, h4, by rw [call_eq h args hn, h1]; exact h3⟩
  | ret => obtain ⟨rv, h3, h4⟩ := h2; exact ⟨_, h4, by rw [call_eq h args hn, h1]; exact h3⟩
def Ret1 (e : Nat) (xs : Cont) (u : TV) : Prop := (xs = [] ∧ u = .nils) ∨ u = .sl xs ∨ u = .own e xs
def Ret2 (e : Nat) (xs : Cont) (u : TV) : Prop := (xs = [] ∧ u = .nils) ∨ u = .own e xs
theorem out1_ret {st S e v xs} (h : GrowsS st S e v xs) : ∃ u, out1 st.obj v = some u ∧ Ret1 e xs u := by
  rcases h with ⟨rfl, rfl⟩ | ⟨k, g, o, hk, rfl, _, hob, hc, hb, he, ht⟩
  · exact ⟨.nils, rfl, .inl ⟨rfl, rfl⟩⟩
  · cases hs : o.solo
    · exact ⟨.sl xs, by simp [out1, hob, hb, he, hc, hs], .inr (.inl rfl)⟩
    · exact ⟨.own e xs, by simp [out1, hob, hb, he, hc, hs, ht], .inr (.inr rfl)⟩
theorem out1_retC {st d e v xs} (h : GrowsC st d e v xs) : ∃ u, out1 st.obj v = some u ∧ Ret2 e xs u := by
  rcases h with ⟨rfl, rfl⟩ | ⟨g, rfl, _, hob⟩
  · exact ⟨.nils, rfl, .inl ⟨rfl, rfl⟩⟩
  · exact ⟨.own e xs, by simp [out1, hob], .inr rfl⟩
theorem hand1_growsC {st d e v xs} (h : GrowsC st d e v xs) : hand1 v = [] ∨ ∃ g, hand1 v = [(d, g)] := by
  rcases h with ⟨rfl, rfl⟩ | ⟨g, rfl, _⟩
  · exact .inl rfl
  · exact .inr ⟨g, rfl⟩
def PriBack (cuts : List Cu) (n : Nat) (rv : TV) : Prop := ∃ (F D E : TV) (fls duals : List RQ) (decs : List Dec), rv = .agg [F, .sl (cuts.map cutC), D, E, .bool false] ∧
  Ret1 4 (fls.map rqC) F ∧ Ret2 4 (duals.map rqC) D ∧ Ret1 3 (decs.map decC) E ∧ fls.length = 6 ∧ duals.length = n ∧ decs.length ≤ 2 ∧ (∀ r ∈ fls, RQ.Ok 10 r) ∧ ∀ r ∈ duals, RQ.Ok 10 r
theorem pri_fin {s : St} {args : List TV} {v w u : TV} {fls duals : List RQ} {cuts : List Cu} {decs : List Dec} {n : Nat} (ha : hasOwn args = false) (hm : mutsOf s 0 args = some []) (h4 : s.env 4 = .ptr 4 0 0 0)
    (ho : s.obj 4 0 = some { cont := [[v, .sl (cuts.map cutC), w, u, .bool false]], esz := 5, box := true, solo := true, tip := false }) (hg0 : GrowsS s [26] 4 v (fls.map rqC)) (hg1 : GrowsC s 52 4 w (duals.map rqC)) (hg2 : GrowsS s [84] 3 u (decs.map decC))
    (hf : fls.length = 6) (hd : duals.length = n) (he : decs.length ≤ 2) (hfo : ∀ r ∈ fls, RQ.Ok 10 r) (hdo : ∀ r ∈ duals, RQ.Ok 10 r) :
    ∃ rv, finishR [.cell 4 5 true] args s = some (rv, []) ∧ PriBack cuts n rv := by
  obtain ⟨u1, e1, w1⟩ := out1_ret hg0
  obtain ⟨u3, e3, w3⟩ := out1_retC hg1
  obtain ⟨u4, e4, w4⟩ := out1_ret hg2
  have c6 : out1 s.obj (.sl (cuts.map cutC)) = some (.sl (cuts.map cutC)) := rfl
  have cp : out1 s.obj (.bool false) = some (.bool false) := rfl
  have hon : once (hands (.agg [v, .sl (cuts.map cutC), w, u, .bool false])) = true := by
    have i6 : hand1 (.sl (cuts.map cutC)) = [] := rfl
    have ip : hand1 (.bool false) = [] := rfl
    simp only [hands, TV.cells, List.flatMap_cons, List.flatMap_nil, i6, ip]
    rcases hand1_grows hg0 with h1 | ⟨k1, g1, hk1, h1⟩ <;> rcases hand1_growsC hg1 with h3 | ⟨g3, h3⟩ <;> rcases hand1_grows hg2 with h4 | ⟨k4, g4, hk4, h4⟩ <;>
      simp_all [once]
  refine ⟨.agg [u1, .sl (cuts.map cutC), u3, u4, .bool false], ?_, u1, u3, u4, fls, duals, decs, rfl, w1, w3, w4, hf, hd, he, hfo, hdo⟩
  simp [finishR, resVals, resVal, hm, ha, h4, ho, pull, hon, out, outs, e1, e3, e4, c6, cp]
theorem prices_o (m : Mas) (a : List Int) (hm : m.fl = 6) (hcu : m.cuts.length ≤ 2) (ha : a.length < 9223372036854775808) : ∃ rv, PriBack m.cuts m.cuts.length rv ∧ call mach 15 [masT m, .sl (ints .i64 a)] = some (rv, []) := by
  refine givesP tab15 rfl ?_
  simp only [F15, tmR, seval]
  refine loopPri0 m a hm ha ?_ ?_ ?_ ?_ ?_ ?_ ?_ ?_ (fun s v fls h1 h2 h4 h5 b2 b4 b5 hg hfl hok => ?_)
  · simp only [tmD, reduceIte, Nat.reduceEqDiff, Nat.reduceAdd]
  · simp only [tmD, reduceIte, Nat.reduceEqDiff, Nat.reduceAdd]
  · simp only [tmD, reduceIte, Nat.reduceEqDiff, Nat.reduceAdd]
  · simp only [tmD, reduceIte, Nat.reduceEqDiff, Nat.reduceAdd]
  · simp only [tmD, reduceIte, Nat.reduceEqDiff, Nat.reduceAdd]
  · simp only [P2, tmD, reduceIte, Nat.reduceEqDiff, Nat.reduceAdd]
  · simp only [P4, tmD, reduceIte, Nat.reduceEqDiff, Nat.reduceAdd]
  · simp only [P5, tmD, reduceIte, Nat.reduceEqDiff, Nat.reduceAdd]
  · simp only [tmR, seval, h1, h2, h4, h5, b2, b5]
    refine loopPri1 m a hcu ha fls v ?_ ?_ ?_ ?_ ?_ ?_ ?_ ?_ ?_ (fun s w duals h1 h4 h5 b4 b5 hg0 hg1 hdl hdk => ?_)
    · simp only [tmD, reduceIte, Nat.reduceEqDiff, Nat.reduceAdd, h1]
    · simp only [tmD, reduceIte, Nat.reduceEqDiff, Nat.reduceAdd, h2]
    · simp only [tmD, reduceIte, Nat.reduceEqDiff, Nat.reduceAdd, h4]
    · simp only [tmD, reduceIte, Nat.reduceEqDiff, Nat.reduceAdd, h5]
    · simp only [tmD, reduceIte, Nat.reduceEqDiff, Nat.reduceAdd]
    · simp only [P2, tmD, reduceIte, Nat.reduceEqDiff, Nat.reduceAdd, b2]
    · simp only [P4, tmD, reduceIte, Nat.reduceEqDiff, Nat.reduceAdd, b4]
    · simp only [P5, tmD, reduceIte, Nat.reduceEqDiff, Nat.reduceAdd]
    · exact hg.mono (fun k g hk _ => by simp only [List.mem_cons, List.not_mem_nil, or_false] at hk; rcases hk with rfl; simp only [tmD, reduceIte, Nat.reduceEqDiff, Nat.reduceAdd]) (fun k hk => by simp only [tmD, reduceIte, Nat.reduceEqDiff, Nat.reduceAdd]; exact Nat.le_refl _)
    · simp only [tmR, seval]
      refine loopPri2 m a ha fls duals v w ?_ ?_ ?_ ?_ ?_ ?_ ?_ ?_ (fun s u decs h4 h5 b4 b5 hg0 hg1 hg2 hdc => ?_)
      · simp only [tmD, reduceIte, Nat.reduceEqDiff, Nat.reduceAdd, h1]
      · simp only [tmD, reduceIte, Nat.reduceEqDiff, Nat.reduceAdd, h4]
      · simp only [tmD, reduceIte, Nat.reduceEqDiff, Nat.reduceAdd, h5]
      · simp only [tmD, reduceIte, Nat.reduceEqDiff, Nat.reduceAdd]
      · simp only [P4, tmD, reduceIte, Nat.reduceEqDiff, Nat.reduceAdd, b4]
      · simp only [P5, tmD, reduceIte, Nat.reduceEqDiff, Nat.reduceAdd, b5]
      · exact hg0.mono (fun k g hk _ => by simp only [List.mem_cons, List.not_mem_nil, or_false] at hk; rcases hk with rfl; simp only [tmD, reduceIte, Nat.reduceEqDiff, Nat.reduceAdd]) (fun k hk => by simp only [tmD, reduceIte, Nat.reduceEqDiff, Nat.reduceAdd]; exact Nat.le_refl _)
      · exact hg1.mono (fun g _ => by simp only [tmD, reduceIte, Nat.reduceEqDiff, Nat.reduceAdd]) (by simp only [tmD, reduceIte, Nat.reduceEqDiff, Nat.reduceAdd]; exact Nat.le_refl _)
      · simp only [tmR, seval, h4, h5, b4, b5, retP_ret]
        refine pri_fin (v := v) (w := w) (u := u) rfl rfl ?_ ?_ ?_ ?_ ?_ hfl hdl hdc hok hdk
        · simp only [tmD, reduceIte, Nat.reduceEqDiff, Nat.reduceAdd, h4]
        · simp only [tmD, reduceIte, Nat.reduceEqDiff, Nat.reduceAdd]
        · exact hg0.mono (fun k g hk _ => by simp only [List.mem_cons, List.not_mem_nil, or_false] at hk; rcases hk with rfl; simp only [tmD, reduceIte, Nat.reduceEqDiff, Nat.reduceAdd]) (fun k hk => by simp only [tmD, reduceIte, Nat.reduceEqDiff, Nat.reduceAdd]; exact Nat.le_refl _)
        · exact hg1.mono (fun g _ => by simp only [tmD, reduceIte, Nat.reduceEqDiff, Nat.reduceAdd]) (by simp only [tmD, reduceIte, Nat.reduceEqDiff, Nat.reduceAdd]; exact Nat.le_refl _)
        · exact hg2.mono (fun k g hk _ => by simp only [List.mem_cons, List.not_mem_nil, or_false] at hk; rcases hk with rfl; simp only [tmD, reduceIte, Nat.reduceEqDiff, Nat.reduceAdd]) (fun k hk => by simp only [tmD, reduceIte, Nat.reduceEqDiff, Nat.reduceAdd]; exact Nat.le_refl _)
end Go.TM.Fn
end
section
namespace Go.TM.Fn
open Go Go.TM Go.Plain
set_option linter.unusedVariables false
set_option linter.unusedSimpArgs false
set_option maxRecDepth 20000
set_option maxHeartbeats 4000000
abbrev S11 (s : St) (q : Rat) : Prop := s.obj 11 0 = some { cont := [encL q], esz := 4, box := true, solo := true, tip := false }
theorem rb_cuts {Q : Ex → St → Prop} {st : St} (m : Mas) (x : Pri) (r : RQ) {k : Nat} (hs : x.Small k) (hrl : m.rows.length ≤ 32) (e3 : st.env 3 = .ptr 3 0 0 0) (e4 : st.env 4 = .ptr 4 0 0 0) (e5 : st.env 5 = .ptr 5 0 0 0) (e6 : st.env 6 = .ptr 6 0 0 0) (b3 : B3 st m) (b4 : B4 st x) (b5 : B5 st r) (b6 : B6 st) (c11 : st.cnt 11 = 0) (h10 : st.env 10 = .int .i64 0)
    (hbad : ∀ s, ¬ CutsIn m x → s.env 6 = .ptr 6 0 0 0 → B6 s → s.env 7 = .int .i64 5 → Q .ret s)
    (hok : ∀ s, CutsIn m x → s.env 3 = .ptr 3 0 0 0 → s.env 4 = .ptr 4 0 0 0 → s.env 5 = .ptr 5 0 0 0 → s.env 6 = .ptr 6 0 0 0 → B3 s m → B4 s x → B5 s r → B6 s → s.cnt 11 = 0 → Q (.exit 0) s) : Goes mach (.loop L19_0) Q st := by
  have hcl := hs.cuts
  have l1 : (x.cuts.map cutC).length = x.cuts.length := map_len _
  refine wp_for (fun i s => s.env 3 = .ptr 3 0 0 0 ∧ s.env 4 = .ptr 4 0 0 0 ∧ s.env 5 = .ptr 5 0 0 0 ∧ s.env 6 = .ptr 6 0 0 0 ∧ B3 s m ∧ B4 s x ∧ B5 s r ∧ B6 s ∧ s.cnt 11 = 0 ∧ s.env 10 = .int .i64 (i : Nat) ∧ ∀ j, j < i → ∀ f ∈ (x.cuts.getD j default).rs, f ∈ m.rows) x.cuts.length ?_ ?_ x.cuts.length 0 _ (by omega) ?_
  · rintro i s hi ⟨e3, e4, e5, e6, b3, b4, b5, b6, c11, h10, hall⟩
    have hw : IntKind.i64.wrap ((i + 1 : Nat) : Int) = (i + 1 : Nat) := wrap_i64n (by omega)
    have ha : iaddrTV 2 (.sl (x.cuts.map cutC)) (.int .i64 (i : Int)) = some (.rptr (cutC (x.cuts.getD i default)) 0) := iaddr_map (C := cutC) default (fun _ => rfl) hi
    have hwi := within_c (x.cuts.getD i default).rs m.rows (hs.rss _ (getD_mem default hi)) (by omega)
    by_cases hin : ∀ f ∈ (x.cuts.getD i default).rs, f ∈ m.rows
    · rw [decide_eq_true hin] at hwi
      simp only [L19_0, tmR, seval, e3, e4, e5, e6, b3, b4, b5, b6, c11, h10, l1, nat_lt, hi, ha, cutC, wpcall_eq hwi, Bool.not_true, nat_add_one, hw, B3, B4, B5, B6]
      intro j hj
      by_cases h : j = i
      · subst h; exact hin
      · exact hall j (by omega)
    · rw [decide_eq_false hin] at hwi
      simp only [L19_0, tmR, seval, e3, e4, e5, e6, b3, b4, b6, h10, l1, nat_lt, hi, ha, cutC, wpcall_eq hwi, Bool.not_false]
      refine hbad _ (fun h => hin (h i hi)) ?_ ?_ ?_
      · simp only [tmD, reduceIte, Nat.reduceEqDiff, Nat.reduceAdd, e6]
      · simp only [B6, tmD, reduceIte, Nat.reduceEqDiff, Nat.reduceAdd]
      · simp only [tmD, reduceIte, Nat.reduceEqDiff, Nat.reduceAdd]
  · rintro s ⟨e3, e4, e5, e6, b3, b4, b5, b6, c11, h10, hall⟩
    simp only [L19_0, tmR, seval, e4, b4, h10, l1, Int.lt_irrefl]
    exact hok _ (fun i hi => hall i hi) e3 e4 e5 e6 b3 b4 b5 b6 c11
  · exact ⟨e3, e4, e5, e6, b3, b4, b5, b6, c11, h10, fun j hj => by omega⟩
theorem rb_rows {Q : Ex → St → Prop} {st : St} (m : Mas) (x : Pri) {k : Nat} (hs : x.Small k) (hk : k < 100000) (hrl : m.rows.length ≤ 32) (hpen : I64 m.pen) (hr : ∀ i, i < m.rows.length → 0 ≤ m.rows.getD i 0 ∧ m.rows.getD i 0 < x.fls.length) (A : Rat) {jA : Nat} (hA : Dq jA A) (hjA : jA < 1000000) (hj0 : 0 < jA)
    (e3 : st.env 3 = .ptr 3 0 0 0) (e4 : st.env 4 = .ptr 4 0 0 0) (e6 : st.env 6 = .ptr 6 0 0 0) (b3 : B3 st m) (b4 : B4 st x) (b6 : B6 st) (h11 : st.env 11 = .ptr 11 0 0 0) (s11 : S11 st A) (h12 : st.env 12 = .int .i64 0)
    (hQ : ∀ s, s.env 3 = .ptr 3 0 0 0 → s.env 4 = .ptr 4 0 0 0 → s.env 6 = .ptr 6 0 0 0 → B3 s m → B4 s x → B6 s → s.env 11 = .ptr 11 0 0 0 → S11 s (A + sumTo (rowG m x) m.rows.length) → Q (.exit 2) s) : Goes mach (.loop L19_1) Q st := by
  have hk0 := hs.k0
  have hwp := rint_c hpen
  have dwp := dq_int hpen
  have hG : ∀ i, i < m.rows.length → Dq (k + 2) (rowG m x i) := fun i hi => by
    obtain ⟨h1, h2⟩ := hr i hi
    have hq := RQ.isQ (hs.qs _ (getD_mem default (show (m.rows.getD i 0).toNat < x.fls.length by omega)))
    exact (dq_low (hq.dq hk0) dwp).mono (by omega)
  refine wp_for (fun i s => s.env 3 = .ptr 3 0 0 0 ∧ s.env 4 = .ptr 4 0 0 0 ∧ s.env 6 = .ptr 6 0 0 0 ∧ B3 s m ∧ B4 s x ∧ B6 s ∧ s.env 11 = .ptr 11 0 0 0 ∧ S11 s (A + sumTo (rowG m x) i) ∧ s.env 12 = .int .i64 (i : Nat)) m.rows.length ?_ ?_ m.rows.length 0 _ (by omega) ?_
  · rintro i s hi ⟨e3, e4, e6, b3, b4, b6, h11, s11, h12⟩
    have hw : IntKind.i64.wrap ((i + 1 : Nat) : Int) = (i + 1 : Nat) := wrap_i64n (by omega)
    obtain ⟨hr1, hr2⟩ := hr i hi
    obtain ⟨f, hf⟩ : ∃ f : Nat, m.rows.getD i 0 = f := ⟨(m.rows.getD i 0).toNat, by omega⟩
    have hff : f < x.fls.length := by omega
    have hgi : rowG m x i = lowQ (x.fls.getD f default).val (m.pen : Rat) := by unfold rowG; rw [hf]; rfl
    have hrq := hs.qs _ (getD_mem default hff)
    have hq := RQ.isQ hrq
    have ha : iaddrTV 4 (.sl (x.fls.map rqC)) (.int .i64 (f : Int)) = some (.rptr (rqC (x.fls.getD f default)) 0) := iaddr_map (C := rqC) default (fun _ => rfl) hff
    have hlow := rqmin_c hq (isQ_enc dwp) (by omega) hk0 (by omega)
    have dsum := dq_sum i fun j hj => hG j (by omega)
    have hmul : (k + 2 + 1) * i ≤ (k + 2 + 1) * 32 := Nat.mul_le_mul_left _ (by omega)
    have dtot := dq_add hA dsum
    have hadd := rqadd_c (isQ_enc dtot) (isQ_enc (hG i hi)) (by omega) (by omega) (by omega)
    have hlow' : Gives mach 75 [.agg (rqC (x.fls.getD f default)), encQ (m.pen : Rat)] (encQ (rowG m x i)) := by rw [hgi]; exact hlow
    have es : A + sumTo (rowG m x) i + rowG m x i = A + sumTo (rowG m x) (i + 1) := by rw [Rat.add_assoc]; rfl
    rw [es] at hadd
    simp only [rqC] at hlow'
    simp only [L19_1, tmR, seval, e3, e4, e6, b3, b4, b6, h11, s11, h12, ints_len, nat_lt, hi, iaddr_ints hi, hf, ha, rqC, wpcall_eq hwp, wpcall_eq hlow', wpcall_eq hadd, nat_add_one, hw, B3, B4, B6, S11]
  · rintro s ⟨e3, e4, e6, b3, b4, b6, h11, s11, h12⟩
    simp only [L19_1, tmR, seval, e3, b3, h12, ints_len, Int.lt_irrefl]
    exact hQ _ e3 e4 e6 b3 b4 b6 h11 s11
  · refine ⟨e3, e4, e6, b3, b4, b6, h11, ?_, h12⟩
    rw [show A + sumTo (rowG m x) 0 = A from Rat.add_zero A]; exact s11
theorem rb_sums {Q : Ex → St → Prop} {st : St} (x : Pri) {k : Nat} (hs : x.Small k) (hk : k < 100000) (hdl : x.duals.length = x.cuts.length) (hcl : x.cuts.length ≤ 32) (hdiv : ∀ i, i < x.cuts.length → 2 ≤ (x.cuts.getD i default).div ∧ (x.cuts.getD i default).div < 9223372036854775808) (A : Rat) {jA : Nat} (hA : Dq jA A) (hjA : jA < 10000000) (hj0 : 0 < jA)
    (e4 : st.env 4 = .ptr 4 0 0 0) (e6 : st.env 6 = .ptr 6 0 0 0) (b4 : B4 st x) (b6 : B6 st) (h11 : st.env 11 = .ptr 11 0 0 0) (s11 : S11 st A) (h13 : st.env 13 = .int .i64 0)
    (hQ : ∀ s, s.env 6 = .ptr 6 0 0 0 → B6 s → s.env 11 = .ptr 11 0 0 0 → S11 s (A + sumTo (cutH x) x.cuts.length) → Q (.exit 4) s) : Goes mach (.loop L19_2) Q st := by
  have hk0 := hs.k0
  have l1 : (x.cuts.map cutC).length = x.cuts.length := map_len _
  refine wp_for (fun i s => s.env 4 = .ptr 4 0 0 0 ∧ s.env 6 = .ptr 6 0 0 0 ∧ B4 s x ∧ B6 s ∧ s.env 11 = .ptr 11 0 0 0 ∧ S11 s (A + sumTo (cutH x) i) ∧ s.env 13 = .int .i64 (i : Nat)) x.cuts.length ?_ ?_ x.cuts.length 0 _ (by omega) ?_
  · rintro i s hi ⟨e4, e6, b4, b6, h11, s11, h13⟩
    have hw : IntKind.i64.wrap ((i + 1 : Nat) : Int) = (i + 1 : Nat) := wrap_i64n (by omega)
    have hid : i < x.duals.length := by omega
    have hl := hs.rss _ (getD_mem default hi)
    obtain ⟨c, hc⟩ : ∃ c, c = x.cuts.getD i default := ⟨_, rfl⟩
    obtain ⟨d, hd⟩ : ∃ d, d = x.duals.getD i default := ⟨_, rfl⟩
    obtain ⟨v, hv⟩ : ∃ v : Nat, c.div = v := ⟨c.div.toNat, by have := hdiv i hi; rw [← hc] at this; omega⟩
    have hv2 : 2 ≤ v := by have := hdiv i hi; rw [← hc] at this; omega
    rw [← hc] at hl
    have hHi : cutH x i = d.val * ((c.rs.length / v : Nat) : Int) := by unfold cutH; rw [← hc, ← hd, hv]; rfl
    have hq := RQ.isQ (hs.qd _ (getD_mem default hid))
    rw [← hd] at hq
    have ha : iaddrTV 2 (.sl (x.cuts.map cutC)) (.int .i64 (i : Int)) = some (.rptr (cutC c) 0) := by rw [hc]; exact iaddr_map (C := cutC) default (fun _ => rfl) hi
    have ha2 : iaddrTV 4 (.sl (x.duals.map rqC)) (.int .i64 (i : Int)) = some (.rptr (rqC d) 0) := by rw [hd]; exact iaddr_map (C := rqC) default (fun _ => rfl) hid
    have hle : c.rs.length / v ≤ c.rs.length := Nat.div_le_self _ _
    have hvz : ((v : Nat) : Int) ≠ 0 := by omega
    have hwq : IntKind.i64.wrap ((c.rs.length / v : Nat) : Int) = (c.rs.length / v : Nat) := wrap_i64n (by omega)
    have hI : I64 ((c.rs.length / v : Nat) : Int) := i64_nat (Nat.lt_of_le_of_lt hle hl)
    have hwh := rint_c hI
    have hmul := rqmul_c hq (isQ_enc (dq_int hI)) (by omega) hk0 (by omega)
    have hHd := cutH_dq hs hdl hi
    have dsum := dq_sum i fun j hj => cutH_dq hs hdl (show j < x.cuts.length by omega)
    have hmm : (k + 2 + 1) * i ≤ (k + 2 + 1) * 32 := Nat.mul_le_mul_left _ (by omega)
    have dtot := dq_add hA dsum
    have hadd := rqadd_c (isQ_enc dtot) (isQ_enc hHd) (by omega) (by omega) (by omega)
    rw [← hHi] at hmul
    have es : A + sumTo (cutH x) i + cutH x i = A + sumTo (cutH x) (i + 1) := by rw [Rat.add_assoc]; rfl
    rw [es] at hadd
    simp only [rqC] at hmul
    simp only [L19_2, tmR, seval, e4, e6, b4, b6, h11, s11, h13, l1, nat_lt, hi, ha, cutC, ha2, rqC, ints_len, hv, bin_quo _ _ _ _ hvz, quo_nat, hwq, wpcall_eq hwh, wpcall_eq hmul, wpcall_eq hadd, nat_add_one, hw, B4, B6, S11]
  · rintro s ⟨e4, e6, b4, b6, h11, s11, h13⟩
    simp only [L19_2, tmR, seval, e4, b4, h13, l1, Int.lt_irrefl]
    exact hQ _ e6 b6 h11 s11
  · refine ⟨e4, e6, b4, b6, h11, ?_, h13⟩
    rw [show A + sumTo (cutH x) 0 = A from Rat.add_zero A]; exact s11
theorem rbound_c (m : Mas) (x : Pri) (r : RQ) {k : Nat} (hm : m.Small) (hs : x.Small k) (hk : k < 100000) (hr : RQ.Ok k r) : Gives mach 19 [masT m, priT x, .agg (rqC r)] (.tup [(boundR m x r.val).1, .int .i64 (boundR m x r.val).2]) := by
  have hk0 := hs.k0
  have vm := rvm_c m hm
  have vp := rvp_c m.fl x hs
  refine gives tab19 rfl ?_
  simp only [rqC]
  by_cases h1 : validM m = 0
  · rw [h1] at vm
    by_cases h2 : validP m.fl x = 0
    · rw [h2] at vp
      obtain ⟨m1, m2, m3, m4, m5, m6⟩ := validM0 h1
      obtain ⟨p1, p2, p3, p4, p5⟩ := validP0 h2
      have hrow : ∀ i, i < m.rows.length → 0 ≤ m.rows.getD i 0 ∧ m.rows.getD i 0 < x.fls.length := fun i hi => by have := m6.2 _ (getD_mem 0 hi); omega
      have hpen : I64 m.pen := by unfold I64; omega
      simp (maxSteps := 2000000) only [F19, tmR, seval, wpcall_eq vm, wpcall_eq vp]
      refine rb_cuts m x r hs m5 ?_ ?_ ?_ ?_ ?_ ?_ ?_ ?_ ?_ ?_ (fun s hno h6 hb6 h7 => ?_) (fun s hin e3 e4 e5 e6 b3 b4 b5 b6 c11 => ?_)
      · simp only [tmD, reduceIte, Nat.reduceEqDiff, Nat.reduceAdd]
      · simp only [tmD, reduceIte, Nat.reduceEqDiff, Nat.reduceAdd]
      · simp only [tmD, reduceIte, Nat.reduceEqDiff, Nat.reduceAdd]
      · simp only [tmD, reduceIte, Nat.reduceEqDiff, Nat.reduceAdd]
      · simp only [B3, tmD, reduceIte, Nat.reduceEqDiff, Nat.reduceAdd]
      · simp only [B4, tmD, reduceIte, Nat.reduceEqDiff, Nat.reduceAdd]
      · simp only [B5, tmD, reduceIte, Nat.reduceEqDiff, Nat.reduceAdd, rqC]
      · simp only [B6, tmD, reduceIte, Nat.reduceEqDiff, Nat.reduceAdd]
      · simp only [tmD, reduceIte, Nat.reduceEqDiff, Nat.reduceAdd]
      · simp only [tmD, reduceIte, Nat.reduceEqDiff, Nat.reduceAdd]
      · rw [boundR_3 h1 h2 hno]
        simp only [tmR, seval, h6, hb6, h7, tmF]; rfl
      · cases hf : x.free
        · rw [boundR_5 h1 h2 hin hf]
          have hL : I64 (m.rows.length : Int) := by unfold I64; omega
          have wl := rint_c hL
          have wz := rint_c (n := 0) (by unfold I64; omega)
          have hq := RQ.isQ hr
          have d0 := dq_int (n := 0) (by unfold I64; omega)
          have lw : Gives mach 75 [.agg (rqC r), encQ ((0 : Int) : Rat)] (encQ (lowQ r.val ((0 : Int) : Rat))) := rqmin_c hq (isQ_enc d0) (by omega) hk0 (by omega)
          have dl := dq_low (hq.dq hk0) d0
          have ml := rqmul_c (isQ_enc (dq_int hL)) (isQ_enc dl) (by omega) (by omega) (by omega)
          have dm := dq_mul (dq_int hL) dl (by omega)
          simp only [rqC] at lw
          simp only [tmR, seval, e3, e4, e5, b3, b4, b5, hf, ints_len, wpcall_eq wl, rqC, wpcall_eq wz, wpcall_eq lw, wpcall_eq ml, c11]
          refine rb_rows m x hs hk m5 hpen hrow _ dm (by omega) (by omega) ?_ ?_ ?_ ?_ ?_ ?_ ?_ ?_ ?_ (fun s e3 e4 e6 b3 b4 b6 h11 s11 => ?_)
          · simp only [tmD, reduceIte, Nat.reduceEqDiff, Nat.reduceAdd, e3]
          · simp only [tmD, reduceIte, Nat.reduceEqDiff, Nat.reduceAdd, e4]
          · simp only [tmD, reduceIte, Nat.reduceEqDiff, Nat.reduceAdd, e6]
          · simp only [B3, tmD, reduceIte, Nat.reduceEqDiff, Nat.reduceAdd, b3]
          · simp only [B4, tmD, reduceIte, Nat.reduceEqDiff, Nat.reduceAdd, b4]
          · simp only [B6, tmD, reduceIte, Nat.reduceEqDiff, Nat.reduceAdd, b6]
          · simp only [tmD, reduceIte, Nat.reduceEqDiff, Nat.reduceAdd]
          · simp only [S11, tmD, reduceIte, Nat.reduceEqDiff, Nat.reduceAdd]
          · simp only [tmD, reduceIte, Nat.reduceEqDiff, Nat.reduceAdd]
          · have hG : ∀ i, i < m.rows.length → Dq (k + 2) (rowG m x i) := fun i hi => by
              obtain ⟨q1, q2⟩ := hrow i hi
              have hq := RQ.isQ (hs.qs _ (getD_mem default (show (m.rows.getD i 0).toNat < x.fls.length by omega)))
              exact (dq_low (hq.dq hk0) (dq_int hpen)).mono (by omega)
            have dA := dq_add dm (dq_sum m.rows.length hG)
            have hA1 : (k + 2 + 1) * m.rows.length ≤ (k + 2 + 1) * 32 := Nat.mul_le_mul_left _ m5
            simp only [tmR, seval]
            refine rb_sums x hs hk p3 p4 (fun i hi => by
              have h5 := (p5 i hi).2
              have h6 := hs.rss _ (getD_mem default hi)
              omega) _ dA (by omega) (by omega) ?_ ?_ ?_ ?_ ?_ ?_ ?_ (fun s e6 b6 h11 s11 => ?_)
            · simp only [tmD, reduceIte, Nat.reduceEqDiff, Nat.reduceAdd, e4]
            · simp only [tmD, reduceIte, Nat.reduceEqDiff, Nat.reduceAdd, e6]
            · simp only [B4, tmD, reduceIte, Nat.reduceEqDiff, Nat.reduceAdd, b4]
            · simp only [B6, tmD, reduceIte, Nat.reduceEqDiff, Nat.reduceAdd, b6]
            · simp only [tmD, reduceIte, Nat.reduceEqDiff, Nat.reduceAdd, h11]
            · simp only [S11, tmD, reduceIte, Nat.reduceEqDiff, Nat.reduceAdd, s11]
            · simp only [tmD, reduceIte, Nat.reduceEqDiff, Nat.reduceAdd]
            · have er : ((m.rows.length : Int) : Rat) * lowQ r.val ((0 : Int) : Rat) + sumTo (rowG m x) m.rows.length + sumTo (cutH x) x.cuts.length = sumTo (rowG m x) m.rows.length + sumTo (cutH x) x.cuts.length + (m.rows.length : Int) * lowQ r.val 0 := by
                rw [Rat.add_assoc, Rat.add_comm]; rfl
              rw [er] at s11
              simp only [tmR, seval, e6, b6, h11, s11, tmF]
        · rw [boundR_4 h1 h2 hin hf]
          simp only [tmR, seval, e4, e6, b4, b6, hf, tmF]; rfl
    · have hne : (validP m.fl x = 0) = False := eq_false h2
      rw [boundR_2 h1 h2]
      simp (maxSteps := 2000000) only [F19, tmR, seval, wpcall_eq vm, wpcall_eq vp, hne, tmF]
      rfl
  · have hne : (validM m = 0) = False := eq_false h1
    rw [boundR_1 h1]
    simp (maxSteps := 2000000) only [F19, tmR, seval, wpcall_eq vm, hne, tmF]
    rfl
end Go.TM.Fn
end
section
namespace Go.TM.Fn
open Go Go.TM Go.Plain
set_option linter.unusedVariables false
set_option linter.unusedSimpArgs false
set_option maxRecDepth 20000
set_option maxHeartbeats 4000000
def Sees (st : St) (e : Nat) (v : TV) (xs : Cont) : Prop :=
  (xs = [] ∧ v = .nils) ∨ v = .sl xs ∨ ∃ k g o, 17 ≤ k ∧ k < 48 ∧ v = .hs k g e xs.length ∧ st.obj k g = some o ∧ o.cont = xs ∧ o.box = false ∧ o.esz = e
theorem Sees.mono {st st' : St} {e v xs} (h : Sees st e v xs) (ho : ∀ k g, 17 ≤ k → k < 48 → st'.obj k g = st.obj k g) : Sees st' e v xs := by
  rcases h with h | h | ⟨k, g, o, h0, h1, h2, h3, h4⟩
  · exact .inl h
  · exact .inr (.inl h)
  · exact .inr (.inr ⟨k, g, o, h0, h1, h2, by rw [ho k g h0 h1]; exact h3, h4⟩)
theorem Sees.unsol {st : St} {e v xs} {b hs} (h : Sees st e v xs) : Sees (unsol b hs st) e v xs := by
  rcases h with h | h | ⟨k, g, o, h0, h1, h2, h3, h4, h5, h6⟩
  · exact .inl h
  · exact .inr (.inl h)
  · refine .inr (.inr ⟨k, g, { cont := o.cont, esz := o.esz, box := o.box, solo := (if b && hs.contains (k, g) then o.box && o.solo else o.solo), tip := o.tip }, h0, h1, h2, ?_, h4, h5, h6⟩)
    rw [unsol_objG, h3]; rfl
theorem Sees.rd {st : St} {e v xs} {f : Nat} (h : Sees st e v xs) (hf : f < 17) : tree1 (restrict st.obj (.rd [f])) v = some (.sl xs) := by
  rcases h with ⟨rfl, rfl⟩ | rfl | ⟨k, g, o, h0, h1, rfl, h3, rfl, h4, h5⟩
  · rfl
  · rfl
  · have : ¬ k = f := by omega
    simp [tree1, restrict_ap_rd, h3, h4, h5, this]
theorem Sees.mono2 {st st' : St} {e v xs} (h : Sees st e v xs) (ho : ∀ k g, 17 ≤ k → k < 48 → ∃ (bb : Bool) (hs : List (Nat × Nat)) (s1 : St), st'.obj k g = (Go.TM.unsol bb hs s1).obj k g ∧ s1.obj = st.obj) : Sees st' e v xs := by
  rcases h with h | h | ⟨k, g, o, h0, h1, h2, h3, h4, h5, h6⟩
  · exact .inl h
  · exact .inr (.inl h)
  · obtain ⟨b, hs, s1, e1, e2⟩ := ho k g h0 h1
    refine .inr (.inr ⟨k, g, { cont := o.cont, esz := o.esz, box := o.box, solo := (if b && hs.contains (k, g) then o.box && o.solo else o.solo), tip := o.tip }, h0, h1, h2, ?_, h4, h5, h6⟩)
    rw [e1, unsol_objG, e2, h3]; rfl
theorem Sees.cells {st : St} {e v xs} (h : Sees st e v xs) : v.cells = [v] := by
  rcases h with ⟨rfl, rfl⟩ | rfl | ⟨k, g, o, h0, h1, rfl, _⟩ <;> rfl
theorem unsol_box (b hs) {st : St} {k g c e} (h : st.obj k g = some { cont := c, esz := e, box := true, solo := true, tip := false }) : (unsol b hs st).obj k g = some { cont := c, esz := e, box := true, solo := true, tip := false } := by
  rw [unsol_objG, h]
  cases (b && hs.contains (k, g)) <;> rfl
theorem boundR_raw (m : Mas) (x : Pri) (r : RQ) {k : Nat} (hm : m.Small) (hs : x.Small k) (hk : k < 100000) (hr : RQ.Ok k r) : ∃ a ds b es, (boundR m x r.val).1 = rawQ a ds b es ∧ ds.length < 2147483648 ∧ es.length < 2147483648 := by
  have hk0 := hs.k0
  by_cases h1 : validM m = 0
  · by_cases h2 : validP m.fl x = 0
    · obtain ⟨m1, m2, m3, m4, m5, m6⟩ := validM0 h1
      obtain ⟨p1, p2, p3, p4, p5⟩ := validP0 h2
      by_cases hin : CutsIn m x
      · cases hf : x.free
        · rw [boundR_5 h1 h2 hin hf]
          have hrow : ∀ i, i < m.rows.length → 0 ≤ m.rows.getD i 0 ∧ m.rows.getD i 0 < x.fls.length := fun i hi => by have := m6.2 _ (getD_mem 0 hi); omega
          have hpen : I64 m.pen := by unfold I64; omega
          have hG : ∀ i, i < m.rows.length → Dq (k + 2) (rowG m x i) := fun i hi => by
            obtain ⟨q1, q2⟩ := hrow i hi
            have hq := RQ.isQ (hs.qs _ (getD_mem default (show (m.rows.getD i 0).toNat < x.fls.length by omega)))
            exact (dq_low (hq.dq hk0) (dq_int hpen)).mono (by omega)
          have hL : I64 (m.rows.length : Int) := by unfold I64; omega
          have hq := RQ.isQ hr
          have d0 := dq_int (n := 0) (by unfold I64; omega)
          have dm := dq_mul (dq_int hL) (dq_low (hq.dq hk0) d0) (by omega)
          have dR := dq_sum m.rows.length hG
          have dC := dq_sum x.cuts.length fun j hj => cutH_dq hs p3 hj
          have hA1 : (k + 2 + 1) * m.rows.length ≤ (k + 2 + 1) * 32 := Nat.mul_le_mul_left _ m5
          have hA2 : (k + 2 + 1) * x.cuts.length ≤ (k + 2 + 1) * 32 := Nat.mul_le_mul_left _ p4
          obtain ⟨a, ds, b, es, e, _, _, l1, l2, _⟩ := isQ_enc (dq_add (dq_add dR dC) dm)
          exact ⟨a, ds, b, es, e, by omega, by omega⟩
        · rw [boundR_4 h1 h2 hin hf]; exact ⟨_, _, _, _, rfl, by decide, by decide⟩
      · rw [boundR_3 h1 h2 hin]; exact ⟨_, _, _, _, rfl, by decide, by decide⟩
    · rw [boundR_2 h1 h2]; exact ⟨_, _, _, _, rfl, by decide, by decide⟩
  · rw [boundR_1 h1]; exact ⟨_, _, _, _, rfl, by decide, by decide⟩
def tl3 : TCode → TCode
  | .seq _ c => c
  | c => c
def hd3 : TCode → TCode
  | .seq a _ => a
  | c => c
def L3A : TCode := hd3 F3.body
def L3B : TCode := hd3 (tl3 F3.body)
def L3C : TCode := hd3 (tl3 (tl3 F3.body))
def L3D : TCode := hd3 (tl3 (tl3 (tl3 F3.body)))
def L3E : TCode := hd3 (tl3 (tl3 (tl3 (tl3 F3.body))))
def L3F : TCode := hd3 (tl3 (tl3 (tl3 (tl3 (tl3 F3.body)))))
def L3G : TCode := tl3 (tl3 (tl3 (tl3 (tl3 (tl3 F3.body)))))
theorem body3 : F3.body = .seq L3A (.seq L3B (.seq L3C (.seq L3D (.seq L3E (.seq L3F L3G))))) := rfl
def Mid (st : St) (m : Mas) (x : Pri) (n : Int) : Prop := st.env 2 = .int .i64 n ∧ st.env 7 = .ptr 7 0 0 0 ∧ st.env 8 = .ptr 8 0 0 0 ∧ ∃ R F C D E : TV,
  st.obj 7 0 = some { cont := [[.int .i64 m.fl, R, .int .i64 m.pen, .sl (m.cols.map colC), .sl (m.cuts.map cutC)]], esz := 5, box := true, solo := true, tip := false } ∧
  st.obj 8 0 = some { cont := [[F, C, D, E, .bool x.free]], esz := 5, box := true, solo := true, tip := false } ∧
  Sees st 1 R (ints .i64 m.rows) ∧ Sees st 4 F (x.fls.map rqC) ∧ Sees st 2 C (x.cuts.map cutC) ∧ Sees st 4 D (x.duals.map rqC) ∧ Sees st 3 E (x.decs.map decC)
theorem law3_h1 {Q : Ex → St → Prop} {st : St} (m : Mas) (x : Pri) (n : Int) (a : Bool) (ds : List Nat) (b : Bool) (es : List Nat) (a' : Bool) (ds' : List Nat) (b' : Bool) (es' : List Nat) (err : Int)
    (hw : Gives mach 18 [.int .i64 (n.fdiv (2 ^ (min (Int.toNat 4) 64)))] (rawQ a ds b es)) (hb : Gives mach 17 [masT m, priT x, rawQ a ds b es] (.tup [rawQ a' ds' b' es', .int .i64 err]))
    (h : Mid st m x n) (c9 : st.cnt 9 = 0) (c11 : st.cnt 11 = 0)
    (hQ : ∀ s, Mid s m x n → s.cnt 11 = 0 → s.env 9 = .ptr 9 0 0 0 → s.obj 9 0 = some { cont := [[.bool a', .sl (dig ds'), .bool b', .sl (dig es')]], esz := 4, box := true, solo := true, tip := false } → s.env 10 = .int .i64 err → Q .norm s) : Goes mach L3E Q st := by
  obtain ⟨e2, e7, e8, R, F, C, D, E, o7, o8, sR, sF, sC, sD, sE⟩ := h
  have tR := sR.rd (f := 9) (by omega)
  have tF := sF.rd (f := 9) (by omega)
  have tC := sC.rd (f := 9) (by omega)
  have tD := sD.rd (f := 9) (by omega)
  have tE := sE.rd (f := 9) (by omega)
  have hs := fun b kk => bin_shr_i64 b kk n 4 (by decide)
  simp only [rawQ, seval] at hw hb
  simp only [L3E, hd3, tl3, F3, tmR, seval, e2, e7, e8, o7, o8, hs, wpcall_eq hw, tR, tF, tC, tD, tE, wpcall_eq hb, c9]
  refine hQ _ ⟨?_, ?_, ?_, R, F, C, D, E, ?_, ?_, ?_, ?_, ?_, ?_, ?_⟩ ?_ ?_ ?_ ?_
  · simp only [tmD, reduceIte, Nat.reduceEqDiff, Nat.reduceAdd, e2]
  · simp only [tmD, reduceIte, Nat.reduceEqDiff, Nat.reduceAdd, e7]
  · simp only [tmD, reduceIte, Nat.reduceEqDiff, Nat.reduceAdd, e8]
  · simp only [tmD, reduceIte, Nat.reduceEqDiff, Nat.reduceAdd]; exact unsol_box _ _ o7
  · simp only [tmD, reduceIte, Nat.reduceEqDiff, Nat.reduceAdd]; exact unsol_box _ _ o8
  · exact sR.mono2 (fun k g h1 h2 => by simp only [putO_obj, bump_obj, setO_obj, put_obj]; rw [if_neg (by omega), if_neg (by omega)]; exact ⟨_, _, _, rfl, rfl⟩)
  · exact sF.mono2 (fun k g h1 h2 => by simp only [putO_obj, bump_obj, setO_obj, put_obj]; rw [if_neg (by omega), if_neg (by omega)]; exact ⟨_, _, _, rfl, rfl⟩)
  · exact sC.mono2 (fun k g h1 h2 => by simp only [putO_obj, bump_obj, setO_obj, put_obj]; rw [if_neg (by omega), if_neg (by omega)]; exact ⟨_, _, _, rfl, rfl⟩)
  · exact sD.mono2 (fun k g h1 h2 => by simp only [putO_obj, bump_obj, setO_obj, put_obj]; rw [if_neg (by omega), if_neg (by omega)]; exact ⟨_, _, _, rfl, rfl⟩)
  · exact sE.mono2 (fun k g h1 h2 => by simp only [putO_obj, bump_obj, setO_obj, put_obj]; rw [if_neg (by omega), if_neg (by omega)]; exact ⟨_, _, _, rfl, rfl⟩)
  · simp only [tmD, reduceIte, Nat.reduceEqDiff, Nat.reduceAdd, c11]
  · simp only [tmD, reduceIte, Nat.reduceEqDiff, Nat.reduceAdd]
  · simp only [tmD, reduceIte, Nat.reduceEqDiff, Nat.reduceAdd]
  · simp only [tmD, reduceIte, Nat.reduceEqDiff, Nat.reduceAdd]
end Go.TM.Fn
end
section
namespace Go.TM.Fn
open Go Go.TM Go.Plain
set_option linter.unusedVariables false
set_option linter.unusedSimpArgs false
set_option maxRecDepth 20000
set_option maxHeartbeats 4000000
def SeesBut (st : St) (D : TV) (e : Nat) (v : TV) (xs : Cont) : Prop :=
  (xs = [] ∧ v = .nils) ∨ v = .sl xs ∨ ∃ g o, (∀ e' n, D ≠ .hs 17 g e' n) ∧ v = .hs 17 g e xs.length ∧ st.obj 17 g = some o ∧ o.cont = xs ∧ o.box = false ∧ o.esz = e
theorem SeesBut.sees {st st' : St} {D e v xs} (h : SeesBut st D e v xs) (ho : ∀ g, (∀ e' n, D ≠ .hs 17 g e' n) → st'.obj 17 g = st.obj 17 g) : Sees st' e v xs := by
  rcases h with h | h | ⟨g, o, h0, h1, h2, h3⟩
  · exact .inl h
  · exact .inr (.inl h)
  · exact .inr (.inr ⟨17, g, o, by omega, by omega, h1, by rw [ho g h0]; exact h2, h3⟩)
theorem SeesBut.mono {st st' : St} {D e v xs} (h : SeesBut st D e v xs) (ho : ∀ g, (∀ e' n, D ≠ .hs 17 g e' n) → st'.obj 17 g = st.obj 17 g) : SeesBut st' D e v xs := by
  rcases h with h | h | ⟨g, o, h0, h1, h2, h3⟩
  · exact .inl h
  · exact .inr (.inl h)
  · exact .inr (.inr ⟨g, o, h0, h1, by rw [ho g h0]; exact h2, h3⟩)
theorem SeesBut.cells {st : St} {D e v xs} (h : SeesBut st D e v xs) : v.cells = [v] := by
  rcases h with ⟨rfl, rfl⟩ | rfl | ⟨g, o, h0, rfl, _⟩ <;> rfl
theorem adopt_pri {cuts : List Cu} {n : Nat} {rv : TV} (h : PriBack cuts n rv) : ∃ cs, rv = .agg cs ∧ ∀ st : St, st.cnt 17 = 0 → ∃ (F D E : TV) (fls duals : List RQ) (decs : List Dec) (s1 : St),
    s1 = apply (some 17) { v := .agg (adopt 17 (st.cnt 17) cs).1, new := (adopt 17 (st.cnt 17) cs).2 } st ∧ s1.env 17 = .agg [F, .sl (cuts.map cutC), D, E, .bool false] ∧ (∀ i, i ≠ 17 → s1.env i = st.env i) ∧ (∀ k g, k ≠ 17 → s1.obj k g = st.obj k g) ∧ (∀ k, k ≠ 17 → s1.cnt k = st.cnt k) ∧
    SeesBut s1 D 4 F (fls.map rqC) ∧ GrowsC s1 17 4 D (duals.map rqC) ∧ SeesBut s1 D 3 E (decs.map decC) ∧ fls.length = 6 ∧ duals.length = n ∧ decs.length ≤ 2 ∧ (∀ r ∈ fls, RQ.Ok 10 r) ∧ ∀ r ∈ duals, RQ.Ok 10 r := by
  obtain ⟨F, D, E, fls, duals, decs, rfl, hF, hD, hE, l1, l2, l3, o1, o2⟩ := h
  refine ⟨_, rfl, fun st c17 => ?_⟩
  have hob : ∀ g c e, Sees st e (.hs 17 g e c) [] → True := fun _ _ _ _ => trivial
  rcases hF with ⟨z1, rfl⟩ | rfl | rfl <;> rcases hD with ⟨z2, rfl⟩ | rfl <;> rcases hE with ⟨z3, rfl⟩ | rfl | rfl
  all_goals
    refine ⟨_, _, _, fls, duals, decs, _, rfl, rfl, ?_, ?_, ?_, ?_, ?_, ?_, l1, l2, l3, o1, o2⟩
    · intro i hi; simp [apply, adopt, upd, hi]
    · intro k g hk; simp [apply, adopt, addNew, updO, hk]
    · intro k hk; simp [apply, adopt, upd, hk]
    · first
        | exact .inl ⟨z1, rfl⟩
        | exact .inr (.inl rfl)
        | (refine .inr (.inr ⟨0, { cont := fls.map rqC, esz := 4, box := false, solo := true, tip := true }, ?_, ?_, ?_, rfl, rfl, rfl⟩) <;> (try simp only [c17, apply, adopt, addNew, updO]) <;> simp <;> done)
    · first
        | exact .inl ⟨z2, rfl⟩
        | (refine .inr ⟨0, ?_, ?_, ?_⟩ <;> simp only [c17, apply, adopt, addNew, updO, upd] <;> simp <;> done)
        | (refine .inr ⟨1, ?_, ?_, ?_⟩ <;> simp only [c17, apply, adopt, addNew, updO, upd] <;> simp <;> done)
    · first
        | exact .inl ⟨z3, rfl⟩
        | exact .inr (.inl rfl)
        | (refine .inr (.inr ⟨0, { cont := decs.map decC, esz := 3, box := false, solo := true, tip := true }, ?_, ?_, ?_, rfl, rfl, rfl⟩) <;> (try simp only [c17, apply, adopt, addNew, updO]) <;> simp <;> done)
        | (refine .inr (.inr ⟨1, { cont := decs.map decC, esz := 3, box := false, solo := true, tip := true }, ?_, ?_, ?_, rfl, rfl, rfl⟩) <;> (try simp only [c17, apply, adopt, addNew, updO]) <;> simp <;> done)
        | (refine .inr (.inr ⟨2, { cont := decs.map decC, esz := 3, box := false, solo := true, tip := true }, ?_, ?_, ?_, rfl, rfl, rfl⟩) <;> (try simp only [c17, apply, adopt, addNew, updO]) <;> simp <;> done)
theorem law3_h2 {Q : Ex → St → Prop} {st : St} (m : Mas) (x : Pri) (n : Int) (a : Bool) (ds : List Nat) (b : Bool) (es : List Nat) (a' : Bool) (ds' : List Nat) (b' : Bool) (es' : List Nat) (err : Int)
    (hw : Gives mach 18 [.int .i64 (n.fdiv (2 ^ (min (Int.toNat 4) 64)))] (rawQ a ds b es)) (hb : Gives mach 19 [masT m, priT x, rawQ a ds b es] (.tup [rawQ a' ds' b' es', .int .i64 err]))
    (h : Mid st m x n) (c11 : st.cnt 11 = 0) (e9 : st.env 9 = .ptr 9 0 0 0) (o9 : st.obj 9 0 = some { cont := [[.bool a', .sl (dig ds'), .bool b', .sl (dig es')]], esz := 4, box := true, solo := true, tip := false }) (e10 : st.env 10 = .int .i64 err)
    (hQ : ∀ s, s.env 9 = .ptr 9 0 0 0 → s.obj 9 0 = some { cont := [[.bool a', .sl (dig ds'), .bool b', .sl (dig es')]], esz := 4, box := true, solo := true, tip := false } → s.env 10 = .int .i64 err → s.env 11 = .ptr 11 0 0 0 → s.obj 11 0 = some { cont := [[.bool a', .sl (dig ds'), .bool b', .sl (dig es')]], esz := 4, box := true, solo := true, tip := false } → s.env 12 = .int .i64 err → Q .norm s) : Goes mach L3F Q st := by
  obtain ⟨e2, e7, e8, R, F, C, D, E, o7, o8, sR, sF, sC, sD, sE⟩ := h
  have tR := sR.rd (f := 11) (by omega)
  have tF := sF.rd (f := 11) (by omega)
  have tC := sC.rd (f := 11) (by omega)
  have tD := sD.rd (f := 11) (by omega)
  have tE := sE.rd (f := 11) (by omega)
  have hs := fun b kk => bin_shr_i64 b kk n 4 (by decide)
  simp only [rawQ, seval] at hw hb
  simp only [L3F, hd3, tl3, F3, tmR, seval, e2, e7, e8, o7, o8, hs, wpcall_eq hw, tR, tF, tC, tD, tE, wpcall_eq hb, c11]
  refine hQ _ ?_ ?_ ?_ ?_ ?_ ?_
  · simp only [tmD, reduceIte, Nat.reduceEqDiff, Nat.reduceAdd, e9]
  · simp only [tmD, reduceIte, Nat.reduceEqDiff, Nat.reduceAdd]; exact unsol_box _ _ o9
  · simp only [tmD, reduceIte, Nat.reduceEqDiff, Nat.reduceAdd, e10]
  · simp only [tmD, reduceIte, Nat.reduceEqDiff, Nat.reduceAdd]
  · simp only [tmD, reduceIte, Nat.reduceEqDiff, Nat.reduceAdd]
  · simp only [tmD, reduceIte, Nat.reduceEqDiff, Nat.reduceAdd]
theorem law3_h3 {st : St} {args : List TV} (ha : hasOwn args = false) (hm : ∀ s, mutsOf s 0 args = some []) (a' : Bool) (ds' : List Nat) (b' : Bool) (es' : List Nat) (err : Int) (l1 : ds'.length < 2147483648) (l2 : es'.length < 2147483648)
    (e9 : st.env 9 = .ptr 9 0 0 0) (o9 : st.obj 9 0 = some { cont := [[.bool a', .sl (dig ds'), .bool b', .sl (dig es')]], esz := 4, box := true, solo := true, tip := false }) (e10 : st.env 10 = .int .i64 err) (e11 : st.env 11 = .ptr 11 0 0 0) (o11 : st.obj 11 0 = some { cont := [[.bool a', .sl (dig ds'), .bool b', .sl (dig es')]], esz := 4, box := true, solo := true, tip := false }) (e12 : st.env 12 = .int .i64 err) :
    Goes mach L3G (RetX [.tmp 6] args (.bool true)) st := by
  have hsame := same_c a' ds' b' es' l1 l2
  have hk : Gives mach 21 [] (.bool true) := ⟨_, known_o, rfl⟩
  simp only [rawQ] at hsame
  simp only [L3G, tl3, F3, tmR, seval, e9, o9, e10, e11, o11, e12, wpcall_eq hsame, wpcall_eq hk, retX_ret]
  simp only [finishR, resVals, resVal, hm, ha, hands, cells_bool, hand1_bool, List.flatMap_cons, List.flatMap_nil, List.append_nil, once, out, out1, tree1, tmD, reduceIte, Nat.reduceEqDiff, Nat.reduceAdd]
  simp
end Go.TM.Fn
end
section
namespace Go.TM.Fn
open Go Go.TM Go.Plain
set_option linter.unusedVariables false
set_option linter.unusedSimpArgs false
set_option maxRecDepth 20000
set_option maxHeartbeats 4000000
def L3Ct : List TStep := match L3C with
  | .reg ops => ops.drop 3
  | _ => []
theorem L3C_eq : L3C = .reg (⟨some 15, .load 5 true (.t 7), none, .full⟩ :: ⟨some 16, .mov (.t 1), none, .full⟩ :: ⟨some 17, .call 15 1 [] [.t 15, .t 16], none, .full⟩ :: L3Ct) := rfl
def Mid0 (st : St) (m : Mas) (x : Pri) (n : Int) : Prop := st.env 2 = .int .i64 n ∧ st.env 7 = .ptr 7 0 0 0 ∧ st.env 8 = .ptr 8 0 0 0 ∧ ∃ F D E : TV,
  st.obj 7 0 = some { cont := [masL m], esz := 5, box := true, solo := true, tip := false } ∧
  st.obj 8 0 = some { cont := [[F, .sl (x.cuts.map cutC), D, E, .bool x.free]], esz := 5, box := true, solo := true, tip := false } ∧
  SeesBut st D 4 F (x.fls.map rqC) ∧ GrowsC st 17 4 D (x.duals.map rqC) ∧ SeesBut st D 3 E (x.decs.map decC) ∧ st.cnt 9 = 0 ∧ st.cnt 11 = 0 ∧ ∀ k, 18 ≤ k → st.cnt k = 0
theorem law3_c {Q : Ex → St → Prop} {st : St} (m : Mas) (n : Int) (a : List Int) {rv : TV} (hcu : m.cuts.length ≤ 2) (hrs : ∀ c ∈ m.cuts, c.rs.length ≤ 5) (hp : PriBack m.cuts m.cuts.length rv) (hc : call mach 15 [masT m, .sl (ints .i64 a)] = some (rv, []))
    (e1 : st.env 1 = .sl (ints .i64 a)) (e2 : st.env 2 = .int .i64 n) (e7 : st.env 7 = .ptr 7 0 0 0) (o7 : st.obj 7 0 = some { cont := [masL m], esz := 5, box := true, solo := true, tip := false }) (c : ∀ k, 8 ≤ k → st.cnt k = 0)
    (hQ : ∀ s x, x.Small 10 → x.free = false → x.fls.length = 6 → x.cuts = m.cuts → x.duals.length ≤ 2 → Mid0 s m x n → Q .norm s) : Goes mach L3C Q st := by
  obtain ⟨cs, rfl, had⟩ := adopt_pri hp
  simp only [L3C_eq, tmR, seval, e1, e7, o7, wp_call1a (hc := hc)]
  obtain ⟨F, D, E, fls, duals, decs, s1, h1, v17, henv, hobj, hcnt, sF, gD, sE, l1, l2, l3, k1, k2⟩ := had (put (put st 15 (masT m)) 16 (.sl (ints .i64 a))) (by simp only [tmD, reduceIte, Nat.reduceEqDiff, Nat.reduceAdd]; exact c 17 (by omega))
  simp only [tmD, reduceIte, Nat.reduceEqDiff, Nat.reduceAdd, masT, masL] at h1
  rw [← h1]
  have c8 := hcnt 8 (by decide)
  have c9 := hcnt 9 (by decide)
  have c11 := hcnt 11 (by decide)
  have v2 := henv 2 (by decide)
  have v7 := henv 7 (by decide)
  have p7 := hobj 7 0 (by decide)
  simp only [tmD, reduceIte, Nat.reduceEqDiff, Nat.reduceAdd, c 8 (by omega)] at c8
  simp only [tmD, reduceIte, Nat.reduceEqDiff, Nat.reduceAdd, c 9 (by omega)] at c9
  simp only [tmD, reduceIte, Nat.reduceEqDiff, Nat.reduceAdd, c 11 (by omega)] at c11
  simp only [tmD, reduceIte, Nat.reduceEqDiff, Nat.reduceAdd, e2] at v2
  simp only [tmD, reduceIte, Nat.reduceEqDiff, Nat.reduceAdd, e7] at v7
  simp only [tmD, reduceIte, Nat.reduceEqDiff, Nat.reduceAdd, o7] at p7
  simp only [L3Ct, L3C, hd3, tl3, F3, tmR, seval, v17, c8]
  refine hQ _ ⟨fls, m.cuts, duals, decs, false⟩ ⟨by omega, by omega, by show fls.length < _; omega, by show m.cuts.length < _; omega, by show duals.length < _; omega, by show decs.length < _; omega, fun c hc => by have := hrs c hc; omega, k1, k2⟩ rfl l1 rfl (by show duals.length ≤ 2; omega) ⟨?_, ?_, ?_, F, D, E, ?_, ?_, ?_, ?_, ?_, ?_, ?_, ?_⟩
  · simp only [tmD, reduceIte, Nat.reduceEqDiff, Nat.reduceAdd, v2]
  · simp only [tmD, reduceIte, Nat.reduceEqDiff, Nat.reduceAdd, v7]
  · simp only [tmD, reduceIte, Nat.reduceEqDiff, Nat.reduceAdd]
  · simp only [tmD, reduceIte, Nat.reduceEqDiff, Nat.reduceAdd, p7]
  · simp only [tmD, reduceIte, Nat.reduceEqDiff, Nat.reduceAdd]
  · exact sF.mono (fun g _ => by simp only [tmD, reduceIte, Nat.reduceEqDiff, Nat.reduceAdd])
  · exact gD.mono (fun g _ => by simp only [tmD, reduceIte, Nat.reduceEqDiff, Nat.reduceAdd]) (by simp only [tmD, reduceIte, Nat.reduceEqDiff, Nat.reduceAdd]; exact Nat.le_refl _)
  · exact sE.mono (fun g _ => by simp only [tmD, reduceIte, Nat.reduceEqDiff, Nat.reduceAdd])
  · simp only [tmD, reduceIte, Nat.reduceEqDiff, Nat.reduceAdd, c9]
  · simp only [tmD, reduceIte, Nat.reduceEqDiff, Nat.reduceAdd, c11]
  · intro k hk
    have h := hcnt k (by omega)
    simp only [tmD, reduceIte, Nat.reduceEqDiff, Nat.reduceAdd] at h
    simp only [tmD, reduceIte, Nat.reduceEqDiff, Nat.reduceAdd]; rw [if_neg (by omega), h]; exact c k (by omega)
end Go.TM.Fn
end
section
namespace Go.TM.Fn
open Go Go.TM Go.Plain
set_option linter.unusedVariables false
set_option linter.unusedSimpArgs false
set_option maxRecDepth 20000
set_option maxHeartbeats 4000000
theorem GrowsC.sees {st st' : St} {v xs} (h : GrowsC st 17 4 v xs) (ho : ∀ g, st'.obj 17 g = st.obj 17 g) : Sees st' 4 v xs := by
  rcases h with h | ⟨g, h1, h2, h3⟩
  · exact .inl h
  · exact .inr (.inr ⟨17, g, _, by omega, by omega, h1, by rw [ho]; exact h3, rfl, rfl, rfl⟩)
theorem apply_us (d : Nat) (v : TV) (us) (st : St) : apply (some d) { v := v, unsolo := us } st = put (unsol true us st) d v := rfl
theorem slice_but {st : St} {D v : TV} {xs : Cont} (h : SeesBut st D 4 v xs) (hu : uni 4 xs = true) (hl : 1 ≤ xs.length) : ∃ us, sliceE st.obj 4 false v (some (.int .i64 1)) none none = some { v := .sl (xs.drop 1), unsolo := us } := by
  rcases h with ⟨rfl, rfl⟩ | rfl | ⟨g, o, h0, rfl, h2, rfl, h3, h4⟩
  · exact absurd hl (by decide)
  · exact ⟨[], by simp [sliceE, asNat, hu, hl]⟩
  · refine ⟨[(17, g)], ?_⟩
    simp [sliceE, asNat, h2, h3, h4, hl]
theorem law3_d {Q : Ex → St → Prop} {st : St} (m : Mas) (x : Pri) (n : Int) (hm : m.Small) (hx : x.Small 10) (hf : x.free = false) (hfl : x.fls.length = 6) (hcu : x.cuts.length ≤ 2) (hdu : x.duals.length ≤ 2) (h : Mid0 st m x n)
    (hQ : ∀ s m' x', m'.Small → x'.Small 10 → Mid s m' x' n → s.cnt 9 = 0 → s.cnt 11 = 0 → Q .norm s) : Goes mach L3D Q st := by
  obtain ⟨e2, e7, e8, F, D, E, o7, o8, sF, gD, sE, c9, c11, c18⟩ := h
  have h15 := and15 false n
  generalize andm n 15 = j at h15
  have cF := sF.cells
  have cD := gD.cells
  have cE := sE.cells
  by_cases j0 : (j : Int) = 0
  · simp only [L3D, hd3, tl3, F3, tmR, seval, e2, e8, o8, h15, j0]
    refine hQ _ m { x with free := true } hm ⟨hx.1, hx.2, hx.3, hx.4, hx.5, hx.6, hx.7, hx.8, hx.9⟩ ⟨?_, ?_, ?_, _, F, _, D, E, ?_, ?_, .inr (.inl rfl), ?_, .inr (.inl rfl), ?_, ?_⟩ ?_ ?_
    · simp only [tmD, reduceIte, Nat.reduceEqDiff, Nat.reduceAdd, e2]
    · simp only [tmD, reduceIte, Nat.reduceEqDiff, Nat.reduceAdd, e7]
    · simp only [tmD, reduceIte, Nat.reduceEqDiff, Nat.reduceAdd, e8]
    · simp only [tmD, reduceIte, Nat.reduceEqDiff, Nat.reduceAdd, o7]
    · simp only [tmD, reduceIte, Nat.reduceEqDiff, Nat.reduceAdd]
    · exact sF.sees (fun g _ => by simp only [tmD, reduceIte, Nat.reduceEqDiff, Nat.reduceAdd])
    · exact gD.sees (fun g => by simp only [tmD, reduceIte, Nat.reduceEqDiff, Nat.reduceAdd])
    · exact sE.sees (fun g _ => by simp only [tmD, reduceIte, Nat.reduceEqDiff, Nat.reduceAdd])
    · simp only [tmD, reduceIte, Nat.reduceEqDiff, Nat.reduceAdd, c9]
    · simp only [tmD, reduceIte, Nat.reduceEqDiff, Nat.reduceAdd, c11]
  by_cases j1 : (j : Int) = 1
  · obtain ⟨us, hus⟩ := slice_but sF (uni_map (C := rqC) (fun _ => rfl) _) (by rw [map_len]; omega)
    rw [hf] at o8
    simp only [L3D, hd3, tl3, F3, tmR, seval, e2, e8, o8, h15, j0, j1, hus, apply_us, unsol_objG, Bool.and_self, ite_self, Int.reduceEq]
    refine hQ _ m { x with fls := x.fls.drop 1 } hm ⟨hx.1, hx.2, by show (x.fls.drop 1).length < _; simp; omega, hx.4, hx.5, hx.6, hx.7, fun r hr => hx.8 r (List.mem_of_mem_drop hr), hx.9⟩ ⟨?_, ?_, ?_, _, _, _, D, E, ?_, ?_, .inr (.inl rfl), .inr (.inl rfl), .inr (.inl rfl), ?_, ?_⟩ ?_ ?_
    · simp only [tmD, reduceIte, Nat.reduceEqDiff, Nat.reduceAdd, e2]
    · simp only [tmD, reduceIte, Nat.reduceEqDiff, Nat.reduceAdd, e7]
    · simp only [tmD, reduceIte, Nat.reduceEqDiff, Nat.reduceAdd, e8]
    · simp only [tmD, reduceIte, Nat.reduceEqDiff, Nat.reduceAdd]; exact unsol_box _ _ o7
    · simp only [tmD, reduceIte, Nat.reduceEqDiff, Nat.reduceAdd, hf, List.map_drop]
    · exact (gD.sees (st' := st) (fun g => rfl)).mono2 (fun k g h1 h2 => by simp only [putO_obj, bump_obj, setO_obj, put_obj]; rw [if_neg (by omega)]; exact ⟨_, _, _, rfl, rfl⟩)
    · exact (sE.sees (st' := st) (fun g _ => rfl)).mono2 (fun k g h1 h2 => by simp only [putO_obj, bump_obj, setO_obj, put_obj]; rw [if_neg (by omega)]; exact ⟨_, _, _, rfl, rfl⟩)
    · simp only [tmD, reduceIte, Nat.reduceEqDiff, Nat.reduceAdd, c9]
    · simp only [tmD, reduceIte, Nat.reduceEqDiff, Nat.reduceAdd, c11]
  by_cases j2 : (j : Int) = 2
  · have c33 := c18 33 (by omega)
    have c34 := c18 34 (by omega)
    have c36 := c18 36 (by omega)
    have c37 := c18 37 (by omega)
    have c41 := c18 41 (by omega)
    have c42 := c18 42 (by omega)
    have wm := rint_c (n := -1) (by unfold I64; omega)
    have dm := dq_int (n := -1) (by unfold I64; omega)
    have ok1 : RQ.Ok 10 (rqOf ((-1 : Int) : Rat)) := rqOf_ok (dm.mono (by omega))
    have hu : uni 2 (x.cuts.map cutC) = true := uni_map (C := cutC) (fun _ => rfl) _
    have hlc : (x.cuts.length < 2147483648) = True := eq_true (by omega)
    have hlc1 : (x.cuts.length + 1 < 2147483648) = True := eq_true (by omega)
    have hld1 : (x.duals.length + 1 < 2147483648) = True := eq_true (by omega)
    have tkc : List.take x.cuts.length (x.cuts.map cutC) = x.cuts.map cutC := List.take_of_length_le (by rw [map_len]; exact Nat.le_refl _)
    have tkd : List.take x.duals.length (x.duals.map rqC) = x.duals.map rqC := List.take_of_length_le (by rw [map_len]; exact Nat.le_refl _)
    have ec : x.cuts.map cutC ++ [[.sl [[.int .i64 0], [.int .i64 5]], .int .i64 2]] = (x.cuts ++ [(⟨[0, 5], 2⟩ : Cu)]).map cutC := by simp; rfl
    have ed : x.duals.map rqC ++ [rqC (rqOf ((-1 : Int) : Rat))] = (x.duals ++ [rqOf ((-1 : Int) : Rat)]).map rqC := by simp
    have sx : Pri.Small 10 ⟨x.fls, x.cuts ++ [⟨[0, 5], 2⟩], x.duals ++ [rqOf ((-1 : Int) : Rat)], x.decs, x.free⟩ := ⟨hx.1, hx.2, hx.3, by simp; omega, by simp; omega, hx.6, fun c hc => by
        rcases List.mem_append.1 hc with h | h
        · exact hx.7 c h
        · simp only [List.mem_singleton] at h; subst h; simp, hx.8, fun r hr => by
        rcases List.mem_append.1 hr with h | h
        · exact hx.9 r h
        · simp only [List.mem_singleton] at h; subst h; exact ok1⟩
    by_cases hc0 : x.cuts = []
    · have hm0 : x.cuts.map cutC = [] := by rw [hc0]; rfl
      have hu0 : uni 2 ([] : Cont) = true := rfl
      rw [hm0] at o8
      rcases gD with ⟨zD, rfl⟩ | ⟨gd, rfl, hgd, od⟩
      · simp only [L3D, hd3, tl3, F3, tmR, seval, e2, e8, o8, h15, j0, j1, j2, Int.reduceEq, c33, c34, c36, c37, c41, c42, wp_app, appE, elems, apply_app2, hu, hu0, map_len, hlc, hlc1, hld1, tkc, tkd, wpcall_eq wm, reduceCtorEq, false_implies, forall_const]
        refine hQ _ m _ hm sx ⟨?_, ?_, ?_, _, F, .hs 37 0 2 1, .hs 42 0 4 1, E, ?_, ?_, .inr (.inl rfl), ?_, .inr (.inr ⟨37, 0, { cont := [[.sl [[.int .i64 0], [.int .i64 5]], .int .i64 2]], esz := 2, box := false, solo := true, tip := true }, by omega, by omega, ?_, ?_, by rw [← ec, hm0]; rfl, rfl, rfl⟩), .inr (.inr ⟨42, 0, { cont := [[.bool (decide (((-1 : Int) : Rat).num < 0)), .sl (dig (toDig ((-1 : Int) : Rat).num.natAbs)), .bool (decide ((((-1 : Int) : Rat).den : Int) < 0)), .sl (dig (toDig (((-1 : Int) : Rat).den : Int).natAbs))]], esz := 4, box := false, solo := true, tip := true }, by omega, by omega, ?_, ?_, by rw [← ed, zD]; rfl, rfl, rfl⟩), ?_⟩ ?_ ?_
        · simp only [tmD, reduceIte, Nat.reduceEqDiff, Nat.reduceAdd, e2]
        · simp only [tmD, reduceIte, Nat.reduceEqDiff, Nat.reduceAdd, e7]
        · simp only [tmD, reduceIte, Nat.reduceEqDiff, Nat.reduceAdd, e8]
        · simp only [tmD, reduceIte, Nat.reduceEqDiff, Nat.reduceAdd, o7]
        · simp only [tmD, reduceIte, Nat.reduceEqDiff, Nat.reduceAdd]
        · exact sF.sees (fun g _ => by simp only [tmD, reduceIte, Nat.reduceEqDiff, Nat.reduceAdd])
        · simp [hc0]
        · simp only [tmD, reduceIte, Nat.reduceEqDiff, Nat.reduceAdd]
        · rw [← ed, zD]; rfl
        · simp only [tmD, reduceIte, Nat.reduceEqDiff, Nat.reduceAdd]
        · exact sE.sees (fun g _ => by simp only [tmD, reduceIte, Nat.reduceEqDiff, Nat.reduceAdd])
        · simp only [tmD, reduceIte, Nat.reduceEqDiff, Nat.reduceAdd, c9]
        · simp only [tmD, reduceIte, Nat.reduceEqDiff, Nat.reduceAdd, c11]
      · simp only [L3D, hd3, tl3, F3, tmR, seval, e2, e8, o8, h15, j0, j1, j2, Int.reduceEq, c33, c34, c36, c37, c41, c42, wp_app, appE, elems, apply_app2, hu, hu0, map_len, hlc, hlc1, hld1, tkc, tkd, wpcall_eq wm, reduceCtorEq, false_implies, forall_const, od]
        refine hQ _ m _ hm sx ⟨?_, ?_, ?_, _, F, .hs 37 0 2 1, .hs 42 0 4 (x.duals.length + 1), E, ?_, ?_, .inr (.inl rfl), ?_, .inr (.inr ⟨37, 0, { cont := [[.sl [[.int .i64 0], [.int .i64 5]], .int .i64 2]], esz := 2, box := false, solo := true, tip := true }, by omega, by omega, ?_, ?_, by rw [← ec, hm0]; rfl, rfl, rfl⟩), .inr (.inr ⟨42, 0, { cont := x.duals.map rqC ++ [[.bool (decide (((-1 : Int) : Rat).num < 0)), .sl (dig (toDig ((-1 : Int) : Rat).num.natAbs)), .bool (decide ((((-1 : Int) : Rat).den : Int) < 0)), .sl (dig (toDig (((-1 : Int) : Rat).den : Int).natAbs))]], esz := 4, box := false, solo := false, tip := true }, by omega, by omega, ?_, ?_, ed, rfl, rfl⟩), ?_⟩ ?_ ?_
        · simp only [tmD, reduceIte, Nat.reduceEqDiff, Nat.reduceAdd, e2]
        · simp only [tmD, reduceIte, Nat.reduceEqDiff, Nat.reduceAdd, e7]
        · simp only [tmD, reduceIte, Nat.reduceEqDiff, Nat.reduceAdd, e8]
        · simp only [tmD, reduceIte, Nat.reduceEqDiff, Nat.reduceAdd, o7]
        · simp only [tmD, reduceIte, Nat.reduceEqDiff, Nat.reduceAdd]
        · exact sF.sees (fun g hg => by
            have hne' : ¬ g = gd := fun h => hg 4 _ (by rw [h])
            simp only [tmD, reduceIte, Nat.reduceEqDiff, Nat.reduceAdd, hne'])
        · simp [hc0]
        · simp only [tmD, reduceIte, Nat.reduceEqDiff, Nat.reduceAdd]
        · simp
        · simp only [tmD, reduceIte, Nat.reduceEqDiff, Nat.reduceAdd]
        · exact sE.sees (fun g hg => by
            have hne' : ¬ g = gd := fun h => hg 4 _ (by rw [h])
            simp only [tmD, reduceIte, Nat.reduceEqDiff, Nat.reduceAdd, hne'])
        · simp only [tmD, reduceIte, Nat.reduceEqDiff, Nat.reduceAdd, c9]
        · simp only [tmD, reduceIte, Nat.reduceEqDiff, Nat.reduceAdd, c11]
    · have hne : (x.cuts.map cutC = []) = False := eq_false (by simp [hc0])
      rcases gD with ⟨zD, rfl⟩ | ⟨gd, rfl, hgd, od⟩
      · simp only [L3D, hd3, tl3, F3, tmR, seval, e2, e8, o8, h15, j0, j1, j2, Int.reduceEq, c33, c34, c36, c37, c41, c42, wp_app, appE, elems, apply_app2, hu, hne, map_len, hlc, hlc1, hld1, tkc, tkd, wpcall_eq wm, reduceCtorEq, false_implies, forall_const]
        refine hQ _ m _ hm sx ⟨?_, ?_, ?_, _, F, .hs 37 0 2 (x.cuts.length + 1), .hs 42 0 4 1, E, ?_, ?_, .inr (.inl rfl), ?_, .inr (.inr ⟨37, 0, { cont := x.cuts.map cutC ++ [[.sl [[.int .i64 0], [.int .i64 5]], .int .i64 2]], esz := 2, box := false, solo := false, tip := true }, by omega, by omega, ?_, ?_, ec, rfl, rfl⟩), .inr (.inr ⟨42, 0, { cont := [[.bool (decide (((-1 : Int) : Rat).num < 0)), .sl (dig (toDig ((-1 : Int) : Rat).num.natAbs)), .bool (decide ((((-1 : Int) : Rat).den : Int) < 0)), .sl (dig (toDig (((-1 : Int) : Rat).den : Int).natAbs))]], esz := 4, box := false, solo := true, tip := true }, by omega, by omega, ?_, ?_, by rw [← ed, zD]; rfl, rfl, rfl⟩), ?_⟩ ?_ ?_
        · simp only [tmD, reduceIte, Nat.reduceEqDiff, Nat.reduceAdd, e2]
        · simp only [tmD, reduceIte, Nat.reduceEqDiff, Nat.reduceAdd, e7]
        · simp only [tmD, reduceIte, Nat.reduceEqDiff, Nat.reduceAdd, e8]
        · simp only [tmD, reduceIte, Nat.reduceEqDiff, Nat.reduceAdd, o7]
        · simp only [tmD, reduceIte, Nat.reduceEqDiff, Nat.reduceAdd]
        · exact sF.sees (fun g _ => by simp only [tmD, reduceIte, Nat.reduceEqDiff, Nat.reduceAdd])
        · simp
        · simp only [tmD, reduceIte, Nat.reduceEqDiff, Nat.reduceAdd]
        · rw [← ed, zD]; rfl
        · simp only [tmD, reduceIte, Nat.reduceEqDiff, Nat.reduceAdd]
        · exact sE.sees (fun g _ => by simp only [tmD, reduceIte, Nat.reduceEqDiff, Nat.reduceAdd])
        · simp only [tmD, reduceIte, Nat.reduceEqDiff, Nat.reduceAdd, c9]
        · simp only [tmD, reduceIte, Nat.reduceEqDiff, Nat.reduceAdd, c11]
      · simp only [L3D, hd3, tl3, F3, tmR, seval, e2, e8, o8, h15, j0, j1, j2, Int.reduceEq, c33, c34, c36, c37, c41, c42, wp_app, appE, elems, apply_app2, hu, hne, map_len, hlc, hlc1, hld1, tkc, tkd, wpcall_eq wm, reduceCtorEq, false_implies, forall_const, od]
        refine hQ _ m _ hm sx ⟨?_, ?_, ?_, _, F, .hs 37 0 2 (x.cuts.length + 1), .hs 42 0 4 (x.duals.length + 1), E, ?_, ?_, .inr (.inl rfl), ?_, .inr (.inr ⟨37, 0, { cont := x.cuts.map cutC ++ [[.sl [[.int .i64 0], [.int .i64 5]], .int .i64 2]], esz := 2, box := false, solo := false, tip := true }, by omega, by omega, ?_, ?_, ec, rfl, rfl⟩), .inr (.inr ⟨42, 0, { cont := x.duals.map rqC ++ [[.bool (decide (((-1 : Int) : Rat).num < 0)), .sl (dig (toDig ((-1 : Int) : Rat).num.natAbs)), .bool (decide ((((-1 : Int) : Rat).den : Int) < 0)), .sl (dig (toDig (((-1 : Int) : Rat).den : Int).natAbs))]], esz := 4, box := false, solo := false, tip := true }, by omega, by omega, ?_, ?_, ed, rfl, rfl⟩), ?_⟩ ?_ ?_
        · simp only [tmD, reduceIte, Nat.reduceEqDiff, Nat.reduceAdd, e2]
        · simp only [tmD, reduceIte, Nat.reduceEqDiff, Nat.reduceAdd, e7]
        · simp only [tmD, reduceIte, Nat.reduceEqDiff, Nat.reduceAdd, e8]
        · simp only [tmD, reduceIte, Nat.reduceEqDiff, Nat.reduceAdd, o7]
        · simp only [tmD, reduceIte, Nat.reduceEqDiff, Nat.reduceAdd]
        · exact sF.sees (fun g hg => by
            have hne' : ¬ g = gd := fun h => hg 4 _ (by rw [h])
            simp only [tmD, reduceIte, Nat.reduceEqDiff, Nat.reduceAdd, hne'])
        · simp
        · simp only [tmD, reduceIte, Nat.reduceEqDiff, Nat.reduceAdd]
        · simp
        · simp only [tmD, reduceIte, Nat.reduceEqDiff, Nat.reduceAdd]
        · exact sE.sees (fun g hg => by
            have hne' : ¬ g = gd := fun h => hg 4 _ (by rw [h])
            simp only [tmD, reduceIte, Nat.reduceEqDiff, Nat.reduceAdd, hne'])
        · simp only [tmD, reduceIte, Nat.reduceEqDiff, Nat.reduceAdd, c9]
        · simp only [tmD, reduceIte, Nat.reduceEqDiff, Nat.reduceAdd, c11]
  by_cases j3 : (j : Int) = 3
  · simp only [L3D, hd3, tl3, F3, tmR, seval, e2, e7, o7, e8, o8, h15, j0, j1, j2, j3, Int.reduceEq]
    refine hQ _ { m with rows := [] } x ⟨hm.1, by show ([] : List Int).length < _; simp, hm.3, hm.4, hm.5, hm.6⟩ hx ⟨?_, ?_, ?_, .nils, F, _, D, E, ?_, ?_, .inl ⟨rfl, rfl⟩, ?_, .inr (.inl rfl), ?_, ?_⟩ ?_ ?_
    · simp only [tmD, reduceIte, Nat.reduceEqDiff, Nat.reduceAdd, e2]
    · simp only [tmD, reduceIte, Nat.reduceEqDiff, Nat.reduceAdd, e7]
    · simp only [tmD, reduceIte, Nat.reduceEqDiff, Nat.reduceAdd, e8]
    · simp only [tmD, reduceIte, Nat.reduceEqDiff, Nat.reduceAdd]
    · simp only [tmD, reduceIte, Nat.reduceEqDiff, Nat.reduceAdd, o8]
    · exact sF.sees (fun g _ => by simp only [tmD, reduceIte, Nat.reduceEqDiff, Nat.reduceAdd])
    · exact gD.sees (fun g => by simp only [tmD, reduceIte, Nat.reduceEqDiff, Nat.reduceAdd])
    · exact sE.sees (fun g _ => by simp only [tmD, reduceIte, Nat.reduceEqDiff, Nat.reduceAdd])
    · simp only [tmD, reduceIte, Nat.reduceEqDiff, Nat.reduceAdd, c9]
    · simp only [tmD, reduceIte, Nat.reduceEqDiff, Nat.reduceAdd, c11]
  · simp only [L3D, hd3, tl3, F3, tmR, seval, e2, e7, o7, e8, o8, h15, j0, j1, j2, j3]
    refine hQ _ m x hm hx ⟨?_, ?_, ?_, _, F, _, D, E, ?_, ?_, .inr (.inl rfl), ?_, .inr (.inl rfl), ?_, ?_⟩ ?_ ?_
    · simp only [tmD, reduceIte, Nat.reduceEqDiff, Nat.reduceAdd, e2]
    · simp only [tmD, reduceIte, Nat.reduceEqDiff, Nat.reduceAdd, e7]
    · simp only [tmD, reduceIte, Nat.reduceEqDiff, Nat.reduceAdd, e8]
    · simp only [tmD, reduceIte, Nat.reduceEqDiff, Nat.reduceAdd, o7]
    · simp only [tmD, reduceIte, Nat.reduceEqDiff, Nat.reduceAdd, o8]
    · exact sF.sees (fun g _ => by simp only [tmD, reduceIte, Nat.reduceEqDiff, Nat.reduceAdd])
    · exact gD.sees (fun g => by simp only [tmD, reduceIte, Nat.reduceEqDiff, Nat.reduceAdd])
    · exact sE.sees (fun g _ => by simp only [tmD, reduceIte, Nat.reduceEqDiff, Nat.reduceAdd])
    · simp only [tmD, reduceIte, Nat.reduceEqDiff, Nat.reduceAdd, c9]
    · simp only [tmD, reduceIte, Nat.reduceEqDiff, Nat.reduceAdd, c11]
end Go.TM.Fn
end
section
namespace Go.TM.Fn
open Go Go.TM Go.Plain
set_option linter.unusedVariables false
set_option linter.unusedSimpArgs false
set_option maxRecDepth 20000
set_option maxHeartbeats 4000000
theorem law3_o (l a : List Int) (n : Int) (hl : l.length < 9223372036854775808) (ha : a.length < 9223372036854775808) : call mach 3 [.sl (ints .i64 l), .sl (ints .i64 a), .int .i64 n] = some (.bool true, []) := by
  obtain ⟨m, hm, hf, hc, hr, gm⟩ := master_c l hl
  obtain ⟨rv, pb, hp⟩ := prices_o m a hf hc ha
  obtain ⟨wa, wds, wb, wes, d1, d2, l1, l2, hw⟩ := wild_ex (n.fdiv (2 ^ (min (Int.toNat 4) 64)))
  have hr0 : RQ.Ok 100 ⟨wa, wds, wb, wes⟩ := ⟨d1, d2, l1, l2⟩
  refine givesX tab3 rfl ?_
  rw [body3]
  show Goes mach _ (RetX [.tmp 6] _ _) _
  simp only [wp_seq, L3A, L3B, hd3, tl3, F3, tmR, seval, wpcall_eq gm]
  refine law3_c m n a hc hr pb hp ?_ ?_ ?_ ?_ ?_ (fun s x sx fx flx cx hdl mid0 => ?_)
  · simp only [tmD, reduceIte, Nat.reduceEqDiff, Nat.reduceAdd]
  · simp only [tmD, reduceIte, Nat.reduceEqDiff, Nat.reduceAdd]
  · simp only [tmD, reduceIte, Nat.reduceEqDiff, Nat.reduceAdd]
  · simp only [tmD, reduceIte, Nat.reduceEqDiff, Nat.reduceAdd]
  · intro k hk
    simp only [tmD, reduceIte, Nat.reduceEqDiff, Nat.reduceAdd]; rw [if_neg (by omega)]
  · simp only [thenQ_norm, wp_seq]
    refine law3_d m x n hm sx fx flx (by rw [cx]; exact hc) hdl mid0 (fun s m' x' hm' hx' mid c9 c11 => ?_)
    have hx2 : x'.Small 100 := ⟨by omega, by omega, hx'.3, hx'.4, hx'.5, hx'.6, hx'.7, fun r hr => ⟨(hx'.8 r hr).1, (hx'.8 r hr).2.1, Nat.le_trans (hx'.8 r hr).2.2.1 (by omega), Nat.le_trans (hx'.8 r hr).2.2.2 (by omega)⟩, fun r hr => ⟨(hx'.9 r hr).1, (hx'.9 r hr).2.1, Nat.le_trans (hx'.9 r hr).2.2.1 (by omega), Nat.le_trans (hx'.9 r hr).2.2.2 (by omega)⟩⟩
    have hb1 := pbound_c m' x' ⟨wa, wds, wb, wes⟩ hm' hx2 (by omega) hr0
    have hb2 := rbound_c m' x' ⟨wa, wds, wb, wes⟩ hm' hx2 (by omega) hr0
    obtain ⟨ba, bds, bb, bes, be, bl1, bl2⟩ := boundR_raw m' x' ⟨wa, wds, wb, wes⟩ hm' hx2 (by omega) hr0
    rw [be] at hb1 hb2
    simp only [thenQ_norm, wp_seq]
    refine law3_h1 m' x' n wa wds wb wes ba bds bb bes _ hw hb1 mid c9 c11 (fun s mid c11 e9 o9 e10 => ?_)
    simp only [thenQ_norm, wp_seq]
    refine law3_h2 m' x' n wa wds wb wes ba bds bb bes _ hw hb2 mid c11 e9 o9 e10 (fun s e9 o9 e10 e11 o11 e12 => ?_)
    simp only [thenQ_norm]
    exact law3_h3 rfl (fun _ => rfl) ba bds bb bes _ bl1 bl2 e9 o9 e10 e11 o11 e12
end Go.TM.Fn
end
