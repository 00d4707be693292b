/- What the functions of the program and of the reference compute, up to the law. Conditions stand in each theorem. -/
import Derived.Test.YtjjaeedhbnchlaaGreatS4C2
import Derived.KernelRfl
section
namespace Go.TM.Fn
open Go Go.TM Go.Plain
set_option linter.unusedVariables false
set_option linter.unusedSimpArgs false
set_option maxRecDepth 20000
set_option maxHeartbeats 4000000
theorem fdiv_nat (n m : Nat) : (n : Int).fdiv (m : Int) = ((n / m : Nat) : Int) := by
  rw [Int.fdiv_eq_ediv_of_nonneg _ (by omega)]; simp
theorem shr_nat (b kk) (n : Nat) (y : Int) (hy : 0 ≤ y) : ∃ m : Nat, m ≤ n ∧ binTV b .shr (.int .i64 (n : Nat)) (.int kk y) = some (.int .i64 (m : Nat)) := by
  refine ⟨n / 2 ^ (min y.toNat 64), Nat.div_le_self _ _, ?_⟩
  rw [bin_shr_i64 _ _ _ _ hy, show ((2 : Int) ^ (min y.toNat 64)) = ((2 ^ (min y.toNat 64) : Nat) : Int) by simp, fdiv_nat]
def rest60 : TCode → TCode
  | .seq _ (.seq _ (.seq _ (.seq _ (.seq _ (.seq _ c))))) => c
  | c => c
theorem col_fin {s : St} {args : List TV} {b : ByteArray} {v : TV} {cost : Int} {ds : List (List Task)} (ha : hasOwn args = false) (hm : mutsOf s 0 args = some []) (h6 : s.env 6 = .ptr 6 0 0 0)
    (ho : s.obj 6 0 = some { cont := [[.str b, v, .int .i64 cost]], esz := 3, box := true, solo := true, tip := false }) (hg : GrowsS s [59, 80] 1 v (dutiesC ds)) (hds : SmallDs 16 ds) :
    ∃ rv, finishR [.cell 6 3 true] args s = some (rv, []) ∧ ∃ c : Col, view rv = .agg (colC c) ∧ SmallDs 16 c.ds := by
  rcases hg with ⟨h, rfl⟩ | ⟨k, g, o, hk, rfl, _, hob, hc, hb, he, ht⟩
  · refine ⟨.agg [.str b, .nils, .int .i64 cost], by simp [finishR, resVals, resVal, hm, ha, h6, ho, pull, hands, TV.cells, hand1, once, out, outs, out1, tree1], ⟨b, ds, cost⟩, ?_, hds⟩
    simp only [colC, h]; rfl
  · cases hs : o.solo
    · refine ⟨.agg [.str b, .sl (dutiesC ds), .int .i64 cost], by simp [finishR, resVals, resVal, hm, ha, h6, ho, pull, hands, TV.cells, hand1, once, out, outs, out1, tree1, hob, hb, he, hc, hs], ⟨b, ds, cost⟩, ?_, hds⟩
      rfl
    · refine ⟨.agg [.str b, .own 1 (dutiesC ds), .int .i64 cost], by simp [finishR, resVals, resVal, hm, ha, h6, ho, pull, hands, TV.cells, hand1, once, out, outs, out1, tree1, hob, hb, he, hc, hs, ht], ⟨b, ds, cost⟩, ?_, hds⟩
      rfl
theorem column_ex (rows : List Int) (n k : Nat) (hn : n < 4294967296) (h3 : 3 ≤ rows.length) (h5 : rows.length ≤ 5) : ∃ c : Col, SmallDs 16 c.ds ∧ Gives mach 60 [.sl (ints .i64 rows), .int .i64 (n : Nat), .int .i64 (k : Nat)] (.agg (colC c)) := by
  suffices h : ∃ v, (∃ c : Col, v = .agg (colC c) ∧ SmallDs 16 c.ds) ∧ Gives mach 60 [.sl (ints .i64 rows), .int .i64 (n : Nat), .int .i64 (k : Nat)] v by
    obtain ⟨_, ⟨c, rfl, h1⟩, h2⟩ := h
    exact ⟨c, h1, h2⟩
  refine givesE tab60 rfl ?_
  obtain ⟨n5, hn5, hsh⟩ := shr_nat false .u64 n 5 (by decide)
  obtain ⟨n6, hn6, hsh6⟩ := shr_nat false .u64 n 6 (by decide)
  have hrem : binTV false .rem (.int .i64 (n5 : Nat)) (.int .i64 41) = some (.int .i64 ((n5 % 41 : Nat) : Int)) := by rw [bin_rem _ _ _ _ (by decide)]; exact congrArg _ (congrArg _ (rem_nat n5 41))
  have hwm : IntKind.i64.wrap (((n5 % 41 : Nat) : Int) - 5) = ((n5 % 41 : Nat) : Int) - 5 := wrap_i64 (by omega) (by omega)
  have hlz : ((rows.length : Nat) : Int) ≠ 0 := by omega
  have hidx : n6 % rows.length < rows.length := Nat.mod_lt _ (by omega)
  have main : ∀ (s : St) (d : List Task) (ds : List (List Task)), s.env 0 = .sl (ints .i64 rows) → s.env 1 = .int .i64 (n : Nat) → s.env 6 = .ptr 6 0 0 0 → (∃ a b c, s.obj 6 0 = some { cont := [[a, b, c]], esz := 3, box := true, solo := true, tip := false }) → GrowsS s [18, 51, 73] 2 (s.env 7) (d.map taskC) → d.length ≤ 7 → GrowsS s [59, 80] 1 (s.env 8) (dutiesC ds) → SmallDs 7 ds → (∃ b, s.env 9 = .bool b) →
      Goes mach (rest60 F60.body) (RetE [.cell 6 3 true] [.sl (ints .i64 rows), .int .i64 (n : Nat), .int .i64 (k : Nat)] fun v => ∃ c : Col, v = .agg (colC c) ∧ SmallDs 16 c.ds) s := by
    intro s d ds h0 h1 h6 ⟨oa, ob, oc, ho6⟩ hgd hd hgs hds ⟨b9, h9⟩
    cases b9
    · simp only [rest60, F60, tmR, seval, h9, Bool.not_false, h0, h1, hsh6, ints_len, bin_rem _ _ _ _ hlz, rem_nat, iaddr_ints hidx]
      refine wp_growS [18, 51, 73] 73 (by decide) .full _ _ _ _ _ _ (xs := d.map taskC) (zs := [taskC (rows.getD (n6 % rows.length) 0, false)]) ?_ (fun k g => rfl) ?_ (by simp) (by simp; omega) ?_
      · simp only [tmR, seval]
        exact hgd.mono (fun k g hk _ => by simp only [List.mem_cons, List.not_mem_nil, or_false] at hk; rcases hk with rfl | rfl | rfl <;> simp only [tmD, reduceIte, Nat.reduceEqDiff, Nat.reduceAdd]) (fun k hk => by simp only [List.mem_cons, List.not_mem_nil, or_false] at hk; rcases hk with rfl | rfl | rfl <;> simp only [tmD, reduceIte, Nat.reduceEqDiff, Nat.reduceAdd] <;> exact Nat.le_refl _)
      · simp only [tmR, seval, elems]; rfl
      · intro st' v henv hobj hcnt hgd'
        have ho6' := hobj 6 0 (by decide)
        simp only [tmD, reduceIte, Nat.reduceEqDiff, Nat.reduceAdd, ho6] at ho6'
        have hgs' : GrowsS st' [59, 80] 1 (s.env 8) (dutiesC ds) := hgs.mono (fun k g hk _ => by
            have e := hobj k g (by simp only [List.mem_cons, List.not_mem_nil, or_false] at hk; rcases hk with rfl | rfl <;> decide)
            simp only [List.mem_cons, List.not_mem_nil, or_false] at hk
            rw [e]; rcases hk with rfl | rfl <;> simp only [tmD, reduceIte, Nat.reduceEqDiff, Nat.reduceAdd]) (fun k hk => by
            have e := hcnt k (by simp only [List.mem_cons, List.not_mem_nil, or_false] at hk; rcases hk with rfl | rfl <;> decide)
            simp only [List.mem_cons, List.not_mem_nil, or_false] at hk
            rw [e]; rcases hk with rfl | rfl <;> simp only [tmD, reduceIte, Nat.reduceEqDiff, Nat.reduceAdd] <;> exact Nat.le_refl _)
        clear hgd hgs
        have hgd := hgd'
        have hgs := hgs'
        have ho6 := ho6'
        have em : d.map taskC ++ [taskC (rows.getD (n6 % rows.length) 0, false)] = (d ++ [(rows.getD (n6 % rows.length) 0, false)]).map taskC := by simp
        rw [em] at hgd
        have hd1 : (d ++ [(rows.getD (n6 % rows.length) 0, false)]).length ≤ 8 := by simp; omega
        generalize d ++ [(rows.getD (n6 % rows.length) 0, false)] = dd at *
        obtain ⟨hz7, hv7⟩ | ⟨k7, g7, o7, hk7, hv7, hg7, ho7, hc7, hb7, he7, ht7⟩ := hgd
        · have hgf := hgs
          have hdsf : SmallDs 16 ds := ⟨by have := hds.1; omega, fun x hx => by have := hds.2 x hx; omega⟩
          obtain ⟨hz, hv⟩ | ⟨k8, g8, o8, hk8, hv, hc8⟩ := hgf
          · simp only [tmR, seval, henv, h0, h1, h6, ho6, hv7, hv, hsh, hrem, hwm]
            refine col_fin (b := ⟨#[65, 65, 65]⟩) (cost := ((n5 % 41 : Nat) : Int) - 5) (v := .nils) (ds := ds) rfl rfl ?_ ?_ (.inl ⟨hz, rfl⟩) hdsf
            · simp only [tmD, reduceIte, Nat.reduceEqDiff, Nat.reduceAdd, henv, h0, h1, h6, ho6, hv7, h6]
            · simp only [tmD, reduceIte, Nat.reduceEqDiff, Nat.reduceAdd, henv, h0, h1, h6, ho6, hv7, h6]
          · simp only [tmR, seval, henv, h0, h1, h6, ho6, hv7, hv, hsh, hrem, hwm]
            refine col_fin (b := ⟨#[65, 65, 65]⟩) (cost := ((n5 % 41 : Nat) : Int) - 5) (v := .hs k8 g8 1 (dutiesC (ds)).length) (ds := ds) rfl rfl ?_ ?_ ?_ hdsf
            · simp only [tmD, reduceIte, Nat.reduceEqDiff, Nat.reduceAdd, henv, h0, h1, h6, ho6, hv7, h6]
            · simp only [tmD, reduceIte, Nat.reduceEqDiff, Nat.reduceAdd, henv, h0, h1, h6, ho6, hv7, h6]
            · refine GrowsS.mono (st := st') (.inr ⟨k8, g8, o8, hk8, rfl, hc8⟩) (fun k g hk _ => ?_) (fun k hk => ?_)
              · simp only [List.mem_cons, List.not_mem_nil, or_false] at hk
                rcases hk with rfl | rfl <;> simp only [tmD, reduceIte, Nat.reduceEqDiff, Nat.reduceAdd]
              · simp only [List.mem_cons, List.not_mem_nil, or_false] at hk
                rcases hk with rfl | rfl <;> simp only [tmD, reduceIte, Nat.reduceEqDiff, Nat.reduceAdd] <;> exact Nat.le_refl _
        · by_cases hd0 : (dd).length = 0
          · have hlen0 : ((0 : Int) < (((dd).map taskC).length : Int)) = False := eq_false (by rw [map_len]; omega)
            have hgf := hgs
            have hdsf : SmallDs 16 ds := ⟨by have := hds.1; omega, fun x hx => by have := hds.2 x hx; omega⟩
            obtain ⟨hz, hv⟩ | ⟨k8, g8, o8, hk8, hv, hc8⟩ := hgf
            · simp only [tmR, seval, henv, h0, h1, h6, ho6, hv7, hlen0, hv, hsh, hrem, hwm]
              refine col_fin (b := ⟨#[65, 65, 65]⟩) (cost := ((n5 % 41 : Nat) : Int) - 5) (v := .nils) (ds := ds) rfl rfl ?_ ?_ (.inl ⟨hz, rfl⟩) hdsf
              · simp only [tmD, reduceIte, Nat.reduceEqDiff, Nat.reduceAdd, henv, h0, h1, h6, ho6, hv7, hlen0, h6]
              · simp only [tmD, reduceIte, Nat.reduceEqDiff, Nat.reduceAdd, henv, h0, h1, h6, ho6, hv7, hlen0, h6]
            · simp only [tmR, seval, henv, h0, h1, h6, ho6, hv7, hlen0, hv, hsh, hrem, hwm]
              refine col_fin (b := ⟨#[65, 65, 65]⟩) (cost := ((n5 % 41 : Nat) : Int) - 5) (v := .hs k8 g8 1 (dutiesC (ds)).length) (ds := ds) rfl rfl ?_ ?_ ?_ hdsf
              · simp only [tmD, reduceIte, Nat.reduceEqDiff, Nat.reduceAdd, henv, h0, h1, h6, ho6, hv7, hlen0, h6]
              · simp only [tmD, reduceIte, Nat.reduceEqDiff, Nat.reduceAdd, henv, h0, h1, h6, ho6, hv7, hlen0, h6]
              · refine GrowsS.mono (st := st') (.inr ⟨k8, g8, o8, hk8, rfl, hc8⟩) (fun k g hk _ => ?_) (fun k hk => ?_)
                · simp only [List.mem_cons, List.not_mem_nil, or_false] at hk
                  rcases hk with rfl | rfl <;> simp only [tmD, reduceIte, Nat.reduceEqDiff, Nat.reduceAdd]
                · simp only [List.mem_cons, List.not_mem_nil, or_false] at hk
                  rcases hk with rfl | rfl <;> simp only [tmD, reduceIte, Nat.reduceEqDiff, Nat.reduceAdd] <;> exact Nat.le_refl _
          · have hlen0 : ((0 : Int) < (((dd).map taskC).length : Int)) = True := eq_true (by rw [map_len]; omega)
            have hk6 : (6 == k7) = false := by simp only [List.mem_cons, List.not_mem_nil, or_false] at hk7; rcases hk7 with rfl | rfl | rfl <;> decide
            simp only [tmR, seval, henv, h0, h1, h6, ho6, hv7, hlen0, ho7, hb7, he7, hc7, List.take_length, apply_unew]
            refine wp_growS [59, 80] 80 (by decide) .full _ _ _ _ _ _ (xs := dutiesC ds) (zs := [dutyC (dd)]) ?_ (fun k g => rfl) ?_ (by simp) (by have := hds.1; simp [dutiesC]; omega) ?_
            · simp only [tmR, seval]
              exact (hgs.unsol (b := true) (hs := [(k7, g7)])).mono (fun k g hk _ => by simp only [List.mem_cons, List.not_mem_nil, or_false] at hk; rcases hk with rfl | rfl <;> simp only [tmD, reduceIte, Nat.reduceEqDiff, Nat.reduceAdd, unsol_objG]) (fun k hk => by simp only [List.mem_cons, List.not_mem_nil, or_false] at hk; rcases hk with rfl | rfl <;> simp only [tmD, reduceIte, Nat.reduceEqDiff, Nat.reduceAdd, unsol_cnt] <;> exact Nat.le_refl _)
            · simp only [tmR, seval, elems]; rfl
            · intro st2 v2 henv2 hobj2 hcnt2 hg2
              have ho62 := hobj2 6 0 (by decide)
              simp only [tmD, reduceIte, Nat.reduceEqDiff, Nat.reduceAdd, unsol_objG, ho6, Option.map_some, pr_beq, List.contains_cons, List.contains_nil, hk6, Bool.false_and, Bool.or_self, Bool.and_false, Bool.false_eq_true] at ho62
              have e80 : dutiesC ds ++ [dutyC (dd)] = dutiesC (ds ++ [dd]) := by simp [dutiesC]
              rw [e80] at hg2
              have hgf := hg2
              have hdsf : SmallDs 16 (ds ++ [dd]) := ⟨by have := hds.1; simp; omega, fun x hx => by
                rcases List.mem_append.1 hx with h | h
                · have := hds.2 x h; omega
                · simp only [List.mem_singleton] at h; subst h; omega⟩
              obtain ⟨hz, hv⟩ | ⟨k8, g8, o8, hk8, hv, hc8⟩ := hgf
              · simp only [tmR, seval, henv2, henv, h0, h1, h6, ho6, hv7, ho62, hv, hsh, hrem, hwm]
                refine col_fin (b := ⟨#[65, 65, 65]⟩) (cost := ((n5 % 41 : Nat) : Int) - 5) (v := .nils) (ds := ds ++ [dd]) rfl rfl ?_ ?_ (.inl ⟨hz, rfl⟩) hdsf
                · simp only [tmD, reduceIte, Nat.reduceEqDiff, Nat.reduceAdd, henv2, henv, h0, h1, h6, ho6, hv7, ho62, h6]
                · simp only [tmD, reduceIte, Nat.reduceEqDiff, Nat.reduceAdd, henv2, henv, h0, h1, h6, ho6, hv7, ho62, h6]
              · simp only [tmR, seval, henv2, henv, h0, h1, h6, ho6, hv7, ho62, hv, hsh, hrem, hwm]
                refine col_fin (b := ⟨#[65, 65, 65]⟩) (cost := ((n5 % 41 : Nat) : Int) - 5) (v := .hs k8 g8 1 (dutiesC (ds ++ [dd])).length) (ds := ds ++ [dd]) rfl rfl ?_ ?_ ?_ hdsf
                · simp only [tmD, reduceIte, Nat.reduceEqDiff, Nat.reduceAdd, henv2, henv, h0, h1, h6, ho6, hv7, ho62, h6]
                · simp only [tmD, reduceIte, Nat.reduceEqDiff, Nat.reduceAdd, henv2, henv, h0, h1, h6, ho6, hv7, ho62, h6]
                · refine GrowsS.mono (st := st2) (.inr ⟨k8, g8, o8, hk8, rfl, hc8⟩) (fun k g hk _ => ?_) (fun k hk => ?_)
                  · simp only [List.mem_cons, List.not_mem_nil, or_false] at hk
                    rcases hk with rfl | rfl <;> simp only [tmD, reduceIte, Nat.reduceEqDiff, Nat.reduceAdd]
                  · simp only [List.mem_cons, List.not_mem_nil, or_false] at hk
                    rcases hk with rfl | rfl <;> simp only [tmD, reduceIte, Nat.reduceEqDiff, Nat.reduceAdd] <;> exact Nat.le_refl _
    · have hd1 : d.length ≤ 8 := by omega
      simp only [rest60, F60, tmR, seval, h9, Bool.not_true, h0, h1]
      obtain ⟨hz7, hv7⟩ | ⟨k7, g7, o7, hk7, hv7, hg7, ho7, hc7, hb7, he7, ht7⟩ := hgd
      · have hgf := hgs
        have hdsf : SmallDs 16 ds := ⟨by have := hds.1; omega, fun x hx => by have := hds.2 x hx; omega⟩
        obtain ⟨hz, hv⟩ | ⟨k8, g8, o8, hk8, hv, hc8⟩ := hgf
        · simp only [tmR, seval, h0, h1, h6, ho6, hv7, hv, hsh, hrem, hwm]
          refine col_fin (b := ⟨#[65, 65, 65]⟩) (cost := ((n5 % 41 : Nat) : Int) - 5) (v := .nils) (ds := ds) rfl rfl ?_ ?_ (.inl ⟨hz, rfl⟩) hdsf
          · simp only [tmD, reduceIte, Nat.reduceEqDiff, Nat.reduceAdd, h0, h1, h6, ho6, hv7, h6]
          · simp only [tmD, reduceIte, Nat.reduceEqDiff, Nat.reduceAdd, h0, h1, h6, ho6, hv7, h6]
        · simp only [tmR, seval, h0, h1, h6, ho6, hv7, hv, hsh, hrem, hwm]
          refine col_fin (b := ⟨#[65, 65, 65]⟩) (cost := ((n5 % 41 : Nat) : Int) - 5) (v := .hs k8 g8 1 (dutiesC (ds)).length) (ds := ds) rfl rfl ?_ ?_ ?_ hdsf
          · simp only [tmD, reduceIte, Nat.reduceEqDiff, Nat.reduceAdd, h0, h1, h6, ho6, hv7, h6]
          · simp only [tmD, reduceIte, Nat.reduceEqDiff, Nat.reduceAdd, h0, h1, h6, ho6, hv7, h6]
          · refine GrowsS.mono (st := s) (.inr ⟨k8, g8, o8, hk8, rfl, hc8⟩) (fun k g hk _ => ?_) (fun k hk => ?_)
            · simp only [List.mem_cons, List.not_mem_nil, or_false] at hk
              rcases hk with rfl | rfl <;> simp only [tmD, reduceIte, Nat.reduceEqDiff, Nat.reduceAdd]
            · simp only [List.mem_cons, List.not_mem_nil, or_false] at hk
              rcases hk with rfl | rfl <;> simp only [tmD, reduceIte, Nat.reduceEqDiff, Nat.reduceAdd] <;> exact Nat.le_refl _
      · by_cases hd0 : (d).length = 0
        · have hlen0 : ((0 : Int) < (((d).map taskC).length : Int)) = False := eq_false (by rw [map_len]; omega)
          have hgf := hgs
          have hdsf : SmallDs 16 ds := ⟨by have := hds.1; omega, fun x hx => by have := hds.2 x hx; omega⟩
          obtain ⟨hz, hv⟩ | ⟨k8, g8, o8, hk8, hv, hc8⟩ := hgf
          · simp only [tmR, seval, h0, h1, h6, ho6, hv7, hlen0, hv, hsh, hrem, hwm]
            refine col_fin (b := ⟨#[65, 65, 65]⟩) (cost := ((n5 % 41 : Nat) : Int) - 5) (v := .nils) (ds := ds) rfl rfl ?_ ?_ (.inl ⟨hz, rfl⟩) hdsf
            · simp only [tmD, reduceIte, Nat.reduceEqDiff, Nat.reduceAdd, h0, h1, h6, ho6, hv7, hlen0, h6]
            · simp only [tmD, reduceIte, Nat.reduceEqDiff, Nat.reduceAdd, h0, h1, h6, ho6, hv7, hlen0, h6]
          · simp only [tmR, seval, h0, h1, h6, ho6, hv7, hlen0, hv, hsh, hrem, hwm]
            refine col_fin (b := ⟨#[65, 65, 65]⟩) (cost := ((n5 % 41 : Nat) : Int) - 5) (v := .hs k8 g8 1 (dutiesC (ds)).length) (ds := ds) rfl rfl ?_ ?_ ?_ hdsf
            · simp only [tmD, reduceIte, Nat.reduceEqDiff, Nat.reduceAdd, h0, h1, h6, ho6, hv7, hlen0, h6]
            · simp only [tmD, reduceIte, Nat.reduceEqDiff, Nat.reduceAdd, h0, h1, h6, ho6, hv7, hlen0, h6]
            · refine GrowsS.mono (st := s) (.inr ⟨k8, g8, o8, hk8, rfl, hc8⟩) (fun k g hk _ => ?_) (fun k hk => ?_)
              · simp only [List.mem_cons, List.not_mem_nil, or_false] at hk
                rcases hk with rfl | rfl <;> simp only [tmD, reduceIte, Nat.reduceEqDiff, Nat.reduceAdd]
              · simp only [List.mem_cons, List.not_mem_nil, or_false] at hk
                rcases hk with rfl | rfl <;> simp only [tmD, reduceIte, Nat.reduceEqDiff, Nat.reduceAdd] <;> exact Nat.le_refl _
        · have hlen0 : ((0 : Int) < (((d).map taskC).length : Int)) = True := eq_true (by rw [map_len]; omega)
          have hk6 : (6 == k7) = false := by simp only [List.mem_cons, List.not_mem_nil, or_false] at hk7; rcases hk7 with rfl | rfl | rfl <;> decide
          simp only [tmR, seval, h0, h1, h6, ho6, hv7, hlen0, ho7, hb7, he7, hc7, List.take_length, apply_unew]
          refine wp_growS [59, 80] 80 (by decide) .full _ _ _ _ _ _ (xs := dutiesC ds) (zs := [dutyC (d)]) ?_ (fun k g => rfl) ?_ (by simp) (by have := hds.1; simp [dutiesC]; omega) ?_
          · simp only [tmR, seval]
            exact (hgs.unsol (b := true) (hs := [(k7, g7)])).mono (fun k g hk _ => by simp only [List.mem_cons, List.not_mem_nil, or_false] at hk; rcases hk with rfl | rfl <;> simp only [tmD, reduceIte, Nat.reduceEqDiff, Nat.reduceAdd, unsol_objG]) (fun k hk => by simp only [List.mem_cons, List.not_mem_nil, or_false] at hk; rcases hk with rfl | rfl <;> simp only [tmD, reduceIte, Nat.reduceEqDiff, Nat.reduceAdd, unsol_cnt] <;> exact Nat.le_refl _)
          · simp only [tmR, seval, elems]; rfl
          · intro st2 v2 henv2 hobj2 hcnt2 hg2
            have ho62 := hobj2 6 0 (by decide)
            simp only [tmD, reduceIte, Nat.reduceEqDiff, Nat.reduceAdd, unsol_objG, ho6, Option.map_some, pr_beq, List.contains_cons, List.contains_nil, hk6, Bool.false_and, Bool.or_self, Bool.and_false, Bool.false_eq_true] at ho62
            have e80 : dutiesC ds ++ [dutyC (d)] = dutiesC (ds ++ [d]) := by simp [dutiesC]
            rw [e80] at hg2
            have hgf := hg2
            have hdsf : SmallDs 16 (ds ++ [d]) := ⟨by have := hds.1; simp; omega, fun x hx => by
              rcases List.mem_append.1 hx with h | h
              · have := hds.2 x h; omega
              · simp only [List.mem_singleton] at h; subst h; omega⟩
            obtain ⟨hz, hv⟩ | ⟨k8, g8, o8, hk8, hv, hc8⟩ := hgf
            · simp only [tmR, seval, henv2, h0, h1, h6, ho6, hv7, ho62, hv, hsh, hrem, hwm]
              refine col_fin (b := ⟨#[65, 65, 65]⟩) (cost := ((n5 % 41 : Nat) : Int) - 5) (v := .nils) (ds := ds ++ [d]) rfl rfl ?_ ?_ (.inl ⟨hz, rfl⟩) hdsf
              · simp only [tmD, reduceIte, Nat.reduceEqDiff, Nat.reduceAdd, henv2, h0, h1, h6, ho6, hv7, ho62, h6]
              · simp only [tmD, reduceIte, Nat.reduceEqDiff, Nat.reduceAdd, henv2, h0, h1, h6, ho6, hv7, ho62, h6]
            · simp only [tmR, seval, henv2, h0, h1, h6, ho6, hv7, ho62, hv, hsh, hrem, hwm]
              refine col_fin (b := ⟨#[65, 65, 65]⟩) (cost := ((n5 % 41 : Nat) : Int) - 5) (v := .hs k8 g8 1 (dutiesC (ds ++ [d])).length) (ds := ds ++ [d]) rfl rfl ?_ ?_ ?_ hdsf
              · simp only [tmD, reduceIte, Nat.reduceEqDiff, Nat.reduceAdd, henv2, h0, h1, h6, ho6, hv7, ho62, h6]
              · simp only [tmD, reduceIte, Nat.reduceEqDiff, Nat.reduceAdd, henv2, h0, h1, h6, ho6, hv7, ho62, h6]
              · refine GrowsS.mono (st := st2) (.inr ⟨k8, g8, o8, hk8, rfl, hc8⟩) (fun k g hk _ => ?_) (fun k hk => ?_)
                · simp only [List.mem_cons, List.not_mem_nil, or_false] at hk
                  rcases hk with rfl | rfl <;> simp only [tmD, reduceIte, Nat.reduceEqDiff, Nat.reduceAdd]
                · simp only [List.mem_cons, List.not_mem_nil, or_false] at hk
                  rcases hk with rfl | rfl <;> simp only [tmD, reduceIte, Nat.reduceEqDiff, Nat.reduceAdd] <;> exact Nat.le_refl _
  by_cases hk1 : (andm k 1 : Int) = 1
  · simp only [F60, tmR, seval, and1, hk1]
    refine wp_growS [18, 51, 73] 18 (by decide) .full _ _ _ _ _ _ (xs := []) (zs := [taskC (0, true)]) (.inl ⟨rfl, rfl⟩) (fun k g => rfl) ?_ (by simp) (by simp) ?_
    · simp only [tmR, seval, elems]; rfl
    · intro st' v henv hobj hcnt hg
      have ho6 := hobj 6 0 (by decide)
      simp only [tmD, reduceIte, Nat.reduceEqDiff, Nat.reduceAdd] at ho6
      simp only [tmR, seval, henv]
      refine loopCol rows n k h5 ?_ ?_ ?_ ?_ ⟨.str ⟨#[]⟩, .nils, .int .i64 0, ?_⟩ [(0, true)] (by simp) ?_ ?_ ⟨false, ?_⟩ ?_ (fun s d ds h0 h1 h6 ho6 hgd hd hgs hds h9 => ?_)
      · simp only [tmD, reduceIte, Nat.reduceEqDiff, Nat.reduceAdd, henv]
      · simp only [tmD, reduceIte, Nat.reduceEqDiff, Nat.reduceAdd, henv]
      · simp only [tmD, reduceIte, Nat.reduceEqDiff, Nat.reduceAdd, henv]
      · simp only [tmD, reduceIte, Nat.reduceEqDiff, Nat.reduceAdd, henv]
      · simp only [tmD, reduceIte, Nat.reduceEqDiff, Nat.reduceAdd]; exact ho6
      · simp only [tmD, reduceIte, Nat.reduceEqDiff, Nat.reduceAdd, henv]
        exact hg.mono (fun k g hk _ => by simp only [tmD, reduceIte, Nat.reduceEqDiff, Nat.reduceAdd]) (fun k hk => by simp only [tmD, reduceIte, Nat.reduceEqDiff, Nat.reduceAdd]; exact Nat.le_refl _)
      · simp only [tmD, reduceIte, Nat.reduceEqDiff, Nat.reduceAdd, henv]
      · simp only [tmD, reduceIte, Nat.reduceEqDiff, Nat.reduceAdd]
      · simp only [tmD, reduceIte, Nat.reduceEqDiff, Nat.reduceAdd]
      · simp only [blockQ_exit, if_true, thenQ_norm]
        exact main s d ds h0 h1 h6 ho6 hgd hd hgs hds h9
  · simp only [F60, tmR, seval, and1, hk1]
    refine loopCol rows n k h5 ?_ ?_ ?_ ?_ ⟨.str ⟨#[]⟩, .nils, .int .i64 0, ?_⟩ [] (by simp) ?_ ?_ ⟨false, ?_⟩ ?_ (fun s d ds h0 h1 h6 ho6 hgd hd hgs hds h9 => ?_)
    · simp only [tmD, reduceIte, Nat.reduceEqDiff, Nat.reduceAdd]
    · simp only [tmD, reduceIte, Nat.reduceEqDiff, Nat.reduceAdd]
    · simp only [tmD, reduceIte, Nat.reduceEqDiff, Nat.reduceAdd]
    · simp only [tmD, reduceIte, Nat.reduceEqDiff, Nat.reduceAdd]
    · simp only [tmD, reduceIte, Nat.reduceEqDiff, Nat.reduceAdd]
    · simp only [tmD, reduceIte, Nat.reduceEqDiff, Nat.reduceAdd]; exact .inl ⟨rfl, rfl⟩
    · simp only [tmD, reduceIte, Nat.reduceEqDiff, Nat.reduceAdd]
    · simp only [tmD, reduceIte, Nat.reduceEqDiff, Nat.reduceAdd]
    · simp only [tmD, reduceIte, Nat.reduceEqDiff, Nat.reduceAdd]
    · simp only [blockQ_exit, if_true, thenQ_norm]
      exact main s d ds h0 h1 h6 ho6 hgd hd hgs hds h9
end Go.TM.Fn
end
section
namespace Go.TM.Fn
open Go Go.TM Go.Plain
set_option linter.unusedVariables false
set_option linter.unusedSimpArgs false
set_option maxRecDepth 20000
set_option maxHeartbeats 4000000
theorem out1_grows {st S e v xs} (h : GrowsS st S e v xs) : ∃ u, out1 st.obj v = some u ∧ view1 u = .sl xs := by
  rcases h with ⟨rfl, rfl⟩ | ⟨k, g, o, hk, rfl, _, hob, hc, hb, he, ht⟩
  · exact ⟨.nils, rfl, rfl⟩
  · cases hs : o.solo
    · exact ⟨.sl xs, by simp [out1, hob, hb, he, hc, hs], rfl⟩
    · exact ⟨.own e xs, by simp [out1, hob, hb, he, hc, hs, ht], rfl⟩
theorem hand1_grows {st S e v xs} (h : GrowsS st S e v xs) : hand1 v = [] ∨ ∃ k g, k ∈ S ∧ hand1 v = [(k, g)] := by
  rcases h with ⟨rfl, rfl⟩ | ⟨k, g, o, hk, rfl, _⟩
  · exact .inl rfl
  · exact .inr ⟨k, g, hk, rfl⟩
theorem mas_fin {s : St} {args : List TV} {pen : Int} {v1 v3 v4 : TV} {rows : List Int} {cols : List Col} {cuts : List Cu} (ha : hasOwn args = false) (hm : mutsOf s 0 args = some []) (h2 : s.env 2 = .ptr 2 0 0 0)
    (ho : s.obj 2 0 = some { cont := [[.int .i64 6, v1, .int .i64 pen, v3, v4]], esz := 5, box := true, solo := true, tip := false }) (hg1 : GrowsS s [29] 1 v1 (ints .i64 rows)) (hg3 : GrowsS s [53] 3 v3 (cols.map colC)) (hg4 : GrowsS s [110] 2 v4 (cuts.map cutC)) :
    ∃ rv, finishR [.cell 2 5 true] args s = some (rv, []) ∧ view rv = masT ⟨6, rows, pen, cols, cuts⟩ := by
  obtain ⟨u1, e1, w1⟩ := out1_grows hg1
  obtain ⟨u3, e3, w3⟩ := out1_grows hg3
  obtain ⟨u4, e4, w4⟩ := out1_grows hg4
  have c6 : out1 s.obj (.int .i64 6) = some (.int .i64 6) := rfl
  have cp : out1 s.obj (.int .i64 pen) = some (.int .i64 pen) := rfl
  have hon : once (hands (.agg [.int .i64 6, v1, .int .i64 pen, v3, v4])) = true := by
    have i6 : hand1 (.int .i64 6) = [] := rfl
    have ip : hand1 (.int .i64 pen) = [] := rfl
    simp only [hands, TV.cells, List.flatMap_cons, List.flatMap_nil, i6, ip]
    rcases hand1_grows hg1 with h1 | ⟨k1, g1, hk1, h1⟩ <;> rcases hand1_grows hg3 with h3 | ⟨k3, g3, hk3, h3⟩ <;> rcases hand1_grows hg4 with h4 | ⟨k4, g4, hk4, h4⟩ <;>
      simp_all [once]
  refine ⟨.agg [.int .i64 6, u1, .int .i64 pen, u3, u4], ?_, ?_⟩
  · simp [finishR, resVals, resVal, hm, ha, h2, ho, pull, hon, out, outs, e1, e3, e4, c6, cp]
  · simp [view, viewA, w1, w3, w4]
    exact ⟨rfl, rfl⟩
def rowTab : List (List Int) := [[0, 1, 2], [1, 2, 4], [0, 1, 2, 3], [0, 2, 3, 5], [0, 1, 2, 3, 4], [1, 2, 3, 4, 5]]
theorem rowTab_len {r : Nat} (h : r < 6) : 3 ≤ (rowTab.getD r []).length ∧ (rowTab.getD r []).length ≤ 5 := by
  match r, h with
  | 0, _ => decide
  | 1, _ => decide
  | 2, _ => decide
  | 3, _ => decide
  | 4, _ => decide
  | 5, _ => decide
abbrev BoxG (s : St) (v1 : TV) (pen : Int) (v3 v4 : TV) : Prop := s.obj 3 0 = some { cont := [[.int .i64 6, v1, .int .i64 pen, v3, v4]], esz := 5, box := true, solo := true, tip := false }
abbrev Box2Z (s : St) : Prop := s.obj 2 0 = some { cont := [[.int .i64 0, .nils, .int .i64 0, .nils, .nils]], esz := 5, box := true, solo := true, tip := false }
theorem loopMasCols {Q : Ex → St → Prop} {st : St} (l rows : List Int) (pen : Int) (v1 : TV) (hl : l.length < 9223372036854775808) (hr3 : 3 ≤ rows.length) (hr5 : rows.length ≤ 5)
    (h0 : st.env 0 = .sl (ints .i64 l)) (h2 : st.env 2 = .ptr 2 0 0 0) (h3 : st.env 3 = .ptr 3 0 0 0) (h4 : st.env 4 = .sl (ints .i64 rows)) (h5 : st.env 5 = .int .i64 0) (b2 : Box2Z st) (hg1 : GrowsS st [29] 1 v1 (ints .i64 rows)) (b3 : BoxG st v1 pen .nils .nils)
    (hQ : ∀ (s : St) (v3 : TV) (cols : List Col), s.env 0 = .sl (ints .i64 l) → s.env 2 = .ptr 2 0 0 0 → s.env 3 = .ptr 3 0 0 0 → s.env 4 = .sl (ints .i64 rows) → Box2Z s → GrowsS s [29] 1 v1 (ints .i64 rows) → BoxG s v1 pen v3 .nils → GrowsS s [53] 3 v3 (cols.map colC) → cols.length ≤ 6 → (∀ c ∈ cols, SmallDs 16 c.ds) → Q (.exit 0) s) :
    Goes mach (.loop L14_0) Q st := by
  have at2 := at_c l 2 hl (by omega)
  have h7 : ((7 : Int)) ≠ 0 := by decide
  have hrem : binTV false .rem (.int .i64 (atN l 2 : Nat)) (.int .i64 7) = some (.int .i64 ((atN l 2 % 7 : Nat) : Int)) := by rw [bin_rem _ _ _ _ (by decide)]; exact congrArg _ (congrArg _ (rem_nat _ 7))
  have hlt7 : atN l 2 % 7 < 7 := Nat.mod_lt _ (by omega)
  have at2' : Gives mach 59 [.sl (ints .i64 l), .int .i64 2] (.int .i64 (atN l 2 : Nat)) := at2
  refine wp_for (fun i s => s.env 0 = .sl (ints .i64 l) ∧ s.env 2 = .ptr 2 0 0 0 ∧ s.env 3 = .ptr 3 0 0 0 ∧ s.env 4 = .sl (ints .i64 rows) ∧ s.env 5 = .int .i64 (i : Nat) ∧ Box2Z s ∧ GrowsS s [29] 1 v1 (ints .i64 rows) ∧
    ∃ (v3 : TV) (cols : List Col), BoxG s v1 pen v3 .nils ∧ GrowsS s [53] 3 v3 (cols.map colC) ∧ cols.length ≤ i ∧ ∀ c ∈ cols, SmallDs 16 c.ds) (atN l 2 % 7) ?_ ?_ (atN l 2 % 7) 0 _ (by omega) ?_
  · rintro i s hi ⟨h0, h2, h3, h4, h5, b2, hg1, v3, cols, b3, hg3, hcl, hcs⟩
    have hw : IntKind.i64.wrap ((i + 1 : Nat) : Int) = (i + 1 : Nat) := wrap_i64n (by omega)
    have hw2 : IntKind.i64.wrap (2 * (i : Int)) = ((2 * i : Nat) : Int) := by rw [wrap_i64 (by omega) (by omega)]; omega
    have hw5 : IntKind.i64.wrap (5 + ((2 * i : Nat) : Int)) = ((5 + 2 * i : Nat) : Int) := by rw [wrap_i64 (by omega) (by omega)]; omega
    have hw6 : IntKind.i64.wrap (6 + ((2 * i : Nat) : Int)) = ((6 + 2 * i : Nat) : Int) := by rw [wrap_i64 (by omega) (by omega)]; omega
    have a5 := at_c l (5 + 2 * i) hl (by omega)
    have a6 := at_c l (6 + 2 * i) hl (by omega)
    have l5 := atN_le l (5 + 2 * i)
    obtain ⟨c, hc, hcol⟩ := column_ex rows (atN l (5 + 2 * i)) (atN l (6 + 2 * i)) (by omega) hr3 hr5
    simp only [colC] at hcol
    simp only [L14_0, tmR, seval, h0, h3, h4, h5, b3, wpcall_eq at2', hrem, nat_lt, hi, hw2, hw5, hw6, wpcall_eq a5, wpcall_eq a6, wpcall_eq hcol]
    refine wp_growS [53] 53 (by decide) (.fb []) _ _ _ _ _ _ (xs := cols.map colC) (zs := [colC c]) ?_ (fun k g => rfl) ?_ (by simp) (by simp; omega) ?_
    · simp only [tmR, seval]
      exact hg3.mono (fun k g hk _ => by simp only [List.mem_cons, List.not_mem_nil, or_false] at hk; rcases hk with rfl; simp only [tmD, reduceIte, Nat.reduceEqDiff, Nat.reduceAdd]) (fun k hk => by simp only [List.mem_cons, List.not_mem_nil, or_false] at hk; rcases hk with rfl; simp only [tmD, reduceIte, Nat.reduceEqDiff, Nat.reduceAdd]; exact Nat.le_refl _)
    · simp only [tmR, seval, elems]; rfl
    · intro st' v henv hobj hcnt hg'
      have ho3 := hobj 3 0 (by decide)
      have ho2 := hobj 2 0 (by decide)
      simp only [tmD, reduceIte, Nat.reduceEqDiff, Nat.reduceAdd, b3] at ho3
      simp only [tmD, reduceIte, Nat.reduceEqDiff, Nat.reduceAdd, b2] at ho2
      have hg1' : GrowsS st' [29] 1 v1 (ints .i64 rows) := hg1.mono (fun k g hk _ => by
          have e := hobj k g (by simp only [List.mem_cons, List.not_mem_nil, or_false] at hk ⊢; omega)
          simp only [List.mem_cons, List.not_mem_nil, or_false] at hk
          rw [e]; rcases hk with rfl; simp only [tmD, reduceIte, Nat.reduceEqDiff, Nat.reduceAdd]) (fun k hk => by
          have e := hcnt k (by simp only [List.mem_cons, List.not_mem_nil, or_false] at hk; omega)
          simp only [List.mem_cons, List.not_mem_nil, or_false] at hk
          rw [e]; rcases hk with rfl; simp only [tmD, reduceIte, Nat.reduceEqDiff, Nat.reduceAdd]; exact Nat.le_refl _)
      have em : cols.map colC ++ [colC c] = (cols ++ [c]).map colC := by simp
      rw [em] at hg'
      obtain ⟨hz, _⟩ | ⟨k0, g0, o, hk0, hv, hrest⟩ := hg'
      · simp at hz
      · subst hv
        simp only [tmR, seval, henv, h0, h2, h3, h4, h5, ho3, nat_add_one, hw, Box2Z, ho2, BoxG]
        refine ⟨hg1'.mono (fun k g hk _ => by simp only [List.mem_cons, List.not_mem_nil, or_false] at hk; rcases hk with rfl; simp only [tmD, reduceIte, Nat.reduceEqDiff, Nat.reduceAdd]) (fun k hk => by simp only [tmD, reduceIte, Nat.reduceEqDiff, Nat.reduceAdd]; exact Nat.le_refl _), _, cols ++ [c], rfl, ?_, by simp; omega, fun x hx => ?_⟩
        · refine GrowsS.mono (st := st') (.inr ⟨k0, g0, o, hk0, rfl, hrest⟩) (fun k g hk _ => by simp only [List.mem_cons, List.not_mem_nil, or_false] at hk; rcases hk with rfl; simp only [tmD, reduceIte, Nat.reduceEqDiff, Nat.reduceAdd]) (fun k hk => by simp only [tmD, reduceIte, Nat.reduceEqDiff, Nat.reduceAdd]; exact Nat.le_refl _)
        · rcases List.mem_append.1 hx with h | h
          · exact hcs x h
          · simp only [List.mem_singleton] at h; subst h; exact hc
  · rintro s ⟨h0, h2, h3, h4, h5, b2, hg1, v3, cols, b3, hg3, hcl, hcs⟩
    simp only [L14_0, tmR, seval, h0, h5, wpcall_eq at2', hrem, Int.lt_irrefl]
    exact hQ _ v3 cols h0 h2 h3 h4 b2 (hg1.mono (fun k g hk _ => by simp only [tmD, reduceIte, Nat.reduceEqDiff, Nat.reduceAdd]) (fun k hk => by simp only [tmD, reduceIte, Nat.reduceEqDiff, Nat.reduceAdd]; exact Nat.le_refl _)) b3 (hg3.mono (fun k g hk _ => by simp only [tmD, reduceIte, Nat.reduceEqDiff, Nat.reduceAdd]) (fun k hk => by simp only [tmD, reduceIte, Nat.reduceEqDiff, Nat.reduceAdd]; exact Nat.le_refl _)) (by omega) hcs
  · exact ⟨h0, h2, h3, h4, h5, b2, hg1, .nils, [], b3, .inl ⟨rfl, rfl⟩, by simp, fun c hc => by cases hc⟩
end Go.TM.Fn
end
section
namespace Go.TM.Fn
open Go Go.TM Go.Plain
set_option linter.unusedVariables false
set_option linter.unusedSimpArgs false
set_option maxRecDepth 20000
set_option maxHeartbeats 4000000
theorem loopMasCut {Q : Ex → St → Prop} {st : St} (l rows : List Int) (pen : Int) (v1 v3 v4 : TV) (cols : List Col) (cuts : List Cu) (c i sk : Nat) (hr3 : 3 ≤ rows.length) (hr5 : rows.length ≤ 5)
    (h0 : st.env 0 = .sl (ints .i64 l)) (h2 : st.env 2 = .ptr 2 0 0 0) (h3 : st.env 3 = .ptr 3 0 0 0) (h4 : st.env 4 = .sl (ints .i64 rows)) (h6 : st.env 6 = .int .i64 (i : Nat)) (h7 : st.env 7 = .ptr 7 c 0 0) (h8 : st.env 8 = .int .i64 (sk : Nat)) (h9 : st.env 9 = .int .i64 0) (b2 : Box2Z st) (hg1 : GrowsS st [29] 1 v1 (ints .i64 rows)) (b3 : BoxG st v1 pen v3 v4) (hg3 : GrowsS st [53] 3 v3 (cols.map colC)) (hg4 : GrowsS st [110] 2 v4 (cuts.map cutC)) (b7 : st.obj 7 c = some { cont := [[.nils, .int .i64 2]], esz := 2, box := true, solo := true, tip := false })
    (hQ : ∀ (s : St) (w : TV) (rs : List Int), s.env 0 = .sl (ints .i64 l) → s.env 2 = .ptr 2 0 0 0 → s.env 3 = .ptr 3 0 0 0 → s.env 4 = .sl (ints .i64 rows) → s.env 6 = .int .i64 (i : Nat) → s.env 7 = .ptr 7 c 0 0 → Box2Z s → GrowsS s [29] 1 v1 (ints .i64 rows) → BoxG s v1 pen v3 v4 → GrowsS s [53] 3 v3 (cols.map colC) → GrowsS s [110] 2 v4 (cuts.map cutC) → s.obj 7 c = some { cont := [[w, .int .i64 2]], esz := 2, box := true, solo := true, tip := false } → GrowsS s [91] 1 w (ints .i64 rs) → rs.length ≤ 5 → Q (.exit 4) s) :
    Goes mach (.loop L14_2) Q st := by
  refine wp_for (fun j s => s.env 0 = .sl (ints .i64 l) ∧ s.env 2 = .ptr 2 0 0 0 ∧ s.env 3 = .ptr 3 0 0 0 ∧ s.env 4 = .sl (ints .i64 rows) ∧ s.env 6 = .int .i64 (i : Nat) ∧ s.env 7 = .ptr 7 c 0 0 ∧ s.env 8 = .int .i64 (sk : Nat) ∧ s.env 9 = .int .i64 (j : Nat) ∧ Box2Z s ∧ GrowsS s [29] 1 v1 (ints .i64 rows) ∧ BoxG s v1 pen v3 v4 ∧ GrowsS s [53] 3 v3 (cols.map colC) ∧ GrowsS s [110] 2 v4 (cuts.map cutC) ∧
    ∃ (w : TV) (rs : List Int), s.obj 7 c = some { cont := [[w, .int .i64 2]], esz := 2, box := true, solo := true, tip := false } ∧ GrowsS s [91] 1 w (ints .i64 rs) ∧ rs.length ≤ j) rows.length ?_ ?_ rows.length 0 _ (by omega) ?_
  · rintro j s hj ⟨h0, h2, h3, h4, h6, h7, h8, h9, b2, hg1, b3, hg3, hg4, w, rs, b7, hgw, hrs⟩
    have hw : IntKind.i64.wrap ((j + 1 : Nat) : Int) = (j + 1 : Nat) := wrap_i64n (by omega)
    by_cases hc : ¬ (j = sk) ∨ rows.length = 3
    · have step : ∀ X : Prop, (∀ (x1 : ((j : Int) = (sk : Int)) = False), X) → (∀ (x1 : ((j : Int) = (sk : Int)) = True) (x2 : ((rows.length : Int) = 3) = True), X) → X := fun X f g => by
        by_cases hjs : j = sk
        · exact g (eq_true (by omega)) (eq_true (by omega))
        · exact f (eq_false (by omega))
      have tail : ∀ (st1 : St) (QQ : St → Prop), True := fun _ _ => trivial
      refine step _ (fun x1 => ?_) (fun x1 x2 => ?_)
      · simp only [L14_2, tmR, seval, h0, h2, h3, h4, h6, h7, h8, h9, ints_len, nat_lt, hj, x1, b7, iaddr_ints hj]
        refine wp_growS [91] 91 (by decide) (.fb []) _ _ _ _ _ _ (xs := ints .i64 rs) (zs := [[TV.int .i64 (rows.getD j 0)]]) ?_ (fun k g => rfl) ?_ (by simp) (by simp [ints]; omega) ?_
        · simp only [tmR, seval]
          exact hgw.mono (fun k g hk _ => by simp only [List.mem_cons, List.not_mem_nil, or_false] at hk; rcases hk with rfl; simp only [tmD, reduceIte, Nat.reduceEqDiff, Nat.reduceAdd]) (fun k hk => by simp only [List.mem_cons, List.not_mem_nil, or_false] at hk; rcases hk with rfl; simp only [tmD, reduceIte, Nat.reduceEqDiff, Nat.reduceAdd]; exact Nat.le_refl _)
        · simp only [tmR, seval, elems]
        · intro st' v henv hobj hcnt hg'
          have ho3 := hobj 3 0 (by decide)
          have ho2 := hobj 2 0 (by decide)
          have ho7 := hobj 7 c (by decide)
          simp only [tmD, reduceIte, Nat.reduceEqDiff, Nat.reduceAdd, b3] at ho3
          simp only [tmD, reduceIte, Nat.reduceEqDiff, Nat.reduceAdd, b2] at ho2
          simp only [tmD, reduceIte, Nat.reduceEqDiff, Nat.reduceAdd, b7] at ho7
          have hg1' : GrowsS st' [29] _ _ _ := hg1.mono (fun k g hk _ => by
              have e := hobj k g (by simp only [List.mem_cons, List.not_mem_nil, or_false] at hk ⊢; omega)
              simp only [List.mem_cons, List.not_mem_nil, or_false] at hk
              rw [e]; rcases hk with rfl; simp only [tmD, reduceIte, Nat.reduceEqDiff, Nat.reduceAdd]) (fun k hk => by
              have e := hcnt k (by simp only [List.mem_cons, List.not_mem_nil, or_false] at hk; omega)
              simp only [List.mem_cons, List.not_mem_nil, or_false] at hk
              rw [e]; rcases hk with rfl; simp only [tmD, reduceIte, Nat.reduceEqDiff, Nat.reduceAdd]; exact Nat.le_refl _)
          have hg3' : GrowsS st' [53] _ _ _ := hg3.mono (fun k g hk _ => by
              have e := hobj k g (by simp only [List.mem_cons, List.not_mem_nil, or_false] at hk ⊢; omega)
              simp only [List.mem_cons, List.not_mem_nil, or_false] at hk
              rw [e]; rcases hk with rfl; simp only [tmD, reduceIte, Nat.reduceEqDiff, Nat.reduceAdd]) (fun k hk => by
              have e := hcnt k (by simp only [List.mem_cons, List.not_mem_nil, or_false] at hk; omega)
              simp only [List.mem_cons, List.not_mem_nil, or_false] at hk
              rw [e]; rcases hk with rfl; simp only [tmD, reduceIte, Nat.reduceEqDiff, Nat.reduceAdd]; exact Nat.le_refl _)
          have hg4' : GrowsS st' [110] _ _ _ := hg4.mono (fun k g hk _ => by
              have e := hobj k g (by simp only [List.mem_cons, List.not_mem_nil, or_false] at hk ⊢; omega)
              simp only [List.mem_cons, List.not_mem_nil, or_false] at hk
              rw [e]; rcases hk with rfl; simp only [tmD, reduceIte, Nat.reduceEqDiff, Nat.reduceAdd]) (fun k hk => by
              have e := hcnt k (by simp only [List.mem_cons, List.not_mem_nil, or_false] at hk; omega)
              simp only [List.mem_cons, List.not_mem_nil, or_false] at hk
              rw [e]; rcases hk with rfl; simp only [tmD, reduceIte, Nat.reduceEqDiff, Nat.reduceAdd]; exact Nat.le_refl _)
          have em : ints .i64 rs ++ [[TV.int .i64 (rows.getD j 0)]] = ints .i64 (rs ++ [rows.getD j 0]) := by simp [ints]
          rw [em] at hg'
          obtain ⟨hz, _⟩ | ⟨k0, g0, o, hk0, hv, hrest⟩ := hg'
          · simp [ints] at hz
          · subst hv
            simp only [tmR, seval, henv, h0, h2, h3, h4, h6, h7, h8, h9, ho7, nat_add_one, hw, Box2Z, ho2, BoxG, ho3]
            refine ⟨hg1'.mono (fun k g hk _ => by simp only [List.mem_cons, List.not_mem_nil, or_false] at hk; rcases hk with rfl; simp only [tmD, reduceIte, Nat.reduceEqDiff, Nat.reduceAdd]) (fun k hk => by simp only [tmD, reduceIte, Nat.reduceEqDiff, Nat.reduceAdd]; exact Nat.le_refl _), hg3'.mono (fun k g hk _ => by simp only [List.mem_cons, List.not_mem_nil, or_false] at hk; rcases hk with rfl; simp only [tmD, reduceIte, Nat.reduceEqDiff, Nat.reduceAdd]) (fun k hk => by simp only [tmD, reduceIte, Nat.reduceEqDiff, Nat.reduceAdd]; exact Nat.le_refl _), hg4'.mono (fun k g hk _ => by simp only [List.mem_cons, List.not_mem_nil, or_false] at hk; rcases hk with rfl; simp only [tmD, reduceIte, Nat.reduceEqDiff, Nat.reduceAdd]) (fun k hk => by simp only [tmD, reduceIte, Nat.reduceEqDiff, Nat.reduceAdd]; exact Nat.le_refl _), _, rs ++ [rows.getD j 0], rfl, ?_, by simp; omega⟩
            exact GrowsS.mono (st := st') (.inr ⟨k0, g0, o, hk0, rfl, hrest⟩) (fun k g hk _ => by simp only [List.mem_cons, List.not_mem_nil, or_false] at hk; rcases hk with rfl; simp only [tmD, reduceIte, Nat.reduceEqDiff, Nat.reduceAdd]) (fun k hk => by simp only [tmD, reduceIte, Nat.reduceEqDiff, Nat.reduceAdd]; exact Nat.le_refl _)
      · simp only [L14_2, tmR, seval, h0, h2, h3, h4, h6, h7, h8, h9, ints_len, nat_lt, hj, x1, x2, b7, iaddr_ints hj]
        refine wp_growS [91] 91 (by decide) (.fb []) _ _ _ _ _ _ (xs := ints .i64 rs) (zs := [[TV.int .i64 (rows.getD j 0)]]) ?_ (fun k g => rfl) ?_ (by simp) (by simp [ints]; omega) ?_
        · simp only [tmR, seval]
          exact hgw.mono (fun k g hk _ => by simp only [List.mem_cons, List.not_mem_nil, or_false] at hk; rcases hk with rfl; simp only [tmD, reduceIte, Nat.reduceEqDiff, Nat.reduceAdd]) (fun k hk => by simp only [List.mem_cons, List.not_mem_nil, or_false] at hk; rcases hk with rfl; simp only [tmD, reduceIte, Nat.reduceEqDiff, Nat.reduceAdd]; exact Nat.le_refl _)
        · simp only [tmR, seval, elems]
        · intro st' v henv hobj hcnt hg'
          have ho3 := hobj 3 0 (by decide)
          have ho2 := hobj 2 0 (by decide)
          have ho7 := hobj 7 c (by decide)
          simp only [tmD, reduceIte, Nat.reduceEqDiff, Nat.reduceAdd, b3] at ho3
          simp only [tmD, reduceIte, Nat.reduceEqDiff, Nat.reduceAdd, b2] at ho2
          simp only [tmD, reduceIte, Nat.reduceEqDiff, Nat.reduceAdd, b7] at ho7
          have hg1' : GrowsS st' [29] _ _ _ := hg1.mono (fun k g hk _ => by
              have e := hobj k g (by simp only [List.mem_cons, List.not_mem_nil, or_false] at hk ⊢; omega)
              simp only [List.mem_cons, List.not_mem_nil, or_false] at hk
              rw [e]; rcases hk with rfl; simp only [tmD, reduceIte, Nat.reduceEqDiff, Nat.reduceAdd]) (fun k hk => by
              have e := hcnt k (by simp only [List.mem_cons, List.not_mem_nil, or_false] at hk; omega)
              simp only [List.mem_cons, List.not_mem_nil, or_false] at hk
              rw [e]; rcases hk with rfl; simp only [tmD, reduceIte, Nat.reduceEqDiff, Nat.reduceAdd]; exact Nat.le_refl _)
          have hg3' : GrowsS st' [53] _ _ _ := hg3.mono (fun k g hk _ => by
              have e := hobj k g (by simp only [List.mem_cons, List.not_mem_nil, or_false] at hk ⊢; omega)
              simp only [List.mem_cons, List.not_mem_nil, or_false] at hk
              rw [e]; rcases hk with rfl; simp only [tmD, reduceIte, Nat.reduceEqDiff, Nat.reduceAdd]) (fun k hk => by
              have e := hcnt k (by simp only [List.mem_cons, List.not_mem_nil, or_false] at hk; omega)
              simp only [List.mem_cons, List.not_mem_nil, or_false] at hk
              rw [e]; rcases hk with rfl; simp only [tmD, reduceIte, Nat.reduceEqDiff, Nat.reduceAdd]; exact Nat.le_refl _)
          have hg4' : GrowsS st' [110] _ _ _ := hg4.mono (fun k g hk _ => by
              have e := hobj k g (by simp only [List.mem_cons, List.not_mem_nil, or_false] at hk ⊢; omega)
              simp only [List.mem_cons, List.not_mem_nil, or_false] at hk
              rw [e]; rcases hk with rfl; simp only [tmD, reduceIte, Nat.reduceEqDiff, Nat.reduceAdd]) (fun k hk => by
              have e := hcnt k (by simp only [List.mem_cons, List.not_mem_nil, or_false] at hk; omega)
              simp only [List.mem_cons, List.not_mem_nil, or_false] at hk
              rw [e]; rcases hk with rfl; simp only [tmD, reduceIte, Nat.reduceEqDiff, Nat.reduceAdd]; exact Nat.le_refl _)
          have em : ints .i64 rs ++ [[TV.int .i64 (rows.getD j 0)]] = ints .i64 (rs ++ [rows.getD j 0]) := by simp [ints]
          rw [em] at hg'
          obtain ⟨hz, _⟩ | ⟨k0, g0, o, hk0, hv, hrest⟩ := hg'
          · simp [ints] at hz
          · subst hv
            simp only [tmR, seval, henv, h0, h2, h3, h4, h6, h7, h8, h9, ho7, nat_add_one, hw, Box2Z, ho2, BoxG, ho3]
            refine ⟨hg1'.mono (fun k g hk _ => by simp only [List.mem_cons, List.not_mem_nil, or_false] at hk; rcases hk with rfl; simp only [tmD, reduceIte, Nat.reduceEqDiff, Nat.reduceAdd]) (fun k hk => by simp only [tmD, reduceIte, Nat.reduceEqDiff, Nat.reduceAdd]; exact Nat.le_refl _), hg3'.mono (fun k g hk _ => by simp only [List.mem_cons, List.not_mem_nil, or_false] at hk; rcases hk with rfl; simp only [tmD, reduceIte, Nat.reduceEqDiff, Nat.reduceAdd]) (fun k hk => by simp only [tmD, reduceIte, Nat.reduceEqDiff, Nat.reduceAdd]; exact Nat.le_refl _), hg4'.mono (fun k g hk _ => by simp only [List.mem_cons, List.not_mem_nil, or_false] at hk; rcases hk with rfl; simp only [tmD, reduceIte, Nat.reduceEqDiff, Nat.reduceAdd]) (fun k hk => by simp only [tmD, reduceIte, Nat.reduceEqDiff, Nat.reduceAdd]; exact Nat.le_refl _), _, rs ++ [rows.getD j 0], rfl, ?_, by simp; omega⟩
            exact GrowsS.mono (st := st') (.inr ⟨k0, g0, o, hk0, rfl, hrest⟩) (fun k g hk _ => by simp only [List.mem_cons, List.not_mem_nil, or_false] at hk; rcases hk with rfl; simp only [tmD, reduceIte, Nat.reduceEqDiff, Nat.reduceAdd]) (fun k hk => by simp only [tmD, reduceIte, Nat.reduceEqDiff, Nat.reduceAdd]; exact Nat.le_refl _)
    · have x1 : ((j : Int) = (sk : Int)) = True := eq_true (by omega)
      have x2 : ((rows.length : Int) = 3) = False := eq_false (by omega)
      simp only [L14_2, tmR, seval, h0, h2, h3, h4, h6, h7, h8, h9, ints_len, nat_lt, hj, x1, x2, b7, nat_add_one, hw, Box2Z, b2, BoxG, b3]
      exact ⟨hg1.mono (fun k g hk _ => by simp only [tmD, reduceIte, Nat.reduceEqDiff, Nat.reduceAdd]) (fun k hk => by simp only [tmD, reduceIte, Nat.reduceEqDiff, Nat.reduceAdd]; exact Nat.le_refl _), hg3.mono (fun k g hk _ => by simp only [tmD, reduceIte, Nat.reduceEqDiff, Nat.reduceAdd]) (fun k hk => by simp only [tmD, reduceIte, Nat.reduceEqDiff, Nat.reduceAdd]; exact Nat.le_refl _), hg4.mono (fun k g hk _ => by simp only [tmD, reduceIte, Nat.reduceEqDiff, Nat.reduceAdd]) (fun k hk => by simp only [tmD, reduceIte, Nat.reduceEqDiff, Nat.reduceAdd]; exact Nat.le_refl _), w, rs, rfl, hgw.mono (fun k g hk _ => by simp only [tmD, reduceIte, Nat.reduceEqDiff, Nat.reduceAdd]) (fun k hk => by simp only [tmD, reduceIte, Nat.reduceEqDiff, Nat.reduceAdd]; exact Nat.le_refl _), by omega⟩
  · rintro s ⟨h0, h2, h3, h4, h6, h7, h8, h9, b2, hg1, b3, hg3, hg4, w, rs, b7, hgw, hrs⟩
    simp only [L14_2, tmR, seval, h4, h9, ints_len, Int.lt_irrefl]
    exact hQ _ w rs h0 h2 h3 h4 h6 h7 b2 (hg1.mono (fun k g hk _ => by simp only [tmD, reduceIte, Nat.reduceEqDiff, Nat.reduceAdd]) (fun k hk => by simp only [tmD, reduceIte, Nat.reduceEqDiff, Nat.reduceAdd]; exact Nat.le_refl _)) b3 (hg3.mono (fun k g hk _ => by simp only [tmD, reduceIte, Nat.reduceEqDiff, Nat.reduceAdd]) (fun k hk => by simp only [tmD, reduceIte, Nat.reduceEqDiff, Nat.reduceAdd]; exact Nat.le_refl _)) (hg4.mono (fun k g hk _ => by simp only [tmD, reduceIte, Nat.reduceEqDiff, Nat.reduceAdd]) (fun k hk => by simp only [tmD, reduceIte, Nat.reduceEqDiff, Nat.reduceAdd]; exact Nat.le_refl _)) b7 (hgw.mono (fun k g hk _ => by simp only [tmD, reduceIte, Nat.reduceEqDiff, Nat.reduceAdd]) (fun k hk => by simp only [tmD, reduceIte, Nat.reduceEqDiff, Nat.reduceAdd]; exact Nat.le_refl _)) (by omega)
  · exact ⟨h0, h2, h3, h4, h6, h7, h8, h9, b2, hg1, b3, hg3, hg4, .nils, [], b7, .inl ⟨rfl, rfl⟩, by simp⟩
theorem loopMasCuts {Q : Ex → St → Prop} {st : St} (l rows : List Int) (pen : Int) (v1 v3 : TV) (cols : List Col) (hl : l.length < 9223372036854775808) (hr3 : 3 ≤ rows.length) (hr5 : rows.length ≤ 5)
    (h0 : st.env 0 = .sl (ints .i64 l)) (h2 : st.env 2 = .ptr 2 0 0 0) (h3 : st.env 3 = .ptr 3 0 0 0) (h4 : st.env 4 = .sl (ints .i64 rows)) (h6 : st.env 6 = .int .i64 0) (b2 : Box2Z st) (hg1 : GrowsS st [29] 1 v1 (ints .i64 rows)) (b3 : BoxG st v1 pen v3 .nils) (hg3 : GrowsS st [53] 3 v3 (cols.map colC))
    (hQ : ∀ (s : St) (v4 : TV) (cuts : List Cu), s.env 2 = .ptr 2 0 0 0 → s.env 3 = .ptr 3 0 0 0 → Box2Z s → GrowsS s [29] 1 v1 (ints .i64 rows) → BoxG s v1 pen v3 v4 → GrowsS s [53] 3 v3 (cols.map colC) → GrowsS s [110] 2 v4 (cuts.map cutC) → cuts.length ≤ 2 → (∀ c ∈ cuts, c.rs.length ≤ 5) → Q (.exit 2) s) :
    Goes mach (.loop L14_1) Q st := by
  have at3' : Gives mach 59 [.sl (ints .i64 l), .int .i64 3] (.int .i64 (atN l 3 : Nat)) := at_c l 3 hl (by omega)
  have hrem : binTV false .rem (.int .i64 (atN l 3 : Nat)) (.int .i64 3) = some (.int .i64 ((atN l 3 % 3 : Nat) : Int)) := by rw [bin_rem _ _ _ _ (by decide)]; exact congrArg _ (congrArg _ (rem_nat _ 3))
  have hlt3 : atN l 3 % 3 < 3 := Nat.mod_lt _ (by omega)
  have hlz : ((rows.length : Nat) : Int) ≠ 0 := by omega
  refine wp_for (fun i s => s.env 0 = .sl (ints .i64 l) ∧ s.env 2 = .ptr 2 0 0 0 ∧ s.env 3 = .ptr 3 0 0 0 ∧ s.env 4 = .sl (ints .i64 rows) ∧ s.env 6 = .int .i64 (i : Nat) ∧ Box2Z s ∧ GrowsS s [29] 1 v1 (ints .i64 rows) ∧ GrowsS s [53] 3 v3 (cols.map colC) ∧
    ∃ (v4 : TV) (cuts : List Cu), BoxG s v1 pen v3 v4 ∧ GrowsS s [110] 2 v4 (cuts.map cutC) ∧ cuts.length ≤ i ∧ ∀ c ∈ cuts, c.rs.length ≤ 5) (atN l 3 % 3) ?_ ?_ (atN l 3 % 3) 0 _ (by omega) ?_
  · rintro i s hi ⟨h0, h2, h3, h4, h6, b2, hg1, hg3, v4, cuts, b3, hg4, hcl, hcu⟩
    have hw : IntKind.i64.wrap ((i + 1 : Nat) : Int) = (i + 1 : Nat) := wrap_i64n (by omega)
    have hw20 : IntKind.i64.wrap (20 + (i : Int)) = ((20 + i : Nat) : Int) := by rw [wrap_i64 (by omega) (by omega)]; omega
    have hw24 : IntKind.i64.wrap (24 + (i : Int)) = ((24 + i : Nat) : Int) := by rw [wrap_i64 (by omega) (by omega)]; omega
    have a20 := at_c l (20 + i) hl (by omega)
    have a24 := at_c l (24 + i) hl (by omega)
    have hrem2 : binTV false .rem (.int .i64 (atN l (24 + i) : Nat)) (.int .i64 2) = some (.int .i64 ((atN l (24 + i) % 2 : Nat) : Int)) := by rw [bin_rem _ _ _ _ (by decide)]; exact congrArg _ (congrArg _ (rem_nat _ 2))
    simp only [L14_1, tmR, seval, h0, h3, h4, h6, wpcall_eq at3', hrem, nat_lt, hi, hw20, wpcall_eq a20, ints_len, bin_rem _ _ _ _ hlz, rem_nat]
    refine loopMasCut l rows pen v1 v3 v4 cols cuts (s.cnt 7) i (atN l (20 + i) % rows.length) hr3 hr5 ?_ ?_ ?_ ?_ ?_ ?_ ?_ ?_ ?_ ?_ ?_ ?_ ?_ ?_ (fun s w rs h0 h2 h3 h4 h6 h7 b2 hg1 b3 hg3 hg4 b7 hgw hrs => ?_)
    · simp only [tmD, reduceIte, Nat.reduceEqDiff, Nat.reduceAdd, h0]
    · simp only [tmD, reduceIte, Nat.reduceEqDiff, Nat.reduceAdd, h2]
    · simp only [tmD, reduceIte, Nat.reduceEqDiff, Nat.reduceAdd, h3]
    · simp only [tmD, reduceIte, Nat.reduceEqDiff, Nat.reduceAdd, h4]
    · simp only [tmD, reduceIte, Nat.reduceEqDiff, Nat.reduceAdd, h6]
    · simp only [tmD, reduceIte, Nat.reduceEqDiff, Nat.reduceAdd]
    · simp only [tmD, reduceIte, Nat.reduceEqDiff, Nat.reduceAdd]
    · simp only [tmD, reduceIte, Nat.reduceEqDiff, Nat.reduceAdd]
    · simp only [Box2Z, tmD, reduceIte, Nat.reduceEqDiff, Nat.reduceAdd, b2]
    · exact (hg1.mono (fun k g hk _ => by simp only [List.mem_cons, List.not_mem_nil, or_false] at hk; rcases hk with rfl; simp only [tmD, reduceIte, Nat.reduceEqDiff, Nat.reduceAdd]) (fun k hk => by simp only [List.mem_cons, List.not_mem_nil, or_false] at hk; rcases hk with rfl; simp only [tmD, reduceIte, Nat.reduceEqDiff, Nat.reduceAdd]; exact Nat.le_refl _))
    · simp only [BoxG, tmD, reduceIte, Nat.reduceEqDiff, Nat.reduceAdd, b3]
    · exact (hg3.mono (fun k g hk _ => by simp only [List.mem_cons, List.not_mem_nil, or_false] at hk; rcases hk with rfl; simp only [tmD, reduceIte, Nat.reduceEqDiff, Nat.reduceAdd]) (fun k hk => by simp only [List.mem_cons, List.not_mem_nil, or_false] at hk; rcases hk with rfl; simp only [tmD, reduceIte, Nat.reduceEqDiff, Nat.reduceAdd]; exact Nat.le_refl _))
    · exact (hg4.mono (fun k g hk _ => by simp only [List.mem_cons, List.not_mem_nil, or_false] at hk; rcases hk with rfl; simp only [tmD, reduceIte, Nat.reduceEqDiff, Nat.reduceAdd]) (fun k hk => by simp only [List.mem_cons, List.not_mem_nil, or_false] at hk; rcases hk with rfl; simp only [tmD, reduceIte, Nat.reduceEqDiff, Nat.reduceAdd]; exact Nat.le_refl _))
    · simp only [tmD, reduceIte, Nat.reduceEqDiff, Nat.reduceAdd]
    · obtain ⟨hzw, hvw⟩ | ⟨kw, gw, ow, hkw, hvw, hgw1, how, hcw, hbw, hew, htw⟩ := hgw
      · subst hvw
        have hrs0 : rs = [] := by simpa [ints] using hzw
        by_cases hd : ((atN l (24 + i) % 2 : Nat) : Int) = 1
        · simp only [tmR, seval, h0, h2, h3, h4, h6, h7, b7, hw24, wpcall_eq a24, hrem2, hd, b3]
          refine wp_growS [110] 110 (by decide) .full _ _ _ _ _ _ (xs := cuts.map cutC) (zs := [cutC ⟨rs, 2⟩]) ?_ (fun k g => rfl) ?_ (by simp) (by simp; omega) ?_
          · simp only [tmR, seval]
            exact (hg4.mono (fun k g hk _ => by simp only [List.mem_cons, List.not_mem_nil, or_false] at hk; rcases hk with rfl; simp only [tmD, reduceIte, Nat.reduceEqDiff, Nat.reduceAdd]) (fun k hk => by simp only [List.mem_cons, List.not_mem_nil, or_false] at hk; rcases hk with rfl; simp only [tmD, reduceIte, Nat.reduceEqDiff, Nat.reduceAdd]; exact Nat.le_refl _))
          · simp only [tmR, seval, elems]
            rw [hrs0]; rfl
          · intro st' v henv hobj hcnt hg'
            have ho3 := hobj 3 0 (by decide)
            have ho2 := hobj 2 0 (by decide)
            simp only [tmD, reduceIte, Nat.reduceEqDiff, Nat.reduceAdd, unsol_objG, b3, Option.map_some, pr_beq, List.contains_cons, List.contains_nil, Nat.reduceBEq, Bool.false_and, Bool.or_self, Bool.and_false, Bool.false_eq_true] at ho3
            simp only [tmD, reduceIte, Nat.reduceEqDiff, Nat.reduceAdd, unsol_objG, b2, Option.map_some, pr_beq, List.contains_cons, List.contains_nil, Nat.reduceBEq, Bool.false_and, Bool.or_self, Bool.and_false, Bool.false_eq_true] at ho2
            have hg1' : GrowsS st' [29] _ _ _ := hg1.mono (fun k g hk _ => by
                have e := hobj k g (by simp only [List.mem_cons, List.not_mem_nil, or_false] at hk ⊢; omega)
                simp only [List.mem_cons, List.not_mem_nil, or_false] at hk
                rw [e]; rcases hk with rfl; simp only [tmD, reduceIte, Nat.reduceEqDiff, Nat.reduceAdd]) (fun k hk => by
                have e := hcnt k (by simp only [List.mem_cons, List.not_mem_nil, or_false] at hk; omega)
                simp only [List.mem_cons, List.not_mem_nil, or_false] at hk
                rw [e]; rcases hk with rfl; simp only [tmD, reduceIte, Nat.reduceEqDiff, Nat.reduceAdd]; exact Nat.le_refl _)
            have hg3' : GrowsS st' [53] _ _ _ := hg3.mono (fun k g hk _ => by
                have e := hobj k g (by simp only [List.mem_cons, List.not_mem_nil, or_false] at hk ⊢; omega)
                simp only [List.mem_cons, List.not_mem_nil, or_false] at hk
                rw [e]; rcases hk with rfl; simp only [tmD, reduceIte, Nat.reduceEqDiff, Nat.reduceAdd]) (fun k hk => by
                have e := hcnt k (by simp only [List.mem_cons, List.not_mem_nil, or_false] at hk; omega)
                simp only [List.mem_cons, List.not_mem_nil, or_false] at hk
                rw [e]; rcases hk with rfl; simp only [tmD, reduceIte, Nat.reduceEqDiff, Nat.reduceAdd]; exact Nat.le_refl _)
            have em : cuts.map cutC ++ [cutC ⟨rs, 2⟩] = (cuts ++ [(⟨rs, 2⟩ : Cu)]).map cutC := by simp
            rw [em] at hg'
            obtain ⟨hz, _⟩ | ⟨k0, g0, o, hk0, hv, hrest⟩ := hg'
            · simp at hz
            · subst hv
              simp only [tmR, seval, henv, h0, h2, h3, h4, h6, nat_add_one, hw, Box2Z, ho2, BoxG, ho3]
              refine ⟨(hg1'.mono (fun k g hk _ => by simp only [List.mem_cons, List.not_mem_nil, or_false] at hk; rcases hk with rfl; simp only [tmD, reduceIte, Nat.reduceEqDiff, Nat.reduceAdd]) (fun k hk => by simp only [List.mem_cons, List.not_mem_nil, or_false] at hk; rcases hk with rfl; simp only [tmD, reduceIte, Nat.reduceEqDiff, Nat.reduceAdd]; exact Nat.le_refl _)), (hg3'.mono (fun k g hk _ => by simp only [List.mem_cons, List.not_mem_nil, or_false] at hk; rcases hk with rfl; simp only [tmD, reduceIte, Nat.reduceEqDiff, Nat.reduceAdd]) (fun k hk => by simp only [List.mem_cons, List.not_mem_nil, or_false] at hk; rcases hk with rfl; simp only [tmD, reduceIte, Nat.reduceEqDiff, Nat.reduceAdd]; exact Nat.le_refl _)), _, cuts ++ [⟨rs, 2⟩], rfl, GrowsS.mono (st := st') (.inr ⟨k0, g0, o, hk0, rfl, hrest⟩) (fun k g hk _ => by simp only [List.mem_cons, List.not_mem_nil, or_false] at hk; rcases hk with rfl; simp only [tmD, reduceIte, Nat.reduceEqDiff, Nat.reduceAdd]) (fun k hk => by simp only [tmD, reduceIte, Nat.reduceEqDiff, Nat.reduceAdd]; exact Nat.le_refl _), by simp; omega, fun x hx => ?_⟩
              rcases List.mem_append.1 hx with h | h
              · exact hcu x h
              · simp only [List.mem_singleton] at h; subst h; exact hrs
        · simp only [tmR, seval, h0, h2, h3, h4, h6, h7, b7, hw24, wpcall_eq a24, hrem2, hd, b3]
          refine wp_growS [110] 110 (by decide) .full _ _ _ _ _ _ (xs := cuts.map cutC) (zs := [cutC ⟨rs, 2⟩]) ?_ (fun k g => rfl) ?_ (by simp) (by simp; omega) ?_
          · simp only [tmR, seval]
            exact (hg4.mono (fun k g hk _ => by simp only [List.mem_cons, List.not_mem_nil, or_false] at hk; rcases hk with rfl; simp only [tmD, reduceIte, Nat.reduceEqDiff, Nat.reduceAdd]) (fun k hk => by simp only [List.mem_cons, List.not_mem_nil, or_false] at hk; rcases hk with rfl; simp only [tmD, reduceIte, Nat.reduceEqDiff, Nat.reduceAdd]; exact Nat.le_refl _))
          · simp only [tmR, seval, elems]
            rw [hrs0]; rfl
          · intro st' v henv hobj hcnt hg'
            have ho3 := hobj 3 0 (by decide)
            have ho2 := hobj 2 0 (by decide)
            simp only [tmD, reduceIte, Nat.reduceEqDiff, Nat.reduceAdd, unsol_objG, b3, Option.map_some, pr_beq, List.contains_cons, List.contains_nil, Nat.reduceBEq, Bool.false_and, Bool.or_self, Bool.and_false, Bool.false_eq_true] at ho3
            simp only [tmD, reduceIte, Nat.reduceEqDiff, Nat.reduceAdd, unsol_objG, b2, Option.map_some, pr_beq, List.contains_cons, List.contains_nil, Nat.reduceBEq, Bool.false_and, Bool.or_self, Bool.and_false, Bool.false_eq_true] at ho2
            have hg1' : GrowsS st' [29] _ _ _ := hg1.mono (fun k g hk _ => by
                have e := hobj k g (by simp only [List.mem_cons, List.not_mem_nil, or_false] at hk ⊢; omega)
                simp only [List.mem_cons, List.not_mem_nil, or_false] at hk
                rw [e]; rcases hk with rfl; simp only [tmD, reduceIte, Nat.reduceEqDiff, Nat.reduceAdd]) (fun k hk => by
                have e := hcnt k (by simp only [List.mem_cons, List.not_mem_nil, or_false] at hk; omega)
                simp only [List.mem_cons, List.not_mem_nil, or_false] at hk
                rw [e]; rcases hk with rfl; simp only [tmD, reduceIte, Nat.reduceEqDiff, Nat.reduceAdd]; exact Nat.le_refl _)
            have hg3' : GrowsS st' [53] _ _ _ := hg3.mono (fun k g hk _ => by
                have e := hobj k g (by simp only [List.mem_cons, List.not_mem_nil, or_false] at hk ⊢; omega)
                simp only [List.mem_cons, List.not_mem_nil, or_false] at hk
                rw [e]; rcases hk with rfl; simp only [tmD, reduceIte, Nat.reduceEqDiff, Nat.reduceAdd]) (fun k hk => by
                have e := hcnt k (by simp only [List.mem_cons, List.not_mem_nil, or_false] at hk; omega)
                simp only [List.mem_cons, List.not_mem_nil, or_false] at hk
                rw [e]; rcases hk with rfl; simp only [tmD, reduceIte, Nat.reduceEqDiff, Nat.reduceAdd]; exact Nat.le_refl _)
            have em : cuts.map cutC ++ [cutC ⟨rs, 2⟩] = (cuts ++ [(⟨rs, 2⟩ : Cu)]).map cutC := by simp
            rw [em] at hg'
            obtain ⟨hz, _⟩ | ⟨k0, g0, o, hk0, hv, hrest⟩ := hg'
            · simp at hz
            · subst hv
              simp only [tmR, seval, henv, h0, h2, h3, h4, h6, nat_add_one, hw, Box2Z, ho2, BoxG, ho3]
              refine ⟨(hg1'.mono (fun k g hk _ => by simp only [List.mem_cons, List.not_mem_nil, or_false] at hk; rcases hk with rfl; simp only [tmD, reduceIte, Nat.reduceEqDiff, Nat.reduceAdd]) (fun k hk => by simp only [List.mem_cons, List.not_mem_nil, or_false] at hk; rcases hk with rfl; simp only [tmD, reduceIte, Nat.reduceEqDiff, Nat.reduceAdd]; exact Nat.le_refl _)), (hg3'.mono (fun k g hk _ => by simp only [List.mem_cons, List.not_mem_nil, or_false] at hk; rcases hk with rfl; simp only [tmD, reduceIte, Nat.reduceEqDiff, Nat.reduceAdd]) (fun k hk => by simp only [List.mem_cons, List.not_mem_nil, or_false] at hk; rcases hk with rfl; simp only [tmD, reduceIte, Nat.reduceEqDiff, Nat.reduceAdd]; exact Nat.le_refl _)), _, cuts ++ [⟨rs, 2⟩], rfl, GrowsS.mono (st := st') (.inr ⟨k0, g0, o, hk0, rfl, hrest⟩) (fun k g hk _ => by simp only [List.mem_cons, List.not_mem_nil, or_false] at hk; rcases hk with rfl; simp only [tmD, reduceIte, Nat.reduceEqDiff, Nat.reduceAdd]) (fun k hk => by simp only [tmD, reduceIte, Nat.reduceEqDiff, Nat.reduceAdd]; exact Nat.le_refl _), by simp; omega, fun x hx => ?_⟩
              rcases List.mem_append.1 hx with h | h
              · exact hcu x h
              · simp only [List.mem_singleton] at h; subst h; exact hrs
      · simp only [List.mem_cons, List.not_mem_nil, or_false] at hkw
        subst hkw hvw
        have htk : List.take (ints .i64 rs).length (ints .i64 rs) = ints .i64 rs := List.take_length
        by_cases hd : ((atN l (24 + i) % 2 : Nat) : Int) = 1
        · by_cases hd2 : (2 : Int) < ((ints .i64 rs).length : Int)
          · simp only [tmR, seval, h0, h2, h3, h4, h6, h7, b7, hw24, wpcall_eq a24, hrem2, hd, hd2, b3, how, hbw, hew, hcw, htk, apply_unew]
            refine wp_growS [110] 110 (by decide) .full _ _ _ _ _ _ (xs := cuts.map cutC) (zs := [cutC ⟨rs, 3⟩]) ?_ (fun k g => rfl) ?_ (by simp) (by simp; omega) ?_
            · simp only [tmR, seval]
              exact ((hg4.unsol (b := true) (hs := [(91, gw)])).mono (fun k g hk _ => by simp only [List.mem_cons, List.not_mem_nil, or_false] at hk; rcases hk with rfl; simp only [tmD, reduceIte, Nat.reduceEqDiff, Nat.reduceAdd, unsol_objG]) (fun k hk => by simp only [List.mem_cons, List.not_mem_nil, or_false] at hk; rcases hk with rfl; simp only [tmD, reduceIte, Nat.reduceEqDiff, Nat.reduceAdd, unsol_objG]; exact Nat.le_refl _))
            · simp only [tmR, seval, elems]
              rfl
            · intro st' v henv hobj hcnt hg'
              have ho3 := hobj 3 0 (by decide)
              have ho2 := hobj 2 0 (by decide)
              simp only [tmD, reduceIte, Nat.reduceEqDiff, Nat.reduceAdd, unsol_objG, b3, Option.map_some, pr_beq, List.contains_cons, List.contains_nil, Nat.reduceBEq, Bool.false_and, Bool.or_self, Bool.and_false, Bool.false_eq_true] at ho3
              simp only [tmD, reduceIte, Nat.reduceEqDiff, Nat.reduceAdd, unsol_objG, b2, Option.map_some, pr_beq, List.contains_cons, List.contains_nil, Nat.reduceBEq, Bool.false_and, Bool.or_self, Bool.and_false, Bool.false_eq_true] at ho2
              have hg1' : GrowsS st' [29] _ _ _ := (hg1.unsol (b := true) (hs := [(91, gw)])).mono (fun k g hk _ => by
                  have e := hobj k g (by simp only [List.mem_cons, List.not_mem_nil, or_false] at hk ⊢; omega)
                  simp only [List.mem_cons, List.not_mem_nil, or_false] at hk
                  rw [e]; rcases hk with rfl; simp only [tmD, reduceIte, Nat.reduceEqDiff, Nat.reduceAdd, unsol_objG]) (fun k hk => by
                  have e := hcnt k (by simp only [List.mem_cons, List.not_mem_nil, or_false] at hk; omega)
                  simp only [List.mem_cons, List.not_mem_nil, or_false] at hk
                  rw [e]; rcases hk with rfl; simp only [tmD, reduceIte, Nat.reduceEqDiff, Nat.reduceAdd, unsol_objG]; exact Nat.le_refl _)
              have hg3' : GrowsS st' [53] _ _ _ := (hg3.unsol (b := true) (hs := [(91, gw)])).mono (fun k g hk _ => by
                  have e := hobj k g (by simp only [List.mem_cons, List.not_mem_nil, or_false] at hk ⊢; omega)
                  simp only [List.mem_cons, List.not_mem_nil, or_false] at hk
                  rw [e]; rcases hk with rfl; simp only [tmD, reduceIte, Nat.reduceEqDiff, Nat.reduceAdd, unsol_objG]) (fun k hk => by
                  have e := hcnt k (by simp only [List.mem_cons, List.not_mem_nil, or_false] at hk; omega)
                  simp only [List.mem_cons, List.not_mem_nil, or_false] at hk
                  rw [e]; rcases hk with rfl; simp only [tmD, reduceIte, Nat.reduceEqDiff, Nat.reduceAdd, unsol_objG]; exact Nat.le_refl _)
              have em : cuts.map cutC ++ [cutC ⟨rs, 3⟩] = (cuts ++ [(⟨rs, 3⟩ : Cu)]).map cutC := by simp
              rw [em] at hg'
              obtain ⟨hz, _⟩ | ⟨k0, g0, o, hk0, hv, hrest⟩ := hg'
              · simp at hz
              · subst hv
                simp only [tmR, seval, henv, h0, h2, h3, h4, h6, nat_add_one, hw, Box2Z, ho2, BoxG, ho3]
                refine ⟨(hg1'.mono (fun k g hk _ => by simp only [List.mem_cons, List.not_mem_nil, or_false] at hk; rcases hk with rfl; simp only [tmD, reduceIte, Nat.reduceEqDiff, Nat.reduceAdd]) (fun k hk => by simp only [List.mem_cons, List.not_mem_nil, or_false] at hk; rcases hk with rfl; simp only [tmD, reduceIte, Nat.reduceEqDiff, Nat.reduceAdd]; exact Nat.le_refl _)), (hg3'.mono (fun k g hk _ => by simp only [List.mem_cons, List.not_mem_nil, or_false] at hk; rcases hk with rfl; simp only [tmD, reduceIte, Nat.reduceEqDiff, Nat.reduceAdd]) (fun k hk => by simp only [List.mem_cons, List.not_mem_nil, or_false] at hk; rcases hk with rfl; simp only [tmD, reduceIte, Nat.reduceEqDiff, Nat.reduceAdd]; exact Nat.le_refl _)), _, cuts ++ [⟨rs, 3⟩], rfl, GrowsS.mono (st := st') (.inr ⟨k0, g0, o, hk0, rfl, hrest⟩) (fun k g hk _ => by simp only [List.mem_cons, List.not_mem_nil, or_false] at hk; rcases hk with rfl; simp only [tmD, reduceIte, Nat.reduceEqDiff, Nat.reduceAdd]) (fun k hk => by simp only [tmD, reduceIte, Nat.reduceEqDiff, Nat.reduceAdd]; exact Nat.le_refl _), by simp; omega, fun x hx => ?_⟩
                rcases List.mem_append.1 hx with h | h
                · exact hcu x h
                · simp only [List.mem_singleton] at h; subst h; exact hrs
          · simp only [tmR, seval, h0, h2, h3, h4, h6, h7, b7, hw24, wpcall_eq a24, hrem2, hd, hd2, b3, how, hbw, hew, hcw, htk, apply_unew]
            refine wp_growS [110] 110 (by decide) .full _ _ _ _ _ _ (xs := cuts.map cutC) (zs := [cutC ⟨rs, 2⟩]) ?_ (fun k g => rfl) ?_ (by simp) (by simp; omega) ?_
            · simp only [tmR, seval]
              exact ((hg4.unsol (b := true) (hs := [(91, gw)])).mono (fun k g hk _ => by simp only [List.mem_cons, List.not_mem_nil, or_false] at hk; rcases hk with rfl; simp only [tmD, reduceIte, Nat.reduceEqDiff, Nat.reduceAdd, unsol_objG]) (fun k hk => by simp only [List.mem_cons, List.not_mem_nil, or_false] at hk; rcases hk with rfl; simp only [tmD, reduceIte, Nat.reduceEqDiff, Nat.reduceAdd, unsol_objG]; exact Nat.le_refl _))
            · simp only [tmR, seval, elems]
              rfl
            · intro st' v henv hobj hcnt hg'
              have ho3 := hobj 3 0 (by decide)
              have ho2 := hobj 2 0 (by decide)
              simp only [tmD, reduceIte, Nat.reduceEqDiff, Nat.reduceAdd, unsol_objG, b3, Option.map_some, pr_beq, List.contains_cons, List.contains_nil, Nat.reduceBEq, Bool.false_and, Bool.or_self, Bool.and_false, Bool.false_eq_true] at ho3
              simp only [tmD, reduceIte, Nat.reduceEqDiff, Nat.reduceAdd, unsol_objG, b2, Option.map_some, pr_beq, List.contains_cons, List.contains_nil, Nat.reduceBEq, Bool.false_and, Bool.or_self, Bool.and_false, Bool.false_eq_true] at ho2
              have hg1' : GrowsS st' [29] _ _ _ := (hg1.unsol (b := true) (hs := [(91, gw)])).mono (fun k g hk _ => by
                  have e := hobj k g (by simp only [List.mem_cons, List.not_mem_nil, or_false] at hk ⊢; omega)
                  simp only [List.mem_cons, List.not_mem_nil, or_false] at hk
                  rw [e]; rcases hk with rfl; simp only [tmD, reduceIte, Nat.reduceEqDiff, Nat.reduceAdd, unsol_objG]) (fun k hk => by
                  have e := hcnt k (by simp only [List.mem_cons, List.not_mem_nil, or_false] at hk; omega)
                  simp only [List.mem_cons, List.not_mem_nil, or_false] at hk
                  rw [e]; rcases hk with rfl; simp only [tmD, reduceIte, Nat.reduceEqDiff, Nat.reduceAdd, unsol_objG]; exact Nat.le_refl _)
              have hg3' : GrowsS st' [53] _ _ _ := (hg3.unsol (b := true) (hs := [(91, gw)])).mono (fun k g hk _ => by
                  have e := hobj k g (by simp only [List.mem_cons, List.not_mem_nil, or_false] at hk ⊢; omega)
                  simp only [List.mem_cons, List.not_mem_nil, or_false] at hk
                  rw [e]; rcases hk with rfl; simp only [tmD, reduceIte, Nat.reduceEqDiff, Nat.reduceAdd, unsol_objG]) (fun k hk => by
                  have e := hcnt k (by simp only [List.mem_cons, List.not_mem_nil, or_false] at hk; omega)
                  simp only [List.mem_cons, List.not_mem_nil, or_false] at hk
                  rw [e]; rcases hk with rfl; simp only [tmD, reduceIte, Nat.reduceEqDiff, Nat.reduceAdd, unsol_objG]; exact Nat.le_refl _)
              have em : cuts.map cutC ++ [cutC ⟨rs, 2⟩] = (cuts ++ [(⟨rs, 2⟩ : Cu)]).map cutC := by simp
              rw [em] at hg'
              obtain ⟨hz, _⟩ | ⟨k0, g0, o, hk0, hv, hrest⟩ := hg'
              · simp at hz
              · subst hv
                simp only [tmR, seval, henv, h0, h2, h3, h4, h6, nat_add_one, hw, Box2Z, ho2, BoxG, ho3]
                refine ⟨(hg1'.mono (fun k g hk _ => by simp only [List.mem_cons, List.not_mem_nil, or_false] at hk; rcases hk with rfl; simp only [tmD, reduceIte, Nat.reduceEqDiff, Nat.reduceAdd]) (fun k hk => by simp only [List.mem_cons, List.not_mem_nil, or_false] at hk; rcases hk with rfl; simp only [tmD, reduceIte, Nat.reduceEqDiff, Nat.reduceAdd]; exact Nat.le_refl _)), (hg3'.mono (fun k g hk _ => by simp only [List.mem_cons, List.not_mem_nil, or_false] at hk; rcases hk with rfl; simp only [tmD, reduceIte, Nat.reduceEqDiff, Nat.reduceAdd]) (fun k hk => by simp only [List.mem_cons, List.not_mem_nil, or_false] at hk; rcases hk with rfl; simp only [tmD, reduceIte, Nat.reduceEqDiff, Nat.reduceAdd]; exact Nat.le_refl _)), _, cuts ++ [⟨rs, 2⟩], rfl, GrowsS.mono (st := st') (.inr ⟨k0, g0, o, hk0, rfl, hrest⟩) (fun k g hk _ => by simp only [List.mem_cons, List.not_mem_nil, or_false] at hk; rcases hk with rfl; simp only [tmD, reduceIte, Nat.reduceEqDiff, Nat.reduceAdd]) (fun k hk => by simp only [tmD, reduceIte, Nat.reduceEqDiff, Nat.reduceAdd]; exact Nat.le_refl _), by simp; omega, fun x hx => ?_⟩
                rcases List.mem_append.1 hx with h | h
                · exact hcu x h
                · simp only [List.mem_singleton] at h; subst h; exact hrs
        · simp only [tmR, seval, h0, h2, h3, h4, h6, h7, b7, hw24, wpcall_eq a24, hrem2, hd, b3, how, hbw, hew, hcw, htk, apply_unew]
          refine wp_growS [110] 110 (by decide) .full _ _ _ _ _ _ (xs := cuts.map cutC) (zs := [cutC ⟨rs, 2⟩]) ?_ (fun k g => rfl) ?_ (by simp) (by simp; omega) ?_
          · simp only [tmR, seval]
            exact ((hg4.unsol (b := true) (hs := [(91, gw)])).mono (fun k g hk _ => by simp only [List.mem_cons, List.not_mem_nil, or_false] at hk; rcases hk with rfl; simp only [tmD, reduceIte, Nat.reduceEqDiff, Nat.reduceAdd, unsol_objG]) (fun k hk => by simp only [List.mem_cons, List.not_mem_nil, or_false] at hk; rcases hk with rfl; simp only [tmD, reduceIte, Nat.reduceEqDiff, Nat.reduceAdd, unsol_objG]; exact Nat.le_refl _))
          · simp only [tmR, seval, elems]
            rfl
          · intro st' v henv hobj hcnt hg'
            have ho3 := hobj 3 0 (by decide)
            have ho2 := hobj 2 0 (by decide)
            simp only [tmD, reduceIte, Nat.reduceEqDiff, Nat.reduceAdd, unsol_objG, b3, Option.map_some, pr_beq, List.contains_cons, List.contains_nil, Nat.reduceBEq, Bool.false_and, Bool.or_self, Bool.and_false, Bool.false_eq_true] at ho3
            simp only [tmD, reduceIte, Nat.reduceEqDiff, Nat.reduceAdd, unsol_objG, b2, Option.map_some, pr_beq, List.contains_cons, List.contains_nil, Nat.reduceBEq, Bool.false_and, Bool.or_self, Bool.and_false, Bool.false_eq_true] at ho2
            have hg1' : GrowsS st' [29] _ _ _ := (hg1.unsol (b := true) (hs := [(91, gw)])).mono (fun k g hk _ => by
                have e := hobj k g (by simp only [List.mem_cons, List.not_mem_nil, or_false] at hk ⊢; omega)
                simp only [List.mem_cons, List.not_mem_nil, or_false] at hk
                rw [e]; rcases hk with rfl; simp only [tmD, reduceIte, Nat.reduceEqDiff, Nat.reduceAdd, unsol_objG]) (fun k hk => by
                have e := hcnt k (by simp only [List.mem_cons, List.not_mem_nil, or_false] at hk; omega)
                simp only [List.mem_cons, List.not_mem_nil, or_false] at hk
                rw [e]; rcases hk with rfl; simp only [tmD, reduceIte, Nat.reduceEqDiff, Nat.reduceAdd, unsol_objG]; exact Nat.le_refl _)
            have hg3' : GrowsS st' [53] _ _ _ := (hg3.unsol (b := true) (hs := [(91, gw)])).mono (fun k g hk _ => by
                have e := hobj k g (by simp only [List.mem_cons, List.not_mem_nil, or_false] at hk ⊢; omega)
                simp only [List.mem_cons, List.not_mem_nil, or_false] at hk
                rw [e]; rcases hk with rfl; simp only [tmD, reduceIte, Nat.reduceEqDiff, Nat.reduceAdd, unsol_objG]) (fun k hk => by
                have e := hcnt k (by simp only [List.mem_cons, List.not_mem_nil, or_false] at hk; omega)
                simp only [List.mem_cons, List.not_mem_nil, or_false] at hk
                rw [e]; rcases hk with rfl; simp only [tmD, reduceIte, Nat.reduceEqDiff, Nat.reduceAdd, unsol_objG]; exact Nat.le_refl _)
            have em : cuts.map cutC ++ [cutC ⟨rs, 2⟩] = (cuts ++ [(⟨rs, 2⟩ : Cu)]).map cutC := by simp
            rw [em] at hg'
            obtain ⟨hz, _⟩ | ⟨k0, g0, o, hk0, hv, hrest⟩ := hg'
            · simp at hz
            · subst hv
              simp only [tmR, seval, henv, h0, h2, h3, h4, h6, nat_add_one, hw, Box2Z, ho2, BoxG, ho3]
              refine ⟨(hg1'.mono (fun k g hk _ => by simp only [List.mem_cons, List.not_mem_nil, or_false] at hk; rcases hk with rfl; simp only [tmD, reduceIte, Nat.reduceEqDiff, Nat.reduceAdd]) (fun k hk => by simp only [List.mem_cons, List.not_mem_nil, or_false] at hk; rcases hk with rfl; simp only [tmD, reduceIte, Nat.reduceEqDiff, Nat.reduceAdd]; exact Nat.le_refl _)), (hg3'.mono (fun k g hk _ => by simp only [List.mem_cons, List.not_mem_nil, or_false] at hk; rcases hk with rfl; simp only [tmD, reduceIte, Nat.reduceEqDiff, Nat.reduceAdd]) (fun k hk => by simp only [List.mem_cons, List.not_mem_nil, or_false] at hk; rcases hk with rfl; simp only [tmD, reduceIte, Nat.reduceEqDiff, Nat.reduceAdd]; exact Nat.le_refl _)), _, cuts ++ [⟨rs, 2⟩], rfl, GrowsS.mono (st := st') (.inr ⟨k0, g0, o, hk0, rfl, hrest⟩) (fun k g hk _ => by simp only [List.mem_cons, List.not_mem_nil, or_false] at hk; rcases hk with rfl; simp only [tmD, reduceIte, Nat.reduceEqDiff, Nat.reduceAdd]) (fun k hk => by simp only [tmD, reduceIte, Nat.reduceEqDiff, Nat.reduceAdd]; exact Nat.le_refl _), by simp; omega, fun x hx => ?_⟩
              rcases List.mem_append.1 hx with h | h
              · exact hcu x h
              · simp only [List.mem_singleton] at h; subst h; exact hrs
  · rintro s ⟨h0, h2, h3, h4, h6, b2, hg1, hg3, v4, cuts, b3, hg4, hcl, hcu⟩
    simp only [L14_1, tmR, seval, h0, h6, wpcall_eq at3', hrem, Int.lt_irrefl]
    exact hQ _ v4 cuts h2 h3 b2 (hg1.mono (fun k g hk _ => by simp only [List.mem_cons, List.not_mem_nil, or_false] at hk; rcases hk with rfl; simp only [tmD, reduceIte, Nat.reduceEqDiff, Nat.reduceAdd]) (fun k hk => by simp only [List.mem_cons, List.not_mem_nil, or_false] at hk; rcases hk with rfl; simp only [tmD, reduceIte, Nat.reduceEqDiff, Nat.reduceAdd]; exact Nat.le_refl _)) b3 (hg3.mono (fun k g hk _ => by simp only [List.mem_cons, List.not_mem_nil, or_false] at hk; rcases hk with rfl; simp only [tmD, reduceIte, Nat.reduceEqDiff, Nat.reduceAdd]) (fun k hk => by simp only [List.mem_cons, List.not_mem_nil, or_false] at hk; rcases hk with rfl; simp only [tmD, reduceIte, Nat.reduceEqDiff, Nat.reduceAdd]; exact Nat.le_refl _)) (hg4.mono (fun k g hk _ => by simp only [List.mem_cons, List.not_mem_nil, or_false] at hk; rcases hk with rfl; simp only [tmD, reduceIte, Nat.reduceEqDiff, Nat.reduceAdd]) (fun k hk => by simp only [List.mem_cons, List.not_mem_nil, or_false] at hk; rcases hk with rfl; simp only [tmD, reduceIte, Nat.reduceEqDiff, Nat.reduceAdd]; exact Nat.le_refl _)) (by omega) hcu
  · exact ⟨h0, h2, h3, h4, h6, b2, hg1, hg3, .nils, [], b3, .inl ⟨rfl, rfl⟩, by simp, fun c hc => by cases hc⟩
theorem rowTab_get : ∀ r, r < 6 → ([[TV.sl [[TV.int .i64 0], [TV.int .i64 1], [TV.int .i64 2]]], [TV.sl [[TV.int .i64 1], [TV.int .i64 2], [TV.int .i64 4]]], [TV.sl [[TV.int .i64 0], [TV.int .i64 1], [TV.int .i64 2], [TV.int .i64 3]]], [TV.sl [[TV.int .i64 0], [TV.int .i64 2], [TV.int .i64 3], [TV.int .i64 5]]], [TV.sl [[TV.int .i64 0], [TV.int .i64 1], [TV.int .i64 2], [TV.int .i64 3], [TV.int .i64 4]]], [TV.sl [[TV.int .i64 1], [TV.int .i64 2], [TV.int .i64 3], [TV.int .i64 4], [TV.int .i64 5]]]] : Cont)[r]? = some [TV.sl (ints .i64 (rowTab.getD r []))] := by
  intro r h
  match r, h with
  | 0, _ => rfl
  | 1, _ => rfl
  | 2, _ => rfl
  | 3, _ => rfl
  | 4, _ => rfl
  | 5, _ => rfl
theorem small_ops {c : Col} (h : SmallDs 16 c.ds) : (oper c.ds).length < 2147483648 ∧ c.ds.length < 2147483648 ∧ ∀ d ∈ c.ds, d.length < 2147483648 := by
  have h1 := oper_le h
  exact ⟨by omega, by have := h.1; omega, fun d hd => by have := h.2 d hd; omega⟩
theorem mas_fin2 {s : St} {args : List TV} {pen : Int} {v1 v3 v4 : TV} {rows : List Int} {cols : List Col} {cuts : List Cu} (hsm : Mas.Small ⟨6, rows, pen, cols, cuts⟩) (hcl2 : cuts.length ≤ 2) (hcu : ∀ c ∈ cuts, c.rs.length ≤ 5) (ha : hasOwn args = false) (hm : mutsOf s 0 args = some []) (h2 : s.env 2 = .ptr 2 0 0 0)
    (ho : s.obj 2 0 = some { cont := [[.int .i64 6, v1, .int .i64 pen, v3, v4]], esz := 5, box := true, solo := true, tip := false }) (hg1 : GrowsS s [29] 1 v1 (ints .i64 rows)) (hg3 : GrowsS s [53] 3 v3 (cols.map colC)) (hg4 : GrowsS s [110] 2 v4 (cuts.map cutC)) :
    ∃ rv, finishR [.cell 2 5 true] args s = some (rv, []) ∧ ∃ m : Mas, view rv = masT m ∧ m.Small ∧ m.fl = 6 ∧ m.cuts.length ≤ 2 ∧ ∀ c ∈ m.cuts, c.rs.length ≤ 5 := by
  obtain ⟨rv, f1, f2⟩ := mas_fin ha hm h2 ho hg1 hg3 hg4
  exact ⟨rv, f1, _, f2, hsm, rfl, hcl2, hcu⟩
theorem master_c (l : List Int) (hl : l.length < 9223372036854775808) : ∃ m : Mas, m.Small ∧ m.fl = 6 ∧ m.cuts.length ≤ 2 ∧ (∀ c ∈ m.cuts, c.rs.length ≤ 5) ∧ Gives mach 14 [.sl (ints .i64 l)] (masT m) := by
  suffices h : ∃ v, (∃ m : Mas, v = masT m ∧ m.Small ∧ m.fl = 6 ∧ m.cuts.length ≤ 2 ∧ ∀ c ∈ m.cuts, c.rs.length ≤ 5) ∧ Gives mach 14 [.sl (ints .i64 l)] v by
    obtain ⟨_, ⟨m, rfl, h1, h2, h3, h4⟩, h5⟩ := h
    exact ⟨m, h1, h2, h3, h4, h5⟩
  refine givesE tab14 rfl ?_
  have at0 : Gives mach 59 [.sl (ints .i64 l), .int .i64 0] (.int .i64 (atN l 0 : Nat)) := at_c l 0 hl (by omega)
  have at1 : Gives mach 59 [.sl (ints .i64 l), .int .i64 1] (.int .i64 (atN l 1 : Nat)) := at_c l 1 hl (by omega)
  have hr0 : binTV false .rem (.int .i64 (atN l 0 : Nat)) (.int .i64 30) = some (.int .i64 ((atN l 0 % 30 : Nat) : Int)) := by rw [bin_rem _ _ _ _ (by decide)]; exact congrArg _ (congrArg _ (rem_nat _ 30))
  have hr1 : binTV false .rem (.int .i64 (atN l 1 : Nat)) (.int .i64 6) = some (.int .i64 ((atN l 1 % 6 : Nat) : Int)) := by rw [bin_rem _ _ _ _ (by decide)]; exact congrArg _ (congrArg _ (rem_nat _ 6))
  have hlt : atN l 1 % 6 < 6 := Nat.mod_lt _ (by omega)
  have hct := rowTab_get _ hlt
  obtain ⟨hr3, hr5⟩ := rowTab_len hlt
  obtain ⟨rows, hrows⟩ : ∃ rows, rows = rowTab.getD (atN l 1 % 6) [] := ⟨_, rfl⟩
  rw [← hrows] at hct hr3 hr5
  have hne : ints .i64 rows ≠ [] := by intro h; rw [← List.length_eq_zero_iff, ints_len] at h; omega
  simp only [F14, tmR, seval, wp_app, apply_app1, apply_new1, wpcall_eq at0, hr0, apply_unew, wpcall_eq at1, hr1, iaddr_hs hlt, hct, app_nils (elems_sl (uni_ints _ _)) hne (by rw [ints_len]; omega), ints_len, unsol_objG, pr_beq, Bool.false_and, Bool.and_false, Bool.true_and, Bool.or_self]
  refine loopMasCols l rows ((atN l 0 % 30 : Nat) : Int) (.hs 29 0 1 rows.length) hl hr3 hr5 ?_ ?_ ?_ ?_ ?_ ?_ ?_ ?_ (fun s v3 cols h0 h2 h3 h4 b2 hg1 b3 hg3 hcl hcs => ?_)
  · simp only [tmD, reduceIte, Nat.reduceEqDiff, Nat.reduceAdd]
  · simp only [tmD, reduceIte, Nat.reduceEqDiff, Nat.reduceAdd]
  · simp only [tmD, reduceIte, Nat.reduceEqDiff, Nat.reduceAdd]
  · simp only [tmD, reduceIte, Nat.reduceEqDiff, Nat.reduceAdd]
  · simp only [tmD, reduceIte, Nat.reduceEqDiff, Nat.reduceAdd]
  · simp only [Box2Z, tmD, reduceIte, Nat.reduceEqDiff, Nat.reduceAdd, unsol_objG, Option.map_some, pr_beq, List.contains_cons, List.contains_nil, Nat.reduceBEq, Bool.false_and, Bool.or_self, Bool.and_false, Bool.false_eq_true]
  · refine .inr ⟨29, 0, { cont := ints .i64 rows, esz := 1, box := false, solo := true, tip := true }, by decide, by rw [ints_len], ?_, ?_, rfl, rfl, rfl, rfl⟩
    · simp only [tmD, reduceIte, Nat.reduceEqDiff, Nat.reduceAdd]; omega
    · simp only [tmD, reduceIte, Nat.reduceEqDiff, Nat.reduceAdd]
  · simp only [BoxG, tmD, reduceIte, Nat.reduceEqDiff, Nat.reduceAdd, unsol_objG, Option.map_some, pr_beq, List.contains_cons, List.contains_nil, Nat.reduceBEq, Bool.false_and, Bool.or_self, Bool.and_false, Bool.false_eq_true]
  · simp only [tmR, seval]
    refine loopMasCuts l rows ((atN l 0 % 30 : Nat) : Int) (.hs 29 0 1 rows.length) v3 cols hl hr3 hr5 ?_ ?_ ?_ ?_ ?_ ?_ ?_ ?_ ?_ (fun s v4 cuts h2 h3 b2 hg1 b3 hg3 hg4 hcl2 hcu => ?_)
    · simp only [tmD, reduceIte, Nat.reduceEqDiff, Nat.reduceAdd, h0]
    · simp only [tmD, reduceIte, Nat.reduceEqDiff, Nat.reduceAdd, h2]
    · simp only [tmD, reduceIte, Nat.reduceEqDiff, Nat.reduceAdd, h3]
    · simp only [tmD, reduceIte, Nat.reduceEqDiff, Nat.reduceAdd, h4]
    · simp only [tmD, reduceIte, Nat.reduceEqDiff, Nat.reduceAdd]
    · simp only [Box2Z, tmD, reduceIte, Nat.reduceEqDiff, Nat.reduceAdd, b2]
    · exact hg1.mono (fun k g hk _ => by simp only [tmD, reduceIte, Nat.reduceEqDiff, Nat.reduceAdd]) (fun k hk => by simp only [tmD, reduceIte, Nat.reduceEqDiff, Nat.reduceAdd]; exact Nat.le_refl _)
    · simp only [BoxG, tmD, reduceIte, Nat.reduceEqDiff, Nat.reduceAdd, b3]
    · exact hg3.mono (fun k g hk _ => by simp only [tmD, reduceIte, Nat.reduceEqDiff, Nat.reduceAdd]) (fun k hk => by simp only [tmD, reduceIte, Nat.reduceEqDiff, Nat.reduceAdd]; exact Nat.le_refl _)
    · have hsm : Mas.Small ⟨6, rows, ((atN l 0 % 30 : Nat) : Int), cols, cuts⟩ := ⟨by show I64 6; unfold I64; omega, by show rows.length < _; omega, by show cols.length < _; omega, by show cuts.length < _; omega, fun c hc => small_ops (hcs c hc), fun c hc => by have := hcu c hc; omega⟩
      obtain ⟨z3, w3⟩ | ⟨k3, g3, o3, e3, w3, r3⟩ := hg3 <;> obtain ⟨z4, w4⟩ | ⟨k4, g4, o4, e4, w4, r4⟩ := hg4
      · subst w3 w4
        simp only [tmR, seval, h2, h3, b2, b3]
        refine mas_fin2 (v1 := .hs 29 0 1 rows.length) (v3 := .nils) (v4 := .nils) hsm hcl2 hcu rfl rfl ?_ ?_ ?_ ?_ ?_
        · simp only [tmD, reduceIte, Nat.reduceEqDiff, Nat.reduceAdd, h2]
        · simp only [tmD, reduceIte, Nat.reduceEqDiff, Nat.reduceAdd]
        · exact hg1.mono (fun k g hk _ => by simp only [List.mem_cons, List.not_mem_nil, or_false] at hk; rcases hk with rfl; simp only [tmD, reduceIte, Nat.reduceEqDiff, Nat.reduceAdd]) (fun k hk => by simp only [tmD, reduceIte, Nat.reduceEqDiff, Nat.reduceAdd]; exact Nat.le_refl _)
        · exact .inl ⟨z3, rfl⟩
        · exact .inl ⟨z4, rfl⟩
      · subst w3 w4
        simp only [tmR, seval, h2, h3, b2, b3]
        refine mas_fin2 (v1 := .hs 29 0 1 rows.length) (v3 := .nils) (v4 := .hs k4 g4 2 (cuts.map cutC).length) hsm hcl2 hcu rfl rfl ?_ ?_ ?_ ?_ ?_
        · simp only [tmD, reduceIte, Nat.reduceEqDiff, Nat.reduceAdd, h2]
        · simp only [tmD, reduceIte, Nat.reduceEqDiff, Nat.reduceAdd]
        · exact hg1.mono (fun k g hk _ => by simp only [List.mem_cons, List.not_mem_nil, or_false] at hk; rcases hk with rfl; simp only [tmD, reduceIte, Nat.reduceEqDiff, Nat.reduceAdd]) (fun k hk => by simp only [tmD, reduceIte, Nat.reduceEqDiff, Nat.reduceAdd]; exact Nat.le_refl _)
        · exact .inl ⟨z3, rfl⟩
        · exact GrowsS.mono (st := s) (.inr ⟨k4, g4, o4, e4, rfl, r4⟩) (fun k g hk _ => by simp only [List.mem_cons, List.not_mem_nil, or_false] at hk; rcases hk with rfl; simp only [tmD, reduceIte, Nat.reduceEqDiff, Nat.reduceAdd]) (fun k hk => by simp only [tmD, reduceIte, Nat.reduceEqDiff, Nat.reduceAdd]; exact Nat.le_refl _)
      · subst w3 w4
        simp only [tmR, seval, h2, h3, b2, b3]
        refine mas_fin2 (v1 := .hs 29 0 1 rows.length) (v3 := .hs k3 g3 3 (cols.map colC).length) (v4 := .nils) hsm hcl2 hcu rfl rfl ?_ ?_ ?_ ?_ ?_
        · simp only [tmD, reduceIte, Nat.reduceEqDiff, Nat.reduceAdd, h2]
        · simp only [tmD, reduceIte, Nat.reduceEqDiff, Nat.reduceAdd]
        · exact hg1.mono (fun k g hk _ => by simp only [List.mem_cons, List.not_mem_nil, or_false] at hk; rcases hk with rfl; simp only [tmD, reduceIte, Nat.reduceEqDiff, Nat.reduceAdd]) (fun k hk => by simp only [tmD, reduceIte, Nat.reduceEqDiff, Nat.reduceAdd]; exact Nat.le_refl _)
        · exact GrowsS.mono (st := s) (.inr ⟨k3, g3, o3, e3, rfl, r3⟩) (fun k g hk _ => by simp only [List.mem_cons, List.not_mem_nil, or_false] at hk; rcases hk with rfl; simp only [tmD, reduceIte, Nat.reduceEqDiff, Nat.reduceAdd]) (fun k hk => by simp only [tmD, reduceIte, Nat.reduceEqDiff, Nat.reduceAdd]; exact Nat.le_refl _)
        · exact .inl ⟨z4, rfl⟩
      · subst w3 w4
        simp only [tmR, seval, h2, h3, b2, b3]
        refine mas_fin2 (v1 := .hs 29 0 1 rows.length) (v3 := .hs k3 g3 3 (cols.map colC).length) (v4 := .hs k4 g4 2 (cuts.map cutC).length) hsm hcl2 hcu rfl rfl ?_ ?_ ?_ ?_ ?_
        · simp only [tmD, reduceIte, Nat.reduceEqDiff, Nat.reduceAdd, h2]
        · simp only [tmD, reduceIte, Nat.reduceEqDiff, Nat.reduceAdd]
        · exact hg1.mono (fun k g hk _ => by simp only [List.mem_cons, List.not_mem_nil, or_false] at hk; rcases hk with rfl; simp only [tmD, reduceIte, Nat.reduceEqDiff, Nat.reduceAdd]) (fun k hk => by simp only [tmD, reduceIte, Nat.reduceEqDiff, Nat.reduceAdd]; exact Nat.le_refl _)
        · exact GrowsS.mono (st := s) (.inr ⟨k3, g3, o3, e3, rfl, r3⟩) (fun k g hk _ => by simp only [List.mem_cons, List.not_mem_nil, or_false] at hk; rcases hk with rfl; simp only [tmD, reduceIte, Nat.reduceEqDiff, Nat.reduceAdd]) (fun k hk => by simp only [tmD, reduceIte, Nat.reduceEqDiff, Nat.reduceAdd]; exact Nat.le_refl _)
        · exact GrowsS.mono (st := s) (.inr ⟨k4, g4, o4, e4, rfl, r4⟩) (fun k g hk _ => by simp only [List.mem_cons, List.not_mem_nil, or_false] at hk; rcases hk with rfl; simp only [tmD, reduceIte, Nat.reduceEqDiff, Nat.reduceAdd]) (fun k hk => by simp only [tmD, reduceIte, Nat.reduceEqDiff, Nat.reduceAdd]; exact Nat.le_refl _)
end Go.TM.Fn
end
section
namespace Go.TM.Fn
open Go Go.TM Go.Plain
set_option linter.unusedVariables false
set_option linter.unusedSimpArgs false
set_option maxRecDepth 20000
set_option maxHeartbeats 4000000
def rqOf (q : Rat) : RQ := ⟨decide (q.num < 0), toDig q.num.natAbs, decide ((q.den : Int) < 0), toDig (q.den : Int).natAbs⟩
theorem rqOf_ok {k q} (h : Dq k q) : RQ.Ok k (rqOf q) := ⟨dig_toDig _, dig_toDig _, toDig_len_le h.1, toDig_len_le h.2⟩
def RQ.Can (k : Nat) (r : RQ) : Prop := ∃ q, Dq k q ∧ r = rqOf q
theorem RQ.Can.ok {k r} (h : RQ.Can k r) : RQ.Ok k r := by obtain ⟨q, h, rfl⟩ := h; exact rqOf_ok h
abbrev P2 (s : St) (m : Mas) : Prop := s.obj 2 0 = some { cont := [masL m], esz := 5, box := true, solo := true, tip := false }
abbrev P4 (s : St) : Prop := s.obj 4 0 = some { cont := [[.nils, .nils, .nils, .nils, .bool false]], esz := 5, box := true, solo := true, tip := false }
abbrev P5 (s : St) (v0 v1 v2 v3 : TV) : Prop := s.obj 5 0 = some { cont := [[v0, v1, v2, v3, .bool false]], esz := 5, box := true, solo := true, tip := false }
theorem loopPri0 {Q : Ex → St → Prop} {st : St} (m : Mas) (a : List Int) (hm : m.fl = 6) (ha : a.length < 9223372036854775808)
    (h1 : st.env 1 = .sl (ints .i64 a)) (h2 : st.env 2 = .ptr 2 0 0 0) (h4 : st.env 4 = .ptr 4 0 0 0) (h5 : st.env 5 = .ptr 5 0 0 0) (h6 : st.env 6 = .int .i64 0) (b2 : P2 st m) (b4 : P4 st) (b5 : P5 st .nils .nils .nils .nils)
    (hQ : ∀ (s : St) (v : TV) (fls : List RQ), s.env 1 = .sl (ints .i64 a) → s.env 2 = .ptr 2 0 0 0 → s.env 4 = .ptr 4 0 0 0 → s.env 5 = .ptr 5 0 0 0 → P2 s m → P4 s → P5 s v .nils .nils .nils → GrowsS s [26] 4 v (fls.map rqC) → fls.length = 6 → (∀ r ∈ fls, RQ.Can 10 r) → Q (.exit 0) s) :
    Goes mach (.loop L15_0) Q st := by
  have i3 := rint_c (n := 3) (by unfold I64; omega)
  have d3 := dq_int (n := 3) (by unfold I64; omega)
  refine wp_for (fun i s => s.env 1 = .sl (ints .i64 a) ∧ s.env 2 = .ptr 2 0 0 0 ∧ s.env 4 = .ptr 4 0 0 0 ∧ s.env 5 = .ptr 5 0 0 0 ∧ s.env 6 = .int .i64 (i : Nat) ∧ P2 s m ∧ P4 s ∧ ∃ (v : TV) (fls : List RQ), P5 s v .nils .nils .nils ∧ GrowsS s [26] 4 v (fls.map rqC) ∧ fls.length = i ∧ ∀ r ∈ fls, RQ.Can 10 r) 6 ?_ ?_ 6 0 _ (by omega) ?_
  · rintro i s hi ⟨h1, h2, h4, h5, h6, b2, b4, v, fls, b5, hg, hfl, hok⟩
    have hw : IntKind.i64.wrap ((i + 1 : Nat) : Int) = (i + 1 : Nat) := wrap_i64n (by omega)
    have hlt : ((i : Int) < 6) = True := eq_true (by omega)
    have ai := at_c a i ha (by omega)
    have fr := frac_c (atN a i : Nat)
    have mu := rqmul_c (isQ_enc d3) (isQ_enc (fracQ_dq (atN a i : Nat))) (by omega) (by omega) (by omega)
    have dm := dq_mul d3 (fracQ_dq (atN a i : Nat)) (by omega)
    generalize hq : ((3 : Int) : Rat) * fracQ (atN a i : Nat) = q at mu dm
    simp only [L15_0, tmR, seval, h1, h2, h4, h5, h6, b2, hm, hlt, b5, wpcall_eq i3, wpcall_eq ai, wpcall_eq fr, wpcall_eq mu]
    refine wp_growS [26] 26 (by decide) (.fb []) _ _ _ _ _ _ (xs := fls.map rqC) (zs := [rqC (rqOf q)]) ?_ (fun k g => rfl) ?_ (by simp) (by simp; omega) ?_
    · simp only [tmR, seval]
      exact hg.mono (fun k g hk _ => by simp only [List.mem_cons, List.not_mem_nil, or_false] at hk; rcases hk with rfl; simp only [tmD, reduceIte, Nat.reduceEqDiff, Nat.reduceAdd]) (fun k hk => by simp only [List.mem_cons, List.not_mem_nil, or_false] at hk; rcases hk with rfl; simp only [tmD, reduceIte, Nat.reduceEqDiff, Nat.reduceAdd]; exact Nat.le_refl _)
    · simp only [tmR, seval, elems]; rfl
    · intro st' v' henv hobj hcnt hg'
      have ho2 := hobj 2 0 (by decide)
      have ho4 := hobj 4 0 (by decide)
      have ho5 := hobj 5 0 (by decide)
      simp only [tmD, reduceIte, Nat.reduceEqDiff, Nat.reduceAdd, b2] at ho2
      simp only [tmD, reduceIte, Nat.reduceEqDiff, Nat.reduceAdd, b4] at ho4
      simp only [tmD, reduceIte, Nat.reduceEqDiff, Nat.reduceAdd, b5] at ho5
      have em : fls.map rqC ++ [rqC (rqOf q)] = (fls ++ [rqOf q]).map rqC := by simp
      rw [em] at hg'
      have hcl := hg'.cells
      simp only [tmR, seval, henv, h1, h2, h4, h5, h6, ho5, hcl, nat_add_one, hw, P2, ho2, P4, ho4, P5]
      refine ⟨v', fls ++ [rqOf q], rfl, hg'.mono (fun k g hk _ => by simp only [List.mem_cons, List.not_mem_nil, or_false] at hk; rcases hk with rfl; simp only [tmD, reduceIte, Nat.reduceEqDiff, Nat.reduceAdd]) (fun k hk => by simp only [tmD, reduceIte, Nat.reduceEqDiff, Nat.reduceAdd]; exact Nat.le_refl _), by simp [hfl], fun x hx => ?_⟩
      rcases List.mem_append.1 hx with h | h
      · exact hok x h
      · simp only [List.mem_singleton] at h; subst h; exact ⟨_, dm.mono (by omega), rfl⟩
  · rintro s ⟨h1, h2, h4, h5, h6, b2, b4, v, fls, b5, hg, hfl, hok⟩
    have hlt : (((6 : Nat) : Int) < 6) = False := eq_false (by omega)
    simp only [L15_0, tmR, seval, h2, h6, b2, hm, hlt]
    exact hQ _ v fls h1 h2 h4 h5 b2 b4 b5 (hg.mono (fun k g hk _ => by simp only [tmD, reduceIte, Nat.reduceEqDiff, Nat.reduceAdd]) (fun k hk => by simp only [tmD, reduceIte, Nat.reduceEqDiff, Nat.reduceAdd]; exact Nat.le_refl _)) hfl hok
  · exact ⟨h1, h2, h4, h5, h6, b2, b4, .nils, [], b5, .inl ⟨rfl, rfl⟩, rfl, fun r hr => by cases hr⟩
end Go.TM.Fn
end
section
namespace Go.TM.Fn
open Go Go.TM Go.Plain
set_option linter.unusedVariables false
set_option linter.unusedSimpArgs false
set_option maxRecDepth 20000
set_option maxHeartbeats 4000000
def GrowsC (st : St) (d e : Nat) (v : TV) (xs : Cont) : Prop :=
  (xs = [] ∧ v = .nils) ∨ ∃ g, v = .hs d g e xs.length ∧ g < st.cnt d ∧ st.obj d g = some { cont := xs, esz := e, box := false, solo := true, tip := true }
theorem GrowsC.mono {st st' : St} {d e v xs} (h : GrowsC st d e v xs) (ho : ∀ g, g < st.cnt d → st'.obj d g = st.obj d g) (hc : st.cnt d ≤ st'.cnt d) : GrowsC st' d e v xs := by
  rcases h with h | ⟨g, h1, h2, h3⟩
  · exact .inl h
  · exact .inr ⟨g, h1, Nat.lt_of_lt_of_le h2 hc, by rw [ho g h2]; exact h3⟩
theorem GrowsC.cells {st d e v xs} (h : GrowsC st d e v xs) : v.cells = [v] := by
  rcases h with ⟨rfl, rfl⟩ | ⟨g, rfl, _⟩ <;> rfl
theorem wp_growC {M : Mach} (d : Nat) (vk : Vk) (r : List TStep) (Q : St → Prop) (st : St) (e s x) {xs zs} (hs : GrowsC st d e (Go.TM.val st.env s) xs) (hv : ∀ k g, restrict st.obj vk k g = st.obj k g) (hx : Go.TM.elems (restrict st.obj vk) e (Go.TM.val st.env x) = some zs) (hz : zs ≠ []) (hl : xs.length + zs.length < 2147483648)
    (hQ : ∀ st' v, (∀ i, st'.env i = if i = d then v else st.env i) → (∀ k g, k ≠ d → st'.obj k g = st.obj k g) → (∀ k, k ≠ d → st'.cnt k = st.cnt k) → GrowsC st' d e v (xs ++ zs) → Wp M r Q st') :
    Wp M (⟨some d, .app e true s x, none, vk⟩ :: r) Q st := by
  rw [wp_app]
  rcases hs with ⟨rfl, hs⟩ | ⟨g, hs, hg, ho⟩
  · rw [hs, app_nils hx hz (by simpa using hl), wpeff_some, apply_new1]
    refine hQ _ (.hs d (st.cnt d) e zs.length) (fun i => rfl) (fun k g hk => ?_) (fun k hk => ?_) (.inr ⟨st.cnt d, rfl, ?_, ?_⟩)
    · simp only [bump_obj, putO_obj]; rw [if_neg (by rintro ⟨rfl, _⟩; exact hk rfl)]
    · simp only [bump_cnt, putO_cnt]; rw [if_neg hk]
    · simp only [bump_cnt]; simp
    · simp only [bump_obj, putO_obj]; simp
  · rw [hs]
    have ho' : restrict st.obj vk d g = some { cont := xs, esz := e, box := false, solo := true, tip := true } := by rw [hv]; exact ho
    rw [app_hs hx ho' rfl rfl rfl rfl rfl hl, wpeff_some, apply_app1]
    refine hQ _ (.hs d (st.cnt d) e (xs.length + zs.length)) (fun i => rfl) (fun k g' hk => ?_) (fun k hk => ?_) (.inr ⟨st.cnt d, by rw [List.length_append], ?_, ?_⟩)
    · simp only [bump_obj, putO_obj, setO_obj]; rw [if_neg (by rintro ⟨rfl, _⟩; exact hk rfl), if_neg (by rintro ⟨rfl, _⟩; exact hk rfl)]
    · simp only [bump_cnt, putO_cnt, setO_cnt]; rw [if_neg hk]
    · simp only [bump_cnt, setO_cnt]; simp
    · simp only [bump_obj, putO_obj]; simp
theorem loopPri1 {Q : Ex → St → Prop} {st : St} (m : Mas) (a : List Int) (hcu : m.cuts.length ≤ 2) (ha : a.length < 9223372036854775808) (fls : List RQ) (v : TV)
    (h1 : st.env 1 = .sl (ints .i64 a)) (h2 : st.env 2 = .ptr 2 0 0 0) (h4 : st.env 4 = .ptr 4 0 0 0) (h5 : st.env 5 = .ptr 5 0 0 0) (h7 : st.env 7 = .int .i64 0) (b2 : P2 st m) (b4 : P4 st) (b5 : P5 st v (.sl (m.cuts.map cutC)) .nils .nils) (hg0 : GrowsS st [26] 4 v (fls.map rqC))
    (hQ : ∀ (s : St) (w : TV) (duals : List RQ), s.env 1 = .sl (ints .i64 a) → s.env 4 = .ptr 4 0 0 0 → s.env 5 = .ptr 5 0 0 0 → P4 s → P5 s v (.sl (m.cuts.map cutC)) w .nils → GrowsS s [26] 4 v (fls.map rqC) → GrowsC s 52 4 w (duals.map rqC) → duals.length = m.cuts.length → (∀ r ∈ duals, RQ.Can 10 r) → Q (.exit 2) s) :
    Goes mach (.loop L15_1) Q st := by
  have l1 : (m.cuts.map cutC).length = m.cuts.length := map_len _
  refine wp_for (fun i s => s.env 1 = .sl (ints .i64 a) ∧ s.env 2 = .ptr 2 0 0 0 ∧ s.env 4 = .ptr 4 0 0 0 ∧ s.env 5 = .ptr 5 0 0 0 ∧ s.env 7 = .int .i64 (i : Nat) ∧ P2 s m ∧ P4 s ∧ GrowsS s [26] 4 v (fls.map rqC) ∧ ∃ (w : TV) (duals : List RQ), P5 s v (.sl (m.cuts.map cutC)) w .nils ∧ GrowsC s 52 4 w (duals.map rqC) ∧ duals.length = i ∧ ∀ r ∈ duals, RQ.Can 10 r) m.cuts.length ?_ ?_ m.cuts.length 0 _ (by omega) ?_
  · rintro i s hi ⟨h1, h2, h4, h5, h7, b2, b4, hg0, w, duals, b5, hg, hfl, hok⟩
    have hw : IntKind.i64.wrap ((i + 1 : Nat) : Int) = (i + 1 : Nat) := wrap_i64n (by omega)
    have hw10 : IntKind.i64.wrap (10 + (i : Int)) = ((10 + i : Nat) : Int) := by rw [wrap_i64 (by omega) (by omega)]; omega
    have ai := at_c a (10 + i) ha (by omega)
    have fr := frac_c (atN a (10 + i) : Nat)
    have df := fracQ_dq (atN a (10 + i) : Nat)
    generalize fracQ (atN a (10 + i) : Nat) = q at fr df
    have sg := rqsign_c (isQ_enc df) (by omega) (by omega)
    have ng := rqneg_c (isQ_enc df) (by omega) (by omega)
    by_cases hp : 0 < sgq q
    · simp only [L15_1, tmR, seval, h1, h2, h4, h5, h7, b2, l1, nat_lt, hi, hw10, wpcall_eq ai, wpcall_eq fr, wpcall_eq sg, hp, wpcall_eq ng, b5]
      refine wp_growC 52 .full _ _ _ _ _ _ (xs := duals.map rqC) (zs := [rqC (rqOf (-q))]) ?_ (fun k g => rfl) ?_ (by simp) (by simp; omega) ?_
      · simp only [tmR, seval]
        exact hg.mono (fun g _ => by simp only [tmD, reduceIte, Nat.reduceEqDiff, Nat.reduceAdd]) (by simp only [tmD, reduceIte, Nat.reduceEqDiff, Nat.reduceAdd]; exact Nat.le_refl _)
      · simp only [tmR, seval, elems]; rfl
      · intro st' v' henv hobj hcnt hg'
        have ho2 := hobj 2 0 (by decide)
        have ho4 := hobj 4 0 (by decide)
        have ho5 := hobj 5 0 (by decide)
        simp only [tmD, reduceIte, Nat.reduceEqDiff, Nat.reduceAdd, b2] at ho2
        simp only [tmD, reduceIte, Nat.reduceEqDiff, Nat.reduceAdd, b4] at ho4
        simp only [tmD, reduceIte, Nat.reduceEqDiff, Nat.reduceAdd, b5] at ho5
        have em : duals.map rqC ++ [rqC (rqOf (-q))] = (duals ++ [rqOf (-q)]).map rqC := by simp
        rw [em] at hg'
        have hcl := hg'.cells
        have hg0' : GrowsS st' [26] 4 v (fls.map rqC) := hg0.mono (fun k g hk _ => by
          have e := hobj k g (by simp only [List.mem_cons, List.not_mem_nil, or_false] at hk; omega)
          simp only [List.mem_cons, List.not_mem_nil, or_false] at hk
          rw [e]; rcases hk with rfl; simp only [tmD, reduceIte, Nat.reduceEqDiff, Nat.reduceAdd]) (fun k hk => by
          have e := hcnt k (by simp only [List.mem_cons, List.not_mem_nil, or_false] at hk; omega)
          simp only [List.mem_cons, List.not_mem_nil, or_false] at hk
          rw [e]; rcases hk with rfl; simp only [tmD, reduceIte, Nat.reduceEqDiff, Nat.reduceAdd]; exact Nat.le_refl _)
        simp only [tmR, seval, henv, h1, h2, h4, h5, h7, ho5, hcl, nat_add_one, hw, P2, ho2, P4, ho4, P5]
        refine ⟨hg0'.mono (fun k g hk _ => by simp only [List.mem_cons, List.not_mem_nil, or_false] at hk; rcases hk with rfl; simp only [tmD, reduceIte, Nat.reduceEqDiff, Nat.reduceAdd]) (fun k hk => by simp only [tmD, reduceIte, Nat.reduceEqDiff, Nat.reduceAdd]; exact Nat.le_refl _), v', duals ++ [rqOf (-q)], rfl, hg'.mono (fun g _ => by simp only [tmD, reduceIte, Nat.reduceEqDiff, Nat.reduceAdd]) (by simp only [tmD, reduceIte, Nat.reduceEqDiff, Nat.reduceAdd]; exact Nat.le_refl _), by simp [hfl], fun x hx => ?_⟩
        rcases List.mem_append.1 hx with h | h
        · exact hok x h
        · simp only [List.mem_singleton] at h; subst h; exact ⟨_, df.neg.mono (by omega), rfl⟩
    · simp only [L15_1, tmR, seval, h1, h2, h4, h5, h7, b2, l1, nat_lt, hi, hw10, wpcall_eq ai, wpcall_eq fr, wpcall_eq sg, hp, b5]
      refine wp_growC 52 .full _ _ _ _ _ _ (xs := duals.map rqC) (zs := [rqC (rqOf (q))]) ?_ (fun k g => rfl) ?_ (by simp) (by simp; omega) ?_
      · simp only [tmR, seval]
        exact hg.mono (fun g _ => by simp only [tmD, reduceIte, Nat.reduceEqDiff, Nat.reduceAdd]) (by simp only [tmD, reduceIte, Nat.reduceEqDiff, Nat.reduceAdd]; exact Nat.le_refl _)
      · simp only [tmR, seval, elems]; rfl
      · intro st' v' henv hobj hcnt hg'
        have ho2 := hobj 2 0 (by decide)
        have ho4 := hobj 4 0 (by decide)
        have ho5 := hobj 5 0 (by decide)
        simp only [tmD, reduceIte, Nat.reduceEqDiff, Nat.reduceAdd, b2] at ho2
        simp only [tmD, reduceIte, Nat.reduceEqDiff, Nat.reduceAdd, b4] at ho4
        simp only [tmD, reduceIte, Nat.reduceEqDiff, Nat.reduceAdd, b5] at ho5
        have em : duals.map rqC ++ [rqC (rqOf (q))] = (duals ++ [rqOf (q)]).map rqC := by simp
        rw [em] at hg'
        have hcl := hg'.cells
        have hg0' : GrowsS st' [26] 4 v (fls.map rqC) := hg0.mono (fun k g hk _ => by
          have e := hobj k g (by simp only [List.mem_cons, List.not_mem_nil, or_false] at hk; omega)
          simp only [List.mem_cons, List.not_mem_nil, or_false] at hk
          rw [e]; rcases hk with rfl; simp only [tmD, reduceIte, Nat.reduceEqDiff, Nat.reduceAdd]) (fun k hk => by
          have e := hcnt k (by simp only [List.mem_cons, List.not_mem_nil, or_false] at hk; omega)
          simp only [List.mem_cons, List.not_mem_nil, or_false] at hk
          rw [e]; rcases hk with rfl; simp only [tmD, reduceIte, Nat.reduceEqDiff, Nat.reduceAdd]; exact Nat.le_refl _)
        simp only [tmR, seval, henv, h1, h2, h4, h5, h7, ho5, hcl, nat_add_one, hw, P2, ho2, P4, ho4, P5]
        refine ⟨hg0'.mono (fun k g hk _ => by simp only [List.mem_cons, List.not_mem_nil, or_false] at hk; rcases hk with rfl; simp only [tmD, reduceIte, Nat.reduceEqDiff, Nat.reduceAdd]) (fun k hk => by simp only [tmD, reduceIte, Nat.reduceEqDiff, Nat.reduceAdd]; exact Nat.le_refl _), v', duals ++ [rqOf (q)], rfl, hg'.mono (fun g _ => by simp only [tmD, reduceIte, Nat.reduceEqDiff, Nat.reduceAdd]) (by simp only [tmD, reduceIte, Nat.reduceEqDiff, Nat.reduceAdd]; exact Nat.le_refl _), by simp [hfl], fun x hx => ?_⟩
        rcases List.mem_append.1 hx with h | h
        · exact hok x h
        · simp only [List.mem_singleton] at h; subst h; exact ⟨_, df.mono (by omega), rfl⟩
  · rintro s ⟨h1, h2, h4, h5, h7, b2, b4, hg0, w, duals, b5, hg, hfl, hok⟩
    simp only [L15_1, tmR, seval, h2, h7, b2, l1, Int.lt_irrefl]
    exact hQ _ w duals h1 h4 h5 b4 b5 (hg0.mono (fun k g hk _ => by simp only [tmD, reduceIte, Nat.reduceEqDiff, Nat.reduceAdd]) (fun k hk => by simp only [tmD, reduceIte, Nat.reduceEqDiff, Nat.reduceAdd]; exact Nat.le_refl _)) (hg.mono (fun g _ => by simp only [tmD, reduceIte, Nat.reduceEqDiff, Nat.reduceAdd]) (by simp only [tmD, reduceIte, Nat.reduceEqDiff, Nat.reduceAdd]; exact Nat.le_refl _)) hfl hok
  · exact ⟨h1, h2, h4, h5, h7, b2, b4, hg0, .nils, [], b5, .inl ⟨rfl, rfl⟩, rfl, fun r hr => by cases hr⟩
theorem loopPri2 {Q : Ex → St → Prop} {st : St} (m : Mas) (a : List Int) (ha : a.length < 9223372036854775808) (fls duals : List RQ) (v w : TV)
    (h1 : st.env 1 = .sl (ints .i64 a)) (h4 : st.env 4 = .ptr 4 0 0 0) (h5 : st.env 5 = .ptr 5 0 0 0) (h9 : st.env 9 = .int .i64 0) (b4 : P4 st) (b5 : P5 st v (.sl (m.cuts.map cutC)) w .nils) (hg0 : GrowsS st [26] 4 v (fls.map rqC)) (hg1 : GrowsC st 52 4 w (duals.map rqC))
    (hQ : ∀ (s : St) (u : TV) (decs : List Dec), s.env 4 = .ptr 4 0 0 0 → s.env 5 = .ptr 5 0 0 0 → P4 s → P5 s v (.sl (m.cuts.map cutC)) w u → GrowsS s [26] 4 v (fls.map rqC) → GrowsC s 52 4 w (duals.map rqC) → GrowsS s [84] 3 u (decs.map decC) → decs.length ≤ 2 → Q (.exit 4) s) :
    Goes mach (.loop L15_2) Q st := by
  have at20 : Gives mach 59 [.sl (ints .i64 a), .int .i64 20] (.int .i64 (atN a 20 : Nat)) := at_c a 20 ha (by omega)
  have hrem : binTV false .rem (.int .i64 (atN a 20 : Nat)) (.int .i64 3) = some (.int .i64 ((atN a 20 % 3 : Nat) : Int)) := by rw [bin_rem _ _ _ _ (by decide)]; exact congrArg _ (congrArg _ (rem_nat _ 3))
  have hlt3 : atN a 20 % 3 < 3 := Nat.mod_lt _ (by omega)
  have rem6 : ∀ n : Nat, binTV false .rem (.int .i64 (n : Nat)) (.int .i64 6) = some (.int .i64 ((n % 6 : Nat) : Int)) := fun n => by rw [bin_rem _ _ _ _ (by decide)]; exact congrArg _ (congrArg _ (rem_nat _ 6))
  refine wp_for (fun i s => s.env 1 = .sl (ints .i64 a) ∧ s.env 4 = .ptr 4 0 0 0 ∧ s.env 5 = .ptr 5 0 0 0 ∧ s.env 9 = .int .i64 (i : Nat) ∧ P4 s ∧ GrowsS s [26] 4 v (fls.map rqC) ∧ GrowsC s 52 4 w (duals.map rqC) ∧ ∃ (u : TV) (decs : List Dec), P5 s v (.sl (m.cuts.map cutC)) w u ∧ GrowsS s [84] 3 u (decs.map decC) ∧ decs.length ≤ i) (atN a 20 % 3) ?_ ?_ (atN a 20 % 3) 0 _ (by omega) ?_
  · rintro i s hi ⟨h1, h4, h5, h9, b4, hg0, hg1, u, decs, b5, hg, hfl⟩
    have hw : IntKind.i64.wrap ((i + 1 : Nat) : Int) = (i + 1 : Nat) := wrap_i64n (by omega)
    have hw21 : IntKind.i64.wrap (21 + (i : Int)) = ((21 + i : Nat) : Int) := by rw [wrap_i64 (by omega) (by omega)]; omega
    have ai := at_c a (21 + i) ha (by omega)
    obtain ⟨n3, _, hs3⟩ := shr_nat false .u64 (atN a (21 + i)) 3 (by decide)
    obtain ⟨n6, _, hs6⟩ := shr_nat false .u64 (atN a (21 + i)) 6 (by decide)
    by_cases he : (((atN a (21 + i) % 6 : Nat) : Int) = ((n3 % 6 : Nat) : Int))
    · simp only [L15_2, tmR, seval, h1, h4, h5, h9, wpcall_eq at20, hrem, nat_lt, hi, hw21, wpcall_eq ai, rem6, hs3, he, nat_add_one, hw, P4, b4, P5, b5]
      exact ⟨hg0.mono (fun k g hk _ => by simp only [tmD, reduceIte, Nat.reduceEqDiff, Nat.reduceAdd]) (fun k hk => by simp only [tmD, reduceIte, Nat.reduceEqDiff, Nat.reduceAdd]; exact Nat.le_refl _), hg1.mono (fun g _ => by simp only [tmD, reduceIte, Nat.reduceEqDiff, Nat.reduceAdd]) (by simp only [tmD, reduceIte, Nat.reduceEqDiff, Nat.reduceAdd]; exact Nat.le_refl _), u, decs, rfl, hg.mono (fun k g hk _ => by simp only [tmD, reduceIte, Nat.reduceEqDiff, Nat.reduceAdd]) (fun k hk => by simp only [tmD, reduceIte, Nat.reduceEqDiff, Nat.reduceAdd]; exact Nat.le_refl _), by omega⟩
    · simp only [L15_2, tmR, seval, h1, h4, h5, h9, wpcall_eq at20, hrem, nat_lt, hi, hw21, wpcall_eq ai, rem6, hs3, he, b5, hs6, and1]
      refine wp_growS [84] 84 (by decide) .full _ _ _ _ _ _ (xs := decs.map decC) (zs := [decC ⟨((atN a (21 + i) % 6 : Nat) : Int), ((n3 % 6 : Nat) : Int), decide ((andm (n6 : Nat) 1 : Int) = 1)⟩]) ?_ (fun k g => rfl) ?_ (by simp) (by simp; omega) ?_
      · simp only [tmR, seval]
        exact hg.mono (fun k g hk _ => by simp only [List.mem_cons, List.not_mem_nil, or_false] at hk; rcases hk with rfl; simp only [tmD, reduceIte, Nat.reduceEqDiff, Nat.reduceAdd]) (fun k hk => by simp only [List.mem_cons, List.not_mem_nil, or_false] at hk; rcases hk with rfl; simp only [tmD, reduceIte, Nat.reduceEqDiff, Nat.reduceAdd]; exact Nat.le_refl _)
      · simp only [tmR, seval, elems]; rfl
      · intro st' v' henv hobj hcnt hg'
        have ho4 := hobj 4 0 (by decide)
        have ho5 := hobj 5 0 (by decide)
        simp only [tmD, reduceIte, Nat.reduceEqDiff, Nat.reduceAdd, b4] at ho4
        simp only [tmD, reduceIte, Nat.reduceEqDiff, Nat.reduceAdd, b5] at ho5
        have em : decs.map decC ++ [decC ⟨((atN a (21 + i) % 6 : Nat) : Int), ((n3 % 6 : Nat) : Int), decide ((andm (n6 : Nat) 1 : Int) = 1)⟩] = (decs ++ [(⟨((atN a (21 + i) % 6 : Nat) : Int), ((n3 % 6 : Nat) : Int), decide ((andm (n6 : Nat) 1 : Int) = 1)⟩ : Dec)]).map decC := by simp
        rw [em] at hg'
        have hcl := hg'.cells
        have hg0' : GrowsS st' [26] 4 v (fls.map rqC) := hg0.mono (fun k g hk _ => by
          have e := hobj k g (by simp only [List.mem_cons, List.not_mem_nil, or_false] at hk ⊢; omega)
          simp only [List.mem_cons, List.not_mem_nil, or_false] at hk
          rw [e]; rcases hk with rfl; simp only [tmD, reduceIte, Nat.reduceEqDiff, Nat.reduceAdd]) (fun k hk => by
          have e := hcnt k (by simp only [List.mem_cons, List.not_mem_nil, or_false] at hk; omega)
          simp only [List.mem_cons, List.not_mem_nil, or_false] at hk
          rw [e]; rcases hk with rfl; simp only [tmD, reduceIte, Nat.reduceEqDiff, Nat.reduceAdd]; exact Nat.le_refl _)
        have hg1' : GrowsC st' 52 4 w (duals.map rqC) := hg1.mono (fun g _ => by
          have e := hobj 52 g (by decide)
          rw [e]; simp only [tmD, reduceIte, Nat.reduceEqDiff, Nat.reduceAdd]) (by rw [hcnt 52 (by decide)]; simp only [tmD, reduceIte, Nat.reduceEqDiff, Nat.reduceAdd]; exact Nat.le_refl _)
        simp only [tmR, seval, henv, h1, h4, h5, h9, ho5, hcl, nat_add_one, hw, P4, ho4, P5]
        refine ⟨hg0'.mono (fun k g hk _ => by simp only [List.mem_cons, List.not_mem_nil, or_false] at hk; rcases hk with rfl; simp only [tmD, reduceIte, Nat.reduceEqDiff, Nat.reduceAdd]) (fun k hk => by simp only [tmD, reduceIte, Nat.reduceEqDiff, Nat.reduceAdd]; exact Nat.le_refl _), hg1'.mono (fun g _ => by simp only [tmD, reduceIte, Nat.reduceEqDiff, Nat.reduceAdd]) (by simp only [tmD, reduceIte, Nat.reduceEqDiff, Nat.reduceAdd]; exact Nat.le_refl _), v', _, rfl, hg'.mono (fun k g hk _ => by simp only [List.mem_cons, List.not_mem_nil, or_false] at hk; rcases hk with rfl; simp only [tmD, reduceIte, Nat.reduceEqDiff, Nat.reduceAdd]) (fun k hk => by simp only [tmD, reduceIte, Nat.reduceEqDiff, Nat.reduceAdd]; exact Nat.le_refl _), by simp; omega⟩
  · rintro s ⟨h1, h4, h5, h9, b4, hg0, hg1, u, decs, b5, hg, hfl⟩
    simp only [L15_2, tmR, seval, h1, h9, wpcall_eq at20, hrem, Int.lt_irrefl]
    exact hQ _ u decs h4 h5 b4 b5 (hg0.mono (fun k g hk _ => by simp only [tmD, reduceIte, Nat.reduceEqDiff, Nat.reduceAdd]) (fun k hk => by simp only [tmD, reduceIte, Nat.reduceEqDiff, Nat.reduceAdd]; exact Nat.le_refl _)) (hg1.mono (fun g _ => by simp only [tmD, reduceIte, Nat.reduceEqDiff, Nat.reduceAdd]) (by simp only [tmD, reduceIte, Nat.reduceEqDiff, Nat.reduceAdd]; exact Nat.le_refl _)) (hg.mono (fun k g hk _ => by simp only [tmD, reduceIte, Nat.reduceEqDiff, Nat.reduceAdd]) (fun k hk => by simp only [tmD, reduceIte, Nat.reduceEqDiff, Nat.reduceAdd]; exact Nat.le_refl _)) (by omega)
  · exact ⟨h1, h4, h5, h9, b4, hg0, hg1, .nils, [], b5, .inl ⟨rfl, rfl⟩, by simp⟩
end Go.TM.Fn
end
section
namespace Go.TM.Fn
open Go Go.TM Go.Plain
set_option linter.unusedVariables false
set_option linter.unusedSimpArgs false
set_option maxRecDepth 20000
set_option maxHeartbeats 4000000
def RetP (res : List TRes) (args : List TV) (P : TV → Prop) (e : Ex) (s : St) : Prop := match e with
  | .exit _ => False
  | _ => ∃ rv, finishR res args s = some (rv, []) ∧ P rv
theorem retP_ret (F args P s) : RetP F args P .ret s = ∃ rv, finishR F args s = some (rv, []) ∧ P rv := rfl
theorem retP_norm (F args P s) : RetP F args P .norm s = ∃ rv, finishR F args s = some (rv, []) ∧ P rv := rfl
theorem givesP {M : Mach} {f : Nat} {F : TFunc} {args : List TV} {P : TV → Prop} (h : M.tab f = some F) (hn : F.np = args.length) (hp : Goes M F.body (RetP F.res args P) (initSt args)) : ∃ rv, P rv ∧ call M f args = some (rv, []) := by
  obtain ⟨e, s, h1, h2⟩ := hp
  cases e with
  | exit i => cases h2
  | norm => obtain ⟨rv, h3, h4⟩ := h2; exact ⟨_, h4, by rw [call_eq h args hn, h1]; exact h3⟩
  | ret => obtain ⟨rv, h3, h4⟩ := h2; exact ⟨_, h4, by rw [call_eq h args hn, h1]; exact h3⟩
def Ret1 (e : Nat) (xs : Cont) (u : TV) : Prop := (xs = [] ∧ u = .nils) ∨ u = .sl xs ∨ u = .own e xs
def Ret2 (e : Nat) (xs : Cont) (u : TV) : Prop := (xs = [] ∧ u = .nils) ∨ u = .own e xs
theorem out1_ret {st S e v xs} (h : GrowsS st S e v xs) : ∃ u, out1 st.obj v = some u ∧ Ret1 e xs u := by
  rcases h with ⟨rfl, rfl⟩ | ⟨k, g, o, hk, rfl, _, hob, hc, hb, he, ht⟩
  · exact ⟨.nils, rfl, .inl ⟨rfl, rfl⟩⟩
  · cases hs : o.solo
    · exact ⟨.sl xs, by simp [out1, hob, hb, he, hc, hs], .inr (.inl rfl)⟩
    · exact ⟨.own e xs, by simp [out1, hob, hb, he, hc, hs, ht], .inr (.inr rfl)⟩
theorem out1_retC {st d e v xs} (h : GrowsC st d e v xs) : ∃ u, out1 st.obj v = some u ∧ Ret2 e xs u := by
  rcases h with ⟨rfl, rfl⟩ | ⟨g, rfl, _, hob⟩
  · exact ⟨.nils, rfl, .inl ⟨rfl, rfl⟩⟩
  · exact ⟨.own e xs, by simp [out1, hob], .inr rfl⟩
theorem hand1_growsC {st d e v xs} (h : GrowsC st d e v xs) : hand1 v = [] ∨ ∃ g, hand1 v = [(d, g)] := by
  rcases h with ⟨rfl, rfl⟩ | ⟨g, rfl, _⟩
  · exact .inl rfl
  · exact .inr ⟨g, rfl⟩
def PriBack (cuts : List Cu) (n : Nat) (rv : TV) : Prop := ∃ (F D E : TV) (fls duals : List RQ) (decs : List Dec), rv = .agg [F, .sl (cuts.map cutC), D, E, .bool false] ∧
  Ret1 4 (fls.map rqC) F ∧ Ret2 4 (duals.map rqC) D ∧ Ret1 3 (decs.map decC) E ∧ fls.length = 6 ∧ duals.length = n ∧ decs.length ≤ 2 ∧ (∀ r ∈ fls, RQ.Can 10 r) ∧ ∀ r ∈ duals, RQ.Can 10 r
theorem pri_fin {s : St} {args : List TV} {v w u : TV} {fls duals : List RQ} {cuts : List Cu} {decs : List Dec} {n : Nat} (ha : hasOwn args = false) (hm : mutsOf s 0 args = some []) (h4 : s.env 4 = .ptr 4 0 0 0)
    (ho : s.obj 4 0 = some { cont := [[v, .sl (cuts.map cutC), w, u, .bool false]], esz := 5, box := true, solo := true, tip := false }) (hg0 : GrowsS s [26] 4 v (fls.map rqC)) (hg1 : GrowsC s 52 4 w (duals.map rqC)) (hg2 : GrowsS s [84] 3 u (decs.map decC))
    (hf : fls.length = 6) (hd : duals.length = n) (he : decs.length ≤ 2) (hfo : ∀ r ∈ fls, RQ.Can 10 r) (hdo : ∀ r ∈ duals, RQ.Can 10 r) :
    ∃ rv, finishR [.cell 4 5 true] args s = some (rv, []) ∧ PriBack cuts n rv := by
  obtain ⟨u1, e1, w1⟩ := out1_ret hg0
  obtain ⟨u3, e3, w3⟩ := out1_retC hg1
  obtain ⟨u4, e4, w4⟩ := out1_ret hg2
  have c6 : out1 s.obj (.sl (cuts.map cutC)) = some (.sl (cuts.map cutC)) := rfl
  have cp : out1 s.obj (.bool false) = some (.bool false) := rfl
  have hon : once (hands (.agg [v, .sl (cuts.map cutC), w, u, .bool false])) = true := by
    have i6 : hand1 (.sl (cuts.map cutC)) = [] := rfl
    have ip : hand1 (.bool false) = [] := rfl
    simp only [hands, TV.cells, List.flatMap_cons, List.flatMap_nil, i6, ip]
    rcases hand1_grows hg0 with h1 | ⟨k1, g1, hk1, h1⟩ <;> rcases hand1_growsC hg1 with h3 | ⟨g3, h3⟩ <;> rcases hand1_grows hg2 with h4 | ⟨k4, g4, hk4, h4⟩ <;>
      simp_all [once]
  refine ⟨.agg [u1, .sl (cuts.map cutC), u3, u4, .bool false], ?_, u1, u3, u4, fls, duals, decs, rfl, w1, w3, w4, hf, hd, he, hfo, hdo⟩
  simp [finishR, resVals, resVal, hm, ha, h4, ho, pull, hon, out, outs, e1, e3, e4, c6, cp]
theorem prices_o (m : Mas) (a : List Int) (hm : m.fl = 6) (hcu : m.cuts.length ≤ 2) (ha : a.length < 9223372036854775808) : ∃ rv, PriBack m.cuts m.cuts.length rv ∧ call mach 15 [masT m, .sl (ints .i64 a)] = some (rv, []) := by
  refine givesP tab15 rfl ?_
  simp only [F15, tmR, seval]
  refine loopPri0 m a hm ha ?_ ?_ ?_ ?_ ?_ ?_ ?_ ?_ (fun s v fls h1 h2 h4 h5 b2 b4 b5 hg hfl hok => ?_)
  · simp only [tmD, reduceIte, Nat.reduceEqDiff, Nat.reduceAdd]
  · simp only [tmD, reduceIte, Nat.reduceEqDiff, Nat.reduceAdd]
  · simp only [tmD, reduceIte, Nat.reduceEqDiff, Nat.reduceAdd]
  · simp only [tmD, reduceIte, Nat.reduceEqDiff, Nat.reduceAdd]
  · simp only [tmD, reduceIte, Nat.reduceEqDiff, Nat.reduceAdd]
  · simp only [P2, tmD, reduceIte, Nat.reduceEqDiff, Nat.reduceAdd]
  · simp only [P4, tmD, reduceIte, Nat.reduceEqDiff, Nat.reduceAdd]
  · simp only [P5, tmD, reduceIte, Nat.reduceEqDiff, Nat.reduceAdd]
  · simp only [tmR, seval, h1, h2, h4, h5, b2, b5]
    refine loopPri1 m a hcu ha fls v ?_ ?_ ?_ ?_ ?_ ?_ ?_ ?_ ?_ (fun s w duals h1 h4 h5 b4 b5 hg0 hg1 hdl hdk => ?_)
    · simp only [tmD, reduceIte, Nat.reduceEqDiff, Nat.reduceAdd, h1]
    · simp only [tmD, reduceIte, Nat.reduceEqDiff, Nat.reduceAdd, h2]
    · simp only [tmD, reduceIte, Nat.reduceEqDiff, Nat.reduceAdd, h4]
    · simp only [tmD, reduceIte, Nat.reduceEqDiff, Nat.reduceAdd, h5]
    · simp only [tmD, reduceIte, Nat.reduceEqDiff, Nat.reduceAdd]
    · simp only [P2, tmD, reduceIte, Nat.reduceEqDiff, Nat.reduceAdd, b2]
    · simp only [P4, tmD, reduceIte, Nat.reduceEqDiff, Nat.reduceAdd, b4]
    · simp only [P5, tmD, reduceIte, Nat.reduceEqDiff, Nat.reduceAdd]
    · exact hg.mono (fun k g hk _ => by simp only [List.mem_cons, List.not_mem_nil, or_false] at hk; rcases hk with rfl; simp only [tmD, reduceIte, Nat.reduceEqDiff, Nat.reduceAdd]) (fun k hk => by simp only [tmD, reduceIte, Nat.reduceEqDiff, Nat.reduceAdd]; exact Nat.le_refl _)
    · simp only [tmR, seval]
      refine loopPri2 m a ha fls duals v w ?_ ?_ ?_ ?_ ?_ ?_ ?_ ?_ (fun s u decs h4 h5 b4 b5 hg0 hg1 hg2 hdc => ?_)
      · simp only [tmD, reduceIte, Nat.reduceEqDiff, Nat.reduceAdd, h1]
      · simp only [tmD, reduceIte, Nat.reduceEqDiff, Nat.reduceAdd, h4]
      · simp only [tmD, reduceIte, Nat.reduceEqDiff, Nat.reduceAdd, h5]
      · simp only [tmD, reduceIte, Nat.reduceEqDiff, Nat.reduceAdd]
      · simp only [P4, tmD, reduceIte, Nat.reduceEqDiff, Nat.reduceAdd, b4]
      · simp only [P5, tmD, reduceIte, Nat.reduceEqDiff, Nat.reduceAdd, b5]
      · exact hg0.mono (fun k g hk _ => by simp only [List.mem_cons, List.not_mem_nil, or_false] at hk; rcases hk with rfl; simp only [tmD, reduceIte, Nat.reduceEqDiff, Nat.reduceAdd]) (fun k hk => by simp only [tmD, reduceIte, Nat.reduceEqDiff, Nat.reduceAdd]; exact Nat.le_refl _)
      · exact hg1.mono (fun g _ => by simp only [tmD, reduceIte, Nat.reduceEqDiff, Nat.reduceAdd]) (by simp only [tmD, reduceIte, Nat.reduceEqDiff, Nat.reduceAdd]; exact Nat.le_refl _)
      · simp only [tmR, seval, h4, h5, b4, b5, retP_ret]
        refine pri_fin (v := v) (w := w) (u := u) rfl rfl ?_ ?_ ?_ ?_ ?_ hfl hdl hdc hok hdk
        · simp only [tmD, reduceIte, Nat.reduceEqDiff, Nat.reduceAdd, h4]
        · simp only [tmD, reduceIte, Nat.reduceEqDiff, Nat.reduceAdd]
        · exact hg0.mono (fun k g hk _ => by simp only [List.mem_cons, List.not_mem_nil, or_false] at hk; rcases hk with rfl; simp only [tmD, reduceIte, Nat.reduceEqDiff, Nat.reduceAdd]) (fun k hk => by simp only [tmD, reduceIte, Nat.reduceEqDiff, Nat.reduceAdd]; exact Nat.le_refl _)
        · exact hg1.mono (fun g _ => by simp only [tmD, reduceIte, Nat.reduceEqDiff, Nat.reduceAdd]) (by simp only [tmD, reduceIte, Nat.reduceEqDiff, Nat.reduceAdd]; exact Nat.le_refl _)
        · exact hg2.mono (fun k g hk _ => by simp only [List.mem_cons, List.not_mem_nil, or_false] at hk; rcases hk with rfl; simp only [tmD, reduceIte, Nat.reduceEqDiff, Nat.reduceAdd]) (fun k hk => by simp only [tmD, reduceIte, Nat.reduceEqDiff, Nat.reduceAdd]; exact Nat.le_refl _)
end Go.TM.Fn
end
section
namespace Go.TM
section
variable {ob : Nat → Nat → Option Obj} {d c e : Nat} {zs : Cont}
theorem app_hsF {x : TV} {k g n : Nat} {o : Obj} (h : elems ob e x = some zs) (ho : ob k g = some o) (hb : o.box = false) (he : o.esz = e) (ht : o.tip = true) (hn : n = o.cont.length) (hl : n + zs.length < 2147483648) :
    appE d c ob e false (.hs k g e n) x = some { v := .hs d c e (n + zs.length), new := [{ cont := o.cont ++ zs, esz := e, box := false, solo := false, tip := true }], mods := [(k, g, some { o with solo := false, tip := false })] } := by
  simp only [appE, h, ho]
  subst hn he
  rw [if_pos (by simp [hb, ht, hl])]
  simp
end
theorem apply_appF (d k g : Nat) (v : TV) (o o2 : Obj) (st : St) : apply (some d) { v := v, new := [o], mods := [(k, g, some o2)] } st = bump (putO (setO st k g (some o2)) d v d (st.cnt d) (some o)) d (st.cnt d + 1) := rfl
end Go.TM
namespace Go.TM.Fn
open Go Go.TM Go.Plain
set_option linter.unusedVariables false
set_option linter.unusedSimpArgs false
set_option maxRecDepth 20000
set_option maxHeartbeats 4000000
theorem rqOf_val (q : Rat) : (rqOf q).val = q := by
  unfold RQ.val rqOf
  simp only [ival_enc]
  exact Rat.num_divInt_den q
theorem RQ.Can.eq {k r} (h : RQ.Can k r) : rqOf r.val = r := by obtain ⟨q, _, rfl⟩ := h; rw [rqOf_val]
abbrev C1 (s : St) (x : Pri) : Prop := s.obj 1 0 = some { cont := [priL x], esz := 5, box := true, solo := true, tip := false }
abbrev C2 (s : St) : Prop := s.obj 2 0 = some { cont := [[.nils, .nils, .nils, .nils, .bool false]], esz := 5, box := true, solo := true, tip := false }
abbrev C3 (s : St) (f c d e : TV) (b : Bool) : Prop := s.obj 3 0 = some { cont := [[f, c, d, e, .bool b]], esz := 5, box := true, solo := true, tip := false }
def Stab (S : List Nat) (I : St → Prop) : Prop := ∀ s s' : St, (∀ k g, k ∈ S → s'.obj k g = s.obj k g) → (∀ k, k ∈ S → s.cnt k ≤ s'.cnt k) → I s → I s'
theorem loopCop0 {Q : Ex → St → Prop} {st : St} (x : Pri) (I : St → Prop) (hI : Stab [13] I) (hl : x.fls.length < 2147483648) (hx : ∀ r ∈ x.fls, RQ.Can 1000 r) {c d e : TV} {b : Bool}
    (h1 : st.env 1 = .ptr 1 0 0 0) (h2 : st.env 2 = .ptr 2 0 0 0) (h3 : st.env 3 = .ptr 3 0 0 0) (h18 : st.env 18 = .sl (x.fls.map rqC)) (h19 : st.env 19 = .int .i64 (x.fls.length : Nat)) (h20 : st.env 20 = .int .i64 0)
    (b1 : C1 st x) (b2 : C2 st) (b3 : C3 st .nils c d e b) (hi0 : I st)
    (hQ : ∀ (s : St) (v : TV), s.env 1 = .ptr 1 0 0 0 → s.env 2 = .ptr 2 0 0 0 → s.env 3 = .ptr 3 0 0 0 → C1 s x → C2 s → C3 s v c d e b → GrowsS s [30] 4 v (x.fls.map rqC) → I s → Q (.exit 0) s) :
    Goes mach (.loop L80_0) Q st := by
  have ml : (x.fls.map rqC).length = x.fls.length := map_len _
  have wh := whole_c (n := 0) (by unfold I64; omega)
  have d0 := dq_int (n := 0) (by unfold I64; omega)
  refine wp_for (fun i s => s.env 1 = .ptr 1 0 0 0 ∧ s.env 2 = .ptr 2 0 0 0 ∧ s.env 3 = .ptr 3 0 0 0 ∧ s.env 18 = .sl (x.fls.map rqC) ∧ s.env 19 = .int .i64 (x.fls.length : Nat) ∧ s.env 20 = .int .i64 (i : Nat) ∧ C1 s x ∧ C2 s ∧ I s ∧ ∃ v, C3 s v c d e b ∧ GrowsS s [30] 4 v ((x.fls.take i).map rqC)) x.fls.length ?_ ?_ x.fls.length 0 _ (by omega) ?_
  · rintro i s hi ⟨h1, h2, h3, h18, h19, h20, b1, b2, hIs, v, b3, hg⟩
    have hw : IntKind.i64.wrap ((i + 1 : Nat) : Int) = (i + 1 : Nat) := wrap_i64n (by omega)
    have ia := iaddr_map (C := rqC) (kk := .i64) default (e := 4) (fun _ => rfl) hi
    have can := hx _ (getD_mem default hi)
    have tk : (x.fls.take i).map rqC ++ [rqC (rqOf (x.fls.getD i default).val)] = (x.fls.take (i + 1)).map rqC := by
      rw [can.eq, gtake_succ default hi]; simp
    have tl : (x.fls.take i).length ≤ i := by rw [List.length_take]; omega
    have ok := can.ok
    generalize x.fls.getD i default = r at *
    have ad := qadd_c (RQ.isQ ok) (isQ_enc d0) (by omega) (by omega) (by omega)
    rw [show (((0 : Int) : Rat)) = 0 from rfl] at ad wh
    rw [Rat.add_zero] at ad
    simp only [rqC] at ia ad
    simp only [L80_0, tmR, seval, h1, h2, h3, h18, h19, h20, nat_lt, hi, ia, b3, wpcall_eq wh, wpcall_eq ad]
    refine wp_growS [30] 30 (by decide) (.fb []) _ _ _ _ _ _ (xs := (x.fls.take i).map rqC) (zs := [rqC (rqOf r.val)]) ?_ (fun k g => rfl) ?_ (by simp) (by simp; omega) ?_
    · simp only [tmR, seval]
      exact hg.mono (fun k g hk _ => by simp only [List.mem_cons, List.not_mem_nil, or_false] at hk; rcases hk with rfl; simp only [tmD, reduceIte, Nat.reduceEqDiff, Nat.reduceAdd]) (fun k hk => by simp only [List.mem_cons, List.not_mem_nil, or_false] at hk; rcases hk with rfl; simp only [tmD, reduceIte, Nat.reduceEqDiff, Nat.reduceAdd]; exact Nat.le_refl _)
    · simp only [tmR, seval, elems]; rfl
    · intro st' v' henv hobj hcnt hg'
      have ho1 := hobj 1 0 (by decide)
      have ho2 := hobj 2 0 (by decide)
      have ho3 := hobj 3 0 (by decide)
      simp only [tmD, reduceIte, Nat.reduceEqDiff, Nat.reduceAdd, b1] at ho1
      simp only [tmD, reduceIte, Nat.reduceEqDiff, Nat.reduceAdd, b2] at ho2
      simp only [tmD, reduceIte, Nat.reduceEqDiff, Nat.reduceAdd, b3] at ho3
      have ob13 := fun g => hobj 13 g (by decide)
      have cn13 := hcnt 13 (by decide)
      simp only [tmD, reduceIte, Nat.reduceEqDiff, Nat.reduceAdd] at ob13 cn13
      rw [tk] at hg'
      have hcl := hg'.cells
      simp only [tmR, seval, henv, h1, h2, h3, h18, h19, h20, ho3, hcl, nat_add_one, hw, C1, ho1, C2, ho2, C3]
      refine ⟨hI s _ (fun k g hk => ?_) (fun k hk => ?_) hIs, v', rfl, hg'.mono (fun k g hk _ => by simp only [List.mem_cons, List.not_mem_nil, or_false] at hk; rcases hk with rfl; simp only [tmD, reduceIte, Nat.reduceEqDiff, Nat.reduceAdd]) (fun k hk => by simp only [tmD, reduceIte, Nat.reduceEqDiff, Nat.reduceAdd]; exact Nat.le_refl _)⟩
      · simp only [List.mem_cons, List.not_mem_nil, or_false] at hk; rcases hk with rfl <;> simp only [tmD, reduceIte, Nat.reduceEqDiff, Nat.reduceAdd, ob13]
      · simp only [List.mem_cons, List.not_mem_nil, or_false] at hk; rcases hk with rfl <;> simp only [tmD, reduceIte, Nat.reduceEqDiff, Nat.reduceAdd, cn13] <;> exact Nat.le_refl _
  · rintro s ⟨h1, h2, h3, h18, h19, h20, b1, b2, hIs, v, b3, hg⟩
    rw [List.take_length] at hg
    simp only [L80_0, tmR, seval, h19, h20, Int.lt_irrefl]
    exact hQ _ v h1 h2 h3 b1 b2 b3 (hg.mono (fun k g hk _ => by simp only [tmD, reduceIte, Nat.reduceEqDiff, Nat.reduceAdd]) (fun k hk => by simp only [tmD, reduceIte, Nat.reduceEqDiff, Nat.reduceAdd]; exact Nat.le_refl _)) (hI s _ (fun k g hk => by simp only [tmD, reduceIte, Nat.reduceEqDiff, Nat.reduceAdd]) (fun k hk => by simp only [tmD, reduceIte, Nat.reduceEqDiff, Nat.reduceAdd]; exact Nat.le_refl _) hIs)
  · exact ⟨h1, h2, h3, h18, h19, h20, b1, b2, hi0, .nils, b3, .inl ⟨rfl, rfl⟩⟩
theorem loopCop1 {Q : Ex → St → Prop} {st : St} (x : Pri) (I : St → Prop) (hI : Stab [13, 30] I) (hl : x.duals.length < 2147483648) (hx : ∀ r ∈ x.duals, RQ.Can 1000 r) {f c e : TV} {b : Bool}
    (h1 : st.env 1 = .ptr 1 0 0 0) (h2 : st.env 2 = .ptr 2 0 0 0) (h3 : st.env 3 = .ptr 3 0 0 0) (h34 : st.env 34 = .sl (x.duals.map rqC)) (h35 : st.env 35 = .int .i64 (x.duals.length : Nat)) (h36 : st.env 36 = .int .i64 0)
    (b1 : C1 st x) (b2 : C2 st) (b3 : C3 st f c .nils e b) (hi0 : I st)
    (hQ : ∀ (s : St) (v : TV), s.env 1 = .ptr 1 0 0 0 → s.env 2 = .ptr 2 0 0 0 → s.env 3 = .ptr 3 0 0 0 → C1 s x → C2 s → C3 s f c v e b → GrowsS s [46] 4 v (x.duals.map rqC) → I s → Q (.exit 2) s) :
    Goes mach (.loop L80_1) Q st := by
  have ml : (x.duals.map rqC).length = x.duals.length := map_len _
  have wh := whole_c (n := 0) (by unfold I64; omega)
  have d0 := dq_int (n := 0) (by unfold I64; omega)
  refine wp_for (fun i s => s.env 1 = .ptr 1 0 0 0 ∧ s.env 2 = .ptr 2 0 0 0 ∧ s.env 3 = .ptr 3 0 0 0 ∧ s.env 34 = .sl (x.duals.map rqC) ∧ s.env 35 = .int .i64 (x.duals.length : Nat) ∧ s.env 36 = .int .i64 (i : Nat) ∧ C1 s x ∧ C2 s ∧ I s ∧ ∃ v, C3 s f c v e b ∧ GrowsS s [46] 4 v ((x.duals.take i).map rqC)) x.duals.length ?_ ?_ x.duals.length 0 _ (by omega) ?_
  · rintro i s hi ⟨h1, h2, h3, h34, h35, h36, b1, b2, hIs, v, b3, hg⟩
    have hw : IntKind.i64.wrap ((i + 1 : Nat) : Int) = (i + 1 : Nat) := wrap_i64n (by omega)
    have ia := iaddr_map (C := rqC) (kk := .i64) default (e := 4) (fun _ => rfl) hi
    have can := hx _ (getD_mem default hi)
    have tk : (x.duals.take i).map rqC ++ [rqC (rqOf (x.duals.getD i default).val)] = (x.duals.take (i + 1)).map rqC := by
      rw [can.eq, gtake_succ default hi]; simp
    have tl : (x.duals.take i).length ≤ i := by rw [List.length_take]; omega
    have ok := can.ok
    generalize x.duals.getD i default = r at *
    have ad := qadd_c (RQ.isQ ok) (isQ_enc d0) (by omega) (by omega) (by omega)
    rw [show (((0 : Int) : Rat)) = 0 from rfl] at ad wh
    rw [Rat.add_zero] at ad
    simp only [rqC] at ia ad
    simp only [L80_1, tmR, seval, h1, h2, h3, h34, h35, h36, nat_lt, hi, ia, b3, wpcall_eq wh, wpcall_eq ad]
    refine wp_growS [46] 46 (by decide) (.fb []) _ _ _ _ _ _ (xs := (x.duals.take i).map rqC) (zs := [rqC (rqOf r.val)]) ?_ (fun k g => rfl) ?_ (by simp) (by simp; omega) ?_
    · simp only [tmR, seval]
      exact hg.mono (fun k g hk _ => by simp only [List.mem_cons, List.not_mem_nil, or_false] at hk; rcases hk with rfl; simp only [tmD, reduceIte, Nat.reduceEqDiff, Nat.reduceAdd]) (fun k hk => by simp only [List.mem_cons, List.not_mem_nil, or_false] at hk; rcases hk with rfl; simp only [tmD, reduceIte, Nat.reduceEqDiff, Nat.reduceAdd]; exact Nat.le_refl _)
    · simp only [tmR, seval, elems]; rfl
    · intro st' v' henv hobj hcnt hg'
      have ho1 := hobj 1 0 (by decide)
      have ho2 := hobj 2 0 (by decide)
      have ho3 := hobj 3 0 (by decide)
      simp only [tmD, reduceIte, Nat.reduceEqDiff, Nat.reduceAdd, b1] at ho1
      simp only [tmD, reduceIte, Nat.reduceEqDiff, Nat.reduceAdd, b2] at ho2
      simp only [tmD, reduceIte, Nat.reduceEqDiff, Nat.reduceAdd, b3] at ho3
      have ob13 := fun g => hobj 13 g (by decide)
      have cn13 := hcnt 13 (by decide)
      simp only [tmD, reduceIte, Nat.reduceEqDiff, Nat.reduceAdd] at ob13 cn13
      have ob30 := fun g => hobj 30 g (by decide)
      have cn30 := hcnt 30 (by decide)
      simp only [tmD, reduceIte, Nat.reduceEqDiff, Nat.reduceAdd] at ob30 cn30
      rw [tk] at hg'
      have hcl := hg'.cells
      simp only [tmR, seval, henv, h1, h2, h3, h34, h35, h36, ho3, hcl, nat_add_one, hw, C1, ho1, C2, ho2, C3]
      refine ⟨hI s _ (fun k g hk => ?_) (fun k hk => ?_) hIs, v', rfl, hg'.mono (fun k g hk _ => by simp only [List.mem_cons, List.not_mem_nil, or_false] at hk; rcases hk with rfl; simp only [tmD, reduceIte, Nat.reduceEqDiff, Nat.reduceAdd]) (fun k hk => by simp only [tmD, reduceIte, Nat.reduceEqDiff, Nat.reduceAdd]; exact Nat.le_refl _)⟩
      · simp only [List.mem_cons, List.not_mem_nil, or_false] at hk; rcases hk with rfl | rfl <;> simp only [tmD, reduceIte, Nat.reduceEqDiff, Nat.reduceAdd, ob13, ob30]
      · simp only [List.mem_cons, List.not_mem_nil, or_false] at hk; rcases hk with rfl | rfl <;> simp only [tmD, reduceIte, Nat.reduceEqDiff, Nat.reduceAdd, cn13, cn30] <;> exact Nat.le_refl _
  · rintro s ⟨h1, h2, h3, h34, h35, h36, b1, b2, hIs, v, b3, hg⟩
    rw [List.take_length] at hg
    simp only [L80_1, tmR, seval, h35, h36, Int.lt_irrefl]
    exact hQ _ v h1 h2 h3 b1 b2 b3 (hg.mono (fun k g hk _ => by simp only [tmD, reduceIte, Nat.reduceEqDiff, Nat.reduceAdd]) (fun k hk => by simp only [tmD, reduceIte, Nat.reduceEqDiff, Nat.reduceAdd]; exact Nat.le_refl _)) (hI s _ (fun k g hk => by simp only [tmD, reduceIte, Nat.reduceEqDiff, Nat.reduceAdd]) (fun k hk => by simp only [tmD, reduceIte, Nat.reduceEqDiff, Nat.reduceAdd]; exact Nat.le_refl _) hIs)
  · exact ⟨h1, h2, h3, h34, h35, h36, b1, b2, hi0, .nils, b3, .inl ⟨rfl, rfl⟩⟩
end Go.TM.Fn
end
section
namespace Go.TM.Fn
open Go Go.TM Go.Plain
set_option linter.unusedVariables false
set_option linter.unusedSimpArgs false
set_option maxRecDepth 20000
set_option maxHeartbeats 4000000
theorem loopCop2 {Q : Ex → St → Prop} {st : St} (x : Pri) (I : St → Prop) (hI : Stab [13, 30, 46] I) (hl : x.cuts.length < 2147483648) (hx : ∀ c ∈ x.cuts, c.rs.length < 2147483648) {f d e : TV} {b : Bool}
    (h2 : st.env 2 = .ptr 2 0 0 0) (h3 : st.env 3 = .ptr 3 0 0 0) (h50 : st.env 50 = .sl (x.cuts.map cutC)) (h51 : st.env 51 = .int .i64 (x.cuts.length : Nat)) (h52 : st.env 52 = .int .i64 0)
    (b2 : C2 st) (b3 : C3 st f .nils d e b) (hi0 : I st)
    (hQ : ∀ (s : St) (v : TV), s.env 2 = .ptr 2 0 0 0 → s.env 3 = .ptr 3 0 0 0 → C2 s → C3 s f v d e b → GrowsS s [66] 2 v (x.cuts.map cutC) → I s → Q (.exit 4) s) :
    Goes mach (.loop L80_2) Q st := by
  have ml : (x.cuts.map cutC).length = x.cuts.length := map_len _
  refine wp_for (fun i s => s.env 2 = .ptr 2 0 0 0 ∧ s.env 3 = .ptr 3 0 0 0 ∧ s.env 50 = .sl (x.cuts.map cutC) ∧ s.env 51 = .int .i64 (x.cuts.length : Nat) ∧ s.env 52 = .int .i64 (i : Nat) ∧ C2 s ∧ I s ∧ ∃ v, C3 s f v d e b ∧ GrowsS s [66] 2 v ((x.cuts.take i).map cutC)) x.cuts.length ?_ ?_ x.cuts.length 0 _ (by omega) ?_
  · rintro i s hi ⟨h2, h3, h50, h51, h52, b2, hIs, v, b3, hg⟩
    have hw : IntKind.i64.wrap ((i + 1 : Nat) : Int) = (i + 1 : Nat) := wrap_i64n (by omega)
    have ia := iaddr_map (C := cutC) (kk := .i64) default (e := 2) (fun _ => rfl) hi
    have hr := hx _ (getD_mem default hi)
    have tk : (x.cuts.take i).map cutC ++ [cutC (x.cuts.getD i default)] = (x.cuts.take (i + 1)).map cutC := by
      rw [gtake_succ default hi]; simp
    have tl : (x.cuts.take i).length ≤ i := by rw [List.length_take]; omega
    generalize x.cuts.getD i default = r at *
    simp only [cutC] at ia
    have ap : ∀ {ob : Nat → Nat → Option Obj} {d c k g : Nat}, ob k g = some { cont := [], esz := 1, box := false, solo := true, tip := true } → appE d c ob 1 false (.hs k g 1 0) (.sl (ints .i64 r.rs)) = some { v := .hs d c 1 (0 + (ints .i64 r.rs).length), new := [{ cont := [] ++ ints .i64 r.rs, esz := 1, box := false, solo := false, tip := true }], mods := [(k, g, some { cont := [], esz := 1, box := false, solo := false, tip := false })] } :=
      fun ho => app_hsF (elems_sl (uni_ints _ _)) ho rfl rfl rfl rfl (by rw [ints_len]; omega)
    have tt : List.take r.rs.length (ints .i64 r.rs) = ints .i64 r.rs := List.take_of_length_le (by rw [ints_len]; omega)
    simp only [L80_2, tmR, seval, h2, h3, h50, h51, h52, nat_lt, hi, ia, b3]
    rw [wp_app]
    simp only [tmR, seval, h2, h3, h50, h51, h52, b3, ap, apply_appF, ints_len, tt, apply_unew]
    refine wp_growS [66] 66 (by decide) (.fb []) _ _ _ _ _ _ (xs := (x.cuts.take i).map cutC) (zs := [cutC r]) ?_ (fun k g => rfl) ?_ (by simp) (by simp; omega) ?_
    · simp only [tmR, seval]
      exact hg.mono (fun k g hk _ => by simp only [List.mem_cons, List.not_mem_nil, or_false] at hk; rcases hk with rfl; simp only [tmD, reduceIte, Nat.reduceEqDiff, Nat.reduceAdd, unsol_obj1]) (fun k hk => by simp only [List.mem_cons, List.not_mem_nil, or_false] at hk; rcases hk with rfl; simp only [tmD, reduceIte, Nat.reduceEqDiff, Nat.reduceAdd]; exact Nat.le_refl _)
    · simp only [tmR, seval, elems]; rfl
    · intro st' v' henv hobj hcnt hg'
      have ho2 := hobj 2 0 (by decide)
      have ho3 := hobj 3 0 (by decide)
      simp only [tmD, reduceIte, Nat.reduceEqDiff, Nat.reduceAdd, unsol_obj1, b2] at ho2
      simp only [tmD, reduceIte, Nat.reduceEqDiff, Nat.reduceAdd, unsol_obj1, b3] at ho3
      have ob13 := fun g => hobj 13 g (by decide)
      have cn13 := hcnt 13 (by decide)
      have ob30 := fun g => hobj 30 g (by decide)
      have cn30 := hcnt 30 (by decide)
      have ob46 := fun g => hobj 46 g (by decide)
      have cn46 := hcnt 46 (by decide)
      simp only [tmD, reduceIte, Nat.reduceEqDiff, Nat.reduceAdd, unsol_obj1] at ob13 cn13 ob30 cn30 ob46 cn46
      rw [tk] at hg'
      have hcl := hg'.cells
      simp only [tmR, seval, henv, h2, h3, h50, h51, h52, ho3, hcl, nat_add_one, hw, C2, ho2, C3]
      refine ⟨hI s _ (fun k g hk => ?_) (fun k hk => ?_) hIs, v', rfl, hg'.mono (fun k g hk _ => by simp only [List.mem_cons, List.not_mem_nil, or_false] at hk; rcases hk with rfl; simp only [tmD, reduceIte, Nat.reduceEqDiff, Nat.reduceAdd]) (fun k hk => by simp only [tmD, reduceIte, Nat.reduceEqDiff, Nat.reduceAdd]; exact Nat.le_refl _)⟩
      · simp only [List.mem_cons, List.not_mem_nil, or_false] at hk; rcases hk with rfl | rfl | rfl <;> simp only [tmD, reduceIte, Nat.reduceEqDiff, Nat.reduceAdd, ob13, ob30, ob46]
      · simp only [List.mem_cons, List.not_mem_nil, or_false] at hk; rcases hk with rfl | rfl | rfl <;> simp only [tmD, reduceIte, Nat.reduceEqDiff, Nat.reduceAdd, cn13, cn30, cn46] <;> exact Nat.le_refl _
  · rintro s ⟨h2, h3, h50, h51, h52, b2, hIs, v, b3, hg⟩
    rw [List.take_length] at hg
    simp only [L80_2, tmR, seval, h51, h52, Int.lt_irrefl]
    exact hQ _ v h2 h3 b2 b3 (hg.mono (fun k g hk _ => by simp only [tmD, reduceIte, Nat.reduceEqDiff, Nat.reduceAdd]) (fun k hk => by simp only [tmD, reduceIte, Nat.reduceEqDiff, Nat.reduceAdd]; exact Nat.le_refl _)) (hI s _ (fun k g hk => by simp only [tmD, reduceIte, Nat.reduceEqDiff, Nat.reduceAdd]) (fun k hk => by simp only [tmD, reduceIte, Nat.reduceEqDiff, Nat.reduceAdd]; exact Nat.le_refl _) hIs)
  · exact ⟨h2, h3, h50, h51, h52, b2, hi0, .nils, b3, .inl ⟨rfl, rfl⟩⟩
theorem view1_ret1 {e xs u} (h : Ret1 e xs u) : view1 u = .sl xs := by
  rcases h with ⟨rfl, rfl⟩ | rfl | rfl <;> rfl
theorem cop_fin {s : St} {args : List TV} {F C D E : TV} (x : Pri) (ha : hasOwn args = false) (hm : mutsOf s 0 args = some []) (h2 : s.env 2 = .ptr 2 0 0 0)
    (ho : s.obj 2 0 = some { cont := [[F, C, D, E, .bool x.free]], esz := 5, box := true, solo := true, tip := false }) (hF : GrowsS s [30] 4 F (x.fls.map rqC)) (hC : GrowsS s [66] 2 C (x.cuts.map cutC)) (hD : GrowsS s [46] 4 D (x.duals.map rqC)) (hE : GrowsS s [13] 3 E (x.decs.map decC)) :
    ∃ rv, finishR [.cell 2 5 true] args s = some (rv, []) ∧ view rv = priT x := by
  obtain ⟨u1, e1, w1⟩ := out1_ret hF
  obtain ⟨u2, e2, w2⟩ := out1_ret hC
  obtain ⟨u3, e3, w3⟩ := out1_ret hD
  obtain ⟨u4, e4, w4⟩ := out1_ret hE
  have cp : out1 s.obj (.bool x.free) = some (.bool x.free) := rfl
  have hon : once (hands (.agg [F, C, D, E, .bool x.free])) = true := by
    have ip : hand1 (.bool x.free) = [] := rfl
    simp only [hands, TV.cells, List.flatMap_cons, List.flatMap_nil, ip]
    rcases hand1_grows hF with q1 | ⟨k1, g1, hk1, q1⟩ <;> rcases hand1_grows hC with q2 | ⟨k2, g2, hk2, q2⟩ <;> rcases hand1_grows hD with q3 | ⟨k3, g3, hk3, q3⟩ <;> rcases hand1_grows hE with q4 | ⟨k4, g4, hk4, q4⟩ <;>
      simp_all [once]
  refine ⟨.agg [u1, u2, u3, u4, .bool x.free], ?_, ?_⟩
  · simp [finishR, resVals, resVal, hm, ha, h2, ho, pull, hon, out, outs, e1, e2, e3, e4, cp]
  · simp only [view, viewA, List.map_cons, List.map_nil, view1_ret1 w1, view1_ret1 w2, view1_ret1 w3, view1_ret1 w4]; rfl
structure Pri.Can (x : Pri) : Prop where
  fls : x.fls.length < 1000000
  cuts : x.cuts.length < 1000000
  duals : x.duals.length < 1000000
  decs : x.decs.length < 1000000
  rs : ∀ c ∈ x.cuts, c.rs.length < 1000000
  fc : ∀ r ∈ x.fls, RQ.Can 1000 r
  dc : ∀ r ∈ x.duals, RQ.Can 1000 r
theorem copied_c (x : Pri) (hx : x.Can) : Gives mach 80 [priT x] (priT x) := by
  have l1 : (x.fls.map rqC).length = x.fls.length := map_len _
  have l2 : (x.cuts.map cutC).length = x.cuts.length := map_len _
  have l3 : (x.duals.map rqC).length = x.duals.length := map_len _
  have l4 : (x.decs.map decC).length = x.decs.length := map_len _
  have k1 := hx.fls
  have k2 := hx.cuts
  have k3 := hx.duals
  have k4 := hx.decs
  have ap : ∀ {ob : Nat → Nat → Option Obj} {d c k g : Nat}, ob k g = some { cont := [], esz := 3, box := false, solo := true, tip := true } → appE d c ob 3 false (.hs k g 3 0) (.sl (x.decs.map decC)) = some { v := .hs d c 3 (0 + (x.decs.map decC).length), new := [{ cont := [] ++ x.decs.map decC, esz := 3, box := false, solo := false, tip := true }], mods := [(k, g, some { cont := [], esz := 3, box := false, solo := false, tip := false })] } :=
    fun ho => app_hsF (elems_sl (uni_map (C := decC) (fun _ => rfl) x.decs)) ho rfl rfl rfl rfl (by show 0 + (x.decs.map decC).length < _; rw [l4]; omega)
  refine gives tab80 rfl ?_
  simp only [F80, tmR, seval, wp_app, ap, apply_appF, l4, l1]
  refine loopCop0 x (c := .nils) (d := .nils) (e := .hs 13 0 3 x.decs.length) (b := x.free) (fun s => GrowsS s [13] 3 (.hs 13 0 3 x.decs.length) (x.decs.map decC)) (fun s s' ho hc h => h.mono (fun k g hk _ => ho k g hk) hc) (by omega) hx.fc ?_ ?_ ?_ ?_ ?_ ?_ ?_ ?_ ?_ ?_ (fun s F e1 e2 e3 b1 b2 b3 gF gE => ?_)
  · simp only [tmD, reduceIte, Nat.reduceEqDiff, Nat.reduceAdd]
  · simp only [tmD, reduceIte, Nat.reduceEqDiff, Nat.reduceAdd]
  · simp only [tmD, reduceIte, Nat.reduceEqDiff, Nat.reduceAdd]
  · simp only [tmD, reduceIte, Nat.reduceEqDiff, Nat.reduceAdd]
  · simp only [tmD, reduceIte, Nat.reduceEqDiff, Nat.reduceAdd]
  · simp only [tmD, reduceIte, Nat.reduceEqDiff, Nat.reduceAdd]
  · simp only [C1, C2, C3, tmD, reduceIte, Nat.reduceEqDiff, Nat.reduceAdd]
  · simp only [C1, C2, C3, tmD, reduceIte, Nat.reduceEqDiff, Nat.reduceAdd]
  · simp only [C1, C2, C3, tmD, reduceIte, Nat.reduceEqDiff, Nat.reduceAdd]
  · refine .inr ⟨13, 0, { cont := x.decs.map decC, esz := 3, box := false, solo := false, tip := true }, by simp, by rw [l4], ?_, ?_, rfl, rfl, rfl, rfl⟩
    · simp only [tmD, reduceIte, Nat.reduceEqDiff, Nat.reduceAdd]; decide
    · simp only [tmD, reduceIte, Nat.reduceEqDiff, Nat.reduceAdd]
  simp only [tmR, seval, e1, b1, l3]
  refine loopCop1 x (f := F) (c := .nils) (e := .hs 13 0 3 x.decs.length) (b := x.free) (fun s => GrowsS s [13] 3 (.hs 13 0 3 x.decs.length) (x.decs.map decC) ∧ GrowsS s [30] 4 F (x.fls.map rqC)) (fun s s' ho hc h => ⟨h.1.mono (fun k g hk _ => ho k g (by simp at hk ⊢; omega)) (fun k hk => hc k (by simp at hk ⊢; omega)), h.2.mono (fun k g hk _ => ho k g (by simp at hk ⊢; omega)) (fun k hk => hc k (by simp at hk ⊢; omega))⟩) (by omega) hx.dc ?_ ?_ ?_ ?_ ?_ ?_ ?_ ?_ ?_ ?_ (fun s D e1 e2 e3 b1 b2 b3 gD hI => ?_)
  · simp only [tmD, reduceIte, Nat.reduceEqDiff, Nat.reduceAdd, e1]
  · simp only [tmD, reduceIte, Nat.reduceEqDiff, Nat.reduceAdd, e2]
  · simp only [tmD, reduceIte, Nat.reduceEqDiff, Nat.reduceAdd, e3]
  · simp only [tmD, reduceIte, Nat.reduceEqDiff, Nat.reduceAdd]
  · simp only [tmD, reduceIte, Nat.reduceEqDiff, Nat.reduceAdd]
  · simp only [tmD, reduceIte, Nat.reduceEqDiff, Nat.reduceAdd]
  · simp only [C1, C2, C3, tmD, reduceIte, Nat.reduceEqDiff, Nat.reduceAdd, b1]
  · simp only [C1, C2, C3, tmD, reduceIte, Nat.reduceEqDiff, Nat.reduceAdd, b2]
  · simp only [C1, C2, C3, tmD, reduceIte, Nat.reduceEqDiff, Nat.reduceAdd, b3]
  · exact ⟨gE.mono (fun k g hk _ => by simp only [tmD, reduceIte, Nat.reduceEqDiff, Nat.reduceAdd]) (fun k hk => by simp only [tmD, reduceIte, Nat.reduceEqDiff, Nat.reduceAdd]; exact Nat.le_refl _), gF.mono (fun k g hk _ => by simp only [tmD, reduceIte, Nat.reduceEqDiff, Nat.reduceAdd]) (fun k hk => by simp only [tmD, reduceIte, Nat.reduceEqDiff, Nat.reduceAdd]; exact Nat.le_refl _)⟩
  simp only [tmR, seval, e1, b1, l2]
  refine loopCop2 x (f := F) (d := D) (e := .hs 13 0 3 x.decs.length) (b := x.free) (fun s => GrowsS s [13] 3 (.hs 13 0 3 x.decs.length) (x.decs.map decC) ∧ GrowsS s [30] 4 F (x.fls.map rqC) ∧ GrowsS s [46] 4 D (x.duals.map rqC)) (fun s s' ho hc h => ⟨h.1.mono (fun k g hk _ => ho k g (by simp at hk ⊢; omega)) (fun k hk => hc k (by simp at hk ⊢; omega)), h.2.1.mono (fun k g hk _ => ho k g (by simp at hk ⊢; omega)) (fun k hk => hc k (by simp at hk ⊢; omega)), h.2.2.mono (fun k g hk _ => ho k g (by simp at hk ⊢; omega)) (fun k hk => hc k (by simp at hk ⊢; omega))⟩) (by omega) (fun c hc => by have := hx.rs c hc; omega) ?_ ?_ ?_ ?_ ?_ ?_ ?_ ?_ (fun s C e2 e3 b2 b3 gC hI => ?_)
  · simp only [tmD, reduceIte, Nat.reduceEqDiff, Nat.reduceAdd, e2]
  · simp only [tmD, reduceIte, Nat.reduceEqDiff, Nat.reduceAdd, e3]
  · simp only [tmD, reduceIte, Nat.reduceEqDiff, Nat.reduceAdd]
  · simp only [tmD, reduceIte, Nat.reduceEqDiff, Nat.reduceAdd]
  · simp only [tmD, reduceIte, Nat.reduceEqDiff, Nat.reduceAdd]
  · simp only [C1, C2, C3, tmD, reduceIte, Nat.reduceEqDiff, Nat.reduceAdd, b2]
  · simp only [C1, C2, C3, tmD, reduceIte, Nat.reduceEqDiff, Nat.reduceAdd, b3]
  · exact ⟨hI.1.mono (fun k g hk _ => by simp only [tmD, reduceIte, Nat.reduceEqDiff, Nat.reduceAdd]) (fun k hk => by simp only [tmD, reduceIte, Nat.reduceEqDiff, Nat.reduceAdd]; exact Nat.le_refl _), hI.2.mono (fun k g hk _ => by simp only [tmD, reduceIte, Nat.reduceEqDiff, Nat.reduceAdd]) (fun k hk => by simp only [tmD, reduceIte, Nat.reduceEqDiff, Nat.reduceAdd]; exact Nat.le_refl _), gD.mono (fun k g hk _ => by simp only [tmD, reduceIte, Nat.reduceEqDiff, Nat.reduceAdd]) (fun k hk => by simp only [tmD, reduceIte, Nat.reduceEqDiff, Nat.reduceAdd]; exact Nat.le_refl _)⟩
  simp only [tmR, seval, e2, e3, b2, b3]
  have md : ∀ k g, k ≠ 2 → (setO (put s 69 (.agg [F, C, D, .hs 13 0 3 x.decs.length, .bool x.free])) 2 0 (some { cont := [[F, C, D, .hs 13 0 3 x.decs.length, .bool x.free]], esz := 5, box := true, solo := true, tip := false })).obj k g = s.obj k g := fun k g hk => by
    simp only [setO_obj, put_obj]; rw [if_neg (by rintro ⟨rfl, _⟩; exact hk rfl)]
  refine cop_fin x rfl rfl ?_ ?_ (hI.2.1.mono (fun k g hk _ => ?_) (fun k hk => ?_)) (gC.mono (fun k g hk _ => ?_) (fun k hk => ?_)) (hI.2.2.mono (fun k g hk _ => ?_) (fun k hk => ?_)) (hI.1.mono (fun k g hk _ => ?_) (fun k hk => ?_))
  · simp only [tmD, reduceIte, Nat.reduceEqDiff, Nat.reduceAdd, e2]
  · simp only [tmD, reduceIte, Nat.reduceEqDiff, Nat.reduceAdd]
  all_goals first
    | (simp only [tmD, reduceIte, Nat.reduceEqDiff, Nat.reduceAdd]; exact Nat.le_refl _)
    | (simp only [List.mem_cons, List.not_mem_nil, or_false] at hk; subst hk; simp only [tmD, reduceIte, Nat.reduceEqDiff, Nat.reduceAdd])
end Go.TM.Fn
end
section
namespace Go.TM.Fn
open Go Go.TM Go.Plain
set_option linter.unusedVariables false
set_option linter.unusedSimpArgs false
set_option maxRecDepth 20000
set_option maxHeartbeats 4000000
theorem apply_app2 (d k g : Nat) (v : TV) (o : Obj) (o' : Option Obj) (st : St) : apply (some d) { v := v, new := [o], mods := [(k, g, o')] } st = bump (putO (setO st k g o') d v d (st.cnt d) (some o)) d (st.cnt d + 1) := rfl
theorem dig_snoc (ds : List Nat) : dig ds ++ [[TV.int .u32 0]] = dig (ds ++ [0]) := by simp [dig]
theorem times_o {n m : Bool} {ds es : List Nat} {k : Nat} (hd : Dig ds) (he : Dig es) (hl : ds.length ≤ k) (hl2 : es.length ≤ k) (hk : k < 1000) (hk0 : 0 < k) : ∃ z, Di (2 * k) z ∧ call mach 71 [rawI n ds, rawI m es] = some (.agg (ownI z), []) := by
  have i1 := rint_c (n := 1) (by unfold I64; omega)
  have d1 := dq_int (n := 1) (by unfold I64; omega)
  have hone : (((1 : Int) : Rat).num) = 1 := rfl
  have e1 : encQ ((1 : Int) : Rat) = rawQ false [1] false [1] := by
    have h2 : (((1 : Int) : Rat).den) = 1 := rfl
    simp [encF, rawQ, hone, h2, toDig_one]
  rw [e1] at i1
  have q1 : IsQ k (rawQ n ds false [1]) (Rat.divInt (ival n ds) (ival false [1])) := ⟨n, ds, false, [1], rfl, hd, .cons (by decide) .nil, hl, hk0, rfl⟩
  have q2 : IsQ k (rawQ m es false [1]) (Rat.divInt (ival m es) (ival false [1])) := ⟨m, es, false, [1], rfl, he, .cons (by decide) .nil, hl2, hk0, rfl⟩
  have mo := rqmul_o q1 q2 (by omega) hk0 hk0
  have dm := dq_mul (q1.dq hk0) (q2.dq hk0) (by omega)
  generalize Rat.divInt (ival n ds) (ival false [1]) * Rat.divInt (ival m es) (ival false [1]) = q at mo dm
  refine ⟨q.num, dm.1.mono (by omega), givesX tab71 rfl ?_⟩
  by_cases hz : q = 0
  · subst hz
    have e0 : (0 : Rat).num = 0 := rfl
    rw [frO_zero] at mo
    rw [e0, ownI_zero]
    simp only [F71, tmR, seval, wpcall_eq i1, wp_call1a (hc := mo), adopt, retX_norm, retX_ret, tmF]
  · rw [frO_pos hz] at mo
    have hnz : q.num ≠ 0 := by rw [Ne, Rat.num_eq_zero]; exact hz
    rw [ownI_pos hnz]
    simp only [F71, tmR, seval, wpcall_eq i1, wp_call1a (hc := mo), adopt, apply_new2, dig_len, retX_norm, retX_ret, tmF, pr_beq, Bool.false_and, Bool.and_false, Bool.true_and]
def kTab : List Int := [1, -1, 2, 0]
theorem kTab_get : ∀ i, i < 4 → ([[TV.int .i64 1], [TV.int .i64 (-1)], [TV.int .i64 2], [TV.int .i64 0]] : Cont)[i]? = some [TV.int .i64 (kTab.getD i 0)] := by
  intro r h
  match r, h with
  | 0, _ => rfl
  | 1, _ => rfl
  | 2, _ => rfl
  | 3, _ => rfl
theorem kTab_i64 {i : Nat} (h : i < 4) : I64 (kTab.getD i 0) := by
  match i, h with
  | 0, _ => unfold I64 kTab; decide
  | 1, _ => unfold I64 kTab; decide
  | 2, _ => unfold I64 kTab; decide
  | 3, _ => unfold I64 kTab; decide
theorem wild_ex (n : Int) : ∃ (a : Bool) (ds : List Nat) (b : Bool) (es : List Nat), Dig ds ∧ Dig es ∧ ds.length ≤ 100 ∧ es.length ≤ 100 ∧ Gives mach 18 [.int .i64 n] (rawQ a ds b es) := by
  suffices h : ∃ v, (∃ (a : Bool) (ds : List Nat) (b : Bool) (es : List Nat), v = rawQ a ds b es ∧ Dig ds ∧ Dig es ∧ ds.length ≤ 100 ∧ es.length ≤ 100) ∧ Gives mach 18 [.int .i64 n] v by
    obtain ⟨_, ⟨a, ds, b, es, rfl, h1, h2, h3, h4⟩, h5⟩ := h
    exact ⟨a, ds, b, es, h1, h2, h3, h4, h5⟩
  refine givesE tab18 rfl ?_
  have f := frac_c n
  have df := fracQ_dq n
  have hs6 := fun b kk => bin_shr_i64 b kk n 6 (by decide)
  have hs8 := fun b kk => bin_shr_i64 b kk n 8 (by decide)
  generalize n.fdiv (2 ^ (min (Int.toNat 6) 64)) = t6 at hs6
  generalize n.fdiv (2 ^ (min (Int.toNat 8) 64)) = t8 at hs8
  have h3 := andm_le t6 3
  have hi : andm t6 3 < 4 := by omega
  have hk := rint_c (kTab_i64 hi)
  have dk := dq_int (kTab_i64 hi)
  obtain ⟨z1, dz1, c1⟩ := times_o (n := decide ((fracQ n).num < 0)) (m := decide ((((kTab.getD (andm t6 3) 0 : Int) : Rat)).num < 0)) (dig_toDig (fracQ n).num.natAbs) (dig_toDig (((kTab.getD (andm t6 3) 0 : Int) : Rat)).num.natAbs) (k := 4) (toDig_len_le df.1) (toDig_len_le (dk.1.mono (by omega))) (by omega) (by omega)
  obtain ⟨z2, dz2, c2⟩ := times_o (n := decide (((fracQ n).den : Int) < 0)) (m := decide ((((kTab.getD (andm t6 3) 0 : Int) : Rat)).num < 0)) (dig_toDig ((fracQ n).den : Int).natAbs) (dig_toDig (((kTab.getD (andm t6 3) 0 : Int) : Rat)).num.natAbs) (k := 4) (toDig_len_le df.2) (toDig_len_le (dk.1.mono (by omega))) (by omega) (by omega)
  have g := kTab_get _ hi
  generalize kTab.getD (andm t6 3) 0 = kv at *
  have l1 := toDig_len_le dz1
  have l2 := toDig_len_le dz2
  have lb1 : ((toDig z1.natAbs).length + 1 < 2147483648) = True := eq_true (by omega)
  have lb2 : ((toDig z2.natAbs).length + 1 < 2147483648) = True := eq_true (by omega)
  have t1 : List.take (toDig z1.natAbs).length (dig (toDig z1.natAbs)) = dig (toDig z1.natAbs) := List.take_of_length_le (by rw [dig_len]; exact Nat.le_refl _)
  have t2 : List.take (toDig z2.natAbs).length (dig (toDig z2.natAbs)) = dig (toDig z2.natAbs) := List.take_of_length_le (by rw [dig_len]; exact Nat.le_refl _)
  have t3 : List.take ((toDig z1.natAbs).length + 1) (dig (toDig z1.natAbs ++ [0])) = dig (toDig z1.natAbs ++ [0]) := List.take_of_length_le (by rw [dig_len]; simp)
  have t4 : List.take ((toDig z2.natAbs).length + 1) (dig (toDig z2.natAbs ++ [0])) = dig (toDig z2.natAbs ++ [0]) := List.take_of_length_le (by rw [dig_len]; simp)
  have dz : Dig [0] := .cons (by decide) .nil
  by_cases hz1 : z1 = 0
  · by_cases hz2 : z2 = 0
    · by_cases h8 : (andm t8 3 : Int) = 3
      · rw [hz1, ownI_zero] at c1
        rw [hz2, ownI_zero] at c2
        simp only [F18, tmR, seval, wpcall_eq f, hs6, and3, iaddr_hs hi, g, wpcall_eq hk, wp_call1a (hc := c1), wp_call1a (hc := c2), adopt, apply_new1, dig_len, hs8, h8, wp_app, appE, elems, apply_app2, uni, lb1, lb2, reduceCtorEq, false_implies, forall_const, t1, t2, t3, t4, dig_snoc, List.length_append, tmF, pr_beq, Bool.false_and, Bool.and_false, Bool.true_and]
        exact ⟨false, [0], false, [0], rfl, dz, dz, by simp, by simp⟩
      · rw [hz1, ownI_zero] at c1
        rw [hz2, ownI_zero] at c2
        simp only [F18, tmR, seval, wpcall_eq f, hs6, and3, iaddr_hs hi, g, wpcall_eq hk, wp_call1a (hc := c1), wp_call1a (hc := c2), adopt, apply_new1, dig_len, hs8, h8, wp_app, appE, elems, apply_app2, uni, lb1, lb2, reduceCtorEq, false_implies, forall_const, t1, t2, t3, t4, dig_snoc, List.length_append, tmF, pr_beq, Bool.false_and, Bool.and_false, Bool.true_and]
        exact ⟨false, [], false, [], rfl, .nil, .nil, by simp, by simp⟩
    · by_cases h8 : (andm t8 3 : Int) = 3
      · rw [hz1, ownI_zero] at c1
        rw [ownI_pos hz2] at c2
        simp only [F18, tmR, seval, wpcall_eq f, hs6, and3, iaddr_hs hi, g, wpcall_eq hk, wp_call1a (hc := c1), wp_call1a (hc := c2), adopt, apply_new1, dig_len, hs8, h8, wp_app, appE, elems, apply_app2, uni, lb1, lb2, reduceCtorEq, false_implies, forall_const, t1, t2, t3, t4, dig_snoc, List.length_append, tmF, pr_beq, Bool.false_and, Bool.and_false, Bool.true_and]
        exact ⟨false, [0], (decide (z2 < 0)), (toDig z2.natAbs ++ [0]), rfl, dz, ((dig_toDig _).app dz), by simp, by (try simp); omega⟩
      · rw [hz1, ownI_zero] at c1
        rw [ownI_pos hz2] at c2
        simp only [F18, tmR, seval, wpcall_eq f, hs6, and3, iaddr_hs hi, g, wpcall_eq hk, wp_call1a (hc := c1), wp_call1a (hc := c2), adopt, apply_new1, dig_len, hs8, h8, wp_app, appE, elems, apply_app2, uni, lb1, lb2, reduceCtorEq, false_implies, forall_const, t1, t2, t3, t4, dig_snoc, List.length_append, tmF, pr_beq, Bool.false_and, Bool.and_false, Bool.true_and]
        exact ⟨false, [], (decide (z2 < 0)), (toDig z2.natAbs), rfl, .nil, (dig_toDig _), by simp, by (try simp); omega⟩
  · by_cases hz2 : z2 = 0
    · by_cases h8 : (andm t8 3 : Int) = 3
      · rw [ownI_pos hz1] at c1
        rw [hz2, ownI_zero] at c2
        simp only [F18, tmR, seval, wpcall_eq f, hs6, and3, iaddr_hs hi, g, wpcall_eq hk, wp_call1a (hc := c1), wp_call1a (hc := c2), adopt, apply_new1, dig_len, hs8, h8, wp_app, appE, elems, apply_app2, uni, lb1, lb2, reduceCtorEq, false_implies, forall_const, t1, t2, t3, t4, dig_snoc, List.length_append, tmF, pr_beq, Bool.false_and, Bool.and_false, Bool.true_and]
        exact ⟨(decide (z1 < 0)), (toDig z1.natAbs ++ [0]), false, [0], rfl, ((dig_toDig _).app dz), dz, by (try simp); omega, by simp⟩
      · rw [ownI_pos hz1] at c1
        rw [hz2, ownI_zero] at c2
        simp only [F18, tmR, seval, wpcall_eq f, hs6, and3, iaddr_hs hi, g, wpcall_eq hk, wp_call1a (hc := c1), wp_call1a (hc := c2), adopt, apply_new1, dig_len, hs8, h8, wp_app, appE, elems, apply_app2, uni, lb1, lb2, reduceCtorEq, false_implies, forall_const, t1, t2, t3, t4, dig_snoc, List.length_append, tmF, pr_beq, Bool.false_and, Bool.and_false, Bool.true_and]
        exact ⟨(decide (z1 < 0)), (toDig z1.natAbs), false, [], rfl, (dig_toDig _), .nil, by (try simp); omega, by simp⟩
    · by_cases h8 : (andm t8 3 : Int) = 3
      · rw [ownI_pos hz1] at c1
        rw [ownI_pos hz2] at c2
        simp only [F18, tmR, seval, wpcall_eq f, hs6, and3, iaddr_hs hi, g, wpcall_eq hk, wp_call1a (hc := c1), wp_call1a (hc := c2), adopt, apply_new1, dig_len, hs8, h8, wp_app, appE, elems, apply_app2, uni, lb1, lb2, reduceCtorEq, false_implies, forall_const, t1, t2, t3, t4, dig_snoc, List.length_append, tmF, pr_beq, Bool.false_and, Bool.and_false, Bool.true_and]
        exact ⟨(decide (z1 < 0)), (toDig z1.natAbs ++ [0]), (decide (z2 < 0)), (toDig z2.natAbs ++ [0]), rfl, ((dig_toDig _).app dz), ((dig_toDig _).app dz), by (try simp); omega, by (try simp); omega⟩
      · rw [ownI_pos hz1] at c1
        rw [ownI_pos hz2] at c2
        simp only [F18, tmR, seval, wpcall_eq f, hs6, and3, iaddr_hs hi, g, wpcall_eq hk, wp_call1a (hc := c1), wp_call1a (hc := c2), adopt, apply_new1, dig_len, hs8, h8, wp_app, appE, elems, apply_app2, uni, lb1, lb2, reduceCtorEq, false_implies, forall_const, t1, t2, t3, t4, dig_snoc, List.length_append, tmF, pr_beq, Bool.false_and, Bool.and_false, Bool.true_and]
        exact ⟨(decide (z1 < 0)), (toDig z1.natAbs), (decide (z2 < 0)), (toDig z2.natAbs), rfl, (dig_toDig _), (dig_toDig _), by (try simp); omega, by (try simp); omega⟩
end Go.TM.Fn
end
section
namespace Go.TM
variable {M : Mach}
def stepF (cl : Nat → List TV → Option Res) (o : TStep) (st : St) : Option St :=
  match wantedT st.env o.guard with
  | none => none
  | some false => some (apply o.dst { v := .tup [] } st)
  | some true => match ev o.op (o.dst.getD 0) (st.cnt (o.dst.getD 0)) (val st.env) (restrict st.obj o.vk) with
    | none => none
    | some (.eff e) => some (apply o.dst e st)
    | some (.cal f vs k) => match cl f vs with
      | none => none
      | some r => match k r with
        | none => none
        | some e => some (apply o.dst e st)
def opsF (cl : Nat → List TV → Option Res) : List TStep → St → Option St
  | [], st => some st
  | o :: r, st => match stepF cl o st with
    | none => none
    | some s => opsF cl r s
def exF (cl : Nat → List TV → Option Res) : Nat → TCode → St → Option (Ex × St)
  | 0, _, _ => none
  | n + 1, c, st => match c with
    | .skip => some (.norm, st)
    | .reg ops => match opsF cl ops st with
      | none => none
      | some s => some (.norm, s)
    | .seq a b => match exF cl n a st with
      | none => none
      | some (.norm, s) => exF cl n b s
      | some (e, s) => some (e, s)
    | .cond x a b => match val st.env x with
      | .bool true => exF cl n a st
      | .bool false => exF cl n b st
      | _ => none
    | .block id a => match exF cl n a st with
      | none => none
      | some (e, s) => some (if e = .exit id then .norm else e, s)
    | .loop a => match exF cl n a st with
      | none => none
      | some (.norm, s) => exF cl n (.loop a) s
      | some (e, s) => some (e, s)
    | .exit id => some (.exit id, st)
    | .ret => some (.ret, st)
def callF (M : Mach) (k : Nat) : Nat → Nat → List TV → Option Res
  | 0, _, _ => none
  | n + 1, f, args => match M.tab f with
    | none => none
    | some F => if F.np = args.length then match exF (callF M k n) k F.body (initSt args) with
        | some (.norm, s) => finish F args s
        | some (.ret, s) => finish F args s
        | _ => none
      else none
theorem stepF_ok {cl} (hc : ∀ f args r, cl f args = some r → call M f args = some r) {o st s} (h : stepF cl o st = some s) : exec1 M o st = some s := by
  rw [exec1_eq]
  unfold stepF at h
  cases hw : wantedT st.env o.guard with
  | none => rw [hw] at h; cases h
  | some w =>
    rw [hw] at h
    cases w with
    | false => exact h
    | true =>
      simp only [] at h ⊢
      cases he : ev o.op (o.dst.getD 0) (st.cnt (o.dst.getD 0)) (val st.env) (restrict st.obj o.vk) with
      | none => rw [he] at h; cases h
      | some e =>
        rw [he] at h
        cases e with
        | eff e => exact h
        | cal f vs k =>
          simp only [Option.bind_some] at h ⊢
          cases hcl : cl f vs with
          | none => rw [hcl] at h; cases h
          | some r =>
            rw [hcl] at h; rw [hc _ _ _ hcl]
            simp only [Option.bind_some] at h ⊢
            cases hk : k r with
            | none => rw [hk] at h; cases h
            | some e => rw [hk] at h; exact h
theorem opsF_ok {cl} (hc : ∀ f args r, cl f args = some r → call M f args = some r) : ∀ {ops st s}, opsF cl ops st = some s → execOps M ops st = some s
  | [], st, s, h => by rw [ops_nil]; exact h
  | o :: r, st, s, h => by
    unfold opsF at h
    cases h1 : stepF cl o st with
    | none => rw [h1] at h; cases h
    | some s1 =>
      rw [h1] at h
      rw [ops_cons, stepF_ok hc h1]
      exact opsF_ok hc h
theorem exF_ok {cl} (hc : ∀ f args r, cl f args = some r → call M f args = some r) : ∀ n {c st p}, exF cl n c st = some p → exec M c st = some p
  | 0, _, _, _, h => by cases h
  | n + 1, c, st, p, h => by
    cases c with
    | skip => rw [exec_skip]; exact h
    | reg ops =>
      simp only [exF] at h
      cases h1 : opsF cl ops st with
      | none => rw [h1] at h; cases h
      | some s => rw [h1] at h; rw [exec_reg, opsF_ok hc h1]; exact h
    | seq a b =>
      simp only [exF] at h
      cases h1 : exF cl n a st with
      | none => rw [h1] at h; cases h
      | some q =>
        obtain ⟨e, s⟩ := q
        rw [h1] at h
        rw [exec_seq, exF_ok hc n h1]
        cases e with
        | norm => exact exF_ok hc n h
        | exit i => exact h
        | ret => exact h
    | cond x a b =>
      simp only [exF] at h
      rw [exec_cond]
      cases hx : val st.env x <;> rw [hx] at h <;> try cases h
      rename_i b'; cases b'
      · exact exF_ok hc n h
      · exact exF_ok hc n h
    | block id a =>
      simp only [exF] at h
      cases h1 : exF cl n a st with
      | none => rw [h1] at h; cases h
      | some q => rw [h1] at h; rw [exec_block, exF_ok hc n h1]; exact h
    | loop a =>
      simp only [exF] at h
      cases h1 : exF cl n a st with
      | none => rw [h1] at h; cases h
      | some q =>
        obtain ⟨e, s⟩ := q
        rw [h1] at h
        rw [exec_loop, exF_ok hc n h1]
        cases e with
        | norm => exact exF_ok hc n h
        | exit i => exact h
        | ret => exact h
    | exit i => rw [exec_exit]; exact h
    | ret => rw [exec_ret]; exact h
theorem callF_ok {k : Nat} : ∀ n {f args r}, callF M k n f args = some r → call M f args = some r
  | 0, _, _, _, h => by cases h
  | n + 1, f, args, r, h => by
    unfold callF at h
    cases hF : M.tab f with
    | none => rw [hF] at h; cases h
    | some F =>
      rw [hF] at h
      simp only [] at h
      split at h
      · rename_i hn
        rw [call_eq hF args hn]
        cases h1 : exF (callF M k n) k F.body (initSt args) with
        | none => rw [h1] at h; cases h
        | some q =>
          obtain ⟨e, s⟩ := q
          rw [h1] at h
          rw [exF_ok (fun f a r hh => callF_ok n hh) k h1]
          cases e with
          | norm => exact h
          | ret => exact h
          | exit i => cases h
      · cases h
end Go.TM
namespace Go.TM.Fn
open Go Go.TM Go.Plain
theorem ceil_known : call mach 25 [.agg [.bool true, .sl [[.int .u32 7]], .bool false, .sl [[.int .u32 2]]]] = some (.tup [.int .i64 (-3), .int .i64 0], []) := callF_ok (k := 200) 30 (by kernel_rfl)
end Go.TM.Fn
end
section
namespace Go.TM.Fn
open Go Go.TM
theorem known_o : call mach 21 [] = some (.bool true, []) := callF_ok (k := 400) 60 (by kernel_rfl)
end Go.TM.Fn
end
section
namespace Go.TM.Fn
open Go Go.TM Go.Plain
set_option linter.unusedVariables false
set_option linter.unusedSimpArgs false
set_option maxRecDepth 20000
set_option maxHeartbeats 4000000
theorem step_c (x y : Pri) (hx : x.Can) (hy : y.Can) {j k u w p q} (hu : IsQ j u p) (hw : IsQ k w q) (hj : j + k < 500000000) (hj0 : 0 < j) (hk0 : 0 < k) :
    Gives mach 22 [priT x, u, priT y, w] (if 0 < sgq (q - p) then .tup [priT y, encQ q] else .tup [priT x, encQ p]) := by
  have cm := qcompare_c hw hu (by omega) hk0 hj0
  have cx := copied_c x hx
  have cy := copied_c y hy
  have wh := whole_c (n := 0) (by unfold I64; omega)
  have d0 := dq_int (n := 0) (by unfold I64; omega)
  have a1 := qadd_c hw (isQ_enc d0) (by omega) hk0 (by omega)
  have a2 := qadd_c hu (isQ_enc d0) (by omega) hj0 (by omega)
  rw [show (((0 : Int) : Rat)) = 0 from rfl] at a1 a2 wh
  rw [Rat.add_zero] at a1 a2
  obtain ⟨n, ds, m, es, rfl, -⟩ := hu
  obtain ⟨n', ds', m', es', rfl, -⟩ := hw
  refine gives tab22 rfl ?_
  by_cases hc : 0 < sgq (q - p)
  · rw [if_pos hc]
    simp only [F22, tmR, seval, wpcall_eq cm, hc, wpcall_eq cy, wpcall_eq wh, wpcall_eq a1, tmF]
  · rw [if_neg hc]
    simp only [F22, tmR, seval, wpcall_eq cm, hc, wpcall_eq cx, wpcall_eq wh, wpcall_eq a2, tmF]
theorem view1_ret2 {e xs u} (h : Ret2 e xs u) : view1 u = .sl xs := by
  rcases h with ⟨rfl, rfl⟩ | rfl <;> rfl
theorem prices_c (m : Mas) (a : List Int) (hm : m.fl = 6) (hcu : m.cuts.length ≤ 2) (hrs : ∀ c ∈ m.cuts, c.rs.length ≤ 5) (ha : a.length < 9223372036854775808) :
    ∃ x : Pri, x.Can ∧ x.cuts = m.cuts ∧ x.fls.length = 6 ∧ x.duals.length = m.cuts.length ∧ x.decs.length ≤ 2 ∧ x.free = false ∧ Gives mach 15 [masT m, .sl (ints .i64 a)] (priT x) := by
  obtain ⟨rv, ⟨F, D, E, fls, duals, decs, rfl, q1, q2, q3, l1, l2, l3, f1, f2⟩, h⟩ := prices_o m a hm hcu ha
  refine ⟨⟨fls, m.cuts, duals, decs, false⟩, ⟨by show fls.length < _; omega, by show m.cuts.length < _; omega, by show duals.length < _; omega, by show decs.length < _; omega, fun c hc => by have := hrs c hc; omega, fun r hr => ?_, fun r hr => ?_⟩, rfl, l1, l2, l3, rfl, _, h, ?_⟩
  · obtain ⟨q, d, e⟩ := f1 r hr; exact ⟨q, d.mono (by omega), e⟩
  · obtain ⟨q, d, e⟩ := f2 r hr; exact ⟨q, d.mono (by omega), e⟩
  · simp only [view, viewA, List.map_cons, List.map_nil, view1_ret1 q1, view1_ret2 q2, view1_ret1 q3]; rfl
end Go.TM.Fn
end
section
namespace Go.TM.Fn
open Go Go.TM Go.Plain
set_option linter.unusedVariables false
set_option linter.unusedSimpArgs false
set_option maxRecDepth 20000
set_option maxHeartbeats 4000000
theorem view_bool {rv : TV} {b : Bool} (h : view rv = .bool b) : rv = .bool b := by
  cases rv <;> simp [view, viewA, view1] at h
  rw [h]
theorem gives_bool {f : Nat} {args : List TV} {b : Bool} (h : Gives mach f args (.bool b)) : call mach f args = some (.bool b, []) := by
  obtain ⟨rv, h1, h2⟩ := h
  rw [view_bool h2] at h1; exact h1
theorem law4_c (l a b : List Int) (n : Int) (hl : l.length < 9223372036854775808) (ha : a.length < 9223372036854775808) (hb : b.length < 9223372036854775808) :
    Gives mach 4 [.sl (ints .i64 l), .sl (ints .i64 a), .sl (ints .i64 b), .int .i64 n] (.bool true) := by
  obtain ⟨m, ms, mf, mc, mr, hm⟩ := master_c l hl
  obtain ⟨x, xc, -, -, -, -, -, hx⟩ := prices_c m a mf mc mr ha
  obtain ⟨y, yc, -, -, -, -, -, hy⟩ := prices_c m b mf mc mr hb
  obtain ⟨un, uds, um, ues, u1, u2, u3, u4, hu⟩ := wild_ex n
  obtain ⟨wn, wds, wm, wes, w1, w2, w3, w4, hw⟩ := wild_ex (n.fdiv (2 ^ (min (Int.toNat 10) 64)))
  obtain ⟨tn, tds, tm, tes, t1, t2, t3, t4, ht⟩ := wild_ex (n.fdiv (2 ^ (min (Int.toNat 3) 64)))
  have iu : IsQ 100 (rawQ un uds um ues) _ := ⟨un, uds, um, ues, rfl, u1, u2, u3, u4, rfl⟩
  have iw : IsQ 100 (rawQ wn wds wm wes) _ := ⟨wn, wds, wm, wes, rfl, w1, w2, w3, w4, rfl⟩
  have it : IsQ 100 (rawQ tn tds tm tes) _ := ⟨tn, tds, tm, tes, rfl, t1, t2, t3, t4, rfl⟩
  generalize Rat.divInt (ival un uds) (ival um ues) = p at iu
  generalize Rat.divInt (ival wn wds) (ival wm wes) = q at iw
  generalize Rat.divInt (ival tn tds) (ival tm tes) = r at it
  have st := step_c x y xc yc iu iw (by omega) (by omega) (by omega)
  have cm := rqcompare_c iw iu (by omega) (by omega) (by omega)
  have ib := rint_c (n := 1152921504606846976) (by unfold I64; omega)
  have db := dq_int (n := 1152921504606846976) (by unfold I64; omega)
  have mu := rqmul_c (isQ_enc db) it (by omega) (by omega) (by omega)
  have dm := dq_mul db (it.dq (by omega)) (by omega)
  generalize ((1152921504606846976 : Int) : Rat) = c60 at ib db mu dm
  generalize c60 * r = big at mu dm
  have e1 := pceilI_c (isQ_enc dm) (by omega) (by omega)
  have e2 := rceilI_c (isQ_enc dm) (by omega) (by omega)
  have kn : Gives mach 21 [] (.bool true) := ⟨_, known_o, rfl⟩
  have hs := fun b kk r hr => bin_shr_i64 b kk n r hr
  have hs10 := bin_shr_i64 false .u64 n 10 (by decide)
  have hs3 := bin_shr_i64 false .u64 n 3 (by decide)
  have sx := samePri_c x (by have := xc.fls; omega) (by have := xc.cuts; omega) (by have := xc.duals; omega) (by have := xc.decs; omega) (fun c hc => by have := xc.rs c hc; omega) (fun r hr => (xc.fc r hr).ok) (fun r hr => (xc.dc r hr).ok)
  have sy := samePri_c y (by have := yc.fls; omega) (by have := yc.cuts; omega) (by have := yc.duals; omega) (by have := yc.decs; omega) (fun c hc => by have := yc.rs c hc; omega) (fun r hr => (yc.fc r hr).ok) (fun r hr => (yc.dc r hr).ok)
  refine gives tab4 rfl ?_
  by_cases hc : 0 < sgq (q - p)
  · rw [if_pos hc] at st
    have f1 := pceilI_c iw (by omega) (by omega)
    have f2 := rceilI_c iw (by omega) (by omega)
    have cn := rcanon_c iw (by omega)
    have dq := iw.dq (by omega)
    have sm := same_c (decide (q.num < 0)) (toDig q.num.natAbs) (decide ((q.den : Int) < 0)) (toDig (q.den : Int).natAbs) (by have := toDig_len_le dq.1; omega) (by have := toDig_len_le dq.2; omega)
    simp only [rawQ, seval] at hu hw ht st cm mu f1 f2 cn
    simp only [F4, tmR, seval, wpcall_eq hm, wpcall_eq hx, wpcall_eq hy, wpcall_eq hu, hs10, wpcall_eq hw, wpcall_eq st, wpcall_eq cm, hc, wpcall_eq ib, hs3, wpcall_eq ht, wpcall_eq mu, wpcall_eq e1, wpcall_eq e2, wpcall_eq f1, wpcall_eq f2, wpcall_eq sy, wpcall_eq cn, wpcall_eq sm, wpcall_eq kn, tmF]
  · rw [if_neg hc] at st
    have f1 := pceilI_c iu (by omega) (by omega)
    have f2 := rceilI_c iu (by omega) (by omega)
    have cn := rcanon_c iu (by omega)
    have dq := iu.dq (by omega)
    have sm := same_c (decide (p.num < 0)) (toDig p.num.natAbs) (decide ((p.den : Int) < 0)) (toDig (p.den : Int).natAbs) (by have := toDig_len_le dq.1; omega) (by have := toDig_len_le dq.2; omega)
    simp only [rawQ, seval] at hu hw ht st cm mu f1 f2 cn
    simp only [F4, tmR, seval, wpcall_eq hm, wpcall_eq hx, wpcall_eq hy, wpcall_eq hu, hs10, wpcall_eq hw, wpcall_eq st, wpcall_eq cm, hc, wpcall_eq ib, hs3, wpcall_eq ht, wpcall_eq mu, wpcall_eq e1, wpcall_eq e2, wpcall_eq f1, wpcall_eq f2, wpcall_eq sx, wpcall_eq cn, wpcall_eq sm, wpcall_eq kn, tmF]
theorem law4_o (l a b : List Int) (n : Int) (hl : l.length < 9223372036854775808) (ha : a.length < 9223372036854775808) (hb : b.length < 9223372036854775808) :
    call mach 4 [.sl (ints .i64 l), .sl (ints .i64 a), .sl (ints .i64 b), .int .i64 n] = some (.bool true, []) := gives_bool (law4_c l a b n hl ha hb)
end Go.TM.Fn
end
