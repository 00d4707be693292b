/- What the functions of the program and of the reference compute, up to the law. Conditions stand in each theorem. -/
import Derived.Test.YtjjaeedhbnchlaaS3C2
import Derived.KernelRfl
section
namespace Go.TM.Fn
open Go Go.TM Go.Plain
set_option linter.unusedVariables false
set_option linter.unusedSimpArgs false
set_option maxRecDepth 20000
set_option maxHeartbeats 4000000
theorem loopMasCut {Q : Ex → St → Prop} {st : St} (l rows : List Int) (pen : Int) (v1 v3 v4 : TV) (cols : List Col) (cuts : List Cu) (c i sk : Nat) (hr3 : 3 ≤ rows.length) (hr5 : rows.length ≤ 5)
    (h0 : st.env 0 = .sl (ints .i64 l)) (h2 : st.env 2 = .ptr 2 0 0 0) (h3 : st.env 3 = .ptr 3 0 0 0) (h4 : st.env 4 = .sl (ints .i64 rows)) (h6 : st.env 6 = .int .i64 (i : Nat)) (h7 : st.env 7 = .ptr 7 c 0 0) (h8 : st.env 8 = .int .i64 (sk : Nat)) (h9 : st.env 9 = .int .i64 0) (b2 : Box2Z st) (hg1 : GrowsS st [29] 1 v1 (ints .i64 rows)) (b3 : BoxG st v1 pen v3 v4) (hg3 : GrowsS st [53] 3 v3 (cols.map colC)) (hg4 : GrowsS st [110] 2 v4 (cuts.map cutC)) (b7 : st.obj 7 c = some { cont := [[.nils, .int .i64 2]], esz := 2, box := true, solo := true, tip := false })
    (hQ : ∀ (s : St) (w : TV) (rs : List Int), s.env 0 = .sl (ints .i64 l) → s.env 2 = .ptr 2 0 0 0 → s.env 3 = .ptr 3 0 0 0 → s.env 4 = .sl (ints .i64 rows) → s.env 6 = .int .i64 (i : Nat) → s.env 7 = .ptr 7 c 0 0 → Box2Z s → GrowsS s [29] 1 v1 (ints .i64 rows) → BoxG s v1 pen v3 v4 → GrowsS s [53] 3 v3 (cols.map colC) → GrowsS s [110] 2 v4 (cuts.map cutC) → s.obj 7 c = some { cont := [[w, .int .i64 2]], esz := 2, box := true, solo := true, tip := false } → GrowsS s [91] 1 w (ints .i64 rs) → rs.length ≤ 5 → Q (.exit 4) s) :
    Goes mach (.loop L4_2) Q st := by
  refine wp_for (fun j s => s.env 0 = .sl (ints .i64 l) ∧ s.env 2 = .ptr 2 0 0 0 ∧ s.env 3 = .ptr 3 0 0 0 ∧ s.env 4 = .sl (ints .i64 rows) ∧ s.env 6 = .int .i64 (i : Nat) ∧ s.env 7 = .ptr 7 c 0 0 ∧ s.env 8 = .int .i64 (sk : Nat) ∧ s.env 9 = .int .i64 (j : Nat) ∧ Box2Z s ∧ GrowsS s [29] 1 v1 (ints .i64 rows) ∧ BoxG s v1 pen v3 v4 ∧ GrowsS s [53] 3 v3 (cols.map colC) ∧ GrowsS s [110] 2 v4 (cuts.map cutC) ∧
    ∃ (w : TV) (rs : List Int), s.obj 7 c = some { cont := [[w, .int .i64 2]], esz := 2, box := true, solo := true, tip := false } ∧ GrowsS s [91] 1 w (ints .i64 rs) ∧ rs.length ≤ j) rows.length ?_ ?_ rows.length 0 _ (by omega) ?_
  · rintro j s hj ⟨h0, h2, h3, h4, h6, h7, h8, h9, b2, hg1, b3, hg3, hg4, w, rs, b7, hgw, hrs⟩
    have hw : IntKind.i64.wrap ((j + 1 : Nat) : Int) = (j + 1 : Nat) := wrap_i64n (by omega)
    by_cases hc : ¬ (j = sk) ∨ rows.length = 3
    · have step : ∀ X : Prop, (∀ (x1 : ((j : Int) = (sk : Int)) = False), X) → (∀ (x1 : ((j : Int) = (sk : Int)) = True) (x2 : ((rows.length : Int) = 3) = True), X) → X := fun X f g => by
        by_cases hjs : j = sk
        · exact g (eq_true (by omega)) (eq_true (by omega))
        · exact f (eq_false (by omega))
      have tail : ∀ (st1 : St) (QQ : St → Prop), True := fun _ _ => trivial
      refine step _ (fun x1 => ?_) (fun x1 x2 => ?_)
      · simp only [L4_2, tmR, seval, h0, h2, h3, h4, h6, h7, h8, h9, ints_len, nat_lt, hj, x1, b7, iaddr_ints hj]
        refine wp_growS [91] 91 (by decide) (.fb []) _ _ _ _ _ _ (xs := ints .i64 rs) (zs := [[TV.int .i64 (rows.getD j 0)]]) ?_ (fun k g => rfl) ?_ (by simp) (by simp [ints]; omega) ?_
        · simp only [tmR, seval]
          exact hgw.mono (fun k g hk _ => by simp only [List.mem_cons, List.not_mem_nil, or_false] at hk; rcases hk with rfl; simp only [tmD, reduceIte, Nat.reduceEqDiff, Nat.reduceAdd]) (fun k hk => by simp only [List.mem_cons, List.not_mem_nil, or_false] at hk; rcases hk with rfl; simp only [tmD, reduceIte, Nat.reduceEqDiff, Nat.reduceAdd]; exact Nat.le_refl _)
        · simp only [tmR, seval, elems]
        · intro st' v henv hobj hcnt hg'
          have ho3 := hobj 3 0 (by decide)
          have ho2 := hobj 2 0 (by decide)
          have ho7 := hobj 7 c (by decide)
          simp only [tmD, reduceIte, Nat.reduceEqDiff, Nat.reduceAdd, b3] at ho3
          simp only [tmD, reduceIte, Nat.reduceEqDiff, Nat.reduceAdd, b2] at ho2
          simp only [tmD, reduceIte, Nat.reduceEqDiff, Nat.reduceAdd, b7] at ho7
          have hg1' : GrowsS st' [29] _ _ _ := hg1.mono (fun k g hk _ => by
              have e := hobj k g (by simp only [List.mem_cons, List.not_mem_nil, or_false] at hk ⊢; omega)
              simp only [List.mem_cons, List.not_mem_nil, or_false] at hk
              rw [e]; rcases hk with rfl; simp only [tmD, reduceIte, Nat.reduceEqDiff, Nat.reduceAdd]) (fun k hk => by
              have e := hcnt k (by simp only [List.mem_cons, List.not_mem_nil, or_false] at hk; omega)
              simp only [List.mem_cons, List.not_mem_nil, or_false] at hk
              rw [e]; rcases hk with rfl; simp only [tmD, reduceIte, Nat.reduceEqDiff, Nat.reduceAdd]; exact Nat.le_refl _)
          have hg3' : GrowsS st' [53] _ _ _ := hg3.mono (fun k g hk _ => by
              have e := hobj k g (by simp only [List.mem_cons, List.not_mem_nil, or_false] at hk ⊢; omega)
              simp only [List.mem_cons, List.not_mem_nil, or_false] at hk
              rw [e]; rcases hk with rfl; simp only [tmD, reduceIte, Nat.reduceEqDiff, Nat.reduceAdd]) (fun k hk => by
              have e := hcnt k (by simp only [List.mem_cons, List.not_mem_nil, or_false] at hk; omega)
              simp only [List.mem_cons, List.not_mem_nil, or_false] at hk
              rw [e]; rcases hk with rfl; simp only [tmD, reduceIte, Nat.reduceEqDiff, Nat.reduceAdd]; exact Nat.le_refl _)
          have hg4' : GrowsS st' [110] _ _ _ := hg4.mono (fun k g hk _ => by
              have e := hobj k g (by simp only [List.mem_cons, List.not_mem_nil, or_false] at hk ⊢; omega)
              simp only [List.mem_cons, List.not_mem_nil, or_false] at hk
              rw [e]; rcases hk with rfl; simp only [tmD, reduceIte, Nat.reduceEqDiff, Nat.reduceAdd]) (fun k hk => by
              have e := hcnt k (by simp only [List.mem_cons, List.not_mem_nil, or_false] at hk; omega)
              simp only [List.mem_cons, List.not_mem_nil, or_false] at hk
              rw [e]; rcases hk with rfl; simp only [tmD, reduceIte, Nat.reduceEqDiff, Nat.reduceAdd]; exact Nat.le_refl _)
          have em : ints .i64 rs ++ [[TV.int .i64 (rows.getD j 0)]] = ints .i64 (rs ++ [rows.getD j 0]) := by simp [ints]
          rw [em] at hg'
          obtain ⟨hz, _⟩ | ⟨k0, g0, o, hk0, hv, hrest⟩ := hg'
          · simp [ints] at hz
          · subst hv
            simp only [tmR, seval, henv, h0, h2, h3, h4, h6, h7, h8, h9, ho7, nat_add_one, hw, Box2Z, ho2, BoxG, ho3]
            refine ⟨hg1'.mono (fun k g hk _ => by simp only [List.mem_cons, List.not_mem_nil, or_false] at hk; rcases hk with rfl; simp only [tmD, reduceIte, Nat.reduceEqDiff, Nat.reduceAdd]) (fun k hk => by simp only [tmD, reduceIte, Nat.reduceEqDiff, Nat.reduceAdd]; exact Nat.le_refl _), hg3'.mono (fun k g hk _ => by simp only [List.mem_cons, List.not_mem_nil, or_false] at hk; rcases hk with rfl; simp only [tmD, reduceIte, Nat.reduceEqDiff, Nat.reduceAdd]) (fun k hk => by simp only [tmD, reduceIte, Nat.reduceEqDiff, Nat.reduceAdd]; exact Nat.le_refl _), hg4'.mono (fun k g hk _ => by simp only [List.mem_cons, List.not_mem_nil, or_false] at hk; rcases hk with rfl; simp only [tmD, reduceIte, Nat.reduceEqDiff, Nat.reduceAdd]) (fun k hk => by simp only [tmD, reduceIte, Nat.reduceEqDiff, Nat.reduceAdd]; exact Nat.le_refl _), _, rs ++ [rows.getD j 0], rfl, ?_, by simp; omega⟩
            exact GrowsS.mono (st := st') (.inr ⟨k0, g0, o, hk0, rfl, hrest⟩) (fun k g hk _ => by simp only [List.mem_cons, List.not_mem_nil, or_false] at hk; rcases hk with rfl; simp only [tmD, reduceIte, Nat.reduceEqDiff, Nat.reduceAdd]) (fun k hk => by simp only [tmD, reduceIte, Nat.reduceEqDiff, Nat.reduceAdd]; exact Nat.le_refl _)
      · simp only [L4_2, tmR, seval, h0, h2, h3, h4, h6, h7, h8, h9, ints_len, nat_lt, hj, x1, x2, b7, iaddr_ints hj]
        refine wp_growS [91] 91 (by decide) (.fb []) _ _ _ _ _ _ (xs := ints .i64 rs) (zs := [[TV.int .i64 (rows.getD j 0)]]) ?_ (fun k g => rfl) ?_ (by simp) (by simp [ints]; omega) ?_
        · simp only [tmR, seval]
          exact hgw.mono (fun k g hk _ => by simp only [List.mem_cons, List.not_mem_nil, or_false] at hk; rcases hk with rfl; simp only [tmD, reduceIte, Nat.reduceEqDiff, Nat.reduceAdd]) (fun k hk => by simp only [List.mem_cons, List.not_mem_nil, or_false] at hk; rcases hk with rfl; simp only [tmD, reduceIte, Nat.reduceEqDiff, Nat.reduceAdd]; exact Nat.le_refl _)
        · simp only [tmR, seval, elems]
        · intro st' v henv hobj hcnt hg'
          have ho3 := hobj 3 0 (by decide)
          have ho2 := hobj 2 0 (by decide)
          have ho7 := hobj 7 c (by decide)
          simp only [tmD, reduceIte, Nat.reduceEqDiff, Nat.reduceAdd, b3] at ho3
          simp only [tmD, reduceIte, Nat.reduceEqDiff, Nat.reduceAdd, b2] at ho2
          simp only [tmD, reduceIte, Nat.reduceEqDiff, Nat.reduceAdd, b7] at ho7
          have hg1' : GrowsS st' [29] _ _ _ := hg1.mono (fun k g hk _ => by
              have e := hobj k g (by simp only [List.mem_cons, List.not_mem_nil, or_false] at hk ⊢; omega)
              simp only [List.mem_cons, List.not_mem_nil, or_false] at hk
              rw [e]; rcases hk with rfl; simp only [tmD, reduceIte, Nat.reduceEqDiff, Nat.reduceAdd]) (fun k hk => by
              have e := hcnt k (by simp only [List.mem_cons, List.not_mem_nil, or_false] at hk; omega)
              simp only [List.mem_cons, List.not_mem_nil, or_false] at hk
              rw [e]; rcases hk with rfl; simp only [tmD, reduceIte, Nat.reduceEqDiff, Nat.reduceAdd]; exact Nat.le_refl _)
          have hg3' : GrowsS st' [53] _ _ _ := hg3.mono (fun k g hk _ => by
              have e := hobj k g (by simp only [List.mem_cons, List.not_mem_nil, or_false] at hk ⊢; omega)
              simp only [List.mem_cons, List.not_mem_nil, or_false] at hk
              rw [e]; rcases hk with rfl; simp only [tmD, reduceIte, Nat.reduceEqDiff, Nat.reduceAdd]) (fun k hk => by
              have e := hcnt k (by simp only [List.mem_cons, List.not_mem_nil, or_false] at hk; omega)
              simp only [List.mem_cons, List.not_mem_nil, or_false] at hk
              rw [e]; rcases hk with rfl; simp only [tmD, reduceIte, Nat.reduceEqDiff, Nat.reduceAdd]; exact Nat.le_refl _)
          have hg4' : GrowsS st' [110] _ _ _ := hg4.mono (fun k g hk _ => by
              have e := hobj k g (by simp only [List.mem_cons, List.not_mem_nil, or_false] at hk ⊢; omega)
              simp only [List.mem_cons, List.not_mem_nil, or_false] at hk
              rw [e]; rcases hk with rfl; simp only [tmD, reduceIte, Nat.reduceEqDiff, Nat.reduceAdd]) (fun k hk => by
              have e := hcnt k (by simp only [List.mem_cons, List.not_mem_nil, or_false] at hk; omega)
              simp only [List.mem_cons, List.not_mem_nil, or_false] at hk
              rw [e]; rcases hk with rfl; simp only [tmD, reduceIte, Nat.reduceEqDiff, Nat.reduceAdd]; exact Nat.le_refl _)
          have em : ints .i64 rs ++ [[TV.int .i64 (rows.getD j 0)]] = ints .i64 (rs ++ [rows.getD j 0]) := by simp [ints]
          rw [em] at hg'
          obtain ⟨hz, _⟩ | ⟨k0, g0, o, hk0, hv, hrest⟩ := hg'
          · simp [ints] at hz
          · subst hv
            simp only [tmR, seval, henv, h0, h2, h3, h4, h6, h7, h8, h9, ho7, nat_add_one, hw, Box2Z, ho2, BoxG, ho3]
            refine ⟨hg1'.mono (fun k g hk _ => by simp only [List.mem_cons, List.not_mem_nil, or_false] at hk; rcases hk with rfl; simp only [tmD, reduceIte, Nat.reduceEqDiff, Nat.reduceAdd]) (fun k hk => by simp only [tmD, reduceIte, Nat.reduceEqDiff, Nat.reduceAdd]; exact Nat.le_refl _), hg3'.mono (fun k g hk _ => by simp only [List.mem_cons, List.not_mem_nil, or_false] at hk; rcases hk with rfl; simp only [tmD, reduceIte, Nat.reduceEqDiff, Nat.reduceAdd]) (fun k hk => by simp only [tmD, reduceIte, Nat.reduceEqDiff, Nat.reduceAdd]; exact Nat.le_refl _), hg4'.mono (fun k g hk _ => by simp only [List.mem_cons, List.not_mem_nil, or_false] at hk; rcases hk with rfl; simp only [tmD, reduceIte, Nat.reduceEqDiff, Nat.reduceAdd]) (fun k hk => by simp only [tmD, reduceIte, Nat.reduceEqDiff, Nat.reduceAdd]; exact Nat.le_refl _), _, rs ++ [rows.getD j 0], rfl, ?_, by simp; omega⟩
            exact GrowsS.mono (st := st') (.inr ⟨k0, g0, o, hk0, rfl, hrest⟩) (fun k g hk _ => by simp only [List.mem_cons, List.not_mem_nil, or_false] at hk; rcases hk with rfl; simp only [tmD, reduceIte, Nat.reduceEqDiff, Nat.reduceAdd]) (fun k hk => by simp only [tmD, reduceIte, Nat.reduceEqDiff, Nat.reduceAdd]; exact Nat.le_refl _)
    · have x1 : ((j : Int) = (sk : Int)) = True := eq_true (by omega)
      have x2 : ((rows.length : Int) = 3) = False := eq_false (by omega)
      simp only [L4_2, tmR, seval, h0, h2, h3, h4, h6, h7, h8, h9, ints_len, nat_lt, hj, x1, x2, b7, nat_add_one, hw, Box2Z, b2, BoxG, b3]
      exact ⟨hg1.mono (fun k g hk _ => by simp only [tmD, reduceIte, Nat.reduceEqDiff, Nat.reduceAdd]) (fun k hk => by simp only [tmD, reduceIte, Nat.reduceEqDiff, Nat.reduceAdd]; exact Nat.le_refl _), hg3.mono (fun k g hk _ => by simp only [tmD, reduceIte, Nat.reduceEqDiff, Nat.reduceAdd]) (fun k hk => by simp only [tmD, reduceIte, Nat.reduceEqDiff, Nat.reduceAdd]; exact Nat.le_refl _), hg4.mono (fun k g hk _ => by simp only [tmD, reduceIte, Nat.reduceEqDiff, Nat.reduceAdd]) (fun k hk => by simp only [tmD, reduceIte, Nat.reduceEqDiff, Nat.reduceAdd]; exact Nat.le_refl _), w, rs, rfl, hgw.mono (fun k g hk _ => by simp only [tmD, reduceIte, Nat.reduceEqDiff, Nat.reduceAdd]) (fun k hk => by simp only [tmD, reduceIte, Nat.reduceEqDiff, Nat.reduceAdd]; exact Nat.le_refl _), by omega⟩
  · rintro s ⟨h0, h2, h3, h4, h6, h7, h8, h9, b2, hg1, b3, hg3, hg4, w, rs, b7, hgw, hrs⟩
    simp only [L4_2, tmR, seval, h4, h9, ints_len, Int.lt_irrefl]
    exact hQ _ w rs h0 h2 h3 h4 h6 h7 b2 (hg1.mono (fun k g hk _ => by simp only [tmD, reduceIte, Nat.reduceEqDiff, Nat.reduceAdd]) (fun k hk => by simp only [tmD, reduceIte, Nat.reduceEqDiff, Nat.reduceAdd]; exact Nat.le_refl _)) b3 (hg3.mono (fun k g hk _ => by simp only [tmD, reduceIte, Nat.reduceEqDiff, Nat.reduceAdd]) (fun k hk => by simp only [tmD, reduceIte, Nat.reduceEqDiff, Nat.reduceAdd]; exact Nat.le_refl _)) (hg4.mono (fun k g hk _ => by simp only [tmD, reduceIte, Nat.reduceEqDiff, Nat.reduceAdd]) (fun k hk => by simp only [tmD, reduceIte, Nat.reduceEqDiff, Nat.reduceAdd]; exact Nat.le_refl _)) b7 (hgw.mono (fun k g hk _ => by simp only [tmD, reduceIte, Nat.reduceEqDiff, Nat.reduceAdd]) (fun k hk => by simp only [tmD, reduceIte, Nat.reduceEqDiff, Nat.reduceAdd]; exact Nat.le_refl _)) (by omega)
  · exact ⟨h0, h2, h3, h4, h6, h7, h8, h9, b2, hg1, b3, hg3, hg4, .nils, [], b7, .inl ⟨rfl, rfl⟩, by simp⟩
theorem loopMasCuts {Q : Ex → St → Prop} {st : St} (l rows : List Int) (pen : Int) (v1 v3 : TV) (cols : List Col) (hl : l.length < 9223372036854775808) (hr3 : 3 ≤ rows.length) (hr5 : rows.length ≤ 5)
    (h0 : st.env 0 = .sl (ints .i64 l)) (h2 : st.env 2 = .ptr 2 0 0 0) (h3 : st.env 3 = .ptr 3 0 0 0) (h4 : st.env 4 = .sl (ints .i64 rows)) (h6 : st.env 6 = .int .i64 0) (b2 : Box2Z st) (hg1 : GrowsS st [29] 1 v1 (ints .i64 rows)) (b3 : BoxG st v1 pen v3 .nils) (hg3 : GrowsS st [53] 3 v3 (cols.map colC))
    (hQ : ∀ (s : St) (v4 : TV) (cuts : List Cu), s.env 2 = .ptr 2 0 0 0 → s.env 3 = .ptr 3 0 0 0 → Box2Z s → GrowsS s [29] 1 v1 (ints .i64 rows) → BoxG s v1 pen v3 v4 → GrowsS s [53] 3 v3 (cols.map colC) → GrowsS s [110] 2 v4 (cuts.map cutC) → cuts.length ≤ 2 → (∀ c ∈ cuts, c.rs.length ≤ 5) → Q (.exit 2) s) :
    Goes mach (.loop L4_1) Q st := by
  have at3' : Gives mach 11 [.sl (ints .i64 l), .int .i64 3] (.int .i64 (atN l 3 : Nat)) := at_c l 3 hl (by omega)
  have hrem : binTV false .rem (.int .i64 (atN l 3 : Nat)) (.int .i64 3) = some (.int .i64 ((atN l 3 % 3 : Nat) : Int)) := by rw [bin_rem _ _ _ _ (by decide)]; exact congrArg _ (congrArg _ (rem_nat _ 3))
  have hlt3 : atN l 3 % 3 < 3 := Nat.mod_lt _ (by omega)
  have hlz : ((rows.length : Nat) : Int) ≠ 0 := by omega
  refine wp_for (fun i s => s.env 0 = .sl (ints .i64 l) ∧ s.env 2 = .ptr 2 0 0 0 ∧ s.env 3 = .ptr 3 0 0 0 ∧ s.env 4 = .sl (ints .i64 rows) ∧ s.env 6 = .int .i64 (i : Nat) ∧ Box2Z s ∧ GrowsS s [29] 1 v1 (ints .i64 rows) ∧ GrowsS s [53] 3 v3 (cols.map colC) ∧
    ∃ (v4 : TV) (cuts : List Cu), BoxG s v1 pen v3 v4 ∧ GrowsS s [110] 2 v4 (cuts.map cutC) ∧ cuts.length ≤ i ∧ ∀ c ∈ cuts, c.rs.length ≤ 5) (atN l 3 % 3) ?_ ?_ (atN l 3 % 3) 0 _ (by omega) ?_
  · rintro i s hi ⟨h0, h2, h3, h4, h6, b2, hg1, hg3, v4, cuts, b3, hg4, hcl, hcu⟩
    have hw : IntKind.i64.wrap ((i + 1 : Nat) : Int) = (i + 1 : Nat) := wrap_i64n (by omega)
    have hw20 : IntKind.i64.wrap (20 + (i : Int)) = ((20 + i : Nat) : Int) := by rw [wrap_i64 (by omega) (by omega)]; omega
    have hw24 : IntKind.i64.wrap (24 + (i : Int)) = ((24 + i : Nat) : Int) := by rw [wrap_i64 (by omega) (by omega)]; omega
    have a20 := at_c l (20 + i) hl (by omega)
    have a24 := at_c l (24 + i) hl (by omega)
    have hrem2 : binTV false .rem (.int .i64 (atN l (24 + i) : Nat)) (.int .i64 2) = some (.int .i64 ((atN l (24 + i) % 2 : Nat) : Int)) := by rw [bin_rem _ _ _ _ (by decide)]; exact congrArg _ (congrArg _ (rem_nat _ 2))
    simp only [L4_1, tmR, seval, h0, h3, h4, h6, wpcall_eq at3', hrem, nat_lt, hi, hw20, wpcall_eq a20, ints_len, bin_rem _ _ _ _ hlz, rem_nat]
    refine loopMasCut l rows pen v1 v3 v4 cols cuts (s.cnt 7) i (atN l (20 + i) % rows.length) hr3 hr5 ?_ ?_ ?_ ?_ ?_ ?_ ?_ ?_ ?_ ?_ ?_ ?_ ?_ ?_ (fun s w rs h0 h2 h3 h4 h6 h7 b2 hg1 b3 hg3 hg4 b7 hgw hrs => ?_)
    · simp only [tmD, reduceIte, Nat.reduceEqDiff, Nat.reduceAdd, h0]
    · simp only [tmD, reduceIte, Nat.reduceEqDiff, Nat.reduceAdd, h2]
    · simp only [tmD, reduceIte, Nat.reduceEqDiff, Nat.reduceAdd, h3]
    · simp only [tmD, reduceIte, Nat.reduceEqDiff, Nat.reduceAdd, h4]
    · simp only [tmD, reduceIte, Nat.reduceEqDiff, Nat.reduceAdd, h6]
    · simp only [tmD, reduceIte, Nat.reduceEqDiff, Nat.reduceAdd]
    · simp only [tmD, reduceIte, Nat.reduceEqDiff, Nat.reduceAdd]
    · simp only [tmD, reduceIte, Nat.reduceEqDiff, Nat.reduceAdd]
    · simp only [Box2Z, tmD, reduceIte, Nat.reduceEqDiff, Nat.reduceAdd, b2]
    · exact (hg1.mono (fun k g hk _ => by simp only [List.mem_cons, List.not_mem_nil, or_false] at hk; rcases hk with rfl; simp only [tmD, reduceIte, Nat.reduceEqDiff, Nat.reduceAdd]) (fun k hk => by simp only [List.mem_cons, List.not_mem_nil, or_false] at hk; rcases hk with rfl; simp only [tmD, reduceIte, Nat.reduceEqDiff, Nat.reduceAdd]; exact Nat.le_refl _))
    · simp only [BoxG, tmD, reduceIte, Nat.reduceEqDiff, Nat.reduceAdd, b3]
    · exact (hg3.mono (fun k g hk _ => by simp only [List.mem_cons, List.not_mem_nil, or_false] at hk; rcases hk with rfl; simp only [tmD, reduceIte, Nat.reduceEqDiff, Nat.reduceAdd]) (fun k hk => by simp only [List.mem_cons, List.not_mem_nil, or_false] at hk; rcases hk with rfl; simp only [tmD, reduceIte, Nat.reduceEqDiff, Nat.reduceAdd]; exact Nat.le_refl _))
    · exact (hg4.mono (fun k g hk _ => by simp only [List.mem_cons, List.not_mem_nil, or_false] at hk; rcases hk with rfl; simp only [tmD, reduceIte, Nat.reduceEqDiff, Nat.reduceAdd]) (fun k hk => by simp only [List.mem_cons, List.not_mem_nil, or_false] at hk; rcases hk with rfl; simp only [tmD, reduceIte, Nat.reduceEqDiff, Nat.reduceAdd]; exact Nat.le_refl _))
    · simp only [tmD, reduceIte, Nat.reduceEqDiff, Nat.reduceAdd]
    · obtain ⟨hzw, hvw⟩ | ⟨kw, gw, ow, hkw, hvw, hgw1, how, hcw, hbw, hew, htw⟩ := hgw
      · subst hvw
        have hrs0 : rs = [] := by simpa [ints] using hzw
        by_cases hd : ((atN l (24 + i) % 2 : Nat) : Int) = 1
        · simp only [tmR, seval, h0, h2, h3, h4, h6, h7, b7, hw24, wpcall_eq a24, hrem2, hd, b3]
          refine wp_growS [110] 110 (by decide) .full _ _ _ _ _ _ (xs := cuts.map cutC) (zs := [cutC ⟨rs, 2⟩]) ?_ (fun k g => rfl) ?_ (by simp) (by simp; omega) ?_
          · simp only [tmR, seval]
            exact (hg4.mono (fun k g hk _ => by simp only [List.mem_cons, List.not_mem_nil, or_false] at hk; rcases hk with rfl; simp only [tmD, reduceIte, Nat.reduceEqDiff, Nat.reduceAdd]) (fun k hk => by simp only [List.mem_cons, List.not_mem_nil, or_false] at hk; rcases hk with rfl; simp only [tmD, reduceIte, Nat.reduceEqDiff, Nat.reduceAdd]; exact Nat.le_refl _))
          · simp only [tmR, seval, elems]
            rw [hrs0]; rfl
          · intro st' v henv hobj hcnt hg'
            have ho3 := hobj 3 0 (by decide)
            have ho2 := hobj 2 0 (by decide)
            simp only [tmD, reduceIte, Nat.reduceEqDiff, Nat.reduceAdd, unsol_objG, b3, Option.map_some, pr_beq, List.contains_cons, List.contains_nil, Nat.reduceBEq, Bool.false_and, Bool.or_self, Bool.and_false, Bool.false_eq_true] at ho3
            simp only [tmD, reduceIte, Nat.reduceEqDiff, Nat.reduceAdd, unsol_objG, b2, Option.map_some, pr_beq, List.contains_cons, List.contains_nil, Nat.reduceBEq, Bool.false_and, Bool.or_self, Bool.and_false, Bool.false_eq_true] at ho2
            have hg1' : GrowsS st' [29] _ _ _ := hg1.mono (fun k g hk _ => by
                have e := hobj k g (by simp only [List.mem_cons, List.not_mem_nil, or_false] at hk ⊢; omega)
                simp only [List.mem_cons, List.not_mem_nil, or_false] at hk
                rw [e]; rcases hk with rfl; simp only [tmD, reduceIte, Nat.reduceEqDiff, Nat.reduceAdd]) (fun k hk => by
                have e := hcnt k (by simp only [List.mem_cons, List.not_mem_nil, or_false] at hk; omega)
                simp only [List.mem_cons, List.not_mem_nil, or_false] at hk
                rw [e]; rcases hk with rfl; simp only [tmD, reduceIte, Nat.reduceEqDiff, Nat.reduceAdd]; exact Nat.le_refl _)
            have hg3' : GrowsS st' [53] _ _ _ := hg3.mono (fun k g hk _ => by
                have e := hobj k g (by simp only [List.mem_cons, List.not_mem_nil, or_false] at hk ⊢; omega)
                simp only [List.mem_cons, List.not_mem_nil, or_false] at hk
                rw [e]; rcases hk with rfl; simp only [tmD, reduceIte, Nat.reduceEqDiff, Nat.reduceAdd]) (fun k hk => by
                have e := hcnt k (by simp only [List.mem_cons, List.not_mem_nil, or_false] at hk; omega)
                simp only [List.mem_cons, List.not_mem_nil, or_false] at hk
                rw [e]; rcases hk with rfl; simp only [tmD, reduceIte, Nat.reduceEqDiff, Nat.reduceAdd]; exact Nat.le_refl _)
            have em : cuts.map cutC ++ [cutC ⟨rs, 2⟩] = (cuts ++ [(⟨rs, 2⟩ : Cu)]).map cutC := by simp
            rw [em] at hg'
            obtain ⟨hz, _⟩ | ⟨k0, g0, o, hk0, hv, hrest⟩ := hg'
            · simp at hz
            · subst hv
              simp only [tmR, seval, henv, h0, h2, h3, h4, h6, nat_add_one, hw, Box2Z, ho2, BoxG, ho3]
              refine ⟨(hg1'.mono (fun k g hk _ => by simp only [List.mem_cons, List.not_mem_nil, or_false] at hk; rcases hk with rfl; simp only [tmD, reduceIte, Nat.reduceEqDiff, Nat.reduceAdd]) (fun k hk => by simp only [List.mem_cons, List.not_mem_nil, or_false] at hk; rcases hk with rfl; simp only [tmD, reduceIte, Nat.reduceEqDiff, Nat.reduceAdd]; exact Nat.le_refl _)), (hg3'.mono (fun k g hk _ => by simp only [List.mem_cons, List.not_mem_nil, or_false] at hk; rcases hk with rfl; simp only [tmD, reduceIte, Nat.reduceEqDiff, Nat.reduceAdd]) (fun k hk => by simp only [List.mem_cons, List.not_mem_nil, or_false] at hk; rcases hk with rfl; simp only [tmD, reduceIte, Nat.reduceEqDiff, Nat.reduceAdd]; exact Nat.le_refl _)), _, cuts ++ [⟨rs, 2⟩], rfl, GrowsS.mono (st := st') (.inr ⟨k0, g0, o, hk0, rfl, hrest⟩) (fun k g hk _ => by simp only [List.mem_cons, List.not_mem_nil, or_false] at hk; rcases hk with rfl; simp only [tmD, reduceIte, Nat.reduceEqDiff, Nat.reduceAdd]) (fun k hk => by simp only [tmD, reduceIte, Nat.reduceEqDiff, Nat.reduceAdd]; exact Nat.le_refl _), by simp; omega, fun x hx => ?_⟩
              rcases List.mem_append.1 hx with h | h
              · exact hcu x h
              · simp only [List.mem_singleton] at h; subst h; exact hrs
        · simp only [tmR, seval, h0, h2, h3, h4, h6, h7, b7, hw24, wpcall_eq a24, hrem2, hd, b3]
          refine wp_growS [110] 110 (by decide) .full _ _ _ _ _ _ (xs := cuts.map cutC) (zs := [cutC ⟨rs, 2⟩]) ?_ (fun k g => rfl) ?_ (by simp) (by simp; omega) ?_
          · simp only [tmR, seval]
            exact (hg4.mono (fun k g hk _ => by simp only [List.mem_cons, List.not_mem_nil, or_false] at hk; rcases hk with rfl; simp only [tmD, reduceIte, Nat.reduceEqDiff, Nat.reduceAdd]) (fun k hk => by simp only [List.mem_cons, List.not_mem_nil, or_false] at hk; rcases hk with rfl; simp only [tmD, reduceIte, Nat.reduceEqDiff, Nat.reduceAdd]; exact Nat.le_refl _))
          · simp only [tmR, seval, elems]
            rw [hrs0]; rfl
          · intro st' v henv hobj hcnt hg'
            have ho3 := hobj 3 0 (by decide)
            have ho2 := hobj 2 0 (by decide)
            simp only [tmD, reduceIte, Nat.reduceEqDiff, Nat.reduceAdd, unsol_objG, b3, Option.map_some, pr_beq, List.contains_cons, List.contains_nil, Nat.reduceBEq, Bool.false_and, Bool.or_self, Bool.and_false, Bool.false_eq_true] at ho3
            simp only [tmD, reduceIte, Nat.reduceEqDiff, Nat.reduceAdd, unsol_objG, b2, Option.map_some, pr_beq, List.contains_cons, List.contains_nil, Nat.reduceBEq, Bool.false_and, Bool.or_self, Bool.and_false, Bool.false_eq_true] at ho2
            have hg1' : GrowsS st' [29] _ _ _ := hg1.mono (fun k g hk _ => by
                have e := hobj k g (by simp only [List.mem_cons, List.not_mem_nil, or_false] at hk ⊢; omega)
                simp only [List.mem_cons, List.not_mem_nil, or_false] at hk
                rw [e]; rcases hk with rfl; simp only [tmD, reduceIte, Nat.reduceEqDiff, Nat.reduceAdd]) (fun k hk => by
                have e := hcnt k (by simp only [List.mem_cons, List.not_mem_nil, or_false] at hk; omega)
                simp only [List.mem_cons, List.not_mem_nil, or_false] at hk
                rw [e]; rcases hk with rfl; simp only [tmD, reduceIte, Nat.reduceEqDiff, Nat.reduceAdd]; exact Nat.le_refl _)
            have hg3' : GrowsS st' [53] _ _ _ := hg3.mono (fun k g hk _ => by
                have e := hobj k g (by simp only [List.mem_cons, List.not_mem_nil, or_false] at hk ⊢; omega)
                simp only [List.mem_cons, List.not_mem_nil, or_false] at hk
                rw [e]; rcases hk with rfl; simp only [tmD, reduceIte, Nat.reduceEqDiff, Nat.reduceAdd]) (fun k hk => by
                have e := hcnt k (by simp only [List.mem_cons, List.not_mem_nil, or_false] at hk; omega)
                simp only [List.mem_cons, List.not_mem_nil, or_false] at hk
                rw [e]; rcases hk with rfl; simp only [tmD, reduceIte, Nat.reduceEqDiff, Nat.reduceAdd]; exact Nat.le_refl _)
            have em : cuts.map cutC ++ [cutC ⟨rs, 2⟩] = (cuts ++ [(⟨rs, 2⟩ : Cu)]).map cutC := by simp
            rw [em] at hg'
            obtain ⟨hz, _⟩ | ⟨k0, g0, o, hk0, hv, hrest⟩ := hg'
            · simp at hz
            · subst hv
              simp only [tmR, seval, henv, h0, h2, h3, h4, h6, nat_add_one, hw, Box2Z, ho2, BoxG, ho3]
              refine ⟨(hg1'.mono (fun k g hk _ => by simp only [List.mem_cons, List.not_mem_nil, or_false] at hk; rcases hk with rfl; simp only [tmD, reduceIte, Nat.reduceEqDiff, Nat.reduceAdd]) (fun k hk => by simp only [List.mem_cons, List.not_mem_nil, or_false] at hk; rcases hk with rfl; simp only [tmD, reduceIte, Nat.reduceEqDiff, Nat.reduceAdd]; exact Nat.le_refl _)), (hg3'.mono (fun k g hk _ => by simp only [List.mem_cons, List.not_mem_nil, or_false] at hk; rcases hk with rfl; simp only [tmD, reduceIte, Nat.reduceEqDiff, Nat.reduceAdd]) (fun k hk => by simp only [List.mem_cons, List.not_mem_nil, or_false] at hk; rcases hk with rfl; simp only [tmD, reduceIte, Nat.reduceEqDiff, Nat.reduceAdd]; exact Nat.le_refl _)), _, cuts ++ [⟨rs, 2⟩], rfl, GrowsS.mono (st := st') (.inr ⟨k0, g0, o, hk0, rfl, hrest⟩) (fun k g hk _ => by simp only [List.mem_cons, List.not_mem_nil, or_false] at hk; rcases hk with rfl; simp only [tmD, reduceIte, Nat.reduceEqDiff, Nat.reduceAdd]) (fun k hk => by simp only [tmD, reduceIte, Nat.reduceEqDiff, Nat.reduceAdd]; exact Nat.le_refl _), by simp; omega, fun x hx => ?_⟩
              rcases List.mem_append.1 hx with h | h
              · exact hcu x h
              · simp only [List.mem_singleton] at h; subst h; exact hrs
      · simp only [List.mem_cons, List.not_mem_nil, or_false] at hkw
        subst hkw hvw
        have htk : List.take (ints .i64 rs).length (ints .i64 rs) = ints .i64 rs := List.take_length
        by_cases hd : ((atN l (24 + i) % 2 : Nat) : Int) = 1
        · by_cases hd2 : (2 : Int) < ((ints .i64 rs).length : Int)
          · simp only [tmR, seval, h0, h2, h3, h4, h6, h7, b7, hw24, wpcall_eq a24, hrem2, hd, hd2, b3, how, hbw, hew, hcw, htk, apply_unew]
            refine wp_growS [110] 110 (by decide) .full _ _ _ _ _ _ (xs := cuts.map cutC) (zs := [cutC ⟨rs, 3⟩]) ?_ (fun k g => rfl) ?_ (by simp) (by simp; omega) ?_
            · simp only [tmR, seval]
              exact ((hg4.unsol (b := true) (hs := [(91, gw)])).mono (fun k g hk _ => by simp only [List.mem_cons, List.not_mem_nil, or_false] at hk; rcases hk with rfl; simp only [tmD, reduceIte, Nat.reduceEqDiff, Nat.reduceAdd, unsol_objG]) (fun k hk => by simp only [List.mem_cons, List.not_mem_nil, or_false] at hk; rcases hk with rfl; simp only [tmD, reduceIte, Nat.reduceEqDiff, Nat.reduceAdd, unsol_objG]; exact Nat.le_refl _))
            · simp only [tmR, seval, elems]
              rfl
            · intro st' v henv hobj hcnt hg'
              have ho3 := hobj 3 0 (by decide)
              have ho2 := hobj 2 0 (by decide)
              simp only [tmD, reduceIte, Nat.reduceEqDiff, Nat.reduceAdd, unsol_objG, b3, Option.map_some, pr_beq, List.contains_cons, List.contains_nil, Nat.reduceBEq, Bool.false_and, Bool.or_self, Bool.and_false, Bool.false_eq_true] at ho3
              simp only [tmD, reduceIte, Nat.reduceEqDiff, Nat.reduceAdd, unsol_objG, b2, Option.map_some, pr_beq, List.contains_cons, List.contains_nil, Nat.reduceBEq, Bool.false_and, Bool.or_self, Bool.and_false, Bool.false_eq_true] at ho2
              have hg1' : GrowsS st' [29] _ _ _ := (hg1.unsol (b := true) (hs := [(91, gw)])).mono (fun k g hk _ => by
                  have e := hobj k g (by simp only [List.mem_cons, List.not_mem_nil, or_false] at hk ⊢; omega)
                  simp only [List.mem_cons, List.not_mem_nil, or_false] at hk
                  rw [e]; rcases hk with rfl; simp only [tmD, reduceIte, Nat.reduceEqDiff, Nat.reduceAdd, unsol_objG]) (fun k hk => by
                  have e := hcnt k (by simp only [List.mem_cons, List.not_mem_nil, or_false] at hk; omega)
                  simp only [List.mem_cons, List.not_mem_nil, or_false] at hk
                  rw [e]; rcases hk with rfl; simp only [tmD, reduceIte, Nat.reduceEqDiff, Nat.reduceAdd, unsol_objG]; exact Nat.le_refl _)
              have hg3' : GrowsS st' [53] _ _ _ := (hg3.unsol (b := true) (hs := [(91, gw)])).mono (fun k g hk _ => by
                  have e := hobj k g (by simp only [List.mem_cons, List.not_mem_nil, or_false] at hk ⊢; omega)
                  simp only [List.mem_cons, List.not_mem_nil, or_false] at hk
                  rw [e]; rcases hk with rfl; simp only [tmD, reduceIte, Nat.reduceEqDiff, Nat.reduceAdd, unsol_objG]) (fun k hk => by
                  have e := hcnt k (by simp only [List.mem_cons, List.not_mem_nil, or_false] at hk; omega)
                  simp only [List.mem_cons, List.not_mem_nil, or_false] at hk
                  rw [e]; rcases hk with rfl; simp only [tmD, reduceIte, Nat.reduceEqDiff, Nat.reduceAdd, unsol_objG]; exact Nat.le_refl _)
              have em : cuts.map cutC ++ [cutC ⟨rs, 3⟩] = (cuts ++ [(⟨rs, 3⟩ : Cu)]).map cutC := by simp
              rw [em] at hg'
              obtain ⟨hz, _⟩ | ⟨k0, g0, o, hk0, hv, hrest⟩ := hg'
              · simp at hz
              · subst hv
                simp only [tmR, seval, henv, h0, h2, h3, h4, h6, nat_add_one, hw, Box2Z, ho2, BoxG, ho3]
                refine ⟨(hg1'.mono (fun k g hk _ => by simp only [List.mem_cons, List.not_mem_nil, or_false] at hk; rcases hk with rfl; simp only [tmD, reduceIte, Nat.reduceEqDiff, Nat.reduceAdd]) (fun k hk => by simp only [List.mem_cons, List.not_mem_nil, or_false] at hk; rcases hk with rfl; simp only [tmD, reduceIte, Nat.reduceEqDiff, Nat.reduceAdd]; exact Nat.le_refl _)), (hg3'.mono (fun k g hk _ => by simp only [List.mem_cons, List.not_mem_nil, or_false] at hk; rcases hk with rfl; simp only [tmD, reduceIte, Nat.reduceEqDiff, Nat.reduceAdd]) (fun k hk => by simp only [List.mem_cons, List.not_mem_nil, or_false] at hk; rcases hk with rfl; simp only [tmD, reduceIte, Nat.reduceEqDiff, Nat.reduceAdd]; exact Nat.le_refl _)), _, cuts ++ [⟨rs, 3⟩], rfl, GrowsS.mono (st := st') (.inr ⟨k0, g0, o, hk0, rfl, hrest⟩) (fun k g hk _ => by simp only [List.mem_cons, List.not_mem_nil, or_false] at hk; rcases hk with rfl; simp only [tmD, reduceIte, Nat.reduceEqDiff, Nat.reduceAdd]) (fun k hk => by simp only [tmD, reduceIte, Nat.reduceEqDiff, Nat.reduceAdd]; exact Nat.le_refl _), by simp; omega, fun x hx => ?_⟩
                rcases List.mem_append.1 hx with h | h
                · exact hcu x h
                · simp only [List.mem_singleton] at h; subst h; exact hrs
          · simp only [tmR, seval, h0, h2, h3, h4, h6, h7, b7, hw24, wpcall_eq a24, hrem2, hd, hd2, b3, how, hbw, hew, hcw, htk, apply_unew]
            refine wp_growS [110] 110 (by decide) .full _ _ _ _ _ _ (xs := cuts.map cutC) (zs := [cutC ⟨rs, 2⟩]) ?_ (fun k g => rfl) ?_ (by simp) (by simp; omega) ?_
            · simp only [tmR, seval]
              exact ((hg4.unsol (b := true) (hs := [(91, gw)])).mono (fun k g hk _ => by simp only [List.mem_cons, List.not_mem_nil, or_false] at hk; rcases hk with rfl; simp only [tmD, reduceIte, Nat.reduceEqDiff, Nat.reduceAdd, unsol_objG]) (fun k hk => by simp only [List.mem_cons, List.not_mem_nil, or_false] at hk; rcases hk with rfl; simp only [tmD, reduceIte, Nat.reduceEqDiff, Nat.reduceAdd, unsol_objG]; exact Nat.le_refl _))
            · simp only [tmR, seval, elems]
              rfl
            · intro st' v henv hobj hcnt hg'
              have ho3 := hobj 3 0 (by decide)
              have ho2 := hobj 2 0 (by decide)
              simp only [tmD, reduceIte, Nat.reduceEqDiff, Nat.reduceAdd, unsol_objG, b3, Option.map_some, pr_beq, List.contains_cons, List.contains_nil, Nat.reduceBEq, Bool.false_and, Bool.or_self, Bool.and_false, Bool.false_eq_true] at ho3
              simp only [tmD, reduceIte, Nat.reduceEqDiff, Nat.reduceAdd, unsol_objG, b2, Option.map_some, pr_beq, List.contains_cons, List.contains_nil, Nat.reduceBEq, Bool.false_and, Bool.or_self, Bool.and_false, Bool.false_eq_true] at ho2
              have hg1' : GrowsS st' [29] _ _ _ := (hg1.unsol (b := true) (hs := [(91, gw)])).mono (fun k g hk _ => by
                  have e := hobj k g (by simp only [List.mem_cons, List.not_mem_nil, or_false] at hk ⊢; omega)
                  simp only [List.mem_cons, List.not_mem_nil, or_false] at hk
                  rw [e]; rcases hk with rfl; simp only [tmD, reduceIte, Nat.reduceEqDiff, Nat.reduceAdd, unsol_objG]) (fun k hk => by
                  have e := hcnt k (by simp only [List.mem_cons, List.not_mem_nil, or_false] at hk; omega)
                  simp only [List.mem_cons, List.not_mem_nil, or_false] at hk
                  rw [e]; rcases hk with rfl; simp only [tmD, reduceIte, Nat.reduceEqDiff, Nat.reduceAdd, unsol_objG]; exact Nat.le_refl _)
              have hg3' : GrowsS st' [53] _ _ _ := (hg3.unsol (b := true) (hs := [(91, gw)])).mono (fun k g hk _ => by
                  have e := hobj k g (by simp only [List.mem_cons, List.not_mem_nil, or_false] at hk ⊢; omega)
                  simp only [List.mem_cons, List.not_mem_nil, or_false] at hk
                  rw [e]; rcases hk with rfl; simp only [tmD, reduceIte, Nat.reduceEqDiff, Nat.reduceAdd, unsol_objG]) (fun k hk => by
                  have e := hcnt k (by simp only [List.mem_cons, List.not_mem_nil, or_false] at hk; omega)
                  simp only [List.mem_cons, List.not_mem_nil, or_false] at hk
                  rw [e]; rcases hk with rfl; simp only [tmD, reduceIte, Nat.reduceEqDiff, Nat.reduceAdd, unsol_objG]; exact Nat.le_refl _)
              have em : cuts.map cutC ++ [cutC ⟨rs, 2⟩] = (cuts ++ [(⟨rs, 2⟩ : Cu)]).map cutC := by simp
              rw [em] at hg'
              obtain ⟨hz, _⟩ | ⟨k0, g0, o, hk0, hv, hrest⟩ := hg'
              · simp at hz
              · subst hv
                simp only [tmR, seval, henv, h0, h2, h3, h4, h6, nat_add_one, hw, Box2Z, ho2, BoxG, ho3]
                refine ⟨(hg1'.mono (fun k g hk _ => by simp only [List.mem_cons, List.not_mem_nil, or_false] at hk; rcases hk with rfl; simp only [tmD, reduceIte, Nat.reduceEqDiff, Nat.reduceAdd]) (fun k hk => by simp only [List.mem_cons, List.not_mem_nil, or_false] at hk; rcases hk with rfl; simp only [tmD, reduceIte, Nat.reduceEqDiff, Nat.reduceAdd]; exact Nat.le_refl _)), (hg3'.mono (fun k g hk _ => by simp only [List.mem_cons, List.not_mem_nil, or_false] at hk; rcases hk with rfl; simp only [tmD, reduceIte, Nat.reduceEqDiff, Nat.reduceAdd]) (fun k hk => by simp only [List.mem_cons, List.not_mem_nil, or_false] at hk; rcases hk with rfl; simp only [tmD, reduceIte, Nat.reduceEqDiff, Nat.reduceAdd]; exact Nat.le_refl _)), _, cuts ++ [⟨rs, 2⟩], rfl, GrowsS.mono (st := st') (.inr ⟨k0, g0, o, hk0, rfl, hrest⟩) (fun k g hk _ => by simp only [List.mem_cons, List.not_mem_nil, or_false] at hk; rcases hk with rfl; simp only [tmD, reduceIte, Nat.reduceEqDiff, Nat.reduceAdd]) (fun k hk => by simp only [tmD, reduceIte, Nat.reduceEqDiff, Nat.reduceAdd]; exact Nat.le_refl _), by simp; omega, fun x hx => ?_⟩
                rcases List.mem_append.1 hx with h | h
                · exact hcu x h
                · simp only [List.mem_singleton] at h; subst h; exact hrs
        · simp only [tmR, seval, h0, h2, h3, h4, h6, h7, b7, hw24, wpcall_eq a24, hrem2, hd, b3, how, hbw, hew, hcw, htk, apply_unew]
          refine wp_growS [110] 110 (by decide) .full _ _ _ _ _ _ (xs := cuts.map cutC) (zs := [cutC ⟨rs, 2⟩]) ?_ (fun k g => rfl) ?_ (by simp) (by simp; omega) ?_
          · simp only [tmR, seval]
            exact ((hg4.unsol (b := true) (hs := [(91, gw)])).mono (fun k g hk _ => by simp only [List.mem_cons, List.not_mem_nil, or_false] at hk; rcases hk with rfl; simp only [tmD, reduceIte, Nat.reduceEqDiff, Nat.reduceAdd, unsol_objG]) (fun k hk => by simp only [List.mem_cons, List.not_mem_nil, or_false] at hk; rcases hk with rfl; simp only [tmD, reduceIte, Nat.reduceEqDiff, Nat.reduceAdd, unsol_objG]; exact Nat.le_refl _))
          · simp only [tmR, seval, elems]
            rfl
          · intro st' v henv hobj hcnt hg'
            have ho3 := hobj 3 0 (by decide)
            have ho2 := hobj 2 0 (by decide)
            simp only [tmD, reduceIte, Nat.reduceEqDiff, Nat.reduceAdd, unsol_objG, b3, Option.map_some, pr_beq, List.contains_cons, List.contains_nil, Nat.reduceBEq, Bool.false_and, Bool.or_self, Bool.and_false, Bool.false_eq_true] at ho3
            simp only [tmD, reduceIte, Nat.reduceEqDiff, Nat.reduceAdd, unsol_objG, b2, Option.map_some, pr_beq, List.contains_cons, List.contains_nil, Nat.reduceBEq, Bool.false_and, Bool.or_self, Bool.and_false, Bool.false_eq_true] at ho2
            have hg1' : GrowsS st' [29] _ _ _ := (hg1.unsol (b := true) (hs := [(91, gw)])).mono (fun k g hk _ => by
                have e := hobj k g (by simp only [List.mem_cons, List.not_mem_nil, or_false] at hk ⊢; omega)
                simp only [List.mem_cons, List.not_mem_nil, or_false] at hk
                rw [e]; rcases hk with rfl; simp only [tmD, reduceIte, Nat.reduceEqDiff, Nat.reduceAdd, unsol_objG]) (fun k hk => by
                have e := hcnt k (by simp only [List.mem_cons, List.not_mem_nil, or_false] at hk; omega)
                simp only [List.mem_cons, List.not_mem_nil, or_false] at hk
                rw [e]; rcases hk with rfl; simp only [tmD, reduceIte, Nat.reduceEqDiff, Nat.reduceAdd, unsol_objG]; exact Nat.le_refl _)
            have hg3' : GrowsS st' [53] _ _ _ := (hg3.unsol (b := true) (hs := [(91, gw)])).mono (fun k g hk _ => by
                have e := hobj k g (by simp only [List.mem_cons, List.not_mem_nil, or_false] at hk ⊢; omega)
                simp only [List.mem_cons, List.not_mem_nil, or_false] at hk
                rw [e]; rcases hk with rfl; simp only [tmD, reduceIte, Nat.reduceEqDiff, Nat.reduceAdd, unsol_objG]) (fun k hk => by
                have e := hcnt k (by simp only [List.mem_cons, List.not_mem_nil, or_false] at hk; omega)
                simp only [List.mem_cons, List.not_mem_nil, or_false] at hk
                rw [e]; rcases hk with rfl; simp only [tmD, reduceIte, Nat.reduceEqDiff, Nat.reduceAdd, unsol_objG]; exact Nat.le_refl _)
            have em : cuts.map cutC ++ [cutC ⟨rs, 2⟩] = (cuts ++ [(⟨rs, 2⟩ : Cu)]).map cutC := by simp
            rw [em] at hg'
            obtain ⟨hz, _⟩ | ⟨k0, g0, o, hk0, hv, hrest⟩ := hg'
            · simp at hz
            · subst hv
              simp only [tmR, seval, henv, h0, h2, h3, h4, h6, nat_add_one, hw, Box2Z, ho2, BoxG, ho3]
              refine ⟨(hg1'.mono (fun k g hk _ => by simp only [List.mem_cons, List.not_mem_nil, or_false] at hk; rcases hk with rfl; simp only [tmD, reduceIte, Nat.reduceEqDiff, Nat.reduceAdd]) (fun k hk => by simp only [List.mem_cons, List.not_mem_nil, or_false] at hk; rcases hk with rfl; simp only [tmD, reduceIte, Nat.reduceEqDiff, Nat.reduceAdd]; exact Nat.le_refl _)), (hg3'.mono (fun k g hk _ => by simp only [List.mem_cons, List.not_mem_nil, or_false] at hk; rcases hk with rfl; simp only [tmD, reduceIte, Nat.reduceEqDiff, Nat.reduceAdd]) (fun k hk => by simp only [List.mem_cons, List.not_mem_nil, or_false] at hk; rcases hk with rfl; simp only [tmD, reduceIte, Nat.reduceEqDiff, Nat.reduceAdd]; exact Nat.le_refl _)), _, cuts ++ [⟨rs, 2⟩], rfl, GrowsS.mono (st := st') (.inr ⟨k0, g0, o, hk0, rfl, hrest⟩) (fun k g hk _ => by simp only [List.mem_cons, List.not_mem_nil, or_false] at hk; rcases hk with rfl; simp only [tmD, reduceIte, Nat.reduceEqDiff, Nat.reduceAdd]) (fun k hk => by simp only [tmD, reduceIte, Nat.reduceEqDiff, Nat.reduceAdd]; exact Nat.le_refl _), by simp; omega, fun x hx => ?_⟩
              rcases List.mem_append.1 hx with h | h
              · exact hcu x h
              · simp only [List.mem_singleton] at h; subst h; exact hrs
  · rintro s ⟨h0, h2, h3, h4, h6, b2, hg1, hg3, v4, cuts, b3, hg4, hcl, hcu⟩
    simp only [L4_1, tmR, seval, h0, h6, wpcall_eq at3', hrem, Int.lt_irrefl]
    exact hQ _ v4 cuts h2 h3 b2 (hg1.mono (fun k g hk _ => by simp only [List.mem_cons, List.not_mem_nil, or_false] at hk; rcases hk with rfl; simp only [tmD, reduceIte, Nat.reduceEqDiff, Nat.reduceAdd]) (fun k hk => by simp only [List.mem_cons, List.not_mem_nil, or_false] at hk; rcases hk with rfl; simp only [tmD, reduceIte, Nat.reduceEqDiff, Nat.reduceAdd]; exact Nat.le_refl _)) b3 (hg3.mono (fun k g hk _ => by simp only [List.mem_cons, List.not_mem_nil, or_false] at hk; rcases hk with rfl; simp only [tmD, reduceIte, Nat.reduceEqDiff, Nat.reduceAdd]) (fun k hk => by simp only [List.mem_cons, List.not_mem_nil, or_false] at hk; rcases hk with rfl; simp only [tmD, reduceIte, Nat.reduceEqDiff, Nat.reduceAdd]; exact Nat.le_refl _)) (hg4.mono (fun k g hk _ => by simp only [List.mem_cons, List.not_mem_nil, or_false] at hk; rcases hk with rfl; simp only [tmD, reduceIte, Nat.reduceEqDiff, Nat.reduceAdd]) (fun k hk => by simp only [List.mem_cons, List.not_mem_nil, or_false] at hk; rcases hk with rfl; simp only [tmD, reduceIte, Nat.reduceEqDiff, Nat.reduceAdd]; exact Nat.le_refl _)) (by omega) hcu
  · exact ⟨h0, h2, h3, h4, h6, b2, hg1, hg3, .nils, [], b3, .inl ⟨rfl, rfl⟩, by simp, fun c hc => by cases hc⟩
theorem rowTab_get : ∀ r, r < 6 → ([[TV.sl [[TV.int .i64 0], [TV.int .i64 1], [TV.int .i64 2]]], [TV.sl [[TV.int .i64 1], [TV.int .i64 2], [TV.int .i64 4]]], [TV.sl [[TV.int .i64 0], [TV.int .i64 1], [TV.int .i64 2], [TV.int .i64 3]]], [TV.sl [[TV.int .i64 0], [TV.int .i64 2], [TV.int .i64 3], [TV.int .i64 5]]], [TV.sl [[TV.int .i64 0], [TV.int .i64 1], [TV.int .i64 2], [TV.int .i64 3], [TV.int .i64 4]]], [TV.sl [[TV.int .i64 1], [TV.int .i64 2], [TV.int .i64 3], [TV.int .i64 4], [TV.int .i64 5]]]] : Cont)[r]? = some [TV.sl (ints .i64 (rowTab.getD r []))] := by
  intro r h
  match r, h with
  | 0, _ => rfl
  | 1, _ => rfl
  | 2, _ => rfl
  | 3, _ => rfl
  | 4, _ => rfl
  | 5, _ => rfl
theorem small_ops {c : Col} (h : SmallDs 16 c.ds) : (oper c.ds).length < 2147483648 ∧ c.ds.length < 2147483648 ∧ ∀ d ∈ c.ds, d.length < 2147483648 := by
  have h1 := oper_le h
  exact ⟨by omega, by have := h.1; omega, fun d hd => by have := h.2 d hd; omega⟩
theorem mas_fin2 {s : St} {args : List TV} {pen : Int} {v1 v3 v4 : TV} {rows : List Int} {cols : List Col} {cuts : List Cu} (hsm : Mas.Small ⟨6, rows, pen, cols, cuts⟩) (hcl2 : cuts.length ≤ 2) (hcu : ∀ c ∈ cuts, c.rs.length ≤ 5) (ha : hasOwn args = false) (hm : mutsOf s 0 args = some []) (h2 : s.env 2 = .ptr 2 0 0 0)
    (ho : s.obj 2 0 = some { cont := [[.int .i64 6, v1, .int .i64 pen, v3, v4]], esz := 5, box := true, solo := true, tip := false }) (hg1 : GrowsS s [29] 1 v1 (ints .i64 rows)) (hg3 : GrowsS s [53] 3 v3 (cols.map colC)) (hg4 : GrowsS s [110] 2 v4 (cuts.map cutC)) :
    ∃ rv, finishR [.cell 2 5 true] args s = some (rv, []) ∧ ∃ m : Mas, view rv = masT m ∧ m.Small ∧ m.fl = 6 ∧ m.cuts.length ≤ 2 ∧ ∀ c ∈ m.cuts, c.rs.length ≤ 5 := by
  obtain ⟨rv, f1, f2⟩ := mas_fin ha hm h2 ho hg1 hg3 hg4
  exact ⟨rv, f1, _, f2, hsm, rfl, hcl2, hcu⟩
theorem master_c (l : List Int) (hl : l.length < 9223372036854775808) : ∃ m : Mas, m.Small ∧ m.fl = 6 ∧ m.cuts.length ≤ 2 ∧ (∀ c ∈ m.cuts, c.rs.length ≤ 5) ∧ Gives mach 4 [.sl (ints .i64 l)] (masT m) := by
  suffices h : ∃ v, (∃ m : Mas, v = masT m ∧ m.Small ∧ m.fl = 6 ∧ m.cuts.length ≤ 2 ∧ ∀ c ∈ m.cuts, c.rs.length ≤ 5) ∧ Gives mach 4 [.sl (ints .i64 l)] v by
    obtain ⟨_, ⟨m, rfl, h1, h2, h3, h4⟩, h5⟩ := h
    exact ⟨m, h1, h2, h3, h4, h5⟩
  refine givesE tab4 rfl ?_
  have at0 : Gives mach 11 [.sl (ints .i64 l), .int .i64 0] (.int .i64 (atN l 0 : Nat)) := at_c l 0 hl (by omega)
  have at1 : Gives mach 11 [.sl (ints .i64 l), .int .i64 1] (.int .i64 (atN l 1 : Nat)) := at_c l 1 hl (by omega)
  have hr0 : binTV false .rem (.int .i64 (atN l 0 : Nat)) (.int .i64 30) = some (.int .i64 ((atN l 0 % 30 : Nat) : Int)) := by rw [bin_rem _ _ _ _ (by decide)]; exact congrArg _ (congrArg _ (rem_nat _ 30))
  have hr1 : binTV false .rem (.int .i64 (atN l 1 : Nat)) (.int .i64 6) = some (.int .i64 ((atN l 1 % 6 : Nat) : Int)) := by rw [bin_rem _ _ _ _ (by decide)]; exact congrArg _ (congrArg _ (rem_nat _ 6))
  have hlt : atN l 1 % 6 < 6 := Nat.mod_lt _ (by omega)
  have hct := rowTab_get _ hlt
  obtain ⟨hr3, hr5⟩ := rowTab_len hlt
  obtain ⟨rows, hrows⟩ : ∃ rows, rows = rowTab.getD (atN l 1 % 6) [] := ⟨_, rfl⟩
  rw [← hrows] at hct hr3 hr5
  have hne : ints .i64 rows ≠ [] := by intro h; rw [← List.length_eq_zero_iff, ints_len] at h; omega
  simp only [F4, tmR, seval, wp_app, apply_app1, apply_new1, wpcall_eq at0, hr0, apply_unew, wpcall_eq at1, hr1, iaddr_hs hlt, hct, app_nils (elems_sl (uni_ints _ _)) hne (by rw [ints_len]; omega), ints_len, unsol_objG, pr_beq, Bool.false_and, Bool.and_false, Bool.true_and, Bool.or_self]
  refine loopMasCols l rows ((atN l 0 % 30 : Nat) : Int) (.hs 29 0 1 rows.length) hl hr3 hr5 ?_ ?_ ?_ ?_ ?_ ?_ ?_ ?_ (fun s v3 cols h0 h2 h3 h4 b2 hg1 b3 hg3 hcl hcs => ?_)
  · simp only [tmD, reduceIte, Nat.reduceEqDiff, Nat.reduceAdd]
  · simp only [tmD, reduceIte, Nat.reduceEqDiff, Nat.reduceAdd]
  · simp only [tmD, reduceIte, Nat.reduceEqDiff, Nat.reduceAdd]
  · simp only [tmD, reduceIte, Nat.reduceEqDiff, Nat.reduceAdd]
  · simp only [tmD, reduceIte, Nat.reduceEqDiff, Nat.reduceAdd]
  · simp only [Box2Z, tmD, reduceIte, Nat.reduceEqDiff, Nat.reduceAdd, unsol_objG, Option.map_some, pr_beq, List.contains_cons, List.contains_nil, Nat.reduceBEq, Bool.false_and, Bool.or_self, Bool.and_false, Bool.false_eq_true]
  · refine .inr ⟨29, 0, { cont := ints .i64 rows, esz := 1, box := false, solo := true, tip := true }, by decide, by rw [ints_len], ?_, ?_, rfl, rfl, rfl, rfl⟩
    · simp only [tmD, reduceIte, Nat.reduceEqDiff, Nat.reduceAdd]; omega
    · simp only [tmD, reduceIte, Nat.reduceEqDiff, Nat.reduceAdd]
  · simp only [BoxG, tmD, reduceIte, Nat.reduceEqDiff, Nat.reduceAdd, unsol_objG, Option.map_some, pr_beq, List.contains_cons, List.contains_nil, Nat.reduceBEq, Bool.false_and, Bool.or_self, Bool.and_false, Bool.false_eq_true]
  · simp only [tmR, seval]
    refine loopMasCuts l rows ((atN l 0 % 30 : Nat) : Int) (.hs 29 0 1 rows.length) v3 cols hl hr3 hr5 ?_ ?_ ?_ ?_ ?_ ?_ ?_ ?_ ?_ (fun s v4 cuts h2 h3 b2 hg1 b3 hg3 hg4 hcl2 hcu => ?_)
    · simp only [tmD, reduceIte, Nat.reduceEqDiff, Nat.reduceAdd, h0]
    · simp only [tmD, reduceIte, Nat.reduceEqDiff, Nat.reduceAdd, h2]
    · simp only [tmD, reduceIte, Nat.reduceEqDiff, Nat.reduceAdd, h3]
    · simp only [tmD, reduceIte, Nat.reduceEqDiff, Nat.reduceAdd, h4]
    · simp only [tmD, reduceIte, Nat.reduceEqDiff, Nat.reduceAdd]
    · simp only [Box2Z, tmD, reduceIte, Nat.reduceEqDiff, Nat.reduceAdd, b2]
    · exact hg1.mono (fun k g hk _ => by simp only [tmD, reduceIte, Nat.reduceEqDiff, Nat.reduceAdd]) (fun k hk => by simp only [tmD, reduceIte, Nat.reduceEqDiff, Nat.reduceAdd]; exact Nat.le_refl _)
    · simp only [BoxG, tmD, reduceIte, Nat.reduceEqDiff, Nat.reduceAdd, b3]
    · exact hg3.mono (fun k g hk _ => by simp only [tmD, reduceIte, Nat.reduceEqDiff, Nat.reduceAdd]) (fun k hk => by simp only [tmD, reduceIte, Nat.reduceEqDiff, Nat.reduceAdd]; exact Nat.le_refl _)
    · have hsm : Mas.Small ⟨6, rows, ((atN l 0 % 30 : Nat) : Int), cols, cuts⟩ := ⟨by show I64 6; unfold I64; omega, by show rows.length < _; omega, by show cols.length < _; omega, by show cuts.length < _; omega, fun c hc => small_ops (hcs c hc), fun c hc => by have := hcu c hc; omega⟩
      obtain ⟨z3, w3⟩ | ⟨k3, g3, o3, e3, w3, r3⟩ := hg3 <;> obtain ⟨z4, w4⟩ | ⟨k4, g4, o4, e4, w4, r4⟩ := hg4
      · subst w3 w4
        simp only [tmR, seval, h2, h3, b2, b3]
        refine mas_fin2 (v1 := .hs 29 0 1 rows.length) (v3 := .nils) (v4 := .nils) hsm hcl2 hcu rfl rfl ?_ ?_ ?_ ?_ ?_
        · simp only [tmD, reduceIte, Nat.reduceEqDiff, Nat.reduceAdd, h2]
        · simp only [tmD, reduceIte, Nat.reduceEqDiff, Nat.reduceAdd]
        · exact hg1.mono (fun k g hk _ => by simp only [List.mem_cons, List.not_mem_nil, or_false] at hk; rcases hk with rfl; simp only [tmD, reduceIte, Nat.reduceEqDiff, Nat.reduceAdd]) (fun k hk => by simp only [tmD, reduceIte, Nat.reduceEqDiff, Nat.reduceAdd]; exact Nat.le_refl _)
        · exact .inl ⟨z3, rfl⟩
        · exact .inl ⟨z4, rfl⟩
      · subst w3 w4
        simp only [tmR, seval, h2, h3, b2, b3]
        refine mas_fin2 (v1 := .hs 29 0 1 rows.length) (v3 := .nils) (v4 := .hs k4 g4 2 (cuts.map cutC).length) hsm hcl2 hcu rfl rfl ?_ ?_ ?_ ?_ ?_
        · simp only [tmD, reduceIte, Nat.reduceEqDiff, Nat.reduceAdd, h2]
        · simp only [tmD, reduceIte, Nat.reduceEqDiff, Nat.reduceAdd]
        · exact hg1.mono (fun k g hk _ => by simp only [List.mem_cons, List.not_mem_nil, or_false] at hk; rcases hk with rfl; simp only [tmD, reduceIte, Nat.reduceEqDiff, Nat.reduceAdd]) (fun k hk => by simp only [tmD, reduceIte, Nat.reduceEqDiff, Nat.reduceAdd]; exact Nat.le_refl _)
        · exact .inl ⟨z3, rfl⟩
        · exact GrowsS.mono (st := s) (.inr ⟨k4, g4, o4, e4, rfl, r4⟩) (fun k g hk _ => by simp only [List.mem_cons, List.not_mem_nil, or_false] at hk; rcases hk with rfl; simp only [tmD, reduceIte, Nat.reduceEqDiff, Nat.reduceAdd]) (fun k hk => by simp only [tmD, reduceIte, Nat.reduceEqDiff, Nat.reduceAdd]; exact Nat.le_refl _)
      · subst w3 w4
        simp only [tmR, seval, h2, h3, b2, b3]
        refine mas_fin2 (v1 := .hs 29 0 1 rows.length) (v3 := .hs k3 g3 3 (cols.map colC).length) (v4 := .nils) hsm hcl2 hcu rfl rfl ?_ ?_ ?_ ?_ ?_
        · simp only [tmD, reduceIte, Nat.reduceEqDiff, Nat.reduceAdd, h2]
        · simp only [tmD, reduceIte, Nat.reduceEqDiff, Nat.reduceAdd]
        · exact hg1.mono (fun k g hk _ => by simp only [List.mem_cons, List.not_mem_nil, or_false] at hk; rcases hk with rfl; simp only [tmD, reduceIte, Nat.reduceEqDiff, Nat.reduceAdd]) (fun k hk => by simp only [tmD, reduceIte, Nat.reduceEqDiff, Nat.reduceAdd]; exact Nat.le_refl _)
        · exact GrowsS.mono (st := s) (.inr ⟨k3, g3, o3, e3, rfl, r3⟩) (fun k g hk _ => by simp only [List.mem_cons, List.not_mem_nil, or_false] at hk; rcases hk with rfl; simp only [tmD, reduceIte, Nat.reduceEqDiff, Nat.reduceAdd]) (fun k hk => by simp only [tmD, reduceIte, Nat.reduceEqDiff, Nat.reduceAdd]; exact Nat.le_refl _)
        · exact .inl ⟨z4, rfl⟩
      · subst w3 w4
        simp only [tmR, seval, h2, h3, b2, b3]
        refine mas_fin2 (v1 := .hs 29 0 1 rows.length) (v3 := .hs k3 g3 3 (cols.map colC).length) (v4 := .hs k4 g4 2 (cuts.map cutC).length) hsm hcl2 hcu rfl rfl ?_ ?_ ?_ ?_ ?_
        · simp only [tmD, reduceIte, Nat.reduceEqDiff, Nat.reduceAdd, h2]
        · simp only [tmD, reduceIte, Nat.reduceEqDiff, Nat.reduceAdd]
        · exact hg1.mono (fun k g hk _ => by simp only [List.mem_cons, List.not_mem_nil, or_false] at hk; rcases hk with rfl; simp only [tmD, reduceIte, Nat.reduceEqDiff, Nat.reduceAdd]) (fun k hk => by simp only [tmD, reduceIte, Nat.reduceEqDiff, Nat.reduceAdd]; exact Nat.le_refl _)
        · exact GrowsS.mono (st := s) (.inr ⟨k3, g3, o3, e3, rfl, r3⟩) (fun k g hk _ => by simp only [List.mem_cons, List.not_mem_nil, or_false] at hk; rcases hk with rfl; simp only [tmD, reduceIte, Nat.reduceEqDiff, Nat.reduceAdd]) (fun k hk => by simp only [tmD, reduceIte, Nat.reduceEqDiff, Nat.reduceAdd]; exact Nat.le_refl _)
        · exact GrowsS.mono (st := s) (.inr ⟨k4, g4, o4, e4, rfl, r4⟩) (fun k g hk _ => by simp only [List.mem_cons, List.not_mem_nil, or_false] at hk; rcases hk with rfl; simp only [tmD, reduceIte, Nat.reduceEqDiff, Nat.reduceAdd]) (fun k hk => by simp only [tmD, reduceIte, Nat.reduceEqDiff, Nat.reduceAdd]; exact Nat.le_refl _)
end Go.TM.Fn
end
section
namespace Go.TM.Fn
open Go Go.TM Go.Plain
set_option linter.unusedVariables false
set_option linter.unusedSimpArgs false
set_option maxRecDepth 20000
set_option maxHeartbeats 4000000
def rqOf (q : Rat) : RQ := ⟨decide (q.num < 0), toDig q.num.natAbs, decide ((q.den : Int) < 0), toDig (q.den : Int).natAbs⟩
theorem rqOf_ok {k q} (h : Dq k q) : RQ.Ok k (rqOf q) := ⟨dig_toDig _, dig_toDig _, toDig_len_le h.1, toDig_len_le h.2⟩
def RQ.Can (k : Nat) (r : RQ) : Prop := ∃ q, Dq k q ∧ r = rqOf q
theorem RQ.Can.ok {k r} (h : RQ.Can k r) : RQ.Ok k r := by obtain ⟨q, h, rfl⟩ := h; exact rqOf_ok h
abbrev P2 (s : St) (m : Mas) : Prop := s.obj 2 0 = some { cont := [masL m], esz := 5, box := true, solo := true, tip := false }
abbrev P4 (s : St) : Prop := s.obj 4 0 = some { cont := [[.nils, .nils, .nils, .nils, .bool false]], esz := 5, box := true, solo := true, tip := false }
abbrev P5 (s : St) (v0 v1 v2 v3 : TV) : Prop := s.obj 5 0 = some { cont := [[v0, v1, v2, v3, .bool false]], esz := 5, box := true, solo := true, tip := false }
theorem loopPri0 {Q : Ex → St → Prop} {st : St} (m : Mas) (a : List Int) (hm : m.fl = 6) (ha : a.length < 9223372036854775808)
    (h1 : st.env 1 = .sl (ints .i64 a)) (h2 : st.env 2 = .ptr 2 0 0 0) (h4 : st.env 4 = .ptr 4 0 0 0) (h5 : st.env 5 = .ptr 5 0 0 0) (h6 : st.env 6 = .int .i64 0) (b2 : P2 st m) (b4 : P4 st) (b5 : P5 st .nils .nils .nils .nils)
    (hQ : ∀ (s : St) (v : TV) (fls : List RQ), s.env 1 = .sl (ints .i64 a) → s.env 2 = .ptr 2 0 0 0 → s.env 4 = .ptr 4 0 0 0 → s.env 5 = .ptr 5 0 0 0 → P2 s m → P4 s → P5 s v .nils .nils .nils → GrowsS s [26] 4 v (fls.map rqC) → fls.length = 6 → (∀ r ∈ fls, RQ.Can 10 r) → Q (.exit 0) s) :
    Goes mach (.loop L5_0) Q st := by
  have i3 := rint_c (n := 3) (by unfold I64; omega)
  have d3 := dq_int (n := 3) (by unfold I64; omega)
  refine wp_for (fun i s => s.env 1 = .sl (ints .i64 a) ∧ s.env 2 = .ptr 2 0 0 0 ∧ s.env 4 = .ptr 4 0 0 0 ∧ s.env 5 = .ptr 5 0 0 0 ∧ s.env 6 = .int .i64 (i : Nat) ∧ P2 s m ∧ P4 s ∧ ∃ (v : TV) (fls : List RQ), P5 s v .nils .nils .nils ∧ GrowsS s [26] 4 v (fls.map rqC) ∧ fls.length = i ∧ ∀ r ∈ fls, RQ.Can 10 r) 6 ?_ ?_ 6 0 _ (by omega) ?_
  · rintro i s hi ⟨h1, h2, h4, h5, h6, b2, b4, v, fls, b5, hg, hfl, hok⟩
    have hw : IntKind.i64.wrap ((i + 1 : Nat) : Int) = (i + 1 : Nat) := wrap_i64n (by omega)
    have hlt : ((i : Int) < 6) = True := eq_true (by omega)
    have ai := at_c a i ha (by omega)
    have fr := frac_c (atN a i : Nat)
    have mu := rqmul_c (isQ_enc d3) (isQ_enc (fracQ_dq (atN a i : Nat))) (by omega) (by omega) (by omega)
    have dm := dq_mul d3 (fracQ_dq (atN a i : Nat)) (by omega)
    generalize hq : ((3 : Int) : Rat) * fracQ (atN a i : Nat) = q at mu dm
    simp only [L5_0, tmR, seval, h1, h2, h4, h5, h6, b2, hm, hlt, b5, wpcall_eq i3, wpcall_eq ai, wpcall_eq fr, wpcall_eq mu]
    refine wp_growS [26] 26 (by decide) (.fb []) _ _ _ _ _ _ (xs := fls.map rqC) (zs := [rqC (rqOf q)]) ?_ (fun k g => rfl) ?_ (by simp) (by simp; omega) ?_
    · simp only [tmR, seval]
      exact hg.mono (fun k g hk _ => by simp only [List.mem_cons, List.not_mem_nil, or_false] at hk; rcases hk with rfl; simp only [tmD, reduceIte, Nat.reduceEqDiff, Nat.reduceAdd]) (fun k hk => by simp only [List.mem_cons, List.not_mem_nil, or_false] at hk; rcases hk with rfl; simp only [tmD, reduceIte, Nat.reduceEqDiff, Nat.reduceAdd]; exact Nat.le_refl _)
    · simp only [tmR, seval, elems]; rfl
    · intro st' v' henv hobj hcnt hg'
      have ho2 := hobj 2 0 (by decide)
      have ho4 := hobj 4 0 (by decide)
      have ho5 := hobj 5 0 (by decide)
      simp only [tmD, reduceIte, Nat.reduceEqDiff, Nat.reduceAdd, b2] at ho2
      simp only [tmD, reduceIte, Nat.reduceEqDiff, Nat.reduceAdd, b4] at ho4
      simp only [tmD, reduceIte, Nat.reduceEqDiff, Nat.reduceAdd, b5] at ho5
      have em : fls.map rqC ++ [rqC (rqOf q)] = (fls ++ [rqOf q]).map rqC := by simp
      rw [em] at hg'
      have hcl := hg'.cells
      simp only [tmR, seval, henv, h1, h2, h4, h5, h6, ho5, hcl, nat_add_one, hw, P2, ho2, P4, ho4, P5]
      refine ⟨v', fls ++ [rqOf q], rfl, hg'.mono (fun k g hk _ => by simp only [List.mem_cons, List.not_mem_nil, or_false] at hk; rcases hk with rfl; simp only [tmD, reduceIte, Nat.reduceEqDiff, Nat.reduceAdd]) (fun k hk => by simp only [tmD, reduceIte, Nat.reduceEqDiff, Nat.reduceAdd]; exact Nat.le_refl _), by simp [hfl], fun x hx => ?_⟩
      rcases List.mem_append.1 hx with h | h
      · exact hok x h
      · simp only [List.mem_singleton] at h; subst h; exact ⟨_, dm.mono (by omega), rfl⟩
  · rintro s ⟨h1, h2, h4, h5, h6, b2, b4, v, fls, b5, hg, hfl, hok⟩
    have hlt : (((6 : Nat) : Int) < 6) = False := eq_false (by omega)
    simp only [L5_0, tmR, seval, h2, h6, b2, hm, hlt]
    exact hQ _ v fls h1 h2 h4 h5 b2 b4 b5 (hg.mono (fun k g hk _ => by simp only [tmD, reduceIte, Nat.reduceEqDiff, Nat.reduceAdd]) (fun k hk => by simp only [tmD, reduceIte, Nat.reduceEqDiff, Nat.reduceAdd]; exact Nat.le_refl _)) hfl hok
  · exact ⟨h1, h2, h4, h5, h6, b2, b4, .nils, [], b5, .inl ⟨rfl, rfl⟩, rfl, fun r hr => by cases hr⟩
end Go.TM.Fn
end
section
namespace Go.TM.Fn
open Go Go.TM Go.Plain
set_option linter.unusedVariables false
set_option linter.unusedSimpArgs false
set_option maxRecDepth 20000
set_option maxHeartbeats 4000000
def GrowsC (st : St) (d e : Nat) (v : TV) (xs : Cont) : Prop :=
  (xs = [] ∧ v = .nils) ∨ ∃ g, v = .hs d g e xs.length ∧ g < st.cnt d ∧ st.obj d g = some { cont := xs, esz := e, box := false, solo := true, tip := true }
theorem GrowsC.mono {st st' : St} {d e v xs} (h : GrowsC st d e v xs) (ho : ∀ g, g < st.cnt d → st'.obj d g = st.obj d g) (hc : st.cnt d ≤ st'.cnt d) : GrowsC st' d e v xs := by
  rcases h with h | ⟨g, h1, h2, h3⟩
  · exact .inl h
  · exact .inr ⟨g, h1, Nat.lt_of_lt_of_le h2 hc, by rw [ho g h2]; exact h3⟩
theorem GrowsC.cells {st d e v xs} (h : GrowsC st d e v xs) : v.cells = [v] := by
  rcases h with ⟨rfl, rfl⟩ | ⟨g, rfl, _⟩ <;> rfl
theorem wp_growC {M : Mach} (d : Nat) (vk : Vk) (r : List TStep) (Q : St → Prop) (st : St) (e s x) {xs zs} (hs : GrowsC st d e (Go.TM.val st.env s) xs) (hv : ∀ k g, restrict st.obj vk k g = st.obj k g) (hx : Go.TM.elems (restrict st.obj vk) e (Go.TM.val st.env x) = some zs) (hz : zs ≠ []) (hl : xs.length + zs.length < 2147483648)
    (hQ : ∀ st' v, (∀ i, st'.env i = if i = d then v else st.env i) → (∀ k g, k ≠ d → st'.obj k g = st.obj k g) → (∀ k, k ≠ d → st'.cnt k = st.cnt k) → GrowsC st' d e v (xs ++ zs) → Wp M r Q st') :
    Wp M (⟨some d, .app e true s x, none, vk⟩ :: r) Q st := by
  rw [wp_app]
  rcases hs with ⟨rfl, hs⟩ | ⟨g, hs, hg, ho⟩
  · rw [hs, app_nils hx hz (by simpa using hl), wpeff_some, apply_new1]
    refine hQ _ (.hs d (st.cnt d) e zs.length) (fun i => rfl) (fun k g hk => ?_) (fun k hk => ?_) (.inr ⟨st.cnt d, rfl, ?_, ?_⟩)
    · simp only [bump_obj, putO_obj]; rw [if_neg (by rintro ⟨rfl, _⟩; exact hk rfl)]
    · simp only [bump_cnt, putO_cnt]; rw [if_neg hk]
    · simp only [bump_cnt]; simp
    · simp only [bump_obj, putO_obj]; simp
  · rw [hs]
    have ho' : restrict st.obj vk d g = some { cont := xs, esz := e, box := false, solo := true, tip := true } := by rw [hv]; exact ho
    rw [app_hs hx ho' rfl rfl rfl rfl rfl hl, wpeff_some, apply_app1]
    refine hQ _ (.hs d (st.cnt d) e (xs.length + zs.length)) (fun i => rfl) (fun k g' hk => ?_) (fun k hk => ?_) (.inr ⟨st.cnt d, by rw [List.length_append], ?_, ?_⟩)
    · simp only [bump_obj, putO_obj, setO_obj]; rw [if_neg (by rintro ⟨rfl, _⟩; exact hk rfl), if_neg (by rintro ⟨rfl, _⟩; exact hk rfl)]
    · simp only [bump_cnt, putO_cnt, setO_cnt]; rw [if_neg hk]
    · simp only [bump_cnt, setO_cnt]; simp
    · simp only [bump_obj, putO_obj]; simp
theorem loopPri1 {Q : Ex → St → Prop} {st : St} (m : Mas) (a : List Int) (hcu : m.cuts.length ≤ 2) (ha : a.length < 9223372036854775808) (fls : List RQ) (v : TV)
    (h1 : st.env 1 = .sl (ints .i64 a)) (h2 : st.env 2 = .ptr 2 0 0 0) (h4 : st.env 4 = .ptr 4 0 0 0) (h5 : st.env 5 = .ptr 5 0 0 0) (h7 : st.env 7 = .int .i64 0) (b2 : P2 st m) (b4 : P4 st) (b5 : P5 st v (.sl (m.cuts.map cutC)) .nils .nils) (hg0 : GrowsS st [26] 4 v (fls.map rqC))
    (hQ : ∀ (s : St) (w : TV) (duals : List RQ), s.env 1 = .sl (ints .i64 a) → s.env 4 = .ptr 4 0 0 0 → s.env 5 = .ptr 5 0 0 0 → P4 s → P5 s v (.sl (m.cuts.map cutC)) w .nils → GrowsS s [26] 4 v (fls.map rqC) → GrowsC s 52 4 w (duals.map rqC) → duals.length = m.cuts.length → (∀ r ∈ duals, RQ.Can 10 r) → Q (.exit 2) s) :
    Goes mach (.loop L5_1) Q st := by
  have l1 : (m.cuts.map cutC).length = m.cuts.length := map_len _
  refine wp_for (fun i s => s.env 1 = .sl (ints .i64 a) ∧ s.env 2 = .ptr 2 0 0 0 ∧ s.env 4 = .ptr 4 0 0 0 ∧ s.env 5 = .ptr 5 0 0 0 ∧ s.env 7 = .int .i64 (i : Nat) ∧ P2 s m ∧ P4 s ∧ GrowsS s [26] 4 v (fls.map rqC) ∧ ∃ (w : TV) (duals : List RQ), P5 s v (.sl (m.cuts.map cutC)) w .nils ∧ GrowsC s 52 4 w (duals.map rqC) ∧ duals.length = i ∧ ∀ r ∈ duals, RQ.Can 10 r) m.cuts.length ?_ ?_ m.cuts.length 0 _ (by omega) ?_
  · rintro i s hi ⟨h1, h2, h4, h5, h7, b2, b4, hg0, w, duals, b5, hg, hfl, hok⟩
    have hw : IntKind.i64.wrap ((i + 1 : Nat) : Int) = (i + 1 : Nat) := wrap_i64n (by omega)
    have hw10 : IntKind.i64.wrap (10 + (i : Int)) = ((10 + i : Nat) : Int) := by rw [wrap_i64 (by omega) (by omega)]; omega
    have ai := at_c a (10 + i) ha (by omega)
    have fr := frac_c (atN a (10 + i) : Nat)
    have df := fracQ_dq (atN a (10 + i) : Nat)
    generalize fracQ (atN a (10 + i) : Nat) = q at fr df
    have sg := rqsign_c (isQ_enc df) (by omega) (by omega)
    have ng := rqneg_c (isQ_enc df) (by omega) (by omega)
    by_cases hp : 0 < sgq q
    · simp only [L5_1, tmR, seval, h1, h2, h4, h5, h7, b2, l1, nat_lt, hi, hw10, wpcall_eq ai, wpcall_eq fr, wpcall_eq sg, hp, wpcall_eq ng, b5]
      refine wp_growC 52 .full _ _ _ _ _ _ (xs := duals.map rqC) (zs := [rqC (rqOf (-q))]) ?_ (fun k g => rfl) ?_ (by simp) (by simp; omega) ?_
      · simp only [tmR, seval]
        exact hg.mono (fun g _ => by simp only [tmD, reduceIte, Nat.reduceEqDiff, Nat.reduceAdd]) (by simp only [tmD, reduceIte, Nat.reduceEqDiff, Nat.reduceAdd]; exact Nat.le_refl _)
      · simp only [tmR, seval, elems]; rfl
      · intro st' v' henv hobj hcnt hg'
        have ho2 := hobj 2 0 (by decide)
        have ho4 := hobj 4 0 (by decide)
        have ho5 := hobj 5 0 (by decide)
        simp only [tmD, reduceIte, Nat.reduceEqDiff, Nat.reduceAdd, b2] at ho2
        simp only [tmD, reduceIte, Nat.reduceEqDiff, Nat.reduceAdd, b4] at ho4
        simp only [tmD, reduceIte, Nat.reduceEqDiff, Nat.reduceAdd, b5] at ho5
        have em : duals.map rqC ++ [rqC (rqOf (-q))] = (duals ++ [rqOf (-q)]).map rqC := by simp
        rw [em] at hg'
        have hcl := hg'.cells
        have hg0' : GrowsS st' [26] 4 v (fls.map rqC) := hg0.mono (fun k g hk _ => by
          have e := hobj k g (by simp only [List.mem_cons, List.not_mem_nil, or_false] at hk; omega)
          simp only [List.mem_cons, List.not_mem_nil, or_false] at hk
          rw [e]; rcases hk with rfl; simp only [tmD, reduceIte, Nat.reduceEqDiff, Nat.reduceAdd]) (fun k hk => by
          have e := hcnt k (by simp only [List.mem_cons, List.not_mem_nil, or_false] at hk; omega)
          simp only [List.mem_cons, List.not_mem_nil, or_false] at hk
          rw [e]; rcases hk with rfl; simp only [tmD, reduceIte, Nat.reduceEqDiff, Nat.reduceAdd]; exact Nat.le_refl _)
        simp only [tmR, seval, henv, h1, h2, h4, h5, h7, ho5, hcl, nat_add_one, hw, P2, ho2, P4, ho4, P5]
        refine ⟨hg0'.mono (fun k g hk _ => by simp only [List.mem_cons, List.not_mem_nil, or_false] at hk; rcases hk with rfl; simp only [tmD, reduceIte, Nat.reduceEqDiff, Nat.reduceAdd]) (fun k hk => by simp only [tmD, reduceIte, Nat.reduceEqDiff, Nat.reduceAdd]; exact Nat.le_refl _), v', duals ++ [rqOf (-q)], rfl, hg'.mono (fun g _ => by simp only [tmD, reduceIte, Nat.reduceEqDiff, Nat.reduceAdd]) (by simp only [tmD, reduceIte, Nat.reduceEqDiff, Nat.reduceAdd]; exact Nat.le_refl _), by simp [hfl], fun x hx => ?_⟩
        rcases List.mem_append.1 hx with h | h
        · exact hok x h
        · simp only [List.mem_singleton] at h; subst h; exact ⟨_, df.neg.mono (by omega), rfl⟩
    · simp only [L5_1, tmR, seval, h1, h2, h4, h5, h7, b2, l1, nat_lt, hi, hw10, wpcall_eq ai, wpcall_eq fr, wpcall_eq sg, hp, b5]
      refine wp_growC 52 .full _ _ _ _ _ _ (xs := duals.map rqC) (zs := [rqC (rqOf (q))]) ?_ (fun k g => rfl) ?_ (by simp) (by simp; omega) ?_
      · simp only [tmR, seval]
        exact hg.mono (fun g _ => by simp only [tmD, reduceIte, Nat.reduceEqDiff, Nat.reduceAdd]) (by simp only [tmD, reduceIte, Nat.reduceEqDiff, Nat.reduceAdd]; exact Nat.le_refl _)
      · simp only [tmR, seval, elems]; rfl
      · intro st' v' henv hobj hcnt hg'
        have ho2 := hobj 2 0 (by decide)
        have ho4 := hobj 4 0 (by decide)
        have ho5 := hobj 5 0 (by decide)
        simp only [tmD, reduceIte, Nat.reduceEqDiff, Nat.reduceAdd, b2] at ho2
        simp only [tmD, reduceIte, Nat.reduceEqDiff, Nat.reduceAdd, b4] at ho4
        simp only [tmD, reduceIte, Nat.reduceEqDiff, Nat.reduceAdd, b5] at ho5
        have em : duals.map rqC ++ [rqC (rqOf (q))] = (duals ++ [rqOf (q)]).map rqC := by simp
        rw [em] at hg'
        have hcl := hg'.cells
        have hg0' : GrowsS st' [26] 4 v (fls.map rqC) := hg0.mono (fun k g hk _ => by
          have e := hobj k g (by simp only [List.mem_cons, List.not_mem_nil, or_false] at hk; omega)
          simp only [List.mem_cons, List.not_mem_nil, or_false] at hk
          rw [e]; rcases hk with rfl; simp only [tmD, reduceIte, Nat.reduceEqDiff, Nat.reduceAdd]) (fun k hk => by
          have e := hcnt k (by simp only [List.mem_cons, List.not_mem_nil, or_false] at hk; omega)
          simp only [List.mem_cons, List.not_mem_nil, or_false] at hk
          rw [e]; rcases hk with rfl; simp only [tmD, reduceIte, Nat.reduceEqDiff, Nat.reduceAdd]; exact Nat.le_refl _)
        simp only [tmR, seval, henv, h1, h2, h4, h5, h7, ho5, hcl, nat_add_one, hw, P2, ho2, P4, ho4, P5]
        refine ⟨hg0'.mono (fun k g hk _ => by simp only [List.mem_cons, List.not_mem_nil, or_false] at hk; rcases hk with rfl; simp only [tmD, reduceIte, Nat.reduceEqDiff, Nat.reduceAdd]) (fun k hk => by simp only [tmD, reduceIte, Nat.reduceEqDiff, Nat.reduceAdd]; exact Nat.le_refl _), v', duals ++ [rqOf (q)], rfl, hg'.mono (fun g _ => by simp only [tmD, reduceIte, Nat.reduceEqDiff, Nat.reduceAdd]) (by simp only [tmD, reduceIte, Nat.reduceEqDiff, Nat.reduceAdd]; exact Nat.le_refl _), by simp [hfl], fun x hx => ?_⟩
        rcases List.mem_append.1 hx with h | h
        · exact hok x h
        · simp only [List.mem_singleton] at h; subst h; exact ⟨_, df.mono (by omega), rfl⟩
  · rintro s ⟨h1, h2, h4, h5, h7, b2, b4, hg0, w, duals, b5, hg, hfl, hok⟩
    simp only [L5_1, tmR, seval, h2, h7, b2, l1, Int.lt_irrefl]
    exact hQ _ w duals h1 h4 h5 b4 b5 (hg0.mono (fun k g hk _ => by simp only [tmD, reduceIte, Nat.reduceEqDiff, Nat.reduceAdd]) (fun k hk => by simp only [tmD, reduceIte, Nat.reduceEqDiff, Nat.reduceAdd]; exact Nat.le_refl _)) (hg.mono (fun g _ => by simp only [tmD, reduceIte, Nat.reduceEqDiff, Nat.reduceAdd]) (by simp only [tmD, reduceIte, Nat.reduceEqDiff, Nat.reduceAdd]; exact Nat.le_refl _)) hfl hok
  · exact ⟨h1, h2, h4, h5, h7, b2, b4, hg0, .nils, [], b5, .inl ⟨rfl, rfl⟩, rfl, fun r hr => by cases hr⟩
theorem loopPri2 {Q : Ex → St → Prop} {st : St} (m : Mas) (a : List Int) (ha : a.length < 9223372036854775808) (fls duals : List RQ) (v w : TV)
    (h1 : st.env 1 = .sl (ints .i64 a)) (h4 : st.env 4 = .ptr 4 0 0 0) (h5 : st.env 5 = .ptr 5 0 0 0) (h9 : st.env 9 = .int .i64 0) (b4 : P4 st) (b5 : P5 st v (.sl (m.cuts.map cutC)) w .nils) (hg0 : GrowsS st [26] 4 v (fls.map rqC)) (hg1 : GrowsC st 52 4 w (duals.map rqC))
    (hQ : ∀ (s : St) (u : TV) (decs : List Dec), s.env 4 = .ptr 4 0 0 0 → s.env 5 = .ptr 5 0 0 0 → P4 s → P5 s v (.sl (m.cuts.map cutC)) w u → GrowsS s [26] 4 v (fls.map rqC) → GrowsC s 52 4 w (duals.map rqC) → GrowsS s [84] 3 u (decs.map decC) → decs.length ≤ 2 → Q (.exit 4) s) :
    Goes mach (.loop L5_2) Q st := by
  have at20 : Gives mach 11 [.sl (ints .i64 a), .int .i64 20] (.int .i64 (atN a 20 : Nat)) := at_c a 20 ha (by omega)
  have hrem : binTV false .rem (.int .i64 (atN a 20 : Nat)) (.int .i64 3) = some (.int .i64 ((atN a 20 % 3 : Nat) : Int)) := by rw [bin_rem _ _ _ _ (by decide)]; exact congrArg _ (congrArg _ (rem_nat _ 3))
  have hlt3 : atN a 20 % 3 < 3 := Nat.mod_lt _ (by omega)
  have rem6 : ∀ n : Nat, binTV false .rem (.int .i64 (n : Nat)) (.int .i64 6) = some (.int .i64 ((n % 6 : Nat) : Int)) := fun n => by rw [bin_rem _ _ _ _ (by decide)]; exact congrArg _ (congrArg _ (rem_nat _ 6))
  refine wp_for (fun i s => s.env 1 = .sl (ints .i64 a) ∧ s.env 4 = .ptr 4 0 0 0 ∧ s.env 5 = .ptr 5 0 0 0 ∧ s.env 9 = .int .i64 (i : Nat) ∧ P4 s ∧ GrowsS s [26] 4 v (fls.map rqC) ∧ GrowsC s 52 4 w (duals.map rqC) ∧ ∃ (u : TV) (decs : List Dec), P5 s v (.sl (m.cuts.map cutC)) w u ∧ GrowsS s [84] 3 u (decs.map decC) ∧ decs.length ≤ i) (atN a 20 % 3) ?_ ?_ (atN a 20 % 3) 0 _ (by omega) ?_
  · rintro i s hi ⟨h1, h4, h5, h9, b4, hg0, hg1, u, decs, b5, hg, hfl⟩
    have hw : IntKind.i64.wrap ((i + 1 : Nat) : Int) = (i + 1 : Nat) := wrap_i64n (by omega)
    have hw21 : IntKind.i64.wrap (21 + (i : Int)) = ((21 + i : Nat) : Int) := by rw [wrap_i64 (by omega) (by omega)]; omega
    have ai := at_c a (21 + i) ha (by omega)
    obtain ⟨n3, _, hs3⟩ := shr_nat false .u64 (atN a (21 + i)) 3 (by decide)
    obtain ⟨n6, _, hs6⟩ := shr_nat false .u64 (atN a (21 + i)) 6 (by decide)
    by_cases he : (((atN a (21 + i) % 6 : Nat) : Int) = ((n3 % 6 : Nat) : Int))
    · simp only [L5_2, tmR, seval, h1, h4, h5, h9, wpcall_eq at20, hrem, nat_lt, hi, hw21, wpcall_eq ai, rem6, hs3, he, nat_add_one, hw, P4, b4, P5, b5]
      exact ⟨hg0.mono (fun k g hk _ => by simp only [tmD, reduceIte, Nat.reduceEqDiff, Nat.reduceAdd]) (fun k hk => by simp only [tmD, reduceIte, Nat.reduceEqDiff, Nat.reduceAdd]; exact Nat.le_refl _), hg1.mono (fun g _ => by simp only [tmD, reduceIte, Nat.reduceEqDiff, Nat.reduceAdd]) (by simp only [tmD, reduceIte, Nat.reduceEqDiff, Nat.reduceAdd]; exact Nat.le_refl _), u, decs, rfl, hg.mono (fun k g hk _ => by simp only [tmD, reduceIte, Nat.reduceEqDiff, Nat.reduceAdd]) (fun k hk => by simp only [tmD, reduceIte, Nat.reduceEqDiff, Nat.reduceAdd]; exact Nat.le_refl _), by omega⟩
    · simp only [L5_2, tmR, seval, h1, h4, h5, h9, wpcall_eq at20, hrem, nat_lt, hi, hw21, wpcall_eq ai, rem6, hs3, he, b5, hs6, and1]
      refine wp_growS [84] 84 (by decide) .full _ _ _ _ _ _ (xs := decs.map decC) (zs := [decC ⟨((atN a (21 + i) % 6 : Nat) : Int), ((n3 % 6 : Nat) : Int), decide ((andm (n6 : Nat) 1 : Int) = 1)⟩]) ?_ (fun k g => rfl) ?_ (by simp) (by simp; omega) ?_
      · simp only [tmR, seval]
        exact hg.mono (fun k g hk _ => by simp only [List.mem_cons, List.not_mem_nil, or_false] at hk; rcases hk with rfl; simp only [tmD, reduceIte, Nat.reduceEqDiff, Nat.reduceAdd]) (fun k hk => by simp only [List.mem_cons, List.not_mem_nil, or_false] at hk; rcases hk with rfl; simp only [tmD, reduceIte, Nat.reduceEqDiff, Nat.reduceAdd]; exact Nat.le_refl _)
      · simp only [tmR, seval, elems]; rfl
      · intro st' v' henv hobj hcnt hg'
        have ho4 := hobj 4 0 (by decide)
        have ho5 := hobj 5 0 (by decide)
        simp only [tmD, reduceIte, Nat.reduceEqDiff, Nat.reduceAdd, b4] at ho4
        simp only [tmD, reduceIte, Nat.reduceEqDiff, Nat.reduceAdd, b5] at ho5
        have em : decs.map decC ++ [decC ⟨((atN a (21 + i) % 6 : Nat) : Int), ((n3 % 6 : Nat) : Int), decide ((andm (n6 : Nat) 1 : Int) = 1)⟩] = (decs ++ [(⟨((atN a (21 + i) % 6 : Nat) : Int), ((n3 % 6 : Nat) : Int), decide ((andm (n6 : Nat) 1 : Int) = 1)⟩ : Dec)]).map decC := by simp
        rw [em] at hg'
        have hcl := hg'.cells
        have hg0' : GrowsS st' [26] 4 v (fls.map rqC) := hg0.mono (fun k g hk _ => by
          have e := hobj k g (by simp only [List.mem_cons, List.not_mem_nil, or_false] at hk ⊢; omega)
          simp only [List.mem_cons, List.not_mem_nil, or_false] at hk
          rw [e]; rcases hk with rfl; simp only [tmD, reduceIte, Nat.reduceEqDiff, Nat.reduceAdd]) (fun k hk => by
          have e := hcnt k (by simp only [List.mem_cons, List.not_mem_nil, or_false] at hk; omega)
          simp only [List.mem_cons, List.not_mem_nil, or_false] at hk
          rw [e]; rcases hk with rfl; simp only [tmD, reduceIte, Nat.reduceEqDiff, Nat.reduceAdd]; exact Nat.le_refl _)
        have hg1' : GrowsC st' 52 4 w (duals.map rqC) := hg1.mono (fun g _ => by
          have e := hobj 52 g (by decide)
          rw [e]; simp only [tmD, reduceIte, Nat.reduceEqDiff, Nat.reduceAdd]) (by rw [hcnt 52 (by decide)]; simp only [tmD, reduceIte, Nat.reduceEqDiff, Nat.reduceAdd]; exact Nat.le_refl _)
        simp only [tmR, seval, henv, h1, h4, h5, h9, ho5, hcl, nat_add_one, hw, P4, ho4, P5]
        refine ⟨hg0'.mono (fun k g hk _ => by simp only [List.mem_cons, List.not_mem_nil, or_false] at hk; rcases hk with rfl; simp only [tmD, reduceIte, Nat.reduceEqDiff, Nat.reduceAdd]) (fun k hk => by simp only [tmD, reduceIte, Nat.reduceEqDiff, Nat.reduceAdd]; exact Nat.le_refl _), hg1'.mono (fun g _ => by simp only [tmD, reduceIte, Nat.reduceEqDiff, Nat.reduceAdd]) (by simp only [tmD, reduceIte, Nat.reduceEqDiff, Nat.reduceAdd]; exact Nat.le_refl _), v', _, rfl, hg'.mono (fun k g hk _ => by simp only [List.mem_cons, List.not_mem_nil, or_false] at hk; rcases hk with rfl; simp only [tmD, reduceIte, Nat.reduceEqDiff, Nat.reduceAdd]) (fun k hk => by simp only [tmD, reduceIte, Nat.reduceEqDiff, Nat.reduceAdd]; exact Nat.le_refl _), by simp; omega⟩
  · rintro s ⟨h1, h4, h5, h9, b4, hg0, hg1, u, decs, b5, hg, hfl⟩
    simp only [L5_2, tmR, seval, h1, h9, wpcall_eq at20, hrem, Int.lt_irrefl]
    exact hQ _ u decs h4 h5 b4 b5 (hg0.mono (fun k g hk _ => by simp only [tmD, reduceIte, Nat.reduceEqDiff, Nat.reduceAdd]) (fun k hk => by simp only [tmD, reduceIte, Nat.reduceEqDiff, Nat.reduceAdd]; exact Nat.le_refl _)) (hg1.mono (fun g _ => by simp only [tmD, reduceIte, Nat.reduceEqDiff, Nat.reduceAdd]) (by simp only [tmD, reduceIte, Nat.reduceEqDiff, Nat.reduceAdd]; exact Nat.le_refl _)) (hg.mono (fun k g hk _ => by simp only [tmD, reduceIte, Nat.reduceEqDiff, Nat.reduceAdd]) (fun k hk => by simp only [tmD, reduceIte, Nat.reduceEqDiff, Nat.reduceAdd]; exact Nat.le_refl _)) (by omega)
  · exact ⟨h1, h4, h5, h9, b4, hg0, hg1, .nils, [], b5, .inl ⟨rfl, rfl⟩, by simp⟩
end Go.TM.Fn
end
section
namespace Go.TM.Fn
open Go Go.TM Go.Plain
set_option linter.unusedVariables false
set_option linter.unusedSimpArgs false
set_option maxRecDepth 20000
set_option maxHeartbeats 4000000
def RetP (res : List TRes) (args : List TV) (P : TV → Prop) (e : Ex) (s : St) : Prop := match e with
  | .exit _ => False
  | _ => ∃ rv, finishR res args s = some (rv, []) ∧ P rv
theorem retP_ret (F args P s) : RetP F args P .ret s = ∃ rv, finishR F args s = some (rv, []) ∧ P rv := rfl
theorem retP_norm (F args P s) : RetP F args P .norm s = ∃ rv, finishR F args s = some (rv, []) ∧ P rv := rfl
theorem givesP {M : Mach} {f : Nat} {F : TFunc} {args : List TV} {P : TV → Prop} (h : M.tab f = some F) (hn : F.np = args.length) (hp : Goes M F.body (RetP F.res args P) (initSt args)) : ∃ rv, P rv ∧ call M f args = some (rv, []) := by
  obtain ⟨e, s, h1, h2⟩ := hp
  cases e with
  | exit i => cases h2
  | norm => obtain ⟨rv, h3, h4⟩ := h2; exact ⟨_, h4, by rw [call_eq h args hn, h1]; exact h3⟩
  | ret => obtain ⟨rv, h3, h4⟩ := h2; exact ⟨_, h4, by rw [call_eq h args hn, h1]; exact h3⟩
def Ret1 (e : Nat) (xs : Cont) (u : TV) : Prop := (xs = [] ∧ u = .nils) ∨ u = .sl xs ∨ u = .own e xs
def Ret2 (e : Nat) (xs : Cont) (u : TV) : Prop := (xs = [] ∧ u = .nils) ∨ u = .own e xs
theorem out1_ret {st S e v xs} (h : GrowsS st S e v xs) : ∃ u, out1 st.obj v = some u ∧ Ret1 e xs u := by
  rcases h with ⟨rfl, rfl⟩ | ⟨k, g, o, hk, rfl, _, hob, hc, hb, he, ht⟩
  · exact ⟨.nils, rfl, .inl ⟨rfl, rfl⟩⟩
  · cases hs : o.solo
    · exact ⟨.sl xs, by simp [out1, hob, hb, he, hc, hs], .inr (.inl rfl)⟩
    · exact ⟨.own e xs, by simp [out1, hob, hb, he, hc, hs, ht], .inr (.inr rfl)⟩
theorem out1_retC {st d e v xs} (h : GrowsC st d e v xs) : ∃ u, out1 st.obj v = some u ∧ Ret2 e xs u := by
  rcases h with ⟨rfl, rfl⟩ | ⟨g, rfl, _, hob⟩
  · exact ⟨.nils, rfl, .inl ⟨rfl, rfl⟩⟩
  · exact ⟨.own e xs, by simp [out1, hob], .inr rfl⟩
theorem hand1_growsC {st d e v xs} (h : GrowsC st d e v xs) : hand1 v = [] ∨ ∃ g, hand1 v = [(d, g)] := by
  rcases h with ⟨rfl, rfl⟩ | ⟨g, rfl, _⟩
  · exact .inl rfl
  · exact .inr ⟨g, rfl⟩
def PriBack (cuts : List Cu) (n : Nat) (rv : TV) : Prop := ∃ (F D E : TV) (fls duals : List RQ) (decs : List Dec), rv = .agg [F, .sl (cuts.map cutC), D, E, .bool false] ∧
  Ret1 4 (fls.map rqC) F ∧ Ret2 4 (duals.map rqC) D ∧ Ret1 3 (decs.map decC) E ∧ fls.length = 6 ∧ duals.length = n ∧ decs.length ≤ 2 ∧ (∀ r ∈ fls, RQ.Can 10 r) ∧ ∀ r ∈ duals, RQ.Can 10 r
theorem pri_fin {s : St} {args : List TV} {v w u : TV} {fls duals : List RQ} {cuts : List Cu} {decs : List Dec} {n : Nat} (ha : hasOwn args = false) (hm : mutsOf s 0 args = some []) (h4 : s.env 4 = .ptr 4 0 0 0)
    (ho : s.obj 4 0 = some { cont := [[v, .sl (cuts.map cutC), w, u, .bool false]], esz := 5, box := true, solo := true, tip := false }) (hg0 : GrowsS s [26] 4 v (fls.map rqC)) (hg1 : GrowsC s 52 4 w (duals.map rqC)) (hg2 : GrowsS s [84] 3 u (decs.map decC))
    (hf : fls.length = 6) (hd : duals.length = n) (he : decs.length ≤ 2) (hfo : ∀ r ∈ fls, RQ.Can 10 r) (hdo : ∀ r ∈ duals, RQ.Can 10 r) :
    ∃ rv, finishR [.cell 4 5 true] args s = some (rv, []) ∧ PriBack cuts n rv := by
  obtain ⟨u1, e1, w1⟩ := out1_ret hg0
  obtain ⟨u3, e3, w3⟩ := out1_retC hg1
  obtain ⟨u4, e4, w4⟩ := out1_ret hg2
  have c6 : out1 s.obj (.sl (cuts.map cutC)) = some (.sl (cuts.map cutC)) := rfl
  have cp : out1 s.obj (.bool false) = some (.bool false) := rfl
  have hon : once (hands (.agg [v, .sl (cuts.map cutC), w, u, .bool false])) = true := by
    have i6 : hand1 (.sl (cuts.map cutC)) = [] := rfl
    have ip : hand1 (.bool false) = [] := rfl
    simp only [hands, TV.cells, List.flatMap_cons, List.flatMap_nil, i6, ip]
    rcases hand1_grows hg0 with h1 | ⟨k1, g1, hk1, h1⟩ <;> rcases hand1_growsC hg1 with h3 | ⟨g3, h3⟩ <;> rcases hand1_grows hg2 with h4 | ⟨k4, g4, hk4, h4⟩ <;>
      simp_all [once]
  refine ⟨.agg [u1, .sl (cuts.map cutC), u3, u4, .bool false], ?_, u1, u3, u4, fls, duals, decs, rfl, w1, w3, w4, hf, hd, he, hfo, hdo⟩
  simp [finishR, resVals, resVal, hm, ha, h4, ho, pull, hon, out, outs, e1, e3, e4, c6, cp]
theorem prices_o (m : Mas) (a : List Int) (hm : m.fl = 6) (hcu : m.cuts.length ≤ 2) (ha : a.length < 9223372036854775808) : ∃ rv, PriBack m.cuts m.cuts.length rv ∧ call mach 5 [masT m, .sl (ints .i64 a)] = some (rv, []) := by
  refine givesP tab5 rfl ?_
  simp only [F5, tmR, seval]
  refine loopPri0 m a hm ha ?_ ?_ ?_ ?_ ?_ ?_ ?_ ?_ (fun s v fls h1 h2 h4 h5 b2 b4 b5 hg hfl hok => ?_)
  · simp only [tmD, reduceIte, Nat.reduceEqDiff, Nat.reduceAdd]
  · simp only [tmD, reduceIte, Nat.reduceEqDiff, Nat.reduceAdd]
  · simp only [tmD, reduceIte, Nat.reduceEqDiff, Nat.reduceAdd]
  · simp only [tmD, reduceIte, Nat.reduceEqDiff, Nat.reduceAdd]
  · simp only [tmD, reduceIte, Nat.reduceEqDiff, Nat.reduceAdd]
  · simp only [P2, tmD, reduceIte, Nat.reduceEqDiff, Nat.reduceAdd]
  · simp only [P4, tmD, reduceIte, Nat.reduceEqDiff, Nat.reduceAdd]
  · simp only [P5, tmD, reduceIte, Nat.reduceEqDiff, Nat.reduceAdd]
  · simp only [tmR, seval, h1, h2, h4, h5, b2, b5]
    refine loopPri1 m a hcu ha fls v ?_ ?_ ?_ ?_ ?_ ?_ ?_ ?_ ?_ (fun s w duals h1 h4 h5 b4 b5 hg0 hg1 hdl hdk => ?_)
    · simp only [tmD, reduceIte, Nat.reduceEqDiff, Nat.reduceAdd, h1]
    · simp only [tmD, reduceIte, Nat.reduceEqDiff, Nat.reduceAdd, h2]
    · simp only [tmD, reduceIte, Nat.reduceEqDiff, Nat.reduceAdd, h4]
    · simp only [tmD, reduceIte, Nat.reduceEqDiff, Nat.reduceAdd, h5]
    · simp only [tmD, reduceIte, Nat.reduceEqDiff, Nat.reduceAdd]
    · simp only [P2, tmD, reduceIte, Nat.reduceEqDiff, Nat.reduceAdd, b2]
    · simp only [P4, tmD, reduceIte, Nat.reduceEqDiff, Nat.reduceAdd, b4]
    · simp only [P5, tmD, reduceIte, Nat.reduceEqDiff, Nat.reduceAdd]
    · exact hg.mono (fun k g hk _ => by simp only [List.mem_cons, List.not_mem_nil, or_false] at hk; rcases hk with rfl; simp only [tmD, reduceIte, Nat.reduceEqDiff, Nat.reduceAdd]) (fun k hk => by simp only [tmD, reduceIte, Nat.reduceEqDiff, Nat.reduceAdd]; exact Nat.le_refl _)
    · simp only [tmR, seval]
      refine loopPri2 m a ha fls duals v w ?_ ?_ ?_ ?_ ?_ ?_ ?_ ?_ (fun s u decs h4 h5 b4 b5 hg0 hg1 hg2 hdc => ?_)
      · simp only [tmD, reduceIte, Nat.reduceEqDiff, Nat.reduceAdd, h1]
      · simp only [tmD, reduceIte, Nat.reduceEqDiff, Nat.reduceAdd, h4]
      · simp only [tmD, reduceIte, Nat.reduceEqDiff, Nat.reduceAdd, h5]
      · simp only [tmD, reduceIte, Nat.reduceEqDiff, Nat.reduceAdd]
      · simp only [P4, tmD, reduceIte, Nat.reduceEqDiff, Nat.reduceAdd, b4]
      · simp only [P5, tmD, reduceIte, Nat.reduceEqDiff, Nat.reduceAdd, b5]
      · exact hg0.mono (fun k g hk _ => by simp only [List.mem_cons, List.not_mem_nil, or_false] at hk; rcases hk with rfl; simp only [tmD, reduceIte, Nat.reduceEqDiff, Nat.reduceAdd]) (fun k hk => by simp only [tmD, reduceIte, Nat.reduceEqDiff, Nat.reduceAdd]; exact Nat.le_refl _)
      · exact hg1.mono (fun g _ => by simp only [tmD, reduceIte, Nat.reduceEqDiff, Nat.reduceAdd]) (by simp only [tmD, reduceIte, Nat.reduceEqDiff, Nat.reduceAdd]; exact Nat.le_refl _)
      · simp only [tmR, seval, h4, h5, b4, b5, retP_ret]
        refine pri_fin (v := v) (w := w) (u := u) rfl rfl ?_ ?_ ?_ ?_ ?_ hfl hdl hdc hok hdk
        · simp only [tmD, reduceIte, Nat.reduceEqDiff, Nat.reduceAdd, h4]
        · simp only [tmD, reduceIte, Nat.reduceEqDiff, Nat.reduceAdd]
        · exact hg0.mono (fun k g hk _ => by simp only [List.mem_cons, List.not_mem_nil, or_false] at hk; rcases hk with rfl; simp only [tmD, reduceIte, Nat.reduceEqDiff, Nat.reduceAdd]) (fun k hk => by simp only [tmD, reduceIte, Nat.reduceEqDiff, Nat.reduceAdd]; exact Nat.le_refl _)
        · exact hg1.mono (fun g _ => by simp only [tmD, reduceIte, Nat.reduceEqDiff, Nat.reduceAdd]) (by simp only [tmD, reduceIte, Nat.reduceEqDiff, Nat.reduceAdd]; exact Nat.le_refl _)
        · exact hg2.mono (fun k g hk _ => by simp only [List.mem_cons, List.not_mem_nil, or_false] at hk; rcases hk with rfl; simp only [tmD, reduceIte, Nat.reduceEqDiff, Nat.reduceAdd]) (fun k hk => by simp only [tmD, reduceIte, Nat.reduceEqDiff, Nat.reduceAdd]; exact Nat.le_refl _)
end Go.TM.Fn
end
section
namespace Go.TM
section
variable {ob : Nat → Nat → Option Obj} {d c e : Nat} {zs : Cont}
theorem app_hsF {x : TV} {k g n : Nat} {o : Obj} (h : elems ob e x = some zs) (ho : ob k g = some o) (hb : o.box = false) (he : o.esz = e) (ht : o.tip = true) (hn : n = o.cont.length) (hl : n + zs.length < 2147483648) :
    appE d c ob e false (.hs k g e n) x = some { v := .hs d c e (n + zs.length), new := [{ cont := o.cont ++ zs, esz := e, box := false, solo := false, tip := true }], mods := [(k, g, some { o with solo := false, tip := false })] } := by
  simp only [appE, h, ho]
  subst hn he
  rw [if_pos (by simp [hb, ht, hl])]
  simp
end
theorem apply_appF (d k g : Nat) (v : TV) (o o2 : Obj) (st : St) : apply (some d) { v := v, new := [o], mods := [(k, g, some o2)] } st = bump (putO (setO st k g (some o2)) d v d (st.cnt d) (some o)) d (st.cnt d + 1) := rfl
end Go.TM
namespace Go.TM.Fn
open Go Go.TM Go.Plain
set_option linter.unusedVariables false
set_option linter.unusedSimpArgs false
set_option maxRecDepth 20000
set_option maxHeartbeats 4000000
theorem rqOf_val (q : Rat) : (rqOf q).val = q := by
  unfold RQ.val rqOf
  simp only [ival_enc]
  exact Rat.num_divInt_den q
theorem RQ.Can.eq {k r} (h : RQ.Can k r) : rqOf r.val = r := by obtain ⟨q, _, rfl⟩ := h; rw [rqOf_val]
abbrev C1 (s : St) (x : Pri) : Prop := s.obj 1 0 = some { cont := [priL x], esz := 5, box := true, solo := true, tip := false }
abbrev C2 (s : St) : Prop := s.obj 2 0 = some { cont := [[.nils, .nils, .nils, .nils, .bool false]], esz := 5, box := true, solo := true, tip := false }
abbrev C3 (s : St) (f c d e : TV) (b : Bool) : Prop := s.obj 3 0 = some { cont := [[f, c, d, e, .bool b]], esz := 5, box := true, solo := true, tip := false }
def Stab (S : List Nat) (I : St → Prop) : Prop := ∀ s s' : St, (∀ k g, k ∈ S → s'.obj k g = s.obj k g) → (∀ k, k ∈ S → s.cnt k ≤ s'.cnt k) → I s → I s'
end Go.TM.Fn
end
section
namespace Go.TM.Fn
open Go Go.TM Go.Plain
set_option linter.unusedVariables false
set_option linter.unusedSimpArgs false
set_option maxRecDepth 20000
set_option maxHeartbeats 4000000
theorem loopCop2 {Q : Ex → St → Prop} {st : St} (x : Pri) (I : St → Prop) (hI : Stab [13, 30, 46] I) (hl : x.cuts.length < 2147483648) (hx : ∀ c ∈ x.cuts, c.rs.length < 2147483648) {f d e : TV} {b : Bool}
    (h2 : st.env 2 = .ptr 2 0 0 0) (h3 : st.env 3 = .ptr 3 0 0 0) (h50 : st.env 50 = .sl (x.cuts.map cutC)) (h51 : st.env 51 = .int .i64 (x.cuts.length : Nat)) (h52 : st.env 52 = .int .i64 0)
    (b2 : C2 st) (b3 : C3 st f .nils d e b) (hi0 : I st)
    (hQ : ∀ (s : St) (v : TV), s.env 2 = .ptr 2 0 0 0 → s.env 3 = .ptr 3 0 0 0 → C2 s → C3 s f v d e b → GrowsS s [66] 2 v (x.cuts.map cutC) → I s → Q (.exit 4) s) :
    Goes mach (.loop L21_2) Q st := by
  have ml : (x.cuts.map cutC).length = x.cuts.length := map_len _
  refine wp_for (fun i s => s.env 2 = .ptr 2 0 0 0 ∧ s.env 3 = .ptr 3 0 0 0 ∧ s.env 50 = .sl (x.cuts.map cutC) ∧ s.env 51 = .int .i64 (x.cuts.length : Nat) ∧ s.env 52 = .int .i64 (i : Nat) ∧ C2 s ∧ I s ∧ ∃ v, C3 s f v d e b ∧ GrowsS s [66] 2 v ((x.cuts.take i).map cutC)) x.cuts.length ?_ ?_ x.cuts.length 0 _ (by omega) ?_
  · rintro i s hi ⟨h2, h3, h50, h51, h52, b2, hIs, v, b3, hg⟩
    have hw : IntKind.i64.wrap ((i + 1 : Nat) : Int) = (i + 1 : Nat) := wrap_i64n (by omega)
    have ia := iaddr_map (C := cutC) (kk := .i64) default (e := 2) (fun _ => rfl) hi
    have hr := hx _ (getD_mem default hi)
    have tk : (x.cuts.take i).map cutC ++ [cutC (x.cuts.getD i default)] = (x.cuts.take (i + 1)).map cutC := by
      rw [gtake_succ default hi]; simp
    have tl : (x.cuts.take i).length ≤ i := by rw [List.length_take]; omega
    generalize x.cuts.getD i default = r at *
    simp only [cutC] at ia
    have ap : ∀ {ob : Nat → Nat → Option Obj} {d c k g : Nat}, ob k g = some { cont := [], esz := 1, box := false, solo := true, tip := true } → appE d c ob 1 false (.hs k g 1 0) (.sl (ints .i64 r.rs)) = some { v := .hs d c 1 (0 + (ints .i64 r.rs).length), new := [{ cont := [] ++ ints .i64 r.rs, esz := 1, box := false, solo := false, tip := true }], mods := [(k, g, some { cont := [], esz := 1, box := false, solo := false, tip := false })] } :=
      fun ho => app_hsF (elems_sl (uni_ints _ _)) ho rfl rfl rfl rfl (by rw [ints_len]; omega)
    have tt : List.take r.rs.length (ints .i64 r.rs) = ints .i64 r.rs := List.take_of_length_le (by rw [ints_len]; omega)
    simp only [L21_2, tmR, seval, h2, h3, h50, h51, h52, nat_lt, hi, ia, b3]
    rw [wp_app]
    simp only [tmR, seval, h2, h3, h50, h51, h52, b3, ap, apply_appF, ints_len, tt, apply_unew]
    refine wp_growS [66] 66 (by decide) (.fb []) _ _ _ _ _ _ (xs := (x.cuts.take i).map cutC) (zs := [cutC r]) ?_ (fun k g => rfl) ?_ (by simp) (by simp; omega) ?_
    · simp only [tmR, seval]
      exact hg.mono (fun k g hk _ => by simp only [List.mem_cons, List.not_mem_nil, or_false] at hk; rcases hk with rfl; simp only [tmD, reduceIte, Nat.reduceEqDiff, Nat.reduceAdd, unsol_obj1]) (fun k hk => by simp only [List.mem_cons, List.not_mem_nil, or_false] at hk; rcases hk with rfl; simp only [tmD, reduceIte, Nat.reduceEqDiff, Nat.reduceAdd]; exact Nat.le_refl _)
    · simp only [tmR, seval, elems]; rfl
    · intro st' v' henv hobj hcnt hg'
      have ho2 := hobj 2 0 (by decide)
      have ho3 := hobj 3 0 (by decide)
      simp only [tmD, reduceIte, Nat.reduceEqDiff, Nat.reduceAdd, unsol_obj1, b2] at ho2
      simp only [tmD, reduceIte, Nat.reduceEqDiff, Nat.reduceAdd, unsol_obj1, b3] at ho3
      have ob13 := fun g => hobj 13 g (by decide)
      have cn13 := hcnt 13 (by decide)
      have ob30 := fun g => hobj 30 g (by decide)
      have cn30 := hcnt 30 (by decide)
      have ob46 := fun g => hobj 46 g (by decide)
      have cn46 := hcnt 46 (by decide)
      simp only [tmD, reduceIte, Nat.reduceEqDiff, Nat.reduceAdd, unsol_obj1] at ob13 cn13 ob30 cn30 ob46 cn46
      rw [tk] at hg'
      have hcl := hg'.cells
      simp only [tmR, seval, henv, h2, h3, h50, h51, h52, ho3, hcl, nat_add_one, hw, C2, ho2, C3]
      refine ⟨hI s _ (fun k g hk => ?_) (fun k hk => ?_) hIs, v', rfl, hg'.mono (fun k g hk _ => by simp only [List.mem_cons, List.not_mem_nil, or_false] at hk; rcases hk with rfl; simp only [tmD, reduceIte, Nat.reduceEqDiff, Nat.reduceAdd]) (fun k hk => by simp only [tmD, reduceIte, Nat.reduceEqDiff, Nat.reduceAdd]; exact Nat.le_refl _)⟩
      · simp only [List.mem_cons, List.not_mem_nil, or_false] at hk; rcases hk with rfl | rfl | rfl <;> simp only [tmD, reduceIte, Nat.reduceEqDiff, Nat.reduceAdd, ob13, ob30, ob46]
      · simp only [List.mem_cons, List.not_mem_nil, or_false] at hk; rcases hk with rfl | rfl | rfl <;> simp only [tmD, reduceIte, Nat.reduceEqDiff, Nat.reduceAdd, cn13, cn30, cn46] <;> exact Nat.le_refl _
  · rintro s ⟨h2, h3, h50, h51, h52, b2, hIs, v, b3, hg⟩
    rw [List.take_length] at hg
    simp only [L21_2, tmR, seval, h51, h52, Int.lt_irrefl]
    exact hQ _ v h2 h3 b2 b3 (hg.mono (fun k g hk _ => by simp only [tmD, reduceIte, Nat.reduceEqDiff, Nat.reduceAdd]) (fun k hk => by simp only [tmD, reduceIte, Nat.reduceEqDiff, Nat.reduceAdd]; exact Nat.le_refl _)) (hI s _ (fun k g hk => by simp only [tmD, reduceIte, Nat.reduceEqDiff, Nat.reduceAdd]) (fun k hk => by simp only [tmD, reduceIte, Nat.reduceEqDiff, Nat.reduceAdd]; exact Nat.le_refl _) hIs)
  · exact ⟨h2, h3, h50, h51, h52, b2, hi0, .nils, b3, .inl ⟨rfl, rfl⟩⟩
theorem view1_ret1 {e xs u} (h : Ret1 e xs u) : view1 u = .sl xs := by
  rcases h with ⟨rfl, rfl⟩ | rfl | rfl <;> rfl
theorem cop_fin {s : St} {args : List TV} {F C D E : TV} (x : Pri) (ha : hasOwn args = false) (hm : mutsOf s 0 args = some []) (h2 : s.env 2 = .ptr 2 0 0 0)
    (ho : s.obj 2 0 = some { cont := [[F, C, D, E, .bool x.free]], esz := 5, box := true, solo := true, tip := false }) (hF : GrowsS s [30] 4 F (x.fls.map rqC)) (hC : GrowsS s [66] 2 C (x.cuts.map cutC)) (hD : GrowsS s [46] 4 D (x.duals.map rqC)) (hE : GrowsS s [13] 3 E (x.decs.map decC)) :
    ∃ rv, finishR [.cell 2 5 true] args s = some (rv, []) ∧ view rv = priT x := by
  obtain ⟨u1, e1, w1⟩ := out1_ret hF
  obtain ⟨u2, e2, w2⟩ := out1_ret hC
  obtain ⟨u3, e3, w3⟩ := out1_ret hD
  obtain ⟨u4, e4, w4⟩ := out1_ret hE
  have cp : out1 s.obj (.bool x.free) = some (.bool x.free) := rfl
  have hon : once (hands (.agg [F, C, D, E, .bool x.free])) = true := by
    have ip : hand1 (.bool x.free) = [] := rfl
    simp only [hands, TV.cells, List.flatMap_cons, List.flatMap_nil, ip]
    rcases hand1_grows hF with q1 | ⟨k1, g1, hk1, q1⟩ <;> rcases hand1_grows hC with q2 | ⟨k2, g2, hk2, q2⟩ <;> rcases hand1_grows hD with q3 | ⟨k3, g3, hk3, q3⟩ <;> rcases hand1_grows hE with q4 | ⟨k4, g4, hk4, q4⟩ <;>
      simp_all [once]
  refine ⟨.agg [u1, u2, u3, u4, .bool x.free], ?_, ?_⟩
  · simp [finishR, resVals, resVal, hm, ha, h2, ho, pull, hon, out, outs, e1, e2, e3, e4, cp]
  · simp only [view, viewA, List.map_cons, List.map_nil, view1_ret1 w1, view1_ret1 w2, view1_ret1 w3, view1_ret1 w4]; rfl
structure Pri.Can (x : Pri) : Prop where
  fls : x.fls.length < 1000000
  cuts : x.cuts.length < 1000000
  duals : x.duals.length < 1000000
  decs : x.decs.length < 1000000
  rs : ∀ c ∈ x.cuts, c.rs.length < 1000000
  fc : ∀ r ∈ x.fls, RQ.Can 1000 r
  dc : ∀ r ∈ x.duals, RQ.Can 1000 r
end Go.TM.Fn
end
section
namespace Go.TM.Fn
open Go Go.TM Go.Plain
set_option linter.unusedVariables false
set_option linter.unusedSimpArgs false
set_option maxRecDepth 20000
set_option maxHeartbeats 4000000
theorem view1_ret2 {e xs u} (h : Ret2 e xs u) : view1 u = .sl xs := by
  rcases h with ⟨rfl, rfl⟩ | rfl <;> rfl
theorem prices_c (m : Mas) (a : List Int) (hm : m.fl = 6) (hcu : m.cuts.length ≤ 2) (hrs : ∀ c ∈ m.cuts, c.rs.length ≤ 5) (ha : a.length < 9223372036854775808) :
    ∃ x : Pri, x.Can ∧ x.cuts = m.cuts ∧ x.fls.length = 6 ∧ x.duals.length = m.cuts.length ∧ x.decs.length ≤ 2 ∧ x.free = false ∧ Gives mach 5 [masT m, .sl (ints .i64 a)] (priT x) := by
  obtain ⟨rv, ⟨F, D, E, fls, duals, decs, rfl, q1, q2, q3, l1, l2, l3, f1, f2⟩, h⟩ := prices_o m a hm hcu ha
  refine ⟨⟨fls, m.cuts, duals, decs, false⟩, ⟨by show fls.length < _; omega, by show m.cuts.length < _; omega, by show duals.length < _; omega, by show decs.length < _; omega, fun c hc => by have := hrs c hc; omega, fun r hr => ?_, fun r hr => ?_⟩, rfl, l1, l2, l3, rfl, _, h, ?_⟩
  · obtain ⟨q, d, e⟩ := f1 r hr; exact ⟨q, d.mono (by omega), e⟩
  · obtain ⟨q, d, e⟩ := f2 r hr; exact ⟨q, d.mono (by omega), e⟩
  · simp only [view, viewA, List.map_cons, List.map_nil, view1_ret1 q1, view1_ret2 q2, view1_ret1 q3]; rfl
end Go.TM.Fn
end
section
namespace Go.TM.Fn
open Go Go.TM Go.Plain
set_option linter.unusedVariables false
set_option linter.unusedSimpArgs false
set_option maxRecDepth 20000
set_option maxHeartbeats 4000000
instance : DecidableEq Dec := fun a b =>
  if h : a.first = b.first ∧ a.next = b.next ∧ a.tog = b.tog then isTrue (by cases a; cases b; simp_all) else isFalse (by rintro rfl; simp at h)
theorem eq_of_getE {α : Type} (dflt : α) {us vs : List α} (hl : us.length = vs.length) (h : ∀ m, m < us.length → us.getD m dflt = vs.getD m dflt) : us = vs := by
  apply List.ext_getElem hl
  intro i h1 h2
  have := h i h1
  simpa [List.getD_eq_getElem?_getD, List.getElem?_eq_getElem h1, List.getElem?_eq_getElem h2] using this
theorem eqs_dec (d e : Dec) : eqsTV true [0, 0, 1] (.agg [.int .i64 d.first, .int .i64 d.next, .bool d.tog]) (.agg [.int .i64 e.first, .int .i64 e.next, .bool e.tog]) = some (.bool (decide (¬ d = e))) := by
  by_cases h : d = e
  · subst h; simp [eqsTV, eqK]
  · have : ¬ (d.first = e.first ∧ d.next = e.next ∧ d.tog = e.tog) := by
      rintro ⟨h1, h2, h3⟩; apply h; cases d; cases e; simp_all
    simp only [eqsTV, eqK, if_true, Option.map_some, Bool.and_true]
    simp [h]
    rw [Classical.not_and_iff_not_or_not, Classical.not_and_iff_not_or_not] at this; exact this
theorem sameDecs_g (xs ys : List Dec) (hl : xs.length < 2147483648) (hl2 : ys.length < 2147483648) : Gives mach 25 [.sl (xs.map decC), .sl (ys.map decC)] (.bool (decide (xs = ys))) := by
  refine gives tab25 rfl ?_
  have ml : (xs.map decC).length = xs.length := map_len _
  have ml2 : (ys.map decC).length = ys.length := map_len _
  by_cases hlen : xs.length = ys.length
  · have c1 : ((xs.length : Int) = (ys.length : Int)) = True := eq_true (by omega)
    simp only [F25, tmR, seval, ml, ml2, c1]
    refine wp_for (fun i s => s.env 0 = .sl (xs.map decC) ∧ s.env 1 = .sl (ys.map decC) ∧ s.env 5 = .int .i64 (i : Nat) ∧ ∀ j, j < i → xs.getD j default = ys.getD j default) xs.length ?_ ?_ xs.length 0 _ (by omega) ?_
    · rintro i s hi ⟨h0, h1, h5, hall⟩
      have hi2 : i < ys.length := by omega
      have hw : IntKind.i64.wrap ((i + 1 : Nat) : Int) = (i + 1 : Nat) := wrap_i64n (by omega)
      have ia := iaddr_map (C := decC) (kk := .i64) default (e := 3) (fun _ => rfl) hi
      have ib := iaddr_map (C := decC) (kk := .i64) default (e := 3) (fun _ => rfl) hi2
      simp only [decC] at ia ib
      by_cases hd : xs.getD i default = ys.getD i default
      · simp only [L25_0, tmR, seval, h0, h1, h5, ml, ml2, nat_lt, hi, ia, ib, wp_eqs, eqs_dec, hd, nat_add_one, hw]
        intro j hj
        by_cases hji : j = i
        · subst hji; exact hd
        · exact hall j (by omega)
      · have hno : (xs = ys) = False := eq_false (fun h => hd (by rw [h]))
        simp only [L25_0, tmR, seval, h0, h1, h5, ml, ml2, nat_lt, hi, ia, ib, wp_eqs, eqs_dec, hd, hno, tmF]
    · rintro s ⟨h0, h1, h5, hall⟩
      have hyes : (xs = ys) = True := eq_true (eq_of_getE default hlen hall)
      simp only [L25_0, tmR, seval, h0, h1, h5, ml, ml2, Int.lt_irrefl, hyes, tmF]
    · simp only [tmD, reduceIte, Nat.reduceEqDiff, Nat.reduceAdd]
      exact ⟨rfl, fun j hj => by omega⟩
  · have c1 : ((xs.length : Int) = (ys.length : Int)) = False := eq_false (by omega)
    have hno : (xs = ys) = False := eq_false (fun h => hlen (by rw [h]))
    simp only [F25, tmR, seval, ml, ml2, c1, hno, tmF]
theorem lsameInts_c (xs : List Int) (hl : xs.length < 2147483648) : Gives mach 41 [.sl (ints .i64 xs), .sl (ints .i64 xs)] (.bool true) := by
  refine gives tab41 rfl ?_
  simp only [F41, tmR, seval, ints_len, eq_self]
  refine wp_for (fun i s => s.env 0 = .sl (ints .i64 xs) ∧ s.env 1 = .sl (ints .i64 xs) ∧ s.env 12 = .int .i64 (xs.length : Nat) ∧ s.env 13 = .int .i64 (i : Nat)) xs.length ?_ ?_ xs.length 0 _ (by omega) ?_
  · rintro i s hi ⟨h0, h1, h12, h13⟩
    have hw : IntKind.i64.wrap ((i + 1 : Nat) : Int) = (i + 1 : Nat) := wrap_i64n (by omega)
    simp only [L41_0, tmR, seval, h0, h1, h12, h13, ints_len, nat_lt, hi, iaddr_ints hi, nat_add_one, hw]
  · rintro s ⟨h0, h1, h12, h13⟩
    simp only [L41_0, tmR, seval, h0, h1, h12, h13, ints_len, Int.lt_irrefl, tmF]
  · simp only [tmD, reduceIte, Nat.reduceEqDiff, Nat.reduceAdd]
    rfl
abbrev A2 (s : St) (x : Pri) : Prop := s.obj 2 0 = some { cont := [priL x], esz := 5, box := true, solo := true, tip := false }
abbrev A3 (s : St) (x : Pri) : Prop := s.obj 3 0 = some { cont := [priL x], esz := 5, box := true, solo := true, tip := false }
theorem alike_c (x y : Pri) (hc : x.cuts = y.cuts) (hx : x.Can) (hy : y.Can) : Gives mach 19 [priT x, priT y] (.bool (decide (x.decs = y.decs) && (x.free == y.free))) := by
  obtain ⟨yf, yc, yd, ye, yfr⟩ := y
  simp only at hc
  subst hc
  have l2 : (x.cuts.map cutC).length = x.cuts.length := map_len _
  have l4 : (x.decs.map decC).length = x.decs.length := map_len _
  have l5 : (ye.map decC).length = ye.length := map_len _
  have k2 := hx.cuts
  have k4 := hx.decs
  have k5 : ye.length < 1000000 := hy.decs
  refine gives tab19 rfl ?_
  by_cases hlen : x.decs.length = ye.length
  · have c1 : ((x.decs.length : Int) = (ye.length : Int)) = True := eq_true (by omega)
    by_cases hf : x.free = yfr
    · have hfb : (x.free == yfr) = true := by rw [hf]; simp
      simp only [F19, tmR, seval, l2, l4, l5, c1, hfb, eq_self, Bool.not_true, Bool.not_false, Bool.and_true]
      refine wp_for (fun i s => s.env 2 = .ptr 2 0 0 0 ∧ s.env 3 = .ptr 3 0 0 0 ∧ A2 s x ∧ A3 s ⟨yf, x.cuts, yd, ye, yfr⟩ ∧ s.env 32 = .int .i64 (x.cuts.length : Nat) ∧ s.env 33 = .int .i64 (i : Nat)) x.cuts.length ?_ ?_ x.cuts.length 0 _ (by omega) ?_
      · rintro i s hi ⟨h2, h3, b2, b3, h32, h33⟩
        have hw : IntKind.i64.wrap ((i + 1 : Nat) : Int) = (i + 1 : Nat) := wrap_i64n (by omega)
        have ia := iaddr_map (C := cutC) (kk := .i64) default (e := 2) (fun _ => rfl) hi
        simp only [cutC] at ia
        have si := lsameInts_c (x.cuts.getD i default).rs (by have := hx.rs _ (getD_mem default hi); omega)
        simp only [L19_0, tmR, seval, h2, h3, b2, b3, h32, h33, nat_lt, hi, ia, wpcall_eq si, Bool.not_true, Bool.not_false, nat_add_one, hw, A2, A3]
      · rintro s ⟨h2, h3, b2, b3, h32, h33⟩
        simp only [L19_0, tmR, seval, h2, h3, b2, b3, h32, h33, Int.lt_irrefl, l4]
        refine wp_for (fun i s => s.env 2 = .ptr 2 0 0 0 ∧ s.env 3 = .ptr 3 0 0 0 ∧ A2 s x ∧ A3 s ⟨yf, x.cuts, yd, ye, yfr⟩ ∧ s.env 68 = .int .i64 (x.decs.length : Nat) ∧ s.env 69 = .int .i64 (i : Nat) ∧ ∀ j, j < i → x.decs.getD j default = ye.getD j default) x.decs.length ?_ ?_ x.decs.length 0 _ (by omega) ?_
        · rintro i s hi ⟨h2, h3, b2, b3, h68, h69, hall⟩
          have hi2 : i < ye.length := by omega
          have hw : IntKind.i64.wrap ((i + 1 : Nat) : Int) = (i + 1 : Nat) := wrap_i64n (by omega)
          have ia := iaddr_map (C := decC) (kk := .i64) default (e := 3) (fun _ => rfl) hi
          have ib := iaddr_map (C := decC) (kk := .i64) default (e := 3) (fun _ => rfl) hi2
          simp only [decC] at ia ib
          by_cases hd : x.decs.getD i default = ye.getD i default
          · simp only [L19_1, tmR, seval, h2, h3, b2, b3, h68, h69, nat_lt, hi, ia, ib, wp_eqs, eqs_dec, hd, nat_add_one, hw, A2, A3]
            intro j hj
            by_cases hji : j = i
            · subst hji; exact hd
            · exact hall j (by omega)
          · have hno : (x.decs = ye) = False := eq_false (fun h => hd (by rw [h]))
            simp only [L19_1, tmR, seval, h2, h3, b2, b3, h68, h69, nat_lt, hi, ia, ib, wp_eqs, eqs_dec, hd, hno, tmF]
        · rintro s ⟨h2, h3, b2, b3, h68, h69, hall⟩
          have hyes : (x.decs = ye) = True := eq_true (eq_of_getE default hlen hall)
          simp only [L19_1, tmR, seval, h2, h3, b2, b3, h68, h69, Int.lt_irrefl, hyes, tmF]
        · simp only [tmD, reduceIte, Nat.reduceEqDiff, Nat.reduceAdd, A2, A3, h2, h3, b2, b3]
          exact ⟨rfl, fun j hj => by omega⟩
      · simp only [tmD, reduceIte, Nat.reduceEqDiff, Nat.reduceAdd, A2, A3]
        rfl
    · have hfb : (x.free == yfr) = false := by simpa using hf
      simp only [F19, tmR, seval, l2, l4, l5, c1, hfb, eq_self, Bool.not_true, Bool.not_false, Bool.and_false, tmF]
  · have c1 : ((x.decs.length : Int) = (ye.length : Int)) = False := eq_false (by omega)
    have hno : (x.decs = ye) = False := eq_false (fun h => hlen (by rw [h]))
    simp only [F19, tmR, seval, l2, l4, l5, c1, hno, eq_self, Bool.not_true, Bool.not_false, Bool.false_and, tmF]
end Go.TM.Fn
end
section
namespace Go.TM.Fn
open Go Go.TM Go.Plain
set_option linter.unusedVariables false
set_option linter.unusedSimpArgs false
set_option maxRecDepth 20000
set_option maxHeartbeats 4000000
theorem loopCopA0 {Q : Ex → St → Prop} {st : St} (x : Pri) (I : St → Prop) (hI : Stab [13] I) (hl : x.fls.length < 2147483648) (hx : ∀ r ∈ x.fls, RQ.Can 1000 r) {c d e : TV} {b : Bool}
    (h1 : st.env 1 = .ptr 1 0 0 0) (h2 : st.env 2 = .ptr 2 0 0 0) (h3 : st.env 3 = .ptr 3 0 0 0) (h18 : st.env 18 = .sl (x.fls.map rqC)) (h19 : st.env 19 = .int .i64 (x.fls.length : Nat)) (h20 : st.env 20 = .int .i64 0)
    (b1 : C1 st x) (b2 : C2 st) (b3 : C3 st .nils c d e b) (hi0 : I st)
    (hQ : ∀ (s : St) (v : TV), s.env 1 = .ptr 1 0 0 0 → s.env 2 = .ptr 2 0 0 0 → s.env 3 = .ptr 3 0 0 0 → C1 s x → C2 s → C3 s v c d e b → GrowsC s 30 4 v (x.fls.map rqC) → I s → Q (.exit 0) s) :
    Goes mach (.loop L21_0) Q st := by
  have ml : (x.fls.map rqC).length = x.fls.length := map_len _
  have wh := whole_c (n := 0) (by unfold I64; omega)
  have d0 := dq_int (n := 0) (by unfold I64; omega)
  refine wp_for (fun i s => s.env 1 = .ptr 1 0 0 0 ∧ s.env 2 = .ptr 2 0 0 0 ∧ s.env 3 = .ptr 3 0 0 0 ∧ s.env 18 = .sl (x.fls.map rqC) ∧ s.env 19 = .int .i64 (x.fls.length : Nat) ∧ s.env 20 = .int .i64 (i : Nat) ∧ C1 s x ∧ C2 s ∧ I s ∧ ∃ v, C3 s v c d e b ∧ GrowsC s 30 4 v ((x.fls.take i).map rqC)) x.fls.length ?_ ?_ x.fls.length 0 _ (by omega) ?_
  · rintro i s hi ⟨h1, h2, h3, h18, h19, h20, b1, b2, hIs, v, b3, hg⟩
    have hw : IntKind.i64.wrap ((i + 1 : Nat) : Int) = (i + 1 : Nat) := wrap_i64n (by omega)
    have ia := iaddr_map (C := rqC) (kk := .i64) default (e := 4) (fun _ => rfl) hi
    have can := hx _ (getD_mem default hi)
    have tk : (x.fls.take i).map rqC ++ [rqC (rqOf (x.fls.getD i default).val)] = (x.fls.take (i + 1)).map rqC := by
      rw [can.eq, gtake_succ default hi]; simp
    have tl : (x.fls.take i).length ≤ i := by rw [List.length_take]; omega
    have ok := can.ok
    generalize x.fls.getD i default = r at *
    have ad := qadd_c (RQ.isQ ok) (isQ_enc d0) (by omega) (by omega) (by omega)
    rw [show (((0 : Int) : Rat)) = 0 from rfl] at ad wh
    rw [Rat.add_zero] at ad
    simp only [rqC] at ia ad
    simp only [L21_0, tmR, seval, h1, h2, h3, h18, h19, h20, nat_lt, hi, ia, b3, wpcall_eq wh, wpcall_eq ad]
    refine wp_growC 30 (.fb []) _ _ _ _ _ _ (xs := (x.fls.take i).map rqC) (zs := [rqC (rqOf r.val)]) ?_ (fun k g => rfl) ?_ (by simp) (by simp; omega) ?_
    · simp only [tmR, seval]
      exact hg.mono (fun g _ => by simp only [tmD, reduceIte, Nat.reduceEqDiff, Nat.reduceAdd]) (by simp only [tmD, reduceIte, Nat.reduceEqDiff, Nat.reduceAdd]; exact Nat.le_refl _)
    · simp only [tmR, seval, elems]; rfl
    · intro st' v' henv hobj hcnt hg'
      have ho1 := hobj 1 0 (by decide)
      have ho2 := hobj 2 0 (by decide)
      have ho3 := hobj 3 0 (by decide)
      simp only [tmD, reduceIte, Nat.reduceEqDiff, Nat.reduceAdd, b1] at ho1
      simp only [tmD, reduceIte, Nat.reduceEqDiff, Nat.reduceAdd, b2] at ho2
      simp only [tmD, reduceIte, Nat.reduceEqDiff, Nat.reduceAdd, b3] at ho3
      have ob13 := fun g => hobj 13 g (by decide)
      have cn13 := hcnt 13 (by decide)
      simp only [tmD, reduceIte, Nat.reduceEqDiff, Nat.reduceAdd] at ob13 cn13
      rw [tk] at hg'
      have hcl := hg'.cells
      simp only [tmR, seval, henv, h1, h2, h3, h18, h19, h20, ho3, hcl, nat_add_one, hw, C1, ho1, C2, ho2, C3]
      refine ⟨hI s _ (fun k g hk => ?_) (fun k hk => ?_) hIs, v', rfl, hg'.mono (fun g _ => by simp only [tmD, reduceIte, Nat.reduceEqDiff, Nat.reduceAdd]) (by simp only [tmD, reduceIte, Nat.reduceEqDiff, Nat.reduceAdd]; exact Nat.le_refl _)⟩
      · simp only [List.mem_cons, List.not_mem_nil, or_false] at hk; rcases hk with rfl <;> simp only [tmD, reduceIte, Nat.reduceEqDiff, Nat.reduceAdd, ob13]
      · simp only [List.mem_cons, List.not_mem_nil, or_false] at hk; rcases hk with rfl <;> simp only [tmD, reduceIte, Nat.reduceEqDiff, Nat.reduceAdd, cn13] <;> exact Nat.le_refl _
  · rintro s ⟨h1, h2, h3, h18, h19, h20, b1, b2, hIs, v, b3, hg⟩
    rw [List.take_length] at hg
    simp only [L21_0, tmR, seval, h19, h20, Int.lt_irrefl]
    exact hQ _ v h1 h2 h3 b1 b2 b3 (hg.mono (fun g _ => by simp only [tmD, reduceIte, Nat.reduceEqDiff, Nat.reduceAdd]) (by simp only [tmD, reduceIte, Nat.reduceEqDiff, Nat.reduceAdd]; exact Nat.le_refl _)) (hI s _ (fun k g hk => by simp only [tmD, reduceIte, Nat.reduceEqDiff, Nat.reduceAdd]) (fun k hk => by simp only [tmD, reduceIte, Nat.reduceEqDiff, Nat.reduceAdd]; exact Nat.le_refl _) hIs)
  · exact ⟨h1, h2, h3, h18, h19, h20, b1, b2, hi0, .nils, b3, .inl ⟨rfl, rfl⟩⟩
theorem loopCopA1 {Q : Ex → St → Prop} {st : St} (x : Pri) (I : St → Prop) (hI : Stab [13, 30] I) (hl : x.duals.length < 2147483648) (hx : ∀ r ∈ x.duals, RQ.Can 1000 r) {f c e : TV} {b : Bool}
    (h1 : st.env 1 = .ptr 1 0 0 0) (h2 : st.env 2 = .ptr 2 0 0 0) (h3 : st.env 3 = .ptr 3 0 0 0) (h34 : st.env 34 = .sl (x.duals.map rqC)) (h35 : st.env 35 = .int .i64 (x.duals.length : Nat)) (h36 : st.env 36 = .int .i64 0)
    (b1 : C1 st x) (b2 : C2 st) (b3 : C3 st f c .nils e b) (hi0 : I st)
    (hQ : ∀ (s : St) (v : TV), s.env 1 = .ptr 1 0 0 0 → s.env 2 = .ptr 2 0 0 0 → s.env 3 = .ptr 3 0 0 0 → C1 s x → C2 s → C3 s f c v e b → GrowsC s 46 4 v (x.duals.map rqC) → I s → Q (.exit 2) s) :
    Goes mach (.loop L21_1) Q st := by
  have ml : (x.duals.map rqC).length = x.duals.length := map_len _
  have wh := whole_c (n := 0) (by unfold I64; omega)
  have d0 := dq_int (n := 0) (by unfold I64; omega)
  refine wp_for (fun i s => s.env 1 = .ptr 1 0 0 0 ∧ s.env 2 = .ptr 2 0 0 0 ∧ s.env 3 = .ptr 3 0 0 0 ∧ s.env 34 = .sl (x.duals.map rqC) ∧ s.env 35 = .int .i64 (x.duals.length : Nat) ∧ s.env 36 = .int .i64 (i : Nat) ∧ C1 s x ∧ C2 s ∧ I s ∧ ∃ v, C3 s f c v e b ∧ GrowsC s 46 4 v ((x.duals.take i).map rqC)) x.duals.length ?_ ?_ x.duals.length 0 _ (by omega) ?_
  · rintro i s hi ⟨h1, h2, h3, h34, h35, h36, b1, b2, hIs, v, b3, hg⟩
    have hw : IntKind.i64.wrap ((i + 1 : Nat) : Int) = (i + 1 : Nat) := wrap_i64n (by omega)
    have ia := iaddr_map (C := rqC) (kk := .i64) default (e := 4) (fun _ => rfl) hi
    have can := hx _ (getD_mem default hi)
    have tk : (x.duals.take i).map rqC ++ [rqC (rqOf (x.duals.getD i default).val)] = (x.duals.take (i + 1)).map rqC := by
      rw [can.eq, gtake_succ default hi]; simp
    have tl : (x.duals.take i).length ≤ i := by rw [List.length_take]; omega
    have ok := can.ok
    generalize x.duals.getD i default = r at *
    have ad := qadd_c (RQ.isQ ok) (isQ_enc d0) (by omega) (by omega) (by omega)
    rw [show (((0 : Int) : Rat)) = 0 from rfl] at ad wh
    rw [Rat.add_zero] at ad
    simp only [rqC] at ia ad
    simp only [L21_1, tmR, seval, h1, h2, h3, h34, h35, h36, nat_lt, hi, ia, b3, wpcall_eq wh, wpcall_eq ad]
    refine wp_growC 46 (.fb []) _ _ _ _ _ _ (xs := (x.duals.take i).map rqC) (zs := [rqC (rqOf r.val)]) ?_ (fun k g => rfl) ?_ (by simp) (by simp; omega) ?_
    · simp only [tmR, seval]
      exact hg.mono (fun g _ => by simp only [tmD, reduceIte, Nat.reduceEqDiff, Nat.reduceAdd]) (by simp only [tmD, reduceIte, Nat.reduceEqDiff, Nat.reduceAdd]; exact Nat.le_refl _)
    · simp only [tmR, seval, elems]; rfl
    · intro st' v' henv hobj hcnt hg'
      have ho1 := hobj 1 0 (by decide)
      have ho2 := hobj 2 0 (by decide)
      have ho3 := hobj 3 0 (by decide)
      simp only [tmD, reduceIte, Nat.reduceEqDiff, Nat.reduceAdd, b1] at ho1
      simp only [tmD, reduceIte, Nat.reduceEqDiff, Nat.reduceAdd, b2] at ho2
      simp only [tmD, reduceIte, Nat.reduceEqDiff, Nat.reduceAdd, b3] at ho3
      have ob13 := fun g => hobj 13 g (by decide)
      have cn13 := hcnt 13 (by decide)
      simp only [tmD, reduceIte, Nat.reduceEqDiff, Nat.reduceAdd] at ob13 cn13
      have ob30 := fun g => hobj 30 g (by decide)
      have cn30 := hcnt 30 (by decide)
      simp only [tmD, reduceIte, Nat.reduceEqDiff, Nat.reduceAdd] at ob30 cn30
      rw [tk] at hg'
      have hcl := hg'.cells
      simp only [tmR, seval, henv, h1, h2, h3, h34, h35, h36, ho3, hcl, nat_add_one, hw, C1, ho1, C2, ho2, C3]
      refine ⟨hI s _ (fun k g hk => ?_) (fun k hk => ?_) hIs, v', rfl, hg'.mono (fun g _ => by simp only [tmD, reduceIte, Nat.reduceEqDiff, Nat.reduceAdd]) (by simp only [tmD, reduceIte, Nat.reduceEqDiff, Nat.reduceAdd]; exact Nat.le_refl _)⟩
      · simp only [List.mem_cons, List.not_mem_nil, or_false] at hk; rcases hk with rfl | rfl <;> simp only [tmD, reduceIte, Nat.reduceEqDiff, Nat.reduceAdd, ob13, ob30]
      · simp only [List.mem_cons, List.not_mem_nil, or_false] at hk; rcases hk with rfl | rfl <;> simp only [tmD, reduceIte, Nat.reduceEqDiff, Nat.reduceAdd, cn13, cn30] <;> exact Nat.le_refl _
  · rintro s ⟨h1, h2, h3, h34, h35, h36, b1, b2, hIs, v, b3, hg⟩
    rw [List.take_length] at hg
    simp only [L21_1, tmR, seval, h35, h36, Int.lt_irrefl]
    exact hQ _ v h1 h2 h3 b1 b2 b3 (hg.mono (fun g _ => by simp only [tmD, reduceIte, Nat.reduceEqDiff, Nat.reduceAdd]) (by simp only [tmD, reduceIte, Nat.reduceEqDiff, Nat.reduceAdd]; exact Nat.le_refl _)) (hI s _ (fun k g hk => by simp only [tmD, reduceIte, Nat.reduceEqDiff, Nat.reduceAdd]) (fun k hk => by simp only [tmD, reduceIte, Nat.reduceEqDiff, Nat.reduceAdd]; exact Nat.le_refl _) hIs)
  · exact ⟨h1, h2, h3, h34, h35, h36, b1, b2, hi0, .nils, b3, .inl ⟨rfl, rfl⟩⟩
end Go.TM.Fn
end
section
namespace Go.TM.Fn
open Go Go.TM Go.Plain
set_option linter.unusedVariables false
set_option linter.unusedSimpArgs false
set_option maxRecDepth 20000
set_option maxHeartbeats 4000000
def CopBack (x : Pri) (rv : TV) : Prop := ∃ F C D E : TV, rv = .agg [F, C, D, E, .bool x.free] ∧ Ret2 4 (x.fls.map rqC) F ∧ Ret1 2 (x.cuts.map cutC) C ∧ Ret2 4 (x.duals.map rqC) D ∧ Ret1 3 (x.decs.map decC) E
theorem copA_fin {s : St} {args : List TV} {F C D E : TV} (x : Pri) (ha : hasOwn args = false) (hm : mutsOf s 0 args = some []) (h2 : s.env 2 = .ptr 2 0 0 0)
    (ho : s.obj 2 0 = some { cont := [[F, C, D, E, .bool x.free]], esz := 5, box := true, solo := true, tip := false }) (hF : GrowsC s 30 4 F (x.fls.map rqC)) (hC : GrowsS s [66] 2 C (x.cuts.map cutC)) (hD : GrowsC s 46 4 D (x.duals.map rqC)) (hE : GrowsS s [13] 3 E (x.decs.map decC)) :
    ∃ rv, finishR [.cell 2 5 true] args s = some (rv, []) ∧ CopBack x rv := by
  obtain ⟨u1, e1, w1⟩ := out1_retC hF
  obtain ⟨u2, e2, w2⟩ := out1_ret hC
  obtain ⟨u3, e3, w3⟩ := out1_retC hD
  obtain ⟨u4, e4, w4⟩ := out1_ret hE
  have cp : out1 s.obj (.bool x.free) = some (.bool x.free) := rfl
  have hon : once (hands (.agg [F, C, D, E, .bool x.free])) = true := by
    have ip : hand1 (.bool x.free) = [] := rfl
    simp only [hands, TV.cells, List.flatMap_cons, List.flatMap_nil, ip]
    rcases hand1_growsC hF with q1 | ⟨g1, q1⟩ <;> rcases hand1_grows hC with q2 | ⟨k2, g2, hk2, q2⟩ <;> rcases hand1_growsC hD with q3 | ⟨g3, q3⟩ <;> rcases hand1_grows hE with q4 | ⟨k4, g4, hk4, q4⟩ <;>
      simp_all [once]
  refine ⟨.agg [u1, u2, u3, u4, .bool x.free], ?_, u1, u2, u3, u4, rfl, w1, w2, w3, w4⟩
  simp [finishR, resVals, resVal, hm, ha, h2, ho, pull, hon, out, outs, e1, e2, e3, e4, cp]
theorem copied_o (x : Pri) (hx : x.Can) : ∃ rv, CopBack x rv ∧ call mach 21 [priT x] = some (rv, []) := by
  have l1 : (x.fls.map rqC).length = x.fls.length := map_len _
  have l2 : (x.cuts.map cutC).length = x.cuts.length := map_len _
  have l3 : (x.duals.map rqC).length = x.duals.length := map_len _
  have l4 : (x.decs.map decC).length = x.decs.length := map_len _
  have k1 := hx.fls
  have k2 := hx.cuts
  have k3 := hx.duals
  have k4 := hx.decs
  have ap : ∀ {ob : Nat → Nat → Option Obj} {d c k g : Nat}, ob k g = some { cont := [], esz := 3, box := false, solo := true, tip := true } → appE d c ob 3 false (.hs k g 3 0) (.sl (x.decs.map decC)) = some { v := .hs d c 3 (0 + (x.decs.map decC).length), new := [{ cont := [] ++ x.decs.map decC, esz := 3, box := false, solo := false, tip := true }], mods := [(k, g, some { cont := [], esz := 3, box := false, solo := false, tip := false })] } :=
    fun ho => app_hsF (elems_sl (uni_map (C := decC) (fun _ => rfl) x.decs)) ho rfl rfl rfl rfl (by show 0 + (x.decs.map decC).length < _; rw [l4]; omega)
  refine givesP tab21 rfl ?_
  simp only [F21, tmR, seval, wp_app, ap, apply_appF, l4, l1]
  refine loopCopA0 x (c := .nils) (d := .nils) (e := .hs 13 0 3 x.decs.length) (b := x.free) (fun s => GrowsS s [13] 3 (.hs 13 0 3 x.decs.length) (x.decs.map decC)) (fun s s' ho hc h => h.mono (fun k g hk _ => ho k g hk) hc) (by omega) hx.fc ?_ ?_ ?_ ?_ ?_ ?_ ?_ ?_ ?_ ?_ (fun s F e1 e2 e3 b1 b2 b3 gF gE => ?_)
  · simp only [tmD, reduceIte, Nat.reduceEqDiff, Nat.reduceAdd]
  · simp only [tmD, reduceIte, Nat.reduceEqDiff, Nat.reduceAdd]
  · simp only [tmD, reduceIte, Nat.reduceEqDiff, Nat.reduceAdd]
  · simp only [tmD, reduceIte, Nat.reduceEqDiff, Nat.reduceAdd]
  · simp only [tmD, reduceIte, Nat.reduceEqDiff, Nat.reduceAdd]
  · simp only [tmD, reduceIte, Nat.reduceEqDiff, Nat.reduceAdd]
  · simp only [C1, C2, C3, tmD, reduceIte, Nat.reduceEqDiff, Nat.reduceAdd]
  · simp only [C1, C2, C3, tmD, reduceIte, Nat.reduceEqDiff, Nat.reduceAdd]
  · simp only [C1, C2, C3, tmD, reduceIte, Nat.reduceEqDiff, Nat.reduceAdd]
  · refine .inr ⟨13, 0, { cont := x.decs.map decC, esz := 3, box := false, solo := false, tip := true }, by simp, by rw [l4], ?_, ?_, rfl, rfl, rfl, rfl⟩
    · simp only [tmD, reduceIte, Nat.reduceEqDiff, Nat.reduceAdd]; decide
    · simp only [tmD, reduceIte, Nat.reduceEqDiff, Nat.reduceAdd]
  simp only [tmR, seval, e1, b1, l3]
  refine loopCopA1 x (f := F) (c := .nils) (e := .hs 13 0 3 x.decs.length) (b := x.free) (fun s => GrowsS s [13] 3 (.hs 13 0 3 x.decs.length) (x.decs.map decC) ∧ GrowsC s 30 4 F (x.fls.map rqC)) (fun s s' ho hc h => ⟨h.1.mono (fun k g hk _ => ho k g (by simp at hk ⊢; omega)) (fun k hk => hc k (by simp at hk ⊢; omega)), h.2.mono (fun g _ => ho 30 g (by simp)) (hc 30 (by simp))⟩) (by omega) hx.dc ?_ ?_ ?_ ?_ ?_ ?_ ?_ ?_ ?_ ?_ (fun s D e1 e2 e3 b1 b2 b3 gD hI => ?_)
  · simp only [tmD, reduceIte, Nat.reduceEqDiff, Nat.reduceAdd, e1]
  · simp only [tmD, reduceIte, Nat.reduceEqDiff, Nat.reduceAdd, e2]
  · simp only [tmD, reduceIte, Nat.reduceEqDiff, Nat.reduceAdd, e3]
  · simp only [tmD, reduceIte, Nat.reduceEqDiff, Nat.reduceAdd]
  · simp only [tmD, reduceIte, Nat.reduceEqDiff, Nat.reduceAdd]
  · simp only [tmD, reduceIte, Nat.reduceEqDiff, Nat.reduceAdd]
  · simp only [C1, C2, C3, tmD, reduceIte, Nat.reduceEqDiff, Nat.reduceAdd, b1]
  · simp only [C1, C2, C3, tmD, reduceIte, Nat.reduceEqDiff, Nat.reduceAdd, b2]
  · simp only [C1, C2, C3, tmD, reduceIte, Nat.reduceEqDiff, Nat.reduceAdd, b3]
  · exact ⟨gE.mono (fun k g hk _ => by simp only [tmD, reduceIte, Nat.reduceEqDiff, Nat.reduceAdd]) (fun k hk => by simp only [tmD, reduceIte, Nat.reduceEqDiff, Nat.reduceAdd]; exact Nat.le_refl _), gF.mono (fun g _ => by simp only [tmD, reduceIte, Nat.reduceEqDiff, Nat.reduceAdd]) (by simp only [tmD, reduceIte, Nat.reduceEqDiff, Nat.reduceAdd]; exact Nat.le_refl _)⟩
  simp only [tmR, seval, e1, b1, l2]
  refine loopCop2 x (f := F) (d := D) (e := .hs 13 0 3 x.decs.length) (b := x.free) (fun s => GrowsS s [13] 3 (.hs 13 0 3 x.decs.length) (x.decs.map decC) ∧ GrowsC s 30 4 F (x.fls.map rqC) ∧ GrowsC s 46 4 D (x.duals.map rqC)) (fun s s' ho hc h => ⟨h.1.mono (fun k g hk _ => ho k g (by simp at hk ⊢; omega)) (fun k hk => hc k (by simp at hk ⊢; omega)), h.2.1.mono (fun g _ => ho 30 g (by simp)) (hc 30 (by simp)), h.2.2.mono (fun g _ => ho 46 g (by simp)) (hc 46 (by simp))⟩) (by omega) (fun c hc => by have := hx.rs c hc; omega) ?_ ?_ ?_ ?_ ?_ ?_ ?_ ?_ (fun s C e2 e3 b2 b3 gC hI => ?_)
  · simp only [tmD, reduceIte, Nat.reduceEqDiff, Nat.reduceAdd, e2]
  · simp only [tmD, reduceIte, Nat.reduceEqDiff, Nat.reduceAdd, e3]
  · simp only [tmD, reduceIte, Nat.reduceEqDiff, Nat.reduceAdd]
  · simp only [tmD, reduceIte, Nat.reduceEqDiff, Nat.reduceAdd]
  · simp only [tmD, reduceIte, Nat.reduceEqDiff, Nat.reduceAdd]
  · simp only [C1, C2, C3, tmD, reduceIte, Nat.reduceEqDiff, Nat.reduceAdd, b2]
  · simp only [C1, C2, C3, tmD, reduceIte, Nat.reduceEqDiff, Nat.reduceAdd, b3]
  · exact ⟨hI.1.mono (fun k g hk _ => by simp only [tmD, reduceIte, Nat.reduceEqDiff, Nat.reduceAdd]) (fun k hk => by simp only [tmD, reduceIte, Nat.reduceEqDiff, Nat.reduceAdd]; exact Nat.le_refl _), hI.2.mono (fun g _ => by simp only [tmD, reduceIte, Nat.reduceEqDiff, Nat.reduceAdd]) (by simp only [tmD, reduceIte, Nat.reduceEqDiff, Nat.reduceAdd]; exact Nat.le_refl _), gD.mono (fun g _ => by simp only [tmD, reduceIte, Nat.reduceEqDiff, Nat.reduceAdd]) (by simp only [tmD, reduceIte, Nat.reduceEqDiff, Nat.reduceAdd]; exact Nat.le_refl _)⟩
  simp only [tmR, seval, e2, e3, b2, b3, retP_ret]
  refine copA_fin x rfl rfl ?_ ?_ (hI.2.1.mono (fun g _ => ?_) ?_) (gC.mono (fun k g hk _ => ?_) (fun k hk => ?_)) (hI.2.2.mono (fun g _ => ?_) ?_) (hI.1.mono (fun k g hk _ => ?_) (fun k hk => ?_))
  · simp only [tmD, reduceIte, Nat.reduceEqDiff, Nat.reduceAdd, e2]
  · simp only [tmD, reduceIte, Nat.reduceEqDiff, Nat.reduceAdd]
  all_goals first
    | (simp only [List.mem_cons, List.not_mem_nil, or_false] at hk; subst hk; simp only [tmD, reduceIte, Nat.reduceEqDiff, Nat.reduceAdd]; done)
    | (simp only [tmD, reduceIte, Nat.reduceEqDiff, Nat.reduceAdd]; done)
    | (simp only [tmD, reduceIte, Nat.reduceEqDiff, Nat.reduceAdd]; exact Nat.le_refl _)
def RowF (s : St) (d g : Nat) (v : TV) (xs : List RQ) : Prop := (xs = [] ∧ v = .nils) ∨ (v = .hs d g 4 xs.length ∧ s.obj d g = some { cont := xs.map rqC, esz := 4, box := false, solo := true, tip := true })
def OutC (s : St) (d gF gD : Nat) (v : TV) (e : Nat) (xs : Cont) : Prop := (xs = [] ∧ v = .nils) ∨ v = .sl xs ∨ ∃ g o, g ≠ gF ∧ g ≠ gD ∧ v = .hs d g e xs.length ∧ s.obj d g = some o ∧ o.cont = xs ∧ o.box = false ∧ o.esz = e
theorem adopt_cop {x : Pri} {rv : TV} (h : CopBack x rv) : ∃ cs, rv = .agg cs ∧ ∀ st : St, st.cnt 76 = 0 → ∃ (F C D E : TV) (gF gD : Nat) (s1 : St),
    s1 = apply (some 76) { v := .agg (adopt 76 (st.cnt 76) cs).1, new := (adopt 76 (st.cnt 76) cs).2 } st ∧ s1.env 76 = .agg [F, C, D, E, .bool x.free] ∧ (∀ i, i ≠ 76 → s1.env i = st.env i) ∧ (∀ k g, k ≠ 76 → s1.obj k g = st.obj k g) ∧ (∀ k, k ≠ 76 → s1.cnt k = st.cnt k) ∧
    gF ≠ gD ∧ RowF s1 76 gF F x.fls ∧ OutC s1 76 gF gD C 2 (x.cuts.map cutC) ∧ RowF s1 76 gD D x.duals ∧ OutC s1 76 gF gD E 3 (x.decs.map decC) := by
  obtain ⟨F, C, D, E, rfl, hF, hC, hD, hE⟩ := h
  have zf : ∀ {xs : List RQ}, xs.map rqC = [] → xs = [] := fun h => by simpa using h
  have l1 : (x.fls.map rqC).length = x.fls.length := map_len _
  have l3 : (x.duals.map rqC).length = x.duals.length := map_len _
  refine ⟨_, rfl, fun st cd => ?_⟩
  have t1 : ∀ (v : TV) (os : List Obj) (i : Nat), i ≠ 76 → (apply (some 76) { v := v, new := os } st).env i = st.env i := fun v os i hi => by cases os <;> simp [apply, upd, hi]
  rcases hF with ⟨z1, rfl⟩ | rfl <;> rcases hC with ⟨z2, rfl⟩ | rfl | rfl <;> rcases hD with ⟨z3, rfl⟩ | rfl <;> rcases hE with ⟨z4, rfl⟩ | rfl | rfl
  all_goals first
    | (refine ⟨_, _, _, _, 0, 2, _, rfl, rfl, ?_, ?_, ?_, by decide, ?_, ?_, ?_, ?_⟩ <;> first
        | exact .inl ⟨zf z1, rfl⟩
        | exact .inl ⟨zf z3, rfl⟩
        | exact .inl ⟨z2, rfl⟩
        | exact .inl ⟨z4, rfl⟩
        | exact .inr (.inl rfl)
        | (intro i hi; exact t1 _ _ i hi)
        | (intro k g hk; simp [apply, adopt, addNew, updO, hk]; done)
        | (intro k hk; simp [apply, adopt, upd, hk]; done)
        | (refine .inr ⟨?_, ?_⟩ <;> (try simp only [cd, apply, adopt, addNew, updO]) <;> simp <;> done)
        | (refine .inr (.inr ⟨0, { cont := x.cuts.map cutC, esz := 2, box := false, solo := true, tip := true }, by decide, by decide, ?_, ?_, rfl, rfl, rfl⟩) <;> (try simp only [cd, apply, adopt, addNew, updO]) <;> simp <;> done)
        | (refine .inr (.inr ⟨0, { cont := x.decs.map decC, esz := 3, box := false, solo := true, tip := true }, by decide, by decide, ?_, ?_, rfl, rfl, rfl⟩) <;> (try simp only [cd, apply, adopt, addNew, updO]) <;> simp <;> done)
        | (refine .inr (.inr ⟨1, { cont := x.cuts.map cutC, esz := 2, box := false, solo := true, tip := true }, by decide, by decide, ?_, ?_, rfl, rfl, rfl⟩) <;> (try simp only [cd, apply, adopt, addNew, updO]) <;> simp <;> done)
        | (refine .inr (.inr ⟨1, { cont := x.decs.map decC, esz := 3, box := false, solo := true, tip := true }, by decide, by decide, ?_, ?_, rfl, rfl, rfl⟩) <;> (try simp only [cd, apply, adopt, addNew, updO]) <;> simp <;> done)
        | (refine .inr (.inr ⟨2, { cont := x.cuts.map cutC, esz := 2, box := false, solo := true, tip := true }, by decide, by decide, ?_, ?_, rfl, rfl, rfl⟩) <;> (try simp only [cd, apply, adopt, addNew, updO]) <;> simp <;> done)
        | (refine .inr (.inr ⟨2, { cont := x.decs.map decC, esz := 3, box := false, solo := true, tip := true }, by decide, by decide, ?_, ?_, rfl, rfl, rfl⟩) <;> (try simp only [cd, apply, adopt, addNew, updO]) <;> simp <;> done)
        | (refine .inr (.inr ⟨3, { cont := x.cuts.map cutC, esz := 2, box := false, solo := true, tip := true }, by decide, by decide, ?_, ?_, rfl, rfl, rfl⟩) <;> (try simp only [cd, apply, adopt, addNew, updO]) <;> simp <;> done)
        | (refine .inr (.inr ⟨3, { cont := x.decs.map decC, esz := 3, box := false, solo := true, tip := true }, by decide, by decide, ?_, ?_, rfl, rfl, rfl⟩) <;> (try simp only [cd, apply, adopt, addNew, updO]) <;> simp <;> done); done)
    | (refine ⟨_, _, _, _, 0, 1, _, rfl, rfl, ?_, ?_, ?_, by decide, ?_, ?_, ?_, ?_⟩ <;> first
        | exact .inl ⟨zf z1, rfl⟩
        | exact .inl ⟨zf z3, rfl⟩
        | exact .inl ⟨z2, rfl⟩
        | exact .inl ⟨z4, rfl⟩
        | exact .inr (.inl rfl)
        | (intro i hi; exact t1 _ _ i hi)
        | (intro k g hk; simp [apply, adopt, addNew, updO, hk]; done)
        | (intro k hk; simp [apply, adopt, upd, hk]; done)
        | (refine .inr ⟨?_, ?_⟩ <;> (try simp only [cd, apply, adopt, addNew, updO]) <;> simp <;> done)
        | (refine .inr (.inr ⟨0, { cont := x.cuts.map cutC, esz := 2, box := false, solo := true, tip := true }, by decide, by decide, ?_, ?_, rfl, rfl, rfl⟩) <;> (try simp only [cd, apply, adopt, addNew, updO]) <;> simp <;> done)
        | (refine .inr (.inr ⟨0, { cont := x.decs.map decC, esz := 3, box := false, solo := true, tip := true }, by decide, by decide, ?_, ?_, rfl, rfl, rfl⟩) <;> (try simp only [cd, apply, adopt, addNew, updO]) <;> simp <;> done)
        | (refine .inr (.inr ⟨1, { cont := x.cuts.map cutC, esz := 2, box := false, solo := true, tip := true }, by decide, by decide, ?_, ?_, rfl, rfl, rfl⟩) <;> (try simp only [cd, apply, adopt, addNew, updO]) <;> simp <;> done)
        | (refine .inr (.inr ⟨1, { cont := x.decs.map decC, esz := 3, box := false, solo := true, tip := true }, by decide, by decide, ?_, ?_, rfl, rfl, rfl⟩) <;> (try simp only [cd, apply, adopt, addNew, updO]) <;> simp <;> done)
        | (refine .inr (.inr ⟨2, { cont := x.cuts.map cutC, esz := 2, box := false, solo := true, tip := true }, by decide, by decide, ?_, ?_, rfl, rfl, rfl⟩) <;> (try simp only [cd, apply, adopt, addNew, updO]) <;> simp <;> done)
        | (refine .inr (.inr ⟨2, { cont := x.decs.map decC, esz := 3, box := false, solo := true, tip := true }, by decide, by decide, ?_, ?_, rfl, rfl, rfl⟩) <;> (try simp only [cd, apply, adopt, addNew, updO]) <;> simp <;> done)
        | (refine .inr (.inr ⟨3, { cont := x.cuts.map cutC, esz := 2, box := false, solo := true, tip := true }, by decide, by decide, ?_, ?_, rfl, rfl, rfl⟩) <;> (try simp only [cd, apply, adopt, addNew, updO]) <;> simp <;> done)
        | (refine .inr (.inr ⟨3, { cont := x.decs.map decC, esz := 3, box := false, solo := true, tip := true }, by decide, by decide, ?_, ?_, rfl, rfl, rfl⟩) <;> (try simp only [cd, apply, adopt, addNew, updO]) <;> simp <;> done); done)
    | (refine ⟨_, _, _, _, 0, 101, _, rfl, rfl, ?_, ?_, ?_, by decide, ?_, ?_, ?_, ?_⟩ <;> first
        | exact .inl ⟨zf z1, rfl⟩
        | exact .inl ⟨zf z3, rfl⟩
        | exact .inl ⟨z2, rfl⟩
        | exact .inl ⟨z4, rfl⟩
        | exact .inr (.inl rfl)
        | (intro i hi; exact t1 _ _ i hi)
        | (intro k g hk; simp [apply, adopt, addNew, updO, hk]; done)
        | (intro k hk; simp [apply, adopt, upd, hk]; done)
        | (refine .inr ⟨?_, ?_⟩ <;> (try simp only [cd, apply, adopt, addNew, updO]) <;> simp <;> done)
        | (refine .inr (.inr ⟨0, { cont := x.cuts.map cutC, esz := 2, box := false, solo := true, tip := true }, by decide, by decide, ?_, ?_, rfl, rfl, rfl⟩) <;> (try simp only [cd, apply, adopt, addNew, updO]) <;> simp <;> done)
        | (refine .inr (.inr ⟨0, { cont := x.decs.map decC, esz := 3, box := false, solo := true, tip := true }, by decide, by decide, ?_, ?_, rfl, rfl, rfl⟩) <;> (try simp only [cd, apply, adopt, addNew, updO]) <;> simp <;> done)
        | (refine .inr (.inr ⟨1, { cont := x.cuts.map cutC, esz := 2, box := false, solo := true, tip := true }, by decide, by decide, ?_, ?_, rfl, rfl, rfl⟩) <;> (try simp only [cd, apply, adopt, addNew, updO]) <;> simp <;> done)
        | (refine .inr (.inr ⟨1, { cont := x.decs.map decC, esz := 3, box := false, solo := true, tip := true }, by decide, by decide, ?_, ?_, rfl, rfl, rfl⟩) <;> (try simp only [cd, apply, adopt, addNew, updO]) <;> simp <;> done)
        | (refine .inr (.inr ⟨2, { cont := x.cuts.map cutC, esz := 2, box := false, solo := true, tip := true }, by decide, by decide, ?_, ?_, rfl, rfl, rfl⟩) <;> (try simp only [cd, apply, adopt, addNew, updO]) <;> simp <;> done)
        | (refine .inr (.inr ⟨2, { cont := x.decs.map decC, esz := 3, box := false, solo := true, tip := true }, by decide, by decide, ?_, ?_, rfl, rfl, rfl⟩) <;> (try simp only [cd, apply, adopt, addNew, updO]) <;> simp <;> done)
        | (refine .inr (.inr ⟨3, { cont := x.cuts.map cutC, esz := 2, box := false, solo := true, tip := true }, by decide, by decide, ?_, ?_, rfl, rfl, rfl⟩) <;> (try simp only [cd, apply, adopt, addNew, updO]) <;> simp <;> done)
        | (refine .inr (.inr ⟨3, { cont := x.decs.map decC, esz := 3, box := false, solo := true, tip := true }, by decide, by decide, ?_, ?_, rfl, rfl, rfl⟩) <;> (try simp only [cd, apply, adopt, addNew, updO]) <;> simp <;> done); done)
    | (refine ⟨_, _, _, _, 100, 0, _, rfl, rfl, ?_, ?_, ?_, by decide, ?_, ?_, ?_, ?_⟩ <;> first
        | exact .inl ⟨zf z1, rfl⟩
        | exact .inl ⟨zf z3, rfl⟩
        | exact .inl ⟨z2, rfl⟩
        | exact .inl ⟨z4, rfl⟩
        | exact .inr (.inl rfl)
        | (intro i hi; exact t1 _ _ i hi)
        | (intro k g hk; simp [apply, adopt, addNew, updO, hk]; done)
        | (intro k hk; simp [apply, adopt, upd, hk]; done)
        | (refine .inr ⟨?_, ?_⟩ <;> (try simp only [cd, apply, adopt, addNew, updO]) <;> simp <;> done)
        | (refine .inr (.inr ⟨0, { cont := x.cuts.map cutC, esz := 2, box := false, solo := true, tip := true }, by decide, by decide, ?_, ?_, rfl, rfl, rfl⟩) <;> (try simp only [cd, apply, adopt, addNew, updO]) <;> simp <;> done)
        | (refine .inr (.inr ⟨0, { cont := x.decs.map decC, esz := 3, box := false, solo := true, tip := true }, by decide, by decide, ?_, ?_, rfl, rfl, rfl⟩) <;> (try simp only [cd, apply, adopt, addNew, updO]) <;> simp <;> done)
        | (refine .inr (.inr ⟨1, { cont := x.cuts.map cutC, esz := 2, box := false, solo := true, tip := true }, by decide, by decide, ?_, ?_, rfl, rfl, rfl⟩) <;> (try simp only [cd, apply, adopt, addNew, updO]) <;> simp <;> done)
        | (refine .inr (.inr ⟨1, { cont := x.decs.map decC, esz := 3, box := false, solo := true, tip := true }, by decide, by decide, ?_, ?_, rfl, rfl, rfl⟩) <;> (try simp only [cd, apply, adopt, addNew, updO]) <;> simp <;> done)
        | (refine .inr (.inr ⟨2, { cont := x.cuts.map cutC, esz := 2, box := false, solo := true, tip := true }, by decide, by decide, ?_, ?_, rfl, rfl, rfl⟩) <;> (try simp only [cd, apply, adopt, addNew, updO]) <;> simp <;> done)
        | (refine .inr (.inr ⟨2, { cont := x.decs.map decC, esz := 3, box := false, solo := true, tip := true }, by decide, by decide, ?_, ?_, rfl, rfl, rfl⟩) <;> (try simp only [cd, apply, adopt, addNew, updO]) <;> simp <;> done)
        | (refine .inr (.inr ⟨3, { cont := x.cuts.map cutC, esz := 2, box := false, solo := true, tip := true }, by decide, by decide, ?_, ?_, rfl, rfl, rfl⟩) <;> (try simp only [cd, apply, adopt, addNew, updO]) <;> simp <;> done)
        | (refine .inr (.inr ⟨3, { cont := x.decs.map decC, esz := 3, box := false, solo := true, tip := true }, by decide, by decide, ?_, ?_, rfl, rfl, rfl⟩) <;> (try simp only [cd, apply, adopt, addNew, updO]) <;> simp <;> done); done)
    | (refine ⟨_, _, _, _, 100, 1, _, rfl, rfl, ?_, ?_, ?_, by decide, ?_, ?_, ?_, ?_⟩ <;> first
        | exact .inl ⟨zf z1, rfl⟩
        | exact .inl ⟨zf z3, rfl⟩
        | exact .inl ⟨z2, rfl⟩
        | exact .inl ⟨z4, rfl⟩
        | exact .inr (.inl rfl)
        | (intro i hi; exact t1 _ _ i hi)
        | (intro k g hk; simp [apply, adopt, addNew, updO, hk]; done)
        | (intro k hk; simp [apply, adopt, upd, hk]; done)
        | (refine .inr ⟨?_, ?_⟩ <;> (try simp only [cd, apply, adopt, addNew, updO]) <;> simp <;> done)
        | (refine .inr (.inr ⟨0, { cont := x.cuts.map cutC, esz := 2, box := false, solo := true, tip := true }, by decide, by decide, ?_, ?_, rfl, rfl, rfl⟩) <;> (try simp only [cd, apply, adopt, addNew, updO]) <;> simp <;> done)
        | (refine .inr (.inr ⟨0, { cont := x.decs.map decC, esz := 3, box := false, solo := true, tip := true }, by decide, by decide, ?_, ?_, rfl, rfl, rfl⟩) <;> (try simp only [cd, apply, adopt, addNew, updO]) <;> simp <;> done)
        | (refine .inr (.inr ⟨1, { cont := x.cuts.map cutC, esz := 2, box := false, solo := true, tip := true }, by decide, by decide, ?_, ?_, rfl, rfl, rfl⟩) <;> (try simp only [cd, apply, adopt, addNew, updO]) <;> simp <;> done)
        | (refine .inr (.inr ⟨1, { cont := x.decs.map decC, esz := 3, box := false, solo := true, tip := true }, by decide, by decide, ?_, ?_, rfl, rfl, rfl⟩) <;> (try simp only [cd, apply, adopt, addNew, updO]) <;> simp <;> done)
        | (refine .inr (.inr ⟨2, { cont := x.cuts.map cutC, esz := 2, box := false, solo := true, tip := true }, by decide, by decide, ?_, ?_, rfl, rfl, rfl⟩) <;> (try simp only [cd, apply, adopt, addNew, updO]) <;> simp <;> done)
        | (refine .inr (.inr ⟨2, { cont := x.decs.map decC, esz := 3, box := false, solo := true, tip := true }, by decide, by decide, ?_, ?_, rfl, rfl, rfl⟩) <;> (try simp only [cd, apply, adopt, addNew, updO]) <;> simp <;> done)
        | (refine .inr (.inr ⟨3, { cont := x.cuts.map cutC, esz := 2, box := false, solo := true, tip := true }, by decide, by decide, ?_, ?_, rfl, rfl, rfl⟩) <;> (try simp only [cd, apply, adopt, addNew, updO]) <;> simp <;> done)
        | (refine .inr (.inr ⟨3, { cont := x.decs.map decC, esz := 3, box := false, solo := true, tip := true }, by decide, by decide, ?_, ?_, rfl, rfl, rfl⟩) <;> (try simp only [cd, apply, adopt, addNew, updO]) <;> simp <;> done); done)
    | (refine ⟨_, _, _, _, 100, 101, _, rfl, rfl, ?_, ?_, ?_, by decide, ?_, ?_, ?_, ?_⟩ <;> first
        | exact .inl ⟨zf z1, rfl⟩
        | exact .inl ⟨zf z3, rfl⟩
        | exact .inl ⟨z2, rfl⟩
        | exact .inl ⟨z4, rfl⟩
        | exact .inr (.inl rfl)
        | (intro i hi; exact t1 _ _ i hi)
        | (intro k g hk; simp [apply, adopt, addNew, updO, hk]; done)
        | (intro k hk; simp [apply, adopt, upd, hk]; done)
        | (refine .inr ⟨?_, ?_⟩ <;> (try simp only [cd, apply, adopt, addNew, updO]) <;> simp <;> done)
        | (refine .inr (.inr ⟨0, { cont := x.cuts.map cutC, esz := 2, box := false, solo := true, tip := true }, by decide, by decide, ?_, ?_, rfl, rfl, rfl⟩) <;> (try simp only [cd, apply, adopt, addNew, updO]) <;> simp <;> done)
        | (refine .inr (.inr ⟨0, { cont := x.decs.map decC, esz := 3, box := false, solo := true, tip := true }, by decide, by decide, ?_, ?_, rfl, rfl, rfl⟩) <;> (try simp only [cd, apply, adopt, addNew, updO]) <;> simp <;> done)
        | (refine .inr (.inr ⟨1, { cont := x.cuts.map cutC, esz := 2, box := false, solo := true, tip := true }, by decide, by decide, ?_, ?_, rfl, rfl, rfl⟩) <;> (try simp only [cd, apply, adopt, addNew, updO]) <;> simp <;> done)
        | (refine .inr (.inr ⟨1, { cont := x.decs.map decC, esz := 3, box := false, solo := true, tip := true }, by decide, by decide, ?_, ?_, rfl, rfl, rfl⟩) <;> (try simp only [cd, apply, adopt, addNew, updO]) <;> simp <;> done)
        | (refine .inr (.inr ⟨2, { cont := x.cuts.map cutC, esz := 2, box := false, solo := true, tip := true }, by decide, by decide, ?_, ?_, rfl, rfl, rfl⟩) <;> (try simp only [cd, apply, adopt, addNew, updO]) <;> simp <;> done)
        | (refine .inr (.inr ⟨2, { cont := x.decs.map decC, esz := 3, box := false, solo := true, tip := true }, by decide, by decide, ?_, ?_, rfl, rfl, rfl⟩) <;> (try simp only [cd, apply, adopt, addNew, updO]) <;> simp <;> done)
        | (refine .inr (.inr ⟨3, { cont := x.cuts.map cutC, esz := 2, box := false, solo := true, tip := true }, by decide, by decide, ?_, ?_, rfl, rfl, rfl⟩) <;> (try simp only [cd, apply, adopt, addNew, updO]) <;> simp <;> done)
        | (refine .inr (.inr ⟨3, { cont := x.decs.map decC, esz := 3, box := false, solo := true, tip := true }, by decide, by decide, ?_, ?_, rfl, rfl, rfl⟩) <;> (try simp only [cd, apply, adopt, addNew, updO]) <;> simp <;> done); done)
end Go.TM.Fn
end
section
namespace Go.TM.Fn
open Go Go.TM Go.Plain
set_option linter.unusedVariables false
set_option linter.unusedSimpArgs false
set_option maxRecDepth 20000
set_option maxHeartbeats 8000000
def mixV (num den : Int) (a b : RQ) : RQ := rqOf (Rat.divInt num den * a.val + Rat.divInt (den - num) den * b.val)
def mixL (num den : Int) (us vs : List RQ) : List RQ := (List.range us.length).map fun i => mixV num den (us.getD i default) (vs.getD i default)
def Shape (x y : Pri) : Prop := x.fls.length = y.fls.length ∧ x.duals.length = x.cuts.length ∧ y.duals.length = x.cuts.length ∧ x.decs = y.decs ∧ x.free = y.free
instance (x y : Pri) : Decidable (Shape x y) := by unfold Shape; infer_instance
def zeroP : Pri := ⟨[], [], [], [], false⟩
def mixR (x y : Pri) (num den : Int) : Pri × Int :=
  if den < 1 ∨ num < 0 ∨ den < num then (zeroP, 5) else if Shape x y then (⟨mixL num den x.fls y.fls, x.cuts, mixL num den x.duals y.duals, x.decs, x.free⟩, 0) else (zeroP, 12)
theorem mixL_len (num den us vs) : (mixL num den us vs).length = us.length := by simp [mixL]
theorem mixL_get {num den us vs} {i : Nat} (h : i < us.length) : (mixL num den us vs).getD i default = mixV num den (us.getD i default) (vs.getD i default) := by
  simp [mixL, List.getD_eq_getElem?_getD, h]
theorem RowF.tree {s d g v xs} (h : RowF s d g v xs) : tree1 s.obj v = some (.sl (xs.map rqC)) := by
  rcases h with ⟨rfl, rfl⟩ | ⟨rfl, h⟩
  · rfl
  · simp [tree1, h]
    rw [List.take_of_length_le (by simp)]
theorem OutC.tree {s d gF gD v e xs} (h : OutC s d gF gD v e xs) : tree1 s.obj v = some (.sl xs) := by
  rcases h with ⟨rfl, rfl⟩ | rfl | ⟨g, o, _, _, rfl, h, rfl, hb, he⟩
  · rfl
  · rfl
  · simp [tree1, h, hb, he]
theorem RowF.mono {s s' d g v xs} (h : RowF s d g v xs) (ho : s'.obj d g = s.obj d g) : RowF s' d g v xs := by
  rcases h with h | ⟨h1, h2⟩
  · exact .inl h
  · exact .inr ⟨h1, by rw [ho]; exact h2⟩
theorem OutC.mono {s s' d gF gD v e xs} (h : OutC s d gF gD v e xs) (ho : ∀ g, g ≠ gF → g ≠ gD → s'.obj d g = s.obj d g) : OutC s' d gF gD v e xs := by
  rcases h with h | h | ⟨g, o, h1, h2, h3, h4, h5⟩
  · exact .inl h
  · exact .inr (.inl h)
  · exact .inr (.inr ⟨g, o, h1, h2, h3, by rw [ho g h1 h2]; exact h4, h5⟩)
theorem RowF.len {s d g v xs} (h : RowF s d g v xs) : lenTV false v = some (.int .i64 (xs.length : Nat)) := by
  rcases h with ⟨rfl, rfl⟩ | ⟨rfl, _⟩ <;> rfl
theorem RowF.cells {s d g v xs} (h : RowF s d g v xs) : v.cells = [v] := by
  rcases h with ⟨rfl, rfl⟩ | ⟨rfl, _⟩ <;> rfl
theorem store_row4 {ob : Nat → Nat → Option Obj} {k g i : Nat} {L : List RQ} (r : RQ) (ho : ob k g = some { cont := L.map rqC, esz := 4, box := false, solo := true, tip := true }) (hi : i < L.length) :
    storeE ob 4 (.ptr k g i 0) (.agg (rqC r)) = some { mods := [(k, g, some { cont := (L.set i r).map rqC, esz := 4, box := false, solo := true, tip := true })] } := by
  have h1 : (L.map rqC)[i]? = some (rqC (L.getD i default)) := by simp [List.getElem?_map, List.getD_eq_getElem?_getD, hi]
  simp [storeE, ho, h1, TV.cells, hands, rqC, hand1, trees, tree1, splice, List.map_set]
theorem wp_copied {Q : St → Prop} {st : St} (x : Pri) (hx : x.Can) (vk r args) (ha : argsOf (restrict st.obj vk) [] 0 (args.map (Go.TM.val st.env)) = some [priT x]) (hh : heldOf [] 0 (args.map (Go.TM.val st.env)) = []) (hc : st.cnt 76 = 0)
    (hQ : ∀ (F C D E : TV) (gF gD : Nat) (s1 : St), s1.env 76 = .agg [F, C, D, E, .bool x.free] → (∀ i, i ≠ 76 → s1.env i = st.env i) → (∀ k g, k ≠ 76 → s1.obj k g = st.obj k g) → (∀ k, k ≠ 76 → s1.cnt k = st.cnt k) →
      gF ≠ gD → RowF s1 76 gF F x.fls → OutC s1 76 gF gD C 2 (x.cuts.map cutC) → RowF s1 76 gD D x.duals → OutC s1 76 gF gD E 3 (x.decs.map decC) → Wp mach r Q s1) :
    Wp mach (⟨some 76, .call 21 1 [] args, none, vk⟩ :: r) Q st := by
  obtain ⟨rv, hb, hcall⟩ := copied_o x hx
  obtain ⟨cs, rfl, had⟩ := adopt_cop hb
  obtain ⟨F, C, D, E, gF, gD, s1, rfl, h1, h2, h3, h4, h5, h6, h7, h8, h9⟩ := had st hc
  rw [wp_call1a (hc := hcall) (ha := ha) (hh := hh)]
  exact hQ F C D E gF gD _ h1 h2 h3 h4 h5 h6 h7 h8 h9
abbrev eL (q : Rat) : List TV := [.bool (decide (q.num < 0)), .sl (dig (toDig q.num.natAbs)), .bool (decide ((q.den : Int) < 0)), .sl (dig (toDig (q.den : Int).natAbs))]
abbrev bx (c : List TV) (n : Nat) : Option Obj := some { cont := [c], esz := n, box := true, solo := true, tip := false }
structure MI (s : St) (x y : Pri) (p q : Rat) (F C D E : TV) (gF gD : Nat) (LF LD : List RQ) : Prop where
  e4 : s.env 4 = .ptr 4 0 0 0
  e5 : s.env 5 = .ptr 5 0 0 0
  e8 : s.env 8 = .ptr 8 0 0 0
  e10 : s.env 10 = .ptr 10 0 0 0
  e12 : s.env 12 = .ptr 12 0 0 0
  e14 : s.env 14 = .ptr 14 0 0 0
  o4 : s.obj 4 0 = bx (priL x) 5
  o5 : s.obj 5 0 = bx (priL y) 5
  o8 : s.obj 8 0 = bx [.nils, .nils, .nils, .nils, .bool false] 5
  o10 : s.obj 10 0 = bx (eL p) 4
  o12 : s.obj 12 0 = bx (eL q) 4
  o14 : s.obj 14 0 = bx [F, C, D, E, .bool x.free] 5
  ne : gF ≠ gD
  rF : RowF s 76 gF F LF
  rC : OutC s 76 gF gD C 2 (x.cuts.map cutC)
  rD : RowF s 76 gD D LD
  rE : OutC s 76 gF gD E 3 (x.decs.map decC)
theorem gsetE {α : Type} {dflt : α} {L : List α} {i j : Nat} {v : α} (hi : i < L.length) : (L.set i v).getD j dflt = if j = i then v else L.getD j dflt := by
  rw [List.getD_eq_getElem?_getD, List.getElem?_set]
  by_cases h : j = i
  · subst h; simp [hi]
  · rw [if_neg (Ne.symm h), if_neg h, List.getD_eq_getElem?_getD]
theorem mixP0 {Q : Ex → St → Prop} {st : St} (x y : Pri) (hx : x.Can) (hy : y.Can) (num den : Int) (hn : I64 num) (hd : I64 den) (hdn : I64 (den - num)) (hxy : x.fls.length ≤ y.fls.length) {F C D E : TV} {gF gD : Nat} {LD : List RQ}
    (h : MI st x y (Rat.divInt num den) (Rat.divInt (den - num) den) F C D E gF gD x.fls LD) (h78 : st.env 78 = F) (h79 : st.env 79 = .int .i64 (x.fls.length : Nat)) (h80 : st.env 80 = .int .i64 0)
    (hQ : ∀ s, MI s x y (Rat.divInt num den) (Rat.divInt (den - num) den) F C D E gF gD (mixL num den x.fls y.fls) LD → Q (.exit 0) s) : Goes mach (.loop L7_0) Q st := by
  have hl : x.fls.length < 1000000 := hx.fls
  have d1 := dq_divInt (k := 2) (by omega) (di_i64 hn) (di_i64 hd)
  have d2 := dq_divInt (k := 2) (by omega) (di_i64 hdn) (di_i64 hd)
  refine wp_for (fun i s => s.env 79 = .int .i64 (x.fls.length : Nat) ∧ s.env 80 = .int .i64 (i : Nat) ∧ ∃ L, MI s x y (Rat.divInt num den) (Rat.divInt (den - num) den) F C D E gF gD L LD ∧ L.length = x.fls.length ∧ ∀ j, j < i → L.getD j default = mixV num den (x.fls.getD j default) (y.fls.getD j default)) x.fls.length ?_ ?_ x.fls.length 0 _ (by omega) ?_
  · rintro i s hi ⟨h79, h80, L, h, hL, hall⟩
    obtain ⟨e4, e5, e8, e10, e12, e14, o4, o5, o8, o10, o12, o14, ne, rF, rC, rD, rE⟩ := h
    have hw : IntKind.i64.wrap ((i + 1 : Nat) : Int) = (i + 1 : Nat) := wrap_i64n (by omega)
    have hi2 : i < y.fls.length := by omega
    have hiL : i < L.length := by omega
    obtain ⟨vF, ob⟩ : F = .hs 76 gF 4 L.length ∧ s.obj 76 gF = some { cont := L.map rqC, esz := 4, box := false, solo := true, tip := true } := by
      rcases rF with ⟨z, _⟩ | z
      · rw [z] at hiL; simp at hiL
      · exact z
    have ia := iaddr_map (C := rqC) (kk := .i64) default (e := 4) (fun _ => rfl) hi
    have ib := iaddr_map (C := rqC) (kk := .i64) default (e := 4) (fun _ => rfl) hi2
    have oka := (hx.fc _ (getD_mem default hi)).ok
    have okb := (hy.fc _ (getD_mem default hi2)).ok
    have hset : ∀ j, j < i + 1 → (L.set i (mixV num den (x.fls.getD i default) (y.fls.getD i default))).getD j default = mixV num den (x.fls.getD j default) (y.fls.getD j default) := fun j hj => by
      rw [gsetE hiL]
      by_cases hji : j = i
      · subst hji; rw [if_pos rfl]
      · rw [if_neg hji]; exact hall j (by omega)
    have st4 := fun o ho => store_row4 (ob := o) (k := 76) (g := gF) (i := i) (L := L) (mixV num den (x.fls.getD i default) (y.fls.getD i default)) ho hiL
    unfold mixV at hset st4
    generalize x.fls.getD i default = a at *
    generalize y.fls.getD i default = b at *
    have m1 := qmul_c (isQ_enc d1) (RQ.isQ oka) (by omega) (by omega) (by omega)
    have m2 := qmul_c (isQ_enc d2) (RQ.isQ okb) (by omega) (by omega) (by omega)
    have q1 := dq_mul d1 ((RQ.isQ oka).dq (by omega)) (by omega)
    have q2 := dq_mul d2 ((RQ.isQ okb).dq (by omega)) (by omega)
    have ad := qadd_c (isQ_enc q1) (isQ_enc q2) (by omega) (by omega) (by omega)
    generalize Rat.divInt num den * a.val + Rat.divInt (den - num) den * b.val = w at *
    have il : i < L.length := hiL
    simp only [rqC] at ia ib m1 m2
    simp only [rqC, rqOf] at st4
    subst vF
    simp only [L7_0, tmR, seval, e4, e5, e10, e12, e14, o4, o5, o10, o12, o14, h79, h80, nat_lt, hi, ia, ib, wpcall_eq m1, wpcall_eq m2, wpcall_eq ad, iaddr_hs il, ob, st4, nat_add_one, hw]
    trace_state
    refine ⟨L.set i (rqOf w), ⟨?_, ?_, ?_, ?_, ?_, ?_, ?_, ?_, ?_, ?_, ?_, ?_, ne, ?_, ?_, ?_, ?_⟩, by simp [hL], hset⟩
    · simp only [tmD, reduceIte, Nat.reduceEqDiff, Nat.reduceAdd, e4]
    · simp only [tmD, reduceIte, Nat.reduceEqDiff, Nat.reduceAdd, e5]
    · simp only [tmD, reduceIte, Nat.reduceEqDiff, Nat.reduceAdd, e8]
    · simp only [tmD, reduceIte, Nat.reduceEqDiff, Nat.reduceAdd, e10]
    · simp only [tmD, reduceIte, Nat.reduceEqDiff, Nat.reduceAdd, e12]
    · simp only [tmD, reduceIte, Nat.reduceEqDiff, Nat.reduceAdd, e14]
    · simp only [tmD, reduceIte, Nat.reduceEqDiff, Nat.reduceAdd, o4]
    · simp only [tmD, reduceIte, Nat.reduceEqDiff, Nat.reduceAdd, o5]
    · simp only [tmD, reduceIte, Nat.reduceEqDiff, Nat.reduceAdd, o8]
    · simp only [tmD, reduceIte, Nat.reduceEqDiff, Nat.reduceAdd, o10]
    · simp only [tmD, reduceIte, Nat.reduceEqDiff, Nat.reduceAdd, o12]
    · simp only [tmD, reduceIte, Nat.reduceEqDiff, Nat.reduceAdd, o14]
    · exact .inr ⟨by simp, by simp only [tmD, reduceIte, Nat.reduceEqDiff, Nat.reduceAdd]; rfl⟩
    · exact rC.mono (fun g h1 h2 => by simp only [tmD, reduceIte, Nat.reduceEqDiff, Nat.reduceAdd, h1])
    · exact rD.mono (by simp only [tmD, reduceIte, Nat.reduceEqDiff, Nat.reduceAdd, Ne.symm ne])
    · exact rE.mono (fun g h1 h2 => by simp only [tmD, reduceIte, Nat.reduceEqDiff, Nat.reduceAdd, h1])
  · rintro s ⟨h79, h80, L, h, hL, hall⟩
    have e : L = mixL num den x.fls y.fls := eq_of_getE default (by rw [hL, mixL_len]) (fun m hm => by rw [hall m (by omega), mixL_get (by omega)])
    subst e
    obtain ⟨e4, e5, e8, e10, e12, e14, o4, o5, o8, o10, o12, o14, ne, rF, rC, rD, rE⟩ := h
    simp only [L7_0, tmR, seval, h79, h80, Int.lt_irrefl]
    exact hQ _ ⟨e4, e5, e8, e10, e12, e14, o4, o5, o8, o10, o12, o14, ne, rF, rC, rD, rE⟩
  · exact ⟨h79, h80, _, h, rfl, fun j hj => by omega⟩
theorem mixP1 {Q : Ex → St → Prop} {st : St} (x y : Pri) (hx : x.Can) (hy : y.Can) (num den : Int) (hn : I64 num) (hd : I64 den) (hdn : I64 (den - num)) (hxy : x.duals.length ≤ y.duals.length) {F C D E : TV} {gF gD : Nat} {LF : List RQ}
    (h : MI st x y (Rat.divInt num den) (Rat.divInt (den - num) den) F C D E gF gD LF x.duals) (h104 : st.env 104 = D) (h105 : st.env 105 = .int .i64 (x.duals.length : Nat)) (h106 : st.env 106 = .int .i64 0)
    (hQ : ∀ s, MI s x y (Rat.divInt num den) (Rat.divInt (den - num) den) F C D E gF gD LF (mixL num den x.duals y.duals) → Q (.exit 2) s) : Goes mach (.loop L7_1) Q st := by
  have hl : x.duals.length < 1000000 := hx.duals
  have d1 := dq_divInt (k := 2) (by omega) (di_i64 hn) (di_i64 hd)
  have d2 := dq_divInt (k := 2) (by omega) (di_i64 hdn) (di_i64 hd)
  refine wp_for (fun i s => s.env 105 = .int .i64 (x.duals.length : Nat) ∧ s.env 106 = .int .i64 (i : Nat) ∧ ∃ L, MI s x y (Rat.divInt num den) (Rat.divInt (den - num) den) F C D E gF gD LF L ∧ L.length = x.duals.length ∧ ∀ j, j < i → L.getD j default = mixV num den (x.duals.getD j default) (y.duals.getD j default)) x.duals.length ?_ ?_ x.duals.length 0 _ (by omega) ?_
  · rintro i s hi ⟨h105, h106, L, h, hL, hall⟩
    obtain ⟨e4, e5, e8, e10, e12, e14, o4, o5, o8, o10, o12, o14, ne, rF, rC, rD, rE⟩ := h
    have hw : IntKind.i64.wrap ((i + 1 : Nat) : Int) = (i + 1 : Nat) := wrap_i64n (by omega)
    have hi2 : i < y.duals.length := by omega
    have hiL : i < L.length := by omega
    obtain ⟨vD, ob⟩ : D = .hs 76 gD 4 L.length ∧ s.obj 76 gD = some { cont := L.map rqC, esz := 4, box := false, solo := true, tip := true } := by
      rcases rD with ⟨z, _⟩ | z
      · rw [z] at hiL; simp at hiL
      · exact z
    have ia := iaddr_map (C := rqC) (kk := .i64) default (e := 4) (fun _ => rfl) hi
    have ib := iaddr_map (C := rqC) (kk := .i64) default (e := 4) (fun _ => rfl) hi2
    have oka := (hx.dc _ (getD_mem default hi)).ok
    have okb := (hy.dc _ (getD_mem default hi2)).ok
    have hset : ∀ j, j < i + 1 → (L.set i (mixV num den (x.duals.getD i default) (y.duals.getD i default))).getD j default = mixV num den (x.duals.getD j default) (y.duals.getD j default) := fun j hj => by
      rw [gsetE hiL]
      by_cases hji : j = i
      · subst hji; rw [if_pos rfl]
      · rw [if_neg hji]; exact hall j (by omega)
    have st4 := fun o ho => store_row4 (ob := o) (k := 76) (g := gD) (i := i) (L := L) (mixV num den (x.duals.getD i default) (y.duals.getD i default)) ho hiL
    unfold mixV at hset st4
    generalize x.duals.getD i default = a at *
    generalize y.duals.getD i default = b at *
    have m1 := qmul_c (isQ_enc d1) (RQ.isQ oka) (by omega) (by omega) (by omega)
    have m2 := qmul_c (isQ_enc d2) (RQ.isQ okb) (by omega) (by omega) (by omega)
    have q1 := dq_mul d1 ((RQ.isQ oka).dq (by omega)) (by omega)
    have q2 := dq_mul d2 ((RQ.isQ okb).dq (by omega)) (by omega)
    have ad := qadd_c (isQ_enc q1) (isQ_enc q2) (by omega) (by omega) (by omega)
    generalize Rat.divInt num den * a.val + Rat.divInt (den - num) den * b.val = w at *
    have il : i < L.length := hiL
    simp only [rqC] at ia ib m1 m2
    simp only [rqC, rqOf] at st4
    subst vD
    simp only [L7_1, tmR, seval, e4, e5, e10, e12, e14, o4, o5, o10, o12, o14, h105, h106, nat_lt, hi, ia, ib, wpcall_eq m1, wpcall_eq m2, wpcall_eq ad, iaddr_hs il, ob, st4, nat_add_one, hw]
    trace_state
    refine ⟨L.set i (rqOf w), ⟨?_, ?_, ?_, ?_, ?_, ?_, ?_, ?_, ?_, ?_, ?_, ?_, ne, ?_, ?_, ?_, ?_⟩, by simp [hL], hset⟩
    · simp only [tmD, reduceIte, Nat.reduceEqDiff, Nat.reduceAdd, e4]
    · simp only [tmD, reduceIte, Nat.reduceEqDiff, Nat.reduceAdd, e5]
    · simp only [tmD, reduceIte, Nat.reduceEqDiff, Nat.reduceAdd, e8]
    · simp only [tmD, reduceIte, Nat.reduceEqDiff, Nat.reduceAdd, e10]
    · simp only [tmD, reduceIte, Nat.reduceEqDiff, Nat.reduceAdd, e12]
    · simp only [tmD, reduceIte, Nat.reduceEqDiff, Nat.reduceAdd, e14]
    · simp only [tmD, reduceIte, Nat.reduceEqDiff, Nat.reduceAdd, o4]
    · simp only [tmD, reduceIte, Nat.reduceEqDiff, Nat.reduceAdd, o5]
    · simp only [tmD, reduceIte, Nat.reduceEqDiff, Nat.reduceAdd, o8]
    · simp only [tmD, reduceIte, Nat.reduceEqDiff, Nat.reduceAdd, o10]
    · simp only [tmD, reduceIte, Nat.reduceEqDiff, Nat.reduceAdd, o12]
    · simp only [tmD, reduceIte, Nat.reduceEqDiff, Nat.reduceAdd, o14]
    · exact rF.mono (by simp only [tmD, reduceIte, Nat.reduceEqDiff, Nat.reduceAdd, ne])
    · exact rC.mono (fun g h1 h2 => by simp only [tmD, reduceIte, Nat.reduceEqDiff, Nat.reduceAdd, h2])
    · exact .inr ⟨by simp, by simp only [tmD, reduceIte, Nat.reduceEqDiff, Nat.reduceAdd]; rfl⟩
    · exact rE.mono (fun g h1 h2 => by simp only [tmD, reduceIte, Nat.reduceEqDiff, Nat.reduceAdd, h2])
  · rintro s ⟨h105, h106, L, h, hL, hall⟩
    have e : L = mixL num den x.duals y.duals := eq_of_getE default (by rw [hL, mixL_len]) (fun m hm => by rw [hall m (by omega), mixL_get (by omega)])
    subst e
    obtain ⟨e4, e5, e8, e10, e12, e14, o4, o5, o8, o10, o12, o14, ne, rF, rC, rD, rE⟩ := h
    simp only [L7_1, tmR, seval, h105, h106, Int.lt_irrefl]
    exact hQ _ ⟨e4, e5, e8, e10, e12, e14, o4, o5, o8, o10, o12, o14, ne, rF, rC, rD, rE⟩
  · exact ⟨h105, h106, _, h, rfl, fun j hj => by omega⟩
end Go.TM.Fn
end
section
namespace Go.TM.Fn
open Go Go.TM Go.Plain
set_option linter.unusedVariables false
set_option linter.unusedSimpArgs false
set_option maxRecDepth 20000
set_option maxHeartbeats 8000000
theorem mixR_err {x y : Pri} {num den : Int} (h : den < 1 ∨ num < 0 ∨ den < num) : mixR x y num den = (zeroP, 5) := by unfold mixR; rw [if_pos h]
theorem mixR_bad {x y : Pri} {num den : Int} (h : ¬ (den < 1 ∨ num < 0 ∨ den < num)) (hs : ¬ Shape x y) : mixR x y num den = (zeroP, 12) := by unfold mixR; rw [if_neg h, if_neg hs]
theorem mixR_ok {x y : Pri} {num den : Int} (h : ¬ (den < 1 ∨ num < 0 ∨ den < num)) (hs : Shape x y) : mixR x y num den = (⟨mixL num den x.fls y.fls, x.cuts, mixL num den x.duals y.duals, x.decs, x.free⟩, 0) := by unfold mixR; rw [if_neg h, if_pos hs]
theorem mix_fin {s : St} {args : List TV} {F C D E : TV} {z : Int} (p : Pri) (ha : hasOwn args = false) (hm : mutsOf s 0 args = some []) (e8 : s.env 8 = .ptr 8 0 0 0) (e9 : s.env 9 = .int .i64 z) (o8 : s.obj 8 0 = bx [F, C, D, E, .bool p.free] 5)
    (kF : tree1 s.obj F = some (.sl (p.fls.map rqC))) (kC : tree1 s.obj C = some (.sl (p.cuts.map cutC))) (kD : tree1 s.obj D = some (.sl (p.duals.map rqC))) (kE : tree1 s.obj E = some (.sl (p.decs.map decC))) :
    ∃ rv, finishR [.cell 8 5 true, .tmp 9] args s = some (rv, []) ∧ view rv = .tup [priT p, .int .i64 z] := by
  refine ⟨.tup [priT p, .int .i64 z], ?_, by simp [view, viewA, view1]⟩
  simp [finishR, resVals, resVal, e8, e9, o8, pull, hm, ha, treeAll, tree_agg, tree_int, trees, kF, kC, kD, kE, tree1_bool, tree1_int]
theorem pmix_c (x y : Pri) (hc : x.cuts = y.cuts) (hx : x.Can) (hy : y.Can) (num den : Int) (hn : -1000 ≤ num ∧ num ≤ 1000) (hd : -1000 ≤ den ∧ den ≤ 1000) :
    Gives mach 7 [priT x, priT y, .int .i64 num, .int .i64 den] (.tup [priT (mixR x y num den).1, .int .i64 (mixR x y num den).2]) := by
  have l1 : (x.fls.map rqC).length = x.fls.length := map_len _
  have l2 : (x.cuts.map cutC).length = x.cuts.length := map_len _
  have l3 : (x.duals.map rqC).length = x.duals.length := map_len _
  have m1 : (y.fls.map rqC).length = y.fls.length := map_len _
  have m3 : (y.duals.map rqC).length = y.duals.length := map_len _
  refine gives tab7 rfl ?_
  by_cases h1 : den < 1
  · rw [mixR_err (.inl h1)]
    simp only [F7, tmR, seval, h1, Bool.not_true, Bool.not_false, tmF]
    rfl
  by_cases h2 : num < 0
  · rw [mixR_err (.inr (.inl h2))]
    simp only [F7, tmR, seval, h1, h2, Bool.not_true, Bool.not_false, tmF]
    rfl
  by_cases h3 : den < num
  · rw [mixR_err (.inr (.inr h3))]
    simp only [F7, tmR, seval, h1, h2, h3, Bool.not_true, Bool.not_false, tmF]
    rfl
  have herr : ¬ (den < 1 ∨ num < 0 ∨ den < num) := by omega
  rcases Decidable.em (¬ (x.fls.length = y.fls.length)) with s1 | s1
  · rw [mixR_bad herr (fun h => s1 h.1)]
    have c1 : ((x.fls.length : Int) = (y.fls.length : Int)) = False := eq_false (by omega)
    simp only [F7, tmR, seval, h1, h2, h3, Bool.not_true, Bool.not_false, l1, m1, c1, tmF]
    rfl
  replace s1 := Decidable.not_not.1 s1
  have c1 : ((x.fls.length : Int) = (y.fls.length : Int)) = True := eq_true (by omega)
  rcases Decidable.em (¬ (x.duals.length = x.cuts.length)) with s2 | s2
  · rw [mixR_bad herr (fun h => s2 h.2.1)]
    have c2 : ((x.duals.length : Int) = (x.cuts.length : Int)) = False := eq_false (by omega)
    simp only [F7, tmR, seval, h1, h2, h3, Bool.not_true, Bool.not_false, l1, l2, l3, m1, c1, c2, tmF]
    rfl
  replace s2 := Decidable.not_not.1 s2
  have c2 : ((x.duals.length : Int) = (x.cuts.length : Int)) = True := eq_true (by omega)
  rcases Decidable.em (¬ (y.duals.length = x.cuts.length)) with s3 | s3
  · rw [mixR_bad herr (fun h => s3 h.2.2.1)]
    have c3 : ((y.duals.length : Int) = (x.cuts.length : Int)) = False := eq_false (by omega)
    simp only [F7, tmR, seval, h1, h2, h3, Bool.not_true, Bool.not_false, l1, l2, l3, m1, m3, c1, c2, c3, tmF]
    rfl
  replace s3 := Decidable.not_not.1 s3
  have c3 : ((y.duals.length : Int) = (x.cuts.length : Int)) = True := eq_true (by omega)
  have al := alike_c x y hc hx hy
  rcases Decidable.em (¬ (x.decs = y.decs ∧ x.free = y.free)) with s4 | s4
  · rw [mixR_bad herr (fun h => s4 h.2.2.2)]
    have c4 : (decide (x.decs = y.decs) && (x.free == y.free)) = false := by
      rw [Bool.and_eq_false_iff]
      by_cases hq : x.decs = y.decs
      · exact .inr (by simpa using fun h => s4 ⟨hq, h⟩)
      · exact .inl (by simpa using hq)
    rw [c4] at al
    simp only [F7, tmR, seval, h1, h2, h3, Bool.not_true, Bool.not_false, l1, l2, l3, m1, m3, c1, c2, c3, wpcall_eq al, tmF]
    rfl
  replace s4 := Decidable.not_not.1 s4
  have c4 : (decide (x.decs = y.decs) && (x.free == y.free)) = true := by simp [s4.1, s4.2]
  rw [c4] at al
  rw [mixR_ok herr ⟨s1, s2, s3, s4⟩]
  have in1 : I64 num := by unfold I64; omega
  have in2 : I64 den := by unfold I64; omega
  have in3 : I64 (den - num) := by unfold I64; omega
  have f1 := qfrom_c in1 in2 (by omega)
  have f2 := qfrom_c in3 in2 (by omega)
  have hw : IntKind.i64.wrap (den - num) = den - num := wrap_i64 (by omega) (by omega)
  simp only [F7, tmR, seval, h1, h2, h3, Bool.not_true, Bool.not_false, l1, l2, l3, m1, m3, c1, c2, c3, wpcall_eq al, wpcall_eq f1, hw, wpcall_eq f2]
  refine wp_copied x hx _ _ _ ?_ ?_ ?_ (fun F C D E gF gD s v76 henv hobj hcnt ne rF rC rD rE => ?_)
  · simp only [tmR, seval]
  · simp only [tmR, seval]
  · simp only [tmD, reduceIte, Nat.reduceEqDiff, Nat.reduceAdd]
  have e4 := henv 4 (by decide)
  have e5 := henv 5 (by decide)
  have e8 := henv 8 (by decide)
  have e10 := henv 10 (by decide)
  have e12 := henv 12 (by decide)
  have o4 := hobj 4 0 (by decide)
  have o5 := hobj 5 0 (by decide)
  have o8 := hobj 8 0 (by decide)
  have o10 := hobj 10 0 (by decide)
  have o12 := hobj 12 0 (by decide)
  have n14 := hcnt 14 (by decide)
  simp only [tmD, reduceIte, Nat.reduceEqDiff, Nat.reduceAdd] at e4 e5 e8 e10 e12 o4 o5 o8 o10 o12 n14
  have cF := rF.len
  simp only [tmR, seval, v76, n14, cF]
  refine mixP0 x y hx hy num den in1 in2 in3 (by omega) (F := F) (C := C) (D := D) (E := E) (gF := gF) (gD := gD) (LD := x.duals) ⟨?_, ?_, ?_, ?_, ?_, ?_, ?_, ?_, ?_, ?_, ?_, ?_, ne, ?_, ?_, ?_, ?_⟩ ?_ ?_ ?_ (fun s h => ?_)
  · simp only [tmD, reduceIte, Nat.reduceEqDiff, Nat.reduceAdd, e4]
  · simp only [tmD, reduceIte, Nat.reduceEqDiff, Nat.reduceAdd, e5]
  · simp only [tmD, reduceIte, Nat.reduceEqDiff, Nat.reduceAdd, e8]
  · simp only [tmD, reduceIte, Nat.reduceEqDiff, Nat.reduceAdd, e10]
  · simp only [tmD, reduceIte, Nat.reduceEqDiff, Nat.reduceAdd, e12]
  · simp only [tmD, reduceIte, Nat.reduceEqDiff, Nat.reduceAdd]
  · simp only [tmD, reduceIte, Nat.reduceEqDiff, Nat.reduceAdd, o4]
  · simp only [tmD, reduceIte, Nat.reduceEqDiff, Nat.reduceAdd, o5]
  · simp only [tmD, reduceIte, Nat.reduceEqDiff, Nat.reduceAdd, o8]
  · simp only [tmD, reduceIte, Nat.reduceEqDiff, Nat.reduceAdd, o10]
  · simp only [tmD, reduceIte, Nat.reduceEqDiff, Nat.reduceAdd, o12]
  · simp only [tmD, reduceIte, Nat.reduceEqDiff, Nat.reduceAdd]
  · exact rF.mono (by simp only [tmD, reduceIte, Nat.reduceEqDiff, Nat.reduceAdd])
  · exact rC.mono (fun g _ _ => by simp only [tmD, reduceIte, Nat.reduceEqDiff, Nat.reduceAdd])
  · exact rD.mono (by simp only [tmD, reduceIte, Nat.reduceEqDiff, Nat.reduceAdd])
  · exact rE.mono (fun g _ _ => by simp only [tmD, reduceIte, Nat.reduceEqDiff, Nat.reduceAdd])
  · simp only [tmD, reduceIte, Nat.reduceEqDiff, Nat.reduceAdd]
  · simp only [tmD, reduceIte, Nat.reduceEqDiff, Nat.reduceAdd]
  · simp only [tmD, reduceIte, Nat.reduceEqDiff, Nat.reduceAdd]
  obtain ⟨e4, e5, e8, e10, e12, e14, o4, o5, o8, o10, o12, o14, ne, rF, rC, rD, rE⟩ := h
  have cD := rD.len
  simp only [tmR, seval, e14, o14, cD]
  refine mixP1 x y hx hy num den in1 in2 in3 (by omega) (F := F) (C := C) (D := D) (E := E) (gF := gF) (gD := gD) (LF := mixL num den x.fls y.fls) ⟨?_, ?_, ?_, ?_, ?_, ?_, ?_, ?_, ?_, ?_, ?_, ?_, ne, ?_, ?_, ?_, ?_⟩ ?_ ?_ ?_ (fun s h => ?_)
  · simp only [tmD, reduceIte, Nat.reduceEqDiff, Nat.reduceAdd, e4]
  · simp only [tmD, reduceIte, Nat.reduceEqDiff, Nat.reduceAdd, e5]
  · simp only [tmD, reduceIte, Nat.reduceEqDiff, Nat.reduceAdd, e8]
  · simp only [tmD, reduceIte, Nat.reduceEqDiff, Nat.reduceAdd, e10]
  · simp only [tmD, reduceIte, Nat.reduceEqDiff, Nat.reduceAdd, e12]
  · simp only [tmD, reduceIte, Nat.reduceEqDiff, Nat.reduceAdd, e14]
  · simp only [tmD, reduceIte, Nat.reduceEqDiff, Nat.reduceAdd, o4]
  · simp only [tmD, reduceIte, Nat.reduceEqDiff, Nat.reduceAdd, o5]
  · simp only [tmD, reduceIte, Nat.reduceEqDiff, Nat.reduceAdd, o8]
  · simp only [tmD, reduceIte, Nat.reduceEqDiff, Nat.reduceAdd, o10]
  · simp only [tmD, reduceIte, Nat.reduceEqDiff, Nat.reduceAdd, o12]
  · simp only [tmD, reduceIte, Nat.reduceEqDiff, Nat.reduceAdd, o14]
  · exact rF.mono (by simp only [tmD, reduceIte, Nat.reduceEqDiff, Nat.reduceAdd])
  · exact rC.mono (fun g _ _ => by simp only [tmD, reduceIte, Nat.reduceEqDiff, Nat.reduceAdd])
  · exact rD.mono (by simp only [tmD, reduceIte, Nat.reduceEqDiff, Nat.reduceAdd])
  · exact rE.mono (fun g _ _ => by simp only [tmD, reduceIte, Nat.reduceEqDiff, Nat.reduceAdd])
  · simp only [tmD, reduceIte, Nat.reduceEqDiff, Nat.reduceAdd]
  · simp only [tmD, reduceIte, Nat.reduceEqDiff, Nat.reduceAdd]
  · simp only [tmD, reduceIte, Nat.reduceEqDiff, Nat.reduceAdd]
  obtain ⟨e4, e5, e8, e10, e12, e14, o4, o5, o8, o10, o12, o14, ne, rF, rC, rD, rE⟩ := h
  simp only [tmR, seval, e8, o8, e14, o14]
  refine mix_fin ⟨mixL num den x.fls y.fls, x.cuts, mixL num den x.duals y.duals, x.decs, x.free⟩ rfl rfl ?_ ?_ ?_ (RowF.tree (rF.mono ?_)) (OutC.tree (rC.mono (fun g _ _ => ?_))) (RowF.tree (rD.mono ?_)) (OutC.tree (rE.mono (fun g _ _ => ?_)))
  · simp only [tmD, reduceIte, Nat.reduceEqDiff, Nat.reduceAdd, e8]
  · simp only [tmD, reduceIte, Nat.reduceEqDiff, Nat.reduceAdd]
  all_goals simp only [tmD, reduceIte, Nat.reduceEqDiff, Nat.reduceAdd]
end Go.TM.Fn
end
section
namespace Go.TM.Fn
open Go Go.TM Go.Plain
set_option linter.unusedVariables false
set_option linter.unusedSimpArgs false
set_option maxRecDepth 20000
set_option maxHeartbeats 8000000
theorem sub_divInt {num den : Int} (h : den ≠ 0) : ((1 : Int) : Rat) - Rat.divInt num den = Rat.divInt (den - num) den := by
  have hd : (den : Rat) ≠ 0 := by simpa using h
  rw [Rat.divInt_eq_div, Rat.divInt_eq_div, Rat.intCast_sub, Rat.div_def, Rat.div_def, Rat.sub_eq_add_neg, Rat.sub_eq_add_neg, Rat.add_mul, Rat.mul_inv_cancel _ hd, Rat.neg_mul]
  rfl
structure MJ (s : St) (x y : Pri) (p q : Rat) (F D : TV) : Prop where
  e4 : s.env 4 = .ptr 4 0 0 0
  e5 : s.env 5 = .ptr 5 0 0 0
  e8 : s.env 8 = .ptr 8 0 0 0
  e10 : s.env 10 = .ptr 10 0 0 0
  e11 : s.env 11 = .ptr 11 0 0 0
  e12 : s.env 12 = .ptr 12 0 0 0
  o4 : s.obj 4 0 = bx (priL x) 5
  o5 : s.obj 5 0 = bx (priL y) 5
  o8 : s.obj 8 0 = bx [.nils, .nils, .nils, .nils, .bool false] 5
  o10 : s.obj 10 0 = bx (eL p) 4
  o11 : s.obj 11 0 = bx (eL q) 4
  o12 : s.obj 12 0 = bx [F, .sl (x.cuts.map cutC), D, .sl (x.decs.map decC), .bool x.free] 5
theorem mixR0 {Q : Ex → St → Prop} {st : St} (x y : Pri) (hx : x.Can) (hy : y.Can) (num den : Int) (hn : I64 num) (hd : I64 den) (hdn : I64 (den - num)) (hxy : x.fls.length ≤ y.fls.length)
    (h : MJ st x y (Rat.divInt num den) (Rat.divInt (den - num) den) .nils .nils) (h13 : st.env 13 = .int .i64 0)
    (hQ : ∀ s v, MJ s x y (Rat.divInt num den) (Rat.divInt (den - num) den) v .nils → GrowsS s [116] 4 v ((mixL num den x.fls y.fls).map rqC) → Q (.exit 0) s) : Goes mach (.loop L8_0) Q st := by
  have hl : x.fls.length < 1000000 := hx.fls
  have ml : (x.fls.map rqC).length = x.fls.length := map_len _
  have d1 := dq_divInt (k := 2) (by omega) (di_i64 hn) (di_i64 hd)
  have d2 := dq_divInt (k := 2) (by omega) (di_i64 hdn) (di_i64 hd)
  have hmix : ∀ i, i < x.fls.length → ((List.range i).map fun i => mixV num den (x.fls.getD i default) (y.fls.getD i default)).map rqC ++ [rqC (mixV num den (x.fls.getD i default) (y.fls.getD i default))] = ((List.range (i + 1)).map fun i => mixV num den (x.fls.getD i default) (y.fls.getD i default)).map rqC := fun i _ => by
    rw [List.range_succ]; simp
  refine wp_for (fun i s => s.env 13 = .int .i64 (i : Nat) ∧ ∃ v, MJ s x y (Rat.divInt num den) (Rat.divInt (den - num) den) v .nils ∧ GrowsS s [116] 4 v (((List.range i).map fun i => mixV num den (x.fls.getD i default) (y.fls.getD i default)).map rqC)) x.fls.length ?_ ?_ x.fls.length 0 _ (by omega) ?_
  · rintro i s hi ⟨h13, v, h, hg⟩
    obtain ⟨e4, e5, e8, e10, e11, e12, o4, o5, o8, o10, o11, o12⟩ := h
    have hw : IntKind.i64.wrap ((i + 1 : Nat) : Int) = (i + 1 : Nat) := wrap_i64n (by omega)
    have hi2 : i < y.fls.length := by omega
    have ia := iaddr_map (C := rqC) (kk := .i64) default (e := 4) (fun _ => rfl) hi
    have ib := iaddr_map (C := rqC) (kk := .i64) default (e := 4) (fun _ => rfl) hi2
    have oka := (hx.fc _ (getD_mem default hi)).ok
    have okb := (hy.fc _ (getD_mem default hi2)).ok
    have tk := hmix i hi
    have tl : (((List.range i).map fun i => mixV num den (x.fls.getD i default) (y.fls.getD i default)).map rqC).length = i := by simp
    have e0 : mixV num den (x.fls.getD i default) (y.fls.getD i default) = rqOf (Rat.divInt num den * (x.fls.getD i default).val + Rat.divInt (den - num) den * (y.fls.getD i default).val) := rfl
    rw [e0] at tk
    generalize ((List.range i).map fun i => mixV num den (x.fls.getD i default) (y.fls.getD i default)).map rqC = P at *
    generalize ((List.range (i + 1)).map fun i => mixV num den (x.fls.getD i default) (y.fls.getD i default)).map rqC = P1 at *
    generalize x.fls.getD i default = a at *
    generalize y.fls.getD i default = b at *
    have m1 := rqmul_c (isQ_enc d1) (RQ.isQ oka) (by omega) (by omega) (by omega)
    have m2 := rqmul_c (isQ_enc d2) (RQ.isQ okb) (by omega) (by omega) (by omega)
    have q1 := dq_mul d1 ((RQ.isQ oka).dq (by omega)) (by omega)
    have q2 := dq_mul d2 ((RQ.isQ okb).dq (by omega)) (by omega)
    have ad := rqadd_c (isQ_enc q1) (isQ_enc q2) (by omega) (by omega) (by omega)
    generalize Rat.divInt num den * a.val + Rat.divInt (den - num) den * b.val = w at *
    simp only [rqC] at ia ib m1 m2
    simp only [L8_0, tmR, seval, e4, e5, e10, e11, e12, o4, o5, o10, o11, o12, h13, ml, nat_lt, hi, ia, ib, wpcall_eq m1, wpcall_eq m2, wpcall_eq ad]
    refine wp_growS [116] 116 (by decide) (.fb []) _ _ _ _ _ _ (xs := P) (zs := [rqC (rqOf w)]) ?_ (fun k g => rfl) ?_ (by simp) (by rw [tl]; simp; omega) ?_
    · simp only [tmR, seval]
      exact hg.mono (fun k g hk _ => by simp only [List.mem_cons, List.not_mem_nil, or_false] at hk; rcases hk with rfl; simp only [tmD, reduceIte, Nat.reduceEqDiff, Nat.reduceAdd]) (fun k hk => by simp only [List.mem_cons, List.not_mem_nil, or_false] at hk; rcases hk with rfl; simp only [tmD, reduceIte, Nat.reduceEqDiff, Nat.reduceAdd]; exact Nat.le_refl _)
    · simp only [tmR, seval, elems]; rfl
    · intro st' v' henv hobj hcnt hg'
      have o4' := hobj 4 0 (by decide)
      have o5' := hobj 5 0 (by decide)
      have o8' := hobj 8 0 (by decide)
      have o10' := hobj 10 0 (by decide)
      have o11' := hobj 11 0 (by decide)
      have o12' := hobj 12 0 (by decide)
      simp only [tmD, reduceIte, Nat.reduceEqDiff, Nat.reduceAdd, o4] at o4'
      simp only [tmD, reduceIte, Nat.reduceEqDiff, Nat.reduceAdd, o5] at o5'
      simp only [tmD, reduceIte, Nat.reduceEqDiff, Nat.reduceAdd, o8] at o8'
      simp only [tmD, reduceIte, Nat.reduceEqDiff, Nat.reduceAdd, o10] at o10'
      simp only [tmD, reduceIte, Nat.reduceEqDiff, Nat.reduceAdd, o11] at o11'
      simp only [tmD, reduceIte, Nat.reduceEqDiff, Nat.reduceAdd, o12] at o12'
      rw [tk] at hg'
      have hcl := hg'.cells
      simp only [tmR, seval, henv, e4, e5, e12, h13, o12', hcl, nat_add_one, hw]
      refine ⟨v', ⟨?_, ?_, ?_, ?_, ?_, ?_, ?_, ?_, ?_, ?_, ?_, ?_⟩, hg'.mono (fun k g hk _ => by simp only [List.mem_cons, List.not_mem_nil, or_false] at hk; rcases hk with rfl; simp only [tmD, reduceIte, Nat.reduceEqDiff, Nat.reduceAdd]) (fun k hk => by simp only [tmD, reduceIte, Nat.reduceEqDiff, Nat.reduceAdd]; exact Nat.le_refl _)⟩
      · simp only [tmD, reduceIte, Nat.reduceEqDiff, Nat.reduceAdd, henv, e4]
      · simp only [tmD, reduceIte, Nat.reduceEqDiff, Nat.reduceAdd, henv, e5]
      · simp only [tmD, reduceIte, Nat.reduceEqDiff, Nat.reduceAdd, henv, e8]
      · simp only [tmD, reduceIte, Nat.reduceEqDiff, Nat.reduceAdd, henv, e10]
      · simp only [tmD, reduceIte, Nat.reduceEqDiff, Nat.reduceAdd, henv, e11]
      · simp only [tmD, reduceIte, Nat.reduceEqDiff, Nat.reduceAdd, henv, e12]
      · simp only [tmD, reduceIte, Nat.reduceEqDiff, Nat.reduceAdd, o4']
      · simp only [tmD, reduceIte, Nat.reduceEqDiff, Nat.reduceAdd, o5']
      · simp only [tmD, reduceIte, Nat.reduceEqDiff, Nat.reduceAdd, o8']
      · simp only [tmD, reduceIte, Nat.reduceEqDiff, Nat.reduceAdd, o10']
      · simp only [tmD, reduceIte, Nat.reduceEqDiff, Nat.reduceAdd, o11']
      · simp only [tmD, reduceIte, Nat.reduceEqDiff, Nat.reduceAdd]
  · rintro s ⟨h13, v, h, hg⟩
    obtain ⟨e4, e5, e8, e10, e11, e12, o4, o5, o8, o10, o11, o12⟩ := h
    simp only [L8_0, tmR, seval, e4, o4, ml, h13, Int.lt_irrefl]
    exact hQ _ v ⟨e4, e5, e8, e10, e11, e12, o4, o5, o8, o10, o11, o12⟩ (hg.mono (fun k g hk _ => by simp only [tmD, reduceIte, Nat.reduceEqDiff, Nat.reduceAdd]) (fun k hk => by simp only [tmD, reduceIte, Nat.reduceEqDiff, Nat.reduceAdd]; exact Nat.le_refl _))
  · exact ⟨h13, .nils, h, .inl ⟨rfl, rfl⟩⟩
theorem mixR1 {Q : Ex → St → Prop} {st : St} (x y : Pri) (hx : x.Can) (hy : y.Can) (num den : Int) (hn : I64 num) (hd : I64 den) (hdn : I64 (den - num)) (hxy : x.duals.length ≤ y.duals.length) {F : TV} {zs : Cont}
    (h : MJ st x y (Rat.divInt num den) (Rat.divInt (den - num) den) F .nils) (h14 : st.env 14 = .int .i64 0) (hF : GrowsS st [116] 4 F zs)
    (hQ : ∀ s v, MJ s x y (Rat.divInt num den) (Rat.divInt (den - num) den) F v → GrowsS s [143] 4 v ((mixL num den x.duals y.duals).map rqC) → GrowsS s [116] 4 F zs → Q (.exit 2) s) : Goes mach (.loop L8_1) Q st := by
  have hl : x.duals.length < 1000000 := hx.duals
  have ml : (x.duals.map rqC).length = x.duals.length := map_len _
  have d1 := dq_divInt (k := 2) (by omega) (di_i64 hn) (di_i64 hd)
  have d2 := dq_divInt (k := 2) (by omega) (di_i64 hdn) (di_i64 hd)
  have hmix : ∀ i, i < x.duals.length → ((List.range i).map fun i => mixV num den (x.duals.getD i default) (y.duals.getD i default)).map rqC ++ [rqC (mixV num den (x.duals.getD i default) (y.duals.getD i default))] = ((List.range (i + 1)).map fun i => mixV num den (x.duals.getD i default) (y.duals.getD i default)).map rqC := fun i _ => by
    rw [List.range_succ]; simp
  refine wp_for (fun i s => s.env 14 = .int .i64 (i : Nat) ∧ ∃ v, MJ s x y (Rat.divInt num den) (Rat.divInt (den - num) den) F v ∧ GrowsS s [143] 4 v (((List.range i).map fun i => mixV num den (x.duals.getD i default) (y.duals.getD i default)).map rqC) ∧ GrowsS s [116] 4 F zs) x.duals.length ?_ ?_ x.duals.length 0 _ (by omega) ?_
  · rintro i s hi ⟨h14, v, h, hg, hF⟩
    obtain ⟨e4, e5, e8, e10, e11, e12, o4, o5, o8, o10, o11, o12⟩ := h
    have hw : IntKind.i64.wrap ((i + 1 : Nat) : Int) = (i + 1 : Nat) := wrap_i64n (by omega)
    have hi2 : i < y.duals.length := by omega
    have ia := iaddr_map (C := rqC) (kk := .i64) default (e := 4) (fun _ => rfl) hi
    have ib := iaddr_map (C := rqC) (kk := .i64) default (e := 4) (fun _ => rfl) hi2
    have oka := (hx.dc _ (getD_mem default hi)).ok
    have okb := (hy.dc _ (getD_mem default hi2)).ok
    have tk := hmix i hi
    have tl : (((List.range i).map fun i => mixV num den (x.duals.getD i default) (y.duals.getD i default)).map rqC).length = i := by simp
    have e0 : mixV num den (x.duals.getD i default) (y.duals.getD i default) = rqOf (Rat.divInt num den * (x.duals.getD i default).val + Rat.divInt (den - num) den * (y.duals.getD i default).val) := rfl
    rw [e0] at tk
    generalize ((List.range i).map fun i => mixV num den (x.duals.getD i default) (y.duals.getD i default)).map rqC = P at *
    generalize ((List.range (i + 1)).map fun i => mixV num den (x.duals.getD i default) (y.duals.getD i default)).map rqC = P1 at *
    generalize x.duals.getD i default = a at *
    generalize y.duals.getD i default = b at *
    have m1 := rqmul_c (isQ_enc d1) (RQ.isQ oka) (by omega) (by omega) (by omega)
    have m2 := rqmul_c (isQ_enc d2) (RQ.isQ okb) (by omega) (by omega) (by omega)
    have q1 := dq_mul d1 ((RQ.isQ oka).dq (by omega)) (by omega)
    have q2 := dq_mul d2 ((RQ.isQ okb).dq (by omega)) (by omega)
    have ad := rqadd_c (isQ_enc q1) (isQ_enc q2) (by omega) (by omega) (by omega)
    generalize Rat.divInt num den * a.val + Rat.divInt (den - num) den * b.val = w at *
    simp only [rqC] at ia ib m1 m2
    simp only [L8_1, tmR, seval, e4, e5, e10, e11, e12, o4, o5, o10, o11, o12, h14, ml, nat_lt, hi, ia, ib, wpcall_eq m1, wpcall_eq m2, wpcall_eq ad]
    refine wp_growS [143] 143 (by decide) (.fb []) _ _ _ _ _ _ (xs := P) (zs := [rqC (rqOf w)]) ?_ (fun k g => rfl) ?_ (by simp) (by rw [tl]; simp; omega) ?_
    · simp only [tmR, seval]
      exact hg.mono (fun k g hk _ => by simp only [List.mem_cons, List.not_mem_nil, or_false] at hk; rcases hk with rfl; simp only [tmD, reduceIte, Nat.reduceEqDiff, Nat.reduceAdd]) (fun k hk => by simp only [List.mem_cons, List.not_mem_nil, or_false] at hk; rcases hk with rfl; simp only [tmD, reduceIte, Nat.reduceEqDiff, Nat.reduceAdd]; exact Nat.le_refl _)
    · simp only [tmR, seval, elems]; rfl
    · intro st' v' henv hobj hcnt hg'
      have o4' := hobj 4 0 (by decide)
      have o5' := hobj 5 0 (by decide)
      have o8' := hobj 8 0 (by decide)
      have o10' := hobj 10 0 (by decide)
      have o11' := hobj 11 0 (by decide)
      have o12' := hobj 12 0 (by decide)
      simp only [tmD, reduceIte, Nat.reduceEqDiff, Nat.reduceAdd, o4] at o4'
      simp only [tmD, reduceIte, Nat.reduceEqDiff, Nat.reduceAdd, o5] at o5'
      simp only [tmD, reduceIte, Nat.reduceEqDiff, Nat.reduceAdd, o8] at o8'
      simp only [tmD, reduceIte, Nat.reduceEqDiff, Nat.reduceAdd, o10] at o10'
      simp only [tmD, reduceIte, Nat.reduceEqDiff, Nat.reduceAdd, o11] at o11'
      simp only [tmD, reduceIte, Nat.reduceEqDiff, Nat.reduceAdd, o12] at o12'
      have ob116 := fun g => hobj 116 g (by decide)
      have cn116 := hcnt 116 (by decide)
      simp only [tmD, reduceIte, Nat.reduceEqDiff, Nat.reduceAdd] at ob116 cn116
      rw [tk] at hg'
      have hcl := hg'.cells
      simp only [tmR, seval, henv, e4, e5, e12, h14, o12', hcl, nat_add_one, hw]
      refine ⟨v', ⟨?_, ?_, ?_, ?_, ?_, ?_, ?_, ?_, ?_, ?_, ?_, ?_⟩, hg'.mono (fun k g hk _ => by simp only [List.mem_cons, List.not_mem_nil, or_false] at hk; rcases hk with rfl; simp only [tmD, reduceIte, Nat.reduceEqDiff, Nat.reduceAdd]) (fun k hk => by simp only [tmD, reduceIte, Nat.reduceEqDiff, Nat.reduceAdd]; exact Nat.le_refl _), hF.mono (fun k g hk _ => by simp only [List.mem_cons, List.not_mem_nil, or_false] at hk; rcases hk with rfl; simp only [tmD, reduceIte, Nat.reduceEqDiff, Nat.reduceAdd, ob116]) (fun k hk => by simp only [List.mem_cons, List.not_mem_nil, or_false] at hk; rcases hk with rfl; simp only [tmD, reduceIte, Nat.reduceEqDiff, Nat.reduceAdd, cn116]; exact Nat.le_refl _)⟩
      · simp only [tmD, reduceIte, Nat.reduceEqDiff, Nat.reduceAdd, henv, e4]
      · simp only [tmD, reduceIte, Nat.reduceEqDiff, Nat.reduceAdd, henv, e5]
      · simp only [tmD, reduceIte, Nat.reduceEqDiff, Nat.reduceAdd, henv, e8]
      · simp only [tmD, reduceIte, Nat.reduceEqDiff, Nat.reduceAdd, henv, e10]
      · simp only [tmD, reduceIte, Nat.reduceEqDiff, Nat.reduceAdd, henv, e11]
      · simp only [tmD, reduceIte, Nat.reduceEqDiff, Nat.reduceAdd, henv, e12]
      · simp only [tmD, reduceIte, Nat.reduceEqDiff, Nat.reduceAdd, o4']
      · simp only [tmD, reduceIte, Nat.reduceEqDiff, Nat.reduceAdd, o5']
      · simp only [tmD, reduceIte, Nat.reduceEqDiff, Nat.reduceAdd, o8']
      · simp only [tmD, reduceIte, Nat.reduceEqDiff, Nat.reduceAdd, o10']
      · simp only [tmD, reduceIte, Nat.reduceEqDiff, Nat.reduceAdd, o11']
      · simp only [tmD, reduceIte, Nat.reduceEqDiff, Nat.reduceAdd]
  · rintro s ⟨h14, v, h, hg, hF⟩
    obtain ⟨e4, e5, e8, e10, e11, e12, o4, o5, o8, o10, o11, o12⟩ := h
    simp only [L8_1, tmR, seval, e4, o4, ml, h14, Int.lt_irrefl]
    exact hQ _ v ⟨e4, e5, e8, e10, e11, e12, o4, o5, o8, o10, o11, o12⟩ (hg.mono (fun k g hk _ => by simp only [tmD, reduceIte, Nat.reduceEqDiff, Nat.reduceAdd]) (fun k hk => by simp only [tmD, reduceIte, Nat.reduceEqDiff, Nat.reduceAdd]; exact Nat.le_refl _)) (hF.mono (fun k g hk _ => by simp only [tmD, reduceIte, Nat.reduceEqDiff, Nat.reduceAdd]) (fun k hk => by simp only [tmD, reduceIte, Nat.reduceEqDiff, Nat.reduceAdd]; exact Nat.le_refl _))
  · exact ⟨h14, .nils, h, .inl ⟨rfl, rfl⟩, hF⟩
theorem rmix_c (x y : Pri) (hc : x.cuts = y.cuts) (hx : x.Can) (hy : y.Can) (num den : Int) (hn : -1000 ≤ num ∧ num ≤ 1000) (hd : -1000 ≤ den ∧ den ≤ 1000) :
    Gives mach 8 [priT x, priT y, .int .i64 num, .int .i64 den] (.tup [priT (mixR x y num den).1, .int .i64 (mixR x y num den).2]) := by
  have l1 : (x.fls.map rqC).length = x.fls.length := map_len _
  have l2 : (x.cuts.map cutC).length = x.cuts.length := map_len _
  have l3 : (x.duals.map rqC).length = x.duals.length := map_len _
  have m1 : (y.fls.map rqC).length = y.fls.length := map_len _
  have m3 : (y.duals.map rqC).length = y.duals.length := map_len _
  refine gives tab8 rfl ?_
  by_cases h1 : den < 1
  · rw [mixR_err (.inl h1)]
    simp only [F8, tmR, seval, h1, Bool.not_true, Bool.not_false, tmF]
    rfl
  by_cases h2 : num < 0
  · rw [mixR_err (.inr (.inl h2))]
    simp only [F8, tmR, seval, h1, h2, Bool.not_true, Bool.not_false, tmF]
    rfl
  by_cases h3 : den < num
  · rw [mixR_err (.inr (.inr h3))]
    simp only [F8, tmR, seval, h1, h2, h3, Bool.not_true, Bool.not_false, tmF]
    rfl
  have herr : ¬ (den < 1 ∨ num < 0 ∨ den < num) := by omega
  rcases Decidable.em (¬ (x.fls.length = y.fls.length)) with s1 | s1
  · rw [mixR_bad herr (fun h => s1 h.1)]
    have c1 : ((x.fls.length : Int) = (y.fls.length : Int)) = False := eq_false (by omega)
    simp only [F8, tmR, seval, h1, h2, h3, Bool.not_true, Bool.not_false, l1, m1, c1, tmF]
    rfl
  replace s1 := Decidable.not_not.1 s1
  have c1 : ((x.fls.length : Int) = (y.fls.length : Int)) = True := eq_true (by omega)
  rcases Decidable.em (¬ (x.duals.length = x.cuts.length)) with s2 | s2
  · rw [mixR_bad herr (fun h => s2 h.2.1)]
    have c2 : ((x.duals.length : Int) = (x.cuts.length : Int)) = False := eq_false (by omega)
    simp only [F8, tmR, seval, h1, h2, h3, Bool.not_true, Bool.not_false, l1, l2, l3, m1, c1, c2, tmF]
    rfl
  replace s2 := Decidable.not_not.1 s2
  have c2 : ((x.duals.length : Int) = (x.cuts.length : Int)) = True := eq_true (by omega)
  rcases Decidable.em (¬ (y.duals.length = x.cuts.length)) with s3 | s3
  · rw [mixR_bad herr (fun h => s3 h.2.2.1)]
    have c3 : ((y.duals.length : Int) = (x.cuts.length : Int)) = False := eq_false (by omega)
    simp only [F8, tmR, seval, h1, h2, h3, Bool.not_true, Bool.not_false, l1, l2, l3, m1, m3, c1, c2, c3, tmF]
    rfl
  replace s3 := Decidable.not_not.1 s3
  have c3 : ((y.duals.length : Int) = (x.cuts.length : Int)) = True := eq_true (by omega)
  have sc := sameCuts_c x.cuts (by have := hx.cuts; omega) (fun c hc => by have := hx.rs c hc; omega)
  have sd := sameDecs_g x.decs y.decs (by have := hx.decs; omega) (by have := hy.decs; omega)
  rcases Decidable.em (¬ (x.decs = y.decs)) with s4 | s4
  · rw [mixR_bad herr (fun h => s4 h.2.2.2.1)]
    rw [decide_eq_false s4] at sd
    simp only [F8, tmR, seval, h1, h2, h3, Bool.not_true, Bool.not_false, l1, l2, l3, m1, m3, c1, c2, c3, ← hc, wpcall_eq sc, wpcall_eq sd, tmF]
    rfl
  replace s4 := Decidable.not_not.1 s4
  rw [decide_eq_true s4] at sd
  rcases Decidable.em (¬ (x.free = y.free)) with s5 | s5
  · rw [mixR_bad herr (fun h => s5 h.2.2.2.2)]
    have cf : (x.free == y.free) = false := by simpa using s5
    simp only [F8, tmR, seval, h1, h2, h3, Bool.not_true, Bool.not_false, l1, l2, l3, m1, m3, c1, c2, c3, ← hc, wpcall_eq sc, wpcall_eq sd, cf, tmF]
    rfl
  replace s5 := Decidable.not_not.1 s5
  have cf : (x.free == y.free) = true := by simpa using s5
  rw [mixR_ok herr ⟨s1, s2, s3, s4, s5⟩]
  have in1 : I64 num := by unfold I64; omega
  have in2 : I64 den := by unfold I64; omega
  have in3 : I64 (den - num) := by unfold I64; omega
  have i1 := rint_c in1
  have i2 := rint_c in2
  have i3 := rint_c (n := 1) (by unfold I64; omega)
  have dv := rqdiv_c (isQ_enc (dq_int in1)) (isQ_enc (dq_int in2)) (by omega) (by omega) (by omega)
  rw [← Rat.divInt_eq_div] at dv
  have dd := dq_divInt (k := 2) (by omega) (di_i64 in1) (di_i64 in2)
  have sb := rqsub_c (isQ_enc (dq_int (n := 1) (by unfold I64; omega))) (isQ_enc dd) (by omega) (by omega) (by omega)
  rw [sub_divInt (by omega)] at sb
  generalize ((1 : Int) : Rat) = one at i3 sb
  simp only [F8, tmR, seval, h1, h2, h3, Bool.not_true, Bool.not_false, l1, l2, l3, m1, m3, c1, c2, c3, ← hc, wpcall_eq sc, wpcall_eq sd, cf, wpcall_eq i1, wpcall_eq i2, wpcall_eq dv, wpcall_eq i3, wpcall_eq sb]
  refine mixR0 x y hx hy num den in1 in2 in3 (by omega) ⟨?_, ?_, ?_, ?_, ?_, ?_, ?_, ?_, ?_, ?_, ?_, ?_⟩ ?_ (fun s F h gF => ?_)
  · simp only [tmD, reduceIte, Nat.reduceEqDiff, Nat.reduceAdd]
  · simp only [tmD, reduceIte, Nat.reduceEqDiff, Nat.reduceAdd]
  · simp only [tmD, reduceIte, Nat.reduceEqDiff, Nat.reduceAdd]
  · simp only [tmD, reduceIte, Nat.reduceEqDiff, Nat.reduceAdd]
  · simp only [tmD, reduceIte, Nat.reduceEqDiff, Nat.reduceAdd]
  · simp only [tmD, reduceIte, Nat.reduceEqDiff, Nat.reduceAdd]
  · simp only [tmD, reduceIte, Nat.reduceEqDiff, Nat.reduceAdd]
  · simp only [tmD, reduceIte, Nat.reduceEqDiff, Nat.reduceAdd, priL, ← hc]
  · simp only [tmD, reduceIte, Nat.reduceEqDiff, Nat.reduceAdd]
  · simp only [tmD, reduceIte, Nat.reduceEqDiff, Nat.reduceAdd]
  · simp only [tmD, reduceIte, Nat.reduceEqDiff, Nat.reduceAdd]
  · simp only [tmD, reduceIte, Nat.reduceEqDiff, Nat.reduceAdd]
  · simp only [tmD, reduceIte, Nat.reduceEqDiff, Nat.reduceAdd]
  obtain ⟨e4, e5, e8, e10, e11, e12, o4, o5, o8, o10, o11, o12⟩ := h
  simp only [tmR, seval]
  refine mixR1 x y hx hy num den in1 in2 in3 (by omega) (F := F) (zs := (mixL num den x.fls y.fls).map rqC) ⟨?_, ?_, ?_, ?_, ?_, ?_, ?_, ?_, ?_, ?_, ?_, ?_⟩ ?_ (gF.mono (fun k g hk _ => by simp only [tmD, reduceIte, Nat.reduceEqDiff, Nat.reduceAdd]) (fun k hk => by simp only [tmD, reduceIte, Nat.reduceEqDiff, Nat.reduceAdd]; exact Nat.le_refl _)) (fun s D h gD gF => ?_)
  · simp only [tmD, reduceIte, Nat.reduceEqDiff, Nat.reduceAdd, e4]
  · simp only [tmD, reduceIte, Nat.reduceEqDiff, Nat.reduceAdd, e5]
  · simp only [tmD, reduceIte, Nat.reduceEqDiff, Nat.reduceAdd, e8]
  · simp only [tmD, reduceIte, Nat.reduceEqDiff, Nat.reduceAdd, e10]
  · simp only [tmD, reduceIte, Nat.reduceEqDiff, Nat.reduceAdd, e11]
  · simp only [tmD, reduceIte, Nat.reduceEqDiff, Nat.reduceAdd, e12]
  · simp only [tmD, reduceIte, Nat.reduceEqDiff, Nat.reduceAdd, o4]
  · simp only [tmD, reduceIte, Nat.reduceEqDiff, Nat.reduceAdd, o5]
  · simp only [tmD, reduceIte, Nat.reduceEqDiff, Nat.reduceAdd, o8]
  · simp only [tmD, reduceIte, Nat.reduceEqDiff, Nat.reduceAdd, o10]
  · simp only [tmD, reduceIte, Nat.reduceEqDiff, Nat.reduceAdd, o11]
  · simp only [tmD, reduceIte, Nat.reduceEqDiff, Nat.reduceAdd, o12]
  · simp only [tmD, reduceIte, Nat.reduceEqDiff, Nat.reduceAdd]
  obtain ⟨e4, e5, e8, e10, e11, e12, o4, o5, o8, o10, o11, o12⟩ := h
  simp only [tmR, seval, e8, o8, e12, o12]
  refine mix_fin (F := F) (C := .sl (x.cuts.map cutC)) (D := D) (E := .sl (x.decs.map decC)) ⟨mixL num den x.fls y.fls, x.cuts, mixL num den x.duals y.duals, x.decs, x.free⟩ rfl rfl ?_ ?_ ?_ (GrowsS.tree (gF.mono (fun k g hk _ => ?_) (fun k hk => ?_))) rfl (GrowsS.tree (gD.mono (fun k g hk _ => ?_) (fun k hk => ?_))) rfl
  · simp only [tmD, reduceIte, Nat.reduceEqDiff, Nat.reduceAdd, e8]
  · simp only [tmD, reduceIte, Nat.reduceEqDiff, Nat.reduceAdd]
  all_goals first
    | (simp only [List.mem_cons, List.not_mem_nil, or_false] at hk; subst hk; simp only [tmD, reduceIte, Nat.reduceEqDiff, Nat.reduceAdd]; done)
    | (simp only [tmD, reduceIte, Nat.reduceEqDiff, Nat.reduceAdd]; done)
    | (simp only [tmD, reduceIte, Nat.reduceEqDiff, Nat.reduceAdd]; exact Nat.le_refl _)
end Go.TM.Fn
end
section
namespace Go.TM
variable {M : Mach}
def stepF (cl : Nat → List TV → Option Res) (o : TStep) (st : St) : Option St :=
  match wantedT st.env o.guard with
  | none => none
  | some false => some (apply o.dst { v := .tup [] } st)
  | some true => match ev o.op (o.dst.getD 0) (st.cnt (o.dst.getD 0)) (val st.env) (restrict st.obj o.vk) with
    | none => none
    | some (.eff e) => some (apply o.dst e st)
    | some (.cal f vs k) => match cl f vs with
      | none => none
      | some r => match k r with
        | none => none
        | some e => some (apply o.dst e st)
def opsF (cl : Nat → List TV → Option Res) : List TStep → St → Option St
  | [], st => some st
  | o :: r, st => match stepF cl o st with
    | none => none
    | some s => opsF cl r s
def exF (cl : Nat → List TV → Option Res) : Nat → TCode → St → Option (Ex × St)
  | 0, _, _ => none
  | n + 1, c, st => match c with
    | .skip => some (.norm, st)
    | .reg ops => match opsF cl ops st with
      | none => none
      | some s => some (.norm, s)
    | .seq a b => match exF cl n a st with
      | none => none
      | some (.norm, s) => exF cl n b s
      | some (e, s) => some (e, s)
    | .cond x a b => match val st.env x with
      | .bool true => exF cl n a st
      | .bool false => exF cl n b st
      | _ => none
    | .block id a => match exF cl n a st with
      | none => none
      | some (e, s) => some (if e = .exit id then .norm else e, s)
    | .loop a => match exF cl n a st with
      | none => none
      | some (.norm, s) => exF cl n (.loop a) s
      | some (e, s) => some (e, s)
    | .exit id => some (.exit id, st)
    | .ret => some (.ret, st)
def callF (M : Mach) (k : Nat) : Nat → Nat → List TV → Option Res
  | 0, _, _ => none
  | n + 1, f, args => match M.tab f with
    | none => none
    | some F => if F.np = args.length then match exF (callF M k n) k F.body (initSt args) with
        | some (.norm, s) => finish F args s
        | some (.ret, s) => finish F args s
        | _ => none
      else none
theorem stepF_ok {cl} (hc : ∀ f args r, cl f args = some r → call M f args = some r) {o st s} (h : stepF cl o st = some s) : exec1 M o st = some s := by
  rw [exec1_eq]
  unfold stepF at h
  cases hw : wantedT st.env o.guard with
  | none => rw [hw] at h; cases h
  | some w =>
    rw [hw] at h
    cases w with
    | false => exact h
    | true =>
      simp only [] at h ⊢
      cases he : ev o.op (o.dst.getD 0) (st.cnt (o.dst.getD 0)) (val st.env) (restrict st.obj o.vk) with
      | none => rw [he] at h; cases h
      | some e =>
        rw [he] at h
        cases e with
        | eff e => exact h
        | cal f vs k =>
          simp only [Option.bind_some] at h ⊢
          cases hcl : cl f vs with
          | none => rw [hcl] at h; cases h
          | some r =>
            rw [hcl] at h; rw [hc _ _ _ hcl]
            simp only [Option.bind_some] at h ⊢
            cases hk : k r with
            | none => rw [hk] at h; cases h
            | some e => rw [hk] at h; exact h
theorem opsF_ok {cl} (hc : ∀ f args r, cl f args = some r → call M f args = some r) : ∀ {ops st s}, opsF cl ops st = some s → execOps M ops st = some s
  | [], st, s, h => by rw [ops_nil]; exact h
  | o :: r, st, s, h => by
    unfold opsF at h
    cases h1 : stepF cl o st with
    | none => rw [h1] at h; cases h
    | some s1 =>
      rw [h1] at h
      rw [ops_cons, stepF_ok hc h1]
      exact opsF_ok hc h
theorem exF_ok {cl} (hc : ∀ f args r, cl f args = some r → call M f args = some r) : ∀ n {c st p}, exF cl n c st = some p → exec M c st = some p
  | 0, _, _, _, h => by cases h
  | n + 1, c, st, p, h => by
    cases c with
    | skip => rw [exec_skip]; exact h
    | reg ops =>
      simp only [exF] at h
      cases h1 : opsF cl ops st with
      | none => rw [h1] at h; cases h
      | some s => rw [h1] at h; rw [exec_reg, opsF_ok hc h1]; exact h
    | seq a b =>
      simp only [exF] at h
      cases h1 : exF cl n a st with
      | none => rw [h1] at h; cases h
      | some q =>
        obtain ⟨e, s⟩ := q
        rw [h1] at h
        rw [exec_seq, exF_ok hc n h1]
        cases e with
        | norm => exact exF_ok hc n h
        | exit i => exact h
        | ret => exact h
    | cond x a b =>
      simp only [exF] at h
      rw [exec_cond]
      cases hx : val st.env x <;> rw [hx] at h <;> try cases h
      rename_i b'; cases b'
      · exact exF_ok hc n h
      · exact exF_ok hc n h
    | block id a =>
      simp only [exF] at h
      cases h1 : exF cl n a st with
      | none => rw [h1] at h; cases h
      | some q => rw [h1] at h; rw [exec_block, exF_ok hc n h1]; exact h
    | loop a =>
      simp only [exF] at h
      cases h1 : exF cl n a st with
      | none => rw [h1] at h; cases h
      | some q =>
        obtain ⟨e, s⟩ := q
        rw [h1] at h
        rw [exec_loop, exF_ok hc n h1]
        cases e with
        | norm => exact exF_ok hc n h
        | exit i => exact h
        | ret => exact h
    | exit i => rw [exec_exit]; exact h
    | ret => rw [exec_ret]; exact h
theorem callF_ok {k : Nat} : ∀ n {f args r}, callF M k n f args = some r → call M f args = some r
  | 0, _, _, _, h => by cases h
  | n + 1, f, args, r, h => by
    unfold callF at h
    cases hF : M.tab f with
    | none => rw [hF] at h; cases h
    | some F =>
      rw [hF] at h
      simp only [] at h
      split at h
      · rename_i hn
        rw [call_eq hF args hn]
        cases h1 : exF (callF M k n) k F.body (initSt args) with
        | none => rw [h1] at h; cases h
        | some q =>
          obtain ⟨e, s⟩ := q
          rw [h1] at h
          rw [exF_ok (fun f a r hh => callF_ok n hh) k h1]
          cases e with
          | norm => exact h
          | ret => exact h
          | exit i => cases h
      · cases h
end Go.TM
namespace Go.TM.Fn
open Go Go.TM Go.Plain
theorem ceil_known : call mach 31 [.agg [.bool true, .sl [[.int .u32 7]], .bool false, .sl [[.int .u32 2]]]] = some (.tup [.int .i64 (-3), .int .i64 0], []) := callF_ok (k := 200) 30 (by kernel_rfl)
end Go.TM.Fn
end
section
namespace Go.TM.Fn
open Go Go.TM
theorem known_o : call mach 10 [] = some (.bool true, []) := callF_ok (k := 400) 60 (by kernel_rfl)
end Go.TM.Fn
end
section
namespace Go.TM.Fn
open Go Go.TM Go.Plain
set_option linter.unusedVariables false
set_option linter.unusedSimpArgs false
set_option maxRecDepth 20000
set_option maxHeartbeats 8000000
def SeesX (st : St) (e : Nat) (v : TV) (xs : Cont) : Prop :=
  (xs = [] ∧ v = .nils) ∨ v = .sl xs ∨ ∃ k g o, 18 ≤ k ∧ k < 64 ∧ v = .hs k g e xs.length ∧ st.obj k g = some o ∧ o.cont = xs ∧ o.box = false ∧ o.esz = e
def Kp (st st' : St) (k g : Nat) : Prop := ∀ o, st.obj k g = some o → ∃ o', st'.obj k g = some o' ∧ o'.cont = o.cont ∧ o'.box = o.box ∧ o'.esz = o.esz
theorem SeesX.mono {st st' : St} {e v xs} (h : SeesX st e v xs) (ho : ∀ k g, 18 ≤ k → k < 64 → Kp st st' k g) : SeesX st' e v xs := by
  rcases h with h | h | ⟨k, g, o, h0, h1, h2, h3, h4, h5, h6⟩
  · exact .inl h
  · exact .inr (.inl h)
  · obtain ⟨o', q1, q2, q3, q4⟩ := ho k g h0 h1 o h3
    exact .inr (.inr ⟨k, g, o', h0, h1, h2, q1, by rw [q2]; exact h4, by rw [q3]; exact h5, by rw [q4]; exact h6⟩)
theorem SeesX.tree {st e v xs} (h : SeesX st e v xs) : tree1 st.obj v = some (.sl xs) := by
  rcases h with ⟨rfl, rfl⟩ | rfl | ⟨k, g, o, _, _, rfl, h, rfl, hb, he⟩
  · rfl
  · rfl
  · simp [tree1, h, hb, he]
theorem SeesX.cells {st e v xs} (h : SeesX st e v xs) : v.cells = [v] := by
  rcases h with ⟨rfl, rfl⟩ | rfl | ⟨k, g, o, _, _, rfl, _⟩ <;> rfl
theorem kp_eq {st st' : St} {k g} (h : st'.obj k g = st.obj k g) : Kp st st' k g := fun o ho => ⟨o, by rw [h]; exact ho, rfl, rfl, rfl⟩
theorem kp_unsol {st s1 st' : St} {k g b hs} (h : st'.obj k g = (unsol b hs s1).obj k g) (h1 : s1.obj k g = st.obj k g) : Kp st st' k g := fun o ho => by
  rw [unsol_objG, h1, ho] at h
  exact ⟨_, h, rfl, rfl, rfl⟩
theorem unsol_bx (b hs) {st : St} {k g c e} (h : st.obj k g = bx c e) : (unsol b hs st).obj k g = bx c e := by
  rw [unsol_objG, h]
  cases (b && hs.contains (k, g)) <;> rfl
def Sees22 (st : St) (e : Nat) (v : TV) (xs : Cont) : Prop :=
  (xs = [] ∧ v = .nils) ∨ v = .sl xs ∨ ∃ g o, v = .hs 22 g e xs.length ∧ st.obj 22 g = some o ∧ o.cont = xs ∧ o.box = false ∧ o.esz = e
theorem Sees22.to {st st' : St} {e v xs} (h : Sees22 st e v xs) (ho : ∀ g, Kp st st' 22 g) : SeesX st' e v xs := by
  rcases h with h | h | ⟨g, o, h2, h3, h4, h5, h6⟩
  · exact .inl h
  · exact .inr (.inl h)
  · obtain ⟨o', q1, q2, q3, q4⟩ := ho g o h3
    exact .inr (.inr ⟨22, g, o', by omega, by omega, h2, q1, by rw [q2]; exact h4, by rw [q3]; exact h5, by rw [q4]; exact h6⟩)
theorem Sees22.same {st st' : St} {e v xs} (h : Sees22 st e v xs) (ho : ∀ g, st'.obj 22 g = st.obj 22 g) : Sees22 st' e v xs := by
  rcases h with h | h | ⟨g, o, h2, h3, h4⟩
  · exact .inl h
  · exact .inr (.inl h)
  · exact .inr (.inr ⟨g, o, h2, by rw [ho]; exact h3, h4⟩)
theorem Sees22.cells {st e v xs} (h : Sees22 st e v xs) : v.cells = [v] := by
  rcases h with ⟨rfl, rfl⟩ | rfl | ⟨g, o, rfl, _⟩ <;> rfl
theorem wp_appD {Q : St → Prop} {st : St} {L : List RQ} {r0 : RQ} (vk r s x) (hD : GrowsC st 22 4 (Go.TM.val st.env s) (L.map rqC)) (hv : ∀ k g, restrict st.obj vk k g = st.obj k g) (hx : Go.TM.elems (restrict st.obj vk) 4 (Go.TM.val st.env x) = some [rqC r0]) (hl : L.length < 1000000)
    (hQ : ∀ st' v, (∀ i, st'.env i = if i = 62 then v else st.env i) → (∀ k g, k ≠ 62 → Kp st st' k g) → (∀ k g, k ≠ 62 → k ≠ 22 → st'.obj k g = st.obj k g) → (∀ k, k ≠ 62 → st'.cnt k = st.cnt k) → SeesX st' 4 v ((L ++ [r0]).map rqC) → Wp mach r Q st') :
    Wp mach (⟨some 62, .app 4 false s x, none, vk⟩ :: r) Q st := by
  have ml : (L.map rqC).length = L.length := map_len _
  rw [wp_app]
  rcases hD with ⟨z, hs⟩ | ⟨g, hs, hg, ho⟩
  · have z' : L = [] := by simpa using z
    subst z'
    rw [hs, app_nils hx (by simp) (by simp), wpeff_some, apply_new1]
    refine hQ _ (.hs 62 (st.cnt 62) 4 1) (fun i => rfl) (fun k g hk => kp_eq ?_) (fun k g hk _ => ?_) (fun k hk => ?_) (.inr (.inr ⟨62, st.cnt 62, { cont := [rqC r0], esz := 4, box := false, solo := true, tip := true }, by omega, by omega, rfl, by simp [bump_obj, putO_obj], rfl, rfl, rfl⟩))
    · simp only [bump_obj, putO_obj]; rw [if_neg (by rintro ⟨rfl, _⟩; exact hk rfl)]
    · simp only [bump_obj, putO_obj]; rw [if_neg (by rintro ⟨rfl, _⟩; exact hk rfl)]
    · simp only [bump_cnt, putO_cnt]; rw [if_neg hk]
  · have ho' : restrict st.obj vk 22 g = some { cont := L.map rqC, esz := 4, box := false, solo := true, tip := true } := by rw [hv]; exact ho
    rw [hs, app_hsF hx ho' rfl rfl rfl rfl (by rw [ml]; simp; omega), wpeff_some, apply_appF]
    refine hQ _ (.hs 62 (st.cnt 62) 4 ((L.map rqC).length + 1)) (fun i => rfl) (fun k g' hk => ?_) (fun k g' hk hk2 => ?_) (fun k hk => ?_) (.inr (.inr ⟨62, st.cnt 62, { cont := L.map rqC ++ [rqC r0], esz := 4, box := false, solo := false, tip := true }, by omega, by omega, by simp, by simp [bump_obj, putO_obj], by simp, rfl, rfl⟩))
    · intro o hob
      by_cases h2 : k = 22 ∧ g' = g
      · obtain ⟨rfl, rfl⟩ := h2
        rw [ho] at hob; cases hob
        refine ⟨{ cont := L.map rqC, esz := 4, box := false, solo := false, tip := false }, ?_, rfl, rfl, rfl⟩
        simp only [bump_obj, putO_obj, setO_obj]; rw [if_neg (by rintro ⟨h, _⟩; exact hk h), if_pos ⟨trivial, trivial⟩]
      · refine ⟨o, ?_, rfl, rfl, rfl⟩
        simp only [bump_obj, putO_obj, setO_obj]; rw [if_neg (by rintro ⟨h, _⟩; exact hk h), if_neg h2]; exact hob
    · simp only [bump_obj, putO_obj, setO_obj]; rw [if_neg (by rintro ⟨h, _⟩; exact hk h), if_neg (by rintro ⟨h, _⟩; exact hk2 h)]
    · simp only [bump_cnt, putO_cnt, setO_cnt]; rw [if_neg hk]
theorem adopt_p22 {cuts : List Cu} {n : Nat} {rv : TV} (h : PriBack cuts n rv) : ∃ cs, rv = .agg cs ∧ ∀ st : St, st.cnt 22 = 0 → ∃ (F D E : TV) (fls duals : List RQ) (decs : List Dec) (s1 : St),
    s1 = apply (some 22) { v := .agg (adopt 22 (st.cnt 22) cs).1, new := (adopt 22 (st.cnt 22) cs).2 } st ∧ s1.env 22 = .agg [F, .sl (cuts.map cutC), D, E, .bool false] ∧ (∀ i, i ≠ 22 → s1.env i = st.env i) ∧ (∀ k g, k ≠ 22 → s1.obj k g = st.obj k g) ∧ (∀ k, k ≠ 22 → s1.cnt k = st.cnt k) ∧
    Sees22 s1 4 F (fls.map rqC) ∧ GrowsC s1 22 4 D (duals.map rqC) ∧ Sees22 s1 3 E (decs.map decC) ∧ fls.length = 6 ∧ duals.length = n ∧ decs.length ≤ 2 ∧ (∀ r ∈ fls, RQ.Can 10 r) ∧ ∀ r ∈ duals, RQ.Can 10 r := by
  obtain ⟨F, D, E, fls, duals, decs, rfl, hF, hD, hE, l1, l2, l3, o1, o2⟩ := h
  refine ⟨_, rfl, fun st c17 => ?_⟩
  rcases hF with ⟨z1, rfl⟩ | rfl | rfl <;> rcases hD with ⟨z2, rfl⟩ | rfl <;> rcases hE with ⟨z3, rfl⟩ | rfl | rfl
  all_goals
    refine ⟨_, _, _, fls, duals, decs, _, rfl, rfl, ?_, ?_, ?_, ?_, ?_, ?_, l1, l2, l3, o1, o2⟩
    · intro i hi; simp [apply, adopt, upd, hi]
    · intro k g hk; simp [apply, adopt, addNew, updO, hk]
    · intro k hk; simp [apply, adopt, upd, hk]
    · first
        | exact .inl ⟨z1, rfl⟩
        | exact .inr (.inl rfl)
        | (refine .inr (.inr ⟨0, { cont := fls.map rqC, esz := 4, box := false, solo := true, tip := true }, ?_, ?_, rfl, rfl, rfl⟩) <;> (try simp only [c17, apply, adopt, addNew, updO]) <;> simp <;> done)
    · first
        | exact .inl ⟨z2, rfl⟩
        | (refine .inr ⟨0, ?_, ?_, ?_⟩ <;> simp only [c17, apply, adopt, addNew, updO, upd] <;> simp <;> done)
        | (refine .inr ⟨1, ?_, ?_, ?_⟩ <;> simp only [c17, apply, adopt, addNew, updO, upd] <;> simp <;> done)
    · first
        | exact .inl ⟨z3, rfl⟩
        | exact .inr (.inl rfl)
        | (refine .inr (.inr ⟨0, { cont := decs.map decC, esz := 3, box := false, solo := true, tip := true }, ?_, ?_, rfl, rfl, rfl⟩) <;> (try simp only [c17, apply, adopt, addNew, updO]) <;> simp <;> done)
        | (refine .inr (.inr ⟨1, { cont := decs.map decC, esz := 3, box := false, solo := true, tip := true }, ?_, ?_, rfl, rfl, rfl⟩) <;> (try simp only [c17, apply, adopt, addNew, updO]) <;> simp <;> done)
        | (refine .inr (.inr ⟨2, { cont := decs.map decC, esz := 3, box := false, solo := true, tip := true }, ?_, ?_, rfl, rfl, rfl⟩) <;> (try simp only [c17, apply, adopt, addNew, updO]) <;> simp <;> done)
theorem wp_prices {Q : St → Prop} {st : St} (m : Mas) (a : List Int) (hm : m.fl = 6) (hcu : m.cuts.length ≤ 2) (hrs : ∀ c ∈ m.cuts, c.rs.length ≤ 5) (hal : a.length < 9223372036854775808) (vk r args) (ha : argsOf (restrict st.obj vk) [] 0 (args.map (Go.TM.val st.env)) = some [masT m, .sl (ints .i64 a)]) (hh : heldOf [] 0 (args.map (Go.TM.val st.env)) = []) (hc : st.cnt 22 = 0)
    (hQ : ∀ (x : Pri) (F D E : TV) (s1 : St), x.Can → x.cuts = m.cuts → x.duals.length = m.cuts.length → x.fls.length = 6 → s1.env 22 = .agg [F, .sl (x.cuts.map cutC), D, E, .bool x.free] → (∀ i, i ≠ 22 → s1.env i = st.env i) → (∀ k g, k ≠ 22 → s1.obj k g = st.obj k g) → (∀ k, k ≠ 22 → s1.cnt k = st.cnt k) →
      Sees22 s1 4 F (x.fls.map rqC) → GrowsC s1 22 4 D (x.duals.map rqC) → Sees22 s1 3 E (x.decs.map decC) → Wp mach r Q s1) :
    Wp mach (⟨some 22, .call 5 1 [] args, none, vk⟩ :: r) Q st := by
  obtain ⟨rv, hb, hcall⟩ := prices_o m a hm hcu hal
  obtain ⟨cs, rfl, had⟩ := adopt_p22 hb
  obtain ⟨F, D, E, fls, duals, decs, s1, rfl, h1, h2, h3, h4, sF, gD, sE, l1, l2, l3, k1, k2⟩ := had st hc
  rw [wp_call1a (hc := hcall) (ha := ha) (hh := hh)]
  exact hQ ⟨fls, m.cuts, duals, decs, false⟩ F D E _ ⟨by show fls.length < _; omega, by show m.cuts.length < _; omega, by show duals.length < _; omega, by show decs.length < _; omega, fun c hc => by have := hrs c hc; omega, fun r hr => by obtain ⟨q, d, e⟩ := k1 r hr; exact ⟨q, d.mono (by omega), e⟩, fun r hr => by obtain ⟨q, d, e⟩ := k2 r hr; exact ⟨q, d.mono (by omega), e⟩⟩ rfl l2 l1 h1 h2 h3 h4 sF gD sE
end Go.TM.Fn
end
section
namespace Go.TM.Fn
open Go Go.TM Go.Plain
set_option linter.unusedVariables false
set_option linter.unusedSimpArgs false
set_option maxRecDepth 20000
set_option maxHeartbeats 8000000
def tlM : TCode → TCode
  | .seq _ c => c
  | c => c
def hdM : TCode → TCode
  | .seq a _ => a
  | c => c
def NS : TCode := hdM (tlM (tlM (tlM (tlM F3.body))))
def N5 : TCode := hdM (tlM (tlM (tlM (tlM (tlM F3.body)))))
def N6 : TCode := hdM (tlM (tlM (tlM (tlM (tlM (tlM F3.body))))))
def N7 : TCode := tlM (tlM (tlM (tlM (tlM (tlM (tlM F3.body))))))
theorem bodyM : F3.body = .seq (hdM F3.body) (.seq (hdM (tlM F3.body)) (.seq (hdM (tlM (tlM F3.body))) (.seq (hdM (tlM (tlM (tlM F3.body)))) (.seq NS (.seq N5 (.seq N6 N7)))))) := rfl
structure LS (s : St) (x y : Pri) (num den : Int) (F C D E F' C' D' E' : TV) : Prop where
  e10 : s.env 10 = .ptr 10 0 0 0
  e11 : s.env 11 = .ptr 11 0 0 0
  e12 : s.env 12 = .int .i64 num
  e13 : s.env 13 = .int .i64 den
  o10 : s.obj 10 0 = bx [F, C, D, E, .bool x.free] 5
  o11 : s.obj 11 0 = bx [F', C', D', E', .bool y.free] 5
  sF : SeesX s 4 F (x.fls.map rqC)
  sC : SeesX s 2 C (x.cuts.map cutC)
  sD : SeesX s 4 D (x.duals.map rqC)
  sE : SeesX s 3 E (x.decs.map decC)
  tF : SeesX s 4 F' (y.fls.map rqC)
  tC : SeesX s 2 C' (y.cuts.map cutC)
  tD : SeesX s 4 D' (y.duals.map rqC)
  tE : SeesX s 3 E' (y.decs.map decC)
theorem LS.mono {s s' : St} {x y num den F C D E F' C' D' E'} (h : LS s x y num den F C D E F' C' D' E') (e10 : s'.env 10 = s.env 10) (e11 : s'.env 11 = s.env 11) (e12 : s'.env 12 = s.env 12) (e13 : s'.env 13 = s.env 13)
    (o10 : ∀ c n, s.obj 10 0 = bx c n → s'.obj 10 0 = bx c n) (o11 : ∀ c n, s.obj 11 0 = bx c n → s'.obj 11 0 = bx c n) (hk : ∀ k g, 18 ≤ k → k < 64 → Kp s s' k g) : LS s' x y num den F C D E F' C' D' E' :=
  ⟨by rw [e10]; exact h.e10, by rw [e11]; exact h.e11, by rw [e12]; exact h.e12, by rw [e13]; exact h.e13, o10 _ _ h.o10, o11 _ _ h.o11, h.sF.mono hk, h.sC.mono hk, h.sD.mono hk, h.sE.mono hk, h.tF.mono hk, h.tC.mono hk, h.tD.mono hk, h.tE.mono hk⟩
theorem kp_ex {st st' : St} {k g} (h : ∃ b hs s1, st'.obj k g = (unsol b hs s1).obj k g ∧ s1.obj k g = st.obj k g) : Kp st st' k g := by
  obtain ⟨b, hs, s1, h1, h2⟩ := h; exact kp_unsol h1 h2
theorem lawM5 {Q : Ex → St → Prop} {st : St} {x y : Pri} {num den : Int} {F C D E F' C' D' E' : TV} (h : LS st x y num den F C D E F' C' D' E') (c14 : st.cnt 14 = 0) (c16 : st.cnt 16 = 0) (u : Pri) (err : Int)
    (hm : Gives mach 7 [priT x, priT y, .int .i64 num, .int .i64 den] (.tup [priT u, .int .i64 err]))
    (hQ : ∀ s, LS s x y num den F C D E F' C' D' E' → s.cnt 16 = 0 → s.env 14 = .ptr 14 0 0 0 → s.obj 14 0 = bx (priL u) 5 → s.env 15 = .int .i64 err → Q .norm s) : Goes mach N5 Q st := by
  have k1 := h.sF.tree
  have k2 := h.sC.tree
  have k3 := h.sD.tree
  have k4 := h.sE.tree
  have k5 := h.tF.tree
  have k6 := h.tC.tree
  have k7 := h.tD.tree
  have k8 := h.tE.tree
  simp only [N5, hdM, tlM, F3, tmR, seval, h.e10, h.e11, h.e12, h.e13, h.o10, h.o11, k1, k2, k3, k4, k5, k6, k7, k8, wpcall_eq hm, c14]
  refine hQ _ (h.mono ?_ ?_ ?_ ?_ (fun c n hb => ?_) (fun c n hb => ?_) (fun k g h1 h2 => ?_)) ?_ ?_ ?_ ?_
  · simp only [tmD, reduceIte, Nat.reduceEqDiff, Nat.reduceAdd]
  · simp only [tmD, reduceIte, Nat.reduceEqDiff, Nat.reduceAdd]
  · simp only [tmD, reduceIte, Nat.reduceEqDiff, Nat.reduceAdd]
  · simp only [tmD, reduceIte, Nat.reduceEqDiff, Nat.reduceAdd]
  · simp only [tmD, reduceIte, Nat.reduceEqDiff, Nat.reduceAdd]; exact unsol_bx _ _ hb
  · simp only [tmD, reduceIte, Nat.reduceEqDiff, Nat.reduceAdd]; exact unsol_bx _ _ hb
  · refine kp_ex ?_
    simp only [putO_obj, bump_obj, setO_obj, put_obj]; rw [if_neg (by omega), if_neg (by omega)]; exact ⟨_, _, _, rfl, rfl⟩
  · simp only [tmD, reduceIte, Nat.reduceEqDiff, Nat.reduceAdd, c16]
  · simp only [tmD, reduceIte, Nat.reduceEqDiff, Nat.reduceAdd]
  · simp only [tmD, reduceIte, Nat.reduceEqDiff, Nat.reduceAdd]
  · simp only [tmD, reduceIte, Nat.reduceEqDiff, Nat.reduceAdd]
theorem lawM6 {Q : Ex → St → Prop} {st : St} {x y : Pri} {num den : Int} {F C D E F' C' D' E' : TV} (h : LS st x y num den F C D E F' C' D' E') (c16 : st.cnt 16 = 0) (u : Pri) (err : Int) (e14 : st.env 14 = .ptr 14 0 0 0) (o14 : st.obj 14 0 = bx (priL u) 5) (e15 : st.env 15 = .int .i64 err)
    (hm : Gives mach 8 [priT x, priT y, .int .i64 num, .int .i64 den] (.tup [priT u, .int .i64 err]))
    (hQ : ∀ s, s.env 14 = .ptr 14 0 0 0 → s.obj 14 0 = bx (priL u) 5 → s.env 15 = .int .i64 err → s.env 16 = .ptr 16 0 0 0 → s.obj 16 0 = bx (priL u) 5 → s.env 17 = .int .i64 err → Q .norm s) : Goes mach N6 Q st := by
  have k1 := h.sF.tree
  have k2 := h.sC.tree
  have k3 := h.sD.tree
  have k4 := h.sE.tree
  have k5 := h.tF.tree
  have k6 := h.tC.tree
  have k7 := h.tD.tree
  have k8 := h.tE.tree
  simp only [N6, hdM, tlM, F3, tmR, seval, h.e10, h.e11, h.e12, h.e13, h.o10, h.o11, k1, k2, k3, k4, k5, k6, k7, k8, wpcall_eq hm, c16]
  refine hQ _ ?_ ?_ ?_ ?_ ?_ ?_
  · simp only [tmD, reduceIte, Nat.reduceEqDiff, Nat.reduceAdd, e14]
  · simp only [tmD, reduceIte, Nat.reduceEqDiff, Nat.reduceAdd]; exact unsol_bx _ _ o14
  · simp only [tmD, reduceIte, Nat.reduceEqDiff, Nat.reduceAdd, e15]
  · simp only [tmD, reduceIte, Nat.reduceEqDiff, Nat.reduceAdd]
  · simp only [tmD, reduceIte, Nat.reduceEqDiff, Nat.reduceAdd]
  · simp only [tmD, reduceIte, Nat.reduceEqDiff, Nat.reduceAdd]
theorem lawM7 {args : List TV} {st : St} (ha : hasOwn args = false) (hmu : ∀ s : St, mutsOf s 0 args = some []) (u : Pri) (hu : Gives mach 9 [priT u, priT u] (.bool true)) (err : Int) (e14 : st.env 14 = .ptr 14 0 0 0) (o14 : st.obj 14 0 = bx (priL u) 5) (e15 : st.env 15 = .int .i64 err) (e16 : st.env 16 = .ptr 16 0 0 0) (o16 : st.obj 16 0 = bx (priL u) 5) (e17 : st.env 17 = .int .i64 err) :
    Goes mach N7 (RetQ [.tmp 8] args (.bool true)) st := by
  have kn : Gives mach 10 [] (.bool true) := ⟨_, known_o, rfl⟩
  simp only [N7, tlM, F3, tmR, seval, e14, o14, e15, e16, o16, e17, wpcall_eq hu, wpcall_eq kn]
  refine ⟨.bool true, ?_, rfl⟩
  simp [finishR, resVals, resVal, hmu, ha, put_env, out, out1, once, hands, hand1, TV.cells, tree, tree1]
end Go.TM.Fn
end
section
namespace Go.TM.Fn
open Go Go.TM Go.Plain
set_option linter.unusedVariables false
set_option linter.unusedSimpArgs false
set_option maxRecDepth 20000
set_option maxHeartbeats 8000000
theorem okD {k : Nat} {us : List RQ} (h : ∀ r ∈ us, RQ.Can k r) (i : Nat) : RQ.Ok k (us.getD i default) := by
  by_cases hi : i < us.length
  · exact (h _ (getD_mem default hi)).ok
  · rw [List.getD_eq_getElem?_getD, List.getElem?_eq_none (by omega)]
    exact ⟨.nil, .nil, Nat.zero_le _, Nat.zero_le _⟩
theorem mixL_ok {num den : Int} (hn : I64 num) (hd : I64 den) (hdn : I64 (den - num)) {us vs : List RQ} (hu : ∀ r ∈ us, RQ.Can 1000 r) (hv : ∀ r ∈ vs, RQ.Can 1000 r) : ∀ r ∈ mixL num den us vs, RQ.Ok 100000 r := by
  intro r hr
  simp only [mixL, List.mem_map] at hr
  obtain ⟨i, _, rfl⟩ := hr
  have d1 := dq_divInt (k := 2) (by omega) (di_i64 hn) (di_i64 hd)
  have d2 := dq_divInt (k := 2) (by omega) (di_i64 hdn) (di_i64 hd)
  have q1 := dq_mul d1 ((RQ.isQ (okD hu i)).dq (by omega)) (by omega)
  have q2 := dq_mul d2 ((RQ.isQ (okD hv i)).dq (by omega)) (by omega)
  exact rqOf_ok ((dq_add q1 q2).mono (by omega))
theorem mixR_same (x y : Pri) (hx : x.Can) (hy : y.Can) (num den : Int) (hn : -1000 ≤ num ∧ num ≤ 1000) (hd : -1000 ≤ den ∧ den ≤ 1000) : Gives mach 9 [priT (mixR x y num den).1, priT (mixR x y num den).1] (.bool true) := by
  have z : Gives mach 9 [priT zeroP, priT zeroP] (.bool true) := samePri_c zeroP (by decide) (by decide) (by decide) (by decide) (fun c hc => by cases hc) (fun r hr => by cases hr) (fun r hr => by cases hr)
  by_cases h1 : den < 1 ∨ num < 0 ∨ den < num
  · rw [mixR_err h1]; exact z
  by_cases h2 : Shape x y
  · rw [mixR_ok h1 h2]
    have k1 := hx.fls
    have k2 := hx.cuts
    have k3 := hx.duals
    have k4 := hx.decs
    exact samePri_c _ (by show (mixL _ _ _ _).length < _; rw [mixL_len]; omega) (by show x.cuts.length < _; omega) (by show (mixL _ _ _ _).length < _; rw [mixL_len]; omega) (by show x.decs.length < _; omega) (fun c hc => by have := hx.rs c hc; omega)
      (mixL_ok (by unfold I64; omega) (by unfold I64; omega) (by unfold I64; omega) hx.fc hy.fc) (mixL_ok (by unfold I64; omega) (by unfold I64; omega) (by unfold I64; omega) hx.dc hy.dc)
  · rw [mixR_bad h1 h2]; exact z
theorem lawMS {Q : Ex → St → Prop} {st : St} (x y : Pri) (n num den : Int) (hx : x.Can) (hy : y.Can) (hxy : x.cuts = y.cuts) (yfl : y.fls.length = 6) (xd : x.duals.length ≤ 10) {F D E : TV}
    (e3 : st.env 3 = .int .i64 n) (e10 : st.env 10 = .ptr 10 0 0 0) (e11 : st.env 11 = .ptr 11 0 0 0) (e12 : st.env 12 = .int .i64 num) (e13 : st.env 13 = .int .i64 den) (o10 : st.obj 10 0 = bx [F, .sl (x.cuts.map cutC), D, E, .bool x.free] 5) (o11 : st.obj 11 0 = bx (priL y) 5)
    (sF : Sees22 st 4 F (x.fls.map rqC)) (gD : GrowsC st 22 4 D (x.duals.map rqC)) (sE : Sees22 st 3 E (x.decs.map decC)) (c14 : st.cnt 14 = 0) (c16 : st.cnt 16 = 0)
    (hQ : ∀ s x' y' F C D E F' C' D' E', x'.Can → y'.Can → x'.cuts = y'.cuts → LS s x' y' num den F C D E F' C' D' E' → s.cnt 14 = 0 → s.cnt 16 = 0 → Q .norm s) : Goes mach NS Q st := by
  have hs9 := bin_shr_i64 false .u64 n 9 (by decide)
  obtain ⟨j, hj⟩ : ∃ j, j = andm (n.fdiv (2 ^ (min 9 64))) 7 := ⟨_, rfl⟩
  have cF := sF.cells
  have cD := gD.cells
  have cE := sE.cells
  have sD : Sees22 st 4 D (x.duals.map rqC) := by
    rcases gD with h | ⟨g, h1, h2, h3⟩
    · exact .inl h
    · exact .inr (.inr ⟨g, _, h1, h3, rfl, rfl, rfl⟩)
  by_cases j0 : (j : Int) = 0
  · simp only [NS, hdM, tlM, F3, tmR, seval, e3, hs9, and7, ← hj, j0]
    refine hQ _ x y F _ D E _ _ _ _ hx hy hxy ⟨?_, ?_, ?_, ?_, ?_, ?_, ?_, .inr (.inl rfl), ?_, ?_, .inr (.inl rfl), .inr (.inl rfl), .inr (.inl rfl), .inr (.inl rfl)⟩ ?_ ?_
    · simp only [tmD, reduceIte, Nat.reduceEqDiff, Nat.reduceAdd, e10]
    · simp only [tmD, reduceIte, Nat.reduceEqDiff, Nat.reduceAdd, e11]
    · simp only [tmD, reduceIte, Nat.reduceEqDiff, Nat.reduceAdd, e12]
    · simp only [tmD, reduceIte, Nat.reduceEqDiff, Nat.reduceAdd, e13]
    · simp only [tmD, reduceIte, Nat.reduceEqDiff, Nat.reduceAdd, o10]
    · simp only [tmD, reduceIte, Nat.reduceEqDiff, Nat.reduceAdd, o11]
    · exact sF.to (fun g => kp_eq (by simp only [tmD, reduceIte, Nat.reduceEqDiff, Nat.reduceAdd]))
    · exact sD.to (fun g => kp_eq (by simp only [tmD, reduceIte, Nat.reduceEqDiff, Nat.reduceAdd]))
    · exact sE.to (fun g => kp_eq (by simp only [tmD, reduceIte, Nat.reduceEqDiff, Nat.reduceAdd]))
    · simp only [tmD, reduceIte, Nat.reduceEqDiff, Nat.reduceAdd, c14]
    · simp only [tmD, reduceIte, Nat.reduceEqDiff, Nat.reduceAdd, c16]
  by_cases j1 : (j : Int) = 1
  · simp only [NS, hdM, tlM, F3, tmR, seval, e3, hs9, and7, ← hj, j0, j1, e11, o11, Int.reduceEq]
    refine hQ _ x { y with free := true } F _ D E _ _ _ _ hx ⟨hy.1, hy.2, hy.3, hy.4, hy.5, hy.6, hy.7⟩ hxy ⟨?_, ?_, ?_, ?_, ?_, ?_, ?_, .inr (.inl rfl), ?_, ?_, .inr (.inl rfl), .inr (.inl rfl), .inr (.inl rfl), .inr (.inl rfl)⟩ ?_ ?_
    · simp only [tmD, reduceIte, Nat.reduceEqDiff, Nat.reduceAdd, e10]
    · simp only [tmD, reduceIte, Nat.reduceEqDiff, Nat.reduceAdd, e11]
    · simp only [tmD, reduceIte, Nat.reduceEqDiff, Nat.reduceAdd, e12]
    · simp only [tmD, reduceIte, Nat.reduceEqDiff, Nat.reduceAdd, e13]
    · simp only [tmD, reduceIte, Nat.reduceEqDiff, Nat.reduceAdd, o10]
    · simp only [tmD, reduceIte, Nat.reduceEqDiff, Nat.reduceAdd]
    · exact sF.to (fun g => kp_eq (by simp only [tmD, reduceIte, Nat.reduceEqDiff, Nat.reduceAdd]))
    · exact sD.to (fun g => kp_eq (by simp only [tmD, reduceIte, Nat.reduceEqDiff, Nat.reduceAdd]))
    · exact sE.to (fun g => kp_eq (by simp only [tmD, reduceIte, Nat.reduceEqDiff, Nat.reduceAdd]))
    · simp only [tmD, reduceIte, Nat.reduceEqDiff, Nat.reduceAdd, c14]
    · simp only [tmD, reduceIte, Nat.reduceEqDiff, Nat.reduceAdd, c16]
  by_cases j2 : (j : Int) = 2
  · have hsl : ∀ ob, sliceE ob 4 false (.sl (y.fls.map rqC)) (some (.int .i64 1)) none none = some { v := .sl ((y.fls.drop 1).map rqC) } := fun ob => by
      have := slice_sl_l (ob := ob) (es := 4) (k := .i64) (l := 1) (xs := y.fls.map rqC) (by rw [map_len]; omega) (uni_map (C := rqC) (fun _ => rfl) _)
      rw [← List.map_drop] at this; exact this
    simp only [NS, hdM, tlM, F3, tmR, seval, e3, hs9, and7, ← hj, j0, j1, j2, e11, o11, hsl, Int.reduceEq]
    refine hQ _ x { y with fls := y.fls.drop 1 } F _ D E _ _ _ _ hx ⟨by show (y.fls.drop 1).length < _; simp; omega, hy.2, hy.3, hy.4, hy.5, fun r hr => hy.6 r (List.mem_of_mem_drop hr), hy.7⟩ hxy ⟨?_, ?_, ?_, ?_, ?_, ?_, ?_, .inr (.inl rfl), ?_, ?_, .inr (.inl rfl), .inr (.inl rfl), .inr (.inl rfl), .inr (.inl rfl)⟩ ?_ ?_
    · simp only [tmD, reduceIte, Nat.reduceEqDiff, Nat.reduceAdd, e10]
    · simp only [tmD, reduceIte, Nat.reduceEqDiff, Nat.reduceAdd, e11]
    · simp only [tmD, reduceIte, Nat.reduceEqDiff, Nat.reduceAdd, e12]
    · simp only [tmD, reduceIte, Nat.reduceEqDiff, Nat.reduceAdd, e13]
    · simp only [tmD, reduceIte, Nat.reduceEqDiff, Nat.reduceAdd, o10]
    · simp only [tmD, reduceIte, Nat.reduceEqDiff, Nat.reduceAdd]
    · exact sF.to (fun g => kp_eq (by simp only [tmD, reduceIte, Nat.reduceEqDiff, Nat.reduceAdd]))
    · exact sD.to (fun g => kp_eq (by simp only [tmD, reduceIte, Nat.reduceEqDiff, Nat.reduceAdd]))
    · exact sE.to (fun g => kp_eq (by simp only [tmD, reduceIte, Nat.reduceEqDiff, Nat.reduceAdd]))
    · simp only [tmD, reduceIte, Nat.reduceEqDiff, Nat.reduceAdd, c14]
    · simp only [tmD, reduceIte, Nat.reduceEqDiff, Nat.reduceAdd, c16]
  by_cases j3 : (j : Int) = 3
  · have i0 := rint_c (n := 0) (by unfold I64; omega)
    have d0 := dq_int (n := 0) (by unfold I64; omega)
    rw [show (((0 : Int) : Rat)) = 0 from rfl] at i0 d0
    have k3 := hx.duals
    simp only [NS, hdM, tlM, F3, tmR, seval, e3, hs9, and7, ← hj, j0, j1, j2, j3, e10, o10, wpcall_eq i0, Int.reduceEq]
    refine wp_appD (L := x.duals) (r0 := rqOf 0) (.fb []) _ _ _ ?_ (fun k g => rfl) ?_ k3 (fun s v henv hk ho hcn sV => ?_)
    · simp only [tmR, seval]
      exact gD.mono (fun g _ => by simp only [tmD, reduceIte, Nat.reduceEqDiff, Nat.reduceAdd]) (by simp only [tmD, reduceIte, Nat.reduceEqDiff, Nat.reduceAdd]; exact Nat.le_refl _)
    · simp only [tmR, seval, elems]; rfl
    have b10 := ho 10 0 (by decide) (by decide)
    have b11 := ho 11 0 (by decide) (by decide)
    have n14 := hcn 14 (by decide)
    have n16 := hcn 16 (by decide)
    simp only [tmD, reduceIte, Nat.reduceEqDiff, Nat.reduceAdd, o10] at b10
    simp only [tmD, reduceIte, Nat.reduceEqDiff, Nat.reduceAdd, o11] at b11
    simp only [tmD, reduceIte, Nat.reduceEqDiff, Nat.reduceAdd, c14] at n14
    simp only [tmD, reduceIte, Nat.reduceEqDiff, Nat.reduceAdd, c16] at n16
    have cV := sV.cells
    simp only [tmR, seval, henv, e10, b10, cV]
    have kk : ∀ g, Kp st (setO (put s 63 (.ptr 10 0 0 2)) 10 0 (some { cont := [[F, .sl (x.cuts.map cutC), v, E, .bool x.free]], esz := 5, box := true, solo := true, tip := false })) 22 g := fun g o hob => by
      obtain ⟨o', q1, q2⟩ := hk 22 g (by decide) o (by simp only [tmD, reduceIte, Nat.reduceEqDiff, Nat.reduceAdd]; exact hob)
      exact ⟨o', by simp only [tmD, reduceIte, Nat.reduceEqDiff, Nat.reduceAdd]; exact q1, q2⟩
    refine hQ _ { x with duals := x.duals ++ [rqOf 0] } y F _ v E _ _ _ _ ⟨hx.1, hx.2, by show (x.duals ++ [rqOf 0]).length < _; simp; omega, hx.4, hx.5, hx.6, fun r hr => ?_⟩ hy hxy ⟨?_, ?_, ?_, ?_, ?_, ?_, ?_, .inr (.inl rfl), ?_, ?_, .inr (.inl rfl), .inr (.inl rfl), .inr (.inl rfl), .inr (.inl rfl)⟩ ?_ ?_
    · rcases List.mem_append.1 hr with h | h
      · exact hx.7 r h
      · simp only [List.mem_singleton] at h; subst h; exact ⟨0, d0.mono (by omega), rfl⟩
    · simp only [tmD, reduceIte, Nat.reduceEqDiff, Nat.reduceAdd, henv, e10]
    · simp only [tmD, reduceIte, Nat.reduceEqDiff, Nat.reduceAdd, henv, e11]
    · simp only [tmD, reduceIte, Nat.reduceEqDiff, Nat.reduceAdd, henv, e12]
    · simp only [tmD, reduceIte, Nat.reduceEqDiff, Nat.reduceAdd, henv, e13]
    · simp only [tmD, reduceIte, Nat.reduceEqDiff, Nat.reduceAdd]
    · simp only [tmD, reduceIte, Nat.reduceEqDiff, Nat.reduceAdd, b11]
    · exact sF.to kk
    · exact sV.mono (fun k g h1 h2 => kp_eq (by simp only [tmD, reduceIte, Nat.reduceEqDiff, Nat.reduceAdd]; rw [if_neg (by omega)]))
    · exact sE.to kk
    · simp only [tmD, reduceIte, Nat.reduceEqDiff, Nat.reduceAdd, n14]
    · simp only [tmD, reduceIte, Nat.reduceEqDiff, Nat.reduceAdd, n16]
  · simp only [NS, hdM, tlM, F3, tmR, seval, e3, hs9, and7, ← hj, j0, j1, j2, j3, e10, o10, e11, o11, cE]
    refine hQ _ x { y with decs := x.decs } F _ D E _ _ _ E hx ⟨hy.1, hy.2, hy.3, hx.4, hy.5, hy.6, hy.7⟩ hxy ⟨?_, ?_, ?_, ?_, ?_, ?_, ?_, .inr (.inl rfl), ?_, ?_, .inr (.inl rfl), .inr (.inl rfl), .inr (.inl rfl), ?_⟩ ?_ ?_
    · simp only [tmD, reduceIte, Nat.reduceEqDiff, Nat.reduceAdd, e10]
    · simp only [tmD, reduceIte, Nat.reduceEqDiff, Nat.reduceAdd, e11]
    · simp only [tmD, reduceIte, Nat.reduceEqDiff, Nat.reduceAdd, e12]
    · simp only [tmD, reduceIte, Nat.reduceEqDiff, Nat.reduceAdd, e13]
    · simp only [tmD, reduceIte, Nat.reduceEqDiff, Nat.reduceAdd, o10]
    · simp only [tmD, reduceIte, Nat.reduceEqDiff, Nat.reduceAdd]
    · exact sF.to (fun g => kp_eq (by simp only [tmD, reduceIte, Nat.reduceEqDiff, Nat.reduceAdd]))
    · exact sD.to (fun g => kp_eq (by simp only [tmD, reduceIte, Nat.reduceEqDiff, Nat.reduceAdd]))
    · exact sE.to (fun g => kp_eq (by simp only [tmD, reduceIte, Nat.reduceEqDiff, Nat.reduceAdd]))
    · exact sE.to (fun g => kp_eq (by simp only [tmD, reduceIte, Nat.reduceEqDiff, Nat.reduceAdd]))
    · simp only [tmD, reduceIte, Nat.reduceEqDiff, Nat.reduceAdd, c14]
    · simp only [tmD, reduceIte, Nat.reduceEqDiff, Nat.reduceAdd, c16]
theorem law5_c (l a b : List Int) (n : Int) (hl : l.length < 9223372036854775808) (ha : a.length < 9223372036854775808) (hb : b.length < 9223372036854775808) :
    Gives mach 3 [.sl (ints .i64 l), .sl (ints .i64 a), .sl (ints .i64 b), .int .i64 n] (.bool true) := by
  obtain ⟨m, ms, mf, mc, mr, hm⟩ := master_c l hl
  obtain ⟨y, yc, ycu, yfl, -, -, -, hy⟩ := prices_c m b mf mc mr hb
  have hs3 := bin_shr_i64 false .u64 n 3 (by decide)
  have hs6 := bin_shr_i64 false .u64 n 6 (by decide)
  obtain ⟨a0, h0⟩ : ∃ j, j = andm n 7 := ⟨_, rfl⟩
  obtain ⟨a1, h1⟩ : ∃ j, j = andm (n.fdiv (2 ^ (min 3 64))) 7 := ⟨_, rfl⟩
  obtain ⟨a2, h2⟩ : ∃ j, j = andm (n.fdiv (2 ^ (min 6 64))) 7 := ⟨_, rfl⟩
  have l0 := andm_le n 7
  have l1 := andm_le (n.fdiv (2 ^ (min 3 64))) 7
  have l2 := andm_le (n.fdiv (2 ^ (min 6 64))) 7
  rw [← h0] at l0
  rw [← h1] at l1
  rw [← h2] at l2
  have seven : (7 : Int) ≠ 0 := by decide
  have q7 : (a2 : Int).tdiv 7 = ((a2 / 7 : Nat) : Int) := (Int.ofNat_tdiv a2 7).symm
  have l3 : a2 / 7 ≤ 1 := by omega
  have w1 : IntKind.i64.wrap ((a0 : Int) - 1) = (a0 : Int) - 1 := wrap_i64 (by omega) (by omega)
  have w2 : IntKind.i64.wrap (1 + (a1 : Int)) = 1 + (a1 : Int) := wrap_i64 (by omega) (by omega)
  have w3 : IntKind.i64.wrap ((a2 / 7 : Nat) : Int) = ((a2 / 7 : Nat) : Int) := wrap_i64 (by omega) (by omega)
  have w4 : IntKind.i64.wrap (((a2 / 7 : Nat) : Int) * 9) = ((a2 / 7 : Nat) : Int) * 9 := wrap_i64 (by omega) (by omega)
  have w5 : IntKind.i64.wrap (1 + (a1 : Int) - ((a2 / 7 : Nat) : Int) * 9) = 1 + (a1 : Int) - ((a2 / 7 : Nat) : Int) * 9 := wrap_i64 (by omega) (by omega)
  refine gives tab3 rfl ?_
  rw [bodyM]
  show Goes mach _ (RetQ [.tmp 8] _ _) _
  simp only [wp_seq, hdM, tlM, F3, tmR, seval, wpcall_eq hm]
  refine wp_prices m a mf mc mr ha _ _ _ ?_ ?_ ?_ (fun x F D E s xc xcu xfr xfl v22 henv hobj hcn sF gD sE => ?_)
  · simp only [tmR, seval]
  · simp only [tmR, seval]
  · simp only [tmD, reduceIte, Nat.reduceEqDiff, Nat.reduceAdd]
  have e2 := henv 2 (by decide)
  have e3 := henv 3 (by decide)
  have e9 := henv 9 (by decide)
  have o9 := hobj 9 0 (by decide)
  have n10 := hcn 10 (by decide)
  have n11 := hcn 11 (by decide)
  have n14 := hcn 14 (by decide)
  have n16 := hcn 16 (by decide)
  simp only [tmD, reduceIte, Nat.reduceEqDiff, Nat.reduceAdd] at e2 e3 e9 o9 n10 n11 n14 n16
  simp only [tmR, seval, e2, e3, e9, o9, n10, n11, v22, wpcall_eq hy, hs3, hs6, and7, ← h0, ← h1, ← h2, w1, w2, bin_quo _ _ _ _ seven, q7, w3, w4, w5]
  refine lawMS x y n ((a0 : Int) - 1) (1 + (a1 : Int) - ((a2 / 7 : Nat) : Int) * 9) xc yc (by rw [xcu, ycu]) yfl (by omega) ?_ ?_ ?_ ?_ ?_ ?_ ?_ (sF.same fun g => ?_) (gD.mono (fun g _ => ?_) ?_) (sE.same fun g => ?_) ?_ ?_ (fun s x' y' F C D E F' C' D' E' xc' yc' hxy' ls c14 c16 => ?_)
  · simp only [tmD, reduceIte, Nat.reduceEqDiff, Nat.reduceAdd, e3]
  · simp only [tmD, reduceIte, Nat.reduceEqDiff, Nat.reduceAdd]
  · simp only [tmD, reduceIte, Nat.reduceEqDiff, Nat.reduceAdd]
  · simp only [tmD, reduceIte, Nat.reduceEqDiff, Nat.reduceAdd]
  · simp only [tmD, reduceIte, Nat.reduceEqDiff, Nat.reduceAdd]
  · simp only [tmD, reduceIte, Nat.reduceEqDiff, Nat.reduceAdd]
  · simp only [tmD, reduceIte, Nat.reduceEqDiff, Nat.reduceAdd]
  · simp only [tmD, reduceIte, Nat.reduceEqDiff, Nat.reduceAdd]
  · simp only [tmD, reduceIte, Nat.reduceEqDiff, Nat.reduceAdd]
  · simp only [tmD, reduceIte, Nat.reduceEqDiff, Nat.reduceAdd]; exact Nat.le_refl _
  · simp only [tmD, reduceIte, Nat.reduceEqDiff, Nat.reduceAdd]
  · simp only [tmD, reduceIte, Nat.reduceEqDiff, Nat.reduceAdd, n14]
  · simp only [tmD, reduceIte, Nat.reduceEqDiff, Nat.reduceAdd, n16]
  have p1 := pmix_c x' y' hxy' xc' yc' ((a0 : Int) - 1) (1 + (a1 : Int) - ((a2 / 7 : Nat) : Int) * 9) (by omega) (by omega)
  have p2 := rmix_c x' y' hxy' xc' yc' ((a0 : Int) - 1) (1 + (a1 : Int) - ((a2 / 7 : Nat) : Int) * 9) (by omega) (by omega)
  have p3 := mixR_same x' y' xc' yc' ((a0 : Int) - 1) (1 + (a1 : Int) - ((a2 / 7 : Nat) : Int) * 9) (by omega) (by omega)
  simp only [thenQ_norm, wp_seq]
  refine lawM5 ls c14 c16 _ _ p1 (fun s ls c16 e14 o14 e15 => ?_)
  simp only [thenQ_norm, wp_seq]
  refine lawM6 ls c16 _ _ e14 o14 e15 p2 (fun s e14 o14 e15 e16 o16 e17 => ?_)
  simp only [thenQ_norm]
  exact lawM7 rfl (fun _ => rfl) _ p3 _ e14 o14 e15 e16 o16 e17
theorem view_bool {rv : TV} {b : Bool} (h : view rv = .bool b) : rv = .bool b := by
  cases rv <;> simp [view, viewA, view1] at h
  rw [h]
theorem law5_o (l a b : List Int) (n : Int) (hl : l.length < 9223372036854775808) (ha : a.length < 9223372036854775808) (hb : b.length < 9223372036854775808) :
    call mach 3 [.sl (ints .i64 l), .sl (ints .i64 a), .sl (ints .i64 b), .int .i64 n] = some (.bool true, []) := by
  obtain ⟨rv, h1, h2⟩ := law5_c l a b n hl ha hb
  rw [view_bool h2] at h1; exact h1
end Go.TM.Fn
end
