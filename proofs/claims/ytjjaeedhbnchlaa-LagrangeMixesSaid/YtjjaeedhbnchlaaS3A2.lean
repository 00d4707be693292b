/- The small machine: whole functions, calls, and that what it answers the loaded program answers. No condition. -/
import Derived.Test.YtjjaeedhbnchlaaS3A1
import Derived.Below
section
namespace Go.TM
set_option linter.unusedVariables false
set_option linter.unusedSimpArgs false
section
variable {P : Program} {C : Ctx} {ρ : Nat → Nat → Loc} {I : Nat → Nat → Prop} {w : World} {a : Act} {st : St}
def lcOf (ρ : Nat → Nat → Loc) (lent : List Nat) (vals : List TV) (i : Nat) : Option Loc :=
  if lent.contains i then match vals[i]? with
    | some (.hs k g _ _) => some (ρ k g)
    | _ => none
  else none
theorem lend_spec {ob0 ob : Nat → Nat → Option Obj} (hob : Sub ob0 ob) {v u : TV} (h : lend ob v = some u) :
    ∃ k g e o, v = .hs k g e o.cont.length ∧ ob0 k g = some o ∧ ob k g = some o ∧ o.box = false ∧ o.solo = true ∧ o.tip = true ∧ o.esz = e ∧ u = .own e o.cont := by
  unfold lend at h
  split at h
  · rename_i k g e n
    split at h
    · rename_i o ho
      split at h <;> cases h
      rename_i hcond
      obtain ⟨c1, c2, c3, rfl, c5⟩ := hcond
      obtain ⟨o2, ho2, _, _, _, hs⟩ := hob k g o ho
      have := hs (.inl c2)
      subst this
      exact ⟨k, g, e, o, rfl, ho2, ho, c1, c2, c3, c5, rfl⟩
    · cases h
  · cases h
theorem ArgAt.of_ta {v : Value} {t : TV} (h : TA I w v t) : ArgAt I w none v t := by
  cases t <;> simp only [ArgAt]
  case own => simp only [TA] at h; cases h
  all_goals first | exact ⟨rfl, h⟩ | exact ⟨trivial, h⟩ | simp_all
theorem args_ok {cnt : Nat → Nat} {ob0 ob : Nat → Nat → Option Obj} (hO : ORs I w ρ cnt ob0) (hob : Sub ob0 ob) (lent : List Nat) (full : List TV) {avs : List Value} {ts : List TV} (hv : All2 (VE I w ρ cnt) avs ts) :
    ∀ (i : Nat) (vs : List TV), (∀ j t, ts[j]? = some t → full[i + j]? = some t) → Frozen I ρ ob0 (heldOf lent i ts) → argsOf ob lent i ts = some vs → ArgsOk I w (lcOf ρ lent full) i avs vs := by
  induction hv with
  | nil => intro i vs _ _ h; simp [argsOf] at h; subst h; exact .nil
  | @cons v t avs ts hv _ ih =>
    intro i vs hfull hfro h
    simp only [argsOf] at h
    split at h
    · rename_i u us h1 h2
      cases h
      refine .cons ?_ (ih (i + 1) us (fun j t hj => by have := hfull (j + 1) t (by simpa using hj); rwa [show i + 1 + j = i + (j + 1) by omega]) (hfro.sub fun p hp => by simp only [heldOf, List.mem_append]; exact .inr hp) h2)
      have hi : full[i]? = some t := by simpa using hfull 0 t rfl
      by_cases hc : lent.contains i = true
      · rw [if_pos hc] at h1
        obtain ⟨k, g, e, o, rfl, ho, _, hb, _, _, he, rfl⟩ := lend_spec hob h1
        obtain ⟨_, hes, hvv, hcap⟩ := hv
        have hO' := hO k g o ho
        refine ⟨ρ k g, by simp only [lcOf, hc, if_true, hi], hvv, ?_⟩
        exact hO'.row (o' := rowObj e o.cont) hb rfl rfl he.symm
      · rw [if_neg hc] at h1
        have hl : lcOf ρ lent full i = none := by simp only [lcOf, hc]; rfl
        rw [hl]
        exact ArgAt.of_ta (tree_ta hO hob.c (hfro.sub fun p hp => by simp only [heldOf, List.mem_append]; exact .inl (by simp only [hc]; simpa using hp)) hv h1)
    · cases h
theorem argsOf_len {ob : Nat → Nat → Option Obj} {lent : List Nat} : ∀ {ts : List TV} {i : Nat} {vs : List TV}, argsOf ob lent i ts = some vs → vs.length = ts.length
  | [], i, vs, h => by simp [argsOf] at h; subst h; rfl
  | t :: ts, i, vs, h => by
    simp only [argsOf] at h
    split at h
    · rename_i u us h1 h2; cases h; simp [argsOf_len h2]
    · cases h
theorem argsOf_lend {ob : Nat → Nat → Option Obj} {lent : List Nat} : ∀ {ts : List TV} {i : Nat} {vs : List TV}, argsOf ob lent i ts = some vs → ∀ j t, ts[j]? = some t → lent.contains (i + j) = true → ∃ u, lend ob t = some u
  | [], i, vs, h, j, t, hj, _ => by simp at hj
  | t' :: ts, i, vs, h, j, t, hj, hc => by
    simp only [argsOf] at h
    split at h
    · rename_i u us h1 h2
      cases j with
      | zero => simp at hj; subst hj; rw [Nat.add_zero] at hc; rw [if_pos hc] at h1; exact ⟨u, h1⟩
      | succ j => exact argsOf_lend h2 j t (by simpa using hj) (by rw [show i + 1 + j = i + (j + 1) by omega]; exact hc)
    · cases h
theorem mem_lentOf {lent : List Nat} : ∀ {ts : List TV} {i j : Nat} {t : TV}, ts[j]? = some t → lent.contains (i + j) = true → ∀ p ∈ hands t, p ∈ lentOf lent i ts
  | [], i, j, t, hj, _, p, hp => by simp at hj
  | t' :: ts, i, j, t, hj, hc, p, hp => by
    simp only [lentOf, List.mem_append]
    cases j with
    | zero => simp at hj; subst hj; rw [Nat.add_zero] at hc; rw [if_pos hc]; exact .inl hp
    | succ j => exact .inr (mem_lentOf (by simpa using hj) (by rw [show i + 1 + j = i + (j + 1) by omega]; exact hc) p hp)
theorem once_append {l1 l2 : List (Nat × Nat)} (h : once (l1 ++ l2) = true) : once l2 = true ∧ ∀ p ∈ l1, p ∉ l2 := by
  induction l1 with
  | nil => exact ⟨h, by simp⟩
  | cons q l1 ih =>
    simp only [List.cons_append, once, Bool.and_eq_true, Bool.not_eq_true', List.contains_eq_mem, List.mem_append, decide_eq_false_iff_not] at h
    obtain ⟨h1, h2⟩ := ih h.2
    refine ⟨h1, fun p hp => ?_⟩
    rcases List.mem_cons.1 hp with rfl | hp
    · exact fun hm => h.1 (.inr hm)
    · exact h2 p hp
theorem lent_inj {lent : List Nat} : ∀ {ts : List TV} {i j j' : Nat} {t t' : TV} {p : Nat × Nat}, once (lentOf lent i ts) = true → ts[j]? = some t → ts[j']? = some t' → lent.contains (i + j) = true → lent.contains (i + j') = true → p ∈ hands t → p ∈ hands t' → j = j'
  | [], i, j, j', t, t', p, _, hj, _, _, _, _, _ => by simp at hj
  | s :: ts, i, j, j', t, t', p, ho, hj, hj', hc, hc', hp, hp' => by
    simp only [lentOf] at ho
    obtain ⟨h1, h2⟩ := once_append ho
    cases j with
    | zero =>
      cases j' with
      | zero => rfl
      | succ j' =>
        simp at hj; subst hj
        rw [Nat.add_zero] at hc
        rw [if_pos hc] at h2
        exact absurd (mem_lentOf (i := i + 1) (by simpa using hj') (by rw [show i + 1 + j' = i + (j' + 1) by omega]; exact hc') p hp') (h2 p hp)
    | succ j =>
      cases j' with
      | zero =>
        simp at hj'; subst hj'
        rw [Nat.add_zero] at hc'
        rw [if_pos hc'] at h2
        exact absurd (mem_lentOf (i := i + 1) (by simpa using hj) (by rw [show i + 1 + j = i + (j + 1) by omega]; exact hc) p hp) (h2 p hp')
      | succ j' =>
        have e1 : ts[j]? = some t := by simpa using hj
        have e2 : ts[j']? = some t' := by simpa using hj'
        have := lent_inj (i := i + 1) h1 e1 e2 (by rw [show i + 1 + j = i + (j + 1) by omega]; exact hc) (by rw [show i + 1 + j' = i + (j' + 1) by omega]; exact hc') hp hp'
        omega
theorem TA.view {v : Value} {t : TV} (h : TA I w v t) : viewA t = t := by
  cases t <;> simp only [TA] at h <;> try (exact CT.view h)
  rename_i cs
  obtain ⟨vs, _, hc⟩ := h
  simp only [viewA]
  congr 1
  generalize vs.toList = l at hc
  induction hc with
  | nil => rfl
  | cons h _ ih => simp only [List.map_cons, ih, CT.view h]
theorem rcs_ce {I' : Nat → Nat → Prop} {cnt : Nat → Nat} {vs : List Value} {ts : List TV} {ls : List Loc} (h : RCs I w vs ts ls) (hI : ∀ b o, I b o → I' b o) (hl : ∀ l ∈ ls, ∀ off, I' l.blk off) : All2 (CE I' w ρ cnt) vs (ts.map view1) ∧ ∀ u ∈ vs, u.oneCell' = true := by
  induction h with
  | nil => exact ⟨.nil, by simp⟩
  | cons h1 _ ih =>
    have hct := h1.tree hI (fun l hm _ _ _ off _ => hl l (List.mem_append_left _ hm) off)
    obtain ⟨i1, i2⟩ := ih (fun l hm => hl l (List.mem_append_right _ hm))
    exact ⟨.cons (CE.of_ct hct) i1, fun u hu => by rcases List.mem_cons.1 hu with rfl | hu; exact hct.one; exact i2 u hu⟩
theorem All2.map_id {α β : Type} {R : α → β → Prop} {f : β → β} {as : List α} {bs : List β} (h : All2 R as bs) (hf : ∀ a b, R a b → f b = b) : bs.map f = bs := by
  induction h with
  | nil => rfl
  | cons h _ ih => simp only [List.map_cons, ih, hf _ _ h]
theorem rv_view {I' : Nat → Nat → Prop} {cnt : Nat → Nat} {v : Value} {u : TV} {ls : List Loc} (h : RV I w v u ls) (hI : ∀ b o, I b o → I' b o) (hl : ∀ l ∈ ls, ∀ off, I' l.blk off) : VE I' w ρ cnt v (view u) := by
  have one : ∀ {u : TV}, RC I w v u ls → VE I' w ρ cnt v (view1 u) := fun h => by
    have hct := h.tree hI (fun l hm _ _ _ off _ => hl l hm off)
    exact VE.of_va (VA.of_ta (TA.of_ct hct))
  have m : Mv I I' w w ρ ρ cnt cnt := ⟨hI, fun _ _ _ => rfl, fun _ _ _ => rfl, fun _ => Nat.le_refl _⟩
  cases u <;> simp only [RV] at h
  case tup us =>
    obtain ⟨_, vs, hv, hc⟩ := h
    refine ⟨vs, hv, ?_⟩
    rw [hc.map_id fun _ _ h => h.view]
    exact hc.imp fun _ _ h => m.va (VA.of_ta h)
  case agg cs =>
    obtain ⟨vs, hv, hc⟩ := h
    obtain ⟨h1, h2⟩ := rcs_ce hc hI hl
    exact ⟨vs, hv, h1, h2⟩
  all_goals exact one h
theorem rcs_flat {I' : Nat → Nat → Prop} {vs : List Value} {ts : List TV} {ls : List Loc} (h : RCs I w vs ts ls) (hs : ∀ t ∈ ts, hasSl1 t = false) : RCs I' w vs ts ls := by
  induction h with
  | nil => exact .nil
  | cons h1 _ ih => exact .cons (h1.weaken (hs _ List.mem_cons_self)) (ih fun t ht => hs t (List.mem_cons_of_mem _ ht))
theorem hasSl1_view {t : TV} (h : hasSl1 (view1 t) = false) : hasSl1 t = false := by
  cases t <;> simp only [view1] at h <;> try exact h
  case own e xs => cases xs <;> simp_all [hasSl1, TM.flat]
theorem ta_flat {I' : Nat → Nat → Prop} {v : Value} {t : TV} (h : TA I w v t) (hs : t.cells.any hasSl1 = false) : TA I' w v t := by
  have deepOf : ∀ {t : TV} {v : Value}, CT I w v t → hasSl1 t = false → CT I' w v t := fun {t v} h hs => h.flat (by
    cases t <;> try rfl
    rename_i xs; cases xs <;> simp_all [hasSl1, deep])
  cases t <;> simp only [TA] at h ⊢
  case agg cs =>
    obtain ⟨vs, hv, hc⟩ := h
    refine ⟨vs, hv, ?_⟩
    simp only [TV.cells] at hs
    clear hv
    generalize vs.toList = l at hc
    induction hc with
    | nil => exact .nil
    | cons h _ ih => simp only [List.any_cons, Bool.or_eq_false_iff] at hs; exact .cons (deepOf h hs.1) (ih hs.2)
  case own => cases h
  case tup => cases h
  case undef => cases h
  all_goals exact deepOf h (by simpa [TV.cells] using hs)
theorem rv_flat {I' : Nat → Nat → Prop} {v : Value} {u : TV} {ls : List Loc} (h : RV I w v u ls) (hs : hasSl (view u) = false) : RV I' w v u ls := by
  cases u <;> simp only [RV] at h ⊢
  case tup us =>
    obtain ⟨h0, vs, hv, hc⟩ := h
    refine ⟨h0, vs, hv, ?_⟩
    simp only [view, hasSl, TV.comps] at hs
    rw [hc.map_id fun _ _ h => h.view] at hs
    clear hv h0
    generalize vs.toList = l at hc
    induction hc with
    | nil => exact .nil
    | cons h _ ih => simp only [List.any_cons, Bool.or_eq_false_iff] at hs; exact .cons (ta_flat h hs.1) (ih hs.2)
  case agg cs =>
    obtain ⟨vs, hv, hc⟩ := h
    refine ⟨vs, hv, rcs_flat hc fun t ht => hasSl1_view ?_⟩
    simp only [view, viewA, hasSl, TV.comps, List.any_cons, List.any_nil, Bool.or_false, TV.cells, List.any_eq_false, List.mem_map] at hs
    have := hs (view1 t) ⟨t, ht, rfl⟩
    simpa using this
  all_goals
    refine RC.weaken h (hasSl1_view ?_)
    simp [view, viewA, view1, hasSl, TV.comps, TV.cells] at hs ⊢
    try exact hs
  all_goals (first | rfl | (simp [hasSl1]; done) | skip)
end
end Go.TM
end
section
namespace Go.TM
set_option linter.unusedVariables false
set_option linter.unusedSimpArgs false
theorem upd_id {α : Type} (f : Nat → α) (i : Nat) : upd f i (f i) = f := by
  funext j; by_cases e : j = i
  · subst e; simp
  · simp [upd, e]
theorem upd_upd {α : Type} (f : Nat → α) (i : Nat) (x y : α) : upd (upd f i x) i y = upd f i y := by
  funext j; by_cases e : j = i
  · subst e; simp
  · simp [upd, e]
section
variable {P : Program} {C : Ctx} {ρ : Nat → Nat → Loc} {I : Nat → Nat → Prop} {w : World} {a : Act} {st : St}
theorem apply_newl (d : Nat) (v : TV) (n : List Obj) (u : List (Nat × Nat)) (st : St) : apply (some d) { v := v, new := n, unsolo := u } st = { env := upd st.env d v, obj := addNew d (st.cnt d) n (u.foldl unsolo1 st.obj), cnt := upd st.cnt d (st.cnt d + n.length) } := by
  cases n with
  | nil => simp [apply, addNew, upd_id]
  | cons => rfl
theorem CE.of_rc {cnt : Nat → Nat} {v : Value} {t : TV} {ls : List Loc} (h : RC I w v t ls) (hn : ∀ e xs, t ≠ .own e xs) : CE I w ρ cnt v t ∧ ls = [] ∧ v.oneCell' = true := by
  cases t <;> simp only [RC] at h
  case own e xs => exact absurd rfl (hn e xs)
  case nils => exact ⟨h.2, h.1, by rw [h.2]; rfl⟩
  all_goals exact ⟨CE.of_ct h.2, h.1, h.2.one⟩
theorem adopt_other {d c : Nat} {t : TV} {cs : List TV} (hn : ∀ e xs, t ≠ .own e xs) : adopt d c (t :: cs) = (t :: (adopt d c cs).1, (adopt d c cs).2) := by
  cases t <;> first | rfl | exact absurd rfl (hn _ _)
theorem adopt_sim {d : Nat} {vs : List Value} {cs : List TV} {ls : List Loc} (hr : RCs I w vs cs ls) : ∀ {ρ : Nat → Nat → Loc} {st : St}, Rel C ρ I w a st →
    (∀ l ∈ ls, C.w0.heap.size ≤ l.blk ∧ (∀ off, ¬ I l.blk off) ∧ ∀ k g o, st.obj k g = some o → (ρ k g).blk ≠ l.blk) → ls.Pairwise (fun l l' => l.blk ≠ l'.blk) →
    ∃ ρ', Rel C ρ' I w a { st with obj := addNew d (st.cnt d) (adopt d (st.cnt d) cs).2 st.obj, cnt := upd st.cnt d (st.cnt d + (adopt d (st.cnt d) cs).2.length) } ∧
      All2 (CE I w ρ' (upd st.cnt d (st.cnt d + (adopt d (st.cnt d) cs).2.length))) vs (adopt d (st.cnt d) cs).1 ∧ (∀ u ∈ vs, u.oneCell' = true) ∧ ∀ k g, g < st.cnt k → ρ' k g = ρ k g := by
  induction hr with
  | nil =>
    intro ρ st h _ _
    refine ⟨ρ, ?_, .nil, by simp, fun _ _ _ => rfl⟩
    simp only [adopt, addNew, List.length_nil, Nat.add_zero, upd_id]
    exact h
  | @cons v t vs ts l1 l2 h1 h2 ih =>
    intro ρ st h hl hp
    by_cases ho : ∃ e xs, t = .own e xs
    · obtain ⟨e, xs, rfl⟩ := ho
      obtain ⟨l, rfl, rfl, hrow⟩ := h1
      simp only [List.singleton_append, List.pairwise_cons] at hp
      obtain ⟨q1, q2, q3⟩ := hl l (by simp)
      have r := h.add (d := d) (l := l) (o := rowObj e xs) (hrow.row rfl rfl rfl rfl) q1 q2 q3 (by simp [rowObj])
      obtain ⟨ρ', g1, g2, g2', g3⟩ := ih r (fun l' hm => by
        obtain ⟨p1, p2, p3⟩ := hl l' (by simp [hm])
        refine ⟨p1, p2, fun k g o hk => ?_⟩
        by_cases e : k = d ∧ g = st.cnt d
        · simp only [e, and_self, if_true]; exact hp.1 l' hm
        · simp only [if_neg e]
          simp only [updO_ne _ _ e] at hk
          exact p3 k g o hk) hp.2
      simp only [upd_same, upd_upd] at g1 g2 g3
      have hadopt : adopt d (st.cnt d) (.own e xs :: ts) = (.hs d (st.cnt d) e xs.length :: (adopt d (st.cnt d + 1) ts).1, rowObj e xs :: (adopt d (st.cnt d + 1) ts).2) := rfl
      rw [hadopt]
      refine ⟨ρ', ?_, ?_, fun u hu => ?_, fun k g hg => ?_⟩
      · simp only [addNew, List.length_cons]
        rw [show st.cnt d + ((adopt d (st.cnt d + 1) ts).2.length + 1) = st.cnt d + 1 + (adopt d (st.cnt d + 1) ts).2.length by omega]
        exact g1
      · simp only [List.length_cons]
        rw [show st.cnt d + ((adopt d (st.cnt d + 1) ts).2.length + 1) = st.cnt d + 1 + (adopt d (st.cnt d + 1) ts).2.length by omega]
        have hloc : ρ' d (st.cnt d) = l := by
          rw [g3 d (st.cnt d) (by simp)]
          simp
        refine .cons ⟨by simp; omega, by rw [hloc]; exact hrow.esz, by rw [hloc], by rw [hloc]; exact hrow.cap⟩ g2
      · rcases List.mem_cons.1 hu with rfl | hu
        · rfl
        · exact g2' u hu
      · rw [g3 k g (by by_cases e : k = d
                       · subst e; simp; omega
                       · rw [upd_ne _ _ e]; exact hg)]
        have : ¬ (k = d ∧ g = st.cnt d) := by rintro ⟨rfl, rfl⟩; omega
        simp only [if_neg this]
    · have hn : ∀ e xs, t ≠ .own e xs := fun e xs he => ho ⟨e, xs, he⟩
      obtain ⟨_, rfl, hone⟩ := CE.of_rc (ρ := ρ) (cnt := st.cnt) h1 hn
      obtain ⟨ρ', g1, g2, g2', g3⟩ := ih h (fun l hm => hl l (by simpa using hm)) (by simpa using hp)
      rw [adopt_other hn]
      refine ⟨ρ', g1, .cons (CE.of_rc h1 hn).1 g2, fun u hu => ?_, g3⟩
      rcases List.mem_cons.1 hu with rfl | hu
      · exact hone
      · exact g2' u hu
theorem fin0 (h : Rel C ρ I w a st) {d : Nat} (hd : d < C.n) {v : Value} {u : TV} {ls : List Loc} (hr : RV I w v u ls) (hl : ∀ l ∈ ls, C.w0.heap.size ≤ l.blk ∧ l.blk < w.heap.size ∧ ∀ k g o, st.obj k g = some o → (ρ k g).blk ≠ l.blk) :
    ∃ I', Rel C ρ I' w (a.put (some d) v) { st with env := upd st.env d (view u) } := by
  have r := h.widen (fun b _ => ∃ l ∈ ls, l.blk = b) (fun b o hb => by
    obtain ⟨l, hm, rfl⟩ := hb
    exact hl l hm)
  exact ⟨_, r.put hd (rv_view hr (fun _ _ h => .inl h) fun l hm off => .inr ⟨l, hm, rfl⟩)⟩
theorem fin1 (h : Rel C ρ I w a st) {d : Nat} (hd : d < C.n) {vs : List Value} {cs : List TV} {ls : List Loc} (hr : RCs I w vs cs ls) (hl : ∀ l ∈ ls, C.w0.heap.size ≤ l.blk ∧ (∀ off, ¬ I l.blk off) ∧ ∀ k g o, st.obj k g = some o → (ρ k g).blk ≠ l.blk) (hp : ls.Pairwise (fun l l' => l.blk ≠ l'.blk))
    {v : Value} {t : TV} (hv : ∀ ρ' cnt, All2 (CE I w ρ' cnt) vs (adopt d (st.cnt d) cs).1 → (∀ u ∈ vs, u.oneCell' = true) → VE I w ρ' cnt v t) :
    ∃ ρ', Rel C ρ' I w (a.put (some d) v) { env := upd st.env d t, obj := addNew d (st.cnt d) (adopt d (st.cnt d) cs).2 st.obj, cnt := upd st.cnt d (st.cnt d + (adopt d (st.cnt d) cs).2.length) } := by
  obtain ⟨ρ', g1, g2, g3, _⟩ := adopt_sim (d := d) hr h hl hp
  exact ⟨ρ', g1.put hd (hv _ _ g2 g3)⟩
theorem lcOf_nil (ρ : Nat → Nat → Loc) (ts : List TV) (i : Nat) : lcOf ρ [] ts i = none := by simp [lcOf]
theorem call_free (h : Rel C ρ I w a st) {d : Nat} (hd : d < C.n) {ob : Nat → Nat → Option Obj} (hob : Sub st.obj ob) {vals : Array Value} {ts vs : List TV} (hv : All2 (VE I w ρ st.cnt) vals.toList ts) (hargs : argsOf ob [] 0 ts = some vs) (b : Bool) :
    ∃ I1 I2, Enter I1 w (lcOf ρ [] ts) vals vs ∧ (∀ w' I', (∀ b o, I1 b o → I' b o) → (∀ b o, I' b o → I1 b o ∨ w.heap.size ≤ b) → (∀ b o, I' b o → b < w'.heap.size) → Fr w w' (fun b => ∃ i l, lcOf ρ [] ts i = some l ∧ l.blk = b) →
      Rel C ρ (if b then I' else I2) w' a { st with obj := (if b then heldOf [] 0 ts else []).foldl unsolo1 st.obj }) ∧ (b = false → ∀ x o, I2 x o → x < w.heap.size) := by
  have fin : ∀ (I1 : Nat → Nat → Prop), (∀ b o, I b o → I1 b o) → (∀ b o, I1 b o → b < w.heap.size) → Frozen I1 ρ st.obj (heldOf [] 0 ts) → Enter I1 w (lcOf ρ [] ts) vals vs := fun I1 hI hIin hfro => by
    have m : Mv I I1 w w ρ ρ st.cnt st.cnt := ⟨hI, fun _ _ _ => rfl, fun _ _ _ => rfl, fun _ => Nat.le_refl _⟩
    exact {
      Iin := hIin
      ok := args_ok (fun k g o hk => (h.ors k g o hk).mv m rfl) hob [] ts (hv.imp fun _ _ => m.ve) 0 vs (fun j t hj => by simpa using hj) hfro hargs
      past := fun i _ => lcOf_nil ρ ts i
      lentI := fun i l hl => by rw [lcOf_nil] at hl; cases hl
      lent1 := fun i j l l' hl => by rw [lcOf_nil] at hl; cases hl }
  cases b with
  | true =>
    obtain ⟨I1, h1, hI, hfro⟩ := h.freeze (heldOf [] 0 ts)
    refine ⟨I1, I, fin I1 hI h1.Iin hfro, fun w' I' g1 g2 g3 fr => ?_, by simp⟩
    simp only [if_true]
    exact h1.change (fun _ => False) fr.os fr.tape fr.output fr.size (fun b hb _ => fr.block b hb (by rintro ⟨i, l, hl, _⟩; rw [lcOf_nil] at hl; cases hl)) (fun _ hf => hf.elim) g1 g2 g3
      (fun k g o' hk => ⟨o', hk, rfl, rfl, rfl, rfl, rfl, .inl ⟨rfl, fun hf => hf⟩⟩)
  | false =>
    let I1 : Nat → Nat → Prop := fun b off => I b off ∨ ∃ p ∈ heldOf [] 0 ts, ∃ o, st.obj p.1 p.2 = some o ∧ (ρ p.1 p.2).blk = b ∧ off < o.cont.length * o.esz
    refine ⟨I1, I, fin I1 (fun _ _ h => .inl h) (fun b off hb => ?_) (fun p hp o ho hb off hoff => .inr ⟨p, hp, o, ho, rfl, hoff⟩), fun w' I' g1 g2 g3 fr => ?_, fun _ => h.Iin⟩
    · rcases hb with hb | ⟨p, _, o, ho, rfl, _⟩
      · exact h.Iin b off hb
      · exact (h.ors p.1 p.2 o ho).blk_lt
    · simp only [Bool.false_eq_true, if_false, List.foldl_nil]
      exact h.change (fun _ => False) fr.os fr.tape fr.output fr.size (fun b hb _ => fr.block b hb (by rintro ⟨i, l, hl, _⟩; rw [lcOf_nil] at hl; cases hl)) (fun _ hf => hf.elim) (fun _ _ h => h) (fun _ _ h => .inl h) (fun b o hi => Nat.lt_of_lt_of_le (h.Iin b o hi) fr.size)
        (fun k g o' hk => ⟨o', hk, rfl, rfl, rfl, rfl, rfl, .inl ⟨rfl, fun hf => hf⟩⟩)
end
end Go.TM
end
section
namespace Go.TM
set_option linter.unusedVariables false
set_option linter.unusedSimpArgs false
section
variable {P : Program} {C : Ctx} {ρ : Nat → Nat → Loc} {I : Nat → Nat → Prop} {w : World} {a : Act} {st : St}
theorem fold_mods (ms : List (Nat × Nat × Option Obj)) : ∀ (ob : Nat → Nat → Option Obj) (k g : Nat),
    (∃ m ∈ ms, m.1 = k ∧ m.2.1 = g ∧ ms.foldl (fun ob m => updO ob m.1 m.2.1 m.2.2) ob k g = m.2.2) ∨ ((∀ m ∈ ms, ¬ (m.1 = k ∧ m.2.1 = g)) ∧ ms.foldl (fun ob m => updO ob m.1 m.2.1 m.2.2) ob k g = ob k g) := by
  induction ms with
  | nil => intro ob k g; exact .inr ⟨by simp, rfl⟩
  | cons m ms ih =>
    intro ob k g
    simp only [List.foldl_cons]
    rcases ih (updO ob m.1 m.2.1 m.2.2) k g with ⟨m', h1, h2, h3, h4⟩ | ⟨h1, h2⟩
    · exact .inl ⟨m', List.mem_cons_of_mem _ h1, h2, h3, h4⟩
    · by_cases e : k = m.1 ∧ g = m.2.1
      · refine .inl ⟨m, List.mem_cons_self, e.1.symm, e.2.symm, ?_⟩
        rw [h2, e.1, e.2, updO_same]
      · refine .inr ⟨fun m' hm => ?_, by rw [h2, updO_ne _ _ e]⟩
        rcases List.mem_cons.1 hm with rfl | hm
        · exact fun e' => e ⟨e'.1.symm, e'.2.symm⟩
        · exact h1 m' hm
theorem mods_spec {ob0 ob : Nat → Nat → Option Obj} (hob : Sub ob0 ob) {w' : World} {lent : List Nat} {full : List TV} : ∀ {ts : List TV} {i : Nat} {vs : List TV} {cs : List Cont} {ms : List (Nat × Nat × Option Obj)},
    (∀ j t, ts[j]? = some t → full[i + j]? = some t) → argsOf ob lent i ts = some vs → giveBack ob (lentOf lent i ts) cs = some ms → MutsOk w' (lcOf ρ lent full) i vs cs →
    (∀ m ∈ ms, ∃ k g o c, m = (k, g, some { o with cont := c }) ∧ ob0 k g = some o ∧ c.length = o.cont.length ∧ OwnRow (fun _ _ => False) w' (ρ k g) o.esz c ∧ o.box = false ∧ o.solo = true ∧ o.tip = true) ∧
    (∀ p ∈ lentOf lent i ts, ∃ m ∈ ms, m.1 = p.1 ∧ m.2.1 = p.2)
  | [], i, vs, cs, ms, _, ha, hg, hm => by
    simp only [lentOf] at hg
    cases cs with
    | nil => simp only [giveBack, Option.some.injEq] at hg; subst hg; exact ⟨by simp, by simp [lentOf]⟩
    | cons => simp [giveBack] at hg
  | t :: ts, i, vs, cs, ms, hfull, ha, hg, hm => by
    simp only [argsOf] at ha
    split at ha
    · rename_i u us h1 h2
      cases ha
      have hfull' : ∀ j t, ts[j]? = some t → full[i + 1 + j]? = some t := fun j t' hj => by have := hfull (j + 1) t' (by simpa using hj); rwa [show i + 1 + j = i + (j + 1) by omega]
      have hi : full[i]? = some t := by simpa using hfull 0 t rfl
      by_cases hc : lent.contains i = true
      · rw [if_pos hc] at h1
        obtain ⟨k, g, e, o, rfl, ho, ho', hb, hs, ht, he, rfl⟩ := lend_spec hob h1
        obtain ⟨c, cs', l, rfl, hl, hlen, hrow, hrest⟩ := hm
        have hh : lentOf lent i (.hs k g e o.cont.length :: ts) = (k, g) :: lentOf lent (i + 1) ts := by
          simp only [lentOf, hc, if_true]; rfl
        rw [hh] at hg
        simp only [giveBack, ho'] at hg
        split at hg
        · rename_i o2 r e1 e2
          cases e1
          have hcl : c.length = o.cont.length := hlen
          rw [if_pos hcl] at hg
          cases hg
          obtain ⟨q1, q2⟩ := mods_spec hob hfull' h2 e2 hrest
          have hloc : l = ρ k g := by
            simp only [lcOf, hc, if_true, hi] at hl
            exact (Option.some.inj hl).symm
          subst hloc
          refine ⟨fun m hm => ?_, fun p hp => ?_⟩
          · rcases List.mem_cons.1 hm with rfl | hm
            · exact ⟨k, g, o, c, rfl, ho, hcl, by rw [he]; exact hrow, hb, hs, ht⟩
            · exact q1 m hm
          · rw [hh] at hp
            rcases List.mem_cons.1 hp with rfl | hp
            · exact ⟨_, List.mem_cons_self, rfl, rfl⟩
            · obtain ⟨m, m1, m2⟩ := q2 p hp
              exact ⟨m, List.mem_cons_of_mem _ m1, m2⟩
        · cases hg
      · rw [if_neg hc] at h1
        have hh : lentOf lent i (t :: ts) = lentOf lent (i + 1) ts := by
          simp only [lentOf, hc]; rfl
        rw [hh] at hg ⊢
        have hnot : ∀ e xs, u ≠ .own e xs := by
          rintro e xs rfl
          cases t <;> simp [tree, tree1] at h1
          split at h1
          · simp at h1
          · simp at h1
        refine mods_spec hob hfull' h2 hg ?_
        cases u <;> first | exact hm | exact absurd rfl (hnot _ _)
    · cases ha
theorem OwnRow.imm {w : World} {l : Loc} {e : Nat} {c : Cont} (hrow : OwnRow (fun _ _ => False) w l e c) : OwnRow I w l e c :=
  { esz := hrow.esz, pos := hrow.pos, len := hrow.len, cap := hrow.cap
    lies := by
      obtain ⟨cells, ty, r1, r2, r3, r4⟩ := hrow.lies
      refine ⟨cells, ty, r1, r2, r3, fun i j x c hx hj => ?_⟩
      obtain ⟨u, hu, hr⟩ := r4 i j x c hx hj
      exact ⟨u, hu, CT.move hr (fun _ _ hf => hf.elim) (fun _ _ _ => rfl)⟩ }
theorem call_lent (h : Rel C ρ I w a st) {d : Nat} (hd : d < C.n) {ob : Nat → Nat → Option Obj} (hob : Sub st.obj ob) {vals : Array Value} {lent : List Nat} {ts vs : List TV} (hv : All2 (VE I w ρ st.cnt) vals.toList ts) (hargs : argsOf ob lent 0 ts = some vs)
    (hap : apartL lent ts = true) {r : Res} (hsl : hasSl (view r.1) = false) {ms : List (Nat × Nat × Option Obj)} (hms : giveBack ob (lentOf lent 0 ts) r.2 = some ms) :
    ∃ I1, Enter I1 w (lcOf ρ lent ts) vals vs ∧ ∀ v w' I' ls, Post I1 w (lcOf ρ lent ts) vs r v w' I' ls → ∃ I2, Rel C ρ I2 w' (a.put (some d) v) (apply (some d) { v := view r.1, mods := ms } st) := by
  simp only [apartL, Bool.and_eq_true] at hap
  obtain ⟨hap1, hap2⟩ := hap
  have hlent : ∀ i l, lcOf ρ lent ts i = some l → ∃ k g e o, ts[i]? = some (.hs k g e o.cont.length) ∧ lent.contains i = true ∧ l = ρ k g ∧ st.obj k g = some o ∧ o.solo = true ∧ (k, g) ∈ lentOf lent 0 ts := fun i l hl => by
    simp only [lcOf] at hl
    split at hl
    · rename_i hc
      split at hl
      · rename_i k g e n hi
        obtain ⟨u, hu⟩ := argsOf_lend hargs i _ hi (by rw [Nat.zero_add]; exact hc)
        obtain ⟨k', g', e', o, heq, ho, _, _, hs, _⟩ := lend_spec hob hu
        cases heq
        exact ⟨k, g, e, o, hi, hc, (Option.some.inj hl).symm, ho, hs, mem_lentOf (i := 0) hi (by rw [Nat.zero_add]; exact hc) _ (by simp [hands, TV.cells, hand1])⟩
      · cases hl
    · cases hl
  let I1 : Nat → Nat → Prop := fun b off => I b off ∨ ∃ p ∈ heldOf lent 0 ts, ∃ o, st.obj p.1 p.2 = some o ∧ (ρ p.1 p.2).blk = b ∧ off < o.cont.length * o.esz
  have m : Mv I I1 w w ρ ρ st.cnt st.cnt := ⟨fun _ _ h => .inl h, fun _ _ _ => rfl, fun _ _ _ => rfl, fun _ => Nat.le_refl _⟩
  refine ⟨I1, {
    Iin := fun b off hb => by
      rcases hb with hb | ⟨p, _, o, ho, rfl, _⟩
      · exact h.Iin b off hb
      · exact (h.ors p.1 p.2 o ho).blk_lt
    ok := args_ok (fun k g o hk => (h.ors k g o hk).mv m rfl) hob lent ts (hv.imp fun _ _ => m.ve) 0 vs (fun j t hj => by simpa using hj) (fun p hp o ho hb off hoff => .inr ⟨p, hp, o, ho, rfl, hoff⟩) hargs
    past := fun i hi => by
      have hl := argsOf_len hargs
      simp only [lcOf, List.getElem?_eq_none (show ts.length ≤ i by omega)]
      split <;> rfl
    lentI := fun i l hl off hI => by
      obtain ⟨k, g, e, o, _, _, rfl, ho, hs, hmem⟩ := hlent i l hl
      rcases hI with hI | ⟨p, hp, o', ho', hb, _⟩
      · exact h.sep.soloI k g o ho hs off hI
      · obtain ⟨rfl, rfl⟩ := h.sep.solo k g o ho hs p.1 p.2 o' ho' hb
        have := List.all_eq_true.1 hap2 _ hmem
        simp only [Bool.not_eq_true', List.contains_eq_mem, decide_eq_false_iff_not] at this
        exact this hp
    lent1 := fun i j l l' hl hl' hb => by
      obtain ⟨k, g, e, o, hi, hc, rfl, ho, hs, _⟩ := hlent i l hl
      obtain ⟨k', g', e', o', hi', hc', rfl, ho', hs', _⟩ := hlent j l' hl'
      obtain ⟨rfl, rfl⟩ := h.sep.solo k' g' o' ho' hs' k g o ho hb
      exact lent_inj (i := 0) hap1 hi hi' (by rw [Nat.zero_add]; exact hc) (by rw [Nat.zero_add]; exact hc') (p := (k, g)) (by simp [hands, TV.cells, hand1]) (by simp [hands, TV.cells, hand1]) }, fun v w' I' ls hp => ?_⟩
  obtain ⟨q1, q2⟩ := mods_spec (ρ := ρ) (full := ts) hob (fun j t hj => by simpa using hj) hargs hms hp.muts
  have g1 : Rel C ρ I w' a { st with obj := ms.foldl (fun ob m => updO ob m.1 m.2.1 m.2.2) st.obj } := by
    refine h.change (fun b => ∃ i l, lcOf ρ lent ts i = some l ∧ l.blk = b) hp.fr.os hp.fr.tape hp.fr.output hp.fr.size hp.fr.block (fun b hb => ?_) (fun _ _ h => h) (fun _ _ h => .inl h) (fun b o hi => Nat.lt_of_lt_of_le (h.Iin b o hi) hp.fr.size) (fun k g o' hk => ?_)
    · obtain ⟨i, l, hl, rfl⟩ := hb
      obtain ⟨k, g, e, o, _, _, rfl, ho, hs, _⟩ := hlent i l hl
      exact ⟨(h.obj k g o ho).2, h.sep.soloI k g o ho hs⟩
    · rcases fold_mods ms st.obj k g with ⟨mm, h1, rfl, rfl, h4⟩ | ⟨h1, h2⟩
      · rw [h4] at hk
        obtain ⟨k, g, o, c, rfl, ho, hlen, hrow, hb, hs, ht⟩ := q1 mm h1
        simp only [Option.some.injEq] at hk
        subst hk
        exact ⟨o, ho, hlen, rfl, rfl, rfl, rfl, .inr (hrow.imm.row rfl hb rfl rfl)⟩
      · rw [h2] at hk
        refine ⟨o', hk, rfl, rfl, rfl, rfl, rfl, .inl ⟨rfl, ?_⟩⟩
        rintro ⟨i, l, hl, hb⟩
        obtain ⟨k', g', e, o, _, _, rfl, ho, hs, hmem⟩ := hlent i l hl
        obtain ⟨rfl, rfl⟩ := h.sep.solo k' g' o ho hs k g o' hk hb.symm
        obtain ⟨mm, m1, m2⟩ := q2 _ hmem
        exact h1 mm m1 m2
  obtain ⟨I2, g2⟩ := fin0 g1 hd (rv_flat hp.res hsl) (fun l hl => by
    obtain ⟨p1, p2, _⟩ := hp.own l hl
    refine ⟨Nat.le_trans h.fr.size p1, p2, fun k g o' hk => ?_⟩
    obtain ⟨o, ho⟩ : ∃ o, st.obj k g = some o := by
      rcases fold_mods ms st.obj k g with ⟨mm, h1, rfl, rfl, h4⟩ | ⟨h1, h2⟩
      · obtain ⟨k, g, o, c, rfl, ho, _⟩ := q1 mm h1
        exact ⟨o, ho⟩
      · exact ⟨o', h2.symm.trans hk⟩
    have := (h.ors k g o ho).blk_lt
    omega)
  exact ⟨I2, g2⟩
theorem call_core (h : Rel C ρ I w a st) {d : Nat} (hd : d < C.n) {ob : Nat → Nat → Option Obj} (hob : Sub st.obj ob) {mode : Nat} {vals : Array Value} {lent : List Nat} {ts vs : List TV} (hv : All2 (VE I w ρ st.cnt) vals.toList ts) (hargs : argsOf ob lent 0 ts = some vs)
    {r : Res} {e : Eff} (hk : callEff mode lent d (st.cnt d) ob ts r = some e) :
    ∃ I1, Enter I1 w (lcOf ρ lent ts) vals vs ∧ ∀ v w' I' ls, Post I1 w (lcOf ρ lent ts) vs r v w' I' ls → ∃ ρ' I2, Rel C ρ' I2 w' (a.put (some d) v) (apply (some d) e st) := by
  unfold callEff at hk
  split at hk
  · split at hk
    · rename_i hcond
      split at hk <;> cases hk
      rename_i ms hms
      obtain ⟨I1, h1, h2⟩ := call_lent h hd hob hv hargs hcond.2 hcond.1 hms
      exact ⟨I1, h1, fun v w' I' ls hp => ⟨ρ, h2 v w' I' ls hp⟩⟩
    · cases hk
  · split at hk
    · rename_i hcond
      obtain ⟨rfl, _⟩ := hcond
      have objs : ∀ (b : Bool) (k g : Nat) (o : Obj), ((if b then heldOf [] 0 ts else []).foldl unsolo1 st.obj) k g = some o → ∃ o', st.obj k g = some o' := fun b k g o hk => by
        cases hko : st.obj k g with
        | some o' => exact ⟨o', rfl⟩
        | none =>
          have : ∀ (l : List (Nat × Nat)) (ob : Nat → Nat → Option Obj), ob k g = none → l.foldl unsolo1 ob k g = none := by
            intro l
            induction l with
            | nil => intro ob h; exact h
            | cons q l ih =>
              intro ob h
              refine ih _ ?_
              by_cases e : k = q.1 ∧ g = q.2
              · rw [unsolo1, e.1, e.2, updO_same, ← e.1, ← e.2, h]; rfl
              · rw [unsolo1, updO_ne _ _ e]; exact h
          rw [this _ _ hko] at hk; cases hk
      have away : ∀ (b : Bool) (I1 : Nat → Nat → Prop) (v : Value) (w' : World) (I' : Nat → Nat → Prop) (ls : List Loc), Post I1 w (lcOf ρ [] ts) vs r v w' I' ls → ∀ l ∈ ls, C.w0.heap.size ≤ l.blk ∧ l.blk < w'.heap.size ∧ ∀ k g o, ((if b then heldOf [] 0 ts else []).foldl unsolo1 st.obj) k g = some o → (ρ k g).blk ≠ l.blk := fun b I1 v w' I' ls hp l hl => by
        obtain ⟨p1, p2, _⟩ := hp.own l hl
        refine ⟨Nat.le_trans h.fr.size p1, p2, fun k g o hk => ?_⟩
        obtain ⟨o', ho'⟩ := objs b k g o hk
        have := (h.ors k g o' ho').blk_lt
        omega
      split at hk
      · cases hk
        obtain ⟨I1, I2, h1, h2, _⟩ := call_free h hd hob hv hargs (hasSl (view r.1))
        refine ⟨I1, h1, fun v w' I' ls hp => ⟨ρ, ?_⟩⟩
        have g1 := h2 w' I' hp.imm hp.Isub hp.Iin hp.fr
        rw [apply_vu]
        refine fin0 g1 hd ?_ (away _ I1 v w' I' ls hp)
        cases hs : hasSl (view r.1) with
        | true => simpa using hp.res
        | false => simpa using rv_flat hp.res hs
      · have fin : ∀ (cs : List TV) (t : TV), (∀ v I' w' ls, RV I' w' v r.1 ls → ∃ xs : List Value, RCs I' w' xs cs ls ∧ ∀ (I2 : Nat → Nat → Prop) ρ' cnt, All2 (CE I2 w' ρ' cnt) xs (adopt d (st.cnt d) cs).1 → (∀ u ∈ xs, u.oneCell' = true) → VE I2 w' ρ' cnt v t) →
            ∃ I1, Enter I1 w (lcOf ρ [] ts) vals vs ∧ ∀ v w' I' ls, Post I1 w (lcOf ρ [] ts) vs r v w' I' ls → ∃ ρ' I2, Rel C ρ' I2 w' (a.put (some d) v) (apply (some d) { v := t, new := (adopt d (st.cnt d) cs).2, unsolo := if hasSl (.agg cs) then heldOf [] 0 ts else [] } st) := fun cs t hcs => by
          obtain ⟨I1, I2, h1, h2, h3⟩ := call_free h hd hob hv hargs (hasSl (.agg cs))
          refine ⟨I1, h1, fun v w' I' ls hp => ?_⟩
          have g1 := h2 w' I' hp.imm hp.Isub hp.Iin hp.fr
          rw [apply_newl]
          obtain ⟨xs, r1, r2⟩ := hcs v I' w' ls hp.res
          have r1' : RCs (if hasSl (.agg cs) = true then I' else I2) w' xs cs ls := by
            cases hs : hasSl (.agg cs) with
            | true => simpa using r1
            | false =>
              refine rcs_flat (by simpa using r1) fun t ht => ?_
              simp only [hasSl, TV.comps, List.any_cons, List.any_nil, Bool.or_false, TV.cells, List.any_eq_false] at hs
              simpa using hs t ht
          obtain ⟨ρ', g2⟩ := fin1 (d := d) g1 hd r1' (fun l hl => by
            obtain ⟨a1, a2, a3⟩ := away _ I1 v w' I' ls hp l hl
            refine ⟨a1, fun off hI => ?_, a3⟩
            obtain ⟨p1, _, p3⟩ := hp.own l hl
            cases hs : hasSl (.agg cs) with
            | true => rw [hs] at hI; exact p3 off (by simpa using hI)
            | false =>
              rw [hs] at hI
              have := h3 hs _ _ (by simpa using hI)
              omega) hp.own1 (v := v) (t := t) (fun ρ' cnt q1 q2 => r2 _ ρ' cnt q1 q2)
          exact ⟨ρ', _, g2⟩
        have single : ∀ (u : TV), r.1 = u → (∀ us, u ≠ .tup us) → (∀ cs, u ≠ .agg cs) → ∃ I1, Enter I1 w (lcOf ρ [] ts) vals vs ∧ ∀ v w' I' ls, Post I1 w (lcOf ρ [] ts) vs r v w' I' ls → ∃ ρ' I2, Rel C ρ' I2 w' (a.put (some d) v) (apply (some d) { v := (adopt d (st.cnt d) [u]).1.headD .undef, new := (adopt d (st.cnt d) [u]).2, unsolo := if hasSl (.agg [u]) then heldOf [] 0 ts else [] } st) := fun u hu h1 h2 => by
          refine fin [u] _ fun v I' w' ls hr => ?_
          have hrc : RC I' w' v u ls := by
            rw [hu] at hr
            cases u <;> first | exact hr | exact absurd rfl (h1 _) | exact absurd rfl (h2 _)
          refine ⟨[v], by simpa using RCs.cons hrc .nil, fun I2 ρ' cnt hq _ => ?_⟩
          generalize (adopt d (st.cnt d) [u]).1 = l at hq
          cases hq with
          | cons hce hq =>
            cases hq
            rename_i b
            simp only [List.headD_cons]
            refine VE.of_va ?_
            cases b <;> first | exact hce | (simp only [CE] at hce)
        split at hk
        · cases hk
        · rename_i cs hcs
          cases hk
          refine fin cs _ fun v I' w' ls hr => ?_
          rw [hcs] at hr
          obtain ⟨xs, rfl, hr⟩ := hr
          exact ⟨xs.toList, hr, fun I2 ρ' cnt q1 q2 => ⟨xs, rfl, q1, q2⟩⟩
        · rename_i h1 h2
          cases hk
          exact single r.1 rfl (fun us e => h1 us e) (fun cs e => h2 cs e)
    · cases hk
end
end Go.TM
end
section
namespace Go.TM
set_option linter.unusedVariables false
set_option linter.unusedSimpArgs false
def Does (S : Nat → List TV → Res → Prop) (o : TStep) (st st' : St) (e : Ev) : Prop :=
  match e with
  | .eff e => st' = apply o.dst e st
  | .cal f vs k => ∃ r e, S f vs r ∧ k r = some e ∧ st' = apply o.dst e st
def Step1 (S : Nat → List TV → Res → Prop) (o : TStep) (st st' : St) : Prop :=
  match wantedT st.env o.guard with
  | none => False
  | some false => st' = apply o.dst { v := .tup [] } st
  | some true => ∃ e, ev o.op (o.dst.getD 0) (st.cnt (o.dst.getD 0)) (val st.env) (restrict st.obj o.vk) = some e ∧ Does S o st st' e
def RunOps (S : Nat → List TV → Res → Prop) : List TStep → St → St → Prop
  | [], st, st' => st' = st
  | o :: rest, st, st' => ∃ st1, Step1 S o st st1 ∧ RunOps S rest st1 st'
structure Spec (P : Program) (hh : Nat → Nat × List Nat) (n : Nat) (ops : Array Oper) (oper : Oper) (o : TStep) : Prop where
  dst : o.dst = oper.dst
  op : compOp P hh oper = some o.op
  guard : (oper.guard = none ∧ o.guard = none) ∨ ∃ j b t, oper.guard = some (j, b) ∧ (ops[j]?).bind (·.dst) = some t ∧ o.guard = some (t, b)
  slot : slotOk o.dst n o.op = true
section
variable {P : Program} {C : Ctx} {ρ : Nat → Nat → Loc} {I : Nat → Nat → Prop} {w : World} {a : Act} {st : St}
theorem wanted_sim (h : Rel C ρ I w a st) {hh : Nat → Nat × List Nat} {n : Nat} {ops : Array Oper} {oper : Oper} {o : TStep} (hs : Spec P hh n ops oper o) {b : Bool} (hw : wantedT st.env o.guard = some b) : Region.wanted oper (yielded ops a.tmps) = b := by
  rcases hs.guard with ⟨h1, h2⟩ | ⟨j, c, t, h1, h2, h3⟩
  · rw [h2] at hw
    simp only [wantedT, Option.some.injEq] at hw
    simp [Region.wanted, h1, hw]
  · rw [h3] at hw
    simp only [wantedT] at hw
    have hv := h.env t
    simp only [Region.wanted, h1, yielded, h2, Option.bind_some]
    split at hw
    · rename_i q hq
      simp only [Option.some.injEq] at hw
      rw [hq] at hv
      have hv := ve_bool hv
      have : a.tmps[t]? = some (.bool q) := by
        rw [Array.getD_eq_getD_getElem?] at hv
        cases hx : a.tmps[t]? with
        | none => rw [hx] at hv; simp [undef] at hv
        | some x => rw [hx] at hv; simpa using hv
      rw [this]
      simp only
      rw [← hw]
      cases q <;> cases c <;> rfl
    · rename_i us hq
      simp only [Option.some.injEq] at hw
      rw [hq] at hv
      obtain ⟨vs, hv, _⟩ := hv
      rw [Array.getD_eq_getD_getElem?] at hv
      rw [← hw]
      cases hx : a.tmps[t]? with
      | none => rfl
      | some x => rw [hx] at hv; simp at hv; subst hv; rfl
    · cases hw
theorem ev_cal {op : TOp} {d c : Nat} {vv : Opd → TV} {ob : Nat → Nat → Option Obj} {f : Nat} {vs : List TV} {k : Res → Option Eff} (h : ev op d c vv ob = some (.cal f vs k)) :
    ∃ mode lent args, op = .call f mode lent args ∧ argsOf ob lent 0 (args.map vv) = some vs ∧ k = callEff mode lent d c ob (args.map vv) := by
  cases op
  case call f' mode lent args =>
    simp only [ev] at h
    split at h
    · cases h
    · cases h; exact ⟨mode, lent, args, rfl, ‹_›, rfl⟩
  all_goals
    exfalso
    simp only [ev] at h
    first
    | (cases h; done)
    | ((repeat' split at h) <;> first | (cases h; done) | (simp only [Option.map_eq_some_iff] at h; obtain ⟨_, _, h⟩ := h; cases h; done))
    | (simp only [Option.map_eq_some_iff] at h; obtain ⟨_, _, h⟩ := h; cases h)
theorem compOp_call {hh : Nat → Nat × List Nat} {oper : Oper} {f mode : Nat} {lent : List Nat} {args : List Opd} (hc : compOp P hh oper = some (.call f mode lent args)) :
    ∃ as ats, oper.op = .call { callee := .value (.func f), args := as, argTypes := ats } ∧ opds as.toList = some args := by
  obtain ⟨dst, op, type, pos, after, guard⟩ := oper
  cases op <;> simp only [compOp] at hc <;> (repeat' split at hc) <;> first
    | contradiction
    | (cases hc; done)
    | (simp [Option.map_eq_some_iff] at hc; done)
    | (simp only [Option.map_eq_some_iff] at hc
       obtain ⟨as, h1, h2⟩ := hc
       cases h2
       exact ⟨_, _, ‹_›, h1⟩)
theorem trees_none : ∀ {cs ts : List TV}, trees (fun _ _ => none) cs = some ts → cs.flatMap hand1 = []
  | [], ts, _ => rfl
  | c :: cs, ts, h => by
    simp only [trees] at h
    split at h
    · rename_i h1 h2
      rw [List.flatMap_cons, trees_none h2]
      cases c <;> first | rfl | (simp [tree1] at h1; done)
    · cases h
theorem sliceParts_none {vv : Opd → TV} {e : Nat} : ∀ {ps : List (Nat × Opd)} {acc r : Cont}, sliceParts (fun _ _ => none) vv e acc ps = some r → (ps.flatMap fun q => hands (vv q.2)) = []
  | [], acc, r, _ => rfl
  | (i, x) :: ps, acc, r, h => by
    simp only [sliceParts] at h
    split at h
    · rename_i cs hcs
      split at h
      · rw [List.flatMap_cons, sliceParts_none h]
        simpa [hands] using trees_none hcs
      · cases h
    · cases h
theorem sim_lit (h : Rel C ρ I w a st) {hh : Nat → Nat × List Nat} {o : Oper} {es : Nat} {z : List TV} {len : Nat} {ps : List (Nat × Opd)} {d : Nat} {ob : Nat → Nat → Option Obj} {e : Eff} (hd : d < C.n)
    (hc : compOp P hh o = some (.lit es z len ps)) (he : ev (.lit es z len ps) d (st.cnt d) (val st.env) ob = some (.eff e)) :
    ∃ v w' ρ' I', (execOp a.eval o).run P w = .ok (.value v) w' ∧ Rel C ρ' I' w' (a.put (some d) v) (apply (some d) e st) := by
  have hb : compOp P (fun _ => (0, [])) o = some (.bslice es z len ps) := by
    obtain ⟨dst, op, type, pos, after, guard⟩ := o
    cases op <;> simp only [compOp] at hc ⊢ <;> (repeat' split at hc) <;> first
      | contradiction
      | (cases hc; done)
      | (simp [Option.map_eq_some_iff] at hc; done)
      | (cases hc; simp_all; done)
  simp only [ev, Option.map_eq_some_iff] at he
  obtain ⟨cc, hcc, he⟩ := he
  cases he
  have hun := sliceParts_none hcc
  have hlen : cc.length = len := by rw [sliceParts_len hcc]; simp
  obtain ⟨v, w', ρ', I', h1, h2⟩ := sim_bslice (ob := fun _ _ => none) h hd (fun _ _ _ hk => by cases hk) hb (e := { v := .hs d (st.cnt d) es len, unsolo := ps.flatMap fun p => hands (val st.env p.2), new := [{ cont := cc, esz := es, box := false, solo := true, tip := true }] }) (by simp only [ev, hcc, Option.map_some])
  rw [hun, apply_new] at h2
  obtain ⟨I2, h3, hI, hfro⟩ := h2.freeze1 (d, st.cnt d)
  have hobj : (updO st.obj d (st.cnt d) (some { cont := cc, esz := es, box := false, solo := true, tip := true })) d (st.cnt d) = some { cont := cc, esz := es, box := false, solo := true, tip := true } := updO_same _ _ _ _
  have hv := h3.env d
  simp only [upd_same] at hv
  obtain ⟨hlt, hes, hvv, hcap⟩ := hv
  have hvput : (a.put (some d) v).tmps.getD d undef = v := by
    simp only [Act.put]
    rw [getD_setIfInBounds _ _ _ _ (by rw [h.size]; exact hd)]
    simp
  have hnew : (unsolo1 (updO st.obj d (st.cnt d) (some { cont := cc, esz := es, box := false, solo := true, tip := true })) (d, st.cnt d)) d (st.cnt d) = some { cont := cc, esz := es, box := false, solo := false, tip := true } := by
    rw [unsolo1, updO_same, hobj]; rfl
  have hct := hs_ct (n := len) (cap := (ρ' d (st.cnt d)).cap) h3.ors hnew rfl (by simp [hlen]) hcap (fun off hoff => hfro _ hobj rfl off hoff)
  simp only at hct
  rw [← hlen, List.take_length, hlen, ← hvv, hvput] at hct
  have h4 : Rel C ρ' I2 w' (a.put (some d) v) { env := upd st.env d (.hs d (st.cnt d) es len), obj := updO st.obj d (st.cnt d) (some { cont := cc, esz := es, box := false, solo := false, tip := false }), cnt := upd st.cnt d (st.cnt d + 1) } := by
    refine h3.flags fun k g o' hk => ?_
    by_cases e : k = d ∧ g = st.cnt d
    · obtain ⟨rfl, rfl⟩ := e
      rw [updO_same] at hk
      cases hk
      exact ⟨_, hnew, rfl, rfl, rfl, by simp, by simp, by simp⟩
    · rw [updO_ne _ _ e] at hk
      refine ⟨o', ?_, rfl, rfl, rfl, fun h => h, fun h => h, fun _ => rfl⟩
      show unsolo1 _ _ k g = some o'
      rw [unsolo1, updO_ne _ _ e]
      show updO _ _ _ _ k g = some o'
      rw [updO_ne _ _ e]; exact hk
  have h5 := h4.put hd (v := v) (t := .sl cc) hct
  refine ⟨v, w', ρ', I2, h1, ?_⟩
  rw [apply_new]
  have hpp : (a.put (some d) v).put (some d) v = a.put (some d) v := by
    simp [Act.put, Array.setIfInBounds_setIfInBounds]
  rw [hpp] at h5
  simpa [upd_upd] using h5
theorem step_sim (h : Rel C ρ I w a st) {hh : Nat → Nat × List Nat} {ops : Array Oper} {oper : Oper} {o : TStep} {i : Nat} (hi : ops[i]? = some oper) (hs : Spec P hh C.n ops oper o) {st' : St} (hstep : Step1 (Sound P) o st st')
    {Q : Exit → Act → World → Prop} {K : Act → World → Prop} (hK : ∀ ρ' I' w' a', Rel C ρ' I' w' a' st' → K a' w') : wpOp P ops Q i K a w := by
  unfold wpOp
  simp only [hi]
  unfold Step1 at hstep
  split at hstep
  · exact hstep.elim
  · rename_i hw
    rw [wanted_sim h hs hw]
    simp only [Bool.false_eq_true, if_false]
    subst hstep
    rw [← hs.dst]
    have hslot := hs.slot
    cases hd : o.dst with
    | none =>
      refine hK ρ I w _ ?_
      rw [hd]
      exact h
    | some d =>
      rw [hd] at hslot
      simp only [slotOk, Bool.and_eq_true, decide_eq_true_eq] at hslot
      refine hK ρ I w _ ?_
      rw [hd, apply_v]
      exact h.put hslot.1 ⟨#[], rfl, .nil⟩
  · rename_i hw
    rw [wanted_sim h hs hw]
    simp only [if_true]
    refine .inl ?_
    obtain ⟨e, he, hdo⟩ := hstep
    have hob := restrict_sub st.obj o.vk
    have hslot := hs.slot
    unfold Oper.wp
    cases e with
    | cal f vs k =>
      obtain ⟨mode, lent, args, hop, hargs, rfl⟩ := ev_cal he
      obtain ⟨r, e, hS, hk, rfl⟩ := hdo
      have hc := hs.op
      rw [hop] at hc hslot
      obtain ⟨as, ats, hoper, hopds⟩ := compOp_call hc
      cases hd : o.dst with
      | none => rw [hd] at hslot; simp [slotOk, TOp.isStore] at hslot
      | some d =>
        rw [hd] at hslot hk hK
        simp only [slotOk, Bool.and_eq_true, decide_eq_true_eq] at hslot
        simp only [Option.getD_some] at hk
        have hall := h.opds hopds
        obtain ⟨I1, h1, h2⟩ := call_core (vals := (as.map a.eval)) h hslot.1 hob (by simpa using hall) hargs hk
        have hexec : (execOp a.eval oper).run P w = (callFunc f (as.map a.eval)).run P w := by
          unfold execOp
          rw [hoper]
          simp [resolve, invoke, Act.eval, Deferred.ofValue]
        rw [hexec]
        have hdst := hs.dst
        rw [hd] at hdst
        rcases hS _ w _ _ h1 with ⟨v, w', I', ls, h3, h4⟩ | ⟨g, h3, h4⟩
        · rw [h3, Oper.upon_value, ← hdst]
          obtain ⟨ρ', I2, h5⟩ := h2 v w' I' ls h4
          exact hK _ _ _ _ h5
        · rw [h3, Oper.upon_enter]
          refine h4.mono fun e w' he => ?_
          obtain ⟨v, I', ls, rfl, h4⟩ := he
          obtain ⟨ρ', I2, h5⟩ := h2 v w' I' ls h4
          show K (a.put oper.dst v) w'
          rw [← hdst]
          exact hK _ _ _ _ h5
    | eff e =>
      simp only [Does] at hdo
      subst hdo
      have hdst := hs.dst
      have hc := hs.op
      by_cases hst : o.op.isStore = true
      · cases hop : o.op <;> simp [hop, TOp.isStore] at hst
        rename_i n p x
        rw [hop] at hc he hslot
        cases hd : o.dst with
        | some d => rw [hd] at hslot; simp [slotOk, TOp.isStore] at hslot
        | none =>
          rw [hd] at hdst
          obtain ⟨w', I', h1, h2⟩ := sim_store h hob hc he
          rw [h1, Oper.upon_skip, ← hdst]
          rw [hd] at hK
          exact hK _ _ _ _ h2
      · cases hd : o.dst with
        | none => rw [hd] at hslot; simp [slotOk] at hslot; exact absurd hslot hst
        | some d =>
          rw [hd] at hslot he hK hdst
          simp only [slotOk, Bool.and_eq_true, decide_eq_true_eq] at hslot
          simp only [Option.getD_some] at he
          have value : ∀ v w' ρ' I', (execOp a.eval oper).run P w = .ok (.value v) w' → Rel C ρ' I' w' (a.put (some d) v) (apply (some d) e st) → oper.upon P a K Q ((execOp a.eval oper).run P w) := fun v w' ρ' I' h1 h2 => by
            rw [h1, Oper.upon_value, ← hdst]
            exact hK _ _ _ _ h2
          by_cases hq : o.op.quiet = true
          · obtain ⟨v, h1, h2, h3, h4, h5⟩ := sim_quiet h hob hc hq he
            refine value v w ρ I h1 ?_
            obtain ⟨ev, en, eu, em⟩ := e
            simp only at h3 h4 h5 h2
            subst h3 h4 h5
            rw [apply_v]
            exact h.put hslot.1 h2
          · cases hop : o.op <;> simp [hop, TOp.quiet, TOp.isStore] at hq hst <;> rw [hop] at hc he
            case box n x => obtain ⟨v, w', ρ', h1, h2⟩ := sim_box h hslot.1 hc he; exact value _ _ _ _ h1 h2
            case alloc cells => obtain ⟨v, w', ρ', h1, h2⟩ := sim_alloc h hslot.1 hc he; exact value _ _ _ _ h1 h2
            case bslice => obtain ⟨v, w', ρ', I', h1, h2⟩ := sim_bslice h hslot.1 hob hc he; exact value _ _ _ _ h1 h2
            case lit => obtain ⟨v, w', ρ', I', h1, h2⟩ := sim_lit h hslot.1 hc he; exact value _ _ _ _ h1 h2
            case mk => obtain ⟨v, w', ρ', h1, h2⟩ := sim_mk h hslot.1 hc he; exact value _ _ _ _ h1 h2
            case app => obtain ⟨v, w', ρ', h1, h2⟩ := sim_app h hslot.1 hob hc he; exact value _ _ _ _ h1 h2
            case slice => obtain ⟨v, I', h1, h2⟩ := sim_slice h hslot.1 hob hc he; exact value _ _ _ _ h1 h2
            case call f mode lent args =>
              simp only [ev] at he
              split at he <;> cases he
theorem RunOps.append {S : Nat → List TV → Res → Prop} {l1 l2 : List TStep} {st st' : St} : RunOps S (l1 ++ l2) st st' ↔ ∃ st1, RunOps S l1 st st1 ∧ RunOps S l2 st1 st' := by
  induction l1 generalizing st with
  | nil => simp [RunOps]
  | cons o l1 ih =>
    simp only [List.cons_append, RunOps, ih]
    constructor
    · rintro ⟨s1, h1, s2, h2, h3⟩; exact ⟨s2, ⟨s1, h1, h2⟩, h3⟩
    · rintro ⟨s2, ⟨s1, h1, h2⟩, h3⟩; exact ⟨s1, h1, s2, h2, h3⟩
theorem ops_sim {hh : Nat → Nat × List Nat} {ops : Array Oper} {Q : Exit → Act → World → Prop} (L : List TStep) (hL : ∀ (i : Nat) (o : TStep), L[i]? = some o → ∃ oper, ops[i]? = some oper ∧ Spec P hh C.n ops oper o) {st' : St} (hQ : ∀ ρ' I' w' a', Rel C ρ' I' w' a' st' → Q .normal a' w') :
    ∀ (m k : Nat) {ρ : Nat → Nat → Loc} {I : Nat → Nat → Prop} {w : World} {a : Act} {st : St}, k + m = L.length → Rel C ρ I w a st → RunOps (Sound P) (L.drop k) st st' → wpOps P ops Q (List.range' k m) a w := by
  intro m
  induction m with
  | zero =>
    intro k ρ I w a st hk h hr
    rw [List.drop_eq_nil_of_le (by omega)] at hr
    simp only [RunOps] at hr
    subst hr
    exact hQ _ _ _ _ h
  | succ m ih =>
    intro k ρ I w a st hk h hr
    have hlt : k < L.length := by omega
    rw [List.drop_eq_getElem_cons hlt] at hr
    obtain ⟨st1, h1, h2⟩ := hr
    obtain ⟨oper, ho, hs⟩ := hL k _ (List.getElem?_eq_getElem hlt)
    rw [List.range'_succ, wpOps_cons]
    exact step_sim h ho hs h1 fun ρ' I' w' a' h' => ih (k + 1) (by omega) h' h2
theorem stepsOf_spec {hh : Nat → Nat × List Nat} {ops : Array Oper} : ∀ {l : List Oper} {r : List (Option Nat × TOp × Option (Nat × Bool))}, stepsOf P hh ops l = some r →
    r.length = l.length ∧ ∀ (i : Nat) (p : Option Nat × TOp × Option (Nat × Bool)), r[i]? = some p → ∃ oper, l[i]? = some oper ∧ p.1 = oper.dst ∧ compOp P hh oper = some p.2.1 ∧ ((oper.guard = none ∧ p.2.2 = none) ∨ ∃ j b t, oper.guard = some (j, b) ∧ (ops[j]?).bind (·.dst) = some t ∧ p.2.2 = some (t, b))
  | [], r, h => by simp [stepsOf] at h; subst h; simp
  | o :: l, r, h => by
    simp only [stepsOf] at h
    split at h
    · rename_i t g r' h1 h2 h3
      cases h
      obtain ⟨q1, q2⟩ := stepsOf_spec h3
      refine ⟨by simp [q1], fun i p hp => ?_⟩
      cases i with
      | zero =>
        simp only [List.getElem?_cons_zero, Option.some.injEq] at hp
        subst hp
        refine ⟨o, rfl, rfl, h1, ?_⟩
        split at h2
        · rename_i hg
          cases h2
          exact .inl ⟨hg, rfl⟩
        · rename_i j b hg
          simp only [Option.map_eq_some_iff] at h2
          obtain ⟨t', h4, rfl⟩ := h2
          exact .inr ⟨j, b, t', hg, h4, rfl⟩
      | succ i => simpa using q2 i p (by simpa using hp)
    · cases h
end
end Go.TM
end
section
namespace Go.TM
set_option linter.unusedVariables false
set_option linter.unusedSimpArgs false
abbrev ObF := Nat → Nat → Option Obj
def StepE (S : Nat → List TV → Res → Prop) (o : TStep) (g : Option Bool) (c : Nat) (vv : Opd → TV) (ob : ObF) (e : Eff) : Prop :=
  match g with
  | none => False
  | some false => e = { v := .tup [] }
  | some true => ∃ x, ev o.op (o.dst.getD 0) c vv ob = some x ∧ match x with
    | .eff e' => e = e'
    | .cal f vs k => ∃ r, S f vs r ∧ k r = some e
theorem step1_iff {S : Nat → List TV → Res → Prop} {o : TStep} {st st' : St} :
    Step1 S o st st' ↔ ∃ e, StepE S o (wantedT st.env o.guard) (st.cnt (o.dst.getD 0)) (val st.env) (restrict st.obj o.vk) e ∧ st' = apply o.dst e st := by
  unfold Step1 StepE
  generalize wantedT st.env o.guard = g
  match g with
  | none => simp
  | some false => simp
  | some true =>
    constructor
    · rintro ⟨x, h1, h2⟩
      cases x with
      | eff e => exact ⟨e, ⟨_, h1, rfl⟩, h2⟩
      | cal f vs k =>
        obtain ⟨r, e, h3, h4, h5⟩ := h2
        exact ⟨e, ⟨_, h1, r, h3, h4⟩, h5⟩
    · rintro ⟨e, ⟨x, h1, h2⟩, h3⟩
      refine ⟨x, h1, ?_⟩
      cases x with
      | eff e' => simp only at h2; subst h2; exact h3
      | cal f vs k =>
        obtain ⟨r, h4, h5⟩ := h2
        exact ⟨r, e, h4, h5, h3⟩
theorem buildParts_congr {vv vv' : Opd → TV} : ∀ (ps : List (Nat × Nat × Opd)) (acc : List TV), (∀ p ∈ ps, vv p.2.2 = vv' p.2.2) → buildParts vv acc ps = buildParts vv' acc ps
  | [], acc, _ => rfl
  | (off, n, x) :: ps, acc, h => by
    have hx : vv x = vv' x := h (off, n, x) List.mem_cons_self
    simp only [buildParts, hx, buildParts_congr ps _ fun p hp => h p (List.mem_cons_of_mem _ hp)]
theorem sliceParts_congr {ob : ObF} {vv vv' : Opd → TV} {e : Nat} : ∀ (ps : List (Nat × Opd)) (acc : Cont), (∀ p ∈ ps, vv p.2 = vv' p.2) → sliceParts ob vv e acc ps = sliceParts ob vv' e acc ps
  | [], acc, _ => rfl
  | (i, x) :: ps, acc, h => by
    have hx : vv x = vv' x := h (i, x) List.mem_cons_self
    simp only [sliceParts, hx, sliceParts_congr ps _ fun p hp => h p (List.mem_cons_of_mem _ hp)]
theorem ev_congr {op : TOp} {d c : Nat} {vv vv' : Opd → TV} {ob : ObF} (h : ∀ x ∈ op.opds, vv x = vv' x) : ev op d c vv ob = ev op d c vv' ob := by
  cases op <;> simp only [TOp.opds, List.mem_cons, List.not_mem_nil, or_false, forall_eq_or_imp, forall_eq] at h <;> simp only [ev]
  case build z ps => rw [buildParts_congr ps z fun p hp => h _ (List.mem_map_of_mem hp)]
  case bslice e z n ps =>
    have hv : ∀ p ∈ ps, vv p.2 = vv' p.2 := fun p hp => h _ (List.mem_map_of_mem hp)
    rw [sliceParts_congr ps _ hv]
    have : (ps.flatMap fun p => hands (vv p.2)) = ps.flatMap fun p => hands (vv' p.2) := by
      clear h
      induction ps with
      | nil => rfl
      | cons p ps ih =>
        simp only [List.flatMap_cons, hv p List.mem_cons_self]
        rw [ih fun q hq => hv q (List.mem_cons_of_mem _ hq)]
    rw [this]
  case lit e z n ps => rw [sliceParts_congr ps _ fun p hp => h _ (List.mem_map_of_mem hp)]
  case call f m l as => rw [List.map_congr_left h]
  case slice e s x lo hi mx =>
    have h1 := h.1
    have h2 : ∀ y, lo = some y → vv y = vv' y := fun y hy => h.2 y (by simp [hy])
    have h3 : ∀ y, hi = some y → vv y = vv' y := fun y hy => h.2 y (by simp [hy])
    have h4 : ∀ y, mx = some y → vv y = vv' y := fun y hy => h.2 y (by simp [hy])
    cases lo <;> cases hi <;> cases mx <;> simp_all
  all_goals simp_all
theorem val_upd {env : Nat → TV} {d : Nat} {v : TV} {x : Opd} (h : d ∉ x.tmps) : val (upd env d v) x = val env x := by
  cases x with
  | t n => exact upd_ne _ _ (fun e => h (by simp [Opd.tmps, e]))
  | c v => rfl
theorem reads_opd {s : TStep} {d : Nat} (h : s.reads.contains d = false) : (∀ x ∈ s.op.opds, d ∉ x.tmps) ∧ ∀ g b, s.guard = some (g, b) → g ≠ d := by
  simp only [TStep.reads, List.contains_eq_mem, List.mem_append, decide_eq_false_iff_not, not_or] at h
  refine ⟨fun x hx hd => h.1 ?_, fun g b hg e => h.2 (by simp [hg, e])⟩
  simp only [ops2, List.mem_flatMap]
  exact ⟨x, hx, hd⟩
theorem wantedT_upd {env : Nat → TV} {d : Nat} {v : TV} {gd : Option (Nat × Bool)} (h : ∀ g b, gd = some (g, b) → g ≠ d) : wantedT (upd env d v) gd = wantedT env gd := by
  cases gd with
  | none => rfl
  | some p => obtain ⟨g, b⟩ := p; simp only [wantedT, upd_ne _ _ (h g b rfl)]
def objEff (d : Option Nat) (c : Nat) (e : Eff) (ob : ObF) : ObF :=
  match d with
  | some d => addNew d c e.new (e.mods.foldl (fun ob m => updO ob m.1 m.2.1 m.2.2) (e.unsolo.foldl unsolo1 ob))
  | none => e.mods.foldl (fun ob m => updO ob m.1 m.2.1 m.2.2) (e.unsolo.foldl unsolo1 ob)
theorem apply_some (d : Nat) (e : Eff) (st : St) : apply (some d) e st = { env := upd st.env d e.v, obj := objEff (some d) (st.cnt d) e st.obj, cnt := upd st.cnt d (st.cnt d + e.new.length) } := by
  obtain ⟨v, n, u, m⟩ := e
  cases n with
  | nil => simp [apply, objEff, addNew, upd_id]
  | cons => rfl
theorem apply_none (e : Eff) (st : St) : apply none e st = { st with obj := objEff none 0 e st.obj } := rfl
theorem updO_row {ob ob' : ObF} {k : Nat} (h : ob k = ob' k) (k' g' : Nat) (q : Option Obj) : updO ob k' g' q k = updO ob' k' g' q k := by
  funext g; simp only [updO, h]
theorem unsolo1_row {ob ob' : ObF} {k : Nat} (h : ob k = ob' k) (p : Nat × Nat) : unsolo1 ob p k = unsolo1 ob' p k := by
  unfold unsolo1
  by_cases e : p.1 = k
  · subst e; rw [h]; exact updO_row h _ _ _
  · funext g
    rw [updO_ne _ _ (fun x => e x.1.symm), updO_ne _ _ (fun x => e x.1.symm), h]
theorem unsolo_row : ∀ (l : List (Nat × Nat)) {ob ob' : ObF} {k : Nat}, ob k = ob' k → l.foldl unsolo1 ob k = l.foldl unsolo1 ob' k
  | [], _, _, _, h => h
  | p :: l, ob, ob', k, h => unsolo_row l (unsolo1_row h p)
theorem mods_row : ∀ (l : List (Nat × Nat × Option Obj)) {ob ob' : ObF} {k : Nat}, ob k = ob' k → l.foldl (fun ob m => updO ob m.1 m.2.1 m.2.2) ob k = l.foldl (fun ob m => updO ob m.1 m.2.1 m.2.2) ob' k
  | [], _, _, _, h => h
  | m :: l, ob, ob', k, h => mods_row l (updO_row h _ _ _)
theorem addNew_row (d : Nat) : ∀ (l : List Obj) (c : Nat) {ob ob' : ObF} {k : Nat}, ob k = ob' k → addNew d c l ob k = addNew d c l ob' k
  | [], _, _, _, _, h => h
  | o :: l, c, ob, ob', k, h => addNew_row d l (c + 1) (updO_row h _ _ _)
theorem objEff_row {d : Option Nat} {c : Nat} {e : Eff} {ob ob' : ObF} {k : Nat} (h : ob k = ob' k) : objEff d c e ob k = objEff d c e ob' k := by
  cases d with
  | none => exact mods_row _ (unsolo_row _ h)
  | some d => exact addNew_row d _ _ (mods_row _ (unsolo_row _ h))
theorem unsolo_keep : ∀ (l : List (Nat × Nat)) (ob : ObF) (k : Nat), (∀ p ∈ l, p.1 ≠ k) → l.foldl unsolo1 ob k = ob k
  | [], _, _, _ => rfl
  | p :: l, ob, k, h => by
    rw [List.foldl_cons, unsolo_keep l _ k fun q hq => h q (List.mem_cons_of_mem _ hq)]
    funext g
    exact updO_ne _ _ fun e => h p List.mem_cons_self e.1.symm
theorem mods_keep : ∀ (l : List (Nat × Nat × Option Obj)) (ob : ObF) (k : Nat), (∀ m ∈ l, m.1 ≠ k) → l.foldl (fun ob m => updO ob m.1 m.2.1 m.2.2) ob k = ob k
  | [], _, _, _ => rfl
  | m :: l, ob, k, h => by
    rw [List.foldl_cons, mods_keep l _ k fun q hq => h q (List.mem_cons_of_mem _ hq)]
    funext g
    exact updO_ne _ _ fun e => h m List.mem_cons_self e.1.symm
theorem addNew_keep (d : Nat) : ∀ (l : List Obj) (c : Nat) (ob : ObF) (k : Nat), k ≠ d → addNew d c l ob k = ob k
  | [], _, _, _, _ => rfl
  | o :: l, c, ob, k, h => by
    rw [addNew, addNew_keep d l (c + 1) _ k h]
    funext g
    exact updO_ne _ _ fun e => h e.1
structure Light (e : Eff) : Prop where
  unsolo : e.unsolo = []
  mods : e.mods = []
theorem Light.obj {e : Eff} (h : Light e) (d c : Nat) (ob : ObF) : objEff (some d) c e ob = addNew d c e.new ob := by
  simp [objEff, h.unsolo, h.mods]
theorem apply_comm {d : Nat} {dt : Option Nat} {es et : Eff} (hs : Light es) (hd : dt ≠ some d) (hk : es.new = [] ∨ ((∀ p ∈ et.unsolo, p.1 ≠ d) ∧ ∀ m ∈ et.mods, m.1 ≠ d)) (st : St) :
    apply dt et (apply (some d) es st) = apply (some d) es (apply dt et st) := by
  have hobj : ∀ c ct, objEff dt ct et (objEff (some d) c es st.obj) = objEff (some d) c es (objEff dt ct et st.obj) := fun c ct => by
    rw [hs.obj, hs.obj]
    rcases hk with hk | ⟨h1, h2⟩
    · rw [hk]; rfl
    · funext k
      by_cases e : k = d
      · subst e
        have keep : ∀ ob : ObF, objEff dt ct et ob k = ob k := fun ob => by
          cases dt with
          | none => simp only [objEff]; rw [mods_keep _ _ _ h2, unsolo_keep _ _ _ h1]
          | some q => simp only [objEff]; rw [addNew_keep q _ _ _ _ (fun e => hd (by rw [e])), mods_keep _ _ _ h2, unsolo_keep _ _ _ h1]
        rw [keep]
        exact addNew_row k _ _ (keep _).symm
      · rw [addNew_keep d _ _ _ _ e]
        exact objEff_row (addNew_keep d _ _ _ _ e)
  cases dt with
  | none =>
    rw [apply_none, apply_none, apply_some, apply_some]
    simp only [hobj]
  | some q =>
    have hne : q ≠ d := fun e => hd (by rw [e])
    rw [apply_some, apply_some, apply_some, apply_some]
    simp only [upd_ne _ _ hne, upd_ne _ _ (Ne.symm hne), hobj]
    congr 1
    · funext j
      by_cases e1 : j = q
      · subst e1; simp [upd_ne _ _ hne]
      · by_cases e2 : j = d
        · subst e2; simp [upd_ne _ _ e1]
        · simp [upd_ne _ _ e1, upd_ne _ _ e2]
    · funext j
      by_cases e1 : j = q
      · subst e1; simp [upd_ne _ _ hne]
      · by_cases e2 : j = d
        · subst e2; simp [upd_ne _ _ e1]
        · simp [upd_ne _ _ e1, upd_ne _ _ e2]
structure Touch (o : TStep) (ob : ObF) (e : Eff) : Prop where
  unsolo : ∀ p ∈ e.unsolo, ob p.1 p.2 ≠ none
  mods : ∀ m ∈ e.mods, ∃ x, ob m.1 m.2.1 = some x ∧ ((m.2.2 = none ∧ x.box = false) ∨ ∃ y, m.2.2 = some y ∧ y.box = x.box)
  new : e.new ≠ [] → o.op.makes = true
  quiet : o.op.isStore = false → o.op.isApp = false → (∀ f m l as, o.op ≠ .call f m l as) → e.mods = []
  app : o.op.isApp = true → ∀ m ∈ e.mods, ∃ x, ob m.1 m.2.1 = some x ∧ x.box = false
  call : ∀ f m l as, o.op = .call f m l as → m ≠ 2 → e.mods = []
theorem Touch.skip (o : TStep) (ob : ObF) : Touch o ob { v := .tup [] } :=
  ⟨by simp, by simp, by simp, by simp, by simp, by simp⟩
theorem Touch.val (o : TStep) (ob : ObF) (v : TV) : Touch o ob { v := v } :=
  ⟨by simp, by simp, by simp, by simp, by simp, by simp⟩
theorem tree1_sees {ob : ObF} {c t : TV} (h : tree1 ob c = some t) : ∀ p ∈ hand1 c, ob p.1 p.2 ≠ none := by
  intro p hp
  cases c <;> simp [hand1] at hp
  subst hp
  intro hn
  simp [tree1, hn] at h
theorem trees_sees {ob : ObF} : ∀ {cs ts : List TV}, trees ob cs = some ts → ∀ p ∈ cs.flatMap hand1, ob p.1 p.2 ≠ none
  | [], ts, _, p, hp => by simp at hp
  | c :: cs, ts, h, p, hp => by
    simp only [trees] at h
    split at h
    · rename_i h1 h2
      simp only [List.flatMap_cons, List.mem_append] at hp
      rcases hp with hp | hp
      · exact tree1_sees h1 p hp
      · exact trees_sees h2 p hp
    · cases h
theorem tree_sees {ob : ObF} {v t : TV} (h : tree ob v = some t) : ∀ p ∈ hands v, ob p.1 p.2 ≠ none := by
  cases v
  case agg cs =>
    simp only [tree, Option.map_eq_some_iff] at h
    obtain ⟨ts, h, _⟩ := h
    exact trees_sees h
  all_goals
    simp only [tree] at h
    simp only [hands, TV.cells, List.flatMap_cons, List.flatMap_nil, List.append_nil]
    first
    | exact tree1_sees h
    | (intro p hp; simp at hp; done)
theorem argsOf_sees {ob : ObF} : ∀ {ts : List TV} {i : Nat} {vs : List TV}, argsOf ob [] i ts = some vs → ∀ p ∈ heldOf [] i ts, ob p.1 p.2 ≠ none
  | [], i, vs, _, p, hp => by simp [heldOf] at hp
  | t :: ts, i, vs, h, p, hp => by
    simp only [argsOf] at h
    split at h
    · rename_i u us h1 h2
      simp only [heldOf, List.mem_append] at hp
      rcases hp with hp | hp
      · exact tree_sees (by simpa using h1) p (by simpa using hp)
      · exact argsOf_sees h2 p hp
    · cases h
theorem sliceParts_sees {ob : ObF} {vv : Opd → TV} {e : Nat} : ∀ {ps : List (Nat × Opd)} {acc r : Cont}, sliceParts ob vv e acc ps = some r → ∀ p ∈ ps.flatMap (fun q => hands (vv q.2)), ob p.1 p.2 ≠ none
  | [], acc, r, _, p, hp => by simp at hp
  | (i, x) :: ps, acc, r, h, p, hp => by
    simp only [sliceParts] at h
    split at h
    · rename_i cs hcs
      split at h
      · simp only [List.flatMap_cons, List.mem_append] at hp
        rcases hp with hp | hp
        · exact trees_sees hcs p (by simpa [hands] using hp)
        · exact sliceParts_sees h p hp
      · cases h
    · cases h
theorem giveBack_sees {ob : ObF} : ∀ {ps : List (Nat × Nat)} {cs : List Cont} {ms : List (Nat × Nat × Option Obj)}, giveBack ob ps cs = some ms → ∀ m ∈ ms, ∃ o c, (m.1, m.2.1) ∈ ps ∧ ob m.1 m.2.1 = some o ∧ m.2.2 = some { o with cont := c }
  | [], [], ms, h, m, hm => by simp only [giveBack, Option.some.injEq] at h; subst h; simp at hm
  | [], _ :: _, ms, h, m, hm => by simp [giveBack] at h
  | _ :: _, [], ms, h, m, hm => by simp [giveBack] at h
  | p :: ps, c :: cs, ms, h, m, hm => by
    simp only [giveBack] at h
    split at h
    · rename_i o r ho hr
      split at h <;> cases h
      rcases List.mem_cons.1 hm with rfl | hm
      · exact ⟨o, c, List.mem_cons_self, ho, rfl⟩
      · obtain ⟨o', c', h1, h2, h3⟩ := giveBack_sees hr m hm
        exact ⟨o', c', List.mem_cons_of_mem _ h1, h2, h3⟩
    · cases h
theorem lent_row {ob : ObF} {lent : List Nat} : ∀ {ts : List TV} {i : Nat} {vs : List TV}, argsOf ob lent i ts = some vs → ∀ p ∈ lentOf lent i ts, ∃ o, ob p.1 p.2 = some o ∧ o.box = false
  | [], i, vs, _, p, hp => by simp [lentOf] at hp
  | t :: ts, i, vs, h, p, hp => by
    simp only [argsOf] at h
    split at h
    · rename_i u us h1 h2
      simp only [lentOf, List.mem_append] at hp
      rcases hp with hp | hp
      · split at hp
        · rename_i hc
          rw [if_pos hc] at h1
          unfold lend at h1
          split at h1
          · rename_i k g e n
            simp only [hands, TV.cells, List.flatMap_cons, List.flatMap_nil, hand1, List.append_nil, List.mem_singleton] at hp
            subst hp
            split at h1
            · rename_i o ho
              split at h1
              · rename_i hcond; exact ⟨o, ho, hcond.1⟩
              · cases h1
            · cases h1
          · cases h1
        · simp at hp
      · exact lent_row h2 p hp
    · cases h
theorem touch {S : Nat → List TV → Res → Prop} {o : TStep} {g : Option Bool} {c : Nat} {vv : Opd → TV} {ob : ObF} {e : Eff} (h : StepE S o g c vv ob e) : Touch o ob e := by
  unfold StepE at h
  split at h
  · exact h.elim
  · subst h; exact .skip o ob
  · obtain ⟨x, hx, hd⟩ := h
    obtain ⟨dst, op, guard, vk⟩ := o
    cases x with
    | cal f vs k =>
      obtain ⟨mode, lent, args, hop, hargs, rfl⟩ := ev_cal hx
      obtain ⟨r, _, hk⟩ := hd
      simp only at hop
      subst hop
      unfold callEff at hk
      split at hk
      · rename_i hm2
        subst hm2
        split at hk
        · split at hk <;> cases hk
          rename_i ms hms
          have hs := giveBack_sees hms
          refine ⟨by simp, fun m hm => ?_, by simp, by simp [TOp.isApp], fun _ m hm => ?_, fun f m l as he hne => ?_⟩
          · obtain ⟨x, c, h1, h2, h3⟩ := hs m hm
            exact ⟨x, h2, .inr ⟨_, h3, rfl⟩⟩
          · obtain ⟨x, c, h1, h2, h3⟩ := hs m hm
            obtain ⟨x', h4, h5⟩ := lent_row hargs _ h1
            simp only at h4
            rw [h2] at h4
            cases h4
            exact ⟨x, h2, h5⟩
          · simp only [TOp.call.injEq] at he
            exact absurd he.2.1.symm hne
        · cases hk
      · rename_i hm2
        split at hk
        · rename_i hcond
          obtain ⟨rfl, _⟩ := hcond
          have un : ∀ (b : Bool) (v : TV) (new : List Obj), (mode = 0 → new = []) → Touch ⟨dst, .call f mode [] args, guard, vk⟩ ob { v := v, new := new, unsolo := if b = true then heldOf [] 0 (args.map vv) else [] } := fun b v new hnew => by
            refine ⟨fun p hp => ?_, by simp, fun hn => ?_, by simp, by simp, by simp⟩
            · cases b
              · simp at hp
              · exact argsOf_sees hargs p (by simpa using hp)
            · simp only [TOp.makes, bne_iff_ne, ne_eq]
              exact fun h0 => hn (hnew h0)
          split at hk
          · cases hk; exact un _ _ _ fun _ => rfl
          · rename_i h0
            split at hk
            · cases hk
            · cases hk; exact un _ _ _ fun h => absurd h h0
            · cases hk; exact un _ _ _ fun h => absurd h h0
        · cases hk
    | eff e' =>
      simp only at hd
      subst hd
      cases op <;> simp only [ev] at hx
      case app es consume s x =>
        split at hx
        · split at hx
          · split at hx
            · split at hx <;> cases hx
              · exact .val _ _ _
              · exact ⟨by simp, by simp, by simp [TOp.makes], by simp, by simp, by simp⟩
            · cases hx
          · split at hx
            · rename_i q hq
              split at hx <;> cases hx
              rename_i hcond
              refine ⟨by simp, fun m hm => ?_, by simp [TOp.makes], by simp [TOp.isApp], fun _ m hm => ?_, by simp⟩
              · simp only [List.mem_singleton] at hm
                subst hm
                refine ⟨q, hq, ?_⟩
                cases consume
                · exact .inr ⟨_, rfl, rfl⟩
                · exact .inl ⟨rfl, hcond.1⟩
              · simp only [List.mem_singleton] at hm
                subst hm
                exact ⟨q, hq, hcond.1⟩
            · cases hx
          · cases hx
        · cases hx
      case store n p x =>
        split at hx
        · split at hx
          · rename_i q hq
            split at hx
            · split at hx
              · split at hx
                · cases hx
                  refine ⟨by simp, fun m hm => ?_, by simp, by simp [TOp.isStore], by simp [TOp.isApp], by simp⟩
                  simp only [List.mem_singleton] at hm
                  subst hm
                  exact ⟨q, hq, .inr ⟨_, rfl, rfl⟩⟩
                · split at hx
                  · cases hx
                  · split at hx
                    · rename_i cs hcs
                      cases hx
                      refine ⟨fun p hp => trees_sees hcs p hp, fun m hm => ?_, by simp, by simp [TOp.isStore], by simp [TOp.isApp], by simp⟩
                      simp only [List.mem_singleton] at hm
                      subst hm
                      exact ⟨q, hq, .inr ⟨_, rfl, rfl⟩⟩
                    · cases hx
              · cases hx
            · cases hx
          · cases hx
        · cases hx
      case bslice es z n ps =>
        simp only [Option.map_eq_some_iff] at hx
        obtain ⟨cc, hcc, hx⟩ := hx
        cases hx
        exact ⟨sliceParts_sees hcc, by simp, by simp [TOp.makes], by simp, by simp, by simp⟩
      case lit es z n ps =>
        simp only [Option.map_eq_some_iff] at hx
        obtain ⟨cc, hcc, hx⟩ := hx
        cases hx
        exact ⟨by simp, by simp, by simp [TOp.makes], by simp, by simp, by simp⟩
      case slice es s x lo hi mx =>
        split at hx
        · cases hx
        · split at hx
          · split at hx
            · split at hx <;> cases hx; exact .val _ _ _
            · cases hx
          · split at hx
            · split at hx <;> cases hx; exact .val _ _ _
            · cases hx
          · split at hx
            · split at hx
              · split at hx
                · cases hx; exact .val _ _ _
                · split at hx
                  · rename_i q hq
                    split at hx <;> cases hx
                    refine ⟨fun p hp => ?_, by simp, by simp, by simp, by simp, by simp⟩
                    simp only [List.mem_singleton] at hp
                    subst hp
                    rw [hq]; simp
                  · cases hx
              · cases hx
            · cases hx
          · split at hx
            · split at hx <;> cases hx; exact .val _ _ _
            · cases hx
          · cases hx
      case mk =>
        (repeat' split at hx) <;> first
          | (cases hx; done)
          | (cases hx; exact ⟨by simp, by simp, by simp [TOp.makes], by simp, by simp, by simp⟩)
      case box =>
        (repeat' split at hx) <;> first
          | (cases hx; done)
          | (cases hx; exact ⟨by simp, by simp, by simp [TOp.makes], by simp, by simp, by simp⟩)
      case alloc => cases hx; exact ⟨by simp, by simp, by simp [TOp.makes], by simp, by simp, by simp⟩
      case call => (repeat' split at hx) <;> cases hx
      all_goals
        (repeat' split at hx) <;> first
          | (cases hx; done)
          | (cases hx; exact .val _ _ _)
          | (simp only [Option.map_eq_some_iff, Option.some.injEq, Ev.eff.injEq] at hx; obtain ⟨_, _, rfl⟩ := hx; exact .val _ _ _)
end Go.TM
end
section
namespace Go.TM
set_option linter.unusedVariables false
set_option linter.unusedSimpArgs false
theorem quiet_eff {op : TOp} {d c : Nat} {vv : Opd → TV} {ob : ObF} {e : Eff} (hq : op.quiet = true) (h : ev op d c vv ob = some (.eff e)) : e.new = [] ∧ e.unsolo = [] ∧ e.mods = [] := by
  cases op <;> simp only [TOp.quiet, Bool.false_eq_true] at hq <;> simp only [ev] at h
  all_goals
    (repeat' split at h) <;> first
      | (cases h; done)
      | (cases h; exact ⟨rfl, rfl, rfl⟩)
      | (simp only [Option.map_eq_some_iff, Option.some.injEq, Ev.eff.injEq] at h; obtain ⟨_, _, rfl⟩ := h; exact ⟨rfl, rfl, rfl⟩)
theorem light_of {S : Nat → List TV → Res → Prop} {s : TStep} {g : Option Bool} {c : Nat} {vv : Opd → TV} {ob : ObF} {e : Eff} (hl : s.op.quiet = true ∨ s.fresh = true) (h : StepE S s g c vv (restrict ob s.vk) e) : Light e ∧ (s.op.quiet = true → e.new = []) := by
  have ht := touch h
  unfold StepE at h
  split at h
  · exact h.elim
  · subst h; exact ⟨⟨rfl, rfl⟩, fun _ => rfl⟩
  · obtain ⟨x, hx, hd⟩ := h
    cases x with
    | cal f vs k =>
      obtain ⟨mode, lent, args, hop, _⟩ := ev_cal hx
      rcases hl with hl | hl
      · rw [hop] at hl; simp [TOp.quiet] at hl
      · unfold TStep.fresh at hl; rw [hop] at hl; simp at hl
    | eff e' =>
      simp only at hd
      subst hd
      rcases hl with hl | hl
      · obtain ⟨h1, h2, h3⟩ := quiet_eff hl hx
        exact ⟨⟨h2, h3⟩, fun _ => h1⟩
      · have hq : s.op.quiet = false := by
          unfold TStep.fresh at hl
          cases hop : s.op <;> simp [hop] at hl <;> rfl
        refine ⟨?_, fun hq' => by rw [hq] at hq'; cases hq'⟩
        unfold TStep.fresh at hl
        split at hl
        · rename_i n y hop
          rw [hop] at hx
          simp only [ev] at hx
          (repeat' split at hx) <;> first
            | (cases hx; done)
            | (cases hx; exact ⟨rfl, rfl⟩)
        · rename_i n hop
          rw [hop] at hx
          simp only [ev] at hx
          cases hx
          exact ⟨rfl, rfl⟩
        · rename_i n y z hop
          rw [hop] at hx
          simp only [ev] at hx
          (repeat' split at hx) <;> first
            | (cases hx; done)
            | (cases hx; exact ⟨rfl, rfl⟩)
        · rename_i a1 a2 a3 a4 hop
          rw [hop] at hx
          simp only [ev, Option.map_eq_some_iff] at hx
          obtain ⟨cc, _, hx⟩ := hx
          cases hx
          exact ⟨rfl, rfl⟩
        · rename_i a1 a2 a3 a4 hop hvk
          refine ⟨?_, ht.quiet (by rw [hop]; rfl) (by rw [hop]; rfl) (by intro f m l as he; rw [hop] at he; cases he)⟩
          cases hu : e.unsolo with
          | nil => rfl
          | cons p l =>
            have := ht.unsolo p (by rw [hu]; exact List.mem_cons_self)
            rw [hvk] at this
            exact absurd rfl this
        · cases hl
def vbox : Option Obj → Option Obj
  | some o => if o.box then some o else none
  | none => none
def vrow : Option Obj → Option Obj
  | some o => if o.box then none else some { o with solo := false, tip := false }
  | none => none
theorem vbox_unsolo (x : Option Obj) : vbox (x.map fun o => { o with solo := o.box && o.solo }) = vbox x := by
  cases x with
  | none => rfl
  | some o => obtain ⟨a, b, c, d, e⟩ := o; cases c <;> rfl
theorem vrow_unsolo (x : Option Obj) : vrow (x.map fun o => { o with solo := o.box && o.solo }) = vrow x := by
  cases x with
  | none => rfl
  | some o => obtain ⟨a, b, c, d, e⟩ := o; cases c <;> rfl
theorem unsolo_view {v : Option Obj → Option Obj} (hv : ∀ x : Option Obj, v (x.map fun o => { o with solo := o.box && o.solo }) = v x) : ∀ (l : List (Nat × Nat)) (ob : ObF) (k g : Nat), v (l.foldl unsolo1 ob k g) = v (ob k g)
  | [], _, _, _ => rfl
  | p :: l, ob, k, g => by
    rw [List.foldl_cons, unsolo_view hv l]
    by_cases e : k = p.1 ∧ g = p.2
    · obtain ⟨rfl, rfl⟩ := e; rw [unsolo1, updO_same, hv]
    · rw [unsolo1, updO_ne _ _ e]
theorem mods_view {v : Option Obj → Option Obj} {k : Nat} (ob0 : ObF) : ∀ (l : List (Nat × Nat × Option Obj)) (ob : ObF), (∀ m ∈ l, m.1 = k → v m.2.2 = v (ob0 k m.2.1)) → (∀ g, v (ob k g) = v (ob0 k g)) → ∀ g, v (l.foldl (fun ob m => updO ob m.1 m.2.1 m.2.2) ob k g) = v (ob0 k g)
  | [], _, _, h, g => h g
  | m :: l, ob, hm, h, g => by
    rw [List.foldl_cons]
    refine mods_view ob0 l _ (fun q hq => hm q (List.mem_cons_of_mem _ hq)) (fun g => ?_) g
    by_cases e : k = m.1 ∧ g = m.2.1
    · obtain ⟨rfl, rfl⟩ := e; rw [updO_same]; exact hm m List.mem_cons_self rfl
    · rw [updO_ne _ _ e]; exact h g
theorem objEff_view {v : Option Obj → Option Obj} (hv : ∀ x : Option Obj, v (x.map fun o => { o with solo := o.box && o.solo }) = v x) {dt : Option Nat} {ct : Nat} {et : Eff} {ob : ObF} {k : Nat} (hn : et.new = [] ∨ dt ≠ some k) (hm : ∀ m ∈ et.mods, m.1 = k → v m.2.2 = v (ob k m.2.1)) (g : Nat) : v (objEff dt ct et ob k g) = v (ob k g) := by
  have h1 := mods_view ob et.mods (et.unsolo.foldl unsolo1 ob) hm (fun g => unsolo_view hv _ _ _ _) g
  cases dt with
  | none => exact h1
  | some d =>
    simp only [objEff]
    rcases hn with hn | hn
    · rw [hn]; exact h1
    · rw [addNew_keep d _ _ _ _ (fun e => hn (by rw [e]))]; exact h1
theorem restrict_box (ob : ObF) (b : Nat) : restrict ob (.box b) = fun k g => if k = b then vbox (ob k g) else none := by
  funext k g
  simp only [restrict]
  split
  · cases ob k g <;> rfl
  · rfl
theorem restrict_rd (ob : ObF) (forb : List Nat) : restrict ob (.rd forb) = fun k g => if forb.contains k then none else vrow (ob k g) := by
  funext k g
  simp only [restrict]
  split
  · rfl
  · cases ob k g <;> rfl
theorem blind_view {s t : TStep} {ob : ObF} {ct : Nat} {et : Eff} (hb : blindTo s t = true) (ht : Touch t (restrict ob t.vk) et) : restrict (objEff t.dst ct et ob) s.vk = restrict ob s.vk := by
  have mods0 : t.op.isStore = false → t.op.isApp = false → et.mods = [] := fun h1 h2 => by
    by_cases hc : ∃ f m l as, t.op = .call f m l as
    · obtain ⟨f, m, l, as, hop⟩ := hc
      refine ht.call _ _ _ _ hop ?_
      rw [hop] at h2
      simpa [TOp.isApp] using h2
    · exact ht.quiet h1 h2 fun f m l as hop => hc ⟨f, m, l, as, hop⟩
  have real : ∀ k g x, restrict ob t.vk k g = some x → ∃ o, ob k g = some o ∧ x.box = o.box := fun k g x hx => by
    obtain ⟨o, h1, _, _, h2, _⟩ := restrict_sub ob t.vk k g x hx
    exact ⟨o, h1, h2⟩
  unfold blindTo at hb
  cases hvk : s.vk with
  | none => rfl
  | full => rw [hvk] at hb; cases hb
  | fb forb => rw [hvk] at hb; cases hb
  | box b =>
    rw [hvk] at hb
    simp only [Bool.and_eq_true, Bool.or_eq_true, Bool.not_eq_true', bne_iff_ne, ne_eq] at hb
    obtain ⟨hb1, hb2⟩ := hb
    rw [restrict_box, restrict_box]
    funext k g
    split
    · rename_i hk
      subst hk
      refine objEff_view vbox_unsolo ?_ (fun m hm hk => ?_) g
      · by_cases hn : et.new = []
        · exact .inl hn
        · right
          rcases hb1 with h | h
          · rw [ht.new hn] at h; cases h
          · exact h
      · obtain ⟨x, hx, hcase⟩ := ht.mods m hm
        have notbox : x.box = false → vbox m.2.2 = vbox (ob k m.2.1) := fun hxb => by
          obtain ⟨o, ho, hbo⟩ := real _ _ _ hx
          rw [hk] at ho
          rw [ho]
          have hob : o.box = false := by rw [← hbo]; exact hxb
          rcases hcase with ⟨h1, _⟩ | ⟨y, h1, h2⟩
          · rw [h1]; simp [vbox, hob]
          · rw [h1]; simp [vbox, hob, h2, hxb]
        by_cases hst : t.op.isStore = true
        · rcases hb2 with h | h
          · rw [hst] at h; cases h
          · exfalso
            cases hvt : t.vk <;> rw [hvt] at h <;> simp at h
            rename_i b'
            rw [hvt, restrict_box] at hx
            simp only at hx
            split at hx
            · rename_i e; exact h (hk.symm.trans e)
            · cases hx
        · have hst : t.op.isStore = false := by simpa using hst
          by_cases hap : t.op.isApp = true
          · obtain ⟨x', hx', hb'⟩ := ht.app hap m hm
            rw [hx] at hx'; cases hx'
            exact notbox hb'
          · rw [mods0 hst (by simpa using hap)] at hm; simp at hm
    · rfl
  | rd forb =>
    rw [hvk] at hb
    simp only [Bool.and_eq_true, Bool.or_eq_true, Bool.not_eq_true'] at hb
    obtain ⟨⟨hb1, hb2⟩, hb3⟩ := hb
    rw [restrict_rd, restrict_rd]
    funext k g
    split
    · rfl
    · rename_i hk
      refine objEff_view vrow_unsolo ?_ (fun m hm hmk => ?_) g
      · by_cases hn : et.new = []
        · exact .inl hn
        · right
          rcases hb1 with h | h
          · rw [ht.new hn] at h; cases h
          · intro e
            rw [e] at h
            simp only at h
            exact hk h
      · obtain ⟨x, hx, hcase⟩ := ht.mods m hm
        by_cases hst : t.op.isStore = true
        · rcases hb2 with h | h
          · rw [hst] at h; cases h
          · cases hvt : t.vk <;> rw [hvt] at h <;> simp at h
            rename_i b'
            have hxb : x.box = true := by
              rw [hvt, restrict_box] at hx
              simp only at hx
              split at hx
              · unfold vbox at hx
                split at hx
                · split at hx <;> cases hx
                  assumption
                · cases hx
              · cases hx
            obtain ⟨o, ho, hbo⟩ := real _ _ _ hx
            rw [hmk] at ho
            rw [ho]
            have hob : o.box = true := by rw [← hbo]; exact hxb
            rcases hcase with ⟨h1, h2⟩ | ⟨y, h1, h2⟩
            · rw [hxb] at h2; cases h2
            · rw [h1]; simp [vrow, hob, h2, hxb]
        · have hst : t.op.isStore = false := by simpa using hst
          rw [mods0 hst hb3] at hm; simp at hm
theorem made_view {d c : Nat} {es : Eff} {ob : ObF} {vk : Vk} (hs : Light es) (hn : es.new = [] ∨ notMade d vk = true) : restrict (objEff (some d) c es ob) vk = restrict ob vk := by
  rw [hs.obj]
  rcases hn with hn | hn
  · rw [hn]; rfl
  · have keep : ∀ k, k ≠ d → ∀ g, addNew d c es.new ob k g = ob k g := fun k hk g => congrFun (addNew_keep d _ _ _ k hk) g
    cases vk <;> simp only [notMade] at hn
    case none => rfl
    case full => cases hn
    case box b =>
      rw [restrict_box, restrict_box]
      funext k g
      split
      · rename_i e; rw [keep k (by rw [e]; simpa using hn)]
      · rfl
    case rd forb =>
      rw [restrict_rd, restrict_rd]
      funext k g
      split
      · rfl
      · rename_i e; rw [keep k (fun e' => e (by rw [e']; exact hn))]
    case fb forb =>
      funext k g
      simp only [restrict]
      split
      · rfl
      · rename_i e; rw [keep k (fun e' => e (by rw [e']; exact hn))]
theorem StepE.congr {S : Nat → List TV → Res → Prop} {o : TStep} {g : Option Bool} {c c' : Nat} {vv vv' : Opd → TV} {ob : ObF} {e : Eff} (hv : ∀ x ∈ o.op.opds, vv x = vv' x) (hc : c = c' ∨ o.op.isStore = true) (h : StepE S o g c vv ob e) : StepE S o g c' vv' ob e := by
  have : ev o.op (o.dst.getD 0) c vv ob = ev o.op (o.dst.getD 0) c' vv' ob := by
    rw [ev_congr hv]
    rcases hc with rfl | hc
    · rfl
    · cases hop : o.op <;> simp [hop, TOp.isStore] at hc
      rfl
  unfold StepE at h ⊢
  rw [← this]
  exact h
structure Pair (s t : TStep) (d : Nat) : Prop where
  dst : s.dst = some d
  tdst : t.dst ≠ some d
  treads : t.reads.contains d = false
  sreads : ∀ q, t.dst = some q → s.reads.contains q = false
  light : s.op.quiet = true ∨ s.fresh = true
  blind : blindTo s t = true
  made : s.op.quiet = true ∨ notMade d t.vk = true
  form : formOk s t = true
theorem okLight_pair {s t : TStep} (h : okLight s t = true) : ∃ d, Pair s t d := by
  simp only [okLight, Bool.and_eq_true] at h
  obtain ⟨⟨⟨⟨⟨h1, h2⟩, h3⟩, h4⟩, h5⟩, h6⟩ := h
  obtain ⟨d, hd⟩ := Option.isSome_iff_exists.1 h2
  rw [hd] at h5
  simp only [apartT, hd, Bool.and_eq_true, Bool.not_eq_true', bne_iff_ne, ne_eq] at h1
  exact ⟨d, hd, h1.1.2, h1.1.1, fun q hq => by have := h1.2; rw [hq] at this; simpa using this, by simpa using h3, h4, by simpa using h5, h6⟩
section
variable {S : Nat → List TV → Res → Prop} {s t : TStep} {d : Nat}
theorem Pair.store (h : Pair s t d) : t.op.isStore = true ∨ ∃ q, t.dst = some q := by
  have := h.form
  unfold formOk at this
  cases hop : t.op <;> rw [hop] at this <;> simp only [Bool.and_eq_true] at this
  case store => exact .inl rfl
  case call => exact .inr (Option.isSome_iff_exists.1 this.1)
  case app => exact .inr (Option.isSome_iff_exists.1 this.1)
  case bslice => exact .inr (Option.isSome_iff_exists.1 this.1)
  case slice => exact .inr (Option.isSome_iff_exists.1 this.1)
  all_goals exact .inr (Option.isSome_iff_exists.1 this)
theorem Pair.stepS (h : Pair s t d) {st : St} {et : Eff} (ht : Touch t (restrict st.obj t.vk) et) {e : Eff} :
    StepE S s (wantedT (apply t.dst et st).env s.guard) ((apply t.dst et st).cnt (s.dst.getD 0)) (val (apply t.dst et st).env) (restrict (apply t.dst et st).obj s.vk) e ↔
    StepE S s (wantedT st.env s.guard) (st.cnt (s.dst.getD 0)) (val st.env) (restrict st.obj s.vk) e := by
  have hobj : (apply t.dst et st).obj = objEff t.dst (st.cnt (t.dst.getD 0)) et st.obj := by
    cases hd : t.dst with
    | none => rfl
    | some q => rw [apply_some]; rfl
  rw [hobj, blind_view h.blind ht]
  cases hd : t.dst with
  | none => exact Iff.rfl
  | some q =>
    obtain ⟨r1, r2⟩ := reads_opd (h.sreads q hd)
    have hq : d ≠ q := fun e => h.tdst (by rw [hd, e])
    rw [apply_some]
    simp only [h.dst, Option.getD_some, upd_ne _ _ hq, wantedT_upd r2]
    exact ⟨StepE.congr (fun x hx => val_upd (r1 x hx)) (.inl rfl), StepE.congr (fun x hx => (val_upd (r1 x hx)).symm) (.inl rfl)⟩
theorem Pair.stepT (h : Pair s t d) {st : St} {es : Eff} (hl : Light es) (hn : s.op.quiet = true → es.new = []) {e : Eff} :
    StepE S t (wantedT (apply (some d) es st).env t.guard) ((apply (some d) es st).cnt (t.dst.getD 0)) (val (apply (some d) es st).env) (restrict (apply (some d) es st).obj t.vk) e ↔
    StepE S t (wantedT st.env t.guard) (st.cnt (t.dst.getD 0)) (val st.env) (restrict st.obj t.vk) e := by
  obtain ⟨r1, r2⟩ := reads_opd h.treads
  rw [apply_some]
  simp only [wantedT_upd r2]
  rw [made_view hl (h.made.imp hn id)]
  have hc : upd st.cnt d (st.cnt d + es.new.length) (t.dst.getD 0) = st.cnt (t.dst.getD 0) ∨ t.op.isStore = true := by
    rcases h.store with hs | ⟨q, hq⟩
    · exact .inr hs
    · left
      rw [hq]
      exact upd_ne _ _ (fun e => h.tdst (by rw [hq]; exact congrArg some e))
  exact ⟨StepE.congr (fun x hx => val_upd (r1 x hx)) hc, StepE.congr (fun x hx => (val_upd (r1 x hx)).symm) (hc.imp Eq.symm id)⟩
theorem Pair.keys (h : Pair s t d) {ob : ObF} {et es : Eff} (ht : Touch t (restrict ob t.vk) et) (hn : s.op.quiet = true → es.new = []) : es.new = [] ∨ ((∀ p ∈ et.unsolo, p.1 ≠ d) ∧ ∀ m ∈ et.mods, m.1 ≠ d) := by
  rcases h.made with hq | hm
  · exact .inl (hn hq)
  · right
    have hid : ∀ g, restrict ob t.vk d g = none := fun g => by
      cases hvk : t.vk <;> rw [hvk] at hm <;> simp only [notMade] at hm
      case none => rfl
      case full => cases hm
      case box b => simp only [restrict]; rw [if_neg (by simp at hm; exact fun e => hm e.symm)]
      case rd forb => simp only [restrict, hm, if_true]
      case fb forb => simp only [restrict, hm, if_true]
    refine ⟨fun p hp e => ?_, fun m hm' e => ?_⟩
    · have := ht.unsolo p hp
      rw [e, hid] at this
      exact this rfl
    · obtain ⟨x, hx, _⟩ := ht.mods m hm'
      rw [e, hid] at hx
      cases hx
theorem Pair.comm1 (h : Pair s t d) {st st1 st2 : St} (h1 : Step1 S s st st1) (h2 : Step1 S t st1 st2) : ∃ st', Step1 S t st st' ∧ Step1 S s st' st2 := by
  rw [step1_iff] at h1 h2
  obtain ⟨es, e1, rfl⟩ := h1
  obtain ⟨et, e2, rfl⟩ := h2
  obtain ⟨hl, hn⟩ := light_of h.light e1
  rw [h.dst] at e2 ⊢
  rw [h.stepT hl hn] at e2
  have ht := touch e2
  refine ⟨apply t.dst et st, step1_iff.2 ⟨et, e2, rfl⟩, step1_iff.2 ⟨es, (h.stepS ht).2 e1, ?_⟩⟩
  rw [h.dst]
  exact apply_comm hl h.tdst (h.keys ht hn) st
theorem Pair.comm2 (h : Pair s t d) {st st1 st2 : St} (h1 : Step1 S t st st1) (h2 : Step1 S s st1 st2) : ∃ st', Step1 S s st st' ∧ Step1 S t st' st2 := by
  rw [step1_iff] at h1 h2
  obtain ⟨et, e1, rfl⟩ := h1
  obtain ⟨es, e2, rfl⟩ := h2
  have ht := touch e1
  have e3 := (h.stepS ht).1 e2
  obtain ⟨hl, hn⟩ := light_of h.light e3
  refine ⟨apply (some d) es st, step1_iff.2 ⟨es, e3, by rw [h.dst]⟩, step1_iff.2 ⟨et, (h.stepT hl hn).2 e1, ?_⟩⟩
  rw [h.dst]
  exact (apply_comm hl h.tdst (h.keys ht hn) st).symm
theorem okPair_comm {p q : TStep} (h : okPair p q = true) {st st1 st2 : St} (h1 : Step1 S p st st1) (h2 : Step1 S q st1 st2) : ∃ st', Step1 S q st st' ∧ Step1 S p st' st2 := by
  simp only [okPair, Bool.or_eq_true] at h
  rcases h with h | h
  · obtain ⟨d, hp⟩ := okLight_pair h
    exact hp.comm1 h1 h2
  · obtain ⟨d, hp⟩ := okLight_pair h
    exact hp.comm2 h1 h2
theorem front {q : TStep} : ∀ {pre post : List TStep} {st st' : St}, (∀ p ∈ pre, okPair p q = true) → RunOps S (pre ++ q :: post) st st' → RunOps S (q :: (pre ++ post)) st st'
  | [], post, st, st', _, h => h
  | p :: pre, post, st, st', hp, h => by
    obtain ⟨s1, h1, h2⟩ := h
    obtain ⟨s2, h3, h4⟩ := front (fun p' hp' => hp p' (List.mem_cons_of_mem _ hp')) h2
    obtain ⟨s3, h5, h6⟩ := okPair_comm (hp p List.mem_cons_self) h1 h3
    exact ⟨s3, h5, s2, h6, h4⟩
end
end Go.TM
end
section
namespace Go.TM
set_option linter.unusedVariables false
set_option linter.unusedSimpArgs false
theorem befs_spec : ∀ (l : List Oper) (acc : List (List Nat)), ∃ tail, befs l acc = acc ++ tail ∧ tail.length = l.length ∧ ∀ (j : Nat) (o : Oper), l[j]? = some o → ∀ q ∈ (befs l acc).getD (acc.length + j) [],
    ∃ e ∈ o.after.toList, Region.binds .any e = true ∧ (q = e.on ∨ (e.on < acc.length + j ∧ q ∈ (befs l acc).getD e.on []))
  | [], acc => ⟨[], by simp [befs], rfl, by simp⟩
  | o :: l, acc => by
    simp only [befs]
    generalize hx : (o.after.toList.flatMap fun e => if Region.binds .any e then e.on :: acc.getD e.on [] else []).eraseDups = x
    obtain ⟨tail, h1, h2, h3⟩ := befs_spec l (acc ++ [x])
    refine ⟨x :: tail, by rw [h1]; simp, by simp [h2], fun j o' hj q hq => ?_⟩
    cases j with
    | zero =>
      simp only [List.getElem?_cons_zero, Option.some.injEq] at hj
      subst hj
      have hget : (befs l (acc ++ [x])).getD (acc.length + 0) [] = x := by rw [h1]; simp [List.getD_eq_getElem?_getD]
      rw [hget, ← hx, List.mem_eraseDups, List.mem_flatMap] at hq
      obtain ⟨e, he, hq⟩ := hq
      split at hq
      · rename_i hb
        refine ⟨e, he, hb, ?_⟩
        rcases List.mem_cons.1 hq with rfl | hq
        · exact .inl rfl
        · right
          have hlt : e.on < acc.length := by
            rcases Nat.lt_or_ge e.on acc.length with h | h
            · exact h
            · simp [List.getD_eq_getElem?_getD, List.getElem?_eq_none h] at hq
          refine ⟨by omega, ?_⟩
          rw [h1]
          simpa [List.getD_eq_getElem?_getD, List.getElem?_append_left hlt, List.append_assoc] using hq
      · simp at hq
    | succ j =>
      have := h3 j o' (by simpa using hj) q (by simpa [Nat.add_assoc, Nat.add_comm 1] using hq)
      simpa [Nat.add_assoc, Nat.add_comm 1] using this
theorem befs_len (l : List Oper) (acc : List (List Nat)) : (befs l acc).length = acc.length + l.length := by
  obtain ⟨tail, h1, h2, _⟩ := befs_spec l acc
  rw [h1]; simp [h2]
section
variable {P : Program} {C : Ctx}
def restOf (n : Nat) (listed : Array Bool) : List Nat := (List.range n).filter fun i => !listed.getD i true
theorem any_sim {hh : Nat → Nat × List Nat} {ops : Array Oper} {Q : Exit → Act → World → Prop} {L : List TStep} (hn : L.length = ops.size) (hL : ∀ (i : Nat) (o : TStep), L[i]? = some o → ∃ oper, ops[i]? = some oper ∧ Spec P hh C.n ops oper o)
    (hdown : ∀ (i : Nat) (oper : Oper), ops[i]? = some oper → ∀ e ∈ oper.after.toList, Region.binds .any e = true → e.on < i)
    (hord : orderOk (befs ops.toList []) L = true) {st' : St} (hQ : ∀ ρ' I' w' a', Rel C ρ' I' w' a' st' → Q .normal a' w') :
    ∀ (fuel : Nat) (listed : Array Bool) {ρ : Nat → Nat → Loc} {I : Nat → Nat → Prop} {w : World} {a : Act} {st : St}, listed.size = ops.size → (restOf ops.size listed).length = fuel →
      (∀ (i : Nat) (oper : Oper), listed.getD i false = true → ops[i]? = some oper → ∀ e ∈ oper.after.toList, Region.binds .any e = true → listed.getD e.on false = true) →
      Rel C ρ I w a st → RunOps (Sound P) ((restOf ops.size listed).filterMap (L[·]?)) st st' → wpAny P .any ops Q fuel listed a w := by
  have befOk : ∀ (listed : Array Bool), (∀ (i : Nat) (oper : Oper), listed.getD i false = true → ops[i]? = some oper → ∀ e ∈ oper.after.toList, Region.binds .any e = true → listed.getD e.on false = true) →
      ∀ (i : Nat) (oper : Oper), ops[i]? = some oper → (∀ e ∈ oper.after.toList, Region.binds .any e = true → listed.getD e.on false = true) → ∀ q ∈ (befs ops.toList []).getD i [], listed.getD q false = true := by
    intro listed hcl i
    induction i using Nat.strongRecOn with
    | _ i ih =>
      intro oper ho he q hq
      obtain ⟨_, _, _, h3⟩ := befs_spec ops.toList []
      obtain ⟨e, he1, he2, hcase⟩ := h3 i oper (by simpa using ho) q (by simpa using hq)
      rcases hcase with rfl | ⟨hlt, hq⟩
      · exact he e he1 he2
      · simp only [List.length_nil, Nat.zero_add] at hlt
        have hsz : i < ops.size := by
          rcases Nat.lt_or_ge i ops.size with h | h
          · exact h
          · simp [Array.getElem?_eq_none h] at ho
        have hon : ops[e.on]? = some ops[e.on] := Array.getElem?_eq_getElem (by omega)
        exact ih e.on hlt _ hon (hcl _ _ (he e he1 he2) hon) q hq
  have ready : ∀ (listed : Array Bool) (i : Nat), i ∈ Region.ready .any ops listed ↔ i ∈ restOf ops.size listed ∧ ∃ oper, ops[i]? = some oper ∧ ∀ e ∈ oper.after.toList, Region.binds .any e = true → listed.getD e.on false = true := by
    intro listed i
    simp only [Region.ready, restOf, List.mem_filter, Bool.and_eq_true]
    constructor
    · rintro ⟨h1, h2, h3⟩
      refine ⟨⟨h1, h2⟩, ?_⟩
      cases ho : ops[i]? with
      | none => simp [ho] at h3
      | some oper =>
        refine ⟨oper, rfl, fun e he hb => ?_⟩
        simp only [ho, Option.map_some, Option.getD_some, Array.all_eq_true_iff_forall_mem] at h3
        have := h3 e (Array.mem_toList_iff.1 he)
        simpa [hb] using this
    · rintro ⟨⟨h1, h2⟩, oper, ho, h3⟩
      refine ⟨h1, h2, ?_⟩
      simp only [ho, Option.map_some, Option.getD_some, Array.all_eq_true_iff_forall_mem]
      intro e he
      cases hb : Region.binds .any e with
      | false => simp
      | true => simp [h3 e (Array.mem_toList_iff.2 he) hb]
  intro fuel
  induction fuel with
  | zero =>
    intro listed ρ I w a st hsz hlen hcl h hr
    have hnil : restOf ops.size listed = [] := List.eq_nil_of_length_eq_zero hlen
    rw [hnil] at hr
    simp only [List.filterMap_nil, RunOps] at hr
    subst hr
    refine ⟨?_, hQ _ _ _ _ h⟩
    rw [List.eq_nil_iff_forall_not_mem]
    intro i hi
    have := ((ready listed i).1 hi).1
    rw [hnil] at this; simp at this
  | succ fuel ih =>
    intro listed ρ I w a st hsz hlen hcl h hr
    refine ⟨fun hnil => ?_, fun i hi => ?_⟩
    · exfalso
      cases hrest : restOf ops.size listed with
      | nil => rw [hrest] at hlen; simp at hlen
      | cons i tl =>
        have hmem : i ∈ restOf ops.size listed := by rw [hrest]; exact List.mem_cons_self
        have hi : i < ops.size := by
          simp only [restOf, List.mem_filter, List.mem_range] at hmem; exact hmem.1
        have hfirst : ∀ j, j < i → listed.getD j false = true := fun j hj => by
          rcases Bool.eq_false_or_eq_true (listed.getD j false) with h | h
          · exact h
          · exfalso
            have hjm : j ∈ restOf ops.size listed := by
              simp only [restOf, List.mem_filter, List.mem_range]
              refine ⟨by omega, ?_⟩
              have hjl : j < listed.size := by omega
              rw [Array.getD_eq_getD_getElem?, Array.getElem?_eq_getElem hjl] at h ⊢
              simp only [Option.getD_some] at h ⊢
              simp [h]
            rw [hrest] at hjm
            have hsorted : (restOf ops.size listed).Pairwise (· < ·) := List.Pairwise.filter _ List.pairwise_lt_range
            rw [hrest, List.pairwise_cons] at hsorted
            rcases List.mem_cons.1 hjm with rfl | hjm
            · omega
            · have := hsorted.1 j hjm; omega
        have : i ∈ Region.ready .any ops listed := (ready listed i).2 ⟨hmem, ops[i], Array.getElem?_eq_getElem hi, fun e he hb => hfirst _ (hdown i _ (Array.getElem?_eq_getElem hi) e he hb)⟩
        rw [hnil] at this; simp at this
    · obtain ⟨hmem, oper, ho, hed⟩ := (ready listed i).1 hi
      obtain ⟨pre, post, hsplit⟩ := List.append_of_mem hmem
      have hi' : i < ops.size := by
        simp only [restOf, List.mem_filter, List.mem_range] at hmem; exact hmem.1
      have hLi : L[i]? = some L[i] := List.getElem?_eq_getElem (by omega)
      have hsorted : (restOf ops.size listed).Pairwise (· < ·) := List.Pairwise.filter _ List.pairwise_lt_range
      rw [hsplit] at hr hsorted
      rw [List.filterMap_append, List.filterMap_cons, hLi] at hr
      obtain ⟨_, hs2, hs3⟩ := List.pairwise_append.1 hsorted
      have hfront := front (S := Sound P) (fun p hp => by
        obtain ⟨j, hj, hjp⟩ := List.mem_filterMap.1 hp
        have hji : j < i := hs3 j hj i List.mem_cons_self
        have hjn : j < L.length := by omega
        simp only [orderOk, List.all_eq_true] at hord
        have h1 := hord (L[i], i) (by rw [List.mem_zipIdx_iff_getElem?]; exact hLi) (p, j) (by rw [List.mem_zipIdx_iff_getElem?]; exact hjp)
        simp only [Bool.or_eq_true, Bool.not_eq_true', decide_eq_false_iff_not] at h1
        rcases h1 with (h1 | h1) | h1
        · omega
        · exfalso
          have hb := befOk listed hcl i oper ho hed j (by simpa using h1)
          have hjm : j ∈ restOf ops.size listed := by rw [hsplit]; exact List.mem_append_left _ hj
          simp only [restOf, List.mem_filter, List.mem_range] at hjm
          have hjl : j < listed.size := by omega
          rw [Array.getD_eq_getD_getElem?, Array.getElem?_eq_getElem hjl, Option.getD_some] at hb hjm
          rw [hb] at hjm
          simp at hjm
        · exact h1) hr
      obtain ⟨st1, hstep, hrest⟩ := hfront
      obtain ⟨oper', ho', hspec⟩ := hL i _ hLi
      refine step_sim h ho' hspec hstep fun ρ' I' w' a' h' => ?_
      have hnew : restOf ops.size (listed.setIfInBounds i true) = pre ++ post := by
        have e1 : restOf ops.size (listed.setIfInBounds i true) = (restOf ops.size listed).filter (· != i) := by
          simp only [restOf, List.filter_filter]
          refine List.filter_congr fun j hj => ?_
          have hjn : j < ops.size := List.mem_range.1 hj
          have hjl : j < listed.size := by omega
          simp only [Array.getD_eq_getD_getElem?, Array.getElem?_setIfInBounds]
          by_cases e : j = i
          · subst e; simp [hjl]
          · have e' : ¬ i = j := fun x => e x.symm
            simp [e, e']
        rw [e1, hsplit, List.filter_append, List.filter_cons]
        simp only [bne_self_eq_false, Bool.false_eq_true, if_false]
        rw [List.filter_eq_self.2 fun j hj => by have := hs3 j hj i List.mem_cons_self; simp; omega, List.filter_eq_self.2 fun j hj => by have := (List.pairwise_cons.1 hs2).1 j hj; simp; omega]
      refine ih (listed.setIfInBounds i true) (by simpa using hsz) ?_ ?_ h' (by rw [hnew, List.filterMap_append]; exact hrest)
      · rw [hnew]
        rw [hsplit] at hlen
        simp at hlen ⊢
        omega
      · intro j oj hj hoj e he hb
        have grow : ∀ q, listed.getD q false = true → (listed.setIfInBounds i true).getD q false = true := fun q hq => by
          rw [Array.getD_eq_getD_getElem?] at hq ⊢
          have hql : q < listed.size := by
            rcases Nat.lt_or_ge q listed.size with h | h
            · exact h
            · simp [Array.getElem?_eq_none h] at hq
          rw [Array.getElem?_setIfInBounds]
          split
          · rename_i e; subst e; simp [hql]
          · exact hq
        by_cases e' : j = i
        · subst e'
          rw [ho] at hoj
          cases hoj
          exact grow _ (hed e he hb)
        · refine grow _ (hcl j oj ?_ hoj e he hb)
          have e'' : ¬ i = j := fun x => e' x.symm
          rw [Array.getD_eq_getD_getElem?, Array.getElem?_setIfInBounds, if_neg e''] at hj
          rw [Array.getD_eq_getD_getElem?]
          exact hj
end
end Go.TM
end
section
namespace Go.TM
set_option linter.unusedVariables false
set_option linter.unusedSimpArgs false
inductive Exec (S : Nat → List TV → Res → Prop) : TCode → St → Ex → St → Prop where
  | skip {st} : Exec S .skip st .norm st
  | reg {ops st st'} : RunOps S ops st st' → Exec S (.reg ops) st .norm st'
  | seqN {a b st s1 e s2} : Exec S a st .norm s1 → Exec S b s1 e s2 → Exec S (.seq a b) st e s2
  | seqE {a b st e s1} : e ≠ .norm → Exec S a st e s1 → Exec S (.seq a b) st e s1
  | condT {x a b st e s} : val st.env x = .bool true → Exec S a st e s → Exec S (.cond x a b) st e s
  | condF {x a b st e s} : val st.env x = .bool false → Exec S b st e s → Exec S (.cond x a b) st e s
  | block {id a st e s} : Exec S a st e s → Exec S (.block id a) st (if e = .exit id then .norm else e) s
  | loopN {a st s1 e s2} : Exec S a st .norm s1 → Exec S (.loop a) s1 e s2 → Exec S (.loop a) st e s2
  | loopE {a st e s1} : e ≠ .norm → Exec S a st e s1 → Exec S (.loop a) st e s1
  | exit {id st} : Exec S (.exit id) st (.exit id) st
  | ret {st} : Exec S .ret st .ret st
def Ex.to : Ex → Exit
  | .norm => .normal
  | .exit id => .exit id
  | .ret => .ret
theorem filterMap_range {α : Type} (l : List α) : (List.range l.length).filterMap (fun x => l[x]?) = l := by
  refine List.ext_getElem? fun i => ?_
  have : ∀ n, n ≤ l.length → (List.range n).filterMap (fun x => l[x]?) = l.take n := by
    intro n
    induction n with
    | zero => simp
    | succ n ih =>
      intro hn
      rw [List.range_succ, List.filterMap_append, ih (by omega), List.take_add_one]
      congr 1
  rw [this l.length (Nat.le_refl _), List.take_length]
section
variable {P : Program} {C : Ctx}
def LoopFrom (P : Program) (c : Code) (Q : Exit → Act → World → Prop) (a : Act) (w : World) : Prop :=
  ∀ (b : Frame) (k : List Item) (cs : List Frame), ∃ e a' w', Q e a' w' ∧ Arrives P (lone (b.at a (.code c :: .inLoop c :: k)) cs w) b k cs e a' w'
theorem LoopFrom.wp {c : Code} {Q : Exit → Act → World → Prop} {a : Act} {w : World} (h : LoopFrom P c Q a w) : (Code.loop c).wp P Q a w := fun b k cs => by
  obtain ⟨e, a', w', hq, harr⟩ := h b k cs
  exact ⟨e, a', w', hq, .of_steps (.one step_loop) harr⟩
theorem compReg_spec {hh : Nat → Nat × List Nat} {n : Nat} {ops : Array Oper} {draw : Bool} {L : List TStep} (h : compReg P hh n ops draw = some L) :
    L.length = ops.size ∧ (∀ (i : Nat) (o : TStep), L[i]? = some o → ∃ oper, ops[i]? = some oper ∧ Spec P hh n ops oper o) ∧
    (draw = true → (∀ (i : Nat) (oper : Oper), ops[i]? = some oper → ∀ e ∈ oper.after.toList, Region.binds .any e = true → e.on < i) ∧ orderOk (befs ops.toList []) L = true) := by
  unfold compReg at h
  split at h
  · cases h
  · rename_i l hl
    obtain ⟨h1, h2⟩ := stepsOf_spec hl
    split at h
    · rename_i hslot
      have spec : ∀ (f : (Option Nat × TOp × Option (Nat × Bool)) × Nat → TStep), (∀ p, (f p).dst = p.1.1 ∧ (f p).op = p.1.2.1 ∧ (f p).guard = p.1.2.2) → ∀ (i : Nat) (o : TStep), (l.zipIdx.map f)[i]? = some o → ∃ oper, ops[i]? = some oper ∧ Spec P hh n ops oper o := fun f hf i o ho => by
        rw [List.getElem?_map, Option.map_eq_some_iff] at ho
        obtain ⟨⟨p, j⟩, hp, rfl⟩ := ho
        rw [List.getElem?_zipIdx, Option.map_eq_some_iff] at hp
        obtain ⟨p', hp, he⟩ := hp
        cases he
        obtain ⟨oper, g1, g2, g3, g4⟩ := h2 i p hp
        obtain ⟨f1, f2, f3⟩ := hf (p, 0 + i)
        refine ⟨oper, by simpa using g1, f1.trans g2, by rw [f2]; exact g3, by rw [f3]; exact g4, ?_⟩
        rw [f1, f2]
        exact List.all_eq_true.1 hslot p (List.mem_of_getElem? hp)
      split at h
      · rename_i hdraw
        simp only at h
        split at h <;> cases h
        rename_i hcond
        simp only [Bool.and_eq_true] at hcond
        refine ⟨by simp [h1], spec _ (fun p => ⟨rfl, rfl, rfl⟩), fun _ => ⟨fun i oper ho e he hb => ?_, hcond.2⟩⟩
        have := List.all_eq_true.1 hcond.1 (oper, i) (by rw [List.mem_zipIdx_iff_getElem?]; simpa using ho)
        simp only [Array.all_eq_true_iff_forall_mem] at this
        have := this e (Array.mem_toList_iff.1 he)
        simpa [hb] using this
      · rename_i hdraw
        cases h
        refine ⟨by simp [h1], fun i o ho => ?_, fun hd => absurd hd hdraw⟩
        refine spec (fun p => { dst := p.1.1, op := p.1.2.1, guard := p.1.2.2, vk := .full }) (fun p => ⟨rfl, rfl, rfl⟩) i o ?_
        rw [List.getElem?_map] at ho ⊢
        rw [List.getElem?_zipIdx, Option.map_map]
        exact ho
    · cases h
theorem exec_sim (hmix : P.follows .mixedOrders = true) {hh : Nat → Nat × List Nat} {tc : TCode} {st st' : St} {e : Ex} (hx : Exec (Sound P) tc st e st') :
    (∀ (c : Code) (ρ : Nat → Nat → Loc) (I : Nat → Nat → Prop) (w : World) (a : Act) (Q : Exit → Act → World → Prop), compC P hh C.n c = some tc → Rel C ρ I w a st → (∀ ρ' I' w' a', Rel C ρ' I' w' a' st' → Q e.to a' w') → c.wp P Q a w) ∧
    (∀ (tb : TCode) (c : Code) (ρ : Nat → Nat → Loc) (I : Nat → Nat → Prop) (w : World) (a : Act) (Q : Exit → Act → World → Prop), tc = .loop tb → compC P hh C.n c = some tb → Rel C ρ I w a st → (∀ ρ' I' w' a', Rel C ρ' I' w' a' st' → Q e.to a' w') → LoopFrom P c Q a w) := by
  induction hx with
  | @skip st =>
    refine ⟨fun c ρ I w a Q hc h hQ => ?_, fun tb c ρ I w a Q ht => by cases ht⟩
    cases c <;> simp only [compC] at hc
    case skip => exact wp_skip (hQ _ _ _ _ h)
    all_goals first | (cases hc; done) | (simp [Option.map_eq_some_iff] at hc; done) | (split at hc <;> cases hc)
  | @reg ops st st' hr =>
    refine ⟨fun c ρ I w a Q hc h hQ => ?_, fun tb c ρ I w a Q ht => by cases ht⟩
    cases c <;> simp only [compC] at hc
    case region id ops' draw =>
      rw [Option.map_eq_some_iff] at hc
      obtain ⟨L, hL, hc⟩ := hc
      cases hc
      obtain ⟨h1, h2, h3⟩ := compReg_spec hL
      cases draw with
      | false =>
        refine wp_region ?_
        rw [List.range_eq_range']
        exact ops_sim ops h2 hQ ops'.size 0 (by omega) h (by simpa using hr)
      | true =>
        obtain ⟨h4, h5⟩ := h3 rfl
        refine wp_region_any hmix ?_
        have hrest : restOf ops'.size (Array.replicate ops'.size false) = List.range ops'.size := by
          simp only [restOf]
          refine List.filter_eq_self.2 fun i hi => ?_
          have := List.mem_range.1 hi
          rw [Array.getD_eq_getD_getElem?]
          simp [this]
        refine any_sim h1 h2 h4 h5 hQ ops'.size (Array.replicate ops'.size false) (by simp) (by rw [hrest]; simp) (fun i oper hi => ?_) (h.drawn _) ?_
        · rw [Array.getD_eq_getD_getElem?] at hi
          by_cases hlt : i < ops'.size
          · simp [hlt] at hi
          · simp [hlt] at hi
        · rw [hrest, ← h1]
          rw [filterMap_range]
          exact hr
    all_goals first | (cases hc; done) | (simp [Option.map_eq_some_iff] at hc; done) | (split at hc <;> cases hc)
  | @seqN x y st s1 e s2 _ _ ih1 ih2 =>
    refine ⟨fun c ρ I w a Q hc h hQ => ?_, fun tb c ρ I w a Q ht => by cases ht⟩
    cases c <;> simp only [compC] at hc
    case seq c1 c2 =>
      split at hc <;> cases hc
      rename_i h1 h2
      exact wp_seq (ih1.1 _ ρ I w a _ h1 h fun ρ' I' w' a' h' => ih2.1 _ ρ' I' w' a' _ h2 h' hQ)
    all_goals first | (cases hc; done) | (simp [Option.map_eq_some_iff] at hc; done) | (split at hc <;> cases hc)
  | @seqE x y st e s1 hne _ ih =>
    refine ⟨fun c ρ I w a Q hc h hQ => ?_, fun tb c ρ I w a Q ht => by cases ht⟩
    cases c <;> simp only [compC] at hc
    case seq c1 c2 =>
      split at hc <;> cases hc
      rename_i h1 h2
      refine wp_seq (ih.1 _ ρ I w a _ h1 h fun ρ' I' w' a' h' => ?_)
      have := hQ _ _ _ _ h'
      cases e <;> first | exact absurd rfl hne | exact this
    all_goals first | (cases hc; done) | (simp [Option.map_eq_some_iff] at hc; done) | (split at hc <;> cases hc)
  | @condT x y z st e s hx _ ih =>
    refine ⟨fun c ρ I w a Q hc h hQ => ?_, fun tb c ρ I w a Q ht => by cases ht⟩
    cases c <;> simp only [compC] at hc
    case cond c0 c1 c2 =>
      split at hc <;> cases hc
      rename_i h0 h1 h2
      have hv := h.opd h0
      rw [hx] at hv
      exact wp_cond_true (ve_bool hv) (ih.1 _ ρ I w a _ h1 h hQ)
    all_goals first | (cases hc; done) | (simp [Option.map_eq_some_iff] at hc; done) | (split at hc <;> cases hc)
  | @condF x y z st e s hx _ ih =>
    refine ⟨fun c ρ I w a Q hc h hQ => ?_, fun tb c ρ I w a Q ht => by cases ht⟩
    cases c <;> simp only [compC] at hc
    case cond c0 c1 c2 =>
      split at hc <;> cases hc
      rename_i h0 h1 h2
      have hv := h.opd h0
      rw [hx] at hv
      exact wp_cond_false (ve_bool hv) (ih.1 _ ρ I w a _ h2 h hQ)
    all_goals first | (cases hc; done) | (simp [Option.map_eq_some_iff] at hc; done) | (split at hc <;> cases hc)
  | @block id x st e s _ ih =>
    refine ⟨fun c ρ I w a Q hc h hQ => ?_, fun tb c ρ I w a Q ht => by cases ht⟩
    cases c <;> simp only [compC] at hc
    case block id' c1 =>
      rw [Option.map_eq_some_iff] at hc
      obtain ⟨t, h1, hc⟩ := hc
      cases hc
      refine wp_block (ih.1 _ ρ I w a _ h1 h fun ρ' I' w' a' h' => ?_)
      have := hQ _ _ _ _ h'
      cases e with
      | norm => simpa [Exit.inBlock, Ex.to] using this
      | ret => simpa [Exit.inBlock, Ex.to] using this
      | exit j =>
        simp only [Ex.exit.injEq] at this
        simp only [Ex.to, Exit.inBlock]
        split
        · rename_i e; rw [if_pos e] at this; exact this
        · rename_i e; rw [if_neg e] at this; exact this
    all_goals first | (cases hc; done) | (simp [Option.map_eq_some_iff] at hc; done) | (split at hc <;> cases hc)
  | @loopN x st s1 e s2 _ _ ih1 ih2 =>
    have key : ∀ (tb : TCode) (c : Code) (ρ : Nat → Nat → Loc) (I : Nat → Nat → Prop) (w : World) (a : Act) (Q : Exit → Act → World → Prop), TCode.loop x = .loop tb → compC P hh C.n c = some tb → Rel C ρ I w a st → (∀ ρ' I' w' a', Rel C ρ' I' w' a' s2 → Q e.to a' w') → LoopFrom P c Q a w := fun tb c ρ I w a Q ht hc h hQ b k cs => by
      cases ht
      obtain ⟨e1, a1, w1, ⟨he, ρ1, I1, h1⟩, harr⟩ := ih1.1 c ρ I w a (fun e1 a1 w1 => e1 = .normal ∧ ∃ ρ' I', Rel C ρ' I' w1 a1 s1) hc h (fun ρ' I' w' a' h' => ⟨rfl, ρ', I', h'⟩) b (.inLoop c :: k) cs
      subst he
      obtain ⟨e2, a2, w2, hq, harr2⟩ := ih2.2 x c ρ1 I1 w1 a1 Q rfl hc h1 hQ b k cs
      exact ⟨e2, a2, w2, hq, .of_steps (Steps.trans harr (.one step_inLoop)) harr2⟩
    refine ⟨fun c ρ I w a Q hc h hQ => ?_, key⟩
    cases c <;> simp only [compC] at hc
    case loop c1 =>
      rw [Option.map_eq_some_iff] at hc
      obtain ⟨t, h1, hc⟩ := hc
      exact (key t c1 ρ I w a Q hc.symm h1 h hQ).wp
    all_goals first | (cases hc; done) | (simp [Option.map_eq_some_iff] at hc; done) | (split at hc <;> cases hc)
  | @loopE x st e s1 hne _ ih =>
    have key : ∀ (tb : TCode) (c : Code) (ρ : Nat → Nat → Loc) (I : Nat → Nat → Prop) (w : World) (a : Act) (Q : Exit → Act → World → Prop), TCode.loop x = .loop tb → compC P hh C.n c = some tb → Rel C ρ I w a st → (∀ ρ' I' w' a', Rel C ρ' I' w' a' s1 → Q e.to a' w') → LoopFrom P c Q a w := fun tb c ρ I w a Q ht hc h hQ b k cs => by
      cases ht
      obtain ⟨e1, a1, w1, ⟨he, hq⟩, harr⟩ := ih.1 c ρ I w a (fun e1 a1 w1 => e1 = e.to ∧ Q e1 a1 w1) hc h (fun ρ' I' w' a' h' => ⟨rfl, hQ _ _ _ _ h'⟩) b (.inLoop c :: k) cs
      subst he
      refine ⟨_, a1, w1, hq, .pass (x := .inLoop c) rfl (fun _ _ => .inl ?_) harr⟩
      cases e <;> first | exact absurd rfl hne | (simp [Ex.to])
    refine ⟨fun c ρ I w a Q hc h hQ => ?_, key⟩
    cases c <;> simp only [compC] at hc
    case loop c1 =>
      rw [Option.map_eq_some_iff] at hc
      obtain ⟨t, h1, hc⟩ := hc
      exact (key t c1 ρ I w a Q hc.symm h1 h hQ).wp
    all_goals first | (cases hc; done) | (simp [Option.map_eq_some_iff] at hc; done) | (split at hc <;> cases hc)
  | @exit id st =>
    refine ⟨fun c ρ I w a Q hc h hQ => ?_, fun tb c ρ I w a Q ht => by cases ht⟩
    cases c <;> simp only [compC] at hc
    case exit j => cases hc; exact wp_exit (hQ _ _ _ _ h)
    all_goals first | (cases hc; done) | (simp [Option.map_eq_some_iff] at hc; done) | (split at hc <;> cases hc)
  | @ret st =>
    refine ⟨fun c ρ I w a Q hc h hQ => ?_, fun tb c ρ I w a Q ht => by cases ht⟩
    cases c <;> simp only [compC] at hc
    case ret => exact wp_ret (hQ _ _ _ _ h)
    all_goals first | (cases hc; done) | (simp [Option.map_eq_some_iff] at hc; done) | (split at hc <;> cases hc)
end
end Go.TM
end
section
namespace Go.TM
set_option linter.unusedVariables false
set_option linter.unusedSimpArgs false
section
variable {P : Program} {C : Ctx} {ρ : Nat → Nat → Loc} {I : Nat → Nat → Prop} {w : World} {a : Act} {st : St}
theorem args_get {I0 : Nat → Nat → Prop} {w : World} {lent : Nat → Option Loc} : ∀ {i : Nat} {vs : List Value} {ts : List TV}, ArgsOk I0 w lent i vs ts → vs.length = ts.length ∧ ∀ j t, ts[j]? = some t → ∃ v, vs[j]? = some v ∧ ArgAt I0 w (lent (i + j)) v t := by
  intro i vs ts h
  induction h with
  | nil => exact ⟨rfl, by simp⟩
  | @cons i v t vs ts h1 _ ih =>
    refine ⟨by simp [ih.1], fun j t' hj => ?_⟩
    cases j with
    | zero => simp at hj; subst hj; exact ⟨v, rfl, h1⟩
    | succ j =>
      obtain ⟨v', g1, g2⟩ := ih.2 j t' (by simpa using hj)
      exact ⟨v', by simpa using g1, by rw [show i + (j + 1) = i + 1 + j by omega]; exact g2⟩
def entry (i : Nat) : TV → TV
  | .own e xs => .hs i 0 e xs.length
  | v => v
theorem initEnv_get : ∀ (ts : List TV) (i s : Nat), initEnv i ts s = if i ≤ s then (match ts[s - i]? with | some t => entry s t | none => .undef) else .undef
  | [], i, s => by simp [initEnv]
  | t :: ts, i, s => by
    simp only [initEnv]
    by_cases e : s = i
    · subst e
      simp only [if_true, Nat.le_refl, Nat.sub_self, List.getElem?_cons_zero]
      cases t <;> rfl
    · rw [if_neg e, initEnv_get ts (i + 1) s]
      by_cases h : i ≤ s
      · rw [if_pos h, if_pos (by omega), show s - i = (s - (i + 1)) + 1 by omega, List.getElem?_cons_succ]
      · rw [if_neg h, if_neg (by omega)]
theorem initObj_get : ∀ (ts : List TV) (i k g : Nat) (o : Obj), initObj i ts k g = some o → g = 0 ∧ i ≤ k ∧ ∃ e xs, ts[k - i]? = some (.own e xs) ∧ o = rowObj e xs
  | [], i, k, g, o, h => by simp [initObj] at h
  | t :: ts, i, k, g, o, h => by
    have next : ∀ h : initObj (i + 1) ts k g = some o, g = 0 ∧ i ≤ k ∧ ∃ e xs, (t :: ts)[k - i]? = some (.own e xs) ∧ o = rowObj e xs := fun h => by
      obtain ⟨h1, h2, e, xs, h3, h4⟩ := initObj_get ts (i + 1) k g o h
      exact ⟨h1, by omega, e, xs, by rw [show k - i = (k - (i + 1)) + 1 by omega, List.getElem?_cons_succ]; exact h3, h4⟩
    cases t
    case own e xs =>
      simp only [initObj] at h
      by_cases he : k = i ∧ g = 0
      · obtain ⟨rfl, rfl⟩ := he
        rw [updO_same] at h
        cases h
        exact ⟨rfl, Nat.le_refl _, e, xs, by simp, rfl⟩
      · rw [updO_ne _ _ he] at h
        exact next h
    all_goals exact next h
theorem initCnt_get : ∀ (ts : List TV) (i k : Nat) (e : Nat) (xs : Cont), i ≤ k → ts[k - i]? = some (.own e xs) → initCnt i ts k = 1
  | [], i, k, e, xs, _, h => by simp at h
  | t :: ts, i, k, e, xs, hle, h => by
    by_cases he : k = i
    · subst he
      simp at h; subst h
      simp [initCnt]
    · have h' : initCnt (i + 1) ts k = 1 := initCnt_get ts (i + 1) k e xs (by omega) (by rw [show k - i = (k - (i + 1)) + 1 by omega, List.getElem?_cons_succ] at h; exact h)
      cases t <;> simp only [initCnt] <;> first | exact h' | (rw [upd_ne _ _ he]; exact h')
theorem init_rel {F : Nat} {I0 : Nat → Nat → Prop} {w : World} {lent : Nat → Option Loc} {vals : Array Value} {args : List TV} (h : Enter I0 w lent vals args) (hn : args.length ≤ F) :
    Rel { P := P, n := F, w0 := w, I0 := I0, lent := lent } (fun k _ => (lent k).getD ⟨0, 0, 0⟩) I0 w { tmps := vals ++ Array.replicate (F - vals.size) undef, defers := [] } (initSt args) := by
  obtain ⟨hl, hget⟩ := args_get h.ok
  have hvl : vals.size = args.length := by simpa using hl
  have own : ∀ k e xs, args[k]? = some (.own e xs) → ∃ l, lent k = some l ∧ vals[k]? = some (.slice (some ⟨l.blk, 0, none⟩) xs.length l.cap) ∧ OwnRow I0 w l e xs := fun k e xs hk => by
    obtain ⟨v, g1, g2⟩ := hget k _ hk
    rw [Nat.zero_add] at g2
    obtain ⟨l, g3, rfl, g4⟩ := g2
    exact ⟨l, g3, by simpa using g1, g4⟩
  have obj : ∀ k g o, initObj 0 args k g = some o → ∃ e xs l, g = 0 ∧ o = rowObj e xs ∧ args[k]? = some (.own e xs) ∧ lent k = some l ∧ OwnRow I0 w l e xs := fun k g o hk => by
    obtain ⟨h1, _, e, xs, h3, h4⟩ := initObj_get args 0 k g o hk
    rw [Nat.sub_zero] at h3
    obtain ⟨l, q1, _, q2⟩ := own k e xs h3
    exact ⟨e, xs, l, h1, h4, h3, q1, q2⟩
  exact {
    defers := rfl
    size := by simp [hvl]; omega
    fr := ⟨rfl, rfl, rfl, Nat.le_refl _, fun _ _ _ => rfl⟩
    I0 := fun _ _ h => h, Iin := h.Iin, Isub := fun _ _ h => .inl h
    env := fun s => by
      show VE I0 w _ (initCnt 0 args) _ (initEnv 0 args s)
      rw [initEnv_get args 0 s, if_pos (Nat.zero_le _), Nat.sub_zero]
      cases hs : args[s]? with
      | none => exact VE.undef
      | some t =>
        obtain ⟨v, g1, g2⟩ := hget s t hs
        rw [Nat.zero_add] at g2
        have hval : (vals ++ Array.replicate (F - vals.size) undef).getD s undef = v := by
          have hlt : s < vals.size := by
            obtain ⟨hlt, _⟩ := List.getElem?_eq_some_iff.1 hs
            omega
          rw [Array.getD_eq_getD_getElem?, Array.getElem?_append_left hlt]
          have : vals[s]? = some v := by simpa using g1
          rw [this]; rfl
        rw [hval]
        by_cases ho : ∃ e xs, t = .own e xs
        · obtain ⟨e, xs, rfl⟩ := ho
          obtain ⟨l, g3, rfl, g4⟩ := g2
          refine ⟨by rw [initCnt_get args 0 s e xs (Nat.zero_le _) (by rw [Nat.sub_zero]; exact hs)]; omega, by simp only [g3, Option.getD_some]; exact g4.esz, by simp only [g3, Option.getD_some], by simp only [g3, Option.getD_some]; exact g4.cap⟩
        · have : lent s = none ∧ TA I0 w v t := by
            cases t <;> first | exact g2 | exact absurd ⟨_, _, rfl⟩ ho
          have he : entry s t = t := by
            cases t <;> first | rfl | exact absurd ⟨_, _, rfl⟩ ho
          show VE I0 w _ _ v (entry s t)
          rw [he]
          exact VE.of_va (VA.of_ta this.2)
    obj := fun k g o hk => by
      obtain ⟨e, xs, l, rfl, rfl, _, hl, hrow⟩ := obj k g o hk
      simp only [hl, Option.getD_some]
      exact ⟨hrow.row rfl rfl rfl rfl, .inr ⟨k, l, hl, rfl⟩⟩
    sep := {
      box := fun k g o hk hb => by obtain ⟨e, xs, l, rfl, rfl, _, hl, hrow⟩ := obj k g o hk; cases hb
      soloI := fun k g o hk _ off => by
        obtain ⟨e, xs, l, rfl, rfl, _, hl, hrow⟩ := obj k g o hk
        simp only [hl, Option.getD_some]
        exact h.lentI k l hl off
      solo := fun k g o hk _ k' g' o' hk' hb => by
        obtain ⟨e, xs, l, rfl, rfl, _, hl, hrow⟩ := obj k g o hk
        obtain ⟨e', xs', l', rfl, rfl, _, hl', hrow'⟩ := obj k' g' o' hk'
        simp only [hl, hl', Option.getD_some] at hb
        exact ⟨h.lent1 k' k l' l hl' hl hb, rfl⟩
      tipI := fun k g o hk _ off _ => by
        obtain ⟨e, xs, l, rfl, rfl, _, hl, hrow⟩ := obj k g o hk
        simp only [hl, Option.getD_some]
        exact h.lentI k l hl off
      tip := fun k g o hk _ k' g' o' hk' hb => by
        obtain ⟨e, xs, l, rfl, rfl, _, hl, hrow⟩ := obj k g o hk
        obtain ⟨e', xs', l', rfl, rfl, _, hl', hrow'⟩ := obj k' g' o' hk'
        simp only [hl, hl', Option.getD_some] at hb
        exact .inl ⟨h.lent1 k' k l' l hl' hl hb, rfl⟩ }
    lent := fun i l hl => by
      refine ⟨by simp only at hl; simp [hl], ?_⟩
      rcases Nat.lt_or_ge i args.length with hi | hi
      · obtain ⟨v, g1, g2⟩ := hget i _ (List.getElem?_eq_getElem hi)
        rw [Nat.zero_add] at g2
        by_cases ho : ∃ e xs, args[i] = .own e xs
        · obtain ⟨e, xs, ho⟩ := ho
          show 0 < initCnt 0 args i
          rw [initCnt_get args 0 i e xs (Nat.zero_le _) (by rw [Nat.sub_zero, List.getElem?_eq_getElem hi, ho])]
          omega
        · have : lent i = none := by
            generalize args[i] = t at g2 ho
            cases t <;> first | exact g2.1 | exact absurd ⟨_, _, rfl⟩ ho
          simp only at hl
          rw [this] at hl; cases hl
      · have := h.past i hi
        simp only at hl
        rw [this] at hl; cases hl }
theorem run_results (h : Rel C ρ I w a st) : ∀ {rs : List ResultVar} {ts : List TRes} {vs : List TV} {n : Nat}, compRes P n rs = some ts → resVals st ts = some vs →
    ∃ us, (rs.mapM (fun (r : ResultVar) => (match r with
      | .tmp t => pure (a.tmps.getD t undef)
      | .cell c t => do loadVar t (← asAddr (a.tmps.getD c undef)) : Sem Value))).run P w = .ok us w ∧ All2 (VE I w ρ st.cnt) us vs
  | [], ts, vs, n, hc, hv => by
    simp [compRes] at hc; subst hc
    simp [resVals] at hv; subst hv
    exact ⟨[], by simp, .nil⟩
  | .tmp t :: rs, ts, vs, n, hc, hv => by
    simp only [compRes] at hc
    split at hc
    · rename_i r hr
      split at hc <;> cases hc
      simp only [resVals] at hv
      split at hv
      · rename_i v vs' h1 h2
        cases hv
        simp only [resVal, Option.some.injEq] at h1
        subst h1
        obtain ⟨us, g1, g2⟩ := run_results h hr h2
        exact ⟨_ :: us, by simp only [List.mapM_cons, Sem.run_bind, Sem.run_pure, Result.andThen_ok, g1], .cons (h.env t) g2⟩
      · cases hv
    · cases hc
  | .cell c t :: rs, ts, vs, n, hc, hv => by
    simp only [compRes] at hc
    split at hc
    · rename_i k ag r hs hag hr
      split at hc <;> cases hc
      simp only [resVals] at hv
      split at hv
      · rename_i v vs' h1 h2
        cases hv
        obtain ⟨us, g1, g2⟩ := run_results h hr h2
        simp only [resVal] at h1
        have hp := h.env c
        split at h1
        · rename_i k' g i j hpe
          rw [hpe] at hp
          obtain ⟨_, hp⟩ := hp
          split at h1
          · rename_i o ho
            split at h1
            · rename_i e he
              have hes : (ρ k' g).esz = o.esz := (h.obj k' g o ho).1.esz
              obtain ⟨u, r1, r2⟩ := run_loadVar_at (P := P) (w := w) (I := I) (ρ := ρ) (cnt := st.cnt) (b := (ρ k' g).blk) (off := i * o.esz) hs hag h1 (fun q c hq => by
                obtain ⟨u, hu, hr, h1⟩ := h.elem ho he q c hq
                exact ⟨u, hu, ce_of_if hr, h1⟩)
              refine ⟨u :: us, ?_, .cons r2 g2⟩
              have ha : (asAddr (a.tmps.getD c undef)).run P w = .ok ⟨(ρ k' g).blk, i * o.esz + j, none⟩ w := by rw [hp, hes]; simp [asAddr]
              simp only [List.mapM_cons, Sem.run_bind, Sem.run_pure, Result.andThen_ok, ha, r1, g1]
            · cases h1
          · cases h1
        · cases h1
      · cases hv
    · cases hc
def oneOr : List Value → Value
  | [u] => u
  | us => .tuple us.toArray
theorem run_results' (h : Rel C ρ I w a st) {fn : Func} {ts : List TRes} {vs : List TV} {n : Nat} (hc : compRes P n fn.results.toList = some ts) (hv : resVals st ts = some vs) :
    ∃ us : List Value, (results fn a.tmps).run P w = .ok (oneOr us) w ∧ All2 (VE I w ρ st.cnt) us vs := by
  obtain ⟨us, h1, h2⟩ := run_results h hc hv
  refine ⟨us, ?_, h2⟩
  have h1' : (fn.results.mapM (fun (r : ResultVar) => (match r with
      | .tmp t => pure (a.tmps.getD t undef)
      | .cell c t => do loadVar t (← asAddr (a.tmps.getD c undef)) : Sem Value))).run P w = .ok us.toArray w := by
    rw [Array.mapM_eq_mapM_toList, Sem.run_map, h1]
    rfl
  have : (results fn a.tmps).run P w = (Result.ok us.toArray w).andThen fun vs w => .ok (if h : vs.size = 1 then vs[0] else .tuple vs) w := by
    rw [← h1']
    show (results fn a.tmps).run P w = _
    unfold results
    rw [Sem.run_bind]
    rfl
  rw [this]
  simp only [Result.andThen_ok]
  congr 1
  match us with
  | [] => rfl
  | [u] => rfl
  | u :: u' :: us => simp [oneOr]
theorem treeAll_ta {cnt : Nat → Nat} {ob0 : Nat → Nat → Option Obj} (h : ORs I w ρ cnt ob0) {us : List Value} {vs : List TV} (hv : All2 (VE I w ρ cnt) us vs) : ∀ {ts : List TV}, Frozen I ρ ob0 (vs.flatMap hands) → treeAll ob0 vs = some ts → All2 (TA I w) us ts := by
  induction hv with
  | nil => intro ts _ ht; simp [treeAll] at ht; subst ht; exact .nil
  | cons hv _ ih =>
    intro ts hf ht
    simp only [treeAll] at ht
    split at ht
    · rename_i u us' h1 h2
      cases ht
      refine .cons (tree_ta h (fun k g o hk => ⟨o, hk, rfl, rfl, rfl⟩) (hf.sub fun p hp => by simp only [List.flatMap_cons, List.mem_append]; exact .inl hp) hv h1) (ih (hf.sub fun p hp => by simp only [List.flatMap_cons, List.mem_append]; exact .inr hp) h2)
    · cases ht
def frz1 (ob : Nat → Nat → Option Obj) (c : TV) : List (Nat × Nat) :=
  match out1 ob c with
  | some (.own _ _) => []
  | _ => hand1 c
theorem out1_own {ob : Nat → Nat → Option Obj} {c : TV} {e : Nat} {xs : Cont} (h : out1 ob c = some (.own e xs)) : ∃ k g o, c = .hs k g e o.cont.length ∧ ob k g = some o ∧ o.box = false ∧ o.esz = e ∧ o.solo = true ∧ o.tip = true ∧ xs = o.cont := by
  cases c <;> simp only [out1, tree1] at h <;> try (cases h; done)
  rename_i k g e' n
  split at h
  · rename_i o ho
    split at h
    · rename_i h1
      split at h
      · rename_i h2
        simp only [Option.some.injEq, TV.own.injEq] at h
        obtain ⟨rfl, rfl⟩ := h
        exact ⟨k, g, o, by rw [h2.2.2], ho, h1.1, h1.2.2, h2.1, h2.2.1, rfl⟩
      · cases h
    · cases h
  · cases h
theorem out1_tree {ob : Nat → Nat → Option Obj} {c t : TV} (h : out1 ob c = some t) (hn : ∀ e xs, t ≠ .own e xs) : (c = .nils ∧ t = .nils) ∨ (tree1 ob c = some t ∧ c ≠ .nils) := by
  cases c <;> simp only [out1] at h <;> try (exact .inr ⟨h, by simp⟩)
  case nils => cases h; exact .inl ⟨rfl, rfl⟩
  case hs k g e n =>
    right
    refine ⟨?_, by simp⟩
    simp only [tree1]
    split at h
    · rename_i o ho
      split at h
      · rename_i h1
        rw [if_pos h1]
        split at h
        · cases h; exact absurd rfl (hn _ _)
        · exact h
      · cases h
    · cases h
end
end Go.TM
end
section
namespace Go.TM
set_option linter.unusedVariables false
set_option linter.unusedSimpArgs false
section
variable {P : Program} {C : Ctx} {ρ : Nat → Nat → Loc} {I : Nat → Nat → Prop} {w : World} {a : Act} {st : St}
def own1 (ob : Nat → Nat → Option Obj) (c : TV) : List (Nat × Nat) :=
  match out1 ob c with
  | some (.own _ _) => hand1 c
  | _ => []
theorem own1_cases (ob : Nat → Nat → Option Obj) (c : TV) : (own1 ob c = hand1 c ∧ frz1 ob c = []) ∨ (own1 ob c = [] ∧ frz1 ob c = hand1 c) := by
  unfold own1 frz1
  split
  · left; rename_i h; simp [h]
  · right
    rename_i h
    refine ⟨rfl, ?_⟩
    first
      | rfl
      | (split
         · rename_i h2; exact absurd h2 (h _ _)
         · rfl)
theorem own1_sub {ob : Nat → Nat → Option Obj} : ∀ {cs : List TV}, ∀ p ∈ cs.flatMap (own1 ob), p ∈ cs.flatMap hand1
  | [], p, h => by simp at h
  | c :: cs, p, h => by
    simp only [List.flatMap_cons, List.mem_append] at h ⊢
    rcases h with h | h
    · left
      rcases own1_cases ob c with ⟨e, _⟩ | ⟨e, _⟩ <;> rw [e] at h
      · exact h
      · simp at h
    · exact .inr (own1_sub p h)
theorem frz1_sub {ob : Nat → Nat → Option Obj} : ∀ {cs : List TV}, ∀ p ∈ cs.flatMap (frz1 ob), p ∈ cs.flatMap hand1
  | [], p, h => by simp at h
  | c :: cs, p, h => by
    simp only [List.flatMap_cons, List.mem_append] at h ⊢
    rcases h with h | h
    · left
      rcases own1_cases ob c with ⟨_, e⟩ | ⟨_, e⟩ <;> rw [e] at h
      · simp at h
      · exact h
    · exact .inr (frz1_sub p h)
theorem own_frz {ob : Nat → Nat → Option Obj} : ∀ {cs : List TV}, once (cs.flatMap hand1) = true → ∀ p ∈ cs.flatMap (own1 ob), p ∉ cs.flatMap (frz1 ob)
  | [], _, p, h => by simp at h
  | c :: cs, ho, p, h => by
    simp only [List.flatMap_cons] at ho
    obtain ⟨h1, h2⟩ := once_append ho
    simp only [List.flatMap_cons, List.mem_append, not_or] at h ⊢
    rcases own1_cases ob c with ⟨e1, e2⟩ | ⟨e1, e2⟩ <;> rw [e1] at h <;> rw [e2]
    · rcases h with h | h
      · exact ⟨by simp, fun hf => h2 p h (frz1_sub p hf)⟩
      · exact ⟨by simp, own_frz h1 p h⟩
    · rcases h with h | h
      · simp at h
      · exact ⟨fun hf => h2 p hf (own1_sub p h), own_frz h1 p h⟩
theorem once_pair : ∀ {l : List (Nat × Nat)}, once l = true → l.Pairwise (· ≠ ·)
  | [], _ => .nil
  | p :: l, h => by
    simp only [once, Bool.and_eq_true, Bool.not_eq_true', List.contains_eq_mem, decide_eq_false_iff_not] at h
    exact List.pairwise_cons.2 ⟨fun q hq e => h.1 (e ▸ hq), once_pair h.2⟩
theorem own_once {ob : Nat → Nat → Option Obj} : ∀ {cs : List TV}, once (cs.flatMap hand1) = true → (cs.flatMap (own1 ob)).Pairwise (· ≠ ·)
  | [], _ => .nil
  | c :: cs, h => by
    simp only [List.flatMap_cons] at h ⊢
    obtain ⟨h1, h2⟩ := once_append h
    refine List.pairwise_append.2 ⟨?_, own_once h1, fun p hp q hq e => ?_⟩
    · rcases own1_cases ob c with ⟨e, _⟩ | ⟨e, _⟩ <;> rw [e]
      · cases c <;> simp [hand1]
      · exact .nil
    · have : p ∈ hand1 c := by
        rcases own1_cases ob c with ⟨e, _⟩ | ⟨e, _⟩ <;> rw [e] at hp
        · exact hp
        · simp at hp
      subst e
      exact h2 p this (own1_sub p hq)
theorem RC.of_ct {v : Value} {t : TV} (h : CT I w v t) : RC I w v t [] := by
  cases h <;> exact ⟨rfl, by first | exact .int _ _ | exact .bool _ | exact .str _ | exact .sl0 _ _ | exact .sl _ _ _ _ _ _ ‹_› ‹_› ‹_› ‹_› ‹_› ‹_›⟩
theorem out1_rc {cnt : Nat → Nat} {ob : Nat → Nat → Option Obj} (h : ORs I w ρ cnt ob) {v : Value} {c t : TV} (hv : CE I w ρ cnt v c) (hf : Frozen I ρ ob (frz1 ob c)) (ho : out1 ob c = some t) : RC I w v t ((own1 ob c).map fun p => ρ p.1 p.2) := by
  by_cases hown : ∃ e xs, t = .own e xs
  · obtain ⟨e, xs, rfl⟩ := hown
    have hk : own1 ob c = hand1 c := by unfold own1; rw [ho]
    obtain ⟨k, g, o, rfl, h1, h2, h3, _, _, rfl⟩ := out1_own ho
    obtain ⟨_, _, hvv, _⟩ := hv
    rw [hk]
    exact ⟨ρ k g, rfl, hvv, (h k g o h1).row h2 rfl rfl h3.symm⟩
  · have hn : ∀ e xs, t ≠ .own e xs := fun e xs he => hown ⟨e, xs, he⟩
    have hk : own1 ob c = [] ∧ frz1 ob c = hand1 c := by
      rcases own1_cases ob c with ⟨e1, e2⟩ | h
      · unfold own1 frz1 at *
        rw [ho] at e1 e2
        cases t <;> first | exact absurd rfl (hn _ _) | (simp only at e1 e2; exact ⟨by unfold own1; rw [ho], by unfold frz1; rw [ho]⟩) | (exact ⟨by simp [ho], by simp [ho]⟩)
      · exact h
    rw [hk.1]
    rw [hk.2] at hf
    rcases out1_tree ho hn with ⟨rfl, rfl⟩ | ⟨ht, _⟩
    · exact ⟨rfl, hv⟩
    · exact RC.of_ct (tree1_ct h (fun k g o hk => ⟨o, hk, rfl, rfl, rfl⟩) hf hv ht)
theorem outs_rcs {cnt : Nat → Nat} {ob : Nat → Nat → Option Obj} (h : ORs I w ρ cnt ob) {vs : List Value} {cs : List TV} (hv : All2 (CE I w ρ cnt) vs cs) : ∀ {ts : List TV}, Frozen I ρ ob (cs.flatMap (frz1 ob)) → outs ob cs = some ts → RCs I w vs ts ((cs.flatMap (own1 ob)).map fun p => ρ p.1 p.2) := by
  induction hv with
  | nil => intro ts _ ho; simp [outs] at ho; subst ho; exact .nil
  | cons hv _ ih =>
    intro ts hf ho
    simp only [outs] at ho
    split at ho
    · rename_i t ts' h1 h2
      cases ho
      rw [List.flatMap_cons, List.map_append]
      exact .cons (out1_rc h hv (hf.sub fun p hp => by simp only [List.flatMap_cons, List.mem_append]; exact .inl hp) h1) (ih (hf.sub fun p hp => by simp only [List.flatMap_cons, List.mem_append]; exact .inr hp) h2)
    · cases ho
theorem out_rv {cnt : Nat → Nat} {ob : Nat → Nat → Option Obj} (h : ORs I w ρ cnt ob) {v : Value} {c t : TV} (hv : VE I w ρ cnt v c) (hf : Frozen I ρ ob (c.cells.flatMap (frz1 ob))) (ho : out ob c = some t) : RV I w v t ((c.cells.flatMap (own1 ob)).map fun p => ρ p.1 p.2) := by
  by_cases ha : ∃ cs, c = .agg cs
  · obtain ⟨cs, rfl⟩ := ha
    obtain ⟨vs, rfl, hc, _⟩ := hv
    simp only [out, Option.map_eq_some_iff] at ho
    obtain ⟨ts, ho, rfl⟩ := ho
    exact ⟨vs, rfl, outs_rcs h hc hf ho⟩
  · have ho' : out1 ob c = some t := by
      cases c <;> first | exact ho | exact absurd ⟨_, rfl⟩ ha
    have hce : CE I w ρ cnt v c ∧ c.cells = [c] := by
      cases c <;> first
        | exact ⟨hv, rfl⟩
        | exact absurd ⟨_, rfl⟩ ha
        | (simp [out1, tree1] at ho'; done)
    rw [hce.2] at hf ⊢
    have hrc := out1_rc h hce.1 (by simpa using hf) ho'
    have : ([c].flatMap (own1 ob)).map (fun p => ρ p.1 p.2) = (own1 ob c).map fun p => ρ p.1 p.2 := by simp
    rw [this]
    cases t <;> first
      | exact hrc
      | (exfalso; obtain ⟨_, hct⟩ := hrc; cases hct)
theorem muts_ok (h : Rel C ρ I w a st) : ∀ {ts : List TV} {i : Nat} {ms : List Cont}, (∀ j e xs, ts[j]? = some (.own e xs) → ∃ l, C.lent (i + j) = some l) → mutsOf st i ts = some ms → ms.all flat = true → MutsOk w C.lent i ts ms
  | [], i, ms, _, hm, _ => by simp [mutsOf] at hm; subst hm; simp [MutsOk]
  | t :: ts, i, ms, hl, hm, hf => by
    have hl' : ∀ j e xs, ts[j]? = some (.own e xs) → ∃ l, C.lent (i + 1 + j) = some l := fun j e xs hj => by
      have := hl (j + 1) e xs (by simpa using hj)
      rwa [show i + 1 + j = i + (j + 1) by omega]
    cases t
    case own e xs =>
      simp only [mutsOf] at hm
      split at hm
      · rename_i o r ho hr
        split at hm <;> cases hm
        rename_i hcond
        obtain ⟨c1, c2, c3, c4⟩ := hcond
        simp only [List.all_cons, Bool.and_eq_true] at hf
        obtain ⟨l, hl0⟩ := hl 0 e xs rfl
        rw [Nat.add_zero] at hl0
        obtain ⟨q1, _⟩ := h.lent i l hl0
        have hor := (h.obj i 0 o ho).1
        have hb : o.box = false := by
          cases hb : o.box with
          | false => rfl
          | true => have := (h.sep.box i 0 o ho hb).2; rw [c2] at this; cases this
        refine ⟨o.cont, r, l, rfl, hl0, c4, ?_, muts_ok (ts := ts) (i := i + 1) h hl' hr hf.2⟩
        rw [q1] at hor
        have : OwnRow I w l e o.cont := hor.row hb rfl rfl c3.symm
        exact this.flat hf.1
      · cases hm
    all_goals exact muts_ok (ts := ts) (i := i + 1) h hl' hm hf
theorem mutsOf_own {st : St} : ∀ {ts : List TV} {i : Nat} {ms : List Cont}, mutsOf st i ts = some ms → ∀ j e xs, ts[j]? = some (.own e xs) → ∃ o, st.obj (i + j) 0 = some o ∧ o.solo = true
  | [], i, ms, _, j, e, xs, hj => by simp at hj
  | t :: ts, i, ms, hm, j, e, xs, hj => by
    cases j with
    | zero =>
      simp at hj; subst hj
      simp only [mutsOf] at hm
      split at hm
      · rename_i o r ho hr
        split at hm <;> cases hm
        rename_i hcond
        exact ⟨o, ho, hcond.1⟩
      · cases hm
    | succ j =>
      have next : ∀ ms, mutsOf st (i + 1) ts = some ms → ∃ o, st.obj (i + (j + 1)) 0 = some o ∧ o.solo = true := fun ms hm => by
        have := mutsOf_own hm j e xs (by simpa using hj)
        rwa [show i + 1 + j = i + (j + 1) by omega] at this
      cases t
      case own =>
        simp only [mutsOf] at hm
        split at hm
        · rename_i o r ho hr
          exact next r hr
        · cases hm
      all_goals exact next ms hm
theorem hasOwn_of : ∀ {ts : List TV} {j e : Nat} {xs : Cont}, ts[j]? = some (.own e xs) → hasOwn ts = true
  | [], j, e, xs, h => by simp at h
  | t :: ts, j, e, xs, h => by
    cases j with
    | zero => simp at h; subst h; rfl
    | succ j =>
      have := hasOwn_of (ts := ts) (by simpa using h)
      cases t <;> first | rfl | exact this
theorem func_sound (hmix : P.follows .mixedOrders = true) {f : Nat} {fn : Func} {F : TFunc} {hh : Nat → Nat × List Nat} {args : List TV} {e : Ex} {st' : St} {r : Res} (hf : P.funcs[f]? = some fn)
    (hcall : ∀ vals w, (callFunc f vals).run P w = .ok (.enter f vals) w) (hcomp : comp P hh fn = some F) (hn : F.np = args.length) (hx : Exec (Sound P) F.body (initSt args) e st') (he : ∀ id, e ≠ .exit id) (hfin : finish F args st' = some r) : Sound P f args r := by
  intro I0 w lent vals hE
  refine .inr ⟨f, hcall _ _, ?_⟩
  unfold comp at hcomp
  split at hcomp
  · rename_i c hb
    split at hcomp
    · rename_i tb tr h1 h2
      split at hcomp <;> cases hcomp
      rename_i hcond
      simp only at hn hx
      have hrel := init_rel (P := P) (F := fn.ntmps) hE (by omega)
      have hargs := args_get hE.ok
      have hlown : ∀ j e xs, args[j]? = some (.own e xs) → ∃ l, lent j = some l := fun j e xs hj => by
        obtain ⟨v, _, g2⟩ := hargs.2 j _ hj
        rw [Nat.zero_add] at g2
        obtain ⟨l, g3, _⟩ := g2
        exact ⟨l, g3⟩
      have hlarg : ∀ j l, lent j = some l → ∃ e xs, args[j]? = some (.own e xs) := fun j l hl => by
        rcases Nat.lt_or_ge j args.length with hj | hj
        · obtain ⟨v, _, g2⟩ := hargs.2 j _ (List.getElem?_eq_getElem hj)
          rw [Nat.zero_add, hl] at g2
          generalize hte : args[j] = t at g2
          cases t <;> first
            | exact ⟨_, _, by rw [List.getElem?_eq_getElem hj, hte]⟩
            | (exact absurd g2.1 (by simp))
        · rw [hE.past j hj] at hl; cases hl
      refine calls_of_wp hf hb ?_
      have key : ∀ ρ' I' w' a', Rel { P := P, n := fn.ntmps, w0 := w, I0 := I0, lent := lent } ρ' I' w' a' st' →
          a'.defers = [] ∧ ∃ v, (results fn a'.tmps).run P w' = .ok v w' ∧ ∃ v' I' ls, Ending.returned v = .returned v' ∧ Post I0 w lent args r v' w' I' ls := fun ρ' I' w' a' h => by
        refine ⟨h.defers, ?_⟩
        unfold finish at hfin
        split at hfin
        · rename_i vs ms hvs hms
          split at hfin
          · cases hfin
          rename_i hown
          obtain ⟨us, hrun, hus⟩ := run_results' h h2 hvs
          refine ⟨_, hrun, ?_⟩
          have hno : hasOwn args = true → vs.flatMap hands = [] ∧ ms.all flat = true := fun ho => by
            refine ⟨?_, ?_⟩
            · cases hc : vs.flatMap hands with
              | nil => rfl
              | cons p l => exact absurd ⟨ho, .inl (by rw [hc]; simp)⟩ hown
            · cases hc : ms.all flat with
              | true => rfl
              | false => exact absurd ⟨ho, .inr hc⟩ hown
          have post : ∀ (Z : List (Nat × Nat)) (v : Value) (u : TV) (I2 : Nat → Nat → Prop) (ls : List Loc), (∀ p ∈ Z, p ∈ vs.flatMap hands) → r = (u, ms) →
              Rel { P := P, n := fn.ntmps, w0 := w, I0 := I0, lent := lent } ρ' I2 w' a' { st' with obj := Z.foldl unsolo1 st'.obj } → RV I2 w' v u ls →
              (∀ l ∈ ls, ∃ p ∈ vs.flatMap hands, ∃ o, st'.obj p.1 p.2 = some o ∧ o.solo = true ∧ p ∉ Z ∧ l = ρ' p.1 p.2) → ls.Pairwise (fun l l' => l.blk ≠ l'.blk) →
              ∃ v' I' ls, Ending.returned v = .returned v' ∧ Post I0 w lent args r v' w' I' ls := fun Z v u I2 ls hZ hr h' hrv hls hpw => by
            subst hr
            have keep : ∀ (Z : List (Nat × Nat)) (ob : Nat → Nat → Option Obj) (k g : Nat), (k, g) ∉ Z → Z.foldl unsolo1 ob k g = ob k g := by
              intro Z
              induction Z with
              | nil => intro ob k g _; rfl
              | cons q Z ih =>
                intro ob k g hm
                rw [List.foldl_cons, ih _ _ _ (fun hh => hm (List.mem_cons_of_mem _ hh)), unsolo1, updO_ne]
                rintro ⟨rfl, rfl⟩
                exact hm List.mem_cons_self
            have noM : ∀ b, (∃ i l, lent i = some l ∧ l.blk = b) → hasOwn args = true ∧ ∀ off, ¬ I2 b off := fun b hb => by
              obtain ⟨i, l, hl, rfl⟩ := hb
              obtain ⟨e, xs, hi⟩ := hlarg i l hl
              have ho := hasOwn_of hi
              obtain ⟨o, ho1, ho2⟩ := mutsOf_own hms i e xs hi
              rw [Nat.zero_add] at ho1
              refine ⟨ho, fun off hI => ?_⟩
              have hZnil : Z = [] := by
                cases Z with
                | nil => rfl
                | cons p Z => have := hZ p List.mem_cons_self; rw [(hno ho).1] at this; simp at this
              subst hZnil
              have := h'.sep.soloI i 0 o ho1 ho2 off
              rw [(h'.lent i l hl).1] at this
              exact this hI
            refine ⟨v, I2, ls, rfl, {
              imm := h'.I0
              Isub := fun b o hI => by
                rcases h'.Isub b o hI with h1 | h1 | h1
                · exact .inl h1
                · exact .inr h1
                · exact absurd hI ((noM b h1).2 o)
              Iin := h'.Iin
              fr := h'.fr
              res := hrv
              own := fun l hl => by
                obtain ⟨p, hp, o, ho, hs, hpZ, rfl⟩ := hls l hl
                have hob := h.obj p.1 p.2 o ho
                refine ⟨?_, hob.1.blk_lt, fun off hI => ?_⟩
                · rcases hob.2 with h1 | h1
                  · exact h1
                  · have := (hno (noM _ h1).1).1
                    rw [this] at hp; simp at hp
                · exact h'.sep.soloI p.1 p.2 o (by show Z.foldl unsolo1 st'.obj p.1 p.2 = some o; rw [keep Z _ _ _ hpZ]; exact ho) hs off hI
              own1 := hpw
              muts := by
                by_cases ho : hasOwn args = true
                · exact muts_ok h (fun j e xs hj => by rw [Nat.zero_add]; exact hlown j e xs hj) hms (hno ho).2
                · have : ∀ {ts : List TV} {i : Nat} {ms : List Cont}, hasOwn ts = false → mutsOf st' i ts = some ms → MutsOk w' lent i ts ms := by
                    intro ts
                    induction ts with
                    | nil => intro i ms _ hm; simp [mutsOf] at hm; subst hm; simp [MutsOk]
                    | cons t ts ih =>
                      intro i ms ho hm
                      cases t <;> first | (simp [hasOwn] at ho; done) | exact ih (by simpa [hasOwn] using ho) hm
                  exact this (by simpa using ho) hms }⟩
          split at hfin
          · rename_i v0
            split at hfin
            · rename_i honce
              rw [Option.map_eq_some_iff] at hfin
              obtain ⟨u, hu, hr⟩ := hfin
              obtain ⟨u0, rfl⟩ : ∃ u0, us = [u0] := by
                cases hus with
                | cons h1 h2 => cases h2; exact ⟨_, rfl⟩
              have hv0 : VE I' w' ρ' st'.cnt u0 v0 := by cases hus; assumption
              obtain ⟨I2, h', hII, hfro⟩ := h.freeze (v0.cells.flatMap (frz1 st'.obj))
              have m : Mv I' I2 w' w' ρ' ρ' st'.cnt st'.cnt := ⟨hII, fun _ _ _ => rfl, fun _ _ _ => rfl, fun _ => Nat.le_refl _⟩
              have hO : ORs I2 w' ρ' st'.cnt st'.obj := fun k g o hk => (h.ors k g o hk).mv m rfl
              have hrv := out_rv hO (m.ve hv0) hfro hu
              have hsolo : ∀ p ∈ v0.cells.flatMap (own1 st'.obj), ∃ o, st'.obj p.1 p.2 = some o ∧ o.solo = true := fun p hp => by
                obtain ⟨c, hc, hpc⟩ := List.mem_flatMap.1 hp
                unfold own1 at hpc
                split at hpc
                · rename_i e xs hout
                  obtain ⟨k, g, o, rfl, h1, _, _, h2, _⟩ := out1_own hout
                  simp only [hand1, List.mem_singleton] at hpc
                  subst hpc
                  exact ⟨o, h1, h2⟩
                · simp at hpc
              have hh : [v0].flatMap hands = v0.cells.flatMap hand1 := by simp [hands]
              refine post (v0.cells.flatMap (frz1 st'.obj)) u0 u I2 _ (fun p hp => by rw [hh]; exact frz1_sub p hp) hr.symm h' hrv (fun l hl => ?_) ?_
              · obtain ⟨p, hp, rfl⟩ := List.mem_map.1 hl
                obtain ⟨o, h1, h2⟩ := hsolo p hp
                exact ⟨p, by rw [hh]; exact own1_sub p hp, o, h1, h2, own_frz honce p hp, rfl⟩
              · rw [List.pairwise_map]
                refine List.Pairwise.imp_of_mem (fun {p q} hp hq hne hb => ?_) (own_once honce)
                obtain ⟨o, h1, h2⟩ := hsolo p hp
                obtain ⟨o', h3, h4⟩ := hsolo q hq
                obtain ⟨e1, e2⟩ := h.sep.solo q.1 q.2 o' h3 h4 p.1 p.2 o h1 hb
                exact hne (Prod.ext e1 e2)
            · cases hfin
          · rename_i hnot
            rw [Option.map_eq_some_iff] at hfin
            obtain ⟨ts, hts, hr⟩ := hfin
            obtain ⟨I2, h', hII, hfro⟩ := h.freeze (vs.flatMap hands)
            have m : Mv I' I2 w' w' ρ' ρ' st'.cnt st'.cnt := ⟨hII, fun _ _ _ => rfl, fun _ _ _ => rfl, fun _ => Nat.le_refl _⟩
            have hO : ORs I2 w' ρ' st'.cnt st'.obj := fun k g o hk => (h.ors k g o hk).mv m rfl
            have hta := treeAll_ta hO (hus.imp fun _ _ => m.ve) hfro hts
            have hlen := hus.length
            have hval : oneOr us = .tuple us.toArray := by
              match us, hlen with
              | [], _ => rfl
              | [u], hlen =>
                obtain ⟨v, rfl⟩ := List.length_eq_one_iff.1 hlen.symm
                exact (hnot v rfl).elim
              | u :: u' :: us, _ => rfl
            rw [hval]
            exact post (vs.flatMap hands) _ (.tup ts) I2 [] (fun p hp => hp) hr.symm h' ⟨rfl, us.toArray, rfl, by simpa using hta⟩ (by simp) .nil
        · cases hfin
      refine (exec_sim hmix hx).1 c _ _ w _ _ h1 hrel fun ρ' I' w' a' h => ?_
      cases e with
      | norm => exact key ρ' I' w' a' h
      | ret => exact key ρ' I' w' a' h
      | exit id => exact absurd rfl (he id)
    · cases hcomp
  · cases hcomp
end
end Go.TM
end
section
namespace Go.TM
set_option linter.unusedVariables false
set_option linter.unusedSimpArgs false
theorem bind_some {α β : Type} {x : Option α} {f : α → Option β} {r : β} (h : x >>= f = some r) : ∃ y, x = some y ∧ f y = some r := by
  cases x with
  | none => cases h
  | some y => exact ⟨y, rfl, h⟩
structure Mach.Ok (P : Program) (M : Mach) : Prop where
  mix : P.follows .mixedOrders = true
  tab : ∀ f F, M.tab f = some F → ∃ fn hh, P.funcs[f]? = some fn ∧ (∀ vals w, (callFunc f vals).run P w = .ok (.enter f vals) w) ∧ comp P hh fn = some F
  ext : ∀ f args r, M.tab f = none → M.ext f args = some r → Sound P f args r
theorem call_sound {P : Program} {M : Mach} (hM : M.Ok P) : ∀ f args r, call M f args = some r → Sound P f args r := by
  refine (exec.mutual_partial_correctness M (fun c st r => Exec (Sound P) c st r.1 r.2) (fun ops st r => RunOps (Sound P) ops st r) (fun o st r => Step1 (Sound P) o st r) (fun f args r => Sound P f args r) ?_ ?_ ?_ ?_).2.2.2
  · intro exec execOps h1 h2 c st r h
    obtain ⟨e, st'⟩ := r
    split at h
    · cases h; exact .skip
    · obtain ⟨st1, g1, g2⟩ := bind_some h
      cases g2
      exact .reg (h2 _ _ _ g1)
    · obtain ⟨⟨e1, s1⟩, g1, g2⟩ := bind_some h
      have k1 := h1 _ _ _ g1
      split at g2
      · rename_i he
        simp only at he g2 k1
        subst he
        exact .seqN k1 (h1 _ _ _ g2)
      · rename_i he
        cases g2
        exact .seqE he k1
    · split at h
      · exact .condT ‹_› (h1 _ _ _ h)
      · exact .condF ‹_› (h1 _ _ _ h)
      · cases h
    · obtain ⟨⟨e1, s1⟩, g1, g2⟩ := bind_some h
      cases g2
      exact .block (h1 _ _ _ g1)
    · obtain ⟨⟨e1, s1⟩, g1, g2⟩ := bind_some h
      have k1 := h1 _ _ _ g1
      split at g2
      · rename_i he
        simp only at he g2 k1
        subst he
        exact .loopN k1 (h1 _ _ _ g2)
      · rename_i he
        cases g2
        exact .loopE he k1
    · cases h; exact .exit
    · cases h; exact .ret
  · intro execOps exec1 h1 h2 ops st r h
    split at h
    · cases h; rfl
    · obtain ⟨st1, g1, g2⟩ := bind_some h
      exact ⟨st1, h2 _ _ _ g1, h1 _ _ _ g2⟩
  · intro call h1 o st r h
    unfold Step1
    split at h
    · cases h
    · rename_i hw; cases h; rw [hw]
    · rename_i hw
      rw [hw]
      obtain ⟨e, g1, g2⟩ := bind_some h
      refine ⟨e, g1, ?_⟩
      cases e with
      | eff e => cases g2; rfl
      | cal f vs k =>
        obtain ⟨r1, g3, g4⟩ := bind_some g2
        obtain ⟨e, g5, g6⟩ := bind_some g4
        cases g6
        exact ⟨r1, e, h1 _ _ _ g3, g5, rfl⟩
  · intro exec h1 f args r h
    split at h
    · rename_i F hF
      split at h
      · rename_i hn
        obtain ⟨⟨e, st'⟩, g1, g2⟩ := bind_some h
        obtain ⟨fn, hh, q1, q2, q3⟩ := hM.tab f F hF
        have k := h1 _ _ _ g1
        split at g2
        · cases g2
        · rename_i he
          exact func_sound hM.mix q1 q2 q3 hn k he g2
      · cases h
    · exact hM.ext f args r ‹_› h
end Go.TM
end
section
namespace Go.TM
set_option linter.unusedVariables false
set_option linter.unusedSimpArgs false
section
variable {P : Program} {w : World}
def ints (k : IntKind) (zs : List Int) : Cont := zs.map fun z => [.int k z]
theorem ct_ints {I : Nat → Nat → Prop} {k : IntKind} {a : Option Addr} {len cap : Nat} {zs : List Int} (hI : ∀ b o, b < w.heap.size → I b o)
    (h : (a = none ∧ len = 0 ∧ cap = 0 ∧ zs = []) ∨ ∃ x, a = some x ∧ len ≤ cap ∧ cap ≤ maxLen ∧ zs.length = cap ∧ (∀ i, i < zs.length → w.cell? (x.add i) = some (.int k (zs.getD i 0))) ∧ ∀ n ∈ zs, (Lit.int k n).wf = true) :
    CT I w (.slice a len cap) (.sl (ints k (zs.take len))) := by
  rcases h with ⟨rfl, rfl, rfl, rfl⟩ | ⟨x, rfl, h1, h2, h3, h4, _⟩
  · exact .sl0 _ _
  · by_cases hz : len = 0
    · subst hz; exact .sl0 _ _
    · obtain ⟨b, off, spot⟩ := x
      have h0 := h4 0 (by omega)
      have hspot : spot = none := by
        simp only [Addr.add, if_true, World.cell?] at h0
        split at h0
        · split at h0
          · cases h0
          · rename_i hs; simpa using hs
        · cases h0
      subst hspot
      have hlen : (ints k (zs.take len)).length = len := by simp [ints]; omega
      have hb : b < w.heap.size := by
        have := h4 0 (by omega)
        rw [Addr.add_lit] at this
        exact World.block_lt_of_cell? w _ this
      have := CT.sl (I := I) (w := w) b off cap 1 (ints k (zs.take len)) (fun i _ => .int k (zs.getD i 0)) (by intro e; rw [e] at hlen; simp at hlen; omega) (by rw [hlen]; exact h1) (by omega)
        (fun x hx => by simp only [ints, List.mem_map] at hx; obtain ⟨z, _, rfl⟩ := hx; rfl)
        (fun i j hi hj => by
          rw [hlen] at hi
          have hj0 : j = 0 := by omega
          subst hj0
          refine ⟨hI _ _ hb, ?_⟩
          have := h4 i (by omega)
          rw [Addr.add_lit] at this
          simpa using this)
        (fun i j x c hx hj => by
          simp only [ints, List.getElem?_map, Option.map_eq_some_iff] at hx
          obtain ⟨z, hz, rfl⟩ := hx
          cases j with
          | zero =>
            simp at hj; subst hj
            rw [List.getElem?_take] at hz
            split at hz
            · rw [List.getD_eq_getElem?_getD, hz]; exact .int _ _
            · cases hz
          | succ j => simp at hj)
      rw [hlen] at this
      exact this
theorem law_calls {f : Nat} {vals : Array Value} {args : List TV} (hs : Sound P f args (.bool true, [])) (hcall : (callFunc f vals).run P w = .ok (.enter f vals) w)
    (hargs : ArgsOk (fun b _ => b < w.heap.size) w (fun _ => none) 0 vals.toList args) : Calls P f vals w fun e w' => e = .returned (.bool true) ∧ Go.RowKit.Below w.heap.size w w' := by
  have hE : Enter (fun b _ => b < w.heap.size) w (fun _ => none) vals args :=
    ⟨fun _ _ h => h, hargs, fun _ _ => rfl, fun _ _ h => (by cases h), fun _ _ _ _ h => (by cases h)⟩
  rcases hs _ w _ vals hE with ⟨v, w', I', ls, h1, _⟩ | ⟨g, h1, h2⟩
  · rw [hcall] at h1; cases h1
  · rw [hcall] at h1
    cases h1
    refine h2.mono fun e w' he => ?_
    obtain ⟨v, I', ls, rfl, hp⟩ := he
    have hr := hp.res
    obtain ⟨_, hct⟩ := (show RC I' w' v (.bool true) ls from hr)
    refine ⟨by rw [ct_bool hct], hp.fr.os, hp.fr.tape, hp.fr.output, hp.fr.size, fun k hk => hp.fr.block k hk (by rintro ⟨i, l, hl, _⟩; cases hl)⟩
end
end Go.TM
end
section
namespace Go.TM
variable {M : Mach}
theorem exec_skip (st : St) : exec M .skip st = some (.norm, st) := by rw [exec]
theorem exec_reg (ops : List TStep) (st : St) : exec M (.reg ops) st = (execOps M ops st).bind fun s => some (.norm, s) := by rw [exec]; rfl
theorem exec_seq (a b : TCode) (st : St) : exec M (.seq a b) st = (exec M a st).bind fun p => match p.1 with
    | .norm => exec M b p.2
    | e => some (e, p.2) := by rw [exec]; rfl
theorem exec_cond (x : Opd) (a b : TCode) (st : St) : exec M (.cond x a b) st = match val st.env x with
    | .bool true => exec M a st
    | .bool false => exec M b st
    | _ => none := by rw [exec]; rfl
theorem exec_block (id : Nat) (a : TCode) (st : St) : exec M (.block id a) st = (exec M a st).bind fun p => some (if p.1 = .exit id then .norm else p.1, p.2) := by rw [exec]; rfl
theorem exec_exit (id : Nat) (st : St) : exec M (.exit id) st = some (.exit id, st) := by rw [exec]
theorem exec_ret (st : St) : exec M .ret st = some (.ret, st) := by rw [exec]
theorem exec_loop (a : TCode) (st : St) : exec M (.loop a) st = (exec M a st).bind fun p => match p.1 with
    | .norm => exec M (.loop a) p.2
    | e => some (e, p.2) := by rw [exec]; rfl
theorem ops_nil (st : St) : execOps M [] st = some st := by rw [execOps]
theorem ops_cons (o : TStep) (rest : List TStep) (st : St) : execOps M (o :: rest) st = (exec1 M o st).bind fun s => execOps M rest s := by rw [execOps]; rfl
theorem exec1_eq (o : TStep) (st : St) : exec1 M o st = match wantedT st.env o.guard with
    | none => none
    | some false => some (apply o.dst { v := .tup [] } st)
    | some true => (ev o.op (o.dst.getD 0) (st.cnt (o.dst.getD 0)) (val st.env) (restrict st.obj o.vk)).bind fun e => match e with
      | .eff e => some (apply o.dst e st)
      | .cal f vs k => (call M f vs).bind fun r => (k r).bind fun e => some (apply o.dst e st) := by rw [exec1]; rfl
theorem call_eq {f : Nat} {F : TFunc} (h : M.tab f = some F) (args : List TV) (hn : F.np = args.length) : call M f args = (exec M F.body (initSt args)).bind fun p => match p.1 with
    | .exit _ => none
    | _ => finish F args p.2 := by rw [call, h]; simp only [hn, if_true]; rfl
end Go.TM
end
section
namespace Go.TM
variable {M : Mach} {Q : Ex → St → Prop} {st : St}
def Goes (M : Mach) (c : TCode) (Q : Ex → St → Prop) (st : St) : Prop := ∃ e st', exec M c st = some (e, st') ∧ Q e st'
theorem Goes.mono {c : TCode} {Q' : Ex → St → Prop} (h : Goes M c Q st) (hq : ∀ e s, Q e s → Q' e s) : Goes M c Q' st :=
  let ⟨e, s, h1, h2⟩ := h; ⟨e, s, h1, hq e s h2⟩
theorem Goes.skip (h : Q .norm st) : Goes M .skip Q st := ⟨.norm, st, exec_skip st, h⟩
theorem Goes.exit {id : Nat} (h : Q (.exit id) st) : Goes M (.exit id) Q st := ⟨_, st, exec_exit id st, h⟩
theorem Goes.ret (h : Q .ret st) : Goes M .ret Q st := ⟨_, st, exec_ret st, h⟩
theorem Goes.reg {ops : List TStep} {s : St} (h : execOps M ops st = some s) (hq : Q .norm s) : Goes M (.reg ops) Q st := ⟨_, s, by rw [exec_reg, h]; rfl, hq⟩
theorem Goes.seq {a b : TCode} (h : Goes M a (fun e s => match e with | .norm => Goes M b Q s | e => Q e s) st) : Goes M (.seq a b) Q st := by
  obtain ⟨e, s, h1, h2⟩ := h
  cases e with
  | norm =>
    obtain ⟨e', s', h3, h4⟩ := h2
    exact ⟨e', s', by rw [exec_seq, h1]; exact h3, h4⟩
  | exit id => exact ⟨_, s, by rw [exec_seq, h1]; rfl, h2⟩
  | ret => exact ⟨_, s, by rw [exec_seq, h1]; rfl, h2⟩
theorem Goes.condT {x : Opd} {a b : TCode} (hx : val st.env x = .bool true) (h : Goes M a Q st) : Goes M (.cond x a b) Q st := by
  obtain ⟨e, s, h1, h2⟩ := h
  exact ⟨e, s, by rw [exec_cond, hx]; exact h1, h2⟩
theorem Goes.condF {x : Opd} {a b : TCode} (hx : val st.env x = .bool false) (h : Goes M b Q st) : Goes M (.cond x a b) Q st := by
  obtain ⟨e, s, h1, h2⟩ := h
  exact ⟨e, s, by rw [exec_cond, hx]; exact h1, h2⟩
theorem Goes.block {id : Nat} {a : TCode} (h : Goes M a (fun e s => Q (if e = .exit id then .norm else e) s) st) : Goes M (.block id a) Q st := by
  obtain ⟨e, s, h1, h2⟩ := h
  exact ⟨_, s, by rw [exec_block, h1]; rfl, h2⟩
theorem Goes.loop {a : TCode} (h : Goes M a (fun e s => match e with | .norm => Goes M (.loop a) Q s | e => Q e s) st) : Goes M (.loop a) Q st := by
  obtain ⟨e, s, h1, h2⟩ := h
  cases e with
  | norm =>
    obtain ⟨e', s', h3, h4⟩ := h2
    exact ⟨e', s', by rw [exec_loop, h1]; exact h3, h4⟩
  | exit id => exact ⟨_, s, by rw [exec_loop, h1]; rfl, h2⟩
  | ret => exact ⟨_, s, by rw [exec_loop, h1]; rfl, h2⟩
theorem Goes.call {f : Nat} {F : TFunc} {args : List TV} {r : Res} (h : M.tab f = some F) (hn : F.np = args.length) (hp : Goes M F.body (fun e s => (∀ id, e ≠ .exit id) ∧ finish F args s = some r) (initSt args)) : call M f args = some r := by
  obtain ⟨e, s, h1, h2, h3⟩ := hp
  rw [call_eq h args hn, h1]
  cases e with
  | norm => exact h3
  | ret => exact h3
  | exit id => exact absurd rfl (h2 id)
end Go.TM
end
