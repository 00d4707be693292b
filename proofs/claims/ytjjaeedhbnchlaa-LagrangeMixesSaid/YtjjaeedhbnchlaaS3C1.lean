/- What the functions of the program and of the reference compute, up to the law. Conditions stand in each theorem. -/
import Derived.Test.YtjjaeedhbnchlaaS3A2
import Derived.Test.YtjjaeedhbnchlaaS3B2
section
namespace Go.Plain
set_option linter.unusedVariables false
set_option linter.unusedSimpArgs false
def val : List Nat → Nat
  | [] => 0
  | d :: ds => d + 4294967296 * val ds
def Dig (ds : List Nat) : Prop := ∀ d ∈ ds, d < 4294967296
theorem Dig.cons {d : Nat} {ds : List Nat} (h : d < 4294967296) (hs : Dig ds) : Dig (d :: ds) := by
  intro x hx; rcases List.mem_cons.1 hx with rfl | hx
  · exact h
  · exact hs x hx
theorem Dig.head {d : Nat} {ds : List Nat} (h : Dig (d :: ds)) : d < 4294967296 := h d List.mem_cons_self
theorem Dig.tail {d : Nat} {ds : List Nat} (h : Dig (d :: ds)) : Dig ds := fun x hx => h x (List.mem_cons_of_mem _ hx)
theorem Dig.nil : Dig [] := fun x hx => by cases hx
theorem Dig.app {aa bs : List Nat} (ha : Dig aa) (hb : Dig bs) : Dig (aa ++ bs) := fun x hx => (List.mem_append.1 hx).elim (ha x) (hb x)
theorem Dig.take {ds : List Nat} (h : Dig ds) (n : Nat) : Dig (ds.take n) := fun x hx => h x (List.mem_of_mem_take hx)
theorem Dig.drop {ds : List Nat} (h : Dig ds) (n : Nat) : Dig (ds.drop n) := fun x hx => h x (List.mem_of_mem_drop hx)
theorem Dig.set {ds : List Nat} (h : Dig ds) {i d : Nat} (hd : d < 4294967296) : Dig (ds.set i d) := fun x hx => by
  rcases List.mem_or_eq_of_mem_set hx with h1 | rfl
  · exact h x h1
  · exact hd
theorem Dig.rep (n : Nat) : Dig (List.replicate n 0) := fun x hx => by rw [List.eq_of_mem_replicate hx]; decide
theorem Dig.get {ds : List Nat} (h : Dig ds) (i : Nat) : ds.getD i 0 < 4294967296 := by
  rw [List.getD_eq_getElem?_getD]
  cases hx : ds[i]? with
  | none => simp
  | some x => simpa using h x (List.mem_of_getElem? hx)
def toDig (n : Nat) : List Nat :=
  if h : n = 0 then [] else n % 4294967296 :: toDig (n / 4294967296)
  termination_by n
  decreasing_by exact Nat.div_lt_self (by omega) (by omega)
theorem toDig_zero : toDig 0 = [] := by rw [toDig]; simp
theorem toDig_pos {n : Nat} (h : n ≠ 0) : toDig n = n % 4294967296 :: toDig (n / 4294967296) := by rw [toDig]; simp [h]
theorem val_toDig (n : Nat) : val (toDig n) = n := by
  induction n using Nat.strongRecOn with
  | _ n ih =>
    by_cases h : n = 0
    · subst h; rw [toDig_zero]; rfl
    · rw [toDig_pos h, val, ih _ (Nat.div_lt_self (by omega) (by omega))]
      omega
theorem dig_toDig (n : Nat) : Dig (toDig n) := by
  induction n using Nat.strongRecOn with
  | _ n ih =>
    by_cases h : n = 0
    · subst h; rw [toDig_zero]; exact .nil
    · rw [toDig_pos h]
      exact .cons (by omega) (ih _ (Nat.div_lt_self (by omega) (by omega)))
theorem toDig_eq_nil {n : Nat} : toDig n = [] ↔ n = 0 := by
  constructor
  · intro h; by_cases hn : n = 0
    · exact hn
    · rw [toDig_pos hn] at h; cases h
  · rintro rfl; exact toDig_zero
theorem toDig_one {n : Nat} (h : n ≠ 0) (h2 : n < 4294967296) : toDig n = [n] := by
  rw [toDig_pos h, show n / 4294967296 = 0 by omega, toDig_zero, Nat.mod_eq_of_lt h2]
theorem val_lt : ∀ {ds : List Nat}, Dig ds → val ds < 4294967296 ^ ds.length
  | [], _ => by simp [val]
  | d :: ds, h => by
    have h1 := h.head
    have h2 := val_lt h.tail
    simp only [val, List.length_cons, Nat.pow_succ]
    omega
theorem val_append (aa bs : List Nat) : val (aa ++ bs) = val aa + 4294967296 ^ aa.length * val bs := by
  induction aa with
  | nil => simp [val]
  | cons a aa ih => simp only [List.cons_append, val, ih, List.length_cons, Nat.pow_succ]; grind
theorem val_rep (n : Nat) : val (List.replicate n 0) = 0 := by
  induction n with
  | zero => rfl
  | succ n ih => simp [List.replicate_succ, val, ih]
theorem val_take_succ {ds : List Nat} {i : Nat} (h : i < ds.length) : val (ds.take (i + 1)) = val (ds.take i) + ds.getD i 0 * 4294967296 ^ i := by
  rw [List.take_add_one, List.getD_eq_getElem?_getD, List.getElem?_eq_getElem h]
  simp only [Option.toList_some, val_append, List.length_take, Option.getD_some, val]
  rw [Nat.min_eq_left (by omega)]
  grind
theorem val_set {ds : List Nat} {i d : Nat} (h : i < ds.length) : val (ds.set i d) + ds.getD i 0 * 4294967296 ^ i = val ds + d * 4294967296 ^ i := by
  induction ds generalizing i with
  | nil => simp at h
  | cons a aa ih =>
    cases i with
    | zero => simp [val]; omega
    | succ i =>
      have := ih (i := i) (by simpa using h)
      simp only [List.set_cons_succ, val, List.getD_cons_succ, Nat.pow_succ]
      grind
theorem val_take_set {ds : List Nat} {i d : Nat} (h : i < ds.length) : val ((ds.set i d).take (i + 1)) = val (ds.take i) + d * 4294967296 ^ i := by
  rw [val_take_succ (by simpa using h)]
  congr 1
  · rw [List.take_set_of_le (Nat.le_refl _)]
  · simp [List.getD_eq_getElem?_getD, h]
def tlen (ds : List Nat) : Nat → Nat
  | 0 => 0
  | n + 1 => if ds.getD n 0 = 0 then tlen ds n else n + 1
theorem tlen_le (ds : List Nat) : ∀ n, tlen ds n ≤ n
  | 0 => Nat.le_refl _
  | n + 1 => by simp only [tlen]; split <;> have := tlen_le ds n <;> omega
theorem val_last {ds : List Nat} (h : Dig ds) (hn : ds ≠ []) (hl : ds.getLast hn ≠ 0) : toDig (val ds) = ds := by
  induction ds with
  | nil => exact absurd rfl hn
  | cons d ds ih =>
    have h1 := h.head
    by_cases hd : ds = []
    · subst hd
      simp only [List.getLast_singleton] at hl
      simp only [val, Nat.mul_zero, Nat.add_zero]
      exact toDig_one hl h1
    · rw [List.getLast_cons hd] at hl
      have := ih h.tail hd hl
      have hv : val ds ≠ 0 := by intro hv; rw [hv, toDig_zero] at this; exact hd this.symm
      simp only [val]
      rw [toDig_pos (by omega), show (d + 4294967296 * val ds) % 4294967296 = d by omega, show (d + 4294967296 * val ds) / 4294967296 = val ds by omega, this]
theorem take_tlen {ds : List Nat} (h : Dig ds) : ∀ n, n ≤ ds.length → ds.take (tlen ds n) = toDig (val (ds.take n))
  | 0, _ => by simp [tlen, val, toDig_zero]
  | n + 1, hn => by
    simp only [tlen]
    split
    · rename_i hz
      rw [take_tlen h n (by omega), val_take_succ (by omega), hz]; simp
    · rename_i hz
      have h1 : ds.take (n + 1) ≠ [] := by intro h; have := congrArg List.length h; rw [List.length_take, List.length_nil] at this; omega
      refine (val_last (h.take _) h1 ?_).symm
      rw [List.getLast_eq_getElem]
      rw [List.getD_eq_getElem?_getD, List.getElem?_eq_getElem (by omega : n < ds.length)] at hz
      simp only [List.getElem_take, List.length_take, Nat.min_eq_left hn]
      exact hz
theorem take_tlen_all {ds : List Nat} (h : Dig ds) : ds.take (tlen ds ds.length) = toDig (val ds) := by rw [take_tlen h _ (Nat.le_refl _), List.take_length]
theorem toDig_len_le {n k : Nat} (h : n < 4294967296 ^ k) : (toDig n).length ≤ k := by
  induction k generalizing n with
  | zero => simp at h; subst h; rw [toDig_zero]; simp
  | succ k ih =>
    by_cases hn : n = 0
    · subst hn; rw [toDig_zero]; simp
    · rw [toDig_pos hn, List.length_cons]
      have := ih (n := n / 4294967296) (by rw [Nat.pow_succ] at h; omega)
      omega
theorem toDig_len_lt {n k : Nat} (h : k < (toDig n).length) : 4294967296 ^ k ≤ n := by
  by_cases hn : n < 4294967296 ^ k
  · have := toDig_len_le hn; omega
  · omega
theorem tlen_eq {ds : List Nat} (h : Dig ds) : tlen ds ds.length = (toDig (val ds)).length := by
  rw [← take_tlen_all h, List.length_take, Nat.min_eq_left (tlen_le _ _)]
theorem toDig_val_len {ds : List Nat} (h : Dig ds) : (toDig (val ds)).length ≤ ds.length := toDig_len_le (val_lt h)
def cmpN (a b : List Nat) : Nat → Int
  | 0 => 0
  | n + 1 => if a.getD n 0 = b.getD n 0 then cmpN a b n else if a.getD n 0 < b.getD n 0 then -1 else 1
def sgnN (a b : Nat) : Int := if a < b then -1 else if a = b then 0 else 1
theorem cmpN_val {a b : List Nat} (ha : Dig a) (hb : Dig b) : ∀ n, n ≤ a.length → n ≤ b.length → cmpN a b n = sgnN (val (a.take n)) (val (b.take n))
  | 0, _, _ => by simp [cmpN, val, sgnN]
  | n + 1, h1, h2 => by
    have e1 := val_take_succ (ds := a) (i := n) (by omega)
    have e2 := val_take_succ (ds := b) (i := n) (by omega)
    have l1 := val_lt (ha.take n)
    have l2 := val_lt (hb.take n)
    rw [List.length_take, Nat.min_eq_left (by omega)] at l1 l2
    rw [e1, e2]
    simp only [cmpN]
    have mono : ∀ x y : Nat, x < y → x * 4294967296 ^ n + 4294967296 ^ n ≤ y * 4294967296 ^ n := fun x y h => by
      have := Nat.mul_le_mul_right (4294967296 ^ n) (Nat.succ_le_of_lt h)
      rw [Nat.succ_mul] at this; exact this
    split
    · rename_i he
      rw [he, cmpN_val ha hb n (by omega) (by omega)]
      simp only [sgnN]
      split <;> split <;> try rfl
      all_goals first | omega | (split <;> first | rfl | omega) | skip
    · rename_i he
      split
      · rename_i hl
        have := mono _ _ hl
        simp only [sgnN]; rw [if_pos (by omega)]
      · rename_i hl
        have := mono _ _ (show b.getD n 0 < a.getD n 0 by omega)
        simp only [sgnN]; rw [if_neg (by omega), if_neg (by omega)]
theorem cmpN_all {a b : List Nat} (ha : Dig a) (hb : Dig b) (h : a.length = b.length) : cmpN a b a.length = sgnN (val a) (val b) := by
  rw [cmpN_val ha hb _ (Nat.le_refl _) (by omega), List.take_length, h, List.take_length]
theorem len_lt_val {x y : Nat} (h : (toDig x).length < (toDig y).length) : x < y := by
  have h1 := toDig_len_lt h
  have h2 := val_lt (dig_toDig x)
  rw [val_toDig] at h2
  omega
end Go.Plain
end
section
namespace Go.TM
open Go.Plain
set_option linter.unusedVariables false
set_option linter.unusedSimpArgs false
variable {M : Mach}
def put (st : St) (d : Nat) (v : TV) : St := { st with env := upd st.env d v }
def putO (st : St) (d : Nat) (v : TV) (k g : Nat) (o : Option Obj) : St := { st with env := upd st.env d v, obj := updO st.obj k g o }
def setO (st : St) (k g : Nat) (o : Option Obj) : St := { st with obj := updO st.obj k g o }
def bump (st : St) (d n : Nat) : St := { st with cnt := upd st.cnt d n }
theorem put_env (st : St) (d : Nat) (v : TV) (i : Nat) : (put st d v).env i = if i = d then v else st.env i := rfl
theorem put_obj (st : St) (d : Nat) (v : TV) : (put st d v).obj = st.obj := rfl
theorem put_cnt (st : St) (d : Nat) (v : TV) : (put st d v).cnt = st.cnt := rfl
theorem setO_env (st : St) (k g : Nat) (o : Option Obj) : (setO st k g o).env = st.env := rfl
theorem setO_obj (st : St) (k g : Nat) (o : Option Obj) (k' g' : Nat) : (setO st k g o).obj k' g' = if k' = k ∧ g' = g then o else st.obj k' g' := rfl
theorem setO_cnt (st : St) (k g : Nat) (o : Option Obj) : (setO st k g o).cnt = st.cnt := rfl
theorem bump_env (st : St) (d n : Nat) : (bump st d n).env = st.env := rfl
theorem bump_obj (st : St) (d n : Nat) : (bump st d n).obj = st.obj := rfl
theorem bump_cnt (st : St) (d n : Nat) (i : Nat) : (bump st d n).cnt i = if i = d then n else st.cnt i := rfl
theorem val_t (env : Nat → TV) (n : Nat) : val env (.t n) = env n := rfl
theorem val_c (env : Nat → TV) (v : TV) : val env (.c v) = v := rfl
theorem restrict_full (ob) : restrict ob .full = ob := rfl
theorem restrict_ap_rd (ob) (forb : List Nat) (k g : Nat) : restrict ob (.rd forb) k g = if forb.contains k then none else match ob k g with | some o => if o.box then none else some { o with solo := false, tip := false } | none => none := rfl
theorem restrict_ap_fb (ob) (forb : List Nat) (k g : Nat) : restrict ob (.fb forb) k g = if forb.contains k then none else ob k g := rfl
theorem restrict_ap_box (ob) (b k g : Nat) : restrict ob (.box b) k g = if k = b then (match ob k g with | some o => if o.box then some o else none | none => none) else none := rfl
theorem restrict_ap_none (ob) (k g : Nat) : restrict ob .none k g = none := rfl
theorem exec1_none (d : Option Nat) (op : TOp) (vk : Vk) (st : St) : exec1 M ⟨d, op, none, vk⟩ st = (ev op (d.getD 0) (st.cnt (d.getD 0)) (val st.env) (restrict st.obj vk)).bind fun e => match e with
      | .eff e => some (apply d e st)
      | .cal f vs k => (call M f vs).bind fun r => (k r).bind fun e => some (apply d e st) := by rw [exec1_eq]; rfl
theorem exec1_guard (d : Option Nat) (op : TOp) (g : Nat) (b : Bool) (vk : Vk) (st : St) : exec1 M ⟨d, op, some (g, b), vk⟩ st = match st.env g with
    | .bool c => if c = b then exec1 M ⟨d, op, none, vk⟩ st else some (apply d { v := .tup [] } st)
    | .tup _ => some (apply d { v := .tup [] } st)
    | _ => none := by
  rw [exec1_eq, exec1_none]
  simp only [wantedT]
  cases st.env g <;> simp
  rename_i c
  cases c <;> cases b <;> simp <;> rfl
def Pv (op : TOp) (env : Nat → TV) : Option TV := match op with
  | .mov x => some (val env x)
  | .pick q a b => match val env q with
    | .bool true => some (val env a)
    | .bool false => some (val env b)
    | _ => none
  | .bin b op x y => binTV b op (val env x) (val env y)
  | .un op x => unTV op (val env x)
  | .conv k x => match val env x with
    | .int _ n => some (.int k (k.wrap n))
    | _ => none
  | .faddr off p => match val env p with
    | .ptr k g i j => some (.ptr k g i (j + off))
    | .rptr cs j => some (.rptr cs (j + off))
    | _ => none
  | .iaddr e x i => match val env x, val env i with
    | .hs k g e' n, .int _ ix => if 0 ≤ ix ∧ ix < n ∧ e' = e then some (.ptr k g ix.toNat 0) else none
    | .sl xs, .int _ ix => if 0 ≤ ix then match xs[ix.toNat]? with
        | some cs => if cs.length = e then some (.rptr cs 0) else none
        | none => none
      else none
    | _, _ => none
  | .field off n ag x => match val env x with
    | .agg cs => pull cs off n ag
    | _ => none
  | .build zero parts => (buildParts (val env) zero parts).map fun cs => .agg cs
  | .len s x => match s, val env x with
    | false, .sl xs => some (.int .i64 xs.length)
    | false, .hs _ _ _ n => some (.int .i64 n)
    | false, .nils => some (.int .i64 0)
    | true, .str s => some (.int .i64 s.size)
    | _, _ => none
  | .mxn isMax x y => match val env x, val env y with
    | .int k a, .int k' b => if k = k' then some (.int k (if isMax then (if b > a then b else a) else (if b < a then b else a))) else none
    | _, _ => none
  | .index x i => match val env x, val env i with
    | .str s, .int _ ix => if 0 ≤ ix then match s[ix.toNat]? with
        | some b => some (.int .u8 b.toNat)
        | none => none
      else none
    | _, _ => none
  | .extract x i => match val env x with
    | .tup vs => vs[i]?
    | _ => none
  | _ => none
def isPv : TOp → Bool
  | .mov _ | .pick .. | .bin .. | .un .. | .conv .. | .faddr .. | .iaddr .. | .field .. | .build .. | .len .. | .mxn .. | .index .. | .extract .. => true
  | _ => false
theorem ops_pv {op : TOp} (h : isPv op = true) (d : Nat) (vk : Vk) (r : List TStep) (st : St) : execOps M (⟨some d, op, none, vk⟩ :: r) st = (Pv op st.env).bind fun v => execOps M r (put st d v) := by
  rw [ops_cons, exec1_none]
  cases op <;> first | (simp [isPv] at h; done) | skip
  case mov x => rfl
  case pick q a b => simp only [ev, Pv]; cases val st.env q <;> try rfl
                     rename_i c; cases c <;> rfl
  case bin => simp only [ev, Pv]; cases binTV _ _ _ _ <;> rfl
  case un => simp only [ev, Pv]; cases unTV _ _ <;> rfl
  case conv => simp only [ev, Pv]; cases val st.env _ <;> rfl
  case faddr => simp only [ev, Pv]; cases val st.env _ <;> rfl
  case iaddr e x i => simp only [ev, Pv]; cases val st.env x <;> cases val st.env i <;> try rfl
                      · (try simp only []); split <;> rename_i h1
                        · split <;> rename_i h2 <;> simp only [h2] <;> try rfl
                          split <;> rfl
                        · rfl
                      · (try simp only []); split <;> rfl
  case field => simp only [ev, Pv]; cases val st.env _ <;> try rfl
                (try simp only []); cases pull _ _ _ _ <;> rfl
  case build => simp only [ev, Pv]; cases buildParts _ _ _ <;> rfl
  case len s x => simp only [ev, Pv]; cases s <;> cases val st.env x <;> rfl
  case mxn m x y => simp only [ev, Pv]; cases val st.env x <;> cases val st.env y <;> try rfl
                    (try simp only []); split <;> rfl
  case index x i => simp only [ev, Pv]; cases val st.env x <;> cases val st.env i <;> try rfl
                    (try simp only []); split <;> try rfl
                    split <;> rename_i h2 <;> simp only [h2] <;> rfl
  case extract x i => simp only [ev, Pv]; cases val st.env x <;> try rfl
                      rename_i vs; cases hv : vs[i]? <;> simp [hv]; rfl
section
variable (d : Nat) (vk : Vk) (r : List TStep) (st : St)
theorem ops_mov (x) : execOps M (⟨some d, .mov x, none, vk⟩ :: r) st = execOps M r (put st d (val st.env x)) := ops_pv rfl ..
theorem ops_pick (q a b) : execOps M (⟨some d, .pick q a b, none, vk⟩ :: r) st = (match val st.env q with
    | .bool true => some (val st.env a)
    | .bool false => some (val st.env b)
    | _ => none).bind fun v => execOps M r (put st d v) := ops_pv rfl ..
theorem ops_bin (b op x y) : execOps M (⟨some d, .bin b op x y, none, vk⟩ :: r) st = (binTV b op (val st.env x) (val st.env y)).bind fun v => execOps M r (put st d v) := ops_pv rfl ..
theorem ops_un (op x) : execOps M (⟨some d, .un op x, none, vk⟩ :: r) st = (unTV op (val st.env x)).bind fun v => execOps M r (put st d v) := ops_pv rfl ..
def convTV (k : IntKind) : TV → Option TV
  | .int _ n => some (.int k (k.wrap n))
  | _ => none
theorem ops_conv (k x) : execOps M (⟨some d, .conv k x, none, vk⟩ :: r) st = (convTV k (val st.env x)).bind fun v => execOps M r (put st d v) := by
  rw [ops_pv rfl]; simp only [Pv, convTV]
def faddrTV (off : Nat) : TV → Option TV
  | .ptr k g i j => some (.ptr k g i (j + off))
  | .rptr cs j => some (.rptr cs (j + off))
  | _ => none
theorem ops_faddr (off p) : execOps M (⟨some d, .faddr off p, none, vk⟩ :: r) st = (faddrTV off (val st.env p)).bind fun v => execOps M r (put st d v) := by
  rw [ops_pv rfl]; simp only [Pv, faddrTV]
def iaddrTV (e : Nat) (x i : TV) : Option TV := match x, i with
  | .hs k g e' n, .int _ ix => if 0 ≤ ix ∧ ix < n ∧ e' = e then some (.ptr k g ix.toNat 0) else none
  | .sl xs, .int _ ix => if 0 ≤ ix then match xs[ix.toNat]? with
      | some cs => if cs.length = e then some (.rptr cs 0) else none
      | none => none
    else none
  | _, _ => none
theorem ops_iaddr (e x i) : execOps M (⟨some d, .iaddr e x i, none, vk⟩ :: r) st = (iaddrTV e (val st.env x) (val st.env i)).bind fun v => execOps M r (put st d v) := by
  rw [ops_pv rfl]; simp only [Pv, iaddrTV]
theorem iaddr_hs {e k g n : Nat} {i : Nat} {kk} (h : i < n) : iaddrTV e (.hs k g e n) (.int kk (i : Int)) = some (.ptr k g i 0) := by
  simp only [iaddrTV]; rw [if_pos (by simp; omega)]; rfl
theorem iaddr_sl {e : Nat} {xs : Cont} {i : Nat} {kk cs} (h : xs[i]? = some cs) (hc : cs.length = e) : iaddrTV e (.sl xs) (.int kk (i : Int)) = some (.rptr cs 0) := by
  simp only [iaddrTV]; rw [if_pos (by omega)]; simp [h, hc]
def fieldTV (off n : Nat) (ag : Bool) : TV → Option TV
  | .agg cs => pull cs off n ag
  | _ => none
theorem ops_field (off n ag x) : execOps M (⟨some d, .field off n ag x, none, vk⟩ :: r) st = (fieldTV off n ag (val st.env x)).bind fun v => execOps M r (put st d v) := by
  rw [ops_pv rfl]; simp only [Pv, fieldTV]
theorem ops_build (z ps) : execOps M (⟨some d, .build z ps, none, vk⟩ :: r) st = ((buildParts (val st.env) z ps).map fun cs => TV.agg cs).bind fun v => execOps M r (put st d v) := ops_pv rfl ..
def lenTV (s : Bool) (x : TV) : Option TV := match s, x with
  | false, .sl xs => some (.int .i64 xs.length)
  | false, .hs _ _ _ n => some (.int .i64 n)
  | false, .nils => some (.int .i64 0)
  | true, .str s => some (.int .i64 s.size)
  | _, _ => none
theorem ops_len (s x) : execOps M (⟨some d, .len s x, none, vk⟩ :: r) st = (lenTV s (val st.env x)).bind fun v => execOps M r (put st d v) := by
  rw [ops_pv rfl]; simp only [Pv, lenTV]
theorem ops_mxn (m x y) : execOps M (⟨some d, .mxn m x y, none, vk⟩ :: r) st = (match val st.env x, val st.env y with
    | .int k a, .int k' b => if k = k' then some (TV.int k (if m then (if b > a then b else a) else (if b < a then b else a))) else none
    | _, _ => none).bind fun v => execOps M r (put st d v) := ops_pv rfl ..
def extractTV (x : TV) (i : Nat) : Option TV := match x with
  | .tup vs => vs[i]?
  | _ => none
theorem ops_extract (x i) : execOps M (⟨some d, .extract x i, none, vk⟩ :: r) st = (extractTV (val st.env x) i).bind fun v => execOps M r (put st d v) := by
  rw [ops_pv rfl]; simp only [Pv, extractTV]
theorem ops_ev (dd : Option Nat) (op : TOp) : execOps M (⟨dd, op, none, vk⟩ :: r) st = (ev op (dd.getD 0) (st.cnt (dd.getD 0)) (val st.env) (restrict st.obj vk)).bind fun e => match e with
    | .eff e => execOps M r (apply dd e st)
    | .cal f vs k => (call M f vs).bind fun rs => (k rs).bind fun e => execOps M r (apply dd e st) := by
  rw [ops_cons, exec1_none]
  cases ev op (dd.getD 0) (st.cnt (dd.getD 0)) (val st.env) (restrict st.obj vk) with
  | none => rfl
  | some e =>
    cases e with
    | eff e => rfl
    | cal f vs k =>
      simp only [Option.bind_some]
      cases call M f vs with
      | none => rfl
      | some rs => simp only [Option.bind_some]; cases k rs <;> rfl
theorem ops_guard (dd : Option Nat) (op : TOp) (g : Nat) (b : Bool) : execOps M (⟨dd, op, some (g, b), vk⟩ :: r) st = match st.env g with
    | .bool c => if c = b then execOps M (⟨dd, op, none, vk⟩ :: r) st else execOps M r (apply dd { v := .tup [] } st)
    | .tup _ => execOps M r (apply dd { v := .tup [] } st)
    | _ => none := by
  rw [ops_cons, exec1_guard]
  cases st.env g <;> try rfl
  simp only []
  split
  · rw [ops_cons]
  · rfl
end
theorem apply_put (d : Nat) (v : TV) (st : St) : apply (some d) { v := v } st = put st d v := rfl
theorem apply_new1 (d : Nat) (v : TV) (o : Obj) (st : St) : apply (some d) { v := v, new := [o] } st = bump (putO st d v d (st.cnt d) (some o)) d (st.cnt d + 1) := rfl
theorem putO_env (st : St) (d : Nat) (v : TV) (k g o) (i : Nat) : (putO st d v k g o).env i = if i = d then v else st.env i := rfl
theorem putO_obj (st : St) (d : Nat) (v : TV) (k g o) (k' g' : Nat) : (putO st d v k g o).obj k' g' = if k' = k ∧ g' = g then o else st.obj k' g' := rfl
theorem putO_cnt (st : St) (d : Nat) (v : TV) (k g o) : (putO st d v k g o).cnt = st.cnt := rfl
section
variable (d : Nat) (vk : Vk) (r : List TStep) (st : St)
def loadTV (ob : Nat → Nat → Option Obj) (n : Nat) (ag : Bool) : TV → Option TV
  | .ptr k g i j => match ob k g with
      | some o => match o.cont[i]? with
        | some e => pull e j n ag
        | none => none
      | none => none
  | .rptr cs j => pull cs j n ag
  | _ => none
theorem ops_load (n ag p) : execOps M (⟨some d, .load n ag p, none, vk⟩ :: r) st = (loadTV (restrict st.obj vk) n ag (val st.env p)).bind fun v => execOps M r (put st d v) := by
  rw [ops_ev]
  simp only [ev, loadTV]
  cases val st.env p <;> try rfl
  · rename_i k g i j
    simp only []
    cases restrict st.obj vk k g with
    | none => rfl
    | some o =>
      simp only []
      cases o.cont[i]? with
      | none => rfl
      | some e => simp only []; cases pull e j n ag <;> rfl
  · simp only []; cases pull _ _ _ _ <;> rfl
theorem ops_store {n k g i j : Nat} {p x : Opd} {o : Obj} {e : List TV} (hp : val st.env p = .ptr k g i j) (ho : restrict st.obj vk k g = some o) (he : o.cont[i]? = some e) (hs : o.solo = true) (hb : o.box = false)
    (hx : trees (restrict st.obj vk) (val st.env x).cells = some (val st.env x).cells) (hh : hands (val st.env x) = []) (hn : (val st.env x).cells.length = n) (hj : j + n ≤ e.length) :
    execOps M (⟨none, .store n p x, none, vk⟩ :: r) st = execOps M r (setO st k g (some { o with cont := o.cont.set i (splice e j (val st.env x).cells) })) := by
  rw [ops_ev]
  simp only [ev, hp, ho, he, hs, hb, hx, hh, hn, hj]
  simp
  rfl
theorem ops_storeB {n k g i j : Nat} {p x : Opd} {o : Obj} {e : List TV} (hp : val st.env p = .ptr k g i j) (ho : restrict st.obj vk k g = some o) (he : o.cont[i]? = some e) (hs : o.solo = true) (hb : o.box = true)
    (hn : (val st.env x).cells.length = n) (hj : j + n ≤ e.length) :
    execOps M (⟨none, .store n p x, none, vk⟩ :: r) st = execOps M r (setO st k g (some { o with cont := o.cont.set i (splice e j (val st.env x).cells) })) := by
  rw [ops_ev]
  simp only [ev, hp, ho, he, hs, hb, hn, hj]
  simp
  rfl
theorem ops_mk (e z n) {m : Nat} (hn : val st.env n = .int .i64 (m : Int)) (hm : m < 2147483648) : execOps M (⟨some d, .mk e z n, none, vk⟩ :: r) st =
    execOps M r (bump (putO st d (.hs d (st.cnt d) e m) d (st.cnt d) (some { cont := List.replicate m z, esz := e, box := false, solo := true, tip := true })) d (st.cnt d + 1)) := by
  rw [ops_ev]
  simp only [ev, hn]
  rw [if_pos ⟨by omega, by omega⟩]
  rfl
theorem ops_call0 (f args) {vs v} (ha : argsOf (restrict st.obj vk) [] 0 (args.map (val st.env)) = some vs) (hc : ∃ rv, call M f vs = some (rv, []) ∧ view rv = v) (hh : hasSl v = true → heldOf [] 0 (args.map (val st.env)) = []) :
    execOps M (⟨some d, .call f 0 [] args, none, vk⟩ :: r) st = execOps M r (put st d v) := by
  obtain ⟨rv, h1, h2⟩ := hc
  rw [ops_ev]
  simp only [ev, ha, Option.bind_some, h1, callEff]
  simp
  rw [h2]
  cases hs : hasSl v with
  | false => simp; rfl
  | true => simp [hh hs]; rfl
end
def Gives (M : Mach) (f : Nat) (args : List TV) (v : TV) : Prop := ∃ rv, call M f args = some (rv, []) ∧ view rv = v
def dig (ds : List Nat) : Cont := ds.map fun d : Nat => [TV.int .u32 (d : Int)]
abbrev rawI (neg : Bool) (ds : List Nat) : TV := .agg [.bool neg, .sl (dig ds)]
def ival (neg : Bool) (ds : List Nat) : Int := if neg then -(Go.Plain.val ds : Int) else Go.Plain.val ds
abbrev encI (z : Int) : TV := rawI (decide (z < 0)) (toDig z.natAbs)
theorem dig_len (ds : List Nat) : (dig ds).length = ds.length := by simp [dig]
theorem dig_get {ds : List Nat} {i : Nat} (h : i < ds.length) : (dig ds)[i]? = some [.int .u32 (ds.getD i 0 : Nat)] := by
  simp [dig, List.getD_eq_getElem?_getD, List.getElem?_eq_getElem h]
theorem dig_take (ds : List Nat) (n : Nat) : (dig ds).take n = dig (ds.take n) := by simp [dig, List.map_take]
theorem dig_drop (ds : List Nat) (n : Nat) : (dig ds).drop n = dig (ds.drop n) := by simp [dig, List.map_drop]
theorem dig_set (ds : List Nat) (i d : Nat) : (dig ds).set i [.int .u32 (d : Int)] = dig (ds.set i d) := by simp [dig, List.map_set]
theorem dig_app (aa bs : List Nat) : dig aa ++ dig bs = dig (aa ++ bs) := by simp [dig]
theorem dig_rep (n : Nat) : List.replicate n [TV.int .u32 0] = dig (List.replicate n 0) := by simp [dig]
theorem dig_nil : dig [] = [] := rfl
theorem uni_dig (ds : List Nat) : uni 1 (dig ds) = true := by cases ds <;> rfl
theorem wrap_u32 (n : Nat) : IntKind.u32.wrap (n : Int) = ((n % 4294967296 : Nat) : Int) := by simp only [IntKind.wrap, IntKind.bits, IntKind.signed]; simp
theorem wrap_u64 (n : Nat) : IntKind.u64.wrap (n : Int) = ((n % 18446744073709551616 : Nat) : Int) := by simp only [IntKind.wrap, IntKind.bits, IntKind.signed]; simp
theorem wrap_i64 {n : Int} (h : -9223372036854775808 ≤ n) (h2 : n < 9223372036854775808) : IntKind.i64.wrap n = n := by simp only [IntKind.wrap, IntKind.bits, IntKind.signed]; simp; omega
end Go.TM
end
section
namespace Go.TM
open Go.Plain
set_option linter.unusedVariables false
set_option linter.unusedSimpArgs false
variable {M : Mach}
def Wp (M : Mach) (ops : List TStep) (Q : St → Prop) (st : St) : Prop := ∃ s, execOps M ops st = some s ∧ Q s
def WpV (M : Mach) (r : List TStep) (Q : St → Prop) (st : St) (d : Nat) (o : Option TV) : Prop := ∃ v, o = some v ∧ Wp M r Q (put st d v)
def thenQ (M : Mach) (b : TCode) (Q : Ex → St → Prop) (e : Ex) (s : St) : Prop := match e with
  | .norm => Goes M b Q s
  | e => Q e s
def blockQ (id : Nat) (Q : Ex → St → Prop) (e : Ex) (s : St) : Prop := Q (if e = .exit id then .norm else e) s
def unsol (b : Bool) (hs : List (Nat × Nat)) (st : St) : St := if b then { st with obj := hs.foldl unsolo1 st.obj } else st
theorem thenQ_norm (b Q s) : thenQ M b Q .norm s = Goes M b Q s := rfl
theorem thenQ_exit (b Q s i) : thenQ M b Q (.exit i) s = Q (.exit i) s := rfl
theorem thenQ_ret (b Q s) : thenQ M b Q .ret s = Q .ret s := rfl
theorem blockQ_norm (i Q s) : blockQ i Q .norm s = Q .norm s := rfl
theorem blockQ_ret (i Q s) : blockQ i Q .ret s = Q .ret s := rfl
theorem blockQ_exit (i j Q s) : blockQ i Q (.exit j) s = if j = i then Q .norm s else Q (.exit j) s := by
  simp only [blockQ]; by_cases h : j = i
  · subst h; simp
  · simp [h]
theorem unsol_nil (b st) : unsol b [] st = st := by cases b <;> rfl
theorem unsol_false (hs st) : unsol false hs st = st := rfl
theorem wp_seq (a b Q) (st : St) : Goes M (.seq a b) Q st = Goes M a (thenQ M b Q) st := by
  apply propext; constructor
  · rintro ⟨e, s, h1, h2⟩
    rw [exec_seq] at h1
    cases h : exec M a st with
    | none => rw [h] at h1; cases h1
    | some p =>
      obtain ⟨e1, s1⟩ := p
      rw [h] at h1
      cases e1 with
      | norm => exact ⟨.norm, s1, h, e, s, h1, h2⟩
      | exit i => cases h1; exact ⟨_, _, h, h2⟩
      | ret => cases h1; exact ⟨_, _, h, h2⟩
  · rintro ⟨e, s, h1, h2⟩
    refine Goes.seq ⟨e, s, h1, ?_⟩
    cases e <;> exact h2
theorem wp_reg (ops Q) (st : St) : Goes M (.reg ops) Q st = Wp M ops (Q .norm) st := by
  apply propext; constructor
  · rintro ⟨e, s, h1, h2⟩
    rw [exec_reg] at h1
    cases h : execOps M ops st with
    | none => rw [h] at h1; cases h1
    | some s1 => rw [h] at h1; cases h1; exact ⟨_, h, h2⟩
  · rintro ⟨s, h1, h2⟩; exact Goes.reg h1 h2
theorem wp_skip (Q) (st : St) : Goes M .skip Q st = Q .norm st := by
  apply propext; constructor
  · rintro ⟨e, s, h1, h2⟩; rw [exec_skip] at h1; cases h1; exact h2
  · exact Goes.skip
theorem wp_exit (i Q) (st : St) : Goes M (.exit i) Q st = Q (.exit i) st := by
  apply propext; constructor
  · rintro ⟨e, s, h1, h2⟩; rw [exec_exit] at h1; cases h1; exact h2
  · exact Goes.exit
theorem wp_ret (Q) (st : St) : Goes M .ret Q st = Q .ret st := by
  apply propext; constructor
  · rintro ⟨e, s, h1, h2⟩; rw [exec_ret] at h1; cases h1; exact h2
  · exact Goes.ret
theorem wp_block (i a Q) (st : St) : Goes M (.block i a) Q st = Goes M a (blockQ i Q) st := by
  apply propext; constructor
  · rintro ⟨e, s, h1, h2⟩
    rw [exec_block] at h1
    cases h : exec M a st with
    | none => rw [h] at h1; cases h1
    | some p => rw [h] at h1; cases h1; exact ⟨_, _, h, h2⟩
  · exact Goes.block
theorem wp_loop (a Q) (st : St) : Goes M (.loop a) Q st = Goes M a (thenQ M (.loop a) Q) st := by
  apply propext; constructor
  · rintro ⟨e, s, h1, h2⟩
    rw [exec_loop] at h1
    cases h : exec M a st with
    | none => rw [h] at h1; cases h1
    | some p =>
      obtain ⟨e1, s1⟩ := p
      rw [h] at h1
      cases e1 with
      | norm => exact ⟨.norm, s1, h, e, s, h1, h2⟩
      | exit i => cases h1; exact ⟨_, _, h, h2⟩
      | ret => cases h1; exact ⟨_, _, h, h2⟩
  · rintro ⟨e, s, h1, h2⟩
    refine Goes.loop ⟨e, s, h1, ?_⟩
    cases e <;> exact h2
def WpC (M : Mach) (a b : TCode) (Q : Ex → St → Prop) (st : St) (x : TV) : Prop := match x with
  | .bool true => Goes M a Q st
  | .bool false => Goes M b Q st
  | _ => False
theorem wp_cond (x a b Q) (st : St) : Goes M (.cond x a b) Q st = WpC M a b Q st (Go.TM.val st.env x) := by
  apply propext; constructor
  · rintro ⟨e, s, h1, h2⟩
    rw [exec_cond] at h1
    cases h : Go.TM.val st.env x <;> rw [h] at h1 <;> try cases h1
    rename_i c; cases c
    · exact ⟨e, s, h1, h2⟩
    · exact ⟨e, s, h1, h2⟩
  · intro h
    cases hx : Go.TM.val st.env x <;> rw [hx] at h <;> try cases h
    rename_i c; cases c
    · exact Goes.condF hx h
    · exact Goes.condT hx h
theorem wpc_t (a b Q) (st : St) : WpC M a b Q st (.bool true) = Goes M a Q st := rfl
theorem wpc_f (a b Q) (st : St) : WpC M a b Q st (.bool false) = Goes M b Q st := rfl
theorem wpv_some (r Q st d v) : WpV M r Q st d (some v) = Wp M r Q (put st d v) := by
  apply propext; constructor
  · rintro ⟨_, h, h2⟩; cases h; exact h2
  · intro h; exact ⟨_, rfl, h⟩
theorem wp_nil (Q) (st : St) : Wp M [] Q st = Q st := by
  apply propext; constructor
  · rintro ⟨_, h, h2⟩; rw [ops_nil] at h; cases h; exact h2
  · intro h; exact ⟨_, ops_nil _, h⟩
theorem wp_bind {o : Option TV} {ops r : List TStep} {Q : St → Prop} {st : St} {d : Nat} (h : execOps M ops st = o.bind fun v => execOps M r (put st d v)) : Wp M ops Q st = WpV M r Q st d o := by
  apply propext; constructor
  · rintro ⟨s, h1, h2⟩
    rw [h] at h1
    cases ho : o with
    | none => rw [ho] at h1; cases h1
    | some v => rw [ho] at h1; exact ⟨v, rfl, s, h1, h2⟩
  · rintro ⟨v, rfl, s, h1, h2⟩; exact ⟨s, by rw [h]; exact h1, h2⟩
section
variable (d : Nat) (vk : Vk) (r : List TStep) (Q : St → Prop) (st : St)
theorem wp_mov (x) : Wp M (⟨some d, .mov x, none, vk⟩ :: r) Q st = Wp M r Q (put st d (Go.TM.val st.env x)) := by unfold Wp; rw [ops_mov]
def pickTV (q a b : TV) : Option TV := match q with
    | .bool true => some a
    | .bool false => some b
    | _ => none
theorem wp_pick (q a b) : Wp M (⟨some d, .pick q a b, none, vk⟩ :: r) Q st = WpV M r Q st d (pickTV (Go.TM.val st.env q) (Go.TM.val st.env a) (Go.TM.val st.env b)) := wp_bind (ops_pick ..)
theorem wp_bin (b op x y) : Wp M (⟨some d, .bin b op x y, none, vk⟩ :: r) Q st = WpV M r Q st d (binTV b op (Go.TM.val st.env x) (Go.TM.val st.env y)) := wp_bind (ops_bin ..)
theorem wp_un (op x) : Wp M (⟨some d, .un op x, none, vk⟩ :: r) Q st = WpV M r Q st d (unTV op (Go.TM.val st.env x)) := wp_bind (ops_un ..)
theorem wp_conv (k x) : Wp M (⟨some d, .conv k x, none, vk⟩ :: r) Q st = WpV M r Q st d (convTV k (Go.TM.val st.env x)) := wp_bind (ops_conv ..)
theorem wp_faddr (o x) : Wp M (⟨some d, .faddr o x, none, vk⟩ :: r) Q st = WpV M r Q st d (faddrTV o (Go.TM.val st.env x)) := wp_bind (ops_faddr ..)
theorem wp_iaddr (e x i) : Wp M (⟨some d, .iaddr e x i, none, vk⟩ :: r) Q st = WpV M r Q st d (iaddrTV e (Go.TM.val st.env x) (Go.TM.val st.env i)) := wp_bind (ops_iaddr ..)
theorem wp_field (o n ag x) : Wp M (⟨some d, .field o n ag x, none, vk⟩ :: r) Q st = WpV M r Q st d (fieldTV o n ag (Go.TM.val st.env x)) := wp_bind (ops_field ..)
theorem wp_build (z ps) : Wp M (⟨some d, .build z ps, none, vk⟩ :: r) Q st = WpV M r Q st d ((buildParts (Go.TM.val st.env) z ps).map fun cs => TV.agg cs) := wp_bind (ops_build ..)
theorem wp_len (s x) : Wp M (⟨some d, .len s x, none, vk⟩ :: r) Q st = WpV M r Q st d (lenTV s (Go.TM.val st.env x)) := wp_bind (ops_len ..)
theorem wp_mxn (m x y) : Wp M (⟨some d, .mxn m x y, none, vk⟩ :: r) Q st = WpV M r Q st d (match Go.TM.val st.env x, Go.TM.val st.env y with
    | .int k a, .int k' b => if k = k' then some (TV.int k (if m then (if b > a then b else a) else (if b < a then b else a))) else none
    | _, _ => none) := wp_bind (ops_mxn ..)
theorem wp_extract (x i) : Wp M (⟨some d, .extract x i, none, vk⟩ :: r) Q st = WpV M r Q st d (extractTV (Go.TM.val st.env x) i) := wp_bind (ops_extract ..)
theorem wp_load (n ag p) : Wp M (⟨some d, .load n ag p, none, vk⟩ :: r) Q st = WpV M r Q st d (loadTV (restrict st.obj vk) n ag (Go.TM.val st.env p)) := wp_bind (ops_load ..)
theorem wp_box (n x) : Wp M (⟨some d, .box n x, none, vk⟩ :: r) Q st = ((Go.TM.val st.env x).cells.length = n ∧ Wp M r Q (bump (putO st d (.ptr d (st.cnt d) 0 0) d (st.cnt d) (some { cont := [(Go.TM.val st.env x).cells], esz := n, box := true, solo := true, tip := false })) d (st.cnt d + 1))) := by
  unfold Wp; rw [ops_ev]; simp only [ev, Option.getD_some]
  by_cases h : (Go.TM.val st.env x).cells.length = n
  · simp [h]; rfl
  · simp [h]
theorem wp_alloc (cs) : Wp M (⟨some d, .alloc cs, none, vk⟩ :: r) Q st = Wp M r Q (bump (putO st d (.ptr d (st.cnt d) 0 0) d (st.cnt d) (some { cont := [cs], esz := cs.length, box := true, solo := true, tip := false })) d (st.cnt d + 1)) := by
  unfold Wp; rw [ops_ev]; simp only [ev, Option.getD_some, Option.bind_some]; rfl
def WpE (e : Option Eff) (P : Eff → Prop) : Prop := ∃ x, e = some x ∧ P x
theorem wpe_some (v P) : WpE (some v) P = P v := by
  apply propext; constructor
  · rintro ⟨_, h, h2⟩; cases h; exact h2
  · intro h; exact ⟨_, rfl, h⟩
def WpEv (M : Mach) (o : Option Ev) (P : Eff → Prop) : Prop := ∃ x, o = some x ∧ match x with
  | .eff e => P e
  | .cal f vs k => ∃ rs, call M f vs = some rs ∧ ∃ e, k rs = some e ∧ P e
theorem wp_ev (dd : Option Nat) (op : TOp) : Wp M (⟨dd, op, none, vk⟩ :: r) Q st = WpEv M (ev op (dd.getD 0) (st.cnt (dd.getD 0)) (Go.TM.val st.env) (restrict st.obj vk)) fun e => Wp M r Q (apply dd e st) := by
  unfold Wp WpEv; rw [ops_ev]
  apply propext; constructor
  · rintro ⟨s, h1, h2⟩
    cases he : ev op (dd.getD 0) (st.cnt (dd.getD 0)) (Go.TM.val st.env) (restrict st.obj vk) with
    | none => rw [he] at h1; cases h1
    | some e =>
      rw [he] at h1
      refine ⟨e, rfl, ?_⟩
      cases e with
      | eff e => exact ⟨s, h1, h2⟩
      | cal f vs k =>
        simp only [Option.bind_some] at h1
        cases hc : call M f vs with
        | none => rw [hc] at h1; cases h1
        | some rs =>
          rw [hc] at h1; simp only [Option.bind_some] at h1
          cases hk : k rs with
          | none => rw [hk] at h1; cases h1
          | some e => rw [hk] at h1; exact ⟨rs, hc, e, hk, s, h1, h2⟩
  · rintro ⟨e, he, h⟩
    rw [he]
    cases e with
    | eff e => obtain ⟨s, h1, h2⟩ := h; exact ⟨s, h1, h2⟩
    | cal f vs k =>
      obtain ⟨rs, h1, e, h2, s, h3, h4⟩ := h
      exact ⟨s, by simp [h1, h2]; exact h3, h4⟩
theorem wpev_eff (e P) : WpEv M (some (.eff e)) P = P e := by
  apply propext; constructor
  · rintro ⟨_, h, h2⟩; cases h; exact h2
  · intro h; exact ⟨_, rfl, h⟩
def WpG (M : Mach) (dd : Option Nat) (op : TOp) (vk : Vk) (r : List TStep) (Q : St → Prop) (st : St) (b : Bool) (v : TV) : Prop := match v with
    | .bool c => if c = b then Wp M (⟨dd, op, none, vk⟩ :: r) Q st else Wp M r Q (apply dd { v := .tup [] } st)
    | .tup _ => Wp M r Q (apply dd { v := .tup [] } st)
    | _ => False
theorem wp_guard (dd : Option Nat) (op : TOp) (g : Nat) (b : Bool) : Wp M (⟨dd, op, some (g, b), vk⟩ :: r) Q st = WpG M dd op vk r Q st b (st.env g) := by
  unfold WpG
  simp only [Wp]
  rw [ops_guard]
  cases st.env g <;> try simp
  split <;> simp_all
theorem wpg_tt (dd op) : WpG M dd op vk r Q st true (.bool true) = Wp M (⟨dd, op, none, vk⟩ :: r) Q st := rfl
theorem wpg_ff (dd op) : WpG M dd op vk r Q st false (.bool false) = Wp M (⟨dd, op, none, vk⟩ :: r) Q st := rfl
theorem wpg_tf (dd op) : WpG M dd op vk r Q st true (.bool false) = Wp M r Q (apply dd { v := .tup [] } st) := rfl
theorem wpg_ft (dd op) : WpG M dd op vk r Q st false (.bool true) = Wp M r Q (apply dd { v := .tup [] } st) := rfl
theorem wpg_tup (dd op b vs) : WpG M dd op vk r Q st b (.tup vs) = Wp M r Q (apply dd { v := .tup [] } st) := rfl
def WpCall (M : Mach) (r : List TStep) (Q : St → Prop) (st : St) (d f : Nat) (hs : List (Nat × Nat)) (o : Option (List TV)) : Prop := ∃ vs v, o = some vs ∧ Gives M f vs v ∧ Wp M r Q (put (unsol (hasSl v) hs st) d v)
theorem wp_call (f args) : Wp M (⟨some d, .call f 0 [] args, none, vk⟩ :: r) Q st = WpCall M r Q st d f (heldOf [] 0 (args.map (Go.TM.val st.env))) (argsOf (restrict st.obj vk) [] 0 (args.map (Go.TM.val st.env))) := by
  rw [wp_ev]
  unfold WpEv WpCall Gives
  simp only [ev]
  apply propext
  cases ha : argsOf (restrict st.obj vk) [] 0 (args.map (Go.TM.val st.env)) with
  | none => simp
  | some vs =>
    simp only [Option.some.injEq]
    have key : ∀ (rv : Res) (e : Eff), callEff 0 [] ((some d).getD 0) (st.cnt ((some d).getD 0)) (restrict st.obj vk) (args.map (Go.TM.val st.env)) rv = some e ↔ rv.2 = [] ∧ e = { v := view rv.1, unsolo := if hasSl (view rv.1) then heldOf [] 0 (args.map (Go.TM.val st.env)) else [] } := by
      intro rv e
      simp only [callEff]
      simp
      intro _; exact eq_comm
    have ap : ∀ v : TV, apply (some d) { v := v, unsolo := if hasSl v then heldOf [] 0 (args.map (Go.TM.val st.env)) else [] } st = put (unsol (hasSl v) (heldOf [] 0 (args.map (Go.TM.val st.env))) st) d v := by
      intro v; cases hasSl v <;> rfl
    constructor
    · rintro ⟨x, rfl, rv, h1, e, h2, h3⟩
      obtain ⟨h4, rfl⟩ := (key rv e).1 h2
      obtain ⟨v, w⟩ := rv
      simp only at h4; subst h4
      exact ⟨vs, view v, rfl, ⟨v, h1, rfl⟩, by rw [← ap]; exact h3⟩
    · rintro ⟨_, v, rfl, ⟨rv, h1, rfl⟩, h2⟩
      exact ⟨_, rfl, (rv, []), h1, _, (key _ _).2 ⟨rfl, rfl⟩, by rw [ap]; exact h2⟩
end
theorem wpcall {r Q st d f hs vs v} (h : Gives M f vs v) (hp : Wp M r Q (put (unsol (hasSl v) hs st) d v)) : WpCall M r Q st d f hs (some vs) := ⟨vs, v, rfl, h, hp⟩
theorem Gives.det {f vs v v'} (h : Gives M f vs v) (h' : Gives M f vs v') : v = v' := by
  obtain ⟨r, h1, rfl⟩ := h
  obtain ⟨r', h2, rfl⟩ := h'
  rw [h1] at h2; cases h2; rfl
theorem wpcall_eq {f vs v} (h : Gives M f vs v) (r Q st d hs) : WpCall M r Q st d f hs (some vs) = Wp M r Q (put (unsol (hasSl v) hs st) d v) := by
  apply propext; constructor
  · rintro ⟨vs', v', h0, h1, h2⟩; cases h0; rw [h.det h1]; exact h2
  · exact wpcall h
theorem cast0 : ((0 : Nat) : Int) = 0 := rfl
theorem cast1 : ((1 : Nat) : Int) = 1 := rfl
def finishR (res : List TRes) (args : List TV) (st : St) : Option Res :=
  match resVals st res, mutsOf st 0 args with
  | some vs, some ms =>
    if hasOwn args = true ∧ (vs.flatMap hands ≠ [] ∨ ms.all flat = false) then none
    else match vs with
      | [v] => if once (hands v) = true then (out st.obj v).map fun u => (u, ms) else none
      | vs => (treeAll st.obj vs).map fun us => (.tup us, ms)
  | _, _ => none
def RetQ (res : List TRes) (args : List TV) (v : TV) (e : Ex) (s : St) : Prop := match e with
  | .exit _ => False
  | _ => ∃ rv, finishR res args s = some (rv, []) ∧ view rv = v
theorem retQ_norm (F args v s) : RetQ F args v .norm s = ∃ rv, finishR F args s = some (rv, []) ∧ view rv = v := rfl
theorem retQ_ret (F args v s) : RetQ F args v .ret s = ∃ rv, finishR F args s = some (rv, []) ∧ view rv = v := rfl
theorem gives {f : Nat} {F : TFunc} {args : List TV} {v : TV} (h : M.tab f = some F) (hn : F.np = args.length) (hp : Goes M F.body (RetQ F.res args v) (initSt args)) : Gives M f args v := by
  obtain ⟨e, s, h1, h2⟩ := hp
  cases e with
  | exit i => cases h2
  | norm => obtain ⟨rv, h3, h4⟩ := h2; exact ⟨rv, by rw [call_eq h args hn, h1]; exact h3, h4⟩
  | ret => obtain ⟨rv, h3, h4⟩ := h2; exact ⟨rv, by rw [call_eq h args hn, h1]; exact h3, h4⟩
def WpMk (M : Mach) (r : List TStep) (Q : St → Prop) (st : St) (d e : Nat) (z : List TV) (v : TV) : Prop := ∃ m : Nat, v = .int .i64 (m : Int) ∧ m < 2147483648 ∧ Wp M r Q (bump (putO st d (.hs d (st.cnt d) e m) d (st.cnt d) (some { cont := List.replicate m z, esz := e, box := false, solo := true, tip := true })) d (st.cnt d + 1))
theorem wpmk (r Q st d e z) (m : Nat) : WpMk M r Q st d e z (.int .i64 (m : Int)) = (m < 2147483648 ∧ Wp M r Q (bump (putO st d (.hs d (st.cnt d) e m) d (st.cnt d) (some { cont := List.replicate m z, esz := e, box := false, solo := true, tip := true })) d (st.cnt d + 1))) := by
  apply propext; constructor
  · rintro ⟨m', h1, h2, h3⟩
    simp only [TV.int.injEq, true_and] at h1
    have : m = m' := by omega
    subst this
    exact ⟨h2, h3⟩
  · rintro ⟨h1, h2⟩; exact ⟨m, rfl, h1, h2⟩
theorem wp_mk (d : Nat) (vk : Vk) (r : List TStep) (Q : St → Prop) (st : St) (e z n) : Wp M (⟨some d, .mk e z n, none, vk⟩ :: r) Q st = WpMk M r Q st d e z (Go.TM.val st.env n) := by
  apply propext; constructor
  · rintro ⟨s, h1, h2⟩
    rw [ops_ev] at h1
    simp only [ev] at h1
    cases hn : Go.TM.val st.env n <;> rw [hn] at h1 <;> try cases h1
    rename_i k m
    cases k <;> try cases h1
    simp only [] at h1
    split at h1
    · rename_i hm
      refine ⟨m.toNat, by rw [show ((m.toNat : Nat) : Int) = m by omega], by omega, s, ?_, h2⟩
      exact h1
    · cases h1
  · rintro ⟨m, h1, h2, s, h3, h4⟩
    exact ⟨s, by rw [ops_mk d vk r st e z n h1 h2]; exact h3, h4⟩
def storeE (ob : Nat → Nat → Option Obj) (n : Nat) (p x : TV) : Option Eff := match p with
    | .ptr k g i j => match ob k g with
      | some o => match o.cont[i]? with
        | some e => if o.solo = true ∧ x.cells.length = n ∧ j + n ≤ e.length then
            if o.box = true then some { mods := [(k, g, some { o with cont := o.cont.set i (splice e j x.cells) })] }
            else if (hands x).contains (k, g) then none else match trees ob x.cells with
              | some cs => some { unsolo := hands x, mods := [(k, g, some { o with cont := o.cont.set i (splice e j cs) })] }
              | none => none
          else none
        | none => none
      | none => none
    | _ => none
def WpSt (M : Mach) (r : List TStep) (Q : St → Prop) (st : St) (o : Option Eff) : Prop := ∃ e, o = some e ∧ Wp M r Q (apply none e st)
theorem wpst_some (r Q st e) : WpSt M r Q st (some e) = Wp M r Q (apply none e st) := by
  apply propext; constructor
  · rintro ⟨_, h, h2⟩; cases h; exact h2
  · intro h; exact ⟨_, rfl, h⟩
theorem wp_store (vk : Vk) (r : List TStep) (Q : St → Prop) (st : St) (n p x) : Wp M (⟨none, .store n p x, none, vk⟩ :: r) Q st = WpSt M r Q st (storeE (restrict st.obj vk) n (Go.TM.val st.env p) (Go.TM.val st.env x)) := by
  rw [wp_ev]
  unfold WpEv WpSt
  have : ev (.store n p x) ((none : Option Nat).getD 0) (st.cnt ((none : Option Nat).getD 0)) (Go.TM.val st.env) (restrict st.obj vk) = (storeE (restrict st.obj vk) n (Go.TM.val st.env p) (Go.TM.val st.env x)).map Ev.eff := by
    simp only [ev, storeE]
    repeat' (first | rfl | split <;> try simp_all)
  rw [this]
  cases storeE (restrict st.obj vk) n (Go.TM.val st.env p) (Go.TM.val st.env x) <;> simp
theorem apply_mod (k g o) (st : St) : apply none { mods := [(k, g, o)] } st = setO st k g o := rfl
theorem store_row {ob : Nat → Nat → Option Obj} {k g i n : Nat} {kk z} {o : Obj} {e : List TV} (ho : ob k g = some o) (hb : o.box = false) (hs : o.solo = true) (he : o.cont[i]? = some e) (h1 : e.length = 1) (hn : n = 1) :
    storeE ob n (.ptr k g i 0) (.int kk z) = some { mods := [(k, g, some { o with cont := o.cont.set i [.int kk z] })] } := by
  subst hn
  obtain ⟨x, rfl⟩ := List.length_eq_one_iff.1 h1
  simp [storeE, ho, hb, hs, he, TV.cells, hands, hand1, trees, tree1, splice]
theorem store_rowb {ob : Nat → Nat → Option Obj} {k g i n : Nat} {z} {o : Obj} {e : List TV} (ho : ob k g = some o) (hb : o.box = false) (hs : o.solo = true) (he : o.cont[i]? = some e) (h1 : e.length = 1) (hn : n = 1) :
    storeE ob n (.ptr k g i 0) (.bool z) = some { mods := [(k, g, some { o with cont := o.cont.set i [.bool z] })] } := by
  subst hn
  obtain ⟨x, rfl⟩ := List.length_eq_one_iff.1 h1
  simp [storeE, ho, hb, hs, he, TV.cells, hands, hand1, trees, tree1, splice]
theorem store_box {ob : Nat → Nat → Option Obj} {k g j n : Nat} {x : TV} {o : Obj} {e : List TV} (ho : ob k g = some o) (hb : o.box = true) (hs : o.solo = true) (he : o.cont = [e]) (hn : x.cells.length = n) (hj : j + n ≤ e.length) :
    storeE ob n (.ptr k g 0 j) x = some { mods := [(k, g, some { o with cont := [splice e j x.cells] })] } := by
  simp [storeE, ho, hb, hs, he, hn, hj]
def WpEff (M : Mach) (r : List TStep) (Q : St → Prop) (st : St) (d : Nat) (o : Option Eff) : Prop := ∃ e, o = some e ∧ Wp M r Q (apply (some d) e st)
theorem wpeff_some (r Q st d e) : WpEff M r Q st d (some e) = Wp M r Q (apply (some d) e st) := by
  apply propext; constructor
  · rintro ⟨_, h, h2⟩; cases h; exact h2
  · intro h; exact ⟨_, rfl, h⟩
def appE (d c : Nat) (ob : Nat → Nat → Option Obj) (e : Nat) (consume : Bool) (s x : TV) : Option Eff := match elems ob e x with
    | some zs => match s with
      | .nils => if zs.length < 2147483648 then
          if zs = [] then some { v := .nils } else
          some { v := .hs d c e zs.length, new := [{ cont := zs, esz := e, box := false, solo := true, tip := true }] } else none
      | .hs k g e' n => match ob k g with
        | some o =>
          if o.box = false ∧ e' = e ∧ o.esz = e ∧ o.tip = true ∧ n ≤ o.cont.length ∧ (consume = true → o.solo = true) ∧ (consume = false → n = o.cont.length) ∧ n + zs.length < 2147483648 then
            some { v := .hs d c e (n + zs.length),
                   new := [{ cont := o.cont.take n ++ zs, esz := e, box := false, solo := consume, tip := true }],
                   mods := [(k, g, if consume then none else some { o with solo := false, tip := false })] }
          else none
        | none => none
      | _ => none
    | none => none
theorem wp_app (d : Nat) (vk : Vk) (r : List TStep) (Q : St → Prop) (st : St) (e cn s x) : Wp M (⟨some d, .app e cn s x, none, vk⟩ :: r) Q st = WpEff M r Q st d (appE d (st.cnt d) (restrict st.obj vk) e cn (Go.TM.val st.env s) (Go.TM.val st.env x)) := by
  rw [wp_ev]
  unfold WpEv WpEff
  have : ev (.app e cn s x) ((some d).getD 0) (st.cnt ((some d).getD 0)) (Go.TM.val st.env) (restrict st.obj vk) = (appE d (st.cnt d) (restrict st.obj vk) e cn (Go.TM.val st.env s) (Go.TM.val st.env x)).map Ev.eff := by
    simp only [ev, appE, Option.getD_some]
    repeat' (first | rfl | split <;> try simp_all)
  rw [this]
  cases appE d (st.cnt d) (restrict st.obj vk) e cn (Go.TM.val st.env s) (Go.TM.val st.env x) <;> simp
section
variable {ob : Nat → Nat → Option Obj} {d c e : Nat} {cn : Bool} {zs : Cont}
theorem elems_sl {e : Nat} {xs : Cont} (h : uni e xs = true) : elems ob e (.sl xs) = some xs := by simp [elems, h]
theorem app_nils {x : TV} (h : elems ob e x = some zs) (hn : zs ≠ []) (hl : zs.length < 2147483648) : appE d c ob e cn .nils x = some { v := .hs d c e zs.length, new := [{ cont := zs, esz := e, box := false, solo := true, tip := true }] } := by
  simp only [appE, h]; rw [if_pos hl, if_neg hn]
theorem app_nils0 {x : TV} (h : elems ob e x = some []) : appE d c ob e cn .nils x = some { v := .nils } := by
  simp [appE, h]
theorem app_hs {x : TV} {k g n : Nat} {o : Obj} (h : elems ob e x = some zs) (ho : ob k g = some o) (hb : o.box = false) (he : o.esz = e) (ht : o.tip = true) (hs : o.solo = true) (hn : n = o.cont.length) (hl : n + zs.length < 2147483648) :
    appE d c ob e true (.hs k g e n) x = some { v := .hs d c e (n + zs.length), new := [{ cont := o.cont ++ zs, esz := e, box := false, solo := true, tip := true }], mods := [(k, g, none)] } := by
  simp only [appE, h, ho]
  subst hn he
  rw [if_pos (by simp [hb, ht, hs, hl])]
  simp
end
theorem apply_app1 (d k g : Nat) (v : TV) (o : Obj) (st : St) : apply (some d) { v := v, new := [o], mods := [(k, g, none)] } st = bump (putO (setO st k g none) d v d (st.cnt d) (some o)) d (st.cnt d + 1) := rfl
def sliceE (ob : Nat → Nat → Option Obj) (es : Nat) (isS : Bool) (x : TV) (lo hi mx : Option TV) : Option Eff :=
    match (match lo with | some l => asNat l | none => some 0) with
    | none => none
    | some l => match isS, x with
      | false, .sl xs => match (match hi with | some h => asNat h | none => some xs.length), (match mx with | some m => asNat m | none => some xs.length) with
        | some h, some m => if l ≤ h ∧ h ≤ m ∧ m ≤ xs.length ∧ (mx.isSome → hi.isSome) ∧ uni es xs = true then some { v := .sl ((xs.take h).drop l) } else none
        | _, _ => none
      | false, .nils => match (match hi with | some h => asNat h | none => some 0), mx with
        | some h, none => if l = 0 ∧ h = 0 then some { v := .nils } else none
        | _, _ => none
      | false, .hs k g e n => match (match hi with | some h => asNat h | none => some n), (match mx with | some m => asNat m | none => some n) with
        | some h, some m => if l ≤ h ∧ h ≤ m ∧ m ≤ n ∧ (mx.isSome → hi.isSome) ∧ e = es then
            if l = 0 ∧ mx.isNone then some { v := .hs k g e h } else
            match ob k g with
            | some o => if o.box = false ∧ n ≤ o.cont.length ∧ o.esz = e then some { v := .sl ((o.cont.take h).drop l), unsolo := [(k, g)] } else none
            | none => none
          else none
        | _, _ => none
      | true, .str s => match (match hi with | some h => asNat h | none => some s.size), mx with
        | some h, none => if l ≤ h ∧ h ≤ s.size then some { v := .str (s.extract l h) } else none
        | _, _ => none
      | _, _ => none
theorem ev_slice (d c env ob es isS x lo hi mx) : ev (.slice es isS x lo hi mx) d c (Go.TM.val env) ob = (sliceE ob es isS (Go.TM.val env x) (lo.map (Go.TM.val env)) (hi.map (Go.TM.val env)) (mx.map (Go.TM.val env))).map Ev.eff := by
  cases lo <;> cases hi <;> cases mx <;> simp only [ev, sliceE, Option.map_none, Option.map_some] <;> repeat' (first | rfl | split <;> try simp_all)
theorem wp_slice (d : Nat) (vk : Vk) (r : List TStep) (Q : St → Prop) (st : St) (es isS x lo hi mx) : Wp M (⟨some d, .slice es isS x lo hi mx, none, vk⟩ :: r) Q st =
    WpEff M r Q st d (sliceE (restrict st.obj vk) es isS (Go.TM.val st.env x) (lo.map (Go.TM.val st.env)) (hi.map (Go.TM.val st.env)) (mx.map (Go.TM.val st.env))) := by
  rw [wp_ev, ev_slice]
  unfold WpEv WpEff
  cases sliceE (restrict st.obj vk) es isS (Go.TM.val st.env x) (lo.map (Go.TM.val st.env)) (hi.map (Go.TM.val st.env)) (mx.map (Go.TM.val st.env)) with
  | none => simp
  | some e => simp
section
variable {ob : Nat → Nat → Option Obj} {es : Nat} {xs : Cont} {h l m : Nat} {k : IntKind}
theorem asNat_nat : asNat (.int k (h : Int)) = some h := by simp [asNat]
theorem slice_sl_h (h1 : h ≤ xs.length) (hu : uni es xs = true) : sliceE ob es false (.sl xs) none (some (.int k (h : Int))) none = some { v := .sl (xs.take h) } := by
  simp [sliceE, asNat_nat, h1, hu]
theorem slice_sl_l (h1 : l ≤ xs.length) (hu : uni es xs = true) : sliceE ob es false (.sl xs) (some (.int k (l : Int))) none none = some { v := .sl (xs.drop l) } := by
  simp [sliceE, asNat_nat, h1, hu]
theorem slice_sl_hm (h1 : h ≤ m) (h2 : m ≤ xs.length) (hu : uni es xs = true) : sliceE ob es false (.sl xs) none (some (.int k (h : Int))) (some (.int k (m : Int))) = some { v := .sl (xs.take h) } := by
  simp [sliceE, asNat_nat, h1, h2, hu]
theorem slice_hs_h {a b n} (h1 : h ≤ n) : sliceE ob es false (.hs a b es n) none (some (.int k (h : Int))) none = some { v := .hs a b es h } := by
  simp [sliceE, asNat_nat, h1]
end
section
variable (b : Bool) (k : IntKind) (x y : Int)
theorem bin_eql : binTV b .eql (.int k x) (.int k y) = some (.bool (decide (x = y))) := by simp only [binTV, if_true]; rfl
theorem bin_neq : binTV b .neq (.int k x) (.int k y) = some (.bool (decide (¬ x = y))) := by simp only [binTV, if_true]; congr 2; by_cases h : x = y <;> simp [h]
theorem bin_lss : binTV b .lss (.int k x) (.int k y) = some (.bool (decide (x < y))) := by simp only [binTV, if_true]
theorem bin_leq : binTV b .leq (.int k x) (.int k y) = some (.bool (decide (x ≤ y))) := by simp only [binTV, if_true]
theorem bin_gtr : binTV b .gtr (.int k x) (.int k y) = some (.bool (decide (y < x))) := by simp only [binTV, if_true]
theorem bin_geq : binTV b .geq (.int k x) (.int k y) = some (.bool (decide (y ≤ x))) := by simp only [binTV, if_true]
theorem bin_add : binTV b .add (.int k x) (.int k y) = some (.int k (k.wrap (x + y))) := by simp only [binTV, if_true]
theorem bin_sub : binTV b .sub (.int k x) (.int k y) = some (.int k (k.wrap (x - y))) := by simp only [binTV, if_true]
theorem bin_mul : binTV b .mul (.int k x) (.int k y) = some (.int k (k.wrap (x * y))) := by simp only [binTV, if_true]
theorem bin_quo (h : y ≠ 0) : binTV b .quo (.int k x) (.int k y) = some (.int k (k.wrap (x.tdiv y))) := by simp [binTV, h]
theorem bin_rem (h : y ≠ 0) : binTV b .rem (.int k x) (.int k y) = some (.int k (x.tmod y)) := by simp [binTV, h]
theorem binb_eql (p q : Bool) : binTV true .eql (.bool p) (.bool q) = some (.bool (p == q)) := rfl
theorem binb_neq (p q : Bool) : binTV true .neq (.bool p) (.bool q) = some (.bool (!(p == q))) := rfl
theorem un_not (p : Bool) : unTV .not (.bool p) = some (.bool !p) := rfl
theorem un_neg : unTV .neg (.int k x) = some (.int k (k.wrap (0 - x))) := rfl
end
def RetE (res : List TRes) (args : List TV) (P : TV → Prop) (e : Ex) (s : St) : Prop := match e with
  | .exit _ => False
  | _ => ∃ rv, finishR res args s = some (rv, []) ∧ P (view rv)
theorem retE_norm (F args P s) : RetE F args P .norm s = ∃ rv, finishR F args s = some (rv, []) ∧ P (view rv) := rfl
theorem retE_ret (F args P s) : RetE F args P .ret s = ∃ rv, finishR F args s = some (rv, []) ∧ P (view rv) := rfl
theorem givesE {f : Nat} {F : TFunc} {args : List TV} {P : TV → Prop} (h : M.tab f = some F) (hn : F.np = args.length) (hp : Goes M F.body (RetE F.res args P) (initSt args)) : ∃ v, P v ∧ Gives M f args v := by
  obtain ⟨e, s, h1, h2⟩ := hp
  cases e with
  | exit i => cases h2
  | norm => obtain ⟨rv, h3, h4⟩ := h2; exact ⟨_, h4, rv, by rw [call_eq h args hn, h1]; exact h3, rfl⟩
  | ret => obtain ⟨rv, h3, h4⟩ := h2; exact ⟨_, h4, rv, by rw [call_eq h args hn, h1]; exact h3, rfl⟩
theorem hasSl_int (k n) : hasSl (.int k n) = false := rfl
theorem hasSl_bool (b) : hasSl (.bool b) = false := rfl
section
variable (ob : Nat → Nat → Option Obj) (k : IntKind) (n : Int) (b : Bool) (s : ByteArray) (xs : Cont) (cs : List TV) (v : TV) (a g e m j : Nat)
theorem cells_agg : (TV.agg cs).cells = cs := rfl
theorem cells_int : (TV.int k n).cells = [.int k n] := rfl
theorem cells_bool : (TV.bool b).cells = [.bool b] := rfl
theorem cells_str : (TV.str s).cells = [.str s] := rfl
theorem cells_nils : TV.nils.cells = [.nils] := rfl
theorem cells_sl : (TV.sl xs).cells = [.sl xs] := rfl
theorem cells_hs : (TV.hs a g e m).cells = [.hs a g e m] := rfl
theorem cells_ptr : (TV.ptr a g e m).cells = [.ptr a g e m] := rfl
theorem tree1_int : tree1 ob (.int k n) = some (.int k n) := rfl
theorem tree1_bool : tree1 ob (.bool b) = some (.bool b) := rfl
theorem tree1_str : tree1 ob (.str s) = some (.str s) := rfl
theorem tree1_sl : tree1 ob (.sl xs) = some (.sl xs) := rfl
theorem tree1_nils : tree1 ob .nils = some (.sl []) := rfl
theorem tree1_hs : tree1 ob (.hs a g e m) = match ob a g with
    | some o => if o.box = false ∧ m ≤ o.cont.length ∧ o.esz = e then some (.sl (o.cont.take m)) else none
    | none => none := rfl
theorem tree_agg : tree ob (.agg cs) = (trees ob cs).map .agg := rfl
theorem tree_int : tree ob (.int k n) = some (.int k n) := rfl
theorem tree_bool : tree ob (.bool b) = some (.bool b) := rfl
theorem tree_str : tree ob (.str s) = some (.str s) := rfl
theorem tree_sl : tree ob (.sl xs) = some (.sl xs) := rfl
theorem tree_nils : tree ob .nils = some (.sl []) := rfl
theorem tree_hs : tree ob (.hs a g e m) = match ob a g with
    | some o => if o.box = false ∧ m ≤ o.cont.length ∧ o.esz = e then some (.sl (o.cont.take m)) else none
    | none => none := rfl
theorem trees_nil : trees ob [] = some [] := rfl
theorem trees_cons : trees ob (v :: cs) = match tree1 ob v, trees ob cs with
    | some c', some cs' => some (c' :: cs')
    | _, _ => none := rfl
theorem hand1_int : hand1 (.int k n) = [] := rfl
theorem hand1_bool : hand1 (.bool b) = [] := rfl
theorem hand1_str : hand1 (.str s) = [] := rfl
theorem hand1_sl : hand1 (.sl xs) = [] := rfl
theorem hand1_nils : hand1 .nils = [] := rfl
theorem hand1_hs : hand1 (.hs a g e m) = [(a, g)] := rfl
theorem hand1_ptr : hand1 (.ptr a g e m) = [] := rfl
end
theorem unsol_env (b hs) (st : St) : (unsol b hs st).env = st.env := by cases b <;> rfl
theorem unsol_cnt (b hs) (st : St) : (unsol b hs st).cnt = st.cnt := by cases b <;> rfl
theorem unsol_obj1 (b k g) (st : St) (k' g' : Nat) : (unsol b [(k, g)] st).obj k' g' = if k' = k ∧ g' = g then (if b then (st.obj k g).map (fun o => { o with solo := o.box && o.solo }) else st.obj k g) else st.obj k' g' := by
  cases b
  · simp only [unsol]; split <;> simp_all
  · rfl
theorem unsol_obj2 (b k g k2 g2) (st : St) (k' g' : Nat) (h : ¬ (k' = k ∧ g' = g)) (h2 : ¬ (k' = k2 ∧ g' = g2)) : (unsol b [(k, g), (k2, g2)] st).obj k' g' = st.obj k' g' := by
  cases b
  · rfl
  · simp only [unsol, if_true, List.foldl_cons, List.foldl_nil, unsolo1, updO]
    rw [if_neg h2, if_neg h]
def lits : Nat → List TV → Cont
  | 0, _ => []
  | n + 1, z => z :: lits n z
theorem lits_eq (n z) : List.replicate n z = lits n z := by
  induction n with
  | zero => rfl
  | succ n ih => rw [List.replicate_succ, ih]; rfl
theorem wp_bslice (d : Nat) (vk : Vk) (r : List TStep) (Q : St → Prop) (st : St) (e zero len parts) : Wp M (⟨some d, .bslice e zero len parts, none, vk⟩ :: r) Q st =
    WpEff M r Q st d ((sliceParts (restrict st.obj vk) (Go.TM.val st.env) e (lits len zero) parts).map fun cc => { v := .hs d (st.cnt d) e len, unsolo := parts.flatMap fun p => hands (Go.TM.val st.env p.2), new := [{ cont := cc, esz := e, box := false, solo := true, tip := true }] }) := by
  rw [← lits_eq, wp_ev]; unfold WpEv WpEff; simp only [ev, Option.getD_some]
  cases sliceParts (restrict st.obj vk) (Go.TM.val st.env) e (List.replicate len zero) parts <;> simp
theorem wp_lit (d : Nat) (vk : Vk) (r : List TStep) (Q : St → Prop) (st : St) (e zero len parts) : Wp M (⟨some d, .lit e zero len parts, none, vk⟩ :: r) Q st =
    WpEff M r Q st d ((sliceParts (fun _ _ => none) (Go.TM.val st.env) e (lits len zero) parts).map fun cc => { v := .sl cc, new := [{ cont := cc, esz := e, box := false, solo := false, tip := false }] }) := by
  rw [← lits_eq, wp_ev]; unfold WpEv WpEff; simp only [ev, Option.getD_some]
  cases sliceParts (fun _ _ => none) (Go.TM.val st.env) e (List.replicate len zero) parts <;> simp
theorem dec_true {p : Prop} [Decidable p] (h : p) : decide p = true := decide_eq_true h
theorem dec_false {p : Prop} [Decidable p] (h : ¬p) : decide p = false := decide_eq_false h
set_option linter.defProp false
def tmR := And.intro @Go.TM.wp_seq <| And.intro @Go.TM.wp_reg <| And.intro @Go.TM.wp_skip <| And.intro @Go.TM.wp_exit <| And.intro @Go.TM.wp_ret <| And.intro @Go.TM.wp_block <| And.intro @Go.TM.wp_cond <| And.intro @Go.TM.wp_nil <| And.intro @Go.TM.wp_mov <| And.intro @Go.TM.wp_pick <| And.intro @Go.TM.wp_bin <| And.intro @Go.TM.wp_un <| And.intro @Go.TM.wp_conv <| And.intro @Go.TM.wp_faddr <| And.intro @Go.TM.wp_iaddr <| And.intro @Go.TM.wp_field <| And.intro @Go.TM.wp_build <| And.intro @Go.TM.wp_len <| And.intro @Go.TM.wp_extract <| And.intro @Go.TM.wp_load <| And.intro @Go.TM.wp_box <| And.intro @Go.TM.wp_alloc <| And.intro @Go.TM.wp_guard <| And.intro @Go.TM.wp_call <| And.intro @Go.TM.wp_mk <| And.intro @wpmk <| And.intro @Go.TM.wp_store <| And.intro @wpst_some <| And.intro @apply_mod <| And.intro @storeE.eq_1 <| And.intro @storeE.eq_2 <| And.intro @List.set_cons_zero.{0} <| And.intro @List.set_cons_succ.{0} <| And.intro @Option.some.injEq.{0} <| And.intro @Go.TM.wp_slice <| And.intro @wpeff_some <| And.intro @Go.TM.wp_bslice <| And.intro @Go.TM.wp_lit <| And.intro @sliceParts.eq_1 <| And.intro @sliceParts.eq_2 <| And.intro @apply_new1 <| And.intro @unsol_env <| And.intro @unsol_cnt <| And.intro @unsol_obj1 <| And.intro @lits.eq_1 <| And.intro @lits.eq_2 <| And.intro @List.set_nil.{0} <| And.intro @Option.map_none.{0,0} <| And.intro @thenQ_norm <| And.intro @thenQ_exit <| And.intro @thenQ_ret <| And.intro @blockQ_norm <| And.intro @blockQ_ret <| And.intro @blockQ_exit <| And.intro @wpv_some <| And.intro @wpev_eff <| And.intro @wpc_t <| And.intro @wpc_f <| And.intro @wpg_tt <| And.intro @wpg_ff <| And.intro @wpg_tf <| And.intro @wpg_ft <| And.intro @wpg_tup <| And.intro @retQ_norm <| And.intro @retQ_ret <| And.intro @retE_norm <| And.intro @retE_ret <| And.intro @Go.TM.val_t <| And.intro @val_c <| And.intro @put_env <| And.intro @put_obj <| And.intro @put_cnt <| And.intro @putO_env <| And.intro @putO_obj <| And.intro @putO_cnt <| And.intro @bump_env <| And.intro @bump_obj <| And.intro @bump_cnt <| And.intro @setO_env <| And.intro @setO_obj <| And.intro @setO_cnt <| And.intro @restrict_full <| And.intro @restrict_ap_rd <| And.intro @restrict_ap_fb <| And.intro @restrict_ap_box <| And.intro @restrict_ap_none <| And.intro @apply_put <| And.intro @unsol_nil <| And.intro @unsol_false <| And.intro @hasSl_int <| And.intro @hasSl_bool <| And.intro @pickTV.eq_1 <| And.intro @pickTV.eq_2 <| And.intro @pickTV.eq_3 <| And.intro @convTV.eq_1 <| And.intro @convTV.eq_2 <| And.intro @faddrTV.eq_1 <| And.intro @faddrTV.eq_2 <| And.intro @faddrTV.eq_3 <| And.intro @fieldTV.eq_1 <| And.intro @fieldTV.eq_2 <| And.intro @lenTV.eq_1 <| And.intro @lenTV.eq_2 <| And.intro @lenTV.eq_3 <| And.intro @lenTV.eq_4 <| And.intro @lenTV.eq_5 <| And.intro @extractTV.eq_1 <| And.intro @extractTV.eq_2 <| And.intro @loadTV.eq_1 <| And.intro @loadTV.eq_2 <| And.intro @loadTV.eq_3 <| And.intro @bin_eql <| And.intro @bin_neq <| And.intro @bin_lss <| And.intro @bin_leq <| And.intro @bin_gtr <| And.intro @bin_geq <| And.intro @bin_add <| And.intro @bin_sub <| And.intro @bin_mul <| And.intro @bin_quo <| And.intro @bin_rem <| And.intro @un_not <| And.intro @un_neg <| And.intro @binb_eql <| And.intro @binb_neq <| And.intro @initSt.eq_1 <| And.intro @initEnv.eq_1 <| And.intro @initEnv.eq_2 <| And.intro @initEnv.eq_3 <| And.intro @initObj.eq_1 <| And.intro @initObj.eq_2 <| And.intro @initObj.eq_3 <| And.intro @initCnt.eq_1 <| And.intro @initCnt.eq_2 <| And.intro @initCnt.eq_3 <| And.intro @argsOf.eq_1 <| And.intro @argsOf.eq_2 <| And.intro @List.map_cons.{0,0} <| And.intro @List.map_nil.{0,0} <| And.intro @List.contains_nil.{0} <| And.intro @Bool.false_eq_true <| And.intro @if_false.{1} <| And.intro @if_true.{1} <| And.intro @Option.map_some.{0,0} <| And.intro @Option.bind_some.{0,0} <| And.intro @tree_agg <| And.intro @tree_int <| And.intro @tree_bool <| And.intro @tree_str <| And.intro @tree_sl <| And.intro @tree_nils <| And.intro @tree_hs <| And.intro @tree1_int <| And.intro @tree1_bool <| And.intro @tree1_str <| And.intro @tree1_sl <| And.intro @tree1_nils <| And.intro @tree1_hs <| And.intro @trees_nil <| And.intro @trees_cons <| And.intro @heldOf.eq_1 <| And.intro @heldOf.eq_2 <| And.intro @hands.eq_1 <| And.intro @cells_agg <| And.intro @cells_int <| And.intro @cells_bool <| And.intro @cells_str <| And.intro @cells_nils <| And.intro @cells_sl <| And.intro @cells_hs <| And.intro @cells_ptr <| And.intro @hand1_int <| And.intro @hand1_bool <| And.intro @hand1_str <| And.intro @hand1_sl <| And.intro @hand1_nils <| And.intro @hand1_hs <| And.intro @hand1_ptr <| And.intro @List.flatMap_cons.{0,0} <| And.intro @List.flatMap_nil.{0,0} <| And.intro @List.append_nil.{0} <| And.intro @List.nil_append.{0} <| And.intro @decide_true <| And.intro @decide_false <| And.intro @decide_eq_true_eq <| And.intro @true_and <| And.intro @and_true <| And.intro @false_and <| And.intro @and_false <| And.intro @List.length_cons.{0} <| And.intro @List.length_nil.{0} <| And.intro @Nat.zero_add <| And.intro @List.getElem?_cons_zero.{0} <| And.intro @List.getElem?_cons_succ.{0} <| And.intro @List.contains_cons.{0} <| And.intro @beq_self_eq_true.{0} <| And.intro @Bool.or_false <| And.intro @Bool.true_or <| And.intro @Bool.false_or <| And.intro @Bool.or_true <| And.intro @pull.eq_1 <| And.intro @pull.eq_2 <| And.intro @splice.eq_1 <| And.intro @List.take.eq_1.{0} <| And.intro @List.take.eq_2.{0} <| And.intro @List.take.eq_3.{0} <| And.intro @List.drop.eq_1.{0} <| And.intro @List.drop.eq_2.{0} <| And.intro @List.drop.eq_3.{0} <| And.intro @buildParts.eq_1 <| And.intro @buildParts.eq_2 <| And.intro @List.cons_append.{0} <| And.intro @eq_self.{1} <| And.intro @and_self <| And.intro @Nat.le_refl <| And.intro @cast0 <| And.intro @not_true_eq_false <| And.intro @not_false_eq_true <| And.intro @List.drop_zero.{0} @List.take_zero.{0}
def tmF := And.intro @finishR.eq_1 <| And.intro @resVals.eq_1 <| And.intro @resVals.eq_2 <| And.intro @resVal.eq_1 <| And.intro @resVal.eq_2 <| And.intro @mutsOf.eq_1 <| And.intro @mutsOf.eq_2 <| And.intro @mutsOf.eq_3 <| And.intro @hasOwn.eq_1 <| And.intro @hasOwn.eq_2 <| And.intro @hasOwn.eq_3 <| And.intro @once.eq_1 <| And.intro @once.eq_2 <| And.intro @out.eq_1 <| And.intro @out.eq_2 <| And.intro @out1.eq_1 <| And.intro @out1.eq_2 <| And.intro @out1.eq_3 <| And.intro @outs.eq_1 <| And.intro @outs.eq_2 <| And.intro @treeAll.eq_1 <| And.intro @treeAll.eq_2 <| And.intro @view.eq_1 <| And.intro @view.eq_2 <| And.intro @viewA.eq_1 <| And.intro @viewA.eq_2 <| And.intro @view1.eq_1 <| And.intro @view1.eq_2 <| And.intro @view1.eq_3 <| And.intro @List.all_nil.{0} <| And.intro @List.contains_nil.{0} <| And.intro @Bool.not_false <| And.intro @Bool.and_self <| And.intro @Option.some.injEq.{0} <| And.intro @Prod.mk.injEq.{0,0} <| And.intro @exists_eq_left'.{1} <| And.intro @exists_eq_left.{1} @List.all_cons.{0}
def tmD := And.intro @unsol_env <| And.intro @unsol_cnt <| And.intro @put_env <| And.intro @put_obj <| And.intro @put_cnt <| And.intro @putO_env <| And.intro @putO_obj <| And.intro @putO_cnt <| And.intro @bump_env <| And.intro @bump_obj <| And.intro @bump_cnt <| And.intro @setO_env <| And.intro @setO_obj <| And.intro @setO_cnt <| And.intro @and_self <| And.intro @true_and <| And.intro @and_true <| And.intro @false_and <| And.intro @and_false <| And.intro @if_true.{1} <| And.intro @if_false.{1} <| And.intro @eq_self.{1} <| And.intro @dig_set <| And.intro @List.length_set.{0} @Nat.zero_add
end Go.TM
end
section
namespace Go.TM.Fn
open Go Go.TM Go.Plain
set_option linter.unusedVariables false
set_option linter.unusedSimpArgs false
set_option maxRecDepth 20000
theorem nat_succ_sub (n : Nat) : ((n + 1 : Nat) : Int) - 1 = (n : Int) := by omega
theorem tlen_z {ds : List Nat} {n : Nat} (h : ds.getD n 0 = 0) : tlen ds (n + 1) = tlen ds n := by simp only [tlen]; rw [if_pos h]
theorem tlen_p {ds : List Nat} {n : Nat} (h : ¬ ds.getD n 0 = 0) : tlen ds (n + 1) = n + 1 := by simp only [tlen]; rw [if_neg h]
theorem nat_add_one (n : Nat) : (n : Int) + 1 = ((n + 1 : Nat) : Int) := by omega
theorem loopMag {Q : Ex → St → Prop} (ds : List Nat) (hl : ds.length < 2147483648) : ∀ (n : Nat) (st : St), n ≤ ds.length → st.env 3 = .sl (dig (ds.take n)) →
    (∀ s, s.env 3 = .sl (dig (ds.take (tlen ds n))) → s.obj = st.obj → s.cnt = st.cnt → Q (.exit 0) s) → Goes mach (.loop L70_0) Q st
  | 0, st, hn, h3, hQ => by
    rw [wp_loop]
    simp only [L70_0, tmR, seval, h3, dig_len, List.length_take]
    exact hQ _ (by simp [put_env, h3, tlen]) rfl rfl
  | n + 1, st, hn, h3, hQ => by
    have hlen : min (n + 1) ds.length = n + 1 := by omega
    have hp : ((0 : Int) < ((n + 1 : Nat) : Int)) = True := eq_true (by omega)
    have hw : IntKind.i64.wrap (n : Int) = n := wrap_i64 (by omega) (by omega)
    have hg : (dig (ds.take (n + 1)))[n]? = some [.int .u32 (ds.getD n 0 : Nat)] := by
      rw [dig_get (by simp; omega)]; simp [List.getD_eq_getElem?_getD, List.getElem?_take]
    have hs := slice_sl_h (ob := st.obj) (es := 1) (k := .i64) (h := n) (xs := dig (ds.take (n + 1))) (by rw [dig_len, List.length_take]; omega) (uni_dig _)
    rw [wp_loop]
    by_cases hz : ds.getD n 0 = 0
    · rw [hz] at hg
      simp only [L70_0, tmR, seval, h3, dig_len, List.length_take, hlen, hp, nat_succ_sub, hw, iaddr_sl hg, hs]
      refine loopMag ds hl n _ (by omega) ?_ ?_
      · simp [put_env, dig_take, List.take_take]
      · rw [tlen_z hz] at hQ; exact fun s h1 h2 h3 => hQ s h1 h2 h3
    · have hz' : (((ds.getD n 0 : Nat) : Int) = 0) = False := eq_false (by omega)
      simp only [L70_0, tmR, seval, h3, dig_len, List.length_take, hlen, hp, nat_succ_sub, hw, iaddr_sl hg, hz']
      refine hQ _ ?_ rfl rfl
      rw [tlen_p hz]; simp [put_env, h3]
theorem mag_c (neg : Bool) (ds : List Nat) (hd : Dig ds) (hl : ds.length < 2147483648) : Gives mach 70 [rawI neg ds] (.sl (dig (toDig (Go.Plain.val ds)))) := by
  refine gives tab70 rfl ?_
  simp only [F70, tmR, seval, rawI]
  refine loopMag ds hl ds.length _ (Nat.le_refl _) (by simp [put_env]) fun s h1 h2 h3 => ?_
  simp only [tmR, seval, h1, tmF, take_tlen_all hd]
theorem enc_ival {neg : Bool} {ds : List Nat} (h : ¬ Go.Plain.val ds = 0) : encI (ival neg ds) = rawI neg (toDig (Go.Plain.val ds)) := by
  cases neg
  · simp [encI, ival, rawI]
  · simp only [encI, ival, if_true, rawI]
    rw [decide_eq_true (by omega), Int.natAbs_neg, Int.natAbs_natCast]
theorem loopCan {Q : Ex → St → Prop} (ds : List Nat) (hl : ds.length < 2147483648) : ∀ (n : Nat) (st : St), n ≤ ds.length → st.env 1 = .sl (dig (ds.take n)) →
    (∀ s, s.env 1 = .sl (dig (ds.take (tlen ds n))) → s.env 0 = st.env 0 → s.env 4 = st.env 4 → s.obj = st.obj → s.cnt = st.cnt → Q (.exit 0) s) → Goes mach (.loop L63_0) Q st
  | 0, st, hn, h3, hQ => by
    rw [wp_loop]
    simp only [L63_0, tmR, seval, h3, dig_len, List.length_take]
    exact hQ _ (by simp [put_env, h3, tlen]) rfl rfl rfl rfl
  | n + 1, st, hn, h3, hQ => by
    have hlen : min (n + 1) ds.length = n + 1 := by omega
    have hp : ((0 : Int) < ((n + 1 : Nat) : Int)) = True := eq_true (by omega)
    have hw : IntKind.i64.wrap (n : Int) = n := wrap_i64 (by omega) (by omega)
    have hg : (dig (ds.take (n + 1)))[n]? = some [.int .u32 (ds.getD n 0 : Nat)] := by
      rw [dig_get (by simp; omega)]; simp [List.getD_eq_getElem?_getD, List.getElem?_take]
    have hs := slice_sl_h (ob := st.obj) (es := 1) (k := .i64) (h := n) (xs := dig (ds.take (n + 1))) (by rw [dig_len, List.length_take]; omega) (uni_dig _)
    rw [wp_loop]
    by_cases hz : ds.getD n 0 = 0
    · rw [hz] at hg
      simp only [L63_0, tmR, seval, h3, dig_len, List.length_take, hlen, hp, nat_succ_sub, hw, iaddr_sl hg, hs]
      refine loopCan ds hl n _ (by omega) ?_ ?_
      · simp [put_env, dig_take, List.take_take]
      · rw [tlen_z hz] at hQ; exact fun s h1 h2 h3 h4 h5 => hQ s h1 h2 h3 h4 h5
    · have hz' : (((ds.getD n 0 : Nat) : Int) = 0) = False := eq_false (by omega)
      simp only [L63_0, tmR, seval, h3, dig_len, List.length_take, hlen, hp, nat_succ_sub, hw, iaddr_sl hg, hz']
      refine hQ _ ?_ rfl rfl rfl rfl
      rw [tlen_p hz]; simp [put_env, h3]
theorem can_c (neg : Bool) (ds : List Nat) (hd : Dig ds) (hl : ds.length < 2147483648) : Gives mach 63 [.bool neg, .sl (dig ds)] (encI (ival neg ds)) := by
  refine gives tab63 rfl ?_
  simp only [F63, tmR, seval]
  refine loopCan ds hl ds.length _ (Nat.le_refl _) (by simp [put_env, bump_env, putO_env]) fun s h1 h2 h3 h4 h5 => ?_
  rw [take_tlen_all hd] at h1
  simp only [tmR, seval] at h2 h3 h4 h5
  by_cases hz : Go.Plain.val ds = 0
  · rw [hz, toDig_zero] at h1
    simp only [tmR, seval, h1, h2, h3, h4, h5, dig_nil, tmF]
    rw [show ival neg ds = 0 by simp [ival, hz]]; simp [encI, rawI, toDig_zero, dig]
  · have hne : (((toDig (Go.Plain.val ds)).length : Int) = 0) = False := eq_false (by have := mt toDig_eq_nil.1 hz; have := List.length_pos_iff.2 this; omega)
    have hl2 := toDig_val_len hd
    have hs := fun ob => slice_sl_hm (ob := ob) (es := 1) (k := .i64) (h := (toDig (Go.Plain.val ds)).length) (m := (toDig (Go.Plain.val ds)).length) (xs := dig (toDig (Go.Plain.val ds))) (Nat.le_refl _) (by rw [dig_len]; exact Nat.le_refl _) (uni_dig _)
    simp only [tmR, seval, h1, h2, h3, dig_len, hne, hs, h4, h5, tmF]
    rw [enc_ival hz, List.take_of_length_le (by rw [dig_len]; exact Nat.le_refl _)]
theorem clone_c (ds : List Nat) (hl : ds.length < 2147483648) : Gives mach 85 [.sl (dig ds)] (.sl (dig ds)) := by
  refine gives tab85 rfl ?_
  by_cases hn : ds = []
  · subst hn
    simp only [F85, tmR, seval, wp_app, apply_app1, apply_new1, app_nils0 (elems_sl rfl), dig_nil, tmF]
  · have hn' : dig ds ≠ [] := by simpa [dig] using hn
    simp only [F85, tmR, seval, wp_app, apply_app1, apply_new1, app_nils (elems_sl (uni_dig _)) hn' (by rw [dig_len]; exact hl), apply_new1, dig_len, tmF]
end Go.TM.Fn
end
section
namespace Go.TM.Fn
open Go Go.TM Go.Plain
set_option linter.unusedVariables false
set_option linter.unusedSimpArgs false
set_option maxRecDepth 20000
theorem wrap_i64n {n : Nat} (h : n < 9223372036854775808) : IntKind.i64.wrap (n : Int) = n := wrap_i64 (by omega) (by omega)
theorem nat_lt (a b : Nat) : ((a : Int) < (b : Int)) = (a < b) := propext ⟨by omega, by omega⟩
theorem nat_le (a b : Nat) : ((a : Int) ≤ (b : Int)) = (a ≤ b) := propext ⟨by omega, by omega⟩
theorem nat_eq (a b : Nat) : ((a : Int) = (b : Int)) = (a = b) := propext ⟨by omega, by omega⟩
theorem nat_lt0 (a : Nat) : ((0 : Int) < (a : Int)) = (0 < a) := propext ⟨by omega, by omega⟩
theorem nat_le0 (a : Nat) : ((0 : Int) ≤ (a : Int)) = True := by simp
theorem nat_eq0 (a : Nat) : ((a : Int) = 0) = (a = 0) := by simp
theorem iaddr_dig {ds : List Nat} {i : Nat} {kk} (h : i < ds.length) : iaddrTV 1 (.sl (dig ds)) (.int kk (i : Int)) = some (.rptr [.int .u32 (ds.getD i 0 : Nat)] 0) := iaddr_sl (dig_get h) rfl
theorem dig_getElem {ds : List Nat} {i : Nat} (h : i < ds.length) : (dig ds)[i]? = some [.int .u32 (ds.getD i 0 : Nat)] := dig_get h
theorem bin_shr32 (b kk) (n : Nat) : binTV b .shr (.int .u64 (n : Int)) (.int kk 32) = some (.int .u64 ((n / 4294967296 : Nat) : Int)) := by
  simp only [binTV]
  rw [if_pos (by decide)]
  congr 2
  simp only [IntKind.bits]
  rw [Int.fdiv_eq_ediv_of_nonneg _ (by decide)]
  simp
theorem bin_shl32 (b kk) (n : Nat) : binTV b .shl (.int .u64 (n : Int)) (.int kk 32) = some (.int .u64 ((n * 4294967296 % 18446744073709551616 : Nat) : Int)) := by
  simp only [binTV]
  rw [if_pos (by decide)]
  have : (2 : Int) ^ min (Int.toNat 32) IntKind.u64.bits = ((4294967296 : Nat) : Int) := by simp [IntKind.bits]
  rw [this, ← Int.natCast_mul, wrap_u64]
theorem ofInt_nat (w n : Nat) : BitVec.ofInt w (n : Int) = BitVec.ofNat w n := by simp
theorem bin_or_u64 (b) {n m : Nat} (hn : n < 18446744073709551616) (hm : m < 18446744073709551616) : binTV b .or (.int .u64 (n : Int)) (.int .u64 (m : Int)) = some (.int .u64 ((n ||| m : Nat) : Int)) := by
  have h : n ||| m < 2 ^ 64 := Nat.or_lt_two_pow (by omega) (by omega)
  have e : (BitVec.ofInt IntKind.u64.bits (n : Int) ||| BitVec.ofInt IntKind.u64.bits (m : Int)).toNat = n ||| m := by
    show (BitVec.ofInt 64 (n : Int) ||| BitVec.ofInt 64 (m : Int)).toNat = n ||| m
    rw [ofInt_nat, ofInt_nat, BitVec.toNat_or, BitVec.toNat_ofNat, BitVec.toNat_ofNat, Nat.mod_eq_of_lt (by omega : n < 2 ^ 64), Nat.mod_eq_of_lt (by omega : m < 2 ^ 64)]
  simp only [binTV, if_true, e]
  rw [wrap_u64, Nat.mod_eq_of_lt (by omega)]
theorem or_add {n m i : Nat} (hm : m < 2 ^ i) : n * 2 ^ i ||| m = n * 2 ^ i + m := by
  have := Nat.shiftLeft_add_eq_or_of_lt hm n
  rw [Nat.shiftLeft_eq] at this
  exact this.symm
theorem bin_or_lo (b) {n m : Nat} (hn : n < 4294967296) (hm : m < 4294967296) : binTV b .or (.int .u64 ((n * 4294967296 : Nat) : Int)) (.int .u64 (m : Int)) = some (.int .u64 ((n * 4294967296 + m : Nat) : Int)) := by
  rw [bin_or_u64 _ (by omega) (by omega)]
  have := or_add (n := n) (m := m) (i := 32) (by omega)
  simp only [show (2 : Nat) ^ 32 = 4294967296 from rfl] at this
  rw [this]
theorem add32_c (x y c : Nat) (hx : x < 4294967296) (hy : y < 4294967296) (hc : c < 4294967296) : Gives mach 100 [.int .u32 (x : Int), .int .u32 (y : Int), .int .u32 (c : Int)] (.tup [.int .u32 ((x + y + c) % 4294967296 : Nat), .int .u32 ((x + y + c) / 4294967296 : Nat)]) := by
  refine gives tab100 rfl ?_
  simp only [F100, tmR, seval, tmF, ← Int.natCast_add, ← Int.natCast_mul, wrap_u32, wrap_u64, wrap_i64n, wrap_i64, nat_succ_sub, nat_add_one, nat_lt, nat_le, nat_eq, nat_lt0, nat_le0, nat_eq0, bin_shr32, bin_shl32, dig_len, iaddr_hs, iaddr_dig, dig_getElem, dig_set, cast0, cast1, store_row]
  congr 4 <;> omega
theorem add_step {i x y c A B C : Nat} (h : A + c * 4294967296 ^ i = B + C) : A + (x + y + c) % 4294967296 * 4294967296 ^ i + (x + y + c) / 4294967296 * 4294967296 ^ (i + 1) = B + x * 4294967296 ^ i + (C + y * 4294967296 ^ i) := by
  have h1 := Nat.div_add_mod (x + y + c) 4294967296
  generalize (x + y + c) % 4294967296 = d at *
  generalize (x + y + c) / 4294967296 = e at *
  rw [Nat.pow_succ]
  generalize 4294967296 ^ i = p at *
  have : (4294967296 * e + d) * p = (x + y + c) * p := by rw [h1]
  grind
theorem loopPlus {Q : Ex → St → Prop} (xs ys : List Nat) (hda : Dig xs) (hdb : Dig ys) (hl : xs.length < 2147483647) (hbl : ys.length ≤ xs.length) : ∀ (n i c : Nat) (os : List Nat) (st : St), i + n = xs.length →
    st.env 21 = .sl (dig xs) → st.env 22 = .int .i64 (xs.length : Nat) → st.env 23 = .int .i64 (i : Nat) → st.env 1 = .sl (dig ys) → st.env 5 = .hs 20 0 1 (xs.length + 1) → st.env 6 = .int .u32 (c : Nat) →
    st.obj 20 0 = some { cont := dig os, esz := 1, box := false, solo := true, tip := true } → os.length = xs.length + 1 → Dig os → c ≤ 1 →
    Go.Plain.val (os.take i) + c * 4294967296 ^ i = Go.Plain.val (xs.take i) + Go.Plain.val (ys.take i) →
    (∀ s os' (c' : Nat), s.env 5 = .hs 20 0 1 (xs.length + 1) → s.env 6 = .int .u32 (c' : Nat) → s.env 0 = st.env 0 → s.obj 20 0 = some { cont := dig os', esz := 1, box := false, solo := true, tip := true } → os'.length = xs.length + 1 → Dig os' → c' ≤ 1 →
      Go.Plain.val (os'.take xs.length) + c' * 4294967296 ^ xs.length = Go.Plain.val xs + Go.Plain.val ys → Q (.exit 0) s) →
    Goes mach (.loop L88_0) Q st
  | 0, i, c, os, st, hn, h21, h22, h23, h1, h5, h6, ho, hol, hod, hc, hv, hQ => by
    have hi : i = xs.length := by omega
    subst hi
    rw [wp_loop]
    simp only [L88_0, tmR, seval, h21, h22, h23, Int.lt_irrefl]
    refine hQ _ os c h5 h6 rfl ho hol hod hc ?_
    rw [hv, List.take_length, List.take_of_length_le hbl]
  | n + 1, i, c, os, st, hn, h21, h22, h23, h1, h5, h6, ho, hol, hod, hc, hv, hQ => by
    have hia : i < xs.length := by omega
    have hio : i < xs.length + 1 := by omega
    have hio2 : i < os.length := by omega
    have hw : IntKind.i64.wrap ((i + 1 : Nat) : Int) = (i + 1 : Nat) := wrap_i64n (by omega)
    have ha := hda.get i
    have hb := hdb.get i
    rw [wp_loop]
    by_cases hib : i < ys.length
    · have hadd := add32_c (xs.getD i 0) (ys.getD i 0) c ha hb (by omega)
      simp only [L88_0, tmR, seval, ← Int.natCast_add, ← Int.natCast_mul, wrap_u32, wrap_u64, wrap_i64n, wrap_i64, nat_succ_sub, nat_add_one, nat_lt, nat_le, nat_eq, nat_lt0, nat_le0, nat_eq0, bin_shr32, bin_shl32, dig_len, iaddr_hs, iaddr_dig, dig_getElem, dig_set, cast0, cast1, store_row, h21, h22, h23, h1, h5, h6, hia, hib, wpcall_eq hadd, hio, ho, dig_getElem hio2, store_row, hw]
      refine loopPlus xs ys hda hdb hl hbl n (i + 1) ((xs.getD i 0 + ys.getD i 0 + c) / 4294967296) (os.set i ((xs.getD i 0 + ys.getD i 0 + c) % 4294967296)) _ (by omega) ?_ ?_ ?_ ?_ ?_ ?_ ?_ ?_ (hod.set (by omega)) (by omega) ?_ ?_
      all_goals (try simp only [tmD, reduceIte, Nat.reduceEqDiff, Nat.reduceAdd, h21, h22, h1, h5, h6, ho, hol])
      · rw [val_take_set hio2, val_take_succ hia, val_take_succ hib]
        exact add_step hv
      · exact hQ
    · have hadd := add32_c (xs.getD i 0) 0 c ha (by omega) (by omega)
      simp only [cast0] at hadd
      simp only [L88_0, tmR, seval, ← Int.natCast_add, ← Int.natCast_mul, wrap_u32, wrap_u64, wrap_i64n, wrap_i64, nat_succ_sub, nat_add_one, nat_lt, nat_le, nat_eq, nat_lt0, nat_le0, nat_eq0, bin_shr32, bin_shl32, dig_len, iaddr_hs, iaddr_dig, dig_getElem, dig_set, cast0, cast1, store_row, h21, h22, h23, h1, h5, h6, hia, hib, wpcall_eq hadd, hio, ho, dig_getElem hio2, store_row, hw]
      refine loopPlus xs ys hda hdb hl hbl n (i + 1) ((xs.getD i 0 + 0 + c) / 4294967296) (os.set i ((xs.getD i 0 + 0 + c) % 4294967296)) _ (by omega) ?_ ?_ ?_ ?_ ?_ ?_ ?_ ?_ (hod.set (by omega)) (by omega) ?_ ?_
      all_goals (try simp only [tmD, reduceIte, Nat.reduceEqDiff, Nat.reduceAdd, h21, h22, h1, h5, h6, ho, hol])
      · rw [val_take_set hio2, val_take_succ hia, List.take_of_length_le (by omega : ys.length ≤ i + 1)]
        rw [List.take_of_length_le (by omega : ys.length ≤ i)] at hv
        have := add_step (x := xs.getD i 0) (y := 0) hv
        rw [this]; simp
      · exact hQ
theorem out_row {ob : Nat → Nat → Option Obj} {k g n : Nat} {os : List Nat} (h : ob k g = some { cont := dig os, esz := 1, box := false, solo := true, tip := true }) (hn : os.length = n) : out ob (.hs k g 1 n) = some (.own 1 (dig os)) := by
  subst hn
  simp [out, out1, h, dig_len]
theorem plus_c (xs ys : List Nat) (hda : Dig xs) (hdb : Dig ys) (hl : xs.length < 2147483647) (hl2 : ys.length < 2147483647) :
    ∃ os, Dig os ∧ os.length ≤ max xs.length ys.length + 1 ∧ Go.Plain.val os = Go.Plain.val xs + Go.Plain.val ys ∧ Gives mach 88 [.sl (dig xs), .sl (dig ys)] (.sl (dig os)) := by
  suffices h : ∃ v, (∃ os, v = .sl (dig os) ∧ Dig os ∧ os.length ≤ max xs.length ys.length + 1 ∧ Go.Plain.val os = Go.Plain.val xs + Go.Plain.val ys) ∧ Gives mach 88 [.sl (dig xs), .sl (dig ys)] v by
    obtain ⟨_, ⟨os, rfl, h1, h2, h3⟩, h4⟩ := h
    exact ⟨os, h1, h2, h3, h4⟩
  refine givesE tab88 rfl ?_
  have fin : ∀ (s : St) (us os' : List Nat) (c' m : Nat), us.length = m → s.env 5 = .hs 20 0 1 (m + 1) → s.env 6 = .int .u32 (c' : Nat) → s.env 0 = .sl (dig us) → s.obj 20 0 = some { cont := dig os', esz := 1, box := false, solo := true, tip := true } → os'.length = m + 1 → Dig os' → c' ≤ 1 → m ≤ max xs.length ys.length →
      Go.Plain.val (os'.take m) + c' * 4294967296 ^ m = Go.Plain.val xs + Go.Plain.val ys → True := fun _ _ _ _ _ _ _ _ _ _ _ _ _ _ _ => trivial
  by_cases hlt : xs.length < ys.length
  · have hw : IntKind.i64.wrap ((ys.length + 1 : Nat) : Int) = (ys.length + 1 : Nat) := wrap_i64n (by omega)
    simp only [F88, tmR, seval, ← Int.natCast_add, ← Int.natCast_mul, wrap_u32, wrap_u64, wrap_i64n, wrap_i64, nat_succ_sub, nat_add_one, nat_lt, nat_le, nat_eq, nat_lt0, nat_le0, nat_eq0, bin_shr32, bin_shl32, dig_len, iaddr_hs, iaddr_dig, dig_getElem, dig_set, cast0, cast1, store_row, hlt, hw]
    refine ⟨by omega, ?_⟩
    refine loopPlus ys xs hdb hda (by omega) (by omega) ys.length 0 0 (List.replicate (ys.length + 1) 0) _ (by omega) ?_ ?_ ?_ ?_ ?_ ?_ ?_ ?_ (.rep _) (by omega) ?_ ?_
    all_goals (try simp only [tmD, reduceIte, Nat.reduceEqDiff, Nat.reduceAdd, dig_rep, List.length_replicate, cast0])
    · simp [Go.Plain.val]
    · intro s os c h5 h6 h0 ho hol hod hc hv
      have hlo : ys.length < os.length := by omega
      simp only [tmR, seval, h5, h6, h0, dig_len, iaddr_hs (Nat.lt_succ_self ys.length), ho, dig_getElem hlo, dig_set, tmF, List.length_set, hol]
      refine ⟨_, rfl, hod.set (by omega), by simp [hol]; omega, ?_⟩
      have := val_take_set (d := c) hlo
      rw [List.take_of_length_le (by simp [hol])] at this
      rw [this, hv]; omega
  · have hw : IntKind.i64.wrap ((xs.length + 1 : Nat) : Int) = (xs.length + 1 : Nat) := wrap_i64n (by omega)
    simp only [F88, tmR, seval, ← Int.natCast_add, ← Int.natCast_mul, wrap_u32, wrap_u64, wrap_i64n, wrap_i64, nat_succ_sub, nat_add_one, nat_lt, nat_le, nat_eq, nat_lt0, nat_le0, nat_eq0, bin_shr32, bin_shl32, dig_len, iaddr_hs, iaddr_dig, dig_getElem, dig_set, cast0, cast1, store_row, hlt, hw]
    refine ⟨by omega, ?_⟩
    refine loopPlus xs ys hda hdb (by omega) (by omega) xs.length 0 0 (List.replicate (xs.length + 1) 0) _ (by omega) ?_ ?_ ?_ ?_ ?_ ?_ ?_ ?_ (.rep _) (by omega) ?_ ?_
    all_goals (try simp only [tmD, reduceIte, Nat.reduceEqDiff, Nat.reduceAdd, dig_rep, List.length_replicate, cast0])
    · simp [Go.Plain.val]
    · intro s os c h5 h6 h0 ho hol hod hc hv
      have hlo : xs.length < os.length := by omega
      simp only [tmR, seval, h5, h6, h0, dig_len, iaddr_hs (Nat.lt_succ_self xs.length), ho, dig_getElem hlo, dig_set, tmF, List.length_set, hol]
      refine ⟨_, rfl, hod.set (by omega), by simp [hol]; omega, ?_⟩
      have := val_take_set (d := c) hlo
      rw [List.take_of_length_le (by simp [hol])] at this
      rw [this, hv]
theorem wp_for {M : Mach} {a : TCode} {Q : Ex → St → Prop} (I : Nat → St → Prop) (n : Nat)
    (hs : ∀ i st, i < n → I i st → Goes M a (fun e s => match e with | .norm => I (i + 1) s | e => Q e s) st)
    (he : ∀ st, I n st → Goes M a (fun e s => match e with | .norm => False | e => Q e s) st) : ∀ k i st, i + k = n → I i st → Goes M (.loop a) Q st
  | 0, i, st, hk, hi => by
    have : i = n := by omega
    subst this
    rw [wp_loop]
    refine (he st hi).mono fun e s h => ?_
    cases e with
    | norm => cases h
    | _ => exact h
  | k + 1, i, st, hk, hi => by
    rw [wp_loop]
    refine (hs i st (by omega) hi).mono fun e s h => ?_
    cases e with
    | norm => exact wp_for I n hs he k (i + 1) s (by omega) h
    | _ => exact h
theorem wp_down {M : Mach} {a : TCode} {Q : Ex → St → Prop} (I : Nat → St → Prop)
    (hs : ∀ i st, I (i + 1) st → Goes M a (fun e s => match e with | .norm => I i s | e => Q e s) st)
    (he : ∀ st, I 0 st → Goes M a (fun e s => match e with | .norm => False | e => Q e s) st) : ∀ i st, I i st → Goes M (.loop a) Q st
  | 0, st, hi => by
    rw [wp_loop]
    refine (he st hi).mono fun e s h => ?_
    cases e with
    | norm => cases h
    | _ => exact h
  | k + 1, st, hi => by
    rw [wp_loop]
    refine (hs k st hi).mono fun e s h => ?_
    cases e with
    | norm => exact wp_down I hs he k s h
    | _ => exact h
theorem bv_msb (n : Nat) (h : n < 4294967296) : (BitVec.ofNat 32 n).msb = decide (2147483648 ≤ n) := by
  rw [BitVec.msb_eq_decide, BitVec.toNat_ofNat, Nat.mod_eq_of_lt (by omega)]
theorem sub_borrow (x y b d : Nat) (hx : x < 4294967296) (hy : y < 4294967296) (hb : b ≤ 1) (hd : d = (x + 4294967296 - y + 4294967296 - b) % 4294967296) :
    ((~~~(BitVec.ofNat 32 x) &&& BitVec.ofNat 32 y) ||| (~~~(BitVec.ofNat 32 x ^^^ BitVec.ofNat 32 y) &&& BitVec.ofNat 32 d)).toNat / 2147483648 = if x < y + b then 1 else 0 := by
  have hd2 : d < 4294967296 := by omega
  have h := BitVec.msb_eq_decide ((~~~(BitVec.ofNat 32 x) &&& BitVec.ofNat 32 y) ||| (~~~(BitVec.ofNat 32 x ^^^ BitVec.ofNat 32 y) &&& BitVec.ofNat 32 d))
  have hlt := ((~~~(BitVec.ofNat 32 x) &&& BitVec.ofNat 32 y) ||| (~~~(BitVec.ofNat 32 x ^^^ BitVec.ofNat 32 y) &&& BitVec.ofNat 32 d)).isLt
  generalize hv : ((~~~(BitVec.ofNat 32 x) &&& BitVec.ofNat 32 y) ||| (~~~(BitVec.ofNat 32 x ^^^ BitVec.ofNat 32 y) &&& BitVec.ofNat 32 d)) = v at *
  rw [← hv] at h
  simp only [BitVec.msb_or, BitVec.msb_and, BitVec.msb_not, BitVec.msb_xor, bv_msb x hx, bv_msb y hy, bv_msb d hd2] at h
  rw [hv] at h
  have e : (2 ^ (32 - 1) : Nat) = 2147483648 := rfl
  rw [e] at h
  have hq : v.toNat / 2147483648 = if 2147483648 ≤ v.toNat then 1 else 0 := by split <;> omega
  rw [hq]
  by_cases h1 : 2147483648 ≤ x <;> by_cases h2 : 2147483648 ≤ y <;> by_cases h3 : 2147483648 ≤ d <;> simp [h1, h2, h3] at h <;> (split <;> split <;> omega)
theorem wrap_u32_i (n : Int) : IntKind.u32.wrap n = n % 4294967296 := by simp only [IntKind.wrap, IntKind.bits, IntKind.signed]; simp
theorem ofInt_toNat (v : BitVec 32) : BitVec.ofInt 32 (v.toNat : Int) = v := by simp
theorem un_xor32 (n : Nat) : unTV .xor (.int .u32 (n : Int)) = some (.int .u32 ((~~~ BitVec.ofNat 32 n).toNat : Nat)) := by
  simp only [unTV]
  have e : (BitVec.ofInt IntKind.u32.bits (if IntKind.u32.signed then -1 else IntKind.u32.max) ^^^ BitVec.ofInt IntKind.u32.bits (n : Int)).toNat = (~~~ BitVec.ofNat 32 n).toNat := by
    show (BitVec.ofInt 32 (4294967295 : Int) ^^^ BitVec.ofInt 32 (n : Int)).toNat = _
    rw [ofInt_nat]
    have : BitVec.ofInt 32 (4294967295 : Int) = BitVec.allOnes 32 := by decide
    rw [this, BitVec.allOnes_xor]
  rw [e, wrap_u32, Nat.mod_eq_of_lt (BitVec.isLt _)]
theorem bin_and32 (b) (v w : BitVec 32) : binTV b .and (.int .u32 (v.toNat : Nat)) (.int .u32 (w.toNat : Nat)) = some (.int .u32 ((v &&& w).toNat : Nat)) := by
  simp only [binTV, if_true]
  have e : (BitVec.ofInt IntKind.u32.bits (v.toNat : Int) &&& BitVec.ofInt IntKind.u32.bits (w.toNat : Int)).toNat = (v &&& w).toNat := by
    show (BitVec.ofInt 32 (v.toNat : Int) &&& BitVec.ofInt 32 (w.toNat : Int)).toNat = _
    rw [ofInt_toNat, ofInt_toNat]
  rw [e, wrap_u32, Nat.mod_eq_of_lt (BitVec.isLt _)]
theorem bin_or32 (b) (v w : BitVec 32) : binTV b .or (.int .u32 (v.toNat : Nat)) (.int .u32 (w.toNat : Nat)) = some (.int .u32 ((v ||| w).toNat : Nat)) := by
  simp only [binTV, if_true]
  have e : (BitVec.ofInt IntKind.u32.bits (v.toNat : Int) ||| BitVec.ofInt IntKind.u32.bits (w.toNat : Int)).toNat = (v ||| w).toNat := by
    show (BitVec.ofInt 32 (v.toNat : Int) ||| BitVec.ofInt 32 (w.toNat : Int)).toNat = _
    rw [ofInt_toNat, ofInt_toNat]
  rw [e, wrap_u32, Nat.mod_eq_of_lt (BitVec.isLt _)]
theorem bin_xor32 (b) (v w : BitVec 32) : binTV b .xor (.int .u32 (v.toNat : Nat)) (.int .u32 (w.toNat : Nat)) = some (.int .u32 ((v ^^^ w).toNat : Nat)) := by
  simp only [binTV, if_true]
  have e : (BitVec.ofInt IntKind.u32.bits (v.toNat : Int) ^^^ BitVec.ofInt IntKind.u32.bits (w.toNat : Int)).toNat = (v ^^^ w).toNat := by
    show (BitVec.ofInt 32 (v.toNat : Int) ^^^ BitVec.ofInt 32 (w.toNat : Int)).toNat = _
    rw [ofInt_toNat, ofInt_toNat]
  rw [e, wrap_u32, Nat.mod_eq_of_lt (BitVec.isLt _)]
theorem un_xor32v (v : BitVec 32) : unTV .xor (.int .u32 (v.toNat : Nat)) = some (.int .u32 ((~~~ v).toNat : Nat)) := by
  rw [un_xor32]; simp
theorem bin_shr31 (b kk) (n : Nat) : binTV b .shr (.int .u32 (n : Int)) (.int kk 31) = some (.int .u32 ((n / 2147483648 : Nat) : Int)) := by
  simp only [binTV]
  rw [if_pos (by decide)]
  congr 2
  simp only [IntKind.bits]
  rw [Int.fdiv_eq_ediv_of_nonneg _ (by decide)]
  simp
theorem sub32_c (x y b : Nat) (hx : x < 4294967296) (hy : y < 4294967296) (hb : b ≤ 1) : Gives mach 101 [.int .u32 (x : Int), .int .u32 (y : Int), .int .u32 (b : Int)]
    (.tup [.int .u32 ((x + 4294967296 - y + 4294967296 - b) % 4294967296 : Nat), .int .u32 ((if x < y + b then 1 else 0 : Nat) : Int)]) := by
  refine gives tab101 rfl ?_
  obtain ⟨d, hd⟩ : ∃ d, d = (x + 4294967296 - y + 4294967296 - b) % 4294967296 := ⟨_, rfl⟩
  have hd2 : d < 4294967296 := by omega
  have e1 : IntKind.u32.wrap (IntKind.u32.wrap ((x : Int) - (y : Int)) - (b : Int)) = ((BitVec.ofNat 32 d).toNat : Nat) := by
    rw [wrap_u32_i, wrap_u32_i, BitVec.toNat_ofNat]; omega
  have ex : ((x : Nat) : Int) = ((BitVec.ofNat 32 x).toNat : Nat) := by rw [BitVec.toNat_ofNat]; omega
  have ey : ((y : Nat) : Int) = ((BitVec.ofNat 32 y).toNat : Nat) := by rw [BitVec.toNat_ofNat]; omega
  have key := sub_borrow x y b d hx hy hb hd
  rw [← hd]
  simp only [F101, tmR, seval, e1]
  simp only [ex, ey]
  simp only [tmR, seval, un_xor32v, bin_and32, bin_or32, bin_xor32, bin_shr31, key, tmF]
  rw [BitVec.toNat_ofNat, Nat.mod_eq_of_lt (by omega : d < 2 ^ 32)]
end Go.TM.Fn
end
section
namespace Go.TM.Fn
open Go Go.TM Go.Plain
set_option linter.unusedVariables false
set_option linter.unusedSimpArgs false
set_option maxRecDepth 20000
abbrev Row (st : St) (k g : Nat) (os : List Nat) : Prop := st.obj k g = some { cont := dig os, esz := 1, box := false, solo := true, tip := true }
theorem sub_step {i x y c d A B C : Nat} (h : A + C = B + c * 4294967296 ^ i) (hx : x < 4294967296) (hy : y < 4294967296) (hc : c ≤ 1) (hd : d = (x + 4294967296 - y + 4294967296 - c) % 4294967296) :
    A + d * 4294967296 ^ i + (C + y * 4294967296 ^ i) = B + x * 4294967296 ^ i + (if x < y + c then 1 else 0) * 4294967296 ^ (i + 1) := by
  rw [Nat.pow_succ]
  generalize 4294967296 ^ i = p at *
  by_cases hb : x < y + c
  · rw [if_pos hb]
    have : d + y + c = x + 4294967296 := by omega
    have : (d + y + c) * p = (x + 4294967296) * p := by rw [this]
    grind
  · rw [if_neg hb]
    have : d + y + c = x := by omega
    have : (d + y + c) * p = x * p := by rw [this]
    grind
theorem minus_c (xs ys : List Nat) (hda : Dig xs) (hdb : Dig ys) (hl : xs.length < 2147483648) (hbl : ys.length ≤ xs.length) (hle : Go.Plain.val ys ≤ Go.Plain.val xs) :
    ∃ os, Dig os ∧ os.length = xs.length ∧ Go.Plain.val os = Go.Plain.val xs - Go.Plain.val ys ∧ Gives mach 90 [.sl (dig xs), .sl (dig ys)] (.sl (dig os)) := by
  suffices h : ∃ v, (∃ os, v = .sl (dig os) ∧ Dig os ∧ os.length = xs.length ∧ Go.Plain.val os = Go.Plain.val xs - Go.Plain.val ys) ∧ Gives mach 90 [.sl (dig xs), .sl (dig ys)] v by
    obtain ⟨_, ⟨os, rfl, h1, h2, h3⟩, h4⟩ := h
    exact ⟨os, h1, h2, h3, h4⟩
  refine givesE tab90 rfl ?_
  simp only [F90, tmR, seval, ← Int.natCast_add, ← Int.natCast_mul, wrap_u32, wrap_u64, wrap_i64n, wrap_i64, nat_succ_sub, nat_add_one, nat_lt, nat_le, nat_eq, nat_lt0, nat_le0, nat_eq0, bin_shr32, bin_shl32, dig_len, iaddr_hs, iaddr_dig, dig_getElem, dig_set, cast0, cast1, store_row]
  refine ⟨hl, ?_⟩
  refine wp_for (fun i s => s.env 13 = .sl (dig xs) ∧ s.env 14 = .int .i64 (xs.length : Nat) ∧ s.env 15 = .int .i64 (i : Nat) ∧ s.env 1 = .sl (dig ys) ∧ s.env 5 = .hs 12 0 1 xs.length ∧
    ∃ os c, s.env 6 = .int .u32 (c : Nat) ∧ Row s 12 0 os ∧ os.length = xs.length ∧ Dig os ∧ c ≤ 1 ∧ Go.Plain.val (os.take i) + Go.Plain.val (ys.take i) = Go.Plain.val (xs.take i) + c * 4294967296 ^ i) xs.length ?_ ?_ xs.length 0 _ (by omega) ?_
  · rintro i st hi ⟨h13, h14, h15, h1, h5, os, c, h6, ho, hol, hod, hc, hv⟩
    have hio : i < os.length := by omega
    have hw : IntKind.i64.wrap ((i + 1 : Nat) : Int) = (i + 1 : Nat) := wrap_i64n (by omega)
    have ha := hda.get i
    have hb := hdb.get i
    by_cases hib : i < ys.length
    · have hsub := sub32_c (xs.getD i 0) (ys.getD i 0) c ha hb hc
      simp only [L90_0, tmR, seval, ← Int.natCast_add, ← Int.natCast_mul, wrap_u32, wrap_u64, wrap_i64n, wrap_i64, nat_succ_sub, nat_add_one, nat_lt, nat_le, nat_eq, nat_lt0, nat_le0, nat_eq0, bin_shr32, bin_shl32, dig_len, iaddr_hs, iaddr_dig, dig_getElem, dig_set, cast0, cast1, store_row, h13, h14, h15, h1, h5, h6, hi, hib, wpcall_eq hsub, ho, dig_getElem hio, hw, List.length_set]
      refine ⟨_, _, rfl, rfl, by simp [hol], hod.set (by omega), by split <;> omega, ?_⟩
      rw [val_take_set hio, val_take_succ hi, val_take_succ hib]
      exact sub_step hv ha hb hc rfl
    · have hsub := sub32_c (xs.getD i 0) 0 c ha (by omega) hc
      simp only [cast0] at hsub
      simp only [L90_0, tmR, seval, ← Int.natCast_add, ← Int.natCast_mul, wrap_u32, wrap_u64, wrap_i64n, wrap_i64, nat_succ_sub, nat_add_one, nat_lt, nat_le, nat_eq, nat_lt0, nat_le0, nat_eq0, bin_shr32, bin_shl32, dig_len, iaddr_hs, iaddr_dig, dig_getElem, dig_set, cast0, cast1, store_row, h13, h14, h15, h1, h5, h6, hi, hib, wpcall_eq hsub, ho, dig_getElem hio, hw, List.length_set]
      refine ⟨_, _, rfl, rfl, by simp [hol], hod.set (by omega), by split <;> omega, ?_⟩
      rw [val_take_set hio, val_take_succ hi, List.take_of_length_le (by omega : ys.length ≤ i + 1)]
      rw [List.take_of_length_le (by omega : ys.length ≤ i)] at hv
      have := sub_step (y := 0) hv ha (by omega) hc rfl
      simpa using this
  · rintro st ⟨h13, h14, h15, h1, h5, os, c, h6, ho, hol, hod, hc, hv⟩
    simp only [L90_0, tmR, seval, h13, h14, h15, h5, Int.lt_irrefl, ho, tmF, dig_len, hol]
    refine ⟨_, rfl, hod, hol, ?_⟩
    rw [List.take_of_length_le (by omega), List.take_of_length_le hbl, List.take_length] at hv
    have l1 := val_lt hod
    rw [hol] at l1
    have : c = 0 := by
      have : c = 0 ∨ c = 1 := by omega
      rcases this with rfl | rfl
      · rfl
      · omega
    subst this
    omega
  · simp only [tmD, reduceIte, Nat.reduceEqDiff, Nat.reduceAdd]
    exact ⟨rfl, List.replicate xs.length 0, 0, rfl, by simp only [Row, tmD, reduceIte, Nat.reduceEqDiff, Nat.reduceAdd, dig_rep], by simp, .rep _, by omega, by simp [Go.Plain.val]⟩
theorem cmp_c (xs ys : List Nat) (hda : Dig xs) (hdb : Dig ys) (hl : xs.length < 2147483648) (hl2 : ys.length < 2147483648) :
    Gives mach 89 [.sl (dig (toDig (Go.Plain.val xs))), .sl (dig (toDig (Go.Plain.val ys)))] (.int .i64 (sgnN (Go.Plain.val xs) (Go.Plain.val ys))) := by
  obtain ⟨us, hus⟩ : ∃ us, us = toDig (Go.Plain.val xs) := ⟨_, rfl⟩
  obtain ⟨vs, hvs⟩ : ∃ vs, vs = toDig (Go.Plain.val ys) := ⟨_, rfl⟩
  have ha : Dig us := by rw [hus]; exact dig_toDig _
  have hb : Dig vs := by rw [hvs]; exact dig_toDig _
  have hul : us.length < 2147483648 := by have := toDig_val_len hda; rw [hus]; omega
  have hvl : vs.length < 2147483648 := by have := toDig_val_len hdb; rw [hvs]; omega
  have ev1 : Go.Plain.val us = Go.Plain.val xs := by rw [hus, val_toDig]
  have ev2 : Go.Plain.val vs = Go.Plain.val ys := by rw [hvs, val_toDig]
  rw [← hus, ← hvs]
  refine gives tab89 rfl ?_
  by_cases hne : us.length = vs.length
  · have hw : IntKind.i64.wrap ((us.length : Int) - 1) = (us.length : Int) - 1 := wrap_i64 (by omega) (by omega)
    simp only [F89, tmR, seval, ← Int.natCast_add, ← Int.natCast_mul, wrap_u32, wrap_u64, wrap_i64n, wrap_i64, nat_succ_sub, nat_add_one, nat_lt, nat_le, nat_eq, nat_lt0, nat_le0, nat_eq0, bin_shr32, bin_shl32, dig_len, iaddr_hs, iaddr_dig, dig_getElem, dig_set, cast0, cast1, store_row, hne]
    rw [← hne, hw]
    refine wp_down (fun i s => i ≤ us.length ∧ s.env 0 = .sl (dig us) ∧ s.env 1 = .sl (dig vs) ∧ s.env 5 = .int .i64 ((i : Int) - 1) ∧ sgnN (Go.Plain.val xs) (Go.Plain.val ys) = cmpN us vs i) ?_ ?_ us.length _ ?_
    · rintro i st ⟨hi, h0, h1, h5, hc⟩
      have hiu : i < us.length := by omega
      have hiv : i < vs.length := by omega
      have hw : IntKind.i64.wrap ((i : Int) - 1) = (i : Int) - 1 := wrap_i64 (by omega) (by omega)
      rw [nat_succ_sub] at h5
      by_cases he : us.getD i 0 = vs.getD i 0
      · simp only [L89_0, tmR, seval, ← Int.natCast_add, ← Int.natCast_mul, wrap_u32, wrap_u64, wrap_i64n, wrap_i64, nat_succ_sub, nat_add_one, nat_lt, nat_le, nat_eq, nat_lt0, nat_le0, nat_eq0, bin_shr32, bin_shl32, dig_len, iaddr_hs, iaddr_dig, dig_getElem, dig_set, cast0, cast1, store_row, h0, h1, h5, hiu, hiv, he, hw]
        refine ⟨by omega, ?_⟩
        rw [hc]; simp only [cmpN]; rw [if_pos he]
      · by_cases hlt : us.getD i 0 < vs.getD i 0
        · simp only [L89_0, tmR, seval, ← Int.natCast_add, ← Int.natCast_mul, wrap_u32, wrap_u64, wrap_i64n, wrap_i64, nat_succ_sub, nat_add_one, nat_lt, nat_le, nat_eq, nat_lt0, nat_le0, nat_eq0, bin_shr32, bin_shl32, dig_len, iaddr_hs, iaddr_dig, dig_getElem, dig_set, cast0, cast1, store_row, h0, h1, h5, hiu, hiv, he, hlt, hw, tmF]
          rw [hc]; simp only [cmpN]; rw [if_neg he, if_pos hlt]
        · simp only [L89_0, tmR, seval, ← Int.natCast_add, ← Int.natCast_mul, wrap_u32, wrap_u64, wrap_i64n, wrap_i64, nat_succ_sub, nat_add_one, nat_lt, nat_le, nat_eq, nat_lt0, nat_le0, nat_eq0, bin_shr32, bin_shl32, dig_len, iaddr_hs, iaddr_dig, dig_getElem, dig_set, cast0, cast1, store_row, h0, h1, h5, hiu, hiv, he, hlt, hw, tmF]
          rw [hc]; simp only [cmpN]; rw [if_neg he, if_neg hlt]
    · rintro st ⟨hi, h0, h1, h5, hc⟩
      simp only [L89_0, tmR, seval, h0, h1, h5, tmF]
      rw [hc]; rfl
    · simp only [tmD, reduceIte, Nat.reduceEqDiff, Nat.reduceAdd]
      refine ⟨Nat.le_refl _, ?_⟩
      rw [cmpN_all ha hb hne, ev1, ev2]
  · have hne' : ¬ us.length = vs.length := hne
    by_cases hlt : us.length < vs.length
    · have := len_lt_val (x := Go.Plain.val xs) (y := Go.Plain.val ys) (by rw [← hus, ← hvs]; exact hlt)
      simp only [F89, tmR, seval, ← Int.natCast_add, ← Int.natCast_mul, wrap_u32, wrap_u64, wrap_i64n, wrap_i64, nat_succ_sub, nat_add_one, nat_lt, nat_le, nat_eq, nat_lt0, nat_le0, nat_eq0, bin_shr32, bin_shl32, dig_len, iaddr_hs, iaddr_dig, dig_getElem, dig_set, cast0, cast1, store_row, hne, hlt, tmF]
      simp [sgnN, this]
    · have := len_lt_val (x := Go.Plain.val ys) (y := Go.Plain.val xs) (by rw [← hus, ← hvs]; omega)
      simp only [F89, tmR, seval, ← Int.natCast_add, ← Int.natCast_mul, wrap_u32, wrap_u64, wrap_i64n, wrap_i64, nat_succ_sub, nat_add_one, nat_lt, nat_le, nat_eq, nat_lt0, nat_le0, nat_eq0, bin_shr32, bin_shl32, dig_len, iaddr_hs, iaddr_dig, dig_getElem, dig_set, cast0, cast1, store_row, hne, hlt, tmF]
      simp only [sgnN]; rw [if_neg (by omega), if_neg (by omega)]
end Go.TM.Fn
end
section
namespace Go.TM.Fn
open Go Go.TM Go.Plain
set_option linter.unusedVariables false
set_option linter.unusedSimpArgs false
set_option maxRecDepth 20000
def IsI (k : Nat) (v : TV) (z : Int) : Prop := ∃ neg ds, v = rawI neg ds ∧ Dig ds ∧ ds.length ≤ k ∧ ival neg ds = z
def Di (k : Nat) (z : Int) : Prop := z.natAbs < 4294967296 ^ k
theorem IsI.di {k v z} (h : IsI k v z) : Di k z := by
  obtain ⟨neg, ds, _, h1, h2, rfl⟩ := h
  have := val_lt h1
  have h3 : (4294967296 : Nat) ^ ds.length ≤ 4294967296 ^ k := Nat.pow_le_pow_right (by decide) h2
  unfold Di ival
  cases neg <;> simp <;> omega
theorem ival_enc (z : Int) : ival (decide (z < 0)) (toDig z.natAbs) = z := by
  unfold ival; rw [val_toDig]
  by_cases h : z < 0 <;> simp [h] <;> omega
theorem isI_enc {k z} (h : Di k z) : IsI k (encI z) z := ⟨_, _, rfl, dig_toDig _, toDig_len_le h, ival_enc z⟩
theorem IsI.mono {j k v z} (h : IsI j v z) (hk : j ≤ k) : IsI k v z := by
  obtain ⟨n, ds, h1, h2, h3, h4⟩ := h; exact ⟨n, ds, h1, h2, by omega, h4⟩
theorem Di.mono {j k z} (h : Di j z) (hk : j ≤ k) : Di k z := Nat.lt_of_lt_of_le h (Nat.pow_le_pow_right (by decide) hk)
theorem Di.mul {j k x y} (h : Di j x) (h' : Di k y) : Di (j + k) (x * y) := by
  unfold Di at *; rw [Int.natAbs_mul, Nat.pow_add]; exact Nat.mul_lt_mul'' h h'
theorem Di.add {j k x y} (h : Di j x) (h' : Di k y) : Di (max j k + 1) (x + y) := by
  have h1 := h.mono (Nat.le_max_left j k)
  have h2 := h'.mono (Nat.le_max_right j k)
  unfold Di at *
  rw [Nat.pow_succ]
  have := Int.natAbs_add_le x y
  omega
theorem Di.neg {k x} (h : Di k x) : Di k (-x) := by unfold Di at *; rwa [Int.natAbs_neg]
theorem Di.sub {j k x y} (h : Di j x) (h' : Di k y) : Di (max j k + 1) (x - y) := by rw [Int.sub_eq_add_neg]; exact h.add h'.neg
theorem Di.zero {k} : Di k 0 := by unfold Di; exact Nat.pow_pos (by decide)
def sgn (z : Int) : Int := if z < 0 then -1 else if z = 0 then 0 else 1
theorem sign_c {k v z} (h : IsI k v z) (hk : k < 1073741824) : Gives mach 62 [v] (.int .i64 (sgn z)) := by
  obtain ⟨neg, ds, rfl, hd, hl, rfl⟩ := h
  refine gives tab62 rfl ?_
  have hm := mag_c neg ds hd (by omega)
  by_cases hz : Go.Plain.val ds = 0
  · rw [hz, toDig_zero] at hm
    simp only [F62, tmR, seval, wpcall_eq hm, dig_nil, tmF]
    simp [sgn, ival, hz]
  · have hne : (((toDig (Go.Plain.val ds)).length : Int) = 0) = False := eq_false (by have := mt toDig_eq_nil.1 hz; have := List.length_pos_iff.2 this; omega)
    cases neg
    · simp only [F62, tmR, seval, wpcall_eq hm, dig_len, hne, tmF]
      simp [sgn, ival]; omega
    · simp only [F62, tmR, seval, wpcall_eq hm, dig_len, hne, tmF]
      simp [sgn, ival]; omega
theorem cmp_sgn (x y : Int) : (if sgn x < sgn y then (-1 : Int) else if sgn y < sgn x then 1 else sgn x * sgnN x.natAbs y.natAbs) = sgn (x - y) := by
  unfold sgn sgnN
  repeat' split
  all_goals omega
theorem ival_abs (neg ds) : (ival neg ds).natAbs = Go.Plain.val ds := by cases neg <;> simp [ival]
theorem compare_c {j k v w x y} (hv : IsI j v x) (hw : IsI k w y) (hj : j < 1073741824) (hk : k < 1073741824) : Gives mach 93 [v, w] (.int .i64 (sgn (x - y))) := by
  have s1 := sign_c hv hj
  have s2 := sign_c hw hk
  obtain ⟨n, ds, rfl, hd, hl, hx⟩ := hv
  obtain ⟨m, es, rfl, he, hl2, hy⟩ := hw
  have m1 := mag_c n ds hd (by omega)
  have m2 := mag_c m es he (by omega)
  have c := cmp_c ds es hd he (by omega) (by omega)
  have e1 : Go.Plain.val ds = x.natAbs := by rw [← hx, ival_abs]
  have e2 : Go.Plain.val es = y.natAbs := by rw [← hy, ival_abs]
  rw [e1] at m1 c; rw [e2] at m2 c
  refine gives tab93 rfl ?_
  rw [← cmp_sgn]
  by_cases h1 : sgn x < sgn y
  · simp only [F93, tmR, seval, wpcall_eq s1, wpcall_eq s2, hasSl, h1, tmF]
  · by_cases h2 : sgn y < sgn x
    · simp only [F93, tmR, seval, wpcall_eq s1, wpcall_eq s2, h1, h2, tmF]
    · have hw : IntKind.i64.wrap (sgn x * sgnN x.natAbs y.natAbs) = sgn x * sgnN x.natAbs y.natAbs := by
        apply wrap_i64 <;> unfold sgn sgnN <;> (repeat' split) <;> omega
      simp only [F93, tmR, seval, wpcall_eq s1, wpcall_eq s2, wpcall_eq m1, wpcall_eq m2, wpcall_eq c, h1, h2, hw, tmF]
theorem clone_val {n : Nat} (hl : (toDig n).length < 2147483648) : Gives mach 85 [.sl (dig (toDig n))] (.sl (dig (toDig n))) := clone_c _ hl
theorem can_val (neg : Bool) (n : Nat) (hl : (toDig n).length < 2147483648) : Gives mach 63 [.bool neg, .sl (dig (toDig n))] (encI (if neg then -(n : Int) else n)) := by
  have := can_c neg (toDig n) (dig_toDig n) hl
  rwa [show ival neg (toDig n) = if neg then -(n : Int) else n by simp only [ival, val_toDig]] at this
theorem negate_c {k v z} (h : IsI k v z) (hk : k < 1073741824) : Gives mach 65 [v] (encI (-z)) := by
  obtain ⟨neg, ds, rfl, hd, hl, hz⟩ := h
  have hm := mag_c neg ds hd (by omega)
  have hl2 := toDig_val_len hd
  have hc := clone_val (n := Go.Plain.val ds) (by omega)
  have hcan := can_val (!neg) (Go.Plain.val ds) (by omega)
  have e : (if (!neg) = true then -(Go.Plain.val ds : Int) else (Go.Plain.val ds : Int)) = -z := by rw [← hz]; cases neg <;> simp [ival]
  rw [e] at hcan
  refine gives tab65 rfl ?_
  simp only [F65, tmR, seval, wpcall_eq hm, wpcall_eq hc, wpcall_eq hcan, tmF]
theorem sum_c {j k v w x y} (b : Bool) (hv : IsI j v x) (hw : ∃ neg ds, w = rawI neg ds ∧ Dig ds ∧ ds.length ≤ k ∧ ival b ds = y) (hj : j < 1073741824) (hk : k < 1073741824) : Gives mach 68 [v, w, .bool b] (encI (x + y)) := by
  obtain ⟨n, ds, rfl, hd, hl, hx⟩ := hv
  obtain ⟨m, es, rfl, he, hl2, hy⟩ := hw
  have m1 := mag_c n ds hd (by omega)
  have m2 := mag_c m es he (by omega)
  have l1 := toDig_val_len hd
  have l2 := toDig_val_len he
  refine gives tab68 rfl ?_
  by_cases hn : n = b
  · subst hn
    obtain ⟨os, ho, hol, hov, hp⟩ := plus_c _ _ (dig_toDig (Go.Plain.val ds)) (dig_toDig (Go.Plain.val es)) (by omega) (by omega)
    have hcan := can_c n os ho (by omega)
    rw [show ival n os = x + y by rw [← hx, ← hy]; simp only [ival, hov, val_toDig]; cases n <;> simp <;> omega] at hcan
    simp only [F68, tmR, seval, wpcall_eq m1, wpcall_eq m2, wpcall_eq hp, wpcall_eq hcan, tmF]
  · have hnb : (n == b) = false := by cases n <;> cases b <;> simp_all
    have hc := cmp_c ds es hd he (by omega) (by omega)
    by_cases hle : Go.Plain.val es ≤ Go.Plain.val ds
    · have hs : ((0 : Int) ≤ sgnN (Go.Plain.val ds) (Go.Plain.val es)) = True := eq_true (by unfold sgnN; repeat' split
                                                                                             all_goals omega)
      obtain ⟨os, ho, hol, hov, hp⟩ := minus_c _ _ (dig_toDig (Go.Plain.val ds)) (dig_toDig (Go.Plain.val es)) (by omega) (by
        by_cases hh : (toDig (Go.Plain.val ds)).length < (toDig (Go.Plain.val es)).length
        · have := len_lt_val hh; omega
        · omega) (by rw [val_toDig, val_toDig]; exact hle)
      have hcan := can_c n os ho (by omega)
      rw [val_toDig, val_toDig] at hov
      rw [show ival n os = x + y by rw [← hx, ← hy]; simp only [ival, hov]; cases n <;> cases b <;> simp_all <;> omega] at hcan
      simp only [F68, tmR, seval, wpcall_eq m1, wpcall_eq m2, hnb, wpcall_eq hc, hs, wpcall_eq hp, wpcall_eq hcan, tmF]
    · have hs : ((0 : Int) ≤ sgnN (Go.Plain.val ds) (Go.Plain.val es)) = False := eq_false (by unfold sgnN; repeat' split
                                                                                               all_goals omega)
      obtain ⟨os, ho, hol, hov, hp⟩ := minus_c _ _ (dig_toDig (Go.Plain.val es)) (dig_toDig (Go.Plain.val ds)) (by omega) (by
        by_cases hh : (toDig (Go.Plain.val es)).length < (toDig (Go.Plain.val ds)).length
        · have := len_lt_val hh; omega
        · omega) (by rw [val_toDig, val_toDig]; omega)
      have hcan := can_c b os ho (by omega)
      rw [val_toDig, val_toDig] at hov
      rw [show ival b os = x + y by rw [← hx, ← hy]; simp only [ival, hov]; cases n <;> cases b <;> simp_all <;> omega] at hcan
      simp only [F68, tmR, seval, wpcall_eq m1, wpcall_eq m2, hnb, wpcall_eq hc, hs, wpcall_eq hp, wpcall_eq hcan, tmF]
theorem add_c {j k v w x y} (hv : IsI j v x) (hw : IsI k w y) (hj : j < 1073741824) (hk : k < 1073741824) : Gives mach 47 [v, w] (encI (x + y)) := by
  obtain ⟨m, es, rfl, he, hl2, hy⟩ := hw
  have hs := sum_c m hv ⟨m, es, rfl, he, hl2, hy⟩ hj hk
  obtain ⟨n, ds, rfl, hd, hl, hx⟩ := hv
  refine gives tab47 rfl ?_
  simp only [F47, tmR, seval, wpcall_eq hs, tmF]
theorem isub_c {j k v w x y} (hv : IsI j v x) (hw : IsI k w y) (hj : j < 1073741824) (hk : k < 1073741824) : Gives mach 87 [v, w] (encI (x - y)) := by
  obtain ⟨m, es, rfl, he, hl2, hy⟩ := hw
  have hs := sum_c (y := -y) (!m) hv ⟨m, es, rfl, he, hl2, by rw [← hy]; cases m <;> simp [ival]⟩ hj hk
  rw [← Int.sub_eq_add_neg] at hs
  obtain ⟨n, ds, rfl, hd, hl, hx⟩ := hv
  refine gives tab87 rfl ?_
  simp only [F87, tmR, seval, wpcall_eq hs, tmF]
end Go.TM.Fn
end
section
namespace Go.TM.Fn
open Go Go.TM Go.Plain
set_option linter.unusedVariables false
set_option linter.unusedSimpArgs false
set_option maxRecDepth 20000
theorem wrap_u64_i (n : Int) : IntKind.u64.wrap n = n % 18446744073709551616 := by simp only [IntKind.wrap, IntKind.bits, IntKind.signed]; simp
def I64 (n : Int) : Prop := -9223372036854775808 ≤ n ∧ n < 9223372036854775808
theorem lo_hi (u : Nat) (h : u < 18446744073709551616) : Go.Plain.val [u % 4294967296, u / 4294967296 % 4294967296] = u ∧ Dig [u % 4294967296, u / 4294967296 % 4294967296] := by
  refine ⟨by simp only [Go.Plain.val]; omega, .cons (by omega) (.cons (by omega) .nil)⟩
theorem from_c {n : Int} (h : I64 n) : Gives mach 43 [.int .i64 n] (encI n) := by
  obtain ⟨h1, h2⟩ := h
  refine gives tab43 rfl ?_
  obtain ⟨lh, ld⟩ := lo_hi n.natAbs (by omega)
  by_cases hn : n < 0
  · have hc := can_c true [n.natAbs % 4294967296, n.natAbs / 4294967296 % 4294967296] ld (by simp)
    rw [show ival true [n.natAbs % 4294967296, n.natAbs / 4294967296 % 4294967296] = n by simp only [ival, lh]; simp; omega] at hc
    have hw : IntKind.u64.wrap (0 - IntKind.u64.wrap n) = (n.natAbs : Nat) := by rw [wrap_u64_i, wrap_u64_i]; omega
    simp only [dig, List.map_cons, List.map_nil] at hc
    simp only [F43, tmR, seval, hn, hw, bin_shr32, wrap_u32, wpcall_eq hc, tmF]
    simp [encI, hn]
  · have hc := can_c false [n.natAbs % 4294967296, n.natAbs / 4294967296 % 4294967296] ld (by simp)
    rw [show ival false [n.natAbs % 4294967296, n.natAbs / 4294967296 % 4294967296] = n by simp only [ival, lh]; simp; omega] at hc
    have hw : IntKind.u64.wrap n = (n.natAbs : Nat) := by rw [wrap_u64_i]; omega
    simp only [dig, List.map_cons, List.map_nil] at hc
    simp only [F43, tmR, seval, hn, hw, bin_shr32, wrap_u32, wpcall_eq hc, tmF]
    simp [encI, hn]
def Keep (l : List Nat) (s st : St) : Prop := ∀ k, k ∈ l → s.env k = st.env k
theorem Keep.refl (l s) : Keep l s s := fun _ _ => rfl
theorem keep_put {l : List Nat} {st s : St} {d : Nat} {v : TV} (h : Keep l s st) (hd : l.contains d = false) : Keep l (put s d v) st := by
  intro k hk
  rw [put_env, if_neg, h k hk]
  rintro rfl
  have := List.contains_iff_mem.2 hk
  rw [this] at hd; cases hd
theorem keep_putO {l : List Nat} {st s : St} {d k g : Nat} {v : TV} {o} (h : Keep l s st) (hd : l.contains d = false) : Keep l (putO s d v k g o) st := keep_put (s := s) (v := v) h hd
theorem keep_setO {l : List Nat} {st s : St} {k g : Nat} {o} (h : Keep l s st) : Keep l (setO s k g o) st := h
theorem keep_bump {l : List Nat} {st s : St} {k g : Nat} (h : Keep l s st) : Keep l (bump s k g) st := h
theorem keep_unsol {l : List Nat} {st s : St} {b hs} (h : Keep l s st) : Keep l (unsol b hs s) st := by unfold Keep; rw [unsol_env]; exact h
theorem mul_lt {x y z w : Nat} (hx : x < 4294967296) (hy : y < 4294967296) (hz : z < 4294967296) (hw : w < 4294967296) : x * y + z + w < 18446744073709551616 := by
  have : x * y ≤ 4294967295 * 4294967295 := Nat.mul_le_mul (by omega) (by omega)
  omega
theorem times_in {Q : Ex → St → Prop} {st : St} (ys : List Nat) (hdb : Dig ys) (i x : Nat) (hx : x < 4294967296) (os : List Nat) (ho : Row st 16 0 os) (hod : Dig os) (hil : i + ys.length < os.length) (hsm : os.length < 2147483648)
    (h24 : st.env 24 = .sl (dig ys)) (h25 : st.env 25 = .int .i64 (ys.length : Nat)) (h26 : st.env 26 = .int .i64 0) (h8 : st.env 8 = .int .u64 0) (h7 : st.env 7 = .int .u32 (x : Nat)) (h6 : st.env 6 = .int .i64 (i : Nat)) (h5 : st.env 5 = .hs 16 0 1 os.length)
    (hQ : ∀ s os' (c : Nat), Keep [1, 5, 6, 17, 18, 19] s st → s.env 8 = .int .u64 (c : Nat) → Row s 16 0 os' → Dig os' → os'.length = os.length → c < 4294967296 →
      Go.Plain.val os' + c * 4294967296 ^ (i + ys.length) = Go.Plain.val os + x * Go.Plain.val ys * 4294967296 ^ i → (∀ k, i + ys.length ≤ k → os'.getD k 0 = os.getD k 0) → Q (.exit 2) s) :
    Goes mach (.loop L69_1) Q st := by
  refine wp_for (fun k s => s.env 24 = .sl (dig ys) ∧ s.env 25 = .int .i64 (ys.length : Nat) ∧ s.env 26 = .int .i64 (k : Nat) ∧ s.env 7 = .int .u32 (x : Nat) ∧ s.env 6 = .int .i64 (i : Nat) ∧ s.env 5 = .hs 16 0 1 os.length ∧ Keep [1, 5, 6, 17, 18, 19] s st ∧
    ∃ os' c, s.env 8 = .int .u64 (c : Nat) ∧ Row s 16 0 os' ∧ os'.length = os.length ∧ Dig os' ∧ c < 4294967296 ∧ Go.Plain.val os' + c * 4294967296 ^ (i + k) = Go.Plain.val os + x * Go.Plain.val (ys.take k) * 4294967296 ^ i ∧ (∀ m, i + k ≤ m → os'.getD m 0 = os.getD m 0)) ys.length ?_ ?_ ys.length 0 _ (by omega) ?_
  · rintro k s hk ⟨h24, h25, h26, h7, h6, h5, hkeep, os', c, h8, ho, hol, hod, hc, hv, hrest⟩
    have hio : i + k < os.length := by omega
    have hio' : i + k < os'.length := by omega
    have hw : IntKind.i64.wrap ((k + 1 : Nat) : Int) = (k + 1 : Nat) := wrap_i64n (by omega)
    have hw2 : IntKind.i64.wrap ((i + k : Nat) : Int) = (i + k : Nat) := wrap_i64n (by omega)
    have ha := hdb.get k
    have hb := hod.get (i + k)
    have hm := mul_lt hx ha hb hc
    have m1 : x % 18446744073709551616 = x := Nat.mod_eq_of_lt (by omega)
    have m2 : ys.getD k 0 % 18446744073709551616 = ys.getD k 0 := Nat.mod_eq_of_lt (by omega)
    have m3 : os'.getD (i + k) 0 % 18446744073709551616 = os'.getD (i + k) 0 := Nat.mod_eq_of_lt (by omega)
    have m4 : x * ys.getD k 0 % 18446744073709551616 = x * ys.getD k 0 := Nat.mod_eq_of_lt (by omega)
    have m5 : (x * ys.getD k 0 + os'.getD (i + k) 0) % 18446744073709551616 = x * ys.getD k 0 + os'.getD (i + k) 0 := Nat.mod_eq_of_lt (by omega)
    have m6 : (c + (x * ys.getD k 0 + os'.getD (i + k) 0)) % 18446744073709551616 = c + (x * ys.getD k 0 + os'.getD (i + k) 0) := Nat.mod_eq_of_lt (by omega)
    simp only [L69_1, tmR, seval, ← Int.natCast_add, ← Int.natCast_mul, wrap_u32, wrap_u64, wrap_i64n, wrap_i64, nat_succ_sub, nat_add_one, nat_lt, nat_le, nat_eq, nat_lt0, nat_le0, nat_eq0, bin_shr32, bin_shl32, dig_len, iaddr_hs, iaddr_dig, dig_getElem, dig_set, cast0, cast1, store_row, h24, h25, h26, h5, h6, h7, h8, hk, hio, ho, dig_getElem hio', hw, hw2, m1, m2, m3, m4, m5, m6]
    refine ⟨?_, _, _, rfl, rfl, by simp [hol], hod.set (by omega), by omega, ?_, fun m hm => ?_⟩
    · repeat' (first | exact hkeep | (apply keep_put (hd := by decide)) | apply keep_setO | apply keep_bump | (apply keep_putO (hd := by decide)) | apply keep_unsol)
    · have e1 := val_set (d := (c + (x * ys.getD k 0 + os'.getD (i + k) 0)) % 4294967296) hio'
      have e2 := val_take_succ (ds := ys) hk
      rw [e2]
      generalize ys.getD k 0 = y at *
      generalize os'.getD (i + k) 0 = o at *
      have e3 := Nat.div_add_mod (c + (x * y + o)) 4294967296
      generalize (c + (x * y + o)) % 4294967296 = d at *
      generalize (c + (x * y + o)) / 4294967296 = e at *
      rw [show i + (k + 1) = (i + k) + 1 by omega, Nat.pow_succ]
      rw [Nat.pow_add] at *
      generalize 4294967296 ^ i = p at *
      generalize 4294967296 ^ k = q at *
      have : (4294967296 * e + d) * (p * q) = (c + (x * y + o)) * (p * q) := by rw [e3]
      grind
    · rw [List.getD_eq_getElem?_getD, List.getElem?_set_ne (by omega), ← List.getD_eq_getElem?_getD]
      exact hrest m (by omega)
  · rintro s ⟨h24, h25, h26, h7, h6, h5, hkeep, os', c, h8, ho, hol, hod, hc, hv, hrest⟩
    simp only [L69_1, tmR, seval, h24, h25, h26, Int.lt_irrefl]
    rw [List.take_length] at hv
    exact hQ _ os' c (keep_put hkeep (by decide)) h8 ho hod hol hc hv hrest
  · exact ⟨h24, h25, h26, h7, h6, h5, Keep.refl _ _, os, 0, h8, ho, rfl, hod, by omega, by simp [Go.Plain.val], fun _ _ => rfl⟩
theorem times_c (xs ys : List Nat) (hda : Dig xs) (hdb : Dig ys) (hl : xs.length + ys.length < 2147483648) :
    ∃ os, Dig os ∧ os.length = xs.length + ys.length ∧ Go.Plain.val os = Go.Plain.val xs * Go.Plain.val ys ∧ Gives mach 69 [.sl (dig xs), .sl (dig ys)] (.sl (dig os)) := by
  suffices h : ∃ v, (∃ os, v = .sl (dig os) ∧ Dig os ∧ os.length = xs.length + ys.length ∧ Go.Plain.val os = Go.Plain.val xs * Go.Plain.val ys) ∧ Gives mach 69 [.sl (dig xs), .sl (dig ys)] v by
    obtain ⟨_, ⟨os, rfl, h1, h2, h3⟩, h4⟩ := h
    exact ⟨os, h1, h2, h3, h4⟩
  refine givesE tab69 rfl ?_
  have hw : IntKind.i64.wrap ((xs.length + ys.length : Nat) : Int) = (xs.length + ys.length : Nat) := wrap_i64n (by omega)
  simp only [F69, tmR, seval, ← Int.natCast_add, ← Int.natCast_mul, wrap_u32, wrap_u64, wrap_i64n, wrap_i64, nat_succ_sub, nat_add_one, nat_lt, nat_le, nat_eq, nat_lt0, nat_le0, nat_eq0, bin_shr32, bin_shl32, dig_len, iaddr_hs, iaddr_dig, dig_getElem, dig_set, cast0, cast1, store_row, hw]
  refine ⟨hl, ?_⟩
  refine wp_for (fun i s => s.env 17 = .sl (dig xs) ∧ s.env 18 = .int .i64 (xs.length : Nat) ∧ s.env 19 = .int .i64 (i : Nat) ∧ s.env 1 = .sl (dig ys) ∧ s.env 5 = .hs 16 0 1 (xs.length + ys.length) ∧
    ∃ os, Row s 16 0 os ∧ os.length = xs.length + ys.length ∧ Dig os ∧ Go.Plain.val os = Go.Plain.val (xs.take i) * Go.Plain.val ys ∧ (∀ m, i + ys.length ≤ m → os.getD m 0 = 0)) xs.length ?_ ?_ xs.length 0 _ (by omega) ?_
  · rintro i st hi ⟨h17, h18, h19, h1, h5, os, ho, hol, hod, hv, hrest⟩
    simp only [L69_0, tmR, seval, ← Int.natCast_add, ← Int.natCast_mul, wrap_u32, wrap_u64, wrap_i64n, wrap_i64, nat_succ_sub, nat_add_one, nat_lt, nat_le, nat_eq, nat_lt0, nat_le0, nat_eq0, bin_shr32, bin_shl32, dig_len, iaddr_hs, iaddr_dig, dig_getElem, dig_set, cast0, cast1, store_row, h17, h18, h19, h1, h5, hi]
    refine times_in ys hdb i (xs.getD i 0) (hda.get i) os ?_ hod (by omega) (by omega) ?_ ?_ ?_ ?_ ?_ ?_ ?_ ?_
    all_goals (try simp only [tmD, reduceIte, Nat.reduceEqDiff, Nat.reduceAdd, Row, ho, h5, hol])
    intro s os' c hkeep h8 ho' hod' hol' hc' hv' hrest'
    have k5 := hkeep 5 (by decide)
    have k6 := hkeep 6 (by decide)
    have k1 := hkeep 1 (by decide)
    have k17 := hkeep 17 (by decide)
    have k18 := hkeep 18 (by decide)
    have k19 := hkeep 19 (by decide)
    simp only [tmD, reduceIte, Nat.reduceEqDiff, Nat.reduceAdd, h1, h5, h17, h18, h19] at k5 k6 k1 k17 k18 k19
    have hw2 : IntKind.i64.wrap ((i + ys.length : Nat) : Int) = (i + ys.length : Nat) := wrap_i64n (by omega)
    have hw3 : IntKind.i64.wrap ((i + 1 : Nat) : Int) = (i + 1 : Nat) := wrap_i64n (by omega)
    have hii : i + ys.length < xs.length + ys.length := by omega
    have hii2 : i + ys.length < os'.length := by omega
    have hcm : c % 4294967296 = c := Nat.mod_eq_of_lt hc'
    simp only [tmR, seval, ← Int.natCast_add, ← Int.natCast_mul, wrap_u32, wrap_u64, wrap_i64n, wrap_i64, nat_succ_sub, nat_add_one, nat_lt, nat_le, nat_eq, nat_lt0, nat_le0, nat_eq0, bin_shr32, bin_shl32, dig_len, iaddr_hs, iaddr_dig, dig_getElem, dig_set, cast0, cast1, store_row, h8, k5, k6, k1, k17, k18, k19, hw2, hw3, hii, ho', dig_getElem hii2, hcm]
    refine ⟨_, rfl, by simp; omega, hod'.set hc', ?_, fun m hm => ?_⟩
    · have e1 := val_set (d := c) hii2
      rw [hrest' _ (Nat.le_refl _), hrest _ (Nat.le_refl _)] at e1
      rw [val_take_succ hi]
      rw [hv] at hv'
      grind
    · rw [List.getD_eq_getElem?_getD, List.getElem?_set_ne (by omega), ← List.getD_eq_getElem?_getD, hrest' m (by omega)]
      exact hrest m (by omega)
  · rintro st ⟨h17, h18, h19, h1, h5, os, ho, hol, hod, hv, hrest⟩
    simp only [L69_0, tmR, seval, h17, h18, h19, h5, Int.lt_irrefl, ho, tmF, dig_len, hol]
    exact ⟨_, rfl, hod, hol, by rw [hv, List.take_length]⟩
  · simp only [tmD, reduceIte, Nat.reduceEqDiff, Nat.reduceAdd]
    exact ⟨rfl, List.replicate (xs.length + ys.length) 0, by simp only [Row, tmD, reduceIte, Nat.reduceEqDiff, Nat.reduceAdd, dig_rep], by simp, .rep _, by simp [Go.Plain.val, val_rep], fun m _ => by simp [List.getD_eq_getElem?_getD, List.getElem?_replicate]; split <;> rfl⟩
theorem mul_c {j k v w x y} (hv : IsI j v x) (hw : IsI k w y) (hj : j < 1073741824) (hk : k < 1073741824) : Gives mach 48 [v, w] (encI (x * y)) := by
  obtain ⟨n, ds, rfl, hd, hl, hx⟩ := hv
  obtain ⟨m, es, rfl, he, hl2, hy⟩ := hw
  have m1 := mag_c n ds hd (by omega)
  have m2 := mag_c m es he (by omega)
  have l1 := toDig_val_len hd
  have l2 := toDig_val_len he
  obtain ⟨os, ho, hol, hov, hp⟩ := times_c _ _ (dig_toDig (Go.Plain.val ds)) (dig_toDig (Go.Plain.val es)) (by omega)
  have hcan := can_c (!(n == m)) os ho (by omega)
  rw [val_toDig, val_toDig] at hov
  rw [show ival (!(n == m)) os = x * y by rw [← hx, ← hy]; simp only [ival, hov]; cases n <;> cases m <;> simp [Int.neg_mul, Int.mul_neg]] at hcan
  refine gives tab48 rfl ?_
  simp only [F48, tmR, seval, wpcall_eq m1, wpcall_eq m2, wpcall_eq hp, wpcall_eq hcan, tmF]
end Go.TM.Fn
end
section
namespace Go.TM
open Go.Plain
variable {M : Mach}
theorem flat_dig (ds : List Nat) : flat (Go.TM.dig ds) = true := by
  unfold flat Go.TM.dig
  rw [List.all_map]; apply List.all_eq_true.2; intro x _; rfl
theorem hasSl_own (ds : List Nat) (e : Nat) : hasSl (.agg [.own e (Go.TM.dig ds)]) = false := by
  unfold hasSl
  have := flat_dig ds
  simp [TV.comps, TV.cells, hasSl1]
  exact this
theorem wp_call1 (d : Nat) (vk : Vk) (r : List TStep) (Q : St → Prop) (st : St) (f args) {vs ds} (ha : argsOf (restrict st.obj vk) [] 0 (args.map (Go.TM.val st.env)) = some vs) (hc : call M f vs = some (.own 1 (Go.TM.dig ds), [])) :
    Wp M (⟨some d, .call f 1 [] args, none, vk⟩ :: r) Q st = Wp M r Q (bump (putO st d (.hs d (st.cnt d) 1 ds.length) d (st.cnt d) (some { cont := Go.TM.dig ds, esz := 1, box := false, solo := true, tip := true })) d (st.cnt d + 1)) := by
  rw [wp_ev]
  simp only [ev, ha]
  have hk : callEff 1 [] ((some d).getD 0) (st.cnt ((some d).getD 0)) (restrict st.obj vk) (args.map (Go.TM.val st.env)) (.own 1 (Go.TM.dig ds), []) =
      some { v := .hs d (st.cnt d) 1 ds.length, new := [{ cont := Go.TM.dig ds, esz := 1, box := false, solo := true, tip := true }] } := by
    simp [callEff, hasSl_own, adopt, Go.TM.dig_len]
  apply propext; constructor
  · rintro ⟨x, hx, h⟩
    cases hx
    obtain ⟨rs, h1, e, h2, h3⟩ := h
    rw [hc] at h1; cases h1
    rw [hk] at h2; cases h2
    exact h3
  · intro h
    exact ⟨_, rfl, _, hc, _, hk, h⟩
theorem wp_call2 (d : Nat) (vk : Vk) (r : List TStep) (Q : St → Prop) (st : St) (f x0 xs) {k g n : Nat} {ds es : List Nat} {vs u} (hx0 : Go.TM.val st.env x0 = .hs k g 1 n)
    (ho : restrict st.obj vk k g = some { cont := Go.TM.dig ds, esz := 1, box := false, solo := true, tip := true }) (hn : n = ds.length)
    (ha : argsOf (restrict st.obj vk) [0] 1 (xs.map (Go.TM.val st.env)) = some vs) (hh : heldOf [0] 1 (xs.map (Go.TM.val st.env)) = []) (hl : lentOf [0] 1 (xs.map (Go.TM.val st.env)) = [])
    (hc : call M f (.own 1 (Go.TM.dig ds) :: vs) = some (u, [Go.TM.dig es])) (hle : es.length = ds.length) (hs : hasSl (view u) = false) :
    Wp M (⟨some d, .call f 2 [0] (x0 :: xs), none, vk⟩ :: r) Q st = Wp M r Q (put (setO st k g (some { cont := Go.TM.dig es, esz := 1, box := false, solo := true, tip := true })) d (view u)) := by
  rw [wp_ev]
  have h0 : argsOf (restrict st.obj vk) [0] 0 ((x0 :: xs).map (Go.TM.val st.env)) = some (.own 1 (Go.TM.dig ds) :: vs) := by
    simp only [List.map_cons, argsOf, hx0]
    simp [lend, ho, hn, dig_len, ha]
  simp only [ev, h0]
  have hk : callEff 2 [0] ((some d).getD 0) (st.cnt ((some d).getD 0)) (restrict st.obj vk) ((x0 :: xs).map (Go.TM.val st.env)) (u, [Go.TM.dig es]) =
      some { v := view u, mods := [(k, g, some { cont := Go.TM.dig es, esz := 1, box := false, solo := true, tip := true })] } := by
    simp [callEff, hs, apartL, lentOf, heldOf, hx0, hands, TV.cells, hand1, hl, hh, once, giveBack, ho, dig_len, hle]
  apply propext; constructor
  · rintro ⟨x, hx, h⟩
    cases hx
    obtain ⟨rs, h1, e, h2, h3⟩ := h
    rw [hc] at h1; cases h1
    rw [hk] at h2; cases h2
    exact h3
  · intro h
    exact ⟨_, rfl, _, hc, _, hk, h⟩
def RetL (res : List TRes) (args : List TV) (P : TV → Cont → Prop) (e : Ex) (s : St) : Prop := match e with
  | .exit _ => False
  | _ => ∃ rv c, finishR res args s = some (rv, [c]) ∧ P rv c
theorem retL_norm (F args P s) : RetL F args P .norm s = ∃ rv c, finishR F args s = some (rv, [c]) ∧ P rv c := rfl
theorem retL_ret (F args P s) : RetL F args P .ret s = ∃ rv c, finishR F args s = some (rv, [c]) ∧ P rv c := rfl
theorem givesL {f : Nat} {F : TFunc} {args : List TV} {P : TV → Cont → Prop} (h : M.tab f = some F) (hn : F.np = args.length) (hp : Goes M F.body (RetL F.res args P) (initSt args)) : ∃ v c, P v c ∧ call M f args = some (v, [c]) := by
  obtain ⟨e, s, h1, h2⟩ := hp
  cases e with
  | exit i => cases h2
  | norm => obtain ⟨rv, c, h3, h4⟩ := h2; exact ⟨_, _, h4, by rw [call_eq h args hn, h1]; exact h3⟩
  | ret => obtain ⟨rv, c, h3, h4⟩ := h2; exact ⟨_, _, h4, by rw [call_eq h args hn, h1]; exact h3⟩
end Go.TM
namespace Go.Plain
set_option linter.unusedVariables false
theorem val_drop {ds : List Nat} {i : Nat} (h : i < ds.length) : val (ds.drop i) = ds.getD i 0 + 4294967296 * val (ds.drop (i + 1)) := by
  rw [List.drop_eq_getElem_cons h, val, List.getD_eq_getElem?_getD, List.getElem?_eq_getElem h, Option.getD_some]
theorem drop_set_lt {ds : List Nat} {i d : Nat} (h : i < ds.length) : (ds.set i d).drop (i + 1) = ds.drop (i + 1) := by
  rw [List.drop_set]; simp
theorem gset_ne {ds : List Nat} {i m d : Nat} (h : i ≠ m) : (ds.set i d).getD m 0 = ds.getD m 0 := by
  rw [List.getD_eq_getElem?_getD, List.getElem?_set_ne h, ← List.getD_eq_getElem?_getD]
theorem gset_eq {ds : List Nat} {i d : Nat} (h : i < ds.length) : (ds.set i d).getD i 0 = d := by
  rw [List.getD_eq_getElem?_getD, List.getElem?_set_self h, Option.getD_some]
end Go.Plain
namespace Go.TM.Fn
open Go Go.TM Go.Plain
set_option linter.unusedVariables false
set_option linter.unusedSimpArgs false
set_option maxRecDepth 20000
theorem shr_step (D r k q V : Nat) {p : Nat} (h : k * q + p = r * 4294967296 + D) : D + 4294967296 * (V * k + r) = (q + 4294967296 * V) * k + p := by
  grind
theorem shrunk_c (ds : List Nat) (hd : Dig ds) (hl : ds.length < 2147483648) (k : Nat) (hk : 0 < k) (hk2 : k < 4294967296) :
    ∃ qs, Dig qs ∧ qs.length = ds.length ∧ Go.Plain.val qs = Go.Plain.val ds / k ∧ call mach 94 [.own 1 (dig ds), .int .u32 (k : Nat)] = some (.int .u32 ((Go.Plain.val ds % k : Nat) : Int), [dig qs]) := by
  suffices h : ∃ v c, (∃ qs, v = .int .u32 ((Go.Plain.val ds % k : Nat) : Int) ∧ c = dig qs ∧ Dig qs ∧ qs.length = ds.length ∧ Go.Plain.val qs = Go.Plain.val ds / k) ∧ call mach 94 [.own 1 (dig ds), .int .u32 (k : Nat)] = some (v, [c]) by
    obtain ⟨_, _, ⟨os, rfl, rfl, h1, h2, h3⟩, h4⟩ := h
    exact ⟨os, h1, h2, h3, h4⟩
  refine givesL tab94 rfl ?_
  have hw : IntKind.i64.wrap ((ds.length : Int) - 1) = (ds.length : Int) - 1 := wrap_i64 (by omega) (by omega)
  simp only [F94, tmR, seval, ← Int.natCast_add, ← Int.natCast_mul, wrap_u32, wrap_u64, wrap_i64n, wrap_i64, nat_succ_sub, nat_add_one, nat_lt, nat_le, nat_eq, nat_lt0, nat_le0, nat_eq0, bin_shr32, bin_shl32, dig_len, iaddr_hs, iaddr_dig, dig_getElem, dig_set, cast0, cast1, store_row, hw]
  refine wp_down (fun i s => i ≤ ds.length ∧ s.env 0 = .hs 0 0 1 ds.length ∧ s.env 1 = .int .u32 (k : Nat) ∧ s.env 6 = .int .i64 ((i : Int) - 1) ∧
    ∃ os rest, s.env 5 = .int .u64 (rest : Nat) ∧ Row s 0 0 os ∧ os.length = ds.length ∧ Dig os ∧ rest < k ∧ (∀ m, m < i → os.getD m 0 = ds.getD m 0) ∧ Go.Plain.val (ds.drop i) = Go.Plain.val (os.drop i) * k + rest) ?_ ?_ ds.length _ ?_
  · rintro i st ⟨hi, h0, h1, h6, os, rest, h5, ho, hol, hod, hr, hsame, hv⟩
    rw [nat_succ_sub] at h6
    have hi2 : i < ds.length := by omega
    have hio : i < os.length := by omega
    have hw : IntKind.i64.wrap ((i : Int) - 1) = (i : Int) - 1 := wrap_i64 (by omega) (by omega)
    have hg := hod.get i
    have hk1 : k % 18446744073709551616 = k := Nat.mod_eq_of_lt (by omega)
    have hr1 : rest * 4294967296 % 18446744073709551616 = rest * 4294967296 := Nat.mod_eq_of_lt (by omega)
    have hg1 : os.getD i 0 % 18446744073709551616 = os.getD i 0 := Nat.mod_eq_of_lt (by omega)
    have hor := bin_or_lo false (n := rest) (m := os.getD i 0) (by omega) hg
    have hkz : ((k : Nat) : Int) ≠ 0 := by omega
    have hq : ((rest * 4294967296 + os.getD i 0) / k) < 4294967296 := by
      rw [Nat.div_lt_iff_lt_mul hk]
      have : rest * 4294967296 + 4294967296 ≤ k * 4294967296 := by omega
      omega
    have hq1 : IntKind.u64.wrap (((rest * 4294967296 + os.getD i 0 : Nat) : Int).tdiv (k : Nat)) = ((rest * 4294967296 + os.getD i 0) / k : Nat) := by
      rw [← Int.ofNat_tdiv, wrap_u64, Nat.mod_eq_of_lt (by omega)]
    have hq2 : (((rest * 4294967296 + os.getD i 0 : Nat) : Int).tmod (k : Nat)) = ((rest * 4294967296 + os.getD i 0) % k : Nat) := by
      rw [← Int.ofNat_tmod]
    have hq3 : ((rest * 4294967296 + os.getD i 0) / k) % 4294967296 = (rest * 4294967296 + os.getD i 0) / k := Nat.mod_eq_of_lt hq
    simp only [L94_0, tmR, seval, ← Int.natCast_add, ← Int.natCast_mul, wrap_u32, wrap_u64, wrap_i64n, wrap_i64, nat_succ_sub, nat_add_one, nat_lt, nat_le, nat_eq, nat_lt0, nat_le0, nat_eq0, bin_shr32, bin_shl32, dig_len, iaddr_hs, iaddr_dig, dig_getElem, dig_set, cast0, cast1, store_row, h0, h1, h5, h6, hi2, ho, dig_getElem hio, hw, hk1, hr1, hg1, hor, bin_quo _ _ _ _ hkz, bin_rem _ _ _ _ hkz, hq1, hq2, hq3]
    refine ⟨by omega, _, _, rfl, rfl, by simp [hol], hod.set hq, Nat.mod_lt _ hk, fun m hm => ?_, ?_⟩
    · rw [gset_ne (by omega)]; exact hsame m (by omega)
    · rw [val_drop hi2, val_drop (ds := os.set i _) (by simpa using hio), drop_set_lt hio, gset_eq hio, hv, ← hsame i (by omega)]
      exact shr_step _ _ _ _ _ (Nat.div_add_mod _ _)
  · rintro st ⟨hi, h0, h1, h6, os, rest, h5, ho, hol, hod, hr, hsame, hv⟩
    have hr1 : rest % 4294967296 = rest := Nat.mod_eq_of_lt (by omega)
    simp only [List.drop_zero] at hv
    have e1 : Go.Plain.val ds % k = rest := by rw [hv, Nat.mul_comm, Nat.mul_add_mod, Nat.mod_eq_of_lt hr]
    have e2 : Go.Plain.val ds / k = Go.Plain.val os := by rw [hv, Nat.mul_comm, Nat.mul_add_div hk, Nat.div_eq_of_lt hr, Nat.add_zero]
    have hf := flat_dig os
    simp only [L94_0, tmR, seval, h0, h1, h5, h6, wrap_u32, hr1, retL_norm, retL_ret, tmF, ho, hol, dig_len, hf]
    refine ⟨_, _, rfl, os, by rw [e1], rfl, hod, hol, e2.symm⟩
  · simp only [tmD, reduceIte, Nat.reduceEqDiff, Nat.reduceAdd]
    exact ⟨Nat.le_refl _, ds, 0, rfl, by simp only [Row, tmD, reduceIte, Nat.reduceEqDiff, Nat.reduceAdd]; rfl, rfl, hd, hk, fun _ _ => rfl, by simp [Go.Plain.val]⟩
end Go.TM.Fn
end
section
namespace Go.TM.Fn
open Go Go.TM Go.Plain
set_option linter.unusedVariables false
set_option linter.unusedSimpArgs false
set_option maxRecDepth 20000
set_option maxHeartbeats 4000000
theorem u64_mod (n : Nat) (h : n < 18446744073709551616) : n % 18446744073709551616 = n := Nat.mod_eq_of_lt h
theorem bin_shl64 (b kk) (n r : Nat) (hr : r < 64) : binTV b .shl (.int .u64 (n : Int)) (.int kk (r : Nat)) = some (.int .u64 ((n * 2 ^ r % 18446744073709551616 : Nat) : Int)) := by
  simp only [binTV]
  rw [if_pos (by omega)]
  have : (2 : Int) ^ min (Int.toNat (r : Int)) IntKind.u64.bits = ((2 ^ r : Nat) : Int) := by
    rw [Int.toNat_natCast, show IntKind.u64.bits = 64 from rfl, Nat.min_eq_left (by omega)]; simp
  rw [this, ← Int.natCast_mul, wrap_u64]
theorem bin_or_u32 (b) {n m : Nat} (hn : n < 4294967296) (hm : m < 4294967296) : binTV b .or (.int .u32 (n : Int)) (.int .u32 (m : Int)) = some (.int .u32 ((n ||| m : Nat) : Int)) := by
  have h1 : (n : Int) = ((BitVec.ofNat 32 n).toNat : Nat) := by rw [BitVec.toNat_ofNat]; omega
  have h2 : (m : Int) = ((BitVec.ofNat 32 m).toNat : Nat) := by rw [BitVec.toNat_ofNat]; omega
  rw [h1, h2, bin_or32, BitVec.toNat_or, BitVec.toNat_ofNat, BitVec.toNat_ofNat, Nat.mod_eq_of_lt (by omega : n < 2 ^ 32), Nat.mod_eq_of_lt (by omega : m < 2 ^ 32)]
theorem split_pow (x r : Nat) (hr : r < 32) (hx : x < 4294967296) : x * 2 ^ r % 4294967296 = x % 2 ^ (32 - r) * 2 ^ r ∧ x * 2 ^ r / 4294967296 = x / 2 ^ (32 - r) ∧ x / 2 ^ (32 - r) < 2 ^ r := by
  have e : (4294967296 : Nat) = 2 ^ (32 - r) * 2 ^ r := by rw [← Nat.pow_add, show 32 - r + r = 32 by omega]
  refine ⟨?_, ?_, ?_⟩
  · rw [e, Nat.mul_mod_mul_right]
  · rw [e, Nat.mul_div_mul_right _ _ (Nat.pow_pos (by decide))]
  · rw [Nat.div_lt_iff_lt_mul (Nat.pow_pos (by decide)), ← Nat.pow_add, show r + (32 - r) = 32 by omega]; exact hx
theorem shl_step (x r _p lo V : Nat) {V1 V2 i w : Nat} (hr : r < 32) (hx : x < 4294967296) (hlo : lo < 2 ^ r) (h1 : V1 + lo * 4294967296 ^ (i + w) = V + (lo + x * 2 ^ r % 4294967296) * 4294967296 ^ (i + w))
    (h2 : V2 + 0 * 4294967296 ^ (i + w + 1) = V1 + x * 2 ^ r / 4294967296 * 4294967296 ^ (i + w + 1)) : V2 = V + x * 4294967296 ^ i * 2 ^ r * 4294967296 ^ w := by
  have e3 := Nat.div_add_mod (x * 2 ^ r) 4294967296
  generalize x * 2 ^ r % 4294967296 = d at *
  generalize x * 2 ^ r / 4294967296 = e at *
  rw [Nat.pow_succ] at h2
  rw [Nat.pow_add] at *
  generalize 4294967296 ^ i = a at *
  generalize 4294967296 ^ w = c at *
  generalize 2 ^ r = q at *
  have : (4294967296 * e + d) * (a * c) = x * q * (a * c) := by rw [e3]
  grind
def qhat (u1 u0 u3 v1 v2 : Nat) : Nat := min 4294967295 (((u1 * 4294967296 + u0) * 4294967296 + u3) / (v1 * 4294967296 + v2))
theorem qhat_step1 {u1 u0 u3 v1 v2 q : Nat} (h : 4294967296 ≤ q + 1) : qhat u1 u0 u3 v1 v2 ≤ q := Nat.le_trans (Nat.min_le_left _ _) (by omega)
theorem qhat_step2 {u1 u0 u3 v1 v2 q r : Nat} (hv : 0 < v1) (he : (q + 1) * v1 + r = u1 * 4294967296 + u0) (h : r * 4294967296 + u3 < (q + 1) * v2) : qhat u1 u0 u3 v1 v2 ≤ q := by
  obtain ⟨p, hp⟩ : ∃ p, p = q + 1 := ⟨_, rfl⟩
  rw [← hp] at he h
  have h0 : ((u1 * 4294967296 + u0) * 4294967296 + u3) / (v1 * 4294967296 + v2) < p := by
    refine (Nat.div_lt_iff_lt_mul (by omega)).2 ?_
    rw [← he, Nat.mul_add, ← Nat.mul_assoc, Nat.add_mul]
    rw [Nat.add_assoc]; exact Nat.add_lt_add_left h _
  exact Nat.le_trans (Nat.min_le_right _ _) (by omega)
theorem qhat_end {u1 u0 u3 v1 v2 q r : Nat} (hv : 0 < v1) (he : q * v1 + r = u1 * 4294967296 + u0) (hq : q < 4294967296) (h : q * v2 ≤ r * 4294967296 + u3) (hl : qhat u1 u0 u3 v1 v2 ≤ q) : qhat u1 u0 u3 v1 v2 = q := by
  refine Nat.le_antisymm hl (Nat.le_min.2 ⟨by omega, (Nat.le_div_iff_mul_le (by omega)).2 ?_⟩)
  rw [← he, Nat.mul_add, ← Nat.mul_assoc, Nat.add_mul]
  have : q * v1 * 4294967296 + q * v2 ≤ q * v1 * 4294967296 + r * 4294967296 + u3 := by omega
  exact this
theorem qhat_out {u1 u0 u3 v1 v2 q r : Nat} (hv : u1 ≤ v1) (hu0 : u0 < 4294967296) (hv2 : v2 < 4294967296) (he : q * v1 + r = u1 * 4294967296 + u0) (hr : 4294967296 ≤ r) : q < 4294967296 ∧ q * v2 ≤ r * 4294967296 + u3 := by
  have hq : q < 4294967296 := by
    apply Nat.lt_of_not_le; intro h
    have h1 : 4294967296 * v1 ≤ q * v1 := Nat.mul_le_mul_right _ h
    have h2 : u1 * 4294967296 ≤ v1 * 4294967296 := Nat.mul_le_mul_right _ hv
    omega
  refine ⟨hq, ?_⟩
  have h1 : q * v2 ≤ 4294967296 * 4294967296 := Nat.mul_le_mul (by omega) (by omega)
  have h2 : 4294967296 * 4294967296 ≤ r * 4294967296 := Nat.mul_le_mul_right _ hr
  omega
theorem kdigit_c (vs : List Nat) (n u1 u0 u3 v1 v2 : Nat) (hn : vs.length = n + 2) (hl : vs.length < 2147483648) (hv1 : vs.getD (n + 1) 0 = v1) (hv2 : vs.getD n 0 = v2) (hd : Dig vs) (hu1 : u1 ≤ v1) (hu0 : u0 < 4294967296) (hu3 : u3 < 4294967296) (hbig : 2147483648 ≤ v1) :
    Gives mach 98 [.int .u32 (u1 : Nat), .int .u32 (u0 : Nat), .int .u32 (u3 : Nat), .sl (dig vs)] (.int .u64 (qhat u1 u0 u3 v1 v2 : Nat)) := by
  have hv1b := hd.get (n + 1)
  have hv2b := hd.get n
  rw [hv1] at hv1b
  rw [hv2] at hv2b
  have hw1 : IntKind.i64.wrap ((vs.length : Int) - 1) = ((n + 1 : Nat) : Int) := by rw [wrap_i64 (by omega) (by omega)]; omega
  have hw2 : IntKind.i64.wrap ((vs.length : Int) - 2) = ((n : Nat) : Int) := by rw [wrap_i64 (by omega) (by omega)]; omega
  have ha1 : iaddrTV 1 (.sl (dig vs)) (.int .i64 ((n + 1 : Nat) : Int)) = some (.rptr [.int .u32 (vs.getD (n + 1) 0 : Nat)] 0) := iaddr_dig (by omega)
  have ha2 : iaddrTV 1 (.sl (dig vs)) (.int .i64 (n : Int)) = some (.rptr [.int .u32 (vs.getD n 0 : Nat)] 0) := iaddr_dig (by omega)
  have m1 : u1 % 18446744073709551616 = u1 := Nat.mod_eq_of_lt (by omega)
  have m0 : u0 % 18446744073709551616 = u0 := Nat.mod_eq_of_lt (by omega)
  have m2 : u1 * 4294967296 % 18446744073709551616 = u1 * 4294967296 := Nat.mod_eq_of_lt (by omega)
  have m3 : v1 % 18446744073709551616 = v1 := Nat.mod_eq_of_lt (by omega)
  have m4 : v2 % 18446744073709551616 = v2 := Nat.mod_eq_of_lt (by omega)
  have m5 : u3 % 18446744073709551616 = u3 := Nat.mod_eq_of_lt (by omega)
  have hor := bin_or_lo false (n := u1) (m := u0) (by omega) hu0
  have hvz : ((v1 : Nat) : Int) ≠ 0 := by omega
  obtain ⟨U, hU⟩ : ∃ U, U = u1 * 4294967296 + u0 := ⟨_, rfl⟩
  have hUle : U ≤ v1 * 4294967296 + 4294967295 := by have := Nat.mul_le_mul_right 4294967296 hu1; omega
  have hdiv : U / v1 < 8589934592 := by
    rw [Nat.div_lt_iff_lt_mul (by omega)]; omega
  have hq1 : IntKind.u64.wrap (((U : Nat) : Int).tdiv (v1 : Nat)) = (U / v1 : Nat) := by
    rw [← Int.ofNat_tdiv, wrap_u64, Nat.mod_eq_of_lt (by omega)]
  have hq2 : (((U : Nat) : Int).tmod (v1 : Nat)) = (U % v1 : Nat) := by rw [← Int.ofNat_tmod]
  have hrl : U % v1 < v1 := Nat.mod_lt _ (by omega)
  have hq0 : ((u1 * 4294967296 + u0) * 4294967296 + u3) / (v1 * 4294967296 + v2) ≤ U / v1 := by
    rw [← hU]
    apply Nat.le_of_lt_succ
    rw [Nat.div_lt_iff_lt_mul (by omega)]
    have h1 : U + 1 ≤ (U / v1 + 1) * v1 := by
      have := Nat.div_add_mod U v1
      rw [Nat.add_mul, Nat.mul_comm]; omega
    have h2 := Nat.mul_le_mul_right 4294967296 h1
    rw [Nat.succ_eq_add_one, Nat.mul_add, ← Nat.mul_assoc]
    omega
  refine gives tab98 rfl ?_
  simp only [F98, tmR, seval, ← Int.natCast_add, ← Int.natCast_mul, wrap_u32, wrap_u64, wrap_i64n, wrap_i64, nat_succ_sub, nat_add_one, nat_lt, nat_le, nat_eq, nat_lt0, nat_le0, nat_eq0, bin_shr32, bin_shl32, dig_len, iaddr_hs, iaddr_dig, dig_getElem, dig_set, cast0, cast1, store_row, hw1, hw2, ha1, ha2, hv1, hv2, m1, m0, m2, m3, m4, hor, ← hU, bin_quo _ _ _ _ hvz, bin_rem _ _ _ _ hvz, hq1, hq2]
  refine wp_for (fun i s => s.env 2 = .int .u32 (u3 : Nat) ∧ s.env 9 = .int .u64 (v1 : Nat) ∧ s.env 10 = .int .u64 (v2 : Nat) ∧ ∃ q r : Nat, s.env 12 = .int .u64 (q : Nat) ∧ s.env 13 = .int .u64 (r : Nat) ∧ q * v1 + r = U ∧ r < 4294967296 ∧ qhat u1 u0 u3 v1 v2 ≤ q ∧ q + i = U / v1) (U / v1) ?_ ?_ (U / v1) 0 _ (by omega) ?_
  · rintro i s hi ⟨h2, h9, h10, q, r, h12, h13, he, hr, hle, hqi⟩
    have hr1 : r * 4294967296 % 18446744073709551616 = r * 4294967296 := Nat.mod_eq_of_lt (by omega)
    have hor2 := bin_or_lo false (n := r) (m := u3) hr hu3
    obtain ⟨p, rfl⟩ : ∃ p, q = p + 1 := ⟨q - 1, by omega⟩
    have hp : p % 18446744073709551616 = p := Nat.mod_eq_of_lt (by omega)
    have hrv : (r + v1) % 18446744073709551616 = r + v1 := Nat.mod_eq_of_lt (by omega)
    have he2 : p * v1 + (r + v1) = U := by rw [Nat.add_mul] at he; omega
    have fin : qhat u1 u0 u3 v1 v2 ≤ p → 4294967296 ≤ r + v1 → qhat u1 u0 u3 v1 v2 = p := fun h1 h2 => by
      rw [hU] at he2
      obtain ⟨h3, h4⟩ := qhat_out hu1 hu0 hv2b he2 h2
      exact qhat_end (by omega) he2 h3 h4 h1
    by_cases c1 : 4294967296 ≤ p + 1
    · have c1' : ((p + 1 : Nat) : Int) ≥ 4294967296 := by omega
      have hle2 : qhat u1 u0 u3 v1 v2 ≤ p := qhat_step1 c1
      by_cases c2 : 4294967296 ≤ r + v1
      · have c2' : ((r + v1 : Nat) : Int) ≥ 4294967296 := by omega
        simp only [L98_0, tmR, seval, ← Int.natCast_add, ← Int.natCast_mul, wrap_u32, wrap_u64, wrap_i64n, wrap_i64, nat_succ_sub, nat_add_one, nat_lt, nat_le, nat_eq, nat_lt0, nat_le0, nat_eq0, bin_shr32, bin_shl32, dig_len, iaddr_hs, iaddr_dig, dig_getElem, dig_set, cast0, cast1, store_row, h2, h9, h10, h12, h13, c1', c2', nat_succ_sub, hp, hrv, tmF]
        rw [fin hle2 c2]
      · have c2' : ¬ ((r + v1 : Nat) : Int) ≥ 4294967296 := by omega
        simp only [L98_0, tmR, seval, ← Int.natCast_add, ← Int.natCast_mul, wrap_u32, wrap_u64, wrap_i64n, wrap_i64, nat_succ_sub, nat_add_one, nat_lt, nat_le, nat_eq, nat_lt0, nat_le0, nat_eq0, bin_shr32, bin_shl32, dig_len, iaddr_hs, iaddr_dig, dig_getElem, dig_set, cast0, cast1, store_row, h2, h9, h10, h12, h13, c1', c2', nat_succ_sub, hp, hrv]
        exact ⟨p, r + v1, rfl, rfl, he2, by omega, hle2, by omega⟩
    · have c1' : ¬ ((p + 1 : Nat) : Int) ≥ 4294967296 := by omega
      have hm : (p + 1) * v2 ≤ 4294967295 * 4294967295 := Nat.mul_le_mul (by omega) (by omega)
      have hmm : (p + 1) * v2 % 18446744073709551616 = (p + 1) * v2 := Nat.mod_eq_of_lt (by omega)
      by_cases c3 : r * 4294967296 + u3 < (p + 1) * v2
      · have c3' : (((p + 1) * v2 : Nat) : Int) > ((r * 4294967296 + u3 : Nat) : Int) := by omega
        have hle2 : qhat u1 u0 u3 v1 v2 ≤ p := qhat_step2 (by omega) (by rw [he, hU]) c3
        by_cases c2 : 4294967296 ≤ r + v1
        · have c2' : ((r + v1 : Nat) : Int) ≥ 4294967296 := by omega
          simp only [L98_0, tmR, seval, ← Int.natCast_add, ← Int.natCast_mul, wrap_u32, wrap_u64, wrap_i64n, wrap_i64, nat_succ_sub, nat_add_one, nat_lt, nat_le, nat_eq, nat_lt0, nat_le0, nat_eq0, bin_shr32, bin_shl32, dig_len, iaddr_hs, iaddr_dig, dig_getElem, dig_set, cast0, cast1, store_row, h2, h9, h10, h12, h13, c1', m5, hr1, hor2, hmm, c3', c2', nat_succ_sub, hp, hrv, tmF]
          rw [fin hle2 c2]
        · have c2' : ¬ ((r + v1 : Nat) : Int) ≥ 4294967296 := by omega
          simp only [L98_0, tmR, seval, ← Int.natCast_add, ← Int.natCast_mul, wrap_u32, wrap_u64, wrap_i64n, wrap_i64, nat_succ_sub, nat_add_one, nat_lt, nat_le, nat_eq, nat_lt0, nat_le0, nat_eq0, bin_shr32, bin_shl32, dig_len, iaddr_hs, iaddr_dig, dig_getElem, dig_set, cast0, cast1, store_row, h2, h9, h10, h12, h13, c1', m5, hr1, hor2, hmm, c3', c2', nat_succ_sub, hp, hrv]
          exact ⟨p, r + v1, rfl, rfl, he2, by omega, hle2, by omega⟩
      · have c3' : ¬ (((p + 1) * v2 : Nat) : Int) > ((r * 4294967296 + u3 : Nat) : Int) := by omega
        have e := qhat_end (by omega) (by rw [he, hU]) (by omega) (by omega) hle
        simp only [L98_0, tmR, seval, ← Int.natCast_add, ← Int.natCast_mul, wrap_u32, wrap_u64, wrap_i64n, wrap_i64, nat_succ_sub, nat_add_one, nat_lt, nat_le, nat_eq, nat_lt0, nat_le0, nat_eq0, bin_shr32, bin_shl32, dig_len, iaddr_hs, iaddr_dig, dig_getElem, dig_set, cast0, cast1, store_row, h2, h9, h10, h12, h13, c1', m5, hr1, hor2, hmm, c3', tmF]
        rw [e]
  · rintro s ⟨h2, h9, h10, q, r, h12, h13, he, hr, hle, hqi⟩
    have hr1 : r * 4294967296 % 18446744073709551616 = r * 4294967296 := Nat.mod_eq_of_lt (by omega)
    have hor2 := bin_or_lo false (n := r) (m := u3) hr hu3
    obtain rfl : q = 0 := by omega
    have c1' : ¬ ((0 : Nat) : Int) ≥ 4294967296 := by omega
    have c3' : ¬ ((0 : Nat) : Int) > ((r * 4294967296 + u3 : Nat) : Int) := by omega
    simp only [cast0] at c1' c3' h12
    have e : qhat u1 u0 u3 v1 v2 = 0 := by omega
    have wz : IntKind.u64.wrap 0 = 0 := by decide
    simp only [L98_0, tmR, seval, ← Int.natCast_add, ← Int.natCast_mul, wrap_u32, wrap_u64, wrap_i64n, wrap_i64, nat_succ_sub, nat_add_one, nat_lt, nat_le, nat_eq, nat_lt0, nat_le0, nat_eq0, bin_shr32, bin_shl32, dig_len, iaddr_hs, iaddr_dig, dig_getElem, dig_set, cast0, cast1, store_row, h2, h9, h10, h12, h13, c1', m5, hr1, hor2, Int.zero_mul, wz, c3', tmF]
    rw [e]; rfl
  · simp only [tmD, reduceIte, Nat.reduceEqDiff, Nat.reduceAdd]
    exact ⟨U / v1, U % v1, rfl, rfl, by rw [Nat.mul_comm]; exact Nat.div_add_mod _ _, by omega, Nat.le_trans (Nat.min_le_right _ _) hq0, rfl⟩
end Go.TM.Fn
end
section
namespace Go.TM.Fn
open Go Go.TM Go.Plain
set_option linter.unusedVariables false
set_option linter.unusedSimpArgs false
set_option maxRecDepth 20000
set_option maxHeartbeats 4000000
def RetO (res : List TRes) (args : List TV) (P : TV → Prop) (e : Ex) (s : St) : Prop := match e with
  | .exit _ => False
  | _ => ∃ rv, finishR res args s = some (rv, []) ∧ P rv
theorem retO_ret (F args P s) : RetO F args P .ret s = ∃ rv, finishR F args s = some (rv, []) ∧ P rv := rfl
theorem givesO {M : Mach} {f : Nat} {F : TFunc} {args : List TV} {P : TV → Prop} (h : M.tab f = some F) (hn : F.np = args.length) (hp : Goes M F.body (RetO F.res args P) (initSt args)) : ∃ rv, P rv ∧ call M f args = some (rv, []) := by
  obtain ⟨e, s, h1, h2⟩ := hp
  cases e with
  | exit i => cases h2
  | norm => obtain ⟨rv, h3, h4⟩ := h2; exact ⟨_, h4, by rw [call_eq h args hn, h1]; exact h3⟩
  | ret => obtain ⟨rv, h3, h4⟩ := h2; exact ⟨_, h4, by rw [call_eq h args hn, h1]; exact h3⟩
theorem shifted_o (xs : List Nat) (hda : Dig xs) (r : Nat) (hr32 : r < 32) (hl : xs.length < 2147483600) :
    ∃ os, Dig os ∧ os.length = xs.length + 1 ∧ Go.Plain.val os = Go.Plain.val xs * 2 ^ r ∧ call mach 96 [.sl (dig xs), .int .i64 (r : Nat)] = some (.own 1 (dig os), []) := by
  suffices h : ∃ v, (∃ os, v = .own 1 (dig os) ∧ Dig os ∧ os.length = xs.length + 1 ∧ Go.Plain.val os = Go.Plain.val xs * 2 ^ r) ∧ call mach 96 [.sl (dig xs), .int .i64 (r : Nat)] = some (v, []) by
    obtain ⟨_, ⟨os, rfl, h1, h2, h3⟩, h4⟩ := h
    exact ⟨os, h1, h2, h3, h4⟩
  refine givesO tab96 rfl ?_
  have ww3 : IntKind.i64.wrap ((xs.length + 1 : Nat) : Int) = (xs.length + 1 : Nat) := wrap_i64n (by omega)
  simp only [F96, tmR, seval, dig_len, nat_add_one, ww3]
  refine ⟨by omega, ?_⟩
  refine wp_for (fun i s => s.env 1 = .int .i64 (r : Nat) ∧ s.env 13 = .sl (dig xs) ∧ s.env 14 = .int .i64 (xs.length : Nat) ∧ s.env 15 = .int .i64 (i : Nat) ∧ s.env 5 = .hs 12 0 1 (xs.length + 1) ∧
    ∃ os, Row s 12 0 os ∧ os.length = xs.length + 1 ∧ Dig os ∧ os.getD i 0 < 2 ^ r ∧ (∀ m, i < m → os.getD m 0 = 0) ∧ Go.Plain.val os = Go.Plain.val (xs.take i) * 2 ^ r) xs.length ?_ ?_ xs.length 0 _ (by omega) ?_
  · rintro i st hi ⟨h1, h13, h14, h15, h5, os, ho, hol, hod, hlo, hzero, hv⟩
    have hio : i < os.length := by omega
    have hio1 : i < xs.length + 1 := by omega
    have hio2 : i + 1 < xs.length + 1 := by omega
    have ha := hda.get i
    have hsp := split_pow (xs.getD i 0) r hr32 ha
    have hx64 : xs.getD i 0 * 2 ^ r < 18446744073709551616 := by
      have : xs.getD i 0 * 2 ^ r < 4294967296 * 4294967296 := Nat.mul_lt_mul'' ha (Nat.pow_lt_pow_right (by decide) hr32)
      omega
    have m1 := u64_mod (xs.getD i 0) (by omega)
    have m2 := u64_mod (xs.getD i 0 * 2 ^ r) hx64
    have m4 : xs.getD i 0 * 2 ^ r / 4294967296 % 4294967296 = xs.getD i 0 * 2 ^ r / 4294967296 := Nat.mod_eq_of_lt (by omega)
    have hor := bin_or_u32 false (n := os.getD i 0) (m := xs.getD i 0 * 2 ^ r % 4294967296) (hod.get _) (by omega)
    have hsum : os.getD i 0 ||| xs.getD i 0 * 2 ^ r % 4294967296 = os.getD i 0 + xs.getD i 0 * 2 ^ r % 4294967296 := by
      rw [hsp.1, Nat.or_comm, or_add hlo, Nat.add_comm]
    rw [hsum] at hor
    have hs32 : os.getD i 0 + xs.getD i 0 * 2 ^ r % 4294967296 < 4294967296 := by
      rw [hsp.1]
      have h1 : xs.getD i 0 % 2 ^ (32 - r) < 2 ^ (32 - r) := Nat.mod_lt _ (Nat.pow_pos (by decide))
      have h2 : (xs.getD i 0 % 2 ^ (32 - r) + 1) * 2 ^ r ≤ 2 ^ (32 - r) * 2 ^ r := Nat.mul_le_mul_right _ h1
      rw [← Nat.pow_add, show 32 - r + r = 32 by omega, Nat.succ_mul] at h2
      omega
    have hw3 : IntKind.i64.wrap ((i + 1 : Nat) : Int) = (i + 1 : Nat) := wrap_i64n (by omega)
    have hio3 : i + 1 < (os.set i (os.getD i 0 + xs.getD i 0 * 2 ^ r % 4294967296)).length := by simp; omega
    simp only [L96_0, tmR, seval, h1, h5, h13, h14, h15, dig_len, nat_lt, hi, iaddr_dig hi, wrap_u64, m1, bin_shl64 _ _ _ _ (show r < 64 by omega), m2,
      ← Int.natCast_add, iaddr_hs hio1, ho, dig_getElem hio, wrap_u32, hor, dig_set, nat_add_one, iaddr_hs hio2, bin_shr32, m4, dig_getElem hio3, hw3]
    have e1 := val_set (d := os.getD i 0 + xs.getD i 0 * 2 ^ r % 4294967296) hio
    have e2 := val_set (d := xs.getD i 0 * 2 ^ r / 4294967296) hio3
    have hz2 : (os.set i (os.getD i 0 + xs.getD i 0 * 2 ^ r % 4294967296)).getD (i + 1) 0 = 0 := by rw [gset_ne (by omega)]; exact hzero _ (by omega)
    rw [hz2] at e2
    have e3 := shl_step (i := i) (w := 0) _ r 0 _ _ hr32 ha hlo e1 e2
    refine ⟨_, rfl, by simp [hol], (hod.set hs32).set (by omega), ?_, fun m hm => ?_, ?_⟩
    · rw [gset_eq (by simp; omega), hsp.2.1]; exact hsp.2.2
    · rw [gset_ne (by omega), gset_ne (by omega)]; exact hzero m (by omega)
    · rw [e3, val_take_succ hi, hv]; grind
  · rintro st ⟨h1, h13, h14, h15, h5, os, ho, hol, hod, hlo, hzero, hv⟩
    rw [List.take_length] at hv
    have htk : List.take (xs.length + 1) (dig os) = dig os := List.take_of_length_le (by rw [dig_len]; omega)
    simp only [L96_0, tmR, seval, h14, h15, h5, Int.lt_irrefl, retO_ret, tmF, ho, dig_len, hol, htk, Nat.le_refl]
    exact ⟨os, rfl, hod, hol, hv⟩
  · simp only [tmD, reduceIte, Nat.reduceEqDiff, Nat.reduceAdd]
    exact ⟨rfl, List.replicate (xs.length + 1) 0, by simp only [Row, tmD, reduceIte, Nat.reduceEqDiff, Nat.reduceAdd, dig_rep], by simp, .rep _, by simp [List.getD_eq_getElem?_getD, List.getElem?_replicate]; exact Nat.pow_pos (by decide), fun m _ => by simp [List.getD_eq_getElem?_getD, List.getElem?_replicate]; split <;> rfl, by simp [Go.Plain.val, val_rep]⟩
end Go.TM.Fn
end
section
namespace Go.TM.Fn
open Go Go.TM Go.Plain
set_option linter.unusedVariables false
set_option linter.unusedSimpArgs false
set_option maxRecDepth 20000
set_option maxHeartbeats 4000000
theorem bin_shr64 (b kk) (n r : Nat) (hr : r < 64) : binTV b .shr (.int .u64 (n : Nat)) (.int kk (r : Nat)) = some (.int .u64 ((n / 2 ^ r : Nat) : Int)) := by
  simp only [binTV]
  rw [if_pos (by omega), Int.toNat_natCast, show min r IntKind.u64.bits = r from Nat.min_eq_left (by show r ≤ 64; omega), show ((2 : Int) ^ r) = ((2 ^ r : Nat) : Int) by simp, Int.fdiv_eq_ediv_of_nonneg _ (Int.natCast_nonneg _)]
  simp
theorem bin_or_hi (b) {n m : Nat} (hn : n < 4294967296) (hm : m < 4294967296) : binTV b .or (.int .u64 (m : Nat)) (.int .u64 ((n * 4294967296 : Nat) : Int)) = some (.int .u64 ((n * 4294967296 + m : Nat) : Int)) := by
  rw [← bin_or_lo b hn hm, bin_or_u64 _ (by omega) (by omega), bin_or_u64 _ (by omega) (by omega), Nat.or_comm]
theorem getD_ge {ds : List Nat} {i : Nat} (h : ds.length ≤ i) : ds.getD i 0 = 0 := by
  rw [List.getD_eq_getElem?_getD, List.getElem?_eq_none h]; rfl
theorem val_drop' (ds : List Nat) (i : Nat) : Go.Plain.val (ds.drop i) = ds.getD i 0 + 4294967296 * Go.Plain.val (ds.drop (i + 1)) := by
  by_cases h : i < ds.length
  · exact val_drop h
  · rw [List.drop_eq_nil_of_le (by omega), List.drop_eq_nil_of_le (by omega), getD_ge (by omega)]; rfl
theorem val_div (ds : List Nat) (hd : Dig ds) (i : Nat) (hi : i ≤ ds.length) : Go.Plain.val ds / 4294967296 ^ i = Go.Plain.val (ds.drop i) := by
  have h1 : Go.Plain.val ds = Go.Plain.val (ds.take i) + 4294967296 ^ i * Go.Plain.val (ds.drop i) := by
    have h := val_append (ds.take i) (ds.drop i)
    rw [List.take_append_drop, List.length_take, Nat.min_eq_left hi] at h
    exact h
  have h2 : Go.Plain.val (ds.take i) < 4294967296 ^ i := by
    have h := val_lt (hd.take i)
    rw [List.length_take, Nat.min_eq_left hi] at h; exact h
  rw [h1, Nat.add_comm, Nat.mul_add_div (Nat.pow_pos (by decide)), Nat.div_eq_of_lt h2, Nat.add_zero]
theorem unsh_digit (ds : List Nat) (hd : Dig ds) (r i : Nat) (hr : r < 32) (hi : i < ds.length) : Go.Plain.val ds / 2 ^ r / 4294967296 ^ i % 4294967296 = (ds.getD (i + 1) 0 * 4294967296 + ds.getD i 0) / 2 ^ r % 4294967296 := by
  rw [Nat.div_div_eq_div_mul, Nat.mul_comm, ← Nat.div_div_eq_div_mul, val_div ds hd i (by omega), val_drop' ds i, val_drop' ds (i + 1)]
  generalize Go.Plain.val (ds.drop (i + 1 + 1)) = R
  generalize ds.getD i 0 = x
  generalize ds.getD (i + 1) 0 = y
  have e : (4294967296 : Nat) = 2 ^ r * 2 ^ (32 - r) := by rw [← Nat.pow_add, show r + (32 - r) = 32 by omega]
  have e2 : x + 4294967296 * (y + 4294967296 * R) = (y * 4294967296 + x) + 2 ^ r * (4294967296 * (2 ^ (32 - r) * R)) := by
    have : 2 ^ r * (4294967296 * (2 ^ (32 - r) * R)) = 4294967296 * (4294967296 * R) := by
      rw [Nat.mul_left_comm, ← Nat.mul_assoc (2 ^ r), ← e]
    rw [this]; omega
  rw [e2, Nat.add_mul_div_left _ _ (Nat.pow_pos (by decide)), Nat.add_mul_mod_self_left]
theorem unshifted_o (ds : List Nat) (hd : Dig ds) (hl : ds.length < 2147483600) (r : Nat) (hr : r < 32) :
    ∃ qs, Dig qs ∧ qs.length = ds.length ∧ Go.Plain.val qs = Go.Plain.val ds / 2 ^ r ∧ call mach 99 [.own 1 (dig ds), .int .i64 (r : Nat)] = some (.tup [], [dig qs]) := by
  suffices h : ∃ v c, (∃ qs, v = .tup [] ∧ c = dig qs ∧ Dig qs ∧ qs.length = ds.length ∧ Go.Plain.val qs = Go.Plain.val ds / 2 ^ r) ∧ call mach 99 [.own 1 (dig ds), .int .i64 (r : Nat)] = some (v, [c]) by
    obtain ⟨_, _, ⟨os, rfl, rfl, h1, h2, h3⟩, h4⟩ := h
    exact ⟨os, h1, h2, h3, h4⟩
  refine givesL tab99 rfl ?_
  simp only [F99, tmR, seval, ← Int.natCast_add, ← Int.natCast_mul, wrap_u32, wrap_u64, wrap_i64n, wrap_i64, nat_succ_sub, nat_add_one, nat_lt, nat_le, nat_eq, nat_lt0, nat_le0, nat_eq0, bin_shr32, bin_shl32, dig_len, iaddr_hs, iaddr_dig, dig_getElem, dig_set, cast0, cast1, store_row]
  refine wp_for (fun i s => s.env 0 = .hs 0 0 1 ds.length ∧ s.env 1 = .int .i64 (r : Nat) ∧ s.env 7 = .int .i64 (ds.length : Nat) ∧ s.env 8 = .int .i64 (i : Nat) ∧
    ∃ os, Row s 0 0 os ∧ os.length = ds.length ∧ Dig os ∧ (∀ m, i ≤ m → os.getD m 0 = ds.getD m 0) ∧ Go.Plain.val (os.take i) = Go.Plain.val ds / 2 ^ r % 4294967296 ^ i) ds.length ?_ ?_ ds.length 0 _ (by omega) ?_
  · rintro i s hi ⟨h0, h1, h7, h8, os, ho, hol, hod, hsame, hv⟩
    have hio : i < os.length := by omega
    have hw : IntKind.i64.wrap ((i + 1 : Nat) : Int) = (i + 1 : Nat) := wrap_i64n (by omega)
    have hx := hod.get i
    have hy := hod.get (i + 1)
    have m1 : os.getD i 0 % 18446744073709551616 = os.getD i 0 := Nat.mod_eq_of_lt (by omega)
    have m2 : os.getD (i + 1) 0 % 18446744073709551616 = os.getD (i + 1) 0 := Nat.mod_eq_of_lt (by omega)
    have m3 : os.getD (i + 1) 0 * 4294967296 % 18446744073709551616 = os.getD (i + 1) 0 * 4294967296 := Nat.mod_eq_of_lt (by omega)
    have hor := bin_or_hi false hy hx
    have hsh := fun n => bin_shr64 false .i64 n r (by omega)
    have hdg := unsh_digit ds hd r i hr hi
    rw [← hsame i (by omega), ← hsame (i + 1) (by omega)] at hdg
    have hstep : ∀ e, e = (os.getD (i + 1) 0 * 4294967296 + os.getD i 0) / 2 ^ r % 4294967296 → Go.Plain.val ((os.set i e).take (i + 1)) = Go.Plain.val ds / 2 ^ r % 4294967296 ^ (i + 1) := fun e he => by
      rw [val_take_set hio, hv, he, ← hdg, Nat.mod_pow_succ, Nat.mul_comm (4294967296 ^ i)]
    by_cases hc : i + 1 < ds.length
    · have hio1 : i + 1 < os.length := by omega
      have hc' : ((i + 1 : Nat) : Int) < (ds.length : Int) := by omega
      simp only [L99_0, tmR, seval, ← Int.natCast_add, ← Int.natCast_mul, wrap_u32, wrap_u64, wrap_i64n, wrap_i64, nat_succ_sub, nat_add_one, nat_lt, nat_le, nat_eq, nat_lt0, nat_le0, nat_eq0, bin_shr32, bin_shl32, dig_len, iaddr_hs, iaddr_dig, dig_getElem, dig_set, cast0, cast1, store_row, h0, h1, h7, h8, hi, hw, ho, dig_getElem hio, dig_getElem hio1, hc, m1, m2, m3, hor, hsh, hol]
      exact ⟨_, rfl, by simp [hol], hod.set (Nat.mod_lt _ (by decide)), fun m hm => by rw [gset_ne (by omega)]; exact hsame m (by omega), hstep _ rfl⟩
    · have hz : os.getD (i + 1) 0 = 0 := getD_ge (by omega)
      simp only [L99_0, tmR, seval, ← Int.natCast_add, ← Int.natCast_mul, wrap_u32, wrap_u64, wrap_i64n, wrap_i64, nat_succ_sub, nat_add_one, nat_lt, nat_le, nat_eq, nat_lt0, nat_le0, nat_eq0, bin_shr32, bin_shl32, dig_len, iaddr_hs, iaddr_dig, dig_getElem, dig_set, cast0, cast1, store_row, h0, h1, h7, h8, hi, hw, ho, dig_getElem hio, hc, m1, hsh, hol]
      exact ⟨_, rfl, by simp [hol], hod.set (Nat.mod_lt _ (by decide)), fun m hm => by rw [gset_ne (by omega)]; exact hsame m (by omega), hstep _ (by rw [hz, Nat.zero_mul, Nat.zero_add])⟩
  · rintro s ⟨h0, h1, h7, h8, os, ho, hol, hod, hsame, hv⟩
    have hf := flat_dig os
    simp only [L99_0, tmR, seval, h7, h8, Int.lt_irrefl, retL_norm, retL_ret, tmF, ho, hol, dig_len, hf, h0]
    have hlt : Go.Plain.val ds / 2 ^ r < 4294967296 ^ ds.length := Nat.lt_of_le_of_lt (Nat.div_le_self _ _) (val_lt hd)
    rw [List.take_of_length_le (by omega), Nat.mod_eq_of_lt hlt] at hv
    exact ⟨_, _, rfl, os, rfl, rfl, hod, hol, hv⟩
  · simp only [tmD, reduceIte, Nat.reduceEqDiff, Nat.reduceAdd]
    exact ⟨rfl, ds, by simp only [Row, tmD, reduceIte, Nat.reduceEqDiff, Nat.reduceAdd]; rfl, rfl, hd, fun _ _ => rfl, by simp [Go.Plain.val, Nat.mod_one]⟩
end Go.TM.Fn
end
section
namespace Go.TM.Fn
open Go Go.TM Go.Plain
set_option linter.unusedVariables false
set_option linter.unusedSimpArgs false
theorem qmin_ge {U Y S v w V W : Nat} (hV2 : 0 < Y) (hV : V = Y * S + v) (hW : W = U * S + w) (hw : w < S) (hlt : W < 4294967296 * V) : W / V ≤ min 4294967295 (U / Y) := by
  have hS : 0 < S := by omega
  have hVp : 0 < V := by rw [hV]; exact Nat.lt_of_lt_of_le (Nat.mul_pos hV2 hS) (Nat.le_add_right _ _)
  refine Nat.le_min.2 ⟨?_, (Nat.le_div_iff_mul_le hV2).2 ?_⟩
  · exact Nat.le_of_lt_succ ((Nat.div_lt_iff_lt_mul hVp).2 hlt)
  · have h1 : W / V * V ≤ W := Nat.div_mul_le_self _ _
    have h2 : W / V * Y * S ≤ W / V * V := by
      rw [Nat.mul_assoc]; exact Nat.mul_le_mul_left _ (by omega)
    have h3 : W / V * Y * S < (U + 1) * S := by rw [Nat.add_mul]; omega
    exact Nat.le_of_lt_succ (Nat.lt_of_mul_lt_mul_right h3)
theorem qmin_le {U Y S v w V W q : Nat} (hV2 : 4294967296 ≤ Y) (hV : V = Y * S + v) (hW : W = U * S + w) (hv : v < S) (q1 : q ≤ 4294967295) (q2 : q ≤ U / Y) : q ≤ W / V + 1 := by
  have hS : 0 < S := by omega
  have hYS : 4294967296 * S ≤ Y * S := Nat.mul_le_mul_right _ hV2
  have hVp : 0 < V := by omega
  have q3 := (Nat.le_div_iff_mul_le (by omega)).1 q2
  have h1 : q * Y * S ≤ U * S := Nat.mul_le_mul_right _ q3
  have h2 : q * v ≤ 4294967295 * S := Nat.mul_le_mul q1 (by omega)
  have h3 : q * V = q * Y * S + q * v := by rw [hV, Nat.mul_add, Nat.mul_assoc]
  have h4 : q * V ≤ W + V := by omega
  cases q with
  | zero => exact Nat.zero_le _
  | succ p =>
    refine Nat.succ_le_succ ((Nat.le_div_iff_mul_le hVp).2 ?_)
    rw [Nat.add_mul] at h4; omega
theorem qhat_ge {u1 u0 u3 v1 v2 S v w V W : Nat} (hV : V = (v1 * 4294967296 + v2) * S + v) (hW : W = ((u1 * 4294967296 + u0) * 4294967296 + u3) * S + w) (hw : w < S) (hv1 : 0 < v1) (hlt : W < 4294967296 * V) : W / V ≤ qhat u1 u0 u3 v1 v2 :=
  qmin_ge (by omega) hV hW hw hlt
theorem qhat_le {u1 u0 u3 v1 v2 S v w V W : Nat} (hV : V = (v1 * 4294967296 + v2) * S + v) (hW : W = ((u1 * 4294967296 + u0) * 4294967296 + u3) * S + w) (hv : v < S) (hv1 : 0 < v1) : qhat u1 u0 u3 v1 v2 ≤ W / V + 1 :=
  qmin_le (by omega) hV hW hv (Nat.min_le_left _ _) (Nat.min_le_right _ _)
end Go.TM.Fn
end
section
namespace Go.TM.Fn
open Go Go.TM Go.Plain
set_option linter.unusedVariables false
set_option linter.unusedSimpArgs false
set_option maxRecDepth 20000
set_option maxHeartbeats 4000000
def seg (ds : List Nat) (j i : Nat) : Nat := Go.Plain.val ((ds.drop j).take i)
theorem gdrop (ds : List Nat) (j i : Nat) : (ds.drop j).getD i 0 = ds.getD (j + i) 0 := by
  rw [List.getD_eq_getElem?_getD, List.getElem?_drop, List.getD_eq_getElem?_getD]
theorem seg_succ {ds : List Nat} {j i : Nat} (h : j + i < ds.length) : seg ds j (i + 1) = seg ds j i + ds.getD (j + i) 0 * 4294967296 ^ i := by
  unfold seg
  rw [val_take_succ (by rw [List.length_drop]; omega), gdrop]
theorem seg_set {ds : List Nat} {j i d : Nat} (h : j + i < ds.length) : seg (ds.set (j + i) d) j (i + 1) = seg ds j i + d * 4294967296 ^ i := by
  unfold seg
  rw [List.drop_set, if_neg (by omega), show j + i - j = i by omega, val_take_set (by rw [List.length_drop]; omega)]
theorem red0 {Q : Ex → St → Prop} {st : St} (ds vs : List Nat) (j q : Nat) (hd : Dig ds) (hv : Dig vs) (hl : ds.length < 2147483600) (hj : j + vs.length < ds.length) (hq : q < 4294967296)
    (h0 : st.env 0 = .hs 0 0 1 ds.length) (h1 : st.env 1 = .sl (dig vs)) (h2 : st.env 2 = .int .i64 (j : Nat)) (h3 : st.env 3 = .int .u64 (q : Nat)) (h9 : st.env 9 = .int .u64 0) (h10 : st.env 10 = .int .u32 0) (h16 : st.env 16 = .sl (dig vs)) (h17 : st.env 17 = .int .i64 (vs.length : Nat)) (h18 : st.env 18 = .int .i64 0) (ho : Row st 0 0 ds)
    (hQ : ∀ (s : St) (os : List Nat) (c b L : Nat), s.env 0 = .hs 0 0 1 ds.length → s.env 1 = .sl (dig vs) → s.env 2 = .int .i64 (j : Nat) → s.env 3 = .int .u64 (q : Nat) → s.env 9 = .int .u64 (c : Nat) → s.env 10 = .int .u32 (b : Nat) → Row s 0 0 os → os.length = ds.length → Dig os → c < 4294967296 → b ≤ 1 → (∀ m, m < j ∨ j + vs.length ≤ m → os.getD m 0 = ds.getD m 0) → q * Go.Plain.val vs = L + c * 4294967296 ^ vs.length → seg os j vs.length + L = seg ds j vs.length + b * 4294967296 ^ vs.length → Q (.exit 0) s) :
    Goes mach (.loop L97_0) Q st := by
  refine wp_for (fun i s => s.env 0 = .hs 0 0 1 ds.length ∧ s.env 1 = .sl (dig vs) ∧ s.env 2 = .int .i64 (j : Nat) ∧ s.env 3 = .int .u64 (q : Nat) ∧ s.env 16 = .sl (dig vs) ∧ s.env 17 = .int .i64 (vs.length : Nat) ∧ s.env 18 = .int .i64 (i : Nat) ∧
    ∃ (os : List Nat) (c b L : Nat), s.env 9 = .int .u64 (c : Nat) ∧ s.env 10 = .int .u32 (b : Nat) ∧ Row s 0 0 os ∧ os.length = ds.length ∧ Dig os ∧ c < 4294967296 ∧ b ≤ 1 ∧ (∀ m, m < j ∨ j + i ≤ m → os.getD m 0 = ds.getD m 0) ∧ q * Go.Plain.val (vs.take i) = L + c * 4294967296 ^ i ∧ seg os j i + L = seg ds j i + b * 4294967296 ^ i) vs.length ?_ ?_ vs.length 0 _ (by omega) ?_
  · rintro i s hi ⟨h0, h1, h2, h3, h16, h17, h18, os, c, b, L, h9, h10, ho, hol, hod, hc, hb, hsame, hL, hseg⟩
    have hw : IntKind.i64.wrap ((i + 1 : Nat) : Int) = (i + 1 : Nat) := wrap_i64n (by omega)
    have hw2 : IntKind.i64.wrap ((j + i : Nat) : Int) = (j + i : Nat) := wrap_i64n (by omega)
    have hji : j + i < ds.length := by omega
    have hjo : j + i < os.length := by omega
    have hx := hod.get (j + i)
    have hy := hv.get i
    have m1 : vs.getD i 0 % 18446744073709551616 = vs.getD i 0 := Nat.mod_eq_of_lt (by omega)
    have hmul : q * vs.getD i 0 ≤ 4294967295 * 4294967295 := Nat.mul_le_mul (by omega) (by omega)
    have m2 : q * vs.getD i 0 % 18446744073709551616 = q * vs.getD i 0 := Nat.mod_eq_of_lt (by omega)
    obtain ⟨t, ht⟩ : ∃ t, t = c + q * vs.getD i 0 := ⟨_, rfl⟩
    have htl : t < 18446744073709551616 := by omega
    have m3 : (c + q * vs.getD i 0) % 18446744073709551616 = t := by rw [← ht]; exact Nat.mod_eq_of_lt htl
    have hsub := sub32_c (os.getD (j + i) 0) (t % 4294967296) b hx (Nat.mod_lt _ (by decide)) hb
    simp only [L97_0, tmR, seval, ← Int.natCast_add, ← Int.natCast_mul, wrap_u32, wrap_u64, wrap_i64n, wrap_i64, nat_succ_sub, nat_add_one, nat_lt, nat_le, nat_eq, nat_lt0, nat_le0, nat_eq0, bin_shr32, bin_shl32, dig_len, iaddr_hs, iaddr_dig, dig_getElem, dig_set, cast0, cast1, store_row, h0, h1, h2, h3, h9, h10, h16, h17, h18, hi, iaddr_dig hi, m1, m2, m3, hw2, iaddr_hs hji, ho, dig_getElem hjo, wpcall_eq hsub, hw, List.length_set]
    have hlo : t % 4294967296 < 4294967296 := Nat.mod_lt _ (by decide)
    refine ⟨_, _, _, L + t % 4294967296 * 4294967296 ^ i, rfl, rfl, rfl, by simp [hol], hod.set (Nat.mod_lt _ (by decide)), by omega, by split <;> omega, fun m hm => by rw [gset_ne (by omega)]; exact hsame m (by omega), ?_, ?_⟩
    · have e := Nat.div_add_mod t 4294967296
      have e2 : t * 4294967296 ^ i = (4294967296 * (t / 4294967296) + t % 4294967296) * 4294967296 ^ i := by rw [e]
      rw [val_take_succ hi, Nat.mul_add, hL, Nat.pow_succ]
      rw [ht] at e2 ⊢
      generalize (c + q * vs.getD i 0) / 4294967296 = hi' at *
      generalize (c + q * vs.getD i 0) % 4294967296 = lo' at *
      generalize 4294967296 ^ i = p at *
      grind
    · have e := sub_step hseg hx hlo hb rfl
      rw [seg_set hjo, seg_succ hji, ← hsame (j + i) (by omega)]
      exact e
  · rintro s ⟨h0, h1, h2, h3, h16, h17, h18, os, c, b, L, h9, h10, ho, hol, hod, hc, hb, hsame, hL, hseg⟩
    rw [List.take_length] at hL
    simp only [L97_0, tmR, seval, h17, h18, Int.lt_irrefl]
    exact hQ _ os c b L h0 h1 h2 h3 h9 h10 ho hol hod hc hb hsame hL hseg
  · exact ⟨h0, h1, h2, h3, h16, h17, h18, ds, 0, 0, 0, h9, h10, ho, rfl, hd, by decide, by decide, fun _ _ => rfl, by simp [Go.Plain.val], by simp [seg]⟩
end Go.TM.Fn
end
section
namespace Go.TM.Fn
open Go Go.TM Go.Plain
set_option linter.unusedVariables false
set_option linter.unusedSimpArgs false
set_option maxRecDepth 20000
set_option maxHeartbeats 4000000
theorem red1 {Q : Ex → St → Prop} {st : St} (ds vs : List Nat) (j : Nat) (q : TV) (hd : Dig ds) (hv : Dig vs) (hl : ds.length < 2147483600) (hj : j + vs.length < ds.length)
    (h0 : st.env 0 = .hs 0 0 1 ds.length) (h1 : st.env 1 = .sl (dig vs)) (h2 : st.env 2 = .int .i64 (j : Nat)) (h3 : st.env 3 = q) (h13 : st.env 13 = .int .u32 0) (h74 : st.env 74 = .sl (dig vs)) (h75 : st.env 75 = .int .i64 (vs.length : Nat)) (h76 : st.env 76 = .int .i64 0) (ho : Row st 0 0 ds)
    (hQ : ∀ (s : St) (os : List Nat) (c : Nat), s.env 0 = .hs 0 0 1 ds.length → s.env 1 = .sl (dig vs) → s.env 2 = .int .i64 (j : Nat) → s.env 3 = q → s.env 13 = .int .u32 (c : Nat) → Row s 0 0 os → os.length = ds.length → Dig os → c ≤ 1 → (∀ m, m < j ∨ j + vs.length ≤ m → os.getD m 0 = ds.getD m 0) → seg os j vs.length + c * 4294967296 ^ vs.length = seg ds j vs.length + Go.Plain.val vs → Q (.exit 2) s) :
    Goes mach (.loop L97_1) Q st := by
  refine wp_for (fun i s => s.env 0 = .hs 0 0 1 ds.length ∧ s.env 1 = .sl (dig vs) ∧ s.env 2 = .int .i64 (j : Nat) ∧ s.env 3 = q ∧ s.env 74 = .sl (dig vs) ∧ s.env 75 = .int .i64 (vs.length : Nat) ∧ s.env 76 = .int .i64 (i : Nat) ∧
    ∃ (os : List Nat) (c : Nat), s.env 13 = .int .u32 (c : Nat) ∧ Row s 0 0 os ∧ os.length = ds.length ∧ Dig os ∧ c ≤ 1 ∧ (∀ m, m < j ∨ j + i ≤ m → os.getD m 0 = ds.getD m 0) ∧ seg os j i + c * 4294967296 ^ i = seg ds j i + Go.Plain.val (vs.take i)) vs.length ?_ ?_ vs.length 0 _ (by omega) ?_
  · rintro i s hi ⟨h0, h1, h2, h3, h74, h75, h76, os, c, h13, ho, hol, hod, hc, hsame, hseg⟩
    have hw : IntKind.i64.wrap ((i + 1 : Nat) : Int) = (i + 1 : Nat) := wrap_i64n (by omega)
    have hw2 : IntKind.i64.wrap ((j + i : Nat) : Int) = (j + i : Nat) := wrap_i64n (by omega)
    have hji : j + i < ds.length := by omega
    have hjo : j + i < os.length := by omega
    have hx := hod.get (j + i)
    have hy := hv.get i
    have hadd := add32_c (os.getD (j + i) 0) (vs.getD i 0) c hx hy (by omega)
    simp only [L97_1, tmR, seval, ← Int.natCast_add, ← Int.natCast_mul, wrap_u32, wrap_u64, wrap_i64n, wrap_i64, nat_succ_sub, nat_add_one, nat_lt, nat_le, nat_eq, nat_lt0, nat_le0, nat_eq0, bin_shr32, bin_shl32, dig_len, iaddr_hs, iaddr_dig, dig_getElem, dig_set, cast0, cast1, store_row, h0, h1, h2, h3, h13, h74, h75, h76, hi, iaddr_dig hi, hw2, iaddr_hs hji, ho, dig_getElem hjo, wpcall_eq hadd, hw, List.length_set]
    refine ⟨_, _, rfl, rfl, by simp [hol], hod.set (Nat.mod_lt _ (by decide)), by omega, fun m hm => by rw [gset_ne (by omega)]; exact hsame m (by omega), ?_⟩
    rw [seg_set hjo, seg_succ hji, ← hsame (j + i) (by omega), val_take_succ hi, Nat.pow_succ]
    have e := Nat.div_add_mod (os.getD (j + i) 0 + vs.getD i 0 + c) 4294967296
    generalize os.getD (j + i) 0 = x at *
    generalize vs.getD i 0 = y at *
    have e2 : (x + y + c) * 4294967296 ^ i = (4294967296 * ((x + y + c) / 4294967296) + (x + y + c) % 4294967296) * 4294967296 ^ i := by rw [e]
    generalize (x + y + c) / 4294967296 = hi' at *
    generalize (x + y + c) % 4294967296 = lo' at *
    generalize 4294967296 ^ i = p at *
    grind
  · rintro s ⟨h0, h1, h2, h3, h74, h75, h76, os, c, h13, ho, hol, hod, hc, hsame, hseg⟩
    rw [List.take_length] at hseg
    simp only [L97_1, tmR, seval, h75, h76, Int.lt_irrefl]
    exact hQ _ os c h0 h1 h2 h3 h13 ho hol hod hc hsame hseg
  · exact ⟨h0, h1, h2, h3, h74, h75, h76, ds, 0, h13, ho, rfl, hd, by decide, fun _ _ => rfl, by simp [seg, Go.Plain.val]⟩
end Go.TM.Fn
end
section
namespace Go.TM.Fn
open Go Go.TM Go.Plain
set_option linter.unusedVariables false
set_option linter.unusedSimpArgs false
set_option maxRecDepth 20000
set_option maxHeartbeats 4000000
theorem red_eq {W V q X : Nat} (hV : 0 < V) (h1 : W / V ≤ q) (h : X + q * V = W) : q = W / V ∧ X = W % V := by
  have h2 : q ≤ W / V := (Nat.le_div_iff_mul_le hV).2 (by omega)
  obtain rfl : q = W / V := by omega
  refine ⟨rfl, ?_⟩
  have := Nat.div_add_mod W V
  rw [Nat.mul_comm] at this; omega
theorem red_more {W V q X P : Nat} (hV : 0 < V) (h2 : q ≤ W / V + 1) (hX : X < P) (h : X + q * V = W + P) : q = W / V + 1 ∧ X + V = W % V + P := by
  have h3 : W < q * V := by omega
  have h4 : W / V < q := (Nat.div_lt_iff_lt_mul hV).2 h3
  obtain rfl : q = W / V + 1 := by omega
  refine ⟨rfl, ?_⟩
  have := Nat.div_add_mod W V
  rw [Nat.add_mul, Nat.mul_comm (W / V)] at h; omega
theorem seg_lt {ds : List Nat} (hd : Dig ds) {j i : Nat} (h : j + i ≤ ds.length) : seg ds j i < 4294967296 ^ i := by
  have h2 := val_lt ((hd.drop j).take i)
  rw [List.length_take, List.length_drop, Nat.min_eq_left (by omega)] at h2
  exact h2
theorem reduce_o (ds vs : List Nat) (j q : Nat) (hd : Dig ds) (hv : Dig vs) (hl : ds.length < 2147483600) (hj : j + vs.length < ds.length) (hq : q < 4294967296) (hV : 0 < Go.Plain.val vs)
    (h1 : seg ds j (vs.length + 1) / Go.Plain.val vs ≤ q) (h2 : q ≤ seg ds j (vs.length + 1) / Go.Plain.val vs + 1) :
    ∃ os, Dig os ∧ os.length = ds.length ∧ (∀ m, m < j ∨ j + vs.length < m → os.getD m 0 = ds.getD m 0) ∧ seg os j (vs.length + 1) = seg ds j (vs.length + 1) % Go.Plain.val vs ∧
      call mach 97 [.own 1 (dig ds), .sl (dig vs), .int .i64 (j : Nat), .int .u64 (q : Nat)] = some (.int .u32 ((seg ds j (vs.length + 1) / Go.Plain.val vs : Nat) : Int), [dig os]) := by
  obtain ⟨W, hW⟩ : ∃ W, W = seg ds j (vs.length + 1) := ⟨_, rfl⟩
  rw [← hW] at h1 h2 ⊢
  suffices h : ∃ v c, (∃ os, v = .int .u32 ((W / Go.Plain.val vs : Nat) : Int) ∧ c = dig os ∧ Dig os ∧ os.length = ds.length ∧ (∀ m, m < j ∨ j + vs.length < m → os.getD m 0 = ds.getD m 0) ∧ seg os j (vs.length + 1) = W % Go.Plain.val vs) ∧ call mach 97 [.own 1 (dig ds), .sl (dig vs), .int .i64 (j : Nat), .int .u64 (q : Nat)] = some (v, [c]) by
    obtain ⟨_, _, ⟨os, rfl, rfl, h1, h2, h3, h4⟩, h5⟩ := h
    exact ⟨os, h1, h2, h3, h4, h5⟩
  refine givesL tab97 rfl ?_
  simp only [F97, tmR, seval, ← Int.natCast_add, ← Int.natCast_mul, wrap_u32, wrap_u64, wrap_i64n, wrap_i64, nat_succ_sub, nat_add_one, nat_lt, nat_le, nat_eq, nat_lt0, nat_le0, nat_eq0, bin_shr32, bin_shl32, dig_len, iaddr_hs, iaddr_dig, dig_getElem, dig_set, cast0, cast1, store_row]
  refine red0 ds vs j q hd hv hl hj hq ?_ ?_ ?_ ?_ ?_ ?_ ?_ ?_ ?_ ?_ (fun s os c b L e0 e1 e2 e3 e9 e10 ho hol hod hc hb hsame hL hseg => ?_)
  · simp only [tmD, reduceIte, Nat.reduceEqDiff, Nat.reduceAdd]
  · simp only [tmD, reduceIte, Nat.reduceEqDiff, Nat.reduceAdd]
  · simp only [tmD, reduceIte, Nat.reduceEqDiff, Nat.reduceAdd]
  · simp only [tmD, reduceIte, Nat.reduceEqDiff, Nat.reduceAdd]
  · simp only [tmD, reduceIte, Nat.reduceEqDiff, Nat.reduceAdd]
  · simp only [tmD, reduceIte, Nat.reduceEqDiff, Nat.reduceAdd]
  · simp only [tmD, reduceIte, Nat.reduceEqDiff, Nat.reduceAdd]
  · simp only [tmD, reduceIte, Nat.reduceEqDiff, Nat.reduceAdd]
  · simp only [tmD, reduceIte, Nat.reduceEqDiff, Nat.reduceAdd]
  · simp only [Row, tmD, reduceIte, Nat.reduceEqDiff, Nat.reduceAdd]; rfl
  · have hw2 : IntKind.i64.wrap ((j + vs.length : Nat) : Int) = (j + vs.length : Nat) := wrap_i64n (by omega)
    have hjo : j + vs.length < os.length := by omega
    have hx := hod.get (j + vs.length)
    have mc : c % 4294967296 = c := Nat.mod_eq_of_lt hc
    have hsub := sub32_c (os.getD (j + vs.length) 0) c b hx hc hb
    have st := sub_step hseg hx hc hb rfl
    rw [← seg_set hjo, hsame (j + vs.length) (by omega), ← seg_succ hj, ← hW, ← hL, ← hsame (j + vs.length) (by omega)] at st
    have hf := fun l => flat_dig l
    by_cases hbr : os.getD (j + vs.length) 0 < c + b
    · rw [if_pos hbr, Nat.one_mul] at st
      rw [if_pos hbr] at hsub
      have hD : (os.getD (j + vs.length) 0 + 4294967296 - c + 4294967296 - b) % 4294967296 < 4294967296 := Nat.mod_lt _ (by decide)
      have h10 : (((1 : Nat) : Int) = 0) = False := eq_false (by decide)
      simp only [tmR, seval, ← Int.natCast_add, ← Int.natCast_mul, wrap_u32, wrap_u64, wrap_i64n, wrap_i64, nat_succ_sub, nat_add_one, nat_lt, nat_le, nat_eq, nat_lt0, nat_le0, nat_eq0, bin_shr32, bin_shl32, dig_len, iaddr_hs, iaddr_dig, dig_getElem, dig_set, cast0, cast1, store_row, e0, e1, e2, e3, e9, e10, hw2, iaddr_hs hj, ho, dig_getElem hjo, mc, wpcall_eq hsub, h10, Int.reduceEq]
      generalize (os.getD (j + vs.length) 0 + 4294967296 - c + 4294967296 - b) % 4294967296 = D at *
      have hol1 : (os.set (j + vs.length) D).length = ds.length := by rw [List.length_set]; exact hol
      have hd1 := hod.set (i := j + vs.length) hD
      have hg1 : (os.set (j + vs.length) D).getD (j + vs.length) 0 = D := gset_eq hjo
      have hs1 : ∀ m, m < j ∨ j + vs.length < m → (os.set (j + vs.length) D).getD m 0 = ds.getD m 0 := fun m hm => by rw [gset_ne (by omega)]; exact hsame m (by omega)
      have sl1 := seg_lt hd1 (j := j) (i := vs.length + 1) (by omega)
      obtain ⟨r1, r2⟩ := red_more hV h2 sl1 st
      subst r1
      generalize os.set (j + vs.length) D = o1 at *
      refine red1 o1 vs j (.int .u64 ((W / Go.Plain.val vs + 1 : Nat) : Int)) hd1 hv (by omega) (by omega) ?_ ?_ ?_ ?_ ?_ ?_ ?_ ?_ ?_ (fun s o2 c2 f0 f1 f2 f3 f13 ho2 hol2 hod2 hc2 hsame2 hseg2 => ?_)
      · simp only [tmD, reduceIte, Nat.reduceEqDiff, Nat.reduceAdd, e0, hol1]
      · simp only [tmD, reduceIte, Nat.reduceEqDiff, Nat.reduceAdd, e1]
      · simp only [tmD, reduceIte, Nat.reduceEqDiff, Nat.reduceAdd, e2]
      · simp only [tmD, reduceIte, Nat.reduceEqDiff, Nat.reduceAdd, e3]
      · simp only [tmD, reduceIte, Nat.reduceEqDiff, Nat.reduceAdd]
      · simp only [tmD, reduceIte, Nat.reduceEqDiff, Nat.reduceAdd]
      · simp only [tmD, reduceIte, Nat.reduceEqDiff, Nat.reduceAdd]
      · simp only [tmD, reduceIte, Nat.reduceEqDiff, Nat.reduceAdd]
      · simp only [Row, tmD, reduceIte, Nat.reduceEqDiff, Nat.reduceAdd]
      · have hj1 : j + vs.length < o1.length := by omega
        have hjo2 : j + vs.length < o2.length := by omega
        have hx2 := hod2.get (j + vs.length)
        rw [hsame2 (j + vs.length) (by omega), hg1] at hx2
        have mq : (W / Go.Plain.val vs) % 18446744073709551616 = W / Go.Plain.val vs := Nat.mod_eq_of_lt (by omega)
        have mq2 : (W / Go.Plain.val vs) % 4294967296 = W / Go.Plain.val vs := Nat.mod_eq_of_lt (by omega)
        have e105 : o2.getD (j + vs.length) 0 = D := by rw [hsame2 _ (by omega), hg1]
        simp only [tmR, seval, ← Int.natCast_add, ← Int.natCast_mul, wrap_u32, wrap_u64, wrap_i64n, wrap_i64, nat_succ_sub, nat_add_one, nat_lt, nat_le, nat_eq, nat_lt0, nat_le0, nat_eq0, bin_shr32, bin_shl32, dig_len, iaddr_hs, iaddr_dig, dig_getElem, dig_set, cast0, cast1, store_row, f0, f1, f2, f3, f13, hw2, iaddr_hs hj, ho2, dig_getElem hjo2, e105, mq, mq2, nat_succ_sub, hol2, hol1, List.length_set, retL_norm, retL_ret, tmF, hf]
        refine ⟨_, _, rfl, _, rfl, rfl, hod2.set (Nat.mod_lt _ (by decide)), by rw [List.length_set]; omega, fun m hm => by rw [gset_ne (by omega), hsame2 m (by omega)]; exact hs1 m hm, ?_⟩
        have s1 : seg o1 j (vs.length + 1) = seg o1 j vs.length + D * 4294967296 ^ vs.length := by rw [seg_succ hj1, hg1]
        have hE := hod2.set (i := j + vs.length) (d := (D + c2) % 4294967296) (Nat.mod_lt _ (by decide))
        have s2 := seg_lt hE (j := j) (i := vs.length + 1) (by rw [List.length_set]; omega)
        rw [seg_set hjo2] at s2 ⊢
        rw [s1] at r2
        have e := Nat.div_add_mod (D + c2) 4294967296
        have hk : (D + c2) / 4294967296 = 0 ∨ (D + c2) / 4294967296 = 1 := by omega
        generalize (D + c2) / 4294967296 = k at *
        generalize (D + c2) % 4294967296 = E at *
        rw [Nat.pow_succ] at r2 s2
        generalize 4294967296 ^ vs.length = p at *
        have e2 : (D + c2) * p = (4294967296 * k + E) * p := by rw [e]
        rw [Nat.add_mul, Nat.add_mul] at e2
        rcases hk with rfl | rfl
        · simp only [Nat.mul_zero, Nat.zero_mul, Nat.zero_add] at e2; omega
        · simp only [Nat.mul_one] at e2; omega
    · rw [if_neg hbr, Nat.zero_mul, Nat.add_zero] at st
      rw [if_neg hbr] at hsub
      obtain ⟨r1, r2⟩ := red_eq hV h1 st
      have mq : q % 4294967296 = q := Nat.mod_eq_of_lt hq
      simp only [tmR, seval, ← Int.natCast_add, ← Int.natCast_mul, wrap_u32, wrap_u64, wrap_i64n, wrap_i64, nat_succ_sub, nat_add_one, nat_lt, nat_le, nat_eq, nat_lt0, nat_le0, nat_eq0, bin_shr32, bin_shl32, dig_len, iaddr_hs, iaddr_dig, dig_getElem, dig_set, cast0, cast1, store_row, e0, e1, e2, e3, e9, e10, hw2, iaddr_hs hj, ho, dig_getElem hjo, mc, wpcall_eq hsub, mq, hol, List.length_set, retL_norm, retL_ret, tmF, hf]
      exact ⟨_, _, rfl, _, by rw [r1], rfl, hod.set (Nat.mod_lt _ (by decide)), by simp [hol], fun m hm => by rw [gset_ne (by omega)]; exact hsame m (by omega), r2⟩
end Go.TM.Fn
end
section
namespace Go.TM
variable {M : Mach} {Q : St → Prop} {st : St} {d : Nat} {vk : Vk} {r : List TStep}
def indexTV (x i : TV) : Option TV := match x, i with
  | .str s, .int _ ix => if 0 ≤ ix then match s[ix.toNat]? with
      | some b => some (.int .u8 b.toNat)
      | none => none
    else none
  | _, _ => none
theorem ops_index (x i) : execOps M (⟨some d, .index x i, none, vk⟩ :: r) st = (indexTV (val st.env x) (val st.env i)).bind fun v => execOps M r (put st d v) := by
  rw [ops_pv rfl]; simp only [Pv, indexTV] <;> rfl
theorem wp_index (x i) : Wp M (⟨some d, .index x i, none, vk⟩ :: r) Q st = WpV M r Q st d (indexTV (Go.TM.val st.env x) (Go.TM.val st.env i)) := wp_bind (ops_index ..)
end Go.TM
namespace Go.TM.Fn
open Go Go.TM Go.Plain
set_option linter.unusedVariables false
set_option linter.unusedSimpArgs false
set_option maxRecDepth 20000
set_option maxHeartbeats 4000000
def lenTab : ByteArray := ⟨#[0, 1, 2, 2, 3, 3, 3, 3, 4, 4, 4, 4, 4, 4, 4, 4, 5, 5, 5, 5, 5, 5, 5, 5, 5, 5, 5, 5, 5, 5, 5, 5, 6, 6, 6, 6, 6, 6, 6, 6, 6, 6, 6, 6, 6, 6, 6, 6, 6, 6, 6, 6, 6, 6, 6, 6, 6, 6, 6, 6, 6, 6, 6, 6, 7, 7, 7, 7, 7, 7, 7, 7, 7, 7, 7, 7, 7, 7, 7, 7, 7, 7, 7, 7, 7, 7, 7, 7, 7, 7, 7, 7, 7, 7, 7, 7, 7, 7, 7, 7, 7, 7, 7, 7, 7, 7, 7, 7, 7, 7, 7, 7, 7, 7, 7, 7, 7, 7, 7, 7, 7, 7, 7, 7, 7, 7, 7, 7, 8, 8, 8, 8, 8, 8, 8, 8, 8, 8, 8, 8, 8, 8, 8, 8, 8, 8, 8, 8, 8, 8, 8, 8, 8, 8, 8, 8, 8, 8, 8, 8, 8, 8, 8, 8, 8, 8, 8, 8, 8, 8, 8, 8, 8, 8, 8, 8, 8, 8, 8, 8, 8, 8, 8, 8, 8, 8, 8, 8, 8, 8, 8, 8, 8, 8, 8, 8, 8, 8, 8, 8, 8, 8, 8, 8, 8, 8, 8, 8, 8, 8, 8, 8, 8, 8, 8, 8, 8, 8, 8, 8, 8, 8, 8, 8, 8, 8, 8, 8, 8, 8, 8, 8, 8, 8, 8, 8, 8, 8, 8, 8, 8, 8, 8, 8, 8, 8, 8, 8, 8, 8, 8, 8, 8, 8, 8, 8]⟩
def lenOk (x : Nat) : Bool := match lenTab[x]? with
  | some b => decide (x < 2 ^ b.toNat) && decide (b.toNat ≤ 8) && (x == 0 || decide (2 ^ (b.toNat - 1) ≤ x)) && (x == 0 || decide (0 < b.toNat))
  | none => false
theorem lenOk_all : (List.range 256).all lenOk = true := by decide +kernel
theorem len8 (x : Nat) (h : x < 256) : ∃ b : UInt8, lenTab[x]? = some b ∧ x < 2 ^ b.toNat ∧ b.toNat ≤ 8 ∧ (x ≠ 0 → 0 < b.toNat ∧ 2 ^ (b.toNat - 1) ≤ x) := by
  have h1 := List.all_eq_true.1 lenOk_all x (List.mem_range.2 h)
  unfold lenOk at h1
  cases hb : lenTab[x]? with
  | none => rw [hb] at h1; cases h1
  | some b =>
    rw [hb] at h1
    simp only [Bool.and_eq_true, Bool.or_eq_true, decide_eq_true_eq, beq_iff_eq] at h1
    exact ⟨b, rfl, h1.1.1.1, h1.1.1.2, fun hx => ⟨h1.2.resolve_left hx, h1.1.2.resolve_left hx⟩⟩
def Bits (v n : Nat) : Prop := v < 2 ^ n ∧ (v ≠ 0 → 0 < n ∧ 2 ^ (n - 1) ≤ v)
theorem bits_shift {v n k : Nat} (h : Bits (v / 2 ^ k) n) (h0 : v / 2 ^ k ≠ 0) : Bits v (n + k) := by
  obtain ⟨h1, h2⟩ := h
  obtain ⟨h3, h4⟩ := h2 h0
  have hp : 0 < 2 ^ k := Nat.pow_pos (by decide)
  refine ⟨?_, fun _ => ⟨by omega, ?_⟩⟩
  · rw [Nat.pow_add]; exact (Nat.div_lt_iff_lt_mul hp).1 h1
  · rw [show n + k - 1 = n - 1 + k by omega, Nat.pow_add]; exact (Nat.le_div_iff_mul_le hp).1 h4
theorem bits_norm {v n : Nat} (h : Bits v n) (h0 : v ≠ 0) (hn : n ≤ 32) : 32 - n < 32 ∧ 2147483648 ≤ v * 2 ^ (32 - n) ∧ v * 2 ^ (32 - n) < 4294967296 := by
  obtain ⟨h1, h2⟩ := h
  obtain ⟨h3, h4⟩ := h2 h0
  have hp : 0 < 2 ^ (32 - n) := Nat.pow_pos (by decide)
  have e1 : 2 ^ n * 2 ^ (32 - n) = 4294967296 := by rw [← Nat.pow_add, show n + (32 - n) = 32 by omega]
  have e2 : 2 ^ (n - 1) * 2 ^ (32 - n) = 2147483648 := by rw [← Nat.pow_add, show n - 1 + (32 - n) = 31 by omega]
  refine ⟨by omega, ?_, ?_⟩
  · rw [← e2]; exact Nat.mul_le_mul_right _ h4
  · rw [← e1]; exact Nat.mul_lt_mul_of_pos_right h1 hp
end Go.TM.Fn
end
section
namespace Go.TM.Fn
open Go Go.TM Go.Plain
set_option linter.unusedVariables false
set_option linter.unusedSimpArgs false
theorem eq_of_getD {us vs : List Nat} (hl : us.length = vs.length) (h : ∀ m, m < us.length → us.getD m 0 = vs.getD m 0) : us = vs := by
  apply List.ext_getElem hl
  intro i h1 h2
  have := h i h1
  simpa [List.getD_eq_getElem?_getD, List.getElem?_eq_getElem h1, List.getElem?_eq_getElem h2] using this
theorem take_same {us vs : List Nat} {k : Nat} (hl : us.length = vs.length) (h : ∀ m, m < k → us.getD m 0 = vs.getD m 0) : us.take k = vs.take k := by
  apply eq_of_getD (by simp [hl])
  intro m hm
  rw [List.length_take] at hm
  have := h m (by omega)
  simpa [List.getD_eq_getElem?_getD, List.getElem?_take, show m < k by omega] using this
theorem drop_same {us vs : List Nat} {k : Nat} (hl : us.length = vs.length) (h : ∀ m, k ≤ m → us.getD m 0 = vs.getD m 0) : us.drop k = vs.drop k := by
  apply eq_of_getD (by simp [hl])
  intro m hm
  have := h (k + m) (by omega)
  simpa [List.getD_eq_getElem?_getD] using this
theorem val_cut {os : List Nat} {k : Nat} (h : k ≤ os.length) : Go.Plain.val os = Go.Plain.val (os.take k) + 4294967296 ^ k * Go.Plain.val (os.drop k) := by
  have h1 := val_append (os.take k) (os.drop k)
  rw [List.take_append_drop, List.length_take, Nat.min_eq_left h] at h1
  exact h1
theorem val_seg {os : List Nat} {k n : Nat} (h : k + n ≤ os.length) : Go.Plain.val os = Go.Plain.val (os.take k) + 4294967296 ^ k * (seg os k n + 4294967296 ^ n * Go.Plain.val (os.drop (k + n))) := by
  rw [val_cut (k := k) (by omega)]
  congr 2
  rw [val_cut (os := os.drop k) (k := n) (by rw [List.length_drop]; omega), List.drop_drop]; rfl
theorem val_take_all {os : List Nat} (hd : Dig os) {n : Nat} (hn : n ≤ os.length) (h : Go.Plain.val os < 4294967296 ^ n) : Go.Plain.val (os.take n) = Go.Plain.val os := by
  have e := val_cut hn
  by_cases hz : Go.Plain.val (os.drop n) = 0
  · rw [hz] at e; omega
  · have : 4294967296 ^ n * 1 ≤ 4294967296 ^ n * Go.Plain.val (os.drop n) := Nat.mul_le_mul_left _ (by omega)
    omega
theorem win {os : List Nat} {k n V : Nat} (h : k + n + 1 ≤ os.length) (hV : V < 4294967296 ^ n) (hlt : Go.Plain.val os < 4294967296 ^ (k + 1) * V) :
    Go.Plain.val os = Go.Plain.val (os.take k) + 4294967296 ^ k * seg os k (n + 1) ∧ Go.Plain.val (os.drop (k + (n + 1))) = 0 ∧ seg os k (n + 1) < 4294967296 * V := by
  have e := val_seg (os := os) (k := k) (n := n + 1) (by omega)
  have hp : 0 < 4294967296 ^ k := Nat.pow_pos (by decide)
  have hz : Go.Plain.val (os.drop (k + (n + 1))) = 0 := by
    apply Nat.eq_zero_of_not_pos
    intro hpos
    have h1 : 4294967296 ^ (n + 1) * 1 ≤ 4294967296 ^ (n + 1) * Go.Plain.val (os.drop (k + (n + 1))) := Nat.mul_le_mul_left _ hpos
    have h2 : 4294967296 ^ k * (4294967296 ^ (n + 1) * 1) ≤ 4294967296 ^ k * (seg os k (n + 1) + 4294967296 ^ (n + 1) * Go.Plain.val (os.drop (k + (n + 1)))) := Nat.mul_le_mul_left _ (by omega)
    have h3 : 4294967296 ^ (k + 1) * V ≤ 4294967296 ^ (k + 1) * 4294967296 ^ n := Nat.mul_le_mul_left _ (by omega)
    rw [Nat.mul_one, ← Nat.pow_add] at h2
    rw [← Nat.pow_add, show k + 1 + n = k + (n + 1) by omega] at h3
    omega
  rw [hz, Nat.mul_zero, Nat.add_zero] at e
  refine ⟨e, hz, ?_⟩
  apply Nat.lt_of_mul_lt_mul_left (a := 4294967296 ^ k)
  rw [Nat.pow_succ, Nat.mul_assoc] at hlt
  omega
theorem win_step {os ns qs : List Nat} {k n V U : Nat} (hd : Dig os) (h : k + n + 1 ≤ os.length) (hV0 : 0 < V) (hV : V < 4294967296 ^ n) (hlt : Go.Plain.val os < 4294967296 ^ (k + 1) * V) (hU : U = Go.Plain.val (qs.drop (k + 1)) * (4294967296 ^ (k + 1) * V) + Go.Plain.val os)
    (hl : ns.length = os.length) (hsame : ∀ m, m < k ∨ k + n < m → ns.getD m 0 = os.getD m 0) (hseg : seg ns k (n + 1) = seg os k (n + 1) % V) (hk : k < qs.length) :
    U = Go.Plain.val ((qs.set k (seg os k (n + 1) / V)).drop k) * (4294967296 ^ k * V) + Go.Plain.val ns ∧ Go.Plain.val ns < 4294967296 ^ k * V := by
  obtain ⟨e1, e2, e3⟩ := win h hV hlt
  have f := val_seg (os := ns) (k := k) (n := n + 1) (by omega)
  rw [drop_same hl (fun m hm => hsame m (by omega)), e2, Nat.mul_zero, Nat.add_zero, take_same hl (fun m hm => hsame m (by omega)), hseg] at f
  have hx := val_lt (hd.take k)
  rw [List.length_take, Nat.min_eq_left (by omega)] at hx
  have hm := Nat.mod_lt (seg os k (n + 1)) hV0
  have hdm := Nat.div_add_mod (seg os k (n + 1)) V
  constructor
  · rw [val_drop (by simpa using hk), gset_eq hk, drop_set_lt hk, hU, e1, f, Nat.pow_succ]
    generalize seg os k (n + 1) / V = q at *
    generalize seg os k (n + 1) % V = r at *
    rw [← hdm]
    grind
  · rw [f]
    have : 4294967296 ^ k * (seg os k (n + 1) % V + 1) ≤ 4294967296 ^ k * V := Nat.mul_le_mul_left _ hm
    rw [Nat.mul_add] at this; omega
theorem seg_two {os : List Nat} {k n : Nat} (h : k + n + 2 ≤ os.length) : seg os k (n + 2) = (os.getD (k + n + 1) 0 * 4294967296 + os.getD (k + n) 0) * 4294967296 ^ n + seg os k n := by
  rw [seg_succ (i := n + 1) (by omega), seg_succ (i := n) (by omega), Nat.pow_succ, show k + (n + 1) = k + n + 1 by omega]; grind
theorem seg_three {os : List Nat} {k n : Nat} (h : k + n + 3 ≤ os.length) : seg os k (n + 3) = ((os.getD (k + n + 2) 0 * 4294967296 + os.getD (k + n + 1) 0) * 4294967296 + os.getD (k + n) 0) * 4294967296 ^ n + seg os k n := by
  rw [seg_succ (i := n + 2) (by omega), seg_two (by omega), Nat.pow_succ, Nat.pow_succ, show k + (n + 2) = k + n + 2 by omega]; grind
theorem seg_zero (vs : List Nat) : seg vs 0 vs.length = Go.Plain.val vs := by simp [seg]
theorem top_le {u1 v1 W V S x v : Nat} (hW : W = u1 * (4294967296 * S) + x) (hV : V = v1 * S + v) (hv : v < S) (h : W < 4294967296 * V) : u1 ≤ v1 := by
  apply Nat.le_of_lt_succ
  apply Nat.lt_of_mul_lt_mul_right (a := 4294967296 * S)
  have e : (v1 + 1) * (4294967296 * S) = 4294967296 * (v1 * S) + 4294967296 * S := by grind
  rw [Nat.succ_eq_add_one, e]; omega
theorem knuth_end {A B r Q R : Nat} (hB : 0 < B) (h : A * 2 ^ r = Q * (B * 2 ^ r) + R) (hR : R < B * 2 ^ r) : Q = A / B ∧ R / 2 ^ r = A % B := by
  have hp : 0 < 2 ^ r := Nat.pow_pos (by decide)
  have e1 : A * 2 ^ r / (B * 2 ^ r) = A / B := Nat.mul_div_mul_right _ _ hp
  have e2 : A * 2 ^ r % (B * 2 ^ r) = A % B * 2 ^ r := Nat.mul_mod_mul_right _ _ _
  rw [h, Nat.mul_comm Q, Nat.mul_add_div (by omega), Nat.div_eq_of_lt hR] at e1
  rw [h, Nat.mul_comm Q, Nat.mul_add_mod, Nat.mod_eq_of_lt hR] at e2
  refine ⟨by omega, ?_⟩
  rw [e2, Nat.mul_div_cancel _ hp]
theorem knuth_start {A la lb B r : Nat} (hA : A < 4294967296 ^ la) (hB : 4294967296 ^ (lb - 1) ≤ B) (hlb : 0 < lb) (hle : lb ≤ la) : A * 2 ^ r < 4294967296 ^ (la - lb + 1) * (B * 2 ^ r) := by
  have hp : 0 < 2 ^ r := Nat.pow_pos (by decide)
  have h1 : 4294967296 ^ (la - lb + 1) * 4294967296 ^ (lb - 1) ≤ 4294967296 ^ (la - lb + 1) * B := Nat.mul_le_mul_left _ hB
  rw [← Nat.pow_add, show la - lb + 1 + (lb - 1) = la by omega] at h1
  rw [← Nat.mul_assoc]
  exact Nat.mul_lt_mul_of_pos_right (by omega) hp
end Go.TM.Fn
end
section
namespace Go.TM.Fn
open Go Go.TM Go.Plain
set_option linter.unusedVariables false
set_option linter.unusedSimpArgs false
set_option maxRecDepth 20000
set_option maxHeartbeats 4000000
theorem bin_shr16 (b kk) (n : Nat) : binTV b .shr (.int .u32 (n : Int)) (.int kk 16) = some (.int .u32 ((n / 65536 : Nat) : Int)) := by
  simp only [binTV]
  rw [if_pos (by decide)]
  congr 2
  simp only [IntKind.bits]
  rw [Int.fdiv_eq_ediv_of_nonneg _ (by decide)]
  simp
theorem bin_shr8 (b kk) (n : Nat) : binTV b .shr (.int .u32 (n : Int)) (.int kk 8) = some (.int .u32 ((n / 256 : Nat) : Int)) := by
  simp only [binTV]
  rw [if_pos (by decide)]
  congr 2
  simp only [IntKind.bits]
  rw [Int.fdiv_eq_ediv_of_nonneg _ (by decide)]
  simp
theorem wrap_u8 {n : Nat} (h : n < 256) : IntKind.u8.wrap (n : Int) = (n : Nat) := by simp only [IntKind.wrap, IntKind.bits, IntKind.signed]; simp; omega
theorem index_tab {x : Nat} {b : UInt8} {k} (h : lenTab[x]? = some b) : indexTV (.str lenTab) (.int k (x : Nat)) = some (.int .u8 (b.toNat : Nat)) := by
  simp only [indexTV]
  rw [if_pos (by omega), Int.toNat_natCast, h]
theorem len32_c (v : Nat) (hv : v < 4294967296) : ∃ n, n ≤ 32 ∧ Bits v n ∧ Gives mach 102 [.int .u32 (v : Nat)] (.int .i64 (n : Nat)) := by
  have wz : IntKind.i64.wrap 24 = 24 := by decide
  by_cases h1 : 65536 ≤ v
  · have c1 : ((65536 : Int) ≤ (v : Nat)) = True := eq_true (by omega)
    by_cases h2 : 256 ≤ v / 65536
    · have c2 : ((256 : Int) ≤ ((v / 65536 : Nat) : Int)) = True := eq_true (by omega)
      have hx : v / 65536 / 256 < 256 := by omega
      obtain ⟨b, e1, e2, e3, e4⟩ := len8 (v / 65536 / 256) hx
      have hi := index_tab (k := .u8) e1
      unfold lenTab at hi
      have w1 : IntKind.i64.wrap ((b.toNat : Nat) : Int) = (b.toNat : Nat) := wrap_i64n (by omega)
      have w2 : IntKind.i64.wrap (24 + (b.toNat : Int)) = ((b.toNat + 8 + 16 : Nat) : Int) := by rw [wrap_i64 (by omega) (by omega)]; omega
      refine ⟨b.toNat + 8 + 16, by omega, bits_shift (k := 16) (bits_shift (k := 8) ⟨e2, fun h => e4 h⟩ (by omega)) (by omega), gives tab102 rfl ?_⟩
      simp only [F102, tmR, seval, c1, c2, bin_shr16, bin_shr8, wrap_u8 hx, wp_index, hi, w1, w2, wz, tmF]
    · have c2 : ((256 : Int) ≤ ((v / 65536 : Nat) : Int)) = False := eq_false (by omega)
      have hx : v / 65536 < 256 := by omega
      obtain ⟨b, e1, e2, e3, e4⟩ := len8 (v / 65536) hx
      have hi := index_tab (k := .u8) e1
      unfold lenTab at hi
      have w1 : IntKind.i64.wrap ((b.toNat : Nat) : Int) = (b.toNat : Nat) := wrap_i64n (by omega)
      have w2 : IntKind.i64.wrap (16 + (b.toNat : Int)) = ((b.toNat + 16 : Nat) : Int) := by rw [wrap_i64 (by omega) (by omega)]; omega
      refine ⟨b.toNat + 16, by omega, bits_shift (k := 16) ⟨e2, fun h => e4 h⟩ (by omega), gives tab102 rfl ?_⟩
      simp only [F102, tmR, seval, c1, c2, bin_shr16, bin_shr8, wrap_u8 hx, wp_index, hi, w1, w2, wz, tmF]
  · have c1 : ((65536 : Int) ≤ (v : Nat)) = False := eq_false (by omega)
    by_cases h2 : 256 ≤ v
    · have c2 : ((256 : Int) ≤ ((v : Nat) : Int)) = True := eq_true (by omega)
      have hx : v / 256 < 256 := by omega
      obtain ⟨b, e1, e2, e3, e4⟩ := len8 (v / 256) hx
      have hi := index_tab (k := .u8) e1
      unfold lenTab at hi
      have w1 : IntKind.i64.wrap ((b.toNat : Nat) : Int) = (b.toNat : Nat) := wrap_i64n (by omega)
      have w2 : IntKind.i64.wrap (8 + (b.toNat : Int)) = ((b.toNat + 8 : Nat) : Int) := by rw [wrap_i64 (by omega) (by omega)]; omega
      have w3 : IntKind.i64.wrap 8 = 8 := by decide
      refine ⟨b.toNat + 8, by omega, bits_shift (k := 8) ⟨e2, fun h => e4 h⟩ (by omega), gives tab102 rfl ?_⟩
      simp only [F102, tmR, seval, c1, c2, bin_shr16, bin_shr8, wrap_u8 hx, wp_index, hi, w1, w2, w3, Int.zero_add, tmF]
    · have c2 : ((256 : Int) ≤ ((v : Nat) : Int)) = False := eq_false (by omega)
      have hx : v < 256 := by omega
      obtain ⟨b, e1, e2, e3, e4⟩ := len8 v hx
      have hi := index_tab (k := .u8) e1
      unfold lenTab at hi
      have w1 : IntKind.i64.wrap ((b.toNat : Nat) : Int) = (b.toNat : Nat) := wrap_i64n (by omega)
      refine ⟨b.toNat, by omega, ⟨e2, fun h => e4 h⟩, gives tab102 rfl ?_⟩
      simp only [F102, tmR, seval, c1, c2, bin_shr16, bin_shr8, wrap_u8 hx, wp_index, hi, w1, Int.zero_add, tmF]
theorem lz_c (v : Nat) (hv : v < 4294967296) (h0 : v ≠ 0) : ∃ r, r < 32 ∧ 2147483648 ≤ v * 2 ^ r ∧ v * 2 ^ r < 4294967296 ∧ Gives mach 95 [.int .u32 (v : Nat)] (.int .i64 (r : Nat)) := by
  obtain ⟨n, h1, h2, h3⟩ := len32_c v hv
  obtain ⟨h4, h5, h6⟩ := bits_norm h2 h0 h1
  have w : IntKind.i64.wrap (32 - (n : Int)) = ((32 - n : Nat) : Int) := by rw [wrap_i64 (by omega) (by omega)]; omega
  refine ⟨32 - n, h4, h5, h6, gives tab95 rfl ?_⟩
  simp only [F95, tmR, seval, wpcall_eq h3, w, tmF]
theorem toDig_top {b n : Nat} (h : (toDig b).length = n + 1) : b = Go.Plain.val ((toDig b).take n) + (toDig b).getD n 0 * 4294967296 ^ n ∧ Go.Plain.val ((toDig b).take n) < 4294967296 ^ n ∧ (toDig b).getD n 0 ≠ 0 ∧ (toDig b).getD n 0 < 4294967296 := by
  have e := val_take_succ (ds := toDig b) (i := n) (by omega)
  rw [List.take_of_length_le (by omega), val_toDig] at e
  have hlow := val_lt ((dig_toDig b).take n)
  rw [List.length_take, Nat.min_eq_left (by omega)] at hlow
  refine ⟨e, hlow, ?_, (dig_toDig b).get n⟩
  intro h0
  rw [h0, Nat.zero_mul, Nat.add_zero] at e
  have := toDig_len_le (n := b) (k := n) (by omega)
  omega
theorem norm_lt {b low v p r : Nat} (h : b = low + v * p) (hl : low < p) (hr : r < 32) (hv : v * 2 ^ r < 4294967296) : b * 2 ^ r < 4294967296 * p := by
  have e : (4294967296 : Nat) = 2 ^ (32 - r) * 2 ^ r := by rw [← Nat.pow_add, show 32 - r + r = 32 by omega]
  have h1 : v < 2 ^ (32 - r) := by rw [e] at hv; exact Nat.lt_of_mul_lt_mul_right hv
  have h2 : (v + 1) * p ≤ 2 ^ (32 - r) * p := Nat.mul_le_mul_right _ h1
  have h3 : b < 2 ^ (32 - r) * p := by rw [Nat.succ_mul] at h2; omega
  have h4 := Nat.mul_lt_mul_of_pos_right h3 (show 0 < 2 ^ r from Nat.pow_pos (by decide))
  rw [e, Nat.mul_right_comm]; exact h4
theorem norm_top {b low v p r low1 v1 : Nat} (h : b = low + v * p) (hv : 2147483648 ≤ v * 2 ^ r) (hp : low1 < p) (he : b * 2 ^ r = low1 + v1 * p) : 2147483648 ≤ v1 := by
  have h1 : v * p * 2 ^ r ≤ b * 2 ^ r := Nat.mul_le_mul_right _ (by omega)
  have h2 : 2147483648 * p ≤ v * 2 ^ r * p := Nat.mul_le_mul_right _ hv
  rw [Nat.mul_right_comm] at h2
  have h3 : 2147483648 * p < (v1 + 1) * p := by rw [show (v1 + 1) * p = v1 * p + p by rw [Nat.add_mul, Nat.one_mul]]; omega
  have := Nat.lt_of_mul_lt_mul_right h3
  omega
theorem gives_own {f : Nat} {args : List TV} {ds : List Nat} (h : call mach f args = some (.own 1 (dig ds), [])) : Gives mach f args (.sl (dig ds)) := ⟨_, h, rfl⟩
theorem knuth_c (a b : Nat) (hb : 2 ≤ (toDig b).length) (hab : b ≤ a) (hl : (toDig a).length < 1073741824) : ∃ qs rs, Dig qs ∧ Dig rs ∧ qs.length ≤ (toDig a).length ∧ rs.length ≤ (toDig b).length ∧ Go.Plain.val qs = a / b ∧ Go.Plain.val rs = a % b ∧
    Gives mach 86 [.sl (dig (toDig a)), .sl (dig (toDig b))] (.tup [.sl (dig qs), .sl (dig rs)]) := by
  have hle : (toDig b).length ≤ (toDig a).length := by
    apply Nat.le_of_not_lt; intro h; have := len_lt_val h; omega
  have hc := cmp_c (toDig a) (toDig b) (dig_toDig a) (dig_toDig b) (by omega) (by omega)
  simp only [val_toDig] at hc
  have hs : (sgnN a b < 0) = False := eq_false (by unfold sgnN; rw [if_neg (by omega)]; split <;> decide)
  obtain ⟨n, hn⟩ : ∃ n, (toDig b).length = n + 2 := ⟨(toDig b).length - 2, by omega⟩
  obtain ⟨m, hm⟩ : ∃ m, (toDig a).length = n + 2 + m := ⟨(toDig a).length - (n + 2), by omega⟩
  obtain ⟨t1, t2, t3, t4⟩ := toDig_top (n := n + 1) hn
  have hla := val_lt (dig_toDig a)
  rw [val_toDig] at hla
  have hda := dig_toDig a
  have hdb := dig_toDig b
  have va := val_toDig a
  have vb := val_toDig b
  generalize toDig a = xs at *
  generalize toDig b = ys at *
  obtain ⟨r, hr, l1, l2, hlz⟩ := lz_c (ys.getD (n + 1) 0) t4 t3
  obtain ⟨us, hdu, hul, huv, hu⟩ := shifted_o xs hda r hr (by omega)
  obtain ⟨ws, hdw, hwl, hwv, hw⟩ := shifted_o ys hdb r hr (by omega)
  rw [va] at huv
  rw [vb] at hwv
  obtain ⟨vs, hvs⟩ : ∃ vs, vs = ws.take ys.length := ⟨_, rfl⟩
  have hdv : Dig vs := by rw [hvs]; exact hdw.take _
  have hvl : vs.length = n + 2 := by rw [hvs, List.length_take]; omega
  have hBlt : b * 2 ^ r < 4294967296 ^ (n + 2) := by
    have := norm_lt t1 t2 hr l2
    rw [Nat.pow_succ 4294967296 (n + 1), Nat.mul_comm (4294967296 ^ (n + 1))]; exact this
  have hvv : Go.Plain.val vs = b * 2 ^ r := by rw [hvs, hn, val_take_all hdw (by omega) (by rw [hwv]; exact hBlt), hwv]
  have hv1 : 2147483648 ≤ vs.getD (n + 1) 0 := by
    have e := val_take_succ (ds := vs) (i := n + 1) (by omega)
    rw [List.take_of_length_le (by omega), hvv] at e
    have hlow := val_lt (hdv.take (n + 1))
    rw [List.length_take, Nat.min_eq_left (by omega)] at hlow
    exact norm_top t1 l1 hlow e
  have hb0 : 0 < b := by
    apply Nat.pos_of_ne_zero; rintro rfl
    have := Nat.mul_pos (Nat.pos_of_ne_zero t3) (show 0 < 4294967296 ^ (n + 1) from Nat.pow_pos (by decide))
    omega
  have hBlo : 4294967296 ^ (n + 2 - 1) ≤ b := by
    have := Nat.mul_le_mul_right (4294967296 ^ (n + 1)) (show 1 ≤ ys.getD (n + 1) 0 by omega)
    rw [Nat.one_mul] at this
    show 4294967296 ^ (n + 1) ≤ b
    omega
  obtain ⟨V, hV⟩ : ∃ V, V = b * 2 ^ r := ⟨_, rfl⟩
  obtain ⟨U, hU⟩ : ∃ U, U = a * 2 ^ r := ⟨_, rfl⟩
  rw [hm] at hla
  have hst := knuth_start (r := r) hla hBlo (by omega) (by omega)
  rw [show n + 2 + m - (n + 2) + 1 = m + 1 by omega, ← hU, ← hV] at hst
  rw [← hV] at hvv hBlt
  rw [← hU] at huv
  have hV0 : 0 < V := by rw [hV]; exact Nat.mul_pos hb0 (Nat.pow_pos (by decide))
  have hsl : ∀ ob, sliceE ob 1 false (.sl (dig ws)) none (some (.int .i64 ((n + 2 : Nat) : Int))) none = some { v := .sl (dig vs) } := fun ob => by
    rw [slice_sl_h (by rw [dig_len]; omega) (uni_dig _), hvs, hn, dig_take]
  have hul2 : us.length = n + 2 + m + 1 := by omega
  have e1 : (((n + 2 : Nat) : Int) = 1) = False := eq_false (by omega)
  have e2 : IntKind.i64.wrap ((n + 1 : Nat) : Int) = ((n + 1 : Nat) : Int) := wrap_i64n (by omega)
  have e3 : IntKind.i64.wrap (((n + 2 + m : Nat) : Int) - ((n + 2 : Nat) : Int)) = ((m : Nat) : Int) := by rw [wrap_i64 (by omega) (by omega)]; omega
  have e4 : IntKind.i64.wrap ((m + 1 : Nat) : Int) = ((m + 1 : Nat) : Int) := wrap_i64n (by omega)
  have e5 : IntKind.i64.wrap ((m : Nat) : Int) = ((m : Nat) : Int) := wrap_i64n (by omega)
  have ia : iaddrTV 1 (.sl (dig ys)) (.int .i64 ((n + 1 : Nat) : Int)) = some (.rptr [.int .u32 (ys.getD (n + 1) 0 : Nat)] 0) := iaddr_dig (by omega)
  suffices h : ∃ v, (∃ qs rs, v = .tup [.sl (dig qs), .sl (dig rs)] ∧ Dig qs ∧ Dig rs ∧ qs.length ≤ xs.length ∧ rs.length ≤ ys.length ∧ Go.Plain.val qs = a / b ∧ Go.Plain.val rs = a % b) ∧ Gives mach 86 [.sl (dig xs), .sl (dig ys)] v by
    obtain ⟨_, ⟨qs, rs, rfl, h1, h2, h3, h4, h5, h6⟩, h7⟩ := h
    exact ⟨qs, rs, h1, h2, h3, h4, h5, h6, h7⟩
  refine givesE tab86 rfl ?_
  simp only [F86, tmR, seval, wpcall_eq hc, hs, dig_len, hn, hm, e1, e2, ia, wpcall_eq hlz, wp_call1 (hc := hu), wpcall_eq (gives_own hw), hsl, e3, nat_add_one, e4, nat_succ_sub, e5, hul2]
  refine ⟨by omega, ?_⟩
  refine wp_down (fun i s => i ≤ m + 1 ∧ s.env 0 = .sl (dig xs) ∧ s.env 1 = .sl (dig ys) ∧ s.env 8 = .int .i64 (r : Nat) ∧ s.env 9 = .hs 42 0 1 (n + 2 + m + 1) ∧ s.env 10 = .sl (dig vs) ∧ s.env 11 = .hs 55 0 1 (m + 1) ∧ s.env 12 = .int .i64 ((i : Int) - 1) ∧
    ∃ os qs, Row s 42 0 os ∧ os.length = n + 2 + m + 1 ∧ Dig os ∧ Row s 55 0 qs ∧ qs.length = m + 1 ∧ Dig qs ∧ U = Go.Plain.val (qs.drop i) * (4294967296 ^ i * V) + Go.Plain.val os ∧ Go.Plain.val os < 4294967296 ^ i * V) ?_ ?_ (m + 1) _ ?_
  · rintro k s ⟨hk, h0, h1, h8, h9, h10, h11, h12, os, qs, ho, hol, hod, hq, hql, hqd, hUe, hlt⟩
    rw [nat_succ_sub] at h12
    have hkm : k < m + 1 := by omega
    have hkq : k < qs.length := by omega
    have w1 : IntKind.i64.wrap ((k + (n + 2) : Nat) : Int) = ((k + n + 2 : Nat) : Int) := by rw [wrap_i64n (by omega)]; congr 1
    have w2 : IntKind.i64.wrap ((k + n + 1 : Nat) : Int) = ((k + n + 1 : Nat) : Int) := wrap_i64n (by omega)
    have w3 : IntKind.i64.wrap (((k + n + 2 : Nat) : Int) - 2) = ((k + n : Nat) : Int) := by rw [wrap_i64 (by omega) (by omega)]; omega
    have w4 : IntKind.i64.wrap ((k : Int) - 1) = (k : Int) - 1 := wrap_i64 (by omega) (by omega)
    have b1 : k + n + 2 < n + 2 + m + 1 := by omega
    have b2 : k + n + 1 < n + 2 + m + 1 := by omega
    have b3 : k + n < n + 2 + m + 1 := by omega
    have c1 : k + n + 2 < os.length := by omega
    have c2 : k + n + 1 < os.length := by omega
    have c3 : k + n < os.length := by omega
    obtain ⟨x1, x2, x3⟩ := win (n := n + 2) (by omega) hBlt hlt
    have y1 := seg_three (os := os) (k := k) (n := n) (by omega)
    have y2 := seg_succ (ds := os) (j := k) (i := n + 2) (by omega)
    have z1 := seg_two (os := vs) (k := 0) (n := n) (by omega)
    have z2 := seg_succ (ds := vs) (j := 0) (i := n + 1) (by omega)
    have z0 := seg_zero vs
    rw [hvl, hvv] at z0
    rw [z0] at z1
    rw [show n + 1 + 1 = n + 2 from rfl, z0] at z2
    simp only [Nat.zero_add] at z1 z2
    rw [show k + (n + 2) = k + n + 2 by omega] at y2
    have s1 := seg_lt hod (j := k) (i := n) (by omega)
    have s2 := seg_lt hdv (j := 0) (i := n) (by omega)
    have s3 := seg_lt hdv (j := 0) (i := n + 1) (by omega)
    obtain ⟨W, hW⟩ : ∃ W, W = seg os k (n + 2 + 1) := ⟨_, rfl⟩
    rw [show n + 3 = n + 2 + 1 from rfl, ← hW] at y1
    rw [← hW] at x1 x3 y2
    have g1 : os.getD (k + n + 2) 0 ≤ vs.getD (n + 1) 0 := top_le (S := 4294967296 ^ (n + 1)) (x := seg os k (n + 2)) (by rw [y2, Nat.pow_succ 4294967296 (n + 1), Nat.mul_comm (4294967296 ^ (n + 1)), Nat.add_comm]) (by rw [z2, Nat.add_comm]) s3 x3
    have hdg := kdigit_c vs n (os.getD (k + n + 2) 0) (os.getD (k + n + 1) 0) (os.getD (k + n) 0) _ _ hvl (by omega) rfl rfl hdv g1 (hod.get _) (hod.get _) hv1
    have q1 := qhat_ge z1 y1 s1 (by omega) x3
    have q2 := qhat_le z1 y1 s2 (by omega)
    have q3 : qhat (os.getD (k + n + 2) 0) (os.getD (k + n + 1) 0) (os.getD (k + n) 0) (vs.getD (n + 1) 0) (vs.getD n 0) ≤ 4294967295 := Nat.min_le_left _ _
    generalize qhat (os.getD (k + n + 2) 0) (os.getD (k + n + 1) 0) (os.getD (k + n) 0) (vs.getD (n + 1) 0) (vs.getD n 0) = q at *
    obtain ⟨ns, hnd, hnl, hns, hnseg, hred⟩ := reduce_o os vs k q hod hdv (by omega) (by omega) (by omega) (by rw [hvv]; exact hV0) (by rw [hvv, hvl, ← hW]; exact q1) (by rw [hvv, hvl, ← hW]; exact q2)
    rw [hvv, hvl, ← hW] at hnseg hred
    rw [hvl] at hns
    have hstep := win_step hod (by omega) hV0 hBlt hlt hUe hnl (fun m hm => hns m (by omega)) (by rw [hnseg, hW]) hkq
    rw [← hW] at hstep
    have hnl2 : ns.length = n + 2 + m + 1 := by omega
    have hvw : ∀ k z, view (.int k z) = .int k z := fun _ _ => rfl
    have hWV : W / V < 4294967296 := (Nat.div_lt_iff_lt_mul hV0).2 x3
    simp only [L86_0, tmR, seval, ← Int.natCast_add, ← Int.natCast_mul, wrap_u32, wrap_u64, wrap_i64n, wrap_i64, nat_succ_sub, nat_add_one, nat_lt, nat_le, nat_eq, nat_lt0, nat_le0, nat_eq0, bin_shr32, bin_shl32, dig_len, iaddr_hs, iaddr_dig, dig_getElem, dig_set, cast0, cast1, store_row, h0, h1, h8, h9, h10, h11, h12, hvl, w1, w2, w3, iaddr_hs b1, iaddr_hs b2, iaddr_hs b3, ho, dig_getElem c1, dig_getElem c2, dig_getElem c3,
      wpcall_eq hdg, wp_call2 (k := 42) (g := 0) (n := n + 2 + m + 1) (hc := hred) (hle := hnl) (hs := rfl), lentOf, hvw, iaddr_hs hkm, hq, dig_getElem hkq, w4, hol]
    exact ⟨by omega, ns, qs.set k (W / V), by simp only [Row, tmD, reduceIte, Nat.reduceEqDiff, Nat.reduceAdd], hnl2, hnd, by simp only [Row, tmD, reduceIte, Nat.reduceEqDiff, Nat.reduceAdd], by simp [hql], hqd.set hWV, hstep.1, hstep.2⟩
  · rintro s ⟨hk, h0, h1, h8, h9, h10, h11, h12, os, qs, ho, hol, hod, hq, hql, hqd, hUe, hlt⟩
    rw [Nat.pow_zero, Nat.one_mul, List.drop_zero] at hUe
    rw [Nat.pow_zero, Nat.one_mul] at hlt
    rw [hU, hV] at hUe
    rw [hV] at hlt
    obtain ⟨f1, f2⟩ := knuth_end hb0 hUe hlt
    obtain ⟨ps, hpd, hpl, hpv, hun⟩ := unshifted_o os hod (by omega) r hr
    rw [f2] at hpv
    have hb1 := val_lt hdb
    rw [vb, hn] at hb1
    have hpt : Go.Plain.val (ps.take (n + 2)) = a % b := by
      rw [val_take_all hpd (by omega) (by rw [hpv]; exact Nat.lt_trans (Nat.mod_lt _ hb0) hb1), hpv]
    have hsh : ∀ ob, sliceE ob 1 false (.hs 42 0 1 (n + 2 + m + 1)) none (some (.int .i64 ((n + 2 : Nat) : Int))) none = some { v := .hs 42 0 1 (n + 2) } := fun ob => slice_hs_h (by omega)
    have hpl2 : ps.length = n + 2 + m + 1 := by omega
    have hle2 : n + 2 ≤ n + 2 + m + 1 := by omega
    simp only [L86_0, tmR, seval, h0, h1, h8, h9, h10, h11, h12, wp_call2 (k := 42) (g := 0) (n := n + 2 + m + 1) (hc := hun) (hle := hpl) (hs := rfl), lentOf, ho, hq, hol, dig_len, hn, hsh, tmF, hql, hpl2, hle2]
    refine ⟨qs, ps.take (n + 2), ?_, hqd, hpd.take _, by omega, by rw [List.length_take]; omega, f1, hpt⟩
    rw [List.take_of_length_le (by rw [dig_len]; omega), dig_take]
  · simp only [tmD, reduceIte, Nat.reduceEqDiff, Nat.reduceAdd]
    exact ⟨by omega, by rw [nat_succ_sub], us, List.replicate (m + 1) 0, by simp only [Row, tmD, reduceIte, Nat.reduceEqDiff, Nat.reduceAdd], hul2, hdu, by simp only [Row, tmD, reduceIte, Nat.reduceEqDiff, Nat.reduceAdd, dig_rep], by simp, .rep _, by rw [List.drop_of_length_le (by simp)]; simp [Go.Plain.val, huv], by rw [huv]; exact hst⟩
end Go.TM.Fn
end
section
namespace Go.TM.Fn
open Go Go.TM Go.Plain
set_option linter.unusedVariables false
set_option linter.unusedSimpArgs false
set_option maxRecDepth 20000
theorem clone_o (ds : List Nat) (hl : ds.length < 2147483648) (hn : ds ≠ []) : call mach 85 [.sl (dig ds)] = some (.own 1 (dig ds), []) := by
  suffices h : ∃ v, v = .own 1 (dig ds) ∧ call mach 85 [.sl (dig ds)] = some (v, []) by
    obtain ⟨_, rfl, h⟩ := h; exact h
  have hn' : dig ds ≠ [] := by simpa [dig] using hn
  refine ⟨_, rfl, Goes.call tab85 rfl ?_⟩
  simp only [F85, tmR, seval, wp_app, apply_app1, apply_new1, app_nils (elems_sl (uni_dig _)) hn' (by rw [dig_len]; exact hl), apply_new1, dig_len]
  refine ⟨fun _ h => (by cases h), ?_⟩
  simp [finish, resVals, resVal, mutsOf, hasOwn, hands, TV.cells, hand1, once, out, out1, put_env, put_obj, putO_obj, bump_obj, dig_len]
theorem toDig_len1 {b : Nat} (h : (toDig b).length = 1) : b < 4294967296 ∧ toDig b = [b] ∧ b ≠ 0 := by
  have h1 := val_toDig b
  have h2 := dig_toDig b
  match hb : toDig b, h with
  | [x], _ =>
    rw [hb] at h1 h2
    simp only [Go.Plain.val, Nat.mul_zero, Nat.add_zero] at h1
    subst h1
    refine ⟨h2.head, rfl, ?_⟩
    rintro rfl
    rw [toDig_zero] at hb; cases hb
theorem iaddr_dig0 {ds : List Nat} {kk} (h : 0 < ds.length) : iaddrTV 1 (.sl (dig ds)) (.int kk 0) = some (.rptr [.int .u32 (ds.getD 0 0 : Nat)] 0) := iaddr_dig (i := 0) h
theorem sgnN_neg {a b : Nat} : (sgnN a b < 0) = (a < b) := by
  unfold sgnN; apply propext; constructor
  · intro h; split at h
    · assumption
    · split at h <;> omega
  · intro h; rw [if_pos h]; omega
theorem div_c (a b : Nat) (hb : b ≠ 0) (hl : (toDig a).length < 1073741824) (hl2 : (toDig b).length < 1073741824) : ∃ qs rs, Dig qs ∧ Dig rs ∧ qs.length ≤ (toDig a).length ∧ rs.length < 1073741824 ∧ Go.Plain.val qs = a / b ∧ Go.Plain.val rs = a % b ∧
    Gives mach 86 [.sl (dig (toDig a)), .sl (dig (toDig b))] (.tup [.sl (dig qs), .sl (dig rs)]) := by
  have hc := cmp_c (toDig a) (toDig b) (dig_toDig a) (dig_toDig b) (by omega) (by omega)
  simp only [val_toDig] at hc
  by_cases hlt : a < b
  · have hcl := clone_c (toDig a) (by omega)
    refine ⟨[], toDig a, .nil, dig_toDig a, by simp, hl, by rw [Nat.div_eq_of_lt hlt]; rfl, by rw [Nat.mod_eq_of_lt hlt, val_toDig], gives tab86 rfl ?_⟩
    have hs : (sgnN a b < 0) = True := by rw [sgnN_neg]; exact eq_true hlt
    simp only [F86, tmR, seval, wpcall_eq hc, hs, wpcall_eq hcl, tmF, dig_nil]
  · have hs : (sgnN a b < 0) = False := by rw [sgnN_neg]; exact eq_false hlt
    by_cases h1 : (toDig b).length = 1
    · obtain ⟨hb1, hb2, hb0⟩ := toDig_len1 h1
      have hne : toDig a ≠ [] := by rw [Ne, toDig_eq_nil]; omega
      have hcl := clone_o (toDig a) (by omega) hne
      obtain ⟨qs, hq, hql, hqv, hsh⟩ := shrunk_c (toDig a) (dig_toDig a) (by omega) b (by omega) hb1
      rw [val_toDig] at hqv hsh
      refine ⟨qs, [a % b], hq, .cons (by have := Nat.mod_lt a (show 0 < b by omega); omega) .nil, by omega, by simp, hqv, by simp [Go.Plain.val], gives tab86 rfl ?_⟩
      rw [hb2]
      rw [hb2] at hc
      have hlo : (0 : Nat) < [b].length := by simp
      simp only [F86, tmR, seval, wpcall_eq hc, hs, dig_len, cast1, wp_call1 (hc := hcl), iaddr_dig0 hlo, List.getD_cons_zero,
        wp_call2 (k := 24) (g := 0) (n := (toDig a).length) (hc := hsh) (hle := hql) (hs := rfl), lentOf, tmF, dig_len, hql]
      rw [List.take_of_length_le (by rw [dig_len]; omega)]; rfl
    · obtain ⟨qs, rs, h2, h3, h4, h5, h6, h7, h8⟩ := knuth_c a b (by have : (toDig b).length ≠ 0 := by rw [Ne, List.length_eq_zero_iff, toDig_eq_nil]; exact hb
                                                                     omega) (by omega) hl
      exact ⟨qs, rs, h2, h3, h4, by omega, h6, h7, h8⟩
theorem fdiv_uniq {x y q r : Int} (h : x = y * q + r) (hr : (0 ≤ r ∧ r < y) ∨ (y < r ∧ r ≤ 0)) : x.fdiv y = q ∧ x.fmod y = r := by
  rcases hr with hr | hr
  · have := (Int.ediv_emod_unique (a := x) (b := y) (r := r) (q := q) (by omega)).2 ⟨by omega, hr⟩
    rw [Int.fdiv_eq_ediv_of_nonneg _ (by omega), Int.fmod_eq_emod_of_nonneg _ (by omega)]
    exact this
  · have := (Int.ediv_emod_unique (a := -x) (b := -y) (r := -r) (q := q) (by omega)).2 ⟨by rw [h, Int.neg_mul]; omega, by omega, by omega⟩
    rw [← Int.neg_fdiv_neg, Int.fdiv_eq_ediv_of_nonneg _ (by omega)]
    refine ⟨this.1, ?_⟩
    have h2 := Int.neg_fmod_neg x y
    rw [Int.fmod_eq_emod_of_nonneg _ (by omega)] at h2
    omega
def sg (n : Bool) (D : Int) : Int := if n then -D else D
theorem dm_same (n : Bool) {D E Q R : Int} (h : D = E * Q + R) (h0 : 0 ≤ R) (h1 : R < E) : (sg n D).fdiv (sg n E) = Q ∧ (sg n D).fmod (sg n E) = sg n R := by
  apply fdiv_uniq
  · cases n <;> simp only [sg, if_true] <;> simp [h, Int.neg_mul]; omega
  · cases n <;> simp only [sg, if_true] <;> simp <;> omega
theorem dm_zero {n m : Bool} (hnm : ¬ n = m) {D E Q : Int} (h : D = E * Q) (h1 : 0 < E) : (sg n D).fdiv (sg m E) = -Q ∧ (sg n D).fmod (sg m E) = 0 := by
  apply fdiv_uniq
  · cases n <;> cases m <;> simp only [sg, if_true] <;> simp [h, Int.neg_mul, Int.mul_neg] <;> exact absurd rfl hnm
  · cases n <;> cases m <;> simp only [sg, if_true] <;> simp <;> omega
theorem dm_off {n m : Bool} (hnm : ¬ n = m) {D E Q R : Int} (h : D = E * Q + R) (h0 : 0 < R) (h1 : R < E) : (sg n D).fdiv (sg m E) = -Q - 1 ∧ (sg n D).fmod (sg m E) = sg n R + sg m E := by
  apply fdiv_uniq
  · cases n <;> cases m <;> simp only [sg, if_true] <;> first | exact absurd rfl hnm | skip
    all_goals (simp [h, Int.neg_mul, Int.mul_neg, Int.mul_sub]; try omega)
  · cases n <;> cases m <;> simp only [sg, if_true] <;> first | exact absurd rfl hnm | skip
    all_goals (simp; omega)
theorem divmod_c {j k v w x y} (hv : IsI j v x) (hw : IsI k w y) (hy0 : y ≠ 0) (hj : j < 1073741823) (hk : k < 1073741823) : Gives mach 67 [v, w] (.tup [encI (x.fdiv y), encI (x.fmod y), .int .i64 0]) := by
  have sg := sign_c hw (by omega)
  have hsg : (sgn y = 0) = False := eq_false (by unfold sgn; repeat' split
                                                 all_goals omega)
  have hdiv := hv.di
  have hdiw := hw.di
  obtain ⟨n, ds, rfl, hd, hl, hx⟩ := hv
  obtain ⟨m, es, rfl, he, hl2, hy⟩ := hw
  have m1 := mag_c n ds hd (by omega)
  have m2 := mag_c m es he (by omega)
  have l1 := toDig_val_len hd
  have l2 := toDig_val_len he
  have ex : x.natAbs = Go.Plain.val ds := by rw [← hx, ival_abs]
  have ey : y.natAbs = Go.Plain.val es := by rw [← hy, ival_abs]
  have hbn : Go.Plain.val es ≠ 0 := by omega
  obtain ⟨qs, rs, hq, hr, hql, hrl, hqv, hrv, hdv⟩ := div_c (Go.Plain.val ds) (Go.Plain.val es) hbn (by omega) (by omega)
  have key := Nat.div_add_mod (Go.Plain.val ds) (Go.Plain.val es)
  have hlt := Nat.mod_lt (Go.Plain.val ds) (Nat.pos_of_ne_zero hbn)
  rw [← hqv, ← hrv] at key
  rw [← hrv] at hlt
  have key2 : (Go.Plain.val ds : Int) = (Go.Plain.val es : Int) * (Go.Plain.val qs : Int) + (Go.Plain.val rs : Int) := by rw [← Int.natCast_mul, ← Int.natCast_add, key]
  refine gives tab67 rfl ?_
  by_cases hnm : n = m
  · subst hnm
    have c1 := can_c false qs hq (by omega)
    have c2 := can_c n rs hr (by omega)
    have e : x.fdiv y = ival false qs ∧ x.fmod y = ival n rs := by
      rw [← hx, ← hy]; exact dm_same n key2 (by omega) (by omega)
    rw [← e.1] at c1
    rw [← e.2] at c2
    simp only [F67, tmR, seval, wpcall_eq sg, hsg, wpcall_eq m1, wpcall_eq m2, wpcall_eq hdv, wpcall_eq c1, wpcall_eq c2, tmF]
  · have hnb : (n == m) = false := by cases n <;> cases m <;> simp_all
    have c1 := can_c true qs hq (by omega)
    have c2 := can_c n rs hr (by omega)
    have hdq : Di k (ival n rs) := by unfold Di at *; rw [ival_abs, ← ey] at *; omega
    have hdq1 : Di j (ival true qs) := by unfold Di at *; rw [ival_abs]; rw [ex] at hdiv; rw [hqv]; exact Nat.lt_of_le_of_lt (Nat.div_le_self _ _) hdiv
    have s2 := sign_c (isI_enc hdq) (by omega)
    by_cases hz : Go.Plain.val rs = 0
    · have hs0 : sgn (ival n rs) = 0 := by unfold sgn; simp [ival, hz]
      rw [hs0] at s2
      have e : x.fdiv y = ival true qs ∧ x.fmod y = ival n rs := by
        rw [← hx, ← hy]
        have := dm_zero hnm (D := Go.Plain.val ds) (E := Go.Plain.val es) (Q := Go.Plain.val qs) (by rw [key2, hz]; simp) (by omega)
        rw [show ival n rs = 0 by simp [ival, hz]]
        exact this
      rw [e.1, e.2]
      simp only [F67, tmR, seval, wpcall_eq sg, hsg, wpcall_eq m1, wpcall_eq m2, wpcall_eq hdv, hnb, wpcall_eq c1, wpcall_eq c2, wpcall_eq s2, tmF]
    · have hs1 : (sgn (ival n rs) = 0) = False := eq_false (by unfold sgn; cases n <;> simp [ival] <;> omega)
      have fr := from_c (n := 1) (by unfold I64; omega)
      have sb := isub_c (isI_enc hdq1) (isI_enc (k := 1) (z := 1) (by unfold Di; decide)) (by omega) (by omega)
      have ad := add_c (isI_enc hdq) ⟨m, es, rfl, he, hl2, hy⟩ (by omega) (by omega)
      have e : x.fdiv y = ival true qs - 1 ∧ x.fmod y = ival n rs + y := by
        rw [← hx, ← hy]; exact dm_off hnm key2 (by omega) (by omega)
      simp only [encI, rawI, seval, decide_false] at sb
      rw [e.1, e.2]
      simp only [F67, tmR, seval, wpcall_eq sg, hsg, wpcall_eq m1, wpcall_eq m2, wpcall_eq hdv, hnb, wpcall_eq c1, wpcall_eq c2, wpcall_eq s2, hs1, wpcall_eq fr, wpcall_eq sb, wpcall_eq ad, tmF]
theorem loopGcd {Q : Ex → St → Prop} (k : Nat) (hk : k < 1073741823) : ∀ (y x : Nat) (st : St), (toDig x).length ≤ k → (toDig y).length ≤ k → st.env 5 = .sl (dig (toDig x)) → st.env 6 = .sl (dig (toDig y)) →
    (∀ s, s.env 5 = .sl (dig (toDig (Nat.gcd x y))) → (toDig (Nat.gcd x y)).length ≤ k → Keep [4] s st → s.obj = st.obj → Q (.exit 0) s) → Goes mach (.loop L66_0) Q st := by
  intro y
  induction y using Nat.strongRecOn with
  | _ y ih =>
    intro x st hx hy h5 h6 hQ
    rw [wp_loop]
    by_cases hy0 : y = 0
    · subst hy0
      rw [toDig_zero] at h6
      simp only [L66_0, tmR, seval, h5, h6, dig_nil]
      refine hQ _ ?_ ?_ ?_ rfl
      · simp only [tmD, reduceIte, Nat.reduceEqDiff, Nat.reduceAdd, h5, Nat.gcd_zero_right]
      · rw [Nat.gcd_zero_right]; exact hx
      · have hkeep := Keep.refl [4] st
        repeat' (first | exact hkeep | (apply keep_put (hd := by decide)) | apply keep_setO | apply keep_bump | (apply keep_putO (hd := by decide)) | apply keep_unsol)
    · have hpos : ((0 : Int) < ((toDig y).length : Nat)) = True := eq_true (by have := mt toDig_eq_nil.1 hy0; have := List.length_pos_iff.2 this; omega)
      obtain ⟨qs, rs, hq, hr, hql, hrl, hqv, hrv, hdv⟩ := div_c x y hy0 (by omega) (by omega)
      have hm := mag_c false rs hr (by omega)
      rw [hrv] at hm
      have hlen : (toDig (x % y)).length ≤ k := by
        have : x % y < 4294967296 ^ k := by
          have h1 := Nat.mod_lt x (Nat.pos_of_ne_zero hy0)
          have h2 := val_lt (dig_toDig y)
          rw [val_toDig] at h2
          have h3 : (4294967296 : Nat) ^ (toDig y).length ≤ 4294967296 ^ k := Nat.pow_le_pow_right (by decide) hy
          omega
        exact toDig_len_le this
      simp only [L66_0, tmR, seval, h5, h6, dig_len, hpos, wpcall_eq hdv, wpcall_eq hm]
      refine ih (x % y) (Nat.mod_lt _ (Nat.pos_of_ne_zero hy0)) y _ hy hlen ?_ ?_ ?_
      · simp only [tmD, reduceIte, Nat.reduceEqDiff, Nat.reduceAdd]
      · simp only [tmD, reduceIte, Nat.reduceEqDiff, Nat.reduceAdd]
      · intro s h1 h2 h3 h4
        have e : Nat.gcd y (x % y) = Nat.gcd x y := by rw [Nat.gcd_comm y, ← Nat.gcd_rec, Nat.gcd_comm]
        rw [e] at h1 h2
        refine hQ s h1 h2 ?_ h4
        intro i hi
        rw [h3 i hi]
        have hkeep := Keep.refl [4] st
        revert i
        show Keep _ _ _
        repeat' (first | exact hkeep | (apply keep_put (hd := by decide)) | apply keep_setO | apply keep_bump | (apply keep_putO (hd := by decide)) | apply keep_unsol)
theorem gcd_c {j k v w x y} (hv : IsI j v x) (hw : IsI k w y) (hj : j < 1073741823) (hk : k < 1073741823) : Gives mach 66 [v, w] (encI (Int.gcd x y)) := by
  obtain ⟨n, ds, rfl, hd, hl, hx⟩ := hv
  obtain ⟨m, es, rfl, he, hl2, hy⟩ := hw
  have m1 := mag_c n ds hd (by omega)
  have m2 := mag_c m es he (by omega)
  have l1 := toDig_val_len hd
  have l2 := toDig_val_len he
  have c1 := clone_val (n := Go.Plain.val ds) (by omega)
  have c2 := clone_val (n := Go.Plain.val es) (by omega)
  refine gives tab66 rfl ?_
  simp only [F66, tmR, seval, wpcall_eq m1, wpcall_eq m2, wpcall_eq c1, wpcall_eq c2]
  refine loopGcd (max j k) (by omega) (Go.Plain.val es) (Go.Plain.val ds) _ (by omega) (by omega) ?_ ?_ ?_
  · simp only [tmD, reduceIte, Nat.reduceEqDiff, Nat.reduceAdd]
  · simp only [tmD, reduceIte, Nat.reduceEqDiff, Nat.reduceAdd]
  · intro s h5 hlen h4 ho
    have hcan := can_val false (Nat.gcd (Go.Plain.val ds) (Go.Plain.val es)) (by omega)
    have e : (if false = true then -((Nat.gcd (Go.Plain.val ds) (Go.Plain.val es) : Nat) : Int) else ((Nat.gcd (Go.Plain.val ds) (Go.Plain.val es) : Nat) : Int)) = Int.gcd x y := by
      unfold Int.gcd; rw [← hx, ← hy, ival_abs, ival_abs]; simp
    rw [e] at hcan
    have h44 := h4 4 (by decide)
    simp only [tmD, reduceIte, Nat.reduceEqDiff, Nat.reduceAdd] at h44
    simp only [tmR, seval, h5, wpcall_eq hcan, h44, ho, tmF]
end Go.TM.Fn
end
section
namespace Go.TM.Fn
open Go Go.TM Go.Plain
set_option linter.unusedVariables false
set_option linter.unusedSimpArgs false
set_option maxRecDepth 20000
abbrev rawQ (n : Bool) (ds : List Nat) (m : Bool) (es : List Nat) : TV := .agg [.bool n, .sl (dig ds), .bool m, .sl (dig es)]
abbrev encF (x y : Int) : TV := rawQ (decide (x < 0)) (toDig x.natAbs) (decide (y < 0)) (toDig y.natAbs)
abbrev encQ (q : Rat) : TV := encF q.num q.den
def IsQ (k : Nat) (v : TV) (q : Rat) : Prop := ∃ n ds m es, v = rawQ n ds m es ∧ Dig ds ∧ Dig es ∧ ds.length ≤ k ∧ es.length ≤ k ∧ Rat.divInt (ival n ds) (ival m es) = q
def Dq (k : Nat) (q : Rat) : Prop := Di k q.num ∧ Di k q.den
theorem di_one {k} (h : 0 < k) : Di k 1 := (show Di 1 1 by unfold Di; decide).mono h
theorem dq_divInt {k N D} (hk : 0 < k) (hN : Di k N) (hD : Di k D) : Dq k (Rat.divInt N D) := by
  refine ⟨?_, ?_⟩
  · rw [Rat.num_divInt]
    unfold Di at *
    by_cases hd : D = 0
    · subst hd; simp; exact Nat.pow_pos (by decide)
    · rw [Int.natAbs_ediv_of_dvd (by exact Int.dvd_trans (Int.gcd_dvd_right _ _) (Int.dvd_mul_left _ _)), Int.natAbs_mul, Int.natAbs_sign_of_ne_zero hd, Nat.one_mul]
      exact Nat.lt_of_le_of_lt (Nat.div_le_self _ _) hN
  · rw [Rat.den_divInt]
    split
    · exact di_one hk
    · unfold Di at *
      rw [Int.natAbs_natCast]
      exact Nat.lt_of_le_of_lt (Nat.div_le_self _ _) hD
theorem IsQ.dq {k v q} (hk : 0 < k) (h : IsQ k v q) : Dq k q := by
  obtain ⟨n, ds, m, es, rfl, h1, h2, h3, h4, rfl⟩ := h
  exact dq_divInt hk (IsI.di ⟨n, ds, rfl, h1, h3, rfl⟩) (IsI.di ⟨m, es, rfl, h2, h4, rfl⟩)
theorem isQ_enc {k q} (h : Dq k q) : IsQ k (encQ q) q := by
  refine ⟨_, _, _, _, rfl, dig_toDig _, dig_toDig _, toDig_len_le h.1, toDig_len_le h.2, ?_⟩
  rw [ival_enc, ival_enc, Rat.num_divInt_den]
theorem IsQ.mono {j k v q} (h : IsQ j v q) (hk : j ≤ k) : IsQ k v q := by
  obtain ⟨n, ds, m, es, h0, h1, h2, h3, h4, h5⟩ := h
  exact ⟨n, ds, m, es, h0, h1, h2, by omega, by omega, h5⟩
theorem Dq.mono {j k q} (h : Dq j q) (hk : j ≤ k) : Dq k q := ⟨h.1.mono hk, h.2.mono hk⟩
theorem one_c : Gives mach 64 [] (encI 1) := by
  have fr := from_c (n := 1) (by unfold I64; omega)
  simp only [encI, rawI, seval, decide_false] at fr ⊢
  refine gives tab64 rfl ?_
  simp only [F64, tmR, seval, wpcall_eq fr, tmF]
theorem divInt_parts {N D : Int} (hN : N ≠ 0) (hD : D ≠ 0) : N.fdiv (if D < 0 then -(Int.gcd N D : Int) else Int.gcd N D) = (Rat.divInt N D).num ∧ D.fdiv (if D < 0 then -(Int.gcd N D : Int) else Int.gcd N D) = (Rat.divInt N D).den := by
  have hg : (Int.gcd N D : Int) ≠ 0 := by
    have : Int.gcd N D ≠ 0 := by rw [Ne, Int.gcd_eq_zero_iff]; exact fun h => hN h.1
    omega
  obtain ⟨a, ha⟩ := Int.gcd_dvd_left N D
  obtain ⟨b, hb⟩ := Int.gcd_dvd_right N D
  have hg2 : (0 : Int) < (Int.gcd N D : Int) := by omega
  rw [Rat.num_divInt, Rat.den_divInt, if_neg hD, Int.gcd_comm D N]
  by_cases hneg : D < 0
  · simp only [hneg, if_true]
    have hs : D.sign = -1 := Int.sign_eq_neg_one_of_neg hneg
    refine ⟨?_, ?_⟩
    · rw [Int.fdiv_eq_of_eq_mul_right (c := -a) (by omega) (by rw [Int.neg_mul_neg]; exact ha), hs]
      refine (Int.ediv_eq_of_eq_mul_right hg ?_).symm
      rw [Int.mul_neg, ← ha]; omega
    · rw [Int.fdiv_eq_of_eq_mul_right (c := -b) (by omega) (by rw [Int.neg_mul_neg]; exact hb)]
      rw [Int.natCast_ediv]
      refine (Int.ediv_eq_of_eq_mul_right hg ?_).symm
      rw [Int.mul_neg, ← hb]; omega
  · simp only [hneg, if_false]
    have hs : D.sign = 1 := Int.sign_eq_one_of_pos (by omega)
    refine ⟨?_, ?_⟩
    · rw [Int.fdiv_eq_of_eq_mul_right hg ha, hs, Int.one_mul]
      exact (Int.ediv_eq_of_eq_mul_right hg ha).symm
    · rw [Int.fdiv_eq_of_eq_mul_right hg hb, Int.natCast_ediv]
      refine (Int.ediv_eq_of_eq_mul_right hg ?_).symm
      rw [← hb]; omega
theorem sgn_zero {z : Int} : (sgn z = 0) = (z = 0) := by
  apply propext; unfold sgn; constructor
  · intro h; repeat' split at h
    all_goals omega
  · rintro rfl; rfl
theorem sgn_neg {z : Int} : (sgn z < 0) = (z < 0) := by
  apply propext; unfold sgn; constructor
  · intro h; repeat' split at h
    all_goals omega
  · intro h; rw [if_pos h]; omega
theorem di_gcd {k x y} (hx : Di k x) (h0 : x ≠ 0) : Di k (Int.gcd x y) := by
  unfold Di at *
  have : Int.gcd x y ≤ x.natAbs := Nat.gcd_le_left _ (by omega)
  rw [Int.natAbs_natCast]; omega
theorem reduced_c {j k v w x y} (hv : IsI j v x) (hw : IsI k w y) (hj : j < 1073741823) (hk : k < 1073741823) : Gives mach 46 [v, w] (encQ (Rat.divInt x y)) := by
  have s1 := sign_c hv (by omega)
  have s2 := sign_c hw (by omega)
  have g := gcd_c hv hw hj hk
  have dx := hv.di
  have dy := hw.di
  have o := one_c
  simp only [encI, rawI, seval, decide_false] at o
  by_cases hx0 : x = 0
  · obtain ⟨n, ds, rfl, hd, hl, hx⟩ := hv
    obtain ⟨m, es, rfl, he, hl2, hy⟩ := hw
    rw [hx0, Rat.zero_divInt]
    refine gives tab46 rfl ?_
    simp only [F46, tmR, seval, wpcall_eq s1, sgn_zero, hx0, wpcall_eq o, tmF]
    simp [encF, rawQ, toDig_zero, dig]
  · by_cases hy0 : y = 0
    · obtain ⟨n, ds, rfl, hd, hl, hx⟩ := hv
      obtain ⟨m, es, rfl, he, hl2, hy⟩ := hw
      rw [hy0, Rat.divInt_zero]
      refine gives tab46 rfl ?_
      simp only [F46, tmR, seval, wpcall_eq s1, wpcall_eq s2, sgn_zero, hx0, hy0, wpcall_eq o, tmF]
      simp [encF, rawQ, toDig_zero, dig]
    · have key := divInt_parts hx0 hy0
      have hgd := di_gcd (y := y) dx hx0
      have hg0 : (Int.gcd x y : Int) ≠ 0 := by
        have : Int.gcd x y ≠ 0 := by rw [Ne, Int.gcd_eq_zero_iff]; exact fun h => hx0 h.1
        omega
      by_cases hneg : y < 0
      · simp only [hneg, if_true] at key
        have ng := negate_c (isI_enc hgd) (by omega)
        have q1 := divmod_c hv (isI_enc hgd.neg) (by omega) hj (by omega)
        have q2 := divmod_c hw (isI_enc hgd.neg) (by omega) hk (by omega)
        obtain ⟨n, ds, rfl, hd, hl, hx⟩ := hv
        obtain ⟨m, es, rfl, he, hl2, hy⟩ := hw
        rw [key.1] at q1; rw [key.2] at q2
        refine gives tab46 rfl ?_
        simp only [F46, tmR, seval, wpcall_eq s1, wpcall_eq s2, sgn_zero, sgn_neg, hx0, hy0, hneg, wpcall_eq g, wpcall_eq ng, wpcall_eq q1, wpcall_eq q2, tmF]
      · simp only [hneg, if_false] at key
        have q1 := divmod_c hv (isI_enc hgd) (by omega) hj (by omega)
        have q2 := divmod_c hw (isI_enc hgd) (by omega) hk (by omega)
        obtain ⟨n, ds, rfl, hd, hl, hx⟩ := hv
        obtain ⟨m, es, rfl, he, hl2, hy⟩ := hw
        rw [key.1] at q1; rw [key.2] at q2
        refine gives tab46 rfl ?_
        simp only [F46, tmR, seval, wpcall_eq s1, wpcall_eq s2, sgn_zero, sgn_neg, hx0, hy0, hneg, wpcall_eq g, wpcall_eq q1, wpcall_eq q2, tmF]
end Go.TM.Fn
end
