/- A small machine over immutable trees: its operations, and that each of them does what the model does. No condition. -/
import GoSem.Step
import GoSem.Core.Code
import Derived.Laws.AppendOwn
import Derived.Below
import Derived.Orders
import Derived.Laws.StructEq
section
namespace Go.TM
inductive TV where
  | undef
  | int (k : IntKind) (n : Int)
  | bool (b : Bool)
  | str (s : ByteArray)
  | agg (cs : List TV)
  | tup (vs : List TV)
  | nils
  | sl (xs : List (List TV))
  | own (e : Nat) (xs : List (List TV))
  | hs (k g e n : Nat)
  | ptr (k g i j : Nat)
  | rptr (cs : List TV) (j : Nat)
  deriving Inhabited
inductive Opd where
  | t (n : Nat)
  | c (v : TV)
  deriving Inhabited
structure Obj where
  cont : List (List TV)
  esz : Nat
  box : Bool
  solo : Bool
  tip : Bool
  deriving Inhabited
structure St where
  env : Nat → TV
  obj : Nat → Nat → Option Obj
  cnt : Nat → Nat
def upd {α : Type} (f : Nat → α) (i : Nat) (x : α) : Nat → α := fun j => if j = i then x else f j
def updO (f : Nat → Nat → Option Obj) (k g : Nat) (o : Option Obj) : Nat → Nat → Option Obj := fun k' g' => if k' = k ∧ g' = g then o else f k' g'
inductive TOp where
  | mov (x : Opd)
  | pick (c a b : Opd)
  | bin (b : Bool) (op : BinOp) (x y : Opd)
  | eqs (neg : Bool) (ks : List Nat) (x y : Opd)
  | un (op : UnOp) (x : Opd)
  | conv (k : IntKind) (x : Opd)
  | box (n : Nat) (x : Opd)
  | alloc (cells : List TV)
  | load (n : Nat) (ag : Bool) (p : Opd)
  | store (n : Nat) (p x : Opd)
  | faddr (off : Nat) (p : Opd)
  | iaddr (e : Nat) (x i : Opd)
  | field (off n : Nat) (ag : Bool) (x : Opd)
  | build (zero : List TV) (parts : List (Nat × Nat × Opd))
  | bslice (e : Nat) (zero : List TV) (len : Nat) (parts : List (Nat × Opd))
  | lit (e : Nat) (zero : List TV) (len : Nat) (parts : List (Nat × Opd))
  | mk (e : Nat) (zero : List TV) (n : Opd)
  | app (e : Nat) (consume : Bool) (s x : Opd)
  | slice (e : Nat) (s : Bool) (x : Opd) (lo hi mx : Option Opd)
  | len (s : Bool) (x : Opd)
  | mxn (isMax : Bool) (x y : Opd)
  | index (x i : Opd)
  | extract (x : Opd) (i : Nat)
  | call (f : Nat) (mode : Nat) (lent : List Nat) (args : List Opd)
inductive Vk where
  | full
  | none
  | box (k : Nat)
  | rd (forb : List Nat)
  | fb (forb : List Nat)
structure TStep where
  dst : Option Nat
  op : TOp
  guard : Option (Nat × Bool)
  vk : Vk
inductive TCode where
  | skip
  | reg (ops : List TStep)
  | seq (a b : TCode)
  | cond (x : Opd) (a b : TCode)
  | block (id : Nat) (a : TCode)
  | loop (a : TCode)
  | exit (id : Nat)
  | ret
inductive TRes where
  | tmp (t : Nat)
  | cell (a n : Nat) (ag : Bool)
structure TFunc where
  np : Nat
  nt : Nat
  res : List TRes
  body : TCode
abbrev Cont := List (List TV)
abbrev Res := TV × List Cont
structure Mach where
  tab : Nat → Option TFunc
  ext : Nat → List TV → Option Res
inductive Ex where
  | norm
  | exit (id : Nat)
  | ret
  deriving DecidableEq
def TV.cells : TV → List TV
  | .agg cs => cs
  | .undef | .tup _ | .own _ _ => []
  | v => [v]
def tree1 (ob : Nat → Nat → Option Obj) : TV → Option TV
  | .int k n => some (.int k n)
  | .bool b => some (.bool b)
  | .str s => some (.str s)
  | .sl xs => some (.sl xs)
  | .nils => some (.sl [])
  | .hs k g e n => match ob k g with
    | some o => if o.box = false ∧ n ≤ o.cont.length ∧ o.esz = e then some (.sl (o.cont.take n)) else none
    | none => none
  | _ => none
def trees (ob : Nat → Nat → Option Obj) : List TV → Option (List TV)
  | [] => some []
  | c :: cs => match tree1 ob c, trees ob cs with
    | some c', some cs' => some (c' :: cs')
    | _, _ => none
def tree (ob : Nat → Nat → Option Obj) : TV → Option TV
  | .agg cs => (trees ob cs).map .agg
  | v => tree1 ob v
def hand1 : TV → List (Nat × Nat)
  | .hs k g _ _ => [(k, g)]
  | _ => []
def hands (v : TV) : List (Nat × Nat) := v.cells.flatMap hand1
def deep : TV → Bool
  | .sl (_ :: _) => true
  | _ => false
def flat (c : Cont) : Bool := c.all fun x => x.all fun v => !deep v
def hasSl1 : TV → Bool
  | .sl (_ :: _) => true
  | .own _ xs => !flat xs
  | _ => false
def TV.comps : TV → List TV
  | .tup vs => vs
  | v => [v]
def hasSl (v : TV) : Bool := v.comps.any fun u => u.cells.any hasSl1
def view1 : TV → TV
  | .own _ xs => .sl xs
  | .nils => .sl []
  | v => v
def viewA : TV → TV
  | .agg cs => .agg (cs.map view1)
  | v => view1 v
def view : TV → TV
  | .tup vs => .tup (vs.map viewA)
  | v => viewA v
def eqK : List Nat → List TV → List TV → Option Bool
  | [], [], [] => some true
  | q :: ks, x :: xs, y :: ys => match q, x, y, eqK ks xs ys with
    | 0, .int k a, .int k' b, some r => if k = k' then some ((a == b) && r) else none
    | 1, .bool a, .bool b, some r => some ((a == b) && r)
    | 2, .str a, .str b, some r => some ((a == b) && r)
    | _, _, _, _ => none
  | _, _, _ => none
def binTV (b : Bool) (op : BinOp) : TV → TV → Option TV
  | .int k x, .int k' y => match op with
    | .add => if k = k' then some (.int k (k.wrap (x + y))) else none
    | .sub => if k = k' then some (.int k (k.wrap (x - y))) else none
    | .mul => if k = k' then some (.int k (k.wrap (x * y))) else none
    | .quo => if k = k' ∧ y ≠ 0 then some (.int k (k.wrap (x.tdiv y))) else none
    | .rem => if k = k' ∧ y ≠ 0 then some (.int k (x.tmod y)) else none
    | .and => if k = k' then some (.int k (k.wrap (BitVec.ofInt k.bits x &&& BitVec.ofInt k.bits y).toNat)) else none
    | .or => if k = k' then some (.int k (k.wrap (BitVec.ofInt k.bits x ||| BitVec.ofInt k.bits y).toNat)) else none
    | .xor => if k = k' then some (.int k (k.wrap (BitVec.ofInt k.bits x ^^^ BitVec.ofInt k.bits y).toNat)) else none
    | .andNot => if k = k' then some (.int k (k.wrap (BitVec.ofInt k.bits x &&& ~~~ BitVec.ofInt k.bits y).toNat)) else none
    | .shl => if 0 ≤ y then some (.int k (k.wrap (x * 2 ^ (min y.toNat k.bits)))) else none
    | .shr => if 0 ≤ y then some (.int k (x.fdiv (2 ^ (min y.toNat k.bits)))) else none
    | .eql => if k = k' then some (.bool (x == y)) else none
    | .neq => if k = k' then some (.bool (x != y)) else none
    | .lss => if k = k' then some (.bool (x < y)) else none
    | .leq => if k = k' then some (.bool (x ≤ y)) else none
    | .gtr => if k = k' then some (.bool (x > y)) else none
    | .geq => if k = k' then some (.bool (x ≥ y)) else none
  | .bool x, .bool y => match b, op with
    | true, .eql => some (.bool (x == y))
    | true, .neq => some (.bool (!(x == y)))
    | _, _ => none
  | .str a, .str b => match op with
    | .eql => some (.bool (a.toList == b.toList))
    | .neq => some (.bool !(a.toList == b.toList))
    | .lss => some (.bool (Op.bytesLess a.toList b.toList))
    | .leq => some (.bool (Op.bytesLess a.toList b.toList || a.toList == b.toList))
    | .gtr => some (.bool !(Op.bytesLess a.toList b.toList || a.toList == b.toList))
    | .geq => some (.bool !(Op.bytesLess a.toList b.toList))
    | .add => if a.size + b.size < 2147483648 then some (.str (a ++ b)) else none
    | _ => none
  | _, _ => none
def unTV (op : UnOp) : TV → Option TV
  | .int k n => match op with
    | .neg => some (.int k (k.wrap (0 - n)))
    | .xor => some (.int k (k.wrap (BitVec.ofInt k.bits (if k.signed then -1 else k.max) ^^^ BitVec.ofInt k.bits n).toNat))
    | _ => none
  | .bool b => match op with
    | .not => some (.bool !b)
    | _ => none
  | _ => none
def splice (e : List TV) (j : Nat) (cs : List TV) : List TV := e.take j ++ cs ++ e.drop (j + cs.length)
def pull (e : List TV) (j n : Nat) (ag : Bool) : Option TV :=
  if j + n ≤ e.length then
    if ag then some (.agg ((e.drop j).take n)) else
      match n, e[j]? with
      | 1, some v => some v
      | _, _ => none
  else none
structure Eff where
  v : TV := .undef
  new : List Obj := []
  unsolo : List (Nat × Nat) := []
  mods : List (Nat × Nat × Option Obj) := []
def unsolo1 (ob : Nat → Nat → Option Obj) (p : Nat × Nat) : Nat → Nat → Option Obj :=
  updO ob p.1 p.2 ((ob p.1 p.2).map fun o => { o with solo := o.box && o.solo })
def addNew (d : Nat) : Nat → List Obj → (Nat → Nat → Option Obj) → Nat → Nat → Option Obj
  | _, [], ob => ob
  | g, o :: os, ob => addNew d (g + 1) os (updO ob d g (some o))
def apply (d : Option Nat) (e : Eff) (st : St) : St :=
  match d with
  | some d => match e.new with
    | [] => { st with env := upd st.env d e.v, obj := e.mods.foldl (fun ob m => updO ob m.1 m.2.1 m.2.2) (e.unsolo.foldl unsolo1 st.obj) }
    | new => { env := upd st.env d e.v, obj := addNew d (st.cnt d) new (e.mods.foldl (fun ob m => updO ob m.1 m.2.1 m.2.2) (e.unsolo.foldl unsolo1 st.obj)),
               cnt := upd st.cnt d (st.cnt d + new.length) }
  | none => { st with obj := e.mods.foldl (fun ob m => updO ob m.1 m.2.1 m.2.2) (e.unsolo.foldl unsolo1 st.obj) }
inductive Ev where
  | eff (e : Eff)
  | cal (f : Nat) (vals : List TV) (k : Res → Option Eff)
def val (env : Nat → TV) : Opd → TV
  | .t n => env n
  | .c v => v
def asNat : TV → Option Nat
  | .int _ n => if 0 ≤ n then some n.toNat else none
  | _ => none
def uni (e : Nat) : Cont → Bool
  | [] => true
  | x :: _ => x.length == e
def elems (ob : Nat → Nat → Option Obj) (e : Nat) : TV → Option Cont
  | .sl xs => if uni e xs = true then some xs else none
  | .nils => some []
  | .hs k g e' n => match ob k g with
    | some o => if o.box = false ∧ n ≤ o.cont.length ∧ o.esz = e ∧ e' = e then some (o.cont.take n) else none
    | none => none
  | .str s => if e = 1 then some (s.data.toList.map fun b => [.int .u8 b.toNat]) else none
  | _ => none
def adopt (d : Nat) : Nat → List TV → List TV × List Obj
  | _, [] => ([], [])
  | c, .own e xs :: cs => (.hs d c e xs.length :: (adopt d (c + 1) cs).1, { cont := xs, esz := e, box := false, solo := true, tip := true } :: (adopt d (c + 1) cs).2)
  | c, v :: cs => (v :: (adopt d c cs).1, (adopt d c cs).2)
def lend (ob : Nat → Nat → Option Obj) : TV → Option TV
  | .hs k g e n => match ob k g with
    | some o => if o.box = false ∧ o.solo = true ∧ o.tip = true ∧ n = o.cont.length ∧ o.esz = e then some (.own e o.cont) else none
    | none => none
  | _ => none
def argsOf (ob : Nat → Nat → Option Obj) (lent : List Nat) : Nat → List TV → Option (List TV)
  | _, [] => some []
  | i, v :: vs => match (if lent.contains i then lend ob v else tree ob v), argsOf ob lent (i + 1) vs with
    | some u, some us => some (u :: us)
    | _, _ => none
def once : List (Nat × Nat) → Bool
  | [] => true
  | p :: ps => !ps.contains p && once ps
def lentOf (lent : List Nat) : Nat → List TV → List (Nat × Nat)
  | _, [] => []
  | i, v :: vs => (if lent.contains i then hands v else []) ++ lentOf lent (i + 1) vs
def heldOf (lent : List Nat) : Nat → List TV → List (Nat × Nat)
  | _, [] => []
  | i, v :: vs => (if lent.contains i then [] else hands v) ++ heldOf lent (i + 1) vs
def apartL (lent : List Nat) (vals : List TV) : Bool :=
  once (lentOf lent 0 vals) && (lentOf lent 0 vals).all fun p => !(heldOf lent 0 vals).contains p
def giveBack (ob : Nat → Nat → Option Obj) : List (Nat × Nat) → List Cont → Option (List (Nat × Nat × Option Obj))
  | [], [] => some []
  | p :: ps, c :: cs => match ob p.1 p.2, giveBack ob ps cs with
    | some o, some r => if c.length = o.cont.length then some ((p.1, p.2, some { o with cont := c }) :: r) else none
    | _, _ => none
  | _, _ => none
def buildParts (val : Opd → TV) : List TV → List (Nat × Nat × Opd) → Option (List TV)
  | acc, [] => some acc
  | acc, (off, n, x) :: rest => if (val x).cells.length = n ∧ off + n ≤ acc.length then buildParts val (splice acc off (val x).cells) rest else none
def sliceParts (ob : Nat → Nat → Option Obj) (val : Opd → TV) (e : Nat) : Cont → List (Nat × Opd) → Option Cont
  | acc, [] => some acc
  | acc, (i, x) :: rest => match trees ob (val x).cells with
    | some cs => if cs.length = e ∧ i < acc.length then sliceParts ob val e (acc.set i cs) rest else none
    | none => none
def callEff (mode : Nat) (lent : List Nat) (d c : Nat) (ob : Nat → Nat → Option Obj) (ts : List TV) (r : Res) : Option Eff :=
  if mode = 2 then
    if hasSl (view r.1) = false ∧ apartL lent ts = true then
      match giveBack ob (lentOf lent 0 ts) r.2 with
      | some ms => some { v := view r.1, mods := ms }
      | none => none
    else none
  else if lent = [] ∧ r.2 = [] then
    if mode = 0 then some { v := view r.1, unsolo := if hasSl (view r.1) then heldOf lent 0 ts else [] }
    else match r.1 with
      | .tup _ => none
      | .agg cs => some { v := .agg (adopt d c cs).1, new := (adopt d c cs).2, unsolo := if hasSl (.agg cs) then heldOf lent 0 ts else [] }
      | u => some { v := (adopt d c [u]).1.headD .undef, new := (adopt d c [u]).2, unsolo := if hasSl (.agg [u]) then heldOf lent 0 ts else [] }
  else none
def ev (op : TOp) (d c : Nat) (val : Opd → TV) (ob : Nat → Nat → Option Obj) : Option Ev :=
  match op with
  | .mov x => some (.eff { v := val x })
  | .pick q a b => match val q with
    | .bool true => some (.eff { v := val a })
    | .bool false => some (.eff { v := val b })
    | _ => none
  | .bin b op x y => (binTV b op (val x) (val y)).map fun v => .eff { v }
  | .eqs neg ks x y => match val x, val y with
    | .agg a, .agg b => (eqK ks a b).map fun r => .eff { v := .bool (if neg then !r else r) }
    | _, _ => none
  | .un op x => (unTV op (val x)).map fun v => .eff { v }
  | .conv k x => match val x with
    | .int _ n => some (.eff { v := .int k (k.wrap n) })
    | _ => none
  | .box n x => if (val x).cells.length = n then some (.eff { v := .ptr d c 0 0, new := [{ cont := [(val x).cells], esz := n, box := true, solo := true, tip := false }] }) else none
  | .alloc cells => some (.eff { v := .ptr d c 0 0, new := [{ cont := [cells], esz := cells.length, box := true, solo := true, tip := false }] })
  | .load n ag p => match val p with
    | .ptr k g i j => match ob k g with
      | some o => match o.cont[i]? with
        | some e => (pull e j n ag).map fun v => .eff { v }
        | none => none
      | none => none
    | .rptr cs j => (pull cs j n ag).map fun v => .eff { v }
    | _ => none
  | .store n p x => match val p with
    | .ptr k g i j => match ob k g with
      | some o => match o.cont[i]? with
        | some e => if o.solo = true ∧ (val x).cells.length = n ∧ j + n ≤ e.length then
            if o.box = true then some (.eff { mods := [(k, g, some { o with cont := o.cont.set i (splice e j (val x).cells) })] })
            else if (hands (val x)).contains (k, g) then none else match trees ob (val x).cells with
              | some cs => some (.eff { unsolo := hands (val x), mods := [(k, g, some { o with cont := o.cont.set i (splice e j cs) })] })
              | none => none
          else none
        | none => none
      | none => none
    | _ => none
  | .faddr off p => match val p with
    | .ptr k g i j => some (.eff { v := .ptr k g i (j + off) })
    | .rptr cs j => some (.eff { v := .rptr cs (j + off) })
    | _ => none
  | .iaddr e x i => match val x, val i with
    | .hs k g e' n, .int _ ix => if 0 ≤ ix ∧ ix < n ∧ e' = e then some (.eff { v := .ptr k g ix.toNat 0 }) else none
    | .sl xs, .int _ ix => if 0 ≤ ix then match xs[ix.toNat]? with
        | some cs => if cs.length = e then some (.eff { v := .rptr cs 0 }) else none
        | none => none
      else none
    | _, _ => none
  | .field off n ag x => match val x with
    | .agg cs => (pull cs off n ag).map fun v => .eff { v }
    | _ => none
  | .build zero parts => (buildParts val zero parts).map fun cs => .eff { v := .agg cs }
  | .bslice e zero len parts => (sliceParts ob val e (List.replicate len zero) parts).map fun cc =>
      .eff { v := .hs d c e len, unsolo := parts.flatMap fun p => hands (val p.2), new := [{ cont := cc, esz := e, box := false, solo := true, tip := true }] }
  | .lit e zero len parts => (sliceParts (fun _ _ => none) val e (List.replicate len zero) parts).map fun cc =>
      .eff { v := .sl cc, new := [{ cont := cc, esz := e, box := false, solo := false, tip := false }] }
  | .mk e zero n => match val n with
    | .int .i64 m => if 0 ≤ m ∧ m < 2147483648 then
        some (.eff { v := .hs d c e m.toNat, new := [{ cont := List.replicate m.toNat zero, esz := e, box := false, solo := true, tip := true }] }) else none
    | _ => none
  | .app e consume s x => match elems ob e (val x) with
    | some zs => match val s with
      | .nils => if zs.length < 2147483648 then
          if zs = [] then some (.eff { v := .nils }) else
          some (.eff { v := .hs d c e zs.length, new := [{ cont := zs, esz := e, box := false, solo := true, tip := true }] }) else none
      | .hs k g e' n => match ob k g with
        | some o =>
          if o.box = false ∧ e' = e ∧ o.esz = e ∧ o.tip = true ∧ n ≤ o.cont.length ∧ (consume = true → o.solo = true) ∧ (consume = false → n = o.cont.length) ∧ n + zs.length < 2147483648 then
            some (.eff { v := .hs d c e (n + zs.length),
                         new := [{ cont := o.cont.take n ++ zs, esz := e, box := false, solo := consume, tip := true }],
                         mods := [(k, g, if consume then none else some { o with solo := false, tip := false })] })
          else none
        | none => none
      | _ => none
    | none => none
  | .slice es isS x lo hi mx =>
    match (match lo with | some l => asNat (val l) | none => some 0) with
    | none => none
    | some l => match isS, val x with
      | false, .sl xs => match (match hi with | some h => asNat (val h) | none => some xs.length), (match mx with | some m => asNat (val m) | none => some xs.length) with
        | some h, some m => if l ≤ h ∧ h ≤ m ∧ m ≤ xs.length ∧ (mx.isSome → hi.isSome) ∧ uni es xs = true then some (.eff { v := .sl ((xs.take h).drop l) }) else none
        | _, _ => none
      | false, .nils => match (match hi with | some h => asNat (val h) | none => some 0), mx with
        | some h, none => if l = 0 ∧ h = 0 then some (.eff { v := .nils }) else none
        | _, _ => none
      | false, .hs k g e n => match (match hi with | some h => asNat (val h) | none => some n), (match mx with | some m => asNat (val m) | none => some n) with
        | some h, some m => if l ≤ h ∧ h ≤ m ∧ m ≤ n ∧ (mx.isSome → hi.isSome) ∧ e = es then
            if l = 0 ∧ mx.isNone then some (.eff { v := .hs k g e h }) else
            match ob k g with
            | some o => if o.box = false ∧ n ≤ o.cont.length ∧ o.esz = e then some (.eff { v := .sl ((o.cont.take h).drop l), unsolo := [(k, g)] }) else none
            | none => none
          else none
        | _, _ => none
      | true, .str s => match (match hi with | some h => asNat (val h) | none => some s.size), mx with
        | some h, none => if l ≤ h ∧ h ≤ s.size then some (.eff { v := .str (s.extract l h) }) else none
        | _, _ => none
      | _, _ => none
  | .len s x => match s, val x with
    | false, .sl xs => some (.eff { v := .int .i64 xs.length })
    | false, .hs _ _ _ n => some (.eff { v := .int .i64 n })
    | false, .nils => some (.eff { v := .int .i64 0 })
    | true, .str s => some (.eff { v := .int .i64 s.size })
    | _, _ => none
  | .mxn isMax x y => match val x, val y with
    | .int k a, .int k' b => if k = k' then some (.eff { v := .int k (if isMax then (if b > a then b else a) else (if b < a then b else a)) }) else none
    | _, _ => none
  | .index x i => match val x, val i with
    | .str s, .int _ ix => if 0 ≤ ix then match s[ix.toNat]? with
        | some b => some (.eff { v := .int .u8 b.toNat })
        | none => none
      else none
    | _, _ => none
  | .extract x i => match val x with
    | .tup vs => (vs[i]?).map fun v => .eff { v }
    | _ => none
  | .call f mode lent args =>
    match argsOf ob lent 0 (args.map val) with
    | none => none
    | some vs => some (.cal f vs (callEff mode lent d c ob (args.map val)))
def restrict (ob : Nat → Nat → Option Obj) : Vk → Nat → Nat → Option Obj
  | .full => ob
  | .none => fun _ _ => none
  | .box b => fun k g => if k = b then (match ob k g with | some o => if o.box then some o else none | none => none) else none
  | .rd forb => fun k g => if forb.contains k then none else match ob k g with | some o => if o.box then none else some { o with solo := false, tip := false } | none => none
  | .fb forb => fun k g => if forb.contains k then none else ob k g
def wantedT (env : Nat → TV) : Option (Nat × Bool) → Option Bool
  | none => some true
  | some (g, b) => match env g with
    | .bool c => some (c == b)
    | .tup _ => some false
    | _ => none
def initEnv : Nat → List TV → Nat → TV
  | _, [] => fun _ => .undef
  | i, v :: vs => fun s => if s = i then (match v with | .own e xs => .hs i 0 e xs.length | v => v) else initEnv (i + 1) vs s
def initObj : Nat → List TV → Nat → Nat → Option Obj
  | _, [] => fun _ _ => none
  | i, .own e xs :: vs => updO (initObj (i + 1) vs) i 0 (some { cont := xs, esz := e, box := false, solo := true, tip := true })
  | i, _ :: vs => initObj (i + 1) vs
def initCnt : Nat → List TV → Nat → Nat
  | _, [] => fun _ => 0
  | i, .own _ _ :: vs => upd (initCnt (i + 1) vs) i 1
  | i, _ :: vs => initCnt (i + 1) vs
def initSt (args : List TV) : St := ⟨initEnv 0 args, initObj 0 args, initCnt 0 args⟩
def out1 (ob : Nat → Nat → Option Obj) : TV → Option TV
  | .hs k g e n => match ob k g with
    | some o => if o.box = false ∧ n ≤ o.cont.length ∧ o.esz = e then
        if o.solo = true ∧ o.tip = true ∧ n = o.cont.length then some (.own e o.cont) else some (.sl (o.cont.take n))
      else none
    | none => none
  | .nils => some .nils
  | v => tree1 ob v
def outs (ob : Nat → Nat → Option Obj) : List TV → Option (List TV)
  | [] => some []
  | c :: cs => match out1 ob c, outs ob cs with
    | some c', some cs' => some (c' :: cs')
    | _, _ => none
def out (ob : Nat → Nat → Option Obj) : TV → Option TV
  | .agg cs => (outs ob cs).map .agg
  | v => out1 ob v
def resVal (st : St) : TRes → Option TV
  | .tmp t => some (st.env t)
  | .cell a n ag => match st.env a with
    | .ptr k g i j => match st.obj k g with
      | some o => match o.cont[i]? with
        | some e => pull e j n ag
        | none => none
      | none => none
    | _ => none
def resVals (st : St) : List TRes → Option (List TV)
  | [] => some []
  | r :: rs => match resVal st r, resVals st rs with
    | some v, some vs => some (v :: vs)
    | _, _ => none
def treeAll (ob : Nat → Nat → Option Obj) : List TV → Option (List TV)
  | [] => some []
  | v :: vs => match tree ob v, treeAll ob vs with
    | some u, some us => some (u :: us)
    | _, _ => none
def mutsOf (st : St) : Nat → List TV → Option (List Cont)
  | _, [] => some []
  | i, .own e xs :: vs => match st.obj i 0, mutsOf st (i + 1) vs with
    | some o, some r => if o.solo = true ∧ o.tip = true ∧ o.esz = e ∧ o.cont.length = xs.length then some (o.cont :: r) else none
    | _, _ => none
  | i, _ :: vs => mutsOf st (i + 1) vs
def hasOwn : List TV → Bool
  | [] => false
  | .own _ _ :: _ => true
  | _ :: vs => hasOwn vs
def finish (F : TFunc) (args : List TV) (st : St) : Option Res :=
  match resVals st F.res, mutsOf st 0 args with
  | some vs, some ms =>
    if hasOwn args = true ∧ (vs.flatMap hands ≠ [] ∨ ms.all flat = false) then none
    else match vs with
      | [v] => if once (hands v) = true then (out st.obj v).map fun u => (u, ms) else none
      | vs => (treeAll st.obj vs).map fun us => (.tup us, ms)
  | _, _ => none
mutual
def exec (M : Mach) (c : TCode) (st : St) : Option (Ex × St) :=
  match c with
  | .skip => some (.norm, st)
  | .reg ops => execOps M ops st >>= fun st1 => some (.norm, st1)
  | .seq a b => exec M a st >>= fun p => match p.1 with
    | .norm => exec M b p.2
    | e => some (e, p.2)
  | .cond x a b => match val st.env x with
    | .bool true => exec M a st
    | .bool false => exec M b st
    | _ => none
  | .block id a => exec M a st >>= fun p => some (if p.1 = .exit id then .norm else p.1, p.2)
  | .loop a => exec M a st >>= fun p => match p.1 with
    | .norm => exec M (.loop a) p.2
    | e => some (e, p.2)
  | .exit id => some (.exit id, st)
  | .ret => some (.ret, st)
  partial_fixpoint
def execOps (M : Mach) (ops : List TStep) (st : St) : Option St :=
  match ops with
  | [] => some st
  | o :: rest => exec1 M o st >>= fun st1 => execOps M rest st1
  partial_fixpoint
def exec1 (M : Mach) (o : TStep) (st : St) : Option St :=
  match wantedT st.env o.guard with
  | none => none
  | some false => some (apply o.dst { v := .tup [] } st)
  | some true => ev o.op (o.dst.getD 0) (st.cnt (o.dst.getD 0)) (val st.env) (restrict st.obj o.vk) >>= fun e => match e with
    | .eff e => some (apply o.dst e st)
    | .cal f vs k => call M f vs >>= fun r => k r >>= fun e => some (apply o.dst e st)
  partial_fixpoint
def call (M : Mach) (f : Nat) (args : List TV) : Option Res :=
  match M.tab f with
  | some F => if F.np = args.length then exec M F.body (initSt args) >>= fun p => match p.1 with
      | .exit _ => none
      | _ => finish F args p.2
    else none
  | none => M.ext f args
  partial_fixpoint
end
end Go.TM
end
section
namespace Go.TM
def ofVal1 : Value → Option TV
  | .int k n => some (.int k n)
  | .bool b => some (.bool b)
  | .string s => some (.str s)
  | .slice none 0 0 => some .nils
  | _ => none
def ofVals : List Value → Option (List TV)
  | [] => some []
  | v :: vs => match ofVal1 v, ofVals vs with
    | some u, some us => some (u :: us)
    | _, _ => none
def ofVal : Value → Option TV
  | .agg cs => (ofVals cs.toList).map .agg
  | v => ofVal1 v
def opd : Operand → Option Opd
  | .tmp t => some (.t t)
  | .const v => (ofVal v).map .c
  | _ => none
def opds : List Operand → Option (List Opd)
  | [] => some []
  | x :: xs => match opd x, opds xs with
    | some u, some us => some (u :: us)
    | _, _ => none
def sizeT (P : Program) (t : TypeId) : Option Nat := (P.info? t).map (·.size)
def aggT (P : Program) (t : TypeId) : Option Bool := (P.underlying t).map fun
  | .struct _ | .array _ _ => true
  | _ => false
def zeroT (P : Program) (t : TypeId) : Option (List TV) :=
  match P.info? t with
  | some i => match i.zero with
    | some v => match ofVals v.cells.toList with
      | some cs => if cs.length = i.size ∧ 0 < i.size then some cs else none
      | none => none
    | none => none
  | none => none
def fieldT (P : Program) (s : TypeId) (f : Nat) : Option (Nat × Nat × TypeId) :=
  match P.underlying s with
  | some (.struct fs) => match fs[f]? with
    | some fd => match sizeT P fd.type with
      | some n => if n = 0 then none else some (fd.offset, n, fd.type)
      | none => none
    | none => none
  | _ => none
def elemT (P : Program) (t : TypeId) : Option (Nat × TypeId) :=
  match P.underlying t with
  | some (.slice e) => match sizeT P e with
    | some n => if n = 0 then none else some (n, e)
    | none => none
  | _ => none
def scalarT (P : Program) (t : TypeId) : Bool :=
  match P.underlying t with
  | some (.int _) | some .bool | some .string => true
  | _ => false
def boolT (P : Program) (t : TypeId) : Bool :=
  match P.underlying t with
  | some .bool => true
  | _ => false
def kindsL (P : Program) : Nat → List Field → Option (List Nat)
  | _, [] => some []
  | k, f :: fs => if f.offset = k ∧ f.name ≠ "_" then match P.underlying f.type, kindsL P (k + 1) fs with
      | some (.int _), some ks => some (0 :: ks)
      | some .bool, some ks => some (1 :: ks)
      | some .string, some ks => some (2 :: ks)
      | _, _ => none
    else none
def kindsT (P : Program) (t : TypeId) : Option (List Nat) :=
  match P.underlying t with
  | some (.struct fs) => if P.stoodInHeld t = false ∧ P.eqGuardType P.depth t = false then kindsL P 0 fs.toList else none
  | _ => none
def buildT (P : Program) (t : TypeId) : List (Nat × Operand) → Option (List (Nat × Nat × Opd))
  | [] => some []
  | (i, x) :: rest => match fieldT P t i, opd x, buildT P t rest with
    | some (off, n, _), some u, some us => some ((off, n, u) :: us)
    | _, _, _ => none
def partsT : List (Nat × Operand) → Option (List (Nat × Opd))
  | [] => some []
  | (i, x) :: rest => match opd x, partsT rest with
    | some u, some us => some ((i, u) :: us)
    | _, _ => none
def optOpd : Option Operand → Option (Option Opd)
  | none => some none
  | some x => (opd x).map some
def sameOpd : Operand → Operand → Bool
  | .tmp a, .tmp b => a == b
  | .const (.int .i64 a), .const (.int .i64 b) => a == b
  | _, _ => false
def rowT : TypeDesc → Bool
  | .slice _ | .string => true
  | _ => false
def compOp (P : Program) (h : Nat → Nat × List Nat) (o : Oper) : Option TOp :=
  match o.op with
  | .move x | .assign x => (opd x).map .mov
  | .pick c a b => match opd c, opd a, opd b with
    | some c, some a, some b => some (.pick c a b)
    | _, _, _ => none
  | .binOp op t x y _ => match opd x, opd y with
    | some x, some y =>
      if aggT P t = some true then (match op, kindsT P t with
        | .eql, some ks => some (.eqs false ks x y)
        | .neq, some ks => some (.eqs true ks x y)
        | _, _ => none)
      else if scalarT P t then some (.bin (boolT P t) op x y) else none
    | _, _ => none
  | .unOp op _ x => (opd x).map (.un op)
  | .convert s t x => match P.underlying s, P.underlying t, opd x with
    | some (.int _), some (.int k), some x => some (.conv k x)
    | _, _, _ => none
  | .box t x => match sizeT P t, opd x with
    | some n, some x => if n = 0 then none else some (.box n x)
    | _, _ => none
  | .alloc t => (zeroT P t).map .alloc
  | .load t p => match sizeT P t, aggT P t, opd p with
    | some n, some ag, some p => if n = 0 then none else some (.load n ag p)
    | _, _, _ => none
  | .store t p x => match sizeT P t, opd p, opd x with
    | some n, some p, some x => if n = 0 then none else some (.store n p x)
    | _, _, _ => none
  | .fieldAddr s p f => match fieldT P s f, opd p with
    | some (off, _, _), some p => some (.faddr off p)
    | _, _ => none
  | .indexAddr t x i => match elemT P t, opd x, opd i with
    | some (n, _), some x, some i => some (.iaddr n x i)
    | _, _, _ => none
  | .field s x f => match fieldT P s f, opd x with
    | some (off, n, t), some x => (aggT P t).map fun ag => .field off n ag x
    | _, _ => none
  | .build t parts => match zeroT P t, buildT P t parts.toList, P.underlying t with
    | some z, some ps, some (.struct fs) => if fs.toList.all fun f => (sizeT P f.type).isSome then some (.build z ps) else none
    | _, _, _ => none
  | .buildSlice t len parts => match elemT P t, partsT parts.toList with
    | some (n, e), some ps => match zeroT P e with
      | some z => if len * n ≤ 16777216 ∧ z.length = n then (if (h (o.dst.getD 0)).1 = 4 then some (.lit n (z.map view1) len ps) else some (.bslice n (z.map view1) len ps)) else none
      | none => none
    | _, _ => none
  | .makeSlice t l c => match elemT P t, opd l with
    | some (n, e), some l' => match zeroT P e, P.info? e with
      | some z, some i => if sameOpd l c ∧ z.length = n ∧ i.bytes ≤ 4096 then some (.mk n (z.map view1) l') else none
      | _, _ => none
    | _, _ => none
  | .slice t x lo hi mx => match opd x, optOpd lo, optOpd hi, optOpd mx with
    | some x, some lo, some hi, some mx => match P.underlying t with
      | some (.slice _) => (elemT P t).map fun p => .slice p.1 false x lo hi mx
      | some .string => if mx.isNone then some (.slice 0 true x lo hi mx) else none
      | _ => none
    | _, _, _, _ => none
  | .call { callee := .builtin b, args, argTypes } => match b, opds args.toList with
    | .len, some [x] => match (argTypes[0]?).bind P.underlying with
      | some (.slice _) => some (.len false x)
      | some .string => some (.len true x)
      | _ => none
    | .append, some [s, x] => match (argTypes[0]?).bind (elemT P), (argTypes[1]?).bind P.underlying with
      | some (n, e), some d => match P.info? e, zeroT P e with
        | some i, some z => if i.bytes ≤ 4096 ∧ z.length = n ∧ rowT d = true then some (.app n ((h (o.dst.getD 0)).1 == 1) s x) else none
        | _, _ => none
      | _, _ => none
    | .max, some [x, y] => some (.mxn true x y)
    | .min, some [x, y] => some (.mxn false x y)
    | _, _ => none
  | .call { callee := .value (.func f), args, .. } => (opds args.toList).map (.call f (h (o.dst.getD 0)).1 (h (o.dst.getD 0)).2)
  | .index t x i => match P.underlying t, opd x, opd i with
    | some .string, some x, some i => some (.index x i)
    | _, _, _ => none
  | .extract x i => (opd x).map (.extract · i)
  | _ => none
def Opd.tmps : Opd → List Nat
  | .t n => [n]
  | .c _ => []
def ops2 (xs : List Opd) : List Nat := xs.flatMap Opd.tmps
def TOp.opds : TOp → List Opd
  | .mov x | .un _ x | .conv _ x | .box _ x | .load _ _ x | .faddr _ x | .field _ _ _ x | .mk _ _ x | .len _ x | .extract x _ => [x]
  | .pick c a b => [c, a, b]
  | .bin _ _ x y | .eqs _ _ x y | .store _ x y | .iaddr _ x y | .app _ _ x y | .mxn _ x y | .index x y => [x, y]
  | .alloc _ => []
  | .build _ ps => ps.map (·.2.2)
  | .bslice _ _ _ ps | .lit _ _ _ ps => ps.map (·.2)
  | .slice _ _ x lo hi mx => x :: (lo.toList ++ hi.toList ++ mx.toList)
  | .call _ _ _ xs => xs
def TStep.reads (s : TStep) : List Nat := ops2 s.op.opds ++ (match s.guard with | some (g, _) => [g] | none => [])
def TOp.quiet : TOp → Bool
  | .mov _ | .pick .. | .bin .. | .eqs .. | .un .. | .conv .. | .load .. | .faddr .. | .iaddr .. | .field .. | .build .. | .len .. | .mxn .. | .index .. | .extract .. => true
  | _ => false
def TStep.fresh (s : TStep) : Bool := match s.op, s.vk with
  | .box .., _ | .alloc _, _ | .mk .., _ | .lit .., _ | .bslice .., .none => true
  | _, _ => false
def TOp.makes : TOp → Bool
  | .box .. | .alloc _ | .mk .. | .lit .. | .bslice .. | .app .. => true
  | .call _ mode _ _ => mode != 0
  | _ => false
def TOp.isStore : TOp → Bool
  | .store .. => true
  | _ => false
def TOp.isApp : TOp → Bool
  | .app .. => true
  | .call _ mode _ _ => mode == 2
  | _ => false
def apartT (s t : TStep) : Bool :=
  (match s.dst with | some d => !t.reads.contains d && t.dst != some d | none => true) && (match t.dst with | some d => !s.reads.contains d | none => true)
def blindTo (s t : TStep) : Bool := match s.vk with
  | .none => true
  | .box b => (!t.op.makes || t.dst != some b) && (!t.op.isStore || (match t.vk with | .box b' => b != b' | _ => false))
  | .rd forb => (!t.op.makes || (match t.dst with | some d => forb.contains d | none => false)) && (!t.op.isStore || (match t.vk with | .box _ => true | _ => false)) && !t.op.isApp
  | _ => false
def notMade (d : Nat) : Vk → Bool
  | .none => true
  | .box b => b != d
  | .rd forb => forb.contains d
  | .fb forb => forb.contains d
  | .full => false
def formOk (s t : TStep) : Bool := match t.op with
  | .call _ mode _ _ => t.dst.isSome && (match t.vk with | .rd _ => mode != 2 | .fb _ => mode == 2 | _ => false)
  | .app .. => t.dst.isSome && (match t.vk with | .fb _ => true | _ => false)
  | .store .. => t.dst.isNone && (match t.vk with | .box _ => true | .full => s.op.quiet && (match s.vk with | .none => true | _ => false) | _ => false)
  | .bslice .. | .slice .. => t.dst.isSome && (match t.vk with | .none | .rd _ => true | _ => false)
  | _ => t.dst.isSome
def okLight (s t : TStep) : Bool :=
  apartT s t && s.dst.isSome && (s.op.quiet || s.fresh) && blindTo s t && (s.op.quiet || (match s.dst with | some d => notMade d t.vk | none => false)) && formOk s t
def okPair (s t : TStep) : Bool := okLight s t || okLight t s
def befs : List Oper → List (List Nat) → List (List Nat)
  | [], acc => acc
  | o :: rest, acc => befs rest (acc ++ [(o.after.toList.flatMap fun e => if Region.binds .any e then e.on :: acc.getD e.on [] else []).eraseDups])
def orderOk (bef : List (List Nat)) (steps : List TStep) : Bool :=
  steps.zipIdx.all fun p => steps.zipIdx.all fun q => !(q.2 < p.2) || (bef.getD p.2 []).contains q.2 || okPair q.1 p.1
def baseOf (ops : List Oper) : Nat → Nat → Option Nat
  | 0, _ => none
  | n + 1, t => match ops.find? (fun o => o.dst == some t) with
    | none => some t
    | some o => match o.op with
      | .fieldAddr _ (.tmp u) _ => baseOf ops n u
      | .alloc _ | .box .. => some t
      | _ => none
def besides (bef : List (List Nat)) (l : List (Option Nat × TOp × Option (Nat × Bool))) (i : Nat) : List Nat :=
  l.zipIdx.filterMap fun p => if p.1.2.1.makes && p.2 != i && !(bef.getD i []).contains p.2 && !(bef.getD p.2 []).contains i then p.1.1 else none
def vkOf (ops : List Oper) (forb : List Nat) (m : Nat) (t : TOp) : Vk :=
  match t with
  | .load _ _ (.t p) => match baseOf ops ops.length p with
    | some b => .box b
    | none => .rd forb
  | .store _ (.t p) _ => match baseOf ops ops.length p with
    | some b => .box b
    | none => .full
  | .call _ mode _ _ => if mode == 2 then .fb forb else .rd forb
  | .app .. => .fb forb
  | .bslice .. | .slice .. => if m == 3 then .rd forb else .none
  | _ => .none
def stepsOf (P : Program) (h : Nat → Nat × List Nat) (ops : Array Oper) : List Oper → Option (List (Option Nat × TOp × Option (Nat × Bool)))
  | [] => some []
  | o :: rest => match compOp P h o, (match o.guard with | none => some none | some (j, b) => ((ops[j]?).bind (·.dst)).map fun t => some (t, b)), stepsOf P h ops rest with
    | some t, some g, some r => some ((o.dst, t, g) :: r)
    | _, _, _ => none
def slotOk (d : Option Nat) (n : Nat) (t : TOp) : Bool :=
  match d with
  | some d => d < n && !t.isStore
  | none => t.isStore
def compReg (P : Program) (h : Nat → Nat × List Nat) (n : Nat) (ops : Array Oper) (draw : Bool) : Option (List TStep) :=
  match stepsOf P h ops ops.toList with
  | none => none
  | some l =>
    if l.all (fun p => slotOk p.1 n p.2.1) then
      if draw then
        let bef := befs ops.toList []
        let steps := l.zipIdx.map fun p => { dst := p.1.1, op := p.1.2.1, guard := p.1.2.2, vk := vkOf ops.toList (besides bef l p.2) (h (p.1.1.getD 0)).1 p.1.2.1 : TStep }
        if (ops.toList.zipIdx.all fun p => p.1.after.all fun e => !Region.binds .any e || e.on < p.2) && orderOk (befs ops.toList []) steps then some steps else none
      else some (l.map fun p => { dst := p.1, op := p.2.1, guard := p.2.2, vk := .full : TStep })
    else none
def compC (P : Program) (h : Nat → Nat × List Nat) (n : Nat) : Code → Option TCode
  | .skip => some .skip
  | .region _ ops draw => (compReg P h n ops draw).map .reg
  | .seq a b => match compC P h n a, compC P h n b with
    | some a, some b => some (.seq a b)
    | _, _ => none
  | .cond x a b => match opd x, compC P h n a, compC P h n b with
    | some x, some a, some b => some (.cond x a b)
    | _, _, _ => none
  | .block id a => (compC P h n a).map (.block id)
  | .loop a => (compC P h n a).map .loop
  | .exit id => some (.exit id)
  | .ret => some .ret
  | _ => none
def compRes (P : Program) (n : Nat) : List ResultVar → Option (List TRes)
  | [] => some []
  | .tmp t :: rs => match compRes P n rs with
    | some r => if t < n then some (.tmp t :: r) else none
    | none => none
  | .cell a t :: rs => match sizeT P t, aggT P t, compRes P n rs with
    | some k, some ag, some r => if a < n ∧ k ≠ 0 then some (.cell a k ag :: r) else none
    | _, _, _ => none
def comp (P : Program) (h : Nat → Nat × List Nat) (f : Func) : Option TFunc :=
  match f.body with
  | some c => match compC P h f.ntmps c, compRes P f.ntmps f.results.toList with
    | some b, some r => if f.nfree = 0 ∧ f.params.size ≤ f.ntmps then some { np := f.params.size, nt := f.ntmps, res := r, body := b } else none
    | _, _ => none
  | none => none
def hintOf (l : List (Nat × Nat × List Nat)) (s : Nat) : Nat × List Nat :=
  match l.find? (fun p => p.1 == s) with
  | some p => p.2
  | none => (0, [])
end Go.TM
end
section
namespace Go.TM
set_option linter.unusedVariables false
set_option linter.unusedSimpArgs false
inductive All2 {α β : Type} (R : α → β → Prop) : List α → List β → Prop where
  | nil : All2 R [] []
  | cons {a b as bs} : R a b → All2 R as bs → All2 R (a :: as) (b :: bs)
namespace All2
variable {α β : Type} {R S : α → β → Prop}
theorem length {as : List α} {bs : List β} (h : All2 R as bs) : as.length = bs.length := by
  induction h with
  | nil => rfl
  | cons _ _ ih => simp [ih]
theorem imp {as : List α} {bs : List β} (h : All2 R as bs) (f : ∀ a b, R a b → S a b) : All2 S as bs := by
  induction h with
  | nil => exact .nil
  | cons h _ ih => exact .cons (f _ _ h) ih
theorem get {as : List α} {bs : List β} (h : All2 R as bs) : ∀ (i : Nat) (a : α) (b : β), as[i]? = some a → bs[i]? = some b → R a b := by
  induction h with
  | nil => intro i a b h; simp at h
  | cons h _ ih =>
    intro i a b ha hb
    cases i with
    | zero => simp at ha hb; subst ha; subst hb; exact h
    | succ i => simp at ha hb; exact ih i a b ha hb
theorem get_r {as : List α} {bs : List β} (h : All2 R as bs) (i : Nat) (b : β) (hb : bs[i]? = some b) : ∃ a, as[i]? = some a ∧ R a b := by
  obtain ⟨hi, _⟩ := List.getElem?_eq_some_iff.1 hb
  have hi' : i < as.length := by rw [h.length]; exact hi
  exact ⟨as[i], by simp [hi'], h.get i _ b (by simp [hi']) hb⟩
theorem of_get {as : List α} {bs : List β} (hl : as.length = bs.length) (h : ∀ (i : Nat) (a : α) (b : β), as[i]? = some a → bs[i]? = some b → R a b) : All2 R as bs := by
  induction as generalizing bs with
  | nil => cases bs with
    | nil => exact .nil
    | cons => simp at hl
  | cons a as ih => cases bs with
    | nil => simp at hl
    | cons b bs => exact .cons (h 0 a b rfl rfl) (ih (by simpa using hl) (fun i x y hx hy => h (i + 1) x y (by simpa using hx) (by simpa using hy)))
theorem append {as as' : List α} {bs bs' : List β} (h : All2 R as bs) (h' : All2 R as' bs') : All2 R (as ++ as') (bs ++ bs') := by
  induction h with
  | nil => exact h'
  | cons h _ ih => exact .cons h ih
theorem take {as : List α} {bs : List β} (h : All2 R as bs) : ∀ n : Nat, All2 R (as.take n) (bs.take n) := by
  induction h with
  | nil => intro n; simp; exact .nil
  | cons h _ ih => intro n; cases n with
    | zero => simp; exact .nil
    | succ n => simp; exact .cons h (ih n)
theorem drop {as : List α} {bs : List β} (h : All2 R as bs) : ∀ n : Nat, All2 R (as.drop n) (bs.drop n) := by
  induction h with
  | nil => intro n; simp; exact .nil
  | cons h h' ih => intro n; cases n with
    | zero => simp; exact .cons h h'
    | succ n => simp; exact ih n
end All2
inductive CT (I : Nat → Nat → Prop) (w : World) : Value → TV → Prop where
  | int (k : IntKind) (n : Int) : CT I w (.int k n) (.int k n)
  | bool (b : Bool) : CT I w (.bool b) (.bool b)
  | str (s : ByteArray) : CT I w (.string s) (.str s)
  | sl0 (a : Option Addr) (cap : Nat) : CT I w (.slice a 0 cap) (.sl [])
  | sl (b off cap e : Nat) (xs : List (List TV)) (g : Nat → Nat → Value) (hne : xs ≠ []) (hcap : xs.length ≤ cap) (he : 0 < e) (hx : ∀ x ∈ xs, x.length = e)
      (hc : ∀ i j, i < xs.length → j < e → I b (off + (i * e + j)) ∧ w.cell? ⟨b, off + (i * e + j), none⟩ = some (g i j))
      (ht : ∀ (i j : Nat) (x : List TV) (c : TV), xs[i]? = some x → x[j]? = some c → CT I w (g i j) c) :
      CT I w (.slice (some ⟨b, off, none⟩) xs.length cap) (.sl xs)
theorem CT.move {I I' : Nat → Nat → Prop} {w w' : World} {v : Value} {t : TV} (h : CT I w v t) (hI : ∀ b o, I b o → I' b o) (hw : ∀ b o, I b o → w'.cell? ⟨b, o, none⟩ = w.cell? ⟨b, o, none⟩) : CT I' w' v t := by
  induction h with
  | int k n => exact .int k n
  | bool b => exact .bool b
  | str s => exact .str s
  | sl0 a cap => exact .sl0 a cap
  | sl b off cap e xs g hne hcap he hx hc ht ih =>
    exact .sl b off cap e xs g hne hcap he hx (fun i j hi hj => ⟨hI _ _ (hc i j hi hj).1, (hw _ _ (hc i j hi hj).1).trans (hc i j hi hj).2⟩) ih
theorem CT.one {I : Nat → Nat → Prop} {w : World} {v : Value} {t : TV} (h : CT I w v t) : v.oneCell' = true := by
  cases h <;> rfl
structure Loc where
  blk : Nat
  cap : Nat
  esz : Nat
def CE (I : Nat → Nat → Prop) (w : World) (ρ : Nat → Nat → Loc) (cnt : Nat → Nat) (v : Value) : TV → Prop
  | .undef => True
  | .nils => v = .slice none 0 0
  | .hs k g e n => g < cnt k ∧ (ρ k g).esz = e ∧ v = .slice (some ⟨(ρ k g).blk, 0, none⟩) n (ρ k g).cap ∧ n ≤ (ρ k g).cap
  | .ptr k g i j => g < cnt k ∧ v = .pointer (some ⟨(ρ k g).blk, i * (ρ k g).esz + j, none⟩)
  | .rptr cs j => ∃ b off, v = .pointer (some ⟨b, off + j, none⟩) ∧ ∀ i c, cs[i]? = some c → I b (off + i) ∧ ∃ u, w.cell? ⟨b, off + i, none⟩ = some u ∧ CT I w u c
  | .agg _ | .tup _ | .own _ _ => False
  | .int k n => CT I w v (.int k n)
  | .bool b => CT I w v (.bool b)
  | .str s => CT I w v (.str s)
  | .sl xs => CT I w v (.sl xs)
def VA (I : Nat → Nat → Prop) (w : World) (ρ : Nat → Nat → Loc) (cnt : Nat → Nat) (v : Value) : TV → Prop
  | .agg cs => ∃ vs : Array Value, v = .agg vs ∧ All2 (CE I w ρ cnt) vs.toList cs ∧ ∀ u ∈ vs.toList, u.oneCell' = true
  | t => CE I w ρ cnt v t
def VE (I : Nat → Nat → Prop) (w : World) (ρ : Nat → Nat → Loc) (cnt : Nat → Nat) (v : Value) : TV → Prop
  | .tup ts => ∃ vs : Array Value, v = .tuple vs ∧ All2 (VA I w ρ cnt) vs.toList ts
  | t => VA I w ρ cnt v t
def TA (I : Nat → Nat → Prop) (w : World) (v : Value) : TV → Prop
  | .agg cs => ∃ vs : Array Value, v = .agg vs ∧ All2 (CT I w) vs.toList cs
  | t => CT I w v t
structure Mv (I I' : Nat → Nat → Prop) (w w' : World) (ρ ρ' : Nat → Nat → Loc) (cnt cnt' : Nat → Nat) : Prop where
  imm : ∀ b o, I b o → I' b o
  mem : ∀ b o, I b o → w'.cell? ⟨b, o, none⟩ = w.cell? ⟨b, o, none⟩
  loc : ∀ k g, g < cnt k → ρ' k g = ρ k g
  num : ∀ k, cnt k ≤ cnt' k
section
variable {I I' : Nat → Nat → Prop} {w w' : World} {ρ ρ' : Nat → Nat → Loc} {cnt cnt' : Nat → Nat} {v : Value} {t : TV}
theorem Mv.ct (m : Mv I I' w w' ρ ρ' cnt cnt') (h : CT I w v t) : CT I' w' v t := h.move m.imm m.mem
theorem Mv.ce (m : Mv I I' w w' ρ ρ' cnt cnt') (h : CE I w ρ cnt v t) : CE I' w' ρ' cnt' v t := by
  cases t <;> simp only [CE] at h ⊢
  case hs k g e n => exact ⟨Nat.lt_of_lt_of_le h.1 (m.num k), by rw [m.loc k g h.1]; exact h.2.1, by rw [m.loc k g h.1]; exact h.2.2⟩
  case ptr k g i j => exact ⟨Nat.lt_of_lt_of_le h.1 (m.num k), by rw [m.loc k g h.1]; exact h.2⟩
  case rptr cs j =>
    obtain ⟨b, off, hv, hc⟩ := h
    exact ⟨b, off, hv, fun i c hi => let ⟨h1, u, h2, h3⟩ := hc i c hi; ⟨m.imm _ _ h1, u, (m.mem _ _ h1).trans h2, m.ct h3⟩⟩
  all_goals first | exact m.ct h | exact h
theorem Mv.va (m : Mv I I' w w' ρ ρ' cnt cnt') (h : VA I w ρ cnt v t) : VA I' w' ρ' cnt' v t := by
  cases t <;> simp only [VA] at h ⊢
  case agg cs => exact let ⟨vs, hv, hc, h1⟩ := h; ⟨vs, hv, hc.imp fun _ _ => m.ce, h1⟩
  all_goals exact m.ce h
theorem Mv.ve (m : Mv I I' w w' ρ ρ' cnt cnt') (h : VE I w ρ cnt v t) : VE I' w' ρ' cnt' v t := by
  cases t <;> simp only [VE] at h ⊢
  case tup ts => exact let ⟨vs, hv, hc⟩ := h; ⟨vs, hv, hc.imp fun _ _ => m.va⟩
  all_goals exact m.va h
theorem Mv.refl : Mv I I w w ρ ρ cnt cnt := ⟨fun _ _ h => h, fun _ _ _ => rfl, fun _ _ _ => rfl, fun _ => Nat.le_refl _⟩
theorem CE.of_ct (h : CT I w v t) : CE I w ρ cnt v t := by cases h <;> exact by first | exact .int _ _ | exact .bool _ | exact .str _ | exact .sl0 _ _ | exact .sl _ _ _ _ _ _ ‹_› ‹_› ‹_› ‹_› ‹_› ‹_›
theorem VA.of_ta (h : TA I w v t) : VA I w ρ cnt v t := by
  cases t <;> simp only [TA] at h
  case agg cs =>
    obtain ⟨vs, hv, hc⟩ := h
    refine ⟨vs, hv, hc.imp fun _ _ => CE.of_ct, ?_⟩
    clear hv
    generalize vs.toList = l at hc
    induction hc with
    | nil => simp
    | cons h _ ih => intro u hu; rcases List.mem_cons.1 hu with rfl | hu; exact h.one; exact ih u hu
  all_goals exact CE.of_ct (ρ := ρ) (cnt := cnt) h
theorem VE.of_va (h : VA I w ρ cnt v t) : VE I w ρ cnt v t := by
  cases t
  case tup => simp [VA, CE] at h
  all_goals exact h
theorem VE.undef : VE I w ρ cnt v .undef := by simp [VE, VA, CE]
theorem CE.one (h : CE I w ρ cnt v t) (ht : t ≠ .undef) : v.oneCell' = true := by
  cases t <;> simp only [CE] at h
  case undef => exact absurd rfl ht
  case nils => rw [h]; rfl
  case hs => rw [h.2.2.1]; rfl
  case ptr => rw [h.2]; rfl
  case rptr => obtain ⟨b, off, hv, _⟩ := h; rw [hv]; rfl
  all_goals exact h.one
end
structure OR (I : Nat → Nat → Prop) (w : World) (ρ : Nat → Nat → Loc) (cnt : Nat → Nat) (l : Loc) (o : Obj) : Prop where
  esz : l.esz = o.esz
  pos : 0 < o.esz
  len : ∀ x ∈ o.cont, x.length = o.esz
  cap : o.cont.length ≤ l.cap
  lies : ∃ cells ty, w.heap[l.blk]? = some (.cells cells ty (0, 0)) ∧ cells.size = l.cap * o.esz ∧
    (∀ u ∈ cells.toList, u.oneCell' = true) ∧
    ∀ (i j : Nat) (x : List TV) (c : TV), o.cont[i]? = some x → x[j]? = some c → ∃ u, cells[i * o.esz + j]? = some u ∧ (if o.box then CE I w ρ cnt u c else CT I w u c)
structure Sep (I : Nat → Nat → Prop) (ρ : Nat → Nat → Loc) (ob : Nat → Nat → Option Obj) : Prop where
  box : ∀ k g o, ob k g = some o → o.box = true → o.solo = true ∧ o.tip = false
  soloI : ∀ k g o, ob k g = some o → o.solo = true → ∀ off, ¬ I (ρ k g).blk off
  solo : ∀ k g o, ob k g = some o → o.solo = true → ∀ k' g' o', ob k' g' = some o' → (ρ k' g').blk = (ρ k g).blk → k' = k ∧ g' = g
  tipI : ∀ k g o, ob k g = some o → o.tip = true → ∀ off, o.cont.length * o.esz ≤ off → ¬ I (ρ k g).blk off
  tip : ∀ k g o, ob k g = some o → o.tip = true → ∀ k' g' o', ob k' g' = some o' → (ρ k' g').blk = (ρ k g).blk → (k' = k ∧ g' = g) ∨ (o'.tip = false ∧ o'.cont.length * o'.esz ≤ o.cont.length * o.esz)
structure Fr (w0 w : World) (M : Nat → Prop) : Prop where
  os : w.os = w0.os
  tape : w.tape = w0.tape
  output : w.output = w0.output
  size : w0.heap.size ≤ w.heap.size
  block : ∀ b, b < w0.heap.size → ¬ M b → w.heap[b]? = w0.heap[b]?
structure Ctx where
  P : Program
  n : Nat
  w0 : World
  I0 : Nat → Nat → Prop
  lent : Nat → Option Loc
def Ctx.M (C : Ctx) (b : Nat) : Prop := ∃ i l, C.lent i = some l ∧ l.blk = b
structure Rel (C : Ctx) (ρ : Nat → Nat → Loc) (I : Nat → Nat → Prop) (w : World) (a : Act) (st : St) : Prop where
  defers : a.defers = []
  size : a.tmps.size = C.n
  fr : Fr C.w0 w C.M
  I0 : ∀ b o, C.I0 b o → I b o
  Iin : ∀ b o, I b o → b < w.heap.size
  Isub : ∀ b o, I b o → C.I0 b o ∨ C.w0.heap.size ≤ b ∨ C.M b
  env : ∀ s, VE I w ρ st.cnt (a.tmps.getD s undef) (st.env s)
  obj : ∀ k g o, st.obj k g = some o → OR I w ρ st.cnt (ρ k g) o ∧ (C.w0.heap.size ≤ (ρ k g).blk ∨ C.M (ρ k g).blk)
  sep : Sep I ρ st.obj
  lent : ∀ i l, C.lent i = some l → ρ i 0 = l ∧ 0 < st.cnt i
end Go.TM
end
section
namespace Go.TM
set_option linter.unusedVariables false
set_option linter.unusedSimpArgs false
@[simp] theorem upd_same {α : Type} (f : Nat → α) (i : Nat) (x : α) : upd f i x i = x := by simp [upd]
theorem upd_ne {α : Type} (f : Nat → α) {i j : Nat} (x : α) (h : j ≠ i) : upd f i x j = f j := by simp [upd, h]
theorem updO_same (f : Nat → Nat → Option Obj) (k g : Nat) (o : Option Obj) : updO f k g o k g = o := by simp [updO]
theorem updO_ne (f : Nat → Nat → Option Obj) {k g k' g' : Nat} (o : Option Obj) (h : ¬ (k' = k ∧ g' = g)) : updO f k g o k' g' = f k' g' := by simp [updO, h]
theorem getD_setIfInBounds (a : Array Value) (d : Nat) (v : Value) (s : Nat) (h : d < a.size) : (a.setIfInBounds d v).getD s undef = if s = d then v else a.getD s undef := by
  simp only [Array.getD_eq_getD_getElem?, Array.getElem?_setIfInBounds]
  by_cases e : s = d
  · subst e; simp [h]
  · have : ¬ d = s := fun x => e x.symm
    simp [e, this]
section
variable {C : Ctx} {ρ : Nat → Nat → Loc} {I : Nat → Nat → Prop} {w : World} {a : Act} {st : St}
theorem Rel.put (h : Rel C ρ I w a st) {d : Nat} {v : Value} {t : TV} (hd : d < C.n) (hv : VE I w ρ st.cnt v t) : Rel C ρ I w (a.put (some d) v) { st with env := upd st.env d t } :=
  { defers := h.defers
    size := by simp [Act.put, h.size]
    fr := h.fr, I0 := h.I0, Iin := h.Iin, Isub := h.Isub
    env := fun s => by
      simp only [Act.put]
      rw [getD_setIfInBounds _ _ _ _ (by rw [h.size]; exact hd)]
      by_cases e : s = d
      · subst e; simp [hv]
      · simp only [if_neg e, upd_ne _ _ e]; exact h.env s
    obj := h.obj, sep := h.sep, lent := h.lent }
theorem OR.mv {I' : Nat → Nat → Prop} {w' : World} {ρ' : Nat → Nat → Loc} {cnt cnt' : Nat → Nat} {l : Loc} {o : Obj} (h : OR I w ρ cnt l o) (m : Mv I I' w w' ρ ρ' cnt cnt') (hb : w'.heap[l.blk]? = w.heap[l.blk]?) : OR I' w' ρ' cnt' l o :=
  { esz := h.esz, pos := h.pos, len := h.len, cap := h.cap
    lies := by
      obtain ⟨cells, ty, h1, h2, h4, h3⟩ := h.lies
      refine ⟨cells, ty, hb.trans h1, h2, h4, fun i j x c hx hc => ?_⟩
      obtain ⟨u, hu, hr⟩ := h3 i j x c hx hc
      refine ⟨u, hu, ?_⟩
      split
      · rename_i hb; rw [if_pos hb] at hr; exact m.ce hr
      · rename_i hb; rw [if_neg hb] at hr; exact m.ct hr }
theorem OR.blk_lt {cnt : Nat → Nat} {l : Loc} {o : Obj} (h : OR I w ρ cnt l o) : l.blk < w.heap.size := by
  obtain ⟨cells, ty, h1, _⟩ := h.lies
  rcases Nat.lt_or_ge l.blk w.heap.size with h' | h'
  · exact h'
  · simp [Array.getElem?_eq_none h'] at h1
theorem Rel.grow (h : Rel C ρ I w a st) {w' : World} (hs : w.heap.size ≤ w'.heap.size) (hb : ∀ b, b < w.heap.size → w'.heap[b]? = w.heap[b]?) (ho : w'.os = w.os) (ht : w'.tape = w.tape) (hp : w'.output = w.output) : Rel C ρ I w' a st :=
  have m : Mv I I w w' ρ ρ st.cnt st.cnt := ⟨fun _ _ h => h, fun b o hi => World.cell?_of_block (hb b (h.Iin b o hi)), fun _ _ _ => rfl, fun _ => Nat.le_refl _⟩
  { defers := h.defers, size := h.size
    fr := ⟨ho.trans h.fr.os, ht.trans h.fr.tape, hp.trans h.fr.output, Nat.le_trans h.fr.size hs, fun b hlt hm => (hb b (Nat.lt_of_lt_of_le hlt h.fr.size)).trans (h.fr.block b hlt hm)⟩
    I0 := h.I0, Iin := fun b o hi => Nat.lt_of_lt_of_le (h.Iin b o hi) hs, Isub := h.Isub
    env := fun s => m.ve (h.env s)
    obj := fun k g o hk => ⟨(h.obj k g o hk).1.mv m (hb _ (h.obj k g o hk).1.blk_lt), (h.obj k g o hk).2⟩
    sep := h.sep, lent := h.lent }
theorem Rel.drawn (h : Rel C ρ I w a st) (n : Nat) : Rel C ρ I { w with drawn := n } a st := h.grow (Nat.le_refl _) (fun _ _ => rfl) rfl rfl rfl
theorem Rel.add (h : Rel C ρ I w a st) {d : Nat} {l : Loc} {o : Obj} (ho : OR I w ρ st.cnt l o) (hbase : C.w0.heap.size ≤ l.blk) (hI : ∀ off, ¬ I l.blk off)
    (hne : ∀ k g o', st.obj k g = some o' → (ρ k g).blk ≠ l.blk) (hbox : o.box = true → o.solo = true ∧ o.tip = false) :
    Rel C (fun k g => if k = d ∧ g = st.cnt d then l else ρ k g) I w a { st with obj := updO st.obj d (st.cnt d) (some o), cnt := upd st.cnt d (st.cnt d + 1) } := by
  have m : Mv I I w w ρ (fun k g => if k = d ∧ g = st.cnt d then l else ρ k g) st.cnt (upd st.cnt d (st.cnt d + 1)) :=
    ⟨fun _ _ h => h, fun _ _ _ => rfl, fun k g hg => by
      have : ¬ (k = d ∧ g = st.cnt d) := by rintro ⟨rfl, rfl⟩; omega
      simp only [if_neg this], fun k => by
      by_cases e : k = d
      · subst e; simp
      · simp [upd_ne _ _ e]⟩
  have hob : ∀ k g o', updO st.obj d (st.cnt d) (some o) k g = some o' → (k = d ∧ g = st.cnt d ∧ o' = o) ∨ (¬ (k = d ∧ g = st.cnt d) ∧ st.obj k g = some o') := fun k g o' hk => by
    by_cases e : k = d ∧ g = st.cnt d
    · obtain ⟨rfl, rfl⟩ := e; rw [updO_same] at hk; exact .inl ⟨rfl, rfl, (Option.some.inj hk).symm⟩
    · rw [updO_ne _ _ e] at hk; exact .inr ⟨e, hk⟩
  have hsep := h.sep
  exact {
    defers := h.defers, size := h.size, fr := h.fr, I0 := h.I0, Iin := h.Iin, Isub := h.Isub
    env := fun s => m.ve (h.env s)
    obj := fun k g o' hk => by
      rcases hob k g o' hk with ⟨rfl, rfl, rfl⟩ | ⟨e, hk⟩
      · simp only [and_self, if_true]; exact ⟨ho.mv m rfl, .inl hbase⟩
      · simp only [if_neg e]; exact ⟨(h.obj k g o' hk).1.mv m rfl, (h.obj k g o' hk).2⟩
    sep := {
      box := fun k g o' hk hb => by
        rcases hob k g o' hk with ⟨rfl, rfl, rfl⟩ | ⟨e, hk⟩
        · exact hbox hb
        · exact hsep.box k g o' hk hb
      soloI := fun k g o' hk hs off => by
        rcases hob k g o' hk with ⟨rfl, rfl, rfl⟩ | ⟨e, hk⟩
        · simp only [and_self, if_true]; exact hI off
        · simp only [if_neg e]; exact hsep.soloI k g o' hk hs off
      solo := fun k g o' hk hs k' g' o'' hk' hb => by
        rcases hob k g o' hk with ⟨rfl, rfl, rfl⟩ | ⟨e, hk2⟩ <;> rcases hob k' g' o'' hk' with ⟨rfl, rfl, rfl⟩ | ⟨e', hk2'⟩
        · exact ⟨rfl, rfl⟩
        · simp only [and_self, if_true, if_neg e'] at hb; exact absurd hb (hne _ _ _ hk2')
        · simp only [and_self, if_true, if_neg e] at hb; exact absurd hb.symm (hne _ _ _ hk2)
        · simp only [if_neg e, if_neg e'] at hb; exact hsep.solo k g o' hk2 hs k' g' o'' hk2' hb
      tipI := fun k g o' hk hs off ho => by
        rcases hob k g o' hk with ⟨rfl, rfl, rfl⟩ | ⟨e, hk⟩
        · simp only [and_self, if_true]; exact hI off
        · simp only [if_neg e]; exact hsep.tipI k g o' hk hs off ho
      tip := fun k g o' hk hs k' g' o'' hk' hb => by
        rcases hob k g o' hk with ⟨rfl, rfl, rfl⟩ | ⟨e, hk2⟩ <;> rcases hob k' g' o'' hk' with ⟨rfl, rfl, rfl⟩ | ⟨e', hk2'⟩
        · exact .inl ⟨rfl, rfl⟩
        · simp only [and_self, if_true, if_neg e'] at hb; exact absurd hb (hne _ _ _ hk2')
        · simp only [and_self, if_true, if_neg e] at hb; exact absurd hb.symm (hne _ _ _ hk2)
        · simp only [if_neg e, if_neg e'] at hb; exact hsep.tip k g o' hk2 hs k' g' o'' hk2' hb }
    lent := fun i l' hl => by
      obtain ⟨h1, h2⟩ := h.lent i l' hl
      have e : ¬ (i = d ∧ 0 = st.cnt d) := by rintro ⟨rfl, e⟩; omega
      simp only [if_neg e]
      exact ⟨h1, Nat.lt_of_lt_of_le h2 (m.num i)⟩ }
theorem Rel.flags (h : Rel C ρ I w a st) {ob : Nat → Nat → Option Obj} (hob : ∀ k g o', ob k g = some o' → ∃ o, st.obj k g = some o ∧ o'.cont = o.cont ∧ o'.esz = o.esz ∧ o'.box = o.box ∧ (o'.solo = true → o.solo = true) ∧ (o'.tip = true → o.tip = true) ∧ (o.box = true → o' = o)) :
    Rel C ρ I w a { st with obj := ob } := by
  have hsep := h.sep
  exact {
    defers := h.defers, size := h.size, fr := h.fr, I0 := h.I0, Iin := h.Iin, Isub := h.Isub, env := h.env
    obj := fun k g o' hk => by
      obtain ⟨o, h1, h2, h3, h4, _⟩ := hob k g o' hk
      obtain ⟨p, q⟩ := h.obj k g o h1
      refine ⟨⟨p.esz.trans h3.symm, by rw [h3]; exact p.pos, by rw [h2, h3]; exact p.len, by rw [h2]; exact p.cap, ?_⟩, q⟩
      have := p.lies
      rw [h2, h3, h4]
      exact this
    sep := {
      box := fun k g o' hk hb => by
        obtain ⟨o, h1, h2, h3, h4, h5, h6, h7⟩ := hob k g o' hk
        rw [h4] at hb
        rw [h7 hb]
        exact hsep.box k g o h1 hb
      soloI := fun k g o' hk hs => by
        obtain ⟨o, h1, h2, h3, h4, h5, h6, h7⟩ := hob k g o' hk
        exact hsep.soloI k g o h1 (h5 hs)
      solo := fun k g o' hk hs k' g' o'' hk' hb => by
        obtain ⟨o, h1, h2, h3, h4, h5, h6, h7⟩ := hob k g o' hk
        obtain ⟨p, p1, _⟩ := hob k' g' o'' hk'
        exact hsep.solo k g o h1 (h5 hs) k' g' p p1 hb
      tipI := fun k g o' hk hs off ho => by
        obtain ⟨o, h1, h2, h3, h4, h5, h6, h7⟩ := hob k g o' hk
        exact hsep.tipI k g o h1 (h6 hs) off (by rw [← h2, ← h3]; exact ho)
      tip := fun k g o' hk hs k' g' o'' hk' hb => by
        obtain ⟨o, h1, h2, h3, h4, h5, h6, h7⟩ := hob k g o' hk
        obtain ⟨p, p1, p2, p3, p4, p5, p6, p7⟩ := hob k' g' o'' hk'
        rcases hsep.tip k g o h1 (h6 hs) k' g' p p1 hb with e | ⟨e1, e2⟩
        · exact .inl e
        · refine .inr ⟨?_, by rw [h2, h3, p2, p3]; exact e2⟩
          cases e : o''.tip
          · rfl
          · rw [p6 e] at e1; cases e1 }
    lent := h.lent }
theorem Rel.freeze1 (h : Rel C ρ I w a st) (p : Nat × Nat) : ∃ I', Rel C ρ I' w a { st with obj := unsolo1 st.obj p } ∧ (∀ b o, I b o → I' b o) ∧
    (∀ o, st.obj p.1 p.2 = some o → o.box = false → ∀ off, off < o.cont.length * o.esz → I' (ρ p.1 p.2).blk off) := by
  have hfl : Rel C ρ I w a { st with obj := unsolo1 st.obj p } := by
    refine h.flags fun k g o' hk => ?_
    by_cases e : k = p.1 ∧ g = p.2
    · obtain ⟨rfl, rfl⟩ := e
      rw [unsolo1, updO_same] at hk
      cases ho : st.obj p.1 p.2 with
      | none => simp [ho] at hk
      | some o =>
        simp only [ho, Option.map_some, Option.some.injEq] at hk
        subst hk
        refine ⟨o, rfl, rfl, rfl, rfl, by simp, fun h => h, fun hb => ?_⟩
        cases o; simp_all
    · rw [unsolo1, updO_ne _ _ e] at hk
      exact ⟨o', hk, rfl, rfl, rfl, fun h => h, fun h => h, fun _ => rfl⟩
  cases ho : st.obj p.1 p.2 with
  | none => exact ⟨I, hfl, fun _ _ h => h, fun o h => by cases h⟩
  | some o =>
    by_cases hb : o.box = true
    · exact ⟨I, hfl, fun _ _ h => h, fun o' h h' => by cases h; rw [hb] at h'; cases h'⟩
    have hb : o.box = false := by simpa using hb
    let I' : Nat → Nat → Prop := fun b off => I b off ∨ (b = (ρ p.1 p.2).blk ∧ off < o.cont.length * o.esz)
    have m : Mv I I' w w ρ ρ st.cnt st.cnt := ⟨fun _ _ h => .inl h, fun _ _ _ => rfl, fun _ _ _ => rfl, fun _ => Nat.le_refl _⟩
    have hp := h.obj _ _ _ ho
    have hnew : (unsolo1 st.obj p) p.1 p.2 = some { o with solo := o.box && o.solo } := by rw [unsolo1, updO_same, ho]; rfl
    refine ⟨I', ?_, fun _ _ h => .inl h, fun o' h _ off hoff => by cases h; exact .inr ⟨rfl, hoff⟩⟩
    exact {
      defers := h.defers, size := h.size, fr := h.fr, I0 := fun b o h' => .inl (h.I0 b o h')
      Iin := fun b off h' => by
        rcases h' with h' | ⟨rfl, _⟩
        · exact h.Iin b off h'
        · exact hp.1.blk_lt
      Isub := fun b off h' => by
        rcases h' with h' | ⟨rfl, _⟩
        · exact h.Isub b off h'
        · exact .inr hp.2
      env := fun s => m.ve (h.env s)
      obj := fun k g o' hk => ⟨(hfl.obj k g o' hk).1.mv m rfl, (hfl.obj k g o' hk).2⟩
      sep := {
        box := hfl.sep.box
        soloI := fun k g o' hk hs off hI => by
          rcases hI with hI | ⟨e, _⟩
          · exact hfl.sep.soloI k g o' hk hs off hI
          · obtain ⟨rfl, rfl⟩ : p.1 = k ∧ p.2 = g := hfl.sep.solo k g o' hk hs p.1 p.2 _ hnew e.symm
            have hk2 := hnew.symm.trans hk
            cases hk2
            simp [hb] at hs
        solo := hfl.sep.solo
        tipI := fun k g o' hk hs off hoff hI => by
          rcases hI with hI | ⟨e, hlt⟩
          · exact hfl.sep.tipI k g o' hk hs off hoff hI
          · rcases hfl.sep.tip k g o' hk hs p.1 p.2 _ hnew e.symm with ⟨rfl, rfl⟩ | ⟨_, hle⟩
            · have hk2 := hnew.symm.trans hk; cases hk2; simp at hoff; omega
            · simp at hle; omega
        tip := hfl.sep.tip }
      lent := h.lent }
theorem unsolo_keeps (l : List (Nat × Nat)) : ∀ (ob : Nat → Nat → Option Obj) (k g : Nat) (o : Obj), ob k g = some o → ∃ o', l.foldl unsolo1 ob k g = some o' ∧ o'.cont = o.cont ∧ o'.esz = o.esz ∧ o'.box = o.box ∧ o'.tip = o.tip ∧ (o'.solo = true → o.solo = true) := by
  induction l with
  | nil => intro ob k g o h; exact ⟨o, h, rfl, rfl, rfl, rfl, fun h => h⟩
  | cons p l ih =>
    intro ob k g o h
    by_cases e : k = p.1 ∧ g = p.2
    · obtain ⟨rfl, rfl⟩ := e
      obtain ⟨o', h1, h2, h3, h4, h5, h6⟩ := ih (unsolo1 ob p) p.1 p.2 { o with solo := o.box && o.solo } (by rw [unsolo1, updO_same, h]; rfl)
      exact ⟨o', h1, h2, h3, h4, h5, fun h => by have := h6 h; simp at this; exact this.2⟩
    · exact ih (unsolo1 ob p) k g o (by rw [unsolo1, updO_ne _ _ e]; exact h)
theorem Rel.freeze (l : List (Nat × Nat)) : ∀ {I : Nat → Nat → Prop} {st : St}, Rel C ρ I w a st → ∃ I', Rel C ρ I' w a { st with obj := l.foldl unsolo1 st.obj } ∧ (∀ b o, I b o → I' b o) ∧
    (∀ p, p ∈ l → ∀ o, st.obj p.1 p.2 = some o → o.box = false → ∀ off, off < o.cont.length * o.esz → I' (ρ p.1 p.2).blk off) := by
  induction l with
  | nil => intro I st h; exact ⟨I, h, fun _ _ h => h, fun p hp => by cases hp⟩
  | cons q l ih =>
    intro I st h
    obtain ⟨I1, h1, h2, h3⟩ := h.freeze1 q
    obtain ⟨I2, g1, g2, g3⟩ := ih h1
    refine ⟨I2, g1, fun b o hb => g2 b o (h2 b o hb), fun p hp o ho hb off hoff => ?_⟩
    rcases List.mem_cons.1 hp with rfl | hp
    · exact g2 _ _ (h3 o ho hb off hoff)
    · obtain ⟨o', e1, e2, e3, e4, _⟩ := unsolo_keeps [q] st.obj p.1 p.2 o ho
      simp only [List.foldl_cons, List.foldl_nil] at e1
      exact g3 p hp o' e1 (by rw [e4]; exact hb) off (by rw [e2, e3]; exact hoff)
end
end Go.TM
end
section
namespace Go.TM
set_option linter.unusedVariables false
set_option linter.unusedSimpArgs false
section
variable {I : Nat → Nat → Prop} {w : World} {ρ : Nat → Nat → Loc} {cnt : Nat → Nat} {v : Value}
theorem ct_int {k : IntKind} {n : Int} (h : CT I w v (.int k n)) : v = .int k n := by cases h; rfl
theorem ct_bool {b : Bool} (h : CT I w v (.bool b)) : v = .bool b := by cases h; rfl
theorem ct_str {s : ByteArray} (h : CT I w v (.str s)) : v = .string s := by cases h; rfl
theorem ve_int {k : IntKind} {n : Int} (h : VE I w ρ cnt v (.int k n)) : v = .int k n := ct_int h
theorem ve_bool {b : Bool} (h : VE I w ρ cnt v (.bool b)) : v = .bool b := ct_bool h
theorem ve_str {s : ByteArray} (h : VE I w ρ cnt v (.str s)) : v = .string s := ct_str h
theorem mk_int (k : IntKind) (n : Int) : VE I w ρ cnt (.int k n) (.int k n) := CT.int k n
theorem mk_bool (b : Bool) : VE I w ρ cnt (.bool b) (.bool b) := CT.bool b
theorem mk_str (s : ByteArray) : VE I w ρ cnt (.string s) (.str s) := CT.str s
theorem ofVal1_ce {v : Value} {t : TV} (h : ofVal1 v = some t) : CE I w ρ cnt v t ∧ v.oneCell' = true := by
  unfold ofVal1 at h
  split at h <;> first | (cases h; exact ⟨by first | exact CT.int _ _ | exact CT.bool _ | exact CT.str _ | rfl, rfl⟩) | cases h
theorem ofVals_ce : ∀ {vs : List Value} {ts : List TV}, ofVals vs = some ts → All2 (CE I w ρ cnt) vs ts ∧ ∀ u ∈ vs, u.oneCell' = true
  | [], ts, h => by simp [ofVals] at h; subst h; exact ⟨.nil, by simp⟩
  | v :: vs, ts, h => by
    simp only [ofVals] at h
    split at h
    · rename_i u us h1 h2
      cases h
      obtain ⟨a1, a2⟩ := ofVal1_ce (I := I) (w := w) (ρ := ρ) (cnt := cnt) h1
      obtain ⟨b1, b2⟩ := ofVals_ce h2
      exact ⟨.cons a1 b1, fun x hx => by rcases List.mem_cons.1 hx with rfl | hx; exact a2; exact b2 x hx⟩
    · cases h
theorem ofVal_ve {v : Value} {t : TV} (h : ofVal v = some t) : VE I w ρ cnt v t := by
  unfold ofVal at h
  split at h
  · rename_i cs
    cases h1 : ofVals cs.toList with
    | none => simp [h1] at h
    | some ts => simp only [h1, Option.map_some, Option.some.injEq] at h; subst h; exact ⟨cs, rfl, ofVals_ce h1⟩
  · have := (ofVal1_ce (I := I) (w := w) (ρ := ρ) (cnt := cnt) h).1
    refine VE.of_va ?_
    cases t
    case agg => simp [CE] at this
    all_goals exact this
end
section
variable {C : Ctx} {ρ : Nat → Nat → Loc} {I : Nat → Nat → Prop} {w : World} {a : Act} {st : St}
theorem Rel.opd (h : Rel C ρ I w a st) {x : Operand} {y : Opd} (hx : opd x = some y) : VE I w ρ st.cnt (a.eval x) (val st.env y) := by
  cases x <;> simp only [TM.opd] at hx
  case tmp t => cases hx; exact h.env t
  case const v =>
    cases hv : ofVal v with
    | none => simp [hv] at hx
    | some t => simp only [hv, Option.map_some, Option.some.injEq] at hx; subst hx; exact ofVal_ve hv
  all_goals cases hx
theorem Rel.opds (h : Rel C ρ I w a st) : ∀ {xs : List Operand} {ys : List Opd}, opds xs = some ys → All2 (VE I w ρ st.cnt) (xs.map a.eval) (ys.map (val st.env))
  | [], ys, hx => by simp [TM.opds] at hx; subst hx; exact .nil
  | x :: xs, ys, hx => by
    simp only [TM.opds] at hx
    split at hx
    · rename_i u us h1 h2; cases hx; exact .cons (h.opd h1) (h.opds h2)
    · cases hx
end
section
variable {P : Program} {w : World}
theorem run_sizeT {t : TypeId} {n : Nat} (h : sizeT P t = some n) : (sizeOf t).run P w = .ok n w := by
  unfold sizeT at h
  cases hi : P.info? t with
  | none => simp [hi] at h
  | some i => simp [hi] at h; subst h; simp [sizeOf, typeInfo, hi]
theorem run_aggT {t : TypeId} {b : Bool} (h : aggT P t = some b) : (isAgg t).run P w = .ok b w := by
  unfold aggT at h
  cases hu : P.underlying t with
  | none => simp [hu] at h
  | some d =>
    simp only [hu, Option.map_some, Option.some.injEq] at h
    unfold isAgg
    rw [Sem.run_bind, run_underlying hu w]
    subst h
    cases d <;> simp
end
theorem collect {α : Type} {R : Value → α → Prop} (f : Nat → Option Value) : ∀ (cs : List α) (o : Nat), (∀ j c, cs[j]? = some c → ∃ u, f (o + j) = some u ∧ R u c) →
    ∃ us : List Value, us.length = cs.length ∧ All2 R us cs ∧ ∀ j u, us[j]? = some u → f (o + j) = some u
  | [], o, _ => ⟨[], rfl, .nil, by simp⟩
  | c :: cs, o, h => by
    obtain ⟨u, hu, hr⟩ := h 0 c rfl
    obtain ⟨us, h1, h2, h3⟩ := collect f cs (o + 1) (fun j c hc => by obtain ⟨u, h1, h2⟩ := h (j + 1) c (by simpa using hc); exact ⟨u, by rw [show o + 1 + j = o + (j + 1) by omega]; exact h1, h2⟩)
    refine ⟨u :: us, by simp [h1], .cons hr h2, fun j x hj => ?_⟩
    cases j with
    | zero => simp at hj; subst hj; simpa using hu
    | succ j => simp at hj; rw [show o + (j + 1) = o + 1 + j by omega]; exact h3 j x hj
theorem pull_cells {e : List TV} {j n : Nat} {ag : Bool} {t : TV} (h : pull e j n ag = some t) : j + n ≤ e.length ∧ ((ag = true ∧ t = .agg ((e.drop j).take n)) ∨ (ag = false ∧ n = 1 ∧ e[j]? = some t)) := by
  unfold pull at h
  split at h
  · rename_i hle
    refine ⟨hle, ?_⟩
    split at h
    · rename_i ha; cases h; exact .inl ⟨ha, rfl⟩
    · rename_i ha
      split at h
      · rename_i v hv; cases h; exact .inr ⟨by simpa using ha, rfl, hv⟩
      · cases h
  · cases h
theorem run_loadVar_at {P : Program} {w : World} {I : Nat → Nat → Prop} {ρ : Nat → Nat → Loc} {cnt : Nat → Nat} {ty : TypeId} {b off : Nat} {e : List TV} {j n : Nat} {ag : Bool} {t : TV}
    (hs : sizeT P ty = some n) (ha : aggT P ty = some ag) (hp : pull e j n ag = some t)
    (hc : ∀ i c, e[i]? = some c → ∃ u, w.cell? ⟨b, off + i, none⟩ = some u ∧ CE I w ρ cnt u c ∧ u.oneCell' = true) : ∃ v, (loadVar ty ⟨b, off + j, none⟩).run P w = .ok v w ∧ VE I w ρ cnt v t := by
  obtain ⟨hle, hcase⟩ := pull_cells hp
  rcases hcase with ⟨rfl, rfl⟩ | ⟨rfl, rfl, hj⟩
  · obtain ⟨us, h1, h2, h3⟩ := collect (R := fun u c => CE I w ρ cnt u c ∧ u.oneCell' = true) (fun i => w.cell? ⟨b, i, none⟩) ((e.drop j).take n) (off + j) (fun i c hi => by
      rw [List.getElem?_take] at hi
      split at hi
      · rw [List.getElem?_drop] at hi
        obtain ⟨u, hu, hr⟩ := hc _ c hi
        exact ⟨u, by show w.cell? ⟨b, off + j + i, none⟩ = _; rw [show off + j + i = off + (j + i) by omega]; exact hu, hr⟩
      · cases hi)
    have hn : us.length = n := by rw [h1]; simp; omega
    refine ⟨.agg us.toArray, ?_, us.toArray, rfl, by simpa using h2.imp fun _ _ h => h.1, fun u hu => ?_⟩
    · have hl := run_loadCells_list (P := P) w ⟨b, off + j, none⟩ us (fun i u hu => by rw [Addr.add_lit]; exact h3 i u hu)
      rw [hn] at hl
      simp [loadVar, run_aggT ha, run_sizeT hs, hl]
    · obtain ⟨i, hi, rfl⟩ := List.getElem_of_mem (by simpa using hu : u ∈ us)
      have hi' : i < ((e.drop j).take n).length := by rw [← h1]; exact hi
      exact (h2.get i _ _ (List.getElem?_eq_getElem hi) (List.getElem?_eq_getElem hi')).2
  · obtain ⟨u, hu, hr, _⟩ := hc j t hj
    refine ⟨u, ?_, VE.of_va ?_⟩
    · simp [loadVar, run_aggT ha, hu]
    · cases t
      case agg => simp [CE] at hr
      all_goals exact hr
theorem run_part {P : Program} {w : World} {I : Nat → Nat → Prop} {ρ : Nat → Nat → Loc} {cnt : Nat → Nat} {ty : TypeId} {vs : Array Value} {cs : List TV} {off n : Nat} {ag : Bool} {t : TV}
    (hs : sizeT P ty = some n) (ha : aggT P ty = some ag) (hp : pull cs off n ag = some t) (hv : All2 (CE I w ρ cnt) vs.toList cs) (hone : ∀ u ∈ vs.toList, u.oneCell' = true) :
    ∃ v, (part ty vs off).run P w = .ok v w ∧ VE I w ρ cnt v t := by
  obtain ⟨hle, hcase⟩ := pull_cells hp
  rcases hcase with ⟨rfl, rfl⟩ | ⟨rfl, rfl, hj⟩
  · refine ⟨.agg (vs.extract off (off + n)), by simp [part, run_aggT ha, run_sizeT hs], vs.extract off (off + n), rfl, ?_, ?_⟩
    · have : (vs.extract off (off + n)).toList = (vs.toList.drop off).take n := by simp [List.extract_eq_take_drop]
      rw [this]
      exact (hv.drop off).take n
    · have : (vs.extract off (off + n)).toList = (vs.toList.drop off).take n := by simp [List.extract_eq_take_drop]
      rw [this]
      exact fun u hu => hone u (List.mem_of_mem_drop (List.mem_of_mem_take hu))
  · obtain ⟨u, hu, hr⟩ := hv.get_r off t hj
    refine ⟨u, ?_, VE.of_va ?_⟩
    · have : vs[off]? = some u := by simpa using hu
      simp [part, run_aggT ha, this]
    · cases t
      case agg => simp [CE] at hr
      all_goals exact hr
end Go.TM
end
section
namespace Go.TM
set_option linter.unusedVariables false
set_option linter.unusedSimpArgs false
section
variable {P : Program} {I : Nat → Nat → Prop} {w : World} {ρ : Nat → Nat → Loc} {cnt : Nat → Nat}
theorem run_equalIn_bool (d : Nat) {ty : TypeId} (a b : Bool) (h : P.underlying ty = some .bool) : (Op.equalIn (d + 1) ty (.bool a) (.bool b)).run P w = .ok (a == b) w := by
  simp [Op.equalIn, run_underlying h]
theorem run_equal_bool {ty : TypeId} (a b : Bool) (h : P.underlying ty = some .bool) : (Op.equal ty (.bool a) (.bool b)).run P w = .ok (a == b) w :=
  run_equalIn_bool 9999 a b h
theorem run_bin {b : Bool} {op : BinOp} {x y t : TV} {vx vy : Value} {ty : TypeId} {X Y : Operand} (h : binTV b op x y = some t) (hx : VE I w ρ cnt vx x) (hy : VE I w ρ cnt vy y)
    (hb : b = true → P.underlying ty = some .bool) : ∃ v, ((do eqGuard op ty X Y vx vy; binOp op ty vx vy) : Sem Value).run P w = .ok v w ∧ VE I w ρ cnt v t := by
  unfold binTV at h
  split at h
  · rename_i k p k' q
    rw [ve_int hx, ve_int hy]
    cases op <;> simp only [] at h <;> split at h <;> cases h
    all_goals
      rename_i hk
      first
      | (subst hk; refine ⟨_, ?_, by first | exact mk_int _ _ | exact mk_bool _⟩; simp [eqGuard, binOp, Op.intArith, Op.intBits, Op.intCmp])
      | (obtain ⟨rfl, hq⟩ := hk; refine ⟨_, ?_, mk_int _ _⟩; simp [eqGuard, binOp, Op.intDiv, hq])
      | (refine ⟨_, ?_, mk_int _ _⟩; have : ¬ q < 0 := by omega
         simp [eqGuard, binOp, Op.shift, this])
  · rename_i p q
    rw [ve_bool hx, ve_bool hy]
    split at h <;> cases h
    all_goals
      refine ⟨_, ?_, mk_bool _⟩
      simp [eqGuard, binOp, run_equal_bool _ _ (hb rfl)]
  · rename_i p q
    rw [ve_str hx, ve_str hy]
    cases op <;> simp only [] at h
    case add =>
      split at h <;> cases h
      rename_i hlt
      refine ⟨_, ?_, mk_str _⟩
      simp only [eqGuard, binOp, Op.stringOp]
      simp
      omega
    all_goals first
      | (cases h; refine ⟨_, ?_, mk_bool _⟩; simp [eqGuard, binOp, Op.stringOp])
      | cases h
  · cases h
theorem part_scalar {vs : Array Value} {ty : TypeId} {off : Nat} {v : Value} (ha : aggT P ty = some false) (h : vs.toList[off]? = some v) : (part ty vs off).run P w = .ok v w := by
  have : vs[off]? = some v := by simpa using h
  simp [part, run_aggT ha, this]
theorem run_eqFields {xs ys : Array Value} (d : Nat) : ∀ (fs : List Field) (k : Nat) (us vs : List TV) (ks : List Nat) (r : Bool), kindsL P k fs = some ks →
    All2 (CE I w ρ cnt) (xs.toList.drop k) us → All2 (CE I w ρ cnt) (ys.toList.drop k) vs → eqK ks us vs = some r → (Op.eqFields (d + 1) xs ys fs).run P w = .ok r w
  | [], k, us, vs, ks, r, hk, hx, hy, he => by
    simp only [kindsL, Option.some.injEq] at hk; subst hk
    cases us <;> cases vs <;> simp only [eqK, Option.some.injEq, reduceCtorEq] at he
    subst he
    simp [Op.eqFields]
  | f :: fs, k, us, vs, ks, r, hk, hx, hy, he => by
    simp only [kindsL] at hk
    split at hk
    · rename_i hc
      obtain ⟨ho, hn⟩ := hc
      have key : ∀ (q : Nat) (ks' : List Nat), kindsL P (k + 1) fs = some ks' → eqK (q :: ks') us vs = some r → aggT P f.type = some false →
          (∀ x y b, CE I w ρ cnt x (us.headD .undef) → CE I w ρ cnt y (vs.headD .undef) → (∃ u v : TV, us.headD .undef = u ∧ vs.headD .undef = v ∧ eqK [q] [u] [v] = some b) → (Op.equalIn (d + 1) f.type x y).run P w = .ok b w) →
          (Op.eqFields (d + 1) xs ys (f :: fs)).run P w = .ok r w := by
        intro q ks' hks he ha hq
        cases us with
        | nil => simp [eqK] at he
        | cons u us =>
          cases vs with
          | nil => simp [eqK] at he
          | cons v vs =>
            obtain ⟨x, hx0, hxr⟩ := hx.get_r 0 u rfl
            obtain ⟨y, hy0, hyr⟩ := hy.get_r 0 v rfl
            have hxk : xs.toList[k]? = some x := by rw [List.getElem?_drop] at hx0; simpa using hx0
            have hyk : ys.toList[k]? = some y := by rw [List.getElem?_drop] at hy0; simpa using hy0
            have tx : All2 (CE I w ρ cnt) (xs.toList.drop (k + 1)) us := by have := hx.drop 1; rw [List.drop_drop] at this; exact this
            have ty : All2 (CE I w ρ cnt) (ys.toList.drop (k + 1)) vs := by have := hy.drop 1; rw [List.drop_drop] at this; exact this
            have hr : ∃ b r', eqK [q] [u] [v] = some b ∧ eqK ks' us vs = some r' ∧ r = (b && r') := by
              simp only [eqK] at he ⊢
              cases hr' : eqK ks' us vs with
              | none => rw [hr'] at he; simp at he
              | some r' =>
                rw [hr'] at he
                split at he
                all_goals first
                  | (split at he
                     · rename_i hkk; cases he; simp_all
                     · cases he)
                  | (cases he; simp_all)
                  | cases he
            obtain ⟨b, r', h1, h2, rfl⟩ := hr
            have ih := run_eqFields d fs (k + 1) us vs ks' r' hks tx ty h2
            have h3 := hq x y b hxr hyr ⟨u, v, rfl, rfl, h1⟩
            simp only [Op.eqFields, if_pos hn, Sem.run_bind, ho, part_scalar ha hxk, part_scalar ha hyk, Result.andThen_ok, h3]
            cases b
            · simp
            · simpa using ih
      split at hk
      · rename_i kk ks' hu hks
        cases hk
        refine key 0 ks' hks he (by simp [aggT, hu]) fun x y b h1 h2 h3 => ?_
        obtain ⟨u, v, hu', hv', h4⟩ := h3
        rw [hu'] at h1; rw [hv'] at h2
        simp only [eqK] at h4
        split at h4
        · split at h4
          · cases h4; rename_i hkk; subst hkk
            rw [ct_int h1, ct_int h2, run_equalIn_int w d _ _ _ _ _ hu]; simp_all
          · cases h4
        all_goals first | (exfalso; simp_all; done) | cases h4
      · rename_i ks' hu hks
        cases hk
        refine key 1 ks' hks he (by simp [aggT, hu]) fun x y b h1 h2 h3 => ?_
        obtain ⟨u, v, hu', hv', h4⟩ := h3
        rw [hu'] at h1; rw [hv'] at h2
        simp only [eqK] at h4
        split at h4
        · exfalso; simp_all
        · cases h4
          rw [ct_bool h1, ct_bool h2, Go.TM.run_equalIn_bool d _ _ hu]; simp_all
        all_goals first | (exfalso; simp_all; done) | cases h4
      · rename_i ks' hu hks
        cases hk
        refine key 2 ks' hks he (by simp [aggT, hu]) fun x y b h1 h2 h3 => ?_
        obtain ⟨u, v, hu', hv', h4⟩ := h3
        rw [hu'] at h1; rw [hv'] at h2
        simp only [eqK] at h4
        split at h4
        · exfalso; simp_all
        · exfalso; simp_all
        · cases h4
          rw [ct_str h1, ct_str h2, run_equalIn_string w d _ _ _ hu]; simp_all [beq_toListBytes]
        all_goals first | (exfalso; simp_all; done) | cases h4
      · cases hk
    · cases hk
theorem run_eqs {op : BinOp} {ty : TypeId} {ks : List Nat} {us vs : List TV} {r : Bool} {vx vy : Value} {X Y : Operand} (hk : kindsT P ty = some ks) (he : eqK ks us vs = some r)
    (hx : VE I w ρ cnt vx (.agg us)) (hy : VE I w ρ cnt vy (.agg vs)) :
    (op = .eql → ((do eqGuard op ty X Y vx vy; binOp op ty vx vy) : Sem Value).run P w = .ok (.bool r) w) ∧ (op = .neq → ((do eqGuard op ty X Y vx vy; binOp op ty vx vy) : Sem Value).run P w = .ok (.bool (!r)) w) := by
  obtain ⟨xs, rfl, hxs, _⟩ := hx
  obtain ⟨ys, rfl, hys, _⟩ := hy
  unfold kindsT at hk
  split at hk
  · rename_i fs hu
    split at hk
    · rename_i hc
      obtain ⟨h1, h2⟩ := hc
      have hf : P.underlying ty = some (.struct (P.fieldsOf ty)) := by simp [Program.fieldsOf, hu]
      have hff : P.fieldsOf ty = fs := by simp [Program.fieldsOf, hu]
      have hrun : (Op.equalIn 10000 ty (.agg xs) (.agg ys)).run P w = .ok r w := by
        rw [show (10000 : Nat) = 9999 + 1 from rfl, run_equalIn_struct w 9999 ty xs ys hf h1, hff]
        exact run_eqFields (I := I) (ρ := ρ) (cnt := cnt) 9998 fs.toList 0 us vs ks r hk hxs hys he
      constructor
      · rintro rfl
        rw [Sem.run_bind, run_eqGuard_agg w _ _ _ _ _ _ h2, Result.andThen_ok, run_eql_struct, hrun, Result.andThen_ok]
      · rintro rfl
        rw [Sem.run_bind, run_eqGuard_agg w _ _ _ _ _ _ h2, Result.andThen_ok, run_neq_struct, hrun, Result.andThen_ok]
    · cases hk
  · cases hk
theorem run_un {op : UnOp} {x t : TV} {vx : Value} (h : unTV op x = some t) (hx : VE I w ρ cnt vx x) : ∃ v, (Op.unary op vx).run P w = .ok v w ∧ VE I w ρ cnt v t := by
  unfold unTV at h
  split at h
  · rw [ve_int hx]
    split at h <;> cases h
    · exact ⟨_, by simp [Op.unary, Op.intArith], mk_int _ _⟩
    · exact ⟨_, by simp [Op.unary, Op.intBits], mk_int _ _⟩
  · rw [ve_bool hx]
    split at h <;> cases h
    exact ⟨_, by simp [Op.unary], mk_bool _⟩
  · cases h
end
end Go.TM
end
section
namespace Go.TM
set_option linter.unusedVariables false
set_option linter.unusedSimpArgs false
def Sub (ob ob' : Nat → Nat → Option Obj) : Prop := ∀ k g o', ob' k g = some o' → ∃ o, ob k g = some o ∧ o'.cont = o.cont ∧ o'.esz = o.esz ∧ o'.box = o.box ∧ (o'.solo = true ∨ o'.tip = true → o' = o)
theorem restrict_sub (ob : Nat → Nat → Option Obj) (vk : Vk) : Sub ob (restrict ob vk) := by
  intro k g o' h
  cases vk <;> simp only [restrict] at h
  case full => exact ⟨o', h, rfl, rfl, rfl, fun _ => rfl⟩
  case none => cases h
  case box b =>
    split at h
    · split at h
      · rename_i o ho
        split at h
        · cases h; exact ⟨o', ho, rfl, rfl, rfl, fun _ => rfl⟩
        · cases h
      · cases h
    · cases h
  case rd forb =>
    split at h
    · cases h
    · split at h
      · rename_i o ho
        split at h
        · cases h
        · cases h; exact ⟨o, ho, rfl, rfl, rfl, fun h => by simp at h⟩
      · cases h
  case fb forb =>
    split at h
    · cases h
    · exact ⟨o', h, rfl, rfl, rfl, fun _ => rfl⟩
section
variable {I : Nat → Nat → Prop} {w : World} {ρ : Nat → Nat → Loc} {cnt : Nat → Nat}
theorem ve_cells {v : Value} {t : TV} (h : VE I w ρ cnt v t) (hne : t.cells ≠ []) : All2 (CE I w ρ cnt) v.cells.toList t.cells ∧ ∀ u ∈ v.cells.toList, u.oneCell' = true := by
  have single : ∀ (t : TV), CE I w ρ cnt v t → t ≠ .undef → All2 (CE I w ρ cnt) v.cells.toList [t] ∧ ∀ u ∈ v.cells.toList, u.oneCell' = true := fun t hc hu => by
    have h1 := hc.one hu
    have hv : v.cells = #[v] := by cases v <;> first | rfl | cases h1
    rw [hv]
    exact ⟨.cons hc .nil, fun u hu => by simp at hu; subst hu; exact h1⟩
  cases t <;> simp only [TV.cells] at hne ⊢
  case agg cs =>
    obtain ⟨vs, hv, hc, h1⟩ := h
    subst hv
    exact ⟨hc, h1⟩
  case undef => exact absurd rfl hne
  case tup => exact absurd rfl hne
  case own => exact absurd rfl hne
  all_goals exact single _ h (by simp)
theorem fold_splice (off : Nat) : ∀ (vs : List Value) (k : Nat) (cells : Array Value), off + k + vs.length ≤ cells.size →
    ((vs.zipIdx k).foldl (fun cs p => cs.setIfInBounds (off + p.2) p.1) cells).toList = cells.toList.take (off + k) ++ vs ++ cells.toList.drop (off + k + vs.length)
  | [], k, cells, h => by simp
  | v :: vs, k, cells, h => by
    simp only [List.zipIdx_cons, List.foldl_cons, List.length_cons] at h ⊢
    rw [fold_splice off vs (k + 1) _ (by simp; omega)]
    have e := list_seg_step cells.toList (off + k) v vs (by simp; omega)
    simpa [Array.toList_setIfInBounds, Nat.add_assoc, Nat.add_comm 1, Nat.add_left_comm] using e
theorem splice_all2 {α β : Type} {R : α → β → Prop} {as : List α} {bs : List β} {us : List α} {cs : List β} (h : All2 R as bs) (g : All2 R us cs) (off : Nat) :
    All2 R (as.take off ++ us ++ as.drop (off + us.length)) (bs.take off ++ cs ++ bs.drop (off + cs.length)) := by
  rw [g.length]
  exact ((h.take off).append g).append (h.drop _)
theorem fill_sim (place : Nat → Option (Nat × Nat)) (ev : Operand → Value) (val : Opd → TV) : ∀ (parts : List (Nat × Operand)) (ps : List (Nat × Nat × Opd)) (cells : Array Value) (acc r : List TV),
    All2 (fun (p : Nat × Operand) (q : Nat × Nat × Opd) => place p.1 = some (q.1, q.2.1) ∧ q.2.1 ≠ 0 ∧ VE I w ρ cnt (ev p.2) (val q.2.2)) parts ps →
    All2 (CE I w ρ cnt) cells.toList acc → (∀ u ∈ cells.toList, u.oneCell' = true) → buildParts val acc ps = some r →
    ∃ cells', Instr.fill place cells (parts.map fun p => (p.1, ev p.2)) = some cells' ∧ All2 (CE I w ρ cnt) cells'.toList r ∧ ∀ u ∈ cells'.toList, u.oneCell' = true
  | [], ps, cells, acc, r, h, hc, h1, hb => by
    cases h
    simp only [buildParts, Option.some.injEq] at hb
    subst hb
    exact ⟨cells, rfl, hc, h1⟩
  | p :: parts, _, cells, acc, r, .cons (b := q) (bs := ps) ⟨hp, hn0, hv⟩ hps, hc, h1, hb => by
    obtain ⟨off, n, x⟩ := q
    simp only [buildParts] at hb
    split at hb
    · rename_i hcond
      obtain ⟨hn, hle⟩ := hcond
      have hne : (val x).cells ≠ [] := fun e => by rw [e] at hn; exact hn0 (by simpa using hn.symm)
      obtain ⟨c1, c2⟩ := ve_cells hv hne
      have hsz : (ev p.2).cells.size = n := by have := c1.length; simpa [hn] using this
      have hcs : cells.size = acc.length := by simpa using hc.length
      have hfold := fold_splice off (ev p.2).cells.toList 0 cells (by simp; omega)
      have hcells' : All2 (CE I w ρ cnt) (((ev p.2).cells.zipIdx.foldl (fun cs (c, j) => cs.setIfInBounds (off + j) c) cells)).toList (splice acc off (val x).cells) := by
        have e : ((ev p.2).cells.zipIdx.foldl (fun cs (c, j) => cs.setIfInBounds (off + j) c) cells) = ((ev p.2).cells.toList.zipIdx 0).foldl (fun cs p => cs.setIfInBounds (off + p.2) p.1) cells := by
          rw [← Array.foldl_toList]; simp
        rw [e, hfold]
        simp only [Nat.add_zero]
        exact splice_all2 hc c1 off
      obtain ⟨cells', f1, f2, f3⟩ := fill_sim place ev val parts ps _ _ r hps hcells' (fun u hu => by
        have e : ((ev p.2).cells.zipIdx.foldl (fun cs (c, j) => cs.setIfInBounds (off + j) c) cells) = ((ev p.2).cells.toList.zipIdx 0).foldl (fun cs p => cs.setIfInBounds (off + p.2) p.1) cells := by
          rw [← Array.foldl_toList]; simp
        rw [e, hfold] at hu
        simp only [List.mem_append] at hu
        rcases hu with (hu | hu) | hu
        · exact h1 u (List.mem_of_mem_take hu)
        · exact c2 u hu
        · exact h1 u (List.mem_of_mem_drop hu)) hb
      refine ⟨cells', ?_, f2, f3⟩
      simp only [List.map_cons, Instr.fill, hp, hsz]
      rw [if_neg (by simp; omega)]
      exact f1
    · cases hb
end
theorem run_places {P : Program} {w : World} : ∀ (fs : List Field), (∀ f ∈ fs, (sizeT P f.type).isSome = true) →
    (fs.mapM fun f => Prod.mk f.offset <$> sizeOf f.type).run P w = .ok (fs.map fun f => (f.offset, (sizeT P f.type).getD 0)) w
  | [], _ => by simp
  | f :: fs, h => by
    obtain ⟨n, hn⟩ := Option.isSome_iff_exists.1 (h f List.mem_cons_self)
    have ih := run_places (w := w) fs (fun g hg => h g (List.mem_cons_of_mem _ hg))
    simp only [List.mapM_cons, Sem.run_bind, Sem.run_map, run_sizeT hn, Result.andThen_ok, Sem.run_pure, ih, List.map_cons, hn, Option.getD_some]
section
variable {P : Program} {C : Ctx} {ρ : Nat → Nat → Loc} {I : Nat → Nat → Prop} {w : World} {a : Act} {st : St}
theorem Rel.elem (h : Rel C ρ I w a st) {k g i : Nat} {o : Obj} {e : List TV} (ho : st.obj k g = some o) (he : o.cont[i]? = some e) :
    ∀ j c, e[j]? = some c → ∃ u, w.cell? ⟨(ρ k g).blk, i * o.esz + j, none⟩ = some u ∧ (if o.box then CE I w ρ st.cnt u c else CT I w u c) ∧ u.oneCell' = true := by
  intro j c hc
  obtain ⟨cells, ty, h1, h2, h4, h3⟩ := (h.obj k g o ho).1.lies
  obtain ⟨u, hu, hr⟩ := h3 i j e c he hc
  refine ⟨u, by simp [World.cell?, h1, hu], hr, h4 u ?_⟩
  exact List.mem_of_getElem? (by simpa using hu : cells.toList[i * o.esz + j]? = some u)
theorem ce_of_if {b : Bool} {cnt : Nat → Nat} {u : Value} {c : TV} (h : if b then CE I w ρ cnt u c else CT I w u c) : CE I w ρ cnt u c := by
  split at h
  · exact h
  · exact CE.of_ct h
theorem ev_sub {op : TOp} : True := trivial
theorem opds_one {l : List Operand} {y : Opd} (h : opds l = some [y]) : ∃ x, l = [x] ∧ opd x = some y := by
  match l, h with
  | [], h => simp [opds] at h
  | [x], h =>
    simp only [opds] at h
    split at h
    · rename_i u us h1 h2; cases h2; cases h; exact ⟨x, rfl, h1⟩
    · cases h
  | x :: x' :: l, h =>
    simp only [opds] at h
    split at h
    · rename_i u us h1 h2
      split at h2
      · cases h2; cases h
      · cases h2
    · cases h
theorem opds_two {l : List Operand} {y z : Opd} (h : opds l = some [y, z]) : ∃ x x', l = [x, x'] ∧ opd x = some y ∧ opd x' = some z := by
  match l, h with
  | [], h => simp [opds] at h
  | x :: l, h =>
    simp only [opds] at h
    split at h
    · rename_i u us h1 h2
      cases h
      obtain ⟨x', h3, h4⟩ := opds_one h2
      exact ⟨x, x', by rw [h3], h1, h4⟩
    · cases h
theorem sim_quiet (h : Rel C ρ I w a st) {hh : Nat → Nat × List Nat} {o : Oper} {top : TOp} {d c : Nat} {ob : Nat → Nat → Option Obj} {e : Eff} (hob : Sub st.obj ob)
    (hc : compOp P hh o = some top) (hq : top.quiet = true) (he : ev top d c (val st.env) ob = some (.eff e)) :
    ∃ v, (execOp a.eval o).run P w = .ok (.value v) w ∧ VE I w ρ st.cnt v e.v ∧ e.new = [] ∧ e.unsolo = [] ∧ e.mods = [] := by
  obtain ⟨dst, op, type, pos, after, guard⟩ := o
  cases op <;> simp only [compOp] at hc
  case move x =>
    cases hx : opd x with
    | none => simp [hx] at hc
    | some y =>
      simp only [hx, Option.map_some, Option.some.injEq] at hc; subst hc
      simp only [ev, Option.some.injEq, Ev.eff.injEq] at he; subst he
      exact ⟨_, rfl, h.opd hx, rfl, rfl, rfl⟩
  case assign x =>
    cases hx : opd x with
    | none => simp [hx] at hc
    | some y =>
      simp only [hx, Option.map_some, Option.some.injEq] at hc; subst hc
      simp only [ev, Option.some.injEq, Ev.eff.injEq] at he; subst he
      exact ⟨_, rfl, h.opd hx, rfl, rfl, rfl⟩
  case pick q x y =>
    split at hc
    · rename_i q' x' y' hq' hx' hy'
      cases hc
      simp only [ev] at he
      have hqv := h.opd hq'
      split at he <;> cases he
      · rename_i hv; rw [hv] at hqv; have := ve_bool hqv
        exact ⟨_, by simp [execOp, this, asBool], h.opd hx', rfl, rfl, rfl⟩
      · rename_i hv; rw [hv] at hqv; have := ve_bool hqv
        exact ⟨_, by simp [execOp, this, asBool], h.opd hy', rfl, rfl, rfl⟩
    · cases hc
  case binOp bop t x y yt =>
    split at hc
    · rename_i x' y' hx hy
      split at hc
      · have fin : ∀ ks (neg : Bool), kindsT P t = some ks → top = .eqs neg ks x' y' → (neg = false → bop = .eql) → (neg = true → bop = .neq) →
            ∃ v, (execOp a.eval ⟨dst, .binOp bop t x y yt, type, pos, after, guard⟩).run P w = .ok (.value v) w ∧ VE I w ρ st.cnt v e.v ∧ e.new = [] ∧ e.unsolo = [] ∧ e.mods = [] := by
          rintro ks neg hk rfl h1 h2
          simp only [ev] at he
          split at he
          · rename_i us vs hus hvs
            cases hr : eqK ks us vs with
            | none => simp [hr] at he
            | some r =>
              simp only [hr, Option.map_some, Option.some.injEq, Ev.eff.injEq] at he; subst he
              have vx := h.opd hx
              have vy := h.opd hy
              rw [hus] at vx; rw [hvs] at vy
              obtain ⟨q1, q2⟩ := run_eqs (op := bop) (X := x) (Y := y) hk hr vx vy
              cases neg with
              | false => exact ⟨.bool r, by simp only [execOp]; simp only [Sem.run_bind] at q1 ⊢; rw [q1 (h1 rfl)]; rfl, mk_bool _, rfl, rfl, rfl⟩
              | true => exact ⟨.bool (!r), by simp only [execOp]; simp only [Sem.run_bind] at q2 ⊢; rw [q2 (h2 rfl)]; rfl, mk_bool _, rfl, rfl, rfl⟩
          · cases he
        split at hc
        · rename_i ks hk; cases hc; exact fin ks false hk rfl (fun _ => rfl) (fun h => by cases h)
        · rename_i ks hk; cases hc; exact fin ks true hk rfl (fun h => by cases h) (fun _ => rfl)
        · cases hc
      · split at hc
        · cases hc
          simp only [ev] at he
          cases hb : binTV (boolT P t) bop (val st.env x') (val st.env y') with
          | none => simp [hb] at he
          | some r =>
            simp only [hb, Option.map_some, Option.some.injEq, Ev.eff.injEq] at he; subst he
            obtain ⟨v, h1, h2⟩ := run_bin (P := P) (w := w) (ty := t) (X := x) (Y := y) hb (h.opd hx) (h.opd hy) (fun hb => by
              unfold boolT at hb; split at hb <;> first | assumption | cases hb)
            refine ⟨v, ?_, h2, rfl, rfl, rfl⟩
            simp only [execOp]
            simp only [Sem.run_bind, h1, Result.andThen_ok, Sem.run_pure]
        · cases hc
    · cases hc
  case unOp uop t x =>
    cases hx : opd x with
    | none => simp [hx] at hc
    | some y =>
      simp only [hx, Option.map_some, Option.some.injEq] at hc; subst hc
      simp only [ev] at he
      cases hb : unTV uop (val st.env y) with
      | none => simp [hb] at he
      | some r =>
        simp only [hb, Option.map_some, Option.some.injEq, Ev.eff.injEq] at he; subst he
        obtain ⟨v, h1, h2⟩ := run_un (P := P) (w := w) hb (h.opd hx)
        exact ⟨v, by simp [execOp, h1], h2, rfl, rfl, rfl⟩
  case convert s t x =>
    split at hc
    · rename_i k1 k2 x' h1 h2 hx
      cases hc
      simp only [ev] at he
      have hv := h.opd hx
      split at he <;> cases he
      rename_i k n hn
      rw [hn] at hv
      refine ⟨_, ?_, mk_int _ _, rfl, rfl, rfl⟩
      simp only [execOp]
      rw [show a.eval x = .int k n from ve_int hv]
      simp [convert, run_underlying h1, run_underlying h2, Conv.intToInt]
    · cases hc
  case box t x => split at hc <;> (try split at hc) <;> cases hc; simp [TOp.quiet] at hq
  case alloc t => cases hz : zeroT P t <;> simp [hz] at hc; subst hc; simp [TOp.quiet] at hq
  case load t p =>
    split at hc
    · rename_i n ag p' hs hag hp
      split at hc
      · cases hc
      cases hc
      simp only [ev] at he
      have hv := h.opd hp
      split at he
      · rename_i k g i j hpv
        rw [hpv] at hv
        simp only [VE, VA, CE] at hv
        split at he
        · rename_i o' ho'
          split at he
          · rename_i el hel
            cases hpl : pull el j n ag with
            | none => simp [hpl] at he
            | some r =>
              simp only [hpl, Option.map_some, Option.some.injEq, Ev.eff.injEq] at he; subst he
              obtain ⟨o, ho, e1, e2, e3, _⟩ := hob k g o' ho'
              rw [e1] at hel
              have hes : (ρ k g).esz = o.esz := (h.obj k g o ho).1.esz
              obtain ⟨v, h1, h2⟩ := run_loadVar_at (P := P) (w := w) (I := I) (ρ := ρ) (cnt := st.cnt) (b := (ρ k g).blk) (off := i * o.esz) hs hag hpl (fun q c hq => by
                obtain ⟨u, hu, hr, h1⟩ := h.elem ho hel q c hq
                exact ⟨u, hu, ce_of_if hr, h1⟩)
              refine ⟨v, ?_, h2, rfl, rfl, rfl⟩
              simp [execOp, Instr.loadAt, Instr.sureAddr, hv.2, hes, h1]
          · cases he
        · cases he
      · rename_i cs j hpv
        rw [hpv] at hv
        simp only [VE, VA, CE] at hv
        obtain ⟨b, off, hv1, hv2⟩ := hv
        cases hpl : pull cs j n ag with
        | none => simp [hpl] at he
        | some r =>
          simp only [hpl, Option.map_some, Option.some.injEq, Ev.eff.injEq] at he; subst he
          obtain ⟨v, h1, h2⟩ := run_loadVar_at (P := P) (w := w) (I := I) (ρ := ρ) (cnt := st.cnt) (b := b) (off := off) hs hag hpl (fun q c hq => by
            obtain ⟨_, u, hu, hr⟩ := hv2 q c hq
            exact ⟨u, hu, CE.of_ct hr, hr.one⟩)
          refine ⟨v, ?_, h2, rfl, rfl, rfl⟩
          simp [execOp, Instr.loadAt, Instr.sureAddr, hv1, h1]
      · cases he
    · cases hc
  case store t p x => split at hc <;> (try split at hc) <;> cases hc; simp [TOp.quiet] at hq
  case fieldAddr s p f =>
    split at hc
    · rename_i off n t p' hf hp
      cases hc
      have hrun : ∀ b q, (Instr.fieldAt s (.pointer (some ⟨b, q, none⟩)) f).run P w = .ok (.pointer (some ⟨b, q + off, none⟩)) w := by
        intro b q
        unfold fieldT at hf
        split at hf
        · rename_i fs hu
          split at hf
          · rename_i fd hfd
            split at hf
            · rename_i m hm
              split at hf
              · cases hf
              rename_i hm0
              cases hf
              simp [Instr.fieldAt, run_underlying hu, hfd, Instr.sureAddr, fieldPlace, run_sizeT hm, hm0, Addr.add_lit]
            · cases hf
          · cases hf
        · cases hf
      simp only [ev] at he
      have hv := h.opd hp
      split at he <;> cases he
      · rename_i k g i j hpv
        rw [hpv] at hv
        simp only [VE, VA, CE] at hv
        refine ⟨_, ?_, ⟨hv.1, rfl⟩, rfl, rfl, rfl⟩
        simp [execOp, hv.2, hrun, Nat.add_assoc]
      · rename_i cs j hpv
        rw [hpv] at hv
        simp only [VE, VA, CE] at hv
        obtain ⟨b, q, hv1, hv2⟩ := hv
        refine ⟨_, ?_, ⟨b, q, rfl, hv2⟩, rfl, rfl, rfl⟩
        simp [execOp, hv1, hrun, Nat.add_assoc]
    · cases hc
  case indexAddr t x i =>
    split at hc
    · rename_i n et x' i' hel hx hi
      cases hc
      have hu : ∃ u, P.underlying t = some (.slice u) ∧ sizeT P u = some n := by
        unfold elemT at hel
        split at hel
        · rename_i u hu
          split at hel
          · rename_i m hm
            split at hel <;> cases hel
            exact ⟨_, hu, hm⟩
          · cases hel
        · cases hel
      obtain ⟨u, hu, hsz⟩ := hu
      simp only [ev] at he
      have hxv := h.opd hx
      have hiv := h.opd hi
      split at he
      · rename_i k g e' m kk ix hxx hii
        rw [hxx] at hxv; rw [hii] at hiv
        simp only [VE, VA, CE] at hxv
        split at he <;> cases he
        rename_i hcond
        obtain ⟨h0, h1, rfl⟩ := hcond
        refine ⟨_, ?_, ⟨hxv.1, rfl⟩, rfl, rfl, rfl⟩
        rw [hxv.2.1]
        simp [execOp, Instr.indexAt, hxv.2.2.1, show a.eval i = .int kk ix from ve_int hiv, asIntOf, run_underlying hu, h0, h1, run_sizeT hsz, Addr.add_lit]
      · rename_i xs kk ix hxx hii
        rw [hxx] at hxv; rw [hii] at hiv
        have hxv : CT I w (a.eval x) (.sl xs) := hxv
        split at he
        · rename_i h0
          split at he
          · rename_i cs hcs
            split at he <;> cases he
            rename_i hlen
            obtain ⟨hlt, _⟩ := List.getElem?_eq_some_iff.1 hcs
            generalize hv : a.eval x = vx at hxv
            cases hxv with
            | sl0 => simp at hcs
            | sl b off cap es _ gg hne hcap hpos hxl hcc htt =>
              have hes : es = n := by rw [← hxl cs (List.mem_of_getElem? hcs)]; exact hlen
              subst hes
              have hlt' : ix < xs.length := by omega
              refine ⟨_, ?_, ⟨b, off + ix.toNat * es, rfl, fun j q hj => ?_⟩, rfl, rfl, rfl⟩
              · simp [execOp, Instr.indexAt, hv, show a.eval i = .int kk ix from ve_int hiv, asIntOf, run_underlying hu, h0, hlt', run_sizeT hsz, Addr.add_lit]
              · obtain ⟨hj', _⟩ := List.getElem?_eq_some_iff.1 hj
                have hc := hcc ix.toNat j hlt (by omega)
                rw [← Nat.add_assoc] at hc
                exact ⟨hc.1, _, hc.2, htt _ _ _ _ hcs hj⟩
          · cases he
        · cases he
      · cases he
    · cases hc
  case field s x f =>
    split at hc
    · rename_i off n t x' hf hx
      cases hag : aggT P t with
      | none => simp [hag] at hc
      | some ag =>
        simp only [hag, Option.map_some, Option.some.injEq] at hc; subst hc
        simp only [ev] at he
        have hv := h.opd hx
        split at he
        · rename_i cs hcs
          rw [hcs] at hv
          obtain ⟨vs, hv1, hv2, hv3⟩ := hv
          cases hpl : pull cs off n ag with
          | none => simp [hpl] at he
          | some r =>
            simp only [hpl, Option.map_some, Option.some.injEq, Ev.eff.injEq] at he; subst he
            unfold fieldT at hf
            split at hf
            · rename_i fs hu
              split at hf
              · rename_i fd hfd
                split at hf
                · rename_i m hm
                  split at hf <;> cases hf
                  obtain ⟨v, h1, h2⟩ := run_part (P := P) (w := w) hm hag hpl hv2 hv3
                  refine ⟨v, ?_, h2, rfl, rfl, rfl⟩
                  simp [execOp, Instr.field, run_underlying hu, hfd, hv1, asAgg, h1]
                · cases hf
              · cases hf
            · cases hf
        · cases he
    · cases hc
  case build t parts =>
    split at hc
    · rename_i z ps fs hz hps hu
      split at hc
      · rename_i hall
        cases hc
        simp only [ev] at he
        cases hb : buildParts (val st.env) z ps with
        | none => simp [hb] at he
        | some r =>
          simp only [hb, Option.map_some, Option.some.injEq, Ev.eff.injEq] at he; subst he
          obtain ⟨i, zv, hi, hz0, hzc, hzl⟩ : ∃ i zv, P.info? t = some i ∧ i.zero = some zv ∧ ofVals zv.cells.toList = some z ∧ z.length = i.size := by
            unfold zeroT at hz
            split at hz
            · rename_i i hi
              split at hz
              · rename_i zv hzv
                split at hz
                · rename_i cs hcs
                  split at hz <;> cases hz
                  rename_i hh
                  exact ⟨i, zv, hi, hzv, hcs, hh.1⟩
                · cases hz
              · cases hz
            · cases hz
          have hpl := run_places (P := P) (w := w) fs.toList (fun f hf => List.all_eq_true.1 hall f hf)
          have hps' : ∀ (l : List (Nat × Operand)) (ps : List (Nat × Nat × Opd)), buildT P t l = some ps → All2 (fun (p : Nat × Operand) (q : Nat × Nat × Opd) => (Option.map (fun f => (f.offset, (sizeT P f.type).getD 0)) fs[p.1]?) = some (q.1, q.2.1) ∧ q.2.1 ≠ 0 ∧ VE I w ρ st.cnt (a.eval p.2) (val st.env q.2.2)) l ps := by
            intro l
            induction l with
            | nil => intro ps hp; simp [buildT] at hp; subst hp; exact .nil
            | cons p l ih =>
              intro ps hp
              obtain ⟨pi, px⟩ := p
              simp only [buildT] at hp
              split at hp
              · rename_i off n ft u us h1 h2 h3
                cases hp
                refine .cons ?_ (ih _ h3)
                unfold fieldT at h1
                rw [hu] at h1
                simp only [] at h1
                split at h1
                · rename_i fd hfd
                  split at h1
                  · rename_i m hm
                    split at h1 <;> cases h1
                    rename_i hm0
                    exact ⟨by simp [hfd, hm], hm0, h.opd h2⟩
                  · cases h1
                · cases h1
              · cases hp
          obtain ⟨c1, c2⟩ := ofVals_ce (I := I) (w := w) (ρ := ρ) (cnt := st.cnt) hzc
          obtain ⟨cells', f1, f2, f3⟩ := fill_sim (I := I) (w := w) (ρ := ρ) (cnt := st.cnt) (fun i => Option.map (fun f => (f.offset, (sizeT P f.type).getD 0)) fs[i]?) a.eval (val st.env) parts.toList ps zv.cells z r (hps' _ _ hps) c1 c2 hb
          refine ⟨.agg cells', ?_, ⟨cells', rfl, f2, f3⟩, rfl, rfl, rfl⟩
          simp [execOp, Instr.build, zeroValue, typeInfo, run_underlying hu, Array.mapM_eq_mapM_toList, hpl, hi, hz0, f1]
      · cases hc
    · cases hc
  case call cl =>
    obtain ⟨callee, args, argTypes⟩ := cl
    cases callee
    case builtin b =>
      cases b <;> try dsimp only at hc
      case len =>
        split at hc
        · rename_i x hb hx
          obtain ⟨y, hy, hyx⟩ := opds_one hx
          have hargs : args = #[y] := by apply Array.ext'; simpa using hy
          subst hargs
          have hv := h.opd hyx
          split at hc <;> cases hc
          · rename_i et ht
            have ht : ∃ t0, argTypes[0]? = some t0 ∧ P.underlying t0 = some (.slice et) := by
              cases h0 : argTypes[0]? with
              | none => simp [h0] at ht
              | some t0 => exact ⟨t0, rfl, by simpa [h0] using ht⟩
            obtain ⟨t0, h0, hu⟩ := ht
            have fin : ∀ (A : Option Addr) (n cap : Nat), a.eval y = .slice A n cap → (execOp a.eval { dst := dst, op := .call { callee := .builtin .len, args := #[y], argTypes := argTypes }, type := type, pos := pos, after := after, guard := guard }).run P w = .ok (.value (.int .i64 n)) w := fun A n cap hv => by
              simp [execOp, resolve, invoke, builtin, Builtin.len_, h0, run_underlying hu, hv, goInt]
            simp only [ev] at he
            split at he
            case h_1 xs hf hxs =>
              cases he
              rw [hxs] at hv
              have hv : CT I w (a.eval y) (.sl xs) := hv
              generalize hvv : a.eval y = vv at hv
              cases hv with
              | sl0 A cap => exact ⟨_, fin _ _ _ hvv, mk_int _ _, rfl, rfl, rfl⟩
              | sl => exact ⟨_, fin _ _ _ hvv, mk_int _ _, rfl, rfl, rfl⟩
            case h_2 k g e n hf hxs =>
              cases he
              rw [hxs] at hv
              exact ⟨_, fin _ _ _ hv.2.2.1, mk_int _ _, rfl, rfl, rfl⟩
            case h_3 hf hxs =>
              cases he
              rw [hxs] at hv
              exact ⟨_, fin _ _ _ hv, mk_int _ _, rfl, rfl, rfl⟩
            case h_4 hf hxs => cases hf
            case h_5 => cases he
          · rename_i ht
            have ht : ∃ t0, argTypes[0]? = some t0 ∧ P.underlying t0 = some .string := by
              cases h0 : argTypes[0]? with
              | none => simp [h0] at ht
              | some t0 => exact ⟨t0, rfl, by simpa [h0] using ht⟩
            obtain ⟨t0, h0, hu⟩ := ht
            simp only [ev] at he
            split at he
            case h_4 s hf hs =>
              cases he
              rw [hs] at hv
              refine ⟨_, ?_, mk_int _ _, rfl, rfl, rfl⟩
              simp [execOp, resolve, invoke, builtin, Builtin.len_, h0, run_underlying hu, show a.eval y = .string s from ve_str hv, goInt]
            case h_5 => cases he
            all_goals (rename_i hf _; cases hf)
        all_goals contradiction
      case max =>
        split at hc
        case h_3 x y hb hx =>
          obtain ⟨x1, y1, hy, hx1, hy1⟩ := opds_two hx
          have hargs : args = #[x1, y1] := by apply Array.ext'; simpa using hy
          subst hargs
          cases hc
          have hv := h.opd hx1
          have hu := h.opd hy1
          simp only [ev] at he
          split at he
          · rename_i k p k' q hp hq
            rw [hp] at hv; rw [hq] at hu
            split at he <;> cases he
            refine ⟨_, ?_, mk_int _ _, rfl, rfl, rfl⟩
            simp [execOp, resolve, invoke, builtin, Builtin.max_, Builtin.max2, show a.eval x1 = .int k p from ve_int hv, show a.eval y1 = .int k' q from ve_int hu]
          · cases he
        all_goals contradiction
      case min =>
        split at hc
        case h_4 x y hb hx =>
          obtain ⟨x1, y1, hy, hx1, hy1⟩ := opds_two hx
          have hargs : args = #[x1, y1] := by apply Array.ext'; simpa using hy
          subst hargs
          cases hc
          have hv := h.opd hx1
          have hu := h.opd hy1
          simp only [ev] at he
          split at he
          · rename_i k p k' q hp hq
            rw [hp] at hv; rw [hq] at hu
            split at he <;> cases he
            refine ⟨_, ?_, mk_int _ _, rfl, rfl, rfl⟩
            simp [execOp, resolve, invoke, builtin, Builtin.min_, Builtin.min2, show a.eval x1 = .int k p from ve_int hv, show a.eval y1 = .int k' q from ve_int hu]
          · cases he
        all_goals contradiction
      case append => (repeat' split at hc) <;> first | contradiction | (cases hc; simp [TOp.quiet] at hq; done)
      all_goals cases hc
    case value f =>
      cases f <;> try (cases hc; done)
      rename_i g
      cases hx : opds args.toList with
      | none => simp [hx] at hc
      | some ys => simp only [hx, Option.map_some, Option.some.injEq] at hc; subst hc; simp [TOp.quiet] at hq
    case invoke => cases hc
  case index t x i =>
    split at hc
    · rename_i x' i' hu hx hi
      cases hc
      simp only [ev] at he
      have hxv := h.opd hx
      have hiv := h.opd hi
      split at he
      · rename_i s kk ix hxx hii
        rw [hxx] at hxv; rw [hii] at hiv
        split at he
        · rename_i h0
          split at he <;> cases he
          rename_i b hb
          refine ⟨_, ?_, mk_int _ _, rfl, rfl, rfl⟩
          simp [execOp, Instr.index, show a.eval x = .string s from ve_str hxv, show a.eval i = .int kk ix from ve_int hiv, asIntOf, run_underlying hu, h0, hb]
        · cases he
      · cases he
    · cases hc
  case extract x i =>
    cases hx : opd x with
    | none => simp [hx] at hc
    | some y =>
      simp only [hx, Option.map_some, Option.some.injEq] at hc; subst hc
      simp only [ev] at he
      have hv := h.opd hx
      split at he
      · rename_i ts hts
        rw [hts] at hv
        obtain ⟨vs, hv1, hv2⟩ := hv
        cases hti : ts[i]? with
        | none => simp [hti] at he
        | some t =>
          simp only [hti, Option.map_some, Option.some.injEq, Ev.eff.injEq] at he; subst he
          obtain ⟨u, hu, hr⟩ := hv2.get_r i t hti
          refine ⟨u, ?_, VE.of_va hr, rfl, rfl, rfl⟩
          have : vs[i]? = some u := by simpa using hu
          simp [execOp, Instr.extract, hv1, this]
      · cases he
  case slice t x lo hi mx => (repeat' split at hc) <;> first | contradiction | (cases hc; simp [TOp.quiet] at hq; done) | (simp only [Option.map_eq_some_iff] at hc; obtain ⟨p, _, rfl⟩ := hc; simp [TOp.quiet] at hq)
  case buildSlice t len parts => (repeat' split at hc) <;> first | (cases hc; done) | (cases hc; simp [TOp.quiet] at hq; done)
  case makeSlice t l q => split at hc <;> (try split at hc) <;> (try split at hc) <;> cases hc; simp [TOp.quiet] at hq
  all_goals cases hc
end
end Go.TM
end
section
namespace Go.TM
set_option linter.unusedVariables false
set_option linter.unusedSimpArgs false
section
variable {P : Program} {C : Ctx} {ρ : Nat → Nat → Loc} {I : Nat → Nat → Prop} {w : World} {a : Act} {st : St}
theorem Rel.new (h : Rel C ρ I w a st) {d : Nat} (hd : d < C.n) {w' : World} {cells : Array Value} {ty : TypeId} (hw : w'.heap = w.heap.push (.cells cells ty)) (ho : w'.os = w.os) (ht : w'.tape = w.tape) (hp : w'.output = w.output)
    {o : Obj} {cap : Nat} (hpos : 0 < o.esz) (hlen : ∀ x ∈ o.cont, x.length = o.esz) (hcap : o.cont.length ≤ cap) (hsz : cells.size = cap * o.esz) (hone : ∀ u ∈ cells.toList, u.oneCell' = true)
    (hc : ∀ (i j : Nat) (x : List TV) (c : TV), o.cont[i]? = some x → x[j]? = some c → ∃ u, cells[i * o.esz + j]? = some u ∧ (if o.box then CE I w ρ st.cnt u c else CT I w u c))
    (hbox : o.box = true → o.solo = true ∧ o.tip = false) {v : Value} {t : TV}
    (hv : (t = .ptr d (st.cnt d) 0 0 ∧ v = .pointer (some ⟨w.heap.size, 0, none⟩)) ∨ ∃ n, t = .hs d (st.cnt d) o.esz n ∧ n ≤ cap ∧ v = .slice (some ⟨w.heap.size, 0, none⟩) n cap) :
    ∃ ρ', Rel C ρ' I w' (a.put (some d) v) { env := upd st.env d t, obj := updO st.obj d (st.cnt d) (some o), cnt := upd st.cnt d (st.cnt d + 1) } := by
  have hsize : w'.heap.size = w.heap.size + 1 := by rw [hw]; simp
  have hold : ∀ b, b < w.heap.size → w'.heap[b]? = w.heap[b]? := fun b hb => by rw [hw, Array.getElem?_push, if_neg (by omega)]
  have g := h.grow (w' := w') (by omega) hold ho ht hp
  have m : Mv I I w w' ρ ρ st.cnt st.cnt := ⟨fun _ _ h => h, fun b o hi => World.cell?_of_block (hold b (h.Iin b o hi)), fun _ _ _ => rfl, fun _ => Nat.le_refl _⟩
  have hor : OR I w' ρ st.cnt ⟨w.heap.size, cap, o.esz⟩ o :=
    { esz := rfl, pos := hpos, len := hlen, cap := hcap
      lies := ⟨cells, ty, by show w'.heap[w.heap.size]? = _; rw [hw]; simp, hsz, hone, fun i j x c hx hj => by
        obtain ⟨u, hu, hr⟩ := hc i j x c hx hj
        refine ⟨u, hu, ?_⟩
        split
        · rename_i hb; rw [if_pos hb] at hr; exact m.ce hr
        · rename_i hb; rw [if_neg hb] at hr; exact m.ct hr⟩ }
  have r := g.add (d := d) hor (Nat.le_trans h.fr.size (Nat.le_refl _)) (fun off hi => absurd (h.Iin _ _ hi) (Nat.lt_irrefl _))
    (fun k g' o' hk e => by have := (h.obj k g' o' hk).1.blk_lt; simp at e; omega) hbox
  refine ⟨_, r.put (d := d) (v := v) (t := t) hd ?_⟩
  rcases hv with ⟨rfl, rfl⟩ | ⟨n, rfl, hn, rfl⟩
  · exact ⟨by simp, by simp⟩
  · exact ⟨by simp, by simp, by simp, by simpa using hn⟩
theorem apply_new (d : Nat) (v : TV) (o : Obj) (st : St) : apply (some d) { v := v, new := [o] } st = { env := upd st.env d v, obj := updO st.obj d (st.cnt d) (some o), cnt := upd st.cnt d (st.cnt d + 1) } := rfl
theorem run_newVar {t : TypeId} {v : Value} : (newVar t v).run P w = .ok ⟨w.heap.size, 0, none⟩ { w with heap := w.heap.push (.cells v.cells t) } := by
  simp [newVar, newRow, newObj, Sem.run]
theorem sim_box (h : Rel C ρ I w a st) {hh : Nat → Nat × List Nat} {o : Oper} {n d : Nat} {x : Opd} {ob : Nat → Nat → Option Obj} {e : Eff} (hd : d < C.n)
    (hc : compOp P hh o = some (.box n x)) (he : ev (.box n x) d (st.cnt d) (val st.env) ob = some (.eff e)) :
    ∃ v w' ρ', (execOp a.eval o).run P w = .ok (.value v) w' ∧ Rel C ρ' I w' (a.put (some d) v) (apply (some d) e st) := by
  obtain ⟨dst, op, type, pos, after, guard⟩ := o
  have : ∃ t y, op = .box t y ∧ n ≠ 0 ∧ opd y = some x := by
    cases op <;> simp only [compOp] at hc <;> (repeat' split at hc) <;> first
      | contradiction
      | (cases hc; done)
      | (cases hc; exact ⟨_, _, rfl, ‹_›, ‹_›⟩)
      | (simp [Option.map_eq_some_iff] at hc; done)
  obtain ⟨t, y, rfl, hn, hy⟩ := this
  simp only [ev] at he
  split at he
  · rename_i hl
    simp only [Option.some.injEq, Ev.eff.injEq] at he
    subst he
    have hv := h.opd hy
    have hne : (val st.env x).cells ≠ [] := fun e => by rw [e] at hl; exact hn (by simpa using hl.symm)
    obtain ⟨c1, c2⟩ := ve_cells hv hne
    have hsz : (a.eval y).cells.size = n := by have := c1.length; simpa [hl] using this
    refine ⟨.pointer (some ⟨w.heap.size, 0, none⟩), { w with heap := w.heap.push (.cells (a.eval y).cells t) }, ?_⟩
    rw [apply_new]
    obtain ⟨ρ', r⟩ := h.new (d := d) hd (w' := { w with heap := w.heap.push (.cells (a.eval y).cells t) }) (cells := (a.eval y).cells) (ty := t) rfl rfl rfl rfl
      (o := { cont := [(val st.env x).cells], esz := n, box := true, solo := true, tip := false }) (cap := 1) (by simp; omega) (by simp [hl]) (by simp) (by simp [hsz]) c2
      (fun i j z c hz hj => by
        cases i with
        | zero =>
          simp at hz; subst hz
          obtain ⟨u, hu, hr⟩ := c1.get_r j c hj
          exact ⟨u, by simpa using hu, by simpa using hr⟩
        | succ i => simp at hz) (fun _ => ⟨rfl, rfl⟩) (.inl ⟨rfl, rfl⟩)
    exact ⟨ρ', by simp [execOp, Instr.box, run_newVar], r⟩
  · cases he
theorem zeroT_spec {t : TypeId} {z : List TV} (h : zeroT P t = some z) : ∃ i zv, P.info? t = some i ∧ i.zero = some zv ∧ ofVals zv.cells.toList = some z ∧ z.length = i.size ∧ 0 < i.size := by
  unfold zeroT at h
  split at h
  · rename_i i hi
    split at h
    · rename_i zv hzv
      split at h
      · rename_i cs hcs
        split at h <;> cases h
        rename_i hh
        exact ⟨i, zv, hi, hzv, hcs, hh⟩
      · cases h
    · cases h
  · cases h
theorem elemT_spec {t : TypeId} {n e : Nat} (h : elemT P t = some (n, e)) : P.underlying t = some (.slice e) ∧ sizeT P e = some n ∧ n ≠ 0 := by
  unfold elemT at h
  split at h
  · rename_i u hu
    split at h
    · rename_i m hm
      split at h <;> cases h
      exact ⟨hu, hm, ‹_›⟩
    · cases h
  · cases h
theorem ofVals_len : ∀ {vs : List Value} {ts : List TV}, ofVals vs = some ts → vs.length = ts.length := fun h => (ofVals_ce (I := fun _ _ => False) (w := default) (ρ := fun _ _ => ⟨0, 0, 0⟩) (cnt := fun _ => 0) h).1.length
theorem ofVal1_ct {v : Value} {t : TV} (h : ofVal1 v = some t) : CT I w v (view1 t) := by
  unfold ofVal1 at h
  split at h <;> first | (cases h; first | exact .int _ _ | exact .bool _ | exact .str _ | exact .sl0 _ _) | cases h
theorem sim_alloc (h : Rel C ρ I w a st) {hh : Nat → Nat × List Nat} {o : Oper} {cells : List TV} {d : Nat} {ob : Nat → Nat → Option Obj} {e : Eff} (hd : d < C.n)
    (hc : compOp P hh o = some (.alloc cells)) (he : ev (.alloc cells) d (st.cnt d) (val st.env) ob = some (.eff e)) :
    ∃ v w' ρ', (execOp a.eval o).run P w = .ok (.value v) w' ∧ Rel C ρ' I w' (a.put (some d) v) (apply (some d) e st) := by
  obtain ⟨dst, op, type, pos, after, guard⟩ := o
  have : ∃ t, op = .alloc t ∧ zeroT P t = some cells := by
    cases op <;> simp only [compOp] at hc <;> (repeat' split at hc) <;> first
      | contradiction
      | (cases hc; done)
      | (simp [Option.map_eq_some_iff] at hc; exact ⟨_, rfl, hc⟩)
      | (simp [Option.map_eq_some_iff] at hc; done)
  obtain ⟨t, rfl, hz⟩ := this
  obtain ⟨i, zv, hi, hz0, hzc, hzl, hzp⟩ := zeroT_spec hz
  obtain ⟨c1, c2⟩ := ofVals_ce (I := I) (w := w) (ρ := ρ) (cnt := st.cnt) hzc
  simp only [ev, Option.some.injEq, Ev.eff.injEq] at he
  subst he
  refine ⟨.pointer (some ⟨w.heap.size, 0, none⟩), { w with heap := w.heap.push (.cells zv.cells t) }, ?_⟩
  rw [apply_new]
  have hl := c1.length
  obtain ⟨ρ', r⟩ := h.new (d := d) hd (w' := { w with heap := w.heap.push (.cells zv.cells t) }) (cells := zv.cells) (ty := t) rfl rfl rfl rfl
    (o := { cont := [cells], esz := cells.length, box := true, solo := true, tip := false }) (cap := 1) (by simp; omega) (by simp) (by simp) (by simpa using hl) c2
    (fun i j z c hz hj => by
      cases i with
      | zero =>
        simp at hz; subst hz
        obtain ⟨u, hu, hr⟩ := c1.get_r j c hj
        exact ⟨u, by simpa using hu, by simpa using hr⟩
      | succ i => simp at hz) (fun _ => ⟨rfl, rfl⟩) (.inl ⟨rfl, rfl⟩)
  exact ⟨ρ', by simp [execOp, Instr.alloc, zeroValue, typeInfo, hi, hz0, run_newVar], r⟩
theorem range_cells (z : Array Value) (n k : Nat) (hz : 0 < z.size) (hk : k < n) : ((Array.range n).map (z[· % z.size]!))[k]? = z[k % z.size]? := by
  have h1 : k % z.size < z.size := Nat.mod_lt _ hz
  simp [hk, h1]
theorem ofVals_ct : ∀ {vs : List Value} {ts : List TV}, ofVals vs = some ts → All2 (CT I w) vs (ts.map view1)
  | [], ts, h => by simp [ofVals] at h; subst h; exact .nil
  | v :: vs, ts, h => by
    simp only [ofVals] at h
    split at h
    · rename_i u us h1 h2; cases h; exact .cons (ofVal1_ct h1) (ofVals_ct h2)
    · cases h
theorem zero_row {z : Array Value} {zs : List TV} {n : Nat} (hz : All2 (CT I w) z.toList zs) (hp : 0 < zs.length) : ∀ (i j : Nat) (x : List TV) (c : TV), (List.replicate n zs)[i]? = some x → x[j]? = some c →
    ∃ u, ((Array.range (n * zs.length)).map (z[· % z.size]!))[i * zs.length + j]? = some u ∧ CT I w u c := by
  intro i j x c hx hc
  have hzl : z.size = zs.length := by simpa using hz.length
  rw [List.getElem?_replicate] at hx
  split at hx
  · rename_i hi
    cases hx
    obtain ⟨hj, _⟩ := List.getElem?_eq_some_iff.1 hc
    obtain ⟨u, hu, hr⟩ := hz.get_r j c hc
    refine ⟨u, ?_, hr⟩
    have hlt : i * zs.length + j < n * zs.length := by
      have : (i + 1) * zs.length ≤ n * zs.length := Nat.mul_le_mul_right _ hi
      rw [Nat.add_mul] at this; omega
    rw [range_cells z _ _ (by omega) hlt, hzl, Nat.mul_comm, Nat.mul_add_mod, Nat.mod_eq_of_lt hj]
    simpa using hu
  · cases hx
theorem zero_one {z : Array Value} {zs : List TV} (n : Nat) (hz : All2 (CT I w) z.toList zs) (hp : 0 < zs.length) : ∀ u ∈ ((Array.range n).map (z[· % z.size]!)).toList, u.oneCell' = true := by
  intro u hu
  have hzl : z.size = zs.length := by simpa using hz.length
  obtain ⟨k, hk, rfl⟩ := List.getElem_of_mem hu
  have hk' : k < n := by simpa using hk
  have h1 : k % z.size < z.size := Nat.mod_lt _ (by omega)
  have e := range_cells z n k (by omega) hk'
  have e2 : ((Array.range n).map (z[· % z.size]!)).toList[k]? = some ((Array.range n).map (z[· % z.size]!)).toList[k] := List.getElem?_eq_getElem hk
  have e3 : ((Array.range n).map (z[· % z.size]!)).toList[k]? = z[k % z.size]? := by rw [← e, Array.getElem?_toList]
  rw [e3] at e2
  have h2 : k % z.size < zs.length := by omega
  exact (hz.get (k % z.size) _ _ (by simpa using e2) (List.getElem?_eq_getElem h2)).one
theorem sim_mk (h : Rel C ρ I w a st) {hh : Nat → Nat × List Nat} {o : Oper} {es : Nat} {z : List TV} {x : Opd} {d : Nat} {ob : Nat → Nat → Option Obj} {e : Eff} (hd : d < C.n)
    (hc : compOp P hh o = some (.mk es z x)) (he : ev (.mk es z x) d (st.cnt d) (val st.env) ob = some (.eff e)) :
    ∃ v w' ρ', (execOp a.eval o).run P w = .ok (.value v) w' ∧ Rel C ρ' I w' (a.put (some d) v) (apply (some d) e st) := by
  obtain ⟨dst, op, type, pos, after, guard⟩ := o
  have : ∃ t l q et z0 i, op = .makeSlice t l q ∧ elemT P t = some (es, et) ∧ zeroT P et = some z0 ∧ z = z0.map view1 ∧ P.info? et = some i ∧ opd l = some x ∧ sameOpd l q = true ∧ z0.length = es ∧ i.bytes ≤ 4096 := by
    cases op <;> simp only [compOp] at hc <;> (repeat' split at hc) <;> first
      | contradiction
      | (cases hc; done)
      | (simp [Option.map_eq_some_iff] at hc; done)
      | (rename_i hcond; cases hc; exact ⟨_, _, _, _, _, _, rfl, ‹_›, ‹_›, rfl, ‹_›, ‹_›, hcond⟩)
  obtain ⟨t, l, q, et, z0, i, rfl, hel, hz, rfl, hi, hx, hsame, hz0, hby⟩ := this
  obtain ⟨hu, hsz, hn0⟩ := elemT_spec hel
  obtain ⟨i', zv, hi', hzv, hzc, hzl, hzp⟩ := zeroT_spec hz
  cases hi.symm.trans hi'
  have hct := ofVals_ct (I := I) (w := w) hzc
  have hv := h.opd hx
  simp only [ev] at he
  split at he
  · rename_i m hm
    rw [hm] at hv
    have hl : a.eval l = .int .i64 m := ve_int hv
    have hq : a.eval q = .int .i64 m := by
      cases l <;> cases q <;> simp only [sameOpd] at hsame
      case tmp.tmp p r => have := eq_of_beq hsame
                          subst this; exact hl
      case const.const p r =>
        split at hsame
        · rename_i hp hr
          cases hp
        · rename_i hp hr
          cases hp; cases hr
          have := eq_of_beq hsame
          subst this; exact hl
        · cases hsame
      all_goals cases hsame
    split at he
    · rename_i hm2
      simp only [Option.some.injEq, Ev.eff.injEq] at he
      subst he
      have hes : (z0.map view1).length = es := by simpa using hz0
      refine ⟨.slice (some ⟨w.heap.size, 0, none⟩) m.toNat m.toNat, { w with heap := w.heap.push (.cells ((Array.range (m.toNat * es)).map (zv.cells[· % zv.cells.size]!)) et) }, ?_⟩
      rw [apply_new]
      obtain ⟨ρ', r⟩ := h.new (d := d) hd (w' := { w with heap := w.heap.push (.cells ((Array.range (m.toNat * es)).map (zv.cells[· % zv.cells.size]!)) et) }) (cells := ((Array.range (m.toNat * es)).map (zv.cells[· % zv.cells.size]!))) (ty := et) rfl rfl rfl rfl
        (o := { cont := List.replicate m.toNat (z0.map view1), esz := es, box := false, solo := true, tip := true }) (cap := m.toNat) (by simp; omega)
        (by intro x hx; have := List.eq_of_mem_replicate hx; rw [this]; exact hes) (by simp) (by simp)
        (zero_one _ hct (by omega))
        (fun i j x c hx hj => by
          obtain ⟨u, h1, h2⟩ := zero_row (n := m.toNat) hct (by omega) i j x c hx hj
          rw [hes] at h1
          exact ⟨u, h1, by simpa using h2⟩) (by simp) (t := .hs d (st.cnt d) es m.toNat) (.inr ⟨_, rfl, Nat.le_refl _, rfl⟩)
      refine ⟨ρ', ?_, r⟩
      have hw : IntKind.i64.wrap m = m := by simp only [IntKind.wrap, IntKind.bits, IntKind.signed]; simp; omega
      have hlt : ¬ m < 0 := by omega
      have hb : ¬ ((281474976710656 : Int) < i.bytes * m) := by
        have h1 : (i.bytes : Int) * m ≤ 4096 * m := Int.mul_le_mul_of_nonneg_right (by omega) hm2.1
        have : (4096 : Int) * m ≤ 4096 * 2147483648 := by omega
        omega
      have hroom : ¬ (m.toNat * i.bytes > roomBytes) := by
        have h1 : m.toNat * i.bytes ≤ 2147483648 * 4096 := Nat.mul_le_mul (by omega) hby
        simp only [roomBytes]; omega
      simp [execOp, Instr.makeSlice, run_underlying hu, hl, hq, asInt, asIntOf, typeInfo, hi, hw, hlt, askRoom, hroom, run_sizeT hsz, hb]
      by_cases h0 : m.toNat * es = 0
      · have hm0 : m.toNat = 0 := (Nat.mul_eq_zero.1 h0).resolve_right hn0
        have hr : Array.range 0 = #[] := rfl
        simp [hm0, newRow, newObj, Sem.run, hr]
      · have hm0 : m.toNat ≠ 0 := fun e => h0 (by rw [e, Nat.zero_mul])
        have hm1 : ¬ m ≤ 0 := by omega
        simp [hm0, hm1, hn0, zeroValue, typeInfo, hi, hzv, newRow, newObj, Sem.run]
        exact fun e => absurd e h0
    · cases he
  · cases he
def SubC (ob ob' : Nat → Nat → Option Obj) : Prop := ∀ k g o', ob' k g = some o' → ∃ o, ob k g = some o ∧ o'.cont = o.cont ∧ o'.esz = o.esz ∧ o'.box = o.box
theorem Sub.c {ob ob' : Nat → Nat → Option Obj} (h : Sub ob ob') : SubC ob ob' := fun k g o' hk => let ⟨o, h1, h2, h3, h4, _⟩ := h k g o' hk; ⟨o, h1, h2, h3, h4⟩
theorem SubC.unsolo {ob ob' : Nat → Nat → Option Obj} (h : SubC ob ob') (l : List (Nat × Nat)) : SubC (l.foldl unsolo1 ob) ob' := fun k g o' hk => by
  obtain ⟨o, h1, h2, h3, h4⟩ := h k g o' hk
  obtain ⟨p, p1, p2, p3, p4, _⟩ := unsolo_keeps l ob k g o h1
  exact ⟨p, p1, by rw [p2, h2], by rw [p3, h3], by rw [p4, h4]⟩
def Frozen (I : Nat → Nat → Prop) (ρ : Nat → Nat → Loc) (ob : Nat → Nat → Option Obj) (l : List (Nat × Nat)) : Prop :=
  ∀ p, p ∈ l → ∀ o, ob p.1 p.2 = some o → o.box = false → ∀ off, off < o.cont.length * o.esz → I (ρ p.1 p.2).blk off
theorem Frozen.sub {ob : Nat → Nat → Option Obj} {l l' : List (Nat × Nat)} (h : Frozen I ρ ob l) (hl : ∀ p, p ∈ l' → p ∈ l) : Frozen I ρ ob l' := fun p hp => h p (hl p hp)
abbrev ORs (I : Nat → Nat → Prop) (w : World) (ρ : Nat → Nat → Loc) (cnt : Nat → Nat) (ob : Nat → Nat → Option Obj) : Prop := ∀ k g o, ob k g = some o → OR I w ρ cnt (ρ k g) o
theorem Rel.ors (h : Rel C ρ I w a st) : ORs I w ρ st.cnt st.obj := fun k g o hk => (h.obj k g o hk).1
theorem hs_ct {cnt : Nat → Nat} {ob0 : Nat → Nat → Option Obj} (h : ORs I w ρ cnt ob0) {k g n cap : Nat} {o : Obj} (ho : ob0 k g = some o) (hb : o.box = false) (hn : n ≤ o.cont.length) (hcap : n ≤ cap) (hI : ∀ off, off < o.cont.length * o.esz → I (ρ k g).blk off) :
    CT I w (.slice (some ⟨(ρ k g).blk, 0, none⟩) n cap) (.sl (o.cont.take n)) := by
  have hor := h k g o ho
  obtain ⟨cells, ty, h1, h2, h4, h3⟩ := hor.lies
  by_cases hz : n = 0
  · subst hz; simpa using CT.sl0 (some ⟨(ρ k g).blk, 0, none⟩) cap
  · have hlen : (o.cont.take n).length = n := by simp; omega
    have key : ∀ i j, i < n → j < o.esz → ∃ u, cells[i * o.esz + j]? = some u ∧ ∀ (x : List TV) (c : TV), o.cont[i]? = some x → x[j]? = some c → CT I w u c := fun i j hi hj => by
      have hi' : i < o.cont.length := by omega
      have hx := hor.len _ (List.getElem_mem hi')
      obtain ⟨u, hu, hr⟩ := h3 i j _ _ (List.getElem?_eq_getElem hi') (List.getElem?_eq_getElem (by omega : j < o.cont[i].length))
      rw [hb] at hr
      refine ⟨u, hu, fun x c hx hc => ?_⟩
      rw [List.getElem?_eq_getElem hi'] at hx
      cases hx
      rw [List.getElem?_eq_getElem (by omega : j < o.cont[i].length)] at hc
      cases hc
      simpa using hr
    have hct := CT.sl (I := I) (w := w) (ρ k g).blk 0 cap o.esz (o.cont.take n) (fun i j => (cells[i * o.esz + j]?).getD undef) (by intro e; rw [e] at hlen; simp at hlen; omega) (by rw [hlen]; exact hcap) hor.pos
      (fun x hx => hor.len x (List.mem_of_mem_take hx))
      (fun i j hi hj => by
        rw [hlen] at hi
        obtain ⟨u, hu, _⟩ := key i j hi hj
        have hlt : i * o.esz + j < o.cont.length * o.esz := by
          have : (i + 1) * o.esz ≤ o.cont.length * o.esz := Nat.mul_le_mul_right _ (by omega)
          rw [Nat.add_mul] at this; omega
        refine ⟨by simpa using hI _ hlt, ?_⟩
        simp [World.cell?, h1, hu])
      (fun i j x c hx hc => by
        have hi : i < n := by
          obtain ⟨hh, _⟩ := List.getElem?_eq_some_iff.1 hx
          rw [hlen] at hh; exact hh
        rw [List.getElem?_take, if_pos hi] at hx
        obtain ⟨hj, _⟩ := List.getElem?_eq_some_iff.1 hc
        have hj' : j < o.esz := by rw [hor.len x (List.mem_of_getElem? hx)] at hj; exact hj
        obtain ⟨u, hu, hr⟩ := key i j hi hj'
        simp only [hu, Option.getD_some]
        exact hr x c hx hc)
    rw [hlen] at hct
    exact hct
theorem tree1_ct {cnt : Nat → Nat} {ob0 : Nat → Nat → Option Obj} (h : ORs I w ρ cnt ob0) {ob : Nat → Nat → Option Obj} (hob : SubC ob0 ob) {v : Value} {c c' : TV} (hI : Frozen I ρ ob0 (hand1 c)) (hv : CE I w ρ cnt v c) (ht : tree1 ob c = some c') : CT I w v c' := by
  unfold tree1 at ht
  split at ht
  · cases ht; exact hv
  · cases ht; exact hv
  · cases ht; exact hv
  · cases ht; exact hv
  · cases ht; rw [show v = .slice none 0 0 from hv]; exact .sl0 _ _
  · rename_i k g e n
    split at ht
    · rename_i o' ho'
      split at ht
      · rename_i hcond
        cases ht
        obtain ⟨o, h1, h2, h3, h4⟩ := hob k g o' ho'
        obtain ⟨hlt, hes, hvv, hcap⟩ := hv
        rw [hvv, h2]
        refine hs_ct h h1 (by rw [← h4]; exact hcond.1) (by rw [← h2]; exact hcond.2.1) hcap (fun off hoff => ?_)
        exact hI (k, g) (by simp [hand1]) o h1 (by rw [← h4]; exact hcond.1) off hoff
      · cases ht
    · cases ht
  · cases ht
theorem trees_ct {cnt : Nat → Nat} {ob0 : Nat → Nat → Option Obj} (h : ORs I w ρ cnt ob0) {ob : Nat → Nat → Option Obj} (hob : SubC ob0 ob) {vs : List Value} {cs : List TV} (hvs : All2 (CE I w ρ cnt) vs cs) : ∀ {cs' : List TV}, Frozen I ρ ob0 (cs.flatMap hand1) → trees ob cs = some cs' → All2 (CT I w) vs cs' := by
  induction hvs with
  | nil => intro cs' _ ht; simp [trees] at ht; subst ht; exact .nil
  | cons hv hvs ih =>
    intro cs' hI ht
    simp only [trees] at ht
    split at ht
    · rename_i c' cs' h1 h2
      cases ht
      exact .cons (tree1_ct h hob (hI.sub fun p hp => by simp [hp]) hv h1) (ih (hI.sub fun p hp => by
        simp only [List.flatMap_cons, List.mem_append]; exact .inr hp) h2)
    · cases ht
theorem TA.of_ct {v : Value} {t : TV} (h : CT I w v t) : TA I w v t := by
  cases h <;> first | exact .int _ _ | exact .bool _ | exact .str _ | exact .sl0 _ _ | exact .sl _ _ _ _ _ _ ‹_› ‹_› ‹_› ‹_› ‹_› ‹_›
theorem tree_ta {cnt : Nat → Nat} {ob0 : Nat → Nat → Option Obj} (h : ORs I w ρ cnt ob0) {ob : Nat → Nat → Option Obj} (hob : SubC ob0 ob) {v : Value} {t t' : TV} (hI : Frozen I ρ ob0 (hands t)) (hv : VE I w ρ cnt v t) (ht : tree ob t = some t') : TA I w v t' := by
  cases t
  case agg cs =>
    obtain ⟨vs, hvv, hc, h1⟩ := hv
    simp only [tree] at ht
    cases hts : trees ob cs with
    | none => simp [hts] at ht
    | some cs' =>
      simp only [hts, Option.map_some, Option.some.injEq] at ht
      subst ht
      exact ⟨vs, hvv, trees_ct h hob hc (by simpa [hands, TV.cells] using hI) hts⟩
  case tup => simp [tree, tree1] at ht
  case undef => simp [tree, tree1] at ht
  case own => simp [tree, tree1] at ht
  case int k n => exact TA.of_ct (tree1_ct (c := .int k n) h hob (by simpa [hands, TV.cells] using hI) hv ht)
  case bool b => exact TA.of_ct (tree1_ct (c := .bool b) h hob (by simpa [hands, TV.cells] using hI) hv ht)
  case str s => exact TA.of_ct (tree1_ct (c := .str s) h hob (by simpa [hands, TV.cells] using hI) hv ht)
  case nils  => exact TA.of_ct (tree1_ct (c := .nils) h hob (by simpa [hands, TV.cells] using hI) hv ht)
  case sl xs => exact TA.of_ct (tree1_ct (c := .sl xs) h hob (by simpa [hands, TV.cells] using hI) hv ht)
  case hs k g e n => exact TA.of_ct (tree1_ct (c := .hs k g e n) h hob (by simpa [hands, TV.cells] using hI) hv ht)
  case ptr k g i j => exact TA.of_ct (tree1_ct (c := .ptr k g i j) h hob (by simpa [hands, TV.cells] using hI) hv ht)
  case rptr cs j => exact TA.of_ct (tree1_ct (c := .rptr cs j) h hob (by simpa [hands, TV.cells] using hI) hv ht)
end
end Go.TM
end
section
namespace Go.TM
set_option linter.unusedVariables false
set_option linter.unusedSimpArgs false
section
variable {P : Program} {C : Ctx} {ρ : Nat → Nat → Loc} {I : Nat → Nat → Prop} {w : World} {a : Act} {st : St}
structure RowOf (R : Value → TV → Prop) (cells : Array Value) (es : Nat) (acc : Cont) : Prop where
  len : ∀ x ∈ acc, x.length = es
  size : cells.size = acc.length * es
  one : ∀ u ∈ cells.toList, u.oneCell' = true
  rep : ∀ (i j : Nat) (x : List TV) (c : TV), acc[i]? = some x → x[j]? = some c → ∃ u, cells[i * es + j]? = some u ∧ R u c
theorem idx_lt {i j e n : Nat} (hi : i < n) (hj : j < e) : i * e + j < n * e := by
  have : (i + 1) * e ≤ n * e := Nat.mul_le_mul_right _ hi
  rw [Nat.add_mul] at this; omega
theorem idx_inj {i j i' j' e : Nat} (hj : j < e) (hj' : j' < e) (h : i * e + j = i' * e + j') : i = i' ∧ j = j' := by
  have h1 : (i * e + j) / e = i := by rw [Nat.mul_comm, Nat.mul_add_div (by omega), Nat.div_eq_of_lt hj]; simp
  have h2 : (i' * e + j') / e = i' := by rw [Nat.mul_comm, Nat.mul_add_div (by omega), Nat.div_eq_of_lt hj']; simp
  have : i = i' := by rw [← h1, ← h2, h]
  subst this
  exact ⟨rfl, by omega⟩
theorem RowOf.put {R : Value → TV → Prop} {cells cells' : Array Value} {es i : Nat} {acc : Cont} {vs : List Value} {cs : List TV} (h : RowOf R cells es acc) (hes : 0 < es) (hi : i < acc.length)
    (hv : All2 R vs cs) (h1 : ∀ u ∈ vs, u.oneCell' = true) (hl : cs.length = es) (hc : cells'.toList = cells.toList.take (i * es) ++ vs ++ cells.toList.drop (i * es + vs.length)) : RowOf R cells' es (acc.set i cs) := by
  have hvl : vs.length = es := by rw [hv.length, hl]
  have hle : i * es + es ≤ cells.size := by
    rw [h.size]
    have : (i + 1) * es ≤ acc.length * es := Nat.mul_le_mul_right _ hi
    rw [Nat.add_mul] at this; omega
  have hsz : cells'.size = cells.size := by
    have := congrArg List.length hc
    simp at this
    omega
  have get : ∀ k, cells'[k]? = if i * es ≤ k ∧ k < i * es + es then vs[k - i * es]? else cells[k]? := fun k => by
    rw [← Array.getElem?_toList, hc, List.append_assoc]
    by_cases h1 : k < i * es
    · rw [List.getElem?_append_left (by simp; omega), List.getElem?_take, if_pos h1, if_neg (by omega)]; simp
    · rw [List.getElem?_append_right (by simp; omega)]
      simp only [List.length_take, Array.length_toList]
      rw [Nat.min_eq_left (by omega)]
      by_cases h2 : k < i * es + es
      · rw [List.getElem?_append_left (by omega), if_pos (by omega)]
      · rw [List.getElem?_append_right (by omega), if_neg (by omega), List.getElem?_drop]
        rw [show i * es + vs.length + (k - i * es - vs.length) = k by omega]; simp
  refine ⟨fun x hx => ?_, by rw [hsz, h.size, List.length_set], fun u hu => ?_, fun i' j x c hx hj => ?_⟩
  · rcases List.mem_or_eq_of_mem_set hx with hx | rfl
    · exact h.len x hx
    · exact hl
  · rw [hc] at hu
    simp only [List.mem_append] at hu
    rcases hu with (hu | hu) | hu
    · exact h.one u (List.mem_of_mem_take hu)
    · exact h1 u hu
    · exact h.one u (List.mem_of_mem_drop hu)
  · by_cases e : i' = i
    · subst e
      rw [List.getElem?_set_self hi] at hx
      cases hx
      obtain ⟨hj', _⟩ := List.getElem?_eq_some_iff.1 hj
      obtain ⟨u, hu, hr⟩ := hv.get_r j c hj
      refine ⟨u, ?_, hr⟩
      rw [get, if_pos (by omega), Nat.add_sub_cancel_left]
      exact hu
    · rw [List.getElem?_set_ne (Ne.symm e)] at hx
      obtain ⟨hj', _⟩ := List.getElem?_eq_some_iff.1 hj
      have hxl := h.len x (List.mem_of_getElem? hx)
      obtain ⟨u, hu, hr⟩ := h.rep i' j x c hx hj
      refine ⟨u, ?_, hr⟩
      rw [get, if_neg ?_]
      · exact hu
      · rintro ⟨q1, q2⟩
        obtain ⟨m, hm⟩ : ∃ m, i' * es + j = i * es + m := ⟨i' * es + j - i * es, by omega⟩
        exact e (idx_inj (by omega) (by omega) hm).1
theorem fold_cells (off : Nat) (v : Value) (cells : Array Value) (h : off + v.cells.size ≤ cells.size) :
    (v.cells.zipIdx.foldl (fun cs (c, j) => cs.setIfInBounds (off + j) c) cells).toList = cells.toList.take off ++ v.cells.toList ++ cells.toList.drop (off + v.cells.toList.length) := by
  have e : (v.cells.zipIdx.foldl (fun cs (c, j) => cs.setIfInBounds (off + j) c) cells) = (v.cells.toList.zipIdx 0).foldl (fun cs p => cs.setIfInBounds (off + p.2) p.1) cells := by
    rw [← Array.foldl_toList]; simp
  rw [e, fold_splice off v.cells.toList 0 cells (by simp; omega)]
  simp
theorem fill_row (h : Rel C ρ I w a st) {ob : Nat → Nat → Option Obj} (hob : SubC st.obj ob) {es : Nat} (hes : 0 < es) : ∀ (parts : List (Nat × Operand)) (ps : List (Nat × Opd)) (cells : Array Value) (acc r : Cont),
    partsT parts = some ps → Frozen I ρ st.obj (ps.flatMap fun p => hands (val st.env p.2)) → RowOf (CT I w) cells es acc → sliceParts ob (val st.env) es acc ps = some r →
    ∃ cells', Instr.fill (fun i => some (i * es, es)) cells (parts.map fun p => (p.1, a.eval p.2)) = some cells' ∧ RowOf (CT I w) cells' es r
  | [], ps, cells, acc, r, hp, _, hr, hs => by
    simp [partsT] at hp; subst hp
    simp [sliceParts] at hs; subst hs
    exact ⟨cells, rfl, hr⟩
  | (i, x) :: parts, ps, cells, acc, r, hp, hI, hr, hs => by
    simp only [partsT] at hp
    split at hp
    · rename_i u us hu hus
      cases hp
      simp only [sliceParts] at hs
      split at hs
      · rename_i cs hcs
        split at hs
        · rename_i hcond
          obtain ⟨hl, hi⟩ := hcond
          have hv := h.opd hu
          have hne : (val st.env u).cells ≠ [] := fun e => by rw [e] at hcs; simp [trees] at hcs; subst hcs; simp at hl; omega
          obtain ⟨c1, c2⟩ := ve_cells hv hne
          have hct := trees_ct h.ors hob c1 (hI.sub fun p hp => by simp only [List.flatMap_cons, List.mem_append]; exact .inl hp) hcs
          have hsz : (a.eval x).cells.size = es := by have := hct.length; simpa [hl] using this
          have hle : i * es + es ≤ cells.size := by
            rw [hr.size]
            have : (i + 1) * es ≤ acc.length * es := Nat.mul_le_mul_right _ hi
            rw [Nat.add_mul] at this; omega
          have hput := hr.put hes hi hct (fun u hu => c2 u hu) hl (fold_cells (i * es) (a.eval x) cells (by omega))
          obtain ⟨cells', f1, f2⟩ := fill_row h hob hes parts us _ _ r hus (hI.sub fun p hp => by simp only [List.flatMap_cons, List.mem_append]; exact .inr hp) hput hs
          refine ⟨cells', ?_, f2⟩
          simp only [List.map_cons, Instr.fill, hsz]
          rw [if_neg (by simp; omega)]
          exact f1
        · cases hs
      · cases hs
    · cases hp
theorem partsT_val : ∀ {parts : List (Nat × Operand)} {ps : List (Nat × Opd)}, partsT parts = some ps → parts.length = ps.length
  | [], ps, h => by simp [partsT] at h; subst h; rfl
  | (i, x) :: parts, ps, h => by
    simp only [partsT] at h
    split at h
    · rename_i u us h1 h2; cases h; simp [partsT_val h2]
    · cases h
theorem sliceParts_len {ob : Nat → Nat → Option Obj} {vv : Opd → TV} {es : Nat} : ∀ {ps : List (Nat × Opd)} {acc r : Cont}, sliceParts ob vv es acc ps = some r → r.length = acc.length
  | [], acc, r, h => by simp [sliceParts] at h; subst h; rfl
  | (i, x) :: ps, acc, r, h => by
    simp only [sliceParts] at h
    split at h
    · split at h
      · have := sliceParts_len h; simpa using this
      · cases h
    · cases h
theorem sim_bslice (h : Rel C ρ I w a st) {hh : Nat → Nat × List Nat} {o : Oper} {es : Nat} {z : List TV} {len : Nat} {ps : List (Nat × Opd)} {d : Nat} {ob : Nat → Nat → Option Obj} {e : Eff} (hd : d < C.n) (hob : Sub st.obj ob)
    (hc : compOp P hh o = some (.bslice es z len ps)) (he : ev (.bslice es z len ps) d (st.cnt d) (val st.env) ob = some (.eff e)) :
    ∃ v w' ρ' I', (execOp a.eval o).run P w = .ok (.value v) w' ∧ Rel C ρ' I' w' (a.put (some d) v) (apply (some d) e st) := by
  obtain ⟨dst, op, type, pos, after, guard⟩ := o
  have : ∃ t parts et z0, op = .buildSlice t len parts ∧ elemT P t = some (es, et) ∧ zeroT P et = some z0 ∧ z = z0.map view1 ∧ partsT parts.toList = some ps ∧ len * es ≤ 16777216 ∧ z0.length = es := by
    cases op <;> simp only [compOp] at hc <;> (repeat' split at hc) <;> first
      | contradiction
      | (cases hc; done)
      | (simp [Option.map_eq_some_iff] at hc; done)
      | (rename_i hcond _; cases hc; exact ⟨_, _, _, _, rfl, ‹_›, ‹_›, rfl, ‹_›, hcond⟩)
  obtain ⟨t, parts, et, z0, rfl, hel, hz, rfl, hps, hsmall, hz0⟩ := this
  obtain ⟨hu, hsz, hn0⟩ := elemT_spec hel
  obtain ⟨i, zv, hi, hzv, hzc, hzl, hzp⟩ := zeroT_spec hz
  simp only [ev] at he
  cases hsp : sliceParts ob (val st.env) es (List.replicate len (z0.map view1)) ps with
  | none => simp [hsp] at he
  | some r =>
    simp only [hsp, Option.map_some, Option.some.injEq, Ev.eff.injEq] at he
    subst he
    obtain ⟨I', h', hII, hfro⟩ := h.freeze (ps.flatMap fun p => hands (val st.env p.2))
    have hct := ofVals_ct (I := I') (w := w) hzc
    have hes : (z0.map view1).length = es := by simpa using hz0
    have hzsz : zv.cells.size = es := by have := hct.length; simpa [hz0] using this
    let zc : Array Value := if len * es = 0 then #[] else zv.cells
    have hrow0 : RowOf (CT I' w) ((Array.range (len * es)).map (zc[· % zc.size]!)) es (List.replicate len (z0.map view1)) := by
      by_cases hl0 : len = 0
      · subst hl0
        refine ⟨by simp, by simp, ?_, by simp⟩
        intro u hu
        simp at hu
      · have hzc' : zc = zv.cells := by
          show (if len * es = 0 then _ else _) = _
          rw [if_neg (Nat.mul_ne_zero hl0 hn0)]
        rw [hzc']
        refine ⟨fun x hx => by rw [List.eq_of_mem_replicate hx]; exact hes, by simp, zero_one _ hct (by omega), fun i j x c hx hj => ?_⟩
        obtain ⟨u, h1, h2⟩ := zero_row (n := len) hct (by omega) i j x c hx hj
        rw [hes] at h1
        exact ⟨u, h1, h2⟩
    have hfro' : Frozen I' ρ (List.foldl unsolo1 st.obj (ps.flatMap fun p => hands (val st.env p.2))) (ps.flatMap fun p => hands (val st.env p.2)) := by
      intro p hp o ho hb off hoff
      cases hk : st.obj p.1 p.2 with
      | none =>
        have : ∀ (l : List (Nat × Nat)) (ob : Nat → Nat → Option Obj), ob p.1 p.2 = none → l.foldl unsolo1 ob p.1 p.2 = none := by
          intro l
          induction l with
          | nil => intro ob h; exact h
          | cons q l ih =>
            intro ob h
            refine ih _ ?_
            by_cases e : p.1 = q.1 ∧ p.2 = q.2
            · rw [unsolo1, e.1, e.2, updO_same, ← e.1, ← e.2, h]; rfl
            · rw [unsolo1, updO_ne _ _ e]; exact h
        rw [this _ _ hk] at ho; cases ho
      | some o0 =>
        obtain ⟨o', e1, e2, e3, e4, _⟩ := unsolo_keeps _ st.obj p.1 p.2 o0 hk
        rw [e1] at ho
        cases ho
        exact hfro p hp o0 hk (by rw [← e4]; exact hb) off (by rw [← e2, ← e3]; exact hoff)
    obtain ⟨cells', f1, f2⟩ := fill_row h' (hob.c.unsolo _) (by omega) parts.toList ps _ _ r hps hfro' hrow0 hsp
    have hlen : r.length = len := by rw [sliceParts_len hsp]; simp
    obtain ⟨ρ', q⟩ := h'.new (d := d) hd (w' := { w with heap := w.heap.push (.cells cells' et) }) (cells := cells') (ty := et) rfl rfl rfl rfl
      (o := { cont := r, esz := es, box := false, solo := true, tip := true }) (cap := len) (by simp; omega) f2.len (by simp [hlen]) (by rw [f2.size, hlen]) f2.one
      (fun i j x c hx hj => by
        obtain ⟨u, h1, h2⟩ := f2.rep i j x c hx hj
        exact ⟨u, h1, by simpa using h2⟩) (by simp) (t := .hs d (st.cnt d) es len) (.inr ⟨_, rfl, Nat.le_refl _, rfl⟩)
    refine ⟨.slice (some ⟨w.heap.size, 0, none⟩) len len, { w with heap := w.heap.push (.cells cells' et) }, ρ', I', ?_, q⟩
    have hs2 : ¬ (len * es > 2 ^ 24) := by omega
    have f1' : Instr.fill (fun i => some (i * es, es)) ((Array.range (len * es)).map (zc[· % zc.size]!)) (parts.toList.map fun p => (p.1, a.eval p.2)) = some cells' := f1
    by_cases h0 : len * es = 0
    · have hzc' : zc = #[] := by show (if len * es = 0 then _ else _) = _; rw [if_pos h0]
      rw [hzc'] at f1'
      have hl0 : len = 0 := (Nat.mul_eq_zero.1 h0).resolve_right hn0
      subst hl0
      simp at f1'
      simp [execOp, Instr.buildSlice, run_underlying hu, run_sizeT hsz, f1', newRow, newObj, Sem.run]
    · have hzc' : zc = zv.cells := by show (if len * es = 0 then _ else _) = _; rw [if_neg h0]
      rw [hzc'] at f1'
      simp [execOp, Instr.buildSlice, run_underlying hu, run_sizeT hsz, h0, zeroValue, typeInfo, hi, hzv, newRow, newObj, Sem.run]
      rw [if_neg (by omega), f1']
      simp [Sem.run]
theorem Rel.write (h : Rel C ρ I w a st) {k g : Nat} {o : Obj} (ho : st.obj k g = some o) (hs : o.solo = true) {cont : Cont} {cells : Array Value} {ty : TypeId} {w' : World}
    (hl : cont.length = o.cont.length) (hx : ∀ x ∈ cont, x.length = o.esz) (hsz : cells.size = (ρ k g).cap * o.esz) (hone : ∀ u ∈ cells.toList, u.oneCell' = true)
    (hrep : ∀ (i j : Nat) (x : List TV) (c : TV), cont[i]? = some x → x[j]? = some c → ∃ u, cells[i * o.esz + j]? = some u ∧ (if o.box then CE I w ρ st.cnt u c else CT I w u c))
    (hw : w'.heap[(ρ k g).blk]? = some (.cells cells ty (0, 0))) (hoth : ∀ b, b ≠ (ρ k g).blk → w'.heap[b]? = w.heap[b]?) (hsize : w'.heap.size = w.heap.size)
    (hos : w'.os = w.os) (hta : w'.tape = w.tape) (hou : w'.output = w.output) : Rel C ρ I w' a { st with obj := updO st.obj k g (some { o with cont := cont }) } := by
  have hp := h.obj k g o ho
  have m : Mv I I w w' ρ ρ st.cnt st.cnt := ⟨fun _ _ h => h, fun b off hi => World.cell?_of_block (hoth b (fun e => h.sep.soloI k g o ho hs off (e ▸ hi))), fun _ _ _ => rfl, fun _ => Nat.le_refl _⟩
  have hob : ∀ k' g' o', updO st.obj k g (some { o with cont := cont }) k' g' = some o' → (k' = k ∧ g' = g ∧ o' = { o with cont := cont }) ∨ (¬ (k' = k ∧ g' = g) ∧ st.obj k' g' = some o') := fun k' g' o' hk => by
    by_cases e : k' = k ∧ g' = g
    · obtain ⟨rfl, rfl⟩ := e; rw [updO_same] at hk; exact .inl ⟨rfl, rfl, (Option.some.inj hk).symm⟩
    · rw [updO_ne _ _ e] at hk; exact .inr ⟨e, hk⟩
  have hob2 : ∀ k' g' o', updO st.obj k g (some { o with cont := cont }) k' g' = some o' → ∃ o2, st.obj k' g' = some o2 ∧ o2.cont.length = o'.cont.length ∧ o2.esz = o'.esz ∧ o2.box = o'.box ∧ o2.solo = o'.solo ∧ o2.tip = o'.tip := fun k' g' o' hk => by
    rcases hob k' g' o' hk with ⟨rfl, rfl, rfl⟩ | ⟨_, hk2⟩
    · exact ⟨o, ho, hl.symm, rfl, rfl, rfl, rfl⟩
    · exact ⟨o', hk2, rfl, rfl, rfl, rfl, rfl⟩
  exact {
    defers := h.defers, size := h.size
    fr := ⟨hos.trans h.fr.os, hta.trans h.fr.tape, hou.trans h.fr.output, by rw [hsize]; exact h.fr.size, fun b hb hm => by
      rw [hoth b ?_]
      · exact h.fr.block b hb hm
      · rintro rfl
        rcases hp.2 with h1 | h1
        · omega
        · exact hm h1⟩
    I0 := h.I0, Iin := fun b o' hi => by rw [hsize]; exact h.Iin b o' hi
    Isub := h.Isub, env := fun s => m.ve (h.env s)
    obj := fun k' g' o' hk => by
      rcases hob k' g' o' hk with ⟨rfl, rfl, rfl⟩ | ⟨e, hk2⟩
      · refine ⟨⟨hp.1.esz, hp.1.pos, hx, by show cont.length ≤ _; rw [hl]; exact hp.1.cap, cells, ty, hw, hsz, hone, fun i j x c hxi hc => ?_⟩, hp.2⟩
        obtain ⟨u, hu, hr⟩ := hrep i j x c hxi hc
        refine ⟨u, hu, ?_⟩
        show if o.box then _ else _
        split
        · rename_i hb; rw [if_pos hb] at hr; exact m.ce hr
        · rename_i hb; rw [if_neg hb] at hr; exact m.ct hr
      · exact ⟨(h.obj k' g' o' hk2).1.mv m (hoth _ (fun e2 => e (h.sep.solo k g o ho hs k' g' o' hk2 e2))), (h.obj k' g' o' hk2).2⟩
    sep := {
      box := fun k' g' o' hk hb => by
        obtain ⟨o2, h1, h2, h3, h4, h5, h6⟩ := hob2 k' g' o' hk
        rw [← h5, ← h6]; exact h.sep.box k' g' o2 h1 (by rw [h4]; exact hb)
      soloI := fun k' g' o' hk hs' => by
        obtain ⟨o2, h1, h2, h3, h4, h5, h6⟩ := hob2 k' g' o' hk
        exact h.sep.soloI k' g' o2 h1 (by rw [h5]; exact hs')
      solo := fun k' g' o' hk hs' k2 g2 o2 hk2 hb => by
        obtain ⟨p, h1, h2, h3, h4, h5, h6⟩ := hob2 k' g' o' hk
        obtain ⟨q, q1, _⟩ := hob2 k2 g2 o2 hk2
        exact h.sep.solo k' g' p h1 (by rw [h5]; exact hs') k2 g2 q q1 hb
      tipI := fun k' g' o' hk hs' off hoff => by
        obtain ⟨o2, h1, h2, h3, h4, h5, h6⟩ := hob2 k' g' o' hk
        exact h.sep.tipI k' g' o2 h1 (by rw [h6]; exact hs') off (by rw [h2, h3]; exact hoff)
      tip := fun k' g' o' hk hs' k2 g2 o2 hk2 hb => by
        obtain ⟨p, h1, h2, h3, h4, h5, h6⟩ := hob2 k' g' o' hk
        obtain ⟨q, q1, q2, q3, q4, q5, q6⟩ := hob2 k2 g2 o2 hk2
        have := h.sep.tip k' g' p h1 (by rw [h6]; exact hs') k2 g2 q q1 hb
        rw [h2, h3, q2, q3, q6] at this
        exact this }
    lent := h.lent }
theorem splice_len {e cs : List TV} {j : Nat} (h : j + cs.length ≤ e.length) : (splice e j cs).length = e.length := by
  simp [splice]; omega
theorem splice_get {e cs : List TV} {j : Nat} (h : j + cs.length ≤ e.length) (q : Nat) : (splice e j cs)[q]? = if j ≤ q ∧ q < j + cs.length then cs[q - j]? else e[q]? := by
  simp only [splice, List.append_assoc]
  by_cases h1 : q < j
  · rw [List.getElem?_append_left (by simp; omega), List.getElem?_take, if_pos h1, if_neg (by omega)]
  · rw [List.getElem?_append_right (by simp; omega)]
    simp only [List.length_take]
    rw [Nat.min_eq_left (by omega)]
    by_cases h2 : q < j + cs.length
    · rw [List.getElem?_append_left (by omega), if_pos (by omega)]
    · rw [List.getElem?_append_right (by omega), if_neg (by omega), List.getElem?_drop]
      rw [show j + cs.length + (q - j - cs.length) = q by omega]
theorem rep_splice {R : Value → TV → Prop} {cells cells' : Array Value} {es i j : Nat} {cont : Cont} {e : List TV} {vs : List Value} {cs : List TV} (hlen : ∀ x ∈ cont, x.length = es)
    (hrep : ∀ (i j : Nat) (x : List TV) (c : TV), cont[i]? = some x → x[j]? = some c → ∃ u, cells[i * es + j]? = some u ∧ R u c)
    (he : cont[i]? = some e) (hv : All2 R vs cs) (hj : j + cs.length ≤ e.length) (hfit : cont.length * es ≤ cells.size)
    (hc : cells'.toList = cells.toList.take (i * es + j) ++ vs ++ cells.toList.drop (i * es + j + vs.length)) :
    ∀ (i' j' : Nat) (x : List TV) (c : TV), (cont.set i (splice e j cs))[i']? = some x → x[j']? = some c → ∃ u, cells'[i' * es + j']? = some u ∧ R u c := by
  obtain ⟨hi, _⟩ := List.getElem?_eq_some_iff.1 he
  have hel : e.length = es := hlen e (List.mem_of_getElem? he)
  have hle : i * es + es ≤ cells.size := by
    have : (i + 1) * es ≤ cont.length * es := Nat.mul_le_mul_right _ hi
    rw [Nat.add_mul] at this; omega
  have hvl := hv.length
  have get : ∀ k, cells'[k]? = if i * es + j ≤ k ∧ k < i * es + j + cs.length then vs[k - (i * es + j)]? else cells[k]? := fun k => by
    rw [← Array.getElem?_toList, hc, List.append_assoc]
    by_cases h1 : k < i * es + j
    · rw [List.getElem?_append_left (by simp; omega), List.getElem?_take, if_pos h1, if_neg (by omega)]; simp
    · rw [List.getElem?_append_right (by simp; omega)]
      simp only [List.length_take, Array.length_toList]
      rw [Nat.min_eq_left (by omega)]
      by_cases h2 : k < i * es + j + cs.length
      · rw [List.getElem?_append_left (by omega), if_pos (by omega)]
      · rw [List.getElem?_append_right (by omega), if_neg (by omega), List.getElem?_drop]
        rw [show i * es + j + vs.length + (k - (i * es + j) - vs.length) = k by omega]; simp
  intro i' j' x c hx hj'
  by_cases ei : i' = i
  · subst ei
    rw [List.getElem?_set_self hi] at hx
    cases hx
    rw [splice_get hj] at hj'
    rw [get]
    by_cases hin : j ≤ j' ∧ j' < j + cs.length
    · rw [if_pos hin] at hj'
      rw [if_pos (by omega), show i' * es + j' - (i' * es + j) = j' - j by omega]
      exact hv.get_r _ c hj'
    · rw [if_neg hin] at hj'
      rw [if_neg (by omega)]
      exact hrep i' j' e c he hj'
  · rw [List.getElem?_set_ne (Ne.symm ei)] at hx
    obtain ⟨hjj, _⟩ := List.getElem?_eq_some_iff.1 hj'
    have hxl := hlen x (List.mem_of_getElem? hx)
    rw [get, if_neg ?_]
    · exact hrep i' j' x c hx hj'
    · rintro ⟨q1, q2⟩
      obtain ⟨m, hm⟩ : ∃ m, i' * es + j' = i * es + m := ⟨i' * es + j' - i * es, by omega⟩
      exact ei (idx_inj (by omega) (by omega) hm).1
theorem setRow_eq {w : World} {g : Nat} {old cells : Array Value} {ty : TypeId} (h : w.heap[g]? = some (.cells old ty (0, 0))) : (w.setRow g cells).heap[g]? = some (.cells cells ty (0, 0)) := setRow_heap w g old cells ty _ h
theorem run_storeVar {ty t : TypeId} {n b off : Nat} {v : Value} {cur : Array Value} (hs : sizeT P ty = some n) (hv : v.cells.size = n) (hb : w.heap[b]? = some (.cells cur t (0, 0))) (hle : off + n ≤ cur.size) (h1 : ∀ u ∈ v.cells.toList, u.oneCell' = true) :
    (storeVar ty ⟨b, off, none⟩ v).run P w = .ok () (w.setRow b (cur.toList.take off ++ v.cells.toList ++ cur.toList.drop (off + v.cells.toList.length)).toArray) := by
  have hst := run_storeCells_at P b off t v.cells.toList 0 cur w hb (by simp; omega) h1
  simp only [Nat.add_zero] at hst
  simp [storeVar, run_sizeT hs, hv, hst]
theorem sim_store (h : Rel C ρ I w a st) {hh : Nat → Nat × List Nat} {o : Oper} {n : Nat} {p x : Opd} {d c : Nat} {ob : Nat → Nat → Option Obj} {e : Eff} (hob : Sub st.obj ob)
    (hc : compOp P hh o = some (.store n p x)) (he : ev (.store n p x) d c (val st.env) ob = some (.eff e)) :
    ∃ w' I', (execOp a.eval o).run P w = .ok .skip w' ∧ Rel C ρ I' w' a (apply none e st) := by
  obtain ⟨dst, op, type, pos, after, guard⟩ := o
  have : ∃ t y z, op = .store t y z ∧ sizeT P t = some n ∧ opd y = some p ∧ opd z = some x ∧ n ≠ 0 := by
    cases op <;> simp only [compOp] at hc <;> (repeat' split at hc) <;> first
      | contradiction
      | (cases hc; done)
      | (simp [Option.map_eq_some_iff] at hc; done)
      | (cases hc; exact ⟨_, _, _, rfl, ‹_›, ‹_›, ‹_›, ‹_›⟩)
  obtain ⟨t, y, z, rfl, hs, hy, hz, hn⟩ := this
  simp only [ev] at he
  have hpv := h.opd hy
  split at he
  · rename_i k g i j hp
    rw [hp] at hpv
    obtain ⟨_, hpv⟩ := hpv
    split at he
    · rename_i o' ho'
      split at he
      · rename_i el hel
        split at he
        · rename_i hcond
          obtain ⟨hsolo, hlen, hle⟩ := hcond
          obtain ⟨o2, ho2, _, _, _, hsame⟩ := hob k g o' ho'
          have := hsame (.inl hsolo)
          subst this
          have hor := (h.obj k g o' ho2).1
          obtain ⟨cells, ty, hb, hsz, hone, hrep⟩ := hor.lies
          have hne : (val st.env x).cells ≠ [] := fun e => by rw [e] at hlen; exact hn (by simpa using hlen.symm)
          obtain ⟨c1, c2⟩ := ve_cells (h.opd hz) hne
          have hvs : (a.eval z).cells.size = n := by have := c1.length; simpa [hlen] using this
          obtain ⟨hi, _⟩ := List.getElem?_eq_some_iff.1 hel
          have hell := hor.len el (List.mem_of_getElem? hel)
          have hfit : o'.cont.length * o'.esz ≤ cells.size := by rw [hsz]; exact Nat.mul_le_mul_right _ hor.cap
          have hle2 : i * o'.esz + j + n ≤ cells.size := by
            have : (i + 1) * o'.esz ≤ o'.cont.length * o'.esz := Nat.mul_le_mul_right _ hi
            rw [Nat.add_mul] at this; omega
          have hrun := run_storeVar (P := P) (w := w) hs hvs hb hle2 (by simpa using c2)
          let nc : Array Value := (cells.toList.take (i * o'.esz + j) ++ (a.eval z).cells.toList ++ cells.toList.drop (i * o'.esz + j + (a.eval z).cells.toList.length)).toArray
          have hncl : nc.size = cells.size := by simp [nc]; omega
          have hnco : ∀ u ∈ nc.toList, u.oneCell' = true := fun u hu => by
            have hu : u ∈ cells.toList.take (i * o'.esz + j) ++ (a.eval z).cells.toList ++ cells.toList.drop (i * o'.esz + j + (a.eval z).cells.toList.length) := by simpa [nc] using hu
            simp only [List.mem_append] at hu
            rcases hu with (hu | hu) | hu
            · exact hone u (List.mem_of_mem_take hu)
            · exact c2 u hu
            · exact hone u (List.mem_of_mem_drop hu)
          have hexec : (execOp a.eval { dst := dst, op := .store t y z, type := type, pos := pos, after := after, guard := guard }).run P w = .ok .skip (w.setRow (ρ k g).blk nc) := by
            have hes : (ρ k g).esz = o'.esz := hor.esz
            simp only [execOp, Sem.run_bind]
            rw [hpv, hes]
            simp only [Instr.storeAt, Instr.sureAddr, Sem.run_bind, Sem.run_pure, Result.andThen_ok, hrun]
            rfl
          have hoth : ∀ b, b ≠ (ρ k g).blk → (w.setRow (ρ k g).blk nc).heap[b]? = w.heap[b]? := fun b hb => setRow_other w _ b nc (fun e => hb e)
          have hsize : (w.setRow (ρ k g).blk nc).heap.size = w.heap.size := by simp [World.setRow]
          split at he
          · rename_i hbox
            simp only [Option.some.injEq, Ev.eff.injEq] at he
            subst he
            refine ⟨_, I, hexec, ?_⟩
            refine h.write ho2 hsolo (cont := o'.cont.set i (splice el j (val st.env x).cells)) (by simp) (fun q hq => ?_) (by rw [hncl, hsz]) hnco ?_ (setRow_eq hb) hoth hsize rfl rfl rfl
            · rcases List.mem_or_eq_of_mem_set hq with hq | rfl
              · exact hor.len q hq
              · rw [splice_len (by omega), hell]
            · rw [hbox] at hrep ⊢
              simp only [if_true] at hrep ⊢
              exact rep_splice hor.len hrep hel c1 (by omega) hfit (by simp [nc])
          · rename_i hbox
            split at he
            · cases he
            rename_i hnc
            split at he
            · rename_i cs hcs
              simp only [Option.some.injEq, Ev.eff.injEq] at he
              subst he
              obtain ⟨I', h', hII, hfro⟩ := h.freeze (hands (val st.env x))
              have hnot : (k, g) ∉ hands (val st.env x) := fun hm => hnc (by simpa using hm)
              have hk' : ∀ (l : List (Nat × Nat)) (ob : Nat → Nat → Option Obj), (k, g) ∉ l → l.foldl unsolo1 ob k g = ob k g := by
                intro l
                induction l with
                | nil => intro ob _; rfl
                | cons q l ih =>
                  intro ob hm
                  rw [List.foldl_cons, ih _ (fun hh => hm (List.mem_cons_of_mem _ hh)), unsolo1, updO_ne]
                  rintro ⟨rfl, rfl⟩
                  exact hm List.mem_cons_self
              have ho3 : (hands (val st.env x)).foldl unsolo1 st.obj k g = some o' := (hk' _ _ hnot).trans ho2
              have hfz : Frozen I' ρ ((hands (val st.env x)).foldl unsolo1 st.obj) (hands (val st.env x)) := fun p hp o ho hb off hoff => by
                cases hkk : st.obj p.1 p.2 with
                | none =>
                  have : ∀ (l : List (Nat × Nat)) (ob : Nat → Nat → Option Obj), ob p.1 p.2 = none → l.foldl unsolo1 ob p.1 p.2 = none := by
                    intro l
                    induction l with
                    | nil => intro ob h; exact h
                    | cons q l ih =>
                      intro ob h
                      refine ih _ ?_
                      by_cases e : p.1 = q.1 ∧ p.2 = q.2
                      · rw [unsolo1, e.1, e.2, updO_same, ← e.1, ← e.2, h]; rfl
                      · rw [unsolo1, updO_ne _ _ e]; exact h
                  rw [this _ _ hkk] at ho; cases ho
                | some o0 =>
                  obtain ⟨o4, e1, e2, e3, e4, _⟩ := unsolo_keeps (hands (val st.env x)) st.obj p.1 p.2 o0 hkk
                  rw [e1] at ho
                  cases ho
                  exact hfro p hp o0 hkk (by rw [← e4]; exact hb) off (by rw [← e2, ← e3]; exact hoff)
              have hct := trees_ct h'.ors (hob.c.unsolo _) (h'.env |> fun _ => (ve_cells (h'.opd hz) hne).1) hfz hcs
              have hcsl : cs.length = n := by have := hct.length; simp [hvs] at this; omega
              have hbf : o'.box = false := by simpa using hbox
              refine ⟨_, I', hexec, ?_⟩
              have hor' := (h'.obj k g o' ho3).1
              obtain ⟨cells2, ty2, hb2, hsz2, hone2, hrep2⟩ := hor'.lies
              rw [hb] at hb2
              cases hb2
              refine h'.write ho3 hsolo (cont := o'.cont.set i (splice el j cs)) (by simp) (fun q hq => ?_) (by rw [hncl, hsz]) hnco ?_ (setRow_eq hb) hoth hsize rfl rfl rfl
              · rcases List.mem_or_eq_of_mem_set hq with hq | rfl
                · exact hor.len q hq
                · rw [splice_len (by omega), hell]
              · rw [hbf] at hrep2 ⊢
                simp only [if_false, Bool.false_eq_true] at hrep2 ⊢
                exact rep_splice hor.len hrep2 hel hct (by omega) hfit (by simp [nc])
            · cases he
        · cases he
      · cases he
    · cases he
  · cases he
end
end Go.TM
end
section
namespace Go.TM
set_option linter.unusedVariables false
set_option linter.unusedSimpArgs false
section
variable {P : Program} {C : Ctx} {ρ : Nat → Nat → Loc} {I : Nat → Nat → Prop} {w : World} {a : Act} {st : St}
theorem apply_v (d : Nat) (v : TV) (st : St) : apply (some d) { v := v } st = { st with env := upd st.env d v } := rfl
theorem apply_vu (d : Nat) (v : TV) (u : List (Nat × Nat)) (st : St) : apply (some d) { v := v, unsolo := u } st = { st with env := upd st.env d v, obj := u.foldl unsolo1 st.obj } := rfl
theorem ve_nat {v : Value} {t : TV} {cnt : Nat → Nat} {n : Nat} (h : VE I w ρ cnt v t) (hn : asNat t = some n) : ∃ k, v = .int k n := by
  unfold asNat at hn
  split at hn
  · rename_i k m
    split at hn <;> cases hn
    exact ⟨k, by rw [ve_int h]; congr 1; omega⟩
  · cases hn
def bnd (vv : Opd → TV) (dflt : Nat) : Option Opd → Option Nat
  | some l => asNat (vv l)
  | none => some dflt
theorem bnd_spec (h : Rel C ρ I w a st) {lo : Option Operand} {lo' : Option Opd} {n l : Nat} (h1 : optOpd lo = some lo') (h2 : bnd (val st.env) n lo' = some l) :
    (lo = none ∧ lo' = none ∧ l = n) ∨ ∃ u k, lo = some u ∧ lo'.isSome = true ∧ a.eval u = .int k l := by
  cases lo with
  | none => simp [optOpd] at h1; subst h1; simp [bnd] at h2; exact .inl ⟨rfl, rfl, h2.symm⟩
  | some u =>
    simp only [optOpd] at h1
    cases hu : opd u with
    | none => simp [hu] at h1
    | some v =>
      simp only [hu, Option.map_some, Option.some.injEq] at h1
      subst h1
      obtain ⟨k, hk⟩ := ve_nat (h.opd hu) h2
      exact .inr ⟨u, k, rfl, rfl, hk⟩
theorem run_sliceBound {k : IntKind} {n y : Nat} {code : BoundsCode} (h : n ≤ y) : (Instr.sliceBound (.int k n) y code).run P w = .ok n w := by
  have : (0 : Int) ≤ (n : Int) ∧ (n : Int) ≤ (y : Int) := by omega
  simp [Instr.sliceBound, asIntOf]; omega
theorem run_bounds (h : Rel C ρ I w a st) {isS : Bool} {len cap l hi m : Nat} {lo hi' mx : Option Operand} {lo' hi'' mx' : Option Opd} (h1 : optOpd lo = some lo') (h2 : optOpd hi' = some hi'') (h3 : optOpd mx = some mx')
    (b1 : bnd (val st.env) 0 lo' = some l) (b2 : bnd (val st.env) len hi'' = some hi) (b3 : bnd (val st.env) cap mx' = some m) (hl : l ≤ hi) (hh : hi ≤ m) (hm : m ≤ cap) (hmx : mx'.isSome = true → hi''.isSome = true) :
    (Instr.sliceBounds isS len cap (lo.map a.eval) (hi'.map a.eval) (mx.map a.eval)).run P w = .ok (l, hi, m) w := by
  rcases bnd_spec h h1 b1 with ⟨rfl, rfl, rfl⟩ | ⟨u1, k1, rfl, q1, e1⟩ <;> rcases bnd_spec h h2 b2 with ⟨rfl, rfl, rfl⟩ | ⟨u2, k2, rfl, q2, e2⟩ <;> rcases bnd_spec h h3 b3 with ⟨rfl, rfl, rfl⟩ | ⟨u3, k3, rfl, q3, e3⟩
  all_goals first
    | (have := hmx q3; simp at this; done)
    | (simp only [Instr.sliceBounds, Option.map_some, Option.map_none, Sem.run_bind, Sem.run_pure, Result.andThen_ok, Option.isSome_some, Option.isSome_none]
       (try rw [e1])
       (try rw [e2])
       (try rw [e3])
       try simp only [run_sliceBound hl, run_sliceBound hh, run_sliceBound hm, Sem.run_pure, Result.andThen_ok])
theorem ct_cut {A : Option Addr} {n cap e : Nat} {xs : List (List TV)} {l hi m : Nat} (h : CT I w (.slice A n cap) (.sl xs)) (he : ∀ x ∈ xs, x.length = e) (hl : l ≤ hi) (hm : hi ≤ m) (hh : hi ≤ xs.length) :
    CT I w (.slice (if m = l then A else A.map (·.add (l * e))) (hi - l) (m - l)) (.sl ((xs.take hi).drop l)) := by
  have hlen : ((xs.take hi).drop l).length = hi - l := by simp; omega
  by_cases hz : hi - l = 0
  · have : (xs.take hi).drop l = [] := List.eq_nil_of_length_eq_zero (by omega)
    rw [this, hz]; exact .sl0 _ _
  · cases h with
    | sl0 => simp at hh; omega
    | sl b off cap es _ g hne hcap hpos hx hcc ht =>
      have hes : es = e := by
        cases xs with
        | nil => exact absurd rfl hne
        | cons x xs => rw [← hx x List.mem_cons_self]; exact he x List.mem_cons_self
      subst hes
      rw [if_neg (by omega), Option.map_some, Addr.add_lit]
      have := CT.sl (I := I) (w := w) b (off + l * es) (m - l) es ((xs.take hi).drop l) (fun i j => g (l + i) j) (by intro e; rw [e] at hlen; simp at hlen; omega) (by rw [hlen]; omega) hpos
        (fun x hx' => hx x (List.mem_of_mem_take (List.mem_of_mem_drop hx')))
        (fun i j hi' hj => by
          rw [hlen] at hi'
          have := hcc (l + i) j (by omega) hj
          rw [Nat.add_mul] at this
          rw [show off + l * es + (i * es + j) = off + (l * es + i * es + j) by omega]
          exact this)
        (fun i j x c hx' hj => by
          rw [List.getElem?_drop, List.getElem?_take] at hx'
          split at hx'
          · exact ht (l + i) j x c hx' hj
          · cases hx')
      rw [hlen] at this
      exact this
theorem ct_uni {A : Option Addr} {n cap e : Nat} {xs : Cont} (h : CT I w (.slice A n cap) (.sl xs)) (hu : uni e xs = true) : ∀ x ∈ xs, x.length = e := by
  cases h with
  | sl0 => simp
  | sl b off cap es _ g hne hcap hpos hx hcc ht =>
    cases xs with
    | nil => exact absurd rfl hne
    | cons y ys =>
      have : y.length = e := by simpa [uni] using hu
      intro x hxm
      rw [hx x hxm, ← hx y List.mem_cons_self]; exact this
theorem ct_sl {v : Value} {xs : Cont} (h : CT I w v (.sl xs)) : ∃ A cap, v = .slice A xs.length cap ∧ xs.length ≤ cap := by
  cases h with
  | sl0 a cap => exact ⟨_, _, rfl, Nat.zero_le _⟩
  | sl b off cap es _ g hne hcap => exact ⟨_, _, rfl, hcap⟩
theorem sim_slice (h : Rel C ρ I w a st) {hh : Nat → Nat × List Nat} {o : Oper} {es : Nat} {isS : Bool} {x : Opd} {lo hi mx : Option Opd} {d c : Nat} {ob : Nat → Nat → Option Obj} {e : Eff} (hd : d < C.n) (hob : Sub st.obj ob)
    (hc : compOp P hh o = some (.slice es isS x lo hi mx)) (he : ev (.slice es isS x lo hi mx) d c (val st.env) ob = some (.eff e)) :
    ∃ v I', (execOp a.eval o).run P w = .ok (.value v) w ∧ Rel C ρ I' w (a.put (some d) v) (apply (some d) e st) := by
  obtain ⟨dst, op, type, pos, after, guard⟩ := o
  have : ∃ t y lo' hi' mx' u, op = .slice t y lo' hi' mx' ∧ opd y = some x ∧ optOpd lo' = some lo ∧ optOpd hi' = some hi ∧ optOpd mx' = some mx ∧ P.underlying t = some u ∧ ((∃ et, u = .slice et ∧ isS = false ∧ sizeT P et = some es) ∨ (u = .string ∧ isS = true ∧ mx = none)) := by
    cases op <;> simp only [compOp] at hc <;> (repeat' split at hc) <;> first
      | contradiction
      | (cases hc; done)
      | (simp [Option.map_eq_some_iff] at hc; done)
      | (simp only [Option.map_eq_some_iff] at hc
         obtain ⟨⟨p, q⟩, hp, hc⟩ := hc
         cases hc
         obtain ⟨g1, g2, _⟩ := elemT_spec hp
         exact ⟨_, _, _, _, _, _, rfl, ‹_›, ‹_›, ‹_›, ‹_›, g1, .inl ⟨_, rfl, rfl, g2⟩⟩)
      | (rename_i hm; cases hc; exact ⟨_, _, _, _, _, _, rfl, ‹_›, ‹_›, ‹_›, ‹_›, ‹_›, .inr ⟨rfl, rfl, by simpa using hm⟩⟩)
  obtain ⟨t, y, lo', hi', mx', u, rfl, hy, h1, h2, h3, hu, hcase⟩ := this
  have hv := h.opd hy
  have stay : ∀ (v : Value) (tv : TV), VE I w ρ st.cnt v tv → Rel C ρ I w (a.put (some d) v) (apply (some d) { v := tv } st) := fun v tv hv => by
    rw [apply_v]; exact h.put hd hv
  rcases hcase with ⟨et, rfl, rfl, hsz⟩ | ⟨rfl, rfl, rfl⟩
  ·
    have run : ∀ (A : Option Addr) (n cap l hi2 m : Nat), a.eval y = .slice A n cap → bnd (val st.env) 0 lo = some l → bnd (val st.env) n hi = some hi2 → bnd (val st.env) cap mx = some m → l ≤ hi2 → hi2 ≤ m → m ≤ cap → (mx.isSome = true → hi.isSome = true) →
        (execOp a.eval { dst := dst, op := .slice t y lo' hi' mx', type := type, pos := pos, after := after, guard := guard }).run P w = .ok (.value (.slice (if m = l then A else A.map (·.add (l * es))) (hi2 - l) (m - l))) w := fun A n cap l hi2 m hv b1 b2 b3 c1 c2 c3 c4 => by
      simp only [execOp, Instr.sliceAt, Instr.slice, Sem.run_bind, run_underlying hu, Result.andThen_ok, hv, run_bounds h h1 h2 h3 b1 b2 b3 c1 c2 c3 c4, run_sizeT hsz, Sem.run_pure]
    simp only [ev] at he
    split at he
    · cases he
    rename_i l hl0
    have hl : bnd (val st.env) 0 lo = some l := hl0
    split at he
    case h_1 xs hf hxs =>
      rw [hxs] at hv
      have hv : CT I w (a.eval y) (.sl xs) := hv
      obtain ⟨A, cap, hvv, hcap⟩ := ct_sl hv
      rw [hvv] at hv
      split at he
      · rename_i hi2 m hb2 hb3
        have hb2 : bnd (val st.env) xs.length hi = some hi2 := hb2
        have hb3 : bnd (val st.env) xs.length mx = some m := hb3
        split at he <;> cases he
        rename_i hcond
        obtain ⟨c1, c2, c3, c4, c5⟩ := hcond
        cases mx with
        | some mx0 =>
          exact ⟨_, I, run A _ cap l hi2 m hvv hl hb2 hb3 c1 c2 (by omega) c4, stay _ _ (ct_cut hv (ct_uni hv c5) c1 c2 (by omega))⟩
        | none =>
          exact ⟨_, I, run A _ cap l hi2 cap hvv hl hb2 rfl c1 (by omega) (by omega) c4, stay _ _ (ct_cut hv (ct_uni hv c5) c1 (by omega) (by omega))⟩
      · cases he
    case h_2 hf hxs =>
      rw [hxs] at hv
      have hv : a.eval y = .slice none 0 0 := hv
      split at he
      · rename_i hi2 hb2
        have hb2 : bnd (val st.env) 0 hi = some hi2 := hb2
        split at he <;> cases he
        rename_i hcond
        obtain ⟨rfl, rfl⟩ := hcond
        refine ⟨_, I, run none 0 0 0 0 0 hv hl hb2 rfl (by omega) (by omega) (by omega) (by simp), stay _ _ ?_⟩
        simp [VE, VA, CE]
      · cases he
    case h_3 k g e' n hf hxs =>
      rw [hxs] at hv
      obtain ⟨hlt, hes, hvv, hcap⟩ := hv
      split at he
      · rename_i hi2 m hb2 hb3
        have hb2 : bnd (val st.env) n hi = some hi2 := hb2
        have hb3 : bnd (val st.env) n mx = some m := hb3
        split at he
        · rename_i hcond
          obtain ⟨c1, c2, c3, c4, hees⟩ := hcond
          split at he
          · rename_i hz
            obtain ⟨rfl, hm⟩ := hz
            cases he
            cases mx with
            | some mx0 => simp at hm
            | none =>
              refine ⟨_, I, run _ n _ 0 hi2 (ρ k g).cap hvv hl hb2 rfl c1 (by omega) (by omega) c4, stay _ _ ?_⟩
              refine ⟨hlt, hes, ?_, by omega⟩
              split <;> simp [Addr.add_lit]
          · split at he
            · rename_i o' ho'
              split at he <;> cases he
              rename_i hcond
              obtain ⟨d1, d2, d3⟩ := hcond
              obtain ⟨o, ho, q1, q2, q3, _⟩ := hob k g o' ho'
              obtain ⟨I', h', hII, hfro⟩ := h.freeze [(k, g)]
              obtain ⟨o3, r1, r2, r3, r4, _⟩ := unsolo_keeps [(k, g)] st.obj k g o ho
              have hct := hs_ct (n := n) (cap := (ρ k g).cap) h'.ors r1 (by rw [r4, ← q3]; exact d1) (by rw [r2, ← q1]; exact d2) hcap (fun off hoff => hfro (k, g) (by simp) o ho (by rw [← q3]; exact d1) off (by rw [← r2, ← r3]; exact hoff))
              rw [r2, ← q1] at hct
              have hlen : (o'.cont.take n).length = n := by simp; omega
              have hel : ∀ x ∈ o'.cont.take n, x.length = es := fun x hx => by
                have := (h.obj k g o ho).1.len x (by rw [← q1]; exact List.mem_of_mem_take hx)
                rw [this, ← q2, d3, hees]
              have htt : (o'.cont.take n).take hi2 = o'.cont.take hi2 := by rw [List.take_take, Nat.min_eq_left (by omega)]
              cases mx with
              | some mx0 =>
                refine ⟨_, I', run _ n _ l hi2 m hvv hl hb2 hb3 c1 c2 (by omega) c4, ?_⟩
                rw [apply_vu]
                refine h'.put hd ?_
                have := ct_cut hct hel c1 c2 (by omega)
                rw [htt] at this
                exact this
              | none =>
                refine ⟨_, I', run _ n _ l hi2 (ρ k g).cap hvv hl hb2 rfl c1 (by omega) (by omega) c4, ?_⟩
                rw [apply_vu]
                refine h'.put hd ?_
                have := ct_cut (m := (ρ k g).cap) hct hel c1 (by omega) (by omega)
                rw [htt] at this
                exact this
            · cases he
        · cases he
      · cases he
    case h_4 hf _ => cases hf
    case h_5 => cases he
  ·
    simp only [ev] at he
    split at he
    · cases he
    rename_i l hl0
    have hl : bnd (val st.env) 0 lo = some l := hl0
    split at he
    case h_4 s hf hs =>
      rw [hs] at hv
      have hv : a.eval y = .string s := ve_str hv
      split at he
      · rename_i hi2 hb2 _
        have hb2 : bnd (val st.env) s.size hi = some hi2 := hb2
        split at he <;> cases he
        rename_i hcond
        have hmx : mx' = none := by
          cases mx' with
          | none => rfl
          | some z =>
            simp only [optOpd, Option.map_eq_some_iff] at h3
            obtain ⟨_, _, h3⟩ := h3
            cases h3
        subst hmx
        refine ⟨_, I, ?_, stay _ _ (mk_str _)⟩
        have hb := run_bounds (P := P) (isS := false) (len := s.size) (cap := s.size) h h1 h2 h3 hl hb2 rfl hcond.1 hcond.2 (Nat.le_refl _) (by simp)
        simp only [Option.map_none] at hb
        simp only [execOp, Instr.sliceAt, Instr.slice, Sem.run_bind, run_underlying hu, Result.andThen_ok, hv, Option.map_none, Option.isSome_none, Bool.false_eq_true, if_false, Sem.run_pure, hb]
      · cases he
    case h_5 => cases he
    all_goals (rename_i hf _; cases hf)
end
end Go.TM
end
section
namespace Go.TM
set_option linter.unusedVariables false
set_option linter.unusedSimpArgs false
section
variable {P : Program} {C : Ctx} {ρ : Nat → Nat → Loc} {I : Nat → Nat → Prop} {w : World} {a : Act} {st : St}
structure Src (P : Program) (w : World) (xt : TypeId) (v : Value) (es m : Nat) (news : List Value) : Prop where
  ty : (∃ e, P.underlying xt = some (.slice e)) ∨ P.underlying xt = some .string
  len : ∀ w : World, (Builtin.lenOf v).run P w = .ok m w
  cells : ∀ w' : World, (∀ b o, w.cell? ⟨b, o, none⟩ ≠ none → w'.cell? ⟨b, o, none⟩ = w.cell? ⟨b, o, none⟩) → (Builtin.firstCells es m v).run P w' = .ok news.toArray w'
  size : news.length = m * es
  one : ∀ u ∈ news, u.oneCell' = true
theorem run_append_in {ats : Array TypeId} {t xt ty e : TypeId} {es b n cap m : Nat} {v : Value} {news : List Value} {cur : Array Value} {T : TypeId} (h0 : ats[0]? = some t) (h1 : ats[1]? = some xt) (ht : P.underlying t = some (.slice e)) (hs : sizeT P e = some es) (hsrc : Src P w xt v es m news)
    (hb : w.heap[b]? = some (.cells cur T (0, 0))) (hroom : n + m ≤ cap) (hfit : cur.size = cap * es) :
    (Builtin.append_ ats ty #[.slice (some ⟨b, 0, none⟩) n cap, v]).run P w =
      .ok (.slice (some ⟨b, 0, none⟩) (n + m) cap) (w.setRow b (cur.toList.take (n * es) ++ news ++ cur.toList.drop (n * es + news.length)).toArray) := by
  have hle : n * es + m * es ≤ cur.size := by rw [hfit, ← Nat.add_mul]; exact Nat.mul_le_mul_right _ hroom
  have hst := run_storeCells_at P b (n * es) T news 0 cur w hb (by rw [hsrc.size]; simpa using hle) hsrc.one
  simp only [Nat.add_zero] at hst
  have hc := hsrc.cells w (fun _ _ _ => rfl)
  rcases hsrc.ty with ⟨e', hx⟩ | hx <;>
    simp [Builtin.append_, h0, h1, run_underlying ht, run_underlying hx, run_sizeT hs, hsrc.len, hroom, hc, Addr.add_lit, hst]
theorem run_append_none {ats : Array TypeId} {t xt ty e : TypeId} {es : Nat} {v : Value} {news : List Value} (h0 : ats[0]? = some t) (h1 : ats[1]? = some xt) (ht : P.underlying t = some (.slice e)) (hs : sizeT P e = some es) (hsrc : Src P w xt v es 0 news) :
    (Builtin.append_ ats ty #[.slice none 0 0, v]).run P w = .ok (.slice none 0 0) w := by
  have hc := hsrc.cells w (fun _ _ _ => rfl)
  rcases hsrc.ty with ⟨e', hx⟩ | hx <;>
    simp [Builtin.append_, h0, h1, run_underlying ht, run_underlying hx, run_sizeT hs, hsrc.len, hc]
theorem run_append_new {ats : Array TypeId} {t xt ty e : TypeId} {es n cap m : Nat} {A : Option Addr} {i : TypeInfo} {z : Value} {v : Value} {olds news : List Value} (h0 : ats[0]? = some t) (h1 : ats[1]? = some xt) (ht : P.underlying t = some (.slice e)) (hi : P.info? e = some i) (hz : i.zero = some z) (hes : i.size = es) (hby : i.bytes ≤ 4096)
    (hsrc : Src P w xt v es m news) (hold : ∀ w' : World, (∀ b o, w.cell? ⟨b, o, none⟩ ≠ none → w'.cell? ⟨b, o, none⟩ = w.cell? ⟨b, o, none⟩) → (Builtin.firstCells es n (.slice A n cap)).run P w' = .ok olds.toArray w')
    (hg : cap < n + m) (hlt : n + m < 2147483648) :
    (Builtin.append_ ats ty #[.slice A n cap, v]).run P w =
      .ok (.slice (some ⟨w.heap.size, 0, none⟩) (n + m) (grownCap w (n + m) cap e)) (w.drew.alloc (.cells (olds.toArray ++ news.toArray ++ Builtin.zeroCells z.cells (grownCap w (n + m) cap e - (n + m))) e)) := by
  have hn : ¬ (n + m ≤ cap) := by omega
  have h63' : ¬ (9223372036854775807 < ((n : Int) + (m : Int))) := by omega
  have h48' : ¬ (281474976710656 < Builtin.nextslicecap (n + m) cap * i.bytes) := by
    have h1 := nextslicecap_le hg
    have h2 : Builtin.nextslicecap (n + m) cap * i.bytes ≤ (2 * (n + m)) * 4096 := Nat.mul_le_mul h1 hby
    omega
  have hc := hsrc.cells w.drew (fun _ _ _ => rfl)
  have ho := hold w.drew (fun _ _ _ => rfl)
  rcases hsrc.ty with ⟨e', hx⟩ | hx <;>
  · simp [Builtin.append_, h0, h1, run_underlying ht, run_underlying hx, sizeOf, typeInfo, zeroValue, hi, hz, hes, hsrc.len, hn, h63', h48', Question.forced, hc, ho, newRow, grownCap]
    congr 2
    apply Array.ext'
    simp [List.append_assoc]
theorem cell_ne {w : World} {b o : Nat} {u : Value} (h : w.cell? ⟨b, o, none⟩ = some u) : w.cell? ⟨b, o, none⟩ ≠ none := by rw [h]; simp
theorem src_lies {xt : TypeId} {b off n cap es : Nat} {R : Value → TV → Prop} {zs : Cont} (hx : (∃ e, P.underlying xt = some (.slice e)) ∨ P.underlying xt = some .string) (hn : zs.length = n) (hl : ∀ x ∈ zs, x.length = es) (g : Nat → Nat → Value)
    (hc : ∀ i j, i < n → j < es → w.cell? ⟨b, off + (i * es + j), none⟩ = some (g i j) ∧ (g i j).oneCell' = true)
    (ht : ∀ (i j : Nat) (x : List TV) (c : TV), zs[i]? = some x → x[j]? = some c → R (g i j) c) :
    ∃ news, Src P w xt (.slice (some ⟨b, off, none⟩) n cap) es n news ∧ RowOf R news.toArray es zs := by
  let news := (List.range (n * es)).map fun k => g (k / es) (k % es)
  have get : ∀ k u, news[k]? = some u → k < n * es ∧ u = g (k / es) (k % es) := fun k u hk => by
    simp only [news, List.getElem?_map, List.getElem?_range'] at hk
    by_cases hlt : k < n * es
    · simp [hlt] at hk; exact ⟨hlt, hk.symm⟩
    · simp [hlt] at hk
  have key : ∀ k, k < n * es → k / es < n ∧ k % es < es ∧ k = (k / es) * es + k % es := fun k hk => by
    have hpos : 0 < es := Nat.pos_of_ne_zero fun e => by subst e; simp at hk
    exact ⟨Nat.div_lt_of_lt_mul (by rw [Nat.mul_comm]; exact hk), Nat.mod_lt _ hpos, by rw [Nat.mul_comm]; exact (Nat.div_add_mod k es).symm⟩
  have hnl : news.length = n * es := by simp [news]
  have one : ∀ u ∈ news, u.oneCell' = true := fun u hu => by
    obtain ⟨k, hk, rfl⟩ := List.getElem_of_mem hu
    obtain ⟨h1, h2⟩ := get k _ (List.getElem?_eq_getElem hk)
    rw [h2]
    exact (hc _ _ (key k h1).1 (key k h1).2.1).2
  refine ⟨news, ⟨hx, fun w => by simp [Builtin.lenOf], fun w' hw' => ?_, hnl, one⟩, ⟨hl, by simp [hnl, hn], by simpa using one, fun i j x c hxi hj => ?_⟩⟩
  · refine run_firstCells_some (P := P) w' es n _ _ _ news hnl fun k u hk => ?_
    obtain ⟨h1, h2⟩ := get k u hk
    obtain ⟨k1, k2, k3⟩ := key k h1
    have := hc _ _ k1 k2
    rw [← k3, ← h2] at this
    rw [Addr.add_lit, hw' _ _ (cell_ne this.1), this.1]
  · have hi : i < n := by
      obtain ⟨hh, _⟩ := List.getElem?_eq_some_iff.1 hxi
      omega
    have hjl : j < es := by
      obtain ⟨hh, _⟩ := List.getElem?_eq_some_iff.1 hj
      rw [hl x (List.mem_of_getElem? hxi)] at hh; exact hh
    refine ⟨g i j, ?_, ht i j x c hxi hj⟩
    have hlt := idx_lt (e := es) hi hjl
    have h1 : (i * es + j) / es = i := by rw [Nat.mul_comm, Nat.mul_add_div (by omega), Nat.div_eq_of_lt hjl]; simp
    have h2 : (i * es + j) % es = j := by rw [Nat.mul_comm, Nat.mul_add_mod, Nat.mod_eq_of_lt hjl]
    simp [news, hlt, h1, h2]
theorem elems_src (h : Rel C ρ I w a st) {ob : Nat → Nat → Option Obj} (hob : SubC st.obj ob) {es : Nat} {xt : TypeId} {d : TypeDesc} {y : Operand} {x : Opd} {zs : Cont} (hes : 0 < es) (hx : P.underlying xt = some d) (hd : rowT d = true) (hy : opd y = some x)
    (hz : elems ob es (val st.env x) = some zs) : ∃ news, Src P w xt (a.eval y) es zs.length news ∧ RowOf (CT I w) news.toArray es zs := by
  have hv := h.opd hy
  have hty : (∃ e, P.underlying xt = some (.slice e)) ∨ P.underlying xt = some .string := by
    cases d <;> simp [rowT] at hd
    · exact .inr hx
    · exact .inl ⟨_, hx⟩
  have nothing : ∀ A cap, a.eval y = .slice A 0 cap → ∃ news, Src P w xt (a.eval y) es ([] : Cont).length news ∧ RowOf (CT I w) news.toArray es [] := fun A cap hv => by
    refine ⟨[], ⟨hty, fun w => by rw [hv]; simp [Builtin.lenOf], fun w' _ => ?_, by simp, by simp⟩, ⟨by simp, by simp, by simp, by simp⟩⟩
    rw [hv]
    cases A with
    | none => simp [Builtin.firstCells]
    | some A => exact run_firstCells_some (P := P) w' es 0 A _ _ [] (by simp) (by simp)
  unfold elems at hz
  split at hz
  · rename_i xs hxs
    split at hz <;> cases hz
    rename_i hu
    rw [hxs] at hv
    have hv : CT I w (a.eval y) (.sl zs) := hv
    generalize hvv : a.eval y = vv at hv
    cases hv with
    | sl0 A cap => rw [← hvv]; exact nothing A cap hvv
    | sl b off cap e' _ g hne hcap hpos hxl hcc htt =>
      have hee : e' = es := by
        cases zs with
        | nil => exact absurd rfl hne
        | cons z zs => rw [← hxl z List.mem_cons_self]; simpa [uni] using hu
      subst hee
      exact src_lies hty rfl hxl g (fun i j hi hj => ⟨(hcc i j hi hj).2, by
        obtain ⟨x, hx⟩ : ∃ x, zs[i]? = some x := ⟨_, List.getElem?_eq_getElem hi⟩
        have hxe := hxl x (List.mem_of_getElem? hx)
        exact (htt i j x x[j] hx (List.getElem?_eq_getElem (by omega))).one⟩) htt
  · rename_i hxs
    cases hz
    rw [hxs] at hv
    exact nothing none 0 hv
  · rename_i k g e' n hxs
    rw [hxs] at hv
    obtain ⟨_, hle, hvv, hcap⟩ := hv
    split at hz
    · rename_i o' ho'
      split at hz <;> cases hz
      rename_i hcond
      obtain ⟨c1, c2, c3, c4⟩ := hcond
      obtain ⟨o, ho, q1, q2, q3⟩ := hob k g o' ho'
      obtain ⟨cells, ty, b1, b2, b3, b4⟩ := (h.obj k g o ho).1.lies
      rw [hvv, q1]
      have hlen : (o.cont.take n).length = n := by rw [List.length_take]; rw [← q1]; omega
      have hbf : o.box = false := by rw [← q3]; exact c1
      have hesz : o.esz = es := by rw [← q2]; exact c3
      have hcl : ∀ x ∈ o.cont, x.length = es := fun x hx => by rw [← hesz]; exact (h.obj k g o ho).1.len x hx
      have key : ∀ i j, i < n → j < es → ∃ u, cells[i * es + j]? = some u ∧ u.oneCell' = true := fun i j hi hj => by
        have hi' : i < o.cont.length := by rw [← q1]; omega
        have hxl := hcl _ (List.getElem_mem hi')
        obtain ⟨u, hu, _⟩ := b4 i j _ _ (List.getElem?_eq_getElem hi') (List.getElem?_eq_getElem (by omega : j < o.cont[i].length))
        rw [hesz] at hu
        exact ⟨u, hu, b3 u (by rw [Array.mem_toList_iff]; exact Array.mem_of_getElem? hu)⟩
      rw [hlen]
      refine src_lies (off := 0) hty hlen (fun x hx => hcl x (List.mem_of_mem_take hx)) (fun i j => (cells[i * es + j]?).getD undef) (fun i j hi hj => ?_) (fun i j x c hxi hj => ?_)
      · obtain ⟨u, hu, h1⟩ := key i j hi hj
        simp [World.cell?, b1, hu, h1]
      · have hi : i < n := by
          obtain ⟨hh, _⟩ := List.getElem?_eq_some_iff.1 hxi
          omega
        rw [List.getElem?_take, if_pos hi] at hxi
        obtain ⟨u, hu, hr⟩ := b4 i j x c hxi hj
        rw [hbf, hesz] at *
        simp only [hu, Option.getD_some]
        simpa using hr
    · cases hz
  · rename_i s hxs
    split at hz <;> cases hz
    rename_i he1
    subst he1
    rw [hxs] at hv
    have hv : a.eval y = .string s := ve_str hv
    rw [hv]
    have hsz : s.data.toList.length = s.size := by simp
    have hex : (s.extract 0 s.size).data = s.data := by simp [ByteArray.data_extract]
    refine ⟨s.data.toList.map fun b => .int .u8 b.toNat, ⟨hty, fun w => by simp [Builtin.lenOf], fun w' _ => ?_, by simp, ?_⟩, ⟨?_, by simp, ?_, fun i j x c hxi hj => ?_⟩⟩
    · simp only [Builtin.firstCells, List.length_map, hsz, hex, Sem.run_pure]
      congr 1
      apply Array.ext'
      simp
    · intro u hu
      simp only [List.mem_map] at hu
      obtain ⟨b, _, rfl⟩ := hu
      rfl
    · intro x hx
      simp only [List.mem_map] at hx
      obtain ⟨b, _, rfl⟩ := hx
      rfl
    · intro u hu
      simp only [List.mem_map] at hu
      obtain ⟨b, _, rfl⟩ := hu
      rfl
    · simp only [List.getElem?_map, Option.map_eq_some_iff] at hxi
      obtain ⟨b, hb, rfl⟩ := hxi
      cases j with
      | zero =>
        simp at hj; subst hj
        exact ⟨.int .u8 b.toNat, by simp at hb ⊢; exact ⟨b, hb, rfl⟩, .int _ _⟩
      | succ j => simp at hj
  · cases hz
theorem Rel.share (h : Rel C ρ I w a st) {d k g : Nat} {o : Obj} {w' : World} {cells cells' : Array Value} {ty : TypeId} (hlow : Nat)
    (hbase : C.w0.heap.size ≤ (ρ k g).blk ∨ C.M (ρ k g).blk)
    (hold : w.heap[(ρ k g).blk]? = some (.cells cells ty (0, 0))) (hw : w'.heap[(ρ k g).blk]? = some (.cells cells' ty (0, 0)))
    (hoth : ∀ b, b ≠ (ρ k g).blk → w'.heap[b]? = w.heap[b]?) (hsize : w'.heap.size = w.heap.size) (hos : w'.os = w.os) (hta : w'.tape = w.tape) (hou : w'.output = w.output)
    (hsame : ∀ off, off < hlow → cells'[off]? = cells[off]?) (hI : ∀ off, I (ρ k g).blk off → cells'[off]? = cells[off]?) (hIlen : ∀ off, I (ρ k g).blk off → off < o.cont.length * o.esz)
    (hlowle : hlow ≤ o.cont.length * o.esz)
    (hothers : ∀ k' g' o', st.obj k' g' = some o' → (ρ k' g').blk = (ρ k g).blk → o'.tip = false ∧ o'.solo = false ∧ o'.box = false ∧ o'.cont.length * o'.esz ≤ hlow)
    (hsolo : o.solo = true → (∀ k' g' o', st.obj k' g' = some o' → (ρ k' g').blk ≠ (ρ k g).blk) ∧ ∀ off, ¬ I (ρ k g).blk off)
    (hesz : (ρ k g).esz = o.esz) (hpos : 0 < o.esz) (hlen : ∀ x ∈ o.cont, x.length = o.esz) (hcap : o.cont.length ≤ (ρ k g).cap) (hbox : o.box = false)
    (hsz : cells'.size = (ρ k g).cap * o.esz) (hss : cells'.size = cells.size) (hone' : ∀ u ∈ cells'.toList, u.oneCell' = true) (hone : ∀ u ∈ cells.toList, u.oneCell' = true)
    (hc : ∀ (i j : Nat) (x : List TV) (c : TV), o.cont[i]? = some x → x[j]? = some c → ∃ u, cells'[i * o.esz + j]? = some u ∧ CT I w u c) :
    Rel C (fun k' g' => if k' = d ∧ g' = st.cnt d then ρ k g else ρ k' g') I w' a { st with obj := updO st.obj d (st.cnt d) (some o), cnt := upd st.cnt d (st.cnt d + 1) } := by
  have m : Mv I I w w' ρ (fun k' g' => if k' = d ∧ g' = st.cnt d then ρ k g else ρ k' g') st.cnt (upd st.cnt d (st.cnt d + 1)) :=
    ⟨fun _ _ h => h, fun b off hi => by
      by_cases e : b = (ρ k g).blk
      · subst e
        simp only [World.cell?, hold, hw]
        exact hI off hi
      · exact World.cell?_of_block (hoth b e), fun k' g' hg => by
      have : ¬ (k' = d ∧ g' = st.cnt d) := by rintro ⟨rfl, rfl⟩; omega
      simp only [if_neg this], fun k' => by
      by_cases e : k' = d
      · subst e; simp
      · simp [upd_ne _ _ e]⟩
  have hob : ∀ k' g' o', updO st.obj d (st.cnt d) (some o) k' g' = some o' → (k' = d ∧ g' = st.cnt d ∧ o' = o) ∨ (¬ (k' = d ∧ g' = st.cnt d) ∧ st.obj k' g' = some o') := fun k' g' o' hk => by
    by_cases e : k' = d ∧ g' = st.cnt d
    · obtain ⟨rfl, rfl⟩ := e; rw [updO_same] at hk; exact .inl ⟨rfl, rfl, (Option.some.inj hk).symm⟩
    · rw [updO_ne _ _ e] at hk; exact .inr ⟨e, hk⟩
  have hsep := h.sep
  exact {
    defers := h.defers, size := h.size
    fr := ⟨hos.trans h.fr.os, hta.trans h.fr.tape, hou.trans h.fr.output, by rw [hsize]; exact h.fr.size, fun b hb hm => by
      rw [hoth b ?_]
      · exact h.fr.block b hb hm
      · rintro rfl
        rcases hbase with h1 | h1
        · omega
        · exact hm h1⟩
    I0 := h.I0, Iin := fun b off hi => by rw [hsize]; exact h.Iin b off hi
    Isub := h.Isub
    env := fun s => m.ve (h.env s)
    obj := fun k' g' o' hk => by
      rcases hob k' g' o' hk with ⟨rfl, rfl, rfl⟩ | ⟨e, hk⟩
      · simp only [and_self, if_true]
        refine ⟨⟨hesz, hpos, hlen, hcap, cells', ty, hw, hsz, hone', fun i j x c hx hj => ?_⟩, hbase⟩
        obtain ⟨u, hu, hr⟩ := hc i j x c hx hj
        refine ⟨u, hu, ?_⟩
        rw [hbox]
        exact m.ct hr
      · simp only [if_neg e]
        refine ⟨?_, (h.obj k' g' o' hk).2⟩
        by_cases eb : (ρ k' g').blk = (ρ k g).blk
        · obtain ⟨q1, q2, q3, q4⟩ := hothers k' g' o' hk eb
          have hor := (h.obj k' g' o' hk).1
          obtain ⟨cells2, ty2, b1, b2, b3, b4⟩ := hor.lies
          rw [eb, hold] at b1
          cases b1
          refine ⟨hor.esz, hor.pos, hor.len, hor.cap, cells', ty, by rw [eb]; exact hw, ?_, hone', fun i j x c hx hj => ?_⟩
          · rw [hss, ← b2]
          · obtain ⟨u, hu, hr⟩ := b4 i j x c hx hj
            obtain ⟨hi, _⟩ := List.getElem?_eq_some_iff.1 hx
            obtain ⟨hj', _⟩ := List.getElem?_eq_some_iff.1 hj
            rw [hor.len x (List.mem_of_getElem? hx)] at hj'
            refine ⟨u, by rw [hsame _ (Nat.lt_of_lt_of_le (idx_lt hi hj') q4)]; exact hu, ?_⟩
            rw [q3] at hr ⊢
            exact m.ct hr
        · exact (h.obj k' g' o' hk).1.mv m (hoth _ eb)
    sep := {
      box := fun k' g' o' hk hb => by
        rcases hob k' g' o' hk with ⟨rfl, rfl, rfl⟩ | ⟨e, hk⟩
        · rw [hbox] at hb; cases hb
        · exact hsep.box k' g' o' hk hb
      soloI := fun k' g' o' hk hs off => by
        rcases hob k' g' o' hk with ⟨rfl, rfl, rfl⟩ | ⟨e, hk⟩
        · simp only [and_self, if_true]; exact (hsolo hs).2 off
        · simp only [if_neg e]; exact hsep.soloI k' g' o' hk hs off
      solo := fun k' g' o' hk hs k2 g2 o2 hk2 hb => by
        rcases hob k' g' o' hk with ⟨rfl, rfl, rfl⟩ | ⟨e, hk3⟩ <;> rcases hob k2 g2 o2 hk2 with ⟨rfl, rfl, rfl⟩ | ⟨e', hk4⟩
        · exact ⟨rfl, rfl⟩
        · simp only [and_self, if_true, if_neg e'] at hb
          exact absurd hb ((hsolo hs).1 _ _ _ hk4)
        · simp only [and_self, if_true, if_neg e] at hb
          have := hothers k' g' o' hk3 hb.symm
          rw [this.2.1] at hs; cases hs
        · simp only [if_neg e, if_neg e'] at hb; exact hsep.solo k' g' o' hk3 hs k2 g2 o2 hk4 hb
      tipI := fun k' g' o' hk hs off ho hI' => by
        rcases hob k' g' o' hk with ⟨rfl, rfl, rfl⟩ | ⟨e, hk⟩
        · simp only [and_self, if_true] at hI'
          have := hIlen off hI'
          omega
        · simp only [if_neg e] at hI'; exact hsep.tipI k' g' o' hk hs off ho hI'
      tip := fun k' g' o' hk hs k2 g2 o2 hk2 hb => by
        rcases hob k' g' o' hk with ⟨rfl, rfl, rfl⟩ | ⟨e, hk3⟩ <;> rcases hob k2 g2 o2 hk2 with ⟨rfl, rfl, rfl⟩ | ⟨e', hk4⟩
        · exact .inl ⟨rfl, rfl⟩
        · simp only [and_self, if_true, if_neg e'] at hb
          have := hothers _ _ _ hk4 hb
          exact .inr ⟨this.1, Nat.le_trans this.2.2.2 hlowle⟩
        · simp only [and_self, if_true, if_neg e] at hb
          have := hothers k' g' o' hk3 hb.symm
          rw [this.1] at hs; cases hs
        · simp only [if_neg e, if_neg e'] at hb; exact hsep.tip k' g' o' hk3 hs k2 g2 o2 hk4 hb }
    lent := fun i l' hl => by
      obtain ⟨h1, h2⟩ := h.lent i l' hl
      have e : ¬ (i = d ∧ 0 = st.cnt d) := by rintro ⟨rfl, e⟩; omega
      simp only [if_neg e]
      exact ⟨h1, Nat.lt_of_lt_of_le h2 (m.num i)⟩ }
theorem rep_put {R : Value → TV → Prop} {cells : Array Value} {es n : Nat} {cont zs : Cont} {news : List Value} (hlen : ∀ x ∈ cont, x.length = es) (hn : n ≤ cont.length) (hfit : n * es ≤ cells.size) (tail : List Value)
    (hrep : ∀ (i j : Nat) (x : List TV) (c : TV), cont[i]? = some x → x[j]? = some c → ∃ u, cells[i * es + j]? = some u ∧ R u c) (hrow : RowOf R news.toArray es zs) :
    ∀ (i j : Nat) (x : List TV) (c : TV), (cont.take n ++ zs)[i]? = some x → x[j]? = some c → ∃ u, (cells.toList.take (n * es) ++ news ++ tail)[i * es + j]? = some u ∧ R u c := by
  intro i j x c hx hj
  have hnl : news.length = zs.length * es := by simpa using hrow.size
  have hcn : (cont.take n).length = n := by simp; omega
  have htl : (cells.toList.take (n * es)).length = n * es := by simp; omega
  obtain ⟨hj', _⟩ := List.getElem?_eq_some_iff.1 hj
  by_cases hi : i < n
  · rw [List.getElem?_append_left (by omega), List.getElem?_take, if_pos hi] at hx
    rw [hlen x (List.mem_of_getElem? hx)] at hj'
    have hlt := idx_lt (e := es) hi hj'
    obtain ⟨u, hu, hr⟩ := hrep i j x c hx hj
    refine ⟨u, ?_, hr⟩
    rw [List.append_assoc, List.getElem?_append_left (by omega), List.getElem?_take, if_pos hlt]
    simpa using hu
  · rw [List.getElem?_append_right (by omega), hcn] at hx
    rw [hrow.len x (List.mem_of_getElem? hx)] at hj'
    obtain ⟨hz, _⟩ := List.getElem?_eq_some_iff.1 hx
    have hlt := idx_lt (e := es) hz hj'
    obtain ⟨u, hu, hr⟩ := hrow.rep (i - n) j x c hx hj
    refine ⟨u, ?_, hr⟩
    have e1 : i * es + j = n * es + ((i - n) * es + j) := by
      have : i * es = n * es + (i - n) * es := by rw [← Nat.add_mul]; congr 1; omega
      omega
    rw [e1, List.append_assoc, List.getElem?_append_right (by omega), htl, List.getElem?_append_left (by omega), Nat.add_sub_cancel_left]
    simpa using hu
theorem zeroCells_one {z : Array Value} {n : Nat} (hz : ∀ u ∈ z.toList, u.oneCell' = true) (hp : 0 < z.size) : ∀ u ∈ (Builtin.zeroCells z n).toList, u.oneCell' = true := by
  intro u hu
  simp only [Builtin.zeroCells, Array.toList_map, List.mem_map] at hu
  obtain ⟨k, hk, rfl⟩ := hu
  have h1 : k % z.size < z.size := Nat.mod_lt _ hp
  rw [getElem!_pos z _ h1]
  exact hz _ (by simp)
theorem apply_app (d : Nat) (v : TV) (o : Obj) (k g : Nat) (q : Option Obj) (st : St) : apply (some d) { v := v, new := [o], mods := [(k, g, q)] } st = { env := upd st.env d v, obj := updO (updO st.obj k g q) d (st.cnt d) (some o), cnt := upd st.cnt d (st.cnt d + 1) } := rfl
theorem sim_app (h : Rel C ρ I w a st) {hh : Nat → Nat × List Nat} {o : Oper} {es : Nat} {consume : Bool} {s x : Opd} {d : Nat} {ob : Nat → Nat → Option Obj} {e : Eff} (hd : d < C.n) (hob : Sub st.obj ob)
    (hc : compOp P hh o = some (.app es consume s x)) (he : ev (.app es consume s x) d (st.cnt d) (val st.env) ob = some (.eff e)) :
    ∃ v w' ρ', (execOp a.eval o).run P w = .ok (.value v) w' ∧ Rel C ρ' I w' (a.put (some d) v) (apply (some d) e st) := by
  obtain ⟨dst, op, type, pos, after, guard⟩ := o
  have : ∃ args ats s0 x0 t0 t1 et dd i z, op = .call { callee := .builtin .append, args := args, argTypes := ats } ∧ opds args.toList = some [s, x] ∧ ats[0]? = some t0 ∧ elemT P t0 = some (es, et) ∧ ats[1]? = some t1 ∧ P.underlying t1 = some dd ∧ P.info? et = some i ∧ zeroT P et = some z ∧ i.bytes ≤ 4096 ∧ z.length = es ∧ rowT dd = true ∧ args = #[s0, x0] ∧ opd s0 = some s ∧ opd x0 = some x := by
    cases op <;> simp only [compOp] at hc <;> (repeat' split at hc) <;> first
      | contradiction
      | (cases hc; done)
      | (simp [Option.map_eq_some_iff] at hc; done)
      | skip
    rename_i hcond
    cases hc
    rename_i args ats b _ hcall _ _ et dd ht1 _ _ i z hi hz hel hopds
    obtain ⟨y, y', g1, g2, g3⟩ := opds_two hopds
    cases h0 : ats[0]? with
    | none => simp [h0] at hel
    | some t0 =>
      cases h1 : ats[1]? with
      | none => simp [h1] at ht1
      | some t1 =>
        exact ⟨args, ats, y, y', t0, t1, et, dd, i, z, hcall, hopds, h0, by simpa [h0] using hel, h1, by simpa [h1] using ht1, hi, hz, hcond.1, hcond.2.1, hcond.2.2, by apply Array.ext'; simpa using g1, g2, g3⟩
  obtain ⟨args, ats, s0, x0, t0, t1, et, dd, i, z0, rfl, _, ha0, hel, ha1, ht1, hi, hz, hby, hzl, hrowT, rfl, hs0, hx0⟩ := this
  obtain ⟨hu, hsz, hn0⟩ := elemT_spec hel
  obtain ⟨i', zv, hi', hzv, hzc, hzl', hzp⟩ := zeroT_spec hz
  cases hi.symm.trans hi'
  have hpos : 0 < es := by omega
  have hes : i.size = es := by omega
  have hzone := (ofVals_ce (I := I) (w := w) (ρ := ρ) (cnt := st.cnt) hzc).2
  have hzsz : zv.cells.size = es := by have := ofVals_len hzc; simp at this; omega
  have hex : ∀ v w', (Builtin.append_ ats type #[a.eval s0, a.eval x0]).run P w = .ok v w' → (execOp a.eval { dst := dst, op := .call { callee := .builtin .append, args := #[s0, x0], argTypes := ats }, type := type, pos := pos, after := after, guard := guard }).run P w = .ok (.value v) w' := fun v w' hr => by
    simp [execOp, resolve, invoke, builtin, hr]
  have hv := h.opd hs0
  simp only [ev] at he
  split at he
  · rename_i zs hzs
    obtain ⟨news, hsrc, hrow⟩ := elems_src h hob.c hpos ht1 hrowT hx0 hzs
    have hnl : news.length = zs.length * es := hsrc.size
    split at he
    · rename_i hns
      rw [hns] at hv
      have hv : a.eval s0 = .slice none 0 0 := hv
      split at he
      · rename_i hlt
        split at he
        · rename_i hz0
          subst hz0
          cases he
          refine ⟨.slice none 0 0, w, ρ, hex _ _ ?_, ?_⟩
          · rw [hv]; exact run_append_none ha0 ha1 hu hsz hsrc
          · rw [apply_v]; exact h.put hd (by simp [VE, VA, CE])
        · rename_i hzne
          cases he
          have hzpos : 0 < zs.length := List.length_pos_iff.2 hzne
          have hrun := run_append_new (P := P) (w := w) (ty := type) (A := none) (n := 0) (cap := 0) (olds := []) ha0 ha1 hu hi hzv hes hby hsrc (fun w' _ => by simp [Builtin.firstCells]) (by omega) (by omega)
          rw [Nat.zero_add] at hrun
          have hge := grownCap_ge w zs.length 0 et
          obtain ⟨ρ', r⟩ := h.new (d := d) hd (w' := w.drew.alloc (.cells (#[] ++ news.toArray ++ Builtin.zeroCells zv.cells (grownCap w zs.length 0 et - zs.length)) et)) (cells := #[] ++ news.toArray ++ Builtin.zeroCells zv.cells (grownCap w zs.length 0 et - zs.length)) (ty := et) (by rfl) rfl rfl rfl
            (o := { cont := zs, esz := es, box := false, solo := true, tip := true }) (cap := grownCap w zs.length 0 et) hpos hrow.len hge
            (by simp [size_zeroCells, hnl, hzsz, ← Nat.add_mul]; congr 1; omega)
            (fun u hu => by
              simp only [Array.toList_append, List.mem_append] at hu
              rcases hu with (hu | hu) | hu
              · simp at hu
              · exact hsrc.one u (by simpa using hu)
              · exact zeroCells_one hzone (by omega) u hu)
            (fun i j y c hy hj => by
              obtain ⟨u, h1, h2⟩ := rep_put (R := CT I w) (cells := #[]) (cont := []) (n := 0) (by simp) (by simp) (by simp) (Builtin.zeroCells zv.cells (grownCap w zs.length 0 et - zs.length)).toList (by simp) hrow i j y c (by simpa using hy) hj
              refine ⟨u, ?_, by simpa using h2⟩
              rw [← Array.getElem?_toList]
              simpa using h1) (by simp) (t := .hs d (st.cnt d) es zs.length) (v := .slice (some ⟨w.heap.size, 0, none⟩) zs.length (grownCap w zs.length 0 et)) (.inr ⟨_, rfl, hge, rfl⟩)
          refine ⟨_, _, ρ', hex _ _ (by rw [hv]; exact hrun), ?_⟩
          rw [apply_new]
          exact r
      · cases he
    · rename_i k g e' n hns
      rw [hns] at hv
      obtain ⟨hglt, hle, hvv, hncap⟩ := hv
      split at he
      · rename_i o' ho'
        split at he <;> cases he
        rename_i hcond
        obtain ⟨c1, rfl, c3, c4, c5, c6, c7, c8⟩ := hcond
        obtain ⟨o2, ho, _, _, _, hsame⟩ := hob k g o' ho'
        have := hsame (.inr c4)
        subst this
        obtain ⟨hor, hbase⟩ := h.obj k g o' ho
        obtain ⟨cells, ty, b1, b2, b3, b4⟩ := hor.lies
        rw [c1, c3] at b4
        simp only [Bool.false_eq_true, if_false] at b4
        have hcl : ∀ y ∈ o'.cont, y.length = e' := fun y hy => by rw [← c3]; exact hor.len y hy
        rw [c3] at b2
        have hfit0 : n * e' ≤ cells.size := by rw [b2]; exact Nat.mul_le_mul_right _ hncap
        have h1 : Rel C ρ I w a { st with obj := updO st.obj k g (if consume then none else some { o' with solo := false, tip := false }) } := by
          refine h.flags fun k' g' o'' hk => ?_
          by_cases e : k' = k ∧ g' = g
          · obtain ⟨rfl, rfl⟩ := e
            rw [updO_same] at hk
            cases consume
            · simp at hk; subst hk
              exact ⟨o', ho, rfl, rfl, rfl, by simp, by simp, fun hb => by rw [c1] at hb; cases hb⟩
            · simp at hk
          · rw [updO_ne _ _ e] at hk
            exact ⟨o'', hk, rfl, rfl, rfl, fun h => h, fun h => h, fun _ => rfl⟩
        rw [apply_app]
        by_cases hroom : n + zs.length ≤ (ρ k g).cap
        ·
          have hrun := run_append_in (P := P) (w := w) (ty := type) ha0 ha1 hu hsz hsrc b1 hroom b2
          rw [← hvv] at hrun
          have hfit : n * e' + news.length ≤ cells.size := by rw [hnl, ← Nat.add_mul, b2]; exact Nat.mul_le_mul_right _ hroom
          let nc : Array Value := (cells.toList.take (n * e') ++ news ++ cells.toList.drop (n * e' + news.length)).toArray
          have hncs : nc.size = cells.size := by simp [nc]; omega
          have hlow : ∀ off, off < n * e' → nc[off]? = cells[off]? := fun off ho => by
            rw [← Array.getElem?_toList]
            simp only [nc, List.append_assoc]
            rw [List.getElem?_append_left (by simp; omega), List.getElem?_take, if_pos ho]
            simp
          have hIlow : ∀ off, I (ρ k g).blk off → off < n * e' := fun off hI => by
            cases hcs : consume
            · rw [c7 hcs]
              refine Nat.lt_of_not_le fun hle => h.sep.tipI k g o' ho c4 off (by rw [c3]; exact hle) hI
            · exact absurd hI (h.sep.soloI k g o' ho (c6 hcs) off)
          have hothers : ∀ k' g' o'', updO st.obj k g (if consume then none else some { o' with solo := false, tip := false }) k' g' = some o'' → (ρ k' g').blk = (ρ k g).blk → consume = false ∧ o''.tip = false ∧ o''.solo = false ∧ o''.box = false ∧ o''.cont.length * o''.esz ≤ n * e' := fun k' g' o'' hk hb => by
            by_cases e : k' = k ∧ g' = g
            · obtain ⟨rfl, rfl⟩ := e
              rw [updO_same] at hk
              cases hcs : consume
              · simp [hcs] at hk; subst hk
                exact ⟨rfl, rfl, rfl, c1, by rw [c7 hcs]; simp [c3]⟩
              · simp [hcs] at hk
            · rw [updO_ne _ _ e] at hk
              have hns : o''.solo = false := by
                cases hs : o''.solo
                · rfl
                · have := h.sep.solo k' g' o'' hk hs k g o' ho hb.symm
                  exact absurd ⟨this.1.symm, this.2.symm⟩ e
              have hnb : o''.box = false := by
                cases hs : o''.box
                · rfl
                · have := (h.sep.box k' g' o'' hk hs).1
                  rw [hns] at this; cases this
              cases hcs : consume
              · rcases h.sep.tip k g o' ho c4 k' g' o'' hk hb with q | ⟨q1, q2⟩
                · exact absurd q e
                · exact ⟨rfl, q1, hns, hnb, by rw [c7 hcs, ← c3]; exact q2⟩
              · exact absurd (h.sep.solo k g o' ho (c6 hcs) k' g' o'' hk hb) e
          have hnlen : (o'.cont.take n ++ zs).length = n + zs.length := by simp; omega
          have r := h1.share (d := d) (k := k) (g := g) (o := { cont := o'.cont.take n ++ zs, esz := e', box := false, solo := consume, tip := true }) (w' := w.setRow (ρ k g).blk nc) (n * e') hbase b1 (setRow_eq b1)
            (fun b hb => setRow_other w _ b nc (fun e => hb e)) (by simp [World.setRow]) rfl rfl rfl hlow (fun off hI => hlow off (hIlow off hI))
            (fun off hI => by have := hIlow off hI; show off < List.length (o'.cont.take n ++ zs) * e'; rw [hnlen]; have := Nat.mul_le_mul_right e' (Nat.le_add_right n zs.length); omega)
            (by show n * e' ≤ List.length (o'.cont.take n ++ zs) * e'; rw [hnlen]; exact Nat.mul_le_mul_right e' (Nat.le_add_right n zs.length))
            (fun k' g' o'' hk hb => (hothers k' g' o'' hk hb).2)
            (fun hs => ⟨fun k' g' o'' hk hb => absurd ((hothers k' g' o'' hk hb).1.symm.trans hs) (by simp), h.sep.soloI k g o' ho (c6 hs)⟩)
            (hor.esz.trans c3) hpos (fun y hy => by
              rcases List.mem_append.1 hy with hy | hy
              · exact hcl y (List.mem_of_mem_take hy)
              · exact hrow.len y hy) (by show List.length (o'.cont.take n ++ zs) ≤ _; rw [hnlen]; exact hroom) rfl (by rw [hncs, b2]) hncs
            (fun u hu => by
              have hu : u ∈ cells.toList.take (n * e') ++ news ++ cells.toList.drop (n * e' + news.length) := by simpa [nc] using hu
              simp only [List.mem_append] at hu
              rcases hu with (hu | hu) | hu
              · exact b3 u (List.mem_of_mem_take hu)
              · exact hsrc.one u hu
              · exact b3 u (List.mem_of_mem_drop hu)) b3
            (fun i j y c hy hj => by
              obtain ⟨u, h1, h2⟩ := rep_put hcl c5 hfit0 (cells.toList.drop (n * e' + news.length)) b4 hrow i j y c hy hj
              refine ⟨u, ?_, h2⟩
              rw [← Array.getElem?_toList]
              exact h1)
          have q := r.put (d := d) (v := .slice (some ⟨(ρ k g).blk, 0, none⟩) (n + zs.length) (ρ k g).cap) (t := .hs d (st.cnt d) e' (n + zs.length)) hd (by
            exact ⟨by simp, by simp [hor.esz, c3], by simp, by simpa using hroom⟩)
          exact ⟨_, _, _, hex _ _ hrun, q⟩
        ·
          have hgt : (ρ k g).cap < n + zs.length := by omega
          let olds : List Value := cells.toList.take (n * e')
          have hrun := run_append_new (P := P) (w := w) (ty := type) (A := some ⟨(ρ k g).blk, 0, none⟩) (n := n) (cap := (ρ k g).cap) (olds := olds) ha0 ha1 hu hi hzv hes hby hsrc (fun w' hw' => by
            refine run_firstCells_some (P := P) w' e' n _ _ _ olds (by simp [olds]; omega) fun j u hj => ?_
            simp only [olds, List.getElem?_take] at hj
            split at hj
            · have : w.cell? ⟨(ρ k g).blk, 0 + j, none⟩ = some u := by simp [World.cell?, b1]; simpa using hj
              rw [Addr.add_lit, hw' _ _ (cell_ne this), this]
            · cases hj) hgt c8
          rw [← hvv] at hrun
          have hge := grownCap_ge w (n + zs.length) (ρ k g).cap et
          have hnlen : (o'.cont.take n ++ zs).length = n + zs.length := by simp; omega
          obtain ⟨ρ', r⟩ := h1.new (d := d) hd (w' := w.drew.alloc (.cells (olds.toArray ++ news.toArray ++ Builtin.zeroCells zv.cells (grownCap w (n + zs.length) (ρ k g).cap et - (n + zs.length))) et)) (cells := olds.toArray ++ news.toArray ++ Builtin.zeroCells zv.cells (grownCap w (n + zs.length) (ρ k g).cap et - (n + zs.length))) (ty := et) (by rfl) rfl rfl rfl
            (o := { cont := o'.cont.take n ++ zs, esz := e', box := false, solo := consume, tip := true }) (cap := grownCap w (n + zs.length) (ρ k g).cap et) hpos
            (fun y hy => by
              rcases List.mem_append.1 hy with hy | hy
              · exact hcl y (List.mem_of_mem_take hy)
              · exact hrow.len y hy) (by show List.length (o'.cont.take n ++ zs) ≤ _; rw [hnlen]; exact hge)
            (by
              have : olds.length = n * e' := by simp [olds]; omega
              simp only [Array.size_append, List.size_toArray, size_zeroCells, this, hnl, hzsz, ← Nat.add_mul]
              congr 1; omega)
            (fun u hu => by
              simp only [Array.toList_append, List.mem_append] at hu
              rcases hu with (hu | hu) | hu
              · exact b3 u (List.mem_of_mem_take (by simpa [olds] using hu))
              · exact hsrc.one u (by simpa using hu)
              · exact zeroCells_one hzone (by omega) u hu)
            (fun i j y c hy hj => by
              obtain ⟨u, h1, h2⟩ := rep_put hcl c5 hfit0 (Builtin.zeroCells zv.cells (grownCap w (n + zs.length) (ρ k g).cap et - (n + zs.length))).toList b4 hrow i j y c hy hj
              refine ⟨u, ?_, by simpa using h2⟩
              rw [← Array.getElem?_toList]
              simpa [olds] using h1) (by simp) (t := .hs d (st.cnt d) e' (n + zs.length)) (v := .slice (some ⟨w.heap.size, 0, none⟩) (n + zs.length) (grownCap w (n + zs.length) (ρ k g).cap et)) (.inr ⟨_, rfl, hge, rfl⟩)
          exact ⟨_, _, ρ', hex _ _ hrun, r⟩
      · cases he
    · cases he
  · cases he
end
end Go.TM
end
section
namespace Go.TM
set_option linter.unusedVariables false
set_option linter.unusedSimpArgs false
section
variable {P : Program} {C : Ctx} {ρ : Nat → Nat → Loc} {I : Nat → Nat → Prop} {w : World} {a : Act} {st : St}
theorem Rel.change (h : Rel C ρ I w a st) {I' : Nat → Nat → Prop} {w' : World} {ob' : Nat → Nat → Option Obj} (L : Nat → Prop) (hos : w'.os = w.os) (hta : w'.tape = w.tape) (hou : w'.output = w.output)
    (hsize : w.heap.size ≤ w'.heap.size) (hblk : ∀ b, b < w.heap.size → ¬ L b → w'.heap[b]? = w.heap[b]?) (hL : ∀ b, L b → (C.w0.heap.size ≤ b ∨ C.M b) ∧ ∀ off, ¬ I b off)
    (hI : ∀ b o, I b o → I' b o) (hIsub : ∀ b o, I' b o → I b o ∨ w.heap.size ≤ b) (hIin : ∀ b o, I' b o → b < w'.heap.size)
    (hob : ∀ k g o', ob' k g = some o' → ∃ o, st.obj k g = some o ∧ o'.cont.length = o.cont.length ∧ o'.esz = o.esz ∧ o'.box = o.box ∧ o'.solo = o.solo ∧ o'.tip = o.tip ∧ ((o' = o ∧ ¬ L (ρ k g).blk) ∨ OR I' w' ρ st.cnt (ρ k g) o')) :
    Rel C ρ I' w' a { st with obj := ob' } := by
  have m : Mv I I' w w' ρ ρ st.cnt st.cnt := ⟨hI, fun b o hi => World.cell?_of_block (hblk b (h.Iin b o hi) fun hl => (hL b hl).2 o hi), fun _ _ _ => rfl, fun _ => Nat.le_refl _⟩
  have hsep := h.sep
  exact {
    defers := h.defers, size := h.size
    fr := ⟨hos.trans h.fr.os, hta.trans h.fr.tape, hou.trans h.fr.output, Nat.le_trans h.fr.size hsize, fun b hlt hm => by
      rw [hblk b (Nat.lt_of_lt_of_le hlt h.fr.size) fun hl => ?_]
      · exact h.fr.block b hlt hm
      · rcases (hL b hl).1 with h1 | h1
        · omega
        · exact hm h1⟩
    I0 := fun b o hi => hI _ _ (h.I0 b o hi), Iin := hIin
    Isub := fun b o hi => by
      rcases hIsub b o hi with h1 | h1
      · exact h.Isub b o h1
      · exact .inr (.inl (Nat.le_trans h.fr.size h1))
    env := fun s => m.ve (h.env s)
    obj := fun k g o' hk => by
      obtain ⟨o, h1, _, _, _, _, _, h2⟩ := hob k g o' hk
      have := h.obj k g o h1
      refine ⟨?_, this.2⟩
      rcases h2 with ⟨rfl, h2⟩ | h2
      · exact this.1.mv m (hblk _ this.1.blk_lt h2)
      · exact h2
    sep := {
      box := fun k g o' hk hb => by
        obtain ⟨o, h1, _, _, h2, h3, h4, _⟩ := hob k g o' hk
        rw [h3, h4]; exact hsep.box k g o h1 (by rw [← h2]; exact hb)
      soloI := fun k g o' hk hs off hi => by
        obtain ⟨o, h1, _, _, h2, h3, h4, _⟩ := hob k g o' hk
        rcases hIsub _ _ hi with hi | hi
        · exact hsep.soloI k g o h1 (by rw [← h3]; exact hs) off hi
        · have := (h.obj k g o h1).1.blk_lt; omega
      solo := fun k g o' hk hs k' g' o'' hk' hb => by
        obtain ⟨o, h1, _, _, h2, h3, h4, _⟩ := hob k g o' hk
        obtain ⟨p, p1, _⟩ := hob k' g' o'' hk'
        exact hsep.solo k g o h1 (by rw [← h3]; exact hs) k' g' p p1 hb
      tipI := fun k g o' hk hs off ho hi => by
        obtain ⟨o, h1, q1, q2, h2, h3, h4, _⟩ := hob k g o' hk
        rcases hIsub _ _ hi with hi | hi
        · exact hsep.tipI k g o h1 (by rw [← h4]; exact hs) off (by rw [← q1, ← q2]; exact ho) hi
        · have := (h.obj k g o h1).1.blk_lt; omega
      tip := fun k g o' hk hs k' g' o'' hk' hb => by
        obtain ⟨o, h1, q1, q2, h2, h3, h4, _⟩ := hob k g o' hk
        obtain ⟨p, p1, r1, r2, p2, p3, p4, _⟩ := hob k' g' o'' hk'
        rw [p4, q1, q2, r1, r2]
        exact hsep.tip k g o h1 (by rw [← h4]; exact hs) k' g' p p1 hb }
    lent := h.lent }
theorem Rel.widen (h : Rel C ρ I w a st) (J : Nat → Nat → Prop) (hJ : ∀ b o, J b o → C.w0.heap.size ≤ b ∧ b < w.heap.size ∧ ∀ k g o', st.obj k g = some o' → (ρ k g).blk ≠ b) :
    Rel C ρ (fun b o => I b o ∨ J b o) w a st := by
  have m : Mv I (fun b o => I b o ∨ J b o) w w ρ ρ st.cnt st.cnt := ⟨fun _ _ h => .inl h, fun _ _ _ => rfl, fun _ _ _ => rfl, fun _ => Nat.le_refl _⟩
  exact {
    defers := h.defers, size := h.size, fr := h.fr, I0 := fun b o hi => .inl (h.I0 b o hi)
    Iin := fun b o hi => hi.elim (h.Iin b o) fun hj => (hJ b o hj).2.1
    Isub := fun b o hi => hi.elim (h.Isub b o) fun hj => .inr (.inl (hJ b o hj).1)
    env := fun s => m.ve (h.env s)
    obj := fun k g o hk => ⟨(h.obj k g o hk).1.mv m rfl, (h.obj k g o hk).2⟩
    sep := {
      box := h.sep.box, solo := h.sep.solo, tip := h.sep.tip
      soloI := fun k g o hk hs off hi => hi.elim (h.sep.soloI k g o hk hs off) fun hj => (hJ _ _ hj).2.2 k g o hk rfl
      tipI := fun k g o hk hs off ho hi => hi.elim (h.sep.tipI k g o hk hs off ho) fun hj => (hJ _ _ hj).2.2 k g o hk rfl }
    lent := h.lent }
def rowObj (e : Nat) (xs : Cont) : Obj := { cont := xs, esz := e, box := false, solo := true, tip := true }
def OwnRow (I : Nat → Nat → Prop) (w : World) (l : Loc) (e : Nat) (xs : Cont) : Prop := OR I w (fun _ _ => ⟨0, 0, 0⟩) (fun _ => 0) l (rowObj e xs)
theorem OR.row {I : Nat → Nat → Prop} {w : World} {ρ ρ' : Nat → Nat → Loc} {cnt cnt' : Nat → Nat} {l : Loc} {o o' : Obj} (h : OR I w ρ cnt l o) (hb : o.box = false) (hb' : o'.box = false) (hc : o'.cont = o.cont) (he : o'.esz = o.esz) : OR I w ρ' cnt' l o' :=
  { esz := h.esz.trans he.symm, pos := by rw [he]; exact h.pos, len := by rw [hc, he]; exact h.len, cap := by rw [hc]; exact h.cap
    lies := by
      obtain ⟨cells, ty, h1, h2, h3, h4⟩ := h.lies
      refine ⟨cells, ty, h1, by rw [he]; exact h2, h3, fun i j x c hx hj => ?_⟩
      rw [hc] at hx
      obtain ⟨u, hu, hr⟩ := h4 i j x c hx hj
      rw [hb] at hr
      rw [hb', he]
      exact ⟨u, hu, by simpa using hr⟩ }
def ArgAt (I : Nat → Nat → Prop) (w : World) (lent : Option Loc) (v : Value) : TV → Prop
  | .own e xs => ∃ l, lent = some l ∧ v = .slice (some ⟨l.blk, 0, none⟩) xs.length l.cap ∧ OwnRow I w l e xs
  | t => lent = none ∧ TA I w v t
inductive ArgsOk (I : Nat → Nat → Prop) (w : World) (lent : Nat → Option Loc) : Nat → List Value → List TV → Prop where
  | nil {i} : ArgsOk I w lent i [] []
  | cons {i v t vs ts} : ArgAt I w (lent i) v t → ArgsOk I w lent (i + 1) vs ts → ArgsOk I w lent i (v :: vs) (t :: ts)
structure Enter (I0 : Nat → Nat → Prop) (w : World) (lent : Nat → Option Loc) (vals : Array Value) (args : List TV) : Prop where
  Iin : ∀ b o, I0 b o → b < w.heap.size
  ok : ArgsOk I0 w lent 0 vals.toList args
  past : ∀ i, args.length ≤ i → lent i = none
  lentI : ∀ i l, lent i = some l → ∀ off, ¬ I0 l.blk off
  lent1 : ∀ i j l l', lent i = some l → lent j = some l' → l.blk = l'.blk → i = j
def RC (I : Nat → Nat → Prop) (w : World) (v : Value) : TV → List Loc → Prop
  | .own e xs, ls => ∃ l, ls = [l] ∧ v = .slice (some ⟨l.blk, 0, none⟩) xs.length l.cap ∧ OwnRow I w l e xs
  | .nils, ls => ls = [] ∧ v = .slice none 0 0
  | t, ls => ls = [] ∧ CT I w v t
inductive RCs (I : Nat → Nat → Prop) (w : World) : List Value → List TV → List Loc → Prop where
  | nil : RCs I w [] [] []
  | cons {v t vs ts l1 l2} : RC I w v t l1 → RCs I w vs ts l2 → RCs I w (v :: vs) (t :: ts) (l1 ++ l2)
def RV (I : Nat → Nat → Prop) (w : World) (v : Value) : TV → List Loc → Prop
  | .tup us, ls => ls = [] ∧ ∃ vs : Array Value, v = .tuple vs ∧ All2 (TA I w) vs.toList us
  | .agg cs, ls => ∃ vs : Array Value, v = .agg vs ∧ RCs I w vs.toList cs ls
  | t, ls => RC I w v t ls
def MutsOk (w : World) (lent : Nat → Option Loc) : Nat → List TV → List Cont → Prop
  | i, .own e xs :: ts, cs => ∃ c cs' l, cs = c :: cs' ∧ lent i = some l ∧ c.length = xs.length ∧ OwnRow (fun _ _ => False) w l e c ∧ MutsOk w lent (i + 1) ts cs'
  | i, _ :: ts, cs => MutsOk w lent (i + 1) ts cs
  | _, [], cs => cs = []
structure Post (I0 : Nat → Nat → Prop) (w : World) (lent : Nat → Option Loc) (args : List TV) (r : Res) (v : Value) (w' : World) (I' : Nat → Nat → Prop) (ls : List Loc) : Prop where
  imm : ∀ b o, I0 b o → I' b o
  Isub : ∀ b o, I' b o → I0 b o ∨ w.heap.size ≤ b
  Iin : ∀ b o, I' b o → b < w'.heap.size
  fr : Fr w w' fun b => ∃ i l, lent i = some l ∧ l.blk = b
  res : RV I' w' v r.1 ls
  own : ∀ l ∈ ls, w.heap.size ≤ l.blk ∧ l.blk < w'.heap.size ∧ ∀ off, ¬ I' l.blk off
  own1 : ls.Pairwise fun l l' => l.blk ≠ l'.blk
  muts : MutsOk w' lent 0 args r.2
def Sound (P : Program) (f : Nat) (args : List TV) (r : Res) : Prop :=
  ∀ (I0 : Nat → Nat → Prop) (w : World) (lent : Nat → Option Loc) (vals : Array Value), Enter I0 w lent vals args →
    (∃ v w' I' ls, (callFunc f vals).run P w = .ok (.value v) w' ∧ Post I0 w lent args r v w' I' ls) ∨
    ∃ g, (callFunc f vals).run P w = .ok (.enter g vals) w ∧ Calls P g vals w fun e w' => ∃ v I' ls, e = .returned v ∧ Post I0 w lent args r v w' I' ls
theorem CT.flat {I' : Nat → Nat → Prop} {v : Value} {t : TV} (h : CT I w v t) (hd : deep t = false) : CT I' w v t := by
  cases h with
  | int k n => exact .int k n
  | bool b => exact .bool b
  | str s => exact .str s
  | sl0 a cap => exact .sl0 a cap
  | sl b off cap e xs g hne =>
    cases xs with
    | nil => exact absurd rfl hne
    | cons => simp [deep] at hd
theorem flat_get {c : Cont} (h : flat c = true) {i j : Nat} {x : List TV} {v : TV} (hx : c[i]? = some x) (hj : x[j]? = some v) : deep v = false := by
  have h1 := List.all_eq_true.1 h x (List.mem_of_getElem? hx)
  have h2 := List.all_eq_true.1 h1 v (List.mem_of_getElem? hj)
  simpa using h2
theorem OwnRow.flat {I' : Nat → Nat → Prop} {l : Loc} {e : Nat} {xs : Cont} (h : OwnRow I w l e xs) (hf : TM.flat xs = true) : OwnRow I' w l e xs :=
  { esz := h.esz, pos := h.pos, len := h.len, cap := h.cap
    lies := by
      obtain ⟨cells, ty, h1, h2, h3, h4⟩ := h.lies
      refine ⟨cells, ty, h1, h2, h3, fun i j x c hx hj => ?_⟩
      obtain ⟨u, hu, hr⟩ := h4 i j x c hx hj
      exact ⟨u, hu, CT.flat hr (flat_get hf hx hj)⟩ }
theorem RC.weaken {I' : Nat → Nat → Prop} {v : Value} {t : TV} {ls : List Loc} (h : RC I w v t ls) (hs : hasSl1 t = false) : RC I' w v t ls := by
  cases t <;> simp only [RC] at h ⊢
  case own e xs =>
    obtain ⟨l, h1, h2, h3⟩ := h
    exact ⟨l, h1, h2, h3.flat (by simpa [hasSl1] using hs)⟩
  case nils => exact h
  case sl xs => exact ⟨h.1, h.2.flat (by cases xs <;> simp_all [hasSl1, deep])⟩
  all_goals exact ⟨h.1, h.2.flat rfl⟩
theorem RCs.weaken {I' : Nat → Nat → Prop} {vs : List Value} {ts : List TV} {ls : List Loc} (h : RCs I w vs ts ls) (hs : ts.any hasSl1 = false) : RCs I' w vs ts ls := by
  induction h with
  | nil => exact .nil
  | cons h1 _ ih =>
    simp only [List.any_cons, Bool.or_eq_false_iff] at hs
    exact .cons (h1.weaken hs.1) (ih hs.2)
theorem CT.view {v : Value} {t : TV} (h : CT I w v t) : TM.view1 t = t := by cases h <;> rfl
theorem RC.tree {v : Value} {t : TV} {ls : List Loc} (h : RC I w v t ls) {I' : Nat → Nat → Prop} (hI : ∀ b o, I b o → I' b o) (hl : ∀ l ∈ ls, ∀ e xs, t = .own e xs → ∀ off, off < xs.length * e → I' l.blk off) : CT I' w v (view1 t) := by
  have go : ∀ {v : Value} {t : TV}, CT I w v t → CT I' w v (view1 t) := fun h => by rw [h.view]; exact h.move hI (fun _ _ _ => rfl)
  cases t <;> simp only [RC] at h
  case own e xs =>
    obtain ⟨l, rfl, rfl, hr⟩ := h
    simp only [view1]
    obtain ⟨cells, ty, h1, h2, h3, h4⟩ := hr.lies
    by_cases hz : xs = []
    · subst hz; exact .sl0 _ _
    · have hlen := hr.len
      simp only [rowObj] at hlen h4
      have key : ∀ i j, i < xs.length → j < e → ∃ u, cells[i * e + j]? = some u ∧ ∀ (x : List TV) (c : TV), xs[i]? = some x → x[j]? = some c → CT I w u c := fun i j hi hj => by
        have hx := hlen _ (List.getElem_mem hi)
        obtain ⟨u, hu, hr⟩ := h4 i j _ _ (List.getElem?_eq_getElem hi) (List.getElem?_eq_getElem (by omega : j < xs[i].length))
        refine ⟨u, hu, fun x c hx' hc => ?_⟩
        rw [List.getElem?_eq_getElem hi] at hx'
        cases hx'
        rw [List.getElem?_eq_getElem (by omega : j < xs[i].length)] at hc
        cases hc
        simpa using hr
      refine CT.sl l.blk 0 l.cap e xs (fun i j => (cells[i * e + j]?).getD undef) hz hr.cap hr.pos hlen (fun i j hi hj => ?_) (fun i j x c hx hj => ?_)
      · obtain ⟨u, hu, _⟩ := key i j hi hj
        exact ⟨by simpa using hl l (by simp) e xs rfl _ (idx_lt hi hj), by simp [World.cell?, h1, hu]⟩
      · obtain ⟨hi, _⟩ := List.getElem?_eq_some_iff.1 hx
        obtain ⟨hj', _⟩ := List.getElem?_eq_some_iff.1 hj
        rw [hlen x (List.mem_of_getElem? hx)] at hj'
        obtain ⟨u, hu, hr⟩ := key i j hi hj'
        simp only [hu, Option.getD_some]
        exact (hr x c hx hj).move hI (fun _ _ _ => rfl)
  case nils =>
    obtain ⟨_, rfl⟩ := h
    exact .sl0 _ _
  all_goals exact go h.2
end
end Go.TM
end
