/- The abstract machine (1): values as trees, local objects by slots; it is proved sound against the model. -/
import GoSem.Dispatch
import Derived.Laws.Entries
import Derived.WalkKit
import Derived.Deep.MidRow
import Derived.ChangeKeysEq
import Derived.LoopN
import Derived.ScopeJumps
namespace Go.Ab
abbrev Id := Nat × Nat
inductive V where
  | val (v : Value)
  | agg (cs : List V)
  | tup (vs : List V)
  | nils
  | ro (sz len : Nat) (cells : List V)
  | own (sz len : Nat) (cells : List V)
  | box (cells : List V)
  | sref (i : Id) (off len sz : Nat)
  | ptr (i : Id) (off : Nat)
  | rp (cells : List V) (off : Nat)
  | clo (f : FuncId) (caps : List V)
  | dead
  deriving Inhabited
def scalar : Value → Bool
  | .bool _ | .int .. | .float .. | .complex .. | .string _ | .pointer none | .map none | .nilFunc | .nilIface => true
  | .func (.func _) a b => a.isEmpty && b.isEmpty
  | _ => false
inductive Cond where
  | live | froz | gone
  deriving DecidableEq, Inhabited
structure Ob where
  ep : Nat
  c : Cond
  row : Bool
  cells : List V
  deriving Inhabited
structure St where
  t : List (Nat × V)
  h : List (Nat × Ob)
  ep : Nat
def look {α : Type} : List (Nat × α) → Nat → Option α
  | [], _ => none
  | (j, x) :: l, i => if i = j then some x else look l i
def put {α : Type} : List (Nat × α) → Nat → α → List (Nat × α)
  | [], i, x => [(i, x)]
  | (j, y) :: l, i, x => if i = j then (i, x) :: l else (j, y) :: put l i x
def St.getT (s : St) (i : Nat) : V := (look s.t i).getD .dead
def pick? (i : Id) : Option Ob → Option Ob
  | some o => if o.ep = i.2 then (match o.c with | .gone => none | _ => some o) else none
  | none => none
def St.getO (s : St) (i : Id) : Option Ob := pick? i (look s.h i.1)
inductive Q (α : Type) where
  | ret (a : α)
  | ask (i : Id) (k : Ob → Q α)
  | fail
def Q.bind {α β : Type} : Q α → (α → Q β) → Q β
  | .ret a, f => f a
  | .ask i k, f => .ask i fun o => (k o).bind f
  | .fail, _ => .fail
instance : Monad Q where
  pure := Q.ret
  bind := Q.bind
def Q.run {α : Type} (h : Id → Option Ob) : Q α → Option α
  | .ret a => some a
  | .ask i k => match h i with | some o => (k o).run h | none => none
  | .fail => none
def Q.asked {α : Type} (h : Id → Option Ob) : Q α → List Nat
  | .ask i k => i.1 :: (match h i with | some o => (k o).asked h | none => [])
  | _ => []
def Q.ofOpt {α : Type} : Option α → Q α
  | some a => .ret a
  | none => .fail
structure Eff where
  val : V
  w : List (Nat × Ob)
-- the types' table
inductive Dsc where
  | bool
  | int (k : IntKind)
  | str
  | cplx (k : FloatKind)
  | ptr (e : TypeId)
  | slice (e : TypeId)
  | arr (n : Nat) (e : TypeId)
  | struct (fs : List (Nat × TypeId × Bool))
  | map (k e : TypeId)
  | other
  deriving DecidableEq, Inhabited
structure TI where
  d : Dsc
  size : Nat
  bytes : Nat
  zero : List V
  rw : Bool := false
abbrev Tab := TypeId → Option TI
def dsc (T : Tab) (t : TypeId) : Option Dsc := (T t).map fun i => i.d
def Dsc.agg : Dsc → Bool
  | .arr .. | .struct _ => true
  | _ => false
def V.ofCell (v : Value) : V :=
  match v with
  | .slice none 0 0 => .nils
  | v => if scalar v then .val v else .dead
def V.ofConst (v : Value) : V :=
  match v with
  | .agg cs => .agg (cs.toList.map V.ofCell)
  | v => V.ofCell v
def V.cells : V → List V
  | .agg cs => cs
  | .tup vs => [.tup vs]
  | v => [v]
def V.single : V → Bool
  | .agg _ | .tup _ | .own .. | .box _ | .dead => false
  | _ => true
def V.closed : V → Bool
  | .val _ | .nils | .ro .. => true
  | _ => false
def mkV (agg : Bool) (cs : List V) : Option V :=
  if agg then some (.agg cs) else match cs with
    | [x] => some x
    | _ => none
def sub (cells : List V) (off n : Nat) : Option (List V) :=
  if off + n ≤ cells.length then some ((cells.drop off).take n) else none
def splice (cells : List V) (off : Nat) (xs : List V) : Option (List V) :=
  if off + xs.length ≤ cells.length then some (cells.take off ++ xs ++ cells.drop (off + xs.length)) else none
def fillV (place : Nat → Option (Nat × Nat)) (cells : List V) : List (Nat × V) → Option (List V)
  | [] => some cells
  | (i, v) :: rest =>
    match place i with
    | none => none
    | some (off, size) =>
      if v.cells.length = size ∧ v.cells.all V.single = true then
        match splice cells off v.cells with
        | some cs => fillV place cs rest
        | none => none
      else none
def shiftI (op : BinOp) (k : IntKind) (a b : Int) : Option Value :=
  if b < 0 then none else
  match op with
  | .shl => some (.int k (k.wrap (a * 2 ^ (min b.toNat k.bits))))
  | .shr => some (.int k (a.fdiv (2 ^ (min b.toNat k.bits))))
  | _ => none
def binI (op : BinOp) (k : IntKind) (a b : Int) : Option Value :=
  match op with
  | .add => some (.int k (k.wrap (a + b)))
  | .sub => some (.int k (k.wrap (a - b)))
  | .mul => some (.int k (k.wrap (a * b)))
  | .quo => if b = 0 then none else some (.int k (k.wrap (a.tdiv b)))
  | .rem => if b = 0 then none else some (.int k (a.tmod b))
  | .and => some (.int k (bits .and k a b))
  | .or => some (.int k (bits .or k a b))
  | .xor => some (.int k (bits .xor k a b))
  | .andNot => some (.int k (bits .andNot k a b))
  | .eql => some (.bool (decide (a = b)))
  | .neq => some (.bool (!decide (a = b)))
  | .lss => some (.bool (decide (a < b)))
  | .leq => some (.bool (decide (a ≤ b)))
  | .gtr => some (.bool (decide (b < a)))
  | .geq => some (.bool (decide (b ≤ a)))
  | _ => none
def binS (op : BinOp) (a b : ByteArray) : Option Value :=
  match op with
  | .eql => some (.bool (a.toList == b.toList))
  | .neq => some (.bool (!(a.toList == b.toList)))
  | .lss => some (.bool (Op.bytesLess a.toList b.toList))
  | .add => if (a.size + b.size : Nat) ≤ 9223372036854775807 then some (.string (a ++ b)) else none
  | _ => none
def eqFs (T : Tab) (f : TypeId → V → V → Option Bool) : List (Nat × TypeId × Bool) → List V → List V → Option Bool
  | [], _, _ => some true
  | (off, ft, blank) :: fs, xs, ys =>
    if blank then none else
    match T ft with
    | none => none
    | some fi =>
      match (sub xs off fi.size).bind (mkV fi.d.agg), (sub ys off fi.size).bind (mkV fi.d.agg) with
      | some a, some b => match f ft a b, eqFs T f fs xs ys with
        | some r, some q => some (r && q)
        | _, _ => none
      | _, _ => none
def eqAs (f : V → V → Option Bool) (size : Nat) (agg : Bool) : Nat → Nat → List V → List V → Option Bool
  | 0, _, _, _ => some true
  | n + 1, j, xs, ys =>
    match (sub xs (j * size) size).bind (mkV agg), (sub ys (j * size) size).bind (mkV agg) with
    | some a, some b => match f a b, eqAs f size agg n (j + 1) xs ys with
      | some r, some q => some (r && q)
      | _, _ => none
    | _, _ => none
def eqT (T : Tab) : Nat → TypeId → V → V → Option Bool
  | 0, _, _, _ => none
  | d + 1, t, x, y =>
    match T t with
    | none => none
    | some i =>
      match i.d, x, y with
      | .bool, .val (.bool a), .val (.bool b) => some (a == b)
      | .int _, .val (.int k a), .val (.int k' b) => if k = k' then some (decide (a = b)) else none
      | .str, .val (.string a), .val (.string b) => some (a.toList == b.toList)
      | .struct fs, .agg xs, .agg ys => eqFs T (eqT T d) fs xs ys
      | .arr n e, .agg xs, .agg ys => match T e with
        | some ie => eqAs (eqT T d e) ie.size ie.d.agg n 0 xs ys
        | none => none
      | _, _, _ => none
def binV (T : Tab) (op : BinOp) (t : TypeId) (x y : V) : Option V :=
  match x, y with
  | .val (.int k a), .val (.int k' b) =>
    match op with
    | .shl => (shiftI .shl k a b).map .val
    | .shr => (shiftI .shr k a b).map .val
    | _ => if k = k' then (binI op k a b).map .val else none
  | .val (.string a), .val (.string b) => (binS op a b).map .val
  | .val (.bool a), .val (.bool b) =>
    match dsc T t, op with
    | some .bool, .eql => some (.val (.bool (a == b)))
    | some .bool, .neq => some (.val (.bool (!(a == b))))
    | _, _ => none
  | .agg xs, .agg ys =>
    match op with
    | .eql => (eqT T 20 t (.agg xs) (.agg ys)).map fun b => .val (.bool b)
    | .neq => (eqT T 20 t (.agg xs) (.agg ys)).map fun b => .val (.bool (!b))
    | _ => none
  | _, _ => none
def unV (op : UnOp) (x : V) : Option V :=
  match op, x with
  | .neg, .val (.int k n) => some (.val (.int k (k.wrap (0 - n))))
  | .xor, .val (.int k n) => some (.val (.int k (bits .xor k (if k.signed then -1 else k.max) n)))
  | .not, .val (.bool b) => some (.val (.bool (!b)))
  | _, _ => none
def strOf : List V → Option (List UInt8)
  | [] => some []
  | .val (.int .u8 n) :: l => (strOf l).map (UInt8.ofNat n.toNat :: ·)
  | _ => none
def convV (T : Tab) (src dst : TypeId) (x : V) : Q V :=
  match dsc T src, dsc T dst, x with
  | some _, some (.int k), .val (.int _ n) => .ret (.val (.int k (k.wrap n)))
  | some _, some .str, .val (.string s) => .ret (.val (.string s))
  | some (.slice e), some .str, x =>
    match dsc T e, x with
    | some (.int .u8), .nils => .ret (.val (.string .empty))
    | some (.int .u8), .ro 1 n cs => if cs.length = n then (match strOf cs with | some l => .ret (.val (.string ⟨l.toArray⟩)) | none => .fail) else .fail
    | some (.int .u8), .sref i off n 1 => .ask i fun o => match sub o.cells off n with
      | some cs => (match strOf cs with | some l => .ret (.val (.string ⟨l.toArray⟩)) | none => .fail)
      | none => .fail
    | _, _ => .fail
  | _, _, _ => .fail
def fz : List V → Q (List V × List (Id × Ob))
  | [] => .ret ([], [])
  | x :: l => match x with
    | .sref i off len sz => .ask i fun o =>
      if o.row then
        match sub o.cells off (len * sz) with
        | some cs => (fz l).bind fun p => .ret (.ro sz len cs :: p.1, (if o.c = .live then (i, o) :: p.2 else p.2))
        | none => .fail
      else .fail
    | x => if x.closed then (fz l).bind fun p => .ret (x :: p.1, p.2) else .fail
def idx (x : V) : Option Int :=
  match x with
  | .val (.int _ n) => some n
  | _ => none
def indexAddrV (T : Tab) (t : TypeId) (x ix : V) : Q V :=
  match T t, idx ix with
  | some ti, some n =>
    match ti.d with
    | .slice e =>
      match T e with
      | none => .fail
      | some ei =>
        match x with
        | .sref i off len sz => if 0 ≤ n ∧ n < (len : Int) then (if sz = ei.size then .ask i fun _ => .ret (.ptr i (off + n.toNat * sz)) else .fail) else .fail
        | .ro sz len cells => if 0 ≤ n ∧ n < (len : Int) then (if sz = ei.size then .ret (.rp cells (n.toNat * sz)) else .fail) else .fail
        | _ => .fail
    | .arr len e =>
      match T e with
      | none => .fail
      | some ei =>
        match x with
        | .ptr i off => if 0 ≤ n ∧ n < (len : Int) then .ask i fun _ => .ret (.ptr i (off + n.toNat * ei.size)) else .fail
        | .rp cells off => if 0 ≤ n ∧ n < (len : Int) then .ret (.rp cells (off + n.toNat * ei.size)) else .fail
        | _ => .fail
    | _ => .fail
  | _, _ => .fail
def indexV (T : Tab) (t : TypeId) (x ix : V) : Q V :=
  match T t, idx ix with
  | some ti, some n =>
    match ti.d, x with
    | .arr len e, .agg cs =>
      match T e with
      | none => .fail
      | some ei => if 0 ≤ n ∧ n < (len : Int) then .ofOpt ((sub cs (n.toNat * ei.size) ei.size).bind (mkV ei.d.agg)) else .fail
    | .str, .val (.string s) => if 0 ≤ n then (match s[n.toNat]? with | some b => .ret (.val (.int .u8 b.toNat)) | none => .fail) else .fail
    | _, _ => .fail
  | _, _ => .fail
def fieldV (T : Tab) (t : TypeId) (x : V) (f : Nat) : Q V :=
  match dsc T t, x with
  | some (.struct fs), .agg cs =>
    match fs[f]? with
    | some (off, ft, _) => match T ft with
      | some fi => .ofOpt ((sub cs off fi.size).bind (mkV fi.d.agg))
      | none => .fail
    | none => .fail
  | _, _ => .fail
def fieldAddrV (T : Tab) (t : TypeId) (x : V) (f : Nat) : Q V :=
  match dsc T t with
  | some (.struct fs) =>
    match fs[f]? with
    | some (off, ft, _) => match T ft with
      | some fi => if fi.size = 0 then .fail else match x with
        | .ptr i o => .ask i fun _ => .ret (.ptr i (o + off))
        | .rp cells o => .ret (.rp cells (o + off))
        | _ => .fail
      | none => .fail
    | none => .fail
  | _ => .fail
def loadV (T : Tab) (t : TypeId) (a : V) : Q V :=
  match T t with
  | none => .fail
  | some ti =>
    match a with
    | .ptr i off => .ask i fun o => .ofOpt ((sub o.cells off ti.size).bind (mkV ti.d.agg))
    | .rp cells off => .ofOpt ((sub cells off ti.size).bind (mkV ti.d.agg))
    | _ => .fail
def storeV (T : Tab) (t : TypeId) (a x : V) : Q (List (Nat × Ob)) :=
  match T t with
  | none => .fail
  | some ti =>
    if x.cells.length = ti.size then
      match a with
      | .ptr i off => .ask i fun o =>
        if o.c = .live then
          (if o.row then
            (if x.cells.all V.closed then match splice o.cells off x.cells with
              | some cs => .ret [(i.1, { o with cells := cs })]
              | none => .fail
            else .fail)
          else
            (if x.cells.all V.single then match splice o.cells off x.cells with
              | some cs => .ret [(i.1, { o with cells := cs })]
              | none => .fail
            else .fail))
        else .fail
      | _ => .fail
    else .fail
def sliceBd (x : Option V) (dflt most : Nat) : Option Nat :=
  match x with
  | none => some dflt
  | some v => match idx v with
    | some n => if 0 ≤ n ∧ n ≤ (most : Int) then some n.toNat else none
    | none => none
def sliceV (T : Tab) (t : TypeId) (x : V) (lo hi mx : Option V) : Q V :=
  match mx with
  | some _ => .fail
  | none =>
  match T t with
  | none => .fail
  | some ti =>
    match ti.d, x with
    | .str, .val (.string s) =>
      match sliceBd hi s.size s.size with
      | none => .fail
      | some h => match sliceBd lo 0 h with
        | none => .fail
        | some l => .ret (.val (.string (s.extract l h)))
    | .slice _, .nils =>
      match sliceBd hi 0 0 with
      | none => .fail
      | some h => match sliceBd lo 0 h with
        | none => .fail
        | some _ => .ret .nils
    | .slice e, .ro sz len cells =>
      match T e with
      | none => .fail
      | some ei =>
        if sz = ei.size then
          match sliceBd hi len len with
          | none => .fail
          | some h => match sliceBd lo 0 h with
            | none => .fail
            | some l => .ret (.ro sz (h - l) ((cells.drop (l * sz)).take ((h - l) * sz)))
        else .fail
    | .slice e, .sref i off len sz =>
      match T e with
      | none => .fail
      | some ei =>
        if sz = ei.size then
          match sliceBd hi len len with
          | none => .fail
          | some h => match sliceBd lo 0 h with
            | none => .fail
            | some l => .ask i fun _ => .ret (.sref i (off + l * sz) (h - l) sz)
        else .fail
    | .arr n e, .ptr i off =>
      match T e with
      | none => .fail
      | some ei =>
          match sliceBd hi n n with
          | none => .fail
          | some h => match sliceBd lo 0 h with
            | none => .fail
            | some l => .ask i fun o => if off + n * ei.size ≤ o.cells.length then .ret (.sref i (off + l * ei.size) (h - l) ei.size) else .fail
    | _, _ => .fail
def fits (n bytes : Nat) : Bool := decide (n * bytes ≤ 140737488355328) && decide (n ≤ 9223372036854775807)
def srcV (x : V) (sz : Nat) : Q (Nat × List V) :=
  match x with
  | .nils => .ret (0, [])
  | .ro sz' m cs => if sz' = sz then .ret (m, cs) else .fail
  | .sref i off m sz' => if sz' = sz then .ask i fun o =>
      (if o.row || o.cells.all V.closed then match sub o.cells off (m * sz) with
        | some cs => .ret (m, cs)
        | none => .fail
      else .fail) else .fail
  | _ => .fail
def appendV (T : Tab) (k ep : Nat) (t : TypeId) (s x : V) : Q Eff :=
  match T t with
  | none => .fail
  | some ti =>
    match ti.d with
    | .slice e =>
      match T e with
      | none => .fail
      | some ei =>
        if 0 < ei.size then
        (srcV x ei.size).bind fun p =>
        match s with
        | .nils => if fits p.1 ei.bytes then .ret ⟨.sref (k, ep) 0 p.1 ei.size, [(k, ⟨ep, .live, true, p.2⟩)]⟩ else .fail
        | .sref i off n sz =>
          if sz = ei.size then
            .ask i fun o =>
              if o.c = .live ∧ o.row = true ∧ off + n * sz = o.cells.length then
                (if fits (n + p.1) ei.bytes then
                  .ret ⟨.sref (k, ep) 0 (n + p.1) sz, (if i.1 = k then [] else [(i.1, { o with c := .gone })]) ++ [(k, ⟨ep, .live, true, o.cells.drop off ++ p.2⟩)]⟩
                else .fail)
              else .fail
          else .fail
        | _ => .fail
        else .fail
    | _ => .fail
def lenV (T : Tab) (t : TypeId) (x : V) : Option Int :=
  match dsc T t, x with
  | some (.slice _), .nils => some 0
  | some (.slice _), .ro _ n _ => some n
  | some (.slice _), .sref _ _ n _ => some n
  | some .str, .val (.string s) => some s.size
  | some (.arr n _), _ => some n
  | _, _ => none
def minmax (isMin : Bool) : V → List V → Option V
  | v, [] => some v
  | .val (.int k x), .val (.int k' y) :: l => if k = k' then minmax isMin (.val (.int k (if isMin then (if y < x then y else x) else (if y > x then y else x)))) l else none
  | _, _ => none
def builtinV (T : Tab) (k ep : Nat) (b : Builtin) (ts : Array TypeId) (args : List V) : Q Eff :=
  match b, args with
  | .len, [x] => match ts[0]? with
    | some t => match lenV T t x, x with
      | some n, .sref i _ _ _ => .ask i fun _ => .ret ⟨.val (.int .i64 n), []⟩
      | some n, _ => .ret ⟨.val (.int .i64 n), []⟩
      | none, _ => .fail
    | none => .fail
  | .append, [s, x] => match ts[0]?, ts[1]? with
    | some t, some t' => if t = t' then appendV T k ep t s x else .fail
    | _, _ => .fail
  | .min, x :: l => match minmax true x l with | some v => .ret ⟨v, []⟩ | none => .fail
  | .max, x :: l => match minmax false x l with | some v => .ret ⟨v, []⟩ | none => .fail
  | _, _ => .fail
def V.isP : V → Bool
  | .ptr .. => true
  | _ => false
def isPtr : V → Bool
  | .ptr .. | .rp .. | .clo .. => true
  | .val (.func ..) => true
  | _ => false
def opQ (T : Tab) (k ep : Nat) (ρ : Operand → V) (o : Op) : Q Eff :=
  let v (q : Q V) : Q Eff := q.bind fun x => .ret ⟨x, []⟩
  match o with
  | .move x | .assign x => .ret ⟨ρ x, []⟩
  | .pick c a b => match ρ c with
    | .val (.bool c) => .ret ⟨if c then ρ a else ρ b, []⟩
    | _ => .fail
  | .alloc e => match T e with
    | some i => .ret ⟨.ptr (k, ep) 0, [(k, ⟨ep, .live, i.rw && i.zero.all V.closed, i.zero⟩)]⟩
    | none => .fail
  | .box e x => match T e with
    | some i => if (ρ x).cells.length = i.size ∧ (ρ x).cells.all V.single then .ret ⟨.ptr (k, ep) 0, [(k, ⟨ep, .live, i.rw && (ρ x).cells.all V.closed, (ρ x).cells⟩)]⟩ else .fail
    | none => .fail
  | .build t parts => match T t with
    | some i => match i.d with
      | .struct fs => v (.ofOpt ((fillV (fun j => match fs[j]? with | some (off, ft, _) => (T ft).map fun fi => (off, fi.size) | none => none) i.zero (parts.toList.map fun (j, x) => (j, ρ x))).map .agg))
      | .arr _ e => match T e with
        | some ei => v (.ofOpt ((fillV (fun j => some (j * ei.size, ei.size)) i.zero (parts.toList.map fun (j, x) => (j, ρ x))).map .agg))
        | none => .fail
      | _ => .fail
    | none => .fail
  | .buildSlice t len parts => match T t with
    | some i => match i.d with
      | .slice e => match T e with
        | some ei => if len * ei.size ≤ 16777216 ∧ 0 < ei.size then
            match fillV (fun j => some (j * ei.size, ei.size)) (List.replicate len ei.zero).flatten (parts.toList.map fun (j, x) => (j, ρ x)) with
            | some cs => (fz cs).bind fun p => if (p.2.map fun q => q.1.1).Nodup then
                .ret ⟨.sref (k, ep) 0 len ei.size, (p.2.map fun q => (q.1.1, { q.2 with c := .froz })) ++ [(k, ⟨ep, .live, true, p.1⟩)]⟩ else .fail
            | none => .fail
          else .fail
        | none => .fail
      | _ => .fail
    | none => .fail
  | .load t a => v (loadV T t (ρ a))
  | .store t a x => (storeV T t (ρ a) (ρ x)).bind fun w => .ret ⟨.dead, w⟩
  | .nilCheck x => if isPtr (ρ x) then (match ρ x with
    | .ptr i off => .ask i fun _ => .ret ⟨.ptr i off, []⟩
    | x => .ret ⟨x, []⟩) else .fail
  | .binOp op t x y _ => v (.ofOpt (binV T op t (ρ x) (ρ y)))
  | .unOp op _ x => v (.ofOpt (unV op (ρ x)))
  | .convert src dst x => v (convV T src dst (ρ x))
  | .makeSlice t l c => match T t with
    | some i => match i.d with
      | .slice e => match T e with
        | some ei => match idx (ρ l), idx (ρ c) with
          | some n, some m => if n = m ∧ 0 ≤ n ∧ 0 < ei.size ∧ fits n.toNat ei.bytes = true ∧ ei.zero.all V.closed = true then
              .ret ⟨.sref (k, ep) 0 n.toNat ei.size, [(k, ⟨ep, .live, true, (List.replicate n.toNat ei.zero).flatten⟩)]⟩ else .fail
          | _, _ => .fail
        | none => .fail
      | _ => .fail
    | none => .fail
  | .slice t x lo hi mx => v (sliceV T t (ρ x) (lo.map ρ) (hi.map ρ) (mx.map ρ))
  | .fieldAddr t x f => v (fieldAddrV T t (ρ x) f)
  | .field t x f => v (fieldV T t (ρ x) f)
  | .indexAddr t x i => v (indexAddrV T t (ρ x) (ρ i))
  | .index t x i => v (indexV T t (ρ x) (ρ i))
  | .extract x i => match ρ x with
    | .tup vs => v (.ofOpt vs[i]?)
    | _ => .fail
  | .makeFunc (.func f) first captured =>
    if first.isEmpty then
      (if captured.isEmpty then .ret ⟨.val (.func (.func f) #[] #[]), []⟩
       else if (captured.toList.map ρ).all V.isP then .ret ⟨.clo f (captured.toList.map ρ), []⟩ else .fail)
    else .fail
  | .call c => match c.callee with
    | .builtin b => builtinV T k ep b c.argTypes (c.args.toList.map ρ)
    | _ => .fail
  | _ => .fail
end Go.Ab
namespace Go.Ab
inductive Loc where
  | at (b base : Nat)
  | empty
inductive RepC (w : World) (L : Nat → Prop) : V → Value → Prop
  | val {v : Value} (h : scalar v = true) : RepC w L (.val v) v
  | nils : RepC w L .nils (.slice none 0 0)
  | ro {sz len : Nat} {cells : List V} {b base cap : Nat} (f : Nat → Value) (hle : len ≤ cap) (hl : cells.length = len * sz) (hb : ¬ L b) (hs : b < w.heap.size)
      (hc : ∀ (j : Nat) (x : V), cells[j]? = some x → w.cell? ⟨b, base + j, none⟩ = some (f j)) (hr : ∀ (j : Nat) (x : V), cells[j]? = some x → RepC w L x (f j)) :
      RepC w L (.ro sz len cells) (.slice (some ⟨b, base, none⟩) len cap)
  | ro0 (sz : Nat) (A : Option Addr) (cap : Nat) : RepC w L (.ro sz 0 []) (.slice A 0 cap)
def SrefOk (w : World) (l : Loc) (off len sz : Nat) (v : Value) : Prop :=
  match l with
  | .at b base => ∃ cap, len ≤ cap ∧ ((len = 0 ∧ cap = 0 ∧ ∃ A, v = .slice (some A) 0 0) ∨
      (v = .slice (some ⟨b, base + off, none⟩) len cap ∧ ∃ arr e, w.heap[b]? = some (.cells arr e (0, 0)) ∧ base + off + cap * sz ≤ arr.size))
  | .empty => off = 0 ∧ len = 0 ∧ ∃ A, v = .slice A 0 0
inductive RepS (w : World) (L : Nat → Prop) (φ : Id → Option Loc) (B : Id → Prop) : V → Value → Prop
  | c {x : V} {v : Value} (h : RepC w L x v) : RepS w L φ B x v
  | dead (v : Value) : RepS w L φ B .dead v
  | sref {i : Id} {off len sz : Nat} {v : Value} (hb : B i) (h1 : v.oneCell' = true) (h : ∀ l, φ i = some l → SrefOk w l off len sz v) : RepS w L φ B (.sref i off len sz) v
  | ptr {i : Id} {off : Nat} {v : Value} (hb : B i) (h1 : v.oneCell' = true) (h : ∀ l, φ i = some l → ∃ b base, l = .at b base ∧ v = .pointer (some ⟨b, base + off, none⟩)) : RepS w L φ B (.ptr i off) v
  | rp {cells : List V} {off b base : Nat} (f : Nat → Value) (hb : ¬ L b) (hs : b < w.heap.size)
      (hc : ∀ (j : Nat) (x : V), cells[j]? = some x → w.cell? ⟨b, base + j, none⟩ = some (f j)) (hr : ∀ (j : Nat) (x : V), cells[j]? = some x → RepC w L x (f j)) :
      RepS w L φ B (.rp cells off) (.pointer (some ⟨b, base + off, none⟩))
  | clo {f : FuncId} {caps : List V} {vs : Array Value} (hl : caps.length = vs.size)
      (h : ∀ (j : Nat) (x : V), caps[j]? = some x → ∃ i off v, x = .ptr i off ∧ vs[j]? = some v ∧ B i ∧ ∀ l, φ i = some l → ∃ b base, l = .at b base ∧ v = .pointer (some ⟨b, base + off, none⟩)) :
      RepS w L φ B (.clo f caps) (.func (.func f) #[] vs)
inductive Rep (w : World) (L : Nat → Prop) (φ : Id → Option Loc) (B : Id → Prop) : V → Value → Prop
  | s {x : V} {v : Value} (h : RepS w L φ B x v) : Rep w L φ B x v
  | agg {cs : List V} {vs : Array Value} (hl : cs.length = vs.size) (h : ∀ (j : Nat) (x : V) (v : Value), cs[j]? = some x → vs[j]? = some v → RepS w L φ B x v) : Rep w L φ B (.agg cs) (.agg vs)
  | tup {cs : List V} {vs : Array Value} (hl : cs.length = vs.size) (h : ∀ (j : Nat) (x : V) (v : Value), cs[j]? = some x → vs[j]? = some v → Rep w L φ B x v) : Rep w L φ B (.tup cs) (.tuple vs)
structure Tr (w w' : World) (L L' : Nat → Prop) (φ φ' : Id → Option Loc) (B B' : Id → Prop) : Prop where
  size : w.heap.size ≤ w'.heap.size
  old : ∀ b, b < w.heap.size → ¬ L b → w'.heap[b]? = w.heap[b]?
  lv : ∀ b, L' b → L b ∨ w.heap.size ≤ b
  loc : ∀ i l, B i → φ' i = some l → φ i = some l
  born : ∀ i, B i → B' i
  shape : ∀ b arr e, L b → w.heap[b]? = some (.cells arr e (0, 0)) → ∃ arr', w'.heap[b]? = some (.cells arr' e (0, 0)) ∧ arr'.size = arr.size
section
variable {w w' : World} {L L' : Nat → Prop} {φ φ' : Id → Option Loc} {B B' : Id → Prop}
theorem cell_same {w w' : World} {b : Nat} (h : w'.heap[b]? = w.heap[b]?) (o : Nat) : w'.cell? ⟨b, o, none⟩ = w.cell? ⟨b, o, none⟩ := by
  simp [World.cell?, h]
theorem lt_of_some {w : World} {b : Nat} {o : Obj} (h : w.heap[b]? = some o) : b < w.heap.size := by
  rcases Nat.lt_or_ge b w.heap.size with h' | h'
  · exact h'
  · simp [Array.getElem?_eq_none h'] at h
theorem RepC.mono (T : Tr w w' L L' φ φ' B B') {x : V} {v : Value} (h : RepC w L x v) : RepC w' L' x v := by
  induction h with
  | val h => exact .val h
  | nils => exact .nils
  | ro f hle hl hb hs hc _ ih =>
    refine .ro f hle hl (fun h => ?_) (Nat.lt_of_lt_of_le hs T.size) (fun j x hx => ?_) ih
    · rcases T.lv _ h with h | h
      · exact hb h
      · omega
    · rw [cell_same (T.old _ hs hb)]; exact hc j x hx
  | ro0 sz A cap => exact .ro0 sz A cap
theorem SrefOk.mono (T : Tr w w' L L' φ φ' B B') {l : Loc} {off len sz : Nat} {v : Value} (h : SrefOk w l off len sz v) : SrefOk w' l off len sz v := by
  cases l with
  | empty => exact h
  | «at» b base =>
    obtain ⟨cap, hle, h⟩ := h
    refine ⟨cap, hle, h.imp id fun ⟨hv, arr, e, ha, hb⟩ => ⟨hv, ?_⟩⟩
    by_cases hL : L b
    · obtain ⟨arr', h1, h2⟩ := T.shape b arr e hL ha
      exact ⟨arr', e, h1, by omega⟩
    · exact ⟨arr, e, by rw [T.old b (lt_of_some ha) hL]; exact ha, hb⟩
theorem RepS.mono (T : Tr w w' L L' φ φ' B B') {x : V} {v : Value} (h : RepS w L φ B x v) : RepS w' L' φ' B' x v := by
  cases h with
  | c h => exact .c (h.mono T)
  | dead => exact .dead _
  | sref hb h1 h => exact .sref (T.born _ hb) h1 fun l hl => (h l (T.loc _ _ hb hl)).mono T
  | ptr hb h1 h => exact .ptr (T.born _ hb) h1 fun l hl => h l (T.loc _ _ hb hl)
  | rp f hb hs hc hr =>
    refine .rp f (fun h => ?_) (Nat.lt_of_lt_of_le hs T.size) (fun j x hx => ?_) fun j x hx => (hr j x hx).mono T
    · rcases T.lv _ h with h | h
      · exact hb h
      · omega
    · rw [cell_same (T.old _ hs hb)]; exact hc j x hx
  | clo hl h =>
    refine .clo hl fun j x hx => ?_
    obtain ⟨i, off, v, h1, h2, h3, h4⟩ := h j x hx
    exact ⟨i, off, v, h1, h2, T.born _ h3, fun l hl => h4 l (T.loc _ _ h3 hl)⟩
theorem Rep.mono (T : Tr w w' L L' φ φ' B B') {x : V} {v : Value} (h : Rep w L φ B x v) : Rep w' L' φ' B' x v := by
  induction h with
  | s h => exact .s (h.mono T)
  | agg hl h => exact .agg hl fun j x v hx hv => (h j x v hx hv).mono T
  | tup hl _ ih => exact .tup hl ih
end
structure Fr where
  w0 : World
  pb : Nat → Prop
  lb : Nat → Prop
  hlb : ∀ b, lb b → b < w0.heap.size
  hm : Id → Option Nat
  hhm : ∀ i b, hm i = some b → i.2 = 0
def LiveB (F : Fr) (s : St) (φ : Id → Option Loc) (b : Nat) : Prop := F.lb b ∨ ∃ i o base, s.getO i = some o ∧ o.c = .live ∧ φ i = some (.at b base)
def Born (s : St) (i : Id) : Prop := i.2 < s.ep ∨ (i.2 = s.ep ∧ ∃ o, look s.h i.1 = some o ∧ o.ep = i.2)
def ObAt (w : World) (L : Nat → Prop) (φ : Id → Option Loc) (B : Id → Prop) (b base : Nat) (cells : List V) : Prop :=
  ∃ arr e, w.heap[b]? = some (.cells arr e (0, 0)) ∧ base + cells.length ≤ arr.size ∧ ∀ (j : Nat) (x : V), cells[j]? = some x → ∃ v, arr[base + j]? = some v ∧ RepS w L φ B x v
structure Kept (F : Fr) (w : World) : Prop where
  os : w.os = F.w0.os
  tape : w.tape = F.w0.tape
  output : w.output = F.w0.output
  size : F.w0.heap.size ≤ w.heap.size
  block : ∀ k, k < F.w0.heap.size → ¬ F.pb k → w.heap[k]? = F.w0.heap[k]?
  shape : ∀ k arr e, F.pb k → F.w0.heap[k]? = some (.cells arr e (0, 0)) → ∃ arr', w.heap[k]? = some (.cells arr' e (0, 0)) ∧ arr'.size = arr.size
def Lies (F : Fr) (s : St) (φ : Id → Option Loc) (w : World) (i : Id) (o : Ob) : Prop :=
  (∃ b base, φ i = some (.at b base) ∧ b < w.heap.size ∧ (o.c = .live → F.w0.heap.size ≤ b ∨ (F.pb b ∧ o.row = false)) ∧ (o.c = .froz → ¬ LiveB F s φ b) ∧ ObAt w (LiveB F s φ) φ (Born s) b base o.cells) ∨
  (φ i = some .empty ∧ o.row = true ∧ o.cells = [])
structure Sim (F : Fr) (n : Nat) (s : St) (a : Act) (w : World) (φ : Id → Option Loc) : Prop where
  size : a.tmps.size = n
  defers : a.defers = []
  kept : Kept F w
  slots : ∀ i, Rep w (LiveB F s φ) φ (Born s) (s.getT i) (a.tmps.getD i undef)
  objs : ∀ i o, s.getO i = some o → Lies F s φ w i o
  rows : ∀ i o, s.getO i = some o → o.row = true → ∀ x ∈ o.cells, x.closed = true
  dom : ∀ i l, φ i = some l → ∃ o, s.getO i = some o
  inj : ∀ i j o o' b x y, s.getO i = some o → s.getO j = some o' → o.c = .live → o'.c = .live → φ i = some (.at b x) → φ j = some (.at b y) → i = j
  eps : ∀ k o, look s.h k = some o → o.ep ≤ s.ep
  var0 : ∀ i o b base, s.getO i = some o → o.row = false → φ i = some (.at b base) → base = 0
  home : ∀ i b, F.hm i = some b → Born s i ∧ ∀ l, φ i = some l → l = .at b 0
theorem look_put {α : Type} (l : List (Nat × α)) (i : Nat) (x : α) (j : Nat) : look (put l i x) j = if j = i then some x else look l j := by
  induction l with
  | nil => by_cases h : j = i <;> simp [put, look, h]
  | cons p l ih =>
    obtain ⟨k, y⟩ := p
    by_cases hk : i = k
    · subst hk
      by_cases h : j = i <;> simp [put, look, h]
    · by_cases h : j = i
      · subst h; simp [put, look, hk, ih]
      · simp only [put, hk, if_false, look]
        by_cases hjk : j = k
        · simp [hjk, Ne.symm hk]
        · simp [hjk, ih, h]
theorem getO_some {s : St} {i : Id} {o : Ob} : s.getO i = some o ↔ look s.h i.1 = some o ∧ o.ep = i.2 ∧ o.c ≠ .gone := by
  unfold St.getO pick?
  cases look s.h i.1 with
  | none => simp
  | some p =>
    by_cases h : p.ep = i.2
    · cases hc : p.c <;> simp [h, hc] <;> (try (intro h1; subst h1; simp_all))
    · simp [h]; intro h1; subst h1; simp [h]
theorem Born.of_getO {s : St} {i : Id} {o : Ob} (he : ∀ k o, look s.h k = some o → o.ep ≤ s.ep) (h : s.getO i = some o) : Born s i := by
  obtain ⟨h1, h2, _⟩ := getO_some.1 h
  have := he _ _ h1
  unfold Born
  by_cases h3 : i.2 < s.ep
  · exact .inl h3
  · exact .inr ⟨by omega, o, h1, h2⟩
end Go.Ab
namespace Go.Ab
variable {F : Fr} {n : Nat} {s : St} {a : Act} {w w' : World} {φ φ' : Id → Option Loc}
theorem Sim.setT (h : Sim F n s a w φ) {x : V} {v : Value} (d : Nat) (hdn : d < n) (hr : Rep w (LiveB F s φ) φ (Born s) x v) :
    Sim F n { s with t := put s.t d x } (a.put (some d) v) w φ := by
  refine ⟨by simpa [Act.put] using h.size, h.defers, h.kept, fun i => ?_, h.objs, h.rows, h.dom, h.inj, h.eps, h.var0, h.home⟩
  have hs := h.slots i
  show Rep w (LiveB F s φ) φ (Born s) _ _
  simp only [St.getT, look_put, Act.put]
  by_cases hd : i = d
  · subst hd
    have : i < a.tmps.size := by rw [h.size]; exact hdn
    simpa [Array.getD, this] using hr
  · simp only [hd, if_false]
    have : (a.tmps.setIfInBounds d v).getD i undef = a.tmps.getD i undef := by
      simp only [Array.getD_eq_getD_getElem?, Array.getElem?_setIfInBounds]
      rw [if_neg (fun h => hd h.symm)]
    rw [this]; exact hs
def putD (t : List (Nat × V)) (d : Option Nat) (x : V) : List (Nat × V) :=
  match d with
  | some d => put t d x
  | none => t
theorem Sim.setDst (h : Sim F n s a w φ) {x : V} {v : Value} (d : Option Nat) (hdn : ∀ k, d = some k → k < n) (hr : Rep w (LiveB F s φ) φ (Born s) x v) :
    Sim F n { s with t := putD s.t d x } (a.put d v) w φ := by
  cases d with
  | some d => exact h.setT d (hdn d rfl) hr
  | none => exact h
theorem ObAt.mono {L L' : Nat → Prop} {B B' : Id → Prop} (T : Tr w w' L L' φ φ' B B') {b base : Nat} {cells : List V} (hb : w'.heap[b]? = w.heap[b]?)
    (h : ObAt w L φ B b base cells) : ObAt w' L' φ' B' b base cells := by
  obtain ⟨arr, e, h1, h2, h3⟩ := h
  refine ⟨arr, e, by rw [hb]; exact h1, h2, fun j x hx => ?_⟩
  obtain ⟨v, hv, hr⟩ := h3 j x hx
  exact ⟨v, hv, hr.mono T⟩
theorem Lies.mono {s' : St} (T : Tr w w' (LiveB F s φ) (LiveB F s' φ') φ φ' (Born s) (Born s')) {i : Id} {o : Ob} (h : Lies F s φ w i o)
    (hb : ∀ b base, φ i = some (.at b base) → w'.heap[b]? = w.heap[b]?) (hφ : φ' i = φ i) : Lies F s' φ' w' i o := by
  rcases h with ⟨b, base, h1, h2, h3, h4, h5⟩ | ⟨h1, h2, h3⟩
  · refine .inl ⟨b, base, by rw [hφ]; exact h1, Nat.lt_of_lt_of_le h2 T.size, h3, fun hf hl => ?_, h5.mono T (hb b base h1)⟩
    rcases T.lv _ hl with hl | hl
    · exact h4 hf hl
    · omega
  · exact .inr ⟨by rw [hφ]; exact h1, h2, h3⟩
theorem Sim.turn (h : Sim F n s a w φ) {h' : List (Nat × Ob)} (hk : Kept F w')
    (T : Tr w w' (LiveB F s φ) (LiveB F { s with h := h' } φ') φ φ' (Born s) (Born { s with h := h' }))
    (ob : ∀ i o, St.getO { s with h := h' } i = some o → Lies F { s with h := h' } φ' w' i o ∧ (o.row = true → ∀ x ∈ o.cells, x.closed = true) ∧ (o.row = false → ∀ b base, φ' i = some (.at b base) → base = 0))
    (dom : ∀ i l, φ' i = some l → ∃ o, St.getO { s with h := h' } i = some o)
    (inj : ∀ i j o o' b x y, St.getO { s with h := h' } i = some o → St.getO { s with h := h' } j = some o' → o.c = .live → o'.c = .live →
      φ' i = some (.at b x) → φ' j = some (.at b y) → i = j)
    (eps : ∀ k o, look h' k = some o → o.ep ≤ s.ep) : Sim F n { s with h := h' } a w' φ' :=
  ⟨h.size, h.defers, hk, fun i => (h.slots i).mono T, fun i o ho => (ob i o ho).1, fun i o ho => (ob i o ho).2.1, dom, inj, eps, fun i o b base ho hr => (ob i o ho).2.2 hr b base, fun i b hb =>
    ⟨T.born _ (h.home i b hb).1, fun l hl => (h.home i b hb).2 l (T.loc _ _ (h.home i b hb).1 hl)⟩⟩
def fresh (s : St) (k : Nat) : Prop := ∀ o, look s.h k = some o → o.ep < s.ep
def setL (φ : Id → Option Loc) (k ep : Nat) (l : Loc) : Id → Option Loc := fun i => if i.1 = k then (if i.2 = ep then some l else none) else φ i
theorem getO_put {s : St} {k : Nat} {o : Ob} {i : Id} : St.getO { s with h := put s.h k o } i = if i.1 = k then pick? i (some o) else s.getO i := by
  simp only [St.getO, look_put]
  by_cases h : i.1 = k <;> simp [h]
theorem born_put {s : St} {k : Nat} {o : Ob} (hep : o.ep = s.ep) {i : Id} (h : Born s i) : Born { s with h := put s.h k o } i := by
  rcases h with h | ⟨h, p, h1, h2⟩
  · exact .inl h
  · refine .inr ⟨h, ?_⟩
    simp only [look_put]
    by_cases hk : i.1 = k
    · exact ⟨o, by simp [hk], by rw [hep, h]⟩
    · exact ⟨p, by simp [hk, h1], h2⟩
theorem not_born {s : St} {k : Nat} (hf : fresh s k) : ¬ Born s (k, s.ep) := by
  rintro (h | ⟨_, o, h1, h2⟩)
  · simp at h
  · have := hf o h1; simp at h2; omega
theorem pick_live {i : Id} {o : Ob} (h1 : o.ep = i.2) (h2 : o.c ≠ .gone) : pick? i (some o) = some o := by
  unfold pick?; cases hc : o.c <;> simp_all
theorem Sim.create (h : Sim F n s a w φ) {k : Nat} (hf : fresh s k) {row : Bool} {cells : List V} {b0 : Nat} (hk : Kept F w')
    (hsz : w.heap.size ≤ b0) (hb0 : b0 < w'.heap.size) (hold : ∀ b, b < w.heap.size → w'.heap[b]? = w.heap[b]?)
    (hob : ∃ arr e, w'.heap[b0]? = some (.cells arr e (0, 0)) ∧ cells.length ≤ arr.size ∧ ∀ (j : Nat) (x : V), cells[j]? = some x → ∃ v, arr[j]? = some v ∧ RepS w (LiveB F s φ) φ (Born s) x v)
    (hrow : row = true → ∀ x ∈ cells, x.closed = true) :
    Sim F n { s with h := put s.h k ⟨s.ep, .live, row, cells⟩ } a w' (setL φ k s.ep (.at b0 0)) := by
  have hnb := not_born hf
  have hgk : ∀ i o, St.getO { s with h := put s.h k ⟨s.ep, .live, row, cells⟩ } i = some o →
      (i = (k, s.ep) ∧ o = ⟨s.ep, .live, row, cells⟩) ∨ (i.1 ≠ k ∧ s.getO i = some o) := by
    intro i o ho
    rw [getO_put] at ho
    by_cases hi : i.1 = k
    · simp only [hi, if_true, pick?] at ho
      by_cases he : s.ep = i.2
      · simp [he] at ho; exact .inl ⟨by rw [← hi, he], by rw [← ho, he]⟩
      · simp [he] at ho
    · simp only [hi, if_false] at ho; exact .inr ⟨hi, ho⟩
  have hnew : St.getO { s with h := put s.h k ⟨s.ep, .live, row, cells⟩ } (k, s.ep) = some ⟨s.ep, .live, row, cells⟩ := by
    rw [getO_put]; simp [pick?]
  have hlt : ∀ i o b base, s.getO i = some o → φ i = some (.at b base) → b < w.heap.size := by
    intro i o b base ho hφ
    rcases h.objs i o ho with ⟨b', base', h1, h2, _⟩ | ⟨h1, _⟩
    · rw [h1] at hφ; injection hφ with hφ; injection hφ with hφ _; omega
    · rw [h1] at hφ; simp at hφ
  have hlv : ∀ b, LiveB F { s with h := put s.h k ⟨s.ep, .live, row, cells⟩ } (setL φ k s.ep (.at b0 0)) b → LiveB F s φ b ∨ w.heap.size ≤ b := by
    rintro b (hF | ⟨i, o, base, ho, hl, hφ⟩)
    · exact .inl (.inl hF)
    rcases hgk i o ho with ⟨rfl, rfl⟩ | ⟨hi, ho⟩
    · simp [setL] at hφ; right; omega
    · simp [setL, hi] at hφ; exact .inl (.inr ⟨i, o, base, ho, hl, hφ⟩)
  have T : Tr w w' (LiveB F s φ) (LiveB F { s with h := put s.h k ⟨s.ep, .live, row, cells⟩ } (setL φ k s.ep (.at b0 0))) φ (setL φ k s.ep (.at b0 0)) (Born s)
      (Born { s with h := put s.h k ⟨s.ep, .live, row, cells⟩ }) := by
    refine ⟨by omega, fun b hb _ => hold b hb, hlv, fun i l hb hl => ?_, fun i => born_put rfl, fun b arr e _ hb => ⟨arr, by rw [hold b (lt_of_some hb)]; exact hb, rfl⟩⟩
    by_cases hi : i.1 = k
    · by_cases he : i.2 = s.ep
      · exact absurd (by rw [← hi, ← he]; exact hb) hnb
      · simp [setL, hi, he] at hl
    · simpa [setL, hi] using hl
  refine h.turn hk T (fun i o ho => ?_) (fun i l hl => ?_) (fun i j o o' b x y ho ho' hl hl' hi hj => ?_) (fun j o ho => ?_)
  · rcases hgk i o ho with ⟨rfl, rfl⟩ | ⟨hi, ho⟩
    · refine ⟨.inl ⟨b0, 0, by simp [setL], hb0, fun _ => .inl (Nat.le_trans h.kept.size hsz), by simp, ?_⟩, hrow, fun _ b base hb => by simp [setL] at hb; exact hb.2.symm⟩
      obtain ⟨arr, e, h1, h2, h3⟩ := hob
      refine ⟨arr, e, h1, by simpa using h2, fun j x hx => ?_⟩
      obtain ⟨v, hv, hr⟩ := h3 j x hx
      exact ⟨v, by simpa using hv, hr.mono T⟩
    · exact ⟨(h.objs i o ho).mono T (fun b base hφ => hold b (hlt i o b base ho hφ)) (by simp [setL, hi]), h.rows i o ho, fun hr b base hb => h.var0 i o b base ho hr (by simpa [setL, hi] using hb)⟩
  · by_cases hi : i.1 = k
    · by_cases he : i.2 = s.ep
      · exact ⟨_, by rw [show i = (k, s.ep) by rw [← hi, ← he]]; exact hnew⟩
      · simp [setL, hi, he] at hl
    · simp [setL, hi] at hl
      obtain ⟨o, ho⟩ := h.dom i l hl
      exact ⟨o, by rw [getO_put]; simp [hi, ho]⟩
  · rcases hgk i o ho with ⟨rfl, rfl⟩ | ⟨hik, ho⟩ <;> rcases hgk j o' ho' with ⟨rfl, rfl⟩ | ⟨hjk, ho'⟩
    · rfl
    · simp [setL, hjk] at hi hj
      have := hlt _ _ _ _ ho' hj; omega
    · simp [setL, hik] at hi hj
      have := hlt _ _ _ _ ho hi; omega
    · simp [setL, hik, hjk] at hi hj
      exact h.inj i j o o' b x y ho ho' hl hl' hi hj
  · rw [look_put] at ho
    by_cases hj : j = k
    · simp [hj] at ho; rw [← ho]; exact Nat.le_refl _
    · simp [hj] at ho; exact h.eps j o ho
theorem Sim.createE (h : Sim F n s a w φ) {k : Nat} (hf : fresh s k) :
    Sim F n { s with h := put s.h k ⟨s.ep, .live, true, []⟩ } a w (setL φ k s.ep .empty) := by
  have hnb := not_born hf
  have hgk : ∀ i o, St.getO { s with h := put s.h k ⟨s.ep, .live, true, []⟩ } i = some o →
      (i = (k, s.ep) ∧ o = ⟨s.ep, .live, true, []⟩) ∨ (i.1 ≠ k ∧ s.getO i = some o) := by
    intro i o ho
    rw [getO_put] at ho
    by_cases hi : i.1 = k
    · simp only [hi, if_true, pick?] at ho
      by_cases he : s.ep = i.2
      · simp [he] at ho; exact .inl ⟨by rw [← hi, he], by rw [← ho, he]⟩
      · simp [he] at ho
    · simp only [hi, if_false] at ho; exact .inr ⟨hi, ho⟩
  have hnew : St.getO { s with h := put s.h k ⟨s.ep, .live, true, []⟩ } (k, s.ep) = some ⟨s.ep, .live, true, []⟩ := by
    rw [getO_put]; simp [pick?]
  have hlv : ∀ b, LiveB F { s with h := put s.h k ⟨s.ep, .live, true, []⟩ } (setL φ k s.ep .empty) b → LiveB F s φ b := by
    rintro b (hF | ⟨i, o, base, ho, hl, hφ⟩)
    · exact .inl hF
    rcases hgk i o ho with ⟨rfl, rfl⟩ | ⟨hi, ho⟩
    · simp [setL] at hφ
    · simp [setL, hi] at hφ; exact .inr ⟨i, o, base, ho, hl, hφ⟩
  have T : Tr w w (LiveB F s φ) (LiveB F { s with h := put s.h k ⟨s.ep, .live, true, []⟩ } (setL φ k s.ep .empty)) φ (setL φ k s.ep .empty) (Born s)
      (Born { s with h := put s.h k ⟨s.ep, .live, true, []⟩ }) := by
    refine ⟨Nat.le_refl _, fun b hb _ => rfl, fun b hb => .inl (hlv b hb), fun i l hb hl => ?_, fun i => born_put rfl, fun b arr e _ hb => ⟨arr, hb, rfl⟩⟩
    by_cases hi : i.1 = k
    · by_cases he : i.2 = s.ep
      · exact absurd (by rw [← hi, ← he]; exact hb) hnb
      · simp [setL, hi, he] at hl
    · simpa [setL, hi] using hl
  refine h.turn h.kept T (fun i o ho => ?_) (fun i l hl => ?_) (fun i j o o' b x y ho ho' hl hl' hi hj => ?_) (fun j o ho => ?_)
  · rcases hgk i o ho with ⟨rfl, rfl⟩ | ⟨hi, ho⟩
    · exact ⟨.inr ⟨by simp [setL], rfl, rfl⟩, by simp, by simp⟩
    · exact ⟨(h.objs i o ho).mono T (fun b base hφ => rfl) (by simp [setL, hi]), h.rows i o ho, fun hr b base hb => h.var0 i o b base ho hr (by simpa [setL, hi] using hb)⟩
  · by_cases hi : i.1 = k
    · by_cases he : i.2 = s.ep
      · exact ⟨_, by rw [show i = (k, s.ep) by rw [← hi, ← he]]; exact hnew⟩
      · simp [setL, hi, he] at hl
    · simp [setL, hi] at hl
      obtain ⟨o, ho⟩ := h.dom i l hl
      exact ⟨o, by rw [getO_put]; simp [hi, ho]⟩
  · rcases hgk i o ho with ⟨rfl, rfl⟩ | ⟨hik, ho⟩ <;> rcases hgk j o' ho' with ⟨rfl, rfl⟩ | ⟨hjk, ho'⟩
    · rfl
    · simp [setL] at hi
    · simp [setL] at hj
    · simp [setL, hik, hjk] at hi hj
      exact h.inj i j o o' b x y ho ho' hl hl' hi hj
  · rw [look_put] at ho
    by_cases hj : j = k
    · simp [hj] at ho; rw [← ho]; exact Nat.le_refl _
    · simp [hj] at ho; exact h.eps j o ho
theorem Sim.change (h : Sim F n s a w φ) {i : Id} {o : Ob} (ho : s.getO i = some o) (hl : o.c = .live) (o' : Ob) (hep : o'.ep = o.ep) (hrw : o'.row = o.row)
    (hc : o'.c = .live ∨ (o'.c = .froz ∧ o.row = true)) (hk : Kept F w') (hsz : w.heap.size ≤ w'.heap.size)
    (hold : ∀ b, b < w.heap.size → (∀ base, φ i ≠ some (.at b base)) → w'.heap[b]? = w.heap[b]?)
    (hnew : ∀ b base, φ i = some (.at b base) → ∀ arr e, w.heap[b]? = some (.cells arr e (0, 0)) → ∃ arr', w'.heap[b]? = some (.cells arr' e (0, 0)) ∧ arr'.size = arr.size ∧
      base + o'.cells.length ≤ arr.size ∧ ∀ (j : Nat) (x : V), o'.cells[j]? = some x → ∃ v, arr'[base + j]? = some v ∧ RepS w (LiveB F s φ) φ (Born s) x v)
    (hemp : φ i = some .empty → o'.cells = [])
    (hrow : o'.row = true → ∀ x ∈ o'.cells, x.closed = true) :
    Sim F n { s with h := put s.h i.1 o' } a w' φ := by
  obtain ⟨hlk, hoe, _⟩ := getO_some.1 ho
  have hng : o'.c ≠ .gone := by rcases hc with h | ⟨h, _⟩ <;> simp [h]
  have hgk : ∀ j p, St.getO { s with h := put s.h i.1 o' } j = some p → (j = i ∧ p = o') ∨ (j.1 ≠ i.1 ∧ s.getO j = some p) := by
    intro j p hp
    rw [getO_put] at hp
    by_cases hj : j.1 = i.1
    · simp only [hj, if_true] at hp
      by_cases he : o'.ep = j.2
      · rw [pick_live he hng] at hp
        injection hp with hp
        refine .inl ⟨?_, hp.symm⟩
        rw [hep, hoe] at he
        exact Prod.ext hj he.symm
      · simp [pick?, he] at hp
    · simp only [hj, if_false] at hp; exact .inr ⟨hj, hp⟩
  have hgi : St.getO { s with h := put s.h i.1 o' } i = some o' := by
    rw [getO_put]; simp only [if_true]; exact pick_live (by rw [hep, hoe]) hng
  have hlies := h.objs i o ho
  have hlv : ∀ b, LiveB F { s with h := put s.h i.1 o' } φ b → LiveB F s φ b := by
    rintro b (hF | ⟨j, p, base, hp, hlp, hφ⟩)
    · exact .inl hF
    rcases hgk j p hp with ⟨rfl, rfl⟩ | ⟨hj, hp⟩
    · exact .inr ⟨j, o, base, ho, hl, hφ⟩
    · exact .inr ⟨j, p, base, hp, hlp, hφ⟩
  have hlive : ∀ b base, φ i = some (.at b base) → LiveB F s φ b := fun b base hφ => .inr ⟨i, o, base, ho, hl, hφ⟩
  have hborn : ∀ j, Born s j → Born { s with h := put s.h i.1 o' } j := by
    rintro j (hj | ⟨hj, p, h1, h2⟩)
    · exact .inl hj
    · refine .inr ⟨hj, ?_⟩
      simp only [look_put]
      by_cases hji : j.1 = i.1
      · rw [hji, hlk] at h1; injection h1 with h1
        exact ⟨o', by simp [hji], by rw [hep, h1, h2]⟩
      · exact ⟨p, by simp [hji, h1], h2⟩
  have T : Tr w w' (LiveB F s φ) (LiveB F { s with h := put s.h i.1 o' } φ) φ φ (Born s) (Born { s with h := put s.h i.1 o' }) := by
    refine ⟨hsz, fun b hb hL => hold b hb fun base hφ => hL (hlive b base hφ), fun b hb => .inl (hlv b hb), fun _ _ _ h => h, hborn, fun b arr e hL hb => ?_⟩
    by_cases hbi : ∃ base, φ i = some (.at b base)
    · obtain ⟨base, hφ⟩ := hbi
      obtain ⟨arr', h1, h2, _⟩ := hnew b base hφ arr e hb
      exact ⟨arr', h1, h2⟩
    · exact ⟨arr, by rw [hold b (lt_of_some hb) fun base hφ => hbi ⟨base, hφ⟩]; exact hb, rfl⟩
  have hother : ∀ j p b base, s.getO j = some p → j.1 ≠ i.1 → φ j = some (.at b base) → w'.heap[b]? = w.heap[b]? := by
    intro j p b base hp hj hφ
    refine hold b ?_ fun base' hφ' => ?_
    · rcases h.objs j p hp with ⟨b', base', h1, h2, _⟩ | ⟨h1, _⟩
      · rw [h1] at hφ; injection hφ with hφ; injection hφ with hφ _; omega
      · rw [h1] at hφ; simp at hφ
    · rcases hpc : p.c with _ | _ | _
      · exact hj (by rw [h.inj j i p o b base base' hp ho hpc hl hφ hφ'])
      · rcases h.objs j p hp with ⟨b', base'', h1, _, _, h4, _⟩ | ⟨h1, _⟩
        · rw [h1] at hφ; injection hφ with hφ; injection hφ with hφ _
          exact h4 hpc (by rw [hφ]; exact hlive _ _ hφ')
        · rw [h1] at hφ; simp at hφ
      · exact absurd hpc (getO_some.1 hp).2.2
  refine h.turn hk T (fun j p hp => ?_) (fun j l hjl => ?_) (fun j j' p p' b x y hp hp' hlp hlp' hi hj => ?_) (fun j p hp => ?_)
  · rcases hgk j p hp with ⟨rfl, rfl⟩ | ⟨hj, hp⟩
    · refine ⟨?_, hrow, fun hr b base hb => h.var0 j o b base ho (by rw [← hrw]; exact hr) hb⟩
      rcases hlies with ⟨b, base, h1, h2, h3, h4, arr, e, h5, h6, h7⟩ | ⟨h1, h2, h3⟩
      · obtain ⟨arr', g1, g2, g3, g4⟩ := hnew b base h1 arr e h5
        refine .inl ⟨b, base, h1, by omega, fun _ => by rw [hrw]; exact h3 hl, fun hf hL => ?_, arr', e, g1, by omega, fun q x hx => ?_⟩
        · rcases hL with hF | ⟨i', o'', base', ho'', hl'', hφ''⟩
          · have := F.hlb b hF
            rcases hc with hc | ⟨_, hc⟩
            · rw [hc] at hf; simp at hf
            · rcases h3 hl with h | ⟨_, h⟩
              · omega
              · rw [hc] at h; simp at h
          rcases hgk i' o'' ho'' with ⟨rfl, rfl⟩ | ⟨hi', ho''⟩
          · rw [hf] at hl''; simp at hl''
          · exact hi' (by rw [h.inj i' j o'' o b base' base ho'' ho hl'' hl hφ'' h1])
        · obtain ⟨v, hv, hr⟩ := g4 q x hx
          exact ⟨v, hv, hr.mono T⟩
      · exact .inr ⟨h1, by rw [hrw]; exact h2, hemp h1⟩
    · exact ⟨(h.objs j p hp).mono T (fun b base hφ => hother j p b base hp hj hφ) rfl, h.rows j p hp, fun hr b base hb => h.var0 j p b base hp hr hb⟩
  · obtain ⟨p, hp⟩ := h.dom j l hjl
    by_cases hj : j.1 = i.1
    · have : j = i := by
        obtain ⟨g1, g2, _⟩ := getO_some.1 hp
        rw [hj, hlk] at g1; injection g1 with g1
        exact Prod.ext hj (by rw [← g2, ← g1, hoe])
      exact ⟨o', by rw [this]; exact hgi⟩
    · exact ⟨p, by rw [getO_put]; simp [hj, hp]⟩
  · have k1 : ∃ q, s.getO j = some q ∧ q.c = .live := by
      rcases hgk j p hp with ⟨rfl, rfl⟩ | ⟨_, hp⟩
      · exact ⟨o, ho, hl⟩
      · exact ⟨p, hp, hlp⟩
    have k2 : ∃ q, s.getO j' = some q ∧ q.c = .live := by
      rcases hgk j' p' hp' with ⟨rfl, rfl⟩ | ⟨_, hp⟩
      · exact ⟨o, ho, hl⟩
      · exact ⟨p', hp, hlp'⟩
    obtain ⟨q, hq, hql⟩ := k1
    obtain ⟨q', hq', hql'⟩ := k2
    exact h.inj j j' q q' b x y hq hq' hql hql' hi hj
  · rw [look_put] at hp
    by_cases hj : j = i.1
    · simp [hj] at hp; rw [← hp, hep]; exact h.eps _ _ hlk
    · simp [hj] at hp; exact h.eps j p hp
end Go.Ab
namespace Go.Ab
variable {F : Fr} {n : Nat} {s : St} {a : Act} {w w' : World} {φ φ' : Id → Option Loc}
def setM (φ : Id → Option Loc) (i : Id) (k ep : Nat) (l : Loc) : Id → Option Loc := fun j => if j.1 = k then (if j.2 = ep then some l else none) else if j.1 = i.1 then none else φ j
theorem Sim.move (h : Sim F n s a w φ) {i : Id} {o : Ob} (ho : s.getO i = some o) (hl : o.c = .live) (hrw : o.row = true) {k : Nat} (hf : fresh s k) {cells : List V} {h' : List (Nat × Ob)}
    (hh : ∀ j, look h' j = if j = k then some ⟨s.ep, .live, true, cells⟩ else if j = i.1 then some { o with c := .gone } else look s.h j)
    (hk : Kept F w') (hsz : w.heap.size ≤ w'.heap.size) {b1 base1 : Nat}
    (hb1 : (∃ base, φ i = some (.at b1 base)) ∨ w.heap.size ≤ b1) (hb1' : b1 < w'.heap.size)
    (hold : ∀ b, b < w.heap.size → b ≠ b1 → w'.heap[b]? = w.heap[b]?)
    (hsh : ∀ arr e, w.heap[b1]? = some (.cells arr e (0, 0)) → ∃ arr', w'.heap[b1]? = some (.cells arr' e (0, 0)) ∧ arr'.size = arr.size)
    (hob : ∃ arr e, w'.heap[b1]? = some (.cells arr e (0, 0)) ∧ base1 + cells.length ≤ arr.size ∧
      ∀ (j : Nat) (x : V), cells[j]? = some x → ∃ v, arr[base1 + j]? = some v ∧ RepS w (LiveB F s φ) φ (Born s) x v)
    (hrow : ∀ x ∈ cells, x.closed = true) :
    Sim F n { s with h := h' } a w' (setM φ i k s.ep (.at b1 base1)) := by
  have hnb := not_born hf
  obtain ⟨hlk, hoe, _⟩ := getO_some.1 ho
  have hgk : ∀ j p, St.getO { s with h := h' } j = some p → (j = (k, s.ep) ∧ p = ⟨s.ep, .live, true, cells⟩) ∨ (j.1 ≠ k ∧ j.1 ≠ i.1 ∧ s.getO j = some p) := by
    intro j p hp
    simp only [St.getO, hh] at hp
    by_cases hj : j.1 = k
    · simp only [hj, if_true, pick?] at hp
      by_cases he : s.ep = j.2
      · simp [he] at hp; exact .inl ⟨by rw [← hj, he], by rw [← hp, he]⟩
      · simp [he] at hp
    · simp only [hj, if_false] at hp
      by_cases hji : j.1 = i.1
      · simp [hji, pick?] at hp
      · simp only [hji, if_false] at hp; exact .inr ⟨hj, hji, hp⟩
  have hnew : St.getO { s with h := h' } (k, s.ep) = some ⟨s.ep, .live, true, cells⟩ := by
    simp [St.getO, hh, pick?]
  have hlt : ∀ i o b base, s.getO i = some o → φ i = some (.at b base) → b < w.heap.size := by
    intro i o b base ho hφ
    rcases h.objs i o ho with ⟨b', base', h1, h2, _⟩ | ⟨h1, _⟩
    · rw [h1] at hφ; injection hφ with hφ; injection hφ with hφ _; omega
    · rw [h1] at hφ; simp at hφ
  have hne : ∀ j p b base, s.getO j = some p → j.1 ≠ i.1 → φ j = some (.at b base) → b ≠ b1 := by
    rintro j p b base hp hj hφ rfl
    rcases hb1 with ⟨base', hφ'⟩ | hge
    · rcases hpc : p.c with _ | _ | _
      · exact hj (by rw [h.inj j i p o b base base' hp ho hpc hl hφ hφ'])
      · rcases h.objs j p hp with ⟨b', base'', h1, _, _, h4, _⟩ | ⟨h1, _⟩
        · rw [h1] at hφ; injection hφ with hφ; injection hφ with hφ _
          exact h4 hpc (by rw [hφ]; exact .inr ⟨i, o, base', ho, hl, hφ'⟩)
        · rw [h1] at hφ; simp at hφ
      · exact absurd hpc (getO_some.1 hp).2.2
    · have := hlt j p b base hp hφ; omega
  have hlv : ∀ b, LiveB F { s with h := h' } (setM φ i k s.ep (.at b1 base1)) b → LiveB F s φ b ∨ w.heap.size ≤ b := by
    rintro b (hF | ⟨j, p, base, hp, hlp, hφ⟩)
    · exact .inl (.inl hF)
    rcases hgk j p hp with ⟨rfl, rfl⟩ | ⟨hj, hji, hp⟩
    · simp [setM] at hφ
      obtain ⟨rfl, _⟩ := hφ
      rcases hb1 with ⟨base', hφ'⟩ | hge
      · exact .inl (.inr ⟨i, o, base', ho, hl, hφ'⟩)
      · exact .inr hge
    · simp [setM, hj, hji] at hφ; exact .inl (.inr ⟨j, p, base, hp, hlp, hφ⟩)
  have hborn : ∀ j, Born s j → Born { s with h := h' } j := by
    rintro j (hj | ⟨hj, p, h1, h2⟩)
    · exact .inl hj
    · refine .inr ⟨hj, ?_⟩
      simp only [hh]
      by_cases hjk : j.1 = k
      · exact ⟨_, by rw [if_pos hjk], hj.symm⟩
      · by_cases hji : j.1 = i.1
        · rw [hji, hlk] at h1; injection h1 with h1
          exact ⟨_, by rw [if_neg hjk, if_pos hji], by rw [h1]; exact h2⟩
        · exact ⟨p, by rw [if_neg hjk, if_neg hji]; exact h1, h2⟩
  have T : Tr w w' (LiveB F s φ) (LiveB F { s with h := h' } (setM φ i k s.ep (.at b1 base1))) φ (setM φ i k s.ep (.at b1 base1)) (Born s) (Born { s with h := h' }) := by
    refine ⟨hsz, fun b hb hL => hold b hb fun hbb => ?_, hlv, fun j l hb hl => ?_, hborn, fun b arr e _ hb => ?_⟩
    · subst hbb
      rcases hb1 with ⟨base', hφ'⟩ | hge
      · exact hL (.inr ⟨i, o, base', ho, hl, hφ'⟩)
      · omega
    · by_cases hj : j.1 = k
      · by_cases he : j.2 = s.ep
        · exact absurd (by rw [← hj, ← he]; exact hb) hnb
        · simp [setM, hj, he] at hl
      · by_cases hji : j.1 = i.1
        · have : setM φ i k s.ep (.at b1 base1) j = none := by unfold setM; rw [if_neg hj, if_pos hji]
          rw [this] at hl; simp at hl
        · simpa [setM, hj, hji] using hl
    · by_cases hbb : b = b1
      · subst hbb; exact hsh arr e hb
      · exact ⟨arr, by rw [hold b (lt_of_some hb) hbb]; exact hb, rfl⟩
  refine h.turn hk T (fun j p hp => ?_) (fun j l hjl => ?_) (fun j j' p p' b x y hp hp' hlp hlp' hj hj' => ?_) (fun j p hp => ?_)
  · rcases hgk j p hp with ⟨rfl, rfl⟩ | ⟨hj, hji, hp⟩
    · refine ⟨.inl ⟨b1, base1, by simp [setM], hb1', fun _ => ?_, by simp, ?_⟩, fun _ => hrow, by simp⟩
      · rcases hb1 with ⟨base', hφ'⟩ | hge
        · rcases h.objs i o ho with ⟨b', base'', h1, _, h3, _⟩ | ⟨h1, _⟩
          · rw [h1] at hφ'; injection hφ' with hφ'; injection hφ' with hφ' _
            rw [← hφ']
            rcases h3 hl with h | ⟨_, h⟩
            · exact .inl h
            · rw [hrw] at h; simp at h
          · rw [h1] at hφ'; simp at hφ'
        · exact .inl (Nat.le_trans h.kept.size hge)
      · obtain ⟨arr, e, h1, h2, h3⟩ := hob
        refine ⟨arr, e, h1, h2, fun q x hx => ?_⟩
        obtain ⟨v, hv, hr⟩ := h3 q x hx
        exact ⟨v, hv, hr.mono T⟩
    · exact ⟨(h.objs j p hp).mono T (fun b base hφ => hold b (hlt j p b base hp hφ) (hne j p b base hp hji hφ)) (by simp [setM, hj, hji]), h.rows j p hp, fun hr b base hb => h.var0 j p b base hp hr (by simpa [setM, hj, hji] using hb)⟩
  · by_cases hj : j.1 = k
    · by_cases he : j.2 = s.ep
      · exact ⟨_, by rw [show j = (k, s.ep) by rw [← hj, ← he]]; exact hnew⟩
      · simp [setM, hj, he] at hjl
    · by_cases hji : j.1 = i.1
      · have : setM φ i k s.ep (.at b1 base1) j = none := by unfold setM; rw [if_neg hj, if_pos hji]
        rw [this] at hjl; simp at hjl
      · simp [setM, hj, hji] at hjl
        obtain ⟨p, hp⟩ := h.dom j l hjl
        refine ⟨p, ?_⟩
        simp only [St.getO, hh, if_neg hj, if_neg hji]
        exact hp
  · rcases hgk j p hp with ⟨rfl, rfl⟩ | ⟨hjk, hji, hp⟩ <;> rcases hgk j' p' hp' with ⟨rfl, rfl⟩ | ⟨hjk', hji', hp'⟩
    · rfl
    · simp [setM, hjk', hji'] at hj hj'
      exact absurd hj.1.symm (hne _ _ _ _ hp' hji' hj')
    · simp [setM, hjk, hji] at hj hj'
      exact absurd hj'.1.symm (hne _ _ _ _ hp hji hj)
    · simp [setM, hjk, hji, hjk', hji'] at hj hj'
      exact h.inj j j' p p' b x y hp hp' hlp hlp' hj hj'
  · simp only [hh] at hp
    by_cases hj : j = k
    · simp [hj] at hp; rw [← hp]; exact Nat.le_refl _
    · by_cases hji : j = i.1
      · rw [if_neg hj, if_pos hji] at hp; injection hp with hp; rw [← hp]
        exact h.eps _ o hlk
      · simp [hj, hji] at hp; exact h.eps j p hp
theorem Sim.goneO (h : Sim F n s a w φ) {i : Id} {o : Ob} (ho : s.getO i = some o) :
    Sim F n { s with h := put s.h i.1 { o with c := .gone } } a w (fun j => if j.1 = i.1 then none else φ j) := by
  obtain ⟨hlk, hoe, _⟩ := getO_some.1 ho
  have hgk : ∀ j p, St.getO { s with h := put s.h i.1 { o with c := .gone } } j = some p → j.1 ≠ i.1 ∧ s.getO j = some p := by
    intro j p hp
    rw [getO_put] at hp
    by_cases hj : j.1 = i.1
    · simp [hj, pick?] at hp
    · simp only [hj, if_false] at hp; exact ⟨hj, hp⟩
  have hlv : ∀ b, LiveB F { s with h := put s.h i.1 { o with c := .gone } } (fun j => if j.1 = i.1 then none else φ j) b → LiveB F s φ b := by
    rintro b (hF | ⟨j, p, base, hp, hlp, hφ⟩)
    · exact .inl hF
    obtain ⟨hj, hp⟩ := hgk j p hp
    simp [hj] at hφ
    exact .inr ⟨j, p, base, hp, hlp, hφ⟩
  have T : Tr w w (LiveB F s φ) (LiveB F { s with h := put s.h i.1 { o with c := .gone } } (fun j => if j.1 = i.1 then none else φ j)) φ (fun j => if j.1 = i.1 then none else φ j) (Born s) (Born { s with h := put s.h i.1 { o with c := .gone } }) := by
    refine ⟨Nat.le_refl _, fun _ _ _ => rfl, fun b hb => .inl (hlv b hb), fun j l _ hl => ?_, ?_, fun b arr e _ hb => ⟨arr, hb, rfl⟩⟩
    · split at hl
      · simp at hl
      · exact hl
    · rintro j (hj | ⟨hj, p, h1, h2⟩)
      · exact .inl hj
      · refine .inr ⟨hj, ?_⟩
        simp only [look_put]
        by_cases hji : j.1 = i.1
        · rw [hji, hlk] at h1; injection h1 with h1
          exact ⟨{ o with c := .gone }, by simp [hji], by rw [h1]; exact h2⟩
        · exact ⟨p, by simp [hji, h1], h2⟩
  refine h.turn h.kept T (fun j p hp => ?_) (fun j l hjl => ?_) (fun j j' p p' b x y hp hp' hlp hlp' hj hj' => ?_) (fun j p hp => ?_)
  · obtain ⟨hj, hp⟩ := hgk j p hp
    exact ⟨(h.objs j p hp).mono T (fun _ _ _ => rfl) (by simp [hj]), h.rows j p hp, fun hr b base hb => h.var0 j p b base hp hr (by simpa [hj] using hb)⟩
  · by_cases hj : j.1 = i.1
    · simp [hj] at hjl
    · simp [hj] at hjl
      obtain ⟨p, hp⟩ := h.dom j l hjl
      exact ⟨p, by rw [getO_put]; simp [hj, hp]⟩
  · obtain ⟨h1, hp⟩ := hgk j p hp
    obtain ⟨h2, hp'⟩ := hgk j' p' hp'
    simp [h1] at hj
    simp [h2] at hj'
    exact h.inj j j' p p' b x y hp hp' hlp hlp' hj hj'
  · rw [look_put] at hp
    by_cases hj : j = i.1
    · simp [hj] at hp; rw [← hp]; exact h.eps _ o hlk
    · simp [hj] at hp; exact h.eps j p hp
theorem Sim.weak (h : Sim F n s a w φ) (s' : St) (ht : ∀ i, s'.getT i = s.getT i ∨ s'.getT i = .dead) (hep : s.ep ≤ s'.ep)
    (hh : ∀ k o, look s'.h k = some o → look s.h k = some o) (hkeep : s'.ep = s.ep → s'.h = s.h) :
    Sim F n s' a w (fun i => if (s'.getO i).isSome then φ i else none) := by
  have hgo : ∀ i o, s'.getO i = some o → s.getO i = some o := by
    intro i o ho
    obtain ⟨h1, h2, h3⟩ := getO_some.1 ho
    exact getO_some.2 ⟨hh _ _ h1, h2, h3⟩
  have hφ : ∀ i l, (if (s'.getO i).isSome then φ i else none) = some l → φ i = some l := by
    intro i l hl; split at hl
    · exact hl
    · simp at hl
  have hφ' : ∀ i o, s'.getO i = some o → (if (s'.getO i).isSome then φ i else none) = φ i := by
    intro i o ho; rw [ho]; simp
  have hlv : ∀ b, LiveB F s' (fun i => if (s'.getO i).isSome then φ i else none) b → LiveB F s φ b := by
    rintro b (hF | ⟨i, o, base, ho, hl, hi⟩)
    · exact .inl hF
    exact .inr ⟨i, o, base, hgo i o ho, hl, hφ _ _ hi⟩
  have hborn : ∀ i, Born s i → Born s' i := by
    rintro i (hi | ⟨hi, p, h1, h2⟩)
    · exact .inl (by omega)
    · by_cases he : s'.ep = s.ep
      · exact .inr ⟨by omega, p, by rw [hkeep he]; exact h1, h2⟩
      · exact .inl (by omega)
  have T : Tr w w (LiveB F s φ) (LiveB F s' (fun i => if (s'.getO i).isSome then φ i else none)) φ (fun i => if (s'.getO i).isSome then φ i else none) (Born s) (Born s') :=
    ⟨Nat.le_refl _, fun _ _ _ => rfl, fun b hb => .inl (hlv b hb), fun i l _ hl => hφ i l hl, hborn, fun b arr e _ hb => ⟨arr, hb, rfl⟩⟩
  refine ⟨h.size, h.defers, h.kept, fun i => ?_, fun i o ho => ?_, fun i o ho => h.rows i o (hgo i o ho), fun i l hl => ?_, fun i j o o' b x y ho ho' hl hl' hi hj => ?_, fun k o ho => ?_, fun i o b base ho hr hb => h.var0 i o b base (hgo i o ho) hr (hφ _ _ hb), fun i b hb =>
    ⟨T.born _ (h.home i b hb).1, fun l hl => (h.home i b hb).2 l (T.loc _ _ (h.home i b hb).1 hl)⟩⟩
  · rcases ht i with ht | ht
    · rw [ht]; exact (h.slots i).mono T
    · rw [ht]; exact .s (.dead _)
  · exact (h.objs i o (hgo i o ho)).mono T (fun _ _ _ => rfl) (hφ' i o ho)
  · have hl' := hφ i l hl
    cases he : s'.getO i with
    | some o => exact ⟨o, rfl⟩
    | none => simp [he] at hl
  · exact h.inj i j o o' b x y (hgo i o ho) (hgo j o' ho') hl hl' (hφ _ _ hi) (hφ _ _ hj)
  · have := h.eps k o (hh k o ho); omega
end Go.Ab
namespace Go.Ab
def dscOf : TypeDesc → Dsc
  | .bool => .bool
  | .int k => .int k
  | .string => .str
  | .complex k => .cplx k
  | .pointer e => .ptr e
  | .slice e => .slice e
  | .array n e => .arr n e
  | .struct fs => .struct (fs.toList.map fun f => (f.offset, f.type, f.name == "_"))
  | .map k e => .map k e
  | _ => .other
structure RowOk (P : Program) (t : TypeId) (ti : TI) (info : TypeInfo) (d : TypeDesc) (z : Value) : Prop where
  inf : P.info? t = some info
  und : P.underlying t = some d
  dsc : ti.d = dscOf d
  size : info.size = ti.size
  bytes : info.bytes = ti.bytes
  zero : info.zero = some z
  cells : ti.zero = z.cells.toList.map V.ofCell
  zsize : z.cells.size = ti.size
  zagg : ti.d.agg = false → ∃ v, z = v ∧ z.cells = #[v]
  flds : ∀ fs, d = .struct fs → ∀ f ∈ fs.toList, ∃ i, P.info? f.type = some i
  elt : ∀ e, d = .slice e → ∃ i, P.info? e = some i
  stood : ti.d.agg = true → P.stoodInHeld t = false
  guard : ti.d.agg = true → P.eqGuardType P.depth t = false
def TabOk (P : Program) (T : Tab) : Prop := ∀ t ti, T t = some ti → ∃ info d z, RowOk P t ti info d z
theorem dscOf_agg (d : TypeDesc) : (dscOf d).agg = d.isRow := by cases d <;> rfl
def St.ev (s : St) : Operand → V
  | .tmp t => s.getT t
  | .const v => V.ofConst v
  | .func f => .val (.func (.func f) #[] #[])
  | .global _ => .dead
variable {P : Program} {T : Tab} {F : Fr} {n : Nat} {s : St} {a : Act} {w w' : World} {φ φ' : Id → Option Loc} {L : Nat → Prop} {B : Id → Prop}
theorem rep_ofCell (v : Value) : RepS w L φ B (V.ofCell v) v := by
  unfold V.ofCell
  split
  · exact .c .nils
  · split
    · rename_i h; exact .c (.val h)
    · exact .dead _
theorem rep_ofConst (v : Value) : Rep w L φ B (V.ofConst v) v := by
  unfold V.ofConst
  split
  · rename_i cs
    refine .agg (by simp) fun j x v hx hv => ?_
    simp at hx
    obtain ⟨u, hu, rfl⟩ := hx
    rw [hu] at hv; injection hv with hv; subst hv
    exact rep_ofCell u
  · exact .s (rep_ofCell v)
theorem Sim.ev (h : Sim F n s a w φ) (x : Operand) : Rep w (LiveB F s φ) φ (Born s) (s.ev x) (a.eval x) := by
  cases x with
  | tmp t => exact h.slots t
  | const v => exact rep_ofConst v
  | func f => exact .s (.c (.val (by simp [scalar])))
  | global g => exact .s (.dead _)
def CellsAt (w : World) (L : Nat → Prop) (φ : Id → Option Loc) (B : Id → Prop) (b o : Nat) (xs : List V) : Prop :=
  ∀ (j : Nat) (x : V), xs[j]? = some x → ∃ v, w.cell? ⟨b, o + j, none⟩ = some v ∧ RepS w L φ B x v
theorem ObAt.cellsAt {b base : Nat} {cells : List V} (h : ObAt w L φ B b base cells) : CellsAt w L φ B b base cells := by
  obtain ⟨arr, e, h1, h2, h3⟩ := h
  intro j x hx
  obtain ⟨v, hv, hr⟩ := h3 j x hx
  exact ⟨v, by simp [World.cell?, h1, hv], hr⟩
theorem sub_some {cells cs : List V} {off m : Nat} (h : sub cells off m = some cs) : off + m ≤ cells.length ∧ cs.length = m ∧ ∀ j, j < m → cs[j]? = cells[off + j]? := by
  unfold sub at h
  split at h
  · rename_i hle
    injection h with h; subst h
    refine ⟨hle, by simp; omega, fun j hj => ?_⟩
    rw [List.getElem?_take_of_lt hj, List.getElem?_drop]
  · simp at h
theorem CellsAt.sub {b o off m : Nat} {cells cs : List V} (h : CellsAt w L φ B b o cells) (hs : sub cells off m = some cs) : CellsAt w L φ B b (o + off) cs := by
  obtain ⟨h1, h2, h3⟩ := sub_some hs
  intro j x hx
  have hj : j < m := by
    rcases Nat.lt_or_ge j m with h | h
    · exact h
    · rw [List.getElem?_eq_none (by omega)] at hx; simp at hx
  rw [h3 j hj] at hx
  have := h (off + j) x hx
  rwa [← Nat.add_assoc] at this
theorem CellsAt.vals {b o : Nat} {cells : List V} (h : CellsAt w L φ B b o cells) : ∃ vs : List Value, vs.length = cells.length ∧ w.rangeAt b o vs ∧
    ∀ (j : Nat) (x : V) (v : Value), cells[j]? = some x → vs[j]? = some v → RepS w L φ B x v := by
  induction cells generalizing o with
  | nil => exact ⟨[], rfl, fun j v hv => by simp at hv, fun j x v hx => by simp at hx⟩
  | cons c cs ih =>
    obtain ⟨v, hv, hr⟩ := h 0 c rfl
    obtain ⟨vs, h1, h2, h3⟩ := ih (o := o + 1) (fun j x hx => by
      have := h (j + 1) x (by simpa using hx)
      rwa [show o + 1 + j = o + (j + 1) by omega])
    refine ⟨v :: vs, by simp [h1], fun j u hu => ?_, fun j x u hx hu => ?_⟩
    · cases j with
      | zero => simp at hu; subst hu; simpa using hv
      | succ j =>
        have := h2 j u (by simpa using hu)
        rwa [show o + 1 + j = o + (j + 1) by omega] at this
    · cases j with
      | zero => simp at hx hu; subst hx; subst hu; exact hr
      | succ j => exact h3 j x u (by simpa using hx) (by simpa using hu)
theorem RowOk.isRow {t : TypeId} {ti : TI} {info : TypeInfo} {d : TypeDesc} {z : Value} (h : RowOk P t ti info d z) : d.isRow = ti.d.agg := by
  rw [h.dsc, dscOf_agg]
theorem run_isAgg {t : TypeId} {d : TypeDesc} (h : P.underlying t = some d) : (isAgg t).run P w = .ok d.isRow w := by
  unfold isAgg
  rw [Sem.run_bind, run_underlying h w]
  cases d <;> simp
theorem load_ok {t : TypeId} {ti : TI} {info : TypeInfo} {d : TypeDesc} {z : Value} (hr : RowOk P t ti info d z) {b o : Nat} {xs : List V} (hc : CellsAt w L φ B b o xs)
    (hl : xs.length = ti.size) {x : V} (hm : mkV ti.d.agg xs = some x) : ∃ v, (loadVar t ⟨b, o, none⟩).run P w = .ok v w ∧ Rep w L φ B x v := by
  obtain ⟨vs, h1, h2, h3⟩ := hc.vals
  unfold mkV at hm
  split at hm
  · rename_i hagg
    injection hm with hm; subst hm
    refine ⟨.agg vs.toArray, run_loadVar_mid w b o t vs d h2 hr.und (by rw [hr.isRow, hagg]) (by simp [hr.inf, hr.size, h1, hl]), .agg (by simp [h1]) fun j x v hx hv => h3 j x v hx (by simpa using hv)⟩
  · rename_i hagg
    match xs, hm with
    | [y], hm =>
      simp at hm; subst hm
      match vs, h1 with
      | [v], _ =>
        refine ⟨v, ?_, .s (h3 0 y v rfl rfl)⟩
        have hv := h2 0 v rfl
        simp at hv
        simp [loadVar, run_isAgg hr.und, hr.isRow, hagg, hv]
theorem rep_single {x : V} {v : Value} (h : Rep w L φ B x v) (hx : x.single = true) : RepS w L φ B x v := by
  cases h with
  | s h => exact h
  | agg hl h => simp [V.single] at hx
  | tup hl h => simp [V.single] at hx
theorem rep_val {u v : Value} (h : Rep w L φ B (.val u) v) : v = u ∧ scalar u = true := by
  cases rep_single h rfl with
  | c h => cases h with
    | val h' => exact ⟨rfl, h'⟩
theorem reps_one {x : V} {v : Value} (h : RepS w L φ B x v) (hx : x.single = true) : v.oneCell' = true := by
  cases h with
  | c h => cases h with
    | val h' => cases v <;> simp_all [scalar, Value.oneCell']
    | nils => rfl
    | ro => rfl
    | ro0 => rfl
  | dead => simp [V.single] at hx
  | sref _ h1 _ => exact h1
  | ptr _ h1 _ => exact h1
  | rp => rfl
  | clo => rfl
theorem Sim.at_ptr (h : Sim F n s a w φ) {i : Id} {o : Ob} (ho : s.getO i = some o) {off : Nat} {v : Value} (hr : Rep w L φ B (.ptr i off) v) :
    ∃ b base, φ i = some (.at b base) ∧ v = .pointer (some ⟨b, base + off, none⟩) ∧ ObAt w (LiveB F s φ) φ (Born s) b base o.cells := by
  cases rep_single hr rfl with
  | c h => cases h
  | ptr hb h1 hv =>
    rcases h.objs i o ho with ⟨b, base, g1, g2, g3, g4, g5⟩ | ⟨g1, _⟩
    · obtain ⟨b', base', e, hv⟩ := hv _ g1
      injection e with e1 e2; subst e1; subst e2
      exact ⟨b, base, g1, hv, g5⟩
    · obtain ⟨b', base', e, hv⟩ := hv _ g1
      simp at e
theorem rep_rp {cells : List V} {off : Nat} {v : Value} (h : Rep w L φ B (.rp cells off) v) :
    ∃ b base, v = .pointer (some ⟨b, base + off, none⟩) ∧ CellsAt w L φ B b base cells ∧ ∀ off', RepS w L φ B (.rp cells off') (.pointer (some ⟨b, base + off', none⟩)) := by
  cases rep_single h rfl with
  | c h => cases h
  | rp f hb hs hc hr =>
    exact ⟨_, _, rfl, fun j x hx => ⟨_, hc j x hx, .c (hr j x hx)⟩, fun off' => .rp f hb hs hc hr⟩
theorem run_sureAddr (ad : Addr) : (Instr.sureAddr (.pointer (some ad))).run P w = .ok ad w := rfl
theorem op_load (hT : TabOk P T) (h : Sim F n s a w φ) {t : TypeId} {p : Operand} {x : V} (hq : (loadV T t (s.ev p)).run s.getO = some x) :
    ∃ v, (Instr.loadAt t (a.eval p)).run P w = .ok v w ∧ Rep w (LiveB F s φ) φ (Born s) x v := by
  have hp := h.ev p
  unfold loadV at hq
  cases ht : T t with
  | none => simp [ht, Q.run] at hq
  | some ti =>
    obtain ⟨info, d, z, hrow⟩ := hT t ti ht
    rw [ht] at hq
    cases hv : s.ev p with
    | ptr i off =>
      rw [hv] at hq hp
      simp only [Q.run] at hq
      cases ho : s.getO i with
      | none => simp [ho] at hq
      | some o =>
        obtain ⟨b, base, g1, g2, g3⟩ := h.at_ptr ho hp
        simp only [ho] at hq
        cases hs : sub o.cells off ti.size with
        | none => simp [hs, Q.ofOpt, Q.run] at hq
        | some cs =>
          cases hm : mkV ti.d.agg cs with
          | none => simp [hs, hm, Q.ofOpt, Q.run] at hq
          | some y =>
            simp [hs, hm, Q.ofOpt, Q.run] at hq
            subst hq
            obtain ⟨v, k1, k2⟩ := load_ok hrow (g3.cellsAt.sub hs) (sub_some hs).2.1 hm
            exact ⟨v, by rw [g2, Instr.loadAt, Sem.run_bind, run_sureAddr]; exact k1, k2⟩
    | rp cells off =>
      rw [hv] at hq hp
      obtain ⟨b, base, g2, g3, _⟩ := rep_rp hp
      cases hs : sub cells off ti.size with
      | none => simp [hs, Q.ofOpt, Q.run] at hq
      | some cs =>
        cases hm : mkV ti.d.agg cs with
        | none => simp [hs, hm, Q.ofOpt, Q.run] at hq
        | some y =>
          simp [hs, hm, Q.ofOpt, Q.run] at hq
          subst hq
          obtain ⟨v, k1, k2⟩ := load_ok hrow (g3.sub hs) (sub_some hs).2.1 hm
          exact ⟨v, by rw [g2, Instr.loadAt, Sem.run_bind, run_sureAddr]; exact k1, k2⟩
    | _ => simp [hv, Q.run] at hq
end Go.Ab
set_option linter.unusedSimpArgs false
set_option linter.unusedVariables false
namespace Go.Ab
variable {P : Program} {T : Tab} {F : Fr} {n : Nat} {s : St} {a : Act} {w w' : World} {φ φ' : Id → Option Loc} {L : Nat → Prop} {B : Id → Prop}
def CR (w : World) (L : Nat → Prop) (φ : Id → Option Loc) (B : Id → Prop) (cs : List V) (vs : List Value) : Prop :=
  cs.length = vs.length ∧ ∀ (j : Nat) (x : V) (v : Value), cs[j]? = some x → vs[j]? = some v → RepS w L φ B x v
theorem cells_one {v : Value} (h : v.oneCell' = true) : v.cells = #[v] := by cases v <;> simp_all [Value.oneCell', Value.cells]
theorem rep_cells {x : V} {v : Value} (h : Rep w L φ B x v) (hs : x.cells.all V.single = true) : CR w L φ B x.cells v.cells.toList := by
  cases h with
  | s h =>
    have hx : x.cells = [x] := by cases h with
      | c h => cases h <;> rfl
      | _ => rfl
    rw [hx] at hs ⊢
    rw [cells_one (reps_one h (by simpa using hs))]
    refine ⟨rfl, fun j y u hy hu => ?_⟩
    cases j with
    | zero => simp at hy hu; subst hy; subst hu; exact h
    | succ j => simp at hy
  | agg hl h => exact ⟨by simpa [V.cells, Value.cells] using hl, fun j x v hx hv => h j x v (by simpa [V.cells] using hx) (by simpa [Value.cells] using hv)⟩
  | tup hl h => simp [V.cells, V.single] at hs
theorem splice_some {cells xs cs : List V} {off : Nat} (h : splice cells off xs = some cs) : off + xs.length ≤ cells.length ∧ cs.length = cells.length ∧
    ∀ j, cs[j]? = if off ≤ j ∧ j < off + xs.length then xs[j - off]? else cells[j]? := by
  unfold splice at h
  split at h
  · rename_i hle
    injection h with h; subst h
    refine ⟨hle, by simp; omega, fun j => ?_⟩
    by_cases h1 : j < off
    · rw [if_neg (by omega), List.append_assoc, List.getElem?_append_left (by simp; omega), List.getElem?_take_of_lt h1]
    · by_cases h2 : j < off + xs.length
      · rw [if_pos (by omega), List.append_assoc, List.getElem?_append_right (by simp; omega), List.getElem?_append_left (by simp; omega)]
        congr 1; simp; omega
      · rw [if_neg (by omega), List.getElem?_append_right (by simp; omega), List.getElem?_drop]
        congr 1; simp; omega
  · simp at h
theorem foldl_set (off : Nat) : ∀ (xs : List Value) (k : Nat) (arr : Array Value), off + k + xs.length ≤ arr.size →
    ((xs.zipIdx k).foldl (fun cs p => cs.setIfInBounds (off + p.2) p.1) arr).size = arr.size ∧
    ∀ j, ((xs.zipIdx k).foldl (fun cs p => cs.setIfInBounds (off + p.2) p.1) arr)[j]? = if off + k ≤ j ∧ j < off + k + xs.length then xs[j - off - k]? else arr[j]?
  | [], k, arr, _ => by simp; intro j h1 h2; omega
  | x :: xs, k, arr, h => by
    simp only [List.length_cons] at h
    obtain ⟨h1, h2⟩ := foldl_set off xs (k + 1) (arr.setIfInBounds (off + k) x) (by simp; omega)
    refine ⟨by simpa [List.zipIdx_cons] using h1, fun j => ?_⟩
    simp only [List.zipIdx_cons, List.foldl_cons]
    rw [h2 j]
    simp only [Array.getElem?_setIfInBounds, List.length_cons]
    by_cases e : off + k = j
    · subst e
      rw [if_neg (by omega), if_pos (by omega), if_pos (by omega)]
      simp
    · by_cases e2 : off + (k + 1) ≤ j ∧ j < off + (k + 1) + xs.length
      · rw [if_pos e2, if_pos (by omega)]
        rw [show j - off - k = (j - off - (k + 1)) + 1 by omega]
        simp
      · rw [if_neg e2, if_neg e, if_neg (by omega)]
def PartsR (w : World) (L : Nat → Prop) (φ : Id → Option Loc) (B : Id → Prop) : List (Nat × V) → List (Nat × Value) → Prop
  | [], [] => True
  | (i, x) :: l, (j, v) :: r => i = j ∧ Rep w L φ B x v ∧ PartsR w L φ B l r
  | _, _ => False
theorem fill_ok (place : Nat → Option (Nat × Nat)) : ∀ (ps : List (Nat × V)) (qs : List (Nat × Value)) (cells cs : List V) (arr : Array Value), PartsR w L φ B ps qs →
    CR w L φ B cells arr.toList → fillV place cells ps = some cs → ∃ arr', Instr.fill place arr qs = some arr' ∧ CR w L φ B cs arr'.toList
  | [], [], cells, cs, arr, _, hc, hf => by
    simp [fillV] at hf; subst hf
    exact ⟨arr, rfl, hc⟩
  | [], _ :: _, _, _, _, h, _, _ => h.elim
  | _ :: _, [], _, _, _, h, _, _ => h.elim
  | (i, x) :: ps, (j, v) :: qs, cells, cs, arr, h, hc, hf => by
    obtain ⟨rfl, hr, hps⟩ := h
    unfold fillV at hf
    unfold Instr.fill
    cases hp : place i with
    | none => simp [hp] at hf
    | some p =>
      obtain ⟨off, size⟩ := p
      simp only [hp] at hf ⊢
      by_cases hsz : x.cells.length = size ∧ x.cells.all V.single = true
      · rw [if_pos hsz] at hf
        obtain ⟨hxl, hxr⟩ := rep_cells hr hsz.2
        cases hsp : splice cells off x.cells with
        | none => simp [hsp] at hf
        | some cs1 =>
          simp only [hsp] at hf
          obtain ⟨k1, k2, k3⟩ := splice_some hsp
          have hxl' : v.cells.size = x.cells.length := by rw [hxl]; simp
          have hcl : cells.length = arr.size := by rw [hc.1]; simp
          obtain ⟨m1, m2⟩ := foldl_set off v.cells.toList 0 arr (by simp; omega)
          have hfold : v.cells.zipIdx.foldl (fun cs (p : Value × Nat) => cs.setIfInBounds (off + p.2) p.1) arr = (v.cells.toList.zipIdx 0).foldl (fun cs p => cs.setIfInBounds (off + p.2) p.1) arr := by
            rw [← Array.foldl_toList, Array.toList_zipIdx]
          rw [if_neg (by simp; omega)]
          have hfold' : (Array.foldl (fun cs x => match x with | (c, j) => cs.setIfInBounds (off + j) c) arr v.cells.zipIdx) = (v.cells.toList.zipIdx 0).foldl (fun cs p => cs.setIfInBounds (off + p.2) p.1) arr := hfold
          rw [hfold']
          refine fill_ok place ps qs cs1 cs _ hps ⟨by simp [m1, k2, hcl], fun q y u hy hu => ?_⟩ hf
          rw [k3 q] at hy
          simp only [Array.getElem?_toList] at hu
          rw [m2 q] at hu
          simp only [Nat.add_zero, Nat.sub_zero, Array.length_toList] at hu
          by_cases hq : off ≤ q ∧ q < off + x.cells.length
          · rw [if_pos hq] at hy
            rw [if_pos (by omega)] at hu
            exact hxr _ y u hy hu
          · rw [if_neg hq] at hy
            rw [if_neg (by omega)] at hu
            exact hc.2 q y u hy (by simpa using hu)
      · rw [if_neg hsz] at hf; simp at hf
theorem CR.rep_agg {cs : List V} {arr : Array Value} (h : CR w L φ B cs arr.toList) : Rep w L φ B (.agg cs) (.agg arr) :=
  .agg (by simpa using h.1) fun j x v hx hv => h.2 j x v hx (by simpa using hv)
theorem RowOk.zeroCR {t : TypeId} {ti : TI} {info : TypeInfo} {d : TypeDesc} {z : Value} (h : RowOk P t ti info d z) : CR w L φ B ti.zero z.cells.toList := by
  refine ⟨by rw [h.cells]; simp, fun j x v hx hv => ?_⟩
  rw [h.cells] at hx
  simp only [List.getElem?_map, hv, Option.map_some, Option.some.injEq] at hx
  subst hx
  exact rep_ofCell v
theorem Sim.parts (h : Sim F n s a w φ) (parts : List (Nat × Operand)) : PartsR w (LiveB F s φ) φ (Born s) (parts.map fun (j, x) => (j, s.ev x)) (parts.map fun (j, x) => (j, a.eval x)) := by
  induction parts with
  | nil => exact trivial
  | cons p l ih => exact ⟨rfl, h.ev p.2, ih⟩
theorem places_ok (hT : TabOk P T) : ∀ (fs : List Field), (∀ f ∈ fs, ∃ i, P.info? f.type = some i) → ∃ places, fs.mapM (fun f => (P.info? f.type).map fun i => (f.offset, i.size)) = some places ∧
    ∀ (j : Nat) (off : Nat) (ft : TypeId) (bl : Bool) (fi : TI), (fs.map fun f => (f.offset, f.type, f.name == "_"))[j]? = some (off, ft, bl) → T ft = some fi → places[j]? = some (off, fi.size)
  | [], _ => ⟨[], by simp, fun j off ft bl fi h => by simp at h⟩
  | f :: fs, h => by
    obtain ⟨places, h1, h2⟩ := places_ok hT fs (fun g hg => h g (by simp [hg]))
    obtain ⟨i, hi⟩ := h f (by simp)
    refine ⟨(f.offset, i.size) :: places, by simp [List.mapM_cons, hi, h1], fun j off ft bl fi hj ht => ?_⟩
    cases j with
    | zero =>
      simp at hj
      obtain ⟨rfl, rfl, _⟩ := hj
      obtain ⟨info, d, z, hr⟩ := hT _ _ ht
      rw [hr.inf] at hi; injection hi with hi; subst hi
      simp [hr.size]
    | succ j => exact h2 j off ft bl fi (by simpa using hj) ht
theorem dscOf_struct {d : TypeDesc} {fs : List (Nat × TypeId × Bool)} (h : .struct fs = dscOf d) : ∃ fields, d = .struct fields ∧ fs = fields.toList.map fun f => (f.offset, f.type, f.name == "_") := by
  cases d <;> simp [dscOf] at h
  exact ⟨_, rfl, h⟩
theorem dscOf_arr {d : TypeDesc} {m : Nat} {e : TypeId} (h : .arr m e = dscOf d) : d = .array m e := by
  cases d <;> simp [dscOf] at h
  obtain ⟨rfl, rfl⟩ := h; rfl
theorem dscOf_slice {d : TypeDesc} {e : TypeId} (h : .slice e = dscOf d) : d = .slice e := by
  cases d <;> simp [dscOf] at h
  subst h; rfl
theorem dscOf_str {d : TypeDesc} (h : .str = dscOf d) : d = .string := by cases d <;> simp [dscOf] at h; rfl
theorem dscOf_int {d : TypeDesc} {k : IntKind} (h : .int k = dscOf d) : d = .int k := by cases d <;> simp [dscOf] at h; subst h; rfl
theorem dscOf_bool {d : TypeDesc} (h : .bool = dscOf d) : d = .bool := by cases d <;> simp [dscOf] at h; rfl
theorem fillV_congr {p q : Nat → Option (Nat × Nat)} (hpq : ∀ i x, p i = some x → q i = some x) : ∀ (l : List (Nat × V)) (cells cs : List V), fillV p cells l = some cs → fillV q cells l = some cs
  | [], cells, cs, h => h
  | (i, v) :: l, cells, cs, h => by
    unfold fillV at h ⊢
    cases hp : p i with
    | none => simp [hp] at h
    | some x =>
      rw [hpq i x hp]
      simp only [hp] at h
      obtain ⟨off, size⟩ := x
      simp only at h ⊢
      split at h
      · rename_i hc
        rw [if_pos hc]
        cases hs : splice cells off v.cells with
        | none => simp [hs] at h
        | some c1 => simp only [hs] at h ⊢; exact fillV_congr hpq l c1 cs h
      · simp at h
theorem op_build (hT : TabOk P T) (h : Sim F n s a w φ) {k ep : Nat} {t : TypeId} {parts : Array (Nat × Operand)} {eff : Eff} (hq : (opQ T k ep s.ev (.build t parts)).run s.getO = some eff) :
    eff.w = [] ∧ ∃ v, (Instr.build t (parts.map fun (i, x) => (i, a.eval x))).run P w = .ok v w ∧ Rep w (LiveB F s φ) φ (Born s) eff.val v := by
  have hp := h.parts parts.toList
  simp only [opQ] at hq
  cases ht : T t with
  | none => simp [ht, Q.run] at hq
  | some ti =>
    obtain ⟨info, d, z, hr⟩ := hT t ti ht
    simp only [ht] at hq
    cases hd : ti.d with
    | struct fs =>
      obtain ⟨fields, rfl, rfl⟩ := dscOf_struct (hd ▸ hr.dsc)
      obtain ⟨places, hp1, hp2⟩ := places_ok hT fields.toList (hr.flds _ rfl)
      simp only [hd] at hq
      generalize hfi : fillV _ ti.zero _ = r at hq
      cases r with
      | none => simp [Q.ofOpt, bind, Q.bind, Q.run] at hq
      | some cs =>
        simp [Q.ofOpt, bind, Q.bind, Q.run] at hq
        subst hq
        have hfi' := fillV_congr (q := (places.toArray[·]?)) (fun i x hx => by
          split at hx
          · rename_i off ft bl hj
            cases hft : T ft with
            | none => simp [hft] at hx
            | some fi =>
              simp only [hft, Option.map_some, Option.some.injEq] at hx; subst hx
              have := hp2 i off ft bl fi hj hft
              simpa using this
          · simp at hx) _ _ _ hfi
        obtain ⟨arr, k1, k2⟩ := fill_ok _ _ _ _ _ z.cells hp hr.zeroCR hfi'
        refine ⟨rfl, .agg arr, run_build w t _ arr ?_, k2.rep_agg⟩
        simp only [Program.built, hr.inf, hr.und, hr.zero, hp1]
        simpa using k1
    | arr m e =>
      have := dscOf_arr (hd ▸ hr.dsc); subst this
      simp only [hd] at hq
      cases hte : T e with
      | none => simp [hte, Q.run] at hq
      | some ei =>
        obtain ⟨infoe, de, ze, hre⟩ := hT e ei hte
        simp only [hte] at hq
        generalize hfi : fillV _ ti.zero _ = r at hq
        cases r with
        | none => simp [Q.ofOpt, bind, Q.bind, Q.run] at hq
        | some cs =>
          simp [Q.ofOpt, bind, Q.bind, Q.run] at hq
          subst hq
          obtain ⟨arr, k1, k2⟩ := fill_ok _ _ _ _ _ z.cells hp hr.zeroCR hfi
          refine ⟨rfl, .agg arr, run_build w t _ arr ?_, k2.rep_agg⟩
          simp only [Program.built, hr.inf, hr.und, hr.zero, hre.inf, hre.size]
          simpa using k1
    | _ => simp [hd, Q.run] at hq
end Go.Ab
set_option linter.unusedSimpArgs false
set_option linter.unusedVariables false
namespace Go.Ab
variable {P : Program} {T : Tab} {F : Fr} {n : Nat} {s : St} {a : Act} {w w' : World} {φ φ' : Id → Option Loc} {L : Nat → Prop} {B : Id → Prop}
theorem rep_agg {cs : List V} {v : Value} (h : Rep w L φ B (.agg cs) v) : ∃ arr, v = .agg arr ∧ CR w L φ B cs arr.toList := by
  cases h with
  | s h => cases h with
    | c h => cases h
  | agg hl h => exact ⟨_, rfl, by simpa using hl, fun j x v hx hv => h j x v hx (by simpa using hv)⟩
theorem rep_idx {x : V} {m : Int} {v : Value} (h : Rep w L φ B x v) (hi : idx x = some m) : ∃ k, v = .int k m := by
  unfold idx at hi
  split at hi
  · rename_i k q
    injection hi with hi; subst hi
    exact ⟨k, (rep_val h).1⟩
  · simp at hi
theorem part_ok (hT : TabOk P T) {t : TypeId} {ti : TI} (ht : T t = some ti) {cs : List V} {arr : Array Value} (hc : CR w L φ B cs arr.toList) {off : Nat} {x : V}
    (h : (sub cs off ti.size).bind (mkV ti.d.agg) = some x) : ∃ v, (part t arr off).run P w = .ok v w ∧ Rep w L φ B x v := by
  obtain ⟨info, d, z, hr⟩ := hT t ti ht
  cases hs : sub cs off ti.size with
  | none => simp [hs] at h
  | some c1 =>
    simp only [hs, Option.bind_some] at h
    obtain ⟨k1, k2, k3⟩ := sub_some hs
    have hlen : cs.length = arr.size := by simpa using hc.1
    unfold mkV at h
    split at h
    · rename_i hagg
      injection h with h; subst h
      refine ⟨.agg (arr.extract off (off + ti.size)), ?_, .agg (by simp; omega) fun j y v hy hv => ?_⟩
      · simp [part, run_isAgg hr.und, hr.isRow, hagg, sizeOf, typeInfo, hr.inf, hr.size]
      · have hj : j < ti.size := by
          rcases Nat.lt_or_ge j ti.size with h | h
          · exact h
          · rw [List.getElem?_eq_none (by omega)] at hy; simp at hy
        rw [k3 j hj] at hy
        refine hc.2 (off + j) y v hy ?_
        rw [Array.getElem?_extract] at hv
        split at hv
        · simpa using hv
        · simp at hv
    · rename_i hagg
      match c1, h with
      | [y], h =>
        simp at h; subst h
        have h0 := k3 0 (by simp at k2; omega)
        simp at h0
        obtain ⟨v, hv⟩ : ∃ v, arr[off]? = some v := ⟨arr[off]'(by simp at k2; omega), by simp⟩
        refine ⟨v, ?_, .s (hc.2 off y v h0.symm (by simpa using hv))⟩
        simp [part, run_isAgg hr.und, hr.isRow, hagg, hv]
theorem bind_ret {α : Type} {q : Q V} {h : Id → Option Ob} {eff : Eff} (hq : (q.bind fun x => Q.ret ⟨x, []⟩).run h = some eff) : eff.w = [] ∧ q.run h = some eff.val := by
  induction q with
  | ret x => simp [Q.bind, Q.run] at hq; subst hq; exact ⟨rfl, rfl⟩
  | ask i k ih =>
    simp only [Q.bind, Q.run] at hq ⊢
    cases ho : h i with
    | none => simp [ho] at hq
    | some o => simp only [ho] at hq ⊢; exact ih o hq
  | fail => simp [Q.bind, Q.run] at hq
theorem ofOpt_run {α : Type} {o : Option α} {h : Id → Option Ob} {x : α} (hq : (Q.ofOpt o).run h = some x) : o = some x := by
  cases o <;> simp_all [Q.ofOpt, Q.run]
theorem op_field (hT : TabOk P T) (h : Sim F n s a w φ) {t : TypeId} {p : Operand} {f : Nat} {x : V} (hq : (fieldV T t (s.ev p) f).run s.getO = some x) :
    ∃ v, (Instr.field t (a.eval p) f).run P w = .ok v w ∧ Rep w (LiveB F s φ) φ (Born s) x v := by
  have hp := h.ev p
  unfold fieldV dsc at hq
  cases ht : T t with
  | none => simp [ht, Q.run] at hq
  | some ti =>
    obtain ⟨info, d, z, hr⟩ := hT t ti ht
    simp only [ht, Option.map_some] at hq
    split at hq
    · rename_i fs cs hd hv
      injection hd with hd
      obtain ⟨fields, rfl, rfl⟩ := dscOf_struct (hd ▸ hr.dsc)
      rw [hv] at hp
      obtain ⟨arr, k1, k2⟩ := rep_agg hp
      split at hq
      · rename_i off ft bl hj
        split at hq
        · rename_i fi hfi
          obtain ⟨v, m1, m2⟩ := part_ok hT hfi k2 (ofOpt_run hq)
          refine ⟨v, ?_, m2⟩
          simp only [List.getElem?_map, Option.map_eq_some_iff, Prod.mk.injEq] at hj
          obtain ⟨fl, hj, rfl, rfl, _⟩ := hj
          have hj' : fields[f]? = some fl := by simpa using hj
          simp [Instr.field, run_underlying hr.und, hj', k1, asAgg, m1]
        · simp [Q.run] at hq
      · simp [Q.run] at hq
    · simp [Q.run] at hq
theorem op_index (hT : TabOk P T) (h : Sim F n s a w φ) {t : TypeId} {p i : Operand} {x : V} (hq : (indexV T t (s.ev p) (s.ev i)).run s.getO = some x) :
    ∃ v, (Instr.index t (a.eval p) (a.eval i)).run P w = .ok v w ∧ Rep w (LiveB F s φ) φ (Born s) x v := by
  have hp := h.ev p
  have hi := h.ev i
  unfold indexV at hq
  cases ht : T t with
  | none => simp [ht, Q.run] at hq
  | some ti =>
    obtain ⟨info, d, z, hr⟩ := hT t ti ht
    cases hm : idx (s.ev i) with
    | none => simp [ht, hm, Q.run] at hq
    | some m =>
      obtain ⟨kk, hv⟩ := rep_idx hi hm
      simp only [ht, hm] at hq
      split at hq
      · rename_i len e cs hd hcs
        have := dscOf_arr (hd ▸ hr.dsc); subst this
        rw [hcs] at hp
        obtain ⟨arr, k1, k2⟩ := rep_agg hp
        split at hq
        · simp [Q.run] at hq
        · rename_i ei hte
          split at hq
          · rename_i hb
            obtain ⟨infoe, de, ze, hre⟩ := hT e ei hte
            obtain ⟨v, m1, m2⟩ := part_ok hT hte k2 (ofOpt_run hq)
            refine ⟨v, ?_, m2⟩
            simp [Instr.index, hv, asIntOf, run_underlying hr.und, k1, hb, sizeOf, typeInfo, hre.inf, hre.size, m1]
          · simp [Q.run] at hq
      · rename_i str hd hcs
        have := dscOf_str (hd ▸ hr.dsc); subst this
        rw [hcs] at hp
        obtain ⟨hs, _⟩ := rep_val hp
        split at hq
        · rename_i h0
          split at hq
          · rename_i b hb
            simp [Q.run] at hq; subst hq
            refine ⟨.int .u8 b.toNat, ?_, .s (.c (.val rfl))⟩
            simp [Instr.index, hv, hs, asIntOf, run_underlying hr.und, h0, hb]
          · simp [Q.run] at hq
        · simp [Q.run] at hq
      · simp [Q.run] at hq
theorem op_fieldAddr (hT : TabOk P T) (h : Sim F n s a w φ) {t : TypeId} {p : Operand} {f : Nat} {x : V} (hq : (fieldAddrV T t (s.ev p) f).run s.getO = some x) :
    ∃ v, (Instr.fieldAt t (a.eval p) f).run P w = .ok v w ∧ Rep w (LiveB F s φ) φ (Born s) x v := by
  have hp := h.ev p
  unfold fieldAddrV dsc at hq
  cases ht : T t with
  | none => simp [ht, Q.run] at hq
  | some ti =>
    obtain ⟨info, d, z, hr⟩ := hT t ti ht
    simp only [ht, Option.map_some] at hq
    split at hq
    · rename_i fs hd
      injection hd with hd
      obtain ⟨fields, rfl, rfl⟩ := dscOf_struct (hd ▸ hr.dsc)
      split at hq
      · rename_i off ft bl hj
        simp only [List.getElem?_map, Option.map_eq_some_iff, Prod.mk.injEq] at hj
        obtain ⟨fl, hj, rfl, rfl, _⟩ := hj
        have hj' : fields[f]? = some fl := by simpa using hj
        split at hq
        · rename_i fi hfi
          obtain ⟨infof, df, zf, hrf⟩ := hT _ fi hfi
          split at hq
          · simp [Q.run] at hq
          · rename_i hz
            have hrun : ∀ b o, (Instr.fieldAt t (.pointer (some ⟨b, o, none⟩)) f).run P w = .ok (.pointer (some ⟨b, o + fl.offset, none⟩)) w := by
              intro b o
              simp [Instr.fieldAt, run_underlying hr.und, hj', Instr.sureAddr, fieldPlace, sizeOf, typeInfo, hrf.inf, hrf.size, hz, Addr.add_mid]
            split at hq
            · rename_i i o hv
              rw [hv] at hp
              simp only [Q.run] at hq
              cases hob : s.getO i with
              | none => simp [hob] at hq
              | some ob =>
                simp [hob] at hq; subst hq
                obtain ⟨b, base, g1, g2, g3⟩ := h.at_ptr hob hp
                refine ⟨.pointer (some ⟨b, base + o + fl.offset, none⟩), by rw [g2]; exact hrun b (base + o), .s (.ptr (Born.of_getO h.eps hob) rfl fun l hl => ?_)⟩
                rw [g1] at hl; injection hl with hl; subst hl
                exact ⟨b, base, rfl, by rw [Nat.add_assoc]⟩
            · rename_i cells o hv
              rw [hv] at hp
              obtain ⟨b, base, g1, g2, g3⟩ := rep_rp hp
              simp [Q.run] at hq; subst hq
              exact ⟨_, by rw [g1]; exact hrun b (base + o), by rw [Nat.add_assoc]; exact .s (g3 _)⟩
            · simp [Q.run] at hq
        · simp [Q.run] at hq
      · simp [Q.run] at hq
    · simp [Q.run] at hq
theorem Sim.at_sref (h : Sim F n s a w φ) {i : Id} {o : Ob} (ho : s.getO i = some o) {off len sz : Nat} {v : Value} (hr : Rep w L φ B (.sref i off len sz) v) :
    ∃ l, φ i = some l ∧ SrefOk w l off len sz v ∧ (∀ b base, l = .at b base → ObAt w (LiveB F s φ) φ (Born s) b base o.cells ∧ b < w.heap.size) ∧ (l = .empty → o.row = true ∧ o.cells = []) := by
  cases rep_single hr rfl with
  | c h => cases h
  | sref hb h1 hv =>
    rcases h.objs i o ho with ⟨b, base, g1, g2, g3, g4, g5⟩ | ⟨g1, g2, g3⟩
    · exact ⟨_, g1, hv _ g1, fun b' base' e => by injection e with e1 e2; subst e1; subst e2; exact ⟨g5, g2⟩, fun e => by simp at e⟩
    · exact ⟨_, g1, hv _ g1, fun b' base' e => by simp at e, fun _ => ⟨g2, g3⟩⟩
theorem rep_ro {sz len : Nat} {cells : List V} {v : Value} (h : Rep w L φ B (.ro sz len cells) v) :
    (∃ (b base cap : Nat) (f : Nat → Value), v = .slice (some ⟨b, base, none⟩) len cap ∧ len ≤ cap ∧ cells.length = len * sz ∧ ¬ L b ∧ b < w.heap.size ∧
      (∀ (j : Nat) (x : V), cells[j]? = some x → w.cell? ⟨b, base + j, none⟩ = some (f j)) ∧ (∀ (j : Nat) (x : V), cells[j]? = some x → RepC w L x (f j))) ∨
    (len = 0 ∧ cells = [] ∧ ∃ A cap, v = .slice A 0 cap) := by
  cases rep_single h rfl with
  | c h => cases h with
    | ro f hle hl hb hs hc hr => exact .inl ⟨_, _, _, f, rfl, hle, hl, hb, hs, hc, hr⟩
    | ro0 _ A cap => exact .inr ⟨rfl, rfl, A, cap, rfl⟩
theorem run_indexSlice {t e : TypeId} {b o len cap : Nat} {k : IntKind} {m : Int} {size : Nat} {info : TypeInfo} (hu : P.underlying t = some (.slice e)) (hi : P.info? e = some info) (hs : info.size = size)
    (h0 : 0 ≤ m) (h1 : m < (len : Int)) :
    (Instr.indexAt t (.slice (some ⟨b, o, none⟩) len cap) (.int k m)).run P w = .ok (.pointer (some ⟨b, o + m.toNat * size, none⟩)) w := by
  simp [Instr.indexAt, asIntOf, run_underlying hu, h0, h1, sizeOf, typeInfo, hi, hs, Addr.add_mid]
theorem run_indexArr {t e : TypeId} {b o : Nat} {len : Nat} {k : IntKind} {m : Int} {size : Nat} {info : TypeInfo} (hu : P.underlying t = some (.array len e)) (hi : P.info? e = some info) (hs : info.size = size)
    (h0 : 0 ≤ m) (h1 : m < (len : Int)) :
    (Instr.indexAt t (.pointer (some ⟨b, o, none⟩)) (.int k m)).run P w = .ok (.pointer (some ⟨b, o + m.toNat * size, none⟩)) w := by
  simp [Instr.indexAt, asIntOf, run_underlying hu, Instr.sureAddr, h0, h1, sizeOf, typeInfo, hi, hs, Addr.add_mid]
theorem op_indexAddr (hT : TabOk P T) (h : Sim F n s a w φ) {t : TypeId} {p i : Operand} {x : V} (hq : (indexAddrV T t (s.ev p) (s.ev i)).run s.getO = some x) :
    ∃ v, (Instr.indexAt t (a.eval p) (a.eval i)).run P w = .ok v w ∧ Rep w (LiveB F s φ) φ (Born s) x v := by
  have hp := h.ev p
  have hi := h.ev i
  unfold indexAddrV at hq
  cases ht : T t with
  | none => simp [ht, Q.run] at hq
  | some ti =>
    obtain ⟨info, d, z, hr⟩ := hT t ti ht
    cases hm : idx (s.ev i) with
    | none => simp [ht, hm, Q.run] at hq
    | some m =>
      obtain ⟨kk, hv⟩ := rep_idx hi hm
      simp only [ht, hm] at hq
      split at hq
      · rename_i e hd
        have := dscOf_slice (hd ▸ hr.dsc); subst this
        split at hq
        · simp [Q.run] at hq
        · rename_i ei hte
          obtain ⟨infoe, de, ze, hre⟩ := hT e ei hte
          split at hq
          · rename_i i off len sz hx
            rw [hx] at hp
            split at hq
            · rename_i hb
              split at hq
              · rename_i hsz
                simp only [Q.run] at hq
                cases hob : s.getO i with
                | none => simp [hob] at hq
                | some ob =>
                  simp [hob] at hq; subst hq
                  obtain ⟨l, g1, g2, g3, _⟩ := h.at_sref hob hp
                  cases l with
                  | empty => obtain ⟨_, g5, _⟩ := g2; omega
                  | «at» b base =>
                    obtain ⟨cap, c1, c2⟩ := g2
                    rcases c2 with ⟨c2, _⟩ | ⟨c2, c3⟩
                    · omega
                    · refine ⟨_, by rw [c2, hv]; exact run_indexSlice hr.und hre.inf hre.size hb.1 hb.2, .s (.ptr (Born.of_getO h.eps hob) rfl fun l hl => ?_)⟩
                      rw [g1] at hl; injection hl with hl; subst hl
                      exact ⟨b, base, rfl, by rw [← hsz, Nat.add_assoc]⟩
              · simp [Q.run] at hq
            · simp [Q.run] at hq
          · rename_i sz len cells hx
            rw [hx] at hp
            split at hq
            · rename_i hb
              split at hq
              · rename_i hsz
                simp [Q.run] at hq; subst hq
                rcases rep_ro hp with ⟨b, base, cap, f, g1, g2, g3, g4, g5, g6, g7⟩ | ⟨g1, _⟩
                · refine ⟨_, by rw [g1, hv]; exact run_indexSlice hr.und hre.inf hre.size hb.1 hb.2, ?_⟩
                  rw [← hsz]
                  exact .s (.rp f g4 g5 g6 g7)
                · omega
              · simp [Q.run] at hq
            · simp [Q.run] at hq
          · simp [Q.run] at hq
      · rename_i len e hd
        have := dscOf_arr (hd ▸ hr.dsc); subst this
        split at hq
        · simp [Q.run] at hq
        · rename_i ei hte
          obtain ⟨infoe, de, ze, hre⟩ := hT e ei hte
          split at hq
          · rename_i i off hx
            rw [hx] at hp
            split at hq
            · rename_i hb
              simp only [Q.run] at hq
              cases hob : s.getO i with
              | none => simp [hob] at hq
              | some ob =>
                simp [hob] at hq; subst hq
                obtain ⟨b, base, g1, g2, g3⟩ := h.at_ptr hob hp
                refine ⟨_, by rw [g2, hv]; exact run_indexArr hr.und hre.inf hre.size hb.1 hb.2, .s (.ptr (Born.of_getO h.eps hob) rfl fun l hl => ?_)⟩
                rw [g1] at hl; injection hl with hl; subst hl
                exact ⟨b, base, rfl, by rw [Nat.add_assoc]⟩
            · simp [Q.run] at hq
          · rename_i cells off hx
            rw [hx] at hp
            split at hq
            · rename_i hb
              obtain ⟨b, base, g1, g2, g3⟩ := rep_rp hp
              simp [Q.run] at hq; subst hq
              exact ⟨_, by rw [g1, hv]; exact run_indexArr hr.und hre.inf hre.size hb.1 hb.2, by rw [Nat.add_assoc]; exact .s (g3 _)⟩
            · simp [Q.run] at hq
          · simp [Q.run] at hq
      · simp [Q.run] at hq
end Go.Ab
set_option linter.unusedSimpArgs false
set_option linter.unusedVariables false
namespace Go.Ab
variable {P : Program} {T : Tab} {F : Fr} {n : Nat} {s : St} {a : Act} {w w' : World} {φ φ' : Id → Option Loc} {L : Nat → Prop} {B : Id → Prop}
theorem rep_nils {v : Value} (h : Rep w L φ B .nils v) : v = .slice none 0 0 := by
  cases rep_single h rfl with
  | c h => cases h; rfl
theorem bd_ok (h : Sim F n s a w φ) {o : Option Operand} {dflt most m : Nat} (hq : sliceBd (o.map s.ev) dflt most = some m) (code : BoundsCode) {most' : Nat} (hm : most ≤ most') :
    (o = none ∧ m = dflt) ∨ (∃ p k, o = some p ∧ a.eval p = .int k m ∧ m ≤ most ∧ (Instr.sliceBound (.int k m) most' code).run P w = .ok m w) := by
  cases o with
  | none => simp [sliceBd] at hq; exact .inl ⟨rfl, hq.symm⟩
  | some p =>
    simp only [Option.map_some, sliceBd] at hq
    cases hi : idx (s.ev p) with
    | none => simp [hi] at hq
    | some q =>
      obtain ⟨k, hv⟩ := rep_idx (h.ev p) hi
      simp only [hi] at hq
      split at hq
      · rename_i hb
        injection hq with hq
        have hq' : q = (m : Int) := by omega
        subst hq'
        refine .inr ⟨p, k, rfl, hv, by omega, ?_⟩
        simp [Instr.sliceBound, asIntOf, show ((m : Int) ≤ (most' : Int)) by omega]
      · simp at hq
theorem bounds_ok (h : Sim F n s a w φ) {lo hi : Option Operand} {len cap l hh : Nat} (hlc : len ≤ cap) (h1 : sliceBd (hi.map s.ev) len len = some hh) (h2 : sliceBd (lo.map s.ev) 0 hh = some l) (sl : Bool) :
    (Instr.sliceBounds sl len cap (lo.map a.eval) (hi.map a.eval) none).run P w = .ok (l, hh, cap) w ∧ l ≤ hh ∧ hh ≤ len := by
  have e1 := bd_ok (P := P) h h1 (if sl then .sliceAcap else .sliceAlen) hlc
  have e2 := bd_ok (P := P) h h2 .sliceB (Nat.le_refl _)
  have hl1 : hh ≤ len := by rcases e1 with ⟨_, rfl⟩ | ⟨_, _, _, _, h, _⟩ <;> omega
  have hl2 : l ≤ hh := by rcases e2 with ⟨_, rfl⟩ | ⟨_, _, _, _, h, _⟩ <;> omega
  refine ⟨?_, hl2, hl1⟩
  rcases e1 with ⟨rfl, rfl⟩ | ⟨p, k, rfl, hp, _, hr⟩ <;> rcases e2 with ⟨rfl, rfl⟩ | ⟨p', k', rfl, hp', _, hr'⟩ <;>
    simp_all [Instr.sliceBounds]
theorem mul_part {c l z : Nat} (h : l ≤ c) : l * z + (c - l) * z = c * z := by rw [← Nat.add_mul]; congr 1; omega
theorem op_slice (hT : TabOk P T) (h : Sim F n s a w φ) {t : TypeId} {p : Operand} {lo hi mx : Option Operand} {x : V}
    (hq : (sliceV T t (s.ev p) (lo.map s.ev) (hi.map s.ev) (mx.map s.ev)).run s.getO = some x) :
    ∃ v, (Instr.sliceAt t (a.eval p) (lo.map a.eval) (hi.map a.eval) (mx.map a.eval)).run P w = .ok v w ∧ Rep w (LiveB F s φ) φ (Born s) x v := by
  have hp := h.ev p
  cases mx with
  | some m => simp [sliceV, Q.run] at hq
  | none =>
  simp only [Option.map_none] at hq ⊢
  unfold sliceV at hq
  cases ht : T t with
  | none => simp [ht, Q.run] at hq
  | some ti =>
    obtain ⟨info, d, z, hr⟩ := hT t ti ht
    simp only [ht] at hq
    split at hq
    · rename_i str hd hx
      have := dscOf_str (hd ▸ hr.dsc); subst this
      rw [hx] at hp
      obtain ⟨hs, _⟩ := rep_val hp
      split at hq
      · simp [Q.run] at hq
      · rename_i hh h1
        split at hq
        · simp [Q.run] at hq
        · rename_i l h2
          simp [Q.run] at hq; subst hq
          obtain ⟨k1, k2, k3⟩ := bounds_ok (P := P) h (Nat.le_refl _) h1 h2 false
          refine ⟨.string (str.extract l hh), ?_, .s (.c (.val rfl))⟩
          simp [Instr.sliceAt, Instr.slice, run_underlying hr.und, hs, k1]
    · rename_i e hd hx
      have := dscOf_slice (hd ▸ hr.dsc); subst this
      rw [hx] at hp
      have hv := rep_nils hp
      split at hq
      · simp [Q.run] at hq
      · rename_i hh h1
        split at hq
        · simp [Q.run] at hq
        · rename_i l h2
          simp [Q.run] at hq; subst hq
          obtain ⟨k1, k2, k3⟩ := bounds_ok (P := P) h (Nat.le_refl _) h1 h2 true
          obtain ⟨infoe, hie⟩ : ∃ i, P.info? e = some i := hr.elt e rfl
          have : hh = 0 := by omega
          subst this
          have : l = 0 := by omega
          subst this
          exact ⟨.slice none 0 0, by simp [Instr.sliceAt, Instr.slice, run_underlying hr.und, hv, k1, sizeOf, typeInfo, hie], .s (.c .nils)⟩
    · rename_i e sz len cells hd hx
      have := dscOf_slice (hd ▸ hr.dsc); subst this
      rw [hx] at hp
      split at hq
      · simp [Q.run] at hq
      · rename_i ei hte
        obtain ⟨infoe, de, ze, hre⟩ := hT e ei hte
        split at hq
        · rename_i hsz
          split at hq
          · simp [Q.run] at hq
          · rename_i hh h1
            split at hq
            · simp [Q.run] at hq
            · rename_i l h2
              simp [Q.run] at hq; subst hq
              rcases rep_ro hp with ⟨b, base, cap, f, g1, g2, g3, g4, g5, g6, g7⟩ | ⟨rfl, rfl, A, cap, g1⟩
              · obtain ⟨k1, k2, k3⟩ := bounds_ok (P := P) h g2 h1 h2 true
                refine ⟨_, by rw [g1]; simp [Instr.sliceAt, Instr.slice, run_underlying hr.und, k1, sizeOf, typeInfo, hre.inf]; rfl, .s (.c ?_)⟩
                by_cases h0 : hh - l = 0
                · rw [h0]; simp only [Nat.zero_mul, List.take_zero]; exact .ro0 _ _ _
                · have hne : cap ≠ l := by omega
                  rw [if_neg hne, Addr.add_mid, hre.size, ← hsz]
                  have hm1 : l * sz + (hh - l) * sz = hh * sz := mul_part k2
                  have hm2 : hh * sz ≤ len * sz := Nat.mul_le_mul_right _ k3
                  have hlen : ((cells.drop (l * sz)).take ((hh - l) * sz)).length = (hh - l) * sz := by simp; omega
                  have hget : ∀ j x, ((cells.drop (l * sz)).take ((hh - l) * sz))[j]? = some x → cells[l * sz + j]? = some x := by
                    intro j x hx
                    rw [List.getElem?_take] at hx
                    split at hx
                    · rwa [List.getElem?_drop] at hx
                    · simp at hx
                  exact .ro (fun j => f (l * sz + j)) (by omega) hlen g4 g5 (fun j x hx => by rw [Nat.add_assoc]; exact g6 _ x (hget j x hx)) fun j x hx => g7 _ x (hget j x hx)
              · obtain ⟨k1, k2, k3⟩ := bounds_ok (P := P) h (Nat.zero_le cap) h1 h2 true
                have : hh = 0 := by omega
                subst this
                have : l = 0 := by omega
                subst this
                refine ⟨_, by rw [g1]; simp [Instr.sliceAt, Instr.slice, run_underlying hr.und, k1, sizeOf, typeInfo, hre.inf]; rfl, .s (.c ?_)⟩
                simp
                exact .ro0 _ _ _
        · simp [Q.run] at hq
    · rename_i e i off len sz hd hx
      have := dscOf_slice (hd ▸ hr.dsc); subst this
      rw [hx] at hp
      split at hq
      · simp [Q.run] at hq
      · rename_i ei hte
        obtain ⟨infoe, de, ze, hre⟩ := hT e ei hte
        split at hq
        · rename_i hsz
          split at hq
          · simp [Q.run] at hq
          · rename_i hh h1
            split at hq
            · simp [Q.run] at hq
            · rename_i l h2
              simp only [Q.run] at hq
              cases hob : s.getO i with
              | none => simp [hob] at hq
              | some ob =>
                simp [hob] at hq; subst hq
                obtain ⟨lc, g1, g2, g3, _⟩ := h.at_sref hob hp
                have hzero : ∀ A : Option Addr, a.eval p = .slice A 0 0 → len = 0 → hh = 0 ∧ l = 0 ∧
                    (Instr.sliceAt t (a.eval p) (lo.map a.eval) (hi.map a.eval) none).run P w = .ok (.slice A 0 0) w := by
                  intro A hA h0
                  subst h0
                  obtain ⟨k1, k2, k3⟩ := bounds_ok (P := P) h (Nat.le_refl 0) h1 h2 true
                  have : hh = 0 := by omega
                  subst this
                  have : l = 0 := by omega
                  subst this
                  exact ⟨rfl, rfl, by rw [hA]; simp [Instr.sliceAt, Instr.slice, run_underlying hr.und, k1, sizeOf, typeInfo, hre.inf]⟩
                cases lc with
                | empty =>
                  obtain ⟨rfl, rfl, A, hA⟩ := g2
                  obtain ⟨rfl, rfl, hrun⟩ := hzero A hA rfl
                  refine ⟨_, hrun, .s (.sref (Born.of_getO h.eps hob) rfl fun l hl => ?_)⟩
                  rw [g1] at hl; injection hl with hl; subst hl
                  exact ⟨by simp, by simp, A, rfl⟩
                | «at» b base =>
                  obtain ⟨cap, c1, c2⟩ := g2
                  rcases c2 with ⟨rfl, rfl, A, hA⟩ | ⟨c2, arr, e', c3, c4⟩
                  · obtain ⟨rfl, rfl, hrun⟩ := hzero (some A) hA rfl
                    refine ⟨_, hrun, .s (.sref (Born.of_getO h.eps hob) rfl fun l hl => ?_)⟩
                    rw [g1] at hl; injection hl with hl; subst hl
                    exact ⟨0, by simp, .inl ⟨by simp, rfl, A, rfl⟩⟩
                  · obtain ⟨k1, k2, k3⟩ := bounds_ok (P := P) h c1 h1 h2 true
                    refine ⟨_, by rw [c2]; simp [Instr.sliceAt, Instr.slice, run_underlying hr.und, k1, sizeOf, typeInfo, hre.inf]; rfl, .s (.sref (Born.of_getO h.eps hob) rfl fun l' hl => ?_)⟩
                    rw [g1] at hl; injection hl with hl; subst hl
                    by_cases hcl : cap = l
                    · refine ⟨0, by omega, .inl ⟨by omega, rfl, ⟨b, base + off, none⟩, ?_⟩⟩
                      rw [if_pos hcl]
                      congr 1 <;> omega
                    · refine ⟨cap - l, by omega, .inr ⟨?_, arr, e', c3, ?_⟩⟩
                      · rw [if_neg hcl, Addr.add_mid, hre.size, ← hsz]
                        simp only [Nat.add_assoc]
                      · have := mul_part (c := cap) (l := l) (z := sz) (by omega)
                        omega
        · simp [Q.run] at hq
    · rename_i m e i off hd hx
      have := dscOf_arr (hd ▸ hr.dsc); subst this
      rw [hx] at hp
      split at hq
      · simp [Q.run] at hq
      · rename_i ei hte
        obtain ⟨infoe, de, ze, hre⟩ := hT e ei hte
        split at hq
        · simp [Q.run] at hq
        · rename_i hh h1
          split at hq
          · simp [Q.run] at hq
          · rename_i l h2
            simp only [Q.run] at hq
            cases hob : s.getO i with
            | none => simp [hob] at hq
            | some ob =>
              simp only [hob] at hq
              split at hq
              · rename_i hfit
                simp [Q.run] at hq; subst hq
                obtain ⟨b, base, g1, g2, g3⟩ := h.at_ptr hob hp
                obtain ⟨k1, k2, k3⟩ := bounds_ok (P := P) h (Nat.le_refl m) h1 h2 false
                obtain ⟨arr, e', g4, g5, g6⟩ := g3
                refine ⟨_, by rw [g2]; simp [Instr.sliceAt, run_underlying hr.und, Instr.sureAddr, k1, sizeOf, typeInfo, hre.inf]; rfl, .s (.sref (Born.of_getO h.eps hob) rfl fun l' hl => ?_)⟩
                rw [g1] at hl; injection hl with hl; subst hl
                by_cases hcl : m = l
                · refine ⟨0, by omega, .inl ⟨by omega, rfl, ⟨b, base + off, none⟩, ?_⟩⟩
                  rw [if_pos hcl]
                  congr 1 <;> omega
                · refine ⟨m - l, by omega, .inr ⟨?_, arr, e', g4, ?_⟩⟩
                  · rw [if_neg hcl, Addr.add_mid, hre.size]
                    simp only [Nat.add_assoc]
                  · have := mul_part (c := m) (l := l) (z := ei.size) (by omega)
                    omega
              · simp [Q.run] at hq
    · simp [Q.run] at hq
/-! ### numbers -/
theorem run_intDiv_quo {k : IntKind} {x y : Int} (h : y ≠ 0) : (Op.intDiv .quo k x y).run P w = .ok (.int k (k.wrap (x.tdiv y))) w := by simp [Op.intDiv, h]
theorem run_intDiv_rem {k : IntKind} {x y : Int} (h : y ≠ 0) : (Op.intDiv .rem k x y).run P w = .ok (.int k (x.tmod y)) w := by simp [Op.intDiv, h]
theorem beq_dec (a b : Int) : (a == b) = decide (a = b) := by by_cases h : a = b <;> simp [h]
theorem binI_ok {op : BinOp} {k : IntKind} {x y : Int} {v : Value} {t : TypeId} (h : binI op k x y = some v) : (binOp op t (.int k x) (.int k y)).run P w = .ok v w := by
  cases op <;> simp only [binI] at h <;> try (simp at h; done)
  all_goals first
    | (split at h
       · simp at h
       · injection h with h; subst h; simp [binOp, Op.intDiv, *])
    | (injection h with h; subst h; simp [binOp, Op.intArith, Op.intCmp, intBits_and, intBits_or, intBits_xor, intBits_andNot, beq_dec, bne]; done)
    | skip
theorem shiftI_ok {op : BinOp} {k k' : IntKind} {x y : Int} {v : Value} {t : TypeId} (ho : op = .shl ∨ op = .shr) (h : shiftI op k x y = some v) :
    (binOp op t (.int k x) (.int k' y)).run P w = .ok v w := by
  rcases ho with rfl | rfl <;> (unfold shiftI at h; split at h; · simp at h) <;> (rename_i h0; simp at h; subst h; simp [binOp, Op.shift, h0])
theorem binS_ok {op : BinOp} {x y : ByteArray} {v : Value} {t : TypeId} (h : binS op x y = some v) : (binOp op t (.string x) (.string y)).run P w = .ok v w := by
  cases op <;> simp only [binS] at h <;> try (simp at h; done)
  all_goals first
    | (injection h with h; subst h; simp [binOp, Op.stringOp]; done)
    | (split at h
       · rename_i hle
         injection h with h; subst h
         have : ¬ ((x.size + y.size : Nat) : Int) > IntKind.i64.max := by
           have : IntKind.i64.max = 9223372036854775807 := by decide
           omega
         simp only [binOp, Op.stringOp]
         rw [if_neg this]; rfl
       · simp at h)
end Go.Ab
set_option linter.unusedSimpArgs false
set_option linter.unusedVariables false
namespace Go.Ab
variable {P : Program} {T : Tab} {F : Fr} {n : Nat} {s : St} {a : Act} {w w' : World} {φ φ' : Id → Option Loc} {L : Nat → Prop} {B : Id → Prop}
theorem eqFs_ok (hT : TabOk P T) {d D : Nat} (ih : ∀ (t : TypeId) (x y : V) (u v : Value) (r : Bool), eqT T d t x y = some r → Rep w L φ B x u → Rep w L φ B y v → (Op.equalIn D t u v).run P w = .ok r w) :
    ∀ (fs : List Field) (xs ys : List V) (us vs : Array Value) (r : Bool), eqFs T (eqT T d) (fs.map fun f => (f.offset, f.type, f.name == "_")) xs ys = some r →
      CR w L φ B xs us.toList → CR w L φ B ys vs.toList → (Op.eqFields D us vs fs).run P w = .ok r w
  | [], xs, ys, us, vs, r, h, _, _ => by simp [eqFs] at h; subst h; simp [Op.eqFields]
  | f :: fs, xs, ys, us, vs, r, h, hx, hy => by
    simp only [List.map_cons, eqFs] at h
    cases hb : (f.name == "_") with
    | true => simp [hb] at h
    | false =>
      simp only [hb, Bool.false_eq_true, if_false] at h
      have hne : f.name ≠ "_" := by simpa using hb
      cases hft : T f.type with
      | none => simp [hft] at h
      | some fi =>
        simp only [hft] at h
        split at h
        · rename_i p q hp hq
          split at h
          · rename_i r1 r2 h1 h2
            injection h with h; subst h
            obtain ⟨u1, e1, k1⟩ := part_ok hT hft hx hp
            obtain ⟨v1, e2, k2⟩ := part_ok hT hft hy hq
            have e3 := ih f.type p q u1 v1 r1 h1 k1 k2
            have e4 := eqFs_ok hT ih fs xs ys us vs r2 h2 hx hy
            cases r1 <;> simp [Op.eqFields, hne, e1, e2, e3, e4]
          · simp at h
        · simp at h
theorem eqAs_ok (hT : TabOk P T) {d D : Nat} {e : TypeId} {ei : TI} (he : T e = some ei) (ih : ∀ (t : TypeId) (x y : V) (u v : Value) (r : Bool), eqT T d t x y = some r → Rep w L φ B x u → Rep w L φ B y v → (Op.equalIn D t u v).run P w = .ok r w) :
    ∀ (m j : Nat) (xs ys : List V) (us vs : Array Value) (r : Bool), eqAs (eqT T d e) ei.size ei.d.agg m j xs ys = some r →
      CR w L φ B xs us.toList → CR w L φ B ys vs.toList → (Op.eqItems D e ei.size us vs (List.range' j m)).run P w = .ok r w
  | 0, j, xs, ys, us, vs, r, h, _, _ => by simp [eqAs] at h; subst h; simp [Op.eqItems]
  | m + 1, j, xs, ys, us, vs, r, h, hx, hy => by
    simp only [eqAs] at h
    split at h
    · rename_i p q hp hq
      split at h
      · rename_i r1 r2 h1 h2
        injection h with h; subst h
        obtain ⟨u1, e1, k1⟩ := part_ok hT he hx hp
        obtain ⟨v1, e2, k2⟩ := part_ok hT he hy hq
        have e3 := ih e p q u1 v1 r1 h1 k1 k2
        have e4 := eqAs_ok hT he ih m (j + 1) xs ys us vs r2 h2 hx hy
        cases r1 <;> simp [Op.eqItems, List.range'_succ, e1, e2, e3, e4]
      · simp at h
    · simp at h
theorem eqT_ok (hT : TabOk P T) : ∀ (d D : Nat) (t : TypeId) (x y : V) (u v : Value) (r : Bool), d ≤ D → eqT T d t x y = some r → Rep w L φ B x u → Rep w L φ B y v →
    (Op.equalIn D t u v).run P w = .ok r w
  | 0, D, t, x, y, u, v, r, _, h, _, _ => by simp [eqT] at h
  | d + 1, 0, t, x, y, u, v, r, hd, h, _, _ => by omega
  | d + 1, D + 1, t, x, y, u, v, r, hd, h, hx, hy => by
    have ih := fun (t : TypeId) (x y : V) (u v : Value) (r : Bool) => eqT_ok hT d D t x y u v r (by omega)
    unfold eqT at h
    cases ht : T t with
    | none => simp [ht] at h
    | some ti =>
      obtain ⟨info, de, z, hr⟩ := hT t ti ht
      simp only [ht] at h
      split at h
      · rename_i p q hdd
        have := dscOf_bool (hdd ▸ hr.dsc); subst this
        injection h with h; subst h
        rw [(rep_val hx).1, (rep_val hy).1]
        exact run_equalIn_bool' w D t p q hr.und
      · rename_i k0 k p k' q hdd
        have := dscOf_int (hdd ▸ hr.dsc); subst this
        split at h
        · rename_i hk
          injection h with h; subst h; subst hk
          rw [(rep_val hx).1, (rep_val hy).1, ← beq_dec]
          exact run_equalIn_int w D t k k0 p q hr.und
        · simp at h
      · rename_i p q hdd
        have := dscOf_str (hdd ▸ hr.dsc); subst this
        injection h with h; subst h
        rw [(rep_val hx).1, (rep_val hy).1]
        exact run_equalIn_string w D t p q hr.und
      · rename_i fs xs ys hdd
        obtain ⟨fields, rfl, rfl⟩ := dscOf_struct (hdd ▸ hr.dsc)
        obtain ⟨us, rfl, hus⟩ := rep_agg hx
        obtain ⟨vs, rfl, hvs⟩ := rep_agg hy
        have hf : P.fieldsOf t = fields := by simp [Program.fieldsOf, hr.und]
        rw [run_equalIn_struct w D t us vs (by rw [hf]; exact hr.und) (hr.stood (by simp [hdd, Dsc.agg])), hf]
        exact eqFs_ok hT ih fields.toList xs ys us vs r h hus hvs
      · rename_i m e xs ys hdd
        have := dscOf_arr (hdd ▸ hr.dsc); subst this
        obtain ⟨us, rfl, hus⟩ := rep_agg hx
        obtain ⟨vs, rfl, hvs⟩ := rep_agg hy
        split at h
        · rename_i ei he
          obtain ⟨infoe, dee, ze, hre⟩ := hT e ei he
          rw [run_equalIn_array w D us vs hr.und hre.inf, show P.cellsOf e = ei.size by simp [Program.cellsOf, hre.inf, hre.size], List.range_eq_range']
          exact eqAs_ok hT he ih m 0 xs ys us vs r h hus hvs
        · simp at h
      · simp at h
theorem run_eqGuard_plain {op : BinOp} {t : TypeId} {x y : Operand} {u v : Value} (h : (∀ cs, u ≠ .agg cs) ∧ u ≠ .nilIface) : (eqGuard op t x y u v).run P w = .ok () w := by
  unfold eqGuard
  cases u <;> simp at h <;> cases op <;> simp
theorem op_bin (hT : TabOk P T) (h : Sim F n s a w φ) {op : BinOp} {t : TypeId} {p q : Operand} {x : V} (hq : binV T op t (s.ev p) (s.ev q) = some x) :
    ∃ v, (do eqGuard op t p q (a.eval p) (a.eval q); binOp op t (a.eval p) (a.eval q) : Sem Value).run P w = .ok v w ∧ Rep w (LiveB F s φ) φ (Born s) x v := by
  have hx := h.ev p
  have hy := h.ev q
  unfold binV at hq
  split at hq
  · rename_i k m k' m' e1 e2
    rw [e1] at hx; rw [e2] at hy
    have e3 := (rep_val hx).1
    have e4 := (rep_val hy).1
    have hg : (eqGuard op t p q (a.eval p) (a.eval q)).run P w = .ok () w := by rw [e3]; exact run_eqGuard_plain ⟨fun _ => by simp, by simp⟩
    simp only [Sem.run_bind, hg, Result.andThen_ok]
    rw [e3, e4]
    split at hq
    · rw [Option.map_eq_some_iff] at hq
      obtain ⟨v, hv, rfl⟩ := hq
      refine ⟨v, shiftI_ok (.inl rfl) hv, .s (.c (.val ?_))⟩
      unfold shiftI at hv; split at hv
      · simp at hv
      · simp at hv; subst hv; rfl
    · rw [Option.map_eq_some_iff] at hq
      obtain ⟨v, hv, rfl⟩ := hq
      refine ⟨v, shiftI_ok (.inr rfl) hv, .s (.c (.val ?_))⟩
      unfold shiftI at hv; split at hv
      · simp at hv
      · simp at hv; subst hv; rfl
    · split at hq
      · rename_i hk; subst hk
        rw [Option.map_eq_some_iff] at hq
        obtain ⟨v, hv, rfl⟩ := hq
        refine ⟨v, binI_ok hv, .s (.c (.val ?_))⟩
        cases op <;> simp only [binI] at hv <;> first
          | (simp at hv; done)
          | (split at hv
             · simp at hv
             · injection hv with hv; subst hv; rfl)
          | (injection hv with hv; subst hv; rfl)
      · simp at hq
  · rename_i m m' e1 e2
    rw [e1] at hx; rw [e2] at hy
    have e3 := (rep_val hx).1
    have e4 := (rep_val hy).1
    have hg : (eqGuard op t p q (a.eval p) (a.eval q)).run P w = .ok () w := by rw [e3]; exact run_eqGuard_plain ⟨fun _ => by simp, by simp⟩
    simp only [Sem.run_bind, hg, Result.andThen_ok]
    rw [e3, e4]
    rw [Option.map_eq_some_iff] at hq
    obtain ⟨v, hv, rfl⟩ := hq
    refine ⟨v, binS_ok hv, .s (.c (.val ?_))⟩
    cases op <;> simp only [binS] at hv <;> first
      | (simp at hv; done)
      | (split at hv
         · injection hv with hv; subst hv; rfl
         · simp at hv)
      | (injection hv with hv; subst hv; rfl)
  · rename_i m m' e1 e2
    rw [e1] at hx; rw [e2] at hy
    have e3 := (rep_val hx).1
    have e4 := (rep_val hy).1
    have hg : (eqGuard op t p q (a.eval p) (a.eval q)).run P w = .ok () w := by rw [e3]; exact run_eqGuard_plain ⟨fun _ => by simp, by simp⟩
    simp only [Sem.run_bind, hg, Result.andThen_ok]
    rw [e3, e4]
    unfold dsc at hq
    cases ht : T t with
    | none => simp [ht] at hq
    | some ti =>
      obtain ⟨info, d, z, hr⟩ := hT t ti ht
      simp only [ht, Option.map_some] at hq
      split at hq
      · rename_i hd
        injection hd with hd
        have := dscOf_bool (hd ▸ hr.dsc); subst this
        injection hq with hq; subst hq
        exact ⟨_, run_eql_bool w t m m' hr.und, .s (.c (.val rfl))⟩
      · rename_i hd
        injection hd with hd
        have := dscOf_bool (hd ▸ hr.dsc); subst this
        injection hq with hq; subst hq
        exact ⟨_, run_neq_bool w t m m' hr.und, .s (.c (.val rfl))⟩
      · simp at hq
  · rename_i xs ys e1 e2
    rw [e1] at hx; rw [e2] at hy
    have hagg : ∀ r, eqT T 20 t (.agg xs) (.agg ys) = some r → P.eqGuardType P.depth t = false := by
      intro r hr
      unfold eqT at hr
      cases ht : T t with
      | none => simp [ht] at hr
      | some ti =>
        obtain ⟨info, d, z, hrow⟩ := hT t ti ht
        simp only [ht] at hr
        refine hrow.guard ?_
        split at hr <;> simp_all [Dsc.agg]
    obtain ⟨us, e3, _⟩ := rep_agg hx
    obtain ⟨vs, e4, _⟩ := rep_agg hy
    split at hq
    · rw [Option.map_eq_some_iff] at hq
      obtain ⟨r, hr, rfl⟩ := hq
      have := eqT_ok (P := P) hT 20 10000 t _ _ _ _ r (by omega) hr hx hy
      rw [e3, e4] at this ⊢
      refine ⟨.bool r, ?_, .s (.c (.val rfl))⟩
      rw [Sem.run_bind, run_eqGuard_agg w _ t p q us vs (hagg r hr), Result.andThen_ok, run_eql_struct, this]; rfl
    · rw [Option.map_eq_some_iff] at hq
      obtain ⟨r, hr, rfl⟩ := hq
      have := eqT_ok (P := P) hT 20 10000 t _ _ _ _ r (by omega) hr hx hy
      rw [e3, e4] at this ⊢
      refine ⟨.bool (!r), ?_, .s (.c (.val rfl))⟩
      rw [Sem.run_bind, run_eqGuard_agg w _ t p q us vs (hagg r hr), Result.andThen_ok, run_neq_struct, this]; rfl
    · simp at hq
  · simp at hq
theorem op_un (h : Sim F n s a w φ) {op : UnOp} {p : Operand} {x : V} (hq : unV op (s.ev p) = some x) :
    ∃ v, (Op.unary op (a.eval p)).run P w = .ok v w ∧ Rep w (LiveB F s φ) φ (Born s) x v := by
  have hx := h.ev p
  unfold unV at hq
  split at hq
  · rename_i k m e
    rw [e] at hx; rw [(rep_val hx).1]
    injection hq with hq; subst hq
    exact ⟨.int k (k.wrap (0 - m)), by simp [Op.unary, Op.intArith], .s (.c (.val rfl))⟩
  · rename_i k m e
    rw [e] at hx; rw [(rep_val hx).1]
    injection hq with hq; subst hq
    exact ⟨.int k (bits .xor k (if k.signed then -1 else k.max) m), by simp [Op.unary, intBits_xor], .s (.c (.val rfl))⟩
  · rename_i m e
    rw [e] at hx; rw [(rep_val hx).1]
    injection hq with hq; subst hq
    exact ⟨.bool (!m), by simp [Op.unary], .s (.c (.val rfl))⟩
  · simp at hq
theorem strOf_ok : ∀ (cs : List V) (l : List UInt8) (vs : List Value), strOf cs = some l → cs.length = vs.length →
    (∀ (j : Nat) (x : V) (v : Value), cs[j]? = some x → vs[j]? = some v → RepS w L φ B x v) → ∃ ns : List Int, vs = ns.map (Value.int .u8) ∧ l = ns.map fun m => UInt8.ofNat m.toNat
  | [], l, [], h, _, _ => by simp [strOf] at h; subst h; exact ⟨[], rfl, rfl⟩
  | [], l, _ :: _, h, hl, _ => by simp at hl
  | _ :: _, l, [], h, hl, _ => by simp at hl
  | c :: cs, l, v :: vs, h, hl, hr => by
    unfold strOf at h
    split at h
    · rename_i heq; simp at heq
    · rename_i m cs' heq
      injection heq with h1 h2; subst h1; subst h2
      rw [Option.map_eq_some_iff] at h
      obtain ⟨l', h', rfl⟩ := h
      obtain ⟨ns, k1, k2⟩ := strOf_ok cs l' vs h' (by simpa using hl) (fun j x u hx hu => hr (j + 1) x u (by simpa using hx) (by simpa using hu))
      have h0 := hr 0 _ _ rfl rfl
      have := (rep_val (.s h0)).1
      subst this
      exact ⟨m :: ns, by rw [k1]; rfl, by rw [k2]; rfl⟩
    · simp at h
theorem foldl_push (ns : List Int) : ∀ s : ByteArray, ns.foldl (fun r m => r.push (UInt8.ofNat m.toNat)) s = ⟨(s.data.toList ++ ns.map fun m => UInt8.ofNat m.toNat).toArray⟩ := by
  induction ns with
  | nil => intro s; simp
  | cons m ns ih =>
    intro s
    rw [List.foldl_cons, ih]
    congr 1
    simp [ByteArray.push]
theorem op_conv (hT : TabOk P T) (h : Sim F n s a w φ) {src dst : TypeId} {p : Operand} {x : V} (hq : (convV T src dst (s.ev p)).run s.getO = some x) :
    ∃ v, (convert src dst (a.eval p)).run P w = .ok v w ∧ Rep w (LiveB F s φ) φ (Born s) x v := by
  have hx := h.ev p
  unfold convV dsc at hq
  cases hts : T src with
  | none => simp [hts, Q.run] at hq
  | some si =>
  cases htd : T dst with
  | none => simp [hts, htd, Q.run] at hq
  | some di =>
    obtain ⟨info, d, z, hr⟩ := hT src si hts
    obtain ⟨info', d', z', hr'⟩ := hT dst di htd
    simp only [hts, htd, Option.map_some] at hq
    split at hq
    · rename_i ds k k' m hs hd e
      injection hd with hd
      have := dscOf_int (hd ▸ hr'.dsc); subst this
      rw [e] at hx; rw [(rep_val hx).1]
      simp [Q.run] at hq; subst hq
      exact ⟨.int k (k.wrap m), by simp [convert, run_underlying hr.und, run_underlying hr'.und, Conv.intToInt], .s (.c (.val rfl))⟩
    · rename_i ds str hs hd e
      injection hd with hd
      have := dscOf_str (hd ▸ hr'.dsc); subst this
      rw [e] at hx; rw [(rep_val hx).1]
      simp [Q.run] at hq; subst hq
      exact ⟨.string str, by simp [convert, run_underlying hr.und, run_underlying hr'.und], .s (.c (.val rfl))⟩
    · rename_i e hs hd _
      injection hs with hs
      injection hd with hd
      have := dscOf_slice (hs ▸ hr.dsc); subst this
      have := dscOf_str (hd ▸ hr'.dsc); subst this
      cases hte : T e with
      | none => simp [hte, Q.run] at hq
      | some ei =>
        obtain ⟨infoe, de, ze, hre⟩ := hT e ei hte
        simp only [hte, Option.map_some] at hq
        have hrun : ∀ (b o len cap : Nat) (cs : List V) (l : List UInt8), a.eval p = .slice (some ⟨b, o, none⟩) len cap → P.underlying e = some (.int .u8) → CellsAt w (LiveB F s φ) φ (Born s) b o cs → cs.length = len → strOf cs = some l →
            (convert src dst (a.eval p)).run P w = .ok (.string ⟨l.toArray⟩) w := by
          intro b o len cap cs l hv hu hc hlen hl
          obtain ⟨vs, k1, k2, k3⟩ := hc.vals
          obtain ⟨ns, m1, m2⟩ := strOf_ok cs l vs hl k1.symm k3
          rw [hv, run_convert_bytes_string w src dst e _ _ _ hr.und hu hr'.und]
          rw [run_bytesToString w _ _ _ ns (by
            have := run_loadCells_list (P := P) w ⟨b, o, none⟩ vs (fun j v hv => by rw [Addr.add_mid]; exact k2 j v hv)
            rw [k1, hlen] at this
            rw [this, m1])]
          rw [foldl_push, m2]; rfl
        split at hq
        · rename_i hdd e'
          injection hdd with hdd
          have hu := dscOf_int (hdd ▸ hre.dsc); subst hu
          rw [e'] at hx
          simp [Q.run] at hq; subst hq
          refine ⟨.string .empty, ?_, .s (.c (.val rfl))⟩
          rw [rep_nils hx, run_convert_bytes_string w src dst e _ _ _ hr.und hre.und hr'.und]
          simp [Conv.bytesToString]
        · rename_i m cs hdd e'
          injection hdd with hdd
          have hu := dscOf_int (hdd ▸ hre.dsc); subst hu
          rw [e'] at hx
          split at hq
          · rename_i hlen
            split at hq
            · rename_i l hl
              simp [Q.run] at hq; subst hq
              rcases rep_ro hx with ⟨b, base, cap, f, g1, g2, g3, g4, g5, g6, g7⟩ | ⟨rfl, rfl, A, cap, g1⟩
              · exact ⟨_, hrun b base m cap cs l g1 hre.und (fun j x hx => ⟨_, g6 j x hx, .c (g7 j x hx)⟩) hlen hl, .s (.c (.val rfl))⟩
              · simp [strOf] at hl; subst hl
                refine ⟨.string ⟨#[]⟩, ?_, .s (.c (.val rfl))⟩
                rw [g1, run_convert_bytes_string w src dst e _ _ _ hr.und hre.und hr'.und]
                cases A <;> simp [Conv.bytesToString, loadCells, loadCellsFrom] <;> rfl
            · simp [Q.run] at hq
          · simp [Q.run] at hq
        · rename_i i off m hdd e'
          injection hdd with hdd
          have hu := dscOf_int (hdd ▸ hre.dsc); subst hu
          rw [e'] at hx
          simp only [Q.run] at hq
          cases hob : s.getO i with
          | none => simp [hob] at hq
          | some ob =>
            simp only [hob] at hq
            split at hq
            · rename_i cs hsub
              split at hq
              · rename_i l hl
                simp [Q.run] at hq; subst hq
                obtain ⟨lc, g1, g2, g3, g4⟩ := h.at_sref hob hx
                obtain ⟨s1, s2, s3⟩ := sub_some hsub
                have hzero : ∀ A : Option Addr, a.eval p = .slice A 0 0 → m = 0 → (convert src dst (a.eval p)).run P w = .ok (.string ⟨l.toArray⟩) w := by
                  intro A hA h0
                  subst h0
                  have : cs = [] := List.eq_nil_of_length_eq_zero s2
                  subst this
                  simp [strOf] at hl; subst hl
                  rw [hA, run_convert_bytes_string w src dst e _ _ _ hr.und hre.und hr'.und]
                  cases A <;> simp [Conv.bytesToString, loadCells, loadCellsFrom] <;> rfl
                refine ⟨.string ⟨l.toArray⟩, ?_, .s (.c (.val rfl))⟩
                cases lc with
                | empty => obtain ⟨_, h0, A, hA⟩ := g2; exact hzero A hA h0
                | «at» b base =>
                  obtain ⟨cap, c1, c2⟩ := g2
                  rcases c2 with ⟨h0, _, A, hA⟩ | ⟨c2, _⟩
                  · subst h0
                    have : cs = [] := List.eq_nil_of_length_eq_zero s2
                    subst this
                    simp [strOf] at hl; subst hl
                    rw [hA, run_convert_bytes_string w src dst e _ _ _ hr.und hre.und hr'.und]
                    simp [Conv.bytesToString, loadCells, loadCellsFrom]; rfl
                  · exact hrun b (base + off) m cap cs l c2 hre.und ((g3 b base rfl).1.cellsAt.sub hsub) s2 hl
              · simp [Q.run] at hq
            · simp [Q.run] at hq
        · simp [Q.run] at hq
    · simp [Q.run] at hq
theorem op_extract (h : Sim F n s a w φ) {p : Operand} {i : Nat} {vs : List V} {x : V} (hv : s.ev p = .tup vs) (hx : vs[i]? = some x) :
    ∃ v, (Instr.extract (a.eval p) i).run P w = .ok v w ∧ Rep w (LiveB F s φ) φ (Born s) x v := by
  have hp := h.ev p
  rw [hv] at hp
  cases hp' : a.eval p with
  | tuple us =>
    rw [hp'] at hp
    cases hp with
    | s h => cases h with
      | c h => cases h
    | tup hl hh =>
      obtain ⟨u, hu⟩ : ∃ u, us[i]? = some u := by
        rcases Nat.lt_or_ge i us.size with h1 | h1
        · exact ⟨us[i], by simp [h1]⟩
        · rw [List.getElem?_eq_none (by omega)] at hx; simp at hx
      exact ⟨u, by simp [Instr.extract, hu], hh i x u hx hu⟩
  | _ =>
    rw [hp'] at hp
    cases hp with
    | s h => cases h with
      | c h => cases h
end Go.Ab
set_option linter.unusedSimpArgs false
set_option linter.unusedVariables false
namespace Go.Ab
variable {P : Program} {T : Tab} {F : Fr} {n : Nat} {s : St} {a : Act} {w w' : World} {φ φ' : Id → Option Loc} {L : Nat → Prop} {B : Id → Prop}
def lay (h : List (Nat × Ob)) (l : List (Nat × Ob)) : List (Nat × Ob) := l.foldl (fun h p => put h p.1 p.2) h
theorem heap_alloc_old (w : World) (o : Obj) (k : Nat) (h : k < w.heap.size) : (w.alloc o).heap[k]? = w.heap[k]? := by
  show (w.heap.push o)[k]? = w.heap[k]?
  rw [Array.getElem?_push, if_neg (by omega)]
theorem heap_setCell_ne (w : World) (a : Addr) (u : Value) (k : Nat) (h : k ≠ a.block) : (w.setCell a u).heap[k]? = w.heap[k]? := by
  simp only [World.setCell, Array.getElem?_modify]
  rw [if_neg (fun e => h e.symm)]
theorem Kept.alloc (h : Kept F w) (o : Obj) : Kept F (w.alloc o) :=
  ⟨h.os, h.tape, h.output, by simp; have := h.size; omega, fun k hk hp => by rw [heap_alloc_old w o k (Nat.lt_of_lt_of_le hk h.size)]; exact h.block k hk hp, fun k arr e hp hk => by
    obtain ⟨arr', h1, h2⟩ := h.shape k arr e hp hk
    exact ⟨arr', by rw [heap_alloc_old w o k (lt_of_some h1)]; exact h1, h2⟩⟩
theorem Kept.drew (h : Kept F w) : Kept F w.drew := ⟨h.os, h.tape, h.output, h.size, h.block, h.shape⟩
theorem heap_alloc_new (w : World) (o : Obj) : (w.alloc o).heap[w.heap.size]? = some o := by
  show (w.heap.push o)[w.heap.size]? = some o
  simp
theorem op_alloc (hT : TabOk P T) (h : Sim F n s a w φ) {k : Nat} (hf : fresh s k) {e : TypeId} {ti : TI} (ht : T e = some ti) (rw : Bool) (hrw : rw = true → ∀ x ∈ ti.zero, x.closed = true) :
    ∃ v w' φ', (Instr.alloc e true (.tuple #[])).run P w = .ok v w' ∧ Sim F n { s with h := put s.h k ⟨s.ep, .live, rw, ti.zero⟩ } a w' φ' ∧
      Rep w' (LiveB F { s with h := put s.h k ⟨s.ep, .live, rw, ti.zero⟩ } φ') φ' (Born { s with h := put s.h k ⟨s.ep, .live, rw, ti.zero⟩ }) (.ptr (k, s.ep) 0) v := by
  obtain ⟨info, d, z, hr⟩ := hT e ti ht
  have hc := hr.zeroCR (w := w) (L := LiveB F s φ) (φ := φ) (B := Born s)
  refine ⟨.pointer (some ⟨w.heap.size, 0, none⟩), w.alloc (.cells z.cells e), _, ?_, h.create (row := rw) (cells := ti.zero) (b0 := w.heap.size) hf (h.kept.alloc _) (Nat.le_refl _) (by simp) (fun b hb => heap_alloc_old w _ b hb)
    ⟨z.cells, e, heap_alloc_new w _, by rw [hc.1]; simp, fun j x hx => ?_⟩ hrw, ?_⟩
  · simp [Instr.alloc, zeroValue, typeInfo, hr.inf, hr.zero, newVar, newRow]
  · obtain ⟨v, hv⟩ : ∃ v, z.cells[j]? = some v := by
      rcases Nat.lt_or_ge j z.cells.size with h1 | h1
      · exact ⟨z.cells[j], by simp [h1]⟩
      · rw [List.getElem?_eq_none (by rw [hc.1]; simpa using h1)] at hx; simp at hx
    exact ⟨v, hv, hc.2 j x v hx (by simpa using hv)⟩
  · refine .s (.ptr (.inr ⟨rfl, ⟨s.ep, .live, rw, ti.zero⟩, by simp [look_put], rfl⟩) rfl fun l hl => ?_)
    simp [setL] at hl; subst hl
    exact ⟨_, _, rfl, rfl⟩
theorem op_box (hT : TabOk P T) (h : Sim F n s a w φ) {k : Nat} (hf : fresh s k) {e : TypeId} {x : Operand} (hs : (s.ev x).cells.all V.single = true) (rw : Bool) (hrw : rw = true → ∀ y ∈ (s.ev x).cells, y.closed = true) :
    ∃ v w' φ', (Instr.box e (a.eval x)).run P w = .ok v w' ∧ Sim F n { s with h := put s.h k ⟨s.ep, .live, rw, (s.ev x).cells⟩ } a w' φ' ∧
      Rep w' (LiveB F { s with h := put s.h k ⟨s.ep, .live, rw, (s.ev x).cells⟩ } φ') φ' (Born { s with h := put s.h k ⟨s.ep, .live, rw, (s.ev x).cells⟩ }) (.ptr (k, s.ep) 0) v := by
  have hc := rep_cells (h.ev x) hs
  refine ⟨.pointer (some ⟨w.heap.size, 0, none⟩), w.alloc (.cells (a.eval x).cells e), _, ?_, h.create (row := rw) (cells := (s.ev x).cells) (b0 := w.heap.size) hf (h.kept.alloc _) (Nat.le_refl _) (by simp) (fun b hb => heap_alloc_old w _ b hb)
    ⟨(a.eval x).cells, e, heap_alloc_new w _, by rw [hc.1]; simp, fun j x hx => ?_⟩ hrw, ?_⟩
  · simp [Instr.box, newVar, newRow]
  · obtain ⟨v, hv⟩ : ∃ v, (a.eval ‹Operand›).cells[j]? = some v := by
      rcases Nat.lt_or_ge j (a.eval ‹Operand›).cells.size with h1 | h1
      · exact ⟨(a.eval ‹Operand›).cells[j], by simp [h1]⟩
      · rw [List.getElem?_eq_none (by rw [hc.1]; simpa using h1)] at hx; simp at hx
    exact ⟨v, hv, hc.2 j x v hx (by simpa using hv)⟩
  · refine .s (.ptr (.inr ⟨rfl, ⟨s.ep, .live, rw, (s.ev x).cells⟩, by simp [look_put], rfl⟩) rfl fun l hl => ?_)
    simp [setL] at hl; subst hl
    exact ⟨_, _, rfl, rfl⟩
theorem setCells_heap (b : Nat) (e : TypeId) : ∀ (vs : List Value) (o : Nat) (w : World) (arr : Array Value), w.heap[b]? = some (.cells arr e (0, 0)) → o + vs.length ≤ arr.size →
    ∃ arr', (w.setCells b o vs).heap[b]? = some (.cells arr' e (0, 0)) ∧ arr'.size = arr.size ∧ ∀ j, arr'[j]? = if o ≤ j ∧ j < o + vs.length then vs[j - o]? else arr[j]?
  | [], o, w, arr, h, _ => ⟨arr, h, rfl, fun j => by rw [if_neg (by simp)]⟩
  | v :: vs, o, w, arr, h, hl => by
    simp only [List.length_cons] at hl
    have h1 : (w.setCell ⟨b, o, none⟩ v).heap[b]? = some (.cells (arr.setIfInBounds o v) e (0, 0)) := by
      simp [World.setCell, Array.getElem?_modify, h]
    obtain ⟨arr', k1, k2, k3⟩ := setCells_heap b e vs (o + 1) _ _ h1 (by simp; omega)
    refine ⟨arr', k1, by simpa using k2, fun j => ?_⟩
    rw [k3 j]
    simp only [List.length_cons, Array.getElem?_setIfInBounds]
    by_cases e1 : o = j
    · subst e1
      rw [if_neg (by omega), if_pos rfl, if_pos (by omega), if_pos (by omega)]; simp
    · by_cases e2 : o + 1 ≤ j ∧ j < o + 1 + vs.length
      · rw [if_pos e2, if_pos (by omega), show j - o = (j - (o + 1)) + 1 by omega]; simp
      · rw [if_neg e2, if_neg e1, if_neg (by omega)]
theorem setCells_other (b : Nat) : ∀ (vs : List Value) (o : Nat) (w : World) (k : Nat), k ≠ b → (w.setCells b o vs).heap[k]? = w.heap[k]?
  | [], _, _, _, _ => rfl
  | v :: vs, o, w, k, h => by rw [World.setCells, setCells_other b vs (o + 1) _ k h, heap_setCell_ne w _ v k h]
theorem setCells_size (b : Nat) : ∀ (vs : List Value) (o : Nat) (w : World), (w.setCells b o vs).heap.size = w.heap.size
  | [], _, _ => rfl
  | v :: vs, o, w => by rw [World.setCells, setCells_size b vs (o + 1)]; simp
theorem Kept.setCell {b o : Nat} (hb : F.w0.heap.size ≤ b ∨ F.pb b) (v : Value) {w : World} (h : Kept F w) : Kept F (w.setCell ⟨b, o, none⟩ v) := by
  refine ⟨h.os, h.tape, h.output, by simpa using h.size, fun k hk hp => ?_, fun k arr e hp hk => ?_⟩
  · rw [heap_setCell_ne w _ v k (fun e => by
      have e' : k = b := e
      subst e'
      rcases hb with hb | hb
      · omega
      · exact hp hb)]
    exact h.block k hk hp
  · obtain ⟨arr', h1, h2⟩ := h.shape k arr e hp hk
    by_cases hkb : k = b
    · subst hkb
      exact ⟨arr'.setIfInBounds o v, by simp [World.setCell, Array.getElem?_modify, h1], by simpa using h2⟩
    · exact ⟨arr', by rw [heap_setCell_ne w _ v k hkb]; exact h1, h2⟩
theorem Kept.setCells {b : Nat} (hb : F.w0.heap.size ≤ b ∨ F.pb b) : ∀ (vs : List Value) (o : Nat) {w : World}, Kept F w → Kept F (w.setCells b o vs)
  | [], _, _, h => h
  | v :: vs, o, w, h => Kept.setCells hb vs (o + 1) (h.setCell hb v)
theorem op_store (hT : TabOk P T) (h : Sim F n s a w φ) {t : TypeId} {p x : Operand} {wl : List (Nat × Ob)} (hq : (storeV T t (s.ev p) (s.ev x)).run s.getO = some wl) :
    ∃ w', (Instr.storeAt t (a.eval p) (a.eval x)).run P w = .ok () w' ∧ Sim F n { s with h := lay s.h wl } a w' φ := by
  have hp := h.ev p
  have hx := h.ev x
  unfold storeV at hq
  cases ht : T t with
  | none => simp [ht, Q.run] at hq
  | some ti =>
    obtain ⟨info, d, z, hr⟩ := hT t ti ht
    simp only [ht] at hq
    split at hq
    · rename_i hsz
      split at hq
      · rename_i i off hpv
        rw [hpv] at hp
        simp only [Q.run] at hq
        cases hob : s.getO i with
        | none => simp [hob] at hq
        | some o =>
          simp only [hob] at hq
          split at hq
          · rename_i hlive
            obtain ⟨b, base, g1, g2, arr, e, g3, g4, g5⟩ := h.at_ptr hob hp
            have key : ∀ cs, (s.ev x).cells.all V.single = true → (o.row = true → (s.ev x).cells.all V.closed = true) → splice o.cells off (s.ev x).cells = some cs →
                ∃ w', (Instr.storeAt t (a.eval p) (a.eval x)).run P w = .ok () w' ∧ Sim F n { s with h := put s.h i.1 { o with cells := cs } } a w' φ := by
              intro cs hsing hrow hsp
              have hc := rep_cells hx hsing
              obtain ⟨k1, k2, k3⟩ := splice_some hsp
              have hlen : (a.eval x).cells.toList.length = (s.ev x).cells.length := hc.1.symm
              have hone : ∀ v ∈ (a.eval x).cells.toList, v.oneCell' = true := by
                intro v hv
                obtain ⟨j, hj⟩ := List.getElem?_of_mem hv
                obtain ⟨y, hy⟩ : ∃ y, (s.ev x).cells[j]? = some y := by
                  rcases Nat.lt_or_ge j (s.ev x).cells.length with h1 | h1
                  · exact ⟨(s.ev x).cells[j], by simp [h1]⟩
                  · rw [List.getElem?_eq_none (by omega)] at hj; simp at hj
                exact reps_one (hc.2 j y v hy hj) (List.all_eq_true.1 hsing y (List.mem_of_getElem? hy))
              have hth : w.there b (base + off) (a.eval x).cells.size := by
                intro j hj
                have : base + off + j < arr.size := by simp at hlen; omega
                exact ⟨by simp [World.cell?, g3, this], by simp [World.frozen?, g3]⟩
              have hrun := run_storeVar_mid (P := P) w b (base + off) t (a.eval x).cells hth (by rw [hr.inf]; simp [hr.size]; simp at hlen; omega) (by
                rw [Array.all_eq_true']; intro v hv; exact hone v (by simpa using hv))
              have hb : F.w0.heap.size ≤ b ∨ F.pb b := by
                rcases h.objs i o hob with ⟨b', base', m1, m2, m3, _⟩ | ⟨m1, _⟩
                · rw [m1] at g1; injection g1 with g1; injection g1 with g1 _; rw [← g1]; exact (m3 hlive).imp id (·.1)
                · rw [m1] at g1; simp at g1
              refine ⟨_, by rw [g2, Instr.storeAt, Sem.run_bind, run_sureAddr]; exact hrun, ?_⟩
              refine h.change hob hlive { o with cells := cs } rfl rfl (.inl hlive) (h.kept.setCells hb _ _) (by rw [setCells_size]; exact Nat.le_refl _)
                (fun b' hb' hne => setCells_other b _ _ w b' (fun e => hne base (by rw [e]; exact g1))) (fun b' base' hφ arr0 e0 h0 => ?_) (fun hφ => by rw [g1] at hφ; simp at hφ) (fun hro y hy => ?_)
              · rw [g1] at hφ; injection hφ with hφ; injection hφ with e1 e2; subst e1; subst e2
                rw [g3] at h0; injection h0 with h0; injection h0 with h0 h0'; subst h0; subst h0'
                obtain ⟨arr', m1, m2, m3⟩ := setCells_heap b e (a.eval x).cells.toList (base + off) w arr g3 (by omega)
                refine ⟨arr', m1, m2, by simp only [k2]; omega, fun j y hy => ?_⟩
                simp only at hy
                rw [k3 j] at hy
                rw [m3 (base + j)]
                by_cases hj : off ≤ j ∧ j < off + (s.ev x).cells.length
                · rw [if_pos hj] at hy
                  rw [if_pos (by omega), show base + j - (base + off) = j - off by omega]
                  obtain ⟨v, hv⟩ : ∃ v, (a.eval x).cells.toList[j - off]? = some v := by
                    have : j - off < (a.eval x).cells.toList.length := by omega
                    exact ⟨_, List.getElem?_eq_getElem this⟩
                  exact ⟨v, hv, hc.2 _ y v hy hv⟩
                · rw [if_neg hj] at hy
                  rw [if_neg (by omega)]
                  exact g5 j y hy
              · obtain ⟨j, hj⟩ := List.getElem?_of_mem hy
                simp only at hj
                rw [k3 j] at hj
                split at hj
                · exact List.all_eq_true.1 (hrow hro) y (List.mem_of_getElem? hj)
                · exact h.rows i o hob hro y (List.mem_of_getElem? hj)
            split at hq
            · rename_i hrow
              split at hq
              · rename_i hcl
                split at hq
                · rename_i cs hsp
                  simp [Q.run] at hq; subst hq
                  refine key cs ?_ (fun _ => hcl) hsp
                  rw [List.all_eq_true] at hcl ⊢
                  intro y hy
                  have := hcl y hy
                  cases y <;> simp_all [V.closed, V.single]
                · simp [Q.run] at hq
              · simp [Q.run] at hq
            · rename_i hrow
              split at hq
              · rename_i hcl
                split at hq
                · rename_i cs hsp
                  simp [Q.run] at hq; subst hq
                  exact key cs hcl (fun h => absurd h hrow) hsp
                · simp [Q.run] at hq
              · simp [Q.run] at hq
          · simp [Q.run] at hq
      · simp [Q.run] at hq
    · simp [Q.run] at hq
end Go.Ab
set_option linter.unusedSimpArgs false
set_option linter.unusedVariables false
namespace Go.Ab
variable {P : Program} {T : Tab} {F : Fr} {n : Nat} {s : St} {a : Act} {w w' : World} {φ φ' : Id → Option Loc} {L : Nat → Prop} {B : Id → Prop}
theorem reps_closed {x : V} {v : Value} (h : RepS w L φ B x v) (hx : x.closed = true) : RepC w L x v := by
  cases h with
  | c h => exact h
  | _ => simp [V.closed] at hx
theorem lay_cons (h : List (Nat × Ob)) (p : Nat × Ob) (l : List (Nat × Ob)) : lay h (p :: l) = lay (put h p.1 p.2) l := rfl
theorem lay_append (h : List (Nat × Ob)) (l r : List (Nat × Ob)) : lay h (l ++ r) = lay (lay h l) r := by simp [lay]
theorem look_lay (l : List (Nat × Ob)) : ∀ (h : List (Nat × Ob)) (k : Nat), k ∉ l.map (·.1) → look (lay h l) k = look h k := by
  induction l with
  | nil => intro h k _; rfl
  | cons p l ih =>
    intro h k hk
    simp at hk
    rw [lay_cons, ih _ _ (by simpa using hk.2), look_put, if_neg hk.1]
theorem Sim.freeze : ∀ (l : List (Id × Ob)) (s : St), (l.map fun q => q.1.1).Nodup → (∀ q ∈ l, s.getO q.1 = some q.2 ∧ q.2.c = .live ∧ q.2.row = true) → Sim F n s a w φ →
    Sim F n { s with h := lay s.h (l.map fun q => (q.1.1, { q.2 with c := .froz })) } a w φ ∧
    Tr w w (LiveB F s φ) (LiveB F { s with h := lay s.h (l.map fun q => (q.1.1, { q.2 with c := .froz })) } φ) φ φ (Born s) (Born { s with h := lay s.h (l.map fun q => (q.1.1, { q.2 with c := .froz })) }) ∧
    ∀ q ∈ l, ∀ b base, φ q.1 = some (.at b base) → ¬ LiveB F { s with h := lay s.h (l.map fun q => (q.1.1, { q.2 with c := .froz })) } φ b
  | [], s, _, _, h => ⟨h, ⟨Nat.le_refl _, fun _ _ _ => rfl, fun _ => .inl, fun _ _ _ h => h, fun _ h => h, fun b arr e _ hb => ⟨arr, hb, rfl⟩⟩, by simp⟩
  | (i, o) :: l, s, hn, hall, h => by
    obtain ⟨ho, hl, hr⟩ := hall (i, o) (by simp)
    simp only at ho hl hr
    simp only [List.map_cons, List.nodup_cons] at hn
    have h1 : Sim F n { s with h := put s.h i.1 { o with c := .froz } } a w φ := by
      refine h.change ho hl { o with c := .froz } rfl rfl (.inr ⟨rfl, hr⟩) h.kept (Nat.le_refl _) (fun _ _ _ => rfl) (fun b base hφ arr e hb => ?_) (fun he => ?_) (fun _ => h.rows i o ho hr)
      · rcases h.objs i o ho with ⟨b', base', m1, _, _, _, arr', e', m2, m3, m4⟩ | ⟨m1, _⟩
        · rw [m1] at hφ; injection hφ with hφ; injection hφ with e1 e2; subst e1; subst e2
          rw [m2] at hb; injection hb with hb; injection hb with hb _; subst hb
          exact ⟨arr', by rw [m2]; congr 2, rfl, m3, m4⟩
        · rw [m1] at hφ; simp at hφ
      · rcases h.objs i o ho with ⟨b', base', m1, _⟩ | ⟨_, _, m3⟩
        · rw [m1] at he; simp at he
        · exact m3
    have T1 : Tr w w (LiveB F s φ) (LiveB F { s with h := put s.h i.1 { o with c := .froz } } φ) φ φ (Born s) (Born { s with h := put s.h i.1 { o with c := .froz } }) := by
      refine ⟨Nat.le_refl _, fun _ _ _ => rfl, ?_, fun _ _ _ h => h, ?_, fun b arr e _ hb => ⟨arr, hb, rfl⟩⟩
      · rintro b (hF | ⟨j, p, base, hp, hlp, hφ⟩)
        · exact .inl (.inl hF)
        rw [getO_put] at hp
        split at hp
        · unfold pick? at hp
          simp only at hp
          split at hp
          · injection hp with hp; subst hp; simp at hlp
          · simp at hp
        · exact .inl (.inr ⟨j, p, base, hp, hlp, hφ⟩)
      · rintro j (hj | ⟨hj, p, h1, h2⟩)
        · exact .inl hj
        · refine .inr ⟨hj, ?_⟩
          simp only [look_put]
          by_cases hji : j.1 = i.1
          · obtain ⟨g1, g2, _⟩ := getO_some.1 ho
            rw [hji, g1] at h1; injection h1 with h1
            exact ⟨{ o with c := .froz }, by simp [hji], by rw [h1]; exact h2⟩
          · exact ⟨p, by simp [hji, h1], h2⟩
    have hnl : ∀ b base, φ i = some (.at b base) → ¬ LiveB F { s with h := put s.h i.1 { o with c := .froz } } φ b := by
      rintro b base hφ (hF | ⟨j, p, base', hp, hlp, hφ'⟩)
      · have := F.hlb b hF
        rcases h.objs i o ho with ⟨b', base', m1, _, m3, _⟩ | ⟨m1, _⟩
        · rw [m1] at hφ; injection hφ with hφ; injection hφ with e1 _; subst e1
          rcases m3 hl with h | ⟨_, h⟩
          · omega
          · rw [hr] at h; simp at h
        · rw [m1] at hφ; simp at hφ
      rw [getO_put] at hp
      split at hp
      · unfold pick? at hp
        simp only at hp
        split at hp
        · injection hp with hp; subst hp; simp at hlp
        · simp at hp
      · rename_i hji
        exact hji (by rw [h.inj j i p o b base' base hp ho hlp hl hφ' hφ])
    obtain ⟨k1, k2, k3⟩ := Sim.freeze l { s with h := put s.h i.1 { o with c := .froz } } hn.2 (fun q hq => by
      obtain ⟨m1, m2, m3⟩ := hall q (by simp [hq])
      refine ⟨?_, m2, m3⟩
      rw [getO_put, if_neg]
      · exact m1
      · intro e
        exact hn.1 (List.mem_map.2 ⟨q, hq, e⟩)) h1
    refine ⟨k1, ⟨Nat.le_refl _, fun _ _ _ => rfl, fun b hb => ?_, fun _ _ _ h => h, fun i hi => k2.born _ (T1.born _ hi), fun b arr e _ hb => ⟨arr, hb, rfl⟩⟩, fun q hq b base hφ => ?_⟩
    · rcases k2.lv b hb with hb | hb
      · exact T1.lv b hb
      · exact .inr hb
    · simp only [List.mem_cons] at hq
      rcases hq with rfl | hq
      · intro hb
        rcases k2.lv b hb with hb' | hb'
        · exact hnl b base hφ hb'
        · rcases h.objs i o ho with ⟨b', base', m1, m2, _⟩ | ⟨m1, _⟩
          · rw [m1] at hφ; injection hφ with hφ; injection hφ with e1 _; omega
          · rw [m1] at hφ; simp at hφ
      · exact k3 q hq b base hφ
theorem fz_spec (h : Sim F n s a w φ) : ∀ (cs : List V) (vs : List Value) (ys : List V) (l : List (Id × Ob)), (fz cs).run s.getO = some (ys, l) → CR w (LiveB F s φ) φ (Born s) cs vs →
    (∀ q ∈ l, s.getO q.1 = some q.2 ∧ q.2.c = .live ∧ q.2.row = true) ∧ ys.length = vs.length ∧ (∀ y ∈ ys, y.closed = true) ∧
    ∀ L', (∀ b, L' b → LiveB F s φ b) → (∀ q ∈ l, ∀ b base, φ q.1 = some (.at b base) → ¬ L' b) → ∀ (j : Nat) (x : V) (v : Value), ys[j]? = some x → vs[j]? = some v → RepC w L' x v
  | [], vs, ys, l, hq, hc => by
    simp [fz, Q.run] at hq
    obtain ⟨rfl, rfl⟩ := hq
    exact ⟨by simp, hc.1, by simp, fun L' _ _ j x v hx => by simp at hx⟩
  | c :: cs, vs, ys, l, hq, hc => by
    match vs, hc with
    | [], hc => exact absurd hc.1 (by simp)
    | v :: vs, hc =>
      have h0 := hc.2 0 c v rfl rfl
      have hcs : CR w (LiveB F s φ) φ (Born s) cs vs := ⟨by simpa using hc.1, fun j x u hx hu => hc.2 (j + 1) x u (by simpa using hx) (by simpa using hu)⟩
      have bindrun : ∀ (g : List V × List (Id × Ob) → List V × List (Id × Ob)) (q : Q (List V × List (Id × Ob))), (q.bind fun p => .ret (g p)).run s.getO = some (ys, l) →
          ∃ p, q.run s.getO = some p ∧ g p = (ys, l) := by
        intro g q
        induction q with
        | ret p => intro hh; simp [Q.bind, Q.run] at hh; exact ⟨p, rfl, hh⟩
        | ask i k ih =>
          intro hh
          simp only [Q.bind, Q.run] at hh ⊢
          cases ho : s.getO i with
          | none => simp [ho] at hh
          | some o => simp only [ho] at hh ⊢; exact ih o hh
        | fail => intro hh; simp [Q.bind, Q.run] at hh
      unfold fz at hq
      have plain : ∀ x : V, x = c → x.closed = true → ((fz cs).bind fun p => Q.ret (x :: p.1, p.2)).run s.getO = some (ys, l) →
          (∀ q ∈ l, s.getO q.1 = some q.2 ∧ q.2.c = .live ∧ q.2.row = true) ∧ ys.length = (v :: vs).length ∧ (∀ y ∈ ys, y.closed = true) ∧
          ∀ L', (∀ b, L' b → LiveB F s φ b) → (∀ q ∈ l, ∀ b base, φ q.1 = some (.at b base) → ¬ L' b) → ∀ (j : Nat) (x : V) (u : Value), ys[j]? = some x → (v :: vs)[j]? = some u → RepC w L' x u := by
        rintro x rfl hcl hh
        obtain ⟨⟨ys', l'⟩, e1, e2⟩ := bindrun (fun p => (x :: p.1, p.2)) _ hh
        simp at e2
        obtain ⟨rfl, rfl⟩ := e2
        obtain ⟨m1, m2, m3, m4⟩ := fz_spec h cs vs ys' l' e1 hcs
        refine ⟨m1, by simp [m2], by simp; exact ⟨hcl, m3⟩, fun L' hL hf j y u hy hu => ?_⟩
        cases j with
        | zero =>
          simp at hy hu; subst hy; subst hu
          exact (reps_closed h0 hcl).mono (φ := φ) (φ' := φ) (B := Born s) (B' := Born s) ⟨Nat.le_refl _, fun _ _ _ => rfl, fun b hb => .inl (hL b hb), fun _ _ _ h => h, fun _ h => h, fun b arr e _ hb => ⟨arr, hb, rfl⟩⟩
        | succ j => exact m4 L' hL hf j y u (by simpa using hy) (by simpa using hu)
      by_cases hcs' : ∃ i off len sz, c = .sref i off len sz
      · obtain ⟨i, off, len, sz, rfl⟩ := hcs'
        simp only [Q.run] at hq
        cases ho : s.getO i with
        | none => simp [ho] at hq
        | some o =>
          simp only [ho] at hq
          split at hq
          · rename_i hrow
            split at hq
            · rename_i xs hsub
              obtain ⟨⟨ys', l'⟩, e1, e2⟩ := bindrun (fun p => (.ro sz len xs :: p.1, if o.c = .live then (i, o) :: p.2 else p.2)) _ hq
              simp at e2
              obtain ⟨rfl, rfl⟩ := e2
              obtain ⟨m1, m2, m3, m4⟩ := fz_spec h cs vs ys' l' e1 hcs
              obtain ⟨s1, s2, s3⟩ := sub_some hsub
              obtain ⟨lc, g1, g2, g3, g4⟩ := h.at_sref ho (.s h0)
              refine ⟨?_, by simp [m2], by simp [V.closed]; exact m3, fun L' hL hf j y u hy hu => ?_⟩
              · intro q hq
                split at hq
                · rename_i hlive
                  simp only [List.mem_cons] at hq
                  rcases hq with rfl | hq
                  · exact ⟨ho, hlive, hrow⟩
                  · exact m1 q hq
                · exact m1 q hq
              · have hf' : ∀ q ∈ l', ∀ b base, φ q.1 = some (.at b base) → ¬ L' b := by
                  intro q hq
                  refine hf q ?_
                  split
                  · simp [hq]
                  · exact hq
                cases j with
                | succ j => exact m4 L' hL hf' j y u (by simpa using hy) (by simpa using hu)
                | zero =>
                  simp at hy hu; subst hy; subst hu
                  have hz : ∀ A cap, v = .slice A 0 cap → len = 0 → RepC w L' (.ro sz len xs) v := by
                    rintro A cap rfl rfl
                    have : xs = [] := List.eq_nil_of_length_eq_zero (by omega)
                    subst this
                    exact .ro0 sz A cap
                  cases lc with
                  | empty => obtain ⟨_, h00, A, hA⟩ := g2; exact hz A 0 hA h00
                  | «at» b base =>
                    obtain ⟨cap, c1, c2⟩ := g2
                    rcases c2 with ⟨h00, rfl, A, hA⟩ | ⟨c2, arr, e, c3, c4⟩
                    · exact hz (some A) 0 hA h00
                    · rw [c2]
                      have hnl : ¬ L' b := by
                        rcases hoc : o.c with _ | _ | _
                        · exact hf (i, o) (by simp [hoc]) b base g1
                        · intro hb
                          rcases h.objs i o ho with ⟨b', base', p1, _, _, p4, _⟩ | ⟨p1, _⟩
                          · rw [p1] at g1; injection g1 with g1; injection g1 with g1 _
                            exact p4 hoc (by rw [g1]; exact hL b hb)
                          · rw [p1] at g1; simp at g1
                        · exact absurd hoc (getO_some.1 ho).2.2
                      obtain ⟨⟨arr', e', k1, k2, k3⟩, k4⟩ := g3 b base rfl
                      have hcell : ∀ (j : Nat) (x : V), xs[j]? = some x → o.cells[off + j]? = some x := by
                        intro j x hx
                        have : j < len * sz := by
                          rcases Nat.lt_or_ge j (len * sz) with h1 | h1
                          · exact h1
                          · rw [List.getElem?_eq_none (by omega)] at hx; simp at hx
                        rw [← s3 j this]; exact hx
                      refine .ro (fun j => (arr'[base + (off + j)]?).getD undef) c1 s2 hnl k4 (fun j x hx => ?_) (fun j x hx => ?_)
                      · obtain ⟨u, hu, _⟩ := k3 (off + j) x (hcell j x hx)
                        simp [World.cell?, k1, Nat.add_assoc, hu]
                      · obtain ⟨u, hu, hr⟩ := k3 (off + j) x (hcell j x hx)
                        simp only [hu, Option.getD_some]
                        exact (reps_closed hr (h.rows i o ho hrow x (List.mem_of_getElem? (hcell j x hx)))).mono (φ := φ) (φ' := φ) (B := Born s) (B' := Born s)
                          ⟨Nat.le_refl _, fun _ _ _ => rfl, fun b hb => .inl (hL b hb), fun _ _ _ h => h, fun _ h => h, fun b arr e _ hb => ⟨arr, hb, rfl⟩⟩
            · simp [Q.run] at hq
          · simp [Q.run] at hq
      · split at hq
        · exact absurd ⟨_, _, _, _, rfl⟩ hcs'
        · split at hq
          · rename_i hcl
            exact plain c rfl hcl hq
          · simp [Q.run] at hq
end Go.Ab
set_option linter.unusedSimpArgs false
set_option linter.unusedVariables false
namespace Go.Ab
variable {P : Program} {T : Tab} {F : Fr} {n : Nat} {s : St} {a : Act} {w w' : World} {φ φ' : Id → Option Loc} {L : Nat → Prop} {B : Id → Prop}
theorem getElem?_replicate_flatten {α : Type} (l : List α) (hl : 0 < l.length) : ∀ (m j : Nat), (List.replicate m l).flatten[j]? = if j < m * l.length then l[j % l.length]? else none
  | 0, j => by simp
  | m + 1, j => by
    rw [List.replicate_succ, List.flatten_cons]
    by_cases hj : j < l.length
    · rw [List.getElem?_append_left hj, if_pos (by rw [Nat.add_mul]; omega), Nat.mod_eq_of_lt hj]
    · rw [List.getElem?_append_right (by omega), getElem?_replicate_flatten l hl m (j - l.length)]
      rw [Nat.add_mul, Nat.one_mul, Nat.mod_eq_sub_mod (by omega : l.length ≤ j)]
      by_cases h : j - l.length < m * l.length
      · rw [if_pos h, if_pos (by omega)]
      · rw [if_neg h, if_neg (by omega)]
theorem zerosCR {zs : List V} {z : Array Value} (h : CR w L φ B zs z.toList) (hz : 0 < z.size) (m : Nat) :
    CR w L φ B (List.replicate m zs).flatten ((Array.range (m * z.size)).map (z[· % z.size]!)).toList := by
  have hl : zs.length = z.size := by simpa using h.1
  refine ⟨by simp [hl], fun j x v hx hv => ?_⟩
  rw [getElem?_replicate_flatten zs (by omega)] at hx
  split at hx
  · rename_i hj
    rw [hl] at hx hj
    simp only [Array.toList_map, Array.toList_range, List.getElem?_map, List.getElem?_range hj, Option.map_some, Option.some.injEq] at hv
    subst hv
    have hmod : j % z.size < z.size := Nat.mod_lt _ hz
    refine h.2 (j % z.size) x _ hx ?_
    simp [hmod, getElem!_pos]
  · simp at hx
theorem fits_spec {m bytes : Nat} (h : fits m bytes = true) : m * bytes ≤ 140737488355328 ∧ m ≤ 9223372036854775807 := by
  unfold fits at h; simp at h; exact h
theorem closed_row {xs : List V} {vs : List Value} (h1 : xs.length = vs.length) (h2 : ∀ (j : Nat) (x : V) (v : Value), xs[j]? = some x → vs[j]? = some v → RepC w L x v) :
    ∀ (j : Nat) (x : V), xs[j]? = some x → ∃ v, vs.toArray[j]? = some v ∧ RepS w L φ B x v := by
  intro j x hx
  obtain ⟨v, hv⟩ : ∃ v, vs[j]? = some v := by
    rcases Nat.lt_or_ge j vs.length with h | h
    · exact ⟨vs[j], by simp [h]⟩
    · rw [List.getElem?_eq_none (by omega)] at hx; simp at hx
  exact ⟨v, by simpa using hv, .c (h2 j x v hx hv)⟩
theorem op_buildSlice (hT : TabOk P T) (h : Sim F n s a w φ) {k : Nat} (hf : fresh s k) {t e : TypeId} {ti ei : TI} (ht : T t = some ti) (hd : ti.d = .slice e) (he : T e = some ei) {len : Nat} {parts : Array (Nat × Operand)}
    (hlen : len * ei.size ≤ 16777216 ∧ 0 < ei.size) {cs ys : List V} {l : List (Id × Ob)}
    (hfill : fillV (fun j => some (j * ei.size, ei.size)) (List.replicate len ei.zero).flatten (parts.toList.map fun (j, x) => (j, s.ev x)) = some cs) (hfz : (fz cs).run s.getO = some (ys, l))
    (hnd : (l.map fun q => q.1.1).Nodup) :
    ∃ v w' φ', (Instr.buildSlice t len (parts.map fun (i, x) => (i, a.eval x))).run P w = .ok v w' ∧
      Sim F n { s with h := lay s.h ((l.map fun q => (q.1.1, { q.2 with c := .froz })) ++ [(k, ⟨s.ep, .live, true, ys⟩)]) } a w' φ' ∧
      Rep w' (LiveB F { s with h := lay s.h ((l.map fun q => (q.1.1, { q.2 with c := .froz })) ++ [(k, ⟨s.ep, .live, true, ys⟩)]) } φ') φ'
        (Born { s with h := lay s.h ((l.map fun q => (q.1.1, { q.2 with c := .froz })) ++ [(k, ⟨s.ep, .live, true, ys⟩)]) }) (.sref (k, s.ep) 0 len ei.size) v := by
  obtain ⟨info, d, z, hr⟩ := hT t ti ht
  have := dscOf_slice (hd ▸ hr.dsc); subst this
  obtain ⟨infoe, de, ze, hre⟩ := hT e ei he
  have hzs : ze.cells.size = ei.size := hre.zsize
  have hz := zerosCR (hre.zeroCR (w := w) (L := LiveB F s φ) (φ := φ) (B := Born s)) (by omega) len
  obtain ⟨arr, k1, k2⟩ := fill_ok _ _ _ _ _ _ (h.parts parts.toList) hz hfill
  obtain ⟨m1, m2, m3, m4⟩ := fz_spec h cs arr.toList ys l hfz k2
  obtain ⟨f1, f2, f3⟩ := Sim.freeze l s hnd m1 h
  have hsz : ys.length = arr.size := by simpa using m2
  have hcs : cs.length = len * ei.size := by
    have hfl : ∀ (ps : List (Nat × V)) (c c' : List V), fillV (fun j => some (j * ei.size, ei.size)) c ps = some c' → c'.length = c.length := by
      intro ps
      induction ps with
      | nil => intro c c' hh; simp [fillV] at hh; rw [hh]
      | cons p ps ih =>
        intro c c' hh
        unfold fillV at hh
        simp only at hh
        split at hh
        · cases hsp : splice c (p.1 * ei.size) p.2.cells with
          | none => simp [hsp] at hh
          | some c1 => simp only [hsp] at hh; rw [ih _ _ hh, (splice_some hsp).2.1]
        · simp at hh
    rw [hfl _ _ _ hfill]
    have : ei.zero.length = ei.size := by have := (hre.zeroCR (w := w) (L := LiveB F s φ) (φ := φ) (B := Born s)).1; simpa [hzs] using this
    simp [this]
  have hf' : fresh { s with h := lay s.h (l.map fun q => (q.1.1, { q.2 with c := .froz })) } k := by
    intro o ho
    by_cases hk : k ∈ (l.map fun q => (q.1.1, ({ q.2 with c := .froz } : Ob))).map (·.1)
    · simp only [List.map_map, List.mem_map, Function.comp] at hk
      obtain ⟨q, hq, hqk⟩ := hk
      obtain ⟨g1, g2, _⟩ := m1 q hq
      obtain ⟨g3, g4, _⟩ := getO_some.1 g1
      have hfr := hf q.2 (by rw [← hqk]; exact g3)
      have hlook : ∀ (l : List (Id × Ob)) (hh : List (Nat × Ob)), (∀ q ∈ l, q.2.ep < s.ep ∨ q.1.1 ≠ k) → (∀ o, look hh k = some o → o.ep < s.ep) → ∀ o, look (lay hh (l.map fun q => (q.1.1, { q.2 with c := .froz }))) k = some o → o.ep < s.ep := by
        intro l
        induction l with
        | nil => intro hh _ h2 o ho; exact h2 o ho
        | cons p l ih =>
          intro hh h1 h2 o ho
          rw [List.map_cons, lay_cons] at ho
          refine ih _ (fun q hq => h1 q (by simp [hq])) (fun o' ho' => ?_) o ho
          rw [look_put] at ho'
          split at ho'
          · rename_i e; injection ho' with ho'; subst ho'
            rcases h1 p (by simp) with h | h
            · exact h
            · exact absurd e.symm h
          · exact h2 o' ho'
      refine hlook l s.h (fun q hq => ?_) hf o ho
      by_cases e : q.1.1 = k
      · obtain ⟨g1, _, _⟩ := m1 q hq
        obtain ⟨g3, _, _⟩ := getO_some.1 g1
        exact .inl (hf q.2 (by rw [← e]; exact g3))
      · exact .inr e
    · exact hf o (by rw [← look_lay _ s.h k hk]; exact ho)
  have hrep := m4 (LiveB F { s with h := lay s.h (l.map fun q => (q.1.1, { q.2 with c := .froz })) } φ) (fun b hb => by
    rcases f2.lv b hb with hb' | hb'
    · exact hb'
    · rcases hb with hF | ⟨i, o, base, ho, hl, hφ⟩
      · exact .inl hF
      rcases f1.objs i o ho with ⟨b', base', p1, p2, _⟩ | ⟨p1, _⟩
      · rw [p1] at hφ; injection hφ with hφ; injection hφ with e1 _; omega
      · rw [p1] at hφ; simp at hφ) f3
  have hcr := f1.create (k := k) (row := true) (cells := ys) (w' := w.alloc (.cells arr e)) (b0 := w.heap.size) hf' (f1.kept.alloc _) (Nat.le_refl _) (by simp) (fun b hb => heap_alloc_old w _ b hb)
    ⟨arr, e, heap_alloc_new w _, by omega, fun j x hx => by
      obtain ⟨v, hv, hr'⟩ := closed_row (φ := φ) (B := Born { s with h := lay s.h (l.map fun q => (q.1.1, { q.2 with c := .froz })) }) m2 hrep j x hx
      exact ⟨v, by simpa using hv, hr'⟩⟩ (fun _ => m3)
  have hstate : put (lay s.h (l.map fun q => (q.1.1, ({ q.2 with c := .froz } : Ob)))) k ⟨s.ep, .live, true, ys⟩ = lay s.h ((l.map fun q => (q.1.1, ({ q.2 with c := .froz } : Ob))) ++ [(k, ⟨s.ep, .live, true, ys⟩)]) := by
    rw [lay_append]; rfl
  simp only [hstate] at hcr
  refine ⟨.slice (some ⟨w.heap.size, 0, none⟩) len len, _, _, ?_, hcr, .s (.sref (.inr ⟨rfl, ⟨s.ep, .live, true, ys⟩, by rw [← hstate]; simp [look_put], rfl⟩) rfl fun lc hl => ?_)⟩
  · have hle : ¬ (len * infoe.size > 2 ^ 24) := by rw [hre.size]; omega
    have hfill' : Instr.fill (fun i => some (i * infoe.size, infoe.size)) ((Array.range (len * infoe.size)).map ((if len * infoe.size = 0 then #[] else ze.cells)[· % (if len * infoe.size = 0 then #[] else ze.cells).size]!)) (parts.map fun (i, x) => (i, a.eval x)).toList = some arr := by
      rw [hre.size]
      by_cases h0 : len * ei.size = 0
      · have : len = 0 := by rcases Nat.mul_eq_zero.1 h0 with h | h; exact h; omega
        subst this
        have := k1
        simpa [hzs, show Array.range 0 = #[] from rfl] using this
      · rw [if_neg h0]
        have := k1
        rw [hzs] at this
        simpa [hzs] using this
    simp only [Instr.buildSlice, Sem.run_bind, run_underlying hr.und, Result.andThen_ok, sizeOf, typeInfo, run_program, hre.inf, Sem.run_pure]
    rw [if_neg (by rw [hre.size]; omega)]
    split
    · rename_i h0
      simp only [h0, if_true] at hfill'
      simp only [Sem.run_bind, Sem.run_pure, Result.andThen_ok, h0]
      rw [hfill']
      simp [newRow]
    · rename_i h0
      simp only [h0, if_false] at hfill'
      simp only [Sem.run_bind, Sem.run_pure, Result.andThen_ok, zeroValue, typeInfo, run_program, hre.inf, hre.zero]
      rw [hfill']
      simp [newRow]
  · simp [setL] at hl; subst hl
    exact ⟨len, Nat.le_refl _, .inr ⟨by simp, arr, e, heap_alloc_new w _, by have : arr.size = len * ei.size := by rw [← hcs, k2.1]; simp
                                                                             omega⟩⟩
end Go.Ab
set_option linter.unusedSimpArgs false
set_option linter.unusedVariables false
namespace Go.Ab
variable {P : Program} {T : Tab} {F : Fr} {n : Nat} {s : St} {a : Act} {w w' : World} {φ φ' : Id → Option Loc} {L : Nat → Prop} {B : Id → Prop}
theorem wrap_nat {m : Int} (h0 : 0 ≤ m) (h1 : m ≤ 9223372036854775807) : IntKind.i64.wrap m = m := by
  rw [IntKind.wrap_i64]; omega
theorem op_makeSlice (hT : TabOk P T) (h : Sim F n s a w φ) {k : Nat} (hf : fresh s k) {t e : TypeId} {ti ei : TI} (ht : T t = some ti) (hd : ti.d = .slice e) (he : T e = some ei) {pl pc : Operand} {m : Nat}
    (h1 : idx (s.ev pl) = some (m : Int)) (h2 : idx (s.ev pc) = some (m : Int)) (hsz : 0 < ei.size) (hfit : fits m ei.bytes = true) (hcl : ei.zero.all V.closed = true) :
    ∃ v w' φ', (Instr.makeSlice t (a.eval pl) (a.eval pc)).run P w = .ok v w' ∧ Sim F n { s with h := put s.h k ⟨s.ep, .live, true, (List.replicate m ei.zero).flatten⟩ } a w' φ' ∧
      Rep w' (LiveB F { s with h := put s.h k ⟨s.ep, .live, true, (List.replicate m ei.zero).flatten⟩ } φ') φ' (Born { s with h := put s.h k ⟨s.ep, .live, true, (List.replicate m ei.zero).flatten⟩ }) (.sref (k, s.ep) 0 m ei.size) v := by
  obtain ⟨info, d, z, hr⟩ := hT t ti ht
  have := dscOf_slice (hd ▸ hr.dsc); subst this
  obtain ⟨infoe, de, ze, hre⟩ := hT e ei he
  obtain ⟨k1, e1⟩ := rep_idx (h.ev pl) h1
  obtain ⟨k2, e2⟩ := rep_idx (h.ev pc) h2
  obtain ⟨f1, f2⟩ := fits_spec hfit
  have hzs : ze.cells.size = ei.size := hre.zsize
  have hz := zerosCR (hre.zeroCR (w := w) (L := LiveB F s φ) (φ := φ) (B := Born s)) (by omega) m
  have hw : IntKind.i64.wrap (m : Int) = (m : Int) := wrap_nat (by omega) (by omega)
  have hcr := h.create (k := k) (row := true) (cells := (List.replicate m ei.zero).flatten) (w' := w.alloc (.cells ((Array.range (m * ze.cells.size)).map (ze.cells[· % ze.cells.size]!)) e)) (b0 := w.heap.size) hf (h.kept.alloc _) (Nat.le_refl _)
    (by simp) (fun b hb => heap_alloc_old w _ b hb) ⟨_, e, heap_alloc_new w _, by rw [hz.1]; simp, fun j x hx => by
      obtain ⟨v, hv⟩ : ∃ v, ((Array.range (m * ze.cells.size)).map (ze.cells[· % ze.cells.size]!)).toList[j]? = some v := by
        rcases Nat.lt_or_ge j ((Array.range (m * ze.cells.size)).map (ze.cells[· % ze.cells.size]!)).toList.length with hh | hh
        · exact ⟨_, List.getElem?_eq_getElem hh⟩
        · rw [List.getElem?_eq_none (by rw [hz.1]; exact hh)] at hx; simp at hx
      exact ⟨v, by rw [Array.getElem?_toList] at hv; exact hv, hz.2 j x v hx hv⟩⟩ (fun _ x hx => by
        simp only [List.mem_flatten, List.mem_replicate] at hx
        obtain ⟨l, ⟨_, rfl⟩, hx⟩ := hx
        exact List.all_eq_true.1 hcl x hx)
  refine ⟨.slice (some ⟨w.heap.size, 0, none⟩) m m, _, _, ?_, hcr, .s (.sref (.inr ⟨rfl, ⟨s.ep, .live, true, (List.replicate m ei.zero).flatten⟩, by simp [look_put], rfl⟩) rfl fun lc hl => ?_)⟩
  · have hb : ¬ ((infoe.bytes : Int) * (m : Int) > 2 ^ 48) := by
      rw [hre.bytes]
      have : ((ei.bytes : Int) * (m : Int)) = ((m * ei.bytes : Nat) : Int) := by rw [Nat.mul_comm]; simp
      rw [this]; omega
    have hc : (decide ((m : Int) < 0) || decide ((infoe.bytes : Int) * (m : Int) > 2 ^ 48)) = false := by simp; simpa using hb
    simp only [Instr.makeSlice, Sem.run_bind, run_underlying hr.und, Result.andThen_ok, asInt, asIntOf, e1, e2, Sem.run_pure, typeInfo, run_program, hre.inf, hw]
    rw [if_neg (by simp; simpa using hb)]
    simp only [Sem.run_bind, run_askRoom, Result.andThen_ok, sizeOf, typeInfo, run_program, hre.inf, Sem.run_pure, hre.size, Int.toNat_natCast]
    split
    · rename_i h0
      have : m = 0 := by rcases Nat.mul_eq_zero.1 h0 with hh | hh; exact hh; omega
      subst this
      simp [newRow, show Array.range 0 = #[] from rfl]
    · simp [zeroValue, typeInfo, hre.inf, hre.zero, newRow, hzs]
  · simp [setL] at hl; subst hl
    exact ⟨m, Nat.le_refl _, .inr ⟨by simp, _, e, heap_alloc_new w _, by simp [hzs]⟩⟩
theorem repc_closed {x : V} {v : Value} (h : RepC w L x v) : x.closed = true := by cases h <;> rfl
theorem src_spec (h : Sim F n s a w φ) {x : Operand} {sz m : Nat} {cs : List V} (hq : (srcV (s.ev x) sz).run s.getO = some (m, cs)) :
    ∃ (A : Option Addr) (cap : Nat) (vs : List Value), a.eval x = .slice A m cap ∧ cs.length = m * sz ∧ vs.length = cs.length ∧ (∀ y ∈ cs, y.closed = true) ∧ (∀ (j : Nat) (y : V) (v : Value), cs[j]? = some y → vs[j]? = some v → RepC w (LiveB F s φ) y v) ∧
      (∀ b, A = some b → ∀ (j : Nat) (v : Value), vs[j]? = some v → w.cell? (b.add j) = some v) ∧ (A = none → m = 0) := by
  have hx := h.ev x
  unfold srcV at hq
  split at hq
  · rename_i e
    rw [e] at hx
    simp [Q.run] at hq
    obtain ⟨rfl, rfl⟩ := hq
    exact ⟨none, 0, [], rep_nils hx, by simp, rfl, by simp, fun j y v hy => by simp at hy, fun b hb => by simp at hb, fun _ => rfl⟩
  · rename_i sz' m' cs' e
    rw [e] at hx
    split at hq
    · rename_i hsz
      simp [Q.run] at hq
      obtain ⟨rfl, rfl⟩ := hq
      rcases rep_ro hx with ⟨b, base, cap, f, g1, g2, g3, g4, g5, g6, g7⟩ | ⟨rfl, rfl, A, cap, g1⟩
      · have hcl : ∀ y ∈ cs', y.closed = true := by
          intro y hy
          obtain ⟨j, hj⟩ := List.getElem?_of_mem hy
          exact repc_closed (g7 j y hj)
        refine ⟨_, cap, (List.range cs'.length).map f, g1, by rw [← hsz]; exact g3, by simp, hcl, fun j y v hy hv => ?_, fun ad had j v hv => ?_, fun hh => by simp at hh⟩
        · have hj : j < cs'.length := by
            rcases Nat.lt_or_ge j cs'.length with h1 | h1
            · exact h1
            · rw [List.getElem?_eq_none h1] at hy; simp at hy
          simp [List.getElem?_range hj] at hv; subst hv
          exact g7 j y hy
        · injection had with had; subst had
          rw [Addr.add_mid]
          have hj : j < cs'.length := by
            rcases Nat.lt_or_ge j cs'.length with h1 | h1
            · exact h1
            · rw [List.getElem?_eq_none (by simpa using h1)] at hv; simp at hv
          simp [List.getElem?_range hj] at hv; subst hv
          exact g6 j cs'[j] (by simp [hj])
      · exact ⟨A, cap, [], g1, by simp, rfl, by simp, fun j y v hy => by simp at hy, fun b _ j v hv => by simp at hv, fun _ => rfl⟩
    · simp [Q.run] at hq
  · rename_i i off m' sz' e
    rw [e] at hx
    split at hq
    · rename_i hsz
      simp only [Q.run] at hq
      cases hob : s.getO i with
      | none => simp [hob] at hq
      | some o =>
        simp only [hob] at hq
        split at hq
        · rename_i hrow
          split at hq
          · rename_i cs' hsub
            simp [Q.run] at hq
            obtain ⟨rfl, rfl⟩ := hq
            obtain ⟨s1, s2, s3⟩ := sub_some hsub
            have hmem : ∀ y ∈ cs', y ∈ o.cells := by
              intro y hy
              obtain ⟨j, hj⟩ := List.getElem?_of_mem hy
              have hj' : j < m' * sz := by
                rcases Nat.lt_or_ge j (m' * sz) with h1 | h1
                · exact h1
                · rw [List.getElem?_eq_none (by omega)] at hj; simp at hj
              rw [s3 j hj'] at hj
              exact List.mem_of_getElem? hj
            have hcl : ∀ y ∈ cs', y.closed = true := by
              intro y hy
              simp only [Bool.or_eq_true] at hrow
              rcases hrow with hr | hr
              · exact h.rows i o hob hr y (hmem y hy)
              · exact List.all_eq_true.1 hr y (hmem y hy)
            obtain ⟨lc, g1, g2, g3, g4⟩ := h.at_sref hob hx
            have hz : ∀ A cap, a.eval x = .slice A 0 cap → m' = 0 → ∃ (A : Option Addr) (cap : Nat) (vs : List Value), a.eval x = .slice A m' cap ∧ cs'.length = m' * sz ∧ vs.length = cs'.length ∧ (∀ y ∈ cs', y.closed = true) ∧
                (∀ (j : Nat) (y : V) (v : Value), cs'[j]? = some y → vs[j]? = some v → RepC w (LiveB F s φ) y v) ∧ (∀ b, A = some b → ∀ (j : Nat) (v : Value), vs[j]? = some v → w.cell? (b.add j) = some v) ∧ (A = none → m' = 0) := by
              rintro A cap hA rfl
              have : cs' = [] := List.eq_nil_of_length_eq_zero (by omega)
              subst this
              exact ⟨A, cap, [], hA, by simp, rfl, by simp, fun j y v hy => by simp at hy, fun b _ j v hv => by simp at hv, fun _ => rfl⟩
            cases lc with
            | empty => obtain ⟨_, h00, A, hA⟩ := g2; subst h00; exact hz A 0 hA rfl
            | «at» b base =>
              obtain ⟨cap, c1, c2⟩ := g2
              rcases c2 with ⟨h00, rfl, A, hA⟩ | ⟨c2, _⟩
              · subst h00; exact hz (some A) 0 hA rfl
              · obtain ⟨vs, v1, v2, v3⟩ := ((g3 b base rfl).1.cellsAt.sub hsub).vals
                refine ⟨_, cap, vs, c2, s2, v1, hcl, fun j y v hy hv => reps_closed (v3 j y v hy hv) (hcl y (List.mem_of_getElem? hy)), fun ad had j v hv => ?_, fun hh => by simp at hh⟩
                injection had with had; subst had
                rw [Addr.add_mid]; exact v2 j v hv
          · simp [Q.run] at hq
        · simp [Q.run] at hq
    · simp [Q.run] at hq
  · simp [Q.run] at hq
theorem bind_run {α β : Type} {q : Q α} {f : α → Q β} {h : Id → Option Ob} {y : β} (hq : (q.bind f).run h = some y) : ∃ x, q.run h = some x ∧ (f x).run h = some y := by
  induction q with
  | ret x => exact ⟨x, rfl, hq⟩
  | ask i k ih =>
    simp only [Q.bind, Q.run] at hq ⊢
    cases ho : h i with
    | none => simp [ho] at hq
    | some o => simp only [ho] at hq ⊢; exact ih o hq
  | fail => simp [Q.bind, Q.run] at hq
theorem run_firstCells {A : Option Addr} {len cap size m : Nat} {vs : List Value} (hl : vs.length = m * size) (hv : ∀ b, A = some b → ∀ (j : Nat) (v : Value), vs[j]? = some v → w.cell? (b.add j) = some v) (hn : A = none → m = 0) :
    (Builtin.firstCells size m (.slice A len cap)).run P w = .ok vs.toArray w := by
  cases A with
  | none =>
    have := hn rfl; subst this
    have : vs = [] := List.eq_nil_of_length_eq_zero (by omega)
    subst this; rfl
  | some b =>
    have := run_loadCells_list (P := P) w b vs (hv b rfl)
    rw [hl] at this
    exact this
theorem size_zeroCells' (z : Array Value) (m : Nat) : (Builtin.zeroCells z m).size = m * z.size := by simp [Builtin.zeroCells]
theorem run_append (t ty e : TypeId) (i : TypeInfo) (z : Value) (ht : P.underlying t = some (.slice e)) (hi : P.info? e = some i) (hz : i.zero = some z)
    (A : Option Addr) (sLen sCap : Nat) (olds : List Value) (hlo : olds.length = sLen * i.size) (ho : ∀ b, A = some b → ∀ (j : Nat) (v : Value), olds[j]? = some v → w.cell? (b.add j) = some v) (hno : A = none → sLen = 0)
    (X : Option Addr) (m cap : Nat) (news : List Value) (hln : news.length = m * i.size) (hx : ∀ b, X = some b → ∀ (j : Nat) (v : Value), news[j]? = some v → w.cell? (b.add j) = some v) (hnx : X = none → m = 0)
    (hle : sLen ≤ sCap) (hcap : A = none → sCap = 0) (h63 : sLen + m ≤ 9223372036854775807) (hb : (sLen + m) * i.bytes ≤ 140737488355328) :
    (∃ ad, A = some ad ∧ sLen + m ≤ sCap ∧ ∀ b o, ad = ⟨b, o, none⟩ → (∀ j, j < news.length → (w.cell? ⟨b, o + sLen * i.size + j, none⟩).isSome = true ∧ w.frozen? ⟨b, o + sLen * i.size + j, none⟩ = false) → (∀ v ∈ news, v.oneCell' = true) →
      (Builtin.append_ #[t, t] ty #[.slice A sLen sCap, .slice X m cap]).run P w = .ok (.slice A (sLen + m) sCap) (w.setCells b (o + sLen * i.size) news)) ∨
    (sLen + m = 0 ∧ A = none ∧ (Builtin.append_ #[t, t] ty #[.slice A sLen sCap, .slice X m cap]).run P w = .ok (.slice none 0 0) w) ∨
    (sCap < sLen + m ∧ ∃ cap', sLen + m ≤ cap' ∧ (Builtin.append_ #[t, t] ty #[.slice A sLen sCap, .slice X m cap]).run P w =
      .ok (.slice (some ⟨w.heap.size, 0, none⟩) (sLen + m) cap') (w.drew.alloc (.cells (olds.toArray ++ news.toArray ++ Builtin.zeroCells z.cells (cap' - (sLen + m))) e))) := by
  have hf := run_firstCells (P := P) (len := m) (cap := cap) hln hx hnx
  by_cases hroom : sLen + m ≤ sCap
  · cases A with
    | none =>
      have := hno rfl; subst this
      have := hcap rfl; subst this
      have hm : m = 0 := by omega
      subst hm
      refine .inr (.inl ⟨rfl, rfl, ?_⟩)
      simp [Builtin.append_, run_underlying ht, sizeOf, typeInfo, hi, Builtin.lenOf, hf]
    | some ad =>
      refine .inl ⟨ad, rfl, hroom, fun b o hA hc h1 => ?_⟩
      subst hA
      have hst := run_storeCells_cells (P := P) b (o + sLen * i.size) news 0 w (fun j hj => by simpa using (hc j hj).1) (fun j hj => by simpa using (hc j hj).2) h1
      simp only [Nat.add_zero] at hst
      simp [Builtin.append_, run_underlying ht, sizeOf, typeInfo, hi, Builtin.lenOf, hf, hroom, Addr.add_mid, hst]
  · refine .inr (.inr ⟨by omega, grownCap w (sLen + m) sCap e, grownCap_ge w _ _ e, ?_⟩)
    have hf1 := run_firstCells (P := P) (w := w.drew) (len := m) (cap := cap) hln (fun b hb j v hv => by simpa using hx b hb j v hv) hnx
    have hf2 := run_firstCells (P := P) (w := w.drew) (len := sLen) (cap := sCap) hlo (fun b hb j v hv => by simpa using ho b hb j v hv) hno
    have h63' : ¬ (9223372036854775807 < ((sLen : Int) + (m : Int))) := by omega
    have hfit := growslice_fits (need := sLen + m) (old := sCap) (bytes := i.bytes) (by omega) hb
    have h48' : ¬ (281474976710656 < Builtin.nextslicecap (sLen + m) sCap * i.bytes) := by omega
    simp [Builtin.append_, run_underlying ht, sizeOf, typeInfo, zeroValue, hi, hz, Builtin.lenOf, hroom, h63', h48', Question.forced, hf1, hf2, newRow, grownCap]
    congr 2
    apply Array.ext'
    simp [List.append_assoc]
theorem run_append0 (t ty e : TypeId) (i : TypeInfo) (ht : P.underlying t = some (.slice e)) (hi : P.info? e = some i)
    (A : Option Addr) (sLen sCap : Nat) (hle : sLen ≤ sCap) (X : Option Addr) (cap : Nat) :
    (Builtin.append_ #[t, t] ty #[.slice A sLen sCap, .slice X 0 cap]).run P w = .ok (.slice A sLen sCap) w := by
  have hf := run_firstCells (P := P) (w := w) (A := X) (len := 0) (cap := cap) (size := i.size) (m := 0) (vs := []) (by simp) (by simp) (by simp)
  cases A <;> simp [Builtin.append_, run_underlying ht, sizeOf, typeInfo, hi, Builtin.lenOf, hf, hle, storeCells]
end Go.Ab
set_option linter.unusedSimpArgs false
set_option linter.unusedVariables false
namespace Go.Ab
variable {P : Program} {T : Tab} {F : Fr} {n : Nat} {s : St} {a : Act} {w w' : World} {φ φ' : Id → Option Loc} {L : Nat → Prop} {B : Id → Prop}
def ApOk (P : Program) (F : Fr) (n : Nat) (s : St) (a : Act) (w : World) (r : Result Value) (eff : Eff) : Prop :=
  ∃ v w' φ', r = .ok v w' ∧ Sim F n { s with h := lay s.h eff.w } a w' φ' ∧ Rep w' (LiveB F { s with h := lay s.h eff.w } φ') φ' (Born { s with h := lay s.h eff.w }) eff.val v
theorem rep_new {h' : List (Nat × Ob)} {k : Nat} {o : Ob} (hl : look h' k = some o) (hep : o.ep = s.ep) {lc : Loc} {len sz : Nat} {v : Value} (h1 : v.oneCell' = true) (hv : SrefOk w' lc 0 len sz v)
    (hφ : φ' (k, s.ep) = some lc) : Rep w' (LiveB F { s with h := h' } φ') φ' (Born { s with h := h' }) (.sref (k, s.ep) 0 len sz) v := by
  refine .s (.sref (.inr ⟨rfl, o, hl, hep⟩) h1 fun l hl' => ?_)
  rw [hφ] at hl'; injection hl' with hl'; subst hl'; exact hv
theorem op_append (hT : TabOk P T) (h : Sim F n s a w φ) {k : Nat} (hf : fresh s k) {t ty : TypeId} {ps px : Operand} {eff : Eff} (hq : (appendV T k s.ep t (s.ev ps) (s.ev px)).run s.getO = some eff) :
    ApOk P F n s a w ((Builtin.append_ #[t, t] ty #[a.eval ps, a.eval px]).run P w) eff := by
  have hs := h.ev ps
  unfold appendV at hq
  cases ht : T t with
  | none => simp [ht, Q.run] at hq
  | some ti =>
    obtain ⟨info, d, z, hr⟩ := hT t ti ht
    simp only [ht] at hq
    split at hq
    · rename_i e hd
      have := dscOf_slice (hd ▸ hr.dsc); subst this
      split at hq
      · simp [Q.run] at hq
      · rename_i ei he
        obtain ⟨infoe, de, ze, hre⟩ := hT e ei he
        split at hq
        · rename_i hsz
          obtain ⟨⟨m, cs⟩, hsrc, hq⟩ := bind_run hq
          obtain ⟨X, cap, news, hX, hcl, hvl, hclosed, hrep, hcell, hXn⟩ := src_spec h hsrc
          simp only at hq
          have hnl : news.length = m * infoe.size := by rw [hre.size, hvl, hcl]
          have hone : ∀ v ∈ news, v.oneCell' = true := by
            intro v hv
            obtain ⟨j, hj⟩ := List.getElem?_of_mem hv
            obtain ⟨y, hy⟩ : ∃ y, cs[j]? = some y := by
              rcases Nat.lt_or_ge j cs.length with h1 | h1
              · exact ⟨cs[j], by simp [h1]⟩
              · rw [List.getElem?_eq_none (by omega)] at hj; simp at hj
            refine reps_one (L := LiveB F s φ) (φ := φ) (B := Born s) (.c (hrep j y v hy hj)) ?_
            have := hclosed y (List.mem_of_getElem? hy)
            cases y <;> simp_all [V.closed, V.single]
          -- a new block that holds olds ++ news
          have arrNew : ∀ (olds : List Value) (xs : List V) (c : Nat), xs.length = olds.length → (∀ (j : Nat) (x : V) (v : Value), xs[j]? = some x → olds[j]? = some v → RepC w (LiveB F s φ) x v) →
              (xs ++ cs).length ≤ (olds.toArray ++ news.toArray ++ Builtin.zeroCells ze.cells c).size ∧ ∀ (j : Nat) (x : V), (xs ++ cs)[j]? = some x →
                ∃ v, (olds.toArray ++ news.toArray ++ Builtin.zeroCells ze.cells c)[j]? = some v ∧ RepS w (LiveB F s φ) φ (Born s) x v := by
            intro olds xs c hlo hro
            refine ⟨by simp; omega, fun j x hx => ?_⟩
            have hj : j < xs.length + cs.length := by
              rcases Nat.lt_or_ge j (xs ++ cs).length with h1 | h1
              · simpa using h1
              · rw [List.getElem?_eq_none h1] at hx; simp at hx
            have hlist : (olds.toArray ++ news.toArray ++ Builtin.zeroCells ze.cells c)[j]? = (olds ++ news)[j]? := by
              rw [Array.getElem?_append_left (by simp; omega)]
              simp [List.getElem?_append, Array.getElem?_append]
            rw [hlist]
            by_cases h1 : j < xs.length
            · rw [List.getElem?_append_left h1] at hx
              rw [List.getElem?_append_left (by omega)]
              obtain ⟨v, hv⟩ : ∃ v, olds[j]? = some v := ⟨olds[j]'(by omega), by simp⟩
              exact ⟨v, hv, .c (hro j x v hx hv)⟩
            · rw [List.getElem?_append_right (by omega)] at hx
              rw [List.getElem?_append_right (by omega), ← hlo]
              obtain ⟨v, hv⟩ : ∃ v, news[j - xs.length]? = some v := ⟨news[j - xs.length]'(by omega), by simp⟩
              exact ⟨v, hv, .c (hrep _ x v hx hv)⟩
          have hdrewold : ∀ (o : Obj) b, b < w.heap.size → (w.drew.alloc o).heap[b]? = w.heap[b]? := fun o b hb => heap_alloc_old w.drew o b hb
          split at hq
          · rename_i hps
            rw [hps] at hs
            have hsv := rep_nils hs
            split at hq
            · rename_i hfit
              obtain ⟨f1, f2⟩ := fits_spec hfit
              simp [Q.run] at hq; subst hq
              rw [hsv, hX]
              by_cases hm : m = 0
              · subst hm
                have hcs : cs = [] := List.eq_nil_of_length_eq_zero (by omega)
                subst hcs
                exact ⟨_, w, _, run_append0 t ty e infoe hr.und hre.inf none 0 0 (Nat.le_refl _) X cap, h.createE hf,
                  rep_new (o := ⟨s.ep, .live, true, []⟩) (by simp [lay, look_put]) rfl rfl (lc := .empty) ⟨rfl, rfl, none, rfl⟩ (by simp [setL])⟩
              · rcases run_append (P := P) (w := w) t ty e infoe ze hr.und hre.inf hre.zero none 0 0 [] (by simp) (by simp) (fun _ => rfl) X m cap news hnl hcell hXn (Nat.le_refl _) (fun _ => rfl) (by omega) (by rw [hre.bytes]; simpa using f1)
                  with ⟨ad, hA, _⟩ | ⟨h0, _⟩ | ⟨hlt, cap', hc', hrun⟩
                · simp at hA
                · omega
                · obtain ⟨g1, g2⟩ := arrNew [] [] (cap' - (0 + m)) rfl (by simp)
                  have hcr := h.create (k := k) (row := true) (cells := cs) (w' := w.drew.alloc (.cells ((([] : List Value).toArray ++ news.toArray ++ Builtin.zeroCells ze.cells (cap' - (0 + m)))) e)) (b0 := w.heap.size) hf
                    (h.kept.drew.alloc _) (Nat.le_refl _) (by simp) (hdrewold _) ⟨_, e, heap_alloc_new w.drew _, by simpa using g1, by simpa using g2⟩ (fun _ => hclosed)
                  refine ⟨_, _, _, by simpa using hrun, hcr, rep_new (o := ⟨s.ep, .live, true, cs⟩) (by simp [lay, look_put]) rfl rfl (lc := .at w.heap.size 0) ?_ (by simp [setL])⟩
                  refine ⟨cap', by omega, .inr ⟨by simp, _, e, heap_alloc_new w.drew _, ?_⟩⟩
                  simp [size_zeroCells', hre.zsize, hvl, hcl]
                  rw [← Nat.add_mul]
                  exact Nat.mul_le_mul_right _ (by omega)
            · simp [Q.run] at hq
          · rename_i i off len sz hps
            rw [hps] at hs
            split at hq
            · rename_i hszz
              simp only [Q.run] at hq
              cases hob : s.getO i with
              | none => simp [hob] at hq
              | some o =>
                simp only [hob] at hq
                split at hq
                · rename_i hcond
                  obtain ⟨hlive, hrow, hend⟩ := hcond
                  split at hq
                  · rename_i hfit
                    obtain ⟨f1, f2⟩ := fits_spec hfit
                    simp [Q.run] at hq; subst hq
                    obtain ⟨lc, g1, g2, g3, g4⟩ := h.at_sref hob hs
                    obtain ⟨hlk, hoe, _⟩ := getO_some.1 hob
                    -- how the objects look
                    have hlook : ∀ j, look (lay s.h ((if i.1 = k then [] else [(i.1, { o with c := .gone })]) ++ [(k, ⟨s.ep, .live, true, o.cells.drop off ++ cs⟩)])) j =
                        if j = k then some ⟨s.ep, .live, true, o.cells.drop off ++ cs⟩ else if j = i.1 then some { o with c := .gone } else look s.h j := by
                      intro j
                      by_cases hik : i.1 = k
                      · simp only [hik, if_true, List.nil_append, lay, List.foldl_cons, List.foldl_nil, look_put]
                        by_cases hj : j = k <;> simp [hj]
                      · simp only [hik, if_false, List.singleton_append, lay, List.foldl_cons, List.foldl_nil, look_put]
                    have hdl : (o.cells.drop off).length = len * sz := by simp; omega
                    -- the row without cells
                    have hE : ∀ (A : Option Addr), len = 0 → m = 0 → a.eval ps = .slice A 0 0 → ApOk P F n s a w ((Builtin.append_ #[t, t] ty #[a.eval ps, a.eval px]).run P w)
                        ⟨.sref (k, s.ep) 0 (len + m) sz, (if i.1 = k then [] else [(i.1, { o with c := .gone })]) ++ [(k, ⟨s.ep, .live, true, o.cells.drop off ++ cs⟩)]⟩ := by
                      rintro A rfl rfl hA
                      have hcs : cs = [] := List.eq_nil_of_length_eq_zero (by omega)
                      have hdr : o.cells.drop off = [] := List.eq_nil_of_length_eq_zero (by omega)
                      subst hcs
                      rw [hdr] at hlook ⊢
                      rw [hA, hX]
                      have hrun := run_append0 (P := P) (w := w) t ty e infoe hr.und hre.inf A 0 0 (Nat.le_refl _) X cap
                      by_cases hik : i.1 = k
                      · have hS := h.createE hf
                        have hst : lay s.h ((if i.1 = k then [] else [(i.1, ({ o with c := .gone } : Ob))]) ++ [(k, ⟨s.ep, .live, true, [] ++ []⟩)]) = put s.h k ⟨s.ep, .live, true, []⟩ := by
                          simp [hik, lay]
                        refine ⟨_, w, _, hrun, by simp only [hst]; exact hS, ?_⟩
                        simp only [hst]
                        exact rep_new (o := ⟨s.ep, .live, true, []⟩) (by simp [look_put]) rfl rfl (lc := .empty) ⟨rfl, rfl, A, rfl⟩ (by simp [setL])
                      · have hS1 := h.goneO hob
                        have hf1 : fresh { s with h := put s.h i.1 { o with c := .gone } } k := by
                          intro p hp
                          rw [look_put, if_neg (fun e => hik e.symm)] at hp
                          exact hf p hp
                        have hS := hS1.createE hf1
                        have hst : lay s.h ((if i.1 = k then [] else [(i.1, ({ o with c := .gone } : Ob))]) ++ [(k, ⟨s.ep, .live, true, [] ++ []⟩)]) = put (put s.h i.1 { o with c := .gone }) k ⟨s.ep, .live, true, []⟩ := by
                          simp [hik, lay]
                        refine ⟨_, w, _, hrun, by simp only [hst]; exact hS, ?_⟩
                        simp only [hst]
                        exact rep_new (o := ⟨s.ep, .live, true, []⟩) (by simp [look_put]) rfl rfl (lc := .empty) ⟨rfl, rfl, A, rfl⟩ (by simp [setL])
                    -- a new block
                    have hG : ∀ (A : Option Addr) (scap : Nat) (olds : List Value), a.eval ps = .slice A len scap → len ≤ scap → scap < len + m → (A = none → scap = 0) → olds.length = len * sz →
                        (∀ b, A = some b → ∀ (j : Nat) (v : Value), olds[j]? = some v → w.cell? (b.add j) = some v) →
                        (∀ (j : Nat) (x : V) (v : Value), (o.cells.drop off)[j]? = some x → olds[j]? = some v → RepC w (LiveB F s φ) x v) →
                        ApOk P F n s a w ((Builtin.append_ #[t, t] ty #[a.eval ps, a.eval px]).run P w)
                        ⟨.sref (k, s.ep) 0 (len + m) sz, (if i.1 = k then [] else [(i.1, { o with c := .gone })]) ++ [(k, ⟨s.ep, .live, true, o.cells.drop off ++ cs⟩)]⟩ := by
                      intro A scap olds hA hle hlt hA0 hol hoc hor
                      rw [hA, hX]
                      rcases run_append (P := P) (w := w) t ty e infoe ze hr.und hre.inf hre.zero A len scap olds (by rw [hre.size, hol, hszz]) hoc (fun e => by have := hA0 e; omega) X m cap news hnl hcell hXn hle hA0 (by omega) (by rw [hre.bytes]; exact f1)
                        with ⟨ad, hA', hro, _⟩ | ⟨h0, _⟩ | ⟨_, cap', hc', hrun⟩
                      · omega
                      · omega
                      · obtain ⟨q1, q2⟩ := arrNew olds (o.cells.drop off) (cap' - (len + m)) (by rw [hdl, hol]) hor
                        have hmv := h.move hob hlive hrow hf hlook (w' := w.drew.alloc (.cells (olds.toArray ++ news.toArray ++ Builtin.zeroCells ze.cells (cap' - (len + m))) e)) (b1 := w.heap.size) (base1 := 0)
                          (h.kept.drew.alloc _) (by simp) (.inr (Nat.le_refl _)) (by simp) (fun b hb _ => hdrewold _ b hb) (fun arr e' hh => by have := lt_of_some hh; omega)
                          ⟨_, e, heap_alloc_new w.drew _, by simpa using q1, by simpa using q2⟩ (fun x hx => by
                            simp only [List.mem_append] at hx
                            rcases hx with hx | hx
                            · exact h.rows i o hob hrow x (List.mem_of_mem_drop hx)
                            · exact hclosed x hx)
                        refine ⟨_, _, _, hrun, hmv, rep_new (o := ⟨s.ep, .live, true, o.cells.drop off ++ cs⟩) (by rw [hlook]; simp) rfl rfl (lc := .at w.heap.size 0) ?_ (by simp [setM])⟩
                        refine ⟨cap', by omega, .inr ⟨by simp, _, e, heap_alloc_new w.drew _, ?_⟩⟩
                        simp [size_zeroCells', hre.zsize, hvl, hcl, hol, hszz]
                        rw [← Nat.add_mul, ← Nat.add_mul]
                        exact Nat.mul_le_mul_right _ (by omega)
                    cases lc with
                    | empty =>
                      obtain ⟨h0, h00, A, hA⟩ := g2
                      subst h00
                      by_cases hm : m = 0
                      · exact hE A rfl hm hA
                      · exact hG A 0 [] hA (Nat.le_refl _) (by omega) (fun _ => rfl) (by simp) (fun b _ j v hv => by simp at hv) (fun j x v _ hv => by simp at hv)
                    | «at» b base =>
                      obtain ⟨scap, c1, c2⟩ := g2
                      rcases c2 with ⟨h00, rfl, A, hA⟩ | ⟨c2, arr, e', c3, c4⟩
                      · subst h00
                        by_cases hm : m = 0
                        · exact hE (some A) rfl hm hA
                        · exact hG (some A) 0 [] hA (Nat.le_refl _) (by omega) (fun h => by simp at h) (by simp) (fun b _ j v hv => by simp at hv) (fun j x v _ hv => by simp at hv)
                      · obtain ⟨hat, hblt⟩ := g3 b base rfl
                        have hdrop : CellsAt w (LiveB F s φ) φ (Born s) b (base + off) (o.cells.drop off) := by
                          intro j x hx
                          rw [List.getElem?_drop] at hx
                          have := hat.cellsAt (off + j) x hx
                          rwa [← Nat.add_assoc] at this
                        obtain ⟨olds, o1, o2, o3⟩ := hdrop.vals
                        have hor : ∀ (j : Nat) (x : V) (v : Value), (o.cells.drop off)[j]? = some x → olds[j]? = some v → RepC w (LiveB F s φ) x v := fun j x v hx hv =>
                          reps_closed (o3 j x v hx hv) (h.rows i o hob hrow x (List.mem_of_mem_drop (List.mem_of_getElem? hx)))
                        by_cases hlt : scap < len + m
                        · exact hG _ scap olds c2 c1 hlt (fun h => by simp at h) (by rw [o1, hdl]) (fun ad had j v hv => by injection had with had; subst had; rw [Addr.add_mid]; exact o2 j v hv) hor
                        · rw [c2, hX]
                          have hmul : len * sz + m * sz ≤ scap * sz := by rw [← Nat.add_mul]; exact Nat.mul_le_mul_right _ (by omega)
                          rcases run_append (P := P) (w := w) t ty e infoe ze hr.und hre.inf hre.zero (some ⟨b, base + off, none⟩) len scap olds (by rw [hre.size, o1, hdl, hszz])
                              (fun ad had j v hv => by injection had with had; subst had; rw [Addr.add_mid]; exact o2 j v hv) (fun h => by simp at h) X m cap news hnl hcell hXn c1 (fun h => by simp at h) (by omega) (by rw [hre.bytes]; exact f1)
                            with ⟨ad, hA', hro, hrun⟩ | ⟨h0, hA', _⟩ | ⟨hlt', _⟩
                          · injection hA' with hA'
                            have hrun := hrun b (base + off) hA'.symm (fun j hj => by
                              have : base + off + len * infoe.size + j < arr.size := by rw [hre.size, ← hszz]; rw [hnl, hre.size, ← hszz] at hj; omega
                              exact ⟨by simp [World.cell?, c3, this], by simp [World.frozen?, c3]⟩) hone
                            have hb : F.w0.heap.size ≤ b ∨ F.pb b := by
                              rcases h.objs i o hob with ⟨b', base', m1, m2, m3, _⟩ | ⟨m1, _⟩
                              · rw [m1] at g1; injection g1 with g1; injection g1 with g1 _; rw [← g1]; exact (m3 hlive).imp id (·.1)
                              · rw [m1] at g1; simp at g1
                            rw [hre.size, ← hszz] at hrun
                            obtain ⟨arr0, e0, t1, t2, t3⟩ := hat
                            rw [c3] at t1; injection t1 with t1; injection t1 with t1 t1'; subst t1; subst t1'
                            obtain ⟨arr', m1, m2, m3⟩ := setCells_heap b e' news (base + off + len * sz) w arr c3 (by rw [hnl, hre.size, ← hszz]; omega)
                            have hmv := h.move hob hlive hrow hf hlook (w' := w.setCells b (base + off + len * sz) news) (b1 := b) (base1 := base + off)
                              (h.kept.setCells hb _ _) (by rw [setCells_size]; exact Nat.le_refl _) (.inl ⟨base, g1⟩) (by rw [setCells_size]; exact hblt) (fun b' _ hne => setCells_other b _ _ w b' hne)
                              (fun arr1 e1 hh => by rw [c3] at hh; injection hh with hh; injection hh with hh hh'; subst hh; subst hh'; exact ⟨arr', m1, m2⟩)
                              ⟨arr', e', m1, by rw [m2]; simp [hdl, hcl, hszz] at *; omega, fun j x hx => by
                                by_cases h1 : j < (o.cells.drop off).length
                                · rw [List.getElem?_append_left h1] at hx
                                  rw [m3 (base + off + j), if_neg (by rw [hdl] at h1; omega)]
                                  rw [List.getElem?_drop] at hx
                                  obtain ⟨v, hv, hr'⟩ := t3 (off + j) x hx
                                  exact ⟨v, by rw [Nat.add_assoc]; exact hv, hr'⟩
                                · rw [List.getElem?_append_right (by omega)] at hx
                                  have hj : j - (o.cells.drop off).length < cs.length := by
                                    rcases Nat.lt_or_ge (j - (o.cells.drop off).length) cs.length with h2 | h2
                                    · exact h2
                                    · rw [List.getElem?_eq_none h2] at hx; simp at hx
                                  rw [m3 (base + off + j), if_pos (by rw [hdl] at h1 hj; omega), show base + off + j - (base + off + len * sz) = j - (o.cells.drop off).length by rw [hdl]; omega]
                                  obtain ⟨v, hv⟩ : ∃ v, news[j - (o.cells.drop off).length]? = some v := ⟨news[j - (o.cells.drop off).length]'(by omega), by simp⟩
                                  exact ⟨v, hv, .c (hrep _ x v hx hv)⟩⟩ (fun x hx => by
                                simp only [List.mem_append] at hx
                                rcases hx with hx | hx
                                · exact h.rows i o hob hrow x (List.mem_of_mem_drop hx)
                                · exact hclosed x hx)
                            refine ⟨_, _, _, hrun, hmv, rep_new (o := ⟨s.ep, .live, true, o.cells.drop off ++ cs⟩) (by rw [hlook]; simp) rfl rfl (lc := .at b (base + off)) ?_ (by simp [setM])⟩
                            exact ⟨scap, by omega, .inr ⟨by simp, arr', e', m1, by rw [m2]; omega⟩⟩
                          · simp at hA'
                          · omega
                  · simp [Q.run] at hq
                · simp [Q.run] at hq
            · simp [Q.run] at hq
          · simp [Q.run] at hq
        · simp [Q.run] at hq
    · simp [Q.run] at hq
end Go.Ab
set_option linter.unusedSimpArgs false
set_option linter.unusedVariables false
namespace Go.Ab
variable {P : Program} {T : Tab} {F : Fr} {n : Nat} {s : St} {a : Act} {w w' : World} {φ φ' : Id → Option Loc} {L : Nat → Prop} {B : Id → Prop}
def St.app (s : St) (dst : Option Nat) (e : Eff) : St :=
  { t := putD s.t dst e.val, h := lay s.h e.w, ep := s.ep }
def OpOut (F : Fr) (n : Nat) (s : St) (a : Act) (r : Result Next) (e : Eff) : Prop :=
  ∃ w' φ', Sim F n { s with h := lay s.h e.w } a w' φ' ∧
    ((∃ v, r = .ok (.value v) w' ∧ Rep w' (LiveB F { s with h := lay s.h e.w } φ') φ' (Born { s with h := lay s.h e.w }) e.val v) ∨ (r = .ok .skip w' ∧ e.val = .dead))
theorem OpOut.wp {o : Oper} {K : Act → World → Prop} {Qp : Exit → Act → World → Prop} {e : Eff} (h : OpOut F n s a ((execOp a.eval o).run P w) e) (hdst : ∀ d, o.dst = some d → d < n)
    (hK : ∀ a' w' φ', Sim F n (s.app o.dst e) a' w' φ' → K a' w') : o.wp P a w K Qp := by
  obtain ⟨w', φ', hS, h⟩ := h
  unfold Oper.wp
  rcases h with ⟨v, hr, hrep⟩ | ⟨hr, hd⟩
  · rw [hr, Oper.upon_value]
    exact hK _ _ _ (hS.setDst o.dst hdst hrep)
  · rw [hr, Oper.upon_skip]
    exact hK _ _ _ (hS.setDst o.dst hdst (x := e.val) (v := undef) (by rw [hd]; exact .s (.dead _)))
theorem OpOut.pure {e : Eff} {r : Result Next} (h : Sim F n s a w φ) (hw : e.w = []) {v : Value} (hr : r = .ok (.value v) w) (hrep : Rep w (LiveB F s φ) φ (Born s) e.val v) : OpOut F n s a r e :=
  ⟨w, φ, by rw [hw]; exact h, .inl ⟨v, hr, by rw [hw]; exact hrep⟩⟩
theorem minmax_ok (isMin : Bool) : ∀ (l : List V) (vs : List Value) (x r : V) (u : Value), minmax isMin x l = some r → Rep w L φ B x u → l.length = vs.length →
    (∀ (j : Nat) (y : V) (v : Value), l[j]? = some y → vs[j]? = some v → Rep w L φ B y v) →
    ∃ v, (vs.foldlM (if isMin then Builtin.min2 else Builtin.max2) u).run P w = .ok v w ∧ Rep w L φ B r v
  | [], [], x, r, u, h, hx, _, _ => by simp [minmax] at h; subst h; exact ⟨u, by simp, hx⟩
  | [], _ :: _, _, _, _, _, _, hl, _ => by simp at hl
  | _ :: _, [], _, _, _, _, _, hl, _ => by simp at hl
  | y :: l, v :: vs, x, r, u, h, hx, hl, hr => by
    unfold minmax at h
    split at h
    · rename_i heq; simp at heq
    · rename_i k p k' q l' heq
      injection heq with h1 h2; subst h1; subst h2
      split at h
      · rename_i hk; subst hk
        have hy := hr 0 _ v rfl rfl
        rw [(rep_val hx).1, (rep_val hy).1]
        obtain ⟨v', hv', hrep⟩ := minmax_ok isMin l vs (.val (.int k (if isMin = true then (if q < p then q else p) else (if q > p then q else p)))) r (.int k (if isMin = true then (if q < p then q else p) else (if q > p then q else p))) h
          (.s (.c (.val rfl))) (by simpa using hl) (fun j y v hy hv => hr (j + 1) y v (by simpa using hy) (by simpa using hv))
        refine ⟨v', ?_, hrep⟩
        cases isMin <;> simpa [Builtin.min2, Builtin.max2] using hv'
      · simp at h
    · simp at h
theorem opt_map_ev (o : Option Operand) : o.map s.ev = o.map s.ev := rfl
theorem op_ok (hT : TabOk P T) (h : Sim F n s a w φ) {k : Nat} (hf : fresh s k) {o : Oper} {eff : Eff} (hq : (opQ T k s.ep s.ev o.op).run s.getO = some eff) :
    OpOut F n s a ((execOp a.eval o).run P w) eff := by
  cases ho : o.op with
  | move x =>
    rw [ho] at hq; simp [opQ, Q.run] at hq; subst hq
    exact .pure h rfl (v := a.eval x) (by simp [execOp, ho]) (h.ev x)
  | assign x =>
    rw [ho] at hq; simp [opQ, Q.run] at hq; subst hq
    exact .pure h rfl (v := a.eval x) (by simp [execOp, ho]) (h.ev x)
  | pick c x y =>
    rw [ho] at hq; simp only [opQ] at hq
    have hc := h.ev c
    split at hq
    · rename_i b e
      rw [e] at hc
      simp [Q.run] at hq; subst hq
      have := (rep_val hc).1
      refine .pure h rfl (v := if b then a.eval x else a.eval y) (by simp [execOp, ho, this, asBool]) ?_
      cases b
      · exact h.ev y
      · exact h.ev x
    · simp [Q.run] at hq
  | alloc e =>
    rw [ho] at hq; simp only [opQ] at hq
    split at hq
    · rename_i ti ht
      simp only [Q.run, Option.some.injEq] at hq; subst hq
      obtain ⟨v, w', φ', k1, k2, k3⟩ := op_alloc hT h hf ht (ti.rw && ti.zero.all V.closed) (fun e => by rw [Bool.and_eq_true] at e; exact List.all_eq_true.1 e.2)
      exact ⟨w', φ', k2, .inl ⟨v, by simp [execOp, ho, k1], k3⟩⟩
    · simp [Q.run] at hq
  | box e x =>
    rw [ho] at hq; simp only [opQ] at hq
    split at hq
    · rename_i ti ht
      split at hq
      · rename_i hc
        simp only [Q.run, Option.some.injEq] at hq; subst hq
        obtain ⟨v, w', φ', k1, k2, k3⟩ := op_box (P := P) (e := e) hT h hf hc.2 (ti.rw && (s.ev x).cells.all V.closed) (fun e => by rw [Bool.and_eq_true] at e; exact List.all_eq_true.1 e.2)
        exact ⟨w', φ', k2, .inl ⟨v, by simp [execOp, ho, k1], k3⟩⟩
      · simp [Q.run] at hq
    · simp [Q.run] at hq
  | build t parts =>
    rw [ho] at hq
    obtain ⟨h1, v, h2, h3⟩ := op_build hT h hq
    exact .pure h h1 (v := v) (by simp only [execOp, ho, Sem.run_bind, h2]; rfl) h3
  | buildSlice t len parts =>
    rw [ho] at hq; simp only [opQ] at hq
    split at hq
    · rename_i ti ht
      split at hq
      · rename_i e hd
        split at hq
        · rename_i ei he
          split at hq
          · rename_i hlen
            split at hq
            · rename_i cs hfill
              obtain ⟨⟨ys, l⟩, hfz, hq⟩ := bind_run hq
              simp only at hq
              split at hq
              · rename_i hnd
                simp [Q.run] at hq; subst hq
                obtain ⟨v, w', φ', k1, k2, k3⟩ := op_buildSlice (parts := parts) hT h hf ht hd he hlen hfill hfz hnd
                exact ⟨w', φ', k2, .inl ⟨v, by simp only [execOp, ho, Sem.run_bind, k1]; rfl, k3⟩⟩
              · simp [Q.run] at hq
            · simp [Q.run] at hq
          · simp [Q.run] at hq
        · simp [Q.run] at hq
      · simp [Q.run] at hq
    · simp [Q.run] at hq
  | load t x =>
    rw [ho] at hq; simp only [opQ] at hq
    obtain ⟨h1, h2⟩ := bind_ret (α := V) hq
    obtain ⟨v, h3, h4⟩ := op_load hT h h2
    exact .pure h h1 (v := v) (by simp only [execOp, ho, Sem.run_bind, h3]; rfl) h4
  | store t p x =>
    rw [ho] at hq; simp only [opQ] at hq
    obtain ⟨wl, h1, h2⟩ := bind_run hq
    simp [Q.run] at h2; subst h2
    obtain ⟨w', h3, h4⟩ := op_store hT h h1
    exact ⟨w', φ, h4, .inr ⟨by simp only [execOp, ho, Sem.run_bind, h3]; rfl, rfl⟩⟩
  | nilCheck x =>
    rw [ho] at hq; simp only [opQ] at hq
    have hx := h.ev x
    split at hq
    · rename_i hp
      split at hq
      · rename_i i off e
        rw [e] at hx
        simp only [Q.run] at hq
        cases hob : s.getO i with
        | none => simp [hob] at hq
        | some ob =>
          simp [hob] at hq; subst hq
          obtain ⟨b, base, g1, g2, g3⟩ := h.at_ptr hob hx
          exact .pure h rfl (v := a.eval x) (by simp [execOp, ho, g2]) hx
      · rename_i e
        simp [Q.run] at hq; subst hq
        refine .pure h rfl (v := a.eval x) ?_ hx
        cases hv : s.ev x with
        | rp cells off => rw [hv] at hx; obtain ⟨b, base, g2, _⟩ := rep_rp hx; simp [execOp, ho, g2]
        | clo f caps =>
          rw [hv] at hx
          cases hav : a.eval x with
          | func fn x1 x2 =>
            rw [hav] at hx
            cases rep_single hx rfl with
            | c h => cases h
            | clo => simp [execOp, ho, hav]
          | _ => rw [hav] at hx; cases rep_single hx rfl with
            | c h => cases h
        | val v =>
          rw [hv] at hx hp
          obtain ⟨g1, g2⟩ := rep_val hx
          cases v <;> simp [isPtr] at hp
          rename_i fn x1 x2
          cases fn <;> simp [scalar] at g2
          simp [execOp, ho, g1]
        | ptr i off => exact absurd hv (e i off)
        | _ => rw [hv] at hp; simp [isPtr] at hp
    · simp [Q.run] at hq
  | binOp op t x y ty =>
    rw [ho] at hq; simp only [opQ] at hq
    obtain ⟨h1, h2⟩ := bind_ret (α := V) hq
    obtain ⟨v, h3, h4⟩ := op_bin hT h (ofOpt_run h2)
    exact .pure h h1 (v := v) (by simp only [execOp, ho]; rw [Sem.run_bind, h3]; rfl) h4
  | unOp op t x =>
    rw [ho] at hq; simp only [opQ] at hq
    obtain ⟨h1, h2⟩ := bind_ret (α := V) hq
    obtain ⟨v, h3, h4⟩ := op_un (P := P) h (ofOpt_run h2)
    exact .pure h h1 (v := v) (by simp only [execOp, ho, Sem.run_bind, h3]; rfl) h4
  | convert src dst x =>
    rw [ho] at hq; simp only [opQ] at hq
    obtain ⟨h1, h2⟩ := bind_ret (α := V) hq
    obtain ⟨v, h3, h4⟩ := op_conv hT h h2
    exact .pure h h1 (v := v) (by simp only [execOp, ho, Sem.run_bind, h3]; rfl) h4
  | makeSlice t l c =>
    rw [ho] at hq; simp only [opQ] at hq
    split at hq
    · rename_i ti ht
      split at hq
      · rename_i e hd
        split at hq
        · rename_i ei he
          split at hq
          · rename_i m m' h1 h2
            split at hq
            · rename_i hc
              obtain ⟨rfl, h0, hsz, hfit, hcl⟩ := hc
              simp [Q.run] at hq; subst hq
              have hm : m = ((m.toNat : Nat) : Int) := by omega
              obtain ⟨v, w', φ', k1, k2, k3⟩ := op_makeSlice (m := m.toNat) hT h hf ht hd he (by rw [← hm]; exact h1) (by rw [← hm]; exact h2) hsz hfit hcl
              exact ⟨w', φ', k2, .inl ⟨v, by simp only [execOp, ho, Sem.run_bind, k1]; rfl, k3⟩⟩
            · simp [Q.run] at hq
          · simp [Q.run] at hq
        · simp [Q.run] at hq
      · simp [Q.run] at hq
    · simp [Q.run] at hq
  | slice t x lo hi mx =>
    rw [ho] at hq; simp only [opQ] at hq
    obtain ⟨h1, h2⟩ := bind_ret (α := V) hq
    obtain ⟨v, h3, h4⟩ := op_slice hT h h2
    exact .pure h h1 (v := v) (by simp only [execOp, ho, Sem.run_bind, h3]; rfl) h4
  | fieldAddr t x f =>
    rw [ho] at hq; simp only [opQ] at hq
    obtain ⟨h1, h2⟩ := bind_ret (α := V) hq
    obtain ⟨v, h3, h4⟩ := op_fieldAddr hT h h2
    exact .pure h h1 (v := v) (by simp only [execOp, ho, Sem.run_bind, h3]; rfl) h4
  | field t x f =>
    rw [ho] at hq; simp only [opQ] at hq
    obtain ⟨h1, h2⟩ := bind_ret (α := V) hq
    obtain ⟨v, h3, h4⟩ := op_field hT h h2
    exact .pure h h1 (v := v) (by simp only [execOp, ho, Sem.run_bind, h3]; rfl) h4
  | indexAddr t x i =>
    rw [ho] at hq; simp only [opQ] at hq
    obtain ⟨h1, h2⟩ := bind_ret (α := V) hq
    obtain ⟨v, h3, h4⟩ := op_indexAddr hT h h2
    exact .pure h h1 (v := v) (by simp only [execOp, ho, Sem.run_bind, h3]; rfl) h4
  | index t x i =>
    rw [ho] at hq; simp only [opQ] at hq
    obtain ⟨h1, h2⟩ := bind_ret (α := V) hq
    obtain ⟨v, h3, h4⟩ := op_index hT h h2
    exact .pure h h1 (v := v) (by simp only [execOp, ho, Sem.run_bind, h3]; rfl) h4
  | extract x i =>
    rw [ho] at hq; simp only [opQ] at hq
    split at hq
    · rename_i vs hv
      obtain ⟨h1, h2⟩ := bind_ret (α := V) hq
      obtain ⟨v, h3, h4⟩ := op_extract (P := P) h hv (ofOpt_run h2)
      exact .pure h h1 (v := v) (by simp only [execOp, ho, Sem.run_bind, h3]; rfl) h4
    · simp [Q.run] at hq
  | makeFunc fn first captured =>
    rw [ho] at hq
    cases fn with
    | func f =>
      simp only [opQ] at hq
      split at hq
      · rename_i hfe
        have hfe' : first = #[] := by simpa using hfe
        subst hfe'
        split at hq
        · rename_i hce
          have hce' : captured = #[] := by simpa using hce
          subst hce'
          simp [Q.run] at hq; subst hq
          exact .pure h rfl (v := .func (.func f) #[] #[]) (by simp [execOp, ho, Instr.makeFunc]) (.s (.c (.val rfl)))
        · split at hq
          · rename_i hpt
            simp [Q.run] at hq; subst hq
            refine .pure h rfl (v := .func (.func f) #[] (captured.map a.eval)) (by simp [execOp, ho, Instr.makeFunc]) (.s (.clo (by simp) fun j x hx => ?_))
            simp only [List.getElem?_map, Option.map_eq_some_iff] at hx
            obtain ⟨c, hc, rfl⟩ := hx
            have hptr := List.all_eq_true.1 hpt (s.ev c) (List.mem_map.2 ⟨c, List.mem_of_getElem? hc, rfl⟩)
            have hrep := h.ev c
            cases hv : s.ev c with
            | ptr i off =>
              rw [hv] at hrep
              cases rep_single hrep rfl with
              | c h => generalize a.eval c = v at h; cases h
              | ptr hb h1 hh => exact ⟨i, off, a.eval c, rfl, by simpa using ⟨c, by simpa using hc, rfl⟩, hb, hh⟩
            | _ => rw [hv] at hptr; simp [V.isP] at hptr
          · simp [Q.run] at hq
      · simp [Q.run] at hq
    | _ => simp [opQ, Q.run] at hq
  | call c =>
    rw [ho] at hq; simp only [opQ] at hq
    split at hq
    · rename_i b hb
      have hexec : ∀ r, (builtin b c.argTypes o.type (c.args.map fun | .const _ => true | _ => false) (c.args.map a.eval)).run P w = r → (execOp a.eval o).run P w = r := by
        intro r hr
        simp only [execOp, ho, resolve, hb, Sem.run_bind, Sem.run_pure, Result.andThen_ok, invoke]
        exact hr
      have hargs : c.args.map a.eval = (c.args.toList.map a.eval).toArray := Array.ext' (by simp)
      rw [hargs] at hexec
      generalize hal : c.args.toList = al at hq hexec
      unfold builtinV at hq
      split at hq
      · rename_i x hxs
        match al, hxs with
        | [p], hxs =>
          simp at hxs; subst hxs
          have hp := h.ev p
          split at hq
          · rename_i t ht
            have hlen : ∀ m, lenV T t (s.ev p) = some m → (match s.ev p with | .sref i _ _ _ => ∃ ob, s.getO i = some ob | _ => True) → eff = ⟨.val (.int .i64 m), []⟩ → OpOut F n s a ((execOp a.eval o).run P w) eff := by
              rintro m hl hlive rfl
              refine .pure h rfl (v := .int .i64 m) (hexec _ ?_) (.s (.c (.val rfl)))
              unfold lenV dsc at hl
              cases htt : T t with
              | none => simp [htt] at hl
              | some ti =>
                obtain ⟨info, d, z, hr⟩ := hT t ti htt
                simp only [htt, Option.map_some] at hl
                have hrun : ∀ v, (Builtin.len_ c.argTypes o.type #[a.eval p]).run P w = .ok v w → (builtin .len c.argTypes o.type (c.args.map fun | .const _ => true | _ => false) #[a.eval p]).run P w = .ok (.value v) w := by
                  intro v hv; unfold builtin; simp only [Sem.run_bind, hv]; rfl
                refine hrun _ ?_
                split at hl
                · rename_i e hd hv
                  injection hd with hd
                  have := dscOf_slice (hd ▸ hr.dsc); subst this
                  injection hl with hl; subst hl
                  rw [hv] at hp; rw [rep_nils hp]
                  simp [Builtin.len_, ht, run_underlying hr.und, goInt]
                · rename_i e sz q cs hd hv
                  injection hd with hd
                  have := dscOf_slice (hd ▸ hr.dsc); subst this
                  injection hl with hl; subst hl
                  rw [hv] at hp
                  rcases rep_ro hp with ⟨b, base, cap, f, g1, _⟩ | ⟨rfl, _, A, cap, g1⟩ <;> (rw [g1]; simp [Builtin.len_, ht, run_underlying hr.und, goInt])
                · rename_i e i off q sz hd hv
                  injection hd with hd
                  have := dscOf_slice (hd ▸ hr.dsc); subst this
                  injection hl with hl; subst hl
                  rw [hv] at hp hlive
                  obtain ⟨ob, hob⟩ := hlive
                  obtain ⟨lc, g1, g2, _⟩ := h.at_sref hob hp
                  cases lc with
                  | empty => obtain ⟨_, rfl, A, hA⟩ := g2; rw [hA]; simp [Builtin.len_, ht, run_underlying hr.und, goInt]
                  | «at» b base =>
                    obtain ⟨cap, _, ⟨rfl, rfl, A, hA⟩ | ⟨hA, _⟩⟩ := g2 <;> (rw [hA]; simp [Builtin.len_, ht, run_underlying hr.und, goInt])
                · rename_i str hd hv
                  injection hd with hd
                  have := dscOf_str (hd ▸ hr.dsc); subst this
                  injection hl with hl; subst hl
                  rw [hv] at hp; rw [(rep_val hp).1]
                  simp [Builtin.len_, ht, run_underlying hr.und, goInt]
                · rename_i q e hd
                  injection hd with hd
                  have := dscOf_arr (hd ▸ hr.dsc); subst this
                  injection hl with hl; subst hl
                  simp [Builtin.len_, ht, run_underlying hr.und, goInt]
                · simp at hl
            split at hq
            · rename_i m i off q sz hl hv
              simp only [Q.run] at hq
              cases hob : s.getO i with
              | none => simp [hob] at hq
              | some ob =>
                simp [hob] at hq
                exact hlen m hl (by rw [hv]; exact ⟨ob, hob⟩) hq.symm
            · rename_i m hl hne
              simp [Q.run] at hq
              refine hlen m hl ?_ hq.symm
              split
              · rename_i i off q sz hv; first | exact (hne _ _ _ _ hv).elim | exact (hne _ _ _ _ _ hl hv).elim | exact (hne _ _ _ _ _ rfl hv).elim
              · trivial
            · simp [Q.run] at hq
          · simp [Q.run] at hq
      · rename_i x y hxs
        match al, hxs with
        | [p, q], hxs =>
          simp at hxs; obtain ⟨rfl, rfl⟩ := hxs
          split at hq
          · rename_i t t' ht ht'
            split at hq
            · rename_i htt; subst htt
              obtain ⟨v, w', φ', k1, k2, k3⟩ := op_append (ty := o.type) hT h hf hq
              refine ⟨w', φ', k2, .inl ⟨v, hexec _ ?_, k3⟩⟩
              simp only [builtin, Sem.run_bind]
              have hsame : (Builtin.append_ c.argTypes o.type #[a.eval p, a.eval q]) = Builtin.append_ #[t, t] o.type #[a.eval p, a.eval q] := by
                unfold Builtin.append_
                simp only [ht, ht']
                rfl
              simp only [List.map_cons, List.map_nil] at *
              rw [hsame, k1]; rfl
            · simp [Q.run] at hq
          · simp [Q.run] at hq
      · rename_i x l hxs
        match al, hxs with
        | p :: l', hxs =>
          simp at hxs; obtain ⟨rfl, rfl⟩ := hxs
          split at hq
          · rename_i r hr
            simp [Q.run] at hq; subst hq
            obtain ⟨v, k1, k2⟩ := minmax_ok (P := P) true (l'.map s.ev) (l'.map a.eval) (s.ev p) r (a.eval p) hr (h.ev p) (by simp) (fun j y v hy hv => by
              simp only [List.getElem?_map, Option.map_eq_some_iff] at hy hv
              obtain ⟨c1, hc1, rfl⟩ := hy
              obtain ⟨c2, hc2, rfl⟩ := hv
              rw [hc1] at hc2; injection hc2 with hc2; subst hc2
              exact h.ev c1)
            refine .pure h rfl (v := v) (hexec _ ?_) k2
            simp only [builtin, Sem.run_bind, Builtin.min_, List.map_cons]
            simp only [if_true] at k1
            rw [k1]; rfl
          · simp [Q.run] at hq
      · rename_i x l hxs
        match al, hxs with
        | p :: l', hxs =>
          simp at hxs; obtain ⟨rfl, rfl⟩ := hxs
          split at hq
          · rename_i r hr
            simp [Q.run] at hq; subst hq
            obtain ⟨v, k1, k2⟩ := minmax_ok (P := P) false (l'.map s.ev) (l'.map a.eval) (s.ev p) r (a.eval p) hr (h.ev p) (by simp) (fun j y v hy hv => by
              simp only [List.getElem?_map, Option.map_eq_some_iff] at hy hv
              obtain ⟨c1, hc1, rfl⟩ := hy
              obtain ⟨c2, hc2, rfl⟩ := hv
              rw [hc1] at hc2; injection hc2 with hc2; subst hc2
              exact h.ev c1)
            refine .pure h rfl (v := v) (hexec _ ?_) k2
            simp only [builtin, Sem.run_bind, Builtin.max_, List.map_cons]
            simp only [Bool.false_eq_true, if_false] at k1
            rw [k1]; rfl
          · simp [Q.run] at hq
      · simp [Q.run] at hq
    · simp [Q.run] at hq
  | _ => rw [ho] at hq; simp [opQ, Q.run] at hq
end Go.Ab
set_option linter.unusedSimpArgs false
set_option linter.unusedVariables false
namespace Go.Ab
variable {P : Program} {T : Tab} {n : Nat}
inductive AE where
  | normal
  | exit (id : Nat)
  | goto (l : Nat)
  | ret
def AE.ex : AE → Exit
  | .normal => .normal
  | .exit i => .exit i
  | .goto l => .goto l
  | .ret => .ret
def Runs (P : Program) (n : Nat) (c : Code) (s : St) (e : AE) (s' : St) : Prop :=
  ∀ F a w φ (Q : Exit → Act → World → Prop), Sim F n s a w φ → (∀ a' w' φ', Sim F n s' a' w' φ' → Q e.ex a' w') → c.wp P Q a w
theorem Runs.skip {s : St} : Runs P n .skip s .normal s := fun _ _ _ _ _ h hQ => wp_skip (hQ _ _ _ h)
theorem Runs.label {s : St} {l : Nat} : Runs P n (.label l) s .normal s := fun _ _ _ _ _ h hQ => wp_label (hQ _ _ _ h)
theorem Runs.exit {s : St} {i : Nat} : Runs P n (.exit i) s (.exit i) s := fun _ _ _ _ _ h hQ => wp_exit (hQ _ _ _ h)
theorem Runs.goto {s : St} {l : Nat} : Runs P n (.goto l) s (.goto l) s := fun _ _ _ _ _ h hQ => wp_goto (hQ _ _ _ h)
theorem Runs.ret {s : St} : Runs P n .ret s .ret s := fun _ _ _ _ _ h hQ => wp_ret (hQ _ _ _ h)
theorem Runs.seq {x y : Code} {s s1 s' : St} {e : AE} (h1 : Runs P n x s .normal s1) (h2 : Runs P n y s1 e s') : Runs P n (.seq x y) s e s' :=
  fun F a w φ Q h hQ => wp_seq (h1 F a w φ _ h fun a' w' φ' h' => h2 F a' w' φ' Q h' hQ)
theorem Runs.seqX {x y : Code} {s s' : St} {e : AE} (h1 : Runs P n x s e s') (he : e ≠ .normal) : Runs P n (.seq x y) s e s' :=
  fun F a w φ Q h hQ => wp_seq (h1 F a w φ _ h fun a' w' φ' h' => by
    have := hQ a' w' φ' h'
    cases e <;> first | exact absurd rfl he | exact this)
theorem Runs.cond {c : Operand} {x y : Code} {s s' : St} {e : AE} (b : Bool) (hc : s.ev c = .val (.bool b)) (h : Runs P n (if b then x else y) s e s') : Runs P n (.cond c x y) s e s' :=
  fun F a w φ Q hs hQ => wp_cond (t := b) (by
    have := hs.ev c
    rw [hc] at this
    exact (rep_val this).1) (h F a w φ Q hs hQ)
theorem Runs.condT {c : Operand} {x y : Code} {s s' : St} {e : AE} (hc : s.ev c = .val (.bool true)) (h : Runs P n x s e s') : Runs P n (.cond c x y) s e s' := .cond true hc h
theorem Runs.condF {c : Operand} {x y : Code} {s s' : St} {e : AE} (hc : s.ev c = .val (.bool false)) (h : Runs P n y s e s') : Runs P n (.cond c x y) s e s' := .cond false hc h
def AE.out (id : Nat) : AE → AE
  | .exit i => if i = id then .normal else .exit i
  | e => e
theorem Runs.block {id : Nat} {c : Code} {s s' : St} {e : AE} (h : Runs P n c s e s') : Runs P n (.block id c) s (e.out id) s' :=
  fun F a w φ Q hs hQ => wp_block (h F a w φ _ hs fun a' w' φ' h' => by
    have := hQ a' w' φ' h'
    cases e with
    | exit i =>
      simp only [AE.out] at this
      show Exit.inBlock id Q (.exit i) a' w'
      by_cases hi : i = id
      · subst hi; simp only [if_true, AE.ex] at this; simpa [Exit.inBlock] using this
      · simp only [hi, if_false, AE.ex] at this; simpa [Exit.inBlock, hi] using this
    | _ => exact this)
def Loops (P : Program) (n : Nat) (c : Code) (s : St) (e : AE) (s' : St) : Prop :=
  ∃ m, ∀ F a w φ (Q : Exit → Act → World → Prop), Sim F n s a w φ → (∀ a' w' φ', Sim F n s' a' w' φ' → Q e.ex a' w') → Code.rounds P c Q m a w
theorem Loops.stop {c : Code} {s s' : St} {e : AE} (h : Runs P n c s e s') (he : e ≠ .normal) : Loops P n c s e s' :=
  ⟨1, fun F a w φ Q hs hQ => h F a w φ _ hs fun a' w' φ' h' => by
    have := hQ a' w' φ' h'
    cases e <;> first | exact absurd rfl he | exact this⟩
theorem Loops.step {c : Code} {s s1 s' : St} {e : AE} (h : Runs P n c s .normal s1) (h2 : Loops P n c s1 e s') : Loops P n c s e s' := by
  obtain ⟨m, hm⟩ := h2
  exact ⟨m + 1, fun F a w φ Q hs hQ => h F a w φ _ hs fun a' w' φ' h' => hm F a' w' φ' Q h' hQ⟩
theorem Runs.loop {c : Code} {s s' : St} {e : AE} (h : Loops P n c s e s') : Runs P n (.loop c) s e s' := by
  obtain ⟨m, hm⟩ := h
  exact fun F a w φ Q hs hQ => wp_loop_rounds m (hm F a w φ Q hs hQ)
def Code.passes (P : Program) (l : Nat) (rest : Code) (Q : Exit → Act → World → Prop) : Nat → Act → World → Prop
  | 0 => fun _ _ => False
  | m + 1 => fun a w => rest.wp P (Exit.jump l (Code.passes P l rest Q m) Q) a w
theorem wp_scope_passes {c rest : Code} {l m : Nat} {Q : Exit → Act → World → Prop} {a : Act} {w : World} (hf : findLabel c l = some rest) (h : c.wp P (Exit.jump l (Code.passes P l rest Q m) Q) a w) : (Code.scope c).wp P Q a w := by
  intro b k cs
  have hg : gotoIn l (.inScope c :: k) = some (.code rest :: .inScope c :: k) := by simp [gotoIn, hf]
  have fin : ∀ m (x : Code) a w, x.wp P (Exit.jump l (Code.passes P l rest Q m) Q) a w → ∃ e a' w', Q e a' w' ∧ Arrives P (lone (b.at a (.code x :: .inScope c :: k)) cs w) b k cs e a' w' := by
    intro m
    induction m with
    | zero =>
      intro x a w hx
      obtain ⟨e, a₁, w₁, hq, harr⟩ := hx b (.inScope c :: k) cs
      cases e with
      | normal => exact ⟨.normal, a₁, w₁, hq, Steps.trans harr (.one step_inScope)⟩
      | exit id => exact ⟨.exit id, a₁, w₁, hq, fun k' hk => harr k' (by simp [exitTo, hk])⟩
      | goto l' => exact hq.2.elim
      | ret => exact ⟨_, a₁, w₁, hq, harr⟩
      | panic ch => exact ⟨_, a₁, w₁, hq, harr⟩
      | outgrown => exact ⟨_, a₁, w₁, hq, harr⟩
    | succ m ih =>
      intro x a w hx
      obtain ⟨e, a₁, w₁, hq, harr⟩ := hx b (.inScope c :: k) cs
      cases e with
      | normal => exact ⟨.normal, a₁, w₁, hq, Steps.trans harr (.one step_inScope)⟩
      | exit id => exact ⟨.exit id, a₁, w₁, hq, fun k' hk => harr k' (by simp [exitTo, hk])⟩
      | goto l' =>
        obtain ⟨rfl, hJ'⟩ := hq
        obtain ⟨e₂, a₂, w₂, hq₂, harr₂⟩ := ih rest a₁ w₁ hJ'
        exact ⟨e₂, a₂, w₂, hq₂, .of_steps (harr _ hg) harr₂⟩
      | ret => exact ⟨_, a₁, w₁, hq, harr⟩
      | panic ch => exact ⟨_, a₁, w₁, hq, harr⟩
      | outgrown => exact ⟨_, a₁, w₁, hq, harr⟩
  obtain ⟨e, a₁, w₁, hq, harr⟩ := fin m c a w h
  exact ⟨e, a₁, w₁, hq, .of_steps (.one step_scope) harr⟩
def Jumps (P : Program) (n : Nat) (l : Nat) (rest x : Code) (s : St) (e : AE) (s' : St) : Prop :=
  ∃ m, ∀ F a w φ (Q : Exit → Act → World → Prop), Sim F n s a w φ → (∀ a' w' φ', Sim F n s' a' w' φ' → Q e.ex a' w') → x.wp P (Exit.jump l (Code.passes P l rest Q m) Q) a w
theorem Jumps.stop {l : Nat} {rest x : Code} {s s' : St} {e : AE} (h : Runs P n x s e s') (he : ∀ l, e ≠ .goto l) : Jumps P n l rest x s e s' :=
  ⟨0, fun F a w φ Q hs hQ => h F a w φ _ hs fun a' w' φ' h' => by
    have := hQ a' w' φ' h'
    cases e <;> first | exact absurd rfl (he _) | exact this⟩
theorem Jumps.step {l : Nat} {rest x : Code} {s s1 s' : St} {e : AE} (h : Runs P n x s (.goto l) s1) (h2 : Jumps P n l rest rest s1 e s') : Jumps P n l rest x s e s' := by
  obtain ⟨m, hm⟩ := h2
  exact ⟨m + 1, fun F a w φ Q hs hQ => h F a w φ _ hs fun a' w' φ' h' => ⟨rfl, hm F a' w' φ' Q h' hQ⟩⟩
theorem Runs.scope {c rest : Code} {l : Nat} {s s' : St} {e : AE} (hf : findLabel c l = some rest) (h : Jumps P n l rest c s e s') : Runs P n (.scope c) s e s' := by
  obtain ⟨m, hm⟩ := h
  exact fun F a w φ Q hs hQ => wp_scope_passes hf (hm F a w φ Q hs hQ)
theorem Runs.weak {c : Code} {s s1 s' : St} {e : AE} (ht : ∀ i, s1.getT i = s.getT i ∨ s1.getT i = .dead) (hep : s.ep ≤ s1.ep)
    (hh : ∀ k o, look s1.h k = some o → look s.h k = some o) (hkeep : s1.ep = s.ep → s1.h = s.h) (h : Runs P n c s1 e s') : Runs P n c s e s' :=
  fun F a w φ Q hs hQ => h F a w _ Q (hs.weak s1 ht hep hh hkeep) hQ
theorem Loops.weak {c : Code} {s s1 s' : St} {e : AE} (ht : ∀ i, s1.getT i = s.getT i ∨ s1.getT i = .dead) (hep : s.ep ≤ s1.ep)
    (hh : ∀ k o, look s1.h k = some o → look s.h k = some o) (hkeep : s1.ep = s.ep → s1.h = s.h) (h : Loops P n c s1 e s') : Loops P n c s e s' := by
  obtain ⟨m, hm⟩ := h
  exact ⟨m, fun F a w φ Q hs hQ => hm F a w _ Q (hs.weak s1 ht hep hh hkeep) hQ⟩
theorem Jumps.weak {l : Nat} {rest x : Code} {s s1 s' : St} {e : AE} (ht : ∀ i, s1.getT i = s.getT i ∨ s1.getT i = .dead) (hep : s.ep ≤ s1.ep)
    (hh : ∀ k o, look s1.h k = some o → look s.h k = some o) (hkeep : s1.ep = s.ep → s1.h = s.h) (h : Jumps P n l rest x s1 e s') : Jumps P n l rest x s e s' := by
  obtain ⟨m, hm⟩ := h
  exact ⟨m, fun F a w φ Q hs hQ => hm F a w _ Q (hs.weak s1 ht hep hh hkeep) hQ⟩
/-! ### regions -/
def St.bump (s : St) : St := { s with ep := s.ep + 1 }
theorem Sim.bump {F : Fr} {s : St} {a : Act} {w : World} {φ : Id → Option Loc} (h : Sim F n s a w φ) : ∃ φ', Sim F n s.bump a w φ' :=
  ⟨_, h.weak s.bump (fun _ => .inl rfl) (Nat.le_succ _) (fun _ _ h => h) (fun h => by simp [St.bump] at h)⟩
def wantA (ops : Array Oper) (s : St) (o : Oper) : Option Bool :=
  match o.guard with
  | none => some true
  | some (j, want) =>
    match (ops[j]?).bind (·.dst) with
    | none => none
    | some d => match s.getT d with
      | .val (.bool b) => some (b == want)
      | .tup [] => some false
      | _ => none
theorem wantA_ok {ops : Array Oper} {F : Fr} {s : St} {a : Act} {w : World} {φ : Id → Option Loc} (h : Sim F n s a w φ) {o : Oper} {b : Bool} (hdst : ∀ (j d : Nat), (ops[j]?).bind (fun o : Oper => o.dst) = some d → d < n) (hw : wantA ops s o = some b) :
    Region.wanted o (yielded ops a.tmps) = b := by
  unfold wantA at hw
  unfold Region.wanted
  split at hw
  · rename_i hg; simp [hg]; simpa using hw
  · rename_i j want hg
    simp only [hg]
    split at hw
    · simp at hw
    · rename_i d hd
      have hs := h.slots d
      have hlt : d < a.tmps.size := by rw [h.size]; exact hdst j d hd
      have hget : a.tmps.getD d undef = a.tmps[d] := by simp [Array.getD, hlt]
      have hy : yielded ops a.tmps j = match a.tmps[d] with | .bool b => some b | _ => none := by
        unfold yielded
        rw [hd]
        simp only [Option.bind_some, Array.getElem?_eq_getElem hlt]
        generalize a.tmps[d] = v
        cases v <;> rfl
      split at hw
      · rename_i c hc
        rw [hc] at hs
        have := (rep_val hs).1
        rw [hget] at this
        rw [hy, this]
        simp at hw
        subst hw
        cases c <;> cases want <;> rfl
      · rename_i hc
        rw [hc] at hs
        injection hw with hw; subst hw
        rw [hget] at hs
        have : a.tmps[d] = .tuple #[] := by
          generalize a.tmps[d] = v at hs
          cases hs with
          | s h => cases h with
            | c h => cases h
          | @tup _ vs hl _ =>
            have : vs = #[] := by simpa using hl.symm
            rw [this]
        rw [hy, this]; rfl
      · simp at hw
def RunsL (P : Program) (n : Nat) (ops : Array Oper) (l : List Oper) (s s' : St) : Prop :=
  ∀ F a w φ (Q : Exit → Act → World → Prop), Sim F n s a w φ → (∀ a' w' φ', Sim F n s' a' w' φ' → Q .normal a' w') → wpList P ops Q l a w
def dstOk (n : Nat) (ops : Array Oper) : Bool := ops.all fun o => match o.dst with | some d => decide (d < n) | none => true
theorem dstOk_spec {ops : Array Oper} (h : dstOk n ops = true) {j d : Nat} (hj : (ops[j]?).bind (·.dst) = some d) : d < n := by
  cases ho : ops[j]? with
  | none => simp [ho] at hj
  | some o =>
    simp only [ho, Option.bind_some] at hj
    unfold dstOk at h
    rw [Array.all_eq_true'] at h
    have := h o (Array.mem_of_getElem? ho)
    simpa [hj] using this
theorem Runs.region {id : Nat} {ops : Array Oper} {s s' : St} (h : RunsL P n ops ops.toList s.bump s') : Runs P n (.region id ops false) s .normal s' :=
  fun F a w φ Q hs hQ => by
    obtain ⟨φ', hb⟩ := hs.bump
    exact wp_region_list (h F a w φ' Q hb hQ)
theorem RunsL.nil {ops : Array Oper} {s : St} : RunsL P n ops [] s s := fun _ _ _ _ _ h hQ => hQ _ _ _ h
def slotOf (o : Oper) : Nat := match o.dst with | some d => d * 16 | none => 1000000
theorem RunsL.op (hT : TabOk P T) {ops : Array Oper} {o : Oper} {l : List Oper} {s s' : St} {eff : Eff} (hd : dstOk n ops = true) (hod : ∀ d, o.dst = some d → d < n) (hw : wantA ops s o = some true) (hf : fresh s (slotOf o))
    (hq : (opQ T (slotOf o) s.ep s.ev o.op).run s.getO = some eff) (h : RunsL P n ops l (s.app o.dst eff) s') : RunsL P n ops (o :: l) s s' :=
  fun F a w φ Q hs hQ => by
    have hw' := wantA_ok hs (fun j d => dstOk_spec hd) hw
    unfold wpList
    rw [if_pos hw']
    exact .inl ((op_ok hT hs hf hq).wp hod fun a' w' φ' h' => h F a' w' φ' Q h' hQ)
theorem RunsL.skip {ops : Array Oper} {o : Oper} {l : List Oper} {s s' : St} (hd : dstOk n ops = true) (hod : ∀ d, o.dst = some d → d < n) (hw : wantA ops s o = some false)
    (h : RunsL P n ops l { s with t := putD s.t o.dst (.tup []) } s') : RunsL P n ops (o :: l) s s' :=
  fun F a w φ Q hs hQ => by
    have hw' := wantA_ok hs (fun j d => dstOk_spec hd) hw
    unfold wpList
    rw [if_neg (by rw [hw']; simp)]
    exact h F _ w φ Q (hs.setDst o.dst hod (x := .tup []) (v := undef) (.tup rfl fun j x v hx => by simp at hx)) hQ
end Go.Ab
set_option linter.unusedSimpArgs false
set_option linter.unusedVariables false
namespace Go.Ab
variable {P : Program} {T : Tab} {n : Nat}
def sn : List V → Q (List V × List (Id × Ob))
  | [] => .ret ([], [])
  | x :: l => match x with
    | .sref i off len sz => .ask i fun o =>
      if o.row || o.cells.all V.closed then
        match sub o.cells off (len * sz) with
        | some cs => (sn l).bind fun p => .ret (.ro sz len cs :: p.1, (if o.c = .live then (i, o) :: p.2 else p.2))
        | none => .fail
      else .fail
    | x => if x.closed then (sn l).bind fun p => .ret (x :: p.1, p.2) else .fail
def argQ (x : V) : Q (V × Option (Id × Ob) × List (Id × Ob)) :=
  match x with
  | .ptr i off => .ask i fun o => if off = 0 ∧ o.c = .live ∧ o.row = false ∧ o.cells.all V.closed = true then .ret (.box o.cells, some (i, o), []) else .fail
  | .agg cs => (sn cs).bind fun p => .ret (.agg p.1, none, p.2)
  | x => (sn [x]).bind fun p => match p.1 with
    | [y] => .ret (y, none, p.2)
    | _ => .fail
def argsQ : List V → Q (List V × List (Option (Id × Ob)) × List (Id × Ob))
  | [] => .ret ([], [], [])
  | x :: l => (argQ x).bind fun p => (argsQ l).bind fun q => .ret (p.1 :: q.1, p.2.1 :: q.2.1, p.2.2 ++ q.2.2)
inductive ArgR (w : World) (L : Nat → Prop) : V → Value → Option Nat → Prop
  | c {x : V} {v : Value} (h : RepC w L x v) : ArgR w L x v none
  | agg {cs : List V} {vs : Array Value} (hl : cs.length = vs.size) (h : ∀ (j : Nat) (x : V) (v : Value), cs[j]? = some x → vs[j]? = some v → RepC w L x v) : ArgR w L (.agg cs) (.agg vs) none
  | box {cells : List V} {b : Nat} {arr : Array Value} {e : TypeId} (hb : w.heap[b]? = some (.cells arr e (0, 0))) (hl : cells.length ≤ arr.size)
      (h : ∀ (j : Nat) (x : V), cells[j]? = some x → ∃ v, arr[j]? = some v ∧ RepC w L x v) : ArgR w L (.box cells) (.pointer (some ⟨b, 0, none⟩)) (some b)
def InOk (w : World) (L : Nat → Prop) (args : List V) (cargs : List Value) (pbs : List (Option Nat)) : Prop :=
  args.length = cargs.length ∧ pbs.length = args.length ∧ ∀ (i : Nat) (x : V) (v : Value) (b : Option Nat), args[i]? = some x → cargs[i]? = some v → pbs[i]? = some b → ArgR w L x v b
def blk : Loc → Option Nat
  | .at b _ => some b
  | .empty => none
inductive Res1 (w : World) (L : Nat → Prop) : V → Value → List Loc → Prop
  | c {x : V} {v : Value} (h : RepC w L x v) : Res1 w L x v []
  | own {b base m cap sz : Nat} {cells : List V} {arr : Array Value} {e : TypeId} (hb : w.heap[b]? = some (.cells arr e (0, 0))) (hc : base + cap * sz ≤ arr.size) (hm : m ≤ cap) (hl : cells.length = m * sz)
      (h : ∀ (j : Nat) (x : V), cells[j]? = some x → x.closed = true ∧ ∃ v, arr[base + j]? = some v ∧ RepC w L x v) : Res1 w L (.own sz m cells) (.slice (some ⟨b, base, none⟩) m cap) [.at b base]
  | own0 (sz : Nat) (A : Option Addr) : Res1 w L (.own sz 0 []) (.slice A 0 0) [.empty]
inductive ResL (w : World) (L : Nat → Prop) : List V → List Value → List Loc → Prop
  | nil : ResL w L [] [] []
  | cons {x : V} {v : Value} {a : List Loc} {xs : List V} {vs : List Value} {b : List Loc} (h : Res1 w L x v a) (hs : ResL w L xs vs b) : ResL w L (x :: xs) (v :: vs) (a ++ b)
inductive Res2 (w : World) (L : Nat → Prop) : V → Value → List Loc → Prop
  | s {x : V} {v : Value} {a : List Loc} (h : Res1 w L x v a) : Res2 w L x v a
  | agg {cs : List V} {vs : Array Value} {a : List Loc} (h : ResL w L cs vs.toList a) : Res2 w L (.agg cs) (.agg vs) a
inductive Res2L (w : World) (L : Nat → Prop) : List V → List Value → List Loc → Prop
  | nil : Res2L w L [] [] []
  | cons {x : V} {v : Value} {a : List Loc} {xs : List V} {vs : List Value} {b : List Loc} (h : Res2 w L x v a) (hs : Res2L w L xs vs b) : Res2L w L (x :: xs) (v :: vs) (a ++ b)
inductive Res (w : World) (L : Nat → Prop) : V → Value → List Loc → Prop
  | s {x : V} {v : Value} {a : List Loc} (h : Res2 w L x v a) : Res w L x v a
  | tup {cs : List V} {vs : Array Value} {a : List Loc} (h : Res2L w L cs vs.toList a) : Res w L (.tup cs) (.tuple vs) a
def OutOk (w : World) (L : Nat → Prop) (pbs : List (Option Nat)) (outs : List (Option (List V))) : Prop :=
  ∀ (i b : Nat), pbs[i]? = some (some b) → ∃ cells arr e, outs[i]? = some (some cells) ∧ w.heap[b]? = some (.cells arr e (0, 0)) ∧ cells.length ≤ arr.size ∧
    ∀ (j : Nat) (x : V), cells[j]? = some x → x.closed = true ∧ ∃ v, arr[j]? = some v ∧ RepC w L x v
def hmOf (pbs : List (Option Nat)) : Id → Option Nat := fun i => if i.2 = 0 ∧ i.1 % 16 = 0 then (match pbs[i.1 / 16]? with | some (some b) => some b | _ => none) else none
theorem hmOf0 (pbs : List (Option Nat)) : ∀ i b, hmOf pbs i = some b → i.2 = 0 := by
  intro i b h
  unfold hmOf at h
  split at h
  · rename_i h1; exact h1.1
  · simp at h
def pbOf (pbs : List (Option Nat)) (b : Nat) : Prop := ∃ i : Nat, pbs[i]? = some (some b)
def CallS (P : Program) (f : FuncId) (args : List V) (res : V) (outs : List (Option (List V))) : Prop :=
  ∀ (w : World) (L : Nat → Prop) (hL : ∀ b, L b → b < w.heap.size) (cargs : Array Value) (pbs : List (Option Nat)),
    (∀ b, pbOf pbs b → L b) → (∀ i j b : Nat, pbs[i]? = some (some b) → pbs[j]? = some (some b) → i = j) → InOk w L args cargs.toList pbs →
    Calls P f cargs w fun e w' => ∃ v ls, e = .returned v ∧ Kept ⟨w, pbOf pbs, L, hL, hmOf pbs, hmOf0 pbs⟩ w' ∧ (ls.filterMap blk).Nodup ∧ (∀ b ∈ ls.filterMap blk, w.heap.size ≤ b ∧ b < w'.heap.size) ∧
      Res w' (fun b => L b ∨ b ∈ ls.filterMap blk) res v ls ∧ OutOk w' (fun b => L b ∨ b ∈ ls.filterMap blk) pbs outs
/-! ### a body gives a contract -/
def toSlot (j : Nat) : V → V
  | .box _ => .ptr (j * 16, 0) 0
  | x => x
def initT : Nat → List V → List (Nat × V)
  | _, [] => []
  | i, x :: l => (i, toSlot i x) :: initT (i + 1) l
def initH : Nat → List V → List (Nat × Ob)
  | _, [] => []
  | i, x :: l => match x with
    | .box cs => (i * 16, ⟨0, .live, false, cs⟩) :: initH (i + 1) l
    | _ => initH (i + 1) l
def initSt (args : List V) : St := ⟨initT 0 args, initH 0 args, 0⟩
def out1 (x : V) : Q (V × List (Id × Ob)) :=
  match x with
  | .sref i off m sz => .ask i fun o => if o.row then (match sub o.cells off (m * sz) with
      | some cs => (if o.c = .live then .ret (.own sz m cs, [(i, o)]) else .ret (.ro sz m cs, []))
      | none => .fail) else .fail
  | x => if x.closed then .ret (x, []) else .fail
def outL : List V → Q (List V × List (Id × Ob))
  | [] => .ret ([], [])
  | x :: l => (out1 x).bind fun p => (outL l).bind fun q => .ret (p.1 :: q.1, p.2 ++ q.2)
def out2 (x : V) : Q (V × List (Id × Ob)) :=
  match x with
  | .agg cs => (outL cs).bind fun p => .ret (.agg p.1, p.2)
  | x => out1 x
def finQ (T : Tab) (s : St) : ResultVar → Q (V × List (Id × Ob))
  | .tmp t => out2 (s.getT t)
  | .cell t ty => (loadV T ty (s.getT t)).bind out2
def finL (T : Tab) (s : St) : List ResultVar → Q (List V × List (Id × Ob))
  | [] => .ret ([], [])
  | x :: l => (finQ T s x).bind fun p => (finL T s l).bind fun q => .ret (p.1 :: q.1, p.2 ++ q.2)
def resOf : List V → V
  | [x] => x
  | l => .tup l
def outsQ : Nat → List V → Q (List (Option (List V)))
  | _, [] => .ret []
  | i, x :: l => match x with
    | .box _ => .ask (i * 16, 0) fun o => if o.c = .live ∧ o.cells.all V.closed = true then (outsQ (i + 1) l).bind fun r => .ret (some o.cells :: r) else .fail
    | _ => (outsQ (i + 1) l).bind fun r => .ret (none :: r)
theorem toSlot_closed (j : Nat) {w : World} {L : Nat → Prop} {x : V} {v : Value} (h : RepC w L x v) : toSlot j x = x := by cases h <;> rfl
theorem look_initT : ∀ (args : List V) (i j : Nat), look (initT i args) j = if i ≤ j then (args[j - i]?).map (toSlot j) else none
  | [], i, j => by simp [initT, look]
  | x :: l, i, j => by
    simp only [initT, look]
    by_cases h : j = i
    · subst h; simp
    · rw [if_neg h, look_initT l (i + 1) j]
      by_cases h1 : i + 1 ≤ j
      · rw [if_pos h1, if_pos (by omega), show j - i = (j - (i + 1)) + 1 by omega]; simp
      · rw [if_neg h1, if_neg (by omega)]
theorem look_initH : ∀ (args : List V) (i k : Nat) (o : Ob), look (initH i args) k = some o ↔ ∃ j cs, i ≤ j ∧ k = j * 16 ∧ args[j - i]? = some (.box cs) ∧ o = ⟨0, .live, false, cs⟩
  | [], i, k, o => by simp [initH, look]
  | x :: l, i, k, o => by
    have ih := look_initH l (i + 1) k o
    have hrest : (∃ j cs, i + 1 ≤ j ∧ k = j * 16 ∧ l[j - (i + 1)]? = some (V.box cs) ∧ o = ⟨0, .live, false, cs⟩) ↔ (∃ j cs, i < j ∧ k = j * 16 ∧ (x :: l)[j - i]? = some (V.box cs) ∧ o = ⟨0, .live, false, cs⟩) := by
      constructor
      · rintro ⟨j, cs, h1, h2, h3, h4⟩
        exact ⟨j, cs, h1, h2, by rw [show j - i = (j - (i + 1)) + 1 by omega]; simpa using h3, h4⟩
      · rintro ⟨j, cs, h1, h2, h3, h4⟩
        exact ⟨j, cs, h1, h2, by rw [show j - i = (j - (i + 1)) + 1 by omega] at h3; simpa using h3, h4⟩
    have hplain : (∀ cs, x ≠ .box cs) → initH i (x :: l) = initH (i + 1) l := by
      intro h; cases x <;> first | rfl | exact absurd rfl (h _)
    by_cases hx : ∃ cs, x = .box cs
    · obtain ⟨cs, rfl⟩ := hx
      simp only [initH, look]
      by_cases hk : k = i * 16
      · rw [if_pos hk]
        constructor
        · intro h; injection h with h; exact ⟨i, cs, Nat.le_refl _, hk, by simp, h.symm⟩
        · rintro ⟨j, cs', h1, h2, h3, h4⟩
          have : j = i := by omega
          subst this
          simp at h3; subst h3; rw [h4]
      · rw [if_neg hk, ih, hrest]
        constructor
        · rintro ⟨j, cs', h1, h⟩; exact ⟨j, cs', by omega, h⟩
        · rintro ⟨j, cs', h1, h2, h⟩
          exact ⟨j, cs', by rcases Nat.lt_or_ge i j with h' | h'; · exact h'
                            · have : j = i := by omega
                              subst this; exact absurd h2 hk, h2, h⟩
    · rw [hplain (fun cs h => hx ⟨cs, h⟩), ih, hrest]
      constructor
      · rintro ⟨j, cs', h1, h⟩; exact ⟨j, cs', by omega, h⟩
      · rintro ⟨j, cs', h1, h2, h3, h⟩
        refine ⟨j, cs', ?_, h2, h3, h⟩
        rcases Nat.lt_or_ge i j with h' | h'
        · exact h'
        · have : j = i := by omega
          subst this
          simp at h3; exact absurd ⟨cs', h3⟩ hx
theorem Sim.init {w : World} {L : Nat → Prop} {hL : ∀ b, L b → b < w.heap.size} {args : List V} {cargs : Array Value} {pbs : List (Option Nat)} (hp : ∀ b, pbOf pbs b → L b)
    (hd : ∀ i j b : Nat, pbs[i]? = some (some b) → pbs[j]? = some (some b) → i = j) (h : InOk w L args cargs.toList pbs) (hn : args.length ≤ n) :
    ∃ φ, Sim ⟨w, pbOf pbs, L, hL, hmOf pbs, hmOf0 pbs⟩ n (initSt args) { tmps := cargs ++ Array.replicate (n - cargs.size) undef, defers := [] } w φ ∧
      ∀ i b : Nat, pbs[i]? = some (some b) → φ (i * 16, 0) = some (.at b 0) := by
  obtain ⟨h1, h2, h3⟩ := h
  let φ : Id → Option Loc := fun i => if i.2 = 0 ∧ i.1 % 16 = 0 then (match pbs[i.1 / 16]? with | some (some b) => some (.at b 0) | _ => none) else none
  have hφ : ∀ (i : Nat) (b : Nat), pbs[i]? = some (some b) → φ (i * 16, 0) = some (.at b 0) := by
    intro i b hb
    simp [φ, hb]
  have hO : ∀ i o, (initSt args).getO i = some o ↔ ∃ j cs, i = (j * 16, 0) ∧ args[j]? = some (.box cs) ∧ o = ⟨0, .live, false, cs⟩ := by
    intro i o
    rw [getO_some]
    constructor
    · rintro ⟨g1, g2, g3⟩
      obtain ⟨j, cs, _, k2, k3, k4⟩ := (look_initH args 0 i.1 o).1 g1
      exact ⟨j, cs, Prod.ext k2 (by rw [← g2, k4]), by simpa using k3, k4⟩
    · rintro ⟨j, cs, rfl, k3, rfl⟩
      exact ⟨(look_initH args 0 (j * 16) _).2 ⟨j, cs, Nat.zero_le _, rfl, by simpa using k3, rfl⟩, rfl, by simp⟩
  have hbox : ∀ (j : Nat) (cs : List V), args[j]? = some (.box cs) → ∃ b arr e, pbs[j]? = some (some b) ∧ cargs[j]? = some (.pointer (some ⟨b, 0, none⟩)) ∧ w.heap[b]? = some (.cells arr e (0, 0)) ∧ cs.length ≤ arr.size ∧
      ∀ (q : Nat) (x : V), cs[q]? = some x → ∃ v, arr[q]? = some v ∧ RepC w L x v := by
    intro j cs hj
    have hlt : j < args.length := by
      rcases Nat.lt_or_ge j args.length with h | h
      · exact h
      · rw [List.getElem?_eq_none h] at hj; simp at hj
    have e1 : cargs.toList[j]? = some (cargs.toList[j]'(by omega)) := by simp
    have e2 : pbs[j]? = some (pbs[j]'(by omega)) := by simp
    have := h3 j _ _ _ hj e1 e2
    generalize cargs.toList[j]'(by omega) = v at *
    generalize pbs[j]'(by omega) = b at *
    cases this with
    | c h => cases h
    | box hb hl hh => exact ⟨_, _, _, e2, by simpa using e1, hb, hl, hh⟩
  have hlive : ∀ b, LiveB ⟨w, pbOf pbs, L, hL, hmOf pbs, hmOf0 pbs⟩ (initSt args) φ b → L b := by
    rintro b (hF | ⟨i, o, base, ho, hl, hh⟩)
    · exact hF
    · obtain ⟨j, cs, rfl, k1, rfl⟩ := (hO i o).1 ho
      obtain ⟨b', arr, e, m1, _⟩ := hbox j cs k1
      rw [hφ j b' m1] at hh
      injection hh with hh; injection hh with hh _; subst hh
      exact hp _ ⟨j, m1⟩
  have T0 : Tr w w L (LiveB ⟨w, pbOf pbs, L, hL, hmOf pbs, hmOf0 pbs⟩ (initSt args) φ) φ φ (fun _ => True) (fun _ => True) :=
    ⟨Nat.le_refl _, fun _ _ _ => rfl, fun b hb => .inl (hlive b hb), fun _ _ _ h => h, fun _ h => h, fun b arr e _ hb => ⟨arr, hb, rfl⟩⟩
  have hc0 : ∀ {x : V} {v : Value}, RepC w L x v → RepC w (LiveB ⟨w, pbOf pbs, L, hL, hmOf pbs, hmOf0 pbs⟩ (initSt args) φ) x v := fun h => h.mono T0
  refine ⟨φ, ⟨by simp; have : args.length = cargs.size := by simpa using h1
                 omega, rfl, ⟨rfl, rfl, rfl, Nat.le_refl _, fun _ _ _ => rfl, fun k arr e _ hk => ⟨arr, hk, rfl⟩⟩, fun i => ?_, fun i o ho => ?_, fun i o ho hr => ?_, fun i l hl => ?_, fun i j o o' b x y ho ho' hl hl' hi hj => ?_, fun k o ho => ?_, fun i o b base ho hr hb => ?_, fun i b hb => ?_⟩, hφ⟩
  · simp only [St.getT, initSt, look_initT, Nat.zero_le, if_true, Nat.sub_zero]
    cases hx : args[i]? with
    | none => exact .s (.dead _)
    | some x =>
      have hlt : i < args.length := by
        rcases Nat.lt_or_ge i args.length with h | h
        · exact h
        · rw [List.getElem?_eq_none h] at hx; simp at hx
      have hsz : args.length = cargs.size := by simpa using h1
      have e1 : cargs.toList[i]? = some (cargs[i]'(by omega)) := by simp
      have e2 : pbs[i]? = some (pbs[i]'(by omega)) := by simp
      have hg : (cargs ++ Array.replicate (n - cargs.size) undef).getD i undef = cargs[i]'(by omega) := by
        have hi : i < cargs.size := by omega
        simp [Array.getD_eq_getD_getElem?, Array.getElem?_append_left hi, hi]
      rw [hg]
      have := h3 i _ _ _ hx e1 e2
      generalize cargs[i]'(by omega) = v at *
      generalize pbs[i]'(by omega) = b at *
      simp only [Option.map_some, Option.getD_some]
      cases this with
      | c h => rw [toSlot_closed i h]; exact .s (.c (hc0 h))
      | agg hl hh => exact .agg hl fun j x v hx hv => .c (hc0 (hh j x v hx hv))
      | box hb hl hh =>
        refine .s (.ptr (.inr ⟨rfl, _, (look_initH args 0 (i * 16) _).2 ⟨i, _, Nat.zero_le _, rfl, by simpa using hx, rfl⟩, rfl⟩) rfl fun l hl => ?_)
        rw [hφ i _ e2] at hl; injection hl with hl; subst hl
        exact ⟨_, _, rfl, rfl⟩
  · obtain ⟨j, cs, rfl, k1, rfl⟩ := (hO i o).1 ho
    obtain ⟨b, arr, e, m1, m2, m3, m4, m5⟩ := hbox j cs k1
    refine .inl ⟨b, 0, hφ j b m1, lt_of_some m3, fun _ => .inr ⟨⟨j, m1⟩, rfl⟩, by simp, arr, e, m3, by simpa using m4, fun q x hx => ?_⟩
    obtain ⟨v, hv, hr⟩ := m5 q x hx
    exact ⟨v, by simpa using hv, .c (hc0 hr)⟩
  · obtain ⟨j, cs, rfl, k1, rfl⟩ := (hO i o).1 ho
    simp at hr
  · simp only [φ] at hl
    split at hl
    · rename_i hc
      split at hl
      · rename_i b hb
        have hlt : i.1 / 16 < args.length := by
          rcases Nat.lt_or_ge (i.1 / 16) pbs.length with h | h
          · omega
          · rw [List.getElem?_eq_none h] at hb; simp at hb
        have e0 : args[i.1 / 16]? = some args[i.1 / 16] := by simp
        have e1 : cargs.toList[i.1 / 16]? = some (cargs.toList[i.1 / 16]'(by omega)) := by simp
        have := h3 _ _ _ _ e0 e1 hb
        generalize args[i.1 / 16] = x at *
        generalize cargs.toList[i.1 / 16]'(by omega) = v at *
        cases this with
        | box _ _ _ => exact ⟨_, (hO i _).2 ⟨i.1 / 16, _, Prod.ext (by simp; omega) hc.1, e0, rfl⟩⟩
      · simp at hl
    · simp at hl
  · obtain ⟨j1, cs, rfl, k1, rfl⟩ := (hO i o).1 ho
    obtain ⟨j2, cs', rfl, k2, rfl⟩ := (hO j o').1 ho'
    obtain ⟨b1, _, _, m1, _⟩ := hbox j1 cs k1
    obtain ⟨b2, _, _, m2, _⟩ := hbox j2 cs' k2
    rw [hφ j1 b1 m1] at hi; rw [hφ j2 b2 m2] at hj
    injection hi with hi; injection hi with hi _; subst hi
    injection hj with hj; injection hj with hj _; subst hj
    rw [hd j1 j2 _ m1 m2]
  · obtain ⟨j, cs, _, _, _, rfl⟩ := (look_initH args 0 k o).1 ho
    exact Nat.le_refl _
  · obtain ⟨j, cs, rfl, k1, rfl⟩ := (hO i o).1 ho
    obtain ⟨b1, _, _, m1, _⟩ := hbox j cs k1
    rw [hφ j b1 m1] at hb
    injection hb with hb; injection hb with _ hb; exact hb.symm
  · have hb' : i = ((i.1 / 16) * 16, 0) ∧ pbs[i.1 / 16]? = some (some b) := by
      change hmOf pbs i = some b at hb
      unfold hmOf at hb
      split at hb
      · rename_i hc
        split at hb
        · rename_i b' hb2
          injection hb with hb; subst hb
          exact ⟨Prod.ext (by simp; omega) hc.1, hb2⟩
        · simp at hb
      · simp at hb
    obtain ⟨e1, e2⟩ := hb'
    have hlt : i.1 / 16 < args.length := by
      rcases Nat.lt_or_ge (i.1 / 16) pbs.length with h | h
      · omega
      · rw [List.getElem?_eq_none h] at e2; simp at e2
    have k0 : args[i.1 / 16]? = some args[i.1 / 16] := by simp
    have k1 : cargs.toList[i.1 / 16]? = some (cargs.toList[i.1 / 16]'(by omega)) := by simp
    have := h3 _ _ _ _ k0 k1 e2
    generalize args[i.1 / 16] = x at *
    generalize cargs.toList[i.1 / 16]'(by omega) = v at *
    cases this with
    | box _ _ _ =>
      refine ⟨?_, fun l hl => ?_⟩
      · rw [e1]; exact .inr ⟨rfl, _, (look_initH args 0 _ _).2 ⟨i.1 / 16, _, Nat.zero_le _, rfl, by simpa using k0, rfl⟩, rfl⟩
      · rw [e1, hφ _ b e2] at hl; injection hl with hl; exact hl.symm
end Go.Ab
set_option linter.unusedSimpArgs false
set_option linter.unusedVariables false
namespace Go.Ab
variable {P : Program} {T : Tab} {n : Nat} {F : Fr} {s : St} {a : Act} {w w' : World} {φ : Id → Option Loc} {L L' : Nat → Prop}
theorem RepC.sub (hL : ∀ b, L' b → L b) {x : V} {v : Value} (h : RepC w L x v) : RepC w L' x v :=
  h.mono (φ := fun _ => none) (φ' := fun _ => none) (B := fun _ => True) (B' := fun _ => True) ⟨Nat.le_refl _, fun _ _ _ => rfl, fun b hb => .inl (hL b hb), fun _ _ _ h => h, fun _ h => h, fun b arr e _ hb => ⟨arr, hb, rfl⟩⟩
theorem Res1.sub (hL : ∀ b, L' b → L b) {x : V} {v : Value} {ls : List Loc} (h : Res1 w L x v ls) : Res1 w L' x v ls := by
  cases h with
  | c h => exact .c (h.sub hL)
  | own hb hc hm hl h => exact .own hb hc hm hl fun j x hx => ⟨(h j x hx).1, (h j x hx).2.imp fun v hv => ⟨hv.1, hv.2.sub hL⟩⟩
  | own0 sz A => exact .own0 sz A
theorem ResL.sub (hL : ∀ b, L' b → L b) {xs : List V} {vs : List Value} {ls : List Loc} (h : ResL w L xs vs ls) : ResL w L' xs vs ls := by
  induction h with
  | nil => exact .nil
  | cons h _ ih => exact .cons (h.sub hL) ih
theorem Res2.sub (hL : ∀ b, L' b → L b) {x : V} {v : Value} {ls : List Loc} (h : Res2 w L x v ls) : Res2 w L' x v ls := by
  cases h with
  | s h => exact .s (h.sub hL)
  | agg h => exact .agg (h.sub hL)
theorem Res2L.sub (hL : ∀ b, L' b → L b) {xs : List V} {vs : List Value} {ls : List Loc} (h : Res2L w L xs vs ls) : Res2L w L' xs vs ls := by
  induction h with
  | nil => exact .nil
  | cons h _ ih => exact .cons (h.sub hL) ih
def Own (F : Fr) (s : St) (φ : Id → Option Loc) (l : List (Id × Ob)) (ls : List Loc) : Prop :=
  (∀ q ∈ l, s.getO q.1 = some q.2 ∧ q.2.c = .live ∧ q.2.row = true) ∧ (∀ b ∈ ls.filterMap blk, ∃ q ∈ l, ∃ base, φ q.1 = some (.at b base)) ∧ ((l.map fun q => q.1.1).Nodup → (ls.filterMap blk).Nodup)
theorem Own.nil : Own F s φ [] [] := ⟨by simp, by simp, by simp⟩
theorem Own.append (h : Sim F n s a w φ) {l1 l2 : List (Id × Ob)} {ls1 ls2 : List Loc} (h1 : Own F s φ l1 ls1) (h2 : Own F s φ l2 ls2) : Own F s φ (l1 ++ l2) (ls1 ++ ls2) := by
  refine ⟨fun q hq => ?_, fun b hb => ?_, fun hn => ?_⟩
  · rcases List.mem_append.1 hq with hq | hq
    · exact h1.1 q hq
    · exact h2.1 q hq
  · rw [List.filterMap_append] at hb
    rcases List.mem_append.1 hb with hb | hb
    · obtain ⟨q, hq, hh⟩ := h1.2.1 b hb; exact ⟨q, List.mem_append.2 (.inl hq), hh⟩
    · obtain ⟨q, hq, hh⟩ := h2.2.1 b hb; exact ⟨q, List.mem_append.2 (.inr hq), hh⟩
  · rw [List.map_append, List.nodup_append] at hn
    obtain ⟨n1, n2, n3⟩ := hn
    rw [List.filterMap_append, List.nodup_append]
    refine ⟨h1.2.2 n1, h2.2.2 n2, fun b hb b' hb' e => ?_⟩
    subst e
    obtain ⟨q, hq, base, hφ⟩ := h1.2.1 b hb
    obtain ⟨q', hq', base', hφ'⟩ := h2.2.1 b hb'
    obtain ⟨g1, g2, _⟩ := h1.1 q hq
    obtain ⟨g1', g2', _⟩ := h2.1 q' hq'
    have := h.inj _ _ _ _ _ _ _ g1 g1' g2 g2' hφ hφ'
    exact n3 q.1.1 (List.mem_map.2 ⟨q, hq, rfl⟩) q'.1.1 (List.mem_map.2 ⟨q', hq', rfl⟩) (by rw [this])
theorem out1_ok (h : Sim F n s a w φ) {x y : V} {v : Value} {l : List (Id × Ob)} (hq : (out1 x).run s.getO = some (y, l)) (hr : Rep w (LiveB F s φ) φ (Born s) x v) :
    ∃ ls, Res1 w (LiveB F s φ) y v ls ∧ Own F s φ l ls := by
  unfold out1 at hq
  split at hq
  · rename_i i off m sz
    simp only [Q.run] at hq
    cases ho : s.getO i with
    | none => simp [ho] at hq
    | some o =>
      simp only [ho] at hq
      split at hq
      · rename_i hrow
        split at hq
        · rename_i cs hsub
          obtain ⟨s1, s2, s3⟩ := sub_some hsub
          obtain ⟨lc, g1, g2, g3, g4⟩ := h.at_sref ho hr
          have hcell : ∀ (j : Nat) (x : V), cs[j]? = some x → o.cells[off + j]? = some x := by
            intro j x hx
            have : j < m * sz := by
              rcases Nat.lt_or_ge j (m * sz) with h1 | h1
              · exact h1
              · rw [List.getElem?_eq_none (by omega)] at hx; simp at hx
            rw [← s3 j this]; exact hx
          have hcl : ∀ (j : Nat) (x : V), cs[j]? = some x → x.closed = true := fun j x hx => h.rows i o ho hrow x (List.mem_of_getElem? (hcell j x hx))
          have hz : ∀ A : Option Addr, v = .slice A 0 0 → m = 0 → cs = [] := by
            rintro A _ rfl
            exact List.eq_nil_of_length_eq_zero (by omega)
          split at hq
          · rename_i hlive
            simp [Q.run] at hq
            obtain ⟨rfl, rfl⟩ := hq
            have own0 : ∀ A : Option Addr, v = .slice A 0 0 → m = 0 → ∃ ls, Res1 w (LiveB F s φ) (.own sz m cs) v ls ∧ Own F s φ [(i, o)] ls := by
              intro A hA hm
              have := hz A hA hm
              subst this; subst hm; subst hA
              exact ⟨[.empty], .own0 sz A, by simp; exact ⟨ho, hlive, hrow⟩, fun b hb => by simp [List.filterMap, blk] at hb, fun _ => List.nodup_nil⟩
            cases lc with
            | empty => obtain ⟨_, hm, A, hA⟩ := g2; exact own0 A hA hm
            | «at» b base =>
              obtain ⟨cap, c1, c2⟩ := g2
              rcases c2 with ⟨hm, rfl, A, hA⟩ | ⟨c2, arr, e, c3, c4⟩
              · exact own0 (some A) hA hm
              · obtain ⟨⟨arr', e', k1, k2, k3⟩, k4⟩ := g3 b base rfl
                rw [c3] at k1; injection k1 with k1; injection k1 with k1 k1'; subst k1; subst k1'
                subst c2
                refine ⟨[.at b (base + off)], .own c3 c4 c1 s2 fun j x hx => ⟨hcl j x hx, ?_⟩, by simp; exact ⟨ho, hlive, hrow⟩, fun b' hb => ?_, fun _ => by simp [List.filterMap, blk]⟩
                rotate_left
                · simp [List.filterMap, blk] at hb; subst hb; exact ⟨(i, o), by simp, base, g1⟩
                obtain ⟨u, hu, hr'⟩ := k3 (off + j) x (hcell j x hx)
                exact ⟨u, by rw [Nat.add_assoc]; exact hu, reps_closed hr' (hcl j x hx)⟩
          · rename_i hlive
            simp [Q.run] at hq
            obtain ⟨rfl, rfl⟩ := hq
            have hfroz : o.c = .froz := by
              rcases hc : o.c with _ | _ | _
              · exact absurd hc hlive
              · rfl
              · exact absurd hc (getO_some.1 ho).2.2
            refine ⟨[], .c ?_, .nil⟩
            have ro0 : ∀ (A : Option Addr) (cap : Nat), v = .slice A 0 cap → m = 0 → RepC w (LiveB F s φ) (.ro sz m cs) v := by
              rintro A cap rfl rfl
              have : cs = [] := List.eq_nil_of_length_eq_zero (by omega)
              subst this
              exact .ro0 sz A cap
            cases lc with
            | empty => obtain ⟨_, hm, A, hA⟩ := g2; exact ro0 A 0 hA hm
            | «at» b base =>
              obtain ⟨cap, c1, c2⟩ := g2
              rcases c2 with ⟨hm, rfl, A, hA⟩ | ⟨c2, arr, e, c3, c4⟩
              · exact ro0 (some A) 0 hA hm
              · obtain ⟨⟨arr', e', k1, k2, k3⟩, k4⟩ := g3 b base rfl
                have hnl : ¬ LiveB F s φ b := by
                  rcases h.objs i o ho with ⟨b', base', p1, _, _, p4, _⟩ | ⟨p1, _⟩
                  · rw [p1] at g1; injection g1 with g1; injection g1 with g1 _
                    rw [← g1]; exact p4 hfroz
                  · rw [p1] at g1; simp at g1
                rw [c2]
                refine .ro (fun j => (arr'[base + (off + j)]?).getD undef) c1 s2 hnl k4 (fun j x hx => ?_) (fun j x hx => ?_)
                · obtain ⟨u, hu, _⟩ := k3 (off + j) x (hcell j x hx)
                  simp [World.cell?, k1, Nat.add_assoc, hu]
                · obtain ⟨u, hu, hr'⟩ := k3 (off + j) x (hcell j x hx)
                  simp only [hu, Option.getD_some]
                  exact reps_closed hr' (hcl j x hx)
        · simp [Q.run] at hq
      · simp [Q.run] at hq
  · split at hq
    · rename_i hcl
      simp [Q.run] at hq
      obtain ⟨rfl, rfl⟩ := hq
      refine ⟨[], .c (reps_closed (rep_single hr ?_) hcl), .nil⟩
      cases x <;> simp_all [V.closed, V.single]
    · simp [Q.run] at hq
theorem outL_ok (h : Sim F n s a w φ) : ∀ (xs ys : List V) (vs : List Value) (l : List (Id × Ob)), (outL xs).run s.getO = some (ys, l) → CR w (LiveB F s φ) φ (Born s) xs vs →
    ∃ ls, ResL w (LiveB F s φ) ys vs ls ∧ Own F s φ l ls
  | [], ys, vs, l, hq, hc => by
    simp [outL, Q.run] at hq
    obtain ⟨rfl, rfl⟩ := hq
    have : vs = [] := List.eq_nil_of_length_eq_zero (by have := hc.1; simpa using this.symm)
    subst this
    exact ⟨[], .nil, .nil⟩
  | x :: xs, ys, vs, l, hq, hc => by
    match vs, hc with
    | [], hc => exact absurd hc.1 (by simp)
    | v :: vs, hc =>
      unfold outL at hq
      obtain ⟨⟨y, l1⟩, h1, hq⟩ := bind_run hq
      obtain ⟨⟨ys', l2⟩, h2, hq⟩ := bind_run hq
      simp [Q.run] at hq
      obtain ⟨rfl, rfl⟩ := hq
      obtain ⟨a1, r1, o1⟩ := out1_ok h h1 (.s (hc.2 0 x v rfl rfl))
      obtain ⟨a2, r2, o2⟩ := outL_ok h xs ys' vs l2 h2 ⟨by simpa using hc.1, fun j x u hx hu => hc.2 (j + 1) x u (by simpa using hx) (by simpa using hu)⟩
      exact ⟨a1 ++ a2, .cons r1 r2, o1.append h o2⟩
theorem out2_ok (h : Sim F n s a w φ) {x y : V} {v : Value} {l : List (Id × Ob)} (hq : (out2 x).run s.getO = some (y, l)) (hr : Rep w (LiveB F s φ) φ (Born s) x v) :
    ∃ ls, Res2 w (LiveB F s φ) y v ls ∧ Own F s φ l ls := by
  unfold out2 at hq
  split at hq
  · rename_i cs
    obtain ⟨⟨ys, l'⟩, h1, hq⟩ := bind_run hq
    simp [Q.run] at hq
    obtain ⟨rfl, rfl⟩ := hq
    obtain ⟨arr, rfl, hc⟩ := rep_agg hr
    obtain ⟨ls, r, o⟩ := outL_ok h cs ys arr.toList l' h1 hc
    exact ⟨ls, .agg r, o⟩
  · obtain ⟨ls, r, o⟩ := out1_ok h hq hr
    exact ⟨ls, .s r, o⟩
def resRun (tmps : Array Value) : ResultVar → Sem Value
  | .tmp t => pure (tmps.getD t undef)
  | .cell a t => do loadVar t (← asAddr (tmps.getD a undef))
theorem finQ_ok (hT : TabOk P T) (h : Sim F n s a w φ) {r : ResultVar} {y : V} {l : List (Id × Ob)} (hq : (finQ T s r).run s.getO = some (y, l)) :
    ∃ v ls, (resRun a.tmps r).run P w = .ok v w ∧ Res2 w (LiveB F s φ) y v ls ∧ Own F s φ l ls := by
  cases r with
  | tmp t =>
    obtain ⟨ls, r, o⟩ := out2_ok h hq (h.slots t)
    exact ⟨_, ls, by simp [resRun], r, o⟩
  | cell t ty =>
    simp only [finQ] at hq
    obtain ⟨x, h1, hq⟩ := bind_run hq
    obtain ⟨v, k1, k2⟩ := op_load (P := P) (p := .tmp t) hT h h1
    obtain ⟨ls, r, o⟩ := out2_ok h hq k2
    refine ⟨v, ls, ?_, r, o⟩
    simp only [Instr.loadAt, Act.eval, Sem.run_bind] at k1
    simp only [resRun, Sem.run_bind]
    cases hv : a.tmps.getD t undef with
    | pointer ad =>
      rw [hv] at k1
      cases ad with
      | none => simp [Instr.sureAddr] at k1
      | some ad => simpa [Instr.sureAddr, asAddr] using k1
    | _ => rw [hv] at k1; simp [Instr.sureAddr] at k1
theorem finL_ok (hT : TabOk P T) (h : Sim F n s a w φ) : ∀ (rs : List ResultVar) (ys : List V) (l : List (Id × Ob)), (finL T s rs).run s.getO = some (ys, l) →
    ∃ vs ls, (rs.mapM (resRun a.tmps)).run P w = .ok vs w ∧ Res2L w (LiveB F s φ) ys vs ls ∧ Own F s φ l ls ∧ vs.length = rs.length
  | [], ys, l, hq => by
    simp [finL, Q.run] at hq
    obtain ⟨rfl, rfl⟩ := hq
    exact ⟨[], [], by simp, .nil, .nil, rfl⟩
  | r :: rs, ys, l, hq => by
    unfold finL at hq
    obtain ⟨⟨y, l1⟩, h1, hq⟩ := bind_run hq
    obtain ⟨⟨ys', l2⟩, h2, hq⟩ := bind_run hq
    simp [Q.run] at hq
    obtain ⟨rfl, rfl⟩ := hq
    obtain ⟨v, a1, k1, r1, o1⟩ := finQ_ok hT h h1
    obtain ⟨vs, a2, k2, r2, o2, hlen⟩ := finL_ok hT h rs ys' l2 h2
    exact ⟨v :: vs, a1 ++ a2, by simp [List.mapM_cons, k1, k2], .cons r1 r2, o1.append h o2, by simp [hlen]⟩
theorem Res2L.one {y : V} {vs : List Value} {ls : List Loc} (h : Res2L w L [y] vs ls) : ∃ v, vs = [v] ∧ Res2 w L y v ls := by
  cases h with
  | cons h hs => cases hs; exact ⟨_, rfl, by simpa using h⟩
theorem Res2L.length {xs : List V} {vs : List Value} {ls : List Loc} (h : Res2L w L xs vs ls) : xs.length = vs.length := by
  induction h with
  | nil => rfl
  | cons _ _ ih => simp [ih]
theorem results_eq (fn : Func) (tmps : Array Value) : results fn tmps = (do let vs ← fn.results.mapM (resRun tmps); pure (if h : vs.size = 1 then vs[0] else .tuple vs)) := by
  unfold results
  congr 1
theorem outsQ_ok : ∀ (args : List V) (i0 : Nat) (outs : List (Option (List V))), (outsQ i0 args).run s.getO = some outs →
    ∀ (i : Nat) (cs : List V), args[i]? = some (.box cs) → ∃ o, s.getO ((i0 + i) * 16, 0) = some o ∧ o.c = .live ∧ o.cells.all V.closed = true ∧ outs[i]? = some (some o.cells)
  | [], i0, outs, _, i, cs, h => by simp at h
  | x :: l, i0, outs, hq, i, cs, h => by
    by_cases hx : ∃ cs', x = .box cs'
    · obtain ⟨cs', rfl⟩ := hx
      simp only [outsQ, Q.run] at hq
      cases ho : s.getO (i0 * 16, 0) with
      | none => simp [ho] at hq
      | some o =>
        simp only [ho] at hq
        split at hq
        · rename_i hc
          obtain ⟨r, h1, hq⟩ := bind_run hq
          simp [Q.run] at hq; subst hq
          cases i with
          | zero => exact ⟨o, by simpa using ho, hc.1, hc.2, by simp⟩
          | succ i =>
            obtain ⟨o', k⟩ := outsQ_ok l (i0 + 1) r h1 i cs (by simpa using h)
            exact ⟨o', by rw [show i0 + (i + 1) = i0 + 1 + i by omega]; exact k.1, k.2.1, k.2.2.1, by simpa using k.2.2.2⟩
        · simp [Q.run] at hq
    · have hq' : ((outsQ (i0 + 1) l).bind fun r => Q.ret (none :: r)).run s.getO = some outs := by
        cases x <;> first | exact hq | exact absurd ⟨_, rfl⟩ hx
      obtain ⟨r, h1, hq'⟩ := bind_run hq'
      simp [Q.run] at hq'; subst hq'
      cases i with
      | zero => simp at h; exact absurd ⟨_, h⟩ hx
      | succ i =>
        obtain ⟨o', k⟩ := outsQ_ok l (i0 + 1) r h1 i cs (by simpa using h)
        exact ⟨o', by rw [show i0 + (i + 1) = i0 + 1 + i by omega]; exact k.1, k.2.1, k.2.2.1, by simpa using k.2.2.2⟩
theorem CallS.intro (hT : TabOk P T) {f : FuncId} {fn : Func} {c : Code} {args vs : List V} {res : V} {outs : List (Option (List V))} {s' : St} {e : AE} {l : List (Id × Ob)}
    (hf : P.funcs[f]? = some fn) (hb : fn.body = some c) (hn : fn.ntmps = n) (hargs : args.length ≤ n) (hr : Runs P n c (initSt args) e s') (he : e = .normal ∨ e = .ret)
    (hfin : (finL T s' fn.results.toList).run s'.getO = some (vs, l)) (hnd : (l.map fun q => q.1.1).Nodup) (hres : resOf vs = res) (houts : (outsQ 0 args).run s'.getO = some outs) :
    CallS P f args res outs := by
  intro w L hL cargs pbs hp hd hin
  obtain ⟨φ0, hS, hφ0⟩ := Sim.init (n := n) (hL := hL) hp hd hin hargs
  refine calls_of_wp hf hb ?_
  rw [hn]
  refine hr _ _ _ _ _ hS fun a' w' φ' hS' => ?_
  obtain ⟨us, ls, k1, k2, k3, k4⟩ := finL_ok hT hS' fn.results.toList vs l hfin
  have hlen := k2.length
  have hrun : (results fn a'.tmps).run P w' = .ok (if h : us.toArray.size = 1 then us.toArray[0] else .tuple us.toArray) w' := by
    rw [results_eq, Sem.run_bind]
    have : (fn.results.mapM (resRun a'.tmps)).run P w' = .ok us.toArray w' := by
      rw [Array.mapM_eq_mapM_toList, Sem.run_map, k1]; rfl
    rw [this]; rfl
  have hfr : ∀ b ∈ ls.filterMap blk, w.heap.size ≤ b ∧ b < w'.heap.size := by
    intro b hb
    obtain ⟨q, hq, base, hφ⟩ := k3.2.1 b hb
    obtain ⟨g1, g2, g3⟩ := k3.1 q hq
    rcases hS'.objs q.1 q.2 g1 with ⟨b', base', m1, m2, m3, _⟩ | ⟨m1, _⟩
    · rw [m1] at hφ; injection hφ with hφ; injection hφ with hφ _; subst hφ
      refine ⟨?_, m2⟩
      rcases m3 g2 with h | ⟨_, h⟩
      · exact h
      · rw [g3] at h; simp at h
    · rw [m1] at hφ; simp at hφ
  have hsub : ∀ b, (L b ∨ b ∈ ls.filterMap blk) → LiveB ⟨w, pbOf pbs, L, hL, hmOf pbs, hmOf0 pbs⟩ s' φ' b := by
    rintro b (hb | hb)
    · exact .inl hb
    · obtain ⟨q, hq, base, hφ⟩ := k3.2.1 b hb
      obtain ⟨g1, g2, g3⟩ := k3.1 q hq
      exact .inr ⟨q.1, q.2, base, g1, g2, hφ⟩
  have hpost : ∃ v ls', (if h : us.toArray.size = 1 then us.toArray[0] else .tuple us.toArray) = v ∧ Kept ⟨w, pbOf pbs, L, hL, hmOf pbs, hmOf0 pbs⟩ w' ∧ (ls'.filterMap blk).Nodup ∧ (∀ b ∈ ls'.filterMap blk, w.heap.size ≤ b ∧ b < w'.heap.size) ∧
      Res w' (fun b => L b ∨ b ∈ ls'.filterMap blk) res v ls' ∧ OutOk w' (fun b => L b ∨ b ∈ ls'.filterMap blk) pbs outs := by
    refine ⟨_, ls, rfl, hS'.kept, k3.2.2 hnd, hfr, ?_, ?_⟩
    · have k2' := k2.sub hsub
      by_cases h1 : us.length = 1
      · match vs, hlen, k2', hres with
        | [y], _, k2'', hres =>
          obtain ⟨v, rfl, hv⟩ := k2''.one
          simp only [resOf] at hres; subst hres
          exact .s hv
        | [], hlen, _, _ => simp at hlen; omega
        | _ :: _ :: _, hlen, _, _ => simp at hlen; omega
      · have : resOf vs = .tup vs := by
          match vs, hlen with
          | [], _ => rfl
          | [y], hlen => simp at hlen; omega
          | _ :: _ :: _, _ => rfl
        rw [this] at hres; subst hres
        rw [dif_neg (by simpa using h1)]
        exact .tup (by simpa using k2')
    · intro i b hb
      obtain ⟨h1, h2, h3⟩ := hin
      have hlt : i < args.length := by
        rcases Nat.lt_or_ge i pbs.length with h | h
        · omega
        · rw [List.getElem?_eq_none h] at hb; simp at hb
      have k0 : args[i]? = some args[i] := by simp
      have k1' : cargs.toList[i]? = some (cargs.toList[i]'(by omega)) := by simp
      have harg := h3 _ _ _ _ k0 k1' hb
      have hbx : ∃ cs, args[i] = .box cs := by
        generalize args[i] = x at *
        generalize cargs.toList[i]'(by omega) = v at *
        cases harg with
        | box _ _ _ => exact ⟨_, rfl⟩
      obtain ⟨cs, hcs⟩ := hbx
      obtain ⟨o, o1, o2, o3, o4⟩ := outsQ_ok args 0 outs houts i cs (by rw [k0, hcs])
      rw [Nat.zero_add] at o1
      have hhome := hS'.home (i * 16, 0) b (by
        show hmOf pbs (i * 16, 0) = some b
        simp [hmOf, hb])
      rcases hS'.objs _ o o1 with ⟨b', base', m1, m2, m3, m4, arr, e', m5, m6, m7⟩ | ⟨m1, _⟩
      · have := hhome.2 _ m1
        injection this with e1 e2; subst e1; subst e2
        refine ⟨o.cells, arr, e', o4, m5, by simpa using m6, fun j x hx => ?_⟩
        have hcl := List.all_eq_true.1 o3 x (List.mem_of_getElem? hx)
        obtain ⟨v, hv, hr'⟩ := m7 j x hx
        exact ⟨hcl, v, by simpa using hv, (reps_closed hr' hcl).sub hsub⟩
      · have := hhome.2 _ m1; simp at this
  obtain ⟨v, ls', e1, hrest⟩ := hpost
  rcases he with rfl | rfl
  · exact ⟨hS'.defers, _, hrun, v, ls', by rw [e1], hrest⟩
  · exact ⟨hS'.defers, _, hrun, v, ls', by rw [e1], hrest⟩
end Go.Ab
