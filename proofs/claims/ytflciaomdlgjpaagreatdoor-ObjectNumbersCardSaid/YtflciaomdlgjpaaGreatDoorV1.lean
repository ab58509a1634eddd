/-
  Programs in a small form: values without memory, what it means that memory holds a value, and the ways to write it.
-/
import Derived.Calls
import Derived.Laws.Append
set_option linter.unusedVariables false
set_option linter.unusedSimpArgs false
namespace Go.Proofs.YtflciaomdlgjpaaGreatDoor.VVE

/-- Values without memory. A slice is its list of elements; 'app' says that the right to append in place lies here. -/
inductive V where
  | undef
  | bool (b : Bool)
  | int (k : IntKind) (n : Int)
  | str (s : List UInt8)
  | ptr0
  | ref (i off : Nat)
  | lref (t off : Nat)
  | eptr (row : List V) (off : Nat)
  | sl (app : Bool) (rows : List V)
  | slt (rows : List V)
  | agg (cells : List V)
  | tup (vs : List V)
  | clo (f : Nat) (first cap : List V)
  | box (cells : List V)
  | mp (i : Nat)
  deriving Inhabited

def V.cells : V → List V
  | .agg cs => cs
  | .box cs => cs
  | v => [v]

def V.width (v : V) : Nat := v.cells.length

/-- One cell, without the right to append. -/
def V.share1 : V → V
  | .sl _ rows => .sl false rows
  | .slt rows => .sl false rows
  | v => v

def V.share2 : V → V
  | .sl _ rows => .sl false rows
  | .slt rows => .sl false rows
  | .agg cs => .agg (cs.map V.share1)
  | v => v

def V.share : V → V
  | .sl _ rows => .sl false rows
  | .slt rows => .sl false rows
  | .agg cs => .agg (cs.map V.share1)
  | .tup vs => .tup (vs.map V.share2)
  | v => v

/-- May lie in one cell of memory. -/
def V.leaf : V → Bool
  | .bool _ | .int .. | .str _ | .ptr0 | .ref .. | .sl .. | .clo .. | .mp _ => true
  | _ => false

/-- Plain data in one cell. -/
def V.datum : V → Bool
  | .bool _ | .int .. | .str _ | .sl .. => true
  | _ => false

inductive Obj' where
  | cells (cs : List V)
  | map (es : List (V × V))
  | gone
  deriving Inhabited

structure St where
  env : List V
  heap : List Obj'
  deriving Inhabited

inductive Src where
  | t (t : Nat)
  | c (v : V)
  deriving Inhabited

inductive IOp where
  | mv (take : Bool) (x : Src)
  | pick (c a b : Src)
  | alloc (esc : Bool) (zero : List V)
  | box (esc : Bool) (x : Src)
  | build (take : Bool) (zero : List V) (parts : List (Nat × Nat × Src))
  | bslice (sz : Nat) (zero : List V) (len : Nat) (parts : List (Nat × Src))
  | load (n : Nat) (agg take : Bool) (x : Src)
  | store (n : Nat) (x v : Src)
  | nilck (x : Src)
  | bin (op : BinOp) (x y : Src)
  | beq (neg : Bool) (x y : Src)
  | un (op : UnOp) (x : Src)
  | conv (k : IntKind) (x : Src)
  | same (x : Src)
  | b2s (x : Src)
  | s2b (x : Src)
  | mkfn (f : Nat) (first cap : List Src)
  | mkmap
  | mkslice (sz bytes : Nat) (zero : List V) (len cap : Src)
  | slice (sz : Nat) (x : Src) (lo hi mx : Option Src)
  | substr (x : Src) (lo hi : Option Src)
  | faddr (off : Nat) (x : Src)
  | iaddr (sz : Nat) (x i : Src)
  | field (off n : Nat) (agg : Bool) (x : Src)
  | index (x i : Src)
  | extract (x : Src) (i : Nat)
  | len (x : Src)
  | slen (x : Src)
  | append (sz bytes : Nat) (s x : Src)
  | calld (f : Nat) (args : List Src)
  | callv (f : Src) (args : List Src)
  deriving Inhabited

structure IOper where
  dst : Option Nat
  op : IOp
  /-- the temporary of the guard, and what it has to be -/
  guard : Option (Nat × Bool)
  deriving Inhabited

inductive IC where
  | skip
  /-- 'draw': in any order; 'order': for each operation, as bits, the ones that come before it in each order; 'strict': then a load that a call may pass has to be of what no call sees; 'mask': the temporaries whose objects no call of the region sees; 'drop': what is forgotten behind it -/
  | region (ops : List IOper) (draw : Bool) (order : List Nat) (strict : Bool) (mask drop : List Nat)
  | seq (a b : IC)
  | cond (c : Src) (a b : IC)
  | block (id : Nat) (a : IC)
  | loop (a : IC)
  | exit (id : Nat)
  | ret
  /-- code that is never reached: the evaluator stops here -/
  | stop
  deriving Inhabited

inductive IRes where
  | tmp (t : Nat)
  | cell (t n : Nat) (agg : Bool)
  deriving Inhabited

structure IFunc where
  ntmps : Nat
  results : List IRes
  keep : Bool
  body : IC
  deriving Inhabited

/- THE EVALUATOR -/

def getT (env : List V) (t : Nat) : V := env.getD t .undef

/-- What an operand is: the address of a local box, or what lies in the temporary. -/
def val (env : List V) : Src → V
  | .t t => match getT env t with
    | .box _ => .lref t 0
    | v => v
  | .c v => v

/-- The temporary behind an operand loses the right to append. -/
def drain (env : List V) : Src → List V
  | .t t => match getT env t with
    | .box _ => env
    | v => env.set t v.share
  | .c _ => env

def put (env : List V) (dst : Option Nat) (v : V) : List V :=
  match dst with
  | some d => env.set d v
  | none => env

def cut (cs : List V) (off n : Nat) : Option (List V) :=
  if off + n ≤ cs.length then some ((cs.drop off).take n) else none

def ofCells (agg : Bool) (cs : List V) : Option V :=
  if agg then some (.agg cs) else match cs with
    | [v] => if v.leaf then some v else none
    | _ => none

def splice (cs : List V) (off : Nat) (new : List V) : List V :=
  cs.take off ++ new ++ cs.drop (off + new.length)

def shareAt (cs : List V) (off n : Nat) : List V :=
  splice cs off (((cs.drop off).take n).map V.share1)

def bits (op : BinOp) (k : IntKind) (x y : Int) : Int :=
  let a := BitVec.ofInt k.bits x
  let b := BitVec.ofInt k.bits y
  k.wrap (match op with
    | .and => a &&& b
    | .or => a ||| b
    | .xor => a ^^^ b
    | _ => a &&& ~~~b).toNat

def vbinInt (op : BinOp) (k : IntKind) (a b : Int) : Option V :=
  match op with
  | .add => some (.int k (k.wrap (a + b)))
  | .sub => some (.int k (k.wrap (a - b)))
  | .mul => some (.int k (k.wrap (a * b)))
  | .quo => if b = 0 then none else some (.int k (k.wrap (a.tdiv b)))
  | .rem => if b = 0 then none else some (.int k (a.tmod b))
  | .and => some (.int k (bits .and k a b))
  | .or => some (.int k (bits .or k a b))
  | .xor => some (.int k (bits .xor k a b))
  | .andNot => some (.int k (bits .andNot k a b))
  | .eql => some (.bool (a == b))
  | .neq => some (.bool (a != b))
  | .lss => some (.bool (decide (a < b)))
  | .leq => some (.bool (decide (a ≤ b)))
  | .gtr => some (.bool (decide (a > b)))
  | .geq => some (.bool (decide (a ≥ b)))
  | _ => none

def vshift (op : BinOp) (k : IntKind) (a b : Int) : Option V :=
  if b < 0 then none else
  match op with
  | .shl => some (.int k (k.wrap (a * 2 ^ (min b.toNat k.bits))))
  | .shr => some (.int k (a.fdiv (2 ^ (min b.toNat k.bits))))
  | _ => none

def vbinStr (op : BinOp) (a b : List UInt8) : Option V :=
  match op with
  | .add => if a.length + b.length ≤ 2 ^ 40 then some (.str (a ++ b)) else none
  | .eql => some (.bool (a == b))
  | .neq => some (.bool (!(a == b)))
  | .lss => some (.bool (Op.bytesLess a b))
  | .leq => some (.bool (Op.bytesLess a b || a == b))
  | .gtr => some (.bool (!(Op.bytesLess a b || a == b)))
  | .geq => some (.bool (!Op.bytesLess a b))
  | _ => none

def vbin (op : BinOp) (x y : V) : Option V :=
  match x, y with
  | .int k a, .int k' b =>
    match op with
    | .shl | .shr => vshift op k a b
    | _ => if k = k' then vbinInt op k a b else none
  | .str a, .str b => vbinStr op a b
  | _, _ => none

def vbeq (neg : Bool) (x y : V) : Option V :=
  match x, y with
  | .bool a, .bool b => some (.bool (if neg then !(a == b) else a == b))
  | _, _ => none

def vun (op : UnOp) (x : V) : Option V :=
  match op, x with
  | .neg, .int k n => some (.int k (k.wrap (0 - n)))
  | .xor, .int k n => some (.int k (bits .xor k (if k.signed then -1 else k.max) n))
  | .not, .bool b => some (.bool !b)
  | _, _ => none

def vlen (x : V) : Option V :=
  match x with
  | .sl _ rows => some (.int .i64 rows.length)
  | _ => none

def vslen (x : V) : Option V :=
  match x with
  | .str s => some (.int .i64 s.length)
  | _ => none

/-- A bound of a cut, from 0 to some number. -/
def bound (x : V) (most : Nat) : Option Nat :=
  match x with
  | .int _ i => if 0 ≤ i ∧ i ≤ most then some i.toNat else none
  | _ => none

def optBound (x : Option V) (dflt most : Nat) : Option Nat :=
  match x with
  | some v => bound v most
  | none => some dflt

def vslice (x : V) (lo hi mx : Option V) : Option V :=
  match x with
  | .sl _ rows =>
    match mx with
    | some m =>
      (bound m rows.length).bind fun k =>
      (hi.bind (bound · k)).bind fun h =>
      (optBound lo 0 h).bind fun l => some (if k = h then .slt ((rows.take h).drop l) else .sl false ((rows.take h).drop l))
    | none =>
      (optBound hi rows.length rows.length).bind fun h =>
      (optBound lo 0 h).bind fun l => some (.sl false ((rows.take h).drop l))
  | _ => none

/-- All elements have one width (it is the same for all, so the first one tells). -/
def rowsWide (sz : Nat) (x : V) : Prop := match x with
  | .sl _ (row :: _) => row.cells.length = sz
  | _ => True

instance (sz : Nat) (x : V) : Decidable (rowsWide sz x) := by
  unfold rowsWide
  split <;> infer_instance

def vsubstr (x : V) (lo hi : Option V) : Option V :=
  match x with
  | .str s =>
    (optBound hi s.length s.length).bind fun h =>
    (optBound lo 0 h).bind fun l => some (.str ((s.take h).drop l))
  | _ => none

def viaddr (sz : Nat) (x i : V) : Option V :=
  match x, i with
  | .sl _ rows, .int _ n =>
    if 0 ≤ n then
      match rows[n.toNat]? with
      | some row => if row.cells.length = sz then some (.eptr row.cells 0) else none
      | none => none
    else none
  | _, _ => none

def vindex (x i : V) : Option V :=
  match x, i with
  | .str s, .int _ n => if 0 ≤ n then (s[n.toNat]?).map fun b => .int .u8 b.toNat else none
  | _, _ => none

def vfaddr (off : Nat) (x : V) : Option V :=
  match x with
  | .lref t o => some (.lref t (o + off))
  | .ref i o => some (.ref i (o + off))
  | .eptr row o => some (.eptr row (o + off))
  | _ => none

def vfield (off n : Nat) (agg : Bool) (x : V) : Option V :=
  match x with
  | .agg cs => (cut cs off n).bind (ofCells agg)
  | _ => none

def ofBytes (l : List UInt8) : List V := l.map fun b => .int .u8 b.toNat

def toByte : V → Option UInt8
  | .int .u8 n => if 0 ≤ n ∧ n < 256 then some (UInt8.ofNat n.toNat) else none
  | _ => none

/-- The cells of one element that goes into a row: plain data without rights. -/
def rowOf (v : V) (sz : Nat) : Option V :=
  if v.cells.length = sz ∧ v.cells.all V.datum then some v.share2 else none

def fillCells (cs : List V) : List (Nat × Nat × V) → Option (List V)
  | [] => some cs
  | (off, n, v) :: rest =>
    if v.cells.length = n ∧ off + n ≤ cs.length ∧ v.cells.all V.leaf then fillCells (splice cs off v.cells) rest else none

/-- Parts that are taken with their rights. -/
def fillTake (cs env : List V) : List (Nat × Nat × Src) → Option (List V × List V)
  | [] => some (cs, env)
  | (off, n, x) :: rest =>
    if (val env x).cells.length = n ∧ off + n ≤ cs.length ∧ (val env x).cells.all V.leaf then fillTake (splice cs off (val env x).cells) (drain env x) rest else none

def fillRows (sz : Nat) (rows : List V) : List (Nat × V) → Option (List V)
  | [] => some rows
  | (i, v) :: rest =>
    match rowOf v sz with
    | some r => if i < rows.length then fillRows sz (rows.set i r) rest else none
    | none => none

/-- What is stored under an address. -/
def loadAt (s : St) (p : V) (n : Nat) : Option (List V) :=
  match p with
  | .lref t off => match getT s.env t with
    | .box cs => cut cs off n
    | _ => none
  | .ref i off => match s.heap[i]? with
    | some (.cells cs) => cut cs off n
    | _ => none
  | .eptr row off => cut row off n
  | _ => none

def storeAt (s : St) (p : V) (new : List V) : Option St :=
  match p with
  | .lref t off => match getT s.env t with
    | .box cs => if off + new.length ≤ cs.length then some { s with env := s.env.set t (.box (splice cs off new)) } else none
    | _ => none
  | .ref i off => match s.heap[i]? with
    | some (.cells cs) => if off + new.length ≤ cs.length then some { s with heap := s.heap.set i (.cells (splice cs off new)) } else none
    | _ => none
  | _ => none

/-- Forgets the addresses of the local box of a temporary. -/
def kill (t : Nat) : V → V
  | .lref t' off => if t' = t then .undef else .lref t' off
  | v => v

def zeroRow (zero : List V) : V :=
  match zero with
  | [v] => v
  | cs => .agg cs

/-- Leads to objects below a number alone. A store of an address is let only of older objects: then what a call made can be forgotten behind it. -/
def V.under (n : Nat) : V → Bool
  | .ref i _ => decide (i < n)
  | .mp i => decide (i < n)
  | .clo _ first cap => underAll n first && underAll n cap
  | .agg cs => underAll n cs
  | .tup vs => underAll n vs
  | .box _ | .lref .. => false
  | _ => true
  where underAll (n : Nat) : List V → Bool
  | [] => true
  | v :: vs => v.under n && underAll n vs

/-- Operands that are handed on, one behind the other, with their rights. -/
def takeAll : List Src → List V → List V × List V
  | [], env => ([], env)
  | x :: xs, env =>
    let r := takeAll xs (drain env x)
    (val env x :: r.1, r.2)

/-- May be handed to a call, or back. -/
def V.goes : V → Bool
  | .lref .. | .box _ => false
  | _ => true

/-- What may be appended to. -/
def appendable : V → Option (List V)
  | .sl true rows => some rows
  | .slt rows => some rows
  | _ => none

/-- What is appended. -/
def rowsFor : V → Option (List V)
  | .sl _ more => some more
  | .str l => some (ofBytes l)
  | _ => none

/-- The operations that call nothing: the value, and the state behind it (where the value is not yet written). -/
def runOp (s : St) : IOp → Option (V × St)
  | .mv take x =>
    let v := val s.env x
    if take then some (v, { s with env := drain s.env x }) else some (v.share, s)
  | .pick c a b =>
    match val s.env c with
    | .bool true => some ((val s.env a).share, s)
    | .bool false => some ((val s.env b).share, s)
    | _ => none
  | .alloc esc zero =>
    if zero.all V.datum then
      if esc then some (.ref s.heap.length 0, { s with heap := s.heap ++ [.cells zero] }) else some (.box zero, s)
    else none
  | .box esc x =>
    let v := val s.env x
    if v.cells.all V.leaf then
      if esc then
        if v.under s.heap.length then some (.ref s.heap.length 0, { s with env := drain s.env x, heap := s.heap ++ [.cells v.cells] }) else none
      else some (.box v.cells, { s with env := drain s.env x })
    else none
  | .build take zero parts =>
    if take then (fillTake zero s.env parts).map fun r => (.agg r.1, { s with env := r.2 })
    else (fillCells zero (parts.map fun (o, n, x) => (o, n, (val s.env x).share))).map fun cs => (.agg cs, s)
  | .bslice sz zero len parts =>
    if zero.length = sz ∧ zero.all V.datum then
      (fillRows sz (List.replicate len (zeroRow zero)) (parts.map fun (i, x) => (i, val s.env x))).map fun rows => (.sl true rows, s)
    else none
  | .load n agg take x =>
    let p := val s.env x
    (loadAt s p n).bind fun cs =>
      if take then
        match p with
        | .eptr .. => none
        | _ => (ofCells agg cs).bind fun v => (storeAt s p (cs.map V.share1)).map fun s' => (v, s')
      else (ofCells agg (cs.map V.share1)).map fun v => (v, s)
  | .store n x v =>
    let u := val s.env v
    if u.cells.length = n ∧ u.cells.all V.leaf then
      match val s.env x with
      | .ref i off => if u.under i then (storeAt { s with env := drain s.env v } (.ref i off) u.cells).map fun s' => (.undef, s') else none
      | p => (storeAt { s with env := drain s.env v } p u.cells).map fun s' => (.undef, s')
    else none
  | .nilck x =>
    match val s.env x with
    | .ref i o => some (.ref i o, s)
    | .lref t o => some (.lref t o, s)
    | .eptr r o => some (.eptr r o, s)
    | _ => none
  | .bin op x y => (vbin op (val s.env x) (val s.env y)).map fun v => (v, s)
  | .beq neg x y => (vbeq neg (val s.env x) (val s.env y)).map fun v => (v, s)
  | .un op x => (vun op (val s.env x)).map fun v => (v, s)
  | .conv k x => match val s.env x with
    | .int _ n => some (.int k (k.wrap n), s)
    | _ => none
  | .same x => match val s.env x with
    | .sl true rows => if rows.isEmpty then none else some (.sl true rows, { s with env := drain s.env x })
    | _ => none
  | .b2s x => match val s.env x with
    | .sl _ rows => (rows.mapM toByte).map fun l => (.str l, s)
    | _ => none
  | .s2b x => match val s.env x with
    | .str l => some (.sl (!l.isEmpty) (ofBytes l), s)
    | _ => none
  | .mkfn f first cap =>
    if (first.map fun x => (val s.env x).share).all V.goes = true ∧ (cap.map fun x => (val s.env x).share).all V.goes = true then
      some (.clo f (first.map fun x => (val s.env x).share) (cap.map fun x => (val s.env x).share), s)
    else none
  | .mkmap => some (.mp s.heap.length, { s with heap := s.heap ++ [.map []] })
  | .mkslice sz bytes zero len cap =>
    match val s.env len, val s.env cap with
    | .int _ n, .int _ c => if 0 ≤ n ∧ n ≤ c ∧ c * bytes ≤ 2 ^ 40 ∧ zero.length = sz ∧ c ≤ 2 ^ 40 ∧ zero.all V.datum then
        some (.sl (decide (0 < n)) (List.replicate n.toNat (zeroRow zero)), s) else none
    | _, _ => none
  | .slice sz x lo hi mx =>
    if rowsWide sz (val s.env x) then (vslice (val s.env x) (lo.map (val s.env)) (hi.map (val s.env)) (mx.map (val s.env))).map fun v => (v, s) else none
  | .substr x lo hi => (vsubstr (val s.env x) (lo.map (val s.env)) (hi.map (val s.env))).map fun v => (v, s)
  | .faddr off x => (vfaddr off (val s.env x)).map fun v => (v, s)
  | .iaddr sz x i => (viaddr sz (val s.env x) (val s.env i)).map fun v => (v, s)
  | .field off n agg x => (vfield off n agg ((val s.env x).share)).map fun v => (v, s)
  | .index x i => (vindex (val s.env x) (val s.env i)).map fun v => (v, s)
  | .extract x i => match val s.env x with
    | .tup vs => (vs[i]?).map fun v => (v.share2, s)
    | _ => none
  | .len x => (vlen (val s.env x)).map fun v => (v, s)
  | .slen x => (vslen (val s.env x)).map fun v => (v, s)
  | .append sz bytes sx x =>
    match appendable (val s.env sx), rowsFor (val s.env x) with
    | some rows, some more =>
      if (rows.length + more.length) * bytes ≤ 2 ^ 40 ∧ rows.length + more.length ≤ 2 ^ 40 ∧ rowsWide sz (.sl false rows) ∧ rowsWide sz (.sl false more) then
        some (if more.isEmpty then (match val s.env sx with | .slt _ => .slt rows | _ => .sl true rows) else .sl true (rows ++ more), { s with env := drain s.env sx })
      else none
    | _, _ => none
  | .calld .. | .callv .. => none
end Go.Proofs.YtflciaomdlgjpaaGreatDoor.VVE

namespace Go.Proofs.YtflciaomdlgjpaaGreatDoor.VVE

inductive Own where
  | box (t : Nat)
  | obj (i : Nat)
  | tc (t j : Nat)
  | oc (i j : Nat)
  | pbox
  | pend (j : Nat)
  | parg (i j : Nat)
  deriving DecidableEq

/-- What is known of memory: how much of each block is fixed for ever, who owns it, which block an object of the evaluator is, which block the local box of a temporary is. -/
structure G where
  U : Nat → Nat
  O : Nat → Option Own
  β : List Nat
  lam : Nat → Option Nat

inductive RepD (cell : Addr → Option Value) (U : Nat → Nat) : V → Value → Prop
  | bool (b : Bool) : RepD cell U (.bool b) (.bool b)
  | int (k : IntKind) (n : Int) : RepD cell U (.int k n) (.int k n)
  | str (l : List UInt8) (s : ByteArray) : s.data.toList = l → RepD cell U (.str l) (.string s)
  | nil (a : Bool) : RepD cell U (.sl a []) (.slice none 0 0)
  | sl (app : Bool) (rows : List V) (b off cap sz : Nat) (c : Nat → Value) :
      rows.length ≤ cap →
      (∀ (i : Nat) (row : V), rows[i]? = some row → row.cells.length = sz) →
      (∀ j, j < rows.length * sz → cell ⟨b, off + j, none⟩ = some (c j)) →
      (∀ (i : Nat) (row : V) (j : Nat) (v : V), rows[i]? = some row → row.cells[j]? = some v → RepD cell U v (c (i * sz + j))) →
      off + rows.length * sz ≤ U b →
      RepD cell U (.sl app rows) (.slice (some ⟨b, off, none⟩) rows.length cap)
  | slt (rows : List V) (base : Option Addr) : RepD cell U (.sl false rows) (.slice base rows.length rows.length) → RepD cell U (.slt rows) (.slice base rows.length rows.length)

inductive Rep (cell : Addr → Option Value) (U : Nat → Nat) (β : List Nat) : V → Value → Prop
  | datum (v : V) (x : Value) : RepD cell U v x → Rep cell U β v x
  | ptr0 : Rep cell U β .ptr0 (.pointer none)
  | ref (i off b : Nat) : β[i]? = some b → Rep cell U β (.ref i off) (.pointer (some ⟨b, off, none⟩))
  | mp (i b : Nat) : β[i]? = some b → Rep cell U β (.mp i) (.map (some b))
  | eptr (row : List V) (b base off : Nat) (c : Nat → Value) :
      (∀ (j : Nat) (v : V), row[j]? = some v → cell ⟨b, base + j, none⟩ = some (c j) ∧ RepD cell U v (c j)) →
      base + row.length ≤ U b →
      Rep cell U β (.eptr row off) (.pointer (some ⟨b, base + off, none⟩))
  | clo (f : Nat) (first cap : List V) (fs cs : List Value) :
      fs.length = first.length → cs.length = cap.length →
      (∀ (j : Nat) (v : V), first[j]? = some v → Rep cell U β v (fs.getD j Go.undef)) →
      (∀ (j : Nat) (v : V), cap[j]? = some v → Rep cell U β v (cs.getD j Go.undef)) →
      Rep cell U β (.clo f first cap) (.func (.func f) fs.toArray cs.toArray)
  | agg (cells : List V) (xs : List Value) :
      xs.length = cells.length →
      (∀ (j : Nat) (v : V), cells[j]? = some v → Rep cell U β v (xs.getD j Go.undef)) →
      Rep cell U β (.agg cells) (.agg xs.toArray)
  | tup (vs : List V) (xs : List Value) :
      xs.length = vs.length →
      (∀ (j : Nat) (v : V), vs[j]? = some v → Rep cell U β v (xs.getD j Go.undef)) →
      Rep cell U β (.tup vs) (.tuple xs.toArray)
  | undef (x : Value) : Rep cell U β .undef x

abbrev G.Rep (g : G) (w : World) : V → Value → Prop := VVE.Rep w.cell? g.U g.β

def Unfrozen (c : Array Value) (fr : Nat × Nat) : Prop := fr.1 = fr.2 ∨ c.size ≤ fr.1

/-- The right to append: there is no room, or the room is ours. -/
def AppAt (g : G) (w : World) (p : Own) (v : V) (x : Value) : Prop :=
  ∀ rows, v = .sl true rows → ∀ base len cap, x = .slice base len cap →
    (rows = [] ∧ cap = 0) ∨ ∃ b off sz c e fr, base = some ⟨b, off, none⟩ ∧ rows ≠ [] ∧ (∀ row ∈ rows, row.cells.length = sz) ∧ g.O b = some p ∧
      g.U b = off + rows.length * sz ∧ w.heap[b]? = some (.cells c e fr) ∧ off + cap * sz ≤ c.size ∧ Unfrozen c fr

def BlockRep (g : G) (w : World) (b : Nat) (pl : Nat → Own) (cells : List V) : Prop :=
  g.U b = 0 ∧ ∃ c e fr, w.heap[b]? = some (.cells c e fr) ∧ c.size = cells.length ∧ Unfrozen c fr ∧
    ∀ (j : Nat) (v : V), cells[j]? = some v → v.leaf = true ∧ g.Rep w v (c.getD j Go.undef) ∧ AppAt g w (pl j) v (c.getD j Go.undef)

def PlRep (g : G) (w : World) (own : Own) (pl : Nat → Own) (v : V) (x : Value) : Prop :=
  match v with
  | .undef => True
  | .lref t off => ∃ b, g.lam t = some b ∧ x = .pointer (some ⟨b, off, none⟩)
  | .box cells => ∃ b, x = .pointer (some ⟨b, 0, none⟩) ∧ g.O b = some own ∧ BlockRep g w b pl cells
  | v => g.Rep w v x ∧ ∀ (j : Nat) (u : V), v.cells[j]? = some u → AppAt g w (pl j) u (x.cells.getD j Go.undef)

def TmpRep (g : G) (w : World) (t : Nat) (v : V) (x : Value) : Prop :=
  PlRep g w (.box t) (.tc t) v x ∧ ∀ cells, v = .box cells → ∃ b, g.lam t = some b ∧ x = .pointer (some ⟨b, 0, none⟩)

def ObjRep (g : G) (w : World) (i : Nat) (o : Obj') : Prop :=
  match o with
  | .gone => True
  | .cells cs => ∃ b, g.β[i]? = some b ∧ g.O b = some (.obj i) ∧ BlockRep g w b (.oc i) cs ∧ ∀ c ∈ cs, c.under i = true
  | .map es => ∃ b, g.β[i]? = some b ∧ g.O b = some (.obj i) ∧ g.U b = 0 ∧ es = [] ∧ ∃ clock, w.heap[b]? = some (.map #[] clock)

structure Fresh (g : G) (w : World) : Prop where
  U : ∀ b, w.heap.size ≤ b → g.U b = 0
  O : ∀ b, w.heap.size ≤ b → g.O b = none

structure HeapInv (g : G) (h : List Obj') (w : World) : Prop where
  len : h.length = g.β.length
  rep : ∀ (i : Nat) (o : Obj'), h[i]? = some o → ObjRep g w i o

structure Inv (g : G) (s : St) (a : Act) (w : World) : Prop where
  defers : a.defers = []
  size : a.tmps.size = s.env.length
  env : ∀ t, TmpRep g w t (getT s.env t) (a.tmps.getD t Go.undef)
  heap : HeapInv g s.heap w
  fresh : Fresh g w

/-- What was fixed stays. -/
structure Ext (g : G) (w : World) (g' : G) (w' : World) : Prop where
  pub : ∀ b off, off < g.U b → w'.cell? ⟨b, off, none⟩ = w.cell? ⟨b, off, none⟩
  U : ∀ b, g.U b ≤ g'.U b
  β : ∀ (i b : Nat), g.β[i]? = some b → g'.β[i]? = some b

/-- What is not owned stays; what a call or an operation may do. -/
structure Fr (g : G) (w : World) (g' : G) (w' : World) : Prop extends Ext g w g' w' where
  size : w.heap.size ≤ w'.heap.size
  un : ∀ b, b < w.heap.size → g.O b = none → w'.heap[b]? = w.heap[b]? ∧ g'.U b = g.U b ∧ g'.O b = none
  os : w'.os = w.os
  out : w'.output = w.output

theorem Ext.refl (g : G) (w : World) : Ext g w g w := ⟨fun _ _ _ => rfl, fun _ => Nat.le_refl _, fun _ _ h => h⟩

theorem Ext.trans {g g' g'' : G} {w w' w'' : World} (h : Ext g w g' w') (h' : Ext g' w' g'' w'') : Ext g w g'' w'' :=
  ⟨fun b off ho => (h'.pub b off (Nat.lt_of_lt_of_le ho (h.U b))).trans (h.pub b off ho), fun b => Nat.le_trans (h.U b) (h'.U b), fun i b hb => h'.β i b (h.β i b hb)⟩

theorem Fr.refl (g : G) (w : World) : Fr g w g w := ⟨Ext.refl g w, Nat.le_refl _, fun _ _ h => ⟨rfl, rfl, h⟩, rfl, rfl⟩

theorem Fr.trans {g g' g'' : G} {w w' w'' : World} (h : Fr g w g' w') (h' : Fr g' w' g'' w'') : Fr g w g'' w'' := by
  refine ⟨h.toExt.trans h'.toExt, Nat.le_trans h.size h'.size, fun b hb ho => ?_, h'.os.trans h.os, h'.out.trans h.out⟩
  obtain ⟨h1, h2, h3⟩ := h.un b hb ho
  obtain ⟨k1, k2, k3⟩ := h'.un b (Nat.lt_of_lt_of_le hb h.size) h3
  exact ⟨k1.trans h1, k2.trans h2, k3⟩

theorem RepD.mono {cell cell' : Addr → Option Value} {U U' : Nat → Nat} (hp : ∀ b off, off < U b → cell' ⟨b, off, none⟩ = cell ⟨b, off, none⟩) (hU : ∀ b, U b ≤ U' b)
    {v : V} {x : Value} (h : RepD cell U v x) : RepD cell' U' v x := by
  induction h with
  | bool b => exact .bool b
  | int k n => exact .int k n
  | str l s h => exact .str l s h
  | nil a => exact .nil a
  | sl app rows b off cap sz c hc hw hcell _ hu ih =>
    refine .sl app rows b off cap sz c hc hw (fun j hj => ?_) ih (Nat.le_trans hu (hU b))
    rw [hp b (off + j) (by omega)]
    exact hcell j hj
  | slt rows base _ ih => exact .slt rows base ih

theorem Rep.mono {cell cell' : Addr → Option Value} {U U' : Nat → Nat} {β β' : List Nat} (hp : ∀ b off, off < U b → cell' ⟨b, off, none⟩ = cell ⟨b, off, none⟩) (hU : ∀ b, U b ≤ U' b)
    (hβ : ∀ (i b : Nat), β[i]? = some b → β'[i]? = some b) {v : V} {x : Value} (h : Rep cell U β v x) : Rep cell' U' β' v x := by
  induction h with
  | datum v x h => exact .datum v x (h.mono hp hU)
  | ptr0 => exact .ptr0
  | ref i off b h => exact .ref i off b (hβ i b h)
  | mp i b h => exact .mp i b (hβ i b h)
  | eptr row b base off c h hu =>
    refine .eptr row b base off c (fun j v hj => ?_) (Nat.le_trans hu (hU b))
    obtain ⟨h1, h2⟩ := h j v hj
    have hlt : j < row.length := (List.getElem?_eq_some_iff.1 hj).1
    exact ⟨by rw [hp b (base + j) (by omega)]; exact h1, h2.mono hp hU⟩
  | clo f first cap fs cs h1 h2 _ _ ih1 ih2 => exact .clo f first cap fs cs h1 h2 ih1 ih2
  | agg cells xs h _ ih => exact .agg cells xs h ih
  | tup vs xs h _ ih => exact .tup vs xs h ih
  | undef x => exact .undef x

theorem Ext.rep {g g' : G} {w w' : World} (h : Ext g w g' w') {v : V} {x : Value} (hr : g.Rep w v x) : g'.Rep w' v x :=
  Rep.mono h.pub h.U h.β hr

/-- Blocks whose owner is not in 'E' stay as they were. -/
structure Keep (E : Own → Prop) (g : G) (w : World) (g' : G) (w' : World) : Prop extends Ext g w g' w' where
  own : ∀ b p, g.O b = some p → ¬ E p → w'.heap[b]? = w.heap[b]? ∧ g'.U b = g.U b ∧ g'.O b = some p

theorem AppAt.keep {E : Own → Prop} {g g' : G} {w w' : World} (hk : Keep E g w g' w') {p : Own} (hp : ¬ E p) {v : V} {x : Value} (h : AppAt g w p v x) : AppAt g' w' p v x := by
  intro rows hv base len cap hx
  rcases h rows hv base len cap hx with h | ⟨b, off, sz, c, e, fr, h1, h2, h3, h4, h5, h6, h7, h8⟩
  · exact .inl h
  · obtain ⟨k1, k2, k3⟩ := hk.own b p h4 hp
    exact .inr ⟨b, off, sz, c, e, fr, h1, h2, h3, k3, k2.trans h5, k1.trans h6, h7, h8⟩

theorem BlockRep.keep {E : Own → Prop} {g g' : G} {w w' : World} (hk : Keep E g w g' w') {b : Nat} {p : Own} (ho : g.O b = some p) (hp : ¬ E p) {pl : Nat → Own} (hpl : ∀ j, ¬ E (pl j))
    {cells : List V} (h : BlockRep g w b pl cells) : BlockRep g' w' b pl cells := by
  obtain ⟨hu, c, e, fr, hh, hs, hf, hc⟩ := h
  obtain ⟨k1, k2, k3⟩ := hk.own b p ho hp
  exact ⟨k2.trans hu, c, e, fr, k1.trans hh, hs, hf, fun j v hj => ⟨(hc j v hj).1, hk.toExt.rep (hc j v hj).2.1, (hc j v hj).2.2.keep hk (hpl j)⟩⟩

theorem PlRep.keep {E : Own → Prop} {g g' : G} {w w' : World} (hk : Keep E g w g' w') {own : Own} (ho : ¬ E own) {pl : Nat → Own} (hpl : ∀ j, ¬ E (pl j))
    (hl : ∀ t b, g.lam t = some b → g'.lam t = some b) {v : V} {x : Value} (h : PlRep g w own pl v x) : PlRep g' w' own pl v x := by
  unfold PlRep at *
  split
  · trivial
  · rename_i t off
    obtain ⟨b, hb, hx⟩ := h
    exact ⟨b, hl t b hb, hx⟩
  · rename_i cells
    obtain ⟨b, hx, hO, hb⟩ := h
    exact ⟨b, hx, (hk.own b own hO ho).2.2, hb.keep hk hO ho hpl⟩
  · rename_i h1 h2 h3
    split at h
    · exact absurd rfl (h1 ·)
    · exact absurd rfl (h2 _ _ ·)
    · exact absurd rfl (h3 _ ·)
    · exact ⟨hk.toExt.rep h.1, fun j u hj => (h.2 j u hj).keep hk (hpl j)⟩

end Go.Proofs.YtflciaomdlgjpaaGreatDoor.VVE

namespace Go.Proofs.YtflciaomdlgjpaaGreatDoor.VVE

def G.ren (g : G) (f : Own → Own) : G := { g with O := fun b => (g.O b).map f }

theorem AppAt.ren {g : G} {w : World} {p : Own} {v : V} {x : Value} (h : AppAt g w p v x) (f : Own → Own) : AppAt (g.ren f) w (f p) v x := by
  intro rows hv base len cap hx
  rcases h rows hv base len cap hx with h | ⟨b, off, sz, c, e, fr, h1, h2, h3, h4, h5⟩
  · exact .inl h
  · exact .inr ⟨b, off, sz, c, e, fr, h1, h2, h3, by simp [G.ren, h4], h5⟩

theorem AppAt.ren' {g : G} {w : World} {p q : Own} {v : V} {x : Value} (h : AppAt g w p v x) (f : Own → Own) (hq : f p = q) : AppAt (g.ren f) w q v x := hq ▸ h.ren f

theorem BlockRep.ren {g : G} {w : World} {b : Nat} {pl pl' : Nat → Own} {cells : List V} (h : BlockRep g w b pl cells) (f : Own → Own) (hp : ∀ j, f (pl j) = pl' j) : BlockRep (g.ren f) w b pl' cells := by
  obtain ⟨hu, c, e, fr, hh, hs, hf, hc⟩ := h
  exact ⟨hu, c, e, fr, hh, hs, hf, fun j v hj => ⟨(hc j v hj).1, (hc j v hj).2.1, (hc j v hj).2.2.ren' f (hp j)⟩⟩

theorem PlRep.ren {g : G} {w : World} {own own' : Own} {pl pl' : Nat → Own} {v : V} {x : Value} (h : PlRep g w own pl v x) (f : Own → Own) (ho : f own = own') (hp : ∀ j, f (pl j) = pl' j) :
    PlRep (g.ren f) w own' pl' v x := by
  unfold PlRep at *
  split
  · trivial
  · exact h
  · obtain ⟨b, hx, hO, hb⟩ := h
    exact ⟨b, hx, by simp [G.ren, hO, ho], hb.ren f hp⟩
  · rename_i h1 h2 h3
    split at h
    · exact absurd rfl (h1 ·)
    · exact absurd rfl (h2 _ _ ·)
    · exact absurd rfl (h3 _ ·)
    · exact ⟨h.1, fun j u hj => (h.2 j u hj).ren' f (hp j)⟩

theorem TmpRep.ren {g : G} {w : World} {t : Nat} {v : V} {x : Value} (h : TmpRep g w t v x) (f : Own → Own) (ho : f (.box t) = .box t) (hp : ∀ j, f (.tc t j) = .tc t j) : TmpRep (g.ren f) w t v x :=
  ⟨h.1.ren f ho hp, h.2⟩

theorem ObjRep.ren {g : G} {w : World} {i : Nat} {o : Obj'} (h : ObjRep g w i o) (f : Own → Own) (ho : f (.obj i) = .obj i) (hp : ∀ j, f (.oc i j) = .oc i j) : ObjRep (g.ren f) w i o := by
  unfold ObjRep at *
  split
  · trivial
  · obtain ⟨b, hb, hO, hB, hu⟩ := h
    exact ⟨b, hb, by simp [G.ren, hO, ho], hB.ren f hp, hu⟩
  · obtain ⟨b, hb, hO, hU, h⟩ := h
    exact ⟨b, hb, by simp [G.ren, hO, ho], hU, h⟩

theorem HeapInv.ren {g : G} {w : World} {hs : List Obj'} (h : HeapInv g hs w) (f : Own → Own) (ho : ∀ i, f (.obj i) = .obj i) (hp : ∀ i j, f (.oc i j) = .oc i j) : HeapInv (g.ren f) hs w :=
  ⟨h.len, fun i o hi => (h.rep i o hi).ren f (ho i) (hp i)⟩

theorem Fresh.ren {g : G} {w : World} (h : Fresh g w) (f : Own → Own) : Fresh (g.ren f) w := ⟨h.U, fun b hb => by simp [G.ren, h.O b hb]⟩

theorem Fr.ren (g : G) (w : World) (f : Own → Own) : Fr g w (g.ren f) w :=
  ⟨⟨fun _ _ _ => rfl, fun _ => Nat.le_refl _, fun _ _ h => h⟩, Nat.le_refl _, fun _ _ h => ⟨rfl, rfl, by simp [G.ren, h]⟩, rfl, rfl⟩

/- SHARING -/

theorem share1_of_leaf {v : V} (h : v.leaf = true) : v.share = v.share1 := by cases v <;> simp_all [V.leaf, V.share, V.share1]

theorem RepD.share1 {cell : Addr → Option Value} {U : Nat → Nat} {v : V} {x : Value} (h : RepD cell U v x) : RepD cell U v.share1 x := by
  cases h with
  | bool b => exact .bool b
  | int k n => exact .int k n
  | str l s h => exact .str l s h
  | nil a => exact .nil _
  | sl app rows b off cap sz c h1 h2 h3 h4 h5 => exact .sl false rows b off cap sz c h1 h2 h3 h4 h5
  | slt rows base h => exact h

theorem Rep.share1 {cell : Addr → Option Value} {U : Nat → Nat} {β : List Nat} {v : V} {x : Value} (h : Rep cell U β v x) : Rep cell U β v.share1 x := by
  cases h with
  | datum v x h => exact .datum _ _ h.share1
  | ptr0 => exact .ptr0
  | ref i off b h => exact .ref i off b h
  | mp i b h => exact .mp i b h
  | eptr row b base off c h hu => exact .eptr row b base off c h hu
  | clo f first cap fs cs h1 h2 h3 h4 => exact .clo f first cap fs cs h1 h2 h3 h4
  | agg cells xs h1 h2 => exact .agg cells xs h1 h2
  | tup vs xs h1 h2 => exact .tup vs xs h1 h2
  | undef x => exact .undef x

theorem Rep.aggMap {cell : Addr → Option Value} {U : Nat → Nat} {β : List Nat} {cells : List V} {xs : List Value} (h1 : xs.length = cells.length)
    (h2 : ∀ (j : Nat) (v : V), cells[j]? = some v → Rep cell U β v (xs.getD j Go.undef)) : Rep cell U β (.agg (cells.map V.share1)) (.agg xs.toArray) := by
  refine .agg _ xs (by simpa using h1) (fun j v hj => ?_)
  simp only [List.getElem?_map, Option.map_eq_some_iff] at hj
  obtain ⟨u, hu, rfl⟩ := hj
  exact (h2 j u hu).share1

theorem Rep.share2 {cell : Addr → Option Value} {U : Nat → Nat} {β : List Nat} {v : V} {x : Value} (h : Rep cell U β v x) : Rep cell U β v.share2 x := by
  cases h with
  | datum v x h =>
    have := h.share1
    cases h <;> exact .datum _ _ this
  | ptr0 => exact .ptr0
  | ref i off b h => exact .ref i off b h
  | mp i b h => exact .mp i b h
  | eptr row b base off c h hu => exact .eptr row b base off c h hu
  | clo f first cap fs cs h1 h2 h3 h4 => exact .clo f first cap fs cs h1 h2 h3 h4
  | agg cells xs h1 h2 => exact Rep.aggMap h1 h2
  | tup vs xs h1 h2 => exact .tup vs xs h1 h2
  | undef x => exact .undef x

theorem Rep.share {cell : Addr → Option Value} {U : Nat → Nat} {β : List Nat} {v : V} {x : Value} (h : Rep cell U β v x) : Rep cell U β v.share x := by
  cases h with
  | datum v x h =>
    have := h.share1
    cases h <;> exact .datum _ _ this
  | ptr0 => exact .ptr0
  | ref i off b h => exact .ref i off b h
  | mp i b h => exact .mp i b h
  | eptr row b base off c h hu => exact .eptr row b base off c h hu
  | clo f first cap fs cs h1 h2 h3 h4 => exact .clo f first cap fs cs h1 h2 h3 h4
  | agg cells xs h1 h2 => exact Rep.aggMap h1 h2
  | tup vs xs h1 h2 =>
    refine .tup _ xs (by simpa using h1) (fun j v hj => ?_)
    simp only [List.getElem?_map, Option.map_eq_some_iff] at hj
    obtain ⟨u, hu, rfl⟩ := hj
    exact (h2 j u hu).share2
  | undef x => exact .undef x

/-- No right lies at the top. -/
def V.calm (v : V) : Prop := ∀ (j : Nat) (u : V), v.cells[j]? = some u → ∀ rows, u ≠ .sl true rows

theorem V.calm_share1 (v : V) : ∀ rows, v.share1 ≠ .sl true rows := by
  intro rows
  cases v <;> simp [V.share1]

theorem calm_mapShare1 (cs : List V) : ∀ (j : Nat) (u : V), (cs.map V.share1)[j]? = some u → ∀ rows, u ≠ .sl true rows := by
  intro j u hj rows
  simp only [List.getElem?_map, Option.map_eq_some_iff] at hj
  obtain ⟨x, _, rfl⟩ := hj
  exact V.calm_share1 x rows

theorem V.calm_share2 (v : V) (hb : ∀ cs, v ≠ .box cs) : v.share2.calm := by
  intro j u hj rows
  cases v
  case agg cs => exact calm_mapShare1 cs j u (by simpa [V.share2, V.cells] using hj) rows
  case box cs => exact absurd rfl (hb cs)
  all_goals
    simp only [V.share2, V.cells, List.getElem?_singleton] at hj
    split at hj <;> simp at hj
    subst hj
    simp

theorem V.calm_share (v : V) (hb : ∀ cs, v ≠ .box cs) : v.share.calm := by
  intro j u hj rows
  cases v
  case agg cs => exact calm_mapShare1 cs j u (by simpa [V.share, V.cells] using hj) rows
  case box cs => exact absurd rfl (hb cs)
  all_goals
    simp only [V.share, V.cells, List.getElem?_singleton] at hj
    split at hj <;> simp at hj
    subst hj
    simp

theorem AppAt.calm {g : G} {w : World} {p : Own} {v : V} {x : Value} (h : ∀ rows, v ≠ .sl true rows) : AppAt g w p v x := fun rows hv => absurd hv (h rows)

/-- Is neither the address of a local box nor a local box nor nothing. -/
def V.solid : V → Bool
  | .lref .. | .box _ | .undef => false
  | _ => true

theorem PlRep.solid {g : G} {w : World} {own : Own} {pl : Nat → Own} {v : V} {x : Value} (hs : v.solid = true) :
    PlRep g w own pl v x ↔ (g.Rep w v x ∧ ∀ (j : Nat) (u : V), v.cells[j]? = some u → AppAt g w (pl j) u (x.cells.getD j Go.undef)) := by
  cases v <;> simp_all [V.solid, PlRep]

theorem PlRep.rep {g : G} {w : World} {own : Own} {pl : Nat → Own} {v : V} {x : Value} (h : PlRep g w own pl v x) (hg : v.goes = true) : g.Rep w v x := by
  cases v <;> first | exact h.1 | exact .undef x | simp [V.goes] at hg

theorem PlRep.of_calm {g : G} {w : World} {own : Own} {pl : Nat → Own} {v : V} {x : Value} (h : g.Rep w v x) (hc : v.calm) (hg : v.goes = true) : PlRep g w own pl v x := by
  cases hs : v.solid with
  | true => exact (PlRep.solid hs).2 ⟨h, fun j u hj => AppAt.calm (hc j u hj)⟩
  | false => cases v <;> first | trivial | simp [V.solid] at hs | simp [V.goes] at hg

theorem PlRep.share {g : G} {w : World} {own own' : Own} {pl pl' : Nat → Own} {v : V} {x : Value} (h : PlRep g w own pl v x) (hb : ∀ cs, v ≠ .box cs) : PlRep g w own' pl' v.share x := by
  cases hs : v.solid with
  | true =>
    have h := (PlRep.solid hs).1 h
    exact PlRep.of_calm h.1.share (V.calm_share v hb) (by cases v <;> simp_all [V.solid, V.share, V.goes])
  | false =>
    cases v <;> first | trivial | exact h | (simp [V.solid] at hs; done) | exact absurd rfl (hb _)

/- OPERANDS -/

def chkConst : V → Value → Bool
  | .bool a, .bool b => a == b
  | .int k a, .int k' b => decide (k = k') && a == b
  | .str l, .string s => l == s.data.toList
  | .sl true [], .slice none 0 0 => true
  | .ptr0, .pointer none => true
  | _, _ => false

def chkSrc : Src → Operand → Bool
  | .t t, .tmp t' => t == t'
  | .c v, .const x => chkConst v x
  | .c (.clo f [] []), .func f' => f == f'
  | _, _ => false

theorem chkConst_rep {g : G} {w : World} {v : V} {x : Value} (h : chkConst v x = true) : g.Rep w v x ∧ (∀ p, AppAt g w p v x) ∧ v.cells = [v] ∧ v.solid = true ∧ x.cells = #[x] ∧ v.leaf = true := by
  unfold chkConst at h
  split at h
  · simp at h; subst h; exact ⟨.datum _ _ (.bool _), fun p => AppAt.calm (by simp), rfl, rfl, rfl, rfl⟩
  · simp at h; obtain ⟨rfl, rfl⟩ := h; exact ⟨.datum _ _ (.int _ _), fun p => AppAt.calm (by simp), rfl, rfl, rfl, rfl⟩
  · simp at h; subst h; exact ⟨.datum _ _ (.str _ _ rfl), fun p => AppAt.calm (by simp), rfl, rfl, rfl, rfl⟩
  · refine ⟨.datum _ _ (.nil _), fun p rows hv base len cap hx => ?_, rfl, rfl, rfl, rfl⟩
    simp at hv hx
    obtain ⟨rfl, rfl, rfl⟩ := hx
    subst hv
    exact .inl ⟨rfl, rfl⟩
  · exact ⟨.ptr0, fun p => AppAt.calm (by simp), rfl, rfl, rfl, rfl⟩
  · simp at h

theorem PlRep.const {g : G} {w : World} {own : Own} {pl : Nat → Own} {v : V} {o : Operand} {a : Act} (h : chkSrc (.c v) o = true) : PlRep g w own pl v (a.eval o) := by
  unfold chkSrc at h
  split at h
  · rename_i h1; cases h1
  · rename_i v' x h1
    cases h1
    obtain ⟨h1, h2, h3, h4, h5, h6⟩ := chkConst_rep (g := g) (w := w) h
    refine (PlRep.solid h4).2 ⟨h1, fun j u hj => ?_⟩
    rw [h3] at hj
    simp only [List.getElem?_singleton] at hj
    split at hj <;> simp at hj
    subst hj
    rename_i h0
    subst h0
    simp only [Act.eval, h5]
    exact h2 _
  · rename_i f f' h1
    cases h1
    simp at h
    subst h
    refine (PlRep.solid rfl).2 ⟨.clo f [] [] [] [] rfl rfl (by simp) (by simp), fun j u hj => ?_⟩
    simp only [V.cells, List.getElem?_singleton] at hj
    split at hj <;> simp at hj
    subst hj
    exact AppAt.calm (by simp)
  · simp at h

theorem getT_set (env : List V) (d t : Nat) (v : V) : getT (env.set d v) t = if d = t ∧ d < env.length then v else getT env t := by
  unfold getT
  simp only [List.getD_eq_getElem?_getD, List.getElem?_set]
  by_cases h : d = t
  · subst h
    by_cases hl : d < env.length
    · simp [hl]
    · simp [hl]
  · simp [h]

theorem getD_setIfInBounds (xs : Array Value) (d t : Nat) (v : Value) : (xs.setIfInBounds d v).getD t Go.undef = if d = t ∧ d < xs.size then v else xs.getD t Go.undef := by
  simp only [Array.getD_eq_getD_getElem?, Array.getElem?_setIfInBounds]
  by_cases h : d = t
  · subst h
    by_cases hl : d < xs.size
    · simp [hl]
    · simp [hl]
  · simp [h]

theorem Inv.val {g : G} {s : St} {a : Act} {w : World} (hi : Inv g s a w) {x : Src} {o : Operand} (hc : chkSrc x o = true) : ∃ own pl, PlRep g w own pl (val s.env x) (a.eval o) ∧
    ((∃ t, x = .t t ∧ own = .box t ∧ pl = .tc t) ∨ ∃ v, x = .c v) := by
  cases x with
  | c v => exact ⟨.pbox, .pend, PlRep.const hc, .inr ⟨v, rfl⟩⟩
  | t t =>
    have ho : o = .tmp t := by
      unfold chkSrc at hc
      split at hc <;> simp_all
    subst ho
    have ht := hi.env t
    refine ⟨.box t, .tc t, ?_, .inl ⟨t, rfl, rfl, rfl⟩⟩
    show PlRep g w _ _ (VVE.val s.env (.t t)) (a.tmps.getD t Go.undef)
    unfold VVE.val
    dsimp only
    split
    · rename_i cs hcs
      obtain ⟨b, hb, hx⟩ := ht.2 cs hcs
      exact ⟨b, hb, hx⟩
    · exact ht.1

theorem val_not_box (env : List V) (x : Src) (hc : ∀ v, x = .c v → ∀ cs, v ≠ .box cs) : ∀ cs, val env x ≠ .box cs := by
  intro cs
  cases x with
  | c v => exact hc v rfl cs
  | t t =>
    unfold val
    dsimp only
    split
    · simp
    · rename_i h; exact h cs

theorem chkSrc_not_box {x : Src} {o : Operand} (hc : chkSrc x o = true) : ∀ v, x = .c v → ∀ cs, v ≠ .box cs := by
  rintro v rfl cs rfl
  unfold chkSrc at hc
  split at hc
  · simp_all
  · rename_i h; cases h; simp [chkConst] at hc
  · simp_all
  · simp at hc

/-- What an operand is, without its rights: nothing moves. -/
theorem Inv.look {g : G} {s : St} {a : Act} {w : World} (hi : Inv g s a w) {x : Src} {o : Operand} (hc : chkSrc x o = true) (own : Own) (pl : Nat → Own) :
    PlRep g w own pl (VVE.val s.env x).share (a.eval o) := by
  obtain ⟨own', pl', h, _⟩ := hi.val hc
  exact h.share (val_not_box _ _ (chkSrc_not_box hc))

theorem Inv.see {g : G} {s : St} {a : Act} {w : World} (hi : Inv g s a w) {x : Src} {o : Operand} (hc : chkSrc x o = true) (hg : (VVE.val s.env x).goes = true) :
    g.Rep w (VVE.val s.env x) (a.eval o) := by
  obtain ⟨own', pl', h, _⟩ := hi.val hc
  exact h.rep hg

/-- Takes the rights of a temporary. -/
def takeF (t : Nat) (pl : Nat → Own) : Own → Own
  | .tc t' j => if t' = t then pl j else .tc t' j
  | p => p

def takeS (env : List V) (x : Src) (pl : Nat → Own) : Own → Own :=
  match x with
  | .t i => match getT env i with
    | .box _ => id
    | _ => takeF i pl
  | .c _ => id

theorem takeF_other {t t' j : Nat} {pl : Nat → Own} (h : t' ≠ t) : takeF t pl (.tc t' j) = .tc t' j := by simp [takeF, h]

theorem G.ren_id (g : G) : g.ren id = g := by simp [G.ren]

theorem takeS_fix (env : List V) (x : Src) (pl : Nat → Own) (p : Own) (h : ∀ t j, p ≠ .tc t j) : takeS env x pl p = p := by
  have key : ∀ t, takeF t pl p = p := by
    intro t
    cases p with
    | tc t j => exact absurd rfl (h t j)
    | _ => rfl
  cases x with
  | c v => rfl
  | t i =>
    unfold takeS
    dsimp only
    cases getT env i <;> first | rfl | exact key _

theorem takeS_nb {env : List V} {t : Nat} (h : ∀ cs, getT env t ≠ .box cs) (pl : Nat → Own) : takeS env (.t t) pl = takeF t pl := by
  unfold takeS
  dsimp only
  split
  · rename_i cs hcs; exact absurd hcs (h cs)
  · rfl

theorem drain_nb {env : List V} {t : Nat} (h : ∀ cs, getT env t ≠ .box cs) : drain env (.t t) = env.set t (getT env t).share := by
  unfold drain
  dsimp only
  split
  · rename_i cs hcs; exact absurd hcs (h cs)
  · rfl

theorem val_nb {env : List V} {t : Nat} (h : ∀ cs, getT env t ≠ .box cs) : val env (.t t) = getT env t := by
  unfold val
  dsimp only
  split
  · rename_i cs hcs; exact absurd hcs (h cs)
  · rfl

/-- An operand is taken with its rights, which lie at 'pl' then. -/
theorem Inv.take {g : G} {s : St} {a : Act} {w : World} (hi : Inv g s a w) {x : Src} {o : Operand} (hc : chkSrc x o = true) (own : Own) (pl : Nat → Own) :
    Inv (g.ren (takeS s.env x pl)) { s with env := drain s.env x } a w ∧ PlRep (g.ren (takeS s.env x pl)) w own pl (VVE.val s.env x) (a.eval o) := by
  cases x with
  | c v =>
    show Inv (g.ren id) s a w ∧ _
    show _ ∧ PlRep (g.ren id) w own pl _ _
    rw [G.ren_id]
    exact ⟨hi, PlRep.const hc⟩
  | t t =>
    obtain ⟨own', pl', h, hx⟩ := hi.val hc
    have ho : o = .tmp t := by
      unfold chkSrc at hc
      split at hc <;> simp_all
    subst ho
    rcases hx with ⟨t', h1, rfl, rfl⟩ | ⟨v, h1⟩
    rotate_left
    · cases h1
    cases h1
    by_cases hbx : ∃ cs, getT s.env t = .box cs
    · obtain ⟨cs, hb⟩ := hbx
      have e1 : takeS s.env (.t t) pl = id := by simp [takeS, hb]
      have e2 : drain s.env (.t t) = s.env := by simp [drain, hb]
      have e3 : VVE.val s.env (.t t) = .lref t 0 := by simp [VVE.val, hb]
      rw [e1, e2, e3, G.ren_id]
      rw [e3] at h
      exact ⟨hi, h⟩
    · have hnb : ∀ cs, getT s.env t ≠ .box cs := fun cs hcs => hbx ⟨cs, hcs⟩
      rw [val_nb hnb] at h
      rw [takeS_nb hnb, drain_nb hnb, val_nb hnb]
      · refine ⟨⟨hi.defers, by simpa using hi.size, fun t' => ?_, hi.heap.ren _ (fun _ => rfl) (fun _ _ => rfl), hi.fresh.ren _⟩, ?_⟩
        · rw [getT_set]
          by_cases htt : t = t' ∧ t < s.env.length
          · rw [if_pos htt]
            obtain ⟨rfl, _⟩ := htt
            have h0 := (hi.env t).1.share (own' := .box t) (pl' := .tc t) hnb
            refine ⟨?_, fun cs hcs => ?_⟩
            · cases hs : (getT s.env t).share.solid with
              | true =>
                have h0 := (PlRep.solid hs).1 h0
                exact (PlRep.solid hs).2 ⟨h0.1, fun j u hj => AppAt.calm (V.calm_share _ hnb j u hj)⟩
              | false =>
                revert h0
                cases hv : (getT s.env t).share <;> intro h0 <;> first
                  | trivial
                  | exact h0
                  | (rw [hv] at hs; simp [V.solid] at hs; done)
                  | (exfalso; revert hv; cases hq : getT s.env t <;> simp [V.share]; exact absurd hq (hnb _))
            · exfalso
              revert hcs
              cases hq : getT s.env t <;> simp [V.share]
              exact absurd hq (hnb _)
          · rw [if_neg htt]
            by_cases htt2 : t = t'
            · subst htt2
              have : getT s.env t = .undef := by
                unfold getT
                rw [List.getD_eq_getElem?_getD, List.getElem?_eq_none (by simpa using htt)]
                rfl
              rw [this]
              exact ⟨trivial, by simp⟩
            · exact (hi.env t').ren _ rfl (fun j => takeF_other (Ne.symm htt2))
        · have h0 := (hi.env t).1
          cases hs : (getT s.env t).solid with
          | true =>
            have h0 := (PlRep.solid hs).1 h0
            exact (PlRep.solid hs).2 ⟨h0.1, fun j u hj => (h0.2 j u hj).ren' _ (by simp [takeF])⟩
          | false =>
            revert h0
            cases hv : getT s.env t <;> intro h0 <;> first
              | trivial
              | exact h0
              | (rw [hv] at hs; simp [V.solid] at hs; done)
              | exact absurd hv (hnb _)

theorem Inv.take_fr {g : G} {s : St} {w : World} (x : Src) (pl : Nat → Own) : Fr g w (g.ren (takeS s.env x pl)) w := Fr.ren g w _

end Go.Proofs.YtflciaomdlgjpaaGreatDoor.VVE

namespace Go.Proofs.YtflciaomdlgjpaaGreatDoor.VVE

def putF (d : Nat) : Own → Own
  | .pend j => .tc d j
  | .pbox => .box d
  | p => p

theorem TmpRep.of_solid {g : G} {w : World} {t : Nat} {v : V} {x : Value} (h : PlRep g w (.box t) (.tc t) v x) (hb : ∀ cs, v ≠ .box cs) : TmpRep g w t v x :=
  ⟨h, fun cs hcs => absurd hcs (hb cs)⟩

theorem getT_ge {env : List V} {t : Nat} (h : ¬ t < env.length) : getT env t = .undef := by
  unfold getT
  rw [List.getD_eq_getElem?_getD, List.getElem?_eq_none (by omega)]
  rfl

theorem Act.put_some (a : Act) (d : Nat) (x : Value) : a.put (some d) x = { a with tmps := a.tmps.setIfInBounds d x } := rfl

theorem Inv.put {g : G} {s : St} {a : Act} {w : World} (hi : Inv g s a w) {v : V} {x : Value} (hv : PlRep g w .pbox .pend v x) (hb : ∀ cs, v ≠ .box cs) (d : Nat) :
    Inv (g.ren (putF d)) { s with env := s.env.set d v } (a.put (some d) x) w := by
  refine ⟨hi.defers, by simpa [Act.put_some] using hi.size, fun t => ?_, hi.heap.ren _ (fun _ => rfl) (fun _ _ => rfl), hi.fresh.ren _⟩
  rw [Act.put_some, getT_set, getD_setIfInBounds, hi.size]
  by_cases h : d = t ∧ d < s.env.length
  · rw [if_pos h, if_pos h]
    obtain ⟨rfl, _⟩ := h
    exact TmpRep.of_solid (hv.ren _ rfl (fun _ => rfl)) hb
  · rw [if_neg h, if_neg h]
    exact (hi.env t).ren _ rfl (fun _ => rfl)

def G.local (g : G) (d b : Nat) : G := { g with lam := fun t => if t = d then some b else g.lam t }

theorem PlRep.congr {g g' : G} {w : World} {own : Own} {pl : Nat → Own} {v : V} {x : Value} (h : PlRep g w own pl v x) (hU : g'.U = g.U) (hO : g'.O = g.O) (hβ : g'.β = g.β)
    (hl : ∀ t off, v = .lref t off → g'.lam t = g.lam t) : PlRep g' w own pl v x := by
  cases g; cases g'
  simp only at hU hO hβ hl
  subst hU hO hβ
  unfold PlRep at *
  split
  · trivial
  · rename_i t off
    obtain ⟨b, hb, hx⟩ := h
    exact ⟨b, (hl t off rfl).trans hb, hx⟩
  · exact h
  · rename_i h1 h2 h3
    split at h
    · exact absurd rfl (h1 ·)
    · exact absurd rfl (h2 _ _ ·)
    · exact absurd rfl (h3 _ ·)
    · exact h

theorem getT_map (env : List V) (f : V → V) (hf : f .undef = .undef) (t : Nat) : getT (env.map f) t = f (getT env t) := by
  unfold getT
  simp only [List.getD_eq_getElem?_getD, List.getElem?_map]
  cases env[t]? <;> simp [hf]

theorem Inv.putBox {g : G} {s : St} {a : Act} {w : World} (hi : Inv g s a w) {cs : List V} {x : Value} (hv : PlRep g w .pbox .pend (.box cs) x) (d : Nat) :
    ∃ b, Inv ((g.ren (putF d)).local d b) { s with env := (s.env.map (kill d)).set d (.box cs) } (a.put (some d) x) w := by
  obtain ⟨b, hx, hO, hB⟩ := hv
  refine ⟨b, hi.defers, by simpa [Act.put_some] using hi.size, fun t => ?_, ?_, ⟨fun b' hb' => hi.fresh.U b' hb', fun b' hb' => by simp [G.local, G.ren, hi.fresh.O b' hb']⟩⟩
  · rw [Act.put_some, getT_set, getD_setIfInBounds, hi.size]
    simp only [List.length_map]
    by_cases h : d = t ∧ d < s.env.length
    · rw [if_pos h, if_pos h]
      obtain ⟨rfl, _⟩ := h
      refine ⟨⟨b, hx, by simp [G.local, G.ren, hO, putF], ?_⟩, fun cs' _ => ⟨b, by simp [G.local], hx⟩⟩
      exact hB.ren (putF d) (fun _ => rfl)
    · rw [if_neg h, if_neg h, getT_map _ _ rfl]
      have ht := (hi.env t).ren (putF d) rfl (fun _ => rfl)
      by_cases htd : t = d
      · subst htd
        have : getT s.env t = .undef := getT_ge (fun hl => h ⟨rfl, hl⟩)
        rw [this]
        exact ⟨trivial, by simp [kill]⟩
      · by_cases hl : ∃ off, getT s.env t = .lref d off
        · obtain ⟨off, ho⟩ := hl
          rw [ho]
          simp only [kill, if_true]
          exact ⟨trivial, by simp⟩
        · have hk : kill d (getT s.env t) = getT s.env t := by
            cases hq : getT s.env t <;> simp only [kill]
            rename_i t' off
            rw [if_neg]
            rintro rfl
            exact hl ⟨off, hq⟩
          rw [hk]
          refine ⟨ht.1.congr rfl rfl rfl (fun t' off ho => ?_), fun cs' hcs => ?_⟩
          · simp only [G.local]
            rw [if_neg]
            rintro rfl
            exact hl ⟨off, ho⟩
          · obtain ⟨b', hb', hx'⟩ := ht.2 cs' hcs
            exact ⟨b', by simpa [G.local, htd] using hb', hx'⟩
  · exact ⟨hi.heap.len, fun i o hio => (hi.heap.ren (putF d) (fun _ => rfl) (fun _ _ => rfl)).rep i o hio⟩

theorem Fr.local (g : G) (w : World) (f : Own → Own) (d b : Nat) : Fr g w ((g.ren f).local d b) w :=
  ⟨⟨fun _ _ _ => rfl, fun _ => Nat.le_refl _, fun _ _ h => h⟩, Nat.le_refl _, fun _ _ h => ⟨rfl, rfl, by simp [G.local, G.ren, h]⟩, rfl, rfl⟩

end Go.Proofs.YtflciaomdlgjpaaGreatDoor.VVE

namespace Go.Proofs.YtflciaomdlgjpaaGreatDoor.VVE

def World.withBlock (w : World) (b : Nat) (o : Obj) : World := { w with heap := w.heap.setIfInBounds b o }

theorem World.heap_withBlock (w : World) (b b' : Nat) (o : Obj) : (World.withBlock w b o).heap[b']? = if b = b' ∧ b < w.heap.size then some o else w.heap[b']? := by
  simp only [World.withBlock, Array.getElem?_setIfInBounds]
  by_cases h : b = b'
  · subst h
    by_cases hl : b < w.heap.size
    · simp [hl]
    · simp [hl]
  · simp [h]

@[simp] theorem World.size_withBlock (w : World) (b : Nat) (o : Obj) : (World.withBlock w b o).heap.size = w.heap.size := by simp [World.withBlock]

theorem cell_of {w : World} {b o : Nat} {c : Array Value} {e : TypeId} {fr : Nat × Nat} (h : w.heap[b]? = some (.cells c e fr)) : w.cell? ⟨b, o, none⟩ = c[o]? := by
  simp [World.cell?, h]

theorem frozen_of {w : World} {b o : Nat} {c : Array Value} {e : TypeId} {fr : Nat × Nat} (h : w.heap[b]? = some (.cells c e fr)) (hf : Unfrozen c fr) (ho : o < c.size) : w.frozen? ⟨b, o, none⟩ = false := by
  obtain ⟨lo, hi⟩ := fr
  simp only [World.frozen?, h]
  rcases hf with hf | hf <;> simp at hf ⊢ <;> omega

def writeAt (c : Array Value) (o : Nat) : List Value → Array Value
  | [] => c
  | x :: xs => writeAt (c.setIfInBounds o x) (o + 1) xs

@[simp] theorem size_writeAt (xs : List Value) : ∀ (c : Array Value) (o : Nat), (writeAt c o xs).size = c.size := by
  induction xs with
  | nil => intro c o; rfl
  | cons x xs ih => intro c o; simp [writeAt, ih]

theorem getElem?_writeAt (xs : List Value) : ∀ (c : Array Value) (o j : Nat), o + xs.length ≤ c.size →
    (writeAt c o xs)[j]? = if o ≤ j ∧ j < o + xs.length then xs[j - o]? else c[j]? := by
  induction xs with
  | nil => intro c o j _; simp [writeAt]; intro h1 h2; omega
  | cons x xs ih =>
    intro c o j h
    simp only [List.length_cons] at h
    simp only [writeAt]
    rw [ih _ _ _ (by simp; omega)]
    by_cases h1 : o + 1 ≤ j ∧ j < o + 1 + xs.length
    · rw [if_pos h1, if_pos (by simp; omega)]
      obtain ⟨k, rfl⟩ : ∃ k, j = o + 1 + k := ⟨j - (o + 1), by omega⟩
      rw [show o + 1 + k - (o + 1) = k by omega, show o + 1 + k - o = k + 1 by omega]
      simp
    · rw [if_neg h1]
      simp only [Array.getElem?_setIfInBounds]
      by_cases h2 : o = j
      · subst h2
        rw [if_pos rfl, if_pos (by omega), if_pos (by simp)]
        simp
      · rw [if_neg h2, if_neg (by simp; omega)]

theorem setCell_eq {w : World} {b o : Nat} {c : Array Value} {e : TypeId} {fr : Nat × Nat} (h : w.heap[b]? = some (.cells c e fr)) (x : Value) :
    w.setCell ⟨b, o, none⟩ x = World.withBlock w b (.cells (c.setIfInBounds o x) e fr) := by
  have hlt : b < w.heap.size := (Array.getElem?_eq_some_iff.1 h).1
  simp only [World.setCell, World.withBlock]
  congr 1
  apply Array.ext_getElem?
  intro i
  simp only [Array.getElem?_modify, Array.getElem?_setIfInBounds]
  by_cases hi : b = i
  · subst hi
    rw [h]
    simp [hlt]
  · simp [hi]

theorem withBlock_twice (w : World) (b : Nat) (o o' : Obj) : World.withBlock (World.withBlock w b o) b o' = World.withBlock w b o' := by
  simp only [World.withBlock]
  congr 1
  simp

theorem withBlock_same {w : World} {b : Nat} {o : Obj} (h : w.heap[b]? = some o) : World.withBlock w b o = w := by
  unfold World.withBlock
  have : w.heap.setIfInBounds b o = w.heap := by
    apply Array.ext_getElem?
    intro i
    simp only [Array.getElem?_setIfInBounds]
    by_cases hi : b = i
    · subst hi
      have hlt : b < w.heap.size := (Array.getElem?_eq_some_iff.1 h).1
      rw [h]
      simp [hlt]
    · simp [hi]
  rw [this]

theorem run_storeCells {P : Program} (xs : List Value) : ∀ (w : World) (b o i : Nat) (c : Array Value) (e : TypeId) (fr : Nat × Nat), w.heap[b]? = some (.cells c e fr) → Unfrozen c fr →
    o + i + xs.length ≤ c.size → (∀ x ∈ xs, x.oneCell' = true) →
    (storeCells ⟨b, o, none⟩ xs i).run P w = .ok () (World.withBlock w b (.cells (writeAt c (o + i) xs) e fr)) := by
  induction xs with
  | nil => intro w b o i c e fr h _ _ _; simp [storeCells, writeAt, withBlock_same h]
  | cons x xs ih =>
    intro w b o i c e fr h hf hs hx
    simp only [List.length_cons] at hs
    have hlt : b < w.heap.size := (Array.getElem?_eq_some_iff.1 h).1
    have hc : w.cell? ⟨b, o + i, none⟩ = some (c[o + i]'(by omega)) := by rw [cell_of h]; exact Array.getElem?_eq_getElem (by omega)
    simp only [storeCells, Addr.add_lit]
    rw [Sem.run_bind, run_store P w _ x .plain (hx x (by simp)), hc]
    simp only [frozen_of h hf (show o + i < c.size by omega), Bool.false_eq_true, if_false, Result.andThen_ok]
    rw [setCell_eq h]
    have h' : (World.withBlock w b (.cells (c.setIfInBounds (o + i) x) e fr)).heap[b]? = some (.cells (c.setIfInBounds (o + i) x) e fr) := by
      rw [World.heap_withBlock, if_pos ⟨rfl, hlt⟩]
    rw [ih _ b o (i + 1) _ e fr h' (by unfold Unfrozen at *; simpa using hf) (by simp; omega) (fun y hy => hx y (by simp [hy])), withBlock_twice]
    simp only [writeAt, Nat.add_assoc]

/- WHAT IS NOT WRITTEN STAYS -/

theorem Ext.withBlock {g g' : G} {w : World} {b : Nat} {c c' : Array Value} {e : TypeId} {fr fr' : Nat × Nat} (h : w.heap[b]? = some (.cells c e fr)) (hU : ∀ b, g.U b ≤ g'.U b)
    (hβ : ∀ (i b : Nat), g.β[i]? = some b → g'.β[i]? = some b) (hc : ∀ j, j < g.U b → c'[j]? = c[j]?) : Ext g w g' (World.withBlock w b (.cells c' e fr')) := by
  have hlt : b < w.heap.size := (Array.getElem?_eq_some_iff.1 h).1
  refine ⟨fun b' off ho => ?_, hU, hβ⟩
  by_cases hb : b = b'
  · subst hb
    rw [cell_of h, cell_of (c := c') (e := e) (fr := fr') (by rw [World.heap_withBlock, if_pos ⟨rfl, hlt⟩])]
    exact hc off ho
  · have : (World.withBlock w b (.cells c' e fr')).heap[b']? = w.heap[b']? := by rw [World.heap_withBlock, if_neg (fun hh => hb hh.1)]
    unfold World.cell?
    simp only [this]

theorem Keep.withBlock {g g' : G} {w : World} {b : Nat} {c c' : Array Value} {e : TypeId} {fr fr' : Nat × Nat} {p : Own} (h : w.heap[b]? = some (.cells c e fr)) (hO : g.O b = some p)
    (hU : ∀ b', b' ≠ b → g'.U b' = g.U b') (hUb : g.U b ≤ g'.U b) (hO' : ∀ b', b' ≠ b → g'.O b' = g.O b')
    (hβ : ∀ (i b : Nat), g.β[i]? = some b → g'.β[i]? = some b) (hc : ∀ j, j < g.U b → c'[j]? = c[j]?) : Keep (fun q => q = p) g w g' (World.withBlock w b (.cells c' e fr')) := by
  refine ⟨Ext.withBlock h (fun b' => ?_) hβ hc, fun b' q hq hne => ?_⟩
  · by_cases hb : b' = b
    · subst hb; exact hUb
    · rw [hU b' hb]; exact Nat.le_refl _
  · have hb : b' ≠ b := by
      rintro rfl
      rw [hO] at hq
      exact hne (Option.some.inj hq).symm
    exact ⟨by rw [World.heap_withBlock, if_neg (fun hh => hb hh.1.symm)], hU b' hb, by rw [hO' b' hb, hq]⟩

theorem Fr.withBlock {g g' : G} {w : World} {b : Nat} {c c' : Array Value} {e : TypeId} {fr fr' : Nat × Nat} {p : Own} (h : w.heap[b]? = some (.cells c e fr)) (hO : g.O b = some p)
    (hU : ∀ b', b' ≠ b → g'.U b' = g.U b') (hUb : g.U b ≤ g'.U b) (hO' : ∀ b', b' ≠ b → g'.O b' = g.O b')
    (hβ : ∀ (i b : Nat), g.β[i]? = some b → g'.β[i]? = some b) (hc : ∀ j, j < g.U b → c'[j]? = c[j]?) : Fr g w g' (World.withBlock w b (.cells c' e fr')) := by
  refine ⟨(Keep.withBlock (fr' := fr') h hO hU hUb hO' hβ hc).toExt, by simp, fun b' _ ho => ?_, rfl, rfl⟩
  have hb : b' ≠ b := by
    rintro rfl
    rw [hO] at ho
    cases ho
  exact ⟨by rw [World.heap_withBlock, if_neg (fun hh => hb hh.1.symm)], hU b' hb, by rw [hO' b' hb, ho]⟩

/-- Everything stays if no place of the state is among what is written. -/
theorem Inv.keep {E : Own → Prop} {g g' : G} {s : St} {a : Act} {w w' : World} (hi : Inv g s a w) (hk : Keep E g w g' w') (hl : g'.lam = g.lam) (hβ : g'.β = g.β) (hf : Fresh g' w')
    (h1 : ∀ t, ¬ E (.box t)) (h2 : ∀ t j, ¬ E (.tc t j)) (h3 : ∀ i, ¬ E (.obj i)) (h4 : ∀ i j, ¬ E (.oc i j)) : Inv g' s a w' := by
  refine ⟨hi.defers, hi.size, fun t => ⟨(hi.env t).1.keep hk (h1 t) (h2 t) (fun t b hb => by rw [hl]; exact hb), fun cs hcs => ?_⟩, ⟨by rw [hβ]; exact hi.heap.len, fun i o hio => ?_⟩, hf⟩
  · obtain ⟨b, hb, hx⟩ := (hi.env t).2 cs hcs
    exact ⟨b, by rw [hl]; exact hb, hx⟩
  · have h0 := hi.heap.rep i o hio
    unfold ObjRep at *
    split
    · trivial
    · obtain ⟨b, hb, hO, hB, hu⟩ := h0
      exact ⟨b, by rw [hβ]; exact hb, (hk.own b _ hO (h3 i)).2.2, hB.keep hk hO (h3 i) (h4 i), hu⟩
    · obtain ⟨b, hb, hO, hU, he, ck, hh⟩ := h0
      obtain ⟨k1, k2, k3⟩ := hk.own b _ hO (h3 i)
      exact ⟨b, by rw [hβ]; exact hb, k3, k2.trans hU, he, ck, k1.trans hh⟩

/- A NEW BLOCK -/

/-- A new block, with an owner (or none) and a number of fixed cells. -/
def G.new (g : G) (b : Nat) (p : Option Own) (u : Nat) : G := { g with O := fun b' => if b' = b then p else g.O b', U := fun b' => if b' = b then u else g.U b' }

/-- A world that differs by blocks behind the others, and by what was drawn. -/
structure Grown (w w' : World) (n : Nat) (o : Obj) : Prop where
  heap : w'.heap = w.heap.push o
  n : n = w.heap.size
  os : w'.os = w.os
  out : w'.output = w.output

theorem Grown.alloc (w : World) (o : Obj) : Grown w (w.alloc o) w.heap.size o := ⟨rfl, rfl, rfl, rfl⟩

theorem Grown.drew (w : World) (o : Obj) : Grown w (w.drew.alloc o) w.heap.size o := ⟨rfl, rfl, rfl, rfl⟩

theorem Grown.old {w w' : World} {n : Nat} {o : Obj} (h : Grown w w' n o) {b : Nat} (hb : b < w.heap.size) : w'.heap[b]? = w.heap[b]? := by
  rw [h.heap, Array.getElem?_push, if_neg (by omega)]

theorem Grown.new {w w' : World} {n : Nat} {o : Obj} (h : Grown w w' n o) : w'.heap[n]? = some o := by
  rw [h.heap, h.n, Array.getElem?_push, if_pos rfl]

theorem Grown.size {w w' : World} {n : Nat} {o : Obj} (h : Grown w w' n o) : w'.heap.size = w.heap.size + 1 := by rw [h.heap, Array.size_push]

theorem Grown.keep {w w' : World} {n : Nat} {o : Obj} (h : Grown w w' n o) {g : G} (hf : Fresh g w) (p : Option Own) (u : Nat) : Keep (fun _ => False) g w (g.new n p u) w' := by
  have hU : g.U n = 0 := hf.U n (by rw [h.n]; exact Nat.le_refl _)
  refine ⟨⟨fun b off ho => ?_, fun b => ?_, fun _ _ h => h⟩, fun b q hq _ => ?_⟩
  · have hb : b < w.heap.size := by
      rcases Nat.lt_or_ge b w.heap.size with hb | hb
      · exact hb
      · rw [hf.U b hb] at ho; omega
    simp only [World.cell?, h.old hb]
  · simp only [G.new]
    split
    · subst_vars; omega
    · exact Nat.le_refl _
  · have hb : b < w.heap.size := by
      rcases Nat.lt_or_ge b w.heap.size with hb | hb
      · exact hb
      · rw [hf.O b hb] at hq; cases hq
    have hne : b ≠ n := by rw [h.n]; omega
    exact ⟨h.old hb, by simp [G.new, hne], by simp [G.new, hne, hq]⟩

theorem Grown.fr {w w' : World} {n : Nat} {o : Obj} (h : Grown w w' n o) {g : G} (hf : Fresh g w) (p : Option Own) (u : Nat) : Fr g w (g.new n p u) w' := by
  refine ⟨(h.keep hf p u).toExt, by rw [h.size]; omega, fun b hb ho => ?_, h.os, h.out⟩
  have hne : b ≠ n := by rw [h.n]; omega
  exact ⟨h.old hb, by simp [G.new, hne], by simp [G.new, hne, ho]⟩

theorem Grown.fresh {w w' : World} {n : Nat} {o : Obj} (h : Grown w w' n o) {g : G} (hf : Fresh g w) (p : Option Own) (u : Nat) : Fresh (g.new n p u) w' := by
  refine ⟨fun b hb => ?_, fun b hb => ?_⟩ <;> rw [h.size] at hb <;> have hne : b ≠ n := by rw [h.n]; omega
  · simp only [G.new, hne, if_false]; exact hf.U b (by omega)
  · simp only [G.new, hne, if_false]; exact hf.O b (by omega)

theorem Grown.inv {w w' : World} {n : Nat} {o : Obj} (h : Grown w w' n o) {g : G} {s : St} {a : Act} (hi : Inv g s a w) (p : Option Own) (u : Nat) : Inv (g.new n p u) s a w' :=
  hi.keep (h.keep hi.fresh p u) rfl rfl (h.fresh hi.fresh p u) (fun _ => id) (fun _ _ => id) (fun _ => id) (fun _ _ => id)

theorem Grown.pl {w w' : World} {n : Nat} {o : Obj} (h : Grown w w' n o) {g : G} (hf : Fresh g w) (p : Option Own) (u : Nat) {own : Own} {pl : Nat → Own} {v : V} {x : Value} (hv : PlRep g w own pl v x) :
    PlRep (g.new n p u) w' own pl v x :=
  hv.keep (h.keep hf p u) id (fun _ => id) (fun _ _ h => h)

end Go.Proofs.YtflciaomdlgjpaaGreatDoor.VVE

