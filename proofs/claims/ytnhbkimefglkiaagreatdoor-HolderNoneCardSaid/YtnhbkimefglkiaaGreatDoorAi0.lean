/- A proved interpreter of the program's code (AiCore AiRes AiPres AiRel AiMem AiOps1). -/
import GoSem.Dispatch
import GoSem.Extern.BytealgCompare
import GoSem.Core.Region
import GoSem.Extern.Table
import Derived.WalkKit
import Derived.RangeFuncLeaves
/- The abstract interpreter: values without memory for finished slices, a small store of versioned rows for what is being written, no tape, no capacities. Definitions only. -/
namespace Go.Ai

/-- Abstract values. 'sl': a slice whose cells never change any more; 'ms': a slice of a row of the store (row, version, offset, length, cells of an element); 'ex': its capacity is its length. -/
inductive AV where
  | bool (b : Bool)
  | int (k : IntKind) (n : Int)
  | str (s : List UInt8)
  | nilp
  | ptr (id ver off : Nat)
  | cp (cells : List AV) (off : Nat)
  | nils
  | sl (cells : List AV) (n : Nat) (ex : Bool)
  | ms (id ver off n sz : Nat) (ex : Bool)
  | nilm
  | mp (id : Nat)
  | fn (f : Nat) (first cap : List AV)
  | nilf
  | yl (id : Nat)
  | nili
  | ifc (t : Nat) (v : AV)
  | agg (cs : List AV)
  | tup (vs : List AV)

instance : Inhabited AV := ⟨.tup []⟩

/-- Operands. -/
inductive OA where
  | t (n : Nat)
  | c (v : AV)
  | g (n : Nat)

/-- What '==' of a type that is no number and no text looks at. -/
inductive Cls where
  | bool | ptr | slice | func | agg (ks : List Nat)

/-- Operations that only look at their operands. -/
inductive PO where
  | mv (x : OA)
  | smv (x : OA)
  | pick (c a b : OA)
  | build (z : List AV) (ps : List (Nat × Nat × OA))
  | mkl (z : List AV) (len : Nat) (sz : Nat) (ps : List (Nat × Nat × OA))
  | nchk (x : OA)
  | arith (op : BinOp) (x y : OA)
  | eq (neg : Bool) (cl : Cls) (x y : OA)
  | un (op : UnOp) (x : OA)
  | toInt (k : IntKind) (x : OA)
  | s2b (x : OA)
  | mkf (f : Nat) (first cap : List OA)
  | slS (x : OA) (lo hi : Option OA)
  | slL (sz : Nat) (x : OA) (lo hi mx : Option OA)
  | fad (off : Nat) (x : OA)
  | fld (off sz : Nat) (ag : Bool) (x : OA)
  | iaL (sz : Nat) (x i : OA)
  | iaA (len sz : Nat) (x i : OA)
  | ixA (len sz : Nat) (ag : Bool) (x i : OA)
  | ixS (x i : OA)
  | ext (x : OA) (i : Nat)
  | lenS (x : OA)
  | lenL (x : OA)
  | lenC (n : Nat)
  | capL (x : OA)
  | maxI (x : OA) (xs : List OA)
  | minI (x : OA) (xs : List OA)
  | cmpS (x y : OA)
  | bad

/-- Operations that read the store. -/
inductive DO where
  | load (sz : Nat) (ag : Bool) (a : OA)
  | b2s (x : OA)
  | slA (n sz : Nat) (x : OA) (lo hi : Option OA)
  | pcall (f : Nat) (args : List OA)
  | lkp (kk : Nat) (z : AV) (ok : Bool) (m k : OA)
  | lenM (m : OA)

/-- Operations that may change the store. -/
inductive WO where
  | alloc (z : List AV)
  | box (sz : Nat) (x : OA)
  | store (sz : Nat) (a v : OA)
  | mkr (z : List AV) (len : Nat) (sz : Nat) (ps : List (Nat × Nat × OA))
  | mks (z : List AV) (sz bytes : Nat) (l c : OA)
  | app (sz bytes : Nat) (x y : OA)
  | appZ (z : List AV) (sz bytes : Nat) (x n : OA)
  | copyL (sz : Nat) (d s : OA)
  | clr (z : List AV) (sz : Nat) (x : OA)
  | call (f : Nat) (args : List OA)
  | callv (x : OA) (args : List OA)
  | mkm
  | mup (m k v : OA)

inductive AO where
  | p (o : PO)
  | d (o : DO)
  | w (o : WO)

/-- An operation with the slot that it fills and its guard (a slot and what it must hold). -/
structure ROp where
  dst : Option Nat
  gd : Option (Nat × Bool)
  op : AO

/-- How an operation stands in a region whose order is open: it only computes; it reads, and may stand behind 'lo' to 'hi' of the writing ones; it writes; it is an allocation, the ix-th, that may stand behind 'lo' to 'hi' of the writing ones. -/
inductive DK where
  | p | r (lo hi : Nat) | w | a (ix lo hi : Nat)

inductive RC where
  | skip
  | ops (l : List ROp)
  | draw (l : List (ROp × DK)) (zs : List (List AV))
  | seq (a b : RC)
  | cond (x : OA) (a b : RC)
  | block (id : Nat) (b : RC)
  | loop (b : RC)
  | exit (id : Nat)
  | ret
  | range (x : OA) (ps : List Nat) (asg body : RC)
  | bad

/-- How a piece of code is left. -/
inductive J where
  | nrm | exit (id : Nat) | ret

/-- What the store holds. -/
inductive Ob where
  | row (ver : Nat) (cs : List AV)
  | loop (ts : List AV) (ps : List Nat) (asg body : RC) (st : Nat) (pend : Option J)
  | map (es : List (AV × AV × Nat)) (clock : Nat)

structure St where
  lo : Nat
  os : List Ob

inductive RRes where
  | t (n : Nat)
  | cell (a : Nat) (sz : Nat) (ag : Bool)

structure RF where
  nt : Nat
  res : List RRes
  pure : Bool
  body : RC

structure Env where
  gv : Nat → AV
  fs : Nat → Option RF

/-! ### Small words -/

def ev (E : Env) (ts : List AV) : OA → AV
  | .t n => ts.getD n (.tup [])
  | .c v => v
  | .g n => E.gv n

def put (ts : List AV) (d : Option Nat) (v : AV) : List AV :=
  match d with
  | some n => ts.set n v
  | none => ts

def splice (cs : List AV) (off : Nat) (vs : List AV) : List AV := cs.take off ++ vs ++ cs.drop (off + vs.length)

def cut (cs : List AV) (off n : Nat) : List AV := (cs.drop off).take n

/-- The cells of a value, as a variable of it holds them. -/
def cellsOf : AV → List AV
  | .agg cs => cs
  | v => [v]

def byteCells (s : List UInt8) : List AV := s.map fun b => .int .u8 b.toNat

/-- The elements of a slice, flat, and how many. -/
def rd (S : St) (sz : Nat) : AV → Option (List AV × Nat)
  | .nils => some ([], 0)
  | .sl cs n _ => if cs.length = n * sz then some (cs, n) else none
  | .ms id ver off n sz' _ =>
    match S.os[id]? with
    | some (.row v cs) => if v = ver ∧ sz' = sz ∧ off + n * sz ≤ cs.length then some (cut cs off (n * sz), n) else none
    | _ => none
  | .str s => if sz = 1 then some (byteCells s, s.length) else none
  | _ => none

def ldCells (S : St) (a : AV) (n : Nat) : Option (List AV) :=
  match a with
  | .ptr id ver off =>
    match S.os[id]? with
    | some (.row v cs) => if v = ver ∧ off + n ≤ cs.length then some (cut cs off n) else none
    | _ => none
  | .cp cs off => if off + n ≤ cs.length then some (cut cs off n) else none
  | _ => none

def asVal (ag : Bool) (cs : List AV) : Option AV :=
  if ag then some (.agg cs) else match cs with
    | [v] => some v
    | _ => none

/-- No part of a value may be an aggregate, where a cell holds it. -/
def oneCell : AV → Bool
  | .agg _ | .tup _ => false
  | _ => true

def intOp (op : BinOp) (k : IntKind) (a b : Int) : Option AV :=
  match op with
  | .add => some (.int k (k.wrap (a + b)))
  | .sub => some (.int k (k.wrap (a - b)))
  | .mul => some (.int k (k.wrap (a * b)))
  | .quo => if b = 0 then none else some (.int k (k.wrap (a.tdiv b)))
  | .rem => if b = 0 then none else some (.int k (a.tmod b))
  | .and => some (.int k (k.wrap (BitVec.ofInt k.bits a &&& BitVec.ofInt k.bits b).toNat))
  | .or => some (.int k (k.wrap (BitVec.ofInt k.bits a ||| BitVec.ofInt k.bits b).toNat))
  | .xor => some (.int k (k.wrap (BitVec.ofInt k.bits a ^^^ BitVec.ofInt k.bits b).toNat))
  | .andNot => some (.int k (k.wrap (BitVec.ofInt k.bits a &&& ~~~ BitVec.ofInt k.bits b).toNat))
  | .eql => some (.bool (a == b))
  | .neq => some (.bool (a != b))
  | .lss => some (.bool (decide (a < b)))
  | .leq => some (.bool (decide (a ≤ b)))
  | .gtr => some (.bool (decide (a > b)))
  | .geq => some (.bool (decide (a ≥ b)))
  | _ => none

def strOp (op : BinOp) (a b : List UInt8) : Option AV :=
  match op with
  | .add => if a.length + b.length ≤ 70368744177664 then some (.str (a ++ b)) else none
  | .eql => some (.bool (a == b))
  | .neq => some (.bool (!(a == b)))
  | .lss => some (.bool (Op.bytesLess a b))
  | .leq => some (.bool (Op.bytesLess a b || a == b))
  | .gtr => some (.bool (!(Op.bytesLess a b || a == b)))
  | .geq => some (.bool (!Op.bytesLess a b))
  | _ => none

def arith (op : BinOp) (x y : AV) : Option AV :=
  match x, y with
  | .int k a, .int k' b =>
    match op with
    | .shl => if b < 0 then none else some (.int k (k.wrap (a * 2 ^ (min b.toNat k.bits))))
    | .shr => if b < 0 then none else some (.int k (a.fdiv (2 ^ (min b.toNat k.bits))))
    | _ => if k = k' then intOp op k a b else none
  | .str a, .str b => strOp op a b
  | _, _ => none

/-- Equality of two cells: 0 numbers, 1 texts, else bools. -/
def prEq : Nat → AV → AV → Option Bool
  | 0, .int k a, .int k' b => if k = k' then some (a == b) else none
  | 1, .str a, .str b => some (a == b)
  | 2, .bool a, .bool b => some (a == b)
  | _, _, _ => none

def prEqs : List Nat → List AV → List AV → Option Bool
  | [], [], [] => some true
  | k :: ks, a :: as, b :: bs => match prEq k a b with
    | some true => prEqs ks as bs
    | r => r
  | _, _, _ => none

def eqOf (cl : Cls) (x y : AV) : Option Bool :=
  match cl, x, y with
  | .bool, .bool a, .bool b => some (a == b)
  | .ptr, .nilp, .nilp => some true
  | .ptr, .nilp, .ptr _ _ _ => some false
  | .ptr, .nilp, .cp _ _ => some false
  | .ptr, .ptr _ _ _, .nilp => some false
  | .ptr, .cp _ _, .nilp => some false
  | .slice, .nils, .nils => some true
  | .slice, .nils, .sl _ n _ => if n = 0 then none else some false
  | .slice, .nils, .ms _ _ _ _ _ _ => some false
  | .slice, .sl _ n _, .nils => if n = 0 then none else some false
  | .slice, .ms _ _ _ _ _ _, .nils => some false
  | .func, .nilf, .nilf => some true
  | .func, .nilf, .fn _ _ _ => some false
  | .func, .nilf, .yl _ => some false
  | .func, .fn _ _ _, .nilf => some false
  | .func, .yl _, .nilf => some false
  | .agg ks, .agg xs, .agg ys => prEqs ks xs ys
  | _, _, _ => none

def unOf (op : UnOp) (x : AV) : Option AV :=
  match op, x with
  | .neg, .int k n => some (.int k (k.wrap (0 - n)))
  | .xor, .int k n => intOp .xor k (if k.signed then -1 else k.max) n
  | .not, .bool b => some (.bool !b)
  | _, _ => none

/-- Parts of a literal, each at its offset and of its size. -/
def fillP (E : Env) (ts : List AV) (cs : List AV) : List (Nat × Nat × OA) → Option (List AV)
  | [] => some cs
  | (off, sz, x) :: r =>
    let vs := cellsOf (ev E ts x)
    if vs.length = sz ∧ off + sz ≤ cs.length then fillP E ts (splice cs off vs) r else none

def natOf : AV → Option Nat
  | .int _ n => if 0 ≤ n then some n.toNat else none
  | _ => none

/-- A bound of a slice expression: from 'lo' to 'hi', or what stands for one that is left out. -/
def bnd (E : Env) (ts : List AV) (x : Option OA) (dflt : Nat) : Option Nat :=
  match x with
  | none => some dflt
  | some o => natOf (ev E ts o)

/-- x[lo:hi:mx] of a slice of n elements; the bounds do not go beyond n. -/
def slOf (sz : Nat) (x : AV) (l h : Nat) (m : Option Nat) : Option AV :=
  match x with
  | .nils => if l = 0 ∧ h = 0 ∧ (m = none ∨ m = some 0) then some .nils else none
  | .sl cs n ex =>
    match m with
    | none => if l ≤ h ∧ h ≤ n ∧ cs.length = n * sz then some (.sl (cut cs (l * sz) ((h - l) * sz)) (h - l) (ex && h == n)) else none
    | some m => if l ≤ h ∧ h ≤ m ∧ m ≤ n ∧ cs.length = n * sz then some (.sl (cut cs (l * sz) ((h - l) * sz)) (h - l) (m == h)) else none
  | .ms id ver off n sz' ex =>
    match m with
    | none => if l ≤ h ∧ h ≤ n ∧ sz' = sz then some (.ms id ver (off + l * sz) (h - l) sz (ex && h == n)) else none
    | some m => if l ≤ h ∧ h ≤ m ∧ m ≤ n ∧ sz' = sz then some (.ms id ver (off + l * sz) (h - l) sz (m == h)) else none
  | _ => none

def lenN : AV → Nat
  | .sl _ n _ => n
  | .ms _ _ _ n _ _ => n
  | _ => 0

def isNonNil : AV → Bool
  | .ptr .. | .cp .. | .fn .. | .yl .. => true
  | _ => false

def idxOf (i : AV) (n : Nat) : Option Nat :=
  match i with
  | .int _ i => if 0 ≤ i ∧ i < n then some i.toNat else none
  | _ => none

def foldI (f : Int → Int → Int) (k : IntKind) : Int → List AV → Option AV
  | a, [] => some (.int k a)
  | a, .int k' b :: r => if k = k' then foldI f k (f a b) r else none
  | _, _ => none

/-- The operations that only look at their operands. -/
def aopP (E : Env) (ts : List AV) : PO → Option AV
  | .mv x => some (ev E ts x)
  | .smv x => match ev E ts x with
    | .str s => some (.str s)
    | _ => none
  | .pick c a b => match ev E ts c with
    | .bool t => some (if t then ev E ts a else ev E ts b)
    | _ => none
  | .build z ps => (fillP E ts z ps).map .agg
  | .mkl z len sz ps => if z.length = len * sz then (fillP E ts z ps).bind fun cs => if cs.all oneCell then some (.sl cs len true) else none else none
  | .nchk x => if isNonNil (ev E ts x) then some (ev E ts x) else none
  | .arith op x y => arith op (ev E ts x) (ev E ts y)
  | .eq neg cl x y => (eqOf cl (ev E ts x) (ev E ts y)).map fun b => .bool (if neg then !b else b)
  | .un op x => unOf op (ev E ts x)
  | .toInt k x => match ev E ts x with
    | .int _ n => some (.int k (k.wrap n))
    | _ => none
  | .s2b x => match ev E ts x with
    | .str s => if s.length ≤ 70368744177664 then some (.sl (byteCells s) s.length false) else none
    | _ => none
  | .mkf f a b => some (.fn f (a.map (ev E ts)) (b.map (ev E ts)))
  | .slS x lo hi => match ev E ts x with
    | .str s => match bnd E ts lo 0, bnd E ts hi s.length with
      | some l, some h => if l ≤ h ∧ h ≤ s.length then some (.str ((s.drop l).take (h - l))) else none
      | _, _ => none
    | _ => none
  | .slL sz x lo hi mx =>
    match bnd E ts lo 0, bnd E ts hi (lenN (ev E ts x)) with
    | some l, some h => match mx with
      | none => slOf sz (ev E ts x) l h none
      | some m => match natOf (ev E ts m), hi with
        | some m, some _ => slOf sz (ev E ts x) l h (some m)
        | _, _ => none
    | _, _ => none
  | .fad off x => match ev E ts x with
    | .ptr id ver o => some (.ptr id ver (o + off))
    | .cp cs o => some (.cp cs (o + off))
    | _ => none
  | .fld off sz ag x => match ev E ts x with
    | .agg cs => if off + sz ≤ cs.length then asVal ag (cut cs off sz) else none
    | _ => none
  | .iaL sz x i => match ev E ts x with
    | .sl cs n _ => if cs.length = n * sz then (idxOf (ev E ts i) n).map fun j => .cp cs (j * sz) else none
    | .ms id ver off n sz' _ => if sz' = sz then (idxOf (ev E ts i) n).map fun j => .ptr id ver (off + j * sz) else none
    | _ => none
  | .iaA len sz x i => match ev E ts x with
    | .ptr id ver off => (idxOf (ev E ts i) len).map fun j => .ptr id ver (off + j * sz)
    | .cp cs off => (idxOf (ev E ts i) len).map fun j => .cp cs (off + j * sz)
    | _ => none
  | .ixA len sz ag x i => match ev E ts x with
    | .agg cs => (idxOf (ev E ts i) len).bind fun j => if j * sz + sz ≤ cs.length then asVal ag (cut cs (j * sz) sz) else none
    | _ => none
  | .ixS x i => match ev E ts x with
    | .str s => (idxOf (ev E ts i) s.length).bind fun j => (s[j]?).map fun b => .int .u8 b.toNat
    | _ => none
  | .ext x i => match ev E ts x with
    | .tup vs => vs[i]?
    | _ => none
  | .lenS x => match ev E ts x with
    | .str s => some (.int .i64 s.length)
    | _ => none
  | .lenL x => match ev E ts x with
    | .nils => some (.int .i64 0)
    | .sl _ n _ => some (.int .i64 n)
    | .ms _ _ _ n _ _ => some (.int .i64 n)
    | _ => none
  | .lenC n => some (.int .i64 n)
  | .capL x => match ev E ts x with
    | .nils => some (.int .i64 0)
    | .sl _ n true => some (.int .i64 n)
    | .ms _ _ _ n _ true => some (.int .i64 n)
    | _ => none
  | .maxI x xs => match ev E ts x with
    | .int k a => foldI (fun a b => if b > a then b else a) k a (xs.map (ev E ts))
    | _ => none
  | .minI x xs => match ev E ts x with
    | .int k a => foldI (fun a b => if b < a then b else a) k a (xs.map (ev E ts))
    | _ => none
  | .cmpS x y => match ev E ts x, ev E ts y with
    | .str a, .str b => some (.int .i64 (Extern.BytealgCompare.cmp ⟨⟨a⟩⟩ ⟨⟨b⟩⟩))
    | _, _ => none
  | .bad => none

/-- Bytes as a text. -/
def strOf : List AV → Option (List UInt8)
  | [] => some []
  | .int .u8 n :: r => (strOf r).map fun s => UInt8.ofNat n.toNat :: s
  | _ :: _ => none

def keyEq : AV → AV → Option Bool
  | .int k a, .int k' b => if k = k' then some (a == b) else none
  | .str a, .str b => some (a == b)
  | _, _ => none

def findE (k : AV) : List (AV × AV × Nat) → Option (Option (Nat × AV))
  | [] => some none
  | (k', v, _) :: r => match keyEq k k' with
    | some true => some (some (0, v))
    | some false => (findE k r).map fun o => o.map fun (i, v) => (i + 1, v)
    | none => none

abbrev CallFn := Nat → List AV → St → Option (AV × St)

/-- The operations that read the store. -/
def aopD (E : Env) (cf : CallFn) (ts : List AV) (S : St) : DO → Option AV
  | .load sz ag a => (ldCells S (ev E ts a) sz).bind (asVal ag)
  | .b2s x => match ev E ts x with
    | .str _ => none
    | v => (rd S 1 v).bind fun (cs, _) => (strOf cs).map .str
  | .slA n sz x lo hi => match ev E ts x with
    | .ptr id ver off => match bnd E ts lo 0, bnd E ts hi n with
      | some l, some h => (ldCells S (.ptr id ver off) (n * sz)).bind fun _ => if l ≤ h ∧ h ≤ n then some (.ms id ver (off + l * sz) (h - l) sz (h == n)) else none
      | _, _ => none
    | _ => none
  | .pcall f args => match E.fs f with
    | some rf => if rf.pure then (cf f (args.map (ev E ts)) S).map (·.1) else none
    | none => none
  | .lkp _ _ _ _ _ => none
  | .lenM _ => none

def setOb (S : St) (id : Nat) (o : Ob) : St := { S with os := S.os.set id o }
def addOb (S : St) (o : Ob) : St := { S with os := S.os ++ [o] }

/-- Cells laid at a place. -/
def stCells (S : St) (a : AV) (vs : List AV) : Option St :=
  match a with
  | .ptr id ver off =>
    match S.os[id]? with
    | some (.row v cs) => if S.lo ≤ id ∧ v = ver ∧ off + vs.length ≤ cs.length ∧ vs.all oneCell then some (setOb S id (.row v (splice cs off vs))) else none
    | _ => none
  | _ => none

def maxBytes : Nat := 70368744177664

/-- append of cells. -/
def appOf (S : St) (sz bytes : Nat) (x : AV) (ys : List AV) (m : Nat) : Option (AV × St) :=
  if m = 0 then (match x with
    | .nils | .sl .. | .ms .. => some (x, S)
    | _ => none) else
  (rd S sz x).bind fun (xs, n) =>
  if (n + m) * bytes ≤ maxBytes ∧ (n + m) ≤ maxBytes ∧ ys.length = m * sz ∧ ys.all oneCell then
    match x with
    | .nils | .sl _ _ true | .ms _ _ _ _ _ true => some (.ms S.os.length 0 0 (n + m) sz false, addOb S (.row 0 (xs ++ ys)))
    | .ms id ver _ _ _ false => if S.lo ≤ id then some (.ms id (ver + 1) 0 (n + m) sz false, setOb S id (.row (ver + 1) (xs ++ ys))) else none
    | _ => none
  else none

def zerosOf (z : List AV) : Nat → List AV
  | 0 => []
  | n + 1 => z ++ zerosOf z n

/-- The operations that may change the store; calls by 'cf' (by number) and 'cv' (by value). -/
def aopW (E : Env) (cf : CallFn) (cv : AV → List AV → St → Option (AV × St)) (ts : List AV) (S : St) : WO → Option (AV × St)
  | .alloc z => if z.all oneCell then some (.ptr S.os.length 0 0, addOb S (.row 0 z)) else none
  | .box sz x =>
    let vs := cellsOf (ev E ts x)
    if vs.length = sz ∧ vs.all oneCell then some (.ptr S.os.length 0 0, addOb S (.row 0 vs)) else none
  | .store sz a x =>
    let vs := cellsOf (ev E ts x)
    if vs.length = sz then (stCells S (ev E ts a) vs).map fun S' => (.tup [], S') else none
  | .mkr z len sz ps => if z.length = len * sz then (fillP E ts z ps).bind fun cs => if cs.all oneCell then some (.ms S.os.length 0 0 len sz true, addOb S (.row 0 cs)) else none else none
  | .mks z sz bytes l c => match ev E ts l, ev E ts c with
    | .int .i64 l, .int .i64 c =>
      if 0 ≤ l ∧ l ≤ c ∧ c ≤ maxBytes ∧ bytes * c ≤ maxBytes ∧ z.length = sz ∧ z.all oneCell then
        some (.ms S.os.length 0 0 l.toNat sz (l == c), addOb S (.row 0 (zerosOf z l.toNat)))
      else none
    | _, _ => none
  | .app sz bytes x y => (rd S sz (ev E ts y)).bind fun (ys, m) => appOf S sz bytes (ev E ts x) ys m
  | .appZ z sz bytes x n => match ev E ts n with
    | .int .i64 n => if 0 ≤ n ∧ n * bytes ≤ maxBytes ∧ n ≤ maxBytes ∧ z.length = sz then appOf S sz bytes (ev E ts x) (zerosOf z n.toNat) n.toNat else none
    | _ => none
  | .copyL sz d s => (rd S sz (ev E ts s)).bind fun (ys, m) =>
    match ev E ts d with
    | .nils => some (.int .i64 0, S)
    | .sl _ n _ => if min m n = 0 then some (.int .i64 0, S) else none
    | .ms id ver off n sz' _ =>
      if sz' = sz ∧ ys.length = m * sz then (stCells S (.ptr id ver off) (ys.take (min m n * sz))).map fun S' => (.int .i64 (min m n : Nat), S') else none
    | _ => none
  | .clr z sz x => match ev E ts x with
    | .nils => some (.tup [], S)
    | .ms id ver off n sz' _ => if sz' = sz ∧ z.length = sz then (stCells S (.ptr id ver off) (zerosOf z n)).map fun S' => (.tup [], S') else none
    | .sl _ n _ => if n = 0 then some (.tup [], S) else none
    | _ => none
  | .call f args => cf f (args.map (ev E ts)) S
  | .callv x args => cv (ev E ts x) (args.map (ev E ts)) S
  | .mkm => none
  | .mup _ _ _ => none

def aop (E : Env) (cf : CallFn) (cv : AV → List AV → St → Option (AV × St)) (ts : List AV) (S : St) : AO → Option (AV × St)
  | .p o => (aopP E ts o).map fun v => (v, S)
  | .d o => (aopD E cf ts S o).map fun v => (v, S)
  | .w o => aopW E cf cv ts S o

/-- Is an operation wanted? -/
def wantd (ts : List AV) : Option (Nat × Bool) → Option Bool
  | none => some true
  | some (t, w) => match ts[t]? with
    | some (.bool b) => some (b == w)
    | some (.tup []) => some false
    | _ => none

/-! ### Finished values: what a function that keeps nothing hands back -/

def fz : Nat → List Ob → Nat → AV → Option AV
  | 0, _, _, _ => none
  | d + 1, os, b, v =>
    match v with
    | .bool _ | .int _ _ | .str _ | .nilp | .nils | .nilm | .nilf | .nili => some v
    | .ptr id _ _ => if id < b then some v else none
    | .mp id => if id < b then some v else none
    | .yl id => if id < b then some v else none
    | .cp cs o => (cs.mapM (fz d os b)).map (.cp · o)
    | .sl cs n ex => (cs.mapM (fz d os b)).map (.sl · n ex)
    | .ms id ver off n sz ex =>
      if id < b then some v else
      match os[id]? with
      | some (.row v' cs) => if v' = ver ∧ off + n * sz ≤ cs.length then ((cut cs off (n * sz)).mapM (fz d os b)).map (.sl · n ex) else none
      | _ => none
    | .fn f x c => (x.mapM (fz d os b)).bind fun x => (c.mapM (fz d os b)).map fun c => .fn f x c
    | .ifc t x => (fz d os b x).map (.ifc t ·)
    | .agg cs => (cs.mapM (fz d os b)).map .agg
    | .tup vs => (vs.mapM (fz d os b)).map .tup

def resOf (ts : List AV) (S : St) : RRes → Option AV
  | .t n => some (ts.getD n (.tup []))
  | .cell a sz ag => (ldCells S (ts.getD a (.tup [])) sz).bind (asVal ag)

def ressOf (ts : List AV) (S : St) (l : List RRes) : Option AV :=
  (l.mapM (resOf ts S)).map fun vs => match vs with
    | [v] => v
    | vs => .tup vs

abbrev Out := J × List AV × St

def fzDepth : Nat := 12

/-- A call by number; 'run' runs a body. -/
def callF (E : Env) (run : RC → List AV → St → Option Out) : CallFn := fun f args S =>
  match E.fs f with
  | none => none
  | some rf =>
    match run rf.body (args ++ List.replicate (rf.nt - args.length) (.tup [])) (if rf.pure then { S with lo := S.os.length } else S) with
    | some (.exit _, _, _) => none
    | some (_, ts, S1) =>
      (ressOf ts S1 rf.res).bind fun v =>
        if rf.pure then (fz fzDepth S1.os S.os.length v).map fun v => (v, S) else some (v, S1)
    | none => none

def J.isN : J → Bool
  | .nrm => true
  | _ => false

/-- A round of a range over a function. -/
def yieldF (run : RC → List AV → St → Option Out) (id : Nat) (args : List AV) (S : St) : Option (AV × St) :=
  match S.os[id]? with
  | some (.loop ts ps asg body 0 none) =>
    if S.lo ≤ id ∧ args.length = ps.length then
      match run asg ((ps.zip args).foldl (fun ts (p, a) => ts.set p a) ts) S with
      | some (.nrm, ts1, S1) =>
        match S1.os[id]? with
        | some (.loop t1 p1 a1 b1 0 none) =>
          match run body ts1 (setOb S1 id (.loop t1 p1 a1 b1 1 none)) with
          | some (j, _, S2) =>
            match S2.os[id]? with
            | some (.loop t2 p2 a2 b2 1 none) => some (.bool j.isN, setOb S2 id (.loop t2 p2 a2 b2 (if j.isN then 0 else 2) (if j.isN then none else some j)))
            | _ => none
          | none => none
        | _ => none
      | _ => none
    else none
  | _ => none

def callV (E : Env) (run : RC → List AV → St → Option Out) (x : AV) (args : List AV) (S : St) : Option (AV × St) :=
  match x with
  | .fn f first cap => callF E run f (first ++ args ++ cap) S
  | .yl id => yieldF run id args S
  | _ => none

/-! ### Regions -/

def exec1 (E : Env) (cf : CallFn) (cv : AV → List AV → St → Option (AV × St)) (o : ROp) (ts : List AV) (S : St) : Option (List AV × St) :=
  match wantd ts o.gd with
  | none => none
  | some false => some (put ts o.dst (.tup []), S)
  | some true => (aop E cf cv ts S o.op).map fun (v, S') => (put ts o.dst v, S')

def execs (E : Env) (cf : CallFn) (cv : AV → List AV → St → Option (AV × St)) : List ROp → List AV → St → Option (List AV × St)
  | [], ts, S => some (ts, S)
  | o :: l, ts, S => match exec1 E cf cv o ts S with
    | some (ts', S') => execs E cf cv l ts' S'
    | none => none

/-! ### Equality of values, for the checks of an open order -/
mutual
def beq : AV → AV → Bool
  | .bool a, .bool b => a == b
  | .int k a, .int k' b => k == k' && a == b
  | .str a, .str b => a == b
  | .nilp, .nilp => true
  | .ptr a b c, .ptr a' b' c' => a == a' && b == b' && c == c'
  | .cp a o, .cp b o' => beqs a b && o == o'
  | .nils, .nils => true
  | .sl a n e, .sl b n' e' => beqs a b && n == n' && e == e'
  | .ms a b c d e f, .ms a' b' c' d' e' f' => a == a' && b == b' && c == c' && d == d' && e == e' && f == f'
  | .nilm, .nilm => true
  | .mp a, .mp b => a == b
  | .fn f a c, .fn f' b d => f == f' && beqs a b && beqs c d
  | .nilf, .nilf => true
  | .yl a, .yl b => a == b
  | .nili, .nili => true
  | .ifc t a, .ifc u b => t == u && beq a b
  | .agg a, .agg b => beqs a b
  | .tup a, .tup b => beqs a b
  | _, _ => false
def beqs : List AV → List AV → Bool
  | [], [] => true
  | a :: as, b :: bs => beq a b && beqs as bs
  | _, _ => false
end

/-- What a run in the order of the text leaves: for each operation the frame ahead of it; the stores ahead of each writing one (the last first). -/
structure Tr where
  ts : List AV
  S : St
  past : List St

/-- 'make' of a row that is laid ahead. -/
def mkV (E : Env) (ts : List AV) (id : Nat) (z : List AV) (sz bytes : Nat) (l c : OA) : Option AV :=
  match ev E ts l, ev E ts c with
  | .int .i64 l, .int .i64 c => if 0 ≤ l ∧ l ≤ c ∧ c ≤ maxBytes ∧ bytes * c ≤ maxBytes ∧ z.length = sz ∧ z.all oneCell then some (.ms id 0 0 l.toNat sz (l == c)) else none
  | _, _ => none

def msLen : AV → Nat
  | .ms _ _ _ n _ _ => n
  | _ => 0

def execD1 (E : Env) (cf : CallFn) (cv : AV → List AV → St → Option (AV × St)) (base : Nat) (o : ROp) (k : DK) (T : Tr) : Option (AV × Tr) :=
  match wantd T.ts o.gd with
  | none => none
  | some false => some (.tup [], { ts := put T.ts o.dst (.tup []), S := T.S, past := (match k with | .w => T.S :: T.past | _ => T.past) })
  | some true =>
    match k, o.op with
    | .p, .p op => (aopP E T.ts op).map fun v => (v, { ts := put T.ts o.dst v, S := T.S, past := T.past })
    | .r _ _, .d op => (aopD E cf T.ts T.S op).map fun v => (v, { ts := put T.ts o.dst v, S := T.S, past := T.past })
    | .w, op => (aop E cf cv T.ts T.S op).map fun (v, S') => (v, { ts := put T.ts o.dst v, S := S', past := T.S :: T.past })
    | .a ix _ _, .w (.alloc _) => some (.ptr (base + ix) 0 0, { ts := put T.ts o.dst (.ptr (base + ix) 0 0), S := T.S, past := T.past })
    | .a ix _ _, .w (.mks z sz bytes l c) => (mkV E T.ts (base + ix) z sz bytes l c).map fun v => (v, { ts := put T.ts o.dst v, S := T.S, past := T.past })
    | _, _ => none

/-- All, with what each had ahead of it and what it gave. -/
def execD (E : Env) (cf : CallFn) (cv : AV → List AV → St → Option (AV × St)) (base : Nat) : List (ROp × DK) → Tr → Option (List (Tr × AV) × Tr)
  | [], T => some ([], T)
  | (o, k) :: l, T => match execD1 E cf cv base o k T with
    | some (v, T') => match execD E cf cv base l T' with
      | some (es, T'') => some ((T, v) :: es, T'')
      | none => none
    | none => none

/-- Does a reading operation read the same at all stores at which it may stand? 'sts': all stores, the first first. -/
def stable (E : Env) (cf : CallFn) (sts : List St) (lo hi kt : Nat) (ts : List AV) (op : DO) (v : AV) : Bool :=
  if lo = kt ∧ hi = kt then true else
  ((sts.drop lo).take (hi + 1 - lo)).all fun S => match aopD E cf ts S op with
    | none => false
    | some v' => beq v v'

/-- Is a row that is laid as yet unwritten, at all stores at which it may be laid? -/
def unwrit (sts : List St) (lo hi id : Nat) (z : List AV) : Bool :=
  ((sts.drop lo).take (hi + 1 - lo)).all fun S => match S.os[id]? with
    | some (.row 0 cs) => beqs cs z
    | _ => false

def stab1 (E : Env) (cf : CallFn) (base : Nat) (sts : List St) (o : ROp) (k : DK) (T : Tr) (v : AV) : Bool :=
  match wantd T.ts o.gd with
  | some true => (match k, o.op with
    | .r lo hi, .d op => stable E cf sts lo hi T.past.length T.ts op v
    | .a ix lo hi, .w (.alloc z) => unwrit sts lo hi (base + ix) z
    | .a ix lo hi, .w (.mks z _ _ _ _) => unwrit sts lo hi (base + ix) (zerosOf z (msLen v))
    | _, _ => true)
  | _ => true

def stables (E : Env) (cf : CallFn) (base : Nat) (sts : List St) : List (ROp × DK) → List (Tr × AV) → Bool
  | [], _ => true
  | (o, k) :: l, (T, v) :: es => stab1 E cf base sts o k T v && stables E cf base sts l es
  | _ :: _, [] => false

def draw0 (E : Env) (cf : CallFn) (cv : AV → List AV → St → Option (AV × St)) (l : List (ROp × DK)) (zs : List (List AV)) (ts : List AV) (S : St) : Option (List AV × St) :=
  let S0 : St := { S with os := S.os ++ zs.map (.row 0) }
  match execD E cf cv S.os.length l { ts := ts, S := S0, past := [] } with
  | none => none
  | some (es, T) => if stables E cf S.os.length (T.past.reverse ++ [T.S]) l es then some (T.ts, T.S) else none

/-- The 'make's among the operations that are laid ahead: where each leaves its slice, and an element's cells. -/
def mkAt (l : List (ROp × DK)) (ix : Nat) : Option (Nat × List AV) := l.findSome? fun p => match p.2, p.1.op, p.1.dst with
  | .a ix' _ _, .w (.mks z _ _ _ _), some d => if ix' = ix then some (d, z) else none
  | _, _, _ => none
def zsFix (l : List (ROp × DK)) (zs : List (List AV)) (ts : List AV) : List (List AV) := zs.zipIdx.map fun p => match mkAt l p.2 with
  | some (d, z) => zerosOf z (msLen (ts.getD d (.tup [])))
  | none => p.1
def isMkA (p : ROp × DK) : Bool := match p.2, p.1.op with
  | .a _ _ _, .w (.mks _ _ _ _ _) => true
  | _, _ => false
def anyMk (l : List (ROp × DK)) : Bool := l.any isMkA

/-- Where a 'make' stands among them: a first run tells how long the rows are. -/
def draw (E : Env) (cf : CallFn) (cv : AV → List AV → St → Option (AV × St)) (l : List (ROp × DK)) (zs : List (List AV)) (ts : List AV) (S : St) : Option (List AV × St) :=
  if anyMk l then
    match execD E cf cv S.os.length l { ts := ts, S := { S with os := S.os ++ zs.map (.row 0) }, past := [] } with
    | none => none
    | some (_, T) => draw0 E cf cv l (zsFix l zs T.ts) ts S
  else draw0 E cf cv l zs ts S

/-! ### Code -/

def bodyStep (E : Env) (run : RC → List AV → St → Option Out) : RC → List AV → St → Option Out
  | .skip, ts, S => some (.nrm, ts, S)
  | .ops l, ts, S => (execs E (callF E run) (callV E run) l ts S).map fun (ts, S) => (.nrm, ts, S)
  | .draw l zs, ts, S => (draw E (callF E run) (callV E run) l zs ts S).map fun (ts, S) => (.nrm, ts, S)
  | .seq a b, ts, S => match run a ts S with
    | some (.nrm, ts, S) => run b ts S
    | r => r
  | .cond x a b, ts, S => match ev E ts x with
    | .bool true => run a ts S
    | .bool false => run b ts S
    | _ => none
  | .block id b, ts, S => match run b ts S with
    | some (.exit id', ts, S) => if id' = id then some (.nrm, ts, S) else some (.exit id', ts, S)
    | r => r
  | .loop b, ts, S => match run b ts S with
    | some (.nrm, ts, S) => run (.loop b) ts S
    | r => r
  | .bad, _, _ => none
  | .exit id, ts, S => some (.exit id, ts, S)
  | .ret, ts, S => some (.ret, ts, S)
  | .range x ps asg body, ts, S => match ev E ts x with
    | .fn f first cap =>
      match callF E run f (first ++ [.yl S.os.length] ++ cap) (addOb S (.loop ts ps asg body 0 none)) with
      | some (_, S1) => match S1.os[S.os.length]? with
        | some (.loop t1 p1 a1 b1 st pend) => if st = 0 ∨ st = 2 then
            some ((match pend with | none => .nrm | some j => j), ts, setOb S1 S.os.length (.loop t1 p1 a1 b1 3 none)) else none
        | _ => none
      | none => none
    | _ => none

def den (E : Env) : Nat → RC → List AV → St → Option Out
  | 0 => fun _ _ _ => none
  | n + 1 => bodyStep E (den E n)

def call (E : Env) (n : Nat) : CallFn := callF E (den E n)

end Go.Ai


/- From the model's code to the abstract interpreter's. Definitions only. -/
namespace Go.Ai

def ofC : Nat → Value → Option AV
  | 0, _ => none
  | d + 1, v => match v with
    | .bool b => some (.bool b)
    | .int k n => some (.int k n)
    | .string s => some (.str s.data.toList)
    | .pointer none => some .nilp
    | .slice none 0 0 => some .nils
    | .map none => some .nilm
    | .nilFunc => some .nilf
    | .nilIface => some .nili
    | .func (.func f) a b => if a.isEmpty && b.isEmpty then some (.fn f [] []) else none
    | .agg cs => (cs.toList.mapM (ofC d)).map .agg
    | .tuple cs => if cs.isEmpty then some (.tup []) else none
    | _ => none

def oa (x : Operand) : Option OA :=
  match x with
  | .tmp t => some (.t t)
  | .const v => (ofC 3 v).map .c
  | .global g => some (.g g)
  | .func f => some (.c (.fn f [] []))

def oas (l : Array Operand) : Option (List OA) := l.toList.mapM oa
def oaO : Option Operand → Option (Option OA)
  | none => some none
  | some x => (oa x).map some

def aggT (P : Program) (t : TypeId) : Option Bool := do
  match ← P.underlying t with
  | .struct _ | .array _ _ => some true
  | _ => some false

def sizeT (P : Program) (t : TypeId) : Option Nat := (P.info? t).map (·.size)

/-- The zero cells of a type. -/
def zeroT (P : Program) (t : TypeId) : Option (List AV) := do
  let i ← P.info? t
  let z ← i.zero
  let cs ← z.cells.toList.mapM (ofC 2)
  if cs.length = i.size ∧ cs.all oneCell then some cs else none

def placesT (P : Program) (fields : Array Field) : Option (List (Nat × Nat)) := fields.toList.mapM fun f => (P.info? f.type).map fun i => (f.offset, i.size)

def partS (P : Program) (fields : Array Field) (p : Nat × Operand) : Option (Nat × Nat × OA) := do
  let f ← fields[p.1]?
  let s ← sizeT P f.type
  let x ← oa p.2
  some (f.offset, s, x)

def partA (sz : Nat) (p : Nat × Operand) : Option (Nat × Nat × OA) := do
  let x ← oa p.2
  some (p.1 * sz, sz, x)

def kindF (P : Program) (f : Field) : Option Nat :=
  match P.underlying f.type with
  | some (.int _) => some 0
  | some .string => some 1
  | some .bool => some 2
  | _ => none

/-- A struct of fields that are numbers, texts and bools, one cell each, in order. -/
def flat (P : Program) (t : TypeId) : Option (List Nat) :=
  match P.underlying t with
  | some (.struct fs) => if fs.toList.zipIdx.all (fun x => x.1.offset == x.2 && x.1.name != "_") && !P.stoodInHeld t && !P.eqGuardType P.depth t then fs.toList.mapM (kindF P) else none
  | _ => none

def clsT (P : Program) (t : TypeId) : Option (Option Cls) := do
  match ← P.underlying t with
  | .int _ | .string => some none
  | .bool => some (some .bool)
  | .pointer _ => some (some .ptr)
  | .slice _ => some (some .slice)
  | .func _ _ _ => some (some .func)
  | .struct _ => (flat P t).map fun ks => some (.agg ks)
  | _ => none

def isU8 (P : Program) (e : TypeId) : Bool := match P.underlying e with | some (.int .u8) => true | _ => false

def rBuiltin (P : Program) (b : Builtin) (ts : Array TypeId) (args : List OA) : Option AO :=
  match b, args with
  | .append, [x, y] => do
    let st ← ts[0]?
    let .slice e ← P.underlying st | none
    let i ← P.info? e
    if i.size = 0 then none else
    let z ← zeroT P e
    match ts[1]? with
    | none => none
    | some xt => match ← P.underlying xt with
      | .int _ => some (.w (.appZ z i.size i.bytes x y))
      | .slice e' => if e' = e then some (.w (.app i.size i.bytes x y)) else none
      | .string => if isU8 P e ∧ i.size = 1 then some (.w (.app i.size i.bytes x y)) else none
      | _ => none
  | .copy, [x, y] => do
    let st ← ts[0]?
    let .slice e ← P.underlying st | none
    let i ← P.info? e
    if i.size = 0 then none else
    match ts[1]? with
    | none => none
    | some xt => match ← P.underlying xt with
      | .slice e' => if e' = e then some (.w (.copyL i.size x y)) else none
      | _ => none
  | .clear, [x] => do
    let st ← ts[0]?
    let .slice e ← P.underlying st | none
    let i ← P.info? e
    let z ← zeroT P e
    some (.w (.clr z i.size x))
  | .len, [x] => do
    let st ← ts[0]?
    match ← P.underlying st with
    | .string => some (.p (.lenS x))
    | .array n _ => some (.p (.lenC n))
    | .slice _ => some (.p (.lenL x))
    | .pointer a => match P.underlying a with
      | some (.array n _) => some (.p (.lenC n))
      | _ => none
    | _ => none
  | .cap, [x] => do
    let st ← ts[0]?
    match ← P.underlying st with
    | .slice _ => some (.p (.capL x))
    | _ => none
  | .max, x :: xs => some (.p (.maxI x xs))
  | .min, x :: xs => some (.p (.minI x xs))
  | _, _ => none

/-- What is said of a program beside its text: the functions that keep nothing; the slice literals (by function and slot) that are written later. -/
structure Ann where
  pu : Nat → Bool
  mu : Nat → Nat → Bool

def cmpName : String := "internal/bytealg.abigen_runtime_cmpstring"

def isCall : AO → Bool
  | .d (.pcall _ _) | .w (.call _ _) | .w (.callv _ _) => true
  | _ => false

def noCall (x : Option AO) : Option AO := x.bind fun ao => if isCall ao then none else some ao

def rOp0 (P : Program) (mu : Bool) : Op → Option AO
  | .move x | .assign x => do some (.p (.mv (← oa x)))
  | .pick c a b => do some (.p (.pick (← oa c) (← oa a) (← oa b)))
  | .alloc e => do some (.w (.alloc (← zeroT P e)))
  | .box e v => do some (.w (.box (← sizeT P e) (← oa v)))
  | .build t ps => do
    let z ← zeroT P t
    match ← P.underlying t with
    | .struct fs =>
      let _ ← placesT P fs
      some (.p (.build z (← ps.toList.mapM (partS P fs))))
    | .array _ e => some (.p (.build z (← ps.toList.mapM (partA (← sizeT P e)))))
    | _ => none
  | .buildSlice t len ps => do
    let .slice e ← P.underlying t | none
    let sz ← sizeT P e
    let z ← zeroT P e
    if sz = 0 ∨ len * sz > 2 ^ 16 then none else
    let l ← ps.toList.mapM (partA sz)
    some (if mu then .w (.mkr (zerosOf z len) len sz l) else .p (.mkl (zerosOf z len) len sz l))
  | .load t a => do some (.d (.load (← sizeT P t) (← aggT P t) (← oa a)))
  | .store t a v => do some (.w (.store (← sizeT P t) (← oa a) (← oa v)))
  | .nilCheck x => do some (.p (.nchk (← oa x)))
  | .binOp op t x y _ => do
    match ← clsT P t, op with
    | none, op => some (.p (.arith op (← oa x) (← oa y)))
    | some c, .eql => some (.p (.eq false c (← oa x) (← oa y)))
    | some c, .neq => some (.p (.eq true c (← oa x) (← oa y)))
    | _, _ => none
  | .unOp op _ x => do some (.p (.un op (← oa x)))
  | .convert s d x => do
    match ← P.underlying s, ← P.underlying d with
    | .int _, .int k => some (.p (.toInt k (← oa x)))
    | .string, .string => some (.p (.smv (← oa x)))
    | .string, .slice e => if isU8 P e then some (.p (.s2b (← oa x))) else none
    | .slice e, .string => if isU8 P e then some (.d (.b2s (← oa x))) else none
    | _, _ => none
  | .makeFunc (.func f) a b => do some (.p (.mkf f (← oas a) (← oas b)))
  | .makeSlice t l c => do
    let .slice e ← P.underlying t | none
    let i ← P.info? e
    if i.size = 0 then none else
    some (.w (.mks (← zeroT P e) i.size i.bytes (← oa l) (← oa c)))
  | .slice t x lo hi mx => do
    match ← P.underlying t with
    | .string => if mx.isSome then none else some (.p (.slS (← oa x) (← oaO lo) (← oaO hi)))
    | .slice e =>
      let sz ← sizeT P e
      if sz = 0 then none else some (.p (.slL sz (← oa x) (← oaO lo) (← oaO hi) (← oaO mx)))
    | .array n e =>
      let sz ← sizeT P e
      if sz = 0 ∨ mx.isSome then none else some (.d (.slA n sz (← oa x) (← oaO lo) (← oaO hi)))
    | .pointer a =>
      let .array n e ← P.underlying a | none
      let sz ← sizeT P e
      if sz = 0 ∨ mx.isSome then none else some (.d (.slA n sz (← oa x) (← oaO lo) (← oaO hi)))
    | _ => none
  | .fieldAddr s x f => do
    let .struct fs ← P.underlying s | none
    let fd ← fs[f]?
    let sz ← sizeT P fd.type
    if sz = 0 then none else some (.p (.fad fd.offset (← oa x)))
  | .field s x f => do
    let .struct fs ← P.underlying s | none
    let fd ← fs[f]?
    some (.p (.fld fd.offset (← sizeT P fd.type) (← aggT P fd.type) (← oa x)))
  | .indexAddr t x i => do
    match ← P.underlying t with
    | .array n e => some (.p (.iaA n (← sizeT P e) (← oa x) (← oa i)))
    | .slice e =>
      let sz ← sizeT P e
      if sz = 0 then none else some (.p (.iaL sz (← oa x) (← oa i)))
    | _ => none
  | .index t x i => do
    match ← P.underlying t with
    | .array n e => some (.p (.ixA n (← sizeT P e) (← aggT P e) (← oa x) (← oa i)))
    | .string => some (.p (.ixS (← oa x) (← oa i)))
    | _ => none
  | .extract x i => do some (.p (.ext (← oa x) i))
  | _ => none

def rCall (P : Program) (pu : Nat → Bool) (c : Call) : Option AO := do
  let args ← oas c.args
  match c.callee with
  | .builtin b => noCall (rBuiltin P b c.argTypes args)
  | .value (.func f) =>
    let fn ← P.funcs[f]?
    if fn.body.isNone then
      if fn.name == cmpName && (Extern.findNext fn).isNone then (match args with | [x, y] => some (.p (.cmpS x y)) | _ => none) else none
    else if fn.name == "runtime.NumGoroutine" then none
    else some (if pu f then .d (.pcall f args) else .w (.call f args))
  | .value x => do some (.w (.callv (← oa x) args))
  | _ => none

def rOp (P : Program) (pu : Nat → Bool) (mu : Bool) : Op → Option AO
  | .call c => rCall P pu c
  | op => noCall (rOp0 P mu op)

def rOper (P : Program) (an : Ann) (f : Nat) (ops : Array Oper) (o : Oper) : Option ROp := do
  let a := (rOp P an.pu (match o.dst with | some d => an.mu f d | none => false) o.op).getD (.p .bad)
  match o.guard with
  | none => some { dst := o.dst, gd := none, op := a }
  | some (j, w) =>
    let t ← (ops[j]?).bind (·.dst)
    some { dst := o.dst, gd := some (t, w), op := a }

/-! ### Regions whose order is open -/

def edgesOf (o : Oper) : List Nat := (o.after.toList.filter (Region.binds .any ·)).map (·.on)

/-- For each operation the set of those that stand ahead of it in every order, as bits. -/
def masks : List Oper → List Nat → List Nat
  | [], acc => acc
  | o :: r, acc => masks r (acc ++ [(edgesOf o).foldl (fun s e => s ||| 2 ^ e ||| acc.getD e 0) 0])

def oaT : OA → List Nat
  | .t n => [n]
  | _ => []
def oaTO : Option OA → List Nat
  | some x => oaT x
  | none => []

def PO.reads : PO → List Nat
  | .mv x | .smv x | .nchk x | .un _ x | .toInt _ x | .s2b x | .fad _ x | .fld _ _ _ x | .ext x _ | .lenS x | .lenL x | .capL x => oaT x
  | .pick a b c => oaT a ++ oaT b ++ oaT c
  | .build _ ps | .mkl _ _ _ ps => ps.flatMap fun p => oaT p.2.2
  | .arith _ x y | .eq _ _ x y | .iaL _ x y | .iaA _ _ x y | .ixA _ _ _ x y | .ixS x y | .cmpS x y => oaT x ++ oaT y
  | .mkf _ a b => a.flatMap oaT ++ b.flatMap oaT
  | .slS x a b => oaT x ++ oaTO a ++ oaTO b
  | .slL _ x a b c => oaT x ++ oaTO a ++ oaTO b ++ oaTO c
  | .lenC _ | .bad => []
  | .maxI x xs | .minI x xs => oaT x ++ xs.flatMap oaT

def DO.reads : DO → List Nat
  | .load _ _ x | .b2s x | .lenM x => oaT x
  | .slA _ _ x a b => oaT x ++ oaTO a ++ oaTO b
  | .pcall _ args => args.flatMap oaT
  | .lkp _ _ _ m k => oaT m ++ oaT k

def WO.reads : WO → List Nat
  | .alloc _ | .mkm => []
  | .box _ x | .clr _ _ x => oaT x
  | .mkr _ _ _ ps => ps.flatMap fun p => oaT p.2.2
  | .store _ a v | .mks _ _ _ a v | .app _ _ a v | .appZ _ _ _ a v | .copyL _ a v => oaT a ++ oaT v
  | .call _ args => args.flatMap oaT
  | .callv x args => oaT x ++ args.flatMap oaT
  | .mup a b c => oaT a ++ oaT b ++ oaT c

def AO.reads : AO → List Nat
  | .p o => o.reads
  | .d o => o.reads
  | .w o => o.reads

def ROp.reads (o : ROp) : List Nat := (match o.gd with | some (t, _) => [t] | none => []) ++ o.op.reads

def isW : AO → Bool
  | .w (.alloc _) => false
  | .w _ => true
  | _ => false

def isAlloc : AO → Bool
  | .w (.alloc _) => true
  | _ => false

def isMk : AO → Bool
  | .w (.mks _ _ _ _ _) => true
  | _ => false

/-- i stands ahead of j in every order. -/
def ahead (ms : List Nat) (i j : Nat) : Bool := (ms.getD j 0).testBit i

def kindOf (ms : List Nat) (ws as : List Nat) (o : ROp) (i : Nat) : DK :=
  let lo := ws.countP fun w => ahead ms w i
  let hi := ws.countP fun w => !ahead ms i w
  match o.op with
  | .p _ => .p
  | .d _ => .r lo hi
  | .w (.alloc _) => if ws.contains i then .w else .a (as.idxOf i) lo hi
  | .w (.mks _ _ _ _ _) => if ws.contains i then .w else .a (as.idxOf i) lo hi
  | .w _ => .w

def allocOk (ms : List Nat) (ws : List Nat) (i : Nat) : Bool := ws.all fun w => ahead ms w i || ahead ms i w

/-- Names: whoever names a slot that another one fills stands ahead of it, or behind it, in every order; no slot is filled twice. -/
def namesOk (ms : List Nat) (l : List ROp) : Bool :=
  l.zipIdx.all fun x => match x.1.dst with
    | none => true
    | some t => l.zipIdx.all fun y => y.2 == x.2 || (y.1.dst != some t && (!y.1.reads.contains t || ahead ms x.2 y.2 || ahead ms y.2 x.2))

/-- All edges of a mode lead to operations that stand earlier in a list. -/
def ordered (md : Region.Mode) (ops : Array Oper) : List Nat → List Nat → Bool
  | _, [] => true
  | seen, i :: r => (match ops[i]? with
    | some o => o.after.all fun e => !Region.binds md e || seen.contains e.on
    | none => false) && ordered md ops (i :: seen) r

def covers (n : Nat) (l : List Nat) : Bool := (List.range n).all l.contains

/-- Nobody is left over in any order: there is one that lists all. -/
def complete (md : Region.Mode) (ops : Array Oper) (l : List Nat) : Bool := ordered md ops [] l && covers ops.size l

/-- 'make' of a size that stands in the text, where it may stand on either side of a writing operation: zeros that nobody writes. -/
def scalar : AV → Bool
  | .bool _ | .int _ _ | .str _ | .nilp | .nils | .nilm | .nilf | .nili => true
  | _ => false

def calm (ms ws : List Nat) (o : ROp) (i : Nat) : ROp :=
  match o.op with
  | .w (.mks z sz bytes (.c (.int .i64 l)) (.c (.int .i64 c))) =>
    if 0 ≤ l ∧ l = c ∧ l ≤ 4096 ∧ bytes ≤ 4096 ∧ z.length = sz ∧ z.all scalar = true ∧ allocOk ms (ws.filter (· != i)) i = false then { o with op := .p (.mkl (zerosOf z l.toNat) l.toNat sz []) } else o
  | _ => o

def DK.aix : DK → Option Nat
  | .a ix _ _ => some ix
  | _ => none

def isWk (L : List (ROp × DK)) (i : Nat) : Bool :=
  match L[i]? with
  | some (_, .w) => true
  | _ => false

/-- The writing operations. -/
def wsOf (L : List (ROp × DK)) : List Nat := (List.range L.length).filter (isWk L)

def winOk (ms ws : List Nat) (k : DK) (i : Nat) : Bool :=
  match k with
  | .r lo hi | .a _ lo hi => decide (lo ≤ ws.countP fun w => ahead ms w i) && decide ((ws.countP fun w => !ahead ms i w) ≤ hi)
  | _ => true

def isAllocOp : Op → Bool
  | .alloc _ => true
  | .makeSlice _ _ _ => true
  | _ => false

def alOk (ops : Array Oper) (k : DK) (i : Nat) : Bool :=
  match k with
  | .a _ _ _ => (match ops[i]? with
    | some o => isAllocOp o.op
    | none => false)
  | _ => true

/-- What must hold of a region whose order is open: the writing operations follow one another; names; windows; nobody is left over. -/
def okDraw (ops : Array Oper) (ms : List Nat) (L : List (ROp × DK)) (zs : List (List AV)) : Bool :=
  let ws := wsOf L
  ws.all (fun j => ws.all fun i => !decide (i < j) || ahead ms i j) &&
  namesOk ms (L.map (·.1)) &&
  (L.zipIdx.all fun x => winOk ms ws x.1.2 x.2 && alOk ops x.1.2 x.2) &&
  decide (L.filterMap (·.2.aix) = List.range zs.length) &&
  complete .any ops (List.range ops.size) && complete .text ops (List.range ops.size) &&
  (!Region.departs ops || complete .gc ops (Region.linearise .gc ops 0))

def rDraw (P : Program) (an : Ann) (f : Nat) (ops : Array Oper) : Option RC := do
  let l ← ops.toList.mapM (rOper P an f ops)
  let ms := masks ops.toList []
  let v0 := (l.zipIdx.filter fun x => isW x.1.op).map (·.2)
  let l' := l.zipIdx.map fun x => calm ms v0 x.1 x.2
  let w0 := (l'.zipIdx.filter fun x => isW x.1.op).map (·.2)
  -- an allocation that stands at a fixed place among those that write is one of them
  let al := (l'.zipIdx.filter fun x => (isAlloc x.1.op || isMk x.1.op) && !allocOk ms (w0.filter (· != x.2)) x.2).map (·.2)
  let ws := (l'.zipIdx.filter fun x => (isW x.1.op || isAlloc x.1.op) && !al.contains x.2).map (·.2)
  let zs := (l'.zipIdx.filter fun x => al.contains x.2).filterMap fun x => match x.1.op with | .w (.alloc z) => some z | .w (.mks _ _ _ _ _) => some [] | _ => none
  let L := l.zipIdx.map fun x => (calm ms v0 x.1 x.2, kindOf ms ws al (calm ms v0 x.1 x.2) x.2)
  if okDraw ops ms L zs then some (.draw L zs) else none

/-- 'inr': within a round of a range over a function (no further one stands there). -/
def rCode (P : Program) (an : Ann) (f : Nat) (inr : Bool) : Code → Option RC
  | .skip => some .skip
  | .region _ ops false => (ops.toList.mapM (rOper P an f ops)).map .ops
  | .region _ ops true => some ((rDraw P an f ops).getD .bad)
  | .seq a b => do some (.seq (← rCode P an f inr a) (← rCode P an f inr b))
  | .cond c a b => do some (.cond (← oa c) (← rCode P an f inr a) (← rCode P an f inr b))
  | .block id b => do some (.block id (← rCode P an f inr b))
  | .loop b => do some (.loop (← rCode P an f inr b))
  | .exit id => some (.exit id)
  | .ret => some .ret
  | .rangeFunc g ps a b => if inr then some .bad else do some (.range (← oa g) ps.toList (← rCode P an f true a) (← rCode P an f true b))
  | _ => some .bad

def rRes (P : Program) : ResultVar → Option RRes
  | .tmp t => some (.t t)
  | .cell a t => do some (.cell a (← sizeT P t) (← aggT P t))

def rFun (P : Program) (an : Ann) (f : Nat) : Option RF := do
  let fn ← P.funcs[f]?
  let b ← fn.body
  if fn.name == "runtime.NumGoroutine" then none else
  some { nt := fn.ntmps, res := ← fn.results.toList.mapM (rRes P), pure := an.pu f, body := ← rCode P an f false b }

end Go.Ai


/- A run leaves the part of the store below 'lo' alone. -/
namespace Go.Ai
variable {E : Env} {ts : List AV} {S S' : St}

structure Pres (S S' : St) : Prop where
  lo : S'.lo = S.lo
  len : S.os.length ≤ S'.os.length
  os : S.lo ≤ S.os.length → ∀ id, id < S.lo → S'.os[id]? = S.os[id]?

theorem Pres.refl (S : St) : Pres S S := ⟨rfl, Nat.le_refl _, fun _ _ _ => rfl⟩
theorem Pres.trans {S S' S'' : St} (h : Pres S S') (h' : Pres S' S'') : Pres S S'' :=
  ⟨h'.lo.trans h.lo, Nat.le_trans h.len h'.len, fun hw id hid => (h'.os (by rw [h.lo]; exact Nat.le_trans hw h.len) id (by rw [h.lo]; exact hid)).trans (h.os hw id hid)⟩

theorem Pres.add (o : Ob) : Pres S (addOb S o) := ⟨rfl, by simp [addOb], fun hw id hid => by simp only [addOb]; rw [List.getElem?_append_left (by omega)]⟩
theorem Pres.adds (l : List Ob) : Pres S { S with os := S.os ++ l } := ⟨rfl, by simp, fun hw id hid => by simp only; rw [List.getElem?_append_left (by omega)]⟩
theorem Pres.set {id : Nat} {o : Ob} (h : S.lo ≤ id) : Pres S (setOb S id o) := ⟨rfl, by simp [setOb], fun _ i hi => by simp only [setOb]; rw [List.getElem?_set_ne (by omega)]⟩

def RunPres (run : RC → List AV → St → Option Out) : Prop := ∀ rc ts S j ts' S', run rc ts S = some (j, ts', S') → Pres S S'
def CfPres (cf : CallFn) : Prop := ∀ f args S v S', cf f args S = some (v, S') → Pres S S'
def CvPres (cv : AV → List AV → St → Option (AV × St)) : Prop := ∀ f args S v S', cv f args S = some (v, S') → Pres S S'

theorem stCells_pres {a : AV} {vs : List AV} (h : stCells S a vs = some S') : Pres S S' := by
  unfold stCells at h
  split at h <;> try (cases h; done)
  split at h <;> try (cases h; done)
  split at h <;> cases h
  rename_i hb
  exact Pres.set hb.1

theorem appOf_pres {sz bytes m : Nat} {x v : AV} {ys : List AV} (h : appOf S sz bytes x ys m = some (v, S')) : Pres S S' := by
  unfold appOf at h
  split at h
  · split at h <;> cases h <;> exact Pres.refl _
  · simp only [Option.bind_eq_some_iff] at h
    obtain ⟨_, _, h⟩ := h
    split at h <;> try (cases h; done)
    split at h <;> try (cases h; done)
    · cases h; exact Pres.add _
    · cases h; exact Pres.add _
    · cases h; exact Pres.add _
    · split at h <;> cases h
      exact Pres.set (by assumption)

theorem aopW_pres {cf : CallFn} {cv : AV → List AV → St → Option (AV × St)} (hf : CfPres cf) (hv : CvPres cv) {o : WO} {v : AV} (h : aopW E cf cv ts S o = some (v, S')) : Pres S S' := by
  cases o <;> simp only [aopW, reduceCtorEq] at h
  case alloc z => split at h <;> cases h; exact Pres.add _
  case box sz x => split at h <;> cases h; exact Pres.add _
  case store sz a x =>
    split at h <;> try (cases h; done)
    simp only [Option.map_eq_some_iff] at h
    obtain ⟨S2, h2, h⟩ := h
    cases h
    exact stCells_pres h2
  case mkr z len sz ps =>
    split at h <;> try (cases h; done)
    simp only [Option.bind_eq_some_iff] at h
    obtain ⟨_, _, h⟩ := h
    split at h <;> cases h
    exact Pres.add _
  case mks z sz bytes l c =>
    split at h <;> try (cases h; done)
    split at h <;> cases h
    exact Pres.add _
  case app sz bytes x y =>
    simp only [Option.bind_eq_some_iff] at h
    obtain ⟨_, _, h⟩ := h
    exact appOf_pres h
  case appZ z sz bytes x n =>
    split at h <;> try (cases h; done)
    split at h <;> try (cases h; done)
    exact appOf_pres h
  case copyL sz d s =>
    simp only [Option.bind_eq_some_iff] at h
    obtain ⟨_, _, h⟩ := h
    split at h <;> try (cases h; done)
    · cases h; exact Pres.refl _
    · split at h <;> cases h; exact Pres.refl _
    · split at h <;> try (cases h; done)
      simp only [Option.map_eq_some_iff] at h
      obtain ⟨S2, h2, h⟩ := h
      cases h
      exact stCells_pres h2
  case clr z sz x =>
    split at h <;> try (cases h; done)
    · cases h; exact Pres.refl _
    · split at h <;> try (cases h; done)
      simp only [Option.map_eq_some_iff] at h
      obtain ⟨S2, h2, h⟩ := h
      cases h
      exact stCells_pres h2
    · split at h <;> cases h; exact Pres.refl _
  case call f args => exact hf _ _ _ _ _ h
  case callv x args => exact hv _ _ _ _ _ h

theorem aop_pres {cf : CallFn} {cv : AV → List AV → St → Option (AV × St)} (hf : CfPres cf) (hv : CvPres cv) {o : AO} {v : AV} (h : aop E cf cv ts S o = some (v, S')) : Pres S S' := by
  cases o with
  | p o => simp only [aop, Option.map_eq_some_iff] at h; obtain ⟨_, _, h⟩ := h; cases h; exact Pres.refl _
  | d o => simp only [aop, Option.map_eq_some_iff] at h; obtain ⟨_, _, h⟩ := h; cases h; exact Pres.refl _
  | w o => exact aopW_pres hf hv h

theorem exec1_pres {cf : CallFn} {cv : AV → List AV → St → Option (AV × St)} (hf : CfPres cf) (hv : CvPres cv) {o : ROp} {ts' : List AV} (h : exec1 E cf cv o ts S = some (ts', S')) : Pres S S' := by
  unfold exec1 at h
  split at h <;> try (cases h; done)
  · cases h; exact Pres.refl _
  · simp only [Option.map_eq_some_iff] at h
    obtain ⟨⟨v, S2⟩, h1, h⟩ := h
    cases h
    exact aop_pres hf hv h1

theorem execs_pres {cf : CallFn} {cv : AV → List AV → St → Option (AV × St)} (hf : CfPres cf) (hv : CvPres cv) : ∀ {l : List ROp} {ts ts' : List AV} {S S' : St}, execs E cf cv l ts S = some (ts', S') → Pres S S'
  | [], _, _, _, _, h => by cases h; exact Pres.refl _
  | o :: l, ts, ts', S, S', h => by
    simp only [execs] at h
    split at h <;> try (cases h; done)
    rename_i h1
    exact (exec1_pres hf hv h1).trans (execs_pres hf hv h)

theorem execD1_pres {cf : CallFn} {cv : AV → List AV → St → Option (AV × St)} (hf : CfPres cf) (hv : CvPres cv) {base : Nat} {o : ROp} {k : DK} {T T' : Tr} {v : AV} (h : execD1 E cf cv base o k T = some (v, T')) : Pres T.S T'.S := by
  unfold execD1 at h
  split at h <;> try (cases h; done)
  · cases h; exact Pres.refl _
  · split at h <;> try (cases h; done)
    · simp only [Option.map_eq_some_iff] at h; obtain ⟨_, _, h⟩ := h; cases h; exact Pres.refl _
    · simp only [Option.map_eq_some_iff] at h; obtain ⟨_, _, h⟩ := h; cases h; exact Pres.refl _
    · simp only [Option.map_eq_some_iff] at h
      obtain ⟨⟨v, S2⟩, h1, h⟩ := h
      cases h
      exact aop_pres hf hv h1
    · cases h; exact Pres.refl _
    · simp only [Option.map_eq_some_iff] at h; obtain ⟨_, _, h⟩ := h; cases h; exact Pres.refl _

theorem execD_pres {cf : CallFn} {cv : AV → List AV → St → Option (AV × St)} (hf : CfPres cf) (hv : CvPres cv) {base : Nat} : ∀ {l : List (ROp × DK)} {T T' : Tr} {es : List (Tr × AV)}, execD E cf cv base l T = some (es, T') → Pres T.S T'.S
  | [], _, _, _, h => by cases h; exact Pres.refl _
  | (o, k) :: l, T, T', es, h => by
    simp only [execD] at h
    split at h <;> try (cases h; done)
    rename_i h1
    split at h <;> cases h
    rename_i h2
    exact (execD1_pres hf hv h1).trans (execD_pres hf hv h2)

theorem draw0_pres {cf : CallFn} {cv : AV → List AV → St → Option (AV × St)} (hf : CfPres cf) (hv : CvPres cv) {l : List (ROp × DK)} {zs : List (List AV)} {ts' : List AV} (h : draw0 E cf cv l zs ts S = some (ts', S')) : Pres S S' := by
  simp only [draw0] at h
  split at h <;> try (cases h; done)
  rename_i h1
  split at h <;> cases h
  exact (Pres.adds _).trans (execD_pres hf hv h1)

theorem draw_inv {cf : CallFn} {cv : AV → List AV → St → Option (AV × St)} {l : List (ROp × DK)} {zs : List (List AV)} {r : List AV × St} (h : draw E cf cv l zs ts S = some r) : ∃ zs', zs'.length = zs.length ∧ draw0 E cf cv l zs' ts S = some r := by
  unfold draw at h
  split at h
  · split at h
    · cases h
    · exact ⟨_, by simp [zsFix], h⟩
  · exact ⟨zs, rfl, h⟩

theorem draw_pres {cf : CallFn} {cv : AV → List AV → St → Option (AV × St)} (hf : CfPres cf) (hv : CvPres cv) {l : List (ROp × DK)} {zs : List (List AV)} {ts' : List AV} (h : draw E cf cv l zs ts S = some (ts', S')) : Pres S S' := by
  obtain ⟨zs', _, h'⟩ := draw_inv h
  exact draw0_pres hf hv h'

theorem callF_pres {run : RC → List AV → St → Option Out} (hr : RunPres run) : CfPres (callF E run) := by
  intro f args S v S' h
  unfold callF at h
  split at h <;> try (cases h; done)
  rename_i rf hrf
  split at h <;> try (cases h; done)
  rename_i j ts S1 _ hrun
  simp only [Option.bind_eq_some_iff] at h
  obtain ⟨v1, _, h⟩ := h
  split at h
  · simp only [Option.map_eq_some_iff] at h
    obtain ⟨_, _, h⟩ := h
    cases h
    exact Pres.refl _
  · rename_i hp
    cases h
    rw [if_neg hp] at hrun
    exact hr _ _ _ _ _ _ hrun

theorem yieldF_pres {run : RC → List AV → St → Option Out} (hr : RunPres run) {id : Nat} {args : List AV} {v : AV} (h : yieldF run id args S = some (v, S')) : Pres S S' := by
  unfold yieldF at h
  split at h <;> try (cases h; done)
  split at h <;> try (cases h; done)
  rename_i hb
  split at h <;> try (cases h; done)
  rename_i h1
  have p1 := hr _ _ _ _ _ _ h1
  have hlo : ∀ S1 : St, Pres S S1 → S1.lo ≤ id := fun S1 p => by rw [p.lo]; exact hb.1
  split at h <;> try (cases h; done)
  split at h <;> try (cases h; done)
  rename_i h2
  split at h <;> cases h
  have p2 := p1.trans ((Pres.set (hlo _ p1)).trans (hr _ _ _ _ _ _ h2))
  exact p2.trans (Pres.set (hlo _ p2))

theorem callV_pres {run : RC → List AV → St → Option Out} (hr : RunPres run) : CvPres (callV E run) := by
  intro x args S v S' h
  unfold callV at h
  split at h <;> try (cases h; done)
  · exact callF_pres hr _ _ _ _ _ h
  · exact yieldF_pres hr h

theorem bodyStep_pres {run : RC → List AV → St → Option Out} (hr : RunPres run) : RunPres (bodyStep E run) := by
  intro rc ts S j ts' S' h
  cases rc <;> simp only [bodyStep, reduceCtorEq] at h
  case skip => cases h; exact Pres.refl _
  case ops l =>
    simp only [Option.map_eq_some_iff] at h
    obtain ⟨⟨_, _⟩, h1, h⟩ := h
    cases h
    exact execs_pres (callF_pres hr) (callV_pres hr) h1
  case draw l zs =>
    simp only [Option.map_eq_some_iff] at h
    obtain ⟨⟨_, _⟩, h1, h⟩ := h
    cases h
    exact draw_pres (callF_pres hr) (callV_pres hr) h1
  case seq a b =>
    split at h
    · rename_i h1
      exact (hr _ _ _ _ _ _ h1).trans (hr _ _ _ _ _ _ h)
    · exact hr _ _ _ _ _ _ h
  case cond x a b =>
    split at h <;> try (cases h; done)
    · exact hr _ _ _ _ _ _ h
    · exact hr _ _ _ _ _ _ h
  case block id b =>
    split at h
    · rename_i h1
      have := hr _ _ _ _ _ _ h1
      split at h <;> cases h <;> exact this
    · exact hr _ _ _ _ _ _ h
  case loop b =>
    split at h
    · rename_i h1
      exact (hr _ _ _ _ _ _ h1).trans (hr _ _ _ _ _ _ h)
    · exact hr _ _ _ _ _ _ h
  case exit id => cases h; exact Pres.refl _
  case ret => cases h; exact Pres.refl _
  case range x ps asg body =>
    split at h <;> try (cases h; done)
    split at h <;> try (cases h; done)
    rename_i h1
    split at h <;> try (cases h; done)
    split at h <;> cases h
    have p1 := (Pres.add _).trans (callF_pres hr _ _ _ _ _ h1)
    refine ⟨p1.lo, by simpa [setOb] using p1.len, fun hw i hi => ?_⟩
    simp only [setOb]
    rw [List.getElem?_set_ne (by omega)]
    exact p1.os hw i hi

theorem den_pres : ∀ n, RunPres (den E n)
  | 0 => by intro rc ts S j ts' S' h; simp [den] at h
  | n + 1 => bodyStep_pres (den_pres n)

end Go.Ai


/- The abstract interpreter's values and store against the model's: the relation, and how it lasts. -/
namespace Go.Ai

/-- Whose a block is: nobody's yet; nobody's any more who writes; a running loop's mark; an object's. -/
inductive Tag where
  | free | keep | mark | obj (id : Nat)

/-- Where a row lies: its block, its first cell, and where its room ends. -/
structure Loc where
  b : Nat
  o : Nat
  e : Nat

structure KW where
  own : Nat → Tag
  mu : Nat → Nat → Loc
  al : Nat → Nat
  ub : Nat → Bool

inductive VR (K : KW) (w : World) : AV → Value → Prop where
  | bool (b : Bool) : VR K w (.bool b) (.bool b)
  | int (k : IntKind) (n : Int) : VR K w (.int k n) (.int k n)
  | str (s : List UInt8) : VR K w (.str s) (.string ⟨⟨s⟩⟩)
  | nilp : VR K w .nilp (.pointer none)
  | ptr (id ver off : Nat) (h : ver < K.al id) : VR K w (.ptr id ver off) (.pointer (some ⟨(K.mu id ver).b, (K.mu id ver).o + off, none⟩))
  | cp (cs : List AV) (off b o : Nat) (vs : List Value) (hl : vs.length = cs.length)
      (hc : ∀ (j : Nat) v, vs[j]? = some v → K.own b = .keep ∧ w.cell? ⟨b, o + j, none⟩ = some v ∧ v.oneCell' = true)
      (h : ∀ (j : Nat) a v, cs[j]? = some a → vs[j]? = some v → VR K w a v) : VR K w (.cp cs off) (.pointer (some ⟨b, o + off, none⟩))
  | nils : VR K w .nils (.slice none 0 0)
  | sl (cs : List AV) (n : Nat) (ex : Bool) (b o cap : Nat) (sp : Option Nat) (vs : List Value) (hn : n ≤ cap) (hx : ex = true → cap = n) (hs : sp = none ∨ vs = []) (hl : vs.length = cs.length)
      (hc : ∀ (j : Nat) v, vs[j]? = some v → K.own b = .keep ∧ w.cell? ⟨b, o + j, none⟩ = some v ∧ v.oneCell' = true)
      (h : ∀ (j : Nat) a v, cs[j]? = some a → vs[j]? = some v → VR K w a v) : VR K w (.sl cs n ex) (.slice (some ⟨b, o, sp⟩) n cap)
  | nsl (ex : Bool) : VR K w (.sl [] 0 ex) (.slice none 0 0)
  | ms (id ver off n sz : Nat) (ex : Bool) (b o cap : Nat) (h : ver < K.al id) (hn : n ≤ cap) (hx : ex = true → cap = n)
      (ha : cap = 0 ∨ (b = (K.mu id ver).b ∧ o = (K.mu id ver).o + off ∧ (K.mu id ver).o + off + cap * sz ≤ (K.mu id ver).e)) :
      VR K w (.ms id ver off n sz ex) (.slice (some ⟨b, o, none⟩) n cap)
  | nilm : VR K w .nilm (.map none)
  | mp (id : Nat) (h : 0 < K.al id) : VR K w (.mp id) (.map (some (K.mu id 0).b))
  | fn (f : Nat) (x c : List AV) (xs cs : List Value) (hx : xs.length = x.length) (hc : cs.length = c.length)
      (h1 : ∀ (j : Nat) a v, x[j]? = some a → xs[j]? = some v → VR K w a v) (h2 : ∀ (j : Nat) a v, c[j]? = some a → cs[j]? = some v → VR K w a v) :
      VR K w (.fn f x c) (.func (.func f) ⟨xs⟩ ⟨cs⟩)
  | nilf : VR K w .nilf .nilFunc
  | yl (id : Nat) (h : 0 < K.al id) : VR K w (.yl id) (.func (.yield (K.mu id 0).b) #[] #[])
  | nili : VR K w .nili .nilIface
  | ifc (t : Nat) (a : AV) (v : Value) (h : VR K w a v) : VR K w (.ifc t a) (.iface t v)
  | agg (cs : List AV) (vs : List Value) (hl : vs.length = cs.length) (h : ∀ (j : Nat) a v, cs[j]? = some a → vs[j]? = some v → VR K w a v) : VR K w (.agg cs) (.agg ⟨vs⟩)
  | tup (cs : List AV) (vs : List Value) (hl : vs.length = cs.length) (h : ∀ (j : Nat) a v, cs[j]? = some a → vs[j]? = some v → VR K w a v) : VR K w (.tup cs) (.tuple ⟨vs⟩)

/-- Lists of values, one by one. -/
def VRs (K : KW) (w : World) (cs : List AV) (vs : List Value) : Prop := vs.length = cs.length ∧ ∀ (j : Nat) a v, cs[j]? = some a → vs[j]? = some v → VR K w a v

/-- A row's cells, where they lie. -/
def RowAt (K : KW) (w : World) (B : Nat) (id : Nat) (l : Loc) (cs : List AV) : Prop :=
  ∃ (c : List Value) (el : TypeId), w.heap[l.b]? = some (.cells ⟨c⟩ el (0, 0)) ∧ B ≤ l.b ∧ K.own l.b = .obj id ∧ l.o + cs.length ≤ l.e ∧ l.e ≤ c.length ∧
    (∀ v ∈ c, v.oneCell' = true) ∧ ∀ (j : Nat) a, cs[j]? = some a → ∃ v, c[l.o + j]? = some v ∧ VR K w a v

def jcode : J → Option Code
  | .nrm => none
  | .exit id => some (.exit id)
  | .ret => some .ret

def stOf (n : Nat) : LoopState := match n with | 0 => .ready | 1 => .busy | _ => .done

def ObOk (P : Program) (an : Ann) (B : Nat) (K : KW) (w : World) (id : Nat) : Ob → Prop
  | .row ver cs => (K.ub id = true ∧ K.al id = 0) ∨ (K.ub id = false ∧ K.al id = ver + 1 ∧ RowAt K w B id (K.mu id ver) cs)
  | .loop ts ps asg body st pend => K.al id = 1 ∧ B ≤ (K.mu id 0).b ∧ K.own (K.mu id 0).b = .obj id ∧
      ∃ (r : Loop) (f : Nat), w.heap[(K.mu id 0).b]? = some (.loop r) ∧ r.params.toList = ps ∧ VRs K w ts r.tmps.toList ∧ rCode P an f true r.assign = some asg ∧ rCode P an f true r.body = some body ∧
        (st = 0 → r.state = .ready ∧ r.pending = none ∧ pend = none) ∧ (st = 1 → r.state = .busy ∧ pend = none) ∧ (st = 2 → r.state = .done ∧ ∃ j, pend = some j ∧ r.pending = jcode j ∧ (jcode j).isSome = true)
  | .map _ _ => True

/-- The store, and the world. -/
structure Inv (P : Program) (an : Ann) (B : Nat) (K : KW) (w : World) (S : St) : Prop where
  base : B ≤ w.heap.size
  fresh : ∀ b, K.own b ≠ .free → b < w.heap.size
  old : ∀ b, b < B → K.own b = .keep
  beyond : ∀ id, S.os.length ≤ id → K.al id = 0 ∧ K.ub id = false
  obs : ∀ id o, S.os[id]? = some o → ObOk P an B K w id o

structure ExtV (K : KW) (w : World) (K' : KW) (w' : World) : Prop where
  keep : ∀ b, K.own b = .keep → K'.own b = .keep ∧ w'.heap[b]? = w.heap[b]?
  al : ∀ id v, v < K.al id → v < K'.al id ∧ K'.mu id v = K.mu id v

structure Ext (K : KW) (w : World) (K' : KW) (w' : World) : Prop where
  keep : ∀ b, (K.own b = .keep ∨ K.own b = .mark) → K'.own b = K.own b ∧ w'.heap[b]? = w.heap[b]?
  al : ∀ id v, v < K.al id → v < K'.al id ∧ K'.mu id v = K.mu id v
  ub : ∀ id, K.ub id = true → K'.ub id = true
  size : w.heap.size ≤ w'.heap.size
  os : w'.os = w.os
  tape : w'.tape = w.tape
  output : w'.output = w.output

theorem Ext.v {K K' : KW} {w w' : World} (h : Ext K w K' w') : ExtV K w K' w' := ⟨fun b hb => ⟨(h.keep b (.inl hb)).1.trans hb, (h.keep b (.inl hb)).2⟩, h.al⟩

theorem Ext.refl (K : KW) (w : World) : Ext K w K w := ⟨fun _ _ => ⟨rfl, rfl⟩, fun _ _ h => ⟨h, rfl⟩, fun _ h => h, Nat.le_refl _, rfl, rfl, rfl⟩

theorem Ext.trans {K K' K'' : KW} {w w' w'' : World} (h : Ext K w K' w') (h' : Ext K' w' K'' w'') : Ext K w K'' w'' :=
  ⟨fun b hb => by
     have h1 := h.keep b hb
     have h2 := h'.keep b (by rw [h1.1]; exact hb)
     exact ⟨h2.1.trans h1.1, h2.2.trans h1.2⟩,
   fun id v hv => ⟨(h'.al id v (h.al id v hv).1).1, (h'.al id v (h.al id v hv).1).2.trans (h.al id v hv).2⟩,
   fun id hu => h'.ub id (h.ub id hu), Nat.le_trans h.size h'.size, h'.os.trans h.os, h'.tape.trans h.tape, h'.output.trans h.output⟩

theorem ExtV.cell {K K' : KW} {w w' : World} (h : ExtV K w K' w') {b o : Nat} (hb : K.own b = .keep) : w'.cell? ⟨b, o, none⟩ = w.cell? ⟨b, o, none⟩ :=
  World.cell?_of_block (h.keep b hb).2

theorem VR.extv {K K' : KW} {w w' : World} (h : ExtV K w K' w') {a : AV} {v : Value} (r : VR K w a v) : VR K' w' a v := by
  induction r with
  | bool b => exact .bool b
  | int k n => exact .int k n
  | str s => exact .str s
  | nilp => exact .nilp
  | ptr id ver off hv =>
    have := h.al id ver hv
    rw [← this.2]
    exact .ptr id ver off this.1
  | cp cs off b o vs hl hc _ ih =>
    exact .cp cs off b o vs hl (fun j v hv => ⟨(h.keep b (hc j v hv).1).1, (h.cell (hc j v hv).1).trans (hc j v hv).2.1, (hc j v hv).2.2⟩) ih
  | nils => exact .nils
  | nsl ex => exact .nsl ex
  | sl cs n ex b o cap sp vs hn hx hs hl hc _ ih =>
    exact .sl cs n ex b o cap sp vs hn hx hs hl (fun j v hv => ⟨(h.keep b (hc j v hv).1).1, (h.cell (hc j v hv).1).trans (hc j v hv).2.1, (hc j v hv).2.2⟩) ih
  | ms id ver off n sz ex b o cap hv hn hx ha =>
    have := h.al id ver hv
    exact .ms id ver off n sz ex b o cap this.1 hn hx (by rw [this.2]; exact ha)
  | nilm => exact .nilm
  | mp id hv =>
    have := h.al id 0 hv
    rw [← this.2]
    exact .mp id this.1
  | fn f x c xs cs hx hc _ _ ih1 ih2 => exact .fn f x c xs cs hx hc ih1 ih2
  | nilf => exact .nilf
  | yl id hv =>
    have := h.al id 0 hv
    rw [← this.2]
    exact .yl id this.1
  | nili => exact .nili
  | ifc t a v _ ih => exact .ifc t a v ih
  | agg cs vs hl _ ih => exact .agg cs vs hl ih
  | tup cs vs hl _ ih => exact .tup cs vs hl ih

theorem VR.ext {K K' : KW} {w w' : World} (h : Ext K w K' w') {a : AV} {v : Value} (r : VR K w a v) : VR K' w' a v := r.extv h.v

theorem VRs.extv {K K' : KW} {w w' : World} (h : ExtV K w K' w') {a : List AV} {v : List Value} (r : VRs K w a v) : VRs K' w' a v :=
  ⟨r.1, fun j a v ha hv => (r.2 j a v ha hv).extv h⟩

theorem VRs.ext {K K' : KW} {w w' : World} (h : Ext K w K' w') {a : List AV} {v : List Value} (r : VRs K w a v) : VRs K' w' a v :=
  ⟨r.1, fun j a v ha hv => (r.2 j a v ha hv).ext h⟩

theorem VRs.nil {K : KW} {w : World} : VRs K w [] [] := ⟨rfl, fun _ _ _ h => by simp at h⟩

theorem VRs.cons {K : KW} {w : World} {a : AV} {v : Value} {as : List AV} {vs : List Value} (h : VR K w a v) (hs : VRs K w as vs) : VRs K w (a :: as) (v :: vs) := by
  refine ⟨by simp [hs.1], fun j x y hx hy => ?_⟩
  cases j with
  | zero => simp at hx hy; subst hx; subst hy; exact h
  | succ j => simp at hx hy; exact hs.2 j x y hx hy

theorem VRs.append {K : KW} {w : World} {as bs : List AV} {vs us : List Value} (h : VRs K w as vs) (hs : VRs K w bs us) : VRs K w (as ++ bs) (vs ++ us) := by
  refine ⟨by simp [h.1, hs.1], fun j x y hx hy => ?_⟩
  by_cases hj : j < as.length
  · rw [List.getElem?_append_left hj] at hx
    rw [List.getElem?_append_left (h.1 ▸ hj)] at hy
    exact h.2 j x y hx hy
  · rw [List.getElem?_append_right (by omega)] at hx
    rw [List.getElem?_append_right (by have := h.1; omega)] at hy
    exact hs.2 _ x y hx (h.1 ▸ hy)

theorem VRs.drop {K : KW} {w : World} {as : List AV} {vs : List Value} (n : Nat) (h : VRs K w as vs) : VRs K w (as.drop n) (vs.drop n) := by
  refine ⟨by simp [h.1], fun j x y hx hy => ?_⟩
  rw [List.getElem?_drop] at hx hy
  exact h.2 _ x y hx hy

theorem VRs.take {K : KW} {w : World} {as : List AV} {vs : List Value} (n : Nat) (h : VRs K w as vs) : VRs K w (as.take n) (vs.take n) := by
  refine ⟨by simp [h.1], fun j x y hx hy => ?_⟩
  rw [List.getElem?_take] at hx hy
  split at hx
  · rename_i hj; rw [if_pos hj] at hy; exact h.2 _ x y hx hy
  · simp at hx

theorem VRs.set {K : KW} {w : World} {as : List AV} {vs : List Value} {a : AV} {v : Value} (n : Nat) (h : VRs K w as vs) (hv : VR K w a v) : VRs K w (as.set n a) (vs.set n v) := by
  refine ⟨by simp [h.1], fun j x y hx hy => ?_⟩
  by_cases hj : n = j
  · subst hj
    by_cases hl : n < as.length
    · rw [List.getElem?_set_self hl] at hx
      rw [List.getElem?_set_self (by rw [h.1]; exact hl)] at hy
      cases hx; cases hy; exact hv
    · rw [List.getElem?_eq_none (by simp; omega)] at hx; cases hx
  · rw [List.getElem?_set_ne hj] at hx hy
    exact h.2 _ x y hx hy

theorem VRs.get {K : KW} {w : World} {as : List AV} {vs : List Value} (h : VRs K w as vs) {j : Nat} {a : AV} (ha : as[j]? = some a) : ∃ v, vs[j]? = some v ∧ VR K w a v := by
  have hj : j < as.length := (List.getElem?_eq_some_iff.1 ha).1
  have hj' : j < vs.length := by rw [h.1]; exact hj
  exact ⟨vs[j], List.getElem?_eq_getElem hj', h.2 j a _ ha (List.getElem?_eq_getElem hj')⟩

theorem VRs.cells {K : KW} {w : World} {a : AV} {v : Value} (h : VR K w a v) : VRs K w (cellsOf a) v.cells.toList := by
  cases h with
  | agg cs vs hl h => exact ⟨hl, h⟩
  | _ => refine VRs.cons ?_ VRs.nil; constructor <;> assumption

theorem VR.one {K : KW} {w : World} {a : AV} {v : Value} (h : VR K w a v) (ho : oneCell a = true) : v.oneCell' = true := by
  cases h <;> simp_all [oneCell, Value.oneCell']

theorem VRs.one {K : KW} {w : World} {as : List AV} {vs : List Value} (h : VRs K w as vs) (ho : as.all oneCell = true) : ∀ v ∈ vs, v.oneCell' = true := by
  intro v hv
  obtain ⟨j, hj, rfl⟩ := List.mem_iff_getElem.1 hv
  have hj' : j < as.length := by rw [← h.1]; exact hj
  have := h.2 j as[j] vs[j] (List.getElem?_eq_getElem hj') (List.getElem?_eq_getElem hj)
  exact this.one (List.all_eq_true.1 ho _ (List.getElem_mem hj'))

end Go.Ai


/- How the relation between the abstract store and the world lasts when memory is made or written. -/
namespace Go.Ai
variable {P : Program} {an : Ann} {B : Nat} {K : KW} {w w' : World} {S : St}

structure Meta (w w' : World) : Prop where
  os : w'.os = w.os
  tape : w'.tape = w.tape
  output : w'.output = w.output

theorem Meta.refl (w : World) : Meta w w := ⟨rfl, rfl, rfl⟩

theorem RowAt.lasts {K' : KW} {id : Nat} {l : Loc} {cs : List AV} (h : RowAt K w B id l cs) (he : ExtV K w K' w')
    (hb : K.own l.b = .obj id → K'.own l.b = .obj id ∧ w'.heap[l.b]? = w.heap[l.b]?) : RowAt K' w' B id l cs := by
  obtain ⟨c, el, hh, hB, ho, h1, h2, h3, h4⟩ := h
  obtain ⟨ho', hh'⟩ := hb ho
  exact ⟨c, el, hh'.trans hh, hB, ho', h1, h2, h3, fun j a ha => let ⟨v, hv, hr⟩ := h4 j a ha; ⟨v, hv, hr.extv he⟩⟩

theorem ObOk.lasts {K' : KW} {id : Nat} {o : Ob} (h : ObOk P an B K w id o) (he : ExtV K w K' w') (hal : K'.al id = K.al id) (hub : K'.ub id = K.ub id)
    (hb : ∀ b, K.own b = .obj id → K'.own b = .obj id ∧ w'.heap[b]? = w.heap[b]?) : ObOk P an B K' w' id o := by
  cases o with
  | row ver cs =>
    rcases h with h | ⟨h0, h, hr⟩
    · exact .inl ⟨hub.trans h.1, hal.trans h.2⟩
    · refine .inr ⟨hub.trans h0, hal.trans h, ?_⟩
      have := (he.al id ver (by omega)).2
      rw [this]
      exact hr.lasts he (hb _)
  | loop ts ps asg body st pend =>
    obtain ⟨h1, hB, ho, r, f, hh, hp, hts, ha, hbo, h0, h1', h2⟩ := h
    have := (he.al id 0 (by omega)).2
    refine ⟨hal.trans h1, ?_, ?_, r, f, ?_, hp, hts.extv he, ha, hbo, h0, h1', h2⟩
    · rw [this]; exact hB
    · rw [this]; exact (hb _ ho).1
    · rw [this]; exact (hb _ ho).2.trans hh
  | map es c => trivial

/-- New blocks that nobody writes. -/
theorem keepNew (hI : Inv P an B K w S) (hsz : w.heap.size ≤ w'.heap.size) (hb : ∀ b, b < w.heap.size → w'.heap[b]? = w.heap[b]?) (hm : Meta w w') :
    ∃ K', Ext K w K' w' ∧ Inv P an B K' w' S ∧ (∀ b, w.heap.size ≤ b → b < w'.heap.size → K'.own b = .keep) ∧ K'.al = K.al ∧ K'.mu = K.mu := by
  refine ⟨{ K with own := fun b => if w.heap.size ≤ b ∧ b < w'.heap.size then .keep else K.own b }, ?_, ?_, fun b h1 h2 => by simp [h1, h2], rfl, rfl⟩
  · refine ⟨fun b hk => ?_, fun id v h => ⟨h, rfl⟩, fun _ h => h, hsz, hm.os, hm.tape, hm.output⟩
    have hlt := hI.fresh b (by rcases hk with hk | hk <;> simp [hk])
    exact ⟨by simp only; rw [if_neg (by omega)], hb b hlt⟩
  · have hE : Ext K w { K with own := fun b => if w.heap.size ≤ b ∧ b < w'.heap.size then .keep else K.own b } w' := by
      refine ⟨fun b hk => ?_, fun id v h => ⟨h, rfl⟩, fun _ h => h, hsz, hm.os, hm.tape, hm.output⟩
      have hlt := hI.fresh b (by rcases hk with hk | hk <;> simp [hk])
      exact ⟨by simp only; rw [if_neg (by omega)], hb b hlt⟩
    refine ⟨Nat.le_trans hI.base hsz, fun b h => ?_, fun b h => ?_, hI.beyond, fun id o ho => (hI.obs id o ho).lasts hE.v rfl rfl fun b h => ?_⟩
    · simp only at h
      split at h
      · omega
      · exact Nat.lt_of_lt_of_le (hI.fresh b h) hsz
    · simp only
      split
      · rfl
      · exact hI.old b h
    · have hlt := hI.fresh b (by simp [h])
      refine ⟨?_, hb b hlt⟩
      simp only
      rw [if_neg (by omega)]
      exact h

/-- A new block that is a new row of the store. -/
theorem newRow (hI : Inv P an B K w S) (c : List Value) (el : TypeId) (cs : List AV) (hw : w'.heap[w.heap.size]? = some (.cells ⟨c⟩ el (0, 0)))
    (hb : ∀ b, b < w.heap.size → w'.heap[b]? = w.heap[b]?) (hm : Meta w w') (hone : ∀ v ∈ c, v.oneCell' = true)
    (hlen : cs.length ≤ c.length) (hr : ∀ (j : Nat) a, cs[j]? = some a → ∃ v, c[j]? = some v ∧ VR K w a v) :
    ∃ K', Ext K w K' w' ∧ Inv P an B K' w' (addOb S (.row 0 cs)) ∧ K'.al S.os.length = 1 ∧ K'.mu S.os.length 0 = ⟨w.heap.size, 0, c.length⟩ := by
  have hsz : w.heap.size < w'.heap.size := (Array.getElem?_eq_some_iff.1 hw).1
  have hb0 := hI.beyond S.os.length (Nat.le_refl _)
  have hE : Ext K w { own := fun b => if b = w.heap.size then .obj S.os.length else K.own b, mu := fun id v => if id = S.os.length then ⟨w.heap.size, 0, c.length⟩ else K.mu id v, al := fun id => if id = S.os.length then 1 else K.al id, ub := K.ub } w' := by
    refine ⟨fun b hk => ?_, fun id v h => ?_, fun _ h => h, Nat.le_of_lt hsz, hm.os, hm.tape, hm.output⟩
    · have := hI.fresh b (by rcases hk with hk | hk <;> simp [hk])
      exact ⟨by simp only; rw [if_neg (by omega)], hb b this⟩
    · have : id ≠ S.os.length := fun e => by subst e; have := hb0.1; omega
      simp [this, h]
  refine ⟨_, hE, ?_, by simp, by simp⟩
  refine ⟨Nat.le_trans hI.base (Nat.le_of_lt hsz), fun b h => ?_, fun b h => ?_, fun id h => ?_, fun id o ho => ?_⟩
  · simp only at h
    split at h
    · omega
    · exact Nat.lt_trans (hI.fresh b h) hsz
  · simp only
    have := hI.base
    rw [if_neg (by omega)]
    exact hI.old b h
  · simp [addOb] at h
    have : id ≠ S.os.length := by omega
    simp only [this, if_false]
    exact hI.beyond id (by omega)
  · by_cases hid : id = S.os.length
    · subst hid
      have : o = .row 0 cs := by simpa [addOb] using ho.symm
      subst this
      refine .inr ⟨hb0.2, by simp, ?_⟩
      simp only [if_true]
      refine ⟨c, el, hw, hI.base, by simp, by simpa using hlen, Nat.le_refl _, hone, fun j a ha => ?_⟩
      obtain ⟨v, hv, hvr⟩ := hr j a ha
      exact ⟨v, by simpa using hv, hvr.ext hE⟩
    · have ho' : S.os[id]? = some o := by
        have hlt : id < (S.os ++ [Ob.row 0 cs]).length := (List.getElem?_eq_some_iff.1 ho).1
        simp at hlt
        simp only [addOb] at ho
        rwa [List.getElem?_append_left (by omega)] at ho
      refine (hI.obs id o ho').lasts hE.v (by simp [hid]) rfl fun b h => ?_
      have hlt := hI.fresh b (by simp [h])
      exact ⟨by simp only; rw [if_neg (by omega)]; exact h, hb b hlt⟩

theorem setOb_get {id : Nat} {o : Ob} (h : id < S.os.length) : (setOb S id o).os[id]? = some o := by simp [setOb, h]

/-- A row's cells turn. -/
theorem updRow (hI : Inv P an B K w S) {id ver : Nat} {cs cs' : List AV} (hid : S.os[id]? = some (.row ver cs)) (hal : K.al id = ver + 1)
    {c c' : List Value} {el : TypeId} (hh : w.heap[(K.mu id ver).b]? = some (.cells ⟨c⟩ el (0, 0))) (hB : B ≤ (K.mu id ver).b) (ho : K.own (K.mu id ver).b = .obj id)
    (hh' : w'.heap[(K.mu id ver).b]? = some (.cells ⟨c'⟩ el (0, 0))) (hb : ∀ b, b ≠ (K.mu id ver).b → w'.heap[b]? = w.heap[b]?) (hsz : w'.heap.size = w.heap.size) (hm : Meta w w')
    (hone : ∀ v ∈ c', v.oneCell' = true) (h1 : (K.mu id ver).o + cs'.length ≤ (K.mu id ver).e) (h2 : (K.mu id ver).e ≤ c'.length)
    (hr : ∀ (j : Nat) a, cs'[j]? = some a → ∃ v, c'[(K.mu id ver).o + j]? = some v ∧ VR K w a v) :
    Ext K w K w' ∧ Inv P an B K w' (setOb S id (.row ver cs')) := by
  have hE : Ext K w K w' := ⟨fun b hk => ⟨rfl, hb b (fun e => by rw [e, ho] at hk; rcases hk with hk | hk <;> cases hk)⟩, fun _ _ h => ⟨h, rfl⟩, fun _ h => h, by omega, hm.os, hm.tape, hm.output⟩
  have hlt : id < S.os.length := (List.getElem?_eq_some_iff.1 hid).1
  refine ⟨hE, by rw [hsz]; exact hI.base, fun b h => by rw [hsz]; exact hI.fresh b h, hI.old, fun i h => hI.beyond i (by simpa [setOb] using h), fun i o hi => ?_⟩
  by_cases e : i = id
  · subst e
    rw [setOb_get hlt] at hi
    cases hi
    have hub : K.ub i = false := by
      rcases hI.obs i _ hid with h | h
      · omega
      · exact h.1
    exact .inr ⟨hub, hal, c', el, hh', hB, ho, h1, h2, hone, fun j a ha => let ⟨v, hv, hvr⟩ := hr j a ha; ⟨v, hv, hvr.ext hE⟩⟩
  · have hi' : S.os[i]? = some o := by simpa [setOb, List.getElem?_set_ne (Ne.symm e)] using hi
    refine (hI.obs i o hi').lasts hE.v rfl rfl fun b h => ⟨h, hb b fun eb => ?_⟩
    rw [eb, ho] at h
    cases h
    exact e rfl

/-- A row is told anew, one version on: at another place of its block, or in a new block. -/
theorem verRow (hI : Inv P an B K w S) {id ver : Nat} {cs cs' : List AV} (hid : S.os[id]? = some (.row ver cs)) (hal : K.al id = ver + 1) (l : Loc)
    {c' : List Value} {el : TypeId} (hB : B ≤ l.b) (hl : K.own l.b = .obj id ∨ w.heap.size ≤ l.b)
    (hh' : w'.heap[l.b]? = some (.cells ⟨c'⟩ el (0, 0))) (hb : ∀ b, b ≠ l.b → b < w.heap.size → w'.heap[b]? = w.heap[b]?) (hsz : w.heap.size ≤ w'.heap.size) (hm : Meta w w')
    (hone : ∀ v ∈ c', v.oneCell' = true) (h1 : l.o + cs'.length ≤ l.e) (h2 : l.e ≤ c'.length)
    (hr : ∀ (j : Nat) a, cs'[j]? = some a → ∃ v, c'[l.o + j]? = some v ∧ VR K w a v) :
    ∃ K', Ext K w K' w' ∧ Inv P an B K' w' (setOb S id (.row (ver + 1) cs')) ∧ K'.al id = ver + 2 ∧ K'.mu id (ver + 1) = l := by
  have hlt : id < S.os.length := (List.getElem?_eq_some_iff.1 hid).1
  have hne : ∀ b, (K.own b = .keep ∨ K.own b = .mark) → b ≠ l.b := fun b hk e => by
    subst e
    rcases hl with h | h
    · rw [h] at hk; rcases hk with hk | hk <;> cases hk
    · have := hI.fresh l.b (by rcases hk with hk | hk <;> simp [hk]); omega
  have hE : Ext K w { own := fun b => if b = l.b then .obj id else K.own b, mu := fun i v => if i = id ∧ v = ver + 1 then l else K.mu i v, al := fun i => if i = id then ver + 2 else K.al i, ub := K.ub } w' := by
    refine ⟨fun b hk => ⟨by simp only; rw [if_neg (hne b hk)], hb b (hne b hk) (hI.fresh b (by rcases hk with hk | hk <;> simp [hk]))⟩, fun i v h => ?_, fun _ h => h, hsz, hm.os, hm.tape, hm.output⟩
    simp only
    by_cases e : i = id
    · subst e
      rw [if_pos rfl, if_neg (by omega)]
      exact ⟨by omega, rfl⟩
    · simp [e, h]
  refine ⟨_, hE, ?_, by simp, by simp⟩
  refine ⟨Nat.le_trans hI.base hsz, fun b h => ?_, fun b h => ?_, fun i h => ?_, fun i o hi => ?_⟩
  · simp only at h
    split at h
    · rename_i e; subst e; exact (Array.getElem?_eq_some_iff.1 hh').1
    · exact Nat.lt_of_lt_of_le (hI.fresh b h) hsz
  · simp only
    have := hI.base
    rw [if_neg (by omega)]
    exact hI.old b h
  · have : i ≠ id := fun e => by subst e; simp [setOb] at h; omega
    simp only [this, if_false]
    exact hI.beyond i (by simpa [setOb] using h)
  · by_cases e : i = id
    · subst e
      rw [setOb_get hlt] at hi
      cases hi
      have hub : K.ub i = false := by
        rcases hI.obs i _ hid with h | h
        · omega
        · exact h.1
      refine .inr ⟨hub, by simp, ?_⟩
      simp only [and_self, if_true]
      exact ⟨c', el, hh', hB, by simp, h1, h2, hone, fun j a ha => let ⟨v, hv, hvr⟩ := hr j a ha; ⟨v, hv, hvr.ext hE⟩⟩
    · have hi' : S.os[i]? = some o := by simpa [setOb, List.getElem?_set_ne (Ne.symm e)] using hi
      refine (hI.obs i o hi').lasts hE.v (by simp [e]) rfl fun b h => ?_
      have hbl : b ≠ l.b := fun eb => by
        subst eb
        rcases hl with h' | h'
        · rw [h'] at h; cases h; exact e rfl
        · have := hI.fresh l.b (by simp [h]); omega
      exact ⟨by simp only; rw [if_neg hbl]; exact h, hb b hbl (hI.fresh b (by simp [h]))⟩

end Go.Ai


/- The operations that only look at their operands: the abstract interpreter's answer is the model's (1). -/
namespace Go.Ai

/-- What is at hand when an operation is run. -/
structure Cx (P : Program) (an : Ann) (B : Nat) (K : KW) (w : World) (S : St) (E : Env) (ts : List AV) (tm : Array Value) : Prop where
  inv : Inv P an B K w S
  ts : VRs K w ts tm.toList
  env : ∀ g, VR K w (E.gv g) (.pointer (some ⟨g, 0, none⟩))

/-- An operation's end: a value that is the abstract one, in a world that is the abstract store. -/
def Good (P : Program) (an : Ann) (B : Nat) (K : KW) (w : World) (r : Result Next) (v : AV) (S' : St) : Prop :=
  ∃ K' w' v', (r = .ok (.value v') w' ∨ (r = .ok .skip w' ∧ v' = undef)) ∧ Ext K w K' w' ∧ Inv P an B K' w' S' ∧ VR K' w' v v'

variable {P : Program} {an : Ann} {B : Nat} {K : KW} {w : World} {S : St} {E : Env} {ts : List AV} {a : Act}

theorem Good.same {r : Result Next} {v : AV} {v' : Value} (hI : Inv P an B K w S) (hr : r = .ok (.value v') w) (h : VR K w v v') : Good P an B K w r v S :=
  ⟨K, w, v', .inl hr, Ext.refl K w, hI, h⟩

theorem VR.undef : VR K w (.tup []) undef := .tup [] [] rfl (fun _ _ _ h => by simp at h)

theorem mapM_get {α β : Type} {f : α → Option β} : ∀ {l : List α} {r : List β}, l.mapM f = some r → r.length = l.length ∧ ∀ (j : Nat) b, r[j]? = some b → ∃ a, l[j]? = some a ∧ f a = some b
  | [], r, h => by simp at h; subst h; simp
  | a :: l, r, h => by
    simp [List.mapM_cons, Option.bind_eq_some_iff] at h
    obtain ⟨b, hb, bs, hbs, rfl⟩ := h
    have ih := mapM_get hbs
    refine ⟨by simp [ih.1], fun j x hx => ?_⟩
    cases j with
    | zero => simp at hx; subst hx; exact ⟨a, by simp, hb⟩
    | succ j => simp at hx; simpa using ih.2 j x hx

theorem ofC_rel : ∀ (d : Nat) (v : Value) (x : AV), ofC d v = some x → VR K w x v := by
  intro d
  induction d with
  | zero => intro v x h; simp [ofC] at h
  | succ d ih =>
    intro v x h
    unfold ofC at h
    split at h <;> try (cases h; done)
    all_goals first
      | (cases h; constructor; done)
      | skip
    · split at h
      · rename_i f a b hab
        simp only [Bool.and_eq_true, Array.isEmpty_iff] at hab
        obtain ⟨rfl, rfl⟩ := hab
        cases h
        exact .fn f [] [] [] [] rfl rfl (fun _ _ _ h => by simp at h) (fun _ _ _ h => by simp at h)
      · cases h
    · rename_i cs
      simp only [Option.map_eq_some_iff] at h
      obtain ⟨l, hl, rfl⟩ := h
      have hg := mapM_get hl
      exact .agg l cs.toList hg.1.symm (fun j a v ha hv => by
        obtain ⟨v', hv', hf⟩ := hg.2 j a ha
        rw [hv] at hv'; cases hv'
        exact ih _ _ hf)
    · rename_i cs
      split at h
      · rename_i hc
        simp only [Array.isEmpty_iff] at hc
        subst hc
        cases h
        exact VR.undef
      · cases h

theorem Cx.opd (C : Cx P an B K w S E ts a.tmps) {y : Operand} {x : OA} (h : oa y = some x) : VR K w (ev E ts x) (a.eval y) := by
  cases y with
  | tmp t =>
    simp [oa] at h; subst h
    simp only [Ai.ev, Act.eval]
    by_cases ht : t < ts.length
    · have ht' : t < a.tmps.toList.length := by rw [C.ts.1]; exact ht
      have := C.ts.2 t ts[t] a.tmps.toList[t] (List.getElem?_eq_getElem ht) (List.getElem?_eq_getElem ht')
      have hs : t < a.tmps.size := by simpa using ht'
      simpa [List.getD, ht, Array.getD, hs] using this
    · have ht' : ¬ t < a.tmps.size := Nat.not_lt.2 (by have := C.ts.1; rw [Array.length_toList] at this; rw [this]; exact Nat.le_of_not_lt ht)
      simp [List.getD, List.getElem?_eq_none (Nat.le_of_not_lt ht), Array.getD, ht']
      exact VR.undef
  | const v =>
    simp only [oa, Option.map_eq_some_iff] at h
    obtain ⟨c, hc, rfl⟩ := h
    exact ofC_rel 3 v c hc
  | global g => simp [oa] at h; subst h; exact C.env g
  | func f => simp [oa] at h; subst h; exact .fn f [] [] [] [] rfl rfl (fun _ _ _ h => by simp at h) (fun _ _ _ h => by simp at h)

theorem Cx.opds (C : Cx P an B K w S E ts a.tmps) {ys : Array Operand} {xs : List OA} (h : oas ys = some xs) : VRs K w (xs.map (ev E ts)) (ys.map a.eval).toList := by
  have hg := mapM_get h
  refine ⟨by simp [hg.1], fun j x v hx hv => ?_⟩
  simp only [List.getElem?_map, Option.map_eq_some_iff] at hx
  obtain ⟨x0, hx0, rfl⟩ := hx
  obtain ⟨y, hy, hf⟩ := hg.2 j x0 hx0
  have : (ys.map a.eval).toList[j]? = some (a.eval y) := by simp at hy; simp [hy]
  rw [this] at hv; cases hv
  exact C.opd hf

/-! ### One by one -/

theorem snd_move {o : Oper} {x : Operand} {y : OA} (C : Cx P an B K w S E ts a.tmps) (ho : o.op = .move x ∨ o.op = .assign x) (hx : oa x = some y) :
    Good P an B K w ((execOp a.eval o).run P w) (ev E ts y) S := by
  refine Good.same C.inv ?_ (C.opd hx)
  rcases ho with ho | ho <;> simp [execOp, ho]

theorem snd_pick {o : Oper} {c x y : Operand} {c' x' y' : OA} {v : AV} (C : Cx P an B K w S E ts a.tmps) (ho : o.op = .pick c x y) (hc : oa c = some c') (hx : oa x = some x') (hy : oa y = some y')
    (he : aopP E ts (.pick c' x' y') = some v) : Good P an B K w ((execOp a.eval o).run P w) v S := by
  simp only [aopP] at he
  have hcv := C.opd hc
  split at he
  · rename_i t ht
    rw [ht] at hcv
    have hcc : a.eval c = .bool t := by generalize a.eval c = z at hcv; cases hcv; rfl
    cases he
    refine Good.same C.inv (v' := if t then a.eval x else a.eval y) ?_ ?_
    · simp [execOp, ho, hcc, asBool]
    · cases t
      · exact C.opd hy
      · exact C.opd hx
  · cases he

theorem snd_nchk {o : Oper} {x : Operand} {x' : OA} {v : AV} (C : Cx P an B K w S E ts a.tmps) (ho : o.op = .nilCheck x) (hx : oa x = some x') (he : aopP E ts (.nchk x') = some v) :
    Good P an B K w ((execOp a.eval o).run P w) v S := by
  simp only [aopP] at he
  split at he <;> cases he
  rename_i hn
  refine Good.same C.inv (v' := a.eval x) ?_ (C.opd hx)
  have hr := C.opd hx
  simp only [execOp, ho]
  generalize a.eval x = z at hr ⊢
  generalize hz : ev E ts x' = q at hr hn
  cases hr <;> simp_all [isNonNil]

theorem int_inv {v : Value} {k : IntKind} {n : Int} (h : VR K w (.int k n) v) : v = .int k n := by cases h; rfl
theorem bool_inv {v : Value} {b : Bool} (h : VR K w (.bool b) v) : v = .bool b := by cases h; rfl
theorem str_inv {v : Value} {s : List UInt8} (h : VR K w (.str s) v) : v = .string ⟨⟨s⟩⟩ := by cases h; rfl

theorem string_eq (s : ByteArray) (t : List UInt8) : s = ⟨⟨t⟩⟩ ↔ s.data.toList = t := by
  constructor
  · rintro rfl; rfl
  · rintro rfl; rfl

theorem bytes_toList (s : List UInt8) : (⟨⟨s⟩⟩ : ByteArray).toList = s := by
  have h : ∀ (n i : Nat) (r : List UInt8), i + n = s.length → ByteArray.toList.loop ⟨⟨s⟩⟩ i r = r.reverse ++ s.drop i := by
    intro n
    induction n with
    | zero => intro i r h; rw [ByteArray.toList.loop]; simp [ByteArray.size, h.symm]
    | succ n ih =>
      intro i r h
      rw [ByteArray.toList.loop]
      have hi : i < s.length := by omega
      have hg : (⟨⟨s⟩⟩ : ByteArray).get! i = s[i] := by simp [ByteArray.get!, hi]
      simp only [ByteArray.size, List.size_toArray, hi, if_true]
      rw [ih (i + 1) _ (by omega), hg, List.drop_eq_getElem_cons hi]
      simp
  have := h s.length 0 [] (by omega)
  simpa [ByteArray.toList] using this

theorem run_intOp {op : BinOp} {k : IntKind} {x y : Int} {t : TypeId} {v : AV} (h1 : op ≠ .shl) (h2 : op ≠ .shr) (h : intOp op k x y = some v) :
    ∃ v', (binOp op t (.int k x) (.int k y)).run P w = .ok v' w ∧ VR K w v v' := by
  cases op <;> simp only [intOp] at h
  case shl => exact absurd rfl h1
  case shr => exact absurd rfl h2
  case add => cases h; exact ⟨_, by rw [binOp_add]; rfl, VR.int _ _⟩
  case sub => cases h; exact ⟨_, by rw [binOp_sub]; rfl, VR.int _ _⟩
  case mul => cases h; exact ⟨_, by rw [binOp_mul]; rfl, VR.int _ _⟩
  case quo =>
    split at h <;> cases h
    rename_i hb
    exact ⟨_, by rw [binOp_quo]; simp [Op.intDiv, hb], VR.int _ _⟩
  case rem =>
    split at h <;> cases h
    rename_i hb
    exact ⟨_, by rw [binOp_rem]; simp [Op.intDiv, hb], VR.int _ _⟩
  case and => cases h; exact ⟨_, by rw [binOp_and]; rfl, VR.int _ _⟩
  case or => cases h; exact ⟨_, by rw [binOp_or]; rfl, VR.int _ _⟩
  case xor => cases h; exact ⟨_, by rw [binOp_xor]; rfl, VR.int _ _⟩
  case andNot => cases h; exact ⟨_, by rw [binOp_andNot]; rfl, VR.int _ _⟩
  case eql => cases h; exact ⟨_, by rw [binOp_eql]; rfl, VR.bool _⟩
  case neq => cases h; exact ⟨_, by rw [binOp_neq]; rfl, VR.bool _⟩
  case lss => cases h; exact ⟨_, by rw [binOp_lss]; rfl, VR.bool _⟩
  case leq => cases h; exact ⟨_, by rw [binOp_leq]; rfl, VR.bool _⟩
  case gtr => cases h; exact ⟨_, by rw [binOp_gtr]; rfl, VR.bool _⟩
  case geq => cases h; exact ⟨_, by rw [binOp_geq]; rfl, VR.bool _⟩

theorem run_strOp {op : BinOp} {x y : List UInt8} {t : TypeId} {v : AV} (h : strOp op x y = some v) :
    ∃ v', (binOp op t (.string ⟨⟨x⟩⟩) (.string ⟨⟨y⟩⟩)).run P w = .ok v' w ∧ VR K w v v' := by
  have hb : binOp op t (.string ⟨⟨x⟩⟩) (.string ⟨⟨y⟩⟩) = Op.stringOp op ⟨⟨x⟩⟩ ⟨⟨y⟩⟩ := by cases op <;> rfl
  rw [hb]
  cases op <;> simp only [strOp] at h <;> try (cases h; done)
  case add =>
    split at h <;> cases h
    rename_i hs
    have : ¬ (9223372036854775807 < (x.length : Int) + (y.length : Int)) := by omega
    refine ⟨.string ⟨⟨x ++ y⟩⟩, ?_, VR.str _⟩
    simp only [Op.stringOp]
    have e : (⟨⟨x⟩⟩ ++ ⟨⟨y⟩⟩ : ByteArray) = ⟨⟨x ++ y⟩⟩ := by
      apply ByteArray.ext
      rw [ByteArray.data_append]
      simp
    rw [e]
    simp [ByteArray.size, this]
  all_goals
    cases h
    refine ⟨_, ?_, VR.bool _⟩
    simp only [Op.stringOp, bytes_toList]
    rfl

theorem eqGuard_int {op : BinOp} {t : TypeId} {x y : Operand} {k : IntKind} {n : Int} {v : Value} : (eqGuard op t x y (.int k n) v).run P w = .ok () w := by rw [eqGuard_at_int]; rfl
theorem eqGuard_str {op : BinOp} {t : TypeId} {x y : Operand} {s : ByteArray} {v : Value} : (eqGuard op t x y (.string s) v).run P w = .ok () w := by rw [eqGuard_at_string]; rfl

theorem snd_arith {o : Oper} {op : BinOp} {t u : TypeId} {x y : Operand} {x' y' : OA} {v : AV} (C : Cx P an B K w S E ts a.tmps) (ho : o.op = .binOp op t x y u) (hx : oa x = some x') (hy : oa y = some y')
    (he : aopP E ts (.arith op x' y') = some v) : Good P an B K w ((execOp a.eval o).run P w) v S := by
  simp only [aopP] at he
  have rx := C.opd hx
  have ry := C.opd hy
  generalize ev E ts x' = p at he rx
  generalize ev E ts y' = q at he ry
  unfold arith at he
  split at he
  · rename_i k n k' m
    have ex := int_inv rx
    have ey := int_inv ry
    have hrun : ((execOp a.eval o).run P w) = ((binOp op t (.int k n) (.int k' m)).run P w).andThen fun v w' => .ok (.value v) w' := by
      simp [execOp, ho, ex, ey, eqGuard_int]
    rw [hrun]
    split at he
    · split at he <;> cases he
      rename_i hm
      refine Good.same C.inv ?_ (VR.int _ _)
      simp [binOp, Op.shift, hm]
    · split at he <;> cases he
      rename_i hm
      refine Good.same C.inv ?_ (VR.int _ _)
      simp [binOp, Op.shift, hm]
    · split at he
      · rename_i n1 n2 hk
        subst hk
        obtain ⟨v', hv', hr⟩ := run_intOp (P := P) (w := w) (t := t) (fun e => n1 e) (fun e => n2 e) he
        exact Good.same C.inv (by rw [hv']; rfl) hr
      · cases he
  · rename_i s r
    have ex := str_inv rx
    have ey := str_inv ry
    obtain ⟨v', hv', hr⟩ := run_strOp (P := P) (w := w) (K := K) (t := t) he
    refine Good.same C.inv (v' := v') ?_ hr
    simp [execOp, ho, ex, ey, eqGuard_str, hv']
  · cases he

theorem snd_un {o : Oper} {op : UnOp} {t : TypeId} {x : Operand} {x' : OA} {v : AV} (C : Cx P an B K w S E ts a.tmps) (ho : o.op = .unOp op t x) (hx : oa x = some x')
    (he : aopP E ts (.un op x') = some v) : Good P an B K w ((execOp a.eval o).run P w) v S := by
  simp only [aopP] at he
  have rx := C.opd hx
  generalize ev E ts x' = p at he rx
  unfold unOf at he
  split at he <;> try (cases he; done)
  · have ex := int_inv rx
    cases he
    refine Good.same C.inv ?_ (VR.int _ _)
    simp [execOp, ho, ex, Op.unary, Op.intArith]
  · have ex := int_inv rx
    simp only [intOp] at he
    cases he
    refine Good.same C.inv ?_ (VR.int _ _)
    simp [execOp, ho, ex, Op.unary, Op.intBits]
  · have ex := bool_inv rx
    cases he
    refine Good.same C.inv ?_ (VR.bool _)
    simp [execOp, ho, ex, Op.unary]

theorem snd_toInt {o : Oper} {s d : TypeId} {ks k : IntKind} {x : Operand} {x' : OA} {v : AV} (C : Cx P an B K w S E ts a.tmps) (ho : o.op = .convert s d x) (hs : P.underlying s = some (.int ks)) (hd : P.underlying d = some (.int k)) (hx : oa x = some x')
    (he : aopP E ts (.toInt k x') = some v) : Good P an B K w ((execOp a.eval o).run P w) v S := by
  simp only [aopP] at he
  have rx := C.opd hx
  generalize ev E ts x' = p at he rx
  split at he <;> cases he
  have ex := int_inv rx
  refine Good.same C.inv ?_ (VR.int _ _)
  simp [execOp, ho, ex, convert, run_underlying hs, run_underlying hd, Conv.intToInt]

theorem snd_strstr {o : Oper} {s d : TypeId} {x : Operand} {x' : OA} {s' : List UInt8} (C : Cx P an B K w S E ts a.tmps) (ho : o.op = .convert s d x) (hs : P.underlying s = some .string) (hd : P.underlying d = some .string) (hx : oa x = some x')
    (hv : ev E ts x' = .str s') : Good P an B K w ((execOp a.eval o).run P w) (ev E ts x') S := by
  have rx := C.opd hx
  refine Good.same C.inv (v' := a.eval x) ?_ rx
  rw [hv] at rx
  have ex := str_inv rx
  simp [execOp, ho, ex, convert, run_underlying hs, run_underlying hd]

theorem snd_mkf {o : Oper} {f : FuncId} {x y : Array Operand} {x' y' : List OA} (C : Cx P an B K w S E ts a.tmps) (ho : o.op = .makeFunc (.func f) x y) (hx : oas x = some x') (hy : oas y = some y') :
    Good P an B K w ((execOp a.eval o).run P w) (.fn f (x'.map (ev E ts)) (y'.map (ev E ts))) S := by
  have h1 := C.opds hx
  have h2 := C.opds hy
  refine Good.same C.inv (v' := .func (.func f) (x.map a.eval) (y.map a.eval)) ?_ ?_
  · simp [execOp, ho, Instr.makeFunc]
  · exact .fn f _ _ (x.map a.eval).toList (y.map a.eval).toList h1.1 h2.1 h1.2 h2.2

theorem snd_ext {o : Oper} {x : Operand} {x' : OA} {i : Nat} {v : AV} (C : Cx P an B K w S E ts a.tmps) (ho : o.op = .extract x i) (hx : oa x = some x') (he : aopP E ts (.ext x' i) = some v) :
    Good P an B K w ((execOp a.eval o).run P w) v S := by
  simp only [aopP] at he
  have rx := C.opd hx
  generalize ev E ts x' = p at he rx
  generalize hz : a.eval x = z at rx
  cases rx <;> simp at he
  rename_i cs vs hl h
  obtain ⟨v', hv', hr⟩ := VRs.get ⟨hl, h⟩ he
  refine Good.same C.inv (v' := v') ?_ hr
  simp [execOp, ho, hz, Instr.extract, hv']

end Go.Ai

